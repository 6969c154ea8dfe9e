import PyProof.Rows.All
import Wide.All
import OpenK.AllK
import Wide.FinOn
import PyProof.EqAt
import PyProof.EqKinds
import PyProof.TupleCall
import KE.KStateDown
import HandS.ForMost
import HandS.ForExc
import HandS.More
import HandS.Wide
import HandS.Style
import HandS.TupAny
import HandS.IsInst
import HandS.Defaults
import HandS.Conv
import HandS.Steps
import HandS.Codes
import HandS.Head0
import HandS.Head1
import HandS.Head2
import HandS.HeadEnd
import HandS.HeadHook1
import HandS.HeadHook2
import HandS.ExcInit
import HandS.ExcField
import HandS.CallSlots
import HandS.TryMany
import HandS.HeadHook3
import HandS.HeadHook4
import KE.GoesEnum
import PyProof.Draws
import PyProof.EnumMake
import HandS.Comp
import HandS.Iter
import HandS.Zip
import HandS.ListItems
import HandS.ListEq
import HandS.Deep
import HandS.DictComp
import HandS.RaiseMore
import HandS.WordsDict
import HandS.FStr
import HandS.RaiseOp
import HandS.StrMore
import HandS.MakeKwOnly
import HandS.MakeKw
import HandS.Small
import HandS.RaiseFrom
import KE.KCallOwn
import HandS.DictTup
import KE.DataFind
import HandS.Finally
import KE.GoesComp
import HandS.ReplaceLit
import HandS.TupLe
import PySem.Challenge.RW_dialweir_k36_whole_ring_or_none
set_option Elab.async false
set_option linter.all false
set_option maxRecDepth 100000
set_option maxHeartbeats 4000000
namespace DW
open PySem L2
section
variable {X : Cx}
/-- // by any divisor but 0, of less than 9000 bits -/
def CDivX (_ j : Int) : Prop := j ≠ 0 ∧ j.natAbs.log2 < 9000
theorem op_fdivX : OpR X (binaryOp .FloorDiv) (rI CDivX fun i j => .int (i.fdiv j)) :=
  opI fun _ _ _ _ _ _ _ hc q => PyProof.Rows.floordiv_int hc.1 q (.inl (PyProof.noPylong_of_log2 hc.2))
end
def Fr (K : PySem.W.Frag) (S : List Addr) (H H' : Hp) : Prop := (∀ a o, a ∉ S → H a = some o → H' a = some o) ∧ ∀ a xs, SqT K H a xs → SqT K H' a xs
theorem Same.tup {K : PySem.W.Frag} {H H' : Hp} {a : Addr} {xs : List V} (e : Same H H') (h : SqT K H a xs) : SqT K H' a xs := by
  rcases h with (h | ⟨o, h⟩) | h
  · exact .inl (.inl (e _ _ h))
  · exact .inl (.inr ⟨o, e _ _ h⟩)
  · exact .inr h
section
variable {K : PySem.W.Frag} {S S' : List Addr} {H H' H1 H2 : Hp} {a p : Addr} {o u : HO} {xs : List V}
theorem Fr.of (e : Same H H') : Fr K [] H H' := ⟨fun a o _ h => e a o h, fun _ _ h => Same.tup e h⟩
theorem Fr.refl (H : Hp) : Fr K [] H H := ⟨fun _ _ _ h => h, fun _ _ h => h⟩
theorem Fr.trans (a : Fr K S H H1) (b : Fr K S H1 H2) : Fr K S H H2 := ⟨fun c o n h => b.1 c o n (a.1 c o n h), fun c xs h => b.2 c xs (a.2 c xs h)⟩
theorem Fr.sub (a : Fr K S H H1) (h : ∀ x, x ∈ S → x ∈ S') : Fr K S' H H1 := ⟨fun c o n => a.1 c o fun z => n (h c z), a.2⟩
theorem Fr.any (a : Fr K [] H H1) : Fr K S H H1 := a.sub (fun _ h => absurd h (by simp))
theorem Fr.new (h : H p = none) : Fr K S H (upd H p o) := (Fr.of (fun b o e => by rw [upd_ne (ne_of_none e h)]; exact e)).any
theorem Fr.get (e : Fr K S H H') (h : H a = some o) (n : a ∉ S) : H' a = some o := e.1 a o n h
/-- a list at p is written -/
theorem Fr.put {xs : List V} (h : H p = some (.lst xs)) : Fr K [p] H (upd H p o) := ⟨fun c u n e => by rw [upd_ne (fun z => n (by rw [z]; simp))]; exact e, fun c ys e => by
  rcases e with (e | ⟨q, e⟩) | e
  · exact .inl (.inl (by rw [upd_ne (fun z => by rw [z, h] at e; cases e)]; exact e))
  · exact .inl (.inr ⟨q, by rw [upd_ne (fun z => by rw [z, h] at e; cases e)]; exact e⟩)
  · exact .inr e⟩
end
mutual
inductive Tp (K : PySem.W.Frag) (H : Hp) : V → PyData → Prop
  | non : Tp K H .non .none
  | bl (b : Bool) : Tp K H (.bl b) (.bool b)
  | int (i : Int) : Tp K H (.int i) (.int i)
  | str (x : Str) : Tp K H (.str x) (.str x)
  | tup {a : Addr} {xs : List V} {ds : List PyData} : SqT K H a xs → TpAll K H xs ds → Tp K H (.ref a) (.tuple ds)
inductive TpAll (K : PySem.W.Frag) (H : Hp) : List V → List PyData → Prop
  | nil : TpAll K H [] []
  | cons {v : V} {vs : List V} {d : PyData} {ds : List PyData} : Tp K H v d → TpAll K H vs ds → TpAll K H (v :: vs) (d :: ds)
end
section
variable {K : PySem.W.Frag} {H H' : Hp}
mutual
theorem Tp.up {S : List Addr} (e : Fr K S H H') : ∀ {v : V} {d : PyData}, Tp K H v d → Tp K H' v d
  | _, _, .non => .non
  | _, _, .bl b => .bl b
  | _, _, .int i => .int i
  | _, _, .str x => .str x
  | _, _, .tup h a => .tup (e.2 _ _ h) (TpAll.up e a)
theorem TpAll.up {S : List Addr} (e : Fr K S H H') : ∀ {vs : List V} {ds : List PyData}, TpAll K H vs ds → TpAll K H' vs ds
  | _, _, .nil => .nil
  | _, _, .cons h a => .cons (Tp.up e h) (TpAll.up e a)
end
theorem TpAll.get {vs : List V} {ds : List PyData} (h : TpAll K H vs ds) : ∀ {i : Nat} {d : PyData}, ds[i]? = some d → ∃ v, vs[i]? = some v ∧ Tp K H v d := by
  induction ds generalizing vs with
  | nil => intro i d e; simp at e
  | cons d0 ds ih =>
    intro i d e
    cases h with
    | cons h1 h2 =>
      cases i with
      | zero =>
        simp only [List.getElem?_cons_zero, Option.some.injEq] at e
        subst e
        exact ⟨_, rfl, h1⟩
      | succ i => exact ih h2 e
theorem TpAll.len {vs : List V} {ds : List PyData} (h : TpAll K H vs ds) : vs.length = ds.length := by
  induction ds generalizing vs with
  | nil => cases h; rfl
  | cons d0 ds ih =>
    cases h with
    | cons h1 h2 => simp only [List.length_cons, ih h2]
end
abbrev mv (a b : Int) : PyData := .tuple [.int a, .int b]
structure Fn (P : Program) (w : World) (K : PySem.W.Frag) (mg : Str → Option Value) (base : Heap) (CX : CXT) (k : Nat) (x : Str) (ps : List Str) (dvs : List V) (sp : Sp) : Prop where
  ok : ∃ fd ds, FnOk P w K mg base CX k (He.ga K x) fd ps sp ∧ Vals dvs ds ∧ Binds K fd ps ds
  g : mg x = some (.ref (He.ga K x))
  kp : PySem.W.keepIn K (.ref (He.ga K x)) = true
def rPlus (K : PySem.W.Frag) : R2 := fun x y H Q => rI0 (fun i j => .int (i + j)) x y H Q ∨ (∃ i j, x = .str i ∧ y = .str j ∧ i.length + j.length ≤ sizeLine ∧ Q (.str (i ++ j)) H) ∨ rCatA K x y H Q ∨ rCat x y H Q
theorem op_plus {X : Cx} : OpR X (binaryOp .Add) (rPlus X.K) := OpR.or op_add (OpR.or op_add_str (OpR.or op_catA op_cat))
def rEqq (K : PySem.W.Frag) : R2 := fun x y H Q => rEq x y H Q ∨ rEqD K x y H Q
theorem op_eqq {X : Cx} (hu : X.A.units + 64 < cLine) : OpR X (compareOp .Eq) (rEqq X.K) := OpR.or op_eq (op_eqD hu)
def rNee (K : PySem.W.Frag) : R2 := fun x y H Q => rNe x y H Q ∨ rNeD K x y H Q
theorem op_nee {X : Cx} (hu : X.A.units + 64 < cLine) : OpR X (compareOp .NotEq) (rNee X.K) := OpR.or op_ne (op_neD hu)
def rAbs : List V → Hp → VK → Prop := fun xs H Q => ∃ i, xs = [.int i] ∧ Q (.int (if i < 0 then -i else i)) H
def rInt1 : List V → Hp → VK → Prop := fun xs H Q => (∃ i, xs = [.int i] ∧ Q (.int i) H) ∨ ∃ k, xs = [.bl k] ∧ Q (.int (if k then 1 else 0)) H
def rListOf (K : PySem.W.Frag) : List V → Hp → VK → Prop := fun xs H Q => ∃ p ys, xs = [.ref p] ∧ (SqL K H p ys ∨ SqT K H p ys) ∧ ∀ l, H l = none → Q (.ref l) (upd H l (.lst ys))
def rIntStr : List V → Hp → VK → Prop := fun xs H Q => ∃ a n, xs = [.str a] ∧ PySem.intText? a = some n ∧ a.length ≤ 640 ∧ Q (.int n) H
end DW
namespace DW
open PySem L2
structure ClsFn (K : PySem.W.Frag) (C f : Addr) (m : Str) : Prop where
  rd : PySem.W.readsIn K C (.type "type") = true
  ga : PySem.W.specialIn K (.ref C) "__getattribute__" = some (some (.builtin "type.__getattribute__"))
  at_ : PySem.W.findCls K (.ref C) (.type "type") m = some (.val (.ref f))
  kp : PySem.W.keepIn K (.ref f) = true
/-- all that is wanted of an exception class by its name; fs: the names of its fields -/
structure ExcX (K : PySem.W.Frag) (mg : Str → Option Value) (x : Str) (fs : List Str) : Prop where
  g : mg x = some (.ref (He.ga K x))
  oex : OexC K (He.ga K x)
  xf : XfC K (He.ga K x)
  no : ∀ f ∈ fs, PySem.W.findIn K (.ref (He.ga K x)) f = some none
  init : PySem.W.findIn K (.ref (He.ga K x)) "__init__" = some (some (.ref (He.ma K (He.ga K x) "__init__")))
  tI : PySem.W.typeIn K (.ref (He.ma K (He.ga K x) "__init__")) = some (.type "function")
  cf : ClsFn K (He.ga K x) (He.ma K (He.ga K x) "__init__") "__init__"
end DW
namespace DW
open PySem L2
structure FnM (P : Program) (w : World) (K : PySem.W.Frag) (mg : Str → Option Value) (base : Heap) (CX : CXT) (k : Nat) (x m : Str) (ps : List Str) (sp : Sp) : Prop where
  ok : ∃ fd, FnOk P w K mg base CX k (He.ma K (He.ga K x) m) fd ps sp ∧ Binds K fd ps []
section
variable {X : Cx} {CX : CXT} {k : Nat} {ps : List Str} {sp : Sp} {E : XK} {x : Str} {fs : List Str} {p p1 p2 pos : Pos} {e : Expr} {es : List Expr} {ta t : TA}
end
section
variable {K : PySem.W.Frag} {σ : St} {H H' : Hp} {Q : VK} {N B C : St → Hp → Prop} {R : VK} {sp : Sp} {dvs : List V} {ES : St → XK} {tr : TA} {te : TE} {E : XK} {W : WX} {tm : St → Hp → XK → Prop} {QX : XK} {x : Str} {fs : List Str} {mg : Str → Option Value}
end
end DW
namespace DW
def allT : List Bool → Bool
  | [] => true
  | b :: r => b && allT r
end DW
namespace DW
open PySem L2
section
variable {K : PySem.W.Frag} {σ : St} {H H' : Hp} {Q : VK} {N B C : St → Hp → Prop} {R : VK} {c cls : Value} {i : Nat} {tb : WX → TS} {ts : Addr → Value → Option Addr → TS} {Wout : WX} {d : Option Addr} {x f : Str} {fs : List Str} {mg : Str → Option Value} {v : V} {fl : List (Str × V)} {a dd : Addr}
end
end DW
namespace DW
open PySem L2
/-- the classes and their dicts first: they are looked up most -/
def asE (g : Addr → Option Obj) (n : Nat) : List Addr :=
  let base := (List.range n).reverse
  let cs := base.filter fun a => match g a with | some ⟨_, _, .cls _, _⟩ => true | _ => false
  mainGlobals :: cs ++ (cs.filterMap fun a => match g a with | some ⟨_, _, .cls cd, _⟩ => some cd.ns | _ => none) ++ base
abbrev AlE : Type := He.AlD × Bool
def obsK (fa : List He.Fa) (fn : List He.DefD) (ex : PySem.W.Frag → Bool) (K : PySem.W.Frag) : AlE := (He.obsD fa fn K, ex K)
def obsE (n : Nat) (fa : List He.Fa) (fn : List He.DefD) (ex : PySem.W.Frag → Bool) (g : Addr → Option Obj) : AlE := obsK fa fn ex (He.frG g (asE g n))
structure SaysE (fa : List He.Fa) (fn : List He.DefD) (ex : PySem.W.Frag → Bool) (K : PySem.W.Frag) : Prop where
  d : He.SaysD fa fn K
  more : ex K = true
def hookE (n : Nat) (fa : List He.Fa) (fn : List He.DefD) (ex : PySem.W.Frag → Bool) : PySem.W.Hook where
  α := AlE
  obs := fun s => obsE n fa fn ex s.heap.get?
  val := fun _ => (He.valD fn, true)
  says := fun _ h => ∃ K : PySem.W.Frag, K.In h ∧ SaysE fa fn ex K
  of := fun _ _ e => ⟨_, He.frG_in, ⟨congrArg (fun z : AlE => z.1) e, congrArg (fun z : AlE => z.2) e⟩⟩
  keeps := fun _ _ _ ⟨K, hK, c⟩ k => ⟨K, PySem.W.Frag.In.keeps hK k, c⟩
theorem obsE_eq {n : Nat} {fa : List He.Fa} {fn : List He.DefD} {ex : PySem.W.Frag → Bool} {g : Addr → Option Obj} {s : Shared} (h : ∀ a, g a = s.heap.get? a) : obsE n fa fn ex g = (hookE n fa fn ex).obs s := by
  have e : g = s.heap.get? := funext h
  rw [e]
  rfl
end DW
namespace DW
open PySem PySem.Spec PyProof.Rows L2
open Sem (wp)
end DW
namespace MVX
open PySem PySem.W PySem.Spec PySem.Calls PyProof.Rows
section
variable {M : Model} {K : Frag}
end
end MVX
namespace MV
open PySem PySem.Spec PyProof.Rows L2
inductive D where
  | non
  | bl (b : Bool)
  | int (i : Int)
  | str (x : Str)
  | tup (ds : List D)
  | ref (n : Nat)
  | ty (n : String)
  | g (x : Str)
  | exn (a dd : Addr) (c : Str) (ns : List Str) (ds : List D)
  | kl (ds : List D)
/-- lst: a list; frz: a list that is only read; dct, dtt: a dict with keys of ints and texts, of tuples of these (lk: a loop walks it); ins: an instance -/
inductive O where
  | lst (ds : List D)
  | frz (ds : List D)
  | dct (lk : Bool) (kvs : List (Key × D))
  | dtt (lk : Bool) (kvs : List (List Key × D))
  | ins (c : Str) (fs : List (Str × D))
abbrev Mem := List O
abbrev Ev := List (Option D)
structure Exn where
  c : Str
  ns : List Str
  ds : List D
/-- a list that is never written: the script -/
def RdL (K : PySem.W.Frag) (H : Hp) (a : Addr) (xs : List V) : Prop := (∃ ob, H a = some (.frz ob (.lst xs))) ∨
  ∃ (o : Obj) (its : Array Value) (n : Nat), K.lookup a = some o ∧ o.cls = .type "list" ∧ o.dict = none ∧ o.data = .seq its n ∧ its.size ≤ sizeLine ∧ Vals xs its.toList
theorem RdL.sq {K : PySem.W.Frag} {H : Hp} {a : Addr} {xs : List V} (h : RdL K H a xs) : SqL K H a xs := by
  rcases h with h | h
  · exact .inl (.inr h)
  · exact .inr h
/-- a tuple that begins with a text (keys of dicts do): no written one -/
def hdS : List D → Bool
  | .str _ :: _ => true
  | _ => false
def Tq (K : PySem.W.Frag) (H : Hp) (a : Addr) (ds : List D) (xs : List V) : Prop := SqT K H a xs ∧ (hdS ds = true → H a = some (.tup xs))
mutual
inductive Rel (K : PySem.W.Frag) (as : List Addr) (H : Hp) : D → V → Prop
  | non : Rel K as H .non .non
  | bl (b : Bool) : Rel K as H (.bl b) (.bl b)
  | int (i : Int) : Rel K as H (.int i) (.int i)
  | str (x : Str) : Rel K as H (.str x) (.str x)
  | tup {a : Addr} {xs : List V} {ds : List D} : Tq K H a ds xs → RelL K as H ds xs → Rel K as H (.tup ds) (.ref a)
  | ref {n : Nat} {a : Addr} : as[n]? = some a → Rel K as H (.ref n) (.ref a)
  | ty (n : String) : Rel K as H (.ty n) (.ty n)
  | g (x : Str) : Rel K as H (.g x) (.ref (He.ga K x))
  | exn {a dd : Addr} {c : Str} {ns : List Str} {ds : List D} {xs : List V} : H dd = some (.xd (ns.zip xs)) → RelL K as H ds xs → Rel K as H (.exn a dd c ns ds) (.ref a)
  | kl {a : Addr} {xs : List V} {ds : List D} : RdL K H a xs → RelL K as H ds xs → Rel K as H (.kl ds) (.ref a)
inductive RelL (K : PySem.W.Frag) (as : List Addr) (H : Hp) : List D → List V → Prop
  | nil : RelL K as H [] []
  | cons {d : D} {ds : List D} {v : V} {vs : List V} : Rel K as H d v → RelL K as H ds vs → RelL K as H (d :: ds) (v :: vs)
end
structure Ext (K : PySem.W.Frag) (as : List Addr) (H : Hp) (as' : List Addr) (H' : Hp) : Prop where
  pre : as <+: as'
  tup : ∀ a xs, SqT K H a xs → SqT K H' a xs
  xd : ∀ a fs, H a = some (.xd fs) → H' a = some (.xd fs)
  frz : ∀ a ob u, H a = some (.frz ob u) → H' a = some (.frz ob u)
  tp : ∀ a xs, H a = some (.tup xs) → H' a = some (.tup xs)
section
variable {K : PySem.W.Frag} {as as' as2 : List Addr} {H H' H2 : Hp}
theorem Ext.refl : Ext K as H as H := ⟨List.prefix_refl _, fun _ _ h => h, fun _ _ h => h, fun _ _ _ h => h, fun _ _ h => h⟩
theorem Ext.trans (a : Ext K as H as' H') (b : Ext K as' H' as2 H2) : Ext K as H as2 H2 :=
  ⟨a.pre.trans b.pre, fun c xs h => b.tup c xs (a.tup c xs h), fun c fs h => b.xd c fs (a.xd c fs h), fun c o u h => b.frz c o u (a.frz c o u h), fun c xs h => b.tp c xs (a.tp c xs h)⟩
theorem Tq.up {a : Addr} {ds : List D} {xs : List V} (e : Ext K as H as' H') (h : Tq K H a ds xs) : Tq K H' a ds xs := ⟨e.tup _ _ h.1, fun q => e.tp _ _ (h.2 q)⟩
theorem Tq.new {p : Addr} {ds : List D} {xs : List V} : Tq K (upd H p (.tup xs)) p ds xs := ⟨SqT.of upd_same, fun _ => upd_same⟩
theorem pre_get {n : Nat} {a : Addr} (p : as <+: as') (h : as[n]? = some a) : as'[n]? = some a := by
  obtain ⟨t, rfl⟩ := p
  obtain ⟨hn, _⟩ := List.getElem?_eq_some_iff.mp h
  rw [List.getElem?_append_left hn]; exact h
theorem RdL.up (e : Ext K as H as' H') {a : Addr} {xs : List V} (h : RdL K H a xs) : RdL K H' a xs := by
  rcases h with ⟨ob, h⟩ | h
  · exact .inl ⟨ob, e.frz _ _ _ h⟩
  · exact .inr h
mutual
theorem Rel.up (e : Ext K as H as' H') : ∀ {d : D} {v : V}, Rel K as H d v → Rel K as' H' d v
  | _, _, .non => .non
  | _, _, .bl b => .bl b
  | _, _, .int i => .int i
  | _, _, .str x => .str x
  | _, _, .tup h r => .tup (h.up e) (RelL.up e r)
  | _, _, .ref h => .ref (pre_get e.pre h)
  | _, _, .ty n => .ty n
  | _, _, .g x => .g x
  | _, _, .exn h r => .exn (e.xd _ _ h) (RelL.up e r)
  | _, _, .kl h r => .kl (RdL.up e h) (RelL.up e r)
theorem RelL.up (e : Ext K as H as' H') : ∀ {ds : List D} {vs : List V}, RelL K as H ds vs → RelL K as' H' ds vs
  | _, _, .nil => .nil
  | _, _, .cons h r => .cons (Rel.up e h) (RelL.up e r)
end
theorem RelL.len : ∀ {ds : List D} {vs : List V}, RelL K as H ds vs → ds.length = vs.length
  | _, _, .nil => rfl
  | _, _, .cons _ r => by simp only [List.length_cons, RelL.len r]
theorem RelL.get {d : D} : ∀ {ds : List D} {vs : List V} {i : Nat}, RelL K as H ds vs → ds[i]? = some d → ∃ v, vs[i]? = some v ∧ Rel K as H d v
  | _, _, _, .nil, e => by simp at e
  | _, _, 0, .cons h _, e => by
    simp only [List.getElem?_cons_zero, Option.some.injEq] at e
    subst e; exact ⟨_, rfl, h⟩
  | _, _, i + 1, .cons _ r, e => by
    simp only [List.getElem?_cons_succ] at e ⊢
    exact RelL.get r e
theorem RelL.app : ∀ {ds es : List D} {vs ws : List V}, RelL K as H ds vs → RelL K as H es ws → RelL K as H (ds ++ es) (vs ++ ws)
  | _, _, _, _, .nil, s => s
  | _, _, _, _, .cons h r, s => .cons h (RelL.app r s)
theorem RelL.take (n : Nat) : ∀ {ds : List D} {vs : List V}, RelL K as H ds vs → RelL K as H (ds.take n) (vs.take n)
  | _, _, .nil => by simp only [List.take_nil]; exact .nil
  | _, _, .cons h r => by
    cases n with
    | zero => exact .nil
    | succ n => simp only [List.take_succ_cons]; exact .cons h (RelL.take n r)
theorem RelL.drop (n : Nat) : ∀ {ds : List D} {vs : List V}, RelL K as H ds vs → RelL K as H (ds.drop n) (vs.drop n)
  | _, _, .nil => by simp only [List.drop_nil]; exact .nil
  | _, _, .cons h r => by
    cases n with
    | zero => exact .cons h r
    | succ n => simp only [List.drop_succ_cons]; exact RelL.drop n r
theorem RelL.set {d : D} {v : V} (h : Rel K as H d v) : ∀ {ds : List D} {vs : List V} (i : Nat), RelL K as H ds vs → RelL K as H (ds.set i d) (vs.set i v)
  | _, _, _, .nil => by simp only [List.set_nil]; exact .nil
  | _, _, 0, .cons _ r => .cons h r
  | _, _, i + 1, .cons q r => .cons q (RelL.set h i r)
theorem RelL.rev : ∀ {ds : List D} {vs : List V}, RelL K as H ds vs → RelL K as H ds.reverse vs.reverse
  | _, _, .nil => .nil
  | _, _, .cons h r => by
    rw [List.reverse_cons, List.reverse_cons]
    exact RelL.app (RelL.rev r) (.cons h .nil)
end
/-- pairs of a name or a key and a value -/
def KVR (K : PySem.W.Frag) (as : List Addr) (H : Hp) {κ : Type} (l : List (κ × D)) (m : List (κ × V)) : Prop := Paired (fun (p : κ × D) (q : κ × V) => p.1 = q.1 ∧ Rel K as H p.2 q.2) l m
def OR (K : PySem.W.Frag) (as : List Addr) (H : Hp) (o : O) (a : Addr) : Prop := match o with
  | .lst ds => ∃ xs, H a = some (.lst xs) ∧ RelL K as H ds xs
  | .frz ds => ∃ ob xs, H a = some (.frz ob (.lst xs)) ∧ RelL K as H ds xs
  | .dct lk kvs => ∃ ks, KVR K as H kvs ks ∧ match lk with
    | true => ∃ ob, H a = some (.frz ob (.dK ks))
    | false => H a = some (.dK ks)
  | .dtt lk kvs => ∃ ks, KVR K as H kvs ks ∧ match lk with
    | true => ∃ ob, H a = some (.frz ob (.dT ks))
    | false => H a = some (.dT ks)
  | .ins c fs => ∃ dx ys, H a = some (.ins (He.ga K c) dx ys) ∧ KVR K as H fs ys
structure RepM (K : PySem.W.Frag) (as : List Addr) (H : Hp) (M : Mem) : Prop where
  len : as.length = M.length
  nd : as.Nodup
  ob : ∀ (n : Nat) (a : Addr) (o : O), as[n]? = some a → M[n]? = some o → OR K as H o a
section
variable {K : PySem.W.Frag} {as as' : List Addr} {H H' : Hp} {M : Mem} {κ : Type}
theorem KVR.up (e : Ext K as H as' H') {l : List (κ × D)} {m : List (κ × V)} (h : KVR K as H l m) : KVR K as' H' l m := Paired.mapP h fun _ _ q => ⟨q.1, q.2.up e⟩
theorem KVR.len {l : List (κ × D)} {m : List (κ × V)} (h : KVR K as H l m) : l.length = m.length := Paired.length h
theorem OR.up {o : O} {a : Addr} (e : Ext K as H as' H') (s : H' a = H a) (h : OR K as H o a) : OR K as' H' o a := by
  cases o with
  | lst ds => obtain ⟨xs, h1, h2⟩ := h; exact ⟨xs, s.trans h1, h2.up e⟩
  | frz ds => obtain ⟨ob, xs, h1, h2⟩ := h; exact ⟨ob, xs, s.trans h1, h2.up e⟩
  | dct lk kvs =>
    obtain ⟨ks, h1, h2⟩ := h
    refine ⟨ks, h1.up e, ?_⟩
    cases lk with
    | true => obtain ⟨ob, h2⟩ := h2; exact ⟨ob, s.trans h2⟩
    | false => exact s.trans h2
  | dtt lk kvs =>
    obtain ⟨ks, h1, h2⟩ := h
    refine ⟨ks, h1.up e, ?_⟩
    cases lk with
    | true => obtain ⟨ob, h2⟩ := h2; exact ⟨ob, s.trans h2⟩
    | false => exact s.trans h2
  | ins c fs => obtain ⟨dx, ys, h1, h2⟩ := h; exact ⟨dx, ys, s.trans h1, h2.up e⟩
theorem OR.there {o : O} {a : Addr} (h : OR K as H o a) : ∃ u, H a = some u ∧ (∀ xs, u ≠ .tup xs) ∧ ∀ fs, u ≠ .xd fs := by
  cases o with
  | lst ds => obtain ⟨xs, h1, _⟩ := h; exact ⟨_, h1, (fun _ z => nomatch z), (fun _ z => nomatch z)⟩
  | frz ds => obtain ⟨ob, xs, h1, _⟩ := h; exact ⟨_, h1, (fun _ z => nomatch z), (fun _ z => nomatch z)⟩
  | dct lk kvs =>
    obtain ⟨ks, _, h2⟩ := h
    cases lk with
    | true => obtain ⟨ob, h2⟩ := h2; exact ⟨_, h2, (fun _ z => nomatch z), (fun _ z => nomatch z)⟩
    | false => exact ⟨_, h2, (fun _ z => nomatch z), (fun _ z => nomatch z)⟩
  | dtt lk kvs =>
    obtain ⟨ks, _, h2⟩ := h
    cases lk with
    | true => obtain ⟨ob, h2⟩ := h2; exact ⟨_, h2, (fun _ z => nomatch z), (fun _ z => nomatch z)⟩
    | false => exact ⟨_, h2, (fun _ z => nomatch z), (fun _ z => nomatch z)⟩
  | ins c fs => obtain ⟨dx, ys, h1, _⟩ := h; exact ⟨_, h1, (fun _ z => nomatch z), (fun _ z => nomatch z)⟩
theorem RepM.at_ (r : RepM K as H M) {n : Nat} {o : O} (h : M[n]? = some o) : ∃ a, as[n]? = some a ∧ OR K as H o a := by
  obtain ⟨hn, _⟩ := List.getElem?_eq_some_iff.mp h
  have : n < as.length := by rw [r.len]; exact hn
  exact ⟨as[n], List.getElem?_eq_getElem this, r.ob n _ o (List.getElem?_eq_getElem this) h⟩
theorem RepM.some_ (r : RepM K as H M) {n : Nat} {a : Addr} (h : as[n]? = some a) : ∃ u, H a = some u ∧ (∀ xs, u ≠ .tup xs) ∧ ∀ fs, u ≠ .xd fs := by
  obtain ⟨hn, _⟩ := List.getElem?_eq_some_iff.mp h
  have hm : n < M.length := by rw [← r.len]; exact hn
  exact (r.ob n a _ h (List.getElem?_eq_getElem hm)).there
/-- a new thing at p -/
theorem ext_new {p : Addr} {o : HO} (hp : H p = none) : Ext K as H as (upd H p o) :=
  ⟨List.prefix_refl _, fun a xs h => DW.Same.tup (fun b u e => by rw [upd_ne (ne_of_none e hp)]; exact e) h, fun a fs h => by rw [upd_ne (ne_of_none h hp)]; exact h, fun a o u h => by rw [upd_ne (ne_of_none h hp)]; exact h, fun a xs h => by rw [upd_ne (ne_of_none h hp)]; exact h⟩
theorem ext_app {l : List Addr} : Ext K as H (as ++ l) H := ⟨List.prefix_append _ _, fun _ _ h => h, fun _ _ h => h, fun _ _ _ h => h, fun _ _ h => h⟩
theorem RepM.laid {p : Addr} {o : HO} (r : RepM K as H M) (hp : H p = none) : RepM K as (upd H p o) M :=
  ⟨r.len, r.nd, fun n a u h1 h2 => (r.ob n a u h1 h2).up (ext_new hp) (by
    obtain ⟨w, hw, _⟩ := r.some_ h1
    rw [upd_ne (ne_of_none hw hp)])⟩
theorem RepM.new {p : Addr} {o : O} {u : HO} (r : RepM K as H M) (hp : H p = none) (ho : OR K (as ++ [p]) (upd H p u) o p) : RepM K (as ++ [p]) (upd H p u) (M ++ [o]) := by
  have hn : p ∉ as := fun z => by
    obtain ⟨n, hn, e⟩ := List.getElem_of_mem z
    obtain ⟨w, hw, _⟩ := r.some_ (n := n) (a := p) (by rw [List.getElem?_eq_getElem hn, e])
    rw [hw] at hp; cases hp
  refine ⟨by simp [r.len], ?_, fun n a q h1 h2 => ?_⟩
  · rw [List.nodup_append]
    exact ⟨r.nd, by simp, fun a ha b hb => by simp at hb; subst hb; exact fun z => hn (z ▸ ha)⟩
  · by_cases hl : n < as.length
    · rw [List.getElem?_append_left hl] at h1
      rw [List.getElem?_append_left (by rw [← r.len]; exact hl)] at h2
      refine (r.ob n a q h1 h2).up ((ext_new hp).trans ext_app) ?_
      obtain ⟨w, hw, _⟩ := r.some_ h1
      rw [upd_ne (ne_of_none hw hp)]
    · obtain ⟨h3, _⟩ := List.getElem?_eq_some_iff.mp h1
      have h4 : n = as.length := by simp at h3; omega
      subst h4
      rw [List.getElem?_append_right (Nat.le_refl _)] at h1
      rw [r.len, List.getElem?_append_right (Nat.le_refl _)] at h2
      simp at h1 h2
      subst h1 h2
      exact ho
theorem ext_put {n : Nat} {a : Addr} {u : HO} (r : RepM K as H M) (h : as[n]? = some a) (hz : ∀ ob w, H a ≠ some (.frz ob w)) : Ext K as H as (upd H a u) := by
  obtain ⟨w, hw, nt, nx⟩ := r.some_ h
  refine ⟨List.prefix_refl _, fun b xs q => ?_, fun b fs q => ?_, fun b ob w q => ?_, fun b xs q => ?_⟩
  · rcases q with (q | ⟨o, q⟩) | q
    · exact .inl (.inl (by rw [upd_ne (fun z => by rw [z, hw] at q; exact nt _ (Option.some.inj q))]; exact q))
    · exact .inl (.inr ⟨o, by rw [upd_ne (fun z => by rw [z] at q; exact hz _ _ q)]; exact q⟩)
    · exact .inr q
  · rw [upd_ne (fun z => by rw [z, hw] at q; exact nx _ (Option.some.inj q))]; exact q
  · rw [upd_ne (fun z => by rw [z] at q; exact hz _ _ q)]; exact q
  · rw [upd_ne (fun z => by rw [z, hw] at q; exact nt _ (Option.some.inj q))]; exact q
/-- the thing at a is written -/
theorem RepM.put {n : Nat} {a : Addr} {o : O} {u : HO} (r : RepM K as H M) (h : as[n]? = some a) (hz : ∀ ob w, H a ≠ some (.frz ob w)) (ho : OR K as (upd H a u) o a) : RepM K as (upd H a u) (M.set n o) := by
  refine ⟨by rw [List.length_set]; exact r.len, r.nd, fun m b q h1 h2 => ?_⟩
  by_cases hm : m = n
  · subst hm
    obtain ⟨hn, _⟩ := List.getElem?_eq_some_iff.mp h
    rw [List.getElem?_set_self (by rw [← r.len]; exact hn)] at h2
    cases h2
    rw [h] at h1
    cases h1
    exact ho
  · rw [List.getElem?_set_ne (Ne.symm hm)] at h2
    refine (r.ob m b q h1 h2).up (ext_put r h hz) ?_
    refine upd_ne fun z => hm ?_
    subst z
    obtain ⟨l1, e1⟩ := List.getElem?_eq_some_iff.mp h1
    obtain ⟨l2, e2⟩ := List.getElem?_eq_some_iff.mp h
    exact (List.getElem_inj r.nd).mp (e1.trans e2.symm)
end
def RelS (K : PySem.W.Frag) (as : List Addr) (H : Hp) (ρ : Ev) (σ : L2.St) : Prop := ρ.length = σ.length ∧ ∀ (i : Nat) (d : D), ρ[i]? = some (some d) → ∃ v, σ[i]? = some (some v) ∧ Rel K as H d v
def RelX (K : PySem.W.Frag) (as : List Addr) (H : Hp) (x : Exn) (cls : Value) (d : Option Addr) : Prop :=
  cls = .ref (He.ga K x.c) ∧ ∃ dd xs, d = some dd ∧ H dd = some (.xd (x.ns.zip xs)) ∧ RelL K as H x.ds xs
section
variable {K : PySem.W.Frag} {as as' : List Addr} {H H' : Hp} {ρ : Ev} {σ : L2.St}
theorem RelS.up (e : Ext K as H as' H') (r : RelS K as H ρ σ) : RelS K as' H' ρ σ := ⟨r.1, fun i d h => let ⟨v, h1, h2⟩ := r.2 i d h; ⟨v, h1, h2.up e⟩⟩
theorem RelS.set {i : Nat} {d : D} {v : V} (r : RelS K as H ρ σ) (h : Rel K as H d v) : RelS K as H (ρ.set i (some d)) (σ.set i (some v)) := by
  refine ⟨by simp [r.1], fun j e q => ?_⟩
  by_cases hj : i = j
  · subst hj
    by_cases hl : i < ρ.length
    · rw [List.getElem?_set_self hl] at q
      cases q
      exact ⟨v, List.getElem?_set_self (by rw [← r.1]; exact hl), h⟩
    · rw [List.getElem?_eq_none_iff.mpr (by simp; omega)] at q; cases q
  · rw [List.getElem?_set_ne hj] at q
    obtain ⟨w, h1, h2⟩ := r.2 j e q
    exact ⟨w, by rw [List.getElem?_set_ne hj]; exact h1, h2⟩
theorem RelS.unset {i : Nat} (r : RelS K as H ρ σ) : RelS K as H (ρ.set i none) (σ.set i none) := by
  refine ⟨by simp [r.1], fun j e q => ?_⟩
  by_cases hj : i = j
  · subst hj
    by_cases hl : i < ρ.length
    · rw [List.getElem?_set_self hl] at q; cases q
    · rw [List.getElem?_eq_none_iff.mpr (by simp; omega)] at q; cases q
  · rw [List.getElem?_set_ne hj] at q
    obtain ⟨w, h1, h2⟩ := r.2 j e q
    exact ⟨w, by rw [List.getElem?_set_ne hj]; exact h1, h2⟩
end
end MV
namespace MV
open PySem PySem.Spec PyProof.Rows L2
abbrev DK := D → Mem → Prop
abbrev XM := Exn → Mem → Prop
abbrev ME := Ev → Mem → DK → XM → Prop
abbrev MT := Ev → Mem → (Bool → Mem → Prop) → XM → Prop
abbrev MA := Ev → Mem → (List D → Mem → Prop) → XM → Prop
structure Nd where
  nx : Ev → Mem → Prop
  rt : DK
  bk : Ev → Mem → Prop
  ct : Ev → Mem → Prop
  ex : Exn → Ev → Mem → Prop
abbrev MS := Nd → Ev → Mem → Prop
def LQ (K : PySem.W.Frag) (as : List Addr) (H : Hp) (Q : VK) : DK := fun d M' => ∀ as' H' v, Ext K as H as' H' → RepM K as' H' M' → Rel K as' H' d v → Q v H'
def LT (K : PySem.W.Frag) (as : List Addr) (H : Hp) (Q : Bool → Hp → Prop) : Bool → Mem → Prop := fun b M' => ∀ as' H', Ext K as H as' H' → RepM K as' H' M' → Q b H'
def LA (K : PySem.W.Frag) (as : List Addr) (H : Hp) (Q : List V → Hp → Prop) : List D → Mem → Prop := fun ds M' => ∀ as' H' vs, Ext K as H as' H' → RepM K as' H' M' → RelL K as' H' ds vs → Q vs H'
def LX (K : PySem.W.Frag) (as : List Addr) (H : Hp) (W : XK) : XM := fun x M' => ∀ as' H' cls d, Ext K as H as' H' → RepM K as' H' M' → RelX K as' H' x cls d → W cls d H'
def LS (K : PySem.W.Frag) (as : List Addr) (H : Hp) (N : L2.St → Hp → Prop) : Ev → Mem → Prop := fun ρ M' => ∀ as' H' σ, Ext K as H as' H' → RepM K as' H' M' → RelS K as' H' ρ σ → N σ H'
def LXS (K : PySem.W.Frag) (as : List Addr) (H : Hp) (W : WX) : Exn → Ev → Mem → Prop := fun x ρ M' => ∀ as' H' σ cls d, Ext K as H as' H' → RepM K as' H' M' → RelS K as' H' ρ σ → RelX K as' H' x cls d → W cls d σ H'
section
variable {K : PySem.W.Frag} {as as' : List Addr} {H H' : Hp} {Q : VK} {d : D} {M : Mem}
theorem LQ.mono (h : LQ K as H Q d M) (e : Ext K as H as' H') : LQ K as' H' Q d M := fun as2 H2 v e2 r q => h as2 H2 v (e.trans e2) r q
theorem LT.mono {Q : Bool → Hp → Prop} {b : Bool} (h : LT K as H Q b M) (e : Ext K as H as' H') : LT K as' H' Q b M := fun as2 H2 e2 r => h as2 H2 (e.trans e2) r
theorem LA.mono {Q : List V → Hp → Prop} {ds : List D} (h : LA K as H Q ds M) (e : Ext K as H as' H') : LA K as' H' Q ds M := fun as2 H2 v e2 r q => h as2 H2 v (e.trans e2) r q
theorem LX.mono {W : XK} {x : Exn} (h : LX K as H W x M) (e : Ext K as H as' H') : LX K as' H' W x M := fun as2 H2 c d e2 r q => h as2 H2 c d (e.trans e2) r q
theorem LS.mono {N : L2.St → Hp → Prop} {ρ : Ev} (h : LS K as H N ρ M) (e : Ext K as H as' H') : LS K as' H' N ρ M := fun as2 H2 c e2 r q => h as2 H2 c (e.trans e2) r q
theorem LXS.mono {W : WX} {x : Exn} {ρ : Ev} (h : LXS K as H W x ρ M) (e : Ext K as H as' H') : LXS K as' H' W x ρ M := fun as2 H2 c d y e2 r q => h as2 H2 c d y (e.trans e2) r q
end
def lf (K : PySem.W.Frag) (W : WX) (m : ME) : TE := fun σ H Q => ∃ as M ρ Q' X', RepM K as H M ∧ RelS K as H ρ σ ∧ m ρ M Q' X' ∧ (∀ d M', Q' d M' → LQ K as H Q d M') ∧ ∀ x M', X' x M' → LX K as H (fun c d H => W c d σ H) x M'
def lfT (K : PySem.W.Frag) (W : WX) (m : MT) : TT := fun σ H Q => ∃ as M ρ Q' X', RepM K as H M ∧ RelS K as H ρ σ ∧ m ρ M Q' X' ∧ (∀ d M', Q' d M' → LT K as H Q d M') ∧ ∀ x M', X' x M' → LX K as H (fun c d H => W c d σ H) x M'
def lfA (K : PySem.W.Frag) (W : WX) (m : MA) : TA := fun σ H Q => ∃ as M ρ Q' X', RepM K as H M ∧ RelS K as H ρ σ ∧ m ρ M Q' X' ∧ (∀ d M', Q' d M' → LA K as H Q d M') ∧ ∀ x M', X' x M' → LX K as H (fun c d H => W c d σ H) x M'
/-- ends of the mirror that are as good as D's -/
structure NdOk (K : PySem.W.Frag) (W : WX) (as : List Addr) (H : Hp) (E : Nd) (D : Ends) : Prop where
  nx : ∀ ρ M, E.nx ρ M → LS K as H D.nx ρ M
  rt : ∀ d M, E.rt d M → LQ K as H D.rt d M
  bk : ∀ ρ M, E.bk ρ M → LS K as H D.bk ρ M
  ct : ∀ ρ M, E.ct ρ M → LS K as H D.ct ρ M
  ex : ∀ x ρ M, E.ex x ρ M → LXS K as H W x ρ M
theorem NdOk.mono {K : PySem.W.Frag} {W : WX} {as as' : List Addr} {H H' : Hp} {E : Nd} {D : Ends} (h : NdOk K W as H E D) (e : Ext K as H as' H') : NdOk K W as' H' E D :=
  ⟨fun _ _ q => (h.nx _ _ q).mono e, fun _ _ q => (h.rt _ _ q).mono e, fun _ _ q => (h.bk _ _ q).mono e, fun _ _ q => (h.ct _ _ q).mono e, fun _ _ _ q => (h.ex _ _ _ q).mono e⟩
def lfS (K : PySem.W.Frag) (W : WX) (m : MS) : TS := fun D σ H => ∃ as M ρ E, RepM K as H M ∧ RelS K as H ρ σ ∧ m E ρ M ∧ NdOk K W as H E D
abbrev QE (X : Cx) (W : WX) (e : Expr) (m : ME) : Prop := PE X e (lf X.K W m)
abbrev QT (X : Cx) (W : WX) (e : Expr) (m : MT) : Prop := PT X e (lfT X.K W m)
abbrev QW (X : Cx) (W : WX) (e : Expr) (m : MT) : Prop := PW X e (lfT X.K W m)
abbrev QA (X : Cx) (W : WX) (es : List Expr) (m : MA) : Prop := PA X es (lfA X.K W m)
abbrev QS (X : Cx) (W : WX) (st : Stmt) (m : MS) : Prop := PS X st (lfS X.K W m)
abbrev QSs (X : Cx) (W : WX) (sts : List Stmt) (m : MS) : Prop := PSs X sts (lfS X.K W m)
section
variable {X : Cx} {e : Expr} {es : List Expr} {st : Stmt} {sts : List Stmt}
theorem PEi {t t' : TE} (h : PE X e t) (i : ∀ σ H Q, t' σ H Q → t σ H Q) : PE X e t' := ⟨fun pins s σ H Q I q => h.run pins s σ H Q I (i σ H Q q)⟩
theorem PTi {t t' : TT} (h : PT X e t) (i : ∀ σ H Q, t' σ H Q → t σ H Q) : PT X e t' := ⟨fun pins s σ H Q I q => h.run pins s σ H Q I (i σ H Q q)⟩
theorem PWi {t t' : TT} (h : PW X e t) (i : ∀ σ H Q, t' σ H Q → t σ H Q) : PW X e t' := ⟨fun wh pins s σ H Q I q => h.run wh pins s σ H Q I (i σ H Q q)⟩
theorem PAi {t t' : TA} (h : PA X es t) (i : ∀ σ H Q, t' σ H Q → t σ H Q) : PA X es t' := ⟨fun pos pins s σ H Q I q => h.run pos pins s σ H Q I (i σ H Q q)⟩
theorem PSi {t t' : TS} (h : PS X st t) (i : ∀ D σ H, t' D σ H → t D σ H) : PS X st t' := ⟨fun pins s σ H D I q => h.run pins s σ H D I (i D σ H q)⟩
theorem PSsi {t t' : TS} (h : PSs X sts t) (i : ∀ D σ H, t' D σ H → t D σ H) : PSs X sts t' := ⟨fun pins s σ H D I q => h.run pins s σ H D I (i D σ H q)⟩
end
section
variable {K : PySem.W.Frag} {W : WX} {as : List Addr} {H : Hp} {M : Mem} {ρ : Ev} {σ : L2.St} {X' : XM}
/-- a value has come: go on -/
theorem lf_bind {m : ME} {k : DK} {Q : VK} (r : RepM K as H M) (rs : RelS K as H ρ σ) (h : m ρ M k X') (hx : ∀ x M', X' x M' → LX K as H (fun c d H => W c d σ H) x M')
    (hk : ∀ d M' as' H' v, k d M' → Ext K as H as' H' → RepM K as' H' M' → RelS K as' H' ρ σ → Rel K as' H' d v → Q v H') : lf K W m σ H Q :=
  ⟨as, M, ρ, k, X', r, rs, h, fun d M' q as' H' v e r' q' => hk d M' as' H' v q e r' (rs.up e) q', hx⟩
theorem lfT_bind {m : MT} {k : Bool → Mem → Prop} {Q : Bool → Hp → Prop} (r : RepM K as H M) (rs : RelS K as H ρ σ) (h : m ρ M k X') (hx : ∀ x M', X' x M' → LX K as H (fun c d H => W c d σ H) x M')
    (hk : ∀ b M' as' H', k b M' → Ext K as H as' H' → RepM K as' H' M' → RelS K as' H' ρ σ → Q b H') : lfT K W m σ H Q :=
  ⟨as, M, ρ, k, X', r, rs, h, fun d M' q as' H' e r' => hk d M' as' H' q e r' (rs.up e), hx⟩
theorem lfA_bind {m : MA} {k : List D → Mem → Prop} {Q : List V → Hp → Prop} (r : RepM K as H M) (rs : RelS K as H ρ σ) (h : m ρ M k X') (hx : ∀ x M', X' x M' → LX K as H (fun c d H => W c d σ H) x M')
    (hk : ∀ ds M' as' H' vs, k ds M' → Ext K as H as' H' → RepM K as' H' M' → RelS K as' H' ρ σ → RelL K as' H' ds vs → Q vs H') : lfA K W m σ H Q :=
  ⟨as, M, ρ, k, X', r, rs, h, fun d M' q as' H' v e r' q' => hk d M' as' H' v q e r' (rs.up e) q', hx⟩
end
section
variable {X : Cx} {W : WX} {pos : Pos}
def mVar (i : Nat) : ME := fun ρ M Q _ => match ρ[i]? with | some (some d) => Q d M | _ => False
def mC (d : D) : ME := fun _ M Q _ => Q d M
theorem qe_var {i : Nat} {x : Str} (hN : X.N[i]? = some x) (hv : Vis X.env.scope x) (hd : (x == ("__debug__" : Str)) = false := by decide) (hcd : (x == ("__classdict__" : Str)) = false := by decide) : QE X W (.Name x pos) (mVar i) :=
  PEi (pe_var hN hv hd hcd) fun σ H Q ⟨as, M, ρ, Q', X', r, rs, h, hq, hx⟩ => by
    unfold mVar at h
    split at h
    · rename_i d e
      obtain ⟨v, e2, rv⟩ := rs.2 i d e
      exact ⟨v, e2, hq d M h as H v .refl r rv⟩
    · exact h.elim
theorem lf_c {K : PySem.W.Frag} {d : D} {v : V} (hr : ∀ as H, Rel K as H d v) (σ : L2.St) (H : Hp) (Q : VK) (h : lf K W (mC d) σ H Q) : tC v σ H Q := by
  obtain ⟨as, M, ρ, Q', X', r, rs, h, hq, hx⟩ := h
  exact hq d M h as H v .refl r (hr as H)
theorem qe_int {i : Int} {j : Nat} : QE X W (.Constant (.int i) j pos) (mC (.int i)) := PEi pe_int (lf_c fun _ _ => .int i)
theorem qe_bl {b : Bool} {j : Nat} : QE X W (.Constant (.bool b) j pos) (mC (.bl b)) := PEi pe_bl (lf_c fun _ _ => .bl b)
theorem qe_non {j : Nat} : QE X W (.Constant .none j pos) (mC .non) := PEi pe_non (lf_c fun _ _ => .non)
theorem qe_ty {x : Str} {n : String} (hg : Gl X x) (hm : X.mg x = none) (hv : bootBuiltins x = some (.type n)) (hn : x ≠ "__name__" := by decide) (hd : (x == ("__debug__" : Str)) = false := by decide) : QE X W (.Name x pos) (mC (.ty n)) := PEi (pe_bltn (v := .ty n) hg hm hv rfl hn hd) (lf_c fun _ _ => .ty n)
end
abbrev OP := D → D → Mem → DK → Prop
abbrev OU := D → Mem → DK → Prop
abbrev OA := List D → Mem → DK → Prop
def SimO (K : PySem.W.Frag) (r : R2) (o : OP) : Prop := ∀ (as : List Addr) (H : Hp) (M : Mem) (dx dy : D) (x y : V) (k : DK) (Q : VK), RepM K as H M → Rel K as H dx x → Rel K as H dy y → o dx dy M k → (∀ d M', k d M' → LQ K as H Q d M') → r x y H Q
def SimU (K : PySem.W.Frag) (r : V → Hp → VK → Prop) (o : OU) : Prop := ∀ (as : List Addr) (H : Hp) (M : Mem) (dx : D) (x : V) (k : DK) (Q : VK), RepM K as H M → Rel K as H dx x → o dx M k → (∀ d M', k d M' → LQ K as H Q d M') → r x H Q
def SimA (K : PySem.W.Frag) (r : List V → Hp → VK → Prop) (o : OA) : Prop := ∀ (as : List Addr) (H : Hp) (M : Mem) (ds : List D) (vs : List V) (k : DK) (Q : VK), RepM K as H M → RelL K as H ds vs → o ds M k → (∀ d M', k d M' → LQ K as H Q d M') → r vs H Q
def mOp (o : OP) (ma mb : ME) : ME := fun ρ M Q X => ma ρ M (fun x M1 => mb ρ M1 (fun y M2 => o x y M2 Q) X) X
def mUn (o : OU) (ma : ME) : ME := fun ρ M Q X => ma ρ M (fun x M1 => o x M1 Q) X
def mCB (o : OA) (ma : MA) : ME := fun ρ M Q X => ma ρ M (fun xs M1 => o xs M1 Q) X
section
variable {K : PySem.W.Frag} {W : WX}
theorem lf_op {r : R2} {o : OP} {ma mb : ME} (hs : SimO K r o) (σ : L2.St) (H : Hp) (Q : VK) (h : lf K W (mOp o ma mb) σ H Q) : tOp r (lf K W ma) (lf K W mb) σ H Q := by
  obtain ⟨as, M, ρ, Q', X', rp, rs, h, hq, hx⟩ := h
  refine lf_bind rp rs h hx fun dx M1 as1 H1 x h1 e1 r1 rs1 rx => ?_
  refine lf_bind r1 rs1 h1 (fun x M' q => (hx x M' q).mono e1) fun dy M2 as2 H2 y h2 e2 r2 rs2 ry => ?_
  exact hs as2 H2 M2 dx dy x y Q' Q r2 (rx.up e2) ry h2 fun d M' q => (hq d M' q).mono (e1.trans e2)
theorem lf_un {r : V → Hp → VK → Prop} {o : OU} {ma : ME} (hs : SimU K r o) (σ : L2.St) (H : Hp) (Q : VK) (h : lf K W (mUn o ma) σ H Q) : tUn r (lf K W ma) σ H Q := by
  obtain ⟨as, M, ρ, Q', X', rp, rs, h, hq, hx⟩ := h
  refine lf_bind rp rs h hx fun dx M1 as1 H1 x h1 e1 r1 rs1 rx => ?_
  exact hs as1 H1 M1 dx x Q' Q r1 rx h1 fun d M' q => (hq d M' q).mono e1
theorem lf_cb {r : List V → Hp → VK → Prop} {o : OA} {ma : MA} (hs : SimA K r o) (σ : L2.St) (H : Hp) (Q : VK) (h : lf K W (mCB o ma) σ H Q) : tCB r (lfA K W ma) σ H Q := by
  obtain ⟨as, M, ρ, Q', X', rp, rs, h, hq, hx⟩ := h
  refine lfA_bind rp rs h hx fun ds M1 as1 H1 vs h1 e1 r1 rs1 rv => ?_
  exact hs as1 H1 M1 ds vs Q' Q r1 rv h1 fun d M' q => (hq d M' q).mono e1
theorem SimO.or {r r' : R2} {o o' : OP} (h : SimO K r o) (h' : SimO K r' o') : SimO K (fun x y H Q => r x y H Q ∨ r' x y H Q) (fun x y M Q => o x y M Q ∨ o' x y M Q) := fun as H M dx dy x y k Q rp rx ry q hk => by
  rcases q with q | q
  · exact .inl (h as H M dx dy x y k Q rp rx ry q hk)
  · exact .inr (h' as H M dx dy x y k Q rp rx ry q hk)
end
section
variable {X : Cx} {W : WX} {a b : Expr} {es : List Expr} {ma mb mc : ME} {pos : Pos}
theorem qe_op {op : Operator} {r : R2} {o : OP} (ho : OpR X (binaryOp op) r) (hs : SimO X.K r o) (ha : QE X W a ma) (hb : QE X W b mb) : QE X W (.BinOp a op b pos) (mOp o ma mb) := PEi (pe_op ho ha hb) (lf_op hs)
theorem qe_un {op : UnaryOp} {r : V → Hp → VK → Prop} {o : OU} (ho : UnR X (unaryOp op) r) (hs : SimU X.K r o) (ha : QE X W a ma) : QE X W (.UnaryOp op a pos) (mUn o ma) := PEi (pe_un ho ha) (lf_un hs)
theorem qe_cmp {op : CmpOp} {r : R2} {o : OP} (ho : OpR X (compareOp op) r) (hs : SimO X.K r o) (ha : QE X W a ma) (hb : QE X W b mb) (hm : behindInMarks op b = false) : QE X W (.Compare a [op] [b] pos) (mOp o ma mb) := PEi (pe_cmpR ho ha hb hm) (lf_op hs)
theorem qe_ix {r : R2} {o : OP} (hr : IxR X r) (hs : SimO X.K r o) (ha : QE X W a ma) (hb : QE X W b mb) (hp : PlainIx b) : QE X W (.Subscript a b pos) (mOp o ma mb) := PEi (pe_ix hr ha hb hp) (lf_op hs)
def mNil : MA := fun _ M Q _ => Q [] M
def mCons (ma : ME) (mr : MA) : MA := fun ρ M Q X => ma ρ M (fun x M1 => mr ρ M1 (fun xs M2 => Q (x :: xs) M2) X) X
theorem qa_nil : QA X W [] mNil := PAi pa_nil fun σ H Q ⟨as, M, ρ, Q', X', r, rs, h, hq, hx⟩ => hq [] M h as H [] .refl r .nil
theorem qa_cons {mr : MA} (ha : QE X W a ma) (hr : QA X W es mr) (hs : starEach (a :: es) X.env = (false, eval a X.env) :: starEach es X.env := by rfl) : QA X W (a :: es) (mCons ma mr) :=
  PAi (pa_cons ha hr hs) fun σ H Q ⟨as, M, ρ, Q', X', r, rs, h, hq, hx⟩ => by
    refine lf_bind r rs h hx fun dx M1 as1 H1 x h1 e1 r1 rs1 rx => ?_
    refine lfA_bind r1 rs1 h1 (fun x M' q => (hx x M' q).mono e1) fun ds M2 as2 H2 vs h2 e2 r2 rs2 rv => ?_
    exact hq _ _ h2 as2 H2 _ (e1.trans e2) r2 (.cons (rx.up e2) rv)
def oTup : OA := fun ds M Q => ds.length ≤ 1000 ∧ Q (.tup ds) M
def oLst : OA := fun ds M Q => ds.length ≤ 1000 ∧ Q (.ref M.length) (M ++ [.lst ds])
theorem app_at {α : Type} {l : List α} {a : α} : (l ++ [a])[l.length]? = some a := by simp
theorem le_size {n : Nat} (h : n ≤ 1000) : n ≤ sizeLine := Nat.le_trans h (by decide)
/-- a new tuple is laid -/
theorem new_tup {K : PySem.W.Frag} {as : List Addr} {H : Hp} {M : Mem} {ds : List D} {xs : List V} {p : Addr} {k : DK} {Q : VK} (r : RepM K as H M) (rv : RelL K as H ds xs) (hp : H p = none) (h : k (.tup ds) M) (hk : ∀ d M', k d M' → LQ K as H Q d M') : Q (.ref p) (upd H p (.tup xs)) :=
  hk _ _ h as _ _ (ext_new hp) (r.laid hp) (.tup Tq.new (rv.up (ext_new hp)))
theorem new_obj {K : PySem.W.Frag} {as : List Addr} {H : Hp} {M : Mem} {o : O} {u : HO} {p : Addr} {k : DK} {Q : VK} (r : RepM K as H M) (hp : H p = none) (ho : OR K (as ++ [p]) (upd H p u) o p) (h : k (.ref M.length) (M ++ [o])) (hk : ∀ d M', k d M' → LQ K as H Q d M') : Q (.ref p) (upd H p u) :=
  hk _ _ h (as ++ [p]) _ _ ((ext_new hp).trans ext_app) (r.new hp ho) (.ref (by rw [← r.len]; exact app_at))
theorem new_lst {K : PySem.W.Frag} {as : List Addr} {H : Hp} {M : Mem} {ds : List D} {xs : List V} {p : Addr} {k : DK} {Q : VK} (r : RepM K as H M) (rv : RelL K as H ds xs) (hp : H p = none) (h : k (.ref M.length) (M ++ [.lst ds])) (hk : ∀ d M', k d M' → LQ K as H Q d M') : Q (.ref p) (upd H p (.lst xs)) :=
  new_obj (o := .lst ds) r hp ⟨xs, upd_same, rv.up ((ext_new hp).trans ext_app)⟩ h hk
theorem qe_tup {n : Nat} {ma : MA} (ha : QA X W es ma) : QE X W (.Tuple es n pos) (mCB oTup ma) := PEi (pe_tup ha) fun σ H Q ⟨as, M, ρ, Q', X', r, rs, h, hq, hx⟩ => by
  refine lfA_bind r rs h hx fun ds M1 as1 H1 vs h1 e1 r1 rs1 rv => ?_
  exact ⟨by rw [← rv.len]; exact le_size h1.1, fun p hp => new_tup r1 rv hp h1.2 fun d M' q => (hq d M' q).mono e1⟩
theorem qe_lst {ma : MA} (ha : QA X W es ma) : QE X W (.List es pos) (mCB oLst ma) := PEi (pe_lst ha) fun σ H Q ⟨as, M, ρ, Q', X', r, rs, h, hq, hx⟩ => by
  refine lfA_bind r rs h hx fun ds M1 as1 H1 vs h1 e1 r1 rs1 rv => ?_
  exact ⟨by rw [← rv.len]; exact le_size h1.1, fun p hp => new_lst r1 rv hp h1.2 fun d M' q => (hq d M' q).mono e1⟩
end
section
variable {X : Cx} {W : WX} {a b c : Expr} {rest : List Expr} {ma mb mc : ME} {ta tb tc : MT} {pos : Pos}
def mB (ma : ME) : MT := fun ρ M Q X => ma ρ M (fun x M1 => match x with | .bl k => Q k M1 | _ => False) X
def mAnd (t u : MT) : MT := fun ρ M Q X => t ρ M (fun k M1 => if k = true then u ρ M1 Q X else Q false M1) X
def mOr (t u : MT) : MT := fun ρ M Q X => t ρ M (fun k M1 => if k = true then Q true M1 else u ρ M1 Q X) X
def mNot (t : MT) : MT := fun ρ M Q X => t ρ M (fun k M1 => Q (!k) M1) X
theorem lfT_b {K : PySem.W.Frag} {σ : L2.St} {H : Hp} {Q : Bool → Hp → Prop} (h : lfT K W (mB ma) σ H Q) : tTest (lf K W ma) σ H Q := by
  obtain ⟨as, M, ρ, Q', X', r, rs, h, hq, hx⟩ := h
  refine lf_bind r rs h hx fun dx M1 as1 H1 x h1 e1 r1 rs1 rx => ?_
  cases rx with
  | bl k => exact ⟨k, rfl, hq k M1 h1 as1 H1 e1 r1⟩
  | _ => exact h1.elim
theorem qt_cmp {op : CmpOp} {r : R2} {o : OP} (ho : OpR X (compareOp op) r) (hs : SimO X.K r o) (ha : QE X W a ma) (hb : QE X W b mb) (hm : behindInMarks op b = false) : QT X W (.Compare a [op] [b] pos) (mB (mOp o ma mb)) :=
  PTi (pt_cmpR ho ha hb hm) fun σ H Q h => by
    have h2 := lfT_b h
    exact lf_op hs σ H _ h2
theorem qw_or1 (ha : QT X W a ta) : QW X W (.BoolOp .Or [a] pos) ta := pw_or1 ha
theorem qw_or (ha : QT X W a ta) (hb : QW X W (.BoolOp .Or (b :: rest) pos) tb) : QW X W (.BoolOp .Or (a :: b :: rest) pos) (mOr ta tb) := PWi (pw_or ha hb) fun σ H Q ⟨as, M, ρ, Q', X', r, rs, h, hq, hx⟩ => by
  refine lfT_bind r rs h hx fun k M1 as1 H1 h1 e1 r1 rs1 => ?_
  cases k with
  | true => exact hq true M1 h1 as1 H1 e1 r1
  | false => exact ⟨as1, M1, ρ, Q', X', r1, rs1, h1, fun d M' q => (hq d M' q).mono e1, fun x M' q => (hx x M' q).mono e1⟩
theorem qt_not (ha : QT X W a ta) : QT X W (.UnaryOp .Not a pos) (mNot ta) := PTi (pt_not ha) fun σ H Q ⟨as, M, ρ, Q', X', r, rs, h, hq, hx⟩ =>
  lfT_bind r rs h hx fun k M1 as1 H1 h1 e1 r1 _ => hq (!k) M1 h1 as1 H1 e1 r1
/-- a value's truth -/
def tru (x : D) (M : Mem) (Q : Bool → Mem → Prop) : Prop := match x with
  | .non => Q false M
  | .bl b => Q b M
  | .int i => Q (i != 0) M
  | .str y => y.length ≤ 16000000 ∧ Q ((y.length : Int) != 0) M
  | .tup ds => Q (!ds.isEmpty) M
  | .ref n => match M[n]? with
    | some (.lst ds) => Q (!ds.isEmpty) M
    | some (.dct false kvs) => Q (!kvs.isEmpty) M
    | _ => False
  | _ => False
def mTru (ma : ME) : MT := fun ρ M Q X => ma ρ M (fun x M1 => tru x M1 Q) X
theorem RelL.isEmpty {K : PySem.W.Frag} {as : List Addr} {H : Hp} {ds : List D} {vs : List V} (h : RelL K as H ds vs) : ds.isEmpty = vs.isEmpty := by cases h <;> rfl
theorem KVR.isEmpty {K : PySem.W.Frag} {as : List Addr} {H : Hp} {κ : Type} {ds : List (κ × D)} {vs : List (κ × V)} (h : KVR K as H ds vs) : ds.isEmpty = vs.isEmpty := by cases h <;> rfl
theorem tru_ok {K : PySem.W.Frag} {as : List Addr} {H : Hp} {M : Mem} {d : D} {x : V} {k : Bool → Mem → Prop} {Q : Bool → Hp → Prop} (rp : RepM K as H M) (rx : Rel K as H d x) (h : tru d M k) (hk : ∀ b M', k b M' → LT K as H Q b M') : ∃ b, TruV K x H b ∧ Q b H := by
  cases rx with
  | non => exact ⟨false, rfl, hk _ _ h as H .refl rp⟩
  | bl b => exact ⟨b, rfl, hk _ _ h as H .refl rp⟩
  | int i => exact ⟨_, rfl, hk _ _ h as H .refl rp⟩
  | str y => exact ⟨_, ⟨Nat.le_trans h.1 (by decide), rfl⟩, hk _ _ h.2 as H .refl rp⟩
  | tup hs hl => exact ⟨_, .inr (.inl ⟨_, hs.1, rfl⟩), by rw [← hl.isEmpty]; exact hk _ _ h as H .refl rp⟩
  | ref hn =>
    rename_i n a
    dsimp only [tru] at h
    split at h
    · rename_i ds e
      obtain ⟨a', ha, xs, h1, h2⟩ := rp.at_ e
      rw [hn] at ha; cases ha
      exact ⟨_, .inl ⟨xs, SqL.of h1, rfl⟩, by rw [← h2.isEmpty]; exact hk _ _ h as H .refl rp⟩
    · rename_i kvs e
      obtain ⟨a', ha, ks, h1, h2⟩ := rp.at_ e
      rw [hn] at ha; cases ha
      exact ⟨_, .inr (.inr ⟨ks, h2, rfl⟩), by rw [← h1.isEmpty]; exact hk _ _ h as H .refl rp⟩
    · exact h.elim
  | _ => exact h.elim
theorem qt_tru (ha : QE X W a ma) (he : ∀ whole, isTrue a X.env whole = (do let v ← whole; standAt a.pos; holding [v] (truthy v))) : QT X W a (mTru ma) := PTi (pt_truth ha he) fun σ H Q ⟨as, M, ρ, Q', X', r, rs, h, hq, hx⟩ => by
  refine lf_bind r rs h hx fun dx M1 as1 H1 x h1 e1 r1 rs1 rx => ?_
  exact tru_ok r1 rx h1 fun b M' q => (hq b M' q).mono e1
def mAndV (ma mb : ME) : ME := fun ρ M Q X => ma ρ M (fun x M1 => match x with | .bl k => if k = true then mb ρ M1 Q X else Q (.bl false) M1 | _ => False) X
def mOrV (ma mb : ME) : ME := fun ρ M Q X => ma ρ M (fun x M1 => match x with | .bl k => if k = true then Q (.bl true) M1 else mb ρ M1 Q X | _ => False) X
def mNotV (ma : ME) : ME := fun ρ M Q X => ma ρ M (fun x M1 => match x with | .bl k => Q (.bl (!k)) M1 | _ => False) X
def mIf (t : MT) (ma mb : ME) : ME := fun ρ M Q X => t ρ M (fun k M1 => if k = true then ma ρ M1 Q X else mb ρ M1 Q X) X
def mChain (o o' : OP) (ma mb mc : ME) : ME := fun ρ M Q X => ma ρ M (fun x M1 => mb ρ M1 (fun y M2 => o x y M2 fun z M3 => match z with | .bl k => if k = true then mc ρ M3 (fun w M4 => o' y w M4 Q) X else Q (.bl false) M3 | _ => False) X) X
theorem qe_one {op : BoolOp} (ha : QE X W a ma) : QE X W (.BoolOp op [a] pos) ma := pe_one ha
theorem qe_and (ha : QE X W a ma) (hb : QE X W (.BoolOp .And (b :: rest) pos) mb) : QE X W (.BoolOp .And (a :: b :: rest) pos) (mAndV ma mb) := PEi (pe_and ha hb) fun σ H Q ⟨as, M, ρ, Q', X', r, rs, h, hq, hx⟩ => by
  refine lf_bind r rs h hx fun dx M1 as1 H1 x h1 e1 r1 rs1 rx => ?_
  cases rx with
  | bl k =>
    refine ⟨k, rfl, ?_⟩
    cases k with
    | true => exact ⟨as1, M1, ρ, Q', X', r1, rs1, h1, fun d M' q => (hq d M' q).mono e1, fun x M' q => (hx x M' q).mono e1⟩
    | false => exact hq _ M1 h1 as1 H1 _ e1 r1 (.bl false)
  | _ => exact h1.elim
theorem qe_not (ha : QE X W a ma) : QE X W (.UnaryOp .Not a pos) (mNotV ma) := PEi (pe_not ha) fun σ H Q ⟨as, M, ρ, Q', X', r, rs, h, hq, hx⟩ => by
  refine lf_bind r rs h hx fun dx M1 as1 H1 x h1 e1 r1 rs1 rx => ?_
  cases rx with
  | bl k => exact ⟨k, rfl, hq _ M1 h1 as1 H1 _ e1 r1 (.bl (!k))⟩
  | _ => exact h1.elim
theorem qe_ifExp (hc : QT X W c tc) (ha : QE X W a ma) (hb : QE X W b mb) : QE X W (.IfExp c a b pos) (mIf tc ma mb) := PEi (pe_ifExp hc ha hb) fun σ H Q ⟨as, M, ρ, Q', X', r, rs, h, hq, hx⟩ => by
  refine lfT_bind r rs h hx fun k M1 as1 H1 h1 e1 r1 rs1 => ?_
  cases k with
  | true => exact ⟨as1, M1, ρ, Q', X', r1, rs1, h1, fun d M' q => (hq d M' q).mono e1, fun x M' q => (hx x M' q).mono e1⟩
  | false => exact ⟨as1, M1, ρ, Q', X', r1, rs1, h1, fun d M' q => (hq d M' q).mono e1, fun x M' q => (hx x M' q).mono e1⟩
theorem lf_chain {K : PySem.W.Frag} {r r' : R2} {o o' : OP} (hs : SimO K r o) (hs' : SimO K r' o') (σ : L2.St) (H : Hp) (Q : VK) (h : lf K W (mChain o o' ma mb mc) σ H Q) : tChain r r' (lf K W ma) (lf K W mb) (lf K W mc) σ H Q := by
  obtain ⟨as, M, ρ, Q', X', rp, rs, h, hq, hx⟩ := h
  refine lf_bind rp rs h hx fun dx M1 as1 H1 x h1 e1 r1 rs1 rx => ?_
  refine lf_bind r1 rs1 h1 (fun x M' q => (hx x M' q).mono e1) fun dy M2 as2 H2 y h2 e2 r2 rs2 ry => ?_
  refine hs as2 H2 M2 dx dy x y _ _ r2 (rx.up e2) ry h2 fun dz M3 q3 as3 H3 z e3 r3 rz => ?_
  cases rz with
  | bl k =>
    refine ⟨k, rfl, ?_⟩
    have e4 := (e1.trans e2).trans e3
    cases k with
    | true =>
      rw [if_pos rfl]
      refine lf_bind r3 (rs2.up e3) q3 (fun x M' q => (hx x M' q).mono e4) fun dw M4 as4 H4 w h4 e5 r4 rs4 rw' => ?_
      exact hs' as4 H4 M4 dy dw y w Q' Q r4 (ry.up (e3.trans e5)) rw' h4 fun d M' q => (hq d M' q).mono (e4.trans e5)
    | false =>
      rw [if_neg Bool.false_ne_true]
      exact hq _ M3 q3 as3 H3 _ e4 r3 (.bl false)
  | _ => exact q3.elim
theorem qt_chain {op op' : CmpOp} {r r' : R2} {o o' : OP} (ho : OpR X (compareOp op) r) (hs : SimO X.K r o) (ho' : OpR X (compareOp op') r') (hs' : SimO X.K r' o') (ha : QE X W a ma) (hb : QE X W b mb) (hc : QE X W c mc) (hm : lastMarks [op, op'] [b, c] = false := by with_unfolding_all rfl) :
    QT X W (.Compare a [op, op'] [b, c] pos) (mB (mChain o o' ma mb mc)) := PTi (pt_chain ho ho' ha hb hc hm) fun σ H Q h => lf_chain hs hs' σ H _ (lfT_b h)
end
end MV
namespace MV
open PySem PySem.Spec PyProof.Rows L2
/-- from c on, the contexts are those at the addresses l, the last one's is None -/
def Lks (G : Heap) : List Addr → Value → Prop
  | [], c => c = .none
  | x :: l, c => c = .ref x ∧ ∃ o vs c', G.get? x = some o ∧ o.data = .fields vs ∧ vs[2]? = some c' ∧ Lks G l c'
theorem Lks.up {G G' : Heap} : ∀ {l : List Addr} {c : Value}, (∀ x ∈ l, ∀ o, G.get? x = some o → G'.get? x = some o) → Lks G l c → Lks G' l c
  | [], _, _, h => h
  | x :: l, _, k, ⟨e, o, vs, c', h1, h2, h3, r⟩ => ⟨e, o, vs, c', k x (by simp) o h1, h2, h3, Lks.up (fun y hy => k y (by simp [hy])) r⟩
theorem Lks.at_ {G : Heap} : ∀ {l : List Addr} {c : Value}, Lks G l c → ∀ x ∈ l, ∃ o vs, G.get? x = some o ∧ o.data = .fields vs
  | [], _, _, _, hx => by cases hx
  | y :: l, _, ⟨_, o, vs, _, h1, h2, _, r⟩, x, hx => by
    rcases List.mem_cons.mp hx with rfl | hx
    · exact ⟨o, vs, h1, h2⟩
    · exact r.at_ x hx
/-- the object's context leads to None within B; none of its links is tracked -/
def CtxL (B : Heap) (H : Hp) (o : Obj) : Prop := ∀ vs : Array Value, o.data = .fields vs → ∃ c l, vs[2]? = some c ∧ Lks B l c ∧ ∀ x ∈ l, H x = none
theorem CtxL.none {B : Heap} {H : Hp} {o : Obj} {vs : Array Value} (hd : o.data = .fields vs) (h : vs[2]? = some .none) : CtxL B H o := fun vs' e => by
  rw [hd] at e; cases e
  exact ⟨.none, [], h, rfl, fun _ z => by cases z⟩
def Zk (B : Heap) (H : Hp) (cls : Value) (d : Option Addr) : Obj → Prop := fun o => o.cls = cls ∧ o.dict = d ∧ CtxL B H o
theorem Zk.steady {B : Heap} {H : Hp} {cls : Value} {d : Option Addr} : PXN.Steady1 (Zk B H cls d) := fun o v ⟨h1, h2, h3⟩ => by
  refine ⟨PXN.steady_cls o v h1, PXN.steady_dict o v h2, fun vs e => ?_⟩
  obtain ⟨oc, od, dt, sl⟩ := o
  cases dt with
  | fields v0 =>
    have e2 : v0.setIfInBounds 1 v = vs := Data.fields.inj e
    subst e2
    obtain ⟨c, l, g1, g2⟩ := h3 v0 rfl
    exact ⟨c, l, by rw [Array.getElem?_setIfInBounds_ne (by decide)]; exact g1, g2⟩
  | _ => cases e
/-- an exception in the air of X -/
structure AirAt (X : Cx) (W : WX) (s' : Shared) (a : Addr) (B : Heap) (sI : Shared) (pins : List (Addr × Obj)) (σ : L2.St) (H : Hp) (cls : Value) (d : Option Addr) : Prop where
  inv : Inv X pins σ H sI
  low : ∀ b o, sI.heap.get? b = some o → b ∉ frs X.stack → B.get? b = some o
  up : sI.heap.UpToSlots s'.heap
  sky : Sky B X.stack a (Zk B H cls d) X.env.locals s'.heap
  na : H a = none
  os : s'.os = sI.os
  ag : AllBare s'.gens
  w : W cls d σ H
def XE (X : Cx) (W : WX) (u : Value) (s' : Shared) : Prop := ∃ a B sI pins σ H cls d, u = .ref a ∧ AirAt X W s' a B sI pins σ H cls d
def Takes (X : Cx) (W : WX) : Prop := ∀ u s', XE X W u s' → X.xe u s'
/-- behind a call that let one out -/
structure OutAt (P : Program) (w : World) (outer : List Env) (H : Hp) (s : Shared) (E : XK) (s' : Shared) (a : Addr) (B : Heap) (H' : Hp) (cls : Value) (d : Option Addr) : Prop where
  fl : HandSPX.FlyingZ B outer a (Zk B H' cls d) s'.heap
  hok : HOk P w H' B
  ub : UB (frs outer) H H' s.heap B s'.heap
  na : H' a = none
  os : s'.os = s.os
  ag : AllBare s'.gens
  e : E cls d H'
def CX (P : Program) (w : World) : CXT := fun outer H s E u s' => ∃ a B H' cls d, u = .ref a ∧ OutAt P w outer H s E s' a B H' cls d
section
variable {X : Cx} {pins : List (Addr × Obj)} {σ : L2.St} {H : Hp} {sI s s' : Shared} {B : Heap} {W : WX} {E : XK}
theorem XE.of_call (I : Inv X pins σ H s) (hW : ∀ cls d H', E cls d H' → W cls d σ H') {u : Value} (c : CX X.prog X.w X.stack H s E u s') : XE X W u s' := by
  obtain ⟨a, B, H', cls, d, rfl, c⟩ := c
  obtain ⟨G, gy, gn⟩ := restrict s'.heap fun b => (B.get? b).isSome || decide (b ∈ frs X.stack)
  have inB : ∀ b o, B.get? b = some o → G.get? b = some o := fun b o z => (gy b (by simp [z])).trans (c.fl.1 b o z)
  have inF : ∀ b, b ∈ frs X.stack → G.get? b = s'.heap.get? b := fun b z => gy b (by simp [z])
  have out : ∀ b o, G.get? b = some o → s'.heap.get? b = some o ∧ (b ∉ frs X.stack → B.get? b = some o) := fun b o z => by
    by_cases hF : b ∈ frs X.stack
    · exact ⟨(inF b hF).symm.trans z, fun n => absurd hF n⟩
    · cases q : B.get? b with
      | none =>
        have := gn b (by simp [q, hF])
        rw [this] at z; cases z
      | some o' =>
        have := inB b o' q
        rw [this] at z; cases z
        exact ⟨c.fl.1 b _ q, fun _ => rfl⟩
  refine ⟨a, B, { s with heap := G, gens := s'.gens, drawn := s'.drawn, toks := s'.toks }, pins, σ, H', cls, d, rfl, ?_, fun b o z n => (out b o z).2 n, Heap.UpToSlots.of_keeps fun b o z => (out b o z).1, .inr (.inl c.fl), c.na, c.os, c.ag, hW _ _ _ c.e⟩
  have U : Un (frs X.stack) [] H H' s.heap G := {
    keep := fun b o z n hb _ => inB b o (c.ub.keep b o z n hb)
    slot := fun b o z n hb _ => by
      obtain ⟨sl, q⟩ := c.ub.slot b o z hb
      exact ⟨sl, (inF b hb).trans q⟩
    free := fun b o z n _ => c.ub.free b o z n
    there := fun b o z _ => by
      by_cases hF : b ∈ frs X.stack
      · obtain ⟨sl, q⟩ := c.ub.slot b o z hF
        exact ⟨_, (inF b hF).trans q⟩
      · obtain ⟨o', q⟩ := c.ub.there b o z hF
        exact ⟨o', inB b o' q⟩
    tups := c.ub.tups
    frzs := c.ub.frzs
    tbls := c.ub.tbls }
  exact I.call (ch := []) U (c.hok.kept inB) c.ag (fun _ z => by cases z)
/-- a new one -/
theorem XE.new {a : Addr} {oe : Obj} {vs : Array Value} {cls : Value} {d : Option Addr} {l : List Addr} {c : Value} (I : Inv X pins σ H sI) (k : ∀ b o, sI.heap.get? b = some o → s'.heap.get? b = some o) (hne : sI.heap.get? a = none) (he : s'.heap.get? a = some oe)
    (hc : oe.cls = cls) (hdd : oe.dict = d) (hd : oe.data = .fields vs) (h1 : vs[1]? = some .none) (h2 : vs[2]? = some c) (hl : Lks sI.heap l c) (hF : ∀ x ∈ l, x ∉ frs X.stack) (hH : ∀ x ∈ l, H x = none)
    (na : H a = none) (os : s'.os = sI.os) (ag : AllBare s'.gens) (w : W cls d σ H) : XE X W (.ref a) s' := by
  have hB : (PySem.W.hideAll sI.heap (frs X.stack)).get? a = none := by
    cases q : (PySem.W.hideAll sI.heap (frs X.stack)).get? a with
    | none => rfl
    | some o =>
      have z := PySem.W.of_hideAll _ q
      rw [hne] at z; cases z
  have hz : Zk (PySem.W.hideAll sI.heap (frs X.stack)) H cls d oe := ⟨hc, hdd, fun vs' e => by
    rw [hd] at e; cases e
    exact ⟨c, l, h2, hl.up fun x hx o z => PySem.W.hideAll_get _ z (hF x hx), hH⟩⟩
  refine ⟨a, PySem.W.hideAll sI.heap (frs X.stack), sI, pins, σ, H, cls, d, rfl, I, fun b o e hb => PySem.W.hideAll_get _ e hb, Heap.UpToSlots.of_keeps k, .inl ⟨fun b o e => k b o (PySem.W.of_hideAll _ e), hB, ?_, oe, vs, he, hz, hd, h1⟩, na, os, ag, w⟩
  exact Heap.FunFrames.of_keeps (fun b o e _ => ⟨o, k b o e, rfl⟩) (funFrames_none I.stack fun b hb => PySem.W.hideAll_none _ hb)
/-- it leaves the def -/
theorem XE.leave (hs : X.stack = X.env :: X.outer) (hf : X.env.frame = some X.env.locals) (hex : X.ex = []) {E₁ : Value → Shared → Prop} (hW : ∀ cls d σ H, W cls d σ H → E cls d H) {u : Value} (x : XE X W u s') :
    wpAny (model X.prog X.w) X.A (leaving X.env u) (fun _ s'' => CX X.prog X.w X.outer X.H_0 X.s_0 E u s'') E₁ s' := by
  obtain ⟨a, B, sI, pins, σ, H, cls, d, rfl, x⟩ := x
  have I := x.inv
  have hfr : X.A.frames = some (X.env :: X.outer) := by rw [I.ok.frames, hs]
  have off : ∀ b o, X.s_0.heap.get? b = some o → b ∉ X.fs → b ∉ frs X.stack := fun b o e hb hm => by
    rcases List.mem_cons.mp (I.stkSub b hm) with z | z
    · have h1 := Heap.lt_size e
      have h2 := I.ok.above
      rw [z] at h1
      exact Nat.not_lt.mpr h2 h1
    · exact hb z
  have noex : ∀ b, b ∉ X.ex := fun b hb => by rw [hex] at hb; cases hb
  have fin : ∀ h', HandSPX.FlyingZ B X.outer a (Zk B H cls d) h' → s'.heap.UpToSlots h' → CX X.prog X.w X.outer X.H_0 X.s_0 E (.ref a) { s' with heap := h' } := fun h' fl up' => by
    refine ⟨a, B, H, cls, d, rfl, fl, I.inGround x.low, ?_, x.na, x.os.trans I.os, x.ag, hW _ _ _ _ x.w⟩
    exact {
      keep := fun b o e n hb => x.low b o (I.base.keep b o e n hb (noex b)) (off b o e hb)
      slot := fun b o e hb => by
        obtain ⟨_, o₀, e₀, hnf⟩ := I.ok.funs.mem hb
        rw [e] at e₀; cases e₀
        obtain ⟨sl, e1⟩ := I.base.slot b o e (I.ok.frf b hb) hb (noex b)
        obtain ⟨sl2, e2⟩ := x.up b _ e1 hnf
        obtain ⟨sl3, e3⟩ := up' b _ e2 hnf
        exact ⟨sl3, e3⟩
      free := fun b o e n => I.base.free b o e n (noex b)
      there := fun b o e hb => by
        obtain ⟨o', e1⟩ := I.base.there b o e (noex b)
        exact ⟨o', x.low b o' e1 (off b o e hb)⟩
      tups := I.base.tups
      frzs := I.base.frzs
      tbls := I.base.tbls }
  have sky := x.sky
  rw [hs] at sky
  rcases sky with ⟨hB, hn, hl, oe, vs, he, hz, hd, h1⟩ | fl | hd
  · exact PXN.leaving_firstZ Zk.steady hfr hl hf he hB hn hd h1 hz fin
  · exact PXN.leaves_onZ Zk.steady hfr hf fl fin
  · exact HandSPX.leaves_heldZ hf hd fin
theorem takes_of (hs : X.stack = X.env :: X.outer) (hf : X.env.frame = some X.env.locals) (hex : X.ex = []) {E₁ : Value → Shared → Prop}
    (hx : X.xe = fun e s' => wpAny (model X.prog X.w) X.A (leaving X.env e) (fun _ s'' => CX X.prog X.w X.outer X.H_0 X.s_0 E e s'') E₁ s') : Takes X (fun cls d _ H => E cls d H) := fun u s' x => by
  rw [hx]
  exact XE.leave (W := fun cls d _ H => E cls d H) (E := E) hs hf hex (fun _ _ _ _ h => h) x
theorem passAt (tk : Takes X W) (σ : L2.St) : PassesAt (CX X.prog X.w) X σ (WE W σ) := fun _ _ _ e s' I c => tk e s' (XE.of_call I (fun _ _ _ h => h) c)
end
/-- what stands at a behind raise .. from .. -/
structure RaisedAt (h h' : Heap) (a x1 : Addr) (cls : Value) (d : Option Addr) : Prop where
  keep : ∀ b, b ≠ a → h'.get? b = h.get? b
  obj : ∃ o vs, h'.get? a = some o ∧ o.cls = cls ∧ o.dict = d ∧ o.data = .fields vs ∧ vs[1]? = some .none ∧ vs[2]? = some (.ref x1)
end MV
namespace MV
open PySem PySem.Spec PyProof.Rows L2
abbrev RoomU := L2H.RoomH
structure FnU (P : Program) (w : World) (K : PySem.W.Frag) (mg : Str → Option Value) (base : Heap) (k : Nat) (f : Addr) (fd : FuncData) (ps : List Str) (sp : Sp) : Prop where
  len : ∀ vs H Q E, sp vs H Q E → vs.length = ps.length
  run : ∀ (A : Around) (outer : List Env) (s : Shared) (H : Hp) (args : Args) (us : List Value) (vs : List V) (Q : VK) (E : XK), RoomU k A → Env0 P w K mg base A outer s H → BindsTo s fd args (ps.zip us) → Vals vs us → sp vs H Q E →
    codeAny (model P w) A (.call (.ref f) args) (CR CX0 outer P w H s Q E) s
section
variable {P : Program} {w : World} {K : PySem.W.Frag} {mg : Str → Option Value} {base : Heap} {k : Nat} {f : Addr} {fd : FuncData} {ps : List Str} {sp : Sp}
theorem FnU.ok (F : FnU P w K mg base k f fd ps sp) : FnOk P w K mg base CX0 k f fd ps sp := ⟨F.len, fun A outer s H args us vs Q E hr => F.run A outer s H args us vs Q E (L2H.roomH_of hr)⟩
end
/-- methods by class and name -/
structure FnMU (P : Program) (w : World) (K : PySem.W.Frag) (mg : Str → Option Value) (base : Heap) (k : Nat) (x m : Str) (ps : List Str) (sp : Sp) : Prop where
  ok : ∃ fd, FnU P w K mg base k (He.ma K (He.ga K x) m) fd ps sp ∧ Binds K fd ps []
section
variable {X : Cx} {k : Nat} {f : Addr} {fd : FuncData} {ps : List Str} {sp : Sp} {x : Str} {fs : List Str} {p p1 p2 pos : Pos} {e : Expr} {es : List Expr} {ta t : TA}
end
section
variable {X : Cx} {k : Nat} {ps : List Str} {sp : Sp} {x : Str} {fs : List Str} {p pos : Pos} {e : Expr} {es : List Expr} {ta : TA}
end
end MV
namespace MV
open PySem PySem.Spec PyProof.Rows L2
/-- the pins hold the exception that is handled and what its contexts lead to -/
def LksP (pn : List (Addr × Obj)) : List Addr → Value → Prop
  | [], c => c = .none
  | x :: l, c => c = .ref x ∧ ∃ o vs c', (x, o) ∈ pn ∧ o.data = .fields vs ∧ vs[2]? = some c' ∧ LksP pn l c'
theorem LksP.mem {pn : List (Addr × Obj)} : ∀ {l : List Addr} {c : Value}, LksP pn l c → ∀ x ∈ l, ∃ o, (x, o) ∈ pn
  | [], _, _, _, hx => by cases hx
  | y :: l, _, ⟨_, o, vs, _, h1, _, _, r⟩, x, hx => by
    rcases List.mem_cons.mp hx with rfl | hx
    · exact ⟨o, h1⟩
    · exact r.mem x hx
theorem LksP.more {pn pn' : List (Addr × Obj)} (k : ∀ p ∈ pn, p ∈ pn') : ∀ {l : List Addr} {c : Value}, LksP pn l c → LksP pn' l c
  | [], _, h => h
  | x :: l, _, ⟨e, o, vs, c', h1, h2, h3, r⟩ => ⟨e, o, vs, c', k _ h1, h2, h3, LksP.more k r⟩
/-- such pins out of a heap -/
theorem LksP.of {G : Heap} : ∀ {l : List Addr} {c : Value}, Lks G l c → ∃ pl : List (Addr × Obj), LksP pl l c ∧ ∀ p ∈ pl, p.1 ∈ l ∧ G.get? p.1 = some p.2 ∧ ∃ vs, p.2.data = .fields vs
  | [], _, h => ⟨[], h, fun _ z => by cases z⟩
  | x :: l, _, ⟨e, o, vs, c', h1, h2, h3, r⟩ => by
    obtain ⟨pl, g1, g2⟩ := LksP.of r
    refine ⟨(x, o) :: pl, ⟨e, o, vs, c', by simp, h2, h3, g1.more fun p hp => by simp [hp]⟩, fun p hp => ?_⟩
    rcases List.mem_cons.mp hp with rfl | hp
    · exact ⟨by simp, h1, vs, h2⟩
    · obtain ⟨q1, q2⟩ := g2 p hp
      exact ⟨by simp [q1], q2⟩
def HotK (X : Cx) : Prop := ∃ x1 l, X.A.handled = some (.ref x1) ∧ LksP X.pn (x1 :: l) (.ref x1)
end MV
namespace MV
open PySem PySem.Spec PyProof.Rows L2
/-- noted: on the stack l, its flight is fl -/
structure TrZ (B : Heap) (l : List Env) (a : Addr) (Z : Obj → Prop) (fl : Value) (h : Heap) : Prop where
  st : B.StaysIn h
  no : B.get? a = none
  ff : h.FunFrames B l
  tr : HandSPX.TracedZ h B a Z fl
section
variable {X : Cx} {pins : List (Addr × Obj)} {W : WX}
end
end MV
namespace MV
open PySem PySem.Spec PyProof.Rows L2
section
variable {prog : Program} {w : World} {A : Around} {E : Value → Shared → Prop} {s : Shared}
end
section
variable {X : Cx} {es : List Expr} {k n : Nat} {t : TGs} {pos : Pos}
end
section
variable {prog : Program} {w : World} {A : Around} {E : Value → Shared → Prop}
end
section
variable {X : Cx} {es : List Expr} {k n : Nat} {t : TGs} {pos : Pos}
end
end MV
namespace MV
open PySem PySem.Spec PyProof.Rows L2
mutual
def deq : D → D → Bool
  | .non, .non => true
  | .bl a, .bl b => a == b
  | .bl a, .int j => (if a then 1 else 0) == j
  | .int i, .bl b => i == (if b then 1 else 0)
  | .int i, .int j => i == j
  | .str x, .str y => x == y
  | .tup xs, .tup ys => deqL xs ys
  | _, _ => false
def deqL : List D → List D → Bool
  | [], [] => true
  | x :: xs, y :: ys => deq x y && deqL xs ys
  | _, _ => false
end
def fine : Nat → D → Bool
  | _, .non => true
  | _, .bl _ => true
  | _, .int _ => true
  | _, .str x => PyData.strOk x
  | k + 1, .tup ds => ds.all (fine k)
  | _, _ => false
mutual
def toPy : D → PyData
  | .non => .none
  | .bl b => .bool b
  | .int i => .int i
  | .str x => .str x
  | .tup ds => .tuple (toPyL ds)
  | _ => .none
def toPyL : List D → List PyData
  | [] => []
  | d :: ds => toPy d :: toPyL ds
end
section
variable {K : PySem.W.Frag} {as : List Addr} {H : Hp}
theorem shaped_of {p : PyData} {k : Nat} (h : p.canLay0 = true) (hd : p.depth ≤ k) (hk : k ≤ 64) : SeqAt.shaped p = true := by
  simp only [SeqAt.shaped, Bool.and_eq_true, decide_eq_true_eq]
  exact ⟨h, Nat.le_trans hd hk⟩
end
def okMul (i j : Int) : Prop := CMul i j ∨ CMulW i j
def okDiv (j : Int) : Prop := j ≠ 0 ∧ j.natAbs.log2 < 9000
def oAdd : OP := fun x y M Q => match x, y with
  | .int i, .int j => Q (.int (i + j)) M
  | .str a, .str b => a.length + b.length ≤ 16000000 ∧ Q (.str (a ++ b)) M
  | .tup a, .tup b => a.length + b.length ≤ 16000000 ∧ Q (.tup (a ++ b)) M
  | .ref m, .ref n => match M[m]?, M[n]? with
    | some (.lst a), some (.lst b) => a.length + b.length ≤ 16000000 ∧ Q (.ref M.length) (M ++ [.lst (a ++ b)])
    | _, _ => False
  | _, _ => False
def oSub : OP := fun x y M Q => match x, y with | .int i, .int j => Q (.int (i - j)) M | _, _ => False
def oMul : OP := fun x y M Q => match x, y with | .int i, .int j => okMul i j ∧ Q (.int (i * j)) M | _, _ => False
def oDiv : OP := fun x y M Q => match x, y with | .int i, .int j => okDiv j ∧ Q (.int (i.fdiv j)) M | _, _ => False
def oMod : OP := fun x y M Q => match x, y with | .int i, .int j => j ≠ 0 ∧ Q (.int (i.fmod j)) M | _, _ => False
def oPow : OP := fun x y M Q => match x, y with | .int i, .int j => CPow i j ∧ Q (.int (i ^ j.toNat)) M | _, _ => False
def oNeg : OU := fun x M Q => match x with | .int i => Q (.int (-i)) M | _ => False
def oLt : OP := fun x y M Q => match x, y with | .int i, .int j => Q (.bl (decide (i < j))) M | _, _ => False
def oLe : OP := fun x y M Q => match x, y with | .int i, .int j => Q (.bl (decide (i ≤ j))) M | _, _ => False
def oGt : OP := fun x y M Q => match x, y with | .int i, .int j => Q (.bl (decide (j < i))) M | _, _ => False
def oGe : OP := fun x y M Q => match x, y with | .int i, .int j => Q (.bl (decide (j ≤ i))) M | _, _ => False
mutual
/-- d, with all that it holds, is the plain data p -/
inductive See (M : Mem) : Nat → D → PyData → Prop
  | non (k : Nat) : See M k .non .none
  | bl (k : Nat) (b : Bool) : See M k (.bl b) (.bool b)
  | int (k : Nat) (i : Int) : See M k (.int i) (.int i)
  | str (k : Nat) {x : Str} : PyData.strOk x = true → See M k (.str x) (.str x)
  | tup {k : Nat} {ds : List D} {ps : List PyData} : SeeL M k ds ps → See M (k + 1) (.tup ds) (.tuple ps)
  | lst {k n : Nat} {ds : List D} {ps : List PyData} : M[n]? = some (.lst ds) → SeeL M k ds ps → See M (k + 1) (.ref n) (.list ps)
inductive SeeL (M : Mem) : Nat → List D → List PyData → Prop
  | nil {k : Nat} : SeeL M k [] []
  | cons {k : Nat} {d : D} {ds : List D} {p : PyData} {ps : List PyData} : See M k d p → SeeL M k ds ps → SeeL M k (d :: ds) (p :: ps)
end
/-- x == y (of all that can be seen as plain data) -/
def oEqB (x y : D) (M : Mem) (k : Bool → Prop) : Prop := match x, y with
  | .str a, .str b => k (decide (a = b))
  | .int i, .int j => k (decide (i = j))
  | x, y => ∃ p q, See M 20 x p ∧ See M 20 y q ∧ k (PyData.eqv p q)
def oEq : OP := fun x y M Q => oEqB x y M fun b => Q (.bl b) M
def oNe : OP := fun x y M Q => oEqB x y M fun b => Q (.bl (!b)) M
def oIsN : OU := fun x M Q => Q (.bl (match x with | .non => true | _ => false)) M
def oNotN : OU := fun x M Q => Q (.bl (match x with | .non => false | _ => true)) M
section
variable {K : PySem.W.Frag}
theorem at_lst {as : List Addr} {H : Hp} {M : Mem} {n : Nat} {a : Addr} {ds : List D} (rp : RepM K as H M) (hn : as[n]? = some a) (e : M[n]? = some (.lst ds)) : ∃ xs, H a = some (.lst xs) ∧ RelL K as H ds xs := by
  obtain ⟨a', ha, xs, h1, h2⟩ := rp.at_ e
  rw [hn] at ha; cases ha
  exact ⟨xs, h1, h2⟩
theorem sim_i0 {f : Int → Int → Int} {o : OP} (ho : ∀ x y M Q, o x y M Q → ∃ i j, x = .int i ∧ y = .int j ∧ Q (.int (f i j)) M) : SimO K (rI0 fun i j => .int (f i j)) o := fun as H M dx dy x y k Q rp rx ry h hk => by
  obtain ⟨i, j, rfl, rfl, q⟩ := ho _ _ _ _ h
  cases rx; cases ry
  exact ⟨i, j, rfl, rfl, hk _ _ q as H _ .refl rp (.int _)⟩
theorem sim_b0 {f : Int → Int → Bool} {o : OP} (ho : ∀ x y M Q, o x y M Q → ∃ i j, x = .int i ∧ y = .int j ∧ Q (.bl (f i j)) M) : SimO K (rI0 fun i j => .bl (f i j)) o := fun as H M dx dy x y k Q rp rx ry h hk => by
  obtain ⟨i, j, rfl, rfl, q⟩ := ho _ _ _ _ h
  cases rx; cases ry
  exact ⟨i, j, rfl, rfl, hk _ _ q as H _ .refl rp (.bl _)⟩
theorem sim_i {C : Int → Int → Prop} {f : Int → Int → Int} {o : OP} (ho : ∀ x y M Q, o x y M Q → ∃ i j, x = .int i ∧ y = .int j ∧ C i j ∧ Q (.int (f i j)) M) : SimO K (rI C fun i j => .int (f i j)) o := fun as H M dx dy x y k Q rp rx ry h hk => by
  obtain ⟨i, j, rfl, rfl, c, q⟩ := ho _ _ _ _ h
  cases rx; cases ry
  exact ⟨i, j, rfl, rfl, c, hk _ _ q as H _ .refl rp (.int _)⟩
theorem sim_sub : SimO K (rI0 fun i j => .int (i - j)) oSub := sim_i0 fun x y M Q h => by
  cases x <;> cases y <;> first | exact h.elim | exact ⟨_, _, rfl, rfl, h⟩
theorem sim_mod : SimO K (rI (fun _ j => j ≠ 0) fun i j => .int (i.fmod j)) oMod := sim_i fun x y M Q h => by
  cases x <;> cases y <;> first | exact h.elim | exact ⟨_, _, rfl, rfl, h⟩
theorem sim_div : SimO K (rI DW.CDivX fun i j => .int (i.fdiv j)) oDiv := sim_i fun x y M Q h => by
  cases x <;> cases y <;> first | exact h.elim | exact ⟨_, _, rfl, rfl, h⟩
theorem sim_pow : SimO K (rI CPow fun i j => .int (i ^ j.toNat)) oPow := sim_i fun x y M Q h => by
  cases x <;> cases y <;> first | exact h.elim | exact ⟨_, _, rfl, rfl, h⟩
theorem sim_lt : SimO K (rI0 fun i j => .bl (decide (i < j))) oLt := sim_b0 fun x y M Q h => by
  cases x <;> cases y <;> first | exact h.elim | exact ⟨_, _, rfl, rfl, h⟩
theorem sim_le : SimO K (rI0 fun i j => .bl (decide (i ≤ j))) oLe := sim_b0 fun x y M Q h => by
  cases x <;> cases y <;> first | exact h.elim | exact ⟨_, _, rfl, rfl, h⟩
theorem sim_gt : SimO K (rI0 fun i j => .bl (decide (j < i))) oGt := sim_b0 fun x y M Q h => by
  cases x <;> cases y <;> first | exact h.elim | exact ⟨_, _, rfl, rfl, h⟩
theorem sim_ge : SimO K (rI0 fun i j => .bl (decide (j ≤ i))) oGe := sim_b0 fun x y M Q h => by
  cases x <;> cases y <;> first | exact h.elim | exact ⟨_, _, rfl, rfl, h⟩
def rMulA : R2 := fun x y H Q => rI CMul (fun i j => .int (i * j)) x y H Q ∨ rI CMulW (fun i j => .int (i * j)) x y H Q
theorem op_mulA {X : Cx} : OpR X (binaryOp .Mult) rMulA := OpR.or op_mul op_mulW
theorem sim_mul : SimO K rMulA oMul := fun as H M dx dy x y k Q rp rx ry h hk => by
  cases dx <;> cases dy <;> first | exact h.elim | skip
  cases rx; cases ry
  rcases h.1 with c | c
  · exact .inl ⟨_, _, rfl, rfl, c, hk _ _ h.2 as H _ .refl rp (.int _)⟩
  · exact .inr ⟨_, _, rfl, rfl, c, hk _ _ h.2 as H _ .refl rp (.int _)⟩
theorem sim_neg : SimU K (rU fun i => .int (-i)) oNeg := fun as H M dx x k Q rp rx h hk => by
  cases dx <;> first | exact h.elim | skip
  cases rx
  exact ⟨_, rfl, hk _ _ h as H _ .refl rp (.int _)⟩
theorem sim_add : SimO K (DW.rPlus K) oAdd := fun as H M dx dy x y k Q rp rx ry h hk => by
  cases rx with
  | int i =>
    cases ry with
    | int j => exact .inl ⟨i, j, rfl, rfl, hk _ _ h as H _ .refl rp (.int _)⟩
    | _ => exact h.elim
  | str a =>
    cases ry with
    | str b => exact .inr (.inl ⟨a, b, rfl, rfl, Nat.le_trans h.1 (by decide), hk _ _ h.2 as H _ .refl rp (.str _)⟩)
    | _ => exact h.elim
  | tup hs hl =>
    cases ry with
    | tup hs2 hl2 =>
      refine .inr (.inr (.inl ⟨_, _, _, _, rfl, rfl, hs.1, hs2.1, ?_, fun z => ?_, fun _ z => ?_, fun _ _ p hp => ?_⟩))
      · rw [← hl.len, ← hl2.len]; exact Nat.le_trans h.1 (by decide)
      · subst z
        cases hl
        exact hk _ _ h.2 as H _ .refl rp (.tup hs2 hl2)
      · subst z
        cases hl2
        exact hk _ _ h.2 as H _ .refl rp (by rw [List.append_nil]; exact .tup hs hl)
      · exact new_tup rp (hl.app hl2) hp h.2 hk
    | _ => exact h.elim
  | ref hn =>
    cases ry with
    | ref hm =>
      dsimp only [oAdd] at h
      split at h
      · rename_i a b e1 e2
        obtain ⟨xs, h1, h2⟩ := at_lst rp hn e1
        obtain ⟨ys, h3, h4⟩ := at_lst rp hm e2
        refine .inr (.inr (.inr ⟨_, _, xs, ys, rfl, rfl, h1, h3, ?_, fun p hp => new_lst rp (h2.app h4) hp h.2 hk⟩))
        rw [← h2.len, ← h4.len]; exact Nat.le_trans h.1 (by decide)
      · exact h.elim
    | _ => exact h.elim
  | _ => cases ry <;> exact h.elim
end
end MV
namespace MV
open PySem PySem.Spec PyProof.Rows L2
section
variable {K : PySem.W.Frag} {as : List Addr} {H : Hp} {M : Mem}
mutual
theorem See.ok (rp : RepM K as H M) : ∀ {k : Nat} {d : D} {p : PyData} {v : V}, See M k d p → Rel K as H d v → Dp K H v p ∧ p.canLay0 = true ∧ p.depth ≤ k
  | _, _, _, _, .non _, .non => ⟨.non, by simp [PyData.canLay0], by simp [PyData.depth]⟩
  | _, _, _, _, .bl _ b, .bl _ => ⟨.bl b, by simp [PyData.canLay0], by simp [PyData.depth]⟩
  | _, _, _, _, .int _ b, .int _ => ⟨.int b, by simp [PyData.canLay0], by simp [PyData.depth]⟩
  | _, _, _, _, .str _ f, .str _ => ⟨.str _, by simp only [PyData.canLay0]; exact f, by simp [PyData.depth]⟩
  | _, _, _, _, .tup l, .tup hs hl => by
    obtain ⟨a1, a2, a3⟩ := SeeL.ok rp l hl
    exact ⟨.tup hs.1 a1, by simp only [PyData.canLay0]; exact a2, by simp only [PyData.depth]; omega⟩
  | _, _, _, _, .lst e l, .ref hn => by
    obtain ⟨xs, h1, h2⟩ := at_lst rp hn e
    obtain ⟨a1, a2, a3⟩ := SeeL.ok rp l h2
    exact ⟨.lst (SqL.of h1) a1, by simp only [PyData.canLay0]; exact a2, by simp only [PyData.depth]; omega⟩
theorem SeeL.ok (rp : RepM K as H M) : ∀ {k : Nat} {ds : List D} {ps : List PyData} {vs : List V}, SeeL M k ds ps → RelL K as H ds vs → DpAll K H vs ps ∧ PyData.canLayAll0 ps = true ∧ PyData.depthAll ps ≤ k
  | _, _, _, _, .nil, .nil => ⟨.nil, by simp [PyData.canLayAll0], by simp [PyData.depthAll]⟩
  | _, _, _, _, .cons a b, .cons h1 h2 => by
    obtain ⟨a1, a2, a3⟩ := See.ok rp a h1
    obtain ⟨b1, b2, b3⟩ := SeeL.ok rp b h2
    refine ⟨.cons a1 b1, by simp [PyData.canLayAll0, a2, b2], ?_⟩
    simp only [PyData.depthAll]
    omega
end
theorem eqB_ok {dx dy : D} {x y : V} {k : Bool → Prop} (rp : RepM K as H M) (rx : Rel K as H dx x) (ry : Rel K as H dy y) (h : oEqB dx dy M k) :
    (scal x y = true ∧ k (decide (x = y))) ∨ ∃ d e, Dp K H x d ∧ Dp K H y e ∧ SeqAt.shaped d = true ∧ SeqAt.shaped e = true ∧ k (PyData.eqv d e) := by
  unfold oEqB at h
  split at h
  · rename_i a b
    cases rx
    cases ry
    refine .inl ⟨rfl, ?_⟩
    have e : decide ((V.str a) = V.str b) = decide (a = b) := by simp
    rw [e]; exact h
  · rename_i a b
    cases rx
    cases ry
    · refine .inr ⟨.int a, .int b, .int a, .int b, by simp [SeqAt.shaped, PyData.canLay0, PyData.depth], by simp [SeqAt.shaped, PyData.canLay0, PyData.depth], ?_⟩
      simp only [PyData.eqv]
      have e : (a == b) = decide (a = b) := rfl
      rw [e]; exact h
  · obtain ⟨p, q, s1, s2, h⟩ := h
    obtain ⟨a1, a2, a3⟩ := s1.ok rp rx
    obtain ⟨b1, b2, b3⟩ := s2.ok rp ry
    exact .inr ⟨p, q, a1, b1, shaped_of a2 a3 (by decide), shaped_of b2 b3 (by decide), h⟩
theorem sim_eq : SimO K (DW.rEqq K) oEq := fun as H M dx dy x y k Q rp rx ry h hk => by
  rcases eqB_ok rp rx ry h with ⟨s, q⟩ | ⟨d, e, h1, h2, h3, h4, q⟩
  · exact .inl ⟨s, hk _ _ q as H _ .refl rp (.bl _)⟩
  · exact .inr ⟨d, e, h1, h2, h3, h4, hk _ _ q as H _ .refl rp (.bl _)⟩
theorem sim_ne : SimO K (DW.rNee K) oNe := fun as H M dx dy x y k Q rp rx ry h hk => by
  rcases eqB_ok rp rx ry h with ⟨s, q⟩ | ⟨d, e, h1, h2, h3, h4, q⟩
  · exact .inl ⟨s, hk _ _ q as H _ .refl rp (.bl _)⟩
  · exact .inr ⟨d, e, h1, h2, h3, h4, hk _ _ q as H _ .refl rp (.bl _)⟩
end
def oIs : OP := fun x y M Q => match y with | .non => oIsN x M Q | _ => False
def oIsNot : OP := fun x y M Q => match y with | .non => oNotN x M Q | _ => False
section
variable {K : PySem.W.Frag}
theorem sim_is : SimO K rIsN oIs := fun as H M dx dy x y k Q rp rx ry h hk => by
  cases ry <;> first | exact h.elim | skip
  refine ⟨rfl, ?_⟩
  cases rx <;> exact hk _ _ h as H _ .refl rp (.bl _)
theorem sim_isnot : SimO K rNotN oIsNot := fun as H M dx dy x y k Q rp rx ry h hk => by
  cases ry <;> first | exact h.elim | skip
  refine ⟨rfl, ?_⟩
  cases rx <;> exact hk _ _ h as H _ .refl rp (.bl _)
end
def keyOf : D → Option Key
  | .int i => some (.inl i)
  | .str x => some (.inr x)
  | _ => none
def dget {κ : Type} [DecidableEq κ] (kvs : List (κ × D)) (k : κ) : Option D := (kvs.find? fun kv => decide (kv.1 = k)).map (·.2)
def dput {κ : Type} [DecidableEq κ] (kvs : List (κ × D)) (k : κ) (v : D) : List (κ × D) := if (kvs.any fun kv => decide (kv.1 = k)) then kvs.map (fun kv => if kv.1 = k then (kv.1, v) else kv) else kvs ++ [(k, v)]
def ddrop {κ : Type} [DecidableEq κ] (kvs : List (κ × D)) (k : κ) : List (κ × D) := kvs.filter fun kv => decide (kv.1 ≠ k)
section
variable {K : PySem.W.Frag} {as : List Addr} {H : Hp} {M : Mem} {κ : Type} [DecidableEq κ]
theorem KVR.get {l : List (κ × D)} {m : List (κ × V)} (h : KVR K as H l m) (k : κ) : (dget l k = none ∧ valV m k = none) ∨ ∃ d v, dget l k = some d ∧ valV m k = some v ∧ Rel K as H d v := by
  induction h with
  | nil => exact .inl ⟨rfl, rfl⟩
  | cons h t ih =>
    rename_i p q l m
    obtain ⟨h1, h2⟩ := h
    by_cases e : q.1 = k
    · refine .inr ⟨p.2, q.2, ?_, valV_pos e, h2⟩
      simp [dget, List.find?_cons, h1, e]
    · have e2 : ¬ p.1 = k := by rw [h1]; exact e
      have e3 : dget (p :: l) k = dget l k := by simp [dget, List.find?_cons, e2]
      rw [e3, valV_neg e]; exact ih
theorem KVR.any {l : List (κ × D)} {m : List (κ × V)} (h : KVR K as H l m) (k : κ) : (l.any fun kv => decide (kv.1 = k)) = m.any fun kv => decide (kv.1 = k) := by
  induction h with
  | nil => rfl
  | cons h t ih => simp only [List.any_cons, h.1, ih]
theorem KVR.put {l : List (κ × D)} {m : List (κ × V)} (h : KVR K as H l m) (k : κ) {d : D} {v : V} (r : Rel K as H d v) : KVR K as H (dput l k d) (putK m k v) := by
  unfold dput putK
  rw [h.any k]
  split
  · rename_i hx; clear hx
    induction h with
    | nil => exact .nil
    | cons h t ih =>
      rename_i p q l m
      simp only [List.map_cons]
      refine .cons ?_ ih
      rw [h.1]
      split
      · exact ⟨rfl, r⟩
      · exact h
  · exact Paired.snoc h ⟨rfl, r⟩
theorem KVR.drop {l : List (κ × D)} {m : List (κ × V)} (h : KVR K as H l m) (k : κ) : KVR K as H (ddrop l k) (dropK m k) := by
  unfold ddrop dropK
  induction h with
  | nil => exact .nil
  | cons h t ih =>
    rename_i p q l m
    simp only [List.filter_cons, h.1]
    split
    · exact .cons h ih
    · exact ih
theorem keyOf_ok {d : D} {v : V} {k : Key} (r : Rel K as H d v) (e : keyOf d = some k) : v = kV k := by
  cases r <;> simp [keyOf] at e <;> subst e <;> rfl
/-- the dict at n, read -/
theorem at_dct {n : Nat} {a : Addr} {lk : Bool} {kvs : List (Key × D)} (rp : RepM K as H M) (hn : as[n]? = some a) (e : M[n]? = some (.dct lk kvs)) : ∃ ks, KVR K as H kvs ks ∧ Rd H a (.dK ks) := by
  obtain ⟨a', ha, ks, h1, h2⟩ := rp.at_ e
  rw [hn] at ha; cases ha
  cases lk with
  | true => obtain ⟨ob, h2⟩ := h2; exact ⟨ks, h1, .inr ⟨ob, h2⟩⟩
  | false => exact ⟨ks, h1, .inl h2⟩
theorem at_frz {n : Nat} {a : Addr} {ds : List D} (rp : RepM K as H M) (hn : as[n]? = some a) (e : M[n]? = some (.frz ds)) : ∃ ob xs, H a = some (.frz ob (.lst xs)) ∧ RelL K as H ds xs := by
  obtain ⟨a', ha, ob, xs, h1, h2⟩ := rp.at_ e
  rw [hn] at ha; cases ha
  exact ⟨ob, xs, h1, h2⟩
end
def flat : D → Bool
  | .non => true
  | .bl _ => true
  | .int _ => true
  | .str _ => true
  | _ => false
def inOk (x : D) (ds : List D) : Prop := ((flat x && ds.all flat) || (fine 20 x && ds.all (fine 20))) = true
def oInB (x y : D) (M : Mem) (k : Bool → Prop) : Prop := match y with
  | .str z => match x with
    | .str c => match c.cps.toList with
      | [c] => k (decide (c ∈ z.cps.toList))
      | _ => False
    | _ => False
  | .tup ds => (flat x && ds.all flat) = true ∧ k (ds.any fun e => deq e x)
  | .ref n => match M[n]? with
    | some (.lst ds) => inOk x ds ∧ k (ds.any fun e => deq e x)
    | some (.dct _ kvs) => match keyOf x with
      | some q => k (dget kvs q).isSome
      | none => False
    | _ => False
  | _ => False
def oIn : OP := fun x y M Q => oInB x y M fun b => Q (.bl b) M
def oNotIn : OP := fun x y M Q => oInB x y M fun b => Q (.bl (!b)) M
section
variable {X : Cx}
end
section
variable {K : PySem.W.Frag} {as : List Addr} {H : Hp} {M : Mem}
end
def oIx : OP := fun x y M Q => match x with
  | .tup ds => match y with
    | .int i => match atI ds i with | some d => Q d M | none => False
    | _ => False
  | .str z => match y with
    | .int i => z.length ≤ 16000000 ∧ match atI z.cps.toList i with | some c => Q (.str ⟨#[c]⟩) M | none => False
    | _ => False
  | .ref n => match M[n]? with
    | some (.lst ds) => match y with
      | .int i => match atI ds i with | some d => Q d M | none => False
      | _ => False
    | some (.frz ds) => match y with
      | .int i => match atI ds i with | some d => Q d M | none => False
      | _ => False
    | some (.dct _ kvs) => match keyOf y with
      | some q => match dget kvs q with | some d => Q d M | none => False
      | none => False
    | _ => False
  | _ => False
def rIxD : R2 := fun x y H Q => ∃ a v, x = .ref a ∧ DGet H a y (some v) ∧ Q v H
theorem ix_dict {X : Cx} (hu : X.A.units + 1 < cLine) : IxR X rIxD := by
  intro value slice pins s σ H x y v u Q I rx ry h hs
  obtain ⟨a, w, rfl, g, q⟩ := h
  obtain rfl : v = Value.ref a := rx
  have hT := dict_typeIs I g
  unfold subscriptTail
  refine wpAny_bind ?_
  rw [getitemInPython_of_ne hT.not_modules]
  refine wpAny_bind (wpAny_specialOf hT PySem.F.slot_dict_getitem.lookup ?_)
  have fin : wpAny (model X.prog X.w) X.A (subscripted slice false (.ref a) u) (fun r s₃ => wpAny (model X.prog X.w) X.A (letTemporaryGo value (.ref a) r >>= fun _ => pure r) (EP X pins σ Q) X.xe s₃) X.xe s := by
    rw [hs]
    exact wpAny_operating (wpAny_mono (d_getItem hu I g ry fun w' s3 I3 rw' => (⟨w, H, I3, rw', q⟩ : EP X pins σ Q w' s3)) (fun r s₃ h₃ => wpAny_bind (wpAny_letTemporaryGo (wpAny_pure h₃))) fun _ _ x => x)
  first
    | exact wpAny_pure (wpAny_bind fin)
    | exact wpAny_bind (wpAny_pure (wpAny_bind fin))
    | exact wpAny_bind fin
def rIxA (K : PySem.W.Frag) : R2 := fun x y H Q => rIx K x y H Q ∨ rIxD x y H Q
theorem ix_any {X : Cx} (hu : X.A.units + 1 < cLine) : IxR X (rIxA X.K) := IxR.or ix_seq (ix_dict hu)
section
variable {K : PySem.W.Frag} {as : List Addr} {H : Hp} {M : Mem}
theorem atI_rel {ds : List D} {vs : List V} {i : Int} {d : D} (r : RelL K as H ds vs) (e : atI ds i = some d) : ∃ v, atI vs i = some v ∧ Rel K as H d v := by
  unfold atI at e ⊢
  rw [← r.len]
  cases h : ixN ds.length i with
  | none => rw [h] at e; cases e
  | some j =>
    rw [h] at e
    exact r.get (show ds[j]? = some d from e)
theorem sim_ix : SimO K (rIxA K) oIx := fun as H M dx dy x y k Q rp rx ry h hk => by
  cases rx with
  | tup hs hl =>
    cases ry <;> first | exact h.elim | skip
    rename_i i
    dsimp only [oIx] at h
    split at h
    · rename_i d e
      obtain ⟨v, e2, rv⟩ := atI_rel hl e
      exact .inl (.inr (.inl ⟨_, _, i, v, rfl, rfl, hs.1, e2, hk _ _ h as H _ .refl rp rv⟩))
    · exact h.elim
  | str z =>
    cases ry <;> first | exact h.elim | skip
    rename_i i
    obtain ⟨hz, h⟩ := h
    split at h
    · rename_i c e
      exact .inl (.inr (.inr ⟨z, i, c, rfl, rfl, Nat.le_trans hz (by decide), e, hk _ _ h as H _ .refl rp (.str _)⟩))
    · exact h.elim
  | ref hn =>
    dsimp only [oIx] at h
    split at h
    · rename_i ds e
      cases ry <;> first | exact h.elim | skip
      rename_i i
      dsimp only at h
      split at h
      · rename_i d e1
        obtain ⟨xs, h1, h2⟩ := at_lst rp hn e
        obtain ⟨v, e2, rv⟩ := atI_rel h2 e1
        exact .inl (.inl ⟨_, xs, i, v, rfl, rfl, SqL.of h1, e2, hk _ _ h as H _ .refl rp rv⟩)
      · exact h.elim
    · rename_i ds e
      cases ry <;> first | exact h.elim | skip
      rename_i i
      dsimp only at h
      split at h
      · rename_i d e1
        obtain ⟨ob, xs, h1, h2⟩ := at_frz rp hn e
        obtain ⟨v, e2, rv⟩ := atI_rel h2 e1
        exact .inl (.inl ⟨_, xs, i, v, rfl, rfl, .inl (.inr ⟨ob, h1⟩), e2, hk _ _ h as H _ .refl rp rv⟩)
      · exact h.elim
    · rename_i lk kvs e
      split at h
      · rename_i q0 eq
        split at h
        · rename_i d e1
          obtain ⟨ks, h1, h2⟩ := at_dct rp hn e
          rcases h1.get q0 with ⟨g1, g2⟩ | ⟨d', v, g1, g2, rv⟩
          · rw [g1] at e1; cases e1
          · rw [g1] at e1; cases e1
            exact .inr ⟨_, v, rfl, .inl ⟨ks, q0, h2, keyOf_ok ry eq, g2.symm⟩, hk _ _ h as H _ .refl rp rv⟩
        · exact h.elim
      · exact h.elim
    · exact h.elim
  | _ => exact h.elim
end
end MV
namespace MV
open PySem PySem.Spec PyProof.Rows L2
abbrev MO := Ev → Mem → (Option Int → Mem → Prop) → XM → Prop
def lfO (K : PySem.W.Frag) (W : WX) (m : MO) : TO := fun σ H Q => ∃ as M ρ Q' X', RepM K as H M ∧ RelS K as H ρ σ ∧ m ρ M Q' X' ∧ (∀ d M', Q' d M' → ∀ as' H', Ext K as H as' H' → RepM K as' H' M' → Q d H') ∧ ∀ x M', X' x M' → LX K as H (fun c d H => W c d σ H) x M'
abbrev QO (X : Cx) (W : WX) (e : Option Expr) (m : MO) : Prop := PO X e (lfO X.K W m)
def mNoPart : MO := fun _ M Q _ => Q none M
def mPart (m : ME) : MO := fun ρ M Q X => m ρ M (fun x M1 => match x with | .int i => Q (some i) M1 | _ => False) X
def cutD {α : Type} (xs : List α) (lo hi : Option Int) : List α := (xs.drop (HT.sIx xs.length 0 lo)).take (HT.sIx xs.length xs.length hi - HT.sIx xs.length 0 lo)
def oSl (x : D) (lo hi : Option Int) (M : Mem) (Q : DK) : Prop := match x with
  | .str z => z.length ≤ 16000000 ∧ Q (.str (cutS z lo hi)) M
  | .tup ds => Q (.tup (cutD ds lo hi)) M
  | .kl ds => Q (.ref M.length) (M ++ [.lst (cutD ds lo hi)])
  | .ref n => match M[n]? with
    | some (.lst ds) => Q (.ref M.length) (M ++ [.lst (cutD ds lo hi)])
    | some (.frz ds) => Q (.ref M.length) (M ++ [.lst (cutD ds lo hi)])
    | _ => False
  | _ => False
def mSl (me : ME) (ml mh : MO) : ME := fun ρ M Q X => me ρ M (fun x M1 => ml ρ M1 (fun l M2 => mh ρ M2 (fun h M3 => oSl x l h M3 Q) X) X) X
def rSlAll (K : PySem.W.Frag) : V → Option Int → Option Int → Hp → VK → Prop := fun x lo hi H Q => rSlS x lo hi H Q ∨ rSlA K x lo hi H Q ∨ rSlL K x lo hi H Q
section
variable {X : Cx} {W : WX} {e : Expr} {lo hi : Option Expr} {me : ME} {ml mh : MO} {pos p2 : Pos}
theorem po_imp {t t' : TO} {o : Option Expr} (h : PO X o t) (i : ∀ σ H Q, t' σ H Q → t σ H Q) : PO X o t' := ⟨fun pins s σ H Q I q => h.run pins s σ H Q I (i σ H Q q)⟩
theorem qo_none : QO X W none mNoPart := po_imp po_none fun σ H Q ⟨as, M, ρ, Q', X', r, rs, h, hq, hx⟩ => hq _ _ h as H .refl r
theorem qo_some (he : QE X W e me) : QO X W (some e) (mPart me) := po_imp (po_some he) fun σ H Q ⟨as, M, ρ, Q', X', r, rs, h, hq, hx⟩ => by
  refine lf_bind r rs h hx fun dx M1 as1 H1 x h1 e1 r1 rs1 rx => ?_
  cases rx <;> first | exact h1.elim | skip
  exact ⟨_, rfl, hq _ _ h1 as1 H1 e1 r1⟩
theorem SlR_or {r r' : V → Option Int → Option Int → Hp → VK → Prop} (h : SlR X r) (h' : SlR X r') : SlR X (fun x lo hi H Q => r x lo hi H Q ∨ r' x lo hi H Q) := by
  intro pins s σ H x v vl vu lo hi sl Q I rx hs pl pu q
  rcases q with q | q
  · exact h pins s σ H x v vl vu lo hi sl Q I rx hs pl pu q
  · exact h' pins s σ H x v vl vu lo hi sl Q I rx hs pl pu q
theorem cut_rel {K : PySem.W.Frag} {as : List Addr} {H : Hp} {ds : List D} {vs : List V} (r : RelL K as H ds vs) (lo hi : Option Int) : RelL K as H (cutD ds lo hi) (cutV vs lo hi) := by
  unfold cutD cutV
  rw [← r.len]
  exact (r.drop _).take _
theorem cut_whole {α : Type} {xs : List α} {lo hi : Option Int} (h : HT.sIx xs.length 0 lo = 0 ∧ HT.sIx xs.length xs.length hi = xs.length) : cutD xs lo hi = xs := by
  unfold cutD; rw [h.1, h.2]; simp
theorem sim_sl {K : PySem.W.Frag} {as : List Addr} {H : Hp} {M : Mem} {dx : D} {x : V} {lo hi : Option Int} {k : DK} {Q : VK} (rp : RepM K as H M) (rx : Rel K as H dx x) (h : oSl dx lo hi M k) (hk : ∀ d M', k d M' → LQ K as H Q d M') : rSlAll K x lo hi H Q := by
  cases rx with
  | str z => exact .inl ⟨z, rfl, Nat.le_trans h.1 (by decide), hk _ _ h.2 as H _ .refl rp (.str _)⟩
  | tup hs hl =>
    refine .inr (.inl ⟨_, _, rfl, hs.1, fun w => ?_, fun _ p hp => new_tup rp (cut_rel hl lo hi) hp h hk⟩)
    refine hk _ _ h as H _ .refl rp ?_
    rw [← hl.len] at w
    rw [cut_whole w]
    exact .tup hs hl
  | kl hs hl => exact .inr (.inr ⟨_, _, rfl, hs.sq, fun p hp => new_lst rp (cut_rel hl lo hi) hp h hk⟩)
  | ref hn =>
    dsimp only [oSl] at h
    split at h
    · rename_i ds e
      obtain ⟨xs, h1, h2⟩ := at_lst rp hn e
      exact .inr (.inr ⟨_, xs, rfl, SqL.of h1, fun p hp => new_lst rp (cut_rel h2 lo hi) hp h hk⟩)
    · rename_i ds e
      obtain ⟨ob, xs, h1, h2⟩ := at_frz rp hn e
      exact .inr (.inr ⟨_, xs, rfl, .inl (.inr ⟨ob, h1⟩), fun p hp => new_lst rp (cut_rel h2 lo hi) hp h hk⟩)
    · exact h.elim
  | _ => exact h.elim
theorem qe_slice (he : QE X W e me) (hl : QO X W lo ml) (hh : QO X W hi mh) : QE X W (.Subscript e (.Slice lo hi none p2) pos) (mSl me ml mh) :=
  PEi (pe_slice (r := rSlAll X.K) (SlR_or sl_str (SlR_or sl_tupA sl_list)) he hl hh) fun σ H Q ⟨as, M, ρ, Q', X', r, rs, h, hq, hx⟩ => by
    refine lf_bind r rs h hx fun dx M1 as1 H1 x h1 e1 r1 rs1 rx => ?_
    refine ⟨as1, M1, ρ, _, X', r1, rs1, h1, fun l M2 h2 as2 H2 e2 r2 => ?_, fun x M' q => (hx x M' q).mono e1⟩
    refine ⟨as2, M2, ρ, _, X', r2, rs1.up e2, h2, fun h M3 h3 as3 H3 e3 r3 => ?_, fun x M' q => (hx x M' q).mono (e1.trans e2)⟩
    exact sim_sl r3 (rx.up (e2.trans e3)) h3 fun d M' q => (hq d M' q).mono ((e1.trans e2).trans e3)
end
def oLen : OA := fun xs M Q => match xs with
  | [.str z] => z.length ≤ 16000000 ∧ Q (.int z.length) M
  | [.tup ds] => Q (.int ds.length) M
  | [.ref n] => match M[n]? with
    | some (.lst ds) => Q (.int ds.length) M
    | some (.frz ds) => Q (.int ds.length) M
    | some (.dct _ kvs) => Q (.int kvs.length) M
    | _ => False
  | _ => False
def oAbs : OA := fun xs M Q => match xs with | [.int i] => Q (.int (if i < 0 then -i else i)) M | _ => False
def oMin2 : OA := fun xs M Q => match xs with | [.int i, .int j] => Q (.int (if j < i then j else i)) M | _ => False
def oMax2 : OA := fun xs M Q => match xs with | [.int i, .int j] => Q (.int (if j > i then j else i)) M | _ => False
def oInt1 : OA := fun xs M Q => match xs with
  | [.int i] => Q (.int i) M
  | [.bl k] => Q (.int (if k then 1 else 0)) M
  | [.str a] => match PySem.intText? a with | some n => a.length ≤ 640 ∧ Q (.int n) M | none => False
  | _ => False
def oStr1 : OA := fun xs M Q => match xs with
  | [.int i] => i.natAbs.log2 < 1920 ∧ Q (.str (toString i)) M
  | [.str a] => Q (.str a) M
  | _ => False
def kD : Key → D
  | .inl i => .int i
  | .inr x => .str x
def oList1 : OA := fun xs M Q => match xs with
  | [.tup ds] => Q (.ref M.length) (M ++ [.lst ds])
  | [.ref n] => match M[n]? with
    | some (.lst ds) => Q (.ref M.length) (M ++ [.lst ds])
    | some (.frz ds) => Q (.ref M.length) (M ++ [.lst ds])
    | some (.dct false kvs) => Q (.ref M.length) (M ++ [.lst (kvs.map fun kv => kD kv.1)])
    | _ => False
  | _ => False
def oTuple1 : OA := fun xs M Q => match xs with
  | [.tup ds] => Q (.tup ds) M
  | [.ref n] => match M[n]? with
    | some (.lst ds) => Q (.tup ds) M
    | some (.frz ds) => Q (.tup ds) M
    | _ => False
  | _ => False
def oDict1 : OA := fun xs M Q => match xs with
  | [.ref n] => match M[n]? with
    | some (.dct _ kvs) => Q (.ref M.length) (M ++ [.dct false kvs])
    | _ => False
  | _ => False
def rLenA (K : PySem.W.Frag) : List V → Hp → VK → Prop := fun xs H Q => (∃ x n, xs = [x] ∧ LenV K x H n ∧ Q (.int n) H) ∨ ∃ a kvs, xs = [V.ref a] ∧ Rd H a (.dK kvs) ∧ Q (.int kvs.length) H
theorem CallR_or {X : Cx} {f : Value} {r r' : List V → Hp → VK → Prop} (h : CallR X f r) (h' : CallR X f r') : CallR X f (fun xs H Q => r xs H Q ∨ r' xs H Q) := by
  intro pins s σ H xs us Q I r q
  rcases q with q | q
  · exact h pins s σ H xs us Q I r q
  · exact h' pins s σ H xs us Q I r q
section
variable {X : Cx} {K : PySem.W.Frag}
theorem call_lenR : CallR X (.builtin "len") (fun xs H Q => ∃ a kvs, xs = [V.ref a] ∧ Rd H a (.dK kvs) ∧ Q (.int kvs.length) H) := by
  intro pins s σ H xs us Q I r h
  obtain ⟨a, kvs, rfl, e, q⟩ := h
  obtain ⟨u, rfl, rx⟩ := vals1 r
  cases rx
  exact d_len I e fun t s' I' => ⟨.int _, H, I', ⟨_, rfl⟩, q⟩
theorem call_lenA : CallR X (.builtin "len") (rLenA X.K) := CallR_or call_len call_lenR
theorem RelL.one {as : List Addr} {H : Hp} {d : D} {vs : List V} (h : RelL K as H [d] vs) : ∃ v, vs = [v] ∧ Rel K as H d v := by
  cases h with
  | cons h r => cases r; exact ⟨_, rfl, h⟩
theorem RelL.two {as : List Addr} {H : Hp} {d e : D} {vs : List V} (h : RelL K as H [d, e] vs) : ∃ v w, vs = [v, w] ∧ Rel K as H d v ∧ Rel K as H e w := by
  cases h with
  | cons h r => obtain ⟨w, rfl, h2⟩ := r.one; exact ⟨_, _, rfl, h, h2⟩
theorem sim_len : SimA K (rLenA K) oLen := fun as H M ds vs k Q rp rv h hk => by
  unfold oLen at h
  split at h
  · obtain ⟨v, rfl, rx⟩ := rv.one
    cases rx
    exact .inl ⟨_, _, rfl, ⟨Nat.le_trans h.1 (by decide), rfl⟩, hk _ _ h.2 as H _ .refl rp (.int _)⟩
  · obtain ⟨v, rfl, rx⟩ := rv.one
    cases rx with
    | tup hs hl => exact .inl ⟨_, _, rfl, .inr ⟨_, hs.1, rfl⟩, by rw [← hl.len]; exact hk _ _ h as H _ .refl rp (.int _)⟩
  · obtain ⟨v, rfl, rx⟩ := rv.one
    cases rx with
    | ref hn =>
      split at h
      · rename_i ds e
        obtain ⟨xs, h1, h2⟩ := at_lst rp hn e
        exact .inl ⟨_, _, rfl, .inl ⟨_, SqL.of h1, rfl⟩, by rw [← h2.len]; exact hk _ _ h as H _ .refl rp (.int _)⟩
      · rename_i ds e
        obtain ⟨ob, xs, h1, h2⟩ := at_frz rp hn e
        exact .inl ⟨_, _, rfl, .inl ⟨_, .inl (.inr ⟨ob, h1⟩), rfl⟩, by rw [← h2.len]; exact hk _ _ h as H _ .refl rp (.int _)⟩
      · rename_i lk kvs e
        obtain ⟨ks, h1, h2⟩ := at_dct rp hn e
        exact .inr ⟨_, ks, rfl, h2, by rw [← h1.len]; exact hk _ _ h as H _ .refl rp (.int _)⟩
      · exact h.elim
  · exact h.elim
theorem sim_abs : SimA K DW.rAbs oAbs := fun as H M ds vs k Q rp rv h hk => by
  unfold oAbs at h
  split at h
  · obtain ⟨v, rfl, rx⟩ := rv.one
    cases rx
    exact ⟨_, rfl, hk _ _ h as H _ .refl rp (.int _)⟩
  · exact h.elim
def rIntA : List V → Hp → VK → Prop := fun xs H Q => DW.rInt1 xs H Q ∨ DW.rIntStr xs H Q
theorem call_intA : CallR X (.type "int") rIntA := CallR_or call_int1 call_int_str
theorem sim_int : SimA K rIntA oInt1 := fun as H M ds vs k Q rp rv h hk => by
  unfold oInt1 at h
  split at h
  · obtain ⟨v, rfl, rx⟩ := rv.one
    cases rx
    exact .inl (.inl ⟨_, rfl, hk _ _ h as H _ .refl rp (.int _)⟩)
  · obtain ⟨v, rfl, rx⟩ := rv.one
    cases rx
    exact .inl (.inr ⟨_, rfl, hk _ _ h as H _ .refl rp (.int _)⟩)
  · obtain ⟨v, rfl, rx⟩ := rv.one
    cases rx
    split at h
    · rename_i n e
      exact .inr ⟨_, n, rfl, e, h.1, hk _ _ h.2 as H _ .refl rp (.int _)⟩
    · exact h.elim
  · exact h.elim
theorem kD_rel {as : List Addr} {H : Hp} (k : Key) : Rel K as H (kD k) (kV k) := by
  cases k with
  | inl i => exact .int i
  | inr x => exact .str x
theorem KVR.keys {as : List Addr} {H : Hp} {l : List (Key × D)} {m : List (Key × V)} (h : KVR K as H l m) : RelL K as H (l.map fun kv => kD kv.1) (m.map fun kv => kV kv.1) := by
  induction h with
  | nil => exact .nil
  | cons h t ih =>
    simp only [List.map_cons]
    rw [h.1]
    exact .cons (kD_rel _) ih
def rListA (K : PySem.W.Frag) : List V → Hp → VK → Prop := fun xs H Q => DW.rListOf K xs H Q ∨ rListD xs H Q
theorem sim_list : SimA K (rListA K) oList1 := fun as H M ds vs k Q rp rv h hk => by
  unfold oList1 at h
  split at h
  · obtain ⟨v, rfl, rx⟩ := rv.one
    cases rx with
    | tup hs hl => exact .inl ⟨_, _, rfl, .inr hs.1, fun p hp => new_lst rp hl hp h hk⟩
  · obtain ⟨v, rfl, rx⟩ := rv.one
    cases rx with
    | ref hn =>
      split at h
      · rename_i ds e
        obtain ⟨xs, h1, h2⟩ := at_lst rp hn e
        exact .inl ⟨_, _, rfl, .inl (SqL.of h1), fun p hp => new_lst rp h2 hp h hk⟩
      · rename_i ds e
        obtain ⟨ob, xs, h1, h2⟩ := at_frz rp hn e
        exact .inl ⟨_, _, rfl, .inl (.inl (.inr ⟨ob, h1⟩)), fun p hp => new_lst rp h2 hp h hk⟩
      · rename_i kvs e
        obtain ⟨a', ha, ks, h1, h2⟩ := rp.at_ e
        rw [hn] at ha; cases ha
        exact .inr ⟨_, ks, rfl, h2, fun p hp => new_lst rp h1.keys hp h hk⟩
      · exact h.elim
  · exact h.elim
end
section
variable {X : Cx} {W : WX} {e : Expr} {es : List Expr} {ma : MA} {p pos : Pos} {x : Str}
theorem qe_callB {id : String} {r : List V → Hp → VK → Prop} {o : OA} (hc : CallR X (.builtin id) r) (hs : SimA X.K r o) (hg : Gl X x) (hm : X.mg x = none) (hv : bootBuiltins x = some (.builtin id)) (ha : QA X W (e :: es) ma) (hn : x ≠ "__name__" := by decide) (hdb : (x == ("__debug__" : Str)) = false := by decide)
    (he : starEach (e :: es) X.env = (false, eval e X.env) :: starEach es X.env := by rfl) (hpl : (backTo pos (starEach es X.env)).any (·.1) = false := by rfl) : QE X W (.Call (.Name x p) (e :: es) [] pos) (mCB o ma) :=
  PEi (pe_callB hc hg hm hv ha hn hdb he hpl) (lf_cb hs)
theorem qe_callTy {T : String} {r : List V → Hp → VK → Prop} {o : OA} (hc : CallR X (.type T) r) (hs : SimA X.K r o) (hg : Gl X x) (hm : X.mg x = none) (hv : bootBuiltins x = some (.type T)) (ha : QA X W (e :: es) ma) (hn : x ≠ "__name__" := by decide) (hdb : (x == ("__debug__" : Str)) = false := by decide)
    (he : starEach (e :: es) X.env = (false, eval e X.env) :: starEach es X.env := by rfl) (hpl : (backTo pos (starEach es X.env)).any (·.1) = false := by rfl) : QE X W (.Call (.Name x p) (e :: es) [] pos) (mCB o ma) :=
  PEi (pe_callTy hc hg hm hv ha hn hdb he hpl) (lf_cb hs)
end
end MV
namespace MV
open PySem PySem.Spec PyProof.Rows L2
def mNext : MS := fun E ρ M => E.nx ρ M
def mBreak : MS := fun E ρ M => E.bk ρ M
def mCont : MS := fun E ρ M => E.ct ρ M
def mRetN : MS := fun E _ M => E.rt .non M
def mSeq (a b : MS) : MS := fun E ρ M => a ⟨fun ρ' M' => b E ρ' M', E.rt, E.bk, E.ct, E.ex⟩ ρ M
def mDrop (m : ME) : MS := fun E ρ M => m ρ M (fun _ M1 => E.nx ρ M1) (fun x M1 => E.ex x ρ M1)
def mRet (m : ME) : MS := fun E ρ M => m ρ M E.rt (fun x M1 => E.ex x ρ M1)
def mIfS (t : MT) (a b : MS) : MS := fun E ρ M => t ρ M (fun k M1 => if k = true then a E ρ M1 else b E ρ M1) (fun x M1 => E.ex x ρ M1)
section
variable {X : Cx} {W : WX} {st : Stmt} {rest a b : List Stmt} {m n : MS} {e c : Expr} {me : ME} {mt : MT} {pos : Pos}
theorem exS {K : PySem.W.Frag} {as : List Addr} {H : Hp} {E : Nd} {D : Ends} {ρ : Ev} {σ : L2.St} (hE : NdOk K W as H E D) (rs : RelS K as H ρ σ) : ∀ x M', E.ex x ρ M' → LX K as H (fun c d H => W c d σ H) x M' :=
  fun x M' q as' H' c d e r' rx => hE.ex x ρ M' q as' H' σ c d e r' (rs.up e) rx
theorem qss_nil : QSs X W [] mNext := PSsi pss_nil fun D σ H ⟨as, M, ρ, E, r, rs, h, hE⟩ => hE.nx _ _ h as H σ .refl r rs
theorem qss_cons (h1 : QS X W st m) (h2 : QSs X W rest n) : QSs X W (st :: rest) (mSeq m n) := PSsi (pss_cons h1 h2) fun D σ H ⟨as, M, ρ, E, r, rs, h, hE⟩ =>
  ⟨as, M, ρ, _, r, rs, h, ⟨fun ρ' M' q as' H' σ' e' r' rs' => ⟨as', M', ρ', E, r', rs', q, hE.mono e'⟩, hE.rt, hE.bk, hE.ct, hE.ex⟩⟩
theorem qss_one (h1 : QS X W st m) : QSs X W [st] m := pss_one h1
theorem qs_break : QS X W (.Break pos) mBreak := PSi ps_break fun D σ H ⟨as, M, ρ, E, r, rs, h, hE⟩ => hE.bk _ _ h as H σ .refl r rs
theorem qs_cont : QS X W (.Continue pos) mCont := PSi ps_continue fun D σ H ⟨as, M, ρ, E, r, rs, h, hE⟩ => hE.ct _ _ h as H σ .refl r rs
theorem qs_expr (he : QE X W e me) (hs : swapsWith e none pos.line X.env = pure false := by rfl) : QS X W (.Expr e pos) (mDrop me) := PSi (ps_expr he hs) fun D σ H ⟨as, M, ρ, E, r, rs, h, hE⟩ =>
  lf_bind r rs h (exS hE rs) fun d M1 as1 H1 v h1 e1 r1 rs1 rv => hE.nx _ _ h1 as1 H1 σ e1 r1 rs1
theorem qs_ret (he : QE X W e me) : QS X W (.Return (some e) pos) (mRet me) := PSi (ps_ret he) fun D σ H ⟨as, M, ρ, E, r, rs, h, hE⟩ =>
  lf_bind r rs h (exS hE rs) fun d M1 as1 H1 v h1 e1 r1 rs1 rv => hE.rt _ _ h1 as1 H1 v e1 r1 rv
theorem qs_if (hc : QT X W c mt) (ha : QSs X W a m) (hb : QSs X W b n) : QS X W (.If c a b pos) (mIfS mt m n) := PSi (ps_if hc ha hb) fun D σ H ⟨as, M, ρ, E, r, rs, h, hE⟩ => by
  refine lfT_bind r rs h (exS hE rs) fun k M1 as1 H1 h1 e1 r1 rs1 => ?_
  cases k with
  | true => exact ⟨as1, M1, ρ, E, r1, rs1, h1, hE.mono e1⟩
  | false => exact ⟨as1, M1, ρ, E, r1, rs1, h1, hE.mono e1⟩
end
mutual
inductive Tg where
  | nm (i : Nat)
  | tp (n : Nat) (l : Tgs)
inductive Tgs where
  | nil
  | cons (t : Tg) (l : Tgs)
end
abbrev MG := D → Ev → Mem → (Ev → Prop) → Prop
abbrev MGs := List D → Ev → Mem → (Ev → Prop) → Prop
mutual
/-- HandS's reading of a target -/
def Tg.rd (K : PySem.W.Frag) : Tg → TG
  | .nm i => gName i
  | .tp n l => fun v σ H Q => gTup K n (l.rd K) v σ H Q ∨ gLst K n (l.rd K) v σ H Q
def Tgs.rd (K : PySem.W.Frag) : Tgs → TGs
  | .nil => gNil
  | .cons t l => gCons (t.rd K) (l.rd K)
end
mutual
/-- the mirror's -/
def Tg.mg : Tg → MG
  | .nm i => fun d ρ _ N => N (ρ.set i (some d))
  | .tp n l => fun d ρ M N => match d with
    | .tup ds => ds.length = n ∧ l.mg ds ρ M N
    | .ref a => match M[a]? with
      | some (.lst ds) => ds.length = n ∧ l.mg ds ρ M N
      | _ => False
    | _ => False
def Tgs.mg : Tgs → MGs
  | .nil => fun ds ρ _ N => match ds with | [] => N ρ | _ => False
  | .cons t l => fun ds ρ M N => match ds with | d :: r => t.mg d ρ M fun ρ' => l.mg r ρ' M N | _ => False
end
mutual
def Tg.slots : Tg → List Nat
  | .nm i => [i]
  | .tp _ l => l.slots
def Tgs.slots : Tgs → List Nat
  | .nil => []
  | .cons t l => t.slots ++ l.slots
end
mutual
theorem Tg.sim {K : PySem.W.Frag} : ∀ (T : Tg) {as : List Addr} {H : Hp} {M : Mem} {ρ : Ev} {σ : L2.St} {d : D} {v : V} {N : Ev → Prop} {Q : L2.St → Hp → Prop}, RepM K as H M → RelS K as H ρ σ → Rel K as H d v → T.mg d ρ M N →
    (∀ ρ' σ', N ρ' → RelS K as H ρ' σ' → Q σ' H) → T.rd K v σ H Q
  | .nm i, as, H, M, ρ, σ, d, v, N, Q, r, rs, rd, h, hq => by
    simp only [Tg.mg] at h
    simp only [Tg.rd]
    exact hq _ _ h (rs.set rd)
  | .tp n l, as, H, M, ρ, σ, d, v, N, Q, r, rs, rd, h, hq => by
    simp only [Tg.mg] at h
    simp only [Tg.rd]
    cases rd with
    | tup hs hl => exact .inl ⟨_, _, rfl, hs.1, by rw [← hl.len]; exact h.1, Tgs.sim l r rs hl h.2 hq⟩
    | ref ha =>
      dsimp only at h
      split at h
      · rename_i ds e
        obtain ⟨xs, h1, h2⟩ := at_lst r ha e
        exact .inr ⟨_, xs, rfl, SqL.of h1, by rw [← h2.len]; exact h.1, Tgs.sim l r rs h2 h.2 hq⟩
      · exact h.elim
    | _ => exact h.elim
theorem Tgs.sim {K : PySem.W.Frag} : ∀ (T : Tgs) {as : List Addr} {H : Hp} {M : Mem} {ρ : Ev} {σ : L2.St} {ds : List D} {vs : List V} {N : Ev → Prop} {Q : L2.St → Hp → Prop}, RepM K as H M → RelS K as H ρ σ → RelL K as H ds vs → T.mg ds ρ M N →
    (∀ ρ' σ', N ρ' → RelS K as H ρ' σ' → Q σ' H) → T.rd K vs σ H Q
  | .nil, as, H, M, ρ, σ, ds, vs, N, Q, r, rs, rd, h, hq => by
    simp only [Tgs.mg] at h
    simp only [Tgs.rd]
    cases rd with
    | nil => exact ⟨rfl, hq _ _ h rs⟩
    | cons _ _ => exact h.elim
  | .cons t l, as, H, M, ρ, σ, ds, vs, N, Q, r, rs, rd, h, hq => by
    simp only [Tgs.mg] at h
    simp only [Tgs.rd]
    cases rd with
    | nil => exact h.elim
    | cons rd rr => exact ⟨_, _, rfl, Tg.sim t r rs rd h fun ρ' σ' h' rs' => Tgs.sim l r rs' rr h' hq⟩
end
theorem set_set_comm {α : Type} (l : List α) {i j : Nat} (a b : α) (h : i ≠ j) : (l.set i a).set j b = (l.set j b).set i a := by
  apply List.ext_getElem?
  intro k
  simp only [List.getElem?_set]
  split <;> split <;> simp_all
theorem wipe_set {σ : L2.St} {i : Nat} {v : Option V} : ∀ {vs : List Nat}, i ∈ vs → wipe (σ.set i v) vs = wipe σ vs
  | w :: vs, h => by
    show (wipe (σ.set i v) vs).set w none = (wipe σ vs).set w none
    by_cases e : i ∈ vs
    · rw [wipe_set e]
    · have hw : i = w := by
        rcases List.mem_cons.mp h with z | z
        · exact z
        · exact absurd z e
      subst hw
      have key : ∀ vs : List Nat, i ∉ vs → wipe (σ.set i v) vs = (wipe σ vs).set i v := by
        intro vs
        induction vs with
        | nil => intro _; rfl
        | cons u vs ih =>
          intro hn
          show (wipe (σ.set i v) vs).set u none = ((wipe σ vs).set u none).set i v
          rw [ih (fun z => hn (List.mem_cons_of_mem _ z)), set_set_comm _ _ _ (fun z => hn (by rw [z]; exact List.mem_cons_self))]
      rw [key vs e, List.set_set]
mutual
/-- only the slots vs are stored -/
theorem Tg.keep {K : PySem.W.Frag} {vs : List Nat} : ∀ (T : Tg), (∀ i ∈ T.slots, i ∈ vs) → ∀ {v : V} {σ : L2.St} {H : Hp} {Q Q' : L2.St → Hp → Prop}, (∀ σ2 H2, wipe σ2 vs = wipe σ vs → Q σ2 H2 → Q' σ2 H2) → T.rd K v σ H Q → T.rd K v σ H Q'
  | .nm i, hi, v, σ, H, Q, Q', im, h => by
    simp only [Tg.rd] at h ⊢
    exact im _ _ (wipe_set (hi i (by simp [Tg.slots]))) h
  | .tp n l, hi, v, σ, H, Q, Q', im, h => by
    simp only [Tg.rd] at h ⊢
    have hi' : ∀ i ∈ l.slots, i ∈ vs := fun i z => hi i (by simpa [Tg.slots] using z)
    rcases h with ⟨a, xs, e, hs, hl, h⟩ | ⟨a, xs, e, hs, hl, h⟩
    · exact .inl ⟨a, xs, e, hs, hl, Tgs.keep l hi' im h⟩
    · exact .inr ⟨a, xs, e, hs, hl, Tgs.keep l hi' im h⟩
theorem Tgs.keep {K : PySem.W.Frag} {vs : List Nat} : ∀ (T : Tgs), (∀ i ∈ T.slots, i ∈ vs) → ∀ {v : List V} {σ : L2.St} {H : Hp} {Q Q' : L2.St → Hp → Prop}, (∀ σ2 H2, wipe σ2 vs = wipe σ vs → Q σ2 H2 → Q' σ2 H2) → T.rd K v σ H Q → T.rd K v σ H Q'
  | .nil, hi, v, σ, H, Q, Q', im, h => by
    simp only [Tgs.rd] at h ⊢
    exact ⟨h.1, im _ _ rfl h.2⟩
  | .cons t l, hi, v, σ, H, Q, Q', im, h => by
    simp only [Tgs.rd] at h ⊢
    obtain ⟨w, ws, e, h⟩ := h
    refine ⟨w, ws, e, Tg.keep t (fun i z => hi i (by simp [Tgs.slots, z])) (fun σ1 H1 e1 q => ?_) h⟩
    exact Tgs.keep l (fun i z => hi i (by simp [Tgs.slots, z])) (fun σ2 H2 e2 q2 => im _ _ (e2.trans e1) q2) q
end
section
variable {X : Cx} {W : WX} {pos : Pos}
def QG (X : Cx) (tg : Expr) (T : Tg) : Prop := PG X tg (T.rd X.K)
def QGs (X : Cx) (tgs : List Expr) (T : Tgs) : Prop := PGs X tgs (T.rd X.K)
theorem qg_name {i : Nat} {x : Str} (hN : X.N.Nodup) (hi : X.N[i]? = some x) (hx : Loc X.env.scope x) (hf : X.fn x = true ∨ X.env.scope.names.lookup x = some .local := by first | exact .inl rfl | exact .inr rfl | assumption) : QG X (.Name x pos) (.nm i) := by
  have h := pg_name (pos := pos) hN hi hx hf
  unfold QG; simp only [Tg.rd]; exact h
theorem qgs_nil : QGs X [] .nil := by
  unfold QGs; simp only [Tgs.rd]; exact pgs_nil
theorem qgs_cons {e : Expr} {es : List Expr} {t : Tg} {l : Tgs} (h1 : QG X e t) (h2 : QGs X es l) (hs : (assignEach (e :: es) X.env).map (·.2) = assign e X.env :: (assignEach es X.env).map (·.2) := by rfl) : QGs X (e :: es) (.cons t l) := by
  unfold QGs; simp only [Tgs.rd]; exact pgs_cons h1 h2 hs
theorem PG_or {tg : Expr} {t u : TG} (h : PG X tg t) (h' : PG X tg u) : PG X tg (fun v σ H Q => t v σ H Q ∨ u v σ H Q) := ⟨fun pins s σ H v w Q I r q => by
  rcases q with q | q
  · exact h.run pins s σ H v w Q I r q
  · exact h'.run pins s σ H v w Q I r q⟩
theorem qg_tup {es : List Expr} {k : Nat} {l : Tgs} {n : Nat} (hc : X.calm = true) (h : QGs X es l) (hn : (assignEach es X.env).length = n := by rfl) (hst : (assignEach es X.env).findIdx? (·.1) = none := by rfl) : QG X (.Tuple es k pos) (.tp n l) := by
  unfold QG; simp only [Tg.rd]; exact PG_or (pg_tup hc h hn hst) (pg_lst hc h hn hst)
variable {e : Expr} {me : ME}
def mSet (i : Nat) (m : ME) : MS := fun E ρ M => m ρ M (fun d M1 => E.nx (ρ.set i (some d)) M1) (fun x M1 => E.ex x ρ M1)
def mAsg (m : ME) (T : Tg) : MS := fun E ρ M => m ρ M (fun d M1 => T.mg d ρ M1 fun ρ' => E.nx ρ' M1) (fun x M1 => E.ex x ρ M1)
theorem qs_set {i : Nat} {x : Str} {pos' : Pos} (hN : X.N.Nodup) (hi : X.N[i]? = some x) (hx : Loc X.env.scope x) (he : QE X W e me) (hs : swapsWith e (some (.Name x pos')) pos.line X.env = pure false := by rfl) (hf : X.fn x = true ∨ X.env.scope.names.lookup x = some .local := by first | exact .inl rfl | exact .inr rfl | assumption) :
    QS X W (.Assign [.Name x pos'] e pos) (mSet i me) := PSi (ps_set hN hi hx he hs hf) fun D σ H ⟨as, M, ρ, E, r, rs, h, hE⟩ =>
  lf_bind r rs h (exS hE rs) fun d M1 as1 H1 v h1 e1 r1 rs1 rv => hE.nx _ _ h1 as1 H1 _ e1 r1 (rs1.set rv)
theorem qs_asg {tg : Expr} {T : Tg} (he : QE X W e me) (hg : QG X tg T) (hs : swapsWithSole [tg] e pos.line X.env = pure false := by rfl) (hw : swappedStores [tg] e X.env = pure none := by rfl)
    (h1 : (assignEach [tg] X.env).map (·.2) = [assign tg X.env] := by rfl) : QS X W (.Assign [tg] e pos) (mAsg me T) := by
  refine PSi (ps_asg he hg hs hw h1) fun D σ H ⟨as, M, ρ, E, r, rs, h, hE⟩ => ?_
  exact lf_bind r rs h (exS hE rs) fun d M1 as1 H1 v h1 e1 r1 rs1 rv => T.sim r1 rs1 rv h1 fun ρ' σ' q rs' => hE.nx _ _ q as1 H1 _ e1 r1 rs'
def mPar (i j : Nat) (ma : MA) : MS := fun E ρ M => ma ρ M (fun ds M1 => match ds with | [d, e] => E.nx ((ρ.set i (some d)).set j (some e)) M1 | _ => False) (fun x M1 => E.ex x ρ M1)
theorem qs_par {i j : Nat} {x y : Str} {a b : Expr} {ma : MA} {px py pt : Pos} {kt k2 pt2} (hc : X.calm = true) (hN : X.N.Nodup) (hi : X.N[i]? = some x) (hj : X.N[j]? = some y) (hij : i ≠ j)
    (hx : X.env.scope.names.lookup x = some .local) (hy : X.env.scope.names.lookup y = some .local) (ha : QA X W [a, b] ma)
    (hw : swappedStores [.Tuple [.Name x px, .Name y py] kt pt] (.Tuple [a, b] k2 pt2) X.env = pure (some [x, y]))
    (hs : swapsWithSole [.Tuple [.Name x px, .Name y py] kt pt] (.Tuple [a, b] k2 pt2) pos.line X.env = pure false := by rfl) :
    QS X W (.Assign [.Tuple [.Name x px, .Name y py] kt pt] (.Tuple [a, b] k2 pt2) pos) (mPar i j ma) := PSi (ps_par hc hN hi hj hij hx hy ha hw hs) fun D σ H ⟨as, M, ρ, E, r, rs, h, hE⟩ => by
  refine lfA_bind r rs h (exS hE rs) fun ds M1 as1 H1 vs h1 e1 r1 rs1 rv => ?_
  split at h1
  · obtain ⟨v, w, rfl, r2, r3⟩ := rv.two
    exact ⟨v, w, rfl, hE.nx _ _ h1 as1 H1 _ e1 r1 ((rs1.set r2).set r3)⟩
  · exact h1.elim
def oSetIx (o i v : D) (M : Mem) (N : Mem → Prop) : Prop := match o with
  | .ref n => match M[n]? with
    | some (.lst ds) => match i with
      | .int k => match ixN ds.length k with
        | some j => N (M.set n (.lst (ds.set j v)))
        | none => False
      | _ => False
    | some (.dct false kvs) => match keyOf i with
      | some q => kvs.length < 16000000 ∧ N (M.set n (.dct false (dput kvs q v)))
      | none => False
    | _ => False
  | _ => False
def mSetIx (mv mo mi : ME) : MS := fun E ρ M => mv ρ M (fun v M1 => mo ρ M1 (fun o M2 => mi ρ M2 (fun i M3 => oSetIx o i v M3 fun M4 => E.nx ρ M4) (fun x M3 => E.ex x ρ M3)) (fun x M2 => E.ex x ρ M2)) (fun x M1 => E.ex x ρ M1)
def rSetD : TSet := fun o y v H Q => ∃ a H', o = .ref a ∧ DPut H a y v H' ∧ Q H'
theorem set_dict (hu : X.A.units + 1 < cLine) : PSet X rSetD := fun pins s σ H o i v ov iv u Q I ro ri rv h => by
  obtain ⟨a, H', rfl, g, q⟩ := h
  obtain rfl : ov = Value.ref a := ro
  exact d_setItem hu I g ri rv fun s4 I4 => ⟨H', I4, q⟩
theorem PSet_or {t u : TSet} (h : PSet X t) (h' : PSet X u) : PSet X (fun o i v H Q => t o i v H Q ∨ u o i v H Q) := fun pins s σ H o i v ov iv w Q I ro ri rv q => by
  rcases q with q | q
  · exact h pins s σ H o i v ov iv w Q I ro ri rv q
  · exact h' pins s σ H o i v ov iv w Q I ro ri rv q
theorem nfrz_lst {H : Hp} {a : Addr} {xs : List V} (h : H a = some (.lst xs)) : ∀ ob w, H a ≠ some (.frz ob w) := fun ob w z => by rw [h] at z; cases z
theorem nfrz_dK {H : Hp} {a : Addr} {xs : List (Key × V)} (h : H a = some (.dK xs)) : ∀ ob w, H a ≠ some (.frz ob w) := fun ob w z => by rw [h] at z; cases z
/-- a list is written -/
theorem put_lst {K : PySem.W.Frag} {as : List Addr} {H : Hp} {M : Mem} {n : Nat} {a : Addr} {xs ys : List V} {ds : List D} (rp : RepM K as H M) (hn : as[n]? = some a) (h1 : H a = some (.lst xs)) (r : RelL K as H ds ys) :
    Ext K as H as (upd H a (.lst ys)) ∧ RepM K as (upd H a (.lst ys)) (M.set n (.lst ds)) :=
  have e := ext_put (u := .lst ys) rp hn (nfrz_lst h1)
  ⟨e, rp.put hn (nfrz_lst h1) ⟨ys, upd_same, r.up e⟩⟩
theorem put_dct {K : PySem.W.Frag} {as : List Addr} {H : Hp} {M : Mem} {n : Nat} {a : Addr} {xs ys : List (Key × V)} {ds : List (Key × D)} (rp : RepM K as H M) (hn : as[n]? = some a) (h1 : H a = some (.dK xs)) (r : KVR K as H ds ys) :
    Ext K as H as (upd H a (.dK ys)) ∧ RepM K as (upd H a (.dK ys)) (M.set n (.dct false ds)) :=
  have e := ext_put (u := .dK ys) rp hn (nfrz_dK h1)
  ⟨e, rp.put hn (nfrz_dK h1) ⟨ys, r.up e, upd_same⟩⟩
theorem at_dK {K : PySem.W.Frag} {as : List Addr} {H : Hp} {M : Mem} {n : Nat} {a : Addr} {kvs : List (Key × D)} (rp : RepM K as H M) (hn : as[n]? = some a) (e : M[n]? = some (.dct false kvs)) : ∃ ks, KVR K as H kvs ks ∧ H a = some (.dK ks) := by
  obtain ⟨a', ha, ks, h1, h2⟩ := rp.at_ e
  rw [hn] at ha; cases ha
  exact ⟨ks, h1, h2⟩
theorem setIx_ok {K : PySem.W.Frag} {as : List Addr} {H : Hp} {M : Mem} {o i v : D} {vo vi vv : V} {N : Mem → Prop} {Q : Hp → Prop} (rp : RepM K as H M) (ro : Rel K as H o vo) (ri : Rel K as H i vi) (rv : Rel K as H v vv) (h : oSetIx o i v M N)
    (hq : ∀ M' H', N M' → Ext K as H as H' → RepM K as H' M' → Q H') : rSetL vo vi vv H Q ∨ rSetD vo vi vv H Q := by
  cases ro <;> first | exact h.elim | skip
  rename_i n a hn
  dsimp only [oSetIx] at h
  split at h
  · rename_i ds e
    cases ri <;> first | exact h.elim | skip
    rename_i k
    dsimp only at h
    split at h
    · rename_i j ej
      obtain ⟨xs, h1, h2⟩ := at_lst rp hn e
      obtain ⟨e1, r1⟩ := put_lst rp hn h1 (h2.set rv j)
      exact .inl ⟨a, xs, k, j, rfl, rfl, h1, by rw [← h2.len]; exact ej, hq _ _ h e1 r1⟩
    · exact h.elim
  · rename_i kvs e
    split at h
    · rename_i q0 eq
      obtain ⟨ks, h1, h2⟩ := at_dK rp hn e
      obtain ⟨e1, r1⟩ := put_dct rp hn h2 (h1.put q0 rv)
      refine .inr ⟨a, _, rfl, .inl ⟨ks, q0, h2, keyOf_ok ri eq, ?_, rfl⟩, hq _ _ h.2 e1 r1⟩
      rw [← h1.len]; exact Nat.lt_of_lt_of_le h.1 (by decide)
    · exact h.elim
  · exact h.elim
theorem qs_setIx {o i : Expr} {mo mi : ME} {pos' : Pos} (hu : X.A.units + 1 < cLine) (he : QE X W e me) (ho : QE X W o mo) (hi : QE X W i mi)
    (ha : ∀ v, assign (.Subscript o i pos') X.env v = (do
      let ov ← holding [v] (eval o X.env)
      let iv ← holding [v, ov] (eval i X.env)
      standAt pos'
      holding [v, ov, iv] (setItem ov iv v)
      release [v, ov, iv] []) := by intro _; rfl)
    (hs : swapsWithSole [.Subscript o i pos'] e pos.line X.env = pure false := by rfl) (hw : swappedStores [.Subscript o i pos'] e X.env = pure none := by rfl)
    (h1 : (assignEach [.Subscript o i pos'] X.env).map (·.2) = [assign (.Subscript o i pos') X.env] := by rfl) : QS X W (.Assign [.Subscript o i pos'] e pos) (mSetIx me mo mi) :=
  PSi (ps_asg he (pg_sub ho hi (PSet_or set_list (set_dict hu)) ha) hs hw h1) fun D σ H ⟨as, M, ρ, E, r, rs, h, hE⟩ => by
    refine lf_bind r rs h (exS hE rs) fun v M1 as1 H1 vv h1 e1 r1 rs1 rv => ?_
    refine lf_bind r1 rs1 h1 (fun x M' q => (exS hE rs x M' q).mono e1) fun o M2 as2 H2 vo h2 e2 r2 rs2 ro => ?_
    refine lf_bind r2 rs2 h2 (fun x M' q => (exS hE rs x M' q).mono (e1.trans e2)) fun i M3 as3 H3 vi h3 e3 r3 rs3 ri => ?_
    exact setIx_ok r3 (ro.up e3) ri (rv.up (e2.trans e3)) h3 fun M' H' q e4 r4 => hE.nx _ _ q as3 H' _ (((e1.trans e2).trans e3).trans e4) r4 (rs3.up e4)
end
end MV
namespace MV
open PySem PySem.Spec PyProof.Rows L2
abbrev MI := Ev → Mem → (List D → (Mem → Prop) → Mem → Prop) → XM → Prop
/-- J walks the items while guard stands -/
def ItOk (K : PySem.W.Frag) (as : List Addr) (H : Hp) (J : It) (items : List D) (guard : Mem → Prop) : Prop := ∀ (as' : List Addr) (H' : Hp) (M' : Mem) (i : Nat), Ext K as H as' H' → RepM K as' H' M' → guard M' →
  (i = items.length → J.stop i H') ∧ ∀ d, items[i]? = some d → J.go i H' ∧ ∀ x H2, J.yld i H' x H2 → Ext K as' H' as' H2 ∧ RepM K as' H2 M' ∧ Rel K as' H2 d x
def lfI (K : PySem.W.Frag) (W : WX) (m : MI) : TI := fun σ H R => ∃ as M ρ k X', RepM K as H M ∧ RelS K as H ρ σ ∧ m ρ M k X' ∧
  (∀ items guard M' as' H' J, k items guard M' → Ext K as H as' H' → RepM K as' H' M' → ItOk K as' H' J items guard → R J H') ∧ ∀ x M', X' x M' → LX K as H (fun c d H => W c d σ H) x M'
abbrev QI (X : Cx) (W : WX) (tg iter : Expr) (m : MI) : Prop := PI X tg iter (lfI X.K W m)
theorem PIi {X : Cx} {tg e : Expr} {t t' : TI} (h : PI X tg e t) (i : ∀ σ H R, t' σ H R → t σ H R) : PI X tg e t' := ⟨fun pins s σ H R I q => h.run pins s σ H R I (i σ H R q)⟩
def mForL (guard : Mem → Prop) (T : Tg) (b : MS) (E : Nd) : List D → Ev → Mem → Prop
  | [], ρ, M => guard M ∧ E.nx ρ M
  | d :: ds, ρ, M => guard M ∧ T.mg d ρ M fun ρ1 => b ⟨fun ρ2 M2 => mForL guard T b E ds ρ2 M2, E.rt, E.nx, fun ρ2 M2 => mForL guard T b E ds ρ2 M2, E.ex⟩ ρ1 M
def mFor (mi : MI) (T : Tg) (b : MS) : MS := fun E ρ M => mi ρ M (fun items guard M1 => mForL guard T b E items ρ M1) (fun x M1 => E.ex x ρ M1)
theorem drop_cons {α : Type} {l : List α} {i : Nat} (h : i < l.length) : l.drop i = l[i] :: l.drop (i + 1) := List.drop_eq_getElem_cons h
section
variable {X : Cx} {W : WX} {tg iter : Expr} {body : List Stmt} {mi : MI} {T : Tg} {mb : MS} {pos : Pos}
theorem qs_for (hp : PassesOwn (model X.prog X.w) X.A X.env X.xe) (hc : X.calm = true) (hi : QI X W tg iter mi) (hg : QG X tg T) (hb : QSs X W body mb) (hs : ∀ x, foldedSetIterable iter X.env x = pure x := by intro _; rfl) :
    QS X W (.For tg iter body [] pos) (mFor mi T mb) := PSi (ps_for hp hc hi hg hb hs) fun D σ H ⟨as, M, ρ, E, r, rs, h, hE⟩ => by
  refine ⟨as, M, ρ, _, _, r, rs, h, fun items guard M1 as1 H1 J h1 e1 r1 ok => ?_, exS hE rs⟩
  refine ⟨fun i m σ' H' => ∃ as' M' ρ', Ext X.K as1 H1 as' H' ∧ RepM X.K as' H' M' ∧ RelS X.K as' H' ρ' σ' ∧ i + m = items.length ∧ mForL guard T mb E (items.drop i) ρ' M', ⟨items.length, as1, M1, ρ, .refl, r1, rs.up e1, by simp, h1⟩, ?_⟩
  rintro i m σ' H' ⟨as', M', ρ', e', r', rs', hm, h'⟩
  by_cases hl : i < items.length
  · right
    rw [drop_cons hl] at h'
    obtain ⟨hgd, h'⟩ := h'
    obtain ⟨_, ok2⟩ := ok as' H' M' i e' r' hgd
    obtain ⟨go, yld⟩ := ok2 _ (List.getElem?_eq_getElem hl)
    refine ⟨go, fun σ2 H2 => ∃ as2 M2 ρ2, Ext X.K as1 H1 as2 H2 ∧ RepM X.K as2 H2 M2 ∧ RelS X.K as2 H2 ρ2 σ2 ∧ mForL guard T mb E (items.drop (i + 1)) ρ2 M2, fun σ2 H2 ⟨as2, M2, ρ2, a, b, c, d⟩ => ⟨m - 1, by omega, as2, M2, ρ2, a, b, c, by omega, d⟩, fun x H2 y => ?_⟩
    obtain ⟨e2, r2, rx⟩ := yld x H2 y
    refine T.sim r2 (rs'.up e2) rx h' fun ρ3 σ3 h3 rs3 => ?_
    have e3 := e'.trans e2
    exact ⟨as', M', ρ3, _, r2, rs3, h3, ⟨fun ρ4 M4 q as4 H4 σ4 e4 r4 rs4 => ⟨as4, M4, ρ4, e3.trans e4, r4, rs4, q⟩, (hE.mono (e1.trans e3)).rt, (hE.mono (e1.trans e3)).nx, fun ρ4 M4 q as4 H4 σ4 e4 r4 rs4 => ⟨as4, M4, ρ4, e3.trans e4, r4, rs4, q⟩, (hE.mono (e1.trans e3)).ex⟩⟩
  · left
    have hi' : i = items.length := by omega
    rw [List.drop_eq_nil_of_le (by omega)] at h'
    exact ⟨(ok as' H' M' i e' r' h'.1).1 hi', hE.nx _ _ h'.2 as' H' σ' (e1.trans e') r' rs'⟩
def mWhile (c : MT) (b : MS) : MS := fun E ρ M => ∃ I : Nat → Ev → Mem → Prop, (∃ m, I m ρ M) ∧ ∀ m ρ M, I m ρ M →
  c ρ M (fun k M1 => if k = true then ∃ N : Ev → Mem → Prop, (∀ ρ' M', N ρ' M' → ∃ m', m' < m ∧ I m' ρ' M') ∧ b ⟨N, E.rt, E.nx, N, E.ex⟩ ρ M1 else E.nx ρ M1) (fun x M1 => E.ex x ρ M1)
theorem qs_while {c : Expr} {mc : MT} (hp : PassesOwn (model X.prog X.w) X.A X.env X.xe) (hc : QT X W c mc) (hb : QSs X W body mb) : QS X W (.While c body [] pos) (mWhile mc mb) := PSi (ps_while hp hc hb) fun D σ H ⟨as, M, ρ, E, r, rs, h, hE⟩ => by
  obtain ⟨I, ⟨m0, i0⟩, hI⟩ := h
  refine ⟨fun m σ' H' => ∃ as' M' ρ', Ext X.K as H as' H' ∧ RepM X.K as' H' M' ∧ RelS X.K as' H' ρ' σ' ∧ I m ρ' M', ⟨m0, as, M, ρ, .refl, r, rs, i0⟩, ?_⟩
  rintro m σ' H' ⟨as', M', ρ', e', r', rs', h'⟩
  refine lfT_bind r' rs' (hI m ρ' M' h') (exS (hE.mono e') rs') fun k M1 as1 H1 h1 e1 r1 rs1 => ?_
  cases k with
  | true =>
    rw [if_pos rfl] at h1 ⊢
    obtain ⟨N, hN, h1⟩ := h1
    have e2 := e'.trans e1
    refine ⟨fun σ2 H2 => ∃ as2 M2 ρ2, Ext X.K as H as2 H2 ∧ RepM X.K as2 H2 M2 ∧ RelS X.K as2 H2 ρ2 σ2 ∧ N ρ2 M2, fun σ2 H2 ⟨as2, M2, ρ2, a, b, c, d⟩ => ?_, ?_⟩
    · obtain ⟨m', hm, hI'⟩ := hN ρ2 M2 d
      exact ⟨m', hm, as2, M2, ρ2, a, b, c, hI'⟩
    · exact ⟨as1, M1, ρ', _, r1, rs1, h1, ⟨fun ρ4 M4 q as4 H4 σ4 e4 r4 rs4 => ⟨as4, M4, ρ4, e2.trans e4, r4, rs4, q⟩, (hE.mono e2).rt, (hE.mono e2).nx, fun ρ4 M4 q as4 H4 σ4 e4 r4 rs4 => ⟨as4, M4, ρ4, e2.trans e4, r4, rs4, q⟩, (hE.mono e2).ex⟩⟩
  | false =>
    rw [if_neg Bool.false_ne_true] at h1 ⊢
    exact hE.nx _ _ h1 as1 H1 _ (e'.trans e1) r1 rs1
end
def mISeq (me : ME) : MI := fun ρ M k X => me ρ M (fun x M1 => match x with
  | .tup ds => k ds (fun _ => True) M1
  | .str z => k (z.cps.toList.map fun c => .str ⟨#[c]⟩) (fun _ => True) M1
  | .ref n => match M1[n]? with
    | some (.lst ds) => k ds (fun M => M[n]? = some (.lst ds)) M1
    | some (.frz ds) => k ds (fun M => M[n]? = some (.frz ds)) M1
    | some (.dct true kvs) => k (kvs.map fun kv => kD kv.1) (fun M => M[n]? = some (.dct true kvs)) M1
    | _ => False
  | _ => False) X
def iSeqA (K : PySem.W.Frag) (tl : TE) : TI := fun σ H R => tl σ H fun x H1 =>
  (∃ a, x = .ref a ∧ (∃ xs, SqL K H1 a xs) ∧ R (Itl K a) H1) ∨ (∃ a, x = .ref a ∧ (∃ xs, SqT K H1 a xs) ∧ R (Itt K a) H1) ∨ (∃ z, x = .str z ∧ R (Its z) H1) ∨
  ∃ d o kvs, x = .ref d ∧ H1 d = some (.frz o (.dK kvs)) ∧ R (Itk d o kvs) H1
section
variable {X : Cx} {W : WX} {tg e e2 : Expr} {me : ME} {pos : Pos}
theorem pi_seqA {tl : TE} (hl : PE X e tl) : PI X tg e (iSeqA X.K tl) := by
  refine ⟨fun pins s σ H R I h => ?_⟩
  refine thn (hl.run pins s σ H _ I h) fun v s1 ⟨x, H1, I1, r1, q1⟩ => ?_
  rcases q1 with ⟨a, e, ⟨xs, hq⟩, q⟩ | ⟨a, e, ⟨xs, hq⟩, q⟩ | ⟨z, e, q⟩ | ⟨d, o, kvs, e, hd, q⟩
  · subst e
    cases r1
    obtain ⟨its, rv, p, hz⟩ := I1.list hq
    refine wpAny_pyIter_list p.isList ?_
    refine ⟨s1.heap.objs.size, [s1.heap.objs.size], _, _, H1, rfl, I1.kept (t' := s1.toks) fun b o e => Heap.get?_push_of_some _ e, turn_list a _, ⟨_, Heap.get?_push_size _ rfl, rfl, rfl⟩, fun b hb => ?_, q⟩
    have e : b = s1.heap.objs.size := by simpa using hb
    subst e
    exact I1.fpOk (Nat.le_refl _) (I1.hok.fresh (Nat.le_refl _))
  · subst e
    cases r1
    obtain ⟨its, rv, p, hz⟩ := I1.tuple hq
    refine wpAny_pyIter_tuple (show s1.heap.IsTuple a its.toArray from p) ?_
    refine ⟨s1.heap.objs.size, [s1.heap.objs.size], _, _, H1, rfl, I1.kept (t' := s1.toks) fun b o e => Heap.get?_push_of_some _ e, turn_tuple a _, ⟨_, Heap.get?_push_size _ rfl, rfl, rfl⟩, fun b hb => ?_, q⟩
    have e : b = s1.heap.objs.size := by simpa using hb
    subst e
    exact I1.fpOk (Nat.le_refl _) (I1.hok.fresh (Nat.le_refl _))
  · subst e
    obtain ⟨t, rfl⟩ := r1
    cases ha : z.cps.all (· < 128)
    · exact wpAny_pyIter_wide ha (pi_one (tk := s1.toks) I1 _ (turn_str _ z t "str_iterator" (.inr rfl)) ⟨_, Heap.get?_push_size _ rfl, rfl, rfl⟩ q)
    · exact wpAny_pyIter_ascii ha (pi_one (tk := s1.toks) I1 _ (turn_str _ z t "str_ascii_iterator" (.inl rfl)) ⟨_, Heap.get?_push_size _ rfl, rfl, rfl⟩ q)
  · subst e
    obtain rfl : v = Value.ref d := r1
    obtain ⟨hs, hgd, hx, es, ep, vs, hdt, hsz, kv, hm⟩ := I1.frzK hd
    refine iter_keys hs hgd hx hdt (pi_one (tk := s1.toks) I1 _ (turn_keys _ hdt) ⟨_, Heap.get?_push_size _ rfl, rfl, ?_⟩ q)
    rw [hsz] <;> rfl
theorem itok_lst {K : PySem.W.Frag} {as : List Addr} {H : Hp} {n : Nat} {a : Addr} {ds : List D} (hn : as[n]? = some a) : ItOk K as H (Itl K a) ds (fun M => M[n]? = some (.lst ds)) := fun as' H' M' i e r g => by
  obtain ⟨xs, h1, h2⟩ := at_lst r (pre_get e.pre hn) g
  refine ⟨fun hi => ⟨xs, SqL.of h1, by rw [← h2.len]; omega⟩, fun d hd => ?_⟩
  obtain ⟨v, hv, rv⟩ := h2.get hd
  refine ⟨⟨xs, v, SqL.of h1, hv⟩, fun x H2 ⟨e2, y⟩ => ?_⟩
  have e3 := y xs (SqL.of h1)
  rw [hv] at e3; cases e3
  subst e2
  exact ⟨.refl, r, rv⟩
theorem itok_frz {K : PySem.W.Frag} {as : List Addr} {H : Hp} {n : Nat} {a : Addr} {ds : List D} (hn : as[n]? = some a) : ItOk K as H (Itl K a) ds (fun M => M[n]? = some (.frz ds)) := fun as' H' M' i e r g => by
  obtain ⟨ob, xs, h1, h2⟩ := at_frz r (pre_get e.pre hn) g
  refine ⟨fun hi => ⟨xs, .inl (.inr ⟨ob, h1⟩), by rw [← h2.len]; omega⟩, fun d hd => ?_⟩
  obtain ⟨v, hv, rv⟩ := h2.get hd
  refine ⟨⟨xs, v, .inl (.inr ⟨ob, h1⟩), hv⟩, fun x H2 ⟨e2, y⟩ => ?_⟩
  have e3 := y xs (.inl (.inr ⟨ob, h1⟩))
  rw [hv] at e3; cases e3
  subst e2
  exact ⟨.refl, r, rv⟩
theorem itok_tup {K : PySem.W.Frag} {as : List Addr} {H : Hp} {a : Addr} {ds : List D} {xs : List V} (hs : SqT K H a xs) (hl : RelL K as H ds xs) : ItOk K as H (Itt K a) ds (fun _ => True) := fun as' H' M' i e r g => by
  have h1 := e.tup _ _ hs
  have h2 := hl.up e
  refine ⟨fun hi => ⟨xs, h1, by rw [← h2.len]; omega⟩, fun d hd => ?_⟩
  obtain ⟨v, hv, rv⟩ := h2.get hd
  refine ⟨⟨xs, v, h1, hv⟩, fun x H2 ⟨e2, y⟩ => ?_⟩
  have e3 := y xs h1
  rw [hv] at e3; cases e3
  subst e2
  exact ⟨.refl, r, rv⟩
theorem itok_str {K : PySem.W.Frag} {as : List Addr} {H : Hp} {z : Str} : ItOk K as H (Its z) (z.cps.toList.map fun c => .str ⟨#[c]⟩) (fun _ => True) := fun as' H' M' i e r g => by
  refine ⟨fun hi => ?_, fun d hd => ?_⟩
  · simp at hi
    show z.cps.size ≤ i
    omega
  · rw [List.getElem?_map] at hd
    cases hc : z.cps.toList[i]? with
    | none => rw [hc] at hd; cases hd
    | some c =>
      rw [hc] at hd
      simp only [Option.map_some, Option.some.injEq] at hd
      have hc2 : z.cps[i]? = some c := by rw [← hc]; simp
      refine ⟨(Array.getElem?_eq_some_iff.mp hc2).1, fun x H2 ⟨e2, c', hc', hx⟩ => ?_⟩
      rw [hc2] at hc'; cases hc'
      subst e2 hx hd
      exact ⟨.refl, r, .str _⟩
theorem itok_keys {K : PySem.W.Frag} {as : List Addr} {H : Hp} {n : Nat} {a : Addr} {o : Obj} {kvs : List (Key × D)} {ks : List (Key × V)} (h2 : H a = some (.frz o (.dK ks))) (h1 : KVR K as H kvs ks) : ItOk K as H (Itk a o ks) (kvs.map fun kv => kD kv.1) (fun M => M[n]? = some (.dct true kvs)) := fun as' H' M' i e r g => by
  have h3 := e.frz _ _ _ h2
  have h4 := (h1.up e)
  refine ⟨fun hi => ⟨h3, by rw [← h4.len]; simp at hi; omega⟩, fun d hd => ?_⟩
  obtain ⟨v, hv, rv⟩ := h4.keys.get hd
  rw [List.getElem?_map] at hv
  cases hk : ks[i]? with
  | none => rw [hk] at hv; cases hv
  | some kv =>
    rw [hk] at hv
    simp only [Option.map_some, Option.some.injEq] at hv
    refine ⟨⟨h3, (List.getElem?_eq_some_iff.mp hk).1⟩, fun x H2 ⟨e2, k', v', hk', hx⟩ => ?_⟩
    rw [hk] at hk'; cases hk'
    subst e2 hx hv
    exact ⟨.refl, r, rv⟩
theorem qi_seq (he : QE X W e me) : QI X W tg e (mISeq me) := PIi (pi_seqA he) fun σ H R ⟨as, M, ρ, k, X', r, rs, h, hq, hx⟩ => by
  refine lf_bind r rs h hx fun d M1 as1 H1 v h1 e1 r1 rs1 rv => ?_
  cases rv with
  | tup hs hl => exact .inr (.inl ⟨_, rfl, ⟨_, hs.1⟩, hq _ _ M1 as1 H1 _ h1 e1 r1 (itok_tup hs.1 hl)⟩)
  | str z => exact .inr (.inr (.inl ⟨z, rfl, hq _ _ M1 as1 H1 _ h1 e1 r1 itok_str⟩))
  | ref hn =>
    dsimp only at h1
    split at h1
    · rename_i ds e2
      obtain ⟨xs, h2, h3⟩ := at_lst r1 hn e2
      exact .inl ⟨_, rfl, ⟨xs, SqL.of h2⟩, hq _ _ M1 as1 H1 _ h1 e1 r1 (itok_lst hn)⟩
    · rename_i ds e2
      obtain ⟨ob, xs, h2, h3⟩ := at_frz r1 hn e2
      exact .inl ⟨_, rfl, ⟨xs, .inl (.inr ⟨ob, h2⟩)⟩, hq _ _ M1 as1 H1 _ h1 e1 r1 (itok_frz hn)⟩
    · rename_i kvs e2
      obtain ⟨a', ha, ks, h2, ob, h3⟩ := r1.at_ e2
      rw [hn] at ha; cases ha
      exact .inr (.inr (.inr ⟨_, ob, ks, rfl, h3, hq _ _ M1 as1 H1 _ h1 e1 r1 (itok_keys h3 h2)⟩))
    · exact h1.elim
  | _ => exact h1.elim
def rangeD (lo : Int) (n : Nat) : List D := (List.range n).map fun i => .int (lo + (i : Nat))
def mIRng1 (ma : MA) : MI := fun ρ M k X => ma ρ M (fun ds M1 => match ds with | [.int j] => (-(2 ^ 62) ≤ j ∧ j < 2 ^ 62) ∧ k (rangeD 0 j.toNat) (fun _ => True) M1 | _ => False) X
def mIRng2 (ma : MA) : MI := fun ρ M k X => ma ρ M (fun ds M1 => match ds with | [.int i, .int j] => (-(2 ^ 62) ≤ i ∧ i < 2 ^ 62 ∧ -(2 ^ 62) ≤ j ∧ j < 2 ^ 62) ∧ k (rangeD i (j - i).toNat) (fun _ => True) M1 | _ => False) X
theorem itok_rng {K : PySem.W.Frag} {as : List Addr} {H : Hp} {lo : Int} {n : Nat} : ItOk K as H (Itr lo n) (rangeD lo n) (fun _ => True) := fun as' H' M' i e r g => by
  refine ⟨fun hi => ?_, fun d hd => ?_⟩
  · simp [rangeD] at hi
    show n ≤ i
    omega
  · have hl : i < n := by
      have := (List.getElem?_eq_some_iff.mp hd).1
      simpa [rangeD] using this
    refine ⟨hl, fun x H2 ⟨e2, hx⟩ => ?_⟩
    subst e2 hx
    simp only [rangeD, List.getElem?_map, List.getElem?_range hl, Option.map_some, Option.some.injEq] at hd
    subst hd
    exact ⟨.refl, r, .int _⟩
theorem qi_range1 {ma : MA} {p : Pos} (hg : Gl X "range") (hm : X.mg "range" = none) (ha : QA X W [e] ma) (hs : starEach [e] X.env = [(false, eval e X.env)] := by rfl) : QI X W tg (.Call (.Name "range" p) [e] [] pos) (mIRng1 ma) :=
  PIi (pi_range1 hg hm ha hs) fun σ H R ⟨as, M, ρ, k, X', r, rs, h, hq, hx⟩ => by
    refine lfA_bind r rs h hx fun ds M1 as1 H1 vs h1 e1 r1 rs1 rv => ?_
    split at h1
    · obtain ⟨v, rfl, rx⟩ := rv.one
      cases rx
      exact ⟨_, rfl, h1.1.1, h1.1.2, hq _ _ M1 as1 H1 _ h1.2 e1 r1 itok_rng⟩
    · exact h1.elim
def enumD (ds : List D) : List D := ds.mapIdx fun i d => .tup [.int (i : Nat), d]
def mIEnumL (ma : MA) : MI := fun ρ M k X => ma ρ M (fun ds M1 => match ds with
  | [.ref n] => match M1[n]? with
    | some (.lst ds) => k (enumD ds) (fun M => M[n]? = some (.lst ds)) M1
    | _ => False
  | _ => False) X
def mIEnumT (ma : MA) : MI := fun ρ M k X => ma ρ M (fun ds M1 => match ds with
  | [.tup ds] => k (enumD ds) (fun _ => True) M1
  | _ => False) X
theorem enumD_get {ds : List D} {i : Nat} {d : D} (h : (enumD ds)[i]? = some d) : ∃ d0, ds[i]? = some d0 ∧ d = .tup [.int (i : Nat), d0] := by
  simp only [enumD, List.getElem?_mapIdx] at h
  cases e : ds[i]? with
  | none => rw [e] at h; cases h
  | some d0 => rw [e] at h; simp at h; exact ⟨d0, rfl, h.symm⟩
theorem new_pair {K : PySem.W.Frag} {as : List Addr} {H : Hp} {M : Mem} {T : Addr} {d1 d2 : D} {v1 v2 : V} (r : RepM K as H M) (hT : H T = none) (r1 : Rel K as H d1 v1) (r2 : Rel K as H d2 v2) :
    Ext K as H as (upd H T (.tup [v1, v2])) ∧ RepM K as (upd H T (.tup [v1, v2])) M ∧ Rel K as (upd H T (.tup [v1, v2])) (.tup [d1, d2]) (.ref T) :=
  ⟨ext_new hT, r.laid hT, .tup Tq.new (.cons (r1.up (ext_new hT)) (.cons (r2.up (ext_new hT)) .nil))⟩
theorem qi_enumL {ma : MA} {p tpos : Pos} {elts : List Expr} {kk : Nat} (hg : Gl X "enumerate") (hm : X.mg "enumerate" = none) (ha : QA X W [e] ma) (hs : starEach [e] X.env = [(false, eval e X.env)] := by rfl) : QI X W (.Tuple elts kk tpos) (.Call (.Name "enumerate" p) [e] [] pos) (mIEnumL ma) :=
  PIi (pi_enum hg hm ha hs) fun σ H R ⟨as, M, ρ, k, X', r, rs, h, hq, hx⟩ => by
    refine lfA_bind r rs h hx fun ds M1 as1 H1 vs h1 e1 r1 rs1 rv => ?_
    split at h1
    · obtain ⟨v, rfl, rx⟩ := rv.one
      cases rx with
      | ref hn =>
        split at h1
        · rename_i ds e2
          obtain ⟨xs, h2, h3⟩ := at_lst r1 hn e2
          refine ⟨_, xs, rfl, SqL.of h2, hq _ _ M1 as1 H1 _ h1 e1 r1 fun as' H' M' i e r g => ?_⟩
          obtain ⟨ys, h4, h5⟩ := at_lst r (pre_get e.pre hn) g
          refine ⟨fun hi => ⟨ys, SqL.of h4, by rw [← h5.len]; simp [enumD] at hi; omega⟩, fun d hd => ?_⟩
          obtain ⟨d0, hd0, rfl⟩ := enumD_get hd
          obtain ⟨v, hv, rv⟩ := h5.get hd0
          refine ⟨⟨ys, v, SqL.of h4, hv⟩, fun x H2 ⟨T, w, ex, hT, eH, y⟩ => ?_⟩
          have e3 := y ys (SqL.of h4)
          rw [hv] at e3; cases e3
          subst ex eH
          exact new_pair r hT (.int _) rv
        · exact h1.elim
    · exact h1.elim
end
end MV
namespace MV
open PySem PySem.Spec PyProof.Rows L2
section
variable {X : Cx} {W : WX} {st : Stmt} {e : Expr}
end
end MV
namespace MV
open PySem PySem.Spec PyProof.Rows L2
def wipeE (ρ : Ev) : List Nat → Ev
  | [] => ρ
  | v :: vs => (wipeE ρ vs).set v none
def mYes : MT := fun _ M Q _ => Q true M
def noX : XM := fun _ _ => False
def mLcL (guard : Mem → Prop) (T : Tg) (tt : MT) (me : ME) (ρ : Ev) (n : Nat) (Q : Mem → Prop) : List D → Mem → Prop
  | [], M => guard M ∧ Q M
  | d :: ds, M => guard M ∧ T.mg d ρ M fun ρ2 => tt ρ2 M (fun b M3 => if b = true then me ρ2 M3 (fun y M4 => match M4[n]? with
      | some (.lst acc) => acc.length < 16000000 ∧ mLcL guard T tt me ρ n Q ds (M4.set n (.lst (acc ++ [y])))
      | _ => False) noX else mLcL guard T tt me ρ n Q ds M3) noX
def mLc (mi : MI) (T : Tg) (tt : MT) (me : ME) (vs : List Nat) : ME := fun ρ M Q X => mi ρ M (fun items guard M1 => mLcL guard T tt me (wipeE ρ vs) M1.length (fun M2 => Q (.ref M1.length) M2) items (M1 ++ [.lst []])) X
abbrev W0 : WX := fun _ _ _ _ => False
section
variable {K : PySem.W.Frag} {as : List Addr} {H : Hp} {M : Mem}
theorem RelS.wipe {ρ : Ev} {σ : L2.St} (r : RelS K as H ρ σ) : ∀ vs : List Nat, RelS K as H (wipeE ρ vs) (L2.wipe σ vs)
  | [] => r
  | v :: vs => (RelS.wipe r vs).unset
theorem noX_ok {σ : L2.St} : ∀ x M', noX x M' → LX K as H (fun c d H => W0 c d σ H) x M' := fun _ _ h => h.elim
theorem lf_lc {W : WX} {mi : MI} {T : Tg} {tt : MT} {me : ME} {vs : List Nat} (hT : ∀ i ∈ T.slots, i ∈ vs) {σ : L2.St} {H : Hp} {Q : VK} (h : lf K W (mLc mi T tt me vs) σ H Q) : tLc (lfI K W mi) (T.rd K) (lfT K W0 tt) (lf K W0 me) vs σ H Q := by
  obtain ⟨as, M, ρ, Q', X', r, rs, h, hq, hx⟩ := h
  refine ⟨as, M, ρ, _, X', r, rs, h, fun items guard M1 as1 H1 J h1 e1 r1 ok D hD => ?_, hx⟩
  have rD : RepM K (as1 ++ [D]) (upd H1 D (.lst [])) (M1 ++ [.lst []]) := r1.new (o := .lst []) hD ⟨[], upd_same, .nil⟩
  have eD : Ext K as1 H1 (as1 ++ [D]) (upd H1 D (.lst [])) := (ext_new hD).trans ext_app
  have nD : (as1 ++ [D])[M1.length]? = some D := by rw [← r1.len]; exact app_at
  refine ⟨fun i m H' => ∃ as' M', Ext K (as1 ++ [D]) (upd H1 D (.lst [])) as' H' ∧ RepM K as' H' M' ∧ i + m = items.length ∧ mLcL guard T tt me (wipeE ρ vs) M1.length (fun M2 => Q' (.ref M1.length) M2) (items.drop i) M', ⟨items.length, _, _, .refl, rD, by simp, h1⟩, ?_⟩
  rintro i m H' ⟨as', M', e', r', hm, h'⟩
  have e2 := eD.trans e'
  have nD' := pre_get e'.pre nD
  by_cases hl : i < items.length
  · right
    rw [drop_cons hl] at h'
    obtain ⟨hgd, h'⟩ := h'
    obtain ⟨_, ok2⟩ := ok as' H' M' i e2 r' hgd
    obtain ⟨go, yld⟩ := ok2 _ (List.getElem?_eq_getElem hl)
    refine ⟨go, fun H2 => ∃ as2 M2, Ext K (as1 ++ [D]) (upd H1 D (.lst [])) as2 H2 ∧ RepM K as2 H2 M2 ∧ mLcL guard T tt me (wipeE ρ vs) M1.length (fun M2 => Q' (.ref M1.length) M2) (items.drop (i + 1)) M2, fun H2 ⟨as2, M2, a, b, c⟩ => ⟨m - 1, by omega, as2, M2, a, b, by omega, c⟩, fun x H2 y => ?_⟩
    obtain ⟨e3, r3, rx⟩ := yld x H2 y
    have e4 := e'.trans e3
    have rs3 : RelS K as' H2 (wipeE ρ vs) (L2.wipe σ vs) := (rs.up (e1.trans (e2.trans e3))).wipe vs
    refine T.keep hT (fun σ2 H2' ew q => ⟨?_, q⟩) (T.sim r3 rs3 rx h' fun ρ4 σ4 h4 rs4 => ?_)
    · rw [ew]
      have : ∀ (vs : List Nat) (τ : L2.St), L2.wipe (L2.wipe τ vs) vs = L2.wipe τ vs := fun vs τ => by
        apply List.ext_getElem?
        intro j
        by_cases hj : j ∈ vs
        · have key : ∀ (us : List Nat) (τ : L2.St), j ∈ us → (L2.wipe τ us)[j]? = (if j < τ.length then some none else none) := fun us τ hj => by
            induction us with
            | nil => cases hj
            | cons u us ih =>
              show ((L2.wipe τ us).set u none)[j]? = _
              by_cases hu : u = j
              · subst hu
                by_cases hl : u < τ.length
                · rw [List.getElem?_set_self (by rw [wipe_length]; exact hl), if_pos hl]
                · rw [List.getElem?_eq_none_iff.mpr (by rw [List.length_set, wipe_length]; omega), if_neg hl]
              · rw [List.getElem?_set_ne hu]
                exact ih (by rcases List.mem_cons.mp hj with z | z; exact absurd z.symm hu; exact z)
          rw [key vs _ hj, key vs _ hj, wipe_length]
        · rw [wipe_out hj]
      exact this vs σ
    · refine lfT_bind r3 rs4 h4 noX_ok fun b M3 as3 H3 h5 e5 r5 rs5 => ?_
      cases b with
      | true =>
        rw [if_pos rfl] at h5 ⊢
        refine lf_bind r5 rs5 h5 noX_ok fun dy M4 as4 H4 y h6 e6 r6 rs6 ry => ?_
        split at h6
        · rename_i acc ea
          have n4 := pre_get (e4.trans (e5.trans e6)).pre nD
          obtain ⟨ys, g1, g2⟩ := at_lst r6 n4 ea
          obtain ⟨e7, r7⟩ := put_lst r6 n4 g1 (g2.app (.cons ry .nil))
          exact ⟨ys, g1, by rw [← g2.len]; exact Nat.lt_of_lt_of_le h6.1 (by decide), as4, _, (e4.trans (e5.trans e6)).trans e7, r7, h6.2⟩
        · exact h6.elim
      | false =>
        rw [if_neg Bool.false_ne_true] at h5 ⊢
        exact ⟨as3, M3, e4.trans e5, r5, h5⟩
  · left
    have hi' : i = items.length := by omega
    rw [List.drop_eq_nil_of_le (by omega)] at h'
    exact ⟨(ok as' H' M' i e2 r' h'.1).1 hi', hq _ _ h'.2 as' H' _ (e1.trans e2) r' (.ref nD')⟩
end
section
variable {X : Cx} {W : WX} {elt tg iter : Expr} {ifs : List Expr} {scope : Scope} {own : List (Str × Nat)} {pos spos : Pos} {mi : MI} {T : Tg} {tt : MT} {me : ME}
abbrev QTs (X : Cx) (W : WX) (ifs : List Expr) (m : MT) : Prop := PTs X ifs (lfT X.K W m)
theorem qts_nil : QTs X W [] mYes := ⟨fun pins s σ H Q I ⟨as, M, ρ, Q', X', r, rs, h, hq, hx⟩ => pts_nil.run pins s σ H Q I (hq true M h as H .refl r)⟩
theorem qts_one {c : Expr} {m : MT} (h : QT X W c m) : QTs X W [c] m := pts_one h
theorem qe_lc (hc : X.calm = true) (hN : X.N.Nodup) (hi : QI X W tg iter mi) (ok : BlkOk X.N X.env.scope scope own)
    (hg : ∀ (s : Shared) (H : Hp) (C : Addr) (cl : List (Str × Addr)) (fp : List Addr), QG (X.blk s H scope (compEnvC scope cl C X.env) fp) tg T) (ht : ∀ (s : Shared) (H : Hp) (C : Addr) (cl : List (Str × Addr)) (fp : List Addr), QTs (X.blk s H scope (compEnvC scope cl C X.env) fp) W0 ifs tt)
    (he : ∀ (s : Shared) (H : Hp) (C : Addr) (cl : List (Str × Addr)) (fp : List Addr), QE (X.blk s H scope (compEnvC scope cl C X.env) fp) W0 elt me) (hT : ∀ i ∈ T.slots, i ∈ own.map (·.2)) (hs : ∀ x, foldedSetIterable iter X.env x = pure x := by intro _; rfl) :
    QE X W (.ListComp elt [⟨tg, iter, ifs, 0⟩] scope pos) (mLc mi T tt me (own.map (·.2))) := PEi (pe_lc (g := T.rd X.K) (tt := lfT X.K W0 tt) (te := lf X.K W0 me) hc hN hi ok hg ht he hs) fun σ H Q h => lf_lc hT h
theorem qs_setLc {i : Nat} {y : Str} {py : Pos} (hc : X.calm = true) (hN : X.N.Nodup) (hy : X.N[i]? = some y) (hyl : X.env.scope.names.lookup y = some .local)
    (hsw : swapsWith (.ListComp elt [⟨tg, iter, ifs, 0⟩] scope pos) (some (.Name y py)) spos.line X.env = pure true) (hi : QI X W tg iter mi) (ok : BlkOk X.N X.env.scope scope own)
    (hg : ∀ (s : Shared) (H : Hp) (C : Addr) (cl : List (Str × Addr)) (fp : List Addr), QG (X.blk s H scope (compEnvC scope cl C X.env) fp) tg T) (ht : ∀ (s : Shared) (H : Hp) (C : Addr) (cl : List (Str × Addr)) (fp : List Addr), QTs (X.blk s H scope (compEnvC scope cl C X.env) fp) W0 ifs tt)
    (he : ∀ (s : Shared) (H : Hp) (C : Addr) (cl : List (Str × Addr)) (fp : List Addr), QE (X.blk s H scope (compEnvC scope cl C X.env) fp) W0 elt me) (hT : ∀ i ∈ T.slots, i ∈ own.map (·.2)) (hs : ∀ x, foldedSetIterable iter X.env x = pure x := by intro _; rfl) :
    QS X W (.Assign [.Name y py] (.ListComp elt [⟨tg, iter, ifs, 0⟩] scope pos) spos) (mSet i (mLc mi T tt me (own.map (·.2)))) := PSi (ps_setLc (g := T.rd X.K) (tt := lfT X.K W0 tt) (te := lf X.K W0 me) hc hN hy hyl hsw hi ok hg ht he hs) fun D σ H ⟨as, M, ρ, E, r, rs, h, hE⟩ => by
  have h : mLc mi T tt me (own.map (·.2)) ρ M (fun d M1 => E.nx (ρ.set i (some d)) M1) (fun x M1 => E.ex x ρ M1) := h
  exact lf_lc hT (lf_bind (k := fun d M1 => E.nx (ρ.set i (some d)) M1) (X' := fun x M1 => E.ex x ρ M1) r rs h (exS hE rs) fun d M1 as1 H1 v h1 e1 r1 rs1 rv => hE.nx _ _ h1 as1 H1 _ e1 r1 (rs1.set rv))
end
/-- what is known of the classes by their names; fs: the names of fields and of methods that are asked -/
structure ClsN (K : PySem.W.Frag) (cs : List Str) (fs : List Str) : Prop where
  cls : ∀ c ∈ cs, Cls K (He.ga K c)
  no : ∀ c ∈ cs, ∀ f ∈ fs, NoAttr K (He.ga K c) f
def mFld (cs : List Str) (ma : ME) (f : Str) : ME := fun ρ M Q X => ma ρ M (fun x M1 => match x with
  | .ref n => match M1[n]? with
    | some (.ins c fs) => c ∈ cs ∧ match fs.lookup f with
      | some d => Q d M1
      | none => False
    | _ => False
  | _ => False) X
section
variable {K : PySem.W.Frag} {as : List Addr} {H : Hp} {M : Mem}
end
section
variable {X : Cx} {W : WX} {o e value : Expr} {f : Str} {pos pos' apos cpos : Pos} {ma mv : ME} {cs : List Str} {all : List Str} {es : List Expr}
abbrev OM := D → List D → Mem → DK → Prop
def isT (T : String) (x : D) (M : Mem) : Prop := match x with
  | .str _ => T = "str"
  | .ref n => T = "list" ∧ match M[n]? with | some (.lst _) => True | _ => False
  | _ => False
def mBM (T : String) (r : OM) (mo : ME) (ma : MA) : ME := fun ρ M Q X => mo ρ M (fun x M1 => isT T x M1 ∧ ma ρ M1 (fun xs M2 => r x xs M2 Q) X) X
def SimM (K : PySem.W.Frag) (r : V → List V → Hp → VK → Prop) (o : OM) : Prop := ∀ (as : List Addr) (H : Hp) (M : Mem) (dx : D) (ds : List D) (x : V) (vs : List V) (k : DK) (Q : VK), RepM K as H M → Rel K as H dx x → RelL K as H ds vs → o dx ds M k → (∀ d M', k d M' → LQ K as H Q d M') → r x vs H Q
theorem isT_ok {K : PySem.W.Frag} {as : List Addr} {H : Hp} {M : Mem} {T : String} {d : D} {x : V} (rp : RepM K as H M) (rx : Rel K as H d x) (h : isT T d M) : tyV K T x H := by
  cases rx <;> first | exact h.elim | skip
  · exact h
  · rename_i n a hn
    obtain ⟨h1, h2⟩ := h
    split at h2
    · rename_i ds e
      obtain ⟨xs, g1, g2⟩ := at_lst rp hn e
      exact .inl ⟨h1, xs, SqL.of g1⟩
    · exact h2.elim
theorem qe_bm {T id : String} {name : Str} {r : V → List V → Hp → VK → Prop} {rm : OM} {mo : ME} {mar : MA} (pa : PlainAttrs T) (slot : Slot T name id) (hty : typeOf (.builtin id) = pure (.type "method_descriptor")) (hm : MtR X id r) (hs : SimM X.K r rm) (ho : QE X W o mo) (ha : QA X W (e :: es) mar)
    (hbase : attributeBase o name X.env (eval o X.env) = eval o X.env := by rfl)
    (hfew : ((backTo cpos (starEach (e :: es) X.env)).all (fun x => !x.1) && (backToKw cpos (keywordEach [] X.env)).all (fun x => x.1.isSome)
      && decide ((e :: es).length + ([] : List Keyword).length + (if ([] : List Keyword).isEmpty then 0 else 1) < 30)) = true := by rfl)
    (hline : (apos.endLine == cpos.line) = true := by rfl) (hst : starEach (e :: es) X.env = (false, eval e X.env) :: starEach es X.env := by rfl) (hplain : (backTo cpos (starEach es X.env)).any (·.1) = false := by rfl) :
    QE X W (.Call (.Attribute o name apos) (e :: es) [] cpos) (mBM T rm mo mar) := PEi (pe_bm pa slot hty hm ho ha hbase hfew hline hst hplain) fun σ H Q ⟨as, M, ρ, Q', X', r, rs, h, hq, hx⟩ => by
  refine lf_bind r rs h hx fun d M1 as1 H1 v h1 e1 r1 rs1 rv => ⟨isT_ok r1 rv h1.1, ?_⟩
  refine lfA_bind r1 rs1 h1.2 (fun x M' q => (hx x M' q).mono e1) fun ds M2 as2 H2 vs h2 e2 r2 rs2 rvs => ?_
  exact hs as2 H2 M2 d ds v vs Q' Q r2 (rv.up e2) rvs h2 fun d M' q => (hq d M' q).mono (e1.trans e2)
end
def omAppend : OM := fun x ds M Q => match x, ds with
  | .ref n, [d] => match M[n]? with
    | some (.lst l) => l.length < 16000000 ∧ Q .non (M.set n (.lst (l ++ [d])))
    | _ => False
  | _, _ => False
section
variable {K : PySem.W.Frag}
theorem sim_append : SimM K rAppend omAppend := fun as H M dx ds x vs k Q rp rx rv h hk => by
  unfold omAppend at h
  split at h
  · obtain ⟨v, rfl, r1⟩ := rv.one
    cases rx with
    | ref hn =>
      split at h
      · rename_i l e
        obtain ⟨xs, g1, g2⟩ := at_lst rp hn e
        obtain ⟨e7, r7⟩ := put_lst rp hn g1 (g2.app (.cons r1 .nil))
        exact ⟨_, xs, v, rfl, rfl, g1, by rw [← g2.len]; exact Nat.lt_of_lt_of_le h.1 (by decide), hk _ _ h.2 as _ _ e7 r7 .non⟩
      · exact h.elim
  · exact h.elim
end
inductive QJ (X : Cx) (W : WX) : List Expr → List ME → Prop where
  | nil : QJ X W [] []
  | cons {e : Expr} {m : ME} {es : List Expr} {ms : List ME} (h : QE X W e m) (r : QJ X W es ms) : QJ X W (e :: es) (m :: ms)
section
variable {X : Cx} {W : WX} {e : Expr} {me : ME} {pos : Pos}
end
end MV
namespace MV
open PySem PySem.Spec PyProof.Rows L2
abbrev WF := List D → Mem → DK → XM → Prop
/-- the promise: what the mirror says -/
def spM (K : PySem.W.Frag) (n : Nat) (w : WF) : Sp := fun vs H Q E => ∃ as M ds Q' X', vs.length = n ∧ RepM K as H M ∧ RelL K as H ds vs ∧ w ds M Q' X' ∧ (∀ d M', Q' d M' → LQ K as H Q d M') ∧ ∀ x M', X' x M' → LX K as H E x M'
/-- how a call of n positional values and keywords ks binds -/
structure DBn (K : PySem.W.Frag) (fd : FuncData) (ps : List Str) (n : Nat) (ks : List Str) (gD : List D → List D → List D) : Prop where
  ex : ∃ g gV, KBn K fd ps n ks g gV ∧ ∀ (as : List Addr) (H : Hp) (ds es : List D) (vs zs : List V), ds.length = n → es.length = ks.length → RelL K as H ds vs → RelL K as H es zs → RelL K as H (gD ds es) (gV vs zs)
structure Fn (P : Program) (w : World) (K : PySem.W.Frag) (mg : Str → Option Value) (base : Heap) (k : Nat) (f : Addr) (ps : List Str) (W : WF) (n : Nat) (ks : List Str) (gD : List D → List D → List D) : Prop where
  ok : ∃ fd, FnOk P w K mg base (CX P w) k f fd ps (spM K ps.length W) ∧ DBn K fd ps n ks gD
  kp : PySem.W.keepIn K (.ref f) = true
abbrev TA2 := L2.St → Hp → (List V → List V → Hp → Prop) → Prop
abbrev MA2 := Ev → Mem → (List D → List D → Mem → Prop) → XM → Prop
def PCW (X : Cx) (es : List Expr) (kws : List Keyword) (ks : List Str) (pos : Pos) (t : TA2) : Prop := ∀ (f : Value) (first : List Value) (pins : List (Addr × Obj)) (s : Shared) (σ : L2.St) (H : Hp) (R : List V → List V → Hp → Prop) (Qv : Value → Shared → Prop), Inv X pins σ H s → PySem.W.keepIn X.K f = true → t σ H R →
  (∀ us ws vs zs H2 s2, Inv X pins σ H2 s2 → Vals vs us → Vals zs ws → R vs zs H2 → wpAny (model X.prog X.w) X.A (call f (first ++ us) (ks.zip ws)) Qv X.xe s2) →
  wpAny (model X.prog X.w) X.A (callWith pos f first (backTo pos (starEach es X.env)) (backToKw pos (keywordEach kws X.env))) Qv X.xe s
def lfA2 (K : PySem.W.Frag) (W : WX) (m : MA2) : TA2 := fun σ H R => ∃ as M ρ k X', RepM K as H M ∧ RelS K as H ρ σ ∧ m ρ M k X' ∧ (∀ ds es M' as' H' vs zs, k ds es M' → Ext K as H as' H' → RepM K as' H' M' → RelL K as' H' ds vs → RelL K as' H' es zs → R vs zs H') ∧ ∀ x M', X' x M' → LX K as H (fun c d H => W c d σ H) x M'
abbrev QCW (X : Cx) (W : WX) (es : List Expr) (kws : List Keyword) (ks : List Str) (pos : Pos) (m : MA2) : Prop := PCW X es kws ks pos (lfA2 X.K W m)
def mArgs0 : MA2 := fun _ M k _ => k [] [] M
def mArgsP (ma : MA) : MA2 := fun ρ M k X => ma ρ M (fun ds M1 => k ds [] M1) X
def mArgsK (mk : MA) : MA2 := fun ρ M k X => mk ρ M (fun es M1 => k [] es M1) X
def mArgsPK (ma mk : MA) : MA2 := fun ρ M k X => ma ρ M (fun ds M1 => mk ρ M1 (fun es M2 => k ds es M2) X) X
section
variable {X : Cx} {W : WX} {e : Expr} {es : List Expr} {kws : List Keyword} {ks : List Str} {pos : Pos} {ma mk : MA} {me : ME}
theorem qcwP (ha : QA X W (e :: es) ma) (he : starEach (e :: es) X.env = (false, eval e X.env) :: starEach es X.env := by rfl) (hpl : (backTo pos (starEach es X.env)).any (·.1) = false := by rfl) : QCW X W (e :: es) [] [] pos (mArgsP ma) := fun f first pins s σ H R Qv I kp ⟨as, M, ρ, k, X', r, rs, h, hq, hx⟩ hk =>
  PySem.W.callWith_K (h₀ := X.base) I.ok.mod.kin kp (thn (ha.run pos pins s σ H (fun vs H' => R vs [] H') I ⟨as, M, ρ, _, X', r, rs, h, fun ds M' q as' H' vs e r' rv => hq ds [] M' as' H' vs [] q e r' rv .nil, hx⟩) fun us s1 ⟨vs, H1, I1, rv, q⟩ => ⟨I1.kIn, hk us [] vs [] H1 s1 I1 rv .nil q⟩) he hpl
end
def mCall (w : WF) (n m : Nat) (gD : List D → List D → List D) (ma : MA2) : ME := fun ρ M Q X => ma ρ M (fun ds es M1 => (ds.length = n ∧ es.length = m) ∧ w (gD ds es) M1 Q X) X
def mMeth (c : Str) (mn : Str) (w : WF) (n m : Nat) (gD : List D → List D → List D) (mo : ME) (ma : MA2) : ME := fun ρ M Q X => mo ρ M (fun x M1 => match x with
  | .ref a => match M1[a]? with
    | some (.ins c' fs) => (c' = c ∧ fs.lookup mn = none) ∧ ma ρ M1 (fun ds es M2 => ((x :: ds).length = n ∧ es.length = m) ∧ w (gD (x :: ds) es) M2 Q X) X
    | _ => False
  | _ => False) X
def mMake (c : Str) (w : WF) (n m : Nat) (gD : List D → List D → List D) (ma : MA2) : ME := fun ρ M Q X => ma ρ M (fun ds es M1 => (ds.length + 1 = n ∧ es.length = m) ∧ w (gD (.ref M1.length :: ds) es) (M1 ++ [.ins c []]) (fun v M2 => match v with | .non => Q (.ref M1.length) M2 | _ => False) X) X
section
variable {X : Cx} {W : WX} {x m : Str} {es : List Expr} {kws : List Keyword} {ks ps : List Str} {p pos apos : Pos} {ma : MA2} {k n : Nat} {w : WF} {gD : List D → List D → List D} {f C : Addr} {o : Expr} {mo : ME}
theorem run_fnU {fd : FuncData} {sp : Sp} {E : XK} {g : List Value → List Value → List Value} {gV : List V → List V → List V} {pins : List (Addr × Obj)} {σ : L2.St} {H : Hp} {s : Shared} {Q : VK} {us ws : List Value} {vs zs : List V} (F : FnOk X.prog X.w X.K X.mg X.base (CX X.prog X.w) k f fd ps sp) (hr : Room k X.A) (hb : KBn X.K fd ps n ks g gV) (hx : PassesAt (CX X.prog X.w) X σ E)
    (I : Inv X pins σ H s) (r : Vals vs us) (rz : Vals zs ws) (l1 : vs.length = n) (l2 : zs.length = ks.length) (h : sp (gV vs zs) H Q E) : wpAny (model X.prog X.w) X.A (call (.ref f) us (ks.zip ws)) (EP X pins σ Q) X.xe s := by
  have r2 := hb.rel r rz
  refine wpAny_call (codeAny_mono (F.run X.A X.stack s H ⟨us, ks.zip ws⟩ (g us ws) (gV vs zs) Q E hr I.env0 (hb.to s us ws I.kIn (r.length.symm.trans l1) (rz.length.symm.trans l2)) r2 h) fun r s' hq => ?_)
  cases r with
  | error e => exact hx pins H s e s' I hq
  | ok fl =>
    cases fl with
    | ret u => exact I.after hq
    | next => exact False.elim hq
    | brk => exact False.elim hq
    | cont => exact False.elim hq
/-- the mirror's word as the promise -/
theorem spM_of {K : PySem.W.Frag} {as : List Addr} {H : Hp} {M : Mem} {ds : List D} {vs : List V} {N : Nat} {Q : VK} {E : XK} {k : DK} {X' : XM} (r : RepM K as H M) (rv : RelL K as H ds vs) (hl : vs.length = N) (h : w ds M k X') (hq : ∀ d M', k d M' → LQ K as H Q d M') (hx : ∀ x M', X' x M' → LX K as H E x M') : spM K N w vs H Q E := ⟨as, M, ds, k, X', hl, r, rv, h, hq, hx⟩
/-- f(..) -/
theorem qe_call (F : Fn X.prog X.w X.K X.mg X.base k f ps w n ks gD) (hr : Room k X.A) (hg : Gl X x) (hm : X.mg x = some (.ref f)) (tk : Takes X W) (ha : QCW X W es kws ks pos ma) (hgl : ∀ (ds es : List D), ds.length = n → es.length = ks.length → (gD ds es).length = ps.length) (hdb : (x == ("__debug__" : Str)) = false := by decide) :
    QE X W (.Call (.Name x p) es kws pos) (mCall w n ks.length gD ma) := by
  obtain ⟨⟨fd, G, ⟨g, gV, hb, hrel⟩⟩, kp⟩ := F
  refine ⟨fun pins s σ H Q I ⟨as, M, ρ, Q', X', r, rs, h, hq, hx⟩ => ?_⟩
  refine wpAny_Call_Name_kw (ld_glob I hg hm ?_ hdb)
  refine ha (.ref f) [] pins s σ H (fun vs zs H1 => (vs.length = n ∧ zs.length = ks.length) ∧ spM X.K ps.length w (gV vs zs) H1 Q (WE W σ)) _ I kp ⟨as, M, ρ, _, X', r, rs, h, fun ds es M1 as1 H1 vs zs q e1 r1 rv rz => ?_, hx⟩ fun us ws vs zs H2 s2 I2 rv rz q => ?_
  · obtain ⟨⟨l1, l2⟩, q⟩ := q
    have rg := hrel as1 H1 ds es vs zs l1 l2 rv rz
    exact ⟨⟨by rw [← rv.len]; exact l1, by rw [← rz.len]; exact l2⟩, spM_of r1 rg (by rw [← rg.len]; exact hgl ds es l1 l2) q (fun d M' q => (hq d M' q).mono e1) fun x M' q => (hx x M' q).mono e1⟩
  · exact run_fnU G hr hb (passAt tk σ) I2 rv rz q.1.1 q.1.2 q.2
end
def startE (N : List Str) (ds : List D) : Ev := ds.map some ++ List.replicate (N.length - ds.length) none
theorem RelL.start {K : PySem.W.Frag} {as : List Addr} {H : Hp} {ds : List D} {vs : List V} (N : List Str) (r : RelL K as H ds vs) : RelS K as H (startE N ds) (L2.start N vs) := by
  refine ⟨by simp [startE, L2.start, r.len], fun i d h => ?_⟩
  unfold startE at h
  unfold L2.start
  by_cases hl : i < ds.length
  · rw [List.getElem?_append_left (by simpa using hl), List.getElem?_map] at h
    cases e : ds[i]? with
    | none => rw [e] at h; cases h
    | some d0 =>
      rw [e] at h
      simp at h
      subst h
      obtain ⟨v, e2, rv⟩ := r.get e
      exact ⟨v, by rw [List.getElem?_append_left (by simpa [← r.len] using hl), List.getElem?_map, e2]; rfl, rv⟩
  · rw [List.getElem?_append_right (by simpa using hl), List.getElem?_replicate] at h
    split at h <;> cases h
/-- the mirror of a def by its body -/
def wOf (N : List Str) (m : MS) : WF := fun ds M Q X => m ⟨fun _ M' => Q .non M', Q, fun _ _ => False, fun _ _ => False, fun x _ M' => X x M'⟩ (startE N ds) M
theorem body_ok {K : PySem.W.Frag} {N : List Str} {m : MS} {n : Nat} {vs : List V} {H : Hp} {Q : VK} {E : XK} (h : spM K n (wOf N m) vs H Q E) : lfS K (fun c d _ H => E c d H) m { nx := fun _ H' => Q .non H', rt := Q } (L2.start N vs) H := by
  obtain ⟨as, M, ds, Q', X', hl, r, rv, h, hq, hx⟩ := h
  refine ⟨as, M, startE N ds, _, r, rv.start N, h, ⟨fun ρ M' q as' H' σ e r' _ => hq _ _ q as' H' _ e r' .non, hq, fun _ _ q => q.elim, fun _ _ q => q.elim, fun x ρ M' q as' H' σ c d e r' _ rx => hx _ _ q as' H' c d e r' rx⟩⟩
theorem spM_len {K : PySem.W.Frag} {n : Nat} {w : WF} (vs : List V) (H : Hp) (Q : VK) (E : XK) (h : spM K n w vs H Q E) : vs.length = n := let ⟨_, _, _, _, _, hl, _⟩ := h; hl
/-- the def: from the derivation of its body -/
theorem fn_ok {P : Program} {w : World} {K : PySem.W.Frag} {mg : Str → Option Value} {base : Heap} {x qual : Str} {params : Arguments} {body : List Stmt} {scope : Scope} {dvs : List V} {kws : List (Str × V)} {f : Addr} {fd : FuncData} {N ps : List Str} {k : Nat} {m : MS}
    (F : FunD K x qual params body scope dvs kws f fd) (S : FnScope N ps scope)
    (hb : ∀ (cdv : Value) (A : Around) (outer : List Env) (s : Shared) (H : Hp) (E : XK), Room k (A.deeper (envOfC qual scope s.heap.objs.size f cdv)) → Takes (cxOf (CX P w) P w K mg base N qual scope f cdv A outer s H E) (fun c d _ H => E c d H) → PassesOwn (model P w) (A.deeper (envOfC qual scope s.heap.objs.size f cdv)) (envOfC qual scope s.heap.objs.size f cdv) (cxOf (CX P w) P w K mg base N qual scope f cdv A outer s H E).xe →
      QSs (cxOf (CX P w) P w K mg base N qual scope f cdv A outer s H E) (fun c d _ H => E c d H) body m) : FnOk P w K mg base (CX P w) (k + 1) f fd ps (spM K ps.length (wOf N m)) :=
  F.ok S spM_len fun cdv A outer s H vs Q E hr h => ⟨_, hb cdv A outer s H E hr (takes_of rfl rfl rfl rfl) (passes_of rfl), body_ok h⟩
end MV
namespace MV
open PySem PySem.Spec PyProof.Rows L2
/-- the test of a clause: the classes cs -/
def TyOk (X : Cx) (ty : Expr) (cs : List Value) : Prop := ∀ (a : Addr) (pn pins : List (Addr × Obj)) (s : Shared) (σ : L2.St) (H : Hp) (cls : Value) (b : Bool) (Q : Value → Shared → Prop) (E : Value → Shared → Prop), Inv (X.suite a pn) pins σ H s →
  PySem.W.Looks (model X.prog X.w) s.heap (typeOf (.ref a)) cls → PySem.W.exmAny X.K cls cs = some b →
  (∀ v h', (∀ c o, s.heap.get? c = some o → h'.get? c = some o) → PySem.W.Looks (model X.prog X.w) h' (excMatches (.ref a) v) b → Q v { s with heap := h' }) → wpAny (model X.prog X.w) (X.A.mark (some (.ref a))) (eval ty X.env) Q E s
/-- the context of such a suite; xe: what is wished of an exception that leaves it -/
abbrev suiteY (X : Cx) (a : Addr) (pn : List (Addr × Obj)) (xe : Value → Shared → Prop) : Cx := { X with A := X.A.mark (some (.ref a)), calm := false, pn := pn, xe := xe }
section
variable {X : Cx} {pins : List (Addr × Obj)} {σ : L2.St} {H : Hp} {s : Shared}
end
/-- a clause: its classes, the slot of its name, its suite -/
abbrev ClauseK := List Value × Option Nat × (Addr → Value → Option Addr → TS)
def wUn (oi : Option Nat) (W : WX) : WX := fun c d σ H => W c d (match oi with | none => σ | some i => σ.set i none) H
def SuiteOk (X : Cx) (W : WX) (sts : List Stmt) (ts : Addr → Value → Option Addr → TS) : Prop :=
  ∀ (a : Addr) (oe : Obj) (cls : Value) (d : Option Addr) (pn : List (Addr × Obj)) (xe : Value → Shared → Prop), Zc cls d oe → (∃ vs, oe.data = .fields vs) → HotK (suiteY X a ((a, oe) :: pn) xe) → Takes (suiteY X a ((a, oe) :: pn) xe) W → PSs (suiteY X a ((a, oe) :: pn) xe) sts (ts a cls d)
inductive HdK (X : Cx) (W : WX) : List ExceptHandler → List ClauseK → Prop
  | nil : HdK X W [] []
  | one {ty : Expr} {cs : List Value} {ts : Addr → Value → Option Addr → TS} {b₀ : Stmt} {suite : List Stmt} {pos' : Pos} {hds : List ExceptHandler} {l : List ClauseK} (hc : TyOk X ty cs) (hsu : SuiteOk X W (b₀ :: suite) ts) (r : HdK X W hds l) :
      HdK X W (.ExceptHandler (some ty) none (b₀ :: suite) pos' :: hds) ((cs, none, ts) :: l)
  | as_ {ty : Expr} {n : Str} {i : Nat} {cs : List Value} {ts : Addr → Value → Option Addr → TS} {b₀ : Stmt} {suite : List Stmt} {pos' : Pos} {hds : List ExceptHandler} {l : List ClauseK} (hc : TyOk X ty cs) (hN : X.N.Nodup) (hi : X.N[i]? = some n) (hln : X.env.kindOf n = some .local)
      (hsu : SuiteOk X (wUn (some i) W) (b₀ :: suite) ts) (r : HdK X W hds l) : HdK X W (.ExceptHandler (some ty) (some n) (b₀ :: suite) pos' :: hds) ((cs, some i, ts) :: l)
section
variable {X : Cx} {body : List Stmt} {h₀ : ExceptHandler} {hds : List ExceptHandler} {l : List ClauseK} {pos : Pos} {tb : WX → TS} {Wout : WX}
end
end MV
namespace MV
open PySem PySem.Spec PyProof.Rows L2
section
variable {X : Cx} {body : List Stmt} {h₀ : ExceptHandler} {hds : List ExceptHandler} {l : List ClauseK} {pos : Pos} {tb : WX → TS} {Wout : WX} {f₀ : Stmt} {fs : List Stmt} {tf : TS}
end
end MV
namespace MV
open PySem PySem.Spec PyProof.Rows L2
/-- a clause: the names of its classes, the slot of its name, its suite by the exception's addresses and class -/
structure MCl where
  cs : List Str
  i : Option Nat
  s : Addr → Addr → Str → MS
/-- sub x y: whether the class x is a subclass of y (of the program's exceptions) -/
def ndAs (i : Nat) (E : Nd) : Nd := ⟨fun ρ M => E.nx (ρ.set i none) M, E.rt, fun ρ M => E.bk (ρ.set i none) M, fun ρ M => E.ct (ρ.set i none) M, E.ex⟩
def mCatch (sub : Str → Str → Option Bool) (E : Nd) : List MCl → Exn → Ev → Mem → Prop
  | [], x, ρ, M => E.ex x ρ M
  | c :: r, x, ρ, M => (∀ y ∈ c.cs, (sub x.c y).isSome = true) ∧ if (c.cs.any fun y => sub x.c y == some true) = true then (∀ a dd, match c.i with
      | none => c.s a dd x.c ⟨E.nx, E.rt, E.bk, E.ct, E.ex⟩ ρ M
      | some i => c.s a dd x.c ⟨(ndAs i E).nx, E.rt, (ndAs i E).bk, (ndAs i E).ct, fun y ρ M => E.ex y (ρ.set i none) M⟩ (ρ.set i (some (.exn a dd x.c x.ns x.ds))) M) else mCatch sub E r x ρ M
def mTry (sub : Str → Str → Option Bool) (b : MS) (cl : List MCl) : MS := fun E ρ M => b ⟨E.nx, E.rt, E.bk, E.ct, mCatch sub E cl⟩ ρ M
/-- what the head tells of the exceptions -/
def XOk (K : PySem.W.Frag) (fl : List Str) (c : Str) : Prop := XfC K (He.ga K c) ∧ ∀ f ∈ fl, PySem.W.findIn K (.ref (He.ga K c)) f = some none
structure XcN (K : PySem.W.Frag) (sub : Str → Str → Option Bool) (fl : List Str) : Prop where
  exm : ∀ x y b, sub x y = some b → PySem.W.exmOne K (.ref (He.ga K x)) (.ref (He.ga K y)) = some b
  xf : ∀ x y b, sub x y = some b → XOk K fl x
def SuiteM (X : Cx) (W : WX) (fl : List Str) (sts : List Stmt) (s : Addr → Addr → Str → MS) : Prop :=
  ∀ (a : Addr) (oe : Obj) (cls : Value) (d : Option Addr) (pn : List (Addr × Obj)) (xe : Value → Shared → Prop) (dd : Addr) (c : Str), Zc cls d oe → (∃ vs, oe.data = .fields vs) → HotK (suiteY X a ((a, oe) :: pn) xe) → Takes (suiteY X a ((a, oe) :: pn) xe) W →
    cls = .ref (He.ga X.K c) → d = some dd → XOk X.K fl c → QSs (suiteY X a ((a, oe) :: pn) xe) W sts (s a dd c)
inductive HdM (X : Cx) (W : WX) (fl : List Str) : List ExceptHandler → List MCl → Prop
  | nil : HdM X W fl [] []
  | one {ty : Expr} {c0 : Str} {cs : List Str} {s : Addr → Addr → Str → MS} {b₀ : Stmt} {suite : List Stmt} {pos' : Pos} {hds : List ExceptHandler} {l : List MCl} (hc : TyOk X ty ((c0 :: cs).map fun y => .ref (He.ga X.K y)))
      (hsu : SuiteM X (wUn none W) fl (b₀ :: suite) s) (r : HdM X W fl hds l) : HdM X W fl (.ExceptHandler (some ty) none (b₀ :: suite) pos' :: hds) (⟨c0 :: cs, none, s⟩ :: l)
  | as_ {ty : Expr} {n : Str} {i : Nat} {c0 : Str} {cs : List Str} {s : Addr → Addr → Str → MS} {b₀ : Stmt} {suite : List Stmt} {pos' : Pos} {hds : List ExceptHandler} {l : List MCl} (hc : TyOk X ty ((c0 :: cs).map fun y => .ref (He.ga X.K y))) (hN : X.N.Nodup) (hi : X.N[i]? = some n) (hln : X.env.kindOf n = some .local)
      (hsu : SuiteM X (wUn (some i) W) fl (b₀ :: suite) s) (r : HdM X W fl hds l) : HdM X W fl (.ExceptHandler (some ty) (some n) (b₀ :: suite) pos' :: hds) (⟨c0 :: cs, some i, s⟩ :: l)
def clTs (K : PySem.W.Frag) (W : WX) (fl : List Str) (s : Addr → Addr → Str → MS) : Addr → Value → Option Addr → TS := fun a cls d D σ H => ∃ dd c, cls = .ref (He.ga K c) ∧ d = some dd ∧ XOk K fl c ∧ lfS K W (s a dd c) D σ H
section
variable {X : Cx} {W : WX} {body : List Stmt} {h₀ : ExceptHandler} {hds : List ExceptHandler} {cl : List MCl} {pos : Pos} {mb : MS} {sub : Str → Str → Option Bool} {fl : List Str}
theorem SuiteM.ok {s : Addr → Addr → Str → MS} {sts : List Stmt} (h : SuiteM X W fl sts s) : SuiteOk X W sts (clTs X.K W fl s) := fun a oe cls d pn xe hz hf hot tk => ⟨fun pins s' σ H D I ⟨dd, c, e1, e2, hx, q⟩ => (h a oe cls d pn xe dd c hz hf hot tk e1 e2 hx).run pins s' σ H D I q⟩
theorem HdM.ne (h : HdM X W fl hds cl) : ∀ m ∈ cl, m.cs ≠ [] := by
  induction h with
  | nil => intro m hm; cases hm
  | one hc hsu r ih =>
    intro m hm
    rcases List.mem_cons.mp hm with z | z
    · rw [z]; simp
    · exact ih m z
  | as_ hc hN hi hln hsu r ih =>
    intro m hm
    rcases List.mem_cons.mp hm with z | z
    · rw [z]; simp
    · exact ih m z
end
inductive Src where
  | arg (j : Nat)
  | word (s : Str)
def Src.v (ws : List V) : Src → V
  | .arg j => ws.getD j .non
  | .word s => .str s
def Src.d (ds : List D) : Src → D
  | .arg j => ds.getD j .non
  | .word s => .str s
def mRaise (x : Str) (n : Nat) (sp : List (Str × Src)) (ma : MA) : MS := fun E ρ M => ma ρ M (fun ds M1 => ds.length = n ∧ E.ex ⟨x, sp.map (·.1), sp.map fun p => p.2.d ds⟩ ρ M1) (fun y M1 => E.ex y ρ M1)
section
variable {X : Cx} {W : WX} {x : Str} {e : Expr} {es : List Expr} {ma : MA} {n k : Nat} {sp : List (Str × Src)} {fs ps : List Str} {p pos pos' : Pos}
end
theorem fn_law {P : Program} {w : World} {K : PySem.W.Frag} {mg : Str → Option Value} {base : Heap} {k : Nat} {f : Addr} {fd : FuncData} {ps : List Str} {sp : Sp} (F : FnOk P w K mg base (CX P w) k f fd ps sp) : FnOk P w K mg base CX0 k f fd ps (fun vs H Q _ => sp vs H Q E0) where
  len := fun vs H Q E h => F.len vs H Q E0 h
  run := fun A outer s H args us vs Q E hr e b r h => codeAny_mono (F.run A outer s H args us vs Q E0 hr e b r h) fun r s' q => by
    cases r with
    | error e => obtain ⟨_, _, _, _, _, _, _, _, _, _, _, _, z⟩ := q; exact z.elim
    | ok fl => cases fl <;> exact q
/-- the law's start -/
theorem law_st {K : PySem.W.Frag} {w : WF} (hw : ∀ ns : List Int, ns.length ≤ 63 → w [.kl (ns.map .int)] [] (fun d _ => d = .bl true) (fun _ _ => False)) (H : Hp) (a : Addr) (ns : List Int) (hl : ns.length ≤ 63) (hO : Only H) (hS : SqL K H a (ns.map V.int)) :
    spM K 1 w [.ref a] H (fun v _ => v = .bl true) E0 := by
  have hR : RdL K H a (ns.map V.int) := by
    rcases hS with (h | h) | h
    · rcases hO a with z | ⟨o, xs, z⟩
      · rw [z] at h; cases h
      · rw [z] at h; cases h
    · exact .inl h
    · exact .inr h
  have hL : ∀ ns : List Int, RelL K [] H (ns.map .int) (ns.map V.int) := fun ns => by
    induction ns with
    | nil => exact .nil
    | cons i ns ih => exact .cons (.int i) ih
  refine ⟨[], [], [.kl (ns.map .int)], _, _, rfl, ⟨rfl, by simp, fun n b o h1 h2 => by simp at h1⟩, .cons (.kl hR (hL ns)) .nil, hw ns hl, fun d M' q as' H' v _ _ rv => ?_, fun _ _ q => q.elim⟩
  subst q
  cases rv
  rfl
end MV
namespace MV
open PySem PySem.Spec PyProof.Rows L2
section
variable {X : Cx} {W : WX}
theorem qv (i : Nat) {x : Str} {pos : Pos} (hN : X.N[i]? = some x := by rfl) (hv : Vis X.env.scope x := by first | exact Or.inl rfl | exact Or.inr (Or.inl rfl) | exact Or.inr (Or.inr rfl)) (hd : (x == ("__debug__" : Str)) = false := by decide)
    (hcd : (x == ("__classdict__" : Str)) = false := by decide) : QE X W (.Name x pos) (mVar i) := qe_var hN hv hd hcd
theorem units1 {k : Nat} {A : Around} (r : Room k A) : A.units + 1 < cLine := by have := r.un; omega
end
theorem call_listA {X : Cx} (hc : X.calm = true) : CallR X (.type "list") (rListA X.K) := CallR_or call_list_of (call_list_dK hc)
/-- every parameter is given -/
theorem dbn_all {K : PySem.W.Frag} {fd : FuncData} {ps : List Str} (h : Binds K fd ps []) : DBn K fd ps ps.length [] (fun ds _ => ds) :=
  ⟨⟨fun us _ => us, fun vs _ => vs, ⟨fun s us ws X l1 _ => by
    have := h s us X (by simp [l1])
    simpa using this, fun r _ => r⟩, fun as H ds es vs zs _ _ r _ => r⟩⟩
end MV
namespace MV
open PySem PySem.Spec PyProof.Rows L2
def tyD (x : D) (M : Mem) : Option String := match x with
  | .non => some "NoneType"
  | .bl _ => some "bool"
  | .int _ => some "int"
  | .str _ => some "str"
  | .tup _ => some "tuple"
  | .ref n => match M[n]? with
    | some (.lst _) => some "list"
    | some (.dct false _) => some "dict"
    | _ => none
  | _ => none
/-- of the five types: is t a u? -/
def subTy (t u : String) : Bool := t == u || (t == "bool" && u == "int")
def oIsi : OA := fun xs M Q => match xs with
  | [x, .ty u] => match tyD x M with
    | some t => (["int", "str", "tuple", "list", "bool", "dict"].contains u = true) ∧ Q (.bl (subTy t u)) M
    | none => match x with
      | .ref n => match M[n]? with
        | some (.ins _ _) => False
        | _ => False
      | _ => False
  | _ => False
theorem kit_ty {K : PySem.W.Frag} {a b : String} {k : Bool} (h : PySem.W.kitOne [] (.type a) (.type b) = some k) : PySem.W.kitOne K (.type a) (.type b) = some k := h
theorem kit6 {K : PySem.W.Frag} {t u : String} (ht : t ∈ ["NoneType", "bool", "int", "str", "tuple", "list", "dict"]) (hu : ["int", "str", "tuple", "list", "bool", "dict"].contains u = true) : PySem.W.kitOne K (.type t) (.type u) = some (subTy t u) := by
  have hu' : u ∈ ["int", "str", "tuple", "list", "bool", "dict"] := by simpa using hu
  simp only [List.mem_cons, List.not_mem_nil, or_false] at ht hu'
  rcases ht with rfl | rfl | rfl | rfl | rfl | rfl | rfl <;> rcases hu' with rfl | rfl | rfl | rfl | rfl | rfl <;> exact kit_ty (by decide +kernel)
theorem SqT_ty {K : PySem.W.Frag} {H : Hp} {a : Addr} {xs : List V} (h : SqT K H a xs) : TyX K H (.ref a) (.type "tuple") := by
  rcases h with (h | ⟨o, h⟩) | ⟨o, its, n, h1, h2, h3⟩
  · exact .base (.tup h)
  · exact .fTuple h
  · exact .kTuple h1 h2
theorem sim_isi {K : PySem.W.Frag} : SimA K (rIsi K) oIsi := fun as H M ds vs k Q rp rv h hk => by
  unfold oIsi at h
  split at h
  · rename_i x u
    obtain ⟨v, w, rfl, rx, ry⟩ := rv.two
    cases ry
    split at h
    · rename_i t et
      obtain ⟨hu, h⟩ := h
      have q := hk _ _ h as H _ .refl rp (.bl _)
      cases rx with
      | non => cases et; exact ⟨_, _, _, _, _, rfl, .ty _, .base .non, kit6 (by simp) hu, q⟩
      | bl b => cases et; exact ⟨_, _, _, _, _, rfl, .ty _, .base (.bl b), kit6 (by simp) hu, q⟩
      | int b => cases et; exact ⟨_, _, _, _, _, rfl, .ty _, .base (.int b), kit6 (by simp) hu, q⟩
      | str b => cases et; exact ⟨_, _, _, _, _, rfl, .ty _, .base (.str b), kit6 (by simp) hu, q⟩
      | tup hs hl => cases et; exact ⟨_, _, _, _, _, rfl, .ty _, SqT_ty hs.1, kit6 (by simp) hu, q⟩
      | ref hn =>
        simp only [tyD] at et
        split at et
        · rename_i l e
          obtain ⟨xs, g1, g2⟩ := at_lst rp hn e
          cases et; exact ⟨_, _, _, _, _, rfl, .ty _, .base (.lst g1), kit6 (by simp) hu, q⟩
        · rename_i l e
          obtain ⟨ks, g1, g2⟩ := at_dK rp hn e
          cases et; exact ⟨_, _, _, _, _, rfl, .ty _, .base (.dK g2), kit6 (by simp) hu, q⟩
        · cases et
      | _ => simp [tyD] at et
    · exfalso
      revert h
      split
      · split <;> exact id
      · exact id
  · exact h.elim
def mDict0 : ME := fun _ M Q _ => Q (.ref M.length) (M ++ [.dct false []])
section
variable {X : Cx} {W : WX} {pos : Pos}
inductive QPs (X : Cx) (W : WX) (pos : Pos) : List (Option Expr) → List Expr → List (ME × ME) → Prop where
  | nil : QPs X W pos [] [] []
  | cons {k v : Expr} {ks : List (Option Expr)} {vs : List Expr} {mk mv : ME} {trs : List (ME × ME)} (hk : QE X W k mk) (hv : QE X W v mv) (hr : QPs X W pos ks vs trs) : QPs X W pos (some k :: ks) (v :: vs) ((mk, mv) :: trs)
end
end MV
namespace MV
open PySem PySem.Spec PyProof.Rows L2
end MV
namespace MV
open PySem PySem.Spec PyProof.Rows L2
section
variable {K : PySem.W.Frag}
end
section
variable {X : Cx} {W : WX} {elt tg iter tg1 iter1 : Expr} {ifs ifs1 : List Expr} {scope : Scope} {own : List (Str × Nat)} {vs1 : List Nat} {pos spos : Pos} {mi mi1 : MI} {T T1 : Tg} {tt tt1 : MT} {me : ME}
end
end MV
namespace MV
open PySem PySem.Spec PyProof.Rows L2
section
variable {X : Cx} {W : WX} {c x : Str} {e : Expr} {es : List Expr} {p pos : Pos} {ma : MA} {k : Nat} {ps : List Str} {w : WF} {gD : List D → List D → List D} {f : Addr} {gV : List V → List V → List V}
end
end MV
namespace MV
open PySem PySem.Spec PyProof.Rows L2
section
variable {K : PySem.W.Frag} {as : List Addr} {H : Hp} {M : Mem}
end
section
variable {X : Cx} {W : WX} {kx vx tg iter : Expr} {ifs : List Expr} {scope : Scope} {own : List (Str × Nat)} {pos spos : Pos} {mi : MI} {T : Tg} {tt : MT} {mk mv : ME}
end
end MV
namespace MV
open PySem PySem.Spec PyProof.Rows L2
end MV
namespace MV
open PySem PySem.Spec PyProof.Rows L2
section
variable {K : PySem.W.Frag}
end
end MV
namespace MV
open PySem PySem.Spec PyProof.Rows L2
end MV
namespace MV
open PySem PySem.Spec PyProof.Rows L2
section
variable {X : Cx}
end
end MV
namespace MV
open PySem PySem.Spec PyProof.Rows L2
section
variable {X : Cx}
end
section
variable {X : Cx} {W : WX} {kx vx tg iter : Expr} {ifs : List Expr} {scope : Scope} {own : List (Str × Nat)} {pos spos : Pos} {mi : MI} {T : Tg} {tt : MT} {mk mv : ME}
end
end MV
namespace MV
open PySem PySem.Spec PyProof.Rows L2
section
variable {X : Cx} {o : Expr} {f : Str} {pos : Pos}
end
section
variable {X : Cx} {W : WX} {e : Expr} {es : List Expr} {me : ME} {pos pos' : Pos} {cs all fns : List Str} {i : Nat} {k : Nat}
end
end MV
namespace MV
open PySem PySem.Spec PyProof.Rows L2
def bts : List String := ["NoneType", "bool", "int", "str", "tuple", "list", "dict"]
inductive TyK where
  | b (t : String)
  | c (d : Str)
def TyK.v (K : PySem.W.Frag) : TyK → Value
  | .b t => .type t
  | .c d => .ref (He.ga K d)
def TyK.ok (cs : List Str) : TyK → Prop
  | .b t => t ∈ bts
  | .c d => d ∈ cs
section
variable {X : Cx} {W : WX} {c : Str} {k : Nat} {ps : List Str} {w : WF} {gD : List D → List D → List D} {f : Addr} {gV : List V → List V → List V}
end
end MV
namespace MV
open PySem PySem.Spec PyProof.Rows L2
section
variable {X : Cx} {pins : List (Addr × Obj)} {σ : L2.St} {H : Hp} {s : Shared}
end
section
variable {X : Cx}
end
section
variable {P : Program} {w : World} {K : PySem.W.Frag} {d : Addr} {o : Obj} {es : Array DictEntry} {ep : Nat}
end
end MV
namespace MV
open PySem PySem.Spec PyProof.Rows L2
section
variable {K : PySem.W.Frag} {as : List Addr} {H : Hp} {M : Mem}
end
section
variable {X : Cx} {W : WX} {e : Expr} {me : ME} {pos : Pos}
end
section
variable {X : Cx} {W : WX}
end
section
variable {X : Cx} {W : WX} {e : Expr} {me : ME}
end
section
variable {K : PySem.W.Frag} {as : List Addr} {H : Hp} {M : Mem}
end
section
variable {X : Cx} {W : WX} {kx vx tg iter : Expr} {ifs : List Expr} {scope : Scope} {own : List (Str × Nat)} {pos spos : Pos} {mi : MI} {T : Tg} {tt : MT} {mk mv : ME}
end
section
variable {X : Cx}
end
section
variable {X : Cx} {W : WX} {kx vx tg iter : Expr} {ifs : List Expr} {scope : Scope} {own : List (Str × Nat)} {pos spos : Pos} {mi : MI} {T : Tg} {tt : MT} {mk mv : ME}
end
section
variable {X : Cx} {W : WX} {st : Stmt} {e : Expr}
end
end MV
namespace MV
open PySem PySem.Spec PyProof.Rows L2
end MV
namespace MV
open PySem PySem.Spec PyProof.Rows L2
section
variable {X : Cx} {W : WX} {e o1 i1 o2 i2 : Expr} {me mo1 mi1 mo2 mi2 : ME} {pos p0 p1 p2 : Pos} {k : Nat}
end
end MV
namespace MV
open PySem PySem.Spec PyProof.Rows L2
section
variable {prog : Program} {w : World} {A : Around} {E : Value → Shared → Prop} {s : Shared}
end
section
variable {X : Cx}
end
section
variable {X : Cx} {W : WX} {e : Expr} {me : ME} {pos : Pos}
end
end MV
namespace MV
open PySem PySem.Spec PyProof.Rows L2
theorem DpAll.len {K : PySem.W.Frag} {H : Hp} : ∀ {xs : List V} {ds : List PyData}, DpAll K H xs ds → xs.length = ds.length
  | _, _, .nil => rfl
  | _, _, .cons _ r => by simp only [List.length_cons, DpAll.len r]
end MV
namespace MV
open PySem PySem.Spec PyProof.Rows L2
end MV
namespace MV
open PySem PySem.Spec PyProof.Rows L2
section
variable {M : Model} {prog : Program} {w : World} {A : Around} {E : Value → Shared → Prop} {s : Shared} {K : PySem.W.Frag} {x C L f : Addr} {h₀ : Heap} {mm : Str → Option Value} {ox : Obj} {od : Option Obj} {b tb : Value}
end
structure OwnN (K : PySem.W.Frag) (c : Str) : Prop where
  ne : PySem.W.findIn K (.ref (He.ga K c)) "__ne__" = some (some (.builtin "object.__ne__"))
  mro : PySem.W.mroIn K (He.ga K c) (.type "object") = some true
section
variable {X : Cx} {W : WX} {c : Str} {k : Nat} {ps : List Str} {w : WF} {gD : List D → List D → List D} {f : Addr} {gV : List V → List V → List V}
end
end MV
namespace MV
open PySem PySem.Spec PyProof.Rows L2
structure FmtO (K : PySem.W.Frag) (c : Str) : Prop where
  fm : PySem.W.findIn K (.ref (He.ga K c)) "__format__" = some (some (.builtin "object.__format__"))
  mro : PySem.W.mroIn K (He.ga K c) (.type "object") = some true
section
variable {X : Cx} {W : WX} {c x : Str} {e : Expr} {es : List Expr} {p pos : Pos} {ma : MA} {me : ME} {k : Nat} {ps : List Str} {w : WF} {gD : List D → List D → List D} {f : Addr} {gV : List V → List V → List V}
end
end MV
namespace MV
open PySem PySem.Spec PyProof.Rows L2
end MV
namespace MV
open PySem PySem.Spec PyProof.Rows L2
section
variable {X : Cx} {W : WX} {e : Expr} {es : List Expr} {me : ME} {l : Tgs} {pos pos' p : Pos} {k n : Nat}
end
/-- the table at a: the texts and what stands there -/
structure TabK (K : PySem.W.Frag) (w : World) (a : Addr) (tab : List (Str × D)) : Prop where
  d : He.dicW K a = some (He.keysIn w.params (tab.map (·.1)))
  v : ∀ p ∈ tab, ∃ u, PySem.W.nsIn K a p.1 = some (some u) ∧ ∀ as H, ∃ v, Rel K as H p.2 v ∧ RelV v u
section
variable {X : Cx} {W : WX} {x : Str} {a : Addr} {tab : List (Str × D)} {e f : Expr} {mk md : ME} {p apos cpos : Pos}
inductive TabF (P : Program) (w : World) (K : PySem.W.Frag) (mg : Str → Option Value) (base : Heap) (k n : Nat) : List (Str × WF) → Prop
  | nil : TabF P w K mg base k n []
  | cons {x : Str} {ps : List Str} {W : WF} {j : Nat} {r : List (Str × WF)} (F : Fn P w K mg base j (He.ga K x) ps W n [] (fun ds _ => ds)) (hj : j ≤ k) (hl : ps.length = n) (h : TabF P w K mg base k n r) : TabF P w K mg base k n ((x, W) :: r)
theorem TabF.at_ {P : Program} {w : World} {K : PySem.W.Frag} {mg : Str → Option Value} {base : Heap} {k n : Nat} {t : List (Str × WF)} (h : TabF P w K mg base k n t) {x : Str} {W : WF} (e : t.lookup x = some W) : ∃ ps j, Fn P w K mg base j (He.ga K x) ps W n [] (fun ds _ => ds) ∧ j ≤ k ∧ ps.length = n := by
  induction h with
  | nil => cases e
  | @cons y ps V j r F hj hl h ih =>
    rw [List.lookup_cons] at e
    cases q : (x == y) with
    | true =>
      rw [q] at e
      cases e
      have : x = y := by simpa using q
      subst this
      exact ⟨ps, j, F, hj, hl⟩
    | false => rw [q] at e; exact ih e
end
structure SaysF (fa : List He.Fa) (fn : List He.DefD) (ts : List (Str × List Str)) (ex : PySem.W.Frag → Bool) (w : World) (K : PySem.W.Frag) : Prop where
  d : He.SaysD fa fn K
  tb : (ts.map fun t => He.dicW K (He.ga K t.1)) = ts.map fun t => some (He.keysIn w.params t.2)
  more : ex K = true
theorem SaysF.tab {fa : List He.Fa} {fn : List He.DefD} {ts : List (Str × List Str)} {ex : PySem.W.Frag → Bool} {w : World} {K : PySem.W.Frag} (c : SaysF fa fn ts ex w K) (i : Nat) {t : Str × List Str} (h : ts[i]? = some t := by rfl) : He.dicW K (He.ga K t.1) = some (He.keysIn w.params t.2) := by
  have e : (ts.map fun t => He.dicW K (He.ga K t.1))[i]? = (ts.map fun t => some (He.keysIn w.params t.2))[i]? := by rw [c.tb]
  rw [List.getElem?_map, List.getElem?_map, h] at e
  exact Option.some.inj e
end MV
namespace MV
open PySem PySem.Spec PyProof.Rows L2
section
variable {M : Model} {A : Around} {E : Value → Shared → Prop} {env : Env} {outer l : List Env} {f C a : Addr} {B : Heap} {Z : Obj → Prop} {s : Shared}
end
section
variable {X : Cx} {W : WX} {pins q : List (Addr × Obj)} {σ : L2.St} {H H₃ : Hp} {s₃ s' : Shared} {scope : Scope} {cl : List (Str × Addr)} {fp : List Addr} {xe : Value → Shared → Prop}
end
section
variable {X : Cx} {W : WX} {wi : TI} {g : TG} {tt : TT} {te : WX → TE} {elt tg iter : Expr} {ifs : List Expr} {scope : Scope} {own : List (Str × Nat)} {pos pos' : Pos}
end
section
variable {K : PySem.W.Frag} {as : List Addr} {H : Hp} {M : Mem}
end
section
variable {X : Cx} {W : WX} {elt tg iter : Expr} {ifs : List Expr} {scope : Scope} {own : List (Str × Nat)} {pos spos : Pos}
variable {mi : MI} {T : Tg} {tt : MT} {me : ME}
end
end MV
namespace MV
open PySem PySem.Spec PyProof.Rows L2
section
variable {K : PySem.W.Frag}
end
end MV
namespace MV
open PySem PySem.Spec PyProof.Rows L2 PySem.Builtin PySem.Builtin.Str
section
variable {X : Cx} {o : Expr} {to ta : TE} {y z : Str} {j k l : Nat} {c0 c1 c2 apos pos p p' : Pos}
end
section
variable {X : Cx} {W : WX} {a o : Expr} {ma mo : ME} {y z : Str} {j k l n : Nat} {c0 c1 c2 c3 apos cpos rpos p pos : Pos} {op : CmpOp} {r : R2} {oc : OP} {i : Int} {B : List Stmt} {mb : MS}
end
end MV
namespace MV
open PySem PySem.Spec PyProof.Rows L2
section
variable {pg : Program} {wd : World} {Ar : Around} {Rz : Result → Shared → Prop} {y0 : Shared} {kx vx ta ia tb ib : Expr} {fa fb : List Expr} {sc : Scope} {po : Pos} {itr : Value} {D : Addr} {ev : Env}
end
section
variable {X : Cx}
end
section
variable {K : PySem.W.Frag}
end
section
variable {X : Cx} {W : WX} {kx vx tg iter tg1 iter1 : Expr} {ifs ifs1 : List Expr} {scope : Scope} {own : List (Str × Nat)} {vs1 : List Nat} {pos spos : Pos} {mi mi1 : MI} {T T1 : Tg} {tt tt1 : MT} {mk mv : ME}
end
end MV
namespace MV
open PySem PySem.Spec PyProof.Rows L2
end MV
namespace MV
open PySem PySem.Spec PyProof.Rows L2
section
variable {X : Cx} {W : WX} {tg : Expr} {e e2 e3 : Expr}
end
end MV
namespace MV
open PySem PySem.Spec PyProof.Rows L2
end MV
namespace MV
open PySem PySem.Spec PyProof.Rows L2
def ltP (a b c d : Int) : Bool := decide (a < c ∨ (a = c ∧ b < d))
def rCmpP (K : PySem.W.Frag) (f : Int → Int → Int → Int → Bool) : R2 := fun x y H Q => ∃ (p q : Addr) (i j k l : Int), x = .ref p ∧ y = .ref q ∧ SqT K H p [.int i, .int j] ∧ SqT K H q [.int k, .int l] ∧ Q (.bl (f i j k l)) H
theorem op_ltP {X : Cx} (hu : X.A.units + 64 < cLine) : OpR X (compareOp .Lt) (rCmpP X.K fun a b c d => ltP a b c d) := by
  intro pins s σ H x y v u Q I rx ry h
  obtain ⟨a, b, i, j, k, l, rfl, rfl, ha, hb, q⟩ := h
  cases rx
  cases ry
  obtain ⟨its, r1, p1, _⟩ := I.tuple ha
  obtain ⟨its2, r2, p2, _⟩ := I.tuple hb
  have i1 : IntsAre its [i, j] := Vals.ints (ns := [i, j]) r1
  have i2 : IntsAre its2 [k, l] := Vals.ints (ns := [k, l]) r2
  have e1 : its.toArray.size = 2 := by rw [List.size_toArray]; exact i1.length
  have e2 : its2.toArray.size = 2 := by rw [List.size_toArray]; exact i2.length
  have at1 : ∀ m (h1 : m < its.toArray.size), ∃ t, its.toArray[m] = .int ([i, j].getD m 0) t := fun m h1 => PyProof.Rows.IntsAre.int_at i1 _ _ (by simp at h1; simp [h1])
  have at2 : ∀ m (h1 : m < its2.toArray.size), ∃ t, its2.toArray[m] = .int ([k, l].getD m 0) t := fun m h1 => PyProof.Rows.IntsAre.int_at i2 _ _ (by simp at h1; simp [h1])
  have R := Ob.RcOp.tuples_lt (A := X.A) (s := s) (e := fun m => decide ([i, j].getD m 0 = [k, l].getD m 0)) (r := fun m => decide ([i, j].getD m 0 < [k, l].getD m 0)) p1 p2 (by omega) (fun m h1 h2 => by
    obtain ⟨t, et⟩ := at1 m h1
    obtain ⟨t', et'⟩ := at2 m h2
    rw [et, et']
    have z : ([i, j].getD m 0 == [k, l].getD m 0) = decide ([i, j].getD m 0 = [k, l].getD m 0) := by
      by_cases q : [i, j].getD m 0 = [k, l].getD m 0
      · rw [decide_eq_true q]; exact beq_iff_eq.mpr q
      · rw [decide_eq_false q]; exact beq_eq_false_iff_ne.mpr q
    rw [← z]
    exact SeqAt.EqAt.int_int _ _ _ _) (fun m h1 h2 _ => by
    obtain ⟨t, et⟩ := at1 m h1
    obtain ⟨t', et'⟩ := at2 m h2
    rw [et, et']
    exact Ob.RcOp.lt_int _ _ _ _)
  rw [e1, e2] at R
  have z : wpAny (model X.prog X.w) X.A (compareOp .Lt (.ref a) (.ref b)) (EP X pins σ Q) X.xe s := R X.prog X.w X.xe (EP X pins σ Q) ⟨.bl _, H, I, rfl, by
    have e : Ob.lexAt (fun m => decide ([i, j].getD m 0 = [k, l].getD m 0)) (fun m => decide ([i, j].getD m 0 < [k, l].getD m 0)) (decide (2 < 2)) 0 (min 2 2) = ltP i j k l := by
      unfold ltP
      simp only [show min 2 2 = 2 from rfl, Ob.lexAt, decide_eq_true_eq]
      by_cases q : i = k <;> by_cases q2 : j = l <;> simp [q, q2] <;> omega
    rw [e]; exact q⟩
  exact z
def oLtP : OP := fun x y M Q => match x, y with
  | .tup [.int a, .int b], .tup [.int c, .int d] => Q (.bl (ltP a b c d)) M
  | _, _ => False
theorem sim_ltP {K : PySem.W.Frag} : SimO K (rCmpP K fun a b c d => ltP a b c d) oLtP := fun as H M dx dy x y k Q rp rx ry h hk => by
  unfold oLtP at h
  split at h
  · cases rx with
    | tup h1 r1 => cases ry with
      | tup h2 r2 =>
        obtain ⟨_, _, rfl, a1, a2⟩ := r1.two
        obtain ⟨_, _, rfl, b1, b2⟩ := r2.two
        cases a1; cases a2; cases b1; cases b2
        exact ⟨_, _, _, _, _, _, rfl, rfl, h1.1, h2.1, hk _ _ h as H _ .refl rp (.bl _)⟩
  · exact h.elim
theorem o_ltP {a b c d : Int} {M : Mem} {Q : DK} (h : Q (.bl (ltP a b c d)) M) : oLtP (.tup [.int a, .int b]) (.tup [.int c, .int d]) M Q := h
end MV
namespace MV
open PySem PySem.Spec PyProof.Rows L2
def oRev : DK → DK := fun Q x M => match x with
  | .ref n => match M[n]? with
    | some (.lst ds) => Q (.ref M.length) (M ++ [.lst ds.reverse])
    | _ => False
  | _ => False
def mRev (me : ME) : ME := fun ρ M Q X => me ρ M (fun x M1 => oRev Q x M1) X
section
variable {X : Cx} {W : WX} {e : Expr} {me : ME}
theorem qe_revL {k : Nat} {p1 p2 p3 pos : Pos} (he : QE X W e me) : QE X W (.Subscript e (.Slice none none (some (.UnaryOp .USub (.Constant (.int 1) k p1) p2)) p3) pos) (mRev me) :=
  PEi (pe_revL he) fun σ H Q ⟨as, M, ρ, Q', X', r, rs, h, hq, hx⟩ => by
    refine lf_bind r rs h hx fun dx M1 as1 H1 x h1 e1 r1 rs1 rx => ?_
    unfold oRev at h1
    split at h1
    · cases rx with
      | ref hn =>
        split at h1
        · rename_i ds e2
          obtain ⟨xs, g1, g2⟩ := at_lst r1 hn e2
          exact ⟨_, xs, rfl, SqL.of g1, fun p hp => new_lst r1 (RelL.rev g2) hp h1 fun d M' q => (hq d M' q).mono e1⟩
        · exact h1.elim
    · exact h1.elim
end
theorem x_rev {me : ME} {ρ : Ev} {M : Mem} {Q : DK} {X : XM} (h : me ρ M (fun x M1 => oRev Q x M1) X) : mRev me ρ M Q X := h
theorem o_rev {n : Nat} {ds : List D} {M : Mem} {Q : DK} (e : M[n]? = some (.lst ds)) (h : Q (.ref M.length) (M ++ [.lst ds.reverse])) : oRev Q (.ref n) M := by
  unfold oRev
  dsimp only
  rw [e]
  exact h
end MV
namespace Prf
open PySem L2 MV
def N_Lfeed : List Str := ["_law_script"]
def m_Lfeed : MS :=
  (mRet (mCB oLst (mCons (mCB oList1 (mCons (mSl (mVar 0) mNoPart (mPart (mC (.int 63)))) mNil)) (mCons (mC (.int 0)) (mCons (mC (.int 0)) (mCons (mC (.int 1)) mNil))))))
def w_Lfeed : WF := wOf N_Lfeed m_Lfeed
def N_Ldraw : List Str := ["_law_feed_here", "_law_many", "_law_got", "_law_cell", "_law_spread"]
def m_Ldraw : MS :=
  (mSeq (mIfS (mB (mOp oGt (mOp oIx (mVar 0) (mC (.int 2))) (mC (.int 0)))) (mSeq (mSet 2 (mOp oMod (mOp oIx (mVar 0) (mC (.int 2))) (mVar 1)))
    (mSeq (mSetIx (mOp oDiv (mOp oIx (mVar 0) (mC (.int 2))) (mVar 1)) (mVar 0) (mC (.int 2)))
    (mRet (mVar 2)))) mNext)
    (mSeq (mSet 3 (mC (.int 0)))
    (mSeq (mIfS (mB (mOp oLt (mOp oIx (mVar 0) (mC (.int 1))) (mCB oLen (mCons (mOp oIx (mVar 0) (mC (.int 0))) mNil)))) (mSeq (mSet 3 (mOp oIx (mOp oIx (mVar 0) (mC (.int 0))) (mOp oIx (mVar 0) (mC (.int 1)))))
    (mSetIx (mOp oAdd (mOp oIx (mVar 0) (mC (.int 1))) (mC (.int 1))) (mVar 0) (mC (.int 1)))) mNext)
    (mSeq (mIfS (mB (mOp oGe (mVar 3) (mC (.int 1000000000000000000)))) (mSeq (mSetIx (mOp oDiv (mVar 3) (mVar 1)) (mVar 0) (mC (.int 2)))
    (mRet (mOp oMod (mVar 3) (mVar 1)))) mNext)
    (mSeq (mSetIx (mOp oMod (mOp oAdd (mOp oAdd (mOp oMul (mOp oIx (mVar 0) (mC (.int 3))) (mC (.int 48271))) (mOp oMod (mVar 3) (mC (.int 1000003)))) (mC (.int 11))) (mC (.int 2147483647))) (mVar 0) (mC (.int 3)))
    (mSeq (mSet 4 (mOp oIx (mCB oLst (mCons (mOp oIx (mVar 0) (mC (.int 3))) (mCons (mOp oPow (mOp oIx (mVar 0) (mC (.int 3))) (mC (.int 4))) mNil))) (mCB oInt1 (mCons (mOp oGt (mVar 1) (mC (.int 100000))) mNil))))
    (mRet (mOp oMod (mOp oAdd (mOp oDiv (mVar 4) (mC (.int 16))) (mVar 3)) (mVar 1)))))))))
def w_Ldraw : WF := wOf N_Ldraw m_Ldraw
def N_Lgcd : List Str := ["_law_one", "_law_other"]
def m_Lgcd : MS :=
  (mSeq (mWhile (mTru (mVar 1)) (mPar 0 1 (mCons (mVar 1) (mCons (mOp oMod (mVar 0) (mVar 1)) mNil))))
    (mRet (mCB oAbs (mCons (mVar 0) mNil))))
def w_Lgcd : WF := wOf N_Lgcd m_Lgcd
def N_Lfrac : List Str := ["_law_top", "_law_under", "_law_shared"]
def m_Lfrac : MS :=
  (mSeq (mSet 2 (mCall w_Lgcd 2 0 (fun ds _ => ds) (mArgsP (mCons (mVar 0) (mCons (mVar 1) mNil)))))
    (mSeq (mIfS (mB (mOp oLt (mVar 1) (mC (.int 0)))) (mSet 2 (mUn oNeg (mVar 2))) mNext)
    (mRet (mCB oTup (mCons (mOp oDiv (mVar 0) (mVar 2)) (mCons (mOp oDiv (mVar 1) (mVar 2)) mNil))))))
def w_Lfrac : WF := wOf N_Lfrac m_Lfrac
def N_Lsetting : List Str := ["_law_feed_here", "_law_pair", "_law_under"]
def m_Lsetting : MS :=
  (mSeq (mSet 2 (mOp oAdd (mC (.int 1)) (mCall w_Ldraw 2 0 (fun ds _ => ds) (mArgsP (mCons (mVar 0) (mCons (mC (.int 5)) mNil))))))
    (mRet (mCall w_Lfrac 2 0 (fun ds _ => ds) (mArgsP (mCons (mOp oAdd (mOp oMul (mOp oIx (mVar 1) (mC (.int 0))) (mVar 2)) (mCall w_Ldraw 2 0 (fun ds _ => ds) (mArgsP (mCons (mVar 0) (mCons (mOp oAdd (mOp oMul (mOp oSub (mOp oIx (mVar 1) (mC (.int 1))) (mOp oIx (mVar 1) (mC (.int 0)))) (mVar 2)) (mC (.int 1))) mNil))))) (mCons (mVar 2) mNil))))))
def w_Lsetting : WF := wOf N_Lsetting m_Lsetting
def N_add : List Str := ["m", "n"]
def m_add : MS :=
  (mRet (mCB oTup (mCons (mOp oAdd (mOp oIx (mVar 0) (mC (.int 0))) (mOp oIx (mVar 1) (mC (.int 0)))) (mCons (mOp oAdd (mOp oIx (mVar 0) (mC (.int 1))) (mOp oIx (mVar 1) (mC (.int 1)))) mNil))))
def w_add : WF := wOf N_add m_add
def N_turned : List Str := ["m"]
def m_turned : MS :=
  (mRet (mCB oTup (mCons (mUn oNeg (mOp oIx (mVar 0) (mC (.int 0)))) (mCons (mUn oNeg (mOp oIx (mVar 0) (mC (.int 1)))) mNil))))
def w_turned : WF := wOf N_turned m_turned
def N_step_price : List Str := ["arcs", "link", "price"]
def m_step_price : MS :=
  (mSeq (mSet 2 (mOp oIx (mOp oIx (mVar 0) (mOp oIx (mVar 1) (mC (.int 2)))) (mC (.int 3))))
    (mRet (mIf (mTru (mOp oIx (mVar 1) (mC (.int 3)))) (mVar 2) (mCall w_turned 1 0 (fun ds _ => ds) (mArgsP (mCons (mVar 2) mNil))))))
def w_step_price : WF := wOf N_step_price m_step_price
def N_rank : List Str := ["move", "at", "ahead"]
def m_rank : MS :=
  (mRet (mCB oTup (mCons (mOp oAdd (mOp oMul (mOp oIx (mVar 0) (mC (.int 0))) (mOp oIx (mVar 1) (mC (.int 1)))) (mOp oMul (mOp oIx (mVar 0) (mC (.int 1))) (mOp oIx (mVar 1) (mC (.int 0))))) (mCons (mIf (mTru (mVar 2)) (mOp oIx (mVar 0) (mC (.int 1))) (mC (.int 0))) mNil))))
def w_rank : WF := wOf N_rank m_rank
def N_settled : List Str := ["heights", "links", "arcs", "at", "ahead", "back", "height", "moved", "turn", "link", "found", "tail", "head"]
def m_settled : MS :=
  (mSeq (mSet 0 (mCB oList1 (mCons (mVar 0) mNil)))
    (mSeq (mSet 5 (mLc (mISeq (mVar 0)) (.nm 6) mYes (mC .non) [6]))
    (mSeq (mSet 7 (mC .non))
    (mSeq (mFor (mIRng1 (mCons (mCB oLen (mCons (mVar 0) mNil)) mNil)) (.nm 8) (mSeq (mSet 7 (mC .non))
    (mSeq (mFor (mISeq (mVar 1)) (.nm 9) (mSeq (mPar 11 12 (mCons (mOp oIx (mVar 9) (mC (.int 0))) (mCons (mOp oIx (mVar 9) (mC (.int 1))) mNil)))
    (mSeq (mIfS (mB (mOp oIs (mOp oIx (mVar 0) (mVar 11)) (mC .non))) mCont mNext)
    (mSeq (mSet 10 (mCall w_add 2 0 (fun ds _ => ds) (mArgsP (mCons (mOp oIx (mVar 0) (mVar 11)) (mCons (mCall w_step_price 2 0 (fun ds _ => ds) (mArgsP (mCons (mVar 2) (mCons (mVar 9) mNil)))) mNil)))))
    (mIfS (mOr (mB (mOp oIs (mOp oIx (mVar 0) (mVar 12)) (mC .non))) (mB (mOp oLtP (mCall w_rank 3 0 (fun ds _ => ds) (mArgsP (mCons (mVar 10) (mCons (mVar 3) (mCons (mVar 4) mNil))))) (mCall w_rank 3 0 (fun ds _ => ds) (mArgsP (mCons (mOp oIx (mVar 0) (mVar 12)) (mCons (mVar 3) (mCons (mVar 4) mNil)))))))) (mSeq (mSetIx (mVar 10) (mVar 0) (mVar 12))
    (mSeq (mSetIx (mVar 9) (mVar 5) (mVar 12))
    (mSet 7 (mVar 12)))) mNext)))))
    (mIfS (mB (mOp oIs (mVar 7) (mC .non))) mBreak mNext))))
    (mRet (mCB oTup (mCons (mVar 0) (mCons (mVar 5) (mCons (mVar 7) mNil)))))))))
def w_settled : WF := wOf N_settled m_settled
def N_open_links : List Str := ["arcs", "k", "tail", "head", "room", "price"]
def m_open_links : MS :=
  (mRet (mLc (mIEnumL (mCons (mVar 0) mNil)) (.tp 2 (.cons (.nm 1) (.cons (.tp 4 (.cons (.nm 2) (.cons (.nm 3) (.cons (.nm 4) (.cons (.nm 5) .nil))))) .nil))) (mB (mOp oIs (mVar 4) (mC .non))) (mCB oTup (mCons (mVar 2) (mCons (mVar 3) (mCons (mVar 1) (mCons (mC (.bl true)) mNil))))) [1, 2, 3, 4, 5]))
def w_open_links : WF := wOf N_open_links m_open_links
def N_ring_at : List Str := ["count", "arcs", "t", "flat", "node", "heights", "back", "turn", "ring", "here"]
def m_ring_at : MS :=
  (mSeq (mSet 3 (mLc (mIRng1 (mCons (mVar 0) mNil)) (.nm 4) mYes (mCB oTup (mCons (mC (.int 0)) (mCons (mC (.int 0)) mNil))) [4]))
    (mSeq (mAsg (mCall w_settled 5 0 (fun ds _ => ds) (mArgsP (mCons (mVar 3) (mCons (mCall w_open_links 1 0 (fun ds _ => ds) (mArgsP (mCons (mVar 1) mNil))) (mCons (mVar 1) (mCons (mVar 2) (mCons (mC (.bl false)) mNil))))))) (.tp 3 (.cons (.nm 5) (.cons (.nm 6) (.cons (.nm 4) .nil)))))
    (mSeq (mIfS (mB (mOp oIs (mVar 4) (mC .non))) (mRet (mC .non)) mNext)
    (mSeq (mFor (mIRng1 (mCons (mVar 0) mNil)) (.nm 7) (mSet 4 (mOp oIx (mOp oIx (mVar 6) (mVar 4)) (mC (.int 0)))))
    (mSeq (mSet 8 (mCB oLst mNil))
    (mSeq (mSet 9 (mVar 4))
    (mSeq (mWhile (mOr (mNot (mTru (mVar 8))) (mB (mOp oNe (mVar 9) (mVar 4)))) (mSeq (mDrop (mBM "list" omAppend (mVar 8) (mCons (mOp oIx (mOp oIx (mVar 6) (mVar 9)) (mC (.int 2))) mNil)))
    (mSet 9 (mOp oIx (mOp oIx (mVar 6) (mVar 9)) (mC (.int 0))))))
    (mRet (mRev (mVar 8))))))))))
def w_ring_at : WF := wOf N_ring_at m_ring_at
def N_Lplus : List Str := ["_law_a", "_law_b"]
def m_Lplus : MS :=
  (mRet (mCall w_Lfrac 2 0 (fun ds _ => ds) (mArgsP (mCons (mOp oAdd (mOp oMul (mOp oIx (mVar 0) (mC (.int 0))) (mOp oIx (mVar 1) (mC (.int 1)))) (mOp oMul (mOp oIx (mVar 1) (mC (.int 0))) (mOp oIx (mVar 0) (mC (.int 1))))) (mCons (mOp oMul (mOp oIx (mVar 0) (mC (.int 1))) (mOp oIx (mVar 1) (mC (.int 1)))) mNil)))))
def w_Lplus : WF := wOf N_Lplus m_Lplus
def N_Lat : List Str := ["_law_move", "_law_at_here"]
def m_Lat : MS :=
  (mRet (mCall w_Lfrac 2 0 (fun ds _ => ds) (mArgsP (mCons (mOp oAdd (mOp oMul (mOp oIx (mVar 0) (mC (.int 0))) (mOp oIx (mVar 1) (mC (.int 1)))) (mOp oMul (mOp oIx (mVar 0) (mC (.int 1))) (mOp oIx (mVar 1) (mC (.int 0))))) (mCons (mOp oIx (mVar 1) (mC (.int 1))) mNil)))))
def w_Lat : WF := wOf N_Lat m_Lat
def N_Llt : List Str := ["_law_a", "_law_b"]
def m_Llt : MS :=
  (mRet (mOp oLt (mOp oMul (mOp oIx (mVar 0) (mC (.int 0))) (mOp oIx (mVar 1) (mC (.int 1)))) (mOp oMul (mOp oIx (mVar 1) (mC (.int 0))) (mOp oIx (mVar 0) (mC (.int 1))))))
def w_Llt : WF := wOf N_Llt m_Llt
def N_Lsettles : List Str := ["_law_many", "_law_arcs", "_law_tset", "_law_heights", "_law_node", "_law_turn", "_law_moved", "_law_tail", "_law_head", "_law_room", "_law_price", "_law_found"]
def m_Lsettles : MS :=
  (mSeq (mSet 3 (mLc (mIRng1 (mCons (mVar 0) mNil)) (.nm 4) mYes (mCB oTup (mCons (mC (.int 0)) (mCons (mC (.int 1)) mNil))) [4]))
    (mSeq (mFor (mIRng1 (mCons (mOp oAdd (mVar 0) (mC (.int 1))) mNil)) (.nm 5) (mSeq (mSet 6 (mC (.bl false)))
    (mSeq (mFor (mISeq (mVar 1)) (.tp 4 (.cons (.nm 7) (.cons (.nm 8) (.cons (.nm 9) (.cons (.nm 10) .nil))))) (mIfS (mB (mOp oIs (mVar 9) (mC .non))) (mSeq (mSet 11 (mCall w_Lplus 2 0 (fun ds _ => ds) (mArgsP (mCons (mOp oIx (mVar 3) (mVar 7)) (mCons (mCall w_Lat 2 0 (fun ds _ => ds) (mArgsP (mCons (mVar 10) (mCons (mVar 2) mNil)))) mNil)))))
    (mIfS (mTru (mCall w_Llt 2 0 (fun ds _ => ds) (mArgsP (mCons (mVar 11) (mCons (mOp oIx (mVar 3) (mVar 8)) mNil))))) (mSeq (mSetIx (mVar 11) (mVar 3) (mVar 8))
    (mSet 6 (mC (.bl true)))) mNext)) mNext))
    (mIfS (mNot (mTru (mVar 6))) (mRet (mC (.bl true))) mNext))))
    (mRet (mC (.bl false)))))
def w_Lsettles : WF := wOf N_Lsettles m_Lsettles
def N_Lwhole : List Str := ["_law_found"]
def m_Lwhole : MS :=
  (mRet (mAndV (mCB oIsi (mCons (mVar 0) (mCons (mC (.ty "int")) mNil))) (mNotV (mCB oIsi (mCons (mVar 0) (mCons (mC (.ty "bool")) mNil))))))
def w_Lwhole : WF := wOf N_Lwhole m_Lwhole
def N_Lis_ring : List Str := ["_law_arcs", "_law_tset", "_law_found", "_law_total", "_law_k", "_law_tail", "_law_head", "_law_room", "_law_price"]
def m_Lis_ring : MS :=
  (mSeq (mIfS (mOr (mNot (mTru (mCB oIsi (mCons (mVar 2) (mCons (mC (.ty "list")) mNil))))) (mNot (mTru (mVar 2)))) (mRet (mC (.bl false))) mNext)
    (mSeq (mSet 3 (mCB oTup (mCons (mC (.int 0)) (mCons (mC (.int 1)) mNil))))
    (mSeq (mFor (mIRng1 (mCons (mCB oLen (mCons (mVar 2) mNil)) mNil)) (.nm 4) (mIfS (mOr (mNot (mTru (mCall w_Lwhole 1 0 (fun ds _ => ds) (mArgsP (mCons (mOp oIx (mVar 2) (mVar 4)) mNil))))) (mNot (mB (mChain oLe oLt (mC (.int 0)) (mOp oIx (mVar 2) (mVar 4)) (mCB oLen (mCons (mVar 0) mNil)))))) (mRet (mC (.bl false))) mNext))
    (mSeq (mFor (mIRng1 (mCons (mCB oLen (mCons (mVar 2) mNil)) mNil)) (.nm 4) (mSeq (mAsg (mOp oIx (mVar 0) (mOp oIx (mVar 2) (mVar 4))) (.tp 4 (.cons (.nm 5) (.cons (.nm 6) (.cons (.nm 7) (.cons (.nm 8) .nil))))))
    (mSeq (mIfS (mOr (mB (mOp oIsNot (mVar 7) (mC .non))) (mB (mOp oNe (mOp oIx (mOp oIx (mVar 0) (mOp oIx (mVar 2) (mOp oSub (mVar 4) (mC (.int 1))))) (mC (.int 1))) (mVar 5)))) (mRet (mC (.bl false))) mNext)
    (mSet 3 (mCall w_Lplus 2 0 (fun ds _ => ds) (mArgsP (mCons (mVar 3) (mCons (mCall w_Lat 2 0 (fun ds _ => ds) (mArgsP (mCons (mVar 8) (mCons (mVar 1) mNil)))) mNil))))))))
    (mRet (mCall w_Llt 2 0 (fun ds _ => ds) (mArgsP (mCons (mVar 3) (mCons (mCB oTup (mCons (mC (.int 0)) (mCons (mC (.int 1)) mNil))) mNil)))))))))
def w_Lis_ring : WF := wOf N_Lis_ring m_Lis_ring
def N_law : List Str := ["_law_script", "_law_feed_here", "_law_many", "_law_arcs", "_law_k", "_law_room", "_law_ends", "_law_turn", "_law_tset", "_law_handed", "_law_found"]
def m_law : MS :=
  (mSeq (mSet 1 (mCall w_Lfeed 1 0 (fun ds _ => ds) (mArgsP (mCons (mVar 0) mNil))))
    (mSeq (mSet 2 (mOp oAdd (mC (.int 1)) (mCall w_Ldraw 2 0 (fun ds _ => ds) (mArgsP (mCons (mVar 1) (mCons (mC (.int 5)) mNil))))))
    (mSeq (mSet 3 (mCB oLst mNil))
    (mSeq (mFor (mIRng1 (mCons (mCall w_Ldraw 2 0 (fun ds _ => ds) (mArgsP (mCons (mVar 1) (mCons (mC (.int 9)) mNil)))) mNil)) (.nm 4) (mSeq (mSet 5 (mC .non))
    (mSeq (mIfS (mB (mOp oEq (mCall w_Ldraw 2 0 (fun ds _ => ds) (mArgsP (mCons (mVar 1) (mCons (mC (.int 5)) mNil)))) (mC (.int 0)))) (mSet 5 (mCB oTup (mCons (mCall w_Ldraw 2 0 (fun ds _ => ds) (mArgsP (mCons (mVar 1) (mCons (mC (.int 9)) mNil)))) (mCons (mC (.int 0)) mNil)))) mNext)
    (mSeq (mSet 6 (mCB oTup (mCons (mCall w_Ldraw 2 0 (fun ds _ => ds) (mArgsP (mCons (mVar 1) (mCons (mVar 2) mNil)))) (mCons (mCall w_Ldraw 2 0 (fun ds _ => ds) (mArgsP (mCons (mVar 1) (mCons (mVar 2) mNil)))) mNil))))
    (mDrop (mBM "list" omAppend (mVar 3) (mCons (mOp oAdd (mVar 6) (mCB oTup (mCons (mVar 5) (mCons (mCB oTup (mCons (mOp oSub (mCall w_Ldraw 2 0 (fun ds _ => ds) (mArgsP (mCons (mVar 1) (mCons (mC (.int 9)) mNil)))) (mC (.int 3))) (mCons (mOp oSub (mCall w_Ldraw 2 0 (fun ds _ => ds) (mArgsP (mCons (mVar 1) (mCons (mC (.int 5)) mNil)))) (mC (.int 2))) mNil))) mNil)))) mNil)))))))
    (mSeq (mFor (mIRng1 (mCons (mC (.int 2)) mNil)) (.nm 7) (mSeq (mSet 8 (mCall w_Lsetting 2 0 (fun ds _ => ds) (mArgsP (mCons (mVar 1) (mCons (mCB oTup (mCons (mUn oNeg (mC (.int 3))) (mCons (mC (.int 4)) mNil))) mNil)))))
    (mSeq (mSet 9 (mCB oList1 (mCons (mVar 3) mNil)))
    (mSeq (mSet 10 (mCall w_ring_at 3 0 (fun ds _ => ds) (mArgsP (mCons (mVar 2) (mCons (mVar 9) (mCons (mVar 8) mNil))))))
    (mSeq (mIfS (mB (mOp oNe (mVar 9) (mVar 3))) (mRet (mC (.bl false))) mNext)
    (mIfS (mB (mOp oIs (mVar 10) (mC .non))) (mIfS (mNot (mTru (mCall w_Lsettles 3 0 (fun ds _ => ds) (mArgsP (mCons (mVar 2) (mCons (mVar 3) (mCons (mVar 8) mNil))))))) (mRet (mC (.bl false))) mNext) (mIfS (mNot (mTru (mCall w_Lis_ring 3 0 (fun ds _ => ds) (mArgsP (mCons (mVar 3) (mCons (mVar 8) (mCons (mVar 10) mNil))))))) (mRet (mC (.bl false))) mNext)))))))
    (mRet (mC (.bl true))))))))
def w_law : WF := wOf N_law m_law
end Prf
namespace Prf
open PySem L2 MV
def topS (i : Nat) : Stmt := PySem.Challenge.pw_dialweir_k36_whole_ring_or_none.main.body.getD i (.Pass ⟨0, 0, 0, 0⟩)
abbrev s_Lfeed : Stmt := topS 11
abbrev s_Ldraw : Stmt := topS 12
abbrev s_Lgcd : Stmt := topS 14
abbrev s_Lfrac : Stmt := topS 15
abbrev s_Lsetting : Stmt := topS 19
abbrev s_add : Stmt := topS 1
abbrev s_turned : Stmt := topS 2
abbrev s_step_price : Stmt := topS 6
abbrev s_rank : Stmt := topS 4
abbrev s_settled : Stmt := topS 7
abbrev s_open_links : Stmt := topS 8
abbrev s_ring_at : Stmt := topS 9
abbrev s_Lplus : Stmt := topS 16
abbrev s_Lat : Stmt := topS 18
abbrev s_Llt : Stmt := topS 17
abbrev s_Lsettles : Stmt := topS 20
abbrev s_Lwhole : Stmt := topS 13
abbrev s_Lis_ring : Stmt := topS 21
abbrev s_law : Stmt := topS 22
def dd_Lfeed : He.DefD := ⟨("_law_feed", none), "_law_feed", "_law_feed", defArgs s_Lfeed, defBody s_Lfeed, defScope s_Lfeed, [], []⟩
def dd_Ldraw : He.DefD := ⟨("_law_draw", none), "_law_draw", "_law_draw", defArgs s_Ldraw, defBody s_Ldraw, defScope s_Ldraw, [], []⟩
def dd_Lgcd : He.DefD := ⟨("_law_gcd", none), "_law_gcd", "_law_gcd", defArgs s_Lgcd, defBody s_Lgcd, defScope s_Lgcd, [], []⟩
def dd_Lfrac : He.DefD := ⟨("_law_frac", none), "_law_frac", "_law_frac", defArgs s_Lfrac, defBody s_Lfrac, defScope s_Lfrac, [], []⟩
def dd_Lsetting : He.DefD := ⟨("_law_setting", none), "_law_setting", "_law_setting", defArgs s_Lsetting, defBody s_Lsetting, defScope s_Lsetting, [], []⟩
def dd_add : He.DefD := ⟨("add", none), "add", "add", defArgs s_add, defBody s_add, defScope s_add, [], []⟩
def dd_turned : He.DefD := ⟨("turned", none), "turned", "turned", defArgs s_turned, defBody s_turned, defScope s_turned, [], []⟩
def dd_step_price : He.DefD := ⟨("step_price", none), "step_price", "step_price", defArgs s_step_price, defBody s_step_price, defScope s_step_price, [], []⟩
def dd_rank : He.DefD := ⟨("rank", none), "rank", "rank", defArgs s_rank, defBody s_rank, defScope s_rank, [], []⟩
def dd_settled : He.DefD := ⟨("settled", none), "settled", "settled", defArgs s_settled, defBody s_settled, defScope s_settled, [], []⟩
def dd_open_links : He.DefD := ⟨("open_links", none), "open_links", "open_links", defArgs s_open_links, defBody s_open_links, defScope s_open_links, [], []⟩
def dd_ring_at : He.DefD := ⟨("ring_at", none), "ring_at", "ring_at", defArgs s_ring_at, defBody s_ring_at, defScope s_ring_at, [], []⟩
def dd_Lplus : He.DefD := ⟨("_law_plus", none), "_law_plus", "_law_plus", defArgs s_Lplus, defBody s_Lplus, defScope s_Lplus, [], []⟩
def dd_Lat : He.DefD := ⟨("_law_at", none), "_law_at", "_law_at", defArgs s_Lat, defBody s_Lat, defScope s_Lat, [], []⟩
def dd_Llt : He.DefD := ⟨("_law_lt", none), "_law_lt", "_law_lt", defArgs s_Llt, defBody s_Llt, defScope s_Llt, [], []⟩
def dd_Lsettles : He.DefD := ⟨("_law_settles", none), "_law_settles", "_law_settles", defArgs s_Lsettles, defBody s_Lsettles, defScope s_Lsettles, [], []⟩
def dd_Lwhole : He.DefD := ⟨("_law_whole", none), "_law_whole", "_law_whole", defArgs s_Lwhole, defBody s_Lwhole, defScope s_Lwhole, [], []⟩
def dd_Lis_ring : He.DefD := ⟨("_law_is_ring", none), "_law_is_ring", "_law_is_ring", defArgs s_Lis_ring, defBody s_Lis_ring, defScope s_Lis_ring, [], []⟩
def dd_law : He.DefD := ⟨("law", none), "law", "law", defArgs s_law, defBody s_law, defScope s_law, [], []⟩
def fnA : List He.DefD := ([dd_Lfeed, dd_Ldraw, dd_Lgcd, dd_Lfrac, dd_Lsetting, dd_add, dd_turned, dd_step_price, dd_rank, dd_settled, dd_open_links, dd_ring_at, dd_Lplus, dd_Lat, dd_Llt, dd_Lsettles, dd_Lwhole, dd_Lis_ring, dd_law] : List He.DefD)
def fnL : List He.DefD := fnA
def faL : List He.Fa := ([.glo "_law_feed", .glo "_law_draw", .glo "_law_gcd", .glo "_law_frac", .glo "_law_setting", .glo "add", .glo "turned", .glo "step_price", .glo "rank", .glo "settled", .glo "open_links", .glo "ring_at", .glo "_law_plus", .glo "_law_at", .glo "_law_lt", .glo "_law_settles", .glo "_law_whole", .glo "_law_is_ring", .glo "law", .free "abs", .free "bool", .free "enumerate", .free "int", .free "isinstance", .free "len"] : List He.Fa) ++ ([.free "list", .free "range"] : List He.Fa)
def exA (K : PySem.W.Frag) : List Bool := ([] : List Bool)
def exL (K : PySem.W.Frag) : List Bool := exA K
abbrev R : PySem.W.OpenRow := PySem.W.OpenLaw.row PySem.Challenge.rw_dialweir_k36_whole_ring_or_none
abbrev hk : PySem.W.Hook := DW.hookE 2048 faL fnL (fun K => DW.allT (exL K))
def ob (s : PySem.W.SharedT) : DW.AlE := DW.obsE 2048 faL fnL (fun K => DW.allT (exL K)) (HandSHeadRun.getT s)
theorem ob_eq (s : PySem.W.SharedT) : ob s = hk.obs s.abs := DW.obsE_eq (HandSHeadRun.getT_eq s)
def looseL : List Str := (["add", "turned", "rank", "step_price", "settled", "open_links", "ring_at", "_law_feed", "_law_draw", "_law_whole", "_law_gcd", "_law_frac", "_law_plus", "_law_lt", "_law_at", "_law_setting", "_law_settles", "_law_is_ring"] : List Str)
theorem run (w : World) : HandSHeadRun.RunEq R (PySem.W.view R.prog [22]) hk ob 12000 looseL w := by
  intro os
  kernel_rfl
end Prf
namespace Prf
open PySem L2 MV
structure Tx (w : World) (K : PySem.W.Frag) (mg : Str → Option Value) : Prop where
  g_Lfeed : mg "_law_feed" = some (.ref (He.ga K "_law_feed"))
  d_Lfeed : ∃ fd, FunD K "_law_feed" "_law_feed" (defArgs s_Lfeed) (defBody s_Lfeed) (defScope s_Lfeed) [] [] (He.ga K "_law_feed") fd
  g_Ldraw : mg "_law_draw" = some (.ref (He.ga K "_law_draw"))
  d_Ldraw : ∃ fd, FunD K "_law_draw" "_law_draw" (defArgs s_Ldraw) (defBody s_Ldraw) (defScope s_Ldraw) [] [] (He.ga K "_law_draw") fd
  g_Lgcd : mg "_law_gcd" = some (.ref (He.ga K "_law_gcd"))
  d_Lgcd : ∃ fd, FunD K "_law_gcd" "_law_gcd" (defArgs s_Lgcd) (defBody s_Lgcd) (defScope s_Lgcd) [] [] (He.ga K "_law_gcd") fd
  g_Lfrac : mg "_law_frac" = some (.ref (He.ga K "_law_frac"))
  d_Lfrac : ∃ fd, FunD K "_law_frac" "_law_frac" (defArgs s_Lfrac) (defBody s_Lfrac) (defScope s_Lfrac) [] [] (He.ga K "_law_frac") fd
  g_Lsetting : mg "_law_setting" = some (.ref (He.ga K "_law_setting"))
  d_Lsetting : ∃ fd, FunD K "_law_setting" "_law_setting" (defArgs s_Lsetting) (defBody s_Lsetting) (defScope s_Lsetting) [] [] (He.ga K "_law_setting") fd
  g_add : mg "add" = some (.ref (He.ga K "add"))
  d_add : ∃ fd, FunD K "add" "add" (defArgs s_add) (defBody s_add) (defScope s_add) [] [] (He.ga K "add") fd
  g_turned : mg "turned" = some (.ref (He.ga K "turned"))
  d_turned : ∃ fd, FunD K "turned" "turned" (defArgs s_turned) (defBody s_turned) (defScope s_turned) [] [] (He.ga K "turned") fd
  g_step_price : mg "step_price" = some (.ref (He.ga K "step_price"))
  d_step_price : ∃ fd, FunD K "step_price" "step_price" (defArgs s_step_price) (defBody s_step_price) (defScope s_step_price) [] [] (He.ga K "step_price") fd
  g_rank : mg "rank" = some (.ref (He.ga K "rank"))
  d_rank : ∃ fd, FunD K "rank" "rank" (defArgs s_rank) (defBody s_rank) (defScope s_rank) [] [] (He.ga K "rank") fd
  g_settled : mg "settled" = some (.ref (He.ga K "settled"))
  d_settled : ∃ fd, FunD K "settled" "settled" (defArgs s_settled) (defBody s_settled) (defScope s_settled) [] [] (He.ga K "settled") fd
  g_open_links : mg "open_links" = some (.ref (He.ga K "open_links"))
  d_open_links : ∃ fd, FunD K "open_links" "open_links" (defArgs s_open_links) (defBody s_open_links) (defScope s_open_links) [] [] (He.ga K "open_links") fd
  g_ring_at : mg "ring_at" = some (.ref (He.ga K "ring_at"))
  d_ring_at : ∃ fd, FunD K "ring_at" "ring_at" (defArgs s_ring_at) (defBody s_ring_at) (defScope s_ring_at) [] [] (He.ga K "ring_at") fd
  g_Lplus : mg "_law_plus" = some (.ref (He.ga K "_law_plus"))
  d_Lplus : ∃ fd, FunD K "_law_plus" "_law_plus" (defArgs s_Lplus) (defBody s_Lplus) (defScope s_Lplus) [] [] (He.ga K "_law_plus") fd
  g_Lat : mg "_law_at" = some (.ref (He.ga K "_law_at"))
  d_Lat : ∃ fd, FunD K "_law_at" "_law_at" (defArgs s_Lat) (defBody s_Lat) (defScope s_Lat) [] [] (He.ga K "_law_at") fd
  g_Llt : mg "_law_lt" = some (.ref (He.ga K "_law_lt"))
  d_Llt : ∃ fd, FunD K "_law_lt" "_law_lt" (defArgs s_Llt) (defBody s_Llt) (defScope s_Llt) [] [] (He.ga K "_law_lt") fd
  g_Lsettles : mg "_law_settles" = some (.ref (He.ga K "_law_settles"))
  d_Lsettles : ∃ fd, FunD K "_law_settles" "_law_settles" (defArgs s_Lsettles) (defBody s_Lsettles) (defScope s_Lsettles) [] [] (He.ga K "_law_settles") fd
  g_Lwhole : mg "_law_whole" = some (.ref (He.ga K "_law_whole"))
  d_Lwhole : ∃ fd, FunD K "_law_whole" "_law_whole" (defArgs s_Lwhole) (defBody s_Lwhole) (defScope s_Lwhole) [] [] (He.ga K "_law_whole") fd
  g_Lis_ring : mg "_law_is_ring" = some (.ref (He.ga K "_law_is_ring"))
  d_Lis_ring : ∃ fd, FunD K "_law_is_ring" "_law_is_ring" (defArgs s_Lis_ring) (defBody s_Lis_ring) (defScope s_Lis_ring) [] [] (He.ga K "_law_is_ring") fd
  g_law : mg "law" = some (.ref (He.ga K "law"))
  d_law : ∃ fd, FunD K "law" "law" (defArgs s_law) (defBody s_law) (defScope s_law) [] [] (He.ga K "law") fd
  m_abs : mg "abs" = none
  m_bool : mg "bool" = none
  m_enumerate : mg "enumerate" = none
  m_int : mg "int" = none
  m_isinstance : mg "isinstance" = none
  m_len : mg "len" = none
  m_list : mg "list" = none
  m_range : mg "range" = none
theorem sc_Lfeed : FnScope N_Lfeed ["_law_script"] (defScope s_Lfeed) := ⟨rfl, rfl, rfl, by decide +kernel, rfl, by decide +kernel, by decide +kernel⟩
theorem fk_Lfeed {P : Program} {w : World} {K : PySem.W.Frag} {mg : Str → Option Value} {base : Heap} (T : Tx w K mg) {fd : FuncData}
    (F : FunD K "_law_feed" "_law_feed" (defArgs s_Lfeed) (defBody s_Lfeed) (defScope s_Lfeed) [] [] (He.ga K "_law_feed") fd) :
    FnOk P w K mg base (MV.CX P w) 1 (He.ga K "_law_feed") fd ["_law_script"] (spM K 1 w_Lfeed) :=
  fn_ok F sc_Lfeed fun cdv A outer s H E hr tk po =>
    (qss_one (qs_ret (qe_lst (qa_cons (qe_callTy (call_listA rfl) sim_list (by rfl) T.m_list (by decide +kernel) (qa_cons (qe_slice (qv 0) qo_none (qo_some qe_int)) qa_nil)) (qa_cons qe_int (qa_cons qe_int (qa_cons qe_int qa_nil)))))))
theorem ok_Lfeed_0 {P : Program} {w : World} {K : PySem.W.Frag} {mg : Str → Option Value} {base : Heap} (T : Tx w K mg) :
    Fn P w K mg base 1 (He.ga K "_law_feed") ["_law_script"] w_Lfeed 1 [] (fun ds _ => ds) := by
  obtain ⟨fd, F⟩ := T.d_Lfeed
  refine ⟨⟨fd, fk_Lfeed T F, ?_⟩, F.kp⟩
  exact dbn_all (FunD.bindsN F (ps := ["_law_script"]) fun _ _ _ _ _ _ us hl => match us, hl with | [_], _ => rfl)
theorem sc_Ldraw : FnScope N_Ldraw ["_law_feed_here", "_law_many"] (defScope s_Ldraw) := ⟨rfl, rfl, rfl, by decide +kernel, rfl, by decide +kernel, by decide +kernel⟩
theorem fk_Ldraw {P : Program} {w : World} {K : PySem.W.Frag} {mg : Str → Option Value} {base : Heap} (T : Tx w K mg) {fd : FuncData}
    (F : FunD K "_law_draw" "_law_draw" (defArgs s_Ldraw) (defBody s_Ldraw) (defScope s_Ldraw) [] [] (He.ga K "_law_draw") fd) :
    FnOk P w K mg base (MV.CX P w) 1 (He.ga K "_law_draw") fd ["_law_feed_here", "_law_many"] (spM K 2 w_Ldraw) :=
  fn_ok F sc_Ldraw fun cdv A outer s H E hr tk po =>
    (qss_cons (qs_if (qt_cmp op_gt sim_gt (qe_ix (ix_any (units1 hr)) sim_ix (qv 0) qe_int (fun _ _ => rfl)) qe_int (nomark _)) (qss_cons (qs_set (i := 2) sc_Ldraw.nd rfl (Or.inl rfl) (qe_op op_modN sim_mod (qe_ix (ix_any (units1 hr)) sim_ix (qv 0) qe_int (fun _ _ => rfl)) (qv 1)))
      (qss_cons (qs_setIx (units1 hr) (qe_op DW.op_fdivX sim_div (qe_ix (ix_any (units1 hr)) sim_ix (qv 0) qe_int (fun _ _ => rfl)) (qv 1)) (qv 0) qe_int)
      (qss_one (qs_ret (qv 2))))) qss_nil)
      (qss_cons (qs_set (i := 3) sc_Ldraw.nd rfl (Or.inl rfl) qe_int)
      (qss_cons (qs_if (qt_cmp op_lt sim_lt (qe_ix (ix_any (units1 hr)) sim_ix (qv 0) qe_int (fun _ _ => rfl)) (qe_callB call_lenA sim_len (by rfl) T.m_len (by decide +kernel) (qa_cons (qe_ix (ix_any (units1 hr)) sim_ix (qv 0) qe_int (fun _ _ => rfl)) qa_nil)) (nomark _)) (qss_cons (qs_set (i := 3) sc_Ldraw.nd rfl (Or.inl rfl) (qe_ix (ix_any (units1 hr)) sim_ix (qe_ix (ix_any (units1 hr)) sim_ix (qv 0) qe_int (fun _ _ => rfl)) (qe_ix (ix_any (units1 hr)) sim_ix (qv 0) qe_int (fun _ _ => rfl)) (fun _ _ => rfl)))
      (qss_one (qs_setIx (units1 hr) (qe_op DW.op_plus sim_add (qe_ix (ix_any (units1 hr)) sim_ix (qv 0) qe_int (fun _ _ => rfl)) qe_int) (qv 0) qe_int))) qss_nil)
      (qss_cons (qs_if (qt_cmp op_ge sim_ge (qv 3) qe_int (nomark _)) (qss_cons (qs_setIx (units1 hr) (qe_op DW.op_fdivX sim_div (qv 3) (qv 1)) (qv 0) qe_int)
      (qss_one (qs_ret (qe_op op_modN sim_mod (qv 3) (qv 1))))) qss_nil)
      (qss_cons (qs_setIx (units1 hr) (qe_op op_modN sim_mod (qe_op DW.op_plus sim_add (qe_op DW.op_plus sim_add (qe_op op_mulA sim_mul (qe_ix (ix_any (units1 hr)) sim_ix (qv 0) qe_int (fun _ _ => rfl)) qe_int) (qe_op op_modN sim_mod (qv 3) qe_int)) qe_int) qe_int) (qv 0) qe_int)
      (qss_cons (qs_set (i := 4) sc_Ldraw.nd rfl (Or.inl rfl) (qe_ix (ix_any (units1 hr)) sim_ix (qe_lst (qa_cons (qe_ix (ix_any (units1 hr)) sim_ix (qv 0) qe_int (fun _ _ => rfl)) (qa_cons (qe_op op_pow sim_pow (qe_ix (ix_any (units1 hr)) sim_ix (qv 0) qe_int (fun _ _ => rfl)) qe_int) qa_nil))) (qe_callTy call_intA sim_int (by rfl) T.m_int (by decide +kernel) (qa_cons (qe_cmp op_gt sim_gt (qv 1) qe_int (nomark _)) qa_nil)) (fun _ _ => rfl)))
      (qss_one (qs_ret (qe_op op_modN sim_mod (qe_op DW.op_plus sim_add (qe_op DW.op_fdivX sim_div (qv 4) qe_int) (qv 3)) (qv 1))))))))))
theorem ok_Ldraw_0 {P : Program} {w : World} {K : PySem.W.Frag} {mg : Str → Option Value} {base : Heap} (T : Tx w K mg) :
    Fn P w K mg base 1 (He.ga K "_law_draw") ["_law_feed_here", "_law_many"] w_Ldraw 2 [] (fun ds _ => ds) := by
  obtain ⟨fd, F⟩ := T.d_Ldraw
  refine ⟨⟨fd, fk_Ldraw T F, ?_⟩, F.kp⟩
  exact dbn_all (FunD.bindsN F (ps := ["_law_feed_here", "_law_many"]) fun _ _ _ _ _ _ us hl => match us, hl with | [_, _], _ => rfl)
theorem sc_Lgcd : FnScope N_Lgcd ["_law_one", "_law_other"] (defScope s_Lgcd) := ⟨rfl, rfl, rfl, by decide +kernel, rfl, by decide +kernel, by decide +kernel⟩
theorem fk_Lgcd {P : Program} {w : World} {K : PySem.W.Frag} {mg : Str → Option Value} {base : Heap} (T : Tx w K mg) {fd : FuncData}
    (F : FunD K "_law_gcd" "_law_gcd" (defArgs s_Lgcd) (defBody s_Lgcd) (defScope s_Lgcd) [] [] (He.ga K "_law_gcd") fd) :
    FnOk P w K mg base (MV.CX P w) 1 (He.ga K "_law_gcd") fd ["_law_one", "_law_other"] (spM K 2 w_Lgcd) :=
  fn_ok F sc_Lgcd fun cdv A outer s H E hr tk po =>
    (qss_cons (qs_while po (qt_tru (qv 1) (by intro _; rfl)) (qss_one (qs_par (i := 0) (j := 1) (by rfl) sc_Lgcd.nd rfl rfl (by decide) rfl rfl (qa_cons (qv 1) (qa_cons (qe_op op_modN sim_mod (qv 0) (qv 1)) qa_nil)) (by rfl))))
      (qss_one (qs_ret (qe_callB call_abs sim_abs (by rfl) T.m_abs (by decide +kernel) (qa_cons (qv 0) qa_nil)))))
theorem ok_Lgcd_0 {P : Program} {w : World} {K : PySem.W.Frag} {mg : Str → Option Value} {base : Heap} (T : Tx w K mg) :
    Fn P w K mg base 1 (He.ga K "_law_gcd") ["_law_one", "_law_other"] w_Lgcd 2 [] (fun ds _ => ds) := by
  obtain ⟨fd, F⟩ := T.d_Lgcd
  refine ⟨⟨fd, fk_Lgcd T F, ?_⟩, F.kp⟩
  exact dbn_all (FunD.bindsN F (ps := ["_law_one", "_law_other"]) fun _ _ _ _ _ _ us hl => match us, hl with | [_, _], _ => rfl)
theorem sc_Lfrac : FnScope N_Lfrac ["_law_top", "_law_under"] (defScope s_Lfrac) := ⟨rfl, rfl, rfl, by decide +kernel, rfl, by decide +kernel, by decide +kernel⟩
theorem fk_Lfrac {P : Program} {w : World} {K : PySem.W.Frag} {mg : Str → Option Value} {base : Heap} (T : Tx w K mg)
    (G_Lgcd_0 : Fn P w K mg base 1 (He.ga K "_law_gcd") ["_law_one", "_law_other"] w_Lgcd 2 [] (fun ds _ => ds)) {fd : FuncData}
    (F : FunD K "_law_frac" "_law_frac" (defArgs s_Lfrac) (defBody s_Lfrac) (defScope s_Lfrac) [] [] (He.ga K "_law_frac") fd) :
    FnOk P w K mg base (MV.CX P w) 2 (He.ga K "_law_frac") fd ["_law_top", "_law_under"] (spM K 2 w_Lfrac) :=
  fn_ok F sc_Lfrac fun cdv A outer s H E hr tk po =>
    (qss_cons (qs_set (i := 2) sc_Lfrac.nd rfl (Or.inl rfl) (qe_call G_Lgcd_0 (hr.mono (by decide)) (by rfl) T.g_Lgcd tk (qcwP (qa_cons (qv 0) (qa_cons (qv 1) qa_nil))) (by exact fun _ _ h _ => h)))
      (qss_cons (qs_if (qt_cmp op_lt sim_lt (qv 1) qe_int (nomark _)) (qss_one (qs_set (i := 2) sc_Lfrac.nd rfl (Or.inl rfl) (qe_un un_neg sim_neg (qv 2)))) qss_nil)
      (qss_one (qs_ret (qe_tup (qa_cons (qe_op DW.op_fdivX sim_div (qv 0) (qv 2)) (qa_cons (qe_op DW.op_fdivX sim_div (qv 1) (qv 2)) qa_nil)))))))
theorem ok_Lfrac_0 {P : Program} {w : World} {K : PySem.W.Frag} {mg : Str → Option Value} {base : Heap} (T : Tx w K mg)
    (G_Lgcd_0 : Fn P w K mg base 1 (He.ga K "_law_gcd") ["_law_one", "_law_other"] w_Lgcd 2 [] (fun ds _ => ds)) :
    Fn P w K mg base 2 (He.ga K "_law_frac") ["_law_top", "_law_under"] w_Lfrac 2 [] (fun ds _ => ds) := by
  obtain ⟨fd, F⟩ := T.d_Lfrac
  refine ⟨⟨fd, fk_Lfrac T G_Lgcd_0 F, ?_⟩, F.kp⟩
  exact dbn_all (FunD.bindsN F (ps := ["_law_top", "_law_under"]) fun _ _ _ _ _ _ us hl => match us, hl with | [_, _], _ => rfl)
theorem sc_Lsetting : FnScope N_Lsetting ["_law_feed_here", "_law_pair"] (defScope s_Lsetting) := ⟨rfl, rfl, rfl, by decide +kernel, rfl, by decide +kernel, by decide +kernel⟩
theorem fk_Lsetting {P : Program} {w : World} {K : PySem.W.Frag} {mg : Str → Option Value} {base : Heap} (T : Tx w K mg)
    (G_Ldraw_0 : Fn P w K mg base 1 (He.ga K "_law_draw") ["_law_feed_here", "_law_many"] w_Ldraw 2 [] (fun ds _ => ds))
    (G_Lfrac_0 : Fn P w K mg base 2 (He.ga K "_law_frac") ["_law_top", "_law_under"] w_Lfrac 2 [] (fun ds _ => ds)) {fd : FuncData}
    (F : FunD K "_law_setting" "_law_setting" (defArgs s_Lsetting) (defBody s_Lsetting) (defScope s_Lsetting) [] [] (He.ga K "_law_setting") fd) :
    FnOk P w K mg base (MV.CX P w) 3 (He.ga K "_law_setting") fd ["_law_feed_here", "_law_pair"] (spM K 2 w_Lsetting) :=
  fn_ok F sc_Lsetting fun cdv A outer s H E hr tk po =>
    (qss_cons (qs_set (i := 2) sc_Lsetting.nd rfl (Or.inl rfl) (qe_op DW.op_plus sim_add qe_int (qe_call G_Ldraw_0 (hr.mono (by decide)) (by rfl) T.g_Ldraw tk (qcwP (qa_cons (qv 0) (qa_cons qe_int qa_nil))) (by exact fun _ _ h _ => h))))
      (qss_one (qs_ret (qe_call G_Lfrac_0 (hr.mono (by decide)) (by rfl) T.g_Lfrac tk (qcwP (qa_cons (qe_op DW.op_plus sim_add (qe_op op_mulA sim_mul (qe_ix (ix_any (units1 hr)) sim_ix (qv 1) qe_int (fun _ _ => rfl)) (qv 2)) (qe_call G_Ldraw_0 (hr.mono (by decide)) (by rfl) T.g_Ldraw tk (qcwP (qa_cons (qv 0) (qa_cons (qe_op DW.op_plus sim_add (qe_op op_mulA sim_mul (qe_op op_sub sim_sub (qe_ix (ix_any (units1 hr)) sim_ix (qv 1) qe_int (fun _ _ => rfl)) (qe_ix (ix_any (units1 hr)) sim_ix (qv 1) qe_int (fun _ _ => rfl))) (qv 2)) qe_int) qa_nil))) (by exact fun _ _ h _ => h))) (qa_cons (qv 2) qa_nil))) (by exact fun _ _ h _ => h)))))
theorem ok_Lsetting_0 {P : Program} {w : World} {K : PySem.W.Frag} {mg : Str → Option Value} {base : Heap} (T : Tx w K mg)
    (G_Ldraw_0 : Fn P w K mg base 1 (He.ga K "_law_draw") ["_law_feed_here", "_law_many"] w_Ldraw 2 [] (fun ds _ => ds))
    (G_Lfrac_0 : Fn P w K mg base 2 (He.ga K "_law_frac") ["_law_top", "_law_under"] w_Lfrac 2 [] (fun ds _ => ds)) :
    Fn P w K mg base 3 (He.ga K "_law_setting") ["_law_feed_here", "_law_pair"] w_Lsetting 2 [] (fun ds _ => ds) := by
  obtain ⟨fd, F⟩ := T.d_Lsetting
  refine ⟨⟨fd, fk_Lsetting T G_Ldraw_0 G_Lfrac_0 F, ?_⟩, F.kp⟩
  exact dbn_all (FunD.bindsN F (ps := ["_law_feed_here", "_law_pair"]) fun _ _ _ _ _ _ us hl => match us, hl with | [_, _], _ => rfl)
theorem sc_add : FnScope N_add ["m", "n"] (defScope s_add) := ⟨rfl, rfl, rfl, by decide +kernel, rfl, by decide +kernel, by decide +kernel⟩
theorem fk_add {P : Program} {w : World} {K : PySem.W.Frag} {mg : Str → Option Value} {base : Heap} (T : Tx w K mg) {fd : FuncData}
    (F : FunD K "add" "add" (defArgs s_add) (defBody s_add) (defScope s_add) [] [] (He.ga K "add") fd) :
    FnOk P w K mg base (MV.CX P w) 1 (He.ga K "add") fd ["m", "n"] (spM K 2 w_add) :=
  fn_ok F sc_add fun cdv A outer s H E hr tk po =>
    (qss_one (qs_ret (qe_tup (qa_cons (qe_op DW.op_plus sim_add (qe_ix (ix_any (units1 hr)) sim_ix (qv 0) qe_int (fun _ _ => rfl)) (qe_ix (ix_any (units1 hr)) sim_ix (qv 1) qe_int (fun _ _ => rfl))) (qa_cons (qe_op DW.op_plus sim_add (qe_ix (ix_any (units1 hr)) sim_ix (qv 0) qe_int (fun _ _ => rfl)) (qe_ix (ix_any (units1 hr)) sim_ix (qv 1) qe_int (fun _ _ => rfl))) qa_nil)))))
theorem ok_add_0 {P : Program} {w : World} {K : PySem.W.Frag} {mg : Str → Option Value} {base : Heap} (T : Tx w K mg) :
    Fn P w K mg base 1 (He.ga K "add") ["m", "n"] w_add 2 [] (fun ds _ => ds) := by
  obtain ⟨fd, F⟩ := T.d_add
  refine ⟨⟨fd, fk_add T F, ?_⟩, F.kp⟩
  exact dbn_all (FunD.bindsN F (ps := ["m", "n"]) fun _ _ _ _ _ _ us hl => match us, hl with | [_, _], _ => rfl)
theorem sc_turned : FnScope N_turned ["m"] (defScope s_turned) := ⟨rfl, rfl, rfl, by decide +kernel, rfl, by decide +kernel, by decide +kernel⟩
theorem fk_turned {P : Program} {w : World} {K : PySem.W.Frag} {mg : Str → Option Value} {base : Heap} (T : Tx w K mg) {fd : FuncData}
    (F : FunD K "turned" "turned" (defArgs s_turned) (defBody s_turned) (defScope s_turned) [] [] (He.ga K "turned") fd) :
    FnOk P w K mg base (MV.CX P w) 1 (He.ga K "turned") fd ["m"] (spM K 1 w_turned) :=
  fn_ok F sc_turned fun cdv A outer s H E hr tk po =>
    (qss_one (qs_ret (qe_tup (qa_cons (qe_un un_neg sim_neg (qe_ix (ix_any (units1 hr)) sim_ix (qv 0) qe_int (fun _ _ => rfl))) (qa_cons (qe_un un_neg sim_neg (qe_ix (ix_any (units1 hr)) sim_ix (qv 0) qe_int (fun _ _ => rfl))) qa_nil)))))
theorem ok_turned_0 {P : Program} {w : World} {K : PySem.W.Frag} {mg : Str → Option Value} {base : Heap} (T : Tx w K mg) :
    Fn P w K mg base 1 (He.ga K "turned") ["m"] w_turned 1 [] (fun ds _ => ds) := by
  obtain ⟨fd, F⟩ := T.d_turned
  refine ⟨⟨fd, fk_turned T F, ?_⟩, F.kp⟩
  exact dbn_all (FunD.bindsN F (ps := ["m"]) fun _ _ _ _ _ _ us hl => match us, hl with | [_], _ => rfl)
theorem sc_step_price : FnScope N_step_price ["arcs", "link"] (defScope s_step_price) := ⟨rfl, rfl, rfl, by decide +kernel, rfl, by decide +kernel, by decide +kernel⟩
theorem fk_step_price {P : Program} {w : World} {K : PySem.W.Frag} {mg : Str → Option Value} {base : Heap} (T : Tx w K mg)
    (G_turned_0 : Fn P w K mg base 1 (He.ga K "turned") ["m"] w_turned 1 [] (fun ds _ => ds)) {fd : FuncData}
    (F : FunD K "step_price" "step_price" (defArgs s_step_price) (defBody s_step_price) (defScope s_step_price) [] [] (He.ga K "step_price") fd) :
    FnOk P w K mg base (MV.CX P w) 2 (He.ga K "step_price") fd ["arcs", "link"] (spM K 2 w_step_price) :=
  fn_ok F sc_step_price fun cdv A outer s H E hr tk po =>
    (qss_cons (qs_set (i := 2) sc_step_price.nd rfl (Or.inl rfl) (qe_ix (ix_any (units1 hr)) sim_ix (qe_ix (ix_any (units1 hr)) sim_ix (qv 0) (qe_ix (ix_any (units1 hr)) sim_ix (qv 1) qe_int (fun _ _ => rfl)) (fun _ _ => rfl)) qe_int (fun _ _ => rfl)))
      (qss_one (qs_ret (qe_ifExp (qt_tru (qe_ix (ix_any (units1 hr)) sim_ix (qv 1) qe_int (fun _ _ => rfl)) (by intro _; rfl)) (qv 2) (qe_call G_turned_0 (hr.mono (by decide)) (by rfl) T.g_turned tk (qcwP (qa_cons (qv 2) qa_nil)) (by exact fun _ _ h _ => h))))))
theorem ok_step_price_0 {P : Program} {w : World} {K : PySem.W.Frag} {mg : Str → Option Value} {base : Heap} (T : Tx w K mg)
    (G_turned_0 : Fn P w K mg base 1 (He.ga K "turned") ["m"] w_turned 1 [] (fun ds _ => ds)) :
    Fn P w K mg base 2 (He.ga K "step_price") ["arcs", "link"] w_step_price 2 [] (fun ds _ => ds) := by
  obtain ⟨fd, F⟩ := T.d_step_price
  refine ⟨⟨fd, fk_step_price T G_turned_0 F, ?_⟩, F.kp⟩
  exact dbn_all (FunD.bindsN F (ps := ["arcs", "link"]) fun _ _ _ _ _ _ us hl => match us, hl with | [_, _], _ => rfl)
theorem sc_rank : FnScope N_rank ["move", "at", "ahead"] (defScope s_rank) := ⟨rfl, rfl, rfl, by decide +kernel, rfl, by decide +kernel, by decide +kernel⟩
theorem fk_rank {P : Program} {w : World} {K : PySem.W.Frag} {mg : Str → Option Value} {base : Heap} (T : Tx w K mg) {fd : FuncData}
    (F : FunD K "rank" "rank" (defArgs s_rank) (defBody s_rank) (defScope s_rank) [] [] (He.ga K "rank") fd) :
    FnOk P w K mg base (MV.CX P w) 1 (He.ga K "rank") fd ["move", "at", "ahead"] (spM K 3 w_rank) :=
  fn_ok F sc_rank fun cdv A outer s H E hr tk po =>
    (qss_one (qs_ret (qe_tup (qa_cons (qe_op DW.op_plus sim_add (qe_op op_mulA sim_mul (qe_ix (ix_any (units1 hr)) sim_ix (qv 0) qe_int (fun _ _ => rfl)) (qe_ix (ix_any (units1 hr)) sim_ix (qv 1) qe_int (fun _ _ => rfl))) (qe_op op_mulA sim_mul (qe_ix (ix_any (units1 hr)) sim_ix (qv 0) qe_int (fun _ _ => rfl)) (qe_ix (ix_any (units1 hr)) sim_ix (qv 1) qe_int (fun _ _ => rfl)))) (qa_cons (qe_ifExp (qt_tru (qv 2) (by intro _; rfl)) (qe_ix (ix_any (units1 hr)) sim_ix (qv 0) qe_int (fun _ _ => rfl)) qe_int) qa_nil)))))
theorem ok_rank_0 {P : Program} {w : World} {K : PySem.W.Frag} {mg : Str → Option Value} {base : Heap} (T : Tx w K mg) :
    Fn P w K mg base 1 (He.ga K "rank") ["move", "at", "ahead"] w_rank 3 [] (fun ds _ => ds) := by
  obtain ⟨fd, F⟩ := T.d_rank
  refine ⟨⟨fd, fk_rank T F, ?_⟩, F.kp⟩
  exact dbn_all (FunD.bindsN F (ps := ["move", "at", "ahead"]) fun _ _ _ _ _ _ us hl => match us, hl with | [_, _, _], _ => rfl)
theorem sc_settled : FnScope N_settled ["heights", "links", "arcs", "at", "ahead"] (defScope s_settled) := ⟨rfl, rfl, rfl, by decide +kernel, rfl, by decide +kernel, by decide +kernel⟩
theorem fk_settled {P : Program} {w : World} {K : PySem.W.Frag} {mg : Str → Option Value} {base : Heap} (T : Tx w K mg)
    (G_add_0 : Fn P w K mg base 1 (He.ga K "add") ["m", "n"] w_add 2 [] (fun ds _ => ds))
    (G_rank_0 : Fn P w K mg base 1 (He.ga K "rank") ["move", "at", "ahead"] w_rank 3 [] (fun ds _ => ds))
    (G_step_price_0 : Fn P w K mg base 2 (He.ga K "step_price") ["arcs", "link"] w_step_price 2 [] (fun ds _ => ds)) {fd : FuncData}
    (F : FunD K "settled" "settled" (defArgs s_settled) (defBody s_settled) (defScope s_settled) [] [] (He.ga K "settled") fd) :
    FnOk P w K mg base (MV.CX P w) 3 (He.ga K "settled") fd ["heights", "links", "arcs", "at", "ahead"] (spM K 5 w_settled) :=
  fn_ok F sc_settled fun cdv A outer s H E hr tk po =>
    (qss_cons (qs_set (i := 0) sc_settled.nd rfl (Or.inl rfl) (qe_callTy (call_listA rfl) sim_list (by rfl) T.m_list (by decide +kernel) (qa_cons (qv 0) qa_nil)))
      (qss_cons (qs_setLc (i := 5) (own := [("height", 6)]) (T := (.nm 6)) (tt := mYes) (me := (mC .non)) rfl sc_settled.nd rfl rfl (sw_true rfl rfl rfl (by decide +kernel)) (qi_seq (qv 0)) (blkOk_by (N := N_settled) (sc := defScope s_settled) (by decide +kernel)) (fun _ _ _ _ _ => (qg_name (i := 6) sc_settled.nd rfl (by first | exact Or.inl rfl | exact Or.inr rfl))) (fun _ _ _ _ _ => qts_nil) (fun _ _ _ _ _ => qe_non) (by decide))
      (qss_cons (qs_set (i := 7) sc_settled.nd rfl (Or.inl rfl) qe_non)
      (qss_cons (qs_for po rfl (qi_range1 (by rfl) T.m_range (qa_cons (qe_callB call_lenA sim_len (by rfl) T.m_len (by decide +kernel) (qa_cons (qv 0) qa_nil)) qa_nil)) (qg_name (i := 8) sc_settled.nd rfl (by first | exact Or.inl rfl | exact Or.inr rfl)) (qss_cons (qs_set (i := 7) sc_settled.nd rfl (Or.inl rfl) qe_non)
      (qss_cons (qs_for po rfl (qi_seq (qv 1)) (qg_name (i := 9) sc_settled.nd rfl (by first | exact Or.inl rfl | exact Or.inr rfl)) (qss_cons (qs_par (i := 11) (j := 12) (by rfl) sc_settled.nd rfl rfl (by decide) rfl rfl (qa_cons (qe_ix (ix_any (units1 hr)) sim_ix (qv 9) qe_int (fun _ _ => rfl)) (qa_cons (qe_ix (ix_any (units1 hr)) sim_ix (qv 9) qe_int (fun _ _ => rfl)) qa_nil)) (by rfl))
      (qss_cons (qs_if (qt_cmp op_isN1 sim_is (qe_ix (ix_any (units1 hr)) sim_ix (qv 0) (qv 11) (fun _ _ => rfl)) qe_non (nomark _)) (qss_one qs_cont) qss_nil)
      (qss_cons (qs_set (i := 10) sc_settled.nd rfl (Or.inl rfl) (qe_call G_add_0 (hr.mono (by decide)) (by rfl) T.g_add tk (qcwP (qa_cons (qe_ix (ix_any (units1 hr)) sim_ix (qv 0) (qv 11) (fun _ _ => rfl)) (qa_cons (qe_call G_step_price_0 (hr.mono (by decide)) (by rfl) T.g_step_price tk (qcwP (qa_cons (qv 2) (qa_cons (qv 9) qa_nil))) (by exact fun _ _ h _ => h)) qa_nil))) (by exact fun _ _ h _ => h)))
      (qss_one (qs_if (PW.pt (qw_or (qt_cmp op_isN1 sim_is (qe_ix (ix_any (units1 hr)) sim_ix (qv 0) (qv 12) (fun _ _ => rfl)) qe_non (nomark _)) (qw_or1 (qt_cmp (op_ltP hr.units) sim_ltP (qe_call G_rank_0 (hr.mono (by decide)) (by rfl) T.g_rank tk (qcwP (qa_cons (qv 10) (qa_cons (qv 3) (qa_cons (qv 4) qa_nil)))) (by exact fun _ _ h _ => h)) (qe_call G_rank_0 (hr.mono (by decide)) (by rfl) T.g_rank tk (qcwP (qa_cons (qe_ix (ix_any (units1 hr)) sim_ix (qv 0) (qv 12) (fun _ _ => rfl)) (qa_cons (qv 3) (qa_cons (qv 4) qa_nil)))) (by exact fun _ _ h _ => h)) (nomark _))))) (qss_cons (qs_setIx (units1 hr) (qv 10) (qv 0) (qv 12))
      (qss_cons (qs_setIx (units1 hr) (qv 9) (qv 5) (qv 12))
      (qss_one (qs_set (i := 7) sc_settled.nd rfl (Or.inl rfl) (qv 12))))) qss_nil))))))
      (qss_one (qs_if (qt_cmp op_isN1 sim_is (qv 7) qe_non (nomark _)) (qss_one qs_break) qss_nil)))))
      (qss_one (qs_ret (qe_tup (qa_cons (qv 0) (qa_cons (qv 5) (qa_cons (qv 7) qa_nil))))))))))
theorem ok_settled_0 {P : Program} {w : World} {K : PySem.W.Frag} {mg : Str → Option Value} {base : Heap} (T : Tx w K mg)
    (G_add_0 : Fn P w K mg base 1 (He.ga K "add") ["m", "n"] w_add 2 [] (fun ds _ => ds))
    (G_rank_0 : Fn P w K mg base 1 (He.ga K "rank") ["move", "at", "ahead"] w_rank 3 [] (fun ds _ => ds))
    (G_step_price_0 : Fn P w K mg base 2 (He.ga K "step_price") ["arcs", "link"] w_step_price 2 [] (fun ds _ => ds)) :
    Fn P w K mg base 3 (He.ga K "settled") ["heights", "links", "arcs", "at", "ahead"] w_settled 5 [] (fun ds _ => ds) := by
  obtain ⟨fd, F⟩ := T.d_settled
  refine ⟨⟨fd, fk_settled T G_add_0 G_rank_0 G_step_price_0 F, ?_⟩, F.kp⟩
  exact dbn_all (FunD.bindsN F (ps := ["heights", "links", "arcs", "at", "ahead"]) fun _ _ _ _ _ _ us hl => match us, hl with | [_, _, _, _, _], _ => rfl)
theorem sc_open_links : FnScope N_open_links ["arcs"] (defScope s_open_links) := ⟨rfl, rfl, rfl, by decide +kernel, rfl, by decide +kernel, by decide +kernel⟩
theorem fk_open_links {P : Program} {w : World} {K : PySem.W.Frag} {mg : Str → Option Value} {base : Heap} (T : Tx w K mg) {fd : FuncData}
    (F : FunD K "open_links" "open_links" (defArgs s_open_links) (defBody s_open_links) (defScope s_open_links) [] [] (He.ga K "open_links") fd) :
    FnOk P w K mg base (MV.CX P w) 1 (He.ga K "open_links") fd ["arcs"] (spM K 1 w_open_links) :=
  fn_ok F sc_open_links fun cdv A outer s H E hr tk po =>
    (qss_one (qs_ret (qe_lc (own := [("k", 1), ("tail", 2), ("head", 3), ("room", 4), ("price", 5)]) (T := (.tp 2 (.cons (.nm 1) (.cons (.tp 4 (.cons (.nm 2) (.cons (.nm 3) (.cons (.nm 4) (.cons (.nm 5) .nil))))) .nil)))) (tt := (mB (mOp oIs (mVar 4) (mC .non)))) (me := (mCB oTup (mCons (mVar 2) (mCons (mVar 3) (mCons (mVar 1) (mCons (mC (.bl true)) mNil)))))) rfl sc_open_links.nd (qi_enumL (by rfl) T.m_enumerate (qa_cons (qv 0) qa_nil)) (blkOk_by (N := N_open_links) (sc := defScope s_open_links) (by decide +kernel)) (fun _ _ _ _ _ => (qg_tup rfl (qgs_cons (qg_name (i := 1) sc_open_links.nd rfl (by first | exact Or.inl rfl | exact Or.inr rfl)) (qgs_cons (qg_tup rfl (qgs_cons (qg_name (i := 2) sc_open_links.nd rfl (by first | exact Or.inl rfl | exact Or.inr rfl)) (qgs_cons (qg_name (i := 3) sc_open_links.nd rfl (by first | exact Or.inl rfl | exact Or.inr rfl)) (qgs_cons (qg_name (i := 4) sc_open_links.nd rfl (by first | exact Or.inl rfl | exact Or.inr rfl)) (qgs_cons (qg_name (i := 5) sc_open_links.nd rfl (by first | exact Or.inl rfl | exact Or.inr rfl)) qgs_nil))))) qgs_nil)))) (fun _ _ _ _ _ => (qts_one (qt_cmp op_isN1 sim_is (qv 4) qe_non (nomark _)))) (fun _ _ _ _ _ => (qe_tup (qa_cons (qv 2) (qa_cons (qv 3) (qa_cons (qv 1) (qa_cons qe_bl qa_nil)))))) (by decide))))
theorem ok_open_links_0 {P : Program} {w : World} {K : PySem.W.Frag} {mg : Str → Option Value} {base : Heap} (T : Tx w K mg) :
    Fn P w K mg base 1 (He.ga K "open_links") ["arcs"] w_open_links 1 [] (fun ds _ => ds) := by
  obtain ⟨fd, F⟩ := T.d_open_links
  refine ⟨⟨fd, fk_open_links T F, ?_⟩, F.kp⟩
  exact dbn_all (FunD.bindsN F (ps := ["arcs"]) fun _ _ _ _ _ _ us hl => match us, hl with | [_], _ => rfl)
theorem sc_ring_at : FnScope N_ring_at ["count", "arcs", "t"] (defScope s_ring_at) := ⟨rfl, rfl, rfl, by decide +kernel, rfl, by decide +kernel, by decide +kernel⟩
theorem fk_ring_at {P : Program} {w : World} {K : PySem.W.Frag} {mg : Str → Option Value} {base : Heap} (T : Tx w K mg)
    (G_open_links_0 : Fn P w K mg base 1 (He.ga K "open_links") ["arcs"] w_open_links 1 [] (fun ds _ => ds))
    (G_settled_0 : Fn P w K mg base 3 (He.ga K "settled") ["heights", "links", "arcs", "at", "ahead"] w_settled 5 [] (fun ds _ => ds)) {fd : FuncData}
    (F : FunD K "ring_at" "ring_at" (defArgs s_ring_at) (defBody s_ring_at) (defScope s_ring_at) [] [] (He.ga K "ring_at") fd) :
    FnOk P w K mg base (MV.CX P w) 4 (He.ga K "ring_at") fd ["count", "arcs", "t"] (spM K 3 w_ring_at) :=
  fn_ok F sc_ring_at fun cdv A outer s H E hr tk po =>
    (qss_cons (qs_setLc (i := 3) (own := [("node", 4)]) (T := (.nm 4)) (tt := mYes) (me := (mCB oTup (mCons (mC (.int 0)) (mCons (mC (.int 0)) mNil)))) rfl sc_ring_at.nd rfl rfl (sw_true rfl rfl rfl (by decide +kernel)) (qi_range1 (by rfl) T.m_range (qa_cons (qv 0) qa_nil)) (blkOk_by (N := N_ring_at) (sc := defScope s_ring_at) (by decide +kernel)) (fun _ _ _ _ _ => (qg_name (i := 4) sc_ring_at.nd rfl (by first | exact Or.inl rfl | exact Or.inr rfl))) (fun _ _ _ _ _ => qts_nil) (fun _ _ _ _ _ => (qe_tup (qa_cons qe_int (qa_cons qe_int qa_nil)))) (by decide))
      (qss_cons (qs_asg (qe_call G_settled_0 (hr.mono (by decide)) (by rfl) T.g_settled tk (qcwP (qa_cons (qv 3) (qa_cons (qe_call G_open_links_0 (hr.mono (by decide)) (by rfl) T.g_open_links tk (qcwP (qa_cons (qv 1) qa_nil)) (by exact fun _ _ h _ => h)) (qa_cons (qv 1) (qa_cons (qv 2) (qa_cons qe_bl qa_nil)))))) (by exact fun _ _ h _ => h)) (qg_tup rfl (qgs_cons (qg_name (i := 5) sc_ring_at.nd rfl (by first | exact Or.inl rfl | exact Or.inr rfl)) (qgs_cons (qg_name (i := 6) sc_ring_at.nd rfl (by first | exact Or.inl rfl | exact Or.inr rfl)) (qgs_cons (qg_name (i := 4) sc_ring_at.nd rfl (by first | exact Or.inl rfl | exact Or.inr rfl)) qgs_nil)))))
      (qss_cons (qs_if (qt_cmp op_isN1 sim_is (qv 4) qe_non (nomark _)) (qss_one (qs_ret qe_non)) qss_nil)
      (qss_cons (qs_for po rfl (qi_range1 (by rfl) T.m_range (qa_cons (qv 0) qa_nil)) (qg_name (i := 7) sc_ring_at.nd rfl (by first | exact Or.inl rfl | exact Or.inr rfl)) (qss_one (qs_set (i := 4) sc_ring_at.nd rfl (Or.inl rfl) (qe_ix (ix_any (units1 hr)) sim_ix (qe_ix (ix_any (units1 hr)) sim_ix (qv 6) (qv 4) (fun _ _ => rfl)) qe_int (fun _ _ => rfl)))))
      (qss_cons (qs_set (i := 8) sc_ring_at.nd rfl (Or.inl rfl) (qe_lst qa_nil))
      (qss_cons (qs_set (i := 9) sc_ring_at.nd rfl (Or.inl rfl) (qv 4))
      (qss_cons (qs_while po (PW.pt (qw_or (qt_not (qt_tru (qv 8) (by intro _; rfl))) (qw_or1 (qt_cmp (DW.op_nee hr.units) sim_ne (qv 9) (qv 4) (nomark _))))) (qss_cons (qs_expr (qe_bm PySem.F.plainAttrs_list PySem.F.slot_list_append PySem.F.type_list_append mt_append sim_append (qv 8) (qa_cons (qe_ix (ix_any (units1 hr)) sim_ix (qe_ix (ix_any (units1 hr)) sim_ix (qv 6) (qv 9) (fun _ _ => rfl)) qe_int (fun _ _ => rfl)) qa_nil)))
      (qss_one (qs_set (i := 9) sc_ring_at.nd rfl (Or.inl rfl) (qe_ix (ix_any (units1 hr)) sim_ix (qe_ix (ix_any (units1 hr)) sim_ix (qv 6) (qv 9) (fun _ _ => rfl)) qe_int (fun _ _ => rfl))))))
      (qss_one (qs_ret (qe_revL (qv 8)))))))))))
theorem ok_ring_at_0 {P : Program} {w : World} {K : PySem.W.Frag} {mg : Str → Option Value} {base : Heap} (T : Tx w K mg)
    (G_open_links_0 : Fn P w K mg base 1 (He.ga K "open_links") ["arcs"] w_open_links 1 [] (fun ds _ => ds))
    (G_settled_0 : Fn P w K mg base 3 (He.ga K "settled") ["heights", "links", "arcs", "at", "ahead"] w_settled 5 [] (fun ds _ => ds)) :
    Fn P w K mg base 4 (He.ga K "ring_at") ["count", "arcs", "t"] w_ring_at 3 [] (fun ds _ => ds) := by
  obtain ⟨fd, F⟩ := T.d_ring_at
  refine ⟨⟨fd, fk_ring_at T G_open_links_0 G_settled_0 F, ?_⟩, F.kp⟩
  exact dbn_all (FunD.bindsN F (ps := ["count", "arcs", "t"]) fun _ _ _ _ _ _ us hl => match us, hl with | [_, _, _], _ => rfl)
theorem sc_Lplus : FnScope N_Lplus ["_law_a", "_law_b"] (defScope s_Lplus) := ⟨rfl, rfl, rfl, by decide +kernel, rfl, by decide +kernel, by decide +kernel⟩
theorem fk_Lplus {P : Program} {w : World} {K : PySem.W.Frag} {mg : Str → Option Value} {base : Heap} (T : Tx w K mg)
    (G_Lfrac_0 : Fn P w K mg base 2 (He.ga K "_law_frac") ["_law_top", "_law_under"] w_Lfrac 2 [] (fun ds _ => ds)) {fd : FuncData}
    (F : FunD K "_law_plus" "_law_plus" (defArgs s_Lplus) (defBody s_Lplus) (defScope s_Lplus) [] [] (He.ga K "_law_plus") fd) :
    FnOk P w K mg base (MV.CX P w) 3 (He.ga K "_law_plus") fd ["_law_a", "_law_b"] (spM K 2 w_Lplus) :=
  fn_ok F sc_Lplus fun cdv A outer s H E hr tk po =>
    (qss_one (qs_ret (qe_call G_Lfrac_0 (hr.mono (by decide)) (by rfl) T.g_Lfrac tk (qcwP (qa_cons (qe_op DW.op_plus sim_add (qe_op op_mulA sim_mul (qe_ix (ix_any (units1 hr)) sim_ix (qv 0) qe_int (fun _ _ => rfl)) (qe_ix (ix_any (units1 hr)) sim_ix (qv 1) qe_int (fun _ _ => rfl))) (qe_op op_mulA sim_mul (qe_ix (ix_any (units1 hr)) sim_ix (qv 1) qe_int (fun _ _ => rfl)) (qe_ix (ix_any (units1 hr)) sim_ix (qv 0) qe_int (fun _ _ => rfl)))) (qa_cons (qe_op op_mulA sim_mul (qe_ix (ix_any (units1 hr)) sim_ix (qv 0) qe_int (fun _ _ => rfl)) (qe_ix (ix_any (units1 hr)) sim_ix (qv 1) qe_int (fun _ _ => rfl))) qa_nil))) (by exact fun _ _ h _ => h))))
theorem ok_Lplus_0 {P : Program} {w : World} {K : PySem.W.Frag} {mg : Str → Option Value} {base : Heap} (T : Tx w K mg)
    (G_Lfrac_0 : Fn P w K mg base 2 (He.ga K "_law_frac") ["_law_top", "_law_under"] w_Lfrac 2 [] (fun ds _ => ds)) :
    Fn P w K mg base 3 (He.ga K "_law_plus") ["_law_a", "_law_b"] w_Lplus 2 [] (fun ds _ => ds) := by
  obtain ⟨fd, F⟩ := T.d_Lplus
  refine ⟨⟨fd, fk_Lplus T G_Lfrac_0 F, ?_⟩, F.kp⟩
  exact dbn_all (FunD.bindsN F (ps := ["_law_a", "_law_b"]) fun _ _ _ _ _ _ us hl => match us, hl with | [_, _], _ => rfl)
theorem sc_Lat : FnScope N_Lat ["_law_move", "_law_at_here"] (defScope s_Lat) := ⟨rfl, rfl, rfl, by decide +kernel, rfl, by decide +kernel, by decide +kernel⟩
theorem fk_Lat {P : Program} {w : World} {K : PySem.W.Frag} {mg : Str → Option Value} {base : Heap} (T : Tx w K mg)
    (G_Lfrac_0 : Fn P w K mg base 2 (He.ga K "_law_frac") ["_law_top", "_law_under"] w_Lfrac 2 [] (fun ds _ => ds)) {fd : FuncData}
    (F : FunD K "_law_at" "_law_at" (defArgs s_Lat) (defBody s_Lat) (defScope s_Lat) [] [] (He.ga K "_law_at") fd) :
    FnOk P w K mg base (MV.CX P w) 3 (He.ga K "_law_at") fd ["_law_move", "_law_at_here"] (spM K 2 w_Lat) :=
  fn_ok F sc_Lat fun cdv A outer s H E hr tk po =>
    (qss_one (qs_ret (qe_call G_Lfrac_0 (hr.mono (by decide)) (by rfl) T.g_Lfrac tk (qcwP (qa_cons (qe_op DW.op_plus sim_add (qe_op op_mulA sim_mul (qe_ix (ix_any (units1 hr)) sim_ix (qv 0) qe_int (fun _ _ => rfl)) (qe_ix (ix_any (units1 hr)) sim_ix (qv 1) qe_int (fun _ _ => rfl))) (qe_op op_mulA sim_mul (qe_ix (ix_any (units1 hr)) sim_ix (qv 0) qe_int (fun _ _ => rfl)) (qe_ix (ix_any (units1 hr)) sim_ix (qv 1) qe_int (fun _ _ => rfl)))) (qa_cons (qe_ix (ix_any (units1 hr)) sim_ix (qv 1) qe_int (fun _ _ => rfl)) qa_nil))) (by exact fun _ _ h _ => h))))
theorem ok_Lat_0 {P : Program} {w : World} {K : PySem.W.Frag} {mg : Str → Option Value} {base : Heap} (T : Tx w K mg)
    (G_Lfrac_0 : Fn P w K mg base 2 (He.ga K "_law_frac") ["_law_top", "_law_under"] w_Lfrac 2 [] (fun ds _ => ds)) :
    Fn P w K mg base 3 (He.ga K "_law_at") ["_law_move", "_law_at_here"] w_Lat 2 [] (fun ds _ => ds) := by
  obtain ⟨fd, F⟩ := T.d_Lat
  refine ⟨⟨fd, fk_Lat T G_Lfrac_0 F, ?_⟩, F.kp⟩
  exact dbn_all (FunD.bindsN F (ps := ["_law_move", "_law_at_here"]) fun _ _ _ _ _ _ us hl => match us, hl with | [_, _], _ => rfl)
theorem sc_Llt : FnScope N_Llt ["_law_a", "_law_b"] (defScope s_Llt) := ⟨rfl, rfl, rfl, by decide +kernel, rfl, by decide +kernel, by decide +kernel⟩
theorem fk_Llt {P : Program} {w : World} {K : PySem.W.Frag} {mg : Str → Option Value} {base : Heap} (T : Tx w K mg) {fd : FuncData}
    (F : FunD K "_law_lt" "_law_lt" (defArgs s_Llt) (defBody s_Llt) (defScope s_Llt) [] [] (He.ga K "_law_lt") fd) :
    FnOk P w K mg base (MV.CX P w) 1 (He.ga K "_law_lt") fd ["_law_a", "_law_b"] (spM K 2 w_Llt) :=
  fn_ok F sc_Llt fun cdv A outer s H E hr tk po =>
    (qss_one (qs_ret (qe_cmp op_lt sim_lt (qe_op op_mulA sim_mul (qe_ix (ix_any (units1 hr)) sim_ix (qv 0) qe_int (fun _ _ => rfl)) (qe_ix (ix_any (units1 hr)) sim_ix (qv 1) qe_int (fun _ _ => rfl))) (qe_op op_mulA sim_mul (qe_ix (ix_any (units1 hr)) sim_ix (qv 1) qe_int (fun _ _ => rfl)) (qe_ix (ix_any (units1 hr)) sim_ix (qv 0) qe_int (fun _ _ => rfl))) (nomark _))))
theorem ok_Llt_0 {P : Program} {w : World} {K : PySem.W.Frag} {mg : Str → Option Value} {base : Heap} (T : Tx w K mg) :
    Fn P w K mg base 1 (He.ga K "_law_lt") ["_law_a", "_law_b"] w_Llt 2 [] (fun ds _ => ds) := by
  obtain ⟨fd, F⟩ := T.d_Llt
  refine ⟨⟨fd, fk_Llt T F, ?_⟩, F.kp⟩
  exact dbn_all (FunD.bindsN F (ps := ["_law_a", "_law_b"]) fun _ _ _ _ _ _ us hl => match us, hl with | [_, _], _ => rfl)
theorem sc_Lsettles : FnScope N_Lsettles ["_law_many", "_law_arcs", "_law_tset"] (defScope s_Lsettles) := ⟨rfl, rfl, rfl, by decide +kernel, rfl, by decide +kernel, by decide +kernel⟩
theorem fk_Lsettles {P : Program} {w : World} {K : PySem.W.Frag} {mg : Str → Option Value} {base : Heap} (T : Tx w K mg)
    (G_Lat_0 : Fn P w K mg base 3 (He.ga K "_law_at") ["_law_move", "_law_at_here"] w_Lat 2 [] (fun ds _ => ds))
    (G_Llt_0 : Fn P w K mg base 1 (He.ga K "_law_lt") ["_law_a", "_law_b"] w_Llt 2 [] (fun ds _ => ds))
    (G_Lplus_0 : Fn P w K mg base 3 (He.ga K "_law_plus") ["_law_a", "_law_b"] w_Lplus 2 [] (fun ds _ => ds)) {fd : FuncData}
    (F : FunD K "_law_settles" "_law_settles" (defArgs s_Lsettles) (defBody s_Lsettles) (defScope s_Lsettles) [] [] (He.ga K "_law_settles") fd) :
    FnOk P w K mg base (MV.CX P w) 4 (He.ga K "_law_settles") fd ["_law_many", "_law_arcs", "_law_tset"] (spM K 3 w_Lsettles) :=
  fn_ok F sc_Lsettles fun cdv A outer s H E hr tk po =>
    (qss_cons (qs_setLc (i := 3) (own := [("_law_node", 4)]) (T := (.nm 4)) (tt := mYes) (me := (mCB oTup (mCons (mC (.int 0)) (mCons (mC (.int 1)) mNil)))) rfl sc_Lsettles.nd rfl rfl (sw_true rfl rfl rfl (by decide +kernel)) (qi_range1 (by rfl) T.m_range (qa_cons (qv 0) qa_nil)) (blkOk_by (N := N_Lsettles) (sc := defScope s_Lsettles) (by decide +kernel)) (fun _ _ _ _ _ => (qg_name (i := 4) sc_Lsettles.nd rfl (by first | exact Or.inl rfl | exact Or.inr rfl))) (fun _ _ _ _ _ => qts_nil) (fun _ _ _ _ _ => (qe_tup (qa_cons qe_int (qa_cons qe_int qa_nil)))) (by decide))
      (qss_cons (qs_for po rfl (qi_range1 (by rfl) T.m_range (qa_cons (qe_op DW.op_plus sim_add (qv 0) qe_int) qa_nil)) (qg_name (i := 5) sc_Lsettles.nd rfl (by first | exact Or.inl rfl | exact Or.inr rfl)) (qss_cons (qs_set (i := 6) sc_Lsettles.nd rfl (Or.inl rfl) qe_bl)
      (qss_cons (qs_for po rfl (qi_seq (qv 1)) (qg_tup rfl (qgs_cons (qg_name (i := 7) sc_Lsettles.nd rfl (by first | exact Or.inl rfl | exact Or.inr rfl)) (qgs_cons (qg_name (i := 8) sc_Lsettles.nd rfl (by first | exact Or.inl rfl | exact Or.inr rfl)) (qgs_cons (qg_name (i := 9) sc_Lsettles.nd rfl (by first | exact Or.inl rfl | exact Or.inr rfl)) (qgs_cons (qg_name (i := 10) sc_Lsettles.nd rfl (by first | exact Or.inl rfl | exact Or.inr rfl)) qgs_nil))))) (qss_one (qs_if (qt_cmp op_isN1 sim_is (qv 9) qe_non (nomark _)) (qss_cons (qs_set (i := 11) sc_Lsettles.nd rfl (Or.inl rfl) (qe_call G_Lplus_0 (hr.mono (by decide)) (by rfl) T.g_Lplus tk (qcwP (qa_cons (qe_ix (ix_any (units1 hr)) sim_ix (qv 3) (qv 7) (fun _ _ => rfl)) (qa_cons (qe_call G_Lat_0 (hr.mono (by decide)) (by rfl) T.g_Lat tk (qcwP (qa_cons (qv 10) (qa_cons (qv 2) qa_nil))) (by exact fun _ _ h _ => h)) qa_nil))) (by exact fun _ _ h _ => h)))
      (qss_one (qs_if (qt_tru (qe_call G_Llt_0 (hr.mono (by decide)) (by rfl) T.g_Llt tk (qcwP (qa_cons (qv 11) (qa_cons (qe_ix (ix_any (units1 hr)) sim_ix (qv 3) (qv 8) (fun _ _ => rfl)) qa_nil))) (by exact fun _ _ h _ => h)) (by intro _; rfl)) (qss_cons (qs_setIx (units1 hr) (qv 11) (qv 3) (qv 8))
      (qss_one (qs_set (i := 6) sc_Lsettles.nd rfl (Or.inl rfl) qe_bl))) qss_nil))) qss_nil)))
      (qss_one (qs_if (qt_not (qt_tru (qv 6) (by intro _; rfl))) (qss_one (qs_ret qe_bl)) qss_nil)))))
      (qss_one (qs_ret qe_bl))))
theorem ok_Lsettles_0 {P : Program} {w : World} {K : PySem.W.Frag} {mg : Str → Option Value} {base : Heap} (T : Tx w K mg)
    (G_Lat_0 : Fn P w K mg base 3 (He.ga K "_law_at") ["_law_move", "_law_at_here"] w_Lat 2 [] (fun ds _ => ds))
    (G_Llt_0 : Fn P w K mg base 1 (He.ga K "_law_lt") ["_law_a", "_law_b"] w_Llt 2 [] (fun ds _ => ds))
    (G_Lplus_0 : Fn P w K mg base 3 (He.ga K "_law_plus") ["_law_a", "_law_b"] w_Lplus 2 [] (fun ds _ => ds)) :
    Fn P w K mg base 4 (He.ga K "_law_settles") ["_law_many", "_law_arcs", "_law_tset"] w_Lsettles 3 [] (fun ds _ => ds) := by
  obtain ⟨fd, F⟩ := T.d_Lsettles
  refine ⟨⟨fd, fk_Lsettles T G_Lat_0 G_Llt_0 G_Lplus_0 F, ?_⟩, F.kp⟩
  exact dbn_all (FunD.bindsN F (ps := ["_law_many", "_law_arcs", "_law_tset"]) fun _ _ _ _ _ _ us hl => match us, hl with | [_, _, _], _ => rfl)
theorem sc_Lwhole : FnScope N_Lwhole ["_law_found"] (defScope s_Lwhole) := ⟨rfl, rfl, rfl, by decide +kernel, rfl, by decide +kernel, by decide +kernel⟩
theorem fk_Lwhole {P : Program} {w : World} {K : PySem.W.Frag} {mg : Str → Option Value} {base : Heap} (T : Tx w K mg) {fd : FuncData}
    (F : FunD K "_law_whole" "_law_whole" (defArgs s_Lwhole) (defBody s_Lwhole) (defScope s_Lwhole) [] [] (He.ga K "_law_whole") fd) :
    FnOk P w K mg base (MV.CX P w) 1 (He.ga K "_law_whole") fd ["_law_found"] (spM K 1 w_Lwhole) :=
  fn_ok F sc_Lwhole fun cdv A outer s H E hr tk po =>
    (qss_one (qs_ret (qe_and (qe_callB call_isi sim_isi (by rfl) T.m_isinstance (by decide +kernel) (qa_cons (qv 0) (qa_cons (qe_ty (by rfl) T.m_int (by decide +kernel)) qa_nil))) (qe_one (qe_not (qe_callB call_isi sim_isi (by rfl) T.m_isinstance (by decide +kernel) (qa_cons (qv 0) (qa_cons (qe_ty (by rfl) T.m_bool (by decide +kernel)) qa_nil))))))))
theorem ok_Lwhole_0 {P : Program} {w : World} {K : PySem.W.Frag} {mg : Str → Option Value} {base : Heap} (T : Tx w K mg) :
    Fn P w K mg base 1 (He.ga K "_law_whole") ["_law_found"] w_Lwhole 1 [] (fun ds _ => ds) := by
  obtain ⟨fd, F⟩ := T.d_Lwhole
  refine ⟨⟨fd, fk_Lwhole T F, ?_⟩, F.kp⟩
  exact dbn_all (FunD.bindsN F (ps := ["_law_found"]) fun _ _ _ _ _ _ us hl => match us, hl with | [_], _ => rfl)
theorem sc_Lis_ring : FnScope N_Lis_ring ["_law_arcs", "_law_tset", "_law_found"] (defScope s_Lis_ring) := ⟨rfl, rfl, rfl, by decide +kernel, rfl, by decide +kernel, by decide +kernel⟩
theorem fk_Lis_ring {P : Program} {w : World} {K : PySem.W.Frag} {mg : Str → Option Value} {base : Heap} (T : Tx w K mg)
    (G_Lat_0 : Fn P w K mg base 3 (He.ga K "_law_at") ["_law_move", "_law_at_here"] w_Lat 2 [] (fun ds _ => ds))
    (G_Llt_0 : Fn P w K mg base 1 (He.ga K "_law_lt") ["_law_a", "_law_b"] w_Llt 2 [] (fun ds _ => ds))
    (G_Lplus_0 : Fn P w K mg base 3 (He.ga K "_law_plus") ["_law_a", "_law_b"] w_Lplus 2 [] (fun ds _ => ds))
    (G_Lwhole_0 : Fn P w K mg base 1 (He.ga K "_law_whole") ["_law_found"] w_Lwhole 1 [] (fun ds _ => ds)) {fd : FuncData}
    (F : FunD K "_law_is_ring" "_law_is_ring" (defArgs s_Lis_ring) (defBody s_Lis_ring) (defScope s_Lis_ring) [] [] (He.ga K "_law_is_ring") fd) :
    FnOk P w K mg base (MV.CX P w) 4 (He.ga K "_law_is_ring") fd ["_law_arcs", "_law_tset", "_law_found"] (spM K 3 w_Lis_ring) :=
  fn_ok F sc_Lis_ring fun cdv A outer s H E hr tk po =>
    (qss_cons (qs_if (PW.pt (qw_or (qt_not (qt_tru (qe_callB call_isi sim_isi (by rfl) T.m_isinstance (by decide +kernel) (qa_cons (qv 2) (qa_cons (qe_ty (by rfl) T.m_list (by decide +kernel)) qa_nil))) (by intro _; rfl))) (qw_or1 (qt_not (qt_tru (qv 2) (by intro _; rfl)))))) (qss_one (qs_ret qe_bl)) qss_nil)
      (qss_cons (qs_set (i := 3) sc_Lis_ring.nd rfl (Or.inl rfl) (qe_tup (qa_cons qe_int (qa_cons qe_int qa_nil))))
      (qss_cons (qs_for po rfl (qi_range1 (by rfl) T.m_range (qa_cons (qe_callB call_lenA sim_len (by rfl) T.m_len (by decide +kernel) (qa_cons (qv 2) qa_nil)) qa_nil)) (qg_name (i := 4) sc_Lis_ring.nd rfl (by first | exact Or.inl rfl | exact Or.inr rfl)) (qss_one (qs_if (PW.pt (qw_or (qt_not (qt_tru (qe_call G_Lwhole_0 (hr.mono (by decide)) (by rfl) T.g_Lwhole tk (qcwP (qa_cons (qe_ix (ix_any (units1 hr)) sim_ix (qv 2) (qv 4) (fun _ _ => rfl)) qa_nil)) (by exact fun _ _ h _ => h)) (by intro _; rfl))) (qw_or1 (qt_not (qt_chain op_le sim_le op_lt sim_lt qe_int (qe_ix (ix_any (units1 hr)) sim_ix (qv 2) (qv 4) (fun _ _ => rfl)) (qe_callB call_lenA sim_len (by rfl) T.m_len (by decide +kernel) (qa_cons (qv 0) qa_nil))))))) (qss_one (qs_ret qe_bl)) qss_nil)))
      (qss_cons (qs_for po rfl (qi_range1 (by rfl) T.m_range (qa_cons (qe_callB call_lenA sim_len (by rfl) T.m_len (by decide +kernel) (qa_cons (qv 2) qa_nil)) qa_nil)) (qg_name (i := 4) sc_Lis_ring.nd rfl (by first | exact Or.inl rfl | exact Or.inr rfl)) (qss_cons (qs_asg (qe_ix (ix_any (units1 hr)) sim_ix (qv 0) (qe_ix (ix_any (units1 hr)) sim_ix (qv 2) (qv 4) (fun _ _ => rfl)) (fun _ _ => rfl)) (qg_tup rfl (qgs_cons (qg_name (i := 5) sc_Lis_ring.nd rfl (by first | exact Or.inl rfl | exact Or.inr rfl)) (qgs_cons (qg_name (i := 6) sc_Lis_ring.nd rfl (by first | exact Or.inl rfl | exact Or.inr rfl)) (qgs_cons (qg_name (i := 7) sc_Lis_ring.nd rfl (by first | exact Or.inl rfl | exact Or.inr rfl)) (qgs_cons (qg_name (i := 8) sc_Lis_ring.nd rfl (by first | exact Or.inl rfl | exact Or.inr rfl)) qgs_nil))))))
      (qss_cons (qs_if (PW.pt (qw_or (qt_cmp op_notN1 sim_isnot (qv 7) qe_non (nomark _)) (qw_or1 (qt_cmp (DW.op_nee hr.units) sim_ne (qe_ix (ix_any (units1 hr)) sim_ix (qe_ix (ix_any (units1 hr)) sim_ix (qv 0) (qe_ix (ix_any (units1 hr)) sim_ix (qv 2) (qe_op op_sub sim_sub (qv 4) qe_int) (fun _ _ => rfl)) (fun _ _ => rfl)) qe_int (fun _ _ => rfl)) (qv 5) (nomark _))))) (qss_one (qs_ret qe_bl)) qss_nil)
      (qss_one (qs_set (i := 3) sc_Lis_ring.nd rfl (Or.inl rfl) (qe_call G_Lplus_0 (hr.mono (by decide)) (by rfl) T.g_Lplus tk (qcwP (qa_cons (qv 3) (qa_cons (qe_call G_Lat_0 (hr.mono (by decide)) (by rfl) T.g_Lat tk (qcwP (qa_cons (qv 8) (qa_cons (qv 1) qa_nil))) (by exact fun _ _ h _ => h)) qa_nil))) (by exact fun _ _ h _ => h)))))))
      (qss_one (qs_ret (qe_call G_Llt_0 (hr.mono (by decide)) (by rfl) T.g_Llt tk (qcwP (qa_cons (qv 3) (qa_cons (qe_tup (qa_cons qe_int (qa_cons qe_int qa_nil))) qa_nil))) (by exact fun _ _ h _ => h))))))))
theorem ok_Lis_ring_0 {P : Program} {w : World} {K : PySem.W.Frag} {mg : Str → Option Value} {base : Heap} (T : Tx w K mg)
    (G_Lat_0 : Fn P w K mg base 3 (He.ga K "_law_at") ["_law_move", "_law_at_here"] w_Lat 2 [] (fun ds _ => ds))
    (G_Llt_0 : Fn P w K mg base 1 (He.ga K "_law_lt") ["_law_a", "_law_b"] w_Llt 2 [] (fun ds _ => ds))
    (G_Lplus_0 : Fn P w K mg base 3 (He.ga K "_law_plus") ["_law_a", "_law_b"] w_Lplus 2 [] (fun ds _ => ds))
    (G_Lwhole_0 : Fn P w K mg base 1 (He.ga K "_law_whole") ["_law_found"] w_Lwhole 1 [] (fun ds _ => ds)) :
    Fn P w K mg base 4 (He.ga K "_law_is_ring") ["_law_arcs", "_law_tset", "_law_found"] w_Lis_ring 3 [] (fun ds _ => ds) := by
  obtain ⟨fd, F⟩ := T.d_Lis_ring
  refine ⟨⟨fd, fk_Lis_ring T G_Lat_0 G_Llt_0 G_Lplus_0 G_Lwhole_0 F, ?_⟩, F.kp⟩
  exact dbn_all (FunD.bindsN F (ps := ["_law_arcs", "_law_tset", "_law_found"]) fun _ _ _ _ _ _ us hl => match us, hl with | [_, _, _], _ => rfl)
theorem sc_law : FnScope N_law ["_law_script"] (defScope s_law) := ⟨rfl, rfl, rfl, by decide +kernel, rfl, by decide +kernel, by decide +kernel⟩
theorem fk_law {P : Program} {w : World} {K : PySem.W.Frag} {mg : Str → Option Value} {base : Heap} (T : Tx w K mg)
    (G_Ldraw_0 : Fn P w K mg base 1 (He.ga K "_law_draw") ["_law_feed_here", "_law_many"] w_Ldraw 2 [] (fun ds _ => ds))
    (G_Lfeed_0 : Fn P w K mg base 1 (He.ga K "_law_feed") ["_law_script"] w_Lfeed 1 [] (fun ds _ => ds))
    (G_Lis_ring_0 : Fn P w K mg base 4 (He.ga K "_law_is_ring") ["_law_arcs", "_law_tset", "_law_found"] w_Lis_ring 3 [] (fun ds _ => ds))
    (G_Lsetting_0 : Fn P w K mg base 3 (He.ga K "_law_setting") ["_law_feed_here", "_law_pair"] w_Lsetting 2 [] (fun ds _ => ds))
    (G_Lsettles_0 : Fn P w K mg base 4 (He.ga K "_law_settles") ["_law_many", "_law_arcs", "_law_tset"] w_Lsettles 3 [] (fun ds _ => ds))
    (G_ring_at_0 : Fn P w K mg base 4 (He.ga K "ring_at") ["count", "arcs", "t"] w_ring_at 3 [] (fun ds _ => ds)) {fd : FuncData}
    (F : FunD K "law" "law" (defArgs s_law) (defBody s_law) (defScope s_law) [] [] (He.ga K "law") fd) :
    FnOk P w K mg base (MV.CX P w) 5 (He.ga K "law") fd ["_law_script"] (spM K 1 w_law) :=
  fn_ok F sc_law fun cdv A outer s H E hr tk po =>
    (qss_cons (qs_set (i := 1) sc_law.nd rfl (Or.inl rfl) (qe_call G_Lfeed_0 (hr.mono (by decide)) (by rfl) T.g_Lfeed tk (qcwP (qa_cons (qv 0) qa_nil)) (by exact fun _ _ h _ => h)))
      (qss_cons (qs_set (i := 2) sc_law.nd rfl (Or.inl rfl) (qe_op DW.op_plus sim_add qe_int (qe_call G_Ldraw_0 (hr.mono (by decide)) (by rfl) T.g_Ldraw tk (qcwP (qa_cons (qv 1) (qa_cons qe_int qa_nil))) (by exact fun _ _ h _ => h))))
      (qss_cons (qs_set (i := 3) sc_law.nd rfl (Or.inl rfl) (qe_lst qa_nil))
      (qss_cons (qs_for po rfl (qi_range1 (by rfl) T.m_range (qa_cons (qe_call G_Ldraw_0 (hr.mono (by decide)) (by rfl) T.g_Ldraw tk (qcwP (qa_cons (qv 1) (qa_cons qe_int qa_nil))) (by exact fun _ _ h _ => h)) qa_nil)) (qg_name (i := 4) sc_law.nd rfl (by first | exact Or.inl rfl | exact Or.inr rfl)) (qss_cons (qs_set (i := 5) sc_law.nd rfl (Or.inl rfl) qe_non)
      (qss_cons (qs_if (qt_cmp (DW.op_eqq hr.units) sim_eq (qe_call G_Ldraw_0 (hr.mono (by decide)) (by rfl) T.g_Ldraw tk (qcwP (qa_cons (qv 1) (qa_cons qe_int qa_nil))) (by exact fun _ _ h _ => h)) qe_int (nomark _)) (qss_one (qs_set (i := 5) sc_law.nd rfl (Or.inl rfl) (qe_tup (qa_cons (qe_call G_Ldraw_0 (hr.mono (by decide)) (by rfl) T.g_Ldraw tk (qcwP (qa_cons (qv 1) (qa_cons qe_int qa_nil))) (by exact fun _ _ h _ => h)) (qa_cons qe_int qa_nil))))) qss_nil)
      (qss_cons (qs_set (i := 6) sc_law.nd rfl (Or.inl rfl) (qe_tup (qa_cons (qe_call G_Ldraw_0 (hr.mono (by decide)) (by rfl) T.g_Ldraw tk (qcwP (qa_cons (qv 1) (qa_cons (qv 2) qa_nil))) (by exact fun _ _ h _ => h)) (qa_cons (qe_call G_Ldraw_0 (hr.mono (by decide)) (by rfl) T.g_Ldraw tk (qcwP (qa_cons (qv 1) (qa_cons (qv 2) qa_nil))) (by exact fun _ _ h _ => h)) qa_nil))))
      (qss_one (qs_expr (qe_bm PySem.F.plainAttrs_list PySem.F.slot_list_append PySem.F.type_list_append mt_append sim_append (qv 3) (qa_cons (qe_op DW.op_plus sim_add (qv 6) (qe_tup (qa_cons (qv 5) (qa_cons (qe_tup (qa_cons (qe_op op_sub sim_sub (qe_call G_Ldraw_0 (hr.mono (by decide)) (by rfl) T.g_Ldraw tk (qcwP (qa_cons (qv 1) (qa_cons qe_int qa_nil))) (by exact fun _ _ h _ => h)) qe_int) (qa_cons (qe_op op_sub sim_sub (qe_call G_Ldraw_0 (hr.mono (by decide)) (by rfl) T.g_Ldraw tk (qcwP (qa_cons (qv 1) (qa_cons qe_int qa_nil))) (by exact fun _ _ h _ => h)) qe_int) qa_nil))) qa_nil)))) qa_nil))))))))
      (qss_cons (qs_for po rfl (qi_range1 (by rfl) T.m_range (qa_cons qe_int qa_nil)) (qg_name (i := 7) sc_law.nd rfl (by first | exact Or.inl rfl | exact Or.inr rfl)) (qss_cons (qs_set (i := 8) sc_law.nd rfl (Or.inl rfl) (qe_call G_Lsetting_0 (hr.mono (by decide)) (by rfl) T.g_Lsetting tk (qcwP (qa_cons (qv 1) (qa_cons (qe_tup (qa_cons (qe_un un_neg sim_neg qe_int) (qa_cons qe_int qa_nil))) qa_nil))) (by exact fun _ _ h _ => h)))
      (qss_cons (qs_set (i := 9) sc_law.nd rfl (Or.inl rfl) (qe_callTy (call_listA rfl) sim_list (by rfl) T.m_list (by decide +kernel) (qa_cons (qv 3) qa_nil)))
      (qss_cons (qs_set (i := 10) sc_law.nd rfl (Or.inl rfl) (qe_call G_ring_at_0 (hr.mono (by decide)) (by rfl) T.g_ring_at tk (qcwP (qa_cons (qv 2) (qa_cons (qv 9) (qa_cons (qv 8) qa_nil)))) (by exact fun _ _ h _ => h)))
      (qss_cons (qs_if (qt_cmp (DW.op_nee hr.units) sim_ne (qv 9) (qv 3) (nomark _)) (qss_one (qs_ret qe_bl)) qss_nil)
      (qss_one (qs_if (qt_cmp op_isN1 sim_is (qv 10) qe_non (nomark _)) (qss_one (qs_if (qt_not (qt_tru (qe_call G_Lsettles_0 (hr.mono (by decide)) (by rfl) T.g_Lsettles tk (qcwP (qa_cons (qv 2) (qa_cons (qv 3) (qa_cons (qv 8) qa_nil)))) (by exact fun _ _ h _ => h)) (by intro _; rfl))) (qss_one (qs_ret qe_bl)) qss_nil)) (qss_one (qs_if (qt_not (qt_tru (qe_call G_Lis_ring_0 (hr.mono (by decide)) (by rfl) T.g_Lis_ring tk (qcwP (qa_cons (qv 3) (qa_cons (qv 8) (qa_cons (qv 10) qa_nil)))) (by exact fun _ _ h _ => h)) (by intro _; rfl))) (qss_one (qs_ret qe_bl)) qss_nil)))))))))
      (qss_one (qs_ret qe_bl)))))))
theorem tx_mk {w : World} {K : PySem.W.Frag} {h : Heap} {mg : Str → Option Value} (X : K.In h) (G : h.Ns mainGlobals mg) (c : DW.SaysE faL fnL (fun K => DW.allT (exL K)) K) : Tx w K mg where
  g_Lfeed := He.glo_ok X G (c.d.fact 0 (f := .glo "_law_feed") rfl)
  d_Lfeed := c.d.def_ 0 (d := dd_Lfeed) rfl
  g_Ldraw := He.glo_ok X G (c.d.fact 1 (f := .glo "_law_draw") rfl)
  d_Ldraw := c.d.def_ 1 (d := dd_Ldraw) rfl
  g_Lgcd := He.glo_ok X G (c.d.fact 2 (f := .glo "_law_gcd") rfl)
  d_Lgcd := c.d.def_ 2 (d := dd_Lgcd) rfl
  g_Lfrac := He.glo_ok X G (c.d.fact 3 (f := .glo "_law_frac") rfl)
  d_Lfrac := c.d.def_ 3 (d := dd_Lfrac) rfl
  g_Lsetting := He.glo_ok X G (c.d.fact 4 (f := .glo "_law_setting") rfl)
  d_Lsetting := c.d.def_ 4 (d := dd_Lsetting) rfl
  g_add := He.glo_ok X G (c.d.fact 5 (f := .glo "add") rfl)
  d_add := c.d.def_ 5 (d := dd_add) rfl
  g_turned := He.glo_ok X G (c.d.fact 6 (f := .glo "turned") rfl)
  d_turned := c.d.def_ 6 (d := dd_turned) rfl
  g_step_price := He.glo_ok X G (c.d.fact 7 (f := .glo "step_price") rfl)
  d_step_price := c.d.def_ 7 (d := dd_step_price) rfl
  g_rank := He.glo_ok X G (c.d.fact 8 (f := .glo "rank") rfl)
  d_rank := c.d.def_ 8 (d := dd_rank) rfl
  g_settled := He.glo_ok X G (c.d.fact 9 (f := .glo "settled") rfl)
  d_settled := c.d.def_ 9 (d := dd_settled) rfl
  g_open_links := He.glo_ok X G (c.d.fact 10 (f := .glo "open_links") rfl)
  d_open_links := c.d.def_ 10 (d := dd_open_links) rfl
  g_ring_at := He.glo_ok X G (c.d.fact 11 (f := .glo "ring_at") rfl)
  d_ring_at := c.d.def_ 11 (d := dd_ring_at) rfl
  g_Lplus := He.glo_ok X G (c.d.fact 12 (f := .glo "_law_plus") rfl)
  d_Lplus := c.d.def_ 12 (d := dd_Lplus) rfl
  g_Lat := He.glo_ok X G (c.d.fact 13 (f := .glo "_law_at") rfl)
  d_Lat := c.d.def_ 13 (d := dd_Lat) rfl
  g_Llt := He.glo_ok X G (c.d.fact 14 (f := .glo "_law_lt") rfl)
  d_Llt := c.d.def_ 14 (d := dd_Llt) rfl
  g_Lsettles := He.glo_ok X G (c.d.fact 15 (f := .glo "_law_settles") rfl)
  d_Lsettles := c.d.def_ 15 (d := dd_Lsettles) rfl
  g_Lwhole := He.glo_ok X G (c.d.fact 16 (f := .glo "_law_whole") rfl)
  d_Lwhole := c.d.def_ 16 (d := dd_Lwhole) rfl
  g_Lis_ring := He.glo_ok X G (c.d.fact 17 (f := .glo "_law_is_ring") rfl)
  d_Lis_ring := c.d.def_ 17 (d := dd_Lis_ring) rfl
  g_law := He.glo_ok X G (c.d.fact 18 (f := .glo "law") rfl)
  d_law := c.d.def_ 18 (d := dd_law) rfl
  m_abs := He.free_ok X G (c.d.fact 19 (f := .free "abs") rfl)
  m_bool := He.free_ok X G (c.d.fact 20 (f := .free "bool") rfl)
  m_enumerate := He.free_ok X G (c.d.fact 21 (f := .free "enumerate") rfl)
  m_int := He.free_ok X G (c.d.fact 22 (f := .free "int") rfl)
  m_isinstance := He.free_ok X G (c.d.fact 23 (f := .free "isinstance") rfl)
  m_len := He.free_ok X G (c.d.fact 24 (f := .free "len") rfl)
  m_list := He.free_ok X G (c.d.fact 25 (f := .free "list") rfl)
  m_range := He.free_ok X G (c.d.fact 26 (f := .free "range") rfl)
theorem all_ok {P : Program} {w : World} {K : PySem.W.Frag} {mg : Str → Option Value} (T : Tx w K mg) (base : Heap) {fd : FuncData} (F : FunD K "law" "law" (defArgs s_law) (defBody s_law) (defScope s_law) [] [] (He.ga K "law") fd) : FnOk P w K mg base CX0 5 (He.ga K "law") fd ["_law_script"] (fun vs H Q _ => spM K 1 w_law vs H Q E0) := by
  have G_Lfeed_0 := ok_Lfeed_0 (P := P) (w := w) (base := base) T
  have G_Ldraw_0 := ok_Ldraw_0 (P := P) (w := w) (base := base) T
  have G_Lgcd_0 := ok_Lgcd_0 (P := P) (w := w) (base := base) T
  have G_Lfrac_0 := ok_Lfrac_0 (P := P) (w := w) (base := base) T G_Lgcd_0
  have G_Lsetting_0 := ok_Lsetting_0 (P := P) (w := w) (base := base) T G_Ldraw_0 G_Lfrac_0
  have G_add_0 := ok_add_0 (P := P) (w := w) (base := base) T
  have G_turned_0 := ok_turned_0 (P := P) (w := w) (base := base) T
  have G_step_price_0 := ok_step_price_0 (P := P) (w := w) (base := base) T G_turned_0
  have G_rank_0 := ok_rank_0 (P := P) (w := w) (base := base) T
  have G_settled_0 := ok_settled_0 (P := P) (w := w) (base := base) T G_add_0 G_rank_0 G_step_price_0
  have G_open_links_0 := ok_open_links_0 (P := P) (w := w) (base := base) T
  have G_ring_at_0 := ok_ring_at_0 (P := P) (w := w) (base := base) T G_open_links_0 G_settled_0
  have G_Lplus_0 := ok_Lplus_0 (P := P) (w := w) (base := base) T G_Lfrac_0
  have G_Lat_0 := ok_Lat_0 (P := P) (w := w) (base := base) T G_Lfrac_0
  have G_Llt_0 := ok_Llt_0 (P := P) (w := w) (base := base) T
  have G_Lsettles_0 := ok_Lsettles_0 (P := P) (w := w) (base := base) T G_Lat_0 G_Llt_0 G_Lplus_0
  have G_Lwhole_0 := ok_Lwhole_0 (P := P) (w := w) (base := base) T
  have G_Lis_ring_0 := ok_Lis_ring_0 (P := P) (w := w) (base := base) T G_Lat_0 G_Llt_0 G_Lplus_0 G_Lwhole_0
  exact fn_law (fk_law T G_Ldraw_0 G_Lfeed_0 G_Lis_ring_0 G_Lsetting_0 G_Lsettles_0 G_ring_at_0 F)
end Prf
section
open PySem PySem.W PySem.Calls PyProof.Rows
theorem Prf.cw_pre (LH : ∀ ns : List Int, ns.length ≤ 63 → Prf.w_law [.kl (ns.map .int)] [] (fun d _ => d = .bl true) (fun _ _ => False)) : PySem.Challenge.rw_dialweir_k36_whole_ring_or_none.Holds := by
  w_on; o_law
  refine HandSHeadRun.head_any (r := OpenLaw.row PySem.Challenge.rw_dialweir_k36_whole_ring_or_none) (q := view (OpenLaw.row PySem.Challenge.rw_dialweir_k36_whole_ring_or_none).prog [22]) (H := Prf.hk) (ob := Prf.ob) (M := 12000) (loose := Prf.looseL) (d := HandSHeadRun.topDef (OpenLaw.row PySem.Challenge.rw_dialweir_k36_whole_ring_or_none).prog 22) (kwd := []) Prf.ob_eq
    (by kernel_rfl) (fun s => by kernel_rfl) Prf.run (by kernel_rfl) (by kernel_rfl) (by kernel_rfl) (by rfl) (by first | assumption | decide +kernel) (by decide +kernel) ⟨rfl, rfl, rfl, rfl, rfl, by decide +kernel⟩ ?hw ?hc
  case hw => w_witness2
  case hc =>
    refine L2.walk_ofE (l := PySem.Challenge.rw_dialweir_k36_whole_ring_or_none) (n := 63) (k := 5) (x := "_law_script") (CX := L2.CX0) rfl (by decide) (by kernel_rfl) ⟨rfl, by decide, by decide⟩ ?F (fun _ _ _ _ z => z)
    intro w mg fa h Y G hmg0
    obtain ⟨K, KX, c⟩ := Y
    have hmg : mg ("law" : PySem.Str) = some (.ref fa) := by
      have e : (HandSHeadRun.topDef (OpenLaw.row PySem.Challenge.rw_dialweir_k36_whole_ring_or_none).prog 22).name = ("law" : PySem.Str) := by kernel_rfl
      rw [← e]
      exact hmg0
    have T := Prf.tx_mk (w := w) KX G c
    have e := hmg.symm.trans T.g_law
    cases e
    obtain ⟨fd, F⟩ := T.d_law
    refine ⟨K, fd, fun vs H Q _ => MV.spM K 1 Prf.w_law vs H Q L2.E0, KX, fun s v => L2.FunD.bindsA (ps := ["_law_script"]) F (fun _ _ _ _ _ _ us hl => match us, hl with | [_], _ => rfl) s [v] rfl, fun H a ns hl hO hS => MV.law_st LH H a ns hl hO hS, fun base _ _ => ?_⟩
    exact Prf.all_ok T base F

end
namespace MV
open PySem L2
theorem atI_0 {α : Type} {l : List α} : atI l 0 = l[0]? := by cases l <;> simp [atI, ixN]
theorem atI_n {α : Type} {l : List α} {n : Nat} : atI l (n : Int) = l[n]? := by
  unfold atI ixN
  rw [if_pos (by omega)]
  by_cases h : (n : Int) < l.length
  · rw [if_pos h]; simp
  · rw [if_neg h]; simp; omega
theorem atI_1 {α : Type} {l : List α} : atI l 1 = l[1]? := atI_n (n := 1)
theorem atI_i {α : Type} {l : List α} {i : Int} (h0 : 0 ≤ i) : atI l i = l[i.toNat]? := by
  obtain ⟨n, rfl⟩ := Int.eq_ofNat_of_zero_le h0
  rw [atI_n]; simp
theorem ixN_n {n : Nat} {j : Nat} (h : j < n) : ixN n (j : Int) = some j := by
  unfold ixN
  rw [if_pos (by omega), if_pos (by omega)]; simp
theorem mul_ok {i j : Int} (h : j.natAbs < 2 ^ 64) : okMul i j := .inl (.inr (by omega))
theorem mul_ok' {i j : Int} (h : i.natAbs < 2 ^ 64) : okMul i j := .inl (.inl (by omega))
theorem div_ok {j : Int} (h : j ≠ 0) (hb : j.natAbs < 2 ^ 64) : okDiv j := ⟨h, Nat.lt_of_lt_of_le (Nat.log2_lt (by omega) |>.mpr hb) (by decide)⟩
theorem fmod_in (a : Int) {m : Int} (h : 0 < m) : 0 ≤ a.fmod m ∧ a.fmod m < m := ⟨Int.fmod_nonneg_of_pos a h, Int.fmod_lt_of_pos a h⟩
/-- the objects of M, but those of S, stand in M' -/
structure Kp (S : List Nat) (M M' : Mem) : Prop where
  len : M.length ≤ M'.length
  at_ : ∀ i o, i ∉ S → M[i]? = some o → M'[i]? = some o
theorem Kp.refl {S : List Nat} {M : Mem} : Kp S M M := ⟨Nat.le_refl _, fun _ _ _ h => h⟩
theorem Kp.trans {S : List Nat} {M M1 M2 : Mem} (a : Kp S M M1) (b : Kp S M1 M2) : Kp S M M2 := ⟨Nat.le_trans a.len b.len, fun i o n h => b.at_ i o n (a.at_ i o n h)⟩
theorem Kp.app {S : List Nat} {M l : Mem} : Kp S M (M ++ l) := ⟨by simp, fun i o _ h => by
  have hl : i < M.length := (List.getElem?_eq_some_iff.mp h).1
  rw [List.getElem?_append_left hl]; exact h⟩
theorem Kp.set {S : List Nat} {M : Mem} {n : Nat} {o : O} (h : n ∈ S) : Kp S M (M.set n o) := ⟨by simp, fun i o' hi h' => by
  have hne : n ≠ i := fun e => hi (e ▸ h)
  rw [List.getElem?_set_ne hne]; exact h'⟩
theorem Kp.setNew {S : List Nat} {M0 M : Mem} {n : Nat} {o : O} (k : Kp S M0 M) (h : M0.length ≤ n) : Kp S M0 (M.set n o) := ⟨by simpa using k.len, fun i o' hi h' => by
  have hl : i < M0.length := (List.getElem?_eq_some_iff.mp h').1
  rw [List.getElem?_set_ne (by omega)]; exact k.at_ i o' hi h'⟩
theorem mlt {M : Mem} {i : Nat} {o : O} (h : M[i]? = some o) : i < M.length := (List.getElem?_eq_some_iff.mp h).1
theorem msame {M : Mem} {i : Nat} {o o' : O} (h : M[i]? = some o) : (M.set i o')[i]? = some o' := by
  have := mlt h; simp [this]
theorem mnew {M : Mem} {o : O} : (M ++ [o])[M.length]? = some o := by simp
theorem for_inv {guard : Mem → Prop} {T : Tg} {b : MS} {E : Nd} (I : List D → Ev → Mem → Prop) (hg : ∀ l ρ M, I l ρ M → guard M) (hn : ∀ ρ M, I [] ρ M → E.nx ρ M)
    (hs : ∀ d l ρ M (K : Ev → Mem → Prop), I (d :: l) ρ M → (∀ ρ2 M2, I l ρ2 M2 → K ρ2 M2) → T.mg d ρ M fun ρ1 => b ⟨K, E.rt, E.nx, K, E.ex⟩ ρ1 M) :
    ∀ {items : List D} {ρ : Ev} {M : Mem}, I items ρ M → mForL guard T b E items ρ M
  | [], ρ, M, h => ⟨hg _ _ _ h, hn _ _ h⟩
  | d :: l, ρ, M, h => ⟨hg _ _ _ h, hs d l ρ M _ h fun ρ2 M2 q => for_inv I hg hn hs q⟩
theorem lc_inv {guard : Mem → Prop} {i : Nat} {me : ME} {ρ : Ev} {n : Nat} {Q : Mem → Prop} (J : List D → List D → Mem → Prop) (hg : ∀ l acc M, J l acc M → guard M)
    (hs : ∀ d l acc M (K : DK), M[n]? = some (.lst acc) → J (d :: l) acc M → (∀ y M4, M4[n]? = some (.lst acc) → J l (acc ++ [y]) (M4.set n (.lst (acc ++ [y]))) → K y M4) → me (ρ.set i (some d)) M K noX)
    (hq : ∀ acc M, M[n]? = some (.lst acc) → J [] acc M → Q M) :
    ∀ (items acc : List D) (M : Mem), M[n]? = some (.lst acc) → acc.length + items.length < 16000000 → J items acc M → mLcL guard (.nm i) mYes me ρ n Q items M
  | [], acc, M, hn, _, h => ⟨hg _ _ _ h, hq acc M hn h⟩
  | d :: l, acc, M, hn, hl, h => ⟨hg _ _ _ h, hs d l acc M _ hn h fun y M4 h4 j => by
      show (match M4[n]? with
        | some (.lst acc) => acc.length < 16000000 ∧ mLcL guard (.nm i) mYes me ρ n Q l (M4.set n (.lst (acc ++ [y])))
        | _ => False)
      rw [h4]
      refine ⟨by simp at hl; omega, ?_⟩
      exact lc_inv J hg hs hq l (acc ++ [y]) _ (msame h4) (by simp at hl ⊢; omega) j⟩
mutual
theorem see_fine {M : Mem} : ∀ {k : Nat} {d : D}, fine k d = true → See M k d (toPy d)
  | k, .non, _ => by simpa only [toPy] using See.non k
  | k, .bl b, _ => by simpa only [toPy] using See.bl k b
  | k, .int b, _ => by simpa only [toPy] using See.int k b
  | k, .str b, h => by
    simp only [toPy]
    exact .str k (by cases k <;> simpa [fine] using h)
  | k + 1, .tup ds, h => by
    simp only [toPy]
    exact .tup (see_fineL (by simpa [fine] using h))
  | 0, .tup ds, h => by simp [fine] at h
  | k, .ref n, h => by cases k <;> simp [fine] at h
  | k, .ty n, h => by cases k <;> simp [fine] at h
  | k, .g n, h => by cases k <;> simp [fine] at h
  | k, .exn .., h => by cases k <;> simp [fine] at h
  | k, .kl n, h => by cases k <;> simp [fine] at h
theorem see_fineL {M : Mem} : ∀ {k : Nat} {ds : List D}, (∀ d ∈ ds, fine k d = true) → SeeL M k ds (toPyL ds)
  | _, [], _ => by simpa only [toPyL] using SeeL.nil
  | k, d :: ds, h => by
    simp only [toPyL]
    exact .cons (see_fine (h d (by simp))) (see_fineL fun e he => h e (by simp [he]))
end
theorem see_lst {M : Mem} {k n : Nat} {ds : List D} (e : M[n]? = some (.lst ds)) (h : ∀ d ∈ ds, fine k d = true) : See M (k + 1) (.ref n) (.list (toPyL ds)) := .lst e (see_fineL h)
mutual
theorem See.lay {M : Mem} : ∀ {k : Nat} {d : D} {p : PyData}, See M k d p → p.canLay0 = true
  | _, _, _, .non _ => by simp [PyData.canLay0]
  | _, _, _, .bl _ _ => by simp [PyData.canLay0]
  | _, _, _, .int _ _ => by simp [PyData.canLay0]
  | _, _, _, .str _ f => by simp only [PyData.canLay0]; exact f
  | _, _, _, .tup l => by simp only [PyData.canLay0]; exact l.lay
  | _, _, _, .lst _ l => by simp only [PyData.canLay0]; exact l.lay
theorem SeeL.lay {M : Mem} : ∀ {k : Nat} {d : List D} {p : List PyData}, SeeL M k d p → PyData.canLayAll0 p = true
  | _, _, _, .nil => by simp [PyData.canLayAll0]
  | _, _, _, .cons a b => by simp [PyData.canLayAll0, a.lay, b.lay]
end
theorem eqB_same {x y : D} {M : Mem} {p : PyData} {k : Bool → Prop} (h1 : See M 20 x p) (h2 : See M 20 y p) (q : k true) : oEqB x y M k := by
  unfold oEqB
  split
  · cases h1; cases h2; simpa using q
  · cases h1; cases h2; simpa using q
  · exact ⟨p, p, h1, h2, by rw [PySem.SeqAt.eqv_refl p h1.lay]; exact q⟩
theorem ne_same {x y : D} {M : Mem} {p : PyData} {Q : DK} (h1 : See M 20 x p) (h2 : See M 20 y p) (q : Q (.bl false) M) : oNe x y M Q := eqB_same h1 h2 q
end MV
namespace MV
open PySem L2
section
variable {a b : MS} {E : Nd} {ρ : Ev} {M : Mem} {Q : DK} {X : XM} {m ma mb mc : ME} {t u : MT} {QB : Bool → Mem → Prop} {mr : MA} {QA' : List D → Mem → Prop} {o : OP} {ou : OU} {oa : OA} {i j : Nat} {d : D}
theorem x_seq (h : a ⟨fun ρ' M' => b E ρ' M', E.rt, E.bk, E.ct, E.ex⟩ ρ M) : mSeq a b E ρ M := h
theorem x_set (h : m ρ M (fun d M1 => E.nx (ρ.set i (some d)) M1) (fun x M1 => E.ex x ρ M1)) : mSet i m E ρ M := h
theorem x_ret (h : m ρ M E.rt (fun x M1 => E.ex x ρ M1)) : mRet m E ρ M := h
theorem x_retN (h : E.rt .non M) : mRetN E ρ M := h
theorem x_next (h : E.nx ρ M) : mNext E ρ M := h
theorem x_drop (h : m ρ M (fun _ M1 => E.nx ρ M1) (fun x M1 => E.ex x ρ M1)) : mDrop m E ρ M := h
theorem x_ifS (h : t ρ M (fun k M1 => if k = true then a E ρ M1 else b E ρ M1) (fun x M1 => E.ex x ρ M1)) : mIfS t a b E ρ M := h
theorem x_asg {T : Tg} (h : m ρ M (fun d M1 => T.mg d ρ M1 fun ρ' => E.nx ρ' M1) (fun x M1 => E.ex x ρ M1)) : mAsg m T E ρ M := h
theorem x_setIx {mv mo mi : ME} (h : mv ρ M (fun v M1 => mo ρ M1 (fun o M2 => mi ρ M2 (fun i M3 => oSetIx o i v M3 fun M4 => E.nx ρ M4) (fun x M3 => E.ex x ρ M3)) (fun x M2 => E.ex x ρ M2)) (fun x M1 => E.ex x ρ M1)) : mSetIx mv mo mi E ρ M := h
theorem x_for {mi : MI} {T : Tg} (h : mi ρ M (fun items guard M1 => mForL guard T a E items ρ M1) (fun x M1 => E.ex x ρ M1)) : mFor mi T a E ρ M := h
theorem x_lc {mi : MI} {T : Tg} {vs : List Nat} (h : mi ρ M (fun items guard M1 => mLcL guard T t m (wipeE ρ vs) M1.length (fun M2 => Q (.ref M1.length) M2) items (M1 ++ [.lst []])) X) : mLc mi T t m vs ρ M Q X := h
theorem x_var (e : ρ[i]? = some (some d)) (h : Q d M) : mVar i ρ M Q X := by unfold mVar; rw [e]; exact h
theorem x_c (h : Q d M) : mC d ρ M Q X := h
theorem x_op (h : ma ρ M (fun x M1 => mb ρ M1 (fun y M2 => o x y M2 Q) X) X) : mOp o ma mb ρ M Q X := h
theorem x_un (h : ma ρ M (fun x M1 => ou x M1 Q) X) : mUn ou ma ρ M Q X := h
theorem x_cb (h : mr ρ M (fun xs M1 => oa xs M1 Q) X) : mCB oa mr ρ M Q X := h
theorem x_nil (h : QA' [] M) : mNil ρ M QA' X := h
theorem x_cons (h : ma ρ M (fun x M1 => mr ρ M1 (fun xs M2 => QA' (x :: xs) M2) X) X) : mCons ma mr ρ M QA' X := h
theorem x_b (h : ma ρ M (fun x M1 => match x with | .bl k => QB k M1 | _ => False) X) : mB ma ρ M QB X := h
theorem x_tru (h : ma ρ M (fun x M1 => tru x M1 QB) X) : mTru ma ρ M QB X := h
theorem x_and (h : t ρ M (fun k M1 => if k = true then u ρ M1 QB X else QB false M1) X) : mAnd t u ρ M QB X := h
theorem x_or (h : t ρ M (fun k M1 => if k = true then QB true M1 else u ρ M1 QB X) X) : mOr t u ρ M QB X := h
theorem x_not (h : t ρ M (fun k M1 => QB (!k) M1) X) : mNot t ρ M QB X := h
theorem x_yes (h : QB true M) : mYes ρ M QB X := h
theorem x_ifE (h : t ρ M (fun k M1 => if k = true then ma ρ M1 Q X else mb ρ M1 Q X) X) : mIf t ma mb ρ M Q X := h
theorem x_call {w : WF} {n k : Nat} {gD : List D → List D → List D} {ms : MA2} (h : ms ρ M (fun ds es M1 => (ds.length = n ∧ es.length = k) ∧ w (gD ds es) M1 Q X) X) : mCall w n k gD ms ρ M Q X := h
theorem x_argsP {k : List D → List D → Mem → Prop} (h : mr ρ M (fun ds M1 => k ds [] M1) X) : mArgsP mr ρ M k X := h
theorem x_args0 {k : List D → List D → Mem → Prop} (h : k [] [] M) : mArgs0 ρ M k X := h
theorem x_len {α β : Type} {ds : List α} {es : List β} {n k : Nat} {P : Prop} (h1 : ds.length = n) (h2 : es.length = k) (h : P) : (ds.length = n ∧ es.length = k) ∧ P := ⟨⟨h1, h2⟩, h⟩
theorem x_bm {T : String} {r : OM} (h : ma ρ M (fun x M1 => isT T x M1 ∧ mr ρ M1 (fun xs M2 => r x xs M2 Q) X) X) : mBM T r ma mr ρ M Q X := h
theorem x_isL {n : Nat} {ds : List D} {P : Prop} (h : M[n]? = some (.lst ds)) (q : P) : isT "list" (.ref n) M ∧ P := ⟨by simp [isT, h], q⟩
theorem x_iseqV {k : List D → (Mem → Prop) → Mem → Prop} {n : Nat} {ds : List D} (e : ρ[i]? = some (some (.ref n))) (hd : M[n]? = some (.lst ds)) (h : k ds (fun M => M[n]? = some (.lst ds)) M) : mISeq (mVar i) ρ M k X := by
  unfold mISeq mVar; rw [e]; dsimp only; rw [hd]; exact h
theorem x_rng {k : List D → (Mem → Prop) → Mem → Prop} (h : mr ρ M (fun ds M1 => match ds with | [.int j] => (-(2 ^ 62) ≤ j ∧ j < 2 ^ 62) ∧ k (rangeD 0 j.toNat) (fun _ => True) M1 | _ => False) X) : mIRng1 mr ρ M k X := h
theorem x_enT {k : List D → (Mem → Prop) → Mem → Prop} {ds : List D} (e : ρ[i]? = some (some (.tup ds))) (h : k (enumD ds) (fun _ => True) M) : mIEnumT (mCons (mVar i) mNil) ρ M k X := by
  simp only [mIEnumT, mCons, mNil, mVar, e]; exact h
theorem x_sl {ml mh : MO} (h : ma ρ M (fun x M1 => ml ρ M1 (fun l M2 => mh ρ M2 (fun h M3 => oSl x l h M3 Q) X) X) X) : mSl ma ml mh ρ M Q X := h
theorem x_noP {k : Option Int → Mem → Prop} (h : k none M) : mNoPart ρ M k X := h
theorem x_part {k : Option Int → Mem → Prop} (h : m ρ M (fun x M1 => match x with | .int i => k (some i) M1 | _ => False) X) : mPart m ρ M k X := h
theorem o_slK {ds : List D} {lo hi : Option Int} (h : Q (.ref M.length) (M ++ [.lst (cutD ds lo hi)])) : oSl (.kl ds) lo hi M Q := h
theorem o_slT {ds : List D} {lo hi : Option Int} (h : Q (.tup (cutD ds lo hi)) M) : oSl (.tup ds) lo hi M Q := h
variable {x y : Int} {p : Nat} {ds es : List D} {s z : Str} {v : D}
theorem o_tup (hl : ds.length ≤ 1000) (h : Q (.tup ds) M) : oTup ds M Q := ⟨hl, h⟩
theorem o_lst (hl : ds.length ≤ 1000) (h : Q (.ref M.length) (M ++ [.lst ds])) : oLst ds M Q := ⟨hl, h⟩
theorem o_add (h : Q (.int (x + y)) M) : oAdd (.int x) (.int y) M Q := h
theorem o_addT (hl : ds.length + es.length ≤ 16000000) (h : Q (.tup (ds ++ es)) M) : oAdd (.tup ds) (.tup es) M Q := ⟨hl, h⟩
theorem o_sub (h : Q (.int (x - y)) M) : oSub (.int x) (.int y) M Q := h
theorem o_mul (hk : okMul x y) (h : Q (.int (x * y)) M) : oMul (.int x) (.int y) M Q := ⟨hk, h⟩
theorem o_div (hk : okDiv y) (h : Q (.int (x.fdiv y)) M) : oDiv (.int x) (.int y) M Q := ⟨hk, h⟩
theorem o_mod (hk : y ≠ 0) (h : Q (.int (x.fmod y)) M) : oMod (.int x) (.int y) M Q := ⟨hk, h⟩
theorem o_pow (hk : CPow x y) (h : Q (.int (x ^ y.toNat)) M) : oPow (.int x) (.int y) M Q := ⟨hk, h⟩
theorem o_neg (h : Q (.int (-x)) M) : oNeg (.int x) M Q := h
theorem o_lt (h : Q (.bl (decide (x < y))) M) : oLt (.int x) (.int y) M Q := h
theorem o_le (h : Q (.bl (decide (x ≤ y))) M) : oLe (.int x) (.int y) M Q := h
theorem o_gt (h : Q (.bl (decide (y < x))) M) : oGt (.int x) (.int y) M Q := h
theorem o_ge (h : Q (.bl (decide (y ≤ x))) M) : oGe (.int x) (.int y) M Q := h
theorem o_eqI (h : Q (.bl (decide (x = y))) M) : oEq (.int x) (.int y) M Q := h
theorem o_neI (h : Q (.bl (!decide (x = y))) M) : oNe (.int x) (.int y) M Q := h
theorem o_min (h : Q (.int (if y < x then y else x)) M) : oMin2 [.int x, .int y] M Q := h
theorem o_max (h : Q (.int (if y > x then y else x)) M) : oMax2 [.int x, .int y] M Q := h
theorem o_intB {k : Bool} (h : Q (.int (if k then 1 else 0)) M) : oInt1 [.bl k] M Q := h
theorem o_ixT (e : atI ds x = some v) (h : Q v M) : oIx (.tup ds) (.int x) M Q := by unfold oIx; dsimp only; rw [e]; exact h
theorem o_ixL (el : M[p]? = some (.lst ds)) (e : atI ds x = some v) (h : Q v M) : oIx (.ref p) (.int x) M Q := by unfold oIx; dsimp only; rw [el]; dsimp only; rw [e]; exact h
theorem o_lenT (h : Q (.int ds.length) M) : oLen [.tup ds] M Q := h
theorem o_lenL (el : M[p]? = some (.lst ds)) (h : Q (.int ds.length) M) : oLen [.ref p] M Q := by unfold oLen; dsimp only; rw [el]; exact h
theorem o_listL (el : M[p]? = some (.lst ds)) (h : Q (.ref M.length) (M ++ [.lst ds])) : oList1 [.ref p] M Q := by unfold oList1; dsimp only; rw [el]; exact h
theorem o_tupL (el : M[p]? = some (.lst ds)) (h : Q (.tup ds) M) : oTuple1 [.ref p] M Q := by unfold oTuple1; dsimp only; rw [el]; exact h
theorem o_setL {N : Mem → Prop} {j : Nat} (el : M[p]? = some (.lst ds)) (e : ixN ds.length x = some j) (h : N (M.set p (.lst (ds.set j v)))) : oSetIx (.ref p) (.int x) v M N := by unfold oSetIx; dsimp only; rw [el]; dsimp only; rw [e]; exact h
theorem o_app (el : M[p]? = some (.lst ds)) (hl : ds.length < 16000000) (h : Q .non (M.set p (.lst (ds ++ [v])))) : omAppend (.ref p) [v] M Q := by unfold omAppend; dsimp only; rw [el]; exact ⟨hl, h⟩
theorem o_isL {T : String} (el : M[p]? = some (.lst ds)) (hT : (["int", "str", "tuple", "list", "bool", "dict"].contains T = true)) (h : Q (.bl (subTy "list" T)) M) : oIsi [.ref p, .ty T] M Q := by simp only [oIsi, tyD, el]; exact ⟨hT, h⟩
theorem o_isT {T : String} (hT : (["int", "str", "tuple", "list", "bool", "dict"].contains T = true)) (h : Q (.bl (subTy "tuple" T)) M) : oIsi [.tup ds, .ty T] M Q := ⟨hT, h⟩
theorem o_isLL (el : M[p]? = some (.lst ds)) (h : Q (.bl true) M) : oIsi [.ref p, .ty "list"] M Q := o_isL el (by decide) h
theorem o_isTT (h : Q (.bl true) M) : oIsi [.tup ds, .ty "tuple"] M Q := o_isT (by decide) h
theorem o_truB {k : Bool} (h : QB k M) : tru (.bl k) M QB := h
theorem if_d {p : Prop} [Decidable p] {A B : Prop} (h1 : p → A) (h2 : ¬ p → B) : if decide p = true then A else B := by
  by_cases h : p
  · rw [if_pos (by simpa using h)]; exact h1 h
  · rw [if_neg (by simpa using h)]; exact h2 h
theorem if_n {p : Prop} [Decidable p] {A B : Prop} (h1 : ¬ p → A) (h2 : p → B) : if (!decide p) = true then A else B := by
  by_cases h : p
  · rw [if_neg (by simpa using h)]; exact h2 h
  · rw [if_pos (by simpa using h)]; exact h1 h
theorem if_nt {A B : Prop} (h : B) : if (!true) = true then A else B := by rw [if_neg (by simp)]; exact h
theorem if_nf {A B : Prop} (h : A) : if (!false) = true then A else B := by rw [if_pos (by simp)]; exact h
theorem if_t {A B : Prop} (h : A) : if true = true then A else B := by rw [if_pos rfl]; exact h
theorem if_f {A B : Prop} (h : B) : if false = true then A else B := by rw [if_neg (by simp)]; exact h
theorem x_nm {N : Ev → Prop} {i : Nat} {d : D} {ρ : Ev} {M : Mem} (h : N (ρ.set i (some d))) : (Tg.nm i).mg d ρ M N := h
theorem x_tp {N : Ev → Prop} {n : Nat} {l : Tgs} {ds : List D} {ρ : Ev} {M : Mem} (hl : ds.length = n) (h : l.mg ds ρ M N) : (Tg.tp n l).mg (.tup ds) ρ M N := ⟨hl, h⟩
theorem x_tc {N : Ev → Prop} {t : Tg} {l : Tgs} {d : D} {r : List D} {ρ : Ev} {M : Mem} (h : t.mg d ρ M fun ρ' => l.mg r ρ' M N) : (Tgs.cons t l).mg (d :: r) ρ M N := h
theorem x_tn {N : Ev → Prop} {ρ : Ev} {M : Mem} (h : N ρ) : Tgs.nil.mg [] ρ M N := h
theorem for_ix {guard : Mem → Prop} {T : Tg} {b : MS} {E : Nd} {items : List D} (I : Nat → Ev → Mem → Prop) (hg : ∀ k ρ M, I k ρ M → guard M) (hn : ∀ ρ M, I items.length ρ M → E.nx ρ M)
    (hs : ∀ k d ρ M (K : Ev → Mem → Prop), items[k]? = some d → I k ρ M → (∀ ρ2 M2, I (k + 1) ρ2 M2 → K ρ2 M2) → T.mg d ρ M fun ρ1 => b ⟨K, E.rt, E.nx, K, E.ex⟩ ρ1 M)
    {ρ : Ev} {M : Mem} (h0 : I 0 ρ M) : mForL guard T b E items ρ M := by
  refine for_inv (fun l ρ M => ∃ k, l = items.drop k ∧ k ≤ items.length ∧ I k ρ M) ?_ ?_ ?_ ⟨0, rfl, Nat.zero_le _, h0⟩
  · rintro l ρ M ⟨k, _, _, h⟩; exact hg k ρ M h
  · rintro ρ M ⟨k, e, hk, h⟩
    have : k = items.length := by
      have := congrArg List.length e
      simp at this; omega
    subst this; exact hn ρ M h
  · rintro d l ρ M K ⟨k, e, hk, h⟩ q
    have hlt : k < items.length := by
      have := congrArg List.length e
      simp at this; omega
    rw [List.drop_eq_getElem_cons hlt] at e
    injection e with e1 e2
    exact hs k d ρ M K (by rw [List.getElem?_eq_getElem hlt, e1]) h fun ρ2 M2 i => q ρ2 M2 ⟨k + 1, e2, hlt, i⟩
theorem lc_ix {guard : Mem → Prop} {i : Nat} {me : ME} {ρ : Ev} {n : Nat} {Q : Mem → Prop} {items : List D} {M : Mem} (J : Nat → List D → Mem → Prop) (hg : ∀ k acc M, J k acc M → guard M)
    (hs : ∀ k d acc M (K : DK), items[k]? = some d → M[n]? = some (.lst acc) → J k acc M → (∀ y M4, M4[n]? = some (.lst acc) → J (k + 1) (acc ++ [y]) (M4.set n (.lst (acc ++ [y]))) → K y M4) → me (ρ.set i (some d)) M K noX)
    (hq : ∀ acc M, M[n]? = some (.lst acc) → J items.length acc M → Q M) (hl : items.length < 16000000) (hn : M[n]? = some (.lst [])) (h0 : J 0 [] M) : mLcL guard (.nm i) mYes me ρ n Q items M := by
  refine lc_inv (fun l acc M => ∃ k, l = items.drop k ∧ k ≤ items.length ∧ J k acc M) ?_ ?_ ?_ items [] M hn (by simpa using hl) ⟨0, rfl, Nat.zero_le _, h0⟩
  · rintro l acc M ⟨k, _, _, h⟩; exact hg k acc M h
  · rintro d l acc M K hM ⟨k, e, hk, h⟩ q
    have hlt : k < items.length := by
      have := congrArg List.length e
      simp at this; omega
    rw [List.drop_eq_getElem_cons hlt] at e
    injection e with e1 e2
    exact hs k d acc M K (by rw [List.getElem?_eq_getElem hlt, e1]) hM h fun y M4 h4 j => q y M4 h4 ⟨k + 1, e2, hlt, j⟩
  · rintro acc M hM ⟨k, e, hk, h⟩
    have : k = items.length := by
      have := congrArg List.length e
      simp at this; omega
    subst this; exact hq acc M hM h
theorem rng_len {n : Nat} : (rangeD 0 n).length = n := by simp [rangeD]
theorem rng_at {n k : Nat} {d : D} (h : (rangeD 0 n)[k]? = some d) : d = .int k ∧ k < n := by
  simp [rangeD, List.getElem?_map, List.getElem?_range] at h
  by_cases hk : k < n
  · simp [hk] at h; exact ⟨h.symm, hk⟩
  · simp [hk] at h
theorem x_join {a b : MS} {E : Nd} {ρ : Ev} {M : Mem} (P : Ev → Mem → Prop) (h : ∀ K, (∀ ρ' M', P ρ' M' → K ρ' M') → a ⟨K, E.rt, E.bk, E.ct, E.ex⟩ ρ M) (h2 : ∀ ρ' M', P ρ' M' → b E ρ' M') : mSeq a b E ρ M := h _ h2
end
end MV
namespace MV
open PySem L2
/-- the fields of a net -/
def NF (h s t p r : D) : List (Str × D) := [("hours", h), ("s_box", s), ("t_box", t), ("places", p), ("roads", r)]
def noFld (f : Str) : Bool := !(["hours", "s_box", "t_box", "places", "roads"] : List Str).contains f
section
variable {h s t p r y : D}
theorem nf_hours : (NF h s t p r).lookup ("hours" : Str) = some h := by rfl
theorem nf_s : (NF h s t p r).lookup ("s_box" : Str) = some s := by rfl
theorem nf_t : (NF h s t p r).lookup ("t_box" : Str) = some t := by rfl
theorem nf_p : (NF h s t p r).lookup ("places" : Str) = some p := by rfl
theorem nf_r : (NF h s t p r).lookup ("roads" : Str) = some r := by rfl
theorem nf_no {f : Str} (hf : noFld f = true) : (NF h s t p r).lookup f = none := by
  simp only [noFld, List.contains_cons, List.contains_nil, Bool.not_eq_true', Bool.or_eq_false_iff] at hf
  obtain ⟨h1, h2, h3, h4, h5, -⟩ := hf
  simp only [NF, List.lookup, h1, h2, h3, h4, h5]
end
section
variable {a b : MS} {E : Nd} {ρ : Ev} {M : Mem} {Q : DK} {X : XM} {m ma mb mc : ME} {t u : MT} {QB : Bool → Mem → Prop} {mr : MA} {QA' : List D → Mem → Prop} {i j n : Nat} {d : D} {cs : List Str} {f : Str} {fs : List (Str × D)} {c : Str}
theorem x_fldV (e : ρ[i]? = some (some (.ref n))) (h : M[n]? = some (.ins c fs)) (hc : c ∈ cs) (hf : fs.lookup f = some d) (q : Q d M) : mFld cs (mVar i) f ρ M Q X := by
  unfold mFld mVar; rw [e]; dsimp only; rw [h]; dsimp only; rw [hf]; exact ⟨hc, q⟩
theorem x_methV {c mn : Str} {w : WF} {n' k : Nat} {gD : List D → List D → List D} {ms : MA2} (e : ρ[i]? = some (some (.ref n))) (h : M[n]? = some (.ins c fs)) (hm : fs.lookup mn = none) (q : ms ρ M (fun ds es M2 => ((D.ref n :: ds).length = n' ∧ es.length = k) ∧ w (gD (.ref n :: ds) es) M2 Q X) X) : mMeth c mn w n' k gD (mVar i) ms ρ M Q X := by
  unfold mMeth mVar; rw [e]; dsimp only; rw [h]; exact ⟨⟨rfl, hm⟩, q⟩
theorem x_make {c : Str} {w : WF} {n' k : Nat} {gD : List D → List D → List D} {ms : MA2} (q : ms ρ M (fun ds es M1 => (ds.length + 1 = n' ∧ es.length = k) ∧ w (gD (.ref M1.length :: ds) es) (M1 ++ [.ins c []]) (fun v M2 => match v with | .non => Q (.ref M1.length) M2 | _ => False) X) X) : mMake c w n' k gD ms ρ M Q X := q
theorem x_argsK {k : List D → List D → Mem → Prop} (h : mr ρ M (fun es M1 => k [] es M1) X) : mArgsK mr ρ M k X := h
theorem x_argsPK {mk : MA} {k : List D → List D → Mem → Prop} (h : mr ρ M (fun ds M1 => mk ρ M1 (fun es M2 => k ds es M2) X) X) : mArgsPK mr mk ρ M k X := h
theorem x_raise {x : Str} {n : Nat} {sp : List (Str × Src)} (h : mr ρ M (fun ds M1 => ds.length = n ∧ E.ex ⟨x, sp.map (·.1), sp.map fun p => p.2.d ds⟩ ρ M1) (fun y M1 => E.ex y ρ M1)) : mRaise x n sp mr E ρ M := h
theorem x_andV (h : ma ρ M (fun x M1 => match x with | .bl k => if k = true then mb ρ M1 Q X else Q (.bl false) M1 | _ => False) X) : mAndV ma mb ρ M Q X := h
theorem x_orV (h : ma ρ M (fun x M1 => match x with | .bl k => if k = true then Q (.bl true) M1 else mb ρ M1 Q X | _ => False) X) : mOrV ma mb ρ M Q X := h
theorem x_par {k l : Nat} (h : mr ρ M (fun ds M1 => match ds with | [d, e] => E.nx ((ρ.set k (some d)).set l (some e)) M1 | _ => False) (fun x M1 => E.ex x ρ M1)) : mPar k l mr E ρ M := h
theorem x_try {sub : Str → Str → Option Bool} {cl : List MCl} (h : a ⟨E.nx, E.rt, E.bk, E.ct, mCatch sub E cl⟩ ρ M) : mTry sub a cl E ρ M := h
theorem x_rng2 {k : List D → (Mem → Prop) → Mem → Prop} (h : mr ρ M (fun ds M1 => match ds with | [.int i, .int j] => (-(2 ^ 62) ≤ i ∧ i < 2 ^ 62 ∧ -(2 ^ 62) ≤ j ∧ j < 2 ^ 62) ∧ k (rangeD i (j - i).toNat) (fun _ => True) M1 | _ => False) X) : mIRng2 mr ρ M k X := h
theorem x_dict0 (h : Q (.ref M.length) (M ++ [.dct false []])) : mDict0 ρ M Q X := h
variable {x y : D} {p : Nat} {kvs : List (Key × D)} {lk : Bool} {z w : Str} {k : Key}
theorem o_eqS (h : Q (.bl (decide (z = w))) M) : oEq (.str z) (.str w) M Q := h
theorem o_neS (h : Q (.bl (!decide (z = w))) M) : oNe (.str z) (.str w) M Q := h
theorem o_isN (h : Q (.bl (match x with | .non => true | _ => false)) M) : oIs x .non M Q := h
theorem o_isnN (h : Q (.bl (match x with | .non => false | _ => true)) M) : oIsNot x .non M Q := h
theorem o_inS {c : Nat} (h : Q (.bl (decide (c ∈ z.cps.toList))) M) : oIn (.str ⟨#[c]⟩) (.str z) M Q := h
theorem o_ninS {c : Nat} (h : Q (.bl (!decide (c ∈ z.cps.toList))) M) : oNotIn (.str ⟨#[c]⟩) (.str z) M Q := h
theorem o_inD (e : M[p]? = some (.dct lk kvs)) (hk : keyOf x = some k) (h : Q (.bl (dget kvs k).isSome) M) : oIn x (.ref p) M Q := by
  unfold oIn oInB; dsimp only; rw [e]; dsimp only; rw [hk]; exact h
theorem o_ninD (e : M[p]? = some (.dct lk kvs)) (hk : keyOf x = some k) (h : Q (.bl (!(dget kvs k).isSome)) M) : oNotIn x (.ref p) M Q := by
  unfold oNotIn oInB; dsimp only; rw [e]; dsimp only; rw [hk]; exact h
theorem o_lenD (e : M[p]? = some (.dct lk kvs)) (h : Q (.int kvs.length) M) : oLen [.ref p] M Q := by
  unfold oLen; dsimp only; rw [e]; exact h
theorem o_dictD (e : M[p]? = some (.dct lk kvs)) (h : Q (.ref M.length) (M ++ [.dct false kvs])) : oDict1 [.ref p] M Q := by
  unfold oDict1; dsimp only; rw [e]; exact h
theorem o_listD (e : M[p]? = some (.dct false kvs)) (h : Q (.ref M.length) (M ++ [.lst (kvs.map fun kv => kD kv.1)])) : oList1 [.ref p] M Q := by
  unfold oList1; dsimp only; rw [e]; exact h
theorem o_strS (h : Q (.str z) M) : oStr1 [.str z] M Q := h
theorem o_abs {n : Int} (h : Q (.int (if n < 0 then -n else n)) M) : oAbs [.int n] M Q := h
theorem x_iseqTV {k : List D → (Mem → Prop) → Mem → Prop} {ds : List D} (e : ρ[i]? = some (some (.tup ds))) (h : k ds (fun _ => True) M) : mISeq (mVar i) ρ M k X := by
  unfold mISeq mVar; rw [e]; exact h
theorem x_iseqSV {k : List D → (Mem → Prop) → Mem → Prop} (e : ρ[i]? = some (some (.str z))) (h : k (z.cps.toList.map fun c => .str ⟨#[c]⟩) (fun _ => True) M) : mISeq (mVar i) ρ M k X := by
  unfold mISeq mVar; rw [e]; exact h
theorem x_isS {P : Prop} (q : P) : isT "str" (.str z) M ∧ P := ⟨rfl, q⟩
theorem if_b {k : Bool} {A B : Prop} (h1 : k = true → A) (h2 : k = false → B) : if k = true then A else B := by
  cases k
  · rw [if_neg (by decide)]; exact h2 rfl
  · rw [if_pos rfl]; exact h1 rfl
end
section
variable {κ : Type} [DecidableEq κ] {kvs : List (κ × D)} {k k' : κ} {v : D}
end
end MV
namespace MV
def pD (x : Int × Int) : D := .tup [.int x.1, .int x.2]
def omD : Option (Int × Int) → D
  | none => .non
  | some m => pD m
abbrev Rung := Option (Int × Int) × (Int × Int)
def rungD (r : Rung) : D := .tup [omD r.1, pD r.2]
section
variable {M : Mem} {Q : DK} {m : Int × Int} {r : Rung}
theorem o_pD0 (h : Q (.int m.1) M) : oIx (pD m) (.int 0) M Q := h
theorem o_pD1 (h : Q (.int m.2) M) : oIx (pD m) (.int 1) M Q := h
theorem o_rg0 (h : Q (omD r.1) M) : oIx (rungD r) (.int 0) M Q := h
theorem o_rg1 (h : Q (pD r.2) M) : oIx (rungD r) (.int 1) M Q := h
theorem x_tpR {N : Ev → Prop} {l : Tgs} {ρ : Ev} (h : l.mg [omD r.1, pD r.2] ρ M N) : (Tg.tp 2 l).mg (rungD r) ρ M N := ⟨rfl, h⟩
end
end MV
open PySem L2 MV
/-- the mirrors' steps -/
local macro_rules | `(tactic| walk_at "ex") => `(tactic| first
  | ((with_reducible refine x_var (d := ?vv) ?hh ?qq); (case hh => exact rfl))
  | ((with_reducible refine x_len ?l1 ?l2 ?qq); (case l1 => exact rfl); (case l2 => exact rfl))
  | ((with_reducible refine o_tup ?l1 ?qq); (case l1 => exact Nat.le_of_ble_eq_true rfl))
  | ((with_reducible refine o_lst ?l1 ?qq); (case l1 => exact Nat.le_of_ble_eq_true rfl))
  | ((with_reducible refine o_ixT (v := ?ww) ?l1 ?qq); (case l1 => exact rfl))
  | ((with_reducible refine x_tp ?l1 ?qq); (case l1 => exact rfl))
  | with_reducible first
  | refine x_lc ?_
  | refine x_c ?_ | refine x_op ?_ | refine x_un ?_ | refine x_cb ?_ | refine x_nil ?_ | refine x_cons ?_ | refine x_b ?_ | refine x_tru ?_ | refine x_and ?_ | refine x_or ?_ | refine x_not ?_ | refine x_yes ?_ | refine x_nm ?_ | refine x_tc ?_ | refine x_tn ?_ | refine x_ifE ?_ | refine x_andV ?_ | refine x_orV ?_ | refine x_argsK ?_ | refine x_argsPK ?_ | refine x_rng2 ?_ | refine x_dict0 ?_ | refine x_make ?_ | refine o_eqS ?_ | refine o_neS ?_ | refine o_isN ?_ | refine o_isnN ?_ | refine o_strS ?_ | refine o_abs ?_ | refine o_inS ?_ | refine o_ninS ?_ | refine o_pD0 ?_ | refine o_pD1 ?_ | refine o_rg0 ?_ | refine o_rg1 ?_ | refine x_tpR ?_ | refine x_isS ?_
  | refine x_call ?_ | refine x_argsP ?_ | refine x_args0 ?_ | refine x_bm ?_ | refine x_rng ?_ | refine x_sl ?_ | refine x_noP ?_ | refine x_part ?_
  | refine o_add ?_ | refine o_sub ?_ | refine o_neg ?_ | refine o_lt ?_ | refine o_le ?_ | refine o_gt ?_ | refine o_ge ?_ | refine o_eqI ?_ | refine o_neI ?_ | refine o_min ?_ | refine o_max ?_ | refine o_intB ?_ | refine o_lenT ?_ | refine o_truB ?_ | refine o_slK ?_ | refine o_slT ?_ | refine o_isTT ?_ | refine if_t ?_ | refine if_f ?_ | refine if_nt ?_ | refine if_nf ?_)
local macro_rules | `(tactic| walk_at "sx") => `(tactic| with_reducible first
  | refine x_seq ?_ | refine x_set ?_ | refine x_ret ?_ | refine x_retN ?_ | refine x_next ?_ | refine x_drop ?_ | refine x_ifS ?_ | refine x_asg ?_ | refine x_setIx ?_ | refine x_for ?_ | refine x_par ?_ | refine x_raise ?_ | refine x_try ?_)
local macro_rules | `(tactic| walk_at "mx") => `(tactic| first | walk_at "sx" | walk_at "ex")
local macro_rules | `(tactic| walk_at "fx") => `(tactic| first
  | ((with_reducible refine o_ixL (ds := ?ll) (v := ?ww) ?l0 ?l1 ?qq); (case l0 => assumption); (case l1 => exact rfl))
  | ((with_reducible refine o_lenL (ds := ?ll) ?l0 ?qq); (case l0 => assumption))
  | ((with_reducible refine x_iseqV (n := ?nn) (ds := ?ll) ?l0 ?l1 ?qq); (case l0 => exact rfl); (case l1 => assumption))
  | ((with_reducible refine x_enT (ds := ?ll) ?l0 ?qq); (case l0 => exact rfl))
  | ((with_reducible refine x_isL (ds := ?ll) ?l0 ?qq); (case l0 => assumption))
  | ((with_reducible refine o_isLL (ds := ?ll) ?l0 ?qq); (case l0 => assumption))
  | ((with_reducible refine o_listL (ds := ?ll) ?l0 ?qq); (case l0 => assumption))
  | ((with_reducible refine o_tupL (ds := ?ll) ?l0 ?qq); (case l0 => assumption))
  | ((with_reducible refine x_fldV (n := ?nn) (fs := ?ff) (d := ?dd) (c := ?cc) ?l0 ?l1 ?l2 ?l3 ?qq); (case l0 => exact rfl); (case l1 => assumption); (case l2 => decide +kernel); (case l3 => first | exact nf_hours | exact nf_s | exact nf_t | exact nf_p | exact nf_r))
  | ((with_reducible refine x_methV (n := ?nn) (fs := ?ff) ?l0 ?l1 ?l2 ?qq); (case l0 => exact rfl); (case l1 => assumption); (case l2 => exact nf_no (by decide +kernel)))
  | ((with_reducible refine o_lenD (lk := ?lk) (kvs := ?ll) ?l0 ?qq); (case l0 => assumption))
  | ((with_reducible refine o_dictD (lk := ?lk) (kvs := ?ll) ?l0 ?qq); (case l0 => assumption))
  | ((with_reducible refine o_listD (kvs := ?ll) ?l0 ?qq); (case l0 => assumption))
  | ((with_reducible refine o_inD (lk := ?lk) (kvs := ?ll) (k := ?kk) ?l0 ?l1 ?qq); (case l0 => assumption); (case l1 => exact rfl))
  | ((with_reducible refine o_ninD (lk := ?lk) (kvs := ?ll) (k := ?kk) ?l0 ?l1 ?qq); (case l0 => assumption); (case l1 => exact rfl))
  | ((with_reducible refine x_iseqTV (ds := ?ll) ?l0 ?qq); (case l0 => exact rfl))
  | ((with_reducible refine x_iseqSV (z := ?zz) ?l0 ?qq); (case l0 => exact rfl)))
local macro_rules | `(tactic| walk_at "m1") => `(tactic| first | walk_at "mx" | walk_at "fx")
local macro_rules | `(tactic| walk_at "ml") => `(tactic| repeat walk_at "m1")
local macro_rules | `(tactic| walk_at "q1") => `(tactic| first | walk_at "ex" | walk_at "fx")
local macro_rules | `(tactic| walk_at "mq") => `(tactic| repeat walk_at "q1")
namespace MV
/-- the feed at p, its cells at q -/
def Feed (M : Mem) (p q : Nat) : Prop := ∃ (cs : List Int) (i r s : Int), M[p]? = some (.lst [.ref q, .int i, .int r, .int s]) ∧ M[q]? = some (.lst (cs.map .int)) ∧ p ≠ q ∧ 0 ≤ i ∧ 0 ≤ s ∧ s < 2147483647
theorem Feed.kp {M M' : Mem} {p q : Nat} {S : List Nat} (h : Feed M p q) (k : Kp S M M') (n1 : p ∉ S) (n2 : q ∉ S) : Feed M' p q := by
  obtain ⟨cs, i, r, s, h1, h2, h3⟩ := h
  exact ⟨cs, i, r, s, k.at_ _ _ n1 h1, k.at_ _ _ n2 h2, h3⟩
theorem Feed.lt {M : Mem} {p q : Nat} (h : Feed M p q) : p < M.length ∧ q < M.length := by
  obtain ⟨cs, i, r, s, h1, h2, h3⟩ := h
  exact ⟨mlt h1, mlt h2⟩
theorem Feed.app {M l : Mem} {p q : Nat} (h : Feed M p q) : Feed (M ++ l) p q := h.kp (S := []) Kp.app (by simp) (by simp)
end MV
namespace Prf
theorem ldraw {M : Mem} {p q : Nat} {m : Int} {Q : DK} {X : XM} (F : Feed M p q) (hm : 0 < m) (hb : m < 2 ^ 60) (k : ∀ d M', 0 ≤ d → d < m → Kp [p] M M' → Feed M' p q → Q (.int d) M') : w_Ldraw [.ref p, .int m] M Q X := by
  obtain ⟨cs, i, r, s, h1, h2, hne, hi, hs0, hs1⟩ := F
  have hm0 : m ≠ 0 := by omega
  have hd : okDiv m := div_ok hm0 (by omega)
  show m_Ldraw _ [some (.ref p), some (.int m), none, none, none] M
  unfold m_Ldraw
  walk_at "ml"
  refine if_d (fun hr => ?_) (fun hr => ?_)
  · walk_at "ml"
    refine o_mod hm0 ?_
    walk_at "ml"
    refine o_div hd ?_
    walk_at "ml"
    refine o_setL h1 (j := 2) rfl ?_
    walk_at "ml"
    obtain ⟨a1, a2⟩ := fmod_in r hm
    exact k _ _ a1 a2 (.set (by simp)) ⟨cs, i, _, s, msame h1, by rw [List.getElem?_set_ne hne]; exact h2, hne, hi, hs0, hs1⟩
  · iterate 4 walk_at "mx"
    with_reducible refine x_join (fun ρ' M' => ∃ c i' : Int, ρ' = [some (.ref p), some (.int m), none, some (.int c), none] ∧ 0 ≤ i' ∧ M'[p]? = some (.lst [.ref q, .int i', .int r, .int s]) ∧ M'[q]? = some (.lst (cs.map .int)) ∧ Kp [p] M M') ?_ ?_
    · intro K hK
      walk_at "ml"
      refine if_d (fun hc => ?_) (fun hc => ?_)
      · walk_at "ml"
        have hi2 : i.toNat < cs.length := by simp at hc; omega
        refine o_ixL h2 (v := .int cs[i.toNat]) (by rw [atI_i hi]; simp [hi2]) ?_
        walk_at "ml"
        refine o_setL h1 (j := 1) rfl ?_
        exact hK _ _ ⟨_, i + 1, rfl, by omega, msame h1, by rw [List.getElem?_set_ne hne]; exact h2, .set (by simp)⟩
      · walk_at "ml"
        exact hK _ _ ⟨0, i, rfl, hi, h1, h2, .refl⟩
    · rintro _ M1 ⟨c, i', rfl, hi', g1, g2, kp⟩
      walk_at "ml"
      refine if_d (fun hc => ?_) (fun hc => ?_)
      · walk_at "ml"
        refine o_div hd ?_
        walk_at "ml"
        refine o_setL g1 (j := 2) rfl ?_
        walk_at "ml"
        refine o_mod hm0 ?_
        obtain ⟨a1, a2⟩ := fmod_in c hm
        exact k _ _ a1 a2 (kp.trans (.set (by simp))) ⟨cs, i', _, s, msame g1, by rw [List.getElem?_set_ne hne]; exact g2, hne, hi', hs0, hs1⟩
      · walk_at "ml"
        refine o_mul (mul_ok (by decide)) ?_
        walk_at "ml"
        refine o_mod (by decide) ?_
        walk_at "ml"
        refine o_mod (by decide) ?_
        walk_at "ml"
        refine o_setL g1 (j := 3) rfl ?_
        obtain ⟨b1, b2⟩ := fmod_in (s * 48271 + c.fmod 1000003 + 11) (m := 2147483647) (by decide)
        generalize (s * 48271 + c.fmod 1000003 + 11).fmod 2147483647 = s' at b1 b2 ⊢
        have g3 : (M1.set p (.lst [.ref q, .int i', .int r, .int s']))[p]? = some (.lst [.ref q, .int i', .int r, .int s']) := msame g1
        have g4 : (M1.set p (.lst [.ref q, .int i', .int r, .int s']))[q]? = some (.lst (cs.map .int)) := by rw [List.getElem?_set_ne hne]; exact g2
        have kp2 : Kp [p] M (M1.set p (.lst [.ref q, .int i', .int r, .int s'])) := kp.trans (.set (by simp))
        show mSeq _ _ _ _ (M1.set p (.lst [.ref q, .int i', .int r, .int s']))
        generalize M1.set p (.lst [.ref q, .int i', .int r, .int s']) = M2 at g3 g4 kp2 ⊢
        walk_at "ml"
        refine o_pow ⟨by decide, by decide, by omega⟩ ?_
        walk_at "ml"
        refine o_ixL (ds := [.int s', .int (s' ^ 4)]) (v := .int (if 100000 < m then s' ^ 4 else s')) mnew ?_ ?_
        · by_cases hm5 : 100000 < m <;> simp [hm5, atI_0, atI_1]
        walk_at "ml"
        refine o_div (div_ok (by decide) (by decide)) ?_
        walk_at "ml"
        refine o_mod hm0 ?_
        have fin : ∀ a : Int, Q (.int (a.fmod m)) (M2 ++ [.lst [.int s', .int (s' ^ 4)]]) := fun a => by
          obtain ⟨a1, a2⟩ := fmod_in a hm
          exact k _ _ a1 a2 (kp2.trans .app) (Feed.app ⟨cs, i', r, s', g3, g4, hne, hi', b1, b2⟩)
        exact fin _
theorem lfeed {M : Mem} {ns : List Int} {Q : DK} {X : XM} (k : ∀ M', Kp [] M M' → Feed M' (M.length + 2) (M.length + 1) → Q (.ref (M.length + 2)) M') : w_Lfeed [.kl (ns.map .int)] M Q X := by
  show m_Lfeed _ [some (.kl (ns.map .int))] M
  unfold m_Lfeed
  walk_at "ml"
  show oList1 [.ref M.length] (M ++ [.lst (cutD (ns.map D.int) none (some 63))]) _
  have e : ∃ cs : List Int, cutD (ns.map D.int) none (some 63) = cs.map .int := ⟨_, by unfold cutD; rw [← List.map_drop, ← List.map_take]⟩
  obtain ⟨cs, e⟩ := e
  rw [e]
  refine o_listL mnew ?_
  walk_at "ml"
  have e2 : (M ++ [O.lst (cs.map D.int)]).length = M.length + 1 := by simp
  have e3 : (M ++ [O.lst (cs.map D.int)] ++ [O.lst (cs.map D.int)]).length = M.length + 2 := by simp
  rw [e2, e3]
  refine k _ ((Kp.app.trans .app).trans .app) ⟨cs, 0, 0, 1, ?_, ?_, by omega, by decide, by decide, by decide⟩
  · rw [← e3]; exact mnew
  · exact (Kp.app (S := [])).at_ _ _ (by simp) (by rw [← e2]; exact mnew)
end Prf

namespace MV
theorem frac_n (t u : Int) (h : u ≠ 0) : t.fdiv (if u < 0 then -(Int.gcd t u : Int) else (Int.gcd t u : Int)) = ((t : Rat) / (u : Rat)).num ∧ u.fdiv (if u < 0 then -(Int.gcd t u : Int) else (Int.gcd t u : Int)) = (((t : Rat) / (u : Rat)).den : Int) := by
  rw [← Rat.divInt_eq_div, Rat.num_divInt, Rat.den_divInt, if_neg h, Int.gcd_comm u t]
  have g0 : (0 : Int) < (Int.gcd t u : Int) := by
    have := Int.gcd_pos_of_ne_zero_right t h
    omega
  obtain ⟨a, ha⟩ : ∃ a, t = (Int.gcd t u : Int) * a := Int.gcd_dvd_left t u
  obtain ⟨b, hb⟩ : ∃ b, u = (Int.gcd t u : Int) * b := Int.gcd_dvd_right t u
  generalize hg : Int.gcd t u = g at *
  clear hg
  have gn : (g : Int) ≠ 0 := by omega
  have key : ∀ x : Int, ((g : Int) * x).fdiv g = x := fun x => by rw [Int.mul_comm]; exact Int.mul_fdiv_cancel x gn
  have kem : ∀ x : Int, ((g : Int) * x).fdiv (-g) = -x := fun x => by
    rw [show (g : Int) * x = (-x) * (-g) by rw [Int.neg_mul_neg, Int.mul_comm]]; exact Int.mul_fdiv_cancel _ (by omega)
  subst ha hb
  by_cases hu : (g : Int) * b < 0
  · have hb : b < 0 := by
      by_cases z : b < 0
      · exact z
      · have := Int.mul_nonneg (Int.le_of_lt g0) (show 0 ≤ b by omega); omega
    rw [if_pos hu, kem, kem]
    constructor
    · rw [Int.sign_eq_neg_one_of_neg hu, ← Int.mul_assoc, Int.mul_comm (-1), Int.mul_assoc, Int.mul_ediv_cancel_left _ gn]
      omega
    · rw [Int.natAbs_mul, Int.natAbs_natCast, Nat.mul_div_cancel_left _ (by omega)]
      omega
  · have hb : 0 < b := by
      by_cases z : 0 < b
      · exact z
      · exfalso
        have h2 := Int.mul_nonneg_of_nonpos_of_nonpos (a := -(g : Int)) (b := b) (by omega) (by omega)
        have e : -(g : Int) * b = -(g * b) := Int.neg_mul _ _
        omega
    rw [if_neg hu, key, key]
    constructor
    · rw [Int.sign_eq_one_of_pos (Int.mul_pos g0 hb), Int.one_mul, Int.mul_ediv_cancel_left _ gn]
    · rw [Int.natAbs_mul, Int.natAbs_natCast, Nat.mul_div_cancel_left _ (by omega)]
      omega
theorem q_nd (q : Rat) : (q.num : Rat) / ((q.den : Int) : Rat) = q := by
  have := Rat.num_divInt_den q
  rw [Rat.divInt_eq_div] at this
  exact this
theorem rne {b : Int} (h : b ≠ 0) : (b : Rat) ≠ 0 := by exact_mod_cast h
theorem q_den0 (q : Rat) : (q.den : Int) ≠ 0 := by have := q.den_pos; omega
theorem q_add (a b : Rat) : ((a.num * b.den + b.num * a.den : Int) : Rat) / ((a.den * b.den : Int) : Rat) = a + b := by
  have h1 := rne (q_den0 a); have h2 := rne (q_den0 b)
  have ea := q_nd a; have eb := q_nd b
  push_cast at *
  grind
theorem q_val (m n : Int) (s : Rat) : ((m * s.den + n * s.num : Int) : Rat) / ((s.den : Int) : Rat) = m + n * s := by
  have h1 := rne (q_den0 s)
  have ea := q_nd s
  push_cast at *
  grind
theorem den_div_dvd (t u : Int) (h : u ≠ 0) : (((t : Rat) / (u : Rat)).den : Int) ∣ u := by
  obtain ⟨_, h2⟩ := frac_n t u h
  obtain ⟨b, hb⟩ : ∃ b, u = (Int.gcd t u : Int) * b := Int.gcd_dvd_right t u
  have e : u.fdiv (if u < 0 then -(Int.gcd t u : Int) else (Int.gcd t u : Int)) ∣ u := by
    have g0 : (0 : Int) < (Int.gcd t u : Int) := by
      have := Int.gcd_pos_of_ne_zero_right t h
      omega
    generalize Int.gcd t u = g at *
    subst hb
    have gn : (g : Int) ≠ 0 := by omega
    split
    · rw [show (g : Int) * b = (-b) * (-g) by rw [Int.neg_mul_neg, Int.mul_comm], Int.mul_fdiv_cancel _ (by omega)]; exact ⟨-g, rfl⟩
    · rw [show (g : Int) * b = b * g by rw [Int.mul_comm], Int.mul_fdiv_cancel _ gn]; exact ⟨g, rfl⟩
  rw [h2] at e; exact e
/-- the under divides n -/
def DD (n : Nat) (q : Rat) : Prop := q.den ∣ n
theorem dd_of {n : Nat} {x : Int} {q : Rat} (hn : 0 < n) (h : q = (x : Rat) / ((n : Int) : Rat)) : DD n q := by
  subst h
  have := den_div_dvd x n (by omega)
  exact Int.natCast_dvd_natCast.mp this
theorem DD.to {n : Nat} {q : Rat} (hn : 0 < n) (h : DD n q) : ∃ x : Int, q = (x : Rat) / ((n : Int) : Rat) := by
  obtain ⟨k, hk⟩ := h
  refine ⟨q.num * k, ?_⟩
  have e := q_nd q
  have h1 := rne (q_den0 q)
  have h2 : ((n : Int) : Rat) ≠ 0 := rne (by omega)
  have hk' : ((n : Int) : Rat) = ((q.den : Int) : Rat) * ((k : Int) : Rat) := by rw [hk]; push_cast; rfl
  push_cast at *
  grind
theorem DD.add {n : Nat} {a b : Rat} (hn : 0 < n) (ha : DD n a) (hb : DD n b) : DD n (a + b) := by
  obtain ⟨x, rfl⟩ := ha.to hn
  obtain ⟨y, rfl⟩ := hb.to hn
  refine dd_of (x := x + y) hn ?_
  have h2 : ((n : Int) : Rat) ≠ 0 := rne (by omega)
  push_cast at *
  grind
theorem DD.sub {n : Nat} {a b : Rat} (hn : 0 < n) (ha : DD n a) (hb : DD n b) : DD n (a - b) := by
  obtain ⟨x, rfl⟩ := ha.to hn
  obtain ⟨y, rfl⟩ := hb.to hn
  refine dd_of (x := x - y) hn ?_
  have h2 : ((n : Int) : Rat) ≠ 0 := rne (by omega)
  push_cast at *
  grind
theorem DD.val {n : Nat} {s : Rat} (hn : 0 < n) (hs : DD n s) (a b : Int) : DD n (a + b * s) := by
  obtain ⟨x, rfl⟩ := hs.to hn
  refine dd_of (x := a * n + b * x) hn ?_
  have h2 : ((n : Int) : Rat) ≠ 0 := rne (by omega)
  push_cast at *
  grind
theorem DD.up {n m : Nat} {q : Rat} (h : DD n q) (hd : n ∣ m) : DD m q := Nat.dvd_trans h hd
theorem DD.le {n : Nat} {q : Rat} (hn : 0 < n) (h : DD n q) : q.den ≤ n := Nat.le_of_dvd hn h
theorem DD.z {n : Nat} : DD n 0 := by unfold DD; exact ⟨n, by rw [show (0 : Rat).den = 1 from rfl]; omega⟩
/-- a fraction as a datum -/
def qD (q : Rat) : D := .tup [.int q.num, .int (q.den : Int)]
section
variable {M : Mem} {Q : DK} {q : Rat}
theorem o_q0 (h : Q (.int q.num) M) : oIx (qD q) (.int 0) M Q := h
theorem o_q1 (h : Q (.int (q.den : Int)) M) : oIx (qD q) (.int 1) M Q := h
end
theorem qD_inj {a b : Rat} (h : qD a = qD b) : a = b := by
  unfold qD at h
  injection h with h
  injection h with h1 h
  injection h with h2 _
  injection h1 with h1
  injection h2 with h2
  exact Rat.ext h1 (by omega)
theorem qD_of {t u : Int} (h : u ≠ 0) : D.tup [.int (t.fdiv (if u < 0 then -(Int.gcd t u : Int) else (Int.gcd t u : Int))), .int (u.fdiv (if u < 0 then -(Int.gcd t u : Int) else (Int.gcd t u : Int)))] = qD ((t : Rat) / (u : Rat)) := by
  obtain ⟨h1, h2⟩ := frac_n t u h
  unfold qD
  rw [h1, h2]
theorem x_while {c : MT} {b : MS} {E : Nd} {ρ : Ev} {M : Mem} (I : Nat → Ev → Mem → Prop) (m : Nat) (h0 : I m ρ M) (hs : ∀ m ρ M, I m ρ M → c ρ M (fun k M1 => if k = true then ∃ N : Ev → Mem → Prop, (∀ ρ' M', N ρ' M' → ∃ m', m' < m ∧ I m' ρ' M') ∧ b ⟨N, E.rt, E.nx, N, E.ex⟩ ρ M1 else E.nx ρ M1) (fun x M1 => E.ex x ρ M1)) : mWhile c b E ρ M := ⟨I, ⟨m, h0⟩, hs⟩
/-- the loop of the greatest common divisor -/
theorem w_gcd {E : Nd} {a b : Int} {M : Mem} {l : Ev} (k : ∀ c : Int, c.natAbs = Int.gcd a b → E.nx (some (.int c) :: some (.int 0) :: l) M) : mWhile (mTru (mVar 1)) (mPar 0 1 (mCons (mVar 1) (mCons (mOp oMod (mVar 0) (mVar 1)) mNil))) E (some (.int a) :: some (.int b) :: l) M := by
  refine x_while (fun m ρ M' => ∃ x y : Int, ρ = some (.int x) :: some (.int y) :: l ∧ M = M' ∧ Int.gcd x y = Int.gcd a b ∧ y.natAbs = m) b.natAbs ⟨a, b, rfl, rfl, rfl, rfl⟩ ?_
  rintro m _ _ ⟨x, y, rfl, rfl, hg, rfl⟩
  refine x_tru (x_var (d := .int y) rfl ?_)
  show if (y != 0) = true then _ else _
  by_cases hy : y = 0
  · subst hy
    rw [if_neg (by decide)]
    exact k x (by rw [← hg]; simp [Int.gcd])
  · rw [if_pos (by simpa using hy)]
    refine ⟨fun ρ' M' => ∃ m', m' < y.natAbs ∧ ∃ x' y' : Int, ρ' = some (.int x') :: some (.int y') :: l ∧ M = M' ∧ Int.gcd x' y' = Int.gcd a b ∧ y'.natAbs = m', fun _ _ h => h, ?_⟩
    refine x_par (x_cons (x_var (d := .int y) rfl (x_cons (x_op (x_var (d := .int x) rfl (x_var (d := .int y) rfl (o_mod hy ?_)))))))
    refine x_nil ?_
    refine ⟨(x.fmod y).natAbs, ?_, y, x.fmod y, rfl, rfl, ?_, rfl⟩
    · by_cases hp : 0 < y
      · have := fmod_in x hp; omega
      · have h2 : (x.fmod y) = -((-x).fmod (-y)) := by rw [Int.neg_fmod_neg, Int.neg_neg]
        have := fmod_in (-x) (m := -y) (by omega); omega
    · rw [← hg, Int.gcd_comm x y]
      have e : x.fmod y = x - y * (x.fdiv y) := by have := Int.mul_fdiv_add_fmod x y; omega
      rw [e]
      exact Int.gcd_sub_mul_left_right y x (x.fdiv y)
end MV
namespace Prf
section
variable {M : Mem} {Q : DK} {X : XM} {a b s t : Rat} {x y : Int} {m : Int × Int}
theorem gcd64 {x y : Int} (h0 : y ≠ 0) (hb : y.natAbs < 2 ^ 64) : okDiv (if y < 0 then -(Int.gcd x y : Int) else (Int.gcd x y : Int)) := by
  have h1 := Int.gcd_pos_of_ne_zero_right x h0
  have h2 : Int.gcd x y ≤ y.natAbs := Nat.le_of_dvd (by omega) (Int.gcd_dvd_natAbs_right x y)
  refine div_ok ?_ ?_
  · split <;> omega
  · split <;> omega
theorem lgcd (h : Q (.int (Int.gcd x y)) M) : w_Lgcd [.int x, .int y] M Q X := by
  unfold w_Lgcd wOf
  rw [show startE N_Lgcd [.int x, .int y] = [some (.int x), some (.int y)] from rfl]
  unfold m_Lgcd
  walk_at "sx"
  refine w_gcd fun c hc => ?_
  walk_at "ml"
  rw [show (if c < 0 then -c else c) = ((Int.gcd x y : Nat) : Int) by rw [← hc]; split <;> omega]
  exact h
theorem lfrac (h0 : y ≠ 0) (hb : y.natAbs < 2 ^ 64) (h : Q (qD ((x : Rat) / (y : Rat))) M) : w_Lfrac [.int x, .int y] M Q X := by
  unfold w_Lfrac wOf
  rw [show startE N_Lfrac [.int x, .int y] = [some (.int x), some (.int y), none] from rfl]
  unfold m_Lfrac
  have hd := gcd64 (x := x) h0 hb
  walk_at "ml"
  refine lgcd ?_
  walk_at "mq"
  with_reducible refine x_join (fun ρ M' => M = M' ∧ ρ = [some (.int x), some (.int y), some (.int (if y < 0 then -(Int.gcd x y : Int) else (Int.gcd x y : Int)))]) ?_ ?_
  · intro K hK
    walk_at "ml"
    refine if_d (fun e => ?_) (fun e => ?_)
    · walk_at "ml"
      exact hK _ _ ⟨rfl, by rw [if_pos e]; rfl⟩
    · walk_at "ml"
      exact hK _ _ ⟨rfl, by rw [if_neg e]; rfl⟩
  rintro _ _ ⟨rfl, rfl⟩
  walk_at "ml"
  refine o_div hd ?_
  walk_at "ml"
  refine o_div hd ?_
  walk_at "ml"
  rw [qD_of h0]
  exact h
theorem lplus (ha : a.den < 2 ^ 32) (hb : b.den < 2 ^ 32) (h : Q (qD (a + b)) M) : w_Lplus [qD a, qD b] M Q X := by
  unfold w_Lplus wOf
  rw [show startE N_Lplus [qD a, qD b] = [some (qD a), some (qD b)] from rfl]
  unfold m_Lplus
  have pa := a.den_pos; have pb := b.den_pos
  have hm : a.den * b.den < 2 ^ 32 * 2 ^ 32 := Nat.mul_lt_mul_of_lt_of_lt ha hb
  walk_at "ml"
  refine o_q0 ?_
  walk_at "ml"
  refine o_q1 ?_
  refine o_mul (by first | exact mul_ok (by omega) | exact mul_ok' (by omega)) ?_
  walk_at "ml"
  refine o_q0 ?_
  walk_at "ml"
  refine o_q1 ?_
  refine o_mul (by first | exact mul_ok (by omega) | exact mul_ok' (by omega)) ?_
  walk_at "ml"
  refine o_q1 ?_
  walk_at "ml"
  refine o_q1 ?_
  refine o_mul (by first | exact mul_ok (by omega) | exact mul_ok' (by omega)) ?_
  walk_at "ml"
  refine lfrac (Int.mul_ne_zero (by omega) (by omega)) (by rw [Int.natAbs_mul]; simpa using hm) ?_
  rw [q_add]
  exact h
theorem llt (ha : a.den < 2 ^ 32) (hb : b.den < 2 ^ 32) (h : Q (.bl (decide (a < b))) M) : w_Llt [qD a, qD b] M Q X := by
  unfold w_Llt wOf
  rw [show startE N_Llt [qD a, qD b] = [some (qD a), some (qD b)] from rfl]
  unfold m_Llt
  walk_at "ml"
  refine o_q0 ?_
  walk_at "ml"
  refine o_q1 ?_
  refine o_mul (mul_ok (by omega)) ?_
  walk_at "ml"
  refine o_q0 ?_
  walk_at "ml"
  refine o_q1 ?_
  refine o_mul (mul_ok (by omega)) ?_
  walk_at "ml"
  simp only [← Rat.lt_iff]
  exact h
theorem lat (ha : a.den < 2 ^ 32) (hm : m.2.natAbs < 2 ^ 64) (h : Q (qD (m.1 + m.2 * a)) M) : w_Lat [pD m, qD a] M Q X := by
  unfold w_Lat wOf
  rw [show startE N_Lat [pD m, qD a] = [some (pD m), some (qD a)] from rfl]
  unfold m_Lat
  have pa := a.den_pos
  walk_at "ml"
  refine o_q1 ?_
  refine o_mul (mul_ok (by omega)) ?_
  walk_at "ml"
  refine o_q0 ?_
  refine o_mul (mul_ok' (by omega)) ?_
  walk_at "ml"
  refine o_q1 ?_
  walk_at "ml"
  refine lfrac (by omega) (by omega) ?_
  rw [q_val]
  exact h
theorem lwhole_i {i : Int} (h : Q (.bl true) M) : w_Lwhole [.int i] M Q X := by
  unfold w_Lwhole wOf
  rw [show startE N_Lwhole [.int i] = [some (.int i)] from rfl]
  unfold m_Lwhole
  walk_at "ml"
  refine ⟨rfl, ?_⟩
  walk_at "ml"
  refine ⟨rfl, ?_⟩
  exact h
end
end Prf

namespace MV
abbrev Mo := Int × Int
def madd (a b : Mo) : Mo := (a.1 + b.1, a.2 + b.2)
def mneg (a : Mo) : Mo := (-a.1, -a.2)
/-- a setting p/q, whether the step counts behind it -/
structure Sg where
  p : Int
  q : Int
  ah : Bool
def rk (A : Sg) (m : Mo) : Mo := (m.1 * A.q + m.2 * A.p, if A.ah then m.2 else 0)
def wlt (a b : Mo) : Prop := a.1 < b.1 ∨ (a.1 = b.1 ∧ a.2 < b.2)
def wle (a b : Mo) : Prop := a.1 < b.1 ∨ (a.1 = b.1 ∧ a.2 ≤ b.2)
instance (a b : Mo) : Decidable (wlt a b) := inferInstanceAs (Decidable (_ ∨ _))
instance (a b : Mo) : Decidable (wle a b) := inferInstanceAs (Decidable (_ ∨ _))
theorem rk_add (A : Sg) (a b : Mo) : rk A (madd a b) = madd (rk A a) (rk A b) := by
  unfold rk madd
  refine Prod.ext ?_ ?_
  · show (a.1 + b.1) * A.q + (a.2 + b.2) * A.p = (a.1 * A.q + a.2 * A.p) + (b.1 * A.q + b.2 * A.p)
    grind
  · show (if A.ah then a.2 + b.2 else 0) = (if A.ah then a.2 else 0) + (if A.ah then b.2 else 0)
    split <;> omega
theorem rk_zero (A : Sg) : rk A (0, 0) = (0, 0) := by
  unfold rk
  refine Prod.ext ?_ ?_
  · show (0 : Int) * A.q + 0 * A.p = 0
    omega
  · show (if A.ah then (0 : Int) else 0) = 0
    split <;> rfl
theorem wle_refl (a : Mo) : wle a a := .inr ⟨rfl, Int.le_refl _⟩
theorem wlt_irrefl {a : Mo} (h : wlt a a) : False := by unfold wlt at h; omega
theorem wle_trans {a b c : Mo} (h : wle a b) (k : wle b c) : wle a c := by unfold wle at *; omega
theorem wlt_le {a b c : Mo} (h : wlt a b) (k : wle b c) : wlt a c := by unfold wle wlt at *; omega
theorem wle_of_lt {a b : Mo} (h : wlt a b) : wle a b := by unfold wle wlt at *; omega
theorem wle_of_not {a b : Mo} (h : ¬ wlt a b) : wle b a := by unfold wle wlt at *; omega
theorem wle_add {a b : Mo} (c : Mo) (h : wle a b) : wle (madd a c) (madd b c) := by
  unfold wle madd at *
  dsimp only
  omega
theorem madd_assoc (a b c : Mo) : madd (madd a b) c = madd a (madd b c) := by unfold madd; exact Prod.ext (by dsimp only; omega) (by dsimp only; omega)
theorem madd_comm (a b : Mo) : madd a b = madd b a := by unfold madd; exact Prod.ext (by dsimp only; omega) (by dsimp only; omega)
theorem zero_madd (a : Mo) : madd (0, 0) a = a := by unfold madd; exact Prod.ext (by dsimp only; omega) (by dsimp only; omega)
theorem madd_zero (a : Mo) : madd a (0, 0) = a := by unfold madd; exact Prod.ext (by dsimp only; omega) (by dsimp only; omega)
structure Li where
  tl : Nat
  hd : Nat
  k : Nat
  fw : Bool
abbrev HS := Nat → Option Mo
abbrev BS := Nat → Option Li
def upf {α : Type} (f : Nat → α) (i : Nat) (x : α) : Nat → α := fun j => if j = i then x else f j
theorem upf_same {α : Type} {f : Nat → α} {i : Nat} {x : α} : upf f i x i = x := if_pos rfl
theorem upf_ne {α : Type} {f : Nat → α} {i j : Nat} {x : α} (h : j ≠ i) : upf f i x j = f j := if_neg h
structure Sst where
  h : HS
  b : BS
  mv : Option Nat
section
variable (A : Sg) (pr : Li → Mo)
def better (h : HS) (l : Li) (f : Mo) : Bool := match h l.hd with
  | none => true
  | some b => decide (wlt (rk A f) (rk A b))
def relax (s : Sst) (l : Li) : Sst := match s.h l.tl with
  | none => s
  | some a => if better A s.h l (madd a (pr l)) then ⟨upf s.h l.hd (some (madd a (pr l))), upf s.b l.hd (some l), some l.hd⟩ else s
def rnd (ls : List Li) (s : Sst) : Sst := ls.foldl (relax A pr) ⟨s.h, s.b, none⟩
def itr (ls : List Li) (s : Sst) : Nat → Sst
  | 0 => s
  | n + 1 => rnd A pr ls (itr ls s n)
end
/-- h' is nowhere above h -/
def Fall (A : Sg) (h' h : HS) : Prop := ∀ v a, h v = some a → ∃ b, h' v = some b ∧ wle (rk A b) (rk A a)
theorem Fall.refl {A : Sg} (h : HS) : Fall A h h := fun _ a e => ⟨a, e, wle_refl _⟩
theorem Fall.trans {A : Sg} {h1 h2 h3 : HS} (a : Fall A h1 h2) (b : Fall A h2 h3) : Fall A h1 h3 := fun v x e => by
  obtain ⟨y, e1, l1⟩ := b v x e
  obtain ⟨z, e2, l2⟩ := a v y e1
  exact ⟨z, e2, wle_trans l2 l1⟩
section
variable {A : Sg} {pr : Li → Mo} {ls : List Li} {h0 : HS}
theorem relax_cases (s : Sst) (l : Li) : relax A pr s l = s ∨ ∃ a, s.h l.tl = some a ∧ (∀ b, s.h l.hd = some b → wlt (madd (rk A a) (rk A (pr l))) (rk A b)) ∧
    relax A pr s l = ⟨upf s.h l.hd (some (madd a (pr l))), upf s.b l.hd (some l), some l.hd⟩ := by
  unfold relax
  cases e : s.h l.tl with
  | none => exact .inl rfl
  | some a =>
    dsimp only
    cases hb : better A s.h l (madd a (pr l)) with
    | false => exact .inl (if_neg Bool.false_ne_true)
    | true =>
      refine .inr ⟨a, rfl, fun b eb => ?_, if_pos rfl⟩
      unfold better at hb
      rw [eb] at hb
      have := of_decide_eq_true hb
      rwa [rk_add] at this
theorem relax_fall (s : Sst) (l : Li) : Fall A (relax A pr s l).h s.h := by
  rcases relax_cases (A := A) (pr := pr) s l with e | ⟨a, e1, e2, e⟩
  · rw [e]; exact .refl _
  · rw [e]
    intro v b hv
    by_cases q : v = l.hd
    · subst q
      exact ⟨_, upf_same, by rw [rk_add]; exact wle_of_lt (e2 b hv)⟩
    · exact ⟨b, by rw [← hv]; exact upf_ne q, wle_refl _⟩
/-- behind a link its head is no higher than it should be -/
theorem relax_ok (s : Sst) (l : Li) {a : Mo} (h : s.h l.tl = some a) : ∃ b, (relax A pr s l).h l.hd = some b ∧ wle (rk A b) (madd (rk A a) (rk A (pr l))) := by
  unfold relax
  rw [h]
  dsimp only
  split
  · exact ⟨_, upf_same, by rw [rk_add]; exact wle_refl _⟩
  · rename_i hb
    unfold better at hb
    cases e : s.h l.hd with
    | none => rw [e] at hb; exact (hb rfl).elim
    | some b =>
      rw [e] at hb
      have : ¬ wlt (rk A (madd a (pr l))) (rk A b) := fun z => hb (decide_eq_true z)
      rw [rk_add] at this
      exact ⟨b, rfl, wle_of_not this⟩
theorem fold_fall : ∀ (ls : List Li) (s : Sst), Fall A (ls.foldl (relax A pr) s).h s.h
  | [], s => .refl _
  | l :: ls, s => (fold_fall ls (relax A pr s l)).trans (relax_fall s l)
theorem fold_ok : ∀ (ls : List Li) (s : Sst) {l : Li} {a : Mo}, l ∈ ls → s.h l.tl = some a → ∃ b, (ls.foldl (relax A pr) s).h l.hd = some b ∧ wle (rk A b) (madd (rk A a) (rk A (pr l)))
  | m :: ls, s, l, a, hm, h => by
    rcases List.mem_cons.mp hm with e | e
    · subst e
      obtain ⟨b, h1, h2⟩ := relax_ok (A := A) (pr := pr) s l h
      obtain ⟨c, h3, h4⟩ := fold_fall (A := A) (pr := pr) ls (relax A pr s l) _ _ h1
      exact ⟨c, h3, wle_trans h4 h2⟩
    · obtain ⟨a', h1, h2⟩ := relax_fall (A := A) (pr := pr) s m _ _ h
      obtain ⟨b, h3, h4⟩ := fold_ok ls (relax A pr s m) e h1
      exact ⟨b, h3, wle_trans h4 (wle_add _ h2)⟩
theorem rnd_fall (ls : List Li) (s : Sst) : Fall A (rnd A pr ls s).h s.h := fold_fall ls ⟨s.h, s.b, none⟩
theorem itr_fall (ls : List Li) (s : Sst) : ∀ n, Fall A (itr A pr ls s n).h s.h
  | 0 => .refl _
  | n + 1 => (rnd_fall ls _).trans (itr_fall ls s n)
inductive Wk (A : Sg) (pr : Li → Mo) (ls : List Li) (h0 : HS) : Nat → Nat → Mo → Prop
  | nil {r : Nat} {a : Mo} : h0 r = some a → Wk A pr ls h0 0 r (rk A a)
  | cons {k : Nat} {l : Li} {w : Mo} : Wk A pr ls h0 k l.tl w → l ∈ ls → Wk A pr ls h0 (k + 1) l.hd (madd w (rk A (pr l)))
theorem itr_walk {s : Sst} {k v : Nat} {w : Mo} (h : Wk A pr ls s.h k v w) : ∀ {n : Nat}, k ≤ n → ∃ b, (itr A pr ls s n).h v = some b ∧ wle (rk A b) w := by
  induction h with
  | nil e => intro n _; exact itr_fall ls s n _ _ e
  | @cons k l w hw hl ih =>
    intro n hk
    cases n with
    | zero => omega
    | succ n =>
      obtain ⟨b, h1, h2⟩ := ih (n := n) (by omega)
      obtain ⟨c, h3, h4⟩ := fold_ok (A := A) (pr := pr) ls ⟨(itr A pr ls s n).h, (itr A pr ls s n).b, none⟩ hl h1
      exact ⟨c, h3, wle_trans h4 (wle_add _ h2)⟩
structure BI (A : Sg) (pr : Li → Mo) (ls : List Li) (h0 : HS) (s : Sst) : Prop where
  lk : ∀ v l, s.b v = some l → l ∈ ls ∧ l.hd = v ∧ ∃ a b, s.h l.tl = some a ∧ s.h v = some b ∧ wle (madd (rk A a) (rk A (pr l))) (rk A b)
  no : ∀ v, s.b v = none → s.h v = h0 v
theorem BI.relax {s : Sst} (i : BI A pr ls h0 s) {l : Li} (hl : l ∈ ls) : BI A pr ls h0 (relax A pr s l) := by
  rcases relax_cases (A := A) (pr := pr) s l with e | ⟨a, e1, e2, e⟩
  · rw [e]; exact i
  · rw [e]
    refine ⟨fun v m hm => ?_, fun v hv => ?_⟩
    · have fal := relax_fall (A := A) (pr := pr) s l
      rw [e] at fal
      by_cases q : v = l.hd
      · subst q
        obtain rfl : l = m := Option.some.inj (upf_same.symm.trans hm)
        obtain ⟨a', h1, h2⟩ := fal _ _ e1
        exact ⟨hl, rfl, a', _, h1, upf_same, by rw [rk_add]; exact wle_add _ h2⟩
      · have hm' : s.b v = some m := (upf_ne q).symm.trans hm
        obtain ⟨h1, h2, x, y, h3, h4, h5⟩ := i.lk v m hm'
        obtain ⟨x', h6, h7⟩ := fal _ _ h3
        exact ⟨h1, h2, x', y, h6, (upf_ne q).trans h4, wle_trans (wle_add _ h7) h5⟩
    · by_cases q : v = l.hd
      · subst q
        exact absurd (upf_same.symm.trans hv) (fun z => by cases z)
      · exact (upf_ne q).trans (i.no v ((upf_ne q).symm.trans hv))
theorem BI.fold : ∀ (ms : List Li) {s : Sst}, BI A pr ls h0 s → (∀ l ∈ ms, l ∈ ls) → BI A pr ls h0 (ms.foldl (MV.relax A pr) s)
  | [], _, i, _ => i
  | m :: ms, _, i, h => BI.fold ms (i.relax (h m (by simp))) fun l q => h l (by simp [q])
theorem BI.mv {s : Sst} {m : Option Nat} (i : BI A pr ls h0 s) : BI A pr ls h0 ⟨s.h, s.b, m⟩ := ⟨i.lk, i.no⟩
theorem BI.itr {s : Sst} (i : BI A pr ls h0 s) : ∀ n, BI A pr ls h0 (MV.itr A pr ls s n)
  | 0 => i
  | n + 1 => BI.fold ls (BI.mv (BI.itr i n)) fun _ h => h
/-- so many steps back -/
def upb (b : BS) : Nat → Nat → Option Nat
  | 0, v => some v
  | k + 1, v => (b v).bind fun l => upb b k l.tl
theorem BI.root {s : Sst} (i : BI A pr ls h0 s) : ∀ {k v r : Nat} {c : Mo}, upb s.b k v = some r → s.b r = none → s.h v = some c → ∃ w, Wk A pr ls h0 k v w ∧ wle w (rk A c)
  | 0, v, r, c, h, hr, hv => by
    obtain rfl : v = r := Option.some.inj h
    exact ⟨_, .nil ((i.no v hr).symm.trans hv), wle_refl _⟩
  | k + 1, v, r, c, h, hr, hv => by
    unfold upb at h
    cases e : s.b v with
    | none => rw [e] at h; cases h
    | some l =>
      rw [e] at h
      obtain ⟨h1, h2, x, y, h3, h4, h5⟩ := i.lk v l e
      obtain ⟨w, g1, g2⟩ := BI.root i (k := k) (v := l.tl) h hr h3
      rw [hv] at h4
      obtain rfl : c = y := Option.some.inj h4
      subst h2
      exact ⟨_, .cons g1 h1, wle_trans (wle_add _ g2) h5⟩
def Less (A : Sg) (h' h : HS) (v : Nat) : Prop := ∃ b, h' v = some b ∧ ∀ a, h v = some a → wlt (rk A b) (rk A a)
theorem fold_moved {h1 : HS} : ∀ (ms : List Li) {s : Sst}, Fall A s.h h1 → (∀ v, s.mv = some v → Less A s.h h1 v) → ∀ v, (ms.foldl (relax A pr) s).mv = some v → Less A (ms.foldl (relax A pr) s).h h1 v
  | [], s, _, hm => hm
  | m :: ms, s, f, hm => by
    refine fold_moved ms ((relax_fall s m).trans f) fun v hv => ?_
    rcases relax_cases (A := A) (pr := pr) s m with e | ⟨a, e1, e2, e⟩
    · rw [e] at hv ⊢; exact hm v hv
    · rw [e] at hv ⊢
      obtain rfl : m.hd = v := Option.some.inj hv
      refine ⟨_, upf_same, fun x hx => ?_⟩
      obtain ⟨y, g1, g2⟩ := f _ _ hx
      rw [rk_add]
      exact wlt_le (e2 y g1) g2
/-- what is moved in the round n + 1 has a way back of n + 1 steps -/
theorem itr_back {s : Sst} (i : BI A pr ls s.h s) {n v : Nat} (h : (itr A pr ls s (n + 1)).mv = some v) : ∀ {k : Nat}, k ≤ n → ∀ {r : Nat}, upb (itr A pr ls s (n + 1)).b k v = some r → (itr A pr ls s (n + 1)).b r ≠ none := by
  intro k hk r hu hr
  obtain ⟨b, h1, h2⟩ := fold_moved (A := A) (pr := pr) (h1 := (itr A pr ls s n).h) ls (s := ⟨(itr A pr ls s n).h, (itr A pr ls s n).b, none⟩) (.refl _) (fun _ z => by cases z) v h
  obtain ⟨w, g1, g2⟩ := (i.itr (n + 1)).root hu hr h1
  obtain ⟨c, g3, g4⟩ := itr_walk (n := n) g1 hk
  exact wlt_irrefl (wlt_le (h2 c g3) (wle_trans g4 g2))
inductive Ch (A : Sg) (pr : Li → Mo) (b : BS) : Nat → Nat → Nat → Mo → Prop
  | nil {v : Nat} : Ch A pr b 0 v v (0, 0)
  | cons {k v u : Nat} {l : Li} {w : Mo} : b v = some l → Ch A pr b k l.tl u w → Ch A pr b (k + 1) v u (madd (rk A (pr l)) w)
theorem Ch.app {b : BS} {k j v u x : Nat} {w z : Mo} (c : Ch A pr b k v u w) (d : Ch A pr b j u x z) : Ch A pr b (k + j) v x (madd w z) := by
  induction c with
  | nil => rw [Nat.zero_add, madd_comm, madd_zero]; exact d
  | @cons k v u l w e c ih =>
    rw [madd_assoc, show k + 1 + j = (k + j) + 1 by omega]
    exact .cons e (ih d)
def Neg (A : Sg) (pr : Li → Mo) (b : BS) : Prop := ∀ k v w, Ch A pr b (k + 1) v v w → wlt w (0, 0)
/-- a chain of new links: old, or through y -/
theorem Ch.split {b : BS} {y : Nat} {l : Li} {k v u : Nat} {w : Mo} (c : Ch A pr (upf b y (some l)) k v u w) : Ch A pr b k v u w ∨ ∃ i j w1 w2, Ch A pr (upf b y (some l)) i v y w1 ∧ Ch A pr (upf b y (some l)) (j + 1) y u w2 ∧ w = madd w1 w2 ∧ k = i + (j + 1) := by
  induction c with
  | nil => exact .inl .nil
  | @cons k v u m w e c ih =>
    by_cases q : v = y
    · subst q
      exact .inr ⟨0, k, (0, 0), _, .nil, .cons e c, (zero_madd _).symm, by omega⟩
    · rcases ih with ih | ⟨i, j, w1, w2, c1, c2, rfl, rfl⟩
      · exact .inl (.cons ((upf_ne q).symm.trans e) ih)
      · exact .inr ⟨i + 1, j, _, w2, .cons e c1, c2, by rw [madd_assoc], by omega⟩
/-- heights ahead of the new link bound a chain to its head -/
theorem Ch.bound {s : Sst} (i : BI A pr ls h0 s) {l : Li} {a : Mo} (ha : s.h l.tl = some a) (hb : ∀ b, s.h l.hd = some b → wlt (madd (rk A a) (rk A (pr l))) (rk A b)) :
    ∀ {k v : Nat} {w c : Mo}, Ch A pr (upf s.b l.hd (some l)) k v l.hd w → s.h v = some c → ∃ d, s.h l.hd = some d ∧ wle (madd w (rk A d)) (rk A c)
  | 0, _, _, c, .nil, hv => ⟨c, hv, by rw [madd_comm, madd_zero]; exact wle_refl _⟩
  | k + 1, v, _, c, .cons (l := m) (w := w) e ch, hv => by
    by_cases q : v = l.hd
    · subst q
      obtain rfl : l = m := Option.some.inj (upf_same.symm.trans e)
      obtain ⟨d, h1, h2⟩ := Ch.bound i ha hb ch ha
      refine ⟨d, h1, ?_⟩
      obtain rfl : c = d := Option.some.inj (hv.symm.trans h1)
      have := hb _ h1
      unfold wle wlt madd at *
      dsimp only at *
      omega
    · obtain ⟨_, g2, x, y, g3, g4, g5⟩ := i.lk v m ((upf_ne q).symm.trans e)
      obtain ⟨d, h1, h2⟩ := Ch.bound i ha hb ch g3
      refine ⟨d, h1, ?_⟩
      obtain rfl : y = c := Option.some.inj (g4.symm.trans hv)
      unfold wle madd at *
      dsimp only at *
      omega
theorem Neg.relax {s : Sst} (i : BI A pr ls h0 s) (g : Neg A pr s.b) {l : Li} : Neg A pr (MV.relax A pr s l).b := by
  rcases relax_cases (A := A) (pr := pr) s l with e | ⟨a, e1, e2, e⟩
  · rw [e]; exact g
  · rw [e]
    show Neg A pr (upf s.b l.hd (some l))
    have at_ : ∀ k w, Ch A pr (upf s.b l.hd (some l)) (k + 1) l.hd l.hd w → wlt w (0, 0) := fun k w c => by
      cases c with
      | @cons _ _ _ m w q c =>
        obtain rfl : l = m := Option.some.inj (upf_same.symm.trans q)
        obtain ⟨d, h1, h2⟩ := Ch.bound i e1 e2 c e1
        have := e2 d h1
        unfold wle wlt madd at *
        dsimp only at *
        omega
    intro k v w c
    rcases c.split with c | ⟨i', j, w1, w2, c1, c2, rfl, hk⟩
    · exact g k v w c
    · have := at_ (j + i') _ (by
        have := c2.app c1
        rw [show j + 1 + i' = j + i' + 1 by omega] at this
        exact this)
      rw [madd_comm]
      exact this
theorem Neg.fold : ∀ (ms : List Li) {s : Sst}, BI A pr ls h0 s → Neg A pr s.b → (∀ l ∈ ms, l ∈ ls) → Neg A pr (ms.foldl (MV.relax A pr) s).b
  | [], _, _, g, _ => g
  | m :: ms, _, i, g, h => Neg.fold ms (i.relax (h m (by simp))) (Neg.relax i g) fun l q => h l (by simp [q])
theorem Neg.itr {s : Sst} (i : BI A pr ls h0 s) (g : Neg A pr s.b) : ∀ n, Neg A pr (MV.itr A pr ls s n).b
  | 0 => g
  | n + 1 => Neg.fold ls (BI.mv (BI.itr i n)) (Neg.itr i g n) fun _ h => h
theorem BI.start {m : Option Nat} : BI A pr ls h0 ⟨h0, fun _ => none, m⟩ := ⟨(fun _ _ h => by cases h), fun _ _ => rfl⟩
theorem Neg.start : Neg A pr (fun _ => none) := fun k v w c => by
  cases c with
  | cons e _ => cases e
/-- where all links are kept by some heights no ring is below nought -/
theorem Ch.kept {b : BS} {g : Nat → Mo} (hk : ∀ v l, b v = some l → l.hd = v ∧ wle (g l.hd) (madd (g l.tl) (rk A (pr l)))) : ∀ {k v u : Nat} {w : Mo}, Ch A pr b k v u w → wle (g v) (madd (g u) w)
  | 0, _, _, _, .nil => by rw [madd_zero]; exact wle_refl _
  | k + 1, v, u, _, .cons (l := l) (w := w) e c => by
    have h1 := Ch.kept hk c
    obtain ⟨h2, h3⟩ := hk v l e
    subst h2
    unfold wle madd at *
    dsimp only at *
    omega
end
end MV

namespace MV
theorem php : ∀ (n : Nat) (f : Nat → Nat), (∀ i, i ≤ n → f i < n) → ∃ i j, i < j ∧ j ≤ n ∧ f i = f j
  | 0, f, h => absurd (h 0 (Nat.le_refl _)) (Nat.not_lt_zero _)
  | n + 1, f, h => by
    by_cases q : ∃ i, i ≤ n ∧ f i = f (n + 1)
    · obtain ⟨i, h1, h2⟩ := q
      exact ⟨i, n + 1, by omega, Nat.le_refl _, h2⟩
    · have hne : ∀ i, i ≤ n → f i ≠ f (n + 1) := fun i hi e => q ⟨i, hi, e⟩
      have hc := h (n + 1) (Nat.le_refl _)
      obtain ⟨i, j, h1, h2, h3⟩ := php n (fun i => if f (n + 1) < f i then f i - 1 else f i) (fun i hi => by
        have h4 := h i (by omega)
        have h5 := hne i hi
        split <;> omega)
      refine ⟨i, j, h1, by omega, ?_⟩
      have h4 := hne i (by omega)
      have h5 := hne j (by omega)
      split at h3 <;> split at h3 <;> omega
theorem upb_add (b : BS) : ∀ (i j v : Nat), upb b (i + j) v = (upb b i v).bind (upb b j)
  | 0, j, v => by rw [Nat.zero_add]; rfl
  | i + 1, j, v => by
    rw [show i + 1 + j = (i + j) + 1 by omega]
    show (b v).bind (fun l => upb b (i + j) l.tl) = ((b v).bind fun l => upb b i l.tl).bind (upb b j)
    cases b v with
    | none => rfl
    | some l => exact upb_add b i j l.tl
/-- so many steps back go below n, all along -/
theorem upb_all {b : BS} {n v : Nat} (hb : ∀ x l, b x = some l → l.tl < n) (hv : v < n) : ∀ {m : Nat}, (∀ k, k < m → ∀ r, upb b k v = some r → b r ≠ none) → ∃ x, upb b m v = some x ∧ x < n
  | 0, _ => ⟨v, rfl, hv⟩
  | m + 1, h => by
    obtain ⟨x, h1, h2⟩ := upb_all hb hv (m := m) fun k hk r hr => h k (by omega) r hr
    have h3 := h m (by omega) x h1
    cases e : b x with
    | none => exact (h3 e).elim
    | some l =>
      refine ⟨l.tl, ?_, hb x l e⟩
      rw [upb_add b m 1 v, h1]
      show (b x).bind (fun l => some l.tl) = some l.tl
      rw [e]; rfl
/-- behind n steps back one stands on a ring -/
theorem upb_ring {b : BS} {n v : Nat} (hb : ∀ x l, b x = some l → l.tl < n) (hv : v < n) (h : ∀ k, k < n → ∀ r, upb b k v = some r → b r ≠ none) : ∃ y p, upb b n v = some y ∧ y < n ∧ 0 < p ∧ p ≤ n ∧ upb b p y = some y := by
  have all : ∀ m, m ≤ n → ∃ x, upb b m v = some x ∧ x < n := fun m hm => upb_all hb hv fun k hk => h k (by omega)
  obtain ⟨i, j, h1, h2, h3⟩ := php n (fun i => ((upb b i v).getD 0)) fun i hi => by
    obtain ⟨x, e, l⟩ := all i hi
    rw [e]; exact l
  obtain ⟨x, e1, l1⟩ := all i (by omega)
  obtain ⟨x', e2, l2⟩ := all j h2
  rw [e1, e2] at h3
  obtain rfl : x = x' := h3
  obtain ⟨y, e3, l3⟩ := all n (Nat.le_refl _)
  have c1 : upb b (j - i) x = some x := by
    have := upb_add b i (j - i) v
    rw [show i + (j - i) = j by omega, e1, e2] at this
    exact this.symm
  have c2 : upb b (n - i) x = some y := by
    have := upb_add b i (n - i) v
    rw [show i + (n - i) = n by omega, e1, e3] at this
    exact this.symm
  refine ⟨y, j - i, e3, l3, by omega, by omega, ?_⟩
  have d1 := upb_add b (n - i) (j - i) x
  have d2 := upb_add b (j - i) (n - i) x
  rw [c2] at d1
  rw [c1] at d2
  rw [Nat.add_comm, d2] at d1
  exact d1.symm.trans c2
/-- links back from v to u -/
def Bk (b : BS) : Nat → List Li → Nat → Prop
  | v, [], u => v = u
  | v, l :: cs, u => b v = some l ∧ Bk b l.tl cs u
theorem Bk.snoc {b : BS} {l : Li} : ∀ {cs : List Li} {v x : Nat}, Bk b v cs x → b x = some l → Bk b v (cs ++ [l]) l.tl
  | [], v, x, h, e => by
    obtain rfl : v = x := h
    exact ⟨e, rfl⟩
  | _ :: _, _, _, h, e => ⟨h.1, Bk.snoc h.2 e⟩
theorem Bk.up {b : BS} : ∀ {cs : List Li} {v x : Nat}, Bk b v cs x → upb b cs.length v = some x
  | [], v, x, h => congrArg some h
  | l :: cs, v, x, h => by
    show (b v).bind _ = _
    rw [h.1]
    exact Bk.up h.2
def bsum (A : Sg) (pr : Li → Mo) : List Li → Mo
  | [] => (0, 0)
  | l :: cs => madd (rk A (pr l)) (bsum A pr cs)
theorem Bk.ch {A : Sg} {pr : Li → Mo} {b : BS} : ∀ {cs : List Li} {v u : Nat}, Bk b v cs u → Ch A pr b cs.length v u (bsum A pr cs)
  | [], v, u, h => by
    obtain rfl : v = u := h
    exact .nil
  | _ :: _, _, _, h => .cons h.1 (Bk.ch h.2)
structure Arc where
  tl : Nat
  hd : Nat
  room : Option Mo
  price : Mo
def prL (arcs : List Arc) (l : Li) : Mo := match arcs[l.k]? with
  | some a => if l.fw then a.price else mneg a.price
  | none => (0, 0)
def openFrom : Nat → List Arc → List Li
  | _, [] => []
  | k, a :: as => if a.room = none then ⟨a.tl, a.hd, k, true⟩ :: openFrom (k + 1) as else openFrom (k + 1) as
def openL (arcs : List Arc) : List Li := openFrom 0 arcs
theorem mem_openFrom : ∀ {as : List Arc} {k : Nat} {l : Li}, l ∈ openFrom k as ↔ ∃ j a, as[j]? = some a ∧ a.room = none ∧ l = ⟨a.tl, a.hd, k + j, true⟩
  | [], k, l => by simp [openFrom]
  | a :: as, k, l => by
    have ih := mem_openFrom (as := as) (k := k + 1) (l := l)
    have key : (∃ j b, (a :: as)[j]? = some b ∧ b.room = none ∧ l = ⟨b.tl, b.hd, k + j, true⟩) ↔ ((a.room = none ∧ l = ⟨a.tl, a.hd, k, true⟩) ∨ ∃ j b, as[j]? = some b ∧ b.room = none ∧ l = ⟨b.tl, b.hd, k + 1 + j, true⟩) := by
      constructor
      · rintro ⟨j, b, h1, h2, h3⟩
        cases j with
        | zero =>
          obtain rfl : a = b := Option.some.inj h1
          exact .inl ⟨h2, h3⟩
        | succ j => exact .inr ⟨j, b, h1, h2, by rw [h3, show k + (j + 1) = k + 1 + j by omega]⟩
      · rintro (⟨h1, h2⟩ | ⟨j, b, h1, h2, h3⟩)
        · exact ⟨0, a, rfl, h1, h2⟩
        · exact ⟨j + 1, b, h1, h2, by rw [h3, show k + (j + 1) = k + 1 + j by omega]⟩
    unfold openFrom
    rw [key]
    by_cases q : a.room = none
    · rw [if_pos q, List.mem_cons, ih]
      simp [q]
    · rw [if_neg q, ih]
      simp [q]
theorem mem_openL {arcs : List Arc} {l : Li} : l ∈ openL arcs ↔ ∃ a, arcs[l.k]? = some a ∧ a.room = none ∧ l.tl = a.tl ∧ l.hd = a.hd ∧ l.fw = true := by
  unfold openL
  rw [mem_openFrom]
  constructor
  · rintro ⟨j, a, h1, h2, rfl⟩
    exact ⟨a, by simpa using h1, h2, rfl, rfl, rfl⟩
  · rintro ⟨a, h1, h2, h3, h4, h5⟩
    refine ⟨l.k, a, h1, h2, ?_⟩
    obtain ⟨t, h, k, f⟩ := l
    simp only at h3 h4 h5
    subst h3 h4 h5
    simp
/-- arcs by their numbers lead from u to v -/
def Pth (arcs : List Arc) : Nat → List Nat → Nat → Prop
  | u, [], v => u = v
  | u, k :: R, v => ∃ a, arcs[k]? = some a ∧ a.room = none ∧ a.tl = u ∧ Pth arcs a.hd R v
theorem Pth.app {arcs : List Arc} : ∀ {R S : List Nat} {u v x : Nat}, Pth arcs u R v → Pth arcs v S x → Pth arcs u (R ++ S) x
  | [], _, u, v, _, h, k => by
    obtain rfl : u = v := h
    exact k
  | _ :: _, _, _, _, _, ⟨a, h1, h2, h3, h4⟩, k => ⟨a, h1, h2, h3, Pth.app h4 k⟩
theorem Bk.pth {arcs : List Arc} {b : BS} (hb : ∀ v l, b v = some l → l ∈ openL arcs ∧ l.hd = v) : ∀ {cs : List Li} {v u : Nat}, Bk b v cs u → Pth arcs u (cs.map (·.k)).reverse v
  | [], v, u, h => Eq.symm h
  | l :: cs, v, u, h => by
    rw [List.map_cons, List.reverse_cons]
    obtain ⟨h1, h2⟩ := hb v l h.1
    obtain ⟨a, g1, g2, g3, g4, _⟩ := mem_openL.mp h1
    exact Pth.app (Bk.pth hb h.2) ⟨a, g1, g2, g3.symm, by rw [← g4]; exact h2⟩
def arcSum (A : Sg) (arcs : List Arc) : List Nat → Mo
  | [] => (0, 0)
  | k :: R => madd (rk A (prL arcs ⟨0, 0, k, true⟩)) (arcSum A arcs R)
theorem arcSum_app (A : Sg) (arcs : List Arc) : ∀ (R S : List Nat), arcSum A arcs (R ++ S) = madd (arcSum A arcs R) (arcSum A arcs S)
  | [], S => by rw [List.nil_append, arcSum, madd_comm, madd_zero]
  | k :: R, S => by rw [List.cons_append, arcSum, arcSum_app A arcs R S, arcSum, madd_assoc]
theorem arcSum_rev (A : Sg) (arcs : List Arc) : ∀ (R : List Nat), arcSum A arcs R.reverse = arcSum A arcs R
  | [] => rfl
  | k :: R => by rw [List.reverse_cons, arcSum_app, arcSum_rev A arcs R, arcSum, arcSum, arcSum, madd_zero, madd_comm]
theorem wsum_arc (A : Sg) (arcs : List Arc) : ∀ {cs : List Li}, (∀ l ∈ cs, l.fw = true) → bsum A (prL arcs) cs = arcSum A arcs (cs.map (·.k))
  | [], _ => rfl
  | l :: cs, h => by
    rw [bsum, List.map_cons, arcSum, wsum_arc A arcs fun m hm => h m (by simp [hm])]
    have : prL arcs l = prL arcs ⟨0, 0, l.k, true⟩ := by
      unfold prL
      rw [h l (by simp)]
    rw [this]
/-- a ring of open arcs below nought -/
structure RingOk (A : Sg) (arcs : List Arc) (R : List Nat) : Prop where
  ne : R ≠ []
  cl : ∃ y, Pth arcs y R y
  neg : wlt (arcSum A arcs R) (0, 0)
theorem ring_ok {A : Sg} {arcs : List Arc} {b : BS} (hb : ∀ v l, b v = some l → l ∈ openL arcs ∧ l.hd = v) (g : Neg A (prL arcs) b) {cs : List Li} {y : Nat} (h : Bk b y cs y) (hn : cs ≠ []) : RingOk A arcs (cs.map (·.k)).reverse := by
  refine ⟨by simpa using hn, ⟨y, Bk.pth hb h⟩, ?_⟩
  have hf : ∀ {cs : List Li} {v : Nat}, Bk b v cs y → ∀ l ∈ cs, l.fw = true := fun {cs} => by
    induction cs with
    | nil => intro v _ l hl; cases hl
    | cons m cs ih =>
      intro v h l hl
      rcases List.mem_cons.mp hl with e | e
      · subst e
        obtain ⟨a, _, _, _, _, g5⟩ := mem_openL.mp (hb _ _ h.1).1
        exact g5
      · exact ih h.2 l e
  rw [arcSum_rev, ← wsum_arc A arcs (hf h)]
  cases cs with
  | nil => exact (hn rfl).elim
  | cons l cs => exact g cs.length y _ (Bk.ch h)
end MV

namespace Prf
def liD (l : Li) : D := .tup [.int (l.tl : Nat), .int (l.hd : Nat), .int (l.k : Nat), .bl l.fw]
def olD : Option Li → D
  | none => .non
  | some l => liD l
def onD : Option Nat → D
  | none => .non
  | some v => .int (v : Nat)
def arcD (a : Arc) : D := .tup [.int (a.tl : Nat), .int (a.hd : Nat), omD a.room, pD a.price]
def hsD (n : Nat) (h : HS) : List D := (List.range n).map fun v => omD (h v)
def bsD (n : Nat) (b : BS) : List D := (List.range n).map fun v => olD (b v)
def sg (t : Rat) (ah : Bool) : Sg := ⟨t.num, t.den, ah⟩
theorem map_upf {α : Type} {n j : Nat} {f : Nat → α} {x : α} {g : α → D} (h : j < n) : ((List.range n).map fun v => g (f v)).set j (g x) = (List.range n).map fun v => g (upf f j x v) := by
  apply List.ext_getElem?
  intro i
  rw [List.getElem?_set, List.getElem?_map, List.getElem?_map]
  by_cases q : j = i
  · subst q
    rw [if_pos rfl, if_pos (by simpa using h), List.getElem?_range h]
    simp [upf_same]
  · rw [if_neg q]
    by_cases hi : i < n
    · rw [List.getElem?_range hi]
      simp [upf_ne (f := f) (x := x) (Ne.symm q)]
    · rw [List.getElem?_eq_none (by simp; omega)]; rfl
theorem hs_at {n v : Nat} {h : HS} (hv : v < n) : atI (hsD n h) (v : Int) = some (omD (h v)) := by
  rw [atI_n]; unfold hsD
  rw [List.getElem?_map, List.getElem?_range hv]; rfl
theorem bs_at {n v : Nat} {b : BS} (hv : v < n) : atI (bsD n b) (v : Int) = some (olD (b v)) := by
  rw [atI_n]; unfold bsD
  rw [List.getElem?_map, List.getElem?_range hv]; rfl
theorem arc_at {arcs : List Arc} {k : Nat} {a : Arc} (h : arcs[k]? = some a) : atI (arcs.map arcD) (k : Int) = some (arcD a) := by
  rw [atI_n, List.getElem?_map, h]; rfl
section
variable {M : Mem} {Q : DK} {X : XM}
theorem add_S {x y : Int × Int} (h : Q (pD (madd x y)) M) : w_add [pD x, pD y] M Q X := by
  unfold w_add wOf
  rw [show startE N_add [pD x, pD y] = [some (pD x), some (pD y)] from rfl]
  unfold m_add
  walk_at "ml"
  exact h
theorem turned_S {x : Int × Int} (h : Q (pD (mneg x)) M) : w_turned [pD x] M Q X := by
  unfold w_turned wOf
  rw [show startE N_turned [pD x] = [some (pD x)] from rfl]
  unfold m_turned
  walk_at "ml"
  exact h
theorem rank_S {m : Int × Int} {t : Rat} {ah : Bool} (hn : t.num.natAbs < 2 ^ 64) (hd : t.den < 2 ^ 64) (h : Q (pD (rk (sg t ah) m)) M) : w_rank [pD m, qD t, .bl ah] M Q X := by
  unfold w_rank wOf
  rw [show startE N_rank [pD m, qD t, .bl ah] = [some (pD m), some (qD t), some (.bl ah)] from rfl]
  unfold m_rank
  walk_at "ml"
  refine o_q1 ?_
  refine o_mul (mul_ok (by omega)) ?_
  walk_at "ml"
  refine o_q0 ?_
  refine o_mul (mul_ok (by omega)) ?_
  walk_at "ml"
  have key : ∀ z : Int, (z = if ah then m.2 else 0) → D.tup [.int (m.1 * (t.den : Int) + m.2 * t.num), .int z] = pD (rk (sg t ah) m) := fun z e => by subst e; rfl
  refine if_b (fun e => ?_) (fun e => ?_)
  · walk_at "ml"
    rw [key _ (by rw [e, if_pos rfl])]
    exact h
  · walk_at "ml"
    rw [key _ (by rw [e, if_neg Bool.false_ne_true])]
    exact h
theorem step_price_S {pa : Nat} {arcs : List Arc} {l : Li} {a : Arc} (ga : M[pa]? = some (.lst (arcs.map arcD))) (hk : arcs[l.k]? = some a) (h : Q (pD (prL arcs l)) M) : w_step_price [.ref pa, liD l] M Q X := by
  unfold w_step_price wOf
  rw [show startE N_step_price [.ref pa, liD l] = [some (.ref pa), some (liD l), none] from rfl]
  unfold m_step_price
  walk_at "sx"
  walk_at "sx"
  refine x_op (x_op (x_var rfl (x_op (x_var rfl (x_c (o_ixT (v := .int (l.k : Nat)) rfl (o_ixL ga (arc_at hk) (x_c (o_ixT (v := pD a.price) rfl ?_)))))))))
  have e : prL arcs l = if l.fw then a.price else mneg a.price := by unfold prL; rw [hk]
  walk_at "sx"
  refine x_ifE (x_tru (x_op ?_))
  refine x_var rfl (x_c ?_)
  refine o_ixT (v := .bl l.fw) rfl ?_
  refine o_truB ?_
  refine if_b (fun q => ?_) (fun q => ?_)
  · refine x_var rfl ?_
    rw [e, q, if_pos rfl] at h
    exact h
  · walk_at "ml"
    refine turned_S ?_
    rw [e, q, if_neg Bool.false_ne_true] at h
    exact h
end
end Prf

namespace Prf
/-- a link between nodes below n, of an arc that is there -/
def LiOk (n : Nat) (arcs : List Arc) (l : Li) : Prop := l.tl < n ∧ l.hd < n ∧ ∃ a, arcs[l.k]? = some a
def Se2 (t : Rat) : Prop := t.num.natAbs < 2 ^ 64 ∧ t.den < 2 ^ 64
theorem ltP_wlt {a b : Int × Int} : ltP a.1 a.2 b.1 b.2 = decide (wlt a b) := rfl
theorem relax_none {A : Sg} {pr : Li → Mo} {s : Sst} {l : Li} (e : s.h l.tl = none) : relax A pr s l = s := by unfold relax; rw [e]
theorem relax_some {A : Sg} {pr : Li → Mo} {s : Sst} {l : Li} {a : Mo} (e : s.h l.tl = some a) : relax A pr s l = if better A s.h l (madd a (pr l)) then ⟨upf s.h l.hd (some (madd a (pr l))), upf s.b l.hd (some l), some l.hd⟩ else s := by unfold relax; rw [e]
theorem l_settled {M : Mem} {Q : DK} {X : XM} {ph pl pa n : Nat} {t : Rat} {ah : Bool} {h0 : HS} {ls : List Li} {arcs : List Arc} (ht : Se2 t) (hn : n ≤ 1000) (gh : M[ph]? = some (.lst (hsD n h0))) (gl : M[pl]? = some (.lst (ls.map liD))) (ga : M[pa]? = some (.lst (arcs.map arcD))) (hl : ∀ l ∈ ls, LiOk n arcs l) (hll : ls.length ≤ 100000)
    (k : ∀ M' y1 y2 m s, Kp [] M M' → M.length ≤ y1 → M.length ≤ y2 → s = itr (sg t ah) (prL arcs) ls ⟨h0, fun _ => none, none⟩ m → m ≤ n → (s.mv ≠ none → m = n) → (m = 0 → n = 0) → M'[y1]? = some (.lst (hsD n s.h)) → M'[y2]? = some (.lst (bsD n s.b)) → Q (.tup [.ref y1, .ref y2, onD s.mv]) M') :
    w_settled [.ref ph, .ref pl, .ref pa, qD t, .bl ah] M Q X := by
  unfold w_settled wOf
  rw [show startE N_settled [.ref ph, .ref pl, .ref pa, qD t, .bl ah] = [some (.ref ph), some (.ref pl), some (.ref pa), some (qD t), some (.bl ah), none, none, none, none, none, none, none, none] from rfl]
  unfold m_settled
  walk_at "sx"
  walk_at "sx"
  walk_at "mq"
  have k1 : Kp [] M (M ++ [O.lst (hsD n h0)]) := .app
  have g1 : (M ++ [O.lst (hsD n h0)])[M.length]? = some (.lst (hsD n h0)) := mnew
  generalize hy1 : M.length = y1 at *
  generalize M ++ [O.lst (hsD n h0)] = M1 at *
  dsimp only
  walk_at "sx"
  walk_at "sx"
  walk_at "mq"
  have k2 : Kp [] M1 (M1 ++ [O.lst []]) := .app
  refine lc_ix (fun j acc M' => acc = List.replicate j D.non ∧ Kp [] M1 M') (fun _ _ _ h => h.2.at_ _ _ (by simp) g1) ?_ ?_ (by unfold hsD; simp; omega) mnew ⟨rfl, .app⟩
  · rintro j d acc M' K' hd hM ⟨rfl, k'⟩ hK
    refine x_c (hK _ _ hM ⟨by rw [List.replicate_succ'], ?_⟩)
    exact k'.setNew (Nat.le_refl _)
  rintro acc M2 hM ⟨rfl, k3⟩
  have lt2 := mlt hM
  have e1 := mlt g1
  have eb : List.replicate (hsD n h0).length D.non = bsD n (fun _ => none) := by
    unfold bsD hsD
    rw [List.length_map, List.length_range]
    apply List.ext_getElem?
    intro i
    by_cases hi : i < n
    · simp [hi, olD]
    · simp [hi]
  rw [eb] at hM
  have g1' := k3.at_ _ _ (by simp) g1
  have gl' := (k1.trans k3).at_ _ _ (by simp) gl
  have ga' := (k1.trans k3).at_ _ _ (by simp) ga
  have kk := k1.trans k3
  have ly2 : y1 ≤ M1.length := by omega
  have hne : y1 ≠ M1.length := by omega
  generalize hy2 : M1.length = y2 at *
  dsimp only
  walk_at "sx"
  walk_at "sx"
  walk_at "mq"
  have ltl := mlt gl
  have lta := mlt ga
  have lenh : (hsD n h0).length = n := by simp [hsD]
  let s0 : Sst := ⟨h0, fun _ => none, none⟩
  with_reducible refine x_join (fun ρ M' => ∃ m s, (∃ o8 o9 o10 o11 o12, ρ = [some (.ref y1), some (.ref pl), some (.ref pa), some (qD t), some (.bl ah), some (.ref y2), none, some (onD s.mv), o8, o9, o10, o11, o12]) ∧ s = itr (sg t ah) (prL arcs) ls s0 m ∧ m ≤ n ∧ (s.mv ≠ none → m = n) ∧ (m = 0 → n = 0) ∧ Kp [] M M' ∧ M'[y1]? = some (.lst (hsD n s.h)) ∧ M'[y2]? = some (.lst (bsD n s.b))) ?_ ?_
  · intro K hK
    walk_at "sx"
    walk_at "mq"
    rw [lenh]
    refine ⟨by omega, ?_⟩
    rw [show ((n : Nat) : Int).toNat = n by omega]
    refine for_ix (fun i ρ M' => ∃ s, (∃ o8 o9 o10 o11 o12, ρ = [some (.ref y1), some (.ref pl), some (.ref pa), some (qD t), some (.bl ah), some (.ref y2), none, some (onD s.mv), o8, o9, o10, o11, o12]) ∧ s = itr (sg t ah) (prL arcs) ls s0 i ∧ (i ≠ 0 → s.mv ≠ none) ∧ Kp [] M M' ∧ M'[y1]? = some (.lst (hsD n s.h)) ∧ M'[y2]? = some (.lst (bsD n s.b))) (fun _ _ _ _ => trivial) ?_ ?_ ⟨s0, ⟨_, _, _, _, _, rfl⟩, rfl, (fun h => (h rfl).elim), kk, g1', hM⟩
    · rintro ρ M' ⟨s, hρ, hs, hm, k', a1, a2⟩
      rw [rng_len] at hs hm
      exact hK _ _ ⟨n, s, hρ, hs, Nat.le_refl _, (fun _ => rfl), (fun h => h), k', a1, a2⟩
    · rintro i d ρ M' K' hd ⟨s, ⟨o8, o9, o10, o11, o12, rfl⟩, hs, hm, k', a1, a2⟩ hK'
      obtain ⟨rfl, hi⟩ := rng_at hd
      refine x_nm ?_
      walk_at "sx"
      walk_at "sx"
      walk_at "mq"
      have gl2 := k'.at_ _ _ (by simp) gl
      have ga2 := k'.at_ _ _ (by simp) ga
      have er : rnd (sg t ah) (prL arcs) ls s = ls.foldl (relax (sg t ah) (prL arcs)) ⟨s.h, s.b, none⟩ := rfl
      have es : rnd (sg t ah) (prL arcs) ls s = itr (sg t ah) (prL arcs) ls s0 (i + 1) := by rw [hs]; rfl
      rw [er] at es
      generalize hS1 : itr (sg t ah) (prL arcs) ls s0 (i + 1) = S1 at *
      with_reducible refine x_join (fun ρ M' => (∃ o8 o9 o10 o11 o12, ρ = [some (.ref y1), some (.ref pl), some (.ref pa), some (qD t), some (.bl ah), some (.ref y2), none, some (onD S1.mv), o8, o9, o10, o11, o12]) ∧ Kp [] M M' ∧ M'[y1]? = some (.lst (hsD n S1.h)) ∧ M'[y2]? = some (.lst (bsD n S1.b))) ?_ ?_
      · intro K2 hK2
        walk_at "sx"
        walk_at "mq"
        refine for_inv (fun l ρ M' => ∃ rest s, l = rest.map liD ∧ (∀ x ∈ rest, x ∈ ls) ∧ rest.foldl (relax (sg t ah) (prL arcs)) s = S1 ∧ (∃ o8 o9 o10 o11 o12, ρ = [some (.ref y1), some (.ref pl), some (.ref pa), some (qD t), some (.bl ah), some (.ref y2), none, some (onD s.mv), o8, o9, o10, o11, o12]) ∧ Kp [] M M' ∧ M'[y1]? = some (.lst (hsD n s.h)) ∧ M'[y2]? = some (.lst (bsD n s.b))) ?_ ?_ ?_ ⟨ls, ⟨s.h, s.b, none⟩, rfl, (fun _ h => h), es, ⟨_, _, _, _, _, rfl⟩, k', a1, a2⟩
        · rintro l ρ M' ⟨rest, s, _, _, _, _, k', _, _⟩
          exact k'.at_ _ _ (by simp) gl
        · rintro ρ M' ⟨rest, s, h1, _, h3, h4, h5, h6, h7⟩
          obtain rfl : rest = [] := by cases rest with | nil => rfl | cons a b => cases h1
          obtain rfl : s = S1 := h3
          exact hK2 _ _ ⟨h4, h5, h6, h7⟩
        · rintro d l ρ M' K3 ⟨rest, s, h1, h2, h3, ⟨p8, p9, p10, p11, p12, rfl⟩, h5, h6, h7⟩ hK3
          cases rest with
          | nil => cases h1
          | cons lk rest =>
            rw [List.map_cons] at h1
            injection h1 with h1 h1'
            subst h1 h1'
            obtain ⟨t1, t2, a, t3⟩ := hl lk (h2 lk (by simp))
            have ga3 := h5.at_ _ _ (by simp) ga
            have hr2 : ∀ x ∈ rest, x ∈ ls := fun x hx => h2 x (by simp [hx])
            rw [List.foldl_cons] at h3
            refine x_nm ?_
            walk_at "sx"
            refine x_par (x_cons (x_op (x_var rfl (x_c (o_ixT (v := .int (lk.tl : Nat)) rfl (x_cons (x_op (x_var rfl (x_c (o_ixT (v := .int (lk.hd : Nat)) rfl (x_nil ?_)))))))))))
            walk_at "sx"
            refine x_ifS (x_b (x_op (x_op (x_var rfl (x_var rfl (o_ixL h6 (hs_at t1) (x_c (o_isN ?_))))))))
            cases e : s.h lk.tl with
            | none =>
              refine if_t ?_
              show K3 _ _
              exact hK3 _ _ ⟨rest, s, rfl, hr2, by rw [relax_none e] at h3; exact h3, ⟨_, _, _, _, _, rfl⟩, h5, h6, h7⟩
            | some av =>
              refine if_f (x_next ?_)
              dsimp only
              walk_at "sx"
              refine x_set (x_call (x_argsP (x_cons (x_op (x_var rfl (x_var rfl (o_ixL h6 (hs_at t1) ?_)))))))
              refine x_cons (x_call (x_argsP (x_cons (x_var rfl (x_cons (x_var rfl (x_nil (x_len rfl rfl ?_))))))))
              refine step_price_S ga3 t3 ?_
              refine x_nil (x_len rfl rfl ?_)
              rw [e]
              refine add_S (x := av) ?_
              rw [relax_some e] at h3
              dsimp only
              refine x_ifS (x_or (x_b (x_op (x_op ?_))))
              refine x_var rfl (x_var rfl (o_ixL h6 (hs_at t2) (x_c (o_isN ?_))))
              have fin : ∀ {ρ : Ev} {M'' : Mem}, better (sg t ah) s.h lk (madd av (prL arcs lk)) = false → ρ = [some (.ref y1), some (.ref pl), some (.ref pa), some (qD t), some (.bl ah), some (.ref y2), none, some (onD s.mv), p8, some (liD lk), some (pD (madd av (prL arcs lk))), some (.int (lk.tl : Nat)), some (.int (lk.hd : Nat))] → M'' = M' → K3 ρ M'' := fun hb e1 e2 => by
                subst e1 e2
                rw [hb, if_neg Bool.false_ne_true] at h3
                exact hK3 _ _ ⟨rest, s, rfl, hr2, h3, ⟨_, _, _, _, _, rfl⟩, h5, h6, h7⟩
              have put : ∀ (rt : DK) (bk ct : Ev → Mem → Prop) (ex : Exn → Ev → Mem → Prop), better (sg t ah) s.h lk (madd av (prL arcs lk)) = true → mSeq (mSetIx (mVar 10) (mVar 0) (mVar 12)) (mSeq (mSetIx (mVar 9) (mVar 5) (mVar 12)) (mSet 7 (mVar 12))) ⟨K3, rt, bk, ct, ex⟩ [some (.ref y1), some (.ref pl), some (.ref pa), some (qD t), some (.bl ah), some (.ref y2), none, some (onD s.mv), p8, some (liD lk), some (pD (madd av (prL arcs lk))), some (.int (lk.tl : Nat)), some (.int (lk.hd : Nat))] M' := fun rt bk ct ex hb => by
                rw [hb, if_pos rfl] at h3
                walk_at "sx"
                refine x_setIx (x_var rfl (x_var rfl (x_var rfl (o_setL h6 (ixN_n (by simpa [hsD] using t2)) ?_))))
                have h6' : (M'.set y1 (.lst ((hsD n s.h).set lk.hd (pD (madd av (prL arcs lk))))))[y1]? = some (.lst (hsD n (upf s.h lk.hd (some (madd av (prL arcs lk)))))) := by
                  rw [msame h6]
                  congr 2
                  exact map_upf (g := omD) (x := some (madd av (prL arcs lk))) t2
                have h7' : (M'.set y1 (.lst ((hsD n s.h).set lk.hd (pD (madd av (prL arcs lk))))))[y2]? = some (.lst (bsD n s.b)) := by
                  rw [List.getElem?_set_ne hne]; exact h7
                have h5' : Kp [] M (M'.set y1 (.lst ((hsD n s.h).set lk.hd (pD (madd av (prL arcs lk)))))) := h5.setNew (by omega)
                generalize M'.set y1 (.lst ((hsD n s.h).set lk.hd (pD (madd av (prL arcs lk))))) = M3 at *
                walk_at "sx"
                refine x_setIx (x_var rfl (x_var rfl (x_var rfl (o_setL h7' (ixN_n (by simpa [bsD] using t2)) ?_))))
                have h7'' : (M3.set y2 (.lst ((bsD n s.b).set lk.hd (liD lk))))[y2]? = some (.lst (bsD n (upf s.b lk.hd (some lk)))) := by
                  rw [msame h7']
                  congr 2
                  exact map_upf (g := olD) (x := some lk) t2
                have h6'' : (M3.set y2 (.lst ((bsD n s.b).set lk.hd (liD lk))))[y1]? = some (.lst (hsD n (upf s.h lk.hd (some (madd av (prL arcs lk)))))) := by
                  rw [List.getElem?_set_ne (Ne.symm hne)]; exact h6'
                have h5'' : Kp [] M (M3.set y2 (.lst ((bsD n s.b).set lk.hd (liD lk)))) := h5'.setNew (by omega)
                generalize M3.set y2 (.lst ((bsD n s.b).set lk.hd (liD lk))) = M4 at *
                dsimp only
                refine x_set (x_var rfl ?_)
                exact hK3 _ _ ⟨rest, _, rfl, hr2, h3, ⟨_, _, _, _, _, rfl⟩, h5'', h6'', h7''⟩
              cases e2 : s.h lk.hd with
              | none =>
                refine if_t (if_t ?_)
                exact put _ _ _ _ (by unfold better; rw [e2])
              | some bv =>
                refine if_f (x_b (x_op ?_))
                refine x_call (x_argsP (x_cons ?_))
                refine x_var rfl (x_cons (x_var rfl (x_cons (x_var rfl (x_nil (x_len rfl rfl ?_))))))
                refine rank_S ht.1 ht.2 ?_
                refine x_call (x_argsP (x_cons (x_op (x_var rfl (x_var rfl (o_ixL h6 (hs_at t2) (x_cons (x_var rfl (x_cons (x_var rfl (x_nil (x_len rfl rfl ?_))))))))))))
                rw [e2]
                refine rank_S (m := bv) ht.1 ht.2 ?_
                refine o_ltP ?_
                rw [ltP_wlt]
                have eb : better (sg t ah) s.h lk (madd av (prL arcs lk)) = decide (wlt (rk (sg t ah) (madd av (prL arcs lk))) (rk (sg t ah) bv)) := by unfold better; rw [e2]
                rw [← eb]
                refine if_b (fun q => put _ _ _ _ q) (fun q => x_next (fin q rfl rfl))
      · rintro ρ M' ⟨⟨o8, o9, o10, o11, o12, rfl⟩, b1, b2, b3⟩
        refine x_ifS (x_b (x_op (x_var rfl (x_c (o_isN ?_)))))
        have hS := hS1.symm
        cases e : S1.mv with
        | none =>
          refine if_t ?_
          show K _ _
          exact hK _ _ ⟨i + 1, S1, ⟨_, _, _, _, _, by rw [e]⟩, (by first | exact hS | rfl), by omega, (fun h => (h e).elim), (fun h => by omega), b1, b2, b3⟩
        | some v =>
          refine if_f (x_next ?_)
          exact hK' _ _ ⟨S1, ⟨_, _, _, _, _, by rw [e]⟩, rfl, (fun _ => by rw [e]; simp), b1, b2, b3⟩
  · rintro ρ M' ⟨m, s, ⟨o8, o9, o10, o11, o12, rfl⟩, hs, hm, h1, h2, h3, h4, h5⟩
    refine x_ret (x_cb (x_cons (x_var rfl (x_cons (x_var rfl (x_cons (x_var rfl (x_nil ?_))))))))
    refine o_tup (Nat.le_of_ble_eq_true rfl) ?_
    exact k M' y1 y2 m s h3 (by omega) (by omega) hs hm h1 h2 h4 h5
end Prf

namespace Prf
theorem lc_filt {α : Type} {guard : Mem → Prop} {T : Tg} {tt : MT} {me : ME} {ρ : Ev} {n : Nat} {Q : Mem → Prop} {f g : α → D} {p : α → Bool} (I : Mem → Prop) (hI : ∀ M o, I M → I (M.set n o)) (hg : ∀ M, I M → guard M)
    (hs : ∀ (x : α) (M : Mem) (K : DK) (K0 : Mem → Prop), I M → (p x = true → K (g x) M) → (p x = false → K0 M) → T.mg (f x) ρ M fun ρ2 => tt ρ2 M (fun b M3 => if b = true then me ρ2 M3 K noX else K0 M3) noX) :
    ∀ (l : List α) (acc : List D) (M : Mem), M[n]? = some (.lst acc) → acc.length + l.length < 16000000 → I M → (∀ M', I M' → Kp [n] M M' → M'[n]? = some (.lst (acc ++ (l.filter p).map g)) → Q M') → mLcL guard T tt me ρ n Q (l.map f) M
  | [], acc, M, hn, _, hi, q => ⟨hg M hi, q M hi .refl (by simpa using hn)⟩
  | x :: l, acc, M, hn, hl, hi, q => by
    rw [List.length_cons] at hl
    refine ⟨hg M hi, hs x M _ _ hi (fun hp => ?_) (fun hp => ?_)⟩
    · rw [hn]
      refine ⟨by omega, lc_filt I hI hg hs l (acc ++ [g x]) _ (msame hn) (by simp; omega) (hI _ _ hi) fun M' i' k' h' => ?_⟩
      refine q M' i' ((Kp.set (by simp)).trans k') ?_
      rw [h', List.filter_cons_of_pos hp, List.map_cons, List.append_assoc]; rfl
    · refine lc_filt I hI hg hs l acc M hn (by omega) hi fun M' i' k' h' => ?_
      refine q M' i' k' ?_
      rw [h', List.filter_cons_of_neg (by simp [hp])]
def enumSK (k : List D → (Mem → Prop) → Mem → Prop) : List D → Mem → Prop := fun ds M1 => match ds with
  | [.ref n] => match M1[n]? with
    | some (.lst ds) => k (enumD ds) (fun M => M[n]? = some (.lst ds)) M1
    | _ => False
  | _ => False
theorem x_enumS {ma : MA} {ρ : Ev} {M : Mem} {k : List D → (Mem → Prop) → Mem → Prop} {X : XM} (h : ma ρ M (enumSK k) X) : mIEnumL ma ρ M k X := h
theorem enumS_at {M : Mem} {n : Nat} {ds : List D} {k : List D → (Mem → Prop) → Mem → Prop} (e : M[n]? = some (.lst ds)) (h : k (enumD ds) (fun M => M[n]? = some (.lst ds)) M) : enumSK k [.ref n] M := by
  unfold enumSK
  dsimp only
  rw [e]
  exact h
theorem o_truS {M : Mem} {l : Nat} {ds : List D} {QB : Bool → Mem → Prop} (e : M[l]? = some (.lst ds)) (h : QB (!ds.isEmpty) M) : tru (.ref l) M QB := by
  unfold tru; dsimp only; rw [e]; exact h
theorem enumD_zip {α : Type} {f : α → D} (l : List α) : enumD (l.map f) = l.zipIdx.map fun x => .tup [.int (x.2 : Nat), f x.1] := by
  unfold enumD
  apply List.ext_getElem?
  intro i
  rw [List.getElem?_mapIdx, List.getElem?_map, List.getElem?_map, List.getElem?_zipIdx]
  cases l[i]? <;> simp
theorem openFrom_zip : ∀ (arcs : List Arc) (k : Nat), openFrom k arcs = ((arcs.zipIdx k).filter fun x => x.1.room.isNone).map fun x => ⟨x.1.tl, x.1.hd, x.2, true⟩
  | [], k => rfl
  | a :: as, k => by
    rw [List.zipIdx_cons]
    unfold openFrom
    rw [openFrom_zip as (k + 1)]
    cases e : a.room with
    | none => rw [if_pos rfl, List.filter_cons_of_pos (by simp [e])]; rfl
    | some r => rw [if_neg (by simp), List.filter_cons_of_neg (by simp [e])]
theorem l_open_links {M : Mem} {Q : DK} {X : XM} {pa : Nat} {arcs : List Arc} (ga : M[pa]? = some (.lst (arcs.map arcD))) (hl : arcs.length ≤ 100000)
    (k : ∀ M', Kp [] M M' → M'[M.length]? = some (.lst ((openL arcs).map liD)) → Q (.ref M.length) M') : w_open_links [.ref pa] M Q X := by
  unfold w_open_links wOf
  rw [show startE N_open_links [.ref pa] = [some (.ref pa), none, none, none, none, none] from rfl]
  unfold m_open_links
  refine x_ret (x_lc ?_)
  refine x_enumS (x_cons (x_var rfl (x_nil (enumS_at ga ?_))))
  rw [enumD_zip]
  refine lc_filt (p := fun x : Arc × Nat => x.1.room.isNone) (g := fun x => liD ⟨x.1.tl, x.1.hd, x.2, true⟩) (fun M' => M'[pa]? = some (.lst (arcs.map arcD))) (fun M' o h => ?_) (fun M' h => h) (fun x M' K K0 hi h1 h2 => ?_) arcs.zipIdx [] _ mnew (by simp; omega) ((Kp.app (S := [])).at_ _ _ (by simp) ga) fun M' _ k' h' => ?_
  · have := mlt ga
    rw [List.getElem?_set_ne (by omega)]; exact h
  · obtain ⟨a, i⟩ := x
    refine x_tp rfl (x_tc (x_nm (x_tc ?_)))
    refine x_tp rfl (x_tc (x_nm (x_tc (x_nm (x_tc (x_nm (x_tc (x_nm (x_tn (x_tn ?_))))))))))
    refine x_b (x_op (x_var rfl (x_c (o_isN ?_))))
    cases er : a.room with
    | some r => exact if_f (h2 (by rw [er]; rfl))
    | none =>
    refine if_t ?_
    have e : (fun x : Arc × Nat => x.1.room.isNone) (a, i) = true := by show a.room.isNone = true; rw [er]; rfl
    refine x_cb (x_cons (x_var rfl (x_cons (x_var rfl (x_cons (x_var rfl (x_cons (x_c (x_nil ?_)))))))))
    refine o_tup (Nat.le_of_ble_eq_true rfl) (h1 e)
  · have lt := mlt ga
    refine k M' ?_ ?_
    · refine ⟨?_, fun j o _ q => ?_⟩
      · have := k'.len
        simp at this; omega
      · have := mlt q
        exact k'.at_ _ _ (by simp; omega) ((Kp.app (S := [])).at_ _ _ (by simp) q)
    · rw [h', List.nil_append]
      unfold openL
      rw [openFrom_zip, List.map_map]
      rfl
theorem openL_len (arcs : List Arc) : (openL arcs).length ≤ arcs.length := by
  unfold openL
  rw [openFrom_zip, List.length_map]
  exact Nat.le_trans (List.length_filter_le _ _) (by simp)
/-- arcs between nodes below n -/
def ArcsOk (n : Nat) (arcs : List Arc) : Prop := ∀ a ∈ arcs, a.tl < n ∧ a.hd < n
theorem openL_ok {n : Nat} {arcs : List Arc} (h : ArcsOk n arcs) : ∀ l ∈ openL arcs, LiOk n arcs l := fun l hl => by
  obtain ⟨a, h1, h2, h3, h4, h5⟩ := mem_openL.mp hl
  obtain ⟨g1, g2⟩ := h a (List.mem_of_getElem? h1)
  exact ⟨by omega, by omega, a, h1⟩
/-- no ring of open arcs: there was a round that moved nothing -/
def Still (A : Sg) (arcs : List Arc) (n : Nat) : Prop := ∃ m, m < n ∧ (itr A (prL arcs) (openL arcs) ⟨fun v => if v < n then some (0, 0) else none, fun _ => none, none⟩ (m + 1)).mv = none
def flatN (n : Nat) : HS := fun v => if v < n then some (0, 0) else none
theorem flat_D (n : Nat) : hsD n (flatN n) = (List.range n).map fun _ => pD (0, 0) := by
  unfold hsD
  apply List.map_congr_left
  intro v hv
  rw [List.mem_range] at hv
  unfold flatN
  rw [if_pos hv]; rfl
theorem l_ring_at {M : Mem} {Q : DK} {X : XM} {pa n : Nat} {t : Rat} {arcs : List Arc} (ht : Se2 t) (h1 : 1 ≤ n) (hn : n ≤ 1000) (ga : M[pa]? = some (.lst (arcs.map arcD))) (ha : ArcsOk n arcs) (hal : arcs.length ≤ 100000)
    (k0 : ∀ M', Kp [] M M' → Still (sg t false) arcs n → Q .non M')
    (k1 : ∀ M' y R, Kp [] M M' → M.length ≤ y → M'[y]? = some (.lst (R.map fun j => .int (j : Nat))) → R.length ≤ n → RingOk (sg t false) arcs R → Q (.ref y) M') :
    w_ring_at [.int (n : Nat), .ref pa, qD t] M Q X := by
  unfold w_ring_at wOf
  rw [show startE N_ring_at [.int (n : Nat), .ref pa, qD t] = [some (.int (n : Nat)), some (.ref pa), some (qD t), none, none, none, none, none, none, none] from rfl]
  unfold m_ring_at
  walk_at "sx"
  refine x_set (x_lc (x_rng (x_cons (x_var rfl (x_nil ⟨by omega, ?_⟩)))))
  rw [show ((n : Nat) : Int).toNat = n by omega]
  refine lc_ix (fun j acc M' => acc = (List.range j).map (fun _ => pD (0, 0)) ∧ Kp [] M M') (fun _ _ _ _ => trivial) ?_ ?_ (by rw [rng_len]; omega) mnew ⟨rfl, .app⟩
  · rintro j d acc M' K' hd hM ⟨rfl, k'⟩ hK
    refine x_cb (x_cons (x_c (x_cons (x_c (x_nil (o_tup (Nat.le_of_ble_eq_true rfl) ?_))))))
    refine hK _ _ hM ⟨by rw [List.range_succ, List.map_append]; rfl, ?_⟩
    exact k'.setNew (Nat.le_refl _)
  rintro acc M1 hM ⟨rfl, kp1⟩
  rw [rng_len, ← flat_D] at hM
  have lt1 := mlt hM
  generalize hz : M.length = z at *
  dsimp only
  walk_at "sx"
  refine x_asg (x_call (x_argsP (x_cons (x_var rfl (x_cons (x_call (x_argsP (x_cons (x_var rfl (x_nil (x_len rfl rfl ?_)))))))))))
  refine l_open_links (kp1.at_ _ _ (by simp) ga) hal fun M2 kp2 g2 => ?_
  refine x_cons (x_var rfl (x_cons (x_var rfl (x_cons (x_c (x_nil (x_len rfl rfl ?_)))))))
  have kp12 := kp1.trans kp2
  have oll := openL_len arcs
  refine l_settled ht hn (kp2.at_ _ _ (by simp) hM) g2 (kp12.at_ _ _ (by simp) ga) (openL_ok ha) (by omega) fun M3 y1 y2 m s kp3 ly1 ly2 hs hm he h0 a1 a2 => ?_
  have kp := kp12.trans kp3
  refine x_tp rfl (x_tc (x_nm (x_tc (x_nm (x_tc (x_nm (x_tn ?_)))))))
  dsimp only
  walk_at "sx"
  refine x_ifS (x_b (x_op (x_var rfl (x_c (o_isN ?_)))))
  cases e : s.mv with
  | none =>
    refine if_t (x_ret (x_c ?_))
    refine k0 M3 kp ⟨m - 1, ?_, ?_⟩
    · have : m ≠ 0 := fun q => by have := h0 q; omega
      omega
    · have : m ≠ 0 := fun q => by have := h0 q; omega
      rw [show m - 1 + 1 = m by omega]
      rw [hs] at e
      exact e
  | some v =>
    refine if_f (x_next ?_)
    dsimp only
    have hmn : m = n := he (by rw [e]; simp)
    subst hmn
    have BIs : BI (sg t false) (prL arcs) (openL arcs) (flatN m) s := by rw [hs]; exact BI.itr BI.start m
    have NGs : Neg (sg t false) (prL arcs) s.b := by rw [hs]; exact Neg.itr (ls := openL arcs) (h0 := flatN m) BI.start Neg.start m
    have hb : ∀ x l, s.b x = some l → l.tl < m := fun x l q => by
      obtain ⟨q1, _⟩ := BIs.lk x l q
      exact (openL_ok ha l q1).1
    have hbk : ∀ x l, s.b x = some l → l ∈ openL arcs ∧ l.hd = x := fun x l q => ⟨(BIs.lk x l q).1, (BIs.lk x l q).2.1⟩
    have bk : ∀ kk, kk < m → ∀ r, upb s.b kk v = some r → s.b r ≠ none := fun kk hk r q => by
      have i0 : BI (sg t false) (prL arcs) (openL arcs) (flatN m) ⟨flatN m, fun _ => none, none⟩ := BI.start
      have := itr_back i0 (n := m - 1) (v := v) (by rw [show m - 1 + 1 = m by omega, ← hs]; exact e) (k := kk) (by omega) (r := r)
      rw [show m - 1 + 1 = m by omega, ← hs] at this
      exact this q
    have hv : v < m := by
      have h3 := bk 0 (by omega) v rfl
      cases e3 : s.b v with
      | none => exact (h3 e3).elim
      | some l =>
        obtain ⟨q1, q2⟩ := hbk v l e3
        have := (openL_ok ha l q1).2.1
        omega
    obtain ⟨y, p, u1, u2, u3, u5, u4⟩ := upb_ring hb hv bk
    have lty1 := mlt a1
    have lty2 := mlt a2
    with_reducible refine x_join (fun ρ M' => M3 = M' ∧ ∃ o7, ρ = [some (.int (m : Nat)), some (.ref pa), some (qD t), some (.ref z), some (.int (y : Nat)), some (.ref y1), some (.ref y2), o7, none, none]) ?_ ?_
    · intro K hK
      refine x_for (x_rng (x_cons (x_var rfl (x_nil ⟨by omega, ?_⟩))))
      rw [show ((m : Nat) : Int).toNat = m by omega]
      refine for_ix (fun i ρ M' => M3 = M' ∧ ∃ x o7, upb s.b i v = some x ∧ x < m ∧ ρ = [some (.int (m : Nat)), some (.ref pa), some (qD t), some (.ref z), some (.int (x : Nat)), some (.ref y1), some (.ref y2), o7, none, none]) (fun _ _ _ _ => trivial) ?_ ?_ ⟨rfl, v, _, rfl, hv, rfl⟩
      · rintro ρ M' ⟨rfl, x, o7, h3, h4, rfl⟩
        rw [rng_len, u1] at h3
        obtain rfl : y = x := Option.some.inj h3
        exact hK _ _ ⟨rfl, o7, rfl⟩
      · rintro i d ρ M' K' hd ⟨rfl, x, o7, h3, h4, rfl⟩ hK'
        obtain ⟨rfl, hi⟩ := rng_at hd
        have h5 := bk i hi x h3
        cases e5 : s.b x with
        | none => exact (h5 e5).elim
        | some l =>
          refine x_nm ?_
          refine x_set (x_op (x_op (x_var rfl (x_var rfl (o_ixL a2 (bs_at h4) ?_)))))
          rw [e5]
          refine x_c (o_ixT (v := .int (l.tl : Nat)) rfl ?_)
          refine hK' _ _ ⟨rfl, l.tl, _, ?_, hb x l e5, rfl⟩
          rw [upb_add s.b i 1 v, h3]
          show (s.b x).bind (fun l => some l.tl) = some l.tl
          rw [e5]; rfl
    rintro ρ M' ⟨rfl, o7, rfl⟩
    walk_at "sx"
    refine x_set (x_cb (x_nil (o_lst (Nat.le_of_ble_eq_true rfl) ?_)))
    have kr : Kp [] M3 (M3 ++ [O.lst []]) := .app
    have gr : (M3 ++ [O.lst []])[M3.length]? = some (.lst []) := mnew
    have lzr : M3.length ≤ M3.length := Nat.le_refl _
    have a2' := kr.at_ _ _ (by simp) a2
    have kq := kp.trans kr
    have lz0 : M.length ≤ M3.length := by have := kp.len; omega
    have nz2 : y2 ≠ M3.length := by omega
    generalize hzr : M3.length = zr at *
    generalize M3 ++ [O.lst []] = M4 at *
    dsimp only
    walk_at "sx"
    refine x_set (x_var rfl ?_)
    dsimp only
    walk_at "sx"
    have det : ∀ {cs : List Li} {x : Nat}, Bk s.b y cs x → cs.length = p → x = y := fun {cs x} h hc => by
      have := h.up
      rw [hc, u4] at this
      exact (Option.some.inj this).symm
    refine x_while (fun q ρ M' => ∃ cs x, ρ = [some (.int (m : Nat)), some (.ref pa), some (qD t), some (.ref z), some (.int (y : Nat)), some (.ref y1), some (.ref y2), o7, some (.ref zr), some (.int (x : Nat))] ∧ Bk s.b y cs x ∧ x < m ∧ cs.length ≤ p ∧ q = p - cs.length ∧ Kp [] M M' ∧ M'[y2]? = some (.lst (bsD m s.b)) ∧ M'[zr]? = some (.lst (cs.map fun l => .int (l.k : Nat)))) p ⟨[], y, rfl, rfl, u2, by simp, by simp, kq, a2', gr⟩ ?_
    rintro q ρ M' ⟨cs, x, rfl, hc, hx, hle, rfl, kp', b2, gz⟩
    have go : (cs = [] ∨ x ≠ y) → ∃ N : Ev → Mem → Prop, (∀ ρ' M', N ρ' M' → ∃ m', m' < p - cs.length ∧ ∃ cs x, ρ' = [some (.int (m : Nat)), some (.ref pa), some (qD t), some (.ref z), some (.int (y : Nat)), some (.ref y1), some (.ref y2), o7, some (.ref zr), some (.int (x : Nat))] ∧ Bk s.b y cs x ∧ x < m ∧ cs.length ≤ p ∧ m' = p - cs.length ∧ Kp [] M M' ∧ M'[y2]? = some (.lst (bsD m s.b)) ∧ M'[zr]? = some (.lst (cs.map fun l => .int (l.k : Nat)))) ∧
        ∀ rt bk ex, mSeq (mDrop (mBM "list" omAppend (mVar 8) (mCons (mOp oIx (mOp oIx (mVar 6) (mVar 9)) (mC (.int 2))) mNil))) (mSet 9 (mOp oIx (mOp oIx (mVar 6) (mVar 9)) (mC (.int 0)))) ⟨N, rt, bk, N, ex⟩ [some (.int (m : Nat)), some (.ref pa), some (qD t), some (.ref z), some (.int (y : Nat)), some (.ref y1), some (.ref y2), o7, some (.ref zr), some (.int (x : Nat))] M' := fun hgo => by
      have hlt : cs.length < p := by
        rcases Nat.lt_or_ge cs.length p with h | h
        · exact h
        · have := det hc (by omega)
          rcases hgo with g | g
          · rw [g] at h; simp at h; omega
          · exact (g this).elim
      have hbx : s.b x ≠ none := fun h6 => by
        have h7 : upb s.b p y = none := by
          rw [show p = cs.length + (p - cs.length - 1 + 1) by omega, upb_add, hc.up]
          show (s.b x).bind _ = none
          rw [h6]; rfl
        rw [u4] at h7; cases h7
      cases e5 : s.b x with
      | none => exact (hbx e5).elim
      | some l =>
        refine ⟨_, fun _ _ h => h, fun rt bk ex => ?_⟩
        walk_at "sx"
        refine x_drop (x_bm (x_var rfl (x_isL gz ?_)))
        refine x_cons (x_op (x_op (x_var rfl (x_var rfl (o_ixL b2 (bs_at hx) ?_)))))
        rw [e5]
        refine x_c (o_ixT (v := .int (l.k : Nat)) rfl (x_nil (o_app gz ?_ ?_)))
        · rw [List.length_map]; omega
        have gz' := msame (o' := O.lst ((cs.map fun l => D.int (l.k : Nat)) ++ [.int (l.k : Nat)])) gz
        have b2' : (M'.set zr (O.lst ((cs.map fun l => D.int (l.k : Nat)) ++ [.int (l.k : Nat)])))[y2]? = some (.lst (bsD m s.b)) := by
          rw [List.getElem?_set_ne (Ne.symm nz2)]; exact b2
        have kp'' : Kp [] M (M'.set zr (O.lst ((cs.map fun l => D.int (l.k : Nat)) ++ [.int (l.k : Nat)]))) := kp'.setNew lz0
        generalize M'.set zr (O.lst ((cs.map fun l => D.int (l.k : Nat)) ++ [.int (l.k : Nat)])) = M5 at *
        dsimp only
        refine x_set (x_op (x_op (x_var rfl (x_var rfl (o_ixL b2' (bs_at hx) ?_)))))
        rw [e5]
        refine x_c (o_ixT (v := .int (l.tl : Nat)) rfl ?_)
        refine ⟨p - (cs ++ [l]).length, by simp; omega, cs ++ [l], l.tl, rfl, hc.snoc e5, hb x l e5, by simp; omega, rfl, kp'', b2', ?_⟩
        rw [gz', List.map_append]; rfl
    refine x_or (x_not (x_tru (x_var rfl (o_truS gz ?_))))
    cases cs with
    | nil =>
      refine if_t ?_
      refine if_t ?_
      obtain ⟨N, n1, n2⟩ := go (.inl rfl)
      exact ⟨N, n1, n2 _ _ _⟩
    | cons c cs =>
      refine if_f ?_
      refine x_b (x_op (x_var rfl (x_var rfl (o_neI ?_))))
      refine if_n (fun hxy => ?_) (fun hxy => ?_)
      · obtain ⟨N, n1, n2⟩ := go (.inr fun h => hxy (by rw [h]))
        exact ⟨N, n1, n2 _ _ _⟩
      · obtain rfl : x = y := by omega
        dsimp only
        refine x_ret (x_rev (x_var rfl (o_rev gz ?_)))
        have rk' := ring_ok hbk NGs hc (by simp)
        refine k1 _ _ (((c :: cs).map (·.k)).reverse) (kp'.trans .app) (by rw [← hz]; exact kp'.len) ?_ ?_ rk'
        · rw [mnew, List.map_reverse, List.map_map]; rfl
        · rw [List.length_reverse, List.length_map]
          omega
end Prf

namespace Prf
def worthQ (m : Mo) (t : Rat) : Rat := m.1 + m.2 * t
theorem rk_false {t : Rat} {m : Mo} : (rk (sg t false) m) = (m.1 * (t.den : Int) + m.2 * t.num, 0) := rfl
theorem rat_lt_div {a b : Int} {d : Nat} (hd : 0 < d) : ((a : Rat) / ((d : Int) : Rat) < (b : Rat) / ((d : Int) : Rat)) ↔ a < b := by
  have hd' : (0 : Rat) < ((d : Int) : Rat) := by exact_mod_cast hd
  rw [Rat.div_lt_iff hd', Rat.div_mul_cancel (by grind)]
  exact_mod_cast Iff.rfl
theorem worth_rk {t : Rat} {m : Mo} : worthQ m t = ((rk (sg t false) m).1 : Rat) / ((t.den : Int) : Rat) := (q_val m.1 m.2 t).symm
theorem worth_lt {t : Rat} {a b : Mo} : worthQ a t < worthQ b t ↔ wlt (rk (sg t false) a) (rk (sg t false) b) := by
  rw [worth_rk, worth_rk, rat_lt_div t.den_pos]
  unfold wlt
  rw [rk_false, rk_false]
  simp
theorem worth_add {t : Rat} {a b : Mo} : worthQ (madd a b) t = worthQ a t + worthQ b t := by
  unfold worthQ madd
  push_cast
  grind
end Prf
namespace Prf
def hqD (n : Nat) (h : HS) (t : Rat) : List D := (List.range n).map fun v => qD (worthQ ((h v).getD (0, 0)) t)
theorem hq_at {n v : Nat} {h : HS} {t : Rat} {a : Mo} (hv : v < n) (e : h v = some a) : atI (hqD n h t) (v : Int) = some (qD (worthQ a t)) := by
  rw [atI_n]; unfold hqD
  rw [List.getElem?_map, List.getElem?_range hv, Option.map_some, e]; rfl
theorem DD_worth {t : Rat} {m : Mo} : DD t.den (worthQ m t) := DD.val t.den_pos (Nat.dvd_refl _) m.1 m.2
theorem rnd_go {A : Sg} {pr : Li → Mo} {ls : List Li} {s : Sst} : rnd A pr ls s = ls.foldl (relax A pr) ⟨s.h, s.b, none⟩ := rfl
/-- links of open arcs, from the k-th arc on -/
theorem openFrom_none {a : Arc} {as : List Arc} {k : Nat} (h : a.room = none) : openFrom k (a :: as) = ⟨a.tl, a.hd, k, true⟩ :: openFrom (k + 1) as := by
  conv => lhs; unfold openFrom
  rw [if_pos h]
theorem openFrom_some {a : Arc} {as : List Arc} {k : Nat} (h : a.room ≠ none) : openFrom k (a :: as) = openFrom (k + 1) as := by
  conv => lhs; unfold openFrom
  rw [if_neg h]
theorem fall_all {A : Sg} {n : Nat} {h h' : HS} (f : Fall A h' h) (g : ∀ v, v < n → ∃ a, h v = some a) : ∀ v, v < n → ∃ a, h' v = some a := fun v hv => by
  obtain ⟨a, e⟩ := g v hv
  obtain ⟨b, e2, _⟩ := f v a e
  exact ⟨b, e2⟩
structure PrOk (arcs : List Arc) : Prop where
  b : ∀ a ∈ arcs, a.price.2.natAbs < 2 ^ 64
theorem l_Lsettles {M : Mem} {Q : DK} {X : XM} {pa n : Nat} {t : Rat} {arcs : List Arc} (hd : t.den < 1000) (hn : n ≤ 1000) (ga : M[pa]? = some (.lst (arcs.map arcD))) (ha : ArcsOk n arcs) (hp : PrOk arcs) (st : Still (sg t false) arcs n)
    (k : ∀ M', Kp [] M M' → Q (.bl true) M') : w_Lsettles [.int (n : Nat), .ref pa, qD t] M Q X := by
  have dlt : ∀ m : Mo, (worthQ m t).den < 2 ^ 32 := fun m => by
    have := DD.le t.den_pos (DD_worth (t := t) (m := m)); omega
  unfold w_Lsettles wOf
  rw [show startE N_Lsettles [.int (n : Nat), .ref pa, qD t] = [some (.int (n : Nat)), some (.ref pa), some (qD t), none, none, none, none, none, none, none, none, none] from rfl]
  unfold m_Lsettles
  walk_at "sx"
  refine x_set (x_lc (x_rng (x_cons (x_var rfl (x_nil ⟨by omega, ?_⟩)))))
  rw [show ((n : Nat) : Int).toNat = n by omega]
  refine lc_ix (fun j acc M' => acc = (List.range j).map (fun _ => qD 0) ∧ Kp [] M M') (fun _ _ _ _ => trivial) ?_ ?_ (by rw [rng_len]; omega) mnew ⟨rfl, .app⟩
  · rintro j d acc M' K' hd hM ⟨rfl, k'⟩ hK
    refine x_cb (x_cons (x_c (x_cons (x_c (x_nil (o_tup (Nat.le_of_ble_eq_true rfl) ?_))))))
    refine hK _ _ hM ⟨by rw [List.range_succ, List.map_append]; rfl, ?_⟩
    exact k'.setNew (Nat.le_refl _)
  rintro acc M1 hM ⟨rfl, kp1⟩
  let s0 : Sst := ⟨flatN n, fun _ => none, none⟩
  have fl0 : ∀ v, v < n → ∃ a, (flatN n) v = some a := fun v hv => ⟨(0, 0), if_pos hv⟩
  have e0 : (List.range n).map (fun _ => qD 0) = hqD n (flatN n) t := by
    unfold hqD
    apply List.map_congr_left
    intro v hv
    rw [List.mem_range] at hv
    unfold flatN
    rw [if_pos hv]
    congr 1
    unfold worthQ
    show (0 : Rat) = ((0 : Int) : Rat) + ((0 : Int) : Rat) * t
    grind
  rw [rng_len, e0] at hM
  have lt1 := mlt hM
  have lz0 : M.length ≤ M.length := Nat.le_refl _
  generalize hz : M.length = z at *
  dsimp only
  walk_at "sx"
  refine x_for (x_rng (x_cons (x_op (x_var rfl (x_c (o_add (x_nil ⟨by omega, ?_⟩)))))))
  rw [show ((n : Nat) + 1 : Int).toNat = n + 1 by omega]
  have lta := mlt ga
  refine for_ix (fun i ρ M' => ∃ s, (∃ o5 o6 o7 o8 o9 o10 o11, ρ = [some (.int (n : Nat)), some (.ref pa), some (qD t), some (.ref z), none, o5, o6, o7, o8, o9, o10, o11]) ∧ s = itr (sg t false) (prL arcs) (openL arcs) s0 i ∧ (∀ j, j < i → (itr (sg t false) (prL arcs) (openL arcs) s0 (j + 1)).mv ≠ none) ∧ Kp [] M M' ∧ M'[z]? = some (.lst (hqD n s.h t))) (fun _ _ _ _ => trivial) ?_ ?_ ⟨s0, ⟨_, _, _, _, _, _, _, rfl⟩, rfl, (fun j h => by omega), kp1, hM⟩
  · rintro ρ M' ⟨s, _, hs, hm, _, _⟩
    rw [rng_len] at hm
    obtain ⟨m, m1, m2⟩ := st
    exact (hm m (by omega) m2).elim
  · rintro i d ρ M' K' hd' ⟨s, ⟨o5, o6, o7, o8, o9, o10, o11, rfl⟩, hs, hm, k', a1⟩ hK'
    obtain ⟨rfl, hi⟩ := rng_at hd'
    refine x_nm ?_
    walk_at "sx"
    refine x_set (x_c ?_)
    have es : rnd (sg t false) (prL arcs) (openL arcs) s = itr (sg t false) (prL arcs) (openL arcs) s0 (i + 1) := by rw [hs]; rfl
    rw [rnd_go] at es
    generalize hS1 : itr (sg t false) (prL arcs) (openL arcs) s0 (i + 1) = S1 at *
    have flS : ∀ v, v < n → ∃ a, s.h v = some a := by rw [hs]; exact fall_all (itr_fall _ _ _) fl0
    dsimp only
    with_reducible refine x_join (fun ρ M' => (∃ o5 o7 o8 o9 o10 o11, ρ = [some (.int (n : Nat)), some (.ref pa), some (qD t), some (.ref z), none, o5, some (.bl S1.mv.isSome), o7, o8, o9, o10, o11]) ∧ Kp [] M M' ∧ M'[z]? = some (.lst (hqD n S1.h t))) ?_ ?_
    · intro K2 hK2
      refine x_for (x_iseqV rfl (k'.at_ _ _ (by simp) ga) ?_)
      refine for_inv (fun l ρ M' => ∃ (rest : List Arc) (j : Nat) (s : Sst), l = rest.map arcD ∧ rest = arcs.drop j ∧ (openFrom j rest).foldl (relax (sg t false) (prL arcs)) s = S1 ∧ (∀ v, v < n → ∃ a, s.h v = some a) ∧ (∃ o5 o7 o8 o9 o10 o11, ρ = [some (.int (n : Nat)), some (.ref pa), some (qD t), some (.ref z), none, o5, some (.bl s.mv.isSome), o7, o8, o9, o10, o11]) ∧ Kp [] M M' ∧ M'[z]? = some (.lst (hqD n s.h t))) ?_ ?_ ?_ ⟨arcs, 0, ⟨s.h, s.b, none⟩, rfl, rfl, es, flS, ⟨_, _, _, _, _, _, rfl⟩, k', a1⟩
      · rintro l ρ M' ⟨rest, j, s, _, _, _, _, _, k', _⟩
        exact k'.at_ _ _ (by simp) ga
      · rintro ρ M' ⟨rest, j, s, h1, _, h3, _, h4, h5, h6⟩
        obtain rfl : rest = [] := by cases rest with | nil => rfl | cons a b => cases h1
        obtain rfl : s = S1 := h3
        exact hK2 _ _ ⟨h4, h5, h6⟩
      · rintro d l ρ M' K3 ⟨rest, j, s, h1, h2, h3, hfl, ⟨p5, p7, p8, p9, p10, p11, rfl⟩, h5, h6⟩ hK3
        cases rest with
        | nil => cases h1
        | cons a rest =>
          rw [List.map_cons] at h1
          injection h1 with h1 h1'
          subst h1 h1'
          have hj : arcs[j]? = some a := by
            have := congrArg (fun l : List Arc => l[0]?) h2
            simp at this
            exact this.symm
          have hr2 : rest = arcs.drop (j + 1) := by
            have := congrArg List.tail h2
            simpa using this
          obtain ⟨t1, t2⟩ := ha a (List.mem_of_getElem? hj)
          have hpb := hp.b a (List.mem_of_getElem? hj)
          refine x_tp rfl (x_tc (x_nm (x_tc (x_nm (x_tc (x_nm (x_tc (x_nm (x_tn ?_)))))))))
          refine x_ifS (x_b (x_op (x_var rfl (x_c (o_isN ?_)))))
          cases er : a.room with
          | some r =>
            refine if_f (x_next ?_)
            rw [openFrom_some (by rw [er]; simp)] at h3
            exact hK3 _ _ ⟨rest, j + 1, s, rfl, hr2, h3, hfl, ⟨_, _, _, _, _, _, rfl⟩, h5, h6⟩
          | none =>
            refine if_t ?_
            rw [openFrom_none er, List.foldl_cons] at h3
            obtain ⟨av, ea⟩ := hfl a.tl t1
            obtain ⟨bv, eb⟩ := hfl a.hd t2
            have epr : prL arcs ⟨a.tl, a.hd, j, true⟩ = a.price := by unfold prL; dsimp only; rw [hj]; rfl
            rw [relax_some (a := av) ea, epr] at h3
            dsimp only
            walk_at "sx"
            refine x_set (x_call (x_argsP (x_cons (x_op (x_var rfl (x_var rfl (o_ixL h6 (hq_at t1 ea) ?_)))))))
            refine x_cons (x_call (x_argsP (x_cons (x_var rfl (x_cons (x_var rfl (x_nil (x_len rfl rfl ?_))))))))
            refine lat (m := a.price) (by omega) hpb ?_
            refine x_nil (x_len rfl rfl ?_)
            refine lplus (dlt av) (dlt a.price) ?_
            rw [show worthQ av t + (a.price.1 + a.price.2 * t) = worthQ (madd av a.price) t from worth_add.symm]
            dsimp only
            refine x_ifS (x_tru (x_call (x_argsP (x_cons ?_))))
            refine x_var rfl (x_cons (x_op ?_))
            refine x_var rfl (x_var rfl (o_ixL h6 (hq_at t2 eb) (x_nil (x_len rfl rfl ?_))))
            refine llt (dlt _) (dlt _) (o_truB ?_)
            have ebt : better (sg t false) s.h ⟨a.tl, a.hd, j, true⟩ (madd av a.price) = decide (worthQ (madd av a.price) t < worthQ bv t) := by
              unfold better
              dsimp only
              rw [eb]
              dsimp only
              rw [decide_eq_decide]
              exact worth_lt.symm
            rw [ebt] at h3
            refine if_b (fun q => ?_) (fun q => ?_)
            · rw [if_pos q] at h3
              refine x_seq (x_setIx (x_var rfl (x_var rfl (x_var rfl (o_setL h6 (ixN_n (by simpa [hqD] using t2)) ?_)))))
              refine x_set (x_c ?_)
              refine hK3 _ _ ⟨rest, j + 1, _, rfl, hr2, h3, ?_, ⟨_, _, _, _, _, _, rfl⟩, h5.setNew (by omega), ?_⟩
              · intro v hv
                by_cases qv : v = a.hd
                · exact ⟨_, by rw [qv]; exact upf_same⟩
                · obtain ⟨c, hc⟩ := hfl v hv
                  exact ⟨c, by rw [← hc]; exact upf_ne qv⟩
              · rw [msame h6]
                congr 2
                exact map_upf (g := fun m : Option Mo => qD (worthQ (m.getD (0, 0)) t)) (x := some (madd av a.price)) t2
            · rw [if_neg (by rw [q]; simp)] at h3
              exact hK3 _ _ ⟨rest, j + 1, s, rfl, hr2, h3, hfl, ⟨_, _, _, _, _, _, rfl⟩, h5, h6⟩
    · rintro ρ M' ⟨⟨p5, p7, p8, p9, p10, p11, rfl⟩, b1, b2⟩
      refine x_ifS (x_not (x_tru (x_var rfl (o_truB ?_))))
      cases e : S1.mv with
      | none => exact if_t (x_ret (x_c (k M' b1)))
      | some v =>
        refine if_f (x_next ?_)
        refine hK' _ _ ⟨S1, ⟨_, _, _, _, _, _, _, rfl⟩, rfl, fun j hj => ?_, b1, b2⟩
        by_cases q : j = i
        · subst q; rw [hS1, e]; simp
        · exact hm j (by omega)
end Prf
namespace Prf
def prSum (arcs : List Arc) : List Nat → Mo
  | [] => (0, 0)
  | k :: R => madd (prL arcs ⟨0, 0, k, true⟩) (prSum arcs R)
theorem prSum_rk (A : Sg) (arcs : List Arc) : ∀ R, arcSum A arcs R = rk A (prSum arcs R)
  | [] => (rk_zero A).symm
  | k :: R => by rw [arcSum, prSum, rk_add, prSum_rk A arcs R]
theorem prSum_snoc (arcs : List Arc) (k : Nat) : ∀ R, prSum arcs (R ++ [k]) = madd (prSum arcs R) (prL arcs ⟨0, 0, k, true⟩)
  | [] => by rw [List.nil_append, prSum, prSum, prSum, madd_zero, zero_madd]
  | j :: R => by rw [List.cons_append, prSum, prSum_snoc arcs k R, prSum, madd_assoc]
/-- where a ring's arc begins: where the one ahead of it ends -/
theorem pth_at {arcs : List Arc} : ∀ {R : List Nat} {u v : Nat}, Pth arcs u R v → ∀ {j k : Nat}, R[j]? = some k → ∃ a, arcs[k]? = some a ∧ a.room = none ∧ (j = 0 → a.tl = u) ∧ (∀ i k', j = i + 1 → R[i]? = some k' → ∃ b, arcs[k']? = some b ∧ b.hd = a.tl) ∧ (j + 1 = R.length → a.hd = v)
  | k0 :: R, u, v, ⟨a, h1, h2, h3, h4⟩, 0, k, e => by
    obtain rfl : k0 = k := Option.some.inj e
    refine ⟨a, h1, h2, fun _ => h3, fun i k' q => by omega, fun q => ?_⟩
    have : R = [] := by cases R with | nil => rfl | cons => simp at q
    subst this
    exact h4
  | k0 :: R, u, v, ⟨a, h1, h2, h3, h4⟩, j + 1, k, e => by
    have e' : R[j]? = some k := by simpa using e
    obtain ⟨b, g1, g2, g3, g4, g5⟩ := pth_at h4 e'
    refine ⟨b, g1, g2, fun q => by omega, fun i k' q hk => ?_, fun q => g5 (by simpa using q)⟩
    cases i with
    | zero =>
      obtain rfl : k0 = k' := Option.some.inj hk
      exact ⟨a, h1, (g3 (by omega)).symm⟩
    | succ i => exact g4 i k' (by omega) (by simpa using hk)
theorem atI_last {α : Type} {l : List α} (h : l ≠ []) : atI l (((0 : Nat) : Int) - 1) = l[l.length - 1]? := by
  have : 0 < l.length := List.length_pos_iff.mpr h
  unfold atI ixN
  rw [if_neg (by omega)]
  split
  · rename_i h1
    rw [show (((0 : Nat) : Int) - 1 + (l.length : Int)).toNat = l.length - 1 by omega]
    rfl
  · omega
theorem atI_prev {α : Type} {l : List α} {j : Nat} : atI l (((j + 1 : Nat) : Int) - 1) = l[j]? := by
  rw [show ((j + 1 : Nat) : Int) - 1 = (j : Int) by omega, atI_n]
theorem o_chain {ma mb mc : ME} {x y z : Int} {ρ : Ev} {M : Mem} {Q : DK} {X : XM} (ha : ∀ Q : DK, Q (.int x) M → ma ρ M Q X) (hb : ∀ Q : DK, Q (.int y) M → mb ρ M Q X) (hc : ∀ Q : DK, Q (.int z) M → mc ρ M Q X) (h1 : x ≤ y) (h2 : y < z) (q : Q (.bl true) M) : mChain oLe oLt ma mb mc ρ M Q X := by
  unfold mChain
  refine ha _ (hb _ ?_)
  refine o_le ?_
  rw [decide_eq_true h1]
  first
    | (refine hc _ (o_lt ?_); rw [decide_eq_true h2]; exact q)
    | (show if _ then _ else _; rw [if_pos rfl]; refine hc _ (o_lt ?_); rw [decide_eq_true h2]; exact q)
theorem l_Lis_ring {M : Mem} {Q : DK} {X : XM} {pa y : Nat} {t : Rat} {arcs : List Arc} {R : List Nat} (hd : t.den < 1000) (hal : arcs.length ≤ 100000) (ga : M[pa]? = some (.lst (arcs.map arcD))) (gy : M[y]? = some (.lst (R.map fun j => .int (j : Nat)))) (hp : PrOk arcs) (hR : R.length ≤ 100000) (rg : RingOk (sg t false) arcs R)
    (k : ∀ M', Kp [] M M' → Q (.bl true) M') : w_Lis_ring [.ref pa, qD t, .ref y] M Q X := by
  have dlt : ∀ m : Mo, (worthQ m t).den < 2 ^ 32 := fun m => by
    have := DD.le t.den_pos (DD_worth (t := t) (m := m)); omega
  obtain ⟨hne, ⟨u, hpt⟩, hneg⟩ := rg
  have hmn : (R.map fun j => D.int (j : Nat)) ≠ [] := by simpa using hne
  have z0 : qD 0 = qD (worthQ (0, 0) t) := by
    congr 1
    unfold worthQ
    show (0 : Rat) = ((0 : Int) : Rat) + ((0 : Int) : Rat) * t
    grind
  unfold w_Lis_ring wOf
  rw [show startE N_Lis_ring [.ref pa, qD t, .ref y] = [some (.ref pa), some (qD t), some (.ref y), none, none, none, none, none, none] from rfl]
  unfold m_Lis_ring
  walk_at "sx"
  refine x_ifS (x_or (x_not (x_tru (x_cb (x_cons (x_var rfl (x_cons (x_c (x_nil (o_isLL gy (o_truB ?_)))))))))))
  refine if_nt ?_
  refine x_not (x_tru (x_var rfl (o_truS gy ?_)))
  rw [show ((R.map fun j => D.int (j : Nat)).isEmpty) = false by rw [List.isEmpty_eq_false_iff]; exact hmn]
  refine if_nt (x_next ?_)
  dsimp only
  walk_at "sx"
  refine x_set (x_cb (x_cons (x_c (x_cons (x_c (x_nil (o_tup (Nat.le_of_ble_eq_true rfl) ?_)))))))
  dsimp only
  with_reducible refine x_join (fun ρ M' => M = M' ∧ ∃ o4, ρ = [some (.ref pa), some (qD t), some (.ref y), some (qD 0), o4, none, none, none, none]) ?_ ?_
  · intro K hK
    refine x_for (x_rng (x_cons (x_cb (x_cons (x_var rfl (x_nil (o_lenL gy (x_nil ?_)))))))) 
    rw [List.length_map]
    refine ⟨by omega, ?_⟩
    rw [show ((R.length : Nat) : Int).toNat = R.length by omega]
    refine for_ix (fun i ρ M' => M = M' ∧ ∃ o4, ρ = [some (.ref pa), some (qD t), some (.ref y), some (qD 0), o4, none, none, none, none]) (fun _ _ _ _ => trivial) ?_ ?_ ⟨rfl, _, rfl⟩
    · exact fun ρ M' h => hK _ _ h
    · rintro i d ρ M' K' hd' ⟨rfl, o4, rfl⟩ hK'
      obtain ⟨rfl, hi⟩ := rng_at hd'
      obtain ⟨a, h1, h2, _⟩ := pth_at hpt (List.getElem?_eq_getElem hi)
      have ei : atI (R.map fun j => D.int (j : Nat)) (i : Int) = some (.int (R[i] : Nat)) := by rw [atI_n, List.getElem?_map, List.getElem?_eq_getElem hi]; rfl
      have hlt := (List.getElem?_eq_some_iff.mp h1).1
      refine x_nm (x_ifS (x_or (x_not (x_tru (x_call (x_argsP (x_cons (x_op (x_var rfl (x_var rfl (o_ixL gy ei (x_nil (x_len rfl rfl ?_)))))))))))))
      refine lwhole_i (o_truB (if_nt ?_))
      refine x_not (x_b (o_chain (x := 0) (y := (R[i] : Nat)) (z := (arcs.length : Nat)) (fun Q h => x_c h) (fun Q h => x_op (x_var rfl (x_var rfl (o_ixL gy ei h)))) (fun Q h => x_cb (x_cons (x_var rfl (x_nil (o_lenL ga (by rw [List.length_map]; exact h)))))) (by omega) (by omega) ?_))
      exact if_nt (x_next (hK' _ _ ⟨rfl, _, rfl⟩))
  rintro ρ M' ⟨rfl, o4, rfl⟩
  with_reducible refine x_join (fun ρ M' => Kp [] M M' ∧ ∃ o4 o5 o6 o7 o8, ρ = [some (.ref pa), some (qD t), some (.ref y), some (qD (worthQ (prSum arcs R) t)), o4, o5, o6, o7, o8]) ?_ ?_
  · intro K hK
    refine x_for (x_rng (x_cons (x_cb (x_cons (x_var rfl (x_nil (o_lenL gy (x_nil ?_))))))))
    rw [List.length_map]
    refine ⟨by omega, ?_⟩
    rw [show ((R.length : Nat) : Int).toNat = R.length by omega]
    refine for_ix (fun i ρ M' => Kp [] M M' ∧ ∃ o4 o5 o6 o7 o8, ρ = [some (.ref pa), some (qD t), some (.ref y), some (qD (worthQ (prSum arcs (R.take i)) t)), o4, o5, o6, o7, o8]) (fun _ _ _ _ => trivial) ?_ ?_ ⟨.refl, _, _, _, _, _, by rw [z0]; rfl⟩
    · rintro ρ M' ⟨k', o4, o5, o6, o7, o8, rfl⟩
      rw [rng_len, List.take_length]
      exact hK _ _ ⟨k', _, _, _, _, _, rfl⟩
    · rintro i d ρ M' K' hd' ⟨k', o4, o5, o6, o7, o8, rfl⟩ hK'
      obtain ⟨rfl, hi⟩ := rng_at hd'
      obtain ⟨a, h1, h2, h3, h4, h5⟩ := pth_at hpt (List.getElem?_eq_getElem hi)
      have ei : atI (R.map fun j => D.int (j : Nat)) (i : Int) = some (.int (R[i] : Nat)) := by rw [atI_n, List.getElem?_map, List.getElem?_eq_getElem hi]; rfl
      have ga' := k'.at_ _ _ (by simp) ga
      have gy' := k'.at_ _ _ (by simp) gy
      refine x_nm ?_
      walk_at "sx"
      refine x_asg (x_op (x_var rfl (x_op (x_var rfl (x_var rfl (o_ixL gy' ei (o_ixL ga' (arc_at h1) ?_)))))))
      refine x_tp rfl (x_tc (x_nm (x_tc (x_nm (x_tc (x_nm (x_tc (x_nm (x_tn ?_)))))))))
      dsimp only
      walk_at "sx"
      refine x_ifS (x_or (x_b (x_op (x_var rfl (x_c (o_isnN ?_))))))
      rw [h2]
      refine if_f ?_
      -- the one ahead
      obtain ⟨kp, b, q1, q2, q3⟩ : ∃ kp b, atI (R.map fun j => D.int (j : Nat)) ((i : Int) - 1) = some (.int (kp : Nat)) ∧ arcs[kp]? = some b ∧ b.hd = a.tl := by
        cases i with
        | zero =>
          have hl : R.length - 1 < R.length := by omega
          obtain ⟨b, b1, b2, b3, b4, b5⟩ := pth_at hpt (List.getElem?_eq_getElem hl)
          refine ⟨R[R.length - 1], b, ?_, b1, ?_⟩
          · rw [atI_last hmn, List.length_map, List.getElem?_map, List.getElem?_eq_getElem hl]; rfl
          · rw [b5 (by omega), h3 rfl]
        | succ i =>
          have hl : i < R.length := by omega
          obtain ⟨b, b1, b2⟩ := h4 i R[i] rfl (List.getElem?_eq_getElem hl)
          exact ⟨R[i], b, by rw [atI_prev, List.getElem?_map, List.getElem?_eq_getElem hl]; rfl, b1, b2⟩
      refine x_b (x_op (x_op (x_op (x_var rfl (x_op (x_var rfl (x_op (x_var rfl (x_c (o_sub (o_ixL gy' q1 (o_ixL ga' (arc_at q2) (x_c (o_ixT (v := .int (b.hd : Nat)) rfl (x_var rfl (o_neI ?_))))))))))))))))
      rw [q3]
      refine if_n (fun h => (h rfl).elim) (fun _ => x_next ?_)
      dsimp only
      refine x_set (x_call (x_argsP (x_cons (x_var rfl (x_cons (x_call (x_argsP (x_cons (x_var rfl (x_cons (x_var rfl (x_nil (x_len rfl rfl ?_)))))))))))))
      refine lat (m := a.price) (by omega) (hp.b a (List.mem_of_getElem? h1)) ?_
      refine x_nil (x_len rfl rfl ?_)
      refine lplus (dlt _) (dlt a.price) ?_
      have epr : prL arcs ⟨0, 0, R[i], true⟩ = a.price := by unfold prL; dsimp only; rw [h1]; rfl
      rw [show worthQ (prSum arcs (R.take i)) t + (a.price.1 + a.price.2 * t) = worthQ (madd (prSum arcs (R.take i)) a.price) t from worth_add.symm, ← epr, ← prSum_snoc, ← List.take_succ_eq_append_getElem hi]
      exact hK' _ _ ⟨k', _, _, _, _, _, rfl⟩
  · rintro ρ M' ⟨k', o4, o5, o6, o7, o8, rfl⟩
    refine x_ret (x_call (x_argsP (x_cons (x_var rfl (x_cons (x_cb (x_cons (x_c (x_cons (x_c (x_nil (o_tup (Nat.le_of_ble_eq_true rfl) (x_nil (x_len rfl rfl ?_))))))))))))))
    refine llt (b := 0) (dlt _) (by decide) ?_
    have : worthQ (prSum arcs R) t < 0 := by
      have h0 : (0 : Rat) = worthQ (0, 0) t := qD_inj z0
      rw [h0, worth_lt, rk_zero, ← prSum_rk]
      exact hneg
    rw [decide_eq_true this]
    exact k M' k'
end Prf
namespace Prf
theorem fine_intS {k : Nat} {i : Int} : fine k (.int i) = true := by cases k <;> rfl
theorem fine_nonS {k : Nat} : fine k .non = true := by cases k <;> rfl
theorem fine_tupS {k : Nat} {ds : List D} : fine (k + 1) (.tup ds) = ds.all (fine k) := rfl
theorem fine_pDS {k : Nat} {m : Int × Int} : fine (k + 1) (pD m) = true := by simp [pD, fine_tupS, fine_intS]
theorem fine_omS {k : Nat} {m : Option (Int × Int)} : fine (k + 1) (omD m) = true := by cases m <;> simp [omD, fine_pDS, fine_nonS]
theorem fine_arcD {k : Nat} {a : Arc} : fine (k + 2) (arcD a) = true := by simp [arcD, fine_tupS, fine_intS, fine_pDS, fine_omS]
theorem num_leS {x y : Int} (hy : 0 < y) : ((x : Rat) / (y : Rat)).num.natAbs ≤ x.natAbs := by
  have hy0 : y ≠ 0 := by omega
  obtain ⟨h1, -⟩ := frac_n x y hy0
  rw [if_neg (by omega)] at h1
  have hg := Int.gcd_pos_of_ne_zero_right x hy0
  have hg0 : ((Int.gcd x y : Nat) : Int) ≠ 0 := by omega
  rw [← h1]
  obtain ⟨c, hc⟩ := Int.gcd_dvd_left x y
  generalize ((Int.gcd x y : Nat) : Int) = g at *
  subst hc
  rw [Int.mul_fdiv_cancel_left _ hg0, Int.natAbs_mul]
  exact Nat.le_mul_of_pos_left _ (by omega)
theorem lsetting_S {M : Mem} {Q : DK} {X : XM} {p q : Nat} {pr : Int × Int} (F : Feed M p q) (h1 : pr.1 ≤ pr.2) (h2 : pr.1.natAbs ≤ 1000 ∧ pr.2.natAbs ≤ 1000)
    (k : ∀ M' s, Kp [p] M M' → Feed M' p q → s.den ≤ 5 → s.num.natAbs ≤ 1000000000 → Q (qD s) M') : w_Lsetting [.ref p, pD pr] M Q X := by
  unfold w_Lsetting wOf
  rw [show startE N_Lsetting [.ref p, pD pr] = [some (.ref p), some (pD pr), none] from rfl]
  unfold m_Lsetting
  walk_at "ml"
  refine ldraw F (by decide) (by decide) fun d M1 d0 d1 k1 F1 => ?_
  walk_at "ml"
  generalize hu : 1 + d = u at *
  have u0 : 1 ≤ u ∧ u ≤ 5 := by omega
  have e1 : 0 ≤ (pr.2 - pr.1) * u := Int.mul_nonneg (by omega) (by omega)
  have e2 : (pr.2 - pr.1) * u ≤ 2000 * 5 := Int.mul_le_mul (by omega) (by omega) (by omega) (by omega)
  have e3 : (pr.1 * u).natAbs ≤ 1000 * 5 := by rw [Int.natAbs_mul]; exact Nat.mul_le_mul h2.1 (by omega)
  refine o_mul (mul_ok (by omega)) ?_
  walk_at "ml"
  refine o_mul (mul_ok (by omega)) ?_
  walk_at "ml"
  refine ldraw F1 (by omega) (by omega) fun e M2 e0 e1' k2 F2 => ?_
  walk_at "ml"
  refine lfrac (by omega) (by omega) ?_
  have hn : 0 < u.toNat := by omega
  have eu : ((u.toNat : Nat) : Int) = u := by omega
  refine k _ _ (k1.trans k2) F2 ?_ ?_
  · have := DD.le hn (dd_of (x := pr.1 * u + e) (q := ((pr.1 * u + e : Int) : Rat) / ((u : Int) : Rat)) hn (by rw [eu]))
    omega
  · refine Nat.le_trans (num_leS (by omega)) ?_
    omega
theorem law_holds : ∀ ns : List Int, ns.length ≤ 63 → w_law [.kl (ns.map .int)] [] (fun d _ => d = .bl true) (fun _ _ => False) := by
  intro ns _
  unfold w_law wOf
  rw [show startE N_law [.kl (ns.map .int)] = [some (.kl (ns.map .int)), none, none, none, none, none, none, none, none, none, none] from rfl]
  unfold m_law
  walk_at "ml"
  refine lfeed fun M1 k1 F1 => ?_
  generalize List.length ([] : Mem) + 2 = p at F1 ⊢
  generalize List.length ([] : Mem) + 1 = q at F1
  walk_at "ml"
  refine ldraw F1 (by decide) (by decide) fun m0 M2 m00 m01 k2 F2 => ?_
  obtain ⟨n, hn⟩ : ∃ n : Nat, 1 + m0 = n := ⟨(1 + m0).toNat, by omega⟩
  have n1 : 1 ≤ n ∧ n ≤ 5 := by omega
  walk_at "mq"
  rw [hn]
  dsimp only
  walk_at "sx"
  walk_at "sx"
  walk_at "mq"
  have lt2 := F2.lt
  have g2 : (M2 ++ [O.lst []])[M2.length]? = some (.lst (([] : List Arc).map arcD)) := mnew
  have F3 : Feed (M2 ++ [O.lst []]) p q := F2.app
  have hpa : p ≠ M2.length := by omega
  have hqa : q ≠ M2.length := by omega
  generalize hpe : M2.length = pa at *
  generalize M2 ++ [O.lst []] = M3 at *
  dsimp only
  with_reducible refine x_join (fun ρ M' => ∃ arcs : List Arc, arcs.length ≤ 8 ∧ ArcsOk n arcs ∧ PrOk arcs ∧ M'[pa]? = some (.lst (arcs.map arcD)) ∧ Feed M' p q ∧ ∃ o4 o5 o6, ρ = [some (.kl (ns.map .int)), some (.ref p), some (.int (n : Nat)), some (.ref pa), o4, o5, o6, none, none, none, none]) ?_ ?_
  · intro K hK
    walk_at "ml"
    refine ldraw F3 (by decide) (by decide) fun c M4 c0 c1 k4 F4 => ?_
    obtain ⟨c, rfl⟩ := Int.eq_ofNat_of_zero_le c0
    walk_at "ml"
    refine ⟨by omega, ?_⟩
    rw [show ((c : Nat) : Int).toNat = c by omega]
    refine for_ix (fun i ρ M' => ∃ arcs : List Arc, arcs.length = i ∧ ArcsOk n arcs ∧ PrOk arcs ∧ M'[pa]? = some (.lst (arcs.map arcD)) ∧ Feed M' p q ∧ ∃ o4 o5 o6, ρ = [some (.kl (ns.map .int)), some (.ref p), some (.int (n : Nat)), some (.ref pa), o4, o5, o6, none, none, none, none]) (fun _ _ _ _ => trivial) ?_ ?_ ⟨[], rfl, (fun a h => by cases h), ⟨fun a h => by cases h⟩, k4.at_ _ _ (by simp; omega) g2, F4, _, _, _, rfl⟩
    · rintro ρ M' ⟨arcs, h1, h2⟩
      rw [rng_len] at h1
      exact hK _ _ ⟨arcs, by omega, h2⟩
    · rintro i d ρ M' K' hd ⟨arcs, h1, h2, h3, h4, F5, o4, o5, o6, rfl⟩ hK'
      obtain ⟨rfl, hi⟩ := rng_at hd
      refine x_nm ?_
      walk_at "sx"
      refine x_set (x_c ?_)
      dsimp only
      with_reducible refine x_join (fun ρ M' => ∃ r : Option Mo, M'[pa]? = some (.lst (arcs.map arcD)) ∧ Feed M' p q ∧ ∃ o6, ρ = [some (.kl (ns.map .int)), some (.ref p), some (.int (n : Nat)), some (.ref pa), some (.int (i : Nat)), some (omD r), o6, none, none, none, none]) ?_ ?_
      · intro K2 hK2
        walk_at "ml"
        refine ldraw F5 (by decide) (by decide) fun c M6 c0 c1 k6 F6 => ?_
        have h6 := k6.at_ _ _ (by simp; omega) h4
        walk_at "ml"
        refine if_d (fun _ => ?_) (fun _ => ?_)
        · walk_at "ml"
          refine ldraw F6 (by decide) (by decide) fun c M7 c0 c1 k7 F7 => ?_
          walk_at "ml"
          exact hK2 _ _ ⟨some (c, 0), k7.at_ _ _ (by simp; omega) h6, F7, _, rfl⟩
        · walk_at "ml"
          exact hK2 _ _ ⟨none, h6, F6, _, rfl⟩
      · rintro ρ M' ⟨r, h5, F5, o6, rfl⟩
        walk_at "ml"
        refine ldraw F5 (by omega) (by omega) fun a M6 a0 a1 k6 F6 => ?_
        walk_at "ml"
        refine ldraw F6 (by omega) (by omega) fun b M7 b0 b1 k7 F7 => ?_
        have h7 := (k6.trans k7).at_ _ _ (by simp; omega) h5
        walk_at "ml"
        refine ldraw F7 (by decide) (by decide) fun c M8 c0 c1 k8 F8 => ?_
        walk_at "ml"
        refine ldraw F8 (by decide) (by decide) fun e M9 e0 e1 k9 F9 => ?_
        have h9 := (k8.trans k9).at_ _ _ (by simp; omega) h7
        walk_at "ml"
        refine o_addT (Nat.le_of_ble_eq_true rfl) ?_
        refine x_nil (o_app h9 (by rw [List.length_map]; omega) ?_)
        obtain ⟨a, rfl⟩ := Int.eq_ofNat_of_zero_le a0
        obtain ⟨b, rfl⟩ := Int.eq_ofNat_of_zero_le b0
        refine hK' _ _ ⟨arcs ++ [⟨a, b, r, (c - 3, e - 2)⟩], by simp [h1], ?_, ⟨?_⟩, ?_, ?_, _, _, _, rfl⟩
        · intro x hx
          rcases List.mem_append.mp hx with hx | hx
          · exact h2 x hx
          · obtain rfl := List.mem_singleton.mp hx
            exact ⟨by dsimp only; omega, by dsimp only; omega⟩
        · intro x hx
          rcases List.mem_append.mp hx with hx | hx
          · exact h3.b x hx
          · obtain rfl := List.mem_singleton.mp hx
            dsimp only; omega
        · rw [msame h9, List.map_append]; rfl
        · exact F9.kp (S := [pa]) (Kp.set (by simp)) (by simp; omega) (by simp; omega)
  · rintro ρ M4 ⟨arcs, hal, ha, hp, g4, F4, o4, o5, o6, rfl⟩
    with_reducible refine x_join (fun ρ M' => True) ?_ ?_
    · intro K hK
      walk_at "ml"
      refine ⟨by decide, ?_⟩
      refine for_ix (fun i ρ M' => M'[pa]? = some (.lst (arcs.map arcD)) ∧ Feed M' p q ∧ ∃ o7 o8 o9 o10, ρ = [some (.kl (ns.map .int)), some (.ref p), some (.int (n : Nat)), some (.ref pa), o4, o5, o6, o7, o8, o9, o10]) (fun _ _ _ _ => trivial) (fun ρ M' _ => hK _ _ trivial) ?_ ⟨g4, F4, _, _, _, _, rfl⟩
      rintro i d ρ M' K' hd ⟨g5, F5, o7, o8, o9, o10, rfl⟩ hK'
      obtain ⟨rfl, hi⟩ := rng_at hd
      refine x_nm ?_
      walk_at "ml"
      refine lsetting_S (pr := (-3, 4)) F5 (by decide) (by decide) fun M6 t k6 F6 hd hn' => ?_
      have g6 := k6.at_ _ _ (by simp; omega) g5
      dsimp only
      walk_at "sx"
      walk_at "sx"
      walk_at "mq"
      have k7 : Kp [] M6 (M6 ++ [O.lst (arcs.map arcD)]) := .app
      have g7 := k7.at_ _ _ (by simp) g6
      have h7 : (M6 ++ [O.lst (arcs.map arcD)])[M6.length]? = some (.lst (arcs.map arcD)) := mnew
      have F7 := F6.kp k7 (by simp) (by simp)
      generalize M6.length = ph at *
      generalize M6 ++ [O.lst (arcs.map arcD)] = M7 at *
      dsimp only
      walk_at "sx"
      walk_at "sx"
      refine x_call (x_argsP (x_cons (x_var rfl (x_cons (x_var rfl (x_cons (x_var rfl (x_nil (x_len rfl rfl ?_)))))))))
      have sf : ∀ {M : Mem} {z : Nat}, M[z]? = some (.lst (arcs.map arcD)) → See M 20 (.ref z) (.list (toPyL (arcs.map arcD))) := fun h => see_lst (k := 19) h fun d hd => by
        obtain ⟨a, _, rfl⟩ := List.mem_map.mp hd
        exact fine_arcD
      refine l_ring_at ⟨by omega, by omega⟩ (by omega) (by omega) h7 ha (by omega) (fun M8 k8 st => ?_) (fun M8 y R k8 hy gy hR rg => ?_)
      · have g8 := k8.at_ _ _ (by simp) g7
        have h8 := k8.at_ _ _ (by simp) h7
        walk_at "sx"
        refine x_ifS (x_b (x_op (x_var rfl (x_var rfl (ne_same (sf h8) (sf g8) ?_)))))
        refine if_f (x_next ?_)
        dsimp only
        refine x_ifS (x_b (x_op (x_var rfl (x_c (o_isN ?_)))))
        refine if_t ?_
        refine x_ifS (x_not (x_tru (x_call (x_argsP (x_cons (x_var rfl (x_cons (x_var rfl (x_cons (x_var rfl (x_nil (x_len rfl rfl ?_)))))))))))) 
        refine l_Lsettles (by omega) (by omega) g8 ha hp st fun M9 k9 => ?_
        refine o_truB (if_nt (x_next ?_))
        exact hK' _ _ ⟨k9.at_ _ _ (by simp) g8, (F7.kp k8 (by simp) (by simp)).kp k9 (by simp) (by simp), _, _, _, _, rfl⟩
      · have g8 := k8.at_ _ _ (by simp) g7
        have h8 := k8.at_ _ _ (by simp) h7
        walk_at "sx"
        refine x_ifS (x_b (x_op (x_var rfl (x_var rfl (ne_same (sf h8) (sf g8) ?_)))))
        refine if_f (x_next ?_)
        dsimp only
        refine x_ifS (x_b (x_op (x_var rfl (x_c (o_isN ?_)))))
        refine if_f ?_
        refine x_ifS (x_not (x_tru (x_call (x_argsP (x_cons (x_var rfl (x_cons (x_var rfl (x_cons (x_var rfl (x_nil (x_len rfl rfl ?_))))))))))))
        refine l_Lis_ring (by omega) (by omega) g8 gy hp (by omega) rg fun M9 k9 => ?_
        refine o_truB (if_nt (x_next ?_))
        exact hK' _ _ ⟨k9.at_ _ _ (by simp) g8, (F7.kp k8 (by simp) (by simp)).kp k9 (by simp) (by simp), _, _, _, _, rfl⟩
    · rintro ρ M' _
      exact x_ret (x_c rfl)
end Prf

theorem PySem.Challenge.cw_dialweir_k36_whole_ring_or_none_holds : PySem.Challenge.rw_dialweir_k36_whole_ring_or_none.Holds :=
  Prf.cw_pre Prf.law_holds
