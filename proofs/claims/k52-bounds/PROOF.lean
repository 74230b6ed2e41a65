import PyProof.Rows.All
import PySem.Challenge.RW_notesttells_k52_bounds_of_boxes
import Wide.All
import OpenK.AllK
import Wide.FinOn
import KE.KCallOwn
import KE.KOpsOwn
import PyProof.InstNe
import HandS.ForMost
import HandS.OwnEq
import HandS.Defaults
import KE.KFmtOwn
import PyProof.NeKinds
import KE.KExcSuper
import KE.KFromBytes
import HandS.Exc
import HandS.ExcSuper
import HandS.ExcInit
import HandS.ExcOwn
import HandS.TryOnly
import HandS.WordsExc
import HandS.HeadWalk
import HandS.ExcIs
import HandS.IsInst
import KE.KStateDown
import HandS.Head0
import HandS.Head1
import HandS.Head2
import HandS.HeadEnd
import HandS.HeadHook1
import HandS.HeadHook2
import HandS.ForExc
import HandS.Wide
import HandS.MakeKwOnly
import HandS.Flow
import HandS.Conv
import HandS.TupAny
import HandS.Style
import HandS.FStr
import HandS.Steps
import HandS.Comp
import HandS.MakeKw
import HandS.Zip
import HandS.Text
import KE.GoesNew
import KE.KDictZip
import KE.GoesEnum
import HandS.HotCalls
import HandS.More
import HandS.Replace
import HandS.ReplaceLit
import HandS.Deep
import KE.SortData
import HandS.Star
import HandS.RevRange
import KE.KRevSl
import HandS.RaiseMore
set_option Elab.async false
set_option linter.all false
set_option maxRecDepth 100000
set_option maxHeartbeats 0
set_option exponentiation.threshold 20000
namespace L2.My
open PySem PySem.Spec PyProof.Rows L2
section
variable {X : Cx} {CX : CXT} {n f C : Nat} {fd : FuncData} {ps : List Str} {sp : Sp} {E : XK}
def TwoIns (C : Addr) (x y : V) (H : Hp) : Prop := ∃ a b dx dy fs gs, x = .ref a ∧ y = .ref b ∧ H a = some (.ins C dx fs) ∧ H b = some (.ins C dy gs)
def rOwn (C : Addr) (sp : Sp) (E : XK) : R2 := fun x y H Q => TwoIns C x y H ∧ sp [x, y] H Q E
abbrev Eqb := V → V → Hp → Bool → Prop
def Monb (D : Eqb) : Prop := ∀ x y H H' b, Ext H H' → D x y H b → D x y H' b
def EqB (X : Cx) (n : Nat) (D : Eqb) : Prop :=
  ∀ (A : Around) (pins : List (Addr × Obj)) (s : Shared) (σ : St) (H : Hp) (x y : V) (u v : Value) (b : Bool), Sub X n A → Inv X pins σ H s → RelV x u → RelV y v → D x y H b →
    wpAny (model X.prog X.w) A (eqBool u v) (fun r s' => r = b ∧ ∃ H', Inv X pins σ H' s' ∧ Ext H H') X.xe s
def RcB (X : Cx) (n : Nat) (ne : Bool) (D : Eqb) : Prop :=
  ∀ (A : Around) (pins : List (Addr × Obj)) (s : Shared) (σ : St) (H : Hp) (x y : V) (u v : Value) (b : Bool), Sub X n A → Inv X pins σ H s → RelV x u → RelV y v → D x y H b →
    wpAny (model X.prog X.w) A (richCompare (if ne then .NotEq else .Eq) u v) (fun r s' => r = .bool (ne ^^ b) ∧ ∃ H', Inv X pins σ H' s' ∧ Ext H H') X.xe s
theorem EqB.imp {D D' : Eqb} (h : EqB X n D) (hd : ∀ x y H b, D' x y H b → D x y H b) : EqB X n D' := fun A pins s σ H x y u v b sb I rx ry d => h A pins s σ H x y u v b sb I rx ry (hd x y H b d)
theorem EqB.mono {m : Nat} {D : Eqb} (h : EqB X n D) (hn : n ≤ m) : EqB X m D := fun A pins s σ H x y u v b sb => h A pins s σ H x y u v b (sb.mono hn)
theorem RcB.mono {m : Nat} {ne : Bool} {D : Eqb} (h : RcB X n ne D) (hn : n ≤ m) : RcB X m ne D := fun A pins s σ H x y u v b sb => h A pins s σ H x y u v b (sb.mono hn)
def DFlatb : Eqb := fun x y _ b => flatV x = true ∧ flatV y = true ∧ eqV x y = b
def DInsb (C : Addr) (R : Addr → Addr → Hp → Bool → Prop) : Eqb := fun x y H r => ∃ a b dx dy fs gs, x = .ref a ∧ y = .ref b ∧ H a = some (.ins C dx fs) ∧ H b = some (.ins C dy gs) ∧ R a b H r
def spEqb (R : Addr → Addr → Hp → Bool → Prop) : Sp := fun vs H Q _ => ∃ a b r, vs = [.ref a, .ref b] ∧ R a b H r ∧ ∀ H', Ext H H' → Q (.bl r) H'
end
end L2.My
namespace PySem.W
open PySem PySem.Calls PyProof.Rows
section
variable {prog : Program} {w : World} {A : Around} {E : Value → Shared → Prop} {s : Shared} {K : Frag} {x y C L f : Addr} {h₀ : Heap} {m : Str → Option Value} {ox : Obj} {od : Option Obj}
open Builtin in
theorem myNeBuiltin {Q : Value → Shared → Prop} (hu : A.in1.units < cLine) (X : K.In s.heap) (I : InstAt s.heap x ox C od) (hm : mroIn K C (.type "object") = some true) (hr : findIn K (.ref C) "__eq__" = some (some (.ref f))) (hf : isFn K (.ref f) = true)
    (h : wpAny (model prog w) A.in1 (call (.ref f) [.ref x, .ref y]) (fun v s' => ∃ b, v = .bool b ∧ Q (.bool (!b)) s') E s) : wpAny (model prog w) A (call (.builtin "object.__ne__") [.ref x, .ref y]) Q E s := by
  refine wpAny_call (codeAny_call_builtin PySem.F.slot_object_ne.plain F.cmpEntry_ne (check_slot (i := "object.__ne__") (owner := "object") (n := "__ne__") F.cmpKind_ne F.cmpSplit_ne (I.type.andThen (looks_mroIn X hm)) (F.cmpArgs_ne _ _) ?_))
  unfold Builtin.«object.__ne__»
  repeat (first
    | with_reducible refine wpAny_cRoomFor hu ?_
    | (refine wpAny_bind (m := callSpecialIfBound? (.ref x) (Str.ofString "__eq__") [.ref y])
        (ifBound_K X I hr hf (wpAny_mono h (fun r s' hr => by
          obtain ⟨b, rfl, hq⟩ := hr
          repeat (first | exact hq | exact wpAny_pure hq | exact wpAny_truthy_bool hq | (refine wpAny_bind (m := truthy (.bool _)) (wpAny_truthy_bool ?_)) | wp_step)) fun _ _ e => e)))
    | wp_step)
end
end PySem.W

namespace L2.My
open PySem PySem.Spec PyProof.Rows L2
section
variable {X : Cx} {CX : CXT} {n f C : Nat} {fd : FuncData} {ps : List Str} {sp : Sp} {E : XK}
structure NeC (K : PySem.W.Frag) (C : Addr) : Prop where
  ne : PySem.W.findIn K (.ref C) "__ne__" = some (some (.builtin "object.__ne__"))
  ob : PySem.W.mroIn K C (.type "object") = some true
end
end L2.My
namespace GQ
open PySem PySem.SeqAt
open AutoSeq1 (wpAny_loadPart')
open MeetsSeq MeetsSeq2 MeetsSeq3 SeqRoads2
section
variable {prog : Program} {w : World} {A : Around} {R : Result → Shared → Prop}
def ListB (prog : Program) (w : World) (A : Around) (E : Value → Shared → Prop) (l b : Addr) (N : Nat) (f : Nat → Bool) (I : Nat → Shared → Prop) : Prop :=
  ∀ i s, I i s → ∃ (items items2 : Array Value) (n n2 : Nat), s.heap.get? l = some { cls := .type "list", data := .seq items n } ∧ s.heap.get? b = some { cls := .type "list", data := .seq items2 n2 } ∧ items.size = N ∧ items2.size = N ∧
    ∀ (h1 : i < items.size) (h2 : i < items2.size), wpAny (model prog w) A.in1 (eqBool items[i] items2[i]) (fun r s' => r = f i ∧ I (i + 1) s') E s
end
end GQ
namespace L2.My
open PySem PySem.Spec PyProof.Rows L2
section
variable {X : Cx} {n m : Nat} {D D' : Eqb}
def Prsb (D : Eqb) (xs ys : List V) (H : Hp) (f : Nat → Bool) : Prop := ∀ (i : Nat) x y, xs[i]? = some x → ys[i]? = some y → D x y H (f i)
def rowB (m n : Nat) (f : Nat → Bool) : Bool := decide (m = n) && (List.range m).all f
def DListb (D : Eqb) : Eqb := fun x y H b => ∃ p q xs ys f, x = .ref p ∧ y = .ref q ∧ H p = some (.lst xs) ∧ H q = some (.lst ys) ∧ Prsb D xs ys H f ∧ b = rowB xs.length ys.length f
def DTupb (D : Eqb) : Eqb := fun x y H b => ∃ p q xs ys f, x = .ref p ∧ y = .ref q ∧ H p = some (.tup xs) ∧ H q = some (.tup ys) ∧ Prsb D xs ys H f ∧ b = rowB xs.length ys.length f
def Reflb (D : Eqb) : Prop := ∀ x H b, D x x H b → b = true
end
end L2.My
namespace L2.My
open PySem PySem.Spec PyProof.Rows L2
section
variable {X : Cx} {CX : CXT} {n f C : Nat} {fd : FuncData} {ps : List Str} {sp : Sp} {E : XK}
def rStrOwn (C : Addr) (sp : Sp) (E : XK) : List V → Hp → VK → Prop := fun vs H Q => ∃ a dx fs, vs = [.ref a] ∧ H a = some (.ins C dx fs) ∧ sp [.ref a] H (fun v H' => (∃ z, v = .str z) ∧ Q v H') E
end
end L2.My
namespace PySem
namespace SupX
open PySem.W PySem.Calls PyProof.Rows PySem.HandSPX
section
variable {prog : Program} {w : World} {A : Around} {E : Value → Shared → Prop} {h : Heap} {g : Array GenState} {d : Drawn} {t : Nat} {os : OsState}
variable {nm q : Str} {C N : Addr} {bs bm : List Value} {hdct : Bool} {sn : List Str} {sub : List Value} {ab : Bool} {col : Option Bool} {dd : Option Addr} {k0 k1 k2 k3 k5 : Option Value}
theorem call_bwV {u e t0 : Addr} {rest : List Value} {Q : Value → Shared → Prop}
    (hC : h.get? C = some (excClassObj nm q C N bs bm hdct sn sub ab col dd k0 k1 k2 k3 k5 "ValueError.__new__")) (he : h.get? e = some (HandSPX.excO C t0)) (hu : h.get? u = some (kxs_mw "ValueError.__init__" e)) (hrest : rest.length ≤ sizeLine)
    (hq : ∀ h' t1, (∀ b o, b ≠ e → h.get? b = some o → h'.get? b = some o) → h'.get? e = some (HandSPX.excO C t1) → Q .none ⟨h', g, d, t, os⟩) :
    wpAny (model prog w) A (call (.ref u) rest) Q E ⟨h, g, d, t, os⟩ := by
  refine wpAny_call (codeAny_of_tree ?_)
  show wpAny _ A.in1 (callAny (.ref u) ⟨rest, []⟩) _ _ _
  simp only [callAny]
  refine wpAny_bind (wpAny_load hu ?_)
  simp only [kxs_mw, show (Value.type "method-wrapper" == Value.type "method" || Value.type "method-wrapper" == Value.type "builtin_function_or_method" || Value.type "method-wrapper" == Value.type "method-wrapper") = true by decide, if_true]
  refine W.KFB.if_so (by decide) ?_
  refine wpAny_bind (ESX.check_bound F.excBase_ValueError hC he rfl ?_)
  refine wpAny_bind (wpAny_pure (wpAny_pure ?_))
  refine ⟨Code.quiet_builtin _ (by decide +kernel), codeAny_builtin F.excBase_ValueError.initEntry ?_⟩
  rw [Around.under_plainId F.excBase_ValueError.init.plain _]
  wp_walk
  refine hq _ h.objs.size (fun b o hb ho => ?_) ?_
  · rw [Heap.get?_update_other _ _ (Ne.symm hb)]
    exact Heap.get?_push_of_some _ ho
  · rw [Heap.get?_update_self _ (Heap.get?_push_of_some _ he) rfl]
    rfl
end
structure GlobS (h : Heap) : Prop where
  g : ∃ mg, h.Ns mainGlobals mg ∧ mg "super" = none
  b : ∃ mb, h.Ns builtinsNs mb ∧ mb "super" = some (.type "super")
theorem GlobS.keeps {h h' : Heap} (G : GlobS h) (k : ∀ b o, h.get? b = some o → h'.get? b = some o) : GlobS h' := by
  obtain ⟨⟨mg, g1, g2⟩, ⟨mb, b1, b2⟩⟩ := G
  exact ⟨⟨mg, g1.keeps k, g2⟩, ⟨mb, b1.keeps k, b2⟩⟩
structure SupTxt (P : Program) (K : Frag) (C fI : Addr) (qual : Str) (params : Arguments) (body : List Stmt) (scope : Scope) : Prop where
  cls : ∃ nm q N bs bm sn sub ab col dd k0 k1 k2 k3 k5, K.lookup C = some (excClassObj nm q C N bs bm true sn sub ab col dd k0 k1 k2 k3 k5 "ValueError.__new__") ∧ refsVE bm = true
  sa : findIn K (.ref C) "__setattr__" = some (some (.builtin "object.__setattr__"))
  ga : findIn K (.ref C) "__getattribute__" = some (some (.builtin "BaseException.__getattribute__"))
  gg : findIn K (.ref C) "__getattr__" = some none
  iC : findIn K (.ref C) "__init__" = some (some (.ref fI))
  tC : typeIn K (.ref fI) = some (.type "function")
  kC : keepIn K (.ref C) = true
  exC : subIn K (.ref C) (.type "BaseException") = some true
  tyC : typeIn K (.ref C) = some (.type "type")
  hdC : hasDictIn K C = true
  suC : ks_superIn K C C "__init__" = some (some (.builtin "ValueError.__init__"))
  veC : subIn K (.ref C) (.type "ValueError") = some true
  moC : mroIn K C (.ref C) = some true
  st : nsIn K cStatics "thirdparty.any" = some none
  top : (P.main.scope.names.lookup ("super" : Str)).isSome = false
  fn : ∃ (oc : Value) (od : Option Addr) (kV doc pm : Value) (an : Option Addr) (cda cc : Addr) (ct : Value) (osl : Array (Option Value)) (ccl : Value) (cdd : Option Addr) (vs : Array Value) (ccs : Array (Option Value)) (file : Str) (tf : Tok) (cl : Value) (cld : Option Addr) (csl : Array (Option Value)),
    K.lookup fI = some ⟨oc, od, .func (ksFn "__init__" qual params body scope .none kV doc pm an (.ref cda) ct cc), osl⟩ ∧ codeIn K (.ref cda) qual = true ∧
    K.lookup cda = some ⟨ccl, cdd, .fields vs, ccs⟩ ∧ vs[2]? = some (.str file tf) ∧ ((P.main.file : Str) == file) = true ∧ K.lookup cc = some ⟨cl, cld, .cell (some (.ref C)), csl⟩
section
variable {prog : Program} {w : World} {A : Around} {E : Value → Shared → Prop} {s : Shared} {K : Frag} {C fI : Addr} {qual : Str} {params : Arguments} {body : List Stmt} {scope : Scope}
theorem sup_inner {L x cda cc t0 : Addr} {m : Str → Option Value} {fb : List Stmt} {ARGS : List (Bool × Sem Value)} {p0 p1 p3 : Pos} {ar : Arg} {fd : FuncData} {oc : Value} {od : Option Addr} {osl : Array (Option Value)} {ccl : Value} {cdd : Option Addr} {vs : Array Value} {ccs : Array (Option Value)} {file : Str} {tf : Tok} {cl : Value} {cld : Option Addr} {csl : Array (Option Value)}
    {whole : Sem Value} {pl : Sem Bool} {Q : Value → Shared → Prop} (T : SupTxt prog K C fI qual params body scope) (X : K.In s.heap) (G : GlobS s.heap) (hns : s.heap.Ns L m) (hx : s.heap.get? x = some (excO C t0)) (hxL : x ≠ L) (hxK : K.lookup x = none)
    (hf : K.lookup fI = some ⟨oc, od, .func fd, osl⟩) (hp : (fd.params.posonlyargs ++ fd.params.args).head? = some ar) (hv : m ar.arg = some (.ref x))
    (hcode : K.lookup cda = some ⟨ccl, cdd, .fields vs, ccs⟩) (hvs : vs[2]? = some (.str file tf)) (hfile : ((prog.main.file : Str) == file) = true) (hcell : K.lookup cc = some ⟨cl, cld, .cell (some (.ref C)), csl⟩)
    (hks : scope.names.lookup ("super" : Str) = some .globalImplicit) (hkc : scope.names.lookup ("__class__" : Str) = some .free) (hka : scope.names.lookup ar.arg = some .local) (hk : scope.kind = .function)
    (hplain : ARGS.any (·.1) = false)
    (hargs : ∀ (s2 : Shared) (R : Args → Shared → Prop), s2.heap.Ns L m → (∀ vs' tk, vs'.length ≤ sizeLine → R ⟨vs', []⟩ { s2 with toks := tk }) → ∀ u, wpAny (model prog w) A (evalArgs u true ARGS []) R E s2)
    (hq : ∀ h' tk t1, (∀ b o, b ≠ x → s.heap.get? b = some o → h'.get? b = some o) → h'.get? x = some (excO C t1) → Q .none { s with heap := h', toks := tk }) :
    wpAt (model prog w) A (.func fb (ksEnv qual scope L fI (.ref cda) cc)) (attributeBase (.Call (.Name "super" p0) [] [] p1) "__init__" (ksEnv qual scope L fI (.ref cda) cc) whole)
      (fun ov s₁ => wpAny (model prog w) A (getMethod ov "__init__" pl) (fun fx s₂ => wpAny (model prog w) A (callWith p3 fx.1 fx.2 ARGS []) Q E s₂) E s₁) E s := by
  obtain ⟨nm, q, N, bs, bm, sn, sub, ab, col, dd, k0, k1, k2, k3, k5, hC, hbm⟩ := T.cls
  have hcl : clsIn K C = some { name := nm, bases := bs, mro := .ref C :: bm, ns := N, qualname := q, hasDict := true, slotNames := sn, subclasses := sub, abstract := ab, collection := col, hasDel := false } := by unfold clsIn; rw [hC] <;> rfl
  obtain ⟨⟨mg, g1, g2⟩, ⟨mb, b1, b2⟩⟩ := G
  have I : InstAt s.heap x (excO C t0) C none := ⟨hx, rfl, rfl, trivial⟩
  have hxC : x ≠ C := ks_ne X I hcl
  refine ks_wpAt_super_base (env := ksEnv qual scope L fI (.ref cda) cc) hks hkc (by decide) rfl (X _ _ hf) rfl hp rfl (X _ _ hcode) rfl hvs hfile T.top ?_
  refine ks_loadName_global hk hks (loadGlobal_builtin (env := ksEnv qual scope L fI (.ref cda) cc) g1 g2 b1 b2 ⟨rfl, ?_⟩)
  refine wpAny_loadName_free hk hkc rfl ⟨_, X _ _ hcell, rfl⟩ ?_
  refine wpAny_loadName_local hk hka hns hv ?_
  obtain ⟨hh, g, dr, tk, os⟩ := s
  refine ks_wpAny_isType_cls (X _ _ hC) rfl ⟨rfl, ?_⟩
  refine ks_wpAny_call_super (X _ _ hC) rfl I.at_ I.cls (fun c e => by cases e) (looks_mroIn X T.moC) (fun h' e k => ?_)
  have X' : K.In h' := X.keeps k
  have I' : InstAt h' x (excO C t0) C none := ⟨k _ _ hx, rfl, rfl, trivial⟩
  have hm := T.suC
  unfold ks_superIn at hm
  rw [hcl] at hm
  refine kxs_getMethod kxs_ValueError e (looks_opaque X' T.st) (l₀ := .ref C :: bm) ?_ rfl X' hm (I'.type.andThen (looks_subIn X' T.veC)) hxC (by decide) ?_
  · exact fun A Q E s k q => wpAny_bind ((looks_clsIn X' hcl) A _ E s k (wpAny_pure q))
  have k2 : ∀ b o, hh.get? b = some o → (h'.push (kxs_mw "ValueError.__init__" x)).get? b = some o := fun b o e => Heap.get?_push_of_some _ (k b o e)
  refine kxs_callWith (i := "ValueError.__init__") (x := x) hplain (hargs _ _ (hns.keeps k2) (fun vs' tk' hlen => ?_) _)
  refine ⟨Heap.get?_push_at rfl rfl, ?_⟩
  refine call_bwV (k2 _ _ (X _ _ hC)) (k2 _ _ hx) (Heap.get?_push_at rfl rfl) hlen fun h2 t1 k3 hx2 => ?_
  exact hq h2 _ t1 (fun b o hb hbo => k3 b o hb (k2 b o hbo)) hx2
end
end SupX
end PySem
namespace PySem
namespace SupX
open PySem.W PySem.Calls PyProof.Rows PySem.HandSPX

def arAt (a1 a2 : Pos) : Arguments := { posonlyargs := [], args := [{ arg := "self", annotation := none, pos := a1 }, { arg := "at", annotation := none, pos := a2 }], vararg := none, kwonlyargs := [], kw_defaults := [], kwarg := none, defaults := [] }
def boAt (txt : Str) (j : Nat) (p0 p1 p2 pc p3 p4 q1 q2 q3 q4 : Pos) : List Stmt := [.Expr (.Call (.Attribute (.Call (.Name "super" p0) [] [] p1) "__init__" p2) [(.Constant (.str txt) j pc)] [] p3) p4, .Assign [.Attribute (.Name "self" q1) "at" q2] (.Name "at" q3) q4]
def scAt : Scope := { kind := .function, names := [(PySem.Str.ofString "self", .local), (PySem.Str.ofString "at", .local), (PySem.Str.ofString "__class__", .free), (PySem.Str.ofString "super", .globalImplicit)], isGenerator := false, isCoroutine := false, more := [] }
structure InitAt (h h' : Heap) (x C dx t1 : Addr) (v : Value) : Prop where
  keep : ∀ b o, b ≠ x → h.get? b = some o → h'.get? b = some o
  obj : h'.get? x = some { cls := .ref C, dict := some dx, data := .fields #[.ref t1, .none, .none, .none, .bool false, .none] }
  dbig : h.objs.size ≤ dx
  dne : dx ≠ x
  ns : h'.Ns1 dx (fun y => if y = "at" then some v else none)
structure MadeAt (h h' : Heap) (e C d : Addr) (v : Value) : Prop where
  keep : ∀ b o, h.get? b = some o → h'.get? b = some o
  new : h.objs.size ≤ e
  obj : ∃ oe vs, h'.get? e = some oe ∧ oe.cls = .ref C ∧ oe.dict = some d ∧ oe.data = .fields vs ∧ vs[1]? = some .none
  dbig : h.objs.size ≤ d
  dne : d ≠ e
  ns : h'.Ns1 d (fun y => if y = "at" then some v else none)
theorem scAt_cell : ∀ x ∈ scAt.names, x.2 ≠ .cell := by decide +kernel
theorem scAt_sup : scAt.names.lookup ("super" : Str) = some .globalImplicit := by decide +kernel
theorem scAt_cls : scAt.names.lookup ("__class__" : Str) = some .free := by decide +kernel
theorem scAt_self : scAt.names.lookup ("self" : Str) = some .local := by decide +kernel
theorem scAt_fld : scAt.names.lookup ("at" : Str) = some .local := by decide +kernel
theorem scAt_loc {a b : Value} : ∀ x ∈ ([("self", a), ("at", b)] : List (Str × Value)), scAt.names.lookup x.1 = some .local := fun x hx => by
  rcases List.mem_cons.mp hx with rfl | hx
  · exact scAt_self
  · rcases List.mem_cons.mp hx with rfl | hx
    · exact scAt_fld
    · cases hx
section
variable {prog : Program} {w : World} {A : Around} {E : Value → Shared → Prop} {R : Result → Shared → Prop} {s : Shared} {K : Frag} {C fI : Addr} {qual : Str} {txt : Str} {j : Nat} {a1 a2 p0 p1 p2 pc p3 p4 q1 q2 q3 q4 : Pos}
theorem initAt (T : SupTxt prog K C fI qual (arAt a1 a2) (boAt txt j p0 p1 p2 pc p3 p4 q1 q2 q3 q4) scAt) (hno : findIn K (.ref C) "at" = some none) {x t0 : Addr} {v : Value} (X : K.In s.heap) (G : GlobS s.heap) (hlim : s.heap.NoLimit) (hx : s.heap.get? x = some (excO C t0)) (hnx : K.lookup x = none) (hroom : A.depth < recursionLimit) (hl : (p2.endLine == p3.line) = true)
    (hq : ∀ h' tk dx t1, InitAt s.heap h' x C dx t1 v → R (.ok (.ret .none)) { s with heap := h', toks := tk }) : codeAny (model prog w) A (.call (.ref fI) ⟨[.ref x, v], []⟩) R s := by
  obtain ⟨oc, od, kV, doc, pm, an, cda, cc, ct, osl, ccl, cdd, vs, ccs, file, tf, cl, cld, csl, ho, hcd, hcode, hvs, hfile, hcell⟩ := T.fn
  obtain ⟨nm, q, N, bs, bm, sn, sub, ab, col, dd, k0, k1, k2, k3, k5, hC, hbm⟩ := T.cls
  have hcl : clsIn K C = some { name := nm, bases := bs, mro := .ref C :: bm, ns := N, qualname := q, hasDict := true, slotNames := sn, subclasses := sub, abstract := ab, collection := col, hasDel := false } := by unfold clsIn; rw [hC] <;> rfl
  refine ks_codeAny_call_defAt (binds := [("self", .ref x), ("at", v)]) hroom (X _ _ ho) rfl hlim (codeRec_of X hcd) rfl (BindsTo.of_eq (by first | rfl | with_unfolding_all rfl)) scAt_cell scAt_loc (fun h₁ hn k => ?_) rfl rfl rfl
  have hxL : x ≠ s.heap.objs.size := Nat.ne_of_lt (Heap.lt_size hx)
  have X₁ : K.In h₁ := X.keeps k
  have hx₁ := k _ _ hx
  show wpAt (model prog w) (A.deeper (ksEnv qual scAt s.heap.objs.size fI (.ref cda) cc)) _ (execs (boAt txt j p0 p1 p2 pc p3 p4 q1 q2 q3 q4) (ksEnv qual scAt s.heap.objs.size fI (.ref cda) cc)) _ _ _
  refine ks_wpAt_execs_cons (ks_wpAt_Expr_any (ks_wpAt_MethodCall (pl := L2.plainOf (.Call (.Name "super" p0) [] [] p1) (ksEnv qual scAt s.heap.objs.size fI (.ref cda) cc)) (sup_inner T X₁ (G.keeps k) hn hx₁ hxL hnx ho rfl (by rfl) hcode hvs hfile hcell scAt_sup scAt_cls scAt_self rfl (by rfl) ?_ fun h₂ tk₂ t1 k₂ hx₂ => ?_)
    (congrArg (fun f => attributeBase (.Call (.Name "super" p0) [] [] p1) "__init__" (ksEnv qual scAt s.heap.objs.size fI (.ref cda) cc) (eval (.Call (.Name "super" p0) [] [] p1) (ksEnv qual scAt s.heap.objs.size fI (.ref cda) cc)) >>= f)
      (funext fun ov => congrArg (fun g => standAt p2.atName >>= fun _ => g) (L2.mcall_line rfl hl)))))
  · intro s2 R' hns2 hR u
    exact evalArgs_plain (Calls.spliced_cons (Calls.Constant_str (pos := pc) (k := j) (Calls.spliced_nil (hR _ _ (by rw [sizeLine_eq]; exact (by decide : 1 ≤ 16777216))))))
  · have X₂ : K.In h₂ := fun a o e => k₂ a o (fun z => by rw [z, hnx] at e; cases e) (X₁ a o e)
    have hn₂ : h₂.Ns s.heap.objs.size (fun x_1 => ([("self", .ref x), ("at", v)] : List (Str × Value)).reverse.lookup x_1) := by
      obtain ⟨oL, es, ep, hL, r⟩ := hn
      exact ⟨oL, es, ep, k₂ _ _ hxL.symm hL, r⟩
    refine ks_wpAt_execs_cons (ks_wpAt_Assign_Attr (wpAt_of_wpAny ?_))
    refine wpAny_Name (wpAny_loadName_local (v := v) rfl scAt_fld hn₂ (by first | rfl | with_unfolding_all rfl | kernel_rfl) ?_) (by decide)
    refine wpAny_Name (wpAny_loadName_local (v := .ref x) rfl scAt_self hn₂ (by first | rfl | with_unfolding_all rfl | kernel_rfl) ?_) (by decide)
    refine set_plain X₂ (ox := excO C t1) (od := none) ⟨hx₂, rfl, rfl, trivial⟩ T.sa ?_
    refine exc_osa X₂ hx₂ hcl (show refsVE (.ref C :: bm) = true from hbm) rfl hno (fun h₃ tk₃ dx k₃ dn dne hx₃ hn₃ => ?_)
    refine wpAt_of_wpAny (wpAny_execs_nil (hq h₃ tk₃ dx t1 ⟨fun b o hb e => k₃ b o hb (k₂ b o hb (k b o e)), hx₃, ?_, dne, hn₃⟩))
    have z : s.heap.objs.size < h₂.objs.size := hn₂.lt
    exact Nat.le_of_lt (Nat.lt_of_lt_of_le z dn)
end

def arWhat (a1 a2 : Pos) : Arguments := { posonlyargs := [], args := [{ arg := "self", annotation := none, pos := a1 }, { arg := "what", annotation := none, pos := a2 }], vararg := none, kwonlyargs := [], kw_defaults := [], kwarg := none, defaults := [] }
def boWhat (p0 p1 p2 pc p3 p4 q1 q2 q3 q4 : Pos) : List Stmt := [.Expr (.Call (.Attribute (.Call (.Name "super" p0) [] [] p1) "__init__" p2) [(.Name "what" pc)] [] p3) p4, .Assign [.Attribute (.Name "self" q1) "what" q2] (.Name "what" q3) q4]
def scWhat : Scope := { kind := .function, names := [(PySem.Str.ofString "self", .local), (PySem.Str.ofString "what", .local), (PySem.Str.ofString "__class__", .free), (PySem.Str.ofString "super", .globalImplicit)], isGenerator := false, isCoroutine := false, more := [] }
structure InitWhat (h h' : Heap) (x C dx t1 : Addr) (v : Value) : Prop where
  keep : ∀ b o, b ≠ x → h.get? b = some o → h'.get? b = some o
  obj : h'.get? x = some { cls := .ref C, dict := some dx, data := .fields #[.ref t1, .none, .none, .none, .bool false, .none] }
  dbig : h.objs.size ≤ dx
  dne : dx ≠ x
  ns : h'.Ns1 dx (fun y => if y = "what" then some v else none)
structure MadeWhat (h h' : Heap) (e C d : Addr) (v : Value) : Prop where
  keep : ∀ b o, h.get? b = some o → h'.get? b = some o
  new : h.objs.size ≤ e
  obj : ∃ oe vs, h'.get? e = some oe ∧ oe.cls = .ref C ∧ oe.dict = some d ∧ oe.data = .fields vs ∧ vs[1]? = some .none
  dbig : h.objs.size ≤ d
  dne : d ≠ e
  ns : h'.Ns1 d (fun y => if y = "what" then some v else none)
section
variable {prog : Program} {w : World} {A : Around} {E : Value → Shared → Prop} {R : Result → Shared → Prop} {s : Shared} {K : Frag} {C fI : Addr} {qual : Str} {a1 a2 p0 p1 p2 pc p3 p4 q1 q2 q3 q4 : Pos}
end

def arNon (a1 : Pos) : Arguments := { posonlyargs := [], args := [{ arg := "self", annotation := none, pos := a1 }], vararg := none, kwonlyargs := [], kw_defaults := [], kwarg := none, defaults := [] }
def boNon (txt : Str) (j : Nat) (p0 p1 p2 pc p3 p4 : Pos) : List Stmt := [.Expr (.Call (.Attribute (.Call (.Name "super" p0) [] [] p1) "__init__" p2) [(.Constant (.str txt) j pc)] [] p3) p4]
def scNon : Scope := { kind := .function, names := [(PySem.Str.ofString "self", .local), (PySem.Str.ofString "__class__", .free), (PySem.Str.ofString "super", .globalImplicit)], isGenerator := false, isCoroutine := false, more := [] }
structure InitNon (h h' : Heap) (x C t1 : Addr) : Prop where
  keep : ∀ b o, b ≠ x → h.get? b = some o → h'.get? b = some o
  obj : h'.get? x = some { cls := .ref C, data := .fields #[.ref t1, .none, .none, .none, .bool false, .none] }
structure MadeNon (h h' : Heap) (e C : Addr) : Prop where
  keep : ∀ b o, h.get? b = some o → h'.get? b = some o
  new : h.objs.size ≤ e
  obj : ∃ oe vs, h'.get? e = some oe ∧ oe.cls = .ref C ∧ oe.dict = none ∧ oe.data = .fields vs ∧ vs[1]? = some .none
section
variable {prog : Program} {w : World} {A : Around} {E : Value → Shared → Prop} {R : Result → Shared → Prop} {s : Shared} {K : Frag} {C fI : Addr} {qual : Str} {txt : Str} {j : Nat} {a1 p0 p1 p2 pc p3 p4 : Pos}
end
end SupX
end PySem
namespace PySem
namespace SupX

section
open PySem.W PySem.Calls PyProof.Rows PySem.HandSPX
variable {prog : Program} {w : World} {A : Around} {E : Value → Shared → Prop} {R : Result → Shared → Prop} {s : Shared} {K : Frag} {C fI : Addr} {qual : Str} {txt : Str} {j : Nat} {a1 a2 p0 p1 p2 pc p3 p4 q1 q2 q3 q4 : Pos}
theorem madeAt (T : SupTxt prog K C fI qual (arAt a1 a2) (boAt txt j p0 p1 p2 pc p3 p4 q1 q2 q3 q4) scAt) (hno : findIn K (.ref C) "at" = some none) {v : Value} (X : K.In s.heap) (G : GlobS s.heap) (hlim : s.heap.NoLimit) (hroom : A.depth + 1 < recursionLimit) (hl : (p2.endLine == p3.line) = true)
    (hq : ∀ h' tk e d, MadeAt s.heap h' e C d v → R (.ok (.ret (.ref e))) { s with heap := h', toks := tk }) : codeAny (model prog w) A (.call (.ref C) ⟨[v], []⟩) R s := by
  obtain ⟨nm, q, N, bs, bm, sn, sub, ab, col, dd, k0, k1, k2, k3, k5, hC, hbm⟩ := T.cls
  obtain ⟨hp, g, dr, tk, os⟩ := s
  have k : ∀ b o, hp.get? b = some o → ((hp.push (kdv_tup [v])).push (excO C hp.objs.size)).get? b = some o := fun b o e => Heap.get?_push_of_some _ (Heap.get?_push_of_some _ e)
  have hget : ((hp.push (kdv_tup [v])).push (excO C hp.objs.size)).get? (hp.objs.size + 1) = some (excO C hp.objs.size) := by heap_get
  have hnx : K.lookup (hp.objs.size + 1) = none := by
    cases e : K.lookup (hp.objs.size + 1) with
    | none => rfl
    | some o =>
      have z : hp.get? (hp.objs.size + 1) = some o := X _ _ e
      exact absurd (Nat.lt_of_succ_lt (Heap.lt_size z)) (Nat.lt_irrefl _)
  refine call_own F.excBase_ValueError (fun X => refsVE_contains X bm hbm) (X _ _ hC) (looks_findIn X T.iC) (fun self => bind_fn X self T.tC) (by rw [sizeLine_eq]; exact (by decide : 1 ≤ 16777216)) ?_
  refine initAt (s := ⟨(hp.push (kdv_tup [v])).push (excO C hp.objs.size), g, dr, tk, os⟩) T hno (X.keeps k) (G.keeps k) (hlim.keeps k) hget hnx ?_ hl fun h' tk' dx t1 ⟨k', hx, dn, dne, hns⟩ => ?_
  · show A.depth + 1 < recursionLimit
    exact hroom
  · have old : ∀ b o, hp.get? b = some o → h'.get? b = some o := fun b o e => k' b o (Nat.ne_of_lt (Nat.lt_succ_of_lt (Heap.lt_size e))) (k b o e)
    have z : hp.objs.size + 1 + 1 ≤ dx := by
      first
        | (simpa only [Heap.size_push] using dn)
        | exact dn
        | (have q := dn; rw [Heap.size_push, Heap.size_push] at q; exact q)
    exact ⟨rfl, hq h' tk' (hp.objs.size + 1) dx ⟨old, Nat.le_succ _, ⟨_, _, hx, rfl, rfl, rfl, rfl⟩, Nat.le_trans (Nat.le_trans (Nat.le_succ _) (Nat.le_succ _)) z, dne, hns⟩⟩
end

section
open PySem.W PySem.Calls PyProof.Rows PySem.HandSPX
variable {prog : Program} {w : World} {A : Around} {E : Value → Shared → Prop} {R : Result → Shared → Prop} {s : Shared} {K : Frag} {C fI : Addr} {qual : Str} {a1 a2 p0 p1 p2 pc p3 p4 q1 q2 q3 q4 : Pos}
end

section
open PySem.W PySem.Calls PyProof.Rows PySem.HandSPX
variable {prog : Program} {w : World} {A : Around} {E : Value → Shared → Prop} {R : Result → Shared → Prop} {s : Shared} {K : Frag} {C fI : Addr} {qual : Str} {txt : Str} {j : Nat} {a1 p0 p1 p2 pc p3 p4 : Pos}
end
end SupX
end PySem
namespace L2
open PySem PySem.Spec PyProof.Rows
theorem globS_of {X : Cx} {pins : List (Addr × Obj)} {σ : L2.St} {H : Hp} {s : Shared} (I : Inv X pins σ H s) (hm : X.mg "super" = none) : PySem.SupX.GlobS s.heap := by
  obtain ⟨mb, h1, h2⟩ := I.mod.blt
  exact ⟨⟨_, I.mod.glob.keeps I.bk, hm⟩, ⟨mb, h1.keeps I.bk, (h2 "super" (by decide)).trans (by decide +kernel)⟩⟩

section
variable {X : Cx} {C fI : Addr} {qual x : Str} {txt : Str} {j : Nat} {a1 a2 p0 p1 p2 pc p3 p4 q1 q2 q3 q4 : Pos}
def tMkAt (C : Addr) (ta : TA) : L2.St → Hp → XK → Prop := fun σ H Q => ta σ H fun vs H1 => ∃ v, vs = [v] ∧ ∀ d, H1 d = none → Q (.ref C) (some d) (upd H1 d (.xd [(("at" : Str), v)]))
theorem relO_At {v : V} {v' : Value} (r : RelV v v') (f : Str) : RelO (List.lookup f [(("at" : Str), v)]) (if f = "at" then some v' else none) := by
  by_cases hw : f = "at"
  · subst hw
    rw [if_pos rfl]
    have q : List.lookup ("at" : Str) [(("at" : Str), v)] = some v := by simp [List.lookup]
    rw [q]
    exact r
  · rw [if_neg hw]
    have qw : (f == ("at" : Str)) = false := by simpa using hw
    have q2 : List.lookup f [(("at" : Str), v)] = none := by simp [List.lookup, qw]
    rw [q2]
    trivial
theorem pmk_At {a : Expr} {ta : TA} {p pos : Pos} {k : Nat} (T : PySem.SupX.SupTxt X.prog X.K C fI qual (PySem.SupX.arAt a1 a2) (PySem.SupX.boAt txt j p0 p1 p2 pc p3 p4 q1 q2 q3 q4) PySem.SupX.scAt) (hno : PySem.W.findIn X.K (.ref C) "at" = some none) (hm : X.mg x = some (.ref C)) (hsu : X.mg "super" = none) (hl : (p2.endLine == p3.line) = true) (hr : Room k X.A) (ha : PA X [a] ta) (hg : Gl X x := by rfl)
    (he : starEach (a :: []) X.env = (false, eval a X.env) :: starEach [] X.env := by rfl) (hpl : (backTo pos (starEach [] X.env)).any (·.1) = false := by rfl) (hd : (x == ("__debug__" : Str)) = false := by decide) :
    PMk X (.Call (.Name x p) [a] [] pos) (tMkAt C ta) := by
  intro pins s σ H Q I h
  refine wpAny_Call_Name_kw (ld_glob I hg hm ?_ hd)
  refine PySem.W.callWith_K (h₀ := X.base) I.ok.mod.kin T.kC (thn (ha.run pos pins s σ H _ I h) fun us s1 hh => ?_) he hpl
  obtain ⟨vs, H1, I1, r1, v, ev, q1⟩ := hh
  subst ev
  refine ⟨I1.kIn, ?_⟩
  cases r1 with
  | cons rv rn =>
    rename_i v' us'
    cases rn
    show wpAny _ _ (call (.ref C) [v']) _ _ _
    have hlim := I1.nolimit
    have G := globS_of I1 hsu
    obtain ⟨hp, g, dr, tk, os⟩ := s1
    refine wpAny_call (PySem.SupX.madeAt T hno I1.kIn G hlim (by have := hr.dp; omega) hl fun h' tk' e d M => ?_)
    show MkP X pins σ Q (.ref e) ⟨h', g, dr, tk', os⟩
    obtain ⟨oe, fv, hoe, hc, hd, hdat, h1⟩ := M.obj
    have hns := M.ns
    obtain ⟨G', g1, g2⟩ := restrict h' fun b => decide (b ≠ e)
    have gk : ∀ b, b ≠ e → G'.get? b = h'.get? b := fun b hb => g1 b (decide_eq_true hb)
    have ge : G'.get? e = none := g2 e (by simp)
    have old : ∀ b o, hp.get? b = some o → G'.get? b = some o := fun b o q => (gk b (Nat.ne_of_lt (Nat.lt_of_lt_of_le (Heap.lt_size q) M.new))).trans (M.keep b o q)
    have ob : ObjOk X.prog X.w (upd H1 d (.xd [(("at" : Str), v)])) G' d (.xd [(("at" : Str), v)]) :=
      ⟨_, hns.at (fun o q => (gk d M.dne).trans q), fun f => relO_At rv f⟩
    have J : Inv X pins σ (upd H1 d (.xd [(("at" : Str), v)])) ⟨G', g, dr, tk', os⟩ := I1.laid (t' := tk') old M.dbig ob
    refine ⟨e, oe, fv, ⟨G', g, dr, tk', os⟩, _, .ref C, some d, rfl, J, fun b o q => ?_, ge, hoe, ⟨hc, hd⟩, hdat, h1, ?_, rfl, I1.bare, raises_own T.exC T.tyC, q1 d (I1.hok.fresh M.dbig)⟩
    · by_cases hb : b = e
      · have q' : G'.get? b = some o := q
        rw [hb, ge] at q'; cases q'
      · exact (gk b hb).symm.trans q
    · rw [upd_ne (Ne.symm M.dne)]
      exact I1.hok.fresh M.new
def tByAt (C : Addr) (a : Addr) (cls : Value) (d : Option Addr) (te : TE) : TE := fun σ H Q => te σ H fun x H1 => x = .ref a ∧ cls = .ref C ∧ ∃ (dd : Addr) (v : V), d = some dd ∧ H1 dd = some (.xd [(("at" : Str), v)]) ∧ Q v H1
theorem pe_byAt {a : Addr} {oe : Obj} {cls : Value} {d : Option Addr} {pn : List (Addr × Obj)} {e : Expr} {te : TE} {pos : Pos} (T : PySem.SupX.SupTxt X.prog X.K C fI qual (PySem.SupX.arAt a1 a2) (PySem.SupX.boAt txt j p0 p1 p2 pc p3 p4 q1 q2 q3 q4) PySem.SupX.scAt) (hno : PySem.W.findIn X.K (.ref C) "at" = some none) (hz : Zc cls d oe) (hf : ∃ vs, oe.data = .fields vs) (he : PE (X.suite a ((a, oe) :: pn)) e te)
    (hb : attributeBase e "at" X.env (eval e X.env) = eval e X.env := by rfl) :
    PE (X.suite a ((a, oe) :: pn)) (.Attribute e "at" pos) (tByAt C a cls d te) := by
  refine ⟨fun pins s σ H Q I h => ?_⟩
  refine attr_of hb (thn (he.run pins s σ H _ I h) fun u s1 hh => ?_)
  obtain ⟨x, H1, I1, rx, ex, ec, dd, v, ed, ea, q⟩ := hh
  subst ex
  obtain rfl : u = Value.ref a := rx
  subst ec
  subst ed
  obtain ⟨ha, _⟩ := I1.pin (a, oe) (List.mem_append_left _ List.mem_cons_self)
  obtain ⟨vs, hd⟩ := hf
  have hx : ObjOk X.prog X.w H1 s1.heap dd (.xd [(("at" : Str), v)]) := I1.hok dd _ ea
  obtain ⟨mA, hns, hr⟩ := hx
  obtain ⟨od, ho, hl⟩ := lookIn_ns hns
  have l : List.lookup ("at" : Str) [(("at" : Str), v)] = some v := by simp [List.lookup]
  obtain ⟨u, hu, ru⟩ := RelO.some_of (v := v) (o := mA "at") (by rw [← l]; exact hr "at")
  have J : PySem.W.InstAt s1.heap a oe C (some od) := ⟨ha, hz.1, by unfold PySem.W.notCls; rw [hd] <;> rfl, by rw [hz.2]; exact ho⟩
  exact HandSPX.exc_get I1.kIn J T.ga T.gg T.exC (PySem.W.findObj_own T.hdC hno rfl (by rw [hl, hu])) (handed_of ru) ⟨v, H1, I1.tok _, ru, q⟩
end

section
variable {X : Cx} {C fI : Addr} {qual x : Str} {a1 a2 p0 p1 p2 pc p3 p4 q1 q2 q3 q4 : Pos}
def tMkWhat (C : Addr) (ta : TA) : L2.St → Hp → XK → Prop := fun σ H Q => ta σ H fun vs H1 => ∃ v, vs = [v] ∧ ∀ d, H1 d = none → Q (.ref C) (some d) (upd H1 d (.xd [(("what" : Str), v)]))
def tByWhat (C : Addr) (a : Addr) (cls : Value) (d : Option Addr) (te : TE) : TE := fun σ H Q => te σ H fun x H1 => x = .ref a ∧ cls = .ref C ∧ ∃ (dd : Addr) (v : V), d = some dd ∧ H1 dd = some (.xd [(("what" : Str), v)]) ∧ Q v H1
end

section
variable {X : Cx} {C fI : Addr} {qual x : Str} {txt : Str} {j : Nat} {a1 p0 p1 p2 pc p3 p4 : Pos}
def tMkNon (C : Addr) : L2.St → Hp → XK → Prop := fun _ H Q => Q (.ref C) none H
end
end L2
namespace PySem.W
open PySem PySem.Spec PySem.Calls PyProof.Rows
section
variable {prog : Program} {w : World} {A : Around} {E : Value → Shared → Prop} {s : Shared} {K : Frag} {x D : Addr} {ox : Obj}
end
end PySem.W
namespace L2.My
open PySem PySem.Spec PyProof.Rows L2
def DictAt (d : Option Addr) (H : Hp) : Prop := d = none ∨ ∃ dd fs, d = some dd ∧ H dd = some (.xd fs)
def rIsEd (K : PySem.W.Frag) (D a : Addr) (d : Option Addr) : List V → Hp → VK → Prop := fun xs H Q => DictAt d H ∧ ∃ (c : V) (cv : Value) (b : Bool), xs = [.ref a, c] ∧ ClsV c cv ∧ PySem.W.kitOne K (.ref D) cv = some b ∧ Q (.bl b) H
def rIsEdT (K : PySem.W.Frag) (D a : Addr) (d : Option Addr) : List V → Hp → VK → Prop := fun xs H Q => DictAt d H ∧ ∃ (tp : Addr) (cs : List V) (us : List Value) (b : Bool), xs = [.ref a, .ref tp] ∧ H tp = some (.tup cs) ∧ Paired ClsV cs us ∧ PySem.W.kitAny K (.ref D) us = some b ∧ Q (.bl b) H
end L2.My
namespace He
open PySem PySem.Spec PyProof.Rows L2 PySem.W PySem.HandSPX
def supB (P : Program) (K : Frag) (x : Str) : Bool :=
  let C := ga K x
  let f := ma K C "__init__"
  (match K.lookup C with
    | some ⟨.type "type", _, .cls cd, sl⟩ => (match cd.mro, sl.toList with
      | .ref C' :: bm, [_, _, _, _, some (.builtin n), _] => C' == C && (n == "ValueError.__new__" && (!cd.hasDel && (cd.hasDict && refsVE bm)))
      | _, _ => false)
    | _ => false) &&
  (eqO (findIn K (.ref C) "__setattr__") (some (some (.builtin "object.__setattr__"))) && (eqO (findIn K (.ref C) "__getattribute__") (some (some (.builtin "BaseException.__getattribute__"))) &&
  (eqO (findIn K (.ref C) "__getattr__") (some none) && (eqO (findIn K (.ref C) "__init__") (some (some (.ref f))) && (decide (typeIn K (.ref f) = some (.type "function")) && (keepIn K (.ref C) &&
  (decide (subIn K (.ref C) (.type "BaseException") = some true) && (decide (typeIn K (.ref C) = some (.type "type")) && (hasDictIn K C && (eqO (ks_superIn K C C "__init__") (some (some (.builtin "ValueError.__init__"))) &&
  (decide (subIn K (.ref C) (.type "ValueError") = some true) && (decide (mroIn K C (.ref C) = some true) && (eqO (nsIn K cStatics "thirdparty.any") (some none) && (!(P.main.scope.names.lookup ("super" : Str)).isSome &&
  (match K.lookup f with
    | some ⟨_, _, .func fd, _⟩ => (match fd.defaults, fd.code, fd.closure with
      | .none, .ref cda, [("__class__", cc)] => codeIn K (.ref cda) fd.qualname && ((match K.lookup cda with
          | some ⟨_, _, .fields vs, _⟩ => (match (vs : Array Value)[2]? with
            | some (Value.str file _) => ((P.main.file : Str) == file)
            | _ => false)
          | _ => false) && (match K.lookup cc with
          | some ⟨_, _, .cell (some (.ref D)), _⟩ => D == C
          | _ => false))
      | _, _, _ => false)
    | _ => false)))))))))))))))
abbrev FnS : Type := Option (Str × Str × Arguments × FuncBody × Scope × Addr × Addr)
def fnS (K : Frag) (x : Str) : FnS := match K.lookup (ma K (ga K x) "__init__") with
  | some ⟨_, _, .func fd, _⟩ => some (fd.name, fd.qualname, fd.params, fd.body, fd.scope, fd.globals, fd.builtins)
  | _ => none
structure SupD where
  cls : Str
  qual : Str
  params : Arguments
  body : List Stmt
  scope : Scope
def SupD.val (d : SupD) : FnS := some ("__init__", d.qual, d.params, .stmts d.body, d.scope, mainGlobals, builtinsNs)
theorem SupD.txt {P : Program} {K : Frag} {d : SupD} (e : fnS K d.cls = d.val) (c : supB P K d.cls = true) : PySem.SupX.SupTxt P K (ga K d.cls) (ma K (ga K d.cls) "__init__") d.qual d.params d.body d.scope := by
  unfold supB at c
  obtain ⟨c0, c⟩ := ba c
  obtain ⟨c1, c⟩ := ba c
  obtain ⟨c2, c⟩ := ba c
  obtain ⟨c3, c⟩ := ba c
  obtain ⟨c4, c⟩ := ba c
  obtain ⟨c5, c⟩ := ba c
  obtain ⟨c6, c⟩ := ba c
  obtain ⟨c7, c⟩ := ba c
  obtain ⟨c8, c⟩ := ba c
  obtain ⟨c9, c⟩ := ba c
  obtain ⟨c10, c⟩ := ba c
  obtain ⟨c11, c⟩ := ba c
  obtain ⟨c12, c⟩ := ba c
  obtain ⟨c13, c⟩ := ba c
  obtain ⟨c14, c15⟩ := ba c
  refine ⟨?_, eqO_ok c1, eqO_ok c2, eqO_ok c3, eqO_ok c4, of_decide_eq_true c5, c6, of_decide_eq_true c7, of_decide_eq_true c8, c9, eqO_ok c10, of_decide_eq_true c11, of_decide_eq_true c12, eqO_ok c13, by simpa using c14, ?_⟩
  · split at c0
    · rename_i dd cd sl ho
      split at c0
      · rename_i C' bm k0 k1 k2 k3 n k5 hm hs
        simp only [Bool.and_eq_true, beq_iff_eq, Bool.not_eq_true'] at c0
        obtain ⟨rfl, rfl, hdel, hdct, ht⟩ := c0
        obtain ⟨nm, bs, mro, ns, qn, hd, sn, sub, ab, col, del⟩ := cd
        dsimp only at hm hdel hdct
        subst hm hdel hdct
        have hsl : sl = #[k0, k1, k2, k3, some (.builtin "ValueError.__new__"), k5] := by
          obtain ⟨l⟩ := sl
          simp only at hs
          rw [hs]
        subst hsl
        exact ⟨nm, qn, ns, bs, bm, sn, sub, ab, col, dd, k0, k1, k2, k3, k5, ho, ht⟩
      · cases c0
    · cases c0
  · unfold fnS at e
    split at c15
    · rename_i oc od fd osl ho
      rw [ho] at e
      split at c15
      · rename_i cda cc h1 h2 h3
        obtain ⟨d1, d2⟩ := ba c15
        obtain ⟨d2, d3⟩ := ba d2
        split at d2
        · rename_i ccl cdd vs ccs hcode
          split at d2
          · rename_i file tf hvs
            split at d3
            · rename_i cl cld D csl hcell
              have eD : D = ga K d.cls := eq_of_beq d3
              subst eD
              obtain ⟨n1, n2, n3, n4, n5, n6, n7, n8, n9, n10, n11, n12, n13, n14, n15⟩ := fd
              have e2 : (some (n1, n2, n3, n4, n5, n6, n15) : FnS) = some (("__init__" : Str), d.qual, d.params, FuncBody.stmts d.body, d.scope, mainGlobals, builtinsNs) := e
              simp only [Option.some.injEq, Prod.mk.injEq] at e2
              obtain ⟨z1, z2, z3, z4, z5, z6, z7⟩ := e2
              dsimp only at h1 h2 h3 d1
              subst z1 z2 z3 z4 z5 z6 z7 h1 h2 h3
              exact ⟨oc, od, n9, n10, n11, n12, cda, cc, n14, osl, ccl, cdd, vs, ccs, file, tf, cl, cld, csl, ho, d1, hcode, hvs, d2, hcell⟩
            · cases d3
          · cases d2
        · cases d2
      · cases c15
    · cases c15
def excB (K : Frag) (x : Str) : Bool :=
  let D := ga K x
  eqO (findIn K (.ref D) "__getattribute__") (some (some (.builtin "BaseException.__getattribute__"))) && (eqO (findIn K (.ref D) "__getattr__") (some none) && (decide (subIn K (.ref D) (.type "BaseException") = some true) && (hasDictIn K D &&
  (eqO (findIn K (.ref D) "__class__") (some (some (.builtin "object.__class__"))) && (eqO (specialIn K (.builtin "object.__class__") "__get__") (some (some (.builtin "getset_descriptor.__get__"))) &&
  (decide (takesIn K (.builtin "object.__class__") = some true) && decide (mroIn K D (.type "object") = some true)))))))
theorem excB_ok {K : Frag} {x : Str} (c : excB K x = true) : ExcC K (ga K x) := by
  unfold excB at c
  obtain ⟨c1, c⟩ := ba c
  obtain ⟨c2, c⟩ := ba c
  obtain ⟨c3, c⟩ := ba c
  obtain ⟨c4, c⟩ := ba c
  obtain ⟨c5, c⟩ := ba c
  obtain ⟨c6, c⟩ := ba c
  obtain ⟨c7, c8⟩ := ba c
  exact ⟨eqO_ok c1, eqO_ok c2, of_decide_eq_true c3, c4, eqO_ok c5, eqO_ok c6, of_decide_eq_true c7, of_decide_eq_true c8⟩
def opsB (K : Frag) (x : Str) : Bool :=
  let C := ga K x
  selfFirst K C && (eqO (findIn K (.ref C) "__ne__") (some (some (.builtin "object.__ne__"))) && decide (mroIn K C (.type "object") = some true))
theorem opsB_ok {K : Frag} {x : Str} (c : opsB K x = true) : selfFirst K (ga K x) = true ∧ L2.My.NeC K (ga K x) := by
  unfold opsB at c
  obtain ⟨c1, c⟩ := ba c
  obtain ⟨c2, c3⟩ := ba c
  exact ⟨c1, eqO_ok c2, of_decide_eq_true c3⟩
def clsB (K : Frag) (x : Str) : Bool :=
  let D := ga K x
  eqO (findIn K (.ref D) "__class__") (some (some (.builtin "object.__class__"))) && (eqO (specialIn K (.builtin "object.__class__") "__get__") (some (some (.builtin "getset_descriptor.__get__"))) &&
  (decide (takesIn K (.builtin "object.__class__") = some true) && decide (mroIn K D (.type "object") = some true)))
def kitRR (K : Frag) (x y : Str) (b : Bool) : Bool := decide (kitOne K (.ref (ga K x)) (.ref (ga K y)) = some b)
def kitRT (K : Frag) (x : Str) (y : String) (b : Bool) : Bool := decide (kitOne K (.ref (ga K x)) (.type y) = some b)
def kitTR (K : Frag) (x : String) (y : Str) (b : Bool) : Bool := decide (kitOne K (.type x) (.ref (ga K y)) = some b)
abbrev AlM : Type := Bool × List FnW × List FnS
def frM (g : Addr → Option Obj) (n : Nat) : Frag := frG g (cStatics :: asD g n)
def obsM (P : Program) (fa : List Fa) (fn : List DefD) (fs : List SupD) (ex : Frag → Bool) (K : Frag) : AlM :=
  ((fa.all fun f => f.ok K) && ((fn.all fun d => d.ok K) && ((fs.all fun d => supB P K d.cls) && ex K)), fn.map fun d => fnW K d.at_, fs.map fun d => fnS K d.cls)
def valM (fn : List DefD) (fs : List SupD) : AlM := (true, fn.map DefD.val, fs.map SupD.val)
def SaysM (P : Program) (fa : List Fa) (fn : List DefD) (fs : List SupD) (ex : Frag → Bool) (K : Frag) : Prop := obsM P fa fn fs ex K = valM fn fs
def obsMG (P : Program) (n : Nat) (fa : List Fa) (fn : List DefD) (fs : List SupD) (ex : Frag → Bool) (g : Addr → Option Obj) : AlM := obsM P fa fn fs ex (frM g n)
def hookM (P : Program) (n : Nat) (fa : List Fa) (fn : List DefD) (fs : List SupD) (ex : Frag → Bool) : PySem.W.Hook where
  α := AlM
  obs := fun s => obsMG P n fa fn fs ex s.heap.get?
  val := fun _ => valM fn fs
  says := fun _ h => ∃ K : Frag, K.In h ∧ SaysM P fa fn fs ex K
  of := fun _ _ e => ⟨_, frG_in, e⟩
  keeps := fun _ _ _ ⟨K, hK, c⟩ k => ⟨K, PySem.W.Frag.In.keeps hK k, c⟩
theorem obsMG_eq {P : Program} {n : Nat} {fa : List Fa} {fn : List DefD} {fs : List SupD} {ex : Frag → Bool} {g : Addr → Option Obj} {s : Shared} (h : ∀ a, g a = s.heap.get? a) : obsMG P n fa fn fs ex g = (hookM P n fa fn fs ex).obs s := by
  have e : g = s.heap.get? := funext h
  rw [e] <;> rfl
section
variable {P : Program} {fa : List Fa} {fn : List DefD} {fs : List SupD} {ex : Frag → Bool} {K : Frag}
theorem SaysM.bools (c : SaysM P fa fn fs ex K) : (fa.all fun f => f.ok K) = true ∧ (fn.all fun d => d.ok K) = true ∧ (fs.all fun d => supB P K d.cls) = true ∧ ex K = true := by
  have c1 := ba (show ((fa.all fun f => f.ok K) && ((fn.all fun d => d.ok K) && ((fs.all fun d => supB P K d.cls) && ex K))) = true from congrArg (fun z : AlM => z.1) c)
  have c2 := ba c1.2
  have c3 := ba c2.2
  exact ⟨c1.1, c2.1, c3.1, c3.2⟩
theorem SaysM.fact (c : SaysM P fa fn fs ex K) (i : Nat) {f : Fa} (h : fa[i]? = some f := by rfl) : f.ok K = true := List.all_eq_true.mp c.bools.1 f (List.mem_of_getElem? h)
theorem SaysM.def_ (c : SaysM P fa fn fs ex K) (i : Nat) {d : DefD} (h : fn[i]? = some d := by rfl) : ∃ fd, FunD K d.name d.qual d.params d.body d.scope (d.dvs K) (d.kws K) (fAd K d.at_) fd := by
  have e : fn.map (fun d => fnW K d.at_) = fn.map DefD.val := congrArg (fun z : AlM => z.2.1) c
  have e2 : (fn.map fun d => fnW K d.at_)[i]? = (fn.map DefD.val)[i]? := by rw [e]
  rw [List.getElem?_map, List.getElem?_map, h] at e2
  exact DefD.funD (Option.some.inj e2) (List.all_eq_true.mp c.bools.2.1 d (List.mem_of_getElem? h))
theorem SaysM.sup_ (c : SaysM P fa fn fs ex K) (i : Nat) {d : SupD} (h : fs[i]? = some d := by rfl) : PySem.SupX.SupTxt P K (ga K d.cls) (ma K (ga K d.cls) "__init__") d.qual d.params d.body d.scope := by
  have e : fs.map (fun d => fnS K d.cls) = fs.map SupD.val := congrArg (fun z : AlM => z.2.2) c
  have e2 : (fs.map fun d => fnS K d.cls)[i]? = (fs.map SupD.val)[i]? := by rw [e]
  rw [List.getElem?_map, List.getElem?_map, h] at e2
  exact SupD.txt (Option.some.inj e2) (List.all_eq_true.mp c.bools.2.2.1 d (List.mem_of_getElem? h))
end
end He
namespace He
open PySem PySem.Spec PyProof.Rows L2
def KTup (K : PySem.W.Frag) (a : Addr) (xs : List Str) : Prop := ∃ (o : Obj) (its : Array Value) (n : Nat), K.lookup a = some o ∧ o.cls = .type "tuple" ∧ o.data = .seq its n ∧ its.size ≤ sizeLine ∧ Vals (xs.map V.str) its.toList
def valS : Value → Option Str
  | .str y _ => some y
  | _ => none
theorem vals_S : ∀ {xs : List Str} {us : List Value}, us.map valS = xs.map some → Vals (xs.map V.str) us
  | [], [], _ => .nil
  | x :: xs, u :: us, h => by
    rw [List.map_cons, List.map_cons] at h
    injection h with h1 h2
    refine .cons ?_ (vals_S h2)
    cases u with
    | str y t => exact ⟨t, by rw [← Option.some.inj h1]⟩
    | _ => cases h1
  | [], _ :: _, h => by cases h
  | _ :: _, [], h => by cases h
def kstB (K : PySem.W.Frag) (x : Str) (xs : List Str) : Bool := match K.lookup (ga K x) with
  | some o => decide (o.cls = .type "tuple") && (match o.data with
    | .seq its _ => decide (its.size ≤ sizeLine) && decide (its.toList.map valS = xs.map some)
    | _ => false)
  | none => false
theorem kstB_ok {K : PySem.W.Frag} {x : Str} {xs : List Str} (h : kstB K x xs = true) : KTup K (ga K x) xs := by
  unfold kstB at h
  cases q : K.lookup (ga K x) with
  | none => rw [q] at h; cases h
  | some o =>
    rw [q] at h
    dsimp only at h
    rw [Bool.and_eq_true, decide_eq_true_eq] at h
    obtain ⟨h1, h2⟩ := h
    cases q2 : o.data with
    | seq its n =>
      rw [q2] at h2
      dsimp only at h2
      rw [Bool.and_eq_true, decide_eq_true_eq, decide_eq_true_eq] at h2
      exact ⟨o, its, n, q, h1, q2, h2.1, vals_S h2.2⟩
    | _ => rw [q2] at h2; cases h2
end He
namespace L2.My
open PySem PySem.Spec PyProof.Rows L2

structure RT (α : Type) where
  rel : Hp → V → α → Prop
  mono : ∀ {H H' : Hp} {v : V} {x : α}, Ext H H' → rel H v x → rel H' v x
def Al {α : Type} (r : RT α) (H : Hp) : List V → List α → Prop
  | [], [] => True
  | v :: vs, x :: xs => r.rel H v x ∧ Al r H vs xs
  | _, _ => False
section
variable {α β : Type} {r : RT α} {H H' : Hp}
theorem Al.mono (e : Ext H H') : ∀ {vs : List V} {xs : List α}, Al r H vs xs → Al r H' vs xs
  | [], [], _ => trivial
  | _ :: _, _ :: _, h => ⟨r.mono e h.1, Al.mono e h.2⟩
  | [], _ :: _, h => h.elim
  | _ :: _, [], h => h.elim
theorem Al.length : ∀ {vs : List V} {xs : List α}, Al r H vs xs → vs.length = xs.length
  | [], [], _ => rfl
  | _ :: _, _ :: _, h => congrArg (· + 1) (Al.length h.2)
  | [], _ :: _, h => h.elim
  | _ :: _, [], h => h.elim
theorem Al.get : ∀ {vs : List V} {xs : List α} {i : Nat} {v : V}, Al r H vs xs → vs[i]? = some v → ∃ x, xs[i]? = some x ∧ r.rel H v x
  | [], [], i, v, _, e => by simp at e
  | v :: _, x :: _, 0, w, h, e => by
    simp at e; subst e; exact ⟨x, rfl, h.1⟩
  | _ :: vs, _ :: xs, i + 1, w, h, e => by
    obtain ⟨x, e1, e2⟩ := Al.get (i := i) h.2 (by simpa using e)
    exact ⟨x, by simpa using e1, e2⟩
  | [], _ :: _, _, _, h, _ => h.elim
  | _ :: _, [], _, _, h, _ => h.elim
theorem Al.get' : ∀ {vs : List V} {xs : List α} {i : Nat} {x : α}, Al r H vs xs → xs[i]? = some x → ∃ v, vs[i]? = some v ∧ r.rel H v x
  | [], [], i, v, _, e => by simp at e
  | v :: _, x :: _, 0, w, h, e => by
    simp at e; subst e; exact ⟨v, rfl, h.1⟩
  | _ :: vs, _ :: xs, i + 1, w, h, e => by
    obtain ⟨x, e1, e2⟩ := Al.get' (i := i) h.2 (by simpa using e)
    exact ⟨x, by simpa using e1, e2⟩
  | [], _ :: _, _, _, h, _ => h.elim
  | _ :: _, [], _, _, h, _ => h.elim
theorem Al.nil : Al r H [] [] := trivial
theorem Al.cons {v : V} {vs : List V} {x : α} {xs : List α} (h : r.rel H v x) (t : Al r H vs xs) : Al r H (v :: vs) (x :: xs) := ⟨h, t⟩
theorem Al.app : ∀ {vs ws : List V} {xs ys : List α}, Al r H vs xs → Al r H ws ys → Al r H (vs ++ ws) (xs ++ ys)
  | [], _, [], _, _, h => h
  | _ :: _, _, _ :: _, _, h, h' => ⟨h.1, Al.app h.2 h'⟩
  | [], _, _ :: _, _, h, _ => h.elim
  | _ :: _, _, [], _, h, _ => h.elim
theorem Al.snoc {vs : List V} {xs : List α} {v : V} {x : α} (h : Al r H vs xs) (hx : r.rel H v x) : Al r H (vs ++ [v]) (xs ++ [x]) := h.app (Al.cons hx Al.nil)
theorem Al.set : ∀ {vs : List V} {xs : List α} {i : Nat} {v : V} {x : α}, Al r H vs xs → r.rel H v x → Al r H (vs.set i v) (xs.set i x)
  | [], [], _, _, _, _, _ => trivial
  | _ :: _, _ :: _, 0, _, _, h, hx => ⟨hx, h.2⟩
  | _ :: _, _ :: _, i + 1, _, _, h, hx => ⟨h.1, Al.set (i := i) h.2 hx⟩
  | [], _ :: _, _, _, _, h, _ => h.elim
  | _ :: _, [], _, _, _, h, _ => h.elim
theorem Al.take : ∀ (n : Nat) {vs : List V} {xs : List α}, Al r H vs xs → Al r H (vs.take n) (xs.take n)
  | 0, _, _, _ => by simp [Al]
  | _ + 1, [], [], _ => trivial
  | n + 1, _ :: _, _ :: _, h => ⟨h.1, Al.take n h.2⟩
  | _ + 1, [], _ :: _, h => h.elim
  | _ + 1, _ :: _, [], h => h.elim
theorem Al.drop : ∀ (n : Nat) {vs : List V} {xs : List α}, Al r H vs xs → Al r H (vs.drop n) (xs.drop n)
  | 0, _, _, h => h
  | _ + 1, [], [], _ => trivial
  | n + 1, _ :: _, _ :: _, h => Al.drop n h.2
  | _ + 1, [], _ :: _, h => h.elim
  | _ + 1, _ :: _, [], h => h.elim
theorem Al.map {r' : RT β} {f : α → β} (h : ∀ v x, r.rel H v x → r'.rel H v (f x)) : ∀ {vs : List V} {xs : List α}, Al r H vs xs → Al r' H vs (xs.map f)
  | [], [], _ => trivial
  | _ :: _, _ :: _, a => ⟨h _ _ a.1, Al.map h a.2⟩
  | [], _ :: _, a => a.elim
  | _ :: _, [], a => a.elim
end
def tInt : RT Int := ⟨fun _ v n => v = .int n, fun _ h => h⟩
def tBool : RT Bool := ⟨fun _ v b => v = .bl b, fun _ h => h⟩
def tStr : RT Str := ⟨fun _ v x => v = .str x, fun _ h => h⟩
def tNon : RT Unit := ⟨fun _ v _ => v = .non, fun _ h => h⟩
def tList {α : Type} (r : RT α) : RT (List α) := ⟨fun H v xs => ∃ a vs, v = .ref a ∧ H a = some (.lst vs) ∧ Al r H vs xs, fun e h => by
  obtain ⟨a, vs, h1, h2, h3⟩ := h
  exact ⟨a, vs, h1, e _ _ h2, h3.mono e⟩⟩
def tTpl {α : Type} (r : RT α) : RT (List α) := ⟨fun H v xs => ∃ a vs, v = .ref a ∧ H a = some (.tup vs) ∧ Al r H vs xs, fun e h => by
  obtain ⟨a, vs, h1, h2, h3⟩ := h
  exact ⟨a, vs, h1, e _ _ h2, h3.mono e⟩⟩
def tPair {α β : Type} (r : RT α) (r' : RT β) : RT (α × β) := ⟨fun H v x => ∃ a w w', v = .ref a ∧ H a = some (.tup [w, w']) ∧ r.rel H w x.1 ∧ r'.rel H w' x.2, fun e h => by
  obtain ⟨a, w, w', h1, h2, h3, h4⟩ := h
  exact ⟨a, w, w', h1, e _ _ h2, r.mono e h3, r'.mono e h4⟩⟩
def tOpt {α : Type} (r : RT α) : RT (Option α) := ⟨fun H v x => match x with | none => v = .non | some y => r.rel H v y, fun {H H' v x} e h => by
  cases x with
  | none => exact h
  | some y => exact r.mono e h⟩

structure Nx (M : List Addr) (F H F' H' : Hp) : Prop where
  ff : Ext F F'
  fh : Ext F' H'
  keep : ∀ b o, b ∉ M → H b = some o → H' b = some o
  out : ∀ b, F b = none → H b ≠ none → F' b = none
  dom : ∀ b, H b ≠ none → H' b ≠ none
section
variable {M M' : List Addr} {F F1 F2 H H1 H2 : Hp} {p : Addr} {o : HO}
theorem Nx.refl (e : Ext F H) : Nx M F H F H := ⟨Ext.rfl', e, fun _ _ _ h => h, fun _ h _ => h, fun _ h => h⟩
theorem Nx.trans (a : Nx M F H F1 H1) (b : Nx M F1 H1 F2 H2) : Nx M F H F2 H2 :=
  ⟨a.ff.trans b.ff, b.fh, fun c o hc h => b.keep c o hc (a.keep c o hc h), fun c h1 h2 => b.out c (a.out c h1 h2) (a.dom c h2), fun c h => b.dom c (a.dom c h)⟩
theorem Nx.weak (a : Nx M F H F1 H1) (h : ∀ b ∈ M, b ∈ M') : Nx M' F H F1 H1 := ⟨a.ff, a.fh, fun c o hc => a.keep c o fun z => hc (h c z), a.out, a.dom⟩
theorem Nx.nil (a : Nx [] F H F1 H1) : Nx M F H F1 H1 := a.weak fun _ z => by cases z
theorem Nx.new (e : Ext F H) (h : H p = none) : Nx M F H (upd F p o) (upd H p o) := by
  have hF : F p = none := by
    cases q : F p with
    | none => rfl
    | some u => rw [e _ _ q] at h; cases h
  refine ⟨Ext.upd hF, fun a u q => ?_, fun b u _ q => by rw [upd_ne (ne_of_none q h)]; exact q, fun b h1 h2 => ?_, fun b hb => ?_⟩
  · by_cases ha : a = p
    · subst ha; rw [upd_same] at q ⊢; exact q
    · rw [upd_ne ha] at q ⊢; exact e _ _ q
  · have : b ≠ p := fun z => h2 (by rw [z]; exact h)
    rw [upd_ne this]; exact h1
  · have : b ≠ p := fun z => hb (by rw [z]; exact h)
    rw [upd_ne this]; exact hb
theorem Nx.open_ (e : Ext F H) (h : H p = none) : Nx M F H F (upd H p o) :=
  ⟨Ext.rfl', e.trans (Ext.upd h), fun b u _ q => by rw [upd_ne (ne_of_none q h)]; exact q, fun _ h _ => h, fun b hb => by
    have : b ≠ p := fun z => hb (by rw [z]; exact h)
    rw [upd_ne this]; exact hb⟩
theorem ext_mut (e : Ext F H) (h : F p = none) : Ext F (upd H p o) := fun a u q => by
  rw [upd_ne (ne_of_none q h)]; exact e _ _ q
theorem Nx.mut (a : Nx M F H F1 H1) (hp : p ∈ M ∨ H p = none) (hF : F1 p = none) : Nx M F H F1 (upd H1 p o) :=
  ⟨a.ff, ext_mut a.fh hF, fun b u hb q => by
    have : b ≠ p := fun z => by
      subst z
      rcases hp with hp | hp
      · exact hb hp
      · rw [hp] at q; cases q
    rw [upd_ne this]; exact a.keep b u hb q, a.out, fun b hb => by
    by_cases z : b = p
    · subst z; rw [upd_same]; simp
    · rw [upd_ne z]; exact a.dom b hb⟩
theorem Nx.close (a : Nx M F H F1 H1) (hp : H p = none) (ho : H1 p = some o) (hF : F1 p = none) : Nx M F H (upd F1 p o) H1 :=
  ⟨a.ff.trans (Ext.upd hF), fun b u q => by
    by_cases z : b = p
    · subst z; rw [upd_same] at q; cases q; exact ho
    · rw [upd_ne z] at q; exact a.fh _ _ q, a.keep, fun b h1 h2 => by
    have : b ≠ p := fun z => h2 (by rw [z]; exact hp)
    rw [upd_ne this]; exact a.out b h1 h2, a.dom⟩
theorem Nx.free (a : Nx M F H F1 H1) (h : H1 p = none) : H p = none := by
  cases q : H p with
  | none => rfl
  | some u => exact absurd h (a.dom p (by rw [q]; simp))
theorem Nx.ext (a : Nx [] F H F1 H1) : Ext H H1 := fun b o h => a.keep b o (by simp) h
theorem ext_none (e : Ext F H) (h : H p = none) : F p = none := by
  cases q : F p with
  | none => rfl
  | some u => rw [e _ _ q] at h; cases h
end
end L2.My
namespace L2.My
open PySem PySem.Spec PyProof.Rows L2

def rEqBB (D : Eqb) : R2 := fun x y H Q => ∃ b, D x y H b ∧ ∀ H', Ext H H' → Q (.bl b) H'
def rNeBB (D : Eqb) : R2 := fun x y H Q => ∃ b, D x y H b ∧ ∀ H', Ext H H' → Q (.bl (!b)) H'
structure Fnc (P : Program) (w : World) (K : PySem.W.Frag) (mg : Str → Option Value) (base : Heap) (k : Nat) (x : Str) (ps : List Str) (sp : Sp) : Prop where
  ex : ∃ f fd, mg x = some (.ref f) ∧ PySem.W.keepIn K (.ref f) = true ∧ Binds K fd ps [] ∧ FnOk P w K mg base (L2.CX P w) k f fd ps sp
structure Mtc (P : Program) (w : World) (K : PySem.W.Frag) (mg : Str → Option Value) (base : Heap) (k : Nat) (C : Addr) (m : Str) (ps : List Str) (sp : Sp) : Prop where
  cls : Cls K C
  ex : ∃ f fd, Meth K C m f ∧ Binds K fd ps [] ∧ FnOk P w K mg base (L2.CX P w) k f fd ps sp
structure Mkc (P : Program) (w : World) (K : PySem.W.Frag) (mg : Str → Option Value) (base : Heap) (k : Nat) (C : Addr) (x : Str) (ps : List Str) (dvs : List V) (sp : Sp) : Prop where
  gl : mg x = some (.ref C)
  ex : ∃ f fd ds, Mk K C f ∧ Vals dvs ds ∧ Binds K fd ps ds ∧ FnOk P w K mg base (L2.CX P w) k f fd ps sp
section
variable {X : Cx} {k : Nat} {C : Addr} {x m : Str} {ps : List Str} {dvs : List V} {sp : Sp} {E : XK} {e o : Expr} {es : List Expr} {ta to : TE} {t : TA} {p pos apos : Pos}
theorem pe_fn (G : Fnc X.prog X.w X.K X.mg X.base k x ps sp) (hr : Room k X.A) (hx : Passes (L2.CX X.prog X.w) X E) (ha : PA X (e :: es) t) (hg : Gl X x := by rfl) (hd : (x == ("__debug__" : Str)) = false := by decide)
    (he : starEach (e :: es) X.env = (false, eval e X.env) :: starEach es X.env := by rfl) (hpl : (backTo pos (starEach es X.env)).any (·.1) = false := by rfl) :
    PE X (.Call (.Name x p) (e :: es) [] pos) (tCall sp [] E t) := by
  obtain ⟨f, fd, h1, h2, h3, h4⟩ := G.ex
  exact pe_call h4 hr hg h1 h2 h3 .nil hx ha hd he hpl
theorem pe_mk (G : Mkc X.prog X.w X.K X.mg X.base k C x ps dvs sp) (hr : Room (k + 1) X.A) (hx : Passes (L2.CX X.prog X.w) X E) (ha : PA X (e :: es) t) (hg : Gl X x := by rfl) (hd : (x == ("__debug__" : Str)) = false := by decide)
    (he : starEach (e :: es) X.env = (false, eval e X.env) :: starEach es X.env := by rfl) (hpl : (backTo pos (starEach es X.env)).any (·.1) = false := by rfl) :
    PE X (.Call (.Name x p) (e :: es) [] pos) (tMake C sp dvs E t) := by
  obtain ⟨f, fd, ds, h1, h2, h3, h4⟩ := G.ex
  exact pe_make h1 h4 hr hg G.gl h3 h2 hx ha hd he hpl
theorem pe_mt {pl : Sem Bool} (G : Mtc X.prog X.w X.K X.mg X.base k C m ps sp) (he : PE X o to) (hr : Room k X.A) (hx : Passes (L2.CX X.prog X.w) X E) (ha : PA X (e :: es) t)
    (hst : starEach (e :: es) X.env = (false, eval e X.env) :: starEach es X.env := by rfl) (hpl : (backTo pos (starEach es X.env)).any (·.1) = false := by rfl)
    (ht : eval (.Call (.Attribute o m apos) (e :: es) [] pos) X.env = (do
      let ov ← eval o X.env
      standAt apos.atName
      let (f, first) ← holding [ov] (getMethod ov m pl)
      callWith pos f first (backTo pos (starEach (e :: es) X.env)) (backToKw pos (keywordEach [] X.env))) := by rfl) :
    PE X (.Call (.Attribute o m apos) (e :: es) [] pos) (tMeth C m sp [] E to t) := by
  obtain ⟨f, fd, h1, h2, h3⟩ := G.ex
  exact pe_meth he G.cls h1 h3 hr h2 .nil hx ha hst hpl ht
theorem pe_mt0 {pl : Sem Bool} (G : Mtc X.prog X.w X.K X.mg X.base k C m ps sp) (he : PE X o to) (hr : Room k X.A) (hx : Passes (L2.CX X.prog X.w) X E)
    (ht : eval (.Call (.Attribute o m apos) [] [] pos) X.env = (do
      let ov ← eval o X.env
      standAt apos.atName
      let (f, first) ← holding [ov] (getMethod ov m pl)
      callWith pos f first (backTo pos (starEach [] X.env)) (backToKw pos (keywordEach [] X.env))) := by rfl) :
    PE X (.Call (.Attribute o m apos) [] [] pos) (tMeth C m sp [] E to tNil) := by
  obtain ⟨f, fd, h1, h2, h3⟩ := G.ex
  exact pe_meth0 he G.cls h1 h3 hr h2 .nil hx ht
end
end L2.My
namespace L2.My
open PySem PySem.Spec PyProof.Rows L2
section
variable {σ : L2.St} {H : Hp} {Q : VK} {QB : Bool → Hp → Prop} {QA : List V → Hp → Prop} {D : Ends} {te ta tb tc : TE} {tt tu : TT} {tr : TA} {ts tw : TS} {g : TG} {v : V}
abbrev MkQ (C : Addr) (sp : Sp) (dvs : List V) (E : XK) (vs : List V) (H : Hp) (Q : VK) : Prop := ∀ x dx, H x = none → H dx = none → dx ≠ x →
  sp (.ref x :: (vs ++ dvs)) (upd (upd H dx (.own x)) x (.ins C dx [])) (fun v H2 => v = .non ∧ Q (.ref x) H2) E
abbrev TupQ (xs : List V) (H : Hp) (Q : VK) : Prop := xs.length ≤ sizeLine ∧ ∀ p, H p = none → Q (.ref p) (upd H p (.tup xs))
abbrev LstQ (xs : List V) (H : Hp) (Q : VK) : Prop := xs.length ≤ sizeLine ∧ ∀ p, H p = none → Q (.ref p) (upd H p (.lst xs))
theorem g_seq (h : ts { D with nx := tw D } σ H) : tSeq ts tw D σ H := h
theorem g_start {σ' : L2.St} (e : σ = σ') (h : ts D σ' H) : ts D σ H := by rw [e]; exact h
theorem g_asg (h : te σ H fun x H1 => g x σ H1 D.nx) : tAsg te g D σ H := h
theorem g_name {i : Nat} {QG : L2.St → Hp → Prop} (h : QG (σ.set i (some v)) H) : gName i v σ H QG := h
theorem g_ret (h : te σ H D.rt) : tRet te D σ H := h
theorem g_drop (h : te σ H fun _ H1 => D.nx σ H1) : tDrop te D σ H := h
theorem g_ifS (h : tt σ H fun b H1 => if b = true then ts D σ H1 else tw D σ H1) : tIfS tt ts tw D σ H := h
theorem g_next (h : D.nx σ H) : tNext D σ H := h
theorem g_var {i : Nat} (e : σ[i]? = some (some v)) (h : Q v H) : tVar i σ H Q := ⟨v, e, h⟩
theorem g_c (h : Q v H) : tC v σ H Q := h
theorem g_cons (h : ta σ H fun x H1 => tr σ H1 fun xs H2 => QA (x :: xs) H2) : tCons ta tr σ H QA := h
theorem g_nil (h : QA [] H) : tNil σ H QA := h
theorem g_op {r : R2} (h : ta σ H fun x H1 => tb σ H1 fun y H2 => r x y H2 Q) : tOp r ta tb σ H Q := h
theorem g_un {r : V → Hp → VK → Prop} (h : ta σ H fun x H1 => r x H1 Q) : tUn r ta σ H Q := h
theorem g_rI0 {f : Int → Int → V} {i j : Int} (h : Q (f i j) H) : rI0 f (.int i) (.int j) H Q := ⟨i, j, rfl, rfl, h⟩
theorem g_rI {C : Int → Int → Prop} {f : Int → Int → V} {i j : Int} (c : C i j) (h : Q (f i j) H) : rI C f (.int i) (.int j) H Q := ⟨i, j, rfl, rfl, c, h⟩
theorem g_test (h : te σ H fun x H1 => ∃ k, x = .bl k ∧ QB k H1) : tTest te σ H QB := h
theorem g_B (h : te σ H fun x H1 => ∃ k, x = .bl k ∧ QB k H1) : tB te σ H QB := h
theorem g_bl {b : Bool} {QB : Bool → Prop} (h : QB b) : ∃ k, V.bl b = .bl k ∧ QB k := ⟨b, rfl, h⟩
theorem g_and (h : tt σ H fun c H1 => if c = true then tu σ H1 QB else QB false H1) : tAnd tt tu σ H QB := h
theorem g_or (h : tt σ H fun c H1 => if c = true then QB true H1 else tu σ H1 QB) : tOr tt tu σ H QB := h
theorem g_not (h : tt σ H fun c H1 => QB (!c) H1) : tNot tt σ H QB := h
theorem g_andV (h : ta σ H fun x H1 => ∃ c, x = .bl c ∧ if c = true then tb σ H1 Q else Q (.bl false) H1) : tAndV ta tb σ H Q := h
theorem g_orV (h : ta σ H fun x H1 => ∃ c, x = .bl c ∧ if c = true then Q (.bl true) H1 else tb σ H1 Q) : tOrV ta tb σ H Q := h
theorem g_notV (h : ta σ H fun x H1 => ∃ c, x = .bl c ∧ Q (.bl (!c)) H1) : tNotV ta σ H Q := h
theorem g_ifE (h : tt σ H fun c H1 => if c = true then ta σ H1 Q else tb σ H1 Q) : tIf tt ta tb σ H Q := h
theorem g_CB {r : List V → Hp → VK → Prop} (h : tr σ H fun vs H1 => r vs H1 Q) : tCB r tr σ H Q := h
theorem g_call {sp : Sp} {dvs : List V} {E : XK} (h : tr σ H fun vs H1 => sp (vs ++ dvs) H1 Q E) : tCall sp dvs E tr σ H Q := h
theorem g_make {C : Addr} {sp : Sp} {dvs : List V} {E : XK} (h : tr σ H fun vs H1 => MkQ C sp dvs E vs H1 Q) : tMake C sp dvs E tr σ H Q := h
theorem g_ixL {K : PySem.W.Frag} {p : Addr} {xs : List V} {i : Int} (h : H p = some (.lst xs)) (e : atI xs i = some v) (k : Q v H) : rIxL K (.ref p) (.int i) H Q := ⟨p, xs, i, v, rfl, rfl, SqL.of h, e, k⟩
theorem g_sub {to ti : TE} {t : TSet} {QG : L2.St → Hp → Prop} (h : to σ H fun o H1 => ti σ H1 fun i H2 => t o i v H2 fun H3 => QG σ H3) : gSub to ti t v σ H QG := h
theorem g_setL {p : Addr} {xs : List V} {i : Int} {j : Nat} {QH : Hp → Prop} (h : H p = some (.lst xs)) (e : ixN xs.length i = some j) (k : QH (upd H p (.lst (xs.set j v)))) : rSetL (.ref p) (.int i) v H QH := ⟨p, xs, i, j, rfl, rfl, h, e, k⟩
theorem g_intI {i : Int} {A : Int → Prop} {B : Prop} (h : A i) : (∃ j, [V.int i] = [V.int j] ∧ A j) ∨ B := .inl ⟨i, rfl, h⟩
theorem g_one {i : Int} {P : Int → Prop} (h : P i) : ∃ j, [V.int i] = [V.int j] ∧ P j := ⟨i, rfl, h⟩
theorem g_oneS {i : Str} {P : Str → Prop} (h : P i) : ∃ j, [V.str i] = [V.str j] ∧ P j := ⟨i, rfl, h⟩
theorem g_turn {W : Nat → L2.St → Hp → Prop} {m : Nat} (h : ts { D with nx := fun σ2 H2 => ∃ m', m' < m ∧ W m' σ2 H2, ct := fun σ2 H2 => ∃ m', m' < m ∧ W m' σ2 H2, bk := D.nx } σ H) :
    ∃ N : L2.St → Hp → Prop, (∀ σ2 H2, N σ2 H2 → ∃ m', m' < m ∧ W m' σ2 H2) ∧ ts { D with nx := N, ct := N, bk := D.nx } σ H := ⟨_, fun _ _ z => z, h⟩
theorem g_truI {K : PySem.W.Frag} {i : Int} {P : Bool → Prop} (h : P (i != 0)) : ∃ k, TruV K (.int i) H k ∧ P k := ⟨_, rfl, h⟩
theorem g_par {i j : Nat} (h : tr σ H fun vs H1 => ∃ v w, vs = [v, w] ∧ D.nx ((σ.set i (some v)).set j (some w)) H1) : tPar i j tr D σ H := h
theorem g_two {x y : V} {P : V → V → Prop} (h : P x y) : ∃ v w, [x, y] = [v, w] ∧ P v w := ⟨x, y, rfl, h⟩
theorem g_fldS {K : PySem.W.Frag} {f : Str} (h : tb σ H fun y H1 => ta σ H1 fun x H2 => ∃ a C dx fs, x = .ref a ∧ H2 a = some (.ins C dx fs) ∧ Cls K C ∧ NoAttr K C f ∧ fs.length < 1000 ∧ D.nx σ (upd H2 a (.ins C dx (putF f y fs)))) : sFld K ta tb f D σ H := h
theorem g_dec {p : Prop} [Decidable p] {A B : Prop} (h1 : p → A) (h2 : ¬p → B) : if decide p = true then A else B := by
  by_cases c : p
  · rw [if_pos (decide_eq_true c)]; exact h1 c
  · rw [if_neg (by rw [decide_eq_false c]; exact Bool.false_ne_true)]; exact h2 c
theorem g_ift {A B : Prop} (h : A) : if true = true then A else B := h
theorem g_iff {A B : Prop} (h : B) : if false = true then A else B := h
end
end L2.My
namespace L2.My
open PySem PySem.Spec PyProof.Rows L2
section
variable {H : Hp} {Q : VK} {K K' : PySem.W.Frag}
theorem g_eqI {i j : Int} (h : Q (.bl (decide (i = j))) H) : rEq (.int i) (.int j) H Q := ⟨rfl, by
  have : decide (V.int i = V.int j) = decide (i = j) := decide_eq_decide.mpr ⟨fun z => by cases z; rfl, fun z => by rw [z]⟩
  rw [this]; exact h⟩
theorem g_neI {i j : Int} (h : Q (.bl (!decide (i = j))) H) : rNe (.int i) (.int j) H Q := ⟨rfl, by
  have : decide (V.int i = V.int j) = decide (i = j) := decide_eq_decide.mpr ⟨fun z => by cases z; rfl, fun z => by rw [z]⟩
  rw [this]; exact h⟩
theorem g_eqS {i j : Str} (h : Q (.bl (decide (i = j))) H) : rEq (.str i) (.str j) H Q := ⟨rfl, by
  have : decide (V.str i = V.str j) = decide (i = j) := decide_eq_decide.mpr ⟨fun z => by cases z; rfl, fun z => by rw [z]⟩
  rw [this]; exact h⟩
theorem g_neS {i j : Str} (h : Q (.bl (!decide (i = j))) H) : rNe (.str i) (.str j) H Q := ⟨rfl, by
  have : decide (V.str i = V.str j) = decide (i = j) := decide_eq_decide.mpr ⟨fun z => by cases z; rfl, fun z => by rw [z]⟩
  rw [this]; exact h⟩
theorem g_eqB {i j : Bool} (h : Q (.bl (decide (i = j))) H) : rEq (.bl i) (.bl j) H Q := ⟨rfl, by
  have : decide (V.bl i = V.bl j) = decide (i = j) := decide_eq_decide.mpr ⟨fun z => by cases z; rfl, fun z => by rw [z]⟩
  rw [this]; exact h⟩
theorem g_neB {i j : Bool} (h : Q (.bl (!decide (i = j))) H) : rNe (.bl i) (.bl j) H Q := ⟨rfl, by
  have : decide (V.bl i = V.bl j) = decide (i = j) := decide_eq_decide.mpr ⟨fun z => by cases z; rfl, fun z => by rw [z]⟩
  rw [this]; exact h⟩
theorem g_eqN (h : Q (.bl true) H) : rEq .non .non H Q := ⟨rfl, h⟩
theorem g_isN (h : Q (.bl true) H) : rIsN (V.non) .non H Q := ⟨rfl, by
  have : decide (V.non = V.non) = true := by simp
  rw [this]; exact h⟩
theorem g_noN (h : Q (.bl false) H) : rNotN (V.non) .non H Q := ⟨rfl, by
  have : decide (V.non = V.non) = true := by simp
  rw [this]; exact h⟩
theorem g_isI {i : Int} (h : Q (.bl false) H) : rIsN (V.int i) .non H Q := ⟨rfl, by
  have : decide (V.int i = V.non) = false := by simp
  rw [this]; exact h⟩
theorem g_noI {i : Int} (h : Q (.bl true) H) : rNotN (V.int i) .non H Q := ⟨rfl, by
  have : decide (V.int i = V.non) = false := by simp
  rw [this]; exact h⟩
theorem g_isB {i : Bool} (h : Q (.bl false) H) : rIsN (V.bl i) .non H Q := ⟨rfl, by
  have : decide (V.bl i = V.non) = false := by simp
  rw [this]; exact h⟩
theorem g_noB {i : Bool} (h : Q (.bl true) H) : rNotN (V.bl i) .non H Q := ⟨rfl, by
  have : decide (V.bl i = V.non) = false := by simp
  rw [this]; exact h⟩
theorem g_isS {i : Str} (h : Q (.bl false) H) : rIsN (V.str i) .non H Q := ⟨rfl, by
  have : decide (V.str i = V.non) = false := by simp
  rw [this]; exact h⟩
theorem g_noS {i : Str} (h : Q (.bl true) H) : rNotN (V.str i) .non H Q := ⟨rfl, by
  have : decide (V.str i = V.non) = false := by simp
  rw [this]; exact h⟩
theorem g_isR {i : Addr} (h : Q (.bl false) H) : rIsN (V.ref i) .non H Q := ⟨rfl, by
  have : decide (V.ref i = V.non) = false := by simp
  rw [this]; exact h⟩
theorem g_noR {i : Addr} (h : Q (.bl true) H) : rNotN (V.ref i) .non H Q := ⟨rfl, by
  have : decide (V.ref i = V.non) = false := by simp
  rw [this]; exact h⟩
section
variable {A B : Prop}
theorem g_yesR {α : Type} {a : α} [Decidable (a = a)] (h : A) : if decide (a = a) = true then A else B := by rw [if_pos (decide_eq_true rfl)]; exact h
theorem g_nnoR {α : Type} {a : α} [Decidable (a = a)] (h : B) : if (!decide (a = a)) = true then A else B := by
  rw [decide_eq_true rfl]; exact h
theorem g_nF (h : A) : if (!false) = true then A else B := h
theorem g_nT (h : B) : if (!true) = true then A else B := h
theorem g_noTF [Decidable (true = false)] (h : B) : if decide (true = false) = true then A else B := by rw [decide_eq_false (fun z => nomatch z)]; exact h
theorem g_noFT [Decidable (false = true)] (h : B) : if decide (false = true) = true then A else B := by rw [decide_eq_false (fun z => nomatch z)]; exact h
theorem g_nyTF [Decidable (true = false)] (h : A) : if (!decide (true = false)) = true then A else B := by rw [decide_eq_false (fun z => nomatch z)]; exact h
theorem g_nyFT [Decidable (false = true)] (h : A) : if (!decide (false = true)) = true then A else B := by rw [decide_eq_false (fun z => nomatch z)]; exact h
end
theorem g_isi {x c : V} {t u : Value} {b : Bool} (k : ClsV c u) (ty : TyX K H x t) (e : PySem.W.kitOne K t u = some b) (h : Q (.bl b) H) : rIsi K [x, c] H Q := ⟨x, c, t, u, b, rfl, k, ty, e, h⟩
end
section
variable {σ : L2.St} {H : Hp} {Q : VK} {QB : Bool → Hp → Prop} {D : Ends} {te ta tb tc : TE} {tr : TA} {tw : TS} {wi : TI} {g : TG} {v : V} {K : PySem.W.Frag}
theorem g_rU {f : Int → V} {i : Int} (h : Q (f i) H) : rU f (.int i) H Q := ⟨i, rfl, h⟩
theorem g_tupT (h : tr σ H fun xs H1 => TupQ xs H1 Q) : L2.tTup tr σ H Q := h
theorem g_lstT (h : tr σ H fun xs H1 => LstQ xs H1 Q) : L2.tLst tr σ H Q := h
theorem g_meth {C : Addr} {m : Str} {sp : Sp} {dvs : List V} {E : XK} (h : ta σ H fun x H1 => ∃ a dx fs, x = .ref a ∧ H1 a = some (.ins C dx fs) ∧ fs.lookup m = none ∧ tr σ H1 fun vs H2 => sp (x :: (vs ++ dvs)) H2 Q E) : tMeth C m sp dvs E ta tr σ H Q := h
theorem g_js {ts : List TE} {acc : Str} {P : Str → Hp → Prop} (h : te σ H fun x H1 => ∃ y : Str, x = .str y ∧ (acc ++ y).length ≤ sizeLine ∧ tJs ts (acc ++ y) σ H1 P) : tJs (te :: ts) acc σ H P := h
theorem g_js0 {acc : Str} {P : Str → Hp → Prop} (h : P acc H) : tJs [] acc σ H P := h
theorem g_fmt (h : te σ H fun x H1 => (∃ y : Str, x = .str y ∧ y.length ≤ sizeLine ∧ Q (.str y) H1) ∨ ∃ i : Int, x = .int i ∧ i.natAbs.log2 < 1920 ∧ Q (.str (toString i)) H1) : tFmt te σ H Q := h
theorem g_iRng1 {R : It → Hp → Prop} (h : tr σ H fun vs H1 => ∃ j : Int, vs = [.int j] ∧ -(2 ^ 62) ≤ j ∧ j < 2 ^ 62 ∧ R (Itr 0 j.toNat) H1) : iRng1 tr σ H R := h
theorem g_iRng2 {R : It → Hp → Prop} (h : tr σ H fun vs H1 => ∃ i j : Int, vs = [.int i, .int j] ∧ (-(2 ^ 62) ≤ i ∧ i < 2 ^ 62 ∧ -(2 ^ 62) ≤ j ∧ j < 2 ^ 62) ∧ R (Itr i (j - i).toNat) H1) : iRng2 tr σ H R := h
theorem g_cut {ts : TS} (J : L2.St → Hp → Prop) (tail : ∀ σ1 H1, J σ1 H1 → tw D σ1 H1) (h : ∀ N : L2.St → Hp → Prop, (∀ σ1 H1, J σ1 H1 → N σ1 H1) → ts { D with nx := N } σ H) : tSeq ts tw D σ H := h _ tail
theorem g_mulK {i j : Int} {f : Int → Int → V} (hj : -(2 ^ 64) < j ∧ j < 2 ^ 64) (h : Q (f i j) H) : rI CMul f (.int i) (.int j) H Q := ⟨i, j, rfl, rfl, .inr hj, h⟩
theorem g_modK {i j : Int} {f : Int → Int → V} (hj : 0 < j) (h : Q (f i j) H) : rI (fun _ j => 0 < j) f (.int i) (.int j) H Q := ⟨i, j, rfl, rfl, hj, h⟩
theorem g_fdivK {i j : Int} {f : Int → Int → V} (hj : 0 < j ∧ j < 1073741824) (h : Q (f i j) H) : rI CDivW f (.int i) (.int j) H Q := ⟨i, j, rfl, rfl, wide_div (b := 30) hj.1 (by omega) (by decide) (by decide), h⟩
theorem loop_rng {lo : Int} {n : Nat} (J : Nat → L2.St → Hp → Prop) (h0 : J 0 σ H)
    (hs : ∀ i σ' H', i < n → J i σ' H' → g (.int (lo + (i : Nat))) σ' H' fun σ2 H2 => tw { D with nx := J (i + 1), ct := J (i + 1), bk := D.nx } σ2 H2) (he : ∀ σ' H', J n σ' H' → D.nx σ' H') :
    ∃ W : Nat → Nat → L2.St → Hp → Prop, (∃ m, W 0 m σ H) ∧ ∀ i m σ H, W i m σ H →
      ((Itr lo n).stop i H ∧ D.nx σ H) ∨ ((Itr lo n).go i H ∧ ∃ N : L2.St → Hp → Prop, (∀ σ' H', N σ' H' → ∃ m', m' < m ∧ W (i + 1) m' σ' H') ∧ ∀ x H', (Itr lo n).yld i H x H' → g x σ H' fun σ2 H2 => tw { D with nx := N, ct := N, bk := D.nx } σ2 H2) := by
  refine ⟨fun i m σ H => m = n - i ∧ i ≤ n ∧ J i σ H, ⟨n, by omega, Nat.zero_le _, h0⟩, ?_⟩
  rintro i m σ H ⟨rfl, hi, hj⟩
  by_cases c : i < n
  · refine .inr ⟨c, J (i + 1), fun σ' H' h => ⟨n - (i + 1), by omega, rfl, c, h⟩, ?_⟩
    rintro x H' ⟨rfl, rfl⟩
    exact hs i σ H' c hj
  · have e : i = n := by omega
    subst e
    exact .inl ⟨Nat.le_refl _, he σ H hj⟩
theorem loop_rngZ {lo : Int} {n : Nat} (J : Nat → L2.St → Hp → Prop) (Z : L2.St → Hp → Prop) (h0 : J 0 σ H) (ht : ∀ σ' H', Z σ' H' → D.nx σ' H')
    (hs : ∀ N : L2.St → Hp → Prop, (∀ σ1 H1, Z σ1 H1 → N σ1 H1) → ∀ i σ' H', i < n → J i σ' H' → g (.int (lo + (i : Nat))) σ' H' fun σ2 H2 => tw { D with nx := J (i + 1), ct := J (i + 1), bk := N } σ2 H2) (he : ∀ σ' H', J n σ' H' → Z σ' H') :
    ∃ W : Nat → Nat → L2.St → Hp → Prop, (∃ m, W 0 m σ H) ∧ ∀ i m σ H, W i m σ H →
      ((Itr lo n).stop i H ∧ D.nx σ H) ∨ ((Itr lo n).go i H ∧ ∃ N : L2.St → Hp → Prop, (∀ σ' H', N σ' H' → ∃ m', m' < m ∧ W (i + 1) m' σ' H') ∧ ∀ x H', (Itr lo n).yld i H x H' → g x σ H' fun σ2 H2 => tw { D with nx := N, ct := N, bk := D.nx } σ2 H2) :=
  loop_rng J h0 (hs D.nx ht) (fun σ' H' h => ht _ _ (he _ _ h))
end
end L2.My
namespace L2.My
open PySem PySem.Spec PyProof.Rows L2
structure It0 (J : It) (n : Nat) (F : Hp) (item : Nat → V → Prop) : Prop where
  go : ∀ i F' H', i < n → Ext F F' → Ext F' H' → J.go i H'
  stop : ∀ F' H', Ext F F' → Ext F' H' → J.stop n H'
  yld : ∀ i F' H' x H'', i < n → Ext F F' → Ext F' H' → J.yld i H' x H'' → H'' = H' ∧ item i x
structure It1 (J : It) (n : Nat) (F : Hp) (item : Nat → V → V → Prop) : Prop where
  go : ∀ i F' H', i < n → Ext F F' → Ext F' H' → J.go i H'
  stop : ∀ F' H', Ext F F' → Ext F' H' → J.stop n H'
  yld : ∀ i F' H' x H'', i < n → Ext F F' → Ext F' H' → J.yld i H' x H'' → ∃ T a b, x = .ref T ∧ H' T = none ∧ H'' = upd H' T (.tup [a, b]) ∧ item i a b
def LcR (σ : L2.St) (Q : VK) (g : TG) (tt : TT) (te : TE) (vs : List Nat) : It → Hp → Prop := fun J H1 => ∀ D, H1 D = none → ∃ W : Nat → Nat → Hp → Prop, (∃ m, W 0 m (upd H1 D (.lst []))) ∧ ∀ i m H, W i m H →
  (J.stop i H ∧ Q (.ref D) H) ∨ (J.go i H ∧ ∃ Nx : Hp → Prop, (∀ H', Nx H' → ∃ m', m' < m ∧ W (i + 1) m' H') ∧ ∀ x H', J.yld i H x H' → g x (wipe σ vs) H' fun σ2 H2 => wipe σ2 vs = wipe σ vs ∧ tt σ2 H2 fun b H3 =>
    if b = true then te σ2 H3 fun y H4 => ∃ acc, H4 D = some (.lst acc) ∧ acc.length < sizeLine ∧ Nx (upd H4 D (.lst (acc ++ [y]))) else Nx H3)
theorem g_lc {σ : L2.St} {H : Hp} {Q : VK} {wi : TI} {g : TG} {tt : TT} {te : TE} {vs : List Nat} (h : wi σ H (LcR σ Q g tt te vs)) : tLc wi g tt te vs σ H Q := h
def LcT (σ : L2.St) (g : TG) (tt : TT) (te : TE) (vs : List Nat) (x : V) (H : Hp) (KQ : VK) (KN : Hp → Prop) : Prop := g x (wipe σ vs) H fun σ2 H2 => wipe σ2 vs = wipe σ vs ∧ tt σ2 H2 fun b H3 => if b = true then te σ2 H3 KQ else KN H3
section
variable {α : Type} {J : It} {n : Nat} {F H : Hp} {σ : L2.St} {Q : VK} {g : TG} {tt : TT} {te : TE} {vs : List Nat}
theorem close_lst {M : List Addr} {F' H' : Hp} {p : Addr} {ws : List V} {r : RT α} {ys : List α} (n1 : Nx M F H F' H') (h1 : H' p = some (.lst ws)) (h2 : Al r F' ws ys) (h3 : F' p = none) (h4 : H p = none) :
    Nx M F H (upd F' p (.lst ws)) H' ∧ (tList r).rel (upd F' p (.lst ws)) (.ref p) ys := ⟨n1.close h4 h1 h3, p, ws, rfl, upd_same, h2.mono (Ext.upd h3)⟩
end
section
variable {α β : Type} {K : PySem.W.Frag} {F H : Hp} {r : RT α} {r' : RT β} {v w : V} {xs : List α} {ys : List β}
theorem it_list {a : Addr} {ws : List V} (h : F a = some (.lst ws)) : It0 (Itl K a) ws.length F (fun i x => ws[i]? = some x) where
  go := fun i F' H' hi e1 e2 => ⟨ws, ws[i], SqL.of (e2 _ _ (e1 _ _ h)), List.getElem?_eq_getElem hi⟩
  stop := fun F' H' e1 e2 => ⟨ws, SqL.of (e2 _ _ (e1 _ _ h)), Nat.le_refl _⟩
  yld := fun i F' H' x H'' hi e1 e2 hy => ⟨hy.1, hy.2 ws (SqL.of (e2 _ _ (e1 _ _ h)))⟩
theorem it_tup {a : Addr} {ws : List V} (h : F a = some (.tup ws)) : It0 (Itt K a) ws.length F (fun i x => ws[i]? = some x) where
  go := fun i F' H' hi e1 e2 => ⟨ws, ws[i], SqT.of (e2 _ _ (e1 _ _ h)), List.getElem?_eq_getElem hi⟩
  stop := fun F' H' e1 e2 => ⟨ws, SqT.of (e2 _ _ (e1 _ _ h)), Nat.le_refl _⟩
  yld := fun i F' H' x H'' hi e1 e2 hy => ⟨hy.1, hy.2 ws (SqT.of (e2 _ _ (e1 _ _ h)))⟩
theorem it_rng {lo : Int} {n : Nat} : It0 (Itr lo n) n F (fun i x => x = .int (lo + (i : Nat))) where
  go := fun i F' H' hi e1 e2 => hi
  stop := fun F' H' e1 e2 => Nat.le_refl _
  yld := fun i F' H' x H'' hi e1 e2 hy => hy
end
def ForR (D : Ends) (σ : L2.St) (g : TG) (tw : TS) : It → Hp → Prop := fun J H1 => ∃ W : Nat → Nat → L2.St → Hp → Prop, (∃ m, W 0 m σ H1) ∧ ∀ i m σ H, W i m σ H →
  (J.stop i H ∧ D.nx σ H) ∨ (J.go i H ∧ ∃ N : L2.St → Hp → Prop, (∀ σ' H', N σ' H' → ∃ m', m' < m ∧ W (i + 1) m' σ' H') ∧ ∀ x H', J.yld i H x H' → g x σ H' fun σ2 H2 => tw { D with nx := N, ct := N, bk := D.nx } σ2 H2)
section
variable {α : Type} {J : It} {n : Nat} {F H : Hp} {σ : L2.St} {D : Ends} {g : TG} {tw : TS}
theorem for1 {item : Nat → V → V → Prop} (I : It1 J n F item) (M : List Addr) (Iv : Nat → L2.St → Hp → Hp → Prop) (e : Ext F H) (h0 : Iv 0 σ F H) (Z : L2.St → Hp → Hp → Prop)
    (ht : ∀ σ' F' H', Nx M F H F' H' → Z σ' F' H' → D.nx σ' H') (he : ∀ σ' F' H', Nx M F H F' H' → Iv n σ' F' H' → Z σ' F' H')
    (hs : ∀ i T a b σ' F0 H0 F' H' (N B : L2.St → Hp → Prop), i < n → item i a b → Nx M F H F' H' → Iv i σ' F0 H0 → Nx [] F0 H0 F' H' → F' T = some (.tup [a, b]) → (∀ σ2 F2 H2, Nx M F' H' F2 H2 → Iv (i + 1) σ2 F2 H2 → N σ2 H2) → (∀ σ2 F2 H2, Nx M F' H' F2 H2 → Z σ2 F2 H2 → B σ2 H2) →
      g (.ref T) σ' H' fun σ2 H2 => tw { D with nx := N, ct := N, bk := B } σ2 H2) : ForR D σ g tw J H := by
  refine ⟨fun i m σ' H' => m = n - i ∧ i ≤ n ∧ ∃ F', Nx M F H F' H' ∧ Iv i σ' F' H', ⟨n, by omega, Nat.zero_le _, F, Nx.refl e, h0⟩, ?_⟩
  rintro i m σ' H' ⟨rfl, hi, F', n1, iv⟩
  by_cases c : i < n
  · refine .inr ⟨I.go i F' H' c n1.ff n1.fh, fun σ2 H2 => ∃ F2, Nx M F H F2 H2 ∧ Iv (i + 1) σ2 F2 H2, fun σ2 H2 h => ⟨n - (i + 1), by omega, rfl, c, h⟩, ?_⟩
    intro x H'' hy
    obtain ⟨T, a, b, rfl, hT, rfl, hx⟩ := I.yld i F' H' x H'' c n1.ff n1.fh hy
    have n2 : Nx [] F' H' (upd F' T (.tup [a, b])) (upd H' T (.tup [a, b])) := Nx.new n1.fh hT
    have n3 := n1.trans n2.nil
    exact hs i T a b σ' F' H' _ _ _ _ c hx n3 iv n2 upd_same (fun σ2 F2 H2 n4 h2 => ⟨F2, n3.trans n4, h2⟩) (fun σ2 F2 H2 n4 z => ht σ2 F2 H2 (n3.trans n4) z)
  · have ei : i = n := by omega
    subst ei
    exact .inl ⟨I.stop F' H' n1.ff n1.fh, ht σ' F' H' n1 (he σ' F' H' n1 iv)⟩
end
def iAny (K : PySem.W.Frag) (tl : TE) : TI := fun σ H R => tl σ H fun x H1 => ∃ a, x = .ref a ∧ (((∃ xs, SqL K H1 a xs) ∧ R (Itl K a) H1) ∨ ((∃ xs, SqT K H1 a xs) ∧ R (Itt K a) H1))
theorem pi_any {X : Cx} {tg l : Expr} {tl : TE} (hl : PE X l tl) : PI X tg l (iAny X.K tl) := by
  refine ⟨fun pins s σ H R I h => thn (hl.run pins s σ H _ I h) fun v s1 ⟨x, H1, I1, r1, a, e, q⟩ => ?_⟩
  subst e
  cases r1
  have fr : ∀ b, b ∈ [s1.heap.objs.size] → FpOk X pins H1 b := fun b hb => by
    rw [List.mem_singleton.mp hb]
    exact I1.fpOk (Nat.le_refl _) (I1.hok.fresh (Nat.le_refl _))
  rcases q with ⟨⟨xs, hq⟩, q⟩ | ⟨⟨xs, hq⟩, q⟩
  · obtain ⟨its, _, p, _⟩ := I1.list hq
    exact wpAny_pyIter_list p.isList ⟨_, [s1.heap.objs.size], _, _, H1, rfl, I1.kept (t' := s1.toks) fun b o e => Heap.get?_push_of_some _ e, turn_list a _, ⟨_, Heap.get?_push_size _ rfl, rfl, rfl⟩, fr, q⟩
  · obtain ⟨its, _, p, _⟩ := I1.tuple hq
    exact wpAny_pyIter_tuple (show s1.heap.IsTuple a its.toArray from p) ⟨_, [s1.heap.objs.size], _, _, H1, rfl, I1.kept (t' := s1.toks) fun b o e => Heap.get?_push_of_some _ e, turn_tuple a _, ⟨_, Heap.get?_push_size _ rfl, rfl, rfl⟩, fr, q⟩
def tSeq' {α : Type} (r : RT α) : RT (List α) := ⟨fun H v xs => ∃ a vs, v = .ref a ∧ (H a = some (.lst vs) ∨ H a = some (.tup vs)) ∧ Al r H vs xs, fun e h => by
  obtain ⟨a, vs, h1, h2, h3⟩ := h
  exact ⟨a, vs, h1, h2.imp (e _ _) (e _ _), h3.mono e⟩⟩
abbrev AnyI (K : PySem.W.Frag) (x : V) (H : Hp) (R : It → Hp → Prop) : Prop := ∃ a, x = .ref a ∧ (((∃ xs, SqL K H a xs) ∧ R (Itl K a) H) ∨ ((∃ xs, SqT K H a xs) ∧ R (Itt K a) H))
abbrev ListI (K : PySem.W.Frag) (x : V) (H : Hp) (R : It → Hp → Prop) : Prop := ∃ a, x = .ref a ∧ (∃ xs, SqL K H a xs) ∧ R (Itl K a) H
abbrev TupI (K : PySem.W.Frag) (x : V) (H : Hp) (R : It → Hp → Prop) : Prop := ∃ a, x = .ref a ∧ (∃ xs, SqT K H a xs) ∧ R (Itt K a) H
section
variable {K : PySem.W.Frag} {σ : L2.St} {H F : Hp} {te : TE} {R : It → Hp → Prop} {α : Type} {r : RT α} {v : V} {xs : List α} {D : Ends} {wi : TI} {g : TG} {tw : TS}
theorem g_iA (h : te σ H fun x H1 => AnyI K x H1 R) : iAny K te σ H R := h
theorem g_iL (h : te σ H fun x H1 => ListI K x H1 R) : iList K te σ H R := h
theorem g_iT (h : te σ H fun x H1 => TupI K x H1 R) : iTup K te σ H R := h
theorem g_forR (h : wi σ H (ForR D σ g tw)) : tFor wi g tw D σ H := h
abbrev ItA (J : It) (F : Hp) (r : RT α) (xs : List α) : Prop := It0 J xs.length F (fun i x => ∃ b, xs[i]? = some b ∧ r.rel F x b)
theorem It0.al {J : It} {ws : List V} (I : It0 J ws.length F (fun i x => ws[i]? = some x)) (al : Al r F ws xs) : ItA J F r xs := by
  have e := al.length
  rw [e] at I
  exact ⟨I.go, I.stop, fun i F' H' x H'' hi e1 e2 hy => ⟨(I.yld i F' H' x H'' hi e1 e2 hy).1, al.get (I.yld i F' H' x H'' hi e1 e2 hy).2⟩⟩
theorem tList.seq (h : (tList r).rel F v xs) : (tSeq' r).rel F v xs := by
  obtain ⟨a, ws, h1, h2, h3⟩ := h
  exact ⟨a, ws, h1, .inl h2, h3⟩
theorem tTpl.seq (h : (tTpl r).rel F v xs) : (tSeq' r).rel F v xs := by
  obtain ⟨a, ws, h1, h2, h3⟩ := h
  exact ⟨a, ws, h1, .inr h2, h3⟩
theorem Al.seq {r' : RT α} (h : ∀ v x, r.rel F v x → r'.rel F v x) : ∀ {vs : List V} {xs : List α}, Al r F vs xs → Al r' F vs xs
  | [], [], _ => trivial
  | _ :: _, _ :: _, a => ⟨h _ _ a.1, Al.seq h a.2⟩
  | [], _ :: _, a => a.elim
  | _ :: _, [], a => a.elim
theorem pe_globI {X : Cx} {x : Str} {i : Int} {pos : Pos} (hg : Gl X x) (hm : ∃ t, X.mg x = some (.int i t)) (hd : (x == ("__debug__" : Str)) = false := by decide) : PE X (.Name x pos) (tC (.int i)) := by
  obtain ⟨t, h⟩ := hm
  exact pe_glob hg h ⟨t, rfl⟩ hd
theorem g_chain {r1 r2 : R2} {ta tb tc : TE} {Q : VK} (h : ta σ H fun x H1 => tb σ H1 fun y H2 => r1 x y H2 fun z H3 => ∃ k, z = .bl k ∧ (if k = true then tc σ H3 fun w' H4 => r2 y w' H4 Q else Q (.bl false) H3)) : tChain r1 r2 ta tb tc σ H Q := h
theorem g_yesT {QB : Bool → Hp → Prop} (h : QB true H) : tYes σ H QB := h
theorem g_lcT {g : TG} {tt : TT} {te : TE} {vs : List Nat} {x : V} {KQ : VK} {KN : Hp → Prop} (h : g x (wipe σ vs) H fun σ2 H2 => wipe σ2 vs = wipe σ vs ∧ tt σ2 H2 fun b H3 => if b = true then te σ2 H3 KQ else KN H3) : LcT σ g tt te vs x H KQ KN := h
theorem g_wipe {σ2 : L2.St} {vs : List Nat} {Q : Prop} (e : wipe σ2 vs = wipe σ vs) (h : Q) : wipe σ2 vs = wipe σ vs ∧ Q := ⟨e, h⟩
end
end L2.My
namespace L2.My
open PySem PySem.Spec PyProof.Rows L2
abbrev Bk (α : Type) := Shared → Hp → Addr → List (Str × Addr) → List Addr → α
def gA (g : Bk TG) : TG := fun v σ H Q => ∀ s h C cl fp, g s h C cl fp v σ H Q
def ttA (g : Bk TT) : TT := fun σ H Q => ∀ s h C cl fp, g s h C cl fp σ H Q
def teA (g : Bk TE) : TE := fun σ H Q => ∀ s h C cl fp, g s h C cl fp σ H Q
def tiA (g : Bk TI) : TI := fun σ H Q => ∀ s h C cl fp, g s h C cl fp σ H Q
section
variable {X : Cx} {y : Str} {i : Nat} {py : Pos} {elt tg iter tg1 iter1 : Expr} {ifs ifs1 : List Expr} {scope : Scope} {own : List (Str × Nat)} {vs1 : List Nat} {pos spos : Pos} {wi : TI} {g g1 : Bk TG} {tt tt1 : Bk TT} {te : Bk TE} {wi1 : Bk TI}
abbrev XB (X : Cx) (scope : Scope) (s : Shared) (H : Hp) (C : Addr) (cl : List (Str × Addr)) (fp : List Addr) : Cx := X.blk s H scope (compEnvC scope cl C X.env) fp
theorem pe_lcA (hc : X.calm = true) (hN : X.N.Nodup) (hi : PI X tg iter wi) (ok : BlkOk X.N X.env.scope scope own)
    (hg : ∀ s H C cl fp, PG (XB X scope s H C cl fp) tg (g s H C cl fp)) (ht : ∀ s H C cl fp, PTs (XB X scope s H C cl fp) ifs (tt s H C cl fp)) (he : ∀ s H C cl fp, PE (XB X scope s H C cl fp) elt (te s H C cl fp))
    (hs : ∀ x, foldedSetIterable iter X.env x = pure x := by intro _; rfl) : PE X (.ListComp elt [⟨tg, iter, ifs, 0⟩] scope pos) (tLc wi (gA g) (ttA tt) (teA te) (own.map (·.2))) :=
  pe_lc hc hN hi ok (fun s H C cl fp => ⟨fun pins s' σ H' v u Q I r h => (hg s H C cl fp).run pins s' σ H' v u Q I r (h s H C cl fp)⟩)
    (fun s H C cl fp => ⟨fun pins s' σ H' Q I h => (ht s H C cl fp).run pins s' σ H' Q I (h s H C cl fp)⟩) (fun s H C cl fp => ⟨fun pins s' σ H' Q I h => (he s H C cl fp).run pins s' σ H' Q I (h s H C cl fp)⟩) hs
theorem g_gA {v : V} {σ : L2.St} {H : Hp} {Q : L2.St → Hp → Prop} (h : ∀ s h C cl fp, g s h C cl fp v σ H Q) : gA g v σ H Q := h
theorem g_ttA {σ : L2.St} {H : Hp} {Q : Bool → Hp → Prop} (h : ∀ s h C cl fp, tt s h C cl fp σ H Q) : ttA tt σ H Q := h
theorem g_teA {σ : L2.St} {H : Hp} {Q : VK} (h : ∀ s h C cl fp, te s h C cl fp σ H Q) : teA te σ H Q := h
theorem g_tiA {σ : L2.St} {H : Hp} {R : It → Hp → Prop} (h : ∀ s h C cl fp, wi1 s h C cl fp σ H R) : tiA wi1 σ H R := h
end
section
variable {F H : Hp} {Q : VK} {K : PySem.W.Frag}
theorem al_bool : ∀ {ws : List V} {ys : List Bool}, Al tBool F ws ys → ws = ys.map V.bl
  | [], [], _ => rfl
  | _ :: _, _ :: _, h => by rw [List.map_cons, ← al_bool h.2, show _ = V.bl _ from h.1]
  | [], _ :: _, h => h.elim
  | _ :: _, [], h => h.elim
end
abbrev rLenS (K : PySem.W.Frag) : List V → Hp → VK → Prop := fun xs H Q => ∃ p ys, xs = [.ref p] ∧ (SqL K H p ys ∨ SqT K H p ys) ∧ Q (.int ys.length) H
abbrev rLstOf (K : PySem.W.Frag) : List V → Hp → VK → Prop := fun xs H Q => ∃ p ys, xs = [.ref p] ∧ (SqL K H p ys ∨ SqT K H p ys) ∧ ∀ l, H l = none → Q (.ref l) (upd H l (.lst ys))
abbrev rTupOf (K : PySem.W.Frag) : List V → Hp → VK → Prop := fun xs H Q => ∃ p ys, xs = [.ref p] ∧ ((SqL K H p ys ∧ ∀ l, H l = none → Q (.ref l) (upd H l (.tup ys))) ∨ (SqT K H p ys ∧ Q (.ref p) H))
theorem call_lenS {X : Cx} : CallR X (.builtin "len") (rLenS X.K) := call_len_seq
theorem call_lstOf {X : Cx} : CallR X (.type "list") (rLstOf X.K) := call_list_of
theorem call_tupOf {X : Cx} : CallR X (.type "tuple") (rTupOf X.K) := call_tuple_of
section
variable {α : Type} {F H : Hp} {Q : VK} {K : PySem.W.Frag} {r : RT α} {xs : List α} {v : V}
end
end L2.My
namespace L2.My
open PySem PySem.Spec PyProof.Rows L2
def Lc2R (σ : L2.St) (Q : VK) (g : TG) (tt : TT) (wi1 : TI) (g1 : TG) (tt1 : TT) (te : TE) (vs vs1 : List Nat) : It → Hp → Prop := fun J H1 => ∀ D, H1 D = none → ∃ W : Nat → Nat → Hp → Prop, (∃ m, W 0 m (upd H1 D (.lst []))) ∧ ∀ i m H, W i m H →
  (J.stop i H ∧ Q (.ref D) H) ∨ (J.go i H ∧ ∃ Nx : Hp → Prop, (∀ H', Nx H' → ∃ m', m' < m ∧ W (i + 1) m' H') ∧ ∀ x H', J.yld i H x H' → g x (wipe σ vs) H' fun σ2 H2 => wipe σ2 vs = wipe σ vs ∧ tt σ2 H2 fun b H3 =>
    if b = true then wi1 σ2 H3 fun J1 H4 => ∃ W1 : Nat → Nat → Hp → Prop, (∃ m, W1 0 m H4) ∧ ∀ j k H, W1 j k H →
      (J1.stop j H ∧ Nx H) ∨ (J1.go j H ∧ ∃ Nx1 : Hp → Prop, (∀ H', Nx1 H' → ∃ k', k' < k ∧ W1 (j + 1) k' H') ∧ ∀ x H', J1.yld j H x H' → g1 x (wipe σ2 vs1) H' fun σ3 H5 => wipe σ3 vs1 = wipe σ2 vs1 ∧ tt1 σ3 H5 fun b H6 =>
        if b = true then te σ3 H6 fun y H7 => ∃ acc, H7 D = some (.lst acc) ∧ acc.length < sizeLine ∧ Nx1 (upd H7 D (.lst (acc ++ [y]))) else Nx1 H6)
    else Nx H3)
def Lc2T (σ : L2.St) (g : TG) (tt : TT) (wi1 : TI) (vs : List Nat) (x : V) (H : Hp) (RR : L2.St → It → Hp → Prop) : Prop := ∀ KN : Hp → Prop, g x (wipe σ vs) H fun σ2 H2 => wipe σ2 vs = wipe σ vs ∧ tt σ2 H2 fun b H3 => if b = true then wi1 σ2 H3 (RR σ2) else KN H3
section
variable {α : Type} {J : It} {n : Nat} {F H : Hp} {σ : L2.St} {Q : VK} {g g1 : TG} {tt tt1 : TT} {wi wi1 : TI} {te : TE} {vs vs1 : List Nat}
theorem g_lc2 (h : wi σ H (Lc2R σ Q g tt wi1 g1 tt1 te vs vs1)) : tLc2 wi g tt wi1 g1 tt1 te vs vs1 σ H Q := h
theorem g_lc2T {x : V} {RR : L2.St → It → Hp → Prop} (h : ∀ KN : Hp → Prop, g x (wipe σ vs) H fun σ2 H2 => wipe σ2 vs = wipe σ vs ∧ tt σ2 H2 fun b H3 => if b = true then wi1 σ2 H3 (RR σ2) else KN H3) : Lc2T σ g tt wi1 vs x H RR := h
end
section
variable {α β : Type} {J : It} {F H : Hp} {σ : L2.St} {Q : VK} {g : TG} {tt : TT} {te : TE} {vs : List Nat} {r : RT β} {xs : List β}
end
section
variable {α : Type} {J : It} {n : Nat} {F H : Hp} {σ : L2.St} {Q : VK} {g : TG} {tt : TT} {te : TE} {vs : List Nat}
end
end L2.My
namespace L2.My
open PySem PySem.Spec PyProof.Rows L2
def cutL {α : Type} (xs : List α) (lo hi : Option Int) : List α := (xs.drop (HT.sIx xs.length 0 lo)).take (HT.sIx xs.length xs.length hi - HT.sIx xs.length 0 lo)
section
variable {α : Type} {r : RT α} {F H : Hp} {Q : VK} {K : PySem.W.Frag} {v w : V} {xs ys : List α} {lo hi : Option Int}
theorem Al.cut {ws : List V} (h : Al r F ws xs) : Al r F (cutV ws lo hi) (cutL xs lo hi) := by
  unfold cutV cutL
  rw [h.length]
  exact Al.take _ (Al.drop _ h)
end
section
variable {σ : L2.St} {H : Hp} {te : TE} {tl th : TO} {Q : VK} {QO : Option Int → Hp → Prop}
theorem g_sl {r : V → Option Int → Option Int → Hp → VK → Prop} (h : te σ H fun x H1 => tl σ H1 fun l H2 => th σ H2 fun u H3 => r x l u H3 Q) : tSl r te tl th σ H Q := h
theorem g_noPart (h : QO none H) : tNoPart σ H QO := h
theorem g_part (h : te σ H fun x H1 => ∃ i, x = .int i ∧ QO (some i) H1) : tPart te σ H QO := h
theorem g_intV {i : Int} {P : Int → Prop} (h : P i) : ∃ j, V.int i = V.int j ∧ P j := ⟨i, rfl, h⟩
end
section
variable {σ : L2.St} {H : Hp} {to : TE} {t : TA} {Q : VK} {K : PySem.W.Frag} {T : String}
theorem g_bm {r : V → List V → Hp → VK → Prop} (h : to σ H fun x H1 => tyV K T x H1 ∧ t σ H1 fun vs H2 => r x vs H2 Q) : tBM K T r to t σ H Q := h
theorem g_bm0 {r : V → List V → Hp → VK → Prop} (h : to σ H fun x H1 => tyV K T x H1 ∧ r x [] H1 Q) : tBM0 K T r to σ H Q := h
end
end L2.My
namespace L2.My
open PySem PySem.Spec PyProof.Rows L2
def tCallZ (sp : Sp) (dvs : List V) (E : L2.St → XK) (t : TA) : TE := fun σ H Q => t σ H fun vs H1 => sp (vs ++ dvs) H1 Q (E σ)
def tMethZ (C : Addr) (m : Str) (sp : Sp) (dvs : List V) (E : L2.St → XK) (ta : TE) (t : TA) : TE := fun σ H Q => ta σ H fun x H1 => ∃ a dx fs, x = .ref a ∧ H1 a = some (.ins C dx fs) ∧ fs.lookup m = none ∧
  t σ H1 fun vs H2 => sp (x :: (vs ++ dvs)) H2 Q (E σ)
def tMakeZ (C : Addr) (sp : Sp) (dvs : List V) (E : L2.St → XK) (t : TA) : TE := fun σ H Q => t σ H fun vs H1 => ∀ x dx, H1 x = none → H1 dx = none → dx ≠ x →
  sp (.ref x :: (vs ++ dvs)) (upd (upd H1 dx (.own x)) x (.ins C dx [])) (fun v H2 => v = .non ∧ Q (.ref x) H2) (E σ)
section
variable {X : Cx} {CX : CXT} {k : Nat} {f C : Addr} {fd : FuncData} {ps : List Str} {sp : Sp} {dvs : List V} {ds : List Value} {E : L2.St → XK} {x m : Str} {p pos apos : Pos} {e o : Expr} {es : List Expr} {ta : TE} {t : TA}
theorem run_fnZ {pins : List (Addr × Obj)} {σ : L2.St} {H : Hp} {s : Shared} {Q : VK} {us : List Value} {vs : List V} {E : XK} (F : FnOk X.prog X.w X.K X.mg X.base CX k f fd ps sp) (hr : Room k X.A) (hb : Binds X.K fd ps ds) (hd : Vals dvs ds) (hx : PassesAt CX X σ E)
    (I : Inv X pins σ H s) (r : Vals vs us) (h : sp (vs ++ dvs) H Q E) : wpAny (model X.prog X.w) X.A (call (.ref f) us) (EP X pins σ Q) X.xe s := by
  have r2 : Vals (vs ++ dvs) (us ++ ds) := r.append hd
  have hl : (us ++ ds).length = ps.length := by rw [← r2.length]; exact F.len _ _ _ _ h
  refine wpAny_call (codeAny_mono (F.run X.A X.stack s H ⟨us, []⟩ (us ++ ds) (vs ++ dvs) Q E hr I.env0 (hb s us I.kIn hl) r2 h) fun r s' hq => ?_)
  cases r with
  | error e => exact hx pins H s e s' I hq
  | ok fl =>
    cases fl with
    | ret u => exact I.after hq
    | next => exact False.elim hq
    | brk => exact False.elim hq
    | cont => exact False.elim hq
theorem pe_callZ (F : FnOk X.prog X.w X.K X.mg X.base CX k f fd ps sp) (hr : Room k X.A) (hg : Gl X x) (hm : X.mg x = some (.ref f)) (hk : PySem.W.keepIn X.K (.ref f) = true) (hb : Binds X.K fd ps ds) (hd : Vals dvs ds) (hx : ∀ σ, PassesAt CX X σ (E σ))
    (ha : PA X (e :: es) t) (hdb : (x == ("__debug__" : Str)) = false := by decide) (he : starEach (e :: es) X.env = (false, eval e X.env) :: starEach es X.env := by rfl) (hpl : (backTo pos (starEach es X.env)).any (·.1) = false := by rfl) :
    PE X (.Call (.Name x p) (e :: es) [] pos) (tCallZ sp dvs E t) := by
  refine ⟨fun pins s σ H Q I h => ?_⟩
  refine wpAny_Call_Name_kw (ld_glob I hg hm ?_ hdb)
  refine PySem.W.callWith_K (h₀ := X.base) I.ok.mod.kin hk (thn (ha.run pos pins s σ H _ I h) fun us s1 ⟨vs, H1, I1, r, q⟩ => ⟨I1.kIn, ?_⟩) he hpl
  exact run_fnZ F hr hb hd (hx σ) I1 r q
end
section
variable {X : Cx} {k : Nat} {C : Addr} {x m : Str} {ps : List Str} {dvs : List V} {sp : Sp} {E : L2.St → XK} {e o : Expr} {es : List Expr} {ta to : TE} {t : TA} {p pos apos : Pos}
theorem pe_fnZ (G : Fnc X.prog X.w X.K X.mg X.base k x ps sp) (hr : Room k X.A) (hx : ∀ σ, PassesAt (L2.CX X.prog X.w) X σ (E σ)) (ha : PA X (e :: es) t) (hg : Gl X x := by rfl) (hd : (x == ("__debug__" : Str)) = false := by decide)
    (he : starEach (e :: es) X.env = (false, eval e X.env) :: starEach es X.env := by rfl) (hpl : (backTo pos (starEach es X.env)).any (·.1) = false := by rfl) :
    PE X (.Call (.Name x p) (e :: es) [] pos) (tCallZ sp [] E t) := by
  obtain ⟨f, fd, h1, h2, h3, h4⟩ := G.ex
  exact pe_callZ h4 hr hg h1 h2 h3 .nil hx ha hd he hpl
end
def rIsX (K : PySem.W.Frag) (cls : Value) (a : Addr) (d : Option Addr) : List V → Hp → VK → Prop := fun xs H Q => ∃ D, cls = .ref D ∧ ExcC K D ∧ rIsEd K D a d xs H Q
def rIsXT (K : PySem.W.Frag) (cls : Value) (a : Addr) (d : Option Addr) : List V → Hp → VK → Prop := fun xs H Q => ∃ D, cls = .ref D ∧ ExcC K D ∧ rIsEdT K D a d xs H Q
def tTryA (K : PySem.W.Frag) (c : Value) (i : Nat) (tb : WX → List (Addr × Obj) → (Value → Shared → Prop) → TS) (ts : Addr → Value → Option Addr → Obj → List (Addr × Obj) → TS) : TS :=
  fun D σ H => ∀ pn xe, tb (wAs K c i (fun a cls d D σ H => ∀ oe pn, ts a cls d oe pn D σ H) (fun _ _ _ _ => False) D) pn xe D σ H
section
variable {X : Cx} {x n : Str} {c : Value} {i : Nat} {body suite : List Stmt} {b₀ : Stmt} {np pos pos' : Pos} {tb : WX → List (Addr × Obj) → (Value → Shared → Prop) → TS} {ts : Addr → Value → Option Addr → Obj → List (Addr × Obj) → TS}
theorem ps_tryA (hs : X.stack = X.env :: X.outer) (hf : X.env.frame = some X.env.locals) (hN : X.N.Nodup) (hi : X.N[i]? = some n) (hln : X.env.kindOf n = some .local) (hc : Names X x c)
    (hb : ∀ (W : WX) (pn : List (Addr × Obj)) (xe : Value → Shared → Prop), Takes (X.tr pn xe) W → PassesOwn (model X.prog X.w) X.A X.env xe → PSs (X.tr pn xe) body (tb W pn xe))
    (hsu : ∀ (a : Addr) (oe : Obj) (cls : Value) (d : Option Addr) (pn : List (Addr × Obj)), Zc cls d oe → (∃ vs, oe.data = .fields vs) → PSs (X.suite a ((a, oe) :: pn)) (b₀ :: suite) (ts a cls d oe pn)) :
    PS X (.Try body [.ExceptHandler (some (.Name x np)) (some n) (b₀ :: suite) pos'] [] [] pos) (tTryA X.K c i tb ts) :=
  ps_try_as (tb := fun W D σ H => ∀ pn xe, tb W pn xe D σ H) (ts := fun a cls d D σ H => ∀ oe pn, ts a cls d oe pn D σ H) (Wout := fun _ _ _ _ => False) hs hf hN hi hln hc takes0
    (fun W pn xe tk po => ⟨fun pins s σ H D I h => (hb W pn xe tk po).run pins s σ H D I (h pn xe)⟩)
    (fun a oe cls d pn hz hf' => ⟨fun pins s σ H D I h => (hsu a oe cls d pn hz hf').run pins s σ H D I (h oe pn)⟩)
end
section
variable {σ : L2.St} {H : Hp} {Q : VK} {D : Ends} {ta : TE} {t : TA}
theorem g_callZ {sp : Sp} {dvs : List V} {E : L2.St → XK} (h : t σ H fun vs H1 => sp (vs ++ dvs) H1 Q (E σ)) : tCallZ sp dvs E t σ H Q := h
theorem g_methZ {C : Addr} {m : Str} {sp : Sp} {dvs : List V} {E : L2.St → XK} (h : ta σ H fun x H1 => ∃ a dx fs, x = .ref a ∧ H1 a = some (.ins C dx fs) ∧ fs.lookup m = none ∧ t σ H1 fun vs H2 => sp (x :: (vs ++ dvs)) H2 Q (E σ)) : tMethZ C m sp dvs E ta t σ H Q := h
theorem g_makeZ {C : Addr} {sp : Sp} {dvs : List V} {E : L2.St → XK} (h : t σ H fun vs H1 => MkQ C sp dvs (E σ) vs H1 Q) : tMakeZ C sp dvs E t σ H Q := h
end
end L2.My
namespace L2.My
open PySem PySem.Spec PyProof.Rows L2
structure Mkk (P : Program) (w : World) (K : PySem.W.Frag) (mg : Str → Option Value) (base : Heap) (k : Nat) (C : Addr) (x : Str) (ps ks : List Str) (sp : Sp) : Prop where
  gl : mg x = some (.ref C)
  ex : ∃ f fd g, Mk K C f ∧ KBn K fd ps 1 ks g (fun vs zs => vs ++ zs) ∧ FnOk P w K mg base (L2.CX P w) k f fd ps sp
section
variable {X : Cx} {k : Nat} {C : Addr} {x : Str} {ps ks : List Str} {sp : Sp} {E : XK} {kws : List Keyword} {tk : TA} {p pos : Pos}
theorem g_makeK {C : Addr} {n m : Nat} {sp : Sp} {gV : List V → List V → List V} {E : XK} {t tk : TA} {σ : L2.St} {H : Hp} {Q : VK} (h : t σ H fun vs H1 => tk σ H1 fun zs H2 => vs.length = n ∧ zs.length = m ∧ ∀ x dx, H2 x = none → H2 dx = none → dx ≠ x →
  sp (gV (.ref x :: vs) zs) (upd (upd H2 dx (.own x)) x (.ins C dx [])) (fun v H3 => v = .non ∧ Q (.ref x) H3) E) : tMakeK C n m sp gV E t tk σ H Q := h
end
end L2.My
namespace Lw
open PySem PySem.Spec PyProof.Rows L2 L2.My

theorem q_num {n d : Int} (h : 0 < d) : (Rat.divInt n d).num = n / (Int.gcd n d : Int) := by
  obtain ⟨k, rfl⟩ : ∃ k : Nat, d = (k : Int) := ⟨d.toNat, by omega⟩
  have hk : k ≠ 0 := by omega
  rw [Rat.divInt_ofNat, Rat.mkRat_def, dif_neg hk, Rat.normalize_eq]
  rfl
theorem q_den {n d : Int} (h : 0 < d) : ((Rat.divInt n d).den : Int) = d / (Int.gcd n d : Int) := by
  obtain ⟨k, rfl⟩ : ∃ k : Nat, d = (k : Int) := ⟨d.toNat, by omega⟩
  have hk : k ≠ 0 := by omega
  rw [Rat.divInt_ofNat, Rat.mkRat_def, dif_neg hk, Rat.normalize_eq]
  show ((k / n.natAbs.gcd k : Nat) : Int) = (k : Int) / (Int.gcd n k : Int)
  rw [Int.natCast_ediv]
  rfl
theorem den_pos (q : Rat) : (0 : Int) < q.den := by
  have := q.den_nz
  omega
theorem q_self (q : Rat) : Rat.divInt q.num q.den = q := Rat.num_divInt_den q
def Sz (B : Nat) (q : Rat) : Prop := q.num.natAbs < 2 ^ B ∧ q.den < 2 ^ B
def pr (q : Rat) : Int × Int := (q.num, q.den)
def tP : RT (Int × Int) := tPair tInt tInt
def tQ : RT Rat := ⟨fun H v q => tP.rel H v (pr q), fun e h => tP.mono e h⟩
theorem gcd_dvd_le {n d : Int} (h : 0 < d) : (0 : Int) < Int.gcd n d ∧ (Int.gcd n d : Int) ≤ d := by
  have h1 : 0 < Int.gcd n d := Int.gcd_pos_of_ne_zero_right _ (by omega)
  have h2 : (Int.gcd n d : Int) ∣ d := Int.gcd_dvd_right ..
  exact ⟨by omega, Int.le_of_dvd h h2⟩

def fb : Nat → Nat × Nat
  | 0 => (0, 1)
  | n + 1 => ((fb n).2, (fb n).1 + (fb n).2)
def Eu (k a b : Nat) : Prop := b < (fb k).1 ∨ (b < a ∧ a < (fb k).2)
theorem Eu.next {k a b : Nat} (h : Eu (k + 1) a b) (hb : 0 < b) : Eu k b (a % b) := by
  have hr : a % b < b := Nat.mod_lt a hb
  rcases Nat.lt_or_ge b (fb k).2 with c | c
  · exact .inr ⟨hr, c⟩
  · rcases h with h | ⟨h1, h2⟩
    · exact absurd h (Nat.not_lt.mpr c)
    · left
      have h2 : a < (fb k).1 + (fb k).2 := h2
      have : a % b ≤ a - b := by
        rw [Nat.mod_eq_sub_mod (Nat.le_of_lt h1)]
        exact Nat.mod_le _ _
      omega
end Lw
namespace Lw
open PySem PySem.Spec PyProof.Rows L2 L2.My

def fR (n d : Int) : List (Str × V) := putF "den" (.int d) (putF "num" (.int n) [])
theorem nd_ne : ¬ (("num" : Str) = "den") := by decide +kernel
theorem fR_num (n d : Int) : (fR n d).lookup ("num" : Str) = some (.int n) := by
  unfold fR
  rw [lookup_putF, if_neg nd_ne, lookup_putF, if_pos rfl]
theorem fR_den (n d : Int) : (fR n d).lookup ("den" : Str) = some (.int d) := by
  unfold fR
  rw [lookup_putF, if_pos rfl]
def tRat (R : Addr) : RT Rat := ⟨fun H v q => ∃ a dx, v = .ref a ∧ H a = some (.ins R dx (fR q.num q.den)), fun e h => by
  obtain ⟨a, dx, h1, h2⟩ := h
  exact ⟨a, dx, h1, e _ _ h2⟩⟩
def spRInit (R B : Addr) : Sp := fun vs H Q E => ∃ x dx n d, vs = [.ref x, .int n, .int d] ∧ H x = some (.ins R dx []) ∧ d.natAbs < 2 ^ 9000 ∧ (d ≤ 0 → E (.ref B) none H) ∧
  (0 < d → Q .non (upd H x (.ins R dx (fR (Rat.divInt n d).num (Rat.divInt n d).den))))
def spR2 (R : Addr) (f : Rat → Rat → Rat) : Sp := fun vs H Q _ => ∃ F x y a b, vs = [x, y] ∧ Ext F H ∧ (tRat R).rel F x a ∧ (tRat R).rel F y b ∧ Sz 4000 a ∧ Sz 4000 b ∧
  ∀ v F' H', Nx [] F H F' H' → (tRat R).rel F' v (f a b) → Q v H'
def eqR (R : Addr) : Addr → Addr → Hp → Bool → Prop := fun a b H r => ∃ p q, (tRat R).rel H (.ref a) p ∧ (tRat R).rel H (.ref b) q ∧ r = decide (p = q)
def spRLess (R : Addr) : Sp := fun vs H Q _ => ∃ F x y a b, vs = [x, y] ∧ Ext F H ∧ (tRat R).rel F x a ∧ (tRat R).rel F y b ∧ Sz 4000 a ∧ Sz 4000 b ∧ Q (.bl (decide (a < b))) H
def spRBy (R B : Addr) : Sp := fun vs H Q E => ∃ F x y a b, vs = [x, y] ∧ Ext F H ∧ (tRat R).rel F x a ∧ (tRat R).rel F y b ∧ Sz 4000 a ∧ Sz 4000 b ∧ (b = 0 → E (.ref B) none H) ∧
  (b ≠ 0 → ∀ v F' H', Nx [] F H F' H' → (tRat R).rel F' v (a / b) → Q v H')
def strQ (q : Rat) : Str := if q.den = 1 then toString q.num else toString q.num ++ ("/" : Str) ++ toString (q.den : Int)
def spRStr (R : Addr) : Sp := fun vs H Q _ => ∃ F x a, vs = [x] ∧ Ext F H ∧ (tRat R).rel F x a ∧ Sz 1900 a ∧ Q (.str (strQ a)) H
section
variable {H : Hp} {Q : VK} {F : Hp} {v : V} {R : Addr} {K : PySem.W.Frag} {a : Rat}
def FldOk (K : PySem.W.Frag) (f : Str) (x : V) (H1 : Hp) (Q : VK) : Prop := ∃ a C dx fs v, x = .ref a ∧ H1 a = some (.ins C dx fs) ∧ Cls K C ∧ NoAttr K C f ∧ fs.lookup f = some v ∧ Q v H1
theorem g_fld {ta : TE} {σ : L2.St} {f : Str} (h : ta σ H fun x H1 => FldOk K f x H1 Q) : tFld K ta f σ H Q := h
theorem fld_num {K' : PySem.W.Frag} (hK : K' = K) (h : (tRat R).rel F v a) (e : Ext F H) (c : Cls K R) (n : NoAttr K R "num") (k : Q (.int a.num) H) : FldOk K' "num" v H Q := by
  subst hK
  obtain ⟨p, dx, rfl, h2⟩ := h
  exact ⟨p, R, dx, _, _, rfl, e _ _ h2, c, n, fR_num _ _, k⟩
theorem fld_den {K' : PySem.W.Frag} (hK : K' = K) (h : (tRat R).rel F v a) (e : Ext F H) (c : Cls K R) (n : NoAttr K R "den") (k : Q (.int a.den) H) : FldOk K' "den" v H Q := by
  subst hK
  obtain ⟨p, dx, rfl, h2⟩ := h
  exact ⟨p, R, dx, _, _, rfl, e _ _ h2, c, n, fR_den _ _, k⟩
theorem ix0 {K : PySem.W.Frag} {x : Int × Int} (h : tP.rel F v x) (e : Ext F H) (k : Q (.int x.1) H) : rIxT K v (.int 0) H Q := by
  obtain ⟨p, w, w', rfl, h2, h3, h4⟩ := h
  cases h3
  exact ⟨p, _, 0, _, rfl, rfl, SqT.of (e _ _ h2), rfl, k⟩
theorem ix1 {K : PySem.W.Frag} {x : Int × Int} (h : tP.rel F v x) (e : Ext F H) (k : Q (.int x.2) H) : rIxT K v (.int 1) H Q := by
  obtain ⟨p, w, w', rfl, h2, h3, h4⟩ := h
  cases h4
  exact ⟨p, _, 1, _, rfl, rfl, SqT.of (e _ _ h2), rfl, k⟩
end
theorem lt_mul {i j : Int} {a b c : Nat} (ha : i.natAbs < 2 ^ a) (hb : j.natAbs < 2 ^ b) (h : a + b ≤ c) : (i * j).natAbs < 2 ^ c := Nat.lt_of_lt_of_le (wide_lt ha hb) (Nat.pow_le_pow_right (by decide) h)
theorem Sz.den {B : Nat} {q : Rat} (h : Sz B q) : ((q.den : Int)).natAbs < 2 ^ B := by
  rw [Int.natAbs_natCast]; exact h.2
theorem q_mul (a b : Rat) : Rat.divInt (a.num * b.num) (a.den * b.den) = a * b := by
  have h := Rat.divInt_mul_divInt a.num b.num (d₁ := a.den) (d₂ := b.den)
  rw [q_self, q_self] at h
  exact h.symm
theorem log2_lt {n : Nat} (h : n < 2 ^ 1900) : n.log2 < 1920 := by
  by_cases z : n = 0
  · subst z; decide
  · have := (Nat.log2_lt z).mpr h
    omega
theorem txt_len {i : Int} (h : i.natAbs.log2 < 1920) : (Str.ofString (toString i)).length ≤ 1921 := by
  rw [PySem.ofString_length]
  exact int_text_length_le (by decide) h
theorem q_eq (a b : Rat) : (decide (a.num = b.num) && decide ((a.den : Int) = b.den)) = decide (a = b) := by
  by_cases h : a = b
  · subst h; simp
  · rw [decide_eq_false h]
    by_cases h1 : a.num = b.num
    · by_cases h2 : a.den = b.den
      · exact absurd (Rat.ext h1 h2) h
      · rw [decide_eq_false (p := (a.den : Int) = b.den) (by omega)]; simp
    · rw [decide_eq_false h1]; rfl
structure Pool where
  ns : List Int
  at_ : Int
  big : Int
  st : Int
  cnt : Int
  bud : Int
abbrev MM : Int := 2147483647
def Pool.ok (s : Pool) : Prop := 0 ≤ s.at_ ∧ 0 ≤ s.st ∧ s.st < MM ∧ s.ns.length ≤ 63
def Pool.feed (s : Pool) : Pool :=
  if s.big ≤ 0 ∧ s.cnt ≤ 0 ∧ s.at_ < s.ns.length then
    { s with at_ := s.at_ + 1, st := (s.st * 31 + s.ns.getD s.at_.toNat 0) % MM, cnt := 7, big := if s.ns.getD s.at_.toNat 0 ≥ 10 ^ 18 then s.ns.getD s.at_.toNat 0 else s.big }
  else s
def Pool.draw1 (s : Pool) (size : Int) : Int × Pool :=
  if s.big > 0 then (s.big % size, { s with big := s.big / size, cnt := 0 })
  else ((((s.st * 48271 + 12345) % MM) * 69621 + 7919) % MM % size, { s with cnt := s.cnt - 1, st := (s.st * 48271 + 12345) % MM })
def Pool.draw (s : Pool) (size : Int) : Int × Pool := s.feed.draw1 size
def Pool.start (ns : List Int) (b : Int) : Pool := ⟨ns, 0, 0, 1, 0, b⟩
theorem Pool.start_ok {ns : List Int} {b : Int} (h : ns.length ≤ 63) : (Pool.start ns b).ok := ⟨Int.le_refl 0, (by show (0 : Int) ≤ 1; decide), (by show (1 : Int) < MM; decide), h⟩
theorem Pool.feed_ok {s : Pool} (h : s.ok) : s.feed.ok := by
  obtain ⟨h1, h2, h3, h4⟩ := h
  unfold Pool.feed
  split
  · exact ⟨by show 0 ≤ s.at_ + 1; omega, Int.emod_nonneg _ (by decide), Int.emod_lt_of_pos _ (by decide), h4⟩
  · exact ⟨h1, h2, h3, h4⟩
theorem Pool.draw_ok {s : Pool} {n : Int} (h : s.ok) : (s.draw n).2.ok := by
  obtain ⟨h1, h2, h3, h4⟩ := Pool.feed_ok h
  unfold Pool.draw Pool.draw1
  split
  · exact ⟨h1, h2, h3, h4⟩
  · exact ⟨h1, Int.emod_nonneg _ (by decide), Int.emod_lt_of_pos _ (by decide), h4⟩
theorem Pool.draw_lt {s : Pool} {n : Int} (h : 0 < n) : 0 ≤ (s.draw n).1 ∧ (s.draw n).1 < n := by
  unfold Pool.draw Pool.draw1
  split
  · exact ⟨Int.emod_nonneg _ (by omega), Int.emod_lt_of_pos _ h⟩
  · exact ⟨Int.emod_nonneg _ (by omega), Int.emod_lt_of_pos _ h⟩
def Pool.vs (s : Pool) (a : Addr) : List V := [.ref a, .int s.at_, .int s.big, .int s.st, .int s.cnt, .int s.bud]
structure PoolAt (F H : Hp) (p : Addr) (s : Pool) : Prop where
  ok : s.ok
  out : F p = none
  ex : ∃ a, H p = some (.lst (s.vs a)) ∧ F a = some (.lst (s.ns.map V.int))
theorem PoolAt.nx {F H F' H' : Hp} {p : Addr} {s : Pool} (h : PoolAt F H p s) (n : Nx [] F H F' H') : PoolAt F' H' p s := by
  obtain ⟨a, h1, h2⟩ := h.ex
  exact ⟨h.ok, n.out p h.out (by rw [h1]; simp), a, n.keep p _ (by simp) h1, n.ff _ _ h2⟩
theorem pool_cell {s : Pool} (h : s.ok) (c : s.at_ < s.ns.length) : atI (s.ns.map V.int) s.at_ = some (.int (s.ns.getD s.at_.toNat 0)) := by
  obtain ⟨h1, _⟩ := h
  obtain ⟨n, hn⟩ : ∃ n : Nat, s.at_ = n := ⟨s.at_.toNat, by omega⟩
  rw [hn] at c ⊢
  have c' : n < s.ns.length := by omega
  refine atI_nat ?_
  rw [List.getElem?_map, List.getElem?_eq_getElem c', List.getD_eq_getElem?_getD, Int.toNat_natCast, List.getElem?_eq_getElem c']
  rfl
def spDraw : Sp := fun vs H Q _ => ∃ p s F size, vs = [.ref p, .int size] ∧ Ext F H ∧ PoolAt F H p s ∧ 0 < size ∧ size < 1073741824 ∧
  ∀ H', Nx [p] F H F H' → PoolAt F H' p (s.draw size).2 → Q (.int (s.draw size).1) H'
def spPool (K : PySem.W.Frag) : Sp := fun vs H Q _ => ∃ (a : Addr) (ns : List Int) (F : Hp) (b : Int), vs = [.ref a, .int b] ∧ Ext F H ∧ SqL K F a (ns.map V.int) ∧ ns.length ≤ 63 ∧
  ∀ p F' H', Nx [] F H F' H' → PoolAt F' H' p (Pool.start ns b) → H p = none → Q (.ref p) H'
def spLess : Sp := fun vs H Q _ => ∃ F n d, vs = [.int n, .int d] ∧ Ext F H ∧ 0 < d ∧ n.natAbs < 2 ^ 2770 ∧ d.natAbs < 2 ^ 2770 ∧ ∀ v F' H', Nx [] F H F' H' → tQ.rel F' v (Rat.divInt n d) → Q v H'
def spPr2 (f : Rat → Rat → Rat) : Sp := fun vs H Q _ => ∃ F x y a b, vs = [x, y] ∧ Ext F H ∧ tP.rel F x a ∧ tP.rel F y b ∧ 0 < a.2 ∧ 0 < b.2 ∧
  (∃ k l, a.1.natAbs < 2 ^ k ∧ a.2.natAbs < 2 ^ k ∧ b.1.natAbs < 2 ^ l ∧ b.2.natAbs < 2 ^ l ∧ 0 < k ∧ 0 < l ∧ k + l < 2770) ∧
  ∀ v F' H', Nx [] F H F' H' → tQ.rel F' v (f (Rat.divInt a.1 a.2) (Rat.divInt b.1 b.2)) → Q v H'
def spBelow : Sp := fun vs H Q _ => ∃ F x y a b, vs = [x, y] ∧ Ext F H ∧ tP.rel F x a ∧ tP.rel F y b ∧ 0 < a.2 ∧ 0 < b.2 ∧
  (∃ k, a.1.natAbs < 2 ^ k ∧ a.2.natAbs < 2 ^ k ∧ b.1.natAbs < 2 ^ k ∧ b.2.natAbs < 2 ^ k ∧ 0 < k ∧ k < 100000) ∧
  Q (.bl (decide (Rat.divInt a.1 a.2 < Rat.divInt b.1 b.2))) H
def spIs (R : Addr) : Sp := fun vs H Q _ => ∃ F x y q, vs = [x, y] ∧ Ext F H ∧ (tRat R).rel F x q ∧ tQ.rel F y q ∧ ∀ F' H', Nx [] F H F' H' → Q (.bl true) H'
def spRefused (R : Addr) : Sp := fun vs H Q _ => ∃ F x y, vs = [x, y] ∧ Ext F H ∧ ((∃ p : Int × Int, tP.rel F x p ∧ p.2 ≤ 0 ∧ p.2.natAbs < 2 ^ 9000 ∧ y = .non) ∨ ∃ a, (tRat R).rel F y a ∧ Sz 4000 a) ∧ ∀ F' H', Nx [] F H F' H' → Q (.bl true) H'
def spLaw (K : PySem.W.Frag) : Sp := fun vs H Q _ => ∃ (a : Addr) (ns : List Int) (F : Hp), vs = [.ref a] ∧ Ext F H ∧ SqL K F a (ns.map V.int) ∧ ns.length ≤ 63 ∧ ∀ H', Q (.bl true) H'
end Lw
namespace Lw
open PySem PySem.Spec PyProof.Rows L2 L2.My
def tyD : PyData → Value
  | .none => .type "NoneType" | .bool _ => .type "bool" | .int _ => .type "int" | .str _ => .type "str" | .list _ => .type "list" | .tuple _ => .type "tuple" | .dict _ => .type "dict"
theorem Dp.ty {K : PySem.W.Frag} {H : Hp} {v : V} {d : PyData} (h : Dp K H v d) : TyX K H v (tyD d) := by
  cases h with
  | non => exact .base .non
  | bl b => exact .base (.bl b)
  | int i => exact .base (.int i)
  | str x => exact .base (.str x)
  | lst q _ =>
    rcases q with (q | ⟨o, q⟩) | ⟨o, its, n, h1, h2, _⟩
    · exact .base (.lst q)
    · exact .base (.frz q)
    · exact .kList h1 h2
  | tup q _ =>
    rcases q with (q | ⟨o, q⟩) | ⟨o, its, n, h1, h2, _⟩
    · exact .base (.tup q)
    · exact .fTuple q
    · exact .kTuple h1 h2
def dOk : Nat → PyData → Prop
  | 0, _ => False
  | _ + 1, .dict _ => False
  | n + 1, .list ds => ds.length < 16777216 ∧ ∀ e ∈ ds, dOk n e
  | n + 1, .tuple ds => ds.length < 16777216 ∧ ∀ e ∈ ds, dOk n e
  | _ + 1, _ => True
def spSame (K : PySem.W.Frag) (n : Nat) : Sp := fun vs H Q _ => ∃ x y d, vs = [x, y] ∧ Dp K H x d ∧ Dp K H y d ∧ dOk n d ∧ Q (.bl true) H
theorem lst_of {K : PySem.W.Frag} {H : Hp} {v : V} {ds : List PyData} (h : Dp K H v (.list ds)) : ∃ a xs, v = .ref a ∧ SqL K H a xs ∧ DpAll K H xs ds := by
  cases h with
  | lst q r => exact ⟨_, _, rfl, q, r⟩
theorem tup_of {K : PySem.W.Frag} {H : Hp} {v : V} {ds : List PyData} (h : Dp K H v (.tuple ds)) : ∃ a xs, v = .ref a ∧ SqT K H a xs ∧ DpAll K H xs ds := by
  cases h with
  | tup q r => exact ⟨_, _, rfl, q, r⟩
theorem DpAll.len {K : PySem.W.Frag} {H : Hp} : ∀ {vs : List V} {ds : List PyData}, DpAll K H vs ds → vs.length = ds.length
  | [], [], _ => rfl
  | _ :: _, _ :: _, .cons _ t => congrArg (· + 1) (DpAll.len t)
theorem DpAll.get {K : PySem.W.Frag} {H : Hp} : ∀ {vs : List V} {ds : List PyData} {i : Nat} {d : PyData}, DpAll K H vs ds → ds[i]? = some d → ∃ v, vs[i]? = some v ∧ Dp K H v d
  | _ :: _, _ :: _, 0, _, .cons h _, e => by
    simp at e; subst e; exact ⟨_, rfl, h⟩
  | _ :: vs, _ :: ds, i + 1, d, .cons _ t, e => by
    obtain ⟨v, e1, h⟩ := DpAll.get (i := i) t (by simpa using e)
    exact ⟨v, by simpa using e1, h⟩
  | [], [], _, _, _, e => by simp at e
section
variable {K K' : PySem.W.Frag} {H : Hp} {Q : VK} {v : V} {d : PyData}
theorem g_isiTup (hK : K' = K) (k : Q (.bl (match d with | .tuple _ => true | _ => false)) H) (h : Dp K H v d) : rIsi K' [v, .ty "tuple"] H Q := by
  subst hK
  refine g_isi (.ty _) (Dp.ty h) ?_ k
  cases d <;> rfl
theorem g_isiLst (hK : K' = K) (k : Q (.bl (match d with | .list _ => true | _ => false)) H) (h : Dp K H v d) : rIsi K' [v, .ty "list"] H Q := by
  subst hK
  refine g_isi (.ty _) (Dp.ty h) ?_ k
  cases d <;> rfl
theorem g_isiBool (hK : K' = K) (k : Q (.bl (match d with | .bool _ => true | _ => false)) H) (h : Dp K H v d) : rIsi K' [v, .ty "bool"] H Q := by
  subst hK
  refine g_isi (.ty _) (Dp.ty h) ?_ k
  cases d <;> rfl
theorem g_isiInt (hK : K' = K) (k : Q (.bl (match d with | .bool _ => true | .int _ => true | _ => false)) H) (h : Dp K H v d) : rIsi K' [v, .ty "int"] H Q := by
  subst hK
  refine g_isi (.ty _) (Dp.ty h) ?_ k
  cases d <;> rfl
theorem g_isiStr (hK : K' = K) (k : Q (.bl (match d with | .str _ => true | _ => false)) H) (h : Dp K H v d) : rIsi K' [v, .ty "str"] H Q := by
  subst hK
  refine g_isi (.ty _) (Dp.ty h) ?_ k
  cases d <;> rfl
end
end Lw
namespace Lw
open PySem PySem.Spec PyProof.Rows L2 L2.My
theorem div_sz {n d : Int} {b : Nat} (hd : 0 < d) (hn : n.natAbs < 2 ^ b) (hD : d.natAbs < 2 ^ b) : Sz b (Rat.divInt n d) := by
  have hg := gcd_dvd_le (n := n) hd
  refine ⟨?_, ?_⟩
  · rw [q_num hd]
    exact Nat.lt_of_le_of_lt (Int.natAbs_ediv_le_natAbs _ _) hn
  · have h1 := q_den (n := n) hd
    have h2 : d / (Int.gcd n d : Int) ≤ d := Int.ediv_le_self _ (by omega)
    omega
theorem Sz.up {a b : Nat} {q : Rat} (h : Sz a q) (hab : a ≤ b) : Sz b q := ⟨Nat.lt_of_lt_of_le h.1 (Nat.pow_le_pow_right (by decide) hab), Nat.lt_of_lt_of_le h.2 (Nat.pow_le_pow_right (by decide) hab)⟩
section
variable {F H : Hp} {Q : VK} {E : XK} {R B : Addr} {K : PySem.W.Frag}
theorem eqv_pair (a b : Rat) : PyData.eqv (.tuple [.int (pr a).1, .int (pr a).2]) (.tuple [.int (pr b).1, .int (pr b).2]) = decide (a = b) := by
  rw [← q_eq]
  simp [PyData.eqv, PyData.eqvAll, pr, Bool.beq_eq_decide_eq]
end
end Lw
namespace Lw
open PySem PySem.Spec PyProof.Rows L2 L2.My
def sumQ (xs : List Rat) : Rat := xs.foldl (· + ·) 0
def SumOk (xs : List Rat) : Prop := (∀ q ∈ xs, Sz 1900 q) ∧ ∀ i, i ≤ xs.length → Sz 1900 (sumQ (xs.take i))
def spTotal (R : Addr) : Sp := fun vs H Q _ => ∃ F x xs, vs = [x] ∧ Ext F H ∧ (tSeq' (tRat R)).rel F x xs ∧ SumOk xs ∧ ∀ v F' H', Nx [] F H F' H' → (tRat R).rel F' v (sumQ xs) → Q v H'
def spLots (R : Addr) : Sp := fun vs H Q _ => ∃ F x xs, vs = [x] ∧ Ext F H ∧ (tSeq' (tRat R)).rel F x xs ∧ SumOk xs ∧ xs.length ≤ 16777216 ∧ ∀ F' H', Nx [] F H F' H' → Q (.bl ((!xs.any fun q => decide (q < 0)) && decide (sumQ xs = 1))) H'
end Lw
namespace Lw
open PySem PySem.Spec PyProof.Rows L2 L2.My
abbrev Mv := List (List (List (List Rat)))
structure Mac where
  start : List Rat
  moves : Mv
abbrev s4 (R : Addr) : RT Mv := tSeq' (tSeq' (tSeq' (tSeq' (tRat R))))
abbrev t4 (R : Addr) : RT Mv := tTpl (tTpl (tTpl (tTpl (tRat R))))
def fM (s m : V) : List (Str × V) := putF "moves" m (putF "start" s [])
def tMac (R C : Addr) : RT Mac := ⟨fun H v q => ∃ a dx s m, v = .ref a ∧ H a = some (.ins C dx (fM s m)) ∧ (tTpl (tRat R)).rel H s q.start ∧ (t4 R).rel H m q.moves, fun e h => by
  obtain ⟨a, dx, s, m, h1, h2, h3, h4⟩ := h
  exact ⟨a, dx, s, m, h1, e _ _ h2, (tTpl _).mono e h3, (t4 _).mono e h4⟩⟩
def lotsB (xs : List Rat) : Bool := (!xs.any fun q => decide (q < 0)) && decide (sumQ xs = 1)
def col (a : List (List (List Rat))) (s : Nat) : List Rat := a.flatMap fun rows => rows.getD s []
def macBad (st : List Rat) (mv : Mv) : Option Str :=
  if ¬ (0 < st.length ∧ st.length ≤ 12) then some "states" else if ¬ (0 < mv.length ∧ mv.length ≤ 4) then some "buttons"
  else if ¬ (0 < (mv.headD []).length ∧ (mv.headD []).length ≤ 4) ∨ (mv.any fun a => decide (a.length ≠ (mv.headD []).length)) = true then some "answers"
  else if (mv.any fun a => a.any fun rows => decide (rows.length ≠ st.length) || rows.any fun row => decide (row.length ≠ st.length)) = true then some "rows"
  else if lotsB st = false then some "start"
  else if (mv.any fun a => (List.range st.length).any fun s => !lotsB (col a s)) = true then some "moves" else none
structure MacSz (st : List Rat) (mv : Mv) : Prop where
  s0 : st.length ≤ 1000
  s1 : mv.length ≤ 1000
  s2 : ∀ a ∈ mv, a.length ≤ 1000
  s3 : ∀ a ∈ mv, ∀ rows ∈ a, rows.length ≤ 1000
  s4 : ∀ a ∈ mv, ∀ rows ∈ a, ∀ row ∈ rows, row.length ≤ 1000
  ok : SumOk st
  oks : ∀ a ∈ mv, ∀ s, SumOk (col a s)
def xWhat (r : Str) : List (Str × V) := [(("what" : Str), V.str r)]
def spMInit (R C B : Addr) : Sp := fun vs H Q E => ∃ F m dx x y st mv, vs = [.ref m, x, y] ∧ Ext F H ∧ H m = some (.ins C dx []) ∧ F m = none ∧ (tSeq' (tRat R)).rel F x st ∧ (s4 R).rel F y mv ∧ MacSz st mv ∧
  (∀ r, macBad st mv = some r → ∀ F' H' dd, Nx [] F H F' H' → F' dd = some (.xd (xWhat r)) → E (.ref B) (some dd) H') ∧
  (macBad st mv = none → ∀ F' H' s' m', Nx [m] F H F' H' → H' m = some (.ins C dx (fM s' m')) → F' m = none → (tTpl (tRat R)).rel F' s' st → (t4 R).rel F' m' mv → Q .non H')
section
variable {H F : Hp} {Q : VK} {E : XK} {R C B : Addr} {x y : V} {st : List Rat} {mv : Mv} {K K' : PySem.W.Frag}
end
def badR (n : Nat) (rows : List (List Rat)) : Bool := decide (rows.length ≠ n) || rows.any fun row => decide (row.length ≠ n)
def badM (n : Nat) (a : List (List (List Rat))) : Bool := (List.range n).any fun s => !lotsB (col a s)
end Lw
namespace Lw
open PySem PySem.Spec PyProof.Rows L2 L2.My
instance : DecidableEq Mac := fun p q => decidable_of_iff (p.start = q.start ∧ p.moves = q.moves) ⟨fun h => by cases p; cases q; obtain ⟨h1, h2⟩ := h; dsimp only at h1 h2; rw [h1, h2], fun h => by rw [h]; exact ⟨rfl, rfl⟩⟩
def Deq {α : Type} [DecidableEq α] (D : Eqb) (r : RT α) : Prop := ∀ F H x y a b, Ext F H → r.rel F x a → r.rel F y b → D x y H (decide (a = b))
section
variable {α : Type} [DecidableEq α] {D : Eqb} {r : RT α}
end
def eqMac (R C : Addr) : Addr → Addr → Hp → Bool → Prop := fun a b H r => ∃ p q, (tMac R C).rel H (.ref a) p ∧ (tMac R C).rel H (.ref b) q ∧ r = decide (p = q)
def spMInt (R C : Addr) (f : Mac → Nat) : Sp := fun vs H Q _ => ∃ F x q, vs = [x] ∧ Ext F H ∧ (tMac R C).rel F x q ∧ Q (.int (f q : Nat)) H
def spMAns (R C : Addr) : Sp := fun vs H Q _ => ∃ F x q b, vs = [x] ∧ Ext F H ∧ (tMac R C).rel F x q ∧ q.moves[0]? = some b ∧ Q (.int (b.length : Nat)) H
section
variable {α : Type} [DecidableEq α] {D : Eqb} {r : RT α} {F H : Hp} {Q : VK} {x y : V} {a b : α}
end
end Lw
namespace Lw
open PySem PySem.Spec PyProof.Rows L2 L2.My
def Dist (B : Int) (xs : List Rat) : Prop := ∃ (ws : List Int) (S : Int), xs = ws.map (fun w => Rat.divInt w S) ∧ (∀ w ∈ ws, 0 ≤ w) ∧ ws.sum = S ∧ 0 < S ∧ S ≤ B
def spCells : Sp := fun vs H Q _ => ∃ p s F n f, vs = [.ref p, .int n, .int f] ∧ Ext F H ∧ PoolAt F H p s ∧ 0 < n ∧ n ≤ 1000 ∧ 0 < f ∧ f ≤ 10 ∧
  ∀ v F' H' s' xs, Nx [p] F H F' H' → PoolAt F' H' p s' → xs.length = n.toNat → Dist 20 xs → (tList tQ).rel F' v xs → Q v H'
end Lw
namespace Lw
open PySem PySem.Spec PyProof.Rows L2 L2.My
section
variable {α β : Type} {r : RT α} {r' : RT β} {F H : Hp} {K : PySem.W.Frag} {v : V} {x : α × β} {σ : L2.St} {Q : L2.St → Hp → Prop} {t : TG} {u t2 : TGs}
theorem g_gCons {vs : List V} (h : t v σ H fun σ' H' => u vs σ' H' Q) : gCons t u (v :: vs) σ H Q := ⟨v, vs, rfl, h⟩
theorem g_gNil (h : Q σ H) : gNil [] σ H Q := ⟨rfl, h⟩
end
abbrev l4 : RT Mv := tList (tList (tList (tList tQ)))
def tLM : RT (List Rat × Mv) := tPair (tList tQ) l4
def spMade (R C : Addr) : Sp := fun vs H Q _ => ∃ F x st mv, vs = [x] ∧ Ext F H ∧ tLM.rel F x (st, mv) ∧ MacSz st mv ∧ macBad st mv = none ∧ (∀ a ∈ mv, ∀ rows ∈ a, ∀ row ∈ rows, ∀ q ∈ row, Sz 1900 q) ∧ ∀ v F' H', Nx [] F H F' H' → (tMac R C).rel F' v ⟨st, mv⟩ → Q v H'
structure LMok (n b k : Nat) (st : List Rat) (mv : Mv) : Prop where
  n0 : st.length = n
  st1 : Dist 20 st
  b0 : mv.length = b
  k0 : ∀ a ∈ mv, a.length = k
  r0 : ∀ a ∈ mv, ∀ rows ∈ a, rows.length = n
  w0 : ∀ a ∈ mv, ∀ rows ∈ a, ∀ row ∈ rows, row.length = n
  col1 : ∀ a ∈ mv, ∀ s, s < n → Dist 20 (col a s)
def spMach : Sp := fun vs H Q _ => ∃ p s F n b k, vs = [.ref p, .int (n : Nat), .int (b : Nat), .int (k : Nat)] ∧ Ext F H ∧ PoolAt F H p s ∧ 0 < n ∧ n ≤ 13 ∧ b ≤ 10 ∧ 0 < k ∧ k ≤ 10 ∧
  ∀ v F' H' s' st mv, Nx [p] F H F' H' → PoolAt F' H' p s' → LMok n b k st mv → tLM.rel F' v (st, mv) → Q v H'
theorem PoolAt.ne {F H : Hp} {p : Addr} {s : Pool} (h : PoolAt F H p s) : H p ≠ none := by
  obtain ⟨_, _, a, h, _⟩ := h
  rw [h]; simp
theorem PoolAt.other {F H : Hp} {p q : Addr} {s : Pool} {o : HO} (h : PoolAt F H p s) (hq : q ≠ p) : PoolAt F (upd H q o) p s := by
  obtain ⟨h1, h2, a, h3, h4⟩ := h
  exact ⟨h1, h2, a, by rw [upd_ne (Ne.symm hq)]; exact h3, h4⟩
theorem PoolAt.off {F H : Hp} {p q : Addr} {s : Pool} (h : PoolAt F H p s) (hq : H q = none) : q ≠ p := fun z => h.ne (by rw [← z]; exact hq)
theorem PoolAt.cls {F H : Hp} {p q : Addr} {s : Pool} {o : HO} (h : PoolAt F H p s) (hF : F q = none) (hq : q ≠ p) : PoolAt (upd F q o) H p s := by
  obtain ⟨h1, h2, a, h3, h4⟩ := h
  exact ⟨h1, by rw [upd_ne (Ne.symm hq)]; exact h2, a, h3, Ext.upd hF _ _ h4⟩
def spData (R C : Addr) : Sp := fun vs H Q _ => ∃ F x q, vs = [x] ∧ Ext F H ∧ (tMac R C).rel F x q ∧ MacSz q.start q.moves ∧ ∀ v F' H', Nx [] F H F' H' → tLM.rel F' v (q.start, q.moves) → Q v H'
def spFit (R C : Addr) : Sp := fun vs H Q _ => ∃ F x y p q a b, vs = [x, y] ∧ Ext F H ∧ (tMac R C).rel F x p ∧ (tMac R C).rel F y q ∧ p.moves[0]? = some a ∧ q.moves[0]? = some b ∧ Q (.bl (decide ((p.moves.length : Int) = q.moves.length) && decide ((a.length : Int) = b.length))) H
end Lw
namespace L2.My
open PySem PySem.Spec PyProof.Rows L2
theorem walk_ofM {l : PySem.W.OpenLaw} {n k : Nat} {q : Program} {loose : List Str} {XP : (Str → Option Value) → Heap → Prop} {YP : World → Heap → Prop} {d : DefRec} {CX : World → CXT} {x : Str}
    (hn : l.most = some n) (hn2 : n ≤ sizeLine) (hdf : d.params.defaults = []) (hr : Room k callerA)
    (F : ∀ (w : World) (mg : Str → Option Value) (fa : Addr) (h : Heap), YP w h → h.Ns mainGlobals mg → mg d.name = some (.ref fa) →
      ∃ (K : PySem.W.Frag) (fd : FuncData) (sp : Sp), K.In h ∧ (∀ (s : Shared) (u : Value), BindsTo s fd ⟨[u], []⟩ [(x, u)]) ∧
        (∀ (H : Hp) (a : Addr) (ns : List Int), ns.length ≤ n → Only H → SqL K H a (ns.map V.int) → sp [.ref a] H (fun v _ => v = .bl true) fun _ _ _ => False) ∧
        ∀ base : Heap, K.In base → base.Ns mainGlobals mg → FnOk l.prog w K mg base (CX w) k fa fd [x] sp)
    (hCX : ∀ (w : World) (H : Hp) (s : Shared) (e : Value) (s' : Shared), CX w [] H s (fun _ _ _ => False) e s' → False) :
    PySem.W.WalkO q loose XP YP l.row.toRowW d [] (fun f vs => PySem.call f vs) := by
  refine Att.attach_call hn hdf fun w s₀ s₁ mg mb fa o pm cd doc a vs ns G Y ho hd hcd hmg hobj hints hlen hg => ?_
  obtain ⟨K, fd, sp, KX, hb, hsp, hF⟩ := F w mg fa _ Y G.T.g hmg
  exact law_call KX G.T.g G.T.b G.T.builtins G.T.nolimit hg hobj hints (Nat.le_trans hlen hn2) hr hF hb (fun H hO hS => hsp H a ns hlen hO hS) fun H e s' => hCX w H s₁ e s'
theorem cx_none {P : Program} (w : World) (H : Hp) (s : Shared) (e : Value) (s' : Shared) (c : L2.CX P w [] H s (fun _ _ _ => False) e s') : False := by
  obtain ⟨_, _, _, _, _, _, _, _, _, _, _, _, h⟩ := c
  exact h
section
variable {P : Program} {w : World} {K : PySem.W.Frag} {mg : Str → Option Value} {base : Heap} {k : Nat} {x m qual : Str} {params : Arguments} {body : List Stmt} {scope : Scope} {fd : FuncData} {ps : List Str} {sp : Sp} {C f : Addr}
theorem fnc_of (g : mg x = some (.ref f)) (kp : PySem.W.keepIn K (.ref f) = true) (b : Binds K fd ps []) (h : FnOk P w K mg base (L2.CX P w) k f fd ps sp) : Fnc P w K mg base k x ps sp := ⟨f, fd, g, kp, b, h⟩
theorem mtc_of (c : Cls K C) (me : Meth K C m f) (b : Binds K fd ps []) (h : FnOk P w K mg base (L2.CX P w) k f fd ps sp) : Mtc P w K mg base k C m ps sp := ⟨c, f, fd, me, b, h⟩
theorem mkc_of {dvs : List V} (g : mg x = some (.ref C)) (mk : Mk K C f) (b : ∃ ds, Vals dvs ds ∧ Binds K fd ps ds) (h : FnOk P w K mg base (L2.CX P w) k f fd ps sp) : Mkc P w K mg base k C x ps dvs sp := by
  obtain ⟨ds, h1, h2⟩ := b
  exact ⟨g, f, fd, ds, mk, h1, h2, h⟩
theorem fn_never (hn : ∀ vs H Q E, ¬ sp vs H Q E) : FnOk P w K mg base (L2.CX P w) k f fd ps sp := ⟨fun vs H Q E h => (hn vs H Q E h).elim, fun A outer s H args us vs Q E hr e b v h => (hn vs H Q E h).elim⟩
end
end L2.My
namespace L2.My
open PySem PySem.Spec PyProof.Rows L2

structure Err where
  c : Str
  f : Option (Str × V)
structure Wp (α : Type) where
  run : (α → Prop) → (Err → Prop) → Prop
  mono : ∀ {A A' : α → Prop} {B B' : Err → Prop}, (∀ x, A x → A' x) → (∀ e, B e → B' e) → run A B → run A' B'
inductive Fl (S L R : Type) where
  | nx (s : S) | brk (l : L) | cnt (l : L) | ret (x : R)
namespace Wp
variable {α β ι S L R T : Type}
def ok (x : α) : Wp α := ⟨fun A _ => A x, fun h _ => h x⟩
def raise (e : Err) : Wp α := ⟨fun _ B => B e, fun _ h => h e⟩
def stuck : Wp α := ⟨fun _ _ => False, fun _ _ h => h⟩
def bind (m : Wp α) (k : α → Wp β) : Wp β := ⟨fun A B => m.run (fun x => (k x).run A B) B, fun ha hb => m.mono (fun x => (k x).mono ha hb) hb⟩
def req (p : Prop) (m : Wp α) : Wp α := ⟨fun A B => p ∧ m.run A B, fun ha hb h => ⟨h.1, m.mono ha hb h.2⟩⟩
def nox (m : Wp α) : Wp α := ⟨fun A _ => m.run A fun _ => False, fun ha _ h => m.mono ha (fun _ z => z) h⟩
def get (o : Option α) : Wp α := match o with | some x => ok x | none => stuck
def seq (m : Wp (Fl S L R)) (k : S → Wp (Fl T L R)) : Wp (Fl T L R) := m.bind fun z => match z with
  | .nx s => k s | .brk l => ok (.brk l) | .cnt l => ok (.cnt l) | .ret x => ok (.ret x)
def up (m : Wp (Fl Empty L R)) : Wp (Fl S L R) := m.bind fun z => match z with
  | .nx s => s.elim | .brk l => ok (.brk l) | .cnt l => ok (.cnt l) | .ret x => ok (.ret x)
def out (m : Wp (Fl Empty Empty R)) : Wp R := m.bind fun z => match z with
  | .nx s => s.elim | .brk l => l.elim | .cnt l => l.elim | .ret x => ok x
def for_ : List ι → S → (ι → S → Wp (Fl S S R)) → Wp (Fl S L R)
  | [], s, _ => ok (.nx s)
  | x :: t, s, f => (f x s).bind fun z => match z with
    | .nx s' => for_ t s' f | .cnt s' => for_ t s' f | .brk s' => ok (.nx s') | .ret r => ok (.ret r)
def map (f : ι → Wp β) : List ι → Wp (List β)
  | [] => ok []
  | x :: t => (f x).bind fun y => (map f t).bind fun ys => ok (y :: ys)
def fmap (f : ι → Wp (Option β)) : List ι → Wp (List β)
  | [] => ok []
  | x :: t => (f x).bind fun y => (fmap f t).bind fun ys => ok (y.toList ++ ys)
def mapS (f : ι → S → Wp (β × S)) : List ι → S → Wp (List β × S)
  | [], s => ok ([], s)
  | x :: t, s => (f x s).bind fun y => (mapS f t y.2).bind fun ys => ok (y.1 :: ys.1, ys.2)
def while_ (s : S) (t : S → Wp Bool) (f : S → Wp (Fl S S R)) : Wp (Fl S L R) :=
  ⟨fun A B => ∃ I : Nat → S → Prop, (∃ n, I n s) ∧ ∀ n s, I n s → (t s).run (fun b => if b = true then (f s).run (fun z => match z with
    | .nx s' => ∃ n', n' < n ∧ I n' s' | .cnt s' => ∃ n', n' < n ∧ I n' s' | .brk s' => A (.nx s') | .ret r => A (.ret r)) B else A (.nx s)) B,
   fun ha hb h => by
    obtain ⟨I, h0, h⟩ := h
    refine ⟨I, h0, fun n s hi => (t s).mono (fun b hb' => ?_) hb (h n s hi)⟩
    by_cases c : b = true
    · rw [if_pos c] at hb' ⊢
      refine (f s).mono (fun z hz => ?_) hb hb'
      cases z with
      | nx s' => exact hz
      | cnt s' => exact hz
      | brk s' => exact ha _ hz
      | ret r => exact ha _ hz
    · rw [if_neg c] at hb' ⊢
      exact ha _ hb'⟩
theorem ext {m m' : Wp α} (h : ∀ A B, m.run A B ↔ m'.run A B) : m = m' := by
  cases m; cases m'
  congr
  funext A B
  exact propext (h A B)
theorem ok_bind (x : α) (k : α → Wp β) : (ok x).bind k = k x := ext fun _ _ => Iff.rfl
theorem bind_ok (m : Wp α) : m.bind ok = m := ext fun _ _ => Iff.rfl
theorem bind_assoc {γ : Type} (m : Wp α) (k : α → Wp β) (l : β → Wp γ) : (m.bind k).bind l = m.bind fun x => (k x).bind l := ext fun _ _ => Iff.rfl
theorem nox_ok (x : α) : (ok x).nox = ok x := ext fun _ _ => Iff.rfl
theorem nox_bind (m : Wp α) (k : α → Wp β) : (m.bind k).nox = m.nox.bind fun x => (k x).nox := ext fun _ _ => Iff.rfl
theorem nox_req (p : Prop) (m : Wp α) : (req p m).nox = req p m.nox := ext fun _ _ => Iff.rfl
theorem nox_nox (m : Wp α) : m.nox.nox = m.nox := ext fun _ _ => Iff.rfl
theorem nox_get (o : Option α) : (get o).nox = get o := by cases o <;> exact ext fun _ _ => Iff.rfl
theorem raise_bind (e : Err) (k : α → Wp β) : (raise e).bind k = raise e := ext fun _ _ => Iff.rfl
theorem req_bind (p : Prop) (m : Wp α) (k : α → Wp β) : (req p m).bind k = req p (m.bind k) := ext fun _ _ => Iff.rfl
theorem req_true {p : Prop} (h : p) (m : Wp α) : req p m = m := ext fun _ _ => ⟨fun z => z.2, fun z => ⟨h, z⟩⟩
theorem ok_seq (s : S) (k : S → Wp (Fl T L R)) : seq (ok (.nx s)) k = k s := ok_bind _ _
theorem ret_seq (x : R) (k : S → Wp (Fl T L R)) : seq (ok (.ret x)) k = ok (.ret x) := ok_bind _ _
theorem bind_seq (m : Wp α) (k : α → Wp (Fl S L R)) (l : S → Wp (Fl T L R)) : seq (m.bind k) l = m.bind fun x => seq (k x) l := bind_assoc _ _ _
theorem bind_out (m : Wp α) (k : α → Wp (Fl Empty Empty R)) : out (m.bind k) = m.bind fun x => out (k x) := bind_assoc _ _ _
theorem bind_up (m : Wp α) (k : α → Wp (Fl Empty L R)) : (up (m.bind k) : Wp (Fl S L R)) = m.bind fun x => up (k x) := bind_assoc _ _ _
theorem ret_out (x : R) : out (ok (.ret x)) = ok x := ok_bind _ _
theorem raise_out (e : Err) : out (raise e : Wp (Fl Empty Empty R)) = raise e := raise_bind _ _
theorem ret_up (x : R) : (up (ok (.ret x)) : Wp (Fl S L R)) = ok (.ret x) := ok_bind _ _
theorem raise_up (e : Err) : (up (raise e) : Wp (Fl S L R)) = raise e := raise_bind _ _
theorem brk_up (x : L) : (up (ok (.brk x)) : Wp (Fl S L R)) = ok (.brk x) := ok_bind _ _
theorem cnt_up (x : L) : (up (ok (.cnt x)) : Wp (Fl S L R)) = ok (.cnt x) := ok_bind _ _
theorem req_out (p : Prop) (m : Wp (Fl Empty Empty R)) : out (req p m) = req p (out m) := req_bind _ _ _
theorem req_up (p : Prop) (m : Wp (Fl Empty L R)) : (up (req p m) : Wp (Fl S L R)) = req p (up m) := req_bind _ _ _
theorem req_seq (p : Prop) (m : Wp (Fl S L R)) (k : S → Wp (Fl T L R)) : seq (req p m) k = req p (seq m k) := req_bind _ _ _
end Wp

structure Nz (M : List Addr) (F H F' H' : Hp) : Prop where
  ff : Ext F F'
  fh : Ext F' H'
  keep : ∀ b o, b ∉ M → H b = some o → H' b = some o
  out : ∀ b, b ∉ M → F b = none → H b ≠ none → F' b = none
  dom : ∀ b, H b ≠ none → H' b ≠ none
structure Stp (M : List Addr) (F H : Hp) (M' : List Addr) (F' H' : Hp) : Prop where
  n : Nz M F H F' H'
  new : ∀ a ∈ M', a ∈ M ∨ H a = none
section
variable {M M' M1 M2 : List Addr} {F H F' H' F1 H1 F2 H2 : Hp}
theorem Nx.nz (n : Nx M F H F' H') : Nz M F H F' H' := ⟨n.ff, n.fh, n.keep, fun b _ => n.out b, n.dom⟩
theorem Nz.nx (n : Nz [] F H F' H') : Nx [] F H F' H' := ⟨n.ff, n.fh, n.keep, fun b => n.out b (by simp), n.dom⟩
theorem Nz.weak (n : Nz M F H F' H') (h : ∀ a ∈ M, a ∈ M') : Nz M' F H F' H' := ⟨n.ff, n.fh, fun b o hb => n.keep b o fun z => hb (h b z), fun b hb => n.out b fun z => hb (h b z), n.dom⟩
theorem Stp.refl (e : Ext F H) (h : ∀ a ∈ M', a ∈ M) : Stp M F H M' F H := ⟨(Nx.refl e : Nx M F H F H).nz, fun a ha => .inl (h a ha)⟩
theorem Stp.trans (a : Stp M F H M1 F1 H1) (b : Stp M1 F1 H1 M2 F2 H2) : Stp M F H M2 F2 H2 := by
  refine ⟨⟨a.n.ff.trans b.n.ff, b.n.fh, fun c o hc h => ?_, fun c hc h1 h2 => ?_, fun c h => b.n.dom c (a.n.dom c h)⟩, fun c hc => ?_⟩
  · refine b.n.keep c o (fun z => ?_) (a.n.keep c o hc h)
    rcases a.new c z with z | z
    · exact hc z
    · rw [h] at z; cases z
  · refine b.n.out c (fun z => ?_) (a.n.out c hc h1 h2) (a.n.dom c h2)
    rcases a.new c z with z | z
    · exact hc z
    · exact h2 z
  · rcases b.new c hc with z | z
    · exact a.new c z
    · exact .inr (Decidable.byContradiction fun y => a.n.dom c y z)
theorem Stp.of_nx (n : Nx [] F H F' H') (h : ∀ a ∈ M', a ∈ M) : Stp M F H M' F' H' := ⟨n.nil.nz, fun a ha => .inl (h a ha)⟩
theorem Stp.nx (s : Stp [] F H M' F' H') : Nx [] F H F' H' := s.n.nx
theorem Stp.fh (s : Stp M F H M' F' H') : Ext F' H' := s.n.fh
theorem Stp.ff (s : Stp M F H M' F' H') : Ext F F' := s.n.ff
theorem Stp.sub (s : Stp M F H M1 F' H') (h : ∀ a ∈ M', a ∈ M1) : Stp M F H M' F' H' := ⟨s.n, fun a ha => s.new a (h a ha)⟩
end
structure MT (σ : Type) where
  rel : Hp → Hp → List Addr → V → σ → Prop
  dom : ∀ {F H fp v s}, rel F H fp v s → ∀ a ∈ fp, H a ≠ none
  frame : ∀ {M F H F' H' fp v s}, rel F H fp v s → Nz M F H F' H' → (∀ a ∈ fp, a ∉ M) → rel F' H' fp v s
inductive Cn : Type 1 where
  | any
  | frz {α : Type} (r : RT α) (x : α)
  | mut {σ : Type} (m : MT σ) (s : σ)
def Cn.rel : Cn → Hp → Hp → List Addr → Option V → Prop
  | .any, _, _, fp, _ => fp = []
  | .frz r x, F, _, fp, o => fp = [] ∧ ∃ v, o = some v ∧ r.rel F v x
  | .mut m s, F, H, fp, o => ∃ v, o = some v ∧ m.rel F H fp v s
def Cn.get : List Cn → Nat → Option Cn
  | [], _ => none
  | c :: _, 0 => some c
  | _ :: t, i + 1 => Cn.get t i
def Cn.put : List Cn → Nat → Cn → List Cn
  | [], _, _ => []
  | _ :: t, 0, x => x :: t
  | c :: t, i + 1, x => c :: Cn.put t i x
def Cn.puts : List Cn → List Nat → List Cn
  | Γ, [] => Γ
  | Γ, v :: vs => Cn.put (Cn.puts Γ vs) v .any
def Hol : List Cn → Hp → Hp → List (List Addr) → St → Prop
  | [], _, _, [], [] => True
  | c :: Γ, F, H, fp :: fps, o :: σ => c.rel F H fp o ∧ (∀ a ∈ fp, ∀ q ∈ fps, a ∉ q) ∧ Hol Γ F H fps σ
  | _, _, _, _, _ => False
section
variable {M : List Addr} {F H F' H' : Hp} {fps : List (List Addr)} {σ : St} {c : Cn}
theorem Cn.rel_dom {fp : List Addr} {o : Option V} : ∀ {c : Cn}, c.rel F H fp o → ∀ a ∈ fp, H a ≠ none
  | .any, h => by rw [show fp = [] from h]; simp
  | .frz _ _, h => by rw [h.1]; simp
  | .mut m _, h => by obtain ⟨v, _, h⟩ := h; exact m.dom h
theorem Cn.rel_frame {fp : List Addr} {o : Option V} (n : Nz M F H F' H') (hM : ∀ a ∈ fp, a ∉ M) : ∀ {c : Cn}, c.rel F H fp o → c.rel F' H' fp o
  | .any, h => h
  | .frz r _, h => by obtain ⟨h1, v, h2, h3⟩ := h; exact ⟨h1, v, h2, r.mono n.ff h3⟩
  | .mut m _, h => by obtain ⟨v, h1, h2⟩ := h; exact ⟨v, h1, m.frame h2 n hM⟩
theorem Hol.frame (n : Nz M F H F' H') : ∀ {Γ : List Cn} {fps : List (List Addr)} {σ : St}, (∀ q ∈ fps, ∀ a ∈ q, a ∉ M) → Hol Γ F H fps σ → Hol Γ F' H' fps σ
  | [], [], [], _, _ => trivial
  | _ :: _, _ :: _, _ :: _, hM, h => ⟨Cn.rel_frame n (hM _ List.mem_cons_self) h.1, h.2.1, Hol.frame n (fun q hq => hM q (List.mem_cons_of_mem _ hq)) h.2.2⟩
  | [], _ :: _, _, _, h => h.elim
  | [], [], _ :: _, _, h => h.elim
  | _ :: _, [], _, _, h => h.elim
  | _ :: _, _ :: _, [], _, h => h.elim
theorem Hol.nx {Γ : List Cn} (h : Hol Γ F H fps σ) (n : Nx [] F H F' H') : Hol Γ F' H' fps σ := Hol.frame n.nz (by simp) h
theorem Hol.dom : ∀ {Γ : List Cn} {fps : List (List Addr)} {σ : St}, Hol Γ F H fps σ → ∀ q ∈ fps, ∀ a ∈ q, H a ≠ none
  | [], [], [], _, _, hq, _, _ => by cases hq
  | _ :: _, fp :: fps, _ :: _, h, q, hq, a, ha => by
    rcases List.mem_cons.mp hq with rfl | hq
    · exact Cn.rel_dom h.1 a ha
    · exact Hol.dom h.2.2 q hq a ha
  | [], _ :: _, _, h, _, _, _, _ => h.elim
  | [], [], _ :: _, h, _, _, _, _ => h.elim
  | _ :: _, [], _, h, _, _, _, _ => h.elim
  | _ :: _, _ :: _, [], h, _, _, _, _ => h.elim
theorem Hol.get : ∀ {Γ : List Cn} {fps : List (List Addr)} {σ : St} {i : Nat}, Cn.get Γ i = some c → Hol Γ F H fps σ → ∃ fp o, fps[i]? = some fp ∧ σ[i]? = some o ∧ c.rel F H fp o
  | [], _, _, _, e, _ => by cases e
  | _ :: _, fp :: _, o :: _, 0, e, h => by cases e; exact ⟨fp, o, rfl, rfl, h.1⟩
  | _ :: Γ, _ :: fps, _ :: σ, i + 1, e, h => by
    obtain ⟨fp, o, h1, h2, h3⟩ := Hol.get (i := i) (show Cn.get Γ i = some c from e) h.2.2
    exact ⟨fp, o, by simpa using h1, by simpa using h2, h3⟩
  | _ :: _, [], _, _, _, h => h.elim
  | _ :: _, _ :: _, [], _, _, h => h.elim
theorem Hol.put {fp' : List Addr} {o' : Option V} : ∀ {Γ : List Cn} {fps : List (List Addr)} {σ : St} {i : Nat} {fp : List Addr}, Hol Γ F H fps σ → Nz M F H F' H' → fps[i]? = some fp → (∀ a ∈ M, a ∈ fp) → c.rel F' H' fp' o' → (∀ a ∈ fp', a ∈ fp ∨ H a = none) →
    Hol (Cn.put Γ i c) F' H' (fps.set i fp') (σ.set i o')
  | [], [], [], _, _, _, _, hp, _, _, _ => by simp at hp
  | c0 :: Γ, fp0 :: fps, o :: σ, 0, fp, h, n, hp, hM, hc, hn => by
    simp at hp; subst hp
    refine ⟨hc, fun a ha q hq z => ?_, Hol.frame n (fun q hq a ha z => h.2.1 a (hM a z) q hq ha) h.2.2⟩
    rcases hn a ha with y | y
    · exact h.2.1 a y q hq z
    · exact h.2.2.dom q hq a z y
  | c0 :: Γ, fp0 :: fps, o :: σ, i + 1, fp, h, n, hp, hM, hc, hn => by
    have hp' : fps[i]? = some fp := by simpa using hp
    have hm := List.mem_of_getElem? hp'
    refine ⟨Cn.rel_frame n (fun a ha z => h.2.1 a ha fp hm (hM a z)) h.1, fun a ha q hq z => ?_, Hol.put (i := i) h.2.2 n hp' hM hc hn⟩
    rcases List.mem_or_eq_of_mem_set hq with hq | rfl
    · exact h.2.1 a ha q hq z
    · rcases hn a z with y | y
      · exact h.2.1 a ha fp hm y
      · exact Cn.rel_dom h.1 a ha y
  | [], _ :: _, _, _, _, h, _, _, _, _, _ => h.elim
  | [], [], _ :: _, _, _, h, _, _, _, _, _ => h.elim
  | _ :: _, [], _, _, _, h, _, _, _, _, _ => h.elim
  | _ :: _, _ :: _, [], _, _, h, _, _, _, _, _ => h.elim
theorem Hol.len : ∀ {Γ : List Cn} {fps : List (List Addr)} {σ : St}, Hol Γ F H fps σ → Γ.length = fps.length ∧ Γ.length = σ.length
  | [], [], [], _ => ⟨rfl, rfl⟩
  | _ :: _, _ :: _, _ :: _, h => ⟨congrArg (· + 1) (Hol.len h.2.2).1, congrArg (· + 1) (Hol.len h.2.2).2⟩
  | [], _ :: _, _, h => h.elim
  | [], [], _ :: _, h => h.elim
  | _ :: _, [], _, h => h.elim
  | _ :: _, _ :: _, [], h => h.elim
theorem Cn.put_out : ∀ {Γ : List Cn} {i : Nat}, Γ.length ≤ i → Cn.put Γ i c = Γ
  | [], _, _ => rfl
  | _ :: _, 0, h => by simp at h
  | c0 :: Γ, i + 1, h => by rw [Cn.put, Cn.put_out (i := i) (by simpa using h)]
theorem Hol.store {Γ : List Cn} {i : Nat} {v : V} (h : Hol Γ F H fps σ) (n : Nx [] F H F' H') (hc : c.rel F' H' [] (some v)) : Hol (Cn.put Γ i c) F' H' (fps.set i []) (σ.set i (some v)) := by
  obtain ⟨l1, l2⟩ := h.len
  by_cases z : i < fps.length
  · exact Hol.put h n.nz (List.getElem?_eq_getElem z) (by simp) hc (by simp)
  · rw [Cn.put_out (by omega), List.set_eq_of_length_le (by omega), List.set_eq_of_length_le (by omega)]
    exact h.nx n
theorem Hol.wipe1 {Γ : List Cn} {i : Nat} {o : Option V} (e : Ext F H) (h : Hol Γ F H fps σ) : Hol (Cn.put Γ i .any) F H (fps.set i []) (σ.set i o) := by
  obtain ⟨l1, l2⟩ := h.len
  by_cases z : i < fps.length
  · exact Hol.put h (Nx.refl e : Nx [] F H F H).nz (List.getElem?_eq_getElem z) (by simp) rfl (by simp)
  · rw [Cn.put_out (by omega), List.set_eq_of_length_le (by omega), List.set_eq_of_length_le (by omega)]
    exact h
def wipeF (fps : List (List Addr)) : List Nat → List (List Addr)
  | [] => fps
  | v :: vs => (wipeF fps vs).set v []
theorem Hol.wipe {Γ : List Cn} (e : Ext F H) (h : Hol Γ F H fps σ) : ∀ vs : List Nat, Hol (Cn.puts Γ vs) F H (wipeF fps vs) (L2.wipe σ vs)
  | [] => h
  | _ :: vs => Hol.wipe1 e (Hol.wipe e h vs)
theorem mem_set_nil {fps : List (List Addr)} {i : Nat} {q : List Addr} {a : Addr} (h : q ∈ fps.set i []) (ha : a ∈ q) : q ∈ fps := by
  rcases List.mem_or_eq_of_mem_set h with h | rfl
  · exact h
  · cases ha
theorem flat_set_nil {fps : List (List Addr)} {i : Nat} : ∀ a ∈ (fps.set i []).flatten, a ∈ fps.flatten := fun a ha => by
  obtain ⟨q, hq, haq⟩ := List.mem_flatten.mp ha
  exact List.mem_flatten.mpr ⟨q, mem_set_nil hq haq, haq⟩
theorem flat_set {fps : List (List Addr)} {i : Nat} {fp' : List Addr} : ∀ a ∈ (fps.set i fp').flatten, a ∈ fp' ∨ a ∈ fps.flatten := fun a ha => by
  obtain ⟨q, hq, haq⟩ := List.mem_flatten.mp ha
  rcases List.mem_or_eq_of_mem_set hq with h | rfl
  · exact .inr (List.mem_flatten.mpr ⟨q, h, haq⟩)
  · exact .inl haq
end
def lL {α : Type} (r : RT α) : RT (List α) := ⟨fun H v xs => (tList r).rel H v xs ∧ xs.length ≤ 16777215, fun e h => ⟨(tList r).mono e h.1, h.2⟩⟩
def lT {α : Type} (r : RT α) : RT (List α) := ⟨fun H v xs => (tTpl r).rel H v xs ∧ xs.length ≤ 16777215, fun e h => ⟨(tTpl r).mono e h.1, h.2⟩⟩
def lS {α : Type} (r : RT α) : RT (List α) := ⟨fun H v xs => (tSeq' r).rel H v xs ∧ xs.length ≤ 16777215, fun e h => ⟨(tSeq' r).mono e h.1, h.2⟩⟩
def mL {α : Type} (r : RT α) : MT (List α) where
  rel := fun F H fp v xs => ∃ p ws, v = .ref p ∧ fp = [p] ∧ H p = some (.lst ws) ∧ F p = none ∧ Al r F ws xs ∧ xs.length ≤ 16777215
  dom := fun h a ha => by
    obtain ⟨p, ws, rfl, rfl, h1, _⟩ := h
    rw [List.mem_singleton.mp ha, h1]; simp
  frame := fun {M F H F' H' fp v s} h n hM => by
    obtain ⟨p, ws, rfl, rfl, h1, h2, h3, h4⟩ := h
    have hp := hM p (by simp)
    exact ⟨p, ws, rfl, rfl, n.keep p _ hp h1, n.out p hp h2 (by rw [h1]; simp), h3.mono n.ff, h4⟩
end L2.My
namespace L2.My
open PySem PySem.Spec PyProof.Rows L2
def ErrIs (K : PySem.W.Frag) (e : Err) (cls : Value) (d : Option Addr) (H : Hp) : Prop := cls = .ref (He.ga K e.c) ∧ match e.f with
  | none => d = none
  | some p => ∃ a, d = some a ∧ H a = some (.xd [p])
section
variable {α β γ ι S L R T : Type}
def Rk (F H : Hp) (r : RT α) (Q : VK) : α → Prop := fun x => ∀ v F' H', Nx [] F H F' H' → r.rel F' v x → Q v H'
def Ek (K : PySem.W.Frag) (E : XK) (F H : Hp) : Err → Prop := fun e => ∀ cls d F' H', Nx [] F H F' H' → ErrIs K e cls d F' → E cls d H'
def Es (K : PySem.W.Frag) (E : XK) (M : List Addr) (F H : Hp) : Err → Prop := fun e => ∀ cls d F' H' M', Stp M F H M' F' H' → ErrIs K e cls d F' → E cls d H'
structure ZK (K : PySem.W.Frag) where
  X : XK
  B : List Addr → Hp → Hp → Err → Prop
  step : ∀ {M M1 F H F1 H1 e}, Stp M F H M1 F1 H1 → B M F H e → B M1 F1 H1 e
  es : ∀ {M F H e}, B M F H e → Ext F H → Es K X M F H e
def EvP (K : PySem.W.Frag) (E : ZK K) (te : TE) (Γ : List Cn) (r : RT α) (m : Wp α) : Prop :=
  ∀ F H σ fps Q, Ext F H → Hol Γ F H fps σ → m.run (Rk F H r Q) (E.B [] F H) → te σ H Q
def EvT (K : PySem.W.Frag) (E : ZK K) (tt : TT) (Γ : List Cn) (m : Wp Bool) : Prop :=
  ∀ F H σ fps (Q : Bool → Hp → Prop), Ext F H → Hol Γ F H fps σ → m.run (fun b => ∀ F' H', Nx [] F H F' H' → Q b H') (E.B [] F H) → tt σ H Q
structure RA (α : Type) where
  rel : Hp → List V → α → Prop
  mono : ∀ {H H' : Hp} {v : List V} {x : α}, Ext H H' → rel H v x → rel H' v x
def raN : RA Unit := ⟨fun _ vs _ => vs = [], fun _ h => h⟩
def raC (r : RT α) (ra : RA β) : RA (α × β) := ⟨fun H vs x => ∃ v ws, vs = v :: ws ∧ r.rel H v x.1 ∧ ra.rel H ws x.2, fun e h => by
  obtain ⟨v, ws, h1, h2, h3⟩ := h
  exact ⟨v, ws, h1, r.mono e h2, ra.mono e h3⟩⟩
def EvA (K : PySem.W.Frag) (E : ZK K) (ta : TA) (Γ : List Cn) (ra : RA α) (m : Wp α) : Prop :=
  ∀ F H σ fps (Q : List V → Hp → Prop), Ext F H → Hol Γ F H fps σ → m.run (fun x => ∀ vs F' H', Nx [] F H F' H' → ra.rel F' vs x → Q vs H') (E.B [] F H) → ta σ H Q
structure ItG (J : It) (F : Hp) (r : RT ι) (xs : List ι) : Prop where
  go : ∀ i F' H', i < xs.length → Ext F F' → Ext F' H' → J.go i H'
  stop : ∀ F' H', Ext F F' → Ext F' H' → J.stop xs.length H'
  yld : ∀ i F' H' v H'', i < xs.length → Ext F F' → Ext F' H' → J.yld i H' v H'' → ∃ F'' b, Nx [] F' H' F'' H'' ∧ xs[i]? = some b ∧ r.rel F'' v b
def EvI (K : PySem.W.Frag) (E : ZK K) (wi : TI) (Γ : List Cn) (r : RT ι) (m : Wp (List ι)) : Prop :=
  ∀ F H σ fps (R : It → Hp → Prop), Ext F H → Hol Γ F H fps σ → m.run (fun xs => ∀ J F' H', Nx [] F H F' H' → ItG J F' r xs → R J H') (E.B [] F H) → wi σ H R
def EvG (g : TG) (Γ : List Cn) (r : RT α) (f : α → List Cn) : Prop :=
  ∀ F H σ fps v x (Q : L2.St → Hp → Prop), Ext F H → Hol Γ F H fps σ → r.rel F v x → (∀ σ' fps', (∀ a ∈ fps'.flatten, a ∈ fps.flatten) → Hol (f x) F H fps' σ' → Q σ' H) → g v σ H Q
def EvN {σ : Type} (K : PySem.W.Frag) (E : ZK K) (te : TE) (Γ : List Cn) (mt : MT σ) (m : Wp σ) : Prop :=
  ∀ F H (σ' : L2.St) fps Q, Ext F H → Hol Γ F H fps σ' → m.run (fun s => ∀ v F' H' fp, Nx [] F H F' H' → (∀ a ∈ fp, H a = none) → mt.rel F' H' fp v s → Q v H') (E.B [] F H) → te σ' H Q
variable {K : PySem.W.Frag} {E : ZK K} {te ta tb : TE} {tt tu : TT} {tr : TA} {Γ : List Cn} {r r1 r2 r3 : RT α} {F H F' H' F1 H1 : Hp}
theorem Rk.step {Q : VK} {x : α} (n : Nx [] F H F1 H1) (h : Rk F H r Q x) : Rk F1 H1 r Q x := fun v F' H' n' hv => h v F' H' (n.trans n') hv
theorem Ek.step' {E : XK} {e : Err} (n : Nx [] F H F1 H1) (h : Ek K E F H e) : Ek K E F1 H1 e := fun cls d F' H' n' he => h cls d F' H' (n.trans n') he
theorem Es.step' {E : XK} {M M1 : List Addr} {e : Err} (s : Stp M F H M1 F1 H1) (h : Es K E M F H e) : Es K E M1 F1 H1 e := fun cls d F' H' M' s' he => h cls d F' H' M' (s.trans s') he
theorem Es.ek' {E : XK} {M : List Addr} {e : Err} (h : Es K E M F H e) : Ek K E F H e := fun cls d F' H' n he => h cls d F' H' [] (Stp.of_nx n (by simp)) he
def zk (K : PySem.W.Frag) (X : XK) : ZK K := ⟨X, Es K X, Es.step', fun h _ => h⟩
def z0 (K : PySem.W.Frag) : ZK K := ⟨E0, fun _ _ _ _ => False, fun _ h => h, fun h _ => h.elim⟩
theorem ZK.st (E : ZK K) {e : Err} (n : Nx [] F H F1 H1) (h : E.B [] F H e) : E.B [] F1 H1 e := E.step (Stp.of_nx n (by simp)) h
theorem ZK.ek (E : ZK K) {e : Err} (x : Ext F H) (h : E.B [] F H e) : Ek K E.X F H e := (E.es h x).ek'
theorem evp_var {i : Nat} {x : α} (h : Cn.get Γ i = some (.frz r x)) : EvP K E (tVar i) Γ r (.ok x) := by
  intro F H σ fps Q e hol hm
  obtain ⟨fp, o, h1, h2, h3, v, rfl, h4⟩ := hol.get h
  exact ⟨v, h2, hm v F H (Nx.refl e) h4⟩
theorem evp_int {i : Int} : EvP K E (tC (.int i)) Γ tInt (.ok i) := fun F H σ fps Q e hol hm => hm _ F H (Nx.refl e) rfl
theorem evp_bl {i : Bool} : EvP K E (tC (.bl i)) Γ tBool (.ok i) := fun F H σ fps Q e hol hm => hm _ F H (Nx.refl e) rfl
theorem evp_non : EvP K E (tC .non) Γ (tOpt r) (.ok none) := fun F H σ fps Q e hol hm => hm _ F H (Nx.refl e) rfl
def OpV (K : PySem.W.Frag) (E : ZK K) (o : R2) (r1 : RT α) (r2 : RT β) (r3 : RT γ) (f : α → β → Wp γ) : Prop :=
  ∀ F H v w a b Q (_σ : L2.St), Ext F H → r1.rel F v a → r2.rel F w b → (f a b).run (Rk F H r3 Q) (E.B [] F H) → o v w H Q
theorem evp_op {o : R2} {r2 : RT β} {r3 : RT γ} {f : α → β → Wp γ} {ma : Wp α} {mb : Wp β} (h : OpV K E o r1 r2 r3 f) (ha : EvP K E ta Γ r1 ma) (hb : EvP K E tb Γ r2 mb) : EvP K E (tOp o ta tb) Γ r3 (ma.bind fun a => mb.bind fun b => f a b) := by
  intro F H σ fps Q e hol hm
  refine ha F H σ fps _ e hol (ma.mono (fun a hm => ?_) (fun _ z => z) hm)
  intro v F1 H1 n1 hv
  refine hb F1 H1 σ fps _ n1.fh (hol.nx n1) (mb.mono (fun b hm => ?_) (fun _ => E.st n1) hm)
  intro w F2 H2 n2 hw
  exact h F2 H2 v w a b Q σ n2.fh (r1.mono n2.ff hv) hw ((f a b).mono (fun _ => Rk.step (n1.trans n2)) (fun _ => E.st (n1.trans n2)) hm)
theorem evp_opP {o : R2} {r2 : RT β} {r3 : RT γ} {f : α → β → Wp γ} {a : α} {b : β} {m : Wp γ} (h : OpV K E o r1 r2 r3 f) (ha : EvP K E ta Γ r1 (.ok a)) (hb : EvP K E tb Γ r2 (.ok b)) (e : f a b = m := by rfl) : EvP K E (tOp o ta tb) Γ r3 m := e ▸ evp_op h ha hb
def UnV (K : PySem.W.Frag) (E : ZK K) (o : V → Hp → VK → Prop) (r1 : RT α) (r3 : RT γ) (f : α → Wp γ) : Prop :=
  ∀ F H v a Q (_σ : L2.St), Ext F H → r1.rel F v a → (f a).run (Rk F H r3 Q) (E.B [] F H) → o v H Q
theorem evp_un {o : V → Hp → VK → Prop} {r3 : RT γ} {f : α → Wp γ} {ma : Wp α} (h : UnV K E o r1 r3 f) (ha : EvP K E ta Γ r1 ma) : EvP K E (tUn o ta) Γ r3 (ma.bind f) := by
  intro F H σ fps Q e hol hm
  refine ha F H σ fps _ e hol (ma.mono (fun a hm => ?_) (fun _ z => z) hm)
  intro v F1 H1 n1 hv
  exact h F1 H1 v a Q σ n1.fh hv ((f a).mono (fun _ => Rk.step n1) (fun _ => E.st n1) hm)
theorem evp_unP {o : V → Hp → VK → Prop} {r3 : RT γ} {f : α → Wp γ} {a : α} {m : Wp γ} (h : UnV K E o r1 r3 f) (ha : EvP K E ta Γ r1 (.ok a)) (e : f a = m := by rfl) : EvP K E (tUn o ta) Γ r3 m := e ▸ evp_un h ha
theorem evp_via {r3 : RT γ} {f : α → Wp γ} {ma : Wp α} {o : V → Hp → VK → Prop} {t : TE} (ht : ∀ σ H Q, (ta σ H fun x H1 => o x H1 Q) → t σ H Q) (h : UnV K E o r1 r3 f) (ha : EvP K E ta Γ r1 ma) : EvP K E t Γ r3 (ma.bind f) := by
  intro F H σ fps Q e hol hm
  exact ht σ H Q (evp_un h ha F H σ fps Q e hol hm)
theorem evp_cast {r2 : RT β} {f : α → β} {m : Wp α} (hc : ∀ F v x, r.rel F v x → r2.rel F v (f x)) (h : EvP K E te Γ r m) : EvP K E te Γ r2 (m.bind fun x => .ok (f x)) := by
  intro F H σ fps Q e hol hm
  exact h F H σ fps _ e hol (m.mono (fun x hx v F' H' n hv => hx v F' H' n (hc _ _ _ hv)) (fun _ z => z) hm)
theorem evp_castP {r2 : RT β} {f : α → β} {x : α} (hc : ∀ F v x, r.rel F v x → r2.rel F v (f x)) {m : Wp β} (h : EvP K E te Γ r (.ok x)) (e : Wp.ok (f x) = m := by rfl) : EvP K E te Γ r2 m := e ▸ evp_cast hc h
theorem evp_sub {r' : RT α} {m : Wp α} (hc : ∀ F v x, r.rel F v x → r'.rel F v x) (h : EvP K E te Γ r m) : EvP K E te Γ r' m := by
  intro F H σ fps Q e hol hm
  exact h F H σ fps _ e hol (m.mono (fun x hx v F' H' n hv => hx v F' H' n (hc _ _ _ hv)) (fun _ z => z) hm)
theorem evp_narrow {r2 : RT β} {f : α → Wp β} {m : Wp α} (hc : ∀ F v x (A : β → Prop) (B : Err → Prop), r.rel F v x → (f x).run A B → ∃ y, r2.rel F v y ∧ A y) (h : EvP K E te Γ r m) : EvP K E te Γ r2 (m.bind f) := by
  intro F H σ fps Q e hol hm
  refine h F H σ fps _ e hol (m.mono (fun x hx v F' H' n hv => ?_) (fun _ z => z) hm)
  obtain ⟨y, h1, h2⟩ := hc _ _ _ _ _ hv hx
  exact h2 v F' H' n h1
theorem evt_test {m : Wp Bool} (h : EvP K E te Γ tBool m) : EvT K E (tTest te) Γ m := by
  intro F H σ fps Q e hol hm
  refine h F H σ fps _ e hol (m.mono (fun b hb v F' H' n hv => ?_) (fun _ z => z) hm)
  exact ⟨b, hv, hb F' H' n⟩
theorem evt_B {m : Wp Bool} (h : EvP K E te Γ tBool m) : EvT K E (tB te) Γ m := evt_test h
theorem evt_and {m m' : Wp Bool} (h : EvT K E tt Γ m) (h' : EvT K E tu Γ m') : EvT K E (tAnd tt tu) Γ (m.bind fun b => if b = true then m' else .ok false) := by
  intro F H σ fps Q e hol hm
  refine h F H σ fps _ e hol (m.mono (fun b hb F' H' n => ?_) (fun _ z => z) hm)
  cases b with
  | true =>
    exact h' F' H' σ fps _ n.fh (hol.nx n) (m'.mono (fun b hb F2 H2 n2 => hb F2 H2 (n.trans n2)) (fun _ => E.st n) hb)
  | false =>
    exact hb F' H' n
theorem evt_or {m m' : Wp Bool} (h : EvT K E tt Γ m) (h' : EvT K E tu Γ m') : EvT K E (tOr tt tu) Γ (m.bind fun b => if b = true then .ok true else m') := by
  intro F H σ fps Q e hol hm
  refine h F H σ fps _ e hol (m.mono (fun b hb F' H' n => ?_) (fun _ z => z) hm)
  cases b with
  | true =>
    exact hb F' H' n
  | false =>
    exact h' F' H' σ fps _ n.fh (hol.nx n) (m'.mono (fun b hb F2 H2 n2 => hb F2 H2 (n.trans n2)) (fun _ => E.st n) hb)
theorem evt_not {m : Wp Bool} (h : EvT K E tt Γ m) : EvT K E (tNot tt) Γ (m.bind fun b => .ok (!b)) := by
  intro F H σ fps Q e hol hm
  exact h F H σ fps _ e hol (m.mono (fun b hb F' H' n => hb F' H' n) (fun _ z => z) hm)
theorem evt_andP {a b : Bool} (h : EvT K E tt Γ (.ok a)) (h' : EvT K E tu Γ (.ok b)) : EvT K E (tAnd tt tu) Γ (.ok (a && b)) := by
  have := evt_and h h'
  cases a <;> exact this
theorem evt_orP {a b : Bool} (h : EvT K E tt Γ (.ok a)) (h' : EvT K E tu Γ (.ok b)) : EvT K E (tOr tt tu) Γ (.ok (a || b)) := by
  have := evt_or h h'
  cases a <;> exact this
theorem evt_notP {a : Bool} (h : EvT K E tt Γ (.ok a)) : EvT K E (tNot tt) Γ (.ok (!a)) := evt_not h
theorem evp_andV {m m' : Wp Bool} (h : EvP K E ta Γ tBool m) (h' : EvP K E tb Γ tBool m') : EvP K E (tAndV ta tb) Γ tBool (m.bind fun b => if b = true then m' else .ok false) := by
  intro F H σ fps Q e hol hm
  refine h F H σ fps _ e hol (m.mono (fun b hb v F' H' n hv => ⟨b, hv, ?_⟩) (fun _ z => z) hm)
  cases b with
  | true =>
    exact h' F' H' σ fps _ n.fh (hol.nx n) (m'.mono (fun _ => Rk.step n) (fun _ => E.st n) hb)
  | false =>
    exact hb _ F' H' n rfl
theorem evp_andVP {a b : Bool} (h : EvP K E ta Γ tBool (.ok a)) (h' : EvP K E tb Γ tBool (.ok b)) : EvP K E (tAndV ta tb) Γ tBool (.ok (a && b)) := by
  have := evp_andV h h'
  cases a <;> exact this
theorem evp_if {mt : Wp Bool} {m m' : Wp α} (ht : EvT K E tt Γ mt) (h : EvP K E ta Γ r m) (h' : EvP K E tb Γ r m') : EvP K E (tIf tt ta tb) Γ r (mt.bind fun b => if b = true then m else m') := by
  intro F H σ fps Q e hol hm
  refine ht F H σ fps _ e hol (mt.mono (fun b hb F' H' n => ?_) (fun _ z => z) hm)
  cases b with
  | true =>
    exact h F' H' σ fps _ n.fh (hol.nx n) (m.mono (fun _ => Rk.step n) (fun _ => E.st n) hb)
  | false =>
    exact h' F' H' σ fps _ n.fh (hol.nx n) (m'.mono (fun _ => Rk.step n) (fun _ => E.st n) hb)
theorem evp_ifP {c : Bool} {m m' : Wp α} (ht : EvT K E tt Γ (.ok c)) (h : EvP K E ta Γ r m) (h' : EvP K E tb Γ r m') : EvP K E (tIf tt ta tb) Γ r (if c = true then m else m') := evp_if ht h h'
theorem evp_ifPP {c : Bool} {x y : α} (ht : EvT K E tt Γ (.ok c)) (h : EvP K E ta Γ r (.ok x)) (h' : EvP K E tb Γ r (.ok y)) : EvP K E (tIf tt ta tb) Γ r (.ok (if c = true then x else y)) := by
  have := evp_if ht h h'
  cases c <;> exact this
theorem evp_chain {o o' : R2} {tc : TE} {r2 : RT β} {r4 : RT γ} {f : α → β → Wp Bool} {f' : β → γ → Wp Bool} {ma : Wp α} {mb : Wp β} {mc : Wp γ} (h : OpV K E o r1 r2 tBool f) (h' : OpV K E o' r2 r4 tBool f') (ha : EvP K E ta Γ r1 ma) (hb : EvP K E tb Γ r2 mb) (hc : EvP K E tc Γ r4 mc) :
    EvP K E (tChain o o' ta tb tc) Γ tBool (ma.bind fun a => mb.bind fun b => (f a b).bind fun k => if k = true then mc.bind fun c => f' b c else .ok false) := by
  intro F H σ fps Q e hol hm
  refine ha F H σ fps _ e hol (ma.mono (fun a hm => ?_) (fun _ z => z) hm)
  intro v F1 H1 n1 hv
  refine hb F1 H1 σ fps _ n1.fh (hol.nx n1) (mb.mono (fun b hm => ?_) (fun _ => E.st n1) hm)
  intro w F2 H2 n2 hw
  have n12 := n1.trans n2
  refine h F2 H2 v w a b _ σ n2.fh (r1.mono n2.ff hv) hw ((f a b).mono (fun k hm => ?_) (fun _ => E.st n12) hm)
  intro z F3 H3 n3 hz
  refine ⟨k, hz, ?_⟩
  have n13 := n12.trans n3
  cases k with
  | true =>
    refine hc F3 H3 σ fps _ n3.fh (hol.nx n13) (mc.mono (fun c hm => ?_) (fun _ => E.st n13) hm)
    intro w' F4 H4 n4 hw'
    exact h' F4 H4 w w' b c Q σ n4.fh (r2.mono (n3.trans n4).ff hw) hw' ((f' b c).mono (fun _ => Rk.step (n13.trans n4)) (fun _ => E.st (n13.trans n4)) hm)
  | false =>
    exact hm _ F3 H3 n13 rfl
theorem evp_chainP {o o' : R2} {tc : TE} {r2 : RT β} {r4 : RT γ} {f : α → β → Bool} {f' : β → γ → Bool} {a : α} {b : β} {c : γ} (h : OpV K E o r1 r2 tBool fun a b => .ok (f a b)) (h' : OpV K E o' r2 r4 tBool fun a b => .ok (f' a b)) (ha : EvP K E ta Γ r1 (.ok a)) (hb : EvP K E tb Γ r2 (.ok b)) {m : Wp Bool} (hc : EvP K E tc Γ r4 (.ok c)) (e : Wp.ok (f a b && f' b c) = m := by rfl) :
    EvP K E (tChain o o' ta tb tc) Γ tBool m := by
  subst e
  have := evp_chain h h' ha hb hc
  rw [Wp.ok_bind, Wp.ok_bind, Wp.ok_bind, Wp.ok_bind] at this
  cases q : f a b <;> (rw [q] at this; exact this)
def TruOk (K : PySem.W.Frag) (r : RT α) (f : α → Bool) : Prop := ∀ F H v x, Ext F H → r.rel F v x → TruV K v H (f x)
theorem evt_tru {f : α → Bool} {m : Wp α} (hf : TruOk K r f) (h : EvP K E te Γ r m) : EvT K E (fun σ H Q => te σ H fun x H' => ∃ k, TruV K x H' k ∧ Q k H') Γ (m.bind fun x => .ok (f x)) := by
  intro F H σ fps Q e hol hm
  exact h F H σ fps _ e hol (m.mono (fun x hx v F' H' n hv => ⟨f x, hf F' H' v x n.fh hv, hx F' H' n⟩) (fun _ z => z) hm)
theorem evt_truP {f : α → Bool} {x : α} (hf : TruOk K r f) {m : Wp Bool} (h : EvP K E te Γ r (.ok x)) (e : Wp.ok (f x) = m := by rfl) : EvT K E (fun σ H Q => te σ H fun x H' => ∃ k, TruV K x H' k ∧ Q k H') Γ m := e ▸ evt_tru hf h
theorem tru_int : TruOk K tInt fun x => decide (x ≠ 0) := fun F H v x e h => by
  cases h
  show decide (x ≠ 0) = (x != 0)
  by_cases z : x = 0
  · subst z; rfl
  · rw [decide_eq_true z]; exact (bne_iff_ne.mpr z).symm
theorem al_isEmpty {r : RT α} {ws : List V} {xs : List α} (h : Al r F ws xs) : xs.isEmpty = ws.isEmpty := by
  cases ws <;> cases xs <;> first | rfl | exact h.elim
theorem tru_lL : TruOk K (lL r) fun x => !x.isEmpty := fun F H v x e h => by
  obtain ⟨⟨a, ws, rfl, h2, h3⟩, h4⟩ := h
  exact .inl ⟨ws, SqL.of (e _ _ h2), by show (!x.isEmpty) = _; rw [al_isEmpty h3]⟩
theorem tru_lT : TruOk K (lT r) fun x => !x.isEmpty := fun F H v x e h => by
  obtain ⟨⟨a, ws, rfl, h2, h3⟩, h4⟩ := h
  exact .inr (.inl ⟨ws, SqT.of (e _ _ h2), by show (!x.isEmpty) = _; rw [al_isEmpty h3]⟩)
theorem eva_nil : EvA K E tNil Γ raN (.ok ()) := fun F H σ fps Q e hol hm => hm _ F H (Nx.refl e) rfl
theorem eva_cons {ra : RA β} {ma : Wp α} {mb : Wp β} (ha : EvP K E ta Γ r ma) (hb : EvA K E tr Γ ra mb) : EvA K E (tCons ta tr) Γ (raC r ra) (ma.bind fun a => mb.bind fun b => .ok (a, b)) := by
  intro F H σ fps Q e hol hm
  refine ha F H σ fps _ e hol (ma.mono (fun a hm => ?_) (fun _ z => z) hm)
  intro v F1 H1 n1 hv
  refine hb F1 H1 σ fps _ n1.fh (hol.nx n1) (mb.mono (fun b hm => ?_) (fun _ => E.st n1) hm)
  intro vs F2 H2 n2 hw
  exact hm (v :: vs) F2 H2 (n1.trans n2) ⟨v, vs, rfl, r.mono n2.ff hv, hw⟩
theorem eva_consP {ra : RA β} {a : α} {b : β} (ha : EvP K E ta Γ r (.ok a)) (hb : EvA K E tr Γ ra (.ok b)) : EvA K E (tCons ta tr) Γ (raC r ra) (.ok (a, b)) := eva_cons ha hb
def spP (K : PySem.W.Frag) (ra : RA α) (r : RT β) (f : α → Wp β) : Sp := fun vs H Q E => ∃ F x, Ext F H ∧ ra.rel F vs x ∧ (f x).run (Rk F H r Q) (Ek K E F H)
def CalV (K : PySem.W.Frag) (E : ZK K) (o : List V → L2.St → Hp → VK → Prop) (ra : RA α) (r : RT β) (f : α → Wp β) : Prop :=
  ∀ F H vs x Q (σ : L2.St), Ext F H → ra.rel F vs x → (f x).run (Rk F H r Q) (E.B [] F H) → o vs σ H Q
theorem evp_cal {o : List V → L2.St → Hp → VK → Prop} {t : TE} {ra : RA α} {r : RT β} {f : α → Wp β} {m : Wp α} (ht : ∀ σ H Q, (tr σ H fun vs H1 => o vs σ H1 Q) → t σ H Q) (h : CalV K E o ra r f) (ha : EvA K E tr Γ ra m) : EvP K E t Γ r (m.bind f) := by
  intro F H σ fps Q e hol hm
  refine ht σ H Q (ha F H σ fps _ e hol (m.mono (fun x hm => ?_) (fun _ z => z) hm))
  intro vs F1 H1 n1 hv
  exact h F1 H1 vs x Q σ n1.fh hv ((f x).mono (fun _ => Rk.step n1) (fun _ => E.st n1) hm)
theorem evp_call {ra : RA α} {r : RT β} {f : α → Wp β} {m : Wp α} (ha : EvA K E tr Γ ra m) : EvP K E (tCall (spP K ra r f) [] E.X tr) Γ r (m.bind f) :=
  evp_cal (o := fun vs σ H1 Q => spP K ra r f (vs ++ []) H1 Q E.X) (fun _ _ _ h => h) (fun F H vs x Q σ e hv hm => ⟨F, x, e, by rw [List.append_nil]; exact hv, (f x).mono (fun _ z => z) (fun _ => E.ek e) hm⟩) ha
theorem evp_callP {ra : RA α} {r : RT β} {f : α → Wp β} {x : α} {m : Wp β} (ha : EvA K E tr Γ ra (.ok x)) (e : f x = m := by rfl) : EvP K E (tCall (spP K ra r f) [] E.X tr) Γ r m := e ▸ evp_call ha
def InsOf (r : RT α) (C : Addr) (m : Str) : Prop := ∀ F v x, r.rel F v x → ∃ a dx fs, v = .ref a ∧ F a = some (.ins C dx fs) ∧ fs.lookup m = none
def rT3 {α β γ : Type} (r : RT α) (r' : RT β) (r'' : RT γ) : RT (α × β × γ) := ⟨fun H v x => ∃ a w w' w'', v = .ref a ∧ H a = some (.tup [w, w', w'']) ∧ r.rel H w x.1 ∧ r'.rel H w' x.2.1 ∧ r''.rel H w'' x.2.2, fun e h => by
  obtain ⟨a, w, w', w'', h1, h2, h3, h4, h5⟩ := h
  exact ⟨a, w, w', w'', h1, e _ _ h2, r.mono e h3, r'.mono e h4, r''.mono e h5⟩⟩
theorem evp_tup {ra : RA β} {r : RT γ} {f : β → γ} {m : Wp β} (hf : ∀ F vs x p, ra.rel F vs x → F p = some (.tup vs) → r.rel F (.ref p) (f x)) (hl : ∀ F vs x, ra.rel F vs x → vs.length ≤ sizeLine) (ha : EvA K E tr Γ ra m) : EvP K E (tTup tr) Γ r (m.bind fun x => .ok (f x)) := by
  intro F H σ fps Q e hol hm
  refine ha F H σ fps _ e hol (m.mono (fun x hm => ?_) (fun _ z => z) hm)
  intro vs F1 H1 n1 hv
  refine ⟨hl _ _ _ hv, fun p hp => ?_⟩
  have n2 : Nx [] F1 H1 (upd F1 p (.tup vs)) (upd H1 p (.tup vs)) := Nx.new n1.fh hp
  exact hm _ _ _ (n1.trans n2) (hf _ _ _ _ (ra.mono n2.ff hv) upd_same)
theorem evp_tupP {ra : RA β} {r : RT γ} {f : β → γ} {x : β} (hf : ∀ F vs x p, ra.rel F vs x → F p = some (.tup vs) → r.rel F (.ref p) (f x)) (hl : ∀ F vs x, ra.rel F vs x → vs.length ≤ sizeLine) {m : Wp γ} (ha : EvA K E tr Γ ra (.ok x)) (e : Wp.ok (f x) = m := by rfl) : EvP K E (tTup tr) Γ r m := e ▸ evp_tup hf hl ha
end
end L2.My
namespace L2.My
open PySem PySem.Spec PyProof.Rows L2
section
variable {α β γ δ ι κ S L R T : Type} {K : PySem.W.Frag} {E : ZK K} {te ta tb : TE} {tt tu : TT} {tr : TA} {Γ : List Cn} {r : RT α} {F H F' H' F1 H1 : Hp}
theorem wipe_get (σ : L2.St) (j : Nat) : ∀ vs : List Nat, (L2.wipe σ vs)[j]? = if j ∈ vs then (σ[j]?).map (fun _ => none) else σ[j]?
  | [] => by simp [L2.wipe]
  | v :: vs => by
    have ih := wipe_get σ j vs
    show ((L2.wipe σ vs).set v none)[j]? = _
    rw [List.getElem?_set]
    have hl : (L2.wipe σ vs).length = σ.length := by
      clear ih
      induction vs with
      | nil => rfl
      | cons a t h => show ((L2.wipe σ t).set a none).length = _; rw [List.length_set, h]
    by_cases c : v = j
    · subst c
      rw [if_pos rfl, if_pos List.mem_cons_self, hl]
      by_cases z : v < σ.length
      · rw [if_pos z, List.getElem?_eq_getElem z]; rfl
      · rw [if_neg z, List.getElem?_eq_none (by omega)]; rfl
    · rw [if_neg c, ih]
      by_cases z : j ∈ vs
      · rw [if_pos z, if_pos (List.mem_cons_of_mem _ z)]
      · rw [if_neg z, if_neg (fun y => by rcases List.mem_cons.mp y with y | y; exact c y.symm; exact z y)]
theorem wipe_set {σ : L2.St} {i : Nat} {o : Option V} {vs : List Nat} (h : i ∈ vs) : L2.wipe (σ.set i o) vs = L2.wipe σ vs := by
  refine List.ext_getElem? fun j => ?_
  rw [wipe_get, wipe_get, List.getElem?_set]
  by_cases c : i = j
  · subst c
    rw [if_pos rfl, if_pos h, if_pos h]
    by_cases z : i < σ.length
    · rw [if_pos z, List.getElem?_eq_getElem z]; rfl
    · rw [if_neg z, List.getElem?_eq_none (by omega)]
  · rw [if_neg c]
theorem wipe_wipe (σ : L2.St) (vs : List Nat) : L2.wipe (L2.wipe σ vs) vs = L2.wipe σ vs := by
  refine List.ext_getElem? fun j => ?_
  rw [wipe_get, wipe_get]
  by_cases c : j ∈ vs
  · rw [if_pos c, if_pos c]; cases σ[j]? <;> rfl
  · rw [if_neg c, if_neg c]
def EvT0 (g : TG) (Γ : List Cn) (r : RT α) (f : α → List Cn) (ws : List Nat) : Prop :=
  ∀ F H σ fps v x (Q : L2.St → Hp → Prop), Ext F H → Hol Γ F H fps σ → r.rel F v x →
    (∀ σ' fps', (∀ a ∈ fps'.flatten, a ∈ fps.flatten) → (∀ vs, (∀ i ∈ ws, i ∈ vs) → L2.wipe σ' vs = L2.wipe σ vs) → Hol (f x) F H fps' σ' → Q σ' H) → g v σ H Q
theorem evg_name {i : Nat} : EvT0 (gName i) Γ r (fun x => Cn.put Γ i (.frz r x)) [i] := by
  intro F H σ fps v x Q e hol hv k
  exact k _ _ (fun a ha => flat_set_nil a ha) (fun vs hvs => wipe_set (hvs i (by simp))) (hol.store (Nx.refl e) ⟨rfl, v, rfl, hv⟩)
theorem evg_two {g g' : TG} {r : RT α} {r' : RT β} {f : α → List Cn} {f' : α → β → List Cn} {ws ws' : List Nat} (h : EvT0 g Γ r f ws) (h' : ∀ a, EvT0 g' (f a) r' (f' a) ws') : EvT0 (gTup K 2 (gCons g (gCons g' gNil))) Γ (tPair r r') (fun x => f' x.1 x.2) (ws ++ ws') := by
  intro F H σ fps v x Q e hol hv k
  obtain ⟨a, w, w', rfl, h2, h3, h4⟩ := hv
  refine ⟨a, _, rfl, SqT.of (e _ _ h2), rfl, w, [w'], rfl, h F H σ fps w x.1 _ e hol h3 fun σ1 fps1 s1 q1 hol1 => ⟨w', [], rfl, h' x.1 F H σ1 fps1 w' x.2 _ e hol1 h4 fun σ2 fps2 s2 q2 hol2 => ⟨rfl, ?_⟩⟩⟩
  exact k σ2 fps2 (fun a ha => s1 a (s2 a ha)) (fun vs hvs => (q2 vs fun i hi => hvs i (List.mem_append_right _ hi)).trans (q1 vs fun i hi => hvs i (List.mem_append_left _ hi))) hol2
theorem evg_A {g : Bk TG} {f : α → List Cn} {ws : List Nat} (h : ∀ s h C cl fp, EvT0 (g s h C cl fp) Γ r f ws) : EvT0 (gA g) Γ r f ws := fun F H σ fps v x Q e hol hv k s hh C cl fp => h s hh C cl fp F H σ fps v x Q e hol hv k
theorem evp_A {t : Bk TE} {m : Wp α} (h : ∀ s h C cl fp, EvP K E (t s h C cl fp) Γ r m) : EvP K E (teA t) Γ r m := fun F H σ fps Q e hol hm s hh C cl fp => h s hh C cl fp F H σ fps Q e hol hm
def evI (K : PySem.W.Frag) (E : ZK K) (wi : TI) (Γ : List Cn) (r : RT ι) (m : Wp (List ι)) : Prop :=
  ∀ F H σ fps (R : It → Hp → Prop), Ext F H → Hol Γ F H fps σ → m.run (fun xs => ∀ J F' H', Nx [] F H F' H' → ItG J F' r xs → xs.length ≤ 16777215 → R J H') (E.B [] F H) → wi σ H R
theorem itg0 {J : It} {n : Nat} {item : Nat → V → Prop} {xs : List α} (I : It0 J n F item) (hn : n = xs.length) (h : ∀ i v F', Ext F F' → i < n → item i v → ∃ b, xs[i]? = some b ∧ r.rel F' v b) : ItG J F r xs where
  go := fun i F' H' hi e1 e2 => I.go i F' H' (by omega) e1 e2
  stop := fun F' H' e1 e2 => by rw [← hn]; exact I.stop F' H' e1 e2
  yld := fun i F' H' v H'' hi e1 e2 hy => by
    obtain ⟨rfl, hx⟩ := I.yld i F' H' v H'' (by omega) e1 e2 hy
    obtain ⟨b, h1, h2⟩ := h i v F' e1 (by omega) hx
    exact ⟨F', b, Nx.refl e2, h1, h2⟩
theorem itg_al {J : It} {ws : List V} {xs : List α} (I : It0 J ws.length F (fun i x => ws[i]? = some x)) (al : Al r F ws xs) : ItG J F r xs :=
  itg0 I al.length fun i v F' e hi hv => by
    obtain ⟨b, h1, h2⟩ := al.get hv
    exact ⟨b, h1, r.mono e h2⟩
theorem evi_tup {m : Wp (List α)} (h : EvP K E te Γ (lT r) m) : evI K E (iTup K te) Γ r m := by
  intro F H σ fps R e hol hm
  refine h F H σ fps _ e hol (m.mono (fun xs hm => ?_) (fun _ z => z) hm)
  rintro v F' H' n ⟨⟨a, ws, rfl, h2, al⟩, hl⟩
  exact ⟨a, rfl, ⟨ws, SqT.of (n.fh _ _ h2)⟩, hm _ F' H' n (itg_al (it_tup h2) al) hl⟩
theorem evi_any {m : Wp (List α)} (h : EvP K E te Γ (lS r) m) : evI K E (iAny K te) Γ r m := by
  intro F H σ fps R e hol hm
  refine h F H σ fps _ e hol (m.mono (fun xs hm => ?_) (fun _ z => z) hm)
  rintro v F' H' n ⟨⟨a, ws, rfl, h2, al⟩, hl⟩
  rcases h2 with h2 | h2
  · exact ⟨a, rfl, .inl ⟨⟨ws, SqL.of (n.fh _ _ h2)⟩, hm _ F' H' n (itg_al (it_list h2) al) hl⟩⟩
  · exact ⟨a, rfl, .inr ⟨⟨ws, SqT.of (n.fh _ _ h2)⟩, hm _ F' H' n (itg_al (it_tup h2) al) hl⟩⟩
def rngI (lo : Int) (n : Nat) : List Int := (List.range n).map fun i : Nat => lo + (i : Int)
theorem itg_rng {lo : Int} {n : Nat} : ItG (Itr lo n) F tInt (rngI lo n) :=
  itg0 it_rng (by simp [rngI]) fun i v F' e hi hv => ⟨lo + (i : Int), by simp [rngI, hi], hv⟩
theorem evi_rng1 {m : Wp (Int × Unit)} (h : EvA K E tr Γ (raC tInt raN) m) : evI K E (iRng1 tr) Γ tInt (m.bind fun x => .req (x.1 ≤ 16777215 ∧ -(2 ^ 62) ≤ x.1) (.ok (rngI 0 x.1.toNat))) := by
  intro F H σ fps R e hol hm
  refine h F H σ fps _ e hol (m.mono (fun x hm => ?_) (fun _ z => z) hm)
  rintro vs F' H' n ⟨v, ws, rfl, h1, h2⟩
  obtain ⟨⟨q1, q2⟩, hm⟩ := hm
  exact ⟨x.1, by rw [show v = _ from h1, show ws = [] from h2], q2, by omega, hm _ F' H' n itg_rng (by simp [rngI]; omega)⟩
theorem evi_rng1P {n : Int} (h : EvA K E tr Γ (raC tInt raN) (.ok (n, ()))) : evI K E (iRng1 tr) Γ tInt (.req (n ≤ 16777215 ∧ -(2 ^ 62) ≤ n) (.ok (rngI 0 n.toNat))) := evi_rng1 h
def enumL (xs : List α) : List (Int × α) := xs.zipIdx.map fun x => ((x.2 : Int), x.1)
def Nk (F H : Hp) (r : RT α) (Q : VK) : List α → Prop := fun ys => ∀ v F' H' fp, Nx [] F H F' H' → (∀ a ∈ fp, H a = none) → (mL r).rel F' H' fp v ys → Q v H'
theorem evp_close {m : Wp (List α)} (h : EvN K E te Γ (mL r) m) : EvP K E te Γ (lL r) m := by
  intro F H σ fps Q e hol hm
  refine h F H σ fps _ e hol (m.mono (fun x hm => ?_) (fun _ z => z) hm)
  intro v F' H' fp n hn hv
  obtain ⟨p, ws, rfl, rfl, h1, h2, h3, h4⟩ := hv
  obtain ⟨n2, h5⟩ := close_lst n h1 h3 h2 (hn p (by simp))
  exact hm _ _ _ n2 ⟨h5, h4⟩
theorem evp_lcN {wi : TI} {g : TG} {vs : List Nat} {ws : List Nat} {ri : RT ι} {r : RT β} {f : ι → List Cn} {mi : Wp (List ι)} {mb : ι → Wp β} (hi : evI K E wi Γ ri mi) (hg : EvT0 g (Cn.puts Γ vs) ri f ws) (he : ∀ x, EvP K (z0 K) te (f x) r (mb x)) (hw : ∀ i ∈ ws, i ∈ vs := by decide) :
    EvN K E (tLc wi g (ttA fun _ _ _ _ _ => tYes) te vs) Γ (mL r) (mi.bind fun xs => Wp.map (fun x => (mb x).nox) xs) := by
  intro F H σ fps Q e hol hm
  refine hi F H σ fps _ e hol (mi.mono (fun xs hm => ?_) (fun _ z => z) hm)
  intro J F1 H1 n1 I hlen D hD
  have hFD : F1 D = none := ext_none n1.fh hD
  refine ⟨fun i m H' => m = xs.length - i ∧ i ≤ xs.length ∧ ∃ F' acc ws, Nx [] F1 H1 F' H' ∧ H' D = some (.lst ws) ∧ F' D = none ∧ Al r F' ws acc ∧ acc.length = i ∧ (Wp.map (fun x => (mb x).nox) (xs.drop i)).run (fun ys => Nk F H r Q (acc ++ ys)) (E.B [] F H),
    ⟨xs.length, by omega, Nat.zero_le _, F1, [], [], Nx.open_ n1.fh hD, upd_same, hFD, trivial, rfl, by rw [List.drop_zero]; exact (Wp.map (fun x => (mb x).nox) xs).mono (fun ys h => by rw [List.nil_append]; exact h) (fun _ z => z) hm⟩, ?_⟩
  rintro i m H' ⟨rfl, hi, F', acc, ws', n2, hd, fd, al, hl, hr⟩
  have n12 := n1.trans n2
  by_cases c : i < xs.length
  · refine .inr ⟨I.go i F' H' c n2.ff n2.fh, fun H'' => ∃ F' acc ws, Nx [] F1 H1 F' H'' ∧ H'' D = some (.lst ws) ∧ F' D = none ∧ Al r F' ws acc ∧ acc.length = i + 1 ∧ (Wp.map (fun x => (mb x).nox) (xs.drop (i + 1))).run (fun ys => Nk F H r Q (acc ++ ys)) (E.B [] F H), fun H'' h => ⟨xs.length - (i + 1), by omega, rfl, c, h⟩, ?_⟩
    intro x H'' hy
    obtain ⟨F2, b, n3, hb, hx⟩ := I.yld i F' H' x H'' c n2.ff n2.fh hy
    have hol2 := hol.nx (n12.trans n3)
    refine hg F2 H'' _ _ x b _ n3.fh (hol2.wipe n3.fh vs) hx fun σ2 fps2 s2 q2 hol3 => ⟨(q2 vs hw).trans (wipe_wipe σ vs), ?_⟩
    rw [List.drop_eq_getElem_cons c, show xs[i] = b from by rw [List.getElem?_eq_getElem c] at hb; exact Option.some.inj hb] at hr
    have n13 := n12.trans n3
    intro _ _ _ _ _
    refine he b F2 H'' σ2 fps2 _ n3.fh hol3 ((mb b).mono (fun y hy => ?_) (fun _ z => z) hr)
    intro w F4 H4 n4 hw'
    have d3 := n3.keep D _ (by simp) hd
    have f3 : F2 D = none := n3.out D fd (by rw [hd]; simp)
    have d4 := n4.keep D _ (by simp) d3
    have f4 : F4 D = none := n4.out D f3 (by rw [d3]; simp)
    have hal := al.length
    refine ⟨ws', d4, by rw [hal, sizeLine_eq]; omega, F4, acc ++ [y], ws' ++ [w], (n2.trans (n3.trans n4)).mut (.inr hD) f4, upd_same, f4, (al.mono (n3.trans n4).ff).snoc hw', by simp [hl], ?_⟩
    exact (Wp.map (fun x => (mb x).nox) (xs.drop (i + 1))).mono (fun ys h => by rw [List.append_assoc]; exact h) (fun _ z => z) hy
  · have ei : i = xs.length := by omega
    subst ei
    rw [List.drop_length] at hr
    have hr' : Nk F H r Q (acc ++ []) := hr
    rw [List.append_nil] at hr'
    exact .inl ⟨I.stop F' H' n2.ff n2.fh, hr' _ _ _ [D] n12 (fun a ha => by rw [List.mem_singleton.mp ha]; exact n1.free hD) ⟨D, ws', rfl, rfl, hd, fd, al, by omega⟩⟩
end
end L2.My
namespace L2.My
open PySem PySem.Spec PyProof.Rows L2
inductive SubC : Cn → Cn → Prop
  | same {c : Cn} : SubC c c
  | any {c : Cn} : SubC c .any
  | cast {α β : Type} {r : RT α} {r' : RT β} {x : α} {y : β} (h : ∀ F v, r.rel F v x → r'.rel F v y) : SubC (.frz r x) (.frz r' y)
  | close {α : Type} {r : RT α} {xs : List α} : SubC (.mut (mL r) xs) (.frz (lL r) xs)
inductive SubL : List Cn → List Cn → Prop
  | nil : SubL [] []
  | cons {c c' : Cn} {Γ Γ' : List Cn} (h : SubC c c') (t : SubL Γ Γ') : SubL (c :: Γ) (c' :: Γ')
theorem SubL.refl : ∀ Γ : List Cn, SubL Γ Γ
  | [] => .nil
  | _ :: t => .cons .same (SubL.refl t)
section
variable {α β γ δ ι κ S S' L R T : Type} {K : PySem.W.Frag} {E : ZK K} {te ta tb : TE} {tt : TT} {tr : TA} {ts tw tu : TS} {Γ Γ' : List Cn} {r : RT α} {F H F' H' F1 H1 : Hp}
theorem SubC.hol {c c' : Cn} {fp : List Addr} {o : Option V} (e : Ext F H) (h : SubC c c') (hc : c.rel F H fp o) : ∃ F' fp', Ext F' H ∧ Nz fp F H F' H ∧ (∀ a ∈ fp', a ∈ fp) ∧ c'.rel F' H fp' o := by
  have n0 : Nz fp F H F H := (Nx.refl e : Nx fp F H F H).nz
  cases h with
  | same => exact ⟨F, fp, e, n0, fun _ z => z, hc⟩
  | any => exact ⟨F, [], e, n0, by simp, rfl⟩
  | cast h =>
    obtain ⟨h1, v, h2, h3⟩ := hc
    exact ⟨F, fp, e, n0, fun _ z => z, h1, v, h2, h _ _ h3⟩
  | close =>
    obtain ⟨v, h1, p, ws, rfl, rfl, h2, h3, h4, h5⟩ := hc
    have e2 : Ext (upd F p (.lst ws)) H := fun b u q => by
      by_cases z : b = p
      · subst z; rw [upd_same] at q; cases q; exact h2
      · rw [upd_ne z] at q; exact e _ _ q
    refine ⟨upd F p (.lst ws), [], e2, ⟨Ext.upd h3, e2, fun _ _ _ z => z, fun b hb h1 _ => ?_, fun _ z => z⟩, by simp, rfl, _, h1, ⟨p, ws, rfl, upd_same, h4.mono (Ext.upd h3)⟩, h5⟩
    rw [upd_ne (fun z => hb (by simp [z]))]; exact h1
theorem SubL.hol : ∀ {Γ Γ' : List Cn} {fps : List (List Addr)} {σ : St} {F : Hp}, Ext F H → SubL Γ Γ' → Hol Γ F H fps σ → ∃ F' fps', Stp fps.flatten F H fps'.flatten F' H ∧ Hol Γ' F' H fps' σ ∧ ∀ q ∈ fps', ∃ p ∈ fps, ∀ a ∈ q, a ∈ p
  | [], [], [], [], F, e, _, h => ⟨F, [], Stp.refl e (by simp), trivial, by simp⟩
  | c :: Γ, c' :: Γ', fp :: fps, o :: σ, F, e, s, h => by
    cases s with
    | cons hc ht =>
      obtain ⟨h1, h2, h3⟩ := h
      obtain ⟨F1, fps1, s1, hol1, sub1⟩ := SubL.hol e ht h3
      have h1' : c.rel F1 H fp o := Cn.rel_frame s1.n (fun a ha z => by
        obtain ⟨q, hq, haq⟩ := List.mem_flatten.mp z
        exact h2 a ha q hq haq) h1
      obtain ⟨F2, fp2, e2, n2, sub2, hc2⟩ := hc.hol s1.fh h1'
      have dis : ∀ q ∈ fps1, ∀ a ∈ q, a ∉ fp := fun q hq a ha z => by
        obtain ⟨p, hp, hpa⟩ := sub1 q hq
        exact h2 a z p hp (hpa a ha)
      refine ⟨F2, fp2 :: fps1, ⟨?_, fun a ha => .inl ?_⟩, ⟨hc2, fun a ha q hq z => dis q hq a z (sub2 a ha), Hol.frame n2 dis hol1⟩, fun q hq => ?_⟩
      · have n1 : Nz (fp :: fps).flatten F H F1 H := s1.n.weak fun a ha => by rw [List.flatten_cons]; exact List.mem_append_right _ ha
        have n2' : Nz (fp :: fps).flatten F1 H F2 H := n2.weak fun a ha => by rw [List.flatten_cons]; exact List.mem_append_left _ ha
        exact ⟨n1.ff.trans n2'.ff, n2'.fh, fun _ _ _ z => z, fun b hb q1 q2 => n2'.out b hb (n1.out b hb q1 q2) q2, fun _ z => z⟩
      · rw [List.flatten_cons] at ha ⊢
        rcases List.mem_append.mp ha with ha | ha
        · exact List.mem_append_left _ (sub2 a ha)
        · obtain ⟨q, hq, haq⟩ := List.mem_flatten.mp ha
          obtain ⟨p, hp, hpa⟩ := sub1 q hq
          exact List.mem_append_right _ (List.mem_flatten.mpr ⟨p, hp, hpa a haq⟩)
      · rcases List.mem_cons.mp hq with rfl | hq
        · exact ⟨fp, List.mem_cons_self, sub2⟩
        · obtain ⟨p, hp, hpa⟩ := sub1 q hq
          exact ⟨p, List.mem_cons_of_mem _ hp, hpa⟩
  | [], [], _ :: _, _, _, _, _, h => h.elim
  | [], [], [], _ :: _, _, _, _, h => h.elim
  | [], _ :: _, _, _, _, _, s, _ => nomatch s
  | _ :: _, [], _, _, _, _, s, _ => nomatch s
  | _ :: _, _ :: _, [], _, _, _, _, h => h.elim
  | _ :: _, _ :: _, _ :: _, [], _, _, _, h => h.elim
abbrev RR (R : Type) := Hp → Hp → List Addr → V → R → Prop
def rP (r : RT α) : RR α := fun F' _ _ v x => r.rel F' v x
def Pst (D : Ends) (G : S → List Cn) (GL : L → List Cn) (rr : RR R) (M : List Addr) (F H : Hp) : Fl S L R → Prop
  | .nx s => ∀ F' H' fps' σ', Stp M F H fps'.flatten F' H' → Hol (G s) F' H' fps' σ' → D.nx σ' H'
  | .brk s => ∀ F' H' fps' σ', Stp M F H fps'.flatten F' H' → Hol (GL s) F' H' fps' σ' → D.bk σ' H'
  | .cnt s => ∀ F' H' fps' σ', Stp M F H fps'.flatten F' H' → Hol (GL s) F' H' fps' σ' → D.ct σ' H'
  | .ret x => ∀ v F' H' M', Stp M F H M' F' H' → rr F' H' M' v x → D.rt v H'
def Sv (K : PySem.W.Frag) (E : ZK K) (ts : TS) (Γ : List Cn) (G : S → List Cn) (GL : L → List Cn) (rr : RR R) (m : Wp (Fl S L R)) : Prop :=
  ∀ D F H σ fps, Ext F H → Hol Γ F H fps σ → m.run (Pst D G GL rr fps.flatten F H) (E.B fps.flatten F H) → ts D σ H
variable {G : S → List Cn} {G' : S' → List Cn} {GL : L → List Cn} {rr : RR R} {M M1 : List Addr}
theorem ZK.down (E : ZK K) {e : Err} (x : Ext F H) (h : E.B M F H e) : E.B [] F H e := E.step (Stp.refl x (by simp)) h
theorem Pst.step {D : Ends} {z : Fl S L R} (s : Stp M F H M1 F1 H1) (h : Pst D G GL rr M F H z) : Pst D G GL rr M1 F1 H1 z := by
  cases z with
  | nx x => exact fun F' H' fps' σ' s' => h F' H' fps' σ' (s.trans s')
  | brk x => exact fun F' H' fps' σ' s' => h F' H' fps' σ' (s.trans s')
  | cnt x => exact fun F' H' fps' σ' s' => h F' H' fps' σ' (s.trans s')
  | ret x => exact fun v F' H' M' s' => h v F' H' M' (s.trans s')
theorem Wp.mst {m : Wp (Fl S L R)} {D : Ends} (s : Stp M F H M1 F1 H1) (h : m.run (Pst D G GL rr M F H) (E.B M F H)) : m.run (Pst D G GL rr M1 F1 H1) (E.B M1 F1 H1) := m.mono (fun _ => Pst.step s) (fun _ => E.step s) h
theorem stp_nx {fps : List (List Addr)} (n : Nx [] F H F' H') : Stp fps.flatten F H fps.flatten F' H' := Stp.of_nx n fun _ z => z
theorem sv_weak {m : Wp (Fl S L R)} (hs : SubL Γ Γ') (h : Sv K E ts Γ' G GL rr m) : Sv K E ts Γ G GL rr m := by
  intro D F H σ fps e hol hm
  obtain ⟨F', fps', s, hol', _⟩ := hs.hol e hol
  exact h D F' H σ fps' s.fh hol' (Wp.mst s hm)
theorem sv_end {s : S} (hs : SubL Γ (G s)) : Sv K E tNext Γ G GL rr (.ok (.nx s)) := by
  intro D F H σ fps e hol hm
  obtain ⟨F', fps', s, hol', _⟩ := hs.hol e hol
  exact hm F' H fps' σ s hol'
theorem sv_last {m : Wp (Fl S L R)} (h : Sv K E (tSeq ts tNext) Γ G GL rr m) : Sv K E ts Γ G GL rr m := h
theorem sv_asg {i : Nat} {m : Wp α} {k : α → Wp (Fl S L R)} (h : EvP K E te Γ r m) (hk : ∀ x, Sv K E tu (Cn.put Γ i (.frz r x)) G GL rr (k x)) : Sv K E (tSeq (tAsg te (gName i)) tu) Γ G GL rr (m.bind k) := by
  intro D F H σ fps e hol hm
  refine h F H σ fps _ e hol (m.mono (fun x hm => ?_) (fun _ => E.down e) hm)
  intro v F' H' n hv
  have hol' := hol.store (c := .frz r x) (i := i) n ⟨rfl, v, rfl, hv⟩
  exact hk x D F' H' _ _ n.fh hol' (Wp.mst ⟨n.nil.nz, fun a ha => .inl (flat_set_nil a ha)⟩ hm)
theorem sv_new {σt : Type} {mt : MT σt} {i : Nat} {m : Wp σt} {k : σt → Wp (Fl S L R)} (h : EvN K E te Γ mt m) (hi : ∃ c, Cn.get Γ i = some c) (hk : ∀ x, Sv K E tu (Cn.put Γ i (.mut mt x)) G GL rr (k x)) : Sv K E (tSeq (tAsg te (gName i)) tu) Γ G GL rr (m.bind k) := by
  intro D F H σ fps e hol hm
  refine h F H σ fps _ e hol (m.mono (fun x hm => ?_) (fun _ => E.down e) hm)
  intro v F' H' fp n hn hv
  obtain ⟨c, hc⟩ := hi
  obtain ⟨fp0, o, h1, h2, h3⟩ := hol.get hc
  have hol' := Hol.put (c := .mut mt x) (fp' := fp) (o' := some v) hol n.nz h1 (by simp) ⟨v, rfl, hv⟩ (fun a ha => .inr (hn a ha))
  refine hk x D F' H' _ _ n.fh hol' (Wp.mst ⟨n.nil.nz, fun a ha => ?_⟩ hm)
  rcases flat_set a ha with z | z
  · exact .inr (hn a z)
  · exact .inl z
theorem sv_ret {rr : RR α} {m : Wp α} (hr : ∀ F H M v x, Ext F H → r.rel F v x → rr F H M v x) (h : EvP K E te Γ r m) : Sv K E (tRet te) Γ G GL rr (m.bind fun x => .ok (.ret x)) := by
  intro D F H σ fps e hol hm
  refine h F H σ fps _ e hol (m.mono (fun x hm => ?_) (fun _ => E.down e) hm)
  intro v F' H' n hv
  exact hm v F' H' [] (Stp.of_nx n (by simp)) (hr _ _ _ _ _ n.fh hv)
theorem sv_retP {m : Wp α} (h : EvP K E te Γ r m) : Sv K E (tRet te) Γ G GL (rP r) (m.bind fun x => .ok (.ret x)) := sv_ret (fun _ _ _ _ _ _ z => z) h
theorem sv_retPP {x : α} (h : EvP K E te Γ r (.ok x)) : Sv K E (tRet te) Γ G GL (rP r) (.ok (.ret x)) := sv_retP h
theorem sv_if {mt : Wp Bool} {m m' : Wp (Fl S L R)} (ht : EvT K E tt Γ mt) (h : Sv K E ts Γ G GL rr m) (h' : Sv K E tw Γ G GL rr m') : Sv K E (tIfS tt ts tw) Γ G GL rr (mt.bind fun b => if b = true then m else m') := by
  intro D F H σ fps e hol hm
  refine ht F H σ fps _ e hol (mt.mono (fun b hb F' H' n => ?_) (fun _ => E.down e) hm)
  cases b with
  | true => exact h D F' H' σ fps n.fh (hol.nx n) (Wp.mst (stp_nx n) hb)
  | false => exact h' D F' H' σ fps n.fh (hol.nx n) (Wp.mst (stp_nx n) hb)
theorem sv_ifP {b : Bool} {m m' : Wp (Fl S L R)} (ht : EvT K E tt Γ (.ok b)) (h : Sv K E ts Γ G GL rr m) (h' : Sv K E tw Γ G GL rr m') : Sv K E (tIfS tt ts tw) Γ G GL rr (if b = true then m else m') := sv_if ht h h'
theorem up_run {m : Wp (Fl Empty L R)} {A : Fl S L R → Prop} {B : Err → Prop} : (Wp.up m).run A B ↔ m.run (fun z => match z with | .nx s => s.elim | .brk l => A (.brk l) | .cnt l => A (.cnt l) | .ret x => A (.ret x)) B :=
  ⟨fun h => m.mono (fun z hz => by cases z with
    | nx s => exact s.elim
    | brk l => exact hz
    | cnt l => exact hz
    | ret x => exact hz) (fun _ z => z) h, fun h => m.mono (fun z hz => by cases z with
    | nx s => exact s.elim
    | brk l => exact hz
    | cnt l => exact hz
    | ret x => exact hz) (fun _ z => z) h⟩
theorem sv_ifE {mt : Wp Bool} {m : Wp (Fl Empty L R)} {m' : Wp (Fl S L R)} (ht : EvT K E tt Γ mt) (h : Sv K E ts Γ (fun z : Empty => z.elim) GL rr m) (h' : Sv K E (tSeq tw tu) Γ G GL rr m') : Sv K E (tSeq (tIfS tt ts tw) tu) Γ G GL rr (mt.bind fun b => if b = true then m.up else m') := by
  intro D F H σ fps e hol hm
  refine ht F H σ fps _ e hol (mt.mono (fun b hb F' H' n => ?_) (fun _ => E.down e) hm)
  cases b with
  | true =>
    refine h _ F' H' σ fps n.fh (hol.nx n) (m.mono (fun z hz => ?_) (fun _ => E.step (stp_nx n)) (up_run.mp hb))
    cases z with
    | nx s => exact s.elim
    | brk l => exact Pst.step (G := G) (rr := rr) (z := .brk l) (stp_nx n) hz
    | cnt l => exact Pst.step (G := G) (rr := rr) (z := .cnt l) (stp_nx n) hz
    | ret l => exact Pst.step (G := G) (GL := GL) (z := .ret l) (stp_nx n) hz
  | false => exact h' D F' H' σ fps n.fh (hol.nx n) (Wp.mst (stp_nx n) hb)
theorem sv_ifEP {b : Bool} {m : Wp (Fl Empty L R)} {m' : Wp (Fl S L R)} (ht : EvT K E tt Γ (.ok b)) (h : Sv K E ts Γ (fun z : Empty => z.elim) GL rr m) (h' : Sv K E (tSeq tw tu) Γ G GL rr m') : Sv K E (tSeq (tIfS tt ts tw) tu) Γ G GL rr (if b = true then m.up else m') := sv_ifE ht h h'
theorem sv_seq {m : Wp (Fl S' L R)} {k : S' → Wp (Fl S L R)} (h : Sv K E ts Γ G' GL rr m) (hk : ∀ s, Sv K E tu (G' s) G GL rr (k s)) : Sv K E (tSeq ts tu) Γ G GL rr (m.seq k) := by
  intro D F H σ fps e hol hm
  refine h _ F H σ fps e hol (m.mono (fun z hz => ?_) (fun _ z => z) hm)
  cases z with
  | nx s => exact fun F' H' fps' σ' s' hol' => hk s D F' H' σ' fps' s'.fh hol' (Wp.mst s' hz)
  | brk l => exact hz
  | cnt l => exact hz
  | ret x => exact hz
theorem sv_for {wi : TI} {g : TG} {ws : List Nat} {ri : RT ι} {f : S' → ι → List Cn} {s0 : S'} {mi : Wp (List ι)} {mb : ι → S' → Wp (Fl S' S' R)} {k : S' → Wp (Fl S L R)} (hs : SubL Γ (G' s0)) (hi : evI K E wi Γ ri mi) (hg : ∀ s, EvT0 g (G' s) ri (f s) ws)
    (hb : ∀ x s, Sv K E tw (f s x) G' G' rr (mb x s)) (hk : ∀ s, Sv K E tu (G' s) G GL rr (k s)) : Sv K E (tSeq (tFor wi g tw) tu) Γ G GL rr (mi.bind fun xs => (Wp.for_ xs s0 mb).seq k) := by
  intro D F H σ fps e hol hm
  refine hi F H σ fps _ e hol (mi.mono (fun xs hm => ?_) (fun _ => E.down e) hm)
  intro J F1 H1 n1 I _
  obtain ⟨F2, fps2, s2, hol2, _⟩ := hs.hol n1.fh (hol.nx n1)
  have s12 := (stp_nx (fps := fps) n1).trans s2
  refine ⟨fun i m σ' H' => m = xs.length - i ∧ i ≤ xs.length ∧ ∃ s F' fps', Stp fps.flatten F H fps'.flatten F' H' ∧ Ext F1 F' ∧ Hol (G' s) F' H' fps' σ' ∧ (Wp.seq (Wp.for_ (xs.drop i) s mb) k).run (Pst D G GL rr fps.flatten F H) (E.B fps.flatten F H),
    ⟨xs.length, by omega, Nat.zero_le _, s0, F2, fps2, s12, s2.ff, hol2, by simpa using hm⟩, ?_⟩
  rintro i m σ' H' ⟨rfl, hi, s, F', fps', s3, x3, hol3, hr⟩
  by_cases c : i < xs.length
  · refine .inr ⟨I.go i F' H' c x3 s3.fh, fun σ2 H2 => ∃ s F' fps', Stp fps.flatten F H fps'.flatten F' H2 ∧ Ext F1 F' ∧ Hol (G' s) F' H2 fps' σ2 ∧ (Wp.seq (Wp.for_ (xs.drop (i + 1)) s mb) k).run (Pst D G GL rr fps.flatten F H) (E.B fps.flatten F H), fun σ2 H2 h => ⟨xs.length - (i + 1), by omega, rfl, c, h⟩, ?_⟩
    intro v H'' hy
    obtain ⟨F4, b, n4, hb', hx⟩ := I.yld i F' H' v H'' c x3 s3.fh hy
    have s4 := s3.trans (stp_nx n4)
    refine hg s F4 H'' σ' fps' v b _ n4.fh (hol3.nx n4) hx fun σ5 fps5 sub5 _ hol5 => ?_
    have s5 : Stp fps.flatten F H fps5.flatten F4 H'' := s4.sub sub5
    rw [List.drop_eq_getElem_cons c, show xs[i] = b from by rw [List.getElem?_eq_getElem c] at hb'; exact Option.some.inj hb'] at hr
    refine hb b s _ F4 H'' σ5 fps5 n4.fh hol5 ((mb b s).mono (fun z hz => ?_) (fun _ => E.step s5) hr)
    cases z with
    | nx s' => exact fun F6 H6 fps6 σ6 s6 hol6 => ⟨s', F6, fps6, s5.trans s6, (x3.trans n4.ff).trans s6.ff, hol6, hz⟩
    | cnt s' => exact fun F6 H6 fps6 σ6 s6 hol6 => ⟨s', F6, fps6, s5.trans s6, (x3.trans n4.ff).trans s6.ff, hol6, hz⟩
    | brk s' => exact fun F6 H6 fps6 σ6 s6 hol6 => hk s' D F6 H6 σ6 fps6 s6.fh hol6 (Wp.mst (s5.trans s6) hz)
    | ret x => exact Pst.step (G := G) (GL := GL) (z := .ret x) s5 hz
  · have ei : i = xs.length := by omega
    subst ei
    rw [List.drop_length] at hr
    exact .inl ⟨I.stop F' H' x3 s3.fh, hk s D F' H' σ' fps' s3.fh hol3 (Wp.mst s3 hr)⟩
theorem sv_while {s0 : S'} {mt : S' → Wp Bool} {mb : S' → Wp (Fl S' S' R)} {k : S' → Wp (Fl S L R)} (hs : SubL Γ (G' s0)) (ht : ∀ s, EvT K E tt (G' s) (mt s)) (hb : ∀ s, Sv K E tw (G' s) G' G' rr (mb s)) (hk : ∀ s, Sv K E tu (G' s) G GL rr (k s)) :
    Sv K E (tSeq (tWhile tt tw) tu) Γ G GL rr ((Wp.while_ s0 mt mb).seq k) := by
  intro D F H σ fps e hol hm
  obtain ⟨F2, fps2, s2, hol2, _⟩ := hs.hol e hol
  obtain ⟨I, ⟨n0, h0⟩, hI⟩ := hm
  refine ⟨fun n σ' H' => ∃ s F' fps', I n s ∧ Stp fps.flatten F H fps'.flatten F' H' ∧ Hol (G' s) F' H' fps' σ', ⟨n0, s0, F2, fps2, h0, s2, hol2⟩, ?_⟩
  rintro n σ' H' ⟨s, F', fps', hn, s3, hol3⟩
  refine ht s F' H' σ' fps' _ s3.fh hol3 ((mt s).mono (fun b hb' F4 H4 n4 => ?_) (fun _ h => E.down s3.fh (E.step s3 h)) (hI n s hn))
  have s4 := s3.trans (stp_nx n4)
  cases b with
  | true =>
    refine ⟨fun σ2 H2 => ∃ n', n' < n ∧ ∃ s F' fps', I n' s ∧ Stp fps.flatten F H fps'.flatten F' H2 ∧ Hol (G' s) F' H2 fps' σ2, fun σ2 H2 z => z, ?_⟩
    refine hb s _ F4 H4 σ' fps' n4.fh (hol3.nx n4) ((mb s).mono (fun z hz => ?_) (fun _ => E.step s4) hb')
    cases z with
    | nx s' => exact fun F6 H6 fps6 σ6 s6 hol6 => let ⟨n', q1, q2⟩ := hz; ⟨n', q1, s', F6, fps6, q2, s4.trans s6, hol6⟩
    | cnt s' => exact fun F6 H6 fps6 σ6 s6 hol6 => let ⟨n', q1, q2⟩ := hz; ⟨n', q1, s', F6, fps6, q2, s4.trans s6, hol6⟩
    | brk s' => exact fun F6 H6 fps6 σ6 s6 hol6 => hk s' D F6 H6 σ6 fps6 s6.fh hol6 (Wp.mst (s4.trans s6) hz)
    | ret x => exact Pst.step (G := G) (GL := GL) (z := .ret x) s4 hz
  | false => exact hk s D F4 H4 σ' fps' n4.fh (hol3.nx n4) (Wp.mst s4 hb')
theorem sv_raiseA {c : Str} {ra : RA α} {m : Wp α} {f : α → V} (hf : ∀ F vs x, ra.rel F vs x → vs = [f x]) (h : EvA K E tr Γ ra m) : Sv K E (fun _ σ H => tMkAt (He.ga K c) tr σ H fun cls d H' => E.X cls d H') Γ G GL rr (m.bind fun x => .raise ⟨c, some ("at", f x)⟩) := by
  intro D F H σ fps e hol hm
  refine h F H σ fps _ e hol (m.mono (fun x hm => ?_) (fun _ => E.down e) hm)
  intro vs F' H' n hv
  refine ⟨_, hf _ _ _ hv, fun d hd => ?_⟩
  have n2 := n.trans (Nx.new (o := .xd [(("at" : Str), f x)]) n.fh hd)
  exact E.es hm e _ _ (upd F' d (.xd [(("at" : Str), f x)])) _ [] (Stp.of_nx n2 (by simp)) ⟨rfl, d, rfl, upd_same⟩
theorem sv_append {T : String} {i : Nat} {xs : List α} {m : Wp α} {k : α → Wp (Fl S L R)} (hi : Cn.get Γ i = some (.mut (mL r) xs)) (h : EvP K E te Γ r m) (hT : T = "list") (hk : ∀ x, Sv K E tu (Cn.put Γ i (.mut (mL r) (xs ++ [x]))) G GL rr (k x)) :
    Sv K E (tSeq (tDrop (tBM K T rAppend (tVar i) (tCons te tNil))) tu) Γ G GL rr (m.bind fun x => .req (xs.length < 16777215) (k x)) := by
  intro D F H σ fps e hol hm
  subst hT
  obtain ⟨fp, o, h1, h2, v, rfl, p, ws, rfl, rfl, h3, h4, h5, h6⟩ := hol.get hi
  refine ⟨_, h2, .inl ⟨rfl, ws, SqL.of h3⟩, h F H σ fps _ e hol (m.mono (fun x hm => ?_) (fun _ => E.down e) hm)⟩
  intro v F' H' n hv
  have h3' := n.keep p _ (by simp) h3
  have h4' := n.out p h4 (by rw [h3]; simp)
  have hl := h5.length
  refine ⟨p, ws, v, rfl, rfl, h3', by rw [sizeLine_eq]; have := hm.1; omega, ?_⟩
  have n2 : Nz [p] F H F' (upd H' p (.lst (ws ++ [v]))) := ((n.nil : Nx [p] F H F' H').mut (.inl (by simp)) h4').nz
  have hc : Cn.rel (.mut (mL r) (xs ++ [x])) F' (upd H' p (.lst (ws ++ [v]))) [p] (some (.ref p)) := ⟨_, rfl, p, _, rfl, rfl, upd_same, h4', (h5.mono n.ff).snoc hv, by rw [List.length_append]; have := hm.1; simp; omega⟩
  have hol' := Hol.put hol n2 h1 (fun _ z => z) hc (fun a ha => .inl ha)
  have hset : σ.set i (some (.ref p)) = σ := by
    refine List.ext_getElem? fun j => ?_
    rw [List.getElem?_set]
    by_cases c : i = j
    · subst c
      rw [if_pos rfl, h2]
      have : i < σ.length := (List.getElem?_eq_some_iff.mp h2).1
      rw [if_pos this]
    · rw [if_neg c]
  rw [hset] at hol'
  refine hk x D F' _ σ _ n2.fh hol' (Wp.mst ⟨n2.weak fun a ha => ?_, fun a ha => ?_⟩ hm.2)
  · exact List.mem_flatten.mpr ⟨[p], List.mem_of_getElem? h1, ha⟩
  · rcases flat_set a ha with z | z
    · exact .inl (List.mem_flatten.mpr ⟨[p], List.mem_of_getElem? h1, z⟩)
    · exact .inl z
end
end L2.My
namespace L2.My
open PySem PySem.Spec PyProof.Rows L2
def tTx : RT Str := ⟨fun _ v x => v = .str x ∧ (PyData.strOk x = true ∧ x.length ≤ 1000000), fun _ h => h⟩
section
variable {α β γ δ ι κ : Type} {K : PySem.W.Frag} {E : ZK K} {te ta tb : TE} {tt tu : TT} {tr : TA} {Γ : List Cn} {r r' : RT α} {F H F' H' F1 H1 : Hp}
theorem evp_tx {x : Str} (h : PyData.strOk x = true ∧ x.length ≤ 1000000) : EvP K E (tC (.str x)) Γ tTx (.ok x) := fun F H σ fps Q e hol hm => hm _ F H (Nx.refl e) ⟨rfl, h⟩
theorem opv_I0 {g : Int → Int → Int} : OpV K E (rI0 fun i j => .int (g i j)) tInt tInt tInt fun a b => .ok (g a b) := by
  rintro F H v w a b Q σ e rfl rfl hm
  exact ⟨a, b, rfl, rfl, hm _ F H (Nx.refl e) rfl⟩
theorem opv_I0B {g : Int → Int → Bool} : OpV K E (rI0 fun i j => .bl (g i j)) tInt tInt tBool fun a b => .ok (g a b) := by
  rintro F H v w a b Q σ e rfl rfl hm
  exact ⟨a, b, rfl, rfl, hm _ F H (Nx.refl e) rfl⟩
theorem opv_I {C : Int → Int → Prop} {g : Int → Int → Int} : OpV K E (rI C fun i j => .int (g i j)) tInt tInt tInt fun a b => .req (C a b) (.ok (g a b)) := by
  rintro F H v w a b Q σ e rfl rfl hm
  exact ⟨a, b, rfl, rfl, hm.1, hm.2 _ F H (Nx.refl e) rfl⟩
theorem unv_U {g : Int → Int} : UnV K E (rU fun i => .int (g i)) tInt tInt fun a => .ok (g a) := by
  rintro F H v a Q σ e rfl hm
  exact ⟨a, rfl, hm _ F H (Nx.refl e) rfl⟩
theorem opv_eqI : OpV K E rEq tInt tInt tBool fun a b => .ok (decide (a = b)) := by
  rintro F H v w a b Q σ e rfl rfl hm
  exact g_eqI (hm _ F H (Nx.refl e) rfl)
theorem opv_eqS : OpV K E rEq tTx tTx tBool fun a b => .ok (decide (a = b)) := by
  rintro F H v w a b Q σ e ⟨rfl, _⟩ ⟨rfl, _⟩ hm
  exact g_eqS (hm _ F H (Nx.refl e) rfl)
theorem opv_neS : OpV K E rNe tTx tTx tBool fun a b => .ok (!decide (a = b)) := by
  rintro F H v w a b Q σ e ⟨rfl, _⟩ ⟨rfl, _⟩ hm
  exact g_neS (hm _ F H (Nx.refl e) rfl)
def NotNon (r : RT α) : Prop := ∀ F v x, r.rel F v x → v ≠ .non
theorem isNone_of {v : V} {x : Option α} (hn : NotNon r) (h : (tOpt r).rel F v x) : decide (v = .non) = x.isNone := by
  cases x with
  | none => rw [show v = _ from h]; rfl
  | some y => exact decide_eq_false (hn _ _ _ h)
theorem evp_isN {m : Wp (Option α)} (hn : NotNon r) (h : EvP K E te Γ (tOpt r) m) : EvP K E (tOp rIsN te (tC .non)) Γ tBool (m.bind fun x => .ok x.isNone) := by
  intro F H σ fps Q e hol hm
  refine h F H σ fps _ e hol (m.mono (fun x hx v F' H' n hv => ⟨rfl, ?_⟩) (fun _ z => z) hm)
  rw [isNone_of hn hv]
  exact hx _ F' H' n rfl
theorem evp_notN {m : Wp (Option α)} (hn : NotNon r) (h : EvP K E te Γ (tOpt r) m) : EvP K E (tOp rNotN te (tC .non)) Γ tBool (m.bind fun x => .ok (!x.isNone)) := by
  intro F H σ fps Q e hol hm
  refine h F H σ fps _ e hol (m.mono (fun x hx v F' H' n hv => ⟨rfl, ?_⟩) (fun _ z => z) hm)
  rw [isNone_of hn hv]
  exact hx _ F' H' n rfl
theorem evp_isNP {x : Option α} (hn : NotNon r) (h : EvP K E te Γ (tOpt r) (.ok x)) : EvP K E (tOp rIsN te (tC .non)) Γ tBool (.ok x.isNone) := evp_isN hn h
theorem evp_notNP {x : Option α} (hn : NotNon r) (h : EvP K E te Γ (tOpt r) (.ok x)) : EvP K E (tOp rNotN te (tC .non)) Γ tBool (.ok (!x.isNone)) := evp_notN hn h
theorem evp_some {m : Wp (Option α)} (h : EvP K E te Γ (tOpt r) m) : EvP K E te Γ r (m.bind Wp.get) := by
  refine evp_narrow (f := Wp.get) (fun F v x A B hv hx => ?_) h
  cases x with
  | none => exact hx.elim
  | some y => exact ⟨y, hv, hx⟩
theorem evp_someP {x : Option α} (h : EvP K E te Γ (tOpt r) (.ok x)) : EvP K E te Γ r (Wp.get x) := evp_some h
theorem nn_int : NotNon tInt := fun F v x h => by rw [show v = _ from h]; simp
theorem nn_tx : NotNon tTx := fun F v x h => by rw [h.1]; simp
class Dat (r : RT α) where
  enc : α → PyData
  dp : ∀ (K : PySem.W.Frag) {F H v x}, Ext F H → r.rel F v x → Dp K H v (enc x)
  lay : ∀ {F v x}, r.rel F v x → (enc x).canLay0 = true
  n : Nat
  dep : ∀ x, (enc x).depth ≤ n
  ok : ∀ {F v x}, r.rel F v x → Lw.dOk (n + 1) (enc x)
def Dat.same [Dat r] [DecidableEq α] : Prop := ∀ a b : α, PyData.eqv (Dat.enc r a) (Dat.enc r b) = decide (a = b)
theorem dOk_mono {n : Nat} : ∀ {m : Nat} {d : PyData}, n ≤ m → Lw.dOk n d → Lw.dOk m d := by
  induction n with
  | zero => intro m d _ h; exact h.elim
  | succ n ih =>
    intro m d hm h
    obtain ⟨m, rfl⟩ : ∃ k, m = k + 1 := ⟨m - 1, by omega⟩
    cases d with
    | list ds => exact ⟨h.1, fun e he => ih (by omega) (h.2 e he)⟩
    | tuple ds => exact ⟨h.1, fun e he => ih (by omega) (h.2 e he)⟩
    | dict ds => exact h
    | _ => trivial
instance : Dat tInt := ⟨.int, fun K F H v x e h => by rw [show v = _ from h]; exact .int x, fun _ => rfl, 0, fun _ => Nat.le_refl _, fun _ => trivial⟩
instance : Dat tBool := ⟨.bool, fun K F H v x e h => by rw [show v = _ from h]; exact .bl x, fun _ => rfl, 0, fun _ => Nat.le_refl _, fun _ => trivial⟩
instance : Dat tNon := ⟨fun _ => .none, fun K F H v x e h => by rw [show v = _ from h]; exact .non, fun _ => rfl, 0, fun _ => Nat.le_refl _, fun _ => trivial⟩
instance : Dat tTx := ⟨.str, fun K F H v x e h => by rw [h.1]; exact .str x, fun h => h.2.1, 0, fun _ => Nat.le_refl _, fun _ => trivial⟩
theorem dp_al [Dat r] (e : Ext F H) : ∀ {ws : List V} {xs : List α}, Al r F ws xs → DpAll K H ws (xs.map (Dat.enc r))
  | [], [], _ => .nil
  | _ :: _, _ :: _, h => .cons (Dat.dp K e h.1) (dp_al e h.2)
  | [], _ :: _, h => h.elim
  | _ :: _, [], h => h.elim
theorem lay_al [Dat r] : ∀ {ws : List V} {xs : List α}, Al r F ws xs → PyData.canLayAll0 (xs.map (Dat.enc r)) = true
  | [], [], _ => rfl
  | _ :: _, _ :: _, h => by show (_ && _) = true; rw [Dat.lay h.1, lay_al h.2]; rfl
  | [], _ :: _, h => h.elim
  | _ :: _, [], h => h.elim
theorem dep_map [Dat r] : ∀ {xs : List α}, PyData.depthAll (xs.map (Dat.enc r)) ≤ Dat.n r
  | [] => Nat.zero_le _
  | x :: t => Nat.max_le.mpr ⟨Dat.dep x, dep_map⟩
theorem ok_al [Dat r] : ∀ {ws : List V} {xs : List α}, Al r F ws xs → ∀ e ∈ xs.map (Dat.enc r), Lw.dOk (Dat.n r + 1) e
  | [], [], _, _, he => by cases he
  | _ :: _, _ :: _, h, e, he => by
    rcases List.mem_cons.mp he with rfl | he
    · exact Dat.ok h.1
    · exact ok_al h.2 e he
  | [], _ :: _, h, _, _ => h.elim
  | _ :: _, [], h, _, _ => h.elim
instance [Dat r] : Dat (lL r) := ⟨fun xs => .list (xs.map (Dat.enc r)), fun K F H v x e h => by
  obtain ⟨⟨a, ws, rfl, h2, h3⟩, h4⟩ := h
  exact .lst (SqL.of (e _ _ h2)) (dp_al e h3), fun h => by
  obtain ⟨⟨a, ws, rfl, h2, h3⟩, h4⟩ := h
  exact lay_al h3, Dat.n r + 1, fun x => Nat.succ_le_succ dep_map, fun {F v x} h => by
  obtain ⟨⟨a, ws, rfl, h2, h3⟩, h4⟩ := h
  exact ⟨by rw [List.length_map]; omega, ok_al h3⟩⟩
instance [Dat r] : Dat (lT r) := ⟨fun xs => .tuple (xs.map (Dat.enc r)), fun K F H v x e h => by
  obtain ⟨⟨a, ws, rfl, h2, h3⟩, h4⟩ := h
  exact .tup (SqT.of (e _ _ h2)) (dp_al e h3), fun h => by
  obtain ⟨⟨a, ws, rfl, h2, h3⟩, h4⟩ := h
  exact lay_al h3, Dat.n r + 1, fun x => Nat.succ_le_succ dep_map, fun {F v x} h => by
  obtain ⟨⟨a, ws, rfl, h2, h3⟩, h4⟩ := h
  exact ⟨by rw [List.length_map]; omega, ok_al h3⟩⟩
instance {r2 : RT β} [Dat r] [Dat r2] : Dat (tPair r r2) := ⟨fun x => .tuple [Dat.enc r x.1, Dat.enc r2 x.2], fun K F H v x e h => by
  obtain ⟨a, w, w', rfl, h2, h3, h4⟩ := h
  exact .tup (SqT.of (e _ _ h2)) (.cons (Dat.dp K e h3) (.cons (Dat.dp K e h4) .nil)), fun h => by
  obtain ⟨a, w, w', rfl, h2, h3, h4⟩ := h
  show (_ && (_ && true)) = true
  rw [Dat.lay h3, Dat.lay h4]; rfl, max (Dat.n r) (Dat.n r2) + 1, fun x => Nat.succ_le_succ (Nat.max_le.mpr ⟨Nat.le_trans (Dat.dep x.1) (Nat.le_max_left _ _), Nat.max_le.mpr ⟨Nat.le_trans (Dat.dep x.2) (Nat.le_max_right _ _), Nat.zero_le _⟩⟩), fun {F v x} h => by
  obtain ⟨a, w, w', rfl, h2, h3, h4⟩ := h
  refine ⟨by simp, fun e he => ?_⟩
  rcases List.mem_cons.mp he with rfl | he
  · exact dOk_mono (by have := Nat.le_max_left (Dat.n r) (Dat.n r2); omega) (Dat.ok h3)
  · rw [List.mem_singleton.mp he]
    exact dOk_mono (by have := Nat.le_max_right (Dat.n r) (Dat.n r2); omega) (Dat.ok h4)⟩
instance {r2 : RT β} {r3 : RT γ} [Dat r] [Dat r2] [Dat r3] : Dat (rT3 r r2 r3) := ⟨fun x => .tuple [Dat.enc r x.1, Dat.enc r2 x.2.1, Dat.enc r3 x.2.2], fun K F H v x e h => by
  obtain ⟨a, w, w', w'', rfl, h2, h3, h4, h5⟩ := h
  exact .tup (SqT.of (e _ _ h2)) (.cons (Dat.dp K e h3) (.cons (Dat.dp K e h4) (.cons (Dat.dp K e h5) .nil))), fun h => by
  obtain ⟨a, w, w', w'', rfl, h2, h3, h4, h5⟩ := h
  show (_ && (_ && (_ && true))) = true
  rw [Dat.lay h3, Dat.lay h4, Dat.lay h5]; rfl, max (Dat.n r) (max (Dat.n r2) (Dat.n r3)) + 1, fun x => Nat.succ_le_succ (Nat.max_le.mpr ⟨Nat.le_trans (Dat.dep x.1) (Nat.le_max_left _ _), Nat.max_le.mpr ⟨Nat.le_trans (Dat.dep x.2.1) (Nat.le_trans (Nat.le_max_left _ _) (Nat.le_max_right _ _)), Nat.max_le.mpr ⟨Nat.le_trans (Dat.dep x.2.2) (Nat.le_trans (Nat.le_max_right _ _) (Nat.le_max_right _ _)), Nat.zero_le _⟩⟩⟩), fun {F v x} h => by
  obtain ⟨a, w, w', w'', rfl, h2, h3, h4, h5⟩ := h
  have q1 := Nat.le_max_left (Dat.n r) (max (Dat.n r2) (Dat.n r3))
  have q2 := Nat.le_max_right (Dat.n r) (max (Dat.n r2) (Dat.n r3))
  have q3 := Nat.le_max_left (Dat.n r2) (Dat.n r3)
  have q4 := Nat.le_max_right (Dat.n r2) (Dat.n r3)
  refine ⟨by simp, fun e he => ?_⟩
  rcases List.mem_cons.mp he with rfl | he
  · exact dOk_mono (by omega) (Dat.ok h3)
  rcases List.mem_cons.mp he with rfl | he
  · exact dOk_mono (by omega) (Dat.ok h4)
  · rw [List.mem_singleton.mp he]
    exact dOk_mono (by omega) (Dat.ok h5)⟩
instance : Dat Lw.tQ := ⟨fun q => .tuple [.int q.num, .int q.den], fun K F H v x e h => Dat.dp (r := tPair tInt tInt) K (x := (x.num, (x.den : Int))) e h, fun _ => rfl, 1, fun _ => Nat.le_refl _, fun {F v x} _ => ⟨by simp, fun e he => by
  rcases List.mem_cons.mp he with rfl | he
  · trivial
  · rw [List.mem_singleton.mp he]; trivial⟩⟩
end
class DatE {α : Type} (r : RT α) [Dat r] [DecidableEq α] : Prop where
  same : ∀ a b : α, PyData.eqv (Dat.enc r a) (Dat.enc r b) = decide (a = b)
section
variable {α β γ : Type} [DecidableEq α] [DecidableEq β] [DecidableEq γ] {r : RT α} {r2 : RT β} {r3 : RT γ}
instance : DatE tInt := ⟨fun a b => by show (a == b) = _; rw [Bool.beq_eq_decide_eq]⟩
instance : DatE tBool := ⟨fun a b => by show (a == b) = _; rw [Bool.beq_eq_decide_eq]⟩
instance : DatE tTx := ⟨fun a b => by show (a == b) = _; rw [Bool.beq_eq_decide_eq]⟩
theorem eqvAll_map [Dat r] [DatE r] : ∀ xs ys : List α, PyData.eqvAll (xs.map (Dat.enc r)) (ys.map (Dat.enc r)) = decide (xs = ys)
  | [], [] => by simp [PyData.eqvAll]
  | [], _ :: _ => by simp [PyData.eqvAll]
  | _ :: _, [] => by simp [PyData.eqvAll]
  | x :: xs, y :: ys => by
    show (_ && _) = _
    rw [eqvAll_map xs ys, DatE.same x y]
    simp
instance [Dat r] [DatE r] : DatE (lL r) := ⟨fun a b => eqvAll_map a b⟩
instance [Dat r] [DatE r] : DatE (lT r) := ⟨fun a b => eqvAll_map a b⟩
instance [Dat r] [DatE r] [Dat r2] [DatE r2] : DatE (tPair r r2) := ⟨fun a b => by
  show (_ && (_ && true)) = _
  rw [DatE.same a.1 b.1, DatE.same a.2 b.2, Bool.and_true]
  obtain ⟨a1, a2⟩ := a
  obtain ⟨b1, b2⟩ := b
  simp⟩
instance [Dat r] [DatE r] [Dat r2] [DatE r2] [Dat r3] [DatE r3] : DatE (rT3 r r2 r3) := ⟨fun a b => by
  show (_ && (_ && (_ && true))) = _
  rw [DatE.same a.1 b.1, DatE.same a.2.1 b.2.1, DatE.same a.2.2 b.2.2, Bool.and_true]
  obtain ⟨a1, a2, a3⟩ := a
  obtain ⟨b1, b2, b3⟩ := b
  simp⟩
instance : DatE Lw.tQ := ⟨fun a b => Lw.eqv_pair a b⟩
end
end L2.My
namespace L2.My
open PySem PySem.Spec PyProof.Rows L2
section
variable {α β γ δ ι κ : Type} {K : PySem.W.Frag} {E : ZK K} {te ta tb : TE} {tt tu : TT} {tr : TA} {tl th : TO} {Γ : List Cn} {r r' : RT α} {F H F' H' F1 H1 : Hp}
theorem al_atI {ws : List V} {xs : List α} {i : Int} {b : α} (al : Al r F ws xs) (h : atI xs i = some b) : ∃ v, atI ws i = some v ∧ r.rel F v b := by
  unfold atI at h ⊢
  rw [← al.length] at h
  cases q : ixN ws.length i with
  | none => rw [q] at h; cases h
  | some j =>
    rw [q] at h
    exact al.get' h
theorem wpget {o : Option α} {A : α → Prop} {B : Err → Prop} (h : (Wp.get o).run A B) : ∃ x, o = some x ∧ A x := by
  cases o with
  | none => exact h.elim
  | some x => exact ⟨x, rfl, h⟩
theorem opv_ixT : OpV K E (rIxT K) (lT r) tInt r fun xs i => Wp.get (atI xs i) := by
  rintro F H v w a b Q σ e ⟨⟨p, ws, rfl, h2, al⟩, hl⟩ rfl hm
  obtain ⟨x, hx, hm⟩ := wpget hm
  obtain ⟨u, h3, h4⟩ := al_atI al hx
  exact ⟨p, ws, b, u, rfl, rfl, SqT.of (e _ _ h2), h3, hm u F H (Nx.refl e) h4⟩
def IxOf (r : RT α) (i : Int) (r' : RT β) (f : α → β) : Prop := ∀ F v x, r.rel F v x → ∃ p ws u, v = .ref p ∧ F p = some (.tup ws) ∧ atI ws i = some u ∧ r'.rel F u (f x)
def mkQ (x : Int × Int) : Wp Rat := .req (0 < x.2 ∧ Int.gcd x.1 x.2 = 1) (.ok (Rat.divInt x.1 x.2))
theorem disp2 {r2 : RT β} : ∀ F vs x p, (raC r (raC r2 raN)).rel F vs x → F p = some (.tup vs) → (tPair r r2).rel F (.ref p) (x.1, x.2.1) := by
  rintro F vs x p ⟨v, ws, rfl, h1, w, us, rfl, h2, h3⟩ hp
  rw [show us = [] from h3] at hp
  exact ⟨p, v, w, rfl, hp, h1, h2⟩
theorem len2 {r2 : RT β} : ∀ F vs x, (raC r (raC r2 raN)).rel F vs x → vs.length ≤ sizeLine := by
  rintro F vs x ⟨v, ws, rfl, h1, w, us, rfl, h2, h3⟩
  rw [show us = [] from h3]; show 2 ≤ sizeLine; decide
theorem len3 {r2 : RT β} {r3 : RT γ} : ∀ F vs x, (raC r (raC r2 (raC r3 raN))).rel F vs x → vs.length ≤ sizeLine := by
  rintro F vs x ⟨v, ws, rfl, h1, w, us, rfl, h2, u, ts, rfl, h3, h4⟩
  rw [show ts = [] from h4]; show 3 ≤ sizeLine; decide
structure AllR (ra : RA β) (r : RT α) (f : β → List α) (n : Nat) : Prop where
  al : ∀ F vs x, ra.rel F vs x → Al r F vs (f x)
  len : ∀ x, (f x).length = n
theorem allN : AllR raN r (fun _ => []) 0 := ⟨fun F vs x h => by rw [show vs = [] from h]; trivial, fun _ => rfl⟩
theorem allC {ra : RA β} {f : β → List α} {n : Nat} (h : AllR ra r f n) : AllR (raC r ra) r (fun x => x.1 :: f x.2) (n + 1) := ⟨fun F vs x hx => by
  obtain ⟨v, ws, rfl, h1, h2⟩ := hx
  exact ⟨h1, h.al _ _ _ h2⟩, fun x => by rw [List.length_cons, h.len]⟩
theorem disp_lT {ra : RA β} {f : β → List α} {n : Nat} (h : AllR ra r f n) (hn : n ≤ 1000 := by decide) : ∀ F vs x p, ra.rel F vs x → F p = some (.tup vs) → (lT r).rel F (.ref p) (f x) := fun F vs x p hx hp => ⟨⟨p, vs, rfl, hp, h.al _ _ _ hx⟩, by rw [h.len]; omega⟩
theorem len_lT {ra : RA β} {f : β → List α} {n : Nat} (h : AllR ra r f n) (hn : n ≤ 1000 := by decide) : ∀ F vs x, ra.rel F vs x → vs.length ≤ sizeLine := fun F vs x hx => by rw [(h.al _ _ _ hx).length, h.len, sizeLine_eq]; omega
theorem evn_lst {ra : RA β} {f : β → List α} {n : Nat} {m : Wp β} (h : AllR ra r f n) (ha : EvA K E tr Γ ra m) (hn : n ≤ 1000 := by decide) : EvN K E (tLst tr) Γ (mL r) (m.bind fun x => .ok (f x)) := by
  intro F H σ fps Q e hol hm
  refine ha F H σ fps _ e hol (m.mono (fun x hm => ?_) (fun _ z => z) hm)
  intro vs F1 H1 n1 hv
  have al := h.al _ _ _ hv
  refine ⟨by rw [al.length, h.len, sizeLine_eq]; omega, fun p hp => ?_⟩
  exact hm _ F1 _ [p] (n1.trans (Nx.open_ n1.fh hp)) (fun a ha => by rw [List.mem_singleton.mp ha]; exact n1.free hp) ⟨p, vs, rfl, rfl, upd_same, ext_none n1.fh hp, al, by rw [h.len]; omega⟩
theorem evn_lstP {ra : RA β} {f : β → List α} {n : Nat} {x : β} (h : AllR ra r f n) {m : Wp (List α)} (ha : EvA K E tr Γ ra (.ok x)) (hn : n ≤ 1000 := by decide) (e : Wp.ok (f x) = m := by rfl) : EvN K E (tLst tr) Γ (mL r) m := e ▸ evn_lst h ha hn
def OpN (K : PySem.W.Frag) (E : ZK K) (o : R2) (r1 : RT α) (r2 : RT β) (r3 : RT γ) (f : α → β → Wp (List γ)) : Prop :=
  ∀ F H v w a b Q (_σ : L2.St), Ext F H → r1.rel F v a → r2.rel F w b → (f a b).run (fun ys => ∀ p ws, H p = none → Al r3 F ws ys → ys.length ≤ 16777215 → Q (.ref p) (upd H p (.lst ws))) (E.B [] F H) → o v w H Q
theorem Nk.new {Q : VK} {ys : List α} (e : Nx [] F H F1 H1) (h : Nk F H r Q ys) : ∀ p ws, H1 p = none → Al r F1 ws ys → ys.length ≤ 16777215 → Q (.ref p) (upd H1 p (.lst ws)) := fun p ws hp al hl =>
  h _ F1 _ [p] (e.trans (Nx.open_ e.fh hp)) (fun a ha => by rw [List.mem_singleton.mp ha]; exact e.free hp) ⟨p, ws, rfl, rfl, upd_same, ext_none e.fh hp, al, hl⟩
theorem evn_op {o : R2} {r1 : RT α} {r2 : RT β} {r3 : RT γ} {f : α → β → Wp (List γ)} {ma : Wp α} {mb : Wp β} (h : OpN K E o r1 r2 r3 f) (ha : EvP K E ta Γ r1 ma) (hb : EvP K E tb Γ r2 mb) : EvN K E (tOp o ta tb) Γ (mL r3) (ma.bind fun a => mb.bind fun b => f a b) := by
  intro F H σ fps Q e hol hm
  refine ha F H σ fps _ e hol (ma.mono (fun a hm => ?_) (fun _ z => z) hm)
  intro v F1 H1 n1 hv
  refine hb F1 H1 σ fps _ n1.fh (hol.nx n1) (mb.mono (fun b hm => ?_) (fun _ => E.st n1) hm)
  intro w F2 H2 n2 hw
  exact h F2 H2 v w a b Q σ n2.fh (r1.mono n2.ff hv) hw ((f a b).mono (fun _ h => Nk.new (n1.trans n2) h) (fun _ => E.st (n1.trans n2)) hm)
theorem evn_opP {o : R2} {r1 : RT α} {r2 : RT β} {r3 : RT γ} {f : α → β → Wp (List γ)} {a : α} {b : β} (h : OpN K E o r1 r2 r3 f) (ha : EvP K E ta Γ r1 (.ok a)) {m : Wp (List γ)} (hb : EvP K E tb Γ r2 (.ok b)) (e : f a b = m := by rfl) : EvN K E (tOp o ta tb) Γ (mL r3) m := e ▸ evn_op h ha hb
def catW (xs ys : List α) : Wp (List α) := .req (xs.length + ys.length ≤ 16777215) (.ok (xs ++ ys))
def repL (xs : List α) (k : Int) : List α := (List.replicate k.toNat xs).flatten
def repW (xs : List α) (k : Int) : Wp (List α) := .req (-(2 ^ 63) ≤ k ∧ k < 2 ^ 63 ∧ xs.length * k.toNat ≤ 16777215) (.ok (repL xs k))
theorem repL_one (x : α) (k : Int) : repL [x] k = List.replicate k.toNat x := by
  unfold repL
  induction k.toNat with
  | zero => rfl
  | succ n ih => rw [List.replicate_succ, List.flatten_cons, ih]; rfl
theorem repL_len (xs : List α) (k : Int) : (repL xs k).length = xs.length * k.toNat := by
  unfold repL
  rw [List.length_flatten, List.map_replicate, List.sum_replicate_nat, Nat.mul_comm]
theorem opn_cat : OpN K E rCat (lL r) (lL r) r catW := by
  rintro F H v w a b Q σ e ⟨⟨p, ws, rfl, h2, al⟩, hl⟩ ⟨⟨q, us, rfl, h3, bl⟩, hl'⟩ hm
  have hm1 : a.length + b.length ≤ 16777215 := hm.1
  exact ⟨p, q, ws, us, rfl, rfl, e _ _ h2, e _ _ h3, by rw [al.length, bl.length, sizeLine_eq]; omega, fun t ht => hm.2 t _ ht (al.app bl) (by rw [List.length_append]; exact hm1)⟩
theorem al_rep {ws : List V} {xs : List α} (al : Al r F ws xs) : ∀ n : Nat, Al r F (List.replicate n ws).flatten (List.replicate n xs).flatten
  | 0 => trivial
  | n + 1 => by rw [List.replicate_succ, List.replicate_succ, List.flatten_cons, List.flatten_cons]; exact al.app (al_rep al n)
theorem opn_rep : OpN K E rRep (lL r) tInt r repW := by
  rintro F H v w a b Q σ e ⟨⟨p, ws, rfl, h2, al⟩, hl⟩ rfl hm
  obtain ⟨⟨h3, h4, h5⟩, hm⟩ := hm
  exact ⟨p, b, ws, rfl, rfl, e _ _ h2, h3, h4, by rw [al.length, sizeLine_eq]; omega, fun t ht => hm t _ ht (al_rep al _) (by rw [repL_len]; exact h5)⟩
theorem seq_lL : ∀ F v (x : List α), (lL r).rel F v x → (lS r).rel F v x := fun F v x h => by
  obtain ⟨⟨p, us, rfl, h2, al⟩, hl⟩ := h
  exact ⟨⟨p, us, rfl, .inl h2, al⟩, hl⟩
theorem seq_lT : ∀ F v (x : List α), (lT r).rel F v x → (lS r).rel F v x := fun F v x h => by
  obtain ⟨⟨p, us, rfl, h2, al⟩, hl⟩ := h
  exact ⟨⟨p, us, rfl, .inr h2, al⟩, hl⟩
def EvO (K : PySem.W.Frag) (E : ZK K) (t : TO) (Γ : List Cn) (m : Wp (Option Int)) : Prop :=
  ∀ F H σ fps (Q : Option Int → Hp → Prop), Ext F H → Hol Γ F H fps σ → m.run (fun x => ∀ F' H', Nx [] F H F' H' → Q x H') (E.B [] F H) → t σ H Q
theorem evo_none : EvO K E tNoPart Γ (.ok none) := fun F H σ fps Q e hol hm => hm F H (Nx.refl e)
theorem evo_some {m : Wp Int} (h : EvP K E te Γ tInt m) : EvO K E (tPart te) Γ (m.bind fun i => .ok (some i)) := by
  intro F H σ fps Q e hol hm
  exact h F H σ fps _ e hol (m.mono (fun x hx v F' H' n hv => ⟨x, hv, hx F' H' n⟩) (fun _ z => z) hm)
theorem evo_someP {i : Int} (h : EvP K E te Γ tInt (.ok i)) : EvO K E (tPart te) Γ (.ok (some i)) := evo_some h
theorem evn_slL {m : Wp (List α)} {ml mh : Wp (Option Int)} (h : EvP K E te Γ (lL r) m) (hl : EvO K E tl Γ ml) (hh : EvO K E th Γ mh) : EvN K E (tSl (rSlL K) te tl th) Γ (mL r) (m.bind fun x => ml.bind fun lo => mh.bind fun hi => .ok (cutL x lo hi)) := by
  intro F H σ fps Q e hol hm
  refine h F H σ fps _ e hol (m.mono (fun x hm => ?_) (fun _ z => z) hm)
  rintro v F1 H1 n1 hv
  refine hl F1 H1 σ fps _ n1.fh (hol.nx n1) (ml.mono (fun lo hm F2 H2 n2 => ?_) (fun _ => E.st n1) hm)
  have n12 := n1.trans n2
  refine hh F2 H2 σ fps _ n2.fh (hol.nx n12) (mh.mono (fun hi hm F3 H3 n3 => ?_) (fun _ => E.st n12) hm)
  have n13 := n12.trans n3
  obtain ⟨⟨p, us, rfl, h2, al⟩, hle⟩ := (lL r).mono (n2.trans n3).ff hv
  have hc : (cutL x lo hi).length ≤ x.length := by
    unfold cutL
    rw [List.length_take, List.length_drop]; omega
  exact ⟨p, us, rfl, SqL.of (n3.fh _ _ h2), fun q hq => Nk.new n13 hm q _ hq al.cut (by omega)⟩
theorem evn_slLP {x : List α} {lo hi : Option Int} (h : EvP K E te Γ (lL r) (.ok x)) (hl : EvO K E tl Γ (.ok lo)) (hh : EvO K E th Γ (.ok hi)) : EvN K E (tSl (rSlL K) te tl th) Γ (mL r) (.ok (cutL x lo hi)) := evn_slL h hl hh
theorem evp_slT {m : Wp (List α)} {ml mh : Wp (Option Int)} (h : EvP K E te Γ (lT r) m) (hl : EvO K E tl Γ ml) (hh : EvO K E th Γ mh) : EvP K E (tSl (rSlA K) te tl th) Γ (lT r) (m.bind fun x => ml.bind fun lo => mh.bind fun hi => .ok (cutL x lo hi)) := by
  intro F H σ fps Q e hol hm
  refine h F H σ fps _ e hol (m.mono (fun x hm => ?_) (fun _ z => z) hm)
  rintro v F1 H1 n1 hv
  refine hl F1 H1 σ fps _ n1.fh (hol.nx n1) (ml.mono (fun lo hm F2 H2 n2 => ?_) (fun _ => E.st n1) hm)
  have n12 := n1.trans n2
  refine hh F2 H2 σ fps _ n2.fh (hol.nx n12) (mh.mono (fun hi hm F3 H3 n3 => ?_) (fun _ => E.st n12) hm)
  have n13 := n12.trans n3
  obtain ⟨⟨p, us, rfl, h2, al⟩, hle⟩ := (lT r).mono (n2.trans n3).ff hv
  have hc : (cutL x lo hi).length ≤ x.length := by
    unfold cutL
    rw [List.length_take, List.length_drop]; omega
  refine ⟨p, us, rfl, SqT.of (n3.fh _ _ h2), fun hw => ?_, fun hw q hq => ?_⟩
  · have e1 : cutL x lo hi = x := by
      have hl' := al.length
      rw [hl'] at hw
      unfold cutL
      rw [hw.1, hw.2]; simp
    refine hm _ F3 H3 n13 ?_
    rw [e1]
    exact ⟨⟨p, us, rfl, h2, al⟩, hle⟩
  · have n4 : Nx [] F3 H3 (upd F3 q (.tup (cutV us lo hi))) (upd H3 q (.tup (cutV us lo hi))) := Nx.new n3.fh hq
    exact hm _ _ _ (n13.trans n4) ⟨⟨q, _, rfl, upd_same, al.cut.mono (Ext.upd (ext_none n3.fh hq))⟩, by omega⟩
theorem evp_CB {ra : RA α} {r : RT β} {f : α → Wp β} {m : Wp α} {o : List V → Hp → VK → Prop} (h : CalV K E (fun vs _ H Q => o vs H Q) ra r f) (ha : EvA K E tr Γ ra m) : EvP K E (tCB o tr) Γ r (m.bind f) := evp_cal (fun _ _ _ z => z) h ha
theorem evp_CBP {ra : RA α} {r : RT β} {f : α → Wp β} {x : α} {o : List V → Hp → VK → Prop} (h : CalV K E (fun vs _ H Q => o vs H Q) ra r f) {m : Wp β} (ha : EvA K E tr Γ ra (.ok x)) (e : f x = m := by rfl) : EvP K E (tCB o tr) Γ r m := e ▸ evp_CB h ha
theorem cb_len : CalV K E (fun vs _ H Q => rLenS K vs H Q) (raC (lS r) raN) tInt fun x => .ok (x.1.length : Nat) := by
  rintro F H vs x Q σ e ⟨v, ws, rfl, ⟨⟨p, us, rfl, h2, al⟩, hl⟩, h3⟩ hm
  refine ⟨p, us, by rw [show ws = [] from h3], h2.imp (fun z => SqL.of (e _ _ z)) (fun z => SqT.of (e _ _ z)), ?_⟩
  rw [al.length]
  exact hm _ F H (Nx.refl e) rfl
theorem cb_tupOf : CalV K E (fun vs _ H Q => rTupOf K vs H Q) (raC (lS r) raN) (lT r) fun x => .ok x.1 := by
  rintro F H vs x Q σ e ⟨v, ws, rfl, ⟨⟨p, us, rfl, h2, al⟩, hl⟩, h3⟩ hm
  refine ⟨p, us, by rw [show ws = [] from h3], ?_⟩
  rcases h2 with h2 | h2
  · exact .inl ⟨SqL.of (e _ _ h2), fun l hl' => hm _ _ _ (Nx.new e hl') ⟨⟨l, us, rfl, upd_same, al.mono (Ext.upd (ext_none e hl'))⟩, hl⟩⟩
  · exact .inr ⟨SqT.of (e _ _ h2), hm _ F H (Nx.refl e) ⟨⟨p, us, rfl, h2, al⟩, hl⟩⟩
theorem cb_all : CalV K E (fun vs _ H Q => rAll K vs H Q) (raC (lL tBool) raN) tBool fun x => .ok (x.1.all id) := by
  rintro F H vs x Q σ e ⟨v, ws, rfl, ⟨⟨p, us, rfl, h2, al⟩, hl⟩, h3⟩ hm
  exact ⟨p, x.1, by rw [show ws = [] from h3], SqL.of (by rw [e _ _ h2, al_bool al]), hm _ F H (Nx.refl e) rfl⟩
theorem cb_intB : CalV K E (fun xs _ H Q => (∃ i, xs = [.int i] ∧ Q (.int i) H) ∨ ∃ k, xs = [.bl k] ∧ Q (.int (if k then 1 else 0)) H) (raC tBool raN) tInt fun x => .ok (if x.1 = true then 1 else 0) := by
  rintro F H vs x Q σ e ⟨v, ws, rfl, rfl, h3⟩ hm
  exact .inr ⟨x.1, by rw [show ws = [] from h3], hm _ F H (Nx.refl e) rfl⟩
end
end L2.My
namespace L2.My
open PySem PySem.Spec PyProof.Rows L2
section
variable {α β γ δ ι κ σt S S' L R : Type} {K : PySem.W.Frag} {E : ZK K} {te ta tb : TE} {tt tu : TT} {tr : TA} {ts tw tuS : TS} {Γ : List Cn} {r : RT α} {F H F' H' F1 H1 : Hp} {i : Nat} {mt : MT σt} {M M1 : List Addr}
def Ks (F H : Hp) (fps : List (List Addr)) (σ : L2.St) (Γ : List Cn) (i : Nat) (mt : MT σt) (r : RT α) (Q : VK) : α × σt → Prop :=
  fun y => ∀ v F' H' fps', Stp fps.flatten F H fps'.flatten F' H' → Hol (Cn.put Γ i (.mut mt y.2)) F' H' fps' σ → r.rel F' v y.1 → Q v H'
def EvS (K : PySem.W.Frag) (E : ZK K) (te : TE) (Γ : List Cn) (i : Nat) (mt : MT σt) (r : RT α) (m : Wp (α × σt)) : Prop :=
  ∀ F H σ fps Q, Ext F H → Hol Γ F H fps σ → m.run (Ks F H fps σ Γ i mt r Q) (E.B fps.flatten F H) → te σ H Q
def EvSA (K : PySem.W.Frag) (E : ZK K) (ta : TA) (Γ : List Cn) (i : Nat) (mt : MT σt) (ra : RA α) (m : Wp (α × σt)) : Prop :=
  ∀ F H σ fps (Q : List V → Hp → Prop), Ext F H → Hol Γ F H fps σ → m.run (fun y => ∀ vs F' H' fps', Stp fps.flatten F H fps'.flatten F' H' → Hol (Cn.put Γ i (.mut mt y.2)) F' H' fps' σ → ra.rel F' vs y.1 → Q vs H') (E.B fps.flatten F H) → ta σ H Q
def EvST (K : PySem.W.Frag) (E : ZK K) (tt : TT) (Γ : List Cn) (i : Nat) (mt : MT σt) (m : Wp (Bool × σt)) : Prop :=
  ∀ F H σ fps (Q : Bool → Hp → Prop), Ext F H → Hol Γ F H fps σ → m.run (fun y => ∀ F' H' fps', Stp fps.flatten F H fps'.flatten F' H' → Hol (Cn.put Γ i (.mut mt y.2)) F' H' fps' σ → Q y.1 H') (E.B fps.flatten F H) → tt σ H Q
theorem Cn.put_get {c : Cn} : ∀ {Γ : List Cn} {i : Nat}, Cn.get Γ i = some c → Cn.put Γ i c = Γ
  | [], _, h => by cases h
  | _ :: _, 0, h => by cases h; rfl
  | c0 :: Γ, i + 1, h => by rw [Cn.put, Cn.put_get (i := i) h]
theorem Cn.put_put {c c' : Cn} : ∀ {Γ : List Cn} {i : Nat}, Cn.put (Cn.put Γ i c) i c' = Cn.put Γ i c'
  | [], _ => rfl
  | _ :: _, 0 => rfl
  | c0 :: Γ, i + 1 => by show c0 :: Cn.put (Cn.put Γ i c) i c' = c0 :: Cn.put Γ i c'; rw [Cn.put_put]
theorem Cn.get_put {c : Cn} : ∀ {Γ : List Cn} {i : Nat}, i < Γ.length → Cn.get (Cn.put Γ i c) i = some c
  | [], _, h => by simp at h
  | _ :: _, 0, _ => rfl
  | _ :: Γ, i + 1, h => Cn.get_put (Γ := Γ) (i := i) (by simpa using h)
theorem evs_of {s : σt} {m : Wp α} (hi : Cn.get Γ i = some (.mut mt s)) (h : EvP K E te Γ r m) : EvS K E te Γ i mt r (m.bind fun x => .ok (x, s)) := by
  intro F H σ fps Q e hol hm
  refine h F H σ fps _ e hol (m.mono (fun x hx v F' H' n hv => ?_) (fun _ => E.down e) hm)
  exact hx v F' H' fps (stp_nx n) (by rw [Cn.put_get hi]; exact hol.nx n) hv
theorem evs_ofP {s : σt} {x : α} (hi : Cn.get Γ i = some (.mut mt s)) (h : EvP K E te Γ r (.ok x)) : EvS K E te Γ i mt r (.ok (x, s)) := evs_of hi h
theorem Ks.step {Q : VK} {fps fps1 : List (List Addr)} {σ : L2.St} {s : σt} {y : α × σt} (st : Stp fps.flatten F H fps1.flatten F1 H1) (h : Ks F H fps σ Γ i mt r Q y) : Ks F1 H1 fps1 σ (Cn.put Γ i (.mut mt s)) i mt r Q y := by
  intro v F' H' fps' st' hol hv
  rw [Cn.put_put] at hol
  exact h v F' H' fps' (st.trans st') hol hv
theorem evs_op {o : R2} {r1 : RT α} {r2 : RT β} {r3 : RT γ} {f : α → β → Wp γ} {ma : Wp (α × σt)} {mb : σt → Wp (β × σt)} (h : OpV K E o r1 r2 r3 f) (ha : EvS K E ta Γ i mt r1 ma) (hb : ∀ s, EvS K E tb (Cn.put Γ i (.mut mt s)) i mt r2 (mb s)) :
    EvS K E (tOp o ta tb) Γ i mt r3 (ma.bind fun a => (mb a.2).bind fun b => (f a.1 b.1).bind fun c => .ok (c, b.2)) := by
  intro F H σ fps Q e hol hm
  refine ha F H σ fps _ e hol (ma.mono (fun a hm => ?_) (fun _ z => z) hm)
  intro v F1 H1 fps1 s1 hol1 hv
  refine hb a.2 F1 H1 σ fps1 _ s1.fh hol1 ((mb a.2).mono (fun b hm => ?_) (fun _ => E.step s1) hm)
  intro w F2 H2 fps2 s2 hol2 hw
  rw [Cn.put_put] at hol2
  have s12 := s1.trans s2
  refine h F2 H2 v w a.1 b.1 Q σ s2.fh (r1.mono s2.ff hv) hw ((f a.1 b.1).mono (fun c hc => ?_) (fun _ z => E.down s12.fh (E.step s12 z)) hm)
  intro u F3 H3 n3 hu
  exact hc u F3 H3 fps2 (s12.trans (stp_nx n3)) (hol2.nx n3) hu
theorem evsa_nil {s : σt} (hi : Cn.get Γ i = some (.mut mt s)) : EvSA K E tNil Γ i mt raN (.ok ((), s)) := fun F H σ fps Q e hol hm => hm _ F H fps (Stp.refl e fun _ z => z) (by rw [Cn.put_get hi]; exact hol) rfl
theorem evsa_cons {ra : RA β} {ma : Wp (α × σt)} {mb : σt → Wp (β × σt)} (ha : EvS K E ta Γ i mt r ma) (hb : ∀ s, EvSA K E tr (Cn.put Γ i (.mut mt s)) i mt ra (mb s)) : EvSA K E (tCons ta tr) Γ i mt (raC r ra) (ma.bind fun a => (mb a.2).bind fun b => .ok ((a.1, b.1), b.2)) := by
  intro F H σ fps Q e hol hm
  refine ha F H σ fps _ e hol (ma.mono (fun a hm => ?_) (fun _ z => z) hm)
  intro v F1 H1 fps1 s1 hol1 hv
  refine hb a.2 F1 H1 σ fps1 _ s1.fh hol1 ((mb a.2).mono (fun b hm => ?_) (fun _ => E.step s1) hm)
  intro vs F2 H2 fps2 s2 hol2 hw
  rw [Cn.put_put] at hol2
  exact hm (v :: vs) F2 H2 fps2 (s1.trans s2) hol2 ⟨v, vs, rfl, r.mono s2.ff hv, hw⟩
theorem evs_tup {ra : RA β} {r : RT γ} {f : β → γ} {m : Wp (β × σt)} (hf : ∀ F vs x p, ra.rel F vs x → F p = some (.tup vs) → r.rel F (.ref p) (f x)) (hl : ∀ F vs x, ra.rel F vs x → vs.length ≤ sizeLine) (ha : EvSA K E tr Γ i mt ra m) : EvS K E (tTup tr) Γ i mt r (m.bind fun x => .ok (f x.1, x.2)) := by
  intro F H σ fps Q e hol hm
  refine ha F H σ fps _ e hol (m.mono (fun x hm => ?_) (fun _ z => z) hm)
  intro vs F1 H1 fps1 s1 hol1 hv
  refine ⟨hl _ _ _ hv, fun p hp => ?_⟩
  have n2 : Nx [] F1 H1 (upd F1 p (.tup vs)) (upd H1 p (.tup vs)) := Nx.new s1.fh hp
  exact hm _ _ _ fps1 (s1.trans (stp_nx n2)) (hol1.nx n2) (hf _ _ _ _ (ra.mono n2.ff hv) upd_same)
theorem evst_test {m : Wp (Bool × σt)} (h : EvS K E te Γ i mt tBool m) : EvST K E (tTest te) Γ i mt m := by
  intro F H σ fps Q e hol hm
  exact h F H σ fps _ e hol (m.mono (fun b hb v F' H' fps' s' hol' hv => ⟨b.1, hv, hb F' H' fps' s' hol'⟩) (fun _ z => z) hm)
theorem evst_of {s : σt} {m : Wp Bool} (hi : Cn.get Γ i = some (.mut mt s)) (h : EvT K E tt Γ m) : EvST K E tt Γ i mt (m.bind fun b => .ok (b, s)) := by
  intro F H σ fps Q e hol hm
  exact h F H σ fps _ e hol (m.mono (fun b hb F' H' n => hb F' H' fps (stp_nx n) (by rw [Cn.put_get hi]; exact hol.nx n)) (fun _ => E.down e) hm)
theorem evst_ofP {s : σt} {b : Bool} (hi : Cn.get Γ i = some (.mut mt s)) (h : EvT K E tt Γ (.ok b)) : EvST K E tt Γ i mt (.ok (b, s)) := evst_of hi h
theorem evst_and {m : Wp (Bool × σt)} {m' : σt → Wp (Bool × σt)} (h : EvST K E tt Γ i mt m) (h' : ∀ s, EvST K E tu (Cn.put Γ i (.mut mt s)) i mt (m' s)) : EvST K E (tAnd tt tu) Γ i mt (m.bind fun b => if b.1 = true then m' b.2 else .ok (false, b.2)) := by
  intro F H σ fps Q e hol hm
  refine h F H σ fps _ e hol (m.mono (fun b hb F' H' fps' s' hol' => ?_) (fun _ z => z) hm)
  obtain ⟨b, s⟩ := b
  cases b with
  | true => exact h' s F' H' σ fps' _ s'.fh hol' ((m' s).mono (fun b hb F2 H2 fps2 s2 hol2 => hb F2 H2 fps2 (s'.trans s2) (by rw [Cn.put_put] at hol2; exact hol2)) (fun _ => E.step s') hb)
  | false => exact hb F' H' fps' s' hol'
def spS (K : PySem.W.Frag) (mt : MT σt) (ra : RA α) (r : RT β) (f : σt → α → Wp (β × σt)) : Sp := fun vs H Q E => ∃ F v ws fp s x, vs = v :: ws ∧ Ext F H ∧ mt.rel F H fp v s ∧ ra.rel F ws x ∧
  (f s x).run (fun y => ∀ u F' H' fp', Stp fp F H fp' F' H' → mt.rel F' H' fp' v y.2 → r.rel F' u y.1 → Q u H') (Es K E fp F H)
theorem set_self {σ : L2.St} {o : Option V} (h : σ[i]? = some o) : σ.set i o = σ := by
  refine List.ext_getElem? fun j => ?_
  rw [List.getElem?_set]
  by_cases c : i = j
  · subst c
    rw [if_pos rfl, h, if_pos (List.getElem?_eq_some_iff.mp h).1]
  · rw [if_neg c]
theorem Hol.upd {c : Cn} {fps : List (List Addr)} {σ : L2.St} {fp fp' : List Addr} {o : Option V} (hol : Hol Γ F H fps σ) (h1 : fps[i]? = some fp) (h2 : σ[i]? = some o) (st : Stp fp F H fp' F' H') (hc : c.rel F' H' fp' o) :
    Stp fps.flatten F H (fps.set i fp').flatten F' H' ∧ Hol (Cn.put Γ i c) F' H' (fps.set i fp') σ := by
  have h := Hol.put hol st.n h1 (fun _ z => z) hc st.new
  rw [set_self h2] at h
  refine ⟨⟨st.n.weak fun a ha => List.mem_flatten.mpr ⟨fp, List.mem_of_getElem? h1, ha⟩, fun a ha => ?_⟩, h⟩
  rcases flat_set a ha with z | z
  · rcases st.new a z with y | y
    · exact .inl (List.mem_flatten.mpr ⟨fp, List.mem_of_getElem? h1, y⟩)
    · exact .inr y
  · exact .inl z
structure MtLe (m' mt : MT σt) : Prop where
  to : ∀ {F H fp v s}, m'.rel F H fp v s → mt.rel F H fp v s
  back : ∀ {F H fp v s F' H' fp' s'}, m'.rel F H fp v s → mt.rel F' H' fp' v s' → m'.rel F' H' fp' v s'
theorem MtLe.refl (mt : MT σt) : MtLe mt mt := ⟨fun h => h, fun _ h => h⟩
def MT.pin (mt : MT σt) (p : V) : MT σt := ⟨fun F H fp v s => v = p ∧ mt.rel F H fp v s, fun h => mt.dom h.2, fun h n hM => ⟨h.1, mt.frame h.2 n hM⟩⟩
theorem MtLe.pin (mt : MT σt) (p : V) : MtLe (mt.pin p) mt := ⟨fun h => h.2, fun h h' => ⟨h.1, h'⟩⟩
theorem evs_callS {m' : MT σt} {s : σt} (hle : MtLe m' mt) {ra : RA α} {r : RT β} {f : σt → α → Wp (β × σt)} {m : Wp (α × σt)} (hi : Cn.get Γ i = some (.mut m' s)) (ha : EvSA K E tr Γ i m' ra m) : EvS K E (tCall (spS K mt ra r f) [] E.X (tCons (tVar i) tr)) Γ i m' r (m.bind fun a => f a.2 a.1) := by
  intro F H σ fps Q e hol hm
  obtain ⟨fp, o, h1, h2, v, rfl, h3⟩ := hol.get hi
  refine ⟨v, h2, ha F H σ fps _ e hol (m.mono (fun a hm => ?_) (fun _ z => z) hm)⟩
  intro vs F1 H1 fps1 s1 hol1 hv
  have hlt : i < Γ.length := by
    have := (List.getElem?_eq_some_iff.mp h1).1
    rw [← hol.len.1] at this
    exact this
  have hget : Cn.get (Cn.put Γ i (.mut m' a.2)) i = some (.mut m' a.2) := Cn.get_put (by assumption)
  obtain ⟨fp1, o1, q1, q2, v1, rfl, q3⟩ := hol1.get hget
  rw [h2] at q2
  cases q2
  refine ⟨F1, v, vs, fp1, a.2, a.1, by rw [List.append_nil], s1.fh, hle.to q3, hv, (f a.2 a.1).mono (fun y hy => ?_) (fun _ he => ?_) hm⟩
  · intro u F2 H2 fp2 s2 hs hu
    obtain ⟨s3, hol3⟩ := hol1.upd (c := .mut m' y.2) q1 h2 s2 ⟨v, rfl, hle.back q3 hs⟩
    rw [Cn.put_put] at hol3
    exact hy u F2 H2 _ (s1.trans s3) hol3 hu
  · intro cls d F2 H2 M2 s2 he'
    have w : Stp fps1.flatten F1 H1 [] F2 H2 := ⟨s2.n.weak fun b hb => List.mem_flatten.mpr ⟨fp1, List.mem_of_getElem? q1, hb⟩, by simp⟩
    exact E.es he e cls d F2 H2 [] (s1.trans w) he'
variable {X : ZK K} {G : S → List Cn} {G' : S' → List Cn} {GL : L → List Cn} {rr : RR R}
theorem sv_asgS {j : Nat} {m : Wp (α × σt)} {k : α × σt → Wp (Fl S L R)} (h : EvS K X te Γ i mt r m) (hk : ∀ x, Sv K X tuS (Cn.put (Cn.put Γ i (.mut mt x.2)) j (.frz r x.1)) G GL rr (k x)) : Sv K X (tSeq (tAsg te (gName j)) tuS) Γ G GL rr (m.bind k) := by
  intro D F H σ fps e hol hm
  refine h F H σ fps _ e hol (m.mono (fun x hm => ?_) (fun _ z => z) hm)
  intro v F' H' fps' s' hol' hv
  have hol2 := hol'.store (c := .frz r x.1) (i := j) (Nx.refl s'.fh) ⟨rfl, v, rfl, hv⟩
  exact hk x D F' H' _ _ s'.fh hol2 (Wp.mst (s'.sub fun a ha => flat_set_nil a ha) hm)
theorem sv_ifS {mt' : Wp (Bool × σt)} {m m' : σt → Wp (Fl S L R)} (ht : EvST K X tt Γ i mt mt') (h : ∀ s, Sv K X ts (Cn.put Γ i (.mut mt s)) G GL rr (m s)) (h' : ∀ s, Sv K X tw (Cn.put Γ i (.mut mt s)) G GL rr (m' s)) : Sv K X (tIfS tt ts tw) Γ G GL rr (mt'.bind fun b => if b.1 = true then m b.2 else m' b.2) := by
  intro D F H σ fps e hol hm
  refine ht F H σ fps _ e hol (mt'.mono (fun b hb F' H' fps' s' hol' => ?_) (fun _ z => z) hm)
  obtain ⟨b, s⟩ := b
  cases b with
  | true => exact h s D F' H' σ fps' s'.fh hol' (Wp.mst s' hb)
  | false => exact h' s D F' H' σ fps' s'.fh hol' (Wp.mst s' hb)
theorem sv_ifES {mt' : Wp (Bool × σt)} {m : σt → Wp (Fl Empty L R)} {m' : σt → Wp (Fl S L R)} (ht : EvST K X tt Γ i mt mt') (h : ∀ s, Sv K X ts (Cn.put Γ i (.mut mt s)) (fun z : Empty => z.elim) GL rr (m s)) (h' : ∀ s, Sv K X (tSeq tw tuS) (Cn.put Γ i (.mut mt s)) G GL rr (m' s)) : Sv K X (tSeq (tIfS tt ts tw) tuS) Γ G GL rr (mt'.bind fun b => if b.1 = true then (m b.2).up else m' b.2) := by
  intro D F H σ fps e hol hm
  refine ht F H σ fps _ e hol (mt'.mono (fun b hb F' H' fps' s' hol' => ?_) (fun _ z => z) hm)
  obtain ⟨b, s⟩ := b
  cases b with
  | true =>
    refine h s _ F' H' σ fps' s'.fh hol' ((m s).mono (fun z hz => ?_) (fun _ => X.step s') (up_run.mp hb))
    cases z with
    | nx s => exact s.elim
    | brk l => exact Pst.step (G := G) (rr := rr) (z := .brk l) s' hz
    | cnt l => exact Pst.step (G := G) (rr := rr) (z := .cnt l) s' hz
    | ret l => exact Pst.step (G := G) (GL := GL) (z := .ret l) s' hz
  | false => exact h' s D F' H' σ fps' s'.fh hol' (Wp.mst s' hb)
def rS (v : V) (mt : MT σt) (r : RT α) : RR (α × σt) := fun F' H' M' u x => r.rel F' u x.1 ∧ ∃ fp, (∀ a ∈ fp, a ∈ M') ∧ mt.rel F' H' fp v x.2
theorem sv_retS {p : V} {m : Wp (α × σt)} (h : EvS K X te Γ i (mt.pin p) r m) (hi : i < Γ.length) : Sv K X (tRet te) Γ G GL (rS p mt r) (m.bind fun x => .ok (.ret x)) := by
  intro D F H σ fps e hol hm
  refine h F H σ fps _ e hol (m.mono (fun x hm => ?_) (fun _ z => z) hm)
  intro v F' H' fps' s' hol' hv
  have hget : Cn.get (Cn.put Γ i (.mut (mt.pin p) x.2)) i = some (.mut (mt.pin p) x.2) := Cn.get_put (by assumption)
  obtain ⟨fp1, o1, q1, q2, v1, rfl, q3, q4⟩ := hol'.get hget
  subst q3
  exact hm v F' H' _ s' ⟨hv, fp1, fun a ha => List.mem_flatten.mpr ⟨fp1, List.mem_of_getElem? q1, ha⟩, q4⟩
end
end L2.My
namespace L2.My
open PySem PySem.Spec PyProof.Rows L2
section
variable {α β γ δ ι κ σt S S' L R : Type} {K : PySem.W.Frag} {E : ZK K} {te ta tb : TE} {tt tu : TT} {tr : TA} {ts tw tuS : TS} {Γ : List Cn} {r : RT α} {F H F' H' F1 H1 : Hp} {i : Nat} {mt : MT σt} {M M1 M' : List Addr} {p : Addr} {o : HO}
def evSI (K : PySem.W.Frag) (E : ZK K) (wi : TI) (Γ : List Cn) (i : Nat) (mt : MT σt) (ri : RT ι) (m : Wp (List ι × σt)) : Prop :=
  ∀ F H σ fps (R : It → Hp → Prop), Ext F H → Hol Γ F H fps σ → m.run (fun y => ∀ J F' H' fps', Stp fps.flatten F H fps'.flatten F' H' → Hol (Cn.put Γ i (.mut mt y.2)) F' H' fps' σ → ItG J F' ri y.1 → y.1.length ≤ 16777215 → R J H') (E.B fps.flatten F H) → wi σ H R
theorem Stp.close (s : Stp M F H M' F' H') (hp : H p = none) (ho : H' p = some o) (hF : F' p = none) : Stp M F H M' (upd F' p o) H' := by
  refine ⟨⟨s.ff.trans (Ext.upd hF), fun b u q => ?_, s.n.keep, fun b hb h1 h2 => ?_, s.n.dom⟩, s.new⟩
  · by_cases z : b = p
    · subst z; rw [upd_same] at q; cases q; exact ho
    · rw [upd_ne z] at q; exact s.fh _ _ q
  · have : b ≠ p := fun z => h2 (by rw [z]; exact hp)
    rw [upd_ne this]; exact s.n.out b hb h1 h2
theorem Stp.mut (s : Stp M F H M' F' H') (hp : H p = none) (hF : F' p = none) : Stp M F H M' F' (upd H' p o) := by
  refine ⟨⟨s.ff, ext_mut s.fh hF, fun b u hb h => ?_, s.n.out, fun b hb => ?_⟩, s.new⟩
  · have : b ≠ p := fun z => by rw [z, hp] at h; cases h
    rw [upd_ne this]; exact s.n.keep b u hb h
  · by_cases z : b = p
    · subst z; rw [upd_same]; simp
    · rw [upd_ne z]; exact s.n.dom b hb
theorem Hol.off {fps : List (List Addr)} {σ : L2.St} (h : Hol Γ F H fps σ) (n : Nz [p] F H F' H') (hp : p ∉ fps.flatten) : Hol Γ F' H' fps σ := Hol.frame n (fun q hq a ha z => hp (List.mem_flatten.mpr ⟨q, hq, by rw [← List.mem_singleton.mp z]; exact ha⟩)) h
variable {X : ZK K} {G : S → List Cn} {G' : S' → List Cn} {GL : L → List Cn} {rr : RR R}
theorem sv_forS {wi : TI} {g : TG} {ws : List Nat} {ri : RT ι} {f : S' → ι → List Cn} {s0 : σt → S'} {mi : Wp (List ι × σt)} {mb : ι → S' → Wp (Fl S' S' R)} {k : S' → Wp (Fl S L R)} (hs : ∀ s, SubL (Cn.put Γ i (.mut mt s)) (G' (s0 s))) (hi : evSI K X wi Γ i mt ri mi) (hg : ∀ s, EvT0 g (G' s) ri (f s) ws)
    (hb : ∀ x s, Sv K X tw (f s x) G' G' rr (mb x s)) (hk : ∀ s, Sv K X tuS (G' s) G GL rr (k s)) : Sv K X (tSeq (tFor wi g tw) tuS) Γ G GL rr (mi.bind fun xs => (Wp.for_ xs.1 (s0 xs.2) mb).seq k) := by
  intro D F H σ fps e hol hm
  refine hi F H σ fps _ e hol (mi.mono (fun xs hm => ?_) (fun _ z => z) hm)
  intro J F1 H1 fps1 s1 hol1 I _
  obtain ⟨xs, st0⟩ := xs
  obtain ⟨F2, fps2, s2, hol2, _⟩ := (hs st0).hol s1.fh hol1
  have s12 := s1.trans s2
  refine ⟨fun i m σ' H' => m = xs.length - i ∧ i ≤ xs.length ∧ ∃ s F' fps', Stp fps.flatten F H fps'.flatten F' H' ∧ Ext F1 F' ∧ Hol (G' s) F' H' fps' σ' ∧ (Wp.seq (Wp.for_ (xs.drop i) s mb) k).run (Pst D G GL rr fps.flatten F H) (X.B fps.flatten F H),
    ⟨xs.length, by omega, Nat.zero_le _, s0 st0, F2, fps2, s12, s2.ff, hol2, by simpa using hm⟩, ?_⟩
  rintro i m σ' H' ⟨rfl, hi, s, F', fps', s3, x3, hol3, hr⟩
  by_cases c : i < xs.length
  · refine .inr ⟨I.go i F' H' c x3 s3.fh, fun σ2 H2 => ∃ s F' fps', Stp fps.flatten F H fps'.flatten F' H2 ∧ Ext F1 F' ∧ Hol (G' s) F' H2 fps' σ2 ∧ (Wp.seq (Wp.for_ (xs.drop (i + 1)) s mb) k).run (Pst D G GL rr fps.flatten F H) (X.B fps.flatten F H), fun σ2 H2 h => ⟨xs.length - (i + 1), by omega, rfl, c, h⟩, ?_⟩
    intro v H'' hy
    obtain ⟨F4, b, n4, hb', hx⟩ := I.yld i F' H' v H'' c x3 s3.fh hy
    have s4 := s3.trans (stp_nx n4)
    refine hg s F4 H'' σ' fps' v b _ n4.fh (hol3.nx n4) hx fun σ5 fps5 sub5 _ hol5 => ?_
    have s5 : Stp fps.flatten F H fps5.flatten F4 H'' := s4.sub sub5
    rw [List.drop_eq_getElem_cons c, show xs[i] = b from by rw [List.getElem?_eq_getElem c] at hb'; exact Option.some.inj hb'] at hr
    refine hb b s _ F4 H'' σ5 fps5 n4.fh hol5 ((mb b s).mono (fun z hz => ?_) (fun _ => X.step s5) hr)
    cases z with
    | nx s' => exact fun F6 H6 fps6 σ6 s6 hol6 => ⟨s', F6, fps6, s5.trans s6, (x3.trans n4.ff).trans s6.ff, hol6, hz⟩
    | cnt s' => exact fun F6 H6 fps6 σ6 s6 hol6 => ⟨s', F6, fps6, s5.trans s6, (x3.trans n4.ff).trans s6.ff, hol6, hz⟩
    | brk s' => exact fun F6 H6 fps6 σ6 s6 hol6 => hk s' D F6 H6 σ6 fps6 s6.fh hol6 (Wp.mst (s5.trans s6) hz)
    | ret x => exact Pst.step (G := G) (GL := GL) (z := .ret x) s5 hz
  · have ei : i = xs.length := by omega
    subst ei
    rw [List.drop_length] at hr
    exact .inl ⟨I.stop F' H' x3 s3.fh, hk s D F' H' σ' fps' s3.fh hol3 (Wp.mst s3 hr)⟩
def setL (xs : List α) (n : Int) (x : α) : List α := xs.set ((ixN xs.length n).getD 0) x
theorem sv_set {xs : List α} {ti : TE} {m : Wp α} {mi : α → Wp Int} {k : α → Int → Wp (Fl S L R)} {j : Nat} (hj : Cn.get Γ j = some (.mut (mL r) xs)) (h : EvP K X te Γ r m) (hi : ∀ x, EvP K X ti Γ tInt (mi x)) (hk : ∀ x n, Sv K X tuS (Cn.put Γ j (.mut (mL r) (setL xs n x))) G GL rr (k x n)) :
    Sv K X (tSeq (tAsg te (gSub (tVar j) ti rSetL)) tuS) Γ G GL rr (m.bind fun x => (mi x).bind fun n => .req ((ixN xs.length n).isSome = true) (k x n)) := by
  intro D F H σ fps e hol hm
  refine h F H σ fps _ e hol (m.mono (fun x hm => ?_) (fun _ => X.down e) hm)
  intro v F1 H1 n1 hv
  have hol1 := hol.nx n1
  obtain ⟨fp, o, h1, h2, u, rfl, p, ws, rfl, rfl, h3, h4, h5, h6⟩ := hol1.get hj
  refine ⟨_, h2, hi x F1 H1 σ fps _ n1.fh hol1 ((mi x).mono (fun n hm => ?_) (fun _ z => X.down n1.fh (X.step (stp_nx n1) z)) hm)⟩
  intro w F2 H2 n2 hw
  have n12 := n1.trans n2
  obtain ⟨n', hn'⟩ := Option.isSome_iff_exists.mp hm.1
  have h3' := n2.keep p _ (by simp) h3
  have h4' := n2.out p h4 (by rw [h3]; simp)
  refine ⟨p, ws, n, n', rfl, hw, h3', by rw [h5.length]; exact hn', ?_⟩
  have st : Stp [p] F2 H2 [p] F2 (upd H2 p (.lst (ws.set n' v))) := ⟨((Nx.refl n2.fh : Nx [p] F2 H2 F2 H2).mut (.inl (by simp)) h4').nz, fun a ha => .inl ha⟩
  have es : setL xs n x = xs.set n' x := by unfold setL; rw [hn']; rfl
  obtain ⟨s3, hol3⟩ := (hol.nx n12).upd (c := .mut (mL r) (setL xs n x)) h1 h2 st ⟨_, rfl, p, _, rfl, rfl, upd_same, h4', by rw [es]; exact (h5.mono n2.ff).set (r.mono n2.ff hv), by rw [es, List.length_set]; exact h6⟩
  exact hk x n D F2 _ σ _ s3.fh hol3 (Wp.mst ((stp_nx n12).trans s3) hm.2)
end
end L2.My
namespace Lw
open PySem PySem.Spec PyProof.Rows L2 L2.My
theorem PoolAt.nz {M : List Addr} {F H F' H' : Hp} {p : Addr} {s : Pool} (h : PoolAt F H p s) (n : Nz M F H F' H') (hp : p ∉ M) : PoolAt F' H' p s := by
  obtain ⟨a, h1, h2⟩ := h.ex
  exact ⟨h.ok, n.out p hp h.out (by rw [h1]; simp), a, n.keep p _ hp h1, n.ff _ _ h2⟩
def mPool : MT Pool where
  rel := fun F H fp v s => ∃ p, v = .ref p ∧ fp = [p] ∧ PoolAt F H p s
  dom := fun h a ha => by
    obtain ⟨p, rfl, rfl, h⟩ := h
    rw [List.mem_singleton.mp ha]; exact h.ne
  frame := fun h n hM => by
    obtain ⟨p, rfl, rfl, h⟩ := h
    exact ⟨p, rfl, rfl, h.nz n (hM p (by simp))⟩
def drawW (s : Pool) (z : Int) : Wp (Int × Pool) := ⟨fun A _ => (0 < z ∧ z < 1073741824) ∧ ∀ d s', 0 ≤ d → d < z → A (d, s'), fun ha _ h => ⟨h.1, fun d s' h0 h1 => ha _ (h.2 d s' h0 h1)⟩⟩
theorem draw_imp {K : PySem.W.Frag} : ∀ vs H Q E, spS K mPool (raC tInt raN) tInt (fun s x => drawW s x.1) vs H Q E → spDraw vs H Q E := by
  rintro vs H Q E ⟨F, v, ws, fp, s, x, rfl, e, ⟨p, rfl, rfl, hP⟩, ⟨w, us, rfl, rfl, h3⟩, ⟨h1, h2⟩, h4⟩
  rw [show us = [] from h3]
  refine ⟨p, s, F, x.1, rfl, e, hP, h1, h2, fun H' n hP' => ?_⟩
  obtain ⟨d0, d1⟩ := Pool.draw_lt (s := s) h1
  exact h4 _ _ d0 d1 _ F H' [p] ⟨n.nz, fun a ha => .inl ha⟩ ⟨p, rfl, rfl, hP'⟩ rfl
end Lw
set_option exponentiation.threshold 20000
namespace Lw
open PySem PySem.Spec PyProof.Rows L2 L2.My
section
variable {α β γ δ ι κ σt : Type} {K : PySem.W.Frag} {E X : ZK K} {te ta tb : TE} {tr : TA} {Γ : List Cn} {R C : Addr} {F H : Hp}
def ratW (n d : Int) : Wp Rat := .req (d.natAbs < 2 ^ 9000) (if 0 < d then .ok (Rat.divInt n d) else .raise ⟨"BadRatio", none⟩)
def opQ (f : Rat → Rat → Rat) (a b : Rat) : Wp Rat := .req (Sz 4000 a ∧ Sz 4000 b) (.ok (f a b))
def lessW (a b : Rat) : Wp Bool := .req (Sz 4000 a ∧ Sz 4000 b) (.ok (decide (a < b)))
def byW (a b : Rat) : Wp Rat := .req (Sz 4000 a ∧ Sz 4000 b) (if b = 0 then .raise ⟨"BadRatio", none⟩ else .ok (a / b))
def totW (xs : List Rat) : Wp Rat := .req (SumOk xs) (.ok (sumQ xs))
def lotsW (xs : List Rat) : Wp Bool := .req (SumOk xs) (.ok (lotsB xs))
def lessQ (n d : Int) : Wp Rat := .req (0 < d ∧ n.natAbs < 2 ^ 2770 ∧ d.natAbs < 2 ^ 2770) (.ok (Rat.divInt n d))
structure MacOk (st : List Rat) (mv : Mv) : Prop where
  bad : macBad st mv = none
def tMc (R C : Addr) : RT Mac := ⟨fun H v q => (tMac R C).rel H v q ∧ macBad q.start q.moves = none, fun e h => ⟨(tMac R C).mono e h.1, h.2⟩⟩
def macW (st : List Rat) (mv : Mv) : Wp Mac := .req (MacSz st mv) (match macBad st mv with | some r => .raise ⟨"BadMachine", some ("what", .str r)⟩ | none => .ok ⟨st, mv⟩)
end
end Lw
namespace Lw
open PySem PySem.Spec PyProof.Rows L2 L2.My
def mStates (m : Mac) : Wp Int := .ok (m.start.length : Nat)
def mButtons (m : Mac) : Wp Int := .ok (m.moves.length : Nat)
def mAnswers (m : Mac) : Wp Int := .ok ((m.moves.headD []).length : Nat)
section
variable {K : PySem.W.Frag} {R C : Addr}
end
end Lw
namespace L2.My
open PySem PySem.Spec PyProof.Rows L2
section
variable {α β γ δ ι κ σt S S' L R T : Type} {K : PySem.W.Frag} {E X : ZK K} {te ta tb : TE} {tt tu : TT} {tr : TA} {ts tw tuS : TS} {Γ : List Cn} {r : RT α} {F H F' H' F1 H1 : Hp} {i : Nat} {mt : MT σt} {G : S → List Cn} {G' : S' → List Cn} {GL : L → List Cn} {rr : RR R}
theorem map_ok (f : ι → β) : ∀ xs : List ι, Wp.map (fun x => (Wp.ok (f x)).nox) xs = .ok (xs.map f)
  | [] => rfl
  | x :: t => by
    show ((Wp.ok (f x)).nox.bind fun y => (Wp.map (fun x => (Wp.ok (f x)).nox) t).bind fun ys => .ok (y :: ys)) = _
    rw [map_ok f t]; rfl
theorem evn_lcP {wi : TI} {g : TG} {vs ws : List Nat} {ri : RT ι} {r : RT β} {f : ι → List Cn} {xs : List ι} {b : ι → β} (hi : evI K X wi Γ ri (.ok xs)) (hg : EvT0 g (Cn.puts Γ vs) ri f ws) (he : ∀ x, EvP K (z0 K) te (f x) r (.ok (b x))) (hw : ∀ i ∈ ws, i ∈ vs := by decide) {m : Wp (List β)} (e : Wp.ok (xs.map b) = m := by rfl) :
    EvN K X (tLc wi g (ttA fun _ _ _ _ _ => tYes) te vs) Γ (mL r) m := by
  subst e
  have := evp_lcN hi hg he hw
  rw [Wp.ok_bind, map_ok] at this
  exact this
theorem evp_new {m : Wp (List α)} (h : EvN K E te Γ (mL r) m) : EvP K E te Γ (lL r) m := evp_close h
theorem sv_skip {m : Wp (Fl S L R)} (h : Sv K X tuS Γ G GL rr m) : Sv K X (tSeq tNext tuS) Γ G GL rr m := h
theorem evp_lenM {xs : List α} (hi : Cn.get Γ i = some (.mut (mL r) xs)) : EvP K E (tCB (rLenS K) (tCons (tVar i) tNil)) Γ tInt (.ok ((xs.length : Nat) : Int)) := by
  intro F H σ fps Q e hol hm
  obtain ⟨fp, o, h1, h2, v, rfl, p, ws, rfl, rfl, h3, h4, h5, h6⟩ := hol.get hi
  refine ⟨_, h2, p, ws, rfl, .inl (SqL.of h3), ?_⟩
  rw [h5.length]
  exact hm _ F H (Nx.refl e) rfl
def popW (xs : List α) : Wp (α × List α) := Wp.get (match xs.getLast? with | some x => some (x, xs.dropLast) | none => none)
def pop0W : List α → Wp (α × List α)
  | [] => .stuck
  | x :: t => .ok (x, t)
theorem sv_extend {T : String} {xs : List α} {m : Wp (List α)} {k : List α → Wp (Fl S L R)} (hT : T = "list") (hi : Cn.get Γ i = some (.mut (mL r) xs)) (h : EvP K X te Γ (lL r) m) (hk : ∀ x, Sv K X tuS (Cn.put Γ i (.mut (mL r) (xs ++ x))) G GL rr (k x)) :
    Sv K X (tSeq (tDrop (tBM K T rExtend (tVar i) (tCons te tNil))) tuS) Γ G GL rr (m.bind fun x => .req (xs.length + x.length ≤ 16777215) (k x)) := by
  intro D F H σ fps e hol hm
  subst hT
  obtain ⟨fp, o, h1, h2, v, rfl, p, ws, rfl, rfl, h3, h4, h5, h6⟩ := hol.get hi
  refine ⟨_, h2, .inl ⟨rfl, ws, SqL.of h3⟩, h F H σ fps _ e hol (m.mono (fun x hm => ?_) (fun _ => X.down e) hm)⟩
  rintro v F' H' n ⟨⟨q, us, rfl, h7, al⟩, hl⟩
  have h3' := n.keep p _ (by simp) h3
  have h4' := n.out p h4 (by rw [h3]; simp)
  have hm1 : xs.length + x.length ≤ 16777215 := hm.1
  refine ⟨p, q, ws, us, rfl, rfl, h3', n.fh _ _ h7, by rw [h5.length, al.length, sizeLine_eq]; omega, ?_⟩
  have st : Stp [p] F' H' [p] F' (upd H' p (.lst (ws ++ us))) := ⟨((Nx.refl n.fh : Nx [p] F' H' F' H').mut (.inl (by simp)) h4').nz, fun a ha => .inl ha⟩
  obtain ⟨s3, hol3⟩ := (hol.nx n).upd (c := .mut (mL r) (xs ++ x)) h1 h2 st ⟨_, rfl, p, _, rfl, rfl, upd_same, h4', (h5.mono n.ff).app al, by rw [List.length_append]; exact hm1⟩
  exact hk x D F' _ σ _ s3.fh hol3 (Wp.mst ((stp_nx n).trans s3) hm.2)
theorem evs_cast {r2 : RT β} {f : α → β} {m : Wp (α × σt)} (hc : ∀ F v x, r.rel F v x → r2.rel F v (f x)) (h : EvS K E te Γ i mt r m) : EvS K E te Γ i mt r2 (m.bind fun x => .ok (f x.1, x.2)) := by
  intro F H σ fps Q e hol hm
  exact h F H σ fps _ e hol (m.mono (fun x hx v F' H' fps' s' hol' hv => hx v F' H' fps' s' hol' (hc _ _ _ hv)) (fun _ z => z) hm)
def spN (K : PySem.W.Frag) (ra : RA α) (mt : MT σt) (f : α → Wp σt) : Sp := fun vs H Q E => ∃ F x, Ext F H ∧ ra.rel F vs x ∧ (f x).run (fun s => ∀ v F' H' fp, Nx [] F H F' H' → (∀ a ∈ fp, H a = none) → mt.rel F' H' fp v s → Q v H') (Ek K E F H)
theorem evn_call {ra : RA α} {f : α → Wp σt} {m : Wp α} (ha : EvA K X tr Γ ra m) : EvN K X (tCall (spN K ra mt f) [] X.X tr) Γ mt (m.bind f) := by
  intro F H σ fps Q e hol hm
  refine ha F H σ fps _ e hol (m.mono (fun x hm => ?_) (fun _ z => z) hm)
  intro vs F1 H1 n1 hv
  refine ⟨F1, x, n1.fh, by rw [List.append_nil]; exact hv, (f x).mono (fun s hs v F' H' fp n hn hv => hs v F' H' fp (n1.trans n) (fun a ha => n1.free (hn a ha)) hv) (fun _ z => X.ek n1.fh (X.st n1 z)) hm⟩
theorem evn_callP {ra : RA α} {f : α → Wp σt} {x : α} {m : Wp σt} (ha : EvA K X tr Γ ra (.ok x)) (e : f x = m := by rfl) : EvN K X (tCall (spN K ra mt f) [] X.X tr) Γ mt m := e ▸ evn_call ha
theorem hol_nil : Hol [] F H [] [] := trivial
theorem hol_frz {x : α} {v : V} {fps : List (List Addr)} {σ : L2.St} (h : r.rel F v x) (t : Hol Γ F H fps σ) : Hol (.frz r x :: Γ) F H ([] :: fps) (some v :: σ) := ⟨⟨rfl, v, rfl, h⟩, by simp, t⟩
theorem hol_any {o : Option V} {fps : List (List Addr)} {σ : L2.St} (t : Hol Γ F H fps σ) : Hol (.any :: Γ) F H ([] :: fps) (o :: σ) := ⟨rfl, by simp, t⟩
theorem hol_mut {s : σt} {v : V} {fp : List Addr} {fps : List (List Addr)} {σ : L2.St} (h : mt.rel F H fp v s) (t : Hol Γ F H fps σ) (hd : ∀ q ∈ fps, q = []) : Hol (.mut mt s :: Γ) F H (fp :: fps) (some v :: σ) := ⟨⟨v, rfl, h⟩, (fun a ha q hq z => by have y := hd q hq; subst y; cases z), t⟩
theorem fn_P {XX : XK} {Q : VK} {nxQ : L2.St → Hp → Prop} {σ : L2.St} {fps : List (List Addr)} {body : Wp (Fl Empty Empty α)} (h : Sv K (zk K XX) ts Γ (fun z : Empty => z.elim) (fun z : Empty => z.elim) (rP r) body) (e : Ext F H) (hol : Hol Γ F H fps σ) (h0 : fps.flatten = []) (hm : (Wp.out body).run (Rk F H r Q) (Ek K XX F H)) : ts { nx := nxQ, rt := Q } σ H := by
  refine h _ F H σ fps e hol ?_
  rw [h0]
  refine body.mono (fun z hz => ?_) (fun er he cls d F' H' M' s' hr => he cls d F' H' s'.nx hr) hm
  cases z with
  | nx s => exact s.elim
  | brk s => exact s.elim
  | cnt s => exact s.elim
  | ret x => exact fun v F' H' M' s' hv => hz v F' H' s'.nx hv
theorem fn_S {XX : XK} {Q : VK} {nxQ : L2.St → Hp → Prop} {σ : L2.St} {fps : List (List Addr)} {fp : List Addr} {p : V} {body : Wp (Fl Empty Empty (α × σt))} (h : Sv K (zk K XX) ts Γ (fun z : Empty => z.elim) (fun z : Empty => z.elim) (rS p mt r) body) (e : Ext F H) (hol : Hol Γ F H fps σ) (h0 : fps.flatten = fp)
    (hm : (Wp.out body).run (fun y => ∀ u F' H' fp', Stp fp F H fp' F' H' → mt.rel F' H' fp' p y.2 → r.rel F' u y.1 → Q u H') (Es K XX fp F H)) : ts { nx := nxQ, rt := Q } σ H := by
  refine h _ F H σ fps e hol ?_
  rw [h0]
  refine body.mono (fun z hz => ?_) (fun _ z => z) hm
  cases z with
  | nx s => exact s.elim
  | brk s => exact s.elim
  | cnt s => exact s.elim
  | ret x =>
    intro v F' H' M' s' hv
    obtain ⟨h1, fp', h2, h3⟩ := hv
    exact hz v F' H' fp' (s'.sub h2) h3 h1
end
end L2.My
namespace L2.My
open PySem PySem.Spec PyProof.Rows L2
section
variable {α β γ δ ι κ σt S S' L R T : Type} {K : PySem.W.Frag} {E X : ZK K} {te ta tb : TE} {tt tu : TT} {tr : TA} {ts tw tuS : TS} {Γ : List Cn} {r : RT α} {F H F' H' F1 H1 : Hp} {i : Nat} {mt : MT σt} {G : S → List Cn} {G' : S' → List Cn} {GL : L → List Cn} {rr : RR R}
theorem evp_opKP {o : R2} {r1 : RT α} {r2 : RT β} {r3 : RT γ} {f : α → β → Wp γ} {a : α} {b : β} {c : Wp γ} (h : OpV K E o r1 r2 r3 f) (hf : f a b = c) (ha : EvP K E ta Γ r1 (.ok a)) (hb : EvP K E tb Γ r2 (.ok b)) : EvP K E (tOp o ta tb) Γ r3 c := by
  rw [← hf]; exact evp_opP h ha hb
theorem mulKL {a b : Int} (h : -(2 ^ 64) < a ∧ a < 2 ^ 64) : Wp.req (CMul a b) (.ok (a * b)) = .ok (a * b) := Wp.req_true (.inl h) _
theorem raise_int : ∀ F vs x, (raC tInt raN).rel F vs x → vs = [V.int x.1] := by
  rintro F vs x ⟨v, ws, rfl, h1, h2⟩
  rw [show v = _ from h1, show ws = [] from h2]
theorem sv_dropS {m : Wp (α × σt)} {k : α × σt → Wp (Fl S L R)} (h : EvS K X te Γ i mt r m) (hk : ∀ x, Sv K X tuS (Cn.put Γ i (.mut mt x.2)) G GL rr (k x)) : Sv K X (tSeq (tDrop te) tuS) Γ G GL rr (m.bind k) := by
  intro D F H σ fps e hol hm
  refine h F H σ fps _ e hol (m.mono (fun x hm => ?_) (fun _ z => z) hm)
  intro v F' H' fps' s' hol' hv
  exact hk x D F' H' _ _ s'.fh hol' (Wp.mst s' hm)
theorem sv_appendS {j : Nat} {rl : RT α} {xs : List α} {m : Wp (α × σt)} {k : α × σt → Wp (Fl S L R)} {T : String} (hj : Cn.get Γ j = some (.mut (mL rl) xs)) (h : EvS K X te Γ i mt rl m) (hT : T = "list") (hk : ∀ x, Sv K X tuS (Cn.put (Cn.put Γ i (.mut mt x.2)) j (.mut (mL rl) (xs ++ [x.1]))) G GL rr (k x)) (hij : ∀ c, Cn.get (Cn.put Γ i c) j = Cn.get Γ j := by intro _; rfl) :
    Sv K X (tSeq (tDrop (tBM K T rAppend (tVar j) (tCons te tNil))) tuS) Γ G GL rr (m.bind fun x => .req (xs.length < 16777215) (k x)) := by
  intro D F H σ fps e hol hm
  subst hT
  obtain ⟨fp, o, h1, h2, v, rfl, p, ws, rfl, rfl, h3, h4, h5, h6⟩ := hol.get hj
  refine ⟨_, h2, .inl ⟨rfl, ws, SqL.of h3⟩, h F H σ fps _ e hol (m.mono (fun x hm => ?_) (fun _ z => z) hm)⟩
  intro u F' H' fps' s' hol' hu
  obtain ⟨fp', o', q1, q2, v', rfl, p', ws', q0, rfl, q3, q4, q5, q6⟩ := hol'.get ((hij _).trans hj)
  rw [h2] at q2
  cases q2
  cases q0
  have hl := q5.length
  have hm1 : xs.length < 16777215 := hm.1
  refine ⟨p, ws', u, rfl, rfl, q3, by rw [sizeLine_eq]; omega, ?_⟩
  have st : Stp [p] F' H' [p] F' (upd H' p (.lst (ws' ++ [u]))) := ⟨((Nx.refl s'.fh : Nx [p] F' H' F' H').mut (.inl (by simp)) q4).nz, fun a ha => .inl ha⟩
  obtain ⟨s3, hol3⟩ := hol'.upd (c := .mut (mL rl) (xs ++ [x.1])) q1 h2 st ⟨_, rfl, p, _, rfl, rfl, upd_same, q4, q5.snoc hu, by rw [List.length_append]; simp; omega⟩
  exact hk x D F' _ σ _ s3.fh hol3 (Wp.mst (s'.trans s3) hm.2)
end
end L2.My
namespace Lw
open PySem PySem.Spec PyProof.Rows L2 L2.My
def tScr (K : PySem.W.Frag) : RT (List Int) := ⟨fun F v ns => ∃ a, v = .ref a ∧ SqL K F a (ns.map V.int) ∧ ns.length ≤ 63, fun e h => by
  obtain ⟨a, h1, h2, h3⟩ := h
  exact ⟨a, h1, h2.ext e, h3⟩⟩
def poolW (_ : List Int) (_ : Int) : Wp Pool := ⟨fun A _ => ∀ s, A s, fun ha _ h s => ha s (h s)⟩
theorem pool_imp {K : PySem.W.Frag} : ∀ vs H Q E, spN K (raC (tScr K) (raC tInt raN)) mPool (fun x => poolW x.1 x.2.1) vs H Q E → spPool K vs H Q E := by
  rintro vs H Q E ⟨F, x, e, ⟨v, ws, rfl, ⟨a, rfl, h1, h2⟩, w, us, rfl, rfl, h3⟩, hm⟩
  rw [show us = [] from h3]
  exact ⟨a, x.1, F, x.2.1, rfl, e, h1, h2, fun p F' H' n hP hp => hm _ _ F' H' [p] n (fun b hb => by rw [List.mem_singleton.mp hb]; exact hp) ⟨p, rfl, rfl, hP⟩⟩
end Lw
namespace L2.My
open PySem PySem.Spec PyProof.Rows L2
section
variable {α β γ δ ι κ : Type} {K : PySem.W.Frag} {E X : ZK K} {te ta tb : TE} {tr : TA} {Γ : List Cn} {r : RT α} {F H : Hp}
end
end L2.My
namespace L2.My
open PySem PySem.Spec PyProof.Rows L2
def SqK (k : Bool) (K : PySem.W.Frag) (H : Hp) (a : Addr) (xs : List V) : Prop := if k = true then SqL K H a xs else SqT K H a xs
def ObK (k : Bool) (h : Heap) (a : Addr) (its : Array Value) : Prop := if k = true then h.IsList a its else h.IsTuple a its
def ImK (k : Bool) (h : Heap) (it a : Addr) (i : Nat) : Prop := if k = true then h.IsListIter it a i else h.IsTupleIter it a i
def itObj (k : Bool) (a : Addr) : Obj := if k = true then { cls := .type "list_iterator", data := .fields #[.ref a, .int 0 0] } else { cls := .type "tuple_iterator", data := .fields #[.ref a, .int 0 0] }
section
variable {P : Program} {w : World} {K : PySem.W.Frag} {A : Around} {a b it : Addr}
theorem ImK.at_ {k : Bool} {h h' : Heap} {i : Nat} (st : ImK k h it a i) (q : ∀ o, h.get? it = some o → h'.get? it = some o) : ImK k h' it a i := by
  cases k with
  | true => exact Heap.IsListIter.at (h := h) st q
  | false => exact Heap.IsTupleIter.at (h := h) st q
theorem ImK.ob {k : Bool} {h : Heap} {i : Nat} (st : ImK k h it a i) : ∃ o, h.get? it = some o ∧ ∀ v, o.data ≠ .cell v := by
  cases k with
  | true =>
    obtain ⟨o, e, _, d⟩ := (show h.IsListIter it a i from st)
    exact ⟨o, e, fun v q => by rw [d] at q; cases q⟩
  | false =>
    obtain ⟨o, e, _, d⟩ := (show h.IsTupleIter it a i from st)
    exact ⟨o, e, fun v q => by rw [d] at q; cases q⟩
theorem SqK.inj {k : Bool} {X : Cx} {pins : List (Addr × Obj)} {σ : L2.St} {H : Hp} {s : Shared} {xs ys : List V} (I : Inv X pins σ H s) (h : SqK k X.K H a xs) (h' : SqK k X.K H a ys) : xs = ys := by
  cases k with
  | true => exact I.list_inj h h'
  | false => exact I.tuple_inj h h'
def ItzK (K : PySem.W.Frag) (k1 k2 : Bool) (a b : Addr) : It :=
  ⟨fun i H => ∃ (xs ys : List V) (x y : V), SqK k1 K H a xs ∧ SqK k2 K H b ys ∧ xs[i]? = some x ∧ ys[i]? = some y,
   fun i H v H' => ∃ T x y, v = .ref T ∧ H T = none ∧ H' = upd H T (.tup [x, y]) ∧ (∀ xs, SqK k1 K H a xs → xs[i]? = some x) ∧ ∀ ys, SqK k2 K H b ys → ys[i]? = some y,
   fun i H => ∃ xs ys : List V, SqK k1 K H a xs ∧ SqK k2 K H b ys ∧ i = min xs.length ys.length⟩
structure ZAp (z TI TO i1 i2 a b : Addr) : Prop where
  sep : ZipSep2 z TI TO i1 i2 [i1, a] [i2, b]
  i12 : i1 ≠ i2
  a1 : a ≠ i1
  b2 : b ≠ i2
def iZipK (K : PySem.W.Frag) (ta : TA) : TI := fun σ H R => ta σ H fun vs H1 => ∃ k1 k2 a b xs ys, vs = [.ref a, .ref b] ∧ SqK k1 K H1 a xs ∧ SqK k2 K H1 b ys ∧ R (ItzK K k1 k2 a b) H1
end
section
variable {α β : Type} {K : PySem.W.Frag} {E : ZK K} {tr : TA} {Γ : List Cn} {r : RT α} {r' : RT β} {F : Hp} {a b : Addr} {ws us : List V}
end
end L2.My
namespace Lw
open PySem PySem.Spec PyProof.Rows L2 L2.My
def isW (a b : Rat) : Wp Bool := .req (a = b) (.ok true)
theorem mkQ_self (q : Rat) : mkQ (q.num, ((q.den : Nat) : Int)) = .ok q := by
  unfold mkQ
  rw [Wp.req_true ⟨by show (0 : Int) < (q.den : Nat); have := q.den_pos; omega, by show Int.gcd q.num (q.den : Nat) = 1; rw [← q.reduced]; rfl⟩]
  show Wp.ok (Rat.divInt q.num q.den) = _
  rw [q_self]
end Lw
set_option exponentiation.threshold 20000
local macro_rules | `(tactic| walk_at "wp") => `(tactic| try simp only [L2.My.Wp.ok_bind, L2.My.Wp.bind_ok, L2.My.Wp.bind_assoc, L2.My.Wp.req_bind, L2.My.Wp.bind_out, L2.My.Wp.ret_out, L2.My.Wp.raise_bind, L2.My.Wp.raise_out, L2.My.Wp.req_out, L2.My.Wp.bind_seq, L2.My.Wp.ok_seq, L2.My.Wp.ret_seq, L2.My.Wp.req_seq, L2.My.Wp.bind_up, L2.My.Wp.ret_up, L2.My.Wp.brk_up, L2.My.Wp.cnt_up, L2.My.Wp.req_up, L2.My.Wp.raise_up, L2.My.Wp.nox_ok, L2.My.Wp.nox_bind, L2.My.Wp.nox_req, L2.My.Wp.nox_get, L2.My.Wp.nox_nox, L2.My.Wp.ap, Lw.mkQ_self])
namespace Lw
open PySem PySem.Spec PyProof.Rows L2 L2.My
end Lw
namespace L2.My
open PySem PySem.Spec PyProof.Rows L2
section
variable {prog : Program} {w : World} {A : Around} {E : Value → Shared → Prop} {s : Shared} {z TI TO T : Addr} {ps : List (Addr × Addr)} {X : Addr → Array Value} {i : Nat}
structure ZApN (z TI TO : Addr) (ps : List (Addr × Addr)) : Prop where
  TIz : TI ≠ z
  TOz : TO ≠ z
  TITO : TI ≠ TO
  nd : (ps.map Prod.fst).Nodup
  it : ∀ p ∈ ps, p.1 ≠ z ∧ p.1 ≠ TI ∧ p.1 ≠ TO
  ls : ∀ p ∈ ps, p.2 ≠ z ∧ p.2 ≠ TO ∧ ∀ q ∈ ps, p.2 ≠ q.1
abbrev IsTupN (h : Heap) (T : Addr) (vs : Array Value) : Prop := h.get? T = some { cls := .type "tuple", data := .seq vs }
def itm (X : Addr → Array Value) (i : Nat) (p : Addr × Addr) : Value := ((X p.2)[i]?).getD .none
def itRefs (ps : List (Addr × Addr)) : List Value := ps.map fun p => .ref p.1
theorem zipN_next_held {f : Bool} {oT : Obj} {Q : Value → Shared → Prop} (D : ZApN z TI TO ps) (hne : ps ≠ [])
    (hz : IsZipHeld s.heap z TI TO T f) (hT : s.heap.get? T = some oT) (hTI : IsTupN s.heap TI (itRefs ps).toArray)
    (h1 : ∀ p ∈ ps, s.heap.IsListIter p.1 p.2 i) (h2 : ∀ p ∈ ps, s.heap.IsList p.2 (X p.2)) (hX : ∀ p ∈ ps, i < (X p.2).size) (hlen : ps.length ≤ 1000)
    (hQ : ∀ h', IsZipHeld h' z TI TO T true → (∀ p ∈ ps, h'.IsListIter p.1 p.2 (i + 1)) → IsTupN h' s.heap.objs.size (ps.map (itm X i)).toArray → h'.objs.size = s.heap.objs.size + 1 →
      (∀ c o, c ≠ z → (∀ p ∈ ps, c ≠ p.1) → s.heap.get? c = some o → h'.get? c = some o) → Q (.ref s.heap.objs.size) { s with heap := h' }) :
    wpAny (model prog w) A (Builtin.«zip.__next__» ⟨[.ref z], []⟩) (fun fin s' => ∃ v, fin = .done (.ret v) ∧ Q v s') E s := by
  show wpAny _ _ (field (.ref z) 2 >>= _) _ _ _
  refine wpAny_bind (wpAny_field hz rfl (x := .bool false) rfl ?_)
  show wpAny _ _ (field (.ref z) 3 >>= _) _ _ _
  refine wpAny_bind (wpAny_field hz rfl (x := .ref TI) rfl ?_)
  refine wpAny_bind (wpAny_seqItems hTI rfl ?_)
  have hie : (itRefs ps).toArray.isEmpty = false := by
    cases ps with
    | nil => exact absurd rfl hne
    | cons p t => rfl
  simp only [hie, Bool.false_eq_true, if_false]
  show wpAny _ _ (Builtin.SmallTypes.ownedTupleIsFree (.ref z) >>= _) _ _ _
  refine wpAny_bind (wpAny_tupleHeld_zip hz hT fun h₁ hz₁ hs₁ => ?_)
  simp only [Bool.false_eq_true, if_false]
  refine wpAny_bind ?_
  rw [← Array.forIn_toList]
  refine wpAny_forIn_list _ (fun rest b s' => ∃ done rest' h', ps = done ++ rest' ∧ rest = itRefs rest' ∧ b = ⟨none, (done.map (itm X i)).toArray⟩ ∧ s' = { s with heap := h' } ∧ IsZipHeld h' z TI TO T true ∧ (∀ p ∈ done, h'.IsListIter p.1 p.2 (i + 1)) ∧ (∀ p ∈ rest', h'.IsListIter p.1 p.2 i) ∧ (∀ p ∈ ps, h'.IsList p.2 (X p.2)) ∧ h'.objs.size = s.heap.objs.size ∧ ∀ c o, c ≠ z → (∀ p ∈ ps, c ≠ p.1) → s.heap.get? c = some o → h'.get? c = some o) _ ?_ ?_ _ _ ?_
  · rintro x rest b s' ⟨done, rest', h', rfl, hr, rfl, rfl, g1, g2, g3, g4, g5, g6⟩
    cases rest' with
    | nil => cases hr
    | cons p rest' =>
      injection hr with e1 e2
      subst e1 e2
      have hp : p ∈ done ++ p :: rest' := by simp
      obtain ⟨d1, d2, d3⟩ := D.it p hp
      obtain ⟨k1, k2, k3⟩ := D.ls p hp
      have nd := D.nd
      rw [List.map_append, List.map_cons] at nd
      have nd' := List.nodup_append.mp nd
      have nr : ∀ q ∈ rest', q.1 ≠ p.1 := fun q hq e => (List.nodup_cons.mp nd'.2.1).1 (e ▸ List.mem_map_of_mem hq)
      have nl : ∀ q ∈ done, q.1 ≠ p.1 := fun q hq e => nd'.2.2 _ (List.mem_map_of_mem hq) p.1 (by simp) e
      have hx : (X p.2)[i]? = some (itm X i p) := by
        unfold itm
        rw [Array.getElem?_eq_getElem (hX p hp)]; rfl
      refine wpAny_bind (wpAny_holding ?_)
      show wpAny _ _ (Builtin.SmallTypes.nextOf (.ref p.1) >>= _) _ _ _
      refine wpAny_bind (wpAny_nextOf_list_item (s := { s with heap := h' }) (g3 p (by simp)) (g4 p hp) hx fun h₂ q1 q2 => wpAny_pure (wpAny_pure ?_))
      have q2 : Heap.SameBut p.1 h' h₂ := q2
      refine ⟨done ++ [p], rest', h₂, by simp, rfl, by simp, rfl, q2.extBut _ _ d1.symm g1, fun q hq => ?_, fun q hq => ?_, fun q hq => ?_, by rw [q2.1, g5], fun c o c1 c2 e => q2.extBut _ _ (c2 p hp) (g6 c o c1 c2 e)⟩
      · rcases List.mem_append.mp hq with hq | hq
        · exact (g2 q hq).extBut q2.extBut (nl q hq)
        · rw [List.mem_singleton] at hq
          subst hq; exact q1
      · exact (g3 q (by simp [hq])).extBut q2.extBut (nr q hq)
      · exact (g4 q hq).extBut q2.extBut ((D.ls q hq).2.2 p hp)
  · rintro b s' ⟨done, rest', h', rfl, hr, rfl, rfl, g1, g2, g3, g4, g5, g6⟩
    cases rest' with
    | cons p t => cases hr
    | nil =>
      rw [List.append_nil] at *
      show wpAny _ _ (newTuple (done.map (itm X i)).toArray.toList >>= _) _ _ _
      refine wpAny_bind (wpAny_newTuple ?_ (by simp; exact Nat.le_trans hlen (by decide)))
      refine wpAny_pure ⟨_, rfl, ?_⟩
      show Q (.ref h'.objs.size) _
      have hp : IsTupN (h'.push { cls := .type "tuple", data := .seq (done.map (itm X i)).toArray }) h'.objs.size (done.map (itm X i)).toArray := Heap.get?_push_size _ rfl
      have hz4 : (h'.push { cls := .type "tuple", data := .seq (done.map (itm X i)).toArray }).objs.size = h'.objs.size + 1 := Heap.size_push ..
      rw [g5] at hp hz4 ⊢
      exact hQ _ (Heap.get?_push_of_some _ g1) (fun p hp => (g2 p hp).at fun o e => Heap.get?_push_of_some _ e) hp hz4 fun c o c1 c2 e => Heap.get?_push_of_some _ (g6 c o c1 c2 e)
  · exact ⟨[], ps, h₁, rfl, rfl, rfl, rfl, hz₁, (fun p hp => by cases hp), fun p hp => (h1 p hp).extBut hs₁.extBut (D.it p hp).1, fun p hp => (h2 p hp).extBut hs₁.extBut (D.ls p hp).1, hs₁.1, fun c o c1 _ e => hs₁.extBut _ _ c1 e⟩
theorem zipN_next_free {ts : Array Value} {Q : Value → Shared → Prop} (D : ZApN z TI TO ps) (hne : ps ≠ [])
    (hz : IsZip s.heap z TI TO .none) (hTI : IsTupN s.heap TI (itRefs ps).toArray) (hTO : IsTupN s.heap TO ts) (hts : ts.size = ps.length)
    (h1 : ∀ p ∈ ps, s.heap.IsListIter p.1 p.2 i) (h2 : ∀ p ∈ ps, s.heap.IsList p.2 (X p.2)) (hX : ∀ p ∈ ps, i < (X p.2).size) (hlen : ps.length ≤ 1000)
    (hQ : ∀ h', IsZipHeld h' z TI TO s.heap.objs.size false → (∀ p ∈ ps, h'.IsListIter p.1 p.2 (i + 1)) → IsTupN h' s.heap.objs.size (ps.map (itm X i)).toArray → h'.objs.size = s.heap.objs.size + 1 →
      (∀ c o, c ≠ z → c ≠ TO → (∀ p ∈ ps, c ≠ p.1) → s.heap.get? c = some o → h'.get? c = some o) → Q (.ref s.heap.objs.size) { s with heap := h' }) :
    wpAny (model prog w) A (Builtin.«zip.__next__» ⟨[.ref z], []⟩) (fun fin s' => ∃ v, fin = .done (.ret v) ∧ Q v s') E s := by
  show wpAny _ _ (field (.ref z) 2 >>= _) _ _ _
  refine wpAny_bind (wpAny_field hz rfl (x := .bool false) rfl ?_)
  show wpAny _ _ (field (.ref z) 3 >>= _) _ _ _
  refine wpAny_bind (wpAny_field hz rfl (x := .ref TI) rfl ?_)
  refine wpAny_bind (wpAny_seqItems hTI rfl ?_)
  have hie : (itRefs ps).toArray.isEmpty = false := by
    cases ps with
    | nil => exact absurd rfl hne
    | cons p t => rfl
  simp only [hie, Bool.false_eq_true, if_false]
  show wpAny _ _ (Builtin.SmallTypes.ownedTupleIsFree (.ref z) >>= _) _ _ _
  refine wpAny_bind ?_
  unfold Builtin.SmallTypes.ownedTupleIsFree
  refine wpAny_bind (wpAny_field hz rfl (x := .none) rfl (wpAny_pure ?_))
  simp only [if_true]
  refine wpAny_bind (wpAny_rule ?_)
  refine wpAny_bind (wpAny_field hz rfl (x := .ref TO) rfl ?_)
  refine wpAny_bind (wpAny_setField_rec hz (by simp) fun g0 hz0 hs0 => ?_)
  replace hz0 : IsZip g0 z TI TO .ellipsis := hz0
  replace hs0 : Heap.SameBut z s.heap g0 := hs0
  refine wpAny_bind ?_
  refine wpAny_forIn_list _ (fun rest b s' => ∃ done rest' h' us, ps = done ++ rest' ∧ rest = (itRefs rest').zipIdx done.length ∧ b = ⟨none, ()⟩ ∧ s' = { s with heap := h' } ∧ IsZip h' z TI TO .ellipsis ∧ IsTupN h' TO us ∧ us.size = ps.length ∧ us.toList.take done.length = done.map (itm X i) ∧ (∀ p ∈ done, h'.IsListIter p.1 p.2 (i + 1)) ∧ (∀ p ∈ rest', h'.IsListIter p.1 p.2 i) ∧ (∀ p ∈ ps, h'.IsList p.2 (X p.2)) ∧ h'.objs.size = s.heap.objs.size ∧ ∀ c o, c ≠ z → c ≠ TO → (∀ p ∈ ps, c ≠ p.1) → s.heap.get? c = some o → h'.get? c = some o) _ ?_ ?_ _ _ ?_
  · rintro x rest b s' ⟨done, rest', h', us, rfl, hr, rfl, rfl, g1, gT, gz, gu, g2, g3, g4, g5, g6⟩
    cases rest' with
    | nil => cases hr
    | cons p rest' =>
      rw [show itRefs (p :: rest') = .ref p.1 :: itRefs rest' from rfl, List.zipIdx_cons] at hr
      injection hr with e1 e2
      subst e1 e2
      have hp : p ∈ done ++ p :: rest' := by simp
      obtain ⟨d1, d2, d3⟩ := D.it p hp
      obtain ⟨k1, k2, k3⟩ := D.ls p hp
      have nd := D.nd
      rw [List.map_append, List.map_cons] at nd
      have nd' := List.nodup_append.mp nd
      have nr : ∀ q ∈ rest', q.1 ≠ p.1 := fun q hq e => (List.nodup_cons.mp nd'.2.1).1 (e ▸ List.mem_map_of_mem hq)
      have nl : ∀ q ∈ done, q.1 ≠ p.1 := fun q hq e => nd'.2.2 _ (List.mem_map_of_mem hq) p.1 (by simp) e
      have hx : (X p.2)[i]? = some (itm X i p) := by
        unfold itm
        rw [Array.getElem?_eq_getElem (hX p hp)]; rfl
      refine wpAny_bind (wpAny_onRaise ?_)
      show wpAny _ _ (Builtin.SmallTypes.nextOf (.ref p.1) >>= _) _ _ _
      refine wpAny_bind (wpAny_nextOf_list_item (s := { s with heap := h' }) (g3 p (by simp)) (g4 p hp) hx fun h₂ q1 q2 => wpAny_pure ?_)
      have q2 : Heap.SameBut p.1 h' h₂ := q2
      have gT2 : IsTupN h₂ TO us := q2.extBut _ _ d3.symm gT
      refine wpAny_bind (wpAny_seqItems (s := { s with heap := h₂ }) gT2 rfl ?_)
      have hul : us.size ≤ sizeLine := by rw [gz]; exact Nat.le_trans hlen (by decide)
      refine wpAny_bind (wpAny_updateSeq (s := { s with heap := h₂ }) gT2 rfl ?_ hul (by rw [Array.size_setIfInBounds]; omega))
      refine wpAny_bind (wpAny_letGo (wpAny_pure ?_))
      have sb : Heap.SameBut TO h₂ (h₂.update TO (Obj.mapSeq fun x => x.setIfInBounds done.length (itm X i p))) := Heap.SameBut.update ..
      generalize hh3 : h₂.update TO (Obj.mapSeq fun x => x.setIfInBounds done.length (itm X i p)) = h₃ at sb
      have gT3 : IsTupN h₃ TO (us.setIfInBounds done.length (itm X i p)) := by
        rw [← hh3]
        show Heap.get? _ _ = _
        rw [Heap.get?_update_self _ gT2 rfl]
        simp [Obj.mapSeq]
      have hdl : done.length < us.size := by rw [gz, List.length_append, List.length_cons]; omega
      refine ⟨done ++ [p], rest', h₃, _, by simp, by simp, rfl, rfl, sb.extBut _ _ D.TOz.symm (q2.extBut _ _ d1.symm g1), gT3, by rw [Array.size_setIfInBounds, gz], ?_, fun q hq => ?_, fun q hq => ?_, fun q hq => ?_, by rw [sb.1, q2.1, g5], fun c o c1 c2 c3 e => sb.extBut _ _ c2 (q2.extBut _ _ (c3 p hp) (g6 c o c1 c2 c3 e))⟩
      · rw [Array.toList_setIfInBounds, List.length_append, List.length_singleton, List.map_append, List.take_succ, List.take_set_of_le (Nat.le_refl _), gu, List.getElem?_set_self (by simpa using hdl)]
        rfl
      · rcases List.mem_append.mp hq with hq | hq
        · exact ((g2 q hq).extBut q2.extBut (nl q hq)).extBut sb.extBut (D.it q (by simp [hq])).2.2
        · rw [List.mem_singleton] at hq
          subst hq; exact q1.extBut sb.extBut d3
      · exact ((g3 q (by simp [hq])).extBut q2.extBut (nr q hq)).extBut sb.extBut (D.it q (by simp [hq])).2.2
      · exact ((g4 q hq).extBut q2.extBut ((D.ls q hq).2.2 p hp)).extBut sb.extBut (D.ls q hq).2.1
  · rintro b s' ⟨done, rest', h', us, rfl, hr, rfl, rfl, g1, gT, gz, gu, g2, g3, g4, g5, g6⟩
    cases rest' with
    | cons p t =>
      rw [show itRefs (p :: t) = .ref p.1 :: itRefs t from rfl, List.zipIdx_cons] at hr
      cases hr
    | nil =>
      rw [List.append_nil] at *
      have eu : us.toList = done.map (itm X i) := by rw [← gu, ← gz, ← Array.length_toList, List.take_length]
      refine wpAny_bind (wpAny_seqItems (s := { s with heap := h' }) gT rfl ?_)
      show wpAny _ _ (newTuple us.toList >>= _) _ _ _
      rw [eu]
      refine wpAny_bind (wpAny_newTuple ?_ (by simp; exact Nat.le_trans hlen (by decide)))
      have hp : IsTupN (h'.push { cls := .type "tuple", data := .seq (done.map (itm X i)).toArray }) h'.objs.size (done.map (itm X i)).toArray := Heap.get?_push_size _ rfl
      have hz4 : (h'.push { cls := .type "tuple", data := .seq (done.map (itm X i)).toArray }).objs.size = h'.objs.size + 1 := Heap.size_push ..
      have hz₆ : IsZip (h'.push { cls := .type "tuple", data := .seq (done.map (itm X i)).toArray }) z TI TO .ellipsis := Heap.get?_push_of_some _ g1
      have hzlt : z < h'.objs.size := Heap.lt_size g1
      generalize hh : h'.push { cls := .type "tuple", data := .seq (done.map (itm X i)).toArray } = h₆ at hp hz4 hz₆
      have up6 : ∀ c o, h'.get? c = some o → h₆.get? c = some o := fun c o e => by rw [← hh]; exact Heap.get?_push_of_some _ e
      show wpAny _ _ (Builtin.SmallTypes.ownedTupleHandOut (.ref z) (.ref h'.objs.size) >>= _) _ _ { s with heap := h₆ }
      refine wpAny_bind ?_
      unfold Builtin.SmallTypes.ownedTupleHandOut
      refine wpAny_bind (wpAny_setField_rec hz₆ (by simp) fun h₇ hz₇ hs₇ => ?_)
      replace hz₇ : IsZip h₇ z TI TO (rawInt h'.objs.size) := hz₇
      refine wpAny_setField_rec hz₇ (by simp) fun h₈ hz₈ hs₈ => ?_
      replace hz₈ : IsZipHeld h₈ z TI TO h'.objs.size false := hz₈
      replace hs₇ : Heap.SameBut z h₆ h₇ := hs₇
      replace hs₈ : Heap.SameBut z h₇ h₈ := hs₈
      have up : ∀ c o, c ≠ z → h'.get? c = some o → h₈.get? c = some o := fun c o c1 e => hs₈.extBut _ _ c1 (hs₇.extBut _ _ c1 (up6 c o e))
      have hp8 : IsTupN h₈ h'.objs.size (done.map (itm X i)).toArray := hs₈.extBut _ _ (Nat.ne_of_gt hzlt) (hs₇.extBut _ _ (Nat.ne_of_gt hzlt) hp)
      have hz8 : h₈.objs.size = h'.objs.size + 1 := by rw [hs₈.1, hs₇.1, hz4]
      refine wpAny_pure ⟨_, rfl, ?_⟩
      show Q (.ref h'.objs.size) { s with heap := h₈ }
      rw [g5] at hz₈ hp8 hz8 ⊢
      exact hQ h₈ hz₈ (fun p hp => (g2 p hp).at fun o e => up _ o (D.it p hp).1 e) hp8 hz8 fun c o c1 c2 c3 e => up c o c1 (g6 c o c1 c2 c3 e)
  · exact ⟨[], ps, g0, ts, rfl, rfl, rfl, rfl, hz0, hs0.extBut _ _ D.TOz hTO, hts, rfl, (fun p hp => by cases hp), fun p hp => (h1 p hp).extBut hs0.extBut (D.it p hp).1, fun p hp => (h2 p hp).extBut hs0.extBut (D.ls p hp).1, hs0.1, fun c o c1 _ _ e => hs0.extBut _ _ c1 e⟩
theorem zipN_next_end {p0 : Addr × Addr} {pt : List (Addr × Addr)} {f : Bool} {oT : Obj} {Q : Fin → Shared → Prop} (hh : A.handled = none) (D : ZApN z TI TO (p0 :: pt))
    (hz : IsZipHeld s.heap z TI TO T f) (hT : s.heap.get? T = some oT) (hTI : IsTupN s.heap TI (itRefs (p0 :: pt)).toArray)
    (h1 : s.heap.IsListIter p0.1 p0.2 i) (h2 : s.heap.IsList p0.2 (X p0.2)) (hX : (X p0.2).size = i)
    (hE : ∀ h' e, (∀ c o, c ≠ z → c ≠ p0.1 → s.heap.get? c = some o → h'.get? c = some o) → (∃ o, h'.get? e = some o ∧ o.cls = .type "StopIteration") → E (.ref e) { s with heap := h' }) :
    wpAny (model prog w) A (Builtin.«zip.__next__» ⟨[.ref z], []⟩) Q E s := by
  have hp : p0 ∈ p0 :: pt := by simp
  obtain ⟨d1, d2, d3⟩ := D.it p0 hp
  obtain ⟨k1, k2, k3⟩ := D.ls p0 hp
  show wpAny _ _ (field (.ref z) 2 >>= _) _ _ _
  refine wpAny_bind (wpAny_field hz rfl (x := .bool false) rfl ?_)
  show wpAny _ _ (field (.ref z) 3 >>= _) _ _ _
  refine wpAny_bind (wpAny_field hz rfl (x := .ref TI) rfl ?_)
  refine wpAny_bind (wpAny_seqItems hTI rfl ?_)
  have hie : (itRefs (p0 :: pt)).toArray.isEmpty = false := rfl
  simp only [hie, Bool.false_eq_true, if_false]
  show wpAny _ _ (Builtin.SmallTypes.ownedTupleIsFree (.ref z) >>= _) _ _ _
  refine wpAny_bind (wpAny_tupleHeld_zip hz hT fun h₁ hz₁ hs₁ => ?_)
  simp only [Bool.false_eq_true, if_false]
  refine wpAny_bind ?_
  rw [← Array.forIn_toList]
  show wpAny _ _ (forIn (.ref p0.1 :: itRefs pt) _ _) _ _ _
  rw [List.forIn_cons]
  refine wpAny_bind (wpAny_bind (wpAny_holding ?_))
  show wpAny _ _ (Builtin.SmallTypes.nextOf (.ref p0.1) >>= _) _ _ _
  refine wpAny_bind (wpAny_nextOf_list_end (s := { s with heap := h₁ }) hh (h1.extBut hs₁.extBut d1) (h2.extBut hs₁.extBut k1) (by rw [Array.getElem?_eq_none (by omega)]) fun h₂ e hs₂ he => ?_)
  exact hE h₂ e (fun c o c1 c2 x => hs₂ _ _ c2 (hs₁.extBut _ _ c1 x)) he
end
end L2.My
namespace Lw
end Lw
set_option exponentiation.threshold 20000
local macro_rules | `(tactic| walk_at "wp") => `(tactic| try simp only [L2.My.Wp.ok_bind, L2.My.Wp.bind_ok, L2.My.Wp.bind_assoc, L2.My.Wp.req_bind, L2.My.Wp.bind_out, L2.My.Wp.ret_out, L2.My.Wp.raise_bind, L2.My.Wp.raise_out, L2.My.Wp.req_out, L2.My.Wp.bind_seq, L2.My.Wp.ok_seq, L2.My.Wp.ret_seq, L2.My.Wp.req_seq, L2.My.Wp.bind_up, L2.My.Wp.ret_up, L2.My.Wp.brk_up, L2.My.Wp.cnt_up, L2.My.Wp.req_up, L2.My.Wp.raise_up, L2.My.Wp.nox_ok, L2.My.Wp.nox_bind, L2.My.Wp.nox_req, L2.My.Wp.nox_get, L2.My.Wp.nox_nox, L2.My.Wp.ap, Lw.mkQ_self])
namespace Lw
open PySem PySem.Spec PyProof.Rows L2 L2.My
end Lw
namespace L2.My
open PySem PySem.Spec PyProof.Rows L2
section
variable {prog : Program} {w : World} {A : Around} {E : Value → Shared → Prop} {s : Shared} {z TI TO S M N0 : Addr} {ps : List (Addr × Addr)} {X : Addr → Array Value} {h0 h h' : Heap} {i n : Nat} {Ts : List Addr}
structure ZSt (z TI TO M N0 : Addr) (ps : List (Addr × Addr)) (X : Addr → Array Value) (h0 : Heap) (i : Nat) (h : Heap) (Ts : List Addr) : Prop where
  zp : (i = 0 ∧ IsZip h z TI TO .none ∧ ∃ ts : Array Value, IsTupN h TO ts ∧ ts.size = ps.length) ∨ ∃ T f, IsZipHeld h z TI TO T f ∧ T ∈ Ts
  ti : IsTupN h TI (itRefs ps).toArray
  it : ∀ p ∈ ps, h.IsListIter p.1 p.2 i
  ls : ∀ p ∈ ps, h.IsList p.2 (X p.2)
  tl : Ts.length = i
  tt : ∀ j T, Ts[j]? = some T → IsTupN h T (ps.map (itm X j)).toArray ∧ M ≤ T ∧ T < h.objs.size
  inc : Ts.Pairwise (· < ·)
  sz : M ≤ h.objs.size
  keep : ∀ c o, c < N0 → h0.get? c = some o → h.get? c = some o
structure ZCells (z TI TO S M N0 : Addr) (ps : List (Addr × Addr)) : Prop where
  D : ZApN z TI TO ps
  lo : N0 ≤ z ∧ N0 ≤ TI ∧ N0 ≤ TO ∧ N0 ≤ S ∧ ∀ p ∈ ps, N0 ≤ p.1
  hi : z < M ∧ TI < M ∧ TO < M ∧ S < M ∧ ∀ p ∈ ps, p.1 < M
  S : S ≠ z ∧ S ≠ TI ∧ S ≠ TO ∧ ∀ p ∈ ps, S ≠ p.1
  ls : ∀ p ∈ ps, p.2 < N0
theorem aGe {a b c : Addr} (h : a < b) (h' : b ≤ c) : c ≠ a := Nat.ne_of_gt (Nat.lt_of_lt_of_le h h')
theorem aLt {a b c : Addr} (h : a < b) (h' : b ≤ c) : a ≠ c := Nat.ne_of_lt (Nat.lt_of_lt_of_le h h')
theorem ZSt.step (C : ZCells z TI TO S M N0 ps) (st : ZSt z TI TO M N0 ps X h0 i h Ts) (hz : ∃ T f, IsZipHeld h' z TI TO T f ∧ (T ∈ Ts ∨ T = h.objs.size)) (hit : ∀ p ∈ ps, h'.IsListIter p.1 p.2 (i + 1)) (hT : IsTupN h' h.objs.size (ps.map (itm X i)).toArray) (hsz : h'.objs.size = h.objs.size + 1)
    (hk : ∀ c o, c ≠ z → c ≠ TO → (∀ p ∈ ps, c ≠ p.1) → h.get? c = some o → h'.get? c = some o) : ZSt z TI TO M N0 ps X h0 (i + 1) h' (Ts ++ [h.objs.size]) := by
  obtain ⟨lo1, lo2, lo3, lo4, lo5⟩ := C.lo
  obtain ⟨hi1, hi2, hi3, hi4, hi5⟩ := C.hi
  have hsz0 := st.sz
  refine ⟨.inr ?_, hk _ _ C.D.TIz C.D.TITO (fun p hp => (C.D.it p hp).2.1.symm) st.ti, hit, fun p hp => (st.ls p hp).at fun o e => hk _ o (C.D.ls p hp).1 (C.D.ls p hp).2.1 (C.D.ls p hp).2.2 e, by rw [List.length_append, st.tl]; rfl, fun j T hj => ?_, ?_, by rw [hsz]; exact Nat.le_succ_of_le hsz0, fun c o hc e => ?_⟩
  · obtain ⟨T, f, q1, q2⟩ := hz
    exact ⟨T, f, q1, by rcases q2 with q2 | q2 <;> simp [q2]⟩
  · by_cases c : j < Ts.length
    · rw [List.getElem?_append_left c] at hj
      obtain ⟨q1, q2, q3⟩ := st.tt j T hj
      exact ⟨hk _ _ (aGe hi1 q2) (aGe hi3 q2) (fun p hp => aGe (hi5 p hp) q2) q1, q2, by rw [hsz]; exact Nat.lt_succ_of_lt q3⟩
    · rw [List.getElem?_append_right (by omega)] at hj
      have hj0 : j - Ts.length = 0 := by
        rcases Nat.eq_zero_or_pos (j - Ts.length) with q | q
        · exact q
        · rw [List.getElem?_eq_none (by simp; omega)] at hj; cases hj
      rw [hj0] at hj
      cases hj
      have : j = i := by have := st.tl; omega
      subst this
      exact ⟨hT, hsz0, by rw [hsz]; exact Nat.lt_succ_self _⟩
  · refine List.pairwise_append.mpr ⟨st.inc, by simp, fun a ha b hb => ?_⟩
    rw [List.mem_singleton] at hb
    subst hb
    obtain ⟨j, hj⟩ := List.getElem?_of_mem ha
    exact (st.tt j a hj).2.2
  · exact hk c o (aLt hc lo1) (aLt hc lo3) (fun p hp => aLt hc (lo5 p hp)) (st.keep c o hc e)
theorem ZSt.item {Q : Option Value → Shared → Prop} (C : ZCells z TI TO S M N0 ps) (hne : ps ≠ []) (hlen : ps.length ≤ 1000) (st : ZSt z TI TO M N0 ps X h0 i s.heap Ts) (hX : ∀ p ∈ ps, i < (X p.2).size)
    (hQ : ∀ T h', ZSt z TI TO M N0 ps X h0 (i + 1) h' (Ts ++ [T]) → (∀ o, s.heap.get? S = some o → h'.get? S = some o) → Q (some (.ref T)) { s with heap := h' }) : wpAny (model prog w) A (pyNext (.ref z)) Q E s := by
  obtain ⟨d1, d2, d3, d4⟩ := C.S
  rcases st.zp with ⟨rfl, hz, ts, hTO, hts⟩ | ⟨T, f, hz, hT⟩
  · have hTy : s.TypeIs (.ref z) "zip" := ⟨_, hz, rfl⟩
    unfold pyNext
    refine wpAny_bind (wpAny_attempt (wpAny_callSpecial?_slot (name := Str.ofString "__next__") hTy F.slot_zip_next
      (wpAny_call_entry F.slot_zip_next hTy F.entry_zip_next (zipN_next_free C.D hne hz st.ti hTO hts st.it st.ls hX hlen fun h' q1 q2 q3 q4 q5 => wpAny_pure (hQ _ h' (st.step C ⟨_, _, q1, .inr rfl⟩ q2 q3 q4 q5) fun o e => q5 S o d1 d3 d4 e)) (F.args_zip_next_1 _))))
  · have hTy : s.TypeIs (.ref z) "zip" := ⟨_, hz, rfl⟩
    obtain ⟨j, hj⟩ := List.getElem?_of_mem hT
    unfold pyNext
    refine wpAny_bind (wpAny_attempt (wpAny_callSpecial?_slot (name := Str.ofString "__next__") hTy F.slot_zip_next
      (wpAny_call_entry F.slot_zip_next hTy F.entry_zip_next (zipN_next_held C.D hne hz (st.tt j T hj).1 st.ti st.it st.ls hX hlen fun h' q1 q2 q3 q4 q5 => wpAny_pure (hQ _ h' (st.step C ⟨_, _, q1, .inl hT⟩ q2 q3 q4 fun c o c1 _ c3 e => q5 c o c1 c3 e) fun o e => q5 S o d1 d4 e)) (F.args_zip_next_1 _))))
structure ZEnd (S M N0 : Addr) (ps : List (Addr × Addr)) (X : Addr → Array Value) (h0 : Heap) (n : Nat) (h : Heap) (Ts : List Addr) : Prop where
  tl : Ts.length = n
  tt : ∀ j T, Ts[j]? = some T → IsTupN h T (ps.map (itm X j)).toArray ∧ M ≤ T
  inc : Ts.Pairwise (· < ·)
  keep : ∀ c o, c < N0 → h0.get? c = some o → h.get? c = some o
  ls : ∃ c : Nat, h.get? S = some { cls := .type "list", dict := none, data := .seq (Ts.map Value.ref).toArray c, slots := #[] }
theorem ZSt.done {Q : Option Value → Shared → Prop} {c : Nat} (hh : A.handled = none) (C : ZCells z TI TO S M N0 ps) (hne : ps ≠ []) (hn : 0 < n) (st : ZSt z TI TO M N0 ps X h0 n s.heap Ts) (hX : ∀ p ∈ ps, (X p.2).size = n)
    (hS : s.heap.get? S = some { cls := .type "list", dict := none, data := .seq (Ts.map Value.ref).toArray c, slots := #[] })
    (hQ : ∀ h', ZEnd S M N0 ps X h0 n h' Ts → Q none { s with heap := h' }) : wpAny (model prog w) A (pyNext (.ref z)) Q E s := by
  obtain ⟨d1, d2, d3, d4⟩ := C.S
  obtain ⟨lo1, lo2, lo3, lo4, lo5⟩ := C.lo
  obtain ⟨hi1, hi2, hi3, hi4, hi5⟩ := C.hi
  cases ps with
  | nil => exact absurd rfl hne
  | cons p0 pt =>
    have hp : p0 ∈ p0 :: pt := by simp
    rcases st.zp with ⟨rfl, _⟩ | ⟨T, f, hz, hT⟩
    · omega
    · have hTy : s.TypeIs (.ref z) "zip" := ⟨_, hz, rfl⟩
      obtain ⟨j, hj⟩ := List.getElem?_of_mem hT
      unfold pyNext
      refine wpAny_bind (wpAny_attempt (wpAny_callSpecial?_slot (name := Str.ofString "__next__") hTy F.slot_zip_next
        (wpAny_call_entry F.slot_zip_next hTy F.entry_zip_next (zipN_next_end hh C.D hz (st.tt j T hj).1 st.ti (st.it p0 hp) (st.ls p0 hp) (hX p0 hp) fun h' e hk he => ?_) (F.args_zip_next_1 _))))
      obtain ⟨o, ho, hc⟩ := he
      refine wpAny_bind (wpAny_isInstance (T := "StopIteration") (b := true) ⟨o, ho, hc⟩ isSubtype_stop ?_)
      refine wpAny_pure (hQ _ ⟨st.tl, fun j T hj => ?_, st.inc, fun c o hc e => ?_, _, hk _ _ d1 (d4 p0 hp) hS⟩)
      · obtain ⟨q1, q2, q3⟩ := st.tt j T hj
        exact ⟨hk _ _ (aGe hi1 q2) (aGe (hi5 p0 hp) q2) q1, q2⟩
      · exact hk c o (aLt hc lo1) (aLt hc (lo5 p0 hp)) (st.keep c o hc e)
end
section
variable {prog : Program} {w : World} {A : Around} {R : Result → Shared → Prop} {z TI TO S M N0 : Addr} {ps : List (Addr × Addr)} {X : Addr → Array Value} {h0 : Heap} {n : Nat}
end
end L2.My
namespace Lw
end Lw
set_option exponentiation.threshold 20000
local macro_rules | `(tactic| walk_at "wp") => `(tactic| try simp only [L2.My.Wp.ok_bind, L2.My.Wp.bind_ok, L2.My.Wp.bind_assoc, L2.My.Wp.req_bind, L2.My.Wp.bind_out, L2.My.Wp.ret_out, L2.My.Wp.raise_bind, L2.My.Wp.raise_out, L2.My.Wp.req_out, L2.My.Wp.bind_seq, L2.My.Wp.ok_seq, L2.My.Wp.ret_seq, L2.My.Wp.req_seq, L2.My.Wp.bind_up, L2.My.Wp.ret_up, L2.My.Wp.brk_up, L2.My.Wp.cnt_up, L2.My.Wp.req_up, L2.My.Wp.raise_up, L2.My.Wp.nox_ok, L2.My.Wp.nox_bind, L2.My.Wp.nox_req, L2.My.Wp.nox_get, L2.My.Wp.nox_nox, L2.My.Wp.ap, Lw.mkQ_self])
namespace Lw
open PySem PySem.Spec PyProof.Rows L2 L2.My
end Lw
namespace L2.My
open PySem PySem.Spec PyProof.Rows L2
def psOf : Nat → List Addr → List (Addr × Addr)
  | _, [] => []
  | N, l :: t => (N, l) :: psOf (N + 1) t
section
variable {prog : Program} {w : World} {A : Around} {E : Value → Shared → Prop} {s : Shared} {X : Addr → Array Value} {ls : List Addr}
end
end L2.My
namespace Lw
end Lw
set_option exponentiation.threshold 20000
local macro_rules | `(tactic| walk_at "wp") => `(tactic| try simp only [L2.My.Wp.ok_bind, L2.My.Wp.bind_ok, L2.My.Wp.bind_assoc, L2.My.Wp.req_bind, L2.My.Wp.bind_out, L2.My.Wp.ret_out, L2.My.Wp.raise_bind, L2.My.Wp.raise_out, L2.My.Wp.req_out, L2.My.Wp.bind_seq, L2.My.Wp.ok_seq, L2.My.Wp.ret_seq, L2.My.Wp.req_seq, L2.My.Wp.bind_up, L2.My.Wp.ret_up, L2.My.Wp.brk_up, L2.My.Wp.cnt_up, L2.My.Wp.req_up, L2.My.Wp.raise_up, L2.My.Wp.nox_ok, L2.My.Wp.nox_bind, L2.My.Wp.nox_req, L2.My.Wp.nox_get, L2.My.Wp.nox_nox, L2.My.Wp.ap, Lw.mkQ_self])
namespace Lw
open PySem PySem.Spec PyProof.Rows L2 L2.My
end Lw
namespace L2.My
open PySem PySem.Spec PyProof.Rows L2
section
variable {M : Model} {A : Around} {E : Value → Shared → Prop} {s : Shared}
end
section
variable {prog : Program} {w : World} {A : Around} {E : Value → Shared → Prop} {s : Shared}
def tZipN (K : PySem.W.Frag) (te : TE) : TE := fun σ H Q => te σ H fun v H1 => ∃ (a : Addr) (ls : List Addr) (cols : Addr → List V) (n : Nat), v = .ref a ∧ SqL K H1 a (ls.map V.ref) ∧ ls ≠ [] ∧ ls.length ≤ 1000 ∧ 0 < n ∧ n ≤ 1000 ∧ (∀ l ∈ ls, SqL K H1 l (cols l) ∧ (cols l).length = n) ∧
  ∀ (D : Addr) (Ts : List Addr) (H2 : Hp), Ts.length = n → Ts.Nodup → D ∉ Ts → H1 D = none → (∀ T ∈ Ts, H1 T = none) → H2 D = some (.lst (Ts.map V.ref)) → (∀ j T, Ts[j]? = some T → H2 T = some (.tup (ls.map fun l => (cols l).getD j .non))) → (∀ b, b ≠ D → b ∉ Ts → H2 b = H1 b) → Q (.ref D) H2
end
end L2.My
namespace Lw
end Lw
namespace L2.My
open PySem PySem.Spec PyProof.Rows L2
section
variable {P : Program} {w : World} {K : PySem.W.Frag} {mg : Str → Option Value} {base : Heap} {k : Nat} {x m : Str} {ps : List Str} {sp sp' : Sp} {C : Addr}
theorem fnc_imp (h : Fnc P w K mg base k x ps sp) (i : ∀ vs H Q E, sp' vs H Q E → sp vs H Q E) : Fnc P w K mg base k x ps sp' := by
  obtain ⟨f, fd, g, kp, b, h⟩ := h
  exact ⟨f, fd, g, kp, b, h.imp i⟩
end
end L2.My
namespace L2.My
open PySem PySem.Spec PyProof.Rows L2
def IteK (K : PySem.W.Frag) (k : Bool) (a : Addr) : It :=
  ⟨fun i H => ∃ (xs : List V) (x : V), SqK k K H a xs ∧ xs[i]? = some x,
   fun i H v H' => ∃ T x, v = .ref T ∧ H T = none ∧ H' = upd H T (.tup [.int (i : Nat), x]) ∧ ∀ xs, SqK k K H a xs → xs[i]? = some x,
   fun i H => ∃ xs : List V, SqK k K H a xs ∧ i = xs.length⟩
section
variable {P : Program} {w : World} {K : PySem.W.Frag} {A : Around} {a e it : Addr}
def iEnumK (K : PySem.W.Frag) (ta : TA) : TI := fun σ H R => ta σ H fun vs H1 => ∃ k a xs, vs = [.ref a] ∧ SqK k K H1 a xs ∧ R (IteK K k a) H1
end
section
variable {α : Type} {K : PySem.W.Frag} {E : ZK K} {tr : TA} {Γ : List Cn} {r : RT α} {F : Hp} {a : Addr} {ws : List V}
def numI (xs : List α) : List (Int × α) := (rngI 0 xs.length).zip xs
end
end L2.My
namespace L2.My
open PySem PySem.Spec PyProof.Rows L2
namespace Wp
variable {α : Type}
def try_ (cs : List Str) (m : Wp α) (h : Err → Wp α) : Wp α := ⟨fun A B => m.run A (fun e => e.c ∈ cs ∧ (h e).run A B), fun ha hb => m.mono ha (fun e z => ⟨z.1, (h e).mono ha hb z.2⟩)⟩
end Wp
def Fz : List Cn → Hp → L2.St → Prop
  | [], _, [] => True
  | .any :: Γ, F, _ :: σ => Fz Γ F σ
  | .frz r x :: Γ, F, o :: σ => (∃ v, o = some v ∧ r.rel F v x) ∧ Fz Γ F σ
  | _, _, _ => False
section
variable {F F' H H' : Hp} {Γ Γh : List Cn} {M M' : List Addr}
theorem Fz.mono (e : Ext F F') : ∀ {Γ : List Cn} {σ : L2.St}, Fz Γ F σ → Fz Γ F' σ
  | [], [], _ => trivial
  | .any :: _, _ :: σ, h => Fz.mono (σ := σ) e h
  | .frz r x :: _, o :: σ, h => ⟨by
      obtain ⟨v, h1, h2⟩ := h.1
      exact ⟨v, h1, r.mono e h2⟩, Fz.mono (σ := σ) e h.2⟩
theorem Fz.hol : ∀ {Γ : List Cn} {σ : L2.St}, Fz Γ F σ → Hol Γ F H (σ.map fun _ => []) σ
  | [], [], _ => trivial
  | .any :: _, o :: σ, h => ⟨rfl, by simp, Fz.hol (σ := σ) h⟩
  | .frz r x :: _, o :: σ, h => ⟨⟨rfl, h.1⟩, by simp, Fz.hol (σ := σ) h.2⟩
def FzLe (Γ Γh : List Cn) : Prop := ∀ F H fps σ, Hol Γ F H fps σ → Fz Γh F σ
theorem fz_nil : FzLe [] [] := fun F H fps σ h => match fps, σ, h with
  | [], [], _ => trivial
theorem fz_any {c : Cn} (h : FzLe Γ Γh) : FzLe (c :: Γ) (.any :: Γh) := fun F H fps σ z => match fps, σ, z with
  | _ :: fps, _ :: σ, z => h F H fps σ z.2.2
theorem fz_frz {α : Type} {r : RT α} {x : α} (h : FzLe Γ Γh) : FzLe (.frz r x :: Γ) (.frz r x :: Γh) := fun F H fps σ z => match fps, σ, z with
  | _ :: fps, _ :: σ, z => ⟨z.1.2, h F H fps σ z.2.2⟩
theorem flat_nil : ∀ (σ : L2.St), (σ.map fun _ => ([] : List Addr)).flatten = []
  | [] => rfl
  | _ :: σ => flat_nil σ
theorem map_set_nil : ∀ (σ : L2.St) (i : Nat), (σ.map fun _ => ([] : List Addr)).set i [] = σ.map fun _ => []
  | [], _ => rfl
  | _ :: σ, 0 => rfl
  | _ :: σ, i + 1 => by
    show [] :: (σ.map fun _ => ([] : List Addr)).set i [] = _
    rw [map_set_nil σ i]; rfl
end
def zT (K : PySem.W.Frag) (W : WX) (Γh : List Cn) : ZK K where
  X := fun _ _ _ => True
  B := fun M F H e => ∀ cls d F' H' M' σ, Stp M F H M' F' H' → Fz Γh F' σ → ErrIs K e cls d F' → WE W σ cls d H'
  step := fun s h cls d F' H' M' σ s' => h cls d F' H' M' σ (s.trans s')
  es := fun _ _ _ _ _ _ _ _ _ => trivial
def tExc (K : PySem.W.Frag) (a : Addr) (cls : Value) (d : Option Addr) (e : Err) : RT Unit := ⟨fun F v _ => v = .ref a ∧ ErrIs K e cls d F, fun x h => ⟨h.1, h.2.1, by
  have := h.2.2
  revert this
  cases e.f with
  | none => exact fun z => z
  | some p => rintro ⟨b, h1, h2⟩; exact ⟨b, h1, x _ _ h2⟩⟩⟩
section
variable {α β S L R : Type} {K : PySem.W.Frag} {E : ZK K} {Γ Γh : List Cn} {r : RT α} {W : WX}
theorem zt_down {F H : Hp} {fps : List (List Addr)} {σ : L2.St} {e : Err} (hz : FzLe Γ Γh) (hol : Hol Γ F H fps σ) (z : (zT K W Γh).B [] F H e) : (zk K (WE W σ)).B [] F H e :=
  fun cls d F' H' M' s he => z cls d F' H' M' σ s ((hz F H fps σ hol).mono s.n.ff) he
theorem Hol.set_any {F H : Hp} {o : Option V} : ∀ {Γ : List Cn} {fps : List (List Addr)} {σ : L2.St} {i : Nat}, Cn.get Γ i = some .any → Hol Γ F H fps σ → Hol Γ F H fps (σ.set i o)
  | [], [], [], _, h, _ => by cases h
  | c :: Γ, fp :: fps, q :: σ, 0, h, z => by
    cases h
    exact ⟨z.1, z.2.1, z.2.2⟩
  | c :: Γ, fp :: fps, q :: σ, i + 1, h, z => ⟨z.1, z.2.1, Hol.set_any (i := i) (show Cn.get Γ i = some .any from h) z.2.2⟩
  | [], _ :: _, _, _, _, z => z.elim
  | [], [], _ :: _, _, _, z => z.elim
  | _ :: _, [], _, _, _, z => z.elim
  | _ :: _, _ :: _, [], _, _, z => z.elim
theorem sv_try {G : S → List Cn} {GL : L → List Cn} {rr : RR R} {tb : WX → List (Addr × Obj) → (Value → Shared → Prop) → TS} {ts : Addr → Value → Option Addr → Obj → List (Addr × Obj) → TS} {cs : List Str} {c : Value} {i : Nat} {m : Wp (Fl S L R)} {h : Err → Wp (Fl S L R)}
    (hb : ∀ W pn xe, Sv K (zT K W Γh) (tb W pn xe) Γ G GL rr m) (hc : ∀ q ∈ cs, PySem.W.exmOne K (.ref (He.ga K q)) c = some true)
    (hx : ∀ a cls d oe pn e, e.c ∈ cs → Sv K E (ts a cls d oe pn) (Cn.put Γh i (.frz (tExc K a cls d e) ())) G GL rr (h e))
    (hG : ∀ s, Cn.get (G s) i = some .any) (hL : ∀ s, Cn.get (GL s) i = some .any) : Sv K E (tTryA K c i tb ts) Γ G GL rr (Wp.try_ cs m h) := by
  intro D F H σ fps ext hol hm pn xe
  refine hb _ pn xe D F H σ fps ext hol (m.mono (fun _ z => z) (fun e z => ?_) hm)
  obtain ⟨z1, z2⟩ := z
  intro cls d F' H' M' σ2 s fz he
  refine ⟨true, by rw [he.1]; exact hc _ z1, fun _ a ha oe pn' => ?_, fun z => nomatch z⟩
  have hol2 : Hol (Cn.put Γh i (.frz (tExc K a cls d e) ())) F' H' (σ2.map fun _ => []) (σ2.set i (some (.ref a))) := by
    have := (fz.hol (H := H')).store (i := i) (v := .ref a) (c := .frz (tExc K a cls d e) ()) (Nx.refl s.n.fh) ⟨rfl, _, rfl, rfl, he⟩
    rw [map_set_nil] at this
    exact this
  refine hx a cls d oe pn' e z1 _ F' H' _ _ s.n.fh hol2 ?_
  have s' : Stp fps.flatten F H (σ2.map fun _ => ([] : List Addr)).flatten F' H' := s.trans (Stp.refl s.n.fh (by rw [flat_nil]; simp))
  refine (h e).mono (fun z hz => ?_) (fun _ => E.step s') z2
  have hz := Pst.step s' hz
  cases z with
  | nx x => exact fun F1 H1 fps1 σ1 s1 hol1 => hz F1 H1 fps1 _ s1 (hol1.set_any (hG x))
  | brk x => exact fun F1 H1 fps1 σ1 s1 hol1 => hz F1 H1 fps1 _ s1 (hol1.set_any (hL x))
  | cnt x => exact fun F1 H1 fps1 σ1 s1 hol1 => hz F1 H1 fps1 _ s1 (hol1.set_any (hL x))
  | ret x => exact hz
def whatW (e : Err) : Wp Str := match e.f with
  | some (k, .str r) => .req (k = "what" ∧ PyData.strOk r = true ∧ r.length ≤ 1000000) (.ok r)
  | _ => .stuck
def atW (e : Err) : Wp Int := match e.f with
  | some (k, .int r) => .req (k = "at") (.ok r)
  | _ => .stuck
theorem evp_exAt {a : Addr} {cls : Value} {d : Option Addr} {e : Err} {i : Nat} {C : Str} (hi : Cn.get Γ i = some (.frz (tExc K a cls d e) ())) : EvP K E (tByAt (He.ga K C) a cls d (tVar i)) Γ tInt (.req (e.c = C) (atW e)) := by
  rintro F H σ fps Q ext hol ⟨rfl, hm⟩
  obtain ⟨fp, o, h1, h2, rfl, v, rfl, rfl, he⟩ := hol.get hi
  obtain ⟨he1, he2⟩ := he
  unfold atW at hm
  cases q : e.f with
  | none => rw [q] at hm; exact hm.elim
  | some p =>
    rw [q] at hm he2
    obtain ⟨k, w⟩ := p
    cases w with
    | int s =>
      obtain ⟨hk, hm⟩ := hm
      subst hk
      obtain ⟨dd, rfl, hd⟩ := he2
      exact ⟨_, h2, rfl, he1, dd, _, rfl, ext _ _ hd, hm _ F H (Nx.refl ext) rfl⟩
    | _ => exact hm.elim
end
end L2.My
namespace L2.My
open PySem PySem.Spec PyProof.Rows L2 Lw
section
variable {α β γ : Type} {K : PySem.W.Frag} {Γ Γh : List Cn} {W : WX} {tr : TA} {ta : TE}
theorem zt_ek {F H F1 H1 : Hp} {fps : List (List Addr)} {σ : L2.St} {e : Err} (hz : FzLe Γ Γh) (hol : Hol Γ F H fps σ) (n : Nx [] F H F1 H1) (z : (zT K W Γh).B [] F H e) : Ek K (WE W σ) F1 H1 e :=
  (Es.step' (M1 := []) (Stp.of_nx n (fun _ z => z)) (show Es K (WE W σ) [] F H e from zt_down hz hol z)).ek'
theorem evp_callZ {ra : RA α} {r : RT β} {f : α → Wp β} {m : Wp α} (hz : FzLe Γ Γh) (ha : EvA K (zT K W Γh) tr Γ ra m) : EvP K (zT K W Γh) (tCallZ (spP K ra r f) [] (WE W) tr) Γ r (m.bind f) := by
  intro F H σ fps Q e hol hm
  refine ha F H σ fps _ e hol (m.mono (fun x hm => ?_) (fun _ z => z) hm)
  intro vs F1 H1 n1 hv
  exact ⟨F1, x, n1.fh, by rw [List.append_nil]; exact hv, (f x).mono (fun _ => Rk.step n1) (fun _ => zt_ek hz hol n1) hm⟩
def tOr (r : RT α) (r' : RT β) : RT (α ⊕ β) := ⟨fun F v x => match x with | .inl a => r.rel F v a | .inr b => r'.rel F v b, fun {F F' v x} e h => by
  cases x with
  | inl a => exact r.mono e h
  | inr b => exact r'.mono e h⟩
def lefW (x : α ⊕ β) : Wp α := Wp.get x.getLeft?
def rigW (x : α ⊕ β) : Wp β := Wp.get x.getRight?
end
end L2.My
namespace L2.My
open PySem PySem.Spec PyProof.Rows L2 Lw
section
variable {α β γ : Type} {K : PySem.W.Frag} {E : ZK K} {Γ : List Cn} {te : TE} {r : RT α} {r' : RT β} {r2 : RT γ}
def TyK (K : PySem.W.Frag) (r : RT α) (t : α → Value) : Prop := ∀ F H v x, Ext F H → r.rel F v x → TyX K H v (t x)
def orP {α' β' : Type} : (α × β) ⊕ (α' × β') → (α ⊕ α') × (β ⊕ β')
  | .inl y => (.inl y.1, .inl y.2)
  | .inr y => (.inr y.1, .inr y.2)
theorem evp_same [Dat r] {tr : TA} {m : Wp (α × α × Unit)} (hn : Dat.n r + 1 ≤ 6) (ha : EvA K E tr Γ (raC r (raC r raN)) m) : EvP K E (tCall (spSame K 6) [] E.X tr) Γ tBool (m.bind fun x => .req (x.1 = x.2.1) (.ok true)) :=
  evp_cal (o := fun vs σ H1 Q => spSame K 6 (vs ++ []) H1 Q E.X) (fun _ _ _ h => h) (fun F H vs x Q σ e hv hm => by
    obtain ⟨v, ws, rfl, h1, w, us, rfl, h2, h3⟩ := hv
    obtain ⟨hq, hm⟩ := hm
    rw [← hq] at h2
    refine ⟨v, w, Dat.enc r x.1, by rw [show us = [] from h3]; rfl, Dat.dp K e h1, Dat.dp K e h2, dOk_mono hn (Dat.ok h1), hm _ F H (Nx.refl e) rfl⟩) ha
end
end L2.My
namespace Lw
open PySem PySem.Spec PyProof.Rows L2 L2.My
section
variable {α : Type} {r : RT α} {F : Hp}
def Inj (r : RT α) : Prop := ∀ F v x y, r.rel F v x → r.rel F v y → x = y
end
end Lw
set_option exponentiation.threshold 20000
local macro_rules | `(tactic| walk_at "wp") => `(tactic| try simp only [L2.My.Wp.ok_bind, L2.My.Wp.bind_ok, L2.My.Wp.bind_assoc, L2.My.Wp.req_bind, L2.My.Wp.bind_out, L2.My.Wp.ret_out, L2.My.Wp.raise_bind, L2.My.Wp.raise_out, L2.My.Wp.req_out, L2.My.Wp.bind_seq, L2.My.Wp.ok_seq, L2.My.Wp.ret_seq, L2.My.Wp.req_seq, L2.My.Wp.bind_up, L2.My.Wp.ret_up, L2.My.Wp.brk_up, L2.My.Wp.cnt_up, L2.My.Wp.req_up, L2.My.Wp.raise_up, L2.My.Wp.nox_ok, L2.My.Wp.nox_bind, L2.My.Wp.nox_req, L2.My.Wp.nox_get, L2.My.Wp.nox_nox, Lw.mkQ_self])
namespace Lw
open PySem PySem.Spec PyProof.Rows L2 L2.My
end Lw
namespace L2.My
open PySem PySem.Spec PyProof.Rows L2
def Wp.ap {σ β : Type} (f : σ → Wp β) (x : σ) : Wp β := f x
section
variable {α β γ δ ι κ σt S S' L R : Type} {K : PySem.W.Frag} {E : ZK K} {te ta tb : TE} {tt tu : TT} {tr : TA} {ts tw tuS : TS} {Γ : List Cn} {r : RT α} {F H F' H' F1 H1 : Hp} {i : Nat} {mt : MT σt} {M M1 : List Addr}
variable {X : ZK K} {G : S → List Cn} {G' : S' → List Cn} {GL : L → List Cn} {rr : RR R}
theorem evs_opA {o : R2} {r1 : RT α} {r2 : RT β} {r3 : RT γ} {f : α → β → Wp γ} {ma : Wp (α × σt)} {mb : σt → Wp (β × σt)} (h : OpV K E o r1 r2 r3 f) (ha : EvS K E ta Γ i mt r1 ma) (hb : ∀ s, EvS K E tb (Cn.put Γ i (.mut mt s)) i mt r2 (mb s)) :
    EvS K E (tOp o ta tb) Γ i mt r3 (ma.bind fun a => (Wp.ap mb a.2).bind fun b => (f a.1 b.1).bind fun c => .ok (c, b.2)) := evs_op h ha hb
theorem evsa_consA {ra : RA β} {ma : Wp (α × σt)} {mb : σt → Wp (β × σt)} (ha : EvS K E ta Γ i mt r ma) (hb : ∀ s, EvSA K E tr (Cn.put Γ i (.mut mt s)) i mt ra (mb s)) : EvSA K E (tCons ta tr) Γ i mt (raC r ra) (ma.bind fun a => (Wp.ap mb a.2).bind fun b => .ok ((a.1, b.1), b.2)) := evsa_cons ha hb
theorem evst_andA {m : Wp (Bool × σt)} {m' : σt → Wp (Bool × σt)} (h : EvST K E tt Γ i mt m) (h' : ∀ s, EvST K E tu (Cn.put Γ i (.mut mt s)) i mt (m' s)) : EvST K E (tAnd tt tu) Γ i mt (m.bind fun b => if b.1 = true then Wp.ap m' b.2 else .ok (false, b.2)) := evst_and h h'
theorem sv_ifSA {mt' : Wp (Bool × σt)} {m m' : σt → Wp (Fl S L R)} (ht : EvST K X tt Γ i mt mt') (h : ∀ s, Sv K X ts (Cn.put Γ i (.mut mt s)) G GL rr (m s)) (h' : ∀ s, Sv K X tw (Cn.put Γ i (.mut mt s)) G GL rr (m' s)) : Sv K X (tIfS tt ts tw) Γ G GL rr (mt'.bind fun b => if b.1 = true then Wp.ap m b.2 else Wp.ap m' b.2) := sv_ifS ht h h'
theorem sv_ifESA {mt' : Wp (Bool × σt)} {m : σt → Wp (Fl Empty L R)} {m' : σt → Wp (Fl S L R)} (ht : EvST K X tt Γ i mt mt') (h : ∀ s, Sv K X ts (Cn.put Γ i (.mut mt s)) (fun z : Empty => z.elim) GL rr (m s)) (h' : ∀ s, Sv K X (tSeq tw tuS) (Cn.put Γ i (.mut mt s)) G GL rr (m' s)) : Sv K X (tSeq (tIfS tt ts tw) tuS) Γ G GL rr (mt'.bind fun b => if b.1 = true then (Wp.ap m b.2).up else Wp.ap m' b.2) := sv_ifES ht h h'
end
end L2.My
namespace Lw
end Lw
set_option exponentiation.threshold 20000
local macro_rules | `(tactic| walk_at "wp") => `(tactic| try simp only [L2.My.Wp.ok_bind, L2.My.Wp.bind_ok, L2.My.Wp.bind_assoc, L2.My.Wp.req_bind, L2.My.Wp.bind_out, L2.My.Wp.ret_out, L2.My.Wp.raise_bind, L2.My.Wp.raise_out, L2.My.Wp.req_out, L2.My.Wp.bind_seq, L2.My.Wp.ok_seq, L2.My.Wp.ret_seq, L2.My.Wp.req_seq, L2.My.Wp.bind_up, L2.My.Wp.ret_up, L2.My.Wp.brk_up, L2.My.Wp.cnt_up, L2.My.Wp.req_up, L2.My.Wp.raise_up, L2.My.Wp.nox_ok, L2.My.Wp.nox_bind, L2.My.Wp.nox_req, L2.My.Wp.nox_get, L2.My.Wp.nox_nox, L2.My.Wp.ap, Lw.mkQ_self])
namespace Lw
open PySem PySem.Spec PyProof.Rows L2 L2.My
end Lw
namespace L2.My
open PySem PySem.Spec PyProof.Rows L2
structure FDs (α : Type) where
  names : List Str
  rel : Hp → List (Str × V) → α → Prop
  mono : ∀ {F F' : Hp} {fs : List (Str × V)} {x : α}, Ext F F' → rel F fs x → rel F' fs x
  nm : ∀ {F : Hp} {fs : List (Str × V)} {x : α}, rel F fs x → fs.map Prod.fst = names
section
variable {α β γ S S' L R : Type} {K : PySem.W.Frag} {E X : ZK K} {te ta : TE} {tr : TA} {ts tw tuS : TS} {Γ : List Cn} {r : RT β} {F H F' H' : Hp} {i : Nat} {G : S → List Cn} {GL : L → List Cn} {rr : RR R} {C : Addr}
def fdN : FDs Unit := ⟨[], fun _ fs _ => fs = [], fun _ h => h, fun h => by rw [h]; rfl⟩
def fdE (d : FDs α) (n : Str) (r : RT β) : FDs (α × β) := ⟨d.names ++ [n], fun F fs x => ∃ fs0 v, fs = fs0 ++ [(n, v)] ∧ d.rel F fs0 x.1 ∧ r.rel F v x.2,
  fun e h => by
    obtain ⟨fs0, v, h1, h2, h3⟩ := h
    exact ⟨fs0, v, h1, d.mono e h2, r.mono e h3⟩,
  fun h => by
    obtain ⟨fs0, v, rfl, h2, h3⟩ := h
    rw [List.map_append, d.nm h2]; rfl⟩
theorem lookup_no {f : Str} : ∀ {fs : List (Str × V)}, f ∉ fs.map Prod.fst → fs.lookup f = none
  | [], _ => rfl
  | (g, v) :: t, h => by
    rw [List.map_cons, List.mem_cons, not_or] at h
    have hb : (f == g) = false := beq_eq_false_iff_ne.mpr h.1
    simp only [List.lookup, hb]
    exact lookup_no h.2
theorem putF_new {f : Str} {v : V} : ∀ {fs : List (Str × V)}, f ∉ fs.map Prod.fst → putF f v fs = fs ++ [(f, v)]
  | [], _ => rfl
  | (g, x) :: t, h => by
    rw [List.map_cons, List.mem_cons, not_or] at h
    show (if g = f then (g, v) :: t else (g, x) :: putF f v t) = _
    rw [if_neg fun z => h.1 z.symm, putF_new h.2]; rfl
theorem FDs.no {d : FDs α} {fs : List (Str × V)} {x : α} {f : Str} (h : d.rel F fs x) (hf : f ∉ d.names) : fs.lookup f = none := lookup_no (by rw [d.nm h]; exact hf)
theorem lookup_snoc {f : Str} {v : V} : ∀ {fs : List (Str × V)}, f ∉ fs.map Prod.fst → (fs ++ [(f, v)]).lookup f = some v
  | [], _ => by
    show List.lookup f [(f, v)] = _
    have hb : (f == f) = true := beq_self_eq_true f
    simp only [List.lookup, hb]
  | (g, x) :: t, h => by
    rw [List.map_cons, List.mem_cons, not_or] at h
    have hb : (f == g) = false := beq_eq_false_iff_ne.mpr h.1
    show List.lookup f ((g, x) :: (t ++ [(f, v)])) = _
    simp only [List.lookup, hb]
    exact lookup_snoc h.2
theorem lookup_app {f g : Str} {v u : V} : ∀ {fs : List (Str × V)}, fs.lookup f = some u → (fs ++ [(g, v)]).lookup f = some u
  | [], h => by cases h
  | (k, x) :: t, h => by
    show List.lookup f ((k, x) :: (t ++ [(g, v)])) = _
    by_cases hb : (f == k) = true
    · simp only [List.lookup, hb] at h ⊢; exact h
    · rw [Bool.not_eq_true] at hb
      simp only [List.lookup, hb] at h ⊢
      exact lookup_app h
def tIns (C : Addr) (d : FDs α) : RT α := ⟨fun H v x => ∃ a dx fs, v = .ref a ∧ H a = some (.ins C dx fs) ∧ d.rel H fs x, fun e h => by
  obtain ⟨a, dx, fs, h1, h2, h3⟩ := h
  exact ⟨a, dx, fs, h1, e _ _ h2, d.mono e h3⟩⟩
def mIns (C : Addr) (d : FDs α) : MT α where
  rel := fun F H fp v x => ∃ p dx fs, v = .ref p ∧ fp = [p] ∧ H p = some (.ins C dx fs) ∧ F p = none ∧ d.rel F fs x
  dom := fun h a ha => by
    obtain ⟨p, dx, fs, rfl, rfl, h1, _⟩ := h
    rw [List.mem_singleton.mp ha, h1]; simp
  frame := fun {M F H F' H' fp v s} h n hM => by
    obtain ⟨p, dx, fs, rfl, rfl, h1, h2, h3⟩ := h
    have hp := hM p (by simp)
    exact ⟨p, dx, fs, rfl, rfl, n.keep p _ hp h1, n.out p hp h2 (by rw [h1]; simp), d.mono n.ff h3⟩
structure FldAt (d : FDs α) (f : Str) (r : RT β) (g : α → β) : Prop where
  at_ : ∀ {F fs x}, d.rel F fs x → ∃ v, fs.lookup f = some v ∧ r.rel F v (g x)
theorem FldAt.here {d : FDs α} {f : Str} (hf : f ∉ d.names) : FldAt (fdE d f r) f r (·.2) := ⟨fun {F fs x} h => by
  obtain ⟨fs0, v, rfl, h2, h3⟩ := h
  exact ⟨v, lookup_snoc (by rw [d.nm h2]; exact hf), h3⟩⟩
theorem FldAt.there {d : FDs α} {f n : Str} {r' : RT γ} {g : α → β} (h : FldAt d f r g) : FldAt (fdE d n r') f r (fun x => g x.1) := ⟨fun {F fs x} h0 => by
  obtain ⟨fs0, v, rfl, h2, h3⟩ := h0
  obtain ⟨u, h4, h5⟩ := h.at_ h2
  exact ⟨u, lookup_app h4, h5⟩⟩
theorem evp_fld {d : FDs α} {f : Str} {g : α → β} {m : Wp α} (c : Cls K C) (n : NoAttr K C f) (hf : FldAt d f r g) (h : EvP K E ta Γ (tIns C d) m) : EvP K E (tFld K ta f) Γ r (m.bind fun x => .ok (g x)) :=
  evp_via (o := fun x H1 Q => Lw.FldOk K f x H1 Q) (fun _ _ _ h => h) (fun F H v a Q σ e hv hm => by
    obtain ⟨p, dx, fs, rfl, h2, h3⟩ := hv
    obtain ⟨u, h4, h5⟩ := hf.at_ h3
    exact ⟨p, C, dx, fs, u, rfl, e _ _ h2, c, n, h4, hm _ F H (Nx.refl e) h5⟩) h
theorem evp_fldP {d : FDs α} {f : Str} {g : α → β} {x : α} (c : Cls K C) (n : NoAttr K C f) (hf : FldAt d f r g) (h : EvP K E ta Γ (tIns C d) (.ok x)) : EvP K E (tFld K ta f) Γ r (.ok (g x)) := evp_fld c n hf h
theorem set_selfF {σ : List (List Addr)} {o : List Addr} (h : σ[i]? = some o) : σ.set i o = σ := by
  refine List.ext_getElem? fun j => ?_
  rw [List.getElem?_set]
  by_cases c : i = j
  · subst c
    rw [if_pos rfl, h]
    have : i < σ.length := (List.getElem?_eq_some_iff.mp h).1
    rw [if_pos this]
  · rw [if_neg c]
def spInit (C : Addr) (ra : RA α) (d : FDs β) (f : α → Wp β) (K : PySem.W.Frag) : Sp := fun vs H Q E => ∃ F p dx ws x, vs = .ref p :: ws ∧ Ext F H ∧ H p = some (.ins C dx []) ∧ F p = none ∧ ra.rel F ws x ∧
  (f x).run (fun y => ∀ F' H' dx' fs, Nx [p] F H F' H' → H' p = some (.ins C dx' fs) → F' p = none → d.rel F' fs y → Q .non H') (Es K E [p] F H)
theorem evp_make {ra : RA α} {d : FDs β} {f : α → Wp β} {m : Wp α} (h : EvA K X tr Γ ra m) : EvP K X (tMake C (spInit C ra d f K) [] X.X tr) Γ (tIns C d) (m.bind f) :=
  evp_cal (o := fun vs σ H1 Q => MkQ C (spInit C ra d f K) [] X.X vs H1 Q) (fun _ _ _ h => h) (fun F H vs x Q σ e hv hm => by
    intro p dx hp hdx hne
    have n1 : Nx [] F H (upd F dx (.own p)) (upd H dx (.own p)) := Nx.new e hdx
    have hp1 : (upd H dx (.own p)) p = none := by rw [upd_ne (Ne.symm hne)]; exact hp
    have hF1 : (upd F dx (.own p)) p = none := by
      rw [upd_ne (Ne.symm hne)]
      cases hz : F p with
      | none => rfl
      | some o => rw [e _ _ hz] at hp; cases hp
    have e2 : Ext (upd F dx (.own p)) (upd (upd H dx (.own p)) p (.ins C dx [])) := ext_mut n1.fh hF1
    rw [List.append_nil]
    have st : Stp [] F H [p] (upd F dx (.own p)) (upd (upd H dx (.own p)) p (.ins C dx [])) := by
      refine ⟨⟨n1.ff, e2, fun b o hb hbo => ?_, fun b hb h1 h2 => ?_, fun b hb => ?_⟩, fun a ha => .inr ?_⟩
      · have : b ≠ p := fun z => by rw [z, hp] at hbo; cases hbo
        rw [upd_ne this]; exact n1.keep b o hb hbo
      · exact n1.out b h1 h2
      · have : b ≠ p := fun z => hb (by rw [z]; exact hp)
        rw [upd_ne this]; exact n1.dom b hb
      · rw [List.mem_singleton.mp ha]; exact hp
    refine ⟨upd F dx (.own p), p, dx, vs, x, rfl, e2, upd_same, hF1, ra.mono n1.ff hv, (f x).mono (fun y hy F' H' dx' fs n2 hp2 hF2 hd => ?_) (fun er her => X.es (X.step st her) e2) hm⟩
    refine ⟨rfl, ?_⟩
    have hFp : F' p = none := hF2
    -- freeze p
    have nfin : Nx [] F H (upd F' p (.ins C dx' fs)) H' := by
      refine ⟨fun b o hb => ?_, fun b o hb => ?_, fun b o hb hbo => ?_, fun b hb hbo => ?_, fun b hb => ?_⟩
      · have := n2.ff _ _ (n1.ff _ _ hb)
        by_cases z : b = p
        · subst z; rw [hFp] at this; cases this
        · rw [upd_ne z]; exact this
      · by_cases z : b = p
        · subst z; rw [upd_same] at hb; cases hb; exact hp2
        · rw [upd_ne z] at hb; exact n2.fh _ _ hb
      · have z : b ≠ p := fun z => by rw [z, hp] at hbo; cases hbo
        exact n2.keep b o (by simpa using z) (by rw [upd_ne z]; exact n1.keep b o hb hbo)
      · have z : b ≠ p := fun z => by rw [z] at hbo; exact hbo hp
        rw [upd_ne z]
        exact n2.out b (n1.out b hb hbo) (by rw [upd_ne z]; exact n1.dom b hbo)
      · exact n2.dom b (by
          have z : b ≠ p := fun z => hb (by rw [z]; exact hp)
          rw [upd_ne z]; exact n1.dom b hb)
    exact hy _ _ H' nfin ⟨p, dx', fs, rfl, upd_same, d.mono (Ext.upd hFp) hd⟩) h
theorem evp_makeP {ra : RA α} {d : FDs β} {f : α → Wp β} {x : α} {M : Wp β} (h : EvA K X tr Γ ra (.ok x)) (e : f x = M := by rfl) : EvP K X (tMake C (spInit C ra d f K) [] X.X tr) Γ (tIns C d) M := e ▸ evp_make h
theorem fn_I {XX : XK} {Q : VK} {σ : L2.St} {fps : List (List Addr)} {d : FDs β} {p : Addr} {Γ' : List Cn} {body : Wp (Fl β Empty Empty)} {rr : RR Empty} (h : Sv K (zk K XX) ts Γ (fun y => .mut ((mIns C d).pin (.ref p)) y :: Γ') (fun z : Empty => z.elim) rr body) (e : Ext F H) (hol : Hol Γ F H fps σ) (h0 : fps.flatten = [p])
    (hm : body.run (fun z => match z with | .nx y => ∀ F' H' dx' fs, Nx [p] F H F' H' → H' p = some (.ins C dx' fs) → F' p = none → d.rel F' fs y → Q .non H' | .brk z => z.elim | .cnt z => z.elim | .ret z => z.elim) (Es K XX [p] F H)) : ts { nx := fun _ H1 => Q .non H1, rt := Q } σ H := by
  refine h _ F H σ fps e hol ?_
  rw [h0]
  refine body.mono (fun z hz => ?_) (fun _ z => z) hm
  cases z with
  | brk s => exact s.elim
  | cnt s => exact s.elim
  | ret s => exact s.elim
  | nx y =>
    intro F' H' fps' σ' s hol'
    match fps', σ', hol' with
    | fp :: _, o :: _, hol' =>
      obtain ⟨v, rfl, rfl, q, dx, fs, hv, rfl, h3, h4, h5⟩ := hol'.1
      cases hv
      refine hz F' H' dx fs ⟨s.n.ff, s.n.fh, s.n.keep, fun b h1 h2 => ?_, s.n.dom⟩ h3 h4 h5
      by_cases c : b = p
      · rw [c]; exact h4
      · exact s.n.out b (by simpa using c) h1 h2
def Wp.ini {α : Type} (m : Wp (Fl α Empty Empty)) : Wp α := m.bind fun z => match z with
  | .nx s => .ok s | .brk l => l.elim | .cnt l => l.elim | .ret x => x.elim
theorem fn_I' {XX : XK} {Q : VK} {σ : L2.St} {fps : List (List Addr)} {d : FDs β} {p : Addr} {Γ' : List Cn} {body : Wp (Fl β Empty Empty)} {rr : RR Empty} (h : Sv K (zk K XX) ts Γ (fun y => .mut ((mIns C d).pin (.ref p)) y :: Γ') (fun z : Empty => z.elim) rr body) (e : Ext F H) (hol : Hol Γ F H fps σ) (h0 : fps.flatten = [p])
    (hm : (Wp.ini body).run (fun y => ∀ F' H' dx' fs, Nx [p] F H F' H' → H' p = some (.ins C dx' fs) → F' p = none → d.rel F' fs y → Q .non H') (Es K XX [p] F H)) : ts { nx := fun _ H1 => Q .non H1, rt := Q } σ H := by
  refine fn_I h e hol h0 (body.mono (fun z hz => ?_) (fun _ z => z) hm)
  cases z with
  | brk s => exact s.elim
  | cnt s => exact s.elim
  | ret s => exact s.elim
  | nx y => exact hz
theorem sv_fldP {v0 : V} {d : FDs α} {x : α} {f : Str} {m : Wp β} {k : β → Wp (Fl S L R)} (hi : Cn.get Γ i = some (.mut ((mIns C d).pin v0) x)) (c : Cls K C) (n : NoAttr K C f) (hf : f ∉ d.names) (hl : d.names.length < 1000) (h : EvP K X te Γ r m) (hk : ∀ y, Sv K X tuS (Cn.put Γ i (.mut ((mIns C (fdE d f r)).pin v0) (x, y))) G GL rr (k y)) :
    Sv K X (tSeq (sFld K (tVar i) te f) tuS) Γ G GL rr (m.bind k) := by
  intro D F H σ fps e hol hm
  obtain ⟨fp, o, h1, h2, v, rfl, hv0, p, dx, fs, rfl, rfl, h3, h4, h5⟩ := hol.get hi
  refine h F H σ fps _ e hol (m.mono (fun y hm => ?_) (fun _ => X.down e) hm)
  intro u F' H' nx hv
  have h3' := nx.keep p _ (by simp) h3
  have h4' := nx.out p h4 (by rw [h3]; simp)
  have hnm := d.nm h5
  refine ⟨_, h2, p, C, dx, fs, rfl, h3', c, n, ?_, ?_⟩
  · have := congrArg List.length hnm
    rw [List.length_map] at this
    omega
  have n2 : Nz [p] F H F' (upd H' p (.ins C dx (putF f u fs))) := ((nx.nil : Nx [p] F H F' H').mut (.inl (by simp)) h4').nz
  have hc : Cn.rel (.mut ((mIns C (fdE d f r)).pin v0) (x, y)) F' (upd H' p (.ins C dx (putF f u fs))) [p] (some (.ref p)) := ⟨_, rfl, hv0, p, dx, _, rfl, rfl, upd_same, h4', fs, u, putF_new (by rw [hnm]; exact hf), d.mono nx.ff h5, hv⟩
  have hol' := Hol.put hol n2 h1 (fun _ z => z) hc (fun a ha => .inl ha)
  rw [set_self h2, set_selfF h1] at hol'
  exact hk y D F' _ σ fps n2.fh hol' (Wp.mst ⟨n2.weak (fun a ha => List.mem_flatten.mpr ⟨[p], List.mem_of_getElem? h1, ha⟩), fun a ha => .inl ha⟩ hm)
end
end L2.My
namespace Lw
end Lw
set_option exponentiation.threshold 20000
local macro_rules | `(tactic| walk_at "wp") => `(tactic| try simp only [L2.My.Wp.ok_bind, L2.My.Wp.bind_ok, L2.My.Wp.bind_assoc, L2.My.Wp.req_bind, L2.My.Wp.bind_out, L2.My.Wp.ret_out, L2.My.Wp.raise_bind, L2.My.Wp.raise_out, L2.My.Wp.req_out, L2.My.Wp.bind_seq, L2.My.Wp.ok_seq, L2.My.Wp.ret_seq, L2.My.Wp.req_seq, L2.My.Wp.bind_up, L2.My.Wp.ret_up, L2.My.Wp.brk_up, L2.My.Wp.cnt_up, L2.My.Wp.req_up, L2.My.Wp.raise_up, L2.My.Wp.nox_ok, L2.My.Wp.nox_bind, L2.My.Wp.nox_req, L2.My.Wp.nox_get, L2.My.Wp.nox_nox, L2.My.Wp.ap, Lw.mkQ_self])
namespace Lw
open PySem PySem.Spec PyProof.Rows L2 L2.My
end Lw
namespace L2.My
open PySem PySem.Spec PyProof.Rows L2
inductive Plan where
  | say (k : Int)
  | press (b : Int) (ps : List Plan)
mutual
def planRel (H : Hp) : Plan → V → Prop
  | .say k, v => ∃ a, v = .ref a ∧ H a = some (.tup [.str "say", .int k])
  | .press b ps, v => ∃ a w, v = .ref a ∧ H a = some (.tup [.str "press", .int b, .ref w]) ∧ (∃ ws, H w = some (.tup ws) ∧ plansRel H ps ws) ∧ ps.length ≤ 16777215
def plansRel (H : Hp) : List Plan → List V → Prop
  | [], ws => ws = []
  | p :: ps, ws => ∃ w us, ws = w :: us ∧ planRel H p w ∧ plansRel H ps us
end
mutual
theorem planRel.mono {F F' : Hp} (e : Ext F F') : ∀ (p : Plan) (v : V), planRel F p v → planRel F' p v
  | .say k, v, h => by
    unfold planRel at h ⊢
    obtain ⟨a, h1, h2⟩ := h
    exact ⟨a, h1, e _ _ h2⟩
  | .press b ps, v, h => by
    unfold planRel at h ⊢
    obtain ⟨a, w, h1, h2, ⟨ws, h3, h4⟩, h5⟩ := h
    exact ⟨a, w, h1, e _ _ h2, ⟨ws, e _ _ h3, plansRel.mono e ps ws h4⟩, h5⟩
theorem plansRel.mono {F F' : Hp} (e : Ext F F') : ∀ (ps : List Plan) (ws : List V), plansRel F ps ws → plansRel F' ps ws
  | [], ws, h => by
    unfold plansRel at h ⊢
    exact h
  | p :: ps, ws, h => by
    unfold plansRel at h ⊢
    obtain ⟨w, us, h1, h2, h3⟩ := h
    exact ⟨w, us, h1, planRel.mono e p w h2, plansRel.mono e ps us h3⟩
end
def tPlan : RT Plan := ⟨fun H v p => planRel H p v, fun e h => planRel.mono e _ _ h⟩
def planK : Plan → Str | .say _ => "say" | .press _ _ => "press"
def planB : Plan → Int | .say k => k | .press b _ => b
def planP : Plan → Wp (List Plan) | .say _ => .stuck | .press _ ps => .ok ps
def tKw (s : Str) : RT Unit := ⟨fun _ v _ => v = .str s, fun _ h => h⟩
section
variable {α β γ : Type} {K : PySem.W.Frag} {E : ZK K} {te ta : TE} {Γ : List Cn} {r : RT α}
def tVal : RT Unit := ⟨fun _ _ _ => True, fun _ h => h⟩
end
end L2.My
namespace Lw
end Lw
set_option exponentiation.threshold 20000
local macro_rules | `(tactic| walk_at "wp") => `(tactic| try simp only [L2.My.Wp.ok_bind, L2.My.Wp.bind_ok, L2.My.Wp.bind_assoc, L2.My.Wp.req_bind, L2.My.Wp.bind_out, L2.My.Wp.ret_out, L2.My.Wp.raise_bind, L2.My.Wp.raise_out, L2.My.Wp.req_out, L2.My.Wp.bind_seq, L2.My.Wp.ok_seq, L2.My.Wp.ret_seq, L2.My.Wp.req_seq, L2.My.Wp.bind_up, L2.My.Wp.ret_up, L2.My.Wp.brk_up, L2.My.Wp.cnt_up, L2.My.Wp.req_up, L2.My.Wp.raise_up, L2.My.Wp.nox_ok, L2.My.Wp.nox_bind, L2.My.Wp.nox_req, L2.My.Wp.nox_get, L2.My.Wp.nox_nox, L2.My.Wp.ap, Lw.mkQ_self])
namespace Lw
open PySem PySem.Spec PyProof.Rows L2 L2.My
end Lw
namespace L2.My
open PySem PySem.Spec PyProof.Rows L2 L2H
structure FnQ (P : Program) (w : World) (K : PySem.W.Frag) (mg : Str → Option Value) (base : Heap) (k : Nat) (f : Addr) (fd : FuncData) (ps : List Str) (sp : Sp) : Prop where
  len : ∀ vs H Q E, sp vs H Q E → vs.length = ps.length
  run : ∀ (A : Around) (outer : List Env) (s : Shared) (H : Hp) (args : Args) (us : List Value) (vs : List V) (Q : VK), RoomH k A → Env0 P w K mg base A outer s H → BindsTo s fd args (ps.zip us) → Vals vs us → sp vs H Q E0 →
    codeAny (model P w) A (.call (.ref f) args) (CR (fun _ _ _ _ _ _ => False) outer P w H s Q E0) s
def cxQ (P : Program) (w : World) (K : PySem.W.Frag) (mg : Str → Option Value) (base : Heap) (N : List Str) (qual : Str) (scope : Scope) (f : Addr) (cd : Value) (A : Around) (outer : List Env) (s : Shared) (H : Hp) : Cx :=
  { cxOf (fun _ _ _ _ _ _ => False) P w K mg base N qual scope f cd A outer s H E0 with calm := false }
section
variable {P : Program} {w : World} {K : PySem.W.Frag} {mg : Str → Option Value} {base : Heap} {N ps : List Str} {qual : Str} {scope : Scope} {f : Addr} {cd : Value} {A : Around} {outer : List Env} {s s1 : Shared} {H : Hp} {us : List Value} {vs : List V}
structure FncQ (P : Program) (w : World) (K : PySem.W.Frag) (mg : Str → Option Value) (base : Heap) (k : Nat) (x : Str) (ps : List Str) (sp : Sp) : Prop where
  ex : ∃ f fd, mg x = some (.ref f) ∧ PySem.W.keepIn K (.ref f) = true ∧ Binds K fd ps [] ∧ FnQ P w K mg base k f fd ps sp
end
section
variable {X : Cx} {k : Nat} {x : Str} {ps : List Str} {sp : Sp} {q pos : Pos} {e : Expr} {es : List Expr} {t : TA}
end
end L2.My
namespace Lw
open PySem PySem.Spec PyProof.Rows L2 L2.My
def Scal : PyData → Prop
  | .none => True | .bool _ => True | .int _ => True | .str _ => True | .list _ => False | .tuple _ => False | _ => False
def spSameQ (K : PySem.W.Frag) : Sp := fun vs H Q _ => ∃ x y d, vs = [x, y] ∧ Dp K H x d ∧ Dp K H y d ∧ Scal d ∧ Q (.bl true) H
end Lw
set_option exponentiation.threshold 20000
local macro_rules | `(tactic| walk_at "wp") => `(tactic| try simp only [L2.My.Wp.ok_bind, L2.My.Wp.bind_ok, L2.My.Wp.bind_assoc, L2.My.Wp.req_bind, L2.My.Wp.bind_out, L2.My.Wp.ret_out, L2.My.Wp.raise_bind, L2.My.Wp.raise_out, L2.My.Wp.req_out, L2.My.Wp.bind_seq, L2.My.Wp.ok_seq, L2.My.Wp.ret_seq, L2.My.Wp.req_seq, L2.My.Wp.bind_up, L2.My.Wp.ret_up, L2.My.Wp.brk_up, L2.My.Wp.cnt_up, L2.My.Wp.req_up, L2.My.Wp.raise_up, L2.My.Wp.nox_ok, L2.My.Wp.nox_bind, L2.My.Wp.nox_req, L2.My.Wp.nox_get, L2.My.Wp.nox_nox, L2.My.Wp.ap, Lw.mkQ_self])
namespace Lw
open PySem PySem.Spec PyProof.Rows L2 L2.My
end Lw
namespace L2.My
open PySem PySem.Spec PyProof.Rows L2
section
variable {α β : Type} {K : PySem.W.Frag} {E : ZK K} {tr : TA} {Γ : List Cn} {r : RT α}
end
end L2.My
namespace Lw
end Lw
set_option exponentiation.threshold 20000
local macro_rules | `(tactic| walk_at "wp") => `(tactic| try simp only [L2.My.Wp.ok_bind, L2.My.Wp.bind_ok, L2.My.Wp.bind_assoc, L2.My.Wp.req_bind, L2.My.Wp.bind_out, L2.My.Wp.ret_out, L2.My.Wp.raise_bind, L2.My.Wp.raise_out, L2.My.Wp.req_out, L2.My.Wp.bind_seq, L2.My.Wp.ok_seq, L2.My.Wp.ret_seq, L2.My.Wp.req_seq, L2.My.Wp.bind_up, L2.My.Wp.ret_up, L2.My.Wp.brk_up, L2.My.Wp.cnt_up, L2.My.Wp.req_up, L2.My.Wp.raise_up, L2.My.Wp.nox_ok, L2.My.Wp.nox_bind, L2.My.Wp.nox_req, L2.My.Wp.nox_get, L2.My.Wp.nox_nox, L2.My.Wp.ap, Lw.mkQ_self])
namespace Lw
open PySem PySem.Spec PyProof.Rows L2 L2.My
end Lw
namespace L2.My
open PySem PySem.Spec PyProof.Rows L2
structure MDs (σ : Type) where
  names : List Str
  rel : Hp → Hp → List Addr → List (Str × V) → σ → Prop
  dom : ∀ {F H fp fs x}, rel F H fp fs x → ∀ a ∈ fp, H a ≠ none
  frame : ∀ {M F H F' H' fp fs x}, rel F H fp fs x → Nz M F H F' H' → (∀ a ∈ fp, a ∉ M) → rel F' H' fp fs x
  nm : ∀ {F H fp fs x}, rel F H fp fs x → fs.map Prod.fst = names
section
variable {α β γ ι σ S S' L R : Type} {K : PySem.W.Frag} {E X : ZK K} {te ta : TE} {tr : TA} {ts tw tuS : TS} {Γ : List Cn} {r : RT β} {F H F' H' : Hp} {i : Nat} {G : S → List Cn} {G' : S' → List Cn} {GL : L → List Cn} {rr : RR R} {C : Addr}
def mdN : MDs Unit := ⟨[], fun _ _ fp fs _ => fp = [] ∧ fs = [], fun h a ha => (by rw [h.1] at ha; cases ha), fun h _ _ => h, fun h => by rw [h.2]; rfl⟩
def mdF (d : MDs α) (n : Str) (r : RT β) : MDs (α × β) := ⟨d.names ++ [n], fun F H fp fs x => ∃ fs0 v, fs = fs0 ++ [(n, v)] ∧ d.rel F H fp fs0 x.1 ∧ r.rel F v x.2,
  fun h => by obtain ⟨fs0, v, _, h2, _⟩ := h; exact d.dom h2,
  fun h nz hM => by obtain ⟨fs0, v, h1, h2, h3⟩ := h; exact ⟨fs0, v, h1, d.frame h2 nz hM, r.mono nz.ff h3⟩,
  fun h => by obtain ⟨fs0, v, rfl, h2, _⟩ := h; rw [List.map_append, d.nm h2]; rfl⟩
def mdM (d : MDs α) (n : Str) (m : MT β) : MDs (α × β) := ⟨d.names ++ [n], fun F H fp fs x => ∃ fs0 v fp0 fp1, fs = fs0 ++ [(n, v)] ∧ fp = fp0 ++ fp1 ∧ (∀ a ∈ fp0, a ∉ fp1) ∧ d.rel F H fp0 fs0 x.1 ∧ m.rel F H fp1 v x.2,
  fun h => by
    obtain ⟨fs0, v, fp0, fp1, _, rfl, _, h2, h3⟩ := h
    intro a ha
    rcases List.mem_append.mp ha with ha | ha
    · exact d.dom h2 a ha
    · exact m.dom h3 a ha,
  fun h nz hM => by
    obtain ⟨fs0, v, fp0, fp1, h1, rfl, hd, h2, h3⟩ := h
    exact ⟨fs0, v, fp0, fp1, h1, rfl, hd, d.frame h2 nz fun a ha => hM a (List.mem_append_left _ ha), m.frame h3 nz fun a ha => hM a (List.mem_append_right _ ha)⟩,
  fun h => by obtain ⟨fs0, v, fp0, fp1, rfl, _, _, h2, _⟩ := h; rw [List.map_append, d.nm h2]; rfl⟩
def mObj (C : Addr) (d : MDs σ) : MT σ where
  rel := fun F H fp v x => ∃ p dx fs fp0, v = .ref p ∧ fp = p :: fp0 ∧ p ∉ fp0 ∧ H p = some (.ins C dx fs) ∧ F p = none ∧ d.rel F H fp0 fs x
  dom := fun h a ha => by
    obtain ⟨p, dx, fs, fp0, rfl, rfl, _, h1, _, h3⟩ := h
    rcases List.mem_cons.mp ha with rfl | ha
    · rw [h1]; simp
    · exact d.dom h3 a ha
  frame := fun {M F H F' H' fp v s} h n hM => by
    obtain ⟨p, dx, fs, fp0, rfl, rfl, h0, h1, h2, h3⟩ := h
    have hp := hM p (by simp)
    exact ⟨p, dx, fs, fp0, rfl, rfl, h0, n.keep p _ hp h1, n.out p hp h2 (by rw [h1]; simp), d.frame h3 n fun a ha => hM a (by simp [ha])⟩
theorem putF_last {f : Str} {v u : V} : ∀ {fs : List (Str × V)}, f ∉ fs.map Prod.fst → putF f v (fs ++ [(f, u)]) = fs ++ [(f, v)]
  | [], _ => by
    show (if f = f then (f, v) :: [] else _) = _
    rw [if_pos rfl]; rfl
  | (g, x) :: t, h => by
    rw [List.map_cons, List.mem_cons, not_or] at h
    show (if g = f then (g, v) :: (t ++ [(f, u)]) else (g, x) :: putF f v (t ++ [(f, u)])) = _
    rw [if_neg fun z => h.1 z.symm, putF_last h.2]; rfl
theorem putF_app {f g : Str} {v u w : V} : ∀ {fs : List (Str × V)}, fs.lookup f = some w → putF f v (fs ++ [(g, u)]) = putF f v fs ++ [(g, u)]
  | [], h => by cases h
  | (k, x) :: t, h => by
    show (if k = f then (k, v) :: (t ++ [(g, u)]) else (k, x) :: putF f v (t ++ [(g, u)])) = (if k = f then (k, v) :: t else (k, x) :: putF f v t) ++ [(g, u)]
    by_cases c : k = f
    · rw [if_pos c, if_pos c]; rfl
    · rw [if_neg c, if_neg c]
      have hb : (f == k) = false := beq_eq_false_iff_ne.mpr fun z => c z.symm
      simp only [List.lookup, hb] at h
      rw [putF_app h]; rfl
theorem MDs.no {d : MDs α} {fp : List Addr} {fs : List (Str × V)} {x : α} {f : Str} (h : d.rel F H fp fs x) (hf : f ∉ d.names) : fs.lookup f = none := lookup_no (by rw [d.nm h]; exact hf)
structure FrL (d : MDs σ) (n : Str) (r : RT β) (g : σ → β) (s : σ → β → σ) : Prop where
  at_ : ∀ {F H fp fs x}, d.rel F H fp fs x → ∃ v, fs.lookup n = some v ∧ r.rel F v (g x) ∧ ∀ u y, r.rel F u y → d.rel F H fp (putF n u fs) (s x y)
theorem FrL.here {d : MDs α} {n : Str} (hn : n ∉ d.names) : FrL (mdF d n r) n r (·.2) (fun x y => (x.1, y)) := ⟨fun {F H fp fs x} h => by
  obtain ⟨fs0, v, rfl, h2, h3⟩ := h
  have hn' : n ∉ fs0.map Prod.fst := by rw [d.nm h2]; exact hn
  exact ⟨v, lookup_snoc hn', h3, fun u y hu => ⟨fs0, u, putF_last hn', h2, hu⟩⟩⟩
theorem FrL.thereF {d : MDs α} {n n' : Str} {r' : RT γ} {g : α → β} {s : α → β → α} (h : FrL d n r g s) : FrL (mdF d n' r') n r (fun x => g x.1) (fun x y => (s x.1 y, x.2)) := ⟨fun {F H fp fs x} h0 => by
  obtain ⟨fs0, v, rfl, h2, h3⟩ := h0
  obtain ⟨u, h4, h5, h6⟩ := h.at_ h2
  exact ⟨u, lookup_app h4, h5, fun w y hw => ⟨putF n w fs0, v, putF_app h4, h6 w y hw, h3⟩⟩⟩
theorem FrL.thereM {d : MDs α} {n n' : Str} {m : MT γ} {g : α → β} {s : α → β → α} (h : FrL d n r g s) : FrL (mdM d n' m) n r (fun x => g x.1) (fun x y => (s x.1 y, x.2)) := ⟨fun {F H fp fs x} h0 => by
  obtain ⟨fs0, v, fp0, fp1, rfl, hfp, hd, h2, h3⟩ := h0
  obtain ⟨u, h4, h5, h6⟩ := h.at_ h2
  exact ⟨u, lookup_app h4, h5, fun w y hw => ⟨putF n w fs0, v, fp0, fp1, putF_app h4, hfp, hd, h6 w y hw, h3⟩⟩⟩
structure MuL (d : MDs σ) (n : Str) (m : MT β) (g : σ → β) (s : σ → β → σ) : Prop where
  at_ : ∀ {F H fp fs x}, d.rel F H fp fs x → ∃ v fp1, fs.lookup n = some v ∧ m.rel F H fp1 v (g x) ∧ (∀ a ∈ fp1, a ∈ fp) ∧
    ∀ F' H' fp1' y, Nz fp1 F H F' H' → m.rel F' H' fp1' v y → (∀ a ∈ fp1', a ∈ fp1 ∨ H a = none) → ∃ fp', d.rel F' H' fp' fs (s x y) ∧ ∀ a ∈ fp', a ∈ fp ∨ H a = none
theorem MuL.here {d : MDs α} {n : Str} {m : MT β} (hn : n ∉ d.names) : MuL (mdM d n m) n m (·.2) (fun x y => (x.1, y)) := ⟨fun {F H fp fs x} h => by
  obtain ⟨fs0, v, fp0, fp1, rfl, rfl, hd, h2, h3⟩ := h
  have hn' : n ∉ fs0.map Prod.fst := by rw [d.nm h2]; exact hn
  refine ⟨v, fp1, lookup_snoc hn', h3, fun a ha => List.mem_append_right _ ha, fun F' H' fp1' y nz hy hnew => ⟨fp0 ++ fp1', ⟨fs0, v, fp0, fp1', rfl, rfl, fun a ha z => ?_, d.frame h2 nz hd, hy⟩, fun a ha => ?_⟩⟩
  · rcases hnew a z with q | q
    · exact hd a ha q
    · exact d.dom h2 a ha q
  · rcases List.mem_append.mp ha with ha | ha
    · exact .inl (List.mem_append_left _ ha)
    · rcases hnew a ha with q | q
      · exact .inl (List.mem_append_right _ q)
      · exact .inr q⟩
theorem MuL.thereF {d : MDs α} {n n' : Str} {m : MT β} {r' : RT γ} {g : α → β} {s : α → β → α} (h : MuL d n m g s) : MuL (mdF d n' r') n m (fun x => g x.1) (fun x y => (s x.1 y, x.2)) := ⟨fun {F H fp fs x} h0 => by
  obtain ⟨fs0, v, rfl, h2, h3⟩ := h0
  obtain ⟨u, fp1, h4, h5, h6, h7⟩ := h.at_ h2
  refine ⟨u, fp1, lookup_app h4, h5, h6, fun F' H' fp1' y nz hy hnew => ?_⟩
  obtain ⟨fp', h8, h9⟩ := h7 F' H' fp1' y nz hy hnew
  exact ⟨fp', ⟨fs0, v, rfl, h8, r'.mono nz.ff h3⟩, h9⟩⟩
theorem MuL.thereM {d : MDs α} {n n' : Str} {m : MT β} {m' : MT γ} {g : α → β} {s : α → β → α} (h : MuL d n m g s) : MuL (mdM d n' m') n m (fun x => g x.1) (fun x y => (s x.1 y, x.2)) := ⟨fun {F H fp fs x} h0 => by
  obtain ⟨fs0, v, fp0, fpn, rfl, rfl, hd, h2, h3⟩ := h0
  obtain ⟨u, fp1, h4, h5, h6, h7⟩ := h.at_ h2
  refine ⟨u, fp1, lookup_app h4, h5, fun a ha => List.mem_append_left _ (h6 a ha), fun F' H' fp1' y nz hy hnew => ?_⟩
  obtain ⟨fp', h8, h9⟩ := h7 F' H' fp1' y nz hy hnew
  refine ⟨fp' ++ fpn, ⟨fs0, v, fp', fpn, rfl, rfl, fun a ha z => ?_, h8, m'.frame h3 nz fun a ha z => hd a (h6 a z) ha⟩, fun a ha => ?_⟩
  · rcases h9 a ha with q | q
    · exact hd a q z
    · exact m'.dom h3 a z q
  · rcases List.mem_append.mp ha with ha | ha
    · rcases h9 a ha with q | q
      · exact .inl (List.mem_append_left _ q)
      · exact .inr q
    · exact .inl (List.mem_append_right _ ha)⟩
theorem evp_fldO {d : MDs σ} {n : Str} {g : σ → β} {s : σ → β → σ} {m' : MT σ} {x : σ} (hi : Cn.get Γ i = some (.mut m' x)) (hle : MtLe m' (mObj C d)) (c : Cls K C) (na : NoAttr K C n) (hf : FrL d n r g s) : EvP K E (tFld K (tVar i) n) Γ r (.ok (g x)) := by
  intro F H σ' fps Q e hol hm
  obtain ⟨fp, o, h1, h2, v, rfl, h3⟩ := hol.get hi
  obtain ⟨p, dx, fs, fp0, rfl, rfl, _, h5, h6, h7⟩ := hle.to h3
  obtain ⟨u, h8, h9, _⟩ := hf.at_ h7
  exact ⟨_, h2, p, C, dx, fs, u, rfl, h5, c, na, h8, hm _ F H (Nx.refl e) h9⟩
theorem sv_setO {d : MDs σ} {n : Str} {g : σ → β} {s : σ → β → σ} {m' : MT σ} {x : σ} {m : Wp β} {k : β → Wp (Fl S L R)} (hi : Cn.get Γ i = some (.mut m' x)) (hle : MtLe m' (mObj C d)) (c : Cls K C) (na : NoAttr K C n) (hf : FrL d n r g s) (hl : d.names.length < 1000) (h : EvP K X te Γ r m)
    (hk : ∀ y, Sv K X tuS (Cn.put Γ i (.mut m' (s x y))) G GL rr (k y)) : Sv K X (tSeq (sFld K (tVar i) te n) tuS) Γ G GL rr (m.bind k) := by
  intro D F H σ' fps e hol hm
  obtain ⟨fp, o, h1, h2, v, rfl, h3⟩ := hol.get hi
  refine h F H σ' fps _ e hol (m.mono (fun y hm => ?_) (fun _ => X.down e) hm)
  intro u F1 H1 nx hu
  have h3' := m'.frame h3 nx.nz (by simp)
  obtain ⟨p, dx, fs, fp0, rfl, rfl, hp0, h5, h6, h7⟩ := hle.to h3'
  obtain ⟨w, h8, h9, h10⟩ := hf.at_ h7
  have hlen := congrArg List.length (d.nm h7)
  rw [List.length_map] at hlen
  refine ⟨_, h2, p, C, dx, fs, rfl, h5, c, na, by omega, ?_⟩
  have n2 : Nz [p] F1 H1 F1 (upd H1 p (.ins C dx (putF n u fs))) := ((Nx.refl nx.fh : Nx [p] F1 H1 F1 H1).mut (.inl (by simp)) h6).nz
  have hnew : m'.rel F1 (upd H1 p (.ins C dx (putF n u fs))) (p :: fp0) (.ref p) (s x y) := hle.back h3' ⟨p, dx, _, fp0, rfl, rfl, hp0, upd_same, h6, d.frame (h10 u y hu) n2 fun a ha z => hp0 (by rw [List.mem_singleton] at z; rw [← z]; exact ha)⟩
  have st : Stp (p :: fp0) F1 H1 (p :: fp0) F1 (upd H1 p (.ins C dx (putF n u fs))) := ⟨n2.weak (by simp), fun a ha => .inl ha⟩
  obtain ⟨s3, hol3⟩ := (hol.nx nx).upd (c := .mut m' (s x y)) h1 h2 st ⟨_, rfl, hnew⟩
  exact hk y D F1 _ σ' _ s3.fh hol3 (Wp.mst ((stp_nx nx).trans s3) hm)
theorem evp_lenO {d : MDs σ} {n : Str} {g : σ → List β} {s : σ → List β → σ} {m' : MT σ} {x : σ} (hi : Cn.get Γ i = some (.mut m' x)) (hle : MtLe m' (mObj C d)) (c : Cls K C) (na : NoAttr K C n) (hf : MuL d n (mL r) g s) : EvP K E (tCB (rLenS K) (tCons (tFld K (tVar i) n) tNil)) Γ tInt (.ok (((g x).length : Nat) : Int)) := by
  intro F H σ' fps Q e hol hm
  obtain ⟨fp, o, h1, h2, v, rfl, h3⟩ := hol.get hi
  obtain ⟨p, dx, fs, fp0, rfl, rfl, hp0, h5, h6, h7⟩ := hle.to h3
  obtain ⟨u, fp1, h8, h9, h10, h11⟩ := hf.at_ h7
  obtain ⟨q, ws, rfl, rfl, hq, hqF, al, hlen⟩ := h9
  refine ⟨_, h2, p, C, dx, fs, _, rfl, h5, c, na, h8, q, ws, rfl, .inl (SqL.of hq), ?_⟩
  rw [al.length]
  exact hm _ F H (Nx.refl e) rfl
theorem evs_methS {d : MDs σ} {n : Str} {m' : MT σ} {x : σ} (hle : MtLe m' (mObj C d)) (hn : n ∉ d.names) {ra : RA α} {f : σ → α → Wp (β × σ)} {m : Wp (α × σ)} (hi : Cn.get Γ i = some (.mut m' x)) (ha : EvSA K E tr Γ i m' ra m) : EvS K E (tMeth C n (spS K (mObj C d) ra r f) [] E.X (tVar i) tr) Γ i m' r (m.bind fun a => f a.2 a.1) := by
  intro F H σ' fps Q e hol hm
  obtain ⟨fp, o, h1, h2, v, rfl, h3⟩ := hol.get hi
  obtain ⟨p, dx, fs, fp0, rfl, rfl, hp0, h5, h6, h7⟩ := hle.to h3
  refine ⟨_, h2, p, dx, fs, rfl, h5, MDs.no h7 hn, ha F H σ' fps _ e hol (m.mono (fun a hm => ?_) (fun _ z => z) hm)⟩
  intro vs F1 H1 fps1 s1 hol1 hv
  have hlt : i < Γ.length := by
    have := (List.getElem?_eq_some_iff.mp h1).1
    rw [← hol.len.1] at this
    exact this
  have hget : Cn.get (Cn.put Γ i (.mut m' a.2)) i = some (.mut m' a.2) := Cn.get_put (by assumption)
  obtain ⟨fp1, o1, q1, q2, v1, rfl, q3⟩ := hol1.get hget
  rw [h2] at q2
  cases q2
  refine ⟨F1, _, vs, fp1, a.2, a.1, by rw [List.append_nil], s1.fh, hle.to q3, hv, (f a.2 a.1).mono (fun y hy => ?_) (fun _ he => ?_) hm⟩
  · intro u F2 H2 fp2 s2 hs hu
    obtain ⟨s3, hol3⟩ := hol1.upd (c := .mut m' y.2) q1 h2 s2 ⟨_, rfl, hle.back q3 hs⟩
    rw [Cn.put_put] at hol3
    exact hy u F2 H2 _ (s1.trans s3) hol3 hu
  · intro cls d F2 H2 M2 s2 he'
    have w : Stp fps1.flatten F1 H1 [] F2 H2 := ⟨s2.n.weak fun b hb => List.mem_flatten.mpr ⟨fp1, List.mem_of_getElem? q1, hb⟩, by simp⟩
    exact E.es he e cls d F2 H2 [] (s1.trans w) he'
end
end L2.My
namespace Lw
end Lw
set_option exponentiation.threshold 20000
local macro_rules | `(tactic| walk_at "wp") => `(tactic| try simp only [L2.My.Wp.ok_bind, L2.My.Wp.bind_ok, L2.My.Wp.bind_assoc, L2.My.Wp.req_bind, L2.My.Wp.bind_out, L2.My.Wp.ret_out, L2.My.Wp.raise_bind, L2.My.Wp.raise_out, L2.My.Wp.req_out, L2.My.Wp.bind_seq, L2.My.Wp.ok_seq, L2.My.Wp.ret_seq, L2.My.Wp.req_seq, L2.My.Wp.bind_up, L2.My.Wp.ret_up, L2.My.Wp.brk_up, L2.My.Wp.cnt_up, L2.My.Wp.req_up, L2.My.Wp.raise_up, L2.My.Wp.nox_ok, L2.My.Wp.nox_bind, L2.My.Wp.nox_req, L2.My.Wp.nox_get, L2.My.Wp.nox_nox, L2.My.Wp.ap, Lw.mkQ_self])
namespace Lw
open PySem PySem.Spec PyProof.Rows L2 L2.My
end Lw
namespace L2.My
open PySem PySem.Spec PyProof.Rows L2
section
variable {α β γ δ ι σ S S' L R : Type} {K : PySem.W.Frag} {E X : ZK K} {te ta : TE} {tr : TA} {ts tw tuS : TS} {Γ : List Cn} {r : RT β} {F H F' H' : Hp} {i : Nat} {G : S → List Cn} {G' : S' → List Cn} {GL : L → List Cn} {rr : RR R} {C : Addr}
theorem sv_augO {d : MDs σ} {n : Str} {g : σ → β} {s : σ → β → σ} {m' : MT σ} {x : σ} {r' : RT γ} {rd : V → V → Hp → VK → Prop} {f : β → γ → Wp β} {m : Wp γ} {k : β → Wp (Fl S L R)} (hi : Cn.get Γ i = some (.mut m' x)) (hle : MtLe m' (mObj C d)) (c : Cls K C) (na : NoAttr K C n) (hf : FrL d n r g s) (hl : d.names.length < 1000)
    (ho : OpV K X rd r r' r f) (h : EvP K X te Γ r' m) (hk : ∀ y, Sv K X tuS (Cn.put Γ i (.mut m' (s x y))) G GL rr (k y)) : Sv K X (tSeq (sFldAug K (tVar i) te rd n) tuS) Γ G GL rr (m.bind fun y => (f (g x) y).bind k) := by
  intro D F H σ' fps e hol hm
  obtain ⟨fp, o, h1, h2, v, rfl, h3⟩ := hol.get hi
  obtain ⟨p, dx, fs, fp0, rfl, rfl, hp0, h5, h6, h7⟩ := hle.to h3
  obtain ⟨w, h8, h9, _⟩ := hf.at_ h7
  refine ⟨_, h2, p, C, dx, fs, w, rfl, h5, c, na, h8, h F H σ' fps _ e hol (m.mono (fun y hm => ?_) (fun _ => X.down e) hm)⟩
  intro u F1 H1 nx hu
  have st1 := stp_nx (fps := fps) nx
  refine ho F1 H1 w u (g x) y _ σ' nx.fh (r.mono nx.ff h9) hu ((f (g x) y).mono (fun z hm => ?_) (fun _ he => X.down nx.fh (X.step st1 he)) hm)
  intro zv F2 H2 nx2 hz
  have nx12 := nx.trans nx2
  have h3' := m'.frame h3 nx12.nz (by simp)
  have h5' := nx12.keep p _ (by simp) h5
  have h6' := nx12.out p h6 (by rw [h5]; simp)
  have h7' := d.frame h7 nx12.nz (by simp)
  obtain ⟨_, _, _, h10⟩ := hf.at_ h7'
  have hlen := congrArg List.length (d.nm h7)
  rw [List.length_map] at hlen
  refine ⟨dx, fs, h5', by omega, ?_⟩
  have n2 : Nz [p] F2 H2 F2 (upd H2 p (.ins C dx (putF n zv fs))) := ((Nx.refl nx2.fh : Nx [p] F2 H2 F2 H2).mut (.inl (by simp)) h6').nz
  have hnew : m'.rel F2 (upd H2 p (.ins C dx (putF n zv fs))) (p :: fp0) (.ref p) (s x z) := hle.back h3' ⟨p, dx, _, fp0, rfl, rfl, hp0, upd_same, h6', d.frame (h10 zv z hz) n2 fun a ha q => hp0 (by rw [List.mem_singleton] at q; rw [← q]; exact ha)⟩
  have st : Stp (p :: fp0) F2 H2 (p :: fp0) F2 (upd H2 p (.ins C dx (putF n zv fs))) := ⟨n2.weak (by simp), fun a ha => .inl ha⟩
  obtain ⟨s3, hol3⟩ := (hol.nx nx12).upd (c := .mut m' (s x z)) h1 h2 st ⟨_, rfl, hnew⟩
  exact hk z D F2 _ σ' _ s3.fh hol3 (Wp.mst ((stp_nx nx12).trans s3) hm)
def MT.pinF (mt : MT σ) (n : Str) (q : Addr) : MT σ := ⟨fun F H fp v s => mt.rel F H fp v s ∧ ∃ p C dx fs, v = .ref p ∧ p ∈ fp ∧ H p = some (.ins C dx fs) ∧ fs.lookup n = some (.ref q),
  fun h => mt.dom h.1, fun {M F H F' H' fp v s} h nz hM => ⟨mt.frame h.1 nz hM, by
    obtain ⟨p, C, dx, fs, h1, h2, h3, h4⟩ := h.2
    exact ⟨p, C, dx, fs, h1, h2, nz.keep p _ (hM p h2) h3, h4⟩⟩⟩
def spInitM (C : Addr) (ra : RA α) (d : MDs β) (f : α → Wp β) (K : PySem.W.Frag) : Sp := fun vs H Q E => ∃ F p dx ws x, vs = .ref p :: ws ∧ Ext F H ∧ H p = some (.ins C dx []) ∧ F p = none ∧ ra.rel F ws x ∧
  (f x).run (fun y => ∀ F' H' fp', Stp [p] F H fp' F' H' → (mObj C d).rel F' H' fp' (.ref p) y → Q .non H') (Es K E [p] F H)
theorem evn_makeM {ra : RA α} {d : MDs β} {f : α → Wp β} {m : Wp α} (h : EvA K X tr Γ ra m) : EvN K X (tMake C (spInitM C ra d f K) [] X.X tr) Γ (mObj C d) (m.bind f) := by
  intro F0 H0 σ' fps Q e0 hol hm
  refine h F0 H0 σ' fps _ e0 hol (m.mono (fun x hm => ?_) (fun _ z => z) hm)
  intro vs F H n0 hv p dx hp hdx hne
  have e := n0.fh
  have n1 : Nx [] F H (upd F dx (.own p)) (upd H dx (.own p)) := Nx.new e hdx
  have hp1 : (upd H dx (.own p)) p = none := by rw [upd_ne (Ne.symm hne)]; exact hp
  have hF1 : (upd F dx (.own p)) p = none := by
    rw [upd_ne (Ne.symm hne)]
    cases hz : F p with
    | none => rfl
    | some o => rw [e _ _ hz] at hp; cases hp
  have e2 : Ext (upd F dx (.own p)) (upd (upd H dx (.own p)) p (.ins C dx [])) := ext_mut n1.fh hF1
  rw [List.append_nil]
  have st : Stp [] F H [p] (upd F dx (.own p)) (upd (upd H dx (.own p)) p (.ins C dx [])) := by
    refine ⟨⟨n1.ff, e2, fun b o hb hbo => ?_, fun b hb h1 h2 => ?_, fun b hb => ?_⟩, fun a ha => .inr ?_⟩
    · have : b ≠ p := fun z => by rw [z, hp] at hbo; cases hbo
      rw [upd_ne this]; exact n1.keep b o hb hbo
    · exact n1.out b h1 h2
    · have : b ≠ p := fun z => hb (by rw [z]; exact hp)
      rw [upd_ne this]; exact n1.dom b hb
    · rw [List.mem_singleton.mp ha]; exact hp
  have st0 : Stp [] F0 H0 [] F H := Stp.of_nx n0 (by simp)
  refine ⟨upd F dx (.own p), p, dx, vs, x, rfl, e2, upd_same, hF1, ra.mono n1.ff hv, (f x).mono (fun y hy F' H' fp' s2 hrel => ?_) (fun er her => X.es (X.step (st0.trans st) her) e2) hm⟩
  have sall := (st0.trans st).trans s2
  exact ⟨rfl, hy _ F' H' fp' sall.nx (fun a ha => by
    rcases sall.new a ha with z | z
    · cases z
    · exact z) hrel⟩
theorem evn_makeMP {ra : RA α} {d : MDs β} {f : α → Wp β} {x : α} {M : Wp β} (h : EvA K X tr Γ ra (.ok x)) (e : f x = M := by rfl) : EvN K X (tMake C (spInitM C ra d f K) [] X.X tr) Γ (mObj C d) M := e ▸ evn_makeM h
theorem sv_newF {v0 : V} {d : MDs α} {x : α} {n : Str} {m : Wp β} {k : β → Wp (Fl S L R)} (hi : Cn.get Γ i = some (.mut ((mObj C d).pin v0) x)) (c : Cls K C) (na : NoAttr K C n) (hn : n ∉ d.names) (hl : d.names.length < 1000) (h : EvP K X te Γ r m)
    (hk : ∀ y, Sv K X tuS (Cn.put Γ i (.mut ((mObj C (mdF d n r)).pin v0) (x, y))) G GL rr (k y)) : Sv K X (tSeq (sFld K (tVar i) te n) tuS) Γ G GL rr (m.bind k) := by
  intro D F H σ' fps e hol hm
  obtain ⟨fp, o, h1, h2, v, rfl, hv0, h3⟩ := hol.get hi
  refine h F H σ' fps _ e hol (m.mono (fun y hm => ?_) (fun _ => X.down e) hm)
  intro u F1 H1 nx hu
  have h3' := (mObj C d).frame h3 nx.nz (by simp)
  obtain ⟨p, dx, fs, fp0, rfl, rfl, hp0, h5, h6, h7⟩ := h3'
  have hnm := d.nm h7
  have hlen := congrArg List.length hnm
  rw [List.length_map] at hlen
  refine ⟨_, h2, p, C, dx, fs, rfl, h5, c, na, by omega, ?_⟩
  have n2 : Nz [p] F1 H1 F1 (upd H1 p (.ins C dx (putF n u fs))) := ((Nx.refl nx.fh : Nx [p] F1 H1 F1 H1).mut (.inl (by simp)) h6).nz
  have hnew : ((mObj C (mdF d n r)).pin v0).rel F1 (upd H1 p (.ins C dx (putF n u fs))) (p :: fp0) (.ref p) (x, y) := ⟨hv0, p, dx, _, fp0, rfl, rfl, hp0, upd_same, h6, fs, u, putF_new (by rw [hnm]; exact hn), d.frame h7 n2 fun a ha z => hp0 (by rw [List.mem_singleton] at z; rw [← z]; exact ha), hu⟩
  have st : Stp (p :: fp0) F1 H1 (p :: fp0) F1 (upd H1 p (.ins C dx (putF n u fs))) := ⟨n2.weak (by simp), fun a ha => .inl ha⟩
  obtain ⟨s3, hol3⟩ := (hol.nx nx).upd (c := .mut ((mObj C (mdF d n r)).pin v0) (x, y)) h1 h2 st ⟨_, rfl, hnew⟩
  exact hk y D F1 _ σ' _ s3.fh hol3 (Wp.mst ((stp_nx nx).trans s3) hm)
theorem sv_newM {v0 : V} {d : MDs α} {x : α} {n : Str} {mt : MT β} {m : Wp β} {k : β → Wp (Fl S L R)} (hi : Cn.get Γ i = some (.mut ((mObj C d).pin v0) x)) (c : Cls K C) (na : NoAttr K C n) (hn : n ∉ d.names) (hl : d.names.length < 1000) (h : EvN K X te Γ mt m)
    (hk : ∀ y, Sv K X tuS (Cn.put Γ i (.mut ((mObj C (mdM d n mt)).pin v0) (x, y))) G GL rr (k y)) : Sv K X (tSeq (sFld K (tVar i) te n) tuS) Γ G GL rr (m.bind k) := by
  intro D F H σ' fps e hol hm
  obtain ⟨fp, o, h1, h2, v, rfl, hv0, h3⟩ := hol.get hi
  refine h F H σ' fps _ e hol (m.mono (fun y hm => ?_) (fun _ => X.down e) hm)
  intro u F1 H1 fp1 nx hfree hu
  have h3' := (mObj C d).frame h3 nx.nz (by simp)
  have hdom := (mObj C d).dom h3
  obtain ⟨p, dx, fs, fp0, rfl, rfl, hp0, h5, h6, h7⟩ := h3'
  have hnm := d.nm h7
  have hlen := congrArg List.length hnm
  rw [List.length_map] at hlen
  have hp1 : p ∉ fp1 := fun z => hdom p (by simp) (hfree p z)
  refine ⟨_, h2, p, C, dx, fs, rfl, h5, c, na, by omega, ?_⟩
  have n2 : Nz [p] F1 H1 F1 (upd H1 p (.ins C dx (putF n u fs))) := ((Nx.refl nx.fh : Nx [p] F1 H1 F1 H1).mut (.inl (by simp)) h6).nz
  have hnew : ((mObj C (mdM d n mt)).pin v0).rel F1 (upd H1 p (.ins C dx (putF n u fs))) (p :: (fp0 ++ fp1)) (.ref p) (x, y) := ⟨hv0, p, dx, _, fp0 ++ fp1, rfl, rfl, by
    rw [List.mem_append, not_or]; exact ⟨hp0, hp1⟩, upd_same, h6, fs, u, fp0, fp1, putF_new (by rw [hnm]; exact hn), rfl, fun a ha z => hdom a (by simp [ha]) (hfree a z), d.frame h7 n2 (fun a ha z => hp0 (by rw [List.mem_singleton] at z; rw [← z]; exact ha)), mt.frame hu n2 fun a ha z => hp1 (by rw [List.mem_singleton] at z; rw [← z]; exact ha)⟩
  have n3 : Nz [p] F H F1 (upd H1 p (.ins C dx (putF n u fs))) := ((stp_nx (fps := [[p]]) nx).trans (⟨n2.weak (by simp), fun a ha => .inl ha⟩ : Stp [p] F1 H1 [p] F1 _)).n
  have st : Stp (p :: fp0) F H (p :: (fp0 ++ fp1)) F1 (upd H1 p (.ins C dx (putF n u fs))) := ⟨n3.weak (by simp), fun a ha => by
    rcases List.mem_cons.mp ha with rfl | ha
    · exact .inl (by simp)
    · rcases List.mem_append.mp ha with ha | ha
      · exact .inl (List.mem_cons_of_mem _ ha)
      · exact .inr (hfree a ha)⟩
  obtain ⟨s3, hol3⟩ := hol.upd (c := .mut ((mObj C (mdM d n mt)).pin v0) (x, y)) h1 h2 st ⟨_, rfl, hnew⟩
  exact hk y D F1 _ σ' _ s3.fh hol3 (Wp.mst s3 hm)
theorem fn_IM {XX : XK} {Q : VK} {σ' : L2.St} {fps : List (List Addr)} {d : MDs β} {p : Addr} {Γ' : List Cn} {body : Wp (Fl β Empty Empty)} {rr : RR Empty} (h : Sv K (zk K XX) ts Γ (fun y => .mut ((mObj C d).pin (.ref p)) y :: Γ') (fun z : Empty => z.elim) rr body) (e : Ext F H) (hol : Hol Γ F H fps σ') (h0 : fps.flatten = [p])
    (hm : (Wp.ini body).run (fun y => ∀ F' H' fp', Stp [p] F H fp' F' H' → (mObj C d).rel F' H' fp' (.ref p) y → Q .non H') (Es K XX [p] F H)) : ts { nx := fun _ H1 => Q .non H1, rt := Q } σ' H := by
  refine h _ F H σ' fps e hol ?_
  rw [h0]
  refine body.mono (fun z hz => ?_) (fun _ z => z) hm
  cases z with
  | brk s => exact s.elim
  | cnt s => exact s.elim
  | ret s => exact s.elim
  | nx y =>
    intro F' H' fps' σ2 s hol'
    match fps', σ2, hol' with
    | fp :: _, o :: _, hol' =>
      obtain ⟨v, rfl, rfl, h4⟩ := hol'.1
      exact hz F' H' fp (s.sub fun a ha => by rw [List.flatten_cons]; exact List.mem_append_left _ ha) h4
theorem hol_mobj {d : MDs σ} {x : σ} {p : Addr} {dx : Addr} (h1 : H p = some (.ins C dx [])) (h2 : F p = none) (hd : d.rel F H [] [] x) : (mObj C d).rel F H [p] (.ref p) x := ⟨p, dx, [], [], rfl, rfl, by simp, h1, h2, hd⟩
end
end L2.My
namespace Lw
end Lw
set_option exponentiation.threshold 20000
local macro_rules | `(tactic| walk_at "wp") => `(tactic| try simp only [L2.My.Wp.ok_bind, L2.My.Wp.bind_ok, L2.My.Wp.bind_assoc, L2.My.Wp.req_bind, L2.My.Wp.bind_out, L2.My.Wp.ret_out, L2.My.Wp.raise_bind, L2.My.Wp.raise_out, L2.My.Wp.req_out, L2.My.Wp.bind_seq, L2.My.Wp.ok_seq, L2.My.Wp.ret_seq, L2.My.Wp.req_seq, L2.My.Wp.bind_up, L2.My.Wp.ret_up, L2.My.Wp.brk_up, L2.My.Wp.cnt_up, L2.My.Wp.req_up, L2.My.Wp.raise_up, L2.My.Wp.nox_ok, L2.My.Wp.nox_bind, L2.My.Wp.nox_req, L2.My.Wp.nox_get, L2.My.Wp.nox_nox, L2.My.Wp.ap, Lw.mkQ_self])
namespace Lw
open PySem PySem.Spec PyProof.Rows L2 L2.My
end Lw
namespace L2.My
open PySem PySem.Spec PyProof.Rows L2
section
variable {α β γ σ S L R : Type} {K : PySem.W.Frag} {X : ZK K} {ts : TS} {Γ : List Cn} {r : RT β} {F H : Hp} {i : Nat} {G : S → List Cn} {GL : L → List Cn} {rr : RR R} {C : Addr}
def frzAt (fp : List Addr) (F H : Hp) : Hp := fun b => if b ∈ fp then H b else F b
structure Clo (m : MT σ) (r : RT σ) : Prop where
  free : ∀ {F H fp v x}, m.rel F H fp v x → ∀ a ∈ fp, F a = none
  to : ∀ {F H fp v x} {F1 : Hp}, m.rel F H fp v x → Ext F F1 → (∀ a ∈ fp, F1 a = H a) → r.rel F1 v x
structure CloD (d : MDs σ) (d' : FDs σ) : Prop where
  free : ∀ {F H fp fs x}, d.rel F H fp fs x → ∀ a ∈ fp, F a = none
  to : ∀ {F H fp fs x} {F1 : Hp}, d.rel F H fp fs x → Ext F F1 → (∀ a ∈ fp, F1 a = H a) → d'.rel F1 fs x
end
end L2.My
namespace Lw
end Lw
set_option exponentiation.threshold 20000
local macro_rules | `(tactic| walk_at "wp") => `(tactic| try simp only [L2.My.Wp.ok_bind, L2.My.Wp.bind_ok, L2.My.Wp.bind_assoc, L2.My.Wp.req_bind, L2.My.Wp.bind_out, L2.My.Wp.ret_out, L2.My.Wp.raise_bind, L2.My.Wp.raise_out, L2.My.Wp.req_out, L2.My.Wp.bind_seq, L2.My.Wp.ok_seq, L2.My.Wp.ret_seq, L2.My.Wp.req_seq, L2.My.Wp.bind_up, L2.My.Wp.ret_up, L2.My.Wp.brk_up, L2.My.Wp.cnt_up, L2.My.Wp.req_up, L2.My.Wp.raise_up, L2.My.Wp.nox_ok, L2.My.Wp.nox_bind, L2.My.Wp.nox_req, L2.My.Wp.nox_get, L2.My.Wp.nox_nox, L2.My.Wp.ap, Lw.mkQ_self])
namespace Lw
open PySem PySem.Spec PyProof.Rows L2 L2.My
end Lw
namespace L2.My
open PySem PySem.Spec PyProof.Rows L2
section
variable {α β ι S S' L R : Type} {K : PySem.W.Frag} {X : ZK K} {ts tw tuS : TS} {Γ : List Cn} {r : RT β} {F H : Hp} {i : Nat} {G : S → List Cn} {GL : L → List Cn} {rr : RR R} {C : Addr}
instance {r : RT α} [Dat r] : Dat (tOpt r) := ⟨fun o => match o with | none => .none | some x => Dat.enc r x, fun K F H v x e h => by
  cases x with
  | none => rw [show v = .non from h]; exact .non
  | some y => exact Dat.dp K e h, fun {F v x} h => by
  cases x with
  | none => rfl
  | some y => exact Dat.lay h, Dat.n r, fun x => by
  cases x with
  | none => exact Nat.zero_le _
  | some y => exact Dat.dep y, fun {F v x} h => by
  cases x with
  | none => trivial
  | some y => exact Dat.ok h⟩
instance {r : RT α} [DecidableEq α] [Dat r] [DatE r] : DatE (tOpt (lT r)) := ⟨fun a b => by
  cases a with
  | none =>
    cases b with
    | none => rfl
    | some y => rfl
  | some x =>
    cases b with
    | none => rfl
    | some y =>
      refine (DatE.same (r := lT r) x y).trans ?_
      by_cases c : x = y
      · subst c; simp
      · rw [decide_eq_false c, decide_eq_false fun z => c (Option.some.inj z)]⟩
instance {r : RT α} [DecidableEq α] [Dat r] [DatE r] : DatE (tOpt (lL r)) := ⟨fun a b => by
  cases a with
  | none =>
    cases b with
    | none => rfl
    | some y => rfl
  | some x =>
    cases b with
    | none => rfl
    | some y =>
      refine (DatE.same (r := lL r) x y).trans ?_
      by_cases c : x = y
      · subst c; simp
      · rw [decide_eq_false c, decide_eq_false fun z => c (Option.some.inj z)]⟩
def eqIns (C : Addr) (d : FDs α) [DecidableEq α] : Addr → Addr → Hp → Bool → Prop := fun p q H b => ∃ x y, (tIns C d).rel H (.ref p) x ∧ (tIns C d).rel H (.ref q) y ∧ b = decide (x = y)
end
end L2.My
namespace Lw
end Lw
set_option exponentiation.threshold 20000
local macro_rules | `(tactic| walk_at "wp") => `(tactic| try simp only [L2.My.Wp.ok_bind, L2.My.Wp.bind_ok, L2.My.Wp.bind_assoc, L2.My.Wp.req_bind, L2.My.Wp.bind_out, L2.My.Wp.ret_out, L2.My.Wp.raise_bind, L2.My.Wp.raise_out, L2.My.Wp.req_out, L2.My.Wp.bind_seq, L2.My.Wp.ok_seq, L2.My.Wp.ret_seq, L2.My.Wp.req_seq, L2.My.Wp.bind_up, L2.My.Wp.ret_up, L2.My.Wp.brk_up, L2.My.Wp.cnt_up, L2.My.Wp.req_up, L2.My.Wp.raise_up, L2.My.Wp.nox_ok, L2.My.Wp.nox_bind, L2.My.Wp.nox_req, L2.My.Wp.nox_get, L2.My.Wp.nox_nox, L2.My.Wp.ap, Lw.mkQ_self])
namespace Lw
open PySem PySem.Spec PyProof.Rows L2 L2.My
end Lw
namespace L2.My
open PySem PySem.Spec PyProof.Rows L2
section
variable {α β γ ι σ S L R : Type} {K : PySem.W.Frag} {E X : ZK K} {te ta tb ti t1 t2 : TE} {tu : TS} {Γ : List Cn} {r : RT α} {F H F' H' : Hp} {i j t : Nat} {G : S → List Cn} {GL : L → List Cn} {rr : RR R} {M : List Addr}
def Own (m : MT σ) (F H : Hp) : List (List Addr) → List V → List σ → Prop
  | [], [], [] => True
  | fp :: fps, w :: ws, x :: xs => m.rel F H fp w x ∧ (∀ a ∈ fp, a ∉ fps.flatten) ∧ Own m F H fps ws xs
  | _, _, _ => False
variable {m : MT σ} {fp : List Addr} {fps : List (List Addr)} {ws : List V} {w : V} {xs : List σ} {x : σ}
theorem Own.len : ∀ {fps : List (List Addr)} {ws : List V} {xs : List σ}, Own m F H fps ws xs → fps.length = xs.length ∧ ws.length = xs.length
  | [], [], [], _ => ⟨rfl, rfl⟩
  | _ :: _, _ :: _, _ :: _, h => by
    obtain ⟨h1, h2⟩ := h.2.2.len
    exact ⟨by simp [h1], by simp [h2]⟩
  | [], _ :: _, _, h => h.elim
  | [], [], _ :: _, h => h.elim
  | _ :: _, [], _, h => h.elim
  | _ :: _, _ :: _, [], h => h.elim
theorem Own.frame : ∀ {fps : List (List Addr)} {ws : List V} {xs : List σ}, Own m F H fps ws xs → Nz M F H F' H' → (∀ a ∈ fps.flatten, a ∉ M) → Own m F' H' fps ws xs
  | [], [], [], _, _, _ => trivial
  | fp :: fps, _ :: _, _ :: _, h, n, hM => ⟨m.frame h.1 n fun a ha => hM a (by rw [List.flatten_cons]; exact List.mem_append_left _ ha), h.2.1, h.2.2.frame n fun a ha => hM a (by rw [List.flatten_cons]; exact List.mem_append_right _ ha)⟩
  | [], _ :: _, _, h, _, _ => h.elim
  | [], [], _ :: _, h, _, _ => h.elim
  | _ :: _, [], _, h, _, _ => h.elim
  | _ :: _, _ :: _, [], h, _, _ => h.elim
theorem Own.dom : ∀ {fps : List (List Addr)} {ws : List V} {xs : List σ}, Own m F H fps ws xs → ∀ a ∈ fps.flatten, H a ≠ none
  | [], [], [], _, _, ha => by simp at ha
  | fp :: fps, _ :: _, _ :: _, h, a, ha => by
    rw [List.flatten_cons] at ha
    rcases List.mem_append.mp ha with ha | ha
    · exact m.dom h.1 a ha
    · exact h.2.2.dom a ha
  | [], _ :: _, _, h, _, _ => h.elim
  | [], [], _ :: _, h, _, _ => h.elim
  | _ :: _, [], _, h, _, _ => h.elim
  | _ :: _, _ :: _, [], h, _, _ => h.elim
theorem Own.snoc : ∀ {fps : List (List Addr)} {ws : List V} {xs : List σ}, Own m F H fps ws xs → m.rel F H fp w x → (∀ a ∈ fp, a ∉ fps.flatten) → Own m F H (fps ++ [fp]) (ws ++ [w]) (xs ++ [x])
  | [], [], [], _, h, _ => ⟨h, by simp, trivial⟩
  | fp0 :: fps, _ :: _, _ :: _, h0, h, hd => by
    refine ⟨h0.1, fun a ha => ?_, h0.2.2.snoc h fun a ha z => hd a ha (by rw [List.flatten_cons]; exact List.mem_append_right _ z)⟩
    intro z
    rw [show fps.append [fp] = fps ++ [fp] from rfl, List.flatten_append] at z
    rcases List.mem_append.mp z with z | z
    · exact h0.2.1 a ha z
    · have z : a ∈ fp := by simpa using z
      exact hd a z (by rw [List.flatten_cons]; exact List.mem_append_left _ ha)
  | [], _ :: _, _, h, _, _ => h.elim
  | [], [], _ :: _, h, _, _ => h.elim
  | _ :: _, [], _, h, _, _ => h.elim
  | _ :: _, _ :: _, [], h, _, _ => h.elim
theorem Own.at : ∀ {fps : List (List Addr)} {ws : List V} {xs : List σ} {k : Nat}, Own m F H fps ws xs → xs[k]? = some x → ∃ fp w, ws[k]? = some w ∧ m.rel F H fp w x ∧ (∀ a ∈ fp, a ∈ fps.flatten) ∧
    ∀ F' H' y, Nz fp F H F' H' → m.rel F' H' fp w y → Own m F' H' fps ws (xs.set k y)
  | fp :: fps, w :: ws, x0 :: xs, 0, h, e => by
    cases e
    refine ⟨fp, w, rfl, h.1, fun a ha => by rw [List.flatten_cons]; exact List.mem_append_left _ ha, fun F' H' y n hy => ⟨hy, h.2.1, h.2.2.frame n fun a ha z => h.2.1 a z ha⟩⟩
  | fp :: fps, w :: ws, x0 :: xs, k + 1, h, e => by
    obtain ⟨fp1, w1, q1, q2, q3, q4⟩ := h.2.2.at (k := k) e
    refine ⟨fp1, w1, q1, q2, fun a ha => by rw [List.flatten_cons]; exact List.mem_append_right _ (q3 a ha), fun F' H' y n hy => ⟨m.frame h.1 n fun a ha z => h.2.1 a ha (q3 a z), h.2.1, q4 F' H' y n hy⟩⟩
  | [], [], [], _, _, e => by simp at e
  | [], _ :: _, _, _, h, _ => h.elim
  | [], [], _ :: _, _, h, _ => h.elim
  | _ :: _, [], _, _, h, _ => h.elim
  | _ :: _, _ :: _, [], _, h, _ => h.elim
def mN (m : MT σ) : MT (List σ) where
  rel := fun F H fp v xs => ∃ p ws fps, v = .ref p ∧ fp = p :: fps.flatten ∧ p ∉ fps.flatten ∧ H p = some (.lst ws) ∧ F p = none ∧ Own m F H fps ws xs ∧ xs.length ≤ 16777215
  dom := fun h a ha => by
    obtain ⟨p, ws, fps, rfl, rfl, _, h1, _, h2, _⟩ := h
    rcases List.mem_cons.mp ha with rfl | ha
    · rw [h1]; simp
    · exact h2.dom a ha
  frame := fun {M F H F' H' fp v s} h n hM => by
    obtain ⟨p, ws, fps, rfl, rfl, h0, h1, h2, h3, h4⟩ := h
    have hp := hM p (by simp)
    exact ⟨p, ws, fps, rfl, rfl, h0, n.keep p _ hp h1, n.out p hp h2 (by rw [h1]; simp), h3.frame n fun a ha => hM a (List.mem_cons_of_mem _ ha), h4⟩
def Nko (F H : Hp) (m : MT σ) (Q : VK) : List σ → Prop := fun ys => ∀ v F' H' fp, Nx [] F H F' H' → (∀ a ∈ fp, H a = none) → (mN m).rel F' H' fp v ys → Q v H'
end
end L2.My
namespace Lw
end Lw
set_option exponentiation.threshold 20000
local macro_rules | `(tactic| walk_at "wp") => `(tactic| try simp only [L2.My.Wp.ok_bind, L2.My.Wp.bind_ok, L2.My.Wp.bind_assoc, L2.My.Wp.req_bind, L2.My.Wp.bind_out, L2.My.Wp.ret_out, L2.My.Wp.raise_bind, L2.My.Wp.raise_out, L2.My.Wp.req_out, L2.My.Wp.bind_seq, L2.My.Wp.ok_seq, L2.My.Wp.ret_seq, L2.My.Wp.req_seq, L2.My.Wp.bind_up, L2.My.Wp.ret_up, L2.My.Wp.brk_up, L2.My.Wp.cnt_up, L2.My.Wp.req_up, L2.My.Wp.raise_up, L2.My.Wp.nox_ok, L2.My.Wp.nox_bind, L2.My.Wp.nox_req, L2.My.Wp.nox_get, L2.My.Wp.nox_nox, L2.My.Wp.ap, Lw.mkQ_self])
namespace Lw
open PySem PySem.Spec PyProof.Rows L2 L2.My
end Lw
namespace L2.My
open PySem PySem.Spec PyProof.Rows L2
mutual
def encP : Plan → PyData
  | .say k => .tuple [.str "say", .int k]
  | .press b ps => .tuple [.str "press", .int b, .tuple (encPs ps)]
def encPs : List Plan → List PyData
  | [] => []
  | p :: ps => encP p :: encPs ps
end
mutual
def plD : Plan → Nat
  | .say _ => 0
  | .press _ ps => plDs ps + 1
def plDs : List Plan → Nat
  | [] => 0
  | p :: ps => max (plD p) (plDs ps)
end
section
variable {K : PySem.W.Frag} {E : ZK K} {Γ : List Cn} {F H : Hp} {tr : TA}
theorem encPs_len : ∀ ps : List Plan, (encPs ps).length = ps.length
  | [] => rfl
  | p :: ps => by
    show (encPs ps).length + 1 = ps.length + 1
    rw [encPs_len ps]
mutual
theorem dp_pl (e : Ext F H) : ∀ (p : Plan) (v : V), planRel F p v → Dp K H v (encP p)
  | .say k, v, h => by
    unfold planRel at h
    obtain ⟨a, rfl, h2⟩ := h
    unfold encP
    exact .tup (SqT.of (e _ _ h2)) (.cons (.str _) (.cons (.int _) .nil))
  | .press b ps, v, h => by
    unfold planRel at h
    obtain ⟨a, w, rfl, h2, ⟨ws, h3, h4⟩, h5⟩ := h
    unfold encP
    exact .tup (SqT.of (e _ _ h2)) (.cons (.str _) (.cons (.int _) (.cons (.tup (SqT.of (e _ _ h3)) (dp_pls e ps ws h4)) .nil)))
theorem dp_pls (e : Ext F H) : ∀ (ps : List Plan) (ws : List V), plansRel F ps ws → DpAll K H ws (encPs ps)
  | [], ws, h => by
    unfold plansRel at h
    subst h
    unfold encPs
    exact .nil
  | p :: ps, ws, h => by
    unfold plansRel at h
    obtain ⟨w, us, rfl, h2, h3⟩ := h
    unfold encPs
    exact .cons (dp_pl e p w h2) (dp_pls e ps us h3)
end
mutual
theorem ok_pl : ∀ (p : Plan) (v : V) (d : Nat), planRel F p v → plD p ≤ d → Lw.dOk (2 * d + 2) (encP p)
  | .say k, v, d, h, _ => by
    unfold encP
    refine ⟨by simp, fun e he => ?_⟩
    rcases List.mem_cons.mp he with rfl | he
    · trivial
    · rw [List.mem_singleton.mp he]; trivial
  | .press b ps, v, d, h, hd => by
    unfold planRel at h
    obtain ⟨a, w, rfl, h2, ⟨ws, h3, h4⟩, h5⟩ := h
    unfold plD at hd
    obtain ⟨d, rfl⟩ : ∃ k, d = k + 1 := ⟨d - 1, by omega⟩
    unfold encP
    refine ⟨by simp, fun e he => ?_⟩
    rcases List.mem_cons.mp he with rfl | he
    · trivial
    rcases List.mem_cons.mp he with rfl | he
    · trivial
    · rw [List.mem_singleton.mp he]
      exact ⟨by rw [encPs_len]; omega, ok_pls ps ws d h4 (by omega)⟩
theorem ok_pls : ∀ (ps : List Plan) (ws : List V) (d : Nat), plansRel F ps ws → plDs ps ≤ d → ∀ e ∈ encPs ps, Lw.dOk (2 * d + 2) e
  | [], ws, d, h, _ => by
    unfold encPs
    intro e he; cases he
  | p :: ps, ws, d, h, hd => by
    unfold plansRel at h
    obtain ⟨w, us, rfl, h2, h3⟩ := h
    unfold plDs at hd
    unfold encPs
    intro e he
    rcases List.mem_cons.mp he with rfl | he
    · exact ok_pl p w d h2 (by omega)
    · exact ok_pls ps us d h3 (by omega) e he
end
end
end L2.My
namespace Lw
end Lw
set_option exponentiation.threshold 20000
local macro_rules | `(tactic| walk_at "wp") => `(tactic| try simp only [L2.My.Wp.ok_bind, L2.My.Wp.bind_ok, L2.My.Wp.bind_assoc, L2.My.Wp.req_bind, L2.My.Wp.bind_out, L2.My.Wp.ret_out, L2.My.Wp.raise_bind, L2.My.Wp.raise_out, L2.My.Wp.req_out, L2.My.Wp.bind_seq, L2.My.Wp.ok_seq, L2.My.Wp.ret_seq, L2.My.Wp.req_seq, L2.My.Wp.bind_up, L2.My.Wp.ret_up, L2.My.Wp.brk_up, L2.My.Wp.cnt_up, L2.My.Wp.req_up, L2.My.Wp.raise_up, L2.My.Wp.nox_ok, L2.My.Wp.nox_bind, L2.My.Wp.nox_req, L2.My.Wp.nox_get, L2.My.Wp.nox_nox, L2.My.Wp.ap, Lw.mkQ_self])
namespace Lw
open PySem PySem.Spec PyProof.Rows L2 L2.My
end Lw
namespace L2.My
open PySem PySem.Spec PyProof.Rows L2
section
variable {α β σ S L R : Type} {K : PySem.W.Frag} {E X : ZK K} {te ti : TE} {tu : TS} {Γ : List Cn} {r : RT α} {F H : Hp} {i j : Nat} {G : S → List Cn} {GL : L → List Cn} {rr : RR R} {m : MT σ}
end
end L2.My
namespace Lw
end Lw
set_option exponentiation.threshold 20000
local macro_rules | `(tactic| walk_at "wp") => `(tactic| try simp only [L2.My.Wp.ok_bind, L2.My.Wp.bind_ok, L2.My.Wp.bind_assoc, L2.My.Wp.req_bind, L2.My.Wp.bind_out, L2.My.Wp.ret_out, L2.My.Wp.raise_bind, L2.My.Wp.raise_out, L2.My.Wp.req_out, L2.My.Wp.bind_seq, L2.My.Wp.ok_seq, L2.My.Wp.ret_seq, L2.My.Wp.req_seq, L2.My.Wp.bind_up, L2.My.Wp.ret_up, L2.My.Wp.brk_up, L2.My.Wp.cnt_up, L2.My.Wp.req_up, L2.My.Wp.raise_up, L2.My.Wp.nox_ok, L2.My.Wp.nox_bind, L2.My.Wp.nox_req, L2.My.Wp.nox_get, L2.My.Wp.nox_nox, L2.My.Wp.ap, Lw.mkQ_self])
namespace Lw
open PySem PySem.Spec PyProof.Rows L2 L2.My
end Lw
namespace L2.My
open PySem PySem.Spec PyProof.Rows L2
section
variable {α β S L R : Type} {K : PySem.W.Frag} {X : ZK K} {tE : TE} {tT tL : TT} {tA tB : TE} {Γ : List Cn} {r : RT α} {rE : RT β} {F H F' H' : Hp} {G : S → List Cn} {GL : L → List Cn} {rr : RR R} {fps : List (List Addr)} {σ : L2.St} {c : Cn}
def nearW (f : List α → Wp β) (t : List α → β → Wp Bool) : List (List α) → Nat → Option Nat → Wp (Option Nat)
  | [], _, o => .ok o
  | x :: xs, i, o => (f x).bind fun y => (match o with | some k => (Wp.ok (some k) : Wp (Option Nat)) | none => (t x y).bind fun b => if b = true then .req (x ≠ []) (.ok (some i)) else .ok none).bind fun o' => nearW f t xs (i + 1) o'
def NearR (xss : List (List α)) (jd jn : Nat) (F H : Hp) (fps : List (List Addr)) (σ : L2.St) : Option Nat → Prop
  | none => ∃ q0, σ[jn]? = some (some (.ref q0)) ∧ H q0 = some (.lst []) ∧ F q0 = none ∧ ∀ fp ∈ fps, q0 ∉ fp
  | some i => ∃ p ws w g, σ[jd]? = some (some (.ref p)) ∧ H p = some (.lst ws) ∧ ws[i]? = some w ∧ σ[jn]? = some (some w) ∧ xss[i]? = some g ∧ g ≠ []
theorem NearR.nx {xss : List (List α)} {jd jn : Nat} {σ σ' : L2.St} : ∀ {o : Option Nat}, NearR xss jd jn F H fps σ o → Nx [] F H F' H' → σ'[jd]? = σ[jd]? → σ'[jn]? = σ[jn]? → NearR xss jd jn F' H' fps σ' o
  | none, ⟨q0, h1, h2, h3, h4⟩, n, e1, e2 => ⟨q0, e2.trans h1, n.keep q0 _ (by simp) h2, n.out q0 h3 (by rw [h2]; simp), h4⟩
  | some i, ⟨p, ws, w, g, h1, h2, h3, h4, h5, h6⟩, n, e1, e2 => ⟨p, ws, w, g, e1.trans h1, n.keep p _ (by simp) h2, h3, e2.trans h4, h5, h6⟩
def nearK {γ : Type} (o : Option Nat) (A : Wp γ) (B : Nat → Wp γ) : Wp γ := match o with
  | none => A
  | some i => B i
end
end L2.My
namespace Lw
end Lw
set_option exponentiation.threshold 20000
local macro_rules | `(tactic| walk_at "wp") => `(tactic| try simp only [L2.My.Wp.ok_bind, L2.My.Wp.bind_ok, L2.My.Wp.bind_assoc, L2.My.Wp.req_bind, L2.My.Wp.bind_out, L2.My.Wp.ret_out, L2.My.Wp.raise_bind, L2.My.Wp.raise_out, L2.My.Wp.req_out, L2.My.Wp.bind_seq, L2.My.Wp.ok_seq, L2.My.Wp.ret_seq, L2.My.Wp.req_seq, L2.My.Wp.bind_up, L2.My.Wp.ret_up, L2.My.Wp.brk_up, L2.My.Wp.cnt_up, L2.My.Wp.req_up, L2.My.Wp.raise_up, L2.My.Wp.nox_ok, L2.My.Wp.nox_bind, L2.My.Wp.nox_req, L2.My.Wp.nox_get, L2.My.Wp.nox_nox, L2.My.Wp.ap, Lw.mkQ_self])
namespace Lw
open PySem PySem.Spec PyProof.Rows L2 L2.My
end Lw
namespace L2.My
open PySem PySem.Spec PyProof.Rows L2
def turnL {α : Type} (xss : List (List α)) : List (List α) := (List.range (xss.headD []).length).map fun j => xss.filterMap fun xs => xs[j]?
def TurnOk {α : Type} (xss : List (List α)) : Prop := xss ≠ [] ∧ xss.length ≤ 1000 ∧ 0 < (xss.headD []).length ∧ (xss.headD []).length ≤ 1000 ∧ ∀ xs ∈ xss, xs.length = (xss.headD []).length
section
variable {α : Type} {K : PySem.W.Frag} {E : ZK K} {te : TE} {Γ : List Cn} {r : RT α} {F H : Hp}
def lcols (F : Hp) (l : Addr) : List V := match F l with
  | some (.lst us) => us
  | _ => []
end
end L2.My
namespace Lw
end Lw
set_option exponentiation.threshold 20000
local macro_rules | `(tactic| walk_at "wp") => `(tactic| try simp only [L2.My.Wp.ok_bind, L2.My.Wp.bind_ok, L2.My.Wp.bind_assoc, L2.My.Wp.req_bind, L2.My.Wp.bind_out, L2.My.Wp.ret_out, L2.My.Wp.raise_bind, L2.My.Wp.raise_out, L2.My.Wp.req_out, L2.My.Wp.bind_seq, L2.My.Wp.ok_seq, L2.My.Wp.ret_seq, L2.My.Wp.req_seq, L2.My.Wp.bind_up, L2.My.Wp.ret_up, L2.My.Wp.brk_up, L2.My.Wp.cnt_up, L2.My.Wp.req_up, L2.My.Wp.raise_up, L2.My.Wp.nox_ok, L2.My.Wp.nox_bind, L2.My.Wp.nox_req, L2.My.Wp.nox_get, L2.My.Wp.nox_nox, L2.My.Wp.ap, Lw.mkQ_self])
namespace Lw
open PySem PySem.Spec PyProof.Rows L2 L2.My
end Lw
namespace L2.My
open PySem PySem.Spec PyProof.Rows L2 Lw
section
variable {α β γ δ : Type} {K : PySem.W.Frag} {E : ZK K} {ta tb : TA} {Γ : List Cn} {r : RT α} {r' : RT β} {ra : RA γ} {rb : RA δ}
def optB (f : α → Bool) (o : Option α) : Bool := match o with
  | none => false
  | some x => f x
def lD (ra : RA γ) : RT γ := ⟨fun H v x => ∃ a vs, v = .ref a ∧ H a = some (.lst vs) ∧ ra.rel H vs x, fun e h => by
  obtain ⟨a, vs, rfl, h1, h2⟩ := h
  exact ⟨a, vs, rfl, e _ _ h1, ra.mono e h2⟩⟩
def SmE (r : RT α) (r' : RT β) (p : α → β → Prop) (n : Nat) : Prop := ∀ (K : PySem.W.Frag) F H v w x y, Ext F H → r.rel F v x → r'.rel F w y → p x y → ∃ d, Dp K H v d ∧ Dp K H w d ∧ Lw.dOk n d
def Sm (ra : RA γ) (rb : RA δ) (p : γ → δ → Prop) (n k : Nat) : Prop := ∀ (K : PySem.W.Frag) F H vs ws x y, Ext F H → ra.rel F vs x → rb.rel F ws y → p x y → ∃ ds, DpAll K H vs ds ∧ DpAll K H ws ds ∧ ds.length = k ∧ ∀ d ∈ ds, Lw.dOk n d
def LenR (ra : RA γ) (k : Nat) : Prop := ∀ F vs x, ra.rel F vs x → vs.length = k
end
end L2.My
namespace Lw
end Lw
set_option exponentiation.threshold 20000
local macro_rules | `(tactic| walk_at "wp") => `(tactic| try simp only [L2.My.Wp.ok_bind, L2.My.Wp.bind_ok, L2.My.Wp.bind_assoc, L2.My.Wp.req_bind, L2.My.Wp.bind_out, L2.My.Wp.ret_out, L2.My.Wp.raise_bind, L2.My.Wp.raise_out, L2.My.Wp.req_out, L2.My.Wp.bind_seq, L2.My.Wp.ok_seq, L2.My.Wp.ret_seq, L2.My.Wp.req_seq, L2.My.Wp.bind_up, L2.My.Wp.ret_up, L2.My.Wp.brk_up, L2.My.Wp.cnt_up, L2.My.Wp.req_up, L2.My.Wp.raise_up, L2.My.Wp.nox_ok, L2.My.Wp.nox_bind, L2.My.Wp.nox_req, L2.My.Wp.nox_get, L2.My.Wp.nox_nox, L2.My.Wp.ap, Lw.mkQ_self])
namespace Lw
open PySem PySem.Spec PyProof.Rows L2 L2.My
end Lw
namespace L2.My
open PySem PySem.Spec PyProof.Rows L2
class Flt {α : Type} (r : RT α) [DecidableEq α] : Prop where
  fl : ∀ {F v x}, r.rel F v x → flatV v = true
  eq : ∀ {F v x w y}, r.rel F v x → r.rel F w y → eqV v w = decide (x = y)
section
variable {α β γ ι : Type} [DecidableEq α] {K : PySem.W.Frag} {E : ZK K} {Γ : List Cn} {r : RT α} {F H : Hp} {te : TE} {tr : TA}
instance : Flt tInt := ⟨fun {F v x} h => by rw [show v = _ from h]; rfl, fun {F v x w y} h h' => by
  rw [show v = _ from h, show w = _ from h']
  show (x == y) = _
  rw [Bool.beq_eq_decide_eq]⟩
instance : Flt tBool := ⟨fun {F v x} h => by rw [show v = _ from h]; rfl, fun {F v x w y} h h' => by
  rw [show v = _ from h, show w = _ from h']
  cases x <;> cases y <;> rfl⟩
instance : Flt tTx := ⟨fun {F v x} h => by rw [h.1]; rfl, fun {F v x w y} h h' => by
  rw [h.1, h'.1]
  show (x == y) = _
  rw [Bool.beq_eq_decide_eq]⟩
theorem inV_al [Flt r] {v : V} {x : α} (hv : r.rel F v x) : ∀ {ws : List V} {xs : List α}, Al r F ws xs → ws.all flatV = true ∧ inV v ws = decide (x ∈ xs)
  | [], [], _ => ⟨rfl, rfl⟩
  | w :: ws, y :: xs, h => by
    obtain ⟨h1, h2⟩ := inV_al hv h.2
    refine ⟨by rw [List.all_cons, Flt.fl h.1, h1]; rfl, ?_⟩
    show (eqV w v || inV v ws) = _
    rw [h2, Flt.eq h.1 hv]
    by_cases c : y = x
    · subst c; simp
    · have c' : ¬ x = y := fun z => c z.symm
      simp [c, c']
  | [], _ :: _, h => h.elim
  | _ :: _, [], h => h.elim
theorem opv_in [Flt r] {neg : Bool} : OpV K E (rIn K neg) r (lS r) tBool fun a xs => .ok (if neg then !decide (a ∈ xs) else decide (a ∈ xs)) := by
  intro F H v w a xs Q σ e ha hb hm
  obtain ⟨hb, hl⟩ := hb
  obtain ⟨p, ws, rfl, h2, h3⟩ := hb
  obtain ⟨f1, f2⟩ := inV_al ha h3
  rcases h2 with h2 | h2
  · exact ⟨p, ws, rfl, .inl (SqL.of (e _ _ h2)), Flt.fl ha, f1, by rw [f2]; exact hm _ F H (Nx.refl e) rfl⟩
  · exact ⟨p, ws, rfl, .inr (SqT.of (e _ _ h2)), Flt.fl ha, f1, by rw [f2]; exact hm _ F H (Nx.refl e) rfl⟩
theorem opv_inN [Flt r] : OpV K E (rIn K false) r (lS r) tBool fun a xs => .ok (decide (a ∈ xs)) := opv_in (neg := false)
theorem opv_notIn [Flt r] : OpV K E (rIn K true) r (lS r) tBool fun a xs => .ok (!decide (a ∈ xs)) := opv_in (neg := true)
theorem flt_opt (nn : NotNon r) [Flt r] (hn : ∀ w, w ≠ .non → eqV .non w = false ∧ eqV w .non = false) : Flt (tOpt r) := ⟨fun {F v x} h => by
  cases x with
  | none => rw [show v = .non from h]; rfl
  | some x => exact Flt.fl (r := r) h, fun {F v x w y} h h' => by
  cases x with
  | none =>
    cases y with
    | none => rw [show v = .non from h, show w = .non from h']; rfl
    | some y => rw [show v = .non from h, (hn w (nn _ _ _ h')).1]; rfl
  | some x =>
    cases y with
    | none => rw [show w = .non from h', (hn v (nn _ _ _ h)).2]; rfl
    | some y =>
      rw [Flt.eq (r := r) h h']
      by_cases c : x = y
      · subst c; simp
      · rw [decide_eq_false c, decide_eq_false fun z => c (Option.some.inj z)]⟩
theorem eqV_non : ∀ w : V, w ≠ .non → eqV .non w = false ∧ eqV w .non = false := fun w h => by
  cases w with
  | non => exact absurd rfl h
  | _ => exact ⟨rfl, rfl⟩
instance : Flt (tOpt tInt) := flt_opt nn_int eqV_non
instance : Flt (tOpt tTx) := flt_opt nn_tx eqV_non
end
section
variable {α β γ δ ε : Type} {K : PySem.W.Frag} {E : ZK K} {Γ : List Cn} {r : RT α} {F H : Hp} {te : TE} {tr : TA}
def tHet {β : Type} (ra : RA β) : RT β := ⟨fun H v x => ∃ a ws, v = .ref a ∧ H a = some (.tup ws) ∧ ra.rel H ws x, fun e h => by
  obtain ⟨a, ws, h1, h2, h3⟩ := h
  exact ⟨a, ws, h1, e _ _ h2, ra.mono e h3⟩⟩
structure LenA {β : Type} (ra : RA β) (n : Nat) : Prop where
  len : ∀ {F vs x}, ra.rel F vs x → vs.length = n
structure AtA {β γ : Type} (ra : RA β) (n : Nat) (r : RT γ) (g : β → γ) : Prop where
  at_ : ∀ {F vs x}, ra.rel F vs x → ∃ v, vs[n]? = some v ∧ r.rel F v (g x)
def EvTs (g : TGs) (Γ : List Cn) (ra : RA α) (f : α → List Cn) (ws : List Nat) : Prop :=
  ∀ F H σ fps vs x (Q : L2.St → Hp → Prop), Ext F H → Hol Γ F H fps σ → ra.rel F vs x →
    (∀ σ' fps', (∀ a ∈ fps'.flatten, a ∈ fps.flatten) → (∀ vs, (∀ i ∈ ws, i ∈ vs) → L2.wipe σ' vs = L2.wipe σ vs) → Hol (f x) F H fps' σ' → Q σ' H) → g vs σ H Q
end
class DatA {β : Type} (ra : RA β) where
  encs : β → List PyData
  dp : ∀ (K : PySem.W.Frag) {F H vs x}, Ext F H → ra.rel F vs x → DpAll K H vs (encs x)
  lay : ∀ {F vs x}, ra.rel F vs x → PyData.canLayAll0 (encs x) = true
  n : Nat
  dep : ∀ x, PyData.depthAll (encs x) ≤ n
  ok : ∀ {F vs x}, ra.rel F vs x → ∀ e ∈ encs x, Lw.dOk (n + 1) e
  m : Nat
  len : ∀ x, (encs x).length = m
section
variable {α β : Type} {r : RT α} {ra : RA β}
instance : DatA raN := ⟨fun _ => [], fun K F H vs x e h => by rw [show vs = [] from h]; exact .nil, fun _ => rfl, 0, fun _ => Nat.le_refl _, fun _ e he => (by cases he), 0, fun _ => rfl⟩
instance [Dat r] [DatA ra] : DatA (raC r ra) := ⟨fun x => Dat.enc r x.1 :: DatA.encs ra x.2, fun K F H vs x e h => by
  obtain ⟨v, ws, rfl, h1, h2⟩ := h
  exact .cons (Dat.dp K e h1) (DatA.dp K e h2), fun {F vs x} h => by
  obtain ⟨v, ws, rfl, h1, h2⟩ := h
  show (_ && _) = true
  rw [Dat.lay h1, DatA.lay h2]; rfl, max (Dat.n r) (DatA.n ra), fun x => Nat.max_le.mpr ⟨Nat.le_trans (Dat.dep x.1) (Nat.le_max_left _ _), Nat.le_trans (DatA.dep x.2) (Nat.le_max_right _ _)⟩, fun {F vs x} h e he => by
  obtain ⟨v, ws, rfl, h1, h2⟩ := h
  have q1 := Nat.le_max_left (Dat.n r) (DatA.n ra)
  have q2 := Nat.le_max_right (Dat.n r) (DatA.n ra)
  rcases List.mem_cons.mp he with rfl | he
  · exact dOk_mono (by omega) (Dat.ok h1)
  · exact dOk_mono (by omega) (DatA.ok h2 e he), DatA.m ra + 1, fun x => by rw [List.length_cons, DatA.len]⟩
end
class SmlA {β : Type} (ra : RA β) [DatA ra] : Prop where
  le : DatA.m ra ≤ 1000
section
variable {a b c d e f : Type} {ra : RT a} {rb : RT b} {rc : RT c} {rd : RT d} {re : RT e} {rf : RT f}
instance [Dat ra] [Dat rb] [Dat rc] [Dat rd] : SmlA (raC ra (raC rb (raC rc (raC rd raN)))) := ⟨by show 0 + 1 + 1 + 1 + 1 ≤ 1000; decide⟩
instance [Dat ra] [Dat rb] [Dat rc] [Dat rd] [Dat re] : SmlA (raC ra (raC rb (raC rc (raC rd (raC re raN))))) := ⟨by show 0 + 1 + 1 + 1 + 1 + 1 ≤ 1000; decide⟩
instance [Dat ra] [Dat rb] [Dat rc] [Dat rd] [Dat re] [Dat rf] : SmlA (raC ra (raC rb (raC rc (raC rd (raC re (raC rf raN)))))) := ⟨by show 0 + 1 + 1 + 1 + 1 + 1 + 1 ≤ 1000; decide⟩
end
instance {β : Type} {ra : RA β} [DatA ra] [s : SmlA ra] : Dat (tHet ra) := ⟨fun x => .tuple (DatA.encs ra x), fun K F H v x e h => by
  obtain ⟨a, ws, rfl, h2, h3⟩ := h
  exact .tup (SqT.of (e _ _ h2)) (DatA.dp K e h3), fun h => by
  obtain ⟨a, ws, rfl, h2, h3⟩ := h
  exact DatA.lay h3, DatA.n ra + 1, fun x => Nat.succ_le_succ (DatA.dep x), fun {F v x} h => by
  obtain ⟨a, ws, rfl, h2, h3⟩ := h
  exact ⟨by rw [DatA.len]; have := s.le; omega, DatA.ok h3⟩⟩
class DatAE {β : Type} (ra : RA β) [DatA ra] [DecidableEq β] : Prop where
  same : ∀ a b : β, PyData.eqvAll (DatA.encs ra a) (DatA.encs ra b) = decide (a = b)
section
variable {α β : Type} [DecidableEq α] [DecidableEq β] {r : RT α} {ra : RA β}
instance : DatAE raN := ⟨fun _ _ => rfl⟩
instance [Dat r] [DatE r] [DatA ra] [DatAE ra] : DatAE (raC r ra) := ⟨fun a b => by
  show (_ && _) = _
  rw [DatE.same a.1 b.1, DatAE.same a.2 b.2]
  obtain ⟨a1, a2⟩ := a
  obtain ⟨b1, b2⟩ := b
  simp⟩
instance [DatA ra] [DatAE ra] [SmlA ra] : DatE (tHet ra) := ⟨fun a b => DatAE.same a b⟩
end
end L2.My
namespace Lw
end Lw
set_option exponentiation.threshold 20000
local macro_rules | `(tactic| walk_at "wp") => `(tactic| try simp only [L2.My.Wp.ok_bind, L2.My.Wp.bind_ok, L2.My.Wp.bind_assoc, L2.My.Wp.req_bind, L2.My.Wp.bind_out, L2.My.Wp.ret_out, L2.My.Wp.raise_bind, L2.My.Wp.raise_out, L2.My.Wp.req_out, L2.My.Wp.bind_seq, L2.My.Wp.ok_seq, L2.My.Wp.ret_seq, L2.My.Wp.req_seq, L2.My.Wp.bind_up, L2.My.Wp.ret_up, L2.My.Wp.brk_up, L2.My.Wp.cnt_up, L2.My.Wp.req_up, L2.My.Wp.raise_up, L2.My.Wp.nox_ok, L2.My.Wp.nox_bind, L2.My.Wp.nox_req, L2.My.Wp.nox_get, L2.My.Wp.nox_nox, L2.My.Wp.ap, Lw.mkQ_self])
namespace Lw
open PySem PySem.Spec PyProof.Rows L2 L2.My
end Lw
namespace L2.My
open PySem PySem.Spec PyProof.Rows L2
section
variable {α β γ τ σ S L R : Type} {K : PySem.W.Frag} {E X : ZK K} {te : TE} {tw tuS : TS} {Γ : List Cn} {r : RT α} {r2 : RT β} {r3 : RT γ} {F H F' H' : Hp} {i j t : Nat} {G : S → List Cn} {GL : L → List Cn} {rr : RR R} {m : MT σ} {C : Addr}
structure NoL (F F' : Hp) : Prop where
  keep : ∀ b o, F b = some o → (∀ ws, o ≠ .lst ws) → F' b = some o
  none : ∀ b, F b = none → F' b = none
structure Fre (r : RT α) : Prop where
  go : ∀ {F F' v x}, NoL F F' → r.rel F v x → r.rel F' v x
structure FreM (m : MT σ) : Prop where
  go : ∀ {F F' H fp v x}, NoL F F' → m.rel F H fp v x → m.rel F' H fp v x
structure LstM (m : MT σ) : Prop where
  go : ∀ {F H fp v x}, m.rel F H fp v x → ∀ a ∈ fp, ∃ ws, H a = some (.lst ws)
theorem fre_int : Fre tInt := ⟨fun _ h => h⟩
theorem fre_tx : Fre tTx := ⟨fun _ h => h⟩
theorem al_fre (hr : Fre r) (n : NoL F F') : ∀ {ws : List V} {ys : List α}, Al r F ws ys → Al r F' ws ys
  | [], [], _ => trivial
  | _ :: _, _ :: _, h => ⟨hr.go n h.1, al_fre hr n h.2⟩
  | [], _ :: _, h => h.elim
  | _ :: _, [], h => h.elim
theorem freM_L (hr : Fre r) : FreM (mL r) := ⟨fun n h => by
  obtain ⟨p, ws, h1, h2, h3, h4, h5, h6⟩ := h
  exact ⟨p, ws, h1, h2, h3, n.none _ h4, al_fre hr n h5, h6⟩⟩
structure FreD {σ : Type} (d : MDs σ) : Prop where
  go : ∀ {F F' H fp fs x}, NoL F F' → d.rel F H fp fs x → d.rel F' H fp fs x
theorem freD_n : FreD mdN := ⟨fun _ h => h⟩
theorem freD_F {d : MDs σ} {n : Str} (hd : FreD d) (hr : Fre r) : FreD (mdF d n r) := ⟨fun n h => by
  obtain ⟨fs0, v, h1, h2, h3⟩ := h
  exact ⟨fs0, v, h1, hd.go n h2, hr.go n h3⟩⟩
theorem freD_M {d : MDs σ} {n : Str} {m : MT τ} (hd : FreD d) (hr : FreM m) : FreD (mdM d n m) := ⟨fun n h => by
  obtain ⟨fs0, v, fp0, fp1, h1, h2, h3, h4, h5⟩ := h
  exact ⟨fs0, v, fp0, fp1, h1, h2, h3, hd.go n h4, hr.go n h5⟩⟩
theorem freM_obj {d : MDs σ} (hd : FreD d) : FreM (mObj C d) := ⟨fun n h => by
  obtain ⟨p, dx, fs, fp0, h1, h2, h3, h4, h5, h6⟩ := h
  exact ⟨p, dx, fs, fp0, h1, h2, h3, h4, n.none _ h5, hd.go n h6⟩⟩
def mRef (u : V) : MT Unit := ⟨fun _ _ fp v _ => fp = [] ∧ v = u, fun h a ha => (by rw [h.1] at ha; cases ha), fun h _ _ => h⟩
end
end L2.My
namespace Lw
end Lw
set_option exponentiation.threshold 20000
local macro_rules | `(tactic| walk_at "wp") => `(tactic| try simp only [L2.My.Wp.ok_bind, L2.My.Wp.bind_ok, L2.My.Wp.bind_assoc, L2.My.Wp.req_bind, L2.My.Wp.bind_out, L2.My.Wp.ret_out, L2.My.Wp.raise_bind, L2.My.Wp.raise_out, L2.My.Wp.req_out, L2.My.Wp.bind_seq, L2.My.Wp.ok_seq, L2.My.Wp.ret_seq, L2.My.Wp.req_seq, L2.My.Wp.bind_up, L2.My.Wp.ret_up, L2.My.Wp.brk_up, L2.My.Wp.cnt_up, L2.My.Wp.req_up, L2.My.Wp.raise_up, L2.My.Wp.nox_ok, L2.My.Wp.nox_bind, L2.My.Wp.nox_req, L2.My.Wp.nox_get, L2.My.Wp.nox_nox, L2.My.Wp.ap, Lw.mkQ_self])
namespace Lw
open PySem PySem.Spec PyProof.Rows L2 L2.My
end Lw
namespace L2.My
open PySem PySem.Spec PyProof.Rows L2
section
variable {α β γ ι S S' L R : Type} {K : PySem.W.Frag} {E X : ZK K} {tw tuS : TS} {Γ : List Cn} {r1 : RT α} {r2 : RT β} {r3 : RT γ} {F H : Hp} {G : S → List Cn} {G' : S' → List Cn} {GL : L → List Cn} {rr : RR R}
end
end L2.My
namespace L2.My
open PySem PySem.Spec PyProof.Rows L2
def Wp.for1 {ι S L R : Type} (xs : List ι) (g : ι → Wp (Fl S S R)) (f : ι → S → Wp (Fl S S R)) : Wp (Fl S L R) := match xs with
  | [] => .stuck
  | x :: t => (g x).bind fun z => match z with
    | .nx s => Wp.for_ t s f | .cnt s => Wp.for_ t s f | .brk s => .ok (.nx s) | .ret r => .ok (.ret r)
section
variable {α β γ ι S S' L R : Type} {K : PySem.W.Frag} {E X : ZK K} {tw tuS : TS} {Γ : List Cn} {F H : Hp} {G : S → List Cn} {G' : S' → List Cn} {GL : L → List Cn} {rr : RR R}
end
end L2.My
namespace Lw
end Lw
set_option exponentiation.threshold 20000
namespace Lw
open PySem PySem.Spec PyProof.Rows L2 L2.My
def rs : Nat → (Nat → Rat) → Rat
  | 0, _ => 0
  | n + 1, f => rs n f + f n
section
variable {n m : Nat} {f g : Nat → Rat}
end
abbrev it (xs : List Rat) (i : Nat) : Rat := xs.getD i 0
def Dv (D : Nat) (q : Rat) : Prop := ∃ z : Int, q * (D : Rat) = (z : Rat)
section
variable {D E : Nat} {a b : Rat}
theorem Dv.zero : Dv D 0 := ⟨0, by simp⟩
theorem Dv.int (z : Int) : Dv D (z : Rat) := ⟨z * D, by rw [Rat.intCast_mul, Rat.intCast_natCast]⟩
theorem Dv.one : Dv D 1 := ⟨D, by rw [Rat.intCast_natCast]; grind⟩
theorem Dv.add (h : Dv D a) (h' : Dv D b) : Dv D (a + b) := by
  obtain ⟨x, hx⟩ := h
  obtain ⟨y, hy⟩ := h'
  exact ⟨x + y, by rw [Rat.intCast_add, ← hx, ← hy]; grind⟩
theorem Dv.sub (h : Dv D a) (h' : Dv D b) : Dv D (a - b) := by
  obtain ⟨x, hx⟩ := h
  obtain ⟨y, hy⟩ := h'
  exact ⟨x - y, by rw [Rat.intCast_sub, ← hx, ← hy]; grind⟩
theorem Dv.mul (h : Dv D a) (h' : Dv E b) : Dv (D * E) (a * b) := by
  obtain ⟨x, hx⟩ := h
  obtain ⟨y, hy⟩ := h'
  exact ⟨x * y, by rw [Rat.intCast_mul, ← hx, ← hy, Rat.natCast_mul]; grind⟩
theorem Dv.up (h : Dv D a) (k : Nat) : Dv (D * k) a := by
  obtain ⟨x, hx⟩ := h
  exact ⟨x * k, by rw [Rat.intCast_mul, ← hx, Rat.natCast_mul, Rat.intCast_natCast]; grind⟩
theorem Dv.rs {f : Nat → Rat} : ∀ {n : Nat}, (∀ i, i < n → Dv D (f i)) → Dv D (Lw.rs n f)
  | 0, _ => Dv.zero
  | n + 1, h => Dv.add (Dv.rs fun i hi => h i (by omega)) (h n (by omega))
theorem den_dvd (z : Int) {D : Nat} (hD : 0 < D) : (Rat.divInt z D).den ∣ D := by
  have h := q_den (n := z) (d := (D : Int)) (by omega)
  have h2 : (Int.gcd z D : Int) ∣ (D : Int) := Int.gcd_dvd_right ..
  have : ((Rat.divInt z D).den : Int) ∣ (D : Int) := by
    rw [h]
    exact ⟨Int.gcd z D, (Int.ediv_mul_cancel h2).symm⟩
  exact Int.natCast_dvd_natCast.mp this
theorem Dv.den (h : Dv D a) (hD : 0 < D) : a.den ∣ D := by
  obtain ⟨z, hz⟩ := h
  have h1 : (D : Rat) ≠ 0 := by
    have := Rat.natCast_pos.mpr hD
    grind
  have : a = Rat.divInt z D := by
    rw [Rat.divInt_eq_div]
    show a = (z : Rat) / ((D : Int) : Rat)
    rw [Rat.intCast_natCast, ← hz]
    grind
  rw [this]
  exact den_dvd z hD
end
end Lw
namespace Lw
open PySem PySem.Spec PyProof.Rows L2 L2.My
def m_l_plus (p_one : Rat) (p_other : Rat) : Wp Rat := Wp.out (
 (((((Wp.req (CMulW (p_one).num (((p_other).den : Nat) : Int)) (Wp.ok ((p_one).num * (((p_other).den : Nat) : Int))))).bind fun x1 => ((Wp.req (CMulW (p_other).num (((p_one).den : Nat) : Int)) (Wp.ok ((p_other).num * (((p_one).den : Nat) : Int))))).bind fun x2 => Wp.ok (x1 + x2)).bind fun x5 => (((Wp.req (CMulW (((p_one).den : Nat) : Int) (((p_other).den : Nat) : Int)) (Wp.ok ((((p_one).den : Nat) : Int) * (((p_other).den : Nat) : Int))))).bind fun x3 => (Wp.ok ()).bind fun x4 => Wp.ok (x3, x4)).bind fun x6 => Wp.ok (x5, x6)).bind fun x7 => lessQ x7.1 x7.2.1).bind fun x8 => Wp.ok (.ret x8))
def m_l_minus (p_one : Rat) (p_other : Rat) : Wp Rat := Wp.out (
 (((((Wp.req (CMulW (p_one).num (((p_other).den : Nat) : Int)) (Wp.ok ((p_one).num * (((p_other).den : Nat) : Int))))).bind fun x1 => ((Wp.req (CMulW (p_other).num (((p_one).den : Nat) : Int)) (Wp.ok ((p_other).num * (((p_one).den : Nat) : Int))))).bind fun x2 => Wp.ok (x1 - x2)).bind fun x5 => (((Wp.req (CMulW (((p_one).den : Nat) : Int) (((p_other).den : Nat) : Int)) (Wp.ok ((((p_one).den : Nat) : Int) * (((p_other).den : Nat) : Int))))).bind fun x3 => (Wp.ok ()).bind fun x4 => Wp.ok (x3, x4)).bind fun x6 => Wp.ok (x5, x6)).bind fun x7 => lessQ x7.1 x7.2.1).bind fun x8 => Wp.ok (.ret x8))
def m_l_times (p_one : Rat) (p_other : Rat) : Wp Rat := Wp.out (
 ((((Wp.req (CMulW (p_one).num (p_other).num) (Wp.ok ((p_one).num * (p_other).num)))).bind fun x3 => (((Wp.req (CMulW (((p_one).den : Nat) : Int) (((p_other).den : Nat) : Int)) (Wp.ok ((((p_one).den : Nat) : Int) * (((p_other).den : Nat) : Int))))).bind fun x1 => (Wp.ok ()).bind fun x2 => Wp.ok (x1, x2)).bind fun x4 => Wp.ok (x3, x4)).bind fun x5 => lessQ x5.1 x5.2.1).bind fun x6 => Wp.ok (.ret x6))
def m_l_sum (p_ratios : (List Rat)) : Wp Rat := Wp.out (
 ((Wp.ok ((((0 : Int) : Int)) : Rat))).bind fun x1 =>
 ((Wp.ok p_ratios)).bind fun x6 => Wp.seq (Wp.for_ x6 (x1) (fun x3 (z2 : Rat) =>
 ((m_l_plus z2 x3)).bind fun x4 =>
 Wp.ok (.nx (x4)))) fun z5 : Rat =>
 Wp.ok (.ret z5))
def m_l_cells (p_pool_here : Pool) (p_count : Int) (p_few : Int) : Wp ((List Rat) × Pool) := Wp.out (
 ((repW ([(0 : Int)] : (List Int)) p_count)).bind fun x1 =>
 (((((Wp.ok ((1 : Int), p_pool_here))).bind fun x7 => (Wp.ap (fun s2 : Pool => (((((Wp.ok (p_few, s2))).bind fun x4 => (Wp.ap (fun s3 : Pool => ((Wp.ok ((), s3)) : Wp (Unit × Pool))) x4.2).bind fun x5 => Wp.ok ((x4.1, x5.1), x5.2)).bind fun x6 => drawW x6.2 x6.1.1) : Wp (Int × Pool))) x7.2).bind fun x8 => ((Wp.ok (x7.1 + x8.1))).bind fun x9 => Wp.ok (x9, x8.2)).bind fun x11 => (Wp.ap (fun s10 : Pool => ((Wp.ok ((), s10)) : Wp (Unit × Pool))) x11.2).bind fun x12 => Wp.ok ((x11.1, x12.1), x12.2)).bind fun x13 => Wp.req (x13.1.1 ≤ 16777215 ∧ -(2 ^ 62) ≤ x13.1.1) (Wp.ok (rngI 0 (x13.1.1).toNat, x13.2))).bind fun x40 => Wp.seq (Wp.for_ x40.1 ((fun s15 => ((x1), (s15))) x40.2) (fun x16 (z14 : (List Int) × Pool) =>
 ((((Wp.ok (p_count, z14.2))).bind fun x18 => (Wp.ap (fun s17 : Pool => ((Wp.ok ((), s17)) : Wp (Unit × Pool))) x18.2).bind fun x19 => Wp.ok ((x18.1, x19.1), x19.2)).bind fun x20 => drawW x20.2 x20.1.1).bind fun x21 =>
 (((((Wp.get (atI z14.1 x21.1))).bind fun x22 => ((Wp.ok (1 : Int))).bind fun x23 => Wp.ok (x22 + x23)).bind fun y24 => Wp.ok (y24, x21.2)).bind fun x30 => (Wp.ap (fun s25 : Pool => (((((Wp.ok ((2 : Int), s25))).bind fun x27 => (Wp.ap (fun s26 : Pool => ((Wp.ok ((), s26)) : Wp (Unit × Pool))) x27.2).bind fun x28 => Wp.ok ((x27.1, x28.1), x28.2)).bind fun x29 => drawW x29.2 x29.1.1) : Wp (Int × Pool))) x30.2).bind fun x31 => ((Wp.ok (x30.1 + x31.1))).bind fun x32 => Wp.ok (x32, x31.2)).bind fun x33 => ((Wp.ok x21.1)).bind fun x34 => Wp.req ((ixN (z14.1).length x34).isSome = true) (
 Wp.ok (.nx (((setL z14.1 x34 x33.1)), (x33.2)))))) fun z35 : (List Int) × Pool =>
 ((((Wp.ok z35.1)).bind fun x37 => Wp.map (fun x36 => ((lessQ x36 (z35.1).sum)).nox) x37).bind fun y38 => Wp.ok (y38, z35.2)).bind fun x39 => Wp.ok (.ret x39))
def m_l_machine (p_pool_here : Pool) (p_states : Int) (p_buttons : Int) (p_answers : Int) : Wp (((List Rat) × (List (List (List (List Rat))))) × Pool) := Wp.out (
 ((((Wp.ok (p_states, p_pool_here))).bind fun x5 => (Wp.ap (fun s1 : Pool => ((((Wp.ok ((2 : Int), s1))).bind fun x3 => (Wp.ap (fun s2 : Pool => ((Wp.ok ((), s2)) : Wp (Unit × Pool))) x3.2).bind fun x4 => Wp.ok ((x3.1, x4.1), x4.2)) : Wp ((Int × Unit) × Pool))) x5.2).bind fun x6 => Wp.ok ((x5.1, x6.1), x6.2)).bind fun x7 => m_l_cells x7.2 x7.1.1 x7.1.2.1).bind fun x8 =>
 ((Wp.ok ([] : (List (List (List (List Rat))))))).bind fun x9 =>
 ((Wp.req (p_buttons ≤ 16777215 ∧ -(2 ^ 62) ≤ p_buttons) (Wp.ok (rngI 0 (p_buttons).toNat)))).bind fun x39 => Wp.seq (Wp.for_ x39 ((x9), (x8.2)) (fun x11 (z10 : (List (List (List (List Rat)))) × Pool) =>
 ((((Wp.req (p_states ≤ 16777215 ∧ -(2 ^ 62) ≤ p_states) (Wp.ok (rngI 0 (p_states).toNat)))).bind fun x12 => Wp.ok (x12, z10.2)).bind fun x23 => Wp.mapS (fun x14 s13 => (((((Wp.req (CMulW p_answers p_states) (Wp.ok (p_answers * p_states)))).bind fun y15 => Wp.ok (y15, s13)).bind fun x20 => (Wp.ap (fun s16 : Pool => ((((Wp.ok ((3 : Int), s16))).bind fun x18 => (Wp.ap (fun s17 : Pool => ((Wp.ok ((), s17)) : Wp (Unit × Pool))) x18.2).bind fun x19 => Wp.ok ((x18.1, x19.1), x19.2)) : Wp ((Int × Unit) × Pool))) x20.2).bind fun x21 => Wp.ok ((x20.1, x21.1), x21.2)).bind fun x22 => m_l_cells x22.2 x22.1.1 x22.1.2.1).nox) x23.1 x23.2).bind fun x24 =>
 (((Wp.req (p_answers ≤ 16777215 ∧ -(2 ^ 62) ≤ p_answers) (Wp.ok (rngI 0 (p_answers).toNat)))).bind fun x35 => Wp.map (fun x25 => (((Wp.ok x24.1)).bind fun x34 => Wp.map (fun x26 => (((Wp.ok x26)).bind fun x31 => (((Wp.req (CMulW x25 p_states) (Wp.ok (x25 * p_states)))).bind fun x27 => Wp.ok (some x27)).bind fun x32 => ((((Wp.req (CMulW x25 p_states) (Wp.ok (x25 * p_states)))).bind fun x28 => ((Wp.ok p_states)).bind fun x29 => Wp.ok (x28 + x29)).bind fun x30 => Wp.ok (some x30)).bind fun x33 => Wp.ok (cutL x31 x32 x33)).nox) x34).nox) x35).bind fun x36 => Wp.req ((z10.1).length < 16777215) (
 Wp.ok (.nx ((z10.1 ++ [x36]), (x24.2)))))) fun z37 : (List (List (List (List Rat)))) × Pool =>
 ((Wp.ok ((x8.1, z37.1), z37.2))).bind fun x38 => Wp.ok (.ret x38))
def m_l_made (p_machine_here : ((List Rat) × (List (List (List (List Rat)))))) : Wp Mac := Wp.out (
 ((Wp.ok p_machine_here)).bind fun x1 =>
 (((Wp.ok (x1).2)).bind fun x9 => Wp.map (fun x2 => (((Wp.ok x2)).bind fun x8 => Wp.map (fun x3 => (((Wp.ok x3)).bind fun x7 => Wp.map (fun x4 => (((Wp.ok x4)).bind fun x6 => Wp.map (fun x5 => ((ratW (x5).num (((x5).den : Nat) : Int))).nox) x6).nox) x7).nox) x8).nox) x9).bind fun x10 =>
 (((((Wp.ok (x1).1)).bind fun x12 => Wp.map (fun x11 => ((ratW (x11).num (((x11).den : Nat) : Int))).nox) x12).bind fun x15 => (((Wp.ok x10)).bind fun x13 => (Wp.ok ()).bind fun x14 => Wp.ok (x13, x14)).bind fun x16 => Wp.ok (x15, x16)).bind fun x17 => macW x17.1 x17.2.1).bind fun x18 => Wp.ok (.ret x18))
def m_fit (p_one : Mac) (p_other : Mac) : Wp Bool := Wp.out (
 ((((mButtons p_one)).bind fun x3 => ((mButtons p_other)).bind fun x4 => Wp.ok (decide (x3 = x4))).bind fun x5 => if x5 = true then ((mAnswers p_one)).bind fun x1 => ((mAnswers p_other)).bind fun x2 => Wp.ok (decide (x1 = x2)) else Wp.ok false).bind fun x6 => Wp.ok (.ret x6))
def m_led (p_weights : (List Rat)) (p_rows : (List (List Rat))) : Wp (List Rat) := Wp.out (
 ((repW ([((((0 : Int) : Int)) : Rat)] : (List Rat)) (((p_weights).length : Nat) : Int))).bind fun x1 =>
 ((Wp.ok ((p_weights).zip p_rows))).bind fun x11 => Wp.seq (Wp.for_ x11 (x1) (fun x3 (z2 : (List Rat)) =>
 Wp.seq (if (decide (((x3).1).num ≠ 0)) = true then (((Wp.ok ((z2).zip (x3).2))).bind fun x8 => Wp.map (fun x5 => ((if (decide (((x5).2).num ≠ 0)) = true then ((Wp.ok (x5).1)).bind fun x6 => ((opQ (· * ·) (x3).1 (x5).2)).bind fun x7 => (opQ (· + ·) x6 x7) else (Wp.ok (x5).1))).nox) x8).bind fun x9 =>
 Wp.ok (.nx (x9)) else
 Wp.ok (.nx (z2))) fun z4 : (List Rat) =>
 Wp.ok (.nx (z4)))) fun z10 : (List Rat) =>
 Wp.ok (.ret z10))
def m_chance (p_machine : Mac) (p_way : (List (Int × Int))) : Wp Rat := Wp.out (
 ((Wp.ok (p_machine).start)).bind fun x1 =>
 ((Wp.ok p_way)).bind fun x14 => Wp.seq (Wp.for_ x14 (x1) (fun x3 (z2 : (List Rat)) =>
 ((((Wp.ok z2)).bind fun x8 => ((((Wp.get (atI (p_machine).moves (x3).1))).bind fun x4 => ((Wp.ok (x3).2)).bind fun x5 => (Wp.get (atI x4 x5))).bind fun x6 => (Wp.ok ()).bind fun x7 => Wp.ok (x6, x7)).bind fun x9 => Wp.ok (x8, x9)).bind fun x10 => m_led x10.1 x10.2.1).bind fun x11 =>
 Wp.ok (.nx (x11)))) fun z12 : (List Rat) =>
 ((totW z12)).bind fun x13 => Wp.ok (.ret x13))

end Lw
set_option exponentiation.threshold 20000
local macro_rules | `(tactic| walk_at "wp") => `(tactic| try simp only [L2.My.Wp.ok_bind, L2.My.Wp.bind_ok, L2.My.Wp.bind_assoc, L2.My.Wp.req_bind, L2.My.Wp.bind_out, L2.My.Wp.ret_out, L2.My.Wp.raise_bind, L2.My.Wp.raise_out, L2.My.Wp.req_out, L2.My.Wp.bind_seq, L2.My.Wp.ok_seq, L2.My.Wp.ret_seq, L2.My.Wp.req_seq, L2.My.Wp.bind_up, L2.My.Wp.ret_up, L2.My.Wp.brk_up, L2.My.Wp.cnt_up, L2.My.Wp.req_up, L2.My.Wp.raise_up, L2.My.Wp.nox_ok, L2.My.Wp.nox_bind, L2.My.Wp.nox_req, L2.My.Wp.nox_get, L2.My.Wp.nox_nox, L2.My.Wp.ap, Lw.mkQ_self])
namespace Lw
open PySem PySem.Spec PyProof.Rows L2 L2.My
end Lw
namespace L2.My
open PySem PySem.Spec PyProof.Rows L2
def TxOk (x : Str) : Prop := PyData.strOk x = true ∧ x.length ≤ 1000000
theorem strOk_iff {x : Str} : PyData.strOk x = true ↔ ∀ c ∈ x.cps.toList, c < 0x110000 := by
  unfold PyData.strOk
  rw [Array.all_eq_true_iff_forall_mem]
  simp
theorem txok_sub {x y : Str} (h : TxOk x) (hs : ∀ c ∈ y.cps.toList, c ∈ x.cps.toList) (hl : y.length ≤ x.length) : TxOk y := ⟨strOk_iff.mpr fun c hc => strOk_iff.mp h.1 c (hs c hc), Nat.le_trans hl h.2⟩
theorem sLine : sizeLine = 16777216 := sizeLine_eq
theorem txok_str {s : String} (h : (Str.ofString s).length ≤ 1000000) : TxOk (Str.ofString s) := ⟨strOk_iff.mpr fun c hc => by
  rw [Str.ofString_eq_toList] at hc
  have hc : c ∈ (s.toList.map Char.toNat) := by simpa using hc
  obtain ⟨ch, _, rfl⟩ := List.mem_map.mp hc
  have := ch.valid
  rcases this with q | q
  · exact Nat.lt_trans q (by decide)
  · exact q.2, h⟩
theorem txok_one {x : Str} {c : Nat} (h : TxOk x) (hc : c ∈ x.cps.toList) : TxOk ⟨#[c]⟩ := ⟨strOk_iff.mpr fun d hd => by
  have hd : d = c := by simpa using hd
  rw [hd]
  exact strOk_iff.mp h.1 c hc, by show 1 ≤ 1000000; decide⟩
section
variable {α β γ ι : Type} {K : PySem.W.Frag} {E : ZK K} {Γ : List Cn} {F H : Hp} {te ta tb : TE} {tr : TA} {tl th : TO}
theorem opv_leS : OpV K E (fun x y H Q => ∃ i j, x = .str i ∧ y = .str j ∧ Q (.bl (!decide (j.cps.toList < i.cps.toList))) H) tTx tTx tBool fun a b => .ok (!decide (b.cps.toList < a.cps.toList)) := by
  rintro F H v w a b Q σ e ⟨rfl, ha⟩ ⟨rfl, hb⟩ hm
  exact ⟨a, b, rfl, rfl, hm _ F H (Nx.refl e) rfl⟩
def inS (i j : Str) : Bool := !(Builtin.Str.occurrences j i 0 j.length 1).isEmpty
theorem opv_inS : OpV K E (fun x y H Q => ∃ i j, x = .str i ∧ y = .str j ∧ Q (.bl (!(Builtin.Str.occurrences j i 0 j.length 1).isEmpty)) H) tTx tTx tBool fun a b => .ok (inS a b) := by
  rintro F H v w a b Q σ e ⟨rfl, ha⟩ ⟨rfl, hb⟩ hm
  exact ⟨a, b, rfl, rfl, hm _ F H (Nx.refl e) rfl⟩
def chAt (z : Str) (i : Int) : Option Str := (atI z.cps.toList i).map fun c => ⟨#[c]⟩
theorem atI_mem {α : Type} {xs : List α} {i : Int} {x : α} (h : atI xs i = some x) : x ∈ xs := by
  unfold atI at h
  cases q : ixN xs.length i with
  | none => rw [q] at h; cases h
  | some k => rw [q] at h; exact List.mem_of_getElem? h
theorem opv_ixTx : OpV K E rIxS tTx tInt tTx fun z i => Wp.get (chAt z i) := by
  rintro F H v w a b Q σ e ⟨rfl, ha⟩ hb hm
  rw [show w = _ from hb]
  obtain ⟨x, hx, hm⟩ := wpget hm
  unfold chAt at hx
  cases q : atI a.cps.toList b with
  | none => rw [q] at hx; cases hx
  | some c =>
    rw [q] at hx; cases hx
    exact ⟨a, b, c, rfl, rfl, by rw [sLine]; have := ha.2; omega, q, hm _ F H (Nx.refl e) ⟨rfl, txok_one ha (atI_mem q)⟩⟩
theorem cb_lenS : CalV K E (fun xs _ H Q => ∃ z, xs = [.str z] ∧ z.length ≤ sizeLine ∧ Q (.int z.length) H) (raC tTx raN) tInt fun x => .ok (x.1.length : Nat) := by
  rintro F H vs a Q σ e ⟨v, ws, rfl, ⟨rfl, ha⟩, h2⟩ hm
  rw [show ws = [] from h2]
  exact ⟨_, rfl, by rw [sLine]; have := ha.2; omega, hm _ F H (Nx.refl e) rfl⟩
theorem cb_strI : CalV K E (fun xs _ H Q => ∃ i, xs = [.int i] ∧ i.natAbs.log2 < 1920 ∧ Q (.str (toString i)) H) (raC tInt raN) tTx fun x => .req (x.1.natAbs.log2 < 1920) (.ok (Str.ofString (toString x.1))) := by
  rintro F H vs a Q σ e ⟨v, ws, rfl, h1, h2⟩ hm
  rw [show ws = [] from h2, show v = _ from h1]
  exact ⟨_, rfl, hm.1, hm.2 _ F H (Nx.refl e) ⟨rfl, txok_str (by have := Lw.txt_len hm.1; omega)⟩⟩
theorem cb_intS : CalV K E (fun xs _ H Q => ∃ a n, xs = [.str a] ∧ PySem.intText? a = some n ∧ a.length ≤ 640 ∧ Q (.int n) H) (raC tTx raN) tInt fun x => .req (x.1.length ≤ 640) (Wp.get (PySem.intText? x.1)) := by
  rintro F H vs a Q σ e ⟨v, ws, rfl, ⟨rfl, ha⟩, h2⟩ hm
  rw [show ws = [] from h2]
  obtain ⟨n, hn, hm2⟩ := wpget hm.2
  exact ⟨_, n, rfl, hn, hm.1, hm2 _ F H (Nx.refl e) rfl⟩
def chs (x : Str) : List Str := x.cps.toList.map fun c => ⟨#[c]⟩
theorem evi_str {m : Wp Str} (h : EvP K E te Γ tTx m) : evI K E (iStr te) Γ tTx (m.bind fun x => .ok (chs x)) := by
  intro F H σ fps R e hol hm
  refine h F H σ fps _ e hol (m.mono (fun x hm => ?_) (fun _ z => z) hm)
  rintro v F' H' n ⟨rfl, hx⟩
  have hl : (chs x).length = x.cps.size := by unfold chs; simp
  refine ⟨x, rfl, hm _ F' H' n ⟨fun i F1 H1 hi _ _ => ?_, fun F1 H1 _ _ => ?_, fun i F1 H1 v H2 hi e1 e2 hy => ?_⟩ ?_⟩
  · show i < x.cps.size; omega
  · show x.cps.size ≤ _; omega
  · obtain ⟨rfl, c, hc, rfl⟩ := hy
    refine ⟨F1, ⟨#[c]⟩, Nx.refl e2, ?_, rfl, txok_one hx ?_⟩
    · unfold chs
      rw [List.getElem?_map, Array.getElem?_toList, hc]; rfl
    · rw [Array.mem_toList_iff]
      exact Array.mem_of_getElem? hc
  · have := hx.2
    show (chs x).length ≤ _
    rw [hl]
    have : x.cps.size ≤ 1000000 := hx.2
    omega
theorem evi_strP {x : Str} {m : Wp (List Str)} (h : EvP K E te Γ tTx (.ok x)) (e : Wp.ok (chs x) = m := by rfl) : evI K E (iStr te) Γ tTx m := e ▸ evi_str h
theorem cutS_mem {z : Str} {lo hi : Option Int} : ∀ c ∈ (cutS z lo hi).cps.toList, c ∈ z.cps.toList := fun c hc => by
  unfold cutS at hc
  have hc : c ∈ ((z.cps.toList.drop (HT.sIx z.length 0 lo)).take (HT.sIx z.length z.length hi - HT.sIx z.length 0 lo)) := by simpa using hc
  exact List.mem_of_mem_drop (List.mem_of_mem_take hc)
theorem cutS_le {z : Str} {lo hi : Option Int} : (cutS z lo hi).length ≤ z.length := by
  unfold cutS
  show Array.size _ ≤ z.cps.size
  rw [List.size_toArray, List.length_take, List.length_drop, Array.length_toList]
  omega
theorem strSub_ok {x : Str} {i j : Nat} (h : TxOk x) : TxOk (Builtin.Str.strSub x i j) := by
  have e := PySem.StrLaws.strSub_toList x i j
  refine txok_sub h (fun c hc => ?_) ?_
  · rw [e] at hc
    exact List.mem_of_mem_drop (List.mem_of_mem_take hc)
  · show Array.size _ ≤ Array.size _
    rw [← Array.length_toList, e, ← Array.length_toList, List.length_take, List.length_drop]
    omega
theorem split_ok {x y : Str} (h : TxOk x) : ∀ p ∈ Txt.split x y, TxOk p := fun p hp => by
  unfold Txt.split at hp
  split at hp
  · rw [List.mem_singleton.mp hp]; exact h
  · split at hp
    · rw [List.mem_singleton.mp hp]; exact h
    · unfold Builtin.Str.partsBetween at hp
      obtain ⟨q, _, rfl⟩ := List.mem_map.mp hp
      exact strSub_ok h
theorem al_txs {F : Hp} : ∀ {ys : List Str}, (∀ y ∈ ys, TxOk y) → Al tTx F (ys.map V.str) ys
  | [], _ => trivial
  | y :: t, h => ⟨⟨rfl, h y (by simp)⟩, al_txs fun z hz => h z (by simp [hz])⟩
theorem al_txs' {F : Hp} : ∀ {ws : List V} {ys : List Str}, Al tTx F ws ys → ws = ys.map V.str ∧ ∀ y ∈ ys, TxOk y
  | [], [], _ => ⟨rfl, fun _ h => by cases h⟩
  | _ :: _, y :: t, h => by
    obtain ⟨h1, h2⟩ := al_txs' h.2
    exact ⟨by rw [h.1.1, h1]; rfl, fun z hz => by
      rcases List.mem_cons.mp hz with rfl | hz
      · exact h.1.2
      · exact h2 z hz⟩
  | [], _ :: _, h => h.elim
  | _ :: _, [], h => h.elim
theorem evn_split {ma mb : Wp Str} (ha : EvP K E ta Γ tTx ma) (hb : EvP K E tb Γ tTx mb) : EvN K E (tM1 (fun x xs H Q => ∃ a b, x = .str a ∧ xs = [.str b] ∧ (b.length == 0) = false ∧ a.length + 2 ≤ sizeLine ∧ rNewStrs (Txt.split a b) H Q) ta tb) Γ (mL tTx)
    (ma.bind fun a => mb.bind fun b => .req (0 < b.length) (.ok (Txt.split a b))) := by
  intro F H σ fps Q e hol hm
  refine ha F H σ fps _ e hol (ma.mono (fun a hm => ?_) (fun _ z => z) hm)
  rintro v F1 H1 n1 ⟨rfl, hx⟩
  refine ⟨⟨a, rfl⟩, hb F1 H1 σ fps _ n1.fh (hol.nx n1) (mb.mono (fun b hm => ?_) (fun _ => E.st n1) hm)⟩
  rintro w F2 H2 n2 ⟨rfl, hy⟩
  have hp := hm.1
  refine ⟨a, b, rfl, rfl, by simp; omega, by rw [sLine]; have := hx.2; omega, fun p hpn => ?_⟩
  have n12 := n1.trans n2
  have hlen : (Txt.split a b).length ≤ 16777215 := by
    have := PyProof.Rows.split_le a b
    have := hx.2
    omega
  exact hm.2 _ F2 _ [p] (n12.trans (Nx.open_ n2.fh hpn)) (fun q hq => by rw [List.mem_singleton.mp hq]; exact n12.free hpn) ⟨p, _, rfl, rfl, upd_same, ext_none n2.fh hpn, al_txs (split_ok hx), hlen⟩
theorem join_mem (sep : Str) : ∀ (ts : List Str), ∀ c ∈ (Str.join sep ts).cps.toList, c ∈ sep.cps.toList ∨ ∃ t ∈ ts, c ∈ t.cps.toList
  | [], c, hc => by cases hc
  | [x], c, hc => .inr ⟨x, by simp, hc⟩
  | x :: y :: r, c, hc => by
    have hc : c ∈ ((x.cps ++ sep.cps) ++ (Str.join sep (y :: r)).cps).toList := hc
    rw [Array.toList_append, Array.toList_append] at hc
    rcases List.mem_append.mp hc with q | q
    · rcases List.mem_append.mp q with q | q
      · exact .inr ⟨x, by simp, q⟩
      · exact .inl q
    · rcases join_mem sep (y :: r) c q with q | ⟨t, ht, q⟩
      · exact .inl q
      · exact .inr ⟨t, List.mem_cons_of_mem _ ht, q⟩
theorem evp_join {ma : Wp Str} {mb : Wp (List Str)} (ha : EvP K E ta Γ tTx ma) (hb : EvP K E tb Γ (lS tTx) mb) : EvP K E (tM1 (fun x xs H Q => ∃ a p, ∃ ys : List Str, x = .str a ∧ xs = [.ref p] ∧ (SqL K H p (ys.map V.str) ∨ SqT K H p (ys.map V.str)) ∧
      (ys.map (·.length)).sum + ys.length * a.length ≤ 16777216 ∧ Q (.str (Txt.join a ys)) H) ta tb) Γ tTx
    (ma.bind fun a => mb.bind fun ys => .req ((ys.map (·.length)).sum + ys.length * a.length ≤ 1000000) (.ok (Str.join a ys))) := by
  intro F H σ fps Q e hol hm
  refine ha F H σ fps _ e hol (ma.mono (fun a hm => ?_) (fun _ z => z) hm)
  rintro v F1 H1 n1 ⟨rfl, hx⟩
  refine ⟨⟨a, rfl⟩, hb F1 H1 σ fps _ n1.fh (hol.nx n1) (mb.mono (fun ys hm => ?_) (fun _ => E.st n1) hm)⟩
  rintro w F2 H2 n2 ⟨⟨p, ws, rfl, h2, al⟩, hl⟩
  obtain ⟨rfl, hok⟩ := al_txs' al
  have e1 : Txt.join a ys = Str.join a ys := PySem.StrLaws.glued_eq_join a ys
  have hlen : (Str.join a ys).length ≤ 1000000 := Nat.le_trans (PySem.StrLaws.join_length_le a ys) hm.1
  refine ⟨a, p, ys, rfl, rfl, h2.imp (fun z => SqL.of (n2.fh _ _ z)) (fun z => SqT.of (n2.fh _ _ z)), by have := hm.1; omega, ?_⟩
  rw [e1]
  refine hm.2 _ F2 H2 (n1.trans n2) ⟨rfl, strOk_iff.mpr fun c hc => ?_, hlen⟩
  rcases join_mem a ys c hc with q | ⟨t, ht, q⟩
  · exact strOk_iff.mp hx.1 c q
  · exact strOk_iff.mp (hok t ht).1 c q
def EvJ (K : PySem.W.Frag) (E : ZK K) (ts : List TE) (Γ : List Cn) (m : Wp (List Str)) : Prop :=
  ∀ F H σ fps (acc : Str) (Q : Str → Hp → Prop), Ext F H → Hol Γ F H fps σ → PyData.strOk acc = true → acc.length + ts.length * 1000000 ≤ 16000000 → m.run (fun ys => ∀ F' H', Nx [] F H F' H' → PyData.strOk (ys.foldl (· ++ ·) acc) = true → Q (ys.foldl (· ++ ·) acc) H') (E.B [] F H) → tJs ts acc σ H Q
def allSome {α : Type} : List (Option α) → Option (List α)
  | [] => some []
  | none :: _ => none
  | some x :: t => (allSome t).map (x :: ·)
end
end L2.My
namespace Lw
end Lw
set_option exponentiation.threshold 20000
local macro_rules | `(tactic| walk_at "wp") => `(tactic| try simp only [L2.My.Wp.ok_bind, L2.My.Wp.bind_ok, L2.My.Wp.bind_assoc, L2.My.Wp.req_bind, L2.My.Wp.bind_out, L2.My.Wp.ret_out, L2.My.Wp.raise_bind, L2.My.Wp.raise_out, L2.My.Wp.req_out, L2.My.Wp.bind_seq, L2.My.Wp.ok_seq, L2.My.Wp.ret_seq, L2.My.Wp.req_seq, L2.My.Wp.bind_up, L2.My.Wp.ret_up, L2.My.Wp.brk_up, L2.My.Wp.cnt_up, L2.My.Wp.req_up, L2.My.Wp.raise_up, L2.My.Wp.nox_ok, L2.My.Wp.nox_bind, L2.My.Wp.nox_req, L2.My.Wp.nox_get, L2.My.Wp.nox_nox, L2.My.Wp.ap, Lw.mkQ_self])
namespace Lw
open PySem PySem.Spec PyProof.Rows L2 L2.My
end Lw
namespace GQ
open PySem PySem.SeqAt
open AutoSeq1 (wpAny_loadPart')
open MeetsSeq MeetsSeq2 MeetsSeq3 SeqRoads2
section
variable {prog : Program} {w : World} {A : Around} {R : Result → Shared → Prop}
def ListN (prog : Program) (w : World) (A : Around) (E : Value → Shared → Prop) (l : Addr) (x : Value) (N : Nat) (f : Nat → Bool) (I : Nat → Shared → Prop) : Prop :=
  ∀ i s, I i s → ∃ (items : Array Value) (n : Nat), s.heap.get? l = some { cls := .type "list", data := .seq items n } ∧ items.size = N ∧
    ∀ (h1 : i < items.size), wpAny (model prog w) A.in1 (eqBool items[i] x) (fun r s' => r = f i ∧ I (i + 1) s') E s
end
end GQ
namespace L2.My
open PySem PySem.Spec PyProof.Rows L2
section
variable {X : Cx} {CX : CXT} {n f C k : Nat} {fd : FuncData} {ps : List Str} {sp : Sp} {E : XK}
def DNon (C : Addr) : Eqb := fun x y H b => y = .non ∧ ((x = .non ∧ b = true) ∨ ∃ a dx fs, x = .ref a ∧ H a = some (.ins C dx fs) ∧ b = false)
def spEqN (C : Addr) (K : PySem.W.Frag) : Sp := fun vs H Q _ => ∃ a dx fs, vs = [.ref a, .non] ∧ H a = some (.ins C dx fs) ∧ ∀ H', Ext H H' → Q (.bl false) H'
def NonI (C : Addr) (H : Hp) (z : V) : Prop := z = .non ∨ ∃ a dx fs, z = .ref a ∧ H a = some (.ins C dx fs)
theorem NonI.d {C : Addr} {H : Hp} {z : V} (h : NonI C H z) : DNon C z .non H (isNon z) := by
  rcases h with rfl | ⟨a, dx, fs, rfl, ha⟩
  · exact ⟨rfl, .inl ⟨rfl, rfl⟩⟩
  · exact ⟨rfl, .inr ⟨a, dx, fs, rfl, ha, rfl⟩⟩
theorem NonI.ext {C : Addr} {H H' : Hp} {z : V} (e : Ext H H') (h : NonI C H z) : NonI C H' z := by
  rcases h with rfl | ⟨a, dx, fs, rfl, ha⟩
  · exact .inl rfl
  · exact .inr ⟨a, dx, fs, rfl, e _ _ ha⟩
def rNoneInO (C : Addr) (neg : Bool) : R2 := fun x y H Q => ∃ p xs, x = .non ∧ y = .ref p ∧ H p = some (.lst xs) ∧ (∀ z ∈ xs, NonI C H z) ∧ ∀ H', Ext H H' → Q (.bl (neg ^^ xs.any isNon)) H'
end
end L2.My
namespace Lw
end Lw
set_option exponentiation.threshold 20000
local macro_rules | `(tactic| walk_at "wp") => `(tactic| try simp only [L2.My.Wp.ok_bind, L2.My.Wp.bind_ok, L2.My.Wp.bind_assoc, L2.My.Wp.req_bind, L2.My.Wp.bind_out, L2.My.Wp.ret_out, L2.My.Wp.raise_bind, L2.My.Wp.raise_out, L2.My.Wp.req_out, L2.My.Wp.bind_seq, L2.My.Wp.ok_seq, L2.My.Wp.ret_seq, L2.My.Wp.req_seq, L2.My.Wp.bind_up, L2.My.Wp.ret_up, L2.My.Wp.brk_up, L2.My.Wp.cnt_up, L2.My.Wp.req_up, L2.My.Wp.raise_up, L2.My.Wp.nox_ok, L2.My.Wp.nox_bind, L2.My.Wp.nox_req, L2.My.Wp.nox_get, L2.My.Wp.nox_nox, L2.My.Wp.ap, Lw.mkQ_self])
namespace Lw
open PySem PySem.Spec PyProof.Rows L2 L2.My
end Lw
namespace L2.My
open PySem PySem.Spec PyProof.Rows L2
namespace Wp
def fmapS {ι β S : Type} (f : ι → S → Wp (Option β × S)) : List ι → S → Wp (List β × S)
  | [], s => ok ([], s)
  | x :: t, s => (f x s).bind fun y => (fmapS f t y.2).bind fun ys => ok (y.1.toList ++ ys.1, ys.2)
end Wp
section
variable {α β γ ι σt : Type} {K : PySem.W.Frag} {E : ZK K} {Γ : List Cn} {F H : Hp} {te ta tb : TE} {tt : TT} {tr : TA} {i : Nat} {mt : MT σt}
def repS (i : Str) (n : Int) : Str := ⟨(List.replicate n.toNat i.cps).foldl (· ++ ·) #[]⟩
def rRepS : R2 := fun x y H Q => ∃ i n, x = .str i ∧ y = .int n ∧ 2 ≤ n ∧ n ≤ 1000 ∧ 1 ≤ i.length ∧ i.length ≤ 1000 ∧ Q (.str (repS i n)) H
end
section
variable {X : Cx}
end
end L2.My
namespace Lw
end Lw
set_option exponentiation.threshold 20000
local macro_rules | `(tactic| walk_at "wp") => `(tactic| try simp only [L2.My.Wp.ok_bind, L2.My.Wp.bind_ok, L2.My.Wp.bind_assoc, L2.My.Wp.req_bind, L2.My.Wp.bind_out, L2.My.Wp.ret_out, L2.My.Wp.raise_bind, L2.My.Wp.raise_out, L2.My.Wp.req_out, L2.My.Wp.bind_seq, L2.My.Wp.ok_seq, L2.My.Wp.ret_seq, L2.My.Wp.req_seq, L2.My.Wp.bind_up, L2.My.Wp.ret_up, L2.My.Wp.brk_up, L2.My.Wp.cnt_up, L2.My.Wp.req_up, L2.My.Wp.raise_up, L2.My.Wp.nox_ok, L2.My.Wp.nox_bind, L2.My.Wp.nox_req, L2.My.Wp.nox_get, L2.My.Wp.nox_nox, L2.My.Wp.ap, Lw.mkQ_self])
namespace Lw
open PySem PySem.Spec PyProof.Rows L2 L2.My
end Lw
namespace L2.My
open PySem PySem.Spec PyProof.Rows L2
section
variable {α β γ ι σt : Type} {K : PySem.W.Frag} {E : ZK K} {Γ : List Cn} {F H : Hp} {te ta tb : TE} {tt : TT} {tr : TA}
instance : DatE (tOpt Lw.tQ) := ⟨fun a b => by
  cases a with
  | none =>
    cases b with
    | none => rfl
    | some y => rfl
  | some x =>
    cases b with
    | none => rfl
    | some y =>
      refine (DatE.same (r := Lw.tQ) x y).trans ?_
      by_cases c : x = y
      · subst c; simp
      · rw [decide_eq_false c, decide_eq_false fun z => c (Option.some.inj z)]⟩
def inD {α : Type} [DecidableEq α] (x : α) (xs : List α) : Bool := decide (x ∈ xs)
theorem opv_addA : OpV K E rAdd tInt tInt tInt fun a b => .ok (a + b) := by
  rintro F H v w a b Q σ e rfl rfl hm
  exact ⟨a, b, rfl, rfl, hm _ F H (Nx.refl e) rfl⟩
def maxI (xs : List Int) : Int := xs.foldl max (xs.headD 0)
def DOr (D D' : Eqb) : Eqb := fun x y H b => D x y H b ∨ D' x y H b
end
section
variable {X : Cx} {n k : Nat}
end
end L2.My
namespace Lw
end Lw
set_option exponentiation.threshold 20000
local macro_rules | `(tactic| walk_at "wp") => `(tactic| try simp only [L2.My.Wp.ok_bind, L2.My.Wp.bind_ok, L2.My.Wp.bind_assoc, L2.My.Wp.req_bind, L2.My.Wp.bind_out, L2.My.Wp.ret_out, L2.My.Wp.raise_bind, L2.My.Wp.raise_out, L2.My.Wp.req_out, L2.My.Wp.bind_seq, L2.My.Wp.ok_seq, L2.My.Wp.ret_seq, L2.My.Wp.req_seq, L2.My.Wp.bind_up, L2.My.Wp.ret_up, L2.My.Wp.brk_up, L2.My.Wp.cnt_up, L2.My.Wp.req_up, L2.My.Wp.raise_up, L2.My.Wp.nox_ok, L2.My.Wp.nox_bind, L2.My.Wp.nox_req, L2.My.Wp.nox_get, L2.My.Wp.nox_nox, L2.My.Wp.ap, Lw.mkQ_self])
namespace Lw
open PySem PySem.Spec PyProof.Rows L2 L2.My
end Lw
namespace L2.My
open PySem PySem.Spec PyProof.Rows PyProof.V L2 PySem.W
section
variable {prog : Program} {w : World} {A : Around} {E : Value → Shared → Prop} {s : Shared}
end
def rSortR {α : Type} (r : RT α) [Dat r] (K : PySem.W.Frag) : List V → Hp → VK → Prop := fun vs H Q => ∃ a xs F bs, vs = [.ref a] ∧ (SqL K H a xs ∨ SqT K H a xs) ∧ Ext F H ∧ Al r F xs bs ∧ AllAlike (bs.map (Dat.enc r)) ∧ Sortable (bs.map (Dat.enc r)) ∧ Dat.n r ≤ 60 ∧
  ∀ ys p, Al r F ys (bs.mergeSort (dataLe false (Dat.enc r))) → H p = none → Q (.ref p) (upd H p (.lst ys))
section
variable {α β γ σt : Type} {K : PySem.W.Frag} {E : ZK K} {te : TE} {tr : TA} {Γ : List Cn} {r : RT α} [Dat r]
end
def sortI (xs : List Int) : List Int := xs.mergeSort fun a b => decide (a ≤ b)
def sortT (xs : List (List Int)) : List (List Int) := xs.mergeSort fun a b => decide (a ≤ b)
section
variable {K : PySem.W.Frag} {E : ZK K} {tr : TA} {Γ : List Cn}
end
end L2.My
namespace Lw
end Lw
set_option exponentiation.threshold 20000
local macro_rules | `(tactic| walk_at "wp") => `(tactic| try simp only [L2.My.Wp.ok_bind, L2.My.Wp.bind_ok, L2.My.Wp.bind_assoc, L2.My.Wp.req_bind, L2.My.Wp.bind_out, L2.My.Wp.ret_out, L2.My.Wp.raise_bind, L2.My.Wp.raise_out, L2.My.Wp.req_out, L2.My.Wp.bind_seq, L2.My.Wp.ok_seq, L2.My.Wp.ret_seq, L2.My.Wp.req_seq, L2.My.Wp.bind_up, L2.My.Wp.ret_up, L2.My.Wp.brk_up, L2.My.Wp.cnt_up, L2.My.Wp.req_up, L2.My.Wp.raise_up, L2.My.Wp.nox_ok, L2.My.Wp.nox_bind, L2.My.Wp.nox_req, L2.My.Wp.nox_get, L2.My.Wp.nox_nox, L2.My.Wp.ap, Lw.mkQ_self])
namespace Lw
open PySem PySem.Spec PyProof.Rows L2 L2.My
end Lw
namespace L2.My
open PySem PySem.Spec PyProof.Rows L2
def tAd {α : Type} (r : RT α) : RT (Addr × α) := ⟨fun F v x => v = .ref x.1 ∧ r.rel F v x.2, fun e h => ⟨h.1, r.mono e h.2⟩⟩
def tRf : RT Addr := ⟨fun _ v x => v = .ref x, fun _ h => h⟩
def selA {β : Type} : List (Addr × β) → List Bool → List Addr
  | z :: zs, true :: bs => z.1 :: selA zs bs
  | _ :: zs, false :: bs => selA zs bs
  | _, _ => []
def fI : List Bool → Nat → Option Nat
  | [], _ => none
  | true :: _, i => some i
  | false :: t, i => fI t (i + 1)
section
variable {α β γ S L R : Type} {K : PySem.W.Frag} {X : ZK K} {tLC tI tA tB : TE} {tL : TT} {Γ : List Cn} {r : RT α} {F F' H H' : Hp} {G : S → List Cn} {GL : L → List Cn} {rr : RR R}
def selW {β : Type} (t : β → Wp Bool) (xss : List β) : Wp (List Bool) := (Wp.map (fun g => (t g).nox) xss).nox
def selM {β : Type} (t : β → Wp Bool) (zs : List (Addr × β)) : Wp (List Addr) := Wp.fmap (fun z => ((t z.2).bind fun b => if b = true then (Wp.ok z.1).bind fun y => Wp.ok (some y) else Wp.ok none).nox) zs
end
end L2.My
namespace Lw
end Lw
set_option exponentiation.threshold 20000
local macro_rules | `(tactic| walk_at "wp") => `(tactic| try simp only [L2.My.Wp.ok_bind, L2.My.Wp.bind_ok, L2.My.Wp.bind_assoc, L2.My.Wp.req_bind, L2.My.Wp.bind_out, L2.My.Wp.ret_out, L2.My.Wp.raise_bind, L2.My.Wp.raise_out, L2.My.Wp.req_out, L2.My.Wp.bind_seq, L2.My.Wp.ok_seq, L2.My.Wp.ret_seq, L2.My.Wp.req_seq, L2.My.Wp.bind_up, L2.My.Wp.ret_up, L2.My.Wp.brk_up, L2.My.Wp.cnt_up, L2.My.Wp.req_up, L2.My.Wp.raise_up, L2.My.Wp.nox_ok, L2.My.Wp.nox_bind, L2.My.Wp.nox_req, L2.My.Wp.nox_get, L2.My.Wp.nox_nox, L2.My.Wp.ap, Lw.mkQ_self])
namespace Lw
open PySem PySem.Spec PyProof.Rows L2 L2.My
end Lw
namespace L2.My
open PySem PySem.Spec PyProof.Rows L2
section
variable {α β γ σ S L R : Type} {K : PySem.W.Frag} {E X : ZK K} {te tb ti : TE} {tuS : TS} {Γ : List Cn} {r : RT β} {i : Nat} {G : S → List Cn} {GL : L → List Cn} {rr : RR R} {C : Addr}
theorem evp_ixO {d : MDs σ} {n : Str} {g : σ → List β} {s : σ → List β → σ} {m' : MT σ} {x : σ} {m : Wp Int} (hi : Cn.get Γ i = some (.mut m' x)) (hle : MtLe m' (mObj C d)) (c : Cls K C) (na : NoAttr K C n) (hf : MuL d n (mL r) g s) (h : EvP K E tb Γ tInt m) : EvP K E (tOp (rIxL K) (tFld K (tVar i) n) tb) Γ r (m.bind fun y => Wp.get (atI (g x) y)) := by
  intro F H σ' fps Q e hol hm
  obtain ⟨fp, o, h1, h2, v, rfl, h3⟩ := hol.get hi
  obtain ⟨p, dx, fs, fp0, rfl, rfl, hp0, h5, h6, h7⟩ := hle.to h3
  obtain ⟨u, fp1, h8, h9, h10, h11⟩ := hf.at_ h7
  obtain ⟨q, ws, rfl, rfl, hq, hqF, al, hlen⟩ := h9
  refine ⟨_, h2, p, C, dx, fs, _, rfl, h5, c, na, h8, h F H σ' fps _ e hol (m.mono (fun y hm => ?_) (fun _ z => z) hm)⟩
  intro w F1 H1 n1 hw
  obtain ⟨z, hx, hm⟩ := wpget hm
  obtain ⟨u, q1, q2⟩ := al_atI (al.mono n1.ff) hx
  exact ⟨q, ws, y, u, rfl, hw, SqL.of (n1.keep q _ (by simp) hq), q1, hm u F1 H1 n1 q2⟩
theorem evp_ixOP {d : MDs σ} {n : Str} {g : σ → List β} {s : σ → List β → σ} {m' : MT σ} {x : σ} {y : Int} {M : Wp β} (hi : Cn.get Γ i = some (.mut m' x)) (hle : MtLe m' (mObj C d)) (c : Cls K C) (na : NoAttr K C n) (hf : MuL d n (mL r) g s) (h : EvP K E tb Γ tInt (.ok y)) (e : Wp.get (atI (g x) y) = M := by rfl) : EvP K E (tOp (rIxL K) (tFld K (tVar i) n) tb) Γ r M := e ▸ evp_ixO hi hle c na hf h
def raL (r : RT β) : RA (List β) := ⟨fun F vs xs => Al r F vs xs, fun e h => Al.mono e h⟩
theorem al_appL : ∀ {vs ws : List V} {F : Hp} {xs ys : List β}, Al r F vs xs → Al r F ws ys → Al r F (vs ++ ws) (xs ++ ys)
  | [], _, _, [], _, _, h => h
  | [], _, _, _ :: _, _, h, _ => h.elim
  | _ :: _, _, _, [], _, h, _ => h.elim
  | _ :: _, _, _, _ :: _, _, h, h' => ⟨h.1, al_appL h.2 h'⟩
theorem eval_nil : EvA K E tNil Γ (raL r) (.ok []) := fun F H σ fps Q e hol hm => hm _ F H (Nx.refl e) trivial
theorem eval_cons {tr : TA} {ma : Wp β} {mb : Wp (List β)} (ha : EvP K E te Γ r ma) (hb : EvA K E tr Γ (raL r) mb) : EvA K E (tCons te tr) Γ (raL r) (ma.bind fun a => mb.bind fun b => .ok (a :: b)) := by
  intro F H σ fps Q e hol hm
  refine ha F H σ fps _ e hol (ma.mono (fun a hm => ?_) (fun _ z => z) hm)
  intro v F1 H1 n1 hv
  refine hb F1 H1 σ fps _ n1.fh (hol.nx n1) (mb.mono (fun b hm => ?_) (fun _ => E.st n1) hm)
  intro vs F2 H2 n2 hw
  exact hm (v :: vs) F2 H2 (n1.trans n2) ⟨r.mono n2.ff hv, hw⟩
theorem eval_star {tr : TA} {ma mb : Wp (List β)} (ha : EvP K E te Γ (lS r) ma) (hb : EvA K E tr Γ (raL r) mb) : EvA K E (StX.tStar K te tr) Γ (raL r) (ma.bind fun a => mb.bind fun b => .ok (a ++ b)) := by
  intro F H σ fps Q e hol hm
  refine ha F H σ fps _ e hol (ma.mono (fun a hm => ?_) (fun _ z => z) hm)
  intro v F1 H1 n1 hv
  obtain ⟨⟨p, ws, rfl, hp, al⟩, hl⟩ := hv
  refine ⟨p, ws, rfl, ?_, ?_⟩
  · rcases hp with hp | hp
    · exact .inr (SqL.of (n1.fh _ _ hp))
    · exact .inl (SqT.of (n1.fh _ _ hp))
  refine hb F1 H1 σ fps _ n1.fh (hol.nx n1) (mb.mono (fun b hm => ?_) (fun _ => E.st n1) hm)
  intro vs F2 H2 n2 hw
  exact hm (ws ++ vs) F2 H2 (n1.trans n2) (al_appL (Al.mono n2.ff al) hw)
theorem evn_lstL {tr : TA} {m : Wp (List β)} (ha : EvA K E tr Γ (raL r) m) : EvN K E (tLst tr) Γ (mL r) (m.bind fun x => .req (x.length ≤ 16777215) (.ok x)) := by
  intro F H σ fps Q e hol hm
  refine ha F H σ fps _ e hol (m.mono (fun x hm => ?_) (fun _ z => z) hm)
  intro vs F1 H1 n1 hv
  have al : Al r F1 vs x := hv
  refine ⟨by rw [al.length, sizeLine_eq]; have := hm.1; omega, fun p hp => ?_⟩
  exact hm.2 _ F1 _ [p] (n1.trans (Nx.open_ n1.fh hp)) (fun a ha => by rw [List.mem_singleton.mp ha]; exact n1.free hp) ⟨p, vs, rfl, rfl, upd_same, ext_none n1.fh hp, al, hm.1⟩
theorem fn_SN {ts : TS} {XX : XK} {Q : VK} {mt : MT σ} {F H : Hp} {σ' : L2.St} {fps : List (List Addr)} {fp : List Addr} {p : V} {Γ' : List Cn} {body : Wp (Fl σ Empty Empty)} {rr : RR Empty} (h : Sv K (zk K XX) ts Γ (fun y => .mut (mt.pin p) y :: Γ') (fun z : Empty => z.elim) rr body) (e : Ext F H) (hol : Hol Γ F H fps σ') (h0 : fps.flatten = fp)
    (hm : ((Wp.ini body).bind fun s => (.ok ((), s) : Wp (Unit × σ))).run (fun y => ∀ u F' H' fp', Stp fp F H fp' F' H' → mt.rel F' H' fp' p y.2 → tNon.rel F' u y.1 → Q u H') (Es K XX fp F H)) : ts { nx := fun _ H1 => Q .non H1, rt := Q } σ' H := by
  refine h _ F H σ' fps e hol ?_
  rw [h0]
  refine body.mono (fun z hz => ?_) (fun _ z => z) hm
  cases z with
  | brk s => exact s.elim
  | cnt s => exact s.elim
  | ret s => exact s.elim
  | nx y =>
    intro F' H' fps' σ2 s hol'
    match fps', σ2, hol' with
    | fp1 :: _, o :: _, hol' =>
      obtain ⟨v, rfl, hv0, h4⟩ := hol'.1
      subst hv0
      exact hz .non F' H' fp1 (s.sub fun a ha => by rw [List.flatten_cons]; exact List.mem_append_left _ ha) h4 rfl
end
end L2.My
namespace Lw
open PySem PySem.Spec PyProof.Rows L2 L2.My
end Lw
namespace L2.My
open PySem PySem.Spec PyProof.Rows L2
def rngD (n : Int) : List Int := (List.range n.toNat).map fun k : Nat => n - 1 - (k : Int)
end L2.My
namespace Lw
open PySem PySem.Spec PyProof.Rows L2 L2.My
end Lw
set_option exponentiation.threshold 20000
local macro_rules | `(tactic| walk_at "wp") => `(tactic| try simp only [L2.My.Wp.ok_bind, L2.My.Wp.bind_ok, L2.My.Wp.bind_assoc, L2.My.Wp.req_bind, L2.My.Wp.bind_out, L2.My.Wp.ret_out, L2.My.Wp.raise_bind, L2.My.Wp.raise_out, L2.My.Wp.req_out, L2.My.Wp.bind_seq, L2.My.Wp.ok_seq, L2.My.Wp.ret_seq, L2.My.Wp.req_seq, L2.My.Wp.bind_up, L2.My.Wp.ret_up, L2.My.Wp.brk_up, L2.My.Wp.cnt_up, L2.My.Wp.req_up, L2.My.Wp.raise_up, L2.My.Wp.nox_ok, L2.My.Wp.nox_bind, L2.My.Wp.nox_req, L2.My.Wp.nox_get, L2.My.Wp.nox_nox, L2.My.Wp.ap, Lw.mkQ_self])
namespace Lw
open PySem PySem.Spec PyProof.Rows L2 L2.My
end Lw
namespace L2.My
open PySem PySem.Spec PyProof.Rows L2
def idxI (xs : List Int) (y : Int) : Option Int := (xs.findIdx? (fun x => decide (x = y))).map fun k : Nat => (k : Int)
section
variable {K : PySem.W.Frag} {E : ZK K} {ta tb : TE} {Γ : List Cn}
end
end L2.My
namespace Lw
end Lw
set_option exponentiation.threshold 20000
local macro_rules | `(tactic| walk_at "wp") => `(tactic| try simp only [L2.My.Wp.ok_bind, L2.My.Wp.bind_ok, L2.My.Wp.bind_assoc, L2.My.Wp.req_bind, L2.My.Wp.bind_out, L2.My.Wp.ret_out, L2.My.Wp.raise_bind, L2.My.Wp.raise_out, L2.My.Wp.req_out, L2.My.Wp.bind_seq, L2.My.Wp.ok_seq, L2.My.Wp.ret_seq, L2.My.Wp.req_seq, L2.My.Wp.bind_up, L2.My.Wp.ret_up, L2.My.Wp.brk_up, L2.My.Wp.cnt_up, L2.My.Wp.req_up, L2.My.Wp.raise_up, L2.My.Wp.nox_ok, L2.My.Wp.nox_bind, L2.My.Wp.nox_req, L2.My.Wp.nox_get, L2.My.Wp.nox_nox, L2.My.Wp.ap, Lw.mkQ_self])
namespace Lw
open PySem PySem.Spec PyProof.Rows L2 L2.My
end Lw
namespace L2.My
open PySem PySem.Spec PyProof.Rows L2
def tRev (K : PySem.W.Frag) (te : TE) (ts : TO) : TE := fun σ H Q => te σ H fun x H1 => ts σ H1 fun o H2 => o = some (-1) ∧ ∃ a xs, x = .ref a ∧ SqL K H2 a xs ∧ ∀ p, H2 p = none → Q (.ref p) (upd H2 p (.lst xs.reverse))
section
variable {X : Cx} {e : Expr} {te : TE} {so : Expr} {ts : TO} {pos p2 : Pos}
end
section
variable {α : Type} {K : PySem.W.Frag} {E : ZK K} {te : TE} {ts : TO} {Γ : List Cn} {r : RT α}
end
end L2.My
namespace Lw
end Lw
set_option exponentiation.threshold 20000
local macro_rules | `(tactic| walk_at "wp") => `(tactic| try simp only [L2.My.Wp.ok_bind, L2.My.Wp.bind_ok, L2.My.Wp.bind_assoc, L2.My.Wp.req_bind, L2.My.Wp.bind_out, L2.My.Wp.ret_out, L2.My.Wp.raise_bind, L2.My.Wp.raise_out, L2.My.Wp.req_out, L2.My.Wp.bind_seq, L2.My.Wp.ok_seq, L2.My.Wp.ret_seq, L2.My.Wp.req_seq, L2.My.Wp.bind_up, L2.My.Wp.ret_up, L2.My.Wp.brk_up, L2.My.Wp.cnt_up, L2.My.Wp.req_up, L2.My.Wp.raise_up, L2.My.Wp.nox_ok, L2.My.Wp.nox_bind, L2.My.Wp.nox_req, L2.My.Wp.nox_get, L2.My.Wp.nox_nox, L2.My.Wp.ap, Lw.mkQ_self])
namespace Lw
open PySem PySem.Spec PyProof.Rows L2 L2.My
end Lw
namespace L2.My
open PySem PySem.Spec PyProof.Rows L2
section
variable {α β σ S S' L R : Type} {K : PySem.W.Frag} {E X : ZK K} {te ta tb : TE} {tu ts1 ts2 tuS : TS} {Γ : List Cn} {r : RT α} {r1 : RT α} {r2 : RT β} {F H F' H' : Hp} {j : Nat} {G : S' → List Cn} {GL : L → List Cn} {rr : RR R} {m : MT σ}
def tAny (β : Type) : RT β := ⟨fun _ _ _ => True, fun _ h => h⟩
def RT.pinR (r : RT α) (v : V) : RT α := ⟨fun F w x => w = v ∧ r.rel F w x, fun e h => ⟨h.1, r.mono e h.2⟩⟩
def mPs (r1 : RT α) (r2 : RT β) : MT (List α × List β) where
  rel := fun F H fp v s => ∃ p p0 p1 ws0 ws1, v = .ref p ∧ fp = [p, p0, p1] ∧ p ≠ p0 ∧ p ≠ p1 ∧ p0 ≠ p1 ∧ H p = some (.lst [.ref p0, .ref p1]) ∧ H p0 = some (.lst ws0) ∧ H p1 = some (.lst ws1) ∧ F p = none ∧ F p0 = none ∧ F p1 = none ∧ Al r1 F ws0 s.1 ∧ Al r2 F ws1 s.2 ∧ s.1.length ≤ 16777215 ∧ s.2.length ≤ 16777215
  dom := fun h a ha => by
    obtain ⟨p, p0, p1, ws0, ws1, rfl, rfl, _, _, _, h1, h2, h3, _⟩ := h
    simp at ha
    rcases ha with rfl | rfl | rfl
    · rw [h1]; simp
    · rw [h2]; simp
    · rw [h3]; simp
  frame := fun {M F H F' H' fp v s} h n hM => by
    obtain ⟨p, p0, p1, ws0, ws1, rfl, rfl, d1, d2, d3, h1, h2, h3, f1, f2, f3, a1, a2, l1, l2⟩ := h
    have q1 := hM p (by simp)
    have q2 := hM p0 (by simp)
    have q3 := hM p1 (by simp)
    exact ⟨p, p0, p1, ws0, ws1, rfl, rfl, d1, d2, d3, n.keep _ _ q1 h1, n.keep _ _ q2 h2, n.keep _ _ q3 h3, n.out _ q1 f1 (by rw [h1]; simp), n.out _ q2 f2 (by rw [h2]; simp), n.out _ q3 f3 (by rw [h3]; simp), a1.mono n.ff, a2.mono n.ff, l1, l2⟩
def tPs (r1 : RT α) (r2 : RT β) : RT (List α × List β) := ⟨fun F v s => ∃ p v0 v1, v = .ref p ∧ F p = some (.lst [v0, v1]) ∧ (lL r1).rel F v0 s.1 ∧ (lL r2).rel F v1 s.2, fun e h => by
  obtain ⟨p, v0, v1, h1, h2, h3, h4⟩ := h
  exact ⟨p, v0, v1, h1, e _ _ h2, (lL _).mono e h3, (lL _).mono e h4⟩⟩
def Wk (c c2 : Cn) : Prop := ∀ {F F' H fp o}, NoL F F' → c.rel F H fp o → c2.rel F' H fp o
def WkL : List Cn → List Cn → Prop
  | [], [] => True
  | c :: t, c2 :: t2 => Wk c c2 ∧ WkL t t2
  | _, _ => False
theorem WkL.len : ∀ {A B : List Cn}, WkL A B → A.length = B.length
  | [], [], _ => rfl
  | _ :: _, _ :: _, h => congrArg (· + 1) (WkL.len h.2)
  | [], _ :: _, h => h.elim
  | _ :: _, [], h => h.elim
theorem WkL.get : ∀ {A B : List Cn} {i : Nat} {c2 : Cn}, WkL A B → Cn.get B i = some c2 → ∃ c, Cn.get A i = some c ∧ Wk c c2
  | c :: t, c2' :: t2, 0, c2, h, e => by cases e; exact ⟨c, rfl, h.1⟩
  | c :: t, c2' :: t2, i + 1, c2, h, e => WkL.get (i := i) h.2 e
  | [], _ :: _, _, _, h, _ => h.elim
  | _ :: _, [], _, _, h, _ => h.elim
  | [], [], _, _, _, e => by cases e
end
end L2.My
namespace Lw
end Lw
set_option exponentiation.threshold 20000
local macro_rules | `(tactic| walk_at "wp") => `(tactic| try simp only [L2.My.Wp.ok_bind, L2.My.Wp.bind_ok, L2.My.Wp.bind_assoc, L2.My.Wp.req_bind, L2.My.Wp.bind_out, L2.My.Wp.ret_out, L2.My.Wp.raise_bind, L2.My.Wp.raise_out, L2.My.Wp.req_out, L2.My.Wp.bind_seq, L2.My.Wp.ok_seq, L2.My.Wp.ret_seq, L2.My.Wp.req_seq, L2.My.Wp.bind_up, L2.My.Wp.ret_up, L2.My.Wp.brk_up, L2.My.Wp.cnt_up, L2.My.Wp.req_up, L2.My.Wp.raise_up, L2.My.Wp.nox_ok, L2.My.Wp.nox_bind, L2.My.Wp.nox_req, L2.My.Wp.nox_get, L2.My.Wp.nox_nox, L2.My.Wp.ap, Lw.mkQ_self])
namespace Lw
open PySem PySem.Spec PyProof.Rows L2 L2.My
end Lw
namespace L2.My
open PySem PySem.Spec PyProof.Rows L2
section
variable {α β γ τ σ S L R : Type} {K : PySem.W.Frag} {E X : ZK K} {te ta tb : TE} {ts tuS : TS} {Γ : List Cn} {r : RT α} {r1 : RT β} {F H : Hp} {i j t : Nat} {G : S → List Cn} {GL : L → List Cn} {rr : RR R} {m : MT σ} {C : Addr}
def rN (m : MT σ) : RR σ := fun F' H' M' v x => ∃ fp, (∀ a ∈ fp, a ∈ M') ∧ m.rel F' H' fp v x
def mObF (C : Addr) (d : MDs σ) : MT σ where
  rel := fun F H fp v x => ∃ p dx fs, v = .ref p ∧ F p = some (.ins C dx fs) ∧ d.rel F H fp fs x
  dom := fun h a ha => by
    obtain ⟨p, dx, fs, rfl, _, h3⟩ := h
    exact d.dom h3 a ha
  frame := fun {M F H F' H' fp v s} h n hM => by
    obtain ⟨p, dx, fs, rfl, h1, h3⟩ := h
    exact ⟨p, dx, fs, rfl, n.ff _ _ h1, d.frame h3 n hM⟩
structure LstD (d : MDs σ) : Prop where
  go : ∀ {F H fp fs x}, d.rel F H fp fs x → ∀ a ∈ fp, ∃ ws, H a = some (.lst ws)
def mPrO (r : RT α) (m : MT σ) : MT (α × σ) where
  rel := fun F H fp v x => ∃ p a w, v = .ref p ∧ F p = some (.tup [a, w]) ∧ r.rel F a x.1 ∧ m.rel F H fp w x.2
  dom := fun h a ha => by
    obtain ⟨p, u, w, rfl, _, _, h3⟩ := h
    exact m.dom h3 a ha
  frame := fun {M F H F' H' fp v s} h n hM => by
    obtain ⟨p, u, w, rfl, h1, h2, h3⟩ := h
    exact ⟨p, u, w, rfl, n.ff _ _ h1, r.mono n.ff h2, m.frame h3 n hM⟩
end
end L2.My
namespace Lw
end Lw
set_option exponentiation.threshold 20000
local macro_rules | `(tactic| walk_at "wp") => `(tactic| try simp only [L2.My.Wp.ok_bind, L2.My.Wp.bind_ok, L2.My.Wp.bind_assoc, L2.My.Wp.req_bind, L2.My.Wp.bind_out, L2.My.Wp.ret_out, L2.My.Wp.raise_bind, L2.My.Wp.raise_out, L2.My.Wp.req_out, L2.My.Wp.bind_seq, L2.My.Wp.ok_seq, L2.My.Wp.ret_seq, L2.My.Wp.req_seq, L2.My.Wp.bind_up, L2.My.Wp.ret_up, L2.My.Wp.brk_up, L2.My.Wp.cnt_up, L2.My.Wp.req_up, L2.My.Wp.raise_up, L2.My.Wp.nox_ok, L2.My.Wp.nox_bind, L2.My.Wp.nox_req, L2.My.Wp.nox_get, L2.My.Wp.nox_nox, L2.My.Wp.ap, Lw.mkQ_self])
namespace Lw
open PySem PySem.Spec PyProof.Rows L2 L2.My
end Lw
namespace L2.My
open PySem PySem.Spec PyProof.Rows L2
section
variable {α β γ τ σ S L R : Type} {K : PySem.W.Frag} {E X : ZK K} {te ta tb : TE} {ts tuS : TS} {Γ : List Cn} {r : RT α} {r1 : RT β} {F H : Hp} {i j t : Nat} {G : S → List Cn} {GL : L → List Cn} {rr : RR R} {m : MT σ} {C : Addr}
structure Lists3 (d : MDs σ) (n1 n2 n3 : Str) : Prop where
  at_ : ∀ {F H fp fs x}, d.rel F H fp fs x → ∃ q1 q2 q3, fs.lookup n1 = some (.ref q1) ∧ fs.lookup n2 = some (.ref q2) ∧ fs.lookup n3 = some (.ref q3) ∧ (∀ q ∈ [q1, q2, q3], q ∈ fp ∧ F q = none ∧ ∃ ws, H q = some (.lst ws) ∧ ws.length ≤ 16777215) ∧ [q1, q2, q3].Nodup
end
end L2.My
namespace Lw
end Lw
set_option exponentiation.threshold 20000
local macro_rules | `(tactic| walk_at "wp") => `(tactic| try simp only [L2.My.Wp.ok_bind, L2.My.Wp.bind_ok, L2.My.Wp.bind_assoc, L2.My.Wp.req_bind, L2.My.Wp.bind_out, L2.My.Wp.ret_out, L2.My.Wp.raise_bind, L2.My.Wp.raise_out, L2.My.Wp.req_out, L2.My.Wp.bind_seq, L2.My.Wp.ok_seq, L2.My.Wp.ret_seq, L2.My.Wp.req_seq, L2.My.Wp.bind_up, L2.My.Wp.ret_up, L2.My.Wp.brk_up, L2.My.Wp.cnt_up, L2.My.Wp.req_up, L2.My.Wp.raise_up, L2.My.Wp.nox_ok, L2.My.Wp.nox_bind, L2.My.Wp.nox_req, L2.My.Wp.nox_get, L2.My.Wp.nox_nox, L2.My.Wp.ap, Lw.mkQ_self])
namespace Lw
open PySem PySem.Spec PyProof.Rows L2 L2.My
end Lw
namespace L2.My
open PySem PySem.Spec PyProof.Rows L2
section
variable {α β γ τ σ S L R σt : Type} {K : PySem.W.Frag} {E X : ZK K} {e1 e2 e3 e4 te1 te2 ei1 ei2 : TE} {ts tu : TS} {Γ : List Cn} {r : RT α} {F H : Hp} {ip j t t2 : Nat} {G : S → List Cn} {GL : L → List Cn} {rr : RR R} {mt : MT σt}
def mPin2 (m : MT σ) (p : Addr) (o : HO) (p1 : Addr) (o1 : HO) : MT σ where
  rel := fun F H fp v x => m.rel F H fp v x ∧ p ∈ fp ∧ p1 ∈ fp ∧ H p = some o ∧ H p1 = some o1
  dom := fun h => m.dom h.1
  frame := fun h n hM => ⟨m.frame h.1 n hM, h.2.1, h.2.2.1, n.keep _ _ (hM _ h.2.1) h.2.2.2.1, n.keep _ _ (hM _ h.2.2.1) h.2.2.2.2⟩
end
end L2.My
namespace Lw
end Lw
set_option exponentiation.threshold 20000
local macro_rules | `(tactic| walk_at "wp") => `(tactic| try simp only [L2.My.Wp.ok_bind, L2.My.Wp.bind_ok, L2.My.Wp.bind_assoc, L2.My.Wp.req_bind, L2.My.Wp.bind_out, L2.My.Wp.ret_out, L2.My.Wp.raise_bind, L2.My.Wp.raise_out, L2.My.Wp.req_out, L2.My.Wp.bind_seq, L2.My.Wp.ok_seq, L2.My.Wp.ret_seq, L2.My.Wp.req_seq, L2.My.Wp.bind_up, L2.My.Wp.ret_up, L2.My.Wp.brk_up, L2.My.Wp.cnt_up, L2.My.Wp.req_up, L2.My.Wp.raise_up, L2.My.Wp.nox_ok, L2.My.Wp.nox_bind, L2.My.Wp.nox_req, L2.My.Wp.nox_get, L2.My.Wp.nox_nox, L2.My.Wp.ap, Lw.mkQ_self])
namespace Lw
open PySem PySem.Spec PyProof.Rows L2 L2.My
end Lw
namespace L2.My
open PySem PySem.Spec PyProof.Rows L2
section
variable {α β γ τ ι σ S L R σt : Type} {K : PySem.W.Frag} {E X : ZK K} {te ta tb : TE} {ts tuS : TS} {Γ : List Cn} {r : RT α} {F H : Hp} {i j t : Nat} {G : S → List Cn} {GL : L → List Cn} {rr : RR R} {m : MT σ} {mt : MT σt}
def Kn (F H : Hp) (fps : List (List Addr)) (σs : L2.St) (Γ : List Cn) (i : Nat) (mt : MT σt) (m : MT σ) (Q : VK) : σ × σt → Prop :=
  fun y => ∀ v F' H' fps' fp, Stp fps.flatten F H fps'.flatten F' H' → Hol (Cn.put Γ i (.mut mt y.2)) F' H' fps' σs → (∀ a ∈ fp, H a = none) → (∀ a ∈ fp, a ∉ fps'.flatten) → m.rel F' H' fp v y.1 → Q v H'
def EvNS (K : PySem.W.Frag) (E : ZK K) (te : TE) (Γ : List Cn) (i : Nat) (mt : MT σt) (m : MT σ) (mm : Wp (σ × σt)) : Prop :=
  ∀ F H σs fps Q, Ext F H → Hol Γ F H fps σs → mm.run (Kn F H fps σs Γ i mt m Q) (E.B fps.flatten F H) → te σs H Q
end
end L2.My
namespace Lw
end Lw
set_option exponentiation.threshold 20000
local macro_rules | `(tactic| walk_at "wp") => `(tactic| try simp only [L2.My.Wp.ok_bind, L2.My.Wp.bind_ok, L2.My.Wp.bind_assoc, L2.My.Wp.req_bind, L2.My.Wp.bind_out, L2.My.Wp.ret_out, L2.My.Wp.raise_bind, L2.My.Wp.raise_out, L2.My.Wp.req_out, L2.My.Wp.bind_seq, L2.My.Wp.ok_seq, L2.My.Wp.ret_seq, L2.My.Wp.req_seq, L2.My.Wp.bind_up, L2.My.Wp.ret_up, L2.My.Wp.brk_up, L2.My.Wp.cnt_up, L2.My.Wp.req_up, L2.My.Wp.raise_up, L2.My.Wp.nox_ok, L2.My.Wp.nox_bind, L2.My.Wp.nox_req, L2.My.Wp.nox_get, L2.My.Wp.nox_nox, L2.My.Wp.ap, Lw.mkQ_self])
namespace Lw
open PySem PySem.Spec PyProof.Rows L2 L2.My
end Lw
namespace L2.My
open PySem PySem.Spec PyProof.Rows L2
section
variable {X : Cx} {k k' tx : Nat} {x y : Str} {ps ps' : List Str} {sp sp' : Sp} {E : XK} {e i : Expr} {es : List Expr} {ti : TE} {t : TA} {p p' pos tpos spos : Pos}
def tSel2 (K : PySem.W.Frag) (ti c1 c2 : TE) : TE := fun σ H Q => ∀ f1 f2 : Addr, tOp (rIxT K) (tTup (tCons (tC (.ref f1)) (tCons (tC (.ref f2)) tNil))) ti σ H fun v H1 => (v = .ref f1 ∧ c1 σ H1 Q) ∨ (v = .ref f2 ∧ c2 σ H1 Q)
end
section
variable {α σt : Type} {K : PySem.W.Frag} {E : ZK K} {ti c1 c2 : TE} {Γ : List Cn} {r : RT α} {i : Nat} {mt : MT σt}
end
end L2.My
namespace Lw
end Lw
set_option exponentiation.threshold 20000
local macro_rules | `(tactic| walk_at "wp") => `(tactic| try simp only [L2.My.Wp.ok_bind, L2.My.Wp.bind_ok, L2.My.Wp.bind_assoc, L2.My.Wp.req_bind, L2.My.Wp.bind_out, L2.My.Wp.ret_out, L2.My.Wp.raise_bind, L2.My.Wp.raise_out, L2.My.Wp.req_out, L2.My.Wp.bind_seq, L2.My.Wp.ok_seq, L2.My.Wp.ret_seq, L2.My.Wp.req_seq, L2.My.Wp.bind_up, L2.My.Wp.ret_up, L2.My.Wp.brk_up, L2.My.Wp.cnt_up, L2.My.Wp.req_up, L2.My.Wp.raise_up, L2.My.Wp.nox_ok, L2.My.Wp.nox_bind, L2.My.Wp.nox_req, L2.My.Wp.nox_get, L2.My.Wp.nox_nox, L2.My.Wp.ap, Lw.mkQ_self])
namespace Lw
open PySem PySem.Spec PyProof.Rows L2 L2.My
end Lw
namespace L2.My
open PySem PySem.Spec PyProof.Rows L2
section
variable {α β γ ι σ S S' L R : Type} {K : PySem.W.Frag} {E X : ZK K} {te : TE} {ts tw tuS : TS} {Γ : List Cn} {r : RT α} {r1 : RT β} {F H F' H' : Hp} {i : Nat} {G : S → List Cn} {GL : L → List Cn} {rr : RR R} {C : Addr}
def mObFG (C : Addr) (d : MDs σ) (n : Str) (q : Addr) : MT σ := ⟨fun F H fp v s => (mObF C d).rel F H fp v s ∧ ∃ p dx fs, v = .ref p ∧ F p = some (.ins C dx fs) ∧ fs.lookup n = some (.ref q),
  fun h => (mObF C d).dom h.1, fun {M F H F' H' fp v s} h nz hM => ⟨(mObF C d).frame h.1 nz hM, by
    obtain ⟨p, dx, fs, h1, h2, h3⟩ := h.2
    exact ⟨p, dx, fs, h1, nz.ff _ _ h2, h3⟩⟩⟩
end
end L2.My
namespace Lw
end Lw
set_option exponentiation.threshold 20000
local macro_rules | `(tactic| walk_at "wp") => `(tactic| try simp only [L2.My.Wp.ok_bind, L2.My.Wp.bind_ok, L2.My.Wp.bind_assoc, L2.My.Wp.req_bind, L2.My.Wp.bind_out, L2.My.Wp.ret_out, L2.My.Wp.raise_bind, L2.My.Wp.raise_out, L2.My.Wp.req_out, L2.My.Wp.bind_seq, L2.My.Wp.ok_seq, L2.My.Wp.ret_seq, L2.My.Wp.req_seq, L2.My.Wp.bind_up, L2.My.Wp.ret_up, L2.My.Wp.brk_up, L2.My.Wp.cnt_up, L2.My.Wp.req_up, L2.My.Wp.raise_up, L2.My.Wp.nox_ok, L2.My.Wp.nox_bind, L2.My.Wp.nox_req, L2.My.Wp.nox_get, L2.My.Wp.nox_nox, L2.My.Wp.ap, Lw.mkQ_self])
namespace Lw
open PySem PySem.Spec PyProof.Rows L2 L2.My
end Lw
namespace L2.My
open PySem PySem.Spec PyProof.Rows L2
inductive Dt where
  | int (n : Int)
  | str (s : Str)
  | tup (xs : List Dt)
mutual
def dtRel (H : Hp) : Dt → V → Prop
  | .int n, v => v = .int n
  | .str s, v => v = .str s ∧ (PyData.strOk s = true ∧ s.length ≤ 1000000)
  | .tup xs, v => ∃ a ws, v = .ref a ∧ H a = some (.tup ws) ∧ dtsRel H xs ws ∧ xs.length ≤ 16777215
def dtsRel (H : Hp) : List Dt → List V → Prop
  | [], ws => ws = []
  | p :: ps, ws => ∃ w us, ws = w :: us ∧ dtRel H p w ∧ dtsRel H ps us
end
mutual
theorem dtRel.mono {F F' : Hp} (e : Ext F F') : ∀ (p : Dt) (v : V), dtRel F p v → dtRel F' p v
  | .int _, _, h => h
  | .str _, _, h => h
  | .tup xs, v, h => by
    unfold dtRel at h ⊢
    obtain ⟨a, ws, h1, h2, h3, h4⟩ := h
    exact ⟨a, ws, h1, e _ _ h2, dtsRel.mono e xs ws h3, h4⟩
theorem dtsRel.mono {F F' : Hp} (e : Ext F F') : ∀ (ps : List Dt) (ws : List V), dtsRel F ps ws → dtsRel F' ps ws
  | [], ws, h => by
    unfold dtsRel at h ⊢
    exact h
  | p :: ps, ws, h => by
    unfold dtsRel at h ⊢
    obtain ⟨w, us, h1, h2, h3⟩ := h
    exact ⟨w, us, h1, dtRel.mono e p w h2, dtsRel.mono e ps us h3⟩
end
def tDt : RT Dt := ⟨fun H v p => dtRel H p v, fun e h => dtRel.mono e _ _ h⟩
theorem dts_al {F : Hp} : ∀ {ps : List Dt} {ws : List V}, dtsRel F ps ws ↔ Al tDt F ws ps
  | [], [] => by
    unfold dtsRel
    exact ⟨fun _ => trivial, fun _ => rfl⟩
  | [], w :: t => by
    unfold dtsRel
    constructor
    · intro h; exact absurd h (by simp)
    · intro h; exact (h : False).elim
  | p :: ps, [] => by
    unfold dtsRel
    constructor
    · rintro ⟨w, us, h, _⟩; exact absurd h (by simp)
    · intro h; exact (h : False).elim
  | p :: ps, w :: t => by
    unfold dtsRel
    constructor
    · rintro ⟨w', us, h, h2, h3⟩
      injection h with e1 e2
      subst e1; subst e2
      exact ⟨h2, dts_al.mp h3⟩
    · intro h
      exact ⟨w, t, rfl, h.1, dts_al.mpr h.2⟩
mutual
def Dt.dec : ∀ a b : Dt, Decidable (a = b)
  | .int n, .int m => if h : n = m then .isTrue (by rw [h]) else .isFalse (fun z => by injection z; contradiction)
  | .int _, .str _ => .isFalse (fun z => by cases z)
  | .int _, .tup _ => .isFalse (fun z => by cases z)
  | .str _, .int _ => .isFalse (fun z => by cases z)
  | .str s, .str t => if h : s = t then .isTrue (by rw [h]) else .isFalse (fun z => by injection z; contradiction)
  | .str _, .tup _ => .isFalse (fun z => by cases z)
  | .tup _, .int _ => .isFalse (fun z => by cases z)
  | .tup _, .str _ => .isFalse (fun z => by cases z)
  | .tup xs, .tup ys => match Dt.decs xs ys with
    | .isTrue h => .isTrue (by rw [h])
    | .isFalse h => .isFalse (fun z => by injection z; contradiction)
def Dt.decs : ∀ a b : List Dt, Decidable (a = b)
  | [], [] => .isTrue rfl
  | [], _ :: _ => .isFalse (fun z => by cases z)
  | _ :: _, [] => .isFalse (fun z => by cases z)
  | x :: xs, y :: ys => match Dt.dec x y with
    | .isFalse h => .isFalse (fun z => by injection z; contradiction)
    | .isTrue h => match Dt.decs xs ys with
      | .isTrue h' => .isTrue (by rw [h, h'])
      | .isFalse h' => .isFalse (fun z => by injection z; contradiction)
end
instance : DecidableEq Dt := Dt.dec
def dtS : Dt → Option Str | .str s => some s | _ => none
def dtI : Dt → Option Int | .int n => some n | _ => none
def dtT : Dt → Option (List Dt) | .tup xs => some xs | _ => none
def allS : List Dt → Option (List Str)
  | [] => some []
  | x :: t => match dtS x, allS t with
    | some s, some ss => some (s :: ss)
    | _, _ => none
section
variable {α β γ : Type} {K : PySem.W.Frag} {E : ZK K} {te ta tb : TE} {tr : TA} {Γ : List Cn} {r : RT α} {r2 : RT β} {F H : Hp}
theorem dt_str : ∀ F v x, tTx.rel F v x → tDt.rel F v (.str x) := fun F v x h => h
theorem dt_int : ∀ F v x, tInt.rel F v x → tDt.rel F v (.int x) := fun F v x h => h
theorem dt_tup : ∀ F v x, (lT tDt).rel F v x → tDt.rel F v (.tup x) := fun F v x h => by
  obtain ⟨⟨a, ws, rfl, h1, h2⟩, h3⟩ := h
  show dtRel F _ _
  unfold dtRel
  exact ⟨a, ws, rfl, h1, dts_al.mpr h2, h3⟩
theorem get_run {o : Option β} {A : β → Prop} {B : Err → Prop} (h : (Wp.get o).run A B) : ∃ y, o = some y ∧ A y := by
  cases o with
  | none => exact h.elim
  | some y => exact ⟨y, rfl, h⟩
theorem evp_getN {f : α → Option β} (hc : ∀ F v x y, r.rel F v x → f x = some y → r2.rel F v y) {m : Wp α} (h : EvP K E te Γ r m) : EvP K E te Γ r2 (m.bind fun d => Wp.get (f d)) := evp_narrow (f := fun d => Wp.get (f d)) (fun F v x A B hv hx => by
  obtain ⟨y, h1, h2⟩ := get_run hx
  exact ⟨y, hc F v x y hv h1, h2⟩) h
theorem evp_getNP {f : α → Option β} (hc : ∀ F v x y, r.rel F v x → f x = some y → r2.rel F v y) {x : α} (h : EvP K E te Γ r (.ok x)) : EvP K E te Γ r2 (Wp.get (f x)) := evp_getN (f := f) hc h
theorem c_dtS : ∀ F v x y, tDt.rel F v x → dtS x = some y → tTx.rel F v y := fun F v x y h e => by
  cases x with
  | str s => cases e; exact h
  | int n => cases e
  | tup xs => cases e
theorem c_dtT : ∀ F v x y, tDt.rel F v x → dtT x = some y → (lT tDt).rel F v y := fun F v x y h e => by
  cases x with
  | int s => cases e
  | str n => cases e
  | tup xs =>
    have e : xs = y := Option.some.inj e
    subst e
    have h : dtRel F (.tup xs) v := h
    unfold dtRel at h
    obtain ⟨a, ws, h1, h2, h3, h4⟩ := h
    exact ⟨⟨a, ws, h1, h2, dts_al.mp h3⟩, h4⟩
theorem al_allS : ∀ {ws : List V} {xs : List Dt} {ys : List Str}, Al tDt F ws xs → allS xs = some ys → Al tTx F ws ys
  | [], [], ys, _, e => by cases e; trivial
  | w :: ws, x :: xs, ys, h, e => by
    unfold allS at e
    cases q1 : dtS x with
    | none => rw [q1] at e; cases e
    | some s =>
      cases q2 : allS xs with
      | none => rw [q1, q2] at e; cases e
      | some ss =>
        rw [q1, q2] at e
        cases e
        exact ⟨c_dtS _ _ _ _ h.1 q1, al_allS h.2 q2⟩
  | [], _ :: _, _, h, _ => h.elim
  | _ :: _, [], _, h, _ => h.elim
theorem allS_len : ∀ {xs : List Dt} {ys : List Str}, allS xs = some ys → ys.length = xs.length
  | [], ys, e => by cases e; rfl
  | x :: xs, ys, e => by
    unfold allS at e
    cases q1 : dtS x with
    | none => rw [q1] at e; cases e
    | some s =>
      cases q2 : allS xs with
      | none => rw [q1, q2] at e; cases e
      | some ss =>
        rw [q1, q2] at e
        cases e
        rw [List.length_cons, List.length_cons, allS_len q2]
theorem c_allS : ∀ F v x y, (lT tDt).rel F v x → allS x = some y → (lT tTx).rel F v y := fun F v x y h e => by
  obtain ⟨⟨a, ws, rfl, h1, h2⟩, h3⟩ := h
  exact ⟨⟨a, ws, rfl, h1, al_allS h2 e⟩, by rw [allS_len e]; exact h3⟩
def strD : Dt → Wp Str
  | .int n => .req (n.natAbs.log2 < 1920) (.ok (Str.ofString (toString n)))
  | .str s => .ok s
  | .tup _ => .stuck
def rStrD : List V → Hp → VK → Prop := fun xs H Q => (∃ i : Int, xs = [.int i] ∧ i.natAbs.log2 < 1920 ∧ Q (.str (toString i)) H) ∨ ∃ a, xs = [.str a] ∧ Q (.str a) H
theorem call_strD {X : Cx} : CallR X (.type "str") rStrD := by
  intro pins s σ H xs us Q I r h
  rcases h with h | h
  · exact call_str_int pins s σ H xs us Q I r h
  · exact SkE.call_str_str pins s σ H xs us Q I r h
theorem cb_strD : CalV K E (fun xs _ H Q => rStrD xs H Q) (raC tDt raN) tTx fun x => strD x.1 := by
  rintro F H vs ⟨a, u⟩ Q σ e ⟨v, ws, rfl, h1, h2⟩ hm
  rw [show ws = [] from h2]
  cases a with
  | int n =>
    rw [show v = _ from h1]
    exact .inl ⟨_, rfl, hm.1, hm.2 _ F H (Nx.refl e) ⟨rfl, txok_str (by have := Lw.txt_len hm.1; omega)⟩⟩
  | str s =>
    have h1 : dtRel F (.str s) v := h1
    unfold dtRel at h1
    obtain ⟨rfl, h3⟩ := h1
    exact .inr ⟨_, rfl, hm _ F H (Nx.refl e) ⟨rfl, h3⟩⟩
  | tup xs => exact hm.elim
theorem ktup_sq {a : Addr} {xs : List Str} (h : He.KTup K a xs) : SqT K H a (xs.map V.str) := .inr h
theorem al_strs : ∀ {xs : List Str}, (∀ x ∈ xs, TxOk x) → Al tTx F (xs.map V.str) xs
  | [], _ => trivial
  | x :: t, h => ⟨⟨rfl, h x List.mem_cons_self⟩, al_strs fun y hy => h y (List.mem_cons_of_mem _ hy)⟩
theorem evp_inK {neg : Bool} {a : Addr} {xs : List Str} {m : Wp Str} (hk : He.KTup K a xs) (hx : ∀ x ∈ xs, TxOk x) (h : EvP K E te Γ tTx m) : EvP K E (tOp (rIn K neg) te (tC (.ref a))) Γ tBool (m.bind fun x => .ok (neg ^^ decide (x ∈ xs))) := by
  intro F H σ fps Q e hol hm
  refine h F H σ fps _ e hol (m.mono (fun x hx' v F' H' n hv => ?_) (fun _ z => z) hm)
  obtain ⟨f1, f2⟩ := inV_al hv (al_strs (F := F') hx)
  refine ⟨a, _, rfl, .inr (ktup_sq hk), Flt.fl hv, f1, ?_⟩
  have := hx' (.bl (if neg then !decide (x ∈ xs) else decide (x ∈ xs))) F' H' n (by cases neg <;> simp [tBool])
  rw [f2]
  exact this
theorem evp_inKP {neg : Bool} {a : Addr} {xs : List Str} {x : Str} {b : Bool} (hk : He.KTup K a xs) (hx : ∀ x ∈ xs, TxOk x) (h : EvP K E te Γ tTx (.ok x)) (e : (neg ^^ decide (x ∈ xs)) = b := by rfl) : EvP K E (tOp (rIn K neg) te (tC (.ref a))) Γ tBool (.ok b) := e ▸ evp_inK hk hx h
end
end L2.My
namespace Lw
end Lw
set_option exponentiation.threshold 20000
local macro_rules | `(tactic| walk_at "wp") => `(tactic| try simp only [L2.My.Wp.ok_bind, L2.My.Wp.bind_ok, L2.My.Wp.bind_assoc, L2.My.Wp.req_bind, L2.My.Wp.bind_out, L2.My.Wp.ret_out, L2.My.Wp.raise_bind, L2.My.Wp.raise_out, L2.My.Wp.req_out, L2.My.Wp.bind_seq, L2.My.Wp.ok_seq, L2.My.Wp.ret_seq, L2.My.Wp.req_seq, L2.My.Wp.bind_up, L2.My.Wp.ret_up, L2.My.Wp.brk_up, L2.My.Wp.cnt_up, L2.My.Wp.req_up, L2.My.Wp.raise_up, L2.My.Wp.nox_ok, L2.My.Wp.nox_bind, L2.My.Wp.nox_req, L2.My.Wp.nox_get, L2.My.Wp.nox_nox, L2.My.Wp.ap, Lw.mkQ_self])
namespace Lw
open PySem PySem.Spec PyProof.Rows L2 L2.My
end Lw
namespace L2.My
open PySem PySem.Spec PyProof.Rows L2
section
variable {α σ S L R σt : Type} {K : PySem.W.Frag} {E X : ZK K} {te : TE} {tt : TT} {ts tw tu : TS} {Γ : List Cn} {r : RT α} {F H : Hp} {i j t : Nat} {G : S → List Cn} {GL : L → List Cn} {rr : RR R} {m : MT σ} {mt : MT σt}
end
end L2.My
namespace Lw
end Lw
set_option exponentiation.threshold 20000
local macro_rules | `(tactic| walk_at "wp") => `(tactic| try simp only [L2.My.Wp.ok_bind, L2.My.Wp.bind_ok, L2.My.Wp.bind_assoc, L2.My.Wp.req_bind, L2.My.Wp.bind_out, L2.My.Wp.ret_out, L2.My.Wp.raise_bind, L2.My.Wp.raise_out, L2.My.Wp.req_out, L2.My.Wp.bind_seq, L2.My.Wp.ok_seq, L2.My.Wp.ret_seq, L2.My.Wp.req_seq, L2.My.Wp.bind_up, L2.My.Wp.ret_up, L2.My.Wp.brk_up, L2.My.Wp.cnt_up, L2.My.Wp.req_up, L2.My.Wp.raise_up, L2.My.Wp.nox_ok, L2.My.Wp.nox_bind, L2.My.Wp.nox_req, L2.My.Wp.nox_get, L2.My.Wp.nox_nox, L2.My.Wp.ap, Lw.mkQ_self])
namespace Lw
open PySem PySem.Spec PyProof.Rows L2 L2.My
end Lw
namespace L2.My
open PySem PySem.Spec PyProof.Rows L2
section
variable {α σ τ S L R : Type} {K : PySem.W.Frag} {E X : ZK K} {te ti tp : TE} {tt : TT} {ts tw tu : TS} {Γ : List Cn} {r : RT α} {F H : Hp} {i j t : Nat} {G : S → List Cn} {GL : L → List Cn} {rr : RR R} {m : MT σ}
def Pth (K : PySem.W.Frag) (tp : TE) (Γ : List Cn) (j : Nat) (mj : MT σ) (mi : MT τ) (x : τ) (rb : τ → σ) : Prop :=
  ∀ F H σ' fps (Q : VK), Ext F H → Hol Γ F H fps σ' → (∀ v fp fp1 v0 F' H', Nx [] F H F' H' → fps[j]? = some fp → σ'[j]? = some (some v0) → mi.rel F' H' fp1 v x → (∀ a ∈ fp1, a ∈ fp) →
    (∀ F2 H2 y fp1', Nz fp1 F' H' F2 H2 → mi.rel F2 H2 fp1' v y → (∀ a ∈ fp1', a ∈ fp1 ∨ H' a = none) → ∃ fp', mj.rel F2 H2 fp' v0 (rb y) ∧ ∀ a ∈ fp', a ∈ fp ∨ H a = none) → Q v H') → tp σ' H Q
end
end L2.My
namespace Lw
end Lw
set_option exponentiation.threshold 20000
local macro_rules | `(tactic| walk_at "wp") => `(tactic| try simp only [L2.My.Wp.ok_bind, L2.My.Wp.bind_ok, L2.My.Wp.bind_assoc, L2.My.Wp.req_bind, L2.My.Wp.bind_out, L2.My.Wp.ret_out, L2.My.Wp.raise_bind, L2.My.Wp.raise_out, L2.My.Wp.req_out, L2.My.Wp.bind_seq, L2.My.Wp.ok_seq, L2.My.Wp.ret_seq, L2.My.Wp.req_seq, L2.My.Wp.bind_up, L2.My.Wp.ret_up, L2.My.Wp.brk_up, L2.My.Wp.cnt_up, L2.My.Wp.req_up, L2.My.Wp.raise_up, L2.My.Wp.nox_ok, L2.My.Wp.nox_bind, L2.My.Wp.nox_req, L2.My.Wp.nox_get, L2.My.Wp.nox_nox, L2.My.Wp.ap, Lw.mkQ_self])
namespace Lw
open PySem PySem.Spec PyProof.Rows L2 L2.My
end Lw
namespace L2.My
open PySem PySem.Spec PyProof.Rows L2
section
variable {α σ τ S L R : Type} {K : PySem.W.Frag} {E X : ZK K} {te ti tp : TE} {ts tw tu : TS} {Γ : List Cn} {r : RT α} {F H : Hp} {i j t : Nat} {G : S → List Cn} {GL : L → List Cn} {rr : RR R} {mj : MT σ} {mi : MT τ} {s : σ}
theorem nz_nx {M : List Addr} {F1 H1 F2 H2 F3 H3 : Hp} (n : Nx [] F1 H1 F2 H2) (z : Nz M F2 H2 F3 H3) : Nz M F1 H1 F3 H3 := ⟨n.ff.trans z.ff, z.fh, fun b o hb h => z.keep b o hb (n.keep b o (by simp) h), fun b hb h1 h2 => z.out b hb (n.out b h1 h2) (n.dom b h2), fun b h => z.dom b (n.dom b h)⟩
end
end L2.My
namespace Lw
end Lw
set_option exponentiation.threshold 20000
local macro_rules | `(tactic| walk_at "wp") => `(tactic| try simp only [L2.My.Wp.ok_bind, L2.My.Wp.bind_ok, L2.My.Wp.bind_assoc, L2.My.Wp.req_bind, L2.My.Wp.bind_out, L2.My.Wp.ret_out, L2.My.Wp.raise_bind, L2.My.Wp.raise_out, L2.My.Wp.req_out, L2.My.Wp.bind_seq, L2.My.Wp.ok_seq, L2.My.Wp.ret_seq, L2.My.Wp.req_seq, L2.My.Wp.bind_up, L2.My.Wp.ret_up, L2.My.Wp.brk_up, L2.My.Wp.cnt_up, L2.My.Wp.req_up, L2.My.Wp.raise_up, L2.My.Wp.nox_ok, L2.My.Wp.nox_bind, L2.My.Wp.nox_req, L2.My.Wp.nox_get, L2.My.Wp.nox_nox, L2.My.Wp.ap, Lw.mkQ_self])
namespace Lw
open PySem PySem.Spec PyProof.Rows L2 L2.My
end Lw
namespace L2.My
open PySem PySem.Spec PyProof.Rows L2
section
variable {α σ S S' L R σt : Type} {K : PySem.W.Frag} {E X : ZK K} {te : TE} {tt : TT} {ts tw tu : TS} {Γ : List Cn} {r r1 r2 : RT σ} {F H : Hp} {i j t : Nat} {G : S → List Cn} {GL : L → List Cn} {rr : RR R} {m : MT σ} {mt : MT σt}
def mEi (m : MT σ) (r : RT σ) : MT (Bool × σ) where
  rel := fun F H fp v x => (x.1 = true ∧ m.rel F H fp v x.2) ∨ (x.1 = false ∧ fp = [] ∧ r.rel F v x.2)
  dom := fun h a ha => by
    rcases h with h | h
    · exact m.dom h.2 a ha
    · rw [h.2.1] at ha; cases ha
  frame := fun h n hM => by
    rcases h with h | h
    · exact .inl ⟨h.1, m.frame h.2 n hM⟩
    · exact .inr ⟨h.1, h.2.1, r.mono n.ff h.2.2⟩
def rSnd (r : RT σ) : RT (Bool × σ) := ⟨fun F v x => r.rel F v x.2, fun e h => r.mono e h⟩
def tWh (r : RT σ) (w : V) (xs : σ) : RT Bool := ⟨fun F v b => (b = true ∧ v = w) ∨ (b = false ∧ r.rel F v xs), fun e h => by
  rcases h with h | h
  · exact .inl h
  · exact .inr ⟨h.1, r.mono e h.2⟩⟩
theorem sv_req {p : Prop} {mb : Wp (Fl S L R)} (h : p → Sv K X ts Γ G GL rr mb) : Sv K X ts Γ G GL rr (.req p mb) := by
  intro D F H σ' fps e hol hm
  exact h hm.1 D F H σ' fps e hol hm.2
def Lad {α : Type} (x : List (List (List (List α)))) : Prop := ∃ R A x0 L l L0, x = (R :: A) :: x0 ∧ R.getLast? = some L ∧ L = l :: L0 ∧ (∀ y ∈ R, y.length < 16777215) ∧ x.length < 16777215 ∧ ∀ B ∈ x, B.length < 16777215 ∧ ∀ C ∈ B, C.length < 16777215
end
end L2.My
namespace Lw
end Lw
set_option exponentiation.threshold 20000
local macro_rules | `(tactic| walk_at "wp") => `(tactic| try simp only [L2.My.Wp.ok_bind, L2.My.Wp.bind_ok, L2.My.Wp.bind_assoc, L2.My.Wp.req_bind, L2.My.Wp.bind_out, L2.My.Wp.ret_out, L2.My.Wp.raise_bind, L2.My.Wp.raise_out, L2.My.Wp.req_out, L2.My.Wp.bind_seq, L2.My.Wp.ok_seq, L2.My.Wp.ret_seq, L2.My.Wp.req_seq, L2.My.Wp.bind_up, L2.My.Wp.ret_up, L2.My.Wp.brk_up, L2.My.Wp.cnt_up, L2.My.Wp.req_up, L2.My.Wp.raise_up, L2.My.Wp.nox_ok, L2.My.Wp.nox_bind, L2.My.Wp.nox_req, L2.My.Wp.nox_get, L2.My.Wp.nox_nox, L2.My.Wp.ap, Lw.mkQ_self])
namespace Lw
open PySem PySem.Spec PyProof.Rows L2 L2.My
end Lw
namespace L2.My
open PySem PySem.Spec PyProof.Rows L2
section
variable {α S L R : Type} {K : PySem.W.Frag} {E : ZK K} {te1 te2 te3 te4 te5 t1 t2 t3 t4 t5 t6 t7 t8 t9 ta : TE} {tu : TS} {Γ : List Cn} {r : RT α} {j : Nat} {G : S → List Cn} {GL : L → List Cn} {rr : RR R}
end
end L2.My
namespace Lw
end Lw
set_option exponentiation.threshold 20000
local macro_rules | `(tactic| walk_at "wp") => `(tactic| try simp only [L2.My.Wp.ok_bind, L2.My.Wp.bind_ok, L2.My.Wp.bind_assoc, L2.My.Wp.req_bind, L2.My.Wp.bind_out, L2.My.Wp.ret_out, L2.My.Wp.raise_bind, L2.My.Wp.raise_out, L2.My.Wp.req_out, L2.My.Wp.bind_seq, L2.My.Wp.ok_seq, L2.My.Wp.ret_seq, L2.My.Wp.req_seq, L2.My.Wp.bind_up, L2.My.Wp.ret_up, L2.My.Wp.brk_up, L2.My.Wp.cnt_up, L2.My.Wp.req_up, L2.My.Wp.raise_up, L2.My.Wp.nox_ok, L2.My.Wp.nox_bind, L2.My.Wp.nox_req, L2.My.Wp.nox_get, L2.My.Wp.nox_nox, L2.My.Wp.ap, Lw.mkQ_self])
namespace Lw
open PySem PySem.Spec PyProof.Rows L2 L2.My
end Lw
namespace L2.My
open PySem PySem.Spec PyProof.Rows L2
def mAd {τ : Type} (m : MT τ) : MT (Addr × τ) := ⟨fun F H fp v x => v = .ref x.1 ∧ m.rel F H fp v x.2, fun h => m.dom h.2, fun h n hM => ⟨h.1, m.frame h.2 n hM⟩⟩
section
variable {α β γ σ τ ρ S L R : Type} {K : PySem.W.Frag} {E X : ZK K} {te tp : TE} {tr : TA} {ts tuS : TS} {Γ : List Cn} {r : RT β} {F H : Hp} {i j t : Nat} {G : S → List Cn} {GL : L → List Cn} {rr : RR R} {C : Addr} {mj : MT σ}
theorem pth_le {m' mt : MT σ} {x : σ} (hj : Cn.get Γ j = some (.mut m' x)) (hle : MtLe m' mt) : Pth K (tVar j) Γ j m' mt x id := by
  intro F H σ' fps Q e hol hq
  obtain ⟨fp, o, h1, h2, v, rfl, h3⟩ := hol.get hj
  exact ⟨v, h2, hq v fp fp v F H (Nx.refl e) h1 h2 (hle.to h3) (fun _ h => h) fun F2 H2 y fp1' _ hy hn => ⟨fp1', hle.back h3 hy, hn⟩⟩
theorem pth_fld {d : MDs τ} {n : Str} {mi : MT ρ} {g : τ → ρ} {s : τ → ρ → τ} {x : τ} {rb : τ → σ} (hp : Pth K tp Γ j mj (mObj C d) x rb) (c : Cls K C) (na : NoAttr K C n) (hf : MuL d n mi g s) : Pth K (tFld K tp n) Γ j mj mi (g x) (fun y => rb (s x y)) := by
  intro F H σ' fps Q e hol hq
  refine hp F H σ' fps _ e hol fun v fp fp1 v0 F1 H1 n1 q1 q2 q3 q4 q5 => ?_
  obtain ⟨p, dx, fs, fp0, rfl, rfl, hp0, h5, h6, h7⟩ := q3
  obtain ⟨u, fpu, h8, h9, h10, h11⟩ := hf.at_ h7
  refine ⟨p, C, dx, fs, u, rfl, h5, c, na, h8, hq u fp fpu v0 F1 H1 n1 q1 q2 h9 (fun a ha => q4 a (List.mem_cons_of_mem _ (h10 a ha))) fun F2 H2 y fp1' nz hy hn => ?_⟩
  obtain ⟨fp', h12, h13⟩ := h11 F2 H2 fp1' y nz hy hn
  have np : p ∉ fpu := fun z => hp0 (h10 p z)
  have np' : p ∉ fp' := fun z => by
    rcases h13 p z with q | q
    · exact hp0 q
    · rw [h5] at q; cases q
  have nz' : Nz (p :: fp0) F1 H1 F2 H2 := nz.weak fun a ha => List.mem_cons_of_mem _ (h10 a ha)
  exact q5 F2 H2 (s x y) (p :: fp') nz' ⟨p, dx, fs, fp', rfl, rfl, np', nz.keep p _ np h5, nz.out p np h6 (by rw [h5]; simp), h12⟩ fun a ha => by
    rcases List.mem_cons.mp ha with rfl | ha
    · exact .inl (by simp)
    · rcases h13 a ha with z | z
      · exact .inl (List.mem_cons_of_mem _ z)
      · exact .inr z
theorem pth_ad {mi : MT ρ} {x : Addr × ρ} {rb : Addr × ρ → σ} (hp : Pth K tp Γ j mj (mAd mi) x rb) : Pth K tp Γ j mj mi x.2 (fun y => rb (x.1, y)) := by
  intro F H σ' fps Q e hol hq
  refine hp F H σ' fps _ e hol fun v fp fp1 v0 F1 H1 n1 q1 q2 q3 q4 q5 => ?_
  exact hq v fp fp1 v0 F1 H1 n1 q1 q2 q3.2 q4 fun F2 H2 y fp1' nz hy hn => q5 F2 H2 (x.1, y) fp1' nz ⟨q3.1, hy⟩ hn
theorem pth_alias {d : MDs σ} {m' : MT σ} {n : Str} {mi : MT ρ} {g : σ → Addr × ρ} {s : σ → Addr × ρ → σ} {x : σ} {q : Addr} (ht : Cn.get Γ t = some (.mut (mRef (.ref q)) ())) (hj : Cn.get Γ j = some (.mut m' x)) (hle : MtLe m' (mObj C d)) (hf : MuL d n (mAd mi) g s) (hq0 : (g x).1 = q) :
    Pth K (tVar t) Γ j m' mi (g x).2 (fun y => s x ((g x).1, y)) := by
  intro F H σ' fps Q e hol hq
  obtain ⟨fpt, ot, _, t2, vt, rfl, _, t4⟩ := hol.get ht
  obtain ⟨fp, o, h1, h2, v, rfl, h3⟩ := hol.get hj
  obtain ⟨p, dx, fs, fp0, rfl, rfl, hp0, h5, h6, h7⟩ := hle.to h3
  obtain ⟨u, fpu, h8, h9, h10, h11⟩ := hf.at_ h7
  have eu : u = .ref q := by rw [h9.1, hq0]
  refine ⟨vt, t2, ?_⟩
  rw [t4]
  refine hq (.ref q) (p :: fp0) fpu (.ref p) F H (Nx.refl e) h1 h2 (by rw [← eu]; exact h9.2) (fun a ha => List.mem_cons_of_mem _ (h10 a ha)) fun F2 H2 y fp1' nz hy hn => ?_
  obtain ⟨fp', h12, h13⟩ := h11 F2 H2 fp1' ((g x).1, y) nz ⟨h9.1, by rw [eu]; exact hy⟩ hn
  have np : p ∉ fpu := fun z => hp0 (h10 p z)
  have np' : p ∉ fp' := fun z => by
    rcases h13 p z with q | q
    · exact hp0 q
    · rw [h5] at q; cases q
  exact ⟨p :: fp', hle.back h3 ⟨p, dx, fs, fp', rfl, rfl, np', nz.keep p _ np h5, nz.out p np h6 (by rw [h5]; simp), h12⟩, fun a ha => by
    rcases List.mem_cons.mp ha with rfl | ha
    · exact .inl (by simp)
    · rcases h13 a ha with z | z
      · exact .inl (List.mem_cons_of_mem _ z)
      · exact .inr z⟩
theorem evp_fldP2 {d : MDs τ} {n : Str} {g : τ → β} {s : τ → β → τ} {x : τ} {rb : τ → σ} (hp : Pth K tp Γ j mj (mObj C d) x rb) (c : Cls K C) (na : NoAttr K C n) (hf : FrL d n r g s) : EvP K E (tFld K tp n) Γ r (.ok (g x)) := by
  intro F H σ' fps Q e hol hm
  refine hp F H σ' fps _ e hol fun v fp fp1 v0 F1 H1 n1 q1 q2 q3 q4 q5 => ?_
  obtain ⟨p, dx, fs, fp0, rfl, rfl, hp0, h5, h6, h7⟩ := q3
  obtain ⟨u, h8, h9, _⟩ := hf.at_ h7
  exact ⟨p, C, dx, fs, u, rfl, h5, c, na, h8, hm _ F1 H1 n1 h9⟩
theorem evs_methP {d : MDs τ} {n : Str} {x : τ} {rb : τ → σ} (hp : Pth K tp Γ j mj (mObj C d) x rb) (hn : n ∉ d.names) {ra : RA α} {f : τ → α → Wp (β × τ)} {m : Wp α} (ha : EvA K E tr Γ ra m) :
    EvS K E (tMeth C n (spS K (mObj C d) ra r f) [] E.X tp tr) Γ j mj r (m.bind fun a => (f x a).bind fun y => .ok (y.1, rb y.2)) := by
  intro F H σ' fps Q e hol hm
  refine hp F H σ' fps _ e hol fun v fp fp1 v0 F1 H1 n1 q1 q2 q3 q4 q5 => ?_
  have q3' := q3
  obtain ⟨p, dx, fs, fp0, rfl, rfl, hp0, h5, h6, h7⟩ := q3
  refine ⟨p, dx, fs, rfl, h5, MDs.no h7 hn, ha F1 H1 σ' fps _ n1.fh (hol.nx n1) (m.mono (fun a hm => ?_) (fun _ z => E.step (⟨n1.nil.nz, by simp⟩ : Stp fps.flatten F H [] F1 H1) z) hm)⟩
  intro vs F2 H2 n2 hv
  have q6 := (mObj C d).frame q3' n2.nz (by simp)
  refine ⟨F2, _, vs, p :: fp0, x, a, by rw [List.append_nil], n2.fh, q6, hv, (f x a).mono (fun y hy => ?_) (fun er he => ?_) hm⟩
  · intro u F3 H3 fp3 s3 hs hu
    obtain ⟨fp', h12, h13⟩ := q5 F3 H3 y.2 fp3 (nz_nx n2 s3.n) hs (fun b hb => by
      rcases s3.new b hb with z | z
      · exact .inl z
      · exact .inr (Decidable.byContradiction fun w => n2.dom b w z))
    have st : Stp fp F H fp' F3 H3 := ⟨(nz_nx (n1.trans n2) s3.n).weak q4, h13⟩
    obtain ⟨s4, hol4⟩ := hol.upd (c := .mut mj (rb y.2)) q1 q2 st ⟨v0, rfl, h12⟩
    exact hy u F3 H3 _ s4 hol4 hu
  · intro cls dd F3 H3 M3 s3 he'
    have w : Stp fps.flatten F H [] F3 H3 := ⟨(nz_nx (n1.trans n2) s3.n).weak fun b hb => List.mem_flatten.mpr ⟨fp, List.mem_of_getElem? q1, q4 b hb⟩, by simp⟩
    exact E.es he e _ _ _ _ _ w he'
theorem sv_augP {d : MDs τ} {n : Str} {g : τ → β} {s : τ → β → τ} {x : τ} {rb : τ → σ} {r' : RT γ} {rd : V → V → Hp → VK → Prop} {f : β → γ → Wp β} {m : Wp γ} {k : β → Wp (Fl S L R)} (hp : Pth K tp Γ j mj (mObj C d) x rb) (c : Cls K C) (na : NoAttr K C n) (hf : FrL d n r g s) (hl : d.names.length < 1000)
    (ho : OpV K X rd r r' r f) (h : EvP K X te Γ r' m) (hk : ∀ y, Sv K X tuS (Cn.put Γ j (.mut mj (rb (s x y)))) G GL rr (k y)) : Sv K X (tSeq (sFldAug K tp te rd n) tuS) Γ G GL rr (m.bind fun y => (f (g x) y).bind k) := by
  intro D F H σ' fps e hol hm
  refine hp F H σ' fps _ e hol fun v fp fp1 v0 F0 H0 n0 q1 q2 q3 q4 q5 => ?_
  have q3' := q3
  obtain ⟨p, dx, fs, fp0, rfl, rfl, hp0, h5, h6, h7⟩ := q3
  obtain ⟨w, h8, h9, _⟩ := hf.at_ h7
  have st0 := stp_nx (fps := fps) n0
  refine ⟨p, C, dx, fs, w, rfl, h5, c, na, h8, h F0 H0 σ' fps _ n0.fh (hol.nx n0) (m.mono (fun y hm => ?_) (fun _ z => X.down n0.fh (X.step st0 z)) hm)⟩
  intro u F1 H1 nx hu
  have st1 := st0.trans (stp_nx (fps := fps) nx)
  refine ho F1 H1 w u (g x) y _ σ' nx.fh (r.mono nx.ff h9) hu ((f (g x) y).mono (fun z hm => ?_) (fun _ he => X.down nx.fh (X.step st1 he)) hm)
  intro zv F2 H2 nx2 hz
  have nx12 := nx.trans nx2
  have h5' := nx12.keep p _ (by simp) h5
  have h6' := nx12.out p h6 (by rw [h5]; simp)
  have h7' := d.frame h7 nx12.nz (by simp)
  obtain ⟨_, _, _, h10⟩ := hf.at_ h7'
  have hlen := congrArg List.length (d.nm h7)
  rw [List.length_map] at hlen
  refine ⟨dx, fs, h5', by omega, ?_⟩
  have n2 : Nz [p] F2 H2 F2 (upd H2 p (.ins C dx (putF n zv fs))) := ((Nx.refl nx2.fh : Nx [p] F2 H2 F2 H2).mut (.inl (by simp)) h6').nz
  have hin : (mObj C d).rel F2 (upd H2 p (.ins C dx (putF n zv fs))) (p :: fp0) (.ref p) (s x z) := ⟨p, dx, _, fp0, rfl, rfl, hp0, upd_same, h6', d.frame (h10 zv z hz) n2 fun a ha q => hp0 (by rw [List.mem_singleton] at q; rw [← q]; exact ha)⟩
  have nzz : Nz (p :: fp0) F0 H0 F2 (upd H2 p (.ins C dx (putF n zv fs))) := nz_nx nx12 (n2.weak (by simp))
  obtain ⟨fp', h12, h13⟩ := q5 F2 _ (s x z) (p :: fp0) nzz hin fun a ha => .inl ha
  have st : Stp fp F H fp' F2 (upd H2 p (.ins C dx (putF n zv fs))) := ⟨nz_nx n0 (nzz.weak q4), h13⟩
  obtain ⟨s3, hol3⟩ := hol.upd (c := .mut mj (rb (s x z))) q1 q2 st ⟨v0, rfl, h12⟩
  exact hk z D F2 _ σ' _ s3.fh hol3 (Wp.mst s3 hm)
end
end L2.My
namespace Lw
end Lw
set_option exponentiation.threshold 20000
local macro_rules | `(tactic| walk_at "wp") => `(tactic| try simp only [L2.My.Wp.ok_bind, L2.My.Wp.bind_ok, L2.My.Wp.bind_assoc, L2.My.Wp.req_bind, L2.My.Wp.bind_out, L2.My.Wp.ret_out, L2.My.Wp.raise_bind, L2.My.Wp.raise_out, L2.My.Wp.req_out, L2.My.Wp.bind_seq, L2.My.Wp.ok_seq, L2.My.Wp.ret_seq, L2.My.Wp.req_seq, L2.My.Wp.bind_up, L2.My.Wp.ret_up, L2.My.Wp.brk_up, L2.My.Wp.cnt_up, L2.My.Wp.req_up, L2.My.Wp.raise_up, L2.My.Wp.nox_ok, L2.My.Wp.nox_bind, L2.My.Wp.nox_req, L2.My.Wp.nox_get, L2.My.Wp.nox_nox, L2.My.Wp.ap, Lw.mkQ_self])
namespace Lw
open PySem PySem.Spec PyProof.Rows L2 L2.My
end Lw
namespace L2.My
open PySem PySem.Spec PyProof.Rows L2
def Wp.allA {β : Type} (k : Addr → Wp β) : Wp β := ⟨fun A B => ∀ q, (k q).run A B, fun ha hb h q => (k q).mono ha hb (h q)⟩
section
variable {α β γ σ τ ρ S L R : Type} {K : PySem.W.Frag} {E X : ZK K} {te tp ta : TE} {tr : TA} {ts tuS : TS} {Γ : List Cn} {r : RT β} {F H F' H' : Hp} {i j t : Nat} {G : S → List Cn} {GL : L → List Cn} {rr : RR R} {C C2 : Addr}
theorem tru_tx : TruOk K tTx fun x => decide (x.length ≠ 0) := fun F H v x e h => by
  obtain ⟨rfl, h1, h2⟩ := h
  refine ⟨by rw [sizeLine_eq]; omega, ?_⟩
  show decide (x.length ≠ 0) = (((x.length : Nat) : Int) != 0)
  by_cases c : x.length = 0
  · rw [c]; rfl
  · rw [decide_eq_true (show x.length ≠ 0 from c)]
    have : ((x.length : Nat) : Int) ≠ 0 := by omega
    exact (bne_iff_ne.mpr this).symm
theorem opv_eqOS : OpV K E rEq (tOpt tTx) tTx tBool fun a b => .ok (decide (a = some b)) := by
  rintro F H v w a b Q σ e h ⟨rfl, _⟩ hm
  cases a with
  | none =>
    rw [show v = .non from h]
    exact ⟨rfl, hm _ F H (Nx.refl e) (by show V.bl _ = V.bl _; simp)⟩
  | some s =>
    obtain ⟨rfl, _⟩ := (show tTx.rel F v s from h)
    exact ⟨rfl, hm _ F H (Nx.refl e) (by show V.bl _ = V.bl _; simp)⟩
theorem opv_subA : OpV K E rSub tInt tInt tInt fun a b => .ok (a - b) := by
  rintro F H v w a b Q σ e rfl rfl hm
  exact ⟨a, b, rfl, rfl, hm _ F H (Nx.refl e) rfl⟩
structure MuL2 (d : MDs σ) (n1 n2 : Str) (m1 : MT β) (m2 : MT γ) (g1 : σ → β) (g2 : σ → γ) (s : σ → β → γ → σ) : Prop where
  at_ : ∀ {F H fp fs x}, d.rel F H fp fs x → ∃ v1 v2 fp1 fp2, fs.lookup n1 = some v1 ∧ fs.lookup n2 = some v2 ∧ m1.rel F H fp1 v1 (g1 x) ∧ m2.rel F H fp2 v2 (g2 x) ∧ (∀ a ∈ fp1, a ∉ fp2) ∧ (∀ a ∈ fp1, a ∈ fp) ∧ (∀ a ∈ fp2, a ∈ fp) ∧
    ∀ F' H' fp1' fp2' y z, Nz (fp1 ++ fp2) F H F' H' → m1.rel F' H' fp1' v1 y → m2.rel F' H' fp2' v2 z → (∀ a ∈ fp1', a ∈ fp1 ∨ H a = none) → (∀ a ∈ fp2', a ∈ fp2 ∨ H a = none) → (∀ a ∈ fp1', a ∉ fp2') → ∃ fp', d.rel F' H' fp' fs (s x y z) ∧ ∀ a ∈ fp', a ∈ fp ∨ H a = none
theorem MuL2.here {n1 n2 : Str} {m1 : MT β} {m2 : MT γ} (hn : n1 ≠ n2) : MuL2 (mdM (mdM mdN n1 m1) n2 m2) n1 n2 m1 m2 (fun x => x.1.2) (fun x => x.2) (fun x y z => ((x.1.1, y), z)) := ⟨fun {F H fp fs x} h => by
  obtain ⟨fs0, v2, fp0, fp2, rfl, rfl, hd, ⟨fs1, v1, fp3, fp1, rfl, rfl, hd1, ⟨rfl, rfl⟩, h1⟩, h2⟩ := h
  have hl : ((n1, v1) :: [(n2, v2)]).lookup n2 = some v2 := by
    simp only [List.lookup, beq_eq_false_iff_ne.mpr (Ne.symm hn), beq_self_eq_true]
  refine ⟨v1, v2, fp1, fp2, by simp [List.lookup], hl, h1, h2, fun a ha => hd a (by simp [ha]), fun a ha => by simp [ha], fun a ha => by simp [ha], fun F' H' fp1' fp2' y z nz hy hz w1 w2 w3 => ⟨fp1' ++ fp2', ⟨[(n1, v1)], v2, fp1', fp2', rfl, rfl, w3, ⟨[], v1, [], fp1', rfl, rfl, by simp, ⟨rfl, rfl⟩, hy⟩, hz⟩, fun a ha => ?_⟩⟩
  rcases List.mem_append.mp ha with ha | ha
  · rcases w1 a ha with q | q
    · exact .inl (by simp [q])
    · exact .inr q
  · rcases w2 a ha with q | q
    · exact .inl (by simp [q])
    · exact .inr q⟩
theorem MuL2.thereF {d : MDs α} {n1 n2 n' : Str} {m1 : MT β} {m2 : MT γ} {r' : RT ρ} {g1 : α → β} {g2 : α → γ} {s : α → β → γ → α} (h : MuL2 d n1 n2 m1 m2 g1 g2 s) : MuL2 (mdF d n' r') n1 n2 m1 m2 (fun x => g1 x.1) (fun x => g2 x.1) (fun x y z => (s x.1 y z, x.2)) := ⟨fun {F H fp fs x} h0 => by
  obtain ⟨fs0, v, rfl, h2, h3⟩ := h0
  obtain ⟨v1, v2, fp1, fp2, q1, q2, q3, q4, q5, q6, q7, q8⟩ := h.at_ h2
  refine ⟨v1, v2, fp1, fp2, lookup_app q1, lookup_app q2, q3, q4, q5, q6, q7, fun F' H' fp1' fp2' y z nz hy hz w1 w2 w3 => ?_⟩
  obtain ⟨fp', h8, h9⟩ := q8 F' H' fp1' fp2' y z nz hy hz w1 w2 w3
  exact ⟨fp', ⟨fs0, v, rfl, h8, r'.mono nz.ff h3⟩, h9⟩⟩
theorem sv_appNew {d : MDs σ} {m' : MT σ} {n1 n2 nm : Str} {d2 : MDs τ} {g1 : σ → Addr × τ} {g2 : σ → List Str} {s : σ → Addr × τ → List Str → σ} {x : σ} {q : Addr} {XX : XK} {T : String} {f : τ → List Str → Wp (Str × τ)} {k : Str × τ → Wp (Fl S L R)}
    (hj : Cn.get Γ j = some (.mut m' x)) (ht : Cn.get Γ t = some (.mut (mRef (.ref q)) ())) (hle : MtLe m' (mObj C d)) (c : Cls K C) (na : NoAttr K C n2) (hf : MuL2 d n1 n2 (mAd (mObj C2 d2)) (mL tTx) g1 g2 s) (hq0 : (g1 x).1 = q) (hn : nm ∉ d2.names) (hfr : FreD d2) (hT : T = "list")
    (hk : ∀ y : Str × τ, Sv K (zk K XX) tuS (Cn.put Γ j (.mut m' (s x ((g1 x).1, y.2) (g2 x ++ [y.1])))) G GL rr (k y)) :
    Sv K (zk K XX) (tSeq (tDrop (tBM K T rAppend (tFld K (tVar j) n2) (tCons (tMeth C2 nm (spS K (mObj C2 d2) (raC (lS tTx) raN) tTx (fun s a => f s a.1)) [] (zk K XX).X (tVar t) (tCons (tFld K (tVar j) n2) tNil)) tNil))) tuS) Γ G GL rr
      ((f (g1 x).2 (g2 x)).bind fun y => .req ((g2 x).length < 16777215) (k y)) := by
  subst hT
  intro D F H σ' fps e hol hm
  obtain ⟨fp, o, h1, h2, v, rfl, h3⟩ := hol.get hj
  obtain ⟨fpt, ot, _, t2, vt, rfl, _, t4⟩ := hol.get ht
  obtain ⟨p, dx, fs, fp0, rfl, rfl, hp0, h5, h6, h7⟩ := hle.to h3
  obtain ⟨v1, v2, fp1, fp2, q1, q2, q3, q4, q5, q6, q7, q8⟩ := hf.at_ h7
  obtain ⟨a, ws, rfl, rfl, ha, haF, al, hlen⟩ := q4
  obtain ⟨q31, q32⟩ := q3
  have e1 : v1 = .ref q := by rw [q31, hq0]
  subst e1
  have ha1 : a ∉ fp1 := fun z => q5 a z (by simp)
  have hap : a ∈ fp0 := q7 a (by simp)
  obtain ⟨p2, dx2, fs2, fp3, e3, rfl, hp3, r5, r6, r7⟩ := id q32
  cases e3
  refine ⟨_, h2, p, C, dx, fs, _, rfl, h5, c, na, q2, .inl ⟨rfl, ws, SqL.of ha⟩, ⟨vt, t2, ?_⟩⟩
  subst t4
  refine ⟨q, dx2, fs2, rfl, r5, MDs.no r7 hn, ?_⟩
  refine ⟨_, h2, p, C, dx, fs, _, rfl, h5, c, na, q2, ?_⟩
  -- the list is frozen while the method runs
  have eF : Ext F (upd F a (.lst ws)) := Ext.upd haF
  have eH : Ext (upd F a (.lst ws)) H := fun b u hb => by
    by_cases z : b = a
    · subst z; rw [upd_same] at hb; cases hb; exact ha
    · rw [upd_ne z] at hb; exact e _ _ hb
  have n0 : Nz [a] F H (upd F a (.lst ws)) H := ⟨eF, eH, fun _ _ _ h => h, fun b hb h _ => by rw [upd_ne (by simpa using hb)]; exact h, fun _ h => h⟩
  have rel0 : (mObj C2 d2).rel (upd F a (.lst ws)) H (q :: fp3) (.ref q) (g1 x).2 := (mObj C2 d2).frame q32 n0 fun b hb z => by
    rw [List.mem_singleton] at z; subst z; exact ha1 hb
  have arg0 : (lS tTx).rel (upd F a (.lst ws)) (.ref a) (g2 x) := ⟨⟨a, ws, rfl, .inl upd_same, al.mono eF⟩, hlen⟩
  -- back: the list is open again
  have un : ∀ F1 : Hp, (fun b => if b = a then none else F1 b) = (fun b => if b = a then none else F1 b) := fun _ => rfl
  have key : ∀ {M1 : List Addr} {F1 H1 : Hp}, Stp (q :: fp3) (upd F a (.lst ws)) H M1 F1 H1 → Nz (q :: fp3) F H (fun b => if b = a then none else F1 b) H1 ∧ NoL F1 (fun b => if b = a then none else F1 b) ∧ H1 a = some (.lst ws) := fun {M1 F1 H1} st => by
    have k1 : F1 a = some (.lst ws) := st.n.ff a _ upd_same
    refine ⟨⟨fun b u hb => ?_, fun b u hb => ?_, st.n.keep, fun b hb hF hH => ?_, st.n.dom⟩, ⟨fun b u hb hne => ?_, fun b hb => ?_⟩, st.n.fh a _ k1⟩
    · have nb : b ≠ a := fun z => by rw [z, haF] at hb; cases hb
      show (if b = a then none else F1 b) = _
      rw [if_neg nb]
      exact st.n.ff b u (by rw [upd_ne nb]; exact hb)
    · have hb : (if b = a then none else F1 b) = some u := hb
      by_cases z : b = a
      · rw [if_pos z] at hb; cases hb
      · rw [if_neg z] at hb; exact st.n.fh b u hb
    · show (if b = a then none else F1 b) = none
      by_cases z : b = a
      · rw [if_pos z]
      · rw [if_neg z]
        exact st.n.out b hb (by rw [upd_ne z]; exact hF) hH
    · show (if b = a then none else F1 b) = some u
      have nb : b ≠ a := fun z => by
        subst z
        rw [k1] at hb
        exact hne ws (Option.some.inj hb).symm
      rw [if_neg nb]; exact hb
    · show (if b = a then none else F1 b) = none
      rw [hb]; split <;> rfl
  refine ⟨upd F a (.lst ws), _, [.ref a], q :: fp3, (g1 x).2, (g2 x, ()), by rw [List.append_nil], eH, rel0, ⟨_, [], rfl, arg0, rfl⟩, (f (g1 x).2 (g2 x)).mono (fun y hm => ?_) (fun er he => ?_) hm⟩
  · intro u F1 H1 fp1' s1 hs hu
    obtain ⟨nz1, nl, ha2⟩ := key s1
    have hs' : (mObj C2 d2).rel (fun b => if b = a then none else F1 b) H1 fp1' (.ref q) y.2 := (freM_obj hfr).go nl hs
    have hu' : tTx.rel (fun b => if b = a then none else F1 b) u y.1 := hu
    obtain ⟨hmlt, hm⟩ := hm
    have hll := al.length
    refine ⟨a, ws, u, rfl, rfl, ha2, by rw [sizeLine_eq]; omega, ?_⟩
    have n2 : Nz [a] (fun b => if b = a then none else F1 b) H1 (fun b => if b = a then none else F1 b) (upd H1 a (.lst (ws ++ [u]))) := ((Nx.refl nz1.fh : Nx [a] _ H1 _ H1).mut (.inl (by simp)) (by show (if a = a then none else F1 a) = none; rw [if_pos rfl])).nz
    have na1 : a ∉ fp1' := fun z => by
      rcases s1.new a z with w | w
      · exact ha1 w
      · rw [ha] at w; cases w
    have hs2 := (mObj C2 d2).frame hs' n2 fun b hb z => by
      rw [List.mem_singleton] at z; subst z; exact na1 hb
    have hnames : (mL tTx).rel (fun b => if b = a then none else F1 b) (upd H1 a (.lst (ws ++ [u]))) [a] (.ref a) (g2 x ++ [y.1]) := ⟨a, _, rfl, rfl, upd_same, by show (if a = a then none else F1 a) = none; rw [if_pos rfl], (al.mono nz1.ff).snoc hu', by rw [List.length_append]; simp; omega⟩
    have nzz : Nz ((q :: fp3) ++ [a]) F H (fun b => if b = a then none else F1 b) (upd H1 a (.lst (ws ++ [u]))) := by
      refine ⟨nz1.ff.trans n2.ff, n2.fh, fun b w hb hh => ?_, fun b hb h h' => ?_, fun b h => n2.dom b (nz1.dom b h)⟩
      · exact n2.keep b w (fun z => hb (by simp at z; simp [z])) (nz1.keep b w (fun z => hb (List.mem_append_left _ z)) hh)
      · exact nz1.out b (fun z => hb (List.mem_append_left _ z)) h h'
    obtain ⟨fp', h12, h13⟩ := q8 _ _ fp1' [a] ((g1 x).1, y.2) (g2 x ++ [y.1]) nzz ⟨q31, hs2⟩ hnames (fun b hb => s1.new b hb) (fun b hb => .inl hb) (fun b hb z => by rw [List.mem_singleton] at z; subst z; exact na1 hb)
    have pin : ∀ b, b ∈ (q :: fp3) ++ [a] → b ∈ fp0 := fun b hb => by
      rcases List.mem_append.mp hb with hb | hb
      · exact q6 b hb
      · rw [List.mem_singleton] at hb; subst hb; exact hap
    have np : p ∉ (q :: fp3) ++ [a] := fun z => hp0 (pin p z)
    have np' : p ∉ fp' := fun z => by
      rcases h13 p z with w | w
      · exact hp0 w
      · rw [h5] at w; cases w
    have hnew := hle.back h3 (⟨p, dx, fs, fp', rfl, rfl, np', nzz.keep p _ np h5, nzz.out p np h6 (by rw [h5]; simp), h12⟩ : (mObj C d).rel _ _ (p :: fp') (.ref p) (s x ((g1 x).1, y.2) (g2 x ++ [y.1])))
    have st : Stp (p :: fp0) F H (p :: fp') (fun b => if b = a then none else F1 b) (upd H1 a (.lst (ws ++ [u]))) := ⟨nzz.weak fun b hb => List.mem_cons_of_mem _ (pin b hb), fun b hb => by
      rcases List.mem_cons.mp hb with rfl | hb
      · exact .inl (by simp)
      · rcases h13 b hb with w | w
        · exact .inl (List.mem_cons_of_mem _ w)
        · exact .inr w⟩
    obtain ⟨s3, hol3⟩ := hol.upd (c := .mut m' (s x ((g1 x).1, y.2) (g2 x ++ [y.1]))) h1 h2 st ⟨_, rfl, hnew⟩
    exact hk y D _ _ σ' _ s3.fh hol3 (Wp.mst s3 hm)
  · intro cls dd F1 H1 M1 s1 he'
    obtain ⟨nz1, nl, _⟩ := key s1
    have w : Stp fps.flatten F H [] (fun b => if b = a then none else F1 b) H1 := ⟨nz1.weak fun b hb => List.mem_flatten.mpr ⟨p :: fp0, List.mem_of_getElem? h1, List.mem_cons_of_mem _ (q6 b hb)⟩, by simp⟩
    refine he cls dd _ _ _ w ⟨he'.1, ?_⟩
    have h2 := he'.2
    revert h2
    cases er.f with
    | none => exact fun z => z
    | some pr =>
      rintro ⟨b, e1, e2⟩
      exact ⟨b, e1, nl.keep b _ e2 (by simp)⟩
end
end L2.My
namespace Lw
end Lw
set_option exponentiation.threshold 20000
local macro_rules | `(tactic| walk_at "wp") => `(tactic| try simp only [L2.My.Wp.ok_bind, L2.My.Wp.bind_ok, L2.My.Wp.bind_assoc, L2.My.Wp.req_bind, L2.My.Wp.bind_out, L2.My.Wp.ret_out, L2.My.Wp.raise_bind, L2.My.Wp.raise_out, L2.My.Wp.req_out, L2.My.Wp.bind_seq, L2.My.Wp.ok_seq, L2.My.Wp.ret_seq, L2.My.Wp.req_seq, L2.My.Wp.bind_up, L2.My.Wp.ret_up, L2.My.Wp.brk_up, L2.My.Wp.cnt_up, L2.My.Wp.req_up, L2.My.Wp.raise_up, L2.My.Wp.nox_ok, L2.My.Wp.nox_bind, L2.My.Wp.nox_req, L2.My.Wp.nox_get, L2.My.Wp.nox_nox, L2.My.Wp.ap, Lw.mkQ_self])
namespace Lw
open PySem PySem.Spec PyProof.Rows L2 L2.My
end Lw
namespace L2.My
open PySem PySem.Spec PyProof.Rows L2
section
variable {α β γ σ τ S L R : Type} {K : PySem.W.Frag} {E X : ZK K} {te : TE} {tr : TA} {ts tuS : TS} {Γ : List Cn} {r : RT β} {F H F' H' : Hp} {i j : Nat} {G : S → List Cn} {GL : L → List Cn} {rr : RR R} {C : Addr} {M : List Addr} {c : Cn}
theorem Hol.putG {fp' : List Addr} {o' : Option V} : ∀ {Γ : List Cn} {fps : List (List Addr)} {σ : St} {i : Nat} {fp : List Addr}, Hol Γ F H fps σ → Nz M F H F' H' → fps[i]? = some fp → (∀ a ∈ M, ∀ q ∈ fps.set i [], a ∉ q) → c.rel F' H' fp' o' → (∀ a ∈ fp', ∀ q ∈ fps.set i [], a ∉ q) →
    Hol (Cn.put Γ i c) F' H' (fps.set i fp') (σ.set i o')
  | [], [], [], _, _, _, _, hp, _, _, _ => by simp at hp
  | c0 :: Γ, fp0 :: fps, o :: σ, 0, fp, h, n, hp, hM, hc, hn => by
    refine ⟨hc, fun a ha q hq z => hn a ha q (by simp [hq]) z, Hol.frame n (fun q hq a ha z => hM a z q (by simp [hq]) ha) h.2.2⟩
  | c0 :: Γ, fp0 :: fps, o :: σ, i + 1, fp, h, n, hp, hM, hc, hn => by
    have hp' : fps[i]? = some fp := by simpa using hp
    refine ⟨Cn.rel_frame n (fun a ha z => hM a z fp0 (by simp) ha) h.1, fun a ha q hq z => ?_, Hol.putG (i := i) h.2.2 n hp' (fun a ha q hq => hM a ha q (by simp [hq])) hc (fun a ha q hq => hn a ha q (by simp [hq]))⟩
    rcases List.mem_or_eq_of_mem_set hq with hq | rfl
    · exact h.2.1 a ha q hq z
    · exact hn a z fp0 (by simp) ha
  | [], _ :: _, _, _, _, h, _, _, _, _, _ => h.elim
  | [], [], _ :: _, _, _, h, _, _, _, _, _ => h.elim
  | _ :: _, [], _, _, _, h, _, _, _, _, _ => h.elim
  | _ :: _, _ :: _, [], _, _, h, _, _, _, _, _ => h.elim
theorem hol_disS : ∀ {Γ : List Cn} {fps : List (List Addr)} {σ : St} {j : Nat} {fp : List Addr}, Hol Γ F H fps σ → fps[j]? = some fp → ∀ q ∈ fps.set j [], ∀ a ∈ q, a ∉ fp
  | [], [], [], _, _, _, hp => by simp at hp
  | _ :: Γ, fp0 :: fps, _ :: σ, 0, fp, h, hp => by
    simp at hp; subst hp
    intro q hq a ha z
    simp at hq
    rcases hq with rfl | hq
    · cases ha
    · exact h.2.1 a z q hq ha
  | _ :: Γ, fp0 :: fps, _ :: σ, j + 1, fp, h, hp => by
    have hp' : fps[j]? = some fp := by simpa using hp
    intro q hq a ha z
    simp at hq
    rcases hq with rfl | hq
    · exact h.2.1 a ha fp (List.mem_of_getElem? hp') z
    · exact hol_disS h.2.2 hp' q hq a ha z
  | [], _ :: _, _, _, _, h, _ => h.elim
  | [], [], _ :: _, _, _, h, _ => h.elim
  | _ :: _, [], _, _, _, h, _ => h.elim
  | _ :: _, _ :: _, [], _, _, h, _ => h.elim
def spInitT (C : Addr) (mc : MT τ) (ra : RA α) (d : MDs σ) (f : τ → Addr → α → Wp σ) (K : PySem.W.Frag) : Sp := fun vs H Q E => ∃ F p dx q fpq s ws x, vs = .ref p :: .ref q :: ws ∧ Ext F H ∧ H p = some (.ins C dx []) ∧ F p = none ∧ mc.rel F H fpq (.ref q) s ∧ p ∉ fpq ∧ ra.rel F ws x ∧
  (f s q x).run (fun y => ∀ F' H' fp', Stp (p :: fpq) F H fp' F' H' → (mObj C d).rel F' H' fp' (.ref p) y → Q .non H') (Es K E (p :: fpq) F H)
theorem sv_makeTake {d2 : MDs τ} {C2 : Addr} {s : τ} {ra : RA α} {d : MDs σ} {f : τ → Addr → α → Wp σ} {m : Wp α} {XX : XK} {k : Addr → σ → Wp (Fl S L R)} (hj : Cn.get Γ j = some (.mut (mObj C2 d2) s)) (hi : Cn.get Γ i = some .any) (hij : i ≠ j) (ha : EvA K (zk K XX) tr Γ ra m)
    (hk : ∀ q y, Sv K (zk K XX) tuS (Cn.put (Cn.put Γ j (.mut (mRef (.ref q)) ())) i (.mut (mObj C d) y)) G GL rr (k q y)) :
    Sv K (zk K XX) (tSeq (tAsg (tMake C (spInitT C (mObj C2 d2) ra d f K) [] (zk K XX).X (tCons (tVar j) tr)) (gName i)) tuS) Γ G GL rr (m.bind fun x => Wp.allA fun q => (f s q x).bind (k q)) := by
  intro D F0 H0 σ' fps e0 hol hm
  obtain ⟨fpj, oj, j1, j2, vj, rfl, j3⟩ := hol.get hj
  obtain ⟨fpi, oi, i1, i2, i3⟩ := hol.get hi
  have hfi : fpi = [] := i3
  subst hfi
  obtain ⟨q, dx2, fs2, fq0, rfl, hfq, jr⟩ := id j3
  refine ⟨_, j2, ?_⟩
  refine ha F0 H0 σ' fps _ e0 hol (m.mono (fun x hm => ?_) (fun _ z => (zk K XX).down e0 z) hm)
  intro vs F H n0 hv p dx hp hdx hne
  have hm := hm q
  have e := n0.fh
  have n1 : Nx [] F H (upd F dx (.own p)) (upd H dx (.own p)) := Nx.new e hdx
  have hp1 : (upd H dx (.own p)) p = none := by rw [upd_ne (Ne.symm hne)]; exact hp
  have hF1 : (upd F dx (.own p)) p = none := by
    rw [upd_ne (Ne.symm hne)]
    cases hz : F p with
    | none => rfl
    | some o => rw [e _ _ hz] at hp; cases hp
  have e2 : Ext (upd F dx (.own p)) (upd (upd H dx (.own p)) p (.ins C dx [])) := ext_mut n1.fh hF1
  have n2 : Nz [] F H (upd F dx (.own p)) (upd (upd H dx (.own p)) p (.ins C dx [])) := by
    refine ⟨n1.ff, e2, fun b o hb hbo => ?_, fun b hb h1 h2 => n1.out b h1 h2, fun b hb => ?_⟩
    · have : b ≠ p := fun z => by rw [z, hp] at hbo; cases hbo
      rw [upd_ne this]; exact n1.keep b o hb hbo
    · have : b ≠ p := fun z => hb (by rw [z]; exact hp)
      rw [upd_ne this]; exact n1.dom b hb
  have n02 : Nz [] F0 H0 (upd F dx (.own p)) (upd (upd H dx (.own p)) p (.ins C dx [])) := nz_nx n0 n2
  have holS : Hol Γ (upd F dx (.own p)) (upd (upd H dx (.own p)) p (.ins C dx [])) fps σ' := Hol.frame n02 (by simp) hol
  have hp0 : H0 p = none := n0.free hp
  have pnot : ∀ q' ∈ fps, p ∉ q' := fun q' hq' z => hol.dom q' hq' p z hp0
  have hpj : p ∉ fpj := pnot fpj (List.mem_of_getElem? j1)
  rw [List.append_nil]
  refine ⟨upd F dx (.own p), p, dx, q, fpj, s, vs, x, rfl, e2, upd_same, hF1, (mObj C2 d2).frame j3 n02 (by simp), hpj, ra.mono n1.ff hv, (f s q x).mono (fun y hy F' H' fp' s2 hrel => ?_) (fun er her => ?_) hm⟩
  · obtain ⟨_, hol1⟩ := holS.upd (c := .mut (mRef (.ref q)) ()) j1 j2 (Stp.refl e2 (M' := []) (by simp)) ⟨_, rfl, rfl, rfl⟩
    have dj := hol_disS holS j1
    have fr : ∀ a ∈ p :: fpj, ∀ q' ∈ fps.set j [], a ∉ q' := fun a ha q' hq' z => by
      rcases List.mem_cons.mp ha with rfl | ha
      · exact pnot q' (mem_set_nil hq' z) z
      · exact dj q' hq' a z ha
    have ij : (fps.set j [])[i]? = some [] := by rw [List.getElem?_set_ne (Ne.symm hij)]; exact i1
    have hsub : ∀ q' ∈ (fps.set j []).set i [], ∀ a ∈ q', q' ∈ fps.set j [] := fun q' hq' a ha => mem_set_nil hq' ha
    have hol2 := Hol.putG (c := .mut (mObj C d) y) (fp' := fp') (o' := some (.ref p)) hol1 s2.n ij (fun a ha q' hq' z => fr a ha q' (hsub q' hq' a z) z) ⟨_, rfl, hrel⟩ (fun a ha q' hq' z => by
      rcases s2.new a ha with w | w
      · exact fr a w q' (hsub q' hq' a z) z
      · exact holS.dom q' (mem_set_nil (hsub q' hq' a z) z) a z w)
    have sall : Stp fps.flatten F0 H0 ((fps.set j []).set i fp').flatten F' H' := by
      refine ⟨?_, fun a ha => ?_⟩
      · refine ⟨n02.ff.trans s2.n.ff, s2.n.fh, fun b o hb h => ?_, fun b hb h h' => ?_, fun b h => s2.n.dom b (n02.dom b h)⟩
        · exact s2.n.keep b o (fun z => by
            rcases List.mem_cons.mp z with rfl | z
            · rw [hp0] at h; cases h
            · exact hb (List.mem_flatten.mpr ⟨fpj, List.mem_of_getElem? j1, z⟩)) (n02.keep b o (by simp) h)
        · exact s2.n.out b (fun z => by
            rcases List.mem_cons.mp z with rfl | z
            · exact h' hp0
            · exact hb (List.mem_flatten.mpr ⟨fpj, List.mem_of_getElem? j1, z⟩)) (n02.out b (by simp) h h') (n02.dom b h')
      · rcases flat_set a ha with w | w
        · rcases s2.new a w with w | w
          · rcases List.mem_cons.mp w with rfl | w
            · exact .inr hp0
            · exact .inl (List.mem_flatten.mpr ⟨fpj, List.mem_of_getElem? j1, w⟩)
          · exact .inr (Decidable.byContradiction fun z => n02.dom a z w)
        · exact .inl (flat_set_nil a w)
    refine ⟨rfl, ?_⟩
    exact hk q y D F' H' _ _ s2.n.fh hol2 (Wp.mst sall hy)
  · intro cls dd F' H' M' s2 he
    have w : Stp fps.flatten F0 H0 [] F' H' := ⟨by
      refine ⟨n02.ff.trans s2.n.ff, s2.n.fh, fun b o hb h => ?_, fun b hb h h' => ?_, fun b h => s2.n.dom b (n02.dom b h)⟩
      · exact s2.n.keep b o (fun z => by
          rcases List.mem_cons.mp z with rfl | z
          · rw [hp0] at h; cases h
          · exact hb (List.mem_flatten.mpr ⟨fpj, List.mem_of_getElem? j1, z⟩)) (n02.keep b o (by simp) h)
      · exact s2.n.out b (fun z => by
          rcases List.mem_cons.mp z with rfl | z
          · exact h' hp0
          · exact hb (List.mem_flatten.mpr ⟨fpj, List.mem_of_getElem? j1, z⟩)) (n02.out b (by simp) h h') (n02.dom b h'), by simp⟩
    exact her cls dd _ _ _ w he
theorem sv_newTake {v0 : V} {d : MDs α} {x : α} {n : Str} {mc : MT τ} {s : τ} {q : Addr} {k : Wp (Fl S L R)} (hi : Cn.get Γ i = some (.mut ((mObj C d).pin v0) x)) (hj : Cn.get Γ j = some (.mut (mc.pin (.ref q)) s)) (hij : i ≠ j) (c : Cls K C) (na : NoAttr K C n) (hn : n ∉ d.names) (hl : d.names.length < 1000)
    (hk : Sv K X tuS (Cn.put (Cn.put Γ j .any) i (.mut ((mObj C (mdM d n (mAd mc))).pin v0) (x, (q, s)))) G GL rr k) : Sv K X (tSeq (sFld K (tVar i) (tVar j) n) tuS) Γ G GL rr k := by
  intro D F H σ' fps e hol hm
  obtain ⟨fpi, oi, i1, i2, v, rfl, hv0, h3⟩ := hol.get hi
  obtain ⟨fpj, oj, j1, j2, vj, rfl, rfl, j3⟩ := hol.get hj
  obtain ⟨p, dx, fs, fp0, rfl, rfl, hp0, h5, h6, h7⟩ := h3
  have hnm := d.nm h7
  have hlen := congrArg List.length hnm
  rw [List.length_map] at hlen
  refine ⟨_, j2, _, i2, p, C, dx, fs, rfl, h5, c, na, by omega, ?_⟩
  have mi := List.mem_of_getElem? i1
  have mj := List.mem_of_getElem? j1
  have dj := hol_disS hol j1
  have ijg : (fps.set j [])[i]? = some (p :: fp0) := by rw [List.getElem?_set_ne (Ne.symm hij)]; exact i1
  have mis : (p :: fp0) ∈ fps.set j [] := List.mem_of_getElem? ijg
  have hpj : p ∉ fpj := dj _ mis p (by simp)
  have hdis : ∀ a ∈ fp0, a ∉ fpj := fun a ha => dj _ mis a (by simp [ha])
  have n2 : Nz [p] F H F (upd H p (.ins C dx (putF n (.ref q) fs))) := ((Nx.refl e : Nx [p] F H F H).mut (.inl (by simp)) h6).nz
  have hnew : ((mObj C (mdM d n (mAd mc))).pin v0).rel F (upd H p (.ins C dx (putF n (.ref q) fs))) (p :: (fp0 ++ fpj)) (.ref p) (x, (q, s)) := ⟨hv0, p, dx, _, fp0 ++ fpj, rfl, rfl, by
    rw [List.mem_append, not_or]; exact ⟨hp0, hpj⟩, upd_same, h6, fs, .ref q, fp0, fpj, putF_new (by rw [hnm]; exact hn), rfl, hdis, d.frame h7 n2 (fun a ha z => hp0 (by rw [List.mem_singleton] at z; rw [← z]; exact ha)), rfl, mc.frame j3 n2 fun a ha z => hpj (by rw [List.mem_singleton] at z; rw [← z]; exact ha)⟩
  obtain ⟨_, hol1⟩ := hol.upd (c := .any) j1 j2 (Stp.refl e (M' := []) (by simp)) rfl
  have di := hol_disS hol1 ijg
  have hol2 := Hol.putG (c := .mut ((mObj C (mdM d n (mAd mc))).pin v0) (x, (q, s))) (fp' := p :: (fp0 ++ fpj)) (o' := some (.ref p)) hol1 n2 ijg (fun a ha q' hq' z => by
    rw [List.mem_singleton] at ha; subst ha
    exact di q' hq' a z (by simp)) ⟨_, rfl, hnew⟩ (fun a ha q' hq' z => by
    rcases List.mem_cons.mp ha with rfl | ha
    · exact di q' hq' a z (by simp)
    · rcases List.mem_append.mp ha with ha | ha
      · exact di q' hq' a z (by simp [ha])
      · exact dj q' (mem_set_nil hq' z) a z ha)
  have hset : (σ'.set i (some (.ref p))) = σ' := by
    refine List.ext_getElem? fun b => ?_
    by_cases cb : i = b
    · subst cb
      rw [List.getElem?_set_self (List.getElem?_eq_some_iff.mp i2).1, i2]
    · rw [List.getElem?_set_ne cb]
  rw [hset] at hol2
  have sall : Stp fps.flatten F H ((fps.set j []).set i (p :: (fp0 ++ fpj))).flatten F (upd H p (.ins C dx (putF n (.ref q) fs))) := ⟨n2.weak fun a ha => by
    rw [List.mem_singleton] at ha; subst ha
    exact List.mem_flatten.mpr ⟨_, mi, by simp⟩, fun a ha => by
    rcases flat_set a ha with w | w
    · rcases List.mem_cons.mp w with rfl | w
      · exact .inl (List.mem_flatten.mpr ⟨_, mi, by simp⟩)
      · rcases List.mem_append.mp w with w | w
        · exact .inl (List.mem_flatten.mpr ⟨_, mi, by simp [w]⟩)
        · exact .inl (List.mem_flatten.mpr ⟨_, mj, w⟩)
    · exact .inl (flat_set_nil a w)⟩
  exact hk D F _ σ' _ sall.fh hol2 (Wp.mst sall hm)
theorem fn_IT {XX : XK} {Q : VK} {σ' : L2.St} {fps : List (List Addr)} {fp0 : List Addr} {d : MDs β} {p : Addr} {Γ' : List Cn} {body : Wp (Fl β Empty Empty)} {rr : RR Empty} (h : Sv K (zk K XX) ts Γ (fun y => .mut ((mObj C d).pin (.ref p)) y :: Γ') (fun z : Empty => z.elim) rr body) (e : Ext F H) (hol : Hol Γ F H fps σ') (h0 : fps.flatten = fp0)
    (hm : (Wp.ini body).run (fun y => ∀ F' H' fp', Stp fp0 F H fp' F' H' → (mObj C d).rel F' H' fp' (.ref p) y → Q .non H') (Es K XX fp0 F H)) : ts { nx := fun _ H1 => Q .non H1, rt := Q } σ' H := by
  refine h _ F H σ' fps e hol ?_
  rw [h0]
  refine body.mono (fun z hz => ?_) (fun _ z => z) hm
  cases z with
  | brk s => exact s.elim
  | cnt s => exact s.elim
  | ret s => exact s.elim
  | nx y =>
    intro F' H' fps' σ2 s hol'
    match fps', σ2, hol' with
    | fp :: _, o :: _, hol' =>
      obtain ⟨v, rfl, rfl, h4⟩ := hol'.1
      exact hz F' H' fp (s.sub fun a ha => by rw [List.flatten_cons]; exact List.mem_append_left _ ha) h4
theorem nn_dt : NotNon tDt := fun F v x h => by
  cases x with
  | int n => rw [show v = _ from h]; simp
  | str s => rw [(show _ ∧ _ from h).1]; simp
  | tup xs =>
    have h : dtRel F (.tup xs) v := h
    unfold dtRel at h
    obtain ⟨a, ws, rfl, _⟩ := h
    simp
theorem evs_req {mt : MT σ} {p : Prop} {m : Wp (β × σ)} (h : p → EvS K E te Γ i mt r m) : EvS K E te Γ i mt r (.req p m) := fun F H σ' fps Q e hol hm => h hm.1 F H σ' fps Q e hol hm.2
theorem hol_mut2 {mt : MT σ} {fp : List Addr} {fps : List (List Addr)} {v : V} {s : σ} {st : St} (h : mt.rel F H fp v s) (t : Hol Γ F H fps st) (d : ∀ a ∈ fp, ∀ q ∈ fps, a ∉ q) : Hol (.mut mt s :: Γ) F H (fp :: fps) (some v :: st) := ⟨⟨v, rfl, h⟩, d, t⟩
theorem evs_slHiS {mt : MT σ} {tu : TE} {x : Str} {mh : Wp (Int × σ)} (h : EvP K E te Γ tTx (.ok x)) (hh : EvS K E tu Γ i mt tInt mh) : EvS K E (tSl rSlS te tNoPart (tPart tu)) Γ i mt tTx (mh.bind fun y => .ok (cutS x none (some y.1), y.2)) := by
  intro F H st fps Q e hol hm
  refine h F H st fps _ e hol ?_
  rintro v F1 H1 n1 ⟨rfl, hx⟩
  refine hh F1 H1 st fps _ n1.fh (hol.nx n1) (mh.mono (fun y hm => ?_) (fun _ => E.step (stp_nx n1)) hm)
  rintro w F2 H2 fps2 s2 hol2 hw
  exact ⟨y.1, hw, x, rfl, by rw [sLine]; have := hx.2; omega, hm _ F2 H2 fps2 ((stp_nx n1).trans s2) hol2 ⟨rfl, txok_sub hx cutS_mem cutS_le⟩⟩
theorem evsi_tup {mt : MT σ} {r : RT α} {m : Wp (List α × σ)} (h : EvS K E te Γ i mt (lT r) m) : evSI K E (iTup K te) Γ i mt r m := by
  intro F H st fps R e hol hm
  refine h F H st fps _ e hol (m.mono (fun xs hm => ?_) (fun _ z => z) hm)
  rintro v F' H' fps' s' hol' ⟨⟨a, ws, rfl, h2, al⟩, hl⟩
  exact ⟨a, rfl, ⟨ws, SqT.of (s'.fh _ _ h2)⟩, hm _ F' H' fps' s' hol' (itg_al (it_tup h2) al) hl⟩
theorem sv_getC {r1 : RT α} {r2 : RT γ} {x : α} {f : α → Option γ} {k : γ → Wp (Fl S L R)} (hi : Cn.get Γ i = some (.frz r1 x)) (hc : ∀ F v x y, r1.rel F v x → f x = some y → r2.rel F v y) (hk : ∀ y, Sv K X ts (Cn.put Γ i (.frz r2 y)) G GL rr (k y)) : Sv K X ts Γ G GL rr ((Wp.get (f x)).bind k) := by
  intro D F H σ' fps e hol hm
  cases q : f x with
  | none => rw [q] at hm; exact hm.elim
  | some y =>
    rw [q] at hm
    obtain ⟨fp, o, h1, h2, h3, v, rfl, h4⟩ := hol.get hi
    obtain ⟨s1, hol1⟩ := hol.upd (c := .frz r2 y) h1 h2 (Stp.refl e fun a ha => ha) ⟨h3, v, rfl, hc _ _ _ _ h4 q⟩
    rw [set_selfF h1] at hol1
    exact hk y D F H σ' fps e hol1 hm
theorem c_opt {r1 : RT α} : ∀ F v (x : Option α) y, (tOpt r1).rel F v x → (fun z : Option α => z) x = some y → r1.rel F v y := fun F v x y h e => by
  have e : x = some y := e
  subst e; exact h
instance : Dat (tOr tTx tInt) := ⟨fun x => match x with | .inl s => .str s | .inr n => .int n, fun K F H v x e h => by
  cases x with
  | inl s => exact Dat.dp (r := tTx) K e h
  | inr n => exact Dat.dp (r := tInt) K e h, fun {F v x} h => by
  cases x with
  | inl s => exact Dat.lay (r := tTx) (F := F) h
  | inr n => exact Dat.lay (r := tInt) (F := F) h, 0, fun x => by cases x <;> exact Nat.le_refl _, fun {F v x} h => by
  cases x with
  | inl s => exact Dat.ok (r := tTx) (F := F) h
  | inr n => exact Dat.ok (r := tInt) (F := F) h⟩
def txB (xs : List Str) : Bool := xs.all fun x => PyData.strOk x && decide (x.length ≤ 1000000)
theorem tx_all {xs : List Str} (h : txB xs = true) : ∀ x ∈ xs, TxOk x := fun x hx => by
  have := List.all_eq_true.mp h x hx
  rw [Bool.and_eq_true, decide_eq_true_eq] at this
  exact this
theorem evn_if {tt : TT} {ta tb : TE} {mt : MT σ} {mb : Wp Bool} {m m' : Wp σ} (ht : EvT K E tt Γ mb) (h : EvN K E ta Γ mt m) (h' : EvN K E tb Γ mt m') : EvN K E (tIf tt ta tb) Γ mt (mb.bind fun b => if b = true then m else m') := by
  intro F H σ' fps Q e hol hm
  refine ht F H σ' fps _ e hol (mb.mono (fun b hb F1 H1 n1 => ?_) (fun _ z => z) hm)
  have fr : ∀ {fp : List Addr}, (∀ a ∈ fp, H1 a = none) → ∀ a ∈ fp, H a = none := fun h a ha => n1.free (h a ha)
  cases b with
  | true => exact h F1 H1 σ' fps _ n1.fh (hol.nx n1) (m.mono (fun x hx v F' H' fp n2 hf hr => hx v F' H' fp (n1.trans n2) (fr hf) hr) (fun _ => E.st n1) hb)
  | false => exact h' F1 H1 σ' fps _ n1.fh (hol.nx n1) (m'.mono (fun x hx v F' H' fp n2 hf hr => hx v F' H' fp (n1.trans n2) (fr hf) hr) (fun _ => E.st n1) hb)
theorem evn_ifP {tt : TT} {ta tb : TE} {mt : MT σ} {b : Bool} {m m' : Wp σ} (ht : EvT K E tt Γ (.ok b)) (h : EvN K E ta Γ mt m) (h' : EvN K E tb Γ mt m') : EvN K E (tIf tt ta tb) Γ mt (if b = true then m else m') := evn_if ht h h'
structure CloF (d d' : MDs σ) : Prop where
  go : ∀ {F H fp fs x}, Ext F H → d.rel F H fp fs x → ∃ a ws fp', F a = none ∧ H a = some (.lst ws) ∧ a ∈ fp ∧ a ∉ fp' ∧ (∀ b ∈ fp', b ∈ fp) ∧ d'.rel (upd F a (.lst ws)) H fp' fs x
theorem nz_frz {a : Addr} {o : HO} (e : Ext F H) (h : F a = none) (ho : H a = some o) : Nz [a] F H (upd F a o) H := ⟨Ext.upd h, fun b u hb => by
    by_cases z : b = a
    · subst z; rw [upd_same] at hb; cases hb; exact ho
    · rw [upd_ne z] at hb; exact e _ _ hb, fun _ _ _ h => h, fun b hb h _ => by rw [upd_ne (by simpa using hb)]; exact h, fun _ h => h⟩
theorem cloF_here {d : MDs α} {n : Str} : CloF (mdM d n (mL r)) (mdF d n (lL r)) := ⟨fun {F H fp fs x} e h => by
  obtain ⟨fs0, v, fp0, fp1, rfl, rfl, hd, h2, a, ws, rfl, rfl, h3, h4, al, hl⟩ := h
  have na : a ∉ fp0 := fun z => hd a z (by simp)
  have nz := nz_frz e h4 h3
  exact ⟨a, ws, fp0, h4, h3, by simp, na, fun b hb => by simp [hb], fs0, _, rfl, d.frame h2 nz (fun b hb z => by rw [List.mem_singleton] at z; subst z; exact na hb), ⟨a, ws, rfl, upd_same, al.mono nz.ff⟩, hl⟩⟩
theorem cloF_thereF {d d' : MDs α} {n : Str} {r' : RT γ} (h : CloF d d') : CloF (mdF d n r') (mdF d' n r') := ⟨fun {F H fp fs x} e h0 => by
  obtain ⟨fs0, v, rfl, h2, h3⟩ := h0
  obtain ⟨a, ws, fp', q1, q2, q3, q4, q5, q6⟩ := h.go e h2
  exact ⟨a, ws, fp', q1, q2, q3, q4, q5, fs0, v, rfl, q6, r'.mono (nz_frz e q1 q2).ff h3⟩⟩
theorem sv_closeFld {d d' : MDs σ} {x : σ} {m : Wp (Fl S L R)} (hi : Cn.get Γ i = some (.mut (mObj C d) x)) (hc : CloF d d') (h : Sv K X ts (Cn.put Γ i (.mut (mObj C d') x)) G GL rr m) : Sv K X ts Γ G GL rr m := by
  intro D F H σ' fps e hol hm
  obtain ⟨fp, o, h1, h2, v, rfl, h3⟩ := hol.get hi
  obtain ⟨p, dx, fs, fp0, rfl, rfl, hp0, h5, h6, h7⟩ := h3
  obtain ⟨a, ws, fp', q1, q2, q3, q4, q5, q6⟩ := hc.go e h7
  have nz := nz_frz e q1 q2
  have ap : a ≠ p := fun z => by subst z; exact hp0 q3
  have st : Stp (p :: fp0) F H (p :: fp') (upd F a (.lst ws)) H := ⟨nz.weak fun b hb => by rw [List.mem_singleton] at hb; subst hb; simp [q3], fun b hb => by
    rcases List.mem_cons.mp hb with rfl | hb
    · exact .inl (by simp)
    · exact .inl (List.mem_cons_of_mem _ (q5 b hb))⟩
  obtain ⟨s1, hol1⟩ := hol.upd (c := .mut (mObj C d') x) h1 h2 st ⟨_, rfl, p, dx, fs, fp', rfl, rfl, fun z => hp0 (q5 p z), h5, by rw [upd_ne (Ne.symm ap)]; exact h6, q6⟩
  exact h D _ H σ' _ s1.fh hol1 (Wp.mst s1 hm)
end
end L2.My
namespace Lw
end Lw
set_option exponentiation.threshold 20000
local macro_rules | `(tactic| walk_at "wp") => `(tactic| try simp only [L2.My.Wp.ok_bind, L2.My.Wp.bind_ok, L2.My.Wp.bind_assoc, L2.My.Wp.req_bind, L2.My.Wp.bind_out, L2.My.Wp.ret_out, L2.My.Wp.raise_bind, L2.My.Wp.raise_out, L2.My.Wp.req_out, L2.My.Wp.bind_seq, L2.My.Wp.ok_seq, L2.My.Wp.ret_seq, L2.My.Wp.req_seq, L2.My.Wp.bind_up, L2.My.Wp.ret_up, L2.My.Wp.brk_up, L2.My.Wp.cnt_up, L2.My.Wp.req_up, L2.My.Wp.raise_up, L2.My.Wp.nox_ok, L2.My.Wp.nox_bind, L2.My.Wp.nox_req, L2.My.Wp.nox_get, L2.My.Wp.nox_nox, L2.My.Wp.ap, Lw.mkQ_self])
namespace Lw
open PySem PySem.Spec PyProof.Rows L2 L2.My
end Lw
namespace CMX
open PySem PySem.Spec PyProof.Rows L2
section
variable {M : Model} {A : Around} {E : Value → Shared → Prop} {s : Shared} {env : Env}
def compPostX (M : Model) (A : Around) (E : Value → Shared → Prop) (use : Option (Value → Sem Unit)) (Q : Value → Shared → Prop) (acc : Value) (cenv : Env) (r : Result) (s' : Shared) : Prop :=
  match r, use with
  | .ok _, none => ∃ m, s'.heap.Ns cenv.locals m ∧ ∀ h', Heap.SameBut cenv.locals s'.heap h' → Q acc { s' with heap := h' }
  | .ok _, some u => wpAny M A (u acc) (fun _ s'' => ∃ m, s''.heap.Ns cenv.locals m ∧ ∀ h', Heap.SameBut cenv.locals s''.heap h' → Q .none { s'' with heap := h' }) E s'
  | .error x, _ => ∃ m, s'.heap.Ns cenv.locals m ∧ ∀ h', Heap.SameBut cenv.locals s'.heap h' → wpAny M A (passOn "comprehension.variables-let-go" x cenv : Sem Value) (fun _ _ => False) E { s' with heap := h' }
end
def Let (X : Cx) (E : XK) (e : Value) (s' : Shared) : Prop := ∃ (pins : List (Addr × Obj)) (σ : List (Option V)) (H1 : Hp) (s1 : Shared), Inv X pins σ H1 s1 ∧ CX X.prog X.w X.stack H1 s1 E e s'
abbrev blkE (X : Cx) (E : XK) (s : Shared) (H : Hp) (scope : Scope) (cenv : Env) (fp : List Addr) : Cx := { X.blk s H scope cenv fp with xe := Let (X.blk s H scope cenv fp) E }
section
variable {X : Cx} {E : XK} {s s1 : Shared} {H H1 : Hp} {scope : Scope} {cenv : Env} {fp : List Addr} {pins : List (Addr × Obj)} {σ : List (Option V)}
end
section
variable {X : Cx} {W : WX} {E : XK} {pins : List (Addr × Obj)} {σ : List (Option V)} {H1 : Hp} {s1 s' : Shared}
end
section
variable {X : Cx}
end
end CMX
namespace Lw
end Lw
set_option exponentiation.threshold 20000
local macro_rules | `(tactic| walk_at "wp") => `(tactic| try simp only [L2.My.Wp.ok_bind, L2.My.Wp.bind_ok, L2.My.Wp.bind_assoc, L2.My.Wp.req_bind, L2.My.Wp.bind_out, L2.My.Wp.ret_out, L2.My.Wp.raise_bind, L2.My.Wp.raise_out, L2.My.Wp.req_out, L2.My.Wp.bind_seq, L2.My.Wp.ok_seq, L2.My.Wp.ret_seq, L2.My.Wp.req_seq, L2.My.Wp.bind_up, L2.My.Wp.ret_up, L2.My.Wp.brk_up, L2.My.Wp.cnt_up, L2.My.Wp.req_up, L2.My.Wp.raise_up, L2.My.Wp.nox_ok, L2.My.Wp.nox_bind, L2.My.Wp.nox_req, L2.My.Wp.nox_get, L2.My.Wp.nox_nox, L2.My.Wp.ap, Lw.mkQ_self])
namespace Lw
open PySem PySem.Spec PyProof.Rows L2 L2.My
end Lw
namespace L2.My
open PySem PySem.Spec PyProof.Rows L2
section
variable {X : Cx} {W : WX} {E : XK} {y : Str} {i : Nat} {py : Pos} {elt tg iter : Expr} {ifs : List Expr} {scope : Scope} {own : List (Str × Nat)} {pos spos : Pos} {wi : TI} {g : Bk TG} {tt : Bk TT} {te : Bk TE}
abbrev XBE (X : Cx) (E : XK) (scope : Scope) (s : Shared) (H : Hp) (C : Addr) (cl : List (Str × Addr)) (fp : List Addr) : Cx := CMX.blkE X E s H scope (compEnvC scope cl C X.env) fp
end
namespace Wp
def whileS {S L R : Type} (s : S) (t : S → Wp (Bool × S)) (f : S → Wp (Fl S S R)) : Wp (Fl S L R) :=
  ⟨fun A B => ∃ I : Nat → S → Prop, (∃ n, I n s) ∧ ∀ n s, I n s → (t s).run (fun b => if b.1 = true then (f b.2).run (fun z => match z with
    | .nx s' => ∃ n', n' < n ∧ I n' s' | .cnt s' => ∃ n', n' < n ∧ I n' s' | .brk s' => A (.nx s') | .ret r => A (.ret r)) B else A (.nx b.2)) B,
   fun ha hb h => by
    obtain ⟨I, h0, h⟩ := h
    refine ⟨I, h0, fun n s hi => (t s).mono (fun b hb' => ?_) hb (h n s hi)⟩
    by_cases c : b.1 = true
    · rw [if_pos c] at hb' ⊢
      refine (f b.2).mono (fun z hz => ?_) hb hb'
      cases z with
      | nx s' => exact hz
      | cnt s' => exact hz
      | brk s' => exact ha _ hz
      | ret r => exact ha _ hz
    · rw [if_neg c] at hb' ⊢
      exact ha _ hb'⟩
end Wp
section
variable {σt α ι β S' S L R : Type} {K : PySem.W.Frag} {E : ZK K} {Γ : List Cn} {i : Nat} {mt : MT σt} {te : TE} {tt : TT} {tw tu : TS} {G : S → List Cn} {G' : S' → List Cn} {GL : L → List Cn} {rr : RR R}
theorem sv_whileS {s0 : S'} {up : S' → σt → S'} {mq : S' → Wp (Bool × σt)} {mb : S' → Wp (Fl S' S' R)} {k : S' → Wp (Fl S L R)} (hs : SubL Γ (G' s0)) (ht : ∀ s, EvST K E tt (G' s) i mt (mq s)) (hu : ∀ s y, Cn.put (G' s) i (.mut mt y) = G' (up s y)) (hb : ∀ s, Sv K E tw (G' s) G' G' rr (mb s)) (hk : ∀ s, Sv K E tu (G' s) G GL rr (k s)) :
    Sv K E (tSeq (tWhile tt tw) tu) Γ G GL rr ((Wp.whileS s0 (fun s => (mq s).bind fun y => .ok (y.1, up s y.2)) mb).seq k) := by
  intro D F H σ fps e hol hm
  obtain ⟨F2, fps2, s2, hol2, _⟩ := hs.hol e hol
  obtain ⟨I, ⟨n0, h0⟩, hI⟩ := hm
  refine ⟨fun n σ' H' => ∃ s F' fps', I n s ∧ Stp fps.flatten F H fps'.flatten F' H' ∧ Hol (G' s) F' H' fps' σ', ⟨n0, s0, F2, fps2, h0, s2, hol2⟩, ?_⟩
  rintro n σ' H' ⟨s, F', fps', hn, s3, hol3⟩
  refine ht s F' H' σ' fps' _ s3.fh hol3 ((mq s).mono (fun b hb' F4 H4 fps4 n4 hol4 => ?_) (fun _ h => E.step s3 h) (hI n s hn))
  rw [hu] at hol4
  have s4 := s3.trans n4
  obtain ⟨b1, b2⟩ := b
  cases b1 with
  | true =>
    refine ⟨fun σ2 H2 => ∃ n', n' < n ∧ ∃ s F' fps', I n' s ∧ Stp fps.flatten F H fps'.flatten F' H2 ∧ Hol (G' s) F' H2 fps' σ2, fun σ2 H2 z => z, ?_⟩
    refine hb (up s b2) _ F4 H4 σ' fps4 n4.fh hol4 ((mb (up s b2)).mono (fun z hz => ?_) (fun _ => E.step s4) hb')
    cases z with
    | nx s' => exact fun F6 H6 fps6 σ6 s6 hol6 => let ⟨n', q1, q2⟩ := hz; ⟨n', q1, s', F6, fps6, q2, s4.trans s6, hol6⟩
    | cnt s' => exact fun F6 H6 fps6 σ6 s6 hol6 => let ⟨n', q1, q2⟩ := hz; ⟨n', q1, s', F6, fps6, q2, s4.trans s6, hol6⟩
    | brk s' => exact fun F6 H6 fps6 σ6 s6 hol6 => hk s' D F6 H6 σ6 fps6 s6.fh hol6 (Wp.mst (s4.trans s6) hz)
    | ret x => exact Pst.step (G := G) (GL := GL) (z := .ret x) s4 hz
  | false => exact hk (up s b2) D F4 H4 σ' fps4 n4.fh hol4 (Wp.mst s4 hb')
end
end L2.My
namespace Lw
end Lw
namespace Hd
open PySem PySem.Spec PyProof.Rows L2
def top (i : Nat) : Stmt := PySem.Challenge.pw_notesttells_k52_bounds_of_boxes.main.body.getD i (.Pass ⟨0, 0, 0, 0⟩)
abbrev s_BadText_init : Stmt := inClass (top 2) 0
def d_BadText_init : He.SupD := ⟨"BadText", "BadText.__init__", defArgs s_BadText_init, defBody s_BadText_init, defScope s_BadText_init⟩
abbrev s_digits_of : Stmt := top 4
def d_digits_of : He.DefD := ⟨("digits_of", none), "digits_of", "digits_of", defArgs s_digits_of, defBody s_digits_of, defScope s_digits_of, [], []⟩
abbrev s_is_name : Stmt := top 10
def d_is_name : He.DefD := ⟨("is_name", none), "is_name", "is_name", defArgs s_is_name, defBody s_is_name, defScope s_is_name, [], []⟩
abbrev s_number_of : Stmt := top 11
def d_number_of : He.DefD := ⟨("number_of", none), "number_of", "number_of", defArgs s_number_of, defBody s_number_of, defScope s_number_of, [], []⟩
abbrev s_Cursor_init : Stmt := inClass (top 12) 0
def d_Cursor_init : He.DefD := ⟨("Cursor", some "__init__"), "__init__", "Cursor.__init__", defArgs s_Cursor_init, defBody s_Cursor_init, defScope s_Cursor_init, [], []⟩
abbrev s_Cursor_next : Stmt := inClass (top 12) 1
def d_Cursor_next : He.DefD := ⟨("Cursor", some "next"), "next", "Cursor.next", defArgs s_Cursor_next, defBody s_Cursor_next, defScope s_Cursor_next, [], []⟩
abbrev s_Cursor_word : Stmt := inClass (top 12) 2
def d_Cursor_word : He.DefD := ⟨("Cursor", some "word"), "word", "Cursor.word", defArgs s_Cursor_word, defBody s_Cursor_word, defScope s_Cursor_word, [], []⟩
abbrev s_Cursor_number : Stmt := inClass (top 12) 3
def d_Cursor_number : He.DefD := ⟨("Cursor", some "number"), "number", "Cursor.number", defArgs s_Cursor_number, defBody s_Cursor_number, defScope s_Cursor_number, [], []⟩
abbrev s_Cursor_new_name : Stmt := inClass (top 12) 4
def d_Cursor_new_name : He.DefD := ⟨("Cursor", some "new_name"), "new_name", "Cursor.new_name", defArgs s_Cursor_new_name, defBody s_Cursor_new_name, defScope s_Cursor_new_name, [], []⟩
abbrev s_Cursor_expression : Stmt := inClass (top 12) 5
def d_Cursor_expression : He.DefD := ⟨("Cursor", some "expression"), "expression", "Cursor.expression", defArgs s_Cursor_expression, defBody s_Cursor_expression, defScope s_Cursor_expression, [], []⟩
abbrev s_Cursor_finish : Stmt := inClass (top 12) 6
def d_Cursor_finish : He.DefD := ⟨("Cursor", some "finish"), "finish", "Cursor.finish", defArgs s_Cursor_finish, defBody s_Cursor_finish, defScope s_Cursor_finish, [], []⟩
abbrev s_expression_words : Stmt := top 13
def d_expression_words : He.DefD := ⟨("expression_words", none), "expression_words", "expression_words", defArgs s_expression_words, defBody s_expression_words, defScope s_expression_words, [], []⟩
abbrev s_Box_init : Stmt := inClass (top 21) 0
def d_Box_init : He.DefD := ⟨("Box", some "__init__"), "__init__", "Box.__init__", defArgs s_Box_init, defBody s_Box_init, defScope s_Box_init, [], []⟩
abbrev s_Box_eq : Stmt := inClass (top 21) 1
def d_Box_eq : He.DefD := ⟨("Box", some "__eq__"), "__eq__", "Box.__eq__", defArgs s_Box_eq, defBody s_Box_eq, defScope s_Box_eq, [], []⟩
abbrev s_Reader_init : Stmt := inClass (top 22) 0
def d_Reader_init : He.DefD := ⟨("Reader", some "__init__"), "__init__", "Reader.__init__", defArgs s_Reader_init, defBody s_Reader_init, defScope s_Reader_init, [], []⟩
abbrev s_Reader_statement : Stmt := inClass (top 22) 1
def d_Reader_statement : He.DefD := ⟨("Reader", some "statement"), "statement", "Reader.statement", defArgs s_Reader_statement, defBody s_Reader_statement, defScope s_Reader_statement, [], []⟩
abbrev s_Reader_choice : Stmt := inClass (top 22) 2
def d_Reader_choice : He.DefD := ⟨("Reader", some "choice"), "choice", "Reader.choice", defArgs s_Reader_choice, defBody s_Reader_choice, defScope s_Reader_choice, [], []⟩
abbrev s_Reader_block : Stmt := inClass (top 22) 3
def d_Reader_block : He.DefD := ⟨("Reader", some "block"), "block", "Reader.block", defArgs s_Reader_block, defBody s_Reader_block, defScope s_Reader_block, [], []⟩
abbrev s_read_box : Stmt := top 23
def d_read_box : He.DefD := ⟨("read_box", none), "read_box", "read_box", defArgs s_read_box, defBody s_read_box, defScope s_read_box, [], []⟩
abbrev s_read_around : Stmt := top 24
def d_read_around : He.DefD := ⟨("read_around", none), "read_around", "read_around", defArgs s_read_around, defBody s_read_around, defScope s_read_around, [], []⟩
abbrev s_read_any : Stmt := top 25
def d_read_any : He.DefD := ⟨("read_any", none), "read_any", "read_any", defArgs s_read_any, defBody s_read_any, defScope s_read_any, [], []⟩
abbrev s_block_words : Stmt := top 26
def d_block_words : He.DefD := ⟨("block_words", none), "block_words", "block_words", defArgs s_block_words, defBody s_block_words, defScope s_block_words, [], []⟩
abbrev s_box_text : Stmt := top 27
def d_box_text : He.DefD := ⟨("box_text", none), "box_text", "box_text", defArgs s_box_text, defBody s_box_text, defScope s_box_text, [], []⟩
abbrev s_l_pool : Stmt := top 29
def d_l_pool : He.DefD := ⟨("_law_pool", none), "_law_pool", "_law_pool", defArgs s_l_pool, defBody s_l_pool, defScope s_l_pool, [], []⟩
abbrev s_l_draw : Stmt := top 30
def d_l_draw : He.DefD := ⟨("_law_draw", none), "_law_draw", "_law_draw", defArgs s_l_draw, defBody s_l_draw, defScope s_l_draw, [], []⟩
abbrev s_l_same : Stmt := top 31
def d_l_same : He.DefD := ⟨("_law_same", none), "_law_same", "_law_same", defArgs s_l_same, defBody s_l_same, defScope s_l_same, [], []⟩
abbrev s_l_told : Stmt := top 32
def d_l_told : He.DefD := ⟨("_law_told", none), "_law_told", "_law_told", defArgs s_l_told, defBody s_l_told, defScope s_l_told, [], []⟩
abbrev s_l_numbers : Stmt := top 33
def d_l_numbers : He.DefD := ⟨("_law_numbers", none), "_law_numbers", "_law_numbers", defArgs s_l_numbers, defBody s_l_numbers, defScope s_l_numbers, [], []⟩
abbrev s_l_many : Stmt := top 34
def d_l_many : He.DefD := ⟨("_law_many", none), "_law_many", "_law_many", defArgs s_l_many, defBody s_l_many, defScope s_l_many, [], []⟩
abbrev s_law : Stmt := top 35
def d_law : He.DefD := ⟨("law", none), "law", "law", defArgs s_law, defBody s_law, defScope s_law, [], []⟩
def fn : List He.DefD := [d_digits_of, d_is_name, d_number_of, d_Cursor_init, d_Cursor_next, d_Cursor_word, d_Cursor_number, d_Cursor_new_name, d_Cursor_expression, d_Cursor_finish, d_expression_words, d_Box_init, d_Box_eq, d_Reader_init, d_Reader_statement, d_Reader_choice, d_Reader_block, d_read_box, d_read_around, d_read_any, d_block_words, d_box_text, d_l_pool, d_l_draw, d_l_same, d_l_told, d_l_numbers, d_l_many, d_law]
def fs : List He.SupD := [d_BadText_init]
def fa : List He.Fa := [.glo "digits_of", .glo "is_name", .glo "number_of", .glo "expression_words", .glo "read_box", .glo "read_around", .glo "read_any", .glo "block_words", .glo "box_text", .glo "_law_pool", .glo "_law_draw", .glo "_law_same", .glo "_law_told", .glo "_law_numbers", .glo "_law_many", .glo "law", .glo "TestError", .glo "BadText", .noat "BadText" "at", .exm "BadText" "TestError" true, .glo "Cursor", .cls "Cursor", .mkr "Cursor", .noat "Cursor" "words", .noat "Cursor" "at", .meth "Cursor" "next", .meth "Cursor" "word", .meth "Cursor" "number", .meth "Cursor" "new_name", .meth "Cursor" "expression", .meth "Cursor" "finish", .glo "Box", .cls "Box", .mkr "Box", .noat "Box" "buttons", .noat "Box" "answers", .noat "Box" "variables", .noat "Box" "start", .noat "Box" "block", .meth "Box" "__eq__", .glo "Reader", .cls "Reader", .mkr "Reader", .noat "Reader" "cursor", .noat "Reader" "names", .noat "Reader" "left", .noat "Reader" "uses", .noat "Reader" "extra", .meth "Reader" "statement", .meth "Reader" "choice", .meth "Reader" "block", .glo "KEYS", .glo "SIGNS", .int "GREATEST" 65535, .int "DEEPEST" 5, .int "MOST_VARIABLES" 4, .int "MOST_SIZE" 12, .int "MOST_DRAWS" 3, .int "MOST_USES" 24, .int "MOST_RESULTS" 6, .int "MOST_IFS" 4, .free "len", .free "int", .free "range", .free "str", .free "isinstance", .free "tuple", .free "list", .free "ValueError", .free "super", .free "all", .free "bool", .exm "BadText" "BadText" true]
def ex (K : PySem.W.Frag) : Bool := He.excB K "BadText" && (He.opsB K "Cursor" && (He.clsB K "Cursor" && (He.opsB K "Box" && (He.clsB K "Box" && (He.opsB K "Reader" && (He.clsB K "Reader" && (He.kstB K "KEYS" ["buttons", "answers", "var", "start", "press", "set", "draw", "use", "say", "if", "else", "end", "mod"] && (He.kstB K "SIGNS" ["+", "-", "*", "/", "mod", "<", "="] && (He.kitRT K "Box" "int" false && (He.kitTR K "int" "Box" false && (He.kitRT K "Box" "tuple" false && (He.kitTR K "tuple" "Box" false && (He.kitRT K "Box" "list" false && (He.kitTR K "list" "Box" false && (He.kitRT K "Box" "str" false && (He.kitTR K "str" "Box" false))))))))))))))))
abbrev R : PySem.W.OpenRow := PySem.W.OpenLaw.row PySem.Challenge.rw_notesttells_k52_bounds_of_boxes
abbrev hk : PySem.W.Hook := He.hookM PySem.Challenge.pw_notesttells_k52_bounds_of_boxes 5 fa fn fs ex
def ob (s : PySem.W.SharedT) : He.AlM := He.obsMG PySem.Challenge.pw_notesttells_k52_bounds_of_boxes 5 fa fn fs ex (HandSHeadRun.getT s)
theorem ob_eq (s : PySem.W.SharedT) : ob s = hk.obs s.abs := He.obsMG_eq (HandSHeadRun.getT_eq s)
def nm0 : List PySem.Str := ["TestError", "BadText", "digits_of", "KEYS", "SIGNS", "GREATEST", "DEEPEST", "is_name", "number_of", "Cursor", "expression_words", "MOST_VARIABLES", "MOST_SIZE", "MOST_DRAWS", "MOST_USES", "MOST_RESULTS", "MOST_IFS", "Box", "Reader", "read_box", "read_around", "read_any", "block_words", "box_text", "_law_pool", "_law_draw", "_law_same", "_law_told", "_law_numbers", "_law_many"]
def names : List PySem.Str := nm0
theorem run (w : World) : HandSHeadRun.RunEq R (PySem.W.view R.prog [35]) hk ob 6000 names w := by
  intro os
  kernel_rfl
end Hd
namespace Lw
open PySem PySem.Spec PyProof.Rows L2 L2.My
structure Tx (K : PySem.W.Frag) (mg : Str → Option Value) : Prop where
  g_TestError : mg "TestError" = some (.ref (He.ga K "TestError"))
  g_BadText : mg "BadText" = some (.ref (He.ga K "BadText"))
  x_BadText : PySem.SupX.SupTxt PySem.Challenge.pw_notesttells_k52_bounds_of_boxes K (He.ga K "BadText") (He.ma K (He.ga K "BadText") "__init__") "BadText.__init__" (defArgs Hd.s_BadText_init) (defBody Hd.s_BadText_init) (defScope Hd.s_BadText_init)
  n_BadText_at : PySem.W.findIn K (.ref (He.ga K "BadText")) "at" = some none
  e_BadText : ExcC K (He.ga K "BadText")
  h_BadText : PySem.W.exmOne K (.ref (He.ga K "BadText")) (.ref (He.ga K "TestError")) = some true
  g_Cursor : mg "Cursor" = some (.ref (He.ga K "Cursor"))
  k_Cursor : Cls K (He.ga K "Cursor")
  mk_Cursor : Mk K (He.ga K "Cursor") (He.ma K (He.ga K "Cursor") "__init__")
  n_Cursor_words : NoAttr K (He.ga K "Cursor") "words"
  n_Cursor_at : NoAttr K (He.ga K "Cursor") "at"
  me_Cursor_next : Meth K (He.ga K "Cursor") "next" (He.ma K (He.ga K "Cursor") "next")
  me_Cursor_word : Meth K (He.ga K "Cursor") "word" (He.ma K (He.ga K "Cursor") "word")
  me_Cursor_number : Meth K (He.ga K "Cursor") "number" (He.ma K (He.ga K "Cursor") "number")
  me_Cursor_new_name : Meth K (He.ga K "Cursor") "new_name" (He.ma K (He.ga K "Cursor") "new_name")
  me_Cursor_expression : Meth K (He.ga K "Cursor") "expression" (He.ma K (He.ga K "Cursor") "expression")
  me_Cursor_finish : Meth K (He.ga K "Cursor") "finish" (He.ma K (He.ga K "Cursor") "finish")
  o_Cursor : PySem.W.selfFirst K (He.ga K "Cursor") = true ∧ L2.My.NeC K (He.ga K "Cursor")
  q_Cursor : He.clsB K "Cursor" = true
  g_Box : mg "Box" = some (.ref (He.ga K "Box"))
  k_Box : Cls K (He.ga K "Box")
  mk_Box : Mk K (He.ga K "Box") (He.ma K (He.ga K "Box") "__init__")
  n_Box_buttons : NoAttr K (He.ga K "Box") "buttons"
  n_Box_answers : NoAttr K (He.ga K "Box") "answers"
  n_Box_variables : NoAttr K (He.ga K "Box") "variables"
  n_Box_start : NoAttr K (He.ga K "Box") "start"
  n_Box_block : NoAttr K (He.ga K "Box") "block"
  me_Box_eq : Meth K (He.ga K "Box") "__eq__" (He.ma K (He.ga K "Box") "__eq__")
  o_Box : PySem.W.selfFirst K (He.ga K "Box") = true ∧ L2.My.NeC K (He.ga K "Box")
  q_Box : He.clsB K "Box" = true
  g_Reader : mg "Reader" = some (.ref (He.ga K "Reader"))
  k_Reader : Cls K (He.ga K "Reader")
  mk_Reader : Mk K (He.ga K "Reader") (He.ma K (He.ga K "Reader") "__init__")
  n_Reader_cursor : NoAttr K (He.ga K "Reader") "cursor"
  n_Reader_names : NoAttr K (He.ga K "Reader") "names"
  n_Reader_left : NoAttr K (He.ga K "Reader") "left"
  n_Reader_uses : NoAttr K (He.ga K "Reader") "uses"
  n_Reader_extra : NoAttr K (He.ga K "Reader") "extra"
  me_Reader_statement : Meth K (He.ga K "Reader") "statement" (He.ma K (He.ga K "Reader") "statement")
  me_Reader_choice : Meth K (He.ga K "Reader") "choice" (He.ma K (He.ga K "Reader") "choice")
  me_Reader_block : Meth K (He.ga K "Reader") "block" (He.ma K (He.ga K "Reader") "block")
  o_Reader : PySem.W.selfFirst K (He.ga K "Reader") = true ∧ L2.My.NeC K (He.ga K "Reader")
  q_Reader : He.clsB K "Reader" = true
  g_KEYS : mg "KEYS" = some (.ref (He.ga K "KEYS"))
  kt_KEYS : He.KTup K (He.ga K "KEYS") ["buttons", "answers", "var", "start", "press", "set", "draw", "use", "say", "if", "else", "end", "mod"]
  g_SIGNS : mg "SIGNS" = some (.ref (He.ga K "SIGNS"))
  kt_SIGNS : He.KTup K (He.ga K "SIGNS") ["+", "-", "*", "/", "mod", "<", "="]
  c_GREATEST : ∃ t, mg "GREATEST" = some (.int 65535 t)
  c_DEEPEST : ∃ t, mg "DEEPEST" = some (.int 5 t)
  c_MOST_VARIABLES : ∃ t, mg "MOST_VARIABLES" = some (.int 4 t)
  c_MOST_SIZE : ∃ t, mg "MOST_SIZE" = some (.int 12 t)
  c_MOST_DRAWS : ∃ t, mg "MOST_DRAWS" = some (.int 3 t)
  c_MOST_USES : ∃ t, mg "MOST_USES" = some (.int 24 t)
  c_MOST_RESULTS : ∃ t, mg "MOST_RESULTS" = some (.int 6 t)
  c_MOST_IFS : ∃ t, mg "MOST_IFS" = some (.int 4 t)
  hs_BadText : PySem.W.exmOne K (.ref (He.ga K "BadText")) (.ref (He.ga K "BadText")) = some true
  i_Box_int : PySem.W.kitOne K (.ref (He.ga K "Box")) (.type "int") = some false
  i_int_Box : PySem.W.kitOne K (.type "int") (.ref (He.ga K "Box")) = some false
  i_Box_tuple : PySem.W.kitOne K (.ref (He.ga K "Box")) (.type "tuple") = some false
  i_tuple_Box : PySem.W.kitOne K (.type "tuple") (.ref (He.ga K "Box")) = some false
  i_Box_list : PySem.W.kitOne K (.ref (He.ga K "Box")) (.type "list") = some false
  i_list_Box : PySem.W.kitOne K (.type "list") (.ref (He.ga K "Box")) = some false
  i_Box_str : PySem.W.kitOne K (.ref (He.ga K "Box")) (.type "str") = some false
  i_str_Box : PySem.W.kitOne K (.type "str") (.ref (He.ga K "Box")) = some false
  m_len : mg "len" = none
  m_int : mg "int" = none
  m_range : mg "range" = none
  m_str : mg "str" = none
  m_isinstance : mg "isinstance" = none
  m_tuple : mg "tuple" = none
  m_list : mg "list" = none
  m_ValueError : mg "ValueError" = none
  m_super : mg "super" = none
  m_all : mg "all" = none
  m_bool : mg "bool" = none
theorem tx_of {K : PySem.W.Frag} {h : Heap} {mg : Str → Option Value} (X : K.In h) (G : h.Ns mainGlobals mg) (c : He.SaysM PySem.Challenge.pw_notesttells_k52_bounds_of_boxes Hd.fa Hd.fn Hd.fs Hd.ex K) : Tx K mg := by
  have z := c.bools.2.2.2
  unfold Hd.ex at z
  obtain ⟨z_0, z⟩ := He.ba z
  obtain ⟨z_1, z⟩ := He.ba z
  obtain ⟨z_2, z⟩ := He.ba z
  obtain ⟨z_3, z⟩ := He.ba z
  obtain ⟨z_4, z⟩ := He.ba z
  obtain ⟨z_5, z⟩ := He.ba z
  obtain ⟨z_6, z⟩ := He.ba z
  obtain ⟨z_7, z⟩ := He.ba z
  obtain ⟨z_8, z⟩ := He.ba z
  obtain ⟨z_9, z⟩ := He.ba z
  obtain ⟨z_10, z⟩ := He.ba z
  obtain ⟨z_11, z⟩ := He.ba z
  obtain ⟨z_12, z⟩ := He.ba z
  obtain ⟨z_13, z⟩ := He.ba z
  obtain ⟨z_14, z⟩ := He.ba z
  obtain ⟨z_15, z⟩ := He.ba z
  have z_16 := z
  exact ⟨He.glo_ok X G (c.fact 16),
    He.glo_ok X G (c.fact 17),
    c.sup_ 0,
    He.noat_ok (c.fact 18),
    He.excB_ok z_0,
    He.exm_ok (c.fact 19),
    He.glo_ok X G (c.fact 20),
    He.cls_ok (c.fact 21),
    He.mkr_ok (c.fact 22),
    He.noat_ok (c.fact 23),
    He.noat_ok (c.fact 24),
    He.meth_ok (c.fact 25),
    He.meth_ok (c.fact 26),
    He.meth_ok (c.fact 27),
    He.meth_ok (c.fact 28),
    He.meth_ok (c.fact 29),
    He.meth_ok (c.fact 30),
    He.opsB_ok z_1,
    z_2,
    He.glo_ok X G (c.fact 31),
    He.cls_ok (c.fact 32),
    He.mkr_ok (c.fact 33),
    He.noat_ok (c.fact 34),
    He.noat_ok (c.fact 35),
    He.noat_ok (c.fact 36),
    He.noat_ok (c.fact 37),
    He.noat_ok (c.fact 38),
    He.meth_ok (c.fact 39),
    He.opsB_ok z_3,
    z_4,
    He.glo_ok X G (c.fact 40),
    He.cls_ok (c.fact 41),
    He.mkr_ok (c.fact 42),
    He.noat_ok (c.fact 43),
    He.noat_ok (c.fact 44),
    He.noat_ok (c.fact 45),
    He.noat_ok (c.fact 46),
    He.noat_ok (c.fact 47),
    He.meth_ok (c.fact 48),
    He.meth_ok (c.fact 49),
    He.meth_ok (c.fact 50),
    He.opsB_ok z_5,
    z_6,
    He.glo_ok X G (c.fact 51),
    He.kstB_ok z_7,
    He.glo_ok X G (c.fact 52),
    He.kstB_ok z_8,
    He.int_ok X G (c.fact 53),
    He.int_ok X G (c.fact 54),
    He.int_ok X G (c.fact 55),
    He.int_ok X G (c.fact 56),
    He.int_ok X G (c.fact 57),
    He.int_ok X G (c.fact 58),
    He.int_ok X G (c.fact 59),
    He.int_ok X G (c.fact 60),
    He.exm_ok (c.fact 72),
    of_decide_eq_true z_9,
    of_decide_eq_true z_10,
    of_decide_eq_true z_11,
    of_decide_eq_true z_12,
    of_decide_eq_true z_13,
    of_decide_eq_true z_14,
    of_decide_eq_true z_15,
    of_decide_eq_true z_16,
    He.free_ok X G (c.fact 61),
    He.free_ok X G (c.fact 62),
    He.free_ok X G (c.fact 63),
    He.free_ok X G (c.fact 64),
    He.free_ok X G (c.fact 65),
    He.free_ok X G (c.fact 66),
    He.free_ok X G (c.fact 67),
    He.free_ok X G (c.fact 68),
    He.free_ok X G (c.fact 69),
    He.free_ok X G (c.fact 70),
    He.free_ok X G (c.fact 71)⟩
end Lw
namespace Lw
open PySem PySem.Spec PyProof.Rows L2 L2.My
abbrev V_Box : Type := (((((Unit × Int) × Int) × (List (Str × Int))) × (List Dt)) × (List Dt))
abbrev d_Box (K : PySem.W.Frag) : FDs V_Box := (fdE (fdE (fdE (fdE (fdE fdN "buttons" tInt) "answers" tInt) "variables" (lT (tPair tTx tInt))) "start" (lT tDt)) "block" (lT tDt))
abbrev S_Cursor : Type := ((Unit × (List Str)) × Int)
abbrev md_Cursor (K : PySem.W.Frag) : MDs S_Cursor := (mdF (mdM mdN "words" (mL tTx)) "at" tInt)
abbrev S_Reader : Type := (((((Unit × (Addr × S_Cursor)) × (List Str)) × Int) × Int) × (List Str))
abbrev md_Reader (K : PySem.W.Frag) : MDs S_Reader := (mdF (mdF (mdF (mdF (mdM mdN "cursor" (mAd (mObj (He.ga K "Cursor") (md_Cursor K)))) "names" (lL tTx)) "left" tInt) "uses" tInt) "extra" (lT tTx))
abbrev rdP_cursor (x : S_Reader) (y : (Addr × S_Cursor)) : S_Reader := ((((((((((x).1).1).1).1).1, y), ((((x).1).1).1).2), (((x).1).1).2), ((x).1).2), (x).2)
abbrev rdP_names (x : S_Reader) (y : (List Str)) : S_Reader := ((((((((x).1).1).1).1, y), (((x).1).1).2), ((x).1).2), (x).2)
abbrev rdP_left (x : S_Reader) (y : Int) : S_Reader := ((((((x).1).1).1, y), ((x).1).2), (x).2)
abbrev rdP_uses (x : S_Reader) (y : Int) : S_Reader := ((((x).1).1, y), (x).2)
abbrev rdP_extra (x : S_Reader) (y : (List Str)) : S_Reader := ((x).1, y)
abbrev S_ReaderM : Type := (((((Unit × (Addr × S_Cursor)) × (List Str)) × Int) × Int) × (List Str))
abbrev md_ReaderM (K : PySem.W.Frag) : MDs S_ReaderM := (mdF (mdF (mdF (mdM (mdM mdN "cursor" (mAd (mObj (He.ga K "Cursor") (md_Cursor K)))) "names" (mL tTx)) "left" tInt) "uses" tInt) "extra" (lT tTx))
abbrev excS : List Str := ["BadText"]
def m_digits_of (p_word : Str) (p_most : Int) : Wp (Option Int) := Wp.out (
 if ((!((decide ((0 : Int) < (((p_word).length : Nat) : Int))) && (decide ((((p_word).length : Nat) : Int) ≤ p_most)))) || (!(((((chs p_word)).map fun x1 => (inS x1 ("0123456789" : Str)))).all id))) = true then Wp.up (Wp.ok (.ret none)) else
 ((((Wp.get (chAt p_word (0 : Int)))).bind fun x2 => ((Wp.ok ("0" : Str))).bind fun x3 => Wp.ok (decide (x2 = x3))).bind fun x4 => if x4 = true then (Wp.ok (!decide (p_word = ("0" : Str)))) else Wp.ok false).bind fun x7 => if x7 = true then Wp.up (Wp.ok (.ret none)) else
 (((Wp.req ((p_word).length ≤ 640) (Wp.get (PySem.intText? p_word)))).bind fun y5 => Wp.ok (some y5)).bind fun x6 => Wp.ok (.ret x6))
def m_is_name (p_word : Str) : Wp Bool := Wp.out (
 Wp.ok (.ret (((decide ((0 : Int) < (((p_word).length : Nat) : Int))) && (decide ((((p_word).length : Nat) : Int) ≤ (8 : Int)))) && ((true ^^ decide (p_word ∈ (["buttons", "answers", "var", "start", "press", "set", "draw", "use", "say", "if", "else", "end", "mod"] : List Str))) && (((((chs p_word)).map fun x1 => ((!decide ((x1).cps.toList < (("a" : Str)).cps.toList)) && (!decide ((("z" : Str)).cps.toList < (x1).cps.toList))))).all id)))))
def m_number_of (p_word : Str) : Wp (Option Int) := Wp.out (
 ((m_digits_of p_word (5 : Int))).bind fun x1 =>
 ((((Wp.ok (x1).isNone)).bind fun x7 => if x7 = true then Wp.ok true else ((Wp.get x1)).bind fun x5 => ((Wp.ok (65535 : Int))).bind fun x6 => Wp.ok (decide (x6 < x5))).bind fun x8 => if x8 = true then (Wp.ok none) else (Wp.ok x1)).bind fun x9 => Wp.ok (.ret x9))
def m_Cursor_initS (p_text : Str) : Wp S_Cursor := Wp.ini (
 ((if (decide ((p_text).length ≠ 0)) = true then ((Wp.ok p_text)).bind fun x1 => ((Wp.ok (" " : Str))).bind fun x2 => Wp.req (0 < (x2).length) (Wp.ok (Txt.split x1 x2)) else (Wp.ok ([] : (List Str))))).bind fun x3 =>
 ((Wp.ok (0 : Int))).bind fun x4 =>
 Wp.ok (.nx (((), x3), x4)))
def m_Cursor_nextS (p_self : S_Cursor) : Wp ((Option Str) × S_Cursor) := Wp.out (
 (((if (decide ((p_self).2 < ((((p_self).1.2).length : Nat) : Int))) = true then ((Wp.get (atI (p_self).1.2 (p_self).2))).bind fun y2 => Wp.ok (some y2) else (Wp.ok none))).bind fun y3 => Wp.ok (y3, p_self)).bind fun x4 => Wp.ok (.ret x4))
def m_Cursor_wordS (p_self : S_Cursor) (p_words : (List Str)) : Wp (Str × S_Cursor) := Wp.out (
 ((Wp.ok ((), p_self)).bind fun x1 => m_Cursor_nextS x1.2 ).bind fun x2 =>
 (((Wp.ok (x2.1).isNone)).bind fun x5 => if x5 = true then Wp.ok true else ((Wp.get x2.1)).bind fun x3 => ((Wp.ok p_words)).bind fun x4 => Wp.ok (!decide (x3 ∈ x4))).bind fun x11 => if x11 = true then Wp.up ((Wp.ok ((x2.2).2, ())).bind fun x6 => Wp.raise ⟨"BadText", some ("at", .int x6.1)⟩) else
 ((Wp.ok (1 : Int))).bind fun x7 => (Wp.ok ((x2.2).2 + x7)).bind fun x8 =>
 (((Wp.get x2.1)).bind fun y9 => Wp.ok (y9, ((x2.2).1, x8))).bind fun x10 => Wp.ok (.ret x10))
def m_Cursor_numberS (p_self : S_Cursor) (p_least : Int) (p_most : Int) : Wp (Int × S_Cursor) := Wp.out (
 ((Wp.ok ((), p_self)).bind fun x1 => m_Cursor_nextS x1.2 ).bind fun x2 =>
 ((if (x2.1).isNone = true then (Wp.ok none) else (((Wp.get x2.1)).bind fun x6 => (Wp.ok ()).bind fun x7 => Wp.ok (x6, x7)).bind fun x8 => m_number_of x8.1)).bind fun x9 =>
 (((Wp.ok (x9).isNone)).bind fun x15 => if x15 = true then Wp.ok true else (((Wp.ok p_least)).bind fun x10 => ((Wp.get x9)).bind fun x11 => (Wp.ok (decide (x10 ≤ x11))).bind fun x13 => if x13 = true then ((Wp.ok p_most)).bind fun x12 => Wp.ok (decide (x11 ≤ x12)) else Wp.ok false).bind fun x14 => Wp.ok (!x14)).bind fun x21 => if x21 = true then Wp.up ((Wp.ok ((x2.2).2, ())).bind fun x16 => Wp.raise ⟨"BadText", some ("at", .int x16.1)⟩) else
 ((Wp.ok (1 : Int))).bind fun x17 => (Wp.ok ((x2.2).2 + x17)).bind fun x18 =>
 (((Wp.get x9)).bind fun y19 => Wp.ok (y19, ((x2.2).1, x18))).bind fun x20 => Wp.ok (.ret x20))
def m_Cursor_new_nameS (p_self : S_Cursor) (p_names : (List Str)) : Wp (Str × S_Cursor) := Wp.out (
 ((Wp.ok ((), p_self)).bind fun x1 => m_Cursor_nextS x1.2 ).bind fun x2 =>
 (((Wp.ok (x2.1).isNone)).bind fun x10 => if x10 = true then Wp.ok true else (((((Wp.get x2.1)).bind fun x5 => (Wp.ok ()).bind fun x6 => Wp.ok (x5, x6)).bind fun x7 => m_is_name x7.1).bind fun x8 => Wp.ok (!x8)).bind fun x9 => if x9 = true then Wp.ok true else ((Wp.get x2.1)).bind fun x3 => ((Wp.ok p_names)).bind fun x4 => Wp.ok (decide (x3 ∈ x4))).bind fun x16 => if x16 = true then Wp.up ((Wp.ok ((x2.2).2, ())).bind fun x11 => Wp.raise ⟨"BadText", some ("at", .int x11.1)⟩) else
 ((Wp.ok (1 : Int))).bind fun x12 => (Wp.ok ((x2.2).2 + x12)).bind fun x13 =>
 (((Wp.get x2.1)).bind fun y14 => Wp.ok (y14, ((x2.2).1, x13))).bind fun x15 => Wp.ok (.ret x15))
def m_Cursor_expressionS : Nat → S_Cursor → (List Str) → (List Str) → Int → Wp (Dt × S_Cursor)
 | 0, _, _, _, _ => .stuck
 | n + 1, p_self, p_names, p_extra, p_room => Wp.out (
 ((Wp.ok ((), p_self)).bind fun x1 => m_Cursor_nextS x1.2 ).bind fun x2 =>
 if (x2.1).isNone = true then Wp.up ((Wp.ok ((x2.2).2, ())).bind fun x3 => Wp.raise ⟨"BadText", some ("at", .int x3.1)⟩) else
 ((Wp.ok (1 : Int))).bind fun x4 => (Wp.ok ((x2.2).2 + x4)).bind fun x5 =>
 ((((Wp.get x2.1)).bind fun x6 => Wp.ok (false ^^ decide (x6 ∈ (["+", "-", "*", "/", "mod", "<", "="] : List Str)))).bind fun x7 => if x7 = true then (Wp.ok (decide ((1 : Int) < p_room))) else Wp.ok false).bind fun x78 => if x78 = true then Wp.up (((((Wp.ok (p_names, ((x2.2).1, x5)))).bind fun x15 => (Wp.ap (fun s8 : S_Cursor => ((((Wp.ok (p_extra, s8))).bind fun x13 => (Wp.ap (fun s9 : S_Cursor => ((((Wp.ok ((p_room - (1 : Int)), s9))).bind fun x11 => (Wp.ap (fun s10 : S_Cursor => ((Wp.ok ((), s10)) : Wp (Unit × S_Cursor))) x11.2).bind fun x12 => Wp.ok ((x11.1, x12.1), x12.2)) : Wp ((Int × Unit) × S_Cursor))) x13.2).bind fun x14 => Wp.ok ((x13.1, x14.1), x14.2)) : Wp (((List Str) × (Int × Unit)) × S_Cursor))) x15.2).bind fun x16 => Wp.ok ((x15.1, x16.1), x16.2)).bind fun x17 => m_Cursor_expressionS n x17.2 x17.1.1 x17.1.2.1 x17.1.2.2.1).bind fun x18 =>
 (((((((Wp.get x2.1)).bind fun y19 => Wp.ok (Dt.str y19)).bind fun y20 => Wp.ok (y20, x18.2)).bind fun x38 => (Wp.ap (fun s21 : S_Cursor => ((((Wp.ok (x18.1, s21))).bind fun x36 => (Wp.ap (fun s22 : S_Cursor => ((((((Wp.ok (p_names, s22))).bind fun x30 => (Wp.ap (fun s23 : S_Cursor => ((((Wp.ok (p_extra, s23))).bind fun x28 => (Wp.ap (fun s24 : S_Cursor => ((((Wp.ok ((p_room - (1 : Int)), s24))).bind fun x26 => (Wp.ap (fun s25 : S_Cursor => ((Wp.ok ((), s25)) : Wp (Unit × S_Cursor))) x26.2).bind fun x27 => Wp.ok ((x26.1, x27.1), x27.2)) : Wp ((Int × Unit) × S_Cursor))) x28.2).bind fun x29 => Wp.ok ((x28.1, x29.1), x29.2)) : Wp (((List Str) × (Int × Unit)) × S_Cursor))) x30.2).bind fun x31 => Wp.ok ((x30.1, x31.1), x31.2)).bind fun x32 => m_Cursor_expressionS n x32.2 x32.1.1 x32.1.2.1 x32.1.2.2.1).bind fun x34 => (Wp.ap (fun s33 : S_Cursor => ((Wp.ok ((), s33)) : Wp (Unit × S_Cursor))) x34.2).bind fun x35 => Wp.ok ((x34.1, x35.1), x35.2)) : Wp ((Dt × Unit) × S_Cursor))) x36.2).bind fun x37 => Wp.ok ((x36.1, x37.1), x37.2)) : Wp ((Dt × (Dt × Unit)) × S_Cursor))) x38.2).bind fun x39 => Wp.ok ((x38.1, x39.1), x39.2)).bind fun x40 => Wp.ok ([x40.1.1, x40.1.2.1, x40.1.2.2.1], x40.2)).bind fun y => Wp.ok (Dt.tup y.1, y.2)).bind fun x41 => Wp.ok (.ret x41)) else
 (((Wp.get x2.1)).bind fun x42 => ((Wp.ok p_names)).bind fun x43 => Wp.ok (decide (x42 ∈ x43))).bind fun x77 => if x77 = true then Wp.up (((((((Wp.ok (Dt.str ("variable" : Str)))).bind fun x47 => ((((Wp.get x2.1)).bind fun y44 => Wp.ok (Dt.str y44)).bind fun x45 => (Wp.ok ()).bind fun x46 => Wp.ok (x45, x46)).bind fun x48 => Wp.ok (x47, x48)).bind fun x49 => Wp.ok [x49.1, x49.2.1]).bind fun y50 => Wp.ok (Dt.tup y50)).bind fun y51 => Wp.ok (y51, ((x2.2).1, x5))).bind fun x52 => Wp.ok (.ret x52)) else
 (((Wp.get x2.1)).bind fun x53 => ((Wp.ok p_extra)).bind fun x54 => Wp.ok (decide (x53 ∈ x54))).bind fun x76 => if x76 = true then Wp.up ((((((((Wp.get x2.1)).bind fun y55 => Wp.ok (Dt.str y55)).bind fun x56 => (Wp.ok ()).bind fun x57 => Wp.ok (x56, x57)).bind fun x58 => Wp.ok [x58.1]).bind fun y59 => Wp.ok (Dt.tup y59)).bind fun y60 => Wp.ok (y60, ((x2.2).1, x5))).bind fun x61 => Wp.ok (.ret x61)) else
 ((((Wp.get x2.1)).bind fun x62 => (Wp.ok ()).bind fun x63 => Wp.ok (x62, x63)).bind fun x64 => m_number_of x64.1).bind fun x65 =>
 if (x65).isNone = true then Wp.up ((Wp.ok (((((x2.2).1, x5)).2 - (1 : Int)), ())).bind fun x66 => Wp.raise ⟨"BadText", some ("at", .int x66.1)⟩) else
 ((((((Wp.ok (Dt.str ("number" : Str)))).bind fun x70 => ((((Wp.get x65)).bind fun y67 => Wp.ok (Dt.int y67)).bind fun x68 => (Wp.ok ()).bind fun x69 => Wp.ok (x68, x69)).bind fun x71 => Wp.ok (x70, x71)).bind fun x72 => Wp.ok [x72.1, x72.2.1]).bind fun y73 => Wp.ok (Dt.tup y73)).bind fun y74 => Wp.ok (y74, ((x2.2).1, x5))).bind fun x75 => Wp.ok (.ret x75))
def m_Cursor_finishS (p_self : S_Cursor) : Wp (Unit × S_Cursor) := (Wp.ini (
 if (decide ((p_self).2 < ((((p_self).1.2).length : Nat) : Int))) = true then Wp.up ((Wp.ok ((p_self).2, ())).bind fun x1 => Wp.raise ⟨"BadText", some ("at", .int x1.1)⟩) else
 Wp.ok (.nx p_self))).bind fun s => .ok ((), s)
def m_expression_words : Nat → Dt → Wp (List Str)
 | 0, _ => .stuck
 | n + 1, p_expression => Wp.out (
 (((((Wp.get (dtT p_expression))).bind fun x1 => (Wp.ok ()).bind fun x2 => Wp.ok (x1, x2)).bind fun x3 => Wp.ok (((x3.1).length : Nat) : Int)).bind fun x4 => ((Wp.ok (3 : Int))).bind fun x5 => Wp.ok (decide (x4 = x5))).bind fun x36 => if x36 = true then Wp.up (((((((Wp.get (dtT p_expression))).bind fun x22 => ((Wp.ok (0 : Int))).bind fun x23 => (Wp.get (atI x22 x23))).bind fun y24 => Wp.get (dtS y24)).bind fun x20 => ((((((Wp.get (dtT p_expression))).bind fun x15 => ((Wp.ok (1 : Int))).bind fun x16 => (Wp.get (atI x15 x16))).bind fun x17 => (Wp.ok ()).bind fun x18 => Wp.ok (x17, x18)).bind fun x19 => m_expression_words n x19.1).bind fun x13 => ((((((Wp.get (dtT p_expression))).bind fun x8 => ((Wp.ok (2 : Int))).bind fun x9 => (Wp.get (atI x8 x9))).bind fun x10 => (Wp.ok ()).bind fun x11 => Wp.ok (x10, x11)).bind fun x12 => m_expression_words n x12.1).bind fun x6 => (Wp.ok []).bind fun x7 => Wp.ok (x6 ++ x7)).bind fun x14 => Wp.ok (x13 ++ x14)).bind fun x21 => Wp.ok (x20 :: x21)).bind fun x25 => Wp.req ((x25).length ≤ 16777215) (Wp.ok x25)).bind fun x26 => Wp.ok (.ret x26)) else
 (((((((Wp.get (dtT p_expression))).bind fun x27 => ((Wp.ok (-(1 : Int)))).bind fun x28 => (Wp.get (atI x27 x28))).bind fun x29 => (Wp.ok ()).bind fun x30 => Wp.ok (x29, x30)).bind fun x31 => (strD x31.1)).bind fun x32 => (Wp.ok ()).bind fun x33 => Wp.ok (x32, x33)).bind fun x34 => Wp.ok [x34.1]).bind fun x35 => Wp.ok (.ret x35))
def m_Box_init (p_buttons : Int) (p_answers : Int) (p_variables : (List (Str × Int))) (p_start : (List Dt)) (p_block : (List Dt)) : Wp V_Box := Wp.ini (
 ((Wp.ok p_buttons)).bind fun x1 =>
 ((Wp.ok p_answers)).bind fun x2 =>
 ((Wp.ok p_variables)).bind fun x3 =>
 ((Wp.ok p_start)).bind fun x4 =>
 ((Wp.ok p_block)).bind fun x5 =>
 Wp.ok (.nx ((((((), x1), x2), x3), x4), x5)))
def m_Reader_init (p_cursor : S_Cursor) (q0 : Addr) (p_uses : Int) : Wp S_ReaderM := Wp.ini (
 ((Wp.ok ([] : (List Str)))).bind fun x1 =>
 ((Wp.ok (3 : Int))).bind fun x2 =>
 ((Wp.ok p_uses)).bind fun x3 =>
 ((Wp.ok ([] : (List Str)))).bind fun x4 =>
 Wp.ok (.nx ((((((), (q0, p_cursor)), x1), x2), x3), x4)))
def m_Reader_choice (blk : S_Reader → Int → Wp ((List Dt) × S_Reader)) (p_self : S_Reader) (p_room : Int) : Wp (Dt × S_Reader) := Wp.out (
 ((Wp.ok (1 : Int))).bind fun x1 => (Wp.ok ((((p_self).1.1.1.1.2).2).2 + x1)).bind fun x2 =>
 ((Wp.ok (((rdP_cursor (p_self) ((((p_self).1.1.1.1.2).1, ((((p_self).1.1.1.1.2).2).1, x2))))).1.1.1.2, ((rdP_cursor (p_self) ((((p_self).1.1.1.1.2).1, ((((p_self).1.1.1.1.2).2).1, x2))))).2, (5 : Int), ())).bind fun x4 => (m_Cursor_expressionS 6 ((((rdP_cursor (p_self) ((((p_self).1.1.1.1.2).1, ((((p_self).1.1.1.1.2).2).1, x2))))).1.1.1.1.2).2) x4.1 x4.2.1 x4.2.2.1).bind fun y3 => Wp.ok (y3.1, (rdP_cursor ((rdP_cursor (p_self) ((((p_self).1.1.1.1.2).1, ((((p_self).1.1.1.1.2).2).1, x2))))) (((((rdP_cursor (p_self) ((((p_self).1.1.1.1.2).1, ((((p_self).1.1.1.1.2).2).1, x2))))).1.1.1.1.2).1, y3.2))))).bind fun x5 =>
 ((((Wp.ok ((p_room - (1 : Int)), x5.2))).bind fun x7 => (Wp.ap (fun s6 : S_Reader => ((Wp.ok ((), s6)) : Wp (Unit × S_Reader))) x7.2).bind fun x8 => Wp.ok ((x7.1, x8.1), x8.2)).bind fun x9 => blk x9.2 x9.1.1).bind fun x10 =>
 ((Wp.ok ([] : (List Dt)))).bind fun x11 =>
 ((Wp.ok (if ((!((x10.2).1.1.1.2).isEmpty) || ((!((x10.2).2).isEmpty) || (decide ((1 : Int) < p_room)))) = true then ([("else" : Str), ("end" : Str)] : (List Str)) else ([("end" : Str)] : (List Str))))).bind fun x12 =>
 Wp.seq ((((Wp.ok (x12, ())).bind fun x14 => (m_Cursor_wordS (((x10.2).1.1.1.1.2).2) x14.1).bind fun y13 => Wp.ok (y13.1, (rdP_cursor (x10.2) ((((x10.2).1.1.1.1.2).1, y13.2))))).bind fun x16 => (Wp.ap (fun s15 : S_Reader => (((Wp.ok (("else" : Str), s15))) : Wp (Str × S_Reader))) x16.2).bind fun x17 => ((Wp.ok (decide (x16.1 = x17.1)))).bind fun x18 => Wp.ok (x18, x17.2)).bind fun x30 => if x30.1 = true then Wp.ap (fun s19 : S_Reader => ((((Wp.ok ((p_room - (1 : Int)), s19))).bind fun x22 => (Wp.ap (fun s21 : S_Reader => ((Wp.ok ((), s21)) : Wp (Unit × S_Reader))) x22.2).bind fun x23 => Wp.ok ((x22.1, x23.1), x23.2)).bind fun x24 => blk x24.2 x24.1.1).bind fun x25 =>
 if (!(!(x25.1).isEmpty)) = true then Wp.up ((Wp.ok ((((x25.2).1.1.1.1.2).2).2, ())).bind fun x26 => Wp.raise ⟨"BadText", some ("at", .int x26.1)⟩) else
 ((Wp.ok (([("end" : Str)] : (List Str)), ())).bind fun x28 => (m_Cursor_wordS (((x25.2).1.1.1.1.2).2) x28.1).bind fun y27 => Wp.ok (y27.1, (rdP_cursor (x25.2) ((((x25.2).1.1.1.1.2).1, y27.2))))).bind fun x29 =>
 Wp.ok (.nx ((x25.1), (x29.2)))) x30.2 else Wp.ap (fun s19 : S_Reader => Wp.ok (.nx ((x11), (s19)))) x30.2) fun z20 : (List Dt) × S_Reader =>
 ((Wp.ok ((Dt.tup ([(Dt.str ("if" : Str)), x5.1, (Dt.tup x10.1), (Dt.tup z20.1)] : (List Dt))), z20.2))).bind fun x31 => Wp.ok (.ret x31))
def m_Reader_statement (cho : S_Reader → Int → Wp (Dt × S_Reader)) (p_self : S_Reader) (p_room : Int) : Wp ((Option Dt) × S_Reader) := Wp.out (
 ((Wp.ok (())).bind fun x2 => (m_Cursor_nextS (((p_self).1.1.1.1.2).2) ).bind fun y1 => Wp.ok (y1.1, (rdP_cursor (p_self) ((((p_self).1.1.1.1.2).1, y1.2))))).bind fun x3 =>
 if ((decide (x3.1 = some ("set" : Str))) && (!((x3.2).1.1.1.2).isEmpty)) = true then Wp.up (((Wp.ok (1 : Int))).bind fun x4 => (Wp.ok ((((x3.2).1.1.1.1.2).2).2 + x4)).bind fun x5 =>
 ((Wp.ok (((rdP_cursor (x3.2) ((((x3.2).1.1.1.1.2).1, ((((x3.2).1.1.1.1.2).2).1, x5))))).1.1.1.2, ())).bind fun x7 => (m_Cursor_wordS ((((rdP_cursor (x3.2) ((((x3.2).1.1.1.1.2).1, ((((x3.2).1.1.1.1.2).2).1, x5))))).1.1.1.1.2).2) x7.1).bind fun y6 => Wp.ok (y6.1, (rdP_cursor ((rdP_cursor (x3.2) ((((x3.2).1.1.1.1.2).1, ((((x3.2).1.1.1.1.2).2).1, x5))))) (((((rdP_cursor (x3.2) ((((x3.2).1.1.1.1.2).1, ((((x3.2).1.1.1.1.2).2).1, x5))))).1.1.1.1.2).1, y6.2))))).bind fun x8 =>
 ((((((Wp.ok ((Dt.str ("set" : Str)), x8.2))).bind fun x18 => (Wp.ap (fun s9 : S_Reader => ((((Wp.ok ((Dt.str x8.1), s9))).bind fun x16 => (Wp.ap (fun s10 : S_Reader => ((((Wp.ok ((s10).1.1.1.2, (s10).2, (5 : Int), ())).bind fun x12 => (m_Cursor_expressionS 6 (((s10).1.1.1.1.2).2) x12.1 x12.2.1 x12.2.2.1).bind fun y11 => Wp.ok (y11.1, (rdP_cursor s10 ((((s10).1.1.1.1.2).1, y11.2))))).bind fun x14 => (Wp.ap (fun s13 : S_Reader => ((Wp.ok ((), s13)) : Wp (Unit × S_Reader))) x14.2).bind fun x15 => Wp.ok ((x14.1, x15.1), x15.2)) : Wp ((Dt × Unit) × S_Reader))) x16.2).bind fun x17 => Wp.ok ((x16.1, x17.1), x17.2)) : Wp ((Dt × (Dt × Unit)) × S_Reader))) x18.2).bind fun x19 => Wp.ok ((x18.1, x19.1), x19.2)).bind fun x20 => Wp.ok ([x20.1.1, x20.1.2.1, x20.1.2.2.1], x20.2)).bind fun y => Wp.ok (Dt.tup y.1, y.2)).bind fun y => Wp.ok (some y.1, y.2)).bind fun x21 => Wp.ok (.ret x21)) else
 if ((decide (x3.1 = some ("draw" : Str))) && ((!((x3.2).1.1.1.2).isEmpty) && (decide ((x3.2).1.1.2 ≠ 0)))) = true then Wp.up (((Wp.ok (1 : Int))).bind fun x22 => (Wp.ok ((((x3.2).1.1.1.1.2).2).2 + x22)).bind fun x23 =>
 ((Wp.ok (1 : Int))).bind fun x24 => (Wp.ok (((rdP_cursor (x3.2) ((((x3.2).1.1.1.1.2).1, ((((x3.2).1.1.1.1.2).2).1, x23))))).1.1.2 - x24)).bind fun x25 =>
 ((Wp.ok (((rdP_left ((rdP_cursor (x3.2) ((((x3.2).1.1.1.1.2).1, ((((x3.2).1.1.1.1.2).2).1, x23))))) (x25))).1.1.1.2, ())).bind fun x27 => (m_Cursor_wordS ((((rdP_left ((rdP_cursor (x3.2) ((((x3.2).1.1.1.1.2).1, ((((x3.2).1.1.1.1.2).2).1, x23))))) (x25))).1.1.1.1.2).2) x27.1).bind fun y26 => Wp.ok (y26.1, (rdP_cursor ((rdP_left ((rdP_cursor (x3.2) ((((x3.2).1.1.1.1.2).1, ((((x3.2).1.1.1.1.2).2).1, x23))))) (x25))) (((((rdP_left ((rdP_cursor (x3.2) ((((x3.2).1.1.1.1.2).1, ((((x3.2).1.1.1.1.2).2).1, x23))))) (x25))).1.1.1.1.2).1, y26.2))))).bind fun x28 =>
 ((((((Wp.ok ((Dt.str ("draw" : Str)), x28.2))).bind fun x38 => (Wp.ap (fun s29 : S_Reader => ((((Wp.ok ((Dt.str x28.1), s29))).bind fun x36 => (Wp.ap (fun s30 : S_Reader => (((((Wp.ok ((1 : Int), (6 : Int), ())).bind fun x32 => (m_Cursor_numberS (((s30).1.1.1.1.2).2) x32.1 x32.2.1).bind fun y31 => Wp.ok (y31.1, (rdP_cursor s30 ((((s30).1.1.1.1.2).1, y31.2))))).bind fun y => Wp.ok (Dt.int y.1, y.2)).bind fun x34 => (Wp.ap (fun s33 : S_Reader => ((Wp.ok ((), s33)) : Wp (Unit × S_Reader))) x34.2).bind fun x35 => Wp.ok ((x34.1, x35.1), x35.2)) : Wp ((Dt × Unit) × S_Reader))) x36.2).bind fun x37 => Wp.ok ((x36.1, x37.1), x37.2)) : Wp ((Dt × (Dt × Unit)) × S_Reader))) x38.2).bind fun x39 => Wp.ok ((x38.1, x39.1), x39.2)).bind fun x40 => Wp.ok ([x40.1.1, x40.1.2.1, x40.1.2.2.1], x40.2)).bind fun y => Wp.ok (Dt.tup y.1, y.2)).bind fun y => Wp.ok (some y.1, y.2)).bind fun x41 => Wp.ok (.ret x41)) else
 if ((decide (x3.1 = some ("use" : Str))) && ((!((x3.2).1.1.1.2).isEmpty) && (decide ((x3.2).1.2 ≠ 0)))) = true then Wp.up (((Wp.ok (1 : Int))).bind fun x42 => (Wp.ok ((((x3.2).1.1.1.1.2).2).2 + x42)).bind fun x43 =>
 ((Wp.ok (1 : Int))).bind fun x44 => (Wp.ok (((rdP_cursor (x3.2) ((((x3.2).1.1.1.1.2).1, ((((x3.2).1.1.1.1.2).2).1, x43))))).1.2 - x44)).bind fun x45 =>
 ((Wp.ok (((rdP_uses ((rdP_cursor (x3.2) ((((x3.2).1.1.1.1.2).1, ((((x3.2).1.1.1.1.2).2).1, x43))))) (x45))).1.1.1.2, ())).bind fun x47 => (m_Cursor_wordS ((((rdP_uses ((rdP_cursor (x3.2) ((((x3.2).1.1.1.1.2).1, ((((x3.2).1.1.1.1.2).2).1, x43))))) (x45))).1.1.1.1.2).2) x47.1).bind fun y46 => Wp.ok (y46.1, (rdP_cursor ((rdP_uses ((rdP_cursor (x3.2) ((((x3.2).1.1.1.1.2).1, ((((x3.2).1.1.1.1.2).2).1, x43))))) (x45))) (((((rdP_uses ((rdP_cursor (x3.2) ((((x3.2).1.1.1.1.2).1, ((((x3.2).1.1.1.1.2).2).1, x43))))) (x45))).1.1.1.1.2).1, y46.2))))).bind fun x48 =>
 ((((((Wp.ok ((Dt.str ("use" : Str)), x48.2))).bind fun x58 => (Wp.ap (fun s49 : S_Reader => ((((Wp.ok ((Dt.str x48.1), s49))).bind fun x56 => (Wp.ap (fun s50 : S_Reader => ((((Wp.ok ((s50).1.1.1.2, (s50).2, (5 : Int), ())).bind fun x52 => (m_Cursor_expressionS 6 (((s50).1.1.1.1.2).2) x52.1 x52.2.1 x52.2.2.1).bind fun y51 => Wp.ok (y51.1, (rdP_cursor s50 ((((s50).1.1.1.1.2).1, y51.2))))).bind fun x54 => (Wp.ap (fun s53 : S_Reader => ((Wp.ok ((), s53)) : Wp (Unit × S_Reader))) x54.2).bind fun x55 => Wp.ok ((x54.1, x55.1), x55.2)) : Wp ((Dt × Unit) × S_Reader))) x56.2).bind fun x57 => Wp.ok ((x56.1, x57.1), x57.2)) : Wp ((Dt × (Dt × Unit)) × S_Reader))) x58.2).bind fun x59 => Wp.ok ((x58.1, x59.1), x59.2)).bind fun x60 => Wp.ok ([x60.1.1, x60.1.2.1, x60.1.2.2.1], x60.2)).bind fun y => Wp.ok (Dt.tup y.1, y.2)).bind fun y => Wp.ok (some y.1, y.2)).bind fun x61 => Wp.ok (.ret x61)) else
 if ((decide (x3.1 = some ("say" : Str))) && (!((x3.2).2).isEmpty)) = true then Wp.up (((Wp.ok (1 : Int))).bind fun x62 => (Wp.ok ((((x3.2).1.1.1.1.2).2).2 + x62)).bind fun x63 =>
 ((((((Wp.ok ((Dt.str ("say" : Str)), (rdP_cursor (x3.2) ((((x3.2).1.1.1.1.2).1, ((((x3.2).1.1.1.1.2).2).1, x63))))))).bind fun x70 => (Wp.ap (fun s64 : S_Reader => ((((Wp.ok ((s64).1.1.1.2, (s64).2, (5 : Int), ())).bind fun x66 => (m_Cursor_expressionS 6 (((s64).1.1.1.1.2).2) x66.1 x66.2.1 x66.2.2.1).bind fun y65 => Wp.ok (y65.1, (rdP_cursor s64 ((((s64).1.1.1.1.2).1, y65.2))))).bind fun x68 => (Wp.ap (fun s67 : S_Reader => ((Wp.ok ((), s67)) : Wp (Unit × S_Reader))) x68.2).bind fun x69 => Wp.ok ((x68.1, x69.1), x69.2)) : Wp ((Dt × Unit) × S_Reader))) x70.2).bind fun x71 => Wp.ok ((x70.1, x71.1), x71.2)).bind fun x72 => Wp.ok ([x72.1.1, x72.1.2.1], x72.2)).bind fun y => Wp.ok (Dt.tup y.1, y.2)).bind fun y => Wp.ok (some y.1, y.2)).bind fun x73 => Wp.ok (.ret x73)) else
 if ((decide (x3.1 = some ("if" : Str))) && (decide (p_room ≠ 0))) = true then Wp.up ((((((Wp.ok (p_room, x3.2))).bind fun x75 => (Wp.ap (fun s74 : S_Reader => ((Wp.ok ((), s74)) : Wp (Unit × S_Reader))) x75.2).bind fun x76 => Wp.ok ((x75.1, x76.1), x76.2)).bind fun x77 => cho x77.2 x77.1.1).bind fun y => Wp.ok (some y.1, y.2)).bind fun x78 => Wp.ok (.ret x78)) else
 ((Wp.ok (none, x3.2))).bind fun x79 => Wp.ok (.ret x79))
def m_Reader_block (stm : S_Reader → Int → Wp ((Option Dt) × S_Reader)) (p_self : S_Reader) (p_room : Int) : Wp ((List Dt) × S_Reader) := Wp.out (
 ((Wp.ok ([] : (List Dt)))).bind fun x1 =>
 ((((Wp.ok (p_room, p_self))).bind fun x3 => (Wp.ap (fun s2 : S_Reader => ((Wp.ok ((), s2)) : Wp (Unit × S_Reader))) x3.2).bind fun x4 => Wp.ok ((x3.1, x4.1), x4.2)).bind fun x5 => stm x5.2 x5.1.1).bind fun x6 =>
 Wp.seq (Wp.while_ ((x1), (x6.1), (x6.2)) (fun z7 : (List Dt) × (Option Dt) × S_Reader => (Wp.ok (!(z7.2.1).isNone))) (fun z7 : (List Dt) × (Option Dt) × S_Reader =>
 ((Wp.get z7.2.1)).bind fun x8 => Wp.req ((z7.1).length < 16777215) (
 ((((Wp.ok (p_room, z7.2.2))).bind fun x10 => (Wp.ap (fun s9 : S_Reader => ((Wp.ok ((), s9)) : Wp (Unit × S_Reader))) x10.2).bind fun x11 => Wp.ok ((x10.1, x11.1), x11.2)).bind fun x12 => stm x12.2 x12.1.1).bind fun x13 =>
 Wp.ok (.nx ((z7.1 ++ [x8]), (x13.1), (x13.2)))))) fun z14 : (List Dt) × (Option Dt) × S_Reader =>
 ((Wp.ok (z14.1, z14.2.2))).bind fun x15 => Wp.ok (.ret x15))
def m_Reader_blk : Nat → S_Reader → Int → Wp ((List Dt) × S_Reader)
 | 0 => fun _ _ => Wp.stuck
 | n + 1 => m_Reader_block (m_Reader_statement (m_Reader_choice (m_Reader_blk n)))
def m_read_any (p_text : Str) (p_uses : Int) : Wp V_Box := Wp.out (
 (m_Cursor_initS p_text).bind fun s1 =>
 ((((Wp.ok (([("buttons" : Str)] : (List Str)), s1))).bind fun x3 => (Wp.ap (fun s2 : S_Cursor => ((Wp.ok ((), s2)) : Wp (Unit × S_Cursor))) x3.2).bind fun x4 => Wp.ok ((x3.1, x4.1), x4.2)).bind fun x5 => m_Cursor_wordS x5.2 x5.1.1).bind fun x6 =>
 ((((Wp.ok ((1 : Int), x6.2))).bind fun x11 => (Wp.ap (fun s7 : S_Cursor => ((((Wp.ok ((4 : Int), s7))).bind fun x9 => (Wp.ap (fun s8 : S_Cursor => ((Wp.ok ((), s8)) : Wp (Unit × S_Cursor))) x9.2).bind fun x10 => Wp.ok ((x9.1, x10.1), x10.2)) : Wp ((Int × Unit) × S_Cursor))) x11.2).bind fun x12 => Wp.ok ((x11.1, x12.1), x12.2)).bind fun x13 => m_Cursor_numberS x13.2 x13.1.1 x13.1.2.1).bind fun x14 =>
 ((((Wp.ok (([("answers" : Str)] : (List Str)), x14.2))).bind fun x16 => (Wp.ap (fun s15 : S_Cursor => ((Wp.ok ((), s15)) : Wp (Unit × S_Cursor))) x16.2).bind fun x17 => Wp.ok ((x16.1, x17.1), x17.2)).bind fun x18 => m_Cursor_wordS x18.2 x18.1.1).bind fun x19 =>
 ((((Wp.ok ((1 : Int), x19.2))).bind fun x24 => (Wp.ap (fun s20 : S_Cursor => ((((Wp.ok ((4 : Int), s20))).bind fun x22 => (Wp.ap (fun s21 : S_Cursor => ((Wp.ok ((), s21)) : Wp (Unit × S_Cursor))) x22.2).bind fun x23 => Wp.ok ((x22.1, x23.1), x23.2)) : Wp ((Int × Unit) × S_Cursor))) x24.2).bind fun x25 => Wp.ok ((x24.1, x25.1), x25.2)).bind fun x26 => m_Cursor_numberS x26.2 x26.1.1 x26.1.2.1).bind fun x27 =>
 ((Wp.ok (p_uses, ()))).bind fun x28 => Wp.allA fun q29 => (m_Reader_init (x27.2) q29 x28.1).bind fun s30 =>
 ((Wp.ok ([] : (List (Str × Int))))).bind fun x31 =>
 Wp.seq (Wp.whileS ((x31), (s30)) (fun z32 : (List (Str × Int)) × S_ReaderM => (((Wp.req (((z32.2).1.1.1.1.2).1 = q29) ((Wp.ok (())).bind fun x34 => (m_Cursor_nextS (((z32.2).1.1.1.1.2).2) ).bind fun y33 => Wp.ok (y33.1, (rdP_cursor (z32.2) ((((z32.2).1.1.1.1.2).1, y33.2)))))).bind fun x36 => (Wp.ap (fun s35 : S_ReaderM => (((Wp.ok (("var" : Str), s35))) : Wp (Str × S_ReaderM))) x36.2).bind fun x37 => ((Wp.ok (decide (x36.1 = some x37.1)))).bind fun x38 => Wp.ok (x38, x37.2)).bind fun x40 => if x40.1 = true then Wp.ap (fun s39 : S_ReaderM => (((Wp.ok ((decide ((((z32.1).length : Nat) : Int) < (4 : Int))), s39))) : Wp (Bool × S_ReaderM))) x40.2 else Wp.ok (false, x40.2)).bind fun y77 => Wp.ok (y77.1, (fun (z32 : (List (Str × Int)) × S_ReaderM) (y : S_ReaderM) => (z32.1, y)) z32 y77.2)) (fun z32 : (List (Str × Int)) × S_ReaderM =>
 Wp.req (((z32.2).1.1.1.1.2).1 = q29) (((Wp.ok (1 : Int))).bind fun x41 => (Wp.ok ((((z32.2).1.1.1.1.2).2).2 + x41)).bind fun x42 =>
 Wp.req ((((rdP_cursor (z32.2) ((((z32.2).1.1.1.1.2).1, ((((z32.2).1.1.1.1.2).2).1, x42))))).1.1.1.1.2).1 = q29) ((m_Cursor_new_nameS (((rdP_cursor (z32.2) ((((z32.2).1.1.1.1.2).1, ((((z32.2).1.1.1.1.2).2).1, x42))))).1.1.1.1.2).2 (((rdP_cursor (z32.2) ((((z32.2).1.1.1.1.2).1, ((((z32.2).1.1.1.1.2).2).1, x42))))).1.1.1.2)).bind fun y43 => Wp.req ((((rdP_cursor (z32.2) ((((z32.2).1.1.1.1.2).1, ((((z32.2).1.1.1.1.2).2).1, x42))))).1.1.1.2).length < 16777215) (
 (((((Wp.get (atI ((rdP_names ((rdP_cursor ((rdP_cursor (z32.2) ((((z32.2).1.1.1.1.2).1, ((((z32.2).1.1.1.1.2).2).1, x42))))) (((((rdP_cursor (z32.2) ((((z32.2).1.1.1.1.2).1, ((((z32.2).1.1.1.1.2).2).1, x42))))).1.1.1.1.2).1, y43.2)))) (((rdP_cursor (z32.2) ((((z32.2).1.1.1.1.2).1, ((((z32.2).1.1.1.1.2).2).1, x42))))).1.1.1.2 ++ [y43.1]))).1.1.1.2 (-(1 : Int))))).bind fun y44 => Wp.ok (y44, (rdP_names ((rdP_cursor ((rdP_cursor (z32.2) ((((z32.2).1.1.1.1.2).1, ((((z32.2).1.1.1.1.2).2).1, x42))))) (((((rdP_cursor (z32.2) ((((z32.2).1.1.1.1.2).1, ((((z32.2).1.1.1.1.2).2).1, x42))))).1.1.1.1.2).1, y43.2)))) (((rdP_cursor (z32.2) ((((z32.2).1.1.1.1.2).1, ((((z32.2).1.1.1.1.2).2).1, x42))))).1.1.1.2 ++ [y43.1])))).bind fun x51 => (Wp.ap (fun s45 : S_ReaderM => (((Wp.req (((s45).1.1.1.1.2).1 = q29) ((Wp.ok ((1 : Int), (12 : Int), ())).bind fun x47 => (m_Cursor_numberS (((s45).1.1.1.1.2).2) x47.1 x47.2.1).bind fun y46 => Wp.ok (y46.1, (rdP_cursor s45 ((((s45).1.1.1.1.2).1, y46.2)))))).bind fun x49 => (Wp.ap (fun s48 : S_ReaderM => ((Wp.ok ((), s48)) : Wp (Unit × S_ReaderM))) x49.2).bind fun x50 => Wp.ok ((x49.1, x50.1), x50.2)) : Wp ((Int × Unit) × S_ReaderM))) x51.2).bind fun x52 => Wp.ok ((x51.1, x52.1), x52.2)).bind fun x53 => Wp.ok ((x53.1.1, x53.1.2.1), x53.2)).bind fun x54 => Wp.req ((z32.1).length < 16777215) (
 Wp.ok (.nx ((z32.1 ++ [x54.1]), (x54.2))))))))) fun z55 : (List (Str × Int)) × S_ReaderM =>
 (Wp.req (((z55.2).1.1.1.1.2).1 = q29) ((Wp.ok (([("start" : Str)] : (List Str)), ())).bind fun x57 => (m_Cursor_wordS (((z55.2).1.1.1.1.2).2) x57.1).bind fun y56 => Wp.ok (y56.1, (rdP_cursor (z55.2) ((((z55.2).1.1.1.1.2).1, y56.2)))))).bind fun x58 =>
 ((((Wp.ok ((4 : Int), x58.2))).bind fun x60 => (Wp.ap (fun s59 : S_Reader => ((Wp.ok ((), s59)) : Wp (Unit × S_Reader))) x60.2).bind fun x61 => Wp.ok ((x60.1, x61.1), x61.2)).bind fun x62 => (m_Reader_blk 5) x62.2 x62.1.1).bind fun x63 =>
 (Wp.req (((x63.2).1.1.1.1.2).1 = q29) ((Wp.ok (([("press" : Str)] : (List Str)), ())).bind fun x65 => (m_Cursor_wordS (((x63.2).1.1.1.1.2).2) x65.1).bind fun y64 => Wp.ok (y64.1, (rdP_cursor (x63.2) ((((x63.2).1.1.1.1.2).1, y64.2)))))).bind fun x66 =>
 ((Wp.ok ([("press" : Str)] : (List Str)))).bind fun x67 =>
 ((((Wp.ok ((4 : Int), (rdP_extra (x66.2) (x67))))).bind fun x69 => (Wp.ap (fun s68 : S_Reader => ((Wp.ok ((), s68)) : Wp (Unit × S_Reader))) x69.2).bind fun x70 => Wp.ok ((x69.1, x70.1), x70.2)).bind fun x71 => (m_Reader_blk 5) x71.2 x71.1.1).bind fun x72 =>
 (Wp.req (((x72.2).1.1.1.1.2).1 = q29) ((Wp.ok (())).bind fun x74 => (m_Cursor_finishS (((x72.2).1.1.1.1.2).2) ).bind fun y73 => Wp.ok (y73.1, (rdP_cursor (x72.2) ((((x72.2).1.1.1.1.2).1, y73.2)))))).bind fun x75 =>
 ((m_Box_init x14.1 x27.1 z55.1 x63.1 x72.1)).bind fun x76 => Wp.ok (.ret x76))
def m_read_box (p_text : Str) : Wp V_Box := Wp.out (
 ((m_read_any p_text (0 : Int))).bind fun x1 => Wp.ok (.ret x1))
def m_read_around (p_text : Str) : Wp V_Box := Wp.out (
 ((m_read_any p_text (24 : Int))).bind fun x1 => Wp.ok (.ret x1))
def m_block_words : Nat → (List Dt) → Wp (List Str)
 | 0, _ => .stuck
 | n + 1, p_block => Wp.out (
 ((Wp.ok ([] : (List Str)))).bind fun x1 =>
 ((Wp.ok p_block)).bind fun x88 => Wp.seq (Wp.for_ x88 (x1) (fun x3 (z2 : (List Str)) =>
 Wp.seq ((((((Wp.get (dtT x3))).bind fun x4 => ((Wp.ok (0 : Int))).bind fun x5 => (Wp.get (atI x4 x5))).bind fun y6 => Wp.get (dtS y6)).bind fun x7 => ((Wp.ok ("if" : Str))).bind fun x8 => Wp.ok (decide (x7 = x8))).bind fun x86 => if x86 = true then ((((Wp.ok ("if" : Str))).bind fun x25 => ((((((Wp.get (dtT x3))).bind fun x20 => ((Wp.ok (1 : Int))).bind fun x21 => (Wp.get (atI x20 x21))).bind fun x22 => (Wp.ok ()).bind fun x23 => Wp.ok (x22, x23)).bind fun x24 => m_expression_words 6 x24.1).bind fun x18 => (((((((Wp.get (dtT x3))).bind fun x12 => ((Wp.ok (2 : Int))).bind fun x13 => (Wp.get (atI x12 x13))).bind fun y14 => Wp.get (dtT y14)).bind fun x15 => (Wp.ok ()).bind fun x16 => Wp.ok (x15, x16)).bind fun x17 => m_block_words n x17.1).bind fun x10 => (Wp.ok []).bind fun x11 => Wp.ok (x10 ++ x11)).bind fun x19 => Wp.ok (x18 ++ x19)).bind fun x26 => Wp.ok (x25 :: x26)).bind fun x27 => Wp.req ((x27).length ≤ 16777215) (Wp.ok x27)).bind fun x28 => Wp.req ((z2).length + (x28).length ≤ 16777215) (
 Wp.seq ((((((Wp.get (dtT x3))).bind fun x29 => ((Wp.ok (3 : Int))).bind fun x30 => (Wp.get (atI x29 x30))).bind fun y31 => Wp.get (dtT y31)).bind fun x32 => Wp.ok (!(x32).isEmpty)).bind fun x46 => if x46 = true then ((((Wp.ok ("else" : Str))).bind fun x42 => (((((((Wp.get (dtT x3))).bind fun x36 => ((Wp.ok (3 : Int))).bind fun x37 => (Wp.get (atI x36 x37))).bind fun y38 => Wp.get (dtT y38)).bind fun x39 => (Wp.ok ()).bind fun x40 => Wp.ok (x39, x40)).bind fun x41 => m_block_words n x41.1).bind fun x34 => (Wp.ok []).bind fun x35 => Wp.ok (x34 ++ x35)).bind fun x43 => Wp.ok (x42 :: x43)).bind fun x44 => Wp.req ((x44).length ≤ 16777215) (Wp.ok x44)).bind fun x45 => Wp.req ((z2 ++ x28).length + (x45).length ≤ 16777215) (
 Wp.ok (.nx (z2 ++ x28 ++ x45))) else
 Wp.ok (.nx (z2 ++ x28))) fun z33 : (List Str) =>
 ((Wp.ok ("end" : Str))).bind fun x47 => Wp.req ((z33).length < 16777215) (
 Wp.ok (.nx (z33 ++ [x47])))) else
 Wp.seq ((((((Wp.get (dtT x3))).bind fun x48 => ((Wp.ok (0 : Int))).bind fun x49 => (Wp.get (atI x48 x49))).bind fun y50 => Wp.get (dtS y50)).bind fun x51 => ((Wp.ok ("draw" : Str))).bind fun x52 => Wp.ok (decide (x51 = x52))).bind fun x85 => if x85 = true then ((((Wp.ok ("draw" : Str))).bind fun x66 => (((((Wp.get (dtT x3))).bind fun x54 => ((Wp.ok (1 : Int))).bind fun x55 => (Wp.get (atI x54 x55))).bind fun y56 => Wp.get (dtS y56)).bind fun x64 => ((((((Wp.get (dtT x3))).bind fun x57 => ((Wp.ok (2 : Int))).bind fun x58 => (Wp.get (atI x57 x58))).bind fun x59 => (Wp.ok ()).bind fun x60 => Wp.ok (x59, x60)).bind fun x61 => (strD x61.1)).bind fun x62 => (Wp.ok ()).bind fun x63 => Wp.ok (x62, x63)).bind fun x65 => Wp.ok (x64, x65)).bind fun x67 => Wp.ok (x66, x67)).bind fun x68 => Wp.ok [x68.1, x68.2.1, x68.2.2.1]).bind fun x69 => Wp.req ((z2).length + (x69).length ≤ 16777215) (
 Wp.ok (.nx (z2 ++ x69))) else
 ((((((Wp.get (dtT x3))).bind fun x79 => ((Wp.ok none)).bind fun x80 => ((Wp.ok (some (-(1 : Int))))).bind fun x81 => Wp.ok (cutL x79 x80 x81)).bind fun y82 => Wp.get (allS y82)).bind fun x77 => ((((((Wp.get (dtT x3))).bind fun x72 => ((Wp.ok (-(1 : Int)))).bind fun x73 => (Wp.get (atI x72 x73))).bind fun x74 => (Wp.ok ()).bind fun x75 => Wp.ok (x74, x75)).bind fun x76 => m_expression_words 6 x76.1).bind fun x70 => (Wp.ok []).bind fun x71 => Wp.ok (x70 ++ x71)).bind fun x78 => Wp.ok (x77 ++ x78)).bind fun x83 => Wp.req ((x83).length ≤ 16777215) (Wp.ok x83)).bind fun x84 => Wp.req ((z2).length + (x84).length ≤ 16777215) (
 Wp.ok (.nx (z2 ++ x84)))) fun z53 : (List Str) =>
 Wp.ok (.nx (z53))) fun z9 : (List Str) =>
 Wp.ok (.nx (z9)))) fun z87 : (List Str) =>
 Wp.ok (.ret z87))
def m_box_text (p_box : V_Box) : Wp Str := Wp.out (
 ((((Wp.ok ("buttons" : Str))).bind fun x7 => (((Wp.req (((p_box).1.1.1.1.2).natAbs.log2 < 1920) (Wp.ok (Str.ofString (toString (p_box).1.1.1.1.2))))).bind fun x5 => (((Wp.ok ("answers" : Str))).bind fun x3 => (((Wp.req (((p_box).1.1.1.2).natAbs.log2 < 1920) (Wp.ok (Str.ofString (toString (p_box).1.1.1.2))))).bind fun x1 => (Wp.ok ()).bind fun x2 => Wp.ok (x1, x2)).bind fun x4 => Wp.ok (x3, x4)).bind fun x6 => Wp.ok (x5, x6)).bind fun x8 => Wp.ok (x7, x8)).bind fun x9 => Wp.ok [x9.1, x9.2.1, x9.2.2.1, x9.2.2.2.1]).bind fun x10 =>
 ((Wp.ok (p_box).1.1.2)).bind fun x36 => Wp.seq (Wp.for_ x36 (x10) (fun x12 (z11 : (List Str)) =>
 ((((Wp.ok ("var" : Str))).bind fun x17 => (((Wp.ok (x12).1)).bind fun x15 => (((Wp.req (((x12).2).natAbs.log2 < 1920) (Wp.ok (Str.ofString (toString (x12).2))))).bind fun x13 => (Wp.ok ()).bind fun x14 => Wp.ok (x13, x14)).bind fun x16 => Wp.ok (x15, x16)).bind fun x18 => Wp.ok (x17, x18)).bind fun x19 => Wp.ok [x19.1, x19.2.1, x19.2.2.1]).bind fun x20 => Wp.req ((z11).length + (x20).length ≤ 16777215) (
 Wp.ok (.nx (z11 ++ x20))))) fun z21 : (List Str) =>
 (((Wp.ok (" " : Str))).bind fun x22 => ((((Wp.ok z21)).bind fun x32 => (((Wp.ok ("start" : Str))).bind fun x30 => (((m_block_words 6 (p_box).1.2)).bind fun x28 => (((Wp.ok ("press" : Str))).bind fun x26 => (((m_block_words 6 (p_box).2)).bind fun x24 => (Wp.ok []).bind fun x25 => Wp.ok (x24 ++ x25)).bind fun x27 => Wp.ok (x26 :: x27)).bind fun x29 => Wp.ok (x28 ++ x29)).bind fun x31 => Wp.ok (x30 :: x31)).bind fun x33 => Wp.ok (x32 ++ x33)).bind fun x34 => Wp.req ((x34).length ≤ 16777215) (Wp.ok x34)).bind fun x23 => Wp.req (((x23).map (·.length)).sum + (x23).length * (x22).length ≤ 1000000) (Wp.ok (Str.join x22 x23))).bind fun x35 => Wp.ok (.ret x35))
def m_l_told (p_words : (List Str)) (p_uses : Bool) : Wp (Str ⊕ Int) := Wp.out (
 Wp.try_ excS (if p_uses = true then Wp.up (((((((((Wp.ok (" " : Str))).bind fun x1 => ((Wp.ok p_words)).bind fun x2 => Wp.req (((x2).map (·.length)).sum + (x2).length * (x1).length ≤ 1000000) (Wp.ok (Str.join x1 x2))).bind fun x3 => (Wp.ok ()).bind fun x4 => Wp.ok (x3, x4)).bind fun x5 => m_read_around x5.1).bind fun x6 => (Wp.ok ()).bind fun x7 => Wp.ok (x6, x7)).bind fun x8 => m_box_text x8.1).bind fun y9 => Wp.ok (Sum.inl y9 : (Str ⊕ Int))).bind fun x10 => Wp.ok (.ret x10)) else
 ((((((((Wp.ok (" " : Str))).bind fun x11 => ((Wp.ok p_words)).bind fun x12 => Wp.req (((x12).map (·.length)).sum + (x12).length * (x11).length ≤ 1000000) (Wp.ok (Str.join x11 x12))).bind fun x13 => (Wp.ok ()).bind fun x14 => Wp.ok (x13, x14)).bind fun x15 => m_read_box x15.1).bind fun x16 => (Wp.ok ()).bind fun x17 => Wp.ok (x16, x17)).bind fun x18 => m_box_text x18.1).bind fun y19 => Wp.ok (Sum.inl y19 : (Str ⊕ Int))).bind fun x20 => Wp.ok (.ret x20)) (fun e21 =>
 (((Wp.req ((e21).c = "BadText") (atW e21))).bind fun y22 => Wp.ok (Sum.inr y22 : (Str ⊕ Int))).bind fun x23 => Wp.ok (.ret x23)))
def m_l_numbers (p_pool_here : Pool) : Wp (((List Str) × (Option Int)) × Pool) := Wp.out (
 ((((Wp.ok ((4 : Int), p_pool_here))).bind fun x2 => (Wp.ap (fun s1 : Pool => ((Wp.ok ((), s1)) : Wp (Unit × Pool))) x2.2).bind fun x3 => Wp.ok ((x2.1, x3.1), x3.2)).bind fun x4 => drawW x4.2 x4.1.1).bind fun x5 =>
 ((Wp.get (atI ([(4 : Int), (4 : Int), (12 : Int), (6 : Int)] : (List Int)) x5.1))).bind fun x6 =>
 (((Wp.ok ((x6 - (1 : Int)), x5.2))).bind fun x12 => (Wp.ap (fun s7 : Pool => (((((Wp.ok ((4 : Int), s7))).bind fun x9 => (Wp.ap (fun s8 : Pool => ((Wp.ok ((), s8)) : Wp (Unit × Pool))) x9.2).bind fun x10 => Wp.ok ((x9.1, x10.1), x10.2)).bind fun x11 => drawW x11.2 x11.1.1) : Wp (Int × Pool))) x12.2).bind fun x13 => ((Wp.ok (x12.1 + x13.1))).bind fun x14 => Wp.ok (x14, x13.2)).bind fun x15 =>
 Wp.seq ((((((Wp.ok ((4 : Int), x15.2))).bind fun x17 => (Wp.ap (fun s16 : Pool => ((Wp.ok ((), s16)) : Wp (Unit × Pool))) x17.2).bind fun x18 => Wp.ok ((x17.1, x18.1), x18.2)).bind fun x19 => drawW x19.2 x19.1.1).bind fun x21 => (Wp.ap (fun s20 : Pool => (((Wp.ok ((0 : Int), s20))) : Wp (Int × Pool))) x21.2).bind fun x22 => ((Wp.ok (decide (x21.1 = x22.1)))).bind fun x23 => Wp.ok (x23, x22.2)).bind fun x27 => if x27.1 = true then Wp.ap (fun s24 : Pool => ((Wp.ok (0 : Int))).bind fun x26 =>
 Wp.ok (.nx ((x26), (s24)))) x27.2 else Wp.ap (fun s24 : Pool => Wp.ok (.nx ((x15.1), (s24)))) x27.2) fun z25 : Int × Pool =>
 ((Wp.get (atI ([(some (1 : Int)), (some (3 : Int)), (some (6 : Int)), (some (10 : Int))] : (List (Option Int))) x5.1))).bind fun x28 =>
 ((Wp.ok ([("buttons" : Str), ("2" : Str), ("answers" : Str), ("2" : Str), ("var" : Str), ("x" : Str), ("9" : Str), ("start" : Str), ("draw" : Str), ("x" : Str), ("2" : Str), ("press" : Str), ("say" : Str), ("x" : Str)] : (List Str)))).bind fun x29 =>
 ((Wp.req ((z25.1).natAbs.log2 < 1920) (Wp.ok (Str.ofString (toString z25.1))))).bind fun x30 => ((Wp.get x28)).bind fun x31 => Wp.req ((ixN (x29).length x31).isSome = true) (
 Wp.seq (if ((decide ((0 : Int) < z25.1)) && (decide (z25.1 ≤ x6))) = true then ((Wp.ok none)).bind fun x33 =>
 Wp.ok (.nx (x33)) else
 Wp.ok (.nx (x28))) fun z32 : (Option Int) =>
 ((Wp.ok (((setL x29 x31 x30), z32), z25.2))).bind fun x34 => Wp.ok (.ret x34)))
def m_l_many (p_pool_here : Pool) : Wp (((List Str) × (Option Int)) × Pool) := Wp.out (
 ((Wp.ok ([("buttons" : Str), ("2" : Str), ("answers" : Str), ("2" : Str), ("var" : Str), ("x" : Str), ("9" : Str), ("start" : Str)] : (List Str)))).bind fun x1 =>
 ((((Wp.ok ((6 : Int), p_pool_here))).bind fun x3 => (Wp.ap (fun s2 : Pool => ((Wp.ok ((), s2)) : Wp (Unit × Pool))) x3.2).bind fun x4 => Wp.ok ((x3.1, x4.1), x4.2)).bind fun x5 => drawW x5.2 x5.1.1).bind fun x6 =>
 if (decide (x6.1 = (0 : Int))) = true then Wp.up ((((Wp.ok ((3 : Int), x6.2))).bind fun x12 => (Wp.ap (fun s7 : Pool => (((((Wp.ok ((4 : Int), s7))).bind fun x9 => (Wp.ap (fun s8 : Pool => ((Wp.ok ((), s8)) : Wp (Unit × Pool))) x9.2).bind fun x10 => Wp.ok ((x9.1, x10.1), x10.2)).bind fun x11 => drawW x11.2 x11.1.1) : Wp (Int × Pool))) x12.2).bind fun x13 => ((Wp.ok (x12.1 + x13.1))).bind fun x14 => Wp.ok (x14, x13.2)).bind fun x15 =>
 ((Wp.ok (cutL x1 none (some (4 : Int))))).bind fun x16 =>
 ((Wp.req (x15.1 ≤ 16777215 ∧ -(2 ^ 62) ≤ x15.1) (Wp.ok (rngI 0 (x15.1).toNat)))).bind fun x37 => Wp.seq (Wp.for_ x37 (x16) (fun x18 (z17 : (List Str)) =>
 (((Wp.ok z17)).bind fun x26 => ((((Wp.ok ("var" : Str))).bind fun x23 => (((Wp.get (chAt ("abcdefg" : Str) x18))).bind fun x21 => (((Wp.ok ("9" : Str))).bind fun x19 => (Wp.ok ()).bind fun x20 => Wp.ok (x19, x20)).bind fun x22 => Wp.ok (x21, x22)).bind fun x24 => Wp.ok (x23, x24)).bind fun x25 => Wp.ok [x25.1, x25.2.1, x25.2.2.1]).bind fun x27 => (catW x26 x27)).bind fun x28 =>
 Wp.ok (.nx (x28)))) fun z29 : (List Str) =>
 (((((catW z29 ([("start" : Str), ("press" : Str)] : (List Str)))).bind fun x32 => (((Wp.get (atI ([none, (some ((4 : Int) + (12 : Int)))] : (List (Option Int))) (if (decide ((4 : Int) < x15.1)) = true then (1 : Int) else 0)))).bind fun x30 => (Wp.ok ()).bind fun x31 => Wp.ok (x30, x31)).bind fun x33 => Wp.ok (x32, x33)).bind fun x34 => Wp.ok (x34.1, x34.2.1)).bind fun y35 => Wp.ok (y35, x15.2)).bind fun x36 => Wp.ok (.ret x36)) else
 if (decide (x6.1 < (3 : Int))) = true then Wp.up (((Wp.get (atI ([(3 : Int), (24 : Int)] : (List Int)) (x6.1 - (1 : Int))))).bind fun x38 =>
 (((Wp.ok ((x38 - (1 : Int)), x6.2))).bind fun x44 => (Wp.ap (fun s39 : Pool => (((((Wp.ok ((4 : Int), s39))).bind fun x41 => (Wp.ap (fun s40 : Pool => ((Wp.ok ((), s40)) : Wp (Unit × Pool))) x41.2).bind fun x42 => Wp.ok ((x41.1, x42.1), x42.2)).bind fun x43 => drawW x43.2 x43.1.1) : Wp (Int × Pool))) x44.2).bind fun x45 => ((Wp.ok (x44.1 + x45.1))).bind fun x46 => Wp.ok (x46, x45.2)).bind fun x47 =>
 ((((Wp.ok ((x47.1 + (1 : Int)), x47.2))).bind fun x49 => (Wp.ap (fun s48 : Pool => ((Wp.ok ((), s48)) : Wp (Unit × Pool))) x49.2).bind fun x50 => Wp.ok ((x49.1, x50.1), x50.2)).bind fun x51 => drawW x51.2 x51.1.1).bind fun x52 =>
 ((Wp.ok none)).bind fun x53 =>
 ((Wp.req (x47.1 ≤ 16777215 ∧ -(2 ^ 62) ≤ x47.1) (Wp.ok (rngI 0 (x47.1).toNat)))).bind fun x76 => Wp.seq (Wp.for_ x76 ((x1), (x53), (x52.2)) (fun x55 (z54 : (List Str) × (Option Int) × Pool) =>
 Wp.seq (if (decide (x55 = x52.1)) = true then ((Wp.ok ("press" : Str))).bind fun x57 => Wp.req ((z54.1).length < 16777215) (
 Wp.ok (.nx (z54.1 ++ [x57]))) else
 Wp.ok (.nx (z54.1))) fun z56 : (List Str) =>
 ((((Wp.ok ((3 : Int), z54.2.2))).bind fun x59 => (Wp.ap (fun s58 : Pool => ((Wp.ok ((), s58)) : Wp (Unit × Pool))) x59.2).bind fun x60 => Wp.ok ((x59.1, x60.1), x60.2)).bind fun x61 => drawW x61.2 x61.1.1).bind fun x62 =>
 Wp.seq (if (decide (x62.1 = (0 : Int))) = true then ((catW z56 ([("if" : Str), ("x" : Str)] : (List Str)))).bind fun x64 =>
 Wp.ok (.nx (x64)) else
 Wp.ok (.nx (z56))) fun z63 : (List Str) =>
 Wp.seq (if (decide (x55 = x38)) = true then ((Wp.ok (some (((z63).length : Nat) : Int)))).bind fun x66 =>
 Wp.ok (.nx (x66)) else
 Wp.ok (.nx (z54.2.1))) fun z65 : (Option Int) =>
 (((Wp.ok z63)).bind fun x67 => ((Wp.get (atI ([([("draw" : Str), ("x" : Str), ("2" : Str)] : (List Str)), ([("use" : Str), ("x" : Str), ("1" : Str)] : (List Str))] : (List (List Str))) (x6.1 - (1 : Int))))).bind fun x68 => (catW x67 x68)).bind fun x69 =>
 Wp.seq (if (decide (x62.1 = (0 : Int))) = true then ((Wp.ok ("end" : Str))).bind fun x71 => Wp.req ((x69).length < 16777215) (
 Wp.ok (.nx (x69 ++ [x71]))) else
 Wp.ok (.nx (x69))) fun z70 : (List Str) =>
 Wp.ok (.nx ((z70), (z65), (x62.2))))) fun z72 : (List Str) × (Option Int) × Pool =>
 Wp.seq (if (decide (x52.1 = x47.1)) = true then ((Wp.ok ("press" : Str))).bind fun x74 => Wp.req ((z72.1).length < 16777215) (
 Wp.ok (.nx (z72.1 ++ [x74]))) else
 Wp.ok (.nx (z72.1))) fun z73 : (List Str) =>
 ((Wp.ok ((z73, z72.2.1), z72.2.2))).bind fun x75 => Wp.ok (.ret x75)) else
 if (decide (x6.1 = (3 : Int))) = true then Wp.up ((((Wp.ok ((3 : Int), x6.2))).bind fun x82 => (Wp.ap (fun s77 : Pool => (((((Wp.ok ((4 : Int), s77))).bind fun x79 => (Wp.ap (fun s78 : Pool => ((Wp.ok ((), s78)) : Wp (Unit × Pool))) x79.2).bind fun x80 => Wp.ok ((x79.1, x80.1), x80.2)).bind fun x81 => drawW x81.2 x81.1.1) : Wp (Int × Pool))) x82.2).bind fun x83 => ((Wp.ok (x82.1 + x83.1))).bind fun x84 => Wp.ok (x84, x83.2)).bind fun x85 =>
 (((Wp.ok (([([("if" : Str), ("x" : Str)] : (List Str)), ([("if" : Str), ("x" : Str), ("set" : Str), ("x" : Str), ("1" : Str), ("else" : Str)] : (List Str))] : (List (List Str))), x85.2))).bind fun x91 => (Wp.ap (fun s86 : Pool => (((((Wp.ok ((2 : Int), s86))).bind fun x88 => (Wp.ap (fun s87 : Pool => ((Wp.ok ((), s87)) : Wp (Unit × Pool))) x88.2).bind fun x89 => Wp.ok ((x88.1, x89.1), x89.2)).bind fun x90 => drawW x90.2 x90.1.1) : Wp (Int × Pool))) x91.2).bind fun x92 => ((Wp.get (atI x91.1 x92.1))).bind fun x93 => Wp.ok (x93, x92.2)).bind fun x94 =>
 ((Wp.get (atI ([none, (some ((((x1).length : Nat) : Int) + ((4 : Int) * (((x94.1).length : Nat) : Int))))] : (List (Option Int))) (if (decide ((4 : Int) < x85.1)) = true then (1 : Int) else 0)))).bind fun x95 =>
 (((((((((Wp.ok x1)).bind fun x96 => ((repW x94.1 x85.1)).bind fun x97 => (catW x96 x97)).bind fun x98 => ((Wp.ok ([("set" : Str), ("x" : Str), ("2" : Str)] : (List Str)))).bind fun x99 => (catW x98 x99)).bind fun x100 => ((repW ([("end" : Str)] : (List Str)) x85.1)).bind fun x101 => (catW x100 x101)).bind fun x102 => ((Wp.ok ([("press" : Str)] : (List Str)))).bind fun x103 => (catW x102 x103)).bind fun x106 => (((Wp.ok x95)).bind fun x104 => (Wp.ok ()).bind fun x105 => Wp.ok (x104, x105)).bind fun x107 => Wp.ok (x106, x107)).bind fun x108 => Wp.ok (x108.1, x108.2.1)).bind fun y109 => Wp.ok (y109, x94.2)).bind fun x110 => Wp.ok (.ret x110)) else
 if (decide (x6.1 = (4 : Int))) = true then Wp.up ((((Wp.ok ((3 : Int), x6.2))).bind fun x116 => (Wp.ap (fun s111 : Pool => (((((Wp.ok ((4 : Int), s111))).bind fun x113 => (Wp.ap (fun s112 : Pool => ((Wp.ok ((), s112)) : Wp (Unit × Pool))) x113.2).bind fun x114 => Wp.ok ((x113.1, x114.1), x114.2)).bind fun x115 => drawW x115.2 x115.1.1) : Wp (Int × Pool))) x116.2).bind fun x117 => ((Wp.ok (x116.1 + x117.1))).bind fun x118 => Wp.ok (x118, x117.2)).bind fun x119 =>
 ((catW x1 ([("press" : Str), ("say" : Str)] : (List Str)))).bind fun x120 =>
 (((((Wp.ok ((2 : Int), x119.2))).bind fun x122 => (Wp.ap (fun s121 : Pool => ((Wp.ok ((), s121)) : Wp (Unit × Pool))) x122.2).bind fun x123 => Wp.ok ((x122.1, x123.1), x123.2)).bind fun x124 => drawW x124.2 x124.1.1).bind fun x126 => (Wp.ap (fun s125 : Pool => (((Wp.ok ((0 : Int), s125))) : Wp (Int × Pool))) x126.2).bind fun x127 => ((Wp.ok (decide (x126.1 = x127.1)))).bind fun x128 => Wp.ok (x128, x127.2)).bind fun x152 => if x152.1 = true then (Wp.ap (fun s129 : Pool => (((((((Wp.ok x120)).bind fun x130 => ((repW ([("mod" : Str), ("7" : Str)] : (List Str)) x119.1)).bind fun x131 => (catW x130 x131)).bind fun x132 => ((Wp.ok ([("1" : Str)] : (List Str)))).bind fun x133 => (catW x132 x133)).bind fun x136 => (((Wp.get (atI ([none, (some ((((x120).length : Nat) : Int) + (8 : Int)))] : (List (Option Int))) (if (decide ((4 : Int) < x119.1)) = true then (1 : Int) else 0)))).bind fun x134 => (Wp.ok ()).bind fun x135 => Wp.ok (x134, x135)).bind fun x137 => Wp.ok (x136, x137)).bind fun x138 => Wp.ok (x138.1, x138.2.1)).bind fun y139 => Wp.ok (y139, s129)).bind fun x140 => Wp.ok (.ret x140)) x152.2).up else Wp.ap (fun s129 : Pool => (((((((Wp.ok x120)).bind fun x141 => ((repW ([("mod" : Str)] : (List Str)) x119.1)).bind fun x142 => (catW x141 x142)).bind fun x143 => ((repW ([("1" : Str)] : (List Str)) (x119.1 + (1 : Int)))).bind fun x144 => (catW x143 x144)).bind fun x147 => (((Wp.get (atI ([none, (some ((((x120).length : Nat) : Int) + (4 : Int)))] : (List (Option Int))) (if (decide ((4 : Int) < x119.1)) = true then (1 : Int) else 0)))).bind fun x145 => (Wp.ok ()).bind fun x146 => Wp.ok (x145, x146)).bind fun x148 => Wp.ok (x147, x148)).bind fun x149 => Wp.ok (x149.1, x149.2.1)).bind fun y150 => Wp.ok (y150, s129)).bind fun x151 => Wp.ok (.ret x151)) x152.2) else
 ((((Wp.ok ((7 : Int), x6.2))).bind fun x158 => (Wp.ap (fun s153 : Pool => (((((Wp.ok ((4 : Int), s153))).bind fun x155 => (Wp.ap (fun s154 : Pool => ((Wp.ok ((), s154)) : Wp (Unit × Pool))) x155.2).bind fun x156 => Wp.ok ((x155.1, x156.1), x156.2)).bind fun x157 => drawW x157.2 x157.1.1) : Wp (Int × Pool))) x158.2).bind fun x159 => ((Wp.ok (x158.1 + x159.1))).bind fun x160 => Wp.ok (x160, x159.2)).bind fun y161 => Wp.ok (cutS ("abcdefghij" : Str) none (some y161.1), y161.2)).bind fun x162 =>
 ((Wp.ok x162.1)).bind fun x163 => ((Wp.ok (5 : Int))).bind fun x164 => Wp.req ((ixN (x1).length x164).isSome = true) (
 (((((catW (setL x1 x164 x163) ([("press" : Str)] : (List Str)))).bind fun x167 => (((Wp.get (atI ([none, (some (5 : Int))] : (List (Option Int))) (if (decide ((8 : Int) < (((x162.1).length : Nat) : Int))) = true then (1 : Int) else 0)))).bind fun x165 => (Wp.ok ()).bind fun x166 => Wp.ok (x165, x166)).bind fun x168 => Wp.ok (x167, x168)).bind fun x169 => Wp.ok (x169.1, x169.2.1)).bind fun y170 => Wp.ok (y170, x162.2)).bind fun x171 => Wp.ok (.ret x171)))
def m_law (p_script : (List Int)) : Wp Bool := Wp.out (
 (poolW p_script (0 : Int)).bind fun s1 =>
 ((((Wp.ok ((), s1)).bind fun x2 => m_l_numbers x2.2 ).bind fun x8 => (Wp.ap (fun s3 : Pool => ((((Wp.ok ((), s3)).bind fun x4 => m_l_many x4.2 ).bind fun x6 => (Wp.ap (fun s5 : Pool => ((Wp.ok ((), s5)) : Wp (Unit × Pool))) x6.2).bind fun x7 => Wp.ok ((x6.1, x7.1), x7.2)) : Wp ((((List Str) × (Option Int)) × Unit) × Pool))) x8.2).bind fun x9 => Wp.ok ((x8.1, x9.1), x9.2)).bind fun x10 => Wp.ok ([x10.1.1, x10.1.2.1], x10.2)).bind fun x71 => Wp.seq (Wp.for_ x71.1 ((fun s12 => (s12)) x71.2) (fun x13 (z11 : Pool) =>
 Wp.seq (if ((x13).2).isNone = true then (((Wp.ok (" " : Str))).bind fun x17 => ((Wp.ok (x13).1)).bind fun x18 => Wp.req (((x18).map (·.length)).sum + (x18).length * (x17).length ≤ 1000000) (Wp.ok (Str.join x17 x18))).bind fun x14 => Wp.ok (.nx (Sum.inl x14 : (Str ⊕ Int))) else (Wp.get ((fun z : Option Int => z) (x13).2)).bind fun x15 => Wp.ok (.nx (Sum.inr x15 : (Str ⊕ Int)))) fun z16 : (Str ⊕ Int) =>
 ((((((m_l_told (x13).1 true)).bind fun x28 => (((Wp.ok z16)).bind fun x26 => (Wp.ok ()).bind fun x27 => Wp.ok (x26, x27)).bind fun x29 => Wp.ok (x28, x29)).bind fun x30 => Wp.req (x30.1 = x30.2.1) (Wp.ok true)).bind fun x31 => Wp.ok (!x31)).bind fun x32 => if x32 = true then Wp.ok true else ((Wp.ok (!decide (("use" : Str) ∈ (x13).1)))).bind fun x25 => if x25 = true then ((((m_l_told (x13).1 false)).bind fun x21 => (((Wp.ok z16)).bind fun x19 => (Wp.ok ()).bind fun x20 => Wp.ok (x19, x20)).bind fun x22 => Wp.ok (x21, x22)).bind fun x23 => Wp.req (x23.1 = x23.2.1) (Wp.ok true)).bind fun x24 => Wp.ok (!x24) else Wp.ok false).bind fun x33 => if x33 = true then Wp.up (Wp.ok (.ret false)) else
 Wp.ok (.nx (z11)))) fun z34 : Pool =>
 (((Wp.ok ((8 : Int), z34))).bind fun x44 => (Wp.ap (fun s35 : Pool => ((((Wp.ok ((3 : Int), s35))).bind fun x41 => (Wp.ap (fun s36 : Pool => (((((Wp.ok ((2 : Int), s36))).bind fun x38 => (Wp.ap (fun s37 : Pool => ((Wp.ok ((), s37)) : Wp (Unit × Pool))) x38.2).bind fun x39 => Wp.ok ((x38.1, x39.1), x39.2)).bind fun x40 => drawW x40.2 x40.1.1) : Wp (Int × Pool))) x41.2).bind fun x42 => ((Wp.req (CMul x41.1 x42.1) (Wp.ok (x41.1 * x42.1)))).bind fun x43 => Wp.ok (x43, x42.2)) : Wp (Int × Pool))) x44.2).bind fun x45 => ((Wp.ok (x44.1 + x45.1))).bind fun x46 => Wp.ok (x46, x45.2)).bind fun x47 =>
 ((Wp.ok ([("buttons" : Str), ("2" : Str), ("answers" : Str), ("2" : Str), ("var" : Str), ("x" : Str), ("9" : Str), ("start" : Str), ("set" : Str), ("x" : Str), ("1" : Str), ("press" : Str)] : (List Str)))).bind fun x48 =>
 (((catW (cutL x48 none (some x47.1)) ([("use" : Str), ("x" : Str), ("1" : Str)] : (List Str)))).bind fun x49 => ((Wp.ok (cutL x48 (some x47.1) none))).bind fun x50 => (catW x49 x50)).bind fun x51 =>
 ((((((m_l_told x51 true)).bind fun x54 => (((m_l_told x51 false)).bind fun x52 => (Wp.ok ()).bind fun x53 => Wp.ok (x52, x53)).bind fun x55 => Wp.ok (x54, x55)).bind fun x56 => Wp.ok [x56.1, x56.2.1]).bind fun x67 => (((((((Wp.ok (" " : Str))).bind fun x57 => ((Wp.ok x51)).bind fun x58 => Wp.req (((x58).map (·.length)).sum + (x58).length * (x57).length ≤ 1000000) (Wp.ok (Str.join x57 x58))).bind fun y59 => Wp.ok (Sum.inl y59 : (Str ⊕ Int))).bind fun x62 => (((Wp.ok (Sum.inr x47.1 : (Str ⊕ Int)))).bind fun x60 => (Wp.ok ()).bind fun x61 => Wp.ok (x60, x61)).bind fun x63 => Wp.ok (x62, x63)).bind fun x64 => Wp.ok [x64.1, x64.2.1]).bind fun x65 => (Wp.ok ()).bind fun x66 => Wp.ok (x65, x66)).bind fun x68 => Wp.ok (x67, x68)).bind fun x69 => Wp.req (x69.1 = x69.2.1) (Wp.ok true)).bind fun x70 => Wp.ok (.ret x70))
end Lw
set_option exponentiation.threshold 20000
namespace L2.My
open PySem PySem.Spec PyProof.Rows L2
namespace Wp
variable {α β ι S L R T : Type} {A : α → Prop} {B : Err → Prop}
def yes (m : Wp α) (P : α → Prop) : Prop := m.run P fun _ => False
theorem runs {m : Wp α} {k : α → Wp β} {P : α → Prop} {A : β → Prop} (h : m.yes P) (hk : ∀ x, P x → (k x).run A B) : (m.bind k).run A B := m.mono hk (fun _ z => z.elim) h
theorem run_seq {m : Wp (Fl S L R)} {k : S → Wp (Fl T L R)} {A : Fl T L R → Prop} (h : m.run (fun z => match z with
  | .nx s => (k s).run A B | .brk l => A (.brk l) | .cnt l => A (.cnt l) | .ret x => A (.ret x)) B) : (seq m k).run A B := m.mono (fun z hz => by cases z <;> exact hz) (fun _ z => z) h
theorem run_for {f : ι → S → Wp (Fl S S R)} {A : Fl S L R → Prop} (I : List ι → S → Prop) (hs : ∀ x t s, I (x :: t) s → (f x s).run (fun z => match z with
  | .nx s' => I t s' | .cnt s' => I t s' | .brk s' => A (.nx s') | .ret r => A (.ret r)) B) (he : ∀ s, I [] s → A (.nx s)) : ∀ (xs : List ι) (s : S), I xs s → (for_ xs s f : Wp (Fl S L R)).run A B
  | [], s, h => he s h
  | x :: t, s, h => by
    refine (f x s).mono (fun z hz => ?_) (fun _ z => z) (hs x t s h)
    cases z with
    | nx s' => exact run_for I hs he t s' hz
    | cnt s' => exact run_for I hs he t s' hz
    | brk s' => exact hz
    | ret r => exact hz
theorem for_ok {f : ι → S → Wp (Fl S S R)} (g : S → ι → S) (I : List ι → S → Prop) (hs : ∀ x t s, I (x :: t) s → f x s = ok (.nx (g s x)) ∧ I t (g s x)) : ∀ (xs : List ι) (s : S), I xs s → (for_ xs s f : Wp (Fl S L R)) = ok (.nx (xs.foldl g s))
  | [], s, h => rfl
  | x :: t, s, h => by
    obtain ⟨h1, h2⟩ := hs x t s h
    show (f x s).bind _ = _
    rw [h1]
    exact for_ok g I hs t _ h2
theorem run_out {m : Wp (Fl Empty Empty R)} {P : R → Prop} (h : m.run (fun z => match z with | .nx s => s.elim | .brk s => s.elim | .cnt s => s.elim | .ret x => P x) B) : (out m).run P B := m.mono (fun z hz => by cases z <;> first | exact hz | (rename_i s; exact s.elim)) (fun _ z => z) h
end Wp
end L2.My
namespace Lw
open PySem PySem.Spec PyProof.Rows L2 L2.My
theorem run_draw {β : Type} {s : Pool} {z : Int} {k : Int × Pool → Wp β} {A : β → Prop} {B : Err → Prop} (h0 : 0 < z) (h1 : z < 1073741824) (hk : ∀ d s', 0 ≤ d → d < z → (k (d, s')).run A B) : ((drawW s z).bind k).run A B := ⟨⟨h0, h1⟩, fun d s' q0 q1 => hk d s' q0 q1⟩
theorem run_pool {β : Type} {ns : List Int} {b : Int} {k : Pool → Wp β} {A : β → Prop} {B : Err → Prop} (hk : ∀ s, (k s).run A B) : ((poolW ns b).bind k).run A B := hk
theorem law_imp {K : PySem.W.Frag} {m : List Int → Wp Bool} (h : ∀ ns, (m ns).yes fun b => b = true) : ∀ vs H Q X, spLaw K vs H Q X → spP K (raC (tScr K) raN) tBool (fun x => m x.1) vs H Q X := by
  rintro vs H Q X ⟨a, ns, F, rfl, e, hs, hl, k⟩
  refine ⟨F, (ns, ()), e, ⟨_, [], rfl, ⟨a, rfl, hs, hl⟩, rfl⟩, (m ns).mono (fun b hb => ?_) (fun _ z => z.elim) (h ns)⟩
  intro v F' H' n hv
  rw [show v = _ from hv, hb]
  exact k H'
theorem Sz.mul {a b : Nat} {p q : Rat} (h : Sz a p) (h' : Sz b q) : Sz (a + b) (p * q) := by
  rw [← q_mul]
  have dp := p.den_pos
  have dq := q.den_pos
  exact div_sz (Int.mul_pos (by omega) (by omega)) (lt_mul h.1 h'.1 (Nat.le_refl _)) (lt_mul h.den h'.den (Nat.le_refl _))
end Lw
set_option exponentiation.threshold 20000
local macro_rules | `(tactic| walk_at "wp") => `(tactic| try simp only [L2.My.Wp.ok_bind, L2.My.Wp.bind_ok, L2.My.Wp.bind_assoc, L2.My.Wp.req_bind, L2.My.Wp.bind_out, L2.My.Wp.ret_out, L2.My.Wp.raise_bind, L2.My.Wp.raise_out, L2.My.Wp.req_out, L2.My.Wp.bind_seq, L2.My.Wp.ok_seq, L2.My.Wp.ret_seq, L2.My.Wp.req_seq, L2.My.Wp.bind_up, L2.My.Wp.ret_up, L2.My.Wp.brk_up, L2.My.Wp.cnt_up, L2.My.Wp.req_up, L2.My.Wp.raise_up, L2.My.Wp.nox_ok, L2.My.Wp.nox_bind, L2.My.Wp.nox_req, L2.My.Wp.nox_get, L2.My.Wp.nox_nox, L2.My.Wp.ap, Lw.mkQ_self])
namespace Lw
open PySem PySem.Spec PyProof.Rows L2 L2.My
theorem str_ext {x y : Str} (h : x.cps.toList = y.cps.toList) : x = y := by
  obtain ⟨x⟩ := x
  obtain ⟨y⟩ := y
  have : x = y := Array.toList_inj.mp h
  rw [this]
theorem sp_eq : (" " : Str) = ⟨#[32]⟩ := rfl
theorem free_inj {c : Nat} : ∀ {a b r s : List Nat}, c ∉ a → c ∉ b → a ++ c :: r = b ++ c :: s → a = b ∧ r = s
  | [], [], r, s, _, _, h => by injection h with _ h; exact ⟨rfl, h⟩
  | [], y :: b, r, s, _, h2, h => by
    injection h with h _
    exact absurd (by rw [h]; simp) h2
  | x :: a, [], r, s, h1, _, h => by
    injection h with h _
    exact absurd (by rw [← h]; simp) h1
  | x :: a, y :: b, r, s, h1, h2, h => by
    injection h with e h
    obtain ⟨q1, q2⟩ := free_inj (fun z => h1 (by simp [z])) (fun z => h2 (by simp [z])) h
    exact ⟨by rw [e, q1], q2⟩
theorem join_cons2 (c : Nat) (x y : Str) (r : List Str) : (Str.join ⟨#[c]⟩ (x :: y :: r)).cps.toList = x.cps.toList ++ c :: (Str.join ⟨#[c]⟩ (y :: r)).cps.toList := by
  show ((x.cps ++ #[c]) ++ (Str.join ⟨#[c]⟩ (y :: r)).cps).toList = _
  rw [Array.toList_append, Array.toList_append, List.append_assoc]
  rfl
theorem join_has (c : Nat) : ∀ (x y : Str) (r : List Str), c ∈ (Str.join ⟨#[c]⟩ (x :: y :: r)).cps.toList := fun x y r => by
  rw [join_cons2]; simp
theorem join_inj {c : Nat} : ∀ (us ws : List Str), us ≠ [] → ws ≠ [] → (∀ u ∈ us, c ∉ u.cps.toList) → (∀ w ∈ ws, c ∉ w.cps.toList) → Str.join ⟨#[c]⟩ us = Str.join ⟨#[c]⟩ ws → us = ws
  | [], _, h, _, _, _, _ => absurd rfl h
  | _, [], _, h, _, _, _ => absurd rfl h
  | [x], [y], _, _, _, _, h => by rw [show x = y from h]
  | [x], y :: z :: r, _, _, hu, _, h => by
    have h1 := join_has c y z r
    rw [← h] at h1
    exact absurd h1 (hu x (by simp))
  | x :: z :: r, [y], _, _, _, hw, h => by
    have h1 := join_has c x z r
    rw [h] at h1
    exact absurd h1 (hw y (by simp))
  | x :: x2 :: r, y :: y2 :: s, _, _, hu, hw, h => by
    have h1 : (Str.join ⟨#[c]⟩ (x :: x2 :: r)).cps.toList = (Str.join ⟨#[c]⟩ (y :: y2 :: s)).cps.toList := by rw [h]
    rw [join_cons2, join_cons2] at h1
    obtain ⟨q1, q2⟩ := free_inj (hu x (by simp)) (hw y (by simp)) h1
    rw [str_ext q1, join_inj (x2 :: r) (y2 :: s) (by simp) (by simp) (fun u hu' => hu u (by simp [hu'])) (fun w hw' => hw w (by simp [hw'])) (str_ext q2)]
theorem split_ne (x y : Str) : Txt.split x y ≠ [] := fun h => by
  have := PyProof.Rows.split_pos x y
  rw [h] at this
  exact absurd this (by decide)
theorem split_join {c : Nat} {ws : List Str} (h : ws ≠ []) (hw : ∀ w ∈ ws, c ∉ w.cps.toList) : Txt.split (Str.join ⟨#[c]⟩ ws) ⟨#[c]⟩ = ws :=
  join_inj _ _ (split_ne _ _) h (PySem.StrLaws.split_free _ c) hw (PySem.StrLaws.join_split _ _)
open PySem.NumText in
def dg (w : Str) (k : Nat) : Option Int :=
  if (0 < w.length ∧ w.length ≤ k) ∧ (w.cps.toList.all fun c => decide (48 ≤ c ∧ c ≤ 57)) = true ∧ ¬ (w.cps.toList.head? = some 48 ∧ 1 < w.length) then some ((digitsVal w.cps.toList : Nat) : Int) else none
theorem len_list (w : Str) : w.cps.toList.length = w.length := Array.length_toList
theorem chs_map {β : Type} (f : Str → β) (w : Str) : (chs w).map f = w.cps.toList.map fun c => f ⟨#[c]⟩ := by
  unfold chs; rw [List.map_map]; rfl
theorem in_digits (c : Nat) : inS ⟨#[c]⟩ ("0123456789" : Str) = decide (48 ≤ c ∧ c ≤ 57) := by
  unfold inS
  rw [PySem.StrLaws.found_one]
  have e : (("0123456789" : Str)).cps.toList = [48, 49, 50, 51, 52, 53, 54, 55, 56, 57] := by decide +kernel
  rw [e, Bool.eq_iff_iff, decide_eq_true_eq, decide_eq_true_eq]
  constructor
  · intro h; simp only [List.mem_cons, List.not_mem_nil, or_false] at h; omega
  · intro h; simp only [List.mem_cons, List.not_mem_nil, or_false]; omega
theorem chAt0 {w : Str} (h : 0 < w.length) : ∃ c r, w.cps.toList = c :: r ∧ chAt w 0 = some ⟨#[c]⟩ := by
  cases e : w.cps.toList with
  | nil => rw [← len_list, e] at h; exact absurd h (by decide)
  | cons c r =>
    refine ⟨c, r, rfl, ?_⟩
    unfold chAt
    rw [e]
    have : atI (c :: r) (0 : Int) = some c := by simp [atI, ixN]
    rw [this]
    rfl
theorem one_eq {c d : Nat} : ((⟨#[c]⟩ : Str) = ⟨#[d]⟩) ↔ c = d := ⟨fun h => by injection h with h; injection h with h; injection h, fun h => by rw [h]⟩
theorem dg_int {w : Str} {k : Nat} (hk : k ≤ 640) (h1 : 0 < w.length) (h2 : w.length ≤ k) (h3 : (w.cps.toList.all fun c => decide (48 ≤ c ∧ c ≤ 57)) = true) : PySem.intText? w = some ((PySem.NumText.digitsVal w.cps.toList : Nat) : Int) := by
  refine PySem.intText_digits (fun c hc => of_decide_eq_true (List.all_eq_true.mp h3 c hc)) (fun e => ?_) (by omega)
  rw [← len_list, e] at h1
  exact absurd h1 (by decide)
theorem lenI {w : Str} {k : Nat} : ((decide ((0 : Int) < ((w.length : Nat) : Int))) && (decide (((w.length : Nat) : Int) ≤ (k : Int)))) = decide (0 < w.length ∧ w.length ≤ k) := by
  rw [Bool.eq_iff_iff, Bool.and_eq_true, decide_eq_true_eq, decide_eq_true_eq, decide_eq_true_eq]
  omega
theorem getS {α : Type} (x : α) : Wp.get (some x) = .ok x := rfl
theorem run_digits (w : Str) (k : Nat) (hk : k ≤ 640) : m_digits_of w (k : Int) = .ok (dg w k) := by
  unfold m_digits_of dg
  rw [lenI, chs_map, show (fun c => inS ⟨#[c]⟩ ("0123456789" : Str)) = fun c => decide (48 ≤ c ∧ c ≤ 57) from funext in_digits]
  have ea : ((w.cps.toList.map fun c => decide (48 ≤ c ∧ c ≤ 57)).all id) = w.cps.toList.all fun c => decide (48 ≤ c ∧ c ≤ 57) := by
    rw [List.all_map]; rfl
  rw [ea]
  by_cases h1 : 0 < w.length ∧ w.length ≤ k
  · by_cases h3 : (w.cps.toList.all fun c => decide (48 ≤ c ∧ c ≤ 57)) = true
    · obtain ⟨c, r, e, h0⟩ := chAt0 h1.1
      have hi := dg_int hk h1.1 h1.2 h3
      have hr : r.length + 1 = w.length := by rw [← len_list, e]; rfl
      have h5 : (w = ("0" : Str)) ↔ (c = 48 ∧ w.length = 1) := by
        constructor
        · rintro rfl; exact ⟨by injection e with e; exact e.symm, rfl⟩
        · rintro ⟨rfl, h⟩
          have : r = [] := List.eq_nil_of_length_eq_zero (by omega)
          refine str_ext ?_
          rw [e, this]; rfl
      have hd : (w.cps.toList.head? = some 48) ↔ c = 48 := by rw [e]; simp
      rw [h0, hi, getS, getS, Wp.req_true (show w.length ≤ 640 by omega), if_neg (by rw [h3, decide_eq_true h1]; decide)]
      walk_at "wp"
      rw [show decide ((⟨#[c]⟩ : Str) = ("0" : Str)) = decide (c = 48) from decide_eq_decide.mpr one_eq]
      by_cases h4 : c = 48
      · rw [decide_eq_true h4, if_pos rfl]
        walk_at "wp"
        by_cases h6 : w.length = 1
        · rw [decide_eq_true (h5.mpr ⟨h4, h6⟩), if_neg (by decide), if_pos ⟨h1, h3, fun h => by omega⟩]
          walk_at "wp"
        · rw [decide_eq_false (fun h => h6 (h5.mp h).2), if_pos (by decide), if_neg (fun h => h.2.2 ⟨hd.mpr h4, by omega⟩)]
          walk_at "wp"
      · rw [decide_eq_false h4, if_neg (by decide), if_pos ⟨h1, h3, fun h => h4 (hd.mp h.1)⟩]
        walk_at "wp"
        rw [if_neg (by decide)]
        walk_at "wp"
    · rw [if_pos (by rw [Bool.not_eq_true] at h3; rw [h3, decide_eq_true h1]; rfl), if_neg (fun h => h3 h.2.1)]
      walk_at "wp"
  · rw [if_pos (by rw [decide_eq_false h1]; rfl), if_neg (fun h => h1 h.1)]
    walk_at "wp"
open PySem.NumText TL
theorem digitsVal_lt : ∀ (cs : List Nat), AllDigits cs → digitsVal cs < 10 ^ cs.length := by
  have key : ∀ (cs : List Nat) (a : Nat), AllDigits cs → cs.foldl (fun acc c => acc * 10 + (c - 48)) a < (a + 1) * 10 ^ cs.length := by
    intro cs
    induction cs with
    | nil => intro a _; simp
    | cons c t ih =>
      intro a h
      rw [List.foldl_cons]
      have h1 := h.head
      have h2 := ih (a * 10 + (c - 48)) h.tail
      refine Nat.lt_of_lt_of_le h2 ?_
      rw [List.length_cons, Nat.pow_succ, Nat.mul_comm (10 ^ t.length) 10, ← Nat.mul_assoc]
      exact Nat.mul_le_mul_right _ (by omega)
  intro cs h
  have := key cs 0 h
  rw [Nat.zero_add, Nat.one_mul] at this
  exact this
theorem dg_bd {w : Str} {k : Nat} {n : Int} (h : dg w k = some n) : 0 ≤ n ∧ n < 10 ^ k := by
  unfold dg at h
  split at h
  · rename_i hc
    cases h
    have h1 := digitsVal_lt w.cps.toList fun c hc' => of_decide_eq_true (List.all_eq_true.mp hc.2.1 c hc')
    rw [len_list] at h1
    have h2 : 10 ^ w.length ≤ 10 ^ k := Nat.pow_le_pow_right (by decide) hc.1.2
    refine ⟨Int.natCast_nonneg _, ?_⟩
    have h3 : digitsVal w.cps.toList < 10 ^ k := Nat.lt_of_lt_of_le h1 h2
    have : ((digitsVal w.cps.toList : Nat) : Int) < ((10 ^ k : Nat) : Int) := by exact_mod_cast h3
    rwa [Int.natCast_pow] at this
  · cases h
def tx (n : Int) : Str := Str.ofString (toString n)
theorem tx_nat (m : Nat) : (tx (m : Int)).cps.toList = numL m := tl_num m
theorem numL_zero : numL 0 = [48] := by rw [numL_lt (by decide)]
theorem dg_canon {w : Str} {k : Nat} {n : Int} (h : dg w k = some n) : ∃ m : Nat, n = m ∧ w.cps.toList = numL m := by
  unfold dg at h
  split at h
  · rename_i hc
    obtain ⟨⟨h1, h2⟩, h3, h4⟩ := hc
    cases h
    refine ⟨_, rfl, ?_⟩
    have ha : AllDigits w.cps.toList := fun c hc' => of_decide_eq_true (List.all_eq_true.mp h3 c hc')
    obtain ⟨c, r, e, _⟩ := chAt0 h1
    have hc := ha c (by rw [e]; simp)
    by_cases hz : c = 48
    · have hr : r = [] := by
        have : ¬ 1 < w.length := fun z => h4 ⟨by rw [e, hz]; rfl, z⟩
        have h5 : r.length + 1 = w.length := by rw [← len_list, e]; rfl
        exact List.eq_nil_of_length_eq_zero (by omega)
      rw [e, hz, hr]
      exact numL_zero.symm
    · have ht := toDigits_digitsVal r.length (c :: r) rfl (e ▸ ha) (.inr ⟨c, r, rfl, by omega⟩)
      rw [e]
      unfold numL
      rw [ht, List.map_map]
      have : ∀ l : List Nat, AllDigits l → l.map (Char.toNat ∘ Char.ofNat) = l := by
        intro l
        induction l with
        | nil => intro _; rfl
        | cons d l ih =>
          intro hl
          rw [List.map_cons, ih hl.tail]
          have hd := hl.head
          have e : (Char.ofNat d).toNat = d := (by decide : ∀ d, d < 58 → (Char.ofNat d).toNat = d) d (by omega)
          show (Char.ofNat d).toNat :: l = d :: l
          rw [e]
      exact (this _ (e ▸ ha)).symm
  · cases h
theorem dg_tx' {w : Str} {k : Nat} {n : Int} (h : dg w k = some n) : tx n = w := by
  obtain ⟨m, rfl, e⟩ := dg_canon h
  exact str_ext (by rw [tx_nat, e])

def nm (w : Str) : Bool := ((decide ((0 : Int) < (((w).length : Nat) : Int))) && (decide ((((w).length : Nat) : Int) ≤ (8 : Int)))) && ((true ^^ decide (w ∈ (["buttons", "answers", "var", "start", "press", "set", "draw", "use", "say", "if", "else", "end", "mod"] : List Str))) && (((((chs w)).map fun x1 => ((!decide ((x1).cps.toList < (("a" : Str)).cps.toList)) && (!decide ((("z" : Str)).cps.toList < (x1).cps.toList))))).all id))
theorem run_name (w : Str) : m_is_name w = .ok (nm w) := by
  unfold m_is_name nm
  walk_at "wp"
def nb (w : Str) : Option Int := match dg w 5 with
  | some n => if 65535 < n then none else some n
  | none => none
theorem run_number (w : Str) : m_number_of w = .ok (nb w) := by
  unfold m_number_of nb
  rw [show m_digits_of w (5 : Int) = .ok (dg w 5) from run_digits w 5 (by decide)]
  walk_at "wp"
  cases dg w 5 with
  | none =>
    rw [show (none : Option Int).isNone = true from rfl, if_pos rfl]
    walk_at "wp"
    rfl
  | some n =>
    rw [show (some n : Option Int).isNone = false from rfl, if_neg (by decide), getS]
    walk_at "wp"
    by_cases h : 65535 < n
    · rw [if_pos (by rw [decide_eq_true h]), if_pos h]
      walk_at "wp"
    · rw [if_neg (by rw [decide_eq_false h]; decide), if_neg h]
      walk_at "wp"
theorem nb_canon {w : Str} {n : Int} (h : nb w = some n) : 0 ≤ n ∧ n ≤ 65535 ∧ Str.ofString (toString n) = w := by
  unfold nb at h
  cases e : dg w 5 with
  | none => rw [e] at h; cases h
  | some k =>
    rw [e] at h
    dsimp only at h
    split at h
    · cases h
    · cases h
      exact ⟨(dg_bd e).1, by omega, dg_tx' e⟩
theorem small_log {n : Int} (h0 : 0 ≤ n) (h1 : n ≤ 65535) : n.natAbs.log2 < 1920 := by
  rcases Nat.eq_zero_or_pos n.natAbs with h | h
  · rw [h]; decide
  · refine (Nat.log2_lt (by omega)).mpr (Nat.lt_of_lt_of_le (show n.natAbs < 2 ^ 16 by omega) (Nat.pow_le_pow_right (by decide) (by decide)))
end Lw
set_option exponentiation.threshold 20000
local macro_rules | `(tactic| walk_at "wp") => `(tactic| try simp only [L2.My.Wp.ok_bind, L2.My.Wp.bind_ok, L2.My.Wp.bind_assoc, L2.My.Wp.req_bind, L2.My.Wp.bind_out, L2.My.Wp.ret_out, L2.My.Wp.raise_bind, L2.My.Wp.raise_out, L2.My.Wp.req_out, L2.My.Wp.bind_seq, L2.My.Wp.ok_seq, L2.My.Wp.ret_seq, L2.My.Wp.req_seq, L2.My.Wp.bind_up, L2.My.Wp.ret_up, L2.My.Wp.brk_up, L2.My.Wp.cnt_up, L2.My.Wp.req_up, L2.My.Wp.raise_up, L2.My.Wp.nox_ok, L2.My.Wp.nox_bind, L2.My.Wp.nox_req, L2.My.Wp.nox_get, L2.My.Wp.nox_nox, L2.My.Wp.ap, Lw.mkQ_self])
namespace Lw
open PySem PySem.Spec PyProof.Rows L2 L2.My
local macro_rules | `(tactic| walk_at "ev") => `(tactic| try simp only [L2.My.Wp.ok_bind, L2.My.Wp.bind_ok, L2.My.Wp.bind_assoc, L2.My.Wp.req_bind, L2.My.Wp.bind_out, L2.My.Wp.ret_out, L2.My.Wp.raise_bind, L2.My.Wp.raise_out, L2.My.Wp.req_out, L2.My.Wp.bind_seq, L2.My.Wp.ok_seq, L2.My.Wp.ret_seq, L2.My.Wp.req_seq, L2.My.Wp.bind_up, L2.My.Wp.ret_up, L2.My.Wp.brk_up, L2.My.Wp.cnt_up, L2.My.Wp.req_up, L2.My.Wp.raise_up, L2.My.Wp.ap, Lw.mkQ_self, Lw.getS, Option.isNone_none, Option.isNone_some, Option.isSome_none, Option.isSome_some, if_true, if_false, Bool.false_eq_true, Bool.not_true, Bool.not_false, decide_true, decide_false, Bool.and_true, Bool.true_and, Bool.and_false, Bool.false_and, Bool.or_true, Bool.true_or, Bool.or_false, Bool.false_or, List.head?_cons, List.head?_nil, not_true, not_false_eq_true, true_and, and_true, false_and, and_false, *])
inductive Kd where | start | top | thn | els | emp
inductive It where
  | word (w : Str) | one | num (lo hi : Int) | val (ns : List Str) (room : Int) | blk (room : Int) (k : Kd) | head | new
structure Sc where
  names : List Str
  extra : List Str
  draws : Int
  uses : Int
def Kd.norm : Kd → Kd | .emp => .els | k => k
theorem Kd.norm2 (k : Kd) : k.norm.norm = k.norm := by cases k <;> rfl
def Kd.closes : Kd → Bool | .thn => true | .els => true | _ => false
def Kd.isThn : Kd → Bool | .thn => true | _ => false
def Kd.isStart : Kd → Bool | .start => true | _ => false
abbrev signW : List Str := ["+", "-", "*", "/", "mod", "<", "="]
def inB (n : Option Int) (lo hi : Int) : Bool := match n with | some k => decide (lo ≤ k ∧ k ≤ hi) | none => false
def stmN (room : Int) (sc : Sc) (w : Str) : Option (List It × Sc) :=
  if w = ("set" : Str) ∧ sc.names ≠ [] then some ([.one, .val (sc.names ++ sc.extra) 5], sc)
  else if w = ("draw" : Str) ∧ sc.names ≠ [] ∧ sc.draws ≠ 0 then some ([.one, .num 1 6], ⟨sc.names, sc.extra, sc.draws - 1, sc.uses⟩)
  else if w = ("use" : Str) ∧ sc.names ≠ [] ∧ sc.uses ≠ 0 then some ([.one, .val (sc.names ++ sc.extra) 5], ⟨sc.names, sc.extra, sc.draws, sc.uses - 1⟩)
  else if w = ("say" : Str) ∧ sc.extra ≠ [] then some ([.val (sc.names ++ sc.extra) 5], sc)
  else if w = ("if" : Str) ∧ room ≠ 0 then some ([.val (sc.names ++ sc.extra) 5, .blk (room - 1) .thn], sc)
  else none
def nxB (room : Int) (k : Kd) (K : List It) (sc : Sc) (w : Str) : Option (List It × Sc) :=
  if w = ("end" : Str) ∧ k.closes = true then some (K, sc)
  else if w = ("else" : Str) ∧ k.isThn = true ∧ (sc.names ++ sc.extra ≠ [] ∨ 0 < room) then some (.blk room .emp :: K, sc)
  else if w = ("press" : Str) ∧ k.isStart = true then some (.blk 4 .top :: K, ⟨sc.names, ["press"], sc.draws, sc.uses⟩)
  else match stmN room sc w with
    | some (I, sc') => some (I ++ .blk room k.norm :: K, sc')
    | none => none
def nxI (sc : Sc) (w : Str) : List It → Option (List It × Sc)
  | [] => none
  | .word v :: K => if w = v then some (K, sc) else none
  | .one :: K => if w ∈ sc.names then some (K, sc) else none
  | .num lo hi :: K => if inB (nb w) lo hi = true then some (K, sc) else none
  | .val ns room :: K => if w ∈ signW ∧ 1 < room then some (.val ns (room - 1) :: .val ns (room - 1) :: K, sc) else if w ∈ ns ∨ (nb w).isSome = true then some (K, sc) else none
  | .blk room k :: K => nxB room k K sc w
  | .head :: K => if w = ("var" : Str) ∧ sc.names.length < 4 then some (.new :: .num 1 12 :: .head :: K, sc) else if w = ("start" : Str) then some (.blk 4 .start :: K, sc) else none
  | .new :: K => if nm w = true ∧ w ∉ sc.names then some (K, ⟨sc.names ++ [w], sc.extra, sc.draws, sc.uses⟩) else none
def accI : List It → Bool | [.blk _ .top] => true | _ => false
def go : List It → Sc → List Str → Nat → Option Nat
  | K, _, [], p => if accI K = true then none else some p
  | K, sc, w :: r, p => match nxI sc w K with
    | some (K', sc') => go K' sc' r (p + 1)
    | none => some p
theorem go_step {K K' : List It} {sc sc' : Sc} {w : Str} {r : List Str} {p : Nat} (h : nxI sc w K = some (K', sc')) : go K sc (w :: r) p = go K' sc' r (p + 1) := by
  show (match nxI sc w K with | some (K', sc') => go K' sc' r (p + 1) | none => some p) = _
  rw [h]
theorem go_bad {K : List It} {sc : Sc} {w : Str} {r : List Str} {p : Nat} (h : nxI sc w K = none) : go K sc (w :: r) p = some p := by
  show (match nxI sc w K with | some (K', sc') => go K' sc' r (p + 1) | none => some p) = _
  rw [h]
theorem go_nil {K : List It} {sc : Sc} {p : Nat} (h : accI K = false) : go K sc [] p = some p := by
  show (if accI K = true then none else some p) = _
  rw [h]; rfl
abbrev cu (ws : List Str) (p : Nat) : S_Cursor := (((), ws), (p : Int))
abbrev Bad (k : Nat) : Err := ⟨"BadText", some ("at", .int (k : Int))⟩
def Pt (ws : List Str) (p : Nat) (rest : List Str) : Prop := ws.drop p = rest ∧ p ≤ ws.length
theorem Pt.lt {ws : List Str} {p : Nat} {rest : List Str} (h : Pt ws p rest) : p + rest.length = ws.length := by
  rw [← h.1, List.length_drop]
  have := h.2
  omega
theorem Pt.nx {ws : List Str} {p : Nat} {w : Str} {r : List Str} (h : Pt ws p (w :: r)) : Pt ws (p + 1) r := by
  have h1 := h.lt
  rw [List.length_cons] at h1
  refine ⟨?_, by omega⟩
  rw [← List.drop_drop, h.1]; rfl
theorem Pt.app {ws : List Str} {p : Nat} : ∀ {W r : List Str}, Pt ws p (W ++ r) → Pt ws (p + W.length) r := by
  intro W r h
  have h1 := h.lt
  rw [List.length_append] at h1
  refine ⟨?_, by omega⟩
  rw [← List.drop_drop, h.1, List.drop_left]
theorem run_next {ws : List Str} {p : Nat} {rest : List Str} (h : Pt ws p rest) : m_Cursor_nextS (cu ws p) = .ok (rest.head?, cu ws p) := by
  have h1 := h.lt
  unfold m_Cursor_nextS cu
  cases rest with
  | nil =>
    rw [List.length_nil] at h1
    rw [if_neg (by rw [decide_eq_true_eq]; dsimp only; omega)]
    walk_at "wp"
    rfl
  | cons w r =>
    rw [List.length_cons] at h1
    have h2 : atI ws (p : Int) = some w := by
      have : ws[p]? = some w := by rw [← List.head?_drop, h.1]; rfl
      rw [atI_nat this]
    rw [if_pos (by rw [decide_eq_true_eq]; dsimp only; omega)]
    dsimp only
    rw [h2, getS]
    walk_at "wp"
    rfl
theorem up1 (p : Nat) : (p : Int) + 1 = ((p + 1 : Nat) : Int) := by omega
section
variable {ws : List Str} {p : Nat} {w : Str} {r rest vs ns : List Str} {lo hi n : Int}
theorem word_ok (h : Pt ws p (w :: r)) (hw : w ∈ vs) : m_Cursor_wordS (cu ws p) vs = .ok (w, cu ws (p + 1)) := by
  have hn := run_next h
  unfold m_Cursor_wordS
  clear h
  walk_at "ev"
  rfl
theorem word_no (h : Pt ws p rest) (hw : ∀ w r, rest = w :: r → w ∉ vs) : m_Cursor_wordS (cu ws p) vs = .raise (Bad p) := by
  have hn := run_next h
  unfold m_Cursor_wordS
  clear h
  cases rest with
  | nil =>
    clear hw
    walk_at "ev"
  | cons w r =>
    have hw := hw w r rfl
    walk_at "ev"
theorem num_ok (h : Pt ws p (w :: r)) (hw : nb w = some n) (hl : lo ≤ n) (hh : n ≤ hi) : m_Cursor_numberS (cu ws p) lo hi = .ok (n, cu ws (p + 1)) := by
  have hn := run_next h
  have hm := run_number w
  unfold m_Cursor_numberS
  clear h
  walk_at "ev"
  rfl
theorem num_no (h : Pt ws p rest) (hw : ∀ w r, rest = w :: r → inB (nb w) lo hi = false) : m_Cursor_numberS (cu ws p) lo hi = .raise (Bad p) := by
  have hn := run_next h
  unfold m_Cursor_numberS
  clear h
  cases rest with
  | nil =>
    clear hw
    walk_at "ev"
  | cons w r =>
    have hw := hw w r rfl
    have hm := run_number w
    cases e : nb w with
    | none =>
      clear hw
      walk_at "ev"
    | some n =>
      rw [e] at hw
      unfold inB at hw
      have hw := of_decide_eq_false hw
      by_cases h1 : lo ≤ n
      · have h2 : ¬ n ≤ hi := fun z => hw ⟨h1, z⟩
        clear hw
        walk_at "ev"
      · clear hw
        walk_at "ev"
theorem new_ok (h : Pt ws p (w :: r)) (hw : nm w = true) (hl : w ∉ ns) : m_Cursor_new_nameS (cu ws p) ns = .ok (w, cu ws (p + 1)) := by
  have hn := run_next h
  have hm := run_name w
  unfold m_Cursor_new_nameS
  clear h
  walk_at "ev"
  rfl
theorem new_no (h : Pt ws p rest) (hw : ∀ w r, rest = w :: r → ¬ (nm w = true ∧ w ∉ ns)) : m_Cursor_new_nameS (cu ws p) ns = .raise (Bad p) := by
  have hn := run_next h
  unfold m_Cursor_new_nameS
  clear h
  cases rest with
  | nil =>
    clear hw
    walk_at "ev"
  | cons w r =>
    have hw := hw w r rfl
    have hm := run_name w
    cases e : nm w with
    | false =>
      clear hw
      walk_at "ev"
    | true =>
      have h2 : w ∈ ns := Decidable.byContradiction fun z => hw ⟨e, z⟩
      clear hw
      walk_at "ev"
theorem fin_ok (h : Pt ws p []) : m_Cursor_finishS (cu ws p) = .ok ((), cu ws p) := by
  have h1 := h.lt
  unfold m_Cursor_finishS
  rw [List.length_nil] at h1
  rw [if_neg (by rw [decide_eq_true_eq]; dsimp only; omega)]
  rfl
theorem fin_no (h : Pt ws p (w :: r)) : m_Cursor_finishS (cu ws p) = .raise (Bad p) := by
  have h1 := h.lt
  unfold m_Cursor_finishS
  rw [List.length_cons] at h1
  rw [if_pos (by rw [decide_eq_true_eq]; dsimp only; omega)]
  rfl
end
end Lw
set_option exponentiation.threshold 20000
local macro_rules | `(tactic| walk_at "wp") => `(tactic| try simp only [L2.My.Wp.ok_bind, L2.My.Wp.bind_ok, L2.My.Wp.bind_assoc, L2.My.Wp.req_bind, L2.My.Wp.bind_out, L2.My.Wp.ret_out, L2.My.Wp.raise_bind, L2.My.Wp.raise_out, L2.My.Wp.req_out, L2.My.Wp.bind_seq, L2.My.Wp.ok_seq, L2.My.Wp.ret_seq, L2.My.Wp.req_seq, L2.My.Wp.bind_up, L2.My.Wp.ret_up, L2.My.Wp.brk_up, L2.My.Wp.cnt_up, L2.My.Wp.req_up, L2.My.Wp.raise_up, L2.My.Wp.nox_ok, L2.My.Wp.nox_bind, L2.My.Wp.nox_req, L2.My.Wp.nox_get, L2.My.Wp.nox_nox, L2.My.Wp.ap, Lw.mkQ_self])
namespace Lw
open PySem PySem.Spec PyProof.Rows L2 L2.My
local macro_rules | `(tactic| walk_at "ev") => `(tactic| try simp only [L2.My.Wp.ok_bind, L2.My.Wp.bind_ok, L2.My.Wp.bind_assoc, L2.My.Wp.req_bind, L2.My.Wp.bind_out, L2.My.Wp.ret_out, L2.My.Wp.raise_bind, L2.My.Wp.raise_out, L2.My.Wp.req_out, L2.My.Wp.bind_seq, L2.My.Wp.ok_seq, L2.My.Wp.ret_seq, L2.My.Wp.req_seq, L2.My.Wp.bind_up, L2.My.Wp.ret_up, L2.My.Wp.brk_up, L2.My.Wp.cnt_up, L2.My.Wp.req_up, L2.My.Wp.raise_up, L2.My.Wp.ap, Lw.mkQ_self, Lw.getS, Option.isNone_none, Option.isNone_some, Option.isSome_none, Option.isSome_some, if_true, if_false, Bool.false_eq_true, Bool.not_true, Bool.not_false, decide_true, decide_false, Bool.false_xor, Bool.true_xor, Bool.xor_false, Bool.xor_true, Bool.and_true, Bool.true_and, Bool.and_false, Bool.false_and, Bool.or_true, Bool.true_or, Bool.or_false, Bool.false_or, List.head?_cons, List.head?_nil, not_true, not_false_eq_true, true_and, and_true, false_and, and_false, *])
theorem atK0 {α : Type} {x : α} {t : List α} : atI (x :: t) (0 : Int) = some x := by simp [atI, ixN]
theorem atK1 {α : Type} {x y : α} {t : List α} : atI (x :: y :: t) (1 : Int) = some y := by
  rw [show (1 : Int) = ((1 : Nat) : Int) from rfl, atI_nat (v := y) rfl]
theorem atK2 {α : Type} {x y z : α} {t : List α} : atI (x :: y :: z :: t) (2 : Int) = some z := by
  rw [show (2 : Int) = ((2 : Nat) : Int) from rfl, atI_nat (v := z) rfl]
theorem atK3 {α : Type} {x y z a : α} {t : List α} : atI (x :: y :: z :: a :: t) (3 : Int) = some a := by
  rw [show (3 : Int) = ((3 : Nat) : Int) from rfl, atI_nat (v := a) rfl]
theorem atM2 {α : Type} {x y : α} : atI [x, y] (-(1 : Int)) = some y := rfl
theorem atM3 {α : Type} {x y z : α} : atI [x, y, z] (-(1 : Int)) = some z := rfl
def ExW (room : Nat) (e : Dt) (W : List Str) : Prop := ∀ f, room ≤ f → W.length ≤ 16777215 → m_expression_words f e = .ok W
theorem ExW.leaf2 {room : Nat} {a : Str} {s : Str} (h : 1 ≤ room) : ExW room (.tup [.str a, .str s]) [s] := by
  intro f hf _
  obtain ⟨n, rfl⟩ : ∃ n, f = n + 1 := ⟨f - 1, by omega⟩
  show Wp.out _ = _
  walk_at "ev"
  rfl
theorem ExW.num {room : Nat} {a : Str} {n : Int} {w : Str} (h : 1 ≤ room) (hw : nb w = some n) : ExW room (.tup [.str a, .int n]) [w] := by
  intro f hf _
  obtain ⟨h0, h1, h2⟩ := nb_canon hw
  have h3 := small_log h0 h1
  obtain ⟨m, rfl⟩ : ∃ m, f = m + 1 := ⟨f - 1, by omega⟩
  show Wp.out _ = _
  have k0 : (Wp.get (dtT (.tup [.str a, .int n]))) = .ok [.str a, .int n] := rfl
  have k1 : Wp.get (atI [Dt.str a, .int n] (-1)) = .ok (.int n) := by rw [atM2]; rfl
  have k4 : strD (.int n) = .ok w := by
    show Wp.req (n.natAbs.log2 < 1920) (Wp.ok (Str.ofString (toString n))) = _
    rw [Wp.req_true h3, h2]
  have k5 : decide ((([Dt.str a, .int n].length : Nat) : Int) = 3) = false := rfl
  clear hw h2 h3
  walk_at "ev"
theorem ExW.leaf1 {room : Nat} {s : Str} (h : 1 ≤ room) : ExW room (.tup [.str s]) [s] := by
  intro f hf _
  obtain ⟨n, rfl⟩ : ∃ n, f = n + 1 := ⟨f - 1, by omega⟩
  show Wp.out _ = _
  walk_at "ev"
  rfl
theorem ExW.node {room : Nat} {a : Str} {l r : Dt} {L R : List Str} (h : 2 ≤ room) (hl : ExW (room - 1) l L) (hr : ExW (room - 1) r R) : ExW room (.tup [.str a, l, r]) (a :: (L ++ R)) := by
  intro f hf hW
  obtain ⟨n, rfl⟩ : ∃ n, f = n + 1 := ⟨f - 1, by omega⟩
  rw [List.length_cons, List.length_append] at hW
  have h1 := hl n (by omega) (by omega)
  have h2 := hr n (by omega) (by omega)
  show Wp.out _ = _
  have k0 : (Wp.get (dtT (.tup [.str a, l, r]))) = .ok [.str a, l, r] := rfl
  have k1 : Wp.get (atI [Dt.str a, l, r] 0) = .ok (.str a) := by rw [atK0]; rfl
  have k2 : Wp.get (atI [Dt.str a, l, r] 1) = .ok l := by rw [atK1]; rfl
  have k3 : Wp.get (atI [Dt.str a, l, r] 2) = .ok r := by rw [atK2]; rfl
  have k4 : Wp.get (dtS (.str a)) = .ok a := rfl
  have k5 : decide ((([Dt.str a, l, r].length : Nat) : Int) = 3) = true := rfl
  clear hl hr
  walk_at "ev"
  rw [List.append_nil, Wp.req_true (by rw [List.length_cons, List.length_append]; omega)]
section
variable {ws ns ex : List Str} {n room p p1 p2 k : Nat} {w : Str} {r : List Str} {e1 e2 : Dt} {m : Int}
theorem expr_node (h : Pt ws p (w :: r)) (hs : w ∈ signW) (hr : 1 < room) (q2 : m_Cursor_expressionS n (cu ws (p + 1)) ns ex ((room - 1 : Nat) : Int) = .ok (e1, cu ws p1)) (t2 : m_Cursor_expressionS n (cu ws p1) ns ex ((room - 1 : Nat) : Int) = .ok (e2, cu ws p2)) :
    m_Cursor_expressionS (n + 1) (cu ws p) ns ex (room : Int) = .ok (.tup [.str w, e1, e2], cu ws p2) := by
  have hn := run_next h
  have hr' : decide ((1 : Int) < (room : Int)) = true := by rw [decide_eq_true_eq]; omega
  have ep : (room : Int) - 1 = ((room - 1 : Nat) : Int) := by omega
  have ew : Wp.get (some w) = .ok w := rfl
  show Wp.out _ = _
  clear h hr
  simp only [up1, ep] at *
  walk_at "ev"
  simp only [up1]
  walk_at "ev"
theorem expr_no1 (h : Pt ws p (w :: r)) (hs : w ∈ signW) (hr : 1 < room) (q2 : m_Cursor_expressionS n (cu ws (p + 1)) ns ex ((room - 1 : Nat) : Int) = .raise (Bad k)) :
    m_Cursor_expressionS (n + 1) (cu ws p) ns ex (room : Int) = .raise (Bad k) := by
  have hn := run_next h
  have hr' : decide ((1 : Int) < (room : Int)) = true := by rw [decide_eq_true_eq]; omega
  have ep : (room : Int) - 1 = ((room - 1 : Nat) : Int) := by omega
  show Wp.out _ = _
  clear h hr
  simp only [up1, ep] at *
  walk_at "ev"
  simp only [up1]
  walk_at "ev"
theorem expr_no2 (h : Pt ws p (w :: r)) (hs : w ∈ signW) (hr : 1 < room) (q2 : m_Cursor_expressionS n (cu ws (p + 1)) ns ex ((room - 1 : Nat) : Int) = .ok (e1, cu ws p1)) (t2 : m_Cursor_expressionS n (cu ws p1) ns ex ((room - 1 : Nat) : Int) = .raise (Bad k)) :
    m_Cursor_expressionS (n + 1) (cu ws p) ns ex (room : Int) = .raise (Bad k) := by
  have hn := run_next h
  have hr' : decide ((1 : Int) < (room : Int)) = true := by rw [decide_eq_true_eq]; omega
  have ep : (room : Int) - 1 = ((room - 1 : Nat) : Int) := by omega
  show Wp.out _ = _
  clear h hr
  simp only [up1, ep] at *
  walk_at "ev"
  simp only [up1]
  walk_at "ev"
theorem expr_end (h : Pt ws p []) : m_Cursor_expressionS (n + 1) (cu ws p) ns ex (room : Int) = .raise (Bad p) := by
  have hn := run_next h
  show Wp.out _ = _
  clear h
  walk_at "ev"
theorem expr_var (h : Pt ws p (w :: r)) (hs : ¬ (w ∈ signW ∧ 1 < room)) (hv : w ∈ ns) : m_Cursor_expressionS (n + 1) (cu ws p) ns ex (room : Int) = .ok (.tup [.str "variable", .str w], cu ws (p + 1)) := by
  have hn := run_next h
  show Wp.out _ = _
  clear h
  by_cases h1 : w ∈ signW
  · have hr' : decide ((1 : Int) < (room : Int)) = false := by rw [decide_eq_false_iff_not]; exact fun z => hs ⟨h1, by omega⟩
    clear hs
    walk_at "ev"
    rfl
  · clear hs
    walk_at "ev"
    rfl
theorem expr_ex (h : Pt ws p (w :: r)) (hs : ¬ (w ∈ signW ∧ 1 < room)) (hv : w ∉ ns) (he : w ∈ ex) : m_Cursor_expressionS (n + 1) (cu ws p) ns ex (room : Int) = .ok (.tup [.str w], cu ws (p + 1)) := by
  have hn := run_next h
  show Wp.out _ = _
  clear h
  by_cases h1 : w ∈ signW
  · have hr' : decide ((1 : Int) < (room : Int)) = false := by rw [decide_eq_false_iff_not]; exact fun z => hs ⟨h1, by omega⟩
    clear hs
    walk_at "ev"
    rfl
  · clear hs
    walk_at "ev"
    rfl
theorem expr_num (h : Pt ws p (w :: r)) (hs : ¬ (w ∈ signW ∧ 1 < room)) (hv : w ∉ ns) (he : w ∉ ex) (hm : nb w = some m) : m_Cursor_expressionS (n + 1) (cu ws p) ns ex (room : Int) = .ok (.tup [.str "number", .int m], cu ws (p + 1)) := by
  have hn := run_next h
  have hk := run_number w
  show Wp.out _ = _
  clear h
  by_cases h1 : w ∈ signW
  · have hr' : decide ((1 : Int) < (room : Int)) = false := by rw [decide_eq_false_iff_not]; exact fun z => hs ⟨h1, by omega⟩
    clear hs
    walk_at "ev"
    rfl
  · clear hs
    walk_at "ev"
    rfl
theorem expr_bad (h : Pt ws p (w :: r)) (hs : ¬ (w ∈ signW ∧ 1 < room)) (hv : w ∉ ns) (he : w ∉ ex) (hm : nb w = none) : m_Cursor_expressionS (n + 1) (cu ws p) ns ex (room : Int) = .raise (Bad p) := by
  have hn := run_next h
  have hk := run_number w
  have e1 : (p : Int) + 1 - 1 = p := by omega
  show Wp.out _ = _
  clear h
  by_cases h1 : w ∈ signW
  · have hr' : decide ((1 : Int) < (room : Int)) = false := by rw [decide_eq_false_iff_not]; exact fun z => hs ⟨h1, by omega⟩
    clear hs
    walk_at "ev"
  · clear hs
    walk_at "ev"
end
theorem len3 {p : Nat} {w : Str} {A B : List Str} : p + (w :: (A ++ B)).length = p + 1 + A.length + B.length := by rw [List.length_cons, List.length_append]; omega
theorem run_expr {ws ns ex : List Str} : ∀ (n room p : Nat) (rest : List Str), Pt ws p rest → 1 ≤ room → room ≤ n →
    (∃ e W rest', rest = W ++ rest' ∧ m_Cursor_expressionS n (cu ws p) ns ex (room : Int) = .ok (e, cu ws (p + W.length)) ∧ ExW room e W ∧ ∀ K sc, go (.val (ns ++ ex) room :: K) sc rest p = go K sc rest' (p + W.length))
    ∨ (∃ k, m_Cursor_expressionS n (cu ws p) ns ex (room : Int) = .raise (Bad k) ∧ ∀ K sc, go (.val (ns ++ ex) room :: K) sc rest p = some k)
  | 0, _, _, _, _, h1, h2 => by omega
  | n + 1, room, p, [], h, h1, h2 => .inr ⟨p, expr_end h, fun K sc => go_nil rfl⟩
  | n + 1, room, p, w :: r, h, h1, h2 => by
    have hx := h.nx
    by_cases hs : w ∈ signW ∧ 1 < room
    · obtain ⟨hs, hr⟩ := hs
      have hst : ∀ K sc, nxI sc w (.val (ns ++ ex) room :: K) = some (.val (ns ++ ex) ((room - 1 : Nat) : Int) :: .val (ns ++ ex) ((room - 1 : Nat) : Int) :: K, sc) := fun K sc => by
        show (if w ∈ signW ∧ (1 : Int) < (room : Int) then _ else _) = _
        rw [if_pos ⟨hs, by omega⟩, show (room : Int) - 1 = ((room - 1 : Nat) : Int) by omega]
      rcases run_expr n (room - 1) (p + 1) r hx (by omega) (by omega) with ⟨e1, W1, r1, q1, q2, q3, q4⟩ | ⟨k, q2, q4⟩
      · have hx1 := (q1 ▸ hx).app
        rcases run_expr n (room - 1) (p + 1 + W1.length) r1 hx1 (by omega) (by omega) with ⟨e2, W2, r2, t1, t2, t3, t4⟩ | ⟨k, t2, t4⟩
        · refine .inl ⟨.tup [.str w, e1, e2], w :: (W1 ++ W2), r2, by rw [q1, t1, List.cons_append, List.append_assoc], ?_, ExW.node (by omega) q3 t3, fun K sc => ?_⟩
          · rw [len3]
            exact expr_node h hs hr q2 t2
          · rw [len3, go_step (hst K sc), q4, t4]
        · exact .inr ⟨k, expr_no2 h hs hr q2 t2, fun K sc => by rw [go_step (hst K sc), q4, t4]⟩
      · exact .inr ⟨k, expr_no1 h hs hr q2, fun K sc => by rw [go_step (hst K sc), q4]⟩
    · have hs' : ¬ (w ∈ signW ∧ (1 : Int) < (room : Int)) := fun z => hs ⟨z.1, by omega⟩
      have hok : (w ∈ ns ++ ex ∨ (nb w).isSome = true) → ∀ K sc, go (.val (ns ++ ex) room :: K) sc (w :: r) p = go K sc r (p + 1) := fun z K sc => by
        refine go_step ?_
        show (if w ∈ signW ∧ (1 : Int) < (room : Int) then _ else if w ∈ ns ++ ex ∨ (nb w).isSome = true then _ else _) = _
        rw [if_neg hs', if_pos z]
      by_cases hv : w ∈ ns
      · exact .inl ⟨_, [w], r, rfl, expr_var h hs hv, ExW.leaf2 h1, hok (.inl (List.mem_append_left _ hv))⟩
      · by_cases he : w ∈ ex
        · exact .inl ⟨_, [w], r, rfl, expr_ex h hs hv he, ExW.leaf1 h1, hok (.inl (List.mem_append_right _ he))⟩
        · cases hm : nb w with
          | some m => exact .inl ⟨_, [w], r, rfl, expr_num h hs hv he hm, ExW.num h1 hm, hok (.inr (by rw [hm]; rfl))⟩
          | none =>
            refine .inr ⟨p, expr_bad h hs hv he hm, fun K sc => go_bad ?_⟩
            show (if w ∈ signW ∧ (1 : Int) < (room : Int) then _ else if w ∈ ns ++ ex ∨ (nb w).isSome = true then _ else _) = _
            rw [if_neg hs', if_neg]
            rintro (z | z)
            · rcases List.mem_append.mp z with z | z
              · exact hv z
              · exact he z
            · rw [hm] at z; cases z
end Lw
set_option exponentiation.threshold 20000
local macro_rules | `(tactic| walk_at "wp") => `(tactic| try simp only [L2.My.Wp.ok_bind, L2.My.Wp.bind_ok, L2.My.Wp.bind_assoc, L2.My.Wp.req_bind, L2.My.Wp.bind_out, L2.My.Wp.ret_out, L2.My.Wp.raise_bind, L2.My.Wp.raise_out, L2.My.Wp.req_out, L2.My.Wp.bind_seq, L2.My.Wp.ok_seq, L2.My.Wp.ret_seq, L2.My.Wp.req_seq, L2.My.Wp.bind_up, L2.My.Wp.ret_up, L2.My.Wp.brk_up, L2.My.Wp.cnt_up, L2.My.Wp.req_up, L2.My.Wp.raise_up, L2.My.Wp.nox_ok, L2.My.Wp.nox_bind, L2.My.Wp.nox_req, L2.My.Wp.nox_get, L2.My.Wp.nox_nox, L2.My.Wp.ap, Lw.mkQ_self])
namespace Lw
open PySem PySem.Spec PyProof.Rows L2 L2.My
local macro_rules | `(tactic| walk_at "ev") => `(tactic| try simp only [L2.My.Wp.ok_bind, L2.My.Wp.bind_ok, L2.My.Wp.bind_assoc, L2.My.Wp.req_bind, L2.My.Wp.bind_out, L2.My.Wp.ret_out, L2.My.Wp.raise_bind, L2.My.Wp.raise_out, L2.My.Wp.req_out, L2.My.Wp.bind_seq, L2.My.Wp.ok_seq, L2.My.Wp.ret_seq, L2.My.Wp.req_seq, L2.My.Wp.bind_up, L2.My.Wp.ret_up, L2.My.Wp.brk_up, L2.My.Wp.cnt_up, L2.My.Wp.req_up, L2.My.Wp.raise_up, L2.My.Wp.ap, Lw.mkQ_self, Lw.getS, Lw.rdP_cursor, Lw.rdP_names, Lw.rdP_left, Lw.rdP_uses, Lw.rdP_extra, Option.isNone_none, Option.isNone_some, Option.isSome_none, Option.isSome_some, if_true, if_false, Bool.false_eq_true, Bool.not_true, Bool.not_false, decide_true, decide_false, Bool.false_xor, Bool.true_xor, Bool.xor_false, Bool.xor_true, Bool.and_true, Bool.true_and, Bool.and_false, Bool.false_and, Bool.or_true, Bool.true_or, Bool.or_false, Bool.false_or, List.head?_cons, List.head?_nil, not_true, not_false_eq_true, true_and, and_true, false_and, and_false, *])
abbrev rdq (q : Addr) (ws : List Str) (p : Nat) (sc : Sc) : S_Reader := (((((((), (q, cu ws p)), sc.names), sc.draws), sc.uses), sc.extra))
theorem ne_nil {α : Type} {xs : List α} (h : xs ≠ []) : xs.isEmpty = false := by cases xs with
  | nil => exact absurd rfl h
  | cons x t => rfl
theorem bf {a b : Bool} (h : ¬ (a = true ∧ b = true)) : (a && b) = false := by cases a <;> cases b <;> simp_all
theorem bf3 {a b c : Bool} (h : ¬ (a = true ∧ b = true ∧ c = true)) : (a && (b && c)) = false := by cases a <;> cases b <;> cases c <;> simp_all
theorem k_set_set : decide (some ("set" : Str) = some ("set" : Str)) = true := by decide +kernel
theorem k_draw_set : decide (some ("draw" : Str) = some ("set" : Str)) = false := by decide +kernel
theorem k_draw_draw : decide (some ("draw" : Str) = some ("draw" : Str)) = true := by decide +kernel
theorem k_use_set : decide (some ("use" : Str) = some ("set" : Str)) = false := by decide +kernel
theorem k_use_draw : decide (some ("use" : Str) = some ("draw" : Str)) = false := by decide +kernel
theorem k_use_use : decide (some ("use" : Str) = some ("use" : Str)) = true := by decide +kernel
theorem k_say_set : decide (some ("say" : Str) = some ("set" : Str)) = false := by decide +kernel
theorem k_say_draw : decide (some ("say" : Str) = some ("draw" : Str)) = false := by decide +kernel
theorem k_say_use : decide (some ("say" : Str) = some ("use" : Str)) = false := by decide +kernel
theorem k_say_say : decide (some ("say" : Str) = some ("say" : Str)) = true := by decide +kernel
theorem k_if_set : decide (some ("if" : Str) = some ("set" : Str)) = false := by decide +kernel
theorem k_if_draw : decide (some ("if" : Str) = some ("draw" : Str)) = false := by decide +kernel
theorem k_if_use : decide (some ("if" : Str) = some ("use" : Str)) = false := by decide +kernel
theorem k_if_say : decide (some ("if" : Str) = some ("say" : Str)) = false := by decide +kernel
theorem k_if_if : decide (some ("if" : Str) = some ("if" : Str)) = true := by decide +kernel
section
variable {cho : S_Reader → Int → Wp (Dt × S_Reader)} {q : Addr} {ws : List Str} {p p2 k : Nat} {sc : Sc} {room : Int} {v : Str} {r rest : List Str} {e : Dt} {m : Int}
theorem set_ok (h : Pt ws p ("set" :: v :: r)) (hN : sc.names ≠ []) (hv : m_Cursor_wordS (cu ws (p + 1)) sc.names = .ok (v, cu ws (p + 2))) (he : m_Cursor_expressionS 6 (cu ws (p + 2)) sc.names sc.extra 5 = .ok (e, cu ws p2)) : m_Reader_statement cho (rdq q ws p sc) room = .ok (some (.tup [.str "set", .str v, e]), rdq q ws p2 sc) := by
  have hn := run_next h
  have z0 := k_set_set
  unfold m_Reader_statement at *
  clear h
  have hN := ne_nil hN
  simp only [up1] at *
  walk_at "ev"
  try simp only [up1]
  walk_at "ev"
theorem set_no1 (h : Pt ws p ("set" :: r)) (hN : sc.names ≠ []) (hv : m_Cursor_wordS (cu ws (p + 1)) sc.names = .raise (Bad k)) : m_Reader_statement cho (rdq q ws p sc) room = .raise (Bad k) := by
  have hn := run_next h
  have z0 := k_set_set
  unfold m_Reader_statement at *
  clear h
  have hN := ne_nil hN
  simp only [up1] at *
  walk_at "ev"
  try simp only [up1]
  walk_at "ev"
theorem set_no2 (h : Pt ws p ("set" :: v :: r)) (hN : sc.names ≠ []) (hv : m_Cursor_wordS (cu ws (p + 1)) sc.names = .ok (v, cu ws (p + 2))) (he : m_Cursor_expressionS 6 (cu ws (p + 2)) sc.names sc.extra 5 = .raise (Bad k)) : m_Reader_statement cho (rdq q ws p sc) room = .raise (Bad k) := by
  have hn := run_next h
  have z0 := k_set_set
  unfold m_Reader_statement at *
  clear h
  have hN := ne_nil hN
  simp only [up1] at *
  walk_at "ev"
  try simp only [up1]
  walk_at "ev"
theorem draw_ok (h : Pt ws p ("draw" :: v :: r)) (hN : sc.names ≠ []) (hD : sc.draws ≠ 0) (hv : m_Cursor_wordS (cu ws (p + 1)) sc.names = .ok (v, cu ws (p + 2))) (he : m_Cursor_numberS (cu ws (p + 2)) 1 6 = .ok (m, cu ws (p + 3))) : m_Reader_statement cho (rdq q ws p sc) room = .ok (some (.tup [.str "draw", .str v, .int m]), rdq q ws (p + 3) ⟨sc.names, sc.extra, sc.draws - 1, sc.uses⟩) := by
  have hn := run_next h
  have z0 := k_draw_set
  have z1 := k_draw_draw
  unfold m_Reader_statement at *
  clear h
  have hN := ne_nil hN
  have hD := decide_eq_true hD
  simp only [up1] at *
  walk_at "ev"
  try simp only [up1]
  walk_at "ev"
theorem draw_no1 (h : Pt ws p ("draw" :: r)) (hN : sc.names ≠ []) (hD : sc.draws ≠ 0) (hv : m_Cursor_wordS (cu ws (p + 1)) sc.names = .raise (Bad k)) : m_Reader_statement cho (rdq q ws p sc) room = .raise (Bad k) := by
  have hn := run_next h
  have z0 := k_draw_set
  have z1 := k_draw_draw
  unfold m_Reader_statement at *
  clear h
  have hN := ne_nil hN
  have hD := decide_eq_true hD
  simp only [up1] at *
  walk_at "ev"
  try simp only [up1]
  walk_at "ev"
theorem draw_no2 (h : Pt ws p ("draw" :: v :: r)) (hN : sc.names ≠ []) (hD : sc.draws ≠ 0) (hv : m_Cursor_wordS (cu ws (p + 1)) sc.names = .ok (v, cu ws (p + 2))) (he : m_Cursor_numberS (cu ws (p + 2)) 1 6 = .raise (Bad k)) : m_Reader_statement cho (rdq q ws p sc) room = .raise (Bad k) := by
  have hn := run_next h
  have z0 := k_draw_set
  have z1 := k_draw_draw
  unfold m_Reader_statement at *
  clear h
  have hN := ne_nil hN
  have hD := decide_eq_true hD
  simp only [up1] at *
  walk_at "ev"
  try simp only [up1]
  walk_at "ev"
theorem use_ok (h : Pt ws p ("use" :: v :: r)) (hN : sc.names ≠ []) (hD : sc.uses ≠ 0) (hv : m_Cursor_wordS (cu ws (p + 1)) sc.names = .ok (v, cu ws (p + 2))) (he : m_Cursor_expressionS 6 (cu ws (p + 2)) sc.names sc.extra 5 = .ok (e, cu ws p2)) : m_Reader_statement cho (rdq q ws p sc) room = .ok (some (.tup [.str "use", .str v, e]), rdq q ws p2 ⟨sc.names, sc.extra, sc.draws, sc.uses - 1⟩) := by
  have hn := run_next h
  have z0 := k_use_set
  have z1 := k_use_draw
  have z2 := k_use_use
  unfold m_Reader_statement at *
  clear h
  have hN := ne_nil hN
  have hD := decide_eq_true hD
  simp only [up1] at *
  walk_at "ev"
  try simp only [up1]
  walk_at "ev"
theorem use_no1 (h : Pt ws p ("use" :: r)) (hN : sc.names ≠ []) (hD : sc.uses ≠ 0) (hv : m_Cursor_wordS (cu ws (p + 1)) sc.names = .raise (Bad k)) : m_Reader_statement cho (rdq q ws p sc) room = .raise (Bad k) := by
  have hn := run_next h
  have z0 := k_use_set
  have z1 := k_use_draw
  have z2 := k_use_use
  unfold m_Reader_statement at *
  clear h
  have hN := ne_nil hN
  have hD := decide_eq_true hD
  simp only [up1] at *
  walk_at "ev"
  try simp only [up1]
  walk_at "ev"
theorem use_no2 (h : Pt ws p ("use" :: v :: r)) (hN : sc.names ≠ []) (hD : sc.uses ≠ 0) (hv : m_Cursor_wordS (cu ws (p + 1)) sc.names = .ok (v, cu ws (p + 2))) (he : m_Cursor_expressionS 6 (cu ws (p + 2)) sc.names sc.extra 5 = .raise (Bad k)) : m_Reader_statement cho (rdq q ws p sc) room = .raise (Bad k) := by
  have hn := run_next h
  have z0 := k_use_set
  have z1 := k_use_draw
  have z2 := k_use_use
  unfold m_Reader_statement at *
  clear h
  have hN := ne_nil hN
  have hD := decide_eq_true hD
  simp only [up1] at *
  walk_at "ev"
  try simp only [up1]
  walk_at "ev"
theorem say_ok (h : Pt ws p ("say" :: r)) (hN : sc.extra ≠ []) (he : m_Cursor_expressionS 6 (cu ws (p + 1)) sc.names sc.extra 5 = .ok (e, cu ws p2)) : m_Reader_statement cho (rdq q ws p sc) room = .ok (some (.tup [.str "say", e]), rdq q ws p2 sc) := by
  have hn := run_next h
  have z0 := k_say_set
  have z1 := k_say_draw
  have z2 := k_say_use
  have z3 := k_say_say
  unfold m_Reader_statement at *
  clear h
  have hN := ne_nil hN
  simp only [up1] at *
  walk_at "ev"
  try simp only [up1]
  walk_at "ev"
theorem say_no (h : Pt ws p ("say" :: r)) (hN : sc.extra ≠ []) (he : m_Cursor_expressionS 6 (cu ws (p + 1)) sc.names sc.extra 5 = .raise (Bad k)) : m_Reader_statement cho (rdq q ws p sc) room = .raise (Bad k) := by
  have hn := run_next h
  have z0 := k_say_set
  have z1 := k_say_draw
  have z2 := k_say_use
  have z3 := k_say_say
  unfold m_Reader_statement at *
  clear h
  have hN := ne_nil hN
  simp only [up1] at *
  walk_at "ev"
  try simp only [up1]
  walk_at "ev"
theorem if_ok {sc2 : Sc} (h : Pt ws p ("if" :: r)) (hN : room ≠ 0) (he : cho (rdq q ws p sc) room = .ok (e, rdq q ws p2 sc2)) : m_Reader_statement cho (rdq q ws p sc) room = .ok (some e, rdq q ws p2 sc2) := by
  have hn := run_next h
  have z0 := k_if_set
  have z1 := k_if_draw
  have z2 := k_if_use
  have z3 := k_if_say
  have z4 := k_if_if
  unfold m_Reader_statement at *
  clear h
  have hN := decide_eq_true hN
  simp only [up1] at *
  walk_at "ev"
  try simp only [up1]
  walk_at "ev"
theorem if_no (h : Pt ws p ("if" :: r)) (hN : room ≠ 0) (he : cho (rdq q ws p sc) room = .raise (Bad k)) : m_Reader_statement cho (rdq q ws p sc) room = .raise (Bad k) := by
  have hn := run_next h
  have z0 := k_if_set
  have z1 := k_if_draw
  have z2 := k_if_use
  have z3 := k_if_say
  have z4 := k_if_if
  unfold m_Reader_statement at *
  clear h
  have hN := decide_eq_true hN
  simp only [up1] at *
  walk_at "ev"
  try simp only [up1]
  walk_at "ev"
theorem stm_no (h : Pt ws p rest) (hN : ∀ w r, rest = w :: r → stmN room sc w = none) : m_Reader_statement cho (rdq q ws p sc) room = .ok (none, rdq q ws p sc) := by
  have hn := run_next h
  have key : ¬ (rest.head? = some ("set" : Str) ∧ sc.names ≠ []) ∧ ¬ (rest.head? = some ("draw" : Str) ∧ sc.names ≠ [] ∧ sc.draws ≠ 0) ∧ ¬ (rest.head? = some ("use" : Str) ∧ sc.names ≠ [] ∧ sc.uses ≠ 0) ∧ ¬ (rest.head? = some ("say" : Str) ∧ sc.extra ≠ []) ∧ ¬ (rest.head? = some ("if" : Str) ∧ room ≠ 0) := by
    cases rest with
    | nil => exact ⟨fun z => (by cases z.1), fun z => (by cases z.1), fun z => (by cases z.1), fun z => (by cases z.1), fun z => (by cases z.1)⟩
    | cons w r =>
      have hN := hN w r rfl
      have si : ∀ {a b : Str}, (a :: r).head? = some b → a = b := fun z => by injection z
      unfold stmN at hN
      by_cases c1 : w = ("set" : Str) ∧ sc.names ≠ []
      · rw [if_pos c1] at hN; cases hN
      rw [if_neg c1] at hN
      by_cases c2 : w = ("draw" : Str) ∧ sc.names ≠ [] ∧ sc.draws ≠ 0
      · rw [if_pos c2] at hN; cases hN
      rw [if_neg c2] at hN
      by_cases c3 : w = ("use" : Str) ∧ sc.names ≠ [] ∧ sc.uses ≠ 0
      · rw [if_pos c3] at hN; cases hN
      rw [if_neg c3] at hN
      by_cases c4 : w = ("say" : Str) ∧ sc.extra ≠ []
      · rw [if_pos c4] at hN; cases hN
      rw [if_neg c4] at hN
      by_cases c5 : w = ("if" : Str) ∧ room ≠ 0
      · rw [if_pos c5] at hN; cases hN
      exact ⟨fun z => c1 ⟨si z.1, z.2⟩, fun z => c2 ⟨si z.1, z.2⟩, fun z => c3 ⟨si z.1, z.2⟩, fun z => c4 ⟨si z.1, z.2⟩, fun z => c5 ⟨si z.1, z.2⟩⟩
  obtain ⟨k1, k2, k3, k4, k5⟩ := key
  have en : ∀ {α : Type} {xs : List α}, (!xs.isEmpty) = true → xs ≠ [] := fun z e => by rw [e] at z; cases z
  have a1 : (decide (rest.head? = some ("set" : Str)) && !sc.names.isEmpty) = false := bf fun z => k1 ⟨of_decide_eq_true z.1, en z.2⟩
  have a2 : (decide (rest.head? = some ("draw" : Str)) && (!sc.names.isEmpty && decide (sc.draws ≠ 0))) = false := bf3 fun z => k2 ⟨of_decide_eq_true z.1, en z.2.1, of_decide_eq_true z.2.2⟩
  have a3 : (decide (rest.head? = some ("use" : Str)) && (!sc.names.isEmpty && decide (sc.uses ≠ 0))) = false := bf3 fun z => k3 ⟨of_decide_eq_true z.1, en z.2.1, of_decide_eq_true z.2.2⟩
  have a4 : (decide (rest.head? = some ("say" : Str)) && !sc.extra.isEmpty) = false := bf fun z => k4 ⟨of_decide_eq_true z.1, en z.2⟩
  have a5 : (decide (rest.head? = some ("if" : Str)) && decide (room ≠ 0)) = false := bf fun z => k5 ⟨of_decide_eq_true z.1, of_decide_eq_true z.2⟩
  unfold m_Reader_statement at *
  clear h hN k1 k2 k3 k4 k5
  walk_at "ev"
end
end Lw
set_option exponentiation.threshold 20000
local macro_rules | `(tactic| walk_at "wp") => `(tactic| try simp only [L2.My.Wp.ok_bind, L2.My.Wp.bind_ok, L2.My.Wp.bind_assoc, L2.My.Wp.req_bind, L2.My.Wp.bind_out, L2.My.Wp.ret_out, L2.My.Wp.raise_bind, L2.My.Wp.raise_out, L2.My.Wp.req_out, L2.My.Wp.bind_seq, L2.My.Wp.ok_seq, L2.My.Wp.ret_seq, L2.My.Wp.req_seq, L2.My.Wp.bind_up, L2.My.Wp.ret_up, L2.My.Wp.brk_up, L2.My.Wp.cnt_up, L2.My.Wp.req_up, L2.My.Wp.raise_up, L2.My.Wp.nox_ok, L2.My.Wp.nox_bind, L2.My.Wp.nox_req, L2.My.Wp.nox_get, L2.My.Wp.nox_nox, L2.My.Wp.ap, Lw.mkQ_self])
namespace Lw
open PySem PySem.Spec PyProof.Rows L2 L2.My
local macro_rules | `(tactic| walk_at "ev") => `(tactic| try simp only [L2.My.Wp.ok_bind, L2.My.Wp.bind_ok, L2.My.Wp.bind_assoc, L2.My.Wp.req_bind, L2.My.Wp.bind_out, L2.My.Wp.ret_out, L2.My.Wp.raise_bind, L2.My.Wp.raise_out, L2.My.Wp.req_out, L2.My.Wp.bind_seq, L2.My.Wp.ok_seq, L2.My.Wp.ret_seq, L2.My.Wp.req_seq, L2.My.Wp.bind_up, L2.My.Wp.ret_up, L2.My.Wp.brk_up, L2.My.Wp.cnt_up, L2.My.Wp.req_up, L2.My.Wp.raise_up, L2.My.Wp.ap, Lw.mkQ_self, Lw.getS, Lw.rdP_cursor, Lw.rdP_names, Lw.rdP_left, Lw.rdP_uses, Lw.rdP_extra, Option.isNone_none, Option.isNone_some, Option.isSome_none, Option.isSome_some, if_true, if_false, Bool.false_eq_true, Bool.not_true, Bool.not_false, decide_true, decide_false, Bool.false_xor, Bool.true_xor, Bool.xor_false, Bool.xor_true, Bool.and_true, Bool.true_and, Bool.and_false, Bool.false_and, Bool.or_true, Bool.true_or, Bool.or_false, Bool.false_or, List.head?_cons, List.head?_nil, not_true, not_false_eq_true, true_and, and_true, false_and, and_false, *])
def bwB (bwd : List Dt → Wp (List Str)) (x3 : Dt) (z2 : List Str) : Wp (Fl (List Str) (List Str) (List Str)) :=
 Wp.seq ((((((Wp.get (dtT x3))).bind fun x4 => ((Wp.ok (0 : Int))).bind fun x5 => (Wp.get (atI x4 x5))).bind fun y6 => Wp.get (dtS y6)).bind fun x7 => ((Wp.ok ("if" : Str))).bind fun x8 => Wp.ok (decide (x7 = x8))).bind fun x86 => if x86 = true then ((((Wp.ok ("if" : Str))).bind fun x25 => ((((((Wp.get (dtT x3))).bind fun x20 => ((Wp.ok (1 : Int))).bind fun x21 => (Wp.get (atI x20 x21))).bind fun x22 => (Wp.ok ()).bind fun x23 => Wp.ok (x22, x23)).bind fun x24 => m_expression_words 6 x24.1).bind fun x18 => (((((((Wp.get (dtT x3))).bind fun x12 => ((Wp.ok (2 : Int))).bind fun x13 => (Wp.get (atI x12 x13))).bind fun y14 => Wp.get (dtT y14)).bind fun x15 => (Wp.ok ()).bind fun x16 => Wp.ok (x15, x16)).bind fun x17 => bwd x17.1).bind fun x10 => (Wp.ok []).bind fun x11 => Wp.ok (x10 ++ x11)).bind fun x19 => Wp.ok (x18 ++ x19)).bind fun x26 => Wp.ok (x25 :: x26)).bind fun x27 => Wp.req ((x27).length ≤ 16777215) (Wp.ok x27)).bind fun x28 => Wp.req ((z2).length + (x28).length ≤ 16777215) (
 Wp.seq ((((((Wp.get (dtT x3))).bind fun x29 => ((Wp.ok (3 : Int))).bind fun x30 => (Wp.get (atI x29 x30))).bind fun y31 => Wp.get (dtT y31)).bind fun x32 => Wp.ok (!(x32).isEmpty)).bind fun x46 => if x46 = true then ((((Wp.ok ("else" : Str))).bind fun x42 => (((((((Wp.get (dtT x3))).bind fun x36 => ((Wp.ok (3 : Int))).bind fun x37 => (Wp.get (atI x36 x37))).bind fun y38 => Wp.get (dtT y38)).bind fun x39 => (Wp.ok ()).bind fun x40 => Wp.ok (x39, x40)).bind fun x41 => bwd x41.1).bind fun x34 => (Wp.ok []).bind fun x35 => Wp.ok (x34 ++ x35)).bind fun x43 => Wp.ok (x42 :: x43)).bind fun x44 => Wp.req ((x44).length ≤ 16777215) (Wp.ok x44)).bind fun x45 => Wp.req ((z2 ++ x28).length + (x45).length ≤ 16777215) (
 Wp.ok (.nx (z2 ++ x28 ++ x45))) else
 Wp.ok (.nx (z2 ++ x28))) fun z33 : (List Str) =>
 ((Wp.ok ("end" : Str))).bind fun x47 => Wp.req ((z33).length < 16777215) (
 Wp.ok (.nx (z33 ++ [x47])))) else
 Wp.seq ((((((Wp.get (dtT x3))).bind fun x48 => ((Wp.ok (0 : Int))).bind fun x49 => (Wp.get (atI x48 x49))).bind fun y50 => Wp.get (dtS y50)).bind fun x51 => ((Wp.ok ("draw" : Str))).bind fun x52 => Wp.ok (decide (x51 = x52))).bind fun x85 => if x85 = true then ((((Wp.ok ("draw" : Str))).bind fun x66 => (((((Wp.get (dtT x3))).bind fun x54 => ((Wp.ok (1 : Int))).bind fun x55 => (Wp.get (atI x54 x55))).bind fun y56 => Wp.get (dtS y56)).bind fun x64 => ((((((Wp.get (dtT x3))).bind fun x57 => ((Wp.ok (2 : Int))).bind fun x58 => (Wp.get (atI x57 x58))).bind fun x59 => (Wp.ok ()).bind fun x60 => Wp.ok (x59, x60)).bind fun x61 => (strD x61.1)).bind fun x62 => (Wp.ok ()).bind fun x63 => Wp.ok (x62, x63)).bind fun x65 => Wp.ok (x64, x65)).bind fun x67 => Wp.ok (x66, x67)).bind fun x68 => Wp.ok [x68.1, x68.2.1, x68.2.2.1]).bind fun x69 => Wp.req ((z2).length + (x69).length ≤ 16777215) (
 Wp.ok (.nx (z2 ++ x69))) else
 ((((((Wp.get (dtT x3))).bind fun x79 => ((Wp.ok none)).bind fun x80 => ((Wp.ok (some (-(1 : Int))))).bind fun x81 => Wp.ok (cutL x79 x80 x81)).bind fun y82 => Wp.get (allS y82)).bind fun x77 => ((((((Wp.get (dtT x3))).bind fun x72 => ((Wp.ok (-(1 : Int)))).bind fun x73 => (Wp.get (atI x72 x73))).bind fun x74 => (Wp.ok ()).bind fun x75 => Wp.ok (x74, x75)).bind fun x76 => m_expression_words 6 x76.1).bind fun x70 => (Wp.ok []).bind fun x71 => Wp.ok (x70 ++ x71)).bind fun x78 => Wp.ok (x77 ++ x78)).bind fun x83 => Wp.req ((x83).length ≤ 16777215) (Wp.ok x83)).bind fun x84 => Wp.req ((z2).length + (x84).length ≤ 16777215) (
 Wp.ok (.nx (z2 ++ x84)))) fun z53 : (List Str) =>
 Wp.ok (.nx (z53))) fun z9 : (List Str) =>
 Wp.ok (.nx (z9))
theorem bw_eq (n : Nat) (b : List Dt) : m_block_words (n + 1) b = Wp.out (Wp.seq (Wp.for_ b [] (bwB (m_block_words n))) fun z87 : (List Str) => Wp.ok (.ret z87)) := by
  show Wp.out _ = _
  walk_at "wp"
  rfl
def RowW (room : Nat) (d : Dt) (W : List Str) : Prop := ∀ f, room ≤ f → ∀ z : List Str, z.length + W.length ≤ 16777215 → bwB (m_block_words f) d z = .ok (.nx (z ++ W))
def BlW (room : Nat) (b : List Dt) (W : List Str) : Prop := ∃ l : List (Dt × List Str), b = l.map (fun x => x.1) ∧ W = l.flatMap (fun x => x.2) ∧ ∀ x ∈ l, RowW room x.1 x.2
theorem BlW.nil (room : Nat) : BlW room [] [] := ⟨[], rfl, rfl, fun _ h => by cases h⟩
theorem BlW.snoc {room : Nat} {b : List Dt} {W V : List Str} {d : Dt} (h : BlW room b W) (hd : RowW room d V) : BlW room (b ++ [d]) (W ++ V) := by
  obtain ⟨l, rfl, rfl, hl⟩ := h
  refine ⟨l ++ [(d, V)], by simp, by simp, fun x hx => ?_⟩
  rcases List.mem_append.mp hx with hx | hx
  · exact hl x hx
  · rw [List.mem_singleton.mp hx]; exact hd
theorem BlW.words {room f : Nat} {b : List Dt} {W : List Str} (h : BlW room b W) (hf : room + 1 ≤ f) (hw : W.length ≤ 16777215) : m_block_words f b = .ok W := by
  obtain ⟨l, rfl, rfl, hl⟩ := h
  obtain ⟨n, rfl⟩ : ∃ n, f = n + 1 := ⟨f - 1, by omega⟩
  rw [bw_eq]
  have key : ∀ (l : List (Dt × List Str)) (z : List Str), (∀ x ∈ l, RowW room x.1 x.2) → z.length + (l.flatMap (fun x => x.2)).length ≤ 16777215 → (Wp.for_ (l.map (fun x => x.1)) z (bwB (m_block_words n)) : Wp (Fl (List Str) Empty (List Str))) = .ok (.nx (z ++ l.flatMap (fun x => x.2))) := by
    intro l
    induction l with
    | nil => intro z _ _; show Wp.ok (Fl.nx z) = _; rw [List.flatMap_nil, List.append_nil]
    | cons x t ih =>
      intro z hx hz
      rw [List.flatMap_cons, List.length_append] at hz
      show (bwB (m_block_words n) x.1 z).bind _ = _
      rw [hx x List.mem_cons_self n (by omega) z (by omega)]
      show Wp.for_ (t.map (fun x => x.1)) (z ++ x.2) (bwB (m_block_words n)) = _
      rw [ih (z ++ x.2) (fun y hy => hx y (List.mem_cons_of_mem _ hy)) (by rw [List.length_append]; omega), List.flatMap_cons, List.append_assoc]
  rw [key l [] hl (by rw [List.length_nil]; omega)]
  walk_at "wp"
  rfl
theorem kd_0 {xs : List Dt} : Wp.get (dtT (.tup xs)) = .ok xs := rfl
theorem kd_1 {s : Str} : Wp.get (dtS (.str s)) = .ok s := rfl
section
variable {a b c d : Dt} {t : List Dt}
theorem kd_a0 : Wp.get (atI (a :: t) 0) = .ok a := by rw [atK0]; rfl
theorem kd_a1 : Wp.get (atI (a :: b :: t) 1) = .ok b := by rw [atK1]; rfl
theorem kd_a2 : Wp.get (atI (a :: b :: c :: t) 2) = .ok c := by rw [atK2]; rfl
theorem kd_a3 : Wp.get (atI (a :: b :: c :: d :: t) 3) = .ok d := by rw [atK3]; rfl
theorem kd_m2 : Wp.get (atI [a, b] (-1)) = .ok b := by rw [atM2]; rfl
theorem kd_m3 : Wp.get (atI [a, b, c] (-1)) = .ok c := by rw [atM3]; rfl
end
theorem kd_c3 {a b : Str} {e : Dt} : Wp.get (allS (cutL [.str a, .str b, e] none (some (-1)))) = .ok [a, b] := rfl
theorem kd_c2 {a : Str} {e : Dt} : Wp.get (allS (cutL [.str a, e] none (some (-1)))) = .ok [a] := rfl
local macro_rules | `(tactic| walk_at "kd") => `(tactic| try simp only [L2.My.Wp.ok_bind, L2.My.Wp.bind_ok, L2.My.Wp.bind_assoc, L2.My.Wp.req_bind, L2.My.Wp.bind_out, L2.My.Wp.ret_out, L2.My.Wp.raise_bind, L2.My.Wp.raise_out, L2.My.Wp.req_out, L2.My.Wp.bind_seq, L2.My.Wp.ok_seq, L2.My.Wp.ret_seq, L2.My.Wp.req_seq, L2.My.Wp.bind_up, L2.My.Wp.ret_up, L2.My.Wp.brk_up, L2.My.Wp.cnt_up, L2.My.Wp.req_up, L2.My.Wp.raise_up, L2.My.Wp.ap, Lw.mkQ_self, Lw.getS, Lw.kd_0, Lw.kd_1, Lw.kd_a0, Lw.kd_a1, Lw.kd_a2, Lw.kd_a3, Lw.kd_m2, Lw.kd_m3, Lw.kd_c2, Lw.kd_c3, List.isEmpty_nil, List.isEmpty_cons, Lw.rdP_cursor, Lw.rdP_names, Lw.rdP_left, Lw.rdP_uses, Lw.rdP_extra, Option.isNone_none, Option.isNone_some, Option.isSome_none, Option.isSome_some, if_true, if_false, Bool.false_eq_true, Bool.not_true, Bool.not_false, decide_true, decide_false, Bool.false_xor, Bool.true_xor, Bool.xor_false, Bool.xor_true, Bool.and_true, Bool.true_and, Bool.and_false, Bool.false_and, Bool.or_true, Bool.true_or, Bool.or_false, Bool.false_or, List.head?_cons, List.head?_nil, not_true, not_false_eq_true, true_and, and_true, false_and, and_false, *])

theorem j_set_if : decide (("set" : Str) = ("if" : Str)) = false := by decide +kernel
theorem j_set_draw : decide (("set" : Str) = ("draw" : Str)) = false := by decide +kernel
theorem j_use_if : decide (("use" : Str) = ("if" : Str)) = false := by decide +kernel
theorem j_use_draw : decide (("use" : Str) = ("draw" : Str)) = false := by decide +kernel
theorem j_say_if : decide (("say" : Str) = ("if" : Str)) = false := by decide +kernel
theorem j_say_draw : decide (("say" : Str) = ("draw" : Str)) = false := by decide +kernel
theorem j_draw_if : decide (("draw" : Str) = ("if" : Str)) = false := by decide +kernel
theorem j_draw_draw : decide (("draw" : Str) = ("draw" : Str)) = true := by decide +kernel
theorem j_if_if : decide (("if" : Str) = ("if" : Str)) = true := by decide +kernel
theorem RowW.set {v : Str} {e : Dt} {W : List Str} {room : Nat} (h : ExW 5 e W) : RowW room (.tup [.str "set", .str v, e]) ("set" :: v :: W) := by
  intro f hf z hz
  rw [List.length_cons, List.length_cons] at hz
  have he := h 6 (by decide) (by omega)
  have z0 := j_set_if
  have z1 := j_set_draw
  unfold bwB
  clear h hf
  walk_at "kd"
  rw [List.append_nil, Wp.req_true (show ([("set" : Str), v] ++ W).length ≤ 16777215 by simp; omega)]
  walk_at "ev"
  rw [Wp.req_true (show z.length + ([("set" : Str), v] ++ W).length ≤ 16777215 by simp; omega)]
  rfl
theorem RowW.use {v : Str} {e : Dt} {W : List Str} {room : Nat} (h : ExW 5 e W) : RowW room (.tup [.str "use", .str v, e]) ("use" :: v :: W) := by
  intro f hf z hz
  rw [List.length_cons, List.length_cons] at hz
  have he := h 6 (by decide) (by omega)
  have z0 := j_use_if
  have z1 := j_use_draw
  unfold bwB
  clear h hf
  walk_at "kd"
  rw [List.append_nil, Wp.req_true (show ([("use" : Str), v] ++ W).length ≤ 16777215 by simp; omega)]
  walk_at "ev"
  rw [Wp.req_true (show z.length + ([("use" : Str), v] ++ W).length ≤ 16777215 by simp; omega)]
  rfl
theorem RowW.say {e : Dt} {W : List Str} {room : Nat} (h : ExW 5 e W) : RowW room (.tup [.str "say", e]) ("say" :: W) := by
  intro f hf z hz
  rw [List.length_cons] at hz
  have he := h 6 (by decide) (by omega)
  have z0 := j_say_if
  have z1 := j_say_draw
  unfold bwB
  clear h hf
  walk_at "kd"
  rw [List.append_nil, Wp.req_true (show ([("say" : Str)] ++ W).length ≤ 16777215 by simp; omega)]
  walk_at "ev"
  rw [Wp.req_true (show z.length + ([("say" : Str)] ++ W).length ≤ 16777215 by simp; omega)]
  rfl
theorem RowW.draw {v w : Str} {n : Int} {room : Nat} (hw : nb w = some n) : RowW room (.tup [.str "draw", .str v, .int n]) ["draw", v, w] := by
  intro f hf z hz
  rw [show (["draw", v, w] : List Str).length = 3 from rfl] at hz
  obtain ⟨h0, h1, h2⟩ := nb_canon hw
  have h3 := small_log h0 h1
  have k4 : strD (.int n) = .ok w := by
    show Wp.req (n.natAbs.log2 < 1920) (Wp.ok (Str.ofString (toString n))) = _
    rw [Wp.req_true h3, h2]
  have z0 := j_draw_if
  have z1 := j_draw_draw
  unfold bwB
  clear hf hw h2 h3
  walk_at "kd"
  rw [Wp.req_true (show z.length + ([("draw" : Str), v, w]).length ≤ 16777215 from hz)]
theorem RowW.if1 {e : Dt} {W A : List Str} {b : List Dt} {room : Nat} (hr : 1 ≤ room) (h : ExW 5 e W) (hA : BlW (room - 1) b A) : RowW room (.tup [.str "if", e, .tup b, .tup []]) ((("if" : Str) :: (W ++ A)) ++ [("end" : Str)]) := by
  intro f hf z hz
  simp only [List.length_append, List.length_cons, List.length_nil] at hz
  have he := h 6 (by decide) (by omega)
  have hb := hA.words (f := f) (by omega) (by omega)
  have z0 := j_if_if
  unfold bwB
  clear h hf hA hr
  walk_at "kd"
  rw [List.append_nil, Wp.req_true (show (("if" : Str) :: (W ++ A)).length ≤ 16777215 by simp; omega)]
  walk_at "ev"
  rw [Wp.req_true (show z.length + (("if" : Str) :: (W ++ A)).length ≤ 16777215 by simp; omega)]
  walk_at "kd"
  rw [Wp.req_true (show (z ++ ("if" : Str) :: (W ++ A)).length < 16777215 by simp; omega), List.append_assoc]
theorem RowW.if2 {e d2 : Dt} {W A B : List Str} {b t : List Dt} {room : Nat} (hr : 1 ≤ room) (h : ExW 5 e W) (hA : BlW (room - 1) b A) (hB : BlW (room - 1) (d2 :: t) B) : RowW room (.tup [.str "if", e, .tup b, .tup (d2 :: t)]) ((("if" : Str) :: (W ++ A)) ++ ("else" : Str) :: B ++ [("end" : Str)]) := by
  intro f hf z hz
  simp only [List.length_append, List.length_cons, List.length_nil] at hz
  have he := h 6 (by decide) (by omega)
  have hb := hA.words (f := f) (by omega) (by omega)
  have hb2 := hB.words (f := f) (by omega) (by omega)
  have z0 := j_if_if
  unfold bwB
  clear h hf hA hr hB
  walk_at "kd"
  rw [List.append_nil, Wp.req_true (show (("if" : Str) :: (W ++ A)).length ≤ 16777215 by simp; omega)]
  walk_at "ev"
  rw [Wp.req_true (show z.length + (("if" : Str) :: (W ++ A)).length ≤ 16777215 by simp; omega)]
  walk_at "kd"
  rw [List.append_nil, Wp.req_true (show (("else" : Str) :: B).length ≤ 16777215 by simp; omega)]
  walk_at "ev"
  rw [Wp.req_true (show (z ++ ("if" : Str) :: (W ++ A)).length + (("else" : Str) :: B).length ≤ 16777215 by simp; omega)]
  walk_at "ev"
  rw [Wp.req_true (show (z ++ ("if" : Str) :: (W ++ A) ++ ("else" : Str) :: B).length < 16777215 by simp; omega)]
  simp only [List.append_assoc]
end Lw
set_option exponentiation.threshold 20000
local macro_rules | `(tactic| walk_at "wp") => `(tactic| try simp only [L2.My.Wp.ok_bind, L2.My.Wp.bind_ok, L2.My.Wp.bind_assoc, L2.My.Wp.req_bind, L2.My.Wp.bind_out, L2.My.Wp.ret_out, L2.My.Wp.raise_bind, L2.My.Wp.raise_out, L2.My.Wp.req_out, L2.My.Wp.bind_seq, L2.My.Wp.ok_seq, L2.My.Wp.ret_seq, L2.My.Wp.req_seq, L2.My.Wp.bind_up, L2.My.Wp.ret_up, L2.My.Wp.brk_up, L2.My.Wp.cnt_up, L2.My.Wp.req_up, L2.My.Wp.raise_up, L2.My.Wp.nox_ok, L2.My.Wp.nox_bind, L2.My.Wp.nox_req, L2.My.Wp.nox_get, L2.My.Wp.nox_nox, L2.My.Wp.ap, Lw.mkQ_self])
namespace Lw
open PySem PySem.Spec PyProof.Rows L2 L2.My
theorem Wp_raise_seq {S L R T : Type} (e : Err) (k : S → Wp (Fl T L R)) : Wp.seq (Wp.raise e) k = Wp.raise e := Wp.raise_bind _ _
theorem Wp_req_t {α : Type} (m : Wp α) : Wp.req True m = m := Wp.req_true trivial m
local macro_rules | `(tactic| walk_at "ev") => `(tactic| try simp only [L2.My.Wp.ok_bind, L2.My.Wp.bind_ok, L2.My.Wp.bind_assoc, L2.My.Wp.req_bind, L2.My.Wp.bind_out, L2.My.Wp.ret_out, L2.My.Wp.raise_bind, L2.My.Wp.raise_out, L2.My.Wp.req_out, L2.My.Wp.bind_seq, L2.My.Wp.ok_seq, L2.My.Wp.ret_seq, L2.My.Wp.req_seq, L2.My.Wp.bind_up, L2.My.Wp.ret_up, L2.My.Wp.brk_up, L2.My.Wp.cnt_up, L2.My.Wp.req_up, L2.My.Wp.raise_up, L2.My.Wp.ap, Lw.mkQ_self, Lw.getS, Lw.Wp_raise_seq, Lw.Wp_req_t, List.isEmpty_nil, List.isEmpty_cons, Lw.rdP_cursor, Lw.rdP_names, Lw.rdP_left, Lw.rdP_uses, Lw.rdP_extra, Option.isNone_none, Option.isNone_some, Option.isSome_none, Option.isSome_some, if_true, if_false, Bool.false_eq_true, Bool.not_true, Bool.not_false, decide_true, decide_false, Bool.false_xor, Bool.true_xor, Bool.xor_false, Bool.xor_true, Bool.and_true, Bool.true_and, Bool.and_false, Bool.false_and, Bool.or_true, Bool.true_or, Bool.or_false, Bool.false_or, List.head?_cons, List.head?_nil, not_true, not_false_eq_true, true_and, and_true, false_and, and_false, *])
theorem while_go {S L R : Type} {s s' : S} {t : S → Wp Bool} {f : S → Wp (Fl S S R)} (ht : t s = .ok true) (hf : f s = .ok (.nx s')) : (Wp.while_ s t f : Wp (Fl S L R)) = Wp.while_ s' t f := by
  refine Wp.ext fun A B => ⟨?_, ?_⟩
  · rintro ⟨I, ⟨n, h0⟩, h⟩
    have h1 := h n s h0
    rw [ht] at h1
    change (if true = true then (f s).run _ B else A (.nx s)) at h1
    rw [if_pos rfl, hf] at h1
    obtain ⟨n', _, h2⟩ := h1
    exact ⟨I, ⟨n', h2⟩, h⟩
  · rintro ⟨I, ⟨n, h0⟩, h⟩
    refine ⟨fun k x => I k x ∨ (k = n + 1 ∧ x = s), ⟨n + 1, .inr ⟨rfl, rfl⟩⟩, ?_⟩
    rintro k x (hk | ⟨rfl, rfl⟩)
    · refine (t x).mono (fun b hb => ?_) (fun _ z => z) (h k x hk)
      by_cases c : b = true
      · rw [if_pos c] at hb ⊢
        refine (f x).mono (fun z hz => ?_) (fun _ z => z) hb
        cases z with
        | nx y => obtain ⟨m, h1, h2⟩ := hz; exact ⟨m, h1, .inl h2⟩
        | cnt y => obtain ⟨m, h1, h2⟩ := hz; exact ⟨m, h1, .inl h2⟩
        | brk y => exact hz
        | ret y => exact hz
      · rw [if_neg c] at hb ⊢
        exact hb
    · rw [ht]
      show if true = true then (f x).run _ B else A (.nx x)
      rw [if_pos rfl, hf]
      exact ⟨n, by omega, .inl h0⟩
theorem while_end {S L R : Type} {s : S} {t : S → Wp Bool} {f : S → Wp (Fl S S R)} (ht : t s = .ok false) : (Wp.while_ s t f : Wp (Fl S L R)) = .ok (.nx s) := by
  refine Wp.ext fun A B => ⟨?_, fun h => ⟨fun _ x => x = s, ⟨0, rfl⟩, ?_⟩⟩
  · rintro ⟨I, ⟨n, h0⟩, h⟩
    have h1 := h n s h0
    rw [ht] at h1
    exact h1
  · rintro n x rfl
    rw [ht]
    exact h
theorem while_no {S L R : Type} {s : S} {e : Err} {t : S → Wp Bool} {f : S → Wp (Fl S S R)} (ht : t s = .ok true) (hf : f s = .raise e) : (Wp.while_ s t f : Wp (Fl S L R)) = .raise e := by
  refine Wp.ext fun A B => ⟨?_, fun h => ⟨fun _ x => x = s, ⟨0, rfl⟩, ?_⟩⟩
  · rintro ⟨I, ⟨n, h0⟩, h⟩
    have h1 := h n s h0
    rw [ht] at h1
    change (if true = true then (f s).run _ B else A (.nx s)) at h1
    rw [if_pos rfl, hf] at h1
    exact h1
  · rintro n x rfl
    rw [ht]
    show if true = true then (f x).run _ B else A (.nx x)
    rw [if_pos rfl, hf]
    exact h
abbrev endsW (sc : Sc) (room : Int) : List Str := if ((!sc.names.isEmpty) || ((!sc.extra.isEmpty) || (decide ((1 : Int) < room)))) = true then ([("else" : Str), ("end" : Str)] : List Str) else ([("end" : Str)] : List Str)
theorem e_else : decide (("else" : Str) = ("else" : Str)) = true := by decide +kernel
theorem e_end : decide (("end" : Str) = ("else" : Str)) = false := by decide +kernel
section
variable {blk : S_Reader → Int → Wp ((List Dt) × S_Reader)} {q : Addr} {ws E : List Str} {p p2 p3 p4 k : Nat} {sc sc3 sc4 : Sc} {room : Int} {e d : Dt} {b t : List Dt}
theorem cho_no1 (he : m_Cursor_expressionS 6 (cu ws (p + 1)) sc.names sc.extra 5 = .raise (Bad k)) : m_Reader_choice blk (rdq q ws p sc) room = .raise (Bad k) := by
  unfold m_Reader_choice
  simp only [up1] at *
  walk_at "ev"
  try simp only [up1]
  walk_at "ev"
theorem cho_no2 (he : m_Cursor_expressionS 6 (cu ws (p + 1)) sc.names sc.extra 5 = .ok (e, cu ws p2)) (hb : blk (rdq q ws p2 sc) (room - 1) = .raise (Bad k)) : m_Reader_choice blk (rdq q ws p sc) room = .raise (Bad k) := by
  unfold m_Reader_choice
  simp only [up1] at *
  walk_at "ev"
  try simp only [up1]
  walk_at "ev"
theorem cho_no3 (he : m_Cursor_expressionS 6 (cu ws (p + 1)) sc.names sc.extra 5 = .ok (e, cu ws p2)) (hb : blk (rdq q ws p2 sc) (room - 1) = .ok (b, rdq q ws p3 sc3)) (hE : endsW sc3 room = E) (hw : m_Cursor_wordS (cu ws p3) E = .raise (Bad k)) : m_Reader_choice blk (rdq q ws p sc) room = .raise (Bad k) := by
  unfold m_Reader_choice
  unfold endsW at *
  simp only [up1] at *
  walk_at "ev"
  try simp only [up1]
  walk_at "ev"
theorem cho_end (he : m_Cursor_expressionS 6 (cu ws (p + 1)) sc.names sc.extra 5 = .ok (e, cu ws p2)) (hb : blk (rdq q ws p2 sc) (room - 1) = .ok (b, rdq q ws p3 sc3)) (hE : endsW sc3 room = E) (hw : m_Cursor_wordS (cu ws p3) E = .ok (("end" : Str), cu ws (p3 + 1))) : m_Reader_choice blk (rdq q ws p sc) room = .ok (.tup [.str "if", e, .tup b, .tup []], rdq q ws (p3 + 1) sc3) := by
  have z0 := e_end
  unfold m_Reader_choice
  unfold endsW at *
  simp only [up1] at *
  walk_at "ev"
  try simp only [up1]
  walk_at "ev"
theorem cho_no4 (he : m_Cursor_expressionS 6 (cu ws (p + 1)) sc.names sc.extra 5 = .ok (e, cu ws p2)) (hb : blk (rdq q ws p2 sc) (room - 1) = .ok (b, rdq q ws p3 sc3)) (hE : endsW sc3 room = E) (hw : m_Cursor_wordS (cu ws p3) E = .ok (("else" : Str), cu ws (p3 + 1))) (hb2 : blk (rdq q ws (p3 + 1) sc3) (room - 1) = .raise (Bad k)) : m_Reader_choice blk (rdq q ws p sc) room = .raise (Bad k) := by
  have z0 := e_else
  unfold m_Reader_choice
  unfold endsW at *
  simp only [up1] at *
  walk_at "ev"
  try simp only [up1]
  walk_at "ev"
theorem cho_no5 (he : m_Cursor_expressionS 6 (cu ws (p + 1)) sc.names sc.extra 5 = .ok (e, cu ws p2)) (hb : blk (rdq q ws p2 sc) (room - 1) = .ok (b, rdq q ws p3 sc3)) (hE : endsW sc3 room = E) (hw : m_Cursor_wordS (cu ws p3) E = .ok (("else" : Str), cu ws (p3 + 1))) (hb2 : blk (rdq q ws (p3 + 1) sc3) (room - 1) = .ok ([], rdq q ws p4 sc4)) : m_Reader_choice blk (rdq q ws p sc) room = .raise (Bad p4) := by
  have z0 := e_else
  unfold m_Reader_choice
  unfold endsW at *
  simp only [up1] at *
  walk_at "ev"
  try simp only [up1]
  walk_at "ev"
theorem cho_no6 (he : m_Cursor_expressionS 6 (cu ws (p + 1)) sc.names sc.extra 5 = .ok (e, cu ws p2)) (hb : blk (rdq q ws p2 sc) (room - 1) = .ok (b, rdq q ws p3 sc3)) (hE : endsW sc3 room = E) (hw : m_Cursor_wordS (cu ws p3) E = .ok (("else" : Str), cu ws (p3 + 1))) (hb2 : blk (rdq q ws (p3 + 1) sc3) (room - 1) = .ok (d :: t, rdq q ws p4 sc4)) (hw2 : m_Cursor_wordS (cu ws p4) ["end"] = .raise (Bad k)) : m_Reader_choice blk (rdq q ws p sc) room = .raise (Bad k) := by
  have z0 := e_else
  unfold m_Reader_choice
  unfold endsW at *
  simp only [up1] at *
  walk_at "ev"
  try simp only [up1]
  walk_at "ev"
theorem cho_else (he : m_Cursor_expressionS 6 (cu ws (p + 1)) sc.names sc.extra 5 = .ok (e, cu ws p2)) (hb : blk (rdq q ws p2 sc) (room - 1) = .ok (b, rdq q ws p3 sc3)) (hE : endsW sc3 room = E) (hw : m_Cursor_wordS (cu ws p3) E = .ok (("else" : Str), cu ws (p3 + 1))) (hb2 : blk (rdq q ws (p3 + 1) sc3) (room - 1) = .ok (d :: t, rdq q ws p4 sc4)) (hw2 : m_Cursor_wordS (cu ws p4) ["end"] = .ok (("end" : Str), cu ws (p4 + 1))) : m_Reader_choice blk (rdq q ws p sc) room = .ok (.tup [.str "if", e, .tup b, .tup (d :: t)], rdq q ws (p4 + 1) sc4) := by
  have z0 := e_else
  unfold m_Reader_choice
  unfold endsW at *
  simp only [up1] at *
  walk_at "ev"
  try simp only [up1]
  walk_at "ev"
end
abbrev BSt : Type := (List Dt) × (Option Dt) × S_Reader
def blkT (z7 : BSt) : Wp Bool := Wp.ok (!(z7.2.1).isNone)
def blkF (stm : S_Reader → Int → Wp ((Option Dt) × S_Reader)) (p_room : Int) (z7 : BSt) : Wp (Fl BSt BSt ((List Dt) × S_Reader)) :=
 ((Wp.get z7.2.1)).bind fun x8 => Wp.req ((z7.1).length < 16777215) (
 ((((Wp.ok (p_room, z7.2.2))).bind fun x10 => (Wp.ap (fun s9 : S_Reader => ((Wp.ok ((), s9)) : Wp (Unit × S_Reader))) x10.2).bind fun x11 => Wp.ok ((x10.1, x11.1), x11.2)).bind fun x12 => stm x12.2 x12.1.1).bind fun x13 =>
 Wp.ok (.nx ((z7.1 ++ [x8]), (x13.1), (x13.2))))
def lpB (stm : S_Reader → Int → Wp ((Option Dt) × S_Reader)) (room : Int) (acc : List Dt) (o : Option Dt) (s : S_Reader) : Wp ((List Dt) × S_Reader) :=
  Wp.out (Wp.seq (Wp.while_ ((acc, o, s) : BSt) blkT (blkF stm room)) fun z14 : BSt => ((Wp.ok (z14.1, z14.2.2))).bind fun x15 => Wp.ok (.ret x15))
section
variable {stm : S_Reader → Int → Wp ((Option Dt) × S_Reader)} {room : Int} {acc : List Dt} {o : Option Dt} {d : Dt} {s s' : S_Reader} {e : Err}
theorem block_eq : m_Reader_block stm s room = (stm s room).bind fun x => lpB stm room [] x.1 x.2 := by
  unfold m_Reader_block lpB
  walk_at "wp"
  rfl
theorem lpB_none : lpB stm room acc none s = .ok (acc, s) := by
  unfold lpB
  rw [while_end (t := blkT) (show blkT (acc, none, s) = .ok false from rfl)]
  walk_at "wp"
theorem lpB_some (h : stm s room = .ok (o, s')) (hl : acc.length < 16777215) : lpB stm room acc (some d) s = lpB stm room (acc ++ [d]) o s' := by
  unfold lpB
  rw [while_go (t := blkT) (s := (acc, some d, s)) (s' := (acc ++ [d], o, s')) rfl]
  unfold blkF
  walk_at "ev"
theorem lpB_no (h : stm s room = .raise e) (hl : acc.length < 16777215) : lpB stm room acc (some d) s = .raise e := by
  unfold lpB
  rw [while_no (t := blkT) (s := (acc, some d, s)) (e := e) rfl]
  · walk_at "ev"
  · unfold blkF
    walk_at "ev"
end
end Lw
set_option exponentiation.threshold 20000
local macro_rules | `(tactic| walk_at "wp") => `(tactic| try simp only [L2.My.Wp.ok_bind, L2.My.Wp.bind_ok, L2.My.Wp.bind_assoc, L2.My.Wp.req_bind, L2.My.Wp.bind_out, L2.My.Wp.ret_out, L2.My.Wp.raise_bind, L2.My.Wp.raise_out, L2.My.Wp.req_out, L2.My.Wp.bind_seq, L2.My.Wp.ok_seq, L2.My.Wp.ret_seq, L2.My.Wp.req_seq, L2.My.Wp.bind_up, L2.My.Wp.ret_up, L2.My.Wp.brk_up, L2.My.Wp.cnt_up, L2.My.Wp.req_up, L2.My.Wp.raise_up, L2.My.Wp.nox_ok, L2.My.Wp.nox_bind, L2.My.Wp.nox_req, L2.My.Wp.nox_get, L2.My.Wp.nox_nox, L2.My.Wp.ap, Lw.mkQ_self])
namespace Lw
open PySem PySem.Spec PyProof.Rows L2 L2.My
theorem stmN_kw {room : Int} {sc : Sc} {w : Str} {x : List It × Sc} (h : stmN room sc w = some x) : w ≠ ("end" : Str) ∧ w ≠ ("else" : Str) ∧ w ≠ ("press" : Str) := by
  unfold stmN at h
  by_cases c1 : w = ("set" : Str) ∧ sc.names ≠ []
  · rw [c1.1]; decide +kernel
  rw [if_neg c1] at h
  by_cases c2 : w = ("draw" : Str) ∧ sc.names ≠ [] ∧ sc.draws ≠ 0
  · rw [c2.1]; decide +kernel
  rw [if_neg c2] at h
  by_cases c3 : w = ("use" : Str) ∧ sc.names ≠ [] ∧ sc.uses ≠ 0
  · rw [c3.1]; decide +kernel
  rw [if_neg c3] at h
  by_cases c4 : w = ("say" : Str) ∧ sc.extra ≠ []
  · rw [c4.1]; decide +kernel
  rw [if_neg c4] at h
  by_cases c5 : w = ("if" : Str) ∧ room ≠ 0
  · rw [c5.1]; decide +kernel
  rw [if_neg c5] at h
  cases h
theorem nxB_stm {room : Int} {k : Kd} {K I : List It} {sc sc' : Sc} {w : Str} (h : stmN room sc w = some (I, sc')) : nxI sc w (.blk room k :: K) = some (I ++ .blk room k.norm :: K, sc') := by
  obtain ⟨h1, h2, h3⟩ := stmN_kw h
  show nxB room k K sc w = _
  unfold nxB
  rw [if_neg fun z => h1 z.1, if_neg fun z => h2 z.1, if_neg fun z => h3 z.1, h]
theorem go_stm {room : Int} {k : Kd} {K I : List It} {sc sc' : Sc} {w : Str} {r : List Str} {p : Nat} (h : stmN room sc w = some (I, sc')) : go (.blk room k :: K) sc (w :: r) p = go (I ++ .blk room k.norm :: K) sc' r (p + 1) := go_step (nxB_stm h)
section
variable {room : Int} {sc : Sc}
theorem stmN_set (hN : sc.names ≠ []) : stmN room sc "set" = some ([.one, .val (sc.names ++ sc.extra) 5], sc) := by
  unfold stmN
  rw [if_pos ⟨rfl, hN⟩]
theorem stmN_draw (hN : sc.names ≠ []) (hD : sc.draws ≠ 0) : stmN room sc "draw" = some ([.one, .num 1 6], ⟨sc.names, sc.extra, sc.draws - 1, sc.uses⟩) := by
  unfold stmN
  rw [if_neg (by rintro ⟨z, _⟩; revert z; decide +kernel), if_pos ⟨rfl, hN, hD⟩]
theorem stmN_use (hN : sc.names ≠ []) (hD : sc.uses ≠ 0) : stmN room sc "use" = some ([.one, .val (sc.names ++ sc.extra) 5], ⟨sc.names, sc.extra, sc.draws, sc.uses - 1⟩) := by
  unfold stmN
  rw [if_neg (by rintro ⟨z, _⟩; revert z; decide +kernel), if_neg (by rintro ⟨z, _⟩; revert z; decide +kernel), if_pos ⟨rfl, hN, hD⟩]
theorem stmN_say (hN : sc.extra ≠ []) : stmN room sc "say" = some ([.val (sc.names ++ sc.extra) 5], sc) := by
  unfold stmN
  rw [if_neg (by rintro ⟨z, _⟩; revert z; decide +kernel), if_neg (by rintro ⟨z, _⟩; revert z; decide +kernel), if_neg (by rintro ⟨z, _⟩; revert z; decide +kernel), if_pos ⟨rfl, hN⟩]
theorem stmN_if (hN : room ≠ 0) : stmN room sc "if" = some ([.val (sc.names ++ sc.extra) 5, .blk (room - 1) .thn], sc) := by
  unfold stmN
  rw [if_neg (by rintro ⟨z, _⟩; revert z; decide +kernel), if_neg (by rintro ⟨z, _⟩; revert z; decide +kernel), if_neg (by rintro ⟨z, _⟩; revert z; decide +kernel), if_neg (by rintro ⟨z, _⟩; revert z; decide +kernel), if_pos ⟨rfl, hN⟩]
end
theorem one_case {ws : List Str} {p : Nat} {r : List Str} (h : Pt ws p r) (ns : List Str) : (∃ v r', r = v :: r' ∧ v ∈ ns ∧ m_Cursor_wordS (cu ws p) ns = .ok (v, cu ws (p + 1)) ∧ ∀ K sc, sc.names = ns → go (.one :: K) sc r p = go K sc r' (p + 1)) ∨ (m_Cursor_wordS (cu ws p) ns = .raise (Bad p) ∧ ∀ K sc, sc.names = ns → go (.one :: K) sc r p = some p) := by
  cases r with
  | nil => exact .inr ⟨word_no h (fun _ _ z => by cases z), fun K sc _ => go_nil rfl⟩
  | cons v r' =>
    by_cases hv : v ∈ ns
    · exact .inl ⟨v, r', rfl, hv, word_ok h hv, fun K sc e => go_step (by show (if v ∈ sc.names then _ else _) = _; rw [e, if_pos hv])⟩
    · exact .inr ⟨word_no h (fun w r z => by injection z with z1 z2; rw [← z1]; exact hv), fun K sc e => go_bad (by show (if v ∈ sc.names then _ else _) = _; rw [e, if_neg hv])⟩
theorem num_case {ws : List Str} {p : Nat} {r : List Str} (h : Pt ws p r) (lo hi : Int) : (∃ v r' n, r = v :: r' ∧ nb v = some n ∧ lo ≤ n ∧ n ≤ hi ∧ m_Cursor_numberS (cu ws p) lo hi = .ok (n, cu ws (p + 1)) ∧ ∀ K sc, go (.num lo hi :: K) sc r p = go K sc r' (p + 1)) ∨ (m_Cursor_numberS (cu ws p) lo hi = .raise (Bad p) ∧ ∀ K sc, go (.num lo hi :: K) sc r p = some p) := by
  cases r with
  | nil => exact .inr ⟨num_no h (fun _ _ z => by cases z), fun K sc => go_nil rfl⟩
  | cons v r' =>
    cases hb : inB (nb v) lo hi with
    | true =>
      cases e : nb v with
      | none => rw [e] at hb; cases hb
      | some n =>
        have h2 := hb
        rw [e] at h2
        have h2 := of_decide_eq_true h2
        exact .inl ⟨v, r', n, rfl, e, h2.1, h2.2, num_ok h e h2.1 h2.2, fun K sc => go_step (by show (if inB (nb v) lo hi = true then _ else _) = _; rw [if_pos hb])⟩
    | false => exact .inr ⟨num_no h (fun w r z => by injection z with z1 z2; rw [← z1]; exact hb), fun K sc => go_bad (by show (if inB (nb v) lo hi = true then _ else _) = _; rw [if_neg (by rw [hb]; decide)])⟩
theorem expr5 {ws ns ex : List Str} {p : Nat} {rest : List Str} (h : Pt ws p rest) :
    (∃ e W rest', rest = W ++ rest' ∧ m_Cursor_expressionS 6 (cu ws p) ns ex 5 = .ok (e, cu ws (p + W.length)) ∧ ExW 5 e W ∧ ∀ K sc, go (.val (ns ++ ex) 5 :: K) sc rest p = go K sc rest' (p + W.length))
    ∨ (∃ k, m_Cursor_expressionS 6 (cu ws p) ns ex 5 = .raise (Bad k) ∧ ∀ K sc, go (.val (ns ++ ex) 5 :: K) sc rest p = some k) := run_expr (ns := ns) (ex := ex) 6 5 p rest h (by decide) (by decide)
def RdB (n room : Nat) : Prop := ∀ (ws : List Str) (q : Addr) (p : Nat) (rest : List Str) (sc : Sc), ws.length < 16777215 → Pt ws p rest →
  (∃ b W rest' sc', rest = W ++ rest' ∧ m_Reader_blk n (rdq q ws p sc) (room : Int) = .ok (b, rdq q ws (p + W.length) sc') ∧ sc'.names = sc.names ∧ sc'.extra = sc.extra ∧ BlW room b W ∧ (∀ w r, rest' = w :: r → stmN room sc' w = none) ∧ (b = [] → W = []) ∧ ∀ K k, go (.blk room k :: K) sc rest p = go (.blk room (if b.isEmpty = true then k else k.norm) :: K) sc' rest' (p + W.length))
  ∨ (∃ k', m_Reader_blk n (rdq q ws p sc) (room : Int) = .raise (Bad k') ∧ ∀ K k, go (.blk room k :: K) sc rest p = some k')
def RdS (n room : Nat) : Prop := ∀ (ws : List Str) (q : Addr) (p : Nat) (rest : List Str) (sc : Sc), ws.length < 16777215 → Pt ws p rest →
  (m_Reader_statement (m_Reader_choice (m_Reader_blk n)) (rdq q ws p sc) (room : Int) = .ok (none, rdq q ws p sc) ∧ ∀ w r, rest = w :: r → stmN room sc w = none)
  ∨ (∃ d W rest' sc', rest = W ++ rest' ∧ 0 < W.length ∧ m_Reader_statement (m_Reader_choice (m_Reader_blk n)) (rdq q ws p sc) (room : Int) = .ok (some d, rdq q ws (p + W.length) sc') ∧ sc'.names = sc.names ∧ sc'.extra = sc.extra ∧ RowW room d W ∧ ∀ K k, go (.blk room k :: K) sc rest p = go (.blk room k.norm :: K) sc' rest' (p + W.length))
  ∨ (∃ k', m_Reader_statement (m_Reader_choice (m_Reader_blk n)) (rdq q ws p sc) (room : Int) = .raise (Bad k') ∧ ∀ K k, go (.blk room k :: K) sc rest p = some k')
theorem go_stop {room : Int} {k : Kd} {K : List It} {sc : Sc} {w : Str} {r : List Str} {p : Nat} (h : stmN room sc w = none) (h1 : ¬ (w = ("end" : Str) ∧ k.closes = true)) (h2 : ¬ (w = ("else" : Str) ∧ k.isThn = true ∧ (sc.names ++ sc.extra ≠ [] ∨ 0 < room))) (h3 : ¬ (w = ("press" : Str) ∧ k.isStart = true)) : go (.blk room k :: K) sc (w :: r) p = some p := by
  refine go_bad ?_
  show nxB room k K sc w = _
  unfold nxB
  rw [if_neg h1, if_neg h2, if_neg h3, h]
theorem go_end {room : Int} {k : Kd} {K : List It} {sc : Sc} {r : List Str} {p : Nat} (h : k.closes = true) : go (.blk room k :: K) sc ("end" :: r) p = go K sc r (p + 1) := by
  refine go_step ?_
  show nxB room k K sc "end" = _
  unfold nxB
  rw [if_pos ⟨rfl, h⟩]
theorem go_else {room : Int} {K : List It} {sc : Sc} {r : List Str} {p : Nat} (h : sc.names ++ sc.extra ≠ [] ∨ 0 < room) : go (.blk room .thn :: K) sc ("else" :: r) p = go (.blk room .emp :: K) sc r (p + 1) := by
  refine go_step ?_
  show nxB room .thn K sc "else" = _
  unfold nxB
  rw [if_neg (by rintro ⟨z, _⟩; revert z; decide +kernel), if_pos ⟨rfl, rfl, h⟩]
theorem ends_iff {sc : Sc} {room : Int} : ((!sc.names.isEmpty) || ((!sc.extra.isEmpty) || (decide ((1 : Int) < room)))) = true ↔ (sc.names ++ sc.extra ≠ [] ∨ 0 < room - 1) := by
  rcases sc with ⟨ns, ex, d, u⟩
  cases ns <;> cases ex <;> simp <;> omega

theorem rd_if {n room : Nat} (hr : room ≠ 0) (hB : RdB n (room - 1)) {ws : List Str} {q : Addr} {p : Nat} {r : List Str} {sc : Sc} (hl : ws.length < 16777215) (hp : Pt ws p ("if" :: r)) :
  (∃ d W rest' sc', ("if" : Str) :: r = W ++ rest' ∧ 0 < W.length ∧ m_Reader_choice (m_Reader_blk n) (rdq q ws p sc) (room : Int) = .ok (d, rdq q ws (p + W.length) sc') ∧ sc'.names = sc.names ∧ sc'.extra = sc.extra ∧ RowW room d W ∧ ∀ K k, go (.blk room k :: K) sc ("if" :: r) p = go (.blk room k.norm :: K) sc' rest' (p + W.length))
  ∨ (∃ k', m_Reader_choice (m_Reader_blk n) (rdq q ws p sc) (room : Int) = .raise (Bad k') ∧ ∀ K k, go (.blk room k :: K) sc ("if" :: r) p = some k') := by
  have hr0 : (room : Int) ≠ 0 := by omega
  have er : (room : Int) - 1 = ((room - 1 : Nat) : Int) := by omega
  have h0 : ∀ K k, go (.blk room k :: K) sc ("if" :: r) p = go (.val (sc.names ++ sc.extra) 5 :: .blk ((room - 1 : Nat) : Int) .thn :: .blk room k.norm :: K) sc r (p + 1) := fun K k => by
    rw [go_stm (stmN_if hr0), er]; rfl
  have hx := hp.nx
  rcases expr5 (ns := sc.names) (ex := sc.extra) hx with ⟨e, W1, r1, q1, q2, q3, q4⟩ | ⟨k, q2, q4⟩
  · have hx1 := (q1 ▸ hx).app
    rcases hB ws q _ r1 sc hl hx1 with ⟨b, W2, r2, sc2, t1, t2, t3, t3', t4, t5, t0, t6⟩ | ⟨k, t2, t6⟩
    · have hx2 := (t1 ▸ hx1).app
      have h1 : ∀ K k, go (.blk room k :: K) sc ("if" :: r) p = go (.blk ((room - 1 : Nat) : Int) .thn :: .blk room k.norm :: K) sc2 r2 (p + 1 + W1.length + W2.length) := fun K k => by
        rw [h0, q4, t6]
        congr 2
        cases b <;> rfl
      have t2' := t2
      rw [← er] at t2'
      cases r2 with
      | nil =>
        refine .inr ⟨_, cho_no3 q2 t2' rfl (word_no hx2 fun _ _ z => by cases z), fun K k => ?_⟩
        rw [h1, go_nil rfl]
      | cons w r2 =>
        have ht5 := t5 w r2 rfl
        by_cases c1 : w = ("end" : Str)
        · subst c1
          refine .inl ⟨_, (("if" : Str) :: (W1 ++ W2)) ++ [("end" : Str)], r2, sc2, by rw [q1, t1]; simp, by simp, ?_, t3, t3', RowW.if1 (by omega) q3 t4, fun K k => ?_⟩
          · rw [show p + ((("if" : Str) :: (W1 ++ W2)) ++ [("end" : Str)]).length = p + 1 + W1.length + W2.length + 1 by simp; omega]
            refine cho_end q2 t2' rfl (word_ok hx2 ?_)
            unfold endsW
            split <;> simp
          · rw [h1, go_end rfl]
            congr 1
            simp; omega
        · by_cases c2 : w = ("else" : Str) ∧ (sc2.names ++ sc2.extra ≠ [] ∨ (0 : Int) < ((room - 1 : Nat) : Int))
          · obtain ⟨rfl, c2⟩ := c2
            have eE : endsW sc2 room = [("else" : Str), ("end" : Str)] := by
              unfold endsW
              rw [if_pos (ends_iff.mpr (er ▸ c2))]
            have hw : m_Cursor_wordS (cu ws (p + 1 + W1.length + W2.length)) [("else" : Str), ("end" : Str)] = .ok (("else" : Str), cu ws (p + 1 + W1.length + W2.length + 1)) := word_ok hx2 (by simp)
            have hx3 := hx2.nx
            have h2 : ∀ K k, go (.blk room k :: K) sc ("if" :: r) p = go (.blk ((room - 1 : Nat) : Int) .emp :: .blk room k.norm :: K) sc2 r2 (p + 1 + W1.length + W2.length + 1) := fun K k => by
              rw [h1, go_else c2]
            rcases hB ws q _ r2 sc2 hl hx3 with ⟨b2, W3, r3, sc3, s1, s2, s3, s3', s4, s5, s0, s6⟩ | ⟨k, s2, s6⟩
            · have hx4 := (s1 ▸ hx3).app
              have s2' := s2
              rw [← er] at s2'
              cases b2 with
              | nil =>
                have e0 : W3 = [] := s0 rfl
                subst e0
                refine .inr ⟨_, cho_no5 q2 t2' eE hw s2', fun K k => ?_⟩
                rw [h2, s6]
                show go (.blk _ .emp :: _) sc3 r3 _ = _
                cases r3 with
                | nil => exact go_nil rfl
                | cons w3 r3 => exact go_stop (s5 w3 r3 rfl) (by rintro ⟨_, z⟩; cases z) (by rintro ⟨_, z, _⟩; cases z) (by rintro ⟨_, z⟩; cases z)
              | cons d2 b2 =>
                have h3 : ∀ K k, go (.blk room k :: K) sc ("if" :: r) p = go (.blk ((room - 1 : Nat) : Int) .els :: .blk room k.norm :: K) sc3 r3 (p + 1 + W1.length + W2.length + 1 + W3.length) := fun K k => by
                  rw [h2, s6]; rfl
                cases r3 with
                | nil =>
                  refine .inr ⟨_, cho_no6 q2 t2' eE hw s2' (word_no hx4 fun _ _ z => by cases z), fun K k => ?_⟩
                  rw [h3, go_nil rfl]
                | cons w3 r3 =>
                  by_cases c3 : w3 = ("end" : Str)
                  · subst c3
                    refine .inl ⟨_, (("if" : Str) :: (W1 ++ W2)) ++ ("else" : Str) :: W3 ++ [("end" : Str)], r3, sc3, by rw [q1, t1, s1]; simp, by simp, ?_, s3.trans t3, s3'.trans t3', RowW.if2 (by omega) q3 t4 s4, fun K k => ?_⟩
                    · rw [show p + ((("if" : Str) :: (W1 ++ W2)) ++ ("else" : Str) :: W3 ++ [("end" : Str)]).length = p + 1 + W1.length + W2.length + 1 + W3.length + 1 by simp; omega]
                      exact cho_else q2 t2' eE hw s2' (word_ok hx4 (by simp))
                    · rw [h3, go_end rfl]
                      congr 1
                      simp; omega
                  · refine .inr ⟨_, cho_no6 q2 t2' eE hw s2' (word_no hx4 fun w r z => by injection z with z1 z2; rw [← z1]; simpa using c3), fun K k => ?_⟩
                    rw [h3]
                    exact go_stop (s5 w3 r3 rfl) (fun z => c3 z.1) (by rintro ⟨_, z, _⟩; cases z) (by rintro ⟨_, z⟩; cases z)
            · have s2' := s2
              rw [← er] at s2'
              exact .inr ⟨k, cho_no4 q2 t2' eE hw s2', fun K k => by rw [h2, s6]⟩
          · refine .inr ⟨_, cho_no3 q2 t2' rfl (word_no hx2 fun w' r' z => ?_), fun K k => ?_⟩
            · injection z with z1 z2
              rw [← z1]
              unfold endsW
              split
              · rename_i hc
                have hc := ends_iff.mp hc
                rw [er] at hc
                simp only [List.mem_cons, List.not_mem_nil, or_false, not_or]
                exact ⟨fun z => c2 ⟨z, hc⟩, c1⟩
              · simpa using c1
            · rw [h1]
              exact go_stop ht5 (fun z => c1 z.1) (fun z => c2 ⟨z.1, z.2.2⟩) (by rintro ⟨_, z⟩; cases z)
    · rw [← er] at t2
      exact .inr ⟨k, cho_no2 q2 t2, fun K k => by rw [h0, q4, t6]⟩
  · exact .inr ⟨k, cho_no1 q2, fun K k => by rw [h0, q4]⟩
end Lw
set_option exponentiation.threshold 20000
local macro_rules | `(tactic| walk_at "wp") => `(tactic| try simp only [L2.My.Wp.ok_bind, L2.My.Wp.bind_ok, L2.My.Wp.bind_assoc, L2.My.Wp.req_bind, L2.My.Wp.bind_out, L2.My.Wp.ret_out, L2.My.Wp.raise_bind, L2.My.Wp.raise_out, L2.My.Wp.req_out, L2.My.Wp.bind_seq, L2.My.Wp.ok_seq, L2.My.Wp.ret_seq, L2.My.Wp.req_seq, L2.My.Wp.bind_up, L2.My.Wp.ret_up, L2.My.Wp.brk_up, L2.My.Wp.cnt_up, L2.My.Wp.req_up, L2.My.Wp.raise_up, L2.My.Wp.nox_ok, L2.My.Wp.nox_bind, L2.My.Wp.nox_req, L2.My.Wp.nox_get, L2.My.Wp.nox_nox, L2.My.Wp.ap, Lw.mkQ_self])
namespace Lw
open PySem PySem.Spec PyProof.Rows L2 L2.My
theorem rdS_of {n room : Nat} (hB : room ≠ 0 → RdB n (room - 1)) : RdS n room := by
  intro ws q p rest sc hl hp
  cases rest with
  | nil => exact .inl ⟨stm_no hp fun _ _ z => (by cases z), fun _ _ z => (by cases z)⟩
  | cons w r =>
    have hx := hp.nx
    by_cases c1 : w = ("set" : Str) ∧ sc.names ≠ []
    · obtain ⟨rfl, hN⟩ := c1
      have h0 : ∀ K k, go (.blk room k :: K) sc ("set" :: r) p = go (.one :: .val (sc.names ++ sc.extra) 5 :: .blk room k.norm :: K) sc r (p + 1) := fun K k => go_stm (stmN_set hN)
      rcases one_case hx sc.names with ⟨v, r1, rfl, hv, e1, g1⟩ | ⟨e1, g1⟩
      · rcases expr5 (ns := sc.names) (ex := sc.extra) hx.nx with ⟨e, W, r2, q1, q2, q3, q4⟩ | ⟨k, q2, q4⟩
        · refine .inr (.inl ⟨_, ("set" : Str) :: v :: W, r2, sc, by rw [q1]; simp, by simp, ?_, rfl, rfl, RowW.set q3, fun K k => ?_⟩)
          · rw [show p + (("set" : Str) :: v :: W).length = p + 2 + W.length by simp; omega]
            exact set_ok hp hN e1 q2
          · rw [h0, g1 _ _ rfl, q4]
            congr 1
            simp; omega
        · exact .inr (.inr ⟨k, set_no2 hp hN e1 q2, fun K k => by rw [h0, g1 _ _ rfl, q4]⟩)
      · exact .inr (.inr ⟨_, set_no1 hp hN e1, fun K k => by rw [h0, g1 _ _ rfl]⟩)
    by_cases c2 : w = ("draw" : Str) ∧ sc.names ≠ [] ∧ sc.draws ≠ 0
    · obtain ⟨rfl, hN, hD⟩ := c2
      have h0 : ∀ K k, go (.blk room k :: K) sc ("draw" :: r) p = go (.one :: .num 1 6 :: .blk room k.norm :: K) ⟨sc.names, sc.extra, sc.draws - 1, sc.uses⟩ r (p + 1) := fun K k => go_stm (stmN_draw hN hD)
      rcases one_case hx sc.names with ⟨v, r1, rfl, hv, e1, g1⟩ | ⟨e1, g1⟩
      · rcases num_case hx.nx 1 6 with ⟨w2, r2, m, rfl, hm, _, _, q2, q4⟩ | ⟨q2, q4⟩
        · refine .inr (.inl ⟨_, [("draw" : Str), v, w2], r2, ⟨sc.names, sc.extra, sc.draws - 1, sc.uses⟩, by simp, by simp, draw_ok hp hN hD e1 q2, rfl, rfl, RowW.draw hm, fun K k => ?_⟩)
          rw [h0]
          refine (g1 _ ⟨sc.names, sc.extra, sc.draws - 1, sc.uses⟩ rfl).trans ?_
          rw [q4]
          rfl
        · exact .inr (.inr ⟨_, draw_no2 hp hN hD e1 q2, fun K k => by
            rw [h0]
            refine (g1 _ ⟨sc.names, sc.extra, sc.draws - 1, sc.uses⟩ rfl).trans ?_
            rw [q4]⟩)
      · exact .inr (.inr ⟨_, draw_no1 hp hN hD e1, fun K k => by rw [h0]; exact g1 _ ⟨sc.names, sc.extra, sc.draws - 1, sc.uses⟩ rfl⟩)
    by_cases c3 : w = ("use" : Str) ∧ sc.names ≠ [] ∧ sc.uses ≠ 0
    · obtain ⟨rfl, hN, hD⟩ := c3
      have h0 : ∀ K k, go (.blk room k :: K) sc ("use" :: r) p = go (.one :: .val (sc.names ++ sc.extra) 5 :: .blk room k.norm :: K) ⟨sc.names, sc.extra, sc.draws, sc.uses - 1⟩ r (p + 1) := fun K k => go_stm (stmN_use hN hD)
      rcases one_case hx sc.names with ⟨v, r1, rfl, hv, e1, g1⟩ | ⟨e1, g1⟩
      · rcases expr5 (ns := sc.names) (ex := sc.extra) hx.nx with ⟨e, W, r2, q1, q2, q3, q4⟩ | ⟨k, q2, q4⟩
        · refine .inr (.inl ⟨_, ("use" : Str) :: v :: W, r2, ⟨sc.names, sc.extra, sc.draws, sc.uses - 1⟩, by rw [q1]; simp, by simp, ?_, rfl, rfl, RowW.use q3, fun K k => ?_⟩)
          · rw [show p + (("use" : Str) :: v :: W).length = p + 2 + W.length by simp; omega]
            exact use_ok hp hN hD e1 q2
          · rw [h0]
            refine (g1 _ ⟨sc.names, sc.extra, sc.draws, sc.uses - 1⟩ rfl).trans ?_
            rw [q4]
            congr 1
            simp; omega
        · exact .inr (.inr ⟨k, use_no2 hp hN hD e1 q2, fun K k => by
            rw [h0]
            refine (g1 _ ⟨sc.names, sc.extra, sc.draws, sc.uses - 1⟩ rfl).trans ?_
            rw [q4]⟩)
      · exact .inr (.inr ⟨_, use_no1 hp hN hD e1, fun K k => by rw [h0]; exact g1 _ ⟨sc.names, sc.extra, sc.draws, sc.uses - 1⟩ rfl⟩)
    by_cases c4 : w = ("say" : Str) ∧ sc.extra ≠ []
    · obtain ⟨rfl, hN⟩ := c4
      have h0 : ∀ K k, go (.blk room k :: K) sc ("say" :: r) p = go (.val (sc.names ++ sc.extra) 5 :: .blk room k.norm :: K) sc r (p + 1) := fun K k => go_stm (stmN_say hN)
      rcases expr5 (ns := sc.names) (ex := sc.extra) hx with ⟨e, W, r2, q1, q2, q3, q4⟩ | ⟨k, q2, q4⟩
      · refine .inr (.inl ⟨_, ("say" : Str) :: W, r2, sc, by rw [q1]; simp, by simp, ?_, rfl, rfl, RowW.say q3, fun K k => ?_⟩)
        · rw [show p + (("say" : Str) :: W).length = p + 1 + W.length by simp; omega]
          exact say_ok hp hN q2
        · rw [h0, q4]
          congr 1
          simp; omega
      · exact .inr (.inr ⟨k, say_no hp hN q2, fun K k => by rw [h0, q4]⟩)
    by_cases c5 : w = ("if" : Str) ∧ (room : Int) ≠ 0
    · obtain ⟨rfl, hN⟩ := c5
      have hr : room ≠ 0 := by omega
      rcases rd_if hr (hB hr) hl hp (q := q) (sc := sc) with ⟨d, W, r2, sc2, q1, q2, q3, q4, q5, q6, q7⟩ | ⟨k, q3, q7⟩
      · exact .inr (.inl ⟨d, W, r2, sc2, q1, q2, if_ok hp hN q3, q4, q5, q6, q7⟩)
      · exact .inr (.inr ⟨k, if_no hp hN q3, q7⟩)
    have hs : stmN room sc w = none := by
      unfold stmN
      rw [if_neg c1, if_neg c2, if_neg c3, if_neg c4, if_neg c5]
    exact .inl ⟨stm_no hp fun w' r' z => by injection z with z1 z2; rw [← z1]; exact hs, fun w' r' z => by injection z with z1 z2; rw [← z1]; exact hs⟩
theorem rd_loop {n room : Nat} (hS : RdS n room) {ws : List Str} {q : Addr} (hl : ws.length < 16777215) : ∀ (N : Nat) (p : Nat) (rest : List Str) (sc : Sc) (acc : List Dt), rest.length ≤ N → acc.length ≤ p → Pt ws p rest →
  (∃ b W rest' sc', rest = W ++ rest' ∧ ((m_Reader_statement (m_Reader_choice (m_Reader_blk n)) (rdq q ws p sc) (room : Int)).bind fun x => lpB (m_Reader_statement (m_Reader_choice (m_Reader_blk n))) (room : Int) acc x.1 x.2) = .ok (acc ++ b, rdq q ws (p + W.length) sc') ∧ sc'.names = sc.names ∧ sc'.extra = sc.extra ∧ BlW room b W ∧ (∀ w r, rest' = w :: r → stmN room sc' w = none) ∧ (b = [] → W = []) ∧ ∀ K k, go (.blk room k :: K) sc rest p = go (.blk room (if b.isEmpty = true then k else k.norm) :: K) sc' rest' (p + W.length))
  ∨ (∃ k', ((m_Reader_statement (m_Reader_choice (m_Reader_blk n)) (rdq q ws p sc) (room : Int)).bind fun x => lpB (m_Reader_statement (m_Reader_choice (m_Reader_blk n))) (room : Int) acc x.1 x.2) = .raise (Bad k') ∧ ∀ K k, go (.blk room k :: K) sc rest p = some k') := by
  intro N
  induction N with
  | zero =>
    intro p rest sc acc hN ha hp
    have e0 : rest = [] := List.eq_nil_of_length_eq_zero (by omega)
    subst e0
    rcases hS ws q p [] sc hl hp with ⟨h1, h2⟩ | ⟨d, W, r2, sc2, q1, q2, _⟩ | ⟨k, h1, h2⟩
    · refine .inl ⟨[], [], [], sc, rfl, ?_, rfl, rfl, BlW.nil room, h2, fun _ => rfl, fun K k => rfl⟩
      rw [h1, Wp.ok_bind]
      dsimp only
      rw [lpB_none, List.append_nil]
      rfl
    · rw [List.nil_eq, List.append_eq_nil_iff] at q1
      rw [q1.1] at q2
      exact absurd q2 (by decide)
    · exact .inr ⟨k, by rw [h1, Wp.raise_bind], h2⟩
  | succ N ih =>
    intro p rest sc acc hN ha hp
    rcases hS ws q p rest sc hl hp with ⟨h1, h2⟩ | ⟨d, W, r2, sc2, q1, q2, q3, q4, q5, q6, q7⟩ | ⟨k, h1, h2⟩
    · refine .inl ⟨[], [], rest, sc, rfl, ?_, rfl, rfl, BlW.nil room, h2, fun _ => rfl, fun K k => rfl⟩
      rw [h1, Wp.ok_bind]
      dsimp only
      rw [lpB_none, List.append_nil]
      rfl
    · have hp2 := (q1 ▸ hp).app
      have hlen : rest.length = W.length + r2.length := by rw [q1, List.length_append]
      have hlt := hp.2
      have step : ((m_Reader_statement (m_Reader_choice (m_Reader_blk n)) (rdq q ws p sc) (room : Int)).bind fun x => lpB (m_Reader_statement (m_Reader_choice (m_Reader_blk n))) (room : Int) acc x.1 x.2) = ((m_Reader_statement (m_Reader_choice (m_Reader_blk n)) (rdq q ws (p + W.length) sc2) (room : Int)).bind fun x => lpB (m_Reader_statement (m_Reader_choice (m_Reader_blk n))) (room : Int) (acc ++ [d]) x.1 x.2) := by
        rw [q3, Wp.ok_bind]
        dsimp only
        rcases hS ws q _ r2 sc2 hl hp2 with ⟨h1, _⟩ | ⟨d', W', r', sc', _, _, h1, _⟩ | ⟨k, h1, _⟩
        · rw [lpB_some h1 (by omega), h1, Wp.ok_bind]
        · rw [lpB_some h1 (by omega), h1, Wp.ok_bind]
        · rw [lpB_no h1 (by omega), h1, Wp.raise_bind]
      rw [step]
      rcases ih (p + W.length) r2 sc2 (acc ++ [d]) (by omega) (by rw [List.length_append, List.length_singleton]; omega) hp2 with ⟨b, V, r3, sc3, t1, t2, t3, t3', t4, t5, t0, t6⟩ | ⟨k, t2, t6⟩
      · refine .inl ⟨d :: b, W ++ V, r3, sc3, by rw [q1, t1, List.append_assoc], ?_, t3.trans q4, t3'.trans q5, ?_, t5, fun z => (by cases z), fun K k => ?_⟩
        · rw [t2, List.append_assoc, List.length_append, Nat.add_assoc]
          rfl
        · obtain ⟨l, e1, e2, hl'⟩ := t4
          refine ⟨(d, W) :: l, by rw [e1]; rfl, by rw [e2]; rfl, fun x hx => ?_⟩
          rcases List.mem_cons.mp hx with rfl | hx
          · exact q6
          · exact hl' x hx
        · rw [q7, t6, List.length_append, Nat.add_assoc]
          show go (.blk room (if b.isEmpty = true then k.norm else k.norm.norm) :: K) sc3 r3 _ = go (.blk room k.norm :: K) sc3 r3 _
          rw [Kd.norm2]
          cases b <;> rfl
      · exact .inr ⟨k, t2, fun K k => by rw [q7, t6]⟩
    · exact .inr ⟨k, by rw [h1, Wp.raise_bind], h2⟩
theorem rdB_of {n room : Nat} (hS : RdS n room) : RdB (n + 1) room := by
  intro ws q p rest sc hl hp
  have e : m_Reader_blk (n + 1) (rdq q ws p sc) (room : Int) = ((m_Reader_statement (m_Reader_choice (m_Reader_blk n)) (rdq q ws p sc) (room : Int)).bind fun x => lpB (m_Reader_statement (m_Reader_choice (m_Reader_blk n))) (room : Int) [] x.1 x.2) := block_eq
  rw [e]
  rcases rd_loop hS hl (q := q) rest.length p rest sc [] (Nat.le_refl _) (Nat.zero_le _) hp with h | h
  · exact .inl h
  · exact .inr h
theorem rdB_all : ∀ (n room : Nat), room < n → RdB n room
  | 0, _, h => by omega
  | n + 1, room, h => rdB_of (rdS_of fun hr => rdB_all n (room - 1) (by omega))
end Lw
set_option exponentiation.threshold 20000
local macro_rules | `(tactic| walk_at "wp") => `(tactic| try simp only [L2.My.Wp.ok_bind, L2.My.Wp.bind_ok, L2.My.Wp.bind_assoc, L2.My.Wp.req_bind, L2.My.Wp.bind_out, L2.My.Wp.ret_out, L2.My.Wp.raise_bind, L2.My.Wp.raise_out, L2.My.Wp.req_out, L2.My.Wp.bind_seq, L2.My.Wp.ok_seq, L2.My.Wp.ret_seq, L2.My.Wp.req_seq, L2.My.Wp.bind_up, L2.My.Wp.ret_up, L2.My.Wp.brk_up, L2.My.Wp.cnt_up, L2.My.Wp.req_up, L2.My.Wp.raise_up, L2.My.Wp.nox_ok, L2.My.Wp.nox_bind, L2.My.Wp.nox_req, L2.My.Wp.nox_get, L2.My.Wp.nox_nox, L2.My.Wp.ap, Lw.mkQ_self])
namespace Lw
open PySem PySem.Spec PyProof.Rows L2 L2.My
local macro_rules | `(tactic| walk_at "ev") => `(tactic| try simp only [L2.My.Wp.ok_bind, L2.My.Wp.bind_ok, L2.My.Wp.bind_assoc, L2.My.Wp.req_bind, L2.My.Wp.bind_out, L2.My.Wp.ret_out, L2.My.Wp.raise_bind, L2.My.Wp.raise_out, L2.My.Wp.req_out, L2.My.Wp.bind_seq, L2.My.Wp.ok_seq, L2.My.Wp.ret_seq, L2.My.Wp.req_seq, L2.My.Wp.bind_up, L2.My.Wp.ret_up, L2.My.Wp.brk_up, L2.My.Wp.cnt_up, L2.My.Wp.req_up, L2.My.Wp.raise_up, L2.My.Wp.ap, Lw.mkQ_self, Lw.getS, Lw.Wp_raise_seq, Lw.Wp_req_t, List.isEmpty_nil, List.isEmpty_cons, Lw.rdP_cursor, Lw.rdP_names, Lw.rdP_left, Lw.rdP_uses, Lw.rdP_extra, Option.isNone_none, Option.isNone_some, Option.isSome_none, Option.isSome_some, if_true, if_false, Bool.false_eq_true, Bool.not_true, Bool.not_false, decide_true, decide_false, Bool.false_xor, Bool.true_xor, Bool.xor_false, Bool.xor_true, Bool.and_true, Bool.true_and, Bool.and_false, Bool.false_and, Bool.or_true, Bool.true_or, Bool.or_false, Bool.false_or, List.head?_cons, List.head?_nil, not_true, not_false_eq_true, true_and, and_true, false_and, and_false, *])
theorem whileS_go {S L R : Type} {s s1 s' : S} {t : S → Wp (Bool × S)} {f : S → Wp (Fl S S R)} (ht : t s = .ok (true, s1)) (hf : f s1 = .ok (.nx s')) : (Wp.whileS s t f : Wp (Fl S L R)) = Wp.whileS s' t f := by
  refine Wp.ext fun A B => ⟨?_, ?_⟩
  · rintro ⟨I, ⟨n, h0⟩, h⟩
    have h1 := h n s h0
    rw [ht] at h1
    change (if true = true then (f s1).run _ B else A (.nx s1)) at h1
    rw [if_pos rfl, hf] at h1
    obtain ⟨n', _, h2⟩ := h1
    exact ⟨I, ⟨n', h2⟩, h⟩
  · rintro ⟨I, ⟨n, h0⟩, h⟩
    refine ⟨fun k x => I k x ∨ (k = n + 1 ∧ x = s), ⟨n + 1, .inr ⟨rfl, rfl⟩⟩, ?_⟩
    rintro k x (hk | ⟨rfl, rfl⟩)
    · refine (t x).mono (fun b hb => ?_) (fun _ z => z) (h k x hk)
      by_cases c : b.1 = true
      · rw [if_pos c] at hb ⊢
        refine (f b.2).mono (fun z hz => ?_) (fun _ z => z) hb
        cases z with
        | nx y => obtain ⟨m, h1, h2⟩ := hz; exact ⟨m, h1, .inl h2⟩
        | cnt y => obtain ⟨m, h1, h2⟩ := hz; exact ⟨m, h1, .inl h2⟩
        | brk y => exact hz
        | ret y => exact hz
      · rw [if_neg c] at hb ⊢
        exact hb
    · rw [ht]
      show if true = true then (f s1).run _ B else A (.nx s1)
      rw [if_pos rfl, hf]
      exact ⟨n, by omega, .inl h0⟩
theorem whileS_end {S L R : Type} {s s1 : S} {t : S → Wp (Bool × S)} {f : S → Wp (Fl S S R)} (ht : t s = .ok (false, s1)) : (Wp.whileS s t f : Wp (Fl S L R)) = .ok (.nx s1) := by
  refine Wp.ext fun A B => ⟨?_, fun h => ⟨fun _ x => x = s, ⟨0, rfl⟩, ?_⟩⟩
  · rintro ⟨I, ⟨n, h0⟩, h⟩
    have h1 := h n s h0
    rw [ht] at h1
    exact h1
  · rintro n x rfl
    rw [ht]
    exact h
theorem whileS_no {S L R : Type} {s s1 : S} {e : Err} {t : S → Wp (Bool × S)} {f : S → Wp (Fl S S R)} (ht : t s = .ok (true, s1)) (hf : f s1 = .raise e) : (Wp.whileS s t f : Wp (Fl S L R)) = .raise e := by
  refine Wp.ext fun A B => ⟨?_, fun h => ⟨fun _ x => x = s, ⟨0, rfl⟩, ?_⟩⟩
  · rintro ⟨I, ⟨n, h0⟩, h⟩
    have h1 := h n s h0
    rw [ht] at h1
    change (if true = true then (f s1).run _ B else A (.nx s1)) at h1
    rw [if_pos rfl, hf] at h1
    exact h1
  · rintro n x rfl
    rw [ht]
    show if true = true then (f s1).run _ B else A (.nx s1)
    rw [if_pos rfl, hf]
    exact h
theorem allA_eq {β : Type} {f : Addr → Wp β} {m : Wp β} (h : ∀ x, f x = m) : Wp.allA f = m := by
  have e : f = fun _ => m := funext h
  rw [e]
  exact Wp.ext fun A B => ⟨fun z => z (0 : Nat), fun z _ => z⟩
abbrev VSt : Type := (List (Str × Int)) × S_ReaderM
def vT (q29 : Addr) (z32 : VSt) : Wp (Bool × VSt) :=
 (((Wp.req (((z32.2).1.1.1.1.2).1 = q29) ((Wp.ok (())).bind fun x34 => (m_Cursor_nextS (((z32.2).1.1.1.1.2).2) ).bind fun y33 => Wp.ok (y33.1, (rdP_cursor (z32.2) ((((z32.2).1.1.1.1.2).1, y33.2)))))).bind fun x36 => (Wp.ap (fun s35 : S_ReaderM => (((Wp.ok (("var" : Str), s35))) : Wp (Str × S_ReaderM))) x36.2).bind fun x37 => ((Wp.ok (decide (x36.1 = some x37.1)))).bind fun x38 => Wp.ok (x38, x37.2)).bind fun x40 => if x40.1 = true then Wp.ap (fun s39 : S_ReaderM => (((Wp.ok ((decide ((((z32.1).length : Nat) : Int) < (4 : Int))), s39))) : Wp (Bool × S_ReaderM))) x40.2 else Wp.ok (false, x40.2)).bind fun y77 => Wp.ok (y77.1, (fun (z32 : (List (Str × Int)) × S_ReaderM) (y : S_ReaderM) => (z32.1, y)) z32 y77.2)
def vF (q29 : Addr) (z32 : VSt) : Wp (Fl VSt VSt V_Box) :=
 Wp.req (((z32.2).1.1.1.1.2).1 = q29) (((Wp.ok (1 : Int))).bind fun x41 => (Wp.ok ((((z32.2).1.1.1.1.2).2).2 + x41)).bind fun x42 =>
 Wp.req ((((rdP_cursor (z32.2) ((((z32.2).1.1.1.1.2).1, ((((z32.2).1.1.1.1.2).2).1, x42))))).1.1.1.1.2).1 = q29) ((m_Cursor_new_nameS (((rdP_cursor (z32.2) ((((z32.2).1.1.1.1.2).1, ((((z32.2).1.1.1.1.2).2).1, x42))))).1.1.1.1.2).2 (((rdP_cursor (z32.2) ((((z32.2).1.1.1.1.2).1, ((((z32.2).1.1.1.1.2).2).1, x42))))).1.1.1.2)).bind fun y43 => Wp.req ((((rdP_cursor (z32.2) ((((z32.2).1.1.1.1.2).1, ((((z32.2).1.1.1.1.2).2).1, x42))))).1.1.1.2).length < 16777215) (
 (((((Wp.get (atI ((rdP_names ((rdP_cursor ((rdP_cursor (z32.2) ((((z32.2).1.1.1.1.2).1, ((((z32.2).1.1.1.1.2).2).1, x42))))) (((((rdP_cursor (z32.2) ((((z32.2).1.1.1.1.2).1, ((((z32.2).1.1.1.1.2).2).1, x42))))).1.1.1.1.2).1, y43.2)))) (((rdP_cursor (z32.2) ((((z32.2).1.1.1.1.2).1, ((((z32.2).1.1.1.1.2).2).1, x42))))).1.1.1.2 ++ [y43.1]))).1.1.1.2 (-(1 : Int))))).bind fun y44 => Wp.ok (y44, (rdP_names ((rdP_cursor ((rdP_cursor (z32.2) ((((z32.2).1.1.1.1.2).1, ((((z32.2).1.1.1.1.2).2).1, x42))))) (((((rdP_cursor (z32.2) ((((z32.2).1.1.1.1.2).1, ((((z32.2).1.1.1.1.2).2).1, x42))))).1.1.1.1.2).1, y43.2)))) (((rdP_cursor (z32.2) ((((z32.2).1.1.1.1.2).1, ((((z32.2).1.1.1.1.2).2).1, x42))))).1.1.1.2 ++ [y43.1])))).bind fun x51 => (Wp.ap (fun s45 : S_ReaderM => (((Wp.req (((s45).1.1.1.1.2).1 = q29) ((Wp.ok ((1 : Int), (12 : Int), ())).bind fun x47 => (m_Cursor_numberS (((s45).1.1.1.1.2).2) x47.1 x47.2.1).bind fun y46 => Wp.ok (y46.1, (rdP_cursor s45 ((((s45).1.1.1.1.2).1, y46.2)))))).bind fun x49 => (Wp.ap (fun s48 : S_ReaderM => ((Wp.ok ((), s48)) : Wp (Unit × S_ReaderM))) x49.2).bind fun x50 => Wp.ok ((x49.1, x50.1), x50.2)) : Wp ((Int × Unit) × S_ReaderM))) x51.2).bind fun x52 => Wp.ok ((x51.1, x52.1), x52.2)).bind fun x53 => Wp.ok ((x53.1.1, x53.1.2.1), x53.2)).bind fun x54 => Wp.req ((z32.1).length < 16777215) (
 Wp.ok (.nx ((z32.1 ++ [x54.1]), (x54.2)))))))
def rdT2 (q29 : Addr) (bb aa : Int) (z55 : VSt) : Wp (Fl Empty Empty V_Box) :=
 (Wp.req (((z55.2).1.1.1.1.2).1 = q29) ((Wp.ok (([("start" : Str)] : (List Str)), ())).bind fun x57 => (m_Cursor_wordS (((z55.2).1.1.1.1.2).2) x57.1).bind fun y56 => Wp.ok (y56.1, (rdP_cursor (z55.2) ((((z55.2).1.1.1.1.2).1, y56.2)))))).bind fun x58 =>
 ((((Wp.ok ((4 : Int), x58.2))).bind fun x60 => (Wp.ap (fun s59 : S_Reader => ((Wp.ok ((), s59)) : Wp (Unit × S_Reader))) x60.2).bind fun x61 => Wp.ok ((x60.1, x61.1), x61.2)).bind fun x62 => (m_Reader_blk 5) x62.2 x62.1.1).bind fun x63 =>
 (Wp.req (((x63.2).1.1.1.1.2).1 = q29) ((Wp.ok (([("press" : Str)] : (List Str)), ())).bind fun x65 => (m_Cursor_wordS (((x63.2).1.1.1.1.2).2) x65.1).bind fun y64 => Wp.ok (y64.1, (rdP_cursor (x63.2) ((((x63.2).1.1.1.1.2).1, y64.2)))))).bind fun x66 =>
 ((Wp.ok ([("press" : Str)] : (List Str)))).bind fun x67 =>
 ((((Wp.ok ((4 : Int), (rdP_extra (x66.2) (x67))))).bind fun x69 => (Wp.ap (fun s68 : S_Reader => ((Wp.ok ((), s68)) : Wp (Unit × S_Reader))) x69.2).bind fun x70 => Wp.ok ((x69.1, x70.1), x70.2)).bind fun x71 => (m_Reader_blk 5) x71.2 x71.1.1).bind fun x72 =>
 (Wp.req (((x72.2).1.1.1.1.2).1 = q29) ((Wp.ok (())).bind fun x74 => (m_Cursor_finishS (((x72.2).1.1.1.1.2).2) ).bind fun y73 => Wp.ok (y73.1, (rdP_cursor (x72.2) ((((x72.2).1.1.1.1.2).1, y73.2)))))).bind fun x75 =>
 ((m_Box_init bb aa z55.1 x63.1 x72.1)).bind fun x76 => Wp.ok (.ret x76)
def rdT1 (q29 : Addr) (bb aa : Int) (s30 : S_ReaderM) : Wp (Fl Empty Empty V_Box) :=
 ((Wp.ok ([] : (List (Str × Int))))).bind fun x31 =>
  Wp.seq (Wp.whileS ((x31), (s30)) (vT q29) (vF q29)) (rdT2 q29 bb aa)
theorem read_eq (p_text : Str) (p_uses : Int) : m_read_any p_text p_uses = Wp.out (
 (m_Cursor_initS p_text).bind fun s1 =>
 ((((Wp.ok (([("buttons" : Str)] : (List Str)), s1))).bind fun x3 => (Wp.ap (fun s2 : S_Cursor => ((Wp.ok ((), s2)) : Wp (Unit × S_Cursor))) x3.2).bind fun x4 => Wp.ok ((x3.1, x4.1), x4.2)).bind fun x5 => m_Cursor_wordS x5.2 x5.1.1).bind fun x6 =>
 ((((Wp.ok ((1 : Int), x6.2))).bind fun x11 => (Wp.ap (fun s7 : S_Cursor => ((((Wp.ok ((4 : Int), s7))).bind fun x9 => (Wp.ap (fun s8 : S_Cursor => ((Wp.ok ((), s8)) : Wp (Unit × S_Cursor))) x9.2).bind fun x10 => Wp.ok ((x9.1, x10.1), x10.2)) : Wp ((Int × Unit) × S_Cursor))) x11.2).bind fun x12 => Wp.ok ((x11.1, x12.1), x12.2)).bind fun x13 => m_Cursor_numberS x13.2 x13.1.1 x13.1.2.1).bind fun x14 =>
 ((((Wp.ok (([("answers" : Str)] : (List Str)), x14.2))).bind fun x16 => (Wp.ap (fun s15 : S_Cursor => ((Wp.ok ((), s15)) : Wp (Unit × S_Cursor))) x16.2).bind fun x17 => Wp.ok ((x16.1, x17.1), x17.2)).bind fun x18 => m_Cursor_wordS x18.2 x18.1.1).bind fun x19 =>
 ((((Wp.ok ((1 : Int), x19.2))).bind fun x24 => (Wp.ap (fun s20 : S_Cursor => ((((Wp.ok ((4 : Int), s20))).bind fun x22 => (Wp.ap (fun s21 : S_Cursor => ((Wp.ok ((), s21)) : Wp (Unit × S_Cursor))) x22.2).bind fun x23 => Wp.ok ((x22.1, x23.1), x23.2)) : Wp ((Int × Unit) × S_Cursor))) x24.2).bind fun x25 => Wp.ok ((x24.1, x25.1), x25.2)).bind fun x26 => m_Cursor_numberS x26.2 x26.1.1 x26.1.2.1).bind fun x27 =>
 ((Wp.ok (p_uses, ()))).bind fun x28 => Wp.allA fun q29 => (m_Reader_init (x27.2) q29 x28.1).bind fun s30 => rdT1 q29 x14.1 x27.1 s30) := rfl
section
variable {q : Addr} {ws : List Str} {p k : Nat} {sc : Sc} {vs : List (Str × Int)} {rest r : List Str} {v : Str} {n : Int}
theorem at_last1 {α : Type} {xs : List α} {v : α} : atI (xs ++ [v]) (-1) = some v := by
  unfold atI ixN
  have e1 : ((xs ++ [v]).length : Int) = (xs.length : Int) + 1 := by simp
  rw [if_neg (by decide), e1, if_pos (by omega), show (-1 + ((xs.length : Int) + 1)).toNat = xs.length by omega]
  show (xs ++ [v])[xs.length]? = _
  simp
theorem vT_ok (h : Pt ws p rest) : vT q (vs, rdq q ws p sc) = .ok (decide (rest.head? = some ("var" : Str)) && decide (((vs.length : Nat) : Int) < 4), (vs, rdq q ws p sc)) := by
  have hn := run_next h
  unfold vT
  clear h
  walk_at "ev"
  cases decide (rest.head? = some ("var" : Str)) with
  | true => walk_at "ev"
  | false => walk_at "ev"
theorem vF_ok (h1 : m_Cursor_new_nameS (cu ws (p + 1)) sc.names = .ok (v, cu ws (p + 2))) (hl : sc.names.length < 16777215) (h2 : m_Cursor_numberS (cu ws (p + 2)) 1 12 = .ok (n, cu ws (p + 3))) (hv : vs.length < 16777215) : vF q (vs, rdq q ws p sc) = .ok (.nx (vs ++ [(v, n)], rdq q ws (p + 3) ⟨sc.names ++ [v], sc.extra, sc.draws, sc.uses⟩)) := by
  have h3 : Wp.get (atI (sc.names ++ [v]) (-1)) = .ok v := by
    rw [at_last1]; rfl
  unfold vF
  simp only [up1]
  walk_at "ev"
  try simp only [up1]
  walk_at "ev"
theorem vF_no1 (h1 : m_Cursor_new_nameS (cu ws (p + 1)) sc.names = .raise (Bad k)) : vF q (vs, rdq q ws p sc) = .raise (Bad k) := by
  unfold vF
  simp only [up1]
  walk_at "ev"
  try simp only [up1]
  walk_at "ev"
theorem vF_no2 (h1 : m_Cursor_new_nameS (cu ws (p + 1)) sc.names = .ok (v, cu ws (p + 2))) (hl : sc.names.length < 16777215) (h2 : m_Cursor_numberS (cu ws (p + 2)) 1 12 = .raise (Bad k)) : vF q (vs, rdq q ws p sc) = .raise (Bad k) := by
  have h3 : Wp.get (atI (sc.names ++ [v]) (-1)) = .ok v := by
    rw [at_last1]; rfl
  unfold vF
  simp only [up1]
  walk_at "ev"
  try simp only [up1]
  walk_at "ev"
end
end Lw
set_option exponentiation.threshold 20000
local macro_rules | `(tactic| walk_at "wp") => `(tactic| try simp only [L2.My.Wp.ok_bind, L2.My.Wp.bind_ok, L2.My.Wp.bind_assoc, L2.My.Wp.req_bind, L2.My.Wp.bind_out, L2.My.Wp.ret_out, L2.My.Wp.raise_bind, L2.My.Wp.raise_out, L2.My.Wp.req_out, L2.My.Wp.bind_seq, L2.My.Wp.ok_seq, L2.My.Wp.ret_seq, L2.My.Wp.req_seq, L2.My.Wp.bind_up, L2.My.Wp.ret_up, L2.My.Wp.brk_up, L2.My.Wp.cnt_up, L2.My.Wp.req_up, L2.My.Wp.raise_up, L2.My.Wp.nox_ok, L2.My.Wp.nox_bind, L2.My.Wp.nox_req, L2.My.Wp.nox_get, L2.My.Wp.nox_nox, L2.My.Wp.ap, Lw.mkQ_self])
namespace Lw
open PySem PySem.Spec PyProof.Rows L2 L2.My
local macro_rules | `(tactic| walk_at "ev") => `(tactic| try simp only [L2.My.Wp.ok_bind, L2.My.Wp.bind_ok, L2.My.Wp.bind_assoc, L2.My.Wp.req_bind, L2.My.Wp.bind_out, L2.My.Wp.ret_out, L2.My.Wp.raise_bind, L2.My.Wp.raise_out, L2.My.Wp.req_out, L2.My.Wp.bind_seq, L2.My.Wp.ok_seq, L2.My.Wp.ret_seq, L2.My.Wp.req_seq, L2.My.Wp.bind_up, L2.My.Wp.ret_up, L2.My.Wp.brk_up, L2.My.Wp.cnt_up, L2.My.Wp.req_up, L2.My.Wp.raise_up, L2.My.Wp.ap, Lw.mkQ_self, Lw.getS, Lw.Wp_raise_seq, Lw.Wp_req_t, List.isEmpty_nil, List.isEmpty_cons, Lw.rdP_cursor, Lw.rdP_names, Lw.rdP_left, Lw.rdP_uses, Lw.rdP_extra, Option.isNone_none, Option.isNone_some, Option.isSome_none, Option.isSome_some, if_true, if_false, Bool.false_eq_true, Bool.not_true, Bool.not_false, decide_true, decide_false, Bool.false_xor, Bool.true_xor, Bool.xor_false, Bool.xor_true, Bool.and_true, Bool.true_and, Bool.and_false, Bool.false_and, Bool.or_true, Bool.true_or, Bool.or_false, Bool.false_or, List.head?_cons, List.head?_nil, not_true, not_false_eq_true, true_and, and_true, false_and, and_false, *])
section
variable {q : Addr} {ws : List Str} {p p2 p3 k : Nat} {sc sc2 sc3 : Sc} {vs : List (Str × Int)} {bb aa : Int} {b b2 : List Dt}
theorem t2_no1 (h1 : m_Cursor_wordS (cu ws p) ["start"] = .raise (Bad k)) : Wp.out (rdT2 q bb aa (vs, rdq q ws p sc)) = .raise (Bad k) := by
  unfold rdT2
  walk_at "ev"
  try simp only [up1]
  walk_at "ev"
theorem t2_no2 (h1 : m_Cursor_wordS (cu ws p) ["start"] = .ok (("start" : Str), cu ws (p + 1))) (h2 : m_Reader_blk 5 (rdq q ws (p + 1) sc) 4 = .raise (Bad k)) : Wp.out (rdT2 q bb aa (vs, rdq q ws p sc)) = .raise (Bad k) := by
  unfold rdT2
  walk_at "ev"
  try simp only [up1]
  walk_at "ev"
theorem t2_no3 (h1 : m_Cursor_wordS (cu ws p) ["start"] = .ok (("start" : Str), cu ws (p + 1))) (h2 : m_Reader_blk 5 (rdq q ws (p + 1) sc) 4 = .ok (b, rdq q ws p2 sc2)) (h3 : m_Cursor_wordS (cu ws p2) ["press"] = .raise (Bad k)) : Wp.out (rdT2 q bb aa (vs, rdq q ws p sc)) = .raise (Bad k) := by
  unfold rdT2
  walk_at "ev"
  try simp only [up1]
  walk_at "ev"
theorem t2_no4 (h1 : m_Cursor_wordS (cu ws p) ["start"] = .ok (("start" : Str), cu ws (p + 1))) (h2 : m_Reader_blk 5 (rdq q ws (p + 1) sc) 4 = .ok (b, rdq q ws p2 sc2)) (h3 : m_Cursor_wordS (cu ws p2) ["press"] = .ok (("press" : Str), cu ws (p2 + 1))) (h4 : m_Reader_blk 5 (rdq q ws (p2 + 1) ⟨sc2.names, ["press"], sc2.draws, sc2.uses⟩) 4 = .raise (Bad k)) : Wp.out (rdT2 q bb aa (vs, rdq q ws p sc)) = .raise (Bad k) := by
  unfold rdT2
  walk_at "ev"
  try simp only [up1]
  walk_at "ev"
theorem t2_no5 (h1 : m_Cursor_wordS (cu ws p) ["start"] = .ok (("start" : Str), cu ws (p + 1))) (h2 : m_Reader_blk 5 (rdq q ws (p + 1) sc) 4 = .ok (b, rdq q ws p2 sc2)) (h3 : m_Cursor_wordS (cu ws p2) ["press"] = .ok (("press" : Str), cu ws (p2 + 1))) (h4 : m_Reader_blk 5 (rdq q ws (p2 + 1) ⟨sc2.names, ["press"], sc2.draws, sc2.uses⟩) 4 = .ok (b2, rdq q ws p3 sc3)) (h5 : m_Cursor_finishS (cu ws p3) = .raise (Bad k)) : Wp.out (rdT2 q bb aa (vs, rdq q ws p sc)) = .raise (Bad k) := by
  unfold rdT2
  walk_at "ev"
  try simp only [up1]
  walk_at "ev"
theorem t2_ok (h1 : m_Cursor_wordS (cu ws p) ["start"] = .ok (("start" : Str), cu ws (p + 1))) (h2 : m_Reader_blk 5 (rdq q ws (p + 1) sc) 4 = .ok (b, rdq q ws p2 sc2)) (h3 : m_Cursor_wordS (cu ws p2) ["press"] = .ok (("press" : Str), cu ws (p2 + 1))) (h4 : m_Reader_blk 5 (rdq q ws (p2 + 1) ⟨sc2.names, ["press"], sc2.draws, sc2.uses⟩) 4 = .ok (b2, rdq q ws p3 sc3)) (h5 : m_Cursor_finishS (cu ws p3) = .ok ((), cu ws p3)) : Wp.out (rdT2 q bb aa (vs, rdq q ws p sc)) = .ok ((((((), bb), aa), vs), b), b2) := by
  have h6 : m_Box_init bb aa vs b b2 = .ok ((((((), bb), aa), vs), b), b2) := by
    unfold m_Box_init
    rfl
  unfold rdT2
  walk_at "ev"
  try simp only [up1]
  walk_at "ev"
end
theorem word_case {ws : List Str} {p : Nat} {r : List Str} (h : Pt ws p r) (v : Str) : (∃ r', r = v :: r' ∧ m_Cursor_wordS (cu ws p) [v] = .ok (v, cu ws (p + 1)) ∧ ∀ K sc, go (.word v :: K) sc r p = go K sc r' (p + 1)) ∨ (m_Cursor_wordS (cu ws p) [v] = .raise (Bad p) ∧ (∀ K sc, go (.word v :: K) sc r p = some p) ∧ ∀ w r', r = w :: r' → w ≠ v) := by
  cases r with
  | nil => exact .inr ⟨word_no h (fun _ _ z => by cases z), fun K sc => go_nil rfl, fun _ _ z => by cases z⟩
  | cons w r' =>
    by_cases hv : w = v
    · subst hv
      exact .inl ⟨r', rfl, word_ok h (by simp), fun K sc => go_step (by show (if w = w then _ else _) = _; rw [if_pos rfl])⟩
    · exact .inr ⟨word_no h (fun w' r z => by injection z with z1 z2; rw [← z1]; simpa using hv), fun K sc => go_bad (by show (if w = v then _ else _) = _; rw [if_neg hv]), fun w' r z => by injection z with z1 z2; rw [← z1]; exact hv⟩
def VarW (us : List (Str × Int)) (W : List Str) : Prop := W = us.flatMap (fun x => [("var" : Str), x.1, Str.ofString (toString x.2)]) ∧ ∀ x ∈ us, 1 ≤ x.2 ∧ x.2 ≤ 12
theorem vars_ok {q : Addr} {ws : List Str} (hl : ws.length < 16777215) : ∀ (N : Nat) (vs : List (Str × Int)) (p : Nat) (rest : List Str) (sc : Sc), 4 ≤ N + vs.length → vs.length ≤ 4 → sc.names.length = vs.length → Pt ws p rest →
  (∃ us W rest' sc', rest = W ++ rest' ∧ (Wp.whileS (vs, rdq q ws p sc) (vT q) (vF q) : Wp (Fl VSt Empty V_Box)) = .ok (.nx (vs ++ us, rdq q ws (p + W.length) sc')) ∧ sc'.extra = sc.extra ∧ VarW us W ∧ (∀ w r, rest' = w :: r → ¬ (w = ("var" : Str) ∧ sc'.names.length < 4)) ∧ ∀ K, go (.head :: K) sc rest p = go (.head :: K) sc' rest' (p + W.length))
  ∨ (∃ k, (Wp.whileS (vs, rdq q ws p sc) (vT q) (vF q) : Wp (Fl VSt Empty V_Box)) = .raise (Bad k) ∧ ∀ K, go (.head :: K) sc rest p = some k) := by
  intro N
  have stop : ∀ (vs : List (Str × Int)) (p : Nat) (rest : List Str) (sc : Sc), sc.names.length = vs.length → Pt ws p rest → (∀ w r, rest = w :: r → ¬ (w = ("var" : Str) ∧ sc.names.length < 4)) →
    (∃ us W rest' sc', rest = W ++ rest' ∧ (Wp.whileS (vs, rdq q ws p sc) (vT q) (vF q) : Wp (Fl VSt Empty V_Box)) = .ok (.nx (vs ++ us, rdq q ws (p + W.length) sc')) ∧ sc'.extra = sc.extra ∧ VarW us W ∧ (∀ w r, rest' = w :: r → ¬ (w = ("var" : Str) ∧ sc'.names.length < 4)) ∧ ∀ K, go (.head :: K) sc rest p = go (.head :: K) sc' rest' (p + W.length)) := by
    intro vs p rest sc hn hp hs
    refine ⟨[], [], rest, sc, rfl, ?_, rfl, ⟨rfl, fun _ h => by cases h⟩, hs, fun K => rfl⟩
    have ht := vT_ok (q := q) (vs := vs) (sc := sc) hp
    have hb : (decide (rest.head? = some ("var" : Str)) && decide (((vs.length : Nat) : Int) < 4)) = false := by
      refine bf fun z => ?_
      have z1 := of_decide_eq_true z.1
      have z2 := of_decide_eq_true z.2
      cases rest with
      | nil => cases z1
      | cons w r =>
        injection z1 with z1
        exact hs w r rfl ⟨z1, by omega⟩
    rw [hb] at ht
    rw [whileS_end ht, List.append_nil]
    rfl
  induction N with
  | zero =>
    intro vs p rest sc h4 h4' hn hp
    exact .inl (stop vs p rest sc hn hp fun w r _ z => by omega)
  | succ N ih =>
    intro vs p rest sc h4 h4' hn hp
    by_cases hs : ∀ w r, rest = w :: r → ¬ (w = ("var" : Str) ∧ sc.names.length < 4)
    · exact .inl (stop vs p rest sc hn hp hs)
    · obtain ⟨w, r, hr, rfl, h3⟩ : ∃ w r, rest = w :: r ∧ w = ("var" : Str) ∧ sc.names.length < 4 := Classical.byContradiction fun z => hs fun w r e c => z ⟨w, r, e, c.1, c.2⟩
      subst hr
      have ht := vT_ok (q := q) (vs := vs) (sc := sc) hp
      rw [show (decide ((("var" : Str) :: r).head? = some ("var" : Str)) && decide (((vs.length : Nat) : Int) < 4)) = true by
        rw [Bool.and_eq_true]
        exact ⟨decide_eq_true rfl, decide_eq_true (by omega)⟩] at ht
      have h0 : ∀ K, go (.head :: K) sc (("var" : Str) :: r) p = go (.new :: .num 1 12 :: .head :: K) sc r (p + 1) := fun K => by
        refine go_step ?_
        show (if ("var" : Str) = ("var" : Str) ∧ sc.names.length < 4 then _ else _) = _
        rw [if_pos ⟨rfl, h3⟩]
      have hx := hp.nx
      by_cases hw : ∀ w r', r = w :: r' → ¬ (nm w = true ∧ w ∉ sc.names)
      · refine .inr ⟨_, whileS_no ht (vF_no1 (new_no hx hw)), fun K => ?_⟩
        rw [h0]
        cases r with
        | nil => exact go_nil rfl
        | cons w r' =>
          refine go_bad ?_
          show (if nm w = true ∧ w ∉ sc.names then _ else _) = _
          rw [if_neg (hw w r' rfl)]
      · obtain ⟨v, r', hr, hv1, hv2⟩ : ∃ w r', r = w :: r' ∧ nm w = true ∧ w ∉ sc.names := Classical.byContradiction fun z => hw fun w r e c => z ⟨w, r, e, c.1, c.2⟩
        subst hr
        have e1 := new_ok hx hv1 hv2
        have h1 : ∀ K, go (.head :: K) sc (("var" : Str) :: v :: r') p = go (.num 1 12 :: .head :: K) ⟨sc.names ++ [v], sc.extra, sc.draws, sc.uses⟩ r' (p + 2) := fun K => by
          rw [h0]
          refine go_step ?_
          show (if nm v = true ∧ v ∉ sc.names then _ else _) = _
          rw [if_pos ⟨hv1, hv2⟩]
        rcases num_case hx.nx 1 12 with ⟨w2, r2, m, hr2, hm, hm1, hm2, q2, q4⟩ | ⟨q2, q4⟩
        · subst hr2
          have hx3 := hx.nx.nx
          have go3 := fun K => (h1 K).trans (q4 _ _)
          have wh := whileS_go (L := Empty) ht (vF_ok (q := q) (vs := vs) e1 (by omega) q2 (by omega))
          rcases ih (vs ++ [(v, m)]) (p + 3) r2 ⟨sc.names ++ [v], sc.extra, sc.draws, sc.uses⟩ (by simp; omega) (by simp; omega) (by simp; omega) hx3 with ⟨us, W, r3, sc3, t1, t2, t3, t4, t5, t6⟩ | ⟨k, t2, t6⟩
          · refine .inl ⟨(v, m) :: us, ("var" : Str) :: v :: w2 :: W, r3, sc3, by rw [t1]; simp, ?_, t3, ⟨?_, ?_⟩, t5, fun K => ?_⟩
            · rw [wh, t2, List.append_assoc, show p + (("var" : Str) :: v :: w2 :: W).length = p + 3 + W.length by simp; omega]
              rfl
            · rw [t4.1, List.flatMap_cons, (nb_canon hm).2.2]; rfl
            · intro x hx
              rcases List.mem_cons.mp hx with rfl | hx
              · exact ⟨hm1, hm2⟩
              · exact t4.2 x hx
            · rw [go3 K]
              refine (t6 K).trans ?_
              rw [show p + (("var" : Str) :: v :: w2 :: W).length = p + 3 + W.length by simp; omega]
          · exact .inr ⟨k, wh.trans t2, fun K => (go3 K).trans (t6 K)⟩
        · exact .inr ⟨_, whileS_no ht (vF_no2 e1 (by omega) q2), fun K => by rw [h1, q4]⟩
end Lw
set_option exponentiation.threshold 20000
local macro_rules | `(tactic| walk_at "wp") => `(tactic| try simp only [L2.My.Wp.ok_bind, L2.My.Wp.bind_ok, L2.My.Wp.bind_assoc, L2.My.Wp.req_bind, L2.My.Wp.bind_out, L2.My.Wp.ret_out, L2.My.Wp.raise_bind, L2.My.Wp.raise_out, L2.My.Wp.req_out, L2.My.Wp.bind_seq, L2.My.Wp.ok_seq, L2.My.Wp.ret_seq, L2.My.Wp.req_seq, L2.My.Wp.bind_up, L2.My.Wp.ret_up, L2.My.Wp.brk_up, L2.My.Wp.cnt_up, L2.My.Wp.req_up, L2.My.Wp.raise_up, L2.My.Wp.nox_ok, L2.My.Wp.nox_bind, L2.My.Wp.nox_req, L2.My.Wp.nox_get, L2.My.Wp.nox_nox, L2.My.Wp.ap, Lw.mkQ_self])
namespace Lw
open PySem PySem.Spec PyProof.Rows L2 L2.My
local macro_rules | `(tactic| walk_at "ev") => `(tactic| try simp only [L2.My.Wp.ok_bind, L2.My.Wp.bind_ok, L2.My.Wp.bind_assoc, L2.My.Wp.req_bind, L2.My.Wp.bind_out, L2.My.Wp.ret_out, L2.My.Wp.raise_bind, L2.My.Wp.raise_out, L2.My.Wp.req_out, L2.My.Wp.bind_seq, L2.My.Wp.ok_seq, L2.My.Wp.ret_seq, L2.My.Wp.req_seq, L2.My.Wp.bind_up, L2.My.Wp.ret_up, L2.My.Wp.brk_up, L2.My.Wp.cnt_up, L2.My.Wp.req_up, L2.My.Wp.raise_up, L2.My.Wp.ap, Lw.mkQ_self, Lw.getS, Lw.Wp_raise_seq, Lw.Wp_req_t, List.isEmpty_nil, List.isEmpty_cons, Lw.rdP_cursor, Lw.rdP_names, Lw.rdP_left, Lw.rdP_uses, Lw.rdP_extra, Option.isNone_none, Option.isNone_some, Option.isSome_none, Option.isSome_some, if_true, if_false, Bool.false_eq_true, Bool.not_true, Bool.not_false, decide_true, decide_false, Bool.false_xor, Bool.true_xor, Bool.xor_false, Bool.xor_true, Bool.and_true, Bool.true_and, Bool.and_false, Bool.false_and, Bool.or_true, Bool.true_or, Bool.or_false, Bool.false_or, List.head?_cons, List.head?_nil, not_true, not_false_eq_true, true_and, and_true, false_and, and_false, *])
theorem for_words {f : (Str × Int) → List Str → Wp (Fl (List Str) (List Str) Str)} {vs : List (Str × Int)} (hf : ∀ x ∈ vs, ∀ z : List Str, z.length + 3 ≤ 16777215 → f x z = .ok (.nx (z ++ [("var" : Str), x.1, Str.ofString (toString x.2)]))) : ∀ z : List Str, z.length + 3 * vs.length ≤ 16777215 → (Wp.for_ vs z f : Wp (Fl (List Str) Empty Str)) = .ok (.nx (z ++ vs.flatMap (fun x => [("var" : Str), x.1, Str.ofString (toString x.2)]))) := by
  induction vs with
  | nil => intro z _; show Wp.ok (Fl.nx z) = _; rw [List.flatMap_nil, List.append_nil]
  | cons x t ih =>
    intro z hz
    rw [List.length_cons] at hz
    show (f x z).bind _ = _
    rw [hf x List.mem_cons_self z (by omega)]
    show Wp.for_ t _ f = _
    rw [ih (fun y hy => hf y (List.mem_cons_of_mem _ hy)) _ (by simp; omega), List.flatMap_cons, List.append_assoc]
theorem vars_len {vs : List (Str × Int)} : (vs.flatMap (fun x => [("var" : Str), x.1, Str.ofString (toString x.2)])).length = 3 * vs.length := by
  induction vs with
  | nil => rfl
  | cons x t ih => rw [List.flatMap_cons, List.length_append, ih, List.length_cons]; simp; omega
theorem box_text_ok {bb aa : Int} {vs : List (Str × Int)} {b b2 : List Dt} {w1 w2 : Str} {V A B ws : List Str} (h1 : nb w1 = some bb) (h2 : nb w2 = some aa) (hv : VarW vs V) (hA : BlW 4 b A) (hB : BlW 4 b2 B)
    (hw : ws = ("buttons" : Str) :: w1 :: ("answers" : Str) :: w2 :: (V ++ ("start" : Str) :: (A ++ ("press" : Str) :: B))) (hs : (ws.map (·.length)).sum + ws.length ≤ 1000000) : m_box_text ((((((), bb), aa), vs), b), b2) = .ok (Str.join " " ws) := by
  have hlen : ws.length ≤ 1000000 := by omega
  have hl := hlen
  rw [hw] at hl
  simp only [List.length_append, List.length_cons] at hl
  obtain ⟨p1, p2, p3⟩ := nb_canon h1
  obtain ⟨r1, r2, r3⟩ := nb_canon h2
  have l1 := small_log p1 p2
  have l2 := small_log r1 r2
  have eA := hA.words (f := 6) (by decide) (by omega)
  have eB := hB.words (f := 6) (by decide) (by omega)
  have hV := hv.1
  have hVl : V.length = 3 * vs.length := by rw [hV, vars_len]
  unfold m_box_text
  clear h1 h2 hA hB
  walk_at "wp"
  rw [Wp.req_true l1]
  walk_at "wp"
  rw [Wp.req_true l2]
  walk_at "wp"
  rw [p3, r3, for_words (f := fun (x12 : Str × Int) (z11 : List Str) => _) (fun x hx z hz => ?_) _ (by simp; omega)]
  · walk_at "wp"
    rw [eA]
    walk_at "wp"
    rw [eB]
    walk_at "wp"
    have e : ([("buttons" : Str), w1, "answers", w2] ++ vs.flatMap (fun x => [("var" : Str), x.1, Str.ofString (toString x.2)]) ++ ("start" : Str) :: (A ++ ("press" : Str) :: (B ++ []))) = ws := by
      rw [hw, hV]; simp
    rw [e, Wp.req_true (by omega)]
    walk_at "wp"
    rw [Wp.req_true (by show _ + _ * (1 : Nat) ≤ _; omega)]
    walk_at "wp"
  · obtain ⟨q1, q2⟩ := hv.2 x hx
    rw [Wp.req_true (small_log (by omega) (by omega))]
    walk_at "wp"
    rw [Wp.req_true (by simpa using hz)]
def boxK : List It := [.word "buttons", .num 1 4, .word "answers", .num 1 4, .head]
def sc0 (uses : Int) : Sc := ⟨[], [], 3, uses⟩
theorem go_head {K : List It} {sc : Sc} {r : List Str} {p : Nat} : go (.head :: K) sc ("start" :: r) p = go (.blk 4 .start :: K) sc r (p + 1) := by
  refine go_step ?_
  show (if ("start" : Str) = ("var" : Str) ∧ sc.names.length < 4 then some (.new :: .num 1 12 :: .head :: K, sc) else if ("start" : Str) = ("start" : Str) then some (.blk 4 .start :: K, sc) else none) = _
  rw [if_neg (by rintro ⟨z, _⟩; revert z; decide +kernel), if_pos rfl]
theorem go_press {room : Int} {K : List It} {sc : Sc} {r : List Str} {p : Nat} : go (.blk room .start :: K) sc ("press" :: r) p = go (.blk 4 .top :: K) ⟨sc.names, ["press"], sc.draws, sc.uses⟩ r (p + 1) := by
  refine go_step ?_
  show nxB room .start K sc "press" = _
  unfold nxB
  rw [if_neg (by rintro ⟨z, _⟩; revert z; decide +kernel), if_neg (by rintro ⟨z, _⟩; revert z; decide +kernel), if_pos ⟨rfl, rfl⟩]
theorem read_pre {text : Str} {ws r0 : List Str} (uses : Int) (hi : m_Cursor_initS text = .ok (cu ws 0)) (hp : Pt ws 0 r0) :
    (∃ bb aa w1 w2 r, r0 = ("buttons" : Str) :: w1 :: ("answers" : Str) :: w2 :: r ∧ nb w1 = some bb ∧ nb w2 = some aa ∧ Pt ws 4 r ∧ m_read_any text uses = (Wp.allA fun q => Wp.out (rdT1 q bb aa (rdq q ws 4 (sc0 uses)))) ∧ ∀ sc, go boxK sc r0 0 = go [.head] sc r 4)
    ∨ (∃ k, m_read_any text uses = .raise (Bad k) ∧ ∀ sc, go boxK sc r0 0 = some k) := by
  rw [read_eq, hi, Wp.ok_bind]
  unfold boxK
  rcases word_case hp "buttons" with ⟨r1, hr1, e1, g1⟩ | ⟨e1, g1, _⟩
  rotate_left
  · refine .inr ⟨_, ?_, g1 _⟩
    walk_at "ev"
  have hp1 := (hr1 ▸ hp : Pt ws 0 (("buttons" : Str) :: r1)).nx
  rcases num_case hp1 1 4 with ⟨w1, r2, bb, hr2, hb, _, _, e2, g2⟩ | ⟨e2, g2⟩
  rotate_left
  · refine .inr ⟨_, ?_, fun sc => (g1 _ _).trans (g2 _ _)⟩
    walk_at "ev"
  have hp2 := (hr2 ▸ hp1).nx
  rcases word_case hp2 "answers" with ⟨r3, hr3, e3, g3⟩ | ⟨e3, g3, _⟩
  rotate_left
  · refine .inr ⟨_, ?_, fun sc => ((g1 _ _).trans (g2 _ _)).trans (g3 _ _)⟩
    walk_at "ev"
  have hp3 := (hr3 ▸ hp2).nx
  rcases num_case hp3 1 4 with ⟨w2, r4, aa, hr4, ha, _, _, e4, g4⟩ | ⟨e4, g4⟩
  rotate_left
  · refine .inr ⟨_, ?_, fun sc => (((g1 _ _).trans (g2 _ _)).trans (g3 _ _)).trans (g4 _ _)⟩
    walk_at "ev"
  have hp4 := (hr4 ▸ hp3).nx
  refine .inl ⟨bb, aa, w1, w2, r4, by rw [hr1, hr2, hr3, hr4], hb, ha, hp4, ?_, fun sc => (((g1 _ _).trans (g2 _ _)).trans (g3 _ _)).trans (g4 _ _)⟩
  have hq : ∀ q, m_Reader_init (cu ws (0 + 1 + 1 + 1 + 1)) q uses = .ok (rdq q ws (0 + 1 + 1 + 1 + 1) (sc0 uses)) := fun q => by
    unfold m_Reader_init
    walk_at "wp"
    rfl
  have ho : ∀ (f : Addr → Wp (Fl Empty Empty V_Box)), Wp.out (Wp.allA f) = Wp.allA fun q => Wp.out (f q) := fun f => rfl
  clear hr1 hr2 hr3 hr4 hp hp1 hp2 hp3 hp4
  walk_at "ev"
def BxW (bx : V_Box) (r0 : List Str) : Prop := ∃ bb aa w1 w2 us b b2 V A B, bx = ((((((), bb), aa), us), b), b2) ∧ nb w1 = some bb ∧ nb w2 = some aa ∧ VarW us V ∧ BlW 4 b A ∧ BlW 4 b2 B ∧ r0 = ("buttons" : Str) :: w1 :: ("answers" : Str) :: w2 :: (V ++ ("start" : Str) :: (A ++ ("press" : Str) :: B))
theorem read_q {ws r r0 : List Str} {uses bb aa : Int} {w1 w2 : Str} (q : Addr) (hr0 : r0 = ("buttons" : Str) :: w1 :: ("answers" : Str) :: w2 :: r) (hb : nb w1 = some bb) (ha : nb w2 = some aa) (hp : Pt ws 4 r) (hl : ws.length < 16777215) :
    (go [.head] (sc0 uses) r 4 = none ∧ ∃ bx, Wp.out (rdT1 q bb aa (rdq q ws 4 (sc0 uses))) = .ok bx ∧ BxW bx r0) ∨ (∃ k, go [.head] (sc0 uses) r 4 = some k ∧ Wp.out (rdT1 q bb aa (rdq q ws 4 (sc0 uses))) = .raise (Bad k)) := by
  have T1 : rdT1 q bb aa (rdq q ws 4 (sc0 uses)) = Wp.seq (Wp.whileS ([], rdq q ws 4 (sc0 uses)) (vT q) (vF q)) (rdT2 q bb aa) := by
    unfold rdT1
    rw [Wp.ok_bind]
  rw [T1]
  rcases vars_ok (q := q) hl 4 [] 4 r (sc0 uses) (by decide) (by decide) rfl hp with ⟨us, V, r1, sc1, hr1, ew, hx1, hv, hs1, g1⟩ | ⟨k, ew, g1⟩
  rotate_left
  · exact .inr ⟨k, g1 _, by rw [ew, Wp_raise_seq, Wp.raise_out]⟩
  rw [ew, Wp.ok_seq, List.nil_append, g1]
  have hp1 := (hr1 ▸ hp).app
  rcases word_case hp1 "start" with ⟨r2, hr2, e2, g2⟩ | ⟨e2, g2, n2⟩
  rotate_left
  · refine .inr ⟨_, ?_, t2_no1 e2⟩
    cases r1 with
    | nil => exact go_nil rfl
    | cons w r1 =>
      have c1 := hs1 w r1 rfl
      have c2 := n2 w r1 rfl
      refine go_bad ?_
      show (if w = ("var" : Str) ∧ sc1.names.length < 4 then some ([It.new, It.num 1 12, It.head], sc1) else if w = ("start" : Str) then some ([It.blk 4 .start], sc1) else none) = _
      rw [if_neg c1, if_neg c2]
  subst hr2
  have hp2 := hp1.nx
  rw [go_head]
  rcases rdB_all 5 4 (by decide) ws q _ r2 sc1 hl hp2 with ⟨b, A, r3, sc3, hr3, e3, hn3, hx3, hA, hs3, _, g3⟩ | ⟨k, e3, g3⟩
  rotate_left
  · exact .inr ⟨k, g3 _ _, t2_no2 e2 e3⟩
  have hp3 := (hr3 ▸ hp2).app
  have gs : go (.blk 4 .start :: []) sc1 r2 (4 + V.length + 1) = go (.blk 4 .start :: []) sc3 r3 (4 + V.length + 1 + A.length) := by
    refine (g3 [] .start).trans ?_
    cases b <;> rfl
  rw [gs]
  rcases word_case hp3 "press" with ⟨r4, hr4, e4, g4⟩ | ⟨e4, g4, n4⟩
  rotate_left
  · refine .inr ⟨_, ?_, t2_no3 e2 e3 e4⟩
    cases r3 with
    | nil => exact go_nil rfl
    | cons w r3 =>
      refine go_stop (hs3 w r3 rfl) (by rintro ⟨_, z⟩; cases z) (by rintro ⟨_, z, _⟩; cases z) ?_
      exact fun z => n4 w r3 rfl z.1
  subst hr4
  have hp4 := hp3.nx
  rw [go_press]
  rcases rdB_all 5 4 (by decide) ws q _ r4 ⟨sc3.names, ["press"], sc3.draws, sc3.uses⟩ hl hp4 with ⟨b2, B, r5, sc5, hr5, e5, hn5, hx5, hB, hs5, _, g5⟩ | ⟨k, e5, g5⟩
  rotate_left
  · exact .inr ⟨k, g5 _ _, t2_no4 e2 e3 e4 e5⟩
  have hp5 := (hr5 ▸ hp4).app
  have gt : go (.blk 4 .top :: []) ⟨sc3.names, ["press"], sc3.draws, sc3.uses⟩ r4 (4 + V.length + 1 + A.length + 1) = go (.blk 4 .top :: []) sc5 r5 (4 + V.length + 1 + A.length + 1 + B.length) := by
    refine (g5 [] .top).trans ?_
    cases b2 <;> rfl
  rw [gt]
  cases r5 with
  | cons w r5 =>
    exact .inr ⟨_, go_stop (hs5 w r5 rfl) (by rintro ⟨_, z⟩; cases z) (by rintro ⟨_, z, _⟩; cases z) (by rintro ⟨_, z⟩; cases z), t2_no5 e2 e3 e4 e5 (fin_no hp5)⟩
  | nil =>
    refine .inl ⟨rfl, _, t2_ok e2 e3 e4 e5 (fin_ok hp5), bb, aa, w1, w2, us, b, b2, V, A, B, rfl, hb, ha, hv, hA, hB, ?_⟩
    rw [hr0, hr1, hr3, hr5, List.append_nil]
theorem read_ok {text : Str} {ws : List Str} (uses : Int) (hi : m_Cursor_initS text = .ok (cu ws 0)) (hl : ws.length < 16777215) :
    (go boxK (sc0 uses) ws 0 = none ∧ ∃ f, m_read_any text uses = Wp.allA f ∧ ∀ q, ∃ bx, f q = .ok bx ∧ BxW bx ws) ∨ (∃ k, go boxK (sc0 uses) ws 0 = some k ∧ m_read_any text uses = .raise (Bad k)) := by
  rcases read_pre (r0 := ws) uses hi ⟨rfl, Nat.zero_le _⟩ with ⟨bb, aa, w1, w2, r, hr0, hb, ha, hp4, e0, g0⟩ | ⟨k, e0, g0⟩
  rotate_left
  · exact .inr ⟨k, g0 _, e0⟩
  have hq := fun q => read_q (uses := uses) q hr0 hb ha hp4 hl
  rw [g0]
  cases hg : go [.head] (sc0 uses) r 4 with
  | none =>
    refine .inl ⟨rfl, _, e0, fun q => ?_⟩
    rcases hq q with ⟨_, h⟩ | ⟨k, h, _⟩
    · exact h
    · rw [hg] at h; cases h
  | some k =>
    refine .inr ⟨k, rfl, e0.trans (allA_eq fun q => ?_)⟩
    rcases hq q with ⟨h, _⟩ | ⟨k', h, h2⟩
    · rw [hg] at h; cases h
    · rw [hg] at h; injection h with h; rw [h]; exact h2
theorem allA_bind {α β : Type} {f : Addr → Wp α} {g : α → Wp β} {y : Wp β} (h : ∀ q, ∃ x, f q = .ok x ∧ g x = y) : (Wp.allA f).bind g = y := by
  have e : (Wp.allA f).bind g = Wp.allA fun q => (f q).bind g := rfl
  rw [e]
  refine allA_eq fun q => ?_
  obtain ⟨x, h1, h2⟩ := h q
  rw [h1, Wp.ok_bind, h2]
theorem BxW.text {bx : V_Box} {ws : List Str} (h : BxW bx ws) (hs : (ws.map (·.length)).sum + ws.length ≤ 1000000) : m_box_text bx = .ok (Str.join " " ws) := by
  obtain ⟨bb, aa, w1, w2, us, b, b2, V, A, B, rfl, hb, ha, hv, hA, hB, hw⟩ := h
  exact box_text_ok hb ha hv hA hB hw hs
theorem told_ok {text : Str} {ws : List Str} (uses : Int) (hi : m_Cursor_initS text = .ok (cu ws 0)) (hs : (ws.map (·.length)).sum + ws.length ≤ 1000000) :
    (m_read_any text uses).bind m_box_text = match (generalizing := false) go boxK (sc0 uses) ws 0 with | none => .ok (Str.join " " ws) | some k => .raise (Bad k) := by
  rcases read_ok uses hi (by omega) with ⟨hg, f, ef, hf⟩ | ⟨k, hg, e⟩
  · rw [hg, ef]
    refine allA_bind fun q => ?_
    obtain ⟨bx, h1, h2⟩ := hf q
    exact ⟨bx, h1, h2.text hs⟩
  · rw [hg, e, Wp.raise_bind]
end Lw
set_option exponentiation.threshold 20000
local macro_rules | `(tactic| walk_at "wp") => `(tactic| try simp only [L2.My.Wp.ok_bind, L2.My.Wp.bind_ok, L2.My.Wp.bind_assoc, L2.My.Wp.req_bind, L2.My.Wp.bind_out, L2.My.Wp.ret_out, L2.My.Wp.raise_bind, L2.My.Wp.raise_out, L2.My.Wp.req_out, L2.My.Wp.bind_seq, L2.My.Wp.ok_seq, L2.My.Wp.ret_seq, L2.My.Wp.req_seq, L2.My.Wp.bind_up, L2.My.Wp.ret_up, L2.My.Wp.brk_up, L2.My.Wp.cnt_up, L2.My.Wp.req_up, L2.My.Wp.raise_up, L2.My.Wp.nox_ok, L2.My.Wp.nox_bind, L2.My.Wp.nox_req, L2.My.Wp.nox_get, L2.My.Wp.nox_nox, L2.My.Wp.ap, Lw.mkQ_self])
namespace Lw
open PySem PySem.Spec PyProof.Rows L2 L2.My
theorem try_no {α : Type} {cs : List Str} {e : Err} {h : Err → Wp α} (he : e.c ∈ cs) : Wp.try_ cs (.raise e) h = h e := Wp.ext fun _ _ => ⟨fun z => z.2, fun z => ⟨he, z⟩⟩
structure Wds (ws : List Str) : Prop where
  ne : ∃ r, ws = ("buttons" : Str) :: r
  sp : ∀ w ∈ ws, 32 ∉ w.cps.toList
  sm : (ws.map (·.length)).sum + ws.length ≤ 1000000
theorem Wds.init {ws : List Str} (h : Wds ws) : m_Cursor_initS (Str.join " " ws) = .ok (cu ws 0) := by
  obtain ⟨r, hr⟩ := h.ne
  have e1 : Txt.split (Str.join " " ws) " " = ws := split_join (by rw [hr]; simp) h.sp
  have e2 : (Str.join " " ws).length ≠ 0 := by
    rw [hr, ← len_list]
    cases r with
    | nil => decide +kernel
    | cons x t => rw [sp_eq, join_cons2, List.length_append, List.length_cons]; omega
  unfold m_Cursor_initS
  rw [if_pos (decide_eq_true e2)]
  walk_at "wp"
  rw [Wp.req_true (by decide), e1]
  rfl
def usesI (b : Bool) : Int := if b = true then 24 else 0
def tellW (ws : List Str) (u : Bool) : Str ⊕ Int := match go boxK (sc0 (usesI u)) ws 0 with
  | none => .inl (Str.join " " ws)
  | some k => .inr (k : Int)
theorem read_box_eq (t : Str) : m_read_box t = m_read_any t 0 := by
  unfold m_read_box
  walk_at "wp"
theorem read_around_eq (t : Str) : m_read_around t = m_read_any t 24 := by
  unfold m_read_around
  walk_at "wp"
theorem told_run {ws : List Str} (h : Wds ws) (u : Bool) : m_l_told ws u = .ok (tellW ws u) := by
  have hs := h.sm
  have h1 := told_ok (usesI u) h.init hs
  have key : (match (generalizing := false) go boxK (sc0 (usesI u)) ws 0 with | none => Wp.ok (Str.join " " ws) | some k => Wp.raise (Bad k)).bind (fun y => Wp.ok (Sum.inl y : Str ⊕ Int)) = (match (generalizing := false) go boxK (sc0 (usesI u)) ws 0 with | none => Wp.ok (Sum.inl (Str.join " " ws) : Str ⊕ Int) | some k => Wp.raise (Bad k)) := by
    cases go boxK (sc0 (usesI u)) ws 0 with
    | none => rfl
    | some k => rfl
  have fin : ∀ (m : Wp (Str ⊕ Int)), m = (match (generalizing := false) go boxK (sc0 (usesI u)) ws 0 with | none => Wp.ok (Sum.inl (Str.join " " ws) : Str ⊕ Int) | some k => Wp.raise (Bad k)) → Wp.out (Wp.try_ excS (m.bind fun x => Wp.ok (.ret x)) (fun e21 => (((Wp.req ((e21).c = "BadText") (atW e21))).bind fun y22 => Wp.ok (Sum.inr y22 : (Str ⊕ Int))).bind fun x23 => Wp.ok (.ret x23))) = .ok (tellW ws u) := by
    intro m hm
    rw [hm]
    unfold tellW
    cases go boxK (sc0 (usesI u)) ws 0 with
    | none => rfl
    | some k =>
      dsimp only
      rw [Wp.raise_bind, try_no (show ("BadText" : Str) ∈ excS by decide +kernel), Wp.req_true rfl, show atW (Bad k) = .ok (k : Int) from Wp.req_true rfl _]
      rfl
  cases u with
  | true =>
    refine Eq.trans ?_ (fin ((((m_read_any (Str.join " " ws) (usesI _)).bind m_box_text)).bind fun y => Wp.ok (Sum.inl y : Str ⊕ Int)) (by rw [h1]; exact key))
    unfold m_l_told
    rw [if_pos rfl]
    walk_at "wp"
    rw [Wp.req_true (by show _ + _ * (1 : Nat) ≤ _; omega)]
    walk_at "wp"
    rw [read_around_eq]
    rfl
  | false =>
    refine Eq.trans ?_ (fin ((((m_read_any (Str.join " " ws) (usesI _)).bind m_box_text)).bind fun y => Wp.ok (Sum.inl y : Str ⊕ Int)) (by rw [h1]; exact key))
    unfold m_l_told
    rw [if_neg (by decide)]
    walk_at "wp"
    rw [Wp.req_true (by show _ + _ * (1 : Nat) ≤ _; omega)]
    walk_at "wp"
    rw [read_box_eq]
    rfl
end Lw
set_option exponentiation.threshold 20000
local macro_rules | `(tactic| walk_at "wp") => `(tactic| try simp only [L2.My.Wp.ok_bind, L2.My.Wp.bind_ok, L2.My.Wp.bind_assoc, L2.My.Wp.req_bind, L2.My.Wp.bind_out, L2.My.Wp.ret_out, L2.My.Wp.raise_bind, L2.My.Wp.raise_out, L2.My.Wp.req_out, L2.My.Wp.bind_seq, L2.My.Wp.ok_seq, L2.My.Wp.ret_seq, L2.My.Wp.req_seq, L2.My.Wp.bind_up, L2.My.Wp.ret_up, L2.My.Wp.brk_up, L2.My.Wp.cnt_up, L2.My.Wp.req_up, L2.My.Wp.raise_up, L2.My.Wp.nox_ok, L2.My.Wp.nox_bind, L2.My.Wp.nox_req, L2.My.Wp.nox_get, L2.My.Wp.nox_nox, L2.My.Wp.ap, Lw.mkQ_self])
namespace Lw
open PySem PySem.Spec PyProof.Rows L2 L2.My
local macro_rules | `(tactic| walk_at "ev") => `(tactic| try simp only [L2.My.Wp.ok_bind, L2.My.Wp.bind_ok, L2.My.Wp.bind_assoc, L2.My.Wp.req_bind, L2.My.Wp.bind_out, L2.My.Wp.ret_out, L2.My.Wp.raise_bind, L2.My.Wp.raise_out, L2.My.Wp.req_out, L2.My.Wp.bind_seq, L2.My.Wp.ok_seq, L2.My.Wp.ret_seq, L2.My.Wp.req_seq, L2.My.Wp.bind_up, L2.My.Wp.ret_up, L2.My.Wp.brk_up, L2.My.Wp.cnt_up, L2.My.Wp.req_up, L2.My.Wp.raise_up, L2.My.Wp.ap, Lw.mkQ_self, Lw.getS, Lw.Wp_raise_seq, Lw.Wp_req_t, List.isEmpty_nil, List.isEmpty_cons, Lw.rdP_cursor, Lw.rdP_names, Lw.rdP_left, Lw.rdP_uses, Lw.rdP_extra, Option.isNone_none, Option.isNone_some, Option.isSome_none, Option.isSome_some, if_true, if_false, Bool.false_eq_true, Bool.not_true, Bool.not_false, decide_true, decide_false, Bool.false_xor, Bool.true_xor, Bool.xor_false, Bool.xor_true, Bool.and_true, Bool.true_and, Bool.and_false, Bool.false_and, Bool.or_true, Bool.true_or, Bool.or_false, Bool.false_or, List.head?_cons, List.head?_nil, not_true, not_false_eq_true, true_and, and_true, false_and, and_false, *])
def Good (ws : List Str) (due : Option Int) : Prop := Wds ws ∧ (go boxK (sc0 24) ws 0).map (fun k : Nat => (k : Int)) = due ∧ (("use" : Str) ∈ ws ∨ (go boxK (sc0 0) ws 0).map (fun k : Nat => (k : Int)) = due)
def dueI (o : Option Nat) : Option Int := o.map fun k : Nat => (k : Int)
def okW (w : Str) : Bool := !(w.cps.toList.any fun c => c == 32) && decide (w.length ≤ 16)
def chk (ws : List Str) (due : Option Int) : Bool := (match ws with | w :: _ => decide (w = ("buttons" : Str)) | [] => false) && ws.all okW && decide (ws.length ≤ 1000) && decide (dueI (go boxK (sc0 24) ws 0) = due) && (decide (("use" : Str) ∈ ws) || decide (dueI (go boxK (sc0 0) ws 0) = due))
theorem sum_le16 {ws : List Str} (h : ∀ w ∈ ws, w.length ≤ 16) : (ws.map (·.length)).sum ≤ 16 * ws.length := by
  induction ws with
  | nil => decide
  | cons w t ih =>
    rw [List.map_cons, List.sum_cons, List.length_cons]
    have := h w List.mem_cons_self
    have := ih fun x hx => h x (List.mem_cons_of_mem _ hx)
    omega
theorem Wds.of {ws r : List Str} (h1 : ws = ("buttons" : Str) :: r) (h2 : ∀ w ∈ ws, okW w = true) (h3 : ws.length ≤ 1000) : Wds ws := by
  refine ⟨⟨r, h1⟩, fun w hw hc => ?_, ?_⟩
  · have := h2 w hw
    unfold okW at this
    rw [Bool.and_eq_true] at this
    have h4 := this.1
    rw [Bool.not_eq_true'] at h4
    rw [List.any_eq_false] at h4
    exact h4 32 hc rfl
  · have := sum_le16 (ws := ws) fun w hw => by
      have := h2 w hw
      unfold okW at this
      rw [Bool.and_eq_true] at this
      exact of_decide_eq_true this.2
    omega
theorem Good.of {ws : List Str} {due : Option Int} (h : chk ws due = true) : Good ws due := by
  unfold chk at h
  simp only [Bool.and_eq_true] at h
  obtain ⟨⟨⟨⟨h1, h2⟩, h3⟩, h4⟩, h5⟩ := h
  cases ws with
  | nil => cases h1
  | cons w t =>
    have h1 := of_decide_eq_true h1
    refine ⟨Wds.of (r := t) (by rw [h1]) (List.all_eq_true.mp h2) (of_decide_eq_true h3), of_decide_eq_true h4, ?_⟩
    rw [Bool.or_eq_true] at h5
    rcases h5 with h5 | h5
    · exact .inl (of_decide_eq_true h5)
    · exact .inr (of_decide_eq_true h5)
def nW (at_ : Int) (n : Int) : List Str := setL (["buttons", "2", "answers", "2", "var", "x", "9", "start", "draw", "x", "2", "press", "say", "x"] : List Str) at_ (Str.ofString (toString n))
def nDue (a most n : Int) : Option Int := if 0 < n ∧ n ≤ most then none else some a
theorem n_chk : ∀ j : Nat, j < 15 → chk (nW 1 j) (nDue 1 4 j) = true ∧ chk (nW 3 j) (nDue 3 4 j) = true ∧ chk (nW 6 j) (nDue 6 12 j) = true ∧ chk (nW 10 j) (nDue 10 6 j) = true := by decide +kernel
theorem numbers_ok (s : Pool) : (m_l_numbers s).yes fun x => Good x.1.1 x.1.2 := by
  unfold m_l_numbers
  walk_at "wp"
  refine run_draw (by decide) (by decide) fun d s1 h0 h1 => ?_
  dsimp only
  have hd : ∃ a most : Int, Wp.get (atI ([(4 : Int), (4 : Int), (12 : Int), (6 : Int)] : (List Int)) d) = .ok most ∧ Wp.get (atI ([(some (1 : Int)), (some (3 : Int)), (some (6 : Int)), (some (10 : Int))] : (List (Option Int))) d) = .ok (some a) ∧ 0 ≤ a ∧ a < 14 ∧ 4 ≤ most ∧ most ≤ 12 ∧ ∀ j : Nat, j < 15 → chk (nW a j) (nDue a most j) = true := by
    obtain rfl | rfl | rfl | rfl : d = 0 ∨ d = 1 ∨ d = 2 ∨ d = 3 := by omega
    · exact ⟨1, 4, rfl, rfl, by decide, by decide, by decide, by decide, fun j hj => (n_chk j hj).1⟩
    · exact ⟨3, 4, rfl, rfl, by decide, by decide, by decide, by decide, fun j hj => (n_chk j hj).2.1⟩
    · exact ⟨6, 12, rfl, rfl, by decide, by decide, by decide, by decide, fun j hj => (n_chk j hj).2.2.1⟩
    · exact ⟨10, 6, rfl, rfl, by decide, by decide, by decide, by decide, fun j hj => (n_chk j hj).2.2.2⟩
  obtain ⟨a, most, e1, e2, ha0, ha, hm0, hm, hc⟩ := hd
  rw [e1, Wp.ok_bind]
  refine run_draw (by decide) (by decide) fun d2 s2 k0 k1 => ?_
  refine run_draw (by decide) (by decide) fun d3 s3 k2 k3 => ?_
  dsimp only
  obtain ⟨n, hn0, hn1, hn⟩ : ∃ n : Int, 0 ≤ n ∧ n < 15 ∧ (if decide (d3 = 0) = true then (Wp.ok (Fl.nx (0, s3)) : Wp (Fl (Int × Pool) Empty (((List Str) × (Option Int)) × Pool))) else Wp.ok (Fl.nx (most - 1 + d2, s3))) = Wp.ok (Fl.nx (n, s3)) := by
    by_cases c : d3 = 0
    · exact ⟨0, by decide, by decide, by rw [if_pos (decide_eq_true c)]⟩
    · refine ⟨most - 1 + d2, by omega, by omega, by rw [if_neg (by rw [decide_eq_false c]; decide)]⟩
  rw [hn, Wp.ok_seq, e2, Wp.ok_bind]
  obtain ⟨j, rfl⟩ := Int.eq_ofNat_of_zero_le hn0
  have hj := hc j (by omega)
  dsimp only
  rw [Wp.req_true (small_log hn0 (by omega)), getS, Wp.ok_bind, Wp.req_true (by
    obtain ⟨k, rfl⟩ := Int.eq_ofNat_of_zero_le ha0
    revert ha
    clear e2 hc hj hn
    intro ha
    have : k < 14 := by omega
    exact (by decide : ∀ k : Nat, k < 14 → (ixN 14 (k : Int)).isSome = true) k this)]
  have hg := Good.of hj
  unfold nDue at hg
  by_cases c : 0 < (j : Int) ∧ (j : Int) ≤ most
  · rw [if_pos c] at hg
    rw [if_pos (by rw [decide_eq_true c.1, decide_eq_true c.2]; rfl)]
    walk_at "wp"
    exact hg
  · rw [if_neg c] at hg
    rw [if_neg (by
      rw [Bool.and_eq_true]
      exact fun z => c ⟨of_decide_eq_true z.1, of_decide_eq_true z.2⟩)]
    walk_at "wp"
    exact hg
end Lw
set_option exponentiation.threshold 20000
local macro_rules | `(tactic| walk_at "wp") => `(tactic| try simp only [L2.My.Wp.ok_bind, L2.My.Wp.bind_ok, L2.My.Wp.bind_assoc, L2.My.Wp.req_bind, L2.My.Wp.bind_out, L2.My.Wp.ret_out, L2.My.Wp.raise_bind, L2.My.Wp.raise_out, L2.My.Wp.req_out, L2.My.Wp.bind_seq, L2.My.Wp.ok_seq, L2.My.Wp.ret_seq, L2.My.Wp.req_seq, L2.My.Wp.bind_up, L2.My.Wp.ret_up, L2.My.Wp.brk_up, L2.My.Wp.cnt_up, L2.My.Wp.req_up, L2.My.Wp.raise_up, L2.My.Wp.nox_ok, L2.My.Wp.nox_bind, L2.My.Wp.nox_req, L2.My.Wp.nox_get, L2.My.Wp.nox_nox, L2.My.Wp.ap, Lw.mkQ_self])
namespace Lw
open PySem PySem.Spec PyProof.Rows L2 L2.My
local macro_rules | `(tactic| walk_at "ev") => `(tactic| try simp only [L2.My.Wp.ok_bind, L2.My.Wp.bind_ok, L2.My.Wp.bind_assoc, L2.My.Wp.req_bind, L2.My.Wp.bind_out, L2.My.Wp.ret_out, L2.My.Wp.raise_bind, L2.My.Wp.raise_out, L2.My.Wp.req_out, L2.My.Wp.bind_seq, L2.My.Wp.ok_seq, L2.My.Wp.ret_seq, L2.My.Wp.req_seq, L2.My.Wp.bind_up, L2.My.Wp.ret_up, L2.My.Wp.brk_up, L2.My.Wp.cnt_up, L2.My.Wp.req_up, L2.My.Wp.raise_up, L2.My.Wp.ap, Lw.mkQ_self, Lw.getS, Lw.Wp_raise_seq, Lw.Wp_req_t, List.isEmpty_nil, List.isEmpty_cons, Lw.rdP_cursor, Lw.rdP_names, Lw.rdP_left, Lw.rdP_uses, Lw.rdP_extra, Option.isNone_none, Option.isNone_some, Option.isSome_none, Option.isSome_some, if_true, if_false, Bool.false_eq_true, Bool.not_true, Bool.not_false, decide_true, decide_false, Bool.false_xor, Bool.true_xor, Bool.xor_false, Bool.xor_true, Bool.and_true, Bool.true_and, Bool.and_false, Bool.false_and, Bool.or_true, Bool.true_or, Bool.or_false, Bool.false_or, List.head?_cons, List.head?_nil, not_true, not_false_eq_true, true_and, and_true, false_and, and_false, *])
theorem cat_ok {α : Type} {xs ys : List α} (h : xs.length + ys.length ≤ 16777215) : catW xs ys = .ok (xs ++ ys) := Wp.req_true h _
theorem rep_ok {α : Type} {xs : List α} {k : Int} (h0 : 0 ≤ k) (h1 : k ≤ 1000) (h : xs.length ≤ 1000) : repW xs k = .ok (repL xs k) := Wp.req_true ⟨by omega, by omega, Nat.le_trans (Nat.mul_le_mul h (show k.toNat ≤ 1000 by omega)) (by decide)⟩ _
abbrev W8 : List Str := ["buttons", "2", "answers", "2", "var", "x", "9", "start"]
def cS (x : Int) : Str := (chAt ("abcdefg" : Str) x).getD ""
theorem cS_ok {x : Int} (h0 : 0 ≤ x) (h1 : x < 7) : Wp.get (chAt ("abcdefg" : Str) x) = .ok (cS x) := by
  obtain ⟨k, rfl⟩ := Int.eq_ofNat_of_zero_le h0
  unfold cS
  have h := (by decide +kernel : ∀ k : Nat, k < 7 → (chAt ("abcdefg" : Str) (k : Int)).isSome = true) k (by omega)
  cases e : chAt ("abcdefg" : Str) (k : Int) with
  | none => rw [e] at h; cases h
  | some c => rfl
def vW (c : Nat) : List Str := (rngI 0 c).foldl (fun z x => z ++ [("var" : Str), cS x, "9"]) (["buttons", "2", "answers", "2"] : List Str) ++ ([("start" : Str), "press"] : List Str)
def ifD (c : Nat) (m : Nat) (k : Int) : Option Int := if c > m then some k else none
theorem v_chk : ∀ j : Nat, j < 7 → chk (vW j) (ifD j 4 16) = true := by decide +kernel
def iW (b : Bool) (c : Nat) : List Str := W8 ++ repL (if b then ([("if" : Str), ("x" : Str)] : List Str) else ([("if" : Str), ("x" : Str), ("set" : Str), ("x" : Str), ("1" : Str), ("else" : Str)] : List Str)) c ++ ([("set" : Str), ("x" : Str), ("2" : Str)] : List Str) ++ repL ([("end" : Str)] : List Str) c ++ ([("press" : Str)] : List Str)
theorem i_chk : ∀ j : Nat, j < 7 → chk (iW true j) (ifD j 4 16) = true ∧ chk (iW false j) (ifD j 4 32) = true := by decide +kernel
def eW (b : Bool) (c : Nat) : List Str := if b then W8 ++ ([("press" : Str), ("say" : Str)] : List Str) ++ repL ([("mod" : Str), ("7" : Str)] : List Str) c ++ ([("1" : Str)] : List Str) else W8 ++ ([("press" : Str), ("say" : Str)] : List Str) ++ repL ([("mod" : Str)] : List Str) c ++ repL ([("1" : Str)] : List Str) ((c : Int) + 1)
theorem e_chk : ∀ j : Nat, j < 7 → chk (eW true j) (ifD j 4 18) = true ∧ chk (eW false j) (ifD j 4 14) = true := by decide +kernel
def aW (c : Nat) : List Str := setL W8 5 (cutS ("abcdefghij" : Str) none (some (c : Int))) ++ ([("press" : Str)] : List Str)
theorem a_chk : ∀ j : Nat, j < 11 → 0 < j → chk (aW j) (ifD j 8 5) = true ∧ (cutS ("abcdefghij" : Str) none (some (j : Int))).length = j := by decide +kernel
end Lw
set_option exponentiation.threshold 20000
local macro_rules | `(tactic| walk_at "wp") => `(tactic| try simp only [L2.My.Wp.ok_bind, L2.My.Wp.bind_ok, L2.My.Wp.bind_assoc, L2.My.Wp.req_bind, L2.My.Wp.bind_out, L2.My.Wp.ret_out, L2.My.Wp.raise_bind, L2.My.Wp.raise_out, L2.My.Wp.req_out, L2.My.Wp.bind_seq, L2.My.Wp.ok_seq, L2.My.Wp.ret_seq, L2.My.Wp.req_seq, L2.My.Wp.bind_up, L2.My.Wp.ret_up, L2.My.Wp.brk_up, L2.My.Wp.cnt_up, L2.My.Wp.req_up, L2.My.Wp.raise_up, L2.My.Wp.nox_ok, L2.My.Wp.nox_bind, L2.My.Wp.nox_req, L2.My.Wp.nox_get, L2.My.Wp.nox_nox, L2.My.Wp.ap, Lw.mkQ_self])
namespace Lw
open PySem PySem.Spec PyProof.Rows L2 L2.My
local macro_rules | `(tactic| walk_at "ev") => `(tactic| try simp only [L2.My.Wp.ok_bind, L2.My.Wp.bind_ok, L2.My.Wp.bind_assoc, L2.My.Wp.req_bind, L2.My.Wp.bind_out, L2.My.Wp.ret_out, L2.My.Wp.raise_bind, L2.My.Wp.raise_out, L2.My.Wp.req_out, L2.My.Wp.bind_seq, L2.My.Wp.ok_seq, L2.My.Wp.ret_seq, L2.My.Wp.req_seq, L2.My.Wp.bind_up, L2.My.Wp.ret_up, L2.My.Wp.brk_up, L2.My.Wp.cnt_up, L2.My.Wp.req_up, L2.My.Wp.raise_up, L2.My.Wp.ap, Lw.mkQ_self, Lw.getS, Lw.Wp_raise_seq, Lw.Wp_req_t, List.isEmpty_nil, List.isEmpty_cons, Lw.rdP_cursor, Lw.rdP_names, Lw.rdP_left, Lw.rdP_uses, Lw.rdP_extra, Option.isNone_none, Option.isNone_some, Option.isSome_none, Option.isSome_some, if_true, if_false, Bool.false_eq_true, Bool.not_true, Bool.not_false, decide_true, decide_false, Bool.false_xor, Bool.true_xor, Bool.xor_false, Bool.xor_true, Bool.and_true, Bool.true_and, Bool.and_false, Bool.false_and, Bool.or_true, Bool.true_or, Bool.or_false, Bool.false_or, List.head?_cons, List.head?_nil, not_true, not_false_eq_true, true_and, and_true, false_and, and_false, *])
abbrev exP (b : Bool) : List Str := if b then [("press" : Str)] else []
structure Core (core : List Str) (f : Nat → Int × Int) (most : Nat) (uses : Int) : Prop where
  ok : ∀ k, k < most → ∀ (room : Int) (kd : Kd) (K : List It) (b : Bool) (tail : List Str) (p : Nat), go (.blk room kd :: K) ⟨[("x" : Str)], exP b, (f k).1, (f k).2⟩ (core ++ tail) p = go (.blk room kd.norm :: K) ⟨[("x" : Str)], exP b, (f (k + 1)).1, (f (k + 1)).2⟩ tail (p + 3)
  bad : ∀ (room : Int) (kd : Kd) (K : List It) (b : Bool) (tail : List Str) (p : Nat), kd.closes = true ∨ kd = .start ∨ kd = .top → go (.blk room kd :: K) ⟨[("x" : Str)], exP b, (f most).1, (f most).2⟩ (core ++ tail) p = some p
  len : core.length = 3
  w : ∀ x ∈ core, okW x = true
  pre : ∀ tail, go boxK (sc0 uses) (W8 ++ tail) 0 = go [.blk 4 .start] ⟨[("x" : Str)], exP false, (f 0).1, (f 0).2⟩ tail 8
theorem one_x {K : List It} {ex tail : List Str} {d u : Int} {p : Nat} : go (.one :: K) ⟨[("x" : Str)], ex, d, u⟩ (("x" : Str) :: tail) p = go K ⟨[("x" : Str)], ex, d, u⟩ tail (p + 1) := by
  refine go_step ?_
  show (if ("x" : Str) ∈ [("x" : Str)] then some (K, Sc.mk [("x" : Str)] ex d u) else none) = _
  rw [if_pos (by simp)]
theorem num_2 {K : List It} {sc : Sc} {tail : List Str} {p : Nat} : go (.num 1 6 :: K) sc (("2" : Str) :: tail) p = go K sc tail (p + 1) := by
  refine go_step ?_
  show (if inB (nb ("2" : Str)) 1 6 = true then some (K, sc) else none) = _
  rw [if_pos (by decide +kernel)]
theorem val_w {K : List It} {sc : Sc} {ns tail : List Str} {w : Str} {p : Nat} (h1 : w ∉ signW) (h2 : w ∈ ns ∨ (nb w).isSome = true) : go (.val ns 5 :: K) sc (w :: tail) p = go K sc tail (p + 1) := by
  refine go_step ?_
  show (if w ∈ signW ∧ (1 : Int) < 5 then _ else if w ∈ ns ∨ (nb w).isSome = true then some (K, sc) else none) = _
  rw [if_neg fun z => h1 z.1, if_pos h2]
theorem if_x {K : List It} {kd : Kd} {b : Bool} {d u : Int} {tail : List Str} {p : Nat} : go (.blk 4 kd :: K) ⟨[("x" : Str)], exP b, d, u⟩ (("if" : Str) :: ("x" : Str) :: tail) p = go (.blk 3 .thn :: .blk 4 kd.norm :: K) ⟨[("x" : Str)], exP b, d, u⟩ tail (p + 2) := by
  rw [go_stm (stmN_if (by decide))]
  show go (.val ([("x" : Str)] ++ exP b) 5 :: .blk (4 - 1) .thn :: .blk 4 kd.norm :: K) _ _ _ = _
  rw [val_w (by decide +kernel) (.inl (by simp))]
  rfl
theorem stmN_no {room : Int} {sc : Sc} {w : Str} (h1 : w ≠ ("set" : Str)) (h2 : ¬ (w = ("draw" : Str) ∧ sc.draws ≠ 0)) (h3 : ¬ (w = ("use" : Str) ∧ sc.uses ≠ 0)) (h4 : w ≠ ("say" : Str)) (h5 : w ≠ ("if" : Str)) : stmN room sc w = none := by
  unfold stmN
  rw [if_neg fun z => h1 z.1, if_neg fun z => h2 ⟨z.1, z.2.2⟩, if_neg fun z => h3 ⟨z.1, z.2.2⟩, if_neg fun z => h4 z.1, if_neg fun z => h5 z.1]
theorem core_draw (uses : Int) : Core [("draw" : Str), "x", "2"] (fun k => (3 - (k : Int), uses)) 3 uses := by
  refine ⟨fun k hk room kd K b tail p => ?_, fun room kd K b tail p hkd => ?_, rfl, by decide +kernel, fun tail => ?_⟩
  · show go _ _ (("draw" : Str) :: ("x" : Str) :: ("2" : Str) :: tail) p = _
    rw [go_stm (stmN_draw (by simp) (by show 3 - (k : Int) ≠ 0; omega))]
    show go (.one :: .num 1 6 :: .blk room kd.norm :: K) ⟨[("x" : Str)], exP b, 3 - (k : Int) - 1, uses⟩ _ _ = _
    rw [one_x, num_2, show (3 : Int) - (k : Int) - 1 = 3 - ((k + 1 : Nat) : Int) by omega]
  · show go _ _ (("draw" : Str) :: ("x" : Str) :: ("2" : Str) :: tail) p = _
    exact go_stop (stmN_no (by decide +kernel) (fun z => z.2 rfl) (fun z => absurd z.1 (by decide +kernel)) (by decide +kernel) (by decide +kernel)) (fun z => absurd z.1 (by decide +kernel)) (fun z => absurd z.1 (by decide +kernel)) (fun z => absurd z.1 (by decide +kernel))
  · rfl
theorem core_use : Core [("use" : Str), "x", "1"] (fun k => (3, 24 - (k : Int))) 24 24 := by
  refine ⟨fun k hk room kd K b tail p => ?_, fun room kd K b tail p hkd => ?_, rfl, by decide +kernel, fun tail => ?_⟩
  · show go _ _ (("use" : Str) :: ("x" : Str) :: ("1" : Str) :: tail) p = _
    rw [go_stm (stmN_use (by simp) (by show 24 - (k : Int) ≠ 0; omega))]
    show go (.one :: .val ([("x" : Str)] ++ exP b) 5 :: .blk room kd.norm :: K) ⟨[("x" : Str)], exP b, 3, 24 - (k : Int) - 1⟩ _ _ = _
    rw [one_x, val_w (by decide +kernel) (.inr (by decide +kernel)), show (24 : Int) - (k : Int) - 1 = 24 - ((k + 1 : Nat) : Int) by omega]
  · show go _ _ (("use" : Str) :: ("x" : Str) :: ("1" : Str) :: tail) p = _
    exact go_stop (stmN_no (by decide +kernel) (fun z => absurd z.1 (by decide +kernel)) (fun z => z.2 rfl) (by decide +kernel) (by decide +kernel)) (fun z => absurd z.1 (by decide +kernel)) (fun z => absurd z.1 (by decide +kernel)) (fun z => absurd z.1 (by decide +kernel))
  · rfl
end Lw
set_option exponentiation.threshold 20000
local macro_rules | `(tactic| walk_at "wp") => `(tactic| try simp only [L2.My.Wp.ok_bind, L2.My.Wp.bind_ok, L2.My.Wp.bind_assoc, L2.My.Wp.req_bind, L2.My.Wp.bind_out, L2.My.Wp.ret_out, L2.My.Wp.raise_bind, L2.My.Wp.raise_out, L2.My.Wp.req_out, L2.My.Wp.bind_seq, L2.My.Wp.ok_seq, L2.My.Wp.ret_seq, L2.My.Wp.req_seq, L2.My.Wp.bind_up, L2.My.Wp.ret_up, L2.My.Wp.brk_up, L2.My.Wp.cnt_up, L2.My.Wp.req_up, L2.My.Wp.raise_up, L2.My.Wp.nox_ok, L2.My.Wp.nox_bind, L2.My.Wp.nox_req, L2.My.Wp.nox_get, L2.My.Wp.nox_nox, L2.My.Wp.ap, Lw.mkQ_self])
namespace Lw
open PySem PySem.Spec PyProof.Rows L2 L2.My
local macro_rules | `(tactic| walk_at "ev") => `(tactic| try simp only [L2.My.Wp.ok_bind, L2.My.Wp.bind_ok, L2.My.Wp.bind_assoc, L2.My.Wp.req_bind, L2.My.Wp.bind_out, L2.My.Wp.ret_out, L2.My.Wp.raise_bind, L2.My.Wp.raise_out, L2.My.Wp.req_out, L2.My.Wp.bind_seq, L2.My.Wp.ok_seq, L2.My.Wp.ret_seq, L2.My.Wp.req_seq, L2.My.Wp.bind_up, L2.My.Wp.ret_up, L2.My.Wp.brk_up, L2.My.Wp.cnt_up, L2.My.Wp.req_up, L2.My.Wp.raise_up, L2.My.Wp.ap, Lw.mkQ_self, Lw.getS, Lw.Wp_raise_seq, Lw.Wp_req_t, List.isEmpty_nil, List.isEmpty_cons, Lw.rdP_cursor, Lw.rdP_names, Lw.rdP_left, Lw.rdP_uses, Lw.rdP_extra, Option.isNone_none, Option.isNone_some, Option.isSome_none, Option.isSome_some, if_true, if_false, Bool.false_eq_true, Bool.not_true, Bool.not_false, decide_true, decide_false, Bool.false_xor, Bool.true_xor, Bool.xor_false, Bool.xor_true, Bool.and_true, Bool.true_and, Bool.and_false, Bool.false_and, Bool.or_true, Bool.true_or, Bool.or_false, Bool.false_or, List.head?_cons, List.head?_nil, not_true, not_false_eq_true, true_and, and_true, false_and, and_false, *])
def kdP (b : Bool) : Kd := if b then .top else .start
structure JW (core : List Str) (f : Nat → Int × Int) (most : Nat) (uses : Int) (ins k : Nat) (words : List Str) (due : Option Int) : Prop where
  hd : ∃ r, words = ("buttons" : Str) :: r
  wd : ∀ w ∈ words, okW w = true
  ln : words.length ≤ 8 + 7 * k
  lo : k ≤ most → due = none ∧ ∀ tail, go boxK (sc0 uses) (words ++ tail) 0 = go [.blk 4 (kdP (decide (ins < k)))] ⟨[("x" : Str)], exP (decide (ins < k)), (f k).1, (f k).2⟩ tail words.length
  hi : most < k → ∃ m : Nat, due = some (m : Int) ∧ ∀ tail, go boxK (sc0 uses) (words ++ tail) 0 = some m
def w1 (p : Bool) (words : List Str) : List Str := if p then words ++ [("press" : Str)] else words
def w2 (i : Bool) (words : List Str) : List Str := if i then words ++ ([("if" : Str), ("x" : Str)] : List Str) else words
def w4 (i : Bool) (words : List Str) : List Str := if i then words ++ [("end" : Str)] else words
section
variable {core : List Str} {f : Nat → Int × Int} {most ins k : Nat} {uses : Int} {words : List Str} {due : Option Int}
theorem JW.zero (hc : Core core f most uses) : JW core f most uses ins 0 W8 none := by
  refine ⟨⟨_, rfl⟩, by decide +kernel, by decide, fun _ => ⟨rfl, fun tail => ?_⟩, fun h => by omega⟩
  rw [hc.pre, show decide (ins < 0) = false by simp]
  rfl
theorem norm_kdP (b : Bool) : (kdP b).norm = kdP b := by cases b <;> rfl
theorem app_ok {ws vs : List Str} (h1 : ∀ w ∈ ws, okW w = true) (h2 : ∀ w ∈ vs, okW w = true) : ∀ w ∈ ws ++ vs, okW w = true := fun w hw => by
  rcases List.mem_append.mp hw with h | h
  · exact h1 w h
  · exact h2 w h
theorem w1_ok {p : Bool} (h : ∀ w ∈ words, okW w = true) : ∀ w ∈ w1 p words, okW w = true := by
  cases p
  · exact h
  · exact app_ok h (by decide +kernel)
theorem w2_ok {p : Bool} (h : ∀ w ∈ words, okW w = true) : ∀ w ∈ w2 p words, okW w = true := by
  cases p
  · exact h
  · exact app_ok h (by decide +kernel)
theorem w4_ok {p : Bool} (h : ∀ w ∈ words, okW w = true) : ∀ w ∈ w4 p words, okW w = true := by
  cases p
  · exact h
  · exact app_ok h (by decide +kernel)
theorem go_endx {K : List It} {sc : Sc} {r : List Str} {p : Nat} : go (.blk 3 .thn :: K) sc (("end" : Str) :: r) p = go K sc r (p + 1) := go_end rfl
theorem JW.step (hc : Core core f most uses) (h : JW core f most uses ins k words due) (i : Bool) :
    JW core f most uses ins (k + 1) (w4 i (w2 i (w1 (decide (k = ins)) words) ++ core)) (if k = most then some (((w2 i (w1 (decide (k = ins)) words)).length : Nat) : Int) else due) := by
  obtain ⟨⟨r, hr⟩, hwd, hln, hlo, hhi⟩ := h
  have l1 : (w1 (decide (k = ins)) words).length ≤ words.length + 1 := by
    unfold w1
    split
    · rw [List.length_append, List.length_singleton]; omega
    · omega
  have l2 : (w2 i (w1 (decide (k = ins)) words)).length ≤ words.length + 3 := by
    unfold w2
    split
    · rw [List.length_append, show ([("if" : Str), ("x" : Str)] : List Str).length = 2 from rfl]; omega
    · omega
  have l4 : (w4 i (w2 i (w1 (decide (k = ins)) words) ++ core)).length ≤ words.length + 7 := by
    unfold w4
    split
    · rw [List.length_append, List.length_append, hc.len, List.length_singleton]; omega
    · rw [List.length_append, hc.len]; omega
  have pre : ∃ V, w4 i (w2 i (w1 (decide (k = ins)) words) ++ core) = words ++ V := by
    unfold w4 w2 w1
    split <;> split <;> simp
  refine ⟨?_, w4_ok (app_ok (w2_ok (w1_ok hwd)) hc.w), by omega, fun hk => ?_, fun hk => ?_⟩
  · obtain ⟨V, hV⟩ := pre
    exact ⟨r ++ V, by rw [hV, hr]; rfl⟩
  · obtain ⟨h1, h2⟩ := hlo (by omega)
    refine ⟨by rw [if_neg (by omega)]; exact h1, fun tail => ?_⟩
    have g1 : ∀ tail, go boxK (sc0 uses) (w1 (decide (k = ins)) words ++ tail) 0 = go [.blk 4 (kdP (decide (ins < k + 1)))] ⟨[("x" : Str)], exP (decide (ins < k + 1)), (f k).1, (f k).2⟩ tail (w1 (decide (k = ins)) words).length := by
      intro tail
      by_cases c : k = ins
      · rw [decide_eq_true c, decide_eq_true (show ins < k + 1 by omega)]
        show go boxK (sc0 uses) (words ++ [("press" : Str)] ++ tail) 0 = go _ _ tail (words ++ [("press" : Str)]).length
        rw [List.append_assoc, h2, decide_eq_false (show ¬ ins < k by omega)]
        show go [.blk 4 .start] _ (("press" : Str) :: tail) _ = _
        rw [go_press, List.length_append]
        rfl
      · rw [decide_eq_false c, show decide (ins < k + 1) = decide (ins < k) from decide_eq_decide.mpr (by omega)]
        exact h2 tail
    cases i with
    | false =>
      show go boxK (sc0 uses) (w1 (decide (k = ins)) words ++ core ++ tail) 0 = go _ _ tail (w1 (decide (k = ins)) words ++ core).length
      rw [List.append_assoc, g1, hc.ok k (by omega), norm_kdP, List.length_append, hc.len]
    | true =>
      show go boxK (sc0 uses) (w1 (decide (k = ins)) words ++ [("if" : Str), ("x" : Str)] ++ core ++ [("end" : Str)] ++ tail) 0 = go _ _ tail (w1 (decide (k = ins)) words ++ [("if" : Str), ("x" : Str)] ++ core ++ [("end" : Str)]).length
      rw [List.append_assoc, List.append_assoc, List.append_assoc, g1]
      show go _ _ (("if" : Str) :: ("x" : Str) :: (core ++ (("end" : Str) :: tail))) _ = _
      rw [if_x, hc.ok k (by omega)]
      show go (.blk 3 .thn :: _) _ _ _ = _
      rw [go_endx, norm_kdP]
      congr 1
      simp [hc.len]
  · by_cases hm : k = most
    · obtain ⟨h1, h2⟩ := hlo (by omega)
      refine ⟨(w2 i (w1 (decide (k = ins)) words)).length, by rw [if_pos hm], fun tail => ?_⟩
      have g1 : ∀ tail, go boxK (sc0 uses) (w1 (decide (k = ins)) words ++ tail) 0 = go [.blk 4 (kdP (decide (ins < k + 1)))] ⟨[("x" : Str)], exP (decide (ins < k + 1)), (f k).1, (f k).2⟩ tail (w1 (decide (k = ins)) words).length := by
        intro tail
        by_cases c : k = ins
        · rw [decide_eq_true c, decide_eq_true (show ins < k + 1 by omega)]
          show go boxK (sc0 uses) (words ++ [("press" : Str)] ++ tail) 0 = go _ _ tail (words ++ [("press" : Str)]).length
          rw [List.append_assoc, h2, decide_eq_false (show ¬ ins < k by omega)]
          show go [.blk 4 .start] _ (("press" : Str) :: tail) _ = _
          rw [go_press, List.length_append]
          rfl
        · rw [decide_eq_false c, show decide (ins < k + 1) = decide (ins < k) from decide_eq_decide.mpr (by omega)]
          exact h2 tail
      subst hm
      cases i with
      | false =>
        show go boxK (sc0 uses) (w1 (decide (k = ins)) words ++ core ++ tail) 0 = some (w1 (decide (k = ins)) words).length
        rw [List.append_assoc, g1]
        exact hc.bad _ _ _ _ _ _ (by cases decide (ins < k + 1) <;> simp [kdP])
      | true =>
        show go boxK (sc0 uses) (w1 (decide (k = ins)) words ++ [("if" : Str), ("x" : Str)] ++ core ++ [("end" : Str)] ++ tail) 0 = some (w1 (decide (k = ins)) words ++ [("if" : Str), ("x" : Str)]).length
        rw [List.append_assoc, List.append_assoc, List.append_assoc, g1]
        show go _ _ (("if" : Str) :: ("x" : Str) :: (core ++ (("end" : Str) :: tail))) _ = _
        rw [if_x, hc.bad _ _ _ _ _ _ (.inl rfl)]
        simp
    · obtain ⟨m, h1, h2⟩ := hhi (by omega)
      refine ⟨m, by rw [if_neg hm]; exact h1, fun tail => ?_⟩
      obtain ⟨V, hV⟩ := pre
      rw [hV, List.append_assoc, h2]
theorem JW.fin (h : JW core f most uses ins k words due) (hi : ins ≤ k) (hk : k ≤ 100) : Wds (w1 (decide (ins = k)) words) ∧ dueI (go boxK (sc0 uses) (w1 (decide (ins = k)) words) 0) = due := by
  obtain ⟨⟨r, hr⟩, hwd, hln, hlo, hhi⟩ := h
  have l1 : (w1 (decide (ins = k)) words).length ≤ words.length + 1 := by
    unfold w1
    split
    · rw [List.length_append, List.length_singleton]; omega
    · omega
  constructor
  · refine Wds.of (r := if ins = k then r ++ [("press" : Str)] else r) ?_ (w1_ok hwd) (by omega)
    unfold w1
    rw [hr]
    by_cases c : ins = k
    · rw [decide_eq_true c, if_pos rfl, if_pos c]; rfl
    · rw [decide_eq_false c, if_neg (by decide), if_neg c]
  · by_cases hm : k ≤ most
    · obtain ⟨h1, h2⟩ := hlo hm
      rw [h1]
      by_cases c : ins = k
      · rw [decide_eq_true c]
        show dueI (go boxK (sc0 uses) (words ++ [("press" : Str)]) 0) = none
        rw [h2, decide_eq_false (show ¬ ins < k by omega)]
        show dueI (go [.blk 4 .start] _ (("press" : Str) :: []) _) = none
        rw [go_press]
        rfl
      · rw [decide_eq_false c]
        show dueI (go boxK (sc0 uses) words 0) = none
        have h3 := h2 []
        rw [List.append_nil] at h3
        rw [h3, decide_eq_true (show ins < k by omega)]
        rfl
    · obtain ⟨m, h1, h2⟩ := hhi (by omega)
      rw [h1]
      have : ∃ V, w1 (decide (ins = k)) words = words ++ V := by
        unfold w1
        split
        · exact ⟨_, rfl⟩
        · exact ⟨[], (List.append_nil _).symm⟩
      obtain ⟨V, hV⟩ := this
      rw [hV, h2]
      rfl
end
end Lw
set_option exponentiation.threshold 20000
local macro_rules | `(tactic| walk_at "wp") => `(tactic| try simp only [L2.My.Wp.ok_bind, L2.My.Wp.bind_ok, L2.My.Wp.bind_assoc, L2.My.Wp.req_bind, L2.My.Wp.bind_out, L2.My.Wp.ret_out, L2.My.Wp.raise_bind, L2.My.Wp.raise_out, L2.My.Wp.req_out, L2.My.Wp.bind_seq, L2.My.Wp.ok_seq, L2.My.Wp.ret_seq, L2.My.Wp.req_seq, L2.My.Wp.bind_up, L2.My.Wp.ret_up, L2.My.Wp.brk_up, L2.My.Wp.cnt_up, L2.My.Wp.req_up, L2.My.Wp.raise_up, L2.My.Wp.nox_ok, L2.My.Wp.nox_bind, L2.My.Wp.nox_req, L2.My.Wp.nox_get, L2.My.Wp.nox_nox, L2.My.Wp.ap, Lw.mkQ_self])
namespace Lw
open PySem PySem.Spec PyProof.Rows L2 L2.My
local macro_rules | `(tactic| walk_at "ev") => `(tactic| try simp only [L2.My.Wp.ok_bind, L2.My.Wp.bind_ok, L2.My.Wp.bind_assoc, L2.My.Wp.req_bind, L2.My.Wp.bind_out, L2.My.Wp.ret_out, L2.My.Wp.raise_bind, L2.My.Wp.raise_out, L2.My.Wp.req_out, L2.My.Wp.bind_seq, L2.My.Wp.ok_seq, L2.My.Wp.ret_seq, L2.My.Wp.req_seq, L2.My.Wp.bind_up, L2.My.Wp.ret_up, L2.My.Wp.brk_up, L2.My.Wp.cnt_up, L2.My.Wp.req_up, L2.My.Wp.raise_up, L2.My.Wp.ap, Lw.mkQ_self, Lw.getS, Lw.Wp_raise_seq, Lw.Wp_req_t, List.isEmpty_nil, List.isEmpty_cons, Lw.rdP_cursor, Lw.rdP_names, Lw.rdP_left, Lw.rdP_uses, Lw.rdP_extra, Option.isNone_none, Option.isNone_some, Option.isSome_none, Option.isSome_some, if_true, if_false, Bool.false_eq_true, Bool.not_true, Bool.not_false, decide_true, decide_false, Bool.false_xor, Bool.true_xor, Bool.xor_false, Bool.xor_true, Bool.and_true, Bool.true_and, Bool.and_false, Bool.false_and, Bool.or_true, Bool.true_or, Bool.or_false, Bool.false_or, List.head?_cons, List.head?_nil, not_true, not_false_eq_true, true_and, and_true, false_and, and_false, *])
theorem run_up {S L R : Type} {m : Wp (Fl Empty L R)} {A : Fl S L R → Prop} {B : Err → Prop} (h : m.run (fun z => match z with | .nx s => s.elim | .brk l => A (.brk l) | .cnt l => A (.cnt l) | .ret x => A (.ret x)) B) : (Wp.up m : Wp (Fl S L R)).run A B := m.mono (fun z hz => by cases z <;> first | exact hz | (rename_i s; exact s.elim)) (fun _ z => z) h
theorem run_forK {ι S L R T : Type} {f : ι → S → Wp (Fl S S R)} {k : S → Wp (Fl T L R)} {A : Fl T L R → Prop} {B : Err → Prop} (I : List ι → S → Prop) (hs : ∀ x t s, I (x :: t) s → (f x s).run (fun z => match z with | .nx s' => I t s' | .cnt s' => I t s' | .brk _ => False | .ret _ => False) B) (hk : ∀ s, I [] s → (k s).run A B) : ∀ (xs : List ι) (s : S), I xs s → (Wp.seq (Wp.for_ xs s f) k).run A B := by
  intro xs s h
  refine Wp.run_seq (Wp.run_for I (fun x t s hi => (f x s).mono (fun z hz => ?_) (fun _ z => z) (hs x t s hi)) (fun s hi => hk s hi) xs s h)
  cases z with
  | nx s' => exact hz
  | cnt s' => exact hz
  | brk s' => exact hz.elim
  | ret r => exact hz.elim
theorem rng_r {n : Nat} : rngI 0 n = (List.range' 0 n).map fun i : Nat => (i : Int) := by
  unfold rngI
  rw [List.range_eq_range']
  refine List.map_congr_left fun a _ => ?_
  rw [Int.zero_add]
theorem press_ok {k ins : Nat} {z : List Str} {R : Type} (h : z.length < 1000) : (if decide ((k : Int) = (ins : Int)) = true then Wp.req (z.length < 16777215) (Wp.ok (Fl.nx (z ++ [("press" : Str)]))) else Wp.ok (Fl.nx z) : Wp (Fl (List Str) R (((List Str) × (Option Int)) × Pool))) = .ok (.nx (w1 (decide (k = ins)) z)) := by
  unfold w1
  by_cases c : k = ins
  · rw [if_pos (decide_eq_true (by omega)), Wp.req_true (by omega), if_pos (decide_eq_true c)]
  · rw [if_neg (by rw [decide_eq_false (by omega)]; decide), if_neg (by rw [decide_eq_false c]; decide)]
theorem ifd_get {k : Int} {j : Nat} {c : Int} (h : c = 3 + (j : Int)) : Wp.get (atI [none, some k] (if decide ((4 : Int) < c) = true then (1 : Int) else 0)) = .ok (ifD (3 + j) 4 k) := by
  subst h
  unfold ifD
  by_cases c : 4 < 3 + j
  · rw [if_pos (decide_eq_true (by omega)), if_pos c, atK1]; rfl
  · rw [if_neg (by rw [decide_eq_false (by omega)]; decide), if_neg c, atK0]; rfl
theorem v_for {f : Int → List Str → Wp (Fl (List Str) (List Str) (((List Str) × (Option Int)) × Pool))} (c : Nat) (hc : c ≤ 6) (hf : ∀ x : Int, 0 ≤ x → x < 7 → ∀ z : List Str, z.length ≤ 1000 → f x z = .ok (.nx (z ++ [("var" : Str), cS x, "9"]))) : (Wp.for_ (rngI 0 c) (["buttons", "2", "answers", "2"] : List Str) f : Wp (Fl (List Str) Empty _)) = .ok (.nx ((rngI 0 c).foldl (fun z x => z ++ [("var" : Str), cS x, "9"]) (["buttons", "2", "answers", "2"] : List Str))) := by
  refine Wp.for_ok (fun z x => z ++ [("var" : Str), cS x, "9"]) (fun xs z => z.length + 3 * xs.length ≤ 100 ∧ ∀ x ∈ xs, 0 ≤ x ∧ x < 7) (fun x t z hI => ?_) _ _ ⟨?_, fun x hx => ?_⟩
  · obtain ⟨h1, h2⟩ := hI
    rw [List.length_cons] at h1
    have hx := h2 x List.mem_cons_self
    refine ⟨hf x hx.1 hx.2 z (by omega), ?_, fun y hy => h2 y (List.mem_cons_of_mem _ hy)⟩
    rw [List.length_append]
    show z.length + 3 + 3 * t.length ≤ 100
    omega
  · unfold rngI
    rw [List.length_map, List.length_range]
    show 4 + 3 * c ≤ 100
    omega
  · unfold rngI at hx
    obtain ⟨k, hk, rfl⟩ := List.mem_map.mp hx
    have := List.mem_range.mp hk
    omega
theorem many_ok (s : Pool) : (m_l_many s).yes fun x => Good x.1.1 x.1.2 := by
  unfold m_l_many
  walk_at "wp"
  refine run_draw (by decide) (by decide) fun d s1 h0 h1 => ?_
  dsimp only
  by_cases c0 : d = 0
  · rw [if_pos (decide_eq_true c0)]
    walk_at "wp"
    refine run_draw (by decide) (by decide) fun d2 s2 k0 k1 => ?_
    dsimp only
    obtain ⟨j, hj⟩ := Int.eq_ofNat_of_zero_le k0
    subst hj
    have hj : j < 4 := by omega
    rw [Wp.req_true ⟨by omega, by omega⟩, show (3 + (j : Int)).toNat = 3 + j by omega, show cutL ([("buttons" : Str), "2", "answers", "2", "var", "x", "9", "start"] : List Str) none (some 4) = (["buttons", "2", "answers", "2"] : List Str) from rfl]
    rw [v_for (3 + j) (by omega) (fun x hx0 hx1 z hz => by
      rw [cS_ok hx0 hx1, Wp.ok_bind, cat_ok (by show z.length + 3 ≤ _; omega), Wp.ok_bind]), Wp.ok_seq, cat_ok (by
      have := (by decide +kernel : ∀ c : Nat, c < 7 → ((rngI 0 c).foldl (fun z x => z ++ [("var" : Str), cS x, "9"]) (["buttons", "2", "answers", "2"] : List Str)).length < 100) (3 + j) (by omega)
      show _ + 2 ≤ _
      omega), Wp.ok_bind, ifd_get (j := j) rfl]
    walk_at "wp"
    exact Good.of (v_chk (3 + j) (by omega))
  rw [if_neg (by rw [decide_eq_false c0]; decide)]
  by_cases c1 : d < 3
  · rw [if_pos (decide_eq_true c1)]
    have hd : ∃ (core : List Str) (most : Nat), Wp.get (atI [(3 : Int), 24] (d - 1)) = .ok (most : Int) ∧ Wp.get (atI ([([("draw" : Str), ("x" : Str), ("2" : Str)] : (List Str)), ([("use" : Str), ("x" : Str), ("1" : Str)] : (List Str))] : (List (List Str))) (d - 1)) = .ok core ∧ 3 ≤ most ∧ most ≤ 24 ∧ core.length = 3 ∧ (∃ f, Core core f most 24) ∧ (("use" : Str) ∈ core ∨ ∃ f, Core core f most 0) := by
      obtain rfl | rfl : d = 1 ∨ d = 2 := by omega
      · exact ⟨_, 3, rfl, rfl, by decide, by decide, rfl, ⟨_, core_draw 24⟩, .inr ⟨_, core_draw 0⟩⟩
      · exact ⟨_, 24, rfl, rfl, by decide, by decide, rfl, ⟨_, core_use⟩, .inl (by decide +kernel)⟩
    obtain ⟨core, most, e1, e2, hm0, hm1, hcl, ⟨f, hc⟩, hu⟩ := hd
    rw [e1]
    walk_at "wp"
    refine run_draw (by decide) (by decide) fun d2 s2 k0 k1 => ?_
    obtain ⟨j, hj⟩ := Int.eq_ofNat_of_zero_le k0
    subst hj
    have hj : j < 4 := by omega
    have ec : (most : Int) - 1 + (j : Int) = ((most - 1 + j : Nat) : Int) := by omega
    dsimp only
    rw [ec]
    refine run_draw (by omega) (by omega) fun d3 s3 k2 k3 => ?_
    obtain ⟨ins, hi⟩ := Int.eq_ofNat_of_zero_le k2
    subst hi
    dsimp only
    rw [Wp.req_true ⟨by omega, by omega⟩, Int.toNat_natCast]
    have hU : ∀ (k : Nat) (words : List Str) (due : Option Int) (i : Bool), ((("use" : Str) ∈ core ∧ (0 < k → ("use" : Str) ∈ words)) ∨ ∃ f0, Core core f0 most 0 ∧ JW core f0 most 0 ins k words due) → ((("use" : Str) ∈ core ∧ (0 < k + 1 → ("use" : Str) ∈ (w4 i (w2 i (w1 (decide (k = ins)) words) ++ core)))) ∨ ∃ f0, Core core f0 most 0 ∧ JW core f0 most 0 ins (k + 1) (w4 i (w2 i (w1 (decide (k = ins)) words) ++ core)) (if k = most then some (((w2 i (w1 (decide (k = ins)) words)).length : Nat) : Int) else due)) := by
      intro k words due i h
      rcases h with ⟨h1, _⟩ | ⟨f0, h1, h2⟩
      · refine .inl ⟨h1, fun _ => ?_⟩
        unfold w4
        split
        · exact List.mem_append_left _ (List.mem_append_right _ h1)
        · exact List.mem_append_right _ h1
      · exact .inr ⟨f0, h1, h2.step h1 i⟩
    refine Wp.run_out (run_up (run_forK (fun (xs : List Int) (z : List Str × Option Int × Pool) => ∃ k, k + xs.length = most - 1 + j ∧ xs = (List.range' k xs.length).map (fun i : Nat => (i : Int)) ∧ JW core f most 24 ins k z.1 z.2.1 ∧ ((("use" : Str) ∈ core ∧ (0 < k → ("use" : Str) ∈ z.1)) ∨ ∃ f0, Core core f0 most 0 ∧ JW core f0 most 0 ins k z.1 z.2.1)) (fun x t z hI => ?_) (fun z hI => ?_) _ _ ⟨0, ?_, ?_, JW.zero hc, ?_⟩))
    · obtain ⟨k, hk1, hk2, hJ, hV⟩ := hI
      obtain ⟨words, due, s4⟩ := z
      rw [List.length_cons] at hk1 hk2
      rw [List.range'_succ, List.map_cons] at hk2
      injection hk2 with hx ht
      subst hx
      dsimp only at hJ hV ⊢
      have hwl := hJ.ln
      rw [press_ok (by omega), Wp.ok_seq]
      refine run_draw (by decide) (by decide) fun d4 s5 k4 k5 => ?_
      dsimp only
      obtain ⟨i, hi⟩ : ∃ i : Bool, i = decide (d4 = 0) := ⟨_, rfl⟩
      have l1 : (w1 (decide (k = ins)) words).length ≤ words.length + 1 := by
        unfold w1
        split
        · rw [List.length_append, List.length_singleton]; omega
        · omega
      have l2 : (w2 i (w1 (decide (k = ins)) words)).length ≤ words.length + 3 := by
        unfold w2
        split
        · rw [List.length_append, show ([("if" : Str), ("x" : Str)] : List Str).length = 2 from rfl]; omega
        · omega
      have a1 : (if decide (d4 = 0) = true then (catW (w1 (decide (k = ins)) words) [("if" : Str), "x"]).bind fun x64 => Wp.ok (Fl.nx x64) else Wp.ok (Fl.nx (w1 (decide (k = ins)) words)) : Wp (Fl (List Str) ((List Str) × (Option Int) × Pool) (((List Str) × (Option Int)) × Pool))) = .ok (.nx (w2 i (w1 (decide (k = ins)) words))) := by
        rw [← hi]
        cases i with
        | true => rw [if_pos rfl, cat_ok (by show _ + 2 ≤ _; omega)]; rfl
        | false => rw [if_neg (by decide)]; rfl
      rw [a1, Wp.ok_seq]
      have a2 : (if decide ((k : Int) = (most : Int)) = true then Wp.ok (Fl.nx (some (((w2 i (w1 (decide (k = ins)) words)).length : Nat) : Int))) else Wp.ok (Fl.nx due) : Wp (Fl (Option Int) ((List Str) × (Option Int) × Pool) (((List Str) × (Option Int)) × Pool))) = .ok (.nx (if k = most then some (((w2 i (w1 (decide (k = ins)) words)).length : Nat) : Int) else due)) := by
        by_cases c : k = most
        · rw [if_pos (decide_eq_true (by omega)), if_pos c]
        · rw [if_neg (by rw [decide_eq_false (by omega)]; decide), if_neg c]
      rw [a2, Wp.ok_seq, e2, Wp.ok_bind, cat_ok (by omega), Wp.ok_bind]
      have a3 : (if decide (d4 = 0) = true then Wp.req ((w2 i (w1 (decide (k = ins)) words) ++ core).length < 16777215) (Wp.ok (Fl.nx (w2 i (w1 (decide (k = ins)) words) ++ core ++ [("end" : Str)]))) else Wp.ok (Fl.nx (w2 i (w1 (decide (k = ins)) words) ++ core)) : Wp (Fl (List Str) ((List Str) × (Option Int) × Pool) (((List Str) × (Option Int)) × Pool))) = .ok (.nx (w4 i (w2 i (w1 (decide (k = ins)) words) ++ core))) := by
        rw [← hi]
        cases i with
        | true => rw [if_pos rfl, Wp.req_true (by rw [List.length_append]; omega)]; rfl
        | false => rw [if_neg (by decide)]; rfl
      rw [a3, Wp.ok_seq]
      exact ⟨k + 1, by omega, ht, hJ.step hc i, hU k words due i hV⟩
    · obtain ⟨k, hk1, _, hJ, hV⟩ := hI
      obtain ⟨words, due, s4⟩ := z
      rw [List.length_nil] at hk1
      have hkc : k = most - 1 + j := hk1
      subst hkc
      dsimp only at hJ hV ⊢
      have hwl := hJ.ln
      rw [show (if decide ((ins : Int) = ((most - 1 + j : Nat) : Int)) = true then Wp.req (words.length < 16777215) (Wp.ok (Fl.nx (words ++ [("press" : Str)]))) else Wp.ok (Fl.nx words) : Wp (Fl (List Str) Empty (((List Str) × (Option Int)) × Pool))) = .ok (.nx (w1 (decide (ins = most - 1 + j)) words)) from press_ok (k := ins) (ins := most - 1 + j) (by omega), Wp.ok_seq]
      have hf := hJ.fin (by omega) (by omega)
      refine ⟨hf.1, hf.2, ?_⟩
      rcases hV with ⟨_, h2⟩ | ⟨f0, h1, h2⟩
      · refine .inl ?_
        show ("use" : Str) ∈ w1 (decide (ins = most - 1 + j)) words
        unfold w1
        split
        · exact List.mem_append_left _ (h2 (by omega))
        · exact h2 (by omega)
      · exact .inr (h2.fin (by omega) (by omega)).2
    · unfold rngI
      simp
    · rw [rng_r]; simp
    · rcases hu with hu | ⟨f0, hu⟩
      · exact .inl ⟨hu, fun h => absurd h (by decide)⟩
      · exact .inr ⟨f0, hu, JW.zero hu⟩
  rw [if_neg (by rw [decide_eq_false c1]; decide)]
  by_cases c3 : d = 3
  · rw [if_pos (decide_eq_true c3)]
    walk_at "wp"
    refine run_draw (by decide) (by decide) fun d2 s2 k0 k1 => ?_
    refine run_draw (by decide) (by decide) fun d3 s3 k2 k3 => ?_
    dsimp only
    obtain ⟨j, hj⟩ := Int.eq_ofNat_of_zero_le k0
    subst hj
    have hj : j < 4 := by omega
    have hrl : (repL ([("end" : Str)] : List Str) (3 + (j : Int))).length ≤ 100 := by
      rw [repL_one, List.length_replicate]; omega
    have e3 : (3 : Int) + (j : Int) = ((3 + j : Nat) : Int) := by omega
    have hb : ∃ b : Bool, Wp.get (atI ([([("if" : Str), ("x" : Str)] : (List Str)), ([("if" : Str), ("x" : Str), ("set" : Str), ("x" : Str), ("1" : Str), ("else" : Str)] : (List Str))] : (List (List Str))) d3) = .ok (if b then ([("if" : Str), ("x" : Str)] : List Str) else ([("if" : Str), ("x" : Str), ("set" : Str), ("x" : Str), ("1" : Str), ("else" : Str)] : List Str)) ∧ ((if b then ([("if" : Str), ("x" : Str)] : List Str) else ([("if" : Str), ("x" : Str), ("set" : Str), ("x" : Str), ("1" : Str), ("else" : Str)] : List Str)).length : Int) = (if b then 2 else 6) ∧ ((if b then ([("if" : Str), ("x" : Str)] : List Str) else ([("if" : Str), ("x" : Str), ("set" : Str), ("x" : Str), ("1" : Str), ("else" : Str)] : List Str)).length) ≤ 6 ∧ Good (iW b (3 + j)) (ifD (3 + j) 4 (8 + 4 * (if b then 2 else 6))) := by
      obtain rfl | rfl : d3 = 0 ∨ d3 = 1 := by omega
      · exact ⟨true, by rw [atK0]; rfl, rfl, by decide, Good.of (i_chk (3 + j) (by omega)).1⟩
      · exact ⟨false, by rw [atK1]; rfl, rfl, by decide, Good.of (i_chk (3 + j) (by omega)).2⟩
    obtain ⟨b, e1, e2, e4, hg⟩ := hb
    unfold iW at hg
    rw [e1, Wp.ok_bind, e2]
    generalize (if b then ([("if" : Str), ("x" : Str)] : List Str) else ([("if" : Str), ("x" : Str), ("set" : Str), ("x" : Str), ("1" : Str), ("else" : Str)] : List Str)) = inner at hg e4
    have hil : (repL inner (3 + (j : Int))).length ≤ 100 := by
      unfold repL
      rw [List.length_flatten, List.map_replicate, List.sum_replicate_nat]
      have : (3 + (j : Int)).toNat ≤ 6 := by omega
      have := Nat.mul_le_mul this e4
      omega
    rw [ifd_get (j := j) rfl, Wp.ok_bind, rep_ok (by omega) (by omega) (by omega), Wp.ok_bind, cat_ok (by show 8 + _ ≤ _; omega), Wp.ok_bind, cat_ok (by rw [List.length_append]; show 8 + _ + 3 ≤ _; omega), Wp.ok_bind, rep_ok (by omega) (by omega) (by show 1 ≤ 1000; omega), Wp.ok_bind, cat_ok (by rw [List.length_append, List.length_append]; show 8 + _ + 3 + _ ≤ _; omega), Wp.ok_bind, cat_ok (by rw [List.length_append, List.length_append, List.length_append]; show 8 + _ + 3 + _ + 1 ≤ _; omega)]
    walk_at "wp"
    rw [e3]
    exact hg
  rw [if_neg (by rw [decide_eq_false c3]; decide)]
  by_cases c4 : d = 4
  · rw [if_pos (decide_eq_true c4)]
    walk_at "wp"
    refine run_draw (by decide) (by decide) fun d2 s2 k0 k1 => ?_
    rw [cat_ok (by show 8 + 2 ≤ _; omega), Wp.ok_bind]
    refine run_draw (by decide) (by decide) fun d3 s3 k2 k3 => ?_
    dsimp only
    obtain ⟨j, hj⟩ := Int.eq_ofNat_of_zero_le k0
    subst hj
    have hj : j < 4 := by omega
    have e3 : (3 : Int) + (j : Int) = ((3 + j : Nat) : Int) := by omega
    have l1 : (repL ([("mod" : Str), ("7" : Str)] : List Str) (3 + (j : Int))).length ≤ 100 := by
      unfold repL
      rw [List.length_flatten, List.map_replicate, List.sum_replicate_nat]
      show (3 + (j : Int)).toNat * 2 ≤ 100
      omega
    have l2 : (repL ([("mod" : Str)] : List Str) (3 + (j : Int))).length ≤ 100 := by
      rw [repL_one, List.length_replicate]; omega
    have l3 : (repL ([("1" : Str)] : List Str) (3 + (j : Int) + 1)).length ≤ 100 := by
      rw [repL_one, List.length_replicate]; omega
    by_cases c : d3 = 0
    · rw [if_pos (decide_eq_true c), rep_ok (by omega) (by omega) (by show 2 ≤ 1000; omega), Wp.ok_bind, cat_ok (by show 10 + _ ≤ _; omega), Wp.ok_bind, cat_ok (by rw [List.length_append]; show 10 + _ + 1 ≤ _; omega), Wp.ok_bind, ifd_get (j := j) rfl]
      walk_at "wp"
      rw [e3]
      exact Good.of (e_chk (3 + j) (by omega)).1
    · rw [if_neg (by rw [decide_eq_false c]; decide), rep_ok (by omega) (by omega) (by show 1 ≤ 1000; omega), Wp.ok_bind, cat_ok (by show 10 + _ ≤ _; omega), Wp.ok_bind, rep_ok (by omega) (by omega) (by show 1 ≤ 1000; omega), Wp.ok_bind, cat_ok (by rw [List.length_append]; show 10 + _ + _ ≤ _; omega), Wp.ok_bind, ifd_get (j := j) rfl]
      walk_at "wp"
      rw [e3]
      exact Good.of (e_chk (3 + j) (by omega)).2
  rw [if_neg (by rw [decide_eq_false c4]; decide)]
  walk_at "wp"
  refine run_draw (by decide) (by decide) fun d2 s2 k0 k1 => ?_
  dsimp only
  obtain ⟨j, hj⟩ := Int.eq_ofNat_of_zero_le k0
  subst hj
  have hj : j < 4 := by omega
  have e3 : (7 : Int) + (j : Int) = ((7 + j : Nat) : Int) := by omega
  obtain ⟨hc, hl⟩ := a_chk (7 + j) (by omega) (by omega)
  rw [e3, Wp.req_true (by decide), hl, cat_ok (by
    have := (by decide +kernel : ∀ c : Nat, c < 11 → (setL W8 5 (cutS ("abcdefghij" : Str) none (some (c : Int)))).length < 10) (7 + j) (by omega)
    exact Nat.le_trans (Nat.add_le_add_right (Nat.le_of_lt this) 1) (by decide)), Wp.ok_bind]
  have e5 : Wp.get (atI [none, some (5 : Int)] (if decide ((8 : Int) < ((7 + j : Nat) : Int)) = true then (1 : Int) else 0)) = .ok (ifD (7 + j) 8 5) := by
    unfold ifD
    by_cases c : 8 < 7 + j
    · rw [if_pos (decide_eq_true (by omega)), if_pos c, atK1]; rfl
    · rw [if_neg (by rw [decide_eq_false (by omega)]; decide), if_neg c, atK0]; rfl
  rw [e5]
  walk_at "wp"
  exact Good.of hc
end Lw
set_option exponentiation.threshold 20000
local macro_rules | `(tactic| walk_at "wp") => `(tactic| try simp only [L2.My.Wp.ok_bind, L2.My.Wp.bind_ok, L2.My.Wp.bind_assoc, L2.My.Wp.req_bind, L2.My.Wp.bind_out, L2.My.Wp.ret_out, L2.My.Wp.raise_bind, L2.My.Wp.raise_out, L2.My.Wp.req_out, L2.My.Wp.bind_seq, L2.My.Wp.ok_seq, L2.My.Wp.ret_seq, L2.My.Wp.req_seq, L2.My.Wp.bind_up, L2.My.Wp.ret_up, L2.My.Wp.brk_up, L2.My.Wp.cnt_up, L2.My.Wp.req_up, L2.My.Wp.raise_up, L2.My.Wp.nox_ok, L2.My.Wp.nox_bind, L2.My.Wp.nox_req, L2.My.Wp.nox_get, L2.My.Wp.nox_nox, L2.My.Wp.ap, Lw.mkQ_self])
namespace Lw
open PySem PySem.Spec PyProof.Rows L2 L2.My
local macro_rules | `(tactic| walk_at "ev") => `(tactic| try simp only [L2.My.Wp.ok_bind, L2.My.Wp.bind_ok, L2.My.Wp.bind_assoc, L2.My.Wp.req_bind, L2.My.Wp.bind_out, L2.My.Wp.ret_out, L2.My.Wp.raise_bind, L2.My.Wp.raise_out, L2.My.Wp.req_out, L2.My.Wp.bind_seq, L2.My.Wp.ok_seq, L2.My.Wp.ret_seq, L2.My.Wp.req_seq, L2.My.Wp.bind_up, L2.My.Wp.ret_up, L2.My.Wp.brk_up, L2.My.Wp.cnt_up, L2.My.Wp.req_up, L2.My.Wp.raise_up, L2.My.Wp.ap, Lw.mkQ_self, Lw.getS, Lw.Wp_raise_seq, Lw.Wp_req_t, List.isEmpty_nil, List.isEmpty_cons, Lw.rdP_cursor, Lw.rdP_names, Lw.rdP_left, Lw.rdP_uses, Lw.rdP_extra, Option.isNone_none, Option.isNone_some, Option.isSome_none, Option.isSome_some, if_true, if_false, Bool.false_eq_true, Bool.not_true, Bool.not_false, decide_true, decide_false, Bool.false_xor, Bool.true_xor, Bool.xor_false, Bool.xor_true, Bool.and_true, Bool.true_and, Bool.and_false, Bool.false_and, Bool.or_true, Bool.true_or, Bool.or_false, Bool.false_or, List.head?_cons, List.head?_nil, not_true, not_false_eq_true, true_and, and_true, false_and, and_false, *])
def dueW (ws : List Str) (due : Option Int) : Str ⊕ Int := match due with
  | none => .inl (Str.join " " ws)
  | some k => .inr k
theorem tell_due {ws : List Str} {u : Bool} {due : Option Int} (h : (go boxK (sc0 (usesI u)) ws 0).map (fun k : Nat => (k : Int)) = due) : tellW ws u = dueW ws due := by
  unfold tellW dueW
  rw [← h]
  cases go boxK (sc0 (usesI u)) ws 0 with
  | none => rfl
  | some k => rfl
theorem due_ok {ws : List Str} {due : Option Int} (h : Wds ws) : (if due.isNone = true then Wp.req (((ws).map (·.length)).sum + (ws).length * (" " : Str).length ≤ 1000000) (Wp.ok (Fl.nx (Sum.inl (Str.join " " ws) : (Str ⊕ Int)))) else (Wp.get due).bind fun x15 => Wp.ok (.nx (Sum.inr x15 : (Str ⊕ Int))) : Wp (Fl (Str ⊕ Int) Pool Bool)) = .ok (.nx (dueW ws due)) := by
  have hs := h.sm
  cases due with
  | none =>
    refine (if_pos (show (none : Option Int).isNone = true from rfl)).trans ?_
    rw [Wp.req_true (by show _ + _ * (1 : Nat) ≤ _; omega)]
    rfl
  | some k => rfl
def lW (b : Bool) : List Str := if b then ["buttons", "2", "answers", "2", "var", "x", "9", "start", "use", "x", "1", "set", "x", "1", "press"] else ["buttons", "2", "answers", "2", "var", "x", "9", "start", "set", "x", "1", "use", "x", "1", "press"]
theorem l_chk : dueI (go boxK (sc0 24) (lW true) 0) = none ∧ dueI (go boxK (sc0 0) (lW true) 0) = some 8 ∧ dueI (go boxK (sc0 24) (lW false) 0) = none ∧ dueI (go boxK (sc0 0) (lW false) 0) = some 11 ∧ (lW true).all okW = true ∧ (lW false).all okW = true := by decide +kernel
theorem law_ok (ns : List Int) : (m_law ns).yes fun b => b = true := by
  unfold m_law
  walk_at "wp"
  refine run_pool fun s => ?_
  refine Wp.runs (numbers_ok s) fun x1 h1 => ?_
  obtain ⟨⟨ws1, due1⟩, s1⟩ := x1
  refine Wp.runs (many_ok s1) fun x2 h2 => ?_
  obtain ⟨⟨ws2, due2⟩, s2⟩ := x2
  dsimp only at h1 h2 ⊢
  refine Wp.run_out (run_forK (fun (xs : List ((List Str) × (Option Int))) (_ : Pool) => ∀ x ∈ xs, Good x.1 x.2) (fun x t z hI => ?_) (fun z hI => ?_) _ _ (fun x hx => ?_))
  · obtain ⟨ws, due⟩ := x
    have hg : Good ws due := hI (ws, due) List.mem_cons_self
    obtain ⟨hw, h24, h0⟩ := hg
    dsimp only
    rw [due_ok hw, Wp.ok_seq, told_run hw, Wp.ok_bind, tell_due (u := true) h24, Wp.req_true rfl]
    have ht : ∀ y hy, Good y hy → True := fun _ _ _ => trivial
    clear ht
    by_cases hu : ("use" : Str) ∈ ws
    · rw [if_neg (by decide), if_neg (by rw [decide_eq_true hu]; decide)]
      walk_at "wp"
      rw [if_neg (by decide)]
      exact fun x hx => hI x (List.mem_cons_of_mem _ hx)
    · have h0' := h0.resolve_left hu
      rw [if_neg (by decide), if_pos (by rw [decide_eq_false hu]; rfl), told_run hw, Wp.ok_bind, tell_due (u := false) h0', Wp.req_true rfl]
      walk_at "wp"
      rw [if_neg (by decide)]
      exact fun x hx => hI x (List.mem_cons_of_mem _ hx)
  · refine run_draw (by decide) (by decide) fun d s3 k0 k1 => ?_
    have hd : ∃ b : Bool, CMul 3 d ∧ (cutL ([("buttons" : Str), "2", "answers", "2", "var", "x", "9", "start", "set", "x", "1", "press"] : List Str) none (some (8 + 3 * d)) ++ ([("use" : Str), "x", "1"] : List Str)) ++ cutL ([("buttons" : Str), "2", "answers", "2", "var", "x", "9", "start", "set", "x", "1", "press"] : List Str) (some (8 + 3 * d)) none = lW b ∧ (cutL ([("buttons" : Str), "2", "answers", "2", "var", "x", "9", "start", "set", "x", "1", "press"] : List Str) none (some (8 + 3 * d))).length ≤ 100 ∧ (cutL ([("buttons" : Str), "2", "answers", "2", "var", "x", "9", "start", "set", "x", "1", "press"] : List Str) (some (8 + 3 * d)) none).length ≤ 100 ∧ Wds (lW b) ∧ tellW (lW b) true = .inl (Str.join " " (lW b)) ∧ tellW (lW b) false = .inr (8 + 3 * d) := by
      obtain ⟨q1, q2, q3, q4, q5, q6⟩ := l_chk
      obtain rfl | rfl : d = 0 ∨ d = 1 := by omega
      · exact ⟨true, .inl ⟨by decide, by decide⟩, rfl, by decide, by decide, Wds.of (r := (lW true).tail) rfl (List.all_eq_true.mp q5) (by decide), tell_due (u := true) (due := none) q1, tell_due (u := false) (due := some 8) q2⟩
      · exact ⟨false, .inl ⟨by decide, by decide⟩, rfl, by decide, by decide, Wds.of (r := (lW false).tail) rfl (List.all_eq_true.mp q6) (by decide), tell_due (u := true) (due := none) q3, tell_due (u := false) (due := some 11) q4⟩
    obtain ⟨b, hm, e1, l1, l2, hw, t1, t2⟩ := hd
    dsimp only
    have hs := hw.sm
    rw [Wp.req_true hm, cat_ok (by show _ + 3 ≤ _; omega), Wp.ok_bind, cat_ok (by rw [List.length_append]; show _ + 3 + _ ≤ _; omega), Wp.ok_bind, e1, told_run hw, Wp.ok_bind, told_run hw, Wp.ok_bind, Wp.req_true (by show _ + _ * (1 : Nat) ≤ _; omega), t1, t2, Wp.req_true rfl]
    exact rfl
  · rcases List.mem_cons.mp hx with rfl | hx
    · exact h1
    · rcases List.mem_cons.mp hx with rfl | hx
      · exact h2
      · cases hx
end Lw
local macro_rules | `(tactic| walk_at "go1") => `(tactic| first | ((with_reducible refine' L2.My.g_var ?hv ?_); (case hv => exact rfl)) | ((with_reducible refine' L2.My.g_ixL ?hL ?hi ?_); (case hL => first | assumption | exact L2.upd_same); (case hi => exact rfl)) | ((with_reducible refine' L2.My.g_setL ?hL ?hi ?_); (case hL => first | assumption | exact L2.upd_same); (case hi => exact rfl)) | (with_reducible refine L2.My.g_truI ?_) | ((with_reducible refine' Lw.fld_num ?hK (by assumption) (by assumption) (‹Lw.Tx _ _›).k_Ratio (‹Lw.Tx _ _›).n_Ratio_num ?_); (case hK => exact rfl)) | ((with_reducible refine' Lw.fld_den ?hK (by assumption) (by assumption) (‹Lw.Tx _ _›).k_Ratio (‹Lw.Tx _ _›).n_Ratio_den ?_); (case hK => exact rfl)) | (with_reducible refine Lw.ix0 (by assumption) (by assumption) ?_) | (with_reducible refine Lw.ix1 (by assumption) (by assumption) ?_) | ((with_reducible refine' Lw.g_isiTup ?hK ?_ (by assumption)); (case hK => exact rfl)) | ((with_reducible refine' Lw.g_isiLst ?hK ?_ (by assumption)); (case hK => exact rfl)) | ((with_reducible refine' Lw.g_isiBool ?hK ?_ (by assumption)); (case hK => exact rfl)) | ((with_reducible refine' Lw.g_isiInt ?hK ?_ (by assumption)); (case hK => exact rfl)) | ((with_reducible refine' Lw.g_isiStr ?hK ?_ (by assumption)); (case hK => exact rfl)) | ((with_reducible refine' L2.My.g_wipe ?hW ?_); (case hW => exact rfl)) | with_reducible first | refine L2.My.g_sub ?_ | refine L2.My.g_one ?_ | refine L2.My.g_oneS ?_ | refine L2.My.g_truI ?_ | refine L2.My.g_par ?_ | refine L2.My.g_two ?_ | refine L2.My.g_fldS ?_ | refine L2.My.g_turn ?_ | refine L2.My.g_intI ?_ | refine L2.My.g_c ?_ | refine L2.My.g_op ?_ | refine L2.My.g_cons ?_ | refine L2.My.g_nil ?_ | refine L2.My.g_rI0 ?_ | refine L2.My.g_seq ?_ | refine L2.My.g_asg ?_ | refine L2.My.g_name ?_ | refine L2.My.g_ifS ?_ | refine L2.My.g_ret ?_ | refine L2.My.g_drop ?_ | refine L2.My.g_test ?_ | refine L2.My.g_B ?_ | refine L2.My.g_bl ?_ | refine L2.My.g_and ?_ | refine L2.My.g_or ?_ | refine L2.My.g_not ?_ | refine L2.My.g_andV ?_ | refine L2.My.g_orV ?_ | refine L2.My.g_notV ?_ | refine L2.My.g_ifE ?_ | refine L2.My.g_CB ?_ | refine L2.My.g_call ?_ | refine L2.My.g_make ?_ | refine L2.My.g_un ?_ | refine L2.My.g_next ?_ | refine L2.My.g_ift ?_ | refine L2.My.g_iff ?_ | refine Lw.g_fld ?_ | refine L2.My.g_sl ?_ | refine L2.My.g_noPart ?_ | refine L2.My.g_part ?_ | refine L2.My.g_intV ?_ | refine L2.My.g_bm ?_ | refine L2.My.g_bm0 ?_ | refine Lw.g_gCons ?_ | refine Lw.g_gNil ?_ | refine L2.My.g_lc2 ?_ | refine L2.My.g_lc2T (fun _ => ?_) | refine L2.My.g_gA (fun _ _ _ _ _ => ?_) | refine L2.My.g_ttA (fun _ _ _ _ _ => ?_) | refine L2.My.g_teA (fun _ _ _ _ _ => ?_) | refine L2.My.g_tiA (fun _ _ _ _ _ => ?_) | refine L2.My.g_iA ?_ | refine L2.My.g_lc ?_ | refine L2.My.g_chain ?_ | refine L2.My.g_yesT ?_ | refine L2.My.g_lcT ?_ | refine L2.My.g_makeK ?_ | refine L2.My.g_callZ ?_ | refine L2.My.g_methZ ?_ | refine L2.My.g_makeZ ?_ | refine L2.My.g_nF ?_ | refine L2.My.g_nT ?_ | refine L2.My.g_yesR ?_ | refine L2.My.g_nnoR ?_ | refine L2.My.g_noTF ?_ | refine L2.My.g_noFT ?_ | refine L2.My.g_nyTF ?_ | refine L2.My.g_nyFT ?_ | refine L2.My.g_isN ?_ | refine L2.My.g_isI ?_ | refine L2.My.g_isB ?_ | refine L2.My.g_isS ?_ | refine L2.My.g_isR ?_ | refine L2.My.g_noN ?_ | refine L2.My.g_noI ?_ | refine L2.My.g_noB ?_ | refine L2.My.g_noS ?_ | refine L2.My.g_noR ?_ | refine L2.My.g_eqI ?_ | refine L2.My.g_neI ?_ | refine L2.My.g_eqS ?_ | refine L2.My.g_neS ?_ | refine L2.My.g_eqB ?_ | refine L2.My.g_neB ?_ | refine L2.My.g_eqN ?_ | refine L2.My.g_rU ?_ | refine L2.My.g_tupT ?_ | refine L2.My.g_lstT ?_ | refine L2.My.g_meth ?_ | refine L2.My.g_js ?_ | refine L2.My.g_js0 ?_ | refine L2.My.g_fmt ?_ | refine L2.My.g_forR ?_ | refine L2.My.g_iL ?_ | refine L2.My.g_iT ?_ | refine L2.My.g_iRng1 ?_ | refine L2.My.g_iRng2 ?_)
local macro_rules | `(tactic| walk_at "go") => `(tactic| repeat (first | walk_at "go1" | (dsimp only; walk_at "go1")))
namespace Lw
open PySem PySem.Spec PyProof.Rows L2 L2.My
theorem xCatch_BadText {K : PySem.W.Frag} {mg : Str → Option Value} (T : Tx K mg) {c : Str} (h : c ∈ excS) : PySem.W.exmOne K (.ref (He.ga K c)) (.ref (He.ga K "BadText")) = some true := by
  simp only [excS, List.mem_cons, List.not_mem_nil, or_false] at h
  subst h
  exact T.hs_BadText
theorem sc_l_pool : FnScope ["_law_script", "_law_budget"] ["_law_script", "_law_budget"] (defScope Hd.s_l_pool) := ⟨rfl, rfl, rfl, by decide +kernel, rfl, by decide +kernel, by decide +kernel⟩
theorem ok_l_pool {w : World} {K : PySem.W.Frag} {mg : Str → Option Value} {base : Heap} (T : Tx K mg)  {f : Addr} {fd : FuncData} {dvs : List V} (FD : FunD K "_law_pool" "_law_pool" (defArgs Hd.s_l_pool) (defBody Hd.s_l_pool) (defScope Hd.s_l_pool) dvs [] f fd) : FnOk PySem.Challenge.pw_notesttells_k52_bounds_of_boxes w K mg base (L2.CX PySem.Challenge.pw_notesttells_k52_bounds_of_boxes w) 1 f fd ["_law_script", "_law_budget"] (spPool K) := by
  skip
  refine FD.ok sc_l_pool (fun vs H Q E h => ?_) (fun cdv A outer s H vs Q E hr h => ?_)
  · obtain ⟨_, _, _, _, rfl, _⟩ := h
    rfl
  obtain ⟨p, ns, F, b, rfl, e, hs, hl, k⟩ := h
  refine ⟨_, (pss_one (ps_ret (pe_lst (pa_cons (pe_callTy call_lstOf (by rfl) T.m_list (by decide +kernel) (pa_cons (pv 0) pa_nil)) (pa_cons pe_int (pa_cons pe_int (pa_cons pe_int (pa_cons pe_int (pa_cons (pv 1) pa_nil))))))))), ?_⟩
  refine g_start (σ' := [some (.ref p), some (.int b)]) rfl ?_
  walk_at "go"
  refine ⟨p, _, rfl, .inl (hs.ext e), fun l hl1 => ?_⟩
  walk_at "go"
  refine ⟨by show 6 ≤ sizeLine; decide, fun q hq => ?_⟩
  have n1 := Nx.new (M := []) (o := .lst (ns.map V.int)) e hl1
  exact k q _ _ (n1.trans (Nx.open_ n1.fh hq)) ⟨Pool.start_ok hl, ext_none n1.fh hq, l, upd_same, upd_same⟩ (n1.free hq)

theorem sc_l_draw : FnScope ["_law_pool_here", "_law_size", "_law_cell", "_law_value"] ["_law_pool_here", "_law_size"] (defScope Hd.s_l_draw) := ⟨rfl, rfl, rfl, by decide +kernel, rfl, by decide +kernel, by decide +kernel⟩
theorem ok_l_draw {w : World} {K : PySem.W.Frag} {mg : Str → Option Value} {base : Heap} (T : Tx K mg)  {f : Addr} {fd : FuncData} {dvs : List V} (FD : FunD K "_law_draw" "_law_draw" (defArgs Hd.s_l_draw) (defBody Hd.s_l_draw) (defScope Hd.s_l_draw) dvs [] f fd) : FnOk PySem.Challenge.pw_notesttells_k52_bounds_of_boxes w K mg base (L2.CX PySem.Challenge.pw_notesttells_k52_bounds_of_boxes w) 1 f fd ["_law_pool_here", "_law_size"] spDraw := by
  skip
  refine FD.ok sc_l_draw (fun vs H Q E h => ?_) (fun cdv A outer s H vs Q E hr h => ?_)
  · obtain ⟨_, _, _, _, rfl, _⟩ := h
    rfl
  obtain ⟨p, s1, F, z, rfl, e, hP, z0, z1, k⟩ := h
  refine ⟨_, (pss_cons (ps_if (PW.pt (pw_and (pt_cmpR op_le (pe_ix ix_list (pv 0) pe_int (fun _ _ => rfl)) pe_int (nomark _)) (pw_and (pt_cmpR op_le (pe_ix ix_list (pv 0) pe_int (fun _ _ => rfl)) pe_int (nomark _)) (pw_and1 (pt_cmpR op_lt (pe_ix ix_list (pv 0) pe_int (fun _ _ => rfl)) (pe_callB call_lenS (by rfl) T.m_len PySem.boot_len (pa_cons (pe_ix ix_list (pv 0) pe_int (fun _ _ => rfl)) pa_nil)) (nomark _)))))) (pss_cons (ps_set (i := 2) sc_l_draw.nd rfl (by first | exact Or.inl rfl | exact Or.inr rfl) (pe_ix ix_list (pe_ix ix_list (pv 0) pe_int (fun _ _ => rfl)) (pe_ix ix_list (pv 0) pe_int (fun _ _ => rfl)) (fun _ _ => rfl)))
  (pss_cons (ps_asg (pe_op op_add (pe_ix ix_list (pv 0) pe_int (fun _ _ => rfl)) pe_int) (pg_sub (pv 0) pe_int set_list))
  (pss_cons (ps_asg (pe_op op_mod (pe_callTy call_int1 (by rfl) T.m_int (by decide +kernel) (pa_cons (pe_op op_add (pe_op op_mul (pe_ix ix_list (pv 0) pe_int (fun _ _ => rfl)) pe_int) (pv 2)) pa_nil)) pe_int) (pg_sub (pv 0) pe_int set_list))
  (pss_cons (ps_asg pe_int (pg_sub (pv 0) pe_int set_list))
  (pss_one (ps_if (pt_cmpR op_ge (pv 2) (pe_op op_pow pe_int pe_int) (nomark _)) (pss_one (ps_asg (pv 2) (pg_sub (pv 0) pe_int set_list))) pss_nil)))))) pss_nil)
  (pss_cons (ps_if (pt_cmpR op_gt (pe_ix ix_list (pv 0) pe_int (fun _ _ => rfl)) pe_int (nomark _)) (pss_cons (ps_set (i := 3) sc_l_draw.nd rfl (by first | exact Or.inl rfl | exact Or.inr rfl) (pe_op op_mod (pe_callTy call_int1 (by rfl) T.m_int (by decide +kernel) (pa_cons (pe_ix ix_list (pv 0) pe_int (fun _ _ => rfl)) pa_nil)) (pv 1)))
  (pss_cons (ps_asg (pe_op op_fdivW (pe_ix ix_list (pv 0) pe_int (fun _ _ => rfl)) (pv 1)) (pg_sub (pv 0) pe_int set_list))
  (pss_cons (ps_asg pe_int (pg_sub (pv 0) pe_int set_list))
  (pss_one (ps_ret (pv 3)))))) pss_nil)
  (pss_cons (ps_asg (pe_op op_sub (pe_ix ix_list (pv 0) pe_int (fun _ _ => rfl)) pe_int) (pg_sub (pv 0) pe_int set_list))
  (pss_cons (ps_asg (pe_op op_mod (pe_callTy call_int1 (by rfl) T.m_int (by decide +kernel) (pa_cons (pe_op op_add (pe_op op_mul (pe_ix ix_list (pv 0) pe_int (fun _ _ => rfl)) pe_int) pe_int) pa_nil)) pe_int) (pg_sub (pv 0) pe_int set_list))
  (pss_one (ps_ret (pe_op op_mod (pe_op op_mod (pe_callTy call_int1 (by rfl) T.m_int (by decide +kernel) (pa_cons (pe_op op_add (pe_op op_mul (pe_ix ix_list (pv 0) pe_int (fun _ _ => rfl)) pe_int) pe_int) pa_nil)) pe_int) (pv 1)))))))), ?_⟩
  refine g_start (σ' := [some (.ref p), some (.int z), none, none]) rfl ?_
  obtain ⟨ok1, out1, a, hp, ha⟩ := id hP
  have haH := e _ _ ha
  unfold Pool.vs at hp
  refine g_cut (fun σ1 H1 => ∃ c, σ1 = [some (.ref p), some (.int z), c, none] ∧ Nx [p] F H F H1 ∧ PoolAt F H1 p s1.feed) ?_ (fun N tl => ?_)
  · rintro σ1 H1 ⟨c, rfl, n1, h1⟩
    obtain ⟨ok2, out2, a2, hp2, ha2⟩ := id h1
    unfold Pool.vs at hp2
    walk_at "go"
    refine g_dec (fun c1 => ?_) (fun c1 => ?_)
    · walk_at "go"
      refine g_modK z0 ?_
      walk_at "go"
      refine g_fdivK ⟨z0, z1⟩ ?_
      walk_at "go"
      have ed : s1.draw z = (s1.feed.big % z, { s1.feed with big := s1.feed.big / z, cnt := 0 }) := if_pos c1
      rw [ed] at k
      exact k _ ((n1.mut (.inl (by simp)) out1).mut (.inl (by simp)) out1) ⟨ok2, out2, a2, upd_same, ha2⟩
    · walk_at "go"
      refine g_mulK (by decide) ?_
      walk_at "go"
      refine g_modK (show (0 : Int) < 2147483647 by decide) ?_
      walk_at "go"
      refine g_mulK (by decide) ?_
      walk_at "go"
      refine g_modK (show (0 : Int) < 2147483647 by decide) ?_
      walk_at "go"
      refine g_modK z0 ?_
      walk_at "go"
      have ed : s1.draw z = ((((s1.feed.st * 48271 + 12345) % MM) * 69621 + 7919) % MM % z, { s1.feed with cnt := s1.feed.cnt - 1, st := (s1.feed.st * 48271 + 12345) % MM }) := if_neg c1
      rw [ed] at k
      refine k _ ((n1.mut (.inl (by simp)) out1).mut (.inl (by simp)) out1) ⟨?_, out2, a2, upd_same, ha2⟩
      obtain ⟨h1, h2, h3, h4⟩ := ok2
      exact ⟨h1, Int.emod_nonneg _ (by decide), Int.emod_lt_of_pos _ (by decide), h4⟩
  have stay : ¬ (s1.big ≤ 0 ∧ s1.cnt ≤ 0 ∧ s1.at_ < s1.ns.length) → s1.feed = s1 := fun c => if_neg c
  walk_at "go"
  refine g_dec (fun c1 => ?_) (fun c1 => ?_)
  rotate_left
  · walk_at "go"
    exact tl _ _ ⟨none, rfl, Nx.refl e, by rw [stay (fun z => c1 z.1)]; exact hP⟩
  walk_at "go"
  refine g_dec (fun c2 => ?_) (fun c2 => ?_)
  rotate_left
  · walk_at "go"
    exact tl _ _ ⟨none, rfl, Nx.refl e, by rw [stay (fun z => c2 z.2.1)]; exact hP⟩
  walk_at "go"
  refine ⟨_, _, rfl, .inl (SqL.of haH), ?_⟩
  rw [List.length_map]
  walk_at "go"
  refine g_dec (fun c3 => ?_) (fun c3 => ?_)
  rotate_left
  · walk_at "go"
    exact tl _ _ ⟨none, rfl, Nx.refl e, by rw [stay (fun z => c3 z.2.2)]; exact hP⟩
  have cell := pool_cell ok1 c3
  walk_at "go"
  refine ⟨_, _, _, _, rfl, rfl, SqL.of haH, cell, ?_⟩
  walk_at "go"
  refine g_mulK (by decide) ?_
  walk_at "go"
  refine g_modK (show (0 : Int) < 2147483647 by decide) ?_
  walk_at "go"
  refine g_rI ⟨by decide, by decide, by decide⟩ ?_
  walk_at "go"
  have fe : s1.feed = { s1 with at_ := s1.at_ + 1, st := (s1.st * 31 + s1.ns.getD s1.at_.toNat 0) % MM, cnt := 7, big := if s1.ns.getD s1.at_.toNat 0 ≥ 10 ^ 18 then s1.ns.getD s1.at_.toNat 0 else s1.big } := if_pos ⟨c1, c2, c3⟩
  have fo := Pool.feed_ok ok1
  rw [fe] at tl fo
  refine g_dec (fun c4 => ?_) (fun c4 => ?_)
  · have c4' : s1.ns.getD s1.at_.toNat 0 ≥ 10 ^ 18 := c4
    rw [if_pos c4'] at tl fo
    walk_at "go"
    exact tl _ _ ⟨_, rfl, ((((Nx.refl e).mut (.inl (by simp)) out1).mut (.inl (by simp)) out1).mut (.inl (by simp)) out1).mut (.inl (by simp)) out1, fo, out1, a, upd_same, ha⟩
  · have c4' : ¬ s1.ns.getD s1.at_.toNat 0 ≥ 10 ^ 18 := c4
    rw [if_neg c4'] at tl fo
    walk_at "go"
    exact tl _ _ ⟨_, rfl, (((Nx.refl e).mut (.inl (by simp)) out1).mut (.inl (by simp)) out1).mut (.inl (by simp)) out1, fo, out1, a, upd_same, ha⟩

theorem sc_l_numbers : FnScope ["_law_pool_here", "_law_way", "_law_most", "_law_number", "_law_at", "_law_words"] ["_law_pool_here"] (defScope Hd.s_l_numbers) := ⟨rfl, rfl, rfl, by decide +kernel, rfl, by decide +kernel, by decide +kernel⟩
theorem ok_l_numbers {w : World} {K : PySem.W.Frag} {mg : Str → Option Value} {base : Heap} (T : Tx K mg) (H_l_draw : Fnc PySem.Challenge.pw_notesttells_k52_bounds_of_boxes w K mg base 1 "_law_draw" ["_law_pool_here", "_law_size"] spDraw) {f : Addr} {fd : FuncData} {dvs : List V} (FD : FunD K "_law_numbers" "_law_numbers" (defArgs Hd.s_l_numbers) (defBody Hd.s_l_numbers) (defScope Hd.s_l_numbers) dvs [] f fd) : FnOk PySem.Challenge.pw_notesttells_k52_bounds_of_boxes w K mg base (L2.CX PySem.Challenge.pw_notesttells_k52_bounds_of_boxes w) 2 f fd ["_law_pool_here"] (spS K mPool raN (tPair (lL tTx) (tOpt tInt)) (fun s x => m_l_numbers s )) := by
  replace H_l_draw := fnc_imp (sp' := (spS K mPool (raC tInt raN) tInt (fun s x => drawW s x.1))) H_l_draw draw_imp
  refine FD.ok sc_l_numbers (fun vs H Q E h => ?_) (fun cdv A outer s H vs Q E hr h => ?_)
  · obtain ⟨_, _, _, _, _, _, rfl, _, _, hn, _⟩ := h
    cases (show _ = [] from hn)
    rfl
  obtain ⟨F, p0, _, fp, p_pool_here, _, rfl, e, hP, hn, hm⟩ := h
  cases (show _ = [] from hn)
  refine ⟨_, (pss_cons (ps_set (i := 1) sc_l_numbers.nd rfl (by first | exact Or.inl rfl | exact Or.inr rfl) (pe_fn H_l_draw (hr.mono (by decide)) (passes_call (takes_of rfl rfl rfl rfl) (fun _ _ _ _ h => h)) (pa_cons (pv 0) (pa_cons pe_int pa_nil))))
  (pss_cons (ps_set (i := 2) sc_l_numbers.nd rfl (by first | exact Or.inl rfl | exact Or.inr rfl) (pe_ix ix_tup (pe_tup (pa_cons pe_int (pa_cons pe_int (pa_cons pe_int (pa_cons pe_int pa_nil))))) (pv 1) (fun _ _ => rfl)))
  (pss_cons (ps_set (i := 3) sc_l_numbers.nd rfl (by first | exact Or.inl rfl | exact Or.inr rfl) (pe_op op_add (pe_op op_sub (pv 2) pe_int) (pe_fn H_l_draw (hr.mono (by decide)) (passes_call (takes_of rfl rfl rfl rfl) (fun _ _ _ _ h => h)) (pa_cons (pv 0) (pa_cons pe_int pa_nil)))))
  (pss_cons (ps_if (pt_cmpR op_eq (pe_fn H_l_draw (hr.mono (by decide)) (passes_call (takes_of rfl rfl rfl rfl) (fun _ _ _ _ h => h)) (pa_cons (pv 0) (pa_cons pe_int pa_nil))) pe_int (nomark _)) (pss_one (ps_set (i := 3) sc_l_numbers.nd rfl (by first | exact Or.inl rfl | exact Or.inr rfl) pe_int)) pss_nil)
  (pss_cons (ps_set (i := 4) sc_l_numbers.nd rfl (by first | exact Or.inl rfl | exact Or.inr rfl) (pe_ix ix_tup (pe_tup (pa_cons pe_int (pa_cons pe_int (pa_cons pe_int (pa_cons pe_int pa_nil))))) (pv 1) (fun _ _ => rfl)))
  (pss_cons (ps_set (i := 5) sc_l_numbers.nd rfl (by first | exact Or.inl rfl | exact Or.inr rfl) (pe_lst (pa_cons pe_str (pa_cons pe_str (pa_cons pe_str (pa_cons pe_str (pa_cons pe_str (pa_cons pe_str (pa_cons pe_str (pa_cons pe_str (pa_cons pe_str (pa_cons pe_str (pa_cons pe_str (pa_cons pe_str (pa_cons pe_str (pa_cons pe_str pa_nil))))))))))))))))
  (pss_cons (ps_asg (pe_callTy call_str_int (by rfl) T.m_str (by decide +kernel) (pa_cons (pv 3) pa_nil)) (pg_sub (pv 5) (pv 4) set_list))
  (pss_cons (ps_if (pt_chain op_lt op_le pe_int (pv 3) (pv 2)) (pss_one (ps_set (i := 4) sc_l_numbers.nd rfl (by first | exact Or.inl rfl | exact Or.inr rfl) pe_non)) pss_nil)
  (pss_one (ps_ret (pe_tup (pa_cons (pv 5) (pa_cons (pv 4) pa_nil))))))))))))), ?_⟩
  refine g_start (σ' := [some p0, none, none, none, none, none]) rfl ?_
  unfold m_l_numbers at hm
  refine fn_S (Γ := [.mut (mPool.pin p0) (p_pool_here), .any, .any, .any, .any, .any]) (mt := mPool) ?_ e (hol_mut (mt := mPool.pin p0) ⟨rfl, hP⟩ (hol_any (hol_any (hol_any (hol_any (hol_any hol_nil))))) (by simp)) (by simp) hm
  exact (sv_asgS (i := 0) (mt := (mPool.pin p0)) (evs_callS (i := 0) (MtLe.pin _ _) rfl (evsa_consA (i := 0) (mt := (mPool.pin p0)) (evs_ofP (i := 0) (mt := (mPool.pin p0)) rfl evp_int) (fun s1 => (evsa_nil (i := 0) (mt := (mPool.pin p0)) rfl)))) (fun x5 =>
 (sv_asg (evp_opP opv_ixT (evp_tupP (x := ((4 : Int), (4 : Int), (12 : Int), (6 : Int), ())) (disp_lT (allC (allC (allC (allC allN))))) (len_lT (allC (allC (allC (allC allN))))) (eva_consP evp_int (eva_consP evp_int (eva_consP evp_int (eva_consP evp_int eva_nil))))) (evp_var rfl)) (fun x6 =>
 (sv_asgS (i := 0) (mt := (mPool.pin p0)) (evs_opA (i := 0) (mt := (mPool.pin p0)) opv_I0 (evs_ofP (i := 0) (mt := (mPool.pin p0)) rfl (evp_opP opv_I0 (evp_var rfl) evp_int)) (fun s7 => (evs_callS (i := 0) (MtLe.pin _ _) rfl (evsa_consA (i := 0) (mt := (mPool.pin p0)) (evs_ofP (i := 0) (mt := (mPool.pin p0)) rfl evp_int) (fun s8 => (evsa_nil (i := 0) (mt := (mPool.pin p0)) rfl)))))) (fun x15 =>
 (sv_seq (G' := (fun z25 : Int × Pool => [.mut (mPool.pin p0) (z25.2), .frz tInt (x5.1), .frz tInt (x6), .frz tInt (z25.1), .any, .any])) (sv_ifSA (i := 0) (mt := (mPool.pin p0)) (evst_test (i := 0) (mt := (mPool.pin p0)) (evs_opA (i := 0) (mt := (mPool.pin p0)) opv_eqI (evs_callS (i := 0) (MtLe.pin _ _) rfl (evsa_consA (i := 0) (mt := (mPool.pin p0)) (evs_ofP (i := 0) (mt := (mPool.pin p0)) rfl evp_int) (fun s16 => (evsa_nil (i := 0) (mt := (mPool.pin p0)) rfl)))) (fun s20 => (evs_ofP (i := 0) (mt := (mPool.pin p0)) rfl evp_int)))) (fun s24 => (sv_last (sv_asg evp_int (fun x26 =>
 (sv_end (.cons .same (.cons .same (.cons .same (.cons .same (.cons .any (.cons .any .nil))))))))))) (fun s24 => (sv_end (.cons .same (.cons .same (.cons .same (.cons .same (.cons .any (.cons .any .nil))))))))) (fun z25 =>
 (sv_asg (evp_opP opv_ixT (evp_tupP (x := ((some (1 : Int)), (some (3 : Int)), (some (6 : Int)), (some (10 : Int)), ())) (disp_lT (allC (allC (allC (allC allN))))) (len_lT (allC (allC (allC (allC allN))))) (eva_consP (evp_castP (r2 := (tOpt tInt)) (f := some) (fun _ _ _ h => h) evp_int) (eva_consP (evp_castP (r2 := (tOpt tInt)) (f := some) (fun _ _ _ h => h) evp_int) (eva_consP (evp_castP (r2 := (tOpt tInt)) (f := some) (fun _ _ _ h => h) evp_int) (eva_consP (evp_castP (r2 := (tOpt tInt)) (f := some) (fun _ _ _ h => h) evp_int) eva_nil))))) (evp_var rfl)) (fun x28 =>
 (sv_new (evn_lstP (x := (("buttons" : Str), ("2" : Str), ("answers" : Str), ("2" : Str), ("var" : Str), ("x" : Str), ("9" : Str), ("start" : Str), ("draw" : Str), ("x" : Str), ("2" : Str), ("press" : Str), ("say" : Str), ("x" : Str), ())) (allC (allC (allC (allC (allC (allC (allC (allC (allC (allC (allC (allC (allC (allC allN)))))))))))))) (eva_consP (evp_tx ⟨by decide +kernel, by decide +kernel⟩) (eva_consP (evp_tx ⟨by decide +kernel, by decide +kernel⟩) (eva_consP (evp_tx ⟨by decide +kernel, by decide +kernel⟩) (eva_consP (evp_tx ⟨by decide +kernel, by decide +kernel⟩) (eva_consP (evp_tx ⟨by decide +kernel, by decide +kernel⟩) (eva_consP (evp_tx ⟨by decide +kernel, by decide +kernel⟩) (eva_consP (evp_tx ⟨by decide +kernel, by decide +kernel⟩) (eva_consP (evp_tx ⟨by decide +kernel, by decide +kernel⟩) (eva_consP (evp_tx ⟨by decide +kernel, by decide +kernel⟩) (eva_consP (evp_tx ⟨by decide +kernel, by decide +kernel⟩) (eva_consP (evp_tx ⟨by decide +kernel, by decide +kernel⟩) (eva_consP (evp_tx ⟨by decide +kernel, by decide +kernel⟩) (eva_consP (evp_tx ⟨by decide +kernel, by decide +kernel⟩) (eva_consP (evp_tx ⟨by decide +kernel, by decide +kernel⟩) eva_nil))))))))))))))) ⟨_, rfl⟩ (fun x29 =>
 (sv_set rfl (evp_CBP cb_strI (eva_consP (evp_var rfl) eva_nil)) (fun x30 => (evp_someP (evp_var rfl))) (fun x30 x31 =>
 (sv_seq (G' := (fun z32 : (Option Int) => [.mut (mPool.pin p0) (z25.2), .frz tInt (x5.1), .frz tInt (x6), .frz tInt (z25.1), .frz (tOpt tInt) (z32), .mut (mL tTx) ((setL x29 x31 x30))])) (sv_ifP (evt_test (evp_chainP opv_I0B opv_I0B evp_int (evp_var rfl) (evp_var rfl))) (sv_last (sv_asg evp_non (fun x33 =>
 (sv_end (.cons .same (.cons .same (.cons .same (.cons .same (.cons .same (.cons .same .nil)))))))))) (sv_end (.cons .same (.cons .same (.cons .same (.cons .same (.cons .same (.cons .same .nil)))))))) (fun z32 =>
 (sv_weak (.cons .same (.cons .same (.cons .same (.cons .same (.cons .same (.cons .close .nil)))))) (sv_retS (i := 0) (mt := mPool) (evs_ofP (i := 0) (mt := (mPool.pin p0)) rfl (evp_tupP (x := ((setL x29 x31 x30), z32, ())) disp2 len2 (eva_consP (evp_var rfl) (eva_consP (evp_var rfl) eva_nil)))) (by exact Nat.succ_pos _)))))))))))))))))))
theorem sc_l_many : FnScope ["_law_pool_here", "_law_words", "_law_way", "_law_count", "_law_k", "_law_most", "_law_inside", "_law_due", "_law_inner", "_law_name"] ["_law_pool_here"] (defScope Hd.s_l_many) := ⟨rfl, rfl, rfl, by decide +kernel, rfl, by decide +kernel, by decide +kernel⟩
theorem ok_l_many {w : World} {K : PySem.W.Frag} {mg : Str → Option Value} {base : Heap} (T : Tx K mg) (H_l_draw : Fnc PySem.Challenge.pw_notesttells_k52_bounds_of_boxes w K mg base 1 "_law_draw" ["_law_pool_here", "_law_size"] spDraw) {f : Addr} {fd : FuncData} {dvs : List V} (FD : FunD K "_law_many" "_law_many" (defArgs Hd.s_l_many) (defBody Hd.s_l_many) (defScope Hd.s_l_many) dvs [] f fd) : FnOk PySem.Challenge.pw_notesttells_k52_bounds_of_boxes w K mg base (L2.CX PySem.Challenge.pw_notesttells_k52_bounds_of_boxes w) 2 f fd ["_law_pool_here"] (spS K mPool raN (tPair (lL tTx) (tOpt tInt)) (fun s x => m_l_many s )) := by
  replace H_l_draw := fnc_imp (sp' := (spS K mPool (raC tInt raN) tInt (fun s x => drawW s x.1))) H_l_draw draw_imp
  refine FD.ok sc_l_many (fun vs H Q E h => ?_) (fun cdv A outer s H vs Q E hr h => ?_)
  · obtain ⟨_, _, _, _, _, _, rfl, _, _, hn, _⟩ := h
    cases (show _ = [] from hn)
    rfl
  obtain ⟨F, p0, _, fp, p_pool_here, _, rfl, e, hP, hn, hm⟩ := h
  cases (show _ = [] from hn)
  refine ⟨_, (pss_cons (ps_set (i := 1) sc_l_many.nd rfl (by first | exact Or.inl rfl | exact Or.inr rfl) (pe_lst (pa_cons pe_str (pa_cons pe_str (pa_cons pe_str (pa_cons pe_str (pa_cons pe_str (pa_cons pe_str (pa_cons pe_str (pa_cons pe_str pa_nil))))))))))
  (pss_cons (ps_set (i := 2) sc_l_many.nd rfl (by first | exact Or.inl rfl | exact Or.inr rfl) (pe_fn H_l_draw (hr.mono (by decide)) (passes_call (takes_of rfl rfl rfl rfl) (fun _ _ _ _ h => h)) (pa_cons (pv 0) (pa_cons pe_int pa_nil))))
  (pss_cons (ps_if (pt_cmpR op_eq (pv 2) pe_int (nomark _)) (pss_cons (ps_set (i := 3) sc_l_many.nd rfl (by first | exact Or.inl rfl | exact Or.inr rfl) (pe_op op_add pe_int (pe_fn H_l_draw (hr.mono (by decide)) (passes_call (takes_of rfl rfl rfl rfl) (fun _ _ _ _ h => h)) (pa_cons (pv 0) (pa_cons pe_int pa_nil)))))
  (pss_cons (ps_set (i := 1) sc_l_many.nd rfl (by first | exact Or.inl rfl | exact Or.inr rfl) (pe_slice sl_list (pv 1) po_none (po_some pe_int)))
  (pss_cons (ps_for (passes_of rfl) rfl (pi_range1 rfl T.m_range (pa_cons (pv 3) pa_nil)) (pg_name (i := 4) sc_l_many.nd rfl (by first | exact Or.inl rfl | exact Or.inr rfl))
  (pss_one (ps_set (i := 1) sc_l_many.nd rfl (by first | exact Or.inl rfl | exact Or.inr rfl) (pe_op op_cat (pv 1) (pe_lst (pa_cons pe_str (pa_cons (pe_ix ix_str pe_str (pv 4) (fun _ _ => rfl)) (pa_cons pe_str pa_nil))))))))
  (pss_one (ps_ret (pe_tup (pa_cons (pe_op op_cat (pv 1) (pe_lst (pa_cons pe_str (pa_cons pe_str pa_nil)))) (pa_cons (pe_ix ix_tup (pe_tup (pa_cons pe_non (pa_cons (pe_op op_add pe_int pe_int) pa_nil))) (pe_callTy call_int1 (by rfl) T.m_int (by decide +kernel) (pa_cons (pe_cmpR op_gt (pv 3) pe_int (nomark _)) pa_nil)) (fun _ _ => rfl)) pa_nil)))))))) pss_nil)
  (pss_cons (ps_if (pt_cmpR op_lt (pv 2) pe_int (nomark _)) (pss_cons (ps_set (i := 5) sc_l_many.nd rfl (by first | exact Or.inl rfl | exact Or.inr rfl) (pe_ix ix_tup (pe_tup (pa_cons pe_int (pa_cons pe_int pa_nil))) (pe_op op_sub (pv 2) pe_int) (fun _ _ => rfl)))
  (pss_cons (ps_set (i := 3) sc_l_many.nd rfl (by first | exact Or.inl rfl | exact Or.inr rfl) (pe_op op_add (pe_op op_sub (pv 5) pe_int) (pe_fn H_l_draw (hr.mono (by decide)) (passes_call (takes_of rfl rfl rfl rfl) (fun _ _ _ _ h => h)) (pa_cons (pv 0) (pa_cons pe_int pa_nil)))))
  (pss_cons (ps_set (i := 6) sc_l_many.nd rfl (by first | exact Or.inl rfl | exact Or.inr rfl) (pe_fn H_l_draw (hr.mono (by decide)) (passes_call (takes_of rfl rfl rfl rfl) (fun _ _ _ _ h => h)) (pa_cons (pv 0) (pa_cons (pe_op op_add (pv 3) pe_int) pa_nil))))
  (pss_cons (ps_set (i := 7) sc_l_many.nd rfl (by first | exact Or.inl rfl | exact Or.inr rfl) pe_non)
  (pss_cons (ps_for (passes_of rfl) rfl (pi_range1 rfl T.m_range (pa_cons (pv 3) pa_nil)) (pg_name (i := 4) sc_l_many.nd rfl (by first | exact Or.inl rfl | exact Or.inr rfl))
  (pss_cons (ps_if (pt_cmpR op_eq (pv 4) (pv 6) (nomark _)) (pss_one (ps_expr (pe_bm PySem.F.plainAttrs_list PySem.F.slot_list_append PySem.F.type_list_append mt_append (pv 1) (pa_cons pe_str pa_nil)))) pss_nil)
  (pss_cons (ps_set (i := 8) sc_l_many.nd rfl (by first | exact Or.inl rfl | exact Or.inr rfl) (pe_fn H_l_draw (hr.mono (by decide)) (passes_call (takes_of rfl rfl rfl rfl) (fun _ _ _ _ h => h)) (pa_cons (pv 0) (pa_cons pe_int pa_nil))))
  (pss_cons (ps_if (pt_cmpR op_eq (pv 8) pe_int (nomark _)) (pss_one (ps_set (i := 1) sc_l_many.nd rfl (by first | exact Or.inl rfl | exact Or.inr rfl) (pe_op op_cat (pv 1) (pe_lst (pa_cons pe_str (pa_cons pe_str pa_nil)))))) pss_nil)
  (pss_cons (ps_if (pt_cmpR op_eq (pv 4) (pv 5) (nomark _)) (pss_one (ps_set (i := 7) sc_l_many.nd rfl (by first | exact Or.inl rfl | exact Or.inr rfl) (pe_callB call_lenS (by rfl) T.m_len PySem.boot_len (pa_cons (pv 1) pa_nil)))) pss_nil)
  (pss_cons (ps_set (i := 1) sc_l_many.nd rfl (by first | exact Or.inl rfl | exact Or.inr rfl) (pe_op op_cat (pv 1) (pe_ix ix_tup (pe_tup (pa_cons (pe_lst (pa_cons pe_str (pa_cons pe_str (pa_cons pe_str pa_nil)))) (pa_cons (pe_lst (pa_cons pe_str (pa_cons pe_str (pa_cons pe_str pa_nil)))) pa_nil))) (pe_op op_sub (pv 2) pe_int) (fun _ _ => rfl))))
  (pss_one (ps_if (pt_cmpR op_eq (pv 8) pe_int (nomark _)) (pss_one (ps_expr (pe_bm PySem.F.plainAttrs_list PySem.F.slot_list_append PySem.F.type_list_append mt_append (pv 1) (pa_cons pe_str pa_nil)))) pss_nil))))))))
  (pss_cons (ps_if (pt_cmpR op_eq (pv 6) (pv 3) (nomark _)) (pss_one (ps_expr (pe_bm PySem.F.plainAttrs_list PySem.F.slot_list_append PySem.F.type_list_append mt_append (pv 1) (pa_cons pe_str pa_nil)))) pss_nil)
  (pss_one (ps_ret (pe_tup (pa_cons (pv 1) (pa_cons (pv 7) pa_nil))))))))))) pss_nil)
  (pss_cons (ps_if (pt_cmpR op_eq (pv 2) pe_int (nomark _)) (pss_cons (ps_set (i := 3) sc_l_many.nd rfl (by first | exact Or.inl rfl | exact Or.inr rfl) (pe_op op_add pe_int (pe_fn H_l_draw (hr.mono (by decide)) (passes_call (takes_of rfl rfl rfl rfl) (fun _ _ _ _ h => h)) (pa_cons (pv 0) (pa_cons pe_int pa_nil)))))
  (pss_cons (ps_set (i := 8) sc_l_many.nd rfl (by first | exact Or.inl rfl | exact Or.inr rfl) (pe_ix ix_tup (pe_tup (pa_cons (pe_lst (pa_cons pe_str (pa_cons pe_str pa_nil))) (pa_cons (pe_lst (pa_cons pe_str (pa_cons pe_str (pa_cons pe_str (pa_cons pe_str (pa_cons pe_str (pa_cons pe_str pa_nil))))))) pa_nil))) (pe_fn H_l_draw (hr.mono (by decide)) (passes_call (takes_of rfl rfl rfl rfl) (fun _ _ _ _ h => h)) (pa_cons (pv 0) (pa_cons pe_int pa_nil))) (fun _ _ => rfl)))
  (pss_cons (ps_set (i := 7) sc_l_many.nd rfl (by first | exact Or.inl rfl | exact Or.inr rfl) (pe_ix ix_tup (pe_tup (pa_cons pe_non (pa_cons (pe_op op_add (pe_callB call_lenS (by rfl) T.m_len PySem.boot_len (pa_cons (pv 1) pa_nil)) (pe_op op_mul pe_int (pe_callB call_lenS (by rfl) T.m_len PySem.boot_len (pa_cons (pv 8) pa_nil)))) pa_nil))) (pe_callTy call_int1 (by rfl) T.m_int (by decide +kernel) (pa_cons (pe_cmpR op_gt (pv 3) pe_int (nomark _)) pa_nil)) (fun _ _ => rfl)))
  (pss_one (ps_ret (pe_tup (pa_cons (pe_op op_cat (pe_op op_cat (pe_op op_cat (pe_op op_cat (pv 1) (pe_op op_rep (pv 8) (pv 3))) (pe_lst (pa_cons pe_str (pa_cons pe_str (pa_cons pe_str pa_nil))))) (pe_op op_rep (pe_lst (pa_cons pe_str pa_nil)) (pv 3))) (pe_lst (pa_cons pe_str pa_nil))) (pa_cons (pv 7) pa_nil)))))))) pss_nil)
  (pss_cons (ps_if (pt_cmpR op_eq (pv 2) pe_int (nomark _)) (pss_cons (ps_set (i := 3) sc_l_many.nd rfl (by first | exact Or.inl rfl | exact Or.inr rfl) (pe_op op_add pe_int (pe_fn H_l_draw (hr.mono (by decide)) (passes_call (takes_of rfl rfl rfl rfl) (fun _ _ _ _ h => h)) (pa_cons (pv 0) (pa_cons pe_int pa_nil)))))
  (pss_cons (ps_set (i := 1) sc_l_many.nd rfl (by first | exact Or.inl rfl | exact Or.inr rfl) (pe_op op_cat (pv 1) (pe_lst (pa_cons pe_str (pa_cons pe_str pa_nil)))))
  (pss_cons (ps_if (pt_cmpR op_eq (pe_fn H_l_draw (hr.mono (by decide)) (passes_call (takes_of rfl rfl rfl rfl) (fun _ _ _ _ h => h)) (pa_cons (pv 0) (pa_cons pe_int pa_nil))) pe_int (nomark _)) (pss_one (ps_ret (pe_tup (pa_cons (pe_op op_cat (pe_op op_cat (pv 1) (pe_op op_rep (pe_lst (pa_cons pe_str (pa_cons pe_str pa_nil))) (pv 3))) (pe_lst (pa_cons pe_str pa_nil))) (pa_cons (pe_ix ix_tup (pe_tup (pa_cons pe_non (pa_cons (pe_op op_add (pe_callB call_lenS (by rfl) T.m_len PySem.boot_len (pa_cons (pv 1) pa_nil)) pe_int) pa_nil))) (pe_callTy call_int1 (by rfl) T.m_int (by decide +kernel) (pa_cons (pe_cmpR op_gt (pv 3) pe_int (nomark _)) pa_nil)) (fun _ _ => rfl)) pa_nil))))) pss_nil)
  (pss_one (ps_ret (pe_tup (pa_cons (pe_op op_cat (pe_op op_cat (pv 1) (pe_op op_rep (pe_lst (pa_cons pe_str pa_nil)) (pv 3))) (pe_op op_rep (pe_lst (pa_cons pe_str pa_nil)) (pe_op op_add (pv 3) pe_int))) (pa_cons (pe_ix ix_tup (pe_tup (pa_cons pe_non (pa_cons (pe_op op_add (pe_callB call_lenS (by rfl) T.m_len PySem.boot_len (pa_cons (pv 1) pa_nil)) pe_int) pa_nil))) (pe_callTy call_int1 (by rfl) T.m_int (by decide +kernel) (pa_cons (pe_cmpR op_gt (pv 3) pe_int (nomark _)) pa_nil)) (fun _ _ => rfl)) pa_nil)))))))) pss_nil)
  (pss_cons (ps_set (i := 9) sc_l_many.nd rfl (by first | exact Or.inl rfl | exact Or.inr rfl) (pe_slice sl_str pe_str po_none (po_some (pe_op op_add pe_int (pe_fn H_l_draw (hr.mono (by decide)) (passes_call (takes_of rfl rfl rfl rfl) (fun _ _ _ _ h => h)) (pa_cons (pv 0) (pa_cons pe_int pa_nil)))))))
  (pss_cons (ps_asg (pv 9) (pg_sub (pv 1) pe_int set_list))
  (pss_one (ps_ret (pe_tup (pa_cons (pe_op op_cat (pv 1) (pe_lst (pa_cons pe_str pa_nil))) (pa_cons (pe_ix ix_tup (pe_tup (pa_cons pe_non (pa_cons pe_int pa_nil))) (pe_callTy call_int1 (by rfl) T.m_int (by decide +kernel) (pa_cons (pe_cmpR op_gt (pe_callB call_len_str (by rfl) T.m_len PySem.boot_len (pa_cons (pv 9) pa_nil)) pe_int (nomark _)) pa_nil)) (fun _ _ => rfl)) pa_nil))))))))))))), ?_⟩
  refine g_start (σ' := [some p0, none, none, none, none, none, none, none, none, none]) rfl ?_
  unfold m_l_many at hm
  refine fn_S (Γ := [.mut (mPool.pin p0) (p_pool_here), .any, .any, .any, .any, .any, .any, .any, .any, .any]) (mt := mPool) ?_ e (hol_mut (mt := mPool.pin p0) ⟨rfl, hP⟩ (hol_any (hol_any (hol_any (hol_any (hol_any (hol_any (hol_any (hol_any (hol_any hol_nil))))))))) (by simp)) (by simp) hm
  exact (sv_new (evn_lstP (x := (("buttons" : Str), ("2" : Str), ("answers" : Str), ("2" : Str), ("var" : Str), ("x" : Str), ("9" : Str), ("start" : Str), ())) (allC (allC (allC (allC (allC (allC (allC (allC allN)))))))) (eva_consP (evp_tx ⟨by decide +kernel, by decide +kernel⟩) (eva_consP (evp_tx ⟨by decide +kernel, by decide +kernel⟩) (eva_consP (evp_tx ⟨by decide +kernel, by decide +kernel⟩) (eva_consP (evp_tx ⟨by decide +kernel, by decide +kernel⟩) (eva_consP (evp_tx ⟨by decide +kernel, by decide +kernel⟩) (eva_consP (evp_tx ⟨by decide +kernel, by decide +kernel⟩) (eva_consP (evp_tx ⟨by decide +kernel, by decide +kernel⟩) (eva_consP (evp_tx ⟨by decide +kernel, by decide +kernel⟩) eva_nil))))))))) ⟨_, rfl⟩ (fun x1 =>
 (sv_asgS (i := 0) (mt := (mPool.pin p0)) (evs_callS (i := 0) (MtLe.pin _ _) rfl (evsa_consA (i := 0) (mt := (mPool.pin p0)) (evs_ofP (i := 0) (mt := (mPool.pin p0)) rfl evp_int) (fun s2 => (evsa_nil (i := 0) (mt := (mPool.pin p0)) rfl)))) (fun x6 =>
 (sv_ifEP (evt_test (evp_opP opv_eqI (evp_var rfl) evp_int)) (sv_asgS (i := 0) (mt := (mPool.pin p0)) (evs_opA (i := 0) (mt := (mPool.pin p0)) opv_I0 (evs_ofP (i := 0) (mt := (mPool.pin p0)) rfl evp_int) (fun s7 => (evs_callS (i := 0) (MtLe.pin _ _) rfl (evsa_consA (i := 0) (mt := (mPool.pin p0)) (evs_ofP (i := 0) (mt := (mPool.pin p0)) rfl evp_int) (fun s8 => (evsa_nil (i := 0) (mt := (mPool.pin p0)) rfl)))))) (fun x15 =>
 (sv_weak (.cons .same (.cons .close (.cons .same (.cons .same (.cons .same (.cons .same (.cons .same (.cons .same (.cons .same (.cons .same .nil)))))))))) (sv_new (evn_slLP (evp_var rfl) evo_none (evo_someP evp_int)) ⟨_, rfl⟩ (fun x16 =>
 (sv_for (G' := (fun z17 : (List Str) => [.mut (mPool.pin p0) (x15.2), .mut (mL tTx) (z17), .frz tInt (x6.1), .frz tInt (x15.1), .any, .any, .any, .any, .any, .any])) (s0 := (x16)) (.cons .same (.cons .same (.cons .same (.cons .same (.cons .any (.cons .any (.cons .any (.cons .any (.cons .any (.cons .any .nil)))))))))) (evi_rng1P (eva_consP (evp_var rfl) eva_nil)) (fun z17 => evg_name) (fun x18 z17 => (sv_weak (.cons .same (.cons .close (.cons .same (.cons .same (.cons .same (.cons .same (.cons .same (.cons .same (.cons .same (.cons .same .nil)))))))))) (sv_last (sv_new (evn_op opn_cat (evp_var rfl) (evp_new (evn_lst (allC (allC (allC allN))) (eva_cons (evp_tx ⟨by decide +kernel, by decide +kernel⟩) (eva_cons (evp_opP opv_ixTx (evp_tx ⟨by decide +kernel, by decide +kernel⟩) (evp_var rfl)) (eva_cons (evp_tx ⟨by decide +kernel, by decide +kernel⟩) eva_nil)))))) ⟨_, rfl⟩ (fun x28 =>
 (sv_end (.cons .same (.cons .same (.cons .same (.cons .same (.cons .any (.cons .any (.cons .any (.cons .any (.cons .any (.cons .any .nil)))))))))))))))) (fun z29 =>
 (sv_weak (.cons .same (.cons .close (.cons .same (.cons .same (.cons .same (.cons .same (.cons .same (.cons .same (.cons .same (.cons .same .nil)))))))))) (sv_retS (i := 0) (mt := mPool) (evs_of (i := 0) (mt := (mPool.pin p0)) rfl (evp_tup disp2 len2 (eva_cons (evp_new (evn_opP opn_cat (evp_var rfl) (evp_new (evn_lstP (x := (("start" : Str), ("press" : Str), ())) (allC (allC allN)) (eva_consP (evp_tx ⟨by decide +kernel, by decide +kernel⟩) (eva_consP (evp_tx ⟨by decide +kernel, by decide +kernel⟩) eva_nil)))))) (eva_cons (evp_opP opv_ixT (evp_tupP (x := (none, (some ((4 : Int) + (12 : Int))), ())) (disp_lT (allC (allC allN))) (len_lT (allC (allC allN))) (eva_consP evp_non (eva_consP (evp_castP (r2 := (tOpt tInt)) (f := some) (fun _ _ _ h => h) (evp_opP opv_I0 evp_int evp_int)) eva_nil))) (evp_CBP cb_intB (eva_consP (evp_opP opv_I0B (evp_var rfl) evp_int) eva_nil))) eva_nil)))) (by exact Nat.succ_pos _)))))))))) (sv_skip (sv_ifEP (evt_test (evp_opP opv_I0B (evp_var rfl) evp_int)) (sv_asg (evp_opP opv_ixT (evp_tupP (x := ((3 : Int), (24 : Int), ())) (disp_lT (allC (allC allN))) (len_lT (allC (allC allN))) (eva_consP evp_int (eva_consP evp_int eva_nil))) (evp_opP opv_I0 (evp_var rfl) evp_int)) (fun x38 =>
 (sv_asgS (i := 0) (mt := (mPool.pin p0)) (evs_opA (i := 0) (mt := (mPool.pin p0)) opv_I0 (evs_ofP (i := 0) (mt := (mPool.pin p0)) rfl (evp_opP opv_I0 (evp_var rfl) evp_int)) (fun s39 => (evs_callS (i := 0) (MtLe.pin _ _) rfl (evsa_consA (i := 0) (mt := (mPool.pin p0)) (evs_ofP (i := 0) (mt := (mPool.pin p0)) rfl evp_int) (fun s40 => (evsa_nil (i := 0) (mt := (mPool.pin p0)) rfl)))))) (fun x47 =>
 (sv_asgS (i := 0) (mt := (mPool.pin p0)) (evs_callS (i := 0) (MtLe.pin _ _) rfl (evsa_consA (i := 0) (mt := (mPool.pin p0)) (evs_ofP (i := 0) (mt := (mPool.pin p0)) rfl (evp_opP opv_I0 (evp_var rfl) evp_int)) (fun s48 => (evsa_nil (i := 0) (mt := (mPool.pin p0)) rfl)))) (fun x52 =>
 (sv_asg evp_non (fun x53 =>
 (sv_for (G' := (fun z54 : (List Str) × (Option Int) × Pool => [.mut (mPool.pin p0) (z54.2.2), .mut (mL tTx) (z54.1), .frz tInt (x6.1), .frz tInt (x47.1), .any, .frz tInt (x38), .frz tInt (x52.1), .frz (tOpt tInt) (z54.2.1), .any, .any])) (s0 := ((x1), (x53), (x52.2))) (.cons .same (.cons .same (.cons .same (.cons .same (.cons .any (.cons .same (.cons .same (.cons .same (.cons .any (.cons .any .nil)))))))))) (evi_rng1P (eva_consP (evp_var rfl) eva_nil)) (fun z54 => evg_name) (fun x55 z54 => (sv_seq (G' := (fun z56 : (List Str) => [.mut (mPool.pin p0) (z54.2.2), .mut (mL tTx) (z56), .frz tInt (x6.1), .frz tInt (x47.1), .frz tInt (x55), .frz tInt (x38), .frz tInt (x52.1), .frz (tOpt tInt) (z54.2.1), .any, .any])) (sv_ifP (evt_test (evp_opP opv_eqI (evp_var rfl) (evp_var rfl))) (sv_last (sv_append rfl (evp_tx ⟨by decide +kernel, by decide +kernel⟩) rfl (fun x57 =>
 (sv_end (.cons .same (.cons .same (.cons .same (.cons .same (.cons .same (.cons .same (.cons .same (.cons .same (.cons .any (.cons .any .nil)))))))))))))) (sv_end (.cons .same (.cons .same (.cons .same (.cons .same (.cons .same (.cons .same (.cons .same (.cons .same (.cons .any (.cons .any .nil)))))))))))) (fun z56 =>
 (sv_asgS (i := 0) (mt := (mPool.pin p0)) (evs_callS (i := 0) (MtLe.pin _ _) rfl (evsa_consA (i := 0) (mt := (mPool.pin p0)) (evs_ofP (i := 0) (mt := (mPool.pin p0)) rfl evp_int) (fun s58 => (evsa_nil (i := 0) (mt := (mPool.pin p0)) rfl)))) (fun x62 =>
 (sv_seq (G' := (fun z63 : (List Str) => [.mut (mPool.pin p0) (x62.2), .mut (mL tTx) (z63), .frz tInt (x6.1), .frz tInt (x47.1), .frz tInt (x55), .frz tInt (x38), .frz tInt (x52.1), .frz (tOpt tInt) (z54.2.1), .frz tInt (x62.1), .any])) (sv_ifP (evt_test (evp_opP opv_eqI (evp_var rfl) evp_int)) (sv_weak (.cons .same (.cons .close (.cons .same (.cons .same (.cons .same (.cons .same (.cons .same (.cons .same (.cons .same (.cons .same .nil)))))))))) (sv_last (sv_new (evn_opP opn_cat (evp_var rfl) (evp_new (evn_lstP (x := (("if" : Str), ("x" : Str), ())) (allC (allC allN)) (eva_consP (evp_tx ⟨by decide +kernel, by decide +kernel⟩) (eva_consP (evp_tx ⟨by decide +kernel, by decide +kernel⟩) eva_nil))))) ⟨_, rfl⟩ (fun x64 =>
 (sv_end (.cons .same (.cons .same (.cons .same (.cons .same (.cons .same (.cons .same (.cons .same (.cons .same (.cons .same (.cons .any .nil))))))))))))))) (sv_end (.cons .same (.cons .same (.cons .same (.cons .same (.cons .same (.cons .same (.cons .same (.cons .same (.cons .same (.cons .any .nil)))))))))))) (fun z63 =>
 (sv_seq (G' := (fun z65 : (Option Int) => [.mut (mPool.pin p0) (x62.2), .mut (mL tTx) (z63), .frz tInt (x6.1), .frz tInt (x47.1), .frz tInt (x55), .frz tInt (x38), .frz tInt (x52.1), .frz (tOpt tInt) (z65), .frz tInt (x62.1), .any])) (sv_ifP (evt_test (evp_opP opv_eqI (evp_var rfl) (evp_var rfl))) (sv_last (sv_asg (evp_castP (r2 := (tOpt tInt)) (f := some) (fun _ _ _ h => h) (evp_lenM rfl)) (fun x66 =>
 (sv_end (.cons .same (.cons .same (.cons .same (.cons .same (.cons .same (.cons .same (.cons .same (.cons .same (.cons .same (.cons .any .nil)))))))))))))) (sv_end (.cons .same (.cons .same (.cons .same (.cons .same (.cons .same (.cons .same (.cons .same (.cons .same (.cons .same (.cons .any .nil)))))))))))) (fun z65 =>
 (sv_weak (.cons .same (.cons .close (.cons .same (.cons .same (.cons .same (.cons .same (.cons .same (.cons .same (.cons .same (.cons .same .nil)))))))))) (sv_new (evn_op opn_cat (evp_var rfl) (evp_opP opv_ixT (evp_tupP (x := (([("draw" : Str), ("x" : Str), ("2" : Str)] : (List Str)), ([("use" : Str), ("x" : Str), ("1" : Str)] : (List Str)), ())) (disp_lT (allC (allC allN))) (len_lT (allC (allC allN))) (eva_consP (evp_new (evn_lstP (x := (("draw" : Str), ("x" : Str), ("2" : Str), ())) (allC (allC (allC allN))) (eva_consP (evp_tx ⟨by decide +kernel, by decide +kernel⟩) (eva_consP (evp_tx ⟨by decide +kernel, by decide +kernel⟩) (eva_consP (evp_tx ⟨by decide +kernel, by decide +kernel⟩) eva_nil))))) (eva_consP (evp_new (evn_lstP (x := (("use" : Str), ("x" : Str), ("1" : Str), ())) (allC (allC (allC allN))) (eva_consP (evp_tx ⟨by decide +kernel, by decide +kernel⟩) (eva_consP (evp_tx ⟨by decide +kernel, by decide +kernel⟩) (eva_consP (evp_tx ⟨by decide +kernel, by decide +kernel⟩) eva_nil))))) eva_nil))) (evp_opP opv_I0 (evp_var rfl) evp_int))) ⟨_, rfl⟩ (fun x69 =>
 (sv_last (sv_seq (G' := (fun z70 : (List Str) => [.mut (mPool.pin p0) (x62.2), .mut (mL tTx) (z70), .frz tInt (x6.1), .frz tInt (x47.1), .frz tInt (x55), .frz tInt (x38), .frz tInt (x52.1), .frz (tOpt tInt) (z65), .frz tInt (x62.1), .any])) (sv_ifP (evt_test (evp_opP opv_eqI (evp_var rfl) evp_int)) (sv_last (sv_append rfl (evp_tx ⟨by decide +kernel, by decide +kernel⟩) rfl (fun x71 =>
 (sv_end (.cons .same (.cons .same (.cons .same (.cons .same (.cons .same (.cons .same (.cons .same (.cons .same (.cons .same (.cons .any .nil)))))))))))))) (sv_end (.cons .same (.cons .same (.cons .same (.cons .same (.cons .same (.cons .same (.cons .same (.cons .same (.cons .same (.cons .any .nil)))))))))))) (fun z70 =>
 (sv_end (.cons .same (.cons .same (.cons .same (.cons .same (.cons .any (.cons .same (.cons .same (.cons .same (.cons .any (.cons .any .nil)))))))))))))))))))))))))) (fun z72 =>
 (sv_seq (G' := (fun z73 : (List Str) => [.mut (mPool.pin p0) (z72.2.2), .mut (mL tTx) (z73), .frz tInt (x6.1), .frz tInt (x47.1), .any, .frz tInt (x38), .frz tInt (x52.1), .frz (tOpt tInt) (z72.2.1), .any, .any])) (sv_ifP (evt_test (evp_opP opv_eqI (evp_var rfl) (evp_var rfl))) (sv_last (sv_append rfl (evp_tx ⟨by decide +kernel, by decide +kernel⟩) rfl (fun x74 =>
 (sv_end (.cons .same (.cons .same (.cons .same (.cons .same (.cons .any (.cons .same (.cons .same (.cons .same (.cons .any (.cons .any .nil)))))))))))))) (sv_end (.cons .same (.cons .same (.cons .same (.cons .same (.cons .any (.cons .same (.cons .same (.cons .same (.cons .any (.cons .any .nil)))))))))))) (fun z73 =>
 (sv_weak (.cons .same (.cons .close (.cons .same (.cons .same (.cons .same (.cons .same (.cons .same (.cons .same (.cons .same (.cons .same .nil)))))))))) (sv_retS (i := 0) (mt := mPool) (evs_ofP (i := 0) (mt := (mPool.pin p0)) rfl (evp_tupP (x := (z73, z72.2.1, ())) disp2 len2 (eva_consP (evp_var rfl) (eva_consP (evp_var rfl) eva_nil)))) (by exact Nat.succ_pos _))))))))))))))) (sv_skip (sv_ifEP (evt_test (evp_opP opv_eqI (evp_var rfl) evp_int)) (sv_asgS (i := 0) (mt := (mPool.pin p0)) (evs_opA (i := 0) (mt := (mPool.pin p0)) opv_I0 (evs_ofP (i := 0) (mt := (mPool.pin p0)) rfl evp_int) (fun s77 => (evs_callS (i := 0) (MtLe.pin _ _) rfl (evsa_consA (i := 0) (mt := (mPool.pin p0)) (evs_ofP (i := 0) (mt := (mPool.pin p0)) rfl evp_int) (fun s78 => (evsa_nil (i := 0) (mt := (mPool.pin p0)) rfl)))))) (fun x85 =>
 (sv_asgS (i := 0) (mt := (mPool.pin p0)) (evs_opA (i := 0) (mt := (mPool.pin p0)) opv_ixT (evs_ofP (i := 0) (mt := (mPool.pin p0)) rfl (evp_tupP (x := (([("if" : Str), ("x" : Str)] : (List Str)), ([("if" : Str), ("x" : Str), ("set" : Str), ("x" : Str), ("1" : Str), ("else" : Str)] : (List Str)), ())) (disp_lT (allC (allC allN))) (len_lT (allC (allC allN))) (eva_consP (evp_new (evn_lstP (x := (("if" : Str), ("x" : Str), ())) (allC (allC allN)) (eva_consP (evp_tx ⟨by decide +kernel, by decide +kernel⟩) (eva_consP (evp_tx ⟨by decide +kernel, by decide +kernel⟩) eva_nil)))) (eva_consP (evp_new (evn_lstP (x := (("if" : Str), ("x" : Str), ("set" : Str), ("x" : Str), ("1" : Str), ("else" : Str), ())) (allC (allC (allC (allC (allC (allC allN)))))) (eva_consP (evp_tx ⟨by decide +kernel, by decide +kernel⟩) (eva_consP (evp_tx ⟨by decide +kernel, by decide +kernel⟩) (eva_consP (evp_tx ⟨by decide +kernel, by decide +kernel⟩) (eva_consP (evp_tx ⟨by decide +kernel, by decide +kernel⟩) (eva_consP (evp_tx ⟨by decide +kernel, by decide +kernel⟩) (eva_consP (evp_tx ⟨by decide +kernel, by decide +kernel⟩) eva_nil)))))))) eva_nil)))) (fun s86 => (evs_callS (i := 0) (MtLe.pin _ _) rfl (evsa_consA (i := 0) (mt := (mPool.pin p0)) (evs_ofP (i := 0) (mt := (mPool.pin p0)) rfl evp_int) (fun s87 => (evsa_nil (i := 0) (mt := (mPool.pin p0)) rfl)))))) (fun x94 =>
 (sv_asg (evp_opP opv_ixT (evp_tupP (x := (none, (some ((((x1).length : Nat) : Int) + ((4 : Int) * (((x94.1).length : Nat) : Int)))), ())) (disp_lT (allC (allC allN))) (len_lT (allC (allC allN))) (eva_consP evp_non (eva_consP (evp_castP (r2 := (tOpt tInt)) (f := some) (fun _ _ _ h => h) (evp_opP opv_I0 (evp_lenM rfl) (evp_opKP opv_I (mulKL ⟨by decide, by decide⟩) evp_int (evp_CBP cb_len (eva_consP (evp_sub (r' := (lS tTx)) seq_lL (evp_var rfl)) eva_nil))))) eva_nil))) (evp_CBP cb_intB (eva_consP (evp_opP opv_I0B (evp_var rfl) evp_int) eva_nil))) (fun x95 =>
 (sv_weak (.cons .same (.cons .close (.cons .same (.cons .same (.cons .same (.cons .same (.cons .same (.cons .same (.cons .same (.cons .same .nil)))))))))) (sv_retS (i := 0) (mt := mPool) (evs_of (i := 0) (mt := (mPool.pin p0)) rfl (evp_tup disp2 len2 (eva_cons (evp_new (evn_op opn_cat (evp_new (evn_op opn_cat (evp_new (evn_op opn_cat (evp_new (evn_op opn_cat (evp_var rfl) (evp_new (evn_opP opn_rep (evp_var rfl) (evp_var rfl))))) (evp_new (evn_lstP (x := (("set" : Str), ("x" : Str), ("2" : Str), ())) (allC (allC (allC allN))) (eva_consP (evp_tx ⟨by decide +kernel, by decide +kernel⟩) (eva_consP (evp_tx ⟨by decide +kernel, by decide +kernel⟩) (eva_consP (evp_tx ⟨by decide +kernel, by decide +kernel⟩) eva_nil))))))) (evp_new (evn_opP opn_rep (evp_new (evn_lstP (x := (("end" : Str), ())) (allC allN) (eva_consP (evp_tx ⟨by decide +kernel, by decide +kernel⟩) eva_nil))) (evp_var rfl))))) (evp_new (evn_lstP (x := (("press" : Str), ())) (allC allN) (eva_consP (evp_tx ⟨by decide +kernel, by decide +kernel⟩) eva_nil))))) (eva_cons (evp_var rfl) eva_nil)))) (by exact Nat.succ_pos _))))))))) (sv_skip (sv_ifEP (evt_test (evp_opP opv_eqI (evp_var rfl) evp_int)) (sv_asgS (i := 0) (mt := (mPool.pin p0)) (evs_opA (i := 0) (mt := (mPool.pin p0)) opv_I0 (evs_ofP (i := 0) (mt := (mPool.pin p0)) rfl evp_int) (fun s111 => (evs_callS (i := 0) (MtLe.pin _ _) rfl (evsa_consA (i := 0) (mt := (mPool.pin p0)) (evs_ofP (i := 0) (mt := (mPool.pin p0)) rfl evp_int) (fun s112 => (evsa_nil (i := 0) (mt := (mPool.pin p0)) rfl)))))) (fun x119 =>
 (sv_weak (.cons .same (.cons .close (.cons .same (.cons .same (.cons .same (.cons .same (.cons .same (.cons .same (.cons .same (.cons .same .nil)))))))))) (sv_new (evn_opP opn_cat (evp_var rfl) (evp_new (evn_lstP (x := (("press" : Str), ("say" : Str), ())) (allC (allC allN)) (eva_consP (evp_tx ⟨by decide +kernel, by decide +kernel⟩) (eva_consP (evp_tx ⟨by decide +kernel, by decide +kernel⟩) eva_nil))))) ⟨_, rfl⟩ (fun x120 =>
 (sv_ifESA (i := 0) (mt := (mPool.pin p0)) (evst_test (i := 0) (mt := (mPool.pin p0)) (evs_opA (i := 0) (mt := (mPool.pin p0)) opv_eqI (evs_callS (i := 0) (MtLe.pin _ _) rfl (evsa_consA (i := 0) (mt := (mPool.pin p0)) (evs_ofP (i := 0) (mt := (mPool.pin p0)) rfl evp_int) (fun s121 => (evsa_nil (i := 0) (mt := (mPool.pin p0)) rfl)))) (fun s125 => (evs_ofP (i := 0) (mt := (mPool.pin p0)) rfl evp_int)))) (fun s129 => (sv_weak (.cons .same (.cons .close (.cons .same (.cons .same (.cons .same (.cons .same (.cons .same (.cons .same (.cons .same (.cons .same .nil)))))))))) (sv_retS (i := 0) (mt := mPool) (evs_of (i := 0) (mt := (mPool.pin p0)) rfl (evp_tup disp2 len2 (eva_cons (evp_new (evn_op opn_cat (evp_new (evn_op opn_cat (evp_var rfl) (evp_new (evn_opP opn_rep (evp_new (evn_lstP (x := (("mod" : Str), ("7" : Str), ())) (allC (allC allN)) (eva_consP (evp_tx ⟨by decide +kernel, by decide +kernel⟩) (eva_consP (evp_tx ⟨by decide +kernel, by decide +kernel⟩) eva_nil)))) (evp_var rfl))))) (evp_new (evn_lstP (x := (("1" : Str), ())) (allC allN) (eva_consP (evp_tx ⟨by decide +kernel, by decide +kernel⟩) eva_nil))))) (eva_cons (evp_opP opv_ixT (evp_tupP (x := (none, (some ((((x120).length : Nat) : Int) + (8 : Int))), ())) (disp_lT (allC (allC allN))) (len_lT (allC (allC allN))) (eva_consP evp_non (eva_consP (evp_castP (r2 := (tOpt tInt)) (f := some) (fun _ _ _ h => h) (evp_opP opv_I0 (evp_CBP cb_len (eva_consP (evp_sub (r' := (lS tTx)) seq_lL (evp_var rfl)) eva_nil)) evp_int)) eva_nil))) (evp_CBP cb_intB (eva_consP (evp_opP opv_I0B (evp_var rfl) evp_int) eva_nil))) eva_nil)))) (by exact Nat.succ_pos _)))) (fun s129 => (sv_skip (sv_weak (.cons .same (.cons .close (.cons .same (.cons .same (.cons .same (.cons .same (.cons .same (.cons .same (.cons .same (.cons .same .nil)))))))))) (sv_retS (i := 0) (mt := mPool) (evs_of (i := 0) (mt := (mPool.pin p0)) rfl (evp_tup disp2 len2 (eva_cons (evp_new (evn_op opn_cat (evp_new (evn_op opn_cat (evp_var rfl) (evp_new (evn_opP opn_rep (evp_new (evn_lstP (x := (("mod" : Str), ())) (allC allN) (eva_consP (evp_tx ⟨by decide +kernel, by decide +kernel⟩) eva_nil))) (evp_var rfl))))) (evp_new (evn_opP opn_rep (evp_new (evn_lstP (x := (("1" : Str), ())) (allC allN) (eva_consP (evp_tx ⟨by decide +kernel, by decide +kernel⟩) eva_nil))) (evp_opP opv_I0 (evp_var rfl) evp_int))))) (eva_cons (evp_opP opv_ixT (evp_tupP (x := (none, (some ((((x120).length : Nat) : Int) + (4 : Int))), ())) (disp_lT (allC (allC allN))) (len_lT (allC (allC allN))) (eva_consP evp_non (eva_consP (evp_castP (r2 := (tOpt tInt)) (f := some) (fun _ _ _ h => h) (evp_opP opv_I0 (evp_CBP cb_len (eva_consP (evp_sub (r' := (lS tTx)) seq_lL (evp_var rfl)) eva_nil)) evp_int)) eva_nil))) (evp_CBP cb_intB (eva_consP (evp_opP opv_I0B (evp_var rfl) evp_int) eva_nil))) eva_nil)))) (by exact Nat.succ_pos _))))))))))) (sv_skip (sv_asgS (i := 0) (mt := (mPool.pin p0)) (evs_slHiS (i := 0) (mt := (mPool.pin p0)) (evp_tx ⟨by decide +kernel, by decide +kernel⟩) (evs_opA (i := 0) (mt := (mPool.pin p0)) opv_I0 (evs_ofP (i := 0) (mt := (mPool.pin p0)) rfl evp_int) (fun s153 => (evs_callS (i := 0) (MtLe.pin _ _) rfl (evsa_consA (i := 0) (mt := (mPool.pin p0)) (evs_ofP (i := 0) (mt := (mPool.pin p0)) rfl evp_int) (fun s154 => (evsa_nil (i := 0) (mt := (mPool.pin p0)) rfl))))))) (fun x162 =>
 (sv_set rfl (evp_var rfl) (fun x163 => evp_int) (fun x163 x164 =>
 (sv_weak (.cons .same (.cons .close (.cons .same (.cons .same (.cons .same (.cons .same (.cons .same (.cons .same (.cons .same (.cons .same .nil)))))))))) (sv_retS (i := 0) (mt := mPool) (evs_of (i := 0) (mt := (mPool.pin p0)) rfl (evp_tup disp2 len2 (eva_cons (evp_new (evn_opP opn_cat (evp_var rfl) (evp_new (evn_lstP (x := (("press" : Str), ())) (allC allN) (eva_consP (evp_tx ⟨by decide +kernel, by decide +kernel⟩) eva_nil))))) (eva_cons (evp_opP opv_ixT (evp_tupP (x := (none, (some (5 : Int)), ())) (disp_lT (allC (allC allN))) (len_lT (allC (allC allN))) (eva_consP evp_non (eva_consP (evp_castP (r2 := (tOpt tInt)) (f := some) (fun _ _ _ h => h) evp_int) eva_nil))) (evp_CBP cb_intB (eva_consP (evp_opP opv_I0B (evp_CBP cb_lenS (eva_consP (evp_var rfl) eva_nil)) evp_int) eva_nil))) eva_nil)))) (by exact Nat.succ_pos _)))))))))))))))))))
theorem sc_l_same : FnScope ["_law_actual", "_law_due", "_law_k"] ["_law_actual", "_law_due"] (defScope Hd.s_l_same) := ⟨rfl, rfl, rfl, by decide +kernel, rfl, by decide +kernel, by decide +kernel⟩
theorem ok_l_same {w : World} {K : PySem.W.Frag} {mg : Str → Option Value} {base : Heap} (T : Tx K mg)  {kk : Nat} (H_l_same : Fnc PySem.Challenge.pw_notesttells_k52_bounds_of_boxes w K mg base kk "_law_same" ["_law_actual", "_law_due"] (spSame K n)) {f : Addr} {fd : FuncData} {dvs : List V} (FD : FunD K "_law_same" "_law_same" (defArgs Hd.s_l_same) (defBody Hd.s_l_same) (defScope Hd.s_l_same) dvs [] f fd) : FnOk PySem.Challenge.pw_notesttells_k52_bounds_of_boxes w K mg base (L2.CX PySem.Challenge.pw_notesttells_k52_bounds_of_boxes w) (kk + 1) f fd ["_law_actual", "_law_due"] (spSame K (n + 1)) := by
  skip
  refine FD.ok sc_l_same (fun vs H Q E h => ?_) (fun cdv A outer s H vs Q E hr h => ?_)
  · obtain ⟨_, _, _, rfl, _⟩ := h
    rfl
  obtain ⟨x, y, d, rfl, hx, hy, hd, k⟩ := h
  refine ⟨_, (pss_cons (ps_if (PW.pt (pw_or (pt_val (pe_callB call_isi (by rfl) T.m_isinstance (by decide +kernel) (pa_cons (pv 1) (pa_cons (pe_bltn (v := .ty "tuple") (by rfl) T.m_tuple (by decide +kernel) rfl) pa_nil)))) (pw_or1 (pt_val (pe_callB call_isi (by rfl) T.m_isinstance (by decide +kernel) (pa_cons (pv 1) (pa_cons (pe_bltn (v := .ty "list") (by rfl) T.m_list (by decide +kernel) rfl) pa_nil))))))) (pss_cons (ps_if (PW.pt (pw_or (pt_cmpR op_ne (pe_callB call_isi (by rfl) T.m_isinstance (by decide +kernel) (pa_cons (pv 1) (pa_cons (pe_bltn (v := .ty "tuple") (by rfl) T.m_tuple (by decide +kernel) rfl) pa_nil))) (pe_callB call_isi (by rfl) T.m_isinstance (by decide +kernel) (pa_cons (pv 0) (pa_cons (pe_bltn (v := .ty "tuple") (by rfl) T.m_tuple (by decide +kernel) rfl) pa_nil))) (nomark _)) (pw_or1 (pt_cmpR op_ne (pe_callB call_isi (by rfl) T.m_isinstance (by decide +kernel) (pa_cons (pv 1) (pa_cons (pe_bltn (v := .ty "list") (by rfl) T.m_list (by decide +kernel) rfl) pa_nil))) (pe_callB call_isi (by rfl) T.m_isinstance (by decide +kernel) (pa_cons (pv 0) (pa_cons (pe_bltn (v := .ty "list") (by rfl) T.m_list (by decide +kernel) rfl) pa_nil))) (nomark _))))) (pss_one (ps_ret pe_bl)) pss_nil)
  (pss_cons (ps_if (pt_cmpR op_ne (pe_callB call_lenS (by rfl) T.m_len PySem.boot_len (pa_cons (pv 0) pa_nil)) (pe_callB call_lenS (by rfl) T.m_len PySem.boot_len (pa_cons (pv 1) pa_nil)) (nomark _)) (pss_one (ps_ret pe_bl)) pss_nil)
  (pss_cons (ps_for (passes_of rfl) rfl (pi_range1 rfl T.m_range (pa_cons (pe_callB call_lenS (by rfl) T.m_len PySem.boot_len (pa_cons (pv 1) pa_nil)) pa_nil)) (pg_name (i := 2) sc_l_same.nd rfl (by first | exact Or.inl rfl | exact Or.inr rfl))
  (pss_one (ps_if (pt_not (pt_val (pe_fn H_l_same (hr.mono (Nat.le_refl _)) passL (pa_cons (pe_ix ix_seq (pv 0) (pv 2) (fun _ _ => rfl)) (pa_cons (pe_ix ix_seq (pv 1) (pv 2) (fun _ _ => rfl)) pa_nil))))) (pss_one (ps_ret pe_bl)) pss_nil)))
  (pss_one (ps_ret pe_bl))))) pss_nil)
  (pss_cons (ps_if (PW.pt (pw_or (pt_cmpR op_isN1 (pv 1) pe_non (nomark _)) (pw_or1 (pt_val (pe_callB call_isi (by rfl) T.m_isinstance (by decide +kernel) (pa_cons (pv 1) (pa_cons (pe_bltn (v := .ty "bool") (by rfl) T.m_bool (by decide +kernel) rfl) pa_nil))))))) (pss_one (ps_ret (pe_and (pe_cmpR op_eq (pe_cmpR op_isN1 (pv 0) pe_non (nomark _)) (pe_cmpR op_isN1 (pv 1) pe_non (nomark _)) (nomark _)) (pe_and (pe_or (pe_cmpR op_isN1 (pv 1) pe_non (nomark _)) (pe_one (pe_callB call_isi (by rfl) T.m_isinstance (by decide +kernel) (pa_cons (pv 0) (pa_cons (pe_bltn (v := .ty "bool") (by rfl) T.m_bool (by decide +kernel) rfl) pa_nil))))) (pe_one (pe_cmpR op_eq (pv 0) (pv 1) (nomark _))))))) pss_nil)
  (pss_cons (ps_if (pt_val (pe_callB call_isi (by rfl) T.m_isinstance (by decide +kernel) (pa_cons (pv 1) (pa_cons (pe_bltn (v := .ty "int") (by rfl) T.m_int (by decide +kernel) rfl) pa_nil)))) (pss_one (ps_ret (pe_and (pe_callB call_isi (by rfl) T.m_isinstance (by decide +kernel) (pa_cons (pv 0) (pa_cons (pe_bltn (v := .ty "int") (by rfl) T.m_int (by decide +kernel) rfl) pa_nil))) (pe_and (pe_not (pe_callB call_isi (by rfl) T.m_isinstance (by decide +kernel) (pa_cons (pv 0) (pa_cons (pe_bltn (v := .ty "bool") (by rfl) T.m_bool (by decide +kernel) rfl) pa_nil)))) (pe_one (pe_cmpR op_eq (pv 0) (pv 1) (nomark _))))))) pss_nil)
  (pss_one (ps_ret (pe_and (pe_callB call_isi (by rfl) T.m_isinstance (by decide +kernel) (pa_cons (pv 0) (pa_cons (pe_bltn (v := .ty "str") (by rfl) T.m_str (by decide +kernel) rfl) pa_nil))) (pe_one (pe_cmpR op_eq (pv 0) (pv 1) (nomark _))))))))), ?_⟩
  refine g_start (σ' := [some x, some y, none]) rfl ?_
  have hx' := hx
  have hy' := hy
  cases d with
  | none =>
    cases hx; cases hy
    walk_at "go"
    exact k
  | bool b => 
    cases hx; cases hy
    walk_at "go"
    exact (show Q (V.bl (decide (b = b))) H by rw [decide_eq_true rfl]; exact k)
  | int b => 
    cases hx; cases hy
    walk_at "go"
    exact (show Q (V.bl (decide (b = b))) H by rw [decide_eq_true rfl]; exact k)
  | str b => 
    cases hx; cases hy
    walk_at "go"
    exact (show Q (V.bl (decide (b = b))) H by rw [decide_eq_true rfl]; exact k)
  | list ds =>
    obtain ⟨a1, xs, rfl, hs1, hd1⟩ := lst_of hx
    obtain ⟨a2, ys, rfl, hs2, hd2⟩ := lst_of hy
    obtain ⟨dl, de⟩ := id hd
    have l1 := DpAll.len hd1
    have l2 := DpAll.len hd2
    walk_at "go"
    refine ⟨_, _, rfl, .inl hs1, ?_⟩
    walk_at "go"
    refine ⟨_, _, rfl, .inl hs2, ?_⟩
    rw [l1, l2]
    walk_at "go"
    refine ⟨_, _, rfl, .inl hs2, ?_⟩
    rw [l2]
    walk_at "go"
    refine ⟨by omega, by omega, ?_⟩
    rw [Int.toNat_natCast]
    refine loop_rngZ (fun i σ' H' => H' = H ∧ ∃ c, σ' = [some (.ref a1), some (.ref a2), c]) (fun σ' H' => H' = H ∧ ∃ c, σ' = [some (.ref a1), some (.ref a2), c]) ⟨rfl, _, rfl⟩ ?_ (fun N tl i σ' H' hi hJ => ?_) (fun σ' H' hJ => hJ)
    · rintro σ' H' ⟨rfl, c, rfl⟩
      walk_at "go"
      exact k
    · obtain ⟨rfl, c, rfl⟩ := hJ
      have e0 := List.getElem?_eq_getElem hi
      obtain ⟨v1, e1, h1⟩ := DpAll.get hd1 e0
      obtain ⟨v2, e2, h2⟩ := DpAll.get hd2 e0
      rw [Int.zero_add]
      walk_at "go"
      refine .inl ⟨_, _, _, _, rfl, rfl, hs1, atI_nat e1, ?_⟩
      walk_at "go"
      refine .inl ⟨_, _, _, _, rfl, rfl, hs2, atI_nat e2, ?_⟩
      walk_at "go"
      refine ⟨_, _, _, rfl, h1, h2, de _ (List.getElem_mem hi), ?_⟩
      walk_at "go"
      exact ⟨rfl, _, rfl⟩
  | tuple ds =>
    obtain ⟨a1, xs, rfl, hs1, hd1⟩ := tup_of hx
    obtain ⟨a2, ys, rfl, hs2, hd2⟩ := tup_of hy
    obtain ⟨dl, de⟩ := id hd
    have l1 := DpAll.len hd1
    have l2 := DpAll.len hd2
    walk_at "go"
    refine ⟨_, _, rfl, .inr hs1, ?_⟩
    walk_at "go"
    refine ⟨_, _, rfl, .inr hs2, ?_⟩
    rw [l1, l2]
    walk_at "go"
    refine ⟨_, _, rfl, .inr hs2, ?_⟩
    rw [l2]
    walk_at "go"
    refine ⟨by omega, by omega, ?_⟩
    rw [Int.toNat_natCast]
    refine loop_rngZ (fun i σ' H' => H' = H ∧ ∃ c, σ' = [some (.ref a1), some (.ref a2), c]) (fun σ' H' => H' = H ∧ ∃ c, σ' = [some (.ref a1), some (.ref a2), c]) ⟨rfl, _, rfl⟩ ?_ (fun N tl i σ' H' hi hJ => ?_) (fun σ' H' hJ => hJ)
    · rintro σ' H' ⟨rfl, c, rfl⟩
      walk_at "go"
      exact k
    · obtain ⟨rfl, c, rfl⟩ := hJ
      have e0 := List.getElem?_eq_getElem hi
      obtain ⟨v1, e1, h1⟩ := DpAll.get hd1 e0
      obtain ⟨v2, e2, h2⟩ := DpAll.get hd2 e0
      rw [Int.zero_add]
      walk_at "go"
      refine .inr (.inl ⟨_, _, _, _, rfl, rfl, hs1, atI_nat e1, ?_⟩)
      walk_at "go"
      refine .inr (.inl ⟨_, _, _, _, rfl, rfl, hs2, atI_nat e2, ?_⟩)
      walk_at "go"
      refine ⟨_, _, _, rfl, h1, h2, de _ (List.getElem_mem hi), ?_⟩
      walk_at "go"
      exact ⟨rfl, _, rfl⟩
  | dict _ => exact hd.elim

theorem sc_expression_words : FnScope ["expression"] ["expression"] (defScope Hd.s_expression_words) := ⟨rfl, rfl, rfl, by decide +kernel, rfl, by decide +kernel, by decide +kernel⟩
theorem ok_expression_words {w : World} {K : PySem.W.Frag} {mg : Str → Option Value} {base : Heap} (T : Tx K mg)  {n : Nat} (H_expression_words : Fnc PySem.Challenge.pw_notesttells_k52_bounds_of_boxes w K mg base (1 + n) "expression_words" ["expression"] (spP K (raC tDt raN) (lL tTx) (fun x => m_expression_words n x.1))) {f : Addr} {fd : FuncData} {dvs : List V} (FD : FunD K "expression_words" "expression_words" (defArgs Hd.s_expression_words) (defBody Hd.s_expression_words) (defScope Hd.s_expression_words) dvs [] f fd) : FnOk PySem.Challenge.pw_notesttells_k52_bounds_of_boxes w K mg base (L2.CX PySem.Challenge.pw_notesttells_k52_bounds_of_boxes w) (1 + n + 1) f fd ["expression"] (spP K (raC tDt raN) (lL tTx) (fun x => m_expression_words (n + 1) x.1)) := by
  refine FD.ok sc_expression_words (fun vs H Q E h => ?_) (fun cdv A outer s H vs Q E hr h => ?_)
  · obtain ⟨_, _, _, ⟨_, _, rfl, _, hn⟩, _⟩ := h
    cases (show _ = [] from hn)
    rfl
  obtain ⟨F, ⟨p_expression, _⟩, e, ⟨v0, _, rfl, h0, hn⟩, hm⟩ := h
  cases (show _ = [] from hn)
  refine ⟨_, (pss_cons (ps_if (pt_cmpR op_eq (pe_callB call_lenS (by rfl) T.m_len PySem.boot_len (pa_cons (pv 0) pa_nil)) pe_int (nomark _)) (pss_one (ps_ret (pe_lst (pa_cons (pe_ix ix_tup (pv 0) pe_int (fun _ _ => rfl)) (StX.pa_star (pe_fn H_expression_words (hr.mono (by omega)) (passes_call (takes_of rfl rfl rfl rfl) (fun _ _ _ _ h => h)) (pa_cons (pe_ix ix_tup (pv 0) pe_int (fun _ _ => rfl)) pa_nil)) (StX.pa_star (pe_fn H_expression_words (hr.mono (by omega)) (passes_call (takes_of rfl rfl rfl rfl) (fun _ _ _ _ h => h)) (pa_cons (pe_ix ix_tup (pv 0) pe_int (fun _ _ => rfl)) pa_nil)) pa_nil)))))) pss_nil)
  (pss_one (ps_ret (pe_lst (pa_cons (pe_callTy call_strD (by rfl) T.m_str (by decide +kernel) (pa_cons (pe_ix ix_tup (pv 0) (pe_un un_neg pe_int) (fun _ _ => rfl)) pa_nil)) pa_nil))))), ?_⟩
  refine g_start (σ' := [some v0]) rfl ?_
  simp only [m_expression_words] at hm
  refine fn_P (Γ := [.frz tDt (p_expression)]) ?_ e (hol_frz h0 hol_nil) rfl hm
  exact (sv_ifE (evt_test (evp_op opv_eqI (evp_CB cb_len (eva_cons (evp_sub (r' := (lS tDt)) seq_lT (evp_getNP (f := dtT) c_dtT (evp_var rfl))) eva_nil)) evp_int)) (sv_retP (evp_new (evn_lstL (eval_cons (evp_getN (f := dtS) c_dtS (evp_op opv_ixT (evp_getNP (f := dtT) c_dtT (evp_var rfl)) evp_int)) (eval_star (evp_sub (r' := (lS tTx)) seq_lL (evp_call (eva_cons (evp_op opv_ixT (evp_getNP (f := dtT) c_dtT (evp_var rfl)) evp_int) eva_nil))) (eval_star (evp_sub (r' := (lS tTx)) seq_lL (evp_call (eva_cons (evp_op opv_ixT (evp_getNP (f := dtT) c_dtT (evp_var rfl)) evp_int) eva_nil))) eval_nil)))))) (sv_skip (sv_retP (evp_new (evn_lst (allC allN) (eva_cons (evp_CB cb_strD (eva_cons (evp_op opv_ixT (evp_getNP (f := dtT) c_dtT (evp_var rfl)) (evp_unP unv_U evp_int)) eva_nil)) eva_nil))))))
theorem sc_block_words : FnScope ["block", "words", "row"] ["block"] (defScope Hd.s_block_words) := ⟨rfl, rfl, rfl, by decide +kernel, rfl, by decide +kernel, by decide +kernel⟩
theorem ok_block_words {w : World} {K : PySem.W.Frag} {mg : Str → Option Value} {base : Heap} (T : Tx K mg) (H_expression_words : Fnc PySem.Challenge.pw_notesttells_k52_bounds_of_boxes w K mg base 7 "expression_words" ["expression"] (spP K (raC tDt raN) (lL tTx) (fun x => m_expression_words 6 x.1))) {n : Nat} (H_block_words : Fnc PySem.Challenge.pw_notesttells_k52_bounds_of_boxes w K mg base (8 + n) "block_words" ["block"] (spP K (raC (lS tDt) raN) (lL tTx) (fun x => m_block_words n x.1))) {f : Addr} {fd : FuncData} {dvs : List V} (FD : FunD K "block_words" "block_words" (defArgs Hd.s_block_words) (defBody Hd.s_block_words) (defScope Hd.s_block_words) dvs [] f fd) : FnOk PySem.Challenge.pw_notesttells_k52_bounds_of_boxes w K mg base (L2.CX PySem.Challenge.pw_notesttells_k52_bounds_of_boxes w) (8 + n + 1) f fd ["block"] (spP K (raC (lS tDt) raN) (lL tTx) (fun x => m_block_words (n + 1) x.1)) := by
  refine FD.ok sc_block_words (fun vs H Q E h => ?_) (fun cdv A outer s H vs Q E hr h => ?_)
  · obtain ⟨_, _, _, ⟨_, _, rfl, _, hn⟩, _⟩ := h
    cases (show _ = [] from hn)
    rfl
  obtain ⟨F, ⟨p_block, _⟩, e, ⟨v0, _, rfl, h0, hn⟩, hm⟩ := h
  cases (show _ = [] from hn)
  refine ⟨_, (pss_cons (ps_set (i := 1) sc_block_words.nd rfl (by first | exact Or.inl rfl | exact Or.inr rfl) (pe_lst pa_nil))
  (pss_cons (ps_for (passes_of rfl) rfl (pi_any (pv 0)) (pg_name (i := 2) sc_block_words.nd rfl (by first | exact Or.inl rfl | exact Or.inr rfl))
  (pss_one (ps_if (pt_cmpR op_eq (pe_ix ix_tup (pv 2) pe_int (fun _ _ => rfl)) pe_str (nomark _)) (pss_cons (ps_expr (pe_bm PySem.F.plainAttrs_list PySem.F.slot_list_extend PySem.F.type_list_extend mt_extend (pv 1) (pa_cons (pe_lst (pa_cons pe_str (StX.pa_star (pe_fn H_expression_words (hr.mono (by omega)) (passes_call (takes_of rfl rfl rfl rfl) (fun _ _ _ _ h => h)) (pa_cons (pe_ix ix_tup (pv 2) pe_int (fun _ _ => rfl)) pa_nil)) (StX.pa_star (pe_fn H_block_words (hr.mono (by omega)) (passes_call (takes_of rfl rfl rfl rfl) (fun _ _ _ _ h => h)) (pa_cons (pe_ix ix_tup (pv 2) pe_int (fun _ _ => rfl)) pa_nil)) pa_nil)))) pa_nil)))
  (pss_cons (ps_if (pt_truth (pe_ix ix_tup (pv 2) pe_int (fun _ _ => rfl)) (by intro _; rfl)) (pss_one (ps_expr (pe_bm PySem.F.plainAttrs_list PySem.F.slot_list_extend PySem.F.type_list_extend mt_extend (pv 1) (pa_cons (pe_lst (pa_cons pe_str (StX.pa_star (pe_fn H_block_words (hr.mono (by omega)) (passes_call (takes_of rfl rfl rfl rfl) (fun _ _ _ _ h => h)) (pa_cons (pe_ix ix_tup (pv 2) pe_int (fun _ _ => rfl)) pa_nil)) pa_nil))) pa_nil)))) pss_nil)
  (pss_one (ps_expr (pe_bm PySem.F.plainAttrs_list PySem.F.slot_list_append PySem.F.type_list_append mt_append (pv 1) (pa_cons pe_str pa_nil)))))) (pss_one (ps_if (pt_cmpR op_eq (pe_ix ix_tup (pv 2) pe_int (fun _ _ => rfl)) pe_str (nomark _)) (pss_one (ps_expr (pe_bm PySem.F.plainAttrs_list PySem.F.slot_list_extend PySem.F.type_list_extend mt_extend (pv 1) (pa_cons (pe_lst (pa_cons pe_str (pa_cons (pe_ix ix_tup (pv 2) pe_int (fun _ _ => rfl)) (pa_cons (pe_callTy call_strD (by rfl) T.m_str (by decide +kernel) (pa_cons (pe_ix ix_tup (pv 2) pe_int (fun _ _ => rfl)) pa_nil)) pa_nil)))) pa_nil)))) (pss_one (ps_expr (pe_bm PySem.F.plainAttrs_list PySem.F.slot_list_extend PySem.F.type_list_extend mt_extend (pv 1) (pa_cons (pe_lst (StX.pa_star (pe_slice sl_tupA (pv 2) po_none (po_some (pe_un un_neg pe_int))) (StX.pa_star (pe_fn H_expression_words (hr.mono (by omega)) (passes_call (takes_of rfl rfl rfl rfl) (fun _ _ _ _ h => h)) (pa_cons (pe_ix ix_tup (pv 2) (pe_un un_neg pe_int) (fun _ _ => rfl)) pa_nil)) pa_nil))) pa_nil)))))))))
  (pss_one (ps_ret (pv 1))))), ?_⟩
  refine g_start (σ' := [some v0, none, none]) rfl ?_
  simp only [m_block_words] at hm
  refine fn_P (Γ := [.frz (lS tDt) (p_block), .any, .any]) ?_ e (hol_frz h0 (hol_any (hol_any hol_nil))) rfl hm
  exact (sv_new (evn_lstP (x := (())) (allN (r := tTx)) eva_nil) ⟨_, rfl⟩ (fun x1 =>
 (sv_for (G' := (fun z2 : (List Str) => [.frz (lS tDt) (p_block), .mut (mL tTx) (z2), .any])) (s0 := (x1)) (.cons .same (.cons .same (.cons .any .nil))) (evi_any (evp_var rfl)) (fun z2 => evg_name) (fun x3 z2 => (sv_last (sv_seq (G' := (fun z9 : (List Str) => [.frz (lS tDt) (p_block), .mut (mL tTx) (z9), .frz tDt (x3)])) (sv_if (evt_test (evp_op opv_eqS (evp_getN (f := dtS) c_dtS (evp_op opv_ixT (evp_getNP (f := dtT) c_dtT (evp_var rfl)) evp_int)) (evp_tx ⟨by decide +kernel, by decide +kernel⟩))) (sv_extend rfl rfl (evp_new (evn_lstL (eval_cons (evp_tx ⟨by decide +kernel, by decide +kernel⟩) (eval_star (evp_sub (r' := (lS tTx)) seq_lL (evp_call (eva_cons (evp_op opv_ixT (evp_getNP (f := dtT) c_dtT (evp_var rfl)) evp_int) eva_nil))) (eval_star (evp_sub (r' := (lS tTx)) seq_lL (evp_call (eva_cons (evp_sub (r' := (lS tDt)) seq_lT (evp_getN (f := dtT) c_dtT (evp_op opv_ixT (evp_getNP (f := dtT) c_dtT (evp_var rfl)) evp_int))) eva_nil))) eval_nil))))) (fun x28 =>
 (sv_seq (G' := (fun z33 : (List Str) => [.frz (lS tDt) (p_block), .mut (mL tTx) (z33), .frz tDt (x3)])) (sv_if (evt_tru tru_lT (evp_getN (f := dtT) c_dtT (evp_op opv_ixT (evp_getNP (f := dtT) c_dtT (evp_var rfl)) evp_int))) (sv_last (sv_extend rfl rfl (evp_new (evn_lstL (eval_cons (evp_tx ⟨by decide +kernel, by decide +kernel⟩) (eval_star (evp_sub (r' := (lS tTx)) seq_lL (evp_call (eva_cons (evp_sub (r' := (lS tDt)) seq_lT (evp_getN (f := dtT) c_dtT (evp_op opv_ixT (evp_getNP (f := dtT) c_dtT (evp_var rfl)) evp_int))) eva_nil))) eval_nil)))) (fun x45 =>
 (sv_end (.cons .same (.cons .same (.cons .same .nil))))))) (sv_end (.cons .same (.cons .same (.cons .same .nil))))) (fun z33 =>
 (sv_last (sv_append rfl (evp_tx ⟨by decide +kernel, by decide +kernel⟩) rfl (fun x47 =>
 (sv_end (.cons .same (.cons .same (.cons .same .nil))))))))))) (sv_last (sv_seq (G' := (fun z53 : (List Str) => [.frz (lS tDt) (p_block), .mut (mL tTx) (z53), .frz tDt (x3)])) (sv_if (evt_test (evp_op opv_eqS (evp_getN (f := dtS) c_dtS (evp_op opv_ixT (evp_getNP (f := dtT) c_dtT (evp_var rfl)) evp_int)) (evp_tx ⟨by decide +kernel, by decide +kernel⟩))) (sv_last (sv_extend rfl rfl (evp_new (evn_lst (allC (allC (allC allN))) (eva_cons (evp_tx ⟨by decide +kernel, by decide +kernel⟩) (eva_cons (evp_getN (f := dtS) c_dtS (evp_op opv_ixT (evp_getNP (f := dtT) c_dtT (evp_var rfl)) evp_int)) (eva_cons (evp_CB cb_strD (eva_cons (evp_op opv_ixT (evp_getNP (f := dtT) c_dtT (evp_var rfl)) evp_int) eva_nil)) eva_nil))))) (fun x69 =>
 (sv_end (.cons .same (.cons .same (.cons .same .nil))))))) (sv_last (sv_extend rfl rfl (evp_new (evn_lstL (eval_star (evp_sub (r' := (lS tTx)) seq_lT (evp_getN (f := allS) c_allS (evp_slT (evp_getNP (f := dtT) c_dtT (evp_var rfl)) evo_none (evo_someP (evp_unP unv_U evp_int))))) (eval_star (evp_sub (r' := (lS tTx)) seq_lL (evp_call (eva_cons (evp_op opv_ixT (evp_getNP (f := dtT) c_dtT (evp_var rfl)) (evp_unP unv_U evp_int)) eva_nil))) eval_nil)))) (fun x84 =>
 (sv_end (.cons .same (.cons .same (.cons .same .nil)))))))) (fun z53 =>
 (sv_end (.cons .same (.cons .same (.cons .same .nil)))))))) (fun z9 =>
 (sv_end (.cons .same (.cons .same (.cons .any .nil)))))))) (fun z87 =>
 (sv_weak (.cons .same (.cons .close (.cons .same .nil))) (sv_retPP (evp_var rfl)))))))
theorem sc_box_text : FnScope ["box", "words", "name", "size"] ["box"] (defScope Hd.s_box_text) := ⟨rfl, rfl, rfl, by decide +kernel, rfl, by decide +kernel, by decide +kernel⟩
theorem ok_box_text {w : World} {K : PySem.W.Frag} {mg : Str → Option Value} {base : Heap} (T : Tx K mg) (H_block_words : Fnc PySem.Challenge.pw_notesttells_k52_bounds_of_boxes w K mg base 14 "block_words" ["block"] (spP K (raC (lS tDt) raN) (lL tTx) (fun x => m_block_words 6 x.1))) {f : Addr} {fd : FuncData} {dvs : List V} (FD : FunD K "box_text" "box_text" (defArgs Hd.s_box_text) (defBody Hd.s_box_text) (defScope Hd.s_box_text) dvs [] f fd) : FnOk PySem.Challenge.pw_notesttells_k52_bounds_of_boxes w K mg base (L2.CX PySem.Challenge.pw_notesttells_k52_bounds_of_boxes w) 15 f fd ["box"] (spP K (raC (tIns (He.ga K "Box") (d_Box K)) raN) tTx (fun x => m_box_text x.1)) := by
  refine FD.ok sc_box_text (fun vs H Q E h => ?_) (fun cdv A outer s H vs Q E hr h => ?_)
  · obtain ⟨_, _, _, ⟨_, _, rfl, _, hn⟩, _⟩ := h
    cases (show _ = [] from hn)
    rfl
  obtain ⟨F, ⟨p_box, _⟩, e, ⟨v0, _, rfl, h0, hn⟩, hm⟩ := h
  cases (show _ = [] from hn)
  refine ⟨_, (pss_cons (ps_set (i := 1) sc_box_text.nd rfl (by first | exact Or.inl rfl | exact Or.inr rfl) (pe_lst (pa_cons pe_str (pa_cons (pe_callTy call_str_int (by rfl) T.m_str (by decide +kernel) (pa_cons (pe_fld (pv 0) rfl) pa_nil)) (pa_cons pe_str (pa_cons (pe_callTy call_str_int (by rfl) T.m_str (by decide +kernel) (pa_cons (pe_fld (pv 0) rfl) pa_nil)) pa_nil))))))
  (pss_cons (ps_for (passes_of rfl) rfl (pi_tup (pe_fld (pv 0) rfl)) (pg_tup (n := 2) (by rfl) (pgs_cons (pg_name (i := 2) sc_box_text.nd rfl (by first | exact Or.inl rfl | exact Or.inr rfl)) (pgs_cons (pg_name (i := 3) sc_box_text.nd rfl (by first | exact Or.inl rfl | exact Or.inr rfl)) pgs_nil)))
  (pss_one (ps_expr (pe_bm PySem.F.plainAttrs_list PySem.F.slot_list_extend PySem.F.type_list_extend mt_extend (pv 1) (pa_cons (pe_lst (pa_cons pe_str (pa_cons (pv 2) (pa_cons (pe_callTy call_str_int (by rfl) T.m_str (by decide +kernel) (pa_cons (pv 3) pa_nil)) pa_nil)))) pa_nil)))))
  (pss_one (ps_ret (pe_join pe_str (pe_lst (StX.pa_star (pv 1) (pa_cons pe_str (StX.pa_star (pe_fn H_block_words (hr.mono (by decide)) (passes_call (takes_of rfl rfl rfl rfl) (fun _ _ _ _ h => h)) (pa_cons (pe_fld (pv 0) rfl) pa_nil)) (pa_cons pe_str (StX.pa_star (pe_fn H_block_words (hr.mono (by decide)) (passes_call (takes_of rfl rfl rfl rfl) (fun _ _ _ _ h => h)) (pa_cons (pe_fld (pv 0) rfl) pa_nil)) pa_nil))))))))))), ?_⟩
  refine g_start (σ' := [some v0, none, none, none]) rfl ?_
  unfold m_box_text at hm
  refine fn_P (Γ := [.frz (tIns (He.ga K "Box") (d_Box K)) (p_box), .any, .any, .any]) ?_ e (hol_frz h0 (hol_any (hol_any (hol_any hol_nil)))) rfl hm
  exact (sv_new (evn_lst (allC (allC (allC (allC allN)))) (eva_cons (evp_tx ⟨by decide +kernel, by decide +kernel⟩) (eva_cons (evp_CBP cb_strI (eva_consP (evp_fldP (d := d_Box K) (g := fun x => (x).1.1.1.1.2) (x := p_box) T.k_Box T.n_Box_buttons (FldAt.there (FldAt.there (FldAt.there (FldAt.there (FldAt.here (show ("buttons" : Str) ∉ ([] : List Str) from by decide +kernel)))))) (evp_var rfl)) eva_nil)) (eva_cons (evp_tx ⟨by decide +kernel, by decide +kernel⟩) (eva_cons (evp_CBP cb_strI (eva_consP (evp_fldP (d := d_Box K) (g := fun x => (x).1.1.1.2) (x := p_box) T.k_Box T.n_Box_answers (FldAt.there (FldAt.there (FldAt.there (FldAt.here (show ("answers" : Str) ∉ (["buttons"] : List Str) from by decide +kernel))))) (evp_var rfl)) eva_nil)) eva_nil))))) ⟨_, rfl⟩ (fun x10 =>
 (sv_for (G' := (fun z11 : (List Str) => [.frz (tIns (He.ga K "Box") (d_Box K)) (p_box), .mut (mL tTx) (z11), .any, .any])) (s0 := (x10)) (.cons .same (.cons .same (.cons .any (.cons .any .nil)))) (evi_tup (evp_fldP (d := d_Box K) (g := fun x => (x).1.1.2) (x := p_box) T.k_Box T.n_Box_variables (FldAt.there (FldAt.there (FldAt.here (show ("variables" : Str) ∉ (["buttons", "answers"] : List Str) from by decide +kernel)))) (evp_var rfl))) (fun z11 => (evg_two evg_name (fun _ => evg_name))) (fun x12 z11 => (sv_last (sv_extend rfl rfl (evp_new (evn_lst (allC (allC (allC allN))) (eva_cons (evp_tx ⟨by decide +kernel, by decide +kernel⟩) (eva_cons (evp_var rfl) (eva_cons (evp_CBP cb_strI (eva_consP (evp_var rfl) eva_nil)) eva_nil))))) (fun x20 =>
 (sv_end (.cons .same (.cons .same (.cons .any (.cons .any .nil))))))))) (fun z21 =>
 (sv_weak (.cons .same (.cons .close (.cons .same (.cons .same .nil)))) (sv_retP (evp_join (evp_tx ⟨by decide +kernel, by decide +kernel⟩) (evp_sub (r' := (lS tTx)) seq_lL (evp_new (evn_lstL (eval_star (evp_sub (r' := (lS tTx)) seq_lL (evp_var rfl)) (eval_cons (evp_tx ⟨by decide +kernel, by decide +kernel⟩) (eval_star (evp_sub (r' := (lS tTx)) seq_lL (evp_callP (x := ((p_box).1.2, ())) (eva_consP (evp_sub (r' := (lS tDt)) seq_lT (evp_fldP (d := d_Box K) (g := fun x => (x).1.2) (x := p_box) T.k_Box T.n_Box_start (FldAt.there (FldAt.here (show ("start" : Str) ∉ (["buttons", "answers", "variables"] : List Str) from by decide +kernel))) (evp_var rfl))) eva_nil))) (eval_cons (evp_tx ⟨by decide +kernel, by decide +kernel⟩) (eval_star (evp_sub (r' := (lS tTx)) seq_lL (evp_callP (x := ((p_box).2, ())) (eva_consP (evp_sub (r' := (lS tDt)) seq_lT (evp_fldP (d := d_Box K) (g := fun x => (x).2) (x := p_box) T.k_Box T.n_Box_block (FldAt.here (show ("block" : Str) ∉ (["buttons", "answers", "variables", "start"] : List Str) from by decide +kernel)) (evp_var rfl))) eva_nil))) eval_nil)))))))))))))))
theorem sc_Cursor_initS : FnScope ["self", "text"] ["self", "text"] (defScope Hd.s_Cursor_init) := ⟨rfl, rfl, rfl, by decide +kernel, rfl, by decide +kernel, by decide +kernel⟩
theorem ok_Cursor_initS {w : World} {K : PySem.W.Frag} {mg : Str → Option Value} {base : Heap} (T : Tx K mg)  {f : Addr} {fd : FuncData} {dvs : List V} (FD : FunD K "__init__" "Cursor.__init__" (defArgs Hd.s_Cursor_init) (defBody Hd.s_Cursor_init) (defScope Hd.s_Cursor_init) dvs [] f fd) : FnOk PySem.Challenge.pw_notesttells_k52_bounds_of_boxes w K mg base (L2.CX PySem.Challenge.pw_notesttells_k52_bounds_of_boxes w) 1 f fd ["self", "text"] (spInitM (He.ga K "Cursor") (raC tTx raN) (md_Cursor K) (fun x => m_Cursor_initS x.1) K) := by
  refine FD.ok sc_Cursor_initS (fun vs H Q E h => ?_) (fun cdv A outer s H vs Q E hr h => ?_)
  · obtain ⟨_, _, _, _, _, rfl, _, _, _, ⟨_, _, rfl, _, hn⟩, _⟩ := h
    cases (show _ = [] from hn)
    rfl
  obtain ⟨F, p0, dx0, _, ⟨p_text, _⟩, rfl, e, hp0, hF0, ⟨v1, _, rfl, h1, hn⟩, hm⟩ := h
  cases (show _ = [] from hn)
  refine ⟨_, (pss_cons (ps_fld (pv 0) (pe_ifExp (pt_truth (pv 1) (by intro _; rfl)) (pe_split (pv 1) pe_str) (pe_lst pa_nil)) rfl)
  (pss_one (ps_fld (pv 0) pe_int rfl))), ?_⟩
  refine g_start (σ' := [some (.ref p0), some v1]) rfl ?_
  unfold m_Cursor_initS at hm
  refine fn_IM (rr := fun _ _ _ _ (z : Empty) => z.elim) (Γ := [.mut ((mObj (He.ga K "Cursor") mdN).pin (.ref p0)) (()), .frz tTx (p_text)]) (d := md_Cursor K) (Γ' := [.any]) ?_ e (hol_mut (mt := (mObj (He.ga K "Cursor") mdN).pin (.ref p0)) ⟨rfl, hol_mobj hp0 hF0 ⟨rfl, rfl⟩⟩ (hol_frz h1 hol_nil) (by simp)) (by simp) hm
  exact (sv_newM (i := 0) (x := ()) (v0 := .ref p0) (d := mdN) rfl T.k_Cursor T.n_Cursor_words (show ("words" : Str) ∉ ([] : List Str) from by decide +kernel) (show 0 < 1000 by decide) (evn_ifP (evt_truP tru_tx (evp_var rfl)) (evn_split (evp_var rfl) (evp_tx ⟨by decide +kernel, by decide +kernel⟩)) (evn_lstP (x := (())) (allN (r := tTx)) eva_nil)) (fun x3 =>
 (sv_last (sv_newF (i := 0) (x := ((), x3)) (v0 := .ref p0) (d := (mdM mdN "words" (mL tTx))) rfl T.k_Cursor T.n_Cursor_at (show ("at" : Str) ∉ (["words"] : List Str) from by decide +kernel) (show 1 < 1000 by decide) evp_int (fun x4 =>
 (sv_end (.cons .same (.cons .any .nil))))))))
theorem sc_Cursor_nextS : FnScope ["self"] ["self"] (defScope Hd.s_Cursor_next) := ⟨rfl, rfl, rfl, by decide +kernel, rfl, by decide +kernel, by decide +kernel⟩
theorem ok_Cursor_nextS {w : World} {K : PySem.W.Frag} {mg : Str → Option Value} {base : Heap} (T : Tx K mg)  {f : Addr} {fd : FuncData} {dvs : List V} (FD : FunD K "next" "Cursor.next" (defArgs Hd.s_Cursor_next) (defBody Hd.s_Cursor_next) (defScope Hd.s_Cursor_next) dvs [] f fd) : FnOk PySem.Challenge.pw_notesttells_k52_bounds_of_boxes w K mg base (L2.CX PySem.Challenge.pw_notesttells_k52_bounds_of_boxes w) 1 f fd ["self"] (spS K (mObj (He.ga K "Cursor") (md_Cursor K)) raN (tOpt tTx) (fun s x => m_Cursor_nextS s )) := by
  refine FD.ok sc_Cursor_nextS (fun vs H Q E h => ?_) (fun cdv A outer s H vs Q E hr h => ?_)
  · obtain ⟨_, _, _, _, _, _, rfl, _, _, hn, _⟩ := h
    cases (show _ = [] from hn)
    rfl
  obtain ⟨F, p0, _, fp, p_self, _, rfl, e, hP, hn, hm⟩ := h
  cases (show _ = [] from hn)
  refine ⟨_, (pss_one (ps_ret (pe_ifExp (pt_cmpR op_lt (pe_fld (pv 0) rfl) (pe_callB call_lenS (by rfl) T.m_len PySem.boot_len (pa_cons (pe_fld (pv 0) rfl) pa_nil)) (nomark _)) (pe_ix ix_list (pe_fld (pv 0) rfl) (pe_fld (pv 0) rfl) (fun _ _ => rfl)) pe_non))), ?_⟩
  refine g_start (σ' := [some p0]) rfl ?_
  unfold m_Cursor_nextS at hm
  refine fn_S (Γ := [.mut ((mObj (He.ga K "Cursor") (md_Cursor K)).pin p0) (p_self)]) (mt := (mObj (He.ga K "Cursor") (md_Cursor K))) ?_ e (hol_mut (mt := (mObj (He.ga K "Cursor") (md_Cursor K)).pin p0) ⟨rfl, hP⟩ hol_nil (by simp)) (by simp) hm
  exact (sv_retS (i := 0) (mt := (mObj (He.ga K "Cursor") (md_Cursor K))) (evs_of (i := 0) (mt := ((mObj (He.ga K "Cursor") (md_Cursor K)).pin p0)) rfl (evp_ifP (evt_test (evp_opP opv_I0B (evp_fldO (i := 0) (x := p_self) (g := fun x : S_Cursor => (x).2) rfl (MtLe.pin _ _) T.k_Cursor T.n_Cursor_at (FrL.here (show ("at" : Str) ∉ (["words"] : List Str) from by decide +kernel))) (evp_lenO (i := 0) (x := p_self) (g := fun x : S_Cursor => (x).1.2) rfl (MtLe.pin _ _) T.k_Cursor T.n_Cursor_words (MuL.thereF (MuL.here (show ("words" : Str) ∉ ([] : List Str) from by decide +kernel)))))) (evp_cast (r2 := (tOpt tTx)) (f := some) (fun _ _ _ h => h) (evp_ixOP (i := 0) (x := p_self) (g := fun x : S_Cursor => (x).1.2) (s := fun (x : S_Cursor) y => ((((x).1).1, y), (x).2)) rfl (MtLe.pin _ _) T.k_Cursor T.n_Cursor_words (MuL.thereF (MuL.here (show ("words" : Str) ∉ ([] : List Str) from by decide +kernel))) (evp_fldO (i := 0) (x := p_self) (g := fun x : S_Cursor => (x).2) rfl (MtLe.pin _ _) T.k_Cursor T.n_Cursor_at (FrL.here (show ("at" : Str) ∉ (["words"] : List Str) from by decide +kernel))))) evp_non)) (by exact Nat.succ_pos _))
theorem sc_Cursor_wordS : FnScope ["self", "words", "found"] ["self", "words"] (defScope Hd.s_Cursor_word) := ⟨rfl, rfl, rfl, by decide +kernel, rfl, by decide +kernel, by decide +kernel⟩
theorem ok_Cursor_wordS {w : World} {K : PySem.W.Frag} {mg : Str → Option Value} {base : Heap} (T : Tx K mg) (H_Cursor_nextS : Mtc PySem.Challenge.pw_notesttells_k52_bounds_of_boxes w K mg base 1 (He.ga K "Cursor") "next" ["self"] (spS K (mObj (He.ga K "Cursor") (md_Cursor K)) raN (tOpt tTx) (fun s x => m_Cursor_nextS s ))) {f : Addr} {fd : FuncData} {dvs : List V} (FD : FunD K "word" "Cursor.word" (defArgs Hd.s_Cursor_word) (defBody Hd.s_Cursor_word) (defScope Hd.s_Cursor_word) dvs [] f fd) : FnOk PySem.Challenge.pw_notesttells_k52_bounds_of_boxes w K mg base (L2.CX PySem.Challenge.pw_notesttells_k52_bounds_of_boxes w) 3 f fd ["self", "words"] (spS K (mObj (He.ga K "Cursor") (md_Cursor K)) (raC (lS tTx) raN) tTx (fun s x => m_Cursor_wordS s x.1)) := by
  refine FD.ok sc_Cursor_wordS (fun vs H Q E h => ?_) (fun cdv A outer s H vs Q E hr h => ?_)
  · obtain ⟨_, _, _, _, _, _, rfl, _, _, ⟨_, _, rfl, _, hn⟩, _⟩ := h
    cases (show _ = [] from hn)
    rfl
  obtain ⟨F, p0, _, fp, p_self, ⟨p_words, _⟩, rfl, e, hP, ⟨v1, _, rfl, h1, hn⟩, hm⟩ := h
  cases (show _ = [] from hn)
  refine ⟨_, (pss_cons (ps_set (i := 2) sc_Cursor_wordS.nd rfl (by first | exact Or.inl rfl | exact Or.inr rfl) (pe_mt0 H_Cursor_nextS (pv 0) (hr.mono (by decide)) (passes_call (takes_of rfl rfl rfl rfl) (fun _ _ _ _ h => h))))
  (pss_cons (ps_if (PW.pt (pw_or (pt_cmpR op_isN1 (pv 2) pe_non (nomark _)) (pw_or1 (pt_cmpR op_notIn_seq (pv 2) (pv 1) (by rfl))))) (pss_one (ps_raise rfl (takes_of rfl rfl rfl rfl) (pmk_At T.x_BadText T.n_BadText_at T.g_BadText T.m_super rfl hr (pa_cons (pe_fld (pv 0) rfl) pa_nil)))) pss_nil)
  (pss_cons (ps_fldaug (pv 0) pe_int in_add)
  (pss_one (ps_ret (pv 2)))))), ?_⟩
  refine g_start (σ' := [some p0, some v1, none]) rfl ?_
  unfold m_Cursor_wordS at hm
  refine fn_S (Γ := [.mut ((mObj (He.ga K "Cursor") (md_Cursor K)).pin p0) (p_self), .frz (lS tTx) (p_words), .any]) (mt := (mObj (He.ga K "Cursor") (md_Cursor K))) ?_ e (hol_mut (mt := (mObj (He.ga K "Cursor") (md_Cursor K)).pin p0) ⟨rfl, hP⟩ (hol_frz h1 (hol_any hol_nil)) (by simp)) (by simp) hm
  exact (sv_asgS (i := 0) (mt := ((mObj (He.ga K "Cursor") (md_Cursor K)).pin p0)) (evs_methS (i := 0) (MtLe.pin _ _) (show ("next" : Str) ∉ (["words", "at"] : List Str) from by decide +kernel) rfl (evsa_nil (i := 0) (mt := ((mObj (He.ga K "Cursor") (md_Cursor K)).pin p0)) rfl)) (fun x2 =>
 (sv_ifE (evt_or (evt_test (evp_isNP nn_tx (evp_var rfl))) (evt_test (evp_op opv_notIn (evp_someP (evp_var rfl)) (evp_var rfl)))) (sv_raiseA raise_int (eva_consP (evp_fldO (i := 0) (x := x2.2) (g := fun x : S_Cursor => (x).2) rfl (MtLe.pin _ _) T.k_Cursor T.n_Cursor_at (FrL.here (show ("at" : Str) ∉ (["words"] : List Str) from by decide +kernel))) eva_nil)) (sv_skip (sv_augO (i := 0) (x := x2.2) (g := fun x : S_Cursor => (x).2) (s := fun (x : S_Cursor) y => ((x).1, y)) rfl (MtLe.pin _ _) T.k_Cursor T.n_Cursor_at (FrL.here (show ("at" : Str) ∉ (["words"] : List Str) from by decide +kernel)) (show 2 < 1000 by decide) (f := fun a b => Wp.ok (a + b)) opv_addA evp_int (fun x8 =>
 (sv_retS (i := 0) (mt := (mObj (He.ga K "Cursor") (md_Cursor K))) (evs_of (i := 0) (mt := ((mObj (He.ga K "Cursor") (md_Cursor K)).pin p0)) rfl (evp_someP (evp_var rfl))) (by exact Nat.succ_pos _))))))))
theorem sc_digits_of : FnScope ["word", "most", "char"] ["word", "most"] (defScope Hd.s_digits_of) := ⟨rfl, rfl, rfl, by decide +kernel, rfl, by decide +kernel, by decide +kernel⟩
theorem ok_digits_of {w : World} {K : PySem.W.Frag} {mg : Str → Option Value} {base : Heap} (T : Tx K mg)  {f : Addr} {fd : FuncData} {dvs : List V} (FD : FunD K "digits_of" "digits_of" (defArgs Hd.s_digits_of) (defBody Hd.s_digits_of) (defScope Hd.s_digits_of) dvs [] f fd) : FnOk PySem.Challenge.pw_notesttells_k52_bounds_of_boxes w K mg base (L2.CX PySem.Challenge.pw_notesttells_k52_bounds_of_boxes w) 1 f fd ["word", "most"] (spP K (raC tTx (raC tInt raN)) (tOpt tInt) (fun x => m_digits_of x.1 x.2.1)) := by
  refine FD.ok sc_digits_of (fun vs H Q E h => ?_) (fun cdv A outer s H vs Q E hr h => ?_)
  · obtain ⟨_, _, _, ⟨_, _, rfl, _, _, _, rfl, _, hn⟩, _⟩ := h
    cases (show _ = [] from hn)
    rfl
  obtain ⟨F, ⟨p_word, p_most, _⟩, e, ⟨v0, _, rfl, h0, v1, _, rfl, h1, hn⟩, hm⟩ := h
  cases (show _ = [] from hn)
  refine ⟨_, (pss_cons (ps_if (PW.pt (pw_or (pt_not (pt_chain op_lt op_le pe_int (pe_callB call_len_str (by rfl) T.m_len PySem.boot_len (pa_cons (pv 0) pa_nil)) (pv 1))) (pw_or1 (pt_not (pt_val (pe_callB (cr_all (by rfl)) (by rfl) T.m_all (by decide +kernel) (pa_cons (pe_lcA (own := [("char", 2)]) rfl sc_digits_of.nd (pi_str (pv 0)) (blkOk_by (by kernel_rfl)) (fun _ _ _ _ _ => by exact (pg_name (i := 2) sc_digits_of.nd rfl (by first | exact Or.inl rfl | exact Or.inr rfl))) (fun _ _ _ _ _ => by exact pts_nil) (fun _ _ _ _ _ => by exact (pe_cmpR op_in_str (pv 2) pe_str (by rfl)))) pa_nil))))))) (pss_one (ps_ret pe_non)) pss_nil)
  (pss_cons (ps_if (PW.pt (pw_and (pt_cmpR op_eq (pe_ix ix_str (pv 0) pe_int (fun _ _ => rfl)) pe_str (nomark _)) (pw_and1 (pt_cmpR op_ne (pv 0) pe_str (nomark _))))) (pss_one (ps_ret pe_non)) pss_nil)
  (pss_one (ps_ret (pe_callTy call_int_str (by rfl) T.m_int (by decide +kernel) (pa_cons (pv 0) pa_nil)))))), ?_⟩
  refine g_start (σ' := [some v0, some v1, none]) rfl ?_
  unfold m_digits_of at hm
  refine fn_P (Γ := [.frz tTx (p_word), .frz tInt (p_most), .any]) ?_ e (hol_frz h0 (hol_frz h1 (hol_any hol_nil))) rfl hm
  exact (sv_ifEP (evt_orP (evt_notP (evt_test (evp_chainP opv_I0B opv_I0B evp_int (evp_CBP cb_lenS (eva_consP (evp_var rfl) eva_nil)) (evp_var rfl)))) (evt_notP (evt_B (evp_CBP cb_all (eva_consP (evp_new (evn_lcP (evi_strP (evp_var rfl)) (evg_A (fun _ _ _ _ _ => evg_name)) (fun x1 => evp_A (fun _ _ _ _ _ => (evp_opP opv_inS (evp_var rfl) (evp_tx ⟨by decide +kernel, by decide +kernel⟩)))))) eva_nil))))) (sv_retPP evp_non) (sv_skip (sv_ifE (evt_and (evt_test (evp_op opv_eqS (evp_opP opv_ixTx (evp_var rfl) evp_int) (evp_tx ⟨by decide +kernel, by decide +kernel⟩))) (evt_test (evp_opP opv_neS (evp_var rfl) (evp_tx ⟨by decide +kernel, by decide +kernel⟩)))) (sv_retPP evp_non) (sv_skip (sv_retP (evp_cast (r2 := (tOpt tInt)) (f := some) (fun _ _ _ h => h) (evp_CBP cb_intS (eva_consP (evp_var rfl) eva_nil))))))))
theorem sc_number_of : FnScope ["word", "number"] ["word"] (defScope Hd.s_number_of) := ⟨rfl, rfl, rfl, by decide +kernel, rfl, by decide +kernel, by decide +kernel⟩
theorem ok_number_of {w : World} {K : PySem.W.Frag} {mg : Str → Option Value} {base : Heap} (T : Tx K mg) (H_digits_of : Fnc PySem.Challenge.pw_notesttells_k52_bounds_of_boxes w K mg base 1 "digits_of" ["word", "most"] (spP K (raC tTx (raC tInt raN)) (tOpt tInt) (fun x => m_digits_of x.1 x.2.1))) {f : Addr} {fd : FuncData} {dvs : List V} (FD : FunD K "number_of" "number_of" (defArgs Hd.s_number_of) (defBody Hd.s_number_of) (defScope Hd.s_number_of) dvs [] f fd) : FnOk PySem.Challenge.pw_notesttells_k52_bounds_of_boxes w K mg base (L2.CX PySem.Challenge.pw_notesttells_k52_bounds_of_boxes w) 2 f fd ["word"] (spP K (raC tTx raN) (tOpt tInt) (fun x => m_number_of x.1)) := by
  refine FD.ok sc_number_of (fun vs H Q E h => ?_) (fun cdv A outer s H vs Q E hr h => ?_)
  · obtain ⟨_, _, _, ⟨_, _, rfl, _, hn⟩, _⟩ := h
    cases (show _ = [] from hn)
    rfl
  obtain ⟨F, ⟨p_word, _⟩, e, ⟨v0, _, rfl, h0, hn⟩, hm⟩ := h
  cases (show _ = [] from hn)
  refine ⟨_, (pss_cons (ps_set (i := 1) sc_number_of.nd rfl (by first | exact Or.inl rfl | exact Or.inr rfl) (pe_fn H_digits_of (hr.mono (by decide)) (passes_call (takes_of rfl rfl rfl rfl) (fun _ _ _ _ h => h)) (pa_cons (pv 0) (pa_cons pe_int pa_nil))))
  (pss_one (ps_ret (pe_ifExp (PW.pt (pw_or (pt_cmpR op_isN1 (pv 1) pe_non (nomark _)) (pw_or1 (pt_cmpR op_gt (pv 1) (pe_globI rfl T.c_GREATEST) (nomark _))))) pe_non (pv 1))))), ?_⟩
  refine g_start (σ' := [some v0, none]) rfl ?_
  unfold m_number_of at hm
  refine fn_P (Γ := [.frz tTx (p_word), .any]) ?_ e (hol_frz h0 (hol_any hol_nil)) rfl hm
  exact (sv_asg (evp_callP (x := (p_word, (5 : Int), ())) (eva_consP (evp_var rfl) (eva_consP evp_int eva_nil))) (fun x1 =>
 (sv_retP (evp_if (evt_or (evt_test (evp_isNP nn_int (evp_var rfl))) (evt_test (evp_op opv_I0B (evp_someP (evp_var rfl)) evp_int))) evp_non (evp_var rfl)))))
theorem sc_Cursor_numberS : FnScope ["self", "least", "most", "found", "number"] ["self", "least", "most"] (defScope Hd.s_Cursor_number) := ⟨rfl, rfl, rfl, by decide +kernel, rfl, by decide +kernel, by decide +kernel⟩
theorem ok_Cursor_numberS {w : World} {K : PySem.W.Frag} {mg : Str → Option Value} {base : Heap} (T : Tx K mg) (H_Cursor_nextS : Mtc PySem.Challenge.pw_notesttells_k52_bounds_of_boxes w K mg base 1 (He.ga K "Cursor") "next" ["self"] (spS K (mObj (He.ga K "Cursor") (md_Cursor K)) raN (tOpt tTx) (fun s x => m_Cursor_nextS s ))) (H_number_of : Fnc PySem.Challenge.pw_notesttells_k52_bounds_of_boxes w K mg base 2 "number_of" ["word"] (spP K (raC tTx raN) (tOpt tInt) (fun x => m_number_of x.1))) {f : Addr} {fd : FuncData} {dvs : List V} (FD : FunD K "number" "Cursor.number" (defArgs Hd.s_Cursor_number) (defBody Hd.s_Cursor_number) (defScope Hd.s_Cursor_number) dvs [] f fd) : FnOk PySem.Challenge.pw_notesttells_k52_bounds_of_boxes w K mg base (L2.CX PySem.Challenge.pw_notesttells_k52_bounds_of_boxes w) 3 f fd ["self", "least", "most"] (spS K (mObj (He.ga K "Cursor") (md_Cursor K)) (raC tInt (raC tInt raN)) tInt (fun s x => m_Cursor_numberS s x.1 x.2.1)) := by
  refine FD.ok sc_Cursor_numberS (fun vs H Q E h => ?_) (fun cdv A outer s H vs Q E hr h => ?_)
  · obtain ⟨_, _, _, _, _, _, rfl, _, _, ⟨_, _, rfl, _, _, _, rfl, _, hn⟩, _⟩ := h
    cases (show _ = [] from hn)
    rfl
  obtain ⟨F, p0, _, fp, p_self, ⟨p_least, p_most, _⟩, rfl, e, hP, ⟨v1, _, rfl, h1, v2, _, rfl, h2, hn⟩, hm⟩ := h
  cases (show _ = [] from hn)
  refine ⟨_, (pss_cons (ps_set (i := 3) sc_Cursor_numberS.nd rfl (by first | exact Or.inl rfl | exact Or.inr rfl) (pe_mt0 H_Cursor_nextS (pv 0) (hr.mono (by decide)) (passes_call (takes_of rfl rfl rfl rfl) (fun _ _ _ _ h => h))))
  (pss_cons (ps_set (i := 4) sc_Cursor_numberS.nd rfl (by first | exact Or.inl rfl | exact Or.inr rfl) (pe_ifExp (pt_cmpR op_isN1 (pv 3) pe_non (nomark _)) pe_non (pe_fn H_number_of (hr.mono (by decide)) (passes_call (takes_of rfl rfl rfl rfl) (fun _ _ _ _ h => h)) (pa_cons (pv 3) pa_nil))))
  (pss_cons (ps_if (PW.pt (pw_or (pt_cmpR op_isN1 (pv 4) pe_non (nomark _)) (pw_or1 (pt_not (pt_chain op_le op_le (pv 1) (pv 4) (pv 2)))))) (pss_one (ps_raise rfl (takes_of rfl rfl rfl rfl) (pmk_At T.x_BadText T.n_BadText_at T.g_BadText T.m_super rfl hr (pa_cons (pe_fld (pv 0) rfl) pa_nil)))) pss_nil)
  (pss_cons (ps_fldaug (pv 0) pe_int in_add)
  (pss_one (ps_ret (pv 4))))))), ?_⟩
  refine g_start (σ' := [some p0, some v1, some v2, none, none]) rfl ?_
  unfold m_Cursor_numberS at hm
  refine fn_S (Γ := [.mut ((mObj (He.ga K "Cursor") (md_Cursor K)).pin p0) (p_self), .frz tInt (p_least), .frz tInt (p_most), .any, .any]) (mt := (mObj (He.ga K "Cursor") (md_Cursor K))) ?_ e (hol_mut (mt := (mObj (He.ga K "Cursor") (md_Cursor K)).pin p0) ⟨rfl, hP⟩ (hol_frz h1 (hol_frz h2 (hol_any (hol_any hol_nil)))) (by simp)) (by simp) hm
  exact (sv_asgS (i := 0) (mt := ((mObj (He.ga K "Cursor") (md_Cursor K)).pin p0)) (evs_methS (i := 0) (MtLe.pin _ _) (show ("next" : Str) ∉ (["words", "at"] : List Str) from by decide +kernel) rfl (evsa_nil (i := 0) (mt := ((mObj (He.ga K "Cursor") (md_Cursor K)).pin p0)) rfl)) (fun x2 =>
 (sv_asg (evp_ifP (evt_test (evp_isNP nn_tx (evp_var rfl))) evp_non (evp_call (eva_cons (evp_someP (evp_var rfl)) eva_nil))) (fun x9 =>
 (sv_ifE (evt_or (evt_test (evp_isNP nn_int (evp_var rfl))) (evt_not (evt_test (evp_chain opv_I0B opv_I0B (evp_var rfl) (evp_someP (evp_var rfl)) (evp_var rfl))))) (sv_raiseA raise_int (eva_consP (evp_fldO (i := 0) (x := x2.2) (g := fun x : S_Cursor => (x).2) rfl (MtLe.pin _ _) T.k_Cursor T.n_Cursor_at (FrL.here (show ("at" : Str) ∉ (["words"] : List Str) from by decide +kernel))) eva_nil)) (sv_skip (sv_augO (i := 0) (x := x2.2) (g := fun x : S_Cursor => (x).2) (s := fun (x : S_Cursor) y => ((x).1, y)) rfl (MtLe.pin _ _) T.k_Cursor T.n_Cursor_at (FrL.here (show ("at" : Str) ∉ (["words"] : List Str) from by decide +kernel)) (show 2 < 1000 by decide) (f := fun a b => Wp.ok (a + b)) opv_addA evp_int (fun x18 =>
 (sv_retS (i := 0) (mt := (mObj (He.ga K "Cursor") (md_Cursor K))) (evs_of (i := 0) (mt := ((mObj (He.ga K "Cursor") (md_Cursor K)).pin p0)) rfl (evp_someP (evp_var rfl))) (by exact Nat.succ_pos _))))))))))
theorem sc_Reader_initS : FnScope ["self", "cursor", "uses"] ["self", "cursor", "uses"] (defScope Hd.s_Reader_init) := ⟨rfl, rfl, rfl, by decide +kernel, rfl, by decide +kernel, by decide +kernel⟩
theorem ok_Reader_initS {w : World} {K : PySem.W.Frag} {mg : Str → Option Value} {base : Heap} (T : Tx K mg)  {f : Addr} {fd : FuncData} {dvs : List V} (FD : FunD K "__init__" "Reader.__init__" (defArgs Hd.s_Reader_init) (defBody Hd.s_Reader_init) (defScope Hd.s_Reader_init) dvs [] f fd) : FnOk PySem.Challenge.pw_notesttells_k52_bounds_of_boxes w K mg base (L2.CX PySem.Challenge.pw_notesttells_k52_bounds_of_boxes w) 1 f fd ["self", "cursor", "uses"] (spInitT (He.ga K "Reader") (mObj (He.ga K "Cursor") (md_Cursor K)) (raC tInt raN) (md_ReaderM K) (fun s q x => m_Reader_init s q x.1) K) := by
  refine FD.ok sc_Reader_initS (fun vs H Q E h => ?_) (fun cdv A outer s H vs Q E hr h => ?_)
  · obtain ⟨_, _, _, _, _, _, _, _, rfl, _, _, _, _, _, ⟨_, _, rfl, _, hn⟩, _⟩ := h
    cases (show _ = [] from hn)
    rfl
  obtain ⟨F, p0, dx0, q0, fpq, p_cursor, _, ⟨p_uses, _⟩, rfl, e, hp0, hF0, hcur, hpq, ⟨v2, _, rfl, h2, hn⟩, hm⟩ := h
  cases (show _ = [] from hn)
  refine ⟨_, (pss_cons (ps_fld (pv 0) (pv 1) rfl)
  (pss_cons (ps_fld (pv 0) (pe_lst pa_nil) rfl)
  (pss_cons (ps_fld (pv 0) (pe_globI rfl T.c_MOST_DRAWS) rfl)
  (pss_cons (ps_fld (pv 0) (pv 2) rfl)
  (pss_one (ps_fld (pv 0) (pe_tup pa_nil) rfl)))))), ?_⟩
  refine g_start (σ' := [some (.ref p0), some (.ref q0), some v2]) rfl ?_
  unfold m_Reader_init at hm
  refine fn_IT (rr := fun _ _ _ _ (z : Empty) => z.elim) (Γ := [.mut ((mObj (He.ga K "Reader") mdN).pin (.ref p0)) (()), .mut ((mObj (He.ga K "Cursor") (md_Cursor K)).pin (.ref q0)) (p_cursor), .frz tInt (p_uses)]) (d := md_ReaderM K) (Γ' := [.any, .any]) (fp0 := p0 :: fpq) ?_ e (hol_mut2 (mt := (mObj (He.ga K "Reader") mdN).pin (.ref p0)) ⟨rfl, hol_mobj hp0 hF0 ⟨rfl, rfl⟩⟩ (hol_mut2 (mt := (mObj (He.ga K "Cursor") (md_Cursor K)).pin (.ref q0)) ⟨rfl, hcur⟩ (hol_frz h2 hol_nil) (fun a _ q hq z => by rw [List.mem_singleton] at hq; subst hq; cases z)) (fun a ha q hq z => by
    rw [List.mem_singleton] at ha; subst ha
    rcases List.mem_cons.mp hq with rfl | hq
    · exact hpq z
    · rw [List.mem_singleton] at hq; subst hq; cases z)) (by simp) hm
  exact (sv_newTake (i := 0) (j := 1) (x := ()) (v0 := .ref p0) (d := mdN) rfl rfl (by decide) T.k_Reader T.n_Reader_cursor (by simp [mdN]) (show 0 < 1000 by decide)
 (sv_newM (i := 0) (x := ((), (q0, p_cursor))) (v0 := .ref p0) (d := (mdM mdN "cursor" (mAd (mObj (He.ga K "Cursor") (md_Cursor K))))) rfl T.k_Reader T.n_Reader_names (show ("names" : Str) ∉ (["cursor"] : List Str) from by decide +kernel) (show 1 < 1000 by decide) (evn_lstP (x := (())) (allN (r := tTx)) eva_nil) (fun x1 =>
 (sv_newF (i := 0) (x := (((), (q0, p_cursor)), x1)) (v0 := .ref p0) (d := (mdM (mdM mdN "cursor" (mAd (mObj (He.ga K "Cursor") (md_Cursor K)))) "names" (mL tTx))) rfl T.k_Reader T.n_Reader_left (show ("left" : Str) ∉ (["cursor", "names"] : List Str) from by decide +kernel) (show 2 < 1000 by decide) evp_int (fun x2 =>
 (sv_newF (i := 0) (x := ((((), (q0, p_cursor)), x1), x2)) (v0 := .ref p0) (d := (mdF (mdM (mdM mdN "cursor" (mAd (mObj (He.ga K "Cursor") (md_Cursor K)))) "names" (mL tTx)) "left" tInt)) rfl T.k_Reader T.n_Reader_uses (show ("uses" : Str) ∉ (["cursor", "names", "left"] : List Str) from by decide +kernel) (show 3 < 1000 by decide) (evp_var rfl) (fun x3 =>
 (sv_last (sv_newF (i := 0) (x := (((((), (q0, p_cursor)), x1), x2), x3)) (v0 := .ref p0) (d := (mdF (mdF (mdM (mdM mdN "cursor" (mAd (mObj (He.ga K "Cursor") (md_Cursor K)))) "names" (mL tTx)) "left" tInt) "uses" tInt)) rfl T.k_Reader T.n_Reader_extra (show ("extra" : Str) ∉ (["cursor", "names", "left", "uses"] : List Str) from by decide +kernel) (show 4 < 1000 by decide) (evp_tupP (x := (())) (disp_lT (allN (r := tTx))) (len_lT (allN (r := tTx))) eva_nil) (fun x4 =>
 (sv_end (.cons .same (.cons .any (.cons .any .nil))))))))))))))
theorem sc_is_name : FnScope ["word", "char"] ["word"] (defScope Hd.s_is_name) := ⟨rfl, rfl, rfl, by decide +kernel, rfl, by decide +kernel, by decide +kernel⟩
theorem ok_is_name {w : World} {K : PySem.W.Frag} {mg : Str → Option Value} {base : Heap} (T : Tx K mg)  {f : Addr} {fd : FuncData} {dvs : List V} (FD : FunD K "is_name" "is_name" (defArgs Hd.s_is_name) (defBody Hd.s_is_name) (defScope Hd.s_is_name) dvs [] f fd) : FnOk PySem.Challenge.pw_notesttells_k52_bounds_of_boxes w K mg base (L2.CX PySem.Challenge.pw_notesttells_k52_bounds_of_boxes w) 1 f fd ["word"] (spP K (raC tTx raN) tBool (fun x => m_is_name x.1)) := by
  refine FD.ok sc_is_name (fun vs H Q E h => ?_) (fun cdv A outer s H vs Q E hr h => ?_)
  · obtain ⟨_, _, _, ⟨_, _, rfl, _, hn⟩, _⟩ := h
    cases (show _ = [] from hn)
    rfl
  obtain ⟨F, ⟨p_word, _⟩, e, ⟨v0, _, rfl, h0, hn⟩, hm⟩ := h
  cases (show _ = [] from hn)
  refine ⟨_, (pss_one (ps_ret (pe_and (pe_chain op_lt op_le pe_int (pe_callB call_len_str (by rfl) T.m_len PySem.boot_len (pa_cons (pv 0) pa_nil)) pe_int) (pe_and (pe_cmpR op_notIn_seq (pv 0) (pe_glob (v := .ref (He.ga K "KEYS")) rfl T.g_KEYS rfl) (by rfl)) (pe_one (pe_callB (cr_all (by rfl)) (by rfl) T.m_all (by decide +kernel) (pa_cons (pe_lcA (own := [("char", 1)]) rfl sc_is_name.nd (pi_str (pv 0)) (blkOk_by (by kernel_rfl)) (fun _ _ _ _ _ => by exact (pg_name (i := 1) sc_is_name.nd rfl (by first | exact Or.inl rfl | exact Or.inr rfl))) (fun _ _ _ _ _ => by exact pts_nil) (fun _ _ _ _ _ => by exact (pe_chain op_le_str op_le_str pe_str (pv 1) pe_str))) pa_nil))))))), ?_⟩
  refine g_start (σ' := [some v0, none]) rfl ?_
  unfold m_is_name at hm
  refine fn_P (Γ := [.frz tTx (p_word), .any]) ?_ e (hol_frz h0 (hol_any hol_nil)) rfl hm
  exact (sv_retPP (evp_andVP (evp_chainP opv_I0B opv_I0B evp_int (evp_CBP cb_lenS (eva_consP (evp_var rfl) eva_nil)) evp_int) (evp_andVP (evp_inKP (neg := true) (xs := (["buttons", "answers", "var", "start", "press", "set", "draw", "use", "say", "if", "else", "end", "mod"] : List Str)) T.kt_KEYS (tx_all (by decide +kernel)) (evp_var rfl)) (evp_CBP cb_all (eva_consP (evp_new (evn_lcP (evi_strP (evp_var rfl)) (evg_A (fun _ _ _ _ _ => evg_name)) (fun x1 => evp_A (fun _ _ _ _ _ => (evp_chainP opv_leS opv_leS (evp_tx ⟨by decide +kernel, by decide +kernel⟩) (evp_var rfl) (evp_tx ⟨by decide +kernel, by decide +kernel⟩)))))) eva_nil)))))
theorem sc_Cursor_new_nameS : FnScope ["self", "names", "found"] ["self", "names"] (defScope Hd.s_Cursor_new_name) := ⟨rfl, rfl, rfl, by decide +kernel, rfl, by decide +kernel, by decide +kernel⟩
theorem ok_Cursor_new_nameS {w : World} {K : PySem.W.Frag} {mg : Str → Option Value} {base : Heap} (T : Tx K mg) (H_Cursor_nextS : Mtc PySem.Challenge.pw_notesttells_k52_bounds_of_boxes w K mg base 1 (He.ga K "Cursor") "next" ["self"] (spS K (mObj (He.ga K "Cursor") (md_Cursor K)) raN (tOpt tTx) (fun s x => m_Cursor_nextS s ))) (H_is_name : Fnc PySem.Challenge.pw_notesttells_k52_bounds_of_boxes w K mg base 1 "is_name" ["word"] (spP K (raC tTx raN) tBool (fun x => m_is_name x.1))) {f : Addr} {fd : FuncData} {dvs : List V} (FD : FunD K "new_name" "Cursor.new_name" (defArgs Hd.s_Cursor_new_name) (defBody Hd.s_Cursor_new_name) (defScope Hd.s_Cursor_new_name) dvs [] f fd) : FnOk PySem.Challenge.pw_notesttells_k52_bounds_of_boxes w K mg base (L2.CX PySem.Challenge.pw_notesttells_k52_bounds_of_boxes w) 3 f fd ["self", "names"] (spS K (mObj (He.ga K "Cursor") (md_Cursor K)) (raC (lS tTx) raN) tTx (fun s x => m_Cursor_new_nameS s x.1)) := by
  refine FD.ok sc_Cursor_new_nameS (fun vs H Q E h => ?_) (fun cdv A outer s H vs Q E hr h => ?_)
  · obtain ⟨_, _, _, _, _, _, rfl, _, _, ⟨_, _, rfl, _, hn⟩, _⟩ := h
    cases (show _ = [] from hn)
    rfl
  obtain ⟨F, p0, _, fp, p_self, ⟨p_names, _⟩, rfl, e, hP, ⟨v1, _, rfl, h1, hn⟩, hm⟩ := h
  cases (show _ = [] from hn)
  refine ⟨_, (pss_cons (ps_set (i := 2) sc_Cursor_new_nameS.nd rfl (by first | exact Or.inl rfl | exact Or.inr rfl) (pe_mt0 H_Cursor_nextS (pv 0) (hr.mono (by decide)) (passes_call (takes_of rfl rfl rfl rfl) (fun _ _ _ _ h => h))))
  (pss_cons (ps_if (PW.pt (pw_or (pt_cmpR op_isN1 (pv 2) pe_non (nomark _)) (pw_or (pt_not (pt_val (pe_fn H_is_name (hr.mono (by decide)) (passes_call (takes_of rfl rfl rfl rfl) (fun _ _ _ _ h => h)) (pa_cons (pv 2) pa_nil)))) (pw_or1 (pt_cmpR op_in_seq (pv 2) (pv 1) (by rfl)))))) (pss_one (ps_raise rfl (takes_of rfl rfl rfl rfl) (pmk_At T.x_BadText T.n_BadText_at T.g_BadText T.m_super rfl hr (pa_cons (pe_fld (pv 0) rfl) pa_nil)))) pss_nil)
  (pss_cons (ps_fldaug (pv 0) pe_int in_add)
  (pss_one (ps_ret (pv 2)))))), ?_⟩
  refine g_start (σ' := [some p0, some v1, none]) rfl ?_
  unfold m_Cursor_new_nameS at hm
  refine fn_S (Γ := [.mut ((mObj (He.ga K "Cursor") (md_Cursor K)).pin p0) (p_self), .frz (lS tTx) (p_names), .any]) (mt := (mObj (He.ga K "Cursor") (md_Cursor K))) ?_ e (hol_mut (mt := (mObj (He.ga K "Cursor") (md_Cursor K)).pin p0) ⟨rfl, hP⟩ (hol_frz h1 (hol_any hol_nil)) (by simp)) (by simp) hm
  exact (sv_asgS (i := 0) (mt := ((mObj (He.ga K "Cursor") (md_Cursor K)).pin p0)) (evs_methS (i := 0) (MtLe.pin _ _) (show ("next" : Str) ∉ (["words", "at"] : List Str) from by decide +kernel) rfl (evsa_nil (i := 0) (mt := ((mObj (He.ga K "Cursor") (md_Cursor K)).pin p0)) rfl)) (fun x2 =>
 (sv_ifE (evt_or (evt_test (evp_isNP nn_tx (evp_var rfl))) (evt_or (evt_not (evt_B (evp_call (eva_cons (evp_someP (evp_var rfl)) eva_nil)))) (evt_test (evp_op opv_inN (evp_someP (evp_var rfl)) (evp_var rfl))))) (sv_raiseA raise_int (eva_consP (evp_fldO (i := 0) (x := x2.2) (g := fun x : S_Cursor => (x).2) rfl (MtLe.pin _ _) T.k_Cursor T.n_Cursor_at (FrL.here (show ("at" : Str) ∉ (["words"] : List Str) from by decide +kernel))) eva_nil)) (sv_skip (sv_augO (i := 0) (x := x2.2) (g := fun x : S_Cursor => (x).2) (s := fun (x : S_Cursor) y => ((x).1, y)) rfl (MtLe.pin _ _) T.k_Cursor T.n_Cursor_at (FrL.here (show ("at" : Str) ∉ (["words"] : List Str) from by decide +kernel)) (show 2 < 1000 by decide) (f := fun a b => Wp.ok (a + b)) opv_addA evp_int (fun x13 =>
 (sv_retS (i := 0) (mt := (mObj (He.ga K "Cursor") (md_Cursor K))) (evs_of (i := 0) (mt := ((mObj (He.ga K "Cursor") (md_Cursor K)).pin p0)) rfl (evp_someP (evp_var rfl))) (by exact Nat.succ_pos _))))))))
theorem sc_Cursor_expressionS : FnScope ["self", "names", "extra", "room", "word", "left", "number"] ["self", "names", "extra", "room"] (defScope Hd.s_Cursor_expression) := ⟨rfl, rfl, rfl, by decide +kernel, rfl, by decide +kernel, by decide +kernel⟩
theorem ok_Cursor_expressionS {w : World} {K : PySem.W.Frag} {mg : Str → Option Value} {base : Heap} (T : Tx K mg) (H_Cursor_nextS : Mtc PySem.Challenge.pw_notesttells_k52_bounds_of_boxes w K mg base 1 (He.ga K "Cursor") "next" ["self"] (spS K (mObj (He.ga K "Cursor") (md_Cursor K)) raN (tOpt tTx) (fun s x => m_Cursor_nextS s ))) (H_number_of : Fnc PySem.Challenge.pw_notesttells_k52_bounds_of_boxes w K mg base 2 "number_of" ["word"] (spP K (raC tTx raN) (tOpt tInt) (fun x => m_number_of x.1))) {n : Nat} (H_Cursor_expressionS : Mtc PySem.Challenge.pw_notesttells_k52_bounds_of_boxes w K mg base (3 + n) (He.ga K "Cursor") "expression" ["self", "names", "extra", "room"] (spS K (mObj (He.ga K "Cursor") (md_Cursor K)) (raC (lS tTx) (raC (lS tTx) (raC tInt raN))) tDt (fun s x => m_Cursor_expressionS n s x.1 x.2.1 x.2.2.1))) {f : Addr} {fd : FuncData} {dvs : List V} (FD : FunD K "expression" "Cursor.expression" (defArgs Hd.s_Cursor_expression) (defBody Hd.s_Cursor_expression) (defScope Hd.s_Cursor_expression) dvs [] f fd) : FnOk PySem.Challenge.pw_notesttells_k52_bounds_of_boxes w K mg base (L2.CX PySem.Challenge.pw_notesttells_k52_bounds_of_boxes w) (3 + n + 1) f fd ["self", "names", "extra", "room"] (spS K (mObj (He.ga K "Cursor") (md_Cursor K)) (raC (lS tTx) (raC (lS tTx) (raC tInt raN))) tDt (fun s x => m_Cursor_expressionS (n + 1) s x.1 x.2.1 x.2.2.1)) := by
  refine FD.ok sc_Cursor_expressionS (fun vs H Q E h => ?_) (fun cdv A outer s H vs Q E hr h => ?_)
  · obtain ⟨_, _, _, _, _, _, rfl, _, _, ⟨_, _, rfl, _, _, _, rfl, _, _, _, rfl, _, hn⟩, _⟩ := h
    cases (show _ = [] from hn)
    rfl
  obtain ⟨F, p0, _, fp, p_self, ⟨p_names, p_extra, p_room, _⟩, rfl, e, hP, ⟨v1, _, rfl, h1, v2, _, rfl, h2, v3, _, rfl, h3, hn⟩, hm⟩ := h
  cases (show _ = [] from hn)
  refine ⟨_, (pss_cons (ps_set (i := 4) sc_Cursor_expressionS.nd rfl (by first | exact Or.inl rfl | exact Or.inr rfl) (pe_mt0 H_Cursor_nextS (pv 0) (hr.mono (by omega)) (passes_call (takes_of rfl rfl rfl rfl) (fun _ _ _ _ h => h))))
  (pss_cons (ps_if (pt_cmpR op_isN1 (pv 4) pe_non (nomark _)) (pss_one (ps_raise rfl (takes_of rfl rfl rfl rfl) (pmk_At T.x_BadText T.n_BadText_at T.g_BadText T.m_super rfl hr (pa_cons (pe_fld (pv 0) rfl) pa_nil)))) pss_nil)
  (pss_cons (ps_fldaug (pv 0) pe_int in_add)
  (pss_cons (ps_if (PW.pt (pw_and (pt_cmpR op_in_seq (pv 4) (pe_glob (v := .ref (He.ga K "SIGNS")) rfl T.g_SIGNS rfl) (by rfl)) (pw_and1 (pt_cmpR op_gt (pv 3) pe_int (nomark _))))) (pss_cons (ps_set (i := 5) sc_Cursor_expressionS.nd rfl (by first | exact Or.inl rfl | exact Or.inr rfl) (pe_mt H_Cursor_expressionS (pv 0) (hr.mono (by omega)) (passes_call (takes_of rfl rfl rfl rfl) (fun _ _ _ _ h => h)) (pa_cons (pv 1) (pa_cons (pv 2) (pa_cons (pe_op op_sub (pv 3) pe_int) pa_nil)))))
  (pss_one (ps_ret (pe_tup (pa_cons (pv 4) (pa_cons (pv 5) (pa_cons (pe_mt H_Cursor_expressionS (pv 0) (hr.mono (by omega)) (passes_call (takes_of rfl rfl rfl rfl) (fun _ _ _ _ h => h)) (pa_cons (pv 1) (pa_cons (pv 2) (pa_cons (pe_op op_sub (pv 3) pe_int) pa_nil)))) pa_nil))))))) pss_nil)
  (pss_cons (ps_if (pt_cmpR op_in_seq (pv 4) (pv 1) (by rfl)) (pss_one (ps_ret (pe_tup (pa_cons pe_str (pa_cons (pv 4) pa_nil))))) pss_nil)
  (pss_cons (ps_if (pt_cmpR op_in_seq (pv 4) (pv 2) (by rfl)) (pss_one (ps_ret (pe_tup (pa_cons (pv 4) pa_nil)))) pss_nil)
  (pss_cons (ps_set (i := 6) sc_Cursor_expressionS.nd rfl (by first | exact Or.inl rfl | exact Or.inr rfl) (pe_fn H_number_of (hr.mono (by omega)) (passes_call (takes_of rfl rfl rfl rfl) (fun _ _ _ _ h => h)) (pa_cons (pv 4) pa_nil)))
  (pss_cons (ps_if (pt_cmpR op_isN1 (pv 6) pe_non (nomark _)) (pss_one (ps_raise rfl (takes_of rfl rfl rfl rfl) (pmk_At T.x_BadText T.n_BadText_at T.g_BadText T.m_super rfl hr (pa_cons (pe_op op_sub (pe_fld (pv 0) rfl) pe_int) pa_nil)))) pss_nil)
  (pss_one (ps_ret (pe_tup (pa_cons pe_str (pa_cons (pv 6) pa_nil))))))))))))), ?_⟩
  refine g_start (σ' := [some p0, some v1, some v2, some v3, none, none, none]) rfl ?_
  simp only [m_Cursor_expressionS] at hm
  refine fn_S (Γ := [.mut ((mObj (He.ga K "Cursor") (md_Cursor K)).pin p0) (p_self), .frz (lS tTx) (p_names), .frz (lS tTx) (p_extra), .frz tInt (p_room), .any, .any, .any]) (mt := (mObj (He.ga K "Cursor") (md_Cursor K))) ?_ e (hol_mut (mt := (mObj (He.ga K "Cursor") (md_Cursor K)).pin p0) ⟨rfl, hP⟩ (hol_frz h1 (hol_frz h2 (hol_frz h3 (hol_any (hol_any (hol_any hol_nil)))))) (by simp)) (by simp) hm
  exact (sv_asgS (i := 0) (mt := ((mObj (He.ga K "Cursor") (md_Cursor K)).pin p0)) (evs_methS (i := 0) (MtLe.pin _ _) (show ("next" : Str) ∉ (["words", "at"] : List Str) from by decide +kernel) rfl (evsa_nil (i := 0) (mt := ((mObj (He.ga K "Cursor") (md_Cursor K)).pin p0)) rfl)) (fun x2 =>
 (sv_ifEP (evt_test (evp_isNP nn_tx (evp_var rfl))) (sv_raiseA raise_int (eva_consP (evp_fldO (i := 0) (x := x2.2) (g := fun x : S_Cursor => (x).2) rfl (MtLe.pin _ _) T.k_Cursor T.n_Cursor_at (FrL.here (show ("at" : Str) ∉ (["words"] : List Str) from by decide +kernel))) eva_nil)) (sv_skip (sv_augO (i := 0) (x := x2.2) (g := fun x : S_Cursor => (x).2) (s := fun (x : S_Cursor) y => ((x).1, y)) rfl (MtLe.pin _ _) T.k_Cursor T.n_Cursor_at (FrL.here (show ("at" : Str) ∉ (["words"] : List Str) from by decide +kernel)) (show 2 < 1000 by decide) (f := fun a b => Wp.ok (a + b)) opv_addA evp_int (fun x5 =>
 (sv_ifE (evt_and (evt_test (evp_inK (neg := false) (xs := (["+", "-", "*", "/", "mod", "<", "="] : List Str)) T.kt_SIGNS (tx_all (by decide +kernel)) (evp_someP (evp_var rfl)))) (evt_test (evp_opP opv_I0B (evp_var rfl) evp_int))) (sv_asgS (i := 0) (mt := ((mObj (He.ga K "Cursor") (md_Cursor K)).pin p0)) (evs_methS (i := 0) (MtLe.pin _ _) (show ("expression" : Str) ∉ (["words", "at"] : List Str) from by decide +kernel) rfl (evsa_consA (i := 0) (mt := ((mObj (He.ga K "Cursor") (md_Cursor K)).pin p0)) (evs_ofP (i := 0) (mt := ((mObj (He.ga K "Cursor") (md_Cursor K)).pin p0)) rfl (evp_var rfl)) (fun s8 => (evsa_consA (i := 0) (mt := ((mObj (He.ga K "Cursor") (md_Cursor K)).pin p0)) (evs_ofP (i := 0) (mt := ((mObj (He.ga K "Cursor") (md_Cursor K)).pin p0)) rfl (evp_var rfl)) (fun s9 => (evsa_consA (i := 0) (mt := ((mObj (He.ga K "Cursor") (md_Cursor K)).pin p0)) (evs_ofP (i := 0) (mt := ((mObj (He.ga K "Cursor") (md_Cursor K)).pin p0)) rfl (evp_opP opv_I0 (evp_var rfl) evp_int)) (fun s10 => (evsa_nil (i := 0) (mt := ((mObj (He.ga K "Cursor") (md_Cursor K)).pin p0)) rfl)))))))) (fun x18 =>
 (sv_retS (i := 0) (mt := (mObj (He.ga K "Cursor") (md_Cursor K))) (evs_cast (i := 0) (mt := ((mObj (He.ga K "Cursor") (md_Cursor K)).pin p0)) (r2 := tDt) (f := Dt.tup) dt_tup (evs_tup (i := 0) (mt := ((mObj (He.ga K "Cursor") (md_Cursor K)).pin p0)) (disp_lT (allC (allC (allC allN)))) (len_lT (allC (allC (allC allN)))) (evsa_consA (i := 0) (mt := ((mObj (He.ga K "Cursor") (md_Cursor K)).pin p0)) (evs_of (i := 0) (mt := ((mObj (He.ga K "Cursor") (md_Cursor K)).pin p0)) rfl (evp_cast (r2 := tDt) (f := Dt.str) dt_str (evp_someP (evp_var rfl)))) (fun s21 => (evsa_consA (i := 0) (mt := ((mObj (He.ga K "Cursor") (md_Cursor K)).pin p0)) (evs_ofP (i := 0) (mt := ((mObj (He.ga K "Cursor") (md_Cursor K)).pin p0)) rfl (evp_var rfl)) (fun s22 => (evsa_consA (i := 0) (mt := ((mObj (He.ga K "Cursor") (md_Cursor K)).pin p0)) (evs_methS (i := 0) (MtLe.pin _ _) (show ("expression" : Str) ∉ (["words", "at"] : List Str) from by decide +kernel) rfl (evsa_consA (i := 0) (mt := ((mObj (He.ga K "Cursor") (md_Cursor K)).pin p0)) (evs_ofP (i := 0) (mt := ((mObj (He.ga K "Cursor") (md_Cursor K)).pin p0)) rfl (evp_var rfl)) (fun s23 => (evsa_consA (i := 0) (mt := ((mObj (He.ga K "Cursor") (md_Cursor K)).pin p0)) (evs_ofP (i := 0) (mt := ((mObj (He.ga K "Cursor") (md_Cursor K)).pin p0)) rfl (evp_var rfl)) (fun s24 => (evsa_consA (i := 0) (mt := ((mObj (He.ga K "Cursor") (md_Cursor K)).pin p0)) (evs_ofP (i := 0) (mt := ((mObj (He.ga K "Cursor") (md_Cursor K)).pin p0)) rfl (evp_opP opv_I0 (evp_var rfl) evp_int)) (fun s25 => (evsa_nil (i := 0) (mt := ((mObj (He.ga K "Cursor") (md_Cursor K)).pin p0)) rfl)))))))) (fun s33 => (evsa_nil (i := 0) (mt := ((mObj (He.ga K "Cursor") (md_Cursor K)).pin p0)) rfl))))))))) (by exact Nat.succ_pos _)))) (sv_skip (sv_ifE (evt_test (evp_op opv_inN (evp_someP (evp_var rfl)) (evp_var rfl))) (sv_retS (i := 0) (mt := (mObj (He.ga K "Cursor") (md_Cursor K))) (evs_of (i := 0) (mt := ((mObj (He.ga K "Cursor") (md_Cursor K)).pin p0)) rfl (evp_cast (r2 := tDt) (f := Dt.tup) dt_tup (evp_tup (disp_lT (allC (allC allN))) (len_lT (allC (allC allN))) (eva_cons (evp_castP (r2 := tDt) (f := Dt.str) dt_str (evp_tx ⟨by decide +kernel, by decide +kernel⟩)) (eva_cons (evp_cast (r2 := tDt) (f := Dt.str) dt_str (evp_someP (evp_var rfl))) eva_nil))))) (by exact Nat.succ_pos _)) (sv_skip (sv_ifE (evt_test (evp_op opv_inN (evp_someP (evp_var rfl)) (evp_var rfl))) (sv_retS (i := 0) (mt := (mObj (He.ga K "Cursor") (md_Cursor K))) (evs_of (i := 0) (mt := ((mObj (He.ga K "Cursor") (md_Cursor K)).pin p0)) rfl (evp_cast (r2 := tDt) (f := Dt.tup) dt_tup (evp_tup (disp_lT (allC allN)) (len_lT (allC allN)) (eva_cons (evp_cast (r2 := tDt) (f := Dt.str) dt_str (evp_someP (evp_var rfl))) eva_nil)))) (by exact Nat.succ_pos _)) (sv_skip (sv_asg (evp_call (eva_cons (evp_someP (evp_var rfl)) eva_nil)) (fun x65 =>
 (sv_ifEP (evt_test (evp_isNP nn_int (evp_var rfl))) (sv_raiseA raise_int (eva_consP (evp_opP opv_I0 (evp_fldO (i := 0) (x := ((x2.2).1, x5)) (g := fun x : S_Cursor => (x).2) rfl (MtLe.pin _ _) T.k_Cursor T.n_Cursor_at (FrL.here (show ("at" : Str) ∉ (["words"] : List Str) from by decide +kernel))) evp_int) eva_nil)) (sv_skip (sv_retS (i := 0) (mt := (mObj (He.ga K "Cursor") (md_Cursor K))) (evs_of (i := 0) (mt := ((mObj (He.ga K "Cursor") (md_Cursor K)).pin p0)) rfl (evp_cast (r2 := tDt) (f := Dt.tup) dt_tup (evp_tup (disp_lT (allC (allC allN))) (len_lT (allC (allC allN))) (eva_cons (evp_castP (r2 := tDt) (f := Dt.str) dt_str (evp_tx ⟨by decide +kernel, by decide +kernel⟩)) (eva_cons (evp_cast (r2 := tDt) (f := Dt.int) dt_int (evp_someP (evp_var rfl))) eva_nil))))) (by exact Nat.succ_pos _))))))))))))))))))
theorem sc_Reader_choiceS : FnScope ["self", "room", "test", "then", "other", "ends"] ["self", "room"] (defScope Hd.s_Reader_choice) := ⟨rfl, rfl, rfl, by decide +kernel, rfl, by decide +kernel, by decide +kernel⟩
theorem ok_Reader_choiceS {w : World} {K : PySem.W.Frag} {mg : Str → Option Value} {base : Heap} (T : Tx K mg) (H_Cursor_expressionS : Mtc PySem.Challenge.pw_notesttells_k52_bounds_of_boxes w K mg base 9 (He.ga K "Cursor") "expression" ["self", "names", "extra", "room"] (spS K (mObj (He.ga K "Cursor") (md_Cursor K)) (raC (lS tTx) (raC (lS tTx) (raC tInt raN))) tDt (fun s x => m_Cursor_expressionS 6 s x.1 x.2.1 x.2.2.1))) (H_Cursor_wordS : Mtc PySem.Challenge.pw_notesttells_k52_bounds_of_boxes w K mg base 3 (He.ga K "Cursor") "word" ["self", "words"] (spS K (mObj (He.ga K "Cursor") (md_Cursor K)) (raC (lS tTx) raN) tTx (fun s x => m_Cursor_wordS s x.1))) {n : Nat} {blk : S_Reader → Int → Wp ((List Dt) × S_Reader)} (H_Reader_blockS : Mtc PySem.Challenge.pw_notesttells_k52_bounds_of_boxes w K mg base (9 + 3 * n + 0) (He.ga K "Reader") "block" ["self", "room"] (spS K (mObj (He.ga K "Reader") (md_Reader K)) (raC tInt raN) (lT tDt) (fun s x => blk s x.1))) {f : Addr} {fd : FuncData} {dvs : List V} (FD : FunD K "choice" "Reader.choice" (defArgs Hd.s_Reader_choice) (defBody Hd.s_Reader_choice) (defScope Hd.s_Reader_choice) dvs [] f fd) : FnOk PySem.Challenge.pw_notesttells_k52_bounds_of_boxes w K mg base (L2.CX PySem.Challenge.pw_notesttells_k52_bounds_of_boxes w) (9 + 3 * n + 1) f fd ["self", "room"] (spS K (mObj (He.ga K "Reader") (md_Reader K)) (raC tInt raN) tDt (fun s x => (m_Reader_choice blk) s x.1)) := by
  refine FD.ok sc_Reader_choiceS (fun vs H Q E h => ?_) (fun cdv A outer s H vs Q E hr h => ?_)
  · obtain ⟨_, _, _, _, _, _, rfl, _, _, ⟨_, _, rfl, _, hn⟩, _⟩ := h
    cases (show _ = [] from hn)
    rfl
  obtain ⟨F, p0, _, fp, p_self, ⟨p_room, _⟩, rfl, e, hP, ⟨v1, _, rfl, h1, hn⟩, hm⟩ := h
  cases (show _ = [] from hn)
  refine ⟨_, (pss_cons (ps_fldaug (pe_fld (pv 0) rfl) pe_int in_add)
  (pss_cons (ps_set (i := 2) sc_Reader_choiceS.nd rfl (by first | exact Or.inl rfl | exact Or.inr rfl) (pe_mt H_Cursor_expressionS (pe_fld (pv 0) rfl) (hr.mono (by omega)) (passes_call (takes_of rfl rfl rfl rfl) (fun _ _ _ _ h => h)) (pa_cons (pe_fld (pv 0) rfl) (pa_cons (pe_fld (pv 0) rfl) (pa_cons (pe_globI rfl T.c_DEEPEST) pa_nil)))))
  (pss_cons (ps_set (i := 3) sc_Reader_choiceS.nd rfl (by first | exact Or.inl rfl | exact Or.inr rfl) (pe_mt H_Reader_blockS (pv 0) (hr.mono (by omega)) (passes_call (takes_of rfl rfl rfl rfl) (fun _ _ _ _ h => h)) (pa_cons (pe_op op_sub (pv 1) pe_int) pa_nil)))
  (pss_cons (ps_set (i := 4) sc_Reader_choiceS.nd rfl (by first | exact Or.inl rfl | exact Or.inr rfl) (pe_tup pa_nil))
  (pss_cons (ps_set (i := 5) sc_Reader_choiceS.nd rfl (by first | exact Or.inl rfl | exact Or.inr rfl) (pe_ifExp (PW.pt (pw_or (pt_truth (pe_fld (pv 0) rfl) (by intro _; rfl)) (pw_or (pt_truth (pe_fld (pv 0) rfl) (by intro _; rfl)) (pw_or1 (pt_cmpR op_gt (pv 1) pe_int (nomark _)))))) (pe_tup (pa_cons pe_str (pa_cons pe_str pa_nil))) (pe_tup (pa_cons pe_str pa_nil))))
  (pss_cons (ps_if (pt_cmpR op_eq (pe_mt H_Cursor_wordS (pe_fld (pv 0) rfl) (hr.mono (by omega)) (passes_call (takes_of rfl rfl rfl rfl) (fun _ _ _ _ h => h)) (pa_cons (pv 5) pa_nil)) pe_str (nomark _)) (pss_cons (ps_set (i := 4) sc_Reader_choiceS.nd rfl (by first | exact Or.inl rfl | exact Or.inr rfl) (pe_mt H_Reader_blockS (pv 0) (hr.mono (by omega)) (passes_call (takes_of rfl rfl rfl rfl) (fun _ _ _ _ h => h)) (pa_cons (pe_op op_sub (pv 1) pe_int) pa_nil)))
  (pss_cons (ps_if (pt_not (pt_truth (pv 4) (by intro _; rfl))) (pss_one (ps_raise rfl (takes_of rfl rfl rfl rfl) (pmk_At T.x_BadText T.n_BadText_at T.g_BadText T.m_super rfl hr (pa_cons (pe_fld (pe_fld (pv 0) rfl) rfl) pa_nil)))) pss_nil)
  (pss_one (ps_expr (pe_mt H_Cursor_wordS (pe_fld (pv 0) rfl) (hr.mono (by omega)) (passes_call (takes_of rfl rfl rfl rfl) (fun _ _ _ _ h => h)) (pa_cons (pe_tup (pa_cons pe_str pa_nil)) pa_nil)))))) pss_nil)
  (pss_one (ps_ret (pe_tup (pa_cons pe_str (pa_cons (pv 2) (pa_cons (pv 3) (pa_cons (pv 4) pa_nil))))))))))))), ?_⟩
  refine g_start (σ' := [some p0, some v1, none, none, none, none]) rfl ?_
  unfold m_Reader_choice at hm
  refine fn_S (Γ := [.mut ((mObj (He.ga K "Reader") (md_Reader K)).pin p0) (p_self), .frz tInt (p_room), .any, .any, .any, .any]) (mt := (mObj (He.ga K "Reader") (md_Reader K))) ?_ e (hol_mut (mt := (mObj (He.ga K "Reader") (md_Reader K)).pin p0) ⟨rfl, hP⟩ (hol_frz h1 (hol_any (hol_any (hol_any (hol_any hol_nil))))) (by simp)) (by simp) hm
  exact (sv_augP (d := md_Cursor K) (j := 0) (x := ((p_self).1.1.1.1.2).2) (g := fun x : S_Cursor => (x).2) (s := fun (x : S_Cursor) y => ((x).1, y)) (pth_ad (pth_fld (x := p_self) (g := fun x : S_Reader => (x).1.1.1.1.2) (s := fun (x : S_Reader) y => (rdP_cursor x (y))) (pth_le (j := 0) (x := p_self) rfl (MtLe.pin _ _)) T.k_Reader T.n_Reader_cursor (MuL.thereF (MuL.thereF (MuL.thereF (MuL.thereF (MuL.here (show ("cursor" : Str) ∉ ([] : List Str) from by decide +kernel)))))))) T.k_Cursor T.n_Cursor_at (FrL.here (show ("at" : Str) ∉ (["words"] : List Str) from by decide +kernel)) (show 2 < 1000 by decide) (f := fun a b => Wp.ok (a + b)) opv_addA evp_int (fun x2 =>
 (sv_asgS (i := 0) (mt := ((mObj (He.ga K "Reader") (md_Reader K)).pin p0)) (evs_methP (d := md_Cursor K) (pth_ad (pth_fld (x := (rdP_cursor (p_self) ((((p_self).1.1.1.1.2).1, ((((p_self).1.1.1.1.2).2).1, x2))))) (g := fun x : S_Reader => (x).1.1.1.1.2) (s := fun (x : S_Reader) y => (rdP_cursor x (y))) (pth_le (j := 0) (x := (rdP_cursor (p_self) ((((p_self).1.1.1.1.2).1, ((((p_self).1.1.1.1.2).2).1, x2))))) rfl (MtLe.pin _ _)) T.k_Reader T.n_Reader_cursor (MuL.thereF (MuL.thereF (MuL.thereF (MuL.thereF (MuL.here (show ("cursor" : Str) ∉ ([] : List Str) from by decide +kernel)))))))) (show ("expression" : Str) ∉ (["words", "at"] : List Str) from by decide +kernel) (eva_consP (evp_sub (r' := (lS tTx)) seq_lL (evp_fldO (i := 0) (x := (rdP_cursor (p_self) ((((p_self).1.1.1.1.2).1, ((((p_self).1.1.1.1.2).2).1, x2))))) (g := fun x : S_Reader => (x).1.1.1.2) rfl (MtLe.pin _ _) T.k_Reader T.n_Reader_names (FrL.thereF (FrL.thereF (FrL.thereF (FrL.here (show ("names" : Str) ∉ (["cursor"] : List Str) from by decide +kernel))))))) (eva_consP (evp_sub (r' := (lS tTx)) seq_lT (evp_fldO (i := 0) (x := (rdP_cursor (p_self) ((((p_self).1.1.1.1.2).1, ((((p_self).1.1.1.1.2).2).1, x2))))) (g := fun x : S_Reader => (x).2) rfl (MtLe.pin _ _) T.k_Reader T.n_Reader_extra (FrL.here (show ("extra" : Str) ∉ (["cursor", "names", "left", "uses"] : List Str) from by decide +kernel)))) (eva_consP evp_int eva_nil)))) (fun x5 =>
 (sv_asgS (i := 0) (mt := ((mObj (He.ga K "Reader") (md_Reader K)).pin p0)) (evs_methS (i := 0) (MtLe.pin _ _) (show ("block" : Str) ∉ (["cursor", "names", "left", "uses", "extra"] : List Str) from by decide +kernel) rfl (evsa_consA (i := 0) (mt := ((mObj (He.ga K "Reader") (md_Reader K)).pin p0)) (evs_ofP (i := 0) (mt := ((mObj (He.ga K "Reader") (md_Reader K)).pin p0)) rfl (evp_opP opv_I0 (evp_var rfl) evp_int)) (fun s6 => (evsa_nil (i := 0) (mt := ((mObj (He.ga K "Reader") (md_Reader K)).pin p0)) rfl)))) (fun x10 =>
 (sv_asg (evp_tupP (x := (())) (disp_lT (allN (r := tDt))) (len_lT (allN (r := tDt))) eva_nil) (fun x11 =>
 (sv_asg (evp_ifPP (evt_orP (evt_truP tru_lL (evp_fldO (i := 0) (x := x10.2) (g := fun x : S_Reader => (x).1.1.1.2) rfl (MtLe.pin _ _) T.k_Reader T.n_Reader_names (FrL.thereF (FrL.thereF (FrL.thereF (FrL.here (show ("names" : Str) ∉ (["cursor"] : List Str) from by decide +kernel))))))) (evt_orP (evt_truP tru_lT (evp_fldO (i := 0) (x := x10.2) (g := fun x : S_Reader => (x).2) rfl (MtLe.pin _ _) T.k_Reader T.n_Reader_extra (FrL.here (show ("extra" : Str) ∉ (["cursor", "names", "left", "uses"] : List Str) from by decide +kernel)))) (evt_test (evp_opP opv_I0B (evp_var rfl) evp_int)))) (evp_tupP (x := (("else" : Str), ("end" : Str), ())) (disp_lT (allC (allC allN))) (len_lT (allC (allC allN))) (eva_consP (evp_tx ⟨by decide +kernel, by decide +kernel⟩) (eva_consP (evp_tx ⟨by decide +kernel, by decide +kernel⟩) eva_nil))) (evp_tupP (x := (("end" : Str), ())) (disp_lT (allC allN)) (len_lT (allC allN)) (eva_consP (evp_tx ⟨by decide +kernel, by decide +kernel⟩) eva_nil))) (fun x12 =>
 (sv_seq (G' := (fun z20 : (List Dt) × S_Reader => [.mut ((mObj (He.ga K "Reader") (md_Reader K)).pin p0) (z20.2), .frz tInt (p_room), .frz tDt (x5.1), .frz (lT tDt) (x10.1), .frz (lT tDt) (z20.1), .frz (lT tTx) (x12)])) (sv_ifSA (i := 0) (mt := ((mObj (He.ga K "Reader") (md_Reader K)).pin p0)) (evst_test (i := 0) (mt := ((mObj (He.ga K "Reader") (md_Reader K)).pin p0)) (evs_opA (i := 0) (mt := ((mObj (He.ga K "Reader") (md_Reader K)).pin p0)) opv_eqS (evs_methP (d := md_Cursor K) (pth_ad (pth_fld (x := x10.2) (g := fun x : S_Reader => (x).1.1.1.1.2) (s := fun (x : S_Reader) y => (rdP_cursor x (y))) (pth_le (j := 0) (x := x10.2) rfl (MtLe.pin _ _)) T.k_Reader T.n_Reader_cursor (MuL.thereF (MuL.thereF (MuL.thereF (MuL.thereF (MuL.here (show ("cursor" : Str) ∉ ([] : List Str) from by decide +kernel)))))))) (show ("word" : Str) ∉ (["words", "at"] : List Str) from by decide +kernel) (eva_consP (evp_sub (r' := (lS tTx)) seq_lT (evp_var rfl)) eva_nil)) (fun s15 => (evs_ofP (i := 0) (mt := ((mObj (He.ga K "Reader") (md_Reader K)).pin p0)) rfl (evp_tx ⟨by decide +kernel, by decide +kernel⟩))))) (fun s19 => (sv_asgS (i := 0) (mt := ((mObj (He.ga K "Reader") (md_Reader K)).pin p0)) (evs_methS (i := 0) (MtLe.pin _ _) (show ("block" : Str) ∉ (["cursor", "names", "left", "uses", "extra"] : List Str) from by decide +kernel) rfl (evsa_consA (i := 0) (mt := ((mObj (He.ga K "Reader") (md_Reader K)).pin p0)) (evs_ofP (i := 0) (mt := ((mObj (He.ga K "Reader") (md_Reader K)).pin p0)) rfl (evp_opP opv_I0 (evp_var rfl) evp_int)) (fun s21 => (evsa_nil (i := 0) (mt := ((mObj (He.ga K "Reader") (md_Reader K)).pin p0)) rfl)))) (fun x25 =>
 (sv_ifEP (evt_notP (evt_truP tru_lT (evp_var rfl))) (sv_raiseA raise_int (eva_consP (evp_fldP2 (x := ((x25.2).1.1.1.1.2).2) (g := fun x : S_Cursor => (x).2) (s := fun (x : S_Cursor) y => ((x).1, y)) (pth_ad (pth_fld (x := x25.2) (g := fun x : S_Reader => (x).1.1.1.1.2) (s := fun (x : S_Reader) y => (rdP_cursor x (y))) (pth_le (j := 0) (x := x25.2) rfl (MtLe.pin _ _)) T.k_Reader T.n_Reader_cursor (MuL.thereF (MuL.thereF (MuL.thereF (MuL.thereF (MuL.here (show ("cursor" : Str) ∉ ([] : List Str) from by decide +kernel)))))))) T.k_Cursor T.n_Cursor_at (FrL.here (show ("at" : Str) ∉ (["words"] : List Str) from by decide +kernel))) eva_nil)) (sv_skip (sv_last (sv_dropS (i := 0) (mt := ((mObj (He.ga K "Reader") (md_Reader K)).pin p0)) (evs_methP (d := md_Cursor K) (pth_ad (pth_fld (x := x25.2) (g := fun x : S_Reader => (x).1.1.1.1.2) (s := fun (x : S_Reader) y => (rdP_cursor x (y))) (pth_le (j := 0) (x := x25.2) rfl (MtLe.pin _ _)) T.k_Reader T.n_Reader_cursor (MuL.thereF (MuL.thereF (MuL.thereF (MuL.thereF (MuL.here (show ("cursor" : Str) ∉ ([] : List Str) from by decide +kernel)))))))) (show ("word" : Str) ∉ (["words", "at"] : List Str) from by decide +kernel) (eva_consP (evp_sub (r' := (lS tTx)) seq_lT (evp_tupP (x := (("end" : Str), ())) (disp_lT (allC allN)) (len_lT (allC allN)) (eva_consP (evp_tx ⟨by decide +kernel, by decide +kernel⟩) eva_nil))) eva_nil)) (fun x29 =>
 (sv_end (.cons .same (.cons .same (.cons .same (.cons .same (.cons .same (.cons .same .nil))))))))))))))) (fun s19 => (sv_end (.cons .same (.cons .same (.cons .same (.cons .same (.cons .same (.cons .same .nil))))))))) (fun z20 =>
 (sv_retS (i := 0) (mt := (mObj (He.ga K "Reader") (md_Reader K))) (evs_ofP (i := 0) (mt := ((mObj (He.ga K "Reader") (md_Reader K)).pin p0)) rfl (evp_castP (r2 := tDt) (f := Dt.tup) dt_tup (evp_tupP (x := ((Dt.str ("if" : Str)), x5.1, (Dt.tup x10.1), (Dt.tup z20.1), ())) (disp_lT (allC (allC (allC (allC allN))))) (len_lT (allC (allC (allC (allC allN))))) (eva_consP (evp_castP (r2 := tDt) (f := Dt.str) dt_str (evp_tx ⟨by decide +kernel, by decide +kernel⟩)) (eva_consP (evp_var rfl) (eva_consP (evp_castP (r2 := tDt) (f := Dt.tup) dt_tup (evp_var rfl)) (eva_consP (evp_castP (r2 := tDt) (f := Dt.tup) dt_tup (evp_var rfl)) eva_nil))))))) (by exact Nat.succ_pos _))))))))))))))
theorem sc_Reader_statementS : FnScope ["self", "room", "word", "name"] ["self", "room"] (defScope Hd.s_Reader_statement) := ⟨rfl, rfl, rfl, by decide +kernel, rfl, by decide +kernel, by decide +kernel⟩
theorem ok_Reader_statementS {w : World} {K : PySem.W.Frag} {mg : Str → Option Value} {base : Heap} (T : Tx K mg) (H_Cursor_nextS : Mtc PySem.Challenge.pw_notesttells_k52_bounds_of_boxes w K mg base 1 (He.ga K "Cursor") "next" ["self"] (spS K (mObj (He.ga K "Cursor") (md_Cursor K)) raN (tOpt tTx) (fun s x => m_Cursor_nextS s ))) (H_Cursor_wordS : Mtc PySem.Challenge.pw_notesttells_k52_bounds_of_boxes w K mg base 3 (He.ga K "Cursor") "word" ["self", "words"] (spS K (mObj (He.ga K "Cursor") (md_Cursor K)) (raC (lS tTx) raN) tTx (fun s x => m_Cursor_wordS s x.1))) (H_Cursor_expressionS : Mtc PySem.Challenge.pw_notesttells_k52_bounds_of_boxes w K mg base 9 (He.ga K "Cursor") "expression" ["self", "names", "extra", "room"] (spS K (mObj (He.ga K "Cursor") (md_Cursor K)) (raC (lS tTx) (raC (lS tTx) (raC tInt raN))) tDt (fun s x => m_Cursor_expressionS 6 s x.1 x.2.1 x.2.2.1))) (H_Cursor_numberS : Mtc PySem.Challenge.pw_notesttells_k52_bounds_of_boxes w K mg base 3 (He.ga K "Cursor") "number" ["self", "least", "most"] (spS K (mObj (He.ga K "Cursor") (md_Cursor K)) (raC tInt (raC tInt raN)) tInt (fun s x => m_Cursor_numberS s x.1 x.2.1))) {n : Nat} {cho : S_Reader → Int → Wp (Dt × S_Reader)} (H_Reader_choiceS : Mtc PySem.Challenge.pw_notesttells_k52_bounds_of_boxes w K mg base (9 + 3 * n + 1) (He.ga K "Reader") "choice" ["self", "room"] (spS K (mObj (He.ga K "Reader") (md_Reader K)) (raC tInt raN) tDt (fun s x => cho s x.1))) {f : Addr} {fd : FuncData} {dvs : List V} (FD : FunD K "statement" "Reader.statement" (defArgs Hd.s_Reader_statement) (defBody Hd.s_Reader_statement) (defScope Hd.s_Reader_statement) dvs [] f fd) : FnOk PySem.Challenge.pw_notesttells_k52_bounds_of_boxes w K mg base (L2.CX PySem.Challenge.pw_notesttells_k52_bounds_of_boxes w) (9 + 3 * n + 2) f fd ["self", "room"] (spS K (mObj (He.ga K "Reader") (md_Reader K)) (raC tInt raN) (tOpt tDt) (fun s x => (m_Reader_statement cho) s x.1)) := by
  refine FD.ok sc_Reader_statementS (fun vs H Q E h => ?_) (fun cdv A outer s H vs Q E hr h => ?_)
  · obtain ⟨_, _, _, _, _, _, rfl, _, _, ⟨_, _, rfl, _, hn⟩, _⟩ := h
    cases (show _ = [] from hn)
    rfl
  obtain ⟨F, p0, _, fp, p_self, ⟨p_room, _⟩, rfl, e, hP, ⟨v1, _, rfl, h1, hn⟩, hm⟩ := h
  cases (show _ = [] from hn)
  refine ⟨_, (pss_cons (ps_set (i := 2) sc_Reader_statementS.nd rfl (by first | exact Or.inl rfl | exact Or.inr rfl) (pe_mt0 H_Cursor_nextS (pe_fld (pv 0) rfl) (hr.mono (by omega)) (passes_call (takes_of rfl rfl rfl rfl) (fun _ _ _ _ h => h))))
  (pss_cons (ps_if (PW.pt (pw_and (pt_cmpR op_eq (pv 2) pe_str (nomark _)) (pw_and1 (pt_truth (pe_fld (pv 0) rfl) (by intro _; rfl))))) (pss_cons (ps_fldaug (pe_fld (pv 0) rfl) pe_int in_add)
  (pss_cons (ps_set (i := 3) sc_Reader_statementS.nd rfl (by first | exact Or.inl rfl | exact Or.inr rfl) (pe_mt H_Cursor_wordS (pe_fld (pv 0) rfl) (hr.mono (by omega)) (passes_call (takes_of rfl rfl rfl rfl) (fun _ _ _ _ h => h)) (pa_cons (pe_fld (pv 0) rfl) pa_nil)))
  (pss_one (ps_ret (pe_tup (pa_cons pe_str (pa_cons (pv 3) (pa_cons (pe_mt H_Cursor_expressionS (pe_fld (pv 0) rfl) (hr.mono (by omega)) (passes_call (takes_of rfl rfl rfl rfl) (fun _ _ _ _ h => h)) (pa_cons (pe_fld (pv 0) rfl) (pa_cons (pe_fld (pv 0) rfl) (pa_cons (pe_globI rfl T.c_DEEPEST) pa_nil)))) pa_nil)))))))) pss_nil)
  (pss_cons (ps_if (PW.pt (pw_and (pt_cmpR op_eq (pv 2) pe_str (nomark _)) (pw_and (pt_truth (pe_fld (pv 0) rfl) (by intro _; rfl)) (pw_and1 (pt_truth (pe_fld (pv 0) rfl) (by intro _; rfl)))))) (pss_cons (ps_fldaug (pe_fld (pv 0) rfl) pe_int in_add)
  (pss_cons (ps_fldaug (pv 0) pe_int in_sub)
  (pss_cons (ps_set (i := 3) sc_Reader_statementS.nd rfl (by first | exact Or.inl rfl | exact Or.inr rfl) (pe_mt H_Cursor_wordS (pe_fld (pv 0) rfl) (hr.mono (by omega)) (passes_call (takes_of rfl rfl rfl rfl) (fun _ _ _ _ h => h)) (pa_cons (pe_fld (pv 0) rfl) pa_nil)))
  (pss_one (ps_ret (pe_tup (pa_cons pe_str (pa_cons (pv 3) (pa_cons (pe_mt H_Cursor_numberS (pe_fld (pv 0) rfl) (hr.mono (by omega)) (passes_call (takes_of rfl rfl rfl rfl) (fun _ _ _ _ h => h)) (pa_cons pe_int (pa_cons (pe_globI rfl T.c_MOST_RESULTS) pa_nil))) pa_nil))))))))) pss_nil)
  (pss_cons (ps_if (PW.pt (pw_and (pt_cmpR op_eq (pv 2) pe_str (nomark _)) (pw_and (pt_truth (pe_fld (pv 0) rfl) (by intro _; rfl)) (pw_and1 (pt_truth (pe_fld (pv 0) rfl) (by intro _; rfl)))))) (pss_cons (ps_fldaug (pe_fld (pv 0) rfl) pe_int in_add)
  (pss_cons (ps_fldaug (pv 0) pe_int in_sub)
  (pss_cons (ps_set (i := 3) sc_Reader_statementS.nd rfl (by first | exact Or.inl rfl | exact Or.inr rfl) (pe_mt H_Cursor_wordS (pe_fld (pv 0) rfl) (hr.mono (by omega)) (passes_call (takes_of rfl rfl rfl rfl) (fun _ _ _ _ h => h)) (pa_cons (pe_fld (pv 0) rfl) pa_nil)))
  (pss_one (ps_ret (pe_tup (pa_cons pe_str (pa_cons (pv 3) (pa_cons (pe_mt H_Cursor_expressionS (pe_fld (pv 0) rfl) (hr.mono (by omega)) (passes_call (takes_of rfl rfl rfl rfl) (fun _ _ _ _ h => h)) (pa_cons (pe_fld (pv 0) rfl) (pa_cons (pe_fld (pv 0) rfl) (pa_cons (pe_globI rfl T.c_DEEPEST) pa_nil)))) pa_nil))))))))) pss_nil)
  (pss_cons (ps_if (PW.pt (pw_and (pt_cmpR op_eq (pv 2) pe_str (nomark _)) (pw_and1 (pt_truth (pe_fld (pv 0) rfl) (by intro _; rfl))))) (pss_cons (ps_fldaug (pe_fld (pv 0) rfl) pe_int in_add)
  (pss_one (ps_ret (pe_tup (pa_cons pe_str (pa_cons (pe_mt H_Cursor_expressionS (pe_fld (pv 0) rfl) (hr.mono (by omega)) (passes_call (takes_of rfl rfl rfl rfl) (fun _ _ _ _ h => h)) (pa_cons (pe_fld (pv 0) rfl) (pa_cons (pe_fld (pv 0) rfl) (pa_cons (pe_globI rfl T.c_DEEPEST) pa_nil)))) pa_nil)))))) pss_nil)
  (pss_cons (ps_if (PW.pt (pw_and (pt_cmpR op_eq (pv 2) pe_str (nomark _)) (pw_and1 (pt_truth (pv 1) (by intro _; rfl))))) (pss_one (ps_ret (pe_mt H_Reader_choiceS (pv 0) (hr.mono (by omega)) (passes_call (takes_of rfl rfl rfl rfl) (fun _ _ _ _ h => h)) (pa_cons (pv 1) pa_nil)))) pss_nil)
  (pss_one (ps_ret pe_non)))))))), ?_⟩
  refine g_start (σ' := [some p0, some v1, none, none]) rfl ?_
  unfold m_Reader_statement at hm
  refine fn_S (Γ := [.mut ((mObj (He.ga K "Reader") (md_Reader K)).pin p0) (p_self), .frz tInt (p_room), .any, .any]) (mt := (mObj (He.ga K "Reader") (md_Reader K))) ?_ e (hol_mut (mt := (mObj (He.ga K "Reader") (md_Reader K)).pin p0) ⟨rfl, hP⟩ (hol_frz h1 (hol_any (hol_any hol_nil))) (by simp)) (by simp) hm
  exact (sv_asgS (i := 0) (mt := ((mObj (He.ga K "Reader") (md_Reader K)).pin p0)) (evs_methP (d := md_Cursor K) (pth_ad (pth_fld (x := p_self) (g := fun x : S_Reader => (x).1.1.1.1.2) (s := fun (x : S_Reader) y => (rdP_cursor x (y))) (pth_le (j := 0) (x := p_self) rfl (MtLe.pin _ _)) T.k_Reader T.n_Reader_cursor (MuL.thereF (MuL.thereF (MuL.thereF (MuL.thereF (MuL.here (show ("cursor" : Str) ∉ ([] : List Str) from by decide +kernel)))))))) (show ("next" : Str) ∉ (["words", "at"] : List Str) from by decide +kernel) eva_nil) (fun x3 =>
 (sv_ifEP (evt_andP (evt_test (evp_opP opv_eqOS (evp_var rfl) (evp_tx ⟨by decide +kernel, by decide +kernel⟩))) (evt_truP tru_lL (evp_fldO (i := 0) (x := x3.2) (g := fun x : S_Reader => (x).1.1.1.2) rfl (MtLe.pin _ _) T.k_Reader T.n_Reader_names (FrL.thereF (FrL.thereF (FrL.thereF (FrL.here (show ("names" : Str) ∉ (["cursor"] : List Str) from by decide +kernel)))))))) (sv_augP (d := md_Cursor K) (j := 0) (x := ((x3.2).1.1.1.1.2).2) (g := fun x : S_Cursor => (x).2) (s := fun (x : S_Cursor) y => ((x).1, y)) (pth_ad (pth_fld (x := x3.2) (g := fun x : S_Reader => (x).1.1.1.1.2) (s := fun (x : S_Reader) y => (rdP_cursor x (y))) (pth_le (j := 0) (x := x3.2) rfl (MtLe.pin _ _)) T.k_Reader T.n_Reader_cursor (MuL.thereF (MuL.thereF (MuL.thereF (MuL.thereF (MuL.here (show ("cursor" : Str) ∉ ([] : List Str) from by decide +kernel)))))))) T.k_Cursor T.n_Cursor_at (FrL.here (show ("at" : Str) ∉ (["words"] : List Str) from by decide +kernel)) (show 2 < 1000 by decide) (f := fun a b => Wp.ok (a + b)) opv_addA evp_int (fun x5 =>
 (sv_asgS (i := 0) (mt := ((mObj (He.ga K "Reader") (md_Reader K)).pin p0)) (evs_methP (d := md_Cursor K) (pth_ad (pth_fld (x := (rdP_cursor (x3.2) ((((x3.2).1.1.1.1.2).1, ((((x3.2).1.1.1.1.2).2).1, x5))))) (g := fun x : S_Reader => (x).1.1.1.1.2) (s := fun (x : S_Reader) y => (rdP_cursor x (y))) (pth_le (j := 0) (x := (rdP_cursor (x3.2) ((((x3.2).1.1.1.1.2).1, ((((x3.2).1.1.1.1.2).2).1, x5))))) rfl (MtLe.pin _ _)) T.k_Reader T.n_Reader_cursor (MuL.thereF (MuL.thereF (MuL.thereF (MuL.thereF (MuL.here (show ("cursor" : Str) ∉ ([] : List Str) from by decide +kernel)))))))) (show ("word" : Str) ∉ (["words", "at"] : List Str) from by decide +kernel) (eva_consP (evp_sub (r' := (lS tTx)) seq_lL (evp_fldO (i := 0) (x := (rdP_cursor (x3.2) ((((x3.2).1.1.1.1.2).1, ((((x3.2).1.1.1.1.2).2).1, x5))))) (g := fun x : S_Reader => (x).1.1.1.2) rfl (MtLe.pin _ _) T.k_Reader T.n_Reader_names (FrL.thereF (FrL.thereF (FrL.thereF (FrL.here (show ("names" : Str) ∉ (["cursor"] : List Str) from by decide +kernel))))))) eva_nil)) (fun x8 =>
 (sv_retS (i := 0) (mt := (mObj (He.ga K "Reader") (md_Reader K))) (evs_cast (i := 0) (mt := ((mObj (He.ga K "Reader") (md_Reader K)).pin p0)) (r2 := (tOpt tDt)) (f := some) (fun _ _ _ h => h) (evs_cast (i := 0) (mt := ((mObj (He.ga K "Reader") (md_Reader K)).pin p0)) (r2 := tDt) (f := Dt.tup) dt_tup (evs_tup (i := 0) (mt := ((mObj (He.ga K "Reader") (md_Reader K)).pin p0)) (disp_lT (allC (allC (allC allN)))) (len_lT (allC (allC (allC allN)))) (evsa_consA (i := 0) (mt := ((mObj (He.ga K "Reader") (md_Reader K)).pin p0)) (evs_ofP (i := 0) (mt := ((mObj (He.ga K "Reader") (md_Reader K)).pin p0)) rfl (evp_castP (r2 := tDt) (f := Dt.str) dt_str (evp_tx ⟨by decide +kernel, by decide +kernel⟩))) (fun s9 => (evsa_consA (i := 0) (mt := ((mObj (He.ga K "Reader") (md_Reader K)).pin p0)) (evs_ofP (i := 0) (mt := ((mObj (He.ga K "Reader") (md_Reader K)).pin p0)) rfl (evp_castP (r2 := tDt) (f := Dt.str) dt_str (evp_var rfl))) (fun s10 => (evsa_consA (i := 0) (mt := ((mObj (He.ga K "Reader") (md_Reader K)).pin p0)) (evs_methP (d := md_Cursor K) (pth_ad (pth_fld (x := s10) (g := fun x : S_Reader => (x).1.1.1.1.2) (s := fun (x : S_Reader) y => (rdP_cursor x (y))) (pth_le (j := 0) (x := s10) rfl (MtLe.pin _ _)) T.k_Reader T.n_Reader_cursor (MuL.thereF (MuL.thereF (MuL.thereF (MuL.thereF (MuL.here (show ("cursor" : Str) ∉ ([] : List Str) from by decide +kernel)))))))) (show ("expression" : Str) ∉ (["words", "at"] : List Str) from by decide +kernel) (eva_consP (evp_sub (r' := (lS tTx)) seq_lL (evp_fldO (i := 0) (x := s10) (g := fun x : S_Reader => (x).1.1.1.2) rfl (MtLe.pin _ _) T.k_Reader T.n_Reader_names (FrL.thereF (FrL.thereF (FrL.thereF (FrL.here (show ("names" : Str) ∉ (["cursor"] : List Str) from by decide +kernel))))))) (eva_consP (evp_sub (r' := (lS tTx)) seq_lT (evp_fldO (i := 0) (x := s10) (g := fun x : S_Reader => (x).2) rfl (MtLe.pin _ _) T.k_Reader T.n_Reader_extra (FrL.here (show ("extra" : Str) ∉ (["cursor", "names", "left", "uses"] : List Str) from by decide +kernel)))) (eva_consP evp_int eva_nil)))) (fun s13 => (evsa_nil (i := 0) (mt := ((mObj (He.ga K "Reader") (md_Reader K)).pin p0)) rfl)))))))))) (by exact Nat.succ_pos _)))))) (sv_skip (sv_ifEP (evt_andP (evt_test (evp_opP opv_eqOS (evp_var rfl) (evp_tx ⟨by decide +kernel, by decide +kernel⟩))) (evt_andP (evt_truP tru_lL (evp_fldO (i := 0) (x := x3.2) (g := fun x : S_Reader => (x).1.1.1.2) rfl (MtLe.pin _ _) T.k_Reader T.n_Reader_names (FrL.thereF (FrL.thereF (FrL.thereF (FrL.here (show ("names" : Str) ∉ (["cursor"] : List Str) from by decide +kernel))))))) (evt_truP tru_int (evp_fldO (i := 0) (x := x3.2) (g := fun x : S_Reader => (x).1.1.2) rfl (MtLe.pin _ _) T.k_Reader T.n_Reader_left (FrL.thereF (FrL.thereF (FrL.here (show ("left" : Str) ∉ (["cursor", "names"] : List Str) from by decide +kernel)))))))) (sv_augP (d := md_Cursor K) (j := 0) (x := ((x3.2).1.1.1.1.2).2) (g := fun x : S_Cursor => (x).2) (s := fun (x : S_Cursor) y => ((x).1, y)) (pth_ad (pth_fld (x := x3.2) (g := fun x : S_Reader => (x).1.1.1.1.2) (s := fun (x : S_Reader) y => (rdP_cursor x (y))) (pth_le (j := 0) (x := x3.2) rfl (MtLe.pin _ _)) T.k_Reader T.n_Reader_cursor (MuL.thereF (MuL.thereF (MuL.thereF (MuL.thereF (MuL.here (show ("cursor" : Str) ∉ ([] : List Str) from by decide +kernel)))))))) T.k_Cursor T.n_Cursor_at (FrL.here (show ("at" : Str) ∉ (["words"] : List Str) from by decide +kernel)) (show 2 < 1000 by decide) (f := fun a b => Wp.ok (a + b)) opv_addA evp_int (fun x23 =>
 (sv_augO (i := 0) (x := (rdP_cursor (x3.2) ((((x3.2).1.1.1.1.2).1, ((((x3.2).1.1.1.1.2).2).1, x23))))) (g := fun x : S_Reader => (x).1.1.2) (s := fun (x : S_Reader) y => (rdP_left x (y))) rfl (MtLe.pin _ _) T.k_Reader T.n_Reader_left (FrL.thereF (FrL.thereF (FrL.here (show ("left" : Str) ∉ (["cursor", "names"] : List Str) from by decide +kernel)))) (show 5 < 1000 by decide) (f := fun a b => Wp.ok (a - b)) opv_subA evp_int (fun x25 =>
 (sv_asgS (i := 0) (mt := ((mObj (He.ga K "Reader") (md_Reader K)).pin p0)) (evs_methP (d := md_Cursor K) (pth_ad (pth_fld (x := (rdP_left ((rdP_cursor (x3.2) ((((x3.2).1.1.1.1.2).1, ((((x3.2).1.1.1.1.2).2).1, x23))))) (x25))) (g := fun x : S_Reader => (x).1.1.1.1.2) (s := fun (x : S_Reader) y => (rdP_cursor x (y))) (pth_le (j := 0) (x := (rdP_left ((rdP_cursor (x3.2) ((((x3.2).1.1.1.1.2).1, ((((x3.2).1.1.1.1.2).2).1, x23))))) (x25))) rfl (MtLe.pin _ _)) T.k_Reader T.n_Reader_cursor (MuL.thereF (MuL.thereF (MuL.thereF (MuL.thereF (MuL.here (show ("cursor" : Str) ∉ ([] : List Str) from by decide +kernel)))))))) (show ("word" : Str) ∉ (["words", "at"] : List Str) from by decide +kernel) (eva_consP (evp_sub (r' := (lS tTx)) seq_lL (evp_fldO (i := 0) (x := (rdP_left ((rdP_cursor (x3.2) ((((x3.2).1.1.1.1.2).1, ((((x3.2).1.1.1.1.2).2).1, x23))))) (x25))) (g := fun x : S_Reader => (x).1.1.1.2) rfl (MtLe.pin _ _) T.k_Reader T.n_Reader_names (FrL.thereF (FrL.thereF (FrL.thereF (FrL.here (show ("names" : Str) ∉ (["cursor"] : List Str) from by decide +kernel))))))) eva_nil)) (fun x28 =>
 (sv_retS (i := 0) (mt := (mObj (He.ga K "Reader") (md_Reader K))) (evs_cast (i := 0) (mt := ((mObj (He.ga K "Reader") (md_Reader K)).pin p0)) (r2 := (tOpt tDt)) (f := some) (fun _ _ _ h => h) (evs_cast (i := 0) (mt := ((mObj (He.ga K "Reader") (md_Reader K)).pin p0)) (r2 := tDt) (f := Dt.tup) dt_tup (evs_tup (i := 0) (mt := ((mObj (He.ga K "Reader") (md_Reader K)).pin p0)) (disp_lT (allC (allC (allC allN)))) (len_lT (allC (allC (allC allN)))) (evsa_consA (i := 0) (mt := ((mObj (He.ga K "Reader") (md_Reader K)).pin p0)) (evs_ofP (i := 0) (mt := ((mObj (He.ga K "Reader") (md_Reader K)).pin p0)) rfl (evp_castP (r2 := tDt) (f := Dt.str) dt_str (evp_tx ⟨by decide +kernel, by decide +kernel⟩))) (fun s29 => (evsa_consA (i := 0) (mt := ((mObj (He.ga K "Reader") (md_Reader K)).pin p0)) (evs_ofP (i := 0) (mt := ((mObj (He.ga K "Reader") (md_Reader K)).pin p0)) rfl (evp_castP (r2 := tDt) (f := Dt.str) dt_str (evp_var rfl))) (fun s30 => (evsa_consA (i := 0) (mt := ((mObj (He.ga K "Reader") (md_Reader K)).pin p0)) (evs_cast (i := 0) (mt := ((mObj (He.ga K "Reader") (md_Reader K)).pin p0)) (r2 := tDt) (f := Dt.int) dt_int (evs_methP (d := md_Cursor K) (pth_ad (pth_fld (x := s30) (g := fun x : S_Reader => (x).1.1.1.1.2) (s := fun (x : S_Reader) y => (rdP_cursor x (y))) (pth_le (j := 0) (x := s30) rfl (MtLe.pin _ _)) T.k_Reader T.n_Reader_cursor (MuL.thereF (MuL.thereF (MuL.thereF (MuL.thereF (MuL.here (show ("cursor" : Str) ∉ ([] : List Str) from by decide +kernel)))))))) (show ("number" : Str) ∉ (["words", "at"] : List Str) from by decide +kernel) (eva_consP evp_int (eva_consP evp_int eva_nil)))) (fun s33 => (evsa_nil (i := 0) (mt := ((mObj (He.ga K "Reader") (md_Reader K)).pin p0)) rfl)))))))))) (by exact Nat.succ_pos _)))))))) (sv_skip (sv_ifEP (evt_andP (evt_test (evp_opP opv_eqOS (evp_var rfl) (evp_tx ⟨by decide +kernel, by decide +kernel⟩))) (evt_andP (evt_truP tru_lL (evp_fldO (i := 0) (x := x3.2) (g := fun x : S_Reader => (x).1.1.1.2) rfl (MtLe.pin _ _) T.k_Reader T.n_Reader_names (FrL.thereF (FrL.thereF (FrL.thereF (FrL.here (show ("names" : Str) ∉ (["cursor"] : List Str) from by decide +kernel))))))) (evt_truP tru_int (evp_fldO (i := 0) (x := x3.2) (g := fun x : S_Reader => (x).1.2) rfl (MtLe.pin _ _) T.k_Reader T.n_Reader_uses (FrL.thereF (FrL.here (show ("uses" : Str) ∉ (["cursor", "names", "left"] : List Str) from by decide +kernel))))))) (sv_augP (d := md_Cursor K) (j := 0) (x := ((x3.2).1.1.1.1.2).2) (g := fun x : S_Cursor => (x).2) (s := fun (x : S_Cursor) y => ((x).1, y)) (pth_ad (pth_fld (x := x3.2) (g := fun x : S_Reader => (x).1.1.1.1.2) (s := fun (x : S_Reader) y => (rdP_cursor x (y))) (pth_le (j := 0) (x := x3.2) rfl (MtLe.pin _ _)) T.k_Reader T.n_Reader_cursor (MuL.thereF (MuL.thereF (MuL.thereF (MuL.thereF (MuL.here (show ("cursor" : Str) ∉ ([] : List Str) from by decide +kernel)))))))) T.k_Cursor T.n_Cursor_at (FrL.here (show ("at" : Str) ∉ (["words"] : List Str) from by decide +kernel)) (show 2 < 1000 by decide) (f := fun a b => Wp.ok (a + b)) opv_addA evp_int (fun x43 =>
 (sv_augO (i := 0) (x := (rdP_cursor (x3.2) ((((x3.2).1.1.1.1.2).1, ((((x3.2).1.1.1.1.2).2).1, x43))))) (g := fun x : S_Reader => (x).1.2) (s := fun (x : S_Reader) y => (rdP_uses x (y))) rfl (MtLe.pin _ _) T.k_Reader T.n_Reader_uses (FrL.thereF (FrL.here (show ("uses" : Str) ∉ (["cursor", "names", "left"] : List Str) from by decide +kernel))) (show 5 < 1000 by decide) (f := fun a b => Wp.ok (a - b)) opv_subA evp_int (fun x45 =>
 (sv_asgS (i := 0) (mt := ((mObj (He.ga K "Reader") (md_Reader K)).pin p0)) (evs_methP (d := md_Cursor K) (pth_ad (pth_fld (x := (rdP_uses ((rdP_cursor (x3.2) ((((x3.2).1.1.1.1.2).1, ((((x3.2).1.1.1.1.2).2).1, x43))))) (x45))) (g := fun x : S_Reader => (x).1.1.1.1.2) (s := fun (x : S_Reader) y => (rdP_cursor x (y))) (pth_le (j := 0) (x := (rdP_uses ((rdP_cursor (x3.2) ((((x3.2).1.1.1.1.2).1, ((((x3.2).1.1.1.1.2).2).1, x43))))) (x45))) rfl (MtLe.pin _ _)) T.k_Reader T.n_Reader_cursor (MuL.thereF (MuL.thereF (MuL.thereF (MuL.thereF (MuL.here (show ("cursor" : Str) ∉ ([] : List Str) from by decide +kernel)))))))) (show ("word" : Str) ∉ (["words", "at"] : List Str) from by decide +kernel) (eva_consP (evp_sub (r' := (lS tTx)) seq_lL (evp_fldO (i := 0) (x := (rdP_uses ((rdP_cursor (x3.2) ((((x3.2).1.1.1.1.2).1, ((((x3.2).1.1.1.1.2).2).1, x43))))) (x45))) (g := fun x : S_Reader => (x).1.1.1.2) rfl (MtLe.pin _ _) T.k_Reader T.n_Reader_names (FrL.thereF (FrL.thereF (FrL.thereF (FrL.here (show ("names" : Str) ∉ (["cursor"] : List Str) from by decide +kernel))))))) eva_nil)) (fun x48 =>
 (sv_retS (i := 0) (mt := (mObj (He.ga K "Reader") (md_Reader K))) (evs_cast (i := 0) (mt := ((mObj (He.ga K "Reader") (md_Reader K)).pin p0)) (r2 := (tOpt tDt)) (f := some) (fun _ _ _ h => h) (evs_cast (i := 0) (mt := ((mObj (He.ga K "Reader") (md_Reader K)).pin p0)) (r2 := tDt) (f := Dt.tup) dt_tup (evs_tup (i := 0) (mt := ((mObj (He.ga K "Reader") (md_Reader K)).pin p0)) (disp_lT (allC (allC (allC allN)))) (len_lT (allC (allC (allC allN)))) (evsa_consA (i := 0) (mt := ((mObj (He.ga K "Reader") (md_Reader K)).pin p0)) (evs_ofP (i := 0) (mt := ((mObj (He.ga K "Reader") (md_Reader K)).pin p0)) rfl (evp_castP (r2 := tDt) (f := Dt.str) dt_str (evp_tx ⟨by decide +kernel, by decide +kernel⟩))) (fun s49 => (evsa_consA (i := 0) (mt := ((mObj (He.ga K "Reader") (md_Reader K)).pin p0)) (evs_ofP (i := 0) (mt := ((mObj (He.ga K "Reader") (md_Reader K)).pin p0)) rfl (evp_castP (r2 := tDt) (f := Dt.str) dt_str (evp_var rfl))) (fun s50 => (evsa_consA (i := 0) (mt := ((mObj (He.ga K "Reader") (md_Reader K)).pin p0)) (evs_methP (d := md_Cursor K) (pth_ad (pth_fld (x := s50) (g := fun x : S_Reader => (x).1.1.1.1.2) (s := fun (x : S_Reader) y => (rdP_cursor x (y))) (pth_le (j := 0) (x := s50) rfl (MtLe.pin _ _)) T.k_Reader T.n_Reader_cursor (MuL.thereF (MuL.thereF (MuL.thereF (MuL.thereF (MuL.here (show ("cursor" : Str) ∉ ([] : List Str) from by decide +kernel)))))))) (show ("expression" : Str) ∉ (["words", "at"] : List Str) from by decide +kernel) (eva_consP (evp_sub (r' := (lS tTx)) seq_lL (evp_fldO (i := 0) (x := s50) (g := fun x : S_Reader => (x).1.1.1.2) rfl (MtLe.pin _ _) T.k_Reader T.n_Reader_names (FrL.thereF (FrL.thereF (FrL.thereF (FrL.here (show ("names" : Str) ∉ (["cursor"] : List Str) from by decide +kernel))))))) (eva_consP (evp_sub (r' := (lS tTx)) seq_lT (evp_fldO (i := 0) (x := s50) (g := fun x : S_Reader => (x).2) rfl (MtLe.pin _ _) T.k_Reader T.n_Reader_extra (FrL.here (show ("extra" : Str) ∉ (["cursor", "names", "left", "uses"] : List Str) from by decide +kernel)))) (eva_consP evp_int eva_nil)))) (fun s53 => (evsa_nil (i := 0) (mt := ((mObj (He.ga K "Reader") (md_Reader K)).pin p0)) rfl)))))))))) (by exact Nat.succ_pos _)))))))) (sv_skip (sv_ifEP (evt_andP (evt_test (evp_opP opv_eqOS (evp_var rfl) (evp_tx ⟨by decide +kernel, by decide +kernel⟩))) (evt_truP tru_lT (evp_fldO (i := 0) (x := x3.2) (g := fun x : S_Reader => (x).2) rfl (MtLe.pin _ _) T.k_Reader T.n_Reader_extra (FrL.here (show ("extra" : Str) ∉ (["cursor", "names", "left", "uses"] : List Str) from by decide +kernel))))) (sv_augP (d := md_Cursor K) (j := 0) (x := ((x3.2).1.1.1.1.2).2) (g := fun x : S_Cursor => (x).2) (s := fun (x : S_Cursor) y => ((x).1, y)) (pth_ad (pth_fld (x := x3.2) (g := fun x : S_Reader => (x).1.1.1.1.2) (s := fun (x : S_Reader) y => (rdP_cursor x (y))) (pth_le (j := 0) (x := x3.2) rfl (MtLe.pin _ _)) T.k_Reader T.n_Reader_cursor (MuL.thereF (MuL.thereF (MuL.thereF (MuL.thereF (MuL.here (show ("cursor" : Str) ∉ ([] : List Str) from by decide +kernel)))))))) T.k_Cursor T.n_Cursor_at (FrL.here (show ("at" : Str) ∉ (["words"] : List Str) from by decide +kernel)) (show 2 < 1000 by decide) (f := fun a b => Wp.ok (a + b)) opv_addA evp_int (fun x63 =>
 (sv_retS (i := 0) (mt := (mObj (He.ga K "Reader") (md_Reader K))) (evs_cast (i := 0) (mt := ((mObj (He.ga K "Reader") (md_Reader K)).pin p0)) (r2 := (tOpt tDt)) (f := some) (fun _ _ _ h => h) (evs_cast (i := 0) (mt := ((mObj (He.ga K "Reader") (md_Reader K)).pin p0)) (r2 := tDt) (f := Dt.tup) dt_tup (evs_tup (i := 0) (mt := ((mObj (He.ga K "Reader") (md_Reader K)).pin p0)) (disp_lT (allC (allC allN))) (len_lT (allC (allC allN))) (evsa_consA (i := 0) (mt := ((mObj (He.ga K "Reader") (md_Reader K)).pin p0)) (evs_ofP (i := 0) (mt := ((mObj (He.ga K "Reader") (md_Reader K)).pin p0)) rfl (evp_castP (r2 := tDt) (f := Dt.str) dt_str (evp_tx ⟨by decide +kernel, by decide +kernel⟩))) (fun s64 => (evsa_consA (i := 0) (mt := ((mObj (He.ga K "Reader") (md_Reader K)).pin p0)) (evs_methP (d := md_Cursor K) (pth_ad (pth_fld (x := s64) (g := fun x : S_Reader => (x).1.1.1.1.2) (s := fun (x : S_Reader) y => (rdP_cursor x (y))) (pth_le (j := 0) (x := s64) rfl (MtLe.pin _ _)) T.k_Reader T.n_Reader_cursor (MuL.thereF (MuL.thereF (MuL.thereF (MuL.thereF (MuL.here (show ("cursor" : Str) ∉ ([] : List Str) from by decide +kernel)))))))) (show ("expression" : Str) ∉ (["words", "at"] : List Str) from by decide +kernel) (eva_consP (evp_sub (r' := (lS tTx)) seq_lL (evp_fldO (i := 0) (x := s64) (g := fun x : S_Reader => (x).1.1.1.2) rfl (MtLe.pin _ _) T.k_Reader T.n_Reader_names (FrL.thereF (FrL.thereF (FrL.thereF (FrL.here (show ("names" : Str) ∉ (["cursor"] : List Str) from by decide +kernel))))))) (eva_consP (evp_sub (r' := (lS tTx)) seq_lT (evp_fldO (i := 0) (x := s64) (g := fun x : S_Reader => (x).2) rfl (MtLe.pin _ _) T.k_Reader T.n_Reader_extra (FrL.here (show ("extra" : Str) ∉ (["cursor", "names", "left", "uses"] : List Str) from by decide +kernel)))) (eva_consP evp_int eva_nil)))) (fun s67 => (evsa_nil (i := 0) (mt := ((mObj (He.ga K "Reader") (md_Reader K)).pin p0)) rfl)))))))) (by exact Nat.succ_pos _)))) (sv_skip (sv_ifEP (evt_andP (evt_test (evp_opP opv_eqOS (evp_var rfl) (evp_tx ⟨by decide +kernel, by decide +kernel⟩))) (evt_truP tru_int (evp_var rfl))) (sv_retS (i := 0) (mt := (mObj (He.ga K "Reader") (md_Reader K))) (evs_cast (i := 0) (mt := ((mObj (He.ga K "Reader") (md_Reader K)).pin p0)) (r2 := (tOpt tDt)) (f := some) (fun _ _ _ h => h) (evs_methS (i := 0) (MtLe.pin _ _) (show ("choice" : Str) ∉ (["cursor", "names", "left", "uses", "extra"] : List Str) from by decide +kernel) rfl (evsa_consA (i := 0) (mt := ((mObj (He.ga K "Reader") (md_Reader K)).pin p0)) (evs_ofP (i := 0) (mt := ((mObj (He.ga K "Reader") (md_Reader K)).pin p0)) rfl (evp_var rfl)) (fun s74 => (evsa_nil (i := 0) (mt := ((mObj (He.ga K "Reader") (md_Reader K)).pin p0)) rfl))))) (by exact Nat.succ_pos _)) (sv_skip (sv_retS (i := 0) (mt := (mObj (He.ga K "Reader") (md_Reader K))) (evs_ofP (i := 0) (mt := ((mObj (He.ga K "Reader") (md_Reader K)).pin p0)) rfl evp_non) (by exact Nat.succ_pos _))))))))))))))
theorem sc_Reader_blockS : FnScope ["self", "room", "found", "statement"] ["self", "room"] (defScope Hd.s_Reader_block) := ⟨rfl, rfl, rfl, by decide +kernel, rfl, by decide +kernel, by decide +kernel⟩
theorem ok_Reader_blockS {w : World} {K : PySem.W.Frag} {mg : Str → Option Value} {base : Heap} (T : Tx K mg)  {n : Nat} {stm : S_Reader → Int → Wp ((Option Dt) × S_Reader)} (H_Reader_statementS : Mtc PySem.Challenge.pw_notesttells_k52_bounds_of_boxes w K mg base (9 + 3 * n + 2) (He.ga K "Reader") "statement" ["self", "room"] (spS K (mObj (He.ga K "Reader") (md_Reader K)) (raC tInt raN) (tOpt tDt) (fun s x => stm s x.1))) {f : Addr} {fd : FuncData} {dvs : List V} (FD : FunD K "block" "Reader.block" (defArgs Hd.s_Reader_block) (defBody Hd.s_Reader_block) (defScope Hd.s_Reader_block) dvs [] f fd) : FnOk PySem.Challenge.pw_notesttells_k52_bounds_of_boxes w K mg base (L2.CX PySem.Challenge.pw_notesttells_k52_bounds_of_boxes w) (9 + 3 * n + 3) f fd ["self", "room"] (spS K (mObj (He.ga K "Reader") (md_Reader K)) (raC tInt raN) (lT tDt) (fun s x => (m_Reader_block stm) s x.1)) := by
  refine FD.ok sc_Reader_blockS (fun vs H Q E h => ?_) (fun cdv A outer s H vs Q E hr h => ?_)
  · obtain ⟨_, _, _, _, _, _, rfl, _, _, ⟨_, _, rfl, _, hn⟩, _⟩ := h
    cases (show _ = [] from hn)
    rfl
  obtain ⟨F, p0, _, fp, p_self, ⟨p_room, _⟩, rfl, e, hP, ⟨v1, _, rfl, h1, hn⟩, hm⟩ := h
  cases (show _ = [] from hn)
  refine ⟨_, (pss_cons (ps_set (i := 2) sc_Reader_blockS.nd rfl (by first | exact Or.inl rfl | exact Or.inr rfl) (pe_lst pa_nil))
  (pss_cons (ps_set (i := 3) sc_Reader_blockS.nd rfl (by first | exact Or.inl rfl | exact Or.inr rfl) (pe_mt H_Reader_statementS (pv 0) (hr.mono (by omega)) (passes_call (takes_of rfl rfl rfl rfl) (fun _ _ _ _ h => h)) (pa_cons (pv 1) pa_nil)))
  (pss_cons (ps_while (passes_of rfl) (pt_cmpR op_notN1 (pv 3) pe_non (nomark _)) (pss_cons (ps_expr (pe_bm PySem.F.plainAttrs_list PySem.F.slot_list_append PySem.F.type_list_append mt_append (pv 2) (pa_cons (pv 3) pa_nil)))
  (pss_one (ps_set (i := 3) sc_Reader_blockS.nd rfl (by first | exact Or.inl rfl | exact Or.inr rfl) (pe_mt H_Reader_statementS (pv 0) (hr.mono (by omega)) (passes_call (takes_of rfl rfl rfl rfl) (fun _ _ _ _ h => h)) (pa_cons (pv 1) pa_nil))))))
  (pss_one (ps_ret (pe_callTy call_tupOf (by rfl) T.m_tuple (by decide +kernel) (pa_cons (pv 2) pa_nil))))))), ?_⟩
  refine g_start (σ' := [some p0, some v1, none, none]) rfl ?_
  unfold m_Reader_block at hm
  refine fn_S (Γ := [.mut ((mObj (He.ga K "Reader") (md_Reader K)).pin p0) (p_self), .frz tInt (p_room), .any, .any]) (mt := (mObj (He.ga K "Reader") (md_Reader K))) ?_ e (hol_mut (mt := (mObj (He.ga K "Reader") (md_Reader K)).pin p0) ⟨rfl, hP⟩ (hol_frz h1 (hol_any (hol_any hol_nil))) (by simp)) (by simp) hm
  exact (sv_new (evn_lstP (x := (())) (allN (r := tDt)) eva_nil) ⟨_, rfl⟩ (fun x1 =>
 (sv_asgS (i := 0) (mt := ((mObj (He.ga K "Reader") (md_Reader K)).pin p0)) (evs_methS (i := 0) (MtLe.pin _ _) (show ("statement" : Str) ∉ (["cursor", "names", "left", "uses", "extra"] : List Str) from by decide +kernel) rfl (evsa_consA (i := 0) (mt := ((mObj (He.ga K "Reader") (md_Reader K)).pin p0)) (evs_ofP (i := 0) (mt := ((mObj (He.ga K "Reader") (md_Reader K)).pin p0)) rfl (evp_var rfl)) (fun s2 => (evsa_nil (i := 0) (mt := ((mObj (He.ga K "Reader") (md_Reader K)).pin p0)) rfl)))) (fun x6 =>
 (sv_while (G' := (fun z7 : (List Dt) × (Option Dt) × S_Reader => [.mut ((mObj (He.ga K "Reader") (md_Reader K)).pin p0) (z7.2.2), .frz tInt (p_room), .mut (mL tDt) (z7.1), .frz (tOpt tDt) (z7.2.1)])) (s0 := ((x1), (x6.1), (x6.2))) (.cons .same (.cons .same (.cons .same (.cons .same .nil)))) (fun z7 => (evt_test (evp_notNP nn_dt (evp_var rfl)))) (fun z7 => (sv_append rfl (evp_someP (evp_var rfl)) rfl (fun x8 =>
 (sv_last (sv_asgS (i := 0) (mt := ((mObj (He.ga K "Reader") (md_Reader K)).pin p0)) (evs_methS (i := 0) (MtLe.pin _ _) (show ("statement" : Str) ∉ (["cursor", "names", "left", "uses", "extra"] : List Str) from by decide +kernel) rfl (evsa_consA (i := 0) (mt := ((mObj (He.ga K "Reader") (md_Reader K)).pin p0)) (evs_ofP (i := 0) (mt := ((mObj (He.ga K "Reader") (md_Reader K)).pin p0)) rfl (evp_var rfl)) (fun s9 => (evsa_nil (i := 0) (mt := ((mObj (He.ga K "Reader") (md_Reader K)).pin p0)) rfl)))) (fun x13 =>
 (sv_end (.cons .same (.cons .same (.cons .same (.cons .same .nil))))))))))) (fun z14 =>
 (sv_weak (.cons .same (.cons .same (.cons .close (.cons .same .nil)))) (sv_retS (i := 0) (mt := (mObj (He.ga K "Reader") (md_Reader K))) (evs_ofP (i := 0) (mt := ((mObj (He.ga K "Reader") (md_Reader K)).pin p0)) rfl (evp_CBP cb_tupOf (eva_consP (evp_sub (r' := (lS tDt)) seq_lL (evp_var rfl)) eva_nil))) (by exact Nat.succ_pos _)))))))))
theorem sc_Cursor_finishS : FnScope ["self"] ["self"] (defScope Hd.s_Cursor_finish) := ⟨rfl, rfl, rfl, by decide +kernel, rfl, by decide +kernel, by decide +kernel⟩
theorem ok_Cursor_finishS {w : World} {K : PySem.W.Frag} {mg : Str → Option Value} {base : Heap} (T : Tx K mg)  {f : Addr} {fd : FuncData} {dvs : List V} (FD : FunD K "finish" "Cursor.finish" (defArgs Hd.s_Cursor_finish) (defBody Hd.s_Cursor_finish) (defScope Hd.s_Cursor_finish) dvs [] f fd) : FnOk PySem.Challenge.pw_notesttells_k52_bounds_of_boxes w K mg base (L2.CX PySem.Challenge.pw_notesttells_k52_bounds_of_boxes w) 3 f fd ["self"] (spS K (mObj (He.ga K "Cursor") (md_Cursor K)) raN tNon (fun s x => m_Cursor_finishS s )) := by
  refine FD.ok sc_Cursor_finishS (fun vs H Q E h => ?_) (fun cdv A outer s H vs Q E hr h => ?_)
  · obtain ⟨_, _, _, _, _, _, rfl, _, _, hn, _⟩ := h
    cases (show _ = [] from hn)
    rfl
  obtain ⟨F, p0, _, fp, p_self, _, rfl, e, hP, hn, hm⟩ := h
  cases (show _ = [] from hn)
  refine ⟨_, (pss_one (ps_if (pt_cmpR op_lt (pe_fld (pv 0) rfl) (pe_callB call_lenS (by rfl) T.m_len PySem.boot_len (pa_cons (pe_fld (pv 0) rfl) pa_nil)) (nomark _)) (pss_one (ps_raise rfl (takes_of rfl rfl rfl rfl) (pmk_At T.x_BadText T.n_BadText_at T.g_BadText T.m_super rfl hr (pa_cons (pe_fld (pv 0) rfl) pa_nil)))) pss_nil)), ?_⟩
  refine g_start (σ' := [some p0]) rfl ?_
  unfold m_Cursor_finishS at hm
  refine fn_SN (Γ := [.mut ((mObj (He.ga K "Cursor") (md_Cursor K)).pin p0) (p_self)]) (mt := (mObj (He.ga K "Cursor") (md_Cursor K))) (rr := fun _ _ _ _ (z : Empty) => z.elim) (Γ' := []) ?_ e (hol_mut (mt := (mObj (He.ga K "Cursor") (md_Cursor K)).pin p0) ⟨rfl, hP⟩ hol_nil (by simp)) (by simp) hm
  exact (sv_last (sv_ifEP (evt_test (evp_opP opv_I0B (evp_fldO (i := 0) (x := p_self) (g := fun x : S_Cursor => (x).2) rfl (MtLe.pin _ _) T.k_Cursor T.n_Cursor_at (FrL.here (show ("at" : Str) ∉ (["words"] : List Str) from by decide +kernel))) (evp_lenO (i := 0) (x := p_self) (g := fun x : S_Cursor => (x).1.2) rfl (MtLe.pin _ _) T.k_Cursor T.n_Cursor_words (MuL.thereF (MuL.here (show ("words" : Str) ∉ ([] : List Str) from by decide +kernel)))))) (sv_raiseA raise_int (eva_consP (evp_fldO (i := 0) (x := p_self) (g := fun x : S_Cursor => (x).2) rfl (MtLe.pin _ _) T.k_Cursor T.n_Cursor_at (FrL.here (show ("at" : Str) ∉ (["words"] : List Str) from by decide +kernel))) eva_nil)) (sv_skip (sv_end (.cons .same .nil)))))
theorem sc_Box_init : FnScope ["self", "buttons", "answers", "variables", "start", "block"] ["self", "buttons", "answers", "variables", "start", "block"] (defScope Hd.s_Box_init) := ⟨rfl, rfl, rfl, by decide +kernel, rfl, by decide +kernel, by decide +kernel⟩
theorem ok_Box_init {w : World} {K : PySem.W.Frag} {mg : Str → Option Value} {base : Heap} (T : Tx K mg)  {f : Addr} {fd : FuncData} {dvs : List V} (FD : FunD K "__init__" "Box.__init__" (defArgs Hd.s_Box_init) (defBody Hd.s_Box_init) (defScope Hd.s_Box_init) dvs [] f fd) : FnOk PySem.Challenge.pw_notesttells_k52_bounds_of_boxes w K mg base (L2.CX PySem.Challenge.pw_notesttells_k52_bounds_of_boxes w) 1 f fd ["self", "buttons", "answers", "variables", "start", "block"] (spInit (He.ga K "Box") (raC tInt (raC tInt (raC (lS (tPair tTx tInt)) (raC (lS tDt) (raC (lS tDt) raN))))) (d_Box K) (fun x => m_Box_init x.1 x.2.1 x.2.2.1 x.2.2.2.1 x.2.2.2.2.1) K) := by
  refine FD.ok sc_Box_init (fun vs H Q E h => ?_) (fun cdv A outer s H vs Q E hr h => ?_)
  · obtain ⟨_, _, _, _, _, rfl, _, _, _, ⟨_, _, rfl, _, _, _, rfl, _, _, _, rfl, _, _, _, rfl, _, _, _, rfl, _, hn⟩, _⟩ := h
    cases (show _ = [] from hn)
    rfl
  obtain ⟨F, p0, dx0, _, ⟨p_buttons, p_answers, p_variables, p_start, p_block, _⟩, rfl, e, hp0, hF0, ⟨v1, _, rfl, h1, v2, _, rfl, h2, v3, _, rfl, h3, v4, _, rfl, h4, v5, _, rfl, h5, hn⟩, hm⟩ := h
  cases (show _ = [] from hn)
  refine ⟨_, (pss_cons (ps_fld (pv 0) (pv 1) rfl)
  (pss_cons (ps_fld (pv 0) (pv 2) rfl)
  (pss_cons (ps_fld (pv 0) (pe_callTy call_tupOf (by rfl) T.m_tuple (by decide +kernel) (pa_cons (pv 3) pa_nil)) rfl)
  (pss_cons (ps_fld (pv 0) (pe_callTy call_tupOf (by rfl) T.m_tuple (by decide +kernel) (pa_cons (pv 4) pa_nil)) rfl)
  (pss_one (ps_fld (pv 0) (pe_callTy call_tupOf (by rfl) T.m_tuple (by decide +kernel) (pa_cons (pv 5) pa_nil)) rfl)))))), ?_⟩
  refine g_start (σ' := [some (.ref p0), some v1, some v2, some v3, some v4, some v5]) rfl ?_
  unfold m_Box_init at hm
  refine fn_I' (rr := fun _ _ _ _ (z : Empty) => z.elim) (Γ := [.mut ((mIns (He.ga K "Box") fdN).pin (.ref p0)) (()), .frz tInt (p_buttons), .frz tInt (p_answers), .frz (lS (tPair tTx tInt)) (p_variables), .frz (lS tDt) (p_start), .frz (lS tDt) (p_block)]) (d := d_Box K) (Γ' := [.any, .any, .any, .any, .any]) ?_ e (hol_mut (mt := (mIns (He.ga K "Box") fdN).pin (.ref p0)) ⟨rfl, p0, dx0, [], rfl, rfl, hp0, hF0, rfl⟩ (hol_frz h1 (hol_frz h2 (hol_frz h3 (hol_frz h4 (hol_frz h5 hol_nil))))) (by simp)) (by simp) hm
  exact (sv_fldP rfl T.k_Box T.n_Box_buttons (show ("buttons" : Str) ∉ ([] : List Str) from by decide +kernel) (show 0 < 1000 by decide) (evp_var rfl) (fun x1 =>
 (sv_fldP rfl T.k_Box T.n_Box_answers (show ("answers" : Str) ∉ (["buttons"] : List Str) from by decide +kernel) (show 1 < 1000 by decide) (evp_var rfl) (fun x2 =>
 (sv_fldP rfl T.k_Box T.n_Box_variables (show ("variables" : Str) ∉ (["buttons", "answers"] : List Str) from by decide +kernel) (show 2 < 1000 by decide) (evp_CBP cb_tupOf (eva_consP (evp_var rfl) eva_nil)) (fun x3 =>
 (sv_fldP rfl T.k_Box T.n_Box_start (show ("start" : Str) ∉ (["buttons", "answers", "variables"] : List Str) from by decide +kernel) (show 3 < 1000 by decide) (evp_CBP cb_tupOf (eva_consP (evp_var rfl) eva_nil)) (fun x4 =>
 (sv_last (sv_fldP rfl T.k_Box T.n_Box_block (show ("block" : Str) ∉ (["buttons", "answers", "variables", "start"] : List Str) from by decide +kernel) (show 4 < 1000 by decide) (evp_CBP cb_tupOf (eva_consP (evp_var rfl) eva_nil)) (fun x5 =>
 (sv_end (.cons .same (.cons .any (.cons .any (.cons .any (.cons .any (.cons .any .nil))))))))))))))))))
theorem sc_read_any : FnScope ["text", "uses", "cursor", "buttons", "answers", "reader", "variables", "start", "block"] ["text", "uses"] (defScope Hd.s_read_any) := ⟨rfl, rfl, rfl, by decide +kernel, rfl, by decide +kernel, by decide +kernel⟩
theorem ok_read_any {w : World} {K : PySem.W.Frag} {mg : Str → Option Value} {base : Heap} (T : Tx K mg) (H_Cursor1 : Mkc PySem.Challenge.pw_notesttells_k52_bounds_of_boxes w K mg base 1 (He.ga K "Cursor") "Cursor" ["self", "text"] [] (spInitM (He.ga K "Cursor") (raC tTx raN) (md_Cursor K) (fun x => m_Cursor_initS x.1) K)) (H_Cursor_wordS : Mtc PySem.Challenge.pw_notesttells_k52_bounds_of_boxes w K mg base 3 (He.ga K "Cursor") "word" ["self", "words"] (spS K (mObj (He.ga K "Cursor") (md_Cursor K)) (raC (lS tTx) raN) tTx (fun s x => m_Cursor_wordS s x.1))) (H_Cursor_numberS : Mtc PySem.Challenge.pw_notesttells_k52_bounds_of_boxes w K mg base 3 (He.ga K "Cursor") "number" ["self", "least", "most"] (spS K (mObj (He.ga K "Cursor") (md_Cursor K)) (raC tInt (raC tInt raN)) tInt (fun s x => m_Cursor_numberS s x.1 x.2.1))) (H_Reader2 : Mkc PySem.Challenge.pw_notesttells_k52_bounds_of_boxes w K mg base 1 (He.ga K "Reader") "Reader" ["self", "cursor", "uses"] [] (spInitT (He.ga K "Reader") (mObj (He.ga K "Cursor") (md_Cursor K)) (raC tInt raN) (md_ReaderM K) (fun s q x => m_Reader_init s q x.1) K)) (H_Cursor_nextS : Mtc PySem.Challenge.pw_notesttells_k52_bounds_of_boxes w K mg base 1 (He.ga K "Cursor") "next" ["self"] (spS K (mObj (He.ga K "Cursor") (md_Cursor K)) raN (tOpt tTx) (fun s x => m_Cursor_nextS s ))) (H_Cursor_new_nameS : Mtc PySem.Challenge.pw_notesttells_k52_bounds_of_boxes w K mg base 3 (He.ga K "Cursor") "new_name" ["self", "names"] (spS K (mObj (He.ga K "Cursor") (md_Cursor K)) (raC (lS tTx) raN) tTx (fun s x => m_Cursor_new_nameS s x.1))) (H_Reader_blockS : Mtc PySem.Challenge.pw_notesttells_k52_bounds_of_boxes w K mg base 24 (He.ga K "Reader") "block" ["self", "room"] (spS K (mObj (He.ga K "Reader") (md_Reader K)) (raC tInt raN) (lT tDt) (fun s x => (m_Reader_blk 5) s x.1))) (H_Cursor_finishS : Mtc PySem.Challenge.pw_notesttells_k52_bounds_of_boxes w K mg base 3 (He.ga K "Cursor") "finish" ["self"] (spS K (mObj (He.ga K "Cursor") (md_Cursor K)) raN tNon (fun s x => m_Cursor_finishS s ))) (H_Box5 : Mkc PySem.Challenge.pw_notesttells_k52_bounds_of_boxes w K mg base 1 (He.ga K "Box") "Box" ["self", "buttons", "answers", "variables", "start", "block"] [] (spInit (He.ga K "Box") (raC tInt (raC tInt (raC (lS (tPair tTx tInt)) (raC (lS tDt) (raC (lS tDt) raN))))) (d_Box K) (fun x => m_Box_init x.1 x.2.1 x.2.2.1 x.2.2.2.1 x.2.2.2.2.1) K)) {f : Addr} {fd : FuncData} {dvs : List V} (FD : FunD K "read_any" "read_any" (defArgs Hd.s_read_any) (defBody Hd.s_read_any) (defScope Hd.s_read_any) dvs [] f fd) : FnOk PySem.Challenge.pw_notesttells_k52_bounds_of_boxes w K mg base (L2.CX PySem.Challenge.pw_notesttells_k52_bounds_of_boxes w) 25 f fd ["text", "uses"] (spP K (raC tTx (raC tInt raN)) (tIns (He.ga K "Box") (d_Box K)) (fun x => m_read_any x.1 x.2.1)) := by
  refine FD.ok sc_read_any (fun vs H Q E h => ?_) (fun cdv A outer s H vs Q E hr h => ?_)
  · obtain ⟨_, _, _, ⟨_, _, rfl, _, _, _, rfl, _, hn⟩, _⟩ := h
    cases (show _ = [] from hn)
    rfl
  obtain ⟨F, ⟨p_text, p_uses, _⟩, e, ⟨v0, _, rfl, h0, v1, _, rfl, h1, hn⟩, hm⟩ := h
  cases (show _ = [] from hn)
  refine ⟨_, (pss_cons (ps_set (i := 2) sc_read_any.nd rfl (by first | exact Or.inl rfl | exact Or.inr rfl) (pe_mk H_Cursor1 (hr.mono (by decide)) (passes_call (takes_of rfl rfl rfl rfl) (fun _ _ _ _ h => h)) (pa_cons (pv 0) pa_nil)))
  (pss_cons (ps_expr (pe_mt H_Cursor_wordS (pv 2) (hr.mono (by decide)) (passes_call (takes_of rfl rfl rfl rfl) (fun _ _ _ _ h => h)) (pa_cons (pe_tup (pa_cons pe_str pa_nil)) pa_nil)))
  (pss_cons (ps_set (i := 3) sc_read_any.nd rfl (by first | exact Or.inl rfl | exact Or.inr rfl) (pe_mt H_Cursor_numberS (pv 2) (hr.mono (by decide)) (passes_call (takes_of rfl rfl rfl rfl) (fun _ _ _ _ h => h)) (pa_cons pe_int (pa_cons pe_int pa_nil))))
  (pss_cons (ps_expr (pe_mt H_Cursor_wordS (pv 2) (hr.mono (by decide)) (passes_call (takes_of rfl rfl rfl rfl) (fun _ _ _ _ h => h)) (pa_cons (pe_tup (pa_cons pe_str pa_nil)) pa_nil)))
  (pss_cons (ps_set (i := 4) sc_read_any.nd rfl (by first | exact Or.inl rfl | exact Or.inr rfl) (pe_mt H_Cursor_numberS (pv 2) (hr.mono (by decide)) (passes_call (takes_of rfl rfl rfl rfl) (fun _ _ _ _ h => h)) (pa_cons pe_int (pa_cons pe_int pa_nil))))
  (pss_cons (ps_set (i := 5) sc_read_any.nd rfl (by first | exact Or.inl rfl | exact Or.inr rfl) (pe_mk H_Reader2 (hr.mono (by decide)) (passes_call (takes_of rfl rfl rfl rfl) (fun _ _ _ _ h => h)) (pa_cons (pv 2) (pa_cons (pv 1) pa_nil))))
  (pss_cons (ps_set (i := 6) sc_read_any.nd rfl (by first | exact Or.inl rfl | exact Or.inr rfl) (pe_lst pa_nil))
  (pss_cons (ps_while (passes_of rfl) (PW.pt (pw_and (pt_cmpR op_eq (pe_mt0 H_Cursor_nextS (pv 2) (hr.mono (by decide)) (passes_call (takes_of rfl rfl rfl rfl) (fun _ _ _ _ h => h))) pe_str (nomark _)) (pw_and1 (pt_cmpR op_lt (pe_callB call_lenS (by rfl) T.m_len PySem.boot_len (pa_cons (pv 6) pa_nil)) (pe_globI rfl T.c_MOST_VARIABLES) (nomark _))))) (pss_cons (ps_fldaug (pv 2) pe_int in_add)
  (pss_cons (ps_expr (pe_bm PySem.F.plainAttrs_list PySem.F.slot_list_append PySem.F.type_list_append mt_append (pe_fld (pv 5) rfl) (pa_cons (pe_mt H_Cursor_new_nameS (pv 2) (hr.mono (by decide)) (passes_call (takes_of rfl rfl rfl rfl) (fun _ _ _ _ h => h)) (pa_cons (pe_fld (pv 5) rfl) pa_nil)) pa_nil)))
  (pss_one (ps_expr (pe_bm PySem.F.plainAttrs_list PySem.F.slot_list_append PySem.F.type_list_append mt_append (pv 6) (pa_cons (pe_tup (pa_cons (pe_ix ix_list (pe_fld (pv 5) rfl) (pe_un un_neg pe_int) (fun _ _ => rfl)) (pa_cons (pe_mt H_Cursor_numberS (pv 2) (hr.mono (by decide)) (passes_call (takes_of rfl rfl rfl rfl) (fun _ _ _ _ h => h)) (pa_cons pe_int (pa_cons (pe_globI rfl T.c_MOST_SIZE) pa_nil))) pa_nil))) pa_nil)))))))
  (pss_cons (ps_expr (pe_mt H_Cursor_wordS (pv 2) (hr.mono (by decide)) (passes_call (takes_of rfl rfl rfl rfl) (fun _ _ _ _ h => h)) (pa_cons (pe_tup (pa_cons pe_str pa_nil)) pa_nil)))
  (pss_cons (ps_set (i := 7) sc_read_any.nd rfl (by first | exact Or.inl rfl | exact Or.inr rfl) (pe_mt H_Reader_blockS (pv 5) (hr.mono (by decide)) (passes_call (takes_of rfl rfl rfl rfl) (fun _ _ _ _ h => h)) (pa_cons (pe_globI rfl T.c_MOST_IFS) pa_nil)))
  (pss_cons (ps_expr (pe_mt H_Cursor_wordS (pv 2) (hr.mono (by decide)) (passes_call (takes_of rfl rfl rfl rfl) (fun _ _ _ _ h => h)) (pa_cons (pe_tup (pa_cons pe_str pa_nil)) pa_nil)))
  (pss_cons (ps_fld (pv 5) (pe_tup (pa_cons pe_str pa_nil)) rfl)
  (pss_cons (ps_set (i := 8) sc_read_any.nd rfl (by first | exact Or.inl rfl | exact Or.inr rfl) (pe_mt H_Reader_blockS (pv 5) (hr.mono (by decide)) (passes_call (takes_of rfl rfl rfl rfl) (fun _ _ _ _ h => h)) (pa_cons (pe_globI rfl T.c_MOST_IFS) pa_nil)))
  (pss_cons (ps_expr (pe_mt0 H_Cursor_finishS (pv 2) (hr.mono (by decide)) (passes_call (takes_of rfl rfl rfl rfl) (fun _ _ _ _ h => h))))
  (pss_one (ps_ret (pe_mk H_Box5 (hr.mono (by decide)) (passes_call (takes_of rfl rfl rfl rfl) (fun _ _ _ _ h => h)) (pa_cons (pv 3) (pa_cons (pv 4) (pa_cons (pv 6) (pa_cons (pv 7) (pa_cons (pv 8) pa_nil)))))))))))))))))))))), ?_⟩
  refine g_start (σ' := [some v0, some v1, none, none, none, none, none, none, none]) rfl ?_
  unfold m_read_any at hm
  refine fn_P (Γ := [.frz tTx (p_text), .frz tInt (p_uses), .any, .any, .any, .any, .any, .any, .any]) ?_ e (hol_frz h0 (hol_frz h1 (hol_any (hol_any (hol_any (hol_any (hol_any (hol_any (hol_any hol_nil))))))))) rfl hm
  exact (sv_new (evn_makeMP (x := (p_text, ())) (eva_consP (evp_var rfl) eva_nil)) ⟨_, rfl⟩ (fun s1 =>
 (sv_dropS (i := 2) (mt := (mObj (He.ga K "Cursor") (md_Cursor K))) (evs_methS (i := 2) (MtLe.refl _) (show ("word" : Str) ∉ (["words", "at"] : List Str) from by decide +kernel) rfl (evsa_consA (i := 2) (mt := (mObj (He.ga K "Cursor") (md_Cursor K))) (evs_ofP (i := 2) (mt := (mObj (He.ga K "Cursor") (md_Cursor K))) rfl (evp_sub (r' := (lS tTx)) seq_lT (evp_tupP (x := (("buttons" : Str), ())) (disp_lT (allC allN)) (len_lT (allC allN)) (eva_consP (evp_tx ⟨by decide +kernel, by decide +kernel⟩) eva_nil)))) (fun s2 => (evsa_nil (i := 2) (mt := (mObj (He.ga K "Cursor") (md_Cursor K))) rfl)))) (fun x6 =>
 (sv_asgS (i := 2) (mt := (mObj (He.ga K "Cursor") (md_Cursor K))) (evs_methS (i := 2) (MtLe.refl _) (show ("number" : Str) ∉ (["words", "at"] : List Str) from by decide +kernel) rfl (evsa_consA (i := 2) (mt := (mObj (He.ga K "Cursor") (md_Cursor K))) (evs_ofP (i := 2) (mt := (mObj (He.ga K "Cursor") (md_Cursor K))) rfl evp_int) (fun s7 => (evsa_consA (i := 2) (mt := (mObj (He.ga K "Cursor") (md_Cursor K))) (evs_ofP (i := 2) (mt := (mObj (He.ga K "Cursor") (md_Cursor K))) rfl evp_int) (fun s8 => (evsa_nil (i := 2) (mt := (mObj (He.ga K "Cursor") (md_Cursor K))) rfl)))))) (fun x14 =>
 (sv_dropS (i := 2) (mt := (mObj (He.ga K "Cursor") (md_Cursor K))) (evs_methS (i := 2) (MtLe.refl _) (show ("word" : Str) ∉ (["words", "at"] : List Str) from by decide +kernel) rfl (evsa_consA (i := 2) (mt := (mObj (He.ga K "Cursor") (md_Cursor K))) (evs_ofP (i := 2) (mt := (mObj (He.ga K "Cursor") (md_Cursor K))) rfl (evp_sub (r' := (lS tTx)) seq_lT (evp_tupP (x := (("answers" : Str), ())) (disp_lT (allC allN)) (len_lT (allC allN)) (eva_consP (evp_tx ⟨by decide +kernel, by decide +kernel⟩) eva_nil)))) (fun s15 => (evsa_nil (i := 2) (mt := (mObj (He.ga K "Cursor") (md_Cursor K))) rfl)))) (fun x19 =>
 (sv_asgS (i := 2) (mt := (mObj (He.ga K "Cursor") (md_Cursor K))) (evs_methS (i := 2) (MtLe.refl _) (show ("number" : Str) ∉ (["words", "at"] : List Str) from by decide +kernel) rfl (evsa_consA (i := 2) (mt := (mObj (He.ga K "Cursor") (md_Cursor K))) (evs_ofP (i := 2) (mt := (mObj (He.ga K "Cursor") (md_Cursor K))) rfl evp_int) (fun s20 => (evsa_consA (i := 2) (mt := (mObj (He.ga K "Cursor") (md_Cursor K))) (evs_ofP (i := 2) (mt := (mObj (He.ga K "Cursor") (md_Cursor K))) rfl evp_int) (fun s21 => (evsa_nil (i := 2) (mt := (mObj (He.ga K "Cursor") (md_Cursor K))) rfl)))))) (fun x27 =>
 (sv_makeTake (j := 2) (i := 5) rfl rfl (by decide) (eva_consP (evp_var rfl) eva_nil) (fun q29 s30 =>
 (sv_new (evn_lstP (x := (())) (allN (r := (tPair tTx tInt))) eva_nil) ⟨_, rfl⟩ (fun x31 =>
 (sv_whileS (i := 5) (mt := (mObj (He.ga K "Reader") (md_ReaderM K))) (G' := (fun z32 : (List (Str × Int)) × S_ReaderM => [.frz tTx (p_text), .frz tInt (p_uses), .mut (mRef (.ref q29)) (), .frz tInt (x14.1), .frz tInt (x27.1), .mut (mObj (He.ga K "Reader") (md_ReaderM K)) (z32.2), .mut (mL (tPair tTx tInt)) (z32.1), .any, .any])) (s0 := ((x31), (s30))) (up := fun (z32 : (List (Str × Int)) × S_ReaderM) (y : S_ReaderM) => (z32.1, y)) (.cons .same (.cons .same (.cons .same (.cons .same (.cons .same (.cons .same (.cons .same (.cons .any (.cons .any .nil))))))))) (fun z32 => (evst_andA (i := 5) (mt := (mObj (He.ga K "Reader") (md_ReaderM K))) (evst_test (i := 5) (mt := (mObj (He.ga K "Reader") (md_ReaderM K))) (evs_opA (i := 5) (mt := (mObj (He.ga K "Reader") (md_ReaderM K))) opv_eqOS (evs_req (fun hq => (evs_methP (d := md_Cursor K) (pth_alias (t := 2) (j := 5) (x := z32.2) (g := fun x : S_ReaderM => (x).1.1.1.1.2) (s := fun (x : S_ReaderM) y => (rdP_cursor x (y))) rfl rfl (MtLe.refl _) (MuL.thereF (MuL.thereF (MuL.thereF (MuL.thereM (MuL.here (show ("cursor" : Str) ∉ ([] : List Str) from by decide +kernel)))))) hq) (show ("next" : Str) ∉ (["words", "at"] : List Str) from by decide +kernel) eva_nil))) (fun s35 => (evs_ofP (i := 5) (mt := (mObj (He.ga K "Reader") (md_ReaderM K))) rfl (evp_tx ⟨by decide +kernel, by decide +kernel⟩))))) (fun s39 => (evst_ofP (i := 5) (mt := (mObj (He.ga K "Reader") (md_ReaderM K))) rfl (evt_test (evp_opP opv_I0B (evp_lenM rfl) evp_int)))))) (fun _ _ => rfl) (fun z32 => (sv_req (fun hq => (sv_augP (d := md_Cursor K) (j := 5) (x := ((z32.2).1.1.1.1.2).2) (g := fun x : S_Cursor => (x).2) (s := fun (x : S_Cursor) y => ((x).1, y)) (pth_alias (t := 2) (j := 5) (x := z32.2) (g := fun x : S_ReaderM => (x).1.1.1.1.2) (s := fun (x : S_ReaderM) y => (rdP_cursor x (y))) rfl rfl (MtLe.refl _) (MuL.thereF (MuL.thereF (MuL.thereF (MuL.thereM (MuL.here (show ("cursor" : Str) ∉ ([] : List Str) from by decide +kernel)))))) hq) T.k_Cursor T.n_Cursor_at (FrL.here (show ("at" : Str) ∉ (["words"] : List Str) from by decide +kernel)) (show 2 < 1000 by decide) (f := fun a b => Wp.ok (a + b)) opv_addA evp_int (fun x42 =>
 (sv_req (fun hq => (sv_appNew (Γ := [.frz tTx (p_text), .frz tInt (p_uses), .mut (mRef (.ref q29)) (), .frz tInt (x14.1), .frz tInt (x27.1), .mut (mObj (He.ga K "Reader") (md_ReaderM K)) ((rdP_cursor (z32.2) ((((z32.2).1.1.1.1.2).1, ((((z32.2).1.1.1.1.2).2).1, x42))))), .mut (mL (tPair tTx tInt)) (z32.1), .any, .any]) (m' := (mObj (He.ga K "Reader") (md_ReaderM K))) (j := 5) (t := 2) (x := (rdP_cursor (z32.2) ((((z32.2).1.1.1.1.2).1, ((((z32.2).1.1.1.1.2).2).1, x42))))) (g1 := fun x : S_ReaderM => (x).1.1.1.1.2) (g2 := fun x : S_ReaderM => (x).1.1.1.2) (s := fun (x : S_ReaderM) y z => (rdP_names ((rdP_cursor x (y))) (z))) (f := m_Cursor_new_nameS) rfl rfl (MtLe.refl _) T.k_Reader T.n_Reader_names (MuL2.thereF (MuL2.thereF (MuL2.thereF (MuL2.here (by decide +kernel))))) hq (show ("new_name" : Str) ∉ (["words", "at"] : List Str) from by decide +kernel) (freD_F (freD_M freD_n (freM_L fre_tx)) fre_int) rfl (fun y43 =>
 (sv_last (sv_appendS (i := 5) (mt := (mObj (He.ga K "Reader") (md_ReaderM K))) rfl (evs_tup (i := 5) (mt := (mObj (He.ga K "Reader") (md_ReaderM K))) disp2 len2 (evsa_consA (i := 5) (mt := (mObj (He.ga K "Reader") (md_ReaderM K))) (evs_of (i := 5) (mt := (mObj (He.ga K "Reader") (md_ReaderM K))) rfl (evp_ixOP (i := 5) (x := (rdP_names ((rdP_cursor ((rdP_cursor (z32.2) ((((z32.2).1.1.1.1.2).1, ((((z32.2).1.1.1.1.2).2).1, x42))))) (((((rdP_cursor (z32.2) ((((z32.2).1.1.1.1.2).1, ((((z32.2).1.1.1.1.2).2).1, x42))))).1.1.1.1.2).1, y43.2)))) (((rdP_cursor (z32.2) ((((z32.2).1.1.1.1.2).1, ((((z32.2).1.1.1.1.2).2).1, x42))))).1.1.1.2 ++ [y43.1]))) (g := fun x : S_ReaderM => (x).1.1.1.2) (s := fun (x : S_ReaderM) y => (rdP_names x (y))) rfl (MtLe.refl _) T.k_Reader T.n_Reader_names (MuL.thereF (MuL.thereF (MuL.thereF (MuL.here (show ("names" : Str) ∉ (["cursor"] : List Str) from by decide +kernel))))) (evp_unP unv_U evp_int))) (fun s45 => (evsa_consA (i := 5) (mt := (mObj (He.ga K "Reader") (md_ReaderM K))) (evs_req (fun hq => (evs_methP (d := md_Cursor K) (pth_alias (t := 2) (j := 5) (x := s45) (g := fun x : S_ReaderM => (x).1.1.1.1.2) (s := fun (x : S_ReaderM) y => (rdP_cursor x (y))) rfl rfl (MtLe.refl _) (MuL.thereF (MuL.thereF (MuL.thereF (MuL.thereM (MuL.here (show ("cursor" : Str) ∉ ([] : List Str) from by decide +kernel)))))) hq) (show ("number" : Str) ∉ (["words", "at"] : List Str) from by decide +kernel) (eva_consP evp_int (eva_consP evp_int eva_nil))))) (fun s48 => (evsa_nil (i := 5) (mt := (mObj (He.ga K "Reader") (md_ReaderM K))) rfl)))))) rfl (fun x54 =>
 (sv_end (.cons .same (.cons .same (.cons .same (.cons .same (.cons .same (.cons .same (.cons .same (.cons .any (.cons .any .nil)))))))))))))))))))))) (fun z55 =>
 (sv_dropS (i := 5) (mt := (mObj (He.ga K "Reader") (md_ReaderM K))) (evs_req (fun hq => (evs_methP (d := md_Cursor K) (pth_alias (t := 2) (j := 5) (x := z55.2) (g := fun x : S_ReaderM => (x).1.1.1.1.2) (s := fun (x : S_ReaderM) y => (rdP_cursor x (y))) rfl rfl (MtLe.refl _) (MuL.thereF (MuL.thereF (MuL.thereF (MuL.thereM (MuL.here (show ("cursor" : Str) ∉ ([] : List Str) from by decide +kernel)))))) hq) (show ("word" : Str) ∉ (["words", "at"] : List Str) from by decide +kernel) (eva_consP (evp_sub (r' := (lS tTx)) seq_lT (evp_tupP (x := (("start" : Str), ())) (disp_lT (allC allN)) (len_lT (allC allN)) (eva_consP (evp_tx ⟨by decide +kernel, by decide +kernel⟩) eva_nil))) eva_nil)))) (fun x58 =>
 (sv_closeFld (i := 5) rfl (cloF_thereF (cloF_thereF (cloF_thereF cloF_here)))
 (sv_asgS (i := 5) (mt := (mObj (He.ga K "Reader") (md_Reader K))) (evs_methS (i := 5) (MtLe.refl _) (show ("block" : Str) ∉ (["cursor", "names", "left", "uses", "extra"] : List Str) from by decide +kernel) rfl (evsa_consA (i := 5) (mt := (mObj (He.ga K "Reader") (md_Reader K))) (evs_ofP (i := 5) (mt := (mObj (He.ga K "Reader") (md_Reader K))) rfl evp_int) (fun s59 => (evsa_nil (i := 5) (mt := (mObj (He.ga K "Reader") (md_Reader K))) rfl)))) (fun x63 =>
 (sv_dropS (i := 5) (mt := (mObj (He.ga K "Reader") (md_Reader K))) (evs_req (fun hq => (evs_methP (d := md_Cursor K) (pth_alias (t := 2) (j := 5) (x := x63.2) (g := fun x : S_Reader => (x).1.1.1.1.2) (s := fun (x : S_Reader) y => (rdP_cursor x (y))) rfl rfl (MtLe.refl _) (MuL.thereF (MuL.thereF (MuL.thereF (MuL.thereF (MuL.here (show ("cursor" : Str) ∉ ([] : List Str) from by decide +kernel)))))) hq) (show ("word" : Str) ∉ (["words", "at"] : List Str) from by decide +kernel) (eva_consP (evp_sub (r' := (lS tTx)) seq_lT (evp_tupP (x := (("press" : Str), ())) (disp_lT (allC allN)) (len_lT (allC allN)) (eva_consP (evp_tx ⟨by decide +kernel, by decide +kernel⟩) eva_nil))) eva_nil)))) (fun x66 =>
 (sv_setO (d := md_Reader K) (i := 5) (x := x66.2) (g := fun x : S_Reader => (x).2) (s := fun (x : S_Reader) y => (rdP_extra x (y))) rfl (MtLe.refl _) T.k_Reader T.n_Reader_extra (FrL.here (show ("extra" : Str) ∉ (["cursor", "names", "left", "uses"] : List Str) from by decide +kernel)) (show 5 < 1000 by decide) (evp_tupP (x := (("press" : Str), ())) (disp_lT (allC allN)) (len_lT (allC allN)) (eva_consP (evp_tx ⟨by decide +kernel, by decide +kernel⟩) eva_nil)) (fun x67 =>
 (sv_asgS (i := 5) (mt := (mObj (He.ga K "Reader") (md_Reader K))) (evs_methS (i := 5) (MtLe.refl _) (show ("block" : Str) ∉ (["cursor", "names", "left", "uses", "extra"] : List Str) from by decide +kernel) rfl (evsa_consA (i := 5) (mt := (mObj (He.ga K "Reader") (md_Reader K))) (evs_ofP (i := 5) (mt := (mObj (He.ga K "Reader") (md_Reader K))) rfl evp_int) (fun s68 => (evsa_nil (i := 5) (mt := (mObj (He.ga K "Reader") (md_Reader K))) rfl)))) (fun x72 =>
 (sv_dropS (i := 5) (mt := (mObj (He.ga K "Reader") (md_Reader K))) (evs_req (fun hq => (evs_methP (d := md_Cursor K) (pth_alias (t := 2) (j := 5) (x := x72.2) (g := fun x : S_Reader => (x).1.1.1.1.2) (s := fun (x : S_Reader) y => (rdP_cursor x (y))) rfl rfl (MtLe.refl _) (MuL.thereF (MuL.thereF (MuL.thereF (MuL.thereF (MuL.here (show ("cursor" : Str) ∉ ([] : List Str) from by decide +kernel)))))) hq) (show ("finish" : Str) ∉ (["words", "at"] : List Str) from by decide +kernel) eva_nil))) (fun x75 =>
 (sv_weak (.cons .same (.cons .same (.cons .same (.cons .same (.cons .same (.cons .same (.cons .close (.cons .same (.cons .same .nil))))))))) (sv_retP (evp_makeP (x := (x14.1, x27.1, z55.1, x63.1, x72.1, ())) (eva_consP (evp_var rfl) (eva_consP (evp_var rfl) (eva_consP (evp_sub (r' := (lS (tPair tTx tInt))) seq_lL (evp_var rfl)) (eva_consP (evp_sub (r' := (lS tDt)) seq_lT (evp_var rfl)) (eva_consP (evp_sub (r' := (lS tDt)) seq_lT (evp_var rfl)) eva_nil)))))))))))))))))))))))))))))))))))))
theorem sc_read_around : FnScope ["text"] ["text"] (defScope Hd.s_read_around) := ⟨rfl, rfl, rfl, by decide +kernel, rfl, by decide +kernel, by decide +kernel⟩
theorem ok_read_around {w : World} {K : PySem.W.Frag} {mg : Str → Option Value} {base : Heap} (T : Tx K mg) (H_read_any : Fnc PySem.Challenge.pw_notesttells_k52_bounds_of_boxes w K mg base 25 "read_any" ["text", "uses"] (spP K (raC tTx (raC tInt raN)) (tIns (He.ga K "Box") (d_Box K)) (fun x => m_read_any x.1 x.2.1))) {f : Addr} {fd : FuncData} {dvs : List V} (FD : FunD K "read_around" "read_around" (defArgs Hd.s_read_around) (defBody Hd.s_read_around) (defScope Hd.s_read_around) dvs [] f fd) : FnOk PySem.Challenge.pw_notesttells_k52_bounds_of_boxes w K mg base (L2.CX PySem.Challenge.pw_notesttells_k52_bounds_of_boxes w) 26 f fd ["text"] (spP K (raC tTx raN) (tIns (He.ga K "Box") (d_Box K)) (fun x => m_read_around x.1)) := by
  refine FD.ok sc_read_around (fun vs H Q E h => ?_) (fun cdv A outer s H vs Q E hr h => ?_)
  · obtain ⟨_, _, _, ⟨_, _, rfl, _, hn⟩, _⟩ := h
    cases (show _ = [] from hn)
    rfl
  obtain ⟨F, ⟨p_text, _⟩, e, ⟨v0, _, rfl, h0, hn⟩, hm⟩ := h
  cases (show _ = [] from hn)
  refine ⟨_, (pss_one (ps_ret (pe_fn H_read_any (hr.mono (by decide)) (passes_call (takes_of rfl rfl rfl rfl) (fun _ _ _ _ h => h)) (pa_cons (pv 0) (pa_cons (pe_globI rfl T.c_MOST_USES) pa_nil))))), ?_⟩
  refine g_start (σ' := [some v0]) rfl ?_
  unfold m_read_around at hm
  refine fn_P (Γ := [.frz tTx (p_text)]) ?_ e (hol_frz h0 hol_nil) rfl hm
  exact (sv_retP (evp_callP (x := (p_text, (24 : Int), ())) (eva_consP (evp_var rfl) (eva_consP evp_int eva_nil))))
theorem sc_read_box : FnScope ["text"] ["text"] (defScope Hd.s_read_box) := ⟨rfl, rfl, rfl, by decide +kernel, rfl, by decide +kernel, by decide +kernel⟩
theorem ok_read_box {w : World} {K : PySem.W.Frag} {mg : Str → Option Value} {base : Heap} (T : Tx K mg) (H_read_any : Fnc PySem.Challenge.pw_notesttells_k52_bounds_of_boxes w K mg base 25 "read_any" ["text", "uses"] (spP K (raC tTx (raC tInt raN)) (tIns (He.ga K "Box") (d_Box K)) (fun x => m_read_any x.1 x.2.1))) {f : Addr} {fd : FuncData} {dvs : List V} (FD : FunD K "read_box" "read_box" (defArgs Hd.s_read_box) (defBody Hd.s_read_box) (defScope Hd.s_read_box) dvs [] f fd) : FnOk PySem.Challenge.pw_notesttells_k52_bounds_of_boxes w K mg base (L2.CX PySem.Challenge.pw_notesttells_k52_bounds_of_boxes w) 26 f fd ["text"] (spP K (raC tTx raN) (tIns (He.ga K "Box") (d_Box K)) (fun x => m_read_box x.1)) := by
  refine FD.ok sc_read_box (fun vs H Q E h => ?_) (fun cdv A outer s H vs Q E hr h => ?_)
  · obtain ⟨_, _, _, ⟨_, _, rfl, _, hn⟩, _⟩ := h
    cases (show _ = [] from hn)
    rfl
  obtain ⟨F, ⟨p_text, _⟩, e, ⟨v0, _, rfl, h0, hn⟩, hm⟩ := h
  cases (show _ = [] from hn)
  refine ⟨_, (pss_one (ps_ret (pe_fn H_read_any (hr.mono (by decide)) (passes_call (takes_of rfl rfl rfl rfl) (fun _ _ _ _ h => h)) (pa_cons (pv 0) (pa_cons pe_int pa_nil))))), ?_⟩
  refine g_start (σ' := [some v0]) rfl ?_
  unfold m_read_box at hm
  refine fn_P (Γ := [.frz tTx (p_text)]) ?_ e (hol_frz h0 hol_nil) rfl hm
  exact (sv_retP (evp_callP (x := (p_text, (0 : Int), ())) (eva_consP (evp_var rfl) (eva_consP evp_int eva_nil))))
theorem sc_l_told : FnScope ["_law_words", "_law_uses", "e"] ["_law_words", "_law_uses"] (defScope Hd.s_l_told) := ⟨rfl, rfl, rfl, by decide +kernel, rfl, by decide +kernel, by decide +kernel⟩
theorem ok_l_told {w : World} {K : PySem.W.Frag} {mg : Str → Option Value} {base : Heap} (T : Tx K mg) (H_box_text : Fnc PySem.Challenge.pw_notesttells_k52_bounds_of_boxes w K mg base 15 "box_text" ["box"] (spP K (raC (tIns (He.ga K "Box") (d_Box K)) raN) tTx (fun x => m_box_text x.1))) (H_read_around : Fnc PySem.Challenge.pw_notesttells_k52_bounds_of_boxes w K mg base 26 "read_around" ["text"] (spP K (raC tTx raN) (tIns (He.ga K "Box") (d_Box K)) (fun x => m_read_around x.1))) (H_read_box : Fnc PySem.Challenge.pw_notesttells_k52_bounds_of_boxes w K mg base 26 "read_box" ["text"] (spP K (raC tTx raN) (tIns (He.ga K "Box") (d_Box K)) (fun x => m_read_box x.1))) {f : Addr} {fd : FuncData} {dvs : List V} (FD : FunD K "_law_told" "_law_told" (defArgs Hd.s_l_told) (defBody Hd.s_l_told) (defScope Hd.s_l_told) dvs [] f fd) : FnOk PySem.Challenge.pw_notesttells_k52_bounds_of_boxes w K mg base (L2.CX PySem.Challenge.pw_notesttells_k52_bounds_of_boxes w) 27 f fd ["_law_words", "_law_uses"] (spP K (raC (lL tTx) (raC tBool raN)) (tOr tTx tInt) (fun x => m_l_told x.1 x.2.1)) := by
  refine FD.ok sc_l_told (fun vs H Q E h => ?_) (fun cdv A outer s H vs Q E hr h => ?_)
  · obtain ⟨_, _, _, ⟨_, _, rfl, _, _, _, rfl, _, hn⟩, _⟩ := h
    cases (show _ = [] from hn)
    rfl
  obtain ⟨F, ⟨p_words, p_uses, _⟩, e, ⟨v0, _, rfl, h0, v1, _, rfl, h1, hn⟩, hm⟩ := h
  cases (show _ = [] from hn)
  refine ⟨_, (pss_one (ps_tryA (c := .ref (He.ga K "BadText")) (i := 2) rfl rfl sc_l_told.nd rfl rfl ⟨rfl, by decide, Or.inl T.g_BadText⟩
  (fun W pn xe tk _ => (pss_cons (ps_if (pt_val (pv 1)) (pss_one (ps_ret (pe_fnZ H_box_text (hr.mono (by decide)) (fun σ => passAt tk σ) (pa_cons (pe_fnZ H_read_around (hr.mono (by decide)) (fun σ => passAt tk σ) (pa_cons (pe_join pe_str (pv 0)) pa_nil)) pa_nil)))) pss_nil)
  (pss_one (ps_ret (pe_fnZ H_box_text (hr.mono (by decide)) (fun σ => passAt tk σ) (pa_cons (pe_fnZ H_read_box (hr.mono (by decide)) (fun σ => passAt tk σ) (pa_cons (pe_join pe_str (pv 0)) pa_nil)) pa_nil))))))
  (fun a oe cls d pn hz hf => (pss_one (ps_ret (pe_byAt T.x_BadText T.n_BadText_at hz hf (pv 2))))))), ?_⟩
  refine g_start (σ' := [some v0, some v1, none]) rfl ?_
  unfold m_l_told at hm
  refine fn_P (Γ := [.frz (lL tTx) (p_words), .frz tBool (p_uses), .any]) ?_ e (hol_frz h0 (hol_frz h1 (hol_any hol_nil))) rfl hm
  exact (sv_last (sv_try (cs := excS) (fun W pn xe => (sv_ifEP (evt_B (evp_var rfl)) (sv_retP (evp_cast (r2 := (tOr tTx tInt)) (f := Sum.inl) (fun _ _ _ h => h) (evp_callZ (fz_frz (fz_frz (fz_any fz_nil))) (eva_cons (evp_callZ (fz_frz (fz_frz (fz_any fz_nil))) (eva_cons (evp_join (evp_tx ⟨by decide +kernel, by decide +kernel⟩) (evp_sub (r' := (lS tTx)) seq_lL (evp_var rfl))) eva_nil)) eva_nil)))) (sv_skip (sv_retP (evp_cast (r2 := (tOr tTx tInt)) (f := Sum.inl) (fun _ _ _ h => h) (evp_callZ (fz_frz (fz_frz (fz_any fz_nil))) (eva_cons (evp_callZ (fz_frz (fz_frz (fz_any fz_nil))) (eva_cons (evp_join (evp_tx ⟨by decide +kernel, by decide +kernel⟩) (evp_sub (r' := (lS tTx)) seq_lL (evp_var rfl))) eva_nil)) eva_nil))))))) (fun _ hq => xCatch_BadText T hq) (fun a cls d oe pn e21 he => (sv_retP (evp_cast (r2 := (tOr tTx tInt)) (f := Sum.inr) (fun _ _ _ h => h) (evp_exAt rfl)))) (by intro z; first | exact z.elim | rfl) (by intro z; first | exact z.elim | rfl)))
theorem sc_law : FnScope ["_law_script", "_law_pool_here", "_law_words", "_law_due", "_law_place"] ["_law_script"] (defScope Hd.s_law) := ⟨rfl, rfl, rfl, by decide +kernel, rfl, by decide +kernel, by decide +kernel⟩
theorem ok_law {w : World} {K : PySem.W.Frag} {mg : Str → Option Value} {base : Heap} (T : Tx K mg) (H_l_pool : Fnc PySem.Challenge.pw_notesttells_k52_bounds_of_boxes w K mg base 1 "_law_pool" ["_law_script", "_law_budget"] (spPool K)) (H_l_numbers : Fnc PySem.Challenge.pw_notesttells_k52_bounds_of_boxes w K mg base 2 "_law_numbers" ["_law_pool_here"] (spS K mPool raN (tPair (lL tTx) (tOpt tInt)) (fun s x => m_l_numbers s ))) (H_l_many : Fnc PySem.Challenge.pw_notesttells_k52_bounds_of_boxes w K mg base 2 "_law_many" ["_law_pool_here"] (spS K mPool raN (tPair (lL tTx) (tOpt tInt)) (fun s x => m_l_many s ))) (H_l_same : Fnc PySem.Challenge.pw_notesttells_k52_bounds_of_boxes w K mg base 6 "_law_same" ["_law_actual", "_law_due"] (spSame K 6)) (H_l_told : Fnc PySem.Challenge.pw_notesttells_k52_bounds_of_boxes w K mg base 27 "_law_told" ["_law_words", "_law_uses"] (spP K (raC (lL tTx) (raC tBool raN)) (tOr tTx tInt) (fun x => m_l_told x.1 x.2.1))) (H_l_draw : Fnc PySem.Challenge.pw_notesttells_k52_bounds_of_boxes w K mg base 1 "_law_draw" ["_law_pool_here", "_law_size"] spDraw) {f : Addr} {fd : FuncData} {dvs : List V} (FD : FunD K "law" "law" (defArgs Hd.s_law) (defBody Hd.s_law) (defScope Hd.s_law) dvs [] f fd) : FnOk PySem.Challenge.pw_notesttells_k52_bounds_of_boxes w K mg base (L2.CX PySem.Challenge.pw_notesttells_k52_bounds_of_boxes w) 28 f fd ["_law_script"] (spP K (raC (tScr K) raN) tBool (fun x => m_law x.1)) := by
  replace H_l_pool := fnc_imp (sp' := (spN K (raC (tScr K) (raC tInt raN)) mPool (fun x => poolW x.1 x.2.1))) H_l_pool pool_imp
  replace H_l_draw := fnc_imp (sp' := (spS K mPool (raC tInt raN) tInt (fun s x => drawW s x.1))) H_l_draw draw_imp
  refine FD.ok sc_law (fun vs H Q E h => ?_) (fun cdv A outer s H vs Q E hr h => ?_)
  · obtain ⟨_, _, _, ⟨_, _, rfl, _, hn⟩, _⟩ := h
    cases (show _ = [] from hn)
    rfl
  obtain ⟨F, ⟨p_script, _⟩, e, ⟨v0, _, rfl, h0, hn⟩, hm⟩ := h
  cases (show _ = [] from hn)
  refine ⟨_, (pss_cons (ps_set (i := 1) sc_law.nd rfl (by first | exact Or.inl rfl | exact Or.inr rfl) (pe_fn H_l_pool (hr.mono (by decide)) (passes_call (takes_of rfl rfl rfl rfl) (fun _ _ _ _ h => h)) (pa_cons (pv 0) (pa_cons pe_int pa_nil))))
  (pss_cons (ps_for (passes_of rfl) rfl (pi_tup (pe_tup (pa_cons (pe_fn H_l_numbers (hr.mono (by decide)) (passes_call (takes_of rfl rfl rfl rfl) (fun _ _ _ _ h => h)) (pa_cons (pv 1) pa_nil)) (pa_cons (pe_fn H_l_many (hr.mono (by decide)) (passes_call (takes_of rfl rfl rfl rfl) (fun _ _ _ _ h => h)) (pa_cons (pv 1) pa_nil)) pa_nil)))) (pg_tup (n := 2) (by rfl) (pgs_cons (pg_name (i := 2) sc_law.nd rfl (by first | exact Or.inl rfl | exact Or.inr rfl)) (pgs_cons (pg_name (i := 3) sc_law.nd rfl (by first | exact Or.inl rfl | exact Or.inr rfl)) pgs_nil)))
  (pss_cons (ps_if (pt_cmpR op_isN1 (pv 3) pe_non (nomark _)) (pss_one (ps_set (i := 3) sc_law.nd rfl (by first | exact Or.inl rfl | exact Or.inr rfl) (pe_join pe_str (pv 2)))) pss_nil)
  (pss_one (ps_if (PW.pt (pw_or (pt_not (pt_val (pe_fn H_l_same (hr.mono (by decide)) (passes_call (takes_of rfl rfl rfl rfl) (fun _ _ _ _ h => h)) (pa_cons (pe_fn H_l_told (hr.mono (by decide)) (passes_call (takes_of rfl rfl rfl rfl) (fun _ _ _ _ h => h)) (pa_cons (pv 2) (pa_cons pe_bl pa_nil))) (pa_cons (pv 3) pa_nil))))) (pw_or1 (PW.pt (pw_and (pt_cmpR op_notIn_seq pe_str (pv 2) (by rfl)) (pw_and1 (pt_not (pt_val (pe_fn H_l_same (hr.mono (by decide)) (passes_call (takes_of rfl rfl rfl rfl) (fun _ _ _ _ h => h)) (pa_cons (pe_fn H_l_told (hr.mono (by decide)) (passes_call (takes_of rfl rfl rfl rfl) (fun _ _ _ _ h => h)) (pa_cons (pv 2) (pa_cons pe_bl pa_nil))) (pa_cons (pv 3) pa_nil))))))))))) (pss_one (ps_ret pe_bl)) pss_nil))))
  (pss_cons (ps_set (i := 4) sc_law.nd rfl (by first | exact Or.inl rfl | exact Or.inr rfl) (pe_op op_add pe_int (pe_op op_mul pe_int (pe_fn H_l_draw (hr.mono (by decide)) (passes_call (takes_of rfl rfl rfl rfl) (fun _ _ _ _ h => h)) (pa_cons (pv 1) (pa_cons pe_int pa_nil))))))
  (pss_cons (ps_set (i := 2) sc_law.nd rfl (by first | exact Or.inl rfl | exact Or.inr rfl) (pe_lst (pa_cons pe_str (pa_cons pe_str (pa_cons pe_str (pa_cons pe_str (pa_cons pe_str (pa_cons pe_str (pa_cons pe_str (pa_cons pe_str (pa_cons pe_str (pa_cons pe_str (pa_cons pe_str (pa_cons pe_str pa_nil))))))))))))))
  (pss_cons (ps_set (i := 2) sc_law.nd rfl (by first | exact Or.inl rfl | exact Or.inr rfl) (pe_op op_cat (pe_op op_cat (pe_slice sl_list (pv 2) po_none (po_some (pv 4))) (pe_lst (pa_cons pe_str (pa_cons pe_str (pa_cons pe_str pa_nil))))) (pe_slice sl_list (pv 2) (po_some (pv 4)) po_none)))
  (pss_one (ps_ret (pe_fn H_l_same (hr.mono (by decide)) (passes_call (takes_of rfl rfl rfl rfl) (fun _ _ _ _ h => h)) (pa_cons (pe_lst (pa_cons (pe_fn H_l_told (hr.mono (by decide)) (passes_call (takes_of rfl rfl rfl rfl) (fun _ _ _ _ h => h)) (pa_cons (pv 2) (pa_cons pe_bl pa_nil))) (pa_cons (pe_fn H_l_told (hr.mono (by decide)) (passes_call (takes_of rfl rfl rfl rfl) (fun _ _ _ _ h => h)) (pa_cons (pv 2) (pa_cons pe_bl pa_nil))) pa_nil))) (pa_cons (pe_lst (pa_cons (pe_join pe_str (pv 2)) (pa_cons (pv 4) pa_nil))) pa_nil)))))))))), ?_⟩
  refine g_start (σ' := [some v0, none, none, none, none]) rfl ?_
  unfold m_law at hm
  refine fn_P (Γ := [.frz (tScr K) (p_script), .any, .any, .any, .any]) ?_ e (hol_frz h0 (hol_any (hol_any (hol_any (hol_any hol_nil))))) rfl hm
  exact (sv_new (evn_callP (x := (p_script, (0 : Int), ())) (eva_consP (evp_var rfl) (eva_consP evp_int eva_nil))) ⟨_, rfl⟩ (fun s1 =>
 (sv_forS (i := 1) (mt := mPool) (G' := (fun z11 : Pool => [.frz (tScr K) (p_script), .mut mPool (z11), .any, .any, .any])) (s0 := fun s12 => (s12)) (fun s12 => (.cons .same (.cons .same (.cons .any (.cons .any (.cons .any .nil)))))) (evsi_tup (evs_tup (i := 1) (mt := mPool) (disp_lT (allC (allC allN))) (len_lT (allC (allC allN))) (evsa_consA (i := 1) (mt := mPool) (evs_callS (i := 1) (MtLe.refl _) rfl (evsa_nil (i := 1) (mt := mPool) rfl)) (fun s3 => (evsa_consA (i := 1) (mt := mPool) (evs_callS (i := 1) (MtLe.refl _) rfl (evsa_nil (i := 1) (mt := mPool) rfl)) (fun s5 => (evsa_nil (i := 1) (mt := mPool) rfl))))))) (fun z11 => (evg_two evg_name (fun _ => evg_name))) (fun x13 z11 => (sv_seq (G' := (fun z16 : (Str ⊕ Int) => [.frz (tScr K) (p_script), .mut mPool (z11), .frz (lL tTx) ((x13).1), .frz (tOr tTx tInt) (z16), .any])) (sv_ifP (evt_test (evp_isNP nn_int (evp_var rfl))) (sv_last (sv_asg (evp_join (evp_tx ⟨by decide +kernel, by decide +kernel⟩) (evp_sub (r' := (lS tTx)) seq_lL (evp_var rfl))) (fun x14 => (sv_end (.cons .same (.cons .same (.cons .same (.cons (.cast (fun F v h => h)) (.cons .same .nil))))))))) (sv_getC (i := 3) (r1 := tOpt tInt) (r2 := tInt) (x := (x13).2) (f := fun z : Option Int => z) rfl c_opt (fun x15 => (sv_end (.cons .same (.cons .same (.cons .same (.cons (.cast (fun F v h => h)) (.cons .same .nil))))))))) (fun z16 =>
 (sv_last (sv_ifE (evt_or (evt_not (evt_B (evp_same (by decide) (eva_cons (evp_callP (x := ((x13).1, true, ())) (eva_consP (evp_var rfl) (eva_consP evp_bl eva_nil))) (eva_cons (evp_var rfl) eva_nil))))) (evt_and (evt_test (evp_opP opv_notIn (evp_tx ⟨by decide +kernel, by decide +kernel⟩) (evp_sub (r' := (lS tTx)) seq_lL (evp_var rfl)))) (evt_not (evt_B (evp_same (by decide) (eva_cons (evp_callP (x := ((x13).1, false, ())) (eva_consP (evp_var rfl) (eva_consP evp_bl eva_nil))) (eva_cons (evp_var rfl) eva_nil))))))) (sv_retPP evp_bl) (sv_skip (sv_end (.cons .same (.cons .same (.cons .any (.cons .any (.cons .any .nil)))))))))))) (fun z34 =>
 (sv_asgS (i := 1) (mt := mPool) (evs_opA (i := 1) (mt := mPool) opv_I0 (evs_ofP (i := 1) (mt := mPool) rfl evp_int) (fun s35 => (evs_opA (i := 1) (mt := mPool) opv_I (evs_ofP (i := 1) (mt := mPool) rfl evp_int) (fun s36 => (evs_callS (i := 1) (MtLe.refl _) rfl (evsa_consA (i := 1) (mt := mPool) (evs_ofP (i := 1) (mt := mPool) rfl evp_int) (fun s37 => (evsa_nil (i := 1) (mt := mPool) rfl)))))))) (fun x47 =>
 (sv_asg (evp_new (evn_lstP (x := (("buttons" : Str), ("2" : Str), ("answers" : Str), ("2" : Str), ("var" : Str), ("x" : Str), ("9" : Str), ("start" : Str), ("set" : Str), ("x" : Str), ("1" : Str), ("press" : Str), ())) (allC (allC (allC (allC (allC (allC (allC (allC (allC (allC (allC (allC allN)))))))))))) (eva_consP (evp_tx ⟨by decide +kernel, by decide +kernel⟩) (eva_consP (evp_tx ⟨by decide +kernel, by decide +kernel⟩) (eva_consP (evp_tx ⟨by decide +kernel, by decide +kernel⟩) (eva_consP (evp_tx ⟨by decide +kernel, by decide +kernel⟩) (eva_consP (evp_tx ⟨by decide +kernel, by decide +kernel⟩) (eva_consP (evp_tx ⟨by decide +kernel, by decide +kernel⟩) (eva_consP (evp_tx ⟨by decide +kernel, by decide +kernel⟩) (eva_consP (evp_tx ⟨by decide +kernel, by decide +kernel⟩) (eva_consP (evp_tx ⟨by decide +kernel, by decide +kernel⟩) (eva_consP (evp_tx ⟨by decide +kernel, by decide +kernel⟩) (eva_consP (evp_tx ⟨by decide +kernel, by decide +kernel⟩) (eva_consP (evp_tx ⟨by decide +kernel, by decide +kernel⟩) eva_nil)))))))))))))) (fun x48 =>
 (sv_asg (evp_new (evn_op opn_cat (evp_new (evn_opP opn_cat (evp_new (evn_slLP (evp_var rfl) evo_none (evo_someP (evp_var rfl)))) (evp_new (evn_lstP (x := (("use" : Str), ("x" : Str), ("1" : Str), ())) (allC (allC (allC allN))) (eva_consP (evp_tx ⟨by decide +kernel, by decide +kernel⟩) (eva_consP (evp_tx ⟨by decide +kernel, by decide +kernel⟩) (eva_consP (evp_tx ⟨by decide +kernel, by decide +kernel⟩) eva_nil))))))) (evp_new (evn_slLP (evp_var rfl) (evo_someP (evp_var rfl)) evo_none)))) (fun x51 =>
 (sv_retP (evp_same (by decide) (eva_cons (evp_new (evn_lst (allC (allC allN)) (eva_cons (evp_callP (x := (x51, true, ())) (eva_consP (evp_var rfl) (eva_consP evp_bl eva_nil))) (eva_cons (evp_callP (x := (x51, false, ())) (eva_consP (evp_var rfl) (eva_consP evp_bl eva_nil))) eva_nil)))) (eva_cons (evp_new (evn_lst (allC (allC allN)) (eva_cons (evp_cast (r2 := (tOr tTx tInt)) (f := Sum.inl) (fun _ _ _ h => h) (evp_join (evp_tx ⟨by decide +kernel, by decide +kernel⟩) (evp_sub (r' := (lS tTx)) seq_lL (evp_var rfl)))) (eva_cons (evp_castP (r2 := (tOr tTx tInt)) (f := Sum.inr) (fun _ _ _ h => h) (evp_var rfl)) eva_nil)))) eva_nil))))))))))))))
theorem facts {w : World} {K : PySem.W.Frag} {h : Heap} {mg : Str → Option Value} {f : Addr} (X : K.In h) (G : h.Ns mainGlobals mg) (hfa : mg ("law" : Str) = some (.ref f)) (c : He.SaysM PySem.Challenge.pw_notesttells_k52_bounds_of_boxes Hd.fa Hd.fn Hd.fs Hd.ex K) :
    ∃ fd : FuncData, (∀ (s : Shared) (v : Value), BindsTo s fd ⟨[v], []⟩ [("_law_script", v)]) ∧ ∀ base : Heap, K.In base → base.Ns mainGlobals mg → FnOk PySem.Challenge.pw_notesttells_k52_bounds_of_boxes w K mg base (L2.CX PySem.Challenge.pw_notesttells_k52_bounds_of_boxes w) 28 f fd ["_law_script"] (spLaw K) := by
  have T := tx_of X G c
  obtain ⟨fd_l_pool, D_l_pool⟩ := c.def_ 22 (d := Hd.d_l_pool) rfl
  obtain ⟨fd_l_draw, D_l_draw⟩ := c.def_ 23 (d := Hd.d_l_draw) rfl
  obtain ⟨fd_l_numbers, D_l_numbers⟩ := c.def_ 26 (d := Hd.d_l_numbers) rfl
  obtain ⟨fd_l_many, D_l_many⟩ := c.def_ 27 (d := Hd.d_l_many) rfl
  obtain ⟨fd_l_same, D_l_same⟩ := c.def_ 24 (d := Hd.d_l_same) rfl
  obtain ⟨fd_expression_words, D_expression_words⟩ := c.def_ 10 (d := Hd.d_expression_words) rfl
  obtain ⟨fd_block_words, D_block_words⟩ := c.def_ 20 (d := Hd.d_block_words) rfl
  obtain ⟨fd_box_text, D_box_text⟩ := c.def_ 21 (d := Hd.d_box_text) rfl
  obtain ⟨fd_Cursor_init, D_Cursor_init⟩ := c.def_ 3 (d := Hd.d_Cursor_init) rfl
  obtain ⟨fd_Cursor_next, D_Cursor_next⟩ := c.def_ 4 (d := Hd.d_Cursor_next) rfl
  obtain ⟨fd_Cursor_word, D_Cursor_word⟩ := c.def_ 5 (d := Hd.d_Cursor_word) rfl
  obtain ⟨fd_digits_of, D_digits_of⟩ := c.def_ 0 (d := Hd.d_digits_of) rfl
  obtain ⟨fd_number_of, D_number_of⟩ := c.def_ 2 (d := Hd.d_number_of) rfl
  obtain ⟨fd_Cursor_number, D_Cursor_number⟩ := c.def_ 6 (d := Hd.d_Cursor_number) rfl
  obtain ⟨fd_Reader_init, D_Reader_init⟩ := c.def_ 13 (d := Hd.d_Reader_init) rfl
  obtain ⟨fd_is_name, D_is_name⟩ := c.def_ 1 (d := Hd.d_is_name) rfl
  obtain ⟨fd_Cursor_new_name, D_Cursor_new_name⟩ := c.def_ 7 (d := Hd.d_Cursor_new_name) rfl
  obtain ⟨fd_Cursor_expression, D_Cursor_expression⟩ := c.def_ 8 (d := Hd.d_Cursor_expression) rfl
  obtain ⟨fd_Reader_block, D_Reader_block⟩ := c.def_ 16 (d := Hd.d_Reader_block) rfl
  obtain ⟨fd_Cursor_finish, D_Cursor_finish⟩ := c.def_ 9 (d := Hd.d_Cursor_finish) rfl
  obtain ⟨fd_Box_init, D_Box_init⟩ := c.def_ 11 (d := Hd.d_Box_init) rfl
  obtain ⟨fd_read_any, D_read_any⟩ := c.def_ 19 (d := Hd.d_read_any) rfl
  obtain ⟨fd_read_around, D_read_around⟩ := c.def_ 18 (d := Hd.d_read_around) rfl
  obtain ⟨fd_read_box, D_read_box⟩ := c.def_ 17 (d := Hd.d_read_box) rfl
  obtain ⟨fd_l_told, D_l_told⟩ := c.def_ 25 (d := Hd.d_l_told) rfl
  obtain ⟨fd_law, D_law⟩ := c.def_ 28 (d := Hd.d_law) rfl
  have el := hfa.symm.trans (He.glo_ok X G (c.fact 15 (f := .glo "law") rfl))
  cases el
  have bl := FunD.bindsA (ps := ["_law_script"]) D_law fun _ _ _ _ _ _ us hl => match us, hl with | [_], _ => rfl
  refine ⟨fd_law, fun s v => bl s [v] rfl, fun base _ _ => ?_⟩
  have O_l_pool := ok_l_pool (w := w) (base := base) T D_l_pool
  have H_l_pool : Fnc PySem.Challenge.pw_notesttells_k52_bounds_of_boxes w K mg base 1 "_law_pool" ["_law_script", "_law_budget"] (spPool K) := fnc_of (He.glo_ok X G (c.fact 9 (f := .glo "_law_pool") rfl)) D_l_pool.kp (D_l_pool.bindsN fun _ _ _ _ _ _ us hl => match us, hl with | [_, _], _ => rfl) O_l_pool
  have O_l_draw := ok_l_draw (w := w) (base := base) T D_l_draw
  have H_l_draw : Fnc PySem.Challenge.pw_notesttells_k52_bounds_of_boxes w K mg base 1 "_law_draw" ["_law_pool_here", "_law_size"] spDraw := fnc_of (He.glo_ok X G (c.fact 10 (f := .glo "_law_draw") rfl)) D_l_draw.kp (D_l_draw.bindsN fun _ _ _ _ _ _ us hl => match us, hl with | [_, _], _ => rfl) O_l_draw
  have O_l_numbers := ok_l_numbers (w := w) (base := base) T H_l_draw D_l_numbers
  have H_l_numbers : Fnc PySem.Challenge.pw_notesttells_k52_bounds_of_boxes w K mg base 2 "_law_numbers" ["_law_pool_here"] (spS K mPool raN (tPair (lL tTx) (tOpt tInt)) (fun s x => m_l_numbers s )) := fnc_of (He.glo_ok X G (c.fact 13 (f := .glo "_law_numbers") rfl)) D_l_numbers.kp (D_l_numbers.bindsN fun _ _ _ _ _ _ us hl => match us, hl with | [_], _ => rfl) O_l_numbers
  have O_l_many := ok_l_many (w := w) (base := base) T H_l_draw D_l_many
  have H_l_many : Fnc PySem.Challenge.pw_notesttells_k52_bounds_of_boxes w K mg base 2 "_law_many" ["_law_pool_here"] (spS K mPool raN (tPair (lL tTx) (tOpt tInt)) (fun s x => m_l_many s )) := fnc_of (He.glo_ok X G (c.fact 14 (f := .glo "_law_many") rfl)) D_l_many.kp (D_l_many.bindsN fun _ _ _ _ _ _ us hl => match us, hl with | [_], _ => rfl) O_l_many
  have rec_l_same : ∀ n : Nat, Fnc PySem.Challenge.pw_notesttells_k52_bounds_of_boxes w K mg base n "_law_same" ["_law_actual", "_law_due"] (spSame K n) := fun n => by
    have g_l_same := He.glo_ok X G (c.fact 11 (f := .glo "_law_same") rfl)
    induction n with
    | zero => exact fnc_of g_l_same D_l_same.kp (D_l_same.bindsN fun _ _ _ _ _ _ us hl => match us, hl with | [_, _], _ => rfl) (fn_never fun vs H Q E h => by obtain ⟨_, _, _, _, _, _, h, _⟩ := h; exact h.elim)
    | succ n ih => exact fnc_of g_l_same D_l_same.kp (D_l_same.bindsN fun _ _ _ _ _ _ us hl => match us, hl with | [_, _], _ => rfl) (ok_l_same T  ih D_l_same)
  have H_l_same := rec_l_same 6
  have rec_expression_words : ∀ n : Nat, Fnc PySem.Challenge.pw_notesttells_k52_bounds_of_boxes w K mg base (1 + n) "expression_words" ["expression"] (spP K (raC tDt raN) (lL tTx) (fun x => m_expression_words n x.1)) := fun n => by
    induction n with
    | zero => exact fnc_of (He.glo_ok X G (c.fact 3 (f := .glo "expression_words") rfl)) D_expression_words.kp (D_expression_words.bindsN fun _ _ _ _ _ _ us hl => match us, hl with | [_], _ => rfl) (fn_never fun vs H Q E h => by obtain ⟨F, x, e, hv, hm⟩ := h; simp only [m_expression_words] at hm; exact hm)
    | succ n ih => exact fnc_of (He.glo_ok X G (c.fact 3 (f := .glo "expression_words") rfl)) D_expression_words.kp (D_expression_words.bindsN fun _ _ _ _ _ _ us hl => match us, hl with | [_], _ => rfl) (ok_expression_words T  ih D_expression_words)
  have H_expression_words : Fnc PySem.Challenge.pw_notesttells_k52_bounds_of_boxes w K mg base 7 "expression_words" ["expression"] (spP K (raC tDt raN) (lL tTx) (fun x => m_expression_words 6 x.1)) := rec_expression_words 6
  have rec_block_words : ∀ n : Nat, Fnc PySem.Challenge.pw_notesttells_k52_bounds_of_boxes w K mg base (8 + n) "block_words" ["block"] (spP K (raC (lS tDt) raN) (lL tTx) (fun x => m_block_words n x.1)) := fun n => by
    induction n with
    | zero => exact fnc_of (He.glo_ok X G (c.fact 7 (f := .glo "block_words") rfl)) D_block_words.kp (D_block_words.bindsN fun _ _ _ _ _ _ us hl => match us, hl with | [_], _ => rfl) (fn_never fun vs H Q E h => by obtain ⟨F, x, e, hv, hm⟩ := h; simp only [m_block_words] at hm; exact hm)
    | succ n ih => exact fnc_of (He.glo_ok X G (c.fact 7 (f := .glo "block_words") rfl)) D_block_words.kp (D_block_words.bindsN fun _ _ _ _ _ _ us hl => match us, hl with | [_], _ => rfl) (ok_block_words T H_expression_words ih D_block_words)
  have H_block_words : Fnc PySem.Challenge.pw_notesttells_k52_bounds_of_boxes w K mg base 14 "block_words" ["block"] (spP K (raC (lS tDt) raN) (lL tTx) (fun x => m_block_words 6 x.1)) := rec_block_words 6
  have O_box_text := ok_box_text (w := w) (base := base) T H_block_words D_box_text
  have H_box_text : Fnc PySem.Challenge.pw_notesttells_k52_bounds_of_boxes w K mg base 15 "box_text" ["box"] (spP K (raC (tIns (He.ga K "Box") (d_Box K)) raN) tTx (fun x => m_box_text x.1)) := fnc_of (He.glo_ok X G (c.fact 8 (f := .glo "box_text") rfl)) D_box_text.kp (D_box_text.bindsN fun _ _ _ _ _ _ us hl => match us, hl with | [_], _ => rfl) O_box_text
  have O_Cursor_initS := ok_Cursor_initS (w := w) (base := base) T D_Cursor_init
  have H_Cursor1 : Mkc PySem.Challenge.pw_notesttells_k52_bounds_of_boxes w K mg base 1 (He.ga K "Cursor") "Cursor" ["self", "text"] [] (spInitM (He.ga K "Cursor") (raC tTx raN) (md_Cursor K) (fun x => m_Cursor_initS x.1) K) := mkc_of T.g_Cursor T.mk_Cursor ⟨[], .nil, (D_Cursor_init.bindsN fun _ _ _ _ _ _ us hl => match us, hl with | [_, _], _ => rfl)⟩ O_Cursor_initS
  have O_Cursor_nextS := ok_Cursor_nextS (w := w) (base := base) T D_Cursor_next
  have H_Cursor_nextS : Mtc PySem.Challenge.pw_notesttells_k52_bounds_of_boxes w K mg base 1 (He.ga K "Cursor") "next" ["self"] (spS K (mObj (He.ga K "Cursor") (md_Cursor K)) raN (tOpt tTx) (fun s x => m_Cursor_nextS s )) := mtc_of T.k_Cursor T.me_Cursor_next (D_Cursor_next.bindsN fun _ _ _ _ _ _ us hl => match us, hl with | [_], _ => rfl) O_Cursor_nextS
  have O_Cursor_wordS := ok_Cursor_wordS (w := w) (base := base) T H_Cursor_nextS D_Cursor_word
  have H_Cursor_wordS : Mtc PySem.Challenge.pw_notesttells_k52_bounds_of_boxes w K mg base 3 (He.ga K "Cursor") "word" ["self", "words"] (spS K (mObj (He.ga K "Cursor") (md_Cursor K)) (raC (lS tTx) raN) tTx (fun s x => m_Cursor_wordS s x.1)) := mtc_of T.k_Cursor T.me_Cursor_word (D_Cursor_word.bindsN fun _ _ _ _ _ _ us hl => match us, hl with | [_, _], _ => rfl) O_Cursor_wordS
  have O_digits_of := ok_digits_of (w := w) (base := base) T D_digits_of
  have H_digits_of : Fnc PySem.Challenge.pw_notesttells_k52_bounds_of_boxes w K mg base 1 "digits_of" ["word", "most"] (spP K (raC tTx (raC tInt raN)) (tOpt tInt) (fun x => m_digits_of x.1 x.2.1)) := fnc_of (He.glo_ok X G (c.fact 0 (f := .glo "digits_of") rfl)) D_digits_of.kp (D_digits_of.bindsN fun _ _ _ _ _ _ us hl => match us, hl with | [_, _], _ => rfl) O_digits_of
  have O_number_of := ok_number_of (w := w) (base := base) T H_digits_of D_number_of
  have H_number_of : Fnc PySem.Challenge.pw_notesttells_k52_bounds_of_boxes w K mg base 2 "number_of" ["word"] (spP K (raC tTx raN) (tOpt tInt) (fun x => m_number_of x.1)) := fnc_of (He.glo_ok X G (c.fact 2 (f := .glo "number_of") rfl)) D_number_of.kp (D_number_of.bindsN fun _ _ _ _ _ _ us hl => match us, hl with | [_], _ => rfl) O_number_of
  have O_Cursor_numberS := ok_Cursor_numberS (w := w) (base := base) T H_Cursor_nextS H_number_of D_Cursor_number
  have H_Cursor_numberS : Mtc PySem.Challenge.pw_notesttells_k52_bounds_of_boxes w K mg base 3 (He.ga K "Cursor") "number" ["self", "least", "most"] (spS K (mObj (He.ga K "Cursor") (md_Cursor K)) (raC tInt (raC tInt raN)) tInt (fun s x => m_Cursor_numberS s x.1 x.2.1)) := mtc_of T.k_Cursor T.me_Cursor_number (D_Cursor_number.bindsN fun _ _ _ _ _ _ us hl => match us, hl with | [_, _, _], _ => rfl) O_Cursor_numberS
  have O_Reader_initS := ok_Reader_initS (w := w) (base := base) T D_Reader_init
  have H_Reader2 : Mkc PySem.Challenge.pw_notesttells_k52_bounds_of_boxes w K mg base 1 (He.ga K "Reader") "Reader" ["self", "cursor", "uses"] [] (spInitT (He.ga K "Reader") (mObj (He.ga K "Cursor") (md_Cursor K)) (raC tInt raN) (md_ReaderM K) (fun s q x => m_Reader_init s q x.1) K) := mkc_of T.g_Reader T.mk_Reader ⟨[], .nil, (D_Reader_init.bindsN fun _ _ _ _ _ _ us hl => match us, hl with | [_, _, _], _ => rfl)⟩ O_Reader_initS
  have O_is_name := ok_is_name (w := w) (base := base) T D_is_name
  have H_is_name : Fnc PySem.Challenge.pw_notesttells_k52_bounds_of_boxes w K mg base 1 "is_name" ["word"] (spP K (raC tTx raN) tBool (fun x => m_is_name x.1)) := fnc_of (He.glo_ok X G (c.fact 1 (f := .glo "is_name") rfl)) D_is_name.kp (D_is_name.bindsN fun _ _ _ _ _ _ us hl => match us, hl with | [_], _ => rfl) O_is_name
  have O_Cursor_new_nameS := ok_Cursor_new_nameS (w := w) (base := base) T H_Cursor_nextS H_is_name D_Cursor_new_name
  have H_Cursor_new_nameS : Mtc PySem.Challenge.pw_notesttells_k52_bounds_of_boxes w K mg base 3 (He.ga K "Cursor") "new_name" ["self", "names"] (spS K (mObj (He.ga K "Cursor") (md_Cursor K)) (raC (lS tTx) raN) tTx (fun s x => m_Cursor_new_nameS s x.1)) := mtc_of T.k_Cursor T.me_Cursor_new_name (D_Cursor_new_name.bindsN fun _ _ _ _ _ _ us hl => match us, hl with | [_, _], _ => rfl) O_Cursor_new_nameS
  have rec_Cursor_expression : ∀ n : Nat, Mtc PySem.Challenge.pw_notesttells_k52_bounds_of_boxes w K mg base (3 + n) (He.ga K "Cursor") "expression" ["self", "names", "extra", "room"] (spS K (mObj (He.ga K "Cursor") (md_Cursor K)) (raC (lS tTx) (raC (lS tTx) (raC tInt raN))) tDt (fun s x => m_Cursor_expressionS n s x.1 x.2.1 x.2.2.1)) := fun n => by
    induction n with
    | zero => exact mtc_of T.k_Cursor T.me_Cursor_expression (D_Cursor_expression.bindsN fun _ _ _ _ _ _ us hl => match us, hl with | [_, _, _, _], _ => rfl) (fn_never fun vs H Q E h => by obtain ⟨F, p0, ws, fp, s, x, hvs, e, hP, hv, hm⟩ := h; simp only [m_Cursor_expressionS] at hm; exact hm)
    | succ n ih => exact mtc_of T.k_Cursor T.me_Cursor_expression (D_Cursor_expression.bindsN fun _ _ _ _ _ _ us hl => match us, hl with | [_, _, _, _], _ => rfl) (ok_Cursor_expressionS T H_Cursor_nextS H_number_of ih D_Cursor_expression)
  have H_Cursor_expressionS : Mtc PySem.Challenge.pw_notesttells_k52_bounds_of_boxes w K mg base 9 (He.ga K "Cursor") "expression" ["self", "names", "extra", "room"] (spS K (mObj (He.ga K "Cursor") (md_Cursor K)) (raC (lS tTx) (raC (lS tTx) (raC tInt raN))) tDt (fun s x => m_Cursor_expressionS 6 s x.1 x.2.1 x.2.2.1)) := rec_Cursor_expression 6
  obtain ⟨fd_Reader_choice, D_Reader_choice⟩ := c.def_ 15 (d := Hd.d_Reader_choice) rfl
  obtain ⟨fd_Reader_statement, D_Reader_statement⟩ := c.def_ 14 (d := Hd.d_Reader_statement) rfl
  have rec_blk : ∀ n : Nat, Mtc PySem.Challenge.pw_notesttells_k52_bounds_of_boxes w K mg base (9 + 3 * n) (He.ga K "Reader") "block" ["self", "room"] (spS K (mObj (He.ga K "Reader") (md_Reader K)) (raC tInt raN) (lT tDt) (fun s x => (m_Reader_blk n) s x.1)) := fun n => by
    induction n with
    | zero => exact mtc_of T.k_Reader T.me_Reader_block (D_Reader_block.bindsN fun _ _ _ _ _ _ us hl => match us, hl with | [_, _], _ => rfl) (fn_never fun vs H Q E h => by obtain ⟨F, p0, ws, fp, s, x, hvs, e, hP, hv, hm⟩ := h; exact hm)
    | succ n ih =>
      have h1 := mtc_of T.k_Reader T.me_Reader_choice (D_Reader_choice.bindsN fun _ _ _ _ _ _ us hl => match us, hl with | [_, _], _ => rfl) (ok_Reader_choiceS T H_Cursor_expressionS H_Cursor_wordS (n := n) ih D_Reader_choice)
      have h2 := mtc_of T.k_Reader T.me_Reader_statement (D_Reader_statement.bindsN fun _ _ _ _ _ _ us hl => match us, hl with | [_, _], _ => rfl) (ok_Reader_statementS T H_Cursor_nextS H_Cursor_wordS H_Cursor_expressionS H_Cursor_numberS (n := n) h1 D_Reader_statement)
      exact mtc_of T.k_Reader T.me_Reader_block (D_Reader_block.bindsN fun _ _ _ _ _ _ us hl => match us, hl with | [_, _], _ => rfl) (ok_Reader_blockS T  (n := n) h2 D_Reader_block)
  have H_Reader_blockS : Mtc PySem.Challenge.pw_notesttells_k52_bounds_of_boxes w K mg base 24 (He.ga K "Reader") "block" ["self", "room"] (spS K (mObj (He.ga K "Reader") (md_Reader K)) (raC tInt raN) (lT tDt) (fun s x => (m_Reader_blk 5) s x.1)) := rec_blk 5
  have O_Cursor_finishS := ok_Cursor_finishS (w := w) (base := base) T D_Cursor_finish
  have H_Cursor_finishS : Mtc PySem.Challenge.pw_notesttells_k52_bounds_of_boxes w K mg base 3 (He.ga K "Cursor") "finish" ["self"] (spS K (mObj (He.ga K "Cursor") (md_Cursor K)) raN tNon (fun s x => m_Cursor_finishS s )) := mtc_of T.k_Cursor T.me_Cursor_finish (D_Cursor_finish.bindsN fun _ _ _ _ _ _ us hl => match us, hl with | [_], _ => rfl) O_Cursor_finishS
  have O_Box_init := ok_Box_init (w := w) (base := base) T D_Box_init
  have H_Box5 : Mkc PySem.Challenge.pw_notesttells_k52_bounds_of_boxes w K mg base 1 (He.ga K "Box") "Box" ["self", "buttons", "answers", "variables", "start", "block"] [] (spInit (He.ga K "Box") (raC tInt (raC tInt (raC (lS (tPair tTx tInt)) (raC (lS tDt) (raC (lS tDt) raN))))) (d_Box K) (fun x => m_Box_init x.1 x.2.1 x.2.2.1 x.2.2.2.1 x.2.2.2.2.1) K) := mkc_of T.g_Box T.mk_Box ⟨[], .nil, (D_Box_init.bindsN fun _ _ _ _ _ _ us hl => match us, hl with | [_, _, _, _, _, _], _ => rfl)⟩ O_Box_init
  have O_read_any := ok_read_any (w := w) (base := base) T H_Cursor1 H_Cursor_wordS H_Cursor_numberS H_Reader2 H_Cursor_nextS H_Cursor_new_nameS H_Reader_blockS H_Cursor_finishS H_Box5 D_read_any
  have H_read_any : Fnc PySem.Challenge.pw_notesttells_k52_bounds_of_boxes w K mg base 25 "read_any" ["text", "uses"] (spP K (raC tTx (raC tInt raN)) (tIns (He.ga K "Box") (d_Box K)) (fun x => m_read_any x.1 x.2.1)) := fnc_of (He.glo_ok X G (c.fact 6 (f := .glo "read_any") rfl)) D_read_any.kp (D_read_any.bindsN fun _ _ _ _ _ _ us hl => match us, hl with | [_, _], _ => rfl) O_read_any
  have O_read_around := ok_read_around (w := w) (base := base) T H_read_any D_read_around
  have H_read_around : Fnc PySem.Challenge.pw_notesttells_k52_bounds_of_boxes w K mg base 26 "read_around" ["text"] (spP K (raC tTx raN) (tIns (He.ga K "Box") (d_Box K)) (fun x => m_read_around x.1)) := fnc_of (He.glo_ok X G (c.fact 5 (f := .glo "read_around") rfl)) D_read_around.kp (D_read_around.bindsN fun _ _ _ _ _ _ us hl => match us, hl with | [_], _ => rfl) O_read_around
  have O_read_box := ok_read_box (w := w) (base := base) T H_read_any D_read_box
  have H_read_box : Fnc PySem.Challenge.pw_notesttells_k52_bounds_of_boxes w K mg base 26 "read_box" ["text"] (spP K (raC tTx raN) (tIns (He.ga K "Box") (d_Box K)) (fun x => m_read_box x.1)) := fnc_of (He.glo_ok X G (c.fact 4 (f := .glo "read_box") rfl)) D_read_box.kp (D_read_box.bindsN fun _ _ _ _ _ _ us hl => match us, hl with | [_], _ => rfl) O_read_box
  have O_l_told := ok_l_told (w := w) (base := base) T H_box_text H_read_around H_read_box D_l_told
  have H_l_told : Fnc PySem.Challenge.pw_notesttells_k52_bounds_of_boxes w K mg base 27 "_law_told" ["_law_words", "_law_uses"] (spP K (raC (lL tTx) (raC tBool raN)) (tOr tTx tInt) (fun x => m_l_told x.1 x.2.1)) := fnc_of (He.glo_ok X G (c.fact 12 (f := .glo "_law_told") rfl)) D_l_told.kp (D_l_told.bindsN fun _ _ _ _ _ _ us hl => match us, hl with | [_, _], _ => rfl) O_l_told
  exact L2.FnOk.imp (sp := (spP K (raC (tScr K) raN) tBool (fun x => m_law x.1))) (ok_law T H_l_pool H_l_numbers H_l_many H_l_same H_l_told H_l_draw D_law) (law_imp law_ok)
end Lw
open PySem PySem.W PySem.Calls PyProof.Rows
theorem PySem.Challenge.cw_notesttells_k52_bounds_of_boxes_holds : PySem.Challenge.rw_notesttells_k52_bounds_of_boxes.Holds := by
  w_on; o_law
  refine HandSHeadRun.head_any (r := OpenLaw.row PySem.Challenge.rw_notesttells_k52_bounds_of_boxes) (q := view (OpenLaw.row PySem.Challenge.rw_notesttells_k52_bounds_of_boxes).prog [35]) (H := Hd.hk) (ob := Hd.ob) (M := 6000) (loose := Hd.names) (d := HandSHeadRun.topDef (OpenLaw.row PySem.Challenge.rw_notesttells_k52_bounds_of_boxes).prog 35) (kwd := []) Hd.ob_eq
    (by kernel_rfl) (fun s => by kernel_rfl) Hd.run (by kernel_rfl) (by kernel_rfl) (by kernel_rfl) (by rfl) (by first | assumption | decide +kernel) (by decide +kernel) ⟨rfl, rfl, rfl, rfl, rfl, by decide +kernel⟩ ?hw ?hc
  case hw => w_witness2
  case hc =>
    refine L2.My.walk_ofM (l := PySem.Challenge.rw_notesttells_k52_bounds_of_boxes) (n := 63) (k := 28) (x := "_law_script") (CX := fun w => L2.CX PySem.Challenge.pw_notesttells_k52_bounds_of_boxes w) rfl (by decide) (by kernel_rfl) ⟨rfl, by decide, by decide⟩ ?F (fun w H s e s' z => L2.My.cx_none w H s e s' z)
    intro w mg fa h Y G hmg0
    obtain ⟨K, KX, c⟩ := Y
    have hmg : mg ("law" : PySem.Str) = some (.ref fa) := by
      have e : (HandSHeadRun.topDef (OpenLaw.row PySem.Challenge.rw_notesttells_k52_bounds_of_boxes).prog 35).name = ("law" : PySem.Str) := by kernel_rfl
      rw [← e]
      exact hmg0
    obtain ⟨fd, hb, hF⟩ := Lw.facts (w := w) KX G hmg c
    exact ⟨K, fd, (Lw.spLaw K), KX, hb, fun H a ns hl _ hS => ⟨a, ns, H, rfl, fun _ _ z => z, hS, hl, fun _ => rfl⟩, hF⟩
