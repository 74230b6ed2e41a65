import PyProof.Rows.All
import PySem.Challenge.RW_notesttells_k00_fractions
import Wide.All
import OpenK.AllK
import Wide.FinOn
import KE.KCallOwn
import KE.KOpsOwn
import PyProof.InstNe
import HandS.ForMost
import HandS.OwnEq
import HandS.Defaults
import KE.KFmtOwn
import PyProof.NeKinds
import KE.KExcSuper
import KE.KFromBytes
import HandS.Exc
import HandS.ExcSuper
import HandS.ExcInit
import HandS.ExcOwn
import HandS.TryOnly
import HandS.WordsExc
import HandS.HeadWalk
import HandS.ExcIs
import HandS.IsInst
import KE.KStateDown
import HandS.Head0
import HandS.Head1
import HandS.Head2
import HandS.HeadEnd
import HandS.HeadHook1
import HandS.HeadHook2
import HandS.ForExc
import HandS.Wide
import HandS.MakeKwOnly
import HandS.Flow
import HandS.Conv
import HandS.TupAny
import HandS.Style
import HandS.FStr
import HandS.Steps
import HandS.MakeKw
set_option Elab.async false
set_option linter.all false
set_option maxRecDepth 100000
set_option maxHeartbeats 0
set_option exponentiation.threshold 20000
namespace L2.My
open PySem PySem.Spec PyProof.Rows L2
section
variable {X : Cx} {CX : CXT} {n f C : Nat} {fd : FuncData} {ps : List Str} {sp : Sp} {E : XK}
theorem cmpBack_rel {v : V} {u : Value} {Q : Value → Shared → Prop} {s' : Shared} (r : RelV v u) (q : Q u s') : PySem.W.CmpBack Q u s' := by
  cases v with
  | non => cases r; exact q
  | bl b => cases r; exact q
  | int i => obtain ⟨t, rfl⟩ := r; exact q
  | str x => obtain ⟨t, rfl⟩ := r; exact q
  | byt b => obtain ⟨t, rfl⟩ := r; exact q
  | flt b => obtain ⟨t, rfl⟩ := r; exact q
  | ref a => cases r; exact q
  | ty m => cases r; exact q
theorem run_sub {A : Around} {pins : List (Addr × Obj)} {σ : St} {H : Hp} {s : Shared} {Q : VK} {us : List Value} {vs : List V} (F : FnOk X.prog X.w X.K X.mg X.base CX n f fd ps sp) (sb : Sub X n A) (hb : Binds X.K fd ps []) (hx : Passes CX X E)
    (I : Inv X pins σ H s) (r : Vals vs us) (h : sp vs H Q E) : wpAny (model X.prog X.w) A (call (.ref f) us) (EP X pins σ Q) X.xe s := by
  have hl : (us ++ []).length = ps.length := by rw [List.append_nil, ← r.length]; exact F.len _ _ _ _ h
  have e0 : Env0 X.prog X.w X.K X.mg X.base A X.stack s H := by
    have e := I.env0
    exact ⟨by rw [sb.fr]; exact e.frames, e.mod, e.bs, e.bsz, e.funs, e.frf, e.hok, e.bare⟩
  have bb := hb s us I.kIn hl
  rw [List.append_nil] at bb
  refine wpAny_call (codeAny_mono (F.run A X.stack s H ⟨us, []⟩ us vs Q E sb.room e0 bb r h) fun r s' hq => ?_)
  cases r with
  | error e => exact hx pins σ H s e s' I hq
  | ok fl =>
    cases fl with
    | ret w => exact I.after hq
    | next => exact False.elim hq
    | brk => exact False.elim hq
    | cont => exact False.elim hq
theorem rr2 (a b : Addr) : Vals [V.ref a, V.ref b] [Value.ref a, Value.ref b] := .cons rfl (.cons rfl .nil)
def TwoIns (C : Addr) (x y : V) (H : Hp) : Prop := ∃ a b dx dy fs gs, x = .ref a ∧ y = .ref b ∧ H a = some (.ins C dx fs) ∧ H b = some (.ins C dy gs)
def rOwn (C : Addr) (sp : Sp) (E : XK) : R2 := fun x y H Q => TwoIns C x y H ∧ sp [x, y] H Q E
theorem op_own {op : Operator} (F : FnOk X.prog X.w X.K X.mg X.base CX n f fd ps sp) (hr : Room n X.A) (hs : PySem.W.findIn X.K (.ref C) (PySem.dunder op.info.2) = some (some (.ref f))) (hf : PySem.W.isFn X.K (.ref f) = true)
    (hc : PySem.W.selfFirst X.K C = true) (hb : Binds X.K fd ps []) (hx : Passes CX X E) : OpR X (binaryOp op) (rOwn C sp E) := by
  intro pins s σ H x y v u Q I rx ry hq
  obtain ⟨⟨a, b, dx, dy, fs, gs, rfl, rfl, ha, hb'⟩, q⟩ := hq
  cases rx
  cases ry
  obtain ⟨mA, J, _⟩ := ins_get I.hok ha
  obtain ⟨mB, J', _⟩ := ins_get I.hok hb'
  obtain ⟨od, J, _⟩ := J.look
  obtain ⟨od', J', _⟩ := J'.look
  obtain ⟨m, hF⟩ := I.fr
  refine PySem.W.binop_K hF I.ok.mod.kin J J'.type hc hs hf ?_
  refine wpAny_mono (run_sub F ⟨hr, rfl⟩ hb hx I (rr2 a _) q) (fun u s' hq => ?_) fun _ _ z => z
  obtain ⟨v, H', I', r, q⟩ := hq
  exact cmpBack_rel r ⟨v, H', I', r, q⟩

abbrev Eqb := V → V → Hp → Bool → Prop
def Monb (D : Eqb) : Prop := ∀ x y H H' b, Ext H H' → D x y H b → D x y H' b
def EqB (X : Cx) (n : Nat) (D : Eqb) : Prop :=
  ∀ (A : Around) (pins : List (Addr × Obj)) (s : Shared) (σ : St) (H : Hp) (x y : V) (u v : Value) (b : Bool), Sub X n A → Inv X pins σ H s → RelV x u → RelV y v → D x y H b →
    wpAny (model X.prog X.w) A (eqBool u v) (fun r s' => r = b ∧ ∃ H', Inv X pins σ H' s' ∧ Ext H H') X.xe s
def RcB (X : Cx) (n : Nat) (ne : Bool) (D : Eqb) : Prop :=
  ∀ (A : Around) (pins : List (Addr × Obj)) (s : Shared) (σ : St) (H : Hp) (x y : V) (u v : Value) (b : Bool), Sub X n A → Inv X pins σ H s → RelV x u → RelV y v → D x y H b →
    wpAny (model X.prog X.w) A (richCompare (if ne then .NotEq else .Eq) u v) (fun r s' => r = .bool (ne ^^ b) ∧ ∃ H', Inv X pins σ H' s' ∧ Ext H H') X.xe s
theorem EqB.imp {D D' : Eqb} (h : EqB X n D) (hd : ∀ x y H b, D' x y H b → D x y H b) : EqB X n D' := fun A pins s σ H x y u v b sb I rx ry d => h A pins s σ H x y u v b sb I rx ry (hd x y H b d)
theorem EqB.mono {m : Nat} {D : Eqb} (h : EqB X n D) (hn : n ≤ m) : EqB X m D := fun A pins s σ H x y u v b sb => h A pins s σ H x y u v b (sb.mono hn)
theorem RcB.mono {m : Nat} {ne : Bool} {D : Eqb} (h : RcB X n ne D) (hn : n ≤ m) : RcB X m ne D := fun A pins s σ H x y u v b sb => h A pins s σ H x y u v b (sb.mono hn)
def DFlatb : Eqb := fun x y _ b => flatV x = true ∧ flatV y = true ∧ eqV x y = b
theorem monb_flat : Monb DFlatb := fun _ _ _ _ _ _ d => d
theorem eqB_flat : EqB X 0 DFlatb := by
  intro A pins s σ H x y u v b sb I rx ry d
  obtain ⟨fx, fy, e⟩ := d
  have q := eqAt_V (A := A) (s := s) rx ry fx fy
  rw [e] at q
  exact q X.prog X.w X.xe _ ⟨rfl, H, I, Ext.rfl'⟩
def DInsb (C : Addr) (R : Addr → Addr → Hp → Bool → Prop) : Eqb := fun x y H r => ∃ a b dx dy fs gs, x = .ref a ∧ y = .ref b ∧ H a = some (.ins C dx fs) ∧ H b = some (.ins C dy gs) ∧ R a b H r
def spEqb (R : Addr → Addr → Hp → Bool → Prop) : Sp := fun vs H Q _ => ∃ a b r, vs = [.ref a, .ref b] ∧ R a b H r ∧ ∀ H', Ext H H' → Q (.bl r) H'
theorem rcB_ins {R : Addr → Addr → Hp → Bool → Prop} (F : FnOk X.prog X.w X.K X.mg X.base CX n f fd ps (spEqb R))
    (hs : PySem.W.findIn X.K (.ref C) "__eq__" = some (some (.ref f))) (hf : PySem.W.isFn X.K (.ref f) = true) (hb : Binds X.K fd ps []) (hx : Passes CX X E) : RcB X n false (DInsb C R) := by
  intro A pins s σ H x y u v b sb I rx ry d
  obtain ⟨a, b', dx, dy, fs, gs, rfl, rfl, ha, hb', hr⟩ := d
  cases rx
  cases ry
  obtain ⟨mA, J, _⟩ := ins_get I.hok ha
  obtain ⟨mB, J', _⟩ := ins_get I.hok hb'
  obtain ⟨od, J, _⟩ := J.look
  obtain ⟨od', J', _⟩ := J'.look
  obtain ⟨m, hF⟩ := I.fr
  refine PySem.W.cmp_K (op := .Eq) (tb := .ref C) sb.room.units0 hF I.ok.mod.kin J J'.type (by simp [PySem.W.notFirst]) hs hf ?_
  have hsp : spEqb R [.ref a, .ref b'] H (fun v H' => v = .bl b ∧ Ext H H') E := ⟨a, b', b, rfl, hr, fun H' e => ⟨rfl, e⟩⟩
  refine wpAny_mono (run_sub F sb hb hx I (rr2 a _) hsp) (fun u s' hq => ?_) fun _ _ z => z
  obtain ⟨v, H', I', r, e, ex⟩ := hq
  subst e
  cases r
  exact ⟨by simp, H', I', ex⟩
theorem RcB.eqB {D : Eqb} (h : RcB X n false D) (hr : ∀ x y H b, D x y H b → ∃ p q, x = .ref p ∧ y = .ref q ∧ (p = q → b = true)) : EqB X n D := by
  intro A pins s σ H x y u v b sb I rx ry d
  obtain ⟨p, q, rfl, rfl, hpq⟩ := hr _ _ _ _ d
  cases rx
  cases ry
  by_cases hab : p = q
  · have hb := hpq hab
    subst hab hb
    exact SeqAt.EqAt.same (A := A) (s := s) (.ref p) X.prog X.w X.xe _ ⟨rfl, H, I, Ext.rfl'⟩
  · refine GQ.eqBool_refG hab (wpAny_mono (h A pins s σ H (.ref p) (.ref q) _ _ b sb I rfl rfl d) (fun r s' z => ?_) fun _ _ x => x)
    obtain ⟨hr', z⟩ := z
    exact ⟨b, by rw [hr']; simp, rfl, z⟩
end
end L2.My
namespace PySem.W
open PySem PySem.Calls PyProof.Rows
section
variable {prog : Program} {w : World} {A : Around} {E : Value → Shared → Prop} {s : Shared} {K : Frag} {x y C L f : Addr} {h₀ : Heap} {m : Str → Option Value} {ox : Obj} {od : Option Obj}
theorem mySpecialIf {M : Model} {name : Str} {id : String} {args : List Value} {Q : Option Value → Shared → Prop} (X : K.In s.heap) (I : InstAt s.heap x ox C od) (hs : findIn K (.ref C) name = some (some (.builtin id)))
    (hb : ∀ self, bindSpecial (.builtin id) self = pure (.builtin id, [self])) (h : wpAny M A (call (.builtin id) (.ref x :: args)) (fun v => Q (some v)) E s) : wpAny M A (callSpecialIfBound? (.ref x) name args) Q E s := by
  simp only [callSpecialIfBound?, bindSpecialIfBound?]
  refine wpAny_holding (wpAny_bind (wpAny_bind (wpAny_bind (I.type.here ((looks_findIn X hs).here ?_)))))
  refine wpAny_bind (wpAny_askSetting (wpAny_ite ?_))
  have fin : wpAny M A (call (.builtin id) ([.ref x] ++ args) >>= fun v => pure (some v)) Q E s := wpAny_bind (wpAny_mono h (fun v s' h' => wpAny_pure h') fun _ _ h' => h')
  split
  · exact wpAny_bind ((Looks.of_pure (hb _)).here (wpAny_pure (by exact fin)))
  · exact wpAny_tryCatch (wpAny_bind ((Looks.of_pure (hb _)).here (wpAny_pure (by exact fin))))
open Builtin in
theorem myNeBuiltin {Q : Value → Shared → Prop} (hu : A.in1.units < cLine) (X : K.In s.heap) (I : InstAt s.heap x ox C od) (hm : mroIn K C (.type "object") = some true) (hr : findIn K (.ref C) "__eq__" = some (some (.ref f))) (hf : isFn K (.ref f) = true)
    (h : wpAny (model prog w) A.in1 (call (.ref f) [.ref x, .ref y]) (fun v s' => ∃ b, v = .bool b ∧ Q (.bool (!b)) s') E s) : wpAny (model prog w) A (call (.builtin "object.__ne__") [.ref x, .ref y]) Q E s := by
  refine wpAny_call (codeAny_call_builtin PySem.F.slot_object_ne.plain F.cmpEntry_ne (check_slot (i := "object.__ne__") (owner := "object") (n := "__ne__") F.cmpKind_ne F.cmpSplit_ne (I.type.andThen (looks_mroIn X hm)) (F.cmpArgs_ne _ _) ?_))
  unfold Builtin.«object.__ne__»
  repeat (first
    | with_reducible refine wpAny_cRoomFor hu ?_
    | (refine wpAny_bind (m := callSpecialIfBound? (.ref x) (Str.ofString "__eq__") [.ref y])
        (ifBound_K X I hr hf (wpAny_mono h (fun r s' hr => by
          obtain ⟨b, rfl, hq⟩ := hr
          repeat (first | exact hq | exact wpAny_pure hq | exact wpAny_truthy_bool hq | (refine wpAny_bind (m := truthy (.bool _)) (wpAny_truthy_bool ?_)) | wp_step)) fun _ _ e => e)))
    | wp_step)
theorem myCmpNe {Q : Value → Shared → Prop} (hu : A.units + 1 < cLine) (F : Fr h₀ L s.heap m) (X₀ : K.In h₀) (I : InstAt s.heap x ox C od) (hb : Looks (model prog w) s.heap (typeOf (.ref y)) (.ref C))
    (hn : findIn K (.ref C) "__ne__" = some (some (.builtin "object.__ne__"))) (hm : mroIn K C (.type "object") = some true)
    (hs : findIn K (.ref C) "__eq__" = some (some (.ref f))) (hf : isFn K (.ref f) = true)
    (h : wpAny (model prog w) A.in1 (call (.ref f) [.ref x, .ref y]) (fun v s' => ∃ b, v = .bool b ∧ Q (.bool (!b)) s') E s) : wpAny (model prog w) A (richCompare .NotEq (.ref x) (.ref y)) Q E s := by
  have X := X₀.keeps F.keep
  have one : wpAny (model prog w) A (tryCompare (.ref x) (cmpInfo .NotEq).2.1 (.ref y)) (fun r s' => ∃ v, r = some v ∧ Q v s') E s := by
    unfold tryCompare
    refine wpAny_bind (mySpecialIf X I hn PySem.F.slot_object_ne.bind (myNeBuiltin hu X I hm hs hf (wpAny_mono h (fun v s' hv => ?_) fun _ _ e => e)))
    obtain ⟨b, rfl, q⟩ := hv
    exact ⟨b, rfl, wpAny_pure ⟨_, rfl, q⟩⟩
  unfold richCompare
  simp only [oneThing_ref]
  refine wpAny_holding (wpAny_bind (wpAny_cRoomFor (Nat.lt_of_succ_lt hu) ?_))
  refine wpAny_bind (I.type.here (wpAny_bind (hb.here ?_)))
  rw [show (Value.ref C != Value.ref C) = false from by simp]
  simp only [Bool.false_eq_true, if_false]
  refine wpAny_bind (wpAny_pure ?_)
  simp only [Bool.false_eq_true, if_false]
  refine wpAny_bind (wpAny_mono one (fun r s' z => ?_) fun _ _ e => e)
  obtain ⟨v, rfl, hq⟩ := z
  exact wpAny_pure hq
end
end PySem.W

namespace L2.My
open PySem PySem.Spec PyProof.Rows L2
section
variable {X : Cx} {CX : CXT} {n f C : Nat} {fd : FuncData} {ps : List Str} {sp : Sp} {E : XK}
structure NeC (K : PySem.W.Frag) (C : Addr) : Prop where
  ne : PySem.W.findIn K (.ref C) "__ne__" = some (some (.builtin "object.__ne__"))
  ob : PySem.W.mroIn K C (.type "object") = some true
theorem rcN_ins {R : Addr → Addr → Hp → Bool → Prop} (F : FnOk X.prog X.w X.K X.mg X.base CX n f fd ps (spEqb R)) (hn : NeC X.K C)
    (hs : PySem.W.findIn X.K (.ref C) "__eq__" = some (some (.ref f))) (hf : PySem.W.isFn X.K (.ref f) = true) (hb : Binds X.K fd ps []) (hx : Passes CX X E) : RcB X (n + 1) true (DInsb C R) := by
  intro A pins s σ H x y u v b sb I rx ry d
  obtain ⟨a, b', dx, dy, fs, gs, rfl, rfl, ha, hb', hr⟩ := d
  cases rx
  cases ry
  obtain ⟨mA, J, _⟩ := ins_get I.hok ha
  obtain ⟨mB, J', _⟩ := ins_get I.hok hb'
  obtain ⟨od, J, _⟩ := J.look
  obtain ⟨od', J', _⟩ := J'.look
  obtain ⟨m, hF⟩ := I.fr
  refine PySem.W.myCmpNe sb.in1.room.units0 hF I.ok.mod.kin J J'.type hn.ne hn.ob hs hf ?_
  have hsp : spEqb R [.ref a, .ref b'] H (fun v H' => v = .bl b ∧ Ext H H') E := ⟨a, b', b, rfl, hr, fun H' e => ⟨rfl, e⟩⟩
  refine wpAny_mono (run_sub F sb.in1 hb hx I (rr2 a _) hsp) (fun u s' hq => ?_) fun _ _ z => z
  obtain ⟨v, H', I', r, e, ex⟩ := hq
  subst e
  cases r
  exact ⟨b, rfl, by simp, H', I', ex⟩
end
end L2.My
namespace GQ
open PySem PySem.SeqAt
open AutoSeq1 (wpAny_loadPart')
open MeetsSeq MeetsSeq2 MeetsSeq3 SeqRoads2
section
variable {prog : Program} {w : World} {A : Around} {R : Result → Shared → Prop}
def ListB (prog : Program) (w : World) (A : Around) (E : Value → Shared → Prop) (l b : Addr) (N : Nat) (f : Nat → Bool) (I : Nat → Shared → Prop) : Prop :=
  ∀ i s, I i s → ∃ (items items2 : Array Value) (n n2 : Nat), s.heap.get? l = some { cls := .type "list", data := .seq items n } ∧ s.heap.get? b = some { cls := .type "list", data := .seq items2 n2 } ∧ items.size = N ∧ items2.size = N ∧
    ∀ (h1 : i < items.size) (h2 : i < items2.size), wpAny (model prog w) A.in1 (eqBool items[i] items2[i]) (fun r s' => r = f i ∧ I (i + 1) s') E s
theorem eq_loopB (l b : Addr) (N : Nat) (f : Nat → Bool) (I : Nat → Shared → Prop) (hl : ListB prog w A (fun e s' => R (.error e) s') l b N f I) (r : Bool) (hr : r = (List.range N).all f)
    (fin : ∀ i s, I i s → R (.ok (.ret (.bool r))) s) (k : Nat) :
    ∀ i : Nat, N - i = k → i ≤ N → (∀ j, j < i → f j = true) → ∀ s, I i s →
      wpAny (model prog w) A.in1 (Builtin.«list.__eq__.loop» ⟨[.ref l, .ref b, rawInt i, rawInt 2], []⟩) (FinOf prog w A R) (fun e s' => R (.error e) s') s := by
  induction k with
  | zero =>
    intro i hk hi hp s h
    obtain ⟨items, items2, n, n2, hl1, hb1, hs1, hs2, _⟩ := hl _ _ h
    have hi' : i = N := by omega
    have hrt : r = true := by
      rw [hr, List.all_eq_true]
      intro j hj
      exact hp j (by rw [hi']; exact List.mem_range.mp hj)
    have hR : R (.ok (.ret (.bool true))) s := hrt ▸ fin _ s h
    obtain ⟨hp, g, d, tk, os⟩ := s
    wp_walk using wpAny_loadPart' hl1, wpAny_loadPart' hb1
    have hi1 : items[((i : Nat) : Int).toNat]? = none := by simp; omega
    have hi2 : items2[((i : Nat) : Int).toNat]? = none := by simp; omega
    rw [hi1, hi2]
    wp_walk using wpAny_loadPart' hl1, wpAny_loadPart' hb1
    show R (.ok (.ret (.bool (items.size == items2.size)))) _
    rw [hs1, hs2]
    simpa using hR
  | succ k ih =>
    intro i hk hi hp s h
    obtain ⟨items, items2, n, n2, hl1, hb1, hs1, hs2, turn⟩ := hl _ _ h
    have hlt : i < items.size := by omega
    have hlt2 : i < items2.size := by omega
    have ht := turn hlt hlt2
    obtain ⟨hp0, g, d, tk, os⟩ := s
    wp_walk using wpAny_loadPart' hl1, wpAny_loadPart' hb1
    have hi1 : items[((i : Nat) : Int).toNat]? = some items[i] := by simp [hlt]
    have hi2 : items2[((i : Nat) : Int).toNat]? = some items2[i] := by simp [hlt2]
    have hc : ((i : Int) + 1) = ((i + 1 : Nat) : Int) := by omega
    rw [hi1, hi2]
    refine wpAny_bind (wpAny_mono ht (fun q s2 h2 => ?_) fun _ _ x => x)
    obtain ⟨hr', h2⟩ := h2
    subst hr'
    cases hf : f i with
    | true =>
      have hrec := ih (i + 1) (by omega) (by omega) (fun j hj => by
        rcases Nat.lt_or_ge j i with z | z
        · exact hp j z
        · have e : j = i := by omega
          rw [e]; exact hf) s2 h2
      obtain ⟨hp2, g2, d2, tk2, os2⟩ := s2
      wp_walk
      rw [hc]
      exact ⟨plainId_quiet plain_eq_loop _, codeAny_builtin entry_eq_loop (by
        rw [Around.under_plainId plain_eq_loop _]
        exact hrec)⟩
    | false =>
      have hrf : r = false := by
        rw [hr]
        refine Bool.eq_false_iff.mpr fun z => ?_
        have := List.all_eq_true.mp z i (List.mem_range.mpr (by omega))
        rw [hf] at this
        cases this
      have hR := fin _ s2 h2
      rw [hrf] at hR
      obtain ⟨items', items2', n', n2', hl1', hb1', hs1', hs2', _⟩ := hl _ _ h2
      obtain ⟨hp2, g2, d2, tk2, os2⟩ := s2
      wp_walk using wpAny_loadPart' hl1', wpAny_loadPart' hb1'
      have hi1' : items'[((i : Nat) : Int).toNat]? = some items'[i] := by
        have : i < items'.size := by omega
        simp [this]
      have hi2' : items2'[((i : Nat) : Int).toNat]? = some items2'[i] := by
        have : i < items2'.size := by omega
        simp [this]
      rw [hi1', hi2']
      wp_walk
      exact hR
theorem ne_loopB (l b : Addr) (N : Nat) (f : Nat → Bool) (I : Nat → Shared → Prop) (hl : ListB prog w A (fun e s' => R (.error e) s') l b N f I) (r : Bool) (hr : r = (List.range N).all f)
    (fin : ∀ i s, I i s → R (.ok (.ret (.bool (!r)))) s) (k : Nat) :
    ∀ i : Nat, N - i = k → i ≤ N → (∀ j, j < i → f j = true) → ∀ s, I i s →
      wpAny (model prog w) A.in1 (Builtin.«list.__eq__.loop» ⟨[.ref l, .ref b, rawInt i, rawInt 3], []⟩) (FinOf prog w A R) (fun e s' => R (.error e) s') s := by
  induction k with
  | zero =>
    intro i hk hi hp s h
    obtain ⟨items, items2, n, n2, hl1, hb1, hs1, hs2, _⟩ := hl _ _ h
    have hi' : i = N := by omega
    have hrt : r = true := by
      rw [hr, List.all_eq_true]
      intro j hj
      exact hp j (by rw [hi']; exact List.mem_range.mp hj)
    have hR : R (.ok (.ret (.bool false))) s := by
      have q := fin _ s h
      rw [hrt] at q
      exact q
    obtain ⟨hp, g, d, tk, os⟩ := s
    wp_walk using wpAny_loadPart' hl1, wpAny_loadPart' hb1
    have hi1 : items[((i : Nat) : Int).toNat]? = none := by simp; omega
    have hi2 : items2[((i : Nat) : Int).toNat]? = none := by simp; omega
    rw [hi1, hi2]
    wp_walk using wpAny_loadPart' hl1, wpAny_loadPart' hb1
    show R (.ok (.ret (.bool (items.size != items2.size)))) _
    rw [hs1, hs2]
    simpa using hR
  | succ k ih =>
    intro i hk hi hp s h
    obtain ⟨items, items2, n, n2, hl1, hb1, hs1, hs2, turn⟩ := hl _ _ h
    have hlt : i < items.size := by omega
    have hlt2 : i < items2.size := by omega
    have ht := turn hlt hlt2
    obtain ⟨hp0, g, d, tk, os⟩ := s
    wp_walk using wpAny_loadPart' hl1, wpAny_loadPart' hb1
    have hi1 : items[((i : Nat) : Int).toNat]? = some items[i] := by simp [hlt]
    have hi2 : items2[((i : Nat) : Int).toNat]? = some items2[i] := by simp [hlt2]
    have hc : ((i : Int) + 1) = ((i + 1 : Nat) : Int) := by omega
    rw [hi1, hi2]
    refine wpAny_bind (wpAny_mono ht (fun q s2 h2 => ?_) fun _ _ x => x)
    obtain ⟨hr', h2⟩ := h2
    subst hr'
    cases hf : f i with
    | true =>
      have hrec := ih (i + 1) (by omega) (by omega) (fun j hj => by
        rcases Nat.lt_or_ge j i with z | z
        · exact hp j z
        · have e : j = i := by omega
          rw [e]; exact hf) s2 h2
      obtain ⟨hp2, g2, d2, tk2, os2⟩ := s2
      wp_walk
      rw [hc]
      exact ⟨plainId_quiet plain_eq_loop _, codeAny_builtin entry_eq_loop (by
        rw [Around.under_plainId plain_eq_loop _]
        exact hrec)⟩
    | false =>
      have hrf : r = false := by
        rw [hr]
        refine Bool.eq_false_iff.mpr fun z => ?_
        have := List.all_eq_true.mp z i (List.mem_range.mpr (by omega))
        rw [hf] at this
        cases this
      have hR := fin _ s2 h2
      rw [hrf] at hR
      obtain ⟨items', items2', n', n2', hl1', hb1', hs1', hs2', _⟩ := hl _ _ h2
      obtain ⟨hp2, g2, d2, tk2, os2⟩ := s2
      wp_walk using wpAny_loadPart' hl1', wpAny_loadPart' hb1'
      have hi1' : items'[((i : Nat) : Int).toNat]? = some items'[i] := by
        have : i < items'.size := by omega
        simp [this]
      have hi2' : items2'[((i : Nat) : Int).toNat]? = some items2'[i] := by
        have : i < items2'.size := by omega
        simp [this]
      rw [hi1', hi2']
      wp_walk
      exact hR

theorem list_eqB (l b : Addr) (N : Nat) (f : Nat → Bool) (I : Nat → Shared → Prop) (hl : ListB prog w A (fun e s' => R (.error e) s') l b N f I) (r : Bool) (hr : r = (List.range N).all f)
    (fin : ∀ i s, I i s → R (.ok (.ret (.bool r))) s) {s : Shared} (h : I 0 s) :
    wpAny (model prog w) A.in1 (Builtin.«list.__eq__» ⟨[.ref l, .ref b], []⟩) (FinOf prog w A R) (fun e s' => R (.error e) s') s := by
  obtain ⟨items, items2, n, n2, hl1, hb1, hs1, hs2, _⟩ := hl _ _ h
  have hrec := eq_loopB (A := A) (R := R) l b N f I hl r hr fin _ 0 rfl (Nat.zero_le _) (fun j hj => absurd hj (Nat.not_lt_zero j)) s h
  obtain ⟨hp, g, d, tk, os⟩ := s
  have f3 := AutoSeq1.sub_list_list
  have hne : ¬ (items.size != items2.size) = true := by simp [hs1, hs2]
  wp_walk using wpAny_loadPart' hl1, wpAny_loadPart' hb1
  exact ⟨plainId_quiet plain_eq_loop _, codeAny_builtin entry_eq_loop (by
    rw [Around.under_plainId plain_eq_loop _]
    exact hrec)⟩
theorem list_neB (l b : Addr) (N : Nat) (f : Nat → Bool) (I : Nat → Shared → Prop) (hl : ListB prog w A (fun e s' => R (.error e) s') l b N f I) (r : Bool) (hr : r = (List.range N).all f)
    (fin : ∀ i s, I i s → R (.ok (.ret (.bool (!r)))) s) {s : Shared} (h : I 0 s) :
    wpAny (model prog w) A.in1 (Builtin.«list.__ne__» ⟨[.ref l, .ref b], []⟩) (FinOf prog w A R) (fun e s' => R (.error e) s') s := by
  obtain ⟨items, items2, n, n2, hl1, hb1, hs1, hs2, _⟩ := hl _ _ h
  have hrec := ne_loopB (A := A) (R := R) l b N f I hl r hr fin _ 0 rfl (Nat.zero_le _) (fun j hj => absurd hj (Nat.not_lt_zero j)) s h
  obtain ⟨hp, g, d, tk, os⟩ := s
  have f3 := AutoSeq1.sub_list_list
  have hne : ¬ (items.size != items2.size) = true := by simp [hs1, hs2]
  wp_walk using wpAny_loadPart' hl1, wpAny_loadPart' hb1
  exact ⟨plainId_quiet plain_eq_loop _, codeAny_builtin entry_eq_loop (by
    rw [Around.under_plainId plain_eq_loop _]
    exact hrec)⟩
theorem list_eqL {l b : Addr} {items items2 : Array Value} {n n2 : Nat} (hsz : items.size ≠ items2.size) {s : Shared} (hl1 : s.heap.get? l = some { cls := .type "list", data := .seq items n }) (hb1 : s.heap.get? b = some { cls := .type "list", data := .seq items2 n2 })
    (fin : R (.ok (.ret (.bool false))) s) : wpAny (model prog w) A.in1 (Builtin.«list.__eq__» ⟨[.ref l, .ref b], []⟩) (FinOf prog w A R) (fun e s' => R (.error e) s') s := by
  obtain ⟨hp, g, d, tk, os⟩ := s
  have f3 := AutoSeq1.sub_list_list
  have hne : (items.size != items2.size) = true := by simp [hsz]
  wp_walk using wpAny_loadPart' hl1, wpAny_loadPart' hb1
  exact fin
theorem list_neL {l b : Addr} {items items2 : Array Value} {n n2 : Nat} (hsz : items.size ≠ items2.size) {s : Shared} (hl1 : s.heap.get? l = some { cls := .type "list", data := .seq items n }) (hb1 : s.heap.get? b = some { cls := .type "list", data := .seq items2 n2 })
    (fin : R (.ok (.ret (.bool true))) s) : wpAny (model prog w) A.in1 (Builtin.«list.__ne__» ⟨[.ref l, .ref b], []⟩) (FinOf prog w A R) (fun e s' => R (.error e) s') s := by
  obtain ⟨hp, g, d, tk, os⟩ := s
  have f3 := AutoSeq1.sub_list_list
  have hne : (items.size != items2.size) = true := by simp [hsz]
  wp_walk using wpAny_loadPart' hl1, wpAny_loadPart' hb1
  exact fin

theorem tuple_eqB (l b : Addr) (items items2 : Array Value) (n n2 : Nat) (dd dd2 : Option Addr) (sl sl2 : Array (Option Value)) (f : Nat → Bool) (I : Nat → Shared → Prop)
    (turn : ∀ i (h1 : i < items.size) (h2 : i < items2.size) s, I i s → wpAny (model prog w) A.in1 (eqBool items[i] items2[i]) (fun r s' => r = f i ∧ I (i + 1) s') (fun e s' => R (.error e) s') s)
    (r : Bool) (hr : r = (decide (items.size = items2.size) && (List.range items.size).all f))
    (fin : ∀ i s, I i s → R (.ok (.ret (.bool r))) s) {s : Shared} (hl1 : s.heap.get? l = some { cls := .type "tuple", dict := dd, data := .seq items n, slots := sl }) (hb1 : s.heap.get? b = some { cls := .type "tuple", dict := dd2, data := .seq items2 n2, slots := sl2 }) (h : I 0 s) :
    wpAny (model prog w) A.in1 (Builtin.«tuple.__eq__» ⟨[.ref l, .ref b], []⟩) (FinOf prog w A R) (fun e s' => R (.error e) s') s := by
  have f2 := AutoSeq1.sub_tuple_tuple
  have hZ : (items.toList.zip items2.toList).length = min items.size items2.size := by simp
  have h0 := h
  obtain ⟨hp, g, d, tk, os⟩ := s
  wp_walk using wpAny_loadPart' hl1, wpAny_loadPart' hb1, wpAny_forIn_list _ (fun rest b s' => b.1 = none ∧ ∃ i, rest = (items.toList.zip items2.toList).drop i ∧ i ≤ min items.size items2.size ∧ (∀ j, j < i → f j = true) ∧ I i s') _
  case turn =>
    rintro ⟨y, x⟩ rest b s' ⟨hb', i, hz, hi, hp', hI⟩
    have hlt : i < (items.toList.zip items2.toList).length := by
      rcases Nat.lt_or_ge i (items.toList.zip items2.toList).length with h' | h'
      · exact h'
      · rw [List.drop_of_length_le h'] at hz; cases hz
    have h1 : i < items.size := by omega
    have h2 : i < items2.size := by omega
    rw [List.drop_eq_getElem_cons hlt] at hz
    injection hz with hyx hrest
    have hy : y = items[i] := by have := congrArg Prod.fst hyx; simpa using this
    have hx : x = items2[i] := by have := congrArg Prod.snd hyx; simpa using this
    subst hy hx
    refine wpAny_bind (wpAny_mono (turn i h1 h2 s' hI) (fun r s2 q2 => ?_) fun _ _ x => x)
    obtain ⟨hr', q2⟩ := q2
    subst hr'
    cases hf : f i with
    | true =>
      wp_walk
      exact ⟨rfl, i + 1, hrest, by omega, fun j hj => by
        rcases Nat.lt_or_ge j i with z | z
        · exact hp' j z
        · have e : j = i := by omega
          rw [e]; exact hf, q2⟩
    | false =>
      have hrf : r = false := by
        rw [hr]
        refine Bool.eq_false_iff.mpr fun z => ?_
        have z2 := List.all_eq_true.mp (Bool.and_eq_true_iff.mp z).2 i (List.mem_range.mpr h1)
        rw [hf] at z2
        cases z2
      have q := fin _ s2 q2
      rw [hrf] at q
      wp_walk
      exact q
  case fin =>
    rintro ⟨b1, b2⟩ s' ⟨hb', i, hz, hi, hp', hI⟩
    simp only at hb'
    subst hb'
    have hge : (items.toList.zip items2.toList).length ≤ i := by
      rcases Nat.lt_or_ge i (items.toList.zip items2.toList).length with h' | h'
      · rw [List.drop_eq_getElem_cons h'] at hz; cases hz
      · exact h'
    have hR : R (.ok (.ret (.bool (items.size == items2.size)))) s' := by
      have q := fin _ s' hI
      have e : r = (items.size == items2.size) := by
        rw [hr]
        by_cases c : items.size = items2.size
        · rw [decide_eq_true c, Bool.true_and, beq_iff_eq.mpr c, List.all_eq_true]
          intro j hj
          exact hp' j (by have := List.mem_range.mp hj; omega)
        · rw [decide_eq_false c, Bool.false_and]
          exact (beq_eq_false_iff_ne.mpr c).symm
      rw [e] at q
      exact q
    wp_walk
    exact hR
  case h =>
    exact ⟨rfl, 0, rfl, Nat.zero_le _, fun j hj => absurd hj (Nat.not_lt_zero j), h0⟩

theorem tuple_neB (l b : Addr) (items items2 : Array Value) (n n2 : Nat) (dd dd2 : Option Addr) (sl sl2 : Array (Option Value)) (f : Nat → Bool) (I : Nat → Shared → Prop)
    (turn : ∀ i (h1 : i < items.size) (h2 : i < items2.size) s, I i s → wpAny (model prog w) A.in1 (eqBool items[i] items2[i]) (fun r s' => r = f i ∧ I (i + 1) s') (fun e s' => R (.error e) s') s)
    (r : Bool) (hr : r = (decide (items.size = items2.size) && (List.range items.size).all f))
    (fin : ∀ i s, I i s → R (.ok (.ret (.bool (!r)))) s) {s : Shared} (hl1 : s.heap.get? l = some { cls := .type "tuple", dict := dd, data := .seq items n, slots := sl }) (hb1 : s.heap.get? b = some { cls := .type "tuple", dict := dd2, data := .seq items2 n2, slots := sl2 }) (h : I 0 s) :
    wpAny (model prog w) A.in1 (Builtin.«tuple.__ne__» ⟨[.ref l, .ref b], []⟩) (FinOf prog w A R) (fun e s' => R (.error e) s') s := by
  have f2 := AutoSeq1.sub_tuple_tuple
  have hZ : (items.toList.zip items2.toList).length = min items.size items2.size := by simp
  have h0 := h
  obtain ⟨hp, g, d, tk, os⟩ := s
  wp_walk using wpAny_loadPart' hl1, wpAny_loadPart' hb1, wpAny_forIn_list _ (fun rest b s' => b.1 = none ∧ ∃ i, rest = (items.toList.zip items2.toList).drop i ∧ i ≤ min items.size items2.size ∧ (∀ j, j < i → f j = true) ∧ I i s') _
  case turn =>
    rintro ⟨y, x⟩ rest b s' ⟨hb', i, hz, hi, hp', hI⟩
    have hlt : i < (items.toList.zip items2.toList).length := by
      rcases Nat.lt_or_ge i (items.toList.zip items2.toList).length with h' | h'
      · exact h'
      · rw [List.drop_of_length_le h'] at hz; cases hz
    have h1 : i < items.size := by omega
    have h2 : i < items2.size := by omega
    rw [List.drop_eq_getElem_cons hlt] at hz
    injection hz with hyx hrest
    have hy : y = items[i] := by have := congrArg Prod.fst hyx; simpa using this
    have hx : x = items2[i] := by have := congrArg Prod.snd hyx; simpa using this
    subst hy hx
    refine wpAny_bind (wpAny_mono (turn i h1 h2 s' hI) (fun r s2 q2 => ?_) fun _ _ x => x)
    obtain ⟨hr', q2⟩ := q2
    subst hr'
    cases hf : f i with
    | true =>
      wp_walk
      exact ⟨rfl, i + 1, hrest, by omega, fun j hj => by
        rcases Nat.lt_or_ge j i with z | z
        · exact hp' j z
        · have e : j = i := by omega
          rw [e]; exact hf, q2⟩
    | false =>
      have hrf : r = false := by
        rw [hr]
        refine Bool.eq_false_iff.mpr fun z => ?_
        have z2 := List.all_eq_true.mp (Bool.and_eq_true_iff.mp z).2 i (List.mem_range.mpr h1)
        rw [hf] at z2
        cases z2
      have q := fin _ s2 q2
      rw [hrf] at q
      wp_walk
      exact q
  case fin =>
    rintro ⟨b1, b2⟩ s' ⟨hb', i, hz, hi, hp', hI⟩
    simp only at hb'
    subst hb'
    have hge : (items.toList.zip items2.toList).length ≤ i := by
      rcases Nat.lt_or_ge i (items.toList.zip items2.toList).length with h' | h'
      · rw [List.drop_eq_getElem_cons h'] at hz; cases hz
      · exact h'
    have hR : R (.ok (.ret (.bool (!(items.size == items2.size))))) s' := by
      have q := fin _ s' hI
      have e : r = (items.size == items2.size) := by
        rw [hr]
        by_cases c : items.size = items2.size
        · rw [decide_eq_true c, Bool.true_and, beq_iff_eq.mpr c, List.all_eq_true]
          intro j hj
          exact hp' j (by have := List.mem_range.mp hj; omega)
        · rw [decide_eq_false c, Bool.false_and]
          exact (beq_eq_false_iff_ne.mpr c).symm
      rw [e] at q
      exact q
    wp_walk
    exact hR
  case h =>
    exact ⟨rfl, 0, rfl, Nat.zero_le _, fun j hj => absurd hj (Nat.not_lt_zero j), h0⟩
end
end GQ
namespace L2.My
open PySem PySem.Spec PyProof.Rows L2
section
variable {X : Cx} {n m : Nat} {D D' : Eqb}
def Prsb (D : Eqb) (xs ys : List V) (H : Hp) (f : Nat → Bool) : Prop := ∀ (i : Nat) x y, xs[i]? = some x → ys[i]? = some y → D x y H (f i)
theorem Prsb.mon (hD : Monb D) {xs ys : List V} {H H' : Hp} {f : Nat → Bool} (e : Ext H H') (p : Prsb D xs ys H f) : Prsb D xs ys H' f := fun i x y h1 h2 => hD x y H H' _ e (p i x y h1 h2)
theorem turnB (hD : Monb D) (h : EqB X n D) {A : Around} (sb : Sub X (n + 1) A) {pins : List (Addr × Obj)} {σ : L2.St} {H : Hp} {xs ys : List V} {f : Nat → Bool} {its its2 : List Value} (p : Prsb D xs ys H f) (r : Vals xs its) (r2 : Vals ys its2)
    (i : Nat) (h1 : i < its.toArray.size) (h2 : i < its2.toArray.size) (s' : Shared) (l : LoopI X pins σ H s') :
    wpAny (model X.prog X.w) A.in1 (eqBool its.toArray[i] its2.toArray[i]) (fun r s2 => r = f i ∧ LoopI X pins σ H s2) X.xe s' := by
  obtain ⟨H1, I1, e1⟩ := l
  have g1 : its[i]? = some its.toArray[i] := by
    have h1' : i < its.length := by simpa using h1
    rw [List.getElem?_eq_getElem h1'] <;> simp
  have g2 : its2[i]? = some its2.toArray[i] := by
    have h2' : i < its2.length := by simpa using h2
    rw [List.getElem?_eq_getElem h2'] <;> simp
  have k1 : i < xs.length := by rw [r.length]; simpa using h1
  have k2 : i < ys.length := by rw [r2.length]; simpa using h2
  obtain ⟨u, hu, ru⟩ := r.get (List.getElem?_eq_getElem k1)
  obtain ⟨v, hv, rv⟩ := r2.get (List.getElem?_eq_getElem k2)
  rw [g1] at hu
  rw [g2] at hv
  rw [Option.some.inj hu, Option.some.inj hv]
  refine wpAny_mono (h A.in1 pins s' σ H1 _ _ u v _ sb.in1 I1 ru rv (hD _ _ _ _ _ e1 (p i _ _ (List.getElem?_eq_getElem k1) (List.getElem?_eq_getElem k2)))) (fun r s2 q => ?_) fun _ _ x => x
  obtain ⟨hr, H2, I2, e2⟩ := q
  exact ⟨hr, H2, I2, e1.trans e2⟩
def rowB (m n : Nat) (f : Nat → Bool) : Bool := decide (m = n) && (List.range m).all f
def DListb (D : Eqb) : Eqb := fun x y H b => ∃ p q xs ys f, x = .ref p ∧ y = .ref q ∧ H p = some (.lst xs) ∧ H q = some (.lst ys) ∧ Prsb D xs ys H f ∧ b = rowB xs.length ys.length f
def DTupb (D : Eqb) : Eqb := fun x y H b => ∃ p q xs ys f, x = .ref p ∧ y = .ref q ∧ H p = some (.tup xs) ∧ H q = some (.tup ys) ∧ Prsb D xs ys H f ∧ b = rowB xs.length ys.length f
theorem monb_list (hD : Monb D) : Monb (DListb D) := fun x y H H' b e d => by
  obtain ⟨p, q, xs, ys, f, hx, hy, h1, h2, pr, hb⟩ := d
  exact ⟨p, q, xs, ys, f, hx, hy, e _ _ h1, e _ _ h2, pr.mon hD e, hb⟩
theorem monb_tup (hD : Monb D) : Monb (DTupb D) := fun x y H H' b e d => by
  obtain ⟨p, q, xs, ys, f, hx, hy, h1, h2, pr, hb⟩ := d
  exact ⟨p, q, xs, ys, f, hx, hy, e _ _ h1, e _ _ h2, pr.mon hD e, hb⟩
theorem rcB_list {ne : Bool} (hD : Monb D) (h : EqB X n D) : RcB X (n + 1) ne (DListb D) := by
  intro A pins s σ H x y u v b sb I rx ry d
  obtain ⟨p, q, xs, ys, f, rfl, rfl, ha, hb, pr, rfl⟩ := d
  cases rx
  cases ry
  obtain ⟨z, its, k, r, e⟩ := I.hok p _ ha
  obtain ⟨z2, its2, k2, r2, e2⟩ := I.hok q _ hb
  by_cases hl : xs.length = ys.length
  · have er : rowB xs.length ys.length f = (List.range xs.length).all f := by unfold rowB; rw [decide_eq_true hl, Bool.true_and]
    have LB : ∀ E' : Value → Shared → Prop, (∀ e s, X.xe e s → E' e s) → GQ.ListB X.prog X.w A E' p q xs.length f (fun _ s' => LoopI X pins σ H s') := fun E' hE i s' qq => by
      obtain ⟨H1, I1, e1⟩ := id qq
      obtain ⟨z, its, k, r, e⟩ := I1.hok p _ (e1 _ _ ha)
      obtain ⟨z2, its2, k2, r2, e2⟩ := I1.hok q _ (e1 _ _ hb)
      refine ⟨its.toArray, its2.toArray, k, k2, e, e2, by rw [List.size_toArray, ← r.length], by rw [List.size_toArray, ← r2.length, hl], fun h1 h2 => ?_⟩
      exact wpAny_mono (turnB hD h sb pr r r2 i h1 h2 s' qq) (fun _ _ z => z) hE
    cases ne with
    | false =>
      refine wpAny_richCompare_same_room (op := .Eq) ⟨_, e, rfl⟩ ⟨_, e2, rfl⟩ PySem.F.slot_list_eq (GQ.call_here PySem.F.slot_list_eq ⟨_, e, rfl⟩ PySem.F.entry_list_eq (PySem.F.args_list_eq_2 _ _) ?_) sb.room.units0
      exact GQ.list_eqB (A := A) p q xs.length f _ (LB _ fun e s z => z) _ er (fun i s' z => ⟨(fun x => nomatch x), by simp, z⟩) ⟨H, I, Ext.rfl'⟩
    | true =>
      refine wpAny_richCompare_same_room (op := .NotEq) ⟨_, e, rfl⟩ ⟨_, e2, rfl⟩ PySem.F.slot_list_ne (GQ.call_here PySem.F.slot_list_ne ⟨_, e, rfl⟩ PySem.F.entry_list_ne (PySem.F.args_list_ne_2 _ _) ?_) sb.room.units0
      exact GQ.list_neB (A := A) p q xs.length f _ (LB _ fun e s z => z) _ er (fun i s' z => ⟨(fun x => nomatch x), by simp, z⟩) ⟨H, I, Ext.rfl'⟩
  · have er : rowB xs.length ys.length f = false := by unfold rowB; rw [decide_eq_false hl, Bool.false_and]
    rw [er]
    have hsz : its.toArray.size ≠ its2.toArray.size := by rw [List.size_toArray, List.size_toArray, ← r.length, ← r2.length]; exact hl
    cases ne with
    | false =>
      refine wpAny_richCompare_same_room (op := .Eq) ⟨_, e, rfl⟩ ⟨_, e2, rfl⟩ PySem.F.slot_list_eq (GQ.call_here PySem.F.slot_list_eq ⟨_, e, rfl⟩ PySem.F.entry_list_eq (PySem.F.args_list_eq_2 _ _) ?_) sb.room.units0
      exact GQ.list_eqL (A := A) hsz e e2 ⟨(fun x => nomatch x), by simp, H, I, Ext.rfl'⟩
    | true =>
      refine wpAny_richCompare_same_room (op := .NotEq) ⟨_, e, rfl⟩ ⟨_, e2, rfl⟩ PySem.F.slot_list_ne (GQ.call_here PySem.F.slot_list_ne ⟨_, e, rfl⟩ PySem.F.entry_list_ne (PySem.F.args_list_ne_2 _ _) ?_) sb.room.units0
      exact GQ.list_neL (A := A) hsz e e2 ⟨(fun x => nomatch x), by simp, H, I, Ext.rfl'⟩
theorem rcB_tup {ne : Bool} (hD : Monb D) (h : EqB X n D) : RcB X (n + 1) ne (DTupb D) := by
  intro A pins s σ H x y u v b sb I rx ry d
  obtain ⟨p, q, xs, ys, f, rfl, rfl, ha, hb, pr, rfl⟩ := d
  cases rx
  cases ry
  obtain ⟨its, r, hl, z⟩ := I.tuple (SqT.of ha)
  obtain ⟨its2, r2, hb2, z2⟩ := I.tuple (SqT.of hb)
  obtain ⟨⟨cls, dd, data, sl⟩, ho, hc, k, hd⟩ := id hl
  obtain ⟨⟨cls2, dd2, data2, sl2⟩, ho2, hc2, k2, hd2⟩ := id hb2
  simp only at hc hd hc2 hd2
  subst hc hd hc2 hd2
  have er : rowB xs.length ys.length f = (decide (its.toArray.size = its2.toArray.size) && (List.range its.toArray.size).all f) := by
    rw [List.size_toArray, List.size_toArray, ← r.length, ← r2.length]
    rfl
  cases ne with
  | false =>
    refine wpAny_richCompare_same_room (op := .Eq) ⟨_, ho, rfl⟩ ⟨_, ho2, rfl⟩ PySem.F.slot_tuple_eq (GQ.call_here PySem.F.slot_tuple_eq ⟨_, ho, rfl⟩ PySem.F.entry_tuple_eq (PySem.F.args_tuple_eq_2 _ _) ?_) sb.room.units0
    exact GQ.tuple_eqB (A := A) p q its.toArray its2.toArray k k2 dd dd2 sl sl2 f (fun _ s' => LoopI X pins σ H s') (fun i h1 h2 s' qq => turnB hD h sb pr r r2 i h1 h2 s' qq) _ er (fun i s' z => ⟨(fun x => nomatch x), by simp, z⟩) ho ho2 ⟨H, I, Ext.rfl'⟩
  | true =>
    refine wpAny_richCompare_same_room (op := .NotEq) ⟨_, ho, rfl⟩ ⟨_, ho2, rfl⟩ PySem.F.slot_tuple_ne (GQ.call_here PySem.F.slot_tuple_ne ⟨_, ho, rfl⟩ PySem.F.entry_tuple_ne (PySem.F.args_tuple_ne_2 _ _) ?_) sb.room.units0
    exact GQ.tuple_neB (A := A) p q its.toArray its2.toArray k k2 dd dd2 sl sl2 f (fun _ s' => LoopI X pins σ H s') (fun i h1 h2 s' qq => turnB hD h sb pr r r2 i h1 h2 s' qq) _ er (fun i s' z => ⟨(fun x => nomatch x), by simp, z⟩) ho ho2 ⟨H, I, Ext.rfl'⟩
def Reflb (D : Eqb) : Prop := ∀ x H b, D x x H b → b = true
theorem rowB_refl (hD : Reflb D) {xs : List V} {H : Hp} {f : Nat → Bool} (p : Prsb D xs xs H f) : rowB xs.length xs.length f = true := by
  unfold rowB
  rw [decide_eq_true rfl, Bool.true_and, List.all_eq_true]
  intro i hi
  have hi' := List.mem_range.mp hi
  exact hD _ _ _ (p i _ _ (List.getElem?_eq_getElem hi') (List.getElem?_eq_getElem hi'))
theorem reflb_list (hD : Reflb D) : Reflb (DListb D) := fun x H b d => by
  obtain ⟨p, q, xs, ys, f, hx, hy, h1, h2, pr, hb⟩ := d
  have e : p = q := by rw [hx] at hy; injection hy
  subst e
  have e2 : xs = ys := by rw [h1] at h2; injection h2 with h; injection h
  subst e2
  rw [hb]
  exact rowB_refl hD pr
theorem reflb_tup (hD : Reflb D) : Reflb (DTupb D) := fun x H b d => by
  obtain ⟨p, q, xs, ys, f, hx, hy, h1, h2, pr, hb⟩ := d
  have e : p = q := by rw [hx] at hy; injection hy
  subst e
  have e2 : xs = ys := by rw [h1] at h2; injection h2 with h; injection h
  subst e2
  rw [hb]
  exact rowB_refl hD pr
theorem eqB_list (hD : Monb D) (hR : Reflb D) (h : EqB X n D) : EqB X (n + 1) (DListb D) := (rcB_list hD h).eqB fun x y H b d => by
  obtain ⟨p, q, xs, ys, f, rfl, rfl, h1, h2, pr, hb⟩ := id d
  exact ⟨p, q, rfl, rfl, fun e => by subst e; exact reflb_list hR _ H b d⟩
theorem eqB_tup (hD : Monb D) (hR : Reflb D) (h : EqB X n D) : EqB X (n + 1) (DTupb D) := (rcB_tup hD h).eqB fun x y H b d => by
  obtain ⟨p, q, xs, ys, f, rfl, rfl, h1, h2, pr, hb⟩ := id d
  exact ⟨p, q, rfl, rfl, fun e => by subst e; exact reflb_tup hR _ H b d⟩
theorem op_eqB (h : RcB X n false D) (hr : Room n X.A) : OpR X (compareOp .Eq) (fun x y H Q => ∃ b, D x y H b ∧ ∀ H', Ext H H' → Q (.bl b) H') := by
  intro pins s σ H x y v u Q I rx ry hq
  obtain ⟨b, d, q⟩ := hq
  show wpAny (model X.prog X.w) X.A (richCompare .Eq v u) (EP X pins σ Q) X.xe s
  refine wpAny_mono (h X.A pins s σ H x y v u b ⟨hr, rfl⟩ I rx ry d) (fun r s' z => ?_) fun _ _ x => x
  obtain ⟨hr', H', I', e⟩ := z
  subst hr'
  exact ⟨.bl b, H', I', by simp [RelV], q H' e⟩
theorem op_neB (h : RcB X n true D) (hr : Room n X.A) : OpR X (compareOp .NotEq) (fun x y H Q => ∃ b, D x y H b ∧ ∀ H', Ext H H' → Q (.bl (!b)) H') := by
  intro pins s σ H x y v u Q I rx ry hq
  obtain ⟨b, d, q⟩ := hq
  show wpAny (model X.prog X.w) X.A (richCompare .NotEq v u) (EP X pins σ Q) X.xe s
  refine wpAny_mono (h X.A pins s σ H x y v u b ⟨hr, rfl⟩ I rx ry d) (fun r s' z => ?_) fun _ _ x => x
  obtain ⟨hr', H', I', e⟩ := z
  subst hr'
  exact ⟨.bl (!b), H', I', by simp [RelV], q H' e⟩
end
end L2.My
namespace L2.My
open PySem PySem.Spec PyProof.Rows L2
section
variable {X : Cx} {CX : CXT} {n f C : Nat} {fd : FuncData} {ps : List Str} {sp : Sp} {E : XK}
def rStrOwn (C : Addr) (sp : Sp) (E : XK) : List V → Hp → VK → Prop := fun vs H Q => ∃ a dx fs, vs = [.ref a] ∧ H a = some (.ins C dx fs) ∧ sp [.ref a] H (fun v H' => (∃ z, v = .str z) ∧ Q v H') E
theorem call_strOwn (F : FnOk X.prog X.w X.K X.mg X.base CX n f fd ps sp) (hr : Room (n + 2) X.A) (hs : PySem.W.findIn X.K (.ref C) "__str__" = some (some (.ref f))) (hf : PySem.W.isFn X.K (.ref f) = true)
    (hb : Binds X.K fd ps []) (hx : Passes CX X E) : CallR X (.type "str") (rStrOwn C sp E) := by
  intro pins s σ H xs us Q I r h
  obtain ⟨a, dx, fs, rfl, ha, q⟩ := h
  cases r with
  | cons r1 r2 =>
    cases r2
    cases r1
    obtain ⟨mA, J, _⟩ := ins_get I.hok ha
    obtain ⟨od, J, _⟩ := J.look
    have sb : Sub X n X.A.in1.in1 := Sub.in1 (Sub.in1 ⟨hr, rfl⟩)
    refine PySem.W.kso_call sb.room.units0 I.kIn J hs hf (wpAny_mono (run_sub F sb hb hx I (show Vals [V.ref a] [Value.ref a] from .cons rfl .nil) q) (fun u s' hq => ?_) fun _ _ z => z)
    obtain ⟨v, H', I', r, ⟨z, rfl⟩, q⟩ := hq
    obtain ⟨t, rfl⟩ := r
    exact ⟨.str z, H', I', ⟨t, rfl⟩, q⟩
end
end L2.My
namespace PySem
namespace SupX
open PySem.W PySem.Calls PyProof.Rows PySem.HandSPX
section
variable {prog : Program} {w : World} {A : Around} {E : Value → Shared → Prop} {h : Heap} {g : Array GenState} {d : Drawn} {t : Nat} {os : OsState}
variable {nm q : Str} {C N : Addr} {bs bm : List Value} {hdct : Bool} {sn : List Str} {sub : List Value} {ab : Bool} {col : Option Bool} {dd : Option Addr} {k0 k1 k2 k3 k5 : Option Value}
theorem call_bwV {u e t0 : Addr} {rest : List Value} {Q : Value → Shared → Prop}
    (hC : h.get? C = some (excClassObj nm q C N bs bm hdct sn sub ab col dd k0 k1 k2 k3 k5 "ValueError.__new__")) (he : h.get? e = some (HandSPX.excO C t0)) (hu : h.get? u = some (kxs_mw "ValueError.__init__" e)) (hrest : rest.length ≤ sizeLine)
    (hq : ∀ h' t1, (∀ b o, b ≠ e → h.get? b = some o → h'.get? b = some o) → h'.get? e = some (HandSPX.excO C t1) → Q .none ⟨h', g, d, t, os⟩) :
    wpAny (model prog w) A (call (.ref u) rest) Q E ⟨h, g, d, t, os⟩ := by
  refine wpAny_call (codeAny_of_tree ?_)
  show wpAny _ A.in1 (callAny (.ref u) ⟨rest, []⟩) _ _ _
  simp only [callAny]
  refine wpAny_bind (wpAny_load hu ?_)
  simp only [kxs_mw, show (Value.type "method-wrapper" == Value.type "method" || Value.type "method-wrapper" == Value.type "builtin_function_or_method" || Value.type "method-wrapper" == Value.type "method-wrapper") = true by decide, if_true]
  refine W.KFB.if_so (by decide) ?_
  refine wpAny_bind (ESX.check_bound F.excBase_ValueError hC he rfl ?_)
  refine wpAny_bind (wpAny_pure (wpAny_pure ?_))
  refine ⟨Code.quiet_builtin _ (by decide +kernel), codeAny_builtin F.excBase_ValueError.initEntry ?_⟩
  rw [Around.under_plainId F.excBase_ValueError.init.plain _]
  wp_walk
  refine hq _ h.objs.size (fun b o hb ho => ?_) ?_
  · rw [Heap.get?_update_other _ _ (Ne.symm hb)]
    exact Heap.get?_push_of_some _ ho
  · rw [Heap.get?_update_self _ (Heap.get?_push_of_some _ he) rfl]
    rfl
end
structure GlobS (h : Heap) : Prop where
  g : ∃ mg, h.Ns mainGlobals mg ∧ mg "super" = none
  b : ∃ mb, h.Ns builtinsNs mb ∧ mb "super" = some (.type "super")
theorem GlobS.keeps {h h' : Heap} (G : GlobS h) (k : ∀ b o, h.get? b = some o → h'.get? b = some o) : GlobS h' := by
  obtain ⟨⟨mg, g1, g2⟩, ⟨mb, b1, b2⟩⟩ := G
  exact ⟨⟨mg, g1.keeps k, g2⟩, ⟨mb, b1.keeps k, b2⟩⟩
structure SupTxt (P : Program) (K : Frag) (C fI : Addr) (qual : Str) (params : Arguments) (body : List Stmt) (scope : Scope) : Prop where
  cls : ∃ nm q N bs bm sn sub ab col dd k0 k1 k2 k3 k5, K.lookup C = some (excClassObj nm q C N bs bm true sn sub ab col dd k0 k1 k2 k3 k5 "ValueError.__new__") ∧ refsVE bm = true
  sa : findIn K (.ref C) "__setattr__" = some (some (.builtin "object.__setattr__"))
  ga : findIn K (.ref C) "__getattribute__" = some (some (.builtin "BaseException.__getattribute__"))
  gg : findIn K (.ref C) "__getattr__" = some none
  iC : findIn K (.ref C) "__init__" = some (some (.ref fI))
  tC : typeIn K (.ref fI) = some (.type "function")
  kC : keepIn K (.ref C) = true
  exC : subIn K (.ref C) (.type "BaseException") = some true
  tyC : typeIn K (.ref C) = some (.type "type")
  hdC : hasDictIn K C = true
  suC : ks_superIn K C C "__init__" = some (some (.builtin "ValueError.__init__"))
  veC : subIn K (.ref C) (.type "ValueError") = some true
  moC : mroIn K C (.ref C) = some true
  st : nsIn K cStatics "thirdparty.any" = some none
  top : (P.main.scope.names.lookup ("super" : Str)).isSome = false
  fn : ∃ (oc : Value) (od : Option Addr) (kV doc pm : Value) (an : Option Addr) (cda cc : Addr) (ct : Value) (osl : Array (Option Value)) (ccl : Value) (cdd : Option Addr) (vs : Array Value) (ccs : Array (Option Value)) (file : Str) (tf : Tok) (cl : Value) (cld : Option Addr) (csl : Array (Option Value)),
    K.lookup fI = some ⟨oc, od, .func (ksFn "__init__" qual params body scope .none kV doc pm an (.ref cda) ct cc), osl⟩ ∧ codeIn K (.ref cda) qual = true ∧
    K.lookup cda = some ⟨ccl, cdd, .fields vs, ccs⟩ ∧ vs[2]? = some (.str file tf) ∧ ((P.main.file : Str) == file) = true ∧ K.lookup cc = some ⟨cl, cld, .cell (some (.ref C)), csl⟩
section
variable {prog : Program} {w : World} {A : Around} {E : Value → Shared → Prop} {s : Shared} {K : Frag} {C fI : Addr} {qual : Str} {params : Arguments} {body : List Stmt} {scope : Scope}
theorem sup_inner {L x cda cc t0 : Addr} {m : Str → Option Value} {fb : List Stmt} {ARGS : List (Bool × Sem Value)} {p0 p1 p3 : Pos} {ar : Arg} {fd : FuncData} {oc : Value} {od : Option Addr} {osl : Array (Option Value)} {ccl : Value} {cdd : Option Addr} {vs : Array Value} {ccs : Array (Option Value)} {file : Str} {tf : Tok} {cl : Value} {cld : Option Addr} {csl : Array (Option Value)}
    {whole : Sem Value} {pl : Sem Bool} {Q : Value → Shared → Prop} (T : SupTxt prog K C fI qual params body scope) (X : K.In s.heap) (G : GlobS s.heap) (hns : s.heap.Ns L m) (hx : s.heap.get? x = some (excO C t0)) (hxL : x ≠ L) (hxK : K.lookup x = none)
    (hf : K.lookup fI = some ⟨oc, od, .func fd, osl⟩) (hp : (fd.params.posonlyargs ++ fd.params.args).head? = some ar) (hv : m ar.arg = some (.ref x))
    (hcode : K.lookup cda = some ⟨ccl, cdd, .fields vs, ccs⟩) (hvs : vs[2]? = some (.str file tf)) (hfile : ((prog.main.file : Str) == file) = true) (hcell : K.lookup cc = some ⟨cl, cld, .cell (some (.ref C)), csl⟩)
    (hks : scope.names.lookup ("super" : Str) = some .globalImplicit) (hkc : scope.names.lookup ("__class__" : Str) = some .free) (hka : scope.names.lookup ar.arg = some .local) (hk : scope.kind = .function)
    (hplain : ARGS.any (·.1) = false)
    (hargs : ∀ (s2 : Shared) (R : Args → Shared → Prop), s2.heap.Ns L m → (∀ vs' tk, vs'.length ≤ sizeLine → R ⟨vs', []⟩ { s2 with toks := tk }) → ∀ u, wpAny (model prog w) A (evalArgs u true ARGS []) R E s2)
    (hq : ∀ h' tk t1, (∀ b o, b ≠ x → s.heap.get? b = some o → h'.get? b = some o) → h'.get? x = some (excO C t1) → Q .none { s with heap := h', toks := tk }) :
    wpAt (model prog w) A (.func fb (ksEnv qual scope L fI (.ref cda) cc)) (attributeBase (.Call (.Name "super" p0) [] [] p1) "__init__" (ksEnv qual scope L fI (.ref cda) cc) whole)
      (fun ov s₁ => wpAny (model prog w) A (getMethod ov "__init__" pl) (fun fx s₂ => wpAny (model prog w) A (callWith p3 fx.1 fx.2 ARGS []) Q E s₂) E s₁) E s := by
  obtain ⟨nm, q, N, bs, bm, sn, sub, ab, col, dd, k0, k1, k2, k3, k5, hC, hbm⟩ := T.cls
  have hcl : clsIn K C = some { name := nm, bases := bs, mro := .ref C :: bm, ns := N, qualname := q, hasDict := true, slotNames := sn, subclasses := sub, abstract := ab, collection := col, hasDel := false } := by unfold clsIn; rw [hC] <;> rfl
  obtain ⟨⟨mg, g1, g2⟩, ⟨mb, b1, b2⟩⟩ := G
  have I : InstAt s.heap x (excO C t0) C none := ⟨hx, rfl, rfl, trivial⟩
  have hxC : x ≠ C := ks_ne X I hcl
  refine ks_wpAt_super_base (env := ksEnv qual scope L fI (.ref cda) cc) hks hkc (by decide) rfl (X _ _ hf) rfl hp rfl (X _ _ hcode) rfl hvs hfile T.top ?_
  refine ks_loadName_global hk hks (loadGlobal_builtin (env := ksEnv qual scope L fI (.ref cda) cc) g1 g2 b1 b2 ⟨rfl, ?_⟩)
  refine wpAny_loadName_free hk hkc rfl ⟨_, X _ _ hcell, rfl⟩ ?_
  refine wpAny_loadName_local hk hka hns hv ?_
  obtain ⟨hh, g, dr, tk, os⟩ := s
  refine ks_wpAny_isType_cls (X _ _ hC) rfl ⟨rfl, ?_⟩
  refine ks_wpAny_call_super (X _ _ hC) rfl I.at_ I.cls (fun c e => by cases e) (looks_mroIn X T.moC) (fun h' e k => ?_)
  have X' : K.In h' := X.keeps k
  have I' : InstAt h' x (excO C t0) C none := ⟨k _ _ hx, rfl, rfl, trivial⟩
  have hm := T.suC
  unfold ks_superIn at hm
  rw [hcl] at hm
  refine kxs_getMethod kxs_ValueError e (looks_opaque X' T.st) (l₀ := .ref C :: bm) ?_ rfl X' hm (I'.type.andThen (looks_subIn X' T.veC)) hxC (by decide) ?_
  · exact fun A Q E s k q => wpAny_bind ((looks_clsIn X' hcl) A _ E s k (wpAny_pure q))
  have k2 : ∀ b o, hh.get? b = some o → (h'.push (kxs_mw "ValueError.__init__" x)).get? b = some o := fun b o e => Heap.get?_push_of_some _ (k b o e)
  refine kxs_callWith (i := "ValueError.__init__") (x := x) hplain (hargs _ _ (hns.keeps k2) (fun vs' tk' hlen => ?_) _)
  refine ⟨Heap.get?_push_at rfl rfl, ?_⟩
  refine call_bwV (k2 _ _ (X _ _ hC)) (k2 _ _ hx) (Heap.get?_push_at rfl rfl) hlen fun h2 t1 k3 hx2 => ?_
  exact hq h2 _ t1 (fun b o hb hbo => k3 b o hb (k2 b o hbo)) hx2
end
end SupX
end PySem
namespace PySem
namespace SupX
open PySem.W PySem.Calls PyProof.Rows PySem.HandSPX

def arAt (a1 a2 : Pos) : Arguments := { posonlyargs := [], args := [{ arg := "self", annotation := none, pos := a1 }, { arg := "at", annotation := none, pos := a2 }], vararg := none, kwonlyargs := [], kw_defaults := [], kwarg := none, defaults := [] }
def boAt (txt : Str) (j : Nat) (p0 p1 p2 pc p3 p4 q1 q2 q3 q4 : Pos) : List Stmt := [.Expr (.Call (.Attribute (.Call (.Name "super" p0) [] [] p1) "__init__" p2) [(.Constant (.str txt) j pc)] [] p3) p4, .Assign [.Attribute (.Name "self" q1) "at" q2] (.Name "at" q3) q4]
def scAt : Scope := { kind := .function, names := [(PySem.Str.ofString "self", .local), (PySem.Str.ofString "at", .local), (PySem.Str.ofString "__class__", .free), (PySem.Str.ofString "super", .globalImplicit)], isGenerator := false, isCoroutine := false, more := [] }
structure InitAt (h h' : Heap) (x C dx t1 : Addr) (v : Value) : Prop where
  keep : ∀ b o, b ≠ x → h.get? b = some o → h'.get? b = some o
  obj : h'.get? x = some { cls := .ref C, dict := some dx, data := .fields #[.ref t1, .none, .none, .none, .bool false, .none] }
  dbig : h.objs.size ≤ dx
  dne : dx ≠ x
  ns : h'.Ns1 dx (fun y => if y = "at" then some v else none)
structure MadeAt (h h' : Heap) (e C d : Addr) (v : Value) : Prop where
  keep : ∀ b o, h.get? b = some o → h'.get? b = some o
  new : h.objs.size ≤ e
  obj : ∃ oe vs, h'.get? e = some oe ∧ oe.cls = .ref C ∧ oe.dict = some d ∧ oe.data = .fields vs ∧ vs[1]? = some .none
  dbig : h.objs.size ≤ d
  dne : d ≠ e
  ns : h'.Ns1 d (fun y => if y = "at" then some v else none)
theorem scAt_cell : ∀ x ∈ scAt.names, x.2 ≠ .cell := by decide +kernel
theorem scAt_sup : scAt.names.lookup ("super" : Str) = some .globalImplicit := by decide +kernel
theorem scAt_cls : scAt.names.lookup ("__class__" : Str) = some .free := by decide +kernel
theorem scAt_self : scAt.names.lookup ("self" : Str) = some .local := by decide +kernel
theorem scAt_fld : scAt.names.lookup ("at" : Str) = some .local := by decide +kernel
theorem scAt_loc {a b : Value} : ∀ x ∈ ([("self", a), ("at", b)] : List (Str × Value)), scAt.names.lookup x.1 = some .local := fun x hx => by
  rcases List.mem_cons.mp hx with rfl | hx
  · exact scAt_self
  · rcases List.mem_cons.mp hx with rfl | hx
    · exact scAt_fld
    · cases hx
section
variable {prog : Program} {w : World} {A : Around} {E : Value → Shared → Prop} {R : Result → Shared → Prop} {s : Shared} {K : Frag} {C fI : Addr} {qual : Str} {txt : Str} {j : Nat} {a1 a2 p0 p1 p2 pc p3 p4 q1 q2 q3 q4 : Pos}
theorem initAt (T : SupTxt prog K C fI qual (arAt a1 a2) (boAt txt j p0 p1 p2 pc p3 p4 q1 q2 q3 q4) scAt) (hno : findIn K (.ref C) "at" = some none) {x t0 : Addr} {v : Value} (X : K.In s.heap) (G : GlobS s.heap) (hlim : s.heap.NoLimit) (hx : s.heap.get? x = some (excO C t0)) (hnx : K.lookup x = none) (hroom : A.depth < recursionLimit) (hl : (p2.endLine == p3.line) = true)
    (hq : ∀ h' tk dx t1, InitAt s.heap h' x C dx t1 v → R (.ok (.ret .none)) { s with heap := h', toks := tk }) : codeAny (model prog w) A (.call (.ref fI) ⟨[.ref x, v], []⟩) R s := by
  obtain ⟨oc, od, kV, doc, pm, an, cda, cc, ct, osl, ccl, cdd, vs, ccs, file, tf, cl, cld, csl, ho, hcd, hcode, hvs, hfile, hcell⟩ := T.fn
  obtain ⟨nm, q, N, bs, bm, sn, sub, ab, col, dd, k0, k1, k2, k3, k5, hC, hbm⟩ := T.cls
  have hcl : clsIn K C = some { name := nm, bases := bs, mro := .ref C :: bm, ns := N, qualname := q, hasDict := true, slotNames := sn, subclasses := sub, abstract := ab, collection := col, hasDel := false } := by unfold clsIn; rw [hC] <;> rfl
  refine ks_codeAny_call_defAt (binds := [("self", .ref x), ("at", v)]) hroom (X _ _ ho) rfl hlim (codeRec_of X hcd) rfl (BindsTo.of_eq (by first | rfl | with_unfolding_all rfl)) scAt_cell scAt_loc (fun h₁ hn k => ?_) rfl rfl rfl
  have hxL : x ≠ s.heap.objs.size := Nat.ne_of_lt (Heap.lt_size hx)
  have X₁ : K.In h₁ := X.keeps k
  have hx₁ := k _ _ hx
  show wpAt (model prog w) (A.deeper (ksEnv qual scAt s.heap.objs.size fI (.ref cda) cc)) _ (execs (boAt txt j p0 p1 p2 pc p3 p4 q1 q2 q3 q4) (ksEnv qual scAt s.heap.objs.size fI (.ref cda) cc)) _ _ _
  refine ks_wpAt_execs_cons (ks_wpAt_Expr_any (ks_wpAt_MethodCall (pl := L2.plainOf (.Call (.Name "super" p0) [] [] p1) (ksEnv qual scAt s.heap.objs.size fI (.ref cda) cc)) (sup_inner T X₁ (G.keeps k) hn hx₁ hxL hnx ho rfl (by rfl) hcode hvs hfile hcell scAt_sup scAt_cls scAt_self rfl (by rfl) ?_ fun h₂ tk₂ t1 k₂ hx₂ => ?_)
    (congrArg (fun f => attributeBase (.Call (.Name "super" p0) [] [] p1) "__init__" (ksEnv qual scAt s.heap.objs.size fI (.ref cda) cc) (eval (.Call (.Name "super" p0) [] [] p1) (ksEnv qual scAt s.heap.objs.size fI (.ref cda) cc)) >>= f)
      (funext fun ov => congrArg (fun g => standAt p2.atName >>= fun _ => g) (L2.mcall_line rfl hl)))))
  · intro s2 R' hns2 hR u
    exact evalArgs_plain (Calls.spliced_cons (Calls.Constant_str (pos := pc) (k := j) (Calls.spliced_nil (hR _ _ (by rw [sizeLine_eq]; exact (by decide : 1 ≤ 16777216))))))
  · have X₂ : K.In h₂ := fun a o e => k₂ a o (fun z => by rw [z, hnx] at e; cases e) (X₁ a o e)
    have hn₂ : h₂.Ns s.heap.objs.size (fun x_1 => ([("self", .ref x), ("at", v)] : List (Str × Value)).reverse.lookup x_1) := by
      obtain ⟨oL, es, ep, hL, r⟩ := hn
      exact ⟨oL, es, ep, k₂ _ _ hxL.symm hL, r⟩
    refine ks_wpAt_execs_cons (ks_wpAt_Assign_Attr (wpAt_of_wpAny ?_))
    refine wpAny_Name (wpAny_loadName_local (v := v) rfl scAt_fld hn₂ (by first | rfl | with_unfolding_all rfl | kernel_rfl) ?_) (by decide)
    refine wpAny_Name (wpAny_loadName_local (v := .ref x) rfl scAt_self hn₂ (by first | rfl | with_unfolding_all rfl | kernel_rfl) ?_) (by decide)
    refine set_plain X₂ (ox := excO C t1) (od := none) ⟨hx₂, rfl, rfl, trivial⟩ T.sa ?_
    refine exc_osa X₂ hx₂ hcl (show refsVE (.ref C :: bm) = true from hbm) rfl hno (fun h₃ tk₃ dx k₃ dn dne hx₃ hn₃ => ?_)
    refine wpAt_of_wpAny (wpAny_execs_nil (hq h₃ tk₃ dx t1 ⟨fun b o hb e => k₃ b o hb (k₂ b o hb (k b o e)), hx₃, ?_, dne, hn₃⟩))
    have z : s.heap.objs.size < h₂.objs.size := hn₂.lt
    exact Nat.le_of_lt (Nat.lt_of_lt_of_le z dn)
end

def arWhat (a1 a2 : Pos) : Arguments := { posonlyargs := [], args := [{ arg := "self", annotation := none, pos := a1 }, { arg := "what", annotation := none, pos := a2 }], vararg := none, kwonlyargs := [], kw_defaults := [], kwarg := none, defaults := [] }
def boWhat (p0 p1 p2 pc p3 p4 q1 q2 q3 q4 : Pos) : List Stmt := [.Expr (.Call (.Attribute (.Call (.Name "super" p0) [] [] p1) "__init__" p2) [(.Name "what" pc)] [] p3) p4, .Assign [.Attribute (.Name "self" q1) "what" q2] (.Name "what" q3) q4]
def scWhat : Scope := { kind := .function, names := [(PySem.Str.ofString "self", .local), (PySem.Str.ofString "what", .local), (PySem.Str.ofString "__class__", .free), (PySem.Str.ofString "super", .globalImplicit)], isGenerator := false, isCoroutine := false, more := [] }
structure InitWhat (h h' : Heap) (x C dx t1 : Addr) (v : Value) : Prop where
  keep : ∀ b o, b ≠ x → h.get? b = some o → h'.get? b = some o
  obj : h'.get? x = some { cls := .ref C, dict := some dx, data := .fields #[.ref t1, .none, .none, .none, .bool false, .none] }
  dbig : h.objs.size ≤ dx
  dne : dx ≠ x
  ns : h'.Ns1 dx (fun y => if y = "what" then some v else none)
structure MadeWhat (h h' : Heap) (e C d : Addr) (v : Value) : Prop where
  keep : ∀ b o, h.get? b = some o → h'.get? b = some o
  new : h.objs.size ≤ e
  obj : ∃ oe vs, h'.get? e = some oe ∧ oe.cls = .ref C ∧ oe.dict = some d ∧ oe.data = .fields vs ∧ vs[1]? = some .none
  dbig : h.objs.size ≤ d
  dne : d ≠ e
  ns : h'.Ns1 d (fun y => if y = "what" then some v else none)
theorem scWhat_cell : ∀ x ∈ scWhat.names, x.2 ≠ .cell := by decide +kernel
theorem scWhat_sup : scWhat.names.lookup ("super" : Str) = some .globalImplicit := by decide +kernel
theorem scWhat_cls : scWhat.names.lookup ("__class__" : Str) = some .free := by decide +kernel
theorem scWhat_self : scWhat.names.lookup ("self" : Str) = some .local := by decide +kernel
theorem scWhat_fld : scWhat.names.lookup ("what" : Str) = some .local := by decide +kernel
theorem scWhat_loc {a b : Value} : ∀ x ∈ ([("self", a), ("what", b)] : List (Str × Value)), scWhat.names.lookup x.1 = some .local := fun x hx => by
  rcases List.mem_cons.mp hx with rfl | hx
  · exact scWhat_self
  · rcases List.mem_cons.mp hx with rfl | hx
    · exact scWhat_fld
    · cases hx
section
variable {prog : Program} {w : World} {A : Around} {E : Value → Shared → Prop} {R : Result → Shared → Prop} {s : Shared} {K : Frag} {C fI : Addr} {qual : Str} {a1 a2 p0 p1 p2 pc p3 p4 q1 q2 q3 q4 : Pos}
theorem initWhat (T : SupTxt prog K C fI qual (arWhat a1 a2) (boWhat p0 p1 p2 pc p3 p4 q1 q2 q3 q4) scWhat) (hno : findIn K (.ref C) "what" = some none) {x t0 : Addr} {v : Value} (X : K.In s.heap) (G : GlobS s.heap) (hlim : s.heap.NoLimit) (hx : s.heap.get? x = some (excO C t0)) (hnx : K.lookup x = none) (hroom : A.depth < recursionLimit) (hl : (p2.endLine == p3.line) = true)
    (hq : ∀ h' tk dx t1, InitWhat s.heap h' x C dx t1 v → R (.ok (.ret .none)) { s with heap := h', toks := tk }) : codeAny (model prog w) A (.call (.ref fI) ⟨[.ref x, v], []⟩) R s := by
  obtain ⟨oc, od, kV, doc, pm, an, cda, cc, ct, osl, ccl, cdd, vs, ccs, file, tf, cl, cld, csl, ho, hcd, hcode, hvs, hfile, hcell⟩ := T.fn
  obtain ⟨nm, q, N, bs, bm, sn, sub, ab, col, dd, k0, k1, k2, k3, k5, hC, hbm⟩ := T.cls
  have hcl : clsIn K C = some { name := nm, bases := bs, mro := .ref C :: bm, ns := N, qualname := q, hasDict := true, slotNames := sn, subclasses := sub, abstract := ab, collection := col, hasDel := false } := by unfold clsIn; rw [hC] <;> rfl
  refine ks_codeAny_call_defAt (binds := [("self", .ref x), ("what", v)]) hroom (X _ _ ho) rfl hlim (codeRec_of X hcd) rfl (BindsTo.of_eq (by first | rfl | with_unfolding_all rfl)) scWhat_cell scWhat_loc (fun h₁ hn k => ?_) rfl rfl rfl
  have hxL : x ≠ s.heap.objs.size := Nat.ne_of_lt (Heap.lt_size hx)
  have X₁ : K.In h₁ := X.keeps k
  have hx₁ := k _ _ hx
  show wpAt (model prog w) (A.deeper (ksEnv qual scWhat s.heap.objs.size fI (.ref cda) cc)) _ (execs (boWhat p0 p1 p2 pc p3 p4 q1 q2 q3 q4) (ksEnv qual scWhat s.heap.objs.size fI (.ref cda) cc)) _ _ _
  refine ks_wpAt_execs_cons (ks_wpAt_Expr_any (ks_wpAt_MethodCall (pl := L2.plainOf (.Call (.Name "super" p0) [] [] p1) (ksEnv qual scWhat s.heap.objs.size fI (.ref cda) cc)) (sup_inner T X₁ (G.keeps k) hn hx₁ hxL hnx ho rfl (by rfl) hcode hvs hfile hcell scWhat_sup scWhat_cls scWhat_self rfl (by rfl) ?_ fun h₂ tk₂ t1 k₂ hx₂ => ?_)
    (congrArg (fun f => attributeBase (.Call (.Name "super" p0) [] [] p1) "__init__" (ksEnv qual scWhat s.heap.objs.size fI (.ref cda) cc) (eval (.Call (.Name "super" p0) [] [] p1) (ksEnv qual scWhat s.heap.objs.size fI (.ref cda) cc)) >>= f)
      (funext fun ov => congrArg (fun g => standAt p2.atName >>= fun _ => g) (L2.mcall_line rfl hl)))))
  · intro s2 R' hns2 hR u
    exact evalArgs_plain (Calls.spliced_cons (wpAny_Name (wpAny_loadName_local (v := v) rfl scWhat_fld hns2 (by first | rfl | with_unfolding_all rfl | kernel_rfl) (Calls.spliced_nil (hR _ s2.toks (by rw [sizeLine_eq]; exact (by decide : 1 ≤ 16777216))))) (by decide)))
  · have X₂ : K.In h₂ := fun a o e => k₂ a o (fun z => by rw [z, hnx] at e; cases e) (X₁ a o e)
    have hn₂ : h₂.Ns s.heap.objs.size (fun x_1 => ([("self", .ref x), ("what", v)] : List (Str × Value)).reverse.lookup x_1) := by
      obtain ⟨oL, es, ep, hL, r⟩ := hn
      exact ⟨oL, es, ep, k₂ _ _ hxL.symm hL, r⟩
    refine ks_wpAt_execs_cons (ks_wpAt_Assign_Attr (wpAt_of_wpAny ?_))
    refine wpAny_Name (wpAny_loadName_local (v := v) rfl scWhat_fld hn₂ (by first | rfl | with_unfolding_all rfl | kernel_rfl) ?_) (by decide)
    refine wpAny_Name (wpAny_loadName_local (v := .ref x) rfl scWhat_self hn₂ (by first | rfl | with_unfolding_all rfl | kernel_rfl) ?_) (by decide)
    refine set_plain X₂ (ox := excO C t1) (od := none) ⟨hx₂, rfl, rfl, trivial⟩ T.sa ?_
    refine exc_osa X₂ hx₂ hcl (show refsVE (.ref C :: bm) = true from hbm) rfl hno (fun h₃ tk₃ dx k₃ dn dne hx₃ hn₃ => ?_)
    refine wpAt_of_wpAny (wpAny_execs_nil (hq h₃ tk₃ dx t1 ⟨fun b o hb e => k₃ b o hb (k₂ b o hb (k b o e)), hx₃, ?_, dne, hn₃⟩))
    have z : s.heap.objs.size < h₂.objs.size := hn₂.lt
    exact Nat.le_of_lt (Nat.lt_of_lt_of_le z dn)
end

def arNon (a1 : Pos) : Arguments := { posonlyargs := [], args := [{ arg := "self", annotation := none, pos := a1 }], vararg := none, kwonlyargs := [], kw_defaults := [], kwarg := none, defaults := [] }
def boNon (txt : Str) (j : Nat) (p0 p1 p2 pc p3 p4 : Pos) : List Stmt := [.Expr (.Call (.Attribute (.Call (.Name "super" p0) [] [] p1) "__init__" p2) [(.Constant (.str txt) j pc)] [] p3) p4]
def scNon : Scope := { kind := .function, names := [(PySem.Str.ofString "self", .local), (PySem.Str.ofString "__class__", .free), (PySem.Str.ofString "super", .globalImplicit)], isGenerator := false, isCoroutine := false, more := [] }
structure InitNon (h h' : Heap) (x C t1 : Addr) : Prop where
  keep : ∀ b o, b ≠ x → h.get? b = some o → h'.get? b = some o
  obj : h'.get? x = some { cls := .ref C, data := .fields #[.ref t1, .none, .none, .none, .bool false, .none] }
structure MadeNon (h h' : Heap) (e C : Addr) : Prop where
  keep : ∀ b o, h.get? b = some o → h'.get? b = some o
  new : h.objs.size ≤ e
  obj : ∃ oe vs, h'.get? e = some oe ∧ oe.cls = .ref C ∧ oe.dict = none ∧ oe.data = .fields vs ∧ vs[1]? = some .none
theorem scNon_cell : ∀ x ∈ scNon.names, x.2 ≠ .cell := by decide +kernel
theorem scNon_sup : scNon.names.lookup ("super" : Str) = some .globalImplicit := by decide +kernel
theorem scNon_cls : scNon.names.lookup ("__class__" : Str) = some .free := by decide +kernel
theorem scNon_self : scNon.names.lookup ("self" : Str) = some .local := by decide +kernel
theorem scNon_loc {a : Value} : ∀ x ∈ ([("self", a)] : List (Str × Value)), scNon.names.lookup x.1 = some .local := fun x hx => by
  rcases List.mem_cons.mp hx with rfl | hx
  · exact scNon_self
  · cases hx
section
variable {prog : Program} {w : World} {A : Around} {E : Value → Shared → Prop} {R : Result → Shared → Prop} {s : Shared} {K : Frag} {C fI : Addr} {qual : Str} {txt : Str} {j : Nat} {a1 p0 p1 p2 pc p3 p4 : Pos}
theorem initNon (T : SupTxt prog K C fI qual (arNon a1) (boNon txt j p0 p1 p2 pc p3 p4) scNon) {x t0 : Addr} (X : K.In s.heap) (G : GlobS s.heap) (hlim : s.heap.NoLimit) (hx : s.heap.get? x = some (excO C t0)) (hnx : K.lookup x = none) (hroom : A.depth < recursionLimit) (hl : (p2.endLine == p3.line) = true)
    (hq : ∀ h' tk t1, InitNon s.heap h' x C t1 → R (.ok (.ret .none)) { s with heap := h', toks := tk }) : codeAny (model prog w) A (.call (.ref fI) ⟨[.ref x], []⟩) R s := by
  obtain ⟨oc, od, kV, doc, pm, an, cda, cc, ct, osl, ccl, cdd, vs, ccs, file, tf, cl, cld, csl, ho, hcd, hcode, hvs, hfile, hcell⟩ := T.fn
  obtain ⟨nm, q, N, bs, bm, sn, sub, ab, col, dd, k0, k1, k2, k3, k5, hC, hbm⟩ := T.cls
  have hcl : clsIn K C = some { name := nm, bases := bs, mro := .ref C :: bm, ns := N, qualname := q, hasDict := true, slotNames := sn, subclasses := sub, abstract := ab, collection := col, hasDel := false } := by unfold clsIn; rw [hC] <;> rfl
  refine ks_codeAny_call_defAt (binds := [("self", .ref x)]) hroom (X _ _ ho) rfl hlim (codeRec_of X hcd) rfl (BindsTo.of_eq (by first | rfl | with_unfolding_all rfl)) scNon_cell scNon_loc (fun h₁ hn k => ?_) rfl rfl rfl
  have hxL : x ≠ s.heap.objs.size := Nat.ne_of_lt (Heap.lt_size hx)
  have X₁ : K.In h₁ := X.keeps k
  have hx₁ := k _ _ hx
  show wpAt (model prog w) (A.deeper (ksEnv qual scNon s.heap.objs.size fI (.ref cda) cc)) _ (execs (boNon txt j p0 p1 p2 pc p3 p4) (ksEnv qual scNon s.heap.objs.size fI (.ref cda) cc)) _ _ _
  refine ks_wpAt_execs_cons (ks_wpAt_Expr_any (ks_wpAt_MethodCall (pl := L2.plainOf (.Call (.Name "super" p0) [] [] p1) (ksEnv qual scNon s.heap.objs.size fI (.ref cda) cc)) (sup_inner T X₁ (G.keeps k) hn hx₁ hxL hnx ho rfl (by rfl) hcode hvs hfile hcell scNon_sup scNon_cls scNon_self rfl (by rfl) ?_ fun h₂ tk₂ t1 k₂ hx₂ => ?_)
    (congrArg (fun f => attributeBase (.Call (.Name "super" p0) [] [] p1) "__init__" (ksEnv qual scNon s.heap.objs.size fI (.ref cda) cc) (eval (.Call (.Name "super" p0) [] [] p1) (ksEnv qual scNon s.heap.objs.size fI (.ref cda) cc)) >>= f)
      (funext fun ov => congrArg (fun g => standAt p2.atName >>= fun _ => g) (L2.mcall_line rfl hl)))))
  · intro s2 R' hns2 hR u
    exact evalArgs_plain (Calls.spliced_cons (Calls.Constant_str (pos := pc) (k := j) (Calls.spliced_nil (hR _ _ (by rw [sizeLine_eq]; exact (by decide : 1 ≤ 16777216))))))
  · exact wpAt_of_wpAny (wpAny_execs_nil (hq h₂ tk₂ t1 ⟨fun b o hb e => k₂ b o hb (k b o e), hx₂⟩))
end
end SupX
end PySem
namespace PySem
namespace SupX

section
open PySem.W PySem.Calls PyProof.Rows PySem.HandSPX
variable {prog : Program} {w : World} {A : Around} {E : Value → Shared → Prop} {R : Result → Shared → Prop} {s : Shared} {K : Frag} {C fI : Addr} {qual : Str} {txt : Str} {j : Nat} {a1 a2 p0 p1 p2 pc p3 p4 q1 q2 q3 q4 : Pos}
theorem madeAt (T : SupTxt prog K C fI qual (arAt a1 a2) (boAt txt j p0 p1 p2 pc p3 p4 q1 q2 q3 q4) scAt) (hno : findIn K (.ref C) "at" = some none) {v : Value} (X : K.In s.heap) (G : GlobS s.heap) (hlim : s.heap.NoLimit) (hroom : A.depth + 1 < recursionLimit) (hl : (p2.endLine == p3.line) = true)
    (hq : ∀ h' tk e d, MadeAt s.heap h' e C d v → R (.ok (.ret (.ref e))) { s with heap := h', toks := tk }) : codeAny (model prog w) A (.call (.ref C) ⟨[v], []⟩) R s := by
  obtain ⟨nm, q, N, bs, bm, sn, sub, ab, col, dd, k0, k1, k2, k3, k5, hC, hbm⟩ := T.cls
  obtain ⟨hp, g, dr, tk, os⟩ := s
  have k : ∀ b o, hp.get? b = some o → ((hp.push (kdv_tup [v])).push (excO C hp.objs.size)).get? b = some o := fun b o e => Heap.get?_push_of_some _ (Heap.get?_push_of_some _ e)
  have hget : ((hp.push (kdv_tup [v])).push (excO C hp.objs.size)).get? (hp.objs.size + 1) = some (excO C hp.objs.size) := by heap_get
  have hnx : K.lookup (hp.objs.size + 1) = none := by
    cases e : K.lookup (hp.objs.size + 1) with
    | none => rfl
    | some o =>
      have z : hp.get? (hp.objs.size + 1) = some o := X _ _ e
      exact absurd (Nat.lt_of_succ_lt (Heap.lt_size z)) (Nat.lt_irrefl _)
  refine call_own F.excBase_ValueError (fun X => refsVE_contains X bm hbm) (X _ _ hC) (looks_findIn X T.iC) (fun self => bind_fn X self T.tC) (by rw [sizeLine_eq]; exact (by decide : 1 ≤ 16777216)) ?_
  refine initAt (s := ⟨(hp.push (kdv_tup [v])).push (excO C hp.objs.size), g, dr, tk, os⟩) T hno (X.keeps k) (G.keeps k) (hlim.keeps k) hget hnx ?_ hl fun h' tk' dx t1 ⟨k', hx, dn, dne, hns⟩ => ?_
  · show A.depth + 1 < recursionLimit
    exact hroom
  · have old : ∀ b o, hp.get? b = some o → h'.get? b = some o := fun b o e => k' b o (Nat.ne_of_lt (Nat.lt_succ_of_lt (Heap.lt_size e))) (k b o e)
    have z : hp.objs.size + 1 + 1 ≤ dx := by
      first
        | (simpa only [Heap.size_push] using dn)
        | exact dn
        | (have q := dn; rw [Heap.size_push, Heap.size_push] at q; exact q)
    exact ⟨rfl, hq h' tk' (hp.objs.size + 1) dx ⟨old, Nat.le_succ _, ⟨_, _, hx, rfl, rfl, rfl, rfl⟩, Nat.le_trans (Nat.le_trans (Nat.le_succ _) (Nat.le_succ _)) z, dne, hns⟩⟩
end

section
open PySem.W PySem.Calls PyProof.Rows PySem.HandSPX
variable {prog : Program} {w : World} {A : Around} {E : Value → Shared → Prop} {R : Result → Shared → Prop} {s : Shared} {K : Frag} {C fI : Addr} {qual : Str} {a1 a2 p0 p1 p2 pc p3 p4 q1 q2 q3 q4 : Pos}
theorem madeWhat (T : SupTxt prog K C fI qual (arWhat a1 a2) (boWhat p0 p1 p2 pc p3 p4 q1 q2 q3 q4) scWhat) (hno : findIn K (.ref C) "what" = some none) {v : Value} (X : K.In s.heap) (G : GlobS s.heap) (hlim : s.heap.NoLimit) (hroom : A.depth + 1 < recursionLimit) (hl : (p2.endLine == p3.line) = true)
    (hq : ∀ h' tk e d, MadeWhat s.heap h' e C d v → R (.ok (.ret (.ref e))) { s with heap := h', toks := tk }) : codeAny (model prog w) A (.call (.ref C) ⟨[v], []⟩) R s := by
  obtain ⟨nm, q, N, bs, bm, sn, sub, ab, col, dd, k0, k1, k2, k3, k5, hC, hbm⟩ := T.cls
  obtain ⟨hp, g, dr, tk, os⟩ := s
  have k : ∀ b o, hp.get? b = some o → ((hp.push (kdv_tup [v])).push (excO C hp.objs.size)).get? b = some o := fun b o e => Heap.get?_push_of_some _ (Heap.get?_push_of_some _ e)
  have hget : ((hp.push (kdv_tup [v])).push (excO C hp.objs.size)).get? (hp.objs.size + 1) = some (excO C hp.objs.size) := by heap_get
  have hnx : K.lookup (hp.objs.size + 1) = none := by
    cases e : K.lookup (hp.objs.size + 1) with
    | none => rfl
    | some o =>
      have z : hp.get? (hp.objs.size + 1) = some o := X _ _ e
      exact absurd (Nat.lt_of_succ_lt (Heap.lt_size z)) (Nat.lt_irrefl _)
  refine call_own F.excBase_ValueError (fun X => refsVE_contains X bm hbm) (X _ _ hC) (looks_findIn X T.iC) (fun self => bind_fn X self T.tC) (by rw [sizeLine_eq]; exact (by decide : 1 ≤ 16777216)) ?_
  refine initWhat (s := ⟨(hp.push (kdv_tup [v])).push (excO C hp.objs.size), g, dr, tk, os⟩) T hno (X.keeps k) (G.keeps k) (hlim.keeps k) hget hnx ?_ hl fun h' tk' dx t1 ⟨k', hx, dn, dne, hns⟩ => ?_
  · show A.depth + 1 < recursionLimit
    exact hroom
  · have old : ∀ b o, hp.get? b = some o → h'.get? b = some o := fun b o e => k' b o (Nat.ne_of_lt (Nat.lt_succ_of_lt (Heap.lt_size e))) (k b o e)
    have z : hp.objs.size + 1 + 1 ≤ dx := by
      first
        | (simpa only [Heap.size_push] using dn)
        | exact dn
        | (have q := dn; rw [Heap.size_push, Heap.size_push] at q; exact q)
    exact ⟨rfl, hq h' tk' (hp.objs.size + 1) dx ⟨old, Nat.le_succ _, ⟨_, _, hx, rfl, rfl, rfl, rfl⟩, Nat.le_trans (Nat.le_trans (Nat.le_succ _) (Nat.le_succ _)) z, dne, hns⟩⟩
end

section
open PySem.W PySem.Calls PyProof.Rows PySem.HandSPX
variable {prog : Program} {w : World} {A : Around} {E : Value → Shared → Prop} {R : Result → Shared → Prop} {s : Shared} {K : Frag} {C fI : Addr} {qual : Str} {txt : Str} {j : Nat} {a1 p0 p1 p2 pc p3 p4 : Pos}
theorem madeNon (T : SupTxt prog K C fI qual (arNon a1) (boNon txt j p0 p1 p2 pc p3 p4) scNon) (X : K.In s.heap) (G : GlobS s.heap) (hlim : s.heap.NoLimit) (hroom : A.depth + 1 < recursionLimit) (hl : (p2.endLine == p3.line) = true)
    (hq : ∀ h' tk e, MadeNon s.heap h' e C → R (.ok (.ret (.ref e))) { s with heap := h', toks := tk }) : codeAny (model prog w) A (.call (.ref C) ⟨[], []⟩) R s := by
  obtain ⟨nm, q, N, bs, bm, sn, sub, ab, col, dd, k0, k1, k2, k3, k5, hC, hbm⟩ := T.cls
  obtain ⟨hp, g, dr, tk, os⟩ := s
  have k : ∀ b o, hp.get? b = some o → ((hp.push (kdv_tup [])).push (excO C hp.objs.size)).get? b = some o := fun b o e => Heap.get?_push_of_some _ (Heap.get?_push_of_some _ e)
  have hget : ((hp.push (kdv_tup [])).push (excO C hp.objs.size)).get? (hp.objs.size + 1) = some (excO C hp.objs.size) := by heap_get
  have hnx : K.lookup (hp.objs.size + 1) = none := by
    cases e : K.lookup (hp.objs.size + 1) with
    | none => rfl
    | some o =>
      have z : hp.get? (hp.objs.size + 1) = some o := X _ _ e
      exact absurd (Nat.lt_of_succ_lt (Heap.lt_size z)) (Nat.lt_irrefl _)
  refine call_own F.excBase_ValueError (fun X => refsVE_contains X bm hbm) (X _ _ hC) (looks_findIn X T.iC) (fun self => bind_fn X self T.tC) (by rw [sizeLine_eq]; exact (by decide : 0 ≤ 16777216)) ?_
  refine initNon (s := ⟨(hp.push (kdv_tup [])).push (excO C hp.objs.size), g, dr, tk, os⟩) T (X.keeps k) (G.keeps k) (hlim.keeps k) hget hnx ?_ hl fun h' tk' t1 ⟨k', hx⟩ => ?_
  · show A.depth + 1 < recursionLimit
    exact hroom
  · have old : ∀ b o, hp.get? b = some o → h'.get? b = some o := fun b o e => k' b o (Nat.ne_of_lt (Nat.lt_succ_of_lt (Heap.lt_size e))) (k b o e)
    exact ⟨rfl, hq h' tk' (hp.objs.size + 1) ⟨old, Nat.le_succ _, ⟨_, _, hx, rfl, rfl, rfl, rfl⟩⟩⟩
end
end SupX
end PySem
namespace L2
open PySem PySem.Spec PyProof.Rows
theorem globS_of {X : Cx} {pins : List (Addr × Obj)} {σ : L2.St} {H : Hp} {s : Shared} (I : Inv X pins σ H s) (hm : X.mg "super" = none) : PySem.SupX.GlobS s.heap := by
  obtain ⟨mb, h1, h2⟩ := I.mod.blt
  exact ⟨⟨_, I.mod.glob.keeps I.bk, hm⟩, ⟨mb, h1.keeps I.bk, (h2 "super" (by decide)).trans (by decide +kernel)⟩⟩

section
variable {X : Cx} {C fI : Addr} {qual x : Str} {txt : Str} {j : Nat} {a1 a2 p0 p1 p2 pc p3 p4 q1 q2 q3 q4 : Pos}
def tMkAt (C : Addr) (ta : TA) : L2.St → Hp → XK → Prop := fun σ H Q => ta σ H fun vs H1 => ∃ v, vs = [v] ∧ ∀ d, H1 d = none → Q (.ref C) (some d) (upd H1 d (.xd [(("at" : Str), v)]))
theorem relO_At {v : V} {v' : Value} (r : RelV v v') (f : Str) : RelO (List.lookup f [(("at" : Str), v)]) (if f = "at" then some v' else none) := by
  by_cases hw : f = "at"
  · subst hw
    rw [if_pos rfl]
    have q : List.lookup ("at" : Str) [(("at" : Str), v)] = some v := by simp [List.lookup]
    rw [q]
    exact r
  · rw [if_neg hw]
    have qw : (f == ("at" : Str)) = false := by simpa using hw
    have q2 : List.lookup f [(("at" : Str), v)] = none := by simp [List.lookup, qw]
    rw [q2]
    trivial
theorem pmk_At {a : Expr} {ta : TA} {p pos : Pos} {k : Nat} (T : PySem.SupX.SupTxt X.prog X.K C fI qual (PySem.SupX.arAt a1 a2) (PySem.SupX.boAt txt j p0 p1 p2 pc p3 p4 q1 q2 q3 q4) PySem.SupX.scAt) (hno : PySem.W.findIn X.K (.ref C) "at" = some none) (hm : X.mg x = some (.ref C)) (hsu : X.mg "super" = none) (hl : (p2.endLine == p3.line) = true) (hr : Room k X.A) (ha : PA X [a] ta) (hg : Gl X x := by rfl)
    (he : starEach (a :: []) X.env = (false, eval a X.env) :: starEach [] X.env := by rfl) (hpl : (backTo pos (starEach [] X.env)).any (·.1) = false := by rfl) (hd : (x == ("__debug__" : Str)) = false := by decide) :
    PMk X (.Call (.Name x p) [a] [] pos) (tMkAt C ta) := by
  intro pins s σ H Q I h
  refine wpAny_Call_Name_kw (ld_glob I hg hm ?_ hd)
  refine PySem.W.callWith_K (h₀ := X.base) I.ok.mod.kin T.kC (thn (ha.run pos pins s σ H _ I h) fun us s1 hh => ?_) he hpl
  obtain ⟨vs, H1, I1, r1, v, ev, q1⟩ := hh
  subst ev
  refine ⟨I1.kIn, ?_⟩
  cases r1 with
  | cons rv rn =>
    rename_i v' us'
    cases rn
    show wpAny _ _ (call (.ref C) [v']) _ _ _
    have hlim := I1.nolimit
    have G := globS_of I1 hsu
    obtain ⟨hp, g, dr, tk, os⟩ := s1
    refine wpAny_call (PySem.SupX.madeAt T hno I1.kIn G hlim (by have := hr.dp; omega) hl fun h' tk' e d M => ?_)
    show MkP X pins σ Q (.ref e) ⟨h', g, dr, tk', os⟩
    obtain ⟨oe, fv, hoe, hc, hd, hdat, h1⟩ := M.obj
    have hns := M.ns
    obtain ⟨G', g1, g2⟩ := restrict h' fun b => decide (b ≠ e)
    have gk : ∀ b, b ≠ e → G'.get? b = h'.get? b := fun b hb => g1 b (decide_eq_true hb)
    have ge : G'.get? e = none := g2 e (by simp)
    have old : ∀ b o, hp.get? b = some o → G'.get? b = some o := fun b o q => (gk b (Nat.ne_of_lt (Nat.lt_of_lt_of_le (Heap.lt_size q) M.new))).trans (M.keep b o q)
    have ob : ObjOk X.prog X.w (upd H1 d (.xd [(("at" : Str), v)])) G' d (.xd [(("at" : Str), v)]) :=
      ⟨_, hns.at (fun o q => (gk d M.dne).trans q), fun f => relO_At rv f⟩
    have J : Inv X pins σ (upd H1 d (.xd [(("at" : Str), v)])) ⟨G', g, dr, tk', os⟩ := I1.laid (t' := tk') old M.dbig ob
    refine ⟨e, oe, fv, ⟨G', g, dr, tk', os⟩, _, .ref C, some d, rfl, J, fun b o q => ?_, ge, hoe, ⟨hc, hd⟩, hdat, h1, ?_, rfl, I1.bare, raises_own T.exC T.tyC, q1 d (I1.hok.fresh M.dbig)⟩
    · by_cases hb : b = e
      · have q' : G'.get? b = some o := q
        rw [hb, ge] at q'; cases q'
      · exact (gk b hb).symm.trans q
    · rw [upd_ne (Ne.symm M.dne)]
      exact I1.hok.fresh M.new
def tByAt (C : Addr) (a : Addr) (cls : Value) (d : Option Addr) (te : TE) : TE := fun σ H Q => te σ H fun x H1 => x = .ref a ∧ cls = .ref C ∧ ∃ (dd : Addr) (v : V), d = some dd ∧ H1 dd = some (.xd [(("at" : Str), v)]) ∧ Q v H1
theorem pe_byAt {a : Addr} {oe : Obj} {cls : Value} {d : Option Addr} {pn : List (Addr × Obj)} {e : Expr} {te : TE} {pos : Pos} (T : PySem.SupX.SupTxt X.prog X.K C fI qual (PySem.SupX.arAt a1 a2) (PySem.SupX.boAt txt j p0 p1 p2 pc p3 p4 q1 q2 q3 q4) PySem.SupX.scAt) (hno : PySem.W.findIn X.K (.ref C) "at" = some none) (hz : Zc cls d oe) (hf : ∃ vs, oe.data = .fields vs) (he : PE (X.suite a ((a, oe) :: pn)) e te)
    (hb : attributeBase e "at" X.env (eval e X.env) = eval e X.env := by rfl) :
    PE (X.suite a ((a, oe) :: pn)) (.Attribute e "at" pos) (tByAt C a cls d te) := by
  refine ⟨fun pins s σ H Q I h => ?_⟩
  refine attr_of hb (thn (he.run pins s σ H _ I h) fun u s1 hh => ?_)
  obtain ⟨x, H1, I1, rx, ex, ec, dd, v, ed, ea, q⟩ := hh
  subst ex
  obtain rfl : u = Value.ref a := rx
  subst ec
  subst ed
  obtain ⟨ha, _⟩ := I1.pin (a, oe) (List.mem_append_left _ List.mem_cons_self)
  obtain ⟨vs, hd⟩ := hf
  have hx : ObjOk X.prog X.w H1 s1.heap dd (.xd [(("at" : Str), v)]) := I1.hok dd _ ea
  obtain ⟨mA, hns, hr⟩ := hx
  obtain ⟨od, ho, hl⟩ := lookIn_ns hns
  have l : List.lookup ("at" : Str) [(("at" : Str), v)] = some v := by simp [List.lookup]
  obtain ⟨u, hu, ru⟩ := RelO.some_of (v := v) (o := mA "at") (by rw [← l]; exact hr "at")
  have J : PySem.W.InstAt s1.heap a oe C (some od) := ⟨ha, hz.1, by unfold PySem.W.notCls; rw [hd] <;> rfl, by rw [hz.2]; exact ho⟩
  exact HandSPX.exc_get I1.kIn J T.ga T.gg T.exC (PySem.W.findObj_own T.hdC hno rfl (by rw [hl, hu])) (handed_of ru) ⟨v, H1, I1.tok _, ru, q⟩
end

section
variable {X : Cx} {C fI : Addr} {qual x : Str} {a1 a2 p0 p1 p2 pc p3 p4 q1 q2 q3 q4 : Pos}
def tMkWhat (C : Addr) (ta : TA) : L2.St → Hp → XK → Prop := fun σ H Q => ta σ H fun vs H1 => ∃ v, vs = [v] ∧ ∀ d, H1 d = none → Q (.ref C) (some d) (upd H1 d (.xd [(("what" : Str), v)]))
theorem relO_What {v : V} {v' : Value} (r : RelV v v') (f : Str) : RelO (List.lookup f [(("what" : Str), v)]) (if f = "what" then some v' else none) := by
  by_cases hw : f = "what"
  · subst hw
    rw [if_pos rfl]
    have q : List.lookup ("what" : Str) [(("what" : Str), v)] = some v := by simp [List.lookup]
    rw [q]
    exact r
  · rw [if_neg hw]
    have qw : (f == ("what" : Str)) = false := by simpa using hw
    have q2 : List.lookup f [(("what" : Str), v)] = none := by simp [List.lookup, qw]
    rw [q2]
    trivial
theorem pmk_What {a : Expr} {ta : TA} {p pos : Pos} {k : Nat} (T : PySem.SupX.SupTxt X.prog X.K C fI qual (PySem.SupX.arWhat a1 a2) (PySem.SupX.boWhat p0 p1 p2 pc p3 p4 q1 q2 q3 q4) PySem.SupX.scWhat) (hno : PySem.W.findIn X.K (.ref C) "what" = some none) (hm : X.mg x = some (.ref C)) (hsu : X.mg "super" = none) (hl : (p2.endLine == p3.line) = true) (hr : Room k X.A) (ha : PA X [a] ta) (hg : Gl X x := by rfl)
    (he : starEach (a :: []) X.env = (false, eval a X.env) :: starEach [] X.env := by rfl) (hpl : (backTo pos (starEach [] X.env)).any (·.1) = false := by rfl) (hd : (x == ("__debug__" : Str)) = false := by decide) :
    PMk X (.Call (.Name x p) [a] [] pos) (tMkWhat C ta) := by
  intro pins s σ H Q I h
  refine wpAny_Call_Name_kw (ld_glob I hg hm ?_ hd)
  refine PySem.W.callWith_K (h₀ := X.base) I.ok.mod.kin T.kC (thn (ha.run pos pins s σ H _ I h) fun us s1 hh => ?_) he hpl
  obtain ⟨vs, H1, I1, r1, v, ev, q1⟩ := hh
  subst ev
  refine ⟨I1.kIn, ?_⟩
  cases r1 with
  | cons rv rn =>
    rename_i v' us'
    cases rn
    show wpAny _ _ (call (.ref C) [v']) _ _ _
    have hlim := I1.nolimit
    have G := globS_of I1 hsu
    obtain ⟨hp, g, dr, tk, os⟩ := s1
    refine wpAny_call (PySem.SupX.madeWhat T hno I1.kIn G hlim (by have := hr.dp; omega) hl fun h' tk' e d M => ?_)
    show MkP X pins σ Q (.ref e) ⟨h', g, dr, tk', os⟩
    obtain ⟨oe, fv, hoe, hc, hd, hdat, h1⟩ := M.obj
    have hns := M.ns
    obtain ⟨G', g1, g2⟩ := restrict h' fun b => decide (b ≠ e)
    have gk : ∀ b, b ≠ e → G'.get? b = h'.get? b := fun b hb => g1 b (decide_eq_true hb)
    have ge : G'.get? e = none := g2 e (by simp)
    have old : ∀ b o, hp.get? b = some o → G'.get? b = some o := fun b o q => (gk b (Nat.ne_of_lt (Nat.lt_of_lt_of_le (Heap.lt_size q) M.new))).trans (M.keep b o q)
    have ob : ObjOk X.prog X.w (upd H1 d (.xd [(("what" : Str), v)])) G' d (.xd [(("what" : Str), v)]) :=
      ⟨_, hns.at (fun o q => (gk d M.dne).trans q), fun f => relO_What rv f⟩
    have J : Inv X pins σ (upd H1 d (.xd [(("what" : Str), v)])) ⟨G', g, dr, tk', os⟩ := I1.laid (t' := tk') old M.dbig ob
    refine ⟨e, oe, fv, ⟨G', g, dr, tk', os⟩, _, .ref C, some d, rfl, J, fun b o q => ?_, ge, hoe, ⟨hc, hd⟩, hdat, h1, ?_, rfl, I1.bare, raises_own T.exC T.tyC, q1 d (I1.hok.fresh M.dbig)⟩
    · by_cases hb : b = e
      · have q' : G'.get? b = some o := q
        rw [hb, ge] at q'; cases q'
      · exact (gk b hb).symm.trans q
    · rw [upd_ne (Ne.symm M.dne)]
      exact I1.hok.fresh M.new
def tByWhat (C : Addr) (a : Addr) (cls : Value) (d : Option Addr) (te : TE) : TE := fun σ H Q => te σ H fun x H1 => x = .ref a ∧ cls = .ref C ∧ ∃ (dd : Addr) (v : V), d = some dd ∧ H1 dd = some (.xd [(("what" : Str), v)]) ∧ Q v H1
theorem pe_byWhat {a : Addr} {oe : Obj} {cls : Value} {d : Option Addr} {pn : List (Addr × Obj)} {e : Expr} {te : TE} {pos : Pos} (T : PySem.SupX.SupTxt X.prog X.K C fI qual (PySem.SupX.arWhat a1 a2) (PySem.SupX.boWhat p0 p1 p2 pc p3 p4 q1 q2 q3 q4) PySem.SupX.scWhat) (hno : PySem.W.findIn X.K (.ref C) "what" = some none) (hz : Zc cls d oe) (hf : ∃ vs, oe.data = .fields vs) (he : PE (X.suite a ((a, oe) :: pn)) e te)
    (hb : attributeBase e "what" X.env (eval e X.env) = eval e X.env := by rfl) :
    PE (X.suite a ((a, oe) :: pn)) (.Attribute e "what" pos) (tByWhat C a cls d te) := by
  refine ⟨fun pins s σ H Q I h => ?_⟩
  refine attr_of hb (thn (he.run pins s σ H _ I h) fun u s1 hh => ?_)
  obtain ⟨x, H1, I1, rx, ex, ec, dd, v, ed, ea, q⟩ := hh
  subst ex
  obtain rfl : u = Value.ref a := rx
  subst ec
  subst ed
  obtain ⟨ha, _⟩ := I1.pin (a, oe) (List.mem_append_left _ List.mem_cons_self)
  obtain ⟨vs, hd⟩ := hf
  have hx : ObjOk X.prog X.w H1 s1.heap dd (.xd [(("what" : Str), v)]) := I1.hok dd _ ea
  obtain ⟨mA, hns, hr⟩ := hx
  obtain ⟨od, ho, hl⟩ := lookIn_ns hns
  have l : List.lookup ("what" : Str) [(("what" : Str), v)] = some v := by simp [List.lookup]
  obtain ⟨u, hu, ru⟩ := RelO.some_of (v := v) (o := mA "what") (by rw [← l]; exact hr "what")
  have J : PySem.W.InstAt s1.heap a oe C (some od) := ⟨ha, hz.1, by unfold PySem.W.notCls; rw [hd] <;> rfl, by rw [hz.2]; exact ho⟩
  exact HandSPX.exc_get I1.kIn J T.ga T.gg T.exC (PySem.W.findObj_own T.hdC hno rfl (by rw [hl, hu])) (handed_of ru) ⟨v, H1, I1.tok _, ru, q⟩
end

section
variable {X : Cx} {C fI : Addr} {qual x : Str} {txt : Str} {j : Nat} {a1 p0 p1 p2 pc p3 p4 : Pos}
def tMkNon (C : Addr) : L2.St → Hp → XK → Prop := fun _ H Q => Q (.ref C) none H
theorem pmk_Non {p pos : Pos} {k : Nat} (T : PySem.SupX.SupTxt X.prog X.K C fI qual (PySem.SupX.arNon a1) (PySem.SupX.boNon txt j p0 p1 p2 pc p3 p4) PySem.SupX.scNon) (hm : X.mg x = some (.ref C)) (hsu : X.mg "super" = none) (hl : (p2.endLine == p3.line) = true) (hr : Room k X.A) (hg : Gl X x := by rfl) (hd : (x == ("__debug__" : Str)) = false := by decide) :
    PMk X (.Call (.Name x p) [] [] pos) (tMkNon C) := by
  intro pins s σ H Q I h
  refine wpAny_Call_Name_kw (ld_glob I hg hm ?_ hd)
  refine PySem.W.callWith_K0 (first := []) I.kIn T.kC ?_
  show wpAny _ _ (call (.ref C) []) _ _ _
  have hlim := I.nolimit
  have G := globS_of I hsu
  obtain ⟨hp, g, dr, tk, os⟩ := s
  refine wpAny_call (PySem.SupX.madeNon T I.kIn G hlim (by have := hr.dp; omega) hl fun h' tk' e M => ?_)
  show MkP X pins σ Q (.ref e) ⟨h', g, dr, tk', os⟩
  obtain ⟨oe, fv, hoe, hc, hd, hdat, h1⟩ := M.obj
  obtain ⟨G', g1, g2⟩ := restrict h' fun b => decide (b ≠ e)
  have gk : ∀ b, b ≠ e → G'.get? b = h'.get? b := fun b hb => g1 b (decide_eq_true hb)
  have ge : G'.get? e = none := g2 e (by simp)
  have old : ∀ b o, hp.get? b = some o → G'.get? b = some o := fun b o q => (gk b (Nat.ne_of_lt (Nat.lt_of_lt_of_le (Heap.lt_size q) M.new))).trans (M.keep b o q)
  have J : Inv X pins σ H ⟨G', g, dr, tk', os⟩ := I.kept (t' := tk') old
  refine ⟨e, oe, fv, ⟨G', g, dr, tk', os⟩, _, .ref C, none, rfl, J, fun b o q => ?_, ge, hoe, ⟨hc, hd⟩, hdat, h1, ?_, rfl, I.bare, raises_own T.exC T.tyC, h⟩
  · by_cases hb : b = e
    · have q' : G'.get? b = some o := q
      rw [hb, ge] at q'; cases q'
    · exact (gk b hb).symm.trans q
  · exact I.hok.fresh M.new
end
end L2
namespace PySem.W
open PySem PySem.Spec PySem.Calls PyProof.Rows
section
variable {prog : Program} {w : World} {A : Around} {E : Value → Shared → Prop} {s : Shared} {K : Frag} {x D : Addr} {ox : Obj}
theorem myFindData {od : Option Obj} {C : Addr} {name : Str} {a g : Value} (hc : (clsIn K C).isSome = true) (ha : findIn K (.ref C) name = some (some a)) (hg : specialIn K a "__get__" = some (some g)) (ht : takesIn K a = some true) : findObj K C od name = some (.bind g a) := by
  cases od with
  | none => exact findObj_dataN hc ha hg ht
  | some o => exact findObj_data hc ha hg ht
theorem myKinClass {od : Option Obj} {Q : Option Value → Shared → Prop} (hga : findIn K (.ref D) "__getattribute__" = some (some (.builtin "BaseException.__getattribute__"))) (hgt : findIn K (.ref D) "__getattr__" = some none) (hsub : subIn K (.ref D) (.type "BaseException") = some true)
    (hdct : hasDictIn K D = true) (ha : findIn K (.ref D) "__class__" = some (some (.builtin "object.__class__")))
    (hn : specialIn K (.builtin "object.__class__") "__get__" = some (some (.builtin "getset_descriptor.__get__"))) (htk : takesIn K (.builtin "object.__class__") = some true) (hm : mroIn K D (.type "object") = some true)
    (X : K.In s.heap) (I : InstAt s.heap x ox D od) (h : Q (some (.ref D)) { s with toks := s.toks + 1 }) : wpAny (model prog w) A (getAttr? (.ref x) "__class__") Q E s := by
  have hf : findObj K D od "__class__" = some (.bind (.builtin "getset_descriptor.__get__") (.builtin "object.__class__")) := myFindData (by obtain ⟨cd, hc, _⟩ := any_some hdct; rw [hc]; rfl) ha hn htk
  obtain ⟨hp, g, d, t, os⟩ := s
  have L0 := I.type (M := model prog w)
  have L1 := looks_findIn (M := model prog w) X hga
  have L2 := looks_findIn (M := model prog w) X hgt
  have L3 := looks_find (M := model prog w) X I hf
  have sub : Looks (model prog w) hp (isInstance (.ref x) (.type "BaseException")) true := L0.andThen (looks_subIn X hsub)
  have hx0 : (false && onTheHeap (Value.builtin "BaseException.__getattribute__")) = false := rfl
  have hx2 : (Value.builtin "BaseException.__getattribute__" == Value.builtin "object.__getattribute__") = false := by decide +kernel
  have hx1 : (onTheHeap (Value.ref D) && Value.builtin "BaseException.__getattribute__" == Value.builtin "object.__getattribute__") = false := by rw [hx2]; rfl
  unfold getAttr? getAttrBy? getAttrBy
  refine wpAny_bind (wpAny_mkText (wpAny_bind (wpAny_attempt (wpAny_holding (wpAny_bind (L0.at (wpAny_bind (L1.at ?_))))))))
  show wpAny _ _ (if (onTheHeap (Value.ref D) && Value.builtin "BaseException.__getattribute__" == Value.builtin "object.__getattribute__") = true then _ else _) _ _ _
  rw [hx1, if_neg Bool.false_ne_true]
  unfold getAttrByItsOwn hookBefore
  refine wpAny_bind ?_
  rw [if_pos (show onTheHeap (Value.ref D) = true from rfl)]
  refine L2.at ?_
  refine wpAny_bind (wpAny_attempt (wpAny_holding ?_))
  unfold callGetattribute
  rw [hx0, if_neg Bool.false_ne_true]
  unfold boundAndCalled
  rw [PySem.F.excAttr_ValueError.ga.bind (.ref x)]
  refine wpAny_bind (wpAny_pure ?_)
  show wpAny _ _ (call (.builtin "BaseException.__getattribute__") [.ref x, .str "__class__" t]) _ _ _
  refine wpAny_call (codeAny_call_builtin PySem.F.excAttr_ValueError.ga.plain PySem.F.entry_bexc_ga ?_)
  refine @check_slot (model prog w) _ _ ⟨hp, g, d, t + 1, os⟩ "BaseException.__getattribute__" "BaseException" "__getattribute__" (.ref x) [.str "__class__" t] [] _ (by decide +kernel) (by decide +kernel) sub (PySem.F.args_bexc_ga (.ref x) (.str "__class__" t)) ?_
  unfold Builtin.«object.__getattribute__»
  refine wpAny_bind (wpAny_of_eq (a := ((Value.ref x : Value), [Value.str "__class__" t])) (by first | rfl | (simp only [slotArgs]; rfl)) ?_)
  refine wpAny_bind (wpAny_pure (wpAny_bind (L0.at (wpAny_bind (L3.at ?_)))))
  show wpAny _ _ (holding [Value.builtin "object.__class__"] (call (.builtin "getset_descriptor.__get__") [.builtin "object.__class__", .ref x, .ref D]) >>= ret) _ _ _
  refine wpAny_bind (wpAny_holding (wpAny_call (class_get (s := ⟨hp, g, d, t + 1, os⟩) (ox := ox) (od := od) X I hm ?_)))
  refine wpAny_pure ?_
  show wpAny _ _ (handedOut (.ref D)) _ _ _
  rw [handedOut_of (v := .ref D) rfl]
  first
    | exact wpAny_pure (wpAny_pure h)
    | exact wpAny_pure h
    | exact wpAny_pure (wpAny_bind (wpAny_pure (wpAny_pure h)))
theorem myKitx (hga : findIn K (.ref D) "__getattribute__" = some (some (.builtin "BaseException.__getattribute__"))) (hgt : findIn K (.ref D) "__getattr__" = some none) (hsub : subIn K (.ref D) (.type "BaseException") = some true) (hdct : hasDictIn K D = true) (ha : findIn K (.ref D) "__class__" = some (some (.builtin "object.__class__")))
    (hn : specialIn K (.builtin "object.__class__") "__get__" = some (some (.builtin "getset_descriptor.__get__"))) (htk : takesIn K (.builtin "object.__class__") = some true) (hm : mroIn K D (.type "object") = some true) :
    KitX K (.ref x) (.ref D) (fun h => ∃ od, InstAt h x ox D od) where
  ty := fun _ _ _ ⟨_, I⟩ => I.type
  it := fun _ _ X _ => by
    obtain ⟨cdD, hcD, _⟩ := any_some hdct
    unfold clsIn at hcD
    split at hcD
    · rename_i c' d' cd' sl' ho
      intro A' Q' E' s' k q
      unfold isType loadHead
      exact wpAny_bind (wpAny_loadPart (k _ _ (X _ _ ho)) (wpAny_pure q))
    · cases hcD
  ne := fun h tp dd its n sl X htp => by
    obtain ⟨cdD, hcD, _⟩ := any_some hdct
    refine Bool.eq_false_iff.mpr fun q => ?_
    have e : D = tp := Value.ref.inj (beq_iff_eq.mp q)
    subst e
    unfold clsIn at hcD
    split at hcD
    · rename_i c' d' cd' sl' ho
      have z := (X _ _ ho).symm.trans htp
      cases z
    · cases hcD
  ca := fun X ⟨_, I⟩ k => myKinClass hga hgt hsub hdct ha hn htk hm X I k
end
end PySem.W
namespace L2.My
open PySem PySem.Spec PyProof.Rows L2
def DictAt (d : Option Addr) (H : Hp) : Prop := d = none ∨ ∃ dd fs, d = some dd ∧ H dd = some (.xd fs)
theorem inst_exc {X : Cx} {a D : Addr} {d : Option Addr} {oe : Obj} {pn pins : List (Addr × Obj)} {σ : L2.St} {H : Hp} {s : Shared} (hz : Zc (.ref D) d oe) (hf : ∃ vs, oe.data = .fields vs) (I : Inv (X.suite a ((a, oe) :: pn)) pins σ H s) (hd : DictAt d H) :
    ∃ od, PySem.W.InstAt s.heap a oe D od := by
  obtain ⟨hget, _⟩ := I.pin (a, oe) (List.mem_append.mpr (.inl List.mem_cons_self))
  obtain ⟨vs, hv⟩ := hf
  obtain ⟨oc, od, oda, osl⟩ := oe
  obtain ⟨h1, h2⟩ := hz
  dsimp only at h1 h2 hv
  subst h1 h2 hv
  rcases hd with rfl | ⟨dd, fs, rfl, hx⟩
  · exact ⟨none, hget, rfl, rfl, trivial⟩
  · have hx : ObjOk X.prog X.w H s.heap dd (.xd fs) := I.hok dd _ hx
    obtain ⟨mA, hns, hr⟩ := hx
    obtain ⟨od, ho, hl⟩ := lookIn_ns hns
    exact ⟨some od, hget, rfl, rfl, ho⟩
def rIsEd (K : PySem.W.Frag) (D a : Addr) (d : Option Addr) : List V → Hp → VK → Prop := fun xs H Q => DictAt d H ∧ ∃ (c : V) (cv : Value) (b : Bool), xs = [.ref a, c] ∧ ClsV c cv ∧ PySem.W.kitOne K (.ref D) cv = some b ∧ Q (.bl b) H
def rIsEdT (K : PySem.W.Frag) (D a : Addr) (d : Option Addr) : List V → Hp → VK → Prop := fun xs H Q => DictAt d H ∧ ∃ (tp : Addr) (cs : List V) (us : List Value) (b : Bool), xs = [.ref a, .ref tp] ∧ H tp = some (.tup cs) ∧ Paired ClsV cs us ∧ PySem.W.kitAny K (.ref D) us = some b ∧ Q (.bl b) H
theorem call_isEd {X : Cx} {a D : Addr} {d : Option Addr} {oe : Obj} {pn : List (Addr × Obj)} (C : ExcC X.K D) (hz : Zc (.ref D) d oe) (hf : ∃ vs, oe.data = .fields vs) : CallR (X.suite a ((a, oe) :: pn)) (.builtin "isinstance") (rIsEd X.K D a d) := by
  intro pins s σ H xs us Q I r h
  obtain ⟨hd, c, cv, b, rfl, hcv, e, q⟩ := h
  cases r with
  | cons rx rr =>
    cases rr with
    | cons rt rr =>
      cases rr
      cases rx
      have ec := hcv.eq rt
      subst ec
      exact PySem.W.kia_one (PySem.W.myKitx C.hg C.hk C.hs C.hd C.ha C.hn C.ht C.hm) I.kIn (inst_exc hz hf I hd) e (fun z => nomatch z) fun tk => ⟨.bl b, H, I.kept (t' := tk) fun _ _ z => z, rfl, q⟩
theorem call_isEdT {X : Cx} {a D : Addr} {d : Option Addr} {oe : Obj} {pn : List (Addr × Obj)} (C : ExcC X.K D) (hz : Zc (.ref D) d oe) (hf : ∃ vs, oe.data = .fields vs) : CallR (X.suite a ((a, oe) :: pn)) (.builtin "isinstance") (rIsEdT X.K D a d) := by
  intro pins s σ H xs us Q I r h
  obtain ⟨hd, tp, cs, ws, b, rfl, hT, k, e, q⟩ := h
  cases r with
  | cons rx rr =>
    cases rr with
    | cons rt rr =>
      cases rr
      cases rx
      cases rt
      obtain ⟨_, its, rv, o, h1, h2, n, h3⟩ := (show ObjOk X.prog X.w H s.heap tp (.tup cs) from I.hok tp _ hT)
      have e3 := ClsV.all k rv
      subst e3
      obtain ⟨oc, od, dt, sl⟩ := o
      simp only at h2 h3
      subst h2 h3
      exact PySem.W.kia_tup (PySem.W.myKitx C.hg C.hk C.hs C.hd C.ha C.hn C.ht C.hm) I.kIn (inst_exc hz hf I hd) h1 e (fun z => nomatch z) fun tk => ⟨.bl b, H, I.kept (t' := tk) fun _ _ z => z, rfl, q⟩
end L2.My
namespace He
open PySem PySem.Spec PyProof.Rows L2 PySem.W PySem.HandSPX
def supB (P : Program) (K : Frag) (x : Str) : Bool :=
  let C := ga K x
  let f := ma K C "__init__"
  (match K.lookup C with
    | some ⟨.type "type", _, .cls cd, sl⟩ => (match cd.mro, sl.toList with
      | .ref C' :: bm, [_, _, _, _, some (.builtin n), _] => C' == C && (n == "ValueError.__new__" && (!cd.hasDel && (cd.hasDict && refsVE bm)))
      | _, _ => false)
    | _ => false) &&
  (eqO (findIn K (.ref C) "__setattr__") (some (some (.builtin "object.__setattr__"))) && (eqO (findIn K (.ref C) "__getattribute__") (some (some (.builtin "BaseException.__getattribute__"))) &&
  (eqO (findIn K (.ref C) "__getattr__") (some none) && (eqO (findIn K (.ref C) "__init__") (some (some (.ref f))) && (decide (typeIn K (.ref f) = some (.type "function")) && (keepIn K (.ref C) &&
  (decide (subIn K (.ref C) (.type "BaseException") = some true) && (decide (typeIn K (.ref C) = some (.type "type")) && (hasDictIn K C && (eqO (ks_superIn K C C "__init__") (some (some (.builtin "ValueError.__init__"))) &&
  (decide (subIn K (.ref C) (.type "ValueError") = some true) && (decide (mroIn K C (.ref C) = some true) && (eqO (nsIn K cStatics "thirdparty.any") (some none) && (!(P.main.scope.names.lookup ("super" : Str)).isSome &&
  (match K.lookup f with
    | some ⟨_, _, .func fd, _⟩ => (match fd.defaults, fd.code, fd.closure with
      | .none, .ref cda, [("__class__", cc)] => codeIn K (.ref cda) fd.qualname && ((match K.lookup cda with
          | some ⟨_, _, .fields vs, _⟩ => (match (vs : Array Value)[2]? with
            | some (Value.str file _) => ((P.main.file : Str) == file)
            | _ => false)
          | _ => false) && (match K.lookup cc with
          | some ⟨_, _, .cell (some (.ref D)), _⟩ => D == C
          | _ => false))
      | _, _, _ => false)
    | _ => false)))))))))))))))
abbrev FnS : Type := Option (Str × Str × Arguments × FuncBody × Scope × Addr × Addr)
def fnS (K : Frag) (x : Str) : FnS := match K.lookup (ma K (ga K x) "__init__") with
  | some ⟨_, _, .func fd, _⟩ => some (fd.name, fd.qualname, fd.params, fd.body, fd.scope, fd.globals, fd.builtins)
  | _ => none
structure SupD where
  cls : Str
  qual : Str
  params : Arguments
  body : List Stmt
  scope : Scope
def SupD.val (d : SupD) : FnS := some ("__init__", d.qual, d.params, .stmts d.body, d.scope, mainGlobals, builtinsNs)
theorem SupD.txt {P : Program} {K : Frag} {d : SupD} (e : fnS K d.cls = d.val) (c : supB P K d.cls = true) : PySem.SupX.SupTxt P K (ga K d.cls) (ma K (ga K d.cls) "__init__") d.qual d.params d.body d.scope := by
  unfold supB at c
  obtain ⟨c0, c⟩ := ba c
  obtain ⟨c1, c⟩ := ba c
  obtain ⟨c2, c⟩ := ba c
  obtain ⟨c3, c⟩ := ba c
  obtain ⟨c4, c⟩ := ba c
  obtain ⟨c5, c⟩ := ba c
  obtain ⟨c6, c⟩ := ba c
  obtain ⟨c7, c⟩ := ba c
  obtain ⟨c8, c⟩ := ba c
  obtain ⟨c9, c⟩ := ba c
  obtain ⟨c10, c⟩ := ba c
  obtain ⟨c11, c⟩ := ba c
  obtain ⟨c12, c⟩ := ba c
  obtain ⟨c13, c⟩ := ba c
  obtain ⟨c14, c15⟩ := ba c
  refine ⟨?_, eqO_ok c1, eqO_ok c2, eqO_ok c3, eqO_ok c4, of_decide_eq_true c5, c6, of_decide_eq_true c7, of_decide_eq_true c8, c9, eqO_ok c10, of_decide_eq_true c11, of_decide_eq_true c12, eqO_ok c13, by simpa using c14, ?_⟩
  · split at c0
    · rename_i dd cd sl ho
      split at c0
      · rename_i C' bm k0 k1 k2 k3 n k5 hm hs
        simp only [Bool.and_eq_true, beq_iff_eq, Bool.not_eq_true'] at c0
        obtain ⟨rfl, rfl, hdel, hdct, ht⟩ := c0
        obtain ⟨nm, bs, mro, ns, qn, hd, sn, sub, ab, col, del⟩ := cd
        dsimp only at hm hdel hdct
        subst hm hdel hdct
        have hsl : sl = #[k0, k1, k2, k3, some (.builtin "ValueError.__new__"), k5] := by
          obtain ⟨l⟩ := sl
          simp only at hs
          rw [hs]
        subst hsl
        exact ⟨nm, qn, ns, bs, bm, sn, sub, ab, col, dd, k0, k1, k2, k3, k5, ho, ht⟩
      · cases c0
    · cases c0
  · unfold fnS at e
    split at c15
    · rename_i oc od fd osl ho
      rw [ho] at e
      split at c15
      · rename_i cda cc h1 h2 h3
        obtain ⟨d1, d2⟩ := ba c15
        obtain ⟨d2, d3⟩ := ba d2
        split at d2
        · rename_i ccl cdd vs ccs hcode
          split at d2
          · rename_i file tf hvs
            split at d3
            · rename_i cl cld D csl hcell
              have eD : D = ga K d.cls := eq_of_beq d3
              subst eD
              obtain ⟨n1, n2, n3, n4, n5, n6, n7, n8, n9, n10, n11, n12, n13, n14, n15⟩ := fd
              have e2 : (some (n1, n2, n3, n4, n5, n6, n15) : FnS) = some (("__init__" : Str), d.qual, d.params, FuncBody.stmts d.body, d.scope, mainGlobals, builtinsNs) := e
              simp only [Option.some.injEq, Prod.mk.injEq] at e2
              obtain ⟨z1, z2, z3, z4, z5, z6, z7⟩ := e2
              dsimp only at h1 h2 h3 d1
              subst z1 z2 z3 z4 z5 z6 z7 h1 h2 h3
              exact ⟨oc, od, n9, n10, n11, n12, cda, cc, n14, osl, ccl, cdd, vs, ccs, file, tf, cl, cld, csl, ho, d1, hcode, hvs, d2, hcell⟩
            · cases d3
          · cases d2
        · cases d2
      · cases c15
    · cases c15
def excB (K : Frag) (x : Str) : Bool :=
  let D := ga K x
  eqO (findIn K (.ref D) "__getattribute__") (some (some (.builtin "BaseException.__getattribute__"))) && (eqO (findIn K (.ref D) "__getattr__") (some none) && (decide (subIn K (.ref D) (.type "BaseException") = some true) && (hasDictIn K D &&
  (eqO (findIn K (.ref D) "__class__") (some (some (.builtin "object.__class__"))) && (eqO (specialIn K (.builtin "object.__class__") "__get__") (some (some (.builtin "getset_descriptor.__get__"))) &&
  (decide (takesIn K (.builtin "object.__class__") = some true) && decide (mroIn K D (.type "object") = some true)))))))
theorem excB_ok {K : Frag} {x : Str} (c : excB K x = true) : ExcC K (ga K x) := by
  unfold excB at c
  obtain ⟨c1, c⟩ := ba c
  obtain ⟨c2, c⟩ := ba c
  obtain ⟨c3, c⟩ := ba c
  obtain ⟨c4, c⟩ := ba c
  obtain ⟨c5, c⟩ := ba c
  obtain ⟨c6, c⟩ := ba c
  obtain ⟨c7, c8⟩ := ba c
  exact ⟨eqO_ok c1, eqO_ok c2, of_decide_eq_true c3, c4, eqO_ok c5, eqO_ok c6, of_decide_eq_true c7, of_decide_eq_true c8⟩
def opsB (K : Frag) (x : Str) : Bool :=
  let C := ga K x
  selfFirst K C && (eqO (findIn K (.ref C) "__ne__") (some (some (.builtin "object.__ne__"))) && decide (mroIn K C (.type "object") = some true))
theorem opsB_ok {K : Frag} {x : Str} (c : opsB K x = true) : selfFirst K (ga K x) = true ∧ L2.My.NeC K (ga K x) := by
  unfold opsB at c
  obtain ⟨c1, c⟩ := ba c
  obtain ⟨c2, c3⟩ := ba c
  exact ⟨c1, eqO_ok c2, of_decide_eq_true c3⟩
def clsB (K : Frag) (x : Str) : Bool :=
  let D := ga K x
  eqO (findIn K (.ref D) "__class__") (some (some (.builtin "object.__class__"))) && (eqO (specialIn K (.builtin "object.__class__") "__get__") (some (some (.builtin "getset_descriptor.__get__"))) &&
  (decide (takesIn K (.builtin "object.__class__") = some true) && decide (mroIn K D (.type "object") = some true)))
theorem clsB_ok {K : Frag} {x : Str} {H : Hp} {a dx : Addr} {fs : List (Str × V)} (c : clsB K x = true) (cl : Cls K (ga K x)) (e : H a = some (.ins (ga K x) dx fs)) : TyX K H (.ref a) (.ref (ga K x)) := by
  unfold clsB at c
  obtain ⟨c1, c⟩ := ba c
  obtain ⟨c2, c⟩ := ba c
  obtain ⟨c3, c4⟩ := ba c
  exact .base (.ins e cl (eqO_ok c1) (eqO_ok c2) (of_decide_eq_true c3) (of_decide_eq_true c4))
def kitRR (K : Frag) (x y : Str) (b : Bool) : Bool := decide (kitOne K (.ref (ga K x)) (.ref (ga K y)) = some b)
def kitRT (K : Frag) (x : Str) (y : String) (b : Bool) : Bool := decide (kitOne K (.ref (ga K x)) (.type y) = some b)
def kitTR (K : Frag) (x : String) (y : Str) (b : Bool) : Bool := decide (kitOne K (.type x) (.ref (ga K y)) = some b)
abbrev AlM : Type := Bool × List FnW × List FnS
def frM (g : Addr → Option Obj) (n : Nat) : Frag := frG g (cStatics :: asD g n)
def obsM (P : Program) (fa : List Fa) (fn : List DefD) (fs : List SupD) (ex : Frag → Bool) (K : Frag) : AlM :=
  ((fa.all fun f => f.ok K) && ((fn.all fun d => d.ok K) && ((fs.all fun d => supB P K d.cls) && ex K)), fn.map fun d => fnW K d.at_, fs.map fun d => fnS K d.cls)
def valM (fn : List DefD) (fs : List SupD) : AlM := (true, fn.map DefD.val, fs.map SupD.val)
def SaysM (P : Program) (fa : List Fa) (fn : List DefD) (fs : List SupD) (ex : Frag → Bool) (K : Frag) : Prop := obsM P fa fn fs ex K = valM fn fs
def obsMG (P : Program) (n : Nat) (fa : List Fa) (fn : List DefD) (fs : List SupD) (ex : Frag → Bool) (g : Addr → Option Obj) : AlM := obsM P fa fn fs ex (frM g n)
def hookM (P : Program) (n : Nat) (fa : List Fa) (fn : List DefD) (fs : List SupD) (ex : Frag → Bool) : PySem.W.Hook where
  α := AlM
  obs := fun s => obsMG P n fa fn fs ex s.heap.get?
  val := fun _ => valM fn fs
  says := fun _ h => ∃ K : Frag, K.In h ∧ SaysM P fa fn fs ex K
  of := fun _ _ e => ⟨_, frG_in, e⟩
  keeps := fun _ _ _ ⟨K, hK, c⟩ k => ⟨K, PySem.W.Frag.In.keeps hK k, c⟩
theorem obsMG_eq {P : Program} {n : Nat} {fa : List Fa} {fn : List DefD} {fs : List SupD} {ex : Frag → Bool} {g : Addr → Option Obj} {s : Shared} (h : ∀ a, g a = s.heap.get? a) : obsMG P n fa fn fs ex g = (hookM P n fa fn fs ex).obs s := by
  have e : g = s.heap.get? := funext h
  rw [e] <;> rfl
section
variable {P : Program} {fa : List Fa} {fn : List DefD} {fs : List SupD} {ex : Frag → Bool} {K : Frag}
theorem SaysM.bools (c : SaysM P fa fn fs ex K) : (fa.all fun f => f.ok K) = true ∧ (fn.all fun d => d.ok K) = true ∧ (fs.all fun d => supB P K d.cls) = true ∧ ex K = true := by
  have c1 := ba (show ((fa.all fun f => f.ok K) && ((fn.all fun d => d.ok K) && ((fs.all fun d => supB P K d.cls) && ex K))) = true from congrArg (fun z : AlM => z.1) c)
  have c2 := ba c1.2
  have c3 := ba c2.2
  exact ⟨c1.1, c2.1, c3.1, c3.2⟩
theorem SaysM.fact (c : SaysM P fa fn fs ex K) (i : Nat) {f : Fa} (h : fa[i]? = some f := by rfl) : f.ok K = true := List.all_eq_true.mp c.bools.1 f (List.mem_of_getElem? h)
theorem SaysM.def_ (c : SaysM P fa fn fs ex K) (i : Nat) {d : DefD} (h : fn[i]? = some d := by rfl) : ∃ fd, FunD K d.name d.qual d.params d.body d.scope (d.dvs K) (d.kws K) (fAd K d.at_) fd := by
  have e : fn.map (fun d => fnW K d.at_) = fn.map DefD.val := congrArg (fun z : AlM => z.2.1) c
  have e2 : (fn.map fun d => fnW K d.at_)[i]? = (fn.map DefD.val)[i]? := by rw [e]
  rw [List.getElem?_map, List.getElem?_map, h] at e2
  exact DefD.funD (Option.some.inj e2) (List.all_eq_true.mp c.bools.2.1 d (List.mem_of_getElem? h))
theorem SaysM.sup_ (c : SaysM P fa fn fs ex K) (i : Nat) {d : SupD} (h : fs[i]? = some d := by rfl) : PySem.SupX.SupTxt P K (ga K d.cls) (ma K (ga K d.cls) "__init__") d.qual d.params d.body d.scope := by
  have e : fs.map (fun d => fnS K d.cls) = fs.map SupD.val := congrArg (fun z : AlM => z.2.2) c
  have e2 : (fs.map fun d => fnS K d.cls)[i]? = (fs.map SupD.val)[i]? := by rw [e]
  rw [List.getElem?_map, List.getElem?_map, h] at e2
  exact SupD.txt (Option.some.inj e2) (List.all_eq_true.mp c.bools.2.2.1 d (List.mem_of_getElem? h))
end
end He
namespace L2.My
open PySem PySem.Spec PyProof.Rows L2

structure RT (α : Type) where
  rel : Hp → V → α → Prop
  mono : ∀ {H H' : Hp} {v : V} {x : α}, Ext H H' → rel H v x → rel H' v x
def Al {α : Type} (r : RT α) (H : Hp) : List V → List α → Prop
  | [], [] => True
  | v :: vs, x :: xs => r.rel H v x ∧ Al r H vs xs
  | _, _ => False
section
variable {α β : Type} {r : RT α} {H H' : Hp}
theorem Al.mono (e : Ext H H') : ∀ {vs : List V} {xs : List α}, Al r H vs xs → Al r H' vs xs
  | [], [], _ => trivial
  | _ :: _, _ :: _, h => ⟨r.mono e h.1, Al.mono e h.2⟩
  | [], _ :: _, h => h.elim
  | _ :: _, [], h => h.elim
theorem Al.length : ∀ {vs : List V} {xs : List α}, Al r H vs xs → vs.length = xs.length
  | [], [], _ => rfl
  | _ :: _, _ :: _, h => congrArg (· + 1) (Al.length h.2)
  | [], _ :: _, h => h.elim
  | _ :: _, [], h => h.elim
theorem Al.get : ∀ {vs : List V} {xs : List α} {i : Nat} {v : V}, Al r H vs xs → vs[i]? = some v → ∃ x, xs[i]? = some x ∧ r.rel H v x
  | [], [], i, v, _, e => by simp at e
  | v :: _, x :: _, 0, w, h, e => by
    simp at e; subst e; exact ⟨x, rfl, h.1⟩
  | _ :: vs, _ :: xs, i + 1, w, h, e => by
    obtain ⟨x, e1, e2⟩ := Al.get (i := i) h.2 (by simpa using e)
    exact ⟨x, by simpa using e1, e2⟩
  | [], _ :: _, _, _, h, _ => h.elim
  | _ :: _, [], _, _, h, _ => h.elim
theorem Al.get' : ∀ {vs : List V} {xs : List α} {i : Nat} {x : α}, Al r H vs xs → xs[i]? = some x → ∃ v, vs[i]? = some v ∧ r.rel H v x
  | [], [], i, v, _, e => by simp at e
  | v :: _, x :: _, 0, w, h, e => by
    simp at e; subst e; exact ⟨v, rfl, h.1⟩
  | _ :: vs, _ :: xs, i + 1, w, h, e => by
    obtain ⟨x, e1, e2⟩ := Al.get' (i := i) h.2 (by simpa using e)
    exact ⟨x, by simpa using e1, e2⟩
  | [], _ :: _, _, _, h, _ => h.elim
  | _ :: _, [], _, _, h, _ => h.elim
theorem Al.nil : Al r H [] [] := trivial
theorem Al.cons {v : V} {vs : List V} {x : α} {xs : List α} (h : r.rel H v x) (t : Al r H vs xs) : Al r H (v :: vs) (x :: xs) := ⟨h, t⟩
theorem Al.app : ∀ {vs ws : List V} {xs ys : List α}, Al r H vs xs → Al r H ws ys → Al r H (vs ++ ws) (xs ++ ys)
  | [], _, [], _, _, h => h
  | _ :: _, _, _ :: _, _, h, h' => ⟨h.1, Al.app h.2 h'⟩
  | [], _, _ :: _, _, h, _ => h.elim
  | _ :: _, _, [], _, h, _ => h.elim
theorem Al.snoc {vs : List V} {xs : List α} {v : V} {x : α} (h : Al r H vs xs) (hx : r.rel H v x) : Al r H (vs ++ [v]) (xs ++ [x]) := h.app (Al.cons hx Al.nil)
theorem Al.set : ∀ {vs : List V} {xs : List α} {i : Nat} {v : V} {x : α}, Al r H vs xs → r.rel H v x → Al r H (vs.set i v) (xs.set i x)
  | [], [], _, _, _, _, _ => trivial
  | _ :: _, _ :: _, 0, _, _, h, hx => ⟨hx, h.2⟩
  | _ :: _, _ :: _, i + 1, _, _, h, hx => ⟨h.1, Al.set (i := i) h.2 hx⟩
  | [], _ :: _, _, _, _, h, _ => h.elim
  | _ :: _, [], _, _, _, h, _ => h.elim
theorem Al.take : ∀ (n : Nat) {vs : List V} {xs : List α}, Al r H vs xs → Al r H (vs.take n) (xs.take n)
  | 0, _, _, _ => by simp [Al]
  | _ + 1, [], [], _ => trivial
  | n + 1, _ :: _, _ :: _, h => ⟨h.1, Al.take n h.2⟩
  | _ + 1, [], _ :: _, h => h.elim
  | _ + 1, _ :: _, [], h => h.elim
theorem Al.drop : ∀ (n : Nat) {vs : List V} {xs : List α}, Al r H vs xs → Al r H (vs.drop n) (xs.drop n)
  | 0, _, _, h => h
  | _ + 1, [], [], _ => trivial
  | n + 1, _ :: _, _ :: _, h => Al.drop n h.2
  | _ + 1, [], _ :: _, h => h.elim
  | _ + 1, _ :: _, [], h => h.elim
theorem Al.rep {v : V} {x : α} (h : r.rel H v x) : ∀ n : Nat, Al r H (List.replicate n v) (List.replicate n x)
  | 0 => trivial
  | n + 1 => ⟨h, Al.rep h n⟩
theorem Al.map {r' : RT β} {f : α → β} (h : ∀ v x, r.rel H v x → r'.rel H v (f x)) : ∀ {vs : List V} {xs : List α}, Al r H vs xs → Al r' H vs (xs.map f)
  | [], [], _ => trivial
  | _ :: _, _ :: _, a => ⟨h _ _ a.1, Al.map h a.2⟩
  | [], _ :: _, a => a.elim
  | _ :: _, [], a => a.elim
end
def tInt : RT Int := ⟨fun _ v n => v = .int n, fun _ h => h⟩
def tBool : RT Bool := ⟨fun _ v b => v = .bl b, fun _ h => h⟩
def tStr : RT Str := ⟨fun _ v x => v = .str x, fun _ h => h⟩
def tNon : RT Unit := ⟨fun _ v _ => v = .non, fun _ h => h⟩
def tList {α : Type} (r : RT α) : RT (List α) := ⟨fun H v xs => ∃ a vs, v = .ref a ∧ H a = some (.lst vs) ∧ Al r H vs xs, fun e h => by
  obtain ⟨a, vs, h1, h2, h3⟩ := h
  exact ⟨a, vs, h1, e _ _ h2, h3.mono e⟩⟩
def tTup {α : Type} (r : RT α) : RT (List α) := ⟨fun H v xs => ∃ a vs, v = .ref a ∧ H a = some (.tup vs) ∧ Al r H vs xs, fun e h => by
  obtain ⟨a, vs, h1, h2, h3⟩ := h
  exact ⟨a, vs, h1, e _ _ h2, h3.mono e⟩⟩
def tPair {α β : Type} (r : RT α) (r' : RT β) : RT (α × β) := ⟨fun H v x => ∃ a w w', v = .ref a ∧ H a = some (.tup [w, w']) ∧ r.rel H w x.1 ∧ r'.rel H w' x.2, fun e h => by
  obtain ⟨a, w, w', h1, h2, h3, h4⟩ := h
  exact ⟨a, w, w', h1, e _ _ h2, r.mono e h3, r'.mono e h4⟩⟩
def tOpt {α : Type} (r : RT α) : RT (Option α) := ⟨fun H v x => match x with | none => v = .non | some y => r.rel H v y, fun {H H' v x} e h => by
  cases x with
  | none => exact h
  | some y => exact r.mono e h⟩

structure Nx (M : List Addr) (F H F' H' : Hp) : Prop where
  ff : Ext F F'
  fh : Ext F' H'
  keep : ∀ b o, b ∉ M → H b = some o → H' b = some o
  out : ∀ b, F b = none → H b ≠ none → F' b = none
  dom : ∀ b, H b ≠ none → H' b ≠ none
section
variable {M M' : List Addr} {F F1 F2 H H1 H2 : Hp} {p : Addr} {o : HO}
theorem Nx.refl (e : Ext F H) : Nx M F H F H := ⟨Ext.rfl', e, fun _ _ _ h => h, fun _ h _ => h, fun _ h => h⟩
theorem Nx.trans (a : Nx M F H F1 H1) (b : Nx M F1 H1 F2 H2) : Nx M F H F2 H2 :=
  ⟨a.ff.trans b.ff, b.fh, fun c o hc h => b.keep c o hc (a.keep c o hc h), fun c h1 h2 => b.out c (a.out c h1 h2) (a.dom c h2), fun c h => b.dom c (a.dom c h)⟩
theorem Nx.weak (a : Nx M F H F1 H1) (h : ∀ b ∈ M, b ∈ M') : Nx M' F H F1 H1 := ⟨a.ff, a.fh, fun c o hc => a.keep c o fun z => hc (h c z), a.out, a.dom⟩
theorem Nx.nil (a : Nx [] F H F1 H1) : Nx M F H F1 H1 := a.weak fun _ z => by cases z
theorem Nx.new (e : Ext F H) (h : H p = none) : Nx M F H (upd F p o) (upd H p o) := by
  have hF : F p = none := by
    cases q : F p with
    | none => rfl
    | some u => rw [e _ _ q] at h; cases h
  refine ⟨Ext.upd hF, fun a u q => ?_, fun b u _ q => by rw [upd_ne (ne_of_none q h)]; exact q, fun b h1 h2 => ?_, fun b hb => ?_⟩
  · by_cases ha : a = p
    · subst ha; rw [upd_same] at q ⊢; exact q
    · rw [upd_ne ha] at q ⊢; exact e _ _ q
  · have : b ≠ p := fun z => h2 (by rw [z]; exact h)
    rw [upd_ne this]; exact h1
  · have : b ≠ p := fun z => hb (by rw [z]; exact h)
    rw [upd_ne this]; exact hb
theorem Nx.open_ (e : Ext F H) (h : H p = none) : Nx M F H F (upd H p o) :=
  ⟨Ext.rfl', e.trans (Ext.upd h), fun b u _ q => by rw [upd_ne (ne_of_none q h)]; exact q, fun _ h _ => h, fun b hb => by
    have : b ≠ p := fun z => hb (by rw [z]; exact h)
    rw [upd_ne this]; exact hb⟩
theorem ext_mut (e : Ext F H) (h : F p = none) : Ext F (upd H p o) := fun a u q => by
  rw [upd_ne (ne_of_none q h)]; exact e _ _ q
theorem Nx.mut (a : Nx M F H F1 H1) (hp : p ∈ M ∨ H p = none) (hF : F1 p = none) : Nx M F H F1 (upd H1 p o) :=
  ⟨a.ff, ext_mut a.fh hF, fun b u hb q => by
    have : b ≠ p := fun z => by
      subst z
      rcases hp with hp | hp
      · exact hb hp
      · rw [hp] at q; cases q
    rw [upd_ne this]; exact a.keep b u hb q, a.out, fun b hb => by
    by_cases z : b = p
    · subst z; rw [upd_same]; simp
    · rw [upd_ne z]; exact a.dom b hb⟩
theorem Nx.close (a : Nx M F H F1 H1) (hp : H p = none) (ho : H1 p = some o) (hF : F1 p = none) : Nx M F H (upd F1 p o) H1 :=
  ⟨a.ff.trans (Ext.upd hF), fun b u q => by
    by_cases z : b = p
    · subst z; rw [upd_same] at q; cases q; exact ho
    · rw [upd_ne z] at q; exact a.fh _ _ q, a.keep, fun b h1 h2 => by
    have : b ≠ p := fun z => h2 (by rw [z]; exact hp)
    rw [upd_ne this]; exact a.out b h1 h2, a.dom⟩
theorem Nx.grow (e : Ext F H) (h : Ext H H1) : Nx M F H F H1 := ⟨Ext.rfl', e.trans h, fun b o _ q => h b o q, fun _ q _ => q, fun b hb => by
  cases q : H b with
  | none => exact absurd q hb
  | some u => rw [h _ _ q]; simp⟩
theorem Nx.free (a : Nx M F H F1 H1) (h : H1 p = none) : H p = none := by
  cases q : H p with
  | none => rfl
  | some u => exact absurd h (a.dom p (by rw [q]; simp))
theorem Nx.ext (a : Nx [] F H F1 H1) : Ext H H1 := fun b o h => a.keep b o (by simp) h
theorem ext_none (e : Ext F H) (h : H p = none) : F p = none := by
  cases q : F p with
  | none => rfl
  | some u => rw [e _ _ q] at h; cases h
end
end L2.My
namespace L2.My
open PySem PySem.Spec PyProof.Rows L2

def rEqBB (D : Eqb) : R2 := fun x y H Q => ∃ b, D x y H b ∧ ∀ H', Ext H H' → Q (.bl b) H'
def rNeBB (D : Eqb) : R2 := fun x y H Q => ∃ b, D x y H b ∧ ∀ H', Ext H H' → Q (.bl (!b)) H'
theorem op_eqBB {X : Cx} {n : Nat} {D : Eqb} (h : RcB X n false D) (hr : Room n X.A) : OpR X (compareOp .Eq) (rEqBB D) := op_eqB h hr
theorem op_neBB {X : Cx} {n : Nat} {D : Eqb} (h : RcB X n true D) (hr : Room n X.A) : OpR X (compareOp .NotEq) (rNeBB D) := op_neB h hr
structure Fnc (P : Program) (w : World) (K : PySem.W.Frag) (mg : Str → Option Value) (base : Heap) (k : Nat) (x : Str) (ps : List Str) (sp : Sp) : Prop where
  ex : ∃ f fd, mg x = some (.ref f) ∧ PySem.W.keepIn K (.ref f) = true ∧ Binds K fd ps [] ∧ FnOk P w K mg base (L2.CX P w) k f fd ps sp
structure Mtc (P : Program) (w : World) (K : PySem.W.Frag) (mg : Str → Option Value) (base : Heap) (k : Nat) (C : Addr) (m : Str) (ps : List Str) (sp : Sp) : Prop where
  cls : Cls K C
  ex : ∃ f fd, Meth K C m f ∧ Binds K fd ps [] ∧ FnOk P w K mg base (L2.CX P w) k f fd ps sp
structure Mkc (P : Program) (w : World) (K : PySem.W.Frag) (mg : Str → Option Value) (base : Heap) (k : Nat) (C : Addr) (x : Str) (ps : List Str) (dvs : List V) (sp : Sp) : Prop where
  gl : mg x = some (.ref C)
  ex : ∃ f fd ds, Mk K C f ∧ Vals dvs ds ∧ Binds K fd ps ds ∧ FnOk P w K mg base (L2.CX P w) k f fd ps sp
section
variable {X : Cx} {k : Nat} {C : Addr} {x m : Str} {ps : List Str} {dvs : List V} {sp : Sp} {E : XK} {e o : Expr} {es : List Expr} {ta to : TE} {t : TA} {p pos apos : Pos}
theorem pe_fn (G : Fnc X.prog X.w X.K X.mg X.base k x ps sp) (hr : Room k X.A) (hx : Passes (L2.CX X.prog X.w) X E) (ha : PA X (e :: es) t) (hg : Gl X x := by rfl) (hd : (x == ("__debug__" : Str)) = false := by decide)
    (he : starEach (e :: es) X.env = (false, eval e X.env) :: starEach es X.env := by rfl) (hpl : (backTo pos (starEach es X.env)).any (·.1) = false := by rfl) :
    PE X (.Call (.Name x p) (e :: es) [] pos) (tCall sp [] E t) := by
  obtain ⟨f, fd, h1, h2, h3, h4⟩ := G.ex
  exact pe_call h4 hr hg h1 h2 h3 .nil hx ha hd he hpl
theorem pe_fn0 (G : Fnc X.prog X.w X.K X.mg X.base k x ps sp) (hr : Room k X.A) (hx : Passes (L2.CX X.prog X.w) X E) (hg : Gl X x := by rfl) (hd : (x == ("__debug__" : Str)) = false := by decide) :
    PE X (.Call (.Name x p) [] [] pos) (tCall sp [] E tNil) := by
  obtain ⟨f, fd, h1, h2, h3, h4⟩ := G.ex
  exact pe_call0 h4 hr hg h1 h2 h3 .nil hx hd
theorem pe_mk (G : Mkc X.prog X.w X.K X.mg X.base k C x ps dvs sp) (hr : Room (k + 1) X.A) (hx : Passes (L2.CX X.prog X.w) X E) (ha : PA X (e :: es) t) (hg : Gl X x := by rfl) (hd : (x == ("__debug__" : Str)) = false := by decide)
    (he : starEach (e :: es) X.env = (false, eval e X.env) :: starEach es X.env := by rfl) (hpl : (backTo pos (starEach es X.env)).any (·.1) = false := by rfl) :
    PE X (.Call (.Name x p) (e :: es) [] pos) (tMake C sp dvs E t) := by
  obtain ⟨f, fd, ds, h1, h2, h3, h4⟩ := G.ex
  exact pe_make h1 h4 hr hg G.gl h3 h2 hx ha hd he hpl
theorem pe_mkD {n : Nat} {ks : List Str} {gV : List V → List V → List V} {g : List Value → List Value → List Value} {kws : List Keyword} {tk : TA} : True := trivial
theorem pe_mt {pl : Sem Bool} (G : Mtc X.prog X.w X.K X.mg X.base k C m ps sp) (he : PE X o to) (hr : Room k X.A) (hx : Passes (L2.CX X.prog X.w) X E) (ha : PA X (e :: es) t)
    (hst : starEach (e :: es) X.env = (false, eval e X.env) :: starEach es X.env := by rfl) (hpl : (backTo pos (starEach es X.env)).any (·.1) = false := by rfl)
    (ht : eval (.Call (.Attribute o m apos) (e :: es) [] pos) X.env = (do
      let ov ← eval o X.env
      standAt apos.atName
      let (f, first) ← holding [ov] (getMethod ov m pl)
      callWith pos f first (backTo pos (starEach (e :: es) X.env)) (backToKw pos (keywordEach [] X.env))) := by rfl) :
    PE X (.Call (.Attribute o m apos) (e :: es) [] pos) (tMeth C m sp [] E to t) := by
  obtain ⟨f, fd, h1, h2, h3⟩ := G.ex
  exact pe_meth he G.cls h1 h3 hr h2 .nil hx ha hst hpl ht
theorem pe_mt0 {pl : Sem Bool} (G : Mtc X.prog X.w X.K X.mg X.base k C m ps sp) (he : PE X o to) (hr : Room k X.A) (hx : Passes (L2.CX X.prog X.w) X E)
    (ht : eval (.Call (.Attribute o m apos) [] [] pos) X.env = (do
      let ov ← eval o X.env
      standAt apos.atName
      let (f, first) ← holding [ov] (getMethod ov m pl)
      callWith pos f first (backTo pos (starEach [] X.env)) (backToKw pos (keywordEach [] X.env))) := by rfl) :
    PE X (.Call (.Attribute o m apos) [] [] pos) (tMeth C m sp [] E to tNil) := by
  obtain ⟨f, fd, h1, h2, h3⟩ := G.ex
  exact pe_meth0 he G.cls h1 h3 hr h2 .nil hx ht
theorem op_mtc {op : Operator} (G : Mtc X.prog X.w X.K X.mg X.base k C m ps sp) (hr : Room k X.A) (hc : PySem.W.selfFirst X.K C = true) (hx : Passes (L2.CX X.prog X.w) X E) (e : PySem.dunder op.info.2 = m := by decide +kernel) : OpR X (binaryOp op) (rOwn C sp E) := by
  obtain ⟨f, fd, h1, h2, h3⟩ := G.ex
  exact op_own h3 hr (by rw [e]; exact h1.at_) h1.fn hc h2 hx
theorem eq_mtc {R : Addr → Addr → Hp → Bool → Prop} (G : Mtc X.prog X.w X.K X.mg X.base k C "__eq__" ps (spEqb R)) : RcB X k false (DInsb C R) := by
  obtain ⟨f, fd, h1, h2, h3⟩ := G.ex
  exact rcB_ins (E := E0) h3 h1.at_ h1.fn h2 passL
theorem ne_mtc {R : Addr → Addr → Hp → Bool → Prop} (G : Mtc X.prog X.w X.K X.mg X.base k C "__eq__" ps (spEqb R)) (hn : NeC X.K C) : RcB X (k + 1) true (DInsb C R) := by
  obtain ⟨f, fd, h1, h2, h3⟩ := G.ex
  exact rcN_ins (E := E0) h3 hn h1.at_ h1.fn h2 passL
theorem str_mtc (G : Mtc X.prog X.w X.K X.mg X.base k C "__str__" ps sp) (hr : Room (k + 2) X.A) (hx : Passes (L2.CX X.prog X.w) X E) : CallR X (.type "str") (rStrOwn C sp E) := by
  obtain ⟨f, fd, h1, h2, h3⟩ := G.ex
  exact call_strOwn h3 hr h1.at_ h1.fn h2 hx
end
end L2.My
namespace L2.My
open PySem PySem.Spec PyProof.Rows L2
section
variable {σ : L2.St} {H : Hp} {Q : VK} {QB : Bool → Hp → Prop} {QA : List V → Hp → Prop} {D : Ends} {te ta tb tc : TE} {tt tu : TT} {tr : TA} {ts tw : TS} {g : TG} {v : V}
abbrev MkQ (C : Addr) (sp : Sp) (dvs : List V) (E : XK) (vs : List V) (H : Hp) (Q : VK) : Prop := ∀ x dx, H x = none → H dx = none → dx ≠ x →
  sp (.ref x :: (vs ++ dvs)) (upd (upd H dx (.own x)) x (.ins C dx [])) (fun v H2 => v = .non ∧ Q (.ref x) H2) E
abbrev TupQ (xs : List V) (H : Hp) (Q : VK) : Prop := xs.length ≤ sizeLine ∧ ∀ p, H p = none → Q (.ref p) (upd H p (.tup xs))
abbrev LstQ (xs : List V) (H : Hp) (Q : VK) : Prop := xs.length ≤ sizeLine ∧ ∀ p, H p = none → Q (.ref p) (upd H p (.lst xs))
theorem g_seq (h : ts { D with nx := tw D } σ H) : tSeq ts tw D σ H := h
theorem g_start {σ' : L2.St} (e : σ = σ') (h : ts D σ' H) : ts D σ H := by rw [e]; exact h
theorem g_asg (h : te σ H fun x H1 => g x σ H1 D.nx) : tAsg te g D σ H := h
theorem g_name {i : Nat} {QG : L2.St → Hp → Prop} (h : QG (σ.set i (some v)) H) : gName i v σ H QG := h
theorem g_ret (h : te σ H D.rt) : tRet te D σ H := h
theorem g_drop (h : te σ H fun _ H1 => D.nx σ H1) : tDrop te D σ H := h
theorem g_ifS (h : tt σ H fun b H1 => if b = true then ts D σ H1 else tw D σ H1) : tIfS tt ts tw D σ H := h
theorem g_next (h : D.nx σ H) : tNext D σ H := h
theorem g_var {i : Nat} (e : σ[i]? = some (some v)) (h : Q v H) : tVar i σ H Q := ⟨v, e, h⟩
theorem g_c (h : Q v H) : tC v σ H Q := h
theorem g_cons (h : ta σ H fun x H1 => tr σ H1 fun xs H2 => QA (x :: xs) H2) : tCons ta tr σ H QA := h
theorem g_nil (h : QA [] H) : tNil σ H QA := h
theorem g_op {r : R2} (h : ta σ H fun x H1 => tb σ H1 fun y H2 => r x y H2 Q) : tOp r ta tb σ H Q := h
theorem g_un {r : V → Hp → VK → Prop} (h : ta σ H fun x H1 => r x H1 Q) : tUn r ta σ H Q := h
theorem g_rI0 {f : Int → Int → V} {i j : Int} (h : Q (f i j) H) : rI0 f (.int i) (.int j) H Q := ⟨i, j, rfl, rfl, h⟩
theorem g_rI {C : Int → Int → Prop} {f : Int → Int → V} {i j : Int} (c : C i j) (h : Q (f i j) H) : rI C f (.int i) (.int j) H Q := ⟨i, j, rfl, rfl, c, h⟩
theorem g_test (h : te σ H fun x H1 => ∃ k, x = .bl k ∧ QB k H1) : tTest te σ H QB := h
theorem g_B (h : te σ H fun x H1 => ∃ k, x = .bl k ∧ QB k H1) : tB te σ H QB := h
theorem g_bl {b : Bool} {QB : Bool → Prop} (h : QB b) : ∃ k, V.bl b = .bl k ∧ QB k := ⟨b, rfl, h⟩
theorem g_and (h : tt σ H fun c H1 => if c = true then tu σ H1 QB else QB false H1) : tAnd tt tu σ H QB := h
theorem g_or (h : tt σ H fun c H1 => if c = true then QB true H1 else tu σ H1 QB) : tOr tt tu σ H QB := h
theorem g_not (h : tt σ H fun c H1 => QB (!c) H1) : tNot tt σ H QB := h
theorem g_andV (h : ta σ H fun x H1 => ∃ c, x = .bl c ∧ if c = true then tb σ H1 Q else Q (.bl false) H1) : tAndV ta tb σ H Q := h
theorem g_orV (h : ta σ H fun x H1 => ∃ c, x = .bl c ∧ if c = true then Q (.bl true) H1 else tb σ H1 Q) : tOrV ta tb σ H Q := h
theorem g_notV (h : ta σ H fun x H1 => ∃ c, x = .bl c ∧ Q (.bl (!c)) H1) : tNotV ta σ H Q := h
theorem g_ifE (h : tt σ H fun c H1 => if c = true then ta σ H1 Q else tb σ H1 Q) : tIf tt ta tb σ H Q := h
theorem g_CB {r : List V → Hp → VK → Prop} (h : tr σ H fun vs H1 => r vs H1 Q) : tCB r tr σ H Q := h
theorem g_call {sp : Sp} {dvs : List V} {E : XK} (h : tr σ H fun vs H1 => sp (vs ++ dvs) H1 Q E) : tCall sp dvs E tr σ H Q := h
theorem g_make {C : Addr} {sp : Sp} {dvs : List V} {E : XK} (h : tr σ H fun vs H1 => MkQ C sp dvs E vs H1 Q) : tMake C sp dvs E tr σ H Q := h
theorem g_ixL {K : PySem.W.Frag} {p : Addr} {xs : List V} {i : Int} (h : H p = some (.lst xs)) (e : atI xs i = some v) (k : Q v H) : rIxL K (.ref p) (.int i) H Q := ⟨p, xs, i, v, rfl, rfl, SqL.of h, e, k⟩
theorem g_ixT {K : PySem.W.Frag} {p : Addr} {xs : List V} {i : Int} (h : H p = some (.tup xs)) (e : atI xs i = some v) (k : Q v H) : rIxT K (.ref p) (.int i) H Q := ⟨p, xs, i, v, rfl, rfl, SqT.of h, e, k⟩
theorem g_sub {to ti : TE} {t : TSet} {QG : L2.St → Hp → Prop} (h : to σ H fun o H1 => ti σ H1 fun i H2 => t o i v H2 fun H3 => QG σ H3) : gSub to ti t v σ H QG := h
theorem g_setL {p : Addr} {xs : List V} {i : Int} {j : Nat} {QH : Hp → Prop} (h : H p = some (.lst xs)) (e : ixN xs.length i = some j) (k : QH (upd H p (.lst (xs.set j v)))) : rSetL (.ref p) (.int i) v H QH := ⟨p, xs, i, j, rfl, rfl, h, e, k⟩
theorem g_int {i : Int} (h : Q (.int i) H) : (fun (xs : List V) (H : Hp) (Q : VK) => (∃ i, xs = [.int i] ∧ Q (.int i) H) ∨ ∃ k, xs = [.bl k] ∧ Q (.int (if k then 1 else 0)) H) [.int i] H Q := .inl ⟨i, rfl, h⟩
theorem g_intI {i : Int} {A : Int → Prop} {B : Prop} (h : A i) : (∃ j, [V.int i] = [V.int j] ∧ A j) ∨ B := .inl ⟨i, rfl, h⟩
theorem g_one {i : Int} {P : Int → Prop} (h : P i) : ∃ j, [V.int i] = [V.int j] ∧ P j := ⟨i, rfl, h⟩
theorem g_oneS {i : Str} {P : Str → Prop} (h : P i) : ∃ j, [V.str i] = [V.str j] ∧ P j := ⟨i, rfl, h⟩
theorem g_while (W : Nat → L2.St → Hp → Prop) (m0 : Nat) (h0 : W m0 σ H)
    (hs : ∀ m σ' H', W m σ' H' → tt σ' H' fun b H1 => if b = true then ∃ N : L2.St → Hp → Prop, (∀ σ2 H2, N σ2 H2 → ∃ m', m' < m ∧ W m' σ2 H2) ∧ ts { D with nx := N, ct := N, bk := D.nx } σ' H1 else D.nx σ' H1) : tWhile tt ts D σ H := ⟨W, ⟨m0, h0⟩, hs⟩
theorem g_turn {W : Nat → L2.St → Hp → Prop} {m : Nat} (h : ts { D with nx := fun σ2 H2 => ∃ m', m' < m ∧ W m' σ2 H2, ct := fun σ2 H2 => ∃ m', m' < m ∧ W m' σ2 H2, bk := D.nx } σ H) :
    ∃ N : L2.St → Hp → Prop, (∀ σ2 H2, N σ2 H2 → ∃ m', m' < m ∧ W m' σ2 H2) ∧ ts { D with nx := N, ct := N, bk := D.nx } σ H := ⟨_, fun _ _ z => z, h⟩
theorem g_truI {K : PySem.W.Frag} {i : Int} {P : Bool → Prop} (h : P (i != 0)) : ∃ k, TruV K (.int i) H k ∧ P k := ⟨_, rfl, h⟩
theorem g_par {i j : Nat} (h : tr σ H fun vs H1 => ∃ v w, vs = [v, w] ∧ D.nx ((σ.set i (some v)).set j (some w)) H1) : tPar i j tr D σ H := h
theorem g_two {x y : V} {P : V → V → Prop} (h : P x y) : ∃ v w, [x, y] = [v, w] ∧ P v w := ⟨x, y, rfl, h⟩
theorem g_fldS {K : PySem.W.Frag} {f : Str} (h : tb σ H fun y H1 => ta σ H1 fun x H2 => ∃ a C dx fs, x = .ref a ∧ H2 a = some (.ins C dx fs) ∧ Cls K C ∧ NoAttr K C f ∧ fs.length < 1000 ∧ D.nx σ (upd H2 a (.ins C dx (putF f y fs)))) : sFld K ta tb f D σ H := h
theorem g_dec {p : Prop} [Decidable p] {A B : Prop} (h1 : p → A) (h2 : ¬p → B) : if decide p = true then A else B := by
  by_cases c : p
  · rw [if_pos (decide_eq_true c)]; exact h1 c
  · rw [if_neg (by rw [decide_eq_false c]; exact Bool.false_ne_true)]; exact h2 c
theorem g_ndec {p : Prop} [Decidable p] {A B : Prop} (h1 : ¬p → A) (h2 : p → B) : if (!decide p) = true then A else B := by
  by_cases c : p
  · rw [decide_eq_true c]; exact h2 c
  · rw [decide_eq_false c]; exact h1 c
theorem g_yes {p : Prop} [Decidable p] {A B : Prop} (c : p) (h1 : A) : if decide p = true then A else B := by rw [if_pos (decide_eq_true c)]; exact h1
theorem g_no {p : Prop} [Decidable p] {A B : Prop} (c : ¬p) (h1 : B) : if decide p = true then A else B := by rw [if_neg (by rw [decide_eq_false c]; exact Bool.false_ne_true)]; exact h1
theorem g_if {b : Bool} {A B : Prop} (h1 : b = true → A) (h2 : b = false → B) : if b = true then A else B := by
  cases b with
  | true => exact h1 rfl
  | false => exact h2 rfl
theorem g_ift {A B : Prop} (h : A) : if true = true then A else B := h
theorem g_iff {A B : Prop} (h : B) : if false = true then A else B := h
end
end L2.My
namespace L2.My
open PySem PySem.Spec PyProof.Rows L2
section
variable {H : Hp} {Q : VK} {K K' : PySem.W.Frag}
theorem g_eqI {i j : Int} (h : Q (.bl (decide (i = j))) H) : rEq (.int i) (.int j) H Q := ⟨rfl, by
  have : decide (V.int i = V.int j) = decide (i = j) := decide_eq_decide.mpr ⟨fun z => by cases z; rfl, fun z => by rw [z]⟩
  rw [this]; exact h⟩
theorem g_neI {i j : Int} (h : Q (.bl (!decide (i = j))) H) : rNe (.int i) (.int j) H Q := ⟨rfl, by
  have : decide (V.int i = V.int j) = decide (i = j) := decide_eq_decide.mpr ⟨fun z => by cases z; rfl, fun z => by rw [z]⟩
  rw [this]; exact h⟩
theorem g_eqS {i j : Str} (h : Q (.bl (decide (i = j))) H) : rEq (.str i) (.str j) H Q := ⟨rfl, by
  have : decide (V.str i = V.str j) = decide (i = j) := decide_eq_decide.mpr ⟨fun z => by cases z; rfl, fun z => by rw [z]⟩
  rw [this]; exact h⟩
theorem g_neS {i j : Str} (h : Q (.bl (!decide (i = j))) H) : rNe (.str i) (.str j) H Q := ⟨rfl, by
  have : decide (V.str i = V.str j) = decide (i = j) := decide_eq_decide.mpr ⟨fun z => by cases z; rfl, fun z => by rw [z]⟩
  rw [this]; exact h⟩
theorem g_eqB {i j : Bool} (h : Q (.bl (decide (i = j))) H) : rEq (.bl i) (.bl j) H Q := ⟨rfl, by
  have : decide (V.bl i = V.bl j) = decide (i = j) := decide_eq_decide.mpr ⟨fun z => by cases z; rfl, fun z => by rw [z]⟩
  rw [this]; exact h⟩
theorem g_neB {i j : Bool} (h : Q (.bl (!decide (i = j))) H) : rNe (.bl i) (.bl j) H Q := ⟨rfl, by
  have : decide (V.bl i = V.bl j) = decide (i = j) := decide_eq_decide.mpr ⟨fun z => by cases z; rfl, fun z => by rw [z]⟩
  rw [this]; exact h⟩
theorem g_eqN (h : Q (.bl true) H) : rEq .non .non H Q := ⟨rfl, h⟩
theorem g_isN (h : Q (.bl true) H) : rIsN (V.non) .non H Q := ⟨rfl, by
  have : decide (V.non = V.non) = true := by simp
  rw [this]; exact h⟩
theorem g_noN (h : Q (.bl false) H) : rNotN (V.non) .non H Q := ⟨rfl, by
  have : decide (V.non = V.non) = true := by simp
  rw [this]; exact h⟩
theorem g_isI {i : Int} (h : Q (.bl false) H) : rIsN (V.int i) .non H Q := ⟨rfl, by
  have : decide (V.int i = V.non) = false := by simp
  rw [this]; exact h⟩
theorem g_noI {i : Int} (h : Q (.bl true) H) : rNotN (V.int i) .non H Q := ⟨rfl, by
  have : decide (V.int i = V.non) = false := by simp
  rw [this]; exact h⟩
theorem g_isB {i : Bool} (h : Q (.bl false) H) : rIsN (V.bl i) .non H Q := ⟨rfl, by
  have : decide (V.bl i = V.non) = false := by simp
  rw [this]; exact h⟩
theorem g_noB {i : Bool} (h : Q (.bl true) H) : rNotN (V.bl i) .non H Q := ⟨rfl, by
  have : decide (V.bl i = V.non) = false := by simp
  rw [this]; exact h⟩
theorem g_isS {i : Str} (h : Q (.bl false) H) : rIsN (V.str i) .non H Q := ⟨rfl, by
  have : decide (V.str i = V.non) = false := by simp
  rw [this]; exact h⟩
theorem g_noS {i : Str} (h : Q (.bl true) H) : rNotN (V.str i) .non H Q := ⟨rfl, by
  have : decide (V.str i = V.non) = false := by simp
  rw [this]; exact h⟩
theorem g_isR {i : Addr} (h : Q (.bl false) H) : rIsN (V.ref i) .non H Q := ⟨rfl, by
  have : decide (V.ref i = V.non) = false := by simp
  rw [this]; exact h⟩
theorem g_noR {i : Addr} (h : Q (.bl true) H) : rNotN (V.ref i) .non H Q := ⟨rfl, by
  have : decide (V.ref i = V.non) = false := by simp
  rw [this]; exact h⟩
section
variable {A B : Prop}
theorem g_yesR {α : Type} {a : α} [Decidable (a = a)] (h : A) : if decide (a = a) = true then A else B := by rw [if_pos (decide_eq_true rfl)]; exact h
theorem g_nnoR {α : Type} {a : α} [Decidable (a = a)] (h : B) : if (!decide (a = a)) = true then A else B := by
  rw [decide_eq_true rfl]; exact h
theorem g_nF (h : A) : if (!false) = true then A else B := h
theorem g_nT (h : B) : if (!true) = true then A else B := h
theorem g_noTF [Decidable (true = false)] (h : B) : if decide (true = false) = true then A else B := by rw [decide_eq_false (fun z => nomatch z)]; exact h
theorem g_noFT [Decidable (false = true)] (h : B) : if decide (false = true) = true then A else B := by rw [decide_eq_false (fun z => nomatch z)]; exact h
theorem g_nyTF [Decidable (true = false)] (h : A) : if (!decide (true = false)) = true then A else B := by rw [decide_eq_false (fun z => nomatch z)]; exact h
theorem g_nyFT [Decidable (false = true)] (h : A) : if (!decide (false = true)) = true then A else B := by rw [decide_eq_false (fun z => nomatch z)]; exact h
end
theorem g_isi {x c : V} {t u : Value} {b : Bool} (k : ClsV c u) (ty : TyX K H x t) (e : PySem.W.kitOne K t u = some b) (h : Q (.bl b) H) : rIsi K [x, c] H Q := ⟨x, c, t, u, b, rfl, k, ty, e, h⟩
theorem kit_self {C : Addr} : PySem.W.kitOne K (.ref C) (.ref C) = some true := by
  unfold PySem.W.kitOne
  rw [if_pos (by first | rfl | simp)]
theorem g_isiOwn {x : Str} {a dx : Addr} {fs : List (Str × V)} (c : He.clsB K x = true) (cl : Cls K (He.ga K x)) (e : H a = some (.ins (He.ga K x) dx fs)) (h : Q (.bl true) H) : rIsi K [.ref a, .ref (He.ga K x)] H Q :=
  g_isi (.own _) (He.clsB_ok c cl e) kit_self h
theorem k_ii : PySem.W.kitOne K (.type "int") (.type "int") = some true := rfl
theorem k_ib : PySem.W.kitOne K (.type "int") (.type "bool") = some false := rfl
theorem k_it : PySem.W.kitOne K (.type "int") (.type "tuple") = some false := rfl
theorem k_il : PySem.W.kitOne K (.type "int") (.type "list") = some false := rfl
theorem k_bi : PySem.W.kitOne K (.type "bool") (.type "int") = some true := rfl
theorem k_bb : PySem.W.kitOne K (.type "bool") (.type "bool") = some true := rfl
theorem k_bt : PySem.W.kitOne K (.type "bool") (.type "tuple") = some false := rfl
theorem k_bL : PySem.W.kitOne K (.type "bool") (.type "list") = some false := rfl
theorem k_st : PySem.W.kitOne K (.type "str") (.type "tuple") = some false := rfl
theorem k_sl : PySem.W.kitOne K (.type "str") (.type "list") = some false := rfl
theorem k_si : PySem.W.kitOne K (.type "str") (.type "int") = some false := rfl
theorem k_sb : PySem.W.kitOne K (.type "str") (.type "bool") = some false := rfl
theorem k_ss : PySem.W.kitOne K (.type "str") (.type "str") = some true := rfl
theorem k_nt : PySem.W.kitOne K (.type "NoneType") (.type "tuple") = some false := rfl
theorem k_nl : PySem.W.kitOne K (.type "NoneType") (.type "list") = some false := rfl
theorem k_tt : PySem.W.kitOne K (.type "tuple") (.type "tuple") = some true := rfl
theorem k_tl : PySem.W.kitOne K (.type "tuple") (.type "list") = some false := rfl
theorem k_lt : PySem.W.kitOne K (.type "list") (.type "tuple") = some false := rfl
theorem k_ll : PySem.W.kitOne K (.type "list") (.type "list") = some true := rfl
end
section
variable {σ : L2.St} {H : Hp} {Q : VK} {QB : Bool → Hp → Prop} {D : Ends} {te ta tb tc : TE} {tr : TA} {tw : TS} {wi : TI} {g : TG} {v : V} {K : PySem.W.Frag}
theorem g_rU {f : Int → V} {i : Int} (h : Q (f i) H) : rU f (.int i) H Q := ⟨i, rfl, h⟩
theorem g_tupT (h : tr σ H fun xs H1 => TupQ xs H1 Q) : L2.tTup tr σ H Q := h
theorem g_lstT (h : tr σ H fun xs H1 => LstQ xs H1 Q) : L2.tLst tr σ H Q := h
theorem g_meth {C : Addr} {m : Str} {sp : Sp} {dvs : List V} {E : XK} (h : ta σ H fun x H1 => ∃ a dx fs, x = .ref a ∧ H1 a = some (.ins C dx fs) ∧ fs.lookup m = none ∧ tr σ H1 fun vs H2 => sp (x :: (vs ++ dvs)) H2 Q E) : tMeth C m sp dvs E ta tr σ H Q := h
theorem g_js {ts : List TE} {acc : Str} {P : Str → Hp → Prop} (h : te σ H fun x H1 => ∃ y : Str, x = .str y ∧ (acc ++ y).length ≤ sizeLine ∧ tJs ts (acc ++ y) σ H1 P) : tJs (te :: ts) acc σ H P := h
theorem g_js0 {acc : Str} {P : Str → Hp → Prop} (h : P acc H) : tJs [] acc σ H P := h
theorem g_fmt (h : te σ H fun x H1 => (∃ y : Str, x = .str y ∧ y.length ≤ sizeLine ∧ Q (.str y) H1) ∨ ∃ i : Int, x = .int i ∧ i.natAbs.log2 < 1920 ∧ Q (.str (toString i)) H1) : tFmt te σ H Q := h
theorem g_forS (h : wi σ H fun J H1 => ∃ W : Nat → Nat → L2.St → Hp → Prop, (∃ m, W 0 m σ H1) ∧ ∀ i m σ H, W i m σ H →
  (J.stop i H ∧ D.nx σ H) ∨ (J.go i H ∧ ∃ N : L2.St → Hp → Prop, (∀ σ' H', N σ' H' → ∃ m', m' < m ∧ W (i + 1) m' σ' H') ∧ ∀ x H', J.yld i H x H' → g x σ H' fun σ2 H2 => tw { D with nx := N, ct := N, bk := D.nx } σ2 H2)) : tFor wi g tw D σ H := h
theorem g_iList {R : It → Hp → Prop} (h : te σ H fun x H1 => ∃ a, x = .ref a ∧ (∃ xs, SqL K H1 a xs) ∧ R (Itl K a) H1) : iList K te σ H R := h
theorem g_iTup {R : It → Hp → Prop} (h : te σ H fun x H1 => ∃ a, x = .ref a ∧ (∃ xs, SqT K H1 a xs) ∧ R (Itt K a) H1) : iTup K te σ H R := h
theorem g_iRng1 {R : It → Hp → Prop} (h : tr σ H fun vs H1 => ∃ j : Int, vs = [.int j] ∧ -(2 ^ 62) ≤ j ∧ j < 2 ^ 62 ∧ R (Itr 0 j.toNat) H1) : iRng1 tr σ H R := h
theorem g_iRng2 {R : It → Hp → Prop} (h : tr σ H fun vs H1 => ∃ i j : Int, vs = [.int i, .int j] ∧ (-(2 ^ 62) ≤ i ∧ i < 2 ^ 62 ∧ -(2 ^ 62) ≤ j ∧ j < 2 ^ 62) ∧ R (Itr i (j - i).toNat) H1) : iRng2 tr σ H R := h
theorem g_cut {ts : TS} (J : L2.St → Hp → Prop) (tail : ∀ σ1 H1, J σ1 H1 → tw D σ1 H1) (h : ∀ N : L2.St → Hp → Prop, (∀ σ1 H1, J σ1 H1 → N σ1 H1) → ts { D with nx := N } σ H) : tSeq ts tw D σ H := h _ tail
theorem g_mulK {i j : Int} {f : Int → Int → V} (hj : -(2 ^ 64) < j ∧ j < 2 ^ 64) (h : Q (f i j) H) : rI CMul f (.int i) (.int j) H Q := ⟨i, j, rfl, rfl, .inr hj, h⟩
theorem g_modK {i j : Int} {f : Int → Int → V} (hj : 0 < j) (h : Q (f i j) H) : rI (fun _ j => 0 < j) f (.int i) (.int j) H Q := ⟨i, j, rfl, rfl, hj, h⟩
theorem g_fdivK {i j : Int} {f : Int → Int → V} (hj : 0 < j ∧ j < 1073741824) (h : Q (f i j) H) : rI CDivW f (.int i) (.int j) H Q := ⟨i, j, rfl, rfl, wide_div (b := 30) hj.1 (by omega) (by decide) (by decide), h⟩
theorem g_len {x : V} {p : Addr} {ys : List V} (e : x = .ref p) (hs : SqL K H p ys ∨ SqT K H p ys) (h : Q (.int ys.length) H) : (fun (xs : List V) (H : Hp) (Q : VK) => ∃ p ys, xs = [.ref p] ∧ (SqL K H p ys ∨ SqT K H p ys) ∧ Q (.int ys.length) H) [x] H Q := ⟨p, ys, by rw [e], hs, h⟩
theorem loop_rng {lo : Int} {n : Nat} (J : Nat → L2.St → Hp → Prop) (h0 : J 0 σ H)
    (hs : ∀ i σ' H', i < n → J i σ' H' → g (.int (lo + (i : Nat))) σ' H' fun σ2 H2 => tw { D with nx := J (i + 1), ct := J (i + 1), bk := D.nx } σ2 H2) (he : ∀ σ' H', J n σ' H' → D.nx σ' H') :
    ∃ W : Nat → Nat → L2.St → Hp → Prop, (∃ m, W 0 m σ H) ∧ ∀ i m σ H, W i m σ H →
      ((Itr lo n).stop i H ∧ D.nx σ H) ∨ ((Itr lo n).go i H ∧ ∃ N : L2.St → Hp → Prop, (∀ σ' H', N σ' H' → ∃ m', m' < m ∧ W (i + 1) m' σ' H') ∧ ∀ x H', (Itr lo n).yld i H x H' → g x σ H' fun σ2 H2 => tw { D with nx := N, ct := N, bk := D.nx } σ2 H2) := by
  refine ⟨fun i m σ H => m = n - i ∧ i ≤ n ∧ J i σ H, ⟨n, by omega, Nat.zero_le _, h0⟩, ?_⟩
  rintro i m σ H ⟨rfl, hi, hj⟩
  by_cases c : i < n
  · refine .inr ⟨c, J (i + 1), fun σ' H' h => ⟨n - (i + 1), by omega, rfl, c, h⟩, ?_⟩
    rintro x H' ⟨rfl, rfl⟩
    exact hs i σ H' c hj
  · have e : i = n := by omega
    subst e
    exact .inl ⟨Nat.le_refl _, he σ H hj⟩
theorem loop_rngZ {lo : Int} {n : Nat} (J : Nat → L2.St → Hp → Prop) (Z : L2.St → Hp → Prop) (h0 : J 0 σ H) (ht : ∀ σ' H', Z σ' H' → D.nx σ' H')
    (hs : ∀ N : L2.St → Hp → Prop, (∀ σ1 H1, Z σ1 H1 → N σ1 H1) → ∀ i σ' H', i < n → J i σ' H' → g (.int (lo + (i : Nat))) σ' H' fun σ2 H2 => tw { D with nx := J (i + 1), ct := J (i + 1), bk := N } σ2 H2) (he : ∀ σ' H', J n σ' H' → Z σ' H') :
    ∃ W : Nat → Nat → L2.St → Hp → Prop, (∃ m, W 0 m σ H) ∧ ∀ i m σ H, W i m σ H →
      ((Itr lo n).stop i H ∧ D.nx σ H) ∨ ((Itr lo n).go i H ∧ ∃ N : L2.St → Hp → Prop, (∀ σ' H', N σ' H' → ∃ m', m' < m ∧ W (i + 1) m' σ' H') ∧ ∀ x H', (Itr lo n).yld i H x H' → g x σ H' fun σ2 H2 => tw { D with nx := N, ct := N, bk := D.nx } σ2 H2) :=
  loop_rng J h0 (hs D.nx ht) (fun σ' H' h => ht _ _ (he _ _ h))
theorem loop_list {a : Addr} {xs : List V} (J : Nat → L2.St → Hp → Prop) (h0 : J 0 σ H) (hx : ∀ i σ' H', J i σ' H' → SqL K H' a xs)
    (hs : ∀ i x σ' H', xs[i]? = some x → J i σ' H' → g x σ' H' fun σ2 H2 => tw { D with nx := J (i + 1), ct := J (i + 1), bk := D.nx } σ2 H2) (he : ∀ σ' H', J xs.length σ' H' → D.nx σ' H') :
    ∃ W : Nat → Nat → L2.St → Hp → Prop, (∃ m, W 0 m σ H) ∧ ∀ i m σ H, W i m σ H →
      ((Itl K a).stop i H ∧ D.nx σ H) ∨ ((Itl K a).go i H ∧ ∃ N : L2.St → Hp → Prop, (∀ σ' H', N σ' H' → ∃ m', m' < m ∧ W (i + 1) m' σ' H') ∧ ∀ x H', (Itl K a).yld i H x H' → g x σ H' fun σ2 H2 => tw { D with nx := N, ct := N, bk := D.nx } σ2 H2) := by
  refine ⟨fun i m σ H => m = xs.length - i ∧ i ≤ xs.length ∧ J i σ H, ⟨xs.length, by omega, Nat.zero_le _, h0⟩, ?_⟩
  rintro i m σ H ⟨rfl, hi, hj⟩
  by_cases c : i < xs.length
  · obtain ⟨x, ex⟩ : ∃ x, xs[i]? = some x := ⟨xs[i], List.getElem?_eq_getElem c⟩
    refine .inr ⟨⟨xs, x, hx i σ H hj, ex⟩, J (i + 1), fun σ' H' h => ⟨xs.length - (i + 1), by omega, rfl, c, h⟩, ?_⟩
    rintro y H' ⟨rfl, hy⟩
    exact hs i y σ H' (hy xs (hx i σ H' hj)) hj
  · have e : i = xs.length := by omega
    subst e
    exact .inl ⟨⟨xs, hx _ σ H hj, Nat.le_refl _⟩, he σ H hj⟩
theorem loop_tup {a : Addr} {xs : List V} (J : Nat → L2.St → Hp → Prop) (h0 : J 0 σ H) (hx : ∀ i σ' H', J i σ' H' → SqT K H' a xs)
    (hs : ∀ i x σ' H', xs[i]? = some x → J i σ' H' → g x σ' H' fun σ2 H2 => tw { D with nx := J (i + 1), ct := J (i + 1), bk := D.nx } σ2 H2) (he : ∀ σ' H', J xs.length σ' H' → D.nx σ' H') :
    ∃ W : Nat → Nat → L2.St → Hp → Prop, (∃ m, W 0 m σ H) ∧ ∀ i m σ H, W i m σ H →
      ((Itt K a).stop i H ∧ D.nx σ H) ∨ ((Itt K a).go i H ∧ ∃ N : L2.St → Hp → Prop, (∀ σ' H', N σ' H' → ∃ m', m' < m ∧ W (i + 1) m' σ' H') ∧ ∀ x H', (Itt K a).yld i H x H' → g x σ H' fun σ2 H2 => tw { D with nx := N, ct := N, bk := D.nx } σ2 H2) := by
  refine ⟨fun i m σ H => m = xs.length - i ∧ i ≤ xs.length ∧ J i σ H, ⟨xs.length, by omega, Nat.zero_le _, h0⟩, ?_⟩
  rintro i m σ H ⟨rfl, hi, hj⟩
  by_cases c : i < xs.length
  · obtain ⟨x, ex⟩ : ∃ x, xs[i]? = some x := ⟨xs[i], List.getElem?_eq_getElem c⟩
    refine .inr ⟨⟨xs, x, hx i σ H hj, ex⟩, J (i + 1), fun σ' H' h => ⟨xs.length - (i + 1), by omega, rfl, c, h⟩, ?_⟩
    rintro y H' ⟨rfl, hy⟩
    exact hs i y σ H' (hy xs (hx i σ H' hj)) hj
  · have e : i = xs.length := by omega
    subst e
    exact .inl ⟨⟨xs, hx _ σ H hj, Nat.le_refl _⟩, he σ H hj⟩
theorem loop_listZ {a : Addr} {xs : List V} (J : Nat → L2.St → Hp → Prop) (Z : L2.St → Hp → Prop) (h0 : J 0 σ H) (hx : ∀ i σ' H', J i σ' H' → SqL K H' a xs) (ht : ∀ σ' H', Z σ' H' → D.nx σ' H')
    (hs : ∀ N : L2.St → Hp → Prop, (∀ σ1 H1, Z σ1 H1 → N σ1 H1) → ∀ i x σ' H', xs[i]? = some x → J i σ' H' → g x σ' H' fun σ2 H2 => tw { D with nx := J (i + 1), ct := J (i + 1), bk := N } σ2 H2) (he : ∀ σ' H', J xs.length σ' H' → Z σ' H') :
    ∃ W : Nat → Nat → L2.St → Hp → Prop, (∃ m, W 0 m σ H) ∧ ∀ i m σ H, W i m σ H →
      ((Itl K a).stop i H ∧ D.nx σ H) ∨ ((Itl K a).go i H ∧ ∃ N : L2.St → Hp → Prop, (∀ σ' H', N σ' H' → ∃ m', m' < m ∧ W (i + 1) m' σ' H') ∧ ∀ x H', (Itl K a).yld i H x H' → g x σ H' fun σ2 H2 => tw { D with nx := N, ct := N, bk := D.nx } σ2 H2) :=
  loop_list J h0 hx (hs D.nx ht) (fun σ' H' h => ht _ _ (he _ _ h))
theorem loop_tupZ {a : Addr} {xs : List V} (J : Nat → L2.St → Hp → Prop) (Z : L2.St → Hp → Prop) (h0 : J 0 σ H) (hx : ∀ i σ' H', J i σ' H' → SqT K H' a xs) (ht : ∀ σ' H', Z σ' H' → D.nx σ' H')
    (hs : ∀ N : L2.St → Hp → Prop, (∀ σ1 H1, Z σ1 H1 → N σ1 H1) → ∀ i x σ' H', xs[i]? = some x → J i σ' H' → g x σ' H' fun σ2 H2 => tw { D with nx := J (i + 1), ct := J (i + 1), bk := N } σ2 H2) (he : ∀ σ' H', J xs.length σ' H' → Z σ' H') :
    ∃ W : Nat → Nat → L2.St → Hp → Prop, (∃ m, W 0 m σ H) ∧ ∀ i m σ H, W i m σ H →
      ((Itt K a).stop i H ∧ D.nx σ H) ∨ ((Itt K a).go i H ∧ ∃ N : L2.St → Hp → Prop, (∀ σ' H', N σ' H' → ∃ m', m' < m ∧ W (i + 1) m' σ' H') ∧ ∀ x H', (Itt K a).yld i H x H' → g x σ H' fun σ2 H2 => tw { D with nx := N, ct := N, bk := D.nx } σ2 H2) :=
  loop_tup J h0 hx (hs D.nx ht) (fun σ' H' h => ht _ _ (he _ _ h))
end
end L2.My
namespace L2.My
open PySem PySem.Spec PyProof.Rows L2
def tCallZ (sp : Sp) (dvs : List V) (E : L2.St → XK) (t : TA) : TE := fun σ H Q => t σ H fun vs H1 => sp (vs ++ dvs) H1 Q (E σ)
def tMethZ (C : Addr) (m : Str) (sp : Sp) (dvs : List V) (E : L2.St → XK) (ta : TE) (t : TA) : TE := fun σ H Q => ta σ H fun x H1 => ∃ a dx fs, x = .ref a ∧ H1 a = some (.ins C dx fs) ∧ fs.lookup m = none ∧
  t σ H1 fun vs H2 => sp (x :: (vs ++ dvs)) H2 Q (E σ)
def tMakeZ (C : Addr) (sp : Sp) (dvs : List V) (E : L2.St → XK) (t : TA) : TE := fun σ H Q => t σ H fun vs H1 => ∀ x dx, H1 x = none → H1 dx = none → dx ≠ x →
  sp (.ref x :: (vs ++ dvs)) (upd (upd H1 dx (.own x)) x (.ins C dx [])) (fun v H2 => v = .non ∧ Q (.ref x) H2) (E σ)
section
variable {X : Cx} {CX : CXT} {k : Nat} {f C : Addr} {fd : FuncData} {ps : List Str} {sp : Sp} {dvs : List V} {ds : List Value} {E : L2.St → XK} {x m : Str} {p pos apos : Pos} {e o : Expr} {es : List Expr} {ta : TE} {t : TA}
theorem run_fnZ {pins : List (Addr × Obj)} {σ : L2.St} {H : Hp} {s : Shared} {Q : VK} {us : List Value} {vs : List V} {E : XK} (F : FnOk X.prog X.w X.K X.mg X.base CX k f fd ps sp) (hr : Room k X.A) (hb : Binds X.K fd ps ds) (hd : Vals dvs ds) (hx : PassesAt CX X σ E)
    (I : Inv X pins σ H s) (r : Vals vs us) (h : sp (vs ++ dvs) H Q E) : wpAny (model X.prog X.w) X.A (call (.ref f) us) (EP X pins σ Q) X.xe s := by
  have r2 : Vals (vs ++ dvs) (us ++ ds) := r.append hd
  have hl : (us ++ ds).length = ps.length := by rw [← r2.length]; exact F.len _ _ _ _ h
  refine wpAny_call (codeAny_mono (F.run X.A X.stack s H ⟨us, []⟩ (us ++ ds) (vs ++ dvs) Q E hr I.env0 (hb s us I.kIn hl) r2 h) fun r s' hq => ?_)
  cases r with
  | error e => exact hx pins H s e s' I hq
  | ok fl =>
    cases fl with
    | ret u => exact I.after hq
    | next => exact False.elim hq
    | brk => exact False.elim hq
    | cont => exact False.elim hq
theorem pe_callZ (F : FnOk X.prog X.w X.K X.mg X.base CX k f fd ps sp) (hr : Room k X.A) (hg : Gl X x) (hm : X.mg x = some (.ref f)) (hk : PySem.W.keepIn X.K (.ref f) = true) (hb : Binds X.K fd ps ds) (hd : Vals dvs ds) (hx : ∀ σ, PassesAt CX X σ (E σ))
    (ha : PA X (e :: es) t) (hdb : (x == ("__debug__" : Str)) = false := by decide) (he : starEach (e :: es) X.env = (false, eval e X.env) :: starEach es X.env := by rfl) (hpl : (backTo pos (starEach es X.env)).any (·.1) = false := by rfl) :
    PE X (.Call (.Name x p) (e :: es) [] pos) (tCallZ sp dvs E t) := by
  refine ⟨fun pins s σ H Q I h => ?_⟩
  refine wpAny_Call_Name_kw (ld_glob I hg hm ?_ hdb)
  refine PySem.W.callWith_K (h₀ := X.base) I.ok.mod.kin hk (thn (ha.run pos pins s σ H _ I h) fun us s1 ⟨vs, H1, I1, r, q⟩ => ⟨I1.kIn, ?_⟩) he hpl
  exact run_fnZ F hr hb hd (hx σ) I1 r q
theorem pe_methZ {pl : Sem Bool} (he : PE X o ta) (c : Cls X.K C) (hm : Meth X.K C m f) (F : FnOk X.prog X.w X.K X.mg X.base CX k f fd ps sp) (hr : Room k X.A) (hb : Binds X.K fd ps ds) (hd : Vals dvs ds) (hx : ∀ σ, PassesAt CX X σ (E σ)) (ha : PA X (e :: es) t)
    (hst : starEach (e :: es) X.env = (false, eval e X.env) :: starEach es X.env := by rfl) (hpl : (backTo pos (starEach es X.env)).any (·.1) = false := by rfl)
    (ht : eval (.Call (.Attribute o m apos) (e :: es) [] pos) X.env = (do
      let ov ← eval o X.env
      standAt apos.atName
      let (f, first) ← holding [ov] (getMethod ov m pl)
      callWith pos f first (backTo pos (starEach (e :: es) X.env)) (backToKw pos (keywordEach [] X.env))) := by rfl) :
    PE X (.Call (.Attribute o m apos) (e :: es) [] pos) (tMethZ C m sp dvs E ta t) := by
  refine ⟨fun pins s σ H Q I h => ?_⟩
  refine PySem.W.methodCall_KW (pl := pl) (thn (he.run pins s σ H _ I h) fun u s1 ⟨x, H1, I1, rx, a, dx, fs, ex, ea, l, q⟩ => ?_) ht
  subst ex
  obtain rfl : u = Value.ref a := rx
  refine getmeth_ok I1 ea c hm l ?_
  refine PySem.W.callWith_K (first := [.ref a]) (h₀ := X.base) I.ok.mod.kin hm.kp (thn (ha.run pos pins s1 σ H1 _ I1 q) fun us s2 ⟨vs, H2, I2, r, q2⟩ => ⟨I2.kIn, ?_⟩) hst hpl
  exact run_fnZ (us := .ref a :: us) (vs := .ref a :: vs) F hr hb hd (hx σ) I2 (.cons rfl r) q2
theorem run_makeZ {pins : List (Addr × Obj)} {σ : L2.St} {H : Hp} {s : Shared} {Q : VK} {us : List Value} {vs : List V} {E : XK} (M : Mk X.K C f) (F : FnOk X.prog X.w X.K X.mg X.base CX k f fd ps sp) (hr : Room (k + 1) X.A) (hb : Binds X.K fd ps ds) (hd : Vals dvs ds)
    (hx : PassesAt CX X σ E) (I : Inv X pins σ H s) (r : Vals vs us)
    (h : ∀ x dx, H x = none → H dx = none → dx ≠ x → sp (.ref x :: (vs ++ dvs)) (upd (upd H dx (.own x)) x (.ins C dx [])) (fun v H2 => v = .non ∧ Q (.ref x) H2) E) :
    wpAny (model X.prog X.w) X.A (call (.ref C) us) (EP X pins σ Q) X.xe s := by
  have hq := h (s.heap.objs.size + 1) s.heap.objs.size (I.hok.fresh (Nat.le_succ _)) (I.hok.fresh (Nat.le_refl _)) (Nat.ne_of_lt (Nat.lt_succ_self _))
  have I2 := Inv.made (C := C) I
  have r2 : Vals (V.ref (s.heap.objs.size + 1) :: (vs ++ dvs)) (Value.ref (s.heap.objs.size + 1) :: (us ++ ds)) := .cons rfl (r.append hd)
  have hl : (Value.ref (s.heap.objs.size + 1) :: us ++ ds).length = ps.length := by
    have e := r2.length
    rw [F.len _ _ _ _ hq] at e
    exact e.symm
  refine wpAny_call (make_map (f := f) I.kIn M.makes M.init (beq_iff_eq.mp M.fn) (codeAny_mono (F.run _ X.stack _ _ ⟨Value.ref (s.heap.objs.size + 1) :: us, []⟩ (Value.ref (s.heap.objs.size + 1) :: (us ++ ds)) _ _ E (hr.make C us [])
    (I2.env0.make C us []) (hb _ (Value.ref (s.heap.objs.size + 1) :: us) I2.kIn hl) r2 hq) fun r s' hq' => ?_))
  cases r with
  | error e => exact hx pins _ _ e s' I2 hq'
  | ok fl =>
    cases fl with
    | ret u =>
      obtain ⟨v, H', I3, rv, ev, q3⟩ := I2.after hq'
      subst ev
      exact ⟨rv, ⟨V.ref (s.heap.objs.size + 1), H', I3, rfl, q3⟩⟩
    | next => exact False.elim hq'
    | brk => exact False.elim hq'
    | cont => exact False.elim hq'
theorem pe_makeZ (M : Mk X.K C f) (F : FnOk X.prog X.w X.K X.mg X.base CX k f fd ps sp) (hr : Room (k + 1) X.A) (hg : Gl X x) (hm : X.mg x = some (.ref C)) (hb : Binds X.K fd ps ds) (hd : Vals dvs ds) (hx : ∀ σ, PassesAt CX X σ (E σ))
    (ha : PA X (e :: es) t) (hdb : (x == ("__debug__" : Str)) = false := by decide) (he : starEach (e :: es) X.env = (false, eval e X.env) :: starEach es X.env := by rfl) (hpl : (backTo pos (starEach es X.env)).any (·.1) = false := by rfl) :
    PE X (.Call (.Name x p) (e :: es) [] pos) (tMakeZ C sp dvs E t) := by
  refine ⟨fun pins s σ H Q I h => ?_⟩
  refine wpAny_Call_Name_kw (ld_glob I hg hm ?_ hdb)
  refine PySem.W.callWith_K (h₀ := X.base) I.ok.mod.kin M.kp (thn (ha.run pos pins s σ H _ I h) fun us s1 ⟨vs, H1, I1, r, q⟩ => ⟨I1.kIn, ?_⟩) he hpl
  exact run_makeZ M F hr hb hd (hx σ) I1 r q
end
section
variable {X : Cx} {k : Nat} {C : Addr} {x m : Str} {ps : List Str} {dvs : List V} {sp : Sp} {E : L2.St → XK} {e o : Expr} {es : List Expr} {ta to : TE} {t : TA} {p pos apos : Pos}
theorem pe_fnZ (G : Fnc X.prog X.w X.K X.mg X.base k x ps sp) (hr : Room k X.A) (hx : ∀ σ, PassesAt (L2.CX X.prog X.w) X σ (E σ)) (ha : PA X (e :: es) t) (hg : Gl X x := by rfl) (hd : (x == ("__debug__" : Str)) = false := by decide)
    (he : starEach (e :: es) X.env = (false, eval e X.env) :: starEach es X.env := by rfl) (hpl : (backTo pos (starEach es X.env)).any (·.1) = false := by rfl) :
    PE X (.Call (.Name x p) (e :: es) [] pos) (tCallZ sp [] E t) := by
  obtain ⟨f, fd, h1, h2, h3, h4⟩ := G.ex
  exact pe_callZ h4 hr hg h1 h2 h3 .nil hx ha hd he hpl
theorem pe_mkZ (G : Mkc X.prog X.w X.K X.mg X.base k C x ps dvs sp) (hr : Room (k + 1) X.A) (hx : ∀ σ, PassesAt (L2.CX X.prog X.w) X σ (E σ)) (ha : PA X (e :: es) t) (hg : Gl X x := by rfl) (hd : (x == ("__debug__" : Str)) = false := by decide)
    (he : starEach (e :: es) X.env = (false, eval e X.env) :: starEach es X.env := by rfl) (hpl : (backTo pos (starEach es X.env)).any (·.1) = false := by rfl) :
    PE X (.Call (.Name x p) (e :: es) [] pos) (tMakeZ C sp dvs E t) := by
  obtain ⟨f, fd, ds, h1, h2, h3, h4⟩ := G.ex
  exact pe_makeZ h1 h4 hr hg G.gl h3 h2 hx ha hd he hpl
theorem pe_mtZ {pl : Sem Bool} (G : Mtc X.prog X.w X.K X.mg X.base k C m ps sp) (he : PE X o to) (hr : Room k X.A) (hx : ∀ σ, PassesAt (L2.CX X.prog X.w) X σ (E σ)) (ha : PA X (e :: es) t)
    (hst : starEach (e :: es) X.env = (false, eval e X.env) :: starEach es X.env := by rfl) (hpl : (backTo pos (starEach es X.env)).any (·.1) = false := by rfl)
    (ht : eval (.Call (.Attribute o m apos) (e :: es) [] pos) X.env = (do
      let ov ← eval o X.env
      standAt apos.atName
      let (f, first) ← holding [ov] (getMethod ov m pl)
      callWith pos f first (backTo pos (starEach (e :: es) X.env)) (backToKw pos (keywordEach [] X.env))) := by rfl) :
    PE X (.Call (.Attribute o m apos) (e :: es) [] pos) (tMethZ C m sp [] E to t) := by
  obtain ⟨f, fd, h1, h2, h3⟩ := G.ex
  exact pe_methZ he G.cls h1 h3 hr h2 .nil hx ha hst hpl ht
end
def rIsX (K : PySem.W.Frag) (cls : Value) (a : Addr) (d : Option Addr) : List V → Hp → VK → Prop := fun xs H Q => ∃ D, cls = .ref D ∧ ExcC K D ∧ rIsEd K D a d xs H Q
def rIsXT (K : PySem.W.Frag) (cls : Value) (a : Addr) (d : Option Addr) : List V → Hp → VK → Prop := fun xs H Q => ∃ D, cls = .ref D ∧ ExcC K D ∧ rIsEdT K D a d xs H Q
theorem call_isX {X : Cx} {a : Addr} {cls : Value} {d : Option Addr} {oe : Obj} {pn : List (Addr × Obj)} (hz : Zc cls d oe) (hf : ∃ vs, oe.data = .fields vs) : CallR (X.suite a ((a, oe) :: pn)) (.builtin "isinstance") (rIsX X.K cls a d) := by
  intro pins s σ H xs us Q I r h
  obtain ⟨D, rfl, C, h⟩ := h
  exact call_isEd C hz hf pins s σ H xs us Q I r h
theorem call_isXT {X : Cx} {a : Addr} {cls : Value} {d : Option Addr} {oe : Obj} {pn : List (Addr × Obj)} (hz : Zc cls d oe) (hf : ∃ vs, oe.data = .fields vs) : CallR (X.suite a ((a, oe) :: pn)) (.builtin "isinstance") (rIsXT X.K cls a d) := by
  intro pins s σ H xs us Q I r h
  obtain ⟨D, rfl, C, h⟩ := h
  exact call_isEdT C hz hf pins s σ H xs us Q I r h
def tTryA (K : PySem.W.Frag) (c : Value) (i : Nat) (tb : WX → List (Addr × Obj) → (Value → Shared → Prop) → TS) (ts : Addr → Value → Option Addr → Obj → List (Addr × Obj) → TS) : TS :=
  fun D σ H => ∀ pn xe, tb (wAs K c i (fun a cls d D σ H => ∀ oe pn, ts a cls d oe pn D σ H) (fun _ _ _ _ => False) D) pn xe D σ H
section
variable {X : Cx} {x n : Str} {c : Value} {i : Nat} {body suite : List Stmt} {b₀ : Stmt} {np pos pos' : Pos} {tb : WX → List (Addr × Obj) → (Value → Shared → Prop) → TS} {ts : Addr → Value → Option Addr → Obj → List (Addr × Obj) → TS}
theorem ps_tryA (hs : X.stack = X.env :: X.outer) (hf : X.env.frame = some X.env.locals) (hN : X.N.Nodup) (hi : X.N[i]? = some n) (hln : X.env.kindOf n = some .local) (hc : Names X x c)
    (hb : ∀ (W : WX) (pn : List (Addr × Obj)) (xe : Value → Shared → Prop), Takes (X.tr pn xe) W → PassesOwn (model X.prog X.w) X.A X.env xe → PSs (X.tr pn xe) body (tb W pn xe))
    (hsu : ∀ (a : Addr) (oe : Obj) (cls : Value) (d : Option Addr) (pn : List (Addr × Obj)), Zc cls d oe → (∃ vs, oe.data = .fields vs) → PSs (X.suite a ((a, oe) :: pn)) (b₀ :: suite) (ts a cls d oe pn)) :
    PS X (.Try body [.ExceptHandler (some (.Name x np)) (some n) (b₀ :: suite) pos'] [] [] pos) (tTryA X.K c i tb ts) :=
  ps_try_as (tb := fun W D σ H => ∀ pn xe, tb W pn xe D σ H) (ts := fun a cls d D σ H => ∀ oe pn, ts a cls d oe pn D σ H) (Wout := fun _ _ _ _ => False) hs hf hN hi hln hc takes0
    (fun W pn xe tk po => ⟨fun pins s σ H D I h => (hb W pn xe tk po).run pins s σ H D I (h pn xe)⟩)
    (fun a oe cls d pn hz hf' => ⟨fun pins s σ H D I h => (hsu a oe cls d pn hz hf').run pins s σ H D I (h oe pn)⟩)
end
section
variable {σ : L2.St} {H : Hp} {Q : VK} {D : Ends} {ta : TE} {t : TA}
theorem g_tryA {K : PySem.W.Frag} {c : Value} {i : Nat} {tb : WX → List (Addr × Obj) → (Value → Shared → Prop) → TS} {ts : Addr → Value → Option Addr → Obj → List (Addr × Obj) → TS}
    (h : ∀ pn xe, tb (wAs K c i (fun a cls d D σ H => ∀ oe pn, ts a cls d oe pn D σ H) (fun _ _ _ _ => False) D) pn xe D σ H) : tTryA K c i tb ts D σ H := h
theorem g_callZ {sp : Sp} {dvs : List V} {E : L2.St → XK} (h : t σ H fun vs H1 => sp (vs ++ dvs) H1 Q (E σ)) : tCallZ sp dvs E t σ H Q := h
theorem g_methZ {C : Addr} {m : Str} {sp : Sp} {dvs : List V} {E : L2.St → XK} (h : ta σ H fun x H1 => ∃ a dx fs, x = .ref a ∧ H1 a = some (.ins C dx fs) ∧ fs.lookup m = none ∧ t σ H1 fun vs H2 => sp (x :: (vs ++ dvs)) H2 Q (E σ)) : tMethZ C m sp dvs E ta t σ H Q := h
theorem g_makeZ {C : Addr} {sp : Sp} {dvs : List V} {E : L2.St → XK} (h : t σ H fun vs H1 => MkQ C sp dvs (E σ) vs H1 Q) : tMakeZ C sp dvs E t σ H Q := h
theorem g_caught {K : PySem.W.Frag} {c cls : Value} {i : Nat} {d : Option Addr} {ts : Addr → Value → Option Addr → TS} {Wout : WX} (e : PySem.W.exmOne K cls c = some true)
    (h : ∀ a, H a = none → ts a cls d { nx := fun σ' H' => D.nx (σ'.set i none) H', rt := D.rt, bk := fun σ' H' => D.bk (σ'.set i none) H', ct := fun σ' H' => D.ct (σ'.set i none) H' } (σ.set i (some (.ref a))) H) : WE (wAs K c i ts Wout D) σ cls d H :=
  ⟨true, e, fun _ => h, fun z => nomatch z⟩
end
theorem kany4 {K : PySem.W.Frag} {t a b c d : Value} (h1 : PySem.W.kitOne K t a = some false) (h2 : PySem.W.kitOne K t b = some false) (h3 : PySem.W.kitOne K t c = some false) (h4 : PySem.W.kitOne K t d = some false) : PySem.W.kitAny K t [a, b, c, d] = some false := by
  unfold PySem.W.kitAny; rw [h1]
  unfold PySem.W.kitAny; rw [h2]
  unfold PySem.W.kitAny; rw [h3]
  unfold PySem.W.kitAny; rw [h4]
  rfl
theorem own4 {a b c d : Addr} : Paired ClsV [V.ref a, V.ref b, V.ref c, V.ref d] [Value.ref a, Value.ref b, Value.ref c, Value.ref d] := .cons (.own _) (.cons (.own _) (.cons (.own _) (.cons (.own _) .nil)))
end L2.My
namespace L2.My
open PySem PySem.Spec PyProof.Rows L2
structure Mkk (P : Program) (w : World) (K : PySem.W.Frag) (mg : Str → Option Value) (base : Heap) (k : Nat) (C : Addr) (x : Str) (ps ks : List Str) (sp : Sp) : Prop where
  gl : mg x = some (.ref C)
  ex : ∃ f fd g, Mk K C f ∧ KBn K fd ps 1 ks g (fun vs zs => vs ++ zs) ∧ FnOk P w K mg base (L2.CX P w) k f fd ps sp
section
variable {X : Cx} {k : Nat} {C : Addr} {x : Str} {ps ks : List Str} {sp : Sp} {E : XK} {kws : List Keyword} {tk : TA} {p pos : Pos}
theorem pe_mkK (G : Mkk X.prog X.w X.K X.mg X.base k C x ps ks sp) (hr : Room (k + 1) X.A) (hx : Passes (L2.CX X.prog X.w) X E) (hkw : PK X kws tk) (hg : Gl X x := by rfl)
    (hall : (backToKw pos (keywordEach kws X.env)).all (·.1.isSome) = true := by rfl) (hks : (backToKw pos (keywordEach kws X.env)).filterMap (·.1) = ks := by rfl) (hdb : (x == ("__debug__" : Str)) = false := by decide)
    (hpl : ((backTo pos (starEach [] X.env)).any (·.1) || (backToKw pos (keywordEach kws X.env)).any (·.1.isNone)) = false := by rfl) :
    PE X (.Call (.Name x p) [] kws pos) (tMakeK C 0 ks.length sp (fun vs zs => vs ++ zs) E tNil tk) := by
  obtain ⟨f, fd, g, h1, h2, h3⟩ := G.ex
  exact pe_makeK0 h1 h3 hr hg G.gl h2 hx hkw hall hks hdb hpl
theorem g_makeK {C : Addr} {n m : Nat} {sp : Sp} {gV : List V → List V → List V} {E : XK} {t tk : TA} {σ : L2.St} {H : Hp} {Q : VK} (h : t σ H fun vs H1 => tk σ H1 fun zs H2 => vs.length = n ∧ zs.length = m ∧ ∀ x dx, H2 x = none → H2 dx = none → dx ≠ x →
  sp (gV (.ref x :: vs) zs) (upd (upd H2 dx (.own x)) x (.ins C dx [])) (fun v H3 => v = .non ∧ Q (.ref x) H3) E) : tMakeK C n m sp gV E t tk σ H Q := h
end
end L2.My
namespace L2.My
open PySem PySem.Spec PyProof.Rows L2
theorem walk_ofM {l : PySem.W.OpenLaw} {n k : Nat} {q : Program} {loose : List Str} {XP : (Str → Option Value) → Heap → Prop} {YP : World → Heap → Prop} {d : DefRec} {CX : World → CXT} {x : Str}
    (hn : l.most = some n) (hn2 : n ≤ sizeLine) (hdf : d.params.defaults = []) (hr : Room k callerA)
    (F : ∀ (w : World) (mg : Str → Option Value) (fa : Addr) (h : Heap), YP w h → h.Ns mainGlobals mg → mg d.name = some (.ref fa) →
      ∃ (K : PySem.W.Frag) (fd : FuncData) (sp : Sp), K.In h ∧ (∀ (s : Shared) (u : Value), BindsTo s fd ⟨[u], []⟩ [(x, u)]) ∧
        (∀ (H : Hp) (a : Addr) (ns : List Int), ns.length ≤ n → Only H → SqL K H a (ns.map V.int) → sp [.ref a] H (fun v _ => v = .bl true) fun _ _ _ => False) ∧
        ∀ base : Heap, K.In base → base.Ns mainGlobals mg → FnOk l.prog w K mg base (CX w) k fa fd [x] sp)
    (hCX : ∀ (w : World) (H : Hp) (s : Shared) (e : Value) (s' : Shared), CX w [] H s (fun _ _ _ => False) e s' → False) :
    PySem.W.WalkO q loose XP YP l.row.toRowW d [] (fun f vs => PySem.call f vs) := by
  refine Att.attach_call hn hdf fun w s₀ s₁ mg mb fa o pm cd doc a vs ns G Y ho hd hcd hmg hobj hints hlen hg => ?_
  obtain ⟨K, fd, sp, KX, hb, hsp, hF⟩ := F w mg fa _ Y G.T.g hmg
  exact law_call KX G.T.g G.T.b G.T.builtins G.T.nolimit hg hobj hints (Nat.le_trans hlen hn2) hr hF hb (fun H hO hS => hsp H a ns hlen hO hS) fun H e s' => hCX w H s₁ e s'
theorem cx_none {P : Program} (w : World) (H : Hp) (s : Shared) (e : Value) (s' : Shared) (c : L2.CX P w [] H s (fun _ _ _ => False) e s') : False := by
  obtain ⟨_, _, _, _, _, _, _, _, _, _, _, _, h⟩ := c
  exact h
section
variable {P : Program} {w : World} {K : PySem.W.Frag} {mg : Str → Option Value} {base : Heap} {k : Nat} {x m qual : Str} {params : Arguments} {body : List Stmt} {scope : Scope} {fd : FuncData} {ps : List Str} {sp : Sp} {C f : Addr}
theorem fnc_of (g : mg x = some (.ref f)) (kp : PySem.W.keepIn K (.ref f) = true) (b : Binds K fd ps []) (h : FnOk P w K mg base (L2.CX P w) k f fd ps sp) : Fnc P w K mg base k x ps sp := ⟨f, fd, g, kp, b, h⟩
theorem mtc_of (c : Cls K C) (me : Meth K C m f) (b : Binds K fd ps []) (h : FnOk P w K mg base (L2.CX P w) k f fd ps sp) : Mtc P w K mg base k C m ps sp := ⟨c, f, fd, me, b, h⟩
theorem mkc_of {dvs : List V} (g : mg x = some (.ref C)) (mk : Mk K C f) (b : ∃ ds, Vals dvs ds ∧ Binds K fd ps ds) (h : FnOk P w K mg base (L2.CX P w) k f fd ps sp) : Mkc P w K mg base k C x ps dvs sp := by
  obtain ⟨ds, h1, h2⟩ := b
  exact ⟨g, f, fd, ds, mk, h1, h2, h⟩
theorem mkk_of {ks : List Str} (g : mg x = some (.ref C)) (mk : Mk K C f) (b : ∃ gg, KBn K fd ps 1 ks gg (fun vs zs => vs ++ zs)) (h : FnOk P w K mg base (L2.CX P w) k f fd ps sp) : Mkk P w K mg base k C x ps ks sp := by
  obtain ⟨gg, h2⟩ := b
  exact ⟨g, f, fd, gg, mk, h2, h⟩
theorem fn_never (hn : ∀ vs H Q E, ¬ sp vs H Q E) : FnOk P w K mg base (L2.CX P w) k f fd ps sp := ⟨fun vs H Q E h => (hn vs H Q E h).elim, fun A outer s H args us vs Q E hr e b v h => (hn vs H Q E h).elim⟩
end
end L2.My
namespace Lw
open PySem PySem.Spec PyProof.Rows L2 L2.My

theorem q_num {n d : Int} (h : 0 < d) : (Rat.divInt n d).num = n / (Int.gcd n d : Int) := by
  obtain ⟨k, rfl⟩ : ∃ k : Nat, d = (k : Int) := ⟨d.toNat, by omega⟩
  have hk : k ≠ 0 := by omega
  rw [Rat.divInt_ofNat, Rat.mkRat_def, dif_neg hk, Rat.normalize_eq]
  rfl
theorem q_den {n d : Int} (h : 0 < d) : ((Rat.divInt n d).den : Int) = d / (Int.gcd n d : Int) := by
  obtain ⟨k, rfl⟩ : ∃ k : Nat, d = (k : Int) := ⟨d.toNat, by omega⟩
  have hk : k ≠ 0 := by omega
  rw [Rat.divInt_ofNat, Rat.mkRat_def, dif_neg hk, Rat.normalize_eq]
  show ((k / n.natAbs.gcd k : Nat) : Int) = (k : Int) / (Int.gcd n k : Int)
  rw [Int.natCast_ediv]
  rfl
theorem den_pos (q : Rat) : (0 : Int) < q.den := by
  have := q.den_nz
  omega
theorem q_self (q : Rat) : Rat.divInt q.num q.den = q := Rat.num_divInt_den q
def Sz (B : Nat) (q : Rat) : Prop := q.num.natAbs < 2 ^ B ∧ q.den < 2 ^ B
def pr (q : Rat) : Int × Int := (q.num, q.den)
def tP : RT (Int × Int) := tPair tInt tInt
def tQ : RT Rat := ⟨fun H v q => tP.rel H v (pr q), fun e h => tP.mono e h⟩
theorem gcd_dvd_le {n d : Int} (h : 0 < d) : (0 : Int) < Int.gcd n d ∧ (Int.gcd n d : Int) ≤ d := by
  have h1 : 0 < Int.gcd n d := Int.gcd_pos_of_ne_zero_right _ (by omega)
  have h2 : (Int.gcd n d : Int) ∣ d := Int.gcd_dvd_right ..
  exact ⟨by omega, Int.le_of_dvd h h2⟩

theorem mod_half {a b : Nat} (hb : 0 < b) (hba : b ≤ a) : 2 * (a % b) < a := by
  have h1 := Nat.div_add_mod a b
  have h2 := Nat.mod_lt a hb
  have h3 : 1 ≤ a / b := Nat.div_pos hba hb
  have h4 : b * 1 ≤ b * (a / b) := Nat.mul_le_mul_left b h3
  omega
def Eu (B i : Nat) (a b : Nat) : Prop := (i % 2 = 0 → b < 2 ^ (B - i / 2)) ∧ (i % 2 = 1 → b < a ∧ a < 2 ^ (B - i / 2))
theorem Eu.next {B i a b : Nat} (h : Eu B i a b) (hb : 0 < b) : Eu B (i + 1) b (a % b) := by
  refine ⟨fun e => ?_, fun e => ?_⟩
  · obtain ⟨h1, h2⟩ := h.2 (by omega)
    have h3 := mod_half hb (Nat.le_of_lt h1)
    have e2 : (i + 1) / 2 = i / 2 + 1 := by omega
    rw [e2]
    rcases Nat.lt_or_ge (i / 2) B with hB | hB
    · have e3 : B - i / 2 = (B - (i / 2 + 1)) + 1 := by omega
      rw [e3, Nat.pow_succ] at h2
      omega
    · have e3 : B - i / 2 = 0 := by omega
      rw [e3, Nat.pow_zero] at h2
      omega
  · have h1 := h.1 (by omega)
    have e2 : (i + 1) / 2 = i / 2 := by omega
    exact ⟨Nat.mod_lt a hb, by rw [e2]; exact h1⟩
theorem Eu.last {a b : Nat} (h : Eu 1999 4000 a b) : b = 0 := by
  have := h.1 (by decide)
  simp at this
  exact this
theorem gcd_step {a b : Nat} : Nat.gcd b (a % b) = Nat.gcd a b := by
  rw [Nat.gcd_comm b, ← Nat.gcd_rec, Nat.gcd_comm]
end Lw
namespace Lw
open PySem PySem.Spec PyProof.Rows L2 L2.My

def fR (n d : Int) : List (Str × V) := putF "den" (.int d) (putF "num" (.int n) [])
theorem nd_ne : ¬ (("num" : Str) = "den") := by decide +kernel
theorem fR_eq (n d : Int) : fR n d = ([("num", V.int n), ("den", V.int d)] : List (Str × V)) := by
  show (if ("num" : Str) = "den" then [(("num" : Str), V.int d)] else (("num" : Str), V.int n) :: putF "den" (V.int d) []) = _
  rw [if_neg nd_ne]
  rfl
theorem fR_num (n d : Int) : (fR n d).lookup ("num" : Str) = some (.int n) := by
  unfold fR
  rw [lookup_putF, if_neg nd_ne, lookup_putF, if_pos rfl]
theorem fR_den (n d : Int) : (fR n d).lookup ("den" : Str) = some (.int d) := by
  unfold fR
  rw [lookup_putF, if_pos rfl]
theorem fR_no (n d : Int) {m : Str} (h1 : ¬ m = "den") (h2 : ¬ m = "num") : (fR n d).lookup m = none := by
  unfold fR
  rw [lookup_putF, if_neg h1, lookup_putF, if_neg h2]
  rfl
def tRat (R : Addr) : RT Rat := ⟨fun H v q => ∃ a dx, v = .ref a ∧ H a = some (.ins R dx (fR q.num q.den)), fun e h => by
  obtain ⟨a, dx, h1, h2⟩ := h
  exact ⟨a, dx, h1, e _ _ h2⟩⟩
def spRInit (R B : Addr) : Sp := fun vs H Q E => ∃ x dx n d, vs = [.ref x, .int n, .int d] ∧ H x = some (.ins R dx []) ∧ d.natAbs < 2 ^ 9000 ∧ (d ≤ 0 → E (.ref B) none H) ∧
  (0 < d → Q .non (upd H x (.ins R dx (fR (Rat.divInt n d).num (Rat.divInt n d).den))))
def spR2 (R : Addr) (f : Rat → Rat → Rat) : Sp := fun vs H Q _ => ∃ F x y a b, vs = [x, y] ∧ Ext F H ∧ (tRat R).rel F x a ∧ (tRat R).rel F y b ∧ Sz 4000 a ∧ Sz 4000 b ∧
  ∀ v F' H', Nx [] F H F' H' → (tRat R).rel F' v (f a b) → Q v H'
def eqR (R : Addr) : Addr → Addr → Hp → Bool → Prop := fun a b H r => ∃ p q, (tRat R).rel H (.ref a) p ∧ (tRat R).rel H (.ref b) q ∧ r = decide (p = q)
def spRLess (R : Addr) : Sp := fun vs H Q _ => ∃ F x y a b, vs = [x, y] ∧ Ext F H ∧ (tRat R).rel F x a ∧ (tRat R).rel F y b ∧ Sz 4000 a ∧ Sz 4000 b ∧ Q (.bl (decide (a < b))) H
def spRBy (R B : Addr) : Sp := fun vs H Q E => ∃ F x y a b, vs = [x, y] ∧ Ext F H ∧ (tRat R).rel F x a ∧ (tRat R).rel F y b ∧ Sz 4000 a ∧ Sz 4000 b ∧ (b = 0 → E (.ref B) none H) ∧
  (b ≠ 0 → ∀ v F' H', Nx [] F H F' H' → (tRat R).rel F' v (a / b) → Q v H')
def strQ (q : Rat) : Str := if q.den = 1 then toString q.num else toString q.num ++ ("/" : Str) ++ toString (q.den : Int)
def spRStr (R : Addr) : Sp := fun vs H Q _ => ∃ F x a, vs = [x] ∧ Ext F H ∧ (tRat R).rel F x a ∧ Sz 1900 a ∧ Q (.str (strQ a)) H
section
variable {H : Hp} {Q : VK} {F : Hp} {v : V} {R : Addr} {K : PySem.W.Frag} {a : Rat}
theorem mk_rat {B : Addr} {E : XK} {n d : Int} {vs dvs : List V} (e : Ext F H) (hd : 0 < d) (hs : d.natAbs < 2 ^ 9000) (k : ∀ v F' H', Nx [] F H F' H' → (tRat R).rel F' v (Rat.divInt n d) → Q v H') (hv : vs ++ dvs = [.int n, .int d] := by rfl) :
    MkQ R (spRInit R B) dvs E vs H Q := by
  intro x dx hx hdx hne
  rw [hv]
  refine ⟨x, dx, n, d, rfl, upd_same, hs, fun h => absurd hd (by omega), fun _ => ⟨rfl, ?_⟩⟩
  rw [upd_upd]
  have n1 : Nx [] F H (upd F dx (.own x)) (upd H dx (.own x)) := Nx.new e hdx
  have hx1 : (upd H dx (.own x)) x = none := by rw [upd_ne (Ne.symm hne)]; exact hx
  have n2 := Nx.new (M := []) (o := .ins R dx (fR (Rat.divInt n d).num (Rat.divInt n d).den)) n1.fh hx1
  exact k _ _ _ (n1.trans n2) ⟨x, dx, rfl, upd_same⟩
theorem mk_ratQ {B : Addr} {E : XK} {n d : Int} {Q' : Addr → Hp → Prop} (e : Ext F H) (hd : 0 < d) (hs : d.natAbs < 2 ^ 9000) (k : ∀ x F' H', Nx [] F H F' H' → (tRat R).rel F' (.ref x) (Rat.divInt n d) → Q' x H') :
    ∀ x dx, H x = none → H dx = none → dx ≠ x → spRInit R B [.ref x, .int n, .int d] (upd (upd H dx (.own x)) x (.ins R dx [])) (fun v H2 => v = .non ∧ Q' x H2) E := by
  intro x dx hx hdx hne
  refine ⟨x, dx, n, d, rfl, upd_same, hs, fun h => absurd hd (by omega), fun _ => ⟨rfl, ?_⟩⟩
  rw [upd_upd]
  have n1 : Nx [] F H (upd F dx (.own x)) (upd H dx (.own x)) := Nx.new e hdx
  have hx1 : (upd H dx (.own x)) x = none := by rw [upd_ne (Ne.symm hne)]; exact hx
  have n2 := Nx.new (M := []) (o := .ins R dx (fR (Rat.divInt n d).num (Rat.divInt n d).den)) n1.fh hx1
  exact k _ _ _ (n1.trans n2) ⟨x, dx, rfl, upd_same⟩
theorem mk_bad {B : Addr} {E : XK} {n d : Int} {Q' : Addr → VK} (hd : d ≤ 0) (hs : d.natAbs < 2 ^ 9000) (k : ∀ H', Ext H H' → E (.ref B) none H') :
    ∀ x dx, H x = none → H dx = none → dx ≠ x → spRInit R B [.ref x, .int n, .int d] (upd (upd H dx (.own x)) x (.ins R dx [])) (Q' x) E := by
  intro x dx hx hdx hne
  refine ⟨x, dx, n, d, rfl, upd_same, hs, fun _ => k _ ?_, fun h => absurd h (by omega)⟩
  have hx1 : (upd H dx (.own x)) x = none := by rw [upd_ne (Ne.symm hne)]; exact hx
  exact (Ext.upd hdx).trans (Ext.upd hx1)
def FldOk (K : PySem.W.Frag) (f : Str) (x : V) (H1 : Hp) (Q : VK) : Prop := ∃ a C dx fs v, x = .ref a ∧ H1 a = some (.ins C dx fs) ∧ Cls K C ∧ NoAttr K C f ∧ fs.lookup f = some v ∧ Q v H1
theorem g_fld {ta : TE} {σ : L2.St} {f : Str} (h : ta σ H fun x H1 => FldOk K f x H1 Q) : tFld K ta f σ H Q := h
theorem fld_num {K' : PySem.W.Frag} (hK : K' = K) (h : (tRat R).rel F v a) (e : Ext F H) (c : Cls K R) (n : NoAttr K R "num") (k : Q (.int a.num) H) : FldOk K' "num" v H Q := by
  subst hK
  obtain ⟨p, dx, rfl, h2⟩ := h
  exact ⟨p, R, dx, _, _, rfl, e _ _ h2, c, n, fR_num _ _, k⟩
theorem fld_den {K' : PySem.W.Frag} (hK : K' = K) (h : (tRat R).rel F v a) (e : Ext F H) (c : Cls K R) (n : NoAttr K R "den") (k : Q (.int a.den) H) : FldOk K' "den" v H Q := by
  subst hK
  obtain ⟨p, dx, rfl, h2⟩ := h
  exact ⟨p, R, dx, _, _, rfl, e _ _ h2, c, n, fR_den _ _, k⟩
theorem ix0 {K : PySem.W.Frag} {x : Int × Int} (h : tP.rel F v x) (e : Ext F H) (k : Q (.int x.1) H) : rIxT K v (.int 0) H Q := by
  obtain ⟨p, w, w', rfl, h2, h3, h4⟩ := h
  cases h3
  exact ⟨p, _, 0, _, rfl, rfl, SqT.of (e _ _ h2), rfl, k⟩
theorem ix1 {K : PySem.W.Frag} {x : Int × Int} (h : tP.rel F v x) (e : Ext F H) (k : Q (.int x.2) H) : rIxT K v (.int 1) H Q := by
  obtain ⟨p, w, w', rfl, h2, h3, h4⟩ := h
  cases h4
  exact ⟨p, _, 1, _, rfl, rfl, SqT.of (e _ _ h2), rfl, k⟩
theorem new_pair {x y : Int} (e : Ext F H) (k : ∀ v F' H', Nx [] F H F' H' → tP.rel F' v (x, y) → Q v H') : TupQ [.int x, .int y] H Q :=
  ⟨by show 2 ≤ sizeLine; decide, fun p hp => k _ _ _ (Nx.new e hp) ⟨p, _, _, rfl, upd_same, rfl, rfl⟩⟩
end
theorem mt_rat {R : Addr} {m : Str} {F H : Hp} {v : V} {a : Rat} {A : Prop} (h : (tRat R).rel F v a) (e : Ext F H) (h1 : ¬ m = "den") (h2 : ¬ m = "num") (k : A) : ∃ p dx fs, v = .ref p ∧ H p = some (.ins R dx fs) ∧ fs.lookup m = none ∧ A := by
  obtain ⟨p, dx, rfl, h3⟩ := h
  exact ⟨p, dx, _, rfl, e _ _ h3, fR_no _ _ h1 h2, k⟩
theorem rat_ins {R : Addr} {H : Hp} {x y : V} {a b : Rat} (h1 : (tRat R).rel H x a) (h2 : (tRat R).rel H y b) : TwoIns R x y H := by
  obtain ⟨p, dx, rfl, e1⟩ := h1
  obtain ⟨q, dy, rfl, e2⟩ := h2
  exact ⟨p, q, dx, dy, _, _, rfl, rfl, e1, e2⟩
theorem mulW {i j : Int} {a b : Nat} (ha : i.natAbs < 2 ^ a) (hb : j.natAbs < 2 ^ b) (h0 : 0 < a) (h1 : 0 < b) (h : a + b ≤ 1000000) : CMulW i j := wide_mul ha hb h0 h1 h
theorem lt_mul {i j : Int} {a b c : Nat} (ha : i.natAbs < 2 ^ a) (hb : j.natAbs < 2 ^ b) (h : a + b ≤ c) : (i * j).natAbs < 2 ^ c := Nat.lt_of_lt_of_le (wide_lt ha hb) (Nat.pow_le_pow_right (by decide) h)
theorem lt_add {i j : Int} {a c : Nat} (ha : i.natAbs < 2 ^ a) (hb : j.natAbs < 2 ^ a) (h : a + 1 ≤ c) : (i + j).natAbs < 2 ^ c := by
  have h1 := Nat.pow_le_pow_right (n := 2) (by decide) h
  rw [Nat.pow_succ] at h1
  have := Int.natAbs_add_le i j
  omega
theorem lt_sub {i j : Int} {a c : Nat} (ha : i.natAbs < 2 ^ a) (hb : j.natAbs < 2 ^ a) (h : a + 1 ≤ c) : (i - j).natAbs < 2 ^ c := by
  have h1 := Nat.pow_le_pow_right (n := 2) (by decide) h
  rw [Nat.pow_succ] at h1
  have := Int.natAbs_sub_le i j
  omega
theorem lt_up {i : Int} {a c : Nat} (ha : i.natAbs < 2 ^ a) (h : a ≤ c) : i.natAbs < 2 ^ c := Nat.lt_of_lt_of_le ha (Nat.pow_le_pow_right (by decide) h)
theorem Sz.den {B : Nat} {q : Rat} (h : Sz B q) : ((q.den : Int)).natAbs < 2 ^ B := by
  rw [Int.natAbs_natCast]; exact h.2
theorem q_add (a b : Rat) : Rat.divInt (a.num * b.den + b.num * a.den) (a.den * b.den) = a + b := by
  have h := Rat.divInt_add_divInt a.num b.num (d₁ := a.den) (d₂ := b.den) (by have := a.den_nz; omega) (by have := b.den_nz; omega)
  rw [q_self, q_self] at h
  exact h.symm
theorem q_add2 {a b c d : Int} (hb : 0 < b) (hd : 0 < d) : Rat.divInt (a * d + c * b) (b * d) = Rat.divInt a b + Rat.divInt c d := (Rat.divInt_add_divInt a c (by omega) (by omega)).symm
theorem q_sub2 {a b c d : Int} (hb : 0 < b) (hd : 0 < d) : Rat.divInt (a * d - c * b) (b * d) = Rat.divInt a b - Rat.divInt c d := (Rat.divInt_sub_divInt a c (by omega) (by omega)).symm
theorem q_mul2 {a b c d : Int} (hb : 0 < b) (hd : 0 < d) : Rat.divInt (a * c) (b * d) = Rat.divInt a b * Rat.divInt c d := (Rat.divInt_mul_divInt a c).symm
theorem q_lt2 {a b c d : Int} (hb : 0 < b) (hd : 0 < d) : decide (a * d < c * b) = decide (Rat.divInt a b < Rat.divInt c d) := by
  refine decide_eq_decide.mpr ?_
  have hb' : (0 : Rat) < (b : Rat) := Rat.intCast_lt_intCast.mpr hb
  have hd' : (0 : Rat) < (d : Rat) := Rat.intCast_lt_intCast.mpr hd
  have e : (c : Rat) / d * b = (c * b : Rat) / d := by rw [Rat.div_def, Rat.div_def, Rat.mul_assoc, Rat.mul_assoc, Rat.mul_comm (d : Rat)⁻¹]
  rw [Rat.divInt_eq_div, Rat.divInt_eq_div, Rat.div_lt_iff hb', e, Rat.lt_div_iff hd', ← Rat.intCast_mul, ← Rat.intCast_mul, Rat.intCast_lt_intCast]
theorem q_sub (a b : Rat) : Rat.divInt (a.num * b.den - b.num * a.den) (a.den * b.den) = a - b := by
  have h := Rat.divInt_sub_divInt a.num b.num (d₁ := a.den) (d₂ := b.den) (by have := a.den_nz; omega) (by have := b.den_nz; omega)
  rw [q_self, q_self] at h
  exact h.symm
theorem q_lt (a b : Rat) : decide (a.num * b.den < b.num * a.den) = decide (a < b) := by
  exact decide_eq_decide.mpr (Rat.lt_iff a b).symm
theorem q_mul (a b : Rat) : Rat.divInt (a.num * b.num) (a.den * b.den) = a * b := by
  have h := Rat.divInt_mul_divInt a.num b.num (d₁ := a.den) (d₂ := b.den)
  rw [q_self, q_self] at h
  exact h.symm
theorem log2_lt {n : Nat} (h : n < 2 ^ 1900) : n.log2 < 1920 := by
  by_cases z : n = 0
  · subst z; decide
  · have := (Nat.log2_lt z).mpr h
    omega
theorem txt_len {i : Int} (h : i.natAbs.log2 < 1920) : (Str.ofString (toString i)).length ≤ 1921 := by
  rw [PySem.ofString_length]
  exact int_text_length_le (by decide) h
theorem q_by {a b : Rat} {s : Int} (hs : s ≠ 0) : Rat.divInt (s * a.num * b.den) (a.den * (s * b.num)) = a / b := by
  have h1 : a / b = Rat.divInt a.num a.den * (Rat.divInt b.num b.den)⁻¹ := by rw [q_self, q_self, Rat.div_def]
  have e1 : s * a.num * b.den = s * (a.num * b.den) := Int.mul_assoc ..
  have e2 : (a.den : Int) * (s * b.num) = s * (a.den * b.num) := Int.mul_left_comm ..
  rw [e1, e2, Rat.divInt_mul_left hs, h1, Rat.inv_divInt, Rat.divInt_mul_divInt]
theorem q_eq (a b : Rat) : (decide (a.num = b.num) && decide ((a.den : Int) = b.den)) = decide (a = b) := by
  by_cases h : a = b
  · subst h; simp
  · rw [decide_eq_false h]
    by_cases h1 : a.num = b.num
    · by_cases h2 : a.den = b.den
      · exact absurd (Rat.ext h1 h2) h
      · rw [decide_eq_false (p := (a.den : Int) = b.den) (by omega)]; simp
    · rw [decide_eq_false h1]; rfl
structure Pool where
  ns : List Int
  at_ : Int
  big : Int
  st : Int
  cnt : Int
  bud : Int
abbrev MM : Int := 2147483647
def Pool.ok (s : Pool) : Prop := 0 ≤ s.at_ ∧ 0 ≤ s.st ∧ s.st < MM ∧ s.ns.length ≤ 63
def Pool.feed (s : Pool) : Pool :=
  if s.big ≤ 0 ∧ s.cnt ≤ 0 ∧ s.at_ < s.ns.length then
    { s with at_ := s.at_ + 1, st := (s.st * 31 + s.ns.getD s.at_.toNat 0) % MM, cnt := 7, big := if s.ns.getD s.at_.toNat 0 ≥ 10 ^ 18 then s.ns.getD s.at_.toNat 0 else s.big }
  else s
def Pool.draw1 (s : Pool) (size : Int) : Int × Pool :=
  if s.big > 0 then (s.big % size, { s with big := s.big / size, cnt := 0 })
  else ((((s.st * 48271 + 12345) % MM) * 69621 + 7919) % MM % size, { s with cnt := s.cnt - 1, st := (s.st * 48271 + 12345) % MM })
def Pool.draw (s : Pool) (size : Int) : Int × Pool := s.feed.draw1 size
def Pool.start (ns : List Int) (b : Int) : Pool := ⟨ns, 0, 0, 1, 0, b⟩
theorem Pool.start_ok {ns : List Int} {b : Int} (h : ns.length ≤ 63) : (Pool.start ns b).ok := ⟨Int.le_refl 0, (by show (0 : Int) ≤ 1; decide), (by show (1 : Int) < MM; decide), h⟩
theorem Pool.feed_ok {s : Pool} (h : s.ok) : s.feed.ok := by
  obtain ⟨h1, h2, h3, h4⟩ := h
  unfold Pool.feed
  split
  · exact ⟨by show 0 ≤ s.at_ + 1; omega, Int.emod_nonneg _ (by decide), Int.emod_lt_of_pos _ (by decide), h4⟩
  · exact ⟨h1, h2, h3, h4⟩
theorem Pool.draw_ok {s : Pool} {n : Int} (h : s.ok) : (s.draw n).2.ok := by
  obtain ⟨h1, h2, h3, h4⟩ := Pool.feed_ok h
  unfold Pool.draw Pool.draw1
  split
  · exact ⟨h1, h2, h3, h4⟩
  · exact ⟨h1, Int.emod_nonneg _ (by decide), Int.emod_lt_of_pos _ (by decide), h4⟩
theorem Pool.draw_lt {s : Pool} {n : Int} (h : 0 < n) : 0 ≤ (s.draw n).1 ∧ (s.draw n).1 < n := by
  unfold Pool.draw Pool.draw1
  split
  · exact ⟨Int.emod_nonneg _ (by omega), Int.emod_lt_of_pos _ h⟩
  · exact ⟨Int.emod_nonneg _ (by omega), Int.emod_lt_of_pos _ h⟩
def Pool.vs (s : Pool) (a : Addr) : List V := [.ref a, .int s.at_, .int s.big, .int s.st, .int s.cnt, .int s.bud]
structure PoolAt (F H : Hp) (p : Addr) (s : Pool) : Prop where
  ok : s.ok
  out : F p = none
  ex : ∃ a, H p = some (.lst (s.vs a)) ∧ F a = some (.lst (s.ns.map V.int))
theorem PoolAt.nx {F H F' H' : Hp} {p : Addr} {s : Pool} (h : PoolAt F H p s) (n : Nx [] F H F' H') : PoolAt F' H' p s := by
  obtain ⟨a, h1, h2⟩ := h.ex
  exact ⟨h.ok, n.out p h.out (by rw [h1]; simp), a, n.keep p _ (by simp) h1, n.ff _ _ h2⟩
theorem pool_cell {s : Pool} (h : s.ok) (c : s.at_ < s.ns.length) : atI (s.ns.map V.int) s.at_ = some (.int (s.ns.getD s.at_.toNat 0)) := by
  obtain ⟨h1, _⟩ := h
  obtain ⟨n, hn⟩ : ∃ n : Nat, s.at_ = n := ⟨s.at_.toNat, by omega⟩
  rw [hn] at c ⊢
  have c' : n < s.ns.length := by omega
  refine atI_nat ?_
  rw [List.getElem?_map, List.getElem?_eq_getElem c', List.getD_eq_getElem?_getD, Int.toNat_natCast, List.getElem?_eq_getElem c']
  rfl
def spDraw : Sp := fun vs H Q _ => ∃ p s F size, vs = [.ref p, .int size] ∧ Ext F H ∧ PoolAt F H p s ∧ 0 < size ∧ size < 1073741824 ∧
  ∀ H', Nx [p] F H F H' → PoolAt F H' p (s.draw size).2 → Q (.int (s.draw size).1) H'
def spPool (K : PySem.W.Frag) : Sp := fun vs H Q _ => ∃ (a : Addr) (ns : List Int) (F : Hp) (b : Int), vs = [.ref a, .int b] ∧ Ext F H ∧ SqL K F a (ns.map V.int) ∧ ns.length ≤ 63 ∧
  ∀ p F' H', Nx [] F H F' H' → PoolAt F' H' p (Pool.start ns b) → H p = none → Q (.ref p) H'
def spLess : Sp := fun vs H Q _ => ∃ F n d, vs = [.int n, .int d] ∧ Ext F H ∧ 0 < d ∧ n.natAbs < 2 ^ 1999 ∧ d.natAbs < 2 ^ 1999 ∧ ∀ v F' H', Nx [] F H F' H' → tQ.rel F' v (Rat.divInt n d) → Q v H'
def spPr2 (f : Rat → Rat → Rat) : Sp := fun vs H Q _ => ∃ F x y a b, vs = [x, y] ∧ Ext F H ∧ tP.rel F x a ∧ tP.rel F y b ∧ 0 < a.2 ∧ 0 < b.2 ∧
  (∃ k l, a.1.natAbs < 2 ^ k ∧ a.2.natAbs < 2 ^ k ∧ b.1.natAbs < 2 ^ l ∧ b.2.natAbs < 2 ^ l ∧ 0 < k ∧ 0 < l ∧ k + l < 1999) ∧
  ∀ v F' H', Nx [] F H F' H' → tQ.rel F' v (f (Rat.divInt a.1 a.2) (Rat.divInt b.1 b.2)) → Q v H'
def spBelow : Sp := fun vs H Q _ => ∃ F x y a b, vs = [x, y] ∧ Ext F H ∧ tP.rel F x a ∧ tP.rel F y b ∧ 0 < a.2 ∧ 0 < b.2 ∧
  (∃ k, a.1.natAbs < 2 ^ k ∧ a.2.natAbs < 2 ^ k ∧ b.1.natAbs < 2 ^ k ∧ b.2.natAbs < 2 ^ k ∧ 0 < k ∧ k < 100000) ∧
  Q (.bl (decide (Rat.divInt a.1 a.2 < Rat.divInt b.1 b.2))) H
def spIs (R : Addr) : Sp := fun vs H Q _ => ∃ F x y q, vs = [x, y] ∧ Ext F H ∧ (tRat R).rel F x q ∧ tQ.rel F y q ∧ ∀ F' H', Nx [] F H F' H' → Q (.bl true) H'
def spRefused (R : Addr) : Sp := fun vs H Q _ => ∃ F x y, vs = [x, y] ∧ Ext F H ∧ ((∃ p : Int × Int, tP.rel F x p ∧ p.2 ≤ 0 ∧ p.2.natAbs < 2 ^ 9000 ∧ y = .non) ∨ ∃ a, (tRat R).rel F y a ∧ Sz 4000 a) ∧ ∀ F' H', Nx [] F H F' H' → Q (.bl true) H'
def spLaw (K : PySem.W.Frag) : Sp := fun vs H Q _ => ∃ (a : Addr) (ns : List Int) (F : Hp), vs = [.ref a] ∧ Ext F H ∧ SqL K F a (ns.map V.int) ∧ ns.length ≤ 63 ∧ ∀ H', Q (.bl true) H'
end Lw
namespace Lw
open PySem PySem.Spec PyProof.Rows L2 L2.My
def tyD : PyData → Value
  | .none => .type "NoneType" | .bool _ => .type "bool" | .int _ => .type "int" | .str _ => .type "str" | .list _ => .type "list" | .tuple _ => .type "tuple" | .dict _ => .type "dict"
theorem Dp.ty {K : PySem.W.Frag} {H : Hp} {v : V} {d : PyData} (h : Dp K H v d) : TyX K H v (tyD d) := by
  cases h with
  | non => exact .base .non
  | bl b => exact .base (.bl b)
  | int i => exact .base (.int i)
  | str x => exact .base (.str x)
  | lst q _ =>
    rcases q with (q | ⟨o, q⟩) | ⟨o, its, n, h1, h2, _⟩
    · exact .base (.lst q)
    · exact .base (.frz q)
    · exact .kList h1 h2
  | tup q _ =>
    rcases q with (q | ⟨o, q⟩) | ⟨o, its, n, h1, h2, _⟩
    · exact .base (.tup q)
    · exact .fTuple q
    · exact .kTuple h1 h2
def dOk : Nat → PyData → Prop
  | 0, _ => False
  | _ + 1, .dict _ => False
  | n + 1, .list ds => ds.length < 16777216 ∧ ∀ e ∈ ds, dOk n e
  | n + 1, .tuple ds => ds.length < 16777216 ∧ ∀ e ∈ ds, dOk n e
  | _ + 1, _ => True
def spSame (K : PySem.W.Frag) (n : Nat) : Sp := fun vs H Q _ => ∃ x y d, vs = [x, y] ∧ Dp K H x d ∧ Dp K H y d ∧ dOk n d ∧ Q (.bl true) H
theorem lst_of {K : PySem.W.Frag} {H : Hp} {v : V} {ds : List PyData} (h : Dp K H v (.list ds)) : ∃ a xs, v = .ref a ∧ SqL K H a xs ∧ DpAll K H xs ds := by
  cases h with
  | lst q r => exact ⟨_, _, rfl, q, r⟩
theorem tup_of {K : PySem.W.Frag} {H : Hp} {v : V} {ds : List PyData} (h : Dp K H v (.tuple ds)) : ∃ a xs, v = .ref a ∧ SqT K H a xs ∧ DpAll K H xs ds := by
  cases h with
  | tup q r => exact ⟨_, _, rfl, q, r⟩
theorem DpAll.len {K : PySem.W.Frag} {H : Hp} : ∀ {vs : List V} {ds : List PyData}, DpAll K H vs ds → vs.length = ds.length
  | [], [], _ => rfl
  | _ :: _, _ :: _, .cons _ t => congrArg (· + 1) (DpAll.len t)
theorem DpAll.get {K : PySem.W.Frag} {H : Hp} : ∀ {vs : List V} {ds : List PyData} {i : Nat} {d : PyData}, DpAll K H vs ds → ds[i]? = some d → ∃ v, vs[i]? = some v ∧ Dp K H v d
  | _ :: _, _ :: _, 0, _, .cons h _, e => by
    simp at e; subst e; exact ⟨_, rfl, h⟩
  | _ :: vs, _ :: ds, i + 1, d, .cons _ t, e => by
    obtain ⟨v, e1, h⟩ := DpAll.get (i := i) t (by simpa using e)
    exact ⟨v, by simpa using e1, h⟩
  | [], [], _, _, _, e => by simp at e
section
variable {K K' : PySem.W.Frag} {H : Hp} {Q : VK} {v : V} {d : PyData}
theorem g_isiTup (hK : K' = K) (k : Q (.bl (match d with | .tuple _ => true | _ => false)) H) (h : Dp K H v d) : rIsi K' [v, .ty "tuple"] H Q := by
  subst hK
  refine g_isi (.ty _) (Dp.ty h) ?_ k
  cases d <;> rfl
theorem g_isiLst (hK : K' = K) (k : Q (.bl (match d with | .list _ => true | _ => false)) H) (h : Dp K H v d) : rIsi K' [v, .ty "list"] H Q := by
  subst hK
  refine g_isi (.ty _) (Dp.ty h) ?_ k
  cases d <;> rfl
theorem g_isiBool (hK : K' = K) (k : Q (.bl (match d with | .bool _ => true | _ => false)) H) (h : Dp K H v d) : rIsi K' [v, .ty "bool"] H Q := by
  subst hK
  refine g_isi (.ty _) (Dp.ty h) ?_ k
  cases d <;> rfl
theorem g_isiInt (hK : K' = K) (k : Q (.bl (match d with | .bool _ => true | .int _ => true | _ => false)) H) (h : Dp K H v d) : rIsi K' [v, .ty "int"] H Q := by
  subst hK
  refine g_isi (.ty _) (Dp.ty h) ?_ k
  cases d <;> rfl
theorem g_isiStr (hK : K' = K) (k : Q (.bl (match d with | .str _ => true | _ => false)) H) (h : Dp K H v d) : rIsi K' [v, .ty "str"] H Q := by
  subst hK
  refine g_isi (.ty _) (Dp.ty h) ?_ k
  cases d <;> rfl
end
end Lw
namespace Lw
open PySem PySem.Spec PyProof.Rows L2 L2.My
theorem div_sz {n d : Int} {b : Nat} (hd : 0 < d) (hn : n.natAbs < 2 ^ b) (hD : d.natAbs < 2 ^ b) : Sz b (Rat.divInt n d) := by
  have hg := gcd_dvd_le (n := n) hd
  refine ⟨?_, ?_⟩
  · rw [q_num hd]
    exact Nat.lt_of_le_of_lt (Int.natAbs_ediv_le_natAbs _ _) hn
  · have h1 := q_den (n := n) hd
    have h2 : d / (Int.gcd n d : Int) ≤ d := Int.ediv_le_self _ (by omega)
    omega
theorem Sz.up {a b : Nat} {q : Rat} (h : Sz a q) (hab : a ≤ b) : Sz b q := ⟨Nat.lt_of_lt_of_le h.1 (Nat.pow_le_pow_right (by decide) hab), Nat.lt_of_lt_of_le h.2 (Nat.pow_le_pow_right (by decide) hab)⟩
theorem lt_pow {n : Int} {a b : Nat} (h : n.natAbs < 2 ^ a) (hab : a ≤ b) : n.natAbs < 2 ^ b := Nat.lt_of_lt_of_le h (Nat.pow_le_pow_right (by decide) hab)
section
variable {F H : Hp} {Q : VK} {E : XK} {R B : Addr} {K : PySem.W.Frag}
theorem st_draw {p : Addr} {z : Int} {s : Pool} (e : Ext F H) (hP : PoolAt F H p s) (z0 : 0 < z) (z1 : z < 1073741824) (k : ∀ d s' H', 0 ≤ d → d < z → Nx [p] F H F H' → PoolAt F H' p s' → Q (.int d) H') : spDraw [.ref p, .int z] H Q E :=
  ⟨p, s, F, z, rfl, e, hP, z0, z1, fun H' n h => k _ _ _ (Pool.draw_lt z0).1 (Pool.draw_lt z0).2 n h⟩
theorem st_less {n d : Int} (e : Ext F H) (hd : 0 < d) (h1 : n.natAbs < 2 ^ 1900) (h2 : d.natAbs < 2 ^ 1900) (k : ∀ v F' H', Nx [] F H F' H' → tQ.rel F' v (Rat.divInt n d) → Q v H') : spLess [.int n, .int d] H Q E :=
  ⟨F, n, d, rfl, e, hd, lt_pow h1 (by decide), lt_pow h2 (by decide), k⟩
theorem st_pr2 {f : Rat → Rat → Rat} {x y : V} {a b : Int × Int} (e : Ext F H) (hx : tP.rel F x a) (hy : tP.rel F y b) (da : 0 < a.2) (db : 0 < b.2) (a1 : a.1.natAbs < 2 ^ 900) (a2 : a.2.natAbs < 2 ^ 900) (b1 : b.1.natAbs < 2 ^ 900) (b2 : b.2.natAbs < 2 ^ 900)
    (k : ∀ v F' H', Nx [] F H F' H' → tQ.rel F' v (f (Rat.divInt a.1 a.2) (Rat.divInt b.1 b.2)) → Q v H') : spPr2 f [x, y] H Q E :=
  ⟨F, x, y, a, b, rfl, e, hx, hy, da, db, ⟨900, 900, a1, a2, b1, b2, by decide, by decide, by decide⟩, k⟩
theorem st_below {x y : V} {a b : Int × Int} (e : Ext F H) (hx : tP.rel F x a) (hy : tP.rel F y b) (da : 0 < a.2) (db : 0 < b.2) (a1 : a.1.natAbs < 2 ^ 900) (a2 : a.2.natAbs < 2 ^ 900) (b1 : b.1.natAbs < 2 ^ 900) (b2 : b.2.natAbs < 2 ^ 900)
    (k : Q (.bl (decide (Rat.divInt a.1 a.2 < Rat.divInt b.1 b.2))) H) : spBelow [x, y] H Q E :=
  ⟨F, x, y, a, b, rfl, e, hx, hy, da, db, ⟨900, a1, a2, b1, b2, by decide, by decide⟩, k⟩
theorem st_r2 {f : Rat → Rat → Rat} {x y : V} {a b : Rat} (e : Ext F H) (hx : (tRat R).rel F x a) (hy : (tRat R).rel F y b) (sa : Sz 4000 a) (sb : Sz 4000 b) (k : ∀ v F' H', Nx [] F H F' H' → (tRat R).rel F' v (f a b) → Q v H') : spR2 R f [x, y] H Q E :=
  ⟨F, x, y, a, b, rfl, e, hx, hy, sa, sb, k⟩
theorem st_op {f : Rat → Rat → Rat} {x y : V} {a b : Rat} (e : Ext F H) (hx : (tRat R).rel F x a) (hy : (tRat R).rel F y b) (sa : Sz 4000 a) (sb : Sz 4000 b) (k : ∀ v F' H', Nx [] F H F' H' → (tRat R).rel F' v (f a b) → Q v H') : rOwn R (spR2 R f) E x y H Q :=
  ⟨rat_ins ((tRat R).mono e hx) ((tRat R).mono e hy), st_r2 e hx hy sa sb k⟩
theorem st_is {x y : V} {q : Rat} (e : Ext F H) (hx : (tRat R).rel F x q) (hy : tQ.rel F y q) (k : ∀ F' H', Nx [] F H F' H' → Q (.bl true) H') : spIs R [x, y] H Q E := ⟨F, x, y, q, rfl, e, hx, hy, k⟩
theorem st_eq {x y : V} {a b : Rat} (e : Ext F H) (hx : (tRat R).rel F x a) (hy : (tRat R).rel F y b) (k : ∀ H', Ext H H' → Q (.bl (decide (a = b))) H') : rEqBB (DInsb R (eqR R)) x y H Q := by
  have hx' := (tRat R).mono e hx
  have hy' := (tRat R).mono e hy
  obtain ⟨p, dx, rfl, hp⟩ := id hx'
  obtain ⟨q, dy, rfl, hq⟩ := id hy'
  exact ⟨_, ⟨p, q, dx, dy, _, _, rfl, rfl, hp, hq, a, b, hx', hy', rfl⟩, k⟩
theorem st_sameB {b : Bool} (k : Q (.bl true) H) : spSame K 6 [.bl b, .bl b] H Q E := ⟨_, _, .bool b, rfl, .bl b, .bl b, trivial, k⟩
theorem st_sameB2 {b c : Bool} (h : b = c) (k : Q (.bl true) H) : spSame K 6 [.bl b, .bl c] H Q E := by subst h; exact st_sameB k
theorem st_sameI {i : Int} (k : Q (.bl true) H) : spSame K 6 [.int i, .int i] H Q E := ⟨_, _, .int i, rfl, .int i, .int i, trivial, k⟩
theorem st_sameS {i : Str} (k : Q (.bl true) H) : spSame K 6 [.str i, .str i] H Q E := ⟨_, _, .str i, rfl, .str i, .str i, trivial, k⟩
theorem dp_pair {v : V} {x : Int × Int} (e : Ext F H) (h : tP.rel F v x) : Dp K H v (.tuple [.int x.1, .int x.2]) := by
  obtain ⟨p, w, w', rfl, h2, h3, h4⟩ := h
  cases h3; cases h4
  exact .tup (SqT.of (e _ _ h2)) (.cons (.int _) (.cons (.int _) .nil))
theorem eqv_pair (a b : Rat) : PyData.eqv (.tuple [.int (pr a).1, .int (pr a).2]) (.tuple [.int (pr b).1, .int (pr b).2]) = decide (a = b) := by
  rw [← q_eq]
  simp [PyData.eqv, PyData.eqvAll, pr, Bool.beq_eq_decide_eq]
theorem shaped_pair (x : Int × Int) : SeqAt.shaped (.tuple [.int x.1, .int x.2]) = true := rfl
theorem st_eqQ {x y : V} {a b : Rat} (e : Ext F H) (hx : tQ.rel F x a) (hy : tQ.rel F y b) (k : Q (.bl (decide (a = b))) H) : rEqD K x y H Q := by
  refine ⟨_, _, dp_pair e hx, dp_pair e hy, rfl, rfl, ?_⟩
  rw [eqv_pair]; exact k
theorem st_str {x : V} {a : Rat} (e : Ext F H) (hx : (tRat R).rel F x a) (sa : Sz 1900 a) (k : Q (.str (strQ a)) H) : rStrOwn R (spRStr R) E [x] H Q := by
  obtain ⟨p, dx, rfl, hp⟩ := id hx
  exact ⟨p, dx, _, rfl, e _ _ hp, F, _, a, rfl, e, hx, sa, ⟨⟨_, rfl⟩, k⟩⟩
theorem st_tup {xs : List V} (e : Ext F H) (k : ∀ p F' H', Nx [] F H F' H' → F' p = some (.tup xs) → Q (.ref p) H') (hl : xs.length ≤ 16777216 := by simp only [List.length_cons, List.length_nil]; decide) : TupQ xs H Q :=
  ⟨by rw [sizeLine_eq]; exact hl, fun p hp => k p _ _ (Nx.new e hp) upd_same⟩
theorem st_lst {xs : List V} (e : Ext F H) (k : ∀ p H', Nx [] F H F H' → H' p = some (.lst xs) → F p = none → H p = none → Q (.ref p) H') (hl : xs.length ≤ 16777216 := by simp only [List.length_cons, List.length_nil]; decide) : LstQ xs H Q :=
  ⟨by rw [sizeLine_eq]; exact hl, fun p hp => k p _ (Nx.open_ e hp) upd_same (ext_none e hp) hp⟩
theorem st_ixT {p : Addr} {xs : List V} {i : Int} {v : V} (e : Ext F H) (h : F p = some (.tup xs)) (ei : atI xs i = some v) (k : Q v H) : rIxT K (.ref p) (.int i) H Q := ⟨p, xs, i, v, rfl, rfl, SqT.of (e _ _ h), ei, k⟩
theorem st_rless {x y : V} {a b : Rat} (e : Ext F H) (hx : (tRat R).rel F x a) (hy : (tRat R).rel F y b) (sa : Sz 4000 a) (sb : Sz 4000 b) (k : Q (.bl (decide (a < b))) H) : spRLess R [x, y] H Q E := ⟨F, x, y, a, b, rfl, e, hx, hy, sa, sb, k⟩
theorem st_by {x y : V} {a b : Rat} (e : Ext F H) (hx : (tRat R).rel F x a) (hy : (tRat R).rel F y b) (sa : Sz 4000 a) (sb : Sz 4000 b) (hb : b ≠ 0) (k : ∀ v F' H', Nx [] F H F' H' → (tRat R).rel F' v (a / b) → Q v H') : spRBy R B [x, y] H Q E := ⟨F, x, y, a, b, rfl, e, hx, hy, sa, sb, fun z => absurd z hb, fun _ => k⟩
end
theorem q_byk {a b c d s : Int} (hb : 0 < b) (hd : 0 < d) (hs : s ≠ 0) : Rat.divInt (a * d * s) (b * c * s) = Rat.divInt a b / Rat.divInt c d := by
  rw [Int.mul_comm _ s, Int.mul_comm _ s, Rat.divInt_mul_left hs, Rat.div_def, Rat.inv_divInt, Rat.divInt_mul_divInt]
theorem q_ne0 {a b : Int} (ha : a ≠ 0) (hb : 0 < b) : Rat.divInt a b ≠ 0 := by
  intro z
  have h := q_num (n := a) hb
  rw [z] at h
  have d : (Int.gcd a b : Int) ∣ a := Int.gcd_dvd_left ..
  have e := Int.ediv_mul_cancel d
  rw [← h] at e
  exact ha (by simpa using e.symm)
theorem q_7 : pr (Rat.divInt 7 1) = (7, 1) := by decide +kernel
end Lw
namespace Hd
open PySem PySem.Spec PyProof.Rows L2
def top (i : Nat) : Stmt := PySem.Challenge.pw_notesttells_k00_fractions.main.body.getD i (.Pass ⟨0, 0, 0, 0⟩)
abbrev s_BadText_init : Stmt := inClass (top 2) 0
def d_BadText_init : He.SupD := ⟨"BadText", "BadText.__init__", defArgs s_BadText_init, defBody s_BadText_init, defScope s_BadText_init⟩
abbrev s_BadPaper_init : Stmt := inClass (top 3) 0
def d_BadPaper_init : He.SupD := ⟨"BadPaper", "BadPaper.__init__", defArgs s_BadPaper_init, defBody s_BadPaper_init, defScope s_BadPaper_init⟩
abbrev s_BadMachine_init : Stmt := inClass (top 4) 0
def d_BadMachine_init : He.SupD := ⟨"BadMachine", "BadMachine.__init__", defArgs s_BadMachine_init, defBody s_BadMachine_init, defScope s_BadMachine_init⟩
abbrev s_TooLarge_init : Stmt := inClass (top 5) 0
def d_TooLarge_init : He.SupD := ⟨"TooLarge", "TooLarge.__init__", defArgs s_TooLarge_init, defBody s_TooLarge_init, defScope s_TooLarge_init⟩
abbrev s_BadRatio_init : Stmt := inClass (top 6) 0
def d_BadRatio_init : He.SupD := ⟨"BadRatio", "BadRatio.__init__", defArgs s_BadRatio_init, defBody s_BadRatio_init, defScope s_BadRatio_init⟩
abbrev s_Ratio_init : Stmt := inClass (top 8) 0
def d_Ratio_init : He.DefD := ⟨("Ratio", some "__init__"), "__init__", "Ratio.__init__", defArgs s_Ratio_init, defBody s_Ratio_init, defScope s_Ratio_init, [.int 1], []⟩
abbrev s_Ratio_eq : Stmt := inClass (top 8) 1
def d_Ratio_eq : He.DefD := ⟨("Ratio", some "__eq__"), "__eq__", "Ratio.__eq__", defArgs s_Ratio_eq, defBody s_Ratio_eq, defScope s_Ratio_eq, [], []⟩
abbrev s_Ratio_add : Stmt := inClass (top 8) 2
def d_Ratio_add : He.DefD := ⟨("Ratio", some "__add__"), "__add__", "Ratio.__add__", defArgs s_Ratio_add, defBody s_Ratio_add, defScope s_Ratio_add, [], []⟩
abbrev s_Ratio_sub : Stmt := inClass (top 8) 3
def d_Ratio_sub : He.DefD := ⟨("Ratio", some "__sub__"), "__sub__", "Ratio.__sub__", defArgs s_Ratio_sub, defBody s_Ratio_sub, defScope s_Ratio_sub, [], []⟩
abbrev s_Ratio_mul : Stmt := inClass (top 8) 4
def d_Ratio_mul : He.DefD := ⟨("Ratio", some "__mul__"), "__mul__", "Ratio.__mul__", defArgs s_Ratio_mul, defBody s_Ratio_mul, defScope s_Ratio_mul, [], []⟩
abbrev s_Ratio_str : Stmt := inClass (top 8) 5
def d_Ratio_str : He.DefD := ⟨("Ratio", some "__str__"), "__str__", "Ratio.__str__", defArgs s_Ratio_str, defBody s_Ratio_str, defScope s_Ratio_str, [], []⟩
abbrev s_Ratio_less : Stmt := inClass (top 8) 6
def d_Ratio_less : He.DefD := ⟨("Ratio", some "less"), "less", "Ratio.less", defArgs s_Ratio_less, defBody s_Ratio_less, defScope s_Ratio_less, [], []⟩
abbrev s_Ratio_by : Stmt := inClass (top 8) 7
def d_Ratio_by : He.DefD := ⟨("Ratio", some "by"), "by", "Ratio.by", defArgs s_Ratio_by, defBody s_Ratio_by, defScope s_Ratio_by, [], []⟩
abbrev s_l_pool : Stmt := top 10
def d_l_pool : He.DefD := ⟨("_law_pool", none), "_law_pool", "_law_pool", defArgs s_l_pool, defBody s_l_pool, defScope s_l_pool, [], []⟩
abbrev s_l_draw : Stmt := top 11
def d_l_draw : He.DefD := ⟨("_law_draw", none), "_law_draw", "_law_draw", defArgs s_l_draw, defBody s_l_draw, defScope s_l_draw, [], []⟩
abbrev s_l_same : Stmt := top 12
def d_l_same : He.DefD := ⟨("_law_same", none), "_law_same", "_law_same", defArgs s_l_same, defBody s_l_same, defScope s_l_same, [], []⟩
abbrev s_l_less : Stmt := top 13
def d_l_less : He.DefD := ⟨("_law_less", none), "_law_less", "_law_less", defArgs s_l_less, defBody s_l_less, defScope s_l_less, [], []⟩
abbrev s_l_plus : Stmt := top 14
def d_l_plus : He.DefD := ⟨("_law_plus", none), "_law_plus", "_law_plus", defArgs s_l_plus, defBody s_l_plus, defScope s_l_plus, [], []⟩
abbrev s_l_minus : Stmt := top 15
def d_l_minus : He.DefD := ⟨("_law_minus", none), "_law_minus", "_law_minus", defArgs s_l_minus, defBody s_l_minus, defScope s_l_minus, [], []⟩
abbrev s_l_times : Stmt := top 16
def d_l_times : He.DefD := ⟨("_law_times", none), "_law_times", "_law_times", defArgs s_l_times, defBody s_l_times, defScope s_l_times, [], []⟩
abbrev s_l_below : Stmt := top 17
def d_l_below : He.DefD := ⟨("_law_below", none), "_law_below", "_law_below", defArgs s_l_below, defBody s_l_below, defScope s_l_below, [], []⟩
abbrev s_l_is : Stmt := top 18
def d_l_is : He.DefD := ⟨("_law_is", none), "_law_is", "_law_is", defArgs s_l_is, defBody s_l_is, defScope s_l_is, [], []⟩
abbrev s_l_refused : Stmt := top 19
def d_l_refused : He.DefD := ⟨("_law_refused", none), "_law_refused", "_law_refused", defArgs s_l_refused, defBody s_l_refused, defScope s_l_refused, [], []⟩
abbrev s_law : Stmt := top 20
def d_law : He.DefD := ⟨("law", none), "law", "law", defArgs s_law, defBody s_law, defScope s_law, [], []⟩
def fn : List He.DefD := [d_Ratio_init, d_Ratio_eq, d_Ratio_add, d_Ratio_sub, d_Ratio_mul, d_Ratio_str, d_Ratio_less, d_Ratio_by, d_l_pool, d_l_draw, d_l_same, d_l_less, d_l_plus, d_l_minus, d_l_times, d_l_below, d_l_is, d_l_refused, d_law]
def fs : List He.SupD := [d_BadText_init, d_BadPaper_init, d_BadMachine_init, d_TooLarge_init, d_BadRatio_init]
def fa : List He.Fa := [.glo "_law_pool", .glo "_law_draw", .glo "_law_same", .glo "_law_less", .glo "_law_plus", .glo "_law_minus", .glo "_law_times", .glo "_law_below", .glo "_law_is", .glo "_law_refused", .glo "law", .glo "TestError", .glo "BadText", .noat "BadText" "at", .exm "BadText" "TestError" true, .glo "BadPaper", .noat "BadPaper" "at", .exm "BadPaper" "TestError" true, .glo "BadMachine", .noat "BadMachine" "what", .exm "BadMachine" "TestError" true, .glo "TooLarge", .noat "TooLarge" "what", .exm "TooLarge" "TestError" true, .glo "BadRatio", .exm "BadRatio" "TestError" true, .glo "Ratio", .cls "Ratio", .mkr "Ratio", .noat "Ratio" "num", .noat "Ratio" "den", .meth "Ratio" "__eq__", .meth "Ratio" "__add__", .meth "Ratio" "__sub__", .meth "Ratio" "__mul__", .meth "Ratio" "__str__", .meth "Ratio" "less", .meth "Ratio" "by", .free "len", .free "int", .free "abs", .free "range", .free "str", .free "isinstance", .free "tuple", .free "list", .free "ValueError", .free "super", .free "bool"]
def ex (K : PySem.W.Frag) : Bool := He.excB K "BadText" && (He.excB K "BadPaper" && (He.excB K "BadMachine" && (He.excB K "TooLarge" && (He.excB K "BadRatio" && (He.opsB K "Ratio" && (He.clsB K "Ratio" && (He.kitRR K "BadRatio" "BadMachine" false && (He.kitRR K "BadRatio" "BadPaper" false && (He.kitRR K "BadRatio" "BadText" false && (He.kitRR K "BadRatio" "TooLarge" false && (He.kitRT K "BadRatio" "ValueError" true)))))))))))
abbrev R : PySem.W.OpenRow := PySem.W.OpenLaw.row PySem.Challenge.rw_notesttells_k00_fractions
abbrev hk : PySem.W.Hook := He.hookM PySem.Challenge.pw_notesttells_k00_fractions 5 fa fn fs ex
def ob (s : PySem.W.SharedT) : He.AlM := He.obsMG PySem.Challenge.pw_notesttells_k00_fractions 5 fa fn fs ex (HandSHeadRun.getT s)
theorem ob_eq (s : PySem.W.SharedT) : ob s = hk.obs s.abs := He.obsMG_eq (HandSHeadRun.getT_eq s)
def nm0 : List PySem.Str := ["TestError", "BadText", "BadPaper", "BadMachine", "TooLarge", "BadRatio", "Ratio", "_law_pool", "_law_draw", "_law_same", "_law_less", "_law_plus", "_law_minus", "_law_times", "_law_below", "_law_is", "_law_refused"]
def names : List PySem.Str := nm0
theorem run (w : World) : HandSHeadRun.RunEq R (PySem.W.view R.prog [20]) hk ob 6000 names w := by
  intro os
  kernel_rfl
end Hd
namespace Lw
open PySem PySem.Spec PyProof.Rows L2 L2.My
structure Tx (K : PySem.W.Frag) (mg : Str → Option Value) : Prop where
  g_TestError : mg "TestError" = some (.ref (He.ga K "TestError"))
  g_BadText : mg "BadText" = some (.ref (He.ga K "BadText"))
  x_BadText : PySem.SupX.SupTxt PySem.Challenge.pw_notesttells_k00_fractions K (He.ga K "BadText") (He.ma K (He.ga K "BadText") "__init__") "BadText.__init__" (defArgs Hd.s_BadText_init) (defBody Hd.s_BadText_init) (defScope Hd.s_BadText_init)
  n_BadText_at : PySem.W.findIn K (.ref (He.ga K "BadText")) "at" = some none
  e_BadText : ExcC K (He.ga K "BadText")
  h_BadText : PySem.W.exmOne K (.ref (He.ga K "BadText")) (.ref (He.ga K "TestError")) = some true
  g_BadPaper : mg "BadPaper" = some (.ref (He.ga K "BadPaper"))
  x_BadPaper : PySem.SupX.SupTxt PySem.Challenge.pw_notesttells_k00_fractions K (He.ga K "BadPaper") (He.ma K (He.ga K "BadPaper") "__init__") "BadPaper.__init__" (defArgs Hd.s_BadPaper_init) (defBody Hd.s_BadPaper_init) (defScope Hd.s_BadPaper_init)
  n_BadPaper_at : PySem.W.findIn K (.ref (He.ga K "BadPaper")) "at" = some none
  e_BadPaper : ExcC K (He.ga K "BadPaper")
  h_BadPaper : PySem.W.exmOne K (.ref (He.ga K "BadPaper")) (.ref (He.ga K "TestError")) = some true
  g_BadMachine : mg "BadMachine" = some (.ref (He.ga K "BadMachine"))
  x_BadMachine : PySem.SupX.SupTxt PySem.Challenge.pw_notesttells_k00_fractions K (He.ga K "BadMachine") (He.ma K (He.ga K "BadMachine") "__init__") "BadMachine.__init__" (defArgs Hd.s_BadMachine_init) (defBody Hd.s_BadMachine_init) (defScope Hd.s_BadMachine_init)
  n_BadMachine_what : PySem.W.findIn K (.ref (He.ga K "BadMachine")) "what" = some none
  e_BadMachine : ExcC K (He.ga K "BadMachine")
  h_BadMachine : PySem.W.exmOne K (.ref (He.ga K "BadMachine")) (.ref (He.ga K "TestError")) = some true
  g_TooLarge : mg "TooLarge" = some (.ref (He.ga K "TooLarge"))
  x_TooLarge : PySem.SupX.SupTxt PySem.Challenge.pw_notesttells_k00_fractions K (He.ga K "TooLarge") (He.ma K (He.ga K "TooLarge") "__init__") "TooLarge.__init__" (defArgs Hd.s_TooLarge_init) (defBody Hd.s_TooLarge_init) (defScope Hd.s_TooLarge_init)
  n_TooLarge_what : PySem.W.findIn K (.ref (He.ga K "TooLarge")) "what" = some none
  e_TooLarge : ExcC K (He.ga K "TooLarge")
  h_TooLarge : PySem.W.exmOne K (.ref (He.ga K "TooLarge")) (.ref (He.ga K "TestError")) = some true
  g_BadRatio : mg "BadRatio" = some (.ref (He.ga K "BadRatio"))
  x_BadRatio : PySem.SupX.SupTxt PySem.Challenge.pw_notesttells_k00_fractions K (He.ga K "BadRatio") (He.ma K (He.ga K "BadRatio") "__init__") "BadRatio.__init__" (defArgs Hd.s_BadRatio_init) (defBody Hd.s_BadRatio_init) (defScope Hd.s_BadRatio_init)
  e_BadRatio : ExcC K (He.ga K "BadRatio")
  h_BadRatio : PySem.W.exmOne K (.ref (He.ga K "BadRatio")) (.ref (He.ga K "TestError")) = some true
  g_Ratio : mg "Ratio" = some (.ref (He.ga K "Ratio"))
  k_Ratio : Cls K (He.ga K "Ratio")
  mk_Ratio : Mk K (He.ga K "Ratio") (He.ma K (He.ga K "Ratio") "__init__")
  n_Ratio_num : NoAttr K (He.ga K "Ratio") "num"
  n_Ratio_den : NoAttr K (He.ga K "Ratio") "den"
  me_Ratio_eq : Meth K (He.ga K "Ratio") "__eq__" (He.ma K (He.ga K "Ratio") "__eq__")
  me_Ratio_add : Meth K (He.ga K "Ratio") "__add__" (He.ma K (He.ga K "Ratio") "__add__")
  me_Ratio_sub : Meth K (He.ga K "Ratio") "__sub__" (He.ma K (He.ga K "Ratio") "__sub__")
  me_Ratio_mul : Meth K (He.ga K "Ratio") "__mul__" (He.ma K (He.ga K "Ratio") "__mul__")
  me_Ratio_str : Meth K (He.ga K "Ratio") "__str__" (He.ma K (He.ga K "Ratio") "__str__")
  me_Ratio_less : Meth K (He.ga K "Ratio") "less" (He.ma K (He.ga K "Ratio") "less")
  me_Ratio_by : Meth K (He.ga K "Ratio") "by" (He.ma K (He.ga K "Ratio") "by")
  o_Ratio : PySem.W.selfFirst K (He.ga K "Ratio") = true ∧ L2.My.NeC K (He.ga K "Ratio")
  q_Ratio : He.clsB K "Ratio" = true
  i_BadRatio_BadMachine : PySem.W.kitOne K (.ref (He.ga K "BadRatio")) (.ref (He.ga K "BadMachine")) = some false
  i_BadRatio_BadPaper : PySem.W.kitOne K (.ref (He.ga K "BadRatio")) (.ref (He.ga K "BadPaper")) = some false
  i_BadRatio_BadText : PySem.W.kitOne K (.ref (He.ga K "BadRatio")) (.ref (He.ga K "BadText")) = some false
  i_BadRatio_TooLarge : PySem.W.kitOne K (.ref (He.ga K "BadRatio")) (.ref (He.ga K "TooLarge")) = some false
  i_BadRatio_ValueError : PySem.W.kitOne K (.ref (He.ga K "BadRatio")) (.type "ValueError") = some true
  m_len : mg "len" = none
  m_int : mg "int" = none
  m_abs : mg "abs" = none
  m_range : mg "range" = none
  m_str : mg "str" = none
  m_isinstance : mg "isinstance" = none
  m_tuple : mg "tuple" = none
  m_list : mg "list" = none
  m_ValueError : mg "ValueError" = none
  m_super : mg "super" = none
  m_bool : mg "bool" = none
theorem tx_of {K : PySem.W.Frag} {h : Heap} {mg : Str → Option Value} (X : K.In h) (G : h.Ns mainGlobals mg) (c : He.SaysM PySem.Challenge.pw_notesttells_k00_fractions Hd.fa Hd.fn Hd.fs Hd.ex K) : Tx K mg := by
  have z := c.bools.2.2.2
  unfold Hd.ex at z
  obtain ⟨z_0, z⟩ := He.ba z
  obtain ⟨z_1, z⟩ := He.ba z
  obtain ⟨z_2, z⟩ := He.ba z
  obtain ⟨z_3, z⟩ := He.ba z
  obtain ⟨z_4, z⟩ := He.ba z
  obtain ⟨z_5, z⟩ := He.ba z
  obtain ⟨z_6, z⟩ := He.ba z
  obtain ⟨z_7, z⟩ := He.ba z
  obtain ⟨z_8, z⟩ := He.ba z
  obtain ⟨z_9, z⟩ := He.ba z
  obtain ⟨z_10, z⟩ := He.ba z
  have z_11 := z
  exact ⟨He.glo_ok X G (c.fact 11),
    He.glo_ok X G (c.fact 12),
    c.sup_ 0,
    He.noat_ok (c.fact 13),
    He.excB_ok z_0,
    He.exm_ok (c.fact 14),
    He.glo_ok X G (c.fact 15),
    c.sup_ 1,
    He.noat_ok (c.fact 16),
    He.excB_ok z_1,
    He.exm_ok (c.fact 17),
    He.glo_ok X G (c.fact 18),
    c.sup_ 2,
    He.noat_ok (c.fact 19),
    He.excB_ok z_2,
    He.exm_ok (c.fact 20),
    He.glo_ok X G (c.fact 21),
    c.sup_ 3,
    He.noat_ok (c.fact 22),
    He.excB_ok z_3,
    He.exm_ok (c.fact 23),
    He.glo_ok X G (c.fact 24),
    c.sup_ 4,
    He.excB_ok z_4,
    He.exm_ok (c.fact 25),
    He.glo_ok X G (c.fact 26),
    He.cls_ok (c.fact 27),
    He.mkr_ok (c.fact 28),
    He.noat_ok (c.fact 29),
    He.noat_ok (c.fact 30),
    He.meth_ok (c.fact 31),
    He.meth_ok (c.fact 32),
    He.meth_ok (c.fact 33),
    He.meth_ok (c.fact 34),
    He.meth_ok (c.fact 35),
    He.meth_ok (c.fact 36),
    He.meth_ok (c.fact 37),
    He.opsB_ok z_5,
    z_6,
    of_decide_eq_true z_7,
    of_decide_eq_true z_8,
    of_decide_eq_true z_9,
    of_decide_eq_true z_10,
    of_decide_eq_true z_11,
    He.free_ok X G (c.fact 38),
    He.free_ok X G (c.fact 39),
    He.free_ok X G (c.fact 40),
    He.free_ok X G (c.fact 41),
    He.free_ok X G (c.fact 42),
    He.free_ok X G (c.fact 43),
    He.free_ok X G (c.fact 44),
    He.free_ok X G (c.fact 45),
    He.free_ok X G (c.fact 46),
    He.free_ok X G (c.fact 47),
    He.free_ok X G (c.fact 48)⟩
end Lw
local macro_rules | `(tactic| walk_at "go1") => `(tactic| first | ((with_reducible refine' L2.My.g_var ?hv ?_); (case hv => exact rfl)) | ((with_reducible refine' L2.My.g_ixL ?hL ?hi ?_); (case hL => first | assumption | exact L2.upd_same); (case hi => exact rfl)) | ((with_reducible refine' L2.My.g_setL ?hL ?hi ?_); (case hL => first | assumption | exact L2.upd_same); (case hi => exact rfl)) | (with_reducible refine L2.My.g_truI ?_) | ((with_reducible refine' Lw.fld_num ?hK (by assumption) (by assumption) (‹Lw.Tx _ _›).k_Ratio (‹Lw.Tx _ _›).n_Ratio_num ?_); (case hK => exact rfl)) | ((with_reducible refine' Lw.fld_den ?hK (by assumption) (by assumption) (‹Lw.Tx _ _›).k_Ratio (‹Lw.Tx _ _›).n_Ratio_den ?_); (case hK => exact rfl)) | (with_reducible refine Lw.ix0 (by assumption) (by assumption) ?_) | (with_reducible refine Lw.ix1 (by assumption) (by assumption) ?_) | ((with_reducible refine' Lw.g_isiTup ?hK ?_ (by assumption)); (case hK => exact rfl)) | ((with_reducible refine' Lw.g_isiLst ?hK ?_ (by assumption)); (case hK => exact rfl)) | ((with_reducible refine' Lw.g_isiBool ?hK ?_ (by assumption)); (case hK => exact rfl)) | ((with_reducible refine' Lw.g_isiInt ?hK ?_ (by assumption)); (case hK => exact rfl)) | ((with_reducible refine' Lw.g_isiStr ?hK ?_ (by assumption)); (case hK => exact rfl)) | with_reducible first | refine L2.My.g_sub ?_ | refine L2.My.g_one ?_ | refine L2.My.g_oneS ?_ | refine L2.My.g_truI ?_ | refine L2.My.g_par ?_ | refine L2.My.g_two ?_ | refine L2.My.g_fldS ?_ | refine L2.My.g_turn ?_ | refine L2.My.g_intI ?_ | refine L2.My.g_c ?_ | refine L2.My.g_op ?_ | refine L2.My.g_cons ?_ | refine L2.My.g_nil ?_ | refine L2.My.g_rI0 ?_ | refine L2.My.g_seq ?_ | refine L2.My.g_asg ?_ | refine L2.My.g_name ?_ | refine L2.My.g_ifS ?_ | refine L2.My.g_ret ?_ | refine L2.My.g_drop ?_ | refine L2.My.g_test ?_ | refine L2.My.g_B ?_ | refine L2.My.g_bl ?_ | refine L2.My.g_and ?_ | refine L2.My.g_or ?_ | refine L2.My.g_not ?_ | refine L2.My.g_andV ?_ | refine L2.My.g_orV ?_ | refine L2.My.g_notV ?_ | refine L2.My.g_ifE ?_ | refine L2.My.g_CB ?_ | refine L2.My.g_call ?_ | refine L2.My.g_make ?_ | refine L2.My.g_un ?_ | refine L2.My.g_next ?_ | refine L2.My.g_ift ?_ | refine L2.My.g_iff ?_ | refine Lw.g_fld ?_ | refine L2.My.g_makeK ?_ | refine L2.My.g_callZ ?_ | refine L2.My.g_methZ ?_ | refine L2.My.g_makeZ ?_ | refine L2.My.g_nF ?_ | refine L2.My.g_nT ?_ | refine L2.My.g_yesR ?_ | refine L2.My.g_nnoR ?_ | refine L2.My.g_noTF ?_ | refine L2.My.g_noFT ?_ | refine L2.My.g_nyTF ?_ | refine L2.My.g_nyFT ?_ | refine L2.My.g_isN ?_ | refine L2.My.g_isI ?_ | refine L2.My.g_isB ?_ | refine L2.My.g_isS ?_ | refine L2.My.g_isR ?_ | refine L2.My.g_noN ?_ | refine L2.My.g_noI ?_ | refine L2.My.g_noB ?_ | refine L2.My.g_noS ?_ | refine L2.My.g_noR ?_ | refine L2.My.g_eqI ?_ | refine L2.My.g_neI ?_ | refine L2.My.g_eqS ?_ | refine L2.My.g_neS ?_ | refine L2.My.g_eqB ?_ | refine L2.My.g_neB ?_ | refine L2.My.g_eqN ?_ | refine L2.My.g_rU ?_ | refine L2.My.g_tupT ?_ | refine L2.My.g_lstT ?_ | refine L2.My.g_meth ?_ | refine L2.My.g_js ?_ | refine L2.My.g_js0 ?_ | refine L2.My.g_fmt ?_ | refine L2.My.g_forS ?_ | refine L2.My.g_iList ?_ | refine L2.My.g_iTup ?_ | refine L2.My.g_iRng1 ?_ | refine L2.My.g_iRng2 ?_)
local macro_rules | `(tactic| walk_at "go") => `(tactic| repeat (first | walk_at "go1" | (dsimp only; walk_at "go1")))
namespace Lw
open PySem PySem.Spec PyProof.Rows L2 L2.My
theorem sc_l_pool : FnScope ["_law_script", "_law_budget"] ["_law_script", "_law_budget"] (defScope Hd.s_l_pool) := ⟨rfl, rfl, rfl, by decide +kernel, rfl, by decide +kernel, by decide +kernel⟩
theorem ok_l_pool {w : World} {K : PySem.W.Frag} {mg : Str → Option Value} {base : Heap} (T : Tx K mg)  {f : Addr} {fd : FuncData} {dvs : List V} (FD : FunD K "_law_pool" "_law_pool" (defArgs Hd.s_l_pool) (defBody Hd.s_l_pool) (defScope Hd.s_l_pool) dvs [] f fd) : FnOk PySem.Challenge.pw_notesttells_k00_fractions w K mg base (L2.CX PySem.Challenge.pw_notesttells_k00_fractions w) 1 f fd ["_law_script", "_law_budget"] (spPool K) := by
  skip
  refine FD.ok sc_l_pool (fun vs H Q E h => ?_) (fun cdv A outer s H vs Q E hr h => ?_)
  · obtain ⟨_, _, _, _, rfl, _⟩ := h
    rfl
  obtain ⟨p, ns, F, b, rfl, e, hs, hl, k⟩ := h
  refine ⟨_, (pss_one (ps_ret (pe_lst (pa_cons (pe_callTy call_list_of (by rfl) T.m_list (by decide +kernel) (pa_cons (pv 0) pa_nil)) (pa_cons pe_int (pa_cons pe_int (pa_cons pe_int (pa_cons pe_int (pa_cons (pv 1) pa_nil))))))))), ?_⟩
  refine g_start (σ' := [some (.ref p), some (.int b)]) rfl ?_
  walk_at "go"
  refine ⟨p, _, rfl, .inl (hs.ext e), fun l hl1 => ?_⟩
  walk_at "go"
  refine ⟨by show 6 ≤ sizeLine; decide, fun q hq => ?_⟩
  have n1 := Nx.new (M := []) (o := .lst (ns.map V.int)) e hl1
  exact k q _ _ (n1.trans (Nx.open_ n1.fh hq)) ⟨Pool.start_ok hl, ext_none n1.fh hq, l, upd_same, upd_same⟩ (n1.free hq)

theorem sc_l_draw : FnScope ["_law_pool_here", "_law_size", "_law_cell", "_law_value"] ["_law_pool_here", "_law_size"] (defScope Hd.s_l_draw) := ⟨rfl, rfl, rfl, by decide +kernel, rfl, by decide +kernel, by decide +kernel⟩
theorem ok_l_draw {w : World} {K : PySem.W.Frag} {mg : Str → Option Value} {base : Heap} (T : Tx K mg)  {f : Addr} {fd : FuncData} {dvs : List V} (FD : FunD K "_law_draw" "_law_draw" (defArgs Hd.s_l_draw) (defBody Hd.s_l_draw) (defScope Hd.s_l_draw) dvs [] f fd) : FnOk PySem.Challenge.pw_notesttells_k00_fractions w K mg base (L2.CX PySem.Challenge.pw_notesttells_k00_fractions w) 1 f fd ["_law_pool_here", "_law_size"] spDraw := by
  skip
  refine FD.ok sc_l_draw (fun vs H Q E h => ?_) (fun cdv A outer s H vs Q E hr h => ?_)
  · obtain ⟨_, _, _, _, rfl, _⟩ := h
    rfl
  obtain ⟨p, s1, F, z, rfl, e, hP, z0, z1, k⟩ := h
  refine ⟨_, (pss_cons (ps_if (PW.pt (pw_and (pt_cmpR op_le (pe_ix ix_list (pv 0) pe_int (fun _ _ => rfl)) pe_int (nomark _)) (pw_and (pt_cmpR op_le (pe_ix ix_list (pv 0) pe_int (fun _ _ => rfl)) pe_int (nomark _)) (pw_and1 (pt_cmpR op_lt (pe_ix ix_list (pv 0) pe_int (fun _ _ => rfl)) (pe_callB call_len_seq (by rfl) T.m_len PySem.boot_len (pa_cons (pe_ix ix_list (pv 0) pe_int (fun _ _ => rfl)) pa_nil)) (nomark _)))))) (pss_cons (ps_set (i := 2) sc_l_draw.nd rfl (Or.inl rfl) (pe_ix ix_list (pe_ix ix_list (pv 0) pe_int (fun _ _ => rfl)) (pe_ix ix_list (pv 0) pe_int (fun _ _ => rfl)) (fun _ _ => rfl)))
  (pss_cons (ps_asg (pe_op op_add (pe_ix ix_list (pv 0) pe_int (fun _ _ => rfl)) pe_int) (pg_sub (pv 0) pe_int set_list))
  (pss_cons (ps_asg (pe_op op_mod (pe_callTy call_int1 (by rfl) T.m_int (by decide +kernel) (pa_cons (pe_op op_add (pe_op op_mul (pe_ix ix_list (pv 0) pe_int (fun _ _ => rfl)) pe_int) (pv 2)) pa_nil)) pe_int) (pg_sub (pv 0) pe_int set_list))
  (pss_cons (ps_asg pe_int (pg_sub (pv 0) pe_int set_list))
  (pss_one (ps_if (pt_cmpR op_ge (pv 2) (pe_op op_pow pe_int pe_int) (nomark _)) (pss_one (ps_asg (pv 2) (pg_sub (pv 0) pe_int set_list))) pss_nil)))))) pss_nil)
  (pss_cons (ps_if (pt_cmpR op_gt (pe_ix ix_list (pv 0) pe_int (fun _ _ => rfl)) pe_int (nomark _)) (pss_cons (ps_set (i := 3) sc_l_draw.nd rfl (Or.inl rfl) (pe_op op_mod (pe_callTy call_int1 (by rfl) T.m_int (by decide +kernel) (pa_cons (pe_ix ix_list (pv 0) pe_int (fun _ _ => rfl)) pa_nil)) (pv 1)))
  (pss_cons (ps_asg (pe_op op_fdivW (pe_ix ix_list (pv 0) pe_int (fun _ _ => rfl)) (pv 1)) (pg_sub (pv 0) pe_int set_list))
  (pss_cons (ps_asg pe_int (pg_sub (pv 0) pe_int set_list))
  (pss_one (ps_ret (pv 3)))))) pss_nil)
  (pss_cons (ps_asg (pe_op op_sub (pe_ix ix_list (pv 0) pe_int (fun _ _ => rfl)) pe_int) (pg_sub (pv 0) pe_int set_list))
  (pss_cons (ps_asg (pe_op op_mod (pe_callTy call_int1 (by rfl) T.m_int (by decide +kernel) (pa_cons (pe_op op_add (pe_op op_mul (pe_ix ix_list (pv 0) pe_int (fun _ _ => rfl)) pe_int) pe_int) pa_nil)) pe_int) (pg_sub (pv 0) pe_int set_list))
  (pss_one (ps_ret (pe_op op_mod (pe_op op_mod (pe_callTy call_int1 (by rfl) T.m_int (by decide +kernel) (pa_cons (pe_op op_add (pe_op op_mul (pe_ix ix_list (pv 0) pe_int (fun _ _ => rfl)) pe_int) pe_int) pa_nil)) pe_int) (pv 1)))))))), ?_⟩
  refine g_start (σ' := [some (.ref p), some (.int z), none, none]) rfl ?_
  obtain ⟨ok1, out1, a, hp, ha⟩ := id hP
  have haH := e _ _ ha
  unfold Pool.vs at hp
  refine g_cut (fun σ1 H1 => ∃ c, σ1 = [some (.ref p), some (.int z), c, none] ∧ Nx [p] F H F H1 ∧ PoolAt F H1 p s1.feed) ?_ (fun N tl => ?_)
  · rintro σ1 H1 ⟨c, rfl, n1, h1⟩
    obtain ⟨ok2, out2, a2, hp2, ha2⟩ := id h1
    unfold Pool.vs at hp2
    walk_at "go"
    refine g_dec (fun c1 => ?_) (fun c1 => ?_)
    · walk_at "go"
      refine g_modK z0 ?_
      walk_at "go"
      refine g_fdivK ⟨z0, z1⟩ ?_
      walk_at "go"
      have ed : s1.draw z = (s1.feed.big % z, { s1.feed with big := s1.feed.big / z, cnt := 0 }) := if_pos c1
      rw [ed] at k
      exact k _ ((n1.mut (.inl (by simp)) out1).mut (.inl (by simp)) out1) ⟨ok2, out2, a2, upd_same, ha2⟩
    · walk_at "go"
      refine g_mulK (by decide) ?_
      walk_at "go"
      refine g_modK (show (0 : Int) < 2147483647 by decide) ?_
      walk_at "go"
      refine g_mulK (by decide) ?_
      walk_at "go"
      refine g_modK (show (0 : Int) < 2147483647 by decide) ?_
      walk_at "go"
      refine g_modK z0 ?_
      walk_at "go"
      have ed : s1.draw z = ((((s1.feed.st * 48271 + 12345) % MM) * 69621 + 7919) % MM % z, { s1.feed with cnt := s1.feed.cnt - 1, st := (s1.feed.st * 48271 + 12345) % MM }) := if_neg c1
      rw [ed] at k
      refine k _ ((n1.mut (.inl (by simp)) out1).mut (.inl (by simp)) out1) ⟨?_, out2, a2, upd_same, ha2⟩
      obtain ⟨h1, h2, h3, h4⟩ := ok2
      exact ⟨h1, Int.emod_nonneg _ (by decide), Int.emod_lt_of_pos _ (by decide), h4⟩
  have stay : ¬ (s1.big ≤ 0 ∧ s1.cnt ≤ 0 ∧ s1.at_ < s1.ns.length) → s1.feed = s1 := fun c => if_neg c
  walk_at "go"
  refine g_dec (fun c1 => ?_) (fun c1 => ?_)
  rotate_left
  · walk_at "go"
    exact tl _ _ ⟨none, rfl, Nx.refl e, by rw [stay (fun z => c1 z.1)]; exact hP⟩
  walk_at "go"
  refine g_dec (fun c2 => ?_) (fun c2 => ?_)
  rotate_left
  · walk_at "go"
    exact tl _ _ ⟨none, rfl, Nx.refl e, by rw [stay (fun z => c2 z.2.1)]; exact hP⟩
  walk_at "go"
  refine ⟨_, _, rfl, .inl (SqL.of haH), ?_⟩
  rw [List.length_map]
  walk_at "go"
  refine g_dec (fun c3 => ?_) (fun c3 => ?_)
  rotate_left
  · walk_at "go"
    exact tl _ _ ⟨none, rfl, Nx.refl e, by rw [stay (fun z => c3 z.2.2)]; exact hP⟩
  have cell := pool_cell ok1 c3
  walk_at "go"
  refine ⟨_, _, _, _, rfl, rfl, SqL.of haH, cell, ?_⟩
  walk_at "go"
  refine g_mulK (by decide) ?_
  walk_at "go"
  refine g_modK (show (0 : Int) < 2147483647 by decide) ?_
  walk_at "go"
  refine g_rI ⟨by decide, by decide, by decide⟩ ?_
  walk_at "go"
  have fe : s1.feed = { s1 with at_ := s1.at_ + 1, st := (s1.st * 31 + s1.ns.getD s1.at_.toNat 0) % MM, cnt := 7, big := if s1.ns.getD s1.at_.toNat 0 ≥ 10 ^ 18 then s1.ns.getD s1.at_.toNat 0 else s1.big } := if_pos ⟨c1, c2, c3⟩
  have fo := Pool.feed_ok ok1
  rw [fe] at tl fo
  refine g_dec (fun c4 => ?_) (fun c4 => ?_)
  · have c4' : s1.ns.getD s1.at_.toNat 0 ≥ 10 ^ 18 := c4
    rw [if_pos c4'] at tl fo
    walk_at "go"
    exact tl _ _ ⟨_, rfl, ((((Nx.refl e).mut (.inl (by simp)) out1).mut (.inl (by simp)) out1).mut (.inl (by simp)) out1).mut (.inl (by simp)) out1, fo, out1, a, upd_same, ha⟩
  · have c4' : ¬ s1.ns.getD s1.at_.toNat 0 ≥ 10 ^ 18 := c4
    rw [if_neg c4'] at tl fo
    walk_at "go"
    exact tl _ _ ⟨_, rfl, (((Nx.refl e).mut (.inl (by simp)) out1).mut (.inl (by simp)) out1).mut (.inl (by simp)) out1, fo, out1, a, upd_same, ha⟩

theorem sc_Ratio_init : FnScope ["self", "num", "den", "one", "other"] ["self", "num", "den"] (defScope Hd.s_Ratio_init) := ⟨rfl, rfl, rfl, by decide +kernel, rfl, by decide +kernel, by decide +kernel⟩
theorem ok_Ratio_init {w : World} {K : PySem.W.Frag} {mg : Str → Option Value} {base : Heap} (T : Tx K mg)  {f : Addr} {fd : FuncData} {dvs : List V} (FD : FunD K "__init__" "Ratio.__init__" (defArgs Hd.s_Ratio_init) (defBody Hd.s_Ratio_init) (defScope Hd.s_Ratio_init) dvs [] f fd) : FnOk PySem.Challenge.pw_notesttells_k00_fractions w K mg base (L2.CX PySem.Challenge.pw_notesttells_k00_fractions w) 3 f fd ["self", "num", "den"] (spRInit (He.ga K "Ratio") (He.ga K "BadRatio")) := by
  skip
  refine FD.ok sc_Ratio_init (fun vs H Q E h => ?_) (fun cdv A outer s H vs Q E hr h => ?_)
  · obtain ⟨_, _, _, _, rfl, _⟩ := h
    rfl
  obtain ⟨x, dx, n, d, rfl, hx, hsz, kB, kQ⟩ := h
  refine ⟨_, (pss_cons (ps_if (pt_cmpR op_le (pv 2) pe_int (nomark _)) (pss_one (ps_raise rfl (takes_of rfl rfl rfl rfl) (pmk_Non T.x_BadRatio T.g_BadRatio T.m_super rfl hr))) pss_nil)
  (pss_cons (ps_set (i := 3) sc_Ratio_init.nd rfl (Or.inl rfl) (pe_callB call_abs (by rfl) T.m_abs (by decide +kernel) (pa_cons (pv 1) pa_nil)))
  (pss_cons (ps_set (i := 4) sc_Ratio_init.nd rfl (Or.inl rfl) (pv 2))
  (pss_cons (ps_while (passes_of rfl) (pt_truth (pv 4) (by intro _; rfl)) (pss_one (ps_par (i := 3) (j := 4) (by rfl) sc_Ratio_init.nd rfl rfl (by decide) rfl rfl (pa_cons (pv 4) (pa_cons (pe_op op_mod (pv 3) (pv 4)) pa_nil)) (by rfl))))
  (pss_cons (ps_fld (pv 0) (pe_op op_fdivW (pv 1) (pv 3)) rfl)
  (pss_one (ps_fld (pv 0) (pe_op op_fdivW (pv 2) (pv 3)) rfl))))))), ?_⟩
  refine g_start (σ' := [some (.ref x), some (.int n), some (.int d), none, none]) rfl ?_
  walk_at "go"
  refine g_dec (fun c => kB c) (fun c => ?_)
  have hd : 0 < d := by omega
  obtain ⟨D, rfl⟩ : ∃ D : Nat, d = (D : Int) := ⟨d.toNat, by omega⟩
  walk_at "go"
  have en : (if n < 0 then -n else n) = ((n.natAbs : Nat) : Int) := by split <;> omega
  rw [en]
  refine g_while (fun m σ' H' => ∃ a b : Nat, m = b ∧ H' = H ∧ σ' = [some (.ref x), some (.int n), some (.int (D : Int)), some (.int (a : Int)), some (.int (b : Int))] ∧ Nat.gcd a b = Nat.gcd n.natAbs D) D ⟨n.natAbs, D, rfl, rfl, rfl, rfl⟩ ?_
  rintro m σ' H' ⟨a, b, rfl, rfl, rfl, hg⟩
  walk_at "go"
  refine g_if (fun c => ?_) (fun c => ?_)
  · have hb : 0 < m := by
      have : (m : Int) ≠ 0 := by simpa using c
      omega
    walk_at "go"
    refine g_rI (show (0 : Int) < (m : Int) by omega) ?_
    walk_at "go"
    exact ⟨a % m, Nat.mod_lt a hb, m, a % m, rfl, rfl, by rw [← Int.natCast_emod]; rfl, by rw [gcd_step]; exact hg⟩
  · have hb : m = 0 := by
      have : (m : Int) = 0 := by simpa using c
      omega
    subst hb
    rw [Nat.gcd_zero_right] at hg
    subst hg
    have hgd := gcd_dvd_le (n := n) hd
    have hw : CDivW n ((Nat.gcd n.natAbs D : Nat) : Int) := wide_div (by exact hgd.1) (b := 9000) (by
      have h1 : ((Nat.gcd n.natAbs D : Nat) : Int) ≤ (D : Int) := hgd.2
      rw [Int.natAbs_natCast] at hsz ⊢
      omega) (by decide) (by decide)
    walk_at "go"
    refine g_rI hw ?_
    walk_at "go"
    refine ⟨x, _, dx, [], rfl, hx, T.k_Ratio, T.n_Ratio_num, by show 0 < 1000; decide, ?_⟩
    walk_at "go"
    refine g_rI ⟨hw.1, hw.2⟩ ?_
    walk_at "go"
    refine ⟨x, _, dx, _, rfl, upd_same, T.k_Ratio, T.n_Ratio_den, by show 1 < 1000; decide, ?_⟩
    rw [upd_upd]
    have q := kQ hd
    rw [q_num hd, q_den hd] at q
    exact q

theorem sc_l_less : FnScope ["_law_num", "_law_den", "_law_a", "_law_b", "_law_k"] ["_law_num", "_law_den"] (defScope Hd.s_l_less) := ⟨rfl, rfl, rfl, by decide +kernel, rfl, by decide +kernel, by decide +kernel⟩
theorem ok_l_less {w : World} {K : PySem.W.Frag} {mg : Str → Option Value} {base : Heap} (T : Tx K mg)  {f : Addr} {fd : FuncData} {dvs : List V} (FD : FunD K "_law_less" "_law_less" (defArgs Hd.s_l_less) (defBody Hd.s_l_less) (defScope Hd.s_l_less) dvs [] f fd) : FnOk PySem.Challenge.pw_notesttells_k00_fractions w K mg base (L2.CX PySem.Challenge.pw_notesttells_k00_fractions w) 1 f fd ["_law_num", "_law_den"] spLess := by
  skip
  refine FD.ok sc_l_less (fun vs H Q E h => ?_) (fun cdv A outer s H vs Q E hr h => ?_)
  · obtain ⟨_, _, _, rfl, _⟩ := h
    rfl
  obtain ⟨F, n, d, rfl, e, hd, s1, s2, k⟩ := h
  refine ⟨_, (pss_cons (ps_set (i := 2) sc_l_less.nd rfl (Or.inl rfl) (pe_callB call_abs (by rfl) T.m_abs (by decide +kernel) (pa_cons (pv 0) pa_nil)))
  (pss_cons (ps_set (i := 3) sc_l_less.nd rfl (Or.inl rfl) (pv 1))
  (pss_cons (ps_for (passes_of rfl) rfl (pi_range1 rfl T.m_range (pa_cons pe_int pa_nil)) (pg_name (i := 4) sc_l_less.nd rfl (Or.inl rfl))
  (pss_cons (ps_if (pt_cmpR op_eq (pv 3) pe_int (nomark _)) (pss_one ps_break) pss_nil)
  (pss_one (ps_par (i := 2) (j := 3) (by rfl) sc_l_less.nd rfl rfl (by decide) rfl rfl (pa_cons (pv 3) (pa_cons (pe_op op_mod (pe_callTy call_int1 (by rfl) T.m_int (by decide +kernel) (pa_cons (pv 2) pa_nil)) (pv 3)) pa_nil)) (by rfl)))))
  (pss_one (ps_ret (pe_tup (pa_cons (pe_op op_fdivW (pv 0) (pv 2)) (pa_cons (pe_op op_fdivW (pv 1) (pv 2)) pa_nil)))))))), ?_⟩
  refine g_start (σ' := [some (.int n), some (.int d), none, none, none]) rfl ?_
  obtain ⟨D, rfl⟩ : ∃ D : Nat, d = (D : Int) := ⟨d.toNat, by omega⟩
  rw [Int.natAbs_natCast] at s2
  walk_at "go"
  have en : (if n < 0 then -n else n) = ((n.natAbs : Nat) : Int) := by split <;> omega
  rw [en]
  refine ⟨by decide, by decide, ?_⟩
  refine loop_rngZ (fun i σ' H' => H' = H ∧ ∃ a b : Nat, ∃ c, σ' = [some (.int n), some (.int (D : Int)), some (.int (a : Int)), some (.int (b : Int)), c] ∧ Eu 1999 i a b ∧ Nat.gcd a b = Nat.gcd n.natAbs D)
    (fun σ' H' => H' = H ∧ ∃ c, σ' = [some (.int n), some (.int (D : Int)), some (.int (Int.gcd n D : Int)), some (.int 0), c]) ⟨rfl, n.natAbs, D, none, rfl, ⟨fun _ => s2, fun h => by omega⟩, rfl⟩ ?_ (fun N tl i σ' H' hi hJ => ?_) (fun σ' H' hJ => ?_)
  · rintro σ' H' ⟨rfl, c, rfl⟩
    have hgd := gcd_dvd_le (n := n) hd
    have hw : ∀ m : Int, CDivW m (Int.gcd n D : Int) := fun m => wide_div hgd.1 (b := 1999) (by
      have h2 := hgd.2
      rw [Int.natAbs_natCast]
      omega) (by decide) (by decide)
    walk_at "go"
    refine g_rI (hw n) ?_
    walk_at "go"
    refine g_rI (hw D) ?_
    walk_at "go"
    refine ⟨by show 2 ≤ sizeLine; decide, fun p hp => k _ _ _ (Nx.new e hp) ⟨p, _, _, rfl, upd_same, ?_, ?_⟩⟩
    · show V.int _ = V.int _
      rw [← q_num hd]; rfl
    · show V.int _ = V.int _
      rw [← q_den hd]; rfl
  · obtain ⟨rfl, a, b, c, rfl, h1, h2⟩ := hJ
    walk_at "go"
    refine g_dec (fun c1 => ?_) (fun c1 => ?_)
    · have hb : b = 0 := by omega
      subst hb
      rw [Nat.gcd_zero_right] at h2
      subst h2
      exact tl _ _ ⟨rfl, _, rfl⟩
    · have hb : 0 < b := by omega
      walk_at "go"
      refine g_rI (show (0 : Int) < (b : Int) by omega) ?_
      walk_at "go"
      exact ⟨rfl, b, a % b, _, rfl, h1.next hb, by rw [gcd_step]; exact h2⟩
  · obtain ⟨rfl, a, b, c, rfl, h1, h2⟩ := hJ
    have hb := h1.last
    subst hb
    rw [Nat.gcd_zero_right] at h2
    subst h2
    exact ⟨rfl, _, rfl⟩

theorem sc_l_same : FnScope ["_law_actual", "_law_due", "_law_k"] ["_law_actual", "_law_due"] (defScope Hd.s_l_same) := ⟨rfl, rfl, rfl, by decide +kernel, rfl, by decide +kernel, by decide +kernel⟩
theorem ok_l_same {w : World} {K : PySem.W.Frag} {mg : Str → Option Value} {base : Heap} (T : Tx K mg)  {kk : Nat} (H_l_same : Fnc PySem.Challenge.pw_notesttells_k00_fractions w K mg base kk "_law_same" ["_law_actual", "_law_due"] (spSame K n)) {f : Addr} {fd : FuncData} {dvs : List V} (FD : FunD K "_law_same" "_law_same" (defArgs Hd.s_l_same) (defBody Hd.s_l_same) (defScope Hd.s_l_same) dvs [] f fd) : FnOk PySem.Challenge.pw_notesttells_k00_fractions w K mg base (L2.CX PySem.Challenge.pw_notesttells_k00_fractions w) (kk + 1) f fd ["_law_actual", "_law_due"] (spSame K (n + 1)) := by
  skip
  refine FD.ok sc_l_same (fun vs H Q E h => ?_) (fun cdv A outer s H vs Q E hr h => ?_)
  · obtain ⟨_, _, _, rfl, _⟩ := h
    rfl
  obtain ⟨x, y, d, rfl, hx, hy, hd, k⟩ := h
  refine ⟨_, (pss_cons (ps_if (PW.pt (pw_or (pt_val (pe_callB call_isi (by rfl) T.m_isinstance (by decide +kernel) (pa_cons (pv 1) (pa_cons (pe_bltn (v := .ty "tuple") (by rfl) T.m_tuple (by decide +kernel) rfl) pa_nil)))) (pw_or1 (pt_val (pe_callB call_isi (by rfl) T.m_isinstance (by decide +kernel) (pa_cons (pv 1) (pa_cons (pe_bltn (v := .ty "list") (by rfl) T.m_list (by decide +kernel) rfl) pa_nil))))))) (pss_cons (ps_if (PW.pt (pw_or (pt_cmpR op_ne (pe_callB call_isi (by rfl) T.m_isinstance (by decide +kernel) (pa_cons (pv 1) (pa_cons (pe_bltn (v := .ty "tuple") (by rfl) T.m_tuple (by decide +kernel) rfl) pa_nil))) (pe_callB call_isi (by rfl) T.m_isinstance (by decide +kernel) (pa_cons (pv 0) (pa_cons (pe_bltn (v := .ty "tuple") (by rfl) T.m_tuple (by decide +kernel) rfl) pa_nil))) (nomark _)) (pw_or1 (pt_cmpR op_ne (pe_callB call_isi (by rfl) T.m_isinstance (by decide +kernel) (pa_cons (pv 1) (pa_cons (pe_bltn (v := .ty "list") (by rfl) T.m_list (by decide +kernel) rfl) pa_nil))) (pe_callB call_isi (by rfl) T.m_isinstance (by decide +kernel) (pa_cons (pv 0) (pa_cons (pe_bltn (v := .ty "list") (by rfl) T.m_list (by decide +kernel) rfl) pa_nil))) (nomark _))))) (pss_one (ps_ret pe_bl)) pss_nil)
  (pss_cons (ps_if (pt_cmpR op_ne (pe_callB call_len_seq (by rfl) T.m_len PySem.boot_len (pa_cons (pv 0) pa_nil)) (pe_callB call_len_seq (by rfl) T.m_len PySem.boot_len (pa_cons (pv 1) pa_nil)) (nomark _)) (pss_one (ps_ret pe_bl)) pss_nil)
  (pss_cons (ps_for (passes_of rfl) rfl (pi_range1 rfl T.m_range (pa_cons (pe_callB call_len_seq (by rfl) T.m_len PySem.boot_len (pa_cons (pv 1) pa_nil)) pa_nil)) (pg_name (i := 2) sc_l_same.nd rfl (Or.inl rfl))
  (pss_one (ps_if (pt_not (pt_val (pe_fn H_l_same (hr.mono (Nat.le_refl _)) passL (pa_cons (pe_ix ix_seq (pv 0) (pv 2) (fun _ _ => rfl)) (pa_cons (pe_ix ix_seq (pv 1) (pv 2) (fun _ _ => rfl)) pa_nil))))) (pss_one (ps_ret pe_bl)) pss_nil)))
  (pss_one (ps_ret pe_bl))))) pss_nil)
  (pss_cons (ps_if (PW.pt (pw_or (pt_cmpR op_isN1 (pv 1) pe_non (nomark _)) (pw_or1 (pt_val (pe_callB call_isi (by rfl) T.m_isinstance (by decide +kernel) (pa_cons (pv 1) (pa_cons (pe_bltn (v := .ty "bool") (by rfl) T.m_bool (by decide +kernel) rfl) pa_nil))))))) (pss_one (ps_ret (pe_and (pe_cmpR op_eq (pe_cmpR op_isN1 (pv 0) pe_non (nomark _)) (pe_cmpR op_isN1 (pv 1) pe_non (nomark _)) (nomark _)) (pe_and (pe_or (pe_cmpR op_isN1 (pv 1) pe_non (nomark _)) (pe_one (pe_callB call_isi (by rfl) T.m_isinstance (by decide +kernel) (pa_cons (pv 0) (pa_cons (pe_bltn (v := .ty "bool") (by rfl) T.m_bool (by decide +kernel) rfl) pa_nil))))) (pe_one (pe_cmpR op_eq (pv 0) (pv 1) (nomark _))))))) pss_nil)
  (pss_cons (ps_if (pt_val (pe_callB call_isi (by rfl) T.m_isinstance (by decide +kernel) (pa_cons (pv 1) (pa_cons (pe_bltn (v := .ty "int") (by rfl) T.m_int (by decide +kernel) rfl) pa_nil)))) (pss_one (ps_ret (pe_and (pe_callB call_isi (by rfl) T.m_isinstance (by decide +kernel) (pa_cons (pv 0) (pa_cons (pe_bltn (v := .ty "int") (by rfl) T.m_int (by decide +kernel) rfl) pa_nil))) (pe_and (pe_not (pe_callB call_isi (by rfl) T.m_isinstance (by decide +kernel) (pa_cons (pv 0) (pa_cons (pe_bltn (v := .ty "bool") (by rfl) T.m_bool (by decide +kernel) rfl) pa_nil)))) (pe_one (pe_cmpR op_eq (pv 0) (pv 1) (nomark _))))))) pss_nil)
  (pss_one (ps_ret (pe_and (pe_callB call_isi (by rfl) T.m_isinstance (by decide +kernel) (pa_cons (pv 0) (pa_cons (pe_bltn (v := .ty "str") (by rfl) T.m_str (by decide +kernel) rfl) pa_nil))) (pe_one (pe_cmpR op_eq (pv 0) (pv 1) (nomark _))))))))), ?_⟩
  refine g_start (σ' := [some x, some y, none]) rfl ?_
  have hx' := hx
  have hy' := hy
  cases d with
  | none =>
    cases hx; cases hy
    walk_at "go"
    exact k
  | bool b => 
    cases hx; cases hy
    walk_at "go"
    exact (show Q (V.bl (decide (b = b))) H by rw [decide_eq_true rfl]; exact k)
  | int b => 
    cases hx; cases hy
    walk_at "go"
    exact (show Q (V.bl (decide (b = b))) H by rw [decide_eq_true rfl]; exact k)
  | str b => 
    cases hx; cases hy
    walk_at "go"
    exact (show Q (V.bl (decide (b = b))) H by rw [decide_eq_true rfl]; exact k)
  | list ds =>
    obtain ⟨a1, xs, rfl, hs1, hd1⟩ := lst_of hx
    obtain ⟨a2, ys, rfl, hs2, hd2⟩ := lst_of hy
    obtain ⟨dl, de⟩ := id hd
    have l1 := DpAll.len hd1
    have l2 := DpAll.len hd2
    walk_at "go"
    refine ⟨_, _, rfl, .inl hs1, ?_⟩
    walk_at "go"
    refine ⟨_, _, rfl, .inl hs2, ?_⟩
    rw [l1, l2]
    walk_at "go"
    refine ⟨_, _, rfl, .inl hs2, ?_⟩
    rw [l2]
    walk_at "go"
    refine ⟨by omega, by omega, ?_⟩
    rw [Int.toNat_natCast]
    refine loop_rngZ (fun i σ' H' => H' = H ∧ ∃ c, σ' = [some (.ref a1), some (.ref a2), c]) (fun σ' H' => H' = H ∧ ∃ c, σ' = [some (.ref a1), some (.ref a2), c]) ⟨rfl, _, rfl⟩ ?_ (fun N tl i σ' H' hi hJ => ?_) (fun σ' H' hJ => hJ)
    · rintro σ' H' ⟨rfl, c, rfl⟩
      walk_at "go"
      exact k
    · obtain ⟨rfl, c, rfl⟩ := hJ
      have e0 := List.getElem?_eq_getElem hi
      obtain ⟨v1, e1, h1⟩ := DpAll.get hd1 e0
      obtain ⟨v2, e2, h2⟩ := DpAll.get hd2 e0
      rw [Int.zero_add]
      walk_at "go"
      refine .inl ⟨_, _, _, _, rfl, rfl, hs1, atI_nat e1, ?_⟩
      walk_at "go"
      refine .inl ⟨_, _, _, _, rfl, rfl, hs2, atI_nat e2, ?_⟩
      walk_at "go"
      refine ⟨_, _, _, rfl, h1, h2, de _ (List.getElem_mem hi), ?_⟩
      walk_at "go"
      exact ⟨rfl, _, rfl⟩
  | tuple ds =>
    obtain ⟨a1, xs, rfl, hs1, hd1⟩ := tup_of hx
    obtain ⟨a2, ys, rfl, hs2, hd2⟩ := tup_of hy
    obtain ⟨dl, de⟩ := id hd
    have l1 := DpAll.len hd1
    have l2 := DpAll.len hd2
    walk_at "go"
    refine ⟨_, _, rfl, .inr hs1, ?_⟩
    walk_at "go"
    refine ⟨_, _, rfl, .inr hs2, ?_⟩
    rw [l1, l2]
    walk_at "go"
    refine ⟨_, _, rfl, .inr hs2, ?_⟩
    rw [l2]
    walk_at "go"
    refine ⟨by omega, by omega, ?_⟩
    rw [Int.toNat_natCast]
    refine loop_rngZ (fun i σ' H' => H' = H ∧ ∃ c, σ' = [some (.ref a1), some (.ref a2), c]) (fun σ' H' => H' = H ∧ ∃ c, σ' = [some (.ref a1), some (.ref a2), c]) ⟨rfl, _, rfl⟩ ?_ (fun N tl i σ' H' hi hJ => ?_) (fun σ' H' hJ => hJ)
    · rintro σ' H' ⟨rfl, c, rfl⟩
      walk_at "go"
      exact k
    · obtain ⟨rfl, c, rfl⟩ := hJ
      have e0 := List.getElem?_eq_getElem hi
      obtain ⟨v1, e1, h1⟩ := DpAll.get hd1 e0
      obtain ⟨v2, e2, h2⟩ := DpAll.get hd2 e0
      rw [Int.zero_add]
      walk_at "go"
      refine .inr (.inl ⟨_, _, _, _, rfl, rfl, hs1, atI_nat e1, ?_⟩)
      walk_at "go"
      refine .inr (.inl ⟨_, _, _, _, rfl, rfl, hs2, atI_nat e2, ?_⟩)
      walk_at "go"
      refine ⟨_, _, _, rfl, h1, h2, de _ (List.getElem_mem hi), ?_⟩
      walk_at "go"
      exact ⟨rfl, _, rfl⟩
  | dict _ => exact hd.elim

theorem sc_l_is : FnScope ["_law_ratio", "_law_due"] ["_law_ratio", "_law_due"] (defScope Hd.s_l_is) := ⟨rfl, rfl, rfl, by decide +kernel, rfl, by decide +kernel, by decide +kernel⟩
theorem ok_l_is {w : World} {K : PySem.W.Frag} {mg : Str → Option Value} {base : Heap} (T : Tx K mg) (H_l_same : Fnc PySem.Challenge.pw_notesttells_k00_fractions w K mg base 6 "_law_same" ["_law_actual", "_law_due"] (spSame K 6)) {f : Addr} {fd : FuncData} {dvs : List V} (FD : FunD K "_law_is" "_law_is" (defArgs Hd.s_l_is) (defBody Hd.s_l_is) (defScope Hd.s_l_is) dvs [] f fd) : FnOk PySem.Challenge.pw_notesttells_k00_fractions w K mg base (L2.CX PySem.Challenge.pw_notesttells_k00_fractions w) 7 f fd ["_law_ratio", "_law_due"] (spIs (He.ga K "Ratio")) := by
  skip
  refine FD.ok sc_l_is (fun vs H Q E h => ?_) (fun cdv A outer s H vs Q E hr h => ?_)
  · obtain ⟨_, _, _, _, rfl, _⟩ := h
    rfl
  obtain ⟨F, x, y, q, rfl, e, hx, hy, k⟩ := h
  refine ⟨_, (pss_one (ps_ret (pe_and (pe_callB call_isi (by rfl) T.m_isinstance (by decide +kernel) (pa_cons (pv 0) (pa_cons (pe_glob (v := .ref (He.ga K "Ratio")) rfl T.g_Ratio rfl) pa_nil))) (pe_one (pe_fn H_l_same (hr.mono (by decide)) passL (pa_cons (pe_lst (pa_cons (pe_fld (pv 0) rfl) (pa_cons (pe_fld (pv 0) rfl) pa_nil))) (pa_cons (pe_callTy call_list_of (by rfl) T.m_list (by decide +kernel) (pa_cons (pv 1) pa_nil)) pa_nil))))))), ?_⟩
  refine g_start (σ' := [some x, some y]) rfl ?_
  have hq := hx
  obtain ⟨p, dx, rfl, hp⟩ := hx
  obtain ⟨t, w1, w2, rfl, ht, hw1, hw2⟩ := hy
  cases hw1
  cases hw2
  have hb1 := e _ _ hp
  walk_at "go"
  refine g_isiOwn T.q_Ratio T.k_Ratio hb1 ?_
  walk_at "go"
  refine ⟨by show 2 ≤ sizeLine; decide, fun l1 hl1 => ?_⟩
  have n1 := Nx.open_ (M := []) (o := .lst [.int q.num, .int q.den]) e hl1
  walk_at "go"
  refine ⟨t, _, rfl, .inr (SqT.of (n1.fh _ _ ht)), fun l2 hl2 => ?_⟩
  have n2 := Nx.open_ (M := []) (o := .lst [.int (pr q).1, .int (pr q).2]) n1.fh hl2
  walk_at "go"
  refine ⟨_, _, .list [.int q.num, .int q.den], rfl, .lst (SqL.of (by rw [upd_ne (ne_of_none upd_same hl2)]; exact upd_same)) (.cons (.int _) (.cons (.int _) .nil)), .lst (SqL.of upd_same) (.cons (.int _) (.cons (.int _) .nil)), ?_, ?_⟩
  · refine ⟨by show 2 < 16777216; decide, fun e he => ?_⟩
    rcases List.mem_cons.mp he with rfl | he
    · trivial
    rcases List.mem_cons.mp he with rfl | he
    · trivial
    cases he
  · exact k _ _ (n1.trans n2)

theorem sc_Ratio_str : FnScope ["self"] ["self"] (defScope Hd.s_Ratio_str) := ⟨rfl, rfl, rfl, by decide +kernel, rfl, by decide +kernel, by decide +kernel⟩
theorem ok_Ratio_str {w : World} {K : PySem.W.Frag} {mg : Str → Option Value} {base : Heap} (T : Tx K mg)  {f : Addr} {fd : FuncData} {dvs : List V} (FD : FunD K "__str__" "Ratio.__str__" (defArgs Hd.s_Ratio_str) (defBody Hd.s_Ratio_str) (defScope Hd.s_Ratio_str) dvs [] f fd) : FnOk PySem.Challenge.pw_notesttells_k00_fractions w K mg base (L2.CX PySem.Challenge.pw_notesttells_k00_fractions w) 1 f fd ["self"] (spRStr (He.ga K "Ratio")) := by
  skip
  refine FD.ok sc_Ratio_str (fun vs H Q E h => ?_) (fun cdv A outer s H vs Q E hr h => ?_)
  · obtain ⟨_, _, _, rfl, _⟩ := h
    rfl
  obtain ⟨F, x, a, rfl, e, ha, sa, k⟩ := h
  refine ⟨_, (pss_cons (ps_if (pt_cmpR op_eq (pe_fld (pv 0) rfl) pe_int (nomark _)) (pss_one (ps_ret (pe_callTy call_str_int (by rfl) T.m_str (by decide +kernel) (pa_cons (pe_fld (pv 0) rfl) pa_nil)))) pss_nil)
  (pss_one (ps_ret (pe_joined (.cons (pe_fmt (pe_fld (pv 0) rfl)) (.cons pe_str (.cons (pe_fmt (pe_fld (pv 0) rfl)) .nil))))))), ?_⟩
  refine g_start (σ' := [some x]) rfl ?_
  walk_at "go"
  unfold strQ at k
  have l1 : a.num.natAbs.log2 < 1920 := log2_lt sa.1
  have l2 : ((a.den : Int)).natAbs.log2 < 1920 := log2_lt (lt_up sa.den (by decide))
  refine g_dec (fun c => ?_) (fun c => ?_)
  · have c' : a.den = 1 := by omega
    rw [if_pos c'] at k
    walk_at "go"
    exact ⟨l1, k⟩
  have c' : ¬ a.den = 1 := by omega
  rw [if_neg c'] at k
  walk_at "go"
  refine .inr ⟨_, rfl, l1, ?_⟩
  have t1 := txt_len l1
  have t2 := txt_len l2
  have t3 : (Str.ofString "/").length = 1 := by decide
  refine ⟨_, rfl, by rw [Str.empty_append, sizeLine_eq]; omega, ?_⟩
  walk_at "go"
  refine ⟨_, rfl, by rw [Str.length_append, Str.empty_append, sizeLine_eq]; omega, ?_⟩
  walk_at "go"
  refine .inr ⟨_, rfl, l2, ?_⟩
  refine ⟨_, rfl, by rw [Str.length_append, Str.length_append, Str.empty_append, sizeLine_eq]; omega, ?_⟩
  rw [Str.empty_append]
  exact k

theorem sc_Ratio_eq : FnScope ["self", "other"] ["self", "other"] (defScope Hd.s_Ratio_eq) := ⟨rfl, rfl, rfl, by decide +kernel, rfl, by decide +kernel, by decide +kernel⟩
theorem ok_Ratio_eq {w : World} {K : PySem.W.Frag} {mg : Str → Option Value} {base : Heap} (T : Tx K mg)  {f : Addr} {fd : FuncData} {dvs : List V} (FD : FunD K "__eq__" "Ratio.__eq__" (defArgs Hd.s_Ratio_eq) (defBody Hd.s_Ratio_eq) (defScope Hd.s_Ratio_eq) dvs [] f fd) : FnOk PySem.Challenge.pw_notesttells_k00_fractions w K mg base (L2.CX PySem.Challenge.pw_notesttells_k00_fractions w) 1 f fd ["self", "other"] (spEqb (eqR (He.ga K "Ratio"))) := by
  skip
  refine FD.ok sc_Ratio_eq (fun vs H Q E h => ?_) (fun cdv A outer s H vs Q E hr h => ?_)
  · obtain ⟨_, _, _, rfl, _⟩ := h
    rfl
  obtain ⟨x, y, r, rfl, ⟨a, b, ha, hb, rfl⟩, k⟩ := h
  refine ⟨_, (pss_one (ps_ret (pe_and (pe_callB call_isi (by rfl) T.m_isinstance (by decide +kernel) (pa_cons (pv 1) (pa_cons (pe_glob (v := .ref (He.ga K "Ratio")) rfl T.g_Ratio rfl) pa_nil))) (pe_and (pe_cmpR op_eq (pe_fld (pv 0) rfl) (pe_fld (pv 1) rfl) (nomark _)) (pe_one (pe_cmpR op_eq (pe_fld (pv 0) rfl) (pe_fld (pv 1) rfl) (nomark _))))))), ?_⟩
  refine g_start (σ' := [some (.ref x), some (.ref y)]) rfl ?_
  have e := Ext.rfl' (H := H)
  walk_at "go"
  obtain ⟨q, dx, hq, hb1⟩ := id hb
  cases hq
  refine g_isiOwn T.q_Ratio T.k_Ratio hb1 ?_
  walk_at "go"
  refine g_if (fun c1 => ?_) (fun c1 => ?_)
  · walk_at "go"
    have z := k H Ext.rfl'
    rw [← q_eq, c1, Bool.true_and] at z
    exact z
  · have z := k H Ext.rfl'
    rw [← q_eq, c1, Bool.false_and] at z
    exact z

theorem sc_Ratio_add : FnScope ["self", "other"] ["self", "other"] (defScope Hd.s_Ratio_add) := ⟨rfl, rfl, rfl, by decide +kernel, rfl, by decide +kernel, by decide +kernel⟩
theorem ok_Ratio_add {w : World} {K : PySem.W.Frag} {mg : Str → Option Value} {base : Heap} (T : Tx K mg) (H_Ratio2 : Mkc PySem.Challenge.pw_notesttells_k00_fractions w K mg base 3 (He.ga K "Ratio") "Ratio" ["self", "num", "den"] [] (spRInit (He.ga K "Ratio") (He.ga K "BadRatio"))) {f : Addr} {fd : FuncData} {dvs : List V} (FD : FunD K "__add__" "Ratio.__add__" (defArgs Hd.s_Ratio_add) (defBody Hd.s_Ratio_add) (defScope Hd.s_Ratio_add) dvs [] f fd) : FnOk PySem.Challenge.pw_notesttells_k00_fractions w K mg base (L2.CX PySem.Challenge.pw_notesttells_k00_fractions w) 5 f fd ["self", "other"] (spR2 (He.ga K "Ratio") (· + ·)) := by
  skip
  refine FD.ok sc_Ratio_add (fun vs H Q E h => ?_) (fun cdv A outer s H vs Q E hr h => ?_)
  · obtain ⟨_, _, _, _, _, rfl, _⟩ := h
    rfl
  obtain ⟨F, x, y, a, b, rfl, e, ha, hb, sa, sb, k⟩ := h
  refine ⟨_, (pss_one (ps_ret (pe_mk H_Ratio2 (hr.mono (by decide)) passL (pa_cons (pe_op op_add (pe_op op_mulW (pe_fld (pv 0) rfl) (pe_fld (pv 1) rfl)) (pe_op op_mulW (pe_fld (pv 1) rfl) (pe_fld (pv 0) rfl))) (pa_cons (pe_op op_mulW (pe_fld (pv 0) rfl) (pe_fld (pv 1) rfl)) pa_nil))))), ?_⟩
  refine g_start (σ' := [some x, some y]) rfl ?_
  walk_at "go"
  refine g_rI (mulW sa.1 sb.den (by decide) (by decide) (by decide)) ?_
  walk_at "go"
  refine g_rI (mulW sb.1 sa.den (by decide) (by decide) (by decide)) ?_
  walk_at "go"
  refine g_rI (mulW sa.den sb.den (by decide) (by decide) (by decide)) ?_
  walk_at "go"
  exact mk_rat e (Int.mul_pos (by have := a.den_pos; omega) (by have := b.den_pos; omega)) (lt_mul sa.den sb.den (by decide)) (by rw [q_add]; exact k)

theorem sc_l_plus : FnScope ["_law_one", "_law_other"] ["_law_one", "_law_other"] (defScope Hd.s_l_plus) := ⟨rfl, rfl, rfl, by decide +kernel, rfl, by decide +kernel, by decide +kernel⟩
theorem ok_l_plus {w : World} {K : PySem.W.Frag} {mg : Str → Option Value} {base : Heap} (T : Tx K mg) (H_l_less : Fnc PySem.Challenge.pw_notesttells_k00_fractions w K mg base 1 "_law_less" ["_law_num", "_law_den"] spLess) {f : Addr} {fd : FuncData} {dvs : List V} (FD : FunD K "_law_plus" "_law_plus" (defArgs Hd.s_l_plus) (defBody Hd.s_l_plus) (defScope Hd.s_l_plus) dvs [] f fd) : FnOk PySem.Challenge.pw_notesttells_k00_fractions w K mg base (L2.CX PySem.Challenge.pw_notesttells_k00_fractions w) 2 f fd ["_law_one", "_law_other"] (spPr2 (· + ·)) := by
  skip
  refine FD.ok sc_l_plus (fun vs H Q E h => ?_) (fun cdv A outer s H vs Q E hr h => ?_)
  · obtain ⟨_, _, _, _, _, rfl, _⟩ := h
    rfl
  obtain ⟨F, x, y, a, b, rfl, e, ha, hb, da, db, ⟨k1, k2, a1, a2, b1, b2, z1, z2, z3⟩, k⟩ := h
  refine ⟨_, (pss_one (ps_ret (pe_fn H_l_less (hr.mono (by decide)) passL (pa_cons (pe_op op_add (pe_op op_mulW (pe_ix ix_tup (pv 0) pe_int (fun _ _ => rfl)) (pe_ix ix_tup (pv 1) pe_int (fun _ _ => rfl))) (pe_op op_mulW (pe_ix ix_tup (pv 1) pe_int (fun _ _ => rfl)) (pe_ix ix_tup (pv 0) pe_int (fun _ _ => rfl)))) (pa_cons (pe_op op_mulW (pe_ix ix_tup (pv 0) pe_int (fun _ _ => rfl)) (pe_ix ix_tup (pv 1) pe_int (fun _ _ => rfl))) pa_nil))))), ?_⟩
  refine g_start (σ' := [some x, some y]) rfl ?_
  walk_at "go"
  refine g_rI (mulW a1 b2 (by omega) (by omega) (by omega)) ?_
  walk_at "go"
  refine g_rI (mulW b1 a2 (by omega) (by omega) (by omega)) ?_
  walk_at "go"
  refine g_rI (mulW a2 b2 (by omega) (by omega) (by omega)) ?_
  walk_at "go"
  exact ⟨F, _, _, rfl, e, Int.mul_pos da db, lt_add (lt_mul a1 b2 (Nat.le_refl _)) (lt_mul b1 a2 (by omega)) (by omega), lt_mul a2 b2 (by omega), by rw [q_add2 da db]; exact k⟩

theorem sc_Ratio_sub : FnScope ["self", "other"] ["self", "other"] (defScope Hd.s_Ratio_sub) := ⟨rfl, rfl, rfl, by decide +kernel, rfl, by decide +kernel, by decide +kernel⟩
theorem ok_Ratio_sub {w : World} {K : PySem.W.Frag} {mg : Str → Option Value} {base : Heap} (T : Tx K mg) (H_Ratio2 : Mkc PySem.Challenge.pw_notesttells_k00_fractions w K mg base 3 (He.ga K "Ratio") "Ratio" ["self", "num", "den"] [] (spRInit (He.ga K "Ratio") (He.ga K "BadRatio"))) {f : Addr} {fd : FuncData} {dvs : List V} (FD : FunD K "__sub__" "Ratio.__sub__" (defArgs Hd.s_Ratio_sub) (defBody Hd.s_Ratio_sub) (defScope Hd.s_Ratio_sub) dvs [] f fd) : FnOk PySem.Challenge.pw_notesttells_k00_fractions w K mg base (L2.CX PySem.Challenge.pw_notesttells_k00_fractions w) 5 f fd ["self", "other"] (spR2 (He.ga K "Ratio") (· - ·)) := by
  skip
  refine FD.ok sc_Ratio_sub (fun vs H Q E h => ?_) (fun cdv A outer s H vs Q E hr h => ?_)
  · obtain ⟨_, _, _, _, _, rfl, _⟩ := h
    rfl
  obtain ⟨F, x, y, a, b, rfl, e, ha, hb, sa, sb, k⟩ := h
  refine ⟨_, (pss_one (ps_ret (pe_mk H_Ratio2 (hr.mono (by decide)) passL (pa_cons (pe_op op_sub (pe_op op_mulW (pe_fld (pv 0) rfl) (pe_fld (pv 1) rfl)) (pe_op op_mulW (pe_fld (pv 1) rfl) (pe_fld (pv 0) rfl))) (pa_cons (pe_op op_mulW (pe_fld (pv 0) rfl) (pe_fld (pv 1) rfl)) pa_nil))))), ?_⟩
  refine g_start (σ' := [some x, some y]) rfl ?_
  walk_at "go"
  refine g_rI (mulW sa.1 sb.den (by decide) (by decide) (by decide)) ?_
  walk_at "go"
  refine g_rI (mulW sb.1 sa.den (by decide) (by decide) (by decide)) ?_
  walk_at "go"
  refine g_rI (mulW sa.den sb.den (by decide) (by decide) (by decide)) ?_
  walk_at "go"
  exact mk_rat e (Int.mul_pos (by have := a.den_pos; omega) (by have := b.den_pos; omega)) (lt_mul sa.den sb.den (by decide)) (by rw [q_sub]; exact k)

theorem sc_l_minus : FnScope ["_law_one", "_law_other"] ["_law_one", "_law_other"] (defScope Hd.s_l_minus) := ⟨rfl, rfl, rfl, by decide +kernel, rfl, by decide +kernel, by decide +kernel⟩
theorem ok_l_minus {w : World} {K : PySem.W.Frag} {mg : Str → Option Value} {base : Heap} (T : Tx K mg) (H_l_less : Fnc PySem.Challenge.pw_notesttells_k00_fractions w K mg base 1 "_law_less" ["_law_num", "_law_den"] spLess) {f : Addr} {fd : FuncData} {dvs : List V} (FD : FunD K "_law_minus" "_law_minus" (defArgs Hd.s_l_minus) (defBody Hd.s_l_minus) (defScope Hd.s_l_minus) dvs [] f fd) : FnOk PySem.Challenge.pw_notesttells_k00_fractions w K mg base (L2.CX PySem.Challenge.pw_notesttells_k00_fractions w) 2 f fd ["_law_one", "_law_other"] (spPr2 (· - ·)) := by
  skip
  refine FD.ok sc_l_minus (fun vs H Q E h => ?_) (fun cdv A outer s H vs Q E hr h => ?_)
  · obtain ⟨_, _, _, _, _, rfl, _⟩ := h
    rfl
  obtain ⟨F, x, y, a, b, rfl, e, ha, hb, da, db, ⟨k1, k2, a1, a2, b1, b2, z1, z2, z3⟩, k⟩ := h
  refine ⟨_, (pss_one (ps_ret (pe_fn H_l_less (hr.mono (by decide)) passL (pa_cons (pe_op op_sub (pe_op op_mulW (pe_ix ix_tup (pv 0) pe_int (fun _ _ => rfl)) (pe_ix ix_tup (pv 1) pe_int (fun _ _ => rfl))) (pe_op op_mulW (pe_ix ix_tup (pv 1) pe_int (fun _ _ => rfl)) (pe_ix ix_tup (pv 0) pe_int (fun _ _ => rfl)))) (pa_cons (pe_op op_mulW (pe_ix ix_tup (pv 0) pe_int (fun _ _ => rfl)) (pe_ix ix_tup (pv 1) pe_int (fun _ _ => rfl))) pa_nil))))), ?_⟩
  refine g_start (σ' := [some x, some y]) rfl ?_
  walk_at "go"
  refine g_rI (mulW a1 b2 (by omega) (by omega) (by omega)) ?_
  walk_at "go"
  refine g_rI (mulW b1 a2 (by omega) (by omega) (by omega)) ?_
  walk_at "go"
  refine g_rI (mulW a2 b2 (by omega) (by omega) (by omega)) ?_
  walk_at "go"
  exact ⟨F, _, _, rfl, e, Int.mul_pos da db, lt_sub (lt_mul a1 b2 (Nat.le_refl _)) (lt_mul b1 a2 (by omega)) (by omega), lt_mul a2 b2 (by omega), by rw [q_sub2 da db]; exact k⟩

theorem sc_Ratio_mul : FnScope ["self", "other"] ["self", "other"] (defScope Hd.s_Ratio_mul) := ⟨rfl, rfl, rfl, by decide +kernel, rfl, by decide +kernel, by decide +kernel⟩
theorem ok_Ratio_mul {w : World} {K : PySem.W.Frag} {mg : Str → Option Value} {base : Heap} (T : Tx K mg) (H_Ratio2 : Mkc PySem.Challenge.pw_notesttells_k00_fractions w K mg base 3 (He.ga K "Ratio") "Ratio" ["self", "num", "den"] [] (spRInit (He.ga K "Ratio") (He.ga K "BadRatio"))) {f : Addr} {fd : FuncData} {dvs : List V} (FD : FunD K "__mul__" "Ratio.__mul__" (defArgs Hd.s_Ratio_mul) (defBody Hd.s_Ratio_mul) (defScope Hd.s_Ratio_mul) dvs [] f fd) : FnOk PySem.Challenge.pw_notesttells_k00_fractions w K mg base (L2.CX PySem.Challenge.pw_notesttells_k00_fractions w) 5 f fd ["self", "other"] (spR2 (He.ga K "Ratio") (· * ·)) := by
  skip
  refine FD.ok sc_Ratio_mul (fun vs H Q E h => ?_) (fun cdv A outer s H vs Q E hr h => ?_)
  · obtain ⟨_, _, _, _, _, rfl, _⟩ := h
    rfl
  obtain ⟨F, x, y, a, b, rfl, e, ha, hb, sa, sb, k⟩ := h
  refine ⟨_, (pss_one (ps_ret (pe_mk H_Ratio2 (hr.mono (by decide)) passL (pa_cons (pe_op op_mulW (pe_fld (pv 0) rfl) (pe_fld (pv 1) rfl)) (pa_cons (pe_op op_mulW (pe_fld (pv 0) rfl) (pe_fld (pv 1) rfl)) pa_nil))))), ?_⟩
  refine g_start (σ' := [some x, some y]) rfl ?_
  walk_at "go"
  refine g_rI (mulW sa.1 sb.1 (by decide) (by decide) (by decide)) ?_
  walk_at "go"
  refine g_rI (mulW sa.den sb.den (by decide) (by decide) (by decide)) ?_
  walk_at "go"
  exact mk_rat e (Int.mul_pos (by have := a.den_pos; omega) (by have := b.den_pos; omega)) (lt_mul sa.den sb.den (by decide)) (by rw [q_mul]; exact k)

theorem sc_l_times : FnScope ["_law_one", "_law_other"] ["_law_one", "_law_other"] (defScope Hd.s_l_times) := ⟨rfl, rfl, rfl, by decide +kernel, rfl, by decide +kernel, by decide +kernel⟩
theorem ok_l_times {w : World} {K : PySem.W.Frag} {mg : Str → Option Value} {base : Heap} (T : Tx K mg) (H_l_less : Fnc PySem.Challenge.pw_notesttells_k00_fractions w K mg base 1 "_law_less" ["_law_num", "_law_den"] spLess) {f : Addr} {fd : FuncData} {dvs : List V} (FD : FunD K "_law_times" "_law_times" (defArgs Hd.s_l_times) (defBody Hd.s_l_times) (defScope Hd.s_l_times) dvs [] f fd) : FnOk PySem.Challenge.pw_notesttells_k00_fractions w K mg base (L2.CX PySem.Challenge.pw_notesttells_k00_fractions w) 2 f fd ["_law_one", "_law_other"] (spPr2 (· * ·)) := by
  skip
  refine FD.ok sc_l_times (fun vs H Q E h => ?_) (fun cdv A outer s H vs Q E hr h => ?_)
  · obtain ⟨_, _, _, _, _, rfl, _⟩ := h
    rfl
  obtain ⟨F, x, y, a, b, rfl, e, ha, hb, da, db, ⟨k1, k2, a1, a2, b1, b2, z1, z2, z3⟩, k⟩ := h
  refine ⟨_, (pss_one (ps_ret (pe_fn H_l_less (hr.mono (by decide)) passL (pa_cons (pe_op op_mulW (pe_ix ix_tup (pv 0) pe_int (fun _ _ => rfl)) (pe_ix ix_tup (pv 1) pe_int (fun _ _ => rfl))) (pa_cons (pe_op op_mulW (pe_ix ix_tup (pv 0) pe_int (fun _ _ => rfl)) (pe_ix ix_tup (pv 1) pe_int (fun _ _ => rfl))) pa_nil))))), ?_⟩
  refine g_start (σ' := [some x, some y]) rfl ?_
  walk_at "go"
  refine g_rI (mulW a1 b1 (by omega) (by omega) (by omega)) ?_
  walk_at "go"
  refine g_rI (mulW a2 b2 (by omega) (by omega) (by omega)) ?_
  walk_at "go"
  exact ⟨F, _, _, rfl, e, Int.mul_pos da db, lt_mul a1 b1 (by omega), lt_mul a2 b2 (by omega), by rw [q_mul2 da db]; exact k⟩

theorem sc_Ratio_less : FnScope ["self", "other"] ["self", "other"] (defScope Hd.s_Ratio_less) := ⟨rfl, rfl, rfl, by decide +kernel, rfl, by decide +kernel, by decide +kernel⟩
theorem ok_Ratio_less {w : World} {K : PySem.W.Frag} {mg : Str → Option Value} {base : Heap} (T : Tx K mg)  {f : Addr} {fd : FuncData} {dvs : List V} (FD : FunD K "less" "Ratio.less" (defArgs Hd.s_Ratio_less) (defBody Hd.s_Ratio_less) (defScope Hd.s_Ratio_less) dvs [] f fd) : FnOk PySem.Challenge.pw_notesttells_k00_fractions w K mg base (L2.CX PySem.Challenge.pw_notesttells_k00_fractions w) 1 f fd ["self", "other"] (spRLess (He.ga K "Ratio")) := by
  skip
  refine FD.ok sc_Ratio_less (fun vs H Q E h => ?_) (fun cdv A outer s H vs Q E hr h => ?_)
  · obtain ⟨_, _, _, _, _, rfl, _⟩ := h
    rfl
  obtain ⟨F, x, y, a, b, rfl, e, ha, hb, sa, sb, k⟩ := h
  refine ⟨_, (pss_one (ps_ret (pe_cmpR op_lt (pe_op op_mulW (pe_fld (pv 0) rfl) (pe_fld (pv 1) rfl)) (pe_op op_mulW (pe_fld (pv 1) rfl) (pe_fld (pv 0) rfl)) (nomark _)))), ?_⟩
  refine g_start (σ' := [some x, some y]) rfl ?_
  walk_at "go"
  refine g_rI (mulW sa.1 sb.den (by decide) (by decide) (by decide)) ?_
  walk_at "go"
  refine g_rI (mulW sb.1 sa.den (by decide) (by decide) (by decide)) ?_
  walk_at "go"
  rw [q_lt]
  exact k

theorem sc_l_below : FnScope ["_law_one", "_law_other"] ["_law_one", "_law_other"] (defScope Hd.s_l_below) := ⟨rfl, rfl, rfl, by decide +kernel, rfl, by decide +kernel, by decide +kernel⟩
theorem ok_l_below {w : World} {K : PySem.W.Frag} {mg : Str → Option Value} {base : Heap} (T : Tx K mg)  {f : Addr} {fd : FuncData} {dvs : List V} (FD : FunD K "_law_below" "_law_below" (defArgs Hd.s_l_below) (defBody Hd.s_l_below) (defScope Hd.s_l_below) dvs [] f fd) : FnOk PySem.Challenge.pw_notesttells_k00_fractions w K mg base (L2.CX PySem.Challenge.pw_notesttells_k00_fractions w) 1 f fd ["_law_one", "_law_other"] spBelow := by
  skip
  refine FD.ok sc_l_below (fun vs H Q E h => ?_) (fun cdv A outer s H vs Q E hr h => ?_)
  · obtain ⟨_, _, _, _, _, rfl, _⟩ := h
    rfl
  obtain ⟨F, x, y, a, b, rfl, e, ha, hb, da, db, ⟨k1, a1, a2, b1, b2, z1, z2⟩, k⟩ := h
  refine ⟨_, (pss_one (ps_ret (pe_cmpR op_lt (pe_op op_mulW (pe_ix ix_tup (pv 0) pe_int (fun _ _ => rfl)) (pe_ix ix_tup (pv 1) pe_int (fun _ _ => rfl))) (pe_op op_mulW (pe_ix ix_tup (pv 1) pe_int (fun _ _ => rfl)) (pe_ix ix_tup (pv 0) pe_int (fun _ _ => rfl))) (nomark _)))), ?_⟩
  refine g_start (σ' := [some x, some y]) rfl ?_
  walk_at "go"
  refine g_rI (mulW a1 b2 (by omega) (by omega) (by omega)) ?_
  walk_at "go"
  refine g_rI (mulW b1 a2 (by omega) (by omega) (by omega)) ?_
  walk_at "go"
  rw [q_lt2 da db]
  exact k

theorem sc_Ratio_by : FnScope ["self", "other", "sign"] ["self", "other"] (defScope Hd.s_Ratio_by) := ⟨rfl, rfl, rfl, by decide +kernel, rfl, by decide +kernel, by decide +kernel⟩
theorem ok_Ratio_by {w : World} {K : PySem.W.Frag} {mg : Str → Option Value} {base : Heap} (T : Tx K mg) (H_Ratio2 : Mkc PySem.Challenge.pw_notesttells_k00_fractions w K mg base 3 (He.ga K "Ratio") "Ratio" ["self", "num", "den"] [] (spRInit (He.ga K "Ratio") (He.ga K "BadRatio"))) {f : Addr} {fd : FuncData} {dvs : List V} (FD : FunD K "by" "Ratio.by" (defArgs Hd.s_Ratio_by) (defBody Hd.s_Ratio_by) (defScope Hd.s_Ratio_by) dvs [] f fd) : FnOk PySem.Challenge.pw_notesttells_k00_fractions w K mg base (L2.CX PySem.Challenge.pw_notesttells_k00_fractions w) 5 f fd ["self", "other"] (spRBy (He.ga K "Ratio") (He.ga K "BadRatio")) := by
  skip
  refine FD.ok sc_Ratio_by (fun vs H Q E h => ?_) (fun cdv A outer s H vs Q E hr h => ?_)
  · obtain ⟨_, _, _, _, _, rfl, _⟩ := h
    rfl
  obtain ⟨F, x, y, a, b, rfl, e, ha, hb, sa, sb, k0, k1⟩ := h
  refine ⟨_, (pss_cons (ps_if (pt_cmpR op_eq (pe_fld (pv 1) rfl) pe_int (nomark _)) (pss_one (ps_raise rfl (takes_of rfl rfl rfl rfl) (pmk_Non T.x_BadRatio T.g_BadRatio T.m_super rfl hr))) pss_nil)
  (pss_cons (ps_set (i := 2) sc_Ratio_by.nd rfl (Or.inl rfl) (pe_ifExp (pt_cmpR op_gt (pe_fld (pv 1) rfl) pe_int (nomark _)) pe_int (pe_un un_neg pe_int)))
  (pss_one (ps_ret (pe_mk H_Ratio2 (hr.mono (by decide)) passL (pa_cons (pe_op op_mulW (pe_op op_mulW (pv 2) (pe_fld (pv 0) rfl)) (pe_fld (pv 1) rfl)) (pa_cons (pe_op op_mulW (pe_fld (pv 0) rfl) (pe_callB call_abs (by rfl) T.m_abs (by decide +kernel) (pa_cons (pe_fld (pv 1) rfl) pa_nil))) pa_nil))))))), ?_⟩
  refine g_start (σ' := [some x, some y, none]) rfl ?_
  walk_at "go"
  refine g_dec (fun c => ?_) (fun c => ?_)
  · exact k0 (by
      have := q_self b
      rw [c] at this
      rw [← this, Rat.zero_divInt])
  walk_at "go"
  have hn : b ≠ 0 := fun z => c (by rw [z]; rfl)
  have k2 := k1 hn
  have da : (0 : Int) < a.den := by have := a.den_pos; omega
  refine g_dec (fun c2 => ?_) (fun c2 => ?_)
  · walk_at "go"
    refine g_rI (mulW (a := 1) (by decide) sa.1 (by decide) (by decide) (by decide)) ?_
    walk_at "go"
    refine g_rI (mulW (lt_mul (a := 1) (by decide) sa.1 (Nat.le_refl _)) sb.den (by decide) (by decide) (by decide)) ?_
    walk_at "go"
    rw [if_neg (by omega)]
    refine g_rI (mulW sa.den sb.1 (by decide) (by decide) (by decide)) ?_
    walk_at "go"
    exact mk_rat e (Int.mul_pos da c2) (lt_mul sa.den sb.1 (by decide)) (by rw [← q_by (s := 1) (by decide), Int.one_mul b.num] at k2; exact k2)
  · walk_at "go"
    refine g_rI (mulW (a := 1) (by decide) sa.1 (by decide) (by decide) (by decide)) ?_
    walk_at "go"
    refine g_rI (mulW (lt_mul (a := 1) (by decide) sa.1 (Nat.le_refl _)) sb.den (by decide) (by decide) (by decide)) ?_
    walk_at "go"
    have hneg : b.num < 0 := by omega
    rw [if_pos hneg]
    have s1 : (-b.num).natAbs < 2 ^ 4000 := by rw [Int.natAbs_neg]; exact sb.1
    refine g_rI (mulW sa.den s1 (by decide) (by decide) (by decide)) ?_
    walk_at "go"
    have e1 : (-1 : Int) * b.num = -b.num := by omega
    exact mk_rat e (Int.mul_pos da (by omega)) (lt_mul sa.den s1 (by decide)) (by rw [← q_by (s := -1) (by decide), e1] at k2; exact k2)

theorem sc_l_refused : FnScope ["_law_pair", "_law_by", "e"] ["_law_pair", "_law_by"] (defScope Hd.s_l_refused) := ⟨rfl, rfl, rfl, by decide +kernel, rfl, by decide +kernel, by decide +kernel⟩
theorem ok_l_refused {w : World} {K : PySem.W.Frag} {mg : Str → Option Value} {base : Heap} (T : Tx K mg) (H_Ratio2 : Mkc PySem.Challenge.pw_notesttells_k00_fractions w K mg base 3 (He.ga K "Ratio") "Ratio" ["self", "num", "den"] [] (spRInit (He.ga K "Ratio") (He.ga K "BadRatio"))) (H_Ratio_by : Mtc PySem.Challenge.pw_notesttells_k00_fractions w K mg base 5 (He.ga K "Ratio") "by" ["self", "other"] (spRBy (He.ga K "Ratio") (He.ga K "BadRatio"))) (H_Ratio1 : Mkc PySem.Challenge.pw_notesttells_k00_fractions w K mg base 3 (He.ga K "Ratio") "Ratio" ["self", "num", "den"] [.int 1] (spRInit (He.ga K "Ratio") (He.ga K "BadRatio"))) {f : Addr} {fd : FuncData} {dvs : List V} (FD : FunD K "_law_refused" "_law_refused" (defArgs Hd.s_l_refused) (defBody Hd.s_l_refused) (defScope Hd.s_l_refused) dvs [] f fd) : FnOk PySem.Challenge.pw_notesttells_k00_fractions w K mg base (L2.CX PySem.Challenge.pw_notesttells_k00_fractions w) 6 f fd ["_law_pair", "_law_by"] (spRefused (He.ga K "Ratio")) := by
  skip
  refine FD.ok sc_l_refused (fun vs H Q E h => ?_) (fun cdv A outer s H vs Q E hr h => ?_)
  · obtain ⟨_, _, _, rfl, _⟩ := h
    rfl
  obtain ⟨F, x, y, rfl, e, hc, k⟩ := h
  refine ⟨_, (pss_cons (ps_tryA (c := .ref (He.ga K "TestError")) (i := 2) rfl rfl sc_l_refused.nd rfl rfl ⟨rfl, by decide, Or.inl T.g_TestError⟩
  (fun W pn xe tk _ => (pss_one (ps_if (pt_cmpR op_isN1 (pv 1) pe_non (nomark _)) (pss_one (ps_expr (pe_mkZ H_Ratio2 (hr.mono (by decide)) (fun σ => passAt tk σ) (pa_cons (pe_ix ix_tup (pv 0) pe_int (fun _ _ => rfl)) (pa_cons (pe_ix ix_tup (pv 0) pe_int (fun _ _ => rfl)) pa_nil))))) (pss_one (ps_expr (pe_mtZ H_Ratio_by (pv 1) (hr.mono (by decide)) (fun σ => passAt tk σ) (pa_cons (pe_mkZ H_Ratio1 (hr.mono (by decide)) (fun σ => passAt tk σ) (pa_cons pe_int pa_nil)) pa_nil)))))))
  (fun a oe cls d pn hz hf => (pss_one (ps_ret (pe_and (pe_callB (call_isX hz hf) (by rfl) T.m_isinstance (by decide +kernel) (pa_cons (pv 2) (pa_cons (pe_glob (v := .ref (He.ga K "BadRatio")) rfl T.g_BadRatio rfl) pa_nil))) (pe_and (pe_not (pe_callB (call_isXT hz hf) (by rfl) T.m_isinstance (by decide +kernel) (pa_cons (pv 2) (pa_cons (pe_tup (pa_cons (pe_glob (v := .ref (He.ga K "BadMachine")) rfl T.g_BadMachine rfl) (pa_cons (pe_glob (v := .ref (He.ga K "BadPaper")) rfl T.g_BadPaper rfl) (pa_cons (pe_glob (v := .ref (He.ga K "BadText")) rfl T.g_BadText rfl) (pa_cons (pe_glob (v := .ref (He.ga K "TooLarge")) rfl T.g_TooLarge rfl) pa_nil))))) pa_nil)))) (pe_one (pe_callB (call_isX hz hf) (by rfl) T.m_isinstance (by decide +kernel) (pa_cons (pv 2) (pa_cons (pe_bltn (v := .ty "ValueError") (by rfl) T.m_ValueError (by decide +kernel) rfl) pa_nil))))))))))
  (pss_one (ps_ret pe_bl))), ?_⟩
  refine g_start (σ' := [some x, some y, none]) rfl ?_
  rcases hc with ⟨p, hx, hp0, hp1, rfl⟩ | ⟨a, hy, sa⟩
  · walk_at "go"
    refine g_tryA (fun pn xe => ?_)
    walk_at "go"
    refine mk_bad hp0 hp1 (fun H1 e1 => ?_)
    have n1 := Nx.grow (M := []) e e1
    refine g_caught T.h_BadRatio (fun a0 ha0 oe pn2 => ?_)
    walk_at "go"
    refine ⟨_, rfl, T.e_BadRatio, .inl rfl, _, _, true, rfl, .own _, kit_self, ?_⟩
    walk_at "go"
    refine ⟨by show 4 ≤ sizeLine; decide, fun tp htp => ?_⟩
    walk_at "go"
    refine ⟨_, rfl, T.e_BadRatio, .inl rfl, _, _, _, false, rfl, upd_same, own4, kany4 T.i_BadRatio_BadMachine T.i_BadRatio_BadPaper T.i_BadRatio_BadText T.i_BadRatio_TooLarge, ?_⟩
    walk_at "go"
    refine ⟨_, rfl, T.e_BadRatio, .inl rfl, _, _, true, rfl, .ty _, T.i_BadRatio_ValueError, ?_⟩
    exact k _ _ (n1.trans (Nx.open_ n1.fh htp))
  · obtain ⟨p, dx, rfl, hp⟩ := id hy
    walk_at "go"
    refine g_tryA (fun pn xe => ?_)
    walk_at "go"
    refine mt_rat hy e (by decide +kernel) (by decide +kernel) ?_
    walk_at "go"
    refine mk_rat e (n := 0) (show (0 : Int) < 1 by decide) (by decide) (fun v F1 H1 n1 hv => ?_)
    walk_at "go"
    refine ⟨F1, _, _, a, _, rfl, n1.fh, (tRat _).mono n1.ff hy, hv, sa, ?_, fun _ => ?_, fun z => absurd (Rat.zero_divInt _) z⟩
    · rw [Rat.zero_divInt]; exact ⟨by decide, by decide⟩
    refine g_caught T.h_BadRatio (fun a0 ha0 oe pn2 => ?_)
    walk_at "go"
    refine ⟨_, rfl, T.e_BadRatio, .inl rfl, _, _, true, rfl, .own _, kit_self, ?_⟩
    walk_at "go"
    refine ⟨by show 4 ≤ sizeLine; decide, fun tp htp => ?_⟩
    walk_at "go"
    refine ⟨_, rfl, T.e_BadRatio, .inl rfl, _, _, _, false, rfl, upd_same, own4, kany4 T.i_BadRatio_BadMachine T.i_BadRatio_BadPaper T.i_BadRatio_BadText T.i_BadRatio_TooLarge, ?_⟩
    walk_at "go"
    refine ⟨_, rfl, T.e_BadRatio, .inl rfl, _, _, true, rfl, .ty _, T.i_BadRatio_ValueError, ?_⟩
    exact k _ _ (n1.trans (Nx.open_ n1.fh htp))

theorem sc_law : FnScope ["_law_script", "_law_pool_here", "_law_k", "_law_bound", "_law_one", "_law_other", "_law_a", "_law_b", "_law_due", "_law_text", "_law_sign", "_law_turn"] ["_law_script"] (defScope Hd.s_law) := ⟨rfl, rfl, rfl, by decide +kernel, rfl, by decide +kernel, by decide +kernel⟩
theorem ok_law {w : World} {K : PySem.W.Frag} {mg : Str → Option Value} {base : Heap} (T : Tx K mg) (H_l_pool : Fnc PySem.Challenge.pw_notesttells_k00_fractions w K mg base 1 "_law_pool" ["_law_script", "_law_budget"] (spPool K)) (H_l_draw : Fnc PySem.Challenge.pw_notesttells_k00_fractions w K mg base 1 "_law_draw" ["_law_pool_here", "_law_size"] spDraw) (H_Ratio2 : Mkc PySem.Challenge.pw_notesttells_k00_fractions w K mg base 3 (He.ga K "Ratio") "Ratio" ["self", "num", "den"] [] (spRInit (He.ga K "Ratio") (He.ga K "BadRatio"))) (H_Ratio2K : Mkk PySem.Challenge.pw_notesttells_k00_fractions w K mg base 3 (He.ga K "Ratio") "Ratio" ["self", "num", "den"] ["num", "den"] (spRInit (He.ga K "Ratio") (He.ga K "BadRatio"))) (H_l_less : Fnc PySem.Challenge.pw_notesttells_k00_fractions w K mg base 1 "_law_less" ["_law_num", "_law_den"] spLess) (H_l_is : Fnc PySem.Challenge.pw_notesttells_k00_fractions w K mg base 7 "_law_is" ["_law_ratio", "_law_due"] (spIs (He.ga K "Ratio"))) (H_Ratio_str : Mtc PySem.Challenge.pw_notesttells_k00_fractions w K mg base 1 (He.ga K "Ratio") "__str__" ["self"] (spRStr (He.ga K "Ratio"))) (H_l_same : Fnc PySem.Challenge.pw_notesttells_k00_fractions w K mg base 6 "_law_same" ["_law_actual", "_law_due"] (spSame K 6)) (H_Ratio_eq : Mtc PySem.Challenge.pw_notesttells_k00_fractions w K mg base 1 (He.ga K "Ratio") "__eq__" ["self", "other"] (spEqb (eqR (He.ga K "Ratio")))) (H_Ratio_add : Mtc PySem.Challenge.pw_notesttells_k00_fractions w K mg base 5 (He.ga K "Ratio") "__add__" ["self", "other"] (spR2 (He.ga K "Ratio") (· + ·))) (H_l_plus : Fnc PySem.Challenge.pw_notesttells_k00_fractions w K mg base 2 "_law_plus" ["_law_one", "_law_other"] (spPr2 (· + ·))) (H_Ratio_sub : Mtc PySem.Challenge.pw_notesttells_k00_fractions w K mg base 5 (He.ga K "Ratio") "__sub__" ["self", "other"] (spR2 (He.ga K "Ratio") (· - ·))) (H_l_minus : Fnc PySem.Challenge.pw_notesttells_k00_fractions w K mg base 2 "_law_minus" ["_law_one", "_law_other"] (spPr2 (· - ·))) (H_Ratio_mult : Mtc PySem.Challenge.pw_notesttells_k00_fractions w K mg base 5 (He.ga K "Ratio") "__mul__" ["self", "other"] (spR2 (He.ga K "Ratio") (· * ·))) (H_l_times : Fnc PySem.Challenge.pw_notesttells_k00_fractions w K mg base 2 "_law_times" ["_law_one", "_law_other"] (spPr2 (· * ·))) (H_Ratio_less : Mtc PySem.Challenge.pw_notesttells_k00_fractions w K mg base 1 (He.ga K "Ratio") "less" ["self", "other"] (spRLess (He.ga K "Ratio"))) (H_l_below : Fnc PySem.Challenge.pw_notesttells_k00_fractions w K mg base 1 "_law_below" ["_law_one", "_law_other"] spBelow) (H_l_refused : Fnc PySem.Challenge.pw_notesttells_k00_fractions w K mg base 6 "_law_refused" ["_law_pair", "_law_by"] (spRefused (He.ga K "Ratio"))) (H_Ratio_by : Mtc PySem.Challenge.pw_notesttells_k00_fractions w K mg base 5 (He.ga K "Ratio") "by" ["self", "other"] (spRBy (He.ga K "Ratio") (He.ga K "BadRatio"))) (H_Ratio1 : Mkc PySem.Challenge.pw_notesttells_k00_fractions w K mg base 3 (He.ga K "Ratio") "Ratio" ["self", "num", "den"] [.int 1] (spRInit (He.ga K "Ratio") (He.ga K "BadRatio"))) {f : Addr} {fd : FuncData} {dvs : List V} (FD : FunD K "law" "law" (defArgs Hd.s_law) (defBody Hd.s_law) (defScope Hd.s_law) dvs [] f fd) : FnOk PySem.Challenge.pw_notesttells_k00_fractions w K mg base (L2.CX PySem.Challenge.pw_notesttells_k00_fractions w) 8 f fd ["_law_script"] (spLaw K) := by
  skip
  refine FD.ok sc_law (fun vs H Q E h => ?_) (fun cdv A outer s H vs Q E hr h => ?_)
  · obtain ⟨_, _, _, rfl, _⟩ := h
    rfl
  obtain ⟨a, ns, F, rfl, e, hs, hl, k⟩ := h
  refine ⟨_, (pss_cons (ps_set (i := 1) sc_law.nd rfl (Or.inl rfl) (pe_fn H_l_pool (hr.mono (by decide)) passL (pa_cons (pv 0) (pa_cons pe_int pa_nil))))
  (pss_cons (ps_for (passes_of rfl) rfl (pi_range1 rfl T.m_range (pa_cons (pe_op op_add pe_int (pe_op op_fdivW (pe_callB call_len_seq (by rfl) T.m_len PySem.boot_len (pa_cons (pv 0) pa_nil)) pe_int)) pa_nil)) (pg_name (i := 2) sc_law.nd rfl (Or.inl rfl))
  (pss_cons (ps_set (i := 3) sc_law.nd rfl (Or.inl rfl) (pe_ix ix_tup (pe_tup (pa_cons pe_int (pa_cons pe_int (pa_cons (pe_op op_pow pe_int pe_int) pa_nil)))) (pe_fn H_l_draw (hr.mono (by decide)) passL (pa_cons (pv 1) (pa_cons pe_int pa_nil))) (fun _ _ => rfl)))
  (pss_cons (ps_set (i := 4) sc_law.nd rfl (Or.inl rfl) (pe_tup (pa_cons (pe_op op_sub (pe_fn H_l_draw (hr.mono (by decide)) passL (pa_cons (pv 1) (pa_cons (pe_op op_mul pe_int (pv 3)) pa_nil))) (pv 3)) (pa_cons (pe_op op_add pe_int (pe_fn H_l_draw (hr.mono (by decide)) passL (pa_cons (pv 1) (pa_cons (pv 3) pa_nil)))) pa_nil))))
  (pss_cons (ps_set (i := 5) sc_law.nd rfl (Or.inl rfl) (pe_tup (pa_cons (pe_op op_sub (pe_fn H_l_draw (hr.mono (by decide)) passL (pa_cons (pv 1) (pa_cons (pe_op op_mul pe_int (pv 3)) pa_nil))) (pv 3)) (pa_cons (pe_op op_add pe_int (pe_fn H_l_draw (hr.mono (by decide)) passL (pa_cons (pv 1) (pa_cons (pv 3) pa_nil)))) pa_nil))))
  (pss_cons (ps_set (i := 6) sc_law.nd rfl (Or.inl rfl) (pe_mk H_Ratio2 (hr.mono (by decide)) passL (pa_cons (pe_ix ix_tup (pv 4) pe_int (fun _ _ => rfl)) (pa_cons (pe_ix ix_tup (pv 4) pe_int (fun _ _ => rfl)) pa_nil))))
  (pss_cons (ps_set (i := 7) sc_law.nd rfl (Or.inl rfl) (pe_mkK H_Ratio2K (hr.mono (by decide)) passL (pk_cons (pe_ix ix_tup (pv 5) pe_int (fun _ _ => rfl)) (pk_cons (pe_ix ix_tup (pv 5) pe_int (fun _ _ => rfl)) pk_nil))))
  (pss_cons (ps_set (i := 8) sc_law.nd rfl (Or.inl rfl) (pe_fn H_l_less (hr.mono (by decide)) passL (pa_cons (pe_ix ix_tup (pv 4) pe_int (fun _ _ => rfl)) (pa_cons (pe_ix ix_tup (pv 4) pe_int (fun _ _ => rfl)) pa_nil))))
  (pss_cons (ps_set (i := 9) sc_law.nd rfl (Or.inl rfl) (pe_callTy call_str_int (by rfl) T.m_str (by decide +kernel) (pa_cons (pe_ix ix_tup (pv 8) pe_int (fun _ _ => rfl)) pa_nil)))
  (pss_cons (ps_if (pt_cmpR op_gt (pe_ix ix_tup (pv 8) pe_int (fun _ _ => rfl)) pe_int (nomark _)) (pss_one (ps_set (i := 9) sc_law.nd rfl (Or.inl rfl) (pe_op op_add_str (pe_op op_add_str (pv 9) pe_str) (pe_callTy call_str_int (by rfl) T.m_str (by decide +kernel) (pa_cons (pe_ix ix_tup (pv 8) pe_int (fun _ _ => rfl)) pa_nil))))) pss_nil)
  (pss_cons (ps_if (PW.pt (pw_or (pt_not (pt_val (pe_fn H_l_is (hr.mono (by decide)) passL (pa_cons (pv 6) (pa_cons (pv 8) pa_nil))))) (pw_or (pt_cmpR op_ne (pe_callTy (str_mtc H_Ratio_str (hr.mono (by decide)) passL) (by rfl) T.m_str (by decide +kernel) (pa_cons (pv 6) pa_nil)) (pv 9) (nomark _)) (pw_or1 (pt_not (pt_val (pe_fn H_l_same (hr.mono (by decide)) passL (pa_cons (pe_cmpR (op_eqBB (eq_mtc H_Ratio_eq) (hr.mono (by decide))) (pv 6) (pv 7) (nomark _)) (pa_cons (pe_cmpR (op_eqD hr.units) (pv 8) (pe_fn H_l_less (hr.mono (by decide)) passL (pa_cons (pe_ix ix_tup (pv 5) pe_int (fun _ _ => rfl)) (pa_cons (pe_ix ix_tup (pv 5) pe_int (fun _ _ => rfl)) pa_nil))) (nomark _)) pa_nil))))))))) (pss_one (ps_ret pe_bl)) pss_nil)
  (pss_cons (ps_if (PW.pt (pw_or (pt_not (pt_val (pe_fn H_l_is (hr.mono (by decide)) passL (pa_cons (pe_op (op_mtc H_Ratio_add (hr.mono (by decide)) T.o_Ratio.1 passL) (pv 6) (pv 7)) (pa_cons (pe_fn H_l_plus (hr.mono (by decide)) passL (pa_cons (pv 4) (pa_cons (pv 5) pa_nil))) pa_nil))))) (pw_or1 (pt_not (pt_val (pe_fn H_l_is (hr.mono (by decide)) passL (pa_cons (pe_op (op_mtc H_Ratio_sub (hr.mono (by decide)) T.o_Ratio.1 passL) (pv 6) (pv 7)) (pa_cons (pe_fn H_l_minus (hr.mono (by decide)) passL (pa_cons (pv 4) (pa_cons (pv 5) pa_nil))) pa_nil)))))))) (pss_one (ps_ret pe_bl)) pss_nil)
  (pss_cons (ps_if (PW.pt (pw_or (pt_not (pt_val (pe_fn H_l_is (hr.mono (by decide)) passL (pa_cons (pe_op (op_mtc H_Ratio_mult (hr.mono (by decide)) T.o_Ratio.1 passL) (pv 6) (pv 7)) (pa_cons (pe_fn H_l_times (hr.mono (by decide)) passL (pa_cons (pv 4) (pa_cons (pv 5) pa_nil))) pa_nil))))) (pw_or1 (pt_not (pt_val (pe_fn H_l_same (hr.mono (by decide)) passL (pa_cons (pe_mt H_Ratio_less (pv 6) (hr.mono (by decide)) passL (pa_cons (pv 7) pa_nil)) (pa_cons (pe_fn H_l_below (hr.mono (by decide)) passL (pa_cons (pv 4) (pa_cons (pv 5) pa_nil))) pa_nil)))))))) (pss_one (ps_ret pe_bl)) pss_nil)
  (pss_cons (ps_set (i := 10) sc_law.nd rfl (Or.inl rfl) (pe_op op_sub pe_int (pe_op op_mul pe_int (pe_callTy call_int1 (by rfl) T.m_int (by decide +kernel) (pa_cons (pe_cmpR op_lt (pe_ix ix_tup (pv 5) pe_int (fun _ _ => rfl)) pe_int (nomark _)) pa_nil)))))
  (pss_cons (ps_if (pt_cmpR op_eq (pe_ix ix_tup (pv 5) pe_int (fun _ _ => rfl)) pe_int (nomark _)) (pss_one (ps_if (pt_not (pt_val (pe_fn H_l_refused (hr.mono (by decide)) passL (pa_cons (pv 4) (pa_cons (pv 6) pa_nil))))) (pss_one (ps_ret pe_bl)) pss_nil)) (pss_one (ps_if (pt_not (pt_val (pe_fn H_l_is (hr.mono (by decide)) passL (pa_cons (pe_mt H_Ratio_by (pv 6) (hr.mono (by decide)) passL (pa_cons (pv 7) pa_nil)) (pa_cons (pe_fn H_l_less (hr.mono (by decide)) passL (pa_cons (pe_op op_mulW (pe_op op_mulW (pe_ix ix_tup (pv 4) pe_int (fun _ _ => rfl)) (pe_ix ix_tup (pv 5) pe_int (fun _ _ => rfl))) (pv 10)) (pa_cons (pe_op op_mulW (pe_op op_mulW (pe_ix ix_tup (pv 4) pe_int (fun _ _ => rfl)) (pe_ix ix_tup (pv 5) pe_int (fun _ _ => rfl))) (pv 10)) pa_nil))) pa_nil))))) (pss_one (ps_ret pe_bl)) pss_nil)))
  (pss_one (ps_if (PW.pt (pw_or (pt_not (pt_val (pe_fn H_l_is (hr.mono (by decide)) passL (pa_cons (pv 6) (pa_cons (pv 8) pa_nil))))) (pw_or1 (pt_not (pt_val (pe_fn H_l_is (hr.mono (by decide)) passL (pa_cons (pv 7) (pa_cons (pe_fn H_l_less (hr.mono (by decide)) passL (pa_cons (pe_ix ix_tup (pv 5) pe_int (fun _ _ => rfl)) (pa_cons (pe_ix ix_tup (pv 5) pe_int (fun _ _ => rfl)) pa_nil))) pa_nil)))))))) (pss_one (ps_ret pe_bl)) pss_nil))))))))))))))))
  (pss_cons (ps_for (passes_of rfl) rfl (pi_range1 rfl T.m_range (pa_cons pe_int pa_nil)) (pg_name (i := 11) sc_law.nd rfl (Or.inl rfl))
  (pss_one (ps_if (pt_not (pt_val (pe_fn H_l_refused (hr.mono (by decide)) passL (pa_cons (pe_tup (pa_cons (pe_op op_sub (pe_fn H_l_draw (hr.mono (by decide)) passL (pa_cons (pv 1) (pa_cons pe_int pa_nil))) pe_int) (pa_cons (pe_op op_sub pe_int (pe_ix ix_tup (pe_tup (pa_cons (pe_fn H_l_draw (hr.mono (by decide)) passL (pa_cons (pv 1) (pa_cons pe_int pa_nil))) (pa_cons (pe_fn H_l_draw (hr.mono (by decide)) passL (pa_cons (pv 1) (pa_cons pe_int pa_nil))) pa_nil))) (pv 11) (fun _ _ => rfl))) pa_nil))) (pa_cons pe_non pa_nil))))) (pss_one (ps_ret pe_bl)) pss_nil)))
  (pss_one (ps_ret (pe_fn H_l_is (hr.mono (by decide)) passL (pa_cons (pe_mk H_Ratio1 (hr.mono (by decide)) passL (pa_cons pe_int pa_nil)) (pa_cons (pe_tup (pa_cons pe_int (pa_cons pe_int pa_nil))) pa_nil)))))))), ?_⟩
  refine g_start (σ' := [some (.ref a), none, none, none, none, none, none, none, none, none, none, none]) rfl ?_
  walk_at "go"
  refine ⟨a, ns, F, 0, rfl, e, hs, hl, fun p F1 H1 n1 hP hpn => ?_⟩
  have hs1 := hs.ext n1.ff
  have e1 := n1.fh
  walk_at "go"
  refine ⟨_, _, rfl, .inl (hs1.ext e1), ?_⟩
  rw [List.length_map]
  walk_at "go"
  refine g_fdivK (by decide) ?_
  walk_at "go"
  refine ⟨by omega, by omega, ?_⟩
  refine loop_rngZ (fun _ σ' H' => ∃ F1 s1 c2 c3 c4 c5 c6 c7 c8 c9 c10 c11, Ext F1 H' ∧ PoolAt F1 H' p s1 ∧ σ' = [some (.ref a), some (.ref p), c2, c3, c4, c5, c6, c7, c8, c9, c10, c11]) (fun σ' H' => ∃ F1 s1 c2 c3 c4 c5 c6 c7 c8 c9 c10 c11, Ext F1 H' ∧ PoolAt F1 H' p s1 ∧ σ' = [some (.ref a), some (.ref p), c2, c3, c4, c5, c6, c7, c8, c9, c10, c11]) ⟨F1, _, _, _, _, _, _, _, _, _, _, _, e1, hP, rfl⟩ ?_ (fun N tl i σ' H' hi hJ => ?_) (fun σ' H' hJ => hJ)
  rotate_left
  · clear hP e1
    obtain ⟨F2, s2, c2, c3, c4, c5, c6, c7, c8, c9, c10, c11, e2, hP, rfl⟩ := hJ
    walk_at "go"
    refine g_rI ⟨by decide, by decide, by decide⟩ ?_
    walk_at "go"
    refine st_tup e2 (fun tq F3 H3 n3 tqh => ?_)
    have e3 := n3.fh
    replace hP := hP.nx n3
    walk_at "go"
    refine st_draw e3 hP (by decide) (by decide) (fun d4 s4 H4 p4 q4 n4 hP4 => ?_)
    replace hP := hP4
    have e4 := n4.fh
    obtain ⟨b, hb, hb1, hb2⟩ : ∃ b : Int, atI [V.int 5, V.int 100, V.int (10 ^ Int.toNat 6)] d4 = some (.int b) ∧ 5 ≤ b ∧ b ≤ 1000000 := by
      have : d4 = 0 ∨ d4 = 1 ∨ d4 = 2 := by omega
      rcases this with rfl | rfl | rfl
      · exact ⟨5, rfl, by decide, by decide⟩
      · exact ⟨100, rfl, by decide, by decide⟩
      · exact ⟨10 ^ Int.toNat 6, rfl, by decide, by decide⟩
    refine st_ixT e4 tqh hb ?_
    walk_at "go"
    refine g_rI (.inl ⟨by decide, by decide⟩) ?_
    walk_at "go"
    refine st_draw e4 hP (by omega) (by omega) (fun d5 s5 H5 p5 q5 n5 hP5 => ?_)
    replace hP := hP5
    have e5 := n5.fh
    walk_at "go"
    refine st_draw e5 hP (by omega) (by omega) (fun d6 s6 H6 p6 q6 n6 hP6 => ?_)
    replace hP := hP6
    have e6 := n6.fh
    walk_at "go"
    obtain ⟨x1, x1e, x1s⟩ : ∃ z, z = d5 - b ∧ z.natAbs < 2 ^ 20 := ⟨_, rfl, by omega⟩
    obtain ⟨y1, y1e, y1p, y1s⟩ : ∃ z, z = 1 + d6 ∧ 0 < z ∧ z.natAbs < 2 ^ 20 := ⟨_, rfl, by omega, by omega⟩
    rw [← x1e, ← y1e]
    refine new_pair e6 (fun v_one F7 H7 n7 one => ?_)
    have e7 := n7.fh
    replace hP := hP.nx n7
    walk_at "go"
    refine g_rI (.inl ⟨by decide, by decide⟩) ?_
    walk_at "go"
    refine st_draw e7 hP (by omega) (by omega) (fun d8 s8 H8 p8 q8 n8 hP8 => ?_)
    replace hP := hP8
    have e8 := n8.fh
    walk_at "go"
    refine st_draw e8 hP (by omega) (by omega) (fun d9 s9 H9 p9 q9 n9 hP9 => ?_)
    replace hP := hP9
    have e9 := n9.fh
    walk_at "go"
    obtain ⟨x2, x2e, x2s⟩ : ∃ z, z = d8 - b ∧ z.natAbs < 2 ^ 20 := ⟨_, rfl, by omega⟩
    obtain ⟨y2, y2e, y2p, y2s⟩ : ∃ z, z = 1 + d9 ∧ 0 < z ∧ z.natAbs < 2 ^ 20 := ⟨_, rfl, by omega, by omega⟩
    rw [← x2e, ← y2e]
    refine new_pair e9 (fun v_oth F10 H10 n10 oth => ?_)
    have e10 := n10.fh
    replace one := (tP).mono n10.ff one
    replace hP := hP.nx n10
    obtain ⟨A, eA⟩ : ∃ A, A = Rat.divInt x1 y1 := ⟨_, rfl⟩
    obtain ⟨B, eB⟩ : ∃ B, B = Rat.divInt x2 y2 := ⟨_, rfl⟩
    have sA : Sz 20 A := by rw [eA]; exact div_sz y1p x1s y1s
    have sB : Sz 20 B := by rw [eB]; exact div_sz y2p x2s y2s
    have sA4 : Sz 4000 A := sA.up (by decide)
    have sB4 : Sz 4000 B := sB.up (by decide)
    walk_at "go"
    refine mk_rat (n := x1) (d := y1) e10 y1p (lt_pow y1s (by decide)) (fun v_ra F11 H11 n11 ra => ?_)
    have e11 := n11.fh
    replace one := (tP).mono n11.ff one
    replace oth := (tP).mono n11.ff oth
    replace hP := hP.nx n11
    rw [← eA] at ra
    walk_at "go"
    refine ⟨rfl, rfl, ?_⟩
    refine mk_ratQ (n := x2) (d := y2) e11 y2p (lt_pow y2s (by decide)) (fun xb F12 H12 n12 rb => ?_)
    have e12 := n12.fh
    replace one := (tP).mono n12.ff one
    replace oth := (tP).mono n12.ff oth
    replace ra := ((tRat _)).mono n12.ff ra
    replace hP := hP.nx n12
    rw [← eB] at rb
    walk_at "go"
    refine st_less (n := x1) (d := y1) e12 y1p (lt_pow x1s (by decide)) (lt_pow y1s (by decide)) (fun v_due F13 H13 n13 due => ?_)
    have e13 := n13.fh
    replace one := (tP).mono n13.ff one
    replace oth := (tP).mono n13.ff oth
    replace ra := ((tRat _)).mono n13.ff ra
    replace rb := ((tRat _)).mono n13.ff rb
    replace hP := hP.nx n13
    rw [← eA] at due
    have du0 : tP.rel _ v_due (pr A) := due
    walk_at "go"
    have lA : A.num.natAbs.log2 < 1920 := log2_lt (lt_pow sA.1 (by decide))
    have lD : ((A.den : Int)).natAbs.log2 < 1920 := log2_lt (lt_up (sA.up (show 20 ≤ 1900 by decide)).den (by decide))
    refine ⟨lA, ?_⟩
    refine g_name ?_
    dsimp only
    with_reducible refine g_cut (fun σ1 H1 => H1 = H13 ∧ σ1 = [some (.ref a), some (.ref p), some (.int (0 + (i : Int))), some (.int b), some v_one, some v_oth, some v_ra, some (.ref xb), some v_due, some (.str (strQ A)), c10, c11]) ?_ (fun N1 tl1 => ?_)
    rotate_left
    · unfold strQ at tl1
      walk_at "go"
      refine g_dec (fun c1 => ?_) (fun c1 => ?_)
      · have c' : ¬ A.den = 1 := by
          have c2 : (1 : Int) < A.den := c1
          omega
        rw [if_neg c'] at tl1
        walk_at "go"
        refine ⟨_, _, rfl, rfl, by have := txt_len (i := (pr A).1) lA; have t3 : (Str.ofString "/").length = 1 := by decide
                                   rw [sizeLine_eq]; omega, ?_⟩
        walk_at "go"
        refine ⟨lD, ?_⟩
        refine ⟨_, _, rfl, rfl, by have := txt_len (i := (pr A).1) lA; have := txt_len (i := (pr A).2) lD; have t3 : (Str.ofString "/").length = 1 := by decide
                                   rw [sizeLine_eq, Str.length_append]; omega, ?_⟩
        walk_at "go"
        exact tl1 _ _ ⟨rfl, rfl⟩
      · have c' : A.den = 1 := by
          have c2 : ¬ (1 : Int) < A.den := c1
          have := A.den_pos
          omega
        rw [if_pos c'] at tl1
        walk_at "go"
        exact tl1 _ _ ⟨rfl, rfl⟩
    rintro _ _ ⟨rfl, rfl⟩
    walk_at "go"
    refine st_is e13 ra due (fun F14 H14 n14 => ?_)
    have e14 := n14.fh
    replace one := (tP).mono n14.ff one
    replace oth := (tP).mono n14.ff oth
    replace ra := ((tRat _)).mono n14.ff ra
    replace rb := ((tRat _)).mono n14.ff rb
    replace due := (tQ).mono n14.ff due
    replace du0 := (tP).mono n14.ff du0
    replace hP := hP.nx n14
    walk_at "go"
    refine st_str e14 ra (sA.up (by decide)) ?_
    walk_at "go"
    refine st_eq e14 ra rb (fun H15 x15 => ?_)
    have n15 := Nx.grow (M := []) e14 x15
    have e15 := n15.fh
    replace hP := hP.nx n15
    walk_at "go"
    refine st_less (n := x2) (d := y2) e15 y2p (lt_pow x2s (by decide)) (lt_pow y2s (by decide)) (fun v_duo F16 H16 n16 duo => ?_)
    have e16 := n16.fh
    replace one := (tP).mono n16.ff one
    replace oth := (tP).mono n16.ff oth
    replace ra := ((tRat _)).mono n16.ff ra
    replace rb := ((tRat _)).mono n16.ff rb
    replace due := (tQ).mono n16.ff due
    replace du0 := (tP).mono n16.ff du0
    replace hP := hP.nx n16
    rw [← eB] at duo
    refine st_eqQ e16 due duo ?_
    walk_at "go"
    refine st_sameB ?_
    walk_at "go"
    refine st_op e16 ra rb sA4 sB4 (fun v_sm F17 H17 n17 sm => ?_)
    have e17 := n17.fh
    replace one := (tP).mono n17.ff one
    replace oth := (tP).mono n17.ff oth
    replace ra := ((tRat _)).mono n17.ff ra
    replace rb := ((tRat _)).mono n17.ff rb
    replace due := (tQ).mono n17.ff due
    replace du0 := (tP).mono n17.ff du0
    replace hP := hP.nx n17
    walk_at "go"
    refine st_pr2 (a := (x1, y1)) (b := (x2, y2)) e17 one oth y1p y2p (lt_pow x1s (by decide)) (lt_pow y1s (by decide)) (lt_pow x2s (by decide)) (lt_pow y2s (by decide)) (fun v_sn F18 H18 n18 sn => ?_)
    have e18 := n18.fh
    replace one := (tP).mono n18.ff one
    replace oth := (tP).mono n18.ff oth
    replace ra := ((tRat _)).mono n18.ff ra
    replace rb := ((tRat _)).mono n18.ff rb
    replace due := (tQ).mono n18.ff due
    replace du0 := (tP).mono n18.ff du0
    replace sm := ((tRat _)).mono n18.ff sm
    replace hP := hP.nx n18
    rw [← eA, ← eB] at sn
    walk_at "go"
    refine st_is e18 sm sn (fun F19 H19 n19 => ?_)
    have e19 := n19.fh
    replace one := (tP).mono n19.ff one
    replace oth := (tP).mono n19.ff oth
    replace ra := ((tRat _)).mono n19.ff ra
    replace rb := ((tRat _)).mono n19.ff rb
    replace due := (tQ).mono n19.ff due
    replace du0 := (tP).mono n19.ff du0
    replace hP := hP.nx n19
    walk_at "go"
    refine st_op e19 ra rb sA4 sB4 (fun v_sm F20 H20 n20 sm => ?_)
    have e20 := n20.fh
    replace one := (tP).mono n20.ff one
    replace oth := (tP).mono n20.ff oth
    replace ra := ((tRat _)).mono n20.ff ra
    replace rb := ((tRat _)).mono n20.ff rb
    replace due := (tQ).mono n20.ff due
    replace du0 := (tP).mono n20.ff du0
    replace hP := hP.nx n20
    walk_at "go"
    refine st_pr2 (a := (x1, y1)) (b := (x2, y2)) e20 one oth y1p y2p (lt_pow x1s (by decide)) (lt_pow y1s (by decide)) (lt_pow x2s (by decide)) (lt_pow y2s (by decide)) (fun v_sn F21 H21 n21 sn => ?_)
    have e21 := n21.fh
    replace one := (tP).mono n21.ff one
    replace oth := (tP).mono n21.ff oth
    replace ra := ((tRat _)).mono n21.ff ra
    replace rb := ((tRat _)).mono n21.ff rb
    replace due := (tQ).mono n21.ff due
    replace du0 := (tP).mono n21.ff du0
    replace sm := ((tRat _)).mono n21.ff sm
    replace hP := hP.nx n21
    rw [← eA, ← eB] at sn
    walk_at "go"
    refine st_is e21 sm sn (fun F22 H22 n22 => ?_)
    have e22 := n22.fh
    replace one := (tP).mono n22.ff one
    replace oth := (tP).mono n22.ff oth
    replace ra := ((tRat _)).mono n22.ff ra
    replace rb := ((tRat _)).mono n22.ff rb
    replace due := (tQ).mono n22.ff due
    replace du0 := (tP).mono n22.ff du0
    replace hP := hP.nx n22
    walk_at "go"
    refine st_op e22 ra rb sA4 sB4 (fun v_sm F23 H23 n23 sm => ?_)
    have e23 := n23.fh
    replace one := (tP).mono n23.ff one
    replace oth := (tP).mono n23.ff oth
    replace ra := ((tRat _)).mono n23.ff ra
    replace rb := ((tRat _)).mono n23.ff rb
    replace due := (tQ).mono n23.ff due
    replace du0 := (tP).mono n23.ff du0
    replace hP := hP.nx n23
    walk_at "go"
    refine st_pr2 (a := (x1, y1)) (b := (x2, y2)) e23 one oth y1p y2p (lt_pow x1s (by decide)) (lt_pow y1s (by decide)) (lt_pow x2s (by decide)) (lt_pow y2s (by decide)) (fun v_sn F24 H24 n24 sn => ?_)
    have e24 := n24.fh
    replace one := (tP).mono n24.ff one
    replace oth := (tP).mono n24.ff oth
    replace ra := ((tRat _)).mono n24.ff ra
    replace rb := ((tRat _)).mono n24.ff rb
    replace due := (tQ).mono n24.ff due
    replace du0 := (tP).mono n24.ff du0
    replace sm := ((tRat _)).mono n24.ff sm
    replace hP := hP.nx n24
    rw [← eA, ← eB] at sn
    walk_at "go"
    refine st_is e24 sm sn (fun F25 H25 n25 => ?_)
    have e25 := n25.fh
    replace one := (tP).mono n25.ff one
    replace oth := (tP).mono n25.ff oth
    replace ra := ((tRat _)).mono n25.ff ra
    replace rb := ((tRat _)).mono n25.ff rb
    replace due := (tQ).mono n25.ff due
    replace du0 := (tP).mono n25.ff du0
    replace hP := hP.nx n25
    walk_at "go"
    refine mt_rat ra e25 (by decide +kernel) (by decide +kernel) ?_
    walk_at "go"
    refine st_rless e25 ra rb sA4 sB4 ?_
    walk_at "go"
    refine st_below (a := (x1, y1)) (b := (x2, y2)) e25 one oth y1p y2p (lt_pow x1s (by decide)) (lt_pow y1s (by decide)) (lt_pow x2s (by decide)) (lt_pow y2s (by decide)) ?_
    rw [← eA, ← eB]
    walk_at "go"
    refine st_sameB ?_
    walk_at "go"
    refine .inr ⟨_, rfl, ?_⟩
    walk_at "go"
    refine g_rI (.inl ⟨by decide, by decide⟩) ?_
    walk_at "go"
    refine g_dec (fun c1 => ?_) (fun c1 => ?_)
    · walk_at "go"
      refine ⟨F25, _, _, rfl, e25, .inr ⟨A, ra, sA4⟩, fun F26 H26 n26 => ?_⟩
      have e26 := n26.fh
      replace one := (tP).mono n26.ff one
      replace oth := (tP).mono n26.ff oth
      replace ra := ((tRat _)).mono n26.ff ra
      replace rb := ((tRat _)).mono n26.ff rb
      replace due := (tQ).mono n26.ff due
      replace du0 := (tP).mono n26.ff du0
      replace hP := hP.nx n26
      walk_at "go"
      refine st_is e26 ra due (fun F27 H27 n27 => ?_)
      have e27 := n27.fh
      replace one := (tP).mono n27.ff one
      replace oth := (tP).mono n27.ff oth
      replace ra := ((tRat _)).mono n27.ff ra
      replace rb := ((tRat _)).mono n27.ff rb
      replace due := (tQ).mono n27.ff due
      replace du0 := (tP).mono n27.ff du0
      replace hP := hP.nx n27
      walk_at "go"
      refine st_less (n := x2) (d := y2) e27 y2p (lt_pow x2s (by decide)) (lt_pow y2s (by decide)) (fun v_duo F28 H28 n28 duo => ?_)
      have e28 := n28.fh
      replace one := (tP).mono n28.ff one
      replace oth := (tP).mono n28.ff oth
      replace ra := ((tRat _)).mono n28.ff ra
      replace rb := ((tRat _)).mono n28.ff rb
      replace due := (tQ).mono n28.ff due
      replace du0 := (tP).mono n28.ff du0
      replace hP := hP.nx n28
      rw [← eB] at duo
      walk_at "go"
      refine st_is e28 rb duo (fun F29 H29 n29 => ?_)
      have e29 := n29.fh
      replace one := (tP).mono n29.ff one
      replace oth := (tP).mono n29.ff oth
      replace ra := ((tRat _)).mono n29.ff ra
      replace rb := ((tRat _)).mono n29.ff rb
      replace due := (tQ).mono n29.ff due
      replace du0 := (tP).mono n29.ff du0
      replace duo := (tQ).mono n29.ff duo
      replace hP := hP.nx n29
      walk_at "go"
      exact ⟨_, _, _, _, _, _, _, _, _, _, _, _, e29, hP, rfl⟩
    · walk_at "go"
      refine mt_rat ra e25 (by decide +kernel) (by decide +kernel) ?_
      walk_at "go"
      refine st_by e25 ra rb sA4 sB4 (by rw [eB]; exact q_ne0 c1 y2p) (fun v_sm F26 H26 n26 sm => ?_)
      have e26 := n26.fh
      replace one := (tP).mono n26.ff one
      replace oth := (tP).mono n26.ff oth
      replace ra := ((tRat _)).mono n26.ff ra
      replace rb := ((tRat _)).mono n26.ff rb
      replace due := (tQ).mono n26.ff due
      replace du0 := (tP).mono n26.ff du0
      replace hP := hP.nx n26
      walk_at "go"
      obtain ⟨s, hs0, hs1, hs2⟩ : ∃ s : Int, s = 1 - 2 * (if decide ((x2, y2).fst < 0) = true then 1 else 0) ∧ s.natAbs < 2 ^ 1 ∧ 0 < x2 * s := ⟨_, rfl, by split <;> decide, by
        have c2 : ¬ x2 = 0 := c1
        by_cases z : x2 < 0
        · rw [if_pos (decide_eq_true (show (x2, y2).fst < 0 from z))]; omega
        · rw [if_neg (by rw [decide_eq_false (show ¬ (x2, y2).fst < 0 from z)]; exact Bool.false_ne_true)]; omega⟩
      rw [← hs0]
      refine g_rI (mulW x1s y2s (by decide) (by decide) (by decide)) ?_
      walk_at "go"
      refine g_rI (mulW (lt_mul x1s y2s (Nat.le_refl _)) hs1 (by decide) (by decide) (by decide)) ?_
      walk_at "go"
      refine g_rI (mulW y1s x2s (by decide) (by decide) (by decide)) ?_
      walk_at "go"
      refine g_rI (mulW (lt_mul y1s x2s (Nat.le_refl _)) hs1 (by decide) (by decide) (by decide)) ?_
      walk_at "go"
      refine st_less (n := x1 * y2 * s) (d := y1 * x2 * s) e26 (by rw [Int.mul_assoc]; exact Int.mul_pos y1p hs2) (lt_mul (lt_mul x1s y2s (Nat.le_refl _)) hs1 (by decide)) (lt_mul (lt_mul y1s x2s (Nat.le_refl _)) hs1 (by decide)) (fun v_sn F27 H27 n27 sn => ?_)
      have e27 := n27.fh
      replace one := (tP).mono n27.ff one
      replace oth := (tP).mono n27.ff oth
      replace ra := ((tRat _)).mono n27.ff ra
      replace rb := ((tRat _)).mono n27.ff rb
      replace due := (tQ).mono n27.ff due
      replace du0 := (tP).mono n27.ff du0
      replace sm := ((tRat _)).mono n27.ff sm
      replace hP := hP.nx n27
      rw [q_byk y1p y2p (fun z => by rw [z] at hs2; simp at hs2), ← eA, ← eB] at sn
      walk_at "go"
      refine st_is e27 sm sn (fun F28 H28 n28 => ?_)
      have e28 := n28.fh
      replace one := (tP).mono n28.ff one
      replace oth := (tP).mono n28.ff oth
      replace ra := ((tRat _)).mono n28.ff ra
      replace rb := ((tRat _)).mono n28.ff rb
      replace due := (tQ).mono n28.ff due
      replace du0 := (tP).mono n28.ff du0
      replace hP := hP.nx n28
      walk_at "go"
      refine st_is e28 ra due (fun F29 H29 n29 => ?_)
      have e29 := n29.fh
      replace one := (tP).mono n29.ff one
      replace oth := (tP).mono n29.ff oth
      replace ra := ((tRat _)).mono n29.ff ra
      replace rb := ((tRat _)).mono n29.ff rb
      replace due := (tQ).mono n29.ff due
      replace du0 := (tP).mono n29.ff du0
      replace hP := hP.nx n29
      walk_at "go"
      refine st_less (n := x2) (d := y2) e29 y2p (lt_pow x2s (by decide)) (lt_pow y2s (by decide)) (fun v_duo F30 H30 n30 duo => ?_)
      have e30 := n30.fh
      replace one := (tP).mono n30.ff one
      replace oth := (tP).mono n30.ff oth
      replace ra := ((tRat _)).mono n30.ff ra
      replace rb := ((tRat _)).mono n30.ff rb
      replace due := (tQ).mono n30.ff due
      replace du0 := (tP).mono n30.ff du0
      replace hP := hP.nx n30
      rw [← eB] at duo
      walk_at "go"
      refine st_is e30 rb duo (fun F31 H31 n31 => ?_)
      have e31 := n31.fh
      replace one := (tP).mono n31.ff one
      replace oth := (tP).mono n31.ff oth
      replace ra := ((tRat _)).mono n31.ff ra
      replace rb := ((tRat _)).mono n31.ff rb
      replace due := (tQ).mono n31.ff due
      replace du0 := (tP).mono n31.ff du0
      replace duo := (tQ).mono n31.ff duo
      replace hP := hP.nx n31
      walk_at "go"
      exact ⟨_, _, _, _, _, _, _, _, _, _, _, _, e31, hP, rfl⟩
  rintro σ' H' ⟨F2, s2, c2, c3, c4, c5, c6, c7, c8, c9, c10, c11, e2, hP, rfl⟩
  walk_at "go"
  refine ⟨by decide, by decide, ?_⟩
  refine loop_rngZ (fun _ σ' H' => ∃ F1 s1 c2 c3 c4 c5 c6 c7 c8 c9 c10 c11, Ext F1 H' ∧ PoolAt F1 H' p s1 ∧ σ' = [some (.ref a), some (.ref p), c2, c3, c4, c5, c6, c7, c8, c9, c10, c11]) (fun σ' H' => ∃ F1 s1 c2 c3 c4 c5 c6 c7 c8 c9 c10 c11, Ext F1 H' ∧ PoolAt F1 H' p s1 ∧ σ' = [some (.ref a), some (.ref p), c2, c3, c4, c5, c6, c7, c8, c9, c10, c11]) ⟨F2, _, _, _, _, _, _, _, _, _, _, _, e2, hP, rfl⟩ ?_ (fun N tl i σ' H' hi hJ => ?_) (fun σ' H' hJ => hJ)
  rotate_left
  · clear hP e2
    obtain ⟨F2, s2, c2, c3, c4, c5, c6, c7, c8, c9, c10, c11, e2, hP, rfl⟩ := hJ
    walk_at "go"
    refine st_draw e2 hP (by decide) (by decide) (fun d3 s3 H3 p3 q3 n3 hP3 => ?_)
    replace hP := hP3
    have e3 := n3.fh
    walk_at "go"
    refine st_draw e3 hP (by decide) (by decide) (fun d4 s4 H4 p4 q4 n4 hP4 => ?_)
    replace hP := hP4
    have e4 := n4.fh
    walk_at "go"
    refine st_draw e4 hP (by decide) (by decide) (fun d5 s5 H5 p5 q5 n5 hP5 => ?_)
    replace hP := hP5
    have e5 := n5.fh
    walk_at "go"
    refine st_tup e5 (fun tq F6 H6 n6 tqh => ?_)
    have e6 := n6.fh
    replace hP := hP.nx n6
    walk_at "go"
    obtain ⟨z, hz, hz1, hz2⟩ : ∃ z : Int, atI [V.int d4, V.int d5] (0 + (i : Int)) = some (.int z) ∧ 0 ≤ z ∧ z < 1001 := by
      have : i = 0 ∨ i = 1 := by
        have : i < 2 := hi
        omega
      rcases this with rfl | rfl
      · exact ⟨d4, rfl, by omega, by omega⟩
      · exact ⟨d5, rfl, by omega, by omega⟩
    refine st_ixT e6 tqh hz ?_
    walk_at "go"
    refine new_pair e6 (fun v_pq F7 H7 n7 pq => ?_)
    have e7 := n7.fh
    replace hP := hP.nx n7
    walk_at "go"
    refine ⟨F7, _, _, rfl, e7, .inl ⟨_, pq, by show 0 - z ≤ 0; omega, lt_pow (a := 20) (by show (0 - z).natAbs < 2 ^ 20; omega) (by decide), rfl⟩, fun F8 H8 n8 => ?_⟩
    have e8 := n8.fh
    replace pq := (tP).mono n8.ff pq
    replace hP := hP.nx n8
    walk_at "go"
    exact ⟨_, _, _, _, _, _, _, _, _, _, _, _, e8, hP, rfl⟩
  rintro σ' H' ⟨F2, s2, c2, c3, c4, c5, c6, c7, c8, c9, c10, c11, e2, hP, rfl⟩
  walk_at "go"
  refine mk_rat (n := 7) (d := 1) e2 (by decide) (by decide) (fun v_ra F3 H3 n3 ra => ?_)
  have e3 := n3.fh
  walk_at "go"
  refine new_pair e3 (fun v_pq F4 H4 n4 pq => ?_)
  have e4 := n4.fh
  replace ra := ((tRat _)).mono n4.ff ra
  walk_at "go"
  rw [← q_7] at pq
  refine st_is e4 ra pq (fun F5 H5 n5 => ?_)
  have e5 := n5.fh
  replace ra := ((tRat _)).mono n5.ff ra
  replace pq := (tP).mono n5.ff pq
  walk_at "go"
  exact k _

theorem facts {w : World} {K : PySem.W.Frag} {h : Heap} {mg : Str → Option Value} {f : Addr} (X : K.In h) (G : h.Ns mainGlobals mg) (hfa : mg ("law" : Str) = some (.ref f)) (c : He.SaysM PySem.Challenge.pw_notesttells_k00_fractions Hd.fa Hd.fn Hd.fs Hd.ex K) :
    ∃ fd : FuncData, (∀ (s : Shared) (v : Value), BindsTo s fd ⟨[v], []⟩ [("_law_script", v)]) ∧ ∀ base : Heap, K.In base → base.Ns mainGlobals mg → FnOk PySem.Challenge.pw_notesttells_k00_fractions w K mg base (L2.CX PySem.Challenge.pw_notesttells_k00_fractions w) 8 f fd ["_law_script"] (spLaw K) := by
  have T := tx_of X G c
  obtain ⟨fd_l_pool, D_l_pool⟩ := c.def_ 8 (d := Hd.d_l_pool) rfl
  obtain ⟨fd_l_draw, D_l_draw⟩ := c.def_ 9 (d := Hd.d_l_draw) rfl
  obtain ⟨fd_Ratio_init, D_Ratio_init⟩ := c.def_ 0 (d := Hd.d_Ratio_init) rfl
  obtain ⟨fd_l_less, D_l_less⟩ := c.def_ 11 (d := Hd.d_l_less) rfl
  obtain ⟨fd_l_same, D_l_same⟩ := c.def_ 10 (d := Hd.d_l_same) rfl
  obtain ⟨fd_l_is, D_l_is⟩ := c.def_ 16 (d := Hd.d_l_is) rfl
  obtain ⟨fd_Ratio_str, D_Ratio_str⟩ := c.def_ 5 (d := Hd.d_Ratio_str) rfl
  obtain ⟨fd_Ratio_eq, D_Ratio_eq⟩ := c.def_ 1 (d := Hd.d_Ratio_eq) rfl
  obtain ⟨fd_Ratio_add, D_Ratio_add⟩ := c.def_ 2 (d := Hd.d_Ratio_add) rfl
  obtain ⟨fd_l_plus, D_l_plus⟩ := c.def_ 12 (d := Hd.d_l_plus) rfl
  obtain ⟨fd_Ratio_sub, D_Ratio_sub⟩ := c.def_ 3 (d := Hd.d_Ratio_sub) rfl
  obtain ⟨fd_l_minus, D_l_minus⟩ := c.def_ 13 (d := Hd.d_l_minus) rfl
  obtain ⟨fd_Ratio_mul, D_Ratio_mul⟩ := c.def_ 4 (d := Hd.d_Ratio_mul) rfl
  obtain ⟨fd_l_times, D_l_times⟩ := c.def_ 14 (d := Hd.d_l_times) rfl
  obtain ⟨fd_Ratio_less, D_Ratio_less⟩ := c.def_ 6 (d := Hd.d_Ratio_less) rfl
  obtain ⟨fd_l_below, D_l_below⟩ := c.def_ 15 (d := Hd.d_l_below) rfl
  obtain ⟨fd_Ratio_by, D_Ratio_by⟩ := c.def_ 7 (d := Hd.d_Ratio_by) rfl
  obtain ⟨fd_l_refused, D_l_refused⟩ := c.def_ 17 (d := Hd.d_l_refused) rfl
  obtain ⟨fd_law, D_law⟩ := c.def_ 18 (d := Hd.d_law) rfl
  have el := hfa.symm.trans (He.glo_ok X G (c.fact 10 (f := .glo "law") rfl))
  cases el
  have bl := FunD.bindsA (ps := ["_law_script"]) D_law fun _ _ _ _ _ _ us hl => match us, hl with | [_], _ => rfl
  refine ⟨fd_law, fun s v => bl s [v] rfl, fun base _ _ => ?_⟩
  have O_l_pool := ok_l_pool (w := w) (base := base) T D_l_pool
  have H_l_pool : Fnc PySem.Challenge.pw_notesttells_k00_fractions w K mg base 1 "_law_pool" ["_law_script", "_law_budget"] (spPool K) := fnc_of (He.glo_ok X G (c.fact 0 (f := .glo "_law_pool") rfl)) D_l_pool.kp (D_l_pool.bindsN fun _ _ _ _ _ _ us hl => match us, hl with | [_, _], _ => rfl) O_l_pool
  have O_l_draw := ok_l_draw (w := w) (base := base) T D_l_draw
  have H_l_draw : Fnc PySem.Challenge.pw_notesttells_k00_fractions w K mg base 1 "_law_draw" ["_law_pool_here", "_law_size"] spDraw := fnc_of (He.glo_ok X G (c.fact 1 (f := .glo "_law_draw") rfl)) D_l_draw.kp (D_l_draw.bindsN fun _ _ _ _ _ _ us hl => match us, hl with | [_, _], _ => rfl) O_l_draw
  have O_Ratio_init := ok_Ratio_init (w := w) (base := base) T D_Ratio_init
  have H_Ratio2K : Mkk PySem.Challenge.pw_notesttells_k00_fractions w K mg base 3 (He.ga K "Ratio") "Ratio" ["self", "num", "den"] ["num", "den"] (spRInit (He.ga K "Ratio") (He.ga K "BadRatio")) := mkk_of T.g_Ratio T.mk_Ratio (by
    obtain ⟨its, hk⟩ := FunD.kbindsD (ps := ["self", "num", "den"]) D_Ratio_init 1 ["num", "den"] (fun us _ ws => us ++ ws) (List.cons_ne_nil _ _) (fun r1 _ r3 => r1.append r3) fun _ _ _ _ _ _ _ us its ws hl hi hw => match us, its, ws, hl, hi, hw with | [_], [_], [_, _], _, _, _ => ⟨_, rfl, rfl⟩
    exact ⟨_, hk⟩) O_Ratio_init
  have H_Ratio2 : Mkc PySem.Challenge.pw_notesttells_k00_fractions w K mg base 3 (He.ga K "Ratio") "Ratio" ["self", "num", "den"] [] (spRInit (He.ga K "Ratio") (He.ga K "BadRatio")) := mkc_of T.g_Ratio T.mk_Ratio (FunD.binds1 D_Ratio_init 3 1 (List.cons_ne_nil _ _) rfl fun _ _ _ _ _ _ _ us its hl hi => match us, its, hl, hi with | [_, _, _], [_], _, _ => ⟨_, rfl, rfl⟩) O_Ratio_init
  have H_Ratio1 : Mkc PySem.Challenge.pw_notesttells_k00_fractions w K mg base 3 (He.ga K "Ratio") "Ratio" ["self", "num", "den"] [.int 1] (spRInit (He.ga K "Ratio") (He.ga K "BadRatio")) := mkc_of T.g_Ratio T.mk_Ratio (FunD.binds1 D_Ratio_init 2 0 (List.cons_ne_nil _ _) rfl fun _ _ _ _ _ _ _ us its hl hi => match us, its, hl, hi with | [_, _], [_], _, _ => ⟨_, rfl, rfl⟩) O_Ratio_init
  have O_l_less := ok_l_less (w := w) (base := base) T D_l_less
  have H_l_less : Fnc PySem.Challenge.pw_notesttells_k00_fractions w K mg base 1 "_law_less" ["_law_num", "_law_den"] spLess := fnc_of (He.glo_ok X G (c.fact 3 (f := .glo "_law_less") rfl)) D_l_less.kp (D_l_less.bindsN fun _ _ _ _ _ _ us hl => match us, hl with | [_, _], _ => rfl) O_l_less
  have rec_l_same : ∀ n : Nat, Fnc PySem.Challenge.pw_notesttells_k00_fractions w K mg base n "_law_same" ["_law_actual", "_law_due"] (spSame K n) := fun n => by
    have g_l_same := He.glo_ok X G (c.fact 2 (f := .glo "_law_same") rfl)
    induction n with
    | zero => exact fnc_of g_l_same D_l_same.kp (D_l_same.bindsN fun _ _ _ _ _ _ us hl => match us, hl with | [_, _], _ => rfl) (fn_never fun vs H Q E h => by obtain ⟨_, _, _, _, _, _, h, _⟩ := h; exact h.elim)
    | succ n ih => exact fnc_of g_l_same D_l_same.kp (D_l_same.bindsN fun _ _ _ _ _ _ us hl => match us, hl with | [_, _], _ => rfl) (ok_l_same T  ih D_l_same)
  have H_l_same := rec_l_same 6
  have O_l_is := ok_l_is (w := w) (base := base) T H_l_same D_l_is
  have H_l_is : Fnc PySem.Challenge.pw_notesttells_k00_fractions w K mg base 7 "_law_is" ["_law_ratio", "_law_due"] (spIs (He.ga K "Ratio")) := fnc_of (He.glo_ok X G (c.fact 8 (f := .glo "_law_is") rfl)) D_l_is.kp (D_l_is.bindsN fun _ _ _ _ _ _ us hl => match us, hl with | [_, _], _ => rfl) O_l_is
  have O_Ratio_str := ok_Ratio_str (w := w) (base := base) T D_Ratio_str
  have H_Ratio_str : Mtc PySem.Challenge.pw_notesttells_k00_fractions w K mg base 1 (He.ga K "Ratio") "__str__" ["self"] (spRStr (He.ga K "Ratio")) := mtc_of T.k_Ratio T.me_Ratio_str (D_Ratio_str.bindsN fun _ _ _ _ _ _ us hl => match us, hl with | [_], _ => rfl) O_Ratio_str
  have O_Ratio_eq := ok_Ratio_eq (w := w) (base := base) T D_Ratio_eq
  have H_Ratio_eq : Mtc PySem.Challenge.pw_notesttells_k00_fractions w K mg base 1 (He.ga K "Ratio") "__eq__" ["self", "other"] (spEqb (eqR (He.ga K "Ratio"))) := mtc_of T.k_Ratio T.me_Ratio_eq (D_Ratio_eq.bindsN fun _ _ _ _ _ _ us hl => match us, hl with | [_, _], _ => rfl) O_Ratio_eq
  have O_Ratio_add := ok_Ratio_add (w := w) (base := base) T H_Ratio2 D_Ratio_add
  have H_Ratio_add : Mtc PySem.Challenge.pw_notesttells_k00_fractions w K mg base 5 (He.ga K "Ratio") "__add__" ["self", "other"] (spR2 (He.ga K "Ratio") (· + ·)) := mtc_of T.k_Ratio T.me_Ratio_add (D_Ratio_add.bindsN fun _ _ _ _ _ _ us hl => match us, hl with | [_, _], _ => rfl) O_Ratio_add
  have O_l_plus := ok_l_plus (w := w) (base := base) T H_l_less D_l_plus
  have H_l_plus : Fnc PySem.Challenge.pw_notesttells_k00_fractions w K mg base 2 "_law_plus" ["_law_one", "_law_other"] (spPr2 (· + ·)) := fnc_of (He.glo_ok X G (c.fact 4 (f := .glo "_law_plus") rfl)) D_l_plus.kp (D_l_plus.bindsN fun _ _ _ _ _ _ us hl => match us, hl with | [_, _], _ => rfl) O_l_plus
  have O_Ratio_sub := ok_Ratio_sub (w := w) (base := base) T H_Ratio2 D_Ratio_sub
  have H_Ratio_sub : Mtc PySem.Challenge.pw_notesttells_k00_fractions w K mg base 5 (He.ga K "Ratio") "__sub__" ["self", "other"] (spR2 (He.ga K "Ratio") (· - ·)) := mtc_of T.k_Ratio T.me_Ratio_sub (D_Ratio_sub.bindsN fun _ _ _ _ _ _ us hl => match us, hl with | [_, _], _ => rfl) O_Ratio_sub
  have O_l_minus := ok_l_minus (w := w) (base := base) T H_l_less D_l_minus
  have H_l_minus : Fnc PySem.Challenge.pw_notesttells_k00_fractions w K mg base 2 "_law_minus" ["_law_one", "_law_other"] (spPr2 (· - ·)) := fnc_of (He.glo_ok X G (c.fact 5 (f := .glo "_law_minus") rfl)) D_l_minus.kp (D_l_minus.bindsN fun _ _ _ _ _ _ us hl => match us, hl with | [_, _], _ => rfl) O_l_minus
  have O_Ratio_mul := ok_Ratio_mul (w := w) (base := base) T H_Ratio2 D_Ratio_mul
  have H_Ratio_mult : Mtc PySem.Challenge.pw_notesttells_k00_fractions w K mg base 5 (He.ga K "Ratio") "__mul__" ["self", "other"] (spR2 (He.ga K "Ratio") (· * ·)) := mtc_of T.k_Ratio T.me_Ratio_mul (D_Ratio_mul.bindsN fun _ _ _ _ _ _ us hl => match us, hl with | [_, _], _ => rfl) O_Ratio_mul
  have O_l_times := ok_l_times (w := w) (base := base) T H_l_less D_l_times
  have H_l_times : Fnc PySem.Challenge.pw_notesttells_k00_fractions w K mg base 2 "_law_times" ["_law_one", "_law_other"] (spPr2 (· * ·)) := fnc_of (He.glo_ok X G (c.fact 6 (f := .glo "_law_times") rfl)) D_l_times.kp (D_l_times.bindsN fun _ _ _ _ _ _ us hl => match us, hl with | [_, _], _ => rfl) O_l_times
  have O_Ratio_less := ok_Ratio_less (w := w) (base := base) T D_Ratio_less
  have H_Ratio_less : Mtc PySem.Challenge.pw_notesttells_k00_fractions w K mg base 1 (He.ga K "Ratio") "less" ["self", "other"] (spRLess (He.ga K "Ratio")) := mtc_of T.k_Ratio T.me_Ratio_less (D_Ratio_less.bindsN fun _ _ _ _ _ _ us hl => match us, hl with | [_, _], _ => rfl) O_Ratio_less
  have O_l_below := ok_l_below (w := w) (base := base) T D_l_below
  have H_l_below : Fnc PySem.Challenge.pw_notesttells_k00_fractions w K mg base 1 "_law_below" ["_law_one", "_law_other"] spBelow := fnc_of (He.glo_ok X G (c.fact 7 (f := .glo "_law_below") rfl)) D_l_below.kp (D_l_below.bindsN fun _ _ _ _ _ _ us hl => match us, hl with | [_, _], _ => rfl) O_l_below
  have O_Ratio_by := ok_Ratio_by (w := w) (base := base) T H_Ratio2 D_Ratio_by
  have H_Ratio_by : Mtc PySem.Challenge.pw_notesttells_k00_fractions w K mg base 5 (He.ga K "Ratio") "by" ["self", "other"] (spRBy (He.ga K "Ratio") (He.ga K "BadRatio")) := mtc_of T.k_Ratio T.me_Ratio_by (D_Ratio_by.bindsN fun _ _ _ _ _ _ us hl => match us, hl with | [_, _], _ => rfl) O_Ratio_by
  have O_l_refused := ok_l_refused (w := w) (base := base) T H_Ratio2 H_Ratio_by H_Ratio1 D_l_refused
  have H_l_refused : Fnc PySem.Challenge.pw_notesttells_k00_fractions w K mg base 6 "_law_refused" ["_law_pair", "_law_by"] (spRefused (He.ga K "Ratio")) := fnc_of (He.glo_ok X G (c.fact 9 (f := .glo "_law_refused") rfl)) D_l_refused.kp (D_l_refused.bindsN fun _ _ _ _ _ _ us hl => match us, hl with | [_, _], _ => rfl) O_l_refused
  exact ok_law T H_l_pool H_l_draw H_Ratio2 H_Ratio2K H_l_less H_l_is H_Ratio_str H_l_same H_Ratio_eq H_Ratio_add H_l_plus H_Ratio_sub H_l_minus H_Ratio_mult H_l_times H_Ratio_less H_l_below H_l_refused H_Ratio_by H_Ratio1 D_law
end Lw
open PySem PySem.W PySem.Calls PyProof.Rows
theorem PySem.Challenge.cw_notesttells_k00_fractions_holds : PySem.Challenge.rw_notesttells_k00_fractions.Holds := by
  w_on; o_law
  refine HandSHeadRun.head_any (r := OpenLaw.row PySem.Challenge.rw_notesttells_k00_fractions) (q := view (OpenLaw.row PySem.Challenge.rw_notesttells_k00_fractions).prog [20]) (H := Hd.hk) (ob := Hd.ob) (M := 6000) (loose := Hd.names) (d := HandSHeadRun.topDef (OpenLaw.row PySem.Challenge.rw_notesttells_k00_fractions).prog 20) (kwd := []) Hd.ob_eq
    (by kernel_rfl) (fun s => by kernel_rfl) Hd.run (by kernel_rfl) (by kernel_rfl) (by kernel_rfl) (by rfl) (by first | assumption | decide +kernel) (by decide +kernel) ⟨rfl, rfl, rfl, rfl, rfl, by decide +kernel⟩ ?hw ?hc
  case hw => w_witness2
  case hc =>
    refine L2.My.walk_ofM (l := PySem.Challenge.rw_notesttells_k00_fractions) (n := 63) (k := 8) (x := "_law_script") (CX := fun w => L2.CX PySem.Challenge.pw_notesttells_k00_fractions w) rfl (by decide) (by kernel_rfl) ⟨rfl, by decide, by decide⟩ ?F (fun w H s e s' z => L2.My.cx_none w H s e s' z)
    intro w mg fa h Y G hmg0
    obtain ⟨K, KX, c⟩ := Y
    have hmg : mg ("law" : PySem.Str) = some (.ref fa) := by
      have e : (HandSHeadRun.topDef (OpenLaw.row PySem.Challenge.rw_notesttells_k00_fractions).prog 20).name = ("law" : PySem.Str) := by kernel_rfl
      rw [← e]
      exact hmg0
    obtain ⟨fd, hb, hF⟩ := Lw.facts (w := w) KX G hmg c
    exact ⟨K, fd, (Lw.spLaw K), KX, hb, fun H a ns hl _ hS => ⟨a, ns, H, rfl, fun _ _ z => z, hS, hl, fun _ => rfl⟩, hF⟩
