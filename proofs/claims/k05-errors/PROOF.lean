import PyProof.Rows.All
import Wide.All
import OpenK.AllK
import Wide.FinOn
import PyProof.EqAt
import PyProof.EqKinds
import PyProof.TupleCall
import KE.KOpsOwn
import HandS.ForMost
import HandS.More
import HandS.Conv
import HandS.Walk
import HandS.Wide
import HandS.Star
import HandS.Codes
import HandS.Property
import HandS.DictComp
import HandS.IsInst
import HandS.Deep
import HandS.EndBits
import HandS.ClsMeth
import HandS.Defaults
import KE.GoesMore
import KE.IntBitsLaws
import KE.KExcSuper
import HandS.ExcInit
import HandS.ExcField
import HandS.TryMany
import HandS.TryOnly
import HandS.Nested
import HandS.Lambda
import HandS.EndTab
import KE.KNestM
import HandS.Style
import HandS.Strs
import KE.KParD
import HandS.Zip
import HandS.FStrTup
import KE.DatumOrd
import PyProof.ReprRoads
import PyProof.FitsInt
import OpenK.KMore
import KE.KExcIs
import HandS.MakeKwOnly
import HandS.ExcOwn
import HandS.TupAny
import PySem.Challenge.RW_sidelists_k05_errors
set_option Elab.async false
set_option linter.all false
set_option maxRecDepth 100000
set_option maxHeartbeats 4000000
/-! Rules beside the hand layer: own defs called by their promises, own operators, enumerate of a tuple. -/
namespace SB
open PySem PySem.Spec PyProof.Rows L2

/-- the module's name x holds a def that keeps sp -/
structure Cl (P : Program) (w : World) (K : PySem.W.Frag) (mg : Str → Option Value) (base : Heap) (CX : CXT) (k : Nat) (x : Str) (sp : Sp) : Prop where
  ex : ∃ f : Addr, FnR P w K mg base CX k f sp ∧ mg x = some (.ref f) ∧ PySem.W.keepIn K (.ref f) = true
/-- the module's name x holds the class at C, whose init keeps sp -/
structure Ml (P : Program) (w : World) (K : PySem.W.Frag) (mg : Str → Option Value) (base : Heap) (CX : CXT) (k : Nat) (x : Str) (C : Addr) (sp : Sp) : Prop where
  ex : ∃ f : Addr, Mk K C f ∧ FnR P w K mg base CX k f sp ∧ mg x = some (.ref C)
/-- the class at C has a def for the name m that keeps sp -/
structure Me (P : Program) (w : World) (K : PySem.W.Frag) (mg : Str → Option Value) (base : Heap) (CX : CXT) (k : Nat) (C : Addr) (m : Str) (sp : Sp) : Prop where
  ex : ∃ g : Addr, FnR P w K mg base CX k g sp ∧ PySem.W.findIn K (.ref C) m = some (some (.ref g)) ∧ PySem.W.isFn K (.ref g) = true ∧ PySem.W.keepIn K (.ref g) = true

def tCl (sp : Sp) (E : XK) (t : TA) : TE := fun σ H Q => t σ H fun vs H1 => sp vs H1 Q E
section
variable {X : Cx} {CX : CXT} {k j : Nat} {C : Addr} {x m : Str} {sp : Sp} {E : XK} {p pos apos : Pos} {e o : Expr} {es : List Expr} {ta tb : TE} {t : TA}
theorem pe_cl (c : Cl X.prog X.w X.K X.mg X.base CX k x sp) (hr : Room j X.A) (hk : k ≤ j) (hg : Gl X x) (hx : Passes CX X E) (ha : PA X (e :: es) t) (hd : (x == ("__debug__" : Str)) = false := by decide)
    (he : starEach (e :: es) X.env = (false, eval e X.env) :: starEach es X.env := by rfl) (hpl : (backTo pos (starEach es X.env)).any (·.1) = false := by rfl) :
    PE X (.Call (.Name x p) (e :: es) [] pos) (tCl sp E t) := by
  obtain ⟨f, F, hm, kp⟩ := c.ex
  refine ⟨fun pins s σ H Q I h => ?_⟩
  refine wpAny_Call_Name_kw (ld_glob I hg hm ?_ hd)
  refine PySem.W.callWith_K (h₀ := X.base) I.ok.mod.kin kp (thn (ha.run pos pins s σ H _ I h) fun us s1 ⟨vs, H1, I1, r, q⟩ => ⟨I1.kIn, ?_⟩) he hpl
  exact wpAny_call (run_fnR F (hr.mono hk) hx I1 r q)
def tMl (C : Addr) (sp : Sp) (E : XK) (t : TA) : TE := fun σ H Q => t σ H fun vs H1 => ∀ x dx, H1 x = Option.none → H1 dx = Option.none → dx ≠ x →
  sp (V.ref x :: vs) (upd (upd H1 dx (.own x)) x (.ins C dx [])) (fun v H2 => v = .non ∧ Q (.ref x) H2) E
theorem pe_ml (c : Ml X.prog X.w X.K X.mg X.base CX k x C sp) (hr : Room j X.A) (hk : k + 1 ≤ j) (hg : Gl X x) (hx : Passes CX X E) (ha : PA X (e :: es) t) (hdb : (x == ("__debug__" : Str)) = false := by decide)
    (he : starEach (e :: es) X.env = (false, eval e X.env) :: starEach es X.env := by rfl) (hpl : (backTo pos (starEach es X.env)).any (·.1) = false := by rfl) : PE X (.Call (.Name x p) (e :: es) [] pos) (tMl C sp E t) := by
  obtain ⟨f, M, F, hm⟩ := c.ex
  exact StX.pe_makeR M F (hr.mono hk) hg hm hx ha hdb he hpl

/-! ### own operators of an instance of C -/
theorem cmpback {pins : List (Addr × Obj)} {σ : L2.St} {Q : VK} {w : Value} {s' : Shared} (h : EP X pins σ Q w s') : PySem.W.CmpBack (EP X pins σ Q) w s' := by
  obtain ⟨z, H', I', rz, qz⟩ := id h
  cases z with
  | non => cases rz; exact h
  | bl b => cases rz; exact h
  | int i => obtain ⟨t, rfl⟩ := rz; exact h
  | str i => obtain ⟨t, rfl⟩ := rz; exact h
  | byt i => obtain ⟨t, rfl⟩ := rz; exact h
  | flt i => obtain ⟨t, rfl⟩ := rz; exact h
  | ref i => cases rz; exact h
  | ty i => cases rz; exact h
theorem inst_at {pins : List (Addr × Obj)} {σ : L2.St} {H : Hp} {s : Shared} {a dx : Addr} {fs : List (Str × V)} (I : Inv X pins σ H s) (h : H a = some (.ins C dx fs)) : ∃ ox od, PySem.W.InstAt s.heap a ox C od := by
  obtain ⟨mA, O, _⟩ := ins_get I.hok h
  obtain ⟨od, J, _⟩ := O.look
  exact ⟨_, _, J⟩
def rOwn2 (C : Addr) (sp : Sp) (E : XK) : R2 := fun x y H Q => ∃ a dx fs b dy gs, x = .ref a ∧ y = .ref b ∧ H a = some (.ins C dx fs) ∧ H b = some (.ins C dy gs) ∧ sp [x, y] H Q E
/-- x op y, both instances of C -/
theorem op_own2 {op : Operator} {nm : Str} (c : Me X.prog X.w X.K X.mg X.base CX k C nm sp) (hnm : PySem.dunder op.info.2 = nm) (hc : PySem.W.selfFirst X.K C = true) (hr : Room j X.A) (hk : k ≤ j) (hx : Passes CX X E) :
    OpR X (binaryOp op) (rOwn2 C sp E) := by
  obtain ⟨g, F, hs, hf, _⟩ := c.ex
  intro pins s σ H x y v u Q I rx ry h
  obtain ⟨a, dx, fs, b, dy, gs, rfl, rfl, ha, hb, q⟩ := h
  cases (show v = Value.ref a from rx)
  cases (show u = Value.ref b from ry)
  obtain ⟨ox, od, J⟩ := inst_at I ha
  obtain ⟨ox', od', J'⟩ := inst_at I hb
  obtain ⟨m, hF⟩ := I.fr
  subst hnm
  refine PySem.W.binop_K (op := op) hF I.ok.mod.kin J J'.type hc hs hf ?_
  refine wpAny_mono (wpAny_call (run_fnR (us := [.ref a, .ref b]) (vs := [.ref a, .ref b]) F (hr.mono hk) hx I (.cons rfl (.cons rfl .nil)) q)) (fun w s' z => ?_) fun _ _ x => x
  exact cmpback z
/-- x == y, both instances of C -/
theorem op_ownEq (c : Me X.prog X.w X.K X.mg X.base CX k C "__eq__" sp) (hn : PySem.W.notFirst X.K C (.ref C) = true) (hr : Room j X.A) (hk : k ≤ j) (hx : Passes CX X E) :
    OpR X (compareOp .Eq) (rOwn2 C sp E) := by
  obtain ⟨g, F, hs, hf, _⟩ := c.ex
  intro pins s σ H x y v u Q I rx ry h
  obtain ⟨a, dx, fs, b, dy, gs, rfl, rfl, ha, hb, q⟩ := h
  cases (show v = Value.ref a from rx)
  cases (show u = Value.ref b from ry)
  obtain ⟨ox, od, J⟩ := inst_at I ha
  obtain ⟨ox', od', J'⟩ := inst_at I hb
  obtain ⟨m, hF⟩ := I.fr
  show wpAny _ _ (richCompare .Eq (.ref a) (.ref b)) _ _ _
  refine PySem.W.cmp_K (op := .Eq) (tb := .ref C) hr.units0 hF I.ok.mod.kin J J'.type hn hs hf ?_
  refine wpAny_mono (wpAny_call (run_fnR (us := [.ref a, .ref b]) (vs := [.ref a, .ref b]) F (hr.mono hk) hx I (.cons rfl (.cons rfl .nil)) q)) (fun w s' z => ?_) fun _ _ x => x
  exact cmpback z
def rOwn1 (C : Addr) (sp : Sp) (E : XK) : V → Hp → VK → Prop := fun x H Q => ∃ a dx fs, x = .ref a ∧ H a = some (.ins C dx fs) ∧ sp [x] H Q E
/-- the bitwise not of an instance of C -/
theorem un_ownInv (c : Me X.prog X.w X.K X.mg X.base CX k C "__invert__" sp) (hr : Room j X.A) (hk : k ≤ j) (hx : Passes CX X E) : UnR X (unaryOp .Invert) (rOwn1 C sp E) := by
  obtain ⟨g, F, hs, hf, _⟩ := c.ex
  intro pins s σ H x v Q I rx h
  obtain ⟨a, dx, fs, rfl, ha, q⟩ := h
  cases (show v = Value.ref a from rx)
  obtain ⟨ox, od, J⟩ := inst_at I ha
  obtain ⟨m, hF⟩ := I.fr
  refine PySem.W.ksp_inv hF I.ok.mod.kin J hs hf ?_
  exact wpAny_call (run_fnR (us := [.ref a]) (vs := [.ref a]) F (hr.mono hk) hx I (.cons rfl .nil) q)
end

/-! ### a staticmethod called on its class; a property; an instance called -/
/-- C.m is a staticmethod: its record at p, its def at g -/
structure SMet (K : PySem.W.Frag) (C : Addr) (mc : Value) (m : Str) (p g : Addr) : Prop where
  at_ : PySem.W.findCls K (.ref C) mc m = some (.get (.builtin "staticmethod.__get__") (.ref p) .none (.ref C))
  rc : ∃ rest, PySem.W.recIn K p "staticmethod" = some (.ref g :: rest)
  kp : PySem.W.keepIn K (.ref g) = true
structure Sm (P : Program) (w : World) (K : PySem.W.Frag) (mg : Str → Option Value) (base : Heap) (CX : CXT) (k : Nat) (x m : Str) (sp : Sp) : Prop where
  ex : ∃ (C p g : Addr) (mc : Value), mg x = some (.ref C) ∧ ClX.CRead K C mc ∧ SMet K C mc m p g ∧ FnR P w K mg base CX k g sp
structure Pr (P : Program) (w : World) (K : PySem.W.Frag) (mg : Str → Option Value) (base : Heap) (CX : CXT) (k : Nat) (C : Addr) (f : Str) (sp : Sp) : Prop where
  ex : ∃ (p g : Addr) (fd : FuncData) (ps : List Str), Cls K C ∧ PropOf K C f p g ∧ FnOk P w K mg base CX k g fd ps sp ∧ Binds K fd ps []
structure Ca (P : Program) (w : World) (K : PySem.W.Frag) (mg : Str → Option Value) (base : Heap) (CX : CXT) (k : Nat) (C : Addr) (sp : Sp) : Prop where
  ex : ∃ g : Addr, StX.CallO K C g ∧ FnR P w K mg base CX k g sp
section
variable {X : Cx} {CX : CXT} {k j : Nat} {C : Addr} {x m : Str} {sp : Sp} {E : XK} {p pos apos : Pos} {e o fe : Expr} {es : List Expr} {ta tf : TE} {t : TA}
theorem pe_sm {pl : Sem Bool} (c : Sm X.prog X.w X.K X.mg X.base CX k x m sp) (hr : Room j X.A) (hk : k ≤ j) (hg : Gl X x) (hx : Passes CX X E) (ha : PA X (e :: es) t) (hdb : (x == ("__debug__" : Str)) = false := by decide)
    (hst : starEach (e :: es) X.env = (false, eval e X.env) :: starEach es X.env := by rfl) (hpl : (backTo pos (starEach es X.env)).any (·.1) = false := by rfl)
    (ht : eval (.Call (.Attribute (.Name x p) m apos) (e :: es) [] pos) X.env = (do
      let ov ← eval (.Name x p) X.env
      standAt apos.atName
      let (f, first) ← holding [ov] (getMethod ov m pl)
      callWith pos f first (backTo pos (starEach (e :: es) X.env)) (backToKw pos (keywordEach [] X.env))) := by rfl) :
    PE X (.Call (.Attribute (.Name x p) m apos) (e :: es) [] pos) (tCl sp E t) := by
  obtain ⟨C, pr, g, mc, hm, r, c, F⟩ := c.ex
  obtain ⟨rest, hp⟩ := c.rc
  refine ⟨fun pins s σ H Q I h => ?_⟩
  refine PySem.W.methodCall_KW (pl := pl) (ld_glob I hg hm ?_ hdb) ht
  refine PySem.W.method_cls I.kIn r.ga (PySem.W.cls_bind I.kIn r.rd c.at_ (wpAny_call (PySem.W.sm_get (s := { s with toks := s.toks + 1 }) I.kIn hp (PySem.W.handed_on rfl ?_))))
  have I1 : Inv X pins σ H { s with toks := s.toks + 1 } := I.tok _
  refine PySem.W.callWith_K (h₀ := X.base) I.ok.mod.kin c.kp (thn (ha.run pos pins _ σ H _ I1 h) fun us s1 ⟨vs, H1, I2, rv, q⟩ => ⟨I2.kIn, ?_⟩) hst hpl
  exact wpAny_call (run_fnR F (hr.mono hk) hx I2 rv q)
def tPr (C : Addr) (sp : Sp) (E : XK) (ta : TE) : TE := fun σ H Q => ta σ H fun x H1 => ∃ a dx fs, x = .ref a ∧ H1 a = some (.ins C dx fs) ∧ sp [.ref a] H1 Q E
theorem pe_pr {f : Str} (c : Pr X.prog X.w X.K X.mg X.base CX k C f sp) (hr : Room j X.A) (hk : k + 1 ≤ j) (hx : Passes CX X.nox E) (he : PE X e ta) (hab : attributeBase e f X.env (eval e X.env) = eval e X.env := by rfl) :
    PE X (.Attribute e f pos) (tPr C sp E ta) := by
  obtain ⟨p, g, fd, ps, c, hp, F, b⟩ := c.ex
  exact pe_prop he c hp F (hr.mono hk) b .nil hx hab
theorem pe_ca (hf : PE X fe tf) (c : Ca X.prog X.w X.K X.mg X.base CX k C sp) (hr : Room j X.A) (hk : k ≤ j) (hx : Passes CX X E) (ha : PA X (e :: es) t)
    (ht : eval (.Call fe (e :: es) [] pos) X.env = (do callWith pos (← eval fe X.env) [] (backTo pos (starEach (e :: es) X.env)) (backToKw pos (keywordEach [] X.env))) := by rfl)
    (he : starEach (e :: es) X.env = (false, eval e X.env) :: starEach es X.env := by rfl) (hpl : (backTo pos (starEach es X.env)).any (·.1) = false := by rfl) : PE X (.Call fe (e :: es) [] pos) (StX.tCallO X C sp E tf t) := by
  obtain ⟨g, c, F⟩ := c.ex
  exact StX.pe_callO hf c F (hr.mono hk) hx ha ht he hpl
end

/-! ### enumerate(tuple) -/
theorem meets_enumerate_newT (l : Addr) (items : Array Value) (n : Nat) (dct : Option Addr) (sl : Array (Option Value)) :
    Meets (Builtin.«enumerate.__new__» ⟨[.type "enumerate", .ref l], []⟩) (fun _ R s => s.heap.get? l = some { cls := .type "tuple", dict := dct, data := .seq items n, slots := sl } ∧
      R (.ok (.ret (.ref (s.heap.push { cls := .type "tuple_iterator", data := .fields #[.ref l, .int 0 0] }).objs.size)))
        { s with heap := (s.heap.push { cls := .type "tuple_iterator", data := .fields #[.ref l, .int 0 0] }).push { cls := .type "enumerate", data := .fields #[.none, .bool false, .ref s.heap.objs.size, rawInt 0, .none, .none] } }) :=
  .of_wp fun prog w A R s h => by
    obtain ⟨hp, g, d, tk, os⟩ := s; obtain ⟨hl, h⟩ := h
    have hsub := sub_enumerate
    have hL : Heap.IsTuple (Shared.heap ⟨hp, g, d, tk, os⟩) l items := ⟨_, hl, rfl, n, rfl⟩
    wp_walk using AutoSeq1.wpAny_loadPart' hl
    refine wpAny_stack_any fun st => wpAny_pure ?_
    split
    · rename_i c _ _ _ _ _
      cases (c == Value.type "enumerate")
      · wp_walk using AutoSeq1.wpAny_loadPart' hl, wpAny_pyIter_tuple hL
        exact ⟨_, rfl, h⟩
      · wp_walk using AutoSeq1.wpAny_loadPart' hl, wpAny_pyIter_tuple hL
        exact ⟨_, rfl, h⟩
    · wp_walk using AutoSeq1.wpAny_loadPart' hl, wpAny_pyIter_tuple hL
      exact ⟨_, rfl, h⟩
theorem call_enumerate_tup {prog : Program} {w : World} {A : Around} {E : Value → Shared → Prop} {s : Shared} {l : Addr} {items : Array Value} {Q : Value → Shared → Prop} (hL : s.heap.IsTuple l items)
    (h : ∀ h', IsEnum h' (s.heap.objs.size + 1) s.heap.objs.size 0 .none → h'.IsTupleIter s.heap.objs.size l 0 → h'.objs.size = s.heap.objs.size + 2 →
      (∀ b o, s.heap.get? b = some o → h'.get? b = some o) → Q (.ref (s.heap.objs.size + 1)) { s with heap := h' }) :
    wpAny (model prog w) A (call (.type "enumerate") [.ref l]) Q E s := by
  obtain ⟨⟨c, dct, dt, sl⟩, hl, hc, n, hd⟩ := hL
  replace hc : c = .type "tuple" := hc
  replace hd : dt = .seq items n := hd
  subst hc hd
  refine callType_new F.called_enumerate (by decide) (F.typeCall_enumerate_1 _) (F.newCall_enumerate_1 _) (fun obj => F.args_object_init_2 obj _) F.entry_enumerate_new
    (meets_enumerate_newT l items n dct sl) ⟨hl, ?_⟩
  have hz : (s.heap.push { cls := .type "tuple_iterator", data := .fields #[.ref l, .int 0 0] }).objs.size = s.heap.objs.size + 1 := Heap.size_push ..
  show _ ∧ _
  rw [hz]
  have he : IsEnum ((s.heap.push { cls := .type "tuple_iterator", data := .fields #[.ref l, .int 0 0] }).push
      { cls := .type "enumerate", data := .fields #[.none, .bool false, .ref s.heap.objs.size, rawInt 0, .none, .none] }) (s.heap.objs.size + 1) s.heap.objs.size 0 .none := by
    have := Heap.get?_push_size (s.heap.push { cls := .type "tuple_iterator", data := .fields #[.ref l, .int 0 0] })
      (o := { cls := .type "enumerate", data := .fields #[.none, .bool false, .ref s.heap.objs.size, rawInt 0, .none, .none] }) rfl
    rw [hz] at this; exact this
  refine ⟨⟨_, he, rfl⟩, h _ he ⟨_, Heap.get?_push_of_some _ (Heap.get?_push_size _ rfl), rfl, rfl⟩ (by rw [Heap.size_push, hz]) fun b o x => Heap.get?_push_of_some _ (Heap.get?_push_of_some _ x)⟩
def IteT (K : PySem.W.Frag) (a : Addr) : It :=
  ⟨fun i H => ∃ (xs : List V) (x : V), SqT K H a xs ∧ xs[i]? = some x, fun i H v H' => ∃ T x, v = .ref T ∧ H T = none ∧ H' = upd H T (.tup [.int (i : Nat), x]) ∧ ∀ xs, SqT K H a xs → xs[i]? = some x, fun i H => ∃ xs : List V, SqT K H a xs ∧ xs.length = i⟩
theorem turn_enumT {P : Program} {w : World} {K : PySem.W.Frag} {elts : List Expr} {kk : Nat} {tpos : Pos} (a e it : Addr) :
    Turn P w K (.Tuple elts kk tpos) (IteT K a) [e, it] e (fun i h => (∃ old, IsEnum h e it ((i : Nat) : Int) old) ∧ h.IsTupleIter it a i ∧ e ≠ it ∧ a ≠ it ∧ a ≠ e) where
  mem := by simp
  obj := fun i h st b hb => by
    obtain ⟨⟨old, he⟩, ⟨o, ho, hc, hd⟩, _⟩ := st
    have e' : b = e ∨ b = it := by simpa using hb
    rcases e' with z | z
    · rw [z]; exact ⟨_, he, fun v q => nomatch q⟩
    · rw [z]; exact ⟨o, ho, fun v q => by rw [hd] at q; cases q⟩
  keep := fun i h h' st k => let ⟨⟨old, he⟩, hi, hne⟩ := st; ⟨⟨old, k e (by simp) _ he⟩, hi.at fun o q => k it (by simp) o q, hne⟩
  item := by
    intro X hP hw hK hc i pins s σ H E I hf st hg
    subst hP hw hK
    obtain ⟨⟨old, he⟩, hit, hne, nai, nae⟩ := st
    obtain ⟨xs, x, hq, hx⟩ := hg
    obtain ⟨its, rv, p, hz⟩ := I.tuple hq
    obtain ⟨u, hu, ru⟩ := rv.get hx
    have hel : e < s.heap.objs.size := Heap.lt_size he
    have hil : it < s.heap.objs.size := by obtain ⟨_, q, _⟩ := hit; exact Heap.lt_size q
    have hlt : i < its.toArray.size := by
      have := (List.getElem?_eq_some_iff.mp hu).1
      simpa using this
    have hA : X.A.in1.handled = none := I.ok.hd hc
    refine wpAny_pyNext_enum_itemD (Draws.tuple hA it a nai its.toArray) he ⟨hit, p⟩ hlt hne (by simp; exact ⟨hne, fun z => nae z.symm⟩) fun u' h' tk hP ho hst hT hsz hk => ?_
    have eu : u' = u := by
      have q : its[i]? = some u' := by simpa using hP
      rw [hu] at q; exact (Option.some.inj q).symm
    subst eu
    obtain ⟨hit', _⟩ := hst
    refine ⟨_, rfl, wpAny_letOwnedTupleGo_enum (s := { s with heap := h', toks := tk + 1 }) ho fun h'' he' sb => ?_⟩
    have hT2 : h''.get? s.heap.objs.size = some { cls := .type "tuple", data := .seq #[.int i tk, u'] } := (sb.2 _ (Nat.ne_of_gt hel)).trans hT
    have new : ObjOk X.prog X.w (upd H s.heap.objs.size (.tup [.int (i : Nat), x])) h'' s.heap.objs.size (.tup [.int (i : Nat), x]) :=
      ⟨by show 2 ≤ sizeLine; decide, [.int i tk, u'], .cons ⟨_, rfl⟩ (.cons ru .nil), ⟨_, hT2, rfl, _, rfl⟩⟩
    have I1 : Inv X pins σ (upd H s.heap.objs.size (.tup [.int (i : Nat), x])) { s with heap := h'', toks := tk + 1 } :=
      I.turnedNew (ch := [e, it]) (fun b ob hb q => (sb.2 b (fun z => hb (by simp [z]))).trans (hk b ob (fun z => hb (by simp [z])) (fun z => hb (by simp [z])) q)) hf (Nat.le_refl _) new
    refine ⟨.ref s.heap.objs.size, _, I1, rfl, ⟨_, x, rfl, I.hok.fresh (Nat.le_refl _), rfl, fun ys hy => by rw [I.tuple_inj hy hq]; exact hx⟩, ⟨⟨u', ?_⟩, hit'.at fun o q => (sb.2 it (Ne.symm hne)).trans q, hne, nai, nae⟩, fun b hb => ?_⟩
    · have e1 : ((i + 1 : Nat) : Int) = (i : Int) + 1 := by omega
      rw [e1]; exact he'
    · have hb' : b < s.heap.objs.size := by
        have e' : b = e ∨ b = it := by simpa using hb
        rcases e' with z | z
        · rw [z]; exact hel
        · rw [z]; exact hil
      rw [upd_ne (Nat.ne_of_lt hb')]
      exact (hf b hb).1
  done := by
    intro X hP hw hK hc i pins s σ H E I hf st hg
    subst hP hw hK
    obtain ⟨⟨old, he⟩, hit, hne, nai, nae⟩ := st
    obtain ⟨xs, hq, hx⟩ := hg
    obtain ⟨its, rv, p, hz⟩ := I.tuple hq
    obtain ⟨f0, f1, f2, f3, f4, f5⟩ := hf it (by simp)
    have hl := rv.length
    have hA : X.A.in1.handled = none := I.ok.hd hc
    have en : i = its.toArray.size := by simp; omega
    subst en
    exact wpAny_pyNext_enum_endD (Draws.tuple hA it a nai its.toArray) he ⟨hit, p⟩ fun h' eb => ⟨rfl, I.turned (t' := s.toks) (fun b o hb q => eb b o hb q) f0 f1 f3 f4 f5⟩
  self := fun A i s Q E st h => let ⟨⟨_, he⟩, _⟩ := st; wpAny_pyIter_enum he h
theorem walk_enumT {K : PySem.W.Frag} {a : Addr} {xs : List V} : Walk (IteT K a) xs.length (fun H => SqT K H a xs) (YPair (fun i => some (.int (i : Nat))) (fun i => xs[i]?)) := by
  refine ⟨fun i _ hi q => ⟨xs, xs[i], q, by simp [hi]⟩, fun _ q => ⟨xs, q, rfl⟩, fun i H v H' _ q y => ?_⟩
  obtain ⟨T, x, h1, h2, h3, h4⟩ := y
  exact ⟨T, .int (i : Nat), x, h1, h2, h3, rfl, h4 xs q⟩
/-- enumerate of a list or a tuple: whatever walks it, while its object stays -/
def iEnumS (K : PySem.W.Frag) (ta : TA) : TI := fun σ H R => ta σ H fun vs H1 => ∃ a xs, vs = [.ref a] ∧ (SqL K H1 a xs ∨ SqT K H1 a xs) ∧
  ∀ (J : It) (G : Hp → Prop), Walk J xs.length G (YPair (fun i => some (.int (i : Nat))) (fun i => xs[i]?)) → (∀ H', (SqL K H1 a xs → SqL K H' a xs) → (SqT K H1 a xs → SqT K H' a xs) → G H') → R J H1
theorem stayL {K : PySem.W.Frag} {H H' : Hp} {a : Addr} {xs : List V} (h : SqL K H a xs) (e : ∀ o, H a = some o → H' a = some o) : SqL K H' a xs := by
  rcases h with (h | ⟨o, h⟩) | h
  · exact .inl (.inl (e _ h))
  · exact .inl (.inr ⟨o, e _ h⟩)
  · exact .inr h
theorem stayT {K : PySem.W.Frag} {H H' : Hp} {a : Addr} {xs : List V} (h : SqT K H a xs) (e : ∀ o, H a = some o → H' a = some o) : SqT K H' a xs := by
  rcases h with (h | ⟨o, h⟩) | h
  · exact .inl (.inl (e _ h))
  · exact .inl (.inr ⟨o, e _ h⟩)
  · exact .inr h
theorem pi_enumS {X : Cx} {e : Expr} {ta : TA} {p pos tpos : Pos} {elts : List Expr} {kk : Nat} (hg : Gl X "enumerate") (hm : X.mg "enumerate" = none) (ha : PA X [e] ta) (hs : starEach [e] X.env = [(false, eval e X.env)] := by rfl) :
    PI X (.Tuple elts kk tpos) (.Call (.Name "enumerate" p) [e] [] pos) (iEnumS X.K ta) := by
  refine ⟨fun pins s σ H R I h => ?_⟩
  refine Call_ (ld_blt I hg hm boot_enumerate (PyProof.Rows.callWith_type1 (thn (ha.run pos pins s σ H _ I h) fun us s1 ⟨vs, H1, I1, r1, q1⟩ => ?_) hs rfl))
  obtain ⟨a, xs, ex, hq, q⟩ := q1
  subst ex
  have hfp : ∀ b, b = s1.heap.objs.size + 1 ∨ b = s1.heap.objs.size → s1.heap.objs.size ≤ b := fun b e' => by
    rcases e' with z | z
    · rw [z]; exact Nat.le_add_right _ _
    · rw [z]; exact Nat.le_refl _
  cases r1 with
  | cons r rr =>
    cases rr
    cases r
    rcases hq with hq | hq
    · obtain ⟨its, rv, p', hz⟩ := I1.list hq
      refine call_enumerate_list p'.isList fun h' he hit hsz hk => wpAny_pyIter_enum he ?_
      have I2 : Inv X pins σ H1 { s1 with heap := h' } := I1.kept (t' := s1.toks) hk
      refine ⟨s1.heap.objs.size + 1, [s1.heap.objs.size + 1, s1.heap.objs.size], _, _, H1, rfl, I2, turn_enum a (s1.heap.objs.size + 1) s1.heap.objs.size, ⟨⟨.none, he⟩, hit, Nat.succ_ne_self _⟩, fun b hb => ?_, q _ _ walk_enum fun H' e _ => e hq⟩
      have hle := hfp b (by simpa using hb)
      exact I1.fpOk hle (I1.hok.fresh hle)
    · obtain ⟨its, rv, p', hz⟩ := I1.tuple hq
      have hlt := p'.lt
      refine call_enumerate_tup p' fun h' he hit hsz hk => wpAny_pyIter_enum he ?_
      have I2 : Inv X pins σ H1 { s1 with heap := h' } := I1.kept (t' := s1.toks) hk
      refine ⟨s1.heap.objs.size + 1, [s1.heap.objs.size + 1, s1.heap.objs.size], _, _, H1, rfl, I2, turn_enumT a (s1.heap.objs.size + 1) s1.heap.objs.size, ⟨⟨.none, he⟩, hit, Nat.succ_ne_self _, Nat.ne_of_lt hlt, Nat.ne_of_lt (Nat.lt_succ_of_lt hlt)⟩, fun b hb => ?_, q _ _ walk_enumT fun H' _ e => e hq⟩
      have hle := hfp b (by simpa using hb)
      exact I1.fpOk hle (I1.hok.fresh hle)

/-! ### a def of the text keeps its promise -/
section
variable {P : Program} {w : World} {K : PySem.W.Frag} {mg : Str → Option Value} {base : Heap}
theorem fnr {x qual : Str} {st : Stmt} {f : Addr} {fd : FuncData} {N ps : List Str} {k : Nat} {sp : Sp} (F : Fun K x qual st f fd) (S : FnScope N ps (defScope st)) (len : ∀ vs H Q E, sp vs H Q E → vs.length = ps.length)
    (hb : ∀ (kV doc pm : Value) (an : Option Addr) (cdv ct : Value) (us : List Value), us.length = ps.length → bindArgs (PySem.W.fnOf x qual (defArgs st) (defBody st) (defScope st) .none kV doc pm an cdv ct) ⟨us, []⟩ = pure (ps.zip us))
    (hbody : ∀ (cdv : Value) (A : Around) (outer : List Env) (s : Shared) (H : Hp) (vs : List V) (Q : VK) (E : XK), Room k (A.deeper (envOfC qual (defScope st) s.heap.objs.size f cdv)) → sp vs H Q E →
      ∃ t, PSs (cxOf CX0 P w K mg base N qual (defScope st) f cdv A outer s H E).nox (defBody st) t ∧ t { nx := fun _ H' => Q .non H', rt := Q } (start N vs) H) : FnR P w K mg base CX0 (k + 1) f sp :=
  (FnOk.raw (F.ok S len hbody) (F.binds hb) .nil).imp fun vs H Q E h => by rw [List.append_nil]; exact h
end
/-- a def of the text with defaults -/
theorem fnrD {P : Program} {w : World} {K : PySem.W.Frag} {mg : Str → Option Value} {base : Heap} {x qual : Str} {st : Stmt} {f : Addr} {fd : FuncData} {dvs : List V} {kws : List (Str × V)} {N ps : List Str} {k : Nat} {sp : Sp} (F : FunD K x qual (defArgs st) (defBody st) (defScope st) dvs kws f fd) (S : FnScope N ps (defScope st)) (len : ∀ vs H Q E, sp vs H Q E → vs.length = ps.length)
    (hbody : ∀ (cdv : Value) (A : Around) (outer : List Env) (s : Shared) (H : Hp) (vs : List V) (Q : VK) (E : XK), Room k (A.deeper (envOfC qual (defScope st) s.heap.objs.size f cdv)) → sp vs H Q E →
      ∃ t, PSs (cxOf CX0 P w K mg base N qual (defScope st) f cdv A outer s H E).nox (defBody st) t ∧ t { nx := fun _ H' => Q .non H', rt := Q } (start N vs) H) : FnOk P w K mg base CX0 (k + 1) f fd ps sp :=
  F.ok S len fun cdv A outer s H vs Q E hr h => by
    obtain ⟨t, a, q⟩ := hbody cdv A outer s H vs Q E hr h
    exact ⟨t, a.nox, q⟩
theorem FnOk.r {P : Program} {w : World} {K : PySem.W.Frag} {mg : Str → Option Value} {base : Heap} {CX : CXT} {k : Nat} {f : Addr} {fd : FuncData} {ps : List Str} {sp : Sp} (F : FnOk P w K mg base CX k f fd ps sp) (b : Binds K fd ps []) : FnR P w K mg base CX k f sp :=
  (FnOk.raw F b .nil).imp fun vs H Q E h => by rw [List.append_nil]; exact h
theorem rix_S {K : PySem.W.Frag} {H : Hp} {n : Addr} {ys : List V} {i : Int} {v : V} {Q : VK} (h : SqL K H n ys ∨ SqT K H n ys) (e : atI ys i = some v) (q : Q v H) : rIx K (.ref n) (.int i) H Q :=
  h.elim (fun h => .inl ⟨n, ys, i, v, rfl, rfl, h, e, q⟩) (fun h => .inr (.inl ⟨n, ys, i, v, rfl, rfl, h, e, q⟩))
theorem ifY {c A B : Prop} [Decidable c] (hc : c) (h : A) : if decide c = true then A else B := by
  rw [decide_eq_true hc]
  exact iteT h
theorem ifN {c A B : Prop} [Decidable c] (hc : ¬ c) (h : B) : if decide c = true then A else B := by
  rw [decide_eq_false hc]
  exact iteF h
theorem ifNN {c A B : Prop} [Decidable c] (hc : ¬ c) (h : A) : if (!decide c) = true then A else B := by
  rw [decide_eq_false hc]
  exact iteT h
/-- names that the module leaves to the built-ins -/
def Free (mg : Str → Option Value) : List Str → Prop
  | [] => True
  | x :: r => mg x = none ∧ Free mg r
/-- what stood stands, but at b -/
def KeepB (b : Addr) (H H' : Hp) : Prop := ∀ c o, H c = some o → c ≠ b → H' c = some o
theorem KeepB.refl (b : Addr) (H : Hp) : KeepB b H H := fun _ _ e _ => e
theorem KeepB.trans {b : Addr} {H H1 H2 : Hp} (x : KeepB b H H1) (y : KeepB b H1 H2) : KeepB b H H2 := fun c o e n => y c o (x c o e n) n
theorem KeepB.of_same {b : Addr} {H H1 : Hp} (x : Same H H1) : KeepB b H H1 := fun c o e _ => x c o e
theorem KeepB.upd {b : Addr} {H H1 : Hp} {o : HO} (x : KeepB b H H1) : KeepB b H (L2.upd H1 b o) := fun c u e n => by rw [upd_ne n]; exact x c u e n
theorem KeepB.new {b p : Addr} {H H1 : Hp} {o : HO} (x : KeepB b H H1) (hp : H1 p = none) : KeepB b H (L2.upd H1 p o) := fun c u e n => by
  rw [upd_ne (ne_of_none (x c u e n) hp)]; exact x c u e n
theorem same_new {p : Addr} {H H1 : Hp} {o : HO} (x : Same H H1) (hp : H1 p = none) : Same H (L2.upd H1 p o) := fun c u e => by
  rw [upd_ne (ne_of_none (x c u e) hp)]; exact x c u e
theorem Same.sqT {K : PySem.W.Frag} {H H' : Hp} {a : Addr} {xs : List V} (e : Same H H') (h : SqT K H a xs) : SqT K H' a xs := by
  rcases h with (h | ⟨o, h⟩) | h
  · exact .inl (.inl (e _ _ h))
  · exact .inl (.inr ⟨o, e _ _ h⟩)
  · exact .inr h
theorem KeepB.sqT {K : PySem.W.Frag} {b : Addr} {H H' : Hp} {a : Addr} {xs : List V} (e : KeepB b H H') {l : List V} (hb : H b = some (.lst l)) (h : SqT K H a xs) : SqT K H' a xs := by
  rcases h with (h | ⟨o, h⟩) | h
  · exact .inl (.inl (e _ _ h (ne_of h hb (by intro z; cases z))))
  · exact .inl (.inr ⟨o, e _ _ h (ne_of h hb (by intro z; cases z))⟩)
  · exact .inr h
/-- what b holds is neither a list nor locked -/
def NoSeq (o : HO) : Prop := (∀ xs, o ≠ .lst xs) ∧ (∀ xs, o ≠ .tup xs) ∧ ∀ ob u, o ≠ .frz ob u
theorem KeepB.sqT' {K : PySem.W.Frag} {b : Addr} {H H' : Hp} {a : Addr} {xs : List V} {o : HO} (e : KeepB b H H') (hb : H b = some o) (ho : NoSeq o) (h : SqT K H a xs) : SqT K H' a xs := by
  rcases h with (h | ⟨o, h⟩) | h
  · exact .inl (.inl (e _ _ h (ne_of h hb fun z => ho.2.1 _ z.symm)))
  · exact .inl (.inr ⟨o, e _ _ h (ne_of h hb fun z => ho.2.2 _ _ z.symm)⟩)
  · exact .inr h
theorem KeepB.sqL' {K : PySem.W.Frag} {b : Addr} {H H' : Hp} {a : Addr} {xs : List V} {o : HO} (e : KeepB b H H') (hb : H b = some o) (ho : NoSeq o) (h : SqL K H a xs) : SqL K H' a xs := by
  rcases h with (h | ⟨o, h⟩) | h
  · exact .inl (.inl (e _ _ h (ne_of h hb fun z => ho.1 _ z.symm)))
  · exact .inl (.inr ⟨o, e _ _ h (ne_of h hb fun z => ho.2.2 _ _ z.symm)⟩)
  · exact .inr h
theorem noSeq_dK (kvs : List (Key × V)) : NoSeq (.dK kvs) := ⟨fun _ z => (by cases z), fun _ z => (by cases z), fun _ _ z => (by cases z)⟩
theorem noSeq_ins (C dx : Addr) (fs : List (Str × V)) : NoSeq (.ins C dx fs) := ⟨fun _ z => (by cases z), fun _ z => (by cases z), fun _ _ z => (by cases z)⟩
theorem KeepB.sqL {K : PySem.W.Frag} {b : Addr} {H H' : Hp} {a : Addr} {xs : List V} (e : KeepB b H H') (hn : a ≠ b) (h : SqL K H a xs) : SqL K H' a xs := by
  rcases h with (h | ⟨o, h⟩) | h
  · exact .inl (.inl (e _ _ h hn))
  · exact .inl (.inr ⟨o, e _ _ h hn⟩)
  · exact .inr h

/-! ### data -/
def Sh (d : PyData) : Prop := d.canLay0 = true ∧ d.depth ≤ 10
theorem canLayAll_of : ∀ {ds : List PyData}, (∀ d ∈ ds, d.canLay0 = true) → PyData.canLayAll0 ds = true
  | [], _ => rfl
  | d :: ds, h => by
    show (PyData.canLay0 d && PyData.canLayAll0 ds) = true
    rw [h d List.mem_cons_self, canLayAll_of fun e he => h e (List.mem_cons_of_mem _ he)] <;> rfl
theorem depthAll_of {k : Nat} : ∀ {ds : List PyData}, (∀ d ∈ ds, d.depth ≤ k) → PyData.depthAll ds ≤ k
  | [], _ => Nat.zero_le _
  | d :: ds, h => by
    show max (PyData.depth d) (PyData.depthAll ds) ≤ k
    exact Nat.max_le.mpr ⟨h d List.mem_cons_self, depthAll_of fun e he => h e (List.mem_cons_of_mem _ he)⟩
theorem shaped_list {ds : List PyData} (h : ∀ d ∈ ds, Sh d) : SeqAt.shaped (.list ds) = true := by
  have h1 : PyData.canLay0 (.list ds) = true := canLayAll_of fun d hd => (h d hd).1
  have h2 : PyData.depth (.list ds) ≤ 11 := Nat.succ_le_succ (depthAll_of fun d hd => (h d hd).2)
  unfold SeqAt.shaped
  rw [h1, decide_eq_true (Nat.le_trans h2 (by decide))] <;> rfl
theorem shaped_tuple {ds : List PyData} (h : ∀ d ∈ ds, Sh d) : SeqAt.shaped (.tuple ds) = true := by
  have h1 : PyData.canLay0 (.tuple ds) = true := canLayAll_of fun d hd => (h d hd).1
  have h2 : PyData.depth (.tuple ds) ≤ 11 := Nat.succ_le_succ (depthAll_of fun d hd => (h d hd).2)
  unfold SeqAt.shaped
  rw [h1, decide_eq_true (Nat.le_trans h2 (by decide))] <;> rfl
theorem sh_seq {k : Nat} {ds : List PyData} (h : ∀ d ∈ ds, d.canLay0 = true ∧ d.depth ≤ k) (hk : k ≤ 9) : Sh (.list ds) ∧ Sh (.tuple ds) := by
  have h1 : PyData.canLayAll0 ds = true := canLayAll_of fun d hd => (h d hd).1
  have h2 : PyData.depthAll ds + 1 ≤ 10 := Nat.succ_le_succ (Nat.le_trans (depthAll_of fun d hd => (h d hd).2) hk)
  exact ⟨⟨h1, h2⟩, ⟨h1, h2⟩⟩
theorem sh_ints (ns : List Int) : ∀ d ∈ ns.map PyData.int, Sh d := fun d hd => by
  obtain ⟨n, _, rfl⟩ := List.mem_map.mp hd
  exact ⟨rfl, Nat.zero_le _⟩
theorem eqvAll_ints : ∀ a b : List Int, PyData.eqvAll (a.map PyData.int) (b.map PyData.int) = decide (a = b)
  | [], [] => rfl
  | [], _ :: _ => rfl
  | _ :: _, [] => rfl
  | x :: a, y :: b => by
    show (PyData.eqv (.int x) (.int y) && PyData.eqvAll (a.map PyData.int) (b.map PyData.int)) = decide (x :: a = y :: b)
    rw [eqvAll_ints a b]
    have e : PyData.eqv (.int x) (.int y) = decide (x = y) := by
      unfold PyData.eqv
      exact Bool.beq_eq_decide_eq x y
    rw [e, ← Bool.decide_and]
    exact decide_eq_decide.mpr ⟨fun h => by rw [h.1, h.2], fun h => by injection h with h1 h2; exact ⟨h1, h2⟩⟩
theorem eqv_list {a b : List PyData} : PyData.eqv (.list a) (.list b) = PyData.eqvAll a b := by rw [PyData.eqv]
theorem eqv_tuple {a b : List PyData} : PyData.eqv (.tuple a) (.tuple b) = PyData.eqvAll a b := by rw [PyData.eqv]
theorem eqv_same {ds : List PyData} (h : ∀ d ∈ ds, Sh d) : PyData.eqv (.list ds) (.list ds) = true := SeqAt.eqv_refl _ (canLayAll_of fun d hd => (h d hd).1)
section
variable {K : PySem.W.Frag} {H H' : Hp}
theorem dpAll_ints : ∀ ns : List Int, DpAll K H (ns.map V.int) (ns.map PyData.int)
  | [] => .nil
  | n :: r => .cons (.int n) (dpAll_ints r)
theorem dp_ints {p : Addr} {ns : List Int} (h : SqL K H p (ns.map V.int)) : Dp K H (.ref p) (.list (ns.map PyData.int)) := .lst h (dpAll_ints ns)
theorem dp_intsT {p : Addr} {ns : List Int} (h : SqT K H p (ns.map V.int)) : Dp K H (.ref p) (.tuple (ns.map PyData.int)) := .tup h (dpAll_ints ns)
mutual
theorem Dp.mono (e : Same H H') : ∀ {v : V} {d : PyData}, Dp K H v d → Dp K H' v d
  | _, _, .non => .non
  | _, _, .bl b => .bl b
  | _, _, .int i => .int i
  | _, _, .str x => .str x
  | _, _, .lst h q => .lst (L2.Same.seq e h) (DpAll.mono e q)
  | _, _, .tup h q => .tup (Same.sqT e h) (DpAll.mono e q)
theorem DpAll.mono (e : Same H H') : ∀ {vs : List V} {ds : List PyData}, DpAll K H vs ds → DpAll K H' vs ds
  | _, _, .nil => .nil
  | _, _, .cons h q => .cons (Dp.mono e h) (DpAll.mono e q)
end
theorem DpAll.length : ∀ {vs : List V} {ds : List PyData}, DpAll K H vs ds → vs.length = ds.length
  | _, _, .nil => rfl
  | _, _, .cons _ q => congrArg Nat.succ (DpAll.length q)
theorem DpAll.get : ∀ {vs : List V} {ds : List PyData} {i : Nat} {v : V}, DpAll K H vs ds → vs[i]? = some v → ∃ d, ds[i]? = some d ∧ Dp K H v d
  | _, _, _, _, .nil, e => by simp at e
  | _, _, 0, v, .cons (v := v') h _, e => by
    have : v' = v := Option.some.inj e
    subst this
    exact ⟨_, rfl, h⟩
  | _, _, i + 1, v, .cons _ q, e => by
    obtain ⟨d, h1, h2⟩ := DpAll.get (i := i) q (by simpa using e)
    exact ⟨d, by simpa using h1, h2⟩
theorem DpAll.snoc : ∀ {vs : List V} {ds : List PyData} {v : V} {d : PyData}, DpAll K H vs ds → Dp K H v d → DpAll K H (vs ++ [v]) (ds ++ [d])
  | _, _, _, _, .nil, h => .cons h .nil
  | _, _, _, _, .cons h q, h' => .cons h (DpAll.snoc q h')
end

/-! ### rules with the written part named: within a comprehension -/
section
variable {X : Cx} {K : PySem.W.Frag}
theorem ix_tupK (hK : X.K = K) : IxR X (rIxT K) := hK ▸ ix_tup
theorem ix_listK (hK : X.K = K) : IxR X (rIxL K) := hK ▸ ix_list
theorem ix_seqK (hK : X.K = K) : IxR X (rIx K) := hK ▸ ix_seq
theorem op_in_seqK (hK : X.K = K) : OpR X (compareOp .In) (rIn K false) := hK ▸ op_in_seq
theorem op_notIn_seqK (hK : X.K = K) : OpR X (compareOp .NotIn) (rIn K true) := hK ▸ op_notIn_seq
theorem op_eqDK (hK : X.K = K) (hu : X.A.units + 64 < cLine) : OpR X (compareOp .Eq) (rEqD K) := hK ▸ op_eqD hu
theorem op_neDK (hK : X.K = K) (hu : X.A.units + 64 < cLine) : OpR X (compareOp .NotEq) (rNeD K) := hK ▸ op_neD hu
theorem pe_fldK {e : Expr} {ta : TE} {f : Str} {pos : Pos} (hK : X.K = K) (he : PE X e ta) (hb : attributeBase e f X.env (eval e X.env) = eval e X.env) : PE X (.Attribute e f pos) (tFld K ta f) := hK ▸ pe_fld he hb
def rLenS (K : PySem.W.Frag) : List V → Hp → VK → Prop := fun xs H Q => ∃ p ys, xs = [.ref p] ∧ (SqL K H p ys ∨ SqT K H p ys) ∧ Q (.int ys.length) H
theorem call_len_seqK (hK : X.K = K) : CallR X (.builtin "len") (rLenS K) := hK ▸ call_len_seq
end

theorem pg_tupK {X : Cx} {K : PySem.W.Frag} {pos : Pos} {es : List Expr} {k : Nat} {t : TGs} {n : Nat} (hK : X.K = K) (hc : X.calm = true) (h : PGs X es t)
    (hn : (assignEach es X.env).length = n := by rfl) (hst : (assignEach es X.env).findIdx? (·.1) = none := by rfl) : PG X (.Tuple es k pos) (gTup K n t) := hK ▸ pg_tup hc h hn hst
/-- a dict comprehension over what is walked -/
theorem dc_it {J : It} {n : Nat} {G : Hp → Prop} {Y : Nat → Hp → V → Hp → Prop} (w : Walk J n G Y) {g : TG} {tt : TT} {tk tv : TE} {vs : List Nat} {σ : L2.St} {H1 : Hp} {D : Addr} {Qd : Hp → Prop} (Pv : Nat → Hp → Prop) (h0 : Pv 0 (upd H1 D (.dK []))) (hG : ∀ i H, i ≤ n → Pv i H → G H)
    (hs : ∀ i x H H', i < n → Pv i H → Y i H x H' → g x (wipe σ vs) H' fun σ2 H2 => wipe σ2 vs = wipe σ vs ∧ tt σ2 H2 fun b H3 =>
      if b = true then tk σ2 H3 fun y H4 => tv σ2 H4 fun z H5 => ∃ kvs k, y = kV k ∧ H5 D = some (.dK kvs) ∧ kvs.length < sizeLine ∧ Pv (i + 1) (upd H5 D (.dK (putK kvs k z))) else Pv (i + 1) H3) (hd : ∀ H, Pv n H → Qd H) :
    ∃ W : Nat → Nat → Hp → Prop, (∃ m, W 0 m (upd H1 D (.dK []))) ∧ ∀ i m H, W i m H →
      (J.stop i H ∧ Qd H) ∨ (J.go i H ∧ ∃ Nx : Hp → Prop, (∀ H', Nx H' → ∃ m', m' < m ∧ W (i + 1) m' H') ∧ ∀ x H', J.yld i H x H' → g x (wipe σ vs) H' fun σ2 H2 => wipe σ2 vs = wipe σ vs ∧ tt σ2 H2 fun b H3 =>
        if b = true then tk σ2 H3 fun y H4 => tv σ2 H4 fun z H5 => ∃ kvs k, y = kV k ∧ H5 D = some (.dK kvs) ∧ kvs.length < sizeLine ∧ Nx (upd H5 D (.dK (putK kvs k z))) else Nx H3) := by
  refine ⟨fun i m H => m = n - i ∧ i ≤ n ∧ Pv i H, ⟨n, by simp, Nat.zero_le _, h0⟩, ?_⟩
  rintro i m H ⟨rfl, hi, p⟩
  have q := hG i H hi p
  by_cases hlt : i < n
  · exact .inr ⟨w.goes i H hlt q, Pv (i + 1), fun H' p' => ⟨n - (i + 1), by omega, rfl, hlt, p'⟩, fun x H' y => hs i x H H' hlt p (w.yields i H x H' hlt q y)⟩
  · have e : i = n := by omega
    subst e
    exact .inl ⟨w.stops H q, hd H p⟩

theorem seqIdx_nat {m len : Nat} (h : m < len) : seqIndex? (m : Int) len = some m := by
  unfold seqIndex?
  have h1 : ¬ ((m : Int) < 0) := by omega
  simp only [h1, if_false]
  have h2 : (decide ((0 : Int) ≤ (m : Int)) && decide ((m : Int) < (len : Int))) = true := by
    rw [Bool.and_eq_true]
    exact ⟨decide_eq_true (by omega), decide_eq_true (by omega)⟩
  rw [if_pos h2]
  simp
theorem map_eraseI {α β : Type} (f : α → β) : ∀ (l : List α) (i : Nat), (l.map f).eraseIdx i = (l.eraseIdx i).map f
  | [], _ => rfl
  | _ :: _, 0 => rfl
  | a :: r, i + 1 => by
    show f a :: (r.map f).eraseIdx i = f a :: (r.eraseIdx i).map f
    rw [map_eraseI f r i]
theorem lt_line {n : Nat} (h : n ≤ 100000) : n < sizeLine := Nat.lt_of_le_of_lt h (by decide)
theorem le_line {n : Nat} (h : n ≤ 100000) : n ≤ sizeLine := Nat.le_of_lt (lt_line h)

theorem ixN_nat {m len : Nat} (h : m < len) : ixN len (m : Int) = some m := by
  unfold ixN
  rw [if_pos (by omega), if_pos (by omega)]
  simp
theorem set_last {α : Type} : ∀ (a : List α) (x y : α), (a ++ [x]).set a.length y = a ++ [y]
  | [], _, _ => rfl
  | b :: r, x, y => by
    show b :: (r ++ [x]).set r.length y = b :: (r ++ [y])
    rw [set_last r x y]
theorem strOk_of (t : String) : PyData.strOk (Str.ofString t) = true := by
  rw [Str.ofString_eq_toList]
  unfold PyData.strOk
  rw [← Array.all_toList]
  simp only [List.all_eq_true, decide_eq_true_eq]
  intro c hc
  have hc' : c ∈ t.toList.map Char.toNat := by simpa using hc
  obtain ⟨ch, _, rfl⟩ := List.mem_map.mp hc'
  have v := ch.valid
  rcases v with v | v
  · have : ch.toNat < 0xd800 := v
    omega
  · have : ch.toNat < 0x110000 := v.2
    omega
theorem strOk_app (a b : Str) (ha : PyData.strOk a = true) (hb : PyData.strOk b = true) : PyData.strOk (a ++ b) = true := by
  unfold PyData.strOk at *
  show (a.cps ++ b.cps).all _ = true
  rw [Array.all_append, ha, hb] <;> rfl
/-- the heap without some addresses -/
def Wo (H : Hp) (bs : List Addr) : Hp := fun c => if c ∈ bs then none else H c
theorem wo_same {H : Hp} {bs : List Addr} : Same (Wo H bs) H := fun c o e => by
  unfold Wo at e
  by_cases h : c ∈ bs
  · rw [if_pos h] at e; cases e
  · rw [if_neg h] at e; exact e
theorem wo_mono {H H' : Hp} {bs : List Addr} (k : ∀ c o, H c = some o → c ∉ bs → H' c = some o) : Same (Wo H bs) (Wo H' bs) := fun c o e => by
  unfold Wo at e ⊢
  by_cases h : c ∈ bs
  · rw [if_pos h] at e; cases e
  · rw [if_neg h] at e ⊢
    exact k c o e h
theorem wo_at {H : Hp} {bs : List Addr} {c : Addr} {o : HO} (h : H c = some o) (hn : c ∉ bs) : Wo H bs c = some o := by
  unfold Wo
  rw [if_neg hn]
  exact h

theorem inV_ints (v : Int) : ∀ ps : List Int, inV (.int v) (ps.map V.int) = decide (v ∈ ps)
  | [] => by simp [inV]
  | p :: r => by
    have ih := inV_ints v r
    unfold inV at ih ⊢
    rw [List.map_cons, List.any_cons, ih]
    have e : eqV (.int p) (.int v) = decide (v = p) := by
      show (p == v) = _
      by_cases h : p = v
      · subst h; simp
      · have h' : ¬ v = p := fun z => h z.symm
        simp [h, h']
    rw [e]
    by_cases h : v = p <;> simp [h]
theorem flat_ints (ps : List Int) : (ps.map V.int).all flatV = true := by
  rw [List.all_eq_true]
  intro x hx
  obtain ⟨p, _, rfl⟩ := List.mem_map.mp hx
  rfl
theorem ifNT {b : Bool} {A B : Prop} (hb : b = true) (h : B) : if (!b) = true then A else B := by
  subst hb
  exact iteF h
theorem ifT {b : Bool} {A B : Prop} (hb : b = true) (h : A) : if b = true then A else B := by
  subst hb
  exact iteT h
theorem ifF {b : Bool} {A B : Prop} (hb : b = false) (h : B) : if b = true then A else B := by
  subst hb
  exact iteF h
theorem flat_rep {α : Type} (x : α) : ∀ k : Nat, (List.replicate k [x]).flatten = List.replicate k x
  | 0 => rfl
  | k + 1 => by
    rw [List.replicate_succ, List.flatten_cons, flat_rep x k, List.replicate_succ]
    rfl
theorem dpAll_rep {K : PySem.W.Frag} {H : Hp} {x : V} {d : PyData} (h : Dp K H x d) : ∀ k : Nat, DpAll K H (List.replicate k x) (List.replicate k d)
  | 0 => .nil
  | k + 1 => .cons h (dpAll_rep h k)
end SB

/-! ** of a base of up to 200 bits. -/
namespace SB
open PySem PySem.Spec PyProof.Rows L2
def CPowM (i j : Int) : Prop := 0 ≤ j ∧ j ≤ 1000 ∧ i.natAbs < 2 ^ 200
theorem op_powM {X : Cx} : OpR X (binaryOp .Pow) (rI CPowM fun i j => .int (i ^ j.toNat)) := opI fun i j _ _ _ _ _ hc q => by
  refine pow_int hc.1 ?_ q
  have h1 : Builtin.Int.intBits i ≤ 200 := PySem.intBits_le_iff.mpr hc.2.2
  have h2 : (Builtin.Int.intBits i : Int) * j ≤ 200 * 1000 := Int.mul_le_mul (by omega) hc.2.1 hc.1 (by decide)
  omega
end SB

/-! Own exceptions over ValueError whose __init__ begins with super().__init__(..). -/
namespace SB
open PySem PySem.Spec PyProof.Rows L2 NdefX
section
variable {X : Cx} {pins : List (Addr × Obj)} {σ : L2.St} {H : Hp} {s : Shared} {a C u : Addr}
/-- the bound __init__ of the base, called: nothing of it is told -/
theorem call_mw {A : Around} {E : Value → Shared → Prop} {us : List Value} {Q : Value → Shared → Prop} (T : OexC X.K C) (I : Inv X pins σ H s) (e : H a = some (exo a C none)) (hu : s.heap.get? u = some (PySem.W.kxs_mw "ValueError.__init__" a)) (hl : us.length ≤ sizeLine)
    (h : ∀ s', Inv X pins σ H s' → Q .none s') : wpAny (model X.prog X.w) A (call (.ref u) us) Q E s := by
  obtain ⟨nm, q, N, bs, bm, sn, sub, ab, col, dd, k0, k1, k2, k3, k5, hC, hbm⟩ := T.cls
  obtain ⟨t1, ho⟩ := exo_at I.hok e
  have FB := F.excBase_ValueError
  have hC' := I.kIn _ _ hC
  have fin : ∀ h', (∀ b o, b ≠ a → s.heap.get? b = some o → h'.get? b = some o) → (∃ t2 : Addr, h'.get? a = some ({ cls := .ref C, dict := none, data := .fields #[.ref t2, .none, .none, .none, .bool false, .none] } : Obj)) → Q .none { s with heap := h' } := fun h' k hx => by
    obtain ⟨t2, hx⟩ := hx
    have J := I.write (t' := s.toks) (x := a) (e := a) (o := exo a C none) (by rw [e]; exact True.intro) (.inl rfl) k ⟨_, hx⟩ (exo_ok hx)
    have eu : upd H a (exo a C none) = H := by
      funext b
      by_cases hb : b = a
      · rw [hb, upd_same, e]
      · rw [upd_ne hb]
    rw [eu] at J
    exact h _ J
  obtain ⟨hh, g, d, tk, os⟩ := s
  refine wpAny_call (codeAny_of_tree ?_)
  show wpAny _ A.in1 (callAny (.ref u) ⟨us, []⟩) _ _ _
  simp only [callAny]
  refine wpAny_bind (wpAny_load hu ?_)
  simp only [PySem.W.kxs_mw, show (Value.type "method-wrapper" == Value.type "method" || Value.type "method-wrapper" == Value.type "builtin_function_or_method" || Value.type "method-wrapper" == Value.type "method-wrapper") = true by decide, if_true]
  refine PySem.W.KFB.if_so (by decide) ?_
  refine wpAny_bind (PySem.W.check_bound_init FB.toExcCallFacts hC' ho rfl ?_)
  refine wpAny_bind (wpAny_pure (wpAny_pure ?_))
  refine ⟨plainId_quiet FB.init.plain _, codeAny_builtin FB.initEntry ?_⟩
  refine PySem.W.exc_init_tree (cls := .ref C) (t0 := t1) (dv := none) (c2 := .none) (c3 := .none) (b4 := .bool false) ho hl fun h' k e' _ => fin h' k ⟨_, e'⟩
end
/-- what the reading of such a def's body asks -/
def tSup (K : PySem.W.Frag) (D : Addr) (ta : TA) (t : TS) : TS := fun E σ H => ∃ a C : Addr, σ[0]? = some (some (.ref a)) ∧ OexC K C ∧ H a = some (exo a C none) ∧ PySem.W.mroIn K C (.ref D) = some true ∧
  PySem.W.ks_superIn K C D "__init__" = some (some (.builtin "ValueError.__init__")) ∧ PySem.W.subIn K (.ref C) (.type "ValueError") = some true ∧
  ta σ H fun us H1 => us.length ≤ 1000 ∧ H1 a = some (exo a C none) ∧ t E σ H1
theorem fn_sup {CX : CXT} {P : Program} {w : World} {K : PySem.W.Frag} {mg : Str → Option Value} {base : Heap} {k : Nat} {f cc cda D : Addr} {name qual : Str} {params : Arguments} {p0 p1 apos cpos pos : Pos} {e : Expr} {es : List Expr} {rest : List Stmt} {scope : Scope}
    {dV kV doc pm ct oc ccl cl : Value} {an od cdd cld : Option Addr} {osl ccs csl : Array (Option Value)} {N ps : List Str} {sp : Sp} {ar : Arg} {vs0 : Array Value} {file : Str} {tf : Tok} {cdD : ClassData}
    (lk : K.lookup f = some ⟨oc, od, .func (PySem.W.ksFn name qual params (.Expr (.Call (.Attribute (.Call (.Name "super" p0) [] [] p1) "__init__" apos) (e :: es) [] cpos) pos :: rest) scope dV kV doc pm an (.ref cda) ct cc), osl⟩)
    (hcd : PySem.W.codeIn K (.ref cda) qual = true) (S : NScope N ps ["__class__"] scope) (hp : (params.posonlyargs ++ params.args).head? = some ar) (hps : ps[0]? = some ar.arg)
    (hcode : K.lookup cda = some ⟨ccl, cdd, .fields vs0, ccs⟩) (hvs : vs0[2]? = some (.str file tf)) (hfile : ((P.main.file : Str) == file) = true)
    (hcell : K.lookup cc = some ⟨cl, cld, .cell (some (.ref D)), csl⟩) (hD : PySem.W.clsIn K D = some cdD) (hks : scope.names.lookup ("super" : Str) = some .globalImplicit)
    (htop : (P.main.scope.names.lookup ("super" : Str)).isSome = false) (hsu : mg "super" = none) (hth : PySem.W.nsIn K cStatics "thirdparty.any" = some none)
    (len : ∀ vs H Q E, sp vs H Q E → vs.length = ps.length)
    (hbody : ∀ (A : Around) (outer : List Env) (s : Shared) (H : Hp) (vs : List V) (Q : VK) (E : XK), Room k (A.deeper (envF ⟨name, qual, params, (.Expr (.Call (.Attribute (.Call (.Name "super" p0) [] [] p1) "__init__" apos) (e :: es) [] cpos) pos :: rest), scope, [("__class__", cc)], cda⟩ f s.heap.objs.size)) → sp vs H Q E →
      ∃ ta t, PA (ncx CX P w K mg base N ⟨name, qual, params, (.Expr (.Call (.Attribute (.Call (.Name "super" p0) [] [] p1) "__init__" apos) (e :: es) [] cpos) pos :: rest), scope, [("__class__", cc)], cda⟩ f A outer s H E) (e :: es) ta ∧
        PSs (ncx CX P w K mg base N ⟨name, qual, params, (.Expr (.Call (.Attribute (.Call (.Name "super" p0) [] [] p1) "__init__" apos) (e :: es) [] cpos) pos :: rest), scope, [("__class__", cc)], cda⟩ f A outer s H E) rest t ∧
        tSup K D ta t { nx := fun _ H' => Q .non H', rt := Q } (startF N vs [none]) H)
    (he : ∀ env : Env, starEach (e :: es) env = (false, eval e env) :: starEach es env := by intro _; rfl) (hpl : ∀ env : Env, (backTo cpos (starEach es env)).any (·.1) = false := by intro _; rfl)
    {pl : Env → Sem Bool} (ht : ∀ env : Env, eval (.Call (.Attribute (.Call (.Name "super" p0) [] [] p1) "__init__" apos) (e :: es) [] cpos) env = (do
      let ov ← attributeBase (.Call (.Name "super" p0) [] [] p1) "__init__" env (eval (.Call (.Name "super" p0) [] [] p1) env)
      standAt apos.atName
      let (f, first) ← holding [ov] (getMethod ov "__init__" (pl env))
      callWith cpos f first (backTo cpos (starEach (e :: es) env)) []) := by intro _; rfl)
    (hs : ∀ env : Env, swapsWith (.Call (.Attribute (.Call (.Name "super" p0) [] [] p1) "__init__" apos) (e :: es) [] cpos) none pos.line env = pure false := by intro _; rfl) :
    FnOk P w K mg base CX (k + 1) f (PySem.W.ksFn name qual params (.Expr (.Call (.Attribute (.Call (.Name "super" p0) [] [] p1) "__init__" apos) (e :: es) [] cpos) pos :: rest) scope dV kV doc pm an (.ref cda) ct cc) ps sp := by
  refine ⟨len, fun A outer s H args us vs Q E hr e0 hb r hsp => ?_⟩
  have hl := len _ _ _ _ hsp
  have KX : K.In s.heap := e0.mod.kin.keeps fun b o e => (e0.bs b o e).1
  have lim : s.heap.NoLimit := e0.mod.nolimit.keeps fun b o e => (e0.bs b o e).1
  have KB : ∀ b o, K.lookup b = some o → base.get? b = some o := fun b o z => e0.mod.kin _ _ z
  refine ks_codeAny_call_defAt (fd := PySem.W.ksFn name qual params (.Expr (.Call (.Attribute (.Call (.Name "super" p0) [] [] p1) "__init__" apos) (e :: es) [] cpos) pos :: rest) scope dV kV doc pm an (.ref cda) ct cc) (binds := ps.zip us) hr.depth (KX _ _ lk) rfl lim (PySem.W.codeRec_of KX hcd) rfl hb S.nocell
    (fun ⟨n, _⟩ hy => S.par n (List.of_mem_zip hy).1) (fun h₁ hns kp => ?_) S.co S.gen S.kind
  obtain ⟨ta, t, hA, hR, a, C, h0, T, ea, hm, hsi, hsub, hta⟩ := hbody A outer s H vs Q E (hr.deeper _) hsp
  have C0 : CellsAt [(("__class__" : Str), cc)] ["__class__"] [none] s.heap H := by
    refine ⟨rfl, fun y c z => ?_, fun x y c z1 z2 => ?_, fun i y z => ?_⟩
    · have e1 : (y, c) ∈ [(("__class__" : Str), cc)] := PySem.mem_of_lookup z
      have e2 : (y, c) = (("__class__" : Str), cc) := List.mem_singleton.mp e1
      cases e2
      exact ⟨(e0.bs _ _ (KB _ _ hcell)).2, _, _, KX _ _ hcell, rfl⟩
    · have e1 : (x, c) ∈ [(("__class__" : Str), cc)] := PySem.mem_of_lookup z1
      have e2 : (y, c) ∈ [(("__class__" : Str), cc)] := PySem.mem_of_lookup z2
      have e3 : (x, c) = (("__class__" : Str), cc) := List.mem_singleton.mp e1
      have e4 : (y, c) = (("__class__" : Str), cc) := List.mem_singleton.mp e2
      cases e3
      cases e4
      rfl
    · cases i with
      | zero =>
        have : ("__class__" : Str) = y := by simpa using z
        subst this
        exact ⟨cc, by simp [List.lookup], fun v q => by simp at q⟩
      | succ i => simp at z
  have I := inv_startN (CX := CX) (tk := s.toks + (ps.zip us).length) (F := ⟨name, qual, params, (.Expr (.Call (.Attribute (.Call (.Name "super" p0) [] [] p1) "__init__" apos) (e :: es) [] cpos) pos :: rest), scope, [("__class__", cc)], cda⟩) (f := f) (E := E) S hr.hd e0 hl r C0 hns kp
  obtain ⟨m, hn, hlk⟩ := id I.loc
  obtain ⟨mb, b1, b2⟩ := id I.mod.blt
  have hN0 : N[0]? = some ar.arg := by
    have q := S.pre
    cases ps with
    | nil => simp at hps
    | cons p ps =>
      have e1 : p = ar.arg := by simpa using hps
      subst e1
      cases N with
      | nil => simp at q
      | cons n N =>
        have q' : n :: N.take (ps.length + 1) = ar.arg :: (ps ++ [("__class__" : Str)]) := by
          have : (ar.arg :: ps).length + [("__class__" : Str)].length = ps.length + 1 + 1 := rfl
          rw [this, List.take_succ_cons] at q
          exact q
        injection q' with q1 q2
        rw [q1]
        rfl
  have hka : scope.names.lookup ar.arg = some .local := S.par _ (List.mem_of_getElem? hps)
  obtain ⟨u0, ru, lku⟩ := hlk 0 ar.arg (.ref a) hN0 h0 (.inl hka)
  have hma : m ar.arg = some (.ref a) := by
    cases ru
    rcases lku with ⟨_, z⟩ | ⟨z, _⟩
    · exact z
    · have z' : scope.names.lookup ar.arg = some .cell ∨ scope.names.lookup ar.arg = some .free := z
      rw [hka] at z'
      rcases z' with z' | z' <;> cases z'
  have hkc : scope.names.lookup ("__class__" : Str) = some .free := S.frk _ (List.mem_singleton_self _)
  obtain ⟨t1, hoa⟩ := exo_at I.hok ea
  obtain ⟨oD, hD1, hD2⟩ : ∃ oD, h₁.get? D = some oD ∧ oD.data = .cls cdD := by
    unfold PySem.W.clsIn at hD
    split at hD
    · rename_i c d cd' sl ho
      cases hD
      exact ⟨_, kp _ _ (KX _ _ ho), rfl⟩
    · cases hD
  obtain ⟨nmC, qC, NC, bsC, bmC, snC, subC, abC, colC, ddC, k0, k1, k2, k3, k5, hC, hbm⟩ := id T.cls
  obtain ⟨cd, hc⟩ : ∃ cd, PySem.W.clsIn K C = some cd := ⟨_, by unfold PySem.W.clsIn; rw [hC] <;> rfl⟩
  unfold PySem.W.ks_superIn at hsi
  rw [hc] at hsi
  have J0 : PySem.W.InstAt h₁ a { cls := .ref C, dict := none, data := .fields #[.ref t1, .none, .none, .none, .bool false, .none] } C none := ⟨hoa, rfl, rfl, trivial⟩
  have X1 : K.In h₁ := KX.keeps kp
  have hi : interactive (envF ⟨name, qual, params, (.Expr (.Call (.Attribute (.Call (.Name "super" p0) [] [] p1) "__init__" apos) (e :: es) [] cpos) pos :: rest), scope, [("__class__", cc)], cda⟩ f s.heap.objs.size) = false := by
    have := S.kind
    simp [interactive, this]
  obtain ⟨hh, g, d, tk, os⟩ := s
  refine ks_wpAt_execs_cons (ks_wpAt_Expr_any (ks_wpAt_MethodCall ?_ (ht _)) hi (hs _))
  refine ks_wpAt_super_base hks hkc (by decide) rfl (X1 _ _ lk) rfl hp rfl (X1 _ _ hcode) rfl hvs hfile htop ?_
  refine PySem.W.ks_loadName_global S.kind hks (Calls.loadGlobal_builtin (I.mod.glob.keeps I.bk) hsu (b1.keeps I.bk) ((b2 _ (by decide)).trans (by decide +kernel : bootBuiltins "super" = some (.type "super"))) ⟨rfl, ?_⟩)
  refine wpAny_loadName_free S.kind hkc rfl ⟨_, X1 _ _ hcell, rfl⟩ ?_
  refine wpAny_loadName_local S.kind hka hn hma ?_
  refine ks_wpAny_isType_cls hD1 hD2 ⟨rfl, ?_⟩
  refine ks_wpAny_call_super hD1 hD2 hoa rfl (fun c e => by cases e) (PySem.W.looks_mroIn X1 hm) (fun h2 so k2 => ?_)
  have I2 := I.kept (h' := h2) (t' := tk + (ps.zip us).length) k2
  obtain ⟨t2, hoa2⟩ := exo_at I2.hok ea
  have X2 : K.In h2 := X1.keeps k2
  have J2 : PySem.W.InstAt h2 a { cls := .ref C, dict := none, data := .fields #[.ref t2, .none, .none, .none, .bool false, .none] } C none := ⟨hoa2, rfl, rfl, trivial⟩
  refine PySem.W.kxs_getMethod PySem.W.kxs_ValueError so (PySem.W.looks_opaque X2 hth) (l₀ := cd.mro) (fun A Q E s k q => wpAny_bind ((PySem.W.looks_clsIn X2 hc) A _ E s k (wpAny_pure q))) rfl X2 hsi (J2.type.andThen (PySem.W.looks_subIn X2 hsub)) (PySem.W.ks_ne X2 J2 hc) (by decide) ?_
  have k3 : ∀ b o, h2.get? b = some o → (h2.push (PySem.W.kxs_mw "ValueError.__init__" a)).get? b = some o := fun b o z => Heap.get?_push_of_some _ z
  have I3 := I2.kept (h' := h2.push (PySem.W.kxs_mw "ValueError.__init__" a)) (t' := tk + (ps.zip us).length + 1) k3
  have hu : (h2.push (PySem.W.kxs_mw "ValueError.__init__" a)).get? h2.objs.size = some (PySem.W.kxs_mw "ValueError.__init__" a) := Heap.get?_push_size _ rfl
  have I4 := I3.pins_of (pins' := [(h2.objs.size, PySem.W.kxs_mw "ValueError.__init__" a)]) fun p hp => by
    have e1 : p = (h2.objs.size, PySem.W.kxs_mw "ValueError.__init__" a) := by simpa using hp
    subst e1
    exact ⟨hu, I2.hok.fresh (Nat.le_refl _), Nat.ne_of_gt I2.lt, I2.nofs (Nat.le_refl _), fun v z => by cases z⟩
  show wpAny _ _ (callWith cpos (.ref h2.objs.size) [] (backTo cpos (starEach (e :: es) _)) []) _ _ _
  have hrun := hA.run cpos _ _ _ _ _ I4 hta
  rw [he] at hrun ⊢
  refine PySem.W.kxs_callWith (i := "ValueError.__init__") (x := a) (by show (false || (backTo cpos (starEach es _)).any (·.1)) = false; rw [hpl]; rfl) ?_
  refine Calls.evalArgs_plain (wpAny_mono hrun (fun us1 s1 hq => ?_) fun _ _ z => z)
  obtain ⟨ws, H1, I5, r5, hz5, ea5, q5⟩ := hq
  have hu5 := (I5.pin (h2.objs.size, PySem.W.kxs_mw "ValueError.__init__" a) (List.mem_append_right _ (List.mem_singleton_self _))).1
  refine ⟨hu5, ?_⟩
  refine call_mw (X := ncx CX P w K mg base N ⟨name, qual, params, (.Expr (.Call (.Attribute (.Call (.Name "super" p0) [] [] p1) "__init__" apos) (e :: es) [] cpos) pos :: rest), scope, [("__class__", cc)], cda⟩ f A outer ⟨hh, g, d, tk, os⟩ H E) T I5 ea5 hu5 (by
    have := r5.length
    rw [sizeLine_eq]
    show us1.length ≤ _
    omega) fun s6 I6 => ?_
  refine wpAt_of_wpAny ?_
  have I7 := I6.pins_of (pins' := []) fun p hp => by simp at hp
  refine wpAny_mono (hR.run [] s6 _ H1 _ I7 q5) (fun fl s' hs => ?_) fun e s' hs => hs
  have fin : ∀ {σ' : L2.St} {H' : Hp} {v : V} {u : Value}, Inv (ncx CX P w K mg base N ⟨name, qual, params, (.Expr (.Call (.Attribute (.Call (.Name "super" p0) [] [] p1) "__init__" apos) (e :: es) [] cpos) pos :: rest), scope, [("__class__", cc)], cda⟩ f A outer ⟨hh, g, d, tk, os⟩ H E) [] σ' H' s' → L2.RelV v u → Q v H' → CE outer P w H ⟨hh, g, d, tk, os⟩ Q u s' :=
    fun {σ' H' v u} J rv q => ⟨v, H', J.os, J.bare, J.base, J.hok, rv, q⟩
  cases fl with
  | ret u =>
    obtain ⟨v, σ', H', J, rv, q⟩ := hs
    exact fin J rv q
  | next =>
    obtain ⟨σ', H', J, q⟩ := hs
    exact fin (v := V.non) (u := Value.none) J rfl q
  | brk =>
    obtain ⟨_, _, _, q⟩ := hs
    exact False.elim q
  | cont =>
    obtain ⟨_, _, _, q⟩ := hs
    exact False.elim q
end SB

/-! Several except clauses with names; exceptions made; a def that tells what was raised. -/
namespace SB
open PySem PySem.Spec PyProof.Rows L2 NdefX
/-- the ends of a suite whose name (slot i) goes behind it -/
def Ends.gone (D : Ends) (i : Nat) : Ends := { nx := fun σ' H' => D.nx (σ'.set i none) H', rt := D.rt, bk := fun σ' H' => D.bk (σ'.set i none) H', ct := fun σ' H' => D.ct (σ'.set i none) H' }
/-- what the named clauses wish, one after the other -/
def wManyAs (K : PySem.W.Frag) (i : Nat) (Wout : WX) (D : Ends) : List (Value × (Addr → Value → Option Addr → TS)) → WX
  | [] => Wout
  | (c, ts) :: r => fun cls d σ H => ∃ b, PySem.W.exmOne K cls c = some b ∧ (b = true → ∀ a, H a = none → ts a cls d (Ends.gone D i) (σ.set i (some (.ref a))) H) ∧ (b = false → wManyAs K i Wout D r cls d σ H)
inductive HdsAs (X : Cx) (n : Str) : List ExceptHandler → List (Value × (Addr → Value → Option Addr → TS)) → Prop
  | nil : HdsAs X n [] []
  | cons {x : Str} {c : Value} {ts : Addr → Value → Option Addr → TS} {b₀ : Stmt} {suite : List Stmt} {np pos' : Pos} {hds : List ExceptHandler} {l : List (Value × (Addr → Value → Option Addr → TS))} (hc : Names X x c)
      (hsu : ∀ (a : Addr) (oe : Obj) (cls : Value) (d : Option Addr) (pn : List (Addr × Obj)), Zc cls d oe → (∃ vs, oe.data = .fields vs) → PSs (X.suite a ((a, oe) :: pn)) (b₀ :: suite) (ts a cls d)) (r : HdsAs X n hds l) :
      HdsAs X n (.ExceptHandler (some (.Name x np)) (some n) (b₀ :: suite) pos' :: hds) ((c, ts) :: l)
section
variable {X : Cx} {body : List Stmt} {n : Str} {i : Nat} {h₀ : ExceptHandler} {hds : List ExceptHandler} {l : List (Value × (Addr → Value → Option Addr → TS))} {pos : Pos} {tb : WX → TS} {Wout : WX}
theorem ps_try_manyAs (hs : X.stack = X.env :: X.outer) (hf : X.env.frame = some X.env.locals) (hN : X.N.Nodup) (hi : X.N[i]? = some n) (hln : X.env.kindOf n = some .local) (tk : Takes X Wout)
    (hb : ∀ (W : WX) (pn : List (Addr × Obj)) (xe : Value → Shared → Prop), Takes (X.tr pn xe) W → PassesOwn (model X.prog X.w) X.A X.env xe → PSs (X.tr pn xe) body (tb W))
    (hh : HdsAs X n (h₀ :: hds) l) : PS X (.Try body (h₀ :: hds) [] [] pos) (fun D σ H => tb (wManyAs X.K i Wout D l) D σ H) := by
  refine ⟨fun pins s σ H D I h => ?_⟩
  have okX := I.ok
  have frX : X.A.frames = some (X.env :: X.outer) := by rw [okX.frames, hs]
  have locn : Loc X.env.scope n := .inl hln
  refine wpAny_Try_except ?_
  refine wpAny_mono ((hb (wManyAs X.K i Wout D l) (X.pn ++ pins) (fun e s₁ => wpAny (model X.prog X.w) X.A (noteFrame e X.env) (fun _ s₂ => wpAny (model X.prog X.w) X.A (setFlight e none) (fun _ s₃ =>
    wpAny (model X.prog X.w) X.A (handleBy e X.env (h₀ :: hds)) (SP X pins D) X.xe s₃) X.xe s₂) X.xe s₁) (fun u s' xx => ?_) PassesOwn.looking).run [] s σ H D (I.toTry _) h) (fun f s1 hsp => ?_) (fun e s1 he => he)
  · obtain ⟨a, B, sI, pins', σ', H', cls, d, rfl, JT, nb, up, sky, na, os, ag, wsh⟩ := xx
    have J : Inv X pins σ' H' sI := JT.ofTry okX
    have skyX : Sky B (X.env :: X.outer) a (Zc cls d) X.env.locals s'.heap := by rw [← hs]; exact sky
    show wpAny (model X.prog X.w) X.A (noteFrame (.ref a) X.env) _ _ _
    refine Sky.land Zc.steady frX hf skyX fun h3 fl3 up3 => ?_
    have J3 : Inv X pins σ' H' { s' with heap := h3 } := J.landed nb fl3.1 (up.trans up3) os ag
    obtain ⟨oe3, vs3, at3, z3, dt3⟩ := fl3.there
    have nfr : a ∉ frs (X.env :: X.outer) := fun hm => by
      obtain ⟨_, o', e', hnf⟩ := fl3.2.2.1.mem hm
      rw [at3] at e'
      cases e'
      exact hnf _ dt3
    have nL : a ≠ X.env.locals := fun z => nfr (List.mem_filterMap.mpr ⟨X.env, List.mem_cons_self, by rw [hf, z]⟩)
    have nF : a ∉ X.fs := fun hm => by
      obtain ⟨e, he, q⟩ := List.mem_filterMap.mp hm
      exact nfr (List.mem_filterMap.mpr ⟨e, List.mem_cons_of_mem _ he, q⟩)
    have S3 := J3.suite at3 dt3 na nL nF
    have go : ∀ {hd2 : List ExceptHandler} {l2 : List (Value × (Addr → Value → Option Addr → TS))}, HdsAs X n hd2 l2 → wManyAs X.K i Wout D l2 cls d σ' H' →
        wpAny (model X.prog X.w) X.A (handleBy (.ref a) X.env hd2) (SP X pins D) X.xe { s' with heap := h3 } := by
      intro hd2 l2 hk
      induction hk with
      | nil =>
        intro w
        refine wpAny_handleBy_nil ?_
        obtain ⟨_, _, _, oe, vs, T, oT, ts', he, hz, hd, h1, _⟩ := id fl3
        unfold PySem.passOn
        refine wpAny_bind (wpAny_field he hd h1 ?_)
        rw [if_neg (show ¬ ((Value.ref T == Value.none) = true) from by simp)]
        have fin : wpAny (model X.prog X.w) X.A (setFlight (.ref a) X.env.frame) (fun _ s4 => wpAny (model X.prog X.w) X.A (throw (.ref a) : Sem Flow) (SP X pins D) X.xe s4) X.xe { s' with heap := h3 } := by
          rw [hf]
          refine HandSPX.setFlight_upZ fl3 fun h4 hh4 up4 => wpAny_throw (tk _ _ ?_)
          exact ⟨a, B, sI, pins, σ', H', cls, d, rfl, J, nb, (up.trans up3).trans up4, .inr (.inr (by rw [hs]; exact hh4)), na, os, ag, w⟩
        first
          | exact wpAny_bind (wpAny_pure (wpAny_bind fin))
          | exact wpAny_bind fin
      | @cons x c ts b₀ suite np pos' hds2 l3 hc hsu r ih =>
        intro w
        obtain ⟨b, hb1, yes, no⟩ := w
        refine wpAny_handleBy_cons (codeAny_handlers_test ?_) (by intro q; cases q)
        have lt : PySem.W.Looks (model X.prog X.w) h3 (typeOf (.ref a)) cls := fun A Q E s k q => wpAny_typeOf_ref (k _ _ at3) (by rw [z3.1]; exact q)
        have lm := PySem.W.exm_one (M := model X.prog X.w) (J3.kIn) lt hb1
        have tst : ∀ {Q : Value → Shared → Prop} {E : Value → Shared → Prop}, Q c { s' with heap := h3 } → wpAny (model X.prog X.w) (X.A.mark (some (.ref a))) (eval (.Name x np) X.env) Q E { s' with heap := h3 } := fun {Q E} q => by
          obtain ⟨hg, hdbg, hm | ⟨hm, hv, hnn⟩⟩ := hc
          · exact ld_glob (X := X.suite a ((a, oe3) :: (X.pn ++ pins))) S3 hg hm q hdbg
          · exact ld_blt (X := X.suite a ((a, oe3) :: (X.pn ++ pins))) S3 hg hm hv q hnn hdbg
        refine tst (lm.here ?_)
        cases b with
        | true =>
          refine codeAny_handlers_suite_as ?_
          refine HandSPX.lands_againZ fl3 fun h4 fl4 up4 => ?_
          have J4 : Inv X pins σ' H' { s' with heap := h4 } := J.landed nb fl4.1 ((up.trans up3).trans up4) os ag
          obtain ⟨oe4, vs4, at4, z4, dt4⟩ := fl4.there
          have S4 := J4.suite at4 dt4 na nL nF
          refine store_ok (X := X.suite a ((a, oe4) :: (X.pn ++ pins))) (v := .ref a) S4 hN hi locn rfl (fun s5 S5 => ?_) (.inr hln)
          refine wpAny_mono ((hsu a oe4 cls d (X.pn ++ pins) z4 ⟨_, dt4⟩).run [] s5 _ H' _ S5 (yes rfl a na)) (fun f s6 hsp => ?_) (fun _ _ z => False.elim z)
          have fin : ∀ {σ6 : L2.St} {H6 : Hp} {Q : Shared → Prop}, Inv (X.suite a ((a, oe4) :: (X.pn ++ pins))) [] σ6 H6 s6 → (∀ s7, Inv X pins (σ6.set i none) H6 s7 → Q s7) →
              wpAny (model X.prog X.w) X.A (do bindName X.env n .none; unbindBehindTheSuite X.env n pos') (fun _ s7 => Q s7) X.xe s6 := fun {σ6 H6 Q} S6 hq => gone_ok (S6.unsuite okX) hN hi hln hq
          cases f with
          | next =>
            obtain ⟨_, _, S6, q6⟩ := hsp
            exact fin S6 fun s7 J7 => ⟨_, _, J7, q6⟩
          | brk =>
            obtain ⟨_, _, S6, q6⟩ := hsp
            exact fin S6 fun s7 J7 => ⟨_, _, J7, q6⟩
          | cont =>
            obtain ⟨_, _, S6, q6⟩ := hsp
            exact fin S6 fun s7 J7 => ⟨_, _, J7, q6⟩
          | ret u =>
            obtain ⟨_, _, _, S6, r6, q6⟩ := hsp
            exact fin S6 fun s7 J7 => ⟨_, _, _, J7, r6, q6⟩
        | false =>
          show wpAny _ X.A (handleBy (.ref a) X.env hds2) _ _ _
          exact ih (no rfl)
    exact go hh wsh
  · cases f with
    | next =>
      obtain ⟨_, _, JT, q⟩ := hsp
      exact wpAny_execs_nil ⟨_, _, JT.ofTry okX, q⟩
    | brk =>
      obtain ⟨_, _, JT, q⟩ := hsp
      exact ⟨_, _, JT.ofTry okX, q⟩
    | cont =>
      obtain ⟨_, _, JT, q⟩ := hsp
      exact ⟨_, _, JT.ofTry okX, q⟩
    | ret u =>
      obtain ⟨_, _, _, JT, r, q⟩ := hsp
      exact ⟨_, _, _, JT.ofTry okX, r, q⟩
end

/-! ### exceptions with fields, made -/
/-- an exception's __init__ that lays its arguments as the fields ns -/
def spExc (C : Addr) (ns : List Str) : Sp := fun vs H Q _ => ∃ (a : Addr) (ws : List V), vs = .ref a :: ws ∧ ws.length = ns.length ∧ H a = some (exo a C none) ∧
  ∀ (d : Addr) (H2 : Hp), H d = none → d ≠ a → H2 a = some (exo a C (some d)) → H2 d = some (exd d (ns.zip ws).reverse) → (∀ b, b ≠ a → b ≠ d → H2 b = H b) → Q .non H2
/-- the module's name x holds the exception class at C -/
structure Xc (P : Program) (w : World) (K : PySem.W.Frag) (mg : Str → Option Value) (base : Heap) (k : Nat) (x : Str) (C : Addr) (ns : List Str) : Prop where
  ex : ∃ (fI : Addr) (fd : FuncData) (ps : List Str), OexC K C ∧ PySem.W.findIn K (.ref C) "__init__" = some (some (.ref fI)) ∧ PySem.W.typeIn K (.ref fI) = some (.type "function") ∧ FnOk P w K mg base CX0 k fI fd ps (spExc C ns) ∧ Binds K fd ps [] ∧ mg x = some (.ref C)
/-- the reading of x(e, ..) in a raise -/
def tX (C : Addr) (ns : List Str) (ta : TA) : L2.St → Hp → XK → Prop := fun σ H Q => ta σ H fun vs H1 => vs.length = ns.length ∧ vs.length ≤ 1000 ∧ ∀ d, H1 d = none → Q (.ref C) (some d) (upd H1 d (.xd (ns.zip vs).reverse))
theorem pmk_x {X : Cx} {x : Str} {C : Addr} {ns : List Str} {k j : Nat} {e : Expr} {es : List Expr} {ta : TA} {p pos : Pos} (c : Xc X.prog X.w X.K X.mg X.base k x C ns) (hr : Room j X.A) (hk : k + 1 ≤ j) (hg : Gl X x) (ha : PA X (e :: es) ta)
    (hdb : (x == ("__debug__" : Str)) = false := by decide) (he : starEach (e :: es) X.env = (false, eval e X.env) :: starEach es X.env := by rfl) (hpl : (backTo pos (starEach es X.env)).any (·.1) = false := by rfl) :
    PMk X (.Call (.Name x p) (e :: es) [] pos) (tX C ns ta) := by
  obtain ⟨fI, fd, ps, T, iC, tI, F1, hb, hm⟩ := c.ex
  intro pins s σ H Q I h
  have im : PA X (e :: es) (fun σ H Q => ∃ R : List V → Hp → Prop, ta σ H R ∧ ∀ vs H1, R vs H1 → Q vs H1) := ⟨fun pos pins s σ H Q I ⟨R, h1, h2⟩ => wpAny_mono (ha.run pos pins s σ H R I h1) (fun us s1 ⟨vs, H1, I1, r, q⟩ => ⟨vs, H1, I1, r, h2 _ _ q⟩) fun _ _ z => z⟩
  refine pmk_oex (CX := CX0) (dvs := []) T iC tI F1 (hr.mono hk) hb .nil (fun _ _ _ _ _ _ _ z => z.elim) hg hm im hdb he hpl pins s σ H Q I ⟨_, h, fun vs H1 hq => ?_⟩
  obtain ⟨hl, hz, q⟩ := hq
  refine ⟨hz, fun a na => ⟨a, vs, by rw [List.append_nil], hl, upd_same, fun d H2 nd nda ea ed same => ⟨rfl, d, _, ea, ed, ?_, ?_⟩⟩⟩
  · rw [upd_ne nda] at nd
    exact nd
  · have nd' : H1 d = none := by
      rw [upd_ne nda] at nd
      exact nd
    have e1 : upd (del H2 a) d (.xd (ns.zip vs).reverse) = upd H1 d (.xd (ns.zip vs).reverse) := by
      funext b
      by_cases hbd : b = d
      · rw [hbd, upd_same, upd_same]
      · rw [upd_ne hbd, upd_ne hbd]
        by_cases hba : b = a
        · rw [hba, del_same, na]
        · rw [del_ne hba, same b hba hbd, upd_ne hba]
    rw [e1]
    exact q d nd'
/-- what the top says of an exception's class at C with its __init__ at fI -/
structure XcF (P : Program) (K : PySem.W.Frag) (mg : Str → Option Value) (x : Str) (C fI : Addr) : Prop where
  oex : OexC K C
  ini : PySem.W.findIn K (.ref C) "__init__" = some (some (.ref fI))
  tyI : PySem.W.typeIn K (.ref fI) = some (.type "function")
  cls : ∃ cd, PySem.W.clsIn K C = some cd
  mro : PySem.W.mroIn K C (.ref C) = some true
  sup : PySem.W.ks_superIn K C C "__init__" = some (some (.builtin "ValueError.__init__"))
  sub : PySem.W.subIn K (.ref C) (.type "ValueError") = some true
  thi : PySem.W.nsIn K cStatics "thirdparty.any" = some none
  top : (P.main.scope.names.lookup ("super" : Str)).isSome = false
  nsu : mg "super" = none
  nam : mg x = some (.ref C)
/-- its code object's file -/
def FileIs (P : Program) (K : PySem.W.Frag) (cda : Addr) : Prop := ∃ ccl cdd vs0 ccs file tf, K.lookup cda = some ⟨ccl, cdd, .fields vs0, ccs⟩ ∧ vs0[2]? = some (.str file tf) ∧ ((P.main.file : Str) == file) = true
def CellIs (K : PySem.W.Frag) (cc C : Addr) : Prop := ∃ cl cld csl, K.lookup cc = some ⟨cl, cld, .cell (some (.ref C)), csl⟩
section
variable {P : Program} {w : World} {K : PySem.W.Frag} {mg : Str → Option Value} {base : Heap} {x : Str} {C f cc cda : Addr} {qual : Str} {params : Arguments} {p0 p1 apos cpos pos q1 q2 q3 q4 q5 q6 q7 q8 ps1 : Pos} {msg : Str} {j : Nat} {scope : Scope} {dV kV doc pm ct oc : Value} {an od : Option Addr} {osl : Array (Option Value)} {ar : Arg} {v v2 f1 f2 : Str}
/-- one field -/
theorem ok_x1 (T : XcF P K mg x C f)
    (lk : K.lookup f = some ⟨oc, od, .func (PySem.W.ksFn "__init__" qual params [.Expr (.Call (.Attribute (.Call (.Name "super" p0) [] [] p1) "__init__" apos) [.Constant (.str msg) j ps1] [] cpos) pos, .Assign [.Attribute (.Name "self" q1) f1 q2] (.Name v q3) q4] scope dV kV doc pm an (.ref cda) ct cc), osl⟩)
    (hcd : PySem.W.codeIn K (.ref cda) qual = true) (S : NScope ["self", v, "__class__"] ["self", v] ["__class__"] scope) (hp : (params.posonlyargs ++ params.args).head? = some ar) (har : ar.arg = "self") (hF : FileIs P K cda) (hc : CellIs K cc C)
    (hks : scope.names.lookup ("super" : Str) = some .globalImplicit) (hno : PySem.W.findIn K (.ref C) f1 = some none) (hv1 : (v == ("__debug__" : Str)) = false) (hv2 : (v == ("__classdict__" : Str)) = false) (hb : Binds K (PySem.W.ksFn "__init__" qual params [.Expr (.Call (.Attribute (.Call (.Name "super" p0) [] [] p1) "__init__" apos) [.Constant (.str msg) j ps1] [] cpos) pos, .Assign [.Attribute (.Name "self" q1) f1 q2] (.Name v q3) q4] scope dV kV doc pm an (.ref cda) ct cc) ["self", v] [])
    {pl : Env → Sem Bool} (ht : ∀ env : Env, eval (.Call (.Attribute (.Call (.Name "super" p0) [] [] p1) "__init__" apos) [.Constant (.str msg) j ps1] [] cpos) env = (do
      let ov ← attributeBase (.Call (.Name "super" p0) [] [] p1) "__init__" env (eval (.Call (.Name "super" p0) [] [] p1) env)
      standAt apos.atName
      let (f, first) ← holding [ov] (getMethod ov "__init__" (pl env))
      callWith cpos f first (backTo cpos (starEach [.Constant (.str msg) j ps1] env)) []) := by intro _; rfl) : Xc P w K mg base 1 x C [f1] := by
  obtain ⟨ccl, cdd, vs0, ccs, file, tf, h1, h2, h3⟩ := hF
  obtain ⟨cl, cld, csl, h4⟩ := hc
  obtain ⟨cd, h5⟩ := T.cls
  refine ⟨f, _, ["self", v], T.oex, T.ini, T.tyI, ?_, hb, T.nam⟩
  refine fn_sup (CX := CX0) (k := 0) (N := ["self", v, "__class__"]) lk hcd S hp (by rw [har]; rfl) h1 h2 h3 h4 h5 hks T.top T.nsu T.thi (fun vs H Q E h => ?_) (fun A outer s H vs Q E hr h => ?_) (fun _ => rfl) (fun _ => rfl) ht
  · obtain ⟨a, ws, rfl, hl, _⟩ := h
    show ws.length + 1 = 2
    rw [hl] <;> rfl
  · obtain ⟨a, ws, rfl, hl, ea, k⟩ := h
    match ws, hl with
    | [y], _ =>
      refine ⟨_, _, pa_cons pe_str pa_nil, pss_one (ps_ost (pe_var (i := 0) rfl (.inl (S.par _ (by simp)))) (pe_var (i := 1) rfl (.inl (S.par _ (by simp))) hv1 hv2)), ?_⟩
      refine ⟨a, C, rfl, T.oex, ea, T.mro, T.sup, T.sub, ?_⟩
      refine ⟨by show 1 ≤ 1000; decide, ea, ?_⟩
      refine ⟨y, rfl, .ref a, rfl, a, C, rfl, T.oex, hno, .inl ⟨ea, fun dx nd ne => ?_⟩⟩
      exact k dx _ nd ne upd_same (by rw [upd_ne ne, upd_same]; rfl) fun b h1 h2 => by rw [upd_ne h1, upd_ne h2]
/-- two fields -/
theorem ok_x2 (T : XcF P K mg x C f)
    (lk : K.lookup f = some ⟨oc, od, .func (PySem.W.ksFn "__init__" qual params [.Expr (.Call (.Attribute (.Call (.Name "super" p0) [] [] p1) "__init__" apos) [.Constant (.str msg) j ps1] [] cpos) pos, .Assign [.Attribute (.Name "self" q1) f1 q2] (.Name v q3) q4, .Assign [.Attribute (.Name "self" q5) f2 q6] (.Name v2 q7) q8] scope dV kV doc pm an (.ref cda) ct cc), osl⟩)
    (hcd : PySem.W.codeIn K (.ref cda) qual = true) (S : NScope ["self", v, v2, "__class__"] ["self", v, v2] ["__class__"] scope) (hp : (params.posonlyargs ++ params.args).head? = some ar) (har : ar.arg = "self") (hF : FileIs P K cda) (hc : CellIs K cc C)
    (hks : scope.names.lookup ("super" : Str) = some .globalImplicit) (hno : PySem.W.findIn K (.ref C) f1 = some none) (hno2 : PySem.W.findIn K (.ref C) f2 = some none) (hv1 : (v == ("__debug__" : Str)) = false) (hv2 : (v == ("__classdict__" : Str)) = false) (hw1 : (v2 == ("__debug__" : Str)) = false) (hw2 : (v2 == ("__classdict__" : Str)) = false)
    (hb : Binds K (PySem.W.ksFn "__init__" qual params [.Expr (.Call (.Attribute (.Call (.Name "super" p0) [] [] p1) "__init__" apos) [.Constant (.str msg) j ps1] [] cpos) pos, .Assign [.Attribute (.Name "self" q1) f1 q2] (.Name v q3) q4, .Assign [.Attribute (.Name "self" q5) f2 q6] (.Name v2 q7) q8] scope dV kV doc pm an (.ref cda) ct cc) ["self", v, v2] [])
    {pl : Env → Sem Bool} (ht : ∀ env : Env, eval (.Call (.Attribute (.Call (.Name "super" p0) [] [] p1) "__init__" apos) [.Constant (.str msg) j ps1] [] cpos) env = (do
      let ov ← attributeBase (.Call (.Name "super" p0) [] [] p1) "__init__" env (eval (.Call (.Name "super" p0) [] [] p1) env)
      standAt apos.atName
      let (f, first) ← holding [ov] (getMethod ov "__init__" (pl env))
      callWith cpos f first (backTo cpos (starEach [.Constant (.str msg) j ps1] env)) []) := by intro _; rfl) : Xc P w K mg base 1 x C [f1, f2] := by
  obtain ⟨ccl, cdd, vs0, ccs, file, tf, h1, h2, h3⟩ := hF
  obtain ⟨cl, cld, csl, h4⟩ := hc
  obtain ⟨cd, h5⟩ := T.cls
  refine ⟨f, _, ["self", v, v2], T.oex, T.ini, T.tyI, ?_, hb, T.nam⟩
  refine fn_sup (CX := CX0) (k := 0) (N := ["self", v, v2, "__class__"]) lk hcd S hp (by rw [har]; rfl) h1 h2 h3 h4 h5 hks T.top T.nsu T.thi (fun vs H Q E h => ?_) (fun A outer s H vs Q E hr h => ?_) (fun _ => rfl) (fun _ => rfl) ht
  · obtain ⟨a, ws, rfl, hl, _⟩ := h
    show ws.length + 1 = 3
    rw [hl] <;> rfl
  · obtain ⟨a, ws, rfl, hl, ea, k⟩ := h
    match ws, hl with
    | [y, z], _ =>
      refine ⟨_, _, pa_cons pe_str pa_nil, pss_cons (ps_ost (pe_var (i := 0) rfl (.inl (S.par _ (by simp)))) (pe_var (i := 1) rfl (.inl (S.par _ (by simp))) hv1 hv2)) (pss_one (ps_ost (pe_var (i := 0) rfl (.inl (S.par _ (by simp)))) (pe_var (i := 2) rfl (.inl (S.par _ (by simp))) hw1 hw2))), ?_⟩
      refine ⟨a, C, rfl, T.oex, ea, T.mro, T.sup, T.sub, ?_⟩
      refine ⟨by show 1 ≤ 1000; decide, ea, ?_⟩
      refine ⟨y, rfl, .ref a, rfl, a, C, rfl, T.oex, hno, .inl ⟨ea, fun dx nd ne => ?_⟩⟩
      refine ⟨z, rfl, .ref a, rfl, a, C, rfl, T.oex, hno2, .inr ⟨dx, _, upd_same, by rw [upd_ne ne, upd_same], by show 1 ≤ 900; decide, ?_⟩⟩
      exact k dx _ nd ne (by rw [upd_ne (Ne.symm ne), upd_same]) (by rw [upd_same]; rfl) fun b h1 h2 => by rw [upd_ne h2, upd_ne h1, upd_ne h2]
end
end SB

/-! A def that tells what the handed lambda raises: («name», fields ..) or None. -/
namespace SB
open PySem PySem.Spec PyProof.Rows L2 NdefX LamX
/-- a clause: the class, the told name, the told fields -/
abbrev Rc := Addr × Str × List Str
/-- what is told of an exception with the dict at d -/
def ToldX (d : Option Addr) (H : Hp) (nm : Str) (fs : List Str) (Q : VK) : Prop := ∃ (dd : Addr) (kvs : List (Str × V)) (vs : List V), d = some dd ∧ H dd = some (.xd kvs) ∧ fs.map (fun f => kvs.lookup f) = vs.map some ∧ vs.length ≤ 10 ∧ ∀ p, H p = none → Q (.ref p) (upd H p (.tup (.str nm :: vs)))
def RfW (L : List Rc) (Q : VK) : XK := fun cls d H => ∃ (C : Addr) (nm : Str) (fs : List Str), (C, nm, fs) ∈ L ∧ cls = .ref C ∧ ToldX d H nm fs Q
def TTref (L : List Rc) : (XK → Hp → VK → Prop) → Hp → VK → Prop := fun tl H Q => tl (RfW L Q) H fun _ H' => Q .non H'
def taF (a : Addr) (cls : Value) (d : Option Addr) (C : Addr) : List Str → TA
  | [] => tNil
  | f :: r => tCons (tXf a cls d C f (tVar 1)) (taF a cls d C r)
def tsR (r : Rc) (a : Addr) (cls : Value) (d : Option Addr) : TS := tRet (tTup (tCons (tC (.str r.2.1)) (taF a cls d r.1 r.2.2)))
theorem taF_ok {a C dd : Addr} {d : Option Addr} {kvs : List (Str × V)} {H : Hp} {σ : L2.St} (hd : d = some dd) (hH : H dd = some (.xd kvs)) (hσ : σ[1]? = some (some (.ref a))) : ∀ {fs : List Str} {vs : List V} {Q : List V → Hp → Prop}, fs.map (fun f => kvs.lookup f) = vs.map some → Q vs H → taF a (.ref C) d C fs σ H Q
  | [], [], _, _, q => q
  | [], _ :: _, _, h, _ => by simp at h
  | _ :: _, [], _, h, _ => by simp at h
  | f :: fs, v :: vs, Q, h, q => by
    have h' : kvs.lookup f = some v ∧ fs.map (fun f => kvs.lookup f) = vs.map some := by
      rw [List.map_cons, List.map_cons] at h
      injection h with h1 h2
      exact ⟨h1, h2⟩
    exact ⟨.ref a, hσ, rfl, rfl, dd, kvs, v, hd, hH, h'.1, taF_ok hd hH hσ h'.2 q⟩
/-- the clauses tell each other apart -/
def exAll (K : PySem.W.Frag) (Cs : List Addr) : Bool := Cs.all fun c => Cs.all fun c' => decide (PySem.W.exmOne K (.ref c) (.ref c') = some (decide (c = c')))
theorem exAll_at {K : PySem.W.Frag} {Cs : List Addr} (h : exAll K Cs = true) {c c' : Addr} (h1 : c ∈ Cs) (h2 : c' ∈ Cs) : PySem.W.exmOne K (.ref c) (.ref c') = some (decide (c = c')) :=
  of_decide_eq_true (List.all_eq_true.mp (List.all_eq_true.mp h c h1) c' h2)
theorem many_of {K : PySem.W.Frag} {Wout : WX} {D : Ends} {Q : VK} {C : Addr} {nm : Str} {fs : List Str} {d : Option Addr} {σ : L2.St} {H : Hp} (hσ : 1 < σ.length) (ht : ToldX d H nm fs Q) (hD : D.rt = Q) :
    ∀ (L : List Rc), (∀ r ∈ L, PySem.W.exmOne K (.ref C) (.ref r.1) = some (decide (C = r.1))) → (L.map (·.1)).Nodup → (C, nm, fs) ∈ L → wManyAs K 1 Wout D (L.map fun r => (Value.ref r.1, tsR r)) (.ref C) d σ H
  | [], _, _, hm => nomatch hm
  | r :: L, he, hn, hm => by
    refine ⟨decide (C = r.1), he r List.mem_cons_self, fun hb a na => ?_, fun hb => ?_⟩
    · have e : C = r.1 := of_decide_eq_true hb
      have er : r = (C, nm, fs) := by
        rcases List.mem_cons.mp hm with z | z
        · exact z.symm
        · have : C ∈ L.map (·.1) := List.mem_map.mpr ⟨_, z, rfl⟩
          rw [List.map_cons] at hn
          exact absurd (e ▸ this) (List.nodup_cons.mp hn).1
      subst er
      obtain ⟨dd, kvs, vs, h1, h2, h3, hl, h4⟩ := ht
      show tTup (tCons (tC (.str nm)) (taF a (.ref C) d C fs)) (σ.set 1 (some (.ref a))) H D.rt
      rw [hD]
      refine taF_ok h1 h2 (by rw [List.getElem?_set_self hσ]) h3 ⟨?_, h4⟩
      show vs.length + 1 ≤ sizeLine
      exact Nat.le_trans (show vs.length + 1 ≤ 11 by omega) (by decide)
    · have e : ¬ C = r.1 := of_decide_eq_false hb
      have hm' : (C, nm, fs) ∈ L := by
        rcases List.mem_cons.mp hm with z | z
        · exact absurd (by rw [← z]) e
        · exact z
      exact many_of hσ ht hD L (fun r hr => he r (List.mem_cons_of_mem _ hr)) (List.nodup_cons.mp (by rw [← List.map_cons]; exact hn)).2 hm'
theorem takes_len {X : Cx} {W : WX} (tk : Takes X W) : Takes X (fun cls d σ H => σ.length = X.N.length → W cls d σ H) := fun u s' ⟨a, B, sI, pins, σ, H, cls, d, e, I, nb, up, sky, na, os, ag, w⟩ => tk u s' ⟨a, B, sI, pins, σ, H, cls, d, e, I, nb, up, sky, na, os, ag, w I.len⟩
/-- the clause of one field, of two fields -/
theorem hd1 {X : Cx} {K : PySem.W.Frag} {x nm f1 n : Str} {C : Addr} {np pos' p1 p2 p3 p4 p5 : Pos} {j j2 : Nat} {hds : List ExceptHandler} {l : List (Value × (Addr → Value → Option Addr → TS))} (hK : X.K = K) (hN : X.N[1]? = some n) (hv : Vis X.env.scope n) (hc : Names X x (.ref C)) (T : XfC K C) (hno : PySem.W.findIn K (.ref C) f1 = some none)
    (hd : (n == ("__debug__" : Str)) = false) (hcd : (n == ("__classdict__" : Str)) = false) (r : HdsAs X n hds l) :
    HdsAs X n (.ExceptHandler (some (.Name x np)) (some n) [.Return (some (.Tuple [.Constant (.str nm) j p1, .Attribute (.Name n p2) f1 p3] j2 p4)) p5] pos' :: hds) ((.ref C, tsR (C, nm, [f1])) :: l) := by
  subst hK
  refine .cons hc (fun a oe cls d pn hz hf => ?_) r
  exact pss_one (ps_ret (pe_tup (pa_cons pe_str (pa_cons (pe_xf T hno hz hf (pe_var (i := 1) hN hv hd hcd)) pa_nil))))
theorem hd2 {X : Cx} {K : PySem.W.Frag} {x nm f1 f2 n : Str} {C : Addr} {np pos' p1 p2 p3 p4 p5 p6 p7 : Pos} {j j2 : Nat} {hds : List ExceptHandler} {l : List (Value × (Addr → Value → Option Addr → TS))} (hK : X.K = K) (hN : X.N[1]? = some n) (hv : Vis X.env.scope n) (hc : Names X x (.ref C)) (T : XfC K C) (hno : PySem.W.findIn K (.ref C) f1 = some none) (hno2 : PySem.W.findIn K (.ref C) f2 = some none)
    (hd : (n == ("__debug__" : Str)) = false) (hcd : (n == ("__classdict__" : Str)) = false) (r : HdsAs X n hds l) :
    HdsAs X n (.ExceptHandler (some (.Name x np)) (some n) [.Return (some (.Tuple [.Constant (.str nm) j p1, .Attribute (.Name n p2) f1 p3, .Attribute (.Name n p6) f2 p7] j2 p4)) p5] pos' :: hds) ((.ref C, tsR (C, nm, [f1, f2])) :: l) := by
  subst hK
  refine .cons hc (fun a oe cls d pn hz hf => ?_) r
  exact pss_one (ps_ret (pe_tup (pa_cons pe_str (pa_cons (pe_xf T hno hz hf (pe_var (i := 1) hN hv hd hcd)) (pa_cons (pe_xf T hno2 hz hf (pe_var (i := 1) hN hv hd hcd)) pa_nil)))))
/-- try: a() / except .. as e: return (..) / return None -/
theorem ref_gives {X : Cx} {Ng : List Str} {x a n q : Str} {sg : Scope} {g : Addr} {cdg : Value} {p1 p2 p3 p4 p5 p6 : Pos} {j : Nat} {h₀ : ExceptHandler} {hds : List ExceptHandler} {L : List Rc} (hNg : Ng = [a, n]) (hnd : Ng.Nodup) (hln : sg.names.lookup n = some .local)
    (hex : exAll X.K (L.map (·.1)) = true) (hL : (L.map (·.1)).Nodup)
    (hh : ∀ (s : Shared) (H : Hp), HdsAs (cxOf C8.CX0 X.prog X.w X.K X.mg X.base Ng x sg g cdg X.A X.stack s H C8.E0).nox n (h₀ :: hds) (L.map fun r => (Value.ref r.1, tsR r)))
    (hs : ∀ env : Env, swapsWith (.Call (.Name a p1) [] [] p2) none p3.line env = pure false) :
    GivesTo X Ng x sg g cdg [.Try [.Expr (.Call (.Name a p1) [] [] p2) p3] (h₀ :: hds) [] [] p4, .Return (some (.Constant .none j p5)) p6] a q (TTref L) := by
  subst hNg
  intro f c' s H Q tl act hc h
  refine ⟨_, pss_cons (ps_try_manyAs (X := (cxOf C8.CX0 X.prog X.w X.K X.mg X.base [a, n] x sg g cdg X.A X.stack s H C8.E0).nox) (i := 1) (l := L.map fun r => (Value.ref r.1, tsR r))
      (tb := fun W D σ H => ∃ Ech : XK, (∀ cls d σ' H', Ech cls d H' → σ'.length = 2 → W cls d σ' H') ∧ σ[0]? = some (some (.ref f)) ∧ H c' = some (CodeO c' q) ∧ tl Ech H fun _ H' => D.nx σ H')
      rfl rfl hnd rfl hln takes0 (fun W pn xe tk _ => ?_) (hh s H)) (pss_one (ps_ret pe_non)), ?_⟩
  · refine ⟨fun pins s' σ H' D I h' => ?_⟩
    obtain ⟨Ech, hW, h1, h2, h3⟩ := h'
    have hp := act (fun cls d σ H => σ.length = 2 → W cls d σ H) pn xe Ech p1 p2 (takes_len tk) hW
    have hq := pss_one (ps_expr (pos := p3) hp (hs _))
    exact hq.run pins s' σ H' D I ⟨h1, h2, h3⟩
  · refine ⟨RfW L Q, fun cls d σ' H' hw hl => ?_, rfl, hc, h⟩
    obtain ⟨C, nm, fs, hm, rfl, ht⟩ := hw
    refine many_of (Q := Q) (by omega) ht rfl L (fun r hr => exAll_at hex (List.mem_map.mpr ⟨_, hm, rfl⟩) (List.mem_map.mpr ⟨_, hr, rfl⟩)) hL hm
/-- the module's name x holds a def that calls what it gets and tells what that raises -/
structure Rf (P : Program) (w : World) (K : PySem.W.Frag) (mg : Str → Option Value) (base : Heap) (x : Str) (L : List Rc) : Prop where
  ex : ∃ (g : Addr) (oc : Value) (od : Option Addr) (osl : Array (Option Value)) (pg : Arguments) (bg : List Stmt) (sg : Scope) (dV kV doc pm cdv ct : Value) (an : Option Addr) (a : Str) (Ng : List Str),
    mg x = some (.ref g) ∧ PySem.W.keepIn K (.ref g) = true ∧ K.lookup g = some ⟨oc, od, .func (PySem.W.fnOf x x pg bg sg dV kV doc pm an cdv ct), osl⟩ ∧ PySem.W.codeIn K cdv x = true ∧ L2.Binds K (PySem.W.fnOf x x pg bg sg dV kV doc pm an cdv ct) [a] [] ∧
    FnScope Ng [a] sg ∧ Ng[0]? = some a ∧ Vis sg a ∧ (a == ("__debug__" : Str)) = false ∧ (a == ("__classdict__" : Str)) = false ∧
    ∀ (X : Cx) (q : Str), X.prog = P → X.w = w → X.K = K → X.mg = mg → X.base = base → GivesTo X Ng x sg g cdv bg a q (TTref L)
theorem pe_rf {X : Cx} {T : List (Addr × Str)} {x : Str} {c P : Addr} {k j : Nat} {L : List Rc} {params : Arguments} {body : Expr} {scope : Scope} {t : XK → TE} {p lpos pos : Pos} (R : Rf X.prog X.w X.K X.mg X.base x L) (hg : Gl X x)
    (TB : TabB X.base X.mg c P) (hcode : X.env.code = .ref c) (hmT : (P, X.env.qual ++ "<lambda>") ∈ T) (hu : ∀ p ∈ T, p.1 = P → p.2 = X.env.qual ++ "<lambda>") (hr : Room j X.A) (hk : k + 2 ≤ j) (Ls : LamS X.env.scope scope) (hdef : defaultsOf params X.env = ([], []))
    (hbind : ∀ (q : Str) (cl : List (Str × Addr)) (pm cv ctv : Value), bindArgs (PySem.W.kla_fn "<lambda>" q params body scope cl pm cv ctv) ⟨[], []⟩ = pure [])
    (hbody : ∀ (A : Around) (outer : List Env) (s : Shared) (H : Hp) (E : XK) (f c' : Addr), Room k (A.deeper (lamEnv X scope s.heap.objs.size f c')) → PE (lamCx X A outer s H E scope f c') body (t E))
    (hdb : (x == ("__debug__" : Str)) = false := by decide) : PE X (.Call (.Name x p) [.Lambda params body scope lpos] [] pos) (tLam T (TTref L) t) := by
  obtain ⟨g, oc, od, osl, pg, bg, sg, dV, kV, doc, pm, cdv, ct, an, a, Ng, hm, hkp, lk, hcg, hb, Sg, hNg, hva, h1, h2, hG⟩ := R.ex
  exact pe_lamcall hg hm hkp lk hcg hb Sg hNg hva (hG X _ rfl rfl rfl rfl rfl) TB hcode hmT hu (hr.mono hk) Ls hdef hbind hbody hdb h1 h2
/-! ### defs that may raise; defs that make lambdas -/
theorem passF {X : Cx} : Passes (L2.CX X.prog X.w) X (fun _ _ _ => False) := fun _ _ _ _ _ _ _ ⟨_, _, _, _, _, _, _, _, _, _, _, _, z⟩ => z.elim
theorem passL {X : Cx} {E : XK} {E₁ : Value → Shared → Prop} (hs : X.stack = X.env :: X.outer) (hf : X.env.frame = some X.env.locals) (hex : X.ex = [])
    (hx : X.xe = fun e s' => wpAny (model X.prog X.w) X.A (leaving X.env e) (fun _ s'' => L2.CX X.prog X.w X.outer X.H_0 X.s_0 E e s'') E₁ s') : Passes (L2.CX X.prog X.w) X E := passes_call (takes_of hs hf hex hx) fun _ _ _ _ h => h
section
variable {P : Program} {w : World} {K : PySem.W.Frag} {mg : Str → Option Value} {base : Heap} {x qual : Str} {st : Stmt} {f c : Addr} {fd : FuncData} {N ps : List Str} {k : Nat} {sp : Sp}
/-- a def that may let exceptions out -/
theorem okX {CX : CXT} (F : Fun K x qual st f fd) (S : FnScope N ps (defScope st)) (len : ∀ vs H Q E, sp vs H Q E → vs.length = ps.length)
    (hbody : ∀ (cdv : Value) (A : Around) (outer : List Env) (s : Shared) (H : Hp) (vs : List V) (Q : VK) (E : XK), Room k (A.deeper (envOfC qual (defScope st) s.heap.objs.size f cdv)) → sp vs H Q E →
      ∃ t, PSs (cxOf CX P w K mg base N qual (defScope st) f cdv A outer s H E) (defBody st) t ∧ t { nx := fun _ H' => Q .non H', rt := Q } (start N vs) H) : FnOk P w K mg base CX (k + 1) f fd ps sp := by
  obtain ⟨oc, od, kV, doc, pm, an, cdv, ct, osl, rfl, lk, hcd⟩ := F.ex
  exact fn_of lk hcd S len fun A outer s H vs Q E hr hsp => hbody cdv A outer s H vs Q E hr hsp
theorem fnrX {CX : CXT} (F : Fun K x qual st f fd) (S : FnScope N ps (defScope st)) (len : ∀ vs H Q E, sp vs H Q E → vs.length = ps.length)
    (hb : ∀ (kV doc pm : Value) (an : Option Addr) (cdv ct : Value) (us : List Value), us.length = ps.length → bindArgs (PySem.W.fnOf x qual (defArgs st) (defBody st) (defScope st) .none kV doc pm an cdv ct) ⟨us, []⟩ = pure (ps.zip us))
    (hbody : ∀ (cdv : Value) (A : Around) (outer : List Env) (s : Shared) (H : Hp) (vs : List V) (Q : VK) (E : XK), Room k (A.deeper (envOfC qual (defScope st) s.heap.objs.size f cdv)) → sp vs H Q E →
      ∃ t, PSs (cxOf CX P w K mg base N qual (defScope st) f cdv A outer s H E) (defBody st) t ∧ t { nx := fun _ H' => Q .non H', rt := Q } (start N vs) H) : FnR P w K mg base CX (k + 1) f sp :=
  FnOk.r (okX F S len hbody) (F.binds hb)
/-- a def that makes lambdas: its code object stands at c -/
theorem okC (F : Fun K x qual st f fd) (hc : fd.code = .ref c) (S : FnScope N ps (defScope st)) (len : ∀ vs H Q E, sp vs H Q E → vs.length = ps.length)
    (hbody : ∀ (A : Around) (outer : List Env) (s : Shared) (H : Hp) (vs : List V) (Q : VK) (E : XK), Room k (A.deeper (envOfC qual (defScope st) s.heap.objs.size f (.ref c))) → sp vs H Q E →
      ∃ t, PSs (cxOf CX0 P w K mg base N qual (defScope st) f (.ref c) A outer s H E).nox (defBody st) t ∧ t { nx := fun _ H' => Q .non H', rt := Q } (start N vs) H) : FnOk P w K mg base CX0 (k + 1) f fd ps sp := by
  obtain ⟨oc, od, kV, doc, pm, an, cdv, ct, osl, rfl, lk, hcd⟩ := F.ex
  have e : cdv = .ref c := hc
  subst e
  refine fn_of lk hcd S len fun A outer s H vs Q E hr hsp => ?_
  obtain ⟨t, h, q⟩ := hbody A outer s H vs Q E hr hsp
  exact ⟨t, h.nox, q⟩
theorem fnrC (F : Fun K x qual st f fd) (hc : fd.code = .ref c) (S : FnScope N ps (defScope st)) (len : ∀ vs H Q E, sp vs H Q E → vs.length = ps.length)
    (hb : ∀ (kV doc pm : Value) (an : Option Addr) (cdv ct : Value) (us : List Value), us.length = ps.length → bindArgs (PySem.W.fnOf x qual (defArgs st) (defBody st) (defScope st) .none kV doc pm an cdv ct) ⟨us, []⟩ = pure (ps.zip us))
    (hbody : ∀ (A : Around) (outer : List Env) (s : Shared) (H : Hp) (vs : List V) (Q : VK) (E : XK), Room k (A.deeper (envOfC qual (defScope st) s.heap.objs.size f (.ref c))) → sp vs H Q E →
      ∃ t, PSs (cxOf CX0 P w K mg base N qual (defScope st) f (.ref c) A outer s H E).nox (defBody st) t ∧ t { nx := fun _ H' => Q .non H', rt := Q } (start N vs) H) : FnR P w K mg base CX0 (k + 1) f sp :=
  FnOk.r (okC F hc S len hbody) (F.binds hb)
end
/-! ### an instance called, with a reading that names no context -/
def tCallK (C : Addr) (sp : Sp) (E : XK) (tf : TE) (t : TA) : TE := fun σ H Q => tf σ H fun y H1 => ∃ a, y = V.ref a ∧ t σ H1 fun vs H2 => (∃ dx fs, H2 a = some (.ins C dx fs)) ∧ sp (V.ref a :: vs) H2 Q E
theorem pe_caK {X : Cx} {CX : CXT} {k j : Nat} {C : Addr} {sp : Sp} {E : XK} {pos : Pos} {e fe : Expr} {es : List Expr} {tf : TE} {t : TA} (hf : PE X fe tf) (c : Ca X.prog X.w X.K X.mg X.base CX k C sp) (hr : Room j X.A) (hk : k ≤ j) (hx : Passes CX X E) (ha : PA X (e :: es) t)
    (ht : eval (.Call fe (e :: es) [] pos) X.env = (do callWith pos (← eval fe X.env) [] (backTo pos (starEach (e :: es) X.env)) (backToKw pos (keywordEach [] X.env))) := by rfl)
    (he : starEach (e :: es) X.env = (false, eval e X.env) :: starEach es X.env := by rfl) (hpl : (backTo pos (starEach es X.env)).any (·.1) = false := by rfl) : PE X (.Call fe (e :: es) [] pos) (tCallK C sp E tf t) := by
  have hf2 : PE X fe (fun σ H Q => ∃ R : V → Hp → Prop, tf σ H R ∧ ∀ v H1, R v H1 → Q v H1) := ⟨fun pins s σ H Q I ⟨R, h1, h2⟩ => wpAny_mono (hf.run pins s σ H R I h1) (fun us s1 ⟨v, H1, I1, r, q⟩ => ⟨v, H1, I1, r, h2 _ _ q⟩) fun _ _ z => z⟩
  have ha2 : PA X (e :: es) (fun σ H Q => ∃ R : List V → Hp → Prop, t σ H R ∧ ∀ vs H1, R vs H1 → Q vs H1) := ⟨fun pos pins s σ H Q I ⟨R, h1, h2⟩ => wpAny_mono (ha.run pos pins s σ H R I h1) (fun us s1 ⟨vs, H1, I1, r, q⟩ => ⟨vs, H1, I1, r, h2 _ _ q⟩) fun _ _ z => z⟩
  have m := pe_ca hf2 c hr hk hx ha2 ht he hpl
  refine ⟨fun pins s σ H Q I h => m.run pins s σ H Q I ⟨_, h, ?_⟩⟩
  rintro v H1 ⟨a, ea, q⟩
  exact ⟨a, ea, _, q, fun vs H2 ⟨⟨dx, fs, hi⟩, hs⟩ => ⟨.inr ⟨dx, fs, hi⟩, hs⟩⟩
end SB

/-! own containers: x in o, len(o), o[i], o == any value, o != o2. -/
namespace SB
open PySem PySem.Spec PyProof.Rows L2
section
variable {X : Cx} {CX : CXT} {k j : Nat} {C : Addr} {x m : Str} {sp : Sp} {E : XK} {p pos apos : Pos} {e o : Expr} {es : List Expr} {ta tb : TE} {t : TA}
/-- the callee runs, one C call deeper -/
theorem run_fnR1 {pins : List (Addr × Obj)} {σ : L2.St} {H : Hp} {s : Shared} {f : Addr} {Q : VK} {us : List Value} {vs : List V} (F : FnR X.prog X.w X.K X.mg X.base CX k f sp) (hr : Room (k + 1) X.A) (hx : Passes CX X E) (I : Inv X pins σ H s) (r : Vals vs us) (h : sp vs H Q E) :
    codeAny (model X.prog X.w) X.A.in1 (.call (.ref f) ⟨us, []⟩) (fun r s' => match r with | .ok (.ret v) => EP X pins σ Q v s' | .ok _ => False | .error e => X.xe e s') s := by
  refine codeAny_mono (F X.A.in1 X.stack s H us vs Q E hr.in1 I.env0.in1 r h) fun r s' hq => ?_
  cases r with
  | error e => exact hx pins σ H s e s' I hq
  | ok fl =>
    cases fl with
    | ret u => exact I.after hq
    | next => exact False.elim hq
    | brk => exact False.elim hq
    | cont => exact False.elim hq
def rOwnIn (neg : Bool) (C : Addr) (sp : Sp) (E : XK) : R2 := fun x y H Q => ∃ a dx fs, y = .ref a ∧ H a = some (.ins C dx fs) ∧ sp [y, x] H (fun v H' => ∃ b, v = .bl b ∧ Q (.bl (if neg then !b else b)) H') E
/-- x in o, o an instance of C with a __contains__ of its own -/
theorem op_ownIn (c : Me X.prog X.w X.K X.mg X.base CX k C "__contains__" sp) (hr : Room j X.A) (hk : k ≤ j) (hx : Passes CX X E) : OpR X (compareOp .In) (rOwnIn false C sp E) := by
  obtain ⟨g, F, hs, hf, _⟩ := c.ex
  intro pins s σ H x y v u Q I rx ry h
  obtain ⟨a, dx, fs, rfl, ha, q⟩ := h
  cases (show u = Value.ref a from ry)
  obtain ⟨ox, od, J⟩ := inst_at I ha
  obtain ⟨m, hF⟩ := I.fr
  refine PySem.W.in_K hF I.ok.mod.kin J hs hf ?_
  refine wpAny_mono (wpAny_call (run_fnR (us := [.ref a, v]) (vs := [.ref a, x]) F (hr.mono hk) hx I (.cons rfl (.cons rx .nil)) q)) (fun w s' z => ?_) fun _ _ x => x
  obtain ⟨_, H', I', rz, b, rfl, q'⟩ := z
  cases rz
  exact wpAny_truthy_bool ⟨.bl b, H', I', rfl, q'⟩
def rOwnLen (C : Addr) (sp : Sp) (E : XK) : List V → Hp → VK → Prop := fun xs H Q => ∃ a dx fs, xs = [.ref a] ∧ H a = some (.ins C dx fs) ∧ sp [.ref a] H (fun v H' => ∃ n : Nat, v = .int (n : Int) ∧ n < 2 ^ 63 ∧ Q (.int (n : Int)) H') E
/-- len(o) -/
theorem call_ownLen (c : Me X.prog X.w X.K X.mg X.base CX k C "__len__" sp) (hr : Room j X.A) (hk : k + 1 ≤ j) (hx : Passes CX X E) : CallR X (.builtin "len") (rOwnLen C sp E) := by
  obtain ⟨g, F, hs, hf, _⟩ := c.ex
  intro pins s σ H xs us Q I r h
  obtain ⟨a, dx, fs, rfl, ha, q⟩ := h
  obtain ⟨u, rfl, ru⟩ := r.one
  cases (show u = Value.ref a from ru)
  obtain ⟨ox, od, J⟩ := inst_at I ha
  obtain ⟨m, hF⟩ := I.fr
  refine PySem.W.len_K hF I.ok.mod.kin J hs hf ?_
  refine wpAny_mono (wpAny_call (run_fnR1 (us := [.ref a]) (vs := [.ref a]) F (hr.mono hk) hx I (.cons rfl .nil) q)) (fun w s' z => ?_) fun _ _ x => x
  obtain ⟨_, H', I', rz, n, rfl, hn, q'⟩ := z
  obtain ⟨t, rfl⟩ := rz
  exact ⟨⟨by omega, by omega⟩, ⟨.int n, H', I'.tok _, ⟨_, rfl⟩, q'⟩⟩
def rOwnIx (C : Addr) (sp : Sp) (E : XK) : R2 := fun x y H Q => ∃ a dx fs, x = .ref a ∧ H a = some (.ins C dx fs) ∧ sp [x, y] H Q E
/-- o[i] -/
theorem pe_ixO (c : Me X.prog X.w X.K X.mg X.base CX k C "__getitem__" sp) (hr : Room j X.A) (hk : k + 1 ≤ j) (hx : Passes CX X E) {a b : Expr} (ha : PE X a ta) (hb : PE X b tb) (hfn : ∀ g, PySem.W.findIn X.K (.ref C) "__getitem__" = some (some (.ref g)) → PySem.W.fnIn X.K g = true)
    (hsl : ∀ v u : Value, subscripted b true v u = runValue (.builtin "lifetime.subscript" ⟨[v, u], []⟩) := by intro _ _; rfl) : PE X (.Subscript a b pos) (tOp (rOwnIx C sp E) ta tb) := by
  obtain ⟨g, F, hs, hf, _⟩ := c.ex
  refine ⟨fun pins s σ H Q I h => ?_⟩
  refine Subscript_ (binT ha hb I h fun v u s2 x y H2 I2 rx ry q => ?_)
  obtain ⟨ad, dx, fs, rfl, had, q⟩ := q
  cases (show v = Value.ref ad from rx)
  obtain ⟨ox, od, J⟩ := inst_at I2 had
  obtain ⟨m, hF⟩ := I2.fr
  refine PySem.W.sub_K hF I2.ok.mod.kin J hs (hfn g hs) hf ?_ (hsl _ _)
  exact wpAny_call (run_fnR1 (us := [.ref ad, u]) (vs := [.ref ad, y]) F (hr.mono hk) hx I2 (.cons rfl (.cons ry .nil)) q)
def rOwnEqX (K : PySem.W.Frag) (C : Addr) (sp : Sp) (E : XK) : R2 := fun x y H Q => ∃ a dx fs t, x = .ref a ∧ H a = some (.ins C dx fs) ∧ TyX K H y t ∧ PySem.W.notFirst K C t = true ∧ sp [x, y] H Q E
/-- o == y, y of any kind -/
theorem op_ownEqX (c : Me X.prog X.w X.K X.mg X.base CX k C "__eq__" sp) (hr : Room j X.A) (hk : k ≤ j) (hx : Passes CX X E) : OpR X (compareOp .Eq) (rOwnEqX X.K C sp E) := by
  obtain ⟨g, F, hs, hf, _⟩ := c.ex
  intro pins s σ H x y v u Q I rx ry h
  obtain ⟨a, dx, fs, t, rfl, ha, ty, hn, q⟩ := h
  cases (show v = Value.ref a from rx)
  obtain ⟨ox, od, J⟩ := inst_at I ha
  obtain ⟨P, Z, p, _⟩ := kit_of I ry ty
  obtain ⟨m, hF⟩ := I.fr
  show wpAny _ _ (richCompare .Eq (.ref a) u) _ _ _
  refine PySem.W.cmp_K (op := .Eq) (tb := t) hr.units0 hF I.ok.mod.kin J (Z.ty _ _ I.kIn p) hn hs hf ?_
  refine wpAny_mono (wpAny_call (run_fnR (us := [.ref a, u]) (vs := [.ref a, y]) F (hr.mono hk) hx I (.cons rfl (.cons ry .nil)) q)) (fun w s' z => ?_) fun _ _ x => x
  exact cmpback z
end

section
variable {M : Model} {prog : Program} {w : World} {A : Around} {E : Value → Shared → Prop} {s : Shared} {K : PySem.W.Frag} {x C f : Addr} {ox : Obj} {od : Option Obj}
theorem ifBound_objNe {args : List Value} {Q : Option Value → Shared → Prop} (X : K.In s.heap) (I : PySem.W.InstAt s.heap x ox C od) (hs : PySem.W.findIn K (.ref C) "__ne__" = some (some (.builtin "object.__ne__")))
    (h : wpAny M A (call (.builtin "object.__ne__") (.ref x :: args)) (fun v => Q (some v)) E s) : wpAny M A (callSpecialIfBound? (.ref x) "__ne__" args) Q E s := by
  simp only [callSpecialIfBound?, bindSpecialIfBound?]
  refine wpAny_holding (wpAny_bind (wpAny_bind (wpAny_bind (I.type.here ((PySem.W.looks_findIn X hs).here ?_)))))
  refine wpAny_bind (wpAny_askSetting (wpAny_ite ?_))
  have fin : wpAny M A (call (.builtin "object.__ne__") ([.ref x] ++ args) >>= fun v => pure (some v)) Q E s := wpAny_bind (wpAny_mono h (fun v s' h' => wpAny_pure h') fun _ _ h' => h')
  split
  · exact wpAny_bind (wpAny_of_eq (F.cmp_object.ne.bind _) (wpAny_pure (by exact fin)))
  · exact wpAny_tryCatch (wpAny_bind (wpAny_of_eq (F.cmp_object.ne.bind _) (wpAny_pure (by exact fin))))
theorem objNe_entry {b : Value} {Q : Fin → Shared → Prop} (hu : A.units < cLine) (X : K.In s.heap) (I : PySem.W.InstAt s.heap x ox C od) (hs : PySem.W.findIn K (.ref C) "__eq__" = some (some (.ref f))) (hf : PySem.W.isFn K (.ref f) = true)
    (h : wpAny M A (call (.ref f) [.ref x, b]) (fun v s' => ∃ c, v = .bool c ∧ Q (.done (.ret (.bool (!c)))) s') E s) : wpAny M A (Builtin.«object.__ne__» ⟨[.ref x, b], []⟩) Q E s := by
  unfold Builtin.«object.__ne__»
  repeat (first | with_reducible refine wpAny_cRoomFor hu ?_ | with_reducible refine PySem.W.ifBound_K X I hs hf (wpAny_mono h (fun v s' z => ?_) fun _ _ e => e) | wp_step)
  obtain ⟨c, rfl, q⟩ := z
  exact wpAny_bind (wpAny_truthy_bool (wpAny_pure q))
theorem richNe_K {b tb : Value} {Q : Value → Shared → Prop} (hu : A.units + 1 < cLine) (X : K.In s.heap) (I : PySem.W.InstAt s.heap x ox C od) (hb : PySem.W.Looks (model prog w) s.heap (typeOf b) tb) (hn : PySem.W.notFirst K C tb = true) (hm : PySem.W.mroIn K C (.type "object") = some true)
    (hne : PySem.W.findIn K (.ref C) "__ne__" = some (some (.builtin "object.__ne__"))) (hs : PySem.W.findIn K (.ref C) "__eq__" = some (some (.ref f))) (hf : PySem.W.isFn K (.ref f) = true)
    (h : wpAny (model prog w) A.in1 (call (.ref f) [.ref x, b]) (fun v s' => ∃ c, v = .bool c ∧ Q (.bool (!c)) s') E s) : wpAny (model prog w) A (richCompare .NotEq (.ref x) b) Q E s := by
  have hu0 : A.units < cLine := Nat.lt_of_succ_lt hu
  have one : wpAny (model prog w) A (tryCompare (.ref x) "__ne__" b) (fun r s' => ∃ v, r = some v ∧ Q v s') E s := by
    unfold tryCompare
    refine wpAny_bind (ifBound_objNe X I hne (wpAny_call (codeAny_call_builtin F.cmp_object.ne.plain F.cmpEntry_ne (PySem.W.check_slot F.cmpKind_ne F.cmpSplit_ne (I.type.andThen (PySem.W.looks_mroIn X hm)) (F.cmpArgs_ne _ _) (objNe_entry (A := A.in1) hu X I hs hf ?_)))))
    refine wpAny_mono h (fun v s' z => ?_) fun _ _ e => e
    obtain ⟨c, rfl, q⟩ := z
    exact ⟨c, rfl, wpAny_pure ⟨_, rfl, q⟩⟩
  simp only [richCompare, cmpInfo_NotEq, oneThing_ref]
  refine wpAny_holding (wpAny_bind (wpAny_cRoomFor hu0 ?_))
  refine wpAny_bind (I.type.here (wpAny_bind (hb.here ?_)))
  split
  · rename_i q
    have e : PySem.W.subIn K tb (.ref C) = some false := by
      rcases Bool.or_eq_true_iff.mp hn with e | e
      · rw [beq_iff_eq.mp e] at q; simp at q
      · exact beq_iff_eq.mp e
    refine wpAny_bind ((PySem.W.looks_subIn X e).here ?_)
    simp only [Bool.false_eq_true, if_false]
    refine wpAny_bind (wpAny_mono one (fun r s' z => ?_) fun _ _ e => e)
    obtain ⟨v, rfl, hq⟩ := z
    exact wpAny_pure hq
  · refine wpAny_bind (wpAny_pure ?_)
    simp only [Bool.false_eq_true, if_false]
    refine wpAny_bind (wpAny_mono one (fun r s' z => ?_) fun _ _ e => e)
    obtain ⟨v, rfl, hq⟩ := z
    exact wpAny_pure hq
end
section
variable {X : Cx} {CX : CXT} {k j : Nat} {C : Addr} {sp : Sp} {E : XK}
def rOwnNe (C : Addr) (sp : Sp) (E : XK) : R2 := fun x y H Q => ∃ a dx fs b dy gs, x = .ref a ∧ y = .ref b ∧ H a = some (.ins C dx fs) ∧ H b = some (.ins C dy gs) ∧ sp [x, y] H (fun v H' => ∃ c, v = .bl c ∧ Q (.bl (!c)) H') E
/-- o != o2, both of C, which has an __eq__ of its own and no __ne__ -/
theorem op_ownNe (c : Me X.prog X.w X.K X.mg X.base CX k C "__eq__" sp) (hn : PySem.W.notFirst X.K C (.ref C) = true) (hm : PySem.W.mroIn X.K C (.type "object") = some true) (hne : PySem.W.findIn X.K (.ref C) "__ne__" = some (some (.builtin "object.__ne__")))
    (hr : Room j X.A) (hk : k + 1 ≤ j) (hx : Passes CX X E) : OpR X (compareOp .NotEq) (rOwnNe C sp E) := by
  obtain ⟨g, F, hs, hf, _⟩ := c.ex
  intro pins s σ H x y v u Q I rx ry h
  obtain ⟨a, dx, fs, b, dy, gs, rfl, rfl, ha, hb, q⟩ := h
  cases (show v = Value.ref a from rx)
  cases (show u = Value.ref b from ry)
  obtain ⟨ox, od, J⟩ := inst_at I ha
  obtain ⟨ox', od', J'⟩ := inst_at I hb
  show wpAny _ _ (richCompare .NotEq (.ref a) (.ref b)) _ _ _
  refine richNe_K (tb := .ref C) (hu_of hr) I.kIn J J'.type hn hm hne hs hf ?_
  refine wpAny_mono (wpAny_call (run_fnR1 (us := [.ref a, .ref b]) (vs := [.ref a, .ref b]) F (hr.mono hk) hx I (.cons rfl (.cons rfl .nil)) q)) (fun w s' z => ?_) fun _ _ x => x
  obtain ⟨_, H', I', rz, c, rfl, q'⟩ := z
  cases rz
  exact ⟨c, rfl, ⟨.bl (!c), H', I', rfl, q'⟩⟩
end
end SB

/-! own methods by their names. -/
namespace SB
open PySem PySem.Spec PyProof.Rows L2
theorem pe_mo {X : Cx} {CX : CXT} {k j : Nat} {C : Addr} {m : Str} {sp : Sp} {E : XK} {o e : Expr} {es : List Expr} {ta : TE} {t : TA} {apos pos : Pos} {pl : Sem Bool} (he : PE X o ta) (cl : Cls X.K C) (c : Me X.prog X.w X.K X.mg X.base CX k C m sp) (hr : Room j X.A) (hk : k ≤ j) (hx : Passes CX X E) (ha : PA X (e :: es) t)
    (hst : starEach (e :: es) X.env = (false, eval e X.env) :: starEach es X.env := by rfl) (hpl : (backTo pos (starEach es X.env)).any (·.1) = false := by rfl)
    (ht : eval (.Call (.Attribute o m apos) (e :: es) [] pos) X.env = (do
      let ov ← eval o X.env
      standAt apos.atName
      let (f, first) ← holding [ov] (getMethod ov m pl)
      callWith pos f first (backTo pos (starEach (e :: es) X.env)) (backToKw pos (keywordEach [] X.env))) := by rfl) :
    PE X (.Call (.Attribute o m apos) (e :: es) [] pos) (tMethR C m sp E ta t) := by
  obtain ⟨g, F, h1, h2, h3⟩ := c.ex
  exact pe_methR he cl ⟨h1, h2, h3⟩ F (hr.mono hk) hx ha hst hpl ht
/-! ### a tuple whose object is known to have no attributes -/
/-- at p stands a tuple of xs, locked, without a dict -/
def FzT (H : Hp) (p : Addr) (xs : List V) : Prop := ∃ o, H p = some (.frz o (.tup xs)) ∧ o.dict = none
theorem FzT.sq {K : PySem.W.Frag} {H : Hp} {p : Addr} {xs : List V} (h : FzT H p xs) : SqT K H p xs := by
  obtain ⟨o, h, _⟩ := h
  exact .inl (.inr ⟨o, h⟩)
theorem FzT.same {H H' : Hp} {p : Addr} {xs : List V} (h : FzT H p xs) (e : Same H H') : FzT H' p xs := by
  obtain ⟨o, h, hd⟩ := h
  exact ⟨o, e _ _ h, hd⟩
/-- tuple(x): a list gives a new tuple, a tuple itself -/
theorem call_tupleF {X : Cx} : CallR X (.type "tuple") (fun xs H Q => ∃ p ys, xs = [.ref p] ∧ ((SqL X.K H p ys ∧ ∀ l H', H l = none → (∀ b, b ≠ l → H' b = H b) → FzT H' l ys → Q (.ref l) H') ∨ (SqT X.K H p ys ∧ Q (.ref p) H))) := by
  intro pins s σ H xs us Q I r h
  obtain ⟨p, ys, rfl, h⟩ := h
  obtain ⟨u, rfl, rx⟩ := r.one
  cases (show u = Value.ref p from rx)
  rcases h with ⟨hq, q⟩ | ⟨hq, q⟩
  · obtain ⟨its, r', pl, hz⟩ := I.list hq
    have hlen := r'.length
    refine call_tuple_list pl.isList (fun h' kp => ?_) (by simp only [List.size_toArray] <;> omega)
    have I1 : Inv X pins σ H { s with heap := h' } := I.kept (t' := s.toks) kp
    have I2 : Inv X pins σ (upd H h'.objs.size (.frz { cls := .type "tuple", data := .seq its.toArray } (.tup ys))) { s with heap := h'.push { cls := .type "tuple", data := .seq its.toArray } } :=
      I1.laid (t' := s.toks) (fun b o e => Heap.get?_push_of_some _ e) (Nat.le_refl _) (show ObjOk X.prog X.w _ _ _ (.frz _ (.tup ys)) from ⟨Heap.get?_push_size _ rfl, hz, its, r', IsTup.new _ _⟩)
    exact ⟨.ref h'.objs.size, _, I2, rfl, q _ _ (I1.hok.fresh (Nat.le_refl _)) (fun b hb => upd_ne hb) ⟨_, upd_same, rfl⟩⟩
  · obtain ⟨its, r', pl, hz⟩ := I.tuple hq
    exact call_tuple_same pl ⟨.ref p, H, I, rfl, q⟩
def tBMF (r : V → List V → Hp → VK → Prop) (to : TE) (t : TA) : TE := fun σ H Q => to σ H fun x H1 => (∃ p xs, x = .ref p ∧ FzT H1 p xs) ∧ t σ H1 fun xs H2 => r x xs H2 Q
/-- a method of such a tuple -/
theorem pe_bmF {X : Cx} {o a1 : Expr} {a2 : List Expr} {to : TE} {t : TA} {name : Str} {ap cp : Pos} {id : String} {r : V → List V → Hp → VK → Prop} (slot : Slot "tuple" name id) (hty : typeOf (.builtin id) = pure (.type "method_descriptor")) (hm : MtR X id r) (ho : PE X o to) (ha : PA X (a1 :: a2) t) (hbase : attributeBase o name X.env (eval o X.env) = eval o X.env := by rfl)
    (hfew : ((backTo cp (starEach (a1 :: a2) X.env)).all (fun x => !x.1) && (backToKw cp (keywordEach [] X.env)).all (fun x => x.1.isSome) && decide ((a1 :: a2).length + ([] : List Keyword).length + (if ([] : List Keyword).isEmpty then 0 else 1) < 30)) = true := by rfl)
    (hline : (ap.endLine == cp.line) = true := by rfl) (hs : starEach (a1 :: a2) X.env = (false, eval a1 X.env) :: starEach a2 X.env := by rfl) (hp1 : (backTo cp (starEach a2 X.env)).any (·.1) = false := by rfl) : PE X (.Call (.Attribute o name ap) (a1 :: a2) [] cp) (tBMF r to t) := by
  refine ⟨fun pn st σ H Q I hh => ?_⟩
  refine wpAny_Call_method_late hbase hfew hline rfl (thn (ho.run pn st σ H _ I hh) fun v s1 ⟨x, H1, I1, r1, ⟨p, xs, ex, ob, hp, hd⟩, q1⟩ => ?_)
  subst ex
  obtain rfl : v = Value.ref p := r1
  obtain ⟨g1, _, its, _, o2, g2, g3, _⟩ := I1.hok p _ hp
  have e2 : o2 = ob := Option.some.inj (g2.symm.trans g1)
  subst e2
  have hA := ha.run cp pn s1 σ H1 _ I1 q1
  refine ⟨"tuple", id, PySem.F.plainAttrs_tuple, slot, hty, ⟨_, g1, g3⟩, fun a ea => by cases ea; exact ⟨_, g1, hd⟩, ?_⟩
  rw [hs] at hA ⊢
  refine Calls.callWith_builtin (by show (false || (backTo cp (starEach a2 X.env)).any (·.1)) = false; rw [hp1] <;> rfl) (Calls.evalArgs_plain (thn hA fun us s2 ⟨vs, H2, I2, rv, q2⟩ => hm pn s2 σ H2 (.ref p) vs (.ref p) us Q I2 rfl rv q2))
end SB

/-! defs with a star parameter and one keyword-only parameter; own methods called with keywords or without arguments. -/
namespace SB
open PySem PySem.Spec PyProof.Rows L2 StX
/-- a call with the keywords ks -/
def FnK (P : Program) (w : World) (K : PySem.W.Frag) (mg : Str → Option Value) (base : Heap) (CX : CXT) (k : Nat) (f : Addr) (ks : List Str) (sp : List V → Sp) : Prop :=
  ∀ (A : Around) (outer : List Env) (s : Shared) (H : Hp) (us ws : List Value) (vs zs : List V) (Q : VK) (E : XK), Room k A → Env0 P w K mg base A outer s H → Vals vs us → Vals zs ws → zs.length = ks.length → sp zs vs H Q E →
    codeAny (model P w) A (.call (.ref f) ⟨us, ks.zip ws⟩) (CR CX outer P w H s Q E) s
structure MeK (P : Program) (w : World) (K : PySem.W.Frag) (mg : Str → Option Value) (base : Heap) (CX : CXT) (k : Nat) (C : Addr) (m : Str) (ks : List Str) (sp : List V → Sp) : Prop where
  ex : ∃ g : Addr, FnK P w K mg base CX k g ks sp ∧ PySem.W.findIn K (.ref C) m = some (some (.ref g)) ∧ PySem.W.isFn K (.ref g) = true ∧ PySem.W.keepIn K (.ref g) = true
def tMethK (C : Addr) (m : Str) (ks : List Str) (sp : List V → Sp) (E : XK) (ta : TE) (t tk : TA) : TE := fun σ H Q => ta σ H fun x H1 => ∃ a dx fs, x = .ref a ∧ H1 a = some (.ins C dx fs) ∧ fs.lookup m = none ∧ t σ H1 fun vs H2 => tk σ H2 fun zs H3 => zs.length = ks.length ∧ sp zs (x :: vs) H3 Q E
section
variable {X : Cx} {CX : CXT} {k j : Nat} {C : Addr} {m : Str} {ks : List Str} {sp : List V → Sp} {sp0 : Sp} {E : XK} {o e : Expr} {es : List Expr} {kws : List Keyword} {ta : TE} {t tk : TA} {apos pos : Pos} {pl : Sem Bool}
theorem run_fnK {pins : List (Addr × Obj)} {σ : L2.St} {H : Hp} {s : Shared} {Q : VK} {f : Addr} {us ws : List Value} {vs zs : List V} (F : FnK X.prog X.w X.K X.mg X.base CX k f ks sp) (hr : Room k X.A) (hx : Passes CX X E) (I : Inv X pins σ H s) (r : Vals vs us) (rz : Vals zs ws) (hl : zs.length = ks.length) (h : sp zs vs H Q E) :
    wpAny (model X.prog X.w) X.A (call (.ref f) us (ks.zip ws)) (EP X pins σ Q) X.xe s := by
  refine wpAny_call (codeAny_mono (F X.A X.stack s H us ws vs zs Q E hr I.env0 r rz hl h) fun r s' hq => ?_)
  cases r with
  | error e => exact hx pins σ H s e s' I hq
  | ok fl =>
    cases fl with
    | ret u => exact I.after hq
    | _ => exact hq.elim
/-- o.m(e, .., k = v, ..) -/
theorem pe_moK (he : PE X o ta) (cl : Cls X.K C) (c : MeK X.prog X.w X.K X.mg X.base CX k C m ks sp) (hr : Room j X.A) (hk : k ≤ j) (hx : Passes CX X E) (ha : PA X (e :: es) t) (hkw : PK X kws tk) (hall : (backToKw pos (keywordEach kws X.env)).all (·.1.isSome) = true := by rfl) (hks : (backToKw pos (keywordEach kws X.env)).filterMap (·.1) = ks := by rfl)
    (hst : starEach (e :: es) X.env = (false, eval e X.env) :: starEach es X.env := by rfl) (hpl : ((backTo pos (starEach (e :: es) X.env)).any (·.1) || (backToKw pos (keywordEach kws X.env)).any (·.1.isNone)) = false := by rfl)
    (ht : eval (.Call (.Attribute o m apos) (e :: es) kws pos) X.env = (do
      let ov ← eval o X.env
      standAt apos.atName
      let (f, first) ← holding [ov] (getMethod ov m pl)
      callWith pos f first (backTo pos (starEach (e :: es) X.env)) (backToKw pos (keywordEach kws X.env))) := by rfl) :
    PE X (.Call (.Attribute o m apos) (e :: es) kws pos) (tMethK C m ks sp E ta t tk) := by
  obtain ⟨g, F, h1, h2, h3⟩ := c.ex
  refine ⟨fun pins s σ H Q I h => ?_⟩
  refine PySem.W.methodCall_KW (pl := pl) (thn (he.run pins s σ H _ I h) fun u s1 ⟨x, H1, I1, rx, a, dx, fs, ex, ea, l, q⟩ => ?_) ht
  subst ex
  obtain rfl : u = Value.ref a := rx
  refine getmeth_ok I1 ea cl ⟨h1, h2, h3⟩ l ?_
  refine PySem.W.callWith_KW (first := [.ref a]) (h₀ := X.base) I.ok.mod.kin h3 hall (thn (ha.run pos pins s1 σ H1 _ I1 q) fun us s2 ⟨vs, H2, I2, rv, q2⟩ => ?_) hpl hst
  refine thn (hkw.run pos pins s2 σ H2 _ I2 q2) fun ws s3 ⟨zs, H3, I3, rz, l2, q3⟩ => ⟨I3.kIn, ?_⟩
  rw [hks]
  exact run_fnK (us := .ref a :: us) (vs := .ref a :: vs) F (hr.mono hk) hx I3 (.cons rfl rv) rz l2 q3
/-- o.m(k = v, ..) -/
theorem pe_moK0 (he : PE X o ta) (cl : Cls X.K C) (c : MeK X.prog X.w X.K X.mg X.base CX k C m ks sp) (hr : Room j X.A) (hk : k ≤ j) (hx : Passes CX X E) (hkw : PK X kws tk) (hall : (backToKw pos (keywordEach kws X.env)).all (·.1.isSome) = true := by rfl) (hks : (backToKw pos (keywordEach kws X.env)).filterMap (·.1) = ks := by rfl)
    (hpl : ((backTo pos (starEach [] X.env)).any (·.1) || (backToKw pos (keywordEach kws X.env)).any (·.1.isNone)) = false := by rfl)
    (ht : eval (.Call (.Attribute o m apos) [] kws pos) X.env = (do
      let ov ← eval o X.env
      standAt apos.atName
      let (f, first) ← holding [ov] (getMethod ov m pl)
      callWith pos f first (backTo pos (starEach [] X.env)) (backToKw pos (keywordEach kws X.env))) := by rfl) :
    PE X (.Call (.Attribute o m apos) [] kws pos) (tMethK C m ks sp E ta tNil tk) := by
  obtain ⟨g, F, h1, h2, h3⟩ := c.ex
  refine ⟨fun pins s σ H Q I h => ?_⟩
  refine PySem.W.methodCall_KW (pl := pl) (thn (he.run pins s σ H _ I h) fun u s1 ⟨x, H1, I1, rx, a, dx, fs, ex, ea, l, q⟩ => ?_) ht
  subst ex
  obtain rfl : u = Value.ref a := rx
  refine getmeth_ok I1 ea cl ⟨h1, h2, h3⟩ l ?_
  refine PySem.W.callWith_KW0 (first := [.ref a]) (h₀ := X.base) I.ok.mod.kin h3 hall ?_ hpl
  refine thn (hkw.run pos pins s1 σ H1 _ I1 q) fun ws s3 ⟨zs, H3, I3, rz, l2, q3⟩ => ⟨I3.kIn, ?_⟩
  rw [hks, List.append_nil]
  exact run_fnK (us := [.ref a]) (vs := [.ref a]) F (hr.mono hk) hx I3 (.cons rfl .nil) rz l2 q3
/-- o.m() -/
theorem pe_mo0 (he : PE X o ta) (cl : Cls X.K C) (c : Me X.prog X.w X.K X.mg X.base CX k C m sp0) (hr : Room j X.A) (hk : k ≤ j) (hx : Passes CX X E)
    (ht : eval (.Call (.Attribute o m apos) [] [] pos) X.env = (do
      let ov ← eval o X.env
      standAt apos.atName
      let (f, first) ← holding [ov] (getMethod ov m pl)
      callWith pos f first (backTo pos (starEach [] X.env)) (backToKw pos (keywordEach [] X.env))) := by rfl) :
    PE X (.Call (.Attribute o m apos) [] [] pos) (tMethR C m sp0 E ta tNil) := by
  obtain ⟨g, F, h1, h2, h3⟩ := c.ex
  refine ⟨fun pins s σ H Q I h => ?_⟩
  refine PySem.W.methodCall_KW (pl := pl) (thn (he.run pins s σ H _ I h) fun u s1 ⟨x, H1, I1, rx, a, dx, fs, ex, ea, l, q⟩ => ?_) ht
  subst ex
  obtain rfl : u = Value.ref a := rx
  refine getmeth_ok I1 ea cl ⟨h1, h2, h3⟩ l ?_
  exact PySem.W.callWith_K0 (first := [.ref a]) I1.kIn h3 (wpAny_call (run_fnR (us := [.ref a]) (vs := [.ref a]) F (hr.mono hk) hx I1 (.cons rfl .nil) q))
end
section
variable {CX : CXT} {P : Program} {w : World} {K : PySem.W.Frag} {mg : Str → Option Value} {base : Heap} {k : Nat} {f : Addr} {name qual : Str} {params : Arguments} {body : List Stmt} {scope : Scope} {dV kV doc pm cdv ct oc : Value} {an od : Option Addr}
  {osl : Array (Option Value)} {N ps : List Str} {sp : Sp} {pv kn : Str}
/-- what a def with *v and one keyword-only parameter binds -/
theorem bnd_starK {A : Around} {outer : List Env} {s : Shared} {H : Hp} {E : XK} {args : Args} {u1 u2 : List Value} {ws rest : List V} {z : V} {uz : Value} (hCX : CXUp CX) (e0 : Env0 P w K mg base A outer s H) (r1 : Vals ws u1) (r2 : Vals rest u2) (rz : RelV z uz) (hl : ws.length = ps.length) (hz : rest.length ≤ sizeLine)
    {fd : FuncData} (hb : ∀ (A' : Around) (Ex : Value → Shared → Prop) (Q : List (Str × Value) → Shared → Prop), wpAny (model P w) A' (newTuple u2 >>= fun t => pure (ps.zip u1 ++ [(kn, uz), (pv, t)])) Q Ex s → wpAny (model P w) A' (bindArgs fd args) Q Ex s) :
    Bnd CX P w K mg base fd args (ps ++ [kn, pv]) A outer s H E (fun xs H2 => ∃ p, H p = Option.none ∧ xs = ws ++ [z, V.ref p] ∧ H2 = upd H p (.tup rest)) := by
  intro A' Ex Q' h
  have hn : H s.heap.objs.size = Option.none := e0.hok.fresh (Nat.le_refl _)
  have hl1 : u1.length = ps.length := by rw [← r1.length]; exact hl
  have hl2 : u2.length ≤ sizeLine := by rw [← r2.length]; exact hz
  refine hb A' Ex Q' (wpAny_bind (wpAny_newTuple (wpAny_pure ?_) hl2))
  have new : ObjOk P w (upd H s.heap.objs.size (.tup rest)) (s.heap.push ({ cls := .type "tuple", data := .seq u2.toArray } : Obj)) s.heap.objs.size (.tup rest) := ⟨hz, u2, r2, ⟨_, Heap.get?_push_size _ rfl, rfl, _, rfl⟩⟩
  have un := un_laid (fs := frs outer) (s := s) (o := ({ cls := .type "tuple", data := .seq u2.toArray } : Obj)) (u := .tup rest) hn
  have z := h _ _ (ws ++ [z, V.ref s.heap.objs.size]) (u1 ++ [uz, Value.ref s.heap.objs.size]) (env0_laid e0 new) un rfl (fun e s' => hCX outer s H _ _ E e s' un (fun b o q => Heap.get?_push_of_some _ q) rfl) (r1.append (.cons rz (.cons rfl .nil)))
    (by rw [List.length_append, List.length_append, hl] <;> rfl) ⟨_, hn, rfl, rfl⟩
  rw [List.zip_append hl1.symm] at z
  exact z
/-- def f(a, .., *v, k = ..), called with k -/
theorem fn_starK (lk : K.lookup f = some ⟨oc, od, .func (PySem.W.fnOf name qual params body scope dV kV doc pm an cdv ct), osl⟩) (hcd : PySem.W.codeIn K cdv qual = true) (S : FnScope N (ps ++ [kn, pv]) scope) (hCX : CXUp CX)
    (hb : ∀ (us rest : List Value) (v : Value), us.length = ps.length → bindArgs (PySem.W.fnOf name qual params body scope dV kV doc pm an cdv ct) ⟨us ++ rest, [(kn, v)]⟩ = (newTuple rest >>= fun t => pure (ps.zip us ++ [(kn, v), (pv, t)])))
    (hbody : ∀ (A : Around) (outer : List Env) (s : Shared) (H : Hp) (vs : List V) (Q : VK) (E : XK), Room k (A.deeper (envOfC qual scope s.heap.objs.size f cdv)) → sp vs H Q E →
      ∃ t, PSs (cxOf CX P w K mg base N qual scope f cdv A outer s H E) body t ∧ t { nx := fun _ H' => Q .non H', rt := Q } (start N vs) H) :
    FnK P w K mg base CX (k + 1) f [kn] (fun zs vs H Q E => ∃ ws rest z, zs = [z] ∧ vs = ws ++ rest ∧ ws.length = ps.length ∧ rest.length ≤ sizeLine ∧ ∀ p, H p = Option.none → sp (ws ++ [z, V.ref p]) (upd H p (.tup rest)) Q E) := by
  intro A outer s H us wz vs zs Q E hr e0 r rz _ hsp
  obtain ⟨ws, rest, z, ez, ev, hl, hz, hq⟩ := hsp
  subst ez ev
  obtain ⟨u1, u2, eu, r1, r2⟩ := vals_split r
  subst eu
  cases rz with
  | cons rz rt =>
    cases rt
    rename_i uz
    refine run_bnd lk hcd S hr e0 (bnd_starK hCX e0 r1 r2 rz hl hz fun A' Ex Q' h => ?_) fun s2 H2 xs ⟨p, hp, ex, eH⟩ hr' => ?_
    · show wpAny _ _ (bindArgs _ ⟨u1 ++ u2, [(kn, uz)]⟩) _ _ _
      rw [hb u1 u2 uz (by rw [← r1.length]; exact hl)]
      exact h
    · subst ex eH
      exact hbody A outer s2 _ _ Q E hr' (hq p hp)
/-- called without k: its default -/
theorem fn_starD {D : Addr} {ud : Value} {dv : V} (lk : K.lookup f = some ⟨oc, od, .func (PySem.W.fnOf name qual params body scope dV kV doc pm an cdv ct), osl⟩) (hcd : PySem.W.codeIn K cdv qual = true) (S : FnScope N (ps ++ [kn, pv]) scope) (hCX : CXUp CX) (hD : PySem.W.nsIn K D kn = some (some ud)) (rd : RelV dv ud)
    (hb : ∀ (us rest : List Value), us.length = ps.length → ∃ (β γ : Type) (k1 : Option Value → Sem β) (k2 : β → Sem γ) (k3 : γ → Sem (List (Str × Value))) (a : β), bindArgs (PySem.W.fnOf name qual params body scope dV kV doc pm an cdv ct) ⟨us ++ rest, []⟩ = ((nsGet D kn >>= k1) >>= k2) >>= k3 ∧ k1 (some ud) = pure a ∧ (k2 a >>= k3) = (newTuple rest >>= fun t => pure (ps.zip us ++ [(kn, ud), (pv, t)])))
    (hbody : ∀ (A : Around) (outer : List Env) (s : Shared) (H : Hp) (vs : List V) (Q : VK) (E : XK), Room k (A.deeper (envOfC qual scope s.heap.objs.size f cdv)) → sp vs H Q E →
      ∃ t, PSs (cxOf CX P w K mg base N qual scope f cdv A outer s H E) body t ∧ t { nx := fun _ H' => Q .non H', rt := Q } (start N vs) H) :
    FnR P w K mg base CX (k + 1) f (fun vs H Q E => ∃ ws rest, vs = ws ++ rest ∧ ws.length = ps.length ∧ rest.length ≤ sizeLine ∧ ∀ p, H p = Option.none → sp (ws ++ [dv, V.ref p]) (upd H p (.tup rest)) Q E) := by
  intro A outer s H us vs Q E hr e0 r hsp
  obtain ⟨ws, rest, ev, hl, hz, hq⟩ := hsp
  subst ev
  obtain ⟨u1, u2, eu, r1, r2⟩ := vals_split r
  subst eu
  have KX : K.In s.heap := e0.mod.kin.keeps fun b o e => (e0.bs b o e).1
  refine run_bnd lk hcd S hr e0 (bnd_starK hCX e0 r1 r2 rd hl hz fun A' Ex Q' h => ?_) fun s2 H2 xs ⟨p, hp, ex, eH⟩ hr' => ?_
  · obtain ⟨β, γ, k1, k2, k3, a, e1, e2, e3⟩ := hb u1 u2 (by rw [← r1.length]; exact hl)
    rw [e1, bind_assoc]
    refine wpAny_bind (wpAny_bind ((PySem.W.looks_nsIn KX hD).here ?_))
    rw [e2]
    refine wpAny_pure ?_
    rw [e3]
    exact h
  · subst ex eH
    exact hbody A outer s2 _ _ Q E hr' (hq p hp)
end
end SB

/-! defs with a keyword dict (def f(c, **d)), as classmethods called by keywords; a class held by a local, called. -/
namespace SB
open PySem PySem.Spec PyProof.Rows L2 StX
section
variable {P : Program} {w : World} {A : Around} {E : Value → Shared → Prop} {d : Addr}
/-- one more text key -/
theorem put_txt {s : Shared} {es : List DictEntry} {n : Nat} {x : Str} {u : Value} {Q : Unit → Shared → Prop} (D : s.heap.get? d = some (PySem.W.dictOf es n)) (h1 : ∀ en ∈ es, en.key.isStr x = false) (h2 : ∀ en ∈ es, en.refKey = false)
    (q : ∀ hh, hh.get? d = some (PySem.W.dictOf (es ++ [⟨PyData.keyHash w.params x, .str x s.toks, u⟩]) (n + 1)) → (∀ b, b ≠ d → hh.get? b = s.heap.get? b) → hh.objs.size = s.heap.objs.size → Q () { s with heap := hh, toks := s.toks + 1 }) : wpAny (model P w) A (nsSet d x u) Q E s := by
  have a1 : (es.any fun en => en.key.isStr x) = false := by
    rw [Bool.eq_false_iff]
    intro z
    obtain ⟨en, hm, z2⟩ := List.any_eq_true.mp z
    rw [h1 en hm] at z2
    exact Bool.false_ne_true z2
  have a2 : (es.any fun en => en.refKey) = false := by
    rw [Bool.eq_false_iff]
    intro z
    obtain ⟨en, hm, z2⟩ := List.any_eq_true.mp z
    rw [h2 en hm] at z2
    exact Bool.false_ne_true z2
  have put : Obj.putName x (PyData.keyHash w.params x) (.str x s.toks) u (PySem.W.dictOf es n) = PySem.W.dictOf (es ++ [⟨PyData.keyHash w.params x, .str x s.toks, u⟩]) (n + 1) := by
    rw [PySem.W.putName_dict, PySem.W.putL_new h1]
    have e3 : PySem.W.putN x es n = n + 1 := by
      show (if (es.any fun en => en.key.isStr x) then n else n + 1) = _
      rw [a1]
      exact if_neg Bool.false_ne_true
    rw [e3]
  have may : aRefKeyMayBeTheName x es.toArray = false := by
    rw [aRefKeyMayBeTheName_at, ← Array.any_toList, ← Array.any_toList]
    show (!(es.any fun en => en.key.isStr x) && (es.any fun en => en.refKey)) = false
    rw [a2]
    exact Bool.and_false _
  unfold nsSet
  refine wpAny_bind (wpAny_bind (wpAny_askSetting (wpAny_pure ?_)))
  refine wpAny_bind (wpAny_mkText ?_)
  refine wpAny_bind (wpAny_loadPart D ?_)
  dsimp only
  rw [may]
  refine wpAny_updatePart D ?_
  refine q _ ?_ (fun b hb => Heap.get?_update_other _ _ (Ne.symm hb)) (by first | exact Heap.size_update .. | simp [Heap.update])
  have fr : (Obj.putName x (PyData.keyHash w.params x) (.str x s.toks) u (PySem.W.dictOf es n)).isFreed = false := by
    rw [put]
    rfl
  rw [← put]
  exact Heap.get?_update_self _ D fr
theorem put_all {Q : PUnit → Shared → Prop} : ∀ (l : List (Str × Value)) (s : Shared) (es : List DictEntry) (n : Nat), s.heap.get? d = some (PySem.W.dictOf es n) → (∀ en ∈ es, ∀ y ∈ l, en.key.isStr y.1 = false) → (∀ en ∈ es, en.refKey = false) → (l.map Prod.fst).Nodup →
    (∀ hh, hh.get? d = some (PySem.W.dictOf (es ++ PySem.W.kwEs w.params s.toks l) (n + l.length)) → (∀ b, b ≠ d → hh.get? b = s.heap.get? b) → hh.objs.size = s.heap.objs.size → Q ⟨⟩ { s with heap := hh, toks := s.toks + l.length }) →
    wpAny (model P w) A (forIn l PUnit.unit fun y _ => (nsSet d y.1 y.2 >>= fun _ => pure (ForInStep.yield PUnit.unit))) Q E s := by
  intro l
  induction l with
  | nil =>
    intro s es n D _ _ _ q
    rw [List.forIn_nil]
    exact wpAny_pure (q s.heap (by show _ = some (PySem.W.dictOf (es ++ []) n); rw [List.append_nil]; exact D) (fun _ _ => rfl) rfl)
  | cons y l ih =>
    intro s es n D h1 h2 nd q
    have nd : (y.1 :: l.map Prod.fst).Nodup := nd
    rw [List.nodup_cons] at nd
    rw [List.forIn_cons]
    refine wpAny_bind (wpAny_bind (put_txt D (fun en hm => h1 en hm y List.mem_cons_self) h2 fun h3 D3 k3 z3 => wpAny_pure ?_))
    refine ih { s with heap := h3, toks := s.toks + 1 } _ _ D3 (fun en hm x hx => ?_) (fun en hm => ?_) nd.2 fun h4 D4 k4 z4 => ?_
    · rcases List.mem_append.mp hm with hm | hm
      · exact h1 en hm x (List.mem_cons_of_mem _ hx)
      · rw [List.mem_singleton.mp hm]
        exact beq_eq_false_iff_ne.mpr fun z => nd.1 (z ▸ List.mem_map_of_mem hx)
    · rcases List.mem_append.mp hm with hm | hm
      · exact h2 en hm
      · rw [List.mem_singleton.mp hm]
        rfl
    · have t1 : s.toks + 1 + l.length = s.toks + (y :: l).length := by rw [List.length_cons]; omega
      have t2 : n + 1 + l.length = n + (y :: l).length := by rw [List.length_cons]; omega
      show Q ⟨⟩ { s with heap := h4, toks := s.toks + 1 + l.length }
      rw [t1]
      refine q h4 ?_ (fun b hb => (k4 b hb).trans (k3 b hb)) (z4.trans z3)
      rw [← t2]
      rw [List.append_assoc] at D4
      exact D4
/-- such a dict as the hand layer says it -/
def keyI (x : Str × Value) : Key × Value := (.inr x.1, x.2)
theorem txt_pairs : ∀ (l : List (Str × Value)) (t : Tok), Pairs (mixKind P w) (PySem.W.kwEs w.params t l) (l.map keyI)
  | [], _ => .nil
  | y :: l, t => .cons (keyIs_str y.1 t) rfl (txt_pairs l (t + 1))
theorem inr_nodup : ∀ (l : List (Str × Value)), (l.map Prod.fst).Nodup → ((l.map keyI).map Prod.fst).Nodup := by
  intro l
  induction l with
  | nil => intro _; exact List.nodup_nil
  | cons y l ih =>
    intro h
    have h : (y.1 :: l.map Prod.fst).Nodup := h
    rw [List.nodup_cons] at h
    show ((Sum.inr y.1 : Key) :: (l.map keyI).map Prod.fst).Nodup
    refine List.nodup_cons.mpr ⟨fun z => ?_, ih h.2⟩
    rw [List.map_map] at z
    obtain ⟨x, hx, e⟩ := List.mem_map.mp z
    have e2 : x.1 = y.1 := Sum.inr.inj e
    exact h.1 (e2 ▸ List.mem_map_of_mem hx)
theorem txt_dict {l : List (Str × Value)} {hh : Heap} {t : Tok} {n : Nat} (D : hh.get? d = some (PySem.W.dictOf (PySem.W.kwEs w.params t l) n)) (nd : (l.map Prod.fst).Nodup) : hh.DictOf (mixKind P w) d (l.map keyI) :=
  ⟨_, _, n, D, ⟨rfl, rfl, rfl⟩, rfl, fun en hm => by
    obtain ⟨x, u, e1, e2⟩ := PySem.W.kwEs_key l t en (List.mem_toArray.mp hm)
    exact ⟨.inr x, by rw [e1]; exact keyIs_str x u, e2⟩, txt_pairs l t, inr_nodup l nd⟩
def kwL (ks : List Str) (zs : List V) : List (Key × V) := (ks.zip zs).map fun x => (.inr x.1, x.2)
theorem kwL_kv : ∀ (ks : List Str) {zs : List V} {ws : List Value}, Vals zs ws → KV (kwL ks zs) ((ks.zip ws).map keyI)
  | [], _, _, _ => .nil
  | _ :: _, _, _, .nil => .nil
  | _ :: ks, _, _, .cons r t => .cons ⟨rfl, r⟩ (kwL_kv ks t)
end
section
variable {CX : CXT} {P : Program} {w : World} {K : PySem.W.Frag} {mg : Str → Option Value} {base : Heap} {k : Nat} {f : Addr} {name qual : Str} {params : Arguments} {body : List Stmt} {scope : Scope} {dV kV doc pm cdv ct oc : Value} {an od : Option Addr}
  {osl : Array (Option Value)} {N : List Str} {sp : Sp} {p1 pd : Str} {ks : List Str}
/-- def f(c, **d), called with c and the keywords ks -/
theorem fn_kwd (lk : K.lookup f = some ⟨oc, od, .func (PySem.W.fnOf name qual params body scope dV kV doc pm an cdv ct), osl⟩) (hcd : PySem.W.codeIn K cdv qual = true) (S : FnScope N [p1, pd] scope) (hCX : CXUp CX) (nd : ks.Nodup) (hz : ks.length ≤ sizeLine)
    (hb : ∀ (u : Value) (ws : List Value), ws.length = ks.length → bindArgs (PySem.W.fnOf name qual params body scope dV kV doc pm an cdv ct) ⟨[u], ks.zip ws⟩ =
      ((alloc ({ cls := .type "dict", data := .dict #[] } : Obj) : Sem Addr) >>= fun D => forIn (ks.zip ws) PUnit.unit (fun y _ => (nsSet D y.1 y.2 >>= fun _ => pure (ForInStep.yield PUnit.unit))) >>= fun _ => pure [(p1, u), (pd, Value.ref D)]))
    (hbody : ∀ (A : Around) (outer : List Env) (s : Shared) (H : Hp) (vs : List V) (Q : VK) (E : XK), Room k (A.deeper (envOfC qual scope s.heap.objs.size f cdv)) → sp vs H Q E →
      ∃ t, PSs (cxOf CX P w K mg base N qual scope f cdv A outer s H E) body t ∧ t { nx := fun _ H' => Q .non H', rt := Q } (start N vs) H) :
    FnK P w K mg base CX (k + 1) f ks (fun zs vs H Q E => ∃ x, vs = [x] ∧ ∀ D ob, H D = Option.none → sp [x, V.ref D] (upd H D (.frz ob (.dK (kwL ks zs)))) Q E) := by
  intro A outer s H us ws vs zs Q E hr e0 r rz hl hsp
  obtain ⟨x, ev, hq⟩ := hsp
  subst ev
  obtain ⟨u, eu, rx⟩ := r.one
  subst eu
  have hlw : ws.length = ks.length := by rw [← rz.length]; exact hl
  have hn : H s.heap.objs.size = Option.none := e0.hok.fresh (Nat.le_refl _)
  have nz : ((ks.zip ws).map Prod.fst).Nodup := by
    rw [List.map_fst_zip (Nat.le_of_eq hlw.symm)]
    exact nd
  refine run_bnd lk hcd S hr e0 (G := fun xs H2 => ∃ D ob, H D = Option.none ∧ xs = [x, V.ref D] ∧ H2 = upd H D (.frz ob (.dK (kwL ks zs)))) (fun A' Ex Q' h => ?_) fun s2 H2 xs ⟨D, ob, hD, ex, eH⟩ hr' => ?_
  · rw [hb u ws hlw]
    refine wpAny_bind (wpAny_alloc ?_)
    refine wpAny_bind (put_all (ks.zip ws) { s with heap := s.heap.push ({ cls := .type "dict", data := .dict #[] } : Obj) } [] 0 (Heap.get?_push_size _ rfl) (fun _ z => nomatch z) (fun _ z => nomatch z) nz fun hh D2 kp2 z2 => wpAny_pure ?_)
    have kp : ∀ b o, s.heap.get? b = some o → hh.get? b = some o := fun b o e => by
      rw [kp2 b (Nat.ne_of_lt (Heap.lt_size e))]
      exact Heap.get?_push_of_some _ e
    generalize hob : PySem.W.dictOf ([] ++ PySem.W.kwEs w.params s.toks (ks.zip ws)) (0 + (ks.zip ws).length) = ob at D2
    have new : ObjOk P w (upd H s.heap.objs.size (.frz ob (.dK (kwL ks zs)))) hh s.heap.objs.size (.frz ob (.dK (kwL ks zs))) := by
      refine ⟨D2, ?_, beq_eq_false_iff_ne.mpr (Ne.symm (Nat.ne_of_lt (env0_big e0))), _, kwL_kv ks rz, txt_dict (t := s.toks) (n := 0 + (ks.zip ws).length) (by rw [D2, ← hob]; rfl) nz⟩
      unfold kwL
      rw [List.length_map, List.length_zip]
      omega
    have un : Un (frs outer) [] H (upd H s.heap.objs.size (.frz ob (.dK (kwL ks zs)))) s.heap hh := Un.laid kp (Nat.le_refl _) hn
    have env : Env0 P w K mg base A outer { s with heap := hh, toks := s.toks + (ks.zip ws).length } (upd H s.heap.objs.size (.frz ob (.dK (kwL ks zs)))) := by
      refine ⟨e0.frames, e0.mod, fun b o e => ⟨kp b o (e0.bs b o e).1, ?_⟩, ?_, Heap.FunFrames.of_keeps (fun b o e _ => ⟨o, kp b o e, rfl⟩) e0.funs, fun b hb => ?_, e0.hok.laid kp (Nat.le_refl _) new, e0.bare⟩
      · rw [upd_ne (Nat.ne_of_lt (Heap.lt_size (e0.bs b o e).1))]
        exact (e0.bs b o e).2
      · show base.objs.size ≤ hh.objs.size
        rw [z2]
        show _ ≤ (s.heap.push _).objs.size
        rw [Heap.size_push]
        exact Nat.le_succ_of_le e0.bsz
      · obtain ⟨_, o, ho, _⟩ := e0.funs.mem hb
        rw [upd_ne (Nat.ne_of_lt (Heap.lt_size ho))]
        exact e0.frf b hb
    exact h { s with heap := hh, toks := s.toks + (ks.zip ws).length } _ [x, V.ref s.heap.objs.size] [u, Value.ref s.heap.objs.size] env un rfl (fun e s' => hCX outer s H _ _ E e s' un kp rfl) (.cons rx (.cons rfl .nil)) rfl ⟨_, ob, hn, rfl, rfl⟩
  · subst ex eH
    exact hbody A outer s2 _ _ Q E hr' (hq D ob hD)
end
/-! ### the call C.m(k = v, ..) of a classmethod -/
def tCMethK (C : Addr) (ks : List Str) (sp : List V → Sp) (E : XK) (ta : TE) (tk : TA) : TE := fun σ H Q => ta σ H fun x H1 => x = .ref C ∧ tk σ H1 fun zs H2 => zs.length = ks.length ∧ sp zs [.ref C] H2 Q E
section
variable {X : Cx} {CX : CXT} {k : Nat} {C p g : Addr} {mc : Value} {sp : List V → Sp} {E : XK} {o : Expr} {m : Str} {ks : List Str} {kws : List Keyword} {pos apos : Pos} {ta : TE} {tk : TA} {pl : Sem Bool}
theorem pe_cmK (he : PE X o ta) (r : ClX.CRead X.K C mc) (c : ClX.CMet X.K C mc m p g) (F : FnK X.prog X.w X.K X.mg X.base CX k g ks sp) (hr : Room k X.A) (hx : Passes CX X E) (hkw : PK X kws tk)
    (hall : (backToKw pos (keywordEach kws X.env)).all (·.1.isSome) = true := by rfl) (hks : (backToKw pos (keywordEach kws X.env)).filterMap (·.1) = ks := by rfl)
    (hpl : ((backTo pos (starEach [] X.env)).any (·.1) || (backToKw pos (keywordEach kws X.env)).any (·.1.isNone)) = false := by rfl)
    (ht : eval (.Call (.Attribute o m apos) [] kws pos) X.env = (do
      let ov ← eval o X.env
      standAt apos.atName
      let (f, first) ← holding [ov] (getMethod ov m pl)
      callWith pos f first (backTo pos (starEach [] X.env)) (backToKw pos (keywordEach kws X.env))) := by rfl) :
    PE X (.Call (.Attribute o m apos) [] kws pos) (tCMethK C ks sp E ta tk) := by
  refine ⟨fun pins s σ H Q I h => ?_⟩
  refine PySem.W.methodCall_KW (pl := pl) (thn (he.run pins s σ H _ I h) fun u s1 ⟨x, H1, I1, rx, ex, q⟩ => ?_) ht
  subst ex
  obtain rfl : u = Value.ref C := rx
  refine ClX.getmethcm_ok I1 r c fun s2 I2 => ?_
  refine PySem.W.callWith_of (P := PySem.W.MethP X.K s1.heap.objs.size g (.ref C)) hpl (PySem.W.keeps_M c.fi) (evalArgs_kw2_nil hall (thn (hkw.run pos _ s2 σ H1 _ I2 q) fun ws s3 ⟨zs, H2, I3, rz, l2, q3⟩ => ⟨⟨ClX.pin_at I3, I3.kIn⟩, ?_⟩))
  rw [hks]
  have z : wpAny (model X.prog X.w) X.A (call (.ref s1.heap.objs.size) [] (ks.zip ws)) (EP X ((s1.heap.objs.size, PySem.W.methodObj (.ref g) (.ref C)) :: pins) σ Q) X.xe s3 := by
    refine wpAny_call (PySem.W.method_call (ClX.pin_at I3) (codeAny_mono (F X.A X.stack s3 H2 [.ref C] ws [.ref C] zs Q E hr I3.env0 (.cons rfl .nil) rz l2 q3) fun r s' hq => ?_))
    cases r with
    | error e => exact hx _ σ H2 s3 e s' I3 hq
    | ok fl =>
      cases fl with
      | ret u => exact I3.after hq
      | _ => exact hq.elim
  exact thn z fun _ _ y => ClX.unpinE y
end
/-! ### x(..), x a local that holds a class -/
section
variable {X : Cx} {CX : CXT} {k : Nat} {f C : Addr} {sp : Sp} {E : XK} {x : Str} {e : Expr} {es : List Expr} {tf : TE} {t : TA} {p pos : Pos}
theorem pe_makeV (M : Mk X.K C f) (F : FnR X.prog X.w X.K X.mg X.base CX k f sp) (hr : Room (k + 1) X.A) (hx : Passes CX X E) (hf : PE X (.Name x p) tf) (ha : PA X (e :: es) t)
    (he : starEach (e :: es) X.env = (false, eval e X.env) :: starEach es X.env := by rfl) (hpl : (backTo pos (starEach es X.env)).any (·.1) = false := by rfl) : PE X (.Call (.Name x p) (e :: es) [] pos) (fun σ H Q => tf σ H fun v H1 => v = .ref C ∧ tMakeR C sp E t σ H1 Q) := by
  refine ⟨fun pins s σ H Q I h => ?_⟩
  refine wpAny_Call_Name_kw (thn (hf.run pins s σ H _ I h) fun fv s0 ⟨v, H0, I0, r0, ev, q0⟩ => ?_)
  subst ev
  obtain rfl : fv = Value.ref C := r0
  refine PySem.W.callWith_K (h₀ := X.base) I0.ok.mod.kin M.kp (thn (ha.run pos pins s0 σ H0 _ I0 q0) fun us s1 ⟨vs, H1, I1, r, q⟩ => ⟨I1.kIn, ?_⟩) he hpl
  exact run_makeR M F hr hx I1 r q
end
end SB

/-! zip of a list and a tuple. -/
namespace SB
open PySem PySem.Spec PyProof.Rows L2 RZ
section
variable {prog : Program} {w : World} {A : Around} {E : Value → Shared → Prop} {s : Shared}
/-- one turn: the list gives u, the tuple gives v -/
theorem zm_item {c ti to j1 j2 p q : Addr} {m n : Nat} {us vs : Array Value} {u v d e : Value} {R : Value → Shared → Prop} (D : ZipApart c ti to j1 j2 p q) (gc : IsZip s.heap c ti to .none) (gI : IsPair s.heap ti (.ref j1) (.ref j2)) (gO : IsPair s.heap to d e)
    (g1 : s.heap.IsListIter j1 p m) (g2 : s.heap.IsTupleIter j2 q n) (gp : s.heap.IsList p us) (gq : s.heap.IsTuple q vs) (hu : us[m]? = some u) (hv : vs[n]? = some v)
    (kR : ∀ k, IsZip k c ti to (rawInt s.heap.objs.size) → IsPair k to u v → k.IsListIter j1 p (m + 1) → k.IsTupleIter j2 q (n + 1) → IsPair k s.heap.objs.size u v → k.objs.size = s.heap.objs.size + 1 →
      (∀ y o, y ≠ c → y ≠ to → y ≠ j1 → y ≠ j2 → s.heap.get? y = some o → k.get? y = some o) → R (.ref s.heap.objs.size) { s with heap := k }) :
    wpAny (model prog w) A (Builtin.«zip.__next__» ⟨[.ref c], []⟩) (fun fin s' => ∃ r, fin = .done (.ret r) ∧ R r s') E s := by
  show wpAny _ _ (field (.ref c) 2 >>= _) _ _ _
  refine wpAny_bind (wpAny_field gc rfl (x := .bool false) rfl ?_)
  show wpAny _ _ (field (.ref c) 3 >>= _) _ _ _
  refine wpAny_bind (wpAny_field gc rfl (x := .ref ti) rfl (wpAny_bind (wpAny_seqItems gI rfl ?_)))
  show wpAny _ _ (Builtin.SmallTypes.ownedTupleIsFree (.ref c) >>= _) _ _ _
  refine wpAny_bind ?_; unfold Builtin.SmallTypes.ownedTupleIsFree
  refine wpAny_bind (wpAny_field gc rfl (x := .none) rfl (wpAny_pure ?_)); simp only [if_true]
  refine wpAny_bind (wpAny_rule (wpAny_bind (wpAny_field gc rfl (x := .ref to) rfl (wpAny_bind (wpAny_setField_rec gc (by simp) fun a1 c1 s1 => ?_)))))
  replace c1 : IsZip a1 c ti to .ellipsis := c1
  refine wpAny_bind ?_; simp only [List.forIn_cons, List.forIn_nil, List.zipIdx_cons, List.zipIdx_nil]
  refine wpAny_bind (wpAny_bind (wpAny_onRaise ?_)); show wpAny _ _ (Builtin.SmallTypes.nextOf (.ref j1) >>= _) _ _ _
  refine wpAny_bind (wpAny_nextOf_list_item (g1.extBut s1.extBut D.i1z) (gp.extBut s1.extBut D.l1z) hu fun a2 i2 s2 => wpAny_pure ?_)
  have o2 : IsPair a2 to d e := s2.extBut _ _ D.TOi1 (s1.extBut _ _ D.TOz gO)
  refine wpAny_bind (wpAny_seqItems o2 rfl (wpAny_bind (wpAny_updateSeq_pair o2 fun a3 o3 s3 => ?_)))
  replace o3 : IsPair a3 to u e := o3
  refine wpAny_bind (wpAny_letGo (wpAny_pure ?_))
  refine wpAny_bind (wpAny_bind (wpAny_onRaise ?_)); show wpAny _ _ (Builtin.SmallTypes.nextOf (.ref j2) >>= _) _ _ _
  refine wpAny_bind (nextOf_tuple_item (((g2.extBut s1.extBut D.i2z).extBut s2.extBut D.i12.symm).extBut s3.extBut D.TOi2.symm) (((gq.extBut s1.extBut D.l2z).extBut s2.extBut D.l2i1).extBut s3.extBut D.l2TO) hv fun a4 i4 s4 => wpAny_pure ?_)
  have o4 : IsPair a4 to u e := s4.extBut _ _ D.TOi2 o3
  refine wpAny_bind (wpAny_seqItems o4 rfl (wpAny_bind (wpAny_updateSeq_pair o4 fun a5 o5 s5 => ?_)))
  replace o5 : IsPair a5 to u v := o5
  refine wpAny_bind (wpAny_letGo (wpAny_pure (wpAny_pure (wpAny_bind (wpAny_seqItems o5 rfl (wpAny_bind (wpAny_newTuple ?_)))))))
  have esz : a5.objs.size = s.heap.objs.size := by rw [s5.1, s4.1, s3.1, s2.1, s1.1]
  have c5 : IsZip a5 c ti to .ellipsis := s5.extBut _ _ D.TOz.symm (s4.extBut _ _ D.i2z.symm (s3.extBut _ _ D.TOz.symm (s2.extBut _ _ D.i1z.symm c1)))
  have k5 : ∀ y o, y ≠ c → y ≠ to → y ≠ j1 → y ≠ j2 → s.heap.get? y = some o → a5.get? y = some o := fun y o n1 n2 n3 n4 z => s5.extBut _ _ n2 (s4.extBut _ _ n4 (s3.extBut _ _ n2 (s2.extBut _ _ n3 (s1.extBut _ _ n1 z))))
  have f1 : a5.IsListIter j1 p (m + 1) := ((i2.extBut s3.extBut D.TOi1.symm).extBut s4.extBut D.i12).extBut s5.extBut D.TOi1.symm
  have f2 : a5.IsTupleIter j2 q (n + 1) := i4.extBut s5.extBut D.TOi2.symm
  have clt : c < a5.objs.size := Heap.lt_size c5
  show wpAny _ _ (Builtin.SmallTypes.ownedTupleHandOut (.ref c) (.ref a5.objs.size) >>= _) _ _ _
  refine wpAny_bind ?_; unfold Builtin.SmallTypes.ownedTupleHandOut
  have c6 : IsZip (a5.push { cls := .type "tuple", data := .seq #[u, v] }) c ti to .ellipsis := Heap.get?_push_of_some _ c5
  refine wpAny_bind (wpAny_setField_rec c6 (by simp) fun a7 c7 s7 => ?_)
  replace c7 : IsZip a7 c ti to (rawInt a5.objs.size) := c7
  refine wpAny_setField_rec c7 (by simp) fun a8 c8 s8 => ?_
  replace c8 : IsZip a8 c ti to (rawInt a5.objs.size) := c8
  have up : ∀ y o, y ≠ c → a5.get? y = some o → a8.get? y = some o := fun y o n1 z => s8.extBut _ _ n1 (s7.extBut _ _ n1 (Heap.get?_push_of_some _ z))
  have t8 : IsPair a8 a5.objs.size u v := s8.extBut _ _ (Nat.ne_of_gt clt) (s7.extBut _ _ (Nat.ne_of_gt clt) (Heap.get?_push_size _ rfl))
  have z8 : a8.objs.size = a5.objs.size + 1 := by rw [s8.1, s7.1, Heap.size_push]
  rw [esz] at c8 t8 z8
  refine wpAny_pure ⟨_, rfl, ?_⟩
  show R (.ref a5.objs.size) _
  rw [esz]
  exact kR a8 c8 (up _ _ D.TOz o5) (f1.at fun o z => up _ o D.i1z z) (f2.at fun o z => up _ o D.i2z z) t8 z8 fun y o n1 n2 n3 n4 z => up y o n1 (k5 y o n1 n2 n3 n4 z)
/-- the end: one of them has no more -/
theorem zm_end {c ti to j1 j2 p q : Addr} {m n : Nat} {us vs : Array Value} {d e : Value} {R : Fin → Shared → Prop} (hh : A.handled = none) (D : ZipApart c ti to j1 j2 p q) (gc : IsZip s.heap c ti to .none) (gI : IsPair s.heap ti (.ref j1) (.ref j2)) (gO : IsPair s.heap to d e)
    (g1 : s.heap.IsListIter j1 p m) (g2 : s.heap.IsTupleIter j2 q n) (gp : s.heap.IsList p us) (gq : s.heap.IsTuple q vs) (hn : us[m]? = none ∨ vs[n]? = none)
    (kE : ∀ k x, (∀ y o, y ≠ c → y ≠ to → y ≠ j1 → y ≠ j2 → s.heap.get? y = some o → k.get? y = some o) → (∃ o, k.get? x = some o ∧ o.cls = .type "StopIteration") → E (.ref x) { s with heap := k }) :
    wpAny (model prog w) A (Builtin.«zip.__next__» ⟨[.ref c], []⟩) R E s := by
  show wpAny _ _ (field (.ref c) 2 >>= _) _ _ _
  refine wpAny_bind (wpAny_field gc rfl (x := .bool false) rfl ?_)
  show wpAny _ _ (field (.ref c) 3 >>= _) _ _ _
  refine wpAny_bind (wpAny_field gc rfl (x := .ref ti) rfl (wpAny_bind (wpAny_seqItems gI rfl ?_)))
  show wpAny _ _ (Builtin.SmallTypes.ownedTupleIsFree (.ref c) >>= _) _ _ _
  refine wpAny_bind ?_; unfold Builtin.SmallTypes.ownedTupleIsFree
  refine wpAny_bind (wpAny_field gc rfl (x := .none) rfl (wpAny_pure ?_)); simp only [if_true]
  refine wpAny_bind (wpAny_rule (wpAny_bind (wpAny_field gc rfl (x := .ref to) rfl (wpAny_bind (wpAny_setField_rec gc (by simp) fun a1 c1 s1 => ?_)))))
  replace c1 : IsZip a1 c ti to .ellipsis := c1
  refine wpAny_bind ?_; simp only [List.forIn_cons, List.forIn_nil, List.zipIdx_cons, List.zipIdx_nil]
  refine wpAny_bind (wpAny_bind (wpAny_onRaise ?_)); show wpAny _ _ (Builtin.SmallTypes.nextOf (.ref j1) >>= _) _ _ _
  cases hu : us[m]? with
  | none =>
    refine wpAny_bind (wpAny_nextOf_list_end hh (g1.extBut s1.extBut D.i1z) (gp.extBut s1.extBut D.l1z) hu fun a2 x s2 hx => ?_)
    obtain ⟨ox, h1, h2⟩ := hx
    have c2 : IsZip a2 c ti to .ellipsis := s2 _ _ D.i1z.symm c1
    have nx : x ≠ c := fun z => by subst z; rw [c2] at h1; cases h1; simp at h2
    exact wpAny_setField_rec c2 (by simp) fun a3 _ s3 => kE a3 x (fun y o n1 _ n3 _ z => s3.extBut _ _ n1 (s2 _ _ n3 (s1.extBut _ _ n1 z))) ⟨ox, s3.extBut _ _ nx h1, h2⟩
  | some u =>
    have hv : vs[n]? = none := hn.resolve_left (by rw [hu]; intro z; cases z)
    refine wpAny_bind (wpAny_nextOf_list_item (g1.extBut s1.extBut D.i1z) (gp.extBut s1.extBut D.l1z) hu fun a2 i2 s2 => wpAny_pure ?_)
    have o2 : IsPair a2 to d e := s2.extBut _ _ D.TOi1 (s1.extBut _ _ D.TOz gO)
    refine wpAny_bind (wpAny_seqItems o2 rfl (wpAny_bind (wpAny_updateSeq_pair o2 fun a3 o3 s3 => wpAny_bind (wpAny_letGo (wpAny_pure (wpAny_bind (wpAny_bind (wpAny_onRaise ?_))))))))
    show wpAny _ _ (Builtin.SmallTypes.nextOf (.ref j2) >>= _) _ _ _
    refine wpAny_bind (nextOf_tuple_end hh (((g2.extBut s1.extBut D.i2z).extBut s2.extBut D.i12.symm).extBut s3.extBut D.TOi2.symm) (((gq.extBut s1.extBut D.l2z).extBut s2.extBut D.l2i1).extBut s3.extBut D.l2TO) hv fun a4 x s4 hx => ?_)
    obtain ⟨ox, h1, h2⟩ := hx
    have c4 : IsZip a4 c ti to .ellipsis := s4 _ _ D.i2z.symm (s3.extBut _ _ D.TOz.symm (s2.extBut _ _ D.i1z.symm c1))
    have nx : x ≠ c := fun z => by subst z; rw [c4] at h1; cases h1; simp at h2
    exact wpAny_setField_rec c4 (by simp) fun a5 _ s5 => kE a5 x (fun y o n1 n2 n3 n4 z => s5.extBut _ _ n1 (s4 _ _ n4 (s3.extBut _ _ n2 (s2.extBut _ _ n3 (s1.extBut _ _ n1 z))))) ⟨ox, s5.extBut _ _ nx h1, h2⟩
theorem zm_next {c ti to j1 j2 p q : Addr} {m n : Nat} {us vs : Array Value} {u v d e : Value} {R : Option Value → Shared → Prop} (D : ZipApart c ti to j1 j2 p q) (gc : IsZip s.heap c ti to .none) (gI : IsPair s.heap ti (.ref j1) (.ref j2)) (gO : IsPair s.heap to d e)
    (g1 : s.heap.IsListIter j1 p m) (g2 : s.heap.IsTupleIter j2 q n) (gp : s.heap.IsList p us) (gq : s.heap.IsTuple q vs) (hu : us[m]? = some u) (hv : vs[n]? = some v)
    (kR : ∀ k, IsZip k c ti to (rawInt s.heap.objs.size) → IsPair k to u v → k.IsListIter j1 p (m + 1) → k.IsTupleIter j2 q (n + 1) → IsPair k s.heap.objs.size u v → k.objs.size = s.heap.objs.size + 1 →
      (∀ y o, y ≠ c → y ≠ to → y ≠ j1 → y ≠ j2 → s.heap.get? y = some o → k.get? y = some o) → R (some (.ref s.heap.objs.size)) { s with heap := k }) : wpAny (model prog w) A (pyNext (.ref c)) R E s := by
  have ty : s.TypeIs (.ref c) "zip" := ⟨_, gc, rfl⟩
  unfold pyNext
  exact wpAny_bind (wpAny_attempt (wpAny_callSpecial?_slot (name := Str.ofString "__next__") ty F.slot_zip_next (wpAny_call_entry F.slot_zip_next ty F.entry_zip_next (zm_item D gc gI gO g1 g2 gp gq hu hv fun k b1 b2 b3 b4 b5 b6 b7 => wpAny_pure (kR k b1 b2 b3 b4 b5 b6 b7)) (F.args_zip_next_1 _))))
theorem zm_stop {c ti to j1 j2 p q : Addr} {m n : Nat} {us vs : Array Value} {d e : Value} {R : Option Value → Shared → Prop} (hh : A.handled = none) (D : ZipApart c ti to j1 j2 p q) (gc : IsZip s.heap c ti to .none) (gI : IsPair s.heap ti (.ref j1) (.ref j2)) (gO : IsPair s.heap to d e)
    (g1 : s.heap.IsListIter j1 p m) (g2 : s.heap.IsTupleIter j2 q n) (gp : s.heap.IsList p us) (gq : s.heap.IsTuple q vs) (hn : us[m]? = none ∨ vs[n]? = none)
    (kR : ∀ k, (∀ y o, y ≠ c → y ≠ to → y ≠ j1 → y ≠ j2 → s.heap.get? y = some o → k.get? y = some o) → R none { s with heap := k }) : wpAny (model prog w) A (pyNext (.ref c)) R E s := by
  have ty : s.TypeIs (.ref c) "zip" := ⟨_, gc, rfl⟩
  unfold pyNext
  refine wpAny_bind (wpAny_attempt (wpAny_callSpecial?_slot (name := Str.ofString "__next__") ty F.slot_zip_next (wpAny_call_entry F.slot_zip_next ty F.entry_zip_next (zm_end hh D gc gI gO g1 g2 gp gq hn fun k x kk hx => ?_) (F.args_zip_next_1 _))))
  obtain ⟨ox, h1, h2⟩ := hx
  exact wpAny_bind (wpAny_isInstance (T := "StopIteration") (b := true) ⟨ox, h1, h2⟩ isSubtype_stop (wpAny_pure (kR _ kk)))
end
/-! ### zip(list, tuple): the five new objects -/
abbrev zm1 (h : Heap) (p : Addr) : Heap := h.push { cls := .type "list_iterator", data := .fields #[.ref p, .int 0 0] }
abbrev zm2 (h : Heap) (p q : Addr) : Heap := (zm1 h p).push { cls := .type "tuple_iterator", data := .fields #[.ref q, .int 0 0] }
abbrev zm3 (h : Heap) (p q : Addr) : Heap := (zm2 h p q).push { cls := .type "tuple", data := .seq #[.ref h.objs.size, .ref (zm1 h p).objs.size] }
abbrev zm4 (h : Heap) (p q : Addr) : Heap := (zm3 h p q).push { cls := .type "tuple", data := .seq #[.none, .none] }
abbrev zm5 (h : Heap) (p q : Addr) : Heap := (zm4 h p q).push { cls := .type "zip", data := .fields #[.none, .bool false, .bool false, .ref (zm2 h p q).objs.size, .ref (zm3 h p q).objs.size] }
theorem zm_new (p q : Addr) (us vs : Array Value) : Meets (Builtin.«zip.__new__» ⟨[.type "zip", .ref p, .ref q], []⟩) (fun _ R s => s.heap.IsList p us ∧ s.heap.IsTuple q vs ∧ R (.ok (.ret (.ref (zm4 s.heap p q).objs.size))) { s with heap := zm5 s.heap p q }) :=
  .of_wp fun prog w A R s h => by
    obtain ⟨hp, g, d, tk, os⟩ := s; obtain ⟨h1, h2, h⟩ := h
    have hsub := sub_zip
    have k1 : Heap.IsList (Shared.heap ⟨hp, g, d, tk, os⟩) p us := h1
    have k2 : Heap.IsTuple (Shared.heap ⟨hp.push { cls := .type "list_iterator", data := .fields #[.ref p, .int 0 0] }, g, d, tk, os⟩) q vs := Heap.IsTuple.push h2 _
    wp_walk using wpAny_pyIter_list k1, wpAny_pyIter_tuple k2
    exact ⟨_, rfl, h⟩
section
variable {prog : Program} {w : World} {A : Around} {E : Value → Shared → Prop} {s : Shared}
theorem zm_call {p q : Addr} {us vs : Array Value} {R : Value → Shared → Prop} (h1 : s.heap.IsList p us) (h2 : s.heap.IsTuple q vs)
    (k : ∀ t, IsZip t (s.heap.objs.size + 4) (s.heap.objs.size + 2) (s.heap.objs.size + 3) .none → IsPair t (s.heap.objs.size + 2) (.ref s.heap.objs.size) (.ref (s.heap.objs.size + 1)) → IsPair t (s.heap.objs.size + 3) .none .none →
      t.IsListIter s.heap.objs.size p 0 → t.IsTupleIter (s.heap.objs.size + 1) q 0 → t.objs.size = s.heap.objs.size + 5 → (∀ c o, s.heap.get? c = some o → t.get? c = some o) → R (.ref (s.heap.objs.size + 4)) { s with heap := t }) :
    wpAny (model prog w) A (call (.type "zip") [.ref p, .ref q]) R E s := by
  refine callType_new F.called_zip (by decide) (F.typeCall_zip_2 _ _) (F.newCall_zip_2 _ _) (fun obj => F.args_object_init_3 obj _ _) F.entry_zip_new (zm_new p q us vs) ⟨h1, h2, ?_⟩
  have e1 : (zm1 s.heap p).objs.size = s.heap.objs.size + 1 := Heap.size_push ..
  have e2 : (zm2 s.heap p q).objs.size = s.heap.objs.size + 2 := by rw [Heap.size_push, e1]
  have e3 : (zm3 s.heap p q).objs.size = s.heap.objs.size + 3 := by rw [Heap.size_push, e2]
  have e4 : (zm4 s.heap p q).objs.size = s.heap.objs.size + 4 := by rw [Heap.size_push, e3]
  have e5 : (zm5 s.heap p q).objs.size = s.heap.objs.size + 5 := by rw [Heap.size_push, e4]
  have b5 : (zm5 s.heap p q).get? (zm4 s.heap p q).objs.size = some _ := Heap.get?_push_size _ rfl
  have b4 : (zm5 s.heap p q).get? (zm3 s.heap p q).objs.size = some _ := Heap.get?_push_of_some _ (Heap.get?_push_size _ rfl)
  have b3 : (zm5 s.heap p q).get? (zm2 s.heap p q).objs.size = some _ := Heap.get?_push_of_some _ (Heap.get?_push_of_some _ (Heap.get?_push_size _ rfl))
  have b2 : (zm5 s.heap p q).get? (zm1 s.heap p).objs.size = some _ := Heap.get?_push_of_some _ (Heap.get?_push_of_some _ (Heap.get?_push_of_some _ (Heap.get?_push_size _ rfl)))
  have b1 : (zm5 s.heap p q).get? s.heap.objs.size = some _ := Heap.get?_push_of_some _ (Heap.get?_push_of_some _ (Heap.get?_push_of_some _ (Heap.get?_push_of_some _ (Heap.get?_push_size _ rfl))))
  show _ ∧ _
  rw [e2, e3, e4] at b5
  rw [e1, e2] at b3
  rw [e3] at b4
  rw [e1] at b2
  rw [e4]
  refine ⟨⟨_, b5, rfl⟩, k _ b5 b3 b4 ⟨_, b1, rfl, rfl⟩ ⟨_, b2, rfl, rfl⟩ e5 fun c o x => ?_⟩
  exact Heap.get?_push_of_some _ (Heap.get?_push_of_some _ (Heap.get?_push_of_some _ (Heap.get?_push_of_some _ (Heap.get?_push_of_some _ x))))
end
/-- the list at a and the tuple at b at each turn, their items in new pairs -/
def ItzM (K : PySem.W.Frag) (a b : Addr) : It :=
  ⟨fun i H => ∃ (us vs : List V) (u v : V), SqL K H a us ∧ SqT K H b vs ∧ us[i]? = some u ∧ vs[i]? = some v,
    fun i H r H' => ∃ P u v, r = .ref P ∧ H P = none ∧ H' = upd H P (.tup [u, v]) ∧ (∀ us, SqL K H a us → us[i]? = some u) ∧ ∀ vs, SqT K H b vs → vs[i]? = some v,
    fun i H => ∃ us vs : List V, SqL K H a us ∧ SqT K H b vs ∧ (us.length ≤ i ∨ vs.length ≤ i)⟩
theorem turn_zm {P : Program} {w : World} {K : PySem.W.Frag} {elts : List Expr} {kk : Nat} {tpos : Pos} {a b c ti to j1 j2 : Addr} (D : ZipApart c ti to j1 j2 a b) :
    Turn P w K (.Tuple elts kk tpos) (ItzM K a b) [c, ti, to, j1, j2] c (fun i h => IsZip h c ti to .none ∧ IsPair h ti (.ref j1) (.ref j2) ∧ (∃ u v, IsPair h to u v) ∧ h.IsListIter j1 a i ∧ h.IsTupleIter j2 b i) where
  mem := by simp
  obj := fun i h st y hy => by
    obtain ⟨g, gI, ⟨u, v, gO⟩, ⟨o1, e1, _, d1⟩, ⟨o2, e2, _, d2⟩⟩ := st
    have hy' : y = c ∨ y = ti ∨ y = to ∨ y = j1 ∨ y = j2 := by simpa using hy
    rcases hy' with rfl | rfl | rfl | rfl | rfl
    · exact ⟨_, g, fun v z => nomatch z⟩
    · exact ⟨_, gI, fun v z => nomatch z⟩
    · exact ⟨_, gO, fun v z => nomatch z⟩
    · exact ⟨o1, e1, fun v z => by rw [d1] at z; cases z⟩
    · exact ⟨o2, e2, fun v z => by rw [d2] at z; cases z⟩
  keep := fun i h h' st k => by
    obtain ⟨g, gI, ⟨u, v, gO⟩, h1, h2⟩ := st
    exact ⟨k c (by simp) _ g, k ti (by simp) _ gI, ⟨u, v, k to (by simp) _ gO⟩, h1.at fun o z => k j1 (by simp) o z, h2.at fun o z => k j2 (by simp) o z⟩
  item := by
    intro X hP hw hK hc i pins s σ H E I hf st hg
    subst hP hw hK
    obtain ⟨g, gI, ⟨x0, y0, gO⟩, h1, h2⟩ := st
    obtain ⟨us, vs, u, v, qa, qb, hu, hv⟩ := hg
    obtain ⟨is1, r1, p1, _⟩ := I.list qa
    obtain ⟨is2, r2, p2, _⟩ := I.tuple qb
    obtain ⟨m1, em1, rm1⟩ := r1.get hu
    obtain ⟨m2, em2, rm2⟩ := r2.get hv
    have clt : c < s.heap.objs.size := Heap.lt_size g
    refine zm_next D g gI gO h1 h2 p1.isList p2 (u := m1) (v := m2) (by simpa using em1) (by simpa using em2) fun t z' to' h1' h2' hT hsz hk => ?_
    refine ⟨_, rfl, wpAny_letOwnedTupleGo_zip (s := { s with heap := t }) z' fun t2 z2 sb => ?_⟩
    have hT2 : t2.get? s.heap.objs.size = some { cls := .type "tuple", data := .seq #[m1, m2] } := (sb.2 _ (Nat.ne_of_gt clt)).trans hT
    have new : ObjOk X.prog X.w (upd H s.heap.objs.size (.tup [u, v])) t2 s.heap.objs.size (.tup [u, v]) := ⟨by show 2 ≤ sizeLine; decide, [m1, m2], .cons rm1 (.cons rm2 .nil), ⟨_, hT2, rfl, _, rfl⟩⟩
    have I1 : Inv X pins σ (upd H s.heap.objs.size (.tup [u, v])) { s with heap := t2 } :=
      I.turnedNew (t' := s.toks) (ch := [c, ti, to, j1, j2]) (fun y o hb z => (sb.2 y (fun w => hb (by simp [w]))).trans (hk y o (fun w => hb (by simp [w])) (fun w => hb (by simp [w])) (fun w => hb (by simp [w])) (fun w => hb (by simp [w])) z)) hf (Nat.le_refl _) new
    refine ⟨.ref s.heap.objs.size, _, I1, rfl, ⟨_, u, v, rfl, I.hok.fresh (Nat.le_refl _), rfl, fun l hl => by rw [I.list_inj hl qa]; exact hu, fun l hl => by rw [I.tuple_inj hl qb]; exact hv⟩, ⟨z2, (sb.2 _ D.TIz).trans (hk _ _ D.TIz D.TITO D.TIi1 D.TIi2 gI), ⟨m1, m2, (sb.2 _ D.TOz).trans to'⟩, h1'.at fun o z => (sb.2 _ D.i1z).trans z, h2'.at fun o z => (sb.2 _ D.i2z).trans z⟩, fun y hy => ?_⟩
    have hlt : y < s.heap.objs.size := by
      have hy' : y = c ∨ y = ti ∨ y = to ∨ y = j1 ∨ y = j2 := by simpa using hy
      rcases hy' with rfl | rfl | rfl | rfl | rfl
      · exact clt
      · exact Heap.lt_size gI
      · exact Heap.lt_size gO
      · obtain ⟨_, e1, _⟩ := h1; exact Heap.lt_size e1
      · obtain ⟨_, e2, _⟩ := h2; exact Heap.lt_size e2
    rw [upd_ne (Nat.ne_of_lt hlt)]
    exact (hf y hy).1
  done := by
    intro X hP hw hK hc i pins s σ H E I hf st hg
    subst hP hw hK
    obtain ⟨g, gI, ⟨x0, y0, gO⟩, h1, h2⟩ := st
    obtain ⟨us, vs, qa, qb, he⟩ := hg
    obtain ⟨is1, r1, p1, _⟩ := I.list qa
    obtain ⟨is2, r2, p2, _⟩ := I.tuple qb
    have l1 := r1.length
    have l2 := r2.length
    have he' : is1.toArray[i]? = none ∨ is2.toArray[i]? = none := by
      rcases he with z | z
      · exact .inl (by simp; omega)
      · exact .inr (by simp; omega)
    exact zm_stop (I.ok.hd hc) D g gI gO h1 h2 p1.isList p2 he' fun t hk => ⟨rfl, I.turnedL (t' := s.toks) (ch := [c, ti, to, j1, j2]) (fun y o hb z => hk y o (fun w => hb (by simp [w])) (fun w => hb (by simp [w])) (fun w => hb (by simp [w])) (fun w => hb (by simp [w])) z) hf⟩
  self := fun A i s Q E st h => wpAny_pyIter_zip st.1 h
section
variable {K : PySem.W.Frag} {a b : Addr} {xs ys : List V}
theorem walk_zm {n : Nat} (hn : n = min xs.length ys.length) : Walk (ItzM K a b) n (fun H => SqL K H a xs ∧ SqT K H b ys) (YPair (fun i => xs[i]?) (fun i => ys[i]?)) := by
  subst hn
  refine ⟨fun i _ hi q => ?_, fun _ q => ⟨xs, ys, q.1, q.2, by omega⟩, fun i H v H' _ ⟨q1, q2⟩ ⟨T, u, z, e1, e2, e3, e4, e5⟩ => ⟨T, u, z, e1, e2, e3, e4 xs q1, e5 ys q2⟩⟩
  have l1 : i < xs.length := by omega
  have l2 : i < ys.length := by omega
  exact ⟨xs, ys, xs[i], ys[i], q.1, q.2, List.getElem?_eq_getElem l1, List.getElem?_eq_getElem l2⟩
end
/-- zip of a list and a list or a tuple -/
def iZipS (K : PySem.W.Frag) (ta : TA) : TI := fun σ H R => ta σ H fun vs H1 => ∃ a b xs ys, vs = [.ref a, .ref b] ∧ SqL K H1 a xs ∧ (SqL K H1 b ys ∨ SqT K H1 b ys) ∧ ∀ (J : It) (G : Hp → Prop), Walk J (min xs.length ys.length) G (YPair (fun i => xs[i]?) (fun i => ys[i]?)) → (∀ H', SqL K H' a xs → (SqL K H1 b ys → SqL K H' b ys) → (SqT K H1 b ys → SqT K H' b ys) → G H') → R J H1
theorem pi_zipS {X : Cx} {e1 e2 : Expr} {ta : TA} {p pos tpos : Pos} {elts : List Expr} {kk : Nat} (hg : Gl X "zip") (hm : X.mg "zip" = none) (ha : PA X [e1, e2] ta)
    (hs : starEach [e1, e2] X.env = (false, eval e1 X.env) :: starEach [e2] X.env := by rfl) (hpl : (backTo pos (starEach [e2] X.env)).any (·.1) = false := by rfl) : PI X (.Tuple elts kk tpos) (.Call (.Name "zip" p) [e1, e2] [] pos) (iZipS X.K ta) := by
  refine ⟨fun pn st σ H R I h => ?_⟩
  refine Call_ (ld_blt I hg hm PyProof.Rows.boot_zip (PyProof.Rows.callWith_type1 (thn (ha.run pos pn st σ H _ I h) fun us s1 ⟨vs, H1, I1, r1, a, b, xs, ys, ex, qa, qb, q⟩ => ?_) hs hpl))
  subst ex
  obtain ⟨u1, u2, rfl, ra, rb⟩ := r1.two
  cases (show u1 = Value.ref a from ra)
  cases (show u2 = Value.ref b from rb)
  have fr : ∀ c, c ∈ [s1.heap.objs.size + 4, s1.heap.objs.size + 2, s1.heap.objs.size + 3, s1.heap.objs.size, s1.heap.objs.size + 1] → FpOk X pn H1 c := fun c hc => by
    have hc' : c = s1.heap.objs.size + 4 ∨ c = s1.heap.objs.size + 2 ∨ c = s1.heap.objs.size + 3 ∨ c = s1.heap.objs.size ∨ c = s1.heap.objs.size + 1 := by simpa using hc
    have hle : s1.heap.objs.size ≤ c := by omega
    exact I1.fpOk hle (I1.hok.fresh hle)
  obtain ⟨is1, w1, p1, _⟩ := I1.list qa
  rcases qb with qb | qb
  · obtain ⟨is2, w2, p2, _⟩ := I1.list qb
    refine call_zip_2 p1.isList p2.isList fun t hz hI hO k1 k2 hsz hk => wpAny_pyIter_zip hz ?_
    exact ⟨s1.heap.objs.size + 4, [s1.heap.objs.size + 4, s1.heap.objs.size + 2, s1.heap.objs.size + 3, s1.heap.objs.size, s1.heap.objs.size + 1], _, _, H1, rfl, I1.kept (t' := s1.toks) hk, turn_zip (PySem.W.ktu_apart s1.heap.objs.size a b p1.lt p2.lt), ⟨hz, hI, ⟨_, _, hO⟩, k1, k2⟩, fr, q _ _ (walk_zip rfl) fun H' z1 z2 _ => ⟨z1, z2 qb⟩⟩
  · obtain ⟨is2, w2, p2, _⟩ := I1.tuple qb
    obtain ⟨o2, ho2, _⟩ := id p2
    refine zm_call p1.isList p2 fun t hz hI hO k1 k2 hsz hk => wpAny_pyIter_zip hz ?_
    exact ⟨s1.heap.objs.size + 4, [s1.heap.objs.size + 4, s1.heap.objs.size + 2, s1.heap.objs.size + 3, s1.heap.objs.size, s1.heap.objs.size + 1], _, _, H1, rfl, I1.kept (t' := s1.toks) hk, turn_zm (PySem.W.ktu_apart s1.heap.objs.size a b p1.lt (Heap.lt_size ho2)), ⟨hz, hI, ⟨_, _, hO⟩, k1, k2⟩, fr, q _ _ (walk_zm rfl) fun H' z1 _ z2 => ⟨z1, z2 qb⟩⟩
end SB

/-! min(t) and str(t), t a tuple of whole numbers. -/
namespace SB
open PySem PySem.Spec PyProof.Rows L2
theorem reads_ints {h : Heap} : ∀ {ns : List Int} {its : List Value}, Vals (ns.map V.int) its → ∃ as, ReadsAll h its (ns.map PyData.int) as
  | [], _, r => by cases r; exact ⟨_, .nil⟩
  | n :: ns, _, r => by
    cases r with
    | cons r1 r2 =>
      obtain ⟨t, rfl⟩ := r1
      obtain ⟨as, z⟩ := reads_ints r2
      exact ⟨_, .cons (.int n t) z⟩
/-- min(t): one of its numbers -/
def rMinT (K : PySem.W.Frag) : List V → Hp → VK → Prop := fun vs H Q => ∃ (a : Addr) (ns : List Int), vs = [V.ref a] ∧ SqT K H a (ns.map V.int) ∧ 0 < ns.length ∧ ∀ m, m ∈ ns → Q (.int m) H
theorem cr_minT {X : Cx} (hc : X.calm = true) (hu : X.A.units + 64 < cLine) : CallR X (.builtin "min") (rMinT X.K) := by
  intro pins s σ H vs us Q I r h
  obtain ⟨a, ns, rfl, hs, hne, q⟩ := h
  obtain ⟨its, rv, hl, _⟩ := I.tuple hs
  rw [Vals.ref1 r]
  cases ns with
  | nil => simp at hne
  | cons x xs =>
    obtain ⟨as, ra⟩ := reads_ints (h := s.heap) rv
    refine PySem.W.min_tuple_datum (α := Int) (x := x) (xs := xs) (I.ok.hd hc) hl ⟨as, ra⟩ (by show X.A.units + 1 + 0 < cLine; omega) fun i v h' tk hi _ hk => ?_
    have hi' : its[i]? = some v := by simpa using hi
    have hlt : i < (x :: xs).length := by
      have := (List.getElem?_eq_some_iff.mp hi').1
      rw [← rv.length, List.length_map] at this
      exact this
    have hm : (x :: xs)[i]? = some (x :: xs)[i] := List.getElem?_eq_getElem hlt
    generalize (x :: xs)[i] = m at hm
    obtain ⟨u, eu, ru⟩ := rv.get (i := i) (x := .int m) (by rw [List.getElem?_map, hm]; rfl)
    rw [hi'] at eu
    cases eu
    obtain ⟨t, rfl⟩ := ru
    exact ⟨.int m, H, I.kept hk, ⟨t, rfl⟩, q m (List.mem_of_getElem? hm)⟩
theorem repr_ints {prog : Program} {w : World} : ∀ {ns : List Int} {its : List Value}, Vals (ns.map V.int) its → (∀ i ∈ ns, i.natAbs.log2 < 1920) → ReprAll prog w its (ns.map fun i => Str.ofString (toString i))
  | [], _, r, _ => by cases r; exact .nil
  | n :: ns, _, r, h => by
    cases r with
    | cons r1 r2 =>
      obtain ⟨t, rfl⟩ := r1
      exact .cons (ReprIs.int t (h n List.mem_cons_self)) (repr_ints r2 fun i hi => h i (List.mem_cons_of_mem _ hi))
theorem piled_ints : ∀ {ns : List Int}, (∀ i ∈ ns, i.natAbs.log2 < 1920) → piled (ns.map fun i => Str.ofString (toString i)) ≤ 2000 * ns.length
  | [], _ => by rw [List.map_nil, piled_nil]; exact Nat.zero_le _
  | n :: ns, h => by
    rw [List.map_cons, piled_cons, List.length_cons]
    have e := int_text_length_le (k := 1920) (by decide) (h n List.mem_cons_self)
    have e2 := piled_ints fun i hi => h i (List.mem_cons_of_mem _ hi)
    have e3 : (Str.ofString (toString n)).length ≤ 1921 := by rw [PySem.ofString_length]; exact e
    omega
/-- str(t): some text -/
def rStrT (K : PySem.W.Frag) : List V → Hp → VK → Prop := fun vs H Q => ∃ (a : Addr) (ns : List Int), vs = [V.ref a] ∧ SqT K H a (ns.map V.int) ∧ (∀ i ∈ ns, i.natAbs.log2 < 1920) ∧ ns.length ≤ 20 ∧ ∀ m : Str, Q (.str m) H
theorem call_str_tupI {X : Cx} (hu : X.A.units + 64 < cLine) : CallR X (.type "str") (rStrT X.K) := by
  intro pins s σ H vs us Q I r h
  obtain ⟨a, ns, rfl, hs, hn, hl20, q⟩ := h
  obtain ⟨its, rv, ⟨o, ho, hcl, n, hd⟩, _⟩ := I.tuple hs
  rw [Vals.ref1 r]
  have hp := piled_ints hn
  have htx := fmt_text (ns.map fun i => Str.ofString (toString i))
  have hz : (tupleText (ns.map fun i => Str.ofString (toString i))).length ≤ sizeLine := by rw [sizeLine_eq]; omega
  refine callType_new F.called_str (by decide) (F.typeCall_str_1 _) (F.newCall_str_1 _) (fun obj => F.args_object_init_2 obj _) F.entry_str_new
    (meets_str_new (S := fun A' R s' => A'.units + 10 < cLine ∧ s'.heap.get? a = some o ∧ ∀ (m : Str) (u tk : Tok), R (.ok (.ret (.str m u))) { s' with toks := tk }) fun prog' w' A' R s' h => ?_) ⟨?_, ho, fun m u tk => ⟨typeIs_str _ _ _, .str m, H, I.tok _, ⟨u, rfl⟩, q m⟩⟩
  · obtain ⟨h1, h2, h3⟩ := h
    exact wpAny_strOf_slot rfl (by show A'.units + 1 + 1 < cLine; omega) ⟨o, h2, hcl⟩ F.slot_tuple_str F.slot_tuple_repr (fmt_tuple_repr h2 hcl hd (repr_ints rv hn) hz fun m u tk _ => ⟨m, u, rfl, h3 m u tk⟩)
  · show X.A.units + 1 + 10 < cLine
    omega
end SB

/-! o.f = v, f a property with a setter; own methods with keyword-only parameters. -/
namespace SB
open PySem PySem.Spec PyProof.Rows L2 StX
structure PrS (P : Program) (w : World) (K : PySem.W.Frag) (mg : Str → Option Value) (base : Heap) (CX : CXT) (k : Nat) (C : Addr) (f : Str) (sp : Sp) : Prop where
  ex : ∃ (p g : Addr) (a : Value) (rest : List Value), Cls K C ∧ PySem.W.takerIn K C f = some (some (.ref p)) ∧ PySem.W.typeIn K (.ref p) = some (.type "property") ∧ PySem.W.recIn K p "property" = some (a :: .ref g :: rest) ∧ FnR P w K mg base CX k g sp
def sPrS (C : Addr) (sp : Sp) (E : XK) (ta tv : TE) : TS := fun D σ H => tv σ H fun y H1 => ta σ H1 fun x H2 => ∃ a dx fs, x = .ref a ∧ H2 a = some (.ins C dx fs) ∧ sp [x, y] H2 (fun _ H' => D.nx σ H') E
section
variable {X : Cx} {CX : CXT} {k j : Nat} {C : Addr} {f : Str} {sp : Sp} {E : XK} {pos pos' : Pos} {o value : Expr} {ta tv : TE}
theorem run_fnR2 {pins : List (Addr × Obj)} {σ : L2.St} {H : Hp} {s : Shared} {f : Addr} {Q : VK} {us : List Value} {vs : List V} (F : FnR X.prog X.w X.K X.mg X.base CX k f sp) (hr : Room (k + 2) X.A) (hx : Passes CX X E) (I : Inv X pins σ H s) (r : Vals vs us) (h : sp vs H Q E) :
    codeAny (model X.prog X.w) X.A.in1.in1 (.call (.ref f) ⟨us, []⟩) (fun r s' => match r with | .ok (.ret v) => EP X pins σ Q v s' | .ok _ => False | .error e => X.xe e s') s := by
  refine codeAny_mono (F X.A.in1.in1 X.stack s H us vs Q E hr.in1.in1 I.env0.in1.in1 r h) fun r s' hq => ?_
  cases r with
  | error e => exact hx pins σ H s e s' I hq
  | ok fl =>
    cases fl with
    | ret u => exact I.after hq
    | next => exact False.elim hq
    | brk => exact False.elim hq
    | cont => exact False.elim hq
theorem ps_prset (ha : PE X o ta) (hv : PE X value tv) (c : PrS X.prog X.w X.K X.mg X.base CX k C f sp) (hr : Room j X.A) (hk : k + 2 ≤ j) (hx : Passes CX X E) (hs : swapsWith value (some (.Attribute o f pos')) pos.line X.env = pure false) : PS X (.Assign [.Attribute o f pos'] value pos) (sPrS C sp E ta tv) := by
  obtain ⟨p, g, a0, rest, cl, ht, hT, hp, F⟩ := c.ex
  refine ⟨fun pins s σ H D I h => ?_⟩
  refine plainObj_wpAny_Assign_Attribute (thn (hv.run pins s σ H _ I h) fun u s1 ⟨y, H1, I1, ry, q⟩ => thn (ha.run pins s1 σ H1 _ I1 q) fun ov s2 ⟨x, H2, I2, rx, a, dx, fs, ex, ea, q2⟩ => ?_) hs
  subst ex
  obtain rfl : ov = Value.ref a := rx
  obtain ⟨ox, od, J⟩ := inst_at I2 ea
  refine PySem.W.set_plain I2.kIn J cl.sa (PySem.W.osa_descr (s := { s2 with toks := s2.toks + 1 }) PySem.W.KF.slot_pset I2.kIn J cl.po ht hT (PySem.W.prop_set (s := { s2 with toks := s2.toks + 1 }) I2.kIn hp ?_))
  refine codeAny_mono (run_fnR2 (us := [.ref a, u]) (vs := [.ref a, y]) F (hr.mono hk) hx (I2.tok _) (.cons rfl (.cons ry .nil)) q2) fun r s' z => ?_
  cases r with
  | error e => exact z
  | ok fl =>
    cases fl with
    | ret v =>
      obtain ⟨_, H', I', _, q'⟩ := z
      exact ⟨σ, H', I', q'⟩
    | next => exact False.elim z
    | brk => exact False.elim z
    | cont => exact False.elim z
end
/-- a call with keywords, by a def's promise -/
theorem fnk_of {P : Program} {w : World} {K : PySem.W.Frag} {mg : Str → Option Value} {base : Heap} {CX : CXT} {k n : Nat} {f : Addr} {fd : FuncData} {ps ks : List Str} {sp : Sp} {g : List Value → List Value → List Value} {gV : List V → List V → List V}
    (F : FnOk P w K mg base CX k f fd ps sp) (b : KBn K fd ps n ks g gV) : FnK P w K mg base CX k f ks (fun zs vs H Q E => vs.length = n ∧ sp (gV vs zs) H Q E) := by
  intro A outer s H us ws vs zs Q E hr e0 r rz hl ⟨hn, h⟩
  have KX : K.In s.heap := e0.mod.kin.keeps fun b o e => (e0.bs b o e).1
  exact F.run A outer s H _ _ _ Q E hr e0 (b.to s us ws KX (by rw [← r.length]; exact hn) (by rw [← rz.length]; exact hl)) (b.rel r rz) h
end SB

/-! Own exceptions with fields as values: made, their fields read, isinstance of them. -/
namespace SB
open PySem PySem.Spec PyProof.Rows L2 NdefX
/-- at a: an exception of the class at C that is not raised, with its dict at d -/
structure Exv (H : Hp) (v : V) (C : Addr) (fs : List (Str × V)) : Prop where
  ex : ∃ a d, v = .ref a ∧ H a = some (exo a C (some d)) ∧ H d = some (exd d fs)
/-- what the class of such an exception must have -/
structure ExvC (K : PySem.W.Frag) (C : Addr) : Prop where
  xf : XfC K C
  cl : (PySem.W.clsIn K C).isSome = true
  ca : PySem.W.findIn K (.ref C) "__class__" = some (some (.builtin "object.__class__"))
  cn : PySem.W.specialIn K (.builtin "object.__class__") "__get__" = some (some (.builtin "getset_descriptor.__get__"))
  ct : PySem.W.takesIn K (.builtin "object.__class__") = some true
  cm : PySem.W.mroIn K C (.type "object") = some true
section
variable {X : Cx} {pins : List (Addr × Obj)} {σ : L2.St} {H : Hp} {s : Shared}
theorem exv_inst {a d C : Addr} {fs : List (Str × V)} (I : Inv X pins σ H s) (ea : H a = some (exo a C (some d))) (ed : H d = some (exd d fs)) :
    ∃ (oe od : Obj) (mA : Str → Option Value), PySem.W.InstAt s.heap a oe C (some od) ∧ (∀ f, RelO (fs.lookup f) (mA f)) ∧ ∀ f, PySem.W.lookIn f od = some (mA f) := by
  obtain ⟨t1, ho⟩ := exo_at I.hok ea
  obtain ⟨mA, hns, rel⟩ := exd_at I.hok ed
  obtain ⟨od, hod, hl⟩ := lookIn_ns hns
  exact ⟨_, od, mA, ⟨ho, rfl, rfl, hod⟩, rel, hl⟩
/-- e.f of an exception that is a value -/
def rXv (K : PySem.W.Frag) (f : Str) : V → Hp → VK → Prop := fun x H1 Q => ∃ (C : Addr) (fs : List (Str × V)) (v : V), Exv H1 x C fs ∧ ExvC K C ∧ PySem.W.findIn K (.ref C) f = some none ∧ fs.lookup f = some v ∧ Q v H1
def tXv (K : PySem.W.Frag) (f : Str) (te : TE) : TE := fun σ H Q => te σ H fun x H1 => rXv K f x H1 Q
theorem pe_xv {e : Expr} {te : TE} {f : Str} {pos : Pos} (he : PE X e te) (hb : attributeBase e f X.env (eval e X.env) = eval e X.env := by rfl) : PE X (.Attribute e f pos) (tXv X.K f te) := by
  refine ⟨fun pins s σ H Q I h => ?_⟩
  refine attr_of hb (thn (he.run pins s σ H _ I h) fun u s1 hh => ?_)
  obtain ⟨x, H1, I1, rx, C, fs, v, ⟨a, d, ex, ea, ed⟩, T, hno, l, q⟩ := hh
  subst ex
  obtain rfl : u = Value.ref a := rx
  obtain ⟨oe, od, mA, J, rel, hl⟩ := exv_inst I1 ea ed
  obtain ⟨u, hu, ru⟩ := RelO.some_of (v := v) (o := mA f) (by rw [← l]; exact rel f)
  exact HandSPX.exc_get I1.kIn J T.xf.ga T.xf.gg T.xf.exC (PySem.W.findObj_own T.xf.hdC hno rfl (by rw [hl, hu])) (handed_of ru) ⟨v, H1, I1.tok _, ru, q⟩
/-- isinstance(e, c) -/
def rIsiE (K : PySem.W.Frag) : List V → Hp → VK → Prop := fun xs H Q => ∃ (x c : V) (C : Addr) (fs : List (Str × V)) (u : Value) (b : Bool), xs = [x, c] ∧ ClsV c u ∧ Exv H x C fs ∧ ExvC K C ∧ PySem.W.kitOne K (.ref C) u = some b ∧ Q (.bl b) H
theorem call_isiE : CallR X (.builtin "isinstance") (rIsiE X.K) := by
  intro pins s σ H xs us Q I r h
  obtain ⟨x, c, C, fs, u, b, rfl, k, ⟨a, d, ex, ea, ed⟩, T, e, q⟩ := h
  subst ex
  obtain ⟨u1, u2, rfl, r1, r2⟩ := vals2 r
  have e2 := k.eq r2
  subst e2
  obtain rfl : u1 = Value.ref a := r1
  obtain ⟨oe, od, mA, J, _, _⟩ := exv_inst I ea ed
  exact PySem.W.kia_one (PySem.W.kitx_exc T.cl T.xf.ga T.xf.gg T.xf.exC T.ca T.cn T.ct T.cm) I.kIn J e (fun z => nomatch z) fun tk => ⟨.bl b, H, I.tok tk, rfl, q⟩
/-- x(e, ..): a new exception as a value -/
def rXm (C : Addr) (ns : List Str) : List V → Hp → VK → Prop := fun vs H1 Q => vs.length ≤ 1000 ∧ vs.length = ns.length ∧ ∀ a d, H1 a = none → H1 d = none → d ≠ a → Q (.ref a) (upd (upd H1 a (exo a C (some d))) d (exd d (ns.zip vs).reverse))
def tXm (C : Addr) (ns : List Str) (ta : TA) : TE := fun σ H Q => ta σ H fun vs H1 => rXm C ns vs H1 Q
theorem pe_xm {x : Str} {C : Addr} {ns : List Str} {k j : Nat} {e : Expr} {es : List Expr} {ta : TA} {p pos : Pos} (c : Xc X.prog X.w X.K X.mg X.base k x C ns) (hr : Room j X.A) (hk : k + 1 ≤ j) (hg : Gl X x) (ha : PA X (e :: es) ta)
    (hdb : (x == ("__debug__" : Str)) = false := by decide) (he : starEach (e :: es) X.env = (false, eval e X.env) :: starEach es X.env := by rfl) (hpl : (backTo pos (starEach es X.env)).any (·.1) = false := by rfl) :
    PE X (.Call (.Name x p) (e :: es) [] pos) (tXm C ns ta) := by
  obtain ⟨fI, fd, ps, T, iC, tI, F1, hbn, hm⟩ := c.ex
  refine ⟨fun pins s σ H Q I h => ?_⟩
  obtain ⟨nm, q, N, bs, bm, sn, sub, ab, col, dd, k0, k1, k2, k3, k5, hC, hbm⟩ := T.cls
  refine wpAny_Call_Name_kw (ld_glob I hg hm ?_ hdb)
  refine PySem.W.callWith_K (h₀ := X.base) I.ok.mod.kin T.kC (thn (ha.run pos pins s σ H _ I h) fun us s1 ⟨vs, H1, I1, r1, hz, hl0, q1⟩ => ⟨I1.kIn, ?_⟩) he hpl
  show wpAny _ _ (call (.ref C) us) _ _ _
  obtain ⟨hp, g, dr, tk, os⟩ := s1
  have hsz : hp.objs.size ≤ hp.objs.size + 1 := Nat.le_succ _
  have hn : H1 (hp.objs.size + 1) = none := I1.hok.fresh hsz
  have kk : ∀ b o, hp.get? b = some o → ((hp.push (PySem.W.kdv_tup us)).push (PySem.HandSPX.excO C hp.objs.size)).get? b = some o := fun b o e => Heap.get?_push_of_some _ (Heap.get?_push_of_some _ e)
  have hget : ((hp.push (PySem.W.kdv_tup us)).push (PySem.HandSPX.excO C hp.objs.size)).get? (hp.objs.size + 1) = some (PySem.HandSPX.excO C hp.objs.size) := by heap_get
  have I2 : Inv X pins σ (upd H1 (hp.objs.size + 1) (exo (hp.objs.size + 1) C none)) ⟨(hp.push (PySem.W.kdv_tup us)).push (PySem.HandSPX.excO C hp.objs.size), g, dr, tk, os⟩ :=
    I1.laid (t' := tk) (a := hp.objs.size + 1) (o := exo (hp.objs.size + 1) C none) (h' := (hp.push (PySem.W.kdv_tup us)).push (PySem.HandSPX.excO C hp.objs.size)) kk hsz (exo_ok hget)
  have r2 : Vals (V.ref (hp.objs.size + 1) :: (vs ++ [])) (Value.ref (hp.objs.size + 1) :: us ++ []) := .cons rfl (r1.append .nil)
  have hq : spExc C ns (V.ref (hp.objs.size + 1) :: (vs ++ [])) (upd H1 (hp.objs.size + 1) (exo (hp.objs.size + 1) C none)) (fun v H2 => v = .non ∧ Q (.ref (hp.objs.size + 1)) H2) (fun _ _ _ => False) := by
    refine ⟨_, vs, by rw [List.append_nil], hl0, upd_same, fun d H2 nd nda ea ed same => ⟨rfl, ?_⟩⟩
    rw [upd_ne nda] at nd
    have e1 : H2 = upd (upd H1 (hp.objs.size + 1) (exo (hp.objs.size + 1) C (some d))) d (exd d (ns.zip vs).reverse) := by
      funext b
      by_cases hbd : b = d
      · rw [hbd, upd_same, ed]
      · rw [upd_ne hbd]
        by_cases hba : b = hp.objs.size + 1
        · rw [hba, upd_same, ea]
        · rw [upd_ne hba, same b hba hbd, upd_ne hba]
    rw [e1]
    exact q1 _ d hn nd nda
  have hl : (Value.ref (hp.objs.size + 1) :: us ++ []).length = ps.length := by
    have e := r2.length
    rw [F1.len _ _ _ _ hq] at e
    exact e.symm
  have hus : us.length ≤ sizeLine := by
    rw [← Paired.length r1, sizeLine_eq]
    omega
  refine wpAny_call (PySem.HandSPX.call_own F.excBase_ValueError (fun Y => PySem.HandSPX.refsVE_contains Y bm hbm) (I1.kIn _ _ hC) (PySem.W.looks_findIn I1.kIn iC) (fun self => PySem.W.bind_fn I1.kIn self tI) hus
    (codeAny_mono (F1.run _ X.stack _ _ ⟨Value.ref (hp.objs.size + 1) :: us, []⟩ (Value.ref (hp.objs.size + 1) :: us ++ []) _ _ (fun _ _ _ => False) ((hr.mono hk).make C us []) (I2.env0.make C us []) (hbn _ (Value.ref (hp.objs.size + 1) :: us) I2.kIn hl) r2 hq) fun r s' hq' => ?_))
  cases r with
  | error er => exact pass0 pins σ _ _ er s' I2 hq'
  | ok fl =>
    cases fl with
    | ret u =>
      obtain ⟨v, H2, os2, bare2, un2, hok2, rv, ev, q2⟩ := hq'
      subst ev
      obtain ⟨h2, g2, d2, t2, os'⟩ := s'
      exact ⟨rv, .ref (hp.objs.size + 1), H2, I2.call' (ch := []) os2 un2 hok2 bare2 (fun b z => absurd z (by simp)), rfl, q2⟩
    | next => exact False.elim hq'
    | brk => exact False.elim hq'
    | cont => exact False.elim hq'
end
end SB

/-! Own exceptions made by keywords. -/
namespace PySem
namespace HandSPX
section
variable {M : Model} {prog : Program} {w : World} {A : Around} {E : Value → Shared → Prop} {R : Result → Shared → Prop} {h : Heap} {g : Array GenState} {d : Drawn} {t : Nat} {os : OsState}
variable {nm q : Str} {C N : Addr} {bs bm bmB : List Value} {hdct : Bool} {sn : List Str} {sub : List Value} {ab : Bool} {col : Option Bool} {dd : Option Addr} {k0 k1 k2 k3 k5 : Option Value} {B newId initId : String}

theorem check_new_ownK (F : ExcBaseFacts B newId initId bmB) (hT : ∀ X : String, bm.contains (.type X) = bmB.contains (.type X)) {rest : List Value} {kw : List (Str × Value)} {Q : Unit → Shared → Prop}
    (hC : h.get? C = some (excClassObj nm q C N bs bm hdct sn sub ab col dd k0 k1 k2 k3 k5 newId)) (hq : Q () ⟨h, g, d, t, os⟩) : wpAny M A (checkBuiltinCall newId ⟨.ref C :: rest, kw⟩) Q E ⟨h, g, d, t, os⟩ := by
  have hcont : (Value.ref C :: bm).contains (.type B) = true := by rw [List.contains_cons, hT, F.hasB, Bool.or_true]
  have hstar := F.noStar
  simp only [checkBuiltinCall, F.newKind, F.newSplit, F.newRow]
  repeat (first | refine wpAny_loadPart_at hC ?_ | (refine wpAny_isSubtype_exc hC ?_; rw [hcont]) | refine wpAny_staticBase_exc hC ?_ | refine wpAny_madeBy_exc hC ?_ | simp only [bne_self_eq_false, Bool.false_eq_true, if_false] | wp_step)
  exact hq
theorem new_ownK (F : ExcBaseFacts B newId initId bmB) (hT : ∀ X : String, bm.contains (.type X) = bmB.contains (.type X)) {rest : List Value} {kw : List (Str × Value)}
    (hC : h.get? C = some (excClassObj nm q C N bs bm hdct sn sub ab col dd k0 k1 k2 k3 k5 newId))
    (hq : R (.ok (.ret (.ref (h.objs.size + 1)))) ⟨(h.push { cls := .type "tuple", data := .seq rest.toArray }).push
      { cls := .ref C, data := .fields #[.ref h.objs.size, .none, .none, .none, .bool false, .none] }, g, d, t, os⟩) (hrest : rest.length ≤ sizeLine) :
    codeAny (model prog w) A (.builtin newId ⟨.ref C :: rest, kw⟩) R ⟨h, g, d, t, os⟩ := by
  have hends := F.ends
  have hcB : (Value.ref C :: bm).contains (.type B) = true := by rw [List.contains_cons, hT, F.hasB, Bool.or_true]
  have hcA : (Value.ref C :: bm).contains (.type "AttributeError") = false := by rw [List.contains_cons, hT, F.noAttr]; rfl
  have hcN : (Value.ref C :: bm).contains (.type "NameError") = false := by rw [List.contains_cons, hT, F.noName]; rfl
  refine codeAny_builtinAt F.entry ?_
  unfold Builtin.«BaseException.__new__»
  refine wpAt_bind ?_
  show wpAt _ _ _ (stack >>= _) _ _ _
  refine wpAt_bind (wpAt_stack fun p below => wpAt_of_wpAny ?_)
  wp_walk
  refine wpAt_of_wpAny ?_
  rw [F.owner]
  repeat (first | with_reducible refine wpAny_madeHere_exc F.canon hC ?_ | with_reducible refine wpAny_loadPart_at hC ?_ | (with_reducible refine wpAny_isSubtype_exc hC ?_; first | rw [hcB] | rw [hcA] | rw [hcN]) | wp_step)
  show R _ _
  rw [Heap.size_push]
  exact hq

theorem type_call_ownK (F : ExcBaseFacts B newId initId bmB) (hT : ∀ X : String, bm.contains (.type X) = bmB.contains (.type X)) {rest : List Value} {kw : List (Str × Value)} {fI : Addr} {Q : Fin → Shared → Prop}
    (hC : h.get? C = some (excClassObj nm q C N bs bm hdct sn sub ab col dd k0 k1 k2 k3 k5 newId))
    (hi : W.Looks (model prog w) h (typeLookup (.ref C) "__init__") (some (.ref fI))) (hb : ∀ self, W.Looks (model prog w) h (bindSpecial (.ref fI) self) (.ref fI, [self])) (hrest : rest.length ≤ sizeLine)
    (hq : codeAny (model prog w) A (.call (.ref fI) ⟨.ref (h.objs.size + 1) :: rest, kw⟩)
      (fun r s' => match r with | .ok (.ret v) => v = .none ∧ Q (.done (.ret (.ref (h.objs.size + 1)))) s' | .ok _ => False | .error e => E e s')
      ⟨(h.push (W.kdv_tup rest)).push (excO C h.objs.size), g, d, t, os⟩) :
    wpAny (model prog w) A (Builtin.«type.__call__» ⟨.ref C :: rest, kw⟩) Q E ⟨h, g, d, t, os⟩ := by
  repeat (first | with_reducible refine wpAny_loadPart_at hC ?_ | with_reducible refine wpAny_madeBy_exc hC ?_ | wp_step)
  refine codeAny_call_builtin_code (Code.quiet_builtin _ F.quiet) (check_new_ownK F hT hC ?_)
  refine new_ownK F hT hC ?_ hrest
  show wpAny _ _ _ _ _ _
  have k : ∀ b o, h.get? b = some o → ((h.push (W.kdv_tup rest)).push (excO C h.objs.size)).get? b = some o := fun b o e => Heap.get?_push_of_some _ (Heap.get?_push_of_some _ e)
  have hC₁ := k _ _ hC
  have hget : ((h.push (W.kdv_tup rest)).push (excO C h.objs.size)).get? (h.objs.size + 1) = some (excO C h.objs.size) := by heap_get
  have hcC : (Value.ref C :: bm).contains (.ref C) = true := by simp
  have i1 := hi.keeps k
  have b1 := (hb (.ref (h.objs.size + 1))).keeps k
  unfold isInstance
  repeat (first | with_reducible refine wpAny_loadPart_at hget ?_ | (with_reducible refine wpAny_isSubtype_exc hC₁ ?_; rw [hcC]) | wp_step)
  show wpAny _ _ (typeLookup (.ref C) _) _ _ _
  refine i1.at ?_
  refine wpAny_holding (wpAny_bind (b1.at ?_))
  refine wpAny_bind (wpAny_call (codeAny_mono hq fun r s' z => ?_))
  rcases r with e | (v | _ | _ | _) <;> first | exact z | exact z.elim | skip
  obtain ⟨rfl, z⟩ := z
  first
    | exact wpAny_pure (wpAny_pure z)
    | (wp_walk; exact z)

theorem call_ownK (F : ExcBaseFacts B newId initId bmB) (hT : ∀ X : String, bm.contains (.type X) = bmB.contains (.type X)) {rest : List Value} {kw : List (Str × Value)} {fI : Addr}
    (hC : h.get? C = some (excClassObj nm q C N bs bm hdct sn sub ab col dd k0 k1 k2 k3 k5 newId))
    (hi : W.Looks (model prog w) h (typeLookup (.ref C) "__init__") (some (.ref fI))) (hb : ∀ self, W.Looks (model prog w) h (bindSpecial (.ref fI) self) (.ref fI, [self])) (hrest : rest.length ≤ sizeLine)
    (hq : codeAny (model prog w) (A.under (.builtin "type.__call__" ⟨.ref C :: rest, kw⟩)) (.call (.ref fI) ⟨.ref (h.objs.size + 1) :: rest, kw⟩) (W.InitBack (h.objs.size + 1) R)
      ⟨(h.push (W.kdv_tup rest)).push (excO C h.objs.size), g, d, t, os⟩) :
    codeAny (model prog w) A (.call (.ref C) ⟨rest, kw⟩) R ⟨h, g, d, t, os⟩ := by
  have f1 := tc_lookup
  have f2 := tc_bind (.ref C)
  have hTy : (⟨h, g, d, t, os⟩ : Shared).TypeIs (.ref C) "type" := ⟨_, hC, rfl⟩
  refine codeAny_of_tree ?_
  show wpAny _ _ (callAny (.ref C) _) _ _ _
  repeat (any_goals (first | assumption | with_reducible refine wpAny_loadPart_at hC ?_ | wp_step))
  refine ⟨rfl, ?_⟩
  refine codeAny_call_builtin_at (Code.quiet_builtin _ (by decide +kernel)) entry_typeCall (wpAny_check_type_call_sub hC (type_call_ownK F hT hC hi hb hrest ?_))
  refine codeAny_mono hq fun r s' z => ?_
  rcases r with e | (v | _ | _ | _) <;> exact z
end
end HandSPX
end PySem

/-! The rule for own exceptions made by keywords. -/
namespace SB
open PySem PySem.Spec PyProof.Rows L2 NdefX
/-- the module's name x holds the exception class at C; called with the keywords ks -/
structure XcK (P : Program) (w : World) (K : PySem.W.Frag) (mg : Str → Option Value) (base : Heap) (k : Nat) (x : Str) (C : Addr) (ns ks : List Str) (gV : List V → List V → List V) : Prop where
  ex : ∃ fI : Addr, OexC K C ∧ PySem.W.findIn K (.ref C) "__init__" = some (some (.ref fI)) ∧ PySem.W.typeIn K (.ref fI) = some (.type "function") ∧ FnK P w K mg base CX0 k fI ks (fun zs vs H Q E => vs.length = 1 ∧ spExc C ns (gV vs zs) H Q E) ∧ mg x = some (.ref C)
/-- x(k = v, ..): a new exception as a value -/
def rXmK (C : Addr) (ns ks : List Str) (gV : List V → List V → List V) : List V → Hp → VK → Prop := fun zs H1 Q => ∃ vs : List V, (∀ a, gV [.ref a] zs = .ref a :: vs) ∧ zs.length = ks.length ∧ vs.length = ns.length ∧ ∀ a d, H1 a = none → H1 d = none → d ≠ a → Q (.ref a) (upd (upd H1 a (exo a C (some d))) d (exd d (ns.zip vs).reverse))
def tXmK (C : Addr) (ns ks : List Str) (gV : List V → List V → List V) (tk : TA) : TE := fun σ H Q => tk σ H fun zs H1 => rXmK C ns ks gV zs H1 Q
section
variable {X : Cx}
theorem pe_xmK {x : Str} {C : Addr} {ns ks : List Str} {gV : List V → List V → List V} {k j : Nat} {kws : List Keyword} {tk : TA} {p pos : Pos} (c : XcK X.prog X.w X.K X.mg X.base k x C ns ks gV) (hr : Room j X.A) (hk : k + 1 ≤ j) (hg : Gl X x) (hkw : PK X kws tk)
    (hall : (backToKw pos (keywordEach kws X.env)).all (·.1.isSome) = true := by rfl) (hks : (backToKw pos (keywordEach kws X.env)).filterMap (·.1) = ks := by rfl) (hdb : (x == ("__debug__" : Str)) = false := by decide)
    (hpl : ((backTo pos (starEach [] X.env)).any (·.1) || (backToKw pos (keywordEach kws X.env)).any (·.1.isNone)) = false := by rfl) :
    PE X (.Call (.Name x p) [] kws pos) (tXmK C ns ks gV tk) := by
  obtain ⟨fI, T, iC, tI, F1, hm⟩ := c.ex
  refine ⟨fun pins s σ H Q I h => ?_⟩
  obtain ⟨nm, q, N, bs, bm, sn, sub, ab, col, dd, k0, k1, k2, k3, k5, hC, hbm⟩ := T.cls
  refine wpAny_Call_Name_kw (ld_glob I hg hm ?_ hdb)
  refine PySem.W.callWith_KW0 (h₀ := X.base) I.ok.mod.kin T.kC hall ?_ hpl
  refine thn (hkw.run pos pins s σ H _ I h) fun ws s1 ⟨zs, H1, I1, rz, vs, hgv, lz, hl0, q1⟩ => ⟨I1.kIn, ?_⟩
  rw [hks]
  show wpAny _ _ (call (.ref C) [] (ks.zip ws)) _ _ _
  obtain ⟨hp, g, dr, tk, os⟩ := s1
  have hsz : hp.objs.size ≤ hp.objs.size + 1 := Nat.le_succ _
  have hn : H1 (hp.objs.size + 1) = none := I1.hok.fresh hsz
  have kk : ∀ b o, hp.get? b = some o → ((hp.push (PySem.W.kdv_tup [])).push (PySem.HandSPX.excO C hp.objs.size)).get? b = some o := fun b o e => Heap.get?_push_of_some _ (Heap.get?_push_of_some _ e)
  have hget : ((hp.push (PySem.W.kdv_tup [])).push (PySem.HandSPX.excO C hp.objs.size)).get? (hp.objs.size + 1) = some (PySem.HandSPX.excO C hp.objs.size) := by heap_get
  have I2 : Inv X pins σ (upd H1 (hp.objs.size + 1) (exo (hp.objs.size + 1) C none)) ⟨(hp.push (PySem.W.kdv_tup [])).push (PySem.HandSPX.excO C hp.objs.size), g, dr, tk, os⟩ :=
    I1.laid (t' := tk) (a := hp.objs.size + 1) (o := exo (hp.objs.size + 1) C none) (h' := (hp.push (PySem.W.kdv_tup [])).push (PySem.HandSPX.excO C hp.objs.size)) kk hsz (exo_ok hget)
  have hq : [V.ref (hp.objs.size + 1)].length = 1 ∧ spExc C ns (gV [V.ref (hp.objs.size + 1)] zs) (upd H1 (hp.objs.size + 1) (exo (hp.objs.size + 1) C none)) (fun v H2 => v = .non ∧ Q (.ref (hp.objs.size + 1)) H2) (fun _ _ _ => False) := by
    refine ⟨rfl, _, vs, hgv _, hl0, upd_same, fun d H2 nd nda ea ed same => ⟨rfl, ?_⟩⟩
    rw [upd_ne nda] at nd
    have e1 : H2 = upd (upd H1 (hp.objs.size + 1) (exo (hp.objs.size + 1) C (some d))) d (exd d (ns.zip vs).reverse) := by
      funext b
      by_cases hbd : b = d
      · rw [hbd, upd_same, ed]
      · rw [upd_ne hbd]
        by_cases hba : b = hp.objs.size + 1
        · rw [hba, upd_same, ea]
        · rw [upd_ne hba, same b hba hbd, upd_ne hba]
    rw [e1]
    exact q1 _ d hn nd nda
  refine wpAny_call (PySem.HandSPX.call_ownK F.excBase_ValueError (fun Y => PySem.HandSPX.refsVE_contains Y bm hbm) (I1.kIn _ _ hC) (PySem.W.looks_findIn I1.kIn iC) (fun self => PySem.W.bind_fn I1.kIn self tI) (by rw [sizeLine_eq]; show 0 ≤ _; omega)
    (codeAny_mono (F1 _ X.stack _ (upd H1 (hp.objs.size + 1) (exo (hp.objs.size + 1) C none)) [Value.ref (hp.objs.size + 1)] ws [V.ref (hp.objs.size + 1)] zs _ (fun _ _ _ => False) ((hr.mono hk).make C [] (ks.zip ws)) (I2.env0.make C [] (ks.zip ws)) (.cons rfl .nil) rz lz hq) fun r s' hq' => ?_))
  cases r with
  | error er => exact pass0 pins σ _ _ er s' I2 hq'
  | ok fl =>
    cases fl with
    | ret u =>
      obtain ⟨v, H2, os2, bare2, un2, hok2, rv, ev, q2⟩ := hq'
      subst ev
      obtain ⟨h2, g2, d2, t2, os'⟩ := s'
      exact ⟨rv, .ref (hp.objs.size + 1), H2, I2.call' (ch := []) os2 un2 hok2 bare2 (fun b z => absurd z (by simp)), rfl, q2⟩
    | next => exact False.elim hq'
    | brk => exact False.elim hq'
    | cont => exact False.elim hq'
end
section
variable {P : Program} {w : World} {K : PySem.W.Frag} {mg : Str → Option Value} {base : Heap} {x : Str} {C f cc cda : Addr} {qual : Str} {params : Arguments} {p0 p1 apos cpos pos q1 q2 q3 q4 q5 q6 q7 q8 ps1 : Pos} {msg : Str} {j : Nat} {scope : Scope} {dV kV doc pm ct oc : Value} {an od : Option Addr} {osl : Array (Option Value)} {ar : Arg} {v v2 f1 f2 : Str} {ks : List Str} {g : List Value → List Value → List Value} {gV : List V → List V → List V}
/-- one field -/
theorem okk_x1 (T : XcF P K mg x C f)
    (lk : K.lookup f = some ⟨oc, od, .func (PySem.W.ksFn "__init__" qual params [.Expr (.Call (.Attribute (.Call (.Name "super" p0) [] [] p1) "__init__" apos) [.Constant (.str msg) j ps1] [] cpos) pos, .Assign [.Attribute (.Name "self" q1) f1 q2] (.Name v q3) q4] scope dV kV doc pm an (.ref cda) ct cc), osl⟩)
    (hcd : PySem.W.codeIn K (.ref cda) qual = true) (S : NScope ["self", v, "__class__"] ["self", v] ["__class__"] scope) (hp : (params.posonlyargs ++ params.args).head? = some ar) (har : ar.arg = "self") (hF : FileIs P K cda) (hc : CellIs K cc C)
    (hks : scope.names.lookup ("super" : Str) = some .globalImplicit) (hno : PySem.W.findIn K (.ref C) f1 = some none) (hv1 : (v == ("__debug__" : Str)) = false) (hv2 : (v == ("__classdict__" : Str)) = false) (hb : KBn K (PySem.W.ksFn "__init__" qual params [.Expr (.Call (.Attribute (.Call (.Name "super" p0) [] [] p1) "__init__" apos) [.Constant (.str msg) j ps1] [] cpos) pos, .Assign [.Attribute (.Name "self" q1) f1 q2] (.Name v q3) q4] scope dV kV doc pm an (.ref cda) ct cc) ["self", v] 1 ks g gV)
    {pl : Env → Sem Bool} (ht : ∀ env : Env, eval (.Call (.Attribute (.Call (.Name "super" p0) [] [] p1) "__init__" apos) [.Constant (.str msg) j ps1] [] cpos) env = (do
      let ov ← attributeBase (.Call (.Name "super" p0) [] [] p1) "__init__" env (eval (.Call (.Name "super" p0) [] [] p1) env)
      standAt apos.atName
      let (f, first) ← holding [ov] (getMethod ov "__init__" (pl env))
      callWith cpos f first (backTo cpos (starEach [.Constant (.str msg) j ps1] env)) []) := by intro _; rfl) : XcK P w K mg base 1 x C [f1] ks gV := by
  obtain ⟨ccl, cdd, vs0, ccs, file, tf, h1, h2, h3⟩ := hF
  obtain ⟨cl, cld, csl, h4⟩ := hc
  obtain ⟨cd, h5⟩ := T.cls
  refine ⟨f, T.oex, T.ini, T.tyI, fnk_of (sp := spExc C [f1]) ?_ hb, T.nam⟩
  refine fn_sup (CX := CX0) (k := 0) (N := ["self", v, "__class__"]) lk hcd S hp (by rw [har]; rfl) h1 h2 h3 h4 h5 hks T.top T.nsu T.thi (fun vs H Q E h => ?_) (fun A outer s H vs Q E hr h => ?_) (fun _ => rfl) (fun _ => rfl) ht
  · obtain ⟨a, ws, rfl, hl, _⟩ := h
    show ws.length + 1 = 2
    rw [hl] <;> rfl
  · obtain ⟨a, ws, rfl, hl, ea, k⟩ := h
    match ws, hl with
    | [y], _ =>
      refine ⟨_, _, pa_cons pe_str pa_nil, pss_one (ps_ost (pe_var (i := 0) rfl (.inl (S.par _ (by simp)))) (pe_var (i := 1) rfl (.inl (S.par _ (by simp))) hv1 hv2)), ?_⟩
      refine ⟨a, C, rfl, T.oex, ea, T.mro, T.sup, T.sub, ?_⟩
      refine ⟨by show 1 ≤ 1000; decide, ea, ?_⟩
      refine ⟨y, rfl, .ref a, rfl, a, C, rfl, T.oex, hno, .inl ⟨ea, fun dx nd ne => ?_⟩⟩
      exact k dx _ nd ne upd_same (by rw [upd_ne ne, upd_same]; rfl) fun b h1 h2 => by rw [upd_ne h1, upd_ne h2]
/-- two fields -/
theorem okk_x2 (T : XcF P K mg x C f)
    (lk : K.lookup f = some ⟨oc, od, .func (PySem.W.ksFn "__init__" qual params [.Expr (.Call (.Attribute (.Call (.Name "super" p0) [] [] p1) "__init__" apos) [.Constant (.str msg) j ps1] [] cpos) pos, .Assign [.Attribute (.Name "self" q1) f1 q2] (.Name v q3) q4, .Assign [.Attribute (.Name "self" q5) f2 q6] (.Name v2 q7) q8] scope dV kV doc pm an (.ref cda) ct cc), osl⟩)
    (hcd : PySem.W.codeIn K (.ref cda) qual = true) (S : NScope ["self", v, v2, "__class__"] ["self", v, v2] ["__class__"] scope) (hp : (params.posonlyargs ++ params.args).head? = some ar) (har : ar.arg = "self") (hF : FileIs P K cda) (hc : CellIs K cc C)
    (hks : scope.names.lookup ("super" : Str) = some .globalImplicit) (hno : PySem.W.findIn K (.ref C) f1 = some none) (hno2 : PySem.W.findIn K (.ref C) f2 = some none) (hv1 : (v == ("__debug__" : Str)) = false) (hv2 : (v == ("__classdict__" : Str)) = false) (hw1 : (v2 == ("__debug__" : Str)) = false) (hw2 : (v2 == ("__classdict__" : Str)) = false)
    (hb : KBn K (PySem.W.ksFn "__init__" qual params [.Expr (.Call (.Attribute (.Call (.Name "super" p0) [] [] p1) "__init__" apos) [.Constant (.str msg) j ps1] [] cpos) pos, .Assign [.Attribute (.Name "self" q1) f1 q2] (.Name v q3) q4, .Assign [.Attribute (.Name "self" q5) f2 q6] (.Name v2 q7) q8] scope dV kV doc pm an (.ref cda) ct cc) ["self", v, v2] 1 ks g gV)
    {pl : Env → Sem Bool} (ht : ∀ env : Env, eval (.Call (.Attribute (.Call (.Name "super" p0) [] [] p1) "__init__" apos) [.Constant (.str msg) j ps1] [] cpos) env = (do
      let ov ← attributeBase (.Call (.Name "super" p0) [] [] p1) "__init__" env (eval (.Call (.Name "super" p0) [] [] p1) env)
      standAt apos.atName
      let (f, first) ← holding [ov] (getMethod ov "__init__" (pl env))
      callWith cpos f first (backTo cpos (starEach [.Constant (.str msg) j ps1] env)) []) := by intro _; rfl) : XcK P w K mg base 1 x C [f1, f2] ks gV := by
  obtain ⟨ccl, cdd, vs0, ccs, file, tf, h1, h2, h3⟩ := hF
  obtain ⟨cl, cld, csl, h4⟩ := hc
  obtain ⟨cd, h5⟩ := T.cls
  refine ⟨f, T.oex, T.ini, T.tyI, fnk_of (sp := spExc C [f1, f2]) ?_ hb, T.nam⟩
  refine fn_sup (CX := CX0) (k := 0) (N := ["self", v, v2, "__class__"]) lk hcd S hp (by rw [har]; rfl) h1 h2 h3 h4 h5 hks T.top T.nsu T.thi (fun vs H Q E h => ?_) (fun A outer s H vs Q E hr h => ?_) (fun _ => rfl) (fun _ => rfl) ht
  · obtain ⟨a, ws, rfl, hl, _⟩ := h
    show ws.length + 1 = 3
    rw [hl] <;> rfl
  · obtain ⟨a, ws, rfl, hl, ea, k⟩ := h
    match ws, hl with
    | [y, z], _ =>
      refine ⟨_, _, pa_cons pe_str pa_nil, pss_cons (ps_ost (pe_var (i := 0) rfl (.inl (S.par _ (by simp)))) (pe_var (i := 1) rfl (.inl (S.par _ (by simp))) hv1 hv2)) (pss_one (ps_ost (pe_var (i := 0) rfl (.inl (S.par _ (by simp)))) (pe_var (i := 2) rfl (.inl (S.par _ (by simp))) hw1 hw2))), ?_⟩
      refine ⟨a, C, rfl, T.oex, ea, T.mro, T.sup, T.sub, ?_⟩
      refine ⟨by show 1 ≤ 1000; decide, ea, ?_⟩
      refine ⟨y, rfl, .ref a, rfl, a, C, rfl, T.oex, hno, .inl ⟨ea, fun dx nd ne => ?_⟩⟩
      refine ⟨z, rfl, .ref a, rfl, a, C, rfl, T.oex, hno2, .inr ⟨dx, _, upd_same, by rw [upd_ne ne, upd_same], by show 1 ≤ 900; decide, ?_⟩⟩
      exact k dx _ nd ne (by rw [upd_ne (Ne.symm ne), upd_same]) (by rw [upd_same]; rfl) fun b h1 h2 => by rw [upd_ne h2, upd_ne h1, upd_ne h2]
end
end SB

/-! A class called within try; isinstance of the caught exception. -/
namespace SB
open PySem PySem.Spec PyProof.Rows L2 NdefX LamX
def tMlS (C : Addr) (sp : Sp) (E : L2.St → XK) (t : TA) : TE := fun σ H Q => t σ H fun vs H1 => ∀ x dx, H1 x = Option.none → H1 dx = Option.none → dx ≠ x →
  sp (V.ref x :: vs) (upd (upd H1 dx (.own x)) x (.ins C dx [])) (fun v H2 => v = .non ∧ Q (.ref x) H2) (E σ)
theorem run_makeRS {X : Cx} {CX : CXT} {k : Nat} {f C : Addr} {sp : Sp} {E : XK} {pins : List (Addr × Obj)} {σ : L2.St} {H : Hp} {s : Shared} {Q : VK} {us : List Value} {vs : List V} (M : Mk X.K C f) (F : FnR X.prog X.w X.K X.mg X.base CX k f sp) (hr : Room (k + 1) X.A) (hx : PassesAt CX X σ E) (I : Inv X pins σ H s) (r : Vals vs us)
    (h : ∀ x dx, H x = Option.none → H dx = Option.none → dx ≠ x → sp (V.ref x :: vs) (upd (upd H dx (.own x)) x (.ins C dx [])) (fun v H2 => v = .non ∧ Q (.ref x) H2) E) :
    wpAny (model X.prog X.w) X.A (call (.ref C) us) (EP X pins σ Q) X.xe s := by
  have hq := h (s.heap.objs.size + 1) s.heap.objs.size (I.hok.fresh (Nat.le_succ _)) (I.hok.fresh (Nat.le_refl _)) (Nat.ne_of_lt (Nat.lt_succ_self _))
  have I2 := Inv.made (C := C) I
  have r2 : Vals (V.ref (s.heap.objs.size + 1) :: vs) (Value.ref (s.heap.objs.size + 1) :: us) := .cons rfl r
  refine wpAny_call (make_map (f := f) I.kIn M.makes M.init (beq_iff_eq.mp M.fn) (codeAny_mono (F _ X.stack _ _ (Value.ref (s.heap.objs.size + 1) :: us) _ _ E (hr.make C us []) (I2.env0.make C us []) r2 hq) fun r s' hq' => ?_))
  cases r with
  | error e => exact hx pins _ _ e s' I2 hq'
  | ok fl =>
    cases fl with
    | ret u =>
      obtain ⟨v, H', I3, rv, ev, q3⟩ := I2.after hq'
      subst ev
      exact ⟨rv, ⟨V.ref (s.heap.objs.size + 1), H', I3, rfl, q3⟩⟩
    | next => exact False.elim hq'
    | brk => exact False.elim hq'
    | cont => exact False.elim hq'
theorem pe_mlS {X : Cx} {CX : CXT} {k j : Nat} {x : Str} {C : Addr} {sp : Sp} {E : L2.St → XK} {p pos : Pos} {e : Expr} {es : List Expr} {t : TA} {P : Program} {w : World} {K : PySem.W.Frag} {mg : Str → Option Value} {base : Heap} (hP : X.prog = P) (hw : X.w = w) (hK : X.K = K) (hm' : X.mg = mg) (hb : X.base = base)
    (c : Ml P w K mg base CX k x C sp) (hr : Room j X.A) (hk : k + 1 ≤ j) (hg : Gl X x) (hx : ∀ σ, PassesAt CX X σ (E σ)) (ha : PA X (e :: es) t) (hdb : (x == ("__debug__" : Str)) = false := by decide)
    (he : starEach (e :: es) X.env = (false, eval e X.env) :: starEach es X.env := by rfl) (hpl : (backTo pos (starEach es X.env)).any (·.1) = false := by rfl) : PE X (.Call (.Name x p) (e :: es) [] pos) (tMlS C sp E t) := by
  subst hP hw hK hm' hb
  obtain ⟨f, M, F, hm⟩ := c.ex
  refine ⟨fun pins s σ H Q I h => ?_⟩
  refine wpAny_Call_Name_kw (ld_glob I hg hm ?_ hdb)
  refine PySem.W.callWith_K (h₀ := X.base) I.ok.mod.kin M.kp (thn (ha.run pos pins s σ H _ I h) fun us s1 ⟨vs, H1, I1, r, q⟩ => ⟨I1.kIn, ?_⟩) he hpl
  exact run_makeRS M F (hr.mono hk) (hx σ) I1 r q
/-- isinstance(e, c), e the caught exception at a -/
def rIsiP (K : PySem.W.Frag) (a : Addr) (cls : Value) (d : Option Addr) : List V → Hp → VK → Prop := fun xs H Q => ∃ (C dd : Addr) (fs : List (Str × V)) (c : V) (u : Value) (b : Bool), xs = [.ref a, c] ∧ ClsV c u ∧ cls = .ref C ∧ d = some dd ∧ H dd = some (.xd fs) ∧ ExvC K C ∧ PySem.W.kitOne K (.ref C) u = some b ∧ Q (.bl b) H
theorem call_isiP {X : Cx} {a : Addr} {oe : Obj} {cls : Value} {d : Option Addr} {pn : List (Addr × Obj)} (hz : Zc cls d oe) (hf : ∃ vs, oe.data = .fields vs) : CallR (X.suite a ((a, oe) :: pn)) (.builtin "isinstance") (rIsiP X.K a cls d) := by
  intro pins s σ H xs us Q I r h
  obtain ⟨C, dd, fs, c, u, b, rfl, k, ec, ed, ea, T, e, q⟩ := h
  subst ec
  subst ed
  obtain ⟨u1, u2, rfl, r1, r2⟩ := vals2 r
  have e2 := k.eq r2
  subst e2
  obtain rfl : u1 = Value.ref a := r1
  obtain ⟨ha, _⟩ := I.pin (a, oe) (List.mem_append_left _ List.mem_cons_self)
  obtain ⟨vs, hd⟩ := hf
  have hx : ObjOk X.prog X.w H s.heap dd (.xd fs) := I.hok dd _ ea
  obtain ⟨mA, hns, hr⟩ := hx
  obtain ⟨od, ho, hl⟩ := lookIn_ns hns
  have J : PySem.W.InstAt s.heap a oe C (some od) := ⟨ha, hz.1, by unfold PySem.W.notCls; rw [hd] <;> rfl, by rw [hz.2]; exact ho⟩
  exact PySem.W.kia_one (PySem.W.kitx_exc T.cl T.xf.ga T.xf.gg T.xf.exC T.ca T.cn T.ct T.cm) I.kIn J e (fun z => nomatch z) fun tk => ⟨.bl b, H, I.tok tk, rfl, q⟩
end SB

namespace MM
end MM
namespace MV
open PySem PySem.Spec PyProof.Rows L2 SB
local macro_rules | `(tactic| walk_at "rd") => `(tactic| repeat (first | (refine ⟨_, rfl, ?_⟩) | (refine ⟨_, _, rfl, rfl, ?_⟩)))
def top (i : Nat) : Stmt := PySem.Challenge.pw_sidelists_k05_errors.main.body.getD i (.Pass ⟨0, 0, 0, 0⟩)
abbrev s_bag : Stmt := top 33
abbrev s_take : Stmt := top 34
/-- the built-ins that the text calls -/
structure Blt (mg : Str → Option Value) : Prop where
  n_len : mg "len" = none
  n_abs : mg "abs" = none
  n_int : mg "int" = none
  n_range : mg "range" = none
  n_list : mg "list" = none
  n_tuple : mg "tuple" = none
  n_str : mg "str" = none
  n_max : mg "max" = none
  n_min : mg "min" = none
  n_enumerate : mg "enumerate" = none
  n_isinstance : mg "isinstance" = none
/-- a source of draws that was asked at most n times -/
def BagL (l : List V) (n : Nat) : Prop := ∃ d m c : Int, l = [.int d, .int m, .int c] ∧ 0 ≤ m ∧ m ≤ 100000000000000000000 ∧ 0 ≤ c ∧ c ≤ (n : Int)
theorem BagL.mono {l : List V} {n k : Nat} (h : BagL l n) (hk : n ≤ k) : BagL l k := by
  obtain ⟨d, m, c, e, h1, h2, h3, h4⟩ := h
  exact ⟨d, m, c, e, h1, h2, h3, by omega⟩
def BagAt (H : Hp) (b : Addr) (n : Nat) : Prop := ∃ l, H b = some (.lst l) ∧ BagL l n
def spBag (K : PySem.W.Frag) : Sp := fun vs H Q _ => ∃ (a : Addr) (ns : List Int) (i : Int), vs = [.ref a, .int i] ∧ SqL K H a (ns.map V.int) ∧ 0 ≤ i ∧ i ≤ 100 ∧ ns.length ≤ 1000 ∧
  ∀ (b : Addr) (l : List V), H b = none → BagL l 0 → Q (.ref b) (upd H b (.lst l))
def spTake : Sp := fun vs H Q _ => ∃ (b : Addr) (many : Int) (l : List V) (n : Nat), vs = [.ref b, .int many] ∧ H b = some (.lst l) ∧ BagL l n ∧ n < 1000000 ∧ 0 < many ∧ many < 2 ^ 200 ∧
  ∀ (r : Int) (l' : List V), 0 ≤ r → r < many → BagL l' (n + 1) → Q (.int r) (upd H b (.lst l'))
section
variable {P : Program} {w : World} {K : PySem.W.Frag} {mg : Str → Option Value} {base : Heap}
theorem sc_bag : FnScope ["_law_script", "_law_at", "_law_cell", "_law_digits"] ["_law_script", "_law_at"] (defScope s_bag) := ⟨rfl, rfl, rfl, by decide +kernel, rfl, by decide +kernel, by decide +kernel⟩
theorem ok_bag {f : Addr} {fd : FuncData} (F : Fun K "_law_bag" "_law_bag" s_bag f fd) (T : Blt mg) : FnR P w K mg base CX0 1 f (spBag K) := by
  refine fnr F sc_bag (fun vs H Q E h => ?_) (fun _ _ _ _ _ _ us hl => match us, hl with | [_, _], _ => rfl) (fun cdv A outer s H vs Q E hr h => ?_)
  · obtain ⟨a, ns, i, rfl, _⟩ := h
    rfl
  · obtain ⟨a, ns, i, rfl, hS, h0, h1, hz, k⟩ := h
    refine ⟨_, (C8.pss_cut (ps_set (i := 2) sc_bag.nd rfl (Or.inl rfl) (pe_ifExp (pt_cmpR op_lt (pv 1) (pe_callB call_len_seq (by rfl) T.n_len (by decide +kernel) (pa_cons (pv 0) pa_nil)) (nomark _)) (pe_ix ix_list (pv 0) (pv 1) (fun _ _ => rfl)) pe_int))
      (C8.pss_cut (ps_set (i := 3) sc_bag.nd rfl (Or.inl rfl) (pe_ifExp (pt_cmpR op_ge (pe_callB call_abs (by rfl) T.n_abs (by decide +kernel) (pa_cons (pv 2) pa_nil)) (pe_op op_powM pe_int pe_int) (nomark _)) (pe_callB call_abs (by rfl) T.n_abs (by decide +kernel) (pa_cons (pv 2) pa_nil)) pe_int))
      (pss_one (ps_ret (pe_lst (pa_cons (pv 3) (pa_cons (pe_op op_add (pe_op op_add (pe_op op_mul (pe_op op_mod (pe_callTy call_int1 (by rfl) T.n_int (by decide +kernel) (pa_cons (pv 2) pa_nil)) pe_int) pe_int) (pe_op op_mul pe_int (pv 1))) pe_int) (pa_cons pe_int pa_nil)))))))), ?_⟩
    refine ⟨fun σ' H' => ∃ z : Int, σ' = [some (.ref a), some (.int i), some (.int z), none] ∧ H' = H, ?_, ?_⟩
    · walk_at "rd"
      refine ⟨a, _, rfl, .inl hS, ?_⟩
      walk_at "rd"
      refine ite2 (fun c => ?_) (fun c => ?_)
      · have c' : i < (ns.length : Int) := by simpa using of_decide_eq_true c
        walk_at "rd"
        have hj : i.toNat < ns.length := by omega
        refine ⟨a, _, i, .int ns[i.toNat], rfl, rfl, hS, at_of (j := i.toNat) (by omega) (by rw [List.getElem?_map, List.getElem?_eq_getElem hj]; rfl), ?_⟩
        exact ⟨_, rfl, rfl⟩
      · exact ⟨0, rfl, rfl⟩
    · rintro σ' H' ⟨z, rfl, rfl⟩
      refine ⟨fun σ' H'' => ∃ d : Int, σ' = [some (.ref a), some (.int i), some (.int z), some (.int d)] ∧ H'' = H', ?_, ?_⟩
      · walk_at "rd"
        refine ⟨⟨by decide, by decide, by decide⟩, ?_⟩
        walk_at "rd"
        refine ite2 (fun c => ?_) (fun c => ?_)
        · walk_at "rd"
          rfl
        · exact ⟨0, rfl, rfl⟩
      · rintro σ' H'' ⟨d, rfl, rfl⟩
        walk_at "rd"
        refine .inl ⟨_, rfl, ?_⟩
        walk_at "rd"
        refine ⟨(by show (0 : Int) < 2305843009213693951; decide), ?_⟩
        walk_at "rd"
        refine ⟨.inr ⟨by decide, by decide⟩, ?_⟩
        walk_at "rd"
        refine ⟨.inl ⟨by decide, by decide⟩, ?_⟩
        walk_at "rd"
        have z0 : 0 ≤ z % 2305843009213693951 := Int.emod_nonneg _ (by decide)
        have z1 : z % 2305843009213693951 < 2305843009213693951 := Int.emod_lt_of_pos _ (by decide)
        refine ⟨by show 3 ≤ sizeLine; decide, fun p hp => k p _ hp ⟨_, _, _, rfl, ?_, ?_, ?_, ?_⟩⟩
        all_goals omega
theorem sc_take : FnScope ["_law_bag_here", "_law_many", "_law_digit", "_law_mixed"] ["_law_bag_here", "_law_many"] (defScope s_take) := ⟨rfl, rfl, rfl, by decide +kernel, rfl, by decide +kernel, by decide +kernel⟩
theorem ok_take {f : Addr} {fd : FuncData} (F : Fun K "_law_take" "_law_take" s_take f fd) (T : Blt mg) : FnR P w K mg base CX0 1 f spTake := by
  refine fnr F sc_take (fun vs H Q E h => ?_) (fun _ _ _ _ _ _ us hl => match us, hl with | [_, _], _ => rfl) (fun cdv A outer s H vs Q E hr h => ?_)
  · obtain ⟨a, ns, i, _, rfl, _⟩ := h
    rfl
  · obtain ⟨b, many, l, n, rfl, hb, ⟨d, m, c, rfl, m0, m1, c0, c1⟩, hn, hm0, hm1, k⟩ := h
    refine ⟨_, (pss_cons (ps_if (pt_cmpR op_gt (pe_ix ix_list (pv 0) pe_int (fun _ _ => rfl)) pe_int (nomark _)) (pss_cons (ps_set (i := 2) sc_take.nd rfl (Or.inl rfl) (pe_op op_mod (pe_callTy call_int1 (by rfl) T.n_int (by decide +kernel) (pa_cons (pe_ix ix_list (pv 0) pe_int (fun _ _ => rfl)) pa_nil)) (pv 1)))
        (pss_cons (ps_asg (pe_op op_fdivW (pe_ix ix_list (pv 0) pe_int (fun _ _ => rfl)) (pv 1)) (pg_sub (pv 0) pe_int set_list))
        (pss_one (ps_ret (pv 2))))) pss_nil)
      (pss_cons (ps_asg (pe_op op_add (pe_ix ix_list (pv 0) pe_int (fun _ _ => rfl)) pe_int) (pg_sub (pv 0) pe_int set_list))
      (pss_cons (ps_set (i := 3) sc_take.nd rfl (Or.inl rfl) (pe_op op_mod (pe_callTy call_int1 (by rfl) T.n_int (by decide +kernel) (pa_cons (pe_op op_powM (pe_op op_add (pe_ix ix_list (pv 0) pe_int (fun _ _ => rfl)) (pe_op op_mul pe_int (pe_ix ix_list (pv 0) pe_int (fun _ _ => rfl)))) pe_int) pa_nil)) pe_int))
      (pss_cons (ps_set (i := 3) sc_take.nd rfl (Or.inl rfl) (pe_op op_mod (pe_callTy call_int1 (by rfl) T.n_int (by decide +kernel) (pa_cons (pe_op op_powM (pe_op op_add (pv 3) (pe_op op_mul pe_int (pe_ix ix_list (pv 0) pe_int (fun _ _ => rfl)))) pe_int) pa_nil)) pe_int))
      (pss_one (ps_ret (pe_op op_mod (pe_callTy call_int1 (by rfl) T.n_int (by decide +kernel) (pa_cons (pe_op op_fdiv (pv 3) pe_int) pa_nil)) (pv 1)))))))), ?_⟩
    have hq := SqL.of (K := K) hb
    walk_at "rd"
    refine ⟨b, _, _, _, rfl, rfl, hq, rfl, ?_⟩
    walk_at "rd"
    refine ite2 (fun g => ?_) (fun g => ?_)
    · walk_at "rd"
      refine ⟨b, _, _, _, rfl, rfl, hq, rfl, ?_⟩
      refine .inl ⟨_, rfl, ?_⟩
      walk_at "rd"
      refine ⟨hm0, ?_⟩
      walk_at "rd"
      refine ⟨b, _, _, _, rfl, rfl, hq, rfl, ?_⟩
      walk_at "rd"
      refine ⟨wide_div (b := 200) hm0 (by omega) (by decide) (by decide), ?_⟩
      walk_at "rd"
      refine ⟨b, _, _, 0, rfl, rfl, hb, rfl, ?_⟩
      walk_at "rd"
      exact k _ _ (Int.emod_nonneg _ (by omega)) (Int.emod_lt_of_pos _ hm0) ⟨_, m, c, rfl, m0, m1, c0, by omega⟩
    · walk_at "rd"
      refine ⟨b, _, _, _, rfl, rfl, hq, rfl, ?_⟩
      walk_at "rd"
      refine ⟨b, _, _, 2, rfl, rfl, hb, rfl, ?_⟩
      have hb2 : (upd H b (.lst [.int d, .int m, .int (c + 1)])) b = some (.lst [.int d, .int m, .int (c + 1)]) := upd_same
      have hq2 := SqL.of (K := K) hb2
      walk_at "rd"
      refine ⟨b, _, _, _, rfl, rfl, hq2, rfl, ?_⟩
      walk_at "rd"
      refine ⟨b, _, _, _, rfl, rfl, hq2, rfl, ?_⟩
      walk_at "rd"
      refine ⟨.inl ⟨by decide, by decide⟩, ?_⟩
      walk_at "rd"
      refine ⟨⟨by decide, by decide, by omega⟩, ?_⟩
      refine .inl ⟨_, rfl, ?_⟩
      walk_at "rd"
      refine ⟨(by show (0 : Int) < 2305843009213693921; decide), ?_⟩
      walk_at "rd"
      refine ⟨b, _, _, _, rfl, rfl, hq2, rfl, ?_⟩
      walk_at "rd"
      refine ⟨.inl ⟨by decide, by decide⟩, ?_⟩
      walk_at "rd"
      have y0 := Int.emod_nonneg ((m + 15485863 * (c + 1)) ^ 3) (show (2305843009213693921 : Int) ≠ 0 by decide)
      have y1 := Int.emod_lt_of_pos ((m + 15485863 * (c + 1)) ^ 3) (show (0 : Int) < 2305843009213693921 by decide)
      refine ⟨⟨by decide, by decide, (by show ((m + 15485863 * (c + 1)) ^ 3 % 2305843009213693921 + 86028121 * (c + 1)).natAbs < 2 ^ 200; omega)⟩, ?_⟩
      refine .inl ⟨_, rfl, ?_⟩
      walk_at "rd"
      refine ⟨(by show (0 : Int) < 2305843009213693951; decide), ?_⟩
      walk_at "rd"
      refine ⟨⟨by decide, by decide⟩, ?_⟩
      refine .inl ⟨_, rfl, ?_⟩
      walk_at "rd"
      refine ⟨hm0, ?_⟩
      exact k _ _ (Int.emod_nonneg _ (by omega)) (Int.emod_lt_of_pos _ hm0) ⟨_, m, c + 1, rfl, m0, m1, by omega, by omega⟩
end
end MV

namespace MV
open PySem PySem.Spec PyProof.Rows L2 SB MM
local macro_rules | `(tactic| walk_at "rd") => `(tactic| repeat (first | (refine ⟨_, rfl, ?_⟩) | (refine ⟨_, _, rfl, rfl, ?_⟩) | (refine ⟨_, _, rfl, ?_⟩) | (refine ⟨rfl, ?_⟩)))
abbrev s_of : Stmt := top 35
/-- one of some values -/
def spOf (K : PySem.W.Frag) : Sp := fun vs H Q _ => ∃ (b p : Addr) (l xs : List V) (n : Nat), vs = [.ref b, .ref p] ∧ H b = some (.lst l) ∧ BagL l n ∧ n < 1000000 ∧ H p = some (.lst xs) ∧ p ≠ b ∧ 0 < xs.length ∧ xs.length ≤ 100000 ∧
  ∀ (j : Nat) (x : V) (l' : List V), xs[j]? = some x → BagL l' (n + 1) → Q x (upd H b (.lst l'))
section
variable {P : Program} {w : World} {K : PySem.W.Frag} {mg : Str → Option Value} {base : Heap}
theorem sc_of : FnScope ["_law_bag_here", "_law_some"] ["_law_bag_here", "_law_some"] (defScope s_of) := ⟨rfl, rfl, rfl, by decide +kernel, rfl, by decide +kernel, by decide +kernel⟩
theorem ok_of {f : Addr} {fd : FuncData} (F : Fun K "_law_of" "_law_of" s_of f fd) (T : Blt mg) (Dtake : Cl P w K mg base CX0 1 "_law_take" spTake) : FnR P w K mg base CX0 2 f (spOf K) := by
  refine fnr F sc_of (fun vs H Q E h => ?_) (fun _ _ _ _ _ _ us hl => match us, hl with | [_, _], _ => rfl) (fun cdv A outer s H vs Q E hr h => ?_)
  · obtain ⟨b, p, l, xs, n, rfl, _⟩ := h
    rfl
  · obtain ⟨b, p, l, xs, n, rfl, hb, hl, hn, hp, npb, h0, hz, k⟩ := h
    refine ⟨_, (pss_one (ps_ret (pe_ix ix_list (pv 1) (by exact (pe_cl Dtake hr (by decide) (by rfl) pass0 (pa_cons (pv 0) (pa_cons (pe_callB call_len_seq (by rfl) T.n_len (by decide +kernel) (pa_cons (pv 1) pa_nil)) pa_nil)))) (fun _ _ => rfl)))), ?_⟩
    walk_at "rd"
    refine ⟨p, xs, rfl, .inl (SqL.of hp), ?_⟩
    refine ⟨b, _, l, n, rfl, hb, hl, hn, by omega, by omega, fun r l' r0 r1 hl' => ?_⟩
    have hj : r.toNat < xs.length := by omega
    refine ⟨p, xs, r, xs[r.toNat], rfl, rfl, SqL.of (by rw [upd_ne npb]; exact hp), at_of (j := r.toNat) (by omega) (List.getElem?_eq_getElem hj), ?_⟩
    exact k r.toNat _ l' (List.getElem?_eq_getElem hj) hl'
end
end MV

/-! (parts of ExK and NnL that name no keeper) -/
namespace MV
open PySem PySem.Spec PyProof.Rows L2 SB MM LamX
section
variable {b : Addr} {H H' : Hp}
theorem tabs_keep {T : List (Addr × Str)} {l : List V} (hT : Tabs T H) (hb : H b = some (.lst l)) (kp : KeepB b H H') : Tabs T H' := by
  intro p hp
  obtain ⟨tb, h1, h2, h3⟩ := hT p hp
  refine ⟨tb, kp _ _ h1 (by intro z; rw [z, hb] at h1; cases h1), h2, fun pos cv hcv => ?_⟩
  obtain ⟨cx, e1, e2⟩ := h3 pos cv hcv
  exact ⟨cx, e1, kp _ _ e2 (by intro z; rw [z, hb] at e2; have e3 := Option.some.inj e2; unfold CodeO at e3; cases e3)⟩
end
theorem catA_of {K : PySem.W.Frag} {H : Hp} {a b : Addr} {xs ys : List V} {Q : VK} (ha : H a = some (.tup xs)) (hb : H b = some (.tup ys)) (hz : xs.length + ys.length ≤ sizeLine) (k : ∀ q H', Same H H' → H' q = some (.tup (xs ++ ys)) → Q (.ref q) H') : rCatA K (.ref a) (.ref b) H Q := by
  refine ⟨a, b, xs, ys, rfl, rfl, SqT.of ha, SqT.of hb, hz, fun e => ?_, fun e1 e => ?_, fun _ _ p hp => k p _ (same_new (Same.refl H) hp) upd_same⟩
  · exact k b H (Same.refl H) (by rw [hb, e]; rfl)
  · exact k a H (Same.refl H) (by rw [ha, e, List.append_nil])
theorem cut_to (xs : List V) (k : Nat) (h : k ≤ xs.length) : cutV xs none (some (k : Int)) = xs.take k := by
  unfold cutV
  rw [HT.sIx_none, HT.sIx_nat, List.drop_zero, Nat.sub_zero, Nat.min_eq_left h]
theorem cut_from (xs : List V) (k : Nat) (h : k ≤ xs.length) : cutV xs (some (k : Int)) none = xs.drop k := by
  unfold cutV
  rw [HT.sIx_none, HT.sIx_nat, Nat.min_eq_left h, List.take_of_length_le (by rw [List.length_drop]; omega)]
theorem slT_to {K : PySem.W.Frag} {H : Hp} {a : Addr} {xs : List V} {Q : VK} {k : Nat} (ha : H a = some (.tup xs)) (h : k < xs.length) (q : ∀ p, H p = none → Q (.ref p) (upd H p (.tup (xs.take k)))) : rSlT K (.ref a) none (some (k : Int)) H Q := by
  refine ⟨a, xs, rfl, SqT.of ha, fun z => ?_, fun p hp => ?_⟩
  · have := z.2
    rw [HT.sIx_nat] at this
    omega
  · rw [cut_to _ _ (by omega)]
    exact q p hp
theorem slT_from {K : PySem.W.Frag} {H : Hp} {a : Addr} {xs : List V} {Q : VK} {k : Nat} (ha : H a = some (.tup xs)) (h : k < xs.length) (q : ∀ p, H p = none → Q (.ref p) (upd H p (.tup (xs.drop (k + 1))))) : rSlT K (.ref a) (some ((k : Int) + 1)) none H Q := by
  have e : ((k : Int) + 1) = ((k + 1 : Nat) : Int) := by omega
  rw [e]
  refine ⟨a, xs, rfl, SqT.of ha, fun z => ?_, fun p hp => ?_⟩
  · have := z.1
    rw [HT.sIx_nat] at this
    omega
  · rw [cut_from _ _ (by omega)]
    exact q p hp
end MV

namespace MV
open PySem PySem.Spec PyProof.Rows L2 SB MM LamX
/-! (VL without the keepers.) How a heap goes on: all but the addresses in L stays; kinds stay; the tables of code objects are told anew. -/
theorem st_nil {σ : L2.St} {H : Hp} {Q : List V → Hp → Prop} (h : Q [] H) : tNil σ H Q := h
theorem st_cons {ta : TE} {tr : TA} {σ : L2.St} {H : Hp} {Q : List V → Hp → Prop} (h : ta σ H fun x H1 => tr σ H1 fun xs H2 => Q (x :: xs) H2) : tCons ta tr σ H Q := h
theorem st_C {v : V} {σ : L2.St} {H : Hp} {Q : VK} (h : Q v H) : tC v σ H Q := h
def Fix : HO → Prop
  | .tup _ => True
  | .frz _ (.tup _) => True
  | .frz _ (.lst _) => True
  | .frz _ (.dK _) => True
  | _ => False
def NT (o : HO) : Prop := ∀ ps, o ≠ .tbl ps
def Kin : HO → HO → Prop
  | .lst _, o => ∃ xs, o = .lst xs
  | .ins C _ _, o => ∃ dx fs, o = .ins C dx fs
  | .dK _, o => ∃ kvs, o = .dK kvs
  | .dT _, o => ∃ kvs, o = .dT kvs
  | o, o' => o' = o
theorem Kin.refl : ∀ o : HO, Kin o o
  | .lst _ => ⟨_, rfl⟩
  | .ins _ _ _ => ⟨_, _, rfl⟩
  | .dK _ => ⟨_, rfl⟩
  | .tup _ => rfl
  | .dT _ => ⟨_, rfl⟩
  | .set _ _ => rfl
  | .own _ => rfl
  | .xd _ => rfl
  | .met _ _ => rfl
  | .rng _ _ => rfl
  | .frz _ _ => rfl
  | .tbl _ => rfl
  | .ext _ => rfl
theorem Kin.nt {o o' : HO} (k : Kin o o') (n : NT o) : NT o' := by
  intro ps e
  subst e
  cases o with
  | tbl _ => exact absurd rfl (n _)
  | lst _ => obtain ⟨_, z⟩ := k; cases z
  | dK _ => obtain ⟨_, z⟩ := k; cases z
  | dT _ => obtain ⟨_, z⟩ := k; cases z
  | ins _ _ _ => obtain ⟨_, _, z⟩ := k; cases z
  | _ => have z : HO.tbl ps = _ := k; cases z
theorem Kin.trans {a b c : HO} (x : Kin a b) (y : Kin b c) : Kin a c := by
  cases a with
  | lst _ => obtain ⟨_, rfl⟩ := x; exact y
  | dK _ => obtain ⟨_, rfl⟩ := x; exact y
  | dT _ => obtain ⟨_, rfl⟩ := x; exact y
  | ins _ _ _ => obtain ⟨_, _, rfl⟩ := x; exact y
  | _ => have e : b = _ := x; rw [e] at y; exact y
structure Ev (TS : List (Addr × Str)) (L : List Addr) (H H' : Hp) : Prop where
  st : ∀ p o, H p = some o → (p ∈ L → Fix o) → NT o → H' p = some o
  kd : ∀ p o, H p = some o → NT o → ∃ o', H' p = some o' ∧ Kin o o'
  tb : Tabs TS H → Tabs TS H'
/-- unlike addresses, seen from H -/
def NeH (_ : Hp) (p q : Addr) : Prop := p ≠ q
def Nin (H : Hp) (p : Addr) : List Addr → Prop
  | [] => True
  | q :: r => NeH H p q ∧ Nin H p r
theorem Nin.no {H : Hp} {p : Addr} : ∀ {L : List Addr}, Nin H p L → p ∉ L
  | [], _, h => nomatch h
  | q :: r, ⟨h1, h2⟩, h => by
    rcases List.mem_cons.mp h with z | z
    · exact h1 z
    · exact h2.no z
/-- allocated -/
def Al (H : Hp) (p : Addr) : Prop := ∃ o, H p = some o ∧ NT o
def Out (H : Hp) (L : List Addr) : List Addr → Prop
  | [] => True
  | q :: r => (q ∈ L ∨ ¬ Al H q) ∧ Out H L r
theorem Out.at_ {H : Hp} {L : List Addr} : ∀ {M : List Addr}, Out H L M → ∀ q ∈ M, q ∈ L ∨ ¬ Al H q
  | [], _, _, h => nomatch h
  | m :: r, ⟨h1, h2⟩, q, h => by
    rcases List.mem_cons.mp h with z | z
    · rw [z]; exact h1
    · exact h2.at_ q z
section
variable {TS : List (Addr × Str)} {K : PySem.W.Frag} {H H1 H' : Hp} {L L1 : List Addr} {p q a b : Addr} {xs ys : List V}
theorem Al.lst (h : H p = some (.lst xs)) : Al H p := ⟨_, h, fun _ z => by cases z⟩
theorem Al.tup (h : H p = some (.tup xs)) : Al H p := ⟨_, h, fun _ z => by cases z⟩
theorem Al.ins {C dx : Addr} {fs : List (Str × V)} (h : H p = some (.ins C dx fs)) : Al H p := ⟨_, h, fun _ z => by cases z⟩
theorem Al.dK {kvs : List (Key × V)} (h : H p = some (.dK kvs)) : Al H p := ⟨_, h, fun _ z => by cases z⟩
theorem Al.dT {kvs : List (List Key × V)} (h : H p = some (.dT kvs)) : Al H p := ⟨_, h, fun _ z => by cases z⟩
theorem Al.ev (e : Ev TS L H H') (h : Al H p) : Al H' p := by
  obtain ⟨o, h, n⟩ := h
  obtain ⟨o', h', k⟩ := e.kd p o h n
  exact ⟨o', h', k.nt n⟩
theorem Al.ne (hq : H1 q = none) (h : Al H1 p) : NeH H p q := by
  obtain ⟨o, h, _⟩ := h
  exact ne_of_none h hq
/-- new -/
def NA (H : Hp) (p : Addr) : Prop := ¬ Al H p
theorem NA.ne (hq : NA H1 q) (h : Al H1 p) : NeH H p q := fun e => by
  subst e
  exact hq h
theorem NA.ens (hq : NA H1 p) (h : Al H1 q) : NeH H p q := fun e => by
  subst e
  exact hq h
theorem NA.of (h : H q = none) : NA H q := fun ⟨o, e, _⟩ => by
  rw [h] at e
  cases e
/-- kinds -/
def isL (H : Hp) (p : Addr) : Prop := ∃ xs, H p = some (.lst xs)
def isI (H : Hp) (p : Addr) : Prop := ∃ C dx fs, H p = some (.ins C dx fs)
theorem isL.of (h : H p = some (.lst xs)) : isL H p := ⟨_, h⟩
theorem isI.of {C dx : Addr} {fs : List (Str × V)} (h : H p = some (.ins C dx fs)) : isI H p := ⟨_, _, _, h⟩
theorem isL.ev (e : Ev TS L H H') (h : isL H p) : isL H' p := by
  obtain ⟨xs, h⟩ := h
  obtain ⟨o', h', ys, rfl⟩ := e.kd p _ h fun _ z => by cases z
  exact ⟨ys, h'⟩
theorem isI.ev (e : Ev TS L H H') (h : isI H p) : isI H' p := by
  obtain ⟨C, dx, fs, h⟩ := h
  obtain ⟨o', h', dy, ys, rfl⟩ := e.kd p _ h fun _ z => by cases z
  exact ⟨_, _, ys, h'⟩
theorem NeH.symm (h : NeH H p q) : NeH H q p := Ne.symm h
theorem NeH.of (h : p ≠ q) : NeH H p q := h
theorem NeH.ofs (h : q ≠ p) : NeH H p q := Ne.symm h
theorem neLI (h : isL H p) (h' : isI H q) : NeH H p q := by
  obtain ⟨xs, h⟩ := h
  obtain ⟨C, dx, fs, h'⟩ := h'
  exact ne_of h h' (by intro z; cases z)
theorem neIL (h : isI H p) (h' : isL H q) : NeH H p q := (neLI h' h).symm
theorem Al.ens (hq : H1 p = none) (h : Al H1 q) : NeH H p q := (Al.ne (H := H) hq h).symm
theorem isL.al (h : isL H p) : Al H p := by
  obtain ⟨xs, h⟩ := h
  exact Al.lst h
theorem isI.al (h : isI H p) : Al H p := by
  obtain ⟨C, dx, fs, h⟩ := h
  exact Al.ins h
def Le (H H' : Hp) : Prop := ∀ p, Al H p → Al H' p
theorem Le.refl (H : Hp) : Le H H := fun _ h => h
theorem Le.ev (e : Ev TS L H1 H') (l : Le H H1) : Le H H' := fun p h => (l p h).ev e
theorem Le.nal (h : H1 q = none) (l : Le H H1) : ¬ Al H q := fun z => by
  obtain ⟨o, e, _⟩ := l q z
  rw [h] at e
  cases e
theorem Le.na (h : NA H1 q) (l : Le H H1) : NA H q := fun z => h (l q z)
theorem Ev.refl (L : List Addr) (H : Hp) : Ev TS L H H := ⟨fun _ _ h _ _ => h, fun _ o h _ => ⟨o, h, Kin.refl o⟩, id⟩
theorem Ev.trans (x : Ev TS L H H1) (y : Ev TS L1 H1 H') (h : Out H L L1) : Ev TS L H H' := by
  refine ⟨fun p o e f n => ?_, fun p o e n => ?_, fun t => y.tb (x.tb t)⟩
  · refine y.st p o (x.st p o e f n) (fun hp => ?_) n
    rcases h.at_ p hp with z | z
    · exact f z
    · exact absurd ⟨o, e, n⟩ z
  · obtain ⟨o1, e1, k1⟩ := x.kd p o e n
    obtain ⟨o2, e2, k2⟩ := y.kd p o1 e1 (k1.nt n)
    exact ⟨o2, e2, k1.trans k2⟩
theorem Ev.trans' (y : Ev TS L1 H1 H') (x : Ev TS L H H1) (h : Out H L L1) : Ev TS L H H' := x.trans y h
theorem ev_tabs (e : Ev TS L H H') (h : Tabs TS H) : Tabs TS H' := e.tb h
theorem Ev.mono (x : Ev TS L H H') (h : ∀ p ∈ L, p ∈ L1) : Ev TS L1 H H' := ⟨fun p o e f n => x.st p o e (fun z => f (h p z)) n, x.kd, x.tb⟩
/-- what is new there was not here -/
theorem Ev.nal (x : Ev TS L H H1) (h : H1 q = none) : ¬ Al H q := fun z => by
  obtain ⟨o, e, _⟩ := z.ev x
  rw [h] at e
  cases e
theorem nal0 (h : H q = none) : ¬ Al H q := fun ⟨o, e, _⟩ => by
  rw [h] at e
  cases e
theorem tabs_upd {o o' : HO} (hT : Tabs TS H) (h : H p = some o) (n : NT o) (nx : ∀ φ, o ≠ .ext φ) : Tabs TS (upd H p o') := by
  intro t ht
  obtain ⟨tb, h1, h2, h3⟩ := hT t ht
  refine ⟨tb, by rw [upd_ne (ne_of h1 h (fun z => n _ z.symm))]; exact h1, h2, fun pos cv hcv => ?_⟩
  obtain ⟨cx, e1, e2⟩ := h3 pos cv hcv
  exact ⟨cx, e1, by rw [upd_ne (ne_of e2 h (fun z => nx _ (by unfold CodeO at z; exact z.symm)))]; exact e2⟩
theorem Ev.same (e : Same H H') : Ev TS [] H H' := ⟨fun p o h _ _ => e p o h, fun p o h _ => ⟨o, e p o h, Kin.refl o⟩, fun t => t.ext e⟩
theorem Ev.new {o : HO} (h : H p = none) : Ev TS [] H (upd H p o) := Ev.same (same_new (Same.refl H) h)
theorem Ev.upd_ {o o' : HO} (h : H p = some o) (hf : ¬ Fix o) (n : NT o) (nx : ∀ φ, o ≠ .ext φ) (k : Kin o o') : Ev TS [p] H (upd H p o') := by
  refine ⟨fun q u e f _ => ?_, fun q u e nu => ?_, fun t => tabs_upd t h n nx⟩
  · by_cases c : q = p
    · subst c
      rw [h] at e
      cases e
      exact absurd (f (List.mem_singleton.mpr rfl)) hf
    · rw [upd_ne c]
      exact e
  · by_cases c : q = p
    · subst c
      rw [h] at e
      cases e
      exact ⟨o', upd_same, k⟩
    · exact ⟨u, by rw [upd_ne c]; exact e, Kin.refl u⟩
theorem Ev.setL (h : H p = some (.lst xs)) : Ev TS [p] H (upd H p (.lst ys)) := Ev.upd_ h (fun z => z) (fun _ z => by cases z) (fun _ z => by cases z) ⟨_, rfl⟩
theorem Ev.setI {C dx : Addr} {fs gs : List (Str × V)} (h : H p = some (.ins C dx fs)) : Ev TS [p] H (upd H p (.ins C dx gs)) := Ev.upd_ h (fun z => z) (fun _ z => by cases z) (fun _ z => by cases z) ⟨_, _, rfl⟩
theorem Ev.setD {kvs kws : List (Key × V)} (h : H p = some (.dK kvs)) : Ev TS [p] H (upd H p (.dK kws)) := Ev.upd_ h (fun z => z) (fun _ z => by cases z) (fun _ z => by cases z) ⟨_, rfl⟩
theorem Ev.setT {kvs kws : List (List Key × V)} (h : H p = some (.dT kvs)) : Ev TS [p] H (upd H p (.dT kws)) := Ev.upd_ h (fun z => z) (fun _ z => by cases z) (fun _ z => by cases z) ⟨_, rfl⟩
theorem Ev.keepB (h : H b = some (.lst xs)) (h' : H' b = some (.lst ys)) (k : KeepB b H H') : Ev TS [b] H H' := by
  refine ⟨fun q u e f _ => ?_, fun q u e _ => ?_, fun t => tabs_keep t h k⟩
  · by_cases c : q = b
    · subst c
      rw [h] at e
      cases e
      exact (f (List.mem_singleton.mpr rfl)).elim
    · exact k q u e c
  · by_cases c : q = b
    · subst c
      rw [h] at e
      cases e
      exact ⟨_, h', ⟨_, rfl⟩⟩
    · exact ⟨u, k q u e c, Kin.refl u⟩
theorem tabs_keepI {C dx : Addr} {fs : List (Str × V)} (hT : Tabs TS H) (h : H a = some (.ins C dx fs)) (k : KeepB a H H') : Tabs TS H' := by
  intro t ht
  obtain ⟨tb, h1, h2, h3⟩ := hT t ht
  refine ⟨tb, k _ _ h1 (ne_of h1 h (by intro z; cases z)), h2, fun pos cv hcv => ?_⟩
  obtain ⟨cx, e1, e2⟩ := h3 pos cv hcv
  exact ⟨cx, e1, k _ _ e2 (ne_of e2 h (by intro z; unfold CodeO at z; cases z))⟩
theorem Ev.keepI {C dx dx' : Addr} {fs fs' : List (Str × V)} (h : H a = some (.ins C dx fs)) (h' : H' a = some (.ins C dx' fs')) (k : KeepB a H H') : Ev TS [a] H H' := by
  refine ⟨fun q u e f _ => ?_, fun q u e _ => ?_, fun t => tabs_keepI t h k⟩
  · by_cases c : q = a
    · subst c
      rw [h] at e
      cases e
      exact (f (List.mem_singleton.mpr rfl)).elim
    · exact k q u e c
  · by_cases c : q = a
    · subst c
      rw [h] at e
      cases e
      exact ⟨_, h', ⟨_, _, rfl⟩⟩
    · exact ⟨u, k q u e c, Kin.refl u⟩
theorem Ev.ext (e : ExtN H H') (t : Tabs TS H') : Ev TS [] H H' := ⟨fun p o h _ n => e p o h n, fun p o h n => ⟨o, e p o h n, Kin.refl o⟩, fun _ => t⟩
/-! facts that go on -/
theorem ev_tup (e : Ev TS L H H') (h : H p = some (.tup xs)) : H' p = some (.tup xs) := e.st _ _ h (fun _ => trivial) fun _ z => by cases z
theorem ev_frzT {o : Obj} (e : Ev TS L H H') (h : H p = some (.frz o (.tup xs))) : H' p = some (.frz o (.tup xs)) := e.st _ _ h (fun _ => trivial) fun _ z => by cases z
theorem ev_lst (e : Ev TS L H H') (h : H p = some (.lst xs)) (n : Nin H p L) : H' p = some (.lst xs) := e.st _ _ h (fun z => absurd z n.no) fun _ z => by cases z
theorem ev_ins {C dx : Addr} {fs : List (Str × V)} (e : Ev TS L H H') (h : H p = some (.ins C dx fs)) (n : Nin H p L) : H' p = some (.ins C dx fs) := e.st _ _ h (fun z => absurd z n.no) fun _ z => by cases z
theorem ev_dK {kvs : List (Key × V)} (e : Ev TS L H H') (h : H p = some (.dK kvs)) (n : Nin H p L) : H' p = some (.dK kvs) := e.st _ _ h (fun z => absurd z n.no) fun _ z => by cases z
theorem ev_dT {kvs : List (List Key × V)} (e : Ev TS L H H') (h : H p = some (.dT kvs)) (n : Nin H p L) : H' p = some (.dT kvs) := e.st _ _ h (fun z => absurd z n.no) fun _ z => by cases z
theorem ev_xd {fs : List (Str × V)} (e : Ev TS L H H') (h : H p = some (.xd fs)) (n : Nin H p L) : H' p = some (.xd fs) := e.st _ _ h (fun z => absurd z n.no) fun _ z => by cases z
theorem ev_fzT (e : Ev TS L H H') (h : FzT H p xs) : FzT H' p xs := by
  obtain ⟨o, h, hd⟩ := h
  exact ⟨o, ev_frzT e h, hd⟩
theorem ev_sqT (e : Ev TS L H H') (h : SqT K H p xs) : SqT K H' p xs := by
  rcases h with (h | ⟨o, h⟩) | h
  · exact .inl (.inl (ev_tup e h))
  · exact .inl (.inr ⟨o, ev_frzT e h⟩)
  · exact .inr h
theorem ev_sqL (e : Ev TS L H H') (h : SqL K H p xs) (n : Nin H p L) : SqL K H' p xs := by
  rcases h with (h | ⟨o, h⟩) | h
  · exact .inl (.inl (ev_lst e h n))
  · exact .inl (.inr ⟨o, e.st _ _ h (fun _ => trivial) fun _ z => by cases z⟩)
  · exact .inr h
/-- a locked or written list stays -/
def ScrL (K : PySem.W.Frag) (H : Hp) (p : Addr) (xs : List V) : Prop := (∃ o, H p = some (.frz o (.lst xs))) ∨ ∃ (o : Obj) (its : Array Value) (n : Nat), K.lookup p = some o ∧ o.cls = .type "list" ∧ o.dict = none ∧ o.data = .seq its n ∧ its.size ≤ sizeLine ∧ Vals xs its.toList
/-- the draws stand at b, asked at most n times -/
def BagB (H : Hp) (b : Addr) (n : Nat) : Prop := ∃ l, H b = some (.lst l) ∧ BagL l n
theorem ev_bag {n : Nat} (e : Ev TS L H H') (h : BagB H b n) (hn : Nin H b L) : BagB H' b n := by
  obtain ⟨l, h, hl⟩ := h
  exact ⟨l, ev_lst e h hn, hl⟩
theorem BagB.mono {n m : Nat} (h : BagB H b n) (hm : n ≤ m) : BagB H b m := by
  obtain ⟨l, h, hl⟩ := h
  exact ⟨l, h, hl.mono hm⟩
theorem isL.bag {n : Nat} (h : BagB H b n) : isL H b := by
  obtain ⟨l, h, hl⟩ := h
  exact ⟨_, h⟩
theorem Al.bag {n : Nat} (h : BagB H b n) : Al H b := by
  obtain ⟨l, h, hl⟩ := h
  exact Al.lst h
/-- a tuple stands there -/
def isT (H : Hp) (p : Addr) : Prop := ∃ xs, H p = some (.tup xs)
theorem isT.ev (e : Ev TS L H H') (h : isT H p) : isT H' p := by
  obtain ⟨xs, h⟩ := h
  exact ⟨xs, ev_tup e h⟩
theorem new_facts {o : HO} (h : upd H p o = H') (hp : H p = none) : Ev TS [] H H' ∧ H' p = some o := h ▸ ⟨Ev.new hp, upd_same⟩
theorem set_facts (h : upd H p (.lst ys) = H') (hp : H p = some (.lst xs)) : Ev TS [p] H H' ∧ H' p = some (.lst ys) := h ▸ ⟨Ev.setL hp, upd_same⟩
theorem setI_facts {C dx : Addr} {fs gs : List (Str × V)} (h : upd H p (.ins C dx gs) = H') (hp : H p = some (.ins C dx fs)) : Ev TS [p] H H' ∧ H' p = some (.ins C dx gs) := h ▸ ⟨Ev.setI hp, upd_same⟩
theorem setD_facts {kvs kws : List (Key × V)} (h : upd H p (.dK kws) = H') (hp : H p = some (.dK kvs)) : Ev TS [p] H H' ∧ H' p = some (.dK kws) := h ▸ ⟨Ev.setD hp, upd_same⟩
theorem setT_facts {kvs kws : List (List Key × V)} (h : upd H p (.dT kws) = H') (hp : H p = some (.dT kvs)) : Ev TS [p] H H' ∧ H' p = some (.dT kws) := h ▸ ⟨Ev.setT hp, upd_same⟩
/-! answers with the heap behind them unnamed -/
variable {Q : VK}
theorem a_lst (hz : xs.length ≤ sizeLine) (k : ∀ p H', H p = none → Ev TS [] H H' → H' p = some (.lst xs) → Q (.ref p) H') : xs.length ≤ sizeLine ∧ ∀ p, H p = none → Q (.ref p) (upd H p (.lst xs)) := ⟨hz, fun p hp => k p _ hp (Ev.new hp) upd_same⟩
theorem a_tup (hz : xs.length ≤ sizeLine) (k : ∀ p H', H p = none → Ev TS [] H H' → H' p = some (.tup xs) → Q (.ref p) H') : xs.length ≤ sizeLine ∧ ∀ p, H p = none → Q (.ref p) (upd H p (.tup xs)) := ⟨hz, fun p hp => k p _ hp (Ev.new hp) upd_same⟩
theorem a_newL (k : ∀ p H', H p = none → Ev TS [] H H' → H' p = some (.lst xs) → Q (.ref p) H') : ∀ p, H p = none → Q (.ref p) (upd H p (.lst xs)) := fun p hp => k p _ hp (Ev.new hp) upd_same
theorem a_newT (k : ∀ p H', H p = none → Ev TS [] H H' → H' p = some (.tup xs) → Q (.ref p) H') : ∀ p, H p = none → Q (.ref p) (upd H p (.tup xs)) := fun p hp => k p _ hp (Ev.new hp) upd_same
theorem a_catT (ha : H a = some (.tup xs)) (hb : H b = some (.tup ys)) (hz : xs.length + ys.length ≤ sizeLine) (k : ∀ q H', Ev TS [] H H' → H' q = some (.tup (xs ++ ys)) → Q (.ref q) H') : rCatA K (.ref a) (.ref b) H Q := catA_of ha hb hz fun q H' s h => k q H' (Ev.same s) h
theorem a_slTto {k : Nat} (ha : H a = some (.tup xs)) (h : k < xs.length) (q : ∀ p H', H p = none → Ev TS [] H H' → H' p = some (.tup (xs.take k)) → Q (.ref p) H') : rSlT K (.ref a) none (some (k : Int)) H Q := slT_to ha h fun p hp => q p _ hp (Ev.new hp) upd_same
theorem a_slTfrom {k : Nat} (ha : H a = some (.tup xs)) (h : k < xs.length) (q : ∀ p H', H p = none → Ev TS [] H H' → H' p = some (.tup (xs.drop (k + 1))) → Q (.ref p) H') : rSlT K (.ref a) (some ((k : Int) + 1)) none H Q := slT_from ha h fun p hp => q p _ hp (Ev.new hp) upd_same
theorem a_append {v : V} (h : H p = some (.lst xs)) (hz : xs.length < sizeLine) (k : ∀ H', Ev TS [p] H H' → H' p = some (.lst (xs ++ [v])) → Q .non H') : rAppend (.ref p) [v] H Q := ⟨p, xs, v, rfl, rfl, h, hz, k _ (Ev.setL h) upd_same⟩
theorem a_cat (ha : H a = some (.lst xs)) (hb : H b = some (.lst ys)) (hz : xs.length + ys.length ≤ sizeLine) (k : ∀ q H', H q = none → Ev TS [] H H' → H' q = some (.lst (xs ++ ys)) → Q (.ref q) H') : rCat (.ref a) (.ref b) H Q := ⟨a, b, xs, ys, rfl, rfl, ha, hb, hz, fun p hp => k p _ hp (Ev.new hp) upd_same⟩
theorem a_setL {v : V} {j : Nat} {Qh : Hp → Prop} (h : H p = some (.lst xs)) (hj : j < xs.length) (k : ∀ H', Ev TS [p] H H' → H' p = some (.lst (xs.set j v)) → Qh H') : rSetL (.ref p) (.int (j : Int)) v H Qh := ⟨p, xs, (j : Int), j, rfl, rfl, h, ixN_nat hj, k _ (Ev.setL h) upd_same⟩
/-! the law's own defs -/
theorem bag_ok {E : XK} {ns : List Int} {i : Int} (h : SqL K H a (ns.map V.int)) (h0 : 0 ≤ i) (h1 : i ≤ 100) (hz : ns.length ≤ 1000) (k : ∀ b H', H b = none → Ev TS [] H H' → BagB H' b 0 → Q (.ref b) H') : spBag K [.ref a, .int i] H Q E :=
  ⟨a, ns, i, rfl, h, h0, h1, hz, fun b l hb hl => k b _ hb (Ev.new hb) ⟨l, upd_same, hl⟩⟩
theorem take_ok {E : XK} {n : Nat} {many : Int} (h : BagB H b n) (hn : n < 1000000) (h0 : 0 < many) (h1 : many < 2 ^ 200) (k : ∀ r H', 0 ≤ r → r < many → Ev TS [b] H H' → BagB H' b (n + 1) → Q (.int r) H') : spTake [.ref b, .int many] H Q E := by
  obtain ⟨l, hb, hl⟩ := h
  exact ⟨b, many, l, n, rfl, hb, hl, hn, h0, h1, fun r l' r0 r1 hl' => k r _ r0 r1 (Ev.setL hb) ⟨l', upd_same, hl'⟩⟩
theorem of_ok {E : XK} {n : Nat} (h : BagB H b n) (hp : H p = some (.lst xs)) (np : NeH H p b) (hn : n < 1000000) (h0 : 0 < xs.length) (h1 : xs.length ≤ 100000) (k : ∀ (j : Nat) x H', xs[j]? = some x → Ev TS [b] H H' → BagB H' b (n + 1) → Q x H') : spOf K [.ref b, .ref p] H Q E := by
  obtain ⟨l, hb, hl⟩ := h
  exact ⟨b, p, l, xs, n, rfl, hb, hl, hn, hp, np, h0, h1, fun j x l' hx hl' => k j x _ hx (Ev.setL hb) ⟨l', upd_same, hl'⟩⟩
/-! loops -/
/-- the list that is made stands at D -/
def LcI (I : List V → Hp → Prop) (D : Addr) (H : Hp) : Prop := ∃ acc, H D = some (.lst acc) ∧ I acc H
theorem lc_put {I : List V → Hp → Prop} {D : Addr} {acc : List V} {y : V} (h : H D = some (.lst acc)) (hz : acc.length < sizeLine) (k : ∀ H5, Ev TS [D] H H5 → H5 D = some (.lst (acc ++ [y])) → I (acc ++ [y]) H5) :
    ∃ acc, H D = some (.lst acc) ∧ acc.length < sizeLine ∧ LcI I D (upd H D (.lst (acc ++ [y]))) := ⟨acc, h, hz, acc ++ [y], upd_same, k _ (Ev.setL h) upd_same⟩
theorem lc_ev {J : It} {n : Nat} {G : Hp → Prop} {Y : Nat → Hp → V → Hp → Prop} (w : Walk J n G Y) {g : TG} {tt : TT} {te : TE} {vs : List Nat} {σ : L2.St} {H1 : Hp} {D : Addr} {Qd : Hp → Prop} (hD : H1 D = none) (I : Nat → List V → Hp → Prop) (h0 : ∀ H2, Ev TS [] H1 H2 → H2 D = some (.lst []) → I 0 [] H2) (hG : ∀ i acc H, i ≤ n → I i acc H → H D = some (.lst acc) → G H)
    (hs : ∀ i x acc H H', i < n → I i acc H → H D = some (.lst acc) → Y i H x H' → g x (wipe σ vs) H' fun σ2 H2 => wipe σ2 vs = wipe σ vs ∧ tt σ2 H2 fun b H3 =>
      if b = true then te σ2 H3 fun y H4 => ∃ acc, H4 D = some (.lst acc) ∧ acc.length < sizeLine ∧ LcI (I (i + 1)) D (upd H4 D (.lst (acc ++ [y]))) else LcI (I (i + 1)) D H3) (hd : ∀ acc H, I n acc H → H D = some (.lst acc) → Qd H) :
    ∃ W : Nat → Nat → Hp → Prop, (∃ m, W 0 m (upd H1 D (.lst []))) ∧ ∀ i m H, W i m H →
      (J.stop i H ∧ Qd H) ∨ (J.go i H ∧ ∃ Nx : Hp → Prop, (∀ H', Nx H' → ∃ m', m' < m ∧ W (i + 1) m' H') ∧ ∀ x H', J.yld i H x H' → g x (wipe σ vs) H' fun σ2 H2 => wipe σ2 vs = wipe σ vs ∧ tt σ2 H2 fun b H3 =>
        if b = true then te σ2 H3 fun y H4 => ∃ acc, H4 D = some (.lst acc) ∧ acc.length < sizeLine ∧ Nx (upd H4 D (.lst (acc ++ [y]))) else Nx H3) := by
  refine lc_it w (fun i H => LcI (I i) D H) ⟨[], upd_same, h0 _ (Ev.new hD) upd_same⟩ (fun i H hi ⟨acc, h1, h2⟩ => hG i acc H hi h2 h1) ?_ (fun H ⟨acc, h1, h2⟩ => hd acc H h2 h1)
  rintro i x H H' hi ⟨acc, h1, h2⟩ y
  exact hs i x acc H H' hi h2 h1 y
theorem a_neD {x y : V} {d e : PyData} (hd : Dp K H x d) (he : Dp K H y e) (sd : SeqAt.shaped d = true) (se : SeqAt.shaped e = true) (k : Q (.bl (!PyData.eqv d e)) H) : rNeD K x y H Q := ⟨d, e, hd, he, sd, se, k⟩
theorem a_eqD {x y : V} {d e : PyData} (hd : Dp K H x d) (he : Dp K H y e) (sd : SeqAt.shaped d = true) (se : SeqAt.shaped e = true) (k : Q (.bl (PyData.eqv d e)) H) : rEqD K x y H Q := ⟨d, e, hd, he, sd, se, k⟩
theorem a_neI {xs ys : List Int} (hp : H p = some (.lst (xs.map V.int))) (hq : H q = some (.lst (ys.map V.int))) (k : Q (.bl (!decide (xs = ys))) H) : rNeD K (.ref p) (.ref q) H Q := by
  refine a_neD (dp_ints (SqL.of hp)) (dp_ints (SqL.of hq)) (shaped_list (sh_ints _)) (shaped_list (sh_ints _)) ?_
  rw [eqv_list, eqvAll_ints]
  exact k
/-! what is refused -/
theorem lam_ok {L : List Rc} {t : XK → TE} {σ : L2.St} (hT : Tabs TS H) (k : ∀ H1, Ev TS [] H H1 → t (RfW L Q) σ H1 (fun _ H' => Q .non H')) : tLam TS (TTref L) t σ H Q := ⟨hT, fun H1 e1 t1 => k H1 (Ev.ext e1 t1)⟩
/-- an error that is raised -/
def Rz (TS : List (Addr × Str)) (H : Hp) (E : XK) (C : Addr) (fs : List (Str × V)) : Prop := ∀ d H', Ev TS [] H H' → H' d = some (.xd fs) → E (.ref C) (some d) H'
theorem Rz.go {E : XK} {C : Addr} {fs : List (Str × V)} (h : Rz TS H E C fs) : ∀ d, H d = none → E (.ref C) (some d) (upd H d (.xd fs)) := fun d hd => h d _ (Ev.new hd) upd_same
theorem Rz.ev {E : XK} {C : Addr} {fs : List (Str × V)} (h : Rz TS H E C fs) (e : Ev TS [] H H') : Rz TS H' E C fs := fun d H2 e2 h2 => h d H2 (e.trans e2 trivial) h2
theorem told1 {C : Addr} {nm f : Str} {v : V} {L : List Rc} (hm : (C, nm, [f]) ∈ L) (k : ∀ p H', Ev TS [] H H' → H' p = some (.tup [.str nm, v]) → Q (.ref p) H') : Rz TS H (RfW L Q) C [(f, v)] := fun d H1 e1 h1 =>
  ⟨C, nm, [f], hm, rfl, d, _, [v], rfl, h1, by simp, by simp, fun p hp => k p _ (e1.trans (Ev.new hp) trivial) upd_same⟩
theorem told2 {C : Addr} {nm f g : Str} {v u : V} {L : List Rc} (hm : (C, nm, [f, g]) ∈ L) (hfg : (f == g) = false) (k : ∀ p H', Ev TS [] H H' → H' p = some (.tup [.str nm, v, u]) → Q (.ref p) H') : Rz TS H (RfW L Q) C [(g, u), (f, v)] := fun d H1 e1 h1 =>
  ⟨C, nm, [f, g], hm, rfl, d, _, [v, u], rfl, h1, by simp [List.lookup, hfg], by simp, fun p hp => k p _ (e1.trans (Ev.new hp) trivial) upd_same⟩
end
end MV

namespace MV
open PySem PySem.Spec PyProof.Rows L2 SB MM LamX
local macro_rules | `(tactic| walk_at "rd") => `(tactic| repeat (first | (refine ⟨_, rfl, ?_⟩) | (refine ⟨_, _, rfl, rfl, ?_⟩) | (refine ⟨_, _, rfl, ?_⟩) | (refine ⟨rfl, ?_⟩) | (with_reducible refine st_nil ?_) | (with_reducible refine st_cons ?_) | (with_reducible refine st_C ?_)))
local macro_rules | `(tactic| walk_at "isL") => `(tactic| first | assumption | (apply isL.of; assumption) | (apply isL.bag; assumption) | (apply isL.ev; assumption; walk_at "isL"))
local macro_rules | `(tactic| walk_at "isI") => `(tactic| first | assumption | (apply isI.of; assumption) | (apply isI.ev; assumption; walk_at "isI"))
local macro_rules | `(tactic| walk_at "al") => `(tactic| first | assumption | (apply isL.al; walk_at "isL") | (apply isI.al; walk_at "isI") | (apply Al.dK; assumption) | (apply Al.dT; assumption) | (apply Al.ev; assumption; walk_at "al"))
local macro_rules | `(tactic| walk_at "ne") => `(tactic| first | (apply NeH.of; assumption) | (apply NeH.ofs; assumption) | (apply neLI; walk_at "isL"; walk_at "isI") | (apply neIL; walk_at "isI"; walk_at "isL") | (apply Al.ne; assumption; walk_at "al") | (apply Al.ens; assumption; walk_at "al") | (apply NA.ne; assumption; walk_at "al") | (apply NA.ens; assumption; walk_at "al"))
local macro_rules | `(tactic| walk_at "nin") => `(tactic| first | exact trivial | (refine And.intro ?_ ?_; walk_at "ne"; walk_at "nin"))
local macro_rules | `(tactic| walk_at "t") => `(tactic| first | assumption | (apply ev_tup; assumption; walk_at "t") | (apply ev_lst; assumption; walk_at "t"; walk_at "nin") | (apply ev_ins; assumption; walk_at "t"; walk_at "nin") | (apply ev_dK; assumption; walk_at "t"; walk_at "nin") | (apply ev_dT; assumption; walk_at "t"; walk_at "nin") | (apply ev_bag; assumption; walk_at "t"; walk_at "nin") | (apply ev_tabs; assumption; walk_at "t") | (apply ev_fzT; assumption; walk_at "t") | (apply SqL.of; walk_at "t") | (apply SqT.of; walk_at "t") | (apply ev_sqT; assumption; walk_at "t") | (apply ev_sqL; assumption; walk_at "t"; walk_at "nin"))
local macro_rules | `(tactic| walk_at "le") => `(tactic| first | exact Le.refl _ | (apply Le.ev; assumption; walk_at "le"))
local macro_rules | `(tactic| walk_at "om") => `(tactic| first | exact Or.inl (List.mem_cons_self) | exact Or.inl (List.mem_cons_of_mem _ List.mem_cons_self) | exact Or.inl (List.mem_cons_of_mem _ (List.mem_cons_of_mem _ List.mem_cons_self)) | (apply Or.inr; apply nal0; assumption) | (apply Or.inr; apply Le.nal; assumption; walk_at "le") | (apply Or.inr; apply Le.na; assumption; walk_at "le"))
local macro_rules | `(tactic| walk_at "out") => `(tactic| first | exact trivial | (refine And.intro ?_ ?_; walk_at "om"; walk_at "out"))
local macro_rules | `(tactic| walk_at "e") => `(tactic| first | assumption | exact Ev.refl _ _ | (apply Ev.trans'; assumption; walk_at "e"; walk_at "out"))
local macro_rules | `(tactic| walk_at "c") => `(tactic| dsimp only [tNil, tCons, tC])
local macro_rules | `(tactic| walk_at "na") => `(tactic| first | assumption | (apply NA.of; assumption) | (apply Le.nal; assumption; walk_at "le") | (apply Le.na; assumption; walk_at "le"))
local macro_rules | `(tactic| walk_at "rs") => `(tactic| repeat (first | (with_reducible refine st_nil ?_) | (with_reducible refine st_cons ?_) | (with_reducible refine st_C ?_)))
local macro_rules | `(tactic| walk_at "rv") => `(tactic| repeat (first | (refine ⟨_, rfl, ?_⟩) | (with_reducible refine st_nil ?_) | (with_reducible refine st_cons ?_) | (with_reducible refine st_C ?_)))
local macro_rules | `(tactic| walk_at "if") => `(tactic| first | refine ifT rfl ?_ | refine ifF rfl ?_ | skip)
/-! the errors, made and read -/
def swapV (vs zs : List V) : List V := match zs with | [b, a] => vs ++ [a, b] | _ => vs ++ zs
structure TxtX (P : Program) (w : World) (K : PySem.W.Frag) (mg : Str → Option Value) (base : Heap) (EC : Nat → Addr) : Prop where
  BadMove : Xc P w K mg base 1 "BadMove" (EC 0) ["at"]
  NoPlace : Xc P w K mg base 1 "NoPlace" (EC 1) ["place"]
  Mismatch : Xc P w K mg base 1 "Mismatch" (EC 2) ["wanted", "got"]
  BadLine : Xc P w K mg base 1 "BadLine" (EC 3) ["at"]
  BadContents : Xc P w K mg base 1 "BadContents" (EC 4) ["at"]
  BadChoices : Xc P w K mg base 1 "BadChoices" (EC 5) ["at"]
  NotInStep : Xc P w K mg base 1 "NotInStep" (EC 6) ["slip"]
  NoPicture : Xc P w K mg base 1 "NoPicture" (EC 7) ["picture"]
  NotMoving : Xc P w K mg base 1 "NotMoving" (EC 8) ["at"]
  BadChange : Xc P w K mg base 1 "BadChange" (EC 9) ["change"]
  DifferentLists : Xc P w K mg base 1 "DifferentLists" (EC 10) ["one", "other"]
  BadNames : Xc P w K mg base 1 "BadNames" (EC 11) ["at"]
  BadRow : Xc P w K mg base 1 "BadRow" (EC 12) ["at"]
  NoName : Xc P w K mg base 1 "NoName" (EC 13) ["name"]
  Slipped : Xc P w K mg base 1 "Slipped" (EC 14) ["slip"]
  KMismatch : XcK P w K mg base 1 "Mismatch" (EC 2) ["wanted", "got"] ["got", "wanted"] swapV
  KDifferentLists : XcK P w K mg base 1 "DifferentLists" (EC 10) ["one", "other"] ["other", "one"] swapV
  KNoPicture : XcK P w K mg base 1 "NoPicture" (EC 7) ["picture"] ["picture"] (fun vs zs => vs ++ zs)
  g_BadMove : mg "BadMove" = some (.ref (EC 0))
  g_NoPlace : mg "NoPlace" = some (.ref (EC 1))
  g_Mismatch : mg "Mismatch" = some (.ref (EC 2))
  g_BadLine : mg "BadLine" = some (.ref (EC 3))
  g_BadContents : mg "BadContents" = some (.ref (EC 4))
  g_BadChoices : mg "BadChoices" = some (.ref (EC 5))
  g_NotInStep : mg "NotInStep" = some (.ref (EC 6))
  g_NoPicture : mg "NoPicture" = some (.ref (EC 7))
  g_NotMoving : mg "NotMoving" = some (.ref (EC 8))
  g_BadChange : mg "BadChange" = some (.ref (EC 9))
  g_DifferentLists : mg "DifferentLists" = some (.ref (EC 10))
  g_BadNames : mg "BadNames" = some (.ref (EC 11))
  g_BadRow : mg "BadRow" = some (.ref (EC 12))
  g_NoName : mg "NoName" = some (.ref (EC 13))
  g_Slipped : mg "Slipped" = some (.ref (EC 14))
  g_SidelistsError : mg "SidelistsError" = some (.ref (EC 15))
  f_BadMove_at : PySem.W.findIn K (.ref (EC 0)) "at" = some none
  f_NoPlace_place : PySem.W.findIn K (.ref (EC 1)) "place" = some none
  f_Mismatch_wanted : PySem.W.findIn K (.ref (EC 2)) "wanted" = some none
  f_Mismatch_got : PySem.W.findIn K (.ref (EC 2)) "got" = some none
  f_BadLine_at : PySem.W.findIn K (.ref (EC 3)) "at" = some none
  f_BadContents_at : PySem.W.findIn K (.ref (EC 4)) "at" = some none
  f_BadChoices_at : PySem.W.findIn K (.ref (EC 5)) "at" = some none
  f_NotInStep_slip : PySem.W.findIn K (.ref (EC 6)) "slip" = some none
  f_NoPicture_picture : PySem.W.findIn K (.ref (EC 7)) "picture" = some none
  f_NotMoving_at : PySem.W.findIn K (.ref (EC 8)) "at" = some none
  f_BadChange_change : PySem.W.findIn K (.ref (EC 9)) "change" = some none
  f_DifferentLists_one : PySem.W.findIn K (.ref (EC 10)) "one" = some none
  f_DifferentLists_other : PySem.W.findIn K (.ref (EC 10)) "other" = some none
  f_BadNames_at : PySem.W.findIn K (.ref (EC 11)) "at" = some none
  f_BadRow_at : PySem.W.findIn K (.ref (EC 12)) "at" = some none
  f_NoName_name : PySem.W.findIn K (.ref (EC 13)) "name" = some none
  f_Slipped_slip : PySem.W.findIn K (.ref (EC 14)) "slip" = some none
  ev : ∀ k, k < 15 → ExvC K (EC k)
  is : ∀ k j, k < 15 → j < 15 → PySem.W.kitOne K (.ref (EC k)) (.ref (EC j)) = some (decide (k = j))
  isS : ∀ k, k < 15 → PySem.W.kitOne K (.ref (EC k)) (.ref (EC 15)) = some true
  isV : ∀ k, k < 15 → PySem.W.kitOne K (.ref (EC k)) (.type "ValueError") = some true
  n_isinstance : mg "isinstance" = none
  n_len : mg "len" = none
  n_range : mg "range" = none
  n_ValueError : mg "ValueError" = none
theorem exv_ev {TS : List (Addr × Str)} {H H' : Hp} {v : V} {C : Addr} {fs : List (Str × V)} (h : Exv H v C fs) (e : Ev TS [] H H') : Exv H' v C fs := by
  obtain ⟨a, d, r, h1, h2⟩ := h
  exact ⟨a, d, r, e.st _ _ h1 (fun z => nomatch z) (fun _ z => by cases z), e.st _ _ h2 (fun z => nomatch z) (fun _ z => by cases z)⟩
theorem a_isE {P : Program} {w : World} {K : PySem.W.Frag} {mg : Str → Option Value} {base : Heap} {EC : Nat → Addr} {H : Hp} {v : V} {k : Nat} {fs : List (Str × V)} {Q : VK} (TX : TxtX P w K mg base EC) (j : Nat) (hx : Exv H v (EC k) fs) (hk : k < 15) (hj : j < 15) (q : Q (.bl (decide (k = j))) H) : rIsiE K [v, .ref (EC j)] H Q :=
  ⟨v, .ref (EC j), EC k, fs, .ref (EC j), _, rfl, .own _, hx, TX.ev k hk, TX.is k j hk hj, q⟩
abbrev s_kinds : Stmt := top 36
def bls (k : Nat) : List V := (List.range 15).map fun j => V.bl (decide (k = j))
def spKinds (TS : List (Addr × Str)) (EC : Nat → Addr) : Sp := fun vs H Q _ => ∃ (v : V) (k : Nat) (fs : List (Str × V)), vs = [v] ∧ k < 15 ∧ Exv H v (EC k) fs ∧ ∀ (p : Addr) H', NA H p → Ev TS [] H H' → H' p = some (.lst (bls k)) → Q (.ref p) H'
section
variable {P : Program} {w : World} {K : PySem.W.Frag} {mg : Str → Option Value} {base : Heap} {EC : Nat → Addr} {TS : List (Addr × Str)}
theorem sc_kinds : FnScope ["_law_e", "_law_found"] ["_law_e"] (defScope s_kinds) := ⟨rfl, rfl, rfl, by decide +kernel, rfl, by decide +kernel, by decide +kernel⟩
theorem ok_kinds {f : Addr} {fd : FuncData} (F : Fun K "_law_kinds" "_law_kinds" s_kinds f fd) (TX : TxtX P w K mg base EC) : FnR P w K mg base CX0 1 f (spKinds TS EC) := by
  refine fnr F sc_kinds (fun vs H Q E h => ?_) (fun _ _ _ _ _ _ us hl => match us, hl with | [_], _ => rfl) (fun cdv A outer s H vs Q E hr h => ?_)
  · obtain ⟨v, k, fs, rfl, _⟩ := h
    rfl
  · obtain ⟨v, k, fs, rfl, hk, hx, q⟩ := h
    refine ⟨_, (pss_cons (ps_set (i := 1) sc_kinds.nd rfl (Or.inl rfl) (pe_lst (pa_cons (pe_callB call_isiE (by rfl) TX.n_isinstance (by decide +kernel) (pa_cons (pv 0) (pa_cons (pe_glob (v := .ref (EC 0)) (by rfl) TX.g_BadMove rfl) pa_nil))) (pa_cons (pe_callB call_isiE (by rfl) TX.n_isinstance (by decide +kernel) (pa_cons (pv 0) (pa_cons (pe_glob (v := .ref (EC 1)) (by rfl) TX.g_NoPlace rfl) pa_nil))) (pa_cons (pe_callB call_isiE (by rfl) TX.n_isinstance (by decide +kernel) (pa_cons (pv 0) (pa_cons (pe_glob (v := .ref (EC 2)) (by rfl) TX.g_Mismatch rfl) pa_nil))) (pa_cons (pe_callB call_isiE (by rfl) TX.n_isinstance (by decide +kernel) (pa_cons (pv 0) (pa_cons (pe_glob (v := .ref (EC 3)) (by rfl) TX.g_BadLine rfl) pa_nil))) pa_nil))))))
      (pss_cons (ps_set (i := 1) sc_kinds.nd rfl (Or.inl rfl) (pe_op op_cat (pv 1) (pe_lst (pa_cons (pe_callB call_isiE (by rfl) TX.n_isinstance (by decide +kernel) (pa_cons (pv 0) (pa_cons (pe_glob (v := .ref (EC 4)) (by rfl) TX.g_BadContents rfl) pa_nil))) (pa_cons (pe_callB call_isiE (by rfl) TX.n_isinstance (by decide +kernel) (pa_cons (pv 0) (pa_cons (pe_glob (v := .ref (EC 5)) (by rfl) TX.g_BadChoices rfl) pa_nil))) (pa_cons (pe_callB call_isiE (by rfl) TX.n_isinstance (by decide +kernel) (pa_cons (pv 0) (pa_cons (pe_glob (v := .ref (EC 6)) (by rfl) TX.g_NotInStep rfl) pa_nil))) pa_nil))))))
      (pss_cons (ps_set (i := 1) sc_kinds.nd rfl (Or.inl rfl) (pe_op op_cat (pv 1) (pe_lst (pa_cons (pe_callB call_isiE (by rfl) TX.n_isinstance (by decide +kernel) (pa_cons (pv 0) (pa_cons (pe_glob (v := .ref (EC 7)) (by rfl) TX.g_NoPicture rfl) pa_nil))) (pa_cons (pe_callB call_isiE (by rfl) TX.n_isinstance (by decide +kernel) (pa_cons (pv 0) (pa_cons (pe_glob (v := .ref (EC 8)) (by rfl) TX.g_NotMoving rfl) pa_nil))) (pa_cons (pe_callB call_isiE (by rfl) TX.n_isinstance (by decide +kernel) (pa_cons (pv 0) (pa_cons (pe_glob (v := .ref (EC 9)) (by rfl) TX.g_BadChange rfl) pa_nil))) pa_nil))))))
      (pss_cons (ps_set (i := 1) sc_kinds.nd rfl (Or.inl rfl) (pe_op op_cat (pv 1) (pe_lst (pa_cons (pe_callB call_isiE (by rfl) TX.n_isinstance (by decide +kernel) (pa_cons (pv 0) (pa_cons (pe_glob (v := .ref (EC 10)) (by rfl) TX.g_DifferentLists rfl) pa_nil))) (pa_cons (pe_callB call_isiE (by rfl) TX.n_isinstance (by decide +kernel) (pa_cons (pv 0) (pa_cons (pe_glob (v := .ref (EC 11)) (by rfl) TX.g_BadNames rfl) pa_nil))) (pa_cons (pe_callB call_isiE (by rfl) TX.n_isinstance (by decide +kernel) (pa_cons (pv 0) (pa_cons (pe_glob (v := .ref (EC 12)) (by rfl) TX.g_BadRow rfl) pa_nil))) pa_nil))))))
      (pss_one (ps_ret (pe_op op_cat (pv 1) (pe_lst (pa_cons (pe_callB call_isiE (by rfl) TX.n_isinstance (by decide +kernel) (pa_cons (pv 0) (pa_cons (pe_glob (v := .ref (EC 13)) (by rfl) TX.g_NoName rfl) pa_nil))) (pa_cons (pe_callB call_isiE (by rfl) TX.n_isinstance (by decide +kernel) (pa_cons (pv 0) (pa_cons (pe_glob (v := .ref (EC 14)) (by rfl) TX.g_Slipped rfl) pa_nil))) pa_nil)))))))))), ?_⟩
    walk_at "rd"
    refine a_isE TX 0 hx hk (by decide) ?_
    walk_at "rd"
    refine a_isE TX 1 hx hk (by decide) ?_
    walk_at "rd"
    refine a_isE TX 2 hx hk (by decide) ?_
    walk_at "rd"
    refine a_isE TX 3 hx hk (by decide) ?_
    walk_at "rd"
    refine ⟨show 4 ≤ sizeLine by rw [sizeLine_eq]; omega, fun p1 hp1 => ?_⟩
    generalize hXX : upd _ p1 _ = H1
    obtain ⟨e1, h1⟩ := new_facts (TS := TS) hXX hp1
    clear hXX
    walk_at "rs"
    walk_at "rd"
    refine a_isE TX 4 (exv_ev hx (by walk_at "e")) hk (by decide) ?_
    walk_at "rd"
    refine a_isE TX 5 (exv_ev hx (by walk_at "e")) hk (by decide) ?_
    walk_at "rd"
    refine a_isE TX 6 (exv_ev hx (by walk_at "e")) hk (by decide) ?_
    walk_at "rd"
    refine ⟨show 3 ≤ sizeLine by rw [sizeLine_eq]; omega, fun p2 hp2 => ?_⟩
    generalize hXX : upd _ p2 _ = H2
    obtain ⟨e2, h2⟩ := new_facts (TS := TS) hXX hp2
    clear hXX
    walk_at "rs"
    walk_at "rd"
    refine a_cat (TS := TS) ((by walk_at "t")) ((by walk_at "t")) (by rw [sizeLine_eq]; simp) (fun p3 H3 hp3 e3 h3 => ?_)
    walk_at "rd"
    refine a_isE TX 7 (exv_ev hx (by walk_at "e")) hk (by decide) ?_
    walk_at "rd"
    refine a_isE TX 8 (exv_ev hx (by walk_at "e")) hk (by decide) ?_
    walk_at "rd"
    refine a_isE TX 9 (exv_ev hx (by walk_at "e")) hk (by decide) ?_
    walk_at "rd"
    refine ⟨show 3 ≤ sizeLine by rw [sizeLine_eq]; omega, fun p4 hp4 => ?_⟩
    generalize hXX : upd _ p4 _ = H4
    obtain ⟨e4, h4⟩ := new_facts (TS := TS) hXX hp4
    clear hXX
    walk_at "rs"
    walk_at "rd"
    refine a_cat (TS := TS) ((by walk_at "t")) ((by walk_at "t")) (by rw [sizeLine_eq]; simp) (fun p5 H5 hp5 e5 h5 => ?_)
    walk_at "rd"
    refine a_isE TX 10 (exv_ev hx (by walk_at "e")) hk (by decide) ?_
    walk_at "rd"
    refine a_isE TX 11 (exv_ev hx (by walk_at "e")) hk (by decide) ?_
    walk_at "rd"
    refine a_isE TX 12 (exv_ev hx (by walk_at "e")) hk (by decide) ?_
    walk_at "rd"
    refine ⟨show 3 ≤ sizeLine by rw [sizeLine_eq]; omega, fun p6 hp6 => ?_⟩
    generalize hXX : upd _ p6 _ = H6
    obtain ⟨e6, h6⟩ := new_facts (TS := TS) hXX hp6
    clear hXX
    walk_at "rs"
    walk_at "rd"
    refine a_cat (TS := TS) ((by walk_at "t")) ((by walk_at "t")) (by rw [sizeLine_eq]; simp) (fun p7 H7 hp7 e7 h7 => ?_)
    walk_at "rd"
    refine a_isE TX 13 (exv_ev hx (by walk_at "e")) hk (by decide) ?_
    walk_at "rd"
    refine a_isE TX 14 (exv_ev hx (by walk_at "e")) hk (by decide) ?_
    walk_at "rd"
    refine ⟨show 2 ≤ sizeLine by rw [sizeLine_eq]; omega, fun p8 hp8 => ?_⟩
    generalize hXX : upd _ p8 _ = H8
    obtain ⟨e8, h8⟩ := new_facts (TS := TS) hXX hp8
    clear hXX
    walk_at "rs"
    walk_at "rd"
    refine a_cat (TS := TS) ((by walk_at "t")) ((by walk_at "t")) (by rw [sizeLine_eq]; simp) (fun p9 H9 hp9 e9 h9 => ?_)
    walk_at "rd"
    exact q p9 H9 (by walk_at "na") (by walk_at "e") (by rw [h9]; rfl)
end
end MV

namespace MV
open PySem PySem.Spec PyProof.Rows L2 SB MM LamX
local macro_rules | `(tactic| walk_at "rd") => `(tactic| repeat (first | (refine ⟨_, rfl, ?_⟩) | (refine ⟨_, _, rfl, rfl, ?_⟩) | (refine ⟨_, _, rfl, ?_⟩) | (refine ⟨rfl, ?_⟩) | (with_reducible refine st_nil ?_) | (with_reducible refine st_cons ?_) | (with_reducible refine st_C ?_)))
local macro_rules | `(tactic| walk_at "isL") => `(tactic| first | assumption | (apply isL.of; assumption) | (apply isL.bag; assumption) | (apply isL.ev; assumption; walk_at "isL"))
local macro_rules | `(tactic| walk_at "isI") => `(tactic| first | assumption | (apply isI.of; assumption) | (apply isI.ev; assumption; walk_at "isI"))
local macro_rules | `(tactic| walk_at "al") => `(tactic| first | assumption | (apply isL.al; walk_at "isL") | (apply isI.al; walk_at "isI") | (apply Al.dK; assumption) | (apply Al.dT; assumption) | (apply Al.ev; assumption; walk_at "al"))
local macro_rules | `(tactic| walk_at "ne") => `(tactic| first | (apply NeH.of; assumption) | (apply NeH.ofs; assumption) | (apply neLI; walk_at "isL"; walk_at "isI") | (apply neIL; walk_at "isI"; walk_at "isL") | (apply Al.ne; assumption; walk_at "al") | (apply Al.ens; assumption; walk_at "al") | (apply NA.ne; assumption; walk_at "al") | (apply NA.ens; assumption; walk_at "al"))
local macro_rules | `(tactic| walk_at "nin") => `(tactic| first | exact trivial | (refine And.intro ?_ ?_; walk_at "ne"; walk_at "nin"))
local macro_rules | `(tactic| walk_at "t") => `(tactic| first | assumption | (apply ev_tup; assumption; walk_at "t") | (apply ev_lst; assumption; walk_at "t"; walk_at "nin") | (apply ev_ins; assumption; walk_at "t"; walk_at "nin") | (apply ev_dK; assumption; walk_at "t"; walk_at "nin") | (apply ev_dT; assumption; walk_at "t"; walk_at "nin") | (apply ev_bag; assumption; walk_at "t"; walk_at "nin") | (apply ev_tabs; assumption; walk_at "t") | (apply ev_fzT; assumption; walk_at "t") | (apply SqL.of; walk_at "t") | (apply SqT.of; walk_at "t") | (apply ev_sqT; assumption; walk_at "t") | (apply ev_sqL; assumption; walk_at "t"; walk_at "nin"))
local macro_rules | `(tactic| walk_at "le") => `(tactic| first | exact Le.refl _ | (apply Le.ev; assumption; walk_at "le"))
local macro_rules | `(tactic| walk_at "om") => `(tactic| first | exact Or.inl (List.mem_cons_self) | exact Or.inl (List.mem_cons_of_mem _ List.mem_cons_self) | exact Or.inl (List.mem_cons_of_mem _ (List.mem_cons_of_mem _ List.mem_cons_self)) | (apply Or.inr; apply nal0; assumption) | (apply Or.inr; apply Le.nal; assumption; walk_at "le") | (apply Or.inr; apply Le.na; assumption; walk_at "le"))
local macro_rules | `(tactic| walk_at "out") => `(tactic| first | exact trivial | (refine And.intro ?_ ?_; walk_at "om"; walk_at "out"))
local macro_rules | `(tactic| walk_at "e") => `(tactic| first | assumption | exact Ev.refl _ _ | (apply Ev.trans'; assumption; walk_at "e"; walk_at "out"))
local macro_rules | `(tactic| walk_at "c") => `(tactic| dsimp only [tNil, tCons, tC])
local macro_rules | `(tactic| walk_at "na") => `(tactic| first | assumption | (apply NA.of; assumption) | (apply Le.nal; assumption; walk_at "le") | (apply Le.na; assumption; walk_at "le"))
local macro_rules | `(tactic| walk_at "rs") => `(tactic| repeat (first | (with_reducible refine st_nil ?_) | (with_reducible refine st_cons ?_) | (with_reducible refine st_C ?_)))
local macro_rules | `(tactic| walk_at "rv") => `(tactic| repeat (first | (refine ⟨_, rfl, ?_⟩) | (with_reducible refine st_nil ?_) | (with_reducible refine st_cons ?_) | (with_reducible refine st_C ?_)))
local macro_rules | `(tactic| walk_at "if") => `(tactic| first | refine ifT rfl ?_ | refine ifF rfl ?_ | skip)
section
variable {K : PySem.W.Frag} {H H' : Hp} {TS : List (Addr × Str)}
mutual
theorem dp_ev (e : Ev TS [] H H') : ∀ {v : V} {d : PyData}, Dp K H v d → Dp K H' v d
  | _, _, .non => .non
  | _, _, .bl b => .bl b
  | _, _, .int i => .int i
  | _, _, .str x => .str x
  | _, _, .lst h q => .lst (ev_sqL e h trivial) (dpAll_ev e q)
  | _, _, .tup h q => .tup (ev_sqT e h) (dpAll_ev e q)
theorem dpAll_ev (e : Ev TS [] H H') : ∀ {vs : List V} {ds : List PyData}, DpAll K H vs ds → DpAll K H' vs ds
  | _, _, .nil => .nil
  | _, _, .cons h q => .cons (dp_ev e h) (dpAll_ev e q)
end
/-- a value of the menu -/
def Mn (K : PySem.W.Frag) (H : Hp) (v : V) : Prop := ∃ d, Dp K H v d ∧ Sh d
theorem sh_shaped {d : PyData} (h : Sh d) : SeqAt.shaped d = true := by
  unfold SeqAt.shaped
  rw [h.1, Bool.true_and]
  exact decide_eq_true (by have := h.2; omega)
theorem Mn.ev (h : Mn K H v) (e : Ev TS [] H H') : Mn K H' v := by
  obtain ⟨d, h1, h2⟩ := h
  exact ⟨d, dp_ev e h1, h2⟩
theorem a_neS {v : V} {Q : VK} (h : Mn K H v) (q : Q (.bl false) H) : rNeD K v v H Q := by
  obtain ⟨d, h1, h2⟩ := h
  refine ⟨d, d, h1, h1, sh_shaped h2, sh_shaped h2, ?_⟩
  rw [SeqAt.eqv_refl _ h2.1]
  exact q
theorem a_eqS {v : V} {Q : VK} (h : Mn K H v) (q : Q (.bl true) H) : rEqD K v v H Q := by
  obtain ⟨d, h1, h2⟩ := h
  refine ⟨d, d, h1, h1, sh_shaped h2, sh_shaped h2, ?_⟩
  rw [SeqAt.eqv_refl _ h2.1]
  exact q
theorem a_xm {vs : List V} {ns : List Str} {C : Addr} {Q : VK} (hl : vs.length = ns.length) (hz : vs.length ≤ 1000) (k : ∀ a H', NA H a → Ev TS [] H H' → Exv H' (.ref a) C (ns.zip vs).reverse → Q (.ref a) H') : rXm C ns vs H Q := by
  refine ⟨hz, hl, fun a d ha hd nd => k a _ (.of ha) (Ev.trans (Ev.new ha) (Ev.new (by rw [upd_ne nd]; exact hd)) trivial) ⟨a, d, rfl, ?_, upd_same⟩⟩
  rw [upd_ne (Ne.symm nd), upd_same]
theorem a_xv {K : PySem.W.Frag} {x v : V} {C : Addr} {f : Str} {fs : List (Str × V)} {Q : VK} (h : Exv H x C fs) (t : ExvC K C) (n : PySem.W.findIn K (.ref C) f = some none) (l : fs.lookup f = some v) (q : Q v H) : rXv K f x H Q := ⟨C, fs, v, h, t, n, l, q⟩
end
abbrev s_fields_right : Stmt := top 37
def spFields (TS : List (Addr × Str)) (K : PySem.W.Frag) : Sp := fun vs H Q _ => ∃ (v u : V), vs = [v, u] ∧ Mn K H v ∧ Mn K H u ∧ ∀ H', Ev TS [] H H' → Q (.bl true) H'
section
variable {P : Program} {w : World} {K : PySem.W.Frag} {mg : Str → Option Value} {base : Heap} {EC : Nat → Addr} {TS : List (Addr × Str)}
theorem sc_fields_right : FnScope ["_law_left", "_law_right"] ["_law_left", "_law_right"] (defScope s_fields_right) := ⟨rfl, rfl, rfl, by decide +kernel, rfl, by decide +kernel, by decide +kernel⟩
theorem ok_fields_right {f : Addr} {fd : FuncData} (F : Fun K "_law_fields_right" "_law_fields_right" s_fields_right f fd) (TX : TxtX P w K mg base EC) : FnR P w K mg base CX0 3 f (spFields TS K) := by
  refine fnr F sc_fields_right (fun vs H Q E h => ?_) (fun _ _ _ _ _ _ us hl => match us, hl with | [_, _], _ => rfl) (fun cdv A outer s H vs Q E hr h => ?_)
  · obtain ⟨v, u, rfl, _⟩ := h
    rfl
  · obtain ⟨v, u, rfl, hv, hu, q⟩ := h
    refine ⟨_, (pss_cons (ps_if (PW.pt (pw_or (pt_cmpR (op_neD hr.units) (pe_xv (pe_xm TX.BadMove hr (by decide) (by rfl) (pa_cons (pv 0) pa_nil)) (by rfl)) (pv 0) (nomark _)) (pw_or (pt_cmpR (op_neD hr.units) (pe_xv (pe_xm TX.NoPlace hr (by decide) (by rfl) (pa_cons (pv 0) pa_nil)) (by rfl)) (pv 0) (nomark _)) (pw_or1 (pt_cmpR (op_neD hr.units) (pe_xv (pe_xm TX.BadLine hr (by decide) (by rfl) (pa_cons (pv 0) pa_nil)) (by rfl)) (pv 0) (nomark _)))))) (pss_one (ps_ret pe_bl)) pss_nil)
      (pss_cons (ps_if (PW.pt (pw_or (pt_cmpR (op_neD hr.units) (pe_xv (pe_xm TX.Mismatch hr (by decide) (by rfl) (pa_cons (pv 0) (pa_cons (pv 1) pa_nil))) (by rfl)) (pv 0) (nomark _)) (pw_or (pt_cmpR (op_neD hr.units) (pe_xv (pe_xm TX.Mismatch hr (by decide) (by rfl) (pa_cons (pv 0) (pa_cons (pv 1) pa_nil))) (by rfl)) (pv 1) (nomark _)) (pw_or1 (pt_cmpR (op_neD hr.units) (pe_xv (pe_xm TX.BadContents hr (by decide) (by rfl) (pa_cons (pv 0) pa_nil)) (by rfl)) (pv 0) (nomark _)))))) (pss_one (ps_ret pe_bl)) pss_nil)
      (pss_cons (ps_if (PW.pt (pw_or (pt_cmpR (op_neD hr.units) (pe_xv (pe_xm TX.BadChoices hr (by decide) (by rfl) (pa_cons (pv 0) pa_nil)) (by rfl)) (pv 0) (nomark _)) (pw_or (pt_cmpR (op_neD hr.units) (pe_xv (pe_xm TX.NotInStep hr (by decide) (by rfl) (pa_cons (pv 0) pa_nil)) (by rfl)) (pv 0) (nomark _)) (pw_or1 (pt_cmpR (op_neD hr.units) (pe_xv (pe_xm TX.NoPicture hr (by decide) (by rfl) (pa_cons (pv 0) pa_nil)) (by rfl)) (pv 0) (nomark _)))))) (pss_one (ps_ret pe_bl)) pss_nil)
      (pss_cons (ps_if (PW.pt (pw_or (pt_cmpR (op_neD hr.units) (pe_xv (pe_xm TX.NotMoving hr (by decide) (by rfl) (pa_cons (pv 0) pa_nil)) (by rfl)) (pv 0) (nomark _)) (pw_or (pt_cmpR (op_neD hr.units) (pe_xv (pe_xm TX.BadChange hr (by decide) (by rfl) (pa_cons (pv 0) pa_nil)) (by rfl)) (pv 0) (nomark _)) (pw_or1 (pt_cmpR (op_neD hr.units) (pe_xv (pe_xm TX.DifferentLists hr (by decide) (by rfl) (pa_cons (pv 0) (pa_cons (pv 1) pa_nil))) (by rfl)) (pv 0) (nomark _)))))) (pss_one (ps_ret pe_bl)) pss_nil)
      (pss_cons (ps_if (PW.pt (pw_or (pt_cmpR (op_neD hr.units) (pe_xv (pe_xm TX.DifferentLists hr (by decide) (by rfl) (pa_cons (pv 0) (pa_cons (pv 1) pa_nil))) (by rfl)) (pv 1) (nomark _)) (pw_or (pt_cmpR (op_neD hr.units) (pe_xv (pe_xm TX.BadNames hr (by decide) (by rfl) (pa_cons (pv 0) pa_nil)) (by rfl)) (pv 0) (nomark _)) (pw_or1 (pt_cmpR (op_neD hr.units) (pe_xv (pe_xm TX.BadRow hr (by decide) (by rfl) (pa_cons (pv 0) pa_nil)) (by rfl)) (pv 0) (nomark _)))))) (pss_one (ps_ret pe_bl)) pss_nil)
      (pss_one (ps_ret (pe_and (pe_cmpR (op_eqD hr.units) (pe_xv (pe_xm TX.NoName hr (by decide) (by rfl) (pa_cons (pv 0) pa_nil)) (by rfl)) (pv 0) (nomark _)) (pe_one (pe_cmpR (op_eqD hr.units) (pe_xv (pe_xm TX.Slipped hr (by decide) (by rfl) (pa_cons (pv 0) pa_nil)) (by rfl)) (pv 0) (nomark _))))))))))), ?_⟩
    walk_at "rd"
    refine a_xm (TS := TS) rfl (by show 1 ≤ 1000; omega) (fun a1 H1 na1 e1 hx1 => ?_)
    refine a_xv hx1 (TX.ev 0 (by decide)) TX.f_BadMove_at rfl ?_
    walk_at "rd"
    refine a_neS (hv.ev (by walk_at "e")) ?_
    walk_at "rd"
    refine a_xm (TS := TS) rfl (by show 1 ≤ 1000; omega) (fun a2 H2 na2 e2 hx2 => ?_)
    refine a_xv hx2 (TX.ev 1 (by decide)) TX.f_NoPlace_place rfl ?_
    walk_at "rd"
    refine a_neS (hv.ev (by walk_at "e")) ?_
    walk_at "rd"
    refine a_xm (TS := TS) rfl (by show 1 ≤ 1000; omega) (fun a3 H3 na3 e3 hx3 => ?_)
    refine a_xv hx3 (TX.ev 3 (by decide)) TX.f_BadLine_at rfl ?_
    walk_at "rd"
    refine a_neS (hv.ev (by walk_at "e")) ?_
    walk_at "rd"
    refine a_xm (TS := TS) rfl (by show 2 ≤ 1000; omega) (fun a4 H4 na4 e4 hx4 => ?_)
    refine a_xv hx4 (TX.ev 2 (by decide)) TX.f_Mismatch_wanted rfl ?_
    walk_at "rd"
    refine a_neS (hv.ev (by walk_at "e")) ?_
    walk_at "rd"
    refine a_xm (TS := TS) rfl (by show 2 ≤ 1000; omega) (fun a5 H5 na5 e5 hx5 => ?_)
    refine a_xv hx5 (TX.ev 2 (by decide)) TX.f_Mismatch_got rfl ?_
    walk_at "rd"
    refine a_neS (hu.ev (by walk_at "e")) ?_
    walk_at "rd"
    refine a_xm (TS := TS) rfl (by show 1 ≤ 1000; omega) (fun a6 H6 na6 e6 hx6 => ?_)
    refine a_xv hx6 (TX.ev 4 (by decide)) TX.f_BadContents_at rfl ?_
    walk_at "rd"
    refine a_neS (hv.ev (by walk_at "e")) ?_
    walk_at "rd"
    refine a_xm (TS := TS) rfl (by show 1 ≤ 1000; omega) (fun a7 H7 na7 e7 hx7 => ?_)
    refine a_xv hx7 (TX.ev 5 (by decide)) TX.f_BadChoices_at rfl ?_
    walk_at "rd"
    refine a_neS (hv.ev (by walk_at "e")) ?_
    walk_at "rd"
    refine a_xm (TS := TS) rfl (by show 1 ≤ 1000; omega) (fun a8 H8 na8 e8 hx8 => ?_)
    refine a_xv hx8 (TX.ev 6 (by decide)) TX.f_NotInStep_slip rfl ?_
    walk_at "rd"
    refine a_neS (hv.ev (by walk_at "e")) ?_
    walk_at "rd"
    refine a_xm (TS := TS) rfl (by show 1 ≤ 1000; omega) (fun a9 H9 na9 e9 hx9 => ?_)
    refine a_xv hx9 (TX.ev 7 (by decide)) TX.f_NoPicture_picture rfl ?_
    walk_at "rd"
    refine a_neS (hv.ev (by walk_at "e")) ?_
    walk_at "rd"
    refine a_xm (TS := TS) rfl (by show 1 ≤ 1000; omega) (fun a10 H10 na10 e10 hx10 => ?_)
    refine a_xv hx10 (TX.ev 8 (by decide)) TX.f_NotMoving_at rfl ?_
    walk_at "rd"
    refine a_neS (hv.ev (by walk_at "e")) ?_
    walk_at "rd"
    refine a_xm (TS := TS) rfl (by show 1 ≤ 1000; omega) (fun a11 H11 na11 e11 hx11 => ?_)
    refine a_xv hx11 (TX.ev 9 (by decide)) TX.f_BadChange_change rfl ?_
    walk_at "rd"
    refine a_neS (hv.ev (by walk_at "e")) ?_
    walk_at "rd"
    refine a_xm (TS := TS) rfl (by show 2 ≤ 1000; omega) (fun a12 H12 na12 e12 hx12 => ?_)
    refine a_xv hx12 (TX.ev 10 (by decide)) TX.f_DifferentLists_one rfl ?_
    walk_at "rd"
    refine a_neS (hv.ev (by walk_at "e")) ?_
    walk_at "rd"
    refine a_xm (TS := TS) rfl (by show 2 ≤ 1000; omega) (fun a13 H13 na13 e13 hx13 => ?_)
    refine a_xv hx13 (TX.ev 10 (by decide)) TX.f_DifferentLists_other rfl ?_
    walk_at "rd"
    refine a_neS (hu.ev (by walk_at "e")) ?_
    walk_at "rd"
    refine a_xm (TS := TS) rfl (by show 1 ≤ 1000; omega) (fun a14 H14 na14 e14 hx14 => ?_)
    refine a_xv hx14 (TX.ev 11 (by decide)) TX.f_BadNames_at rfl ?_
    walk_at "rd"
    refine a_neS (hv.ev (by walk_at "e")) ?_
    walk_at "rd"
    refine a_xm (TS := TS) rfl (by show 1 ≤ 1000; omega) (fun a15 H15 na15 e15 hx15 => ?_)
    refine a_xv hx15 (TX.ev 12 (by decide)) TX.f_BadRow_at rfl ?_
    walk_at "rd"
    refine a_neS (hv.ev (by walk_at "e")) ?_
    walk_at "rd"
    refine a_xm (TS := TS) rfl (by show 1 ≤ 1000; omega) (fun a16 H16 na16 e16 hx16 => ?_)
    refine a_xv hx16 (TX.ev 13 (by decide)) TX.f_NoName_name rfl ?_
    walk_at "rd"
    refine a_eqS (hv.ev (by walk_at "e")) ?_
    walk_at "rd"
    refine a_xm (TS := TS) rfl (by show 1 ≤ 1000; omega) (fun a17 H17 na17 e17 hx17 => ?_)
    refine a_xv hx17 (TX.ev 14 (by decide)) TX.f_Slipped_slip rfl ?_
    walk_at "rd"
    refine a_eqS (hv.ev (by walk_at "e")) ?_
    walk_at "rd"
    exact q H17 (by walk_at "e")
end
end MV

namespace MV
open PySem PySem.Spec PyProof.Rows L2 SB MM LamX
local macro_rules | `(tactic| walk_at "rd") => `(tactic| repeat (first | (refine ⟨_, rfl, ?_⟩) | (refine ⟨_, _, rfl, rfl, ?_⟩) | (refine ⟨_, _, rfl, ?_⟩) | (refine ⟨rfl, ?_⟩) | (with_reducible refine st_nil ?_) | (with_reducible refine st_cons ?_) | (with_reducible refine st_C ?_)))
local macro_rules | `(tactic| walk_at "isL") => `(tactic| first | assumption | (apply isL.of; assumption) | (apply isL.bag; assumption) | (apply isL.ev; assumption; walk_at "isL"))
local macro_rules | `(tactic| walk_at "isI") => `(tactic| first | assumption | (apply isI.of; assumption) | (apply isI.ev; assumption; walk_at "isI"))
local macro_rules | `(tactic| walk_at "al") => `(tactic| first | assumption | (apply isL.al; walk_at "isL") | (apply isI.al; walk_at "isI") | (apply Al.dK; assumption) | (apply Al.dT; assumption) | (apply Al.ev; assumption; walk_at "al"))
local macro_rules | `(tactic| walk_at "ne") => `(tactic| first | (apply NeH.of; assumption) | (apply NeH.ofs; assumption) | (apply neLI; walk_at "isL"; walk_at "isI") | (apply neIL; walk_at "isI"; walk_at "isL") | (apply Al.ne; assumption; walk_at "al") | (apply Al.ens; assumption; walk_at "al") | (apply NA.ne; assumption; walk_at "al") | (apply NA.ens; assumption; walk_at "al"))
local macro_rules | `(tactic| walk_at "nin") => `(tactic| first | exact trivial | (refine And.intro ?_ ?_; walk_at "ne"; walk_at "nin"))
local macro_rules | `(tactic| walk_at "t") => `(tactic| first | assumption | (apply ev_tup; assumption; walk_at "t") | (apply ev_lst; assumption; walk_at "t"; walk_at "nin") | (apply ev_ins; assumption; walk_at "t"; walk_at "nin") | (apply ev_dK; assumption; walk_at "t"; walk_at "nin") | (apply ev_dT; assumption; walk_at "t"; walk_at "nin") | (apply ev_bag; assumption; walk_at "t"; walk_at "nin") | (apply ev_tabs; assumption; walk_at "t") | (apply ev_fzT; assumption; walk_at "t") | (apply SqL.of; walk_at "t") | (apply SqT.of; walk_at "t") | (apply ev_sqT; assumption; walk_at "t") | (apply ev_sqL; assumption; walk_at "t"; walk_at "nin"))
local macro_rules | `(tactic| walk_at "le") => `(tactic| first | exact Le.refl _ | (apply Le.ev; assumption; walk_at "le"))
local macro_rules | `(tactic| walk_at "om") => `(tactic| first | exact Or.inl (List.mem_cons_self) | exact Or.inl (List.mem_cons_of_mem _ List.mem_cons_self) | exact Or.inl (List.mem_cons_of_mem _ (List.mem_cons_of_mem _ List.mem_cons_self)) | (apply Or.inr; apply nal0; assumption) | (apply Or.inr; apply Le.nal; assumption; walk_at "le") | (apply Or.inr; apply Le.na; assumption; walk_at "le"))
local macro_rules | `(tactic| walk_at "out") => `(tactic| first | exact trivial | (refine And.intro ?_ ?_; walk_at "om"; walk_at "out"))
local macro_rules | `(tactic| walk_at "e") => `(tactic| first | assumption | exact Ev.refl _ _ | (apply Ev.trans'; assumption; walk_at "e"; walk_at "out"))
local macro_rules | `(tactic| walk_at "c") => `(tactic| dsimp only [tNil, tCons, tC])
local macro_rules | `(tactic| walk_at "na") => `(tactic| first | assumption | (apply NA.of; assumption) | (apply Le.nal; assumption; walk_at "le") | (apply Le.na; assumption; walk_at "le"))
local macro_rules | `(tactic| walk_at "rs") => `(tactic| repeat (first | (with_reducible refine st_nil ?_) | (with_reducible refine st_cons ?_) | (with_reducible refine st_C ?_)))
local macro_rules | `(tactic| walk_at "rv") => `(tactic| repeat (first | (refine ⟨_, rfl, ?_⟩) | (with_reducible refine st_nil ?_) | (with_reducible refine st_cons ?_) | (with_reducible refine st_C ?_)))
local macro_rules | `(tactic| walk_at "if") => `(tactic| first | refine ifT rfl ?_ | refine ifF rfl ?_ | skip)
theorem rng_yld {x : V} {i : Nat} {H H' : Hp} (h : H' = H ∧ x = .int (0 + (i : Int))) : H' = H ∧ x = .int (i : Int) := by
  obtain ⟨h1, h2⟩ := h
  exact ⟨h1, by rw [h2, Int.zero_add]⟩
theorem dp_blF {K : PySem.W.Frag} {H : Hp} (g : Nat → Bool) : ∀ l : List Nat, DpAll K H (l.map fun m => V.bl (g m)) (l.map fun m => PyData.bool (g m))
  | [] => .nil
  | m :: l => .cons (.bl _) (dp_blF g l)
theorem a_neB {K : PySem.W.Frag} {H : Hp} {a b : Addr} {Q : VK} (g : Nat → Bool) (l : List Nat) (ha : H a = some (.lst (l.map fun m => V.bl (g m)))) (hb : H b = some (.lst (l.map fun m => V.bl (g m)))) (q : Q (.bl false) H) : rNeD K (.ref a) (.ref b) H Q := by
  have sh : ∀ d ∈ (l.map fun m => PyData.bool (g m)), Sh d := fun d hd => by
    obtain ⟨m, _, rfl⟩ := List.mem_map.mp hd
    generalize g m = z
    cases z <;> exact ⟨rfl, by decide⟩
  refine a_neD (.lst (SqL.of ha) (dp_blF g l)) (.lst (SqL.of hb) (dp_blF g l)) (shaped_list sh) (shaped_list sh) ?_
  rw [eqv_same sh]
  exact q
theorem a_isS {P : Program} {w : World} {K : PySem.W.Frag} {mg : Str → Option Value} {base : Heap} {EC : Nat → Addr} {H : Hp} {v : V} {k : Nat} {fs : List (Str × V)} {Q : VK} (TX : TxtX P w K mg base EC) (hx : Exv H v (EC k) fs) (hk : k < 15) (q : Q (.bl true) H) : rIsiE K [v, .ref (EC 15)] H Q :=
  ⟨v, .ref (EC 15), EC k, fs, .ref (EC 15), _, rfl, .own _, hx, TX.ev k hk, TX.isS k hk, q⟩
theorem a_isV {P : Program} {w : World} {K : PySem.W.Frag} {mg : Str → Option Value} {base : Heap} {EC : Nat → Addr} {H : Hp} {v : V} {k : Nat} {fs : List (Str × V)} {Q : VK} (TX : TxtX P w K mg base EC) (hx : Exv H v (EC k) fs) (hk : k < 15) (q : Q (.bl true) H) : rIsiE K [v, .ty "ValueError"] H Q :=
  ⟨v, .ty "ValueError", EC k, fs, .type "ValueError", _, rfl, .ty _, hx, TX.ev k hk, TX.isV k hk, q⟩
abbrev s_classes_right : Stmt := top 38
def spClasses (TS : List (Addr × Str)) : Sp := fun vs H Q _ => ∃ (v u : V), vs = [v, u] ∧ ∀ H', Ev TS [] H H' → Q (.bl true) H'
section
variable {P : Program} {w : World} {K : PySem.W.Frag} {mg : Str → Option Value} {base : Heap} {EC : Nat → Addr} {TS : List (Addr × Str)}
theorem sc_classes_right : FnScope ["_law_left", "_law_right", "_law_errors", "_law_k", "_law_spot"] ["_law_left", "_law_right"] (defScope s_classes_right) := ⟨rfl, rfl, rfl, by decide +kernel, rfl, by decide +kernel, by decide +kernel⟩
theorem ok_classes_right {f : Addr} {fd : FuncData} (F : Fun K "_law_classes_right" "_law_classes_right" s_classes_right f fd) (T : Blt mg) (TX : TxtX P w K mg base EC) (Dkinds : Cl P w K mg base CX0 1 "_law_kinds" (spKinds TS EC)) : FnR P w K mg base CX0 3 f (spClasses TS) := by
  refine fnr F sc_classes_right (fun vs H Q E h => ?_) (fun _ _ _ _ _ _ us hl => match us, hl with | [_, _], _ => rfl) (fun cdv A outer s H vs Q E hr h => ?_)
  · obtain ⟨v, u, rfl, _⟩ := h
    rfl
  · obtain ⟨v, u, rfl, q⟩ := h
    refine ⟨_, (pss_cons (ps_set (i := 2) sc_classes_right.nd rfl (Or.inl rfl) (pe_lst (pa_cons (pe_xm TX.BadMove hr (by decide) (by rfl) (pa_cons (pv 0) pa_nil)) (pa_cons (pe_xm TX.NoPlace hr (by decide) (by rfl) (pa_cons (pv 0) pa_nil)) (pa_cons (pe_xm TX.Mismatch hr (by decide) (by rfl) (pa_cons (pv 0) (pa_cons (pv 1) pa_nil))) (pa_cons (pe_xm TX.BadLine hr (by decide) (by rfl) (pa_cons (pv 0) pa_nil)) (pa_cons (pe_xm TX.BadContents hr (by decide) (by rfl) (pa_cons (pv 0) pa_nil)) (pa_cons (pe_xm TX.BadChoices hr (by decide) (by rfl) (pa_cons (pv 0) pa_nil)) pa_nil))))))))
      (pss_cons (ps_set (i := 2) sc_classes_right.nd rfl (Or.inl rfl) (pe_op op_cat (pv 2) (pe_lst (pa_cons (pe_xm TX.NotInStep hr (by decide) (by rfl) (pa_cons (pv 0) pa_nil)) (pa_cons (pe_xm TX.NoPicture hr (by decide) (by rfl) (pa_cons (pv 0) pa_nil)) (pa_cons (pe_xm TX.NotMoving hr (by decide) (by rfl) (pa_cons (pv 0) pa_nil)) (pa_cons (pe_xm TX.BadChange hr (by decide) (by rfl) (pa_cons (pv 0) pa_nil)) (pa_cons (pe_xm TX.DifferentLists hr (by decide) (by rfl) (pa_cons (pv 0) (pa_cons (pv 1) pa_nil))) pa_nil))))))))
      (pss_cons (ps_set (i := 2) sc_classes_right.nd rfl (Or.inl rfl) (pe_op op_cat (pv 2) (pe_lst (pa_cons (pe_xm TX.BadNames hr (by decide) (by rfl) (pa_cons (pv 0) pa_nil)) (pa_cons (pe_xm TX.BadRow hr (by decide) (by rfl) (pa_cons (pv 0) pa_nil)) (pa_cons (pe_xm TX.NoName hr (by decide) (by rfl) (pa_cons (pv 0) pa_nil)) (pa_cons (pe_xm TX.Slipped hr (by decide) (by rfl) (pa_cons (pv 0) pa_nil)) pa_nil)))))))
      (pss_cons (ps_for PassesOwn.never rfl (pi_range1 (by rfl) T.n_range (pa_cons (pe_callB call_len_seq (by rfl) T.n_len (by decide +kernel) (pa_cons (pv 2) pa_nil)) pa_nil)) (pg_name (i := 3) sc_classes_right.nd rfl (Or.inr rfl))
        (pss_cons (ps_if (pt_cmpR (op_neD hr.units) (pe_cl Dkinds hr (by decide) (by rfl) pass0 (pa_cons (pe_ix ix_list (pv 2) (pv 3) (fun _ _ => rfl)) pa_nil)) (pe_lc (own := [("_law_spot", 4)]) (by rfl) sc_classes_right.nd (pi_range1 (by rfl) T.n_range (pa_cons (pe_callB call_len_seq (by rfl) T.n_len (by decide +kernel) (pa_cons (pv 2) pa_nil)) pa_nil)) (blkOk_by (own := [("_law_spot", 4)]) (N := ["_law_left", "_law_right", "_law_errors", "_law_k", "_law_spot"]) (sc := defScope s_classes_right) (by first | decide +kernel | kernel_rfl)) (fun _ _ _ _ _ => (pg_name (i := 4) sc_classes_right.nd rfl (Or.inl rfl))) (fun _ _ _ _ _ => by exact pts_nil) (fun _ _ _ _ _ => by exact (pe_cmpR op_eq (pv 3) (pv 4) (nomark _)))) (nomark _)) (pss_one (ps_ret pe_bl)) pss_nil)
        (pss_one (ps_if (PW.pt (pw_or (pt_not (pt_val (pe_callB call_isiE (by rfl) TX.n_isinstance (by decide +kernel) (pa_cons (pe_ix ix_list (pv 2) (pv 3) (fun _ _ => rfl)) (pa_cons (pe_glob (v := .ref (EC 15)) (by rfl) TX.g_SidelistsError rfl) pa_nil))))) (pw_or1 (pt_not (pt_val (pe_callB call_isiE (by rfl) TX.n_isinstance (by decide +kernel) (pa_cons (pe_ix ix_list (pv 2) (pv 3) (fun _ _ => rfl)) (pa_cons (pe_bltn (v := .ty "ValueError") (by rfl) TX.n_ValueError (by decide +kernel) rfl) pa_nil)))))))) (pss_one (ps_ret pe_bl)) pss_nil))))
      (pss_one (ps_ret pe_bl)))))), ?_⟩
    walk_at "rd"
    refine a_xm (TS := TS) rfl (by show 1 ≤ 1000; omega) (fun a0 H0 na0 e0 hx0 => ?_)
    walk_at "rd"
    refine a_xm (TS := TS) rfl (by show 1 ≤ 1000; omega) (fun a1 H1 na1 e1 hx1 => ?_)
    walk_at "rd"
    refine a_xm (TS := TS) rfl (by show 2 ≤ 1000; omega) (fun a2 H2 na2 e2 hx2 => ?_)
    walk_at "rd"
    refine a_xm (TS := TS) rfl (by show 1 ≤ 1000; omega) (fun a3 H3 na3 e3 hx3 => ?_)
    walk_at "rd"
    refine a_xm (TS := TS) rfl (by show 1 ≤ 1000; omega) (fun a4 H4 na4 e4 hx4 => ?_)
    walk_at "rd"
    refine a_xm (TS := TS) rfl (by show 1 ≤ 1000; omega) (fun a5 H5 na5 e5 hx5 => ?_)
    walk_at "rd"
    refine ⟨show 6 ≤ sizeLine by rw [sizeLine_eq]; omega, fun p0 hp0 => ?_⟩
    generalize hXX : upd _ p0 _ = L0
    obtain ⟨f0, h0⟩ := new_facts (TS := TS) hXX hp0
    clear hXX
    walk_at "rs"
    walk_at "rd"
    refine a_xm (TS := TS) rfl (by show 1 ≤ 1000; omega) (fun a6 H6 na6 e6 hx6 => ?_)
    walk_at "rd"
    refine a_xm (TS := TS) rfl (by show 1 ≤ 1000; omega) (fun a7 H7 na7 e7 hx7 => ?_)
    walk_at "rd"
    refine a_xm (TS := TS) rfl (by show 1 ≤ 1000; omega) (fun a8 H8 na8 e8 hx8 => ?_)
    walk_at "rd"
    refine a_xm (TS := TS) rfl (by show 1 ≤ 1000; omega) (fun a9 H9 na9 e9 hx9 => ?_)
    walk_at "rd"
    refine a_xm (TS := TS) rfl (by show 2 ≤ 1000; omega) (fun a10 H10 na10 e10 hx10 => ?_)
    walk_at "rd"
    refine ⟨show 5 ≤ sizeLine by rw [sizeLine_eq]; omega, fun p6 hp6 => ?_⟩
    generalize hXX : upd _ p6 _ = L6
    obtain ⟨f6, h6⟩ := new_facts (TS := TS) hXX hp6
    clear hXX
    walk_at "rs"
    walk_at "rd"
    refine a_cat (TS := TS) ((by walk_at "t")) ((by walk_at "t")) (by rw [sizeLine_eq]; simp) (fun q6 M6 hq6 g6 c6 => ?_)
    walk_at "rd"
    refine a_xm (TS := TS) rfl (by show 1 ≤ 1000; omega) (fun a11 H11 na11 e11 hx11 => ?_)
    walk_at "rd"
    refine a_xm (TS := TS) rfl (by show 1 ≤ 1000; omega) (fun a12 H12 na12 e12 hx12 => ?_)
    walk_at "rd"
    refine a_xm (TS := TS) rfl (by show 1 ≤ 1000; omega) (fun a13 H13 na13 e13 hx13 => ?_)
    walk_at "rd"
    refine a_xm (TS := TS) rfl (by show 1 ≤ 1000; omega) (fun a14 H14 na14 e14 hx14 => ?_)
    walk_at "rd"
    refine ⟨show 4 ≤ sizeLine by rw [sizeLine_eq]; omega, fun p11 hp11 => ?_⟩
    generalize hXX : upd _ p11 _ = L11
    obtain ⟨f11, h11⟩ := new_facts (TS := TS) hXX hp11
    clear hXX
    walk_at "rs"
    walk_at "rd"
    refine a_cat (TS := TS) ((by walk_at "t")) ((by walk_at "t")) (by rw [sizeLine_eq]; simp) (fun q11 M11 hq11 g11 c11 => ?_)
    walk_at "rd"
    have X0 : Exv M11 (.ref a0) (EC 0) _ := exv_ev hx0 (by walk_at "e")
    have X1 : Exv M11 (.ref a1) (EC 1) _ := exv_ev hx1 (by walk_at "e")
    have X2 : Exv M11 (.ref a2) (EC 2) _ := exv_ev hx2 (by walk_at "e")
    have X3 : Exv M11 (.ref a3) (EC 3) _ := exv_ev hx3 (by walk_at "e")
    have X4 : Exv M11 (.ref a4) (EC 4) _ := exv_ev hx4 (by walk_at "e")
    have X5 : Exv M11 (.ref a5) (EC 5) _ := exv_ev hx5 (by walk_at "e")
    have X6 : Exv M11 (.ref a6) (EC 6) _ := exv_ev hx6 (by walk_at "e")
    have X7 : Exv M11 (.ref a7) (EC 7) _ := exv_ev hx7 (by walk_at "e")
    have X8 : Exv M11 (.ref a8) (EC 8) _ := exv_ev hx8 (by walk_at "e")
    have X9 : Exv M11 (.ref a9) (EC 9) _ := exv_ev hx9 (by walk_at "e")
    have X10 : Exv M11 (.ref a10) (EC 10) _ := exv_ev hx10 (by walk_at "e")
    have X11 : Exv M11 (.ref a11) (EC 11) _ := exv_ev hx11 (by walk_at "e")
    have X12 : Exv M11 (.ref a12) (EC 12) _ := exv_ev hx12 (by walk_at "e")
    have X13 : Exv M11 (.ref a13) (EC 13) _ := exv_ev hx13 (by walk_at "e")
    have X14 : Exv M11 (.ref a14) (EC 14) _ := exv_ev hx14 (by walk_at "e")
    obtain ⟨as, hla, hlst, hall⟩ : ∃ as : List Addr, as.length = 15 ∧ M11 q11 = some (.lst (as.map V.ref)) ∧ ∀ k a, as[k]? = some a → ∃ fs, Exv M11 (.ref a) (EC k) fs := by
      refine ⟨[a0, a1, a2, a3, a4, a5, a6, a7, a8, a9, a10, a11, a12, a13, a14], rfl, by rw [c11]; rfl, fun k a ha => ?_⟩
      match k, ha with
      | 0, ha => cases ha; exact ⟨_, X0⟩
      | 1, ha => cases ha; exact ⟨_, X1⟩
      | 2, ha => cases ha; exact ⟨_, X2⟩
      | 3, ha => cases ha; exact ⟨_, X3⟩
      | 4, ha => cases ha; exact ⟨_, X4⟩
      | 5, ha => cases ha; exact ⟨_, X5⟩
      | 6, ha => cases ha; exact ⟨_, X6⟩
      | 7, ha => cases ha; exact ⟨_, X7⟩
      | 8, ha => cases ha; exact ⟨_, X8⟩
      | 9, ha => cases ha; exact ⟨_, X9⟩
      | 10, ha => cases ha; exact ⟨_, X10⟩
      | 11, ha => cases ha; exact ⟨_, X11⟩
      | 12, ha => cases ha; exact ⟨_, X12⟩
      | 13, ha => cases ha; exact ⟨_, X13⟩
      | 14, ha => cases ha; exact ⟨_, X14⟩
      | k + 15, ha => cases ha
    clear X0 X1 X2 X3 X4 X5 X6 X7 X8 X9 X10 X11 X12 X13 X14
    have E11 : Ev TS [] H M11 := (by walk_at "e")
    have hlen : (as.map V.ref).length = 15 := by rw [List.length_map, hla]
    refine ⟨q11, as.map V.ref, rfl, .inl (SqL.of hlst), ?_⟩
    rw [hlen]
    walk_at "rd"
    refine ⟨by omega, by omega, ?_⟩
    refine for_it walk_range (fun i σ H' => ∃ w3 w4 : Option V, σ = [some v, some u, some (.ref q11), w3, w4] ∧ Ev TS [] M11 H') ⟨_, _, rfl, Ev.refl _ _⟩ (fun _ _ _ _ _ => trivial) ?_ ?_
    · rintro i x σ H5 H5' hi ⟨w3, w4, rfl, e5⟩ y
      obtain ⟨rfl, rfl⟩ := rng_yld y
      have hi' : i < 15 := hi
      obtain ⟨a, ha⟩ : ∃ a, as[i]? = some a := ⟨as[i]'(by omega), List.getElem?_eq_getElem (by omega)⟩
      obtain ⟨fs, hx⟩ := hall i a ha
      walk_at "rd"
      refine ⟨q11, as.map V.ref, i, .ref a, rfl, rfl, SqL.of (by walk_at "t"), atI_nat (j := i) (by rw [List.getElem?_map, ha]; rfl), ?_⟩
      walk_at "rd"
      refine ⟨.ref a, i, fs, rfl, hi', exv_ev hx (by walk_at "e"), fun p6 H6 na6 e6 h6 => ?_⟩
      walk_at "rd"
      refine ⟨q11, as.map V.ref, rfl, .inl (SqL.of (by walk_at "t")), ?_⟩
      rw [hlen]
      walk_at "rd"
      refine ⟨by omega, by omega, fun D hD => ?_⟩
      refine lc_ev (TS := TS) walk_range hD (fun j acc H' => Ev TS [] H6 H' ∧ acc = (List.range j).map fun m => V.bl (decide (i = m))) (fun H7 e7 h7 => ⟨e7, rfl⟩) (fun _ _ _ _ _ _ => trivial) ?_ ?_
      · rintro j x acc H7 H8 hj ⟨e7, rfl⟩ hD7 y
        obtain ⟨rfl, rfl⟩ := rng_yld y
        have hj' : j < 15 := hj
        walk_at "rd"
        refine lc_put (TS := TS) (acc := (List.range j).map fun m => V.bl (decide (i = m))) (by walk_at "t") (by rw [List.length_map, List.length_range, sizeLine_eq]; omega) fun H9 e9 h9 => ⟨(by walk_at "e"), ?_⟩
        rw [List.range_succ, List.map_append]
        have ed : decide (V.int (i : Int) = V.int (j : Int)) = decide (i = j) := by
          exact decide_eq_decide.mpr ⟨fun z => Int.ofNat.inj (V.int.inj z), fun z => by rw [z]⟩
        rw [ed]
        rfl
      rintro acc H7 ⟨e7, rfl⟩ hD7
      walk_at "rd"
      refine a_neB (fun m => decide (i = m)) (List.range 15) (ev_lst e7 h6 trivial) hD7 ?_
      walk_at "rd"
      refine ⟨q11, as.map V.ref, i, .ref a, rfl, rfl, SqL.of (by walk_at "t"), atI_nat (j := i) (by rw [List.getElem?_map, ha]; rfl), ?_⟩
      walk_at "rd"
      refine a_isS TX (exv_ev hx (by walk_at "e")) hi' ?_
      walk_at "rd"
      refine ⟨q11, as.map V.ref, i, .ref a, rfl, rfl, SqL.of (by walk_at "t"), atI_nat (j := i) (by rw [List.getElem?_map, ha]; rfl), ?_⟩
      walk_at "rd"
      refine a_isV TX (exv_ev hx (by walk_at "e")) hi' ?_
      walk_at "rd"
      exact (by walk_at "e")
    · rintro σ H5 ⟨w3, w4, rfl, e5⟩
      walk_at "rd"
      exact q H5 (by walk_at "e")
end
end MV

namespace MV
open PySem PySem.Spec PyProof.Rows L2 SB MM LamX
local macro_rules | `(tactic| walk_at "rd") => `(tactic| repeat (first | (refine ⟨_, rfl, ?_⟩) | (refine ⟨_, _, rfl, rfl, ?_⟩) | (refine ⟨_, _, rfl, ?_⟩) | (refine ⟨rfl, ?_⟩) | (with_reducible refine st_nil ?_) | (with_reducible refine st_cons ?_) | (with_reducible refine st_C ?_)))
local macro_rules | `(tactic| walk_at "isL") => `(tactic| first | assumption | (apply isL.of; assumption) | (apply isL.bag; assumption) | (apply isL.ev; assumption; walk_at "isL"))
local macro_rules | `(tactic| walk_at "isI") => `(tactic| first | assumption | (apply isI.of; assumption) | (apply isI.ev; assumption; walk_at "isI"))
local macro_rules | `(tactic| walk_at "al") => `(tactic| first | assumption | (apply isL.al; walk_at "isL") | (apply isI.al; walk_at "isI") | (apply Al.dK; assumption) | (apply Al.dT; assumption) | (apply Al.ev; assumption; walk_at "al"))
local macro_rules | `(tactic| walk_at "ne") => `(tactic| first | (apply NeH.of; assumption) | (apply NeH.ofs; assumption) | (apply neLI; walk_at "isL"; walk_at "isI") | (apply neIL; walk_at "isI"; walk_at "isL") | (apply Al.ne; assumption; walk_at "al") | (apply Al.ens; assumption; walk_at "al") | (apply NA.ne; assumption; walk_at "al") | (apply NA.ens; assumption; walk_at "al"))
local macro_rules | `(tactic| walk_at "nin") => `(tactic| first | exact trivial | (refine And.intro ?_ ?_; walk_at "ne"; walk_at "nin"))
local macro_rules | `(tactic| walk_at "t") => `(tactic| first | assumption | (apply ev_tup; assumption; walk_at "t") | (apply ev_lst; assumption; walk_at "t"; walk_at "nin") | (apply ev_ins; assumption; walk_at "t"; walk_at "nin") | (apply ev_dK; assumption; walk_at "t"; walk_at "nin") | (apply ev_dT; assumption; walk_at "t"; walk_at "nin") | (apply ev_bag; assumption; walk_at "t"; walk_at "nin") | (apply ev_tabs; assumption; walk_at "t") | (apply ev_fzT; assumption; walk_at "t") | (apply SqL.of; walk_at "t") | (apply SqT.of; walk_at "t") | (apply ev_sqT; assumption; walk_at "t") | (apply ev_sqL; assumption; walk_at "t"; walk_at "nin"))
local macro_rules | `(tactic| walk_at "le") => `(tactic| first | exact Le.refl _ | (apply Le.ev; assumption; walk_at "le"))
local macro_rules | `(tactic| walk_at "om") => `(tactic| first | exact Or.inl (List.mem_cons_self) | exact Or.inl (List.mem_cons_of_mem _ List.mem_cons_self) | exact Or.inl (List.mem_cons_of_mem _ (List.mem_cons_of_mem _ List.mem_cons_self)) | (apply Or.inr; apply nal0; assumption) | (apply Or.inr; apply Le.nal; assumption; walk_at "le") | (apply Or.inr; apply Le.na; assumption; walk_at "le"))
local macro_rules | `(tactic| walk_at "out") => `(tactic| first | exact trivial | (refine And.intro ?_ ?_; walk_at "om"; walk_at "out"))
local macro_rules | `(tactic| walk_at "e") => `(tactic| first | assumption | exact Ev.refl _ _ | (apply Ev.trans'; assumption; walk_at "e"; walk_at "out"))
local macro_rules | `(tactic| walk_at "c") => `(tactic| dsimp only [tNil, tCons, tC])
local macro_rules | `(tactic| walk_at "na") => `(tactic| first | assumption | (apply NA.of; assumption) | (apply Le.nal; assumption; walk_at "le") | (apply Le.na; assumption; walk_at "le"))
local macro_rules | `(tactic| walk_at "rs") => `(tactic| repeat (first | (with_reducible refine st_nil ?_) | (with_reducible refine st_cons ?_) | (with_reducible refine st_C ?_)))
local macro_rules | `(tactic| walk_at "rv") => `(tactic| repeat (first | (refine ⟨_, rfl, ?_⟩) | (with_reducible refine st_nil ?_) | (with_reducible refine st_cons ?_) | (with_reducible refine st_C ?_)))
local macro_rules | `(tactic| walk_at "if") => `(tactic| first | refine ifT rfl ?_ | refine ifF rfl ?_ | skip)
abbrev s_pg_init : Stmt := inClass (top 31) 1
abbrev s_refused : Stmt := top 39
/-- a value that is no string -/
def NoS (K : PySem.W.Frag) (H : Hp) (v : V) : Prop := ∃ t, TyX K H v t ∧ PySem.W.kitOne K t (.type "str") = some false
def spPgI (TS : List (Addr × Str)) (K : PySem.W.Frag) (EC : Nat → Addr) : Sp := fun vs H _ E => ∃ (a : Addr) (v : V), vs = [.ref a, v] ∧ NoS K H v ∧ ∀ (d : Addr) H', NA H d → Ev TS [] H H' → H' d = some (.xd [("at", .int (-1))]) → E (.ref (EC 3)) (some d) H'
section
variable {P : Program} {w : World} {K : PySem.W.Frag} {mg : Str → Option Value} {base : Heap} {EC : Nat → Addr} {TS : List (Addr × Str)}
theorem sc_pg_init : FnScope ["self", "text", "reader", "lines", "scopes", "at", "line", "parts", "part", "group", "name"] ["self", "text"] (defScope s_pg_init) := ⟨rfl, rfl, rfl, by decide +kernel, rfl, by decide +kernel, by decide +kernel⟩
theorem ok_pginit {f : Addr} {fd : FuncData} (F : Fun K "__init__" "Program.__init__" s_pg_init f fd) (T : Blt mg) (TX : TxtX P w K mg base EC) : FnR P w K mg base (L2.CX P w) 3 f (spPgI TS K EC) := by
  have XBadLine := TX.BadLine
  refine fnrX F sc_pg_init (fun vs H Q E h => ?_) (fun _ _ _ _ _ _ us hl => match us, hl with | [_, _], _ => rfl) (fun cdv A outer s H vs Q E hr h => ?_)
  · obtain ⟨a, v, rfl, _⟩ := h
    rfl
  · obtain ⟨a, v, rfl, ⟨t, ty, kt⟩, q⟩ := h
    refine ⟨_, (pss_cons (ps_if (pt_not (pt_val (pe_callB call_isi (by rfl) TX.n_isinstance (by decide +kernel) (pa_cons (pv 1) (pa_cons (pe_bltn (v := .ty "str") (by rfl) T.n_str (by decide +kernel) rfl) pa_nil))))) (pss_one (ps_raise rfl (takes_of rfl rfl rfl rfl) (pmk_x XBadLine hr (by decide) (by rfl) (pa_cons (pe_un un_neg pe_int) pa_nil)))) pss_nil) pss_never), ?_⟩
    walk_at "rd"
    refine ⟨v, .ty "str", t, .type "str", _, rfl, .ty _, ty, kt, ?_⟩
    walk_at "rd"
    exact ⟨by show 1 ≤ 1000; omega, fun d hd => q d _ (.of hd) (Ev.new hd) upd_same⟩
end
/-- no string, plainly -/
def Nsv (H : Hp) (v : V) : Prop := v = .non ∨ (∃ b, v = .bl b) ∨ (∃ i, v = .int i) ∨ (∃ a xs, v = .ref a ∧ H a = some (.lst xs)) ∨ ∃ a xs, v = .ref a ∧ H a = some (.tup xs)
theorem nsv_nos {K : PySem.W.Frag} {H : Hp} {v : V} (h : Nsv H v) : NoS K H v := by
  rcases h with rfl | ⟨b, rfl⟩ | ⟨i, rfl⟩ | ⟨a, xs, rfl, h⟩ | ⟨a, xs, rfl, h⟩
  · exact ⟨_, .base .non, rfl⟩
  · exact ⟨_, .base (.bl b), rfl⟩
  · exact ⟨_, .base (.int i), rfl⟩
  · exact ⟨_, .base (.lst h), rfl⟩
  · exact ⟨_, .base (.tup h), rfl⟩
theorem nsv_ev {H H' : Hp} {TS : List (Addr × Str)} {v : V} (h : Nsv H v) (e : Ev TS [] H H') : Nsv H' v := by
  rcases h with rfl | ⟨b, rfl⟩ | ⟨i, rfl⟩ | ⟨a, xs, rfl, h⟩ | ⟨a, xs, rfl, h⟩
  · exact .inl rfl
  · exact .inr (.inl ⟨b, rfl⟩)
  · exact .inr (.inr (.inl ⟨i, rfl⟩))
  · exact .inr (.inr (.inr (.inl ⟨a, xs, rfl, e.st _ _ h (fun z => nomatch z) (fun _ z => by cases z)⟩)))
  · exact .inr (.inr (.inr (.inr ⟨a, xs, rfl, e.st _ _ h (fun z => nomatch z) (fun _ z => by cases z)⟩)))
def spRefd (TS : List (Addr × Str)) : Sp := fun vs H Q _ => ∃ (v : V), vs = [v] ∧ Nsv H v ∧ ∀ H', Ev TS [] H H' → Q (.int (-1)) H'
section
variable {P : Program} {w : World} {K : PySem.W.Frag} {mg : Str → Option Value} {base : Heap} {EC : Nat → Addr} {TS : List (Addr × Str)} {CP : Addr}
theorem sc_refused : FnScope ["_law_value", "_law_e"] ["_law_value"] (defScope s_refused) := ⟨rfl, rfl, rfl, by decide +kernel, rfl, by decide +kernel, by decide +kernel⟩
theorem ok_refused {f : Addr} {fd : FuncData} (F : Fun K "_law_refused" "_law_refused" s_refused f fd) (T : Blt mg) (TX : TxtX P w K mg base EC) (MProgram : Ml P w K mg base (L2.CX P w) 3 "Program" CP (spPgI TS K EC)) (hex : PySem.W.exmOne K (.ref (EC 3)) (.ref (EC 15)) = some true) : FnR P w K mg base CX0 5 f (spRefd TS) := by
  refine fnr F sc_refused (fun vs H Q E h => ?_) (fun _ _ _ _ _ _ us hl => match us, hl with | [_], _ => rfl) (fun cdv A outer s H vs Q E hr h => ?_)
  · obtain ⟨v, rfl, _⟩ := h
    rfl
  · obtain ⟨v, rfl, hv, k⟩ := h
    refine ⟨_, pss_cons (ps_try_manyAs (n := "_law_e") (i := 1) (l := [(.ref (EC 15), _)]) rfl rfl sc_refused.nd rfl rfl takes_none5 (fun W pn xe tk hp => pss_one (ps_expr (pe_mlS (P := P) (w := w) (K := K) (mg := mg) (base := base) (by rfl) (by rfl) (by rfl) (by rfl) (by rfl) MProgram hr (by decide) (by rfl) (fun σ => passAt tk σ) (pa_cons (pv 0) pa_nil))))
        (.cons ⟨rfl, by decide, .inl TX.g_SidelistsError⟩ (fun a oe cls d pn hz dt => pss_one (ps_ret (pe_ifExp (pt_val (pe_callB (call_isiP hz dt) (by rfl) TX.n_isinstance (by decide +kernel) (pa_cons (pv 1) (pa_cons (pe_glob (v := .ref (EC 3)) (by rfl) TX.g_BadLine rfl) pa_nil)))) (pe_xf (TX.ev 3 (by decide)).xf TX.f_BadLine_at hz dt (pv 1)) pe_non))) .nil)) (pss_one (ps_ret pe_non)), ?_⟩
    walk_at "rd"
    refine fun x dx nx ndx nd => ?_
    have E1 : Ev TS [] H (upd (upd H dx (.own x)) x (.ins CP dx [])) := Ev.trans (Ev.new ndx) (Ev.new (by rw [upd_ne (Ne.symm nd)]; exact nx)) trivial
    generalize upd (upd H dx (.own x)) x (.ins CP dx []) = H1 at E1 ⊢
    refine ⟨x, v, rfl, nsv_nos (nsv_ev hv E1), fun d H2 nd2 e2 hd2 => ⟨true, hex, fun _ a na => ?_, fun z => by cases z⟩⟩
    walk_at "rd"
    refine ⟨EC 3, d, _, .ref (EC 3), .ref (EC 3), _, rfl, .own _, rfl, rfl, hd2, TX.ev 3 (by decide), TX.is 3 3 (by decide) (by decide), ?_⟩
    walk_at "rd"
    first | exact ⟨d, _, _, rfl, hd2, rfl, k H2 (by walk_at "e")⟩ | exact ⟨_, _, hd2, rfl, k H2 (by walk_at "e")⟩ | exact ⟨_, hd2, rfl, k H2 (by walk_at "e")⟩
end
end MV

namespace MV
open PySem PySem.Spec PyProof.Rows L2 SB
abbrev s_BadMove : Stmt := inClass (top 3) 0
abbrev s_NoPlace : Stmt := inClass (top 4) 0
abbrev s_Mismatch : Stmt := inClass (top 5) 0
abbrev s_BadLine : Stmt := inClass (top 6) 0
abbrev s_BadContents : Stmt := inClass (top 7) 0
abbrev s_BadChoices : Stmt := inClass (top 8) 0
abbrev s_NotInStep : Stmt := inClass (top 9) 0
abbrev s_NoPicture : Stmt := inClass (top 10) 0
abbrev s_NotMoving : Stmt := inClass (top 11) 0
abbrev s_BadChange : Stmt := inClass (top 12) 0
abbrev s_DifferentLists : Stmt := inClass (top 13) 0
abbrev s_BadNames : Stmt := inClass (top 14) 0
abbrev s_BadRow : Stmt := inClass (top 15) 0
abbrev s_NoName : Stmt := inClass (top 16) 0
abbrev s_Slipped : Stmt := inClass (top 17) 0
def exC (K : PySem.W.Frag) (l : List Addr) : Bool := l.all fun C => decide (PySem.W.findIn K (.ref C) "__class__" = some (some (.builtin "object.__class__"))) && (decide (PySem.W.mroIn K C (.type "object") = some true) && (PySem.W.clsIn K C).isSome)
theorem exvC_of {K : PySem.W.Frag} {l : List Addr} {C : Addr} (h : exC K l = true) (hm : C ∈ l) (x : XfC K C) (cn : PySem.W.specialIn K (.builtin "object.__class__") "__get__" = some (some (.builtin "getset_descriptor.__get__"))) (ct : PySem.W.takesIn K (.builtin "object.__class__") = some true) : ExvC K C := by
  have h1 := List.all_eq_true.mp h C hm
  obtain ⟨h1, h2⟩ := Bool.and_eq_true_iff.mp h1
  obtain ⟨h2, h3⟩ := Bool.and_eq_true_iff.mp h2
  exact ⟨x, h3, of_decide_eq_true h1, cn, ct, of_decide_eq_true h2⟩
def exIs (K : PySem.W.Frag) (E : Nat → Addr) : Bool := (List.range 15).all fun k => (List.range 15).all fun j => decide (PySem.W.kitOne K (.ref (E k)) (.ref (E j)) = some (decide (k = j)))
def exIsV (K : PySem.W.Frag) (E : Nat → Addr) (v : Value) : Bool := (List.range 15).all fun k => decide (PySem.W.kitOne K (.ref (E k)) v = some true)
theorem exIs_at {K : PySem.W.Frag} {E : Nat → Addr} (h : exIs K E = true) (k j : Nat) (hk : k < 15) (hj : j < 15) : PySem.W.kitOne K (.ref (E k)) (.ref (E j)) = some (decide (k = j)) :=
  of_decide_eq_true (List.all_eq_true.mp (List.all_eq_true.mp h k (List.mem_range.mpr hk)) j (List.mem_range.mpr hj))
theorem exIsV_at {K : PySem.W.Frag} {E : Nat → Addr} {v : Value} (h : exIsV K E v = true) (k : Nat) (hk : k < 15) : PySem.W.kitOne K (.ref (E k)) v = some true :=
  of_decide_eq_true (List.all_eq_true.mp h k (List.mem_range.mpr hk))
def ECof (l : List Addr) : Nat → Addr := fun k => l.getD k 0
def swapG (vs zs : List Value) : List Value := match zs with | [b, a] => vs ++ [a, b] | _ => vs ++ zs
theorem swap_rel {vs : List V} {us : List Value} {zs : List V} {ws : List Value} (r : Vals vs us) (rz : Vals zs ws) : Vals (swapV vs zs) (swapG us ws) := by
  match zs, ws, rz with
  | [], _, .nil => exact r.append .nil
  | [_], _, .cons a .nil => exact r.append (.cons a .nil)
  | [_, _], _, .cons b (.cons a .nil) => exact r.append (.cons a (.cons b .nil))
  | _ :: _ :: _ :: _, _, .cons a (.cons b (.cons c d)) => exact r.append (.cons a (.cons b (.cons c d)))
end MV

namespace MV
open PySem PySem.Spec PyProof.Rows L2 SB MM LamX
local macro_rules | `(tactic| walk_at "rd") => `(tactic| repeat (first | (refine ⟨_, rfl, ?_⟩) | (refine ⟨_, _, rfl, rfl, ?_⟩) | (refine ⟨_, _, rfl, ?_⟩) | (refine ⟨rfl, ?_⟩) | (with_reducible refine st_nil ?_) | (with_reducible refine st_cons ?_) | (with_reducible refine st_C ?_)))
local macro_rules | `(tactic| walk_at "isL") => `(tactic| first | assumption | (apply isL.of; assumption) | (apply isL.bag; assumption) | (apply isL.ev; assumption; walk_at "isL"))
local macro_rules | `(tactic| walk_at "isI") => `(tactic| first | assumption | (apply isI.of; assumption) | (apply isI.ev; assumption; walk_at "isI"))
local macro_rules | `(tactic| walk_at "al") => `(tactic| first | assumption | (apply isL.al; walk_at "isL") | (apply isI.al; walk_at "isI") | (apply Al.dK; assumption) | (apply Al.dT; assumption) | (apply Al.ev; assumption; walk_at "al"))
local macro_rules | `(tactic| walk_at "ne") => `(tactic| first | (apply NeH.of; assumption) | (apply NeH.ofs; assumption) | (apply neLI; walk_at "isL"; walk_at "isI") | (apply neIL; walk_at "isI"; walk_at "isL") | (apply Al.ne; assumption; walk_at "al") | (apply Al.ens; assumption; walk_at "al") | (apply NA.ne; assumption; walk_at "al") | (apply NA.ens; assumption; walk_at "al"))
local macro_rules | `(tactic| walk_at "nin") => `(tactic| first | exact trivial | (refine And.intro ?_ ?_; walk_at "ne"; walk_at "nin"))
local macro_rules | `(tactic| walk_at "t") => `(tactic| first | assumption | (apply ev_tup; assumption; walk_at "t") | (apply ev_lst; assumption; walk_at "t"; walk_at "nin") | (apply ev_ins; assumption; walk_at "t"; walk_at "nin") | (apply ev_dK; assumption; walk_at "t"; walk_at "nin") | (apply ev_dT; assumption; walk_at "t"; walk_at "nin") | (apply ev_bag; assumption; walk_at "t"; walk_at "nin") | (apply ev_tabs; assumption; walk_at "t") | (apply ev_fzT; assumption; walk_at "t") | (apply SqL.of; walk_at "t") | (apply SqT.of; walk_at "t") | (apply ev_sqT; assumption; walk_at "t") | (apply ev_sqL; assumption; walk_at "t"; walk_at "nin"))
local macro_rules | `(tactic| walk_at "le") => `(tactic| first | exact Le.refl _ | (apply Le.ev; assumption; walk_at "le"))
local macro_rules | `(tactic| walk_at "om") => `(tactic| first | exact Or.inl (List.mem_cons_self) | exact Or.inl (List.mem_cons_of_mem _ List.mem_cons_self) | exact Or.inl (List.mem_cons_of_mem _ (List.mem_cons_of_mem _ List.mem_cons_self)) | (apply Or.inr; apply nal0; assumption) | (apply Or.inr; apply Le.nal; assumption; walk_at "le") | (apply Or.inr; apply Le.na; assumption; walk_at "le"))
local macro_rules | `(tactic| walk_at "out") => `(tactic| first | exact trivial | (refine And.intro ?_ ?_; walk_at "om"; walk_at "out"))
local macro_rules | `(tactic| walk_at "e") => `(tactic| first | assumption | exact Ev.refl _ _ | (apply Ev.trans'; assumption; walk_at "e"; walk_at "out"))
local macro_rules | `(tactic| walk_at "c") => `(tactic| dsimp only [tNil, tCons, tC])
local macro_rules | `(tactic| walk_at "na") => `(tactic| first | assumption | (apply NA.of; assumption) | (apply Le.nal; assumption; walk_at "le") | (apply Le.na; assumption; walk_at "le"))
local macro_rules | `(tactic| walk_at "rs") => `(tactic| repeat (first | (with_reducible refine st_nil ?_) | (with_reducible refine st_cons ?_) | (with_reducible refine st_C ?_)))
local macro_rules | `(tactic| walk_at "rv") => `(tactic| repeat (first | (refine ⟨_, rfl, ?_⟩) | (with_reducible refine st_nil ?_) | (with_reducible refine st_cons ?_) | (with_reducible refine st_C ?_)))
local macro_rules | `(tactic| walk_at "if") => `(tactic| first | refine ifT rfl ?_ | refine ifF rfl ?_ | skip)
theorem sh1 (i : Int) : Sh (.int i) := sh_ints [i] _ (List.mem_map.mpr ⟨i, List.mem_cons_self, rfl⟩)
theorem sh2 (i : Int) : Sh (.list [.int i, .list [.none]]) := (sh_seq (k := 3) (fun d hd => by
  rcases List.mem_cons.mp hd with rfl | hd
  · exact ⟨(sh1 i).1, by show (PyData.int i).depth ≤ 3; simp [PyData.depth]⟩
  · obtain rfl := List.mem_singleton.mp hd
    exact ⟨by decide +kernel, by decide +kernel⟩) (by decide)).1
theorem exv_ev1 {TS : List (Addr × Str)} {H H' : Hp} {kp : Addr} {xs : List V} {v : V} {C : Addr} {fs : List (Str × V)} (h : Exv H v C fs) (hl : H kp = some (.lst xs)) (e : Ev TS [kp] H H') : Exv H' v C fs := by
  obtain ⟨a, d, r, h1, h2⟩ := h
  refine ⟨a, d, r, e.st _ _ h1 (fun z => ?_) (fun _ z => by cases z), e.st _ _ h2 (fun z => ?_) (fun _ z => by cases z)⟩
  · rw [List.mem_singleton.mp z, hl] at h1
    cases h1
  · rw [List.mem_singleton.mp z, hl] at h2
    cases h2
theorem a_xmK {TS : List (Addr × Str)} {H : Hp} {zs vs : List V} {ns ks : List Str} {C : Addr} {gV : List V → List V → List V} {Q : VK} (hg : ∀ a, gV [.ref a] zs = .ref a :: vs) (hk : zs.length = ks.length) (hl : vs.length = ns.length) (k : ∀ a H', NA H a → Ev TS [] H H' → Exv H' (.ref a) C (ns.zip vs).reverse → Q (.ref a) H') : rXmK C ns ks gV zs H Q := by
  refine ⟨vs, hg, hk, hl, fun a d ha hd nd => k a _ (.of ha) (Ev.trans (Ev.new ha) (Ev.new (by rw [upd_ne nd]; exact hd)) trivial) ⟨a, d, rfl, ?_, upd_same⟩⟩
  rw [upd_ne (Ne.symm nd), upd_same]
theorem sh3 (i : Int) : Sh (.list [.int i, .none]) := (sh_seq (k := 3) (fun d hd => by
  rcases List.mem_cons.mp hd with rfl | hd
  · exact ⟨(sh1 i).1, by show (PyData.int i).depth ≤ 3; simp [PyData.depth]⟩
  · obtain rfl := List.mem_singleton.mp hd
    exact ⟨by decide +kernel, by decide +kernel⟩) (by decide)).1
theorem a_neSS {K : PySem.W.Frag} {H : Hp} {x y : V} {d : PyData} {Q : VK} (h1 : Dp K H x d) (h2 : Dp K H y d) (sh : Sh d) (q : Q (.bl false) H) : rNeD K x y H Q := by
  refine ⟨d, d, h1, h2, sh_shaped sh, sh_shaped sh, ?_⟩
  rw [SeqAt.eqv_refl _ sh.1]
  exact q
theorem dp_nn {K : PySem.W.Frag} {H : Hp} {p : Addr} {i : Int} (h : H p = some (.lst [.int i, .non])) : Dp K H (.ref p) (.list [.int i, .none]) := .lst (SqL.of h) (.cons (.int _) (.cons .non .nil))
theorem menu_ok {K : PySem.W.Frag} {G : Hp} {t1 l1 l2 t3 l4 t5 : Addr} {num : Int} (q1 : G t1 = some (.tup [.int 1, .str "b"])) (q2 : G l2 = some (.lst [.non])) (q3 : G l1 = some (.lst [.int num, .ref l2])) (q4 : G t3 = some (.tup [.str "lists a"])) (q5 : G l4 = some (.lst [.str "lists a"])) (q6 : G t5 = some (.tup [])) :
    ∀ x, x ∈ [V.non, V.bl true, V.bl false, .int num, .int 0, .int (-1), .str "a", .str "", .ref t1, .ref l1, .ref t3, .ref l4, .ref t5] → Mn K G x ∧ ((∃ z, x = .str z) ∨ Nsv G x) := by
  intro x hx
  simp only [List.mem_cons, List.not_mem_nil, or_false] at hx
  rcases hx with rfl | rfl | rfl | rfl | rfl | rfl | rfl | rfl | rfl | rfl | rfl | rfl | rfl
  · exact ⟨⟨_, .non, (by decide +kernel), (by decide +kernel)⟩, .inr (.inl rfl)⟩
  · exact ⟨⟨_, .bl _, (by decide +kernel), (by decide +kernel)⟩, .inr (.inr (.inl ⟨_, rfl⟩))⟩
  · exact ⟨⟨_, .bl _, (by decide +kernel), (by decide +kernel)⟩, .inr (.inr (.inl ⟨_, rfl⟩))⟩
  · exact ⟨⟨_, .int _, sh1 _⟩, .inr (.inr (.inr (.inl ⟨_, rfl⟩)))⟩
  · exact ⟨⟨_, .int _, sh1 _⟩, .inr (.inr (.inr (.inl ⟨_, rfl⟩)))⟩
  · exact ⟨⟨_, .int _, sh1 _⟩, .inr (.inr (.inr (.inl ⟨_, rfl⟩)))⟩
  · exact ⟨⟨_, .str _, (by decide +kernel), (by decide +kernel)⟩, .inl ⟨_, rfl⟩⟩
  · exact ⟨⟨_, .str _, (by decide +kernel), (by decide +kernel)⟩, .inl ⟨_, rfl⟩⟩
  · exact ⟨⟨.tuple [.int 1, .str "b"], .tup (SqT.of q1) (.cons (.int _) (.cons (.str _) .nil)), (by decide +kernel), (by decide +kernel)⟩, .inr (.inr (.inr (.inr (.inr ⟨_, _, rfl, q1⟩))))⟩
  · exact ⟨⟨.list [.int num, .list [.none]], .lst (SqL.of q3) (.cons (.int _) (.cons (.lst (SqL.of q2) (.cons .non .nil)) .nil)), sh2 _⟩, .inr (.inr (.inr (.inr (.inl ⟨_, _, rfl, q3⟩))))⟩
  · exact ⟨⟨.tuple [.str "lists a"], .tup (SqT.of q4) (.cons (.str _) .nil), (by decide +kernel), (by decide +kernel)⟩, .inr (.inr (.inr (.inr (.inr ⟨_, _, rfl, q4⟩))))⟩
  · exact ⟨⟨.list [.str "lists a"], .lst (SqL.of q5) (.cons (.str _) .nil), (by decide +kernel), (by decide +kernel)⟩, .inr (.inr (.inr (.inr (.inl ⟨_, _, rfl, q5⟩))))⟩
  · exact ⟨⟨.tuple [], .tup (SqT.of q6) .nil, (by decide +kernel), (by decide +kernel)⟩, .inr (.inr (.inr (.inr (.inr ⟨_, _, rfl, q6⟩))))⟩
abbrev s_law : Stmt := top 40
def spLaw (K : PySem.W.Frag) : Sp := fun vs H Q _ => ∃ (a : Addr) (ns : List Int), vs = [.ref a] ∧ SqL K H a (ns.map V.int) ∧ ns.length ≤ 63 ∧ Tabs [] H ∧ ∀ H', Q (.bl true) H'
section
variable {P : Program} {w : World} {K : PySem.W.Frag} {mg : Str → Option Value} {base : Heap} {EC : Nat → Addr}
theorem sc_law : FnScope ["_law_script", "_law_spot", "_law_bag_here", "_law_number", "_law_some", "_law_kept", "_law_left", "_law_right", "_law_error"] ["_law_script"] (defScope s_law) := ⟨rfl, rfl, rfl, by decide +kernel, rfl, by decide +kernel, by decide +kernel⟩
theorem ok_law (TS : List (Addr × Str)) {f : Addr} {fd : FuncData} (F : Fun K "law" "law" s_law f fd) (T : Blt mg) (TX : TxtX P w K mg base EC)
    (Dbag : Cl P w K mg base CX0 1 "_law_bag" (spBag K)) (Dtake : Cl P w K mg base CX0 1 "_law_take" spTake) (Dof : Cl P w K mg base CX0 2 "_law_of" (spOf K))
    (Dfields_right : Cl P w K mg base CX0 3 "_law_fields_right" (spFields TS K)) (Dclasses_right : Cl P w K mg base CX0 3 "_law_classes_right" (spClasses TS)) (Drefused : Cl P w K mg base CX0 5 "_law_refused" (spRefd TS)) : FnOk P w K mg base CX0 6 f fd ["_law_script"] (spLaw K) := by
  refine F.ok sc_law (fun vs H Q E h => ?_) (fun cdv A outer s H vs Q E hr h => ?_)
  · obtain ⟨a, ns, rfl, _⟩ := h
    rfl
  · obtain ⟨a, ns, rfl, hS, hlen, _, k⟩ := h
    refine ⟨_, (pss_cons (ps_for PassesOwn.never rfl (pi_range1 (by rfl) T.n_range (pa_cons (pe_callB (call_max2 rfl) (by rfl) T.n_max (by decide +kernel) (pa_cons pe_int (pa_cons (pe_callB (call_min2 rfl) (by rfl) T.n_min (by decide +kernel) (pa_cons pe_int (pa_cons (pe_callB call_len_seq (by rfl) T.n_len (by decide +kernel) (pa_cons (pv 0) pa_nil)) pa_nil))) pa_nil))) pa_nil)) (pg_name (i := 1) sc_law.nd rfl (Or.inl rfl))
        (pss_cons (ps_set (i := 2) sc_law.nd rfl (Or.inl rfl) (pe_cl Dbag hr (by decide) (by rfl) pass0 (pa_cons (pv 0) (pa_cons (pv 1) pa_nil))))
        (pss_cons (ps_set (i := 3) sc_law.nd rfl (Or.inl rfl) (pe_op op_sub (pe_cl Dtake hr (by decide) (by rfl) pass0 (pa_cons (pv 2) (pa_cons (pe_op op_powM pe_int pe_int) pa_nil))) (pe_op op_powM pe_int pe_int)))
        (pss_cons (ps_set (i := 4) sc_law.nd rfl (Or.inl rfl) (pe_lst (pa_cons pe_non (pa_cons pe_bl (pa_cons pe_bl (pa_cons (pv 3) (pa_cons pe_int (pa_cons (pe_un un_neg pe_int) (pa_cons pe_str (pa_cons pe_str (pa_cons (pe_tup (pa_cons pe_int (pa_cons pe_str pa_nil))) (pa_cons (pe_lst (pa_cons (pv 3) (pa_cons (pe_lst (pa_cons pe_non pa_nil)) pa_nil))) (pa_cons (pe_tup (pa_cons pe_str pa_nil)) (pa_cons (pe_lst (pa_cons pe_str pa_nil)) (pa_cons (pe_tup pa_nil) pa_nil)))))))))))))))
        (pss_cons (ps_par (i := 6) (j := 7) (by rfl) sc_law.nd rfl rfl (by decide) rfl rfl (pa_cons (pe_cl Dof hr (by decide) (by rfl) pass0 (pa_cons (pv 2) (pa_cons (pv 4) pa_nil))) (pa_cons (pe_cl Dof hr (by decide) (by rfl) pass0 (pa_cons (pv 2) (pa_cons (pv 4) pa_nil))) pa_nil)) (by rfl))
        (pss_cons (ps_if (PW.pt (pw_or (pt_not (pt_val (pe_cl Dfields_right hr (by decide) (by rfl) pass0 (pa_cons (pv 6) (pa_cons (pv 7) pa_nil))))) (pw_or1 (pt_not (pt_val (pe_cl Dclasses_right hr (by decide) (by rfl) pass0 (pa_cons (pv 6) (pa_cons (pv 7) pa_nil)))))))) (pss_one (ps_ret pe_bl)) pss_nil)
        (C8.pss_cut (ps_if (PW.pt (pw_and (pt_not (pt_val (pe_callB call_isi (by rfl) TX.n_isinstance (by decide +kernel) (pa_cons (pv 6) (pa_cons (pe_bltn (v := .ty "str") (by rfl) T.n_str (by decide +kernel) rfl) pa_nil))))) (pw_and1 (pt_cmpR (op_neD hr.units) (pe_cl Drefused hr (by decide) (by rfl) pass0 (pa_cons (pv 6) pa_nil)) (pe_un un_neg pe_int) (nomark _))))) (pss_one (ps_ret pe_bl)) pss_nil)
        (pss_cons (ps_if (PW.pt (pw_or (pt_cmpR (op_neD hr.units) (pe_cl Drefused hr (by decide) (by rfl) pass0 (pa_cons (pv 3) pa_nil)) (pe_un un_neg pe_int) (nomark _)) (pw_or1 (pt_cmpR (op_neD hr.units) (pe_cl Drefused hr (by decide) (by rfl) pass0 (pa_cons (pe_lst (pa_cons pe_str pa_nil)) pa_nil)) (pe_un un_neg pe_int) (nomark _))))) (pss_one (ps_ret pe_bl)) pss_nil)
        (pss_cons (ps_set (i := 5) sc_law.nd rfl (Or.inl rfl) (pe_lst (pa_cons (pv 3) pa_nil)))
        (pss_cons (ps_par (i := 8) (j := 7) (by rfl) sc_law.nd rfl rfl (by decide) rfl rfl (pa_cons (pe_xm TX.BadMove hr (by decide) (by rfl) (pa_cons (pv 5) pa_nil)) (pa_cons (pe_xmK TX.KMismatch hr (by decide) (by rfl) (pk_cons (pv 5) (pk_cons (pv 3) pk_nil))) pa_nil)) (by rfl))
        (pss_cons (ps_expr (pe_bm PySem.F.plainAttrs_list PySem.F.slot_list_append PySem.F.type_list_append mt_append (pv 5) (pa_cons pe_non pa_nil)))
        (pss_cons (ps_if (PW.pt (pw_or (pt_cmpR (op_neD hr.units) (pe_xv (pv 8) (by rfl)) (pe_lst (pa_cons (pv 3) (pa_cons pe_non pa_nil))) (nomark _)) (pw_or (pt_cmpR (op_neD hr.units) (pe_xv (pv 7) (by rfl)) (pv 5) (nomark _)) (pw_or1 (pt_cmpR (op_neD hr.units) (pe_xv (pv 7) (by rfl)) (pv 3) (nomark _)))))) (pss_one (ps_ret pe_bl)) pss_nil)
        (pss_one (ps_if (PW.pt (pw_or (pt_cmpR (op_neD hr.units) (pe_xv (pe_xmK TX.KDifferentLists hr (by decide) (by rfl) (pk_cons pe_int (pk_cons (pv 3) pk_nil))) (by rfl)) (pv 3) (nomark _)) (pw_or1 (pt_cmpR (op_neD hr.units) (pe_xv (pe_xmK TX.KNoPicture hr (by decide) (by rfl) (pk_cons (pv 6) pk_nil)) (by rfl)) (pv 6) (nomark _))))) (pss_one (ps_ret pe_bl)) pss_nil))))))))))))))
      (pss_one (ps_ret pe_bl))), ?_⟩
    walk_at "rd"
    refine ⟨a, _, rfl, .inl hS, ?_⟩
    rw [List.length_map]
    walk_at "rd"
    have hm : ∃ m : Nat, (if (if (ns.length : Int) < 3 then (ns.length : Int) else 3) > 1 then (if (ns.length : Int) < 3 then (ns.length : Int) else 3) else 1) = (m : Int) ∧ m ≤ 3 := by
      by_cases c : (ns.length : Int) < 3
      · rw [if_pos c]
        by_cases c2 : (ns.length : Int) > 1
        · rw [if_pos c2]; exact ⟨ns.length, rfl, by omega⟩
        · rw [if_neg c2]; exact ⟨1, rfl, by omega⟩
      · rw [if_neg c]; exact ⟨3, rfl, by omega⟩
    obtain ⟨m, em, hm5⟩ := hm
    rw [em]
    refine ⟨by omega, by omega, ?_⟩
    rw [Int.toNat_natCast]
    refine for_it walk_range (fun i σ H' => ∃ v1 v2 v3 v4 v5 v6 v7 v8 : Option V, σ = [some (.ref a), v1, v2, v3, v4, v5, v6, v7, v8] ∧ Ev TS [] H H') ⟨none, none, none, none, none, none, none, none, rfl, Ev.refl _ H⟩ (fun _ _ _ _ _ => trivial) ?_ ?_
    · rintro ii x σ H0 H1 hi ⟨v1, v2, v3, v4, v5, v6, v7, v8, rfl, e1⟩ ⟨rfl, rfl⟩
      walk_at "rd"
      refine bag_ok (TS := TS) (ns := ns) (ev_sqL e1 hS trivial) (by omega) (by omega) (by omega) fun b H2 hb e2 b2 => ?_
      walk_at "rd"
      refine ⟨⟨by decide, by decide, by decide⟩, ?_⟩
      walk_at "rd"
      refine take_ok (TS := TS) b2 (by omega) (by decide) (by decide) fun r H3 hr0 hr1 e3 b3 => ?_
      walk_at "rd"
      refine ⟨⟨by decide, by decide, by decide⟩, ?_⟩
      walk_at "rd"
      refine ⟨by show 2 ≤ sizeLine; decide, fun t1 ht1 => ?_⟩
      generalize hXX : upd _ t1 _ = H4
      obtain ⟨e4, h4⟩ := new_facts (TS := TS) hXX ht1
      clear hXX
      walk_at "rs"
      walk_at "rd"
      refine ⟨by show 1 ≤ sizeLine; decide, fun l2 hl2 => ?_⟩
      generalize hXX : upd _ l2 _ = H5
      obtain ⟨e5, h5⟩ := new_facts (TS := TS) hXX hl2
      clear hXX
      walk_at "rs"
      walk_at "rd"
      refine ⟨by show 2 ≤ sizeLine; decide, fun l1 hl1 => ?_⟩
      generalize hXX : upd _ l1 _ = H6
      obtain ⟨e6, h6⟩ := new_facts (TS := TS) hXX hl1
      clear hXX
      walk_at "rs"
      walk_at "rd"
      refine ⟨by show 1 ≤ sizeLine; decide, fun t3 ht3 => ?_⟩
      generalize hXX : upd _ t3 _ = H7
      obtain ⟨e7, h7⟩ := new_facts (TS := TS) hXX ht3
      clear hXX
      walk_at "rs"
      walk_at "rd"
      refine ⟨by show 1 ≤ sizeLine; decide, fun l4 hl4 => ?_⟩
      generalize hXX : upd _ l4 _ = H8
      obtain ⟨e8, h8⟩ := new_facts (TS := TS) hXX hl4
      clear hXX
      walk_at "rs"
      walk_at "rd"
      refine ⟨by show 0 ≤ sizeLine; decide, fun t5 ht5 => ?_⟩
      generalize hXX : upd _ t5 _ = H9
      obtain ⟨e9, h9⟩ := new_facts (TS := TS) hXX ht5
      clear hXX
      walk_at "rs"
      walk_at "rd"
      refine ⟨by show 13 ≤ sizeLine; decide, fun pm hpm => ?_⟩
      generalize hXX : upd _ pm _ = H10
      obtain ⟨e10, h10⟩ := new_facts (TS := TS) hXX hpm
      clear hXX
      walk_at "rs"
      walk_at "rd"
      refine of_ok (TS := TS) (show BagB H10 b 1 from (by walk_at "t")) h10 (by walk_at "ne") (by omega) (by simp) (by simp) fun j1 x1 H11 hx1 e11 b11 => ?_
      walk_at "rd"
      refine of_ok (TS := TS) b11 (show H11 pm = some _ from (by walk_at "t")) (by walk_at "ne") (by omega) (by simp) (by simp) fun j2 x2 H12 hx2 e12 b12 => ?_
      walk_at "rd"
      have q1 : H12 t1 = some (.tup [.int 1, .str "b"]) := (by walk_at "t")
      have q2 : H12 l2 = some (.lst [.non]) := (by walk_at "t")
      have q3 : H12 l1 = some (.lst [.int (r - (10 : Int) ^ Int.toNat 34), .ref l2]) := (by walk_at "t")
      have q4 : H12 t3 = some (.tup [.str "lists a"]) := (by walk_at "t")
      have q5 : H12 l4 = some (.lst [.str "lists a"]) := (by walk_at "t")
      have q6 : H12 t5 = some (.tup []) := (by walk_at "t")
      have hall := menu_ok (K := K) q1 q2 q3 q4 q5 q6
      obtain ⟨mn1, ns1⟩ := hall x1 (List.mem_of_getElem? hx1)
      obtain ⟨mn2, ns2⟩ := hall x2 (List.mem_of_getElem? hx2)
      refine ⟨mn1, mn2, fun H13 e13 => ?_⟩
      walk_at "rd"
      refine fun H14 e14 => ?_
      walk_at "rd"
      refine ⟨fun σ' H' => σ' = [some (.ref a), some (.int (0 + (ii : Int))), some (.ref b), some (.int (r - (10 : Int) ^ Int.toNat 34)), some (.ref pm), v5, some x1, some x2, v8] ∧ Ev TS [] H14 H', ?_, ?_⟩
      · walk_at "rd"
        rcases ns1 with ⟨z, rfl⟩ | ns1
        · refine ⟨.str z, .ty "str", .type "str", .type "str", true, rfl, .ty _, .base (.str z), rfl, ?_⟩
          walk_at "rd"
          exact Ev.refl _ _
        · obtain ⟨t, ty, kt⟩ := nsv_nos (K := K) (nsv_ev ns1 (show Ev TS [] H12 H14 from (by walk_at "e")))
          refine ⟨x1, .ty "str", t, .type "str", false, rfl, .ty _, ty, kt, ?_⟩
          walk_at "rd"
          refine ⟨nsv_ev ns1 (show Ev TS [] H12 H14 from (by walk_at "e")), fun H15 e15 => ?_⟩
          walk_at "rd"
          refine a_neS ⟨_, .int _, sh1 _⟩ ?_
          walk_at "rd"
          exact e15
      rintro σ' H15 ⟨rfl, e15⟩
      walk_at "rd"
      refine ⟨.inr (.inr (.inl ⟨_, rfl⟩)), fun H16 e16 => ?_⟩
      walk_at "rd"
      refine a_neS ⟨_, .int _, sh1 _⟩ ?_
      walk_at "rd"
      refine ⟨by show 1 ≤ sizeLine; decide, fun l6 hl6 => ?_⟩
      generalize hXX : upd _ l6 _ = H17
      obtain ⟨e17, h17⟩ := new_facts (TS := TS) hXX hl6
      clear hXX
      walk_at "rs"
      walk_at "rd"
      refine ⟨.inr (.inr (.inr (.inl ⟨_, _, rfl, h17⟩))), fun H18 e18 => ?_⟩
      walk_at "rd"
      refine a_neS ⟨_, .int _, sh1 _⟩ ?_
      walk_at "rd"
      refine ⟨by show 1 ≤ sizeLine; decide, fun kp hkp => ?_⟩
      generalize hXX : upd _ kp _ = H19
      obtain ⟨e19, h19⟩ := new_facts (TS := TS) hXX hkp
      clear hXX
      walk_at "rs"
      walk_at "rd"
      refine a_xm (TS := TS) rfl (by show 1 ≤ 1000; omega) (fun er H20 na20 e20 hx20 => ?_)
      walk_at "rd"
      refine a_xmK (TS := TS) (vs := [.int (r - (10 : Int) ^ Int.toNat 34), .ref kp]) (fun _ => rfl) rfl rfl (fun mr H21 na21 e21 hx21 => ?_)
      have hx20' : Exv H21 (.ref er) (EC 0) _ := exv_ev hx20 e21
      have hk21 : H21 kp = some (.lst [.int (r - (10 : Int) ^ Int.toNat 34)]) := (by walk_at "t")
      have mn21 : Mn K H21 x1 := mn1.ev (show Ev TS [] H12 H21 from (by walk_at "e"))
      walk_at "rd"
      refine ⟨.inl ⟨rfl, _, SqL.of hk21⟩, ?_⟩
      walk_at "rd"
      refine a_append (TS := TS) hk21 (by show 1 < sizeLine; decide) fun H22 e22 h22 => ?_
      have hxE : Exv H22 (.ref er) (EC 0) _ := exv_ev1 hx20' hk21 e22
      have hxM : Exv H22 (.ref mr) (EC 2) _ := exv_ev1 hx21 hk21 e22
      have hn22 : H22 kp = some (.lst [.int (r - (10 : Int) ^ Int.toNat 34), .non]) := h22
      walk_at "rd"
      refine a_xv hxE (TX.ev 0 (by decide)) TX.f_BadMove_at rfl ?_
      walk_at "rd"
      refine ⟨by show 2 ≤ sizeLine; decide, fun np hnp => ?_⟩
      generalize hXX : upd _ np _ = H23
      obtain ⟨e23, h23⟩ := new_facts (TS := TS) hXX hnp
      clear hXX
      walk_at "rs"
      walk_at "rd"
      refine a_neSS (dp_nn (show H23 kp = _ from (by walk_at "t"))) (dp_nn h23) (sh3 _) ?_
      walk_at "rd"
      refine a_xv (exv_ev hxM e23) (TX.ev 2 (by decide)) TX.f_Mismatch_got rfl ?_
      walk_at "rd"
      refine a_neSS (dp_nn (show H23 kp = _ from (by walk_at "t"))) (dp_nn (show H23 kp = _ from (by walk_at "t"))) (sh3 _) ?_
      walk_at "rd"
      refine a_xv (exv_ev hxM e23) (TX.ev 2 (by decide)) TX.f_Mismatch_wanted rfl ?_
      walk_at "rd"
      refine a_neS ⟨_, .int _, sh1 _⟩ ?_
      walk_at "rd"
      refine a_xmK (TS := TS) (vs := [.int (r - (10 : Int) ^ Int.toNat 34), .int 1]) (fun _ => rfl) rfl rfl (fun dr H24 na24 e24 hx24 => ?_)
      walk_at "rd"
      refine a_xv hx24 (TX.ev 10 (by decide)) TX.f_DifferentLists_one rfl ?_
      walk_at "rd"
      refine a_neS ⟨_, .int _, sh1 _⟩ ?_
      walk_at "rd"
      refine a_xmK (TS := TS) (vs := [x1]) (fun _ => rfl) rfl rfl (fun pr H25 na25 e25 hx25 => ?_)
      walk_at "rd"
      refine a_xv hx25 (TX.ev 7 (by decide)) TX.f_NoPicture_picture rfl ?_
      walk_at "rd"
      have mn22 : Mn K H22 x1 := (menu_ok (K := K) (show H22 t1 = some (.tup [.int 1, .str "b"]) from (by walk_at "t")) (show H22 l2 = some (.lst [.non]) from (by walk_at "t")) (show H22 l1 = some (.lst [.int (r - (10 : Int) ^ Int.toNat 34), .ref l2]) from (by walk_at "t")) (show H22 t3 = some (.tup [.str "lists a"]) from (by walk_at "t")) (show H22 l4 = some (.lst [.str "lists a"]) from (by walk_at "t")) (show H22 t5 = some (.tup []) from (by walk_at "t")) x1 (List.mem_of_getElem? hx1)).1
      refine a_neS (mn22.ev (show Ev TS [] H22 H25 from (by walk_at "e"))) ?_
      walk_at "rd"
      first | exact (by walk_at "e") | exact ⟨_, _, _, _, _, _, _, _, rfl, (by walk_at "e")⟩
    · rintro σ H1 ⟨v1, v2, v3, v4, v5, v6, v7, v8, rfl, e1⟩
      walk_at "rd"
      exact k H1
end
end MV

namespace MV
open PySem PySem.Spec PyProof.Rows L2 SB MM NdefX
theorem all_mk {l : PySem.W.OpenLaw} {w : World} {K : PySem.W.Frag} {h : Heap} {mg : Str → Option Value} {fa : Addr} (X : K.In h) (G : h.Ns mainGlobals mg) (hfa : mg "law" = some (.ref fa))
    {fbag ftake fof fkinds ffields_right fclasses_right frefused flaw CP fpg_init XBadMove iBadMove qBadMove ccBadMove NBadMove XNoPlace iNoPlace qNoPlace ccNoPlace NNoPlace XMismatch iMismatch qMismatch ccMismatch NMismatch XBadLine iBadLine qBadLine ccBadLine NBadLine XBadContents iBadContents qBadContents ccBadContents NBadContents XBadChoices iBadChoices qBadChoices ccBadChoices NBadChoices XNotInStep iNotInStep qNotInStep ccNotInStep NNotInStep XNoPicture iNoPicture qNoPicture ccNoPicture NNoPicture XNotMoving iNotMoving qNotMoving ccNotMoving NNotMoving XBadChange iBadChange qBadChange ccBadChange NBadChange XDifferentLists iDifferentLists qDifferentLists ccDifferentLists NDifferentLists XBadNames iBadNames qBadNames ccBadNames NBadNames XBadRow iBadRow qBadRow ccBadRow NBadRow XNoName iNoName qNoName ccNoName NNoName XSlipped iSlipped qSlipped ccSlipped NSlipped XSE : Addr} {odbag anbag odtake antake odof anof odkinds ankinds odfields_right anfields_right odclasses_right anclasses_right odrefused anrefused odlaw anlaw odpg_init anpg_init ddBadMove odBadMove anBadMove cddBadMove cldBadMove ddNoPlace odNoPlace anNoPlace cddNoPlace cldNoPlace ddMismatch odMismatch anMismatch cddMismatch cldMismatch ddBadLine odBadLine anBadLine cddBadLine cldBadLine ddBadContents odBadContents anBadContents cddBadContents cldBadContents ddBadChoices odBadChoices anBadChoices cddBadChoices cldBadChoices ddNotInStep odNotInStep anNotInStep cddNotInStep cldNotInStep ddNoPicture odNoPicture anNoPicture cddNoPicture cldNoPicture ddNotMoving odNotMoving anNotMoving cddNotMoving cldNotMoving ddBadChange odBadChange anBadChange cddBadChange cldBadChange ddDifferentLists odDifferentLists anDifferentLists cddDifferentLists cldDifferentLists ddBadNames odBadNames anBadNames cddBadNames cldBadNames ddBadRow odBadRow anBadRow cddBadRow cldBadRow ddNoName odNoName anNoName cddNoName cldNoName ddSlipped odSlipped anSlipped cddSlipped cldSlipped : Option Addr} {slbag sltake slof slkinds slfields_right slclasses_right slrefused sllaw slpg_init slBadMove ccsBadMove cslBadMove slNoPlace ccsNoPlace cslNoPlace slMismatch ccsMismatch cslMismatch slBadLine ccsBadLine cslBadLine slBadContents ccsBadContents cslBadContents slBadChoices ccsBadChoices cslBadChoices slNotInStep ccsNotInStep cslNotInStep slNoPicture ccsNoPicture cslNoPicture slNotMoving ccsNotMoving cslNotMoving slBadChange ccsBadChange cslBadChange slDifferentLists ccsDifferentLists cslDifferentLists slBadNames ccsBadNames cslBadNames slBadRow ccsBadRow cslBadRow slNoName ccsNoName cslNoName slSlipped ccsSlipped cslSlipped : Array (Option Value)} {ocbag dcbag pmbag ctbag kVbag cdbag octake dctake pmtake cttake kVtake cdtake ocof dcof pmof ctof kVof cdof ockinds dckinds pmkinds ctkinds kVkinds cdkinds ocfields_right dcfields_right pmfields_right ctfields_right kVfields_right cdfields_right occlasses_right dcclasses_right pmclasses_right ctclasses_right kVclasses_right cdclasses_right ocrefused dcrefused pmrefused ctrefused kVrefused cdrefused oclaw dclaw pmlaw ctlaw kVlaw cdlaw ocpg_init dcpg_init pmpg_init ctpg_init kVpg_init cdpg_init ocBadMove kVBadMove dcBadMove pmBadMove ctBadMove cclBadMove clBadMove ocNoPlace kVNoPlace dcNoPlace pmNoPlace ctNoPlace cclNoPlace clNoPlace ocMismatch kVMismatch dcMismatch pmMismatch ctMismatch cclMismatch clMismatch ocBadLine kVBadLine dcBadLine pmBadLine ctBadLine cclBadLine clBadLine ocBadContents kVBadContents dcBadContents pmBadContents ctBadContents cclBadContents clBadContents ocBadChoices kVBadChoices dcBadChoices pmBadChoices ctBadChoices cclBadChoices clBadChoices ocNotInStep kVNotInStep dcNotInStep pmNotInStep ctNotInStep cclNotInStep clNotInStep ocNoPicture kVNoPicture dcNoPicture pmNoPicture ctNoPicture cclNoPicture clNoPicture ocNotMoving kVNotMoving dcNotMoving pmNotMoving ctNotMoving cclNotMoving clNotMoving ocBadChange kVBadChange dcBadChange pmBadChange ctBadChange cclBadChange clBadChange ocDifferentLists kVDifferentLists dcDifferentLists pmDifferentLists ctDifferentLists cclDifferentLists clDifferentLists ocBadNames kVBadNames dcBadNames pmBadNames ctBadNames cclBadNames clBadNames ocBadRow kVBadRow dcBadRow pmBadRow ctBadRow cclBadRow clBadRow ocNoName kVNoName dcNoName pmNoName ctNoName cclNoName clNoName ocSlipped kVSlipped dcSlipped pmSlipped ctSlipped cclSlipped clSlipped : Value} {nmBadMove qnBadMove fileBadMove nmNoPlace qnNoPlace fileNoPlace nmMismatch qnMismatch fileMismatch nmBadLine qnBadLine fileBadLine nmBadContents qnBadContents fileBadContents nmBadChoices qnBadChoices fileBadChoices nmNotInStep qnNotInStep fileNotInStep nmNoPicture qnNoPicture fileNoPicture nmNotMoving qnNotMoving fileNotMoving nmBadChange qnBadChange fileBadChange nmDifferentLists qnDifferentLists fileDifferentLists nmBadNames qnBadNames fileBadNames nmBadRow qnBadRow fileBadRow nmNoName qnNoName fileNoName nmSlipped qnSlipped fileSlipped : Str} {bsBadMove bmBadMove subBadMove bsNoPlace bmNoPlace subNoPlace bsMismatch bmMismatch subMismatch bsBadLine bmBadLine subBadLine bsBadContents bmBadContents subBadContents bsBadChoices bmBadChoices subBadChoices bsNotInStep bmNotInStep subNotInStep bsNoPicture bmNoPicture subNoPicture bsNotMoving bmNotMoving subNotMoving bsBadChange bmBadChange subBadChange bsDifferentLists bmDifferentLists subDifferentLists bsBadNames bmBadNames subBadNames bsBadRow bmBadRow subBadRow bsNoName bmNoName subNoName bsSlipped bmSlipped subSlipped : List Value} {snBadMove snNoPlace snMismatch snBadLine snBadContents snBadChoices snNotInStep snNoPicture snNotMoving snBadChange snDifferentLists snBadNames snBadRow snNoName snSlipped : List Str} {abBadMove abNoPlace abMismatch abBadLine abBadContents abBadChoices abNotInStep abNoPicture abNotMoving abBadChange abDifferentLists abBadNames abBadRow abNoName abSlipped : Bool} {colBadMove colNoPlace colMismatch colBadLine colBadContents colBadChoices colNotInStep colNoPicture colNotMoving colBadChange colDifferentLists colBadNames colBadRow colNoName colSlipped : Option Bool} {k0BadMove k1BadMove k2BadMove k3BadMove k5BadMove k0NoPlace k1NoPlace k2NoPlace k3NoPlace k5NoPlace k0Mismatch k1Mismatch k2Mismatch k3Mismatch k5Mismatch k0BadLine k1BadLine k2BadLine k3BadLine k5BadLine k0BadContents k1BadContents k2BadContents k3BadContents k5BadContents k0BadChoices k1BadChoices k2BadChoices k3BadChoices k5BadChoices k0NotInStep k1NotInStep k2NotInStep k3NotInStep k5NotInStep k0NoPicture k1NoPicture k2NoPicture k3NoPicture k5NoPicture k0NotMoving k1NotMoving k2NotMoving k3NotMoving k5NotMoving k0BadChange k1BadChange k2BadChange k3BadChange k5BadChange k0DifferentLists k1DifferentLists k2DifferentLists k3DifferentLists k5DifferentLists k0BadNames k1BadNames k2BadNames k3BadNames k5BadNames k0BadRow k1BadRow k2BadRow k3BadRow k5BadRow k0NoName k1NoName k2NoName k3NoName k5NoName k0Slipped k1Slipped k2Slipped k3Slipped k5Slipped : Option Value} {vsBadMove vsNoPlace vsMismatch vsBadLine vsBadContents vsBadChoices vsNotInStep vsNoPicture vsNotMoving vsBadChange vsDifferentLists vsBadNames vsBadRow vsNoName vsSlipped : Array Value} {tfBadMove tfNoPlace tfMismatch tfBadLine tfBadContents tfBadChoices tfNotInStep tfNoPicture tfNotMoving tfBadChange tfDifferentLists tfBadNames tfBadRow tfNoName tfSlipped : Tok}
    (abag : PySem.W.nsIn K mainGlobals "_law_bag" = some (some (.ref fbag)))
    (lbag : K.lookup fbag = some ⟨ocbag, odbag, .func (PySem.W.fnOf "_law_bag" "_law_bag" (defArgs s_bag) (defBody s_bag) (defScope s_bag) .none kVbag dcbag pmbag anbag cdbag ctbag), slbag⟩)
    (cbag : PySem.W.codeIn K cdbag "_law_bag" = true)
    (kbag : PySem.W.keepIn K (.ref fbag) = true)
    (atake : PySem.W.nsIn K mainGlobals "_law_take" = some (some (.ref ftake)))
    (ltake : K.lookup ftake = some ⟨octake, odtake, .func (PySem.W.fnOf "_law_take" "_law_take" (defArgs s_take) (defBody s_take) (defScope s_take) .none kVtake dctake pmtake antake cdtake cttake), sltake⟩)
    (ctake : PySem.W.codeIn K cdtake "_law_take" = true)
    (ktake : PySem.W.keepIn K (.ref ftake) = true)
    (aof : PySem.W.nsIn K mainGlobals "_law_of" = some (some (.ref fof)))
    (lof : K.lookup fof = some ⟨ocof, odof, .func (PySem.W.fnOf "_law_of" "_law_of" (defArgs s_of) (defBody s_of) (defScope s_of) .none kVof dcof pmof anof cdof ctof), slof⟩)
    (cof : PySem.W.codeIn K cdof "_law_of" = true)
    (kof : PySem.W.keepIn K (.ref fof) = true)
    (akinds : PySem.W.nsIn K mainGlobals "_law_kinds" = some (some (.ref fkinds)))
    (lkinds : K.lookup fkinds = some ⟨ockinds, odkinds, .func (PySem.W.fnOf "_law_kinds" "_law_kinds" (defArgs s_kinds) (defBody s_kinds) (defScope s_kinds) .none kVkinds dckinds pmkinds ankinds cdkinds ctkinds), slkinds⟩)
    (ckinds : PySem.W.codeIn K cdkinds "_law_kinds" = true)
    (kkinds : PySem.W.keepIn K (.ref fkinds) = true)
    (afields_right : PySem.W.nsIn K mainGlobals "_law_fields_right" = some (some (.ref ffields_right)))
    (lfields_right : K.lookup ffields_right = some ⟨ocfields_right, odfields_right, .func (PySem.W.fnOf "_law_fields_right" "_law_fields_right" (defArgs s_fields_right) (defBody s_fields_right) (defScope s_fields_right) .none kVfields_right dcfields_right pmfields_right anfields_right cdfields_right ctfields_right), slfields_right⟩)
    (cfields_right : PySem.W.codeIn K cdfields_right "_law_fields_right" = true)
    (kfields_right : PySem.W.keepIn K (.ref ffields_right) = true)
    (aclasses_right : PySem.W.nsIn K mainGlobals "_law_classes_right" = some (some (.ref fclasses_right)))
    (lclasses_right : K.lookup fclasses_right = some ⟨occlasses_right, odclasses_right, .func (PySem.W.fnOf "_law_classes_right" "_law_classes_right" (defArgs s_classes_right) (defBody s_classes_right) (defScope s_classes_right) .none kVclasses_right dcclasses_right pmclasses_right anclasses_right cdclasses_right ctclasses_right), slclasses_right⟩)
    (cclasses_right : PySem.W.codeIn K cdclasses_right "_law_classes_right" = true)
    (kclasses_right : PySem.W.keepIn K (.ref fclasses_right) = true)
    (arefused : PySem.W.nsIn K mainGlobals "_law_refused" = some (some (.ref frefused)))
    (lrefused : K.lookup frefused = some ⟨ocrefused, odrefused, .func (PySem.W.fnOf "_law_refused" "_law_refused" (defArgs s_refused) (defBody s_refused) (defScope s_refused) .none kVrefused dcrefused pmrefused anrefused cdrefused ctrefused), slrefused⟩)
    (crefused : PySem.W.codeIn K cdrefused "_law_refused" = true)
    (krefused : PySem.W.keepIn K (.ref frefused) = true)
    (alaw : PySem.W.nsIn K mainGlobals "law" = some (some (.ref flaw)))
    (llaw : K.lookup flaw = some ⟨oclaw, odlaw, .func (PySem.W.fnOf "law" "law" (defArgs s_law) (defBody s_law) (defScope s_law) .none kVlaw dclaw pmlaw anlaw cdlaw ctlaw), sllaw⟩)
    (claw : PySem.W.codeIn K cdlaw "law" = true)
    (klaw : PySem.W.keepIn K (.ref flaw) = true)
    (aCP : PySem.W.nsIn K mainGlobals "Program" = some (some (.ref CP)))
    (apg_init : PySem.W.findIn K (.ref CP) "__init__" = some (some (.ref fpg_init)))
    (ipg_init : PySem.W.isFn K (.ref fpg_init) = true)
    (lpg_init : K.lookup fpg_init = some ⟨ocpg_init, odpg_init, .func (PySem.W.fnOf "__init__" "Program.__init__" (defArgs s_pg_init) (defBody s_pg_init) (defScope s_pg_init) .none kVpg_init dcpg_init pmpg_init anpg_init cdpg_init ctpg_init), slpg_init⟩)
    (cpg_init : PySem.W.codeIn K cdpg_init "Program.__init__" = true)
    (kpg_init : PySem.W.keepIn K (.ref fpg_init) = true)
    (pgCP : PySem.W.plainGet K CP Str.empty = true)
    (hdCP : PySem.W.hasDictIn K CP = true)
    (poCP : PySem.W.plainOver K CP = true)
    (saCP : PySem.W.findIn K (.ref CP) "__setattr__" = some (some (.builtin "object.__setattr__")))
    (mkCP : PySem.W.makesIn K CP = true)
    (kcCP : PySem.W.keepIn K (.ref CP) = true)
    (aBadMove : PySem.W.nsIn K mainGlobals "BadMove" = some (some (.ref XBadMove)))
    (lBadMove : K.lookup XBadMove = some (excClassObj nmBadMove qnBadMove XBadMove NBadMove bsBadMove bmBadMove true snBadMove subBadMove abBadMove colBadMove ddBadMove k0BadMove k1BadMove k2BadMove k3BadMove k5BadMove "ValueError.__new__"))
    (rBadMove : PySem.HandSPX.refsVE bmBadMove = true)
    (saBadMove : PySem.W.findIn K (.ref XBadMove) "__setattr__" = some (some (.builtin "object.__setattr__")))
    (ecBadMove : PySem.W.subIn K (.ref XBadMove) (.type "BaseException") = some true)
    (tyBadMove : PySem.W.typeIn K (.ref XBadMove) = some (.type "type"))
    (kcBadMove : PySem.W.keepIn K (.ref XBadMove) = true)
    (inBadMove : PySem.W.findIn K (.ref XBadMove) "__init__" = some (some (.ref iBadMove)))
    (tiBadMove : PySem.W.typeIn K (.ref iBadMove) = some (.type "function"))
    (mrBadMove : PySem.W.mroIn K XBadMove (.ref XBadMove) = some true)
    (suBadMove : PySem.W.ks_superIn K XBadMove XBadMove "__init__" = some (some (.builtin "ValueError.__init__")))
    (sbBadMove : PySem.W.subIn K (.ref XBadMove) (.type "ValueError") = some true)
    (fnBadMove : K.lookup iBadMove = some ⟨ocBadMove, odBadMove, .func (PySem.W.ksFn "__init__" "BadMove.__init__" (defArgs s_BadMove) (defBody s_BadMove) (defScope s_BadMove) .none kVBadMove dcBadMove pmBadMove anBadMove (.ref qBadMove) ctBadMove ccBadMove), slBadMove⟩)
    (cdBadMove : PySem.W.codeIn K (.ref qBadMove) "BadMove.__init__" = true)
    (coBadMove : K.lookup qBadMove = some ⟨cclBadMove, cddBadMove, .fields vsBadMove, ccsBadMove⟩)
    (fiBadMove : vsBadMove[2]? = some (.str fileBadMove tfBadMove))
    (flBadMove : ((l.prog.main.file : Str) == fileBadMove) = true)
    (ceBadMove : K.lookup ccBadMove = some ⟨clBadMove, cldBadMove, .cell (some (.ref XBadMove)), cslBadMove⟩)
    (noBadMove_at : PySem.W.findIn K (.ref XBadMove) "at" = some none)
    (gaBadMove : PySem.W.findIn K (.ref XBadMove) "__getattribute__" = some (some (.builtin "BaseException.__getattribute__")))
    (ggBadMove : PySem.W.findIn K (.ref XBadMove) "__getattr__" = some none)
    (hdBadMove : PySem.W.hasDictIn K XBadMove = true)
    (aNoPlace : PySem.W.nsIn K mainGlobals "NoPlace" = some (some (.ref XNoPlace)))
    (lNoPlace : K.lookup XNoPlace = some (excClassObj nmNoPlace qnNoPlace XNoPlace NNoPlace bsNoPlace bmNoPlace true snNoPlace subNoPlace abNoPlace colNoPlace ddNoPlace k0NoPlace k1NoPlace k2NoPlace k3NoPlace k5NoPlace "ValueError.__new__"))
    (rNoPlace : PySem.HandSPX.refsVE bmNoPlace = true)
    (saNoPlace : PySem.W.findIn K (.ref XNoPlace) "__setattr__" = some (some (.builtin "object.__setattr__")))
    (ecNoPlace : PySem.W.subIn K (.ref XNoPlace) (.type "BaseException") = some true)
    (tyNoPlace : PySem.W.typeIn K (.ref XNoPlace) = some (.type "type"))
    (kcNoPlace : PySem.W.keepIn K (.ref XNoPlace) = true)
    (inNoPlace : PySem.W.findIn K (.ref XNoPlace) "__init__" = some (some (.ref iNoPlace)))
    (tiNoPlace : PySem.W.typeIn K (.ref iNoPlace) = some (.type "function"))
    (mrNoPlace : PySem.W.mroIn K XNoPlace (.ref XNoPlace) = some true)
    (suNoPlace : PySem.W.ks_superIn K XNoPlace XNoPlace "__init__" = some (some (.builtin "ValueError.__init__")))
    (sbNoPlace : PySem.W.subIn K (.ref XNoPlace) (.type "ValueError") = some true)
    (fnNoPlace : K.lookup iNoPlace = some ⟨ocNoPlace, odNoPlace, .func (PySem.W.ksFn "__init__" "NoPlace.__init__" (defArgs s_NoPlace) (defBody s_NoPlace) (defScope s_NoPlace) .none kVNoPlace dcNoPlace pmNoPlace anNoPlace (.ref qNoPlace) ctNoPlace ccNoPlace), slNoPlace⟩)
    (cdNoPlace : PySem.W.codeIn K (.ref qNoPlace) "NoPlace.__init__" = true)
    (coNoPlace : K.lookup qNoPlace = some ⟨cclNoPlace, cddNoPlace, .fields vsNoPlace, ccsNoPlace⟩)
    (fiNoPlace : vsNoPlace[2]? = some (.str fileNoPlace tfNoPlace))
    (flNoPlace : ((l.prog.main.file : Str) == fileNoPlace) = true)
    (ceNoPlace : K.lookup ccNoPlace = some ⟨clNoPlace, cldNoPlace, .cell (some (.ref XNoPlace)), cslNoPlace⟩)
    (noNoPlace_place : PySem.W.findIn K (.ref XNoPlace) "place" = some none)
    (gaNoPlace : PySem.W.findIn K (.ref XNoPlace) "__getattribute__" = some (some (.builtin "BaseException.__getattribute__")))
    (ggNoPlace : PySem.W.findIn K (.ref XNoPlace) "__getattr__" = some none)
    (hdNoPlace : PySem.W.hasDictIn K XNoPlace = true)
    (aMismatch : PySem.W.nsIn K mainGlobals "Mismatch" = some (some (.ref XMismatch)))
    (lMismatch : K.lookup XMismatch = some (excClassObj nmMismatch qnMismatch XMismatch NMismatch bsMismatch bmMismatch true snMismatch subMismatch abMismatch colMismatch ddMismatch k0Mismatch k1Mismatch k2Mismatch k3Mismatch k5Mismatch "ValueError.__new__"))
    (rMismatch : PySem.HandSPX.refsVE bmMismatch = true)
    (saMismatch : PySem.W.findIn K (.ref XMismatch) "__setattr__" = some (some (.builtin "object.__setattr__")))
    (ecMismatch : PySem.W.subIn K (.ref XMismatch) (.type "BaseException") = some true)
    (tyMismatch : PySem.W.typeIn K (.ref XMismatch) = some (.type "type"))
    (kcMismatch : PySem.W.keepIn K (.ref XMismatch) = true)
    (inMismatch : PySem.W.findIn K (.ref XMismatch) "__init__" = some (some (.ref iMismatch)))
    (tiMismatch : PySem.W.typeIn K (.ref iMismatch) = some (.type "function"))
    (mrMismatch : PySem.W.mroIn K XMismatch (.ref XMismatch) = some true)
    (suMismatch : PySem.W.ks_superIn K XMismatch XMismatch "__init__" = some (some (.builtin "ValueError.__init__")))
    (sbMismatch : PySem.W.subIn K (.ref XMismatch) (.type "ValueError") = some true)
    (fnMismatch : K.lookup iMismatch = some ⟨ocMismatch, odMismatch, .func (PySem.W.ksFn "__init__" "Mismatch.__init__" (defArgs s_Mismatch) (defBody s_Mismatch) (defScope s_Mismatch) .none kVMismatch dcMismatch pmMismatch anMismatch (.ref qMismatch) ctMismatch ccMismatch), slMismatch⟩)
    (cdMismatch : PySem.W.codeIn K (.ref qMismatch) "Mismatch.__init__" = true)
    (coMismatch : K.lookup qMismatch = some ⟨cclMismatch, cddMismatch, .fields vsMismatch, ccsMismatch⟩)
    (fiMismatch : vsMismatch[2]? = some (.str fileMismatch tfMismatch))
    (flMismatch : ((l.prog.main.file : Str) == fileMismatch) = true)
    (ceMismatch : K.lookup ccMismatch = some ⟨clMismatch, cldMismatch, .cell (some (.ref XMismatch)), cslMismatch⟩)
    (noMismatch_wanted : PySem.W.findIn K (.ref XMismatch) "wanted" = some none)
    (noMismatch_got : PySem.W.findIn K (.ref XMismatch) "got" = some none)
    (gaMismatch : PySem.W.findIn K (.ref XMismatch) "__getattribute__" = some (some (.builtin "BaseException.__getattribute__")))
    (ggMismatch : PySem.W.findIn K (.ref XMismatch) "__getattr__" = some none)
    (hdMismatch : PySem.W.hasDictIn K XMismatch = true)
    (aBadLine : PySem.W.nsIn K mainGlobals "BadLine" = some (some (.ref XBadLine)))
    (lBadLine : K.lookup XBadLine = some (excClassObj nmBadLine qnBadLine XBadLine NBadLine bsBadLine bmBadLine true snBadLine subBadLine abBadLine colBadLine ddBadLine k0BadLine k1BadLine k2BadLine k3BadLine k5BadLine "ValueError.__new__"))
    (rBadLine : PySem.HandSPX.refsVE bmBadLine = true)
    (saBadLine : PySem.W.findIn K (.ref XBadLine) "__setattr__" = some (some (.builtin "object.__setattr__")))
    (ecBadLine : PySem.W.subIn K (.ref XBadLine) (.type "BaseException") = some true)
    (tyBadLine : PySem.W.typeIn K (.ref XBadLine) = some (.type "type"))
    (kcBadLine : PySem.W.keepIn K (.ref XBadLine) = true)
    (inBadLine : PySem.W.findIn K (.ref XBadLine) "__init__" = some (some (.ref iBadLine)))
    (tiBadLine : PySem.W.typeIn K (.ref iBadLine) = some (.type "function"))
    (mrBadLine : PySem.W.mroIn K XBadLine (.ref XBadLine) = some true)
    (suBadLine : PySem.W.ks_superIn K XBadLine XBadLine "__init__" = some (some (.builtin "ValueError.__init__")))
    (sbBadLine : PySem.W.subIn K (.ref XBadLine) (.type "ValueError") = some true)
    (fnBadLine : K.lookup iBadLine = some ⟨ocBadLine, odBadLine, .func (PySem.W.ksFn "__init__" "BadLine.__init__" (defArgs s_BadLine) (defBody s_BadLine) (defScope s_BadLine) .none kVBadLine dcBadLine pmBadLine anBadLine (.ref qBadLine) ctBadLine ccBadLine), slBadLine⟩)
    (cdBadLine : PySem.W.codeIn K (.ref qBadLine) "BadLine.__init__" = true)
    (coBadLine : K.lookup qBadLine = some ⟨cclBadLine, cddBadLine, .fields vsBadLine, ccsBadLine⟩)
    (fiBadLine : vsBadLine[2]? = some (.str fileBadLine tfBadLine))
    (flBadLine : ((l.prog.main.file : Str) == fileBadLine) = true)
    (ceBadLine : K.lookup ccBadLine = some ⟨clBadLine, cldBadLine, .cell (some (.ref XBadLine)), cslBadLine⟩)
    (noBadLine_at : PySem.W.findIn K (.ref XBadLine) "at" = some none)
    (gaBadLine : PySem.W.findIn K (.ref XBadLine) "__getattribute__" = some (some (.builtin "BaseException.__getattribute__")))
    (ggBadLine : PySem.W.findIn K (.ref XBadLine) "__getattr__" = some none)
    (hdBadLine : PySem.W.hasDictIn K XBadLine = true)
    (aBadContents : PySem.W.nsIn K mainGlobals "BadContents" = some (some (.ref XBadContents)))
    (lBadContents : K.lookup XBadContents = some (excClassObj nmBadContents qnBadContents XBadContents NBadContents bsBadContents bmBadContents true snBadContents subBadContents abBadContents colBadContents ddBadContents k0BadContents k1BadContents k2BadContents k3BadContents k5BadContents "ValueError.__new__"))
    (rBadContents : PySem.HandSPX.refsVE bmBadContents = true)
    (saBadContents : PySem.W.findIn K (.ref XBadContents) "__setattr__" = some (some (.builtin "object.__setattr__")))
    (ecBadContents : PySem.W.subIn K (.ref XBadContents) (.type "BaseException") = some true)
    (tyBadContents : PySem.W.typeIn K (.ref XBadContents) = some (.type "type"))
    (kcBadContents : PySem.W.keepIn K (.ref XBadContents) = true)
    (inBadContents : PySem.W.findIn K (.ref XBadContents) "__init__" = some (some (.ref iBadContents)))
    (tiBadContents : PySem.W.typeIn K (.ref iBadContents) = some (.type "function"))
    (mrBadContents : PySem.W.mroIn K XBadContents (.ref XBadContents) = some true)
    (suBadContents : PySem.W.ks_superIn K XBadContents XBadContents "__init__" = some (some (.builtin "ValueError.__init__")))
    (sbBadContents : PySem.W.subIn K (.ref XBadContents) (.type "ValueError") = some true)
    (fnBadContents : K.lookup iBadContents = some ⟨ocBadContents, odBadContents, .func (PySem.W.ksFn "__init__" "BadContents.__init__" (defArgs s_BadContents) (defBody s_BadContents) (defScope s_BadContents) .none kVBadContents dcBadContents pmBadContents anBadContents (.ref qBadContents) ctBadContents ccBadContents), slBadContents⟩)
    (cdBadContents : PySem.W.codeIn K (.ref qBadContents) "BadContents.__init__" = true)
    (coBadContents : K.lookup qBadContents = some ⟨cclBadContents, cddBadContents, .fields vsBadContents, ccsBadContents⟩)
    (fiBadContents : vsBadContents[2]? = some (.str fileBadContents tfBadContents))
    (flBadContents : ((l.prog.main.file : Str) == fileBadContents) = true)
    (ceBadContents : K.lookup ccBadContents = some ⟨clBadContents, cldBadContents, .cell (some (.ref XBadContents)), cslBadContents⟩)
    (noBadContents_at : PySem.W.findIn K (.ref XBadContents) "at" = some none)
    (gaBadContents : PySem.W.findIn K (.ref XBadContents) "__getattribute__" = some (some (.builtin "BaseException.__getattribute__")))
    (ggBadContents : PySem.W.findIn K (.ref XBadContents) "__getattr__" = some none)
    (hdBadContents : PySem.W.hasDictIn K XBadContents = true)
    (aBadChoices : PySem.W.nsIn K mainGlobals "BadChoices" = some (some (.ref XBadChoices)))
    (lBadChoices : K.lookup XBadChoices = some (excClassObj nmBadChoices qnBadChoices XBadChoices NBadChoices bsBadChoices bmBadChoices true snBadChoices subBadChoices abBadChoices colBadChoices ddBadChoices k0BadChoices k1BadChoices k2BadChoices k3BadChoices k5BadChoices "ValueError.__new__"))
    (rBadChoices : PySem.HandSPX.refsVE bmBadChoices = true)
    (saBadChoices : PySem.W.findIn K (.ref XBadChoices) "__setattr__" = some (some (.builtin "object.__setattr__")))
    (ecBadChoices : PySem.W.subIn K (.ref XBadChoices) (.type "BaseException") = some true)
    (tyBadChoices : PySem.W.typeIn K (.ref XBadChoices) = some (.type "type"))
    (kcBadChoices : PySem.W.keepIn K (.ref XBadChoices) = true)
    (inBadChoices : PySem.W.findIn K (.ref XBadChoices) "__init__" = some (some (.ref iBadChoices)))
    (tiBadChoices : PySem.W.typeIn K (.ref iBadChoices) = some (.type "function"))
    (mrBadChoices : PySem.W.mroIn K XBadChoices (.ref XBadChoices) = some true)
    (suBadChoices : PySem.W.ks_superIn K XBadChoices XBadChoices "__init__" = some (some (.builtin "ValueError.__init__")))
    (sbBadChoices : PySem.W.subIn K (.ref XBadChoices) (.type "ValueError") = some true)
    (fnBadChoices : K.lookup iBadChoices = some ⟨ocBadChoices, odBadChoices, .func (PySem.W.ksFn "__init__" "BadChoices.__init__" (defArgs s_BadChoices) (defBody s_BadChoices) (defScope s_BadChoices) .none kVBadChoices dcBadChoices pmBadChoices anBadChoices (.ref qBadChoices) ctBadChoices ccBadChoices), slBadChoices⟩)
    (cdBadChoices : PySem.W.codeIn K (.ref qBadChoices) "BadChoices.__init__" = true)
    (coBadChoices : K.lookup qBadChoices = some ⟨cclBadChoices, cddBadChoices, .fields vsBadChoices, ccsBadChoices⟩)
    (fiBadChoices : vsBadChoices[2]? = some (.str fileBadChoices tfBadChoices))
    (flBadChoices : ((l.prog.main.file : Str) == fileBadChoices) = true)
    (ceBadChoices : K.lookup ccBadChoices = some ⟨clBadChoices, cldBadChoices, .cell (some (.ref XBadChoices)), cslBadChoices⟩)
    (noBadChoices_at : PySem.W.findIn K (.ref XBadChoices) "at" = some none)
    (gaBadChoices : PySem.W.findIn K (.ref XBadChoices) "__getattribute__" = some (some (.builtin "BaseException.__getattribute__")))
    (ggBadChoices : PySem.W.findIn K (.ref XBadChoices) "__getattr__" = some none)
    (hdBadChoices : PySem.W.hasDictIn K XBadChoices = true)
    (aNotInStep : PySem.W.nsIn K mainGlobals "NotInStep" = some (some (.ref XNotInStep)))
    (lNotInStep : K.lookup XNotInStep = some (excClassObj nmNotInStep qnNotInStep XNotInStep NNotInStep bsNotInStep bmNotInStep true snNotInStep subNotInStep abNotInStep colNotInStep ddNotInStep k0NotInStep k1NotInStep k2NotInStep k3NotInStep k5NotInStep "ValueError.__new__"))
    (rNotInStep : PySem.HandSPX.refsVE bmNotInStep = true)
    (saNotInStep : PySem.W.findIn K (.ref XNotInStep) "__setattr__" = some (some (.builtin "object.__setattr__")))
    (ecNotInStep : PySem.W.subIn K (.ref XNotInStep) (.type "BaseException") = some true)
    (tyNotInStep : PySem.W.typeIn K (.ref XNotInStep) = some (.type "type"))
    (kcNotInStep : PySem.W.keepIn K (.ref XNotInStep) = true)
    (inNotInStep : PySem.W.findIn K (.ref XNotInStep) "__init__" = some (some (.ref iNotInStep)))
    (tiNotInStep : PySem.W.typeIn K (.ref iNotInStep) = some (.type "function"))
    (mrNotInStep : PySem.W.mroIn K XNotInStep (.ref XNotInStep) = some true)
    (suNotInStep : PySem.W.ks_superIn K XNotInStep XNotInStep "__init__" = some (some (.builtin "ValueError.__init__")))
    (sbNotInStep : PySem.W.subIn K (.ref XNotInStep) (.type "ValueError") = some true)
    (fnNotInStep : K.lookup iNotInStep = some ⟨ocNotInStep, odNotInStep, .func (PySem.W.ksFn "__init__" "NotInStep.__init__" (defArgs s_NotInStep) (defBody s_NotInStep) (defScope s_NotInStep) .none kVNotInStep dcNotInStep pmNotInStep anNotInStep (.ref qNotInStep) ctNotInStep ccNotInStep), slNotInStep⟩)
    (cdNotInStep : PySem.W.codeIn K (.ref qNotInStep) "NotInStep.__init__" = true)
    (coNotInStep : K.lookup qNotInStep = some ⟨cclNotInStep, cddNotInStep, .fields vsNotInStep, ccsNotInStep⟩)
    (fiNotInStep : vsNotInStep[2]? = some (.str fileNotInStep tfNotInStep))
    (flNotInStep : ((l.prog.main.file : Str) == fileNotInStep) = true)
    (ceNotInStep : K.lookup ccNotInStep = some ⟨clNotInStep, cldNotInStep, .cell (some (.ref XNotInStep)), cslNotInStep⟩)
    (noNotInStep_slip : PySem.W.findIn K (.ref XNotInStep) "slip" = some none)
    (gaNotInStep : PySem.W.findIn K (.ref XNotInStep) "__getattribute__" = some (some (.builtin "BaseException.__getattribute__")))
    (ggNotInStep : PySem.W.findIn K (.ref XNotInStep) "__getattr__" = some none)
    (hdNotInStep : PySem.W.hasDictIn K XNotInStep = true)
    (aNoPicture : PySem.W.nsIn K mainGlobals "NoPicture" = some (some (.ref XNoPicture)))
    (lNoPicture : K.lookup XNoPicture = some (excClassObj nmNoPicture qnNoPicture XNoPicture NNoPicture bsNoPicture bmNoPicture true snNoPicture subNoPicture abNoPicture colNoPicture ddNoPicture k0NoPicture k1NoPicture k2NoPicture k3NoPicture k5NoPicture "ValueError.__new__"))
    (rNoPicture : PySem.HandSPX.refsVE bmNoPicture = true)
    (saNoPicture : PySem.W.findIn K (.ref XNoPicture) "__setattr__" = some (some (.builtin "object.__setattr__")))
    (ecNoPicture : PySem.W.subIn K (.ref XNoPicture) (.type "BaseException") = some true)
    (tyNoPicture : PySem.W.typeIn K (.ref XNoPicture) = some (.type "type"))
    (kcNoPicture : PySem.W.keepIn K (.ref XNoPicture) = true)
    (inNoPicture : PySem.W.findIn K (.ref XNoPicture) "__init__" = some (some (.ref iNoPicture)))
    (tiNoPicture : PySem.W.typeIn K (.ref iNoPicture) = some (.type "function"))
    (mrNoPicture : PySem.W.mroIn K XNoPicture (.ref XNoPicture) = some true)
    (suNoPicture : PySem.W.ks_superIn K XNoPicture XNoPicture "__init__" = some (some (.builtin "ValueError.__init__")))
    (sbNoPicture : PySem.W.subIn K (.ref XNoPicture) (.type "ValueError") = some true)
    (fnNoPicture : K.lookup iNoPicture = some ⟨ocNoPicture, odNoPicture, .func (PySem.W.ksFn "__init__" "NoPicture.__init__" (defArgs s_NoPicture) (defBody s_NoPicture) (defScope s_NoPicture) .none kVNoPicture dcNoPicture pmNoPicture anNoPicture (.ref qNoPicture) ctNoPicture ccNoPicture), slNoPicture⟩)
    (cdNoPicture : PySem.W.codeIn K (.ref qNoPicture) "NoPicture.__init__" = true)
    (coNoPicture : K.lookup qNoPicture = some ⟨cclNoPicture, cddNoPicture, .fields vsNoPicture, ccsNoPicture⟩)
    (fiNoPicture : vsNoPicture[2]? = some (.str fileNoPicture tfNoPicture))
    (flNoPicture : ((l.prog.main.file : Str) == fileNoPicture) = true)
    (ceNoPicture : K.lookup ccNoPicture = some ⟨clNoPicture, cldNoPicture, .cell (some (.ref XNoPicture)), cslNoPicture⟩)
    (noNoPicture_picture : PySem.W.findIn K (.ref XNoPicture) "picture" = some none)
    (gaNoPicture : PySem.W.findIn K (.ref XNoPicture) "__getattribute__" = some (some (.builtin "BaseException.__getattribute__")))
    (ggNoPicture : PySem.W.findIn K (.ref XNoPicture) "__getattr__" = some none)
    (hdNoPicture : PySem.W.hasDictIn K XNoPicture = true)
    (aNotMoving : PySem.W.nsIn K mainGlobals "NotMoving" = some (some (.ref XNotMoving)))
    (lNotMoving : K.lookup XNotMoving = some (excClassObj nmNotMoving qnNotMoving XNotMoving NNotMoving bsNotMoving bmNotMoving true snNotMoving subNotMoving abNotMoving colNotMoving ddNotMoving k0NotMoving k1NotMoving k2NotMoving k3NotMoving k5NotMoving "ValueError.__new__"))
    (rNotMoving : PySem.HandSPX.refsVE bmNotMoving = true)
    (saNotMoving : PySem.W.findIn K (.ref XNotMoving) "__setattr__" = some (some (.builtin "object.__setattr__")))
    (ecNotMoving : PySem.W.subIn K (.ref XNotMoving) (.type "BaseException") = some true)
    (tyNotMoving : PySem.W.typeIn K (.ref XNotMoving) = some (.type "type"))
    (kcNotMoving : PySem.W.keepIn K (.ref XNotMoving) = true)
    (inNotMoving : PySem.W.findIn K (.ref XNotMoving) "__init__" = some (some (.ref iNotMoving)))
    (tiNotMoving : PySem.W.typeIn K (.ref iNotMoving) = some (.type "function"))
    (mrNotMoving : PySem.W.mroIn K XNotMoving (.ref XNotMoving) = some true)
    (suNotMoving : PySem.W.ks_superIn K XNotMoving XNotMoving "__init__" = some (some (.builtin "ValueError.__init__")))
    (sbNotMoving : PySem.W.subIn K (.ref XNotMoving) (.type "ValueError") = some true)
    (fnNotMoving : K.lookup iNotMoving = some ⟨ocNotMoving, odNotMoving, .func (PySem.W.ksFn "__init__" "NotMoving.__init__" (defArgs s_NotMoving) (defBody s_NotMoving) (defScope s_NotMoving) .none kVNotMoving dcNotMoving pmNotMoving anNotMoving (.ref qNotMoving) ctNotMoving ccNotMoving), slNotMoving⟩)
    (cdNotMoving : PySem.W.codeIn K (.ref qNotMoving) "NotMoving.__init__" = true)
    (coNotMoving : K.lookup qNotMoving = some ⟨cclNotMoving, cddNotMoving, .fields vsNotMoving, ccsNotMoving⟩)
    (fiNotMoving : vsNotMoving[2]? = some (.str fileNotMoving tfNotMoving))
    (flNotMoving : ((l.prog.main.file : Str) == fileNotMoving) = true)
    (ceNotMoving : K.lookup ccNotMoving = some ⟨clNotMoving, cldNotMoving, .cell (some (.ref XNotMoving)), cslNotMoving⟩)
    (noNotMoving_at : PySem.W.findIn K (.ref XNotMoving) "at" = some none)
    (gaNotMoving : PySem.W.findIn K (.ref XNotMoving) "__getattribute__" = some (some (.builtin "BaseException.__getattribute__")))
    (ggNotMoving : PySem.W.findIn K (.ref XNotMoving) "__getattr__" = some none)
    (hdNotMoving : PySem.W.hasDictIn K XNotMoving = true)
    (aBadChange : PySem.W.nsIn K mainGlobals "BadChange" = some (some (.ref XBadChange)))
    (lBadChange : K.lookup XBadChange = some (excClassObj nmBadChange qnBadChange XBadChange NBadChange bsBadChange bmBadChange true snBadChange subBadChange abBadChange colBadChange ddBadChange k0BadChange k1BadChange k2BadChange k3BadChange k5BadChange "ValueError.__new__"))
    (rBadChange : PySem.HandSPX.refsVE bmBadChange = true)
    (saBadChange : PySem.W.findIn K (.ref XBadChange) "__setattr__" = some (some (.builtin "object.__setattr__")))
    (ecBadChange : PySem.W.subIn K (.ref XBadChange) (.type "BaseException") = some true)
    (tyBadChange : PySem.W.typeIn K (.ref XBadChange) = some (.type "type"))
    (kcBadChange : PySem.W.keepIn K (.ref XBadChange) = true)
    (inBadChange : PySem.W.findIn K (.ref XBadChange) "__init__" = some (some (.ref iBadChange)))
    (tiBadChange : PySem.W.typeIn K (.ref iBadChange) = some (.type "function"))
    (mrBadChange : PySem.W.mroIn K XBadChange (.ref XBadChange) = some true)
    (suBadChange : PySem.W.ks_superIn K XBadChange XBadChange "__init__" = some (some (.builtin "ValueError.__init__")))
    (sbBadChange : PySem.W.subIn K (.ref XBadChange) (.type "ValueError") = some true)
    (fnBadChange : K.lookup iBadChange = some ⟨ocBadChange, odBadChange, .func (PySem.W.ksFn "__init__" "BadChange.__init__" (defArgs s_BadChange) (defBody s_BadChange) (defScope s_BadChange) .none kVBadChange dcBadChange pmBadChange anBadChange (.ref qBadChange) ctBadChange ccBadChange), slBadChange⟩)
    (cdBadChange : PySem.W.codeIn K (.ref qBadChange) "BadChange.__init__" = true)
    (coBadChange : K.lookup qBadChange = some ⟨cclBadChange, cddBadChange, .fields vsBadChange, ccsBadChange⟩)
    (fiBadChange : vsBadChange[2]? = some (.str fileBadChange tfBadChange))
    (flBadChange : ((l.prog.main.file : Str) == fileBadChange) = true)
    (ceBadChange : K.lookup ccBadChange = some ⟨clBadChange, cldBadChange, .cell (some (.ref XBadChange)), cslBadChange⟩)
    (noBadChange_change : PySem.W.findIn K (.ref XBadChange) "change" = some none)
    (gaBadChange : PySem.W.findIn K (.ref XBadChange) "__getattribute__" = some (some (.builtin "BaseException.__getattribute__")))
    (ggBadChange : PySem.W.findIn K (.ref XBadChange) "__getattr__" = some none)
    (hdBadChange : PySem.W.hasDictIn K XBadChange = true)
    (aDifferentLists : PySem.W.nsIn K mainGlobals "DifferentLists" = some (some (.ref XDifferentLists)))
    (lDifferentLists : K.lookup XDifferentLists = some (excClassObj nmDifferentLists qnDifferentLists XDifferentLists NDifferentLists bsDifferentLists bmDifferentLists true snDifferentLists subDifferentLists abDifferentLists colDifferentLists ddDifferentLists k0DifferentLists k1DifferentLists k2DifferentLists k3DifferentLists k5DifferentLists "ValueError.__new__"))
    (rDifferentLists : PySem.HandSPX.refsVE bmDifferentLists = true)
    (saDifferentLists : PySem.W.findIn K (.ref XDifferentLists) "__setattr__" = some (some (.builtin "object.__setattr__")))
    (ecDifferentLists : PySem.W.subIn K (.ref XDifferentLists) (.type "BaseException") = some true)
    (tyDifferentLists : PySem.W.typeIn K (.ref XDifferentLists) = some (.type "type"))
    (kcDifferentLists : PySem.W.keepIn K (.ref XDifferentLists) = true)
    (inDifferentLists : PySem.W.findIn K (.ref XDifferentLists) "__init__" = some (some (.ref iDifferentLists)))
    (tiDifferentLists : PySem.W.typeIn K (.ref iDifferentLists) = some (.type "function"))
    (mrDifferentLists : PySem.W.mroIn K XDifferentLists (.ref XDifferentLists) = some true)
    (suDifferentLists : PySem.W.ks_superIn K XDifferentLists XDifferentLists "__init__" = some (some (.builtin "ValueError.__init__")))
    (sbDifferentLists : PySem.W.subIn K (.ref XDifferentLists) (.type "ValueError") = some true)
    (fnDifferentLists : K.lookup iDifferentLists = some ⟨ocDifferentLists, odDifferentLists, .func (PySem.W.ksFn "__init__" "DifferentLists.__init__" (defArgs s_DifferentLists) (defBody s_DifferentLists) (defScope s_DifferentLists) .none kVDifferentLists dcDifferentLists pmDifferentLists anDifferentLists (.ref qDifferentLists) ctDifferentLists ccDifferentLists), slDifferentLists⟩)
    (cdDifferentLists : PySem.W.codeIn K (.ref qDifferentLists) "DifferentLists.__init__" = true)
    (coDifferentLists : K.lookup qDifferentLists = some ⟨cclDifferentLists, cddDifferentLists, .fields vsDifferentLists, ccsDifferentLists⟩)
    (fiDifferentLists : vsDifferentLists[2]? = some (.str fileDifferentLists tfDifferentLists))
    (flDifferentLists : ((l.prog.main.file : Str) == fileDifferentLists) = true)
    (ceDifferentLists : K.lookup ccDifferentLists = some ⟨clDifferentLists, cldDifferentLists, .cell (some (.ref XDifferentLists)), cslDifferentLists⟩)
    (noDifferentLists_one : PySem.W.findIn K (.ref XDifferentLists) "one" = some none)
    (noDifferentLists_other : PySem.W.findIn K (.ref XDifferentLists) "other" = some none)
    (gaDifferentLists : PySem.W.findIn K (.ref XDifferentLists) "__getattribute__" = some (some (.builtin "BaseException.__getattribute__")))
    (ggDifferentLists : PySem.W.findIn K (.ref XDifferentLists) "__getattr__" = some none)
    (hdDifferentLists : PySem.W.hasDictIn K XDifferentLists = true)
    (aBadNames : PySem.W.nsIn K mainGlobals "BadNames" = some (some (.ref XBadNames)))
    (lBadNames : K.lookup XBadNames = some (excClassObj nmBadNames qnBadNames XBadNames NBadNames bsBadNames bmBadNames true snBadNames subBadNames abBadNames colBadNames ddBadNames k0BadNames k1BadNames k2BadNames k3BadNames k5BadNames "ValueError.__new__"))
    (rBadNames : PySem.HandSPX.refsVE bmBadNames = true)
    (saBadNames : PySem.W.findIn K (.ref XBadNames) "__setattr__" = some (some (.builtin "object.__setattr__")))
    (ecBadNames : PySem.W.subIn K (.ref XBadNames) (.type "BaseException") = some true)
    (tyBadNames : PySem.W.typeIn K (.ref XBadNames) = some (.type "type"))
    (kcBadNames : PySem.W.keepIn K (.ref XBadNames) = true)
    (inBadNames : PySem.W.findIn K (.ref XBadNames) "__init__" = some (some (.ref iBadNames)))
    (tiBadNames : PySem.W.typeIn K (.ref iBadNames) = some (.type "function"))
    (mrBadNames : PySem.W.mroIn K XBadNames (.ref XBadNames) = some true)
    (suBadNames : PySem.W.ks_superIn K XBadNames XBadNames "__init__" = some (some (.builtin "ValueError.__init__")))
    (sbBadNames : PySem.W.subIn K (.ref XBadNames) (.type "ValueError") = some true)
    (fnBadNames : K.lookup iBadNames = some ⟨ocBadNames, odBadNames, .func (PySem.W.ksFn "__init__" "BadNames.__init__" (defArgs s_BadNames) (defBody s_BadNames) (defScope s_BadNames) .none kVBadNames dcBadNames pmBadNames anBadNames (.ref qBadNames) ctBadNames ccBadNames), slBadNames⟩)
    (cdBadNames : PySem.W.codeIn K (.ref qBadNames) "BadNames.__init__" = true)
    (coBadNames : K.lookup qBadNames = some ⟨cclBadNames, cddBadNames, .fields vsBadNames, ccsBadNames⟩)
    (fiBadNames : vsBadNames[2]? = some (.str fileBadNames tfBadNames))
    (flBadNames : ((l.prog.main.file : Str) == fileBadNames) = true)
    (ceBadNames : K.lookup ccBadNames = some ⟨clBadNames, cldBadNames, .cell (some (.ref XBadNames)), cslBadNames⟩)
    (noBadNames_at : PySem.W.findIn K (.ref XBadNames) "at" = some none)
    (gaBadNames : PySem.W.findIn K (.ref XBadNames) "__getattribute__" = some (some (.builtin "BaseException.__getattribute__")))
    (ggBadNames : PySem.W.findIn K (.ref XBadNames) "__getattr__" = some none)
    (hdBadNames : PySem.W.hasDictIn K XBadNames = true)
    (aBadRow : PySem.W.nsIn K mainGlobals "BadRow" = some (some (.ref XBadRow)))
    (lBadRow : K.lookup XBadRow = some (excClassObj nmBadRow qnBadRow XBadRow NBadRow bsBadRow bmBadRow true snBadRow subBadRow abBadRow colBadRow ddBadRow k0BadRow k1BadRow k2BadRow k3BadRow k5BadRow "ValueError.__new__"))
    (rBadRow : PySem.HandSPX.refsVE bmBadRow = true)
    (saBadRow : PySem.W.findIn K (.ref XBadRow) "__setattr__" = some (some (.builtin "object.__setattr__")))
    (ecBadRow : PySem.W.subIn K (.ref XBadRow) (.type "BaseException") = some true)
    (tyBadRow : PySem.W.typeIn K (.ref XBadRow) = some (.type "type"))
    (kcBadRow : PySem.W.keepIn K (.ref XBadRow) = true)
    (inBadRow : PySem.W.findIn K (.ref XBadRow) "__init__" = some (some (.ref iBadRow)))
    (tiBadRow : PySem.W.typeIn K (.ref iBadRow) = some (.type "function"))
    (mrBadRow : PySem.W.mroIn K XBadRow (.ref XBadRow) = some true)
    (suBadRow : PySem.W.ks_superIn K XBadRow XBadRow "__init__" = some (some (.builtin "ValueError.__init__")))
    (sbBadRow : PySem.W.subIn K (.ref XBadRow) (.type "ValueError") = some true)
    (fnBadRow : K.lookup iBadRow = some ⟨ocBadRow, odBadRow, .func (PySem.W.ksFn "__init__" "BadRow.__init__" (defArgs s_BadRow) (defBody s_BadRow) (defScope s_BadRow) .none kVBadRow dcBadRow pmBadRow anBadRow (.ref qBadRow) ctBadRow ccBadRow), slBadRow⟩)
    (cdBadRow : PySem.W.codeIn K (.ref qBadRow) "BadRow.__init__" = true)
    (coBadRow : K.lookup qBadRow = some ⟨cclBadRow, cddBadRow, .fields vsBadRow, ccsBadRow⟩)
    (fiBadRow : vsBadRow[2]? = some (.str fileBadRow tfBadRow))
    (flBadRow : ((l.prog.main.file : Str) == fileBadRow) = true)
    (ceBadRow : K.lookup ccBadRow = some ⟨clBadRow, cldBadRow, .cell (some (.ref XBadRow)), cslBadRow⟩)
    (noBadRow_at : PySem.W.findIn K (.ref XBadRow) "at" = some none)
    (gaBadRow : PySem.W.findIn K (.ref XBadRow) "__getattribute__" = some (some (.builtin "BaseException.__getattribute__")))
    (ggBadRow : PySem.W.findIn K (.ref XBadRow) "__getattr__" = some none)
    (hdBadRow : PySem.W.hasDictIn K XBadRow = true)
    (aNoName : PySem.W.nsIn K mainGlobals "NoName" = some (some (.ref XNoName)))
    (lNoName : K.lookup XNoName = some (excClassObj nmNoName qnNoName XNoName NNoName bsNoName bmNoName true snNoName subNoName abNoName colNoName ddNoName k0NoName k1NoName k2NoName k3NoName k5NoName "ValueError.__new__"))
    (rNoName : PySem.HandSPX.refsVE bmNoName = true)
    (saNoName : PySem.W.findIn K (.ref XNoName) "__setattr__" = some (some (.builtin "object.__setattr__")))
    (ecNoName : PySem.W.subIn K (.ref XNoName) (.type "BaseException") = some true)
    (tyNoName : PySem.W.typeIn K (.ref XNoName) = some (.type "type"))
    (kcNoName : PySem.W.keepIn K (.ref XNoName) = true)
    (inNoName : PySem.W.findIn K (.ref XNoName) "__init__" = some (some (.ref iNoName)))
    (tiNoName : PySem.W.typeIn K (.ref iNoName) = some (.type "function"))
    (mrNoName : PySem.W.mroIn K XNoName (.ref XNoName) = some true)
    (suNoName : PySem.W.ks_superIn K XNoName XNoName "__init__" = some (some (.builtin "ValueError.__init__")))
    (sbNoName : PySem.W.subIn K (.ref XNoName) (.type "ValueError") = some true)
    (fnNoName : K.lookup iNoName = some ⟨ocNoName, odNoName, .func (PySem.W.ksFn "__init__" "NoName.__init__" (defArgs s_NoName) (defBody s_NoName) (defScope s_NoName) .none kVNoName dcNoName pmNoName anNoName (.ref qNoName) ctNoName ccNoName), slNoName⟩)
    (cdNoName : PySem.W.codeIn K (.ref qNoName) "NoName.__init__" = true)
    (coNoName : K.lookup qNoName = some ⟨cclNoName, cddNoName, .fields vsNoName, ccsNoName⟩)
    (fiNoName : vsNoName[2]? = some (.str fileNoName tfNoName))
    (flNoName : ((l.prog.main.file : Str) == fileNoName) = true)
    (ceNoName : K.lookup ccNoName = some ⟨clNoName, cldNoName, .cell (some (.ref XNoName)), cslNoName⟩)
    (noNoName_name : PySem.W.findIn K (.ref XNoName) "name" = some none)
    (gaNoName : PySem.W.findIn K (.ref XNoName) "__getattribute__" = some (some (.builtin "BaseException.__getattribute__")))
    (ggNoName : PySem.W.findIn K (.ref XNoName) "__getattr__" = some none)
    (hdNoName : PySem.W.hasDictIn K XNoName = true)
    (aSlipped : PySem.W.nsIn K mainGlobals "Slipped" = some (some (.ref XSlipped)))
    (lSlipped : K.lookup XSlipped = some (excClassObj nmSlipped qnSlipped XSlipped NSlipped bsSlipped bmSlipped true snSlipped subSlipped abSlipped colSlipped ddSlipped k0Slipped k1Slipped k2Slipped k3Slipped k5Slipped "ValueError.__new__"))
    (rSlipped : PySem.HandSPX.refsVE bmSlipped = true)
    (saSlipped : PySem.W.findIn K (.ref XSlipped) "__setattr__" = some (some (.builtin "object.__setattr__")))
    (ecSlipped : PySem.W.subIn K (.ref XSlipped) (.type "BaseException") = some true)
    (tySlipped : PySem.W.typeIn K (.ref XSlipped) = some (.type "type"))
    (kcSlipped : PySem.W.keepIn K (.ref XSlipped) = true)
    (inSlipped : PySem.W.findIn K (.ref XSlipped) "__init__" = some (some (.ref iSlipped)))
    (tiSlipped : PySem.W.typeIn K (.ref iSlipped) = some (.type "function"))
    (mrSlipped : PySem.W.mroIn K XSlipped (.ref XSlipped) = some true)
    (suSlipped : PySem.W.ks_superIn K XSlipped XSlipped "__init__" = some (some (.builtin "ValueError.__init__")))
    (sbSlipped : PySem.W.subIn K (.ref XSlipped) (.type "ValueError") = some true)
    (fnSlipped : K.lookup iSlipped = some ⟨ocSlipped, odSlipped, .func (PySem.W.ksFn "__init__" "Slipped.__init__" (defArgs s_Slipped) (defBody s_Slipped) (defScope s_Slipped) .none kVSlipped dcSlipped pmSlipped anSlipped (.ref qSlipped) ctSlipped ccSlipped), slSlipped⟩)
    (cdSlipped : PySem.W.codeIn K (.ref qSlipped) "Slipped.__init__" = true)
    (coSlipped : K.lookup qSlipped = some ⟨cclSlipped, cddSlipped, .fields vsSlipped, ccsSlipped⟩)
    (fiSlipped : vsSlipped[2]? = some (.str fileSlipped tfSlipped))
    (flSlipped : ((l.prog.main.file : Str) == fileSlipped) = true)
    (ceSlipped : K.lookup ccSlipped = some ⟨clSlipped, cldSlipped, .cell (some (.ref XSlipped)), cslSlipped⟩)
    (noSlipped_slip : PySem.W.findIn K (.ref XSlipped) "slip" = some none)
    (gaSlipped : PySem.W.findIn K (.ref XSlipped) "__getattribute__" = some (some (.builtin "BaseException.__getattribute__")))
    (ggSlipped : PySem.W.findIn K (.ref XSlipped) "__getattr__" = some none)
    (hdSlipped : PySem.W.hasDictIn K XSlipped = true)
    (thi : PySem.W.nsIn K cStatics "thirdparty.any" = some none)
    (z_super : PySem.W.nsIn K mainGlobals "super" = some none)
    (tops : (l.prog.main.scope.names.lookup ("super" : Str)).isSome = false)
    (exa : exAll K [XBadMove, XNoPlace, XMismatch, XBadLine, XBadContents, XBadChoices, XNotInStep, XNoPicture, XNotMoving, XBadChange, XDifferentLists, XBadNames, XBadRow, XNoName, XSlipped] = true)
    (exn : [XBadMove, XNoPlace, XMismatch, XBadLine, XBadContents, XBadChoices, XNotInStep, XNoPicture, XNotMoving, XBadChange, XDifferentLists, XBadNames, XBadRow, XNoName, XSlipped].Nodup)
    (z_len : PySem.W.nsIn K mainGlobals "len" = some none)
    (z_abs : PySem.W.nsIn K mainGlobals "abs" = some none)
    (z_int : PySem.W.nsIn K mainGlobals "int" = some none)
    (z_range : PySem.W.nsIn K mainGlobals "range" = some none)
    (z_list : PySem.W.nsIn K mainGlobals "list" = some none)
    (z_tuple : PySem.W.nsIn K mainGlobals "tuple" = some none)
    (z_str : PySem.W.nsIn K mainGlobals "str" = some none)
    (z_max : PySem.W.nsIn K mainGlobals "max" = some none)
    (z_min : PySem.W.nsIn K mainGlobals "min" = some none)
    (z_enumerate : PySem.W.nsIn K mainGlobals "enumerate" = some none)
    (z_isinstance : PySem.W.nsIn K mainGlobals "isinstance" = some none)
    (z_ValueError : PySem.W.nsIn K mainGlobals "ValueError" = some none)
    (aSE : PySem.W.nsIn K mainGlobals "SidelistsError" = some (some (.ref XSE)))
    (exc : exC K [XBadMove, XNoPlace, XMismatch, XBadLine, XBadContents, XBadChoices, XNotInStep, XNoPicture, XNotMoving, XBadChange, XDifferentLists, XBadNames, XBadRow, XNoName, XSlipped, XSE] = true)
    (xis : exIs K (ECof [XBadMove, XNoPlace, XMismatch, XBadLine, XBadContents, XBadChoices, XNotInStep, XNoPicture, XNotMoving, XBadChange, XDifferentLists, XBadNames, XBadRow, XNoName, XSlipped, XSE]) = true)
    (xisS : exIsV K (ECof [XBadMove, XNoPlace, XMismatch, XBadLine, XBadContents, XBadChoices, XNotInStep, XNoPicture, XNotMoving, XBadChange, XDifferentLists, XBadNames, XBadRow, XNoName, XSlipped, XSE]) (.ref XSE) = true)
    (xisV : exIsV K (ECof [XBadMove, XNoPlace, XMismatch, XBadLine, XBadContents, XBadChoices, XNotInStep, XNoPicture, XNotMoving, XBadChange, XDifferentLists, XBadNames, XBadRow, XNoName, XSlipped, XSE]) (.type "ValueError") = true)
    (xcn : PySem.W.specialIn K (.builtin "object.__class__") "__get__" = some (some (.builtin "getset_descriptor.__get__")))
    (xct : PySem.W.takesIn K (.builtin "object.__class__") = some true)
    (exm : PySem.W.exmOne K (.ref XBadLine) (.ref XSE) = some true)
    : LamX.LawAtS l w K CX0 6 63 "_law_script" mg fa h := by
  have e := hfa.symm.trans (PySem.W.mg_of X G alaw)
  cases e
  have B : Blt mg := ⟨PySem.W.mg_none_of X G z_len, PySem.W.mg_none_of X G z_abs, PySem.W.mg_none_of X G z_int, PySem.W.mg_none_of X G z_range, PySem.W.mg_none_of X G z_list, PySem.W.mg_none_of X G z_tuple, PySem.W.mg_none_of X G z_str, PySem.W.mg_none_of X G z_max, PySem.W.mg_none_of X G z_min, PySem.W.mg_none_of X G z_enumerate, PySem.W.mg_none_of X G z_isinstance⟩
  have TBadMove : XcF l.prog K mg "BadMove" XBadMove iBadMove := ⟨⟨⟨_, _, _, _, _, _, _, _, _, _, _, _, _, _, _, lBadMove, rBadMove⟩, saBadMove, ecBadMove, tyBadMove, kcBadMove⟩, inBadMove, tiBadMove, ⟨_, by unfold PySem.W.clsIn; rw [lBadMove] <;> rfl⟩, mrBadMove, suBadMove, sbBadMove, thi, tops, PySem.W.mg_none_of X G z_super, PySem.W.mg_of X G aBadMove⟩
  have FBadMove : XfC K XBadMove := ⟨gaBadMove, ggBadMove, ecBadMove, hdBadMove⟩
  have TNoPlace : XcF l.prog K mg "NoPlace" XNoPlace iNoPlace := ⟨⟨⟨_, _, _, _, _, _, _, _, _, _, _, _, _, _, _, lNoPlace, rNoPlace⟩, saNoPlace, ecNoPlace, tyNoPlace, kcNoPlace⟩, inNoPlace, tiNoPlace, ⟨_, by unfold PySem.W.clsIn; rw [lNoPlace] <;> rfl⟩, mrNoPlace, suNoPlace, sbNoPlace, thi, tops, PySem.W.mg_none_of X G z_super, PySem.W.mg_of X G aNoPlace⟩
  have FNoPlace : XfC K XNoPlace := ⟨gaNoPlace, ggNoPlace, ecNoPlace, hdNoPlace⟩
  have TMismatch : XcF l.prog K mg "Mismatch" XMismatch iMismatch := ⟨⟨⟨_, _, _, _, _, _, _, _, _, _, _, _, _, _, _, lMismatch, rMismatch⟩, saMismatch, ecMismatch, tyMismatch, kcMismatch⟩, inMismatch, tiMismatch, ⟨_, by unfold PySem.W.clsIn; rw [lMismatch] <;> rfl⟩, mrMismatch, suMismatch, sbMismatch, thi, tops, PySem.W.mg_none_of X G z_super, PySem.W.mg_of X G aMismatch⟩
  have FMismatch : XfC K XMismatch := ⟨gaMismatch, ggMismatch, ecMismatch, hdMismatch⟩
  have TBadLine : XcF l.prog K mg "BadLine" XBadLine iBadLine := ⟨⟨⟨_, _, _, _, _, _, _, _, _, _, _, _, _, _, _, lBadLine, rBadLine⟩, saBadLine, ecBadLine, tyBadLine, kcBadLine⟩, inBadLine, tiBadLine, ⟨_, by unfold PySem.W.clsIn; rw [lBadLine] <;> rfl⟩, mrBadLine, suBadLine, sbBadLine, thi, tops, PySem.W.mg_none_of X G z_super, PySem.W.mg_of X G aBadLine⟩
  have FBadLine : XfC K XBadLine := ⟨gaBadLine, ggBadLine, ecBadLine, hdBadLine⟩
  have TBadContents : XcF l.prog K mg "BadContents" XBadContents iBadContents := ⟨⟨⟨_, _, _, _, _, _, _, _, _, _, _, _, _, _, _, lBadContents, rBadContents⟩, saBadContents, ecBadContents, tyBadContents, kcBadContents⟩, inBadContents, tiBadContents, ⟨_, by unfold PySem.W.clsIn; rw [lBadContents] <;> rfl⟩, mrBadContents, suBadContents, sbBadContents, thi, tops, PySem.W.mg_none_of X G z_super, PySem.W.mg_of X G aBadContents⟩
  have FBadContents : XfC K XBadContents := ⟨gaBadContents, ggBadContents, ecBadContents, hdBadContents⟩
  have TBadChoices : XcF l.prog K mg "BadChoices" XBadChoices iBadChoices := ⟨⟨⟨_, _, _, _, _, _, _, _, _, _, _, _, _, _, _, lBadChoices, rBadChoices⟩, saBadChoices, ecBadChoices, tyBadChoices, kcBadChoices⟩, inBadChoices, tiBadChoices, ⟨_, by unfold PySem.W.clsIn; rw [lBadChoices] <;> rfl⟩, mrBadChoices, suBadChoices, sbBadChoices, thi, tops, PySem.W.mg_none_of X G z_super, PySem.W.mg_of X G aBadChoices⟩
  have FBadChoices : XfC K XBadChoices := ⟨gaBadChoices, ggBadChoices, ecBadChoices, hdBadChoices⟩
  have TNotInStep : XcF l.prog K mg "NotInStep" XNotInStep iNotInStep := ⟨⟨⟨_, _, _, _, _, _, _, _, _, _, _, _, _, _, _, lNotInStep, rNotInStep⟩, saNotInStep, ecNotInStep, tyNotInStep, kcNotInStep⟩, inNotInStep, tiNotInStep, ⟨_, by unfold PySem.W.clsIn; rw [lNotInStep] <;> rfl⟩, mrNotInStep, suNotInStep, sbNotInStep, thi, tops, PySem.W.mg_none_of X G z_super, PySem.W.mg_of X G aNotInStep⟩
  have FNotInStep : XfC K XNotInStep := ⟨gaNotInStep, ggNotInStep, ecNotInStep, hdNotInStep⟩
  have TNoPicture : XcF l.prog K mg "NoPicture" XNoPicture iNoPicture := ⟨⟨⟨_, _, _, _, _, _, _, _, _, _, _, _, _, _, _, lNoPicture, rNoPicture⟩, saNoPicture, ecNoPicture, tyNoPicture, kcNoPicture⟩, inNoPicture, tiNoPicture, ⟨_, by unfold PySem.W.clsIn; rw [lNoPicture] <;> rfl⟩, mrNoPicture, suNoPicture, sbNoPicture, thi, tops, PySem.W.mg_none_of X G z_super, PySem.W.mg_of X G aNoPicture⟩
  have FNoPicture : XfC K XNoPicture := ⟨gaNoPicture, ggNoPicture, ecNoPicture, hdNoPicture⟩
  have TNotMoving : XcF l.prog K mg "NotMoving" XNotMoving iNotMoving := ⟨⟨⟨_, _, _, _, _, _, _, _, _, _, _, _, _, _, _, lNotMoving, rNotMoving⟩, saNotMoving, ecNotMoving, tyNotMoving, kcNotMoving⟩, inNotMoving, tiNotMoving, ⟨_, by unfold PySem.W.clsIn; rw [lNotMoving] <;> rfl⟩, mrNotMoving, suNotMoving, sbNotMoving, thi, tops, PySem.W.mg_none_of X G z_super, PySem.W.mg_of X G aNotMoving⟩
  have FNotMoving : XfC K XNotMoving := ⟨gaNotMoving, ggNotMoving, ecNotMoving, hdNotMoving⟩
  have TBadChange : XcF l.prog K mg "BadChange" XBadChange iBadChange := ⟨⟨⟨_, _, _, _, _, _, _, _, _, _, _, _, _, _, _, lBadChange, rBadChange⟩, saBadChange, ecBadChange, tyBadChange, kcBadChange⟩, inBadChange, tiBadChange, ⟨_, by unfold PySem.W.clsIn; rw [lBadChange] <;> rfl⟩, mrBadChange, suBadChange, sbBadChange, thi, tops, PySem.W.mg_none_of X G z_super, PySem.W.mg_of X G aBadChange⟩
  have FBadChange : XfC K XBadChange := ⟨gaBadChange, ggBadChange, ecBadChange, hdBadChange⟩
  have TDifferentLists : XcF l.prog K mg "DifferentLists" XDifferentLists iDifferentLists := ⟨⟨⟨_, _, _, _, _, _, _, _, _, _, _, _, _, _, _, lDifferentLists, rDifferentLists⟩, saDifferentLists, ecDifferentLists, tyDifferentLists, kcDifferentLists⟩, inDifferentLists, tiDifferentLists, ⟨_, by unfold PySem.W.clsIn; rw [lDifferentLists] <;> rfl⟩, mrDifferentLists, suDifferentLists, sbDifferentLists, thi, tops, PySem.W.mg_none_of X G z_super, PySem.W.mg_of X G aDifferentLists⟩
  have FDifferentLists : XfC K XDifferentLists := ⟨gaDifferentLists, ggDifferentLists, ecDifferentLists, hdDifferentLists⟩
  have TBadNames : XcF l.prog K mg "BadNames" XBadNames iBadNames := ⟨⟨⟨_, _, _, _, _, _, _, _, _, _, _, _, _, _, _, lBadNames, rBadNames⟩, saBadNames, ecBadNames, tyBadNames, kcBadNames⟩, inBadNames, tiBadNames, ⟨_, by unfold PySem.W.clsIn; rw [lBadNames] <;> rfl⟩, mrBadNames, suBadNames, sbBadNames, thi, tops, PySem.W.mg_none_of X G z_super, PySem.W.mg_of X G aBadNames⟩
  have FBadNames : XfC K XBadNames := ⟨gaBadNames, ggBadNames, ecBadNames, hdBadNames⟩
  have TBadRow : XcF l.prog K mg "BadRow" XBadRow iBadRow := ⟨⟨⟨_, _, _, _, _, _, _, _, _, _, _, _, _, _, _, lBadRow, rBadRow⟩, saBadRow, ecBadRow, tyBadRow, kcBadRow⟩, inBadRow, tiBadRow, ⟨_, by unfold PySem.W.clsIn; rw [lBadRow] <;> rfl⟩, mrBadRow, suBadRow, sbBadRow, thi, tops, PySem.W.mg_none_of X G z_super, PySem.W.mg_of X G aBadRow⟩
  have FBadRow : XfC K XBadRow := ⟨gaBadRow, ggBadRow, ecBadRow, hdBadRow⟩
  have TNoName : XcF l.prog K mg "NoName" XNoName iNoName := ⟨⟨⟨_, _, _, _, _, _, _, _, _, _, _, _, _, _, _, lNoName, rNoName⟩, saNoName, ecNoName, tyNoName, kcNoName⟩, inNoName, tiNoName, ⟨_, by unfold PySem.W.clsIn; rw [lNoName] <;> rfl⟩, mrNoName, suNoName, sbNoName, thi, tops, PySem.W.mg_none_of X G z_super, PySem.W.mg_of X G aNoName⟩
  have FNoName : XfC K XNoName := ⟨gaNoName, ggNoName, ecNoName, hdNoName⟩
  have TSlipped : XcF l.prog K mg "Slipped" XSlipped iSlipped := ⟨⟨⟨_, _, _, _, _, _, _, _, _, _, _, _, _, _, _, lSlipped, rSlipped⟩, saSlipped, ecSlipped, tySlipped, kcSlipped⟩, inSlipped, tiSlipped, ⟨_, by unfold PySem.W.clsIn; rw [lSlipped] <;> rfl⟩, mrSlipped, suSlipped, sbSlipped, thi, tops, PySem.W.mg_none_of X G z_super, PySem.W.mg_of X G aSlipped⟩
  have FSlipped : XfC K XSlipped := ⟨gaSlipped, ggSlipped, ecSlipped, hdSlipped⟩
  refine ⟨PySem.W.fnOf "law" "law" (defArgs s_law) (defBody s_law) (defScope s_law) .none kVlaw dclaw pmlaw anlaw cdlaw ctlaw, [], spLaw K, (fun _ hp => nomatch hp), (fun _ hp => nomatch hp), (fun _ hp => nomatch hp), fun s v => .of_eq rfl, fun H a ns hl _ hH hS => ?_, fun base _ _ hTB => ?_⟩
  · refine ⟨a, ns, rfl, hS, hl, (fun _ hp => nomatch hp), fun _ => rfl⟩
  have QBadMove : Xc l.prog w K mg base 1 "BadMove" XBadMove ["at"] := ok_x1 TBadMove fnBadMove cdBadMove (nscope_by (by decide +kernel)) rfl rfl ⟨_, _, _, _, _, _, coBadMove, fiBadMove, flBadMove⟩ ⟨_, _, _, ceBadMove⟩ rfl noBadMove_at (by decide) (by decide) (.all fun us hl => match us, hl with | [_, _], _ => rfl)
  have QNoPlace : Xc l.prog w K mg base 1 "NoPlace" XNoPlace ["place"] := ok_x1 TNoPlace fnNoPlace cdNoPlace (nscope_by (by decide +kernel)) rfl rfl ⟨_, _, _, _, _, _, coNoPlace, fiNoPlace, flNoPlace⟩ ⟨_, _, _, ceNoPlace⟩ rfl noNoPlace_place (by decide) (by decide) (.all fun us hl => match us, hl with | [_, _], _ => rfl)
  have QMismatch : Xc l.prog w K mg base 1 "Mismatch" XMismatch ["wanted", "got"] := ok_x2 TMismatch fnMismatch cdMismatch (nscope_by (by decide +kernel)) rfl rfl ⟨_, _, _, _, _, _, coMismatch, fiMismatch, flMismatch⟩ ⟨_, _, _, ceMismatch⟩ rfl noMismatch_wanted noMismatch_got (by decide) (by decide) (by decide) (by decide) (.all fun us hl => match us, hl with | [_, _, _], _ => rfl)
  have QBadLine : Xc l.prog w K mg base 1 "BadLine" XBadLine ["at"] := ok_x1 TBadLine fnBadLine cdBadLine (nscope_by (by decide +kernel)) rfl rfl ⟨_, _, _, _, _, _, coBadLine, fiBadLine, flBadLine⟩ ⟨_, _, _, ceBadLine⟩ rfl noBadLine_at (by decide) (by decide) (.all fun us hl => match us, hl with | [_, _], _ => rfl)
  have QBadContents : Xc l.prog w K mg base 1 "BadContents" XBadContents ["at"] := ok_x1 TBadContents fnBadContents cdBadContents (nscope_by (by decide +kernel)) rfl rfl ⟨_, _, _, _, _, _, coBadContents, fiBadContents, flBadContents⟩ ⟨_, _, _, ceBadContents⟩ rfl noBadContents_at (by decide) (by decide) (.all fun us hl => match us, hl with | [_, _], _ => rfl)
  have QBadChoices : Xc l.prog w K mg base 1 "BadChoices" XBadChoices ["at"] := ok_x1 TBadChoices fnBadChoices cdBadChoices (nscope_by (by decide +kernel)) rfl rfl ⟨_, _, _, _, _, _, coBadChoices, fiBadChoices, flBadChoices⟩ ⟨_, _, _, ceBadChoices⟩ rfl noBadChoices_at (by decide) (by decide) (.all fun us hl => match us, hl with | [_, _], _ => rfl)
  have QNotInStep : Xc l.prog w K mg base 1 "NotInStep" XNotInStep ["slip"] := ok_x1 TNotInStep fnNotInStep cdNotInStep (nscope_by (by decide +kernel)) rfl rfl ⟨_, _, _, _, _, _, coNotInStep, fiNotInStep, flNotInStep⟩ ⟨_, _, _, ceNotInStep⟩ rfl noNotInStep_slip (by decide) (by decide) (.all fun us hl => match us, hl with | [_, _], _ => rfl)
  have QNoPicture : Xc l.prog w K mg base 1 "NoPicture" XNoPicture ["picture"] := ok_x1 TNoPicture fnNoPicture cdNoPicture (nscope_by (by decide +kernel)) rfl rfl ⟨_, _, _, _, _, _, coNoPicture, fiNoPicture, flNoPicture⟩ ⟨_, _, _, ceNoPicture⟩ rfl noNoPicture_picture (by decide) (by decide) (.all fun us hl => match us, hl with | [_, _], _ => rfl)
  have QNotMoving : Xc l.prog w K mg base 1 "NotMoving" XNotMoving ["at"] := ok_x1 TNotMoving fnNotMoving cdNotMoving (nscope_by (by decide +kernel)) rfl rfl ⟨_, _, _, _, _, _, coNotMoving, fiNotMoving, flNotMoving⟩ ⟨_, _, _, ceNotMoving⟩ rfl noNotMoving_at (by decide) (by decide) (.all fun us hl => match us, hl with | [_, _], _ => rfl)
  have QBadChange : Xc l.prog w K mg base 1 "BadChange" XBadChange ["change"] := ok_x1 TBadChange fnBadChange cdBadChange (nscope_by (by decide +kernel)) rfl rfl ⟨_, _, _, _, _, _, coBadChange, fiBadChange, flBadChange⟩ ⟨_, _, _, ceBadChange⟩ rfl noBadChange_change (by decide) (by decide) (.all fun us hl => match us, hl with | [_, _], _ => rfl)
  have QDifferentLists : Xc l.prog w K mg base 1 "DifferentLists" XDifferentLists ["one", "other"] := ok_x2 TDifferentLists fnDifferentLists cdDifferentLists (nscope_by (by decide +kernel)) rfl rfl ⟨_, _, _, _, _, _, coDifferentLists, fiDifferentLists, flDifferentLists⟩ ⟨_, _, _, ceDifferentLists⟩ rfl noDifferentLists_one noDifferentLists_other (by decide) (by decide) (by decide) (by decide) (.all fun us hl => match us, hl with | [_, _, _], _ => rfl)
  have QBadNames : Xc l.prog w K mg base 1 "BadNames" XBadNames ["at"] := ok_x1 TBadNames fnBadNames cdBadNames (nscope_by (by decide +kernel)) rfl rfl ⟨_, _, _, _, _, _, coBadNames, fiBadNames, flBadNames⟩ ⟨_, _, _, ceBadNames⟩ rfl noBadNames_at (by decide) (by decide) (.all fun us hl => match us, hl with | [_, _], _ => rfl)
  have QBadRow : Xc l.prog w K mg base 1 "BadRow" XBadRow ["at"] := ok_x1 TBadRow fnBadRow cdBadRow (nscope_by (by decide +kernel)) rfl rfl ⟨_, _, _, _, _, _, coBadRow, fiBadRow, flBadRow⟩ ⟨_, _, _, ceBadRow⟩ rfl noBadRow_at (by decide) (by decide) (.all fun us hl => match us, hl with | [_, _], _ => rfl)
  have QNoName : Xc l.prog w K mg base 1 "NoName" XNoName ["name"] := ok_x1 TNoName fnNoName cdNoName (nscope_by (by decide +kernel)) rfl rfl ⟨_, _, _, _, _, _, coNoName, fiNoName, flNoName⟩ ⟨_, _, _, ceNoName⟩ rfl noNoName_name (by decide) (by decide) (.all fun us hl => match us, hl with | [_, _], _ => rfl)
  have QSlipped : Xc l.prog w K mg base 1 "Slipped" XSlipped ["slip"] := ok_x1 TSlipped fnSlipped cdSlipped (nscope_by (by decide +kernel)) rfl rfl ⟨_, _, _, _, _, _, coSlipped, fiSlipped, flSlipped⟩ ⟨_, _, _, ceSlipped⟩ rfl noSlipped_slip (by decide) (by decide) (.all fun us hl => match us, hl with | [_, _], _ => rfl)
  have KM : XcK l.prog w K mg base 1 "Mismatch" XMismatch ["wanted", "got"] ["got", "wanted"] swapV := okk_x2 (g := swapG) TMismatch fnMismatch cdMismatch (nscope_by (by decide +kernel)) rfl rfl ⟨_, _, _, _, _, _, coMismatch, fiMismatch, flMismatch⟩ ⟨_, _, _, ceMismatch⟩ rfl noMismatch_wanted noMismatch_got (by decide) (by decide) (by decide) (by decide) ⟨fun s us ws _ h1 h2 => .of_eq (match us, ws, h1, h2 with | [_], [_, _], _, _ => rfl), fun r1 r2 => swap_rel r1 r2⟩
  have KD : XcK l.prog w K mg base 1 "DifferentLists" XDifferentLists ["one", "other"] ["other", "one"] swapV := okk_x2 (g := swapG) TDifferentLists fnDifferentLists cdDifferentLists (nscope_by (by decide +kernel)) rfl rfl ⟨_, _, _, _, _, _, coDifferentLists, fiDifferentLists, flDifferentLists⟩ ⟨_, _, _, ceDifferentLists⟩ rfl noDifferentLists_one noDifferentLists_other (by decide) (by decide) (by decide) (by decide) ⟨fun s us ws _ h1 h2 => .of_eq (match us, ws, h1, h2 with | [_], [_, _], _, _ => rfl), fun r1 r2 => swap_rel r1 r2⟩
  have KN : XcK l.prog w K mg base 1 "NoPicture" XNoPicture ["picture"] ["picture"] (fun vs zs => vs ++ zs) := okk_x1 (g := (fun us ws => us ++ ws)) TNoPicture fnNoPicture cdNoPicture (nscope_by (by decide +kernel)) rfl rfl ⟨_, _, _, _, _, _, coNoPicture, fiNoPicture, flNoPicture⟩ ⟨_, _, _, ceNoPicture⟩ rfl noNoPicture_picture (by decide) (by decide) ⟨fun s us ws _ h1 h2 => .of_eq (match us, ws, h1, h2 with | [_], [_], _, _ => rfl), fun r1 r2 => r1.append r2⟩
  have TX : TxtX l.prog w K mg base (ECof [XBadMove, XNoPlace, XMismatch, XBadLine, XBadContents, XBadChoices, XNotInStep, XNoPicture, XNotMoving, XBadChange, XDifferentLists, XBadNames, XBadRow, XNoName, XSlipped, XSE]) := ⟨QBadMove, QNoPlace, QMismatch, QBadLine, QBadContents, QBadChoices, QNotInStep, QNoPicture, QNotMoving, QBadChange, QDifferentLists, QBadNames, QBadRow, QNoName, QSlipped, KM, KD, KN, PySem.W.mg_of X G aBadMove, PySem.W.mg_of X G aNoPlace, PySem.W.mg_of X G aMismatch, PySem.W.mg_of X G aBadLine, PySem.W.mg_of X G aBadContents, PySem.W.mg_of X G aBadChoices, PySem.W.mg_of X G aNotInStep, PySem.W.mg_of X G aNoPicture, PySem.W.mg_of X G aNotMoving, PySem.W.mg_of X G aBadChange, PySem.W.mg_of X G aDifferentLists, PySem.W.mg_of X G aBadNames, PySem.W.mg_of X G aBadRow, PySem.W.mg_of X G aNoName, PySem.W.mg_of X G aSlipped, PySem.W.mg_of X G aSE, noBadMove_at, noNoPlace_place, noMismatch_wanted, noMismatch_got, noBadLine_at, noBadContents_at, noBadChoices_at, noNotInStep_slip, noNoPicture_picture, noNotMoving_at, noBadChange_change, noDifferentLists_one, noDifferentLists_other, noBadNames_at, noBadRow_at, noNoName_name, noSlipped_slip, fun k hk => match k, hk with | 0, _ => exvC_of exc (by show _ ∈ _; simp [ECof]) FBadMove xcn xct | 1, _ => exvC_of exc (by show _ ∈ _; simp [ECof]) FNoPlace xcn xct | 2, _ => exvC_of exc (by show _ ∈ _; simp [ECof]) FMismatch xcn xct | 3, _ => exvC_of exc (by show _ ∈ _; simp [ECof]) FBadLine xcn xct | 4, _ => exvC_of exc (by show _ ∈ _; simp [ECof]) FBadContents xcn xct | 5, _ => exvC_of exc (by show _ ∈ _; simp [ECof]) FBadChoices xcn xct | 6, _ => exvC_of exc (by show _ ∈ _; simp [ECof]) FNotInStep xcn xct | 7, _ => exvC_of exc (by show _ ∈ _; simp [ECof]) FNoPicture xcn xct | 8, _ => exvC_of exc (by show _ ∈ _; simp [ECof]) FNotMoving xcn xct | 9, _ => exvC_of exc (by show _ ∈ _; simp [ECof]) FBadChange xcn xct | 10, _ => exvC_of exc (by show _ ∈ _; simp [ECof]) FDifferentLists xcn xct | 11, _ => exvC_of exc (by show _ ∈ _; simp [ECof]) FBadNames xcn xct | 12, _ => exvC_of exc (by show _ ∈ _; simp [ECof]) FBadRow xcn xct | 13, _ => exvC_of exc (by show _ ∈ _; simp [ECof]) FNoName xcn xct | 14, _ => exvC_of exc (by show _ ∈ _; simp [ECof]) FSlipped xcn xct | k + 15, h => absurd h (by omega), exIs_at xis, exIsV_at xisS, exIsV_at xisV, B.n_isinstance, B.n_len, B.n_range, PySem.W.mg_none_of X G z_ValueError⟩
  have D1 : Cl l.prog w K mg base CX0 1 "_law_bag" (spBag K) := ⟨_, ok_bag (fun_mk (st := s_bag) lbag cbag kbag) B, PySem.W.mg_of X G abag, kbag⟩
  have D2 : Cl l.prog w K mg base CX0 1 "_law_take" (spTake) := ⟨_, ok_take (fun_mk (st := s_take) ltake ctake ktake) B, PySem.W.mg_of X G atake, ktake⟩
  have D3 : Cl l.prog w K mg base CX0 2 "_law_of" (spOf K) := ⟨_, ok_of (fun_mk (st := s_of) lof cof kof) B D2, PySem.W.mg_of X G aof, kof⟩
  have D4 : Cl l.prog w K mg base CX0 1 "_law_kinds" (spKinds [] (ECof [XBadMove, XNoPlace, XMismatch, XBadLine, XBadContents, XBadChoices, XNotInStep, XNoPicture, XNotMoving, XBadChange, XDifferentLists, XBadNames, XBadRow, XNoName, XSlipped, XSE])) := ⟨_, ok_kinds (fun_mk (st := s_kinds) lkinds ckinds kkinds) TX, PySem.W.mg_of X G akinds, kkinds⟩
  have D5 : Cl l.prog w K mg base CX0 3 "_law_fields_right" (spFields [] K) := ⟨_, ok_fields_right (fun_mk (st := s_fields_right) lfields_right cfields_right kfields_right) TX, PySem.W.mg_of X G afields_right, kfields_right⟩
  have D6 : Cl l.prog w K mg base CX0 3 "_law_classes_right" (spClasses []) := ⟨_, ok_classes_right (fun_mk (st := s_classes_right) lclasses_right cclasses_right kclasses_right) B TX D4, PySem.W.mg_of X G aclasses_right, kclasses_right⟩
  have M1 : Ml l.prog w K mg base (L2.CX l.prog w) 3 "Program" CP (spPgI [] K (ECof [XBadMove, XNoPlace, XMismatch, XBadLine, XBadContents, XBadChoices, XNotInStep, XNoPicture, XNotMoving, XBadChange, XDifferentLists, XBadNames, XBadRow, XNoName, XSlipped, XSE])) := ⟨_, ⟨mkCP, apg_init, ipg_init, kcCP⟩, ok_pginit (fun_mk (st := s_pg_init) lpg_init cpg_init kpg_init) B TX, PySem.W.mg_of X G aCP⟩
  have D7 : Cl l.prog w K mg base CX0 5 "_law_refused" (spRefd []) := ⟨_, ok_refused (fun_mk (st := s_refused) lrefused crefused krefused) B TX M1 exm, PySem.W.mg_of X G arefused, krefused⟩
  exact ok_law [] (fun_mk (st := s_law) llaw claw klaw) B TX D1 D2 D3 D5 D6 D7
end MV
open PySem PySem.W PyProof.Rows
set_option maxRecDepth 100000 in
set_option maxHeartbeats 0 in
theorem PySem.Challenge.cw_sidelists_k05_errors_holds : PySem.Challenge.rw_sidelists_k05_errors.Holds := by
  w_on; o_law; k_head; (case hw => w_witness2)
  k_fill
  refine LamX.walk_ofTs (l := PySem.Challenge.rw_sidelists_k05_errors) (n := 63) (k := 6) (x := "_law_script") (CX := fun _ => C8.CX0) rfl (by decide) rfl ⟨rfl, by decide, by decide⟩ (fun w h Y => PySem.W.kIn_of Y) ?F (fun _ _ _ _ _ z => z)
  case F =>
    intro w mg fa h Y KX G hmg
    refine' MV.all_mk KX G hmg ?abag ?lbag ?cbag ?kbag ?atake ?ltake ?ctake ?ktake ?aof ?lof ?cof ?kof ?akinds ?lkinds ?ckinds ?kkinds ?afields_right ?lfields_right ?cfields_right ?kfields_right ?aclasses_right ?lclasses_right ?cclasses_right ?kclasses_right ?arefused ?lrefused ?crefused ?krefused ?alaw ?llaw ?claw ?klaw ?aCP ?apg_init ?ipg_init ?lpg_init ?cpg_init ?kpg_init ?pgCP ?hdCP ?poCP ?saCP ?mkCP ?kcCP ?aBadMove ?lBadMove ?rBadMove ?saBadMove ?ecBadMove ?tyBadMove ?kcBadMove ?inBadMove ?tiBadMove ?mrBadMove ?suBadMove ?sbBadMove ?fnBadMove ?cdBadMove ?coBadMove ?fiBadMove ?flBadMove ?ceBadMove ?noBadMove_at ?gaBadMove ?ggBadMove ?hdBadMove ?aNoPlace ?lNoPlace ?rNoPlace ?saNoPlace ?ecNoPlace ?tyNoPlace ?kcNoPlace ?inNoPlace ?tiNoPlace ?mrNoPlace ?suNoPlace ?sbNoPlace ?fnNoPlace ?cdNoPlace ?coNoPlace ?fiNoPlace ?flNoPlace ?ceNoPlace ?noNoPlace_place ?gaNoPlace ?ggNoPlace ?hdNoPlace ?aMismatch ?lMismatch ?rMismatch ?saMismatch ?ecMismatch ?tyMismatch ?kcMismatch ?inMismatch ?tiMismatch ?mrMismatch ?suMismatch ?sbMismatch ?fnMismatch ?cdMismatch ?coMismatch ?fiMismatch ?flMismatch ?ceMismatch ?noMismatch_wanted ?noMismatch_got ?gaMismatch ?ggMismatch ?hdMismatch ?aBadLine ?lBadLine ?rBadLine ?saBadLine ?ecBadLine ?tyBadLine ?kcBadLine ?inBadLine ?tiBadLine ?mrBadLine ?suBadLine ?sbBadLine ?fnBadLine ?cdBadLine ?coBadLine ?fiBadLine ?flBadLine ?ceBadLine ?noBadLine_at ?gaBadLine ?ggBadLine ?hdBadLine ?aBadContents ?lBadContents ?rBadContents ?saBadContents ?ecBadContents ?tyBadContents ?kcBadContents ?inBadContents ?tiBadContents ?mrBadContents ?suBadContents ?sbBadContents ?fnBadContents ?cdBadContents ?coBadContents ?fiBadContents ?flBadContents ?ceBadContents ?noBadContents_at ?gaBadContents ?ggBadContents ?hdBadContents ?aBadChoices ?lBadChoices ?rBadChoices ?saBadChoices ?ecBadChoices ?tyBadChoices ?kcBadChoices ?inBadChoices ?tiBadChoices ?mrBadChoices ?suBadChoices ?sbBadChoices ?fnBadChoices ?cdBadChoices ?coBadChoices ?fiBadChoices ?flBadChoices ?ceBadChoices ?noBadChoices_at ?gaBadChoices ?ggBadChoices ?hdBadChoices ?aNotInStep ?lNotInStep ?rNotInStep ?saNotInStep ?ecNotInStep ?tyNotInStep ?kcNotInStep ?inNotInStep ?tiNotInStep ?mrNotInStep ?suNotInStep ?sbNotInStep ?fnNotInStep ?cdNotInStep ?coNotInStep ?fiNotInStep ?flNotInStep ?ceNotInStep ?noNotInStep_slip ?gaNotInStep ?ggNotInStep ?hdNotInStep ?aNoPicture ?lNoPicture ?rNoPicture ?saNoPicture ?ecNoPicture ?tyNoPicture ?kcNoPicture ?inNoPicture ?tiNoPicture ?mrNoPicture ?suNoPicture ?sbNoPicture ?fnNoPicture ?cdNoPicture ?coNoPicture ?fiNoPicture ?flNoPicture ?ceNoPicture ?noNoPicture_picture ?gaNoPicture ?ggNoPicture ?hdNoPicture ?aNotMoving ?lNotMoving ?rNotMoving ?saNotMoving ?ecNotMoving ?tyNotMoving ?kcNotMoving ?inNotMoving ?tiNotMoving ?mrNotMoving ?suNotMoving ?sbNotMoving ?fnNotMoving ?cdNotMoving ?coNotMoving ?fiNotMoving ?flNotMoving ?ceNotMoving ?noNotMoving_at ?gaNotMoving ?ggNotMoving ?hdNotMoving ?aBadChange ?lBadChange ?rBadChange ?saBadChange ?ecBadChange ?tyBadChange ?kcBadChange ?inBadChange ?tiBadChange ?mrBadChange ?suBadChange ?sbBadChange ?fnBadChange ?cdBadChange ?coBadChange ?fiBadChange ?flBadChange ?ceBadChange ?noBadChange_change ?gaBadChange ?ggBadChange ?hdBadChange ?aDifferentLists ?lDifferentLists ?rDifferentLists ?saDifferentLists ?ecDifferentLists ?tyDifferentLists ?kcDifferentLists ?inDifferentLists ?tiDifferentLists ?mrDifferentLists ?suDifferentLists ?sbDifferentLists ?fnDifferentLists ?cdDifferentLists ?coDifferentLists ?fiDifferentLists ?flDifferentLists ?ceDifferentLists ?noDifferentLists_one ?noDifferentLists_other ?gaDifferentLists ?ggDifferentLists ?hdDifferentLists ?aBadNames ?lBadNames ?rBadNames ?saBadNames ?ecBadNames ?tyBadNames ?kcBadNames ?inBadNames ?tiBadNames ?mrBadNames ?suBadNames ?sbBadNames ?fnBadNames ?cdBadNames ?coBadNames ?fiBadNames ?flBadNames ?ceBadNames ?noBadNames_at ?gaBadNames ?ggBadNames ?hdBadNames ?aBadRow ?lBadRow ?rBadRow ?saBadRow ?ecBadRow ?tyBadRow ?kcBadRow ?inBadRow ?tiBadRow ?mrBadRow ?suBadRow ?sbBadRow ?fnBadRow ?cdBadRow ?coBadRow ?fiBadRow ?flBadRow ?ceBadRow ?noBadRow_at ?gaBadRow ?ggBadRow ?hdBadRow ?aNoName ?lNoName ?rNoName ?saNoName ?ecNoName ?tyNoName ?kcNoName ?inNoName ?tiNoName ?mrNoName ?suNoName ?sbNoName ?fnNoName ?cdNoName ?coNoName ?fiNoName ?flNoName ?ceNoName ?noNoName_name ?gaNoName ?ggNoName ?hdNoName ?aSlipped ?lSlipped ?rSlipped ?saSlipped ?ecSlipped ?tySlipped ?kcSlipped ?inSlipped ?tiSlipped ?mrSlipped ?suSlipped ?sbSlipped ?fnSlipped ?cdSlipped ?coSlipped ?fiSlipped ?flSlipped ?ceSlipped ?noSlipped_slip ?gaSlipped ?ggSlipped ?hdSlipped ?thi ?z_super ?tops ?exa ?exn ?z_len ?z_abs ?z_int ?z_range ?z_list ?z_tuple ?z_str ?z_max ?z_min ?z_enumerate ?z_isinstance ?z_ValueError ?aSE ?exc ?xis ?xisS ?xisV ?xcn ?xct ?exm
    (case abag => k_is)
    (case lbag => k_is)
    (case cbag => k_is)
    (case kbag => k_is)
    (case atake => k_is)
    (case ltake => k_is)
    (case ctake => k_is)
    (case ktake => k_is)
    (case aof => k_is)
    (case lof => k_is)
    (case cof => k_is)
    (case kof => k_is)
    (case akinds => k_is)
    (case lkinds => k_is)
    (case ckinds => k_is)
    (case kkinds => k_is)
    (case afields_right => k_is)
    (case lfields_right => k_is)
    (case cfields_right => k_is)
    (case kfields_right => k_is)
    (case aclasses_right => k_is)
    (case lclasses_right => k_is)
    (case cclasses_right => k_is)
    (case kclasses_right => k_is)
    (case arefused => k_is)
    (case lrefused => k_is)
    (case crefused => k_is)
    (case krefused => k_is)
    (case alaw => k_is)
    (case llaw => k_is)
    (case claw => k_is)
    (case klaw => k_is)
    (case aCP => k_is)
    (case apg_init => k_is)
    (case ipg_init => k_is)
    (case lpg_init => k_is)
    (case cpg_init => k_is)
    (case kpg_init => k_is)
    (case pgCP => k_is)
    (case hdCP => k_is)
    (case poCP => k_is)
    (case saCP => k_is)
    (case mkCP => k_is)
    (case kcCP => k_is)
    (case aBadMove => k_is)
    (case lBadMove => k_is)
    (case rBadMove => rfl)
    (case saBadMove => k_is)
    (case ecBadMove => k_is)
    (case tyBadMove => k_is)
    (case kcBadMove => k_is)
    (case inBadMove => k_is)
    (case tiBadMove => k_is)
    (case mrBadMove => k_is)
    (case suBadMove => ks_is)
    (case sbBadMove => k_is)
    (case fnBadMove => k_is)
    (case cdBadMove => k_is)
    (case coBadMove => k_is)
    (case fiBadMove => rfl)
    (case flBadMove => first | rfl | decide +kernel | kernel_rfl)
    (case ceBadMove => k_is)
    (case noBadMove_at => k_is)
    (case gaBadMove => k_is)
    (case ggBadMove => k_is)
    (case hdBadMove => k_is)
    (case aNoPlace => k_is)
    (case lNoPlace => k_is)
    (case rNoPlace => rfl)
    (case saNoPlace => k_is)
    (case ecNoPlace => k_is)
    (case tyNoPlace => k_is)
    (case kcNoPlace => k_is)
    (case inNoPlace => k_is)
    (case tiNoPlace => k_is)
    (case mrNoPlace => k_is)
    (case suNoPlace => ks_is)
    (case sbNoPlace => k_is)
    (case fnNoPlace => k_is)
    (case cdNoPlace => k_is)
    (case coNoPlace => k_is)
    (case fiNoPlace => rfl)
    (case flNoPlace => first | rfl | decide +kernel | kernel_rfl)
    (case ceNoPlace => k_is)
    (case noNoPlace_place => k_is)
    (case gaNoPlace => k_is)
    (case ggNoPlace => k_is)
    (case hdNoPlace => k_is)
    (case aMismatch => k_is)
    (case lMismatch => k_is)
    (case rMismatch => rfl)
    (case saMismatch => k_is)
    (case ecMismatch => k_is)
    (case tyMismatch => k_is)
    (case kcMismatch => k_is)
    (case inMismatch => k_is)
    (case tiMismatch => k_is)
    (case mrMismatch => k_is)
    (case suMismatch => ks_is)
    (case sbMismatch => k_is)
    (case fnMismatch => k_is)
    (case cdMismatch => k_is)
    (case coMismatch => k_is)
    (case fiMismatch => rfl)
    (case flMismatch => first | rfl | decide +kernel | kernel_rfl)
    (case ceMismatch => k_is)
    (case noMismatch_wanted => k_is)
    (case noMismatch_got => k_is)
    (case gaMismatch => k_is)
    (case ggMismatch => k_is)
    (case hdMismatch => k_is)
    (case aBadLine => k_is)
    (case lBadLine => k_is)
    (case rBadLine => rfl)
    (case saBadLine => k_is)
    (case ecBadLine => k_is)
    (case tyBadLine => k_is)
    (case kcBadLine => k_is)
    (case inBadLine => k_is)
    (case tiBadLine => k_is)
    (case mrBadLine => k_is)
    (case suBadLine => ks_is)
    (case sbBadLine => k_is)
    (case fnBadLine => k_is)
    (case cdBadLine => k_is)
    (case coBadLine => k_is)
    (case fiBadLine => rfl)
    (case flBadLine => first | rfl | decide +kernel | kernel_rfl)
    (case ceBadLine => k_is)
    (case noBadLine_at => k_is)
    (case gaBadLine => k_is)
    (case ggBadLine => k_is)
    (case hdBadLine => k_is)
    (case aBadContents => k_is)
    (case lBadContents => k_is)
    (case rBadContents => rfl)
    (case saBadContents => k_is)
    (case ecBadContents => k_is)
    (case tyBadContents => k_is)
    (case kcBadContents => k_is)
    (case inBadContents => k_is)
    (case tiBadContents => k_is)
    (case mrBadContents => k_is)
    (case suBadContents => ks_is)
    (case sbBadContents => k_is)
    (case fnBadContents => k_is)
    (case cdBadContents => k_is)
    (case coBadContents => k_is)
    (case fiBadContents => rfl)
    (case flBadContents => first | rfl | decide +kernel | kernel_rfl)
    (case ceBadContents => k_is)
    (case noBadContents_at => k_is)
    (case gaBadContents => k_is)
    (case ggBadContents => k_is)
    (case hdBadContents => k_is)
    (case aBadChoices => k_is)
    (case lBadChoices => k_is)
    (case rBadChoices => rfl)
    (case saBadChoices => k_is)
    (case ecBadChoices => k_is)
    (case tyBadChoices => k_is)
    (case kcBadChoices => k_is)
    (case inBadChoices => k_is)
    (case tiBadChoices => k_is)
    (case mrBadChoices => k_is)
    (case suBadChoices => ks_is)
    (case sbBadChoices => k_is)
    (case fnBadChoices => k_is)
    (case cdBadChoices => k_is)
    (case coBadChoices => k_is)
    (case fiBadChoices => rfl)
    (case flBadChoices => first | rfl | decide +kernel | kernel_rfl)
    (case ceBadChoices => k_is)
    (case noBadChoices_at => k_is)
    (case gaBadChoices => k_is)
    (case ggBadChoices => k_is)
    (case hdBadChoices => k_is)
    (case aNotInStep => k_is)
    (case lNotInStep => k_is)
    (case rNotInStep => rfl)
    (case saNotInStep => k_is)
    (case ecNotInStep => k_is)
    (case tyNotInStep => k_is)
    (case kcNotInStep => k_is)
    (case inNotInStep => k_is)
    (case tiNotInStep => k_is)
    (case mrNotInStep => k_is)
    (case suNotInStep => ks_is)
    (case sbNotInStep => k_is)
    (case fnNotInStep => k_is)
    (case cdNotInStep => k_is)
    (case coNotInStep => k_is)
    (case fiNotInStep => rfl)
    (case flNotInStep => first | rfl | decide +kernel | kernel_rfl)
    (case ceNotInStep => k_is)
    (case noNotInStep_slip => k_is)
    (case gaNotInStep => k_is)
    (case ggNotInStep => k_is)
    (case hdNotInStep => k_is)
    (case aNoPicture => k_is)
    (case lNoPicture => k_is)
    (case rNoPicture => rfl)
    (case saNoPicture => k_is)
    (case ecNoPicture => k_is)
    (case tyNoPicture => k_is)
    (case kcNoPicture => k_is)
    (case inNoPicture => k_is)
    (case tiNoPicture => k_is)
    (case mrNoPicture => k_is)
    (case suNoPicture => ks_is)
    (case sbNoPicture => k_is)
    (case fnNoPicture => k_is)
    (case cdNoPicture => k_is)
    (case coNoPicture => k_is)
    (case fiNoPicture => rfl)
    (case flNoPicture => first | rfl | decide +kernel | kernel_rfl)
    (case ceNoPicture => k_is)
    (case noNoPicture_picture => k_is)
    (case gaNoPicture => k_is)
    (case ggNoPicture => k_is)
    (case hdNoPicture => k_is)
    (case aNotMoving => k_is)
    (case lNotMoving => k_is)
    (case rNotMoving => rfl)
    (case saNotMoving => k_is)
    (case ecNotMoving => k_is)
    (case tyNotMoving => k_is)
    (case kcNotMoving => k_is)
    (case inNotMoving => k_is)
    (case tiNotMoving => k_is)
    (case mrNotMoving => k_is)
    (case suNotMoving => ks_is)
    (case sbNotMoving => k_is)
    (case fnNotMoving => k_is)
    (case cdNotMoving => k_is)
    (case coNotMoving => k_is)
    (case fiNotMoving => rfl)
    (case flNotMoving => first | rfl | decide +kernel | kernel_rfl)
    (case ceNotMoving => k_is)
    (case noNotMoving_at => k_is)
    (case gaNotMoving => k_is)
    (case ggNotMoving => k_is)
    (case hdNotMoving => k_is)
    (case aBadChange => k_is)
    (case lBadChange => k_is)
    (case rBadChange => rfl)
    (case saBadChange => k_is)
    (case ecBadChange => k_is)
    (case tyBadChange => k_is)
    (case kcBadChange => k_is)
    (case inBadChange => k_is)
    (case tiBadChange => k_is)
    (case mrBadChange => k_is)
    (case suBadChange => ks_is)
    (case sbBadChange => k_is)
    (case fnBadChange => k_is)
    (case cdBadChange => k_is)
    (case coBadChange => k_is)
    (case fiBadChange => rfl)
    (case flBadChange => first | rfl | decide +kernel | kernel_rfl)
    (case ceBadChange => k_is)
    (case noBadChange_change => k_is)
    (case gaBadChange => k_is)
    (case ggBadChange => k_is)
    (case hdBadChange => k_is)
    (case aDifferentLists => k_is)
    (case lDifferentLists => k_is)
    (case rDifferentLists => rfl)
    (case saDifferentLists => k_is)
    (case ecDifferentLists => k_is)
    (case tyDifferentLists => k_is)
    (case kcDifferentLists => k_is)
    (case inDifferentLists => k_is)
    (case tiDifferentLists => k_is)
    (case mrDifferentLists => k_is)
    (case suDifferentLists => ks_is)
    (case sbDifferentLists => k_is)
    (case fnDifferentLists => k_is)
    (case cdDifferentLists => k_is)
    (case coDifferentLists => k_is)
    (case fiDifferentLists => rfl)
    (case flDifferentLists => first | rfl | decide +kernel | kernel_rfl)
    (case ceDifferentLists => k_is)
    (case noDifferentLists_one => k_is)
    (case noDifferentLists_other => k_is)
    (case gaDifferentLists => k_is)
    (case ggDifferentLists => k_is)
    (case hdDifferentLists => k_is)
    (case aBadNames => k_is)
    (case lBadNames => k_is)
    (case rBadNames => rfl)
    (case saBadNames => k_is)
    (case ecBadNames => k_is)
    (case tyBadNames => k_is)
    (case kcBadNames => k_is)
    (case inBadNames => k_is)
    (case tiBadNames => k_is)
    (case mrBadNames => k_is)
    (case suBadNames => ks_is)
    (case sbBadNames => k_is)
    (case fnBadNames => k_is)
    (case cdBadNames => k_is)
    (case coBadNames => k_is)
    (case fiBadNames => rfl)
    (case flBadNames => first | rfl | decide +kernel | kernel_rfl)
    (case ceBadNames => k_is)
    (case noBadNames_at => k_is)
    (case gaBadNames => k_is)
    (case ggBadNames => k_is)
    (case hdBadNames => k_is)
    (case aBadRow => k_is)
    (case lBadRow => k_is)
    (case rBadRow => rfl)
    (case saBadRow => k_is)
    (case ecBadRow => k_is)
    (case tyBadRow => k_is)
    (case kcBadRow => k_is)
    (case inBadRow => k_is)
    (case tiBadRow => k_is)
    (case mrBadRow => k_is)
    (case suBadRow => ks_is)
    (case sbBadRow => k_is)
    (case fnBadRow => k_is)
    (case cdBadRow => k_is)
    (case coBadRow => k_is)
    (case fiBadRow => rfl)
    (case flBadRow => first | rfl | decide +kernel | kernel_rfl)
    (case ceBadRow => k_is)
    (case noBadRow_at => k_is)
    (case gaBadRow => k_is)
    (case ggBadRow => k_is)
    (case hdBadRow => k_is)
    (case aNoName => k_is)
    (case lNoName => k_is)
    (case rNoName => rfl)
    (case saNoName => k_is)
    (case ecNoName => k_is)
    (case tyNoName => k_is)
    (case kcNoName => k_is)
    (case inNoName => k_is)
    (case tiNoName => k_is)
    (case mrNoName => k_is)
    (case suNoName => ks_is)
    (case sbNoName => k_is)
    (case fnNoName => k_is)
    (case cdNoName => k_is)
    (case coNoName => k_is)
    (case fiNoName => rfl)
    (case flNoName => first | rfl | decide +kernel | kernel_rfl)
    (case ceNoName => k_is)
    (case noNoName_name => k_is)
    (case gaNoName => k_is)
    (case ggNoName => k_is)
    (case hdNoName => k_is)
    (case aSlipped => k_is)
    (case lSlipped => k_is)
    (case rSlipped => rfl)
    (case saSlipped => k_is)
    (case ecSlipped => k_is)
    (case tySlipped => k_is)
    (case kcSlipped => k_is)
    (case inSlipped => k_is)
    (case tiSlipped => k_is)
    (case mrSlipped => k_is)
    (case suSlipped => ks_is)
    (case sbSlipped => k_is)
    (case fnSlipped => k_is)
    (case cdSlipped => k_is)
    (case coSlipped => k_is)
    (case fiSlipped => rfl)
    (case flSlipped => first | rfl | decide +kernel | kernel_rfl)
    (case ceSlipped => k_is)
    (case noSlipped_slip => k_is)
    (case gaSlipped => k_is)
    (case ggSlipped => k_is)
    (case hdSlipped => k_is)
    (case thi => k_is)
    (case z_super => k_is)
    (case tops => first | rfl | decide +kernel | kernel_rfl)
    (case exa => kernel_rfl)
    (case exn => decide)
    (case z_len => k_is)
    (case z_abs => k_is)
    (case z_int => k_is)
    (case z_range => k_is)
    (case z_list => k_is)
    (case z_tuple => k_is)
    (case z_str => k_is)
    (case z_max => k_is)
    (case z_min => k_is)
    (case z_enumerate => k_is)
    (case z_isinstance => k_is)
    (case z_ValueError => k_is)
    (case aSE => k_is)
    (case exc => kernel_rfl)
    (case xis => kernel_rfl)
    (case xisS => kernel_rfl)
    (case xisV => kernel_rfl)
    (case xcn => k_is)
    (case xct => k_is)
    (case exm => kernel_rfl)
