import PyProof.Rows.All
import Wide.All
import OpenK.AllK
import Wide.FinOn
import PyProof.EqAt
import PyProof.EqKinds
import PyProof.TupleCall
import KE.KOpsOwn
import HandS.ForMost
import HandS.More
import HandS.Conv
import HandS.Walk
import HandS.Wide
import HandS.Star
import HandS.Codes
import HandS.Property
import HandS.DictComp
import HandS.IsInst
import HandS.Deep
import HandS.EndBits
import HandS.ClsMeth
import HandS.Defaults
import KE.GoesMore
import KE.KExcSuper
import HandS.ExcInit
import HandS.ExcField
import HandS.TryMany
import HandS.TryOnly
import HandS.Nested
import HandS.Lambda
import HandS.EndTab
import KE.KNestM
import HandS.Style
import HandS.Iter
import KE.SortKeyHeap
import KE.SortData
import HandS.SortKw
import HandS.ExcValue
import HandS.Strs
import HandS.Zip
import HandS.Finally
import HandS.HotCalls
import HandS.ExcInitHot
import KE.KWithOwn
import OpenK.KMore
import HandS.TupAny
import KE.KNest
import HandS.ExcBuiltin
import PySem.Challenge.RW_sidelists_k76_attempts
set_option Elab.async false
set_option linter.all false
set_option maxRecDepth 100000
set_option maxHeartbeats 4000000
/-! Rules beside the hand layer: own defs called by their promises, own operators, enumerate of a tuple. -/
namespace SB
open PySem PySem.Spec PyProof.Rows L2

/-- the module's name x holds a def that keeps sp -/
structure Cl (P : Program) (w : World) (K : PySem.W.Frag) (mg : Str → Option Value) (base : Heap) (CX : CXT) (k : Nat) (x : Str) (sp : Sp) : Prop where
  ex : ∃ f : Addr, FnR P w K mg base CX k f sp ∧ mg x = some (.ref f) ∧ PySem.W.keepIn K (.ref f) = true
/-- the module's name x holds the class at C, whose init keeps sp -/
structure Ml (P : Program) (w : World) (K : PySem.W.Frag) (mg : Str → Option Value) (base : Heap) (CX : CXT) (k : Nat) (x : Str) (C : Addr) (sp : Sp) : Prop where
  ex : ∃ f : Addr, Mk K C f ∧ FnR P w K mg base CX k f sp ∧ mg x = some (.ref C)
/-- the class at C has a def for the name m that keeps sp -/
structure Me (P : Program) (w : World) (K : PySem.W.Frag) (mg : Str → Option Value) (base : Heap) (CX : CXT) (k : Nat) (C : Addr) (m : Str) (sp : Sp) : Prop where
  ex : ∃ g : Addr, FnR P w K mg base CX k g sp ∧ PySem.W.findIn K (.ref C) m = some (some (.ref g)) ∧ PySem.W.isFn K (.ref g) = true ∧ PySem.W.keepIn K (.ref g) = true

def tCl (sp : Sp) (E : XK) (t : TA) : TE := fun σ H Q => t σ H fun vs H1 => sp vs H1 Q E
section
variable {X : Cx} {CX : CXT} {k j : Nat} {C : Addr} {x m : Str} {sp : Sp} {E : XK} {p pos apos : Pos} {e o : Expr} {es : List Expr} {ta tb : TE} {t : TA}
theorem pe_cl (c : Cl X.prog X.w X.K X.mg X.base CX k x sp) (hr : Room j X.A) (hk : k ≤ j) (hg : Gl X x) (hx : Passes CX X E) (ha : PA X (e :: es) t) (hd : (x == ("__debug__" : Str)) = false := by decide)
    (he : starEach (e :: es) X.env = (false, eval e X.env) :: starEach es X.env := by rfl) (hpl : (backTo pos (starEach es X.env)).any (·.1) = false := by rfl) :
    PE X (.Call (.Name x p) (e :: es) [] pos) (tCl sp E t) := by
  obtain ⟨f, F, hm, kp⟩ := c.ex
  refine ⟨fun pins s σ H Q I h => ?_⟩
  refine wpAny_Call_Name_kw (ld_glob I hg hm ?_ hd)
  refine PySem.W.callWith_K (h₀ := X.base) I.ok.mod.kin kp (thn (ha.run pos pins s σ H _ I h) fun us s1 ⟨vs, H1, I1, r, q⟩ => ⟨I1.kIn, ?_⟩) he hpl
  exact wpAny_call (run_fnR F (hr.mono hk) hx I1 r q)
def tMl (C : Addr) (sp : Sp) (E : XK) (t : TA) : TE := fun σ H Q => t σ H fun vs H1 => ∀ x dx, H1 x = Option.none → H1 dx = Option.none → dx ≠ x →
  sp (V.ref x :: vs) (upd (upd H1 dx (.own x)) x (.ins C dx [])) (fun v H2 => v = .non ∧ Q (.ref x) H2) E
theorem pe_ml (c : Ml X.prog X.w X.K X.mg X.base CX k x C sp) (hr : Room j X.A) (hk : k + 1 ≤ j) (hg : Gl X x) (hx : Passes CX X E) (ha : PA X (e :: es) t) (hdb : (x == ("__debug__" : Str)) = false := by decide)
    (he : starEach (e :: es) X.env = (false, eval e X.env) :: starEach es X.env := by rfl) (hpl : (backTo pos (starEach es X.env)).any (·.1) = false := by rfl) : PE X (.Call (.Name x p) (e :: es) [] pos) (tMl C sp E t) := by
  obtain ⟨f, M, F, hm⟩ := c.ex
  exact StX.pe_makeR M F (hr.mono hk) hg hm hx ha hdb he hpl

/-! ### own operators of an instance of C -/
theorem cmpback {pins : List (Addr × Obj)} {σ : L2.St} {Q : VK} {w : Value} {s' : Shared} (h : EP X pins σ Q w s') : PySem.W.CmpBack (EP X pins σ Q) w s' := by
  obtain ⟨z, H', I', rz, qz⟩ := id h
  cases z with
  | non => cases rz; exact h
  | bl b => cases rz; exact h
  | int i => obtain ⟨t, rfl⟩ := rz; exact h
  | str i => obtain ⟨t, rfl⟩ := rz; exact h
  | byt i => obtain ⟨t, rfl⟩ := rz; exact h
  | flt i => obtain ⟨t, rfl⟩ := rz; exact h
  | ref i => cases rz; exact h
  | ty i => cases rz; exact h
theorem inst_at {pins : List (Addr × Obj)} {σ : L2.St} {H : Hp} {s : Shared} {a dx : Addr} {fs : List (Str × V)} (I : Inv X pins σ H s) (h : H a = some (.ins C dx fs)) : ∃ ox od, PySem.W.InstAt s.heap a ox C od := by
  obtain ⟨mA, O, _⟩ := ins_get I.hok h
  obtain ⟨od, J, _⟩ := O.look
  exact ⟨_, _, J⟩
def rOwn2 (C : Addr) (sp : Sp) (E : XK) : R2 := fun x y H Q => ∃ a dx fs b dy gs, x = .ref a ∧ y = .ref b ∧ H a = some (.ins C dx fs) ∧ H b = some (.ins C dy gs) ∧ sp [x, y] H Q E
/-- x op y, both instances of C -/
theorem op_own2 {op : Operator} {nm : Str} (c : Me X.prog X.w X.K X.mg X.base CX k C nm sp) (hnm : PySem.dunder op.info.2 = nm) (hc : PySem.W.selfFirst X.K C = true) (hr : Room j X.A) (hk : k ≤ j) (hx : Passes CX X E) :
    OpR X (binaryOp op) (rOwn2 C sp E) := by
  obtain ⟨g, F, hs, hf, _⟩ := c.ex
  intro pins s σ H x y v u Q I rx ry h
  obtain ⟨a, dx, fs, b, dy, gs, rfl, rfl, ha, hb, q⟩ := h
  cases (show v = Value.ref a from rx)
  cases (show u = Value.ref b from ry)
  obtain ⟨ox, od, J⟩ := inst_at I ha
  obtain ⟨ox', od', J'⟩ := inst_at I hb
  obtain ⟨m, hF⟩ := I.fr
  subst hnm
  refine PySem.W.binop_K (op := op) hF I.ok.mod.kin J J'.type hc hs hf ?_
  refine wpAny_mono (wpAny_call (run_fnR (us := [.ref a, .ref b]) (vs := [.ref a, .ref b]) F (hr.mono hk) hx I (.cons rfl (.cons rfl .nil)) q)) (fun w s' z => ?_) fun _ _ x => x
  exact cmpback z
/-- x == y, both instances of C -/
theorem op_ownEq (c : Me X.prog X.w X.K X.mg X.base CX k C "__eq__" sp) (hn : PySem.W.notFirst X.K C (.ref C) = true) (hr : Room j X.A) (hk : k ≤ j) (hx : Passes CX X E) :
    OpR X (compareOp .Eq) (rOwn2 C sp E) := by
  obtain ⟨g, F, hs, hf, _⟩ := c.ex
  intro pins s σ H x y v u Q I rx ry h
  obtain ⟨a, dx, fs, b, dy, gs, rfl, rfl, ha, hb, q⟩ := h
  cases (show v = Value.ref a from rx)
  cases (show u = Value.ref b from ry)
  obtain ⟨ox, od, J⟩ := inst_at I ha
  obtain ⟨ox', od', J'⟩ := inst_at I hb
  obtain ⟨m, hF⟩ := I.fr
  show wpAny _ _ (richCompare .Eq (.ref a) (.ref b)) _ _ _
  refine PySem.W.cmp_K (op := .Eq) (tb := .ref C) hr.units0 hF I.ok.mod.kin J J'.type hn hs hf ?_
  refine wpAny_mono (wpAny_call (run_fnR (us := [.ref a, .ref b]) (vs := [.ref a, .ref b]) F (hr.mono hk) hx I (.cons rfl (.cons rfl .nil)) q)) (fun w s' z => ?_) fun _ _ x => x
  exact cmpback z
def rOwn1 (C : Addr) (sp : Sp) (E : XK) : V → Hp → VK → Prop := fun x H Q => ∃ a dx fs, x = .ref a ∧ H a = some (.ins C dx fs) ∧ sp [x] H Q E
/-- the bitwise not of an instance of C -/
theorem un_ownInv (c : Me X.prog X.w X.K X.mg X.base CX k C "__invert__" sp) (hr : Room j X.A) (hk : k ≤ j) (hx : Passes CX X E) : UnR X (unaryOp .Invert) (rOwn1 C sp E) := by
  obtain ⟨g, F, hs, hf, _⟩ := c.ex
  intro pins s σ H x v Q I rx h
  obtain ⟨a, dx, fs, rfl, ha, q⟩ := h
  cases (show v = Value.ref a from rx)
  obtain ⟨ox, od, J⟩ := inst_at I ha
  obtain ⟨m, hF⟩ := I.fr
  refine PySem.W.ksp_inv hF I.ok.mod.kin J hs hf ?_
  exact wpAny_call (run_fnR (us := [.ref a]) (vs := [.ref a]) F (hr.mono hk) hx I (.cons rfl .nil) q)
end

/-! ### a staticmethod called on its class; a property; an instance called -/
/-- C.m is a staticmethod: its record at p, its def at g -/
structure SMet (K : PySem.W.Frag) (C : Addr) (mc : Value) (m : Str) (p g : Addr) : Prop where
  at_ : PySem.W.findCls K (.ref C) mc m = some (.get (.builtin "staticmethod.__get__") (.ref p) .none (.ref C))
  rc : ∃ rest, PySem.W.recIn K p "staticmethod" = some (.ref g :: rest)
  kp : PySem.W.keepIn K (.ref g) = true
structure Sm (P : Program) (w : World) (K : PySem.W.Frag) (mg : Str → Option Value) (base : Heap) (CX : CXT) (k : Nat) (x m : Str) (sp : Sp) : Prop where
  ex : ∃ (C p g : Addr) (mc : Value), mg x = some (.ref C) ∧ ClX.CRead K C mc ∧ SMet K C mc m p g ∧ FnR P w K mg base CX k g sp
structure Pr (P : Program) (w : World) (K : PySem.W.Frag) (mg : Str → Option Value) (base : Heap) (CX : CXT) (k : Nat) (C : Addr) (f : Str) (sp : Sp) : Prop where
  ex : ∃ (p g : Addr) (fd : FuncData) (ps : List Str), Cls K C ∧ PropOf K C f p g ∧ FnOk P w K mg base CX k g fd ps sp ∧ Binds K fd ps []
structure Ca (P : Program) (w : World) (K : PySem.W.Frag) (mg : Str → Option Value) (base : Heap) (CX : CXT) (k : Nat) (C : Addr) (sp : Sp) : Prop where
  ex : ∃ g : Addr, StX.CallO K C g ∧ FnR P w K mg base CX k g sp
section
variable {X : Cx} {CX : CXT} {k j : Nat} {C : Addr} {x m : Str} {sp : Sp} {E : XK} {p pos apos : Pos} {e o fe : Expr} {es : List Expr} {ta tf : TE} {t : TA}
theorem pe_sm {pl : Sem Bool} (c : Sm X.prog X.w X.K X.mg X.base CX k x m sp) (hr : Room j X.A) (hk : k ≤ j) (hg : Gl X x) (hx : Passes CX X E) (ha : PA X (e :: es) t) (hdb : (x == ("__debug__" : Str)) = false := by decide)
    (hst : starEach (e :: es) X.env = (false, eval e X.env) :: starEach es X.env := by rfl) (hpl : (backTo pos (starEach es X.env)).any (·.1) = false := by rfl)
    (ht : eval (.Call (.Attribute (.Name x p) m apos) (e :: es) [] pos) X.env = (do
      let ov ← eval (.Name x p) X.env
      standAt apos.atName
      let (f, first) ← holding [ov] (getMethod ov m pl)
      callWith pos f first (backTo pos (starEach (e :: es) X.env)) (backToKw pos (keywordEach [] X.env))) := by rfl) :
    PE X (.Call (.Attribute (.Name x p) m apos) (e :: es) [] pos) (tCl sp E t) := by
  obtain ⟨C, pr, g, mc, hm, r, c, F⟩ := c.ex
  obtain ⟨rest, hp⟩ := c.rc
  refine ⟨fun pins s σ H Q I h => ?_⟩
  refine PySem.W.methodCall_KW (pl := pl) (ld_glob I hg hm ?_ hdb) ht
  refine PySem.W.method_cls I.kIn r.ga (PySem.W.cls_bind I.kIn r.rd c.at_ (wpAny_call (PySem.W.sm_get (s := { s with toks := s.toks + 1 }) I.kIn hp (PySem.W.handed_on rfl ?_))))
  have I1 : Inv X pins σ H { s with toks := s.toks + 1 } := I.tok _
  refine PySem.W.callWith_K (h₀ := X.base) I.ok.mod.kin c.kp (thn (ha.run pos pins _ σ H _ I1 h) fun us s1 ⟨vs, H1, I2, rv, q⟩ => ⟨I2.kIn, ?_⟩) hst hpl
  exact wpAny_call (run_fnR F (hr.mono hk) hx I2 rv q)
def tPr (C : Addr) (sp : Sp) (E : XK) (ta : TE) : TE := fun σ H Q => ta σ H fun x H1 => ∃ a dx fs, x = .ref a ∧ H1 a = some (.ins C dx fs) ∧ sp [.ref a] H1 Q E
theorem pe_pr {f : Str} (c : Pr X.prog X.w X.K X.mg X.base CX k C f sp) (hr : Room j X.A) (hk : k + 1 ≤ j) (hx : Passes CX X.nox E) (he : PE X e ta) (hab : attributeBase e f X.env (eval e X.env) = eval e X.env := by rfl) :
    PE X (.Attribute e f pos) (tPr C sp E ta) := by
  obtain ⟨p, g, fd, ps, c, hp, F, b⟩ := c.ex
  exact pe_prop he c hp F (hr.mono hk) b .nil hx hab
theorem pe_ca (hf : PE X fe tf) (c : Ca X.prog X.w X.K X.mg X.base CX k C sp) (hr : Room j X.A) (hk : k ≤ j) (hx : Passes CX X E) (ha : PA X (e :: es) t)
    (ht : eval (.Call fe (e :: es) [] pos) X.env = (do callWith pos (← eval fe X.env) [] (backTo pos (starEach (e :: es) X.env)) (backToKw pos (keywordEach [] X.env))) := by rfl)
    (he : starEach (e :: es) X.env = (false, eval e X.env) :: starEach es X.env := by rfl) (hpl : (backTo pos (starEach es X.env)).any (·.1) = false := by rfl) : PE X (.Call fe (e :: es) [] pos) (StX.tCallO X C sp E tf t) := by
  obtain ⟨g, c, F⟩ := c.ex
  exact StX.pe_callO hf c F (hr.mono hk) hx ha ht he hpl
end

/-! ### enumerate(tuple) -/
theorem meets_enumerate_newT (l : Addr) (items : Array Value) (n : Nat) (dct : Option Addr) (sl : Array (Option Value)) :
    Meets (Builtin.«enumerate.__new__» ⟨[.type "enumerate", .ref l], []⟩) (fun _ R s => s.heap.get? l = some { cls := .type "tuple", dict := dct, data := .seq items n, slots := sl } ∧
      R (.ok (.ret (.ref (s.heap.push { cls := .type "tuple_iterator", data := .fields #[.ref l, .int 0 0] }).objs.size)))
        { s with heap := (s.heap.push { cls := .type "tuple_iterator", data := .fields #[.ref l, .int 0 0] }).push { cls := .type "enumerate", data := .fields #[.none, .bool false, .ref s.heap.objs.size, rawInt 0, .none, .none] } }) :=
  .of_wp fun prog w A R s h => by
    obtain ⟨hp, g, d, tk, os⟩ := s; obtain ⟨hl, h⟩ := h
    have hsub := sub_enumerate
    have hL : Heap.IsTuple (Shared.heap ⟨hp, g, d, tk, os⟩) l items := ⟨_, hl, rfl, n, rfl⟩
    wp_walk using AutoSeq1.wpAny_loadPart' hl
    refine wpAny_stack_any fun st => wpAny_pure ?_
    split
    · rename_i c _ _ _ _ _
      cases (c == Value.type "enumerate")
      · wp_walk using AutoSeq1.wpAny_loadPart' hl, wpAny_pyIter_tuple hL
        exact ⟨_, rfl, h⟩
      · wp_walk using AutoSeq1.wpAny_loadPart' hl, wpAny_pyIter_tuple hL
        exact ⟨_, rfl, h⟩
    · wp_walk using AutoSeq1.wpAny_loadPart' hl, wpAny_pyIter_tuple hL
      exact ⟨_, rfl, h⟩
theorem call_enumerate_tup {prog : Program} {w : World} {A : Around} {E : Value → Shared → Prop} {s : Shared} {l : Addr} {items : Array Value} {Q : Value → Shared → Prop} (hL : s.heap.IsTuple l items)
    (h : ∀ h', IsEnum h' (s.heap.objs.size + 1) s.heap.objs.size 0 .none → h'.IsTupleIter s.heap.objs.size l 0 → h'.objs.size = s.heap.objs.size + 2 →
      (∀ b o, s.heap.get? b = some o → h'.get? b = some o) → Q (.ref (s.heap.objs.size + 1)) { s with heap := h' }) :
    wpAny (model prog w) A (call (.type "enumerate") [.ref l]) Q E s := by
  obtain ⟨⟨c, dct, dt, sl⟩, hl, hc, n, hd⟩ := hL
  replace hc : c = .type "tuple" := hc
  replace hd : dt = .seq items n := hd
  subst hc hd
  refine callType_new F.called_enumerate (by decide) (F.typeCall_enumerate_1 _) (F.newCall_enumerate_1 _) (fun obj => F.args_object_init_2 obj _) F.entry_enumerate_new
    (meets_enumerate_newT l items n dct sl) ⟨hl, ?_⟩
  have hz : (s.heap.push { cls := .type "tuple_iterator", data := .fields #[.ref l, .int 0 0] }).objs.size = s.heap.objs.size + 1 := Heap.size_push ..
  show _ ∧ _
  rw [hz]
  have he : IsEnum ((s.heap.push { cls := .type "tuple_iterator", data := .fields #[.ref l, .int 0 0] }).push
      { cls := .type "enumerate", data := .fields #[.none, .bool false, .ref s.heap.objs.size, rawInt 0, .none, .none] }) (s.heap.objs.size + 1) s.heap.objs.size 0 .none := by
    have := Heap.get?_push_size (s.heap.push { cls := .type "tuple_iterator", data := .fields #[.ref l, .int 0 0] })
      (o := { cls := .type "enumerate", data := .fields #[.none, .bool false, .ref s.heap.objs.size, rawInt 0, .none, .none] }) rfl
    rw [hz] at this; exact this
  refine ⟨⟨_, he, rfl⟩, h _ he ⟨_, Heap.get?_push_of_some _ (Heap.get?_push_size _ rfl), rfl, rfl⟩ (by rw [Heap.size_push, hz]) fun b o x => Heap.get?_push_of_some _ (Heap.get?_push_of_some _ x)⟩
def IteT (K : PySem.W.Frag) (a : Addr) : It :=
  ⟨fun i H => ∃ (xs : List V) (x : V), SqT K H a xs ∧ xs[i]? = some x, fun i H v H' => ∃ T x, v = .ref T ∧ H T = none ∧ H' = upd H T (.tup [.int (i : Nat), x]) ∧ ∀ xs, SqT K H a xs → xs[i]? = some x, fun i H => ∃ xs : List V, SqT K H a xs ∧ xs.length = i⟩
theorem turn_enumT {P : Program} {w : World} {K : PySem.W.Frag} {elts : List Expr} {kk : Nat} {tpos : Pos} (a e it : Addr) :
    Turn P w K (.Tuple elts kk tpos) (IteT K a) [e, it] e (fun i h => (∃ old, IsEnum h e it ((i : Nat) : Int) old) ∧ h.IsTupleIter it a i ∧ e ≠ it ∧ a ≠ it ∧ a ≠ e) where
  mem := by simp
  obj := fun i h st b hb => by
    obtain ⟨⟨old, he⟩, ⟨o, ho, hc, hd⟩, _⟩ := st
    have e' : b = e ∨ b = it := by simpa using hb
    rcases e' with z | z
    · rw [z]; exact ⟨_, he, fun v q => nomatch q⟩
    · rw [z]; exact ⟨o, ho, fun v q => by rw [hd] at q; cases q⟩
  keep := fun i h h' st k => let ⟨⟨old, he⟩, hi, hne⟩ := st; ⟨⟨old, k e (by simp) _ he⟩, hi.at fun o q => k it (by simp) o q, hne⟩
  item := by
    intro X hP hw hK hc i pins s σ H E I hf st hg
    subst hP hw hK
    obtain ⟨⟨old, he⟩, hit, hne, nai, nae⟩ := st
    obtain ⟨xs, x, hq, hx⟩ := hg
    obtain ⟨its, rv, p, hz⟩ := I.tuple hq
    obtain ⟨u, hu, ru⟩ := rv.get hx
    have hel : e < s.heap.objs.size := Heap.lt_size he
    have hil : it < s.heap.objs.size := by obtain ⟨_, q, _⟩ := hit; exact Heap.lt_size q
    have hlt : i < its.toArray.size := by
      have := (List.getElem?_eq_some_iff.mp hu).1
      simpa using this
    have hA : X.A.in1.handled = none := I.ok.hd hc
    refine wpAny_pyNext_enum_itemD (Draws.tuple hA it a nai its.toArray) he ⟨hit, p⟩ hlt hne (by simp; exact ⟨hne, fun z => nae z.symm⟩) fun u' h' tk hP ho hst hT hsz hk => ?_
    have eu : u' = u := by
      have q : its[i]? = some u' := by simpa using hP
      rw [hu] at q; exact (Option.some.inj q).symm
    subst eu
    obtain ⟨hit', _⟩ := hst
    refine ⟨_, rfl, wpAny_letOwnedTupleGo_enum (s := { s with heap := h', toks := tk + 1 }) ho fun h'' he' sb => ?_⟩
    have hT2 : h''.get? s.heap.objs.size = some { cls := .type "tuple", data := .seq #[.int i tk, u'] } := (sb.2 _ (Nat.ne_of_gt hel)).trans hT
    have new : ObjOk X.prog X.w (upd H s.heap.objs.size (.tup [.int (i : Nat), x])) h'' s.heap.objs.size (.tup [.int (i : Nat), x]) :=
      ⟨by show 2 ≤ sizeLine; decide, [.int i tk, u'], .cons ⟨_, rfl⟩ (.cons ru .nil), ⟨_, hT2, rfl, _, rfl⟩⟩
    have I1 : Inv X pins σ (upd H s.heap.objs.size (.tup [.int (i : Nat), x])) { s with heap := h'', toks := tk + 1 } :=
      I.turnedNew (ch := [e, it]) (fun b ob hb q => (sb.2 b (fun z => hb (by simp [z]))).trans (hk b ob (fun z => hb (by simp [z])) (fun z => hb (by simp [z])) q)) hf (Nat.le_refl _) new
    refine ⟨.ref s.heap.objs.size, _, I1, rfl, ⟨_, x, rfl, I.hok.fresh (Nat.le_refl _), rfl, fun ys hy => by rw [I.tuple_inj hy hq]; exact hx⟩, ⟨⟨u', ?_⟩, hit'.at fun o q => (sb.2 it (Ne.symm hne)).trans q, hne, nai, nae⟩, fun b hb => ?_⟩
    · have e1 : ((i + 1 : Nat) : Int) = (i : Int) + 1 := by omega
      rw [e1]; exact he'
    · have hb' : b < s.heap.objs.size := by
        have e' : b = e ∨ b = it := by simpa using hb
        rcases e' with z | z
        · rw [z]; exact hel
        · rw [z]; exact hil
      rw [upd_ne (Nat.ne_of_lt hb')]
      exact (hf b hb).1
  done := by
    intro X hP hw hK hc i pins s σ H E I hf st hg
    subst hP hw hK
    obtain ⟨⟨old, he⟩, hit, hne, nai, nae⟩ := st
    obtain ⟨xs, hq, hx⟩ := hg
    obtain ⟨its, rv, p, hz⟩ := I.tuple hq
    obtain ⟨f0, f1, f2, f3, f4, f5⟩ := hf it (by simp)
    have hl := rv.length
    have hA : X.A.in1.handled = none := I.ok.hd hc
    have en : i = its.toArray.size := by simp; omega
    subst en
    exact wpAny_pyNext_enum_endD (Draws.tuple hA it a nai its.toArray) he ⟨hit, p⟩ fun h' eb => ⟨rfl, I.turned (t' := s.toks) (fun b o hb q => eb b o hb q) f0 f1 f3 f4 f5⟩
  self := fun A i s Q E st h => let ⟨⟨_, he⟩, _⟩ := st; wpAny_pyIter_enum he h
theorem walk_enumT {K : PySem.W.Frag} {a : Addr} {xs : List V} : Walk (IteT K a) xs.length (fun H => SqT K H a xs) (YPair (fun i => some (.int (i : Nat))) (fun i => xs[i]?)) := by
  refine ⟨fun i _ hi q => ⟨xs, xs[i], q, by simp [hi]⟩, fun _ q => ⟨xs, q, rfl⟩, fun i H v H' _ q y => ?_⟩
  obtain ⟨T, x, h1, h2, h3, h4⟩ := y
  exact ⟨T, .int (i : Nat), x, h1, h2, h3, rfl, h4 xs q⟩
/-- enumerate of a list or a tuple: whatever walks it, while its object stays -/
def iEnumS (K : PySem.W.Frag) (ta : TA) : TI := fun σ H R => ta σ H fun vs H1 => ∃ a xs, vs = [.ref a] ∧ (SqL K H1 a xs ∨ SqT K H1 a xs) ∧
  ∀ (J : It) (G : Hp → Prop), Walk J xs.length G (YPair (fun i => some (.int (i : Nat))) (fun i => xs[i]?)) → (∀ H', (SqL K H1 a xs → SqL K H' a xs) → (SqT K H1 a xs → SqT K H' a xs) → G H') → R J H1
theorem stayL {K : PySem.W.Frag} {H H' : Hp} {a : Addr} {xs : List V} (h : SqL K H a xs) (e : ∀ o, H a = some o → H' a = some o) : SqL K H' a xs := by
  rcases h with (h | ⟨o, h⟩) | h
  · exact .inl (.inl (e _ h))
  · exact .inl (.inr ⟨o, e _ h⟩)
  · exact .inr h
theorem stayT {K : PySem.W.Frag} {H H' : Hp} {a : Addr} {xs : List V} (h : SqT K H a xs) (e : ∀ o, H a = some o → H' a = some o) : SqT K H' a xs := by
  rcases h with (h | ⟨o, h⟩) | h
  · exact .inl (.inl (e _ h))
  · exact .inl (.inr ⟨o, e _ h⟩)
  · exact .inr h
theorem pi_enumS {X : Cx} {e : Expr} {ta : TA} {p pos tpos : Pos} {elts : List Expr} {kk : Nat} (hg : Gl X "enumerate") (hm : X.mg "enumerate" = none) (ha : PA X [e] ta) (hs : starEach [e] X.env = [(false, eval e X.env)] := by rfl) :
    PI X (.Tuple elts kk tpos) (.Call (.Name "enumerate" p) [e] [] pos) (iEnumS X.K ta) := by
  refine ⟨fun pins s σ H R I h => ?_⟩
  refine Call_ (ld_blt I hg hm boot_enumerate (PyProof.Rows.callWith_type1 (thn (ha.run pos pins s σ H _ I h) fun us s1 ⟨vs, H1, I1, r1, q1⟩ => ?_) hs rfl))
  obtain ⟨a, xs, ex, hq, q⟩ := q1
  subst ex
  have hfp : ∀ b, b = s1.heap.objs.size + 1 ∨ b = s1.heap.objs.size → s1.heap.objs.size ≤ b := fun b e' => by
    rcases e' with z | z
    · rw [z]; exact Nat.le_add_right _ _
    · rw [z]; exact Nat.le_refl _
  cases r1 with
  | cons r rr =>
    cases rr
    cases r
    rcases hq with hq | hq
    · obtain ⟨its, rv, p', hz⟩ := I1.list hq
      refine call_enumerate_list p'.isList fun h' he hit hsz hk => wpAny_pyIter_enum he ?_
      have I2 : Inv X pins σ H1 { s1 with heap := h' } := I1.kept (t' := s1.toks) hk
      refine ⟨s1.heap.objs.size + 1, [s1.heap.objs.size + 1, s1.heap.objs.size], _, _, H1, rfl, I2, turn_enum a (s1.heap.objs.size + 1) s1.heap.objs.size, ⟨⟨.none, he⟩, hit, Nat.succ_ne_self _⟩, fun b hb => ?_, q _ _ walk_enum fun H' e _ => e hq⟩
      have hle := hfp b (by simpa using hb)
      exact I1.fpOk hle (I1.hok.fresh hle)
    · obtain ⟨its, rv, p', hz⟩ := I1.tuple hq
      have hlt := p'.lt
      refine call_enumerate_tup p' fun h' he hit hsz hk => wpAny_pyIter_enum he ?_
      have I2 : Inv X pins σ H1 { s1 with heap := h' } := I1.kept (t' := s1.toks) hk
      refine ⟨s1.heap.objs.size + 1, [s1.heap.objs.size + 1, s1.heap.objs.size], _, _, H1, rfl, I2, turn_enumT a (s1.heap.objs.size + 1) s1.heap.objs.size, ⟨⟨.none, he⟩, hit, Nat.succ_ne_self _, Nat.ne_of_lt hlt, Nat.ne_of_lt (Nat.lt_succ_of_lt hlt)⟩, fun b hb => ?_, q _ _ walk_enumT fun H' _ e => e hq⟩
      have hle := hfp b (by simpa using hb)
      exact I1.fpOk hle (I1.hok.fresh hle)

/-! ### a def of the text keeps its promise -/
section
variable {P : Program} {w : World} {K : PySem.W.Frag} {mg : Str → Option Value} {base : Heap}
theorem fnr {x qual : Str} {st : Stmt} {f : Addr} {fd : FuncData} {N ps : List Str} {k : Nat} {sp : Sp} (F : Fun K x qual st f fd) (S : FnScope N ps (defScope st)) (len : ∀ vs H Q E, sp vs H Q E → vs.length = ps.length)
    (hb : ∀ (kV doc pm : Value) (an : Option Addr) (cdv ct : Value) (us : List Value), us.length = ps.length → bindArgs (PySem.W.fnOf x qual (defArgs st) (defBody st) (defScope st) .none kV doc pm an cdv ct) ⟨us, []⟩ = pure (ps.zip us))
    (hbody : ∀ (cdv : Value) (A : Around) (outer : List Env) (s : Shared) (H : Hp) (vs : List V) (Q : VK) (E : XK), Room k (A.deeper (envOfC qual (defScope st) s.heap.objs.size f cdv)) → sp vs H Q E →
      ∃ t, PSs (cxOf CX0 P w K mg base N qual (defScope st) f cdv A outer s H E).nox (defBody st) t ∧ t { nx := fun _ H' => Q .non H', rt := Q } (start N vs) H) : FnR P w K mg base CX0 (k + 1) f sp :=
  (FnOk.raw (F.ok S len hbody) (F.binds hb) .nil).imp fun vs H Q E h => by rw [List.append_nil]; exact h
end
/-- a def of the text with defaults -/
theorem fnrD {P : Program} {w : World} {K : PySem.W.Frag} {mg : Str → Option Value} {base : Heap} {x qual : Str} {st : Stmt} {f : Addr} {fd : FuncData} {dvs : List V} {kws : List (Str × V)} {N ps : List Str} {k : Nat} {sp : Sp} (F : FunD K x qual (defArgs st) (defBody st) (defScope st) dvs kws f fd) (S : FnScope N ps (defScope st)) (len : ∀ vs H Q E, sp vs H Q E → vs.length = ps.length)
    (hbody : ∀ (cdv : Value) (A : Around) (outer : List Env) (s : Shared) (H : Hp) (vs : List V) (Q : VK) (E : XK), Room k (A.deeper (envOfC qual (defScope st) s.heap.objs.size f cdv)) → sp vs H Q E →
      ∃ t, PSs (cxOf CX0 P w K mg base N qual (defScope st) f cdv A outer s H E).nox (defBody st) t ∧ t { nx := fun _ H' => Q .non H', rt := Q } (start N vs) H) : FnOk P w K mg base CX0 (k + 1) f fd ps sp :=
  F.ok S len fun cdv A outer s H vs Q E hr h => by
    obtain ⟨t, a, q⟩ := hbody cdv A outer s H vs Q E hr h
    exact ⟨t, a.nox, q⟩
theorem FnOk.r {P : Program} {w : World} {K : PySem.W.Frag} {mg : Str → Option Value} {base : Heap} {CX : CXT} {k : Nat} {f : Addr} {fd : FuncData} {ps : List Str} {sp : Sp} (F : FnOk P w K mg base CX k f fd ps sp) (b : Binds K fd ps []) : FnR P w K mg base CX k f sp :=
  (FnOk.raw F b .nil).imp fun vs H Q E h => by rw [List.append_nil]; exact h
theorem rix_S {K : PySem.W.Frag} {H : Hp} {n : Addr} {ys : List V} {i : Int} {v : V} {Q : VK} (h : SqL K H n ys ∨ SqT K H n ys) (e : atI ys i = some v) (q : Q v H) : rIx K (.ref n) (.int i) H Q :=
  h.elim (fun h => .inl ⟨n, ys, i, v, rfl, rfl, h, e, q⟩) (fun h => .inr (.inl ⟨n, ys, i, v, rfl, rfl, h, e, q⟩))
theorem ifY {c A B : Prop} [Decidable c] (hc : c) (h : A) : if decide c = true then A else B := by
  rw [decide_eq_true hc]
  exact iteT h
theorem ifN {c A B : Prop} [Decidable c] (hc : ¬ c) (h : B) : if decide c = true then A else B := by
  rw [decide_eq_false hc]
  exact iteF h
theorem ifNN {c A B : Prop} [Decidable c] (hc : ¬ c) (h : A) : if (!decide c) = true then A else B := by
  rw [decide_eq_false hc]
  exact iteT h
/-- names that the module leaves to the built-ins -/
def Free (mg : Str → Option Value) : List Str → Prop
  | [] => True
  | x :: r => mg x = none ∧ Free mg r
/-- what stood stands, but at b -/
def KeepB (b : Addr) (H H' : Hp) : Prop := ∀ c o, H c = some o → c ≠ b → H' c = some o
theorem KeepB.refl (b : Addr) (H : Hp) : KeepB b H H := fun _ _ e _ => e
theorem KeepB.trans {b : Addr} {H H1 H2 : Hp} (x : KeepB b H H1) (y : KeepB b H1 H2) : KeepB b H H2 := fun c o e n => y c o (x c o e n) n
theorem KeepB.of_same {b : Addr} {H H1 : Hp} (x : Same H H1) : KeepB b H H1 := fun c o e _ => x c o e
theorem KeepB.upd {b : Addr} {H H1 : Hp} {o : HO} (x : KeepB b H H1) : KeepB b H (L2.upd H1 b o) := fun c u e n => by rw [upd_ne n]; exact x c u e n
theorem KeepB.new {b p : Addr} {H H1 : Hp} {o : HO} (x : KeepB b H H1) (hp : H1 p = none) : KeepB b H (L2.upd H1 p o) := fun c u e n => by
  rw [upd_ne (ne_of_none (x c u e n) hp)]; exact x c u e n
theorem same_new {p : Addr} {H H1 : Hp} {o : HO} (x : Same H H1) (hp : H1 p = none) : Same H (L2.upd H1 p o) := fun c u e => by
  rw [upd_ne (ne_of_none (x c u e) hp)]; exact x c u e
theorem Same.sqT {K : PySem.W.Frag} {H H' : Hp} {a : Addr} {xs : List V} (e : Same H H') (h : SqT K H a xs) : SqT K H' a xs := by
  rcases h with (h | ⟨o, h⟩) | h
  · exact .inl (.inl (e _ _ h))
  · exact .inl (.inr ⟨o, e _ _ h⟩)
  · exact .inr h
theorem KeepB.sqT {K : PySem.W.Frag} {b : Addr} {H H' : Hp} {a : Addr} {xs : List V} (e : KeepB b H H') {l : List V} (hb : H b = some (.lst l)) (h : SqT K H a xs) : SqT K H' a xs := by
  rcases h with (h | ⟨o, h⟩) | h
  · exact .inl (.inl (e _ _ h (ne_of h hb (by intro z; cases z))))
  · exact .inl (.inr ⟨o, e _ _ h (ne_of h hb (by intro z; cases z))⟩)
  · exact .inr h
/-- what b holds is neither a list nor locked -/
def NoSeq (o : HO) : Prop := (∀ xs, o ≠ .lst xs) ∧ (∀ xs, o ≠ .tup xs) ∧ ∀ ob u, o ≠ .frz ob u
theorem KeepB.sqT' {K : PySem.W.Frag} {b : Addr} {H H' : Hp} {a : Addr} {xs : List V} {o : HO} (e : KeepB b H H') (hb : H b = some o) (ho : NoSeq o) (h : SqT K H a xs) : SqT K H' a xs := by
  rcases h with (h | ⟨o, h⟩) | h
  · exact .inl (.inl (e _ _ h (ne_of h hb fun z => ho.2.1 _ z.symm)))
  · exact .inl (.inr ⟨o, e _ _ h (ne_of h hb fun z => ho.2.2 _ _ z.symm)⟩)
  · exact .inr h
theorem KeepB.sqL' {K : PySem.W.Frag} {b : Addr} {H H' : Hp} {a : Addr} {xs : List V} {o : HO} (e : KeepB b H H') (hb : H b = some o) (ho : NoSeq o) (h : SqL K H a xs) : SqL K H' a xs := by
  rcases h with (h | ⟨o, h⟩) | h
  · exact .inl (.inl (e _ _ h (ne_of h hb fun z => ho.1 _ z.symm)))
  · exact .inl (.inr ⟨o, e _ _ h (ne_of h hb fun z => ho.2.2 _ _ z.symm)⟩)
  · exact .inr h
theorem noSeq_dK (kvs : List (Key × V)) : NoSeq (.dK kvs) := ⟨fun _ z => (by cases z), fun _ z => (by cases z), fun _ _ z => (by cases z)⟩
theorem noSeq_ins (C dx : Addr) (fs : List (Str × V)) : NoSeq (.ins C dx fs) := ⟨fun _ z => (by cases z), fun _ z => (by cases z), fun _ _ z => (by cases z)⟩
theorem KeepB.sqL {K : PySem.W.Frag} {b : Addr} {H H' : Hp} {a : Addr} {xs : List V} (e : KeepB b H H') (hn : a ≠ b) (h : SqL K H a xs) : SqL K H' a xs := by
  rcases h with (h | ⟨o, h⟩) | h
  · exact .inl (.inl (e _ _ h hn))
  · exact .inl (.inr ⟨o, e _ _ h hn⟩)
  · exact .inr h

/-! ### data -/
def Sh (d : PyData) : Prop := d.canLay0 = true ∧ d.depth ≤ 10
theorem canLayAll_of : ∀ {ds : List PyData}, (∀ d ∈ ds, d.canLay0 = true) → PyData.canLayAll0 ds = true
  | [], _ => rfl
  | d :: ds, h => by
    show (PyData.canLay0 d && PyData.canLayAll0 ds) = true
    rw [h d List.mem_cons_self, canLayAll_of fun e he => h e (List.mem_cons_of_mem _ he)] <;> rfl
theorem depthAll_of {k : Nat} : ∀ {ds : List PyData}, (∀ d ∈ ds, d.depth ≤ k) → PyData.depthAll ds ≤ k
  | [], _ => Nat.zero_le _
  | d :: ds, h => by
    show max (PyData.depth d) (PyData.depthAll ds) ≤ k
    exact Nat.max_le.mpr ⟨h d List.mem_cons_self, depthAll_of fun e he => h e (List.mem_cons_of_mem _ he)⟩
theorem shaped_list {ds : List PyData} (h : ∀ d ∈ ds, Sh d) : SeqAt.shaped (.list ds) = true := by
  have h1 : PyData.canLay0 (.list ds) = true := canLayAll_of fun d hd => (h d hd).1
  have h2 : PyData.depth (.list ds) ≤ 11 := Nat.succ_le_succ (depthAll_of fun d hd => (h d hd).2)
  unfold SeqAt.shaped
  rw [h1, decide_eq_true (Nat.le_trans h2 (by decide))] <;> rfl
theorem shaped_tuple {ds : List PyData} (h : ∀ d ∈ ds, Sh d) : SeqAt.shaped (.tuple ds) = true := by
  have h1 : PyData.canLay0 (.tuple ds) = true := canLayAll_of fun d hd => (h d hd).1
  have h2 : PyData.depth (.tuple ds) ≤ 11 := Nat.succ_le_succ (depthAll_of fun d hd => (h d hd).2)
  unfold SeqAt.shaped
  rw [h1, decide_eq_true (Nat.le_trans h2 (by decide))] <;> rfl
theorem sh_seq {k : Nat} {ds : List PyData} (h : ∀ d ∈ ds, d.canLay0 = true ∧ d.depth ≤ k) (hk : k ≤ 9) : Sh (.list ds) ∧ Sh (.tuple ds) := by
  have h1 : PyData.canLayAll0 ds = true := canLayAll_of fun d hd => (h d hd).1
  have h2 : PyData.depthAll ds + 1 ≤ 10 := Nat.succ_le_succ (Nat.le_trans (depthAll_of fun d hd => (h d hd).2) hk)
  exact ⟨⟨h1, h2⟩, ⟨h1, h2⟩⟩
theorem sh_ints (ns : List Int) : ∀ d ∈ ns.map PyData.int, Sh d := fun d hd => by
  obtain ⟨n, _, rfl⟩ := List.mem_map.mp hd
  exact ⟨rfl, Nat.zero_le _⟩
theorem eqvAll_ints : ∀ a b : List Int, PyData.eqvAll (a.map PyData.int) (b.map PyData.int) = decide (a = b)
  | [], [] => rfl
  | [], _ :: _ => rfl
  | _ :: _, [] => rfl
  | x :: a, y :: b => by
    show (PyData.eqv (.int x) (.int y) && PyData.eqvAll (a.map PyData.int) (b.map PyData.int)) = decide (x :: a = y :: b)
    rw [eqvAll_ints a b]
    have e : PyData.eqv (.int x) (.int y) = decide (x = y) := by
      unfold PyData.eqv
      exact Bool.beq_eq_decide_eq x y
    rw [e, ← Bool.decide_and]
    exact decide_eq_decide.mpr ⟨fun h => by rw [h.1, h.2], fun h => by injection h with h1 h2; exact ⟨h1, h2⟩⟩
theorem eqv_list {a b : List PyData} : PyData.eqv (.list a) (.list b) = PyData.eqvAll a b := by rw [PyData.eqv]
theorem eqv_tuple {a b : List PyData} : PyData.eqv (.tuple a) (.tuple b) = PyData.eqvAll a b := by rw [PyData.eqv]
theorem eqv_same {ds : List PyData} (h : ∀ d ∈ ds, Sh d) : PyData.eqv (.list ds) (.list ds) = true := SeqAt.eqv_refl _ (canLayAll_of fun d hd => (h d hd).1)
section
variable {K : PySem.W.Frag} {H H' : Hp}
theorem dpAll_ints : ∀ ns : List Int, DpAll K H (ns.map V.int) (ns.map PyData.int)
  | [] => .nil
  | n :: r => .cons (.int n) (dpAll_ints r)
theorem dp_ints {p : Addr} {ns : List Int} (h : SqL K H p (ns.map V.int)) : Dp K H (.ref p) (.list (ns.map PyData.int)) := .lst h (dpAll_ints ns)
theorem dp_intsT {p : Addr} {ns : List Int} (h : SqT K H p (ns.map V.int)) : Dp K H (.ref p) (.tuple (ns.map PyData.int)) := .tup h (dpAll_ints ns)
mutual
theorem Dp.mono (e : Same H H') : ∀ {v : V} {d : PyData}, Dp K H v d → Dp K H' v d
  | _, _, .non => .non
  | _, _, .bl b => .bl b
  | _, _, .int i => .int i
  | _, _, .str x => .str x
  | _, _, .lst h q => .lst (L2.Same.seq e h) (DpAll.mono e q)
  | _, _, .tup h q => .tup (Same.sqT e h) (DpAll.mono e q)
theorem DpAll.mono (e : Same H H') : ∀ {vs : List V} {ds : List PyData}, DpAll K H vs ds → DpAll K H' vs ds
  | _, _, .nil => .nil
  | _, _, .cons h q => .cons (Dp.mono e h) (DpAll.mono e q)
end
theorem DpAll.length : ∀ {vs : List V} {ds : List PyData}, DpAll K H vs ds → vs.length = ds.length
  | _, _, .nil => rfl
  | _, _, .cons _ q => congrArg Nat.succ (DpAll.length q)
theorem DpAll.get : ∀ {vs : List V} {ds : List PyData} {i : Nat} {v : V}, DpAll K H vs ds → vs[i]? = some v → ∃ d, ds[i]? = some d ∧ Dp K H v d
  | _, _, _, _, .nil, e => by simp at e
  | _, _, 0, v, .cons (v := v') h _, e => by
    have : v' = v := Option.some.inj e
    subst this
    exact ⟨_, rfl, h⟩
  | _, _, i + 1, v, .cons _ q, e => by
    obtain ⟨d, h1, h2⟩ := DpAll.get (i := i) q (by simpa using e)
    exact ⟨d, by simpa using h1, h2⟩
theorem DpAll.snoc : ∀ {vs : List V} {ds : List PyData} {v : V} {d : PyData}, DpAll K H vs ds → Dp K H v d → DpAll K H (vs ++ [v]) (ds ++ [d])
  | _, _, _, _, .nil, h => .cons h .nil
  | _, _, _, _, .cons h q, h' => .cons h (DpAll.snoc q h')
end

/-! ### rules with the written part named: within a comprehension -/
section
variable {X : Cx} {K : PySem.W.Frag}
theorem ix_tupK (hK : X.K = K) : IxR X (rIxT K) := hK ▸ ix_tup
theorem ix_listK (hK : X.K = K) : IxR X (rIxL K) := hK ▸ ix_list
theorem ix_seqK (hK : X.K = K) : IxR X (rIx K) := hK ▸ ix_seq
theorem op_in_seqK (hK : X.K = K) : OpR X (compareOp .In) (rIn K false) := hK ▸ op_in_seq
theorem op_notIn_seqK (hK : X.K = K) : OpR X (compareOp .NotIn) (rIn K true) := hK ▸ op_notIn_seq
theorem op_eqDK (hK : X.K = K) (hu : X.A.units + 64 < cLine) : OpR X (compareOp .Eq) (rEqD K) := hK ▸ op_eqD hu
theorem op_neDK (hK : X.K = K) (hu : X.A.units + 64 < cLine) : OpR X (compareOp .NotEq) (rNeD K) := hK ▸ op_neD hu
theorem pe_fldK {e : Expr} {ta : TE} {f : Str} {pos : Pos} (hK : X.K = K) (he : PE X e ta) (hb : attributeBase e f X.env (eval e X.env) = eval e X.env) : PE X (.Attribute e f pos) (tFld K ta f) := hK ▸ pe_fld he hb
def rLenS (K : PySem.W.Frag) : List V → Hp → VK → Prop := fun xs H Q => ∃ p ys, xs = [.ref p] ∧ (SqL K H p ys ∨ SqT K H p ys) ∧ Q (.int ys.length) H
theorem call_len_seqK (hK : X.K = K) : CallR X (.builtin "len") (rLenS K) := hK ▸ call_len_seq
end

theorem pg_tupK {X : Cx} {K : PySem.W.Frag} {pos : Pos} {es : List Expr} {k : Nat} {t : TGs} {n : Nat} (hK : X.K = K) (hc : X.calm = true) (h : PGs X es t)
    (hn : (assignEach es X.env).length = n := by rfl) (hst : (assignEach es X.env).findIdx? (·.1) = none := by rfl) : PG X (.Tuple es k pos) (gTup K n t) := hK ▸ pg_tup hc h hn hst
/-- a dict comprehension over what is walked -/
theorem dc_it {J : It} {n : Nat} {G : Hp → Prop} {Y : Nat → Hp → V → Hp → Prop} (w : Walk J n G Y) {g : TG} {tt : TT} {tk tv : TE} {vs : List Nat} {σ : L2.St} {H1 : Hp} {D : Addr} {Qd : Hp → Prop} (Pv : Nat → Hp → Prop) (h0 : Pv 0 (upd H1 D (.dK []))) (hG : ∀ i H, i ≤ n → Pv i H → G H)
    (hs : ∀ i x H H', i < n → Pv i H → Y i H x H' → g x (wipe σ vs) H' fun σ2 H2 => wipe σ2 vs = wipe σ vs ∧ tt σ2 H2 fun b H3 =>
      if b = true then tk σ2 H3 fun y H4 => tv σ2 H4 fun z H5 => ∃ kvs k, y = kV k ∧ H5 D = some (.dK kvs) ∧ kvs.length < sizeLine ∧ Pv (i + 1) (upd H5 D (.dK (putK kvs k z))) else Pv (i + 1) H3) (hd : ∀ H, Pv n H → Qd H) :
    ∃ W : Nat → Nat → Hp → Prop, (∃ m, W 0 m (upd H1 D (.dK []))) ∧ ∀ i m H, W i m H →
      (J.stop i H ∧ Qd H) ∨ (J.go i H ∧ ∃ Nx : Hp → Prop, (∀ H', Nx H' → ∃ m', m' < m ∧ W (i + 1) m' H') ∧ ∀ x H', J.yld i H x H' → g x (wipe σ vs) H' fun σ2 H2 => wipe σ2 vs = wipe σ vs ∧ tt σ2 H2 fun b H3 =>
        if b = true then tk σ2 H3 fun y H4 => tv σ2 H4 fun z H5 => ∃ kvs k, y = kV k ∧ H5 D = some (.dK kvs) ∧ kvs.length < sizeLine ∧ Nx (upd H5 D (.dK (putK kvs k z))) else Nx H3) := by
  refine ⟨fun i m H => m = n - i ∧ i ≤ n ∧ Pv i H, ⟨n, by simp, Nat.zero_le _, h0⟩, ?_⟩
  rintro i m H ⟨rfl, hi, p⟩
  have q := hG i H hi p
  by_cases hlt : i < n
  · exact .inr ⟨w.goes i H hlt q, Pv (i + 1), fun H' p' => ⟨n - (i + 1), by omega, rfl, hlt, p'⟩, fun x H' y => hs i x H H' hlt p (w.yields i H x H' hlt q y)⟩
  · have e : i = n := by omega
    subst e
    exact .inl ⟨w.stops H q, hd H p⟩

theorem seqIdx_nat {m len : Nat} (h : m < len) : seqIndex? (m : Int) len = some m := by
  unfold seqIndex?
  have h1 : ¬ ((m : Int) < 0) := by omega
  simp only [h1, if_false]
  have h2 : (decide ((0 : Int) ≤ (m : Int)) && decide ((m : Int) < (len : Int))) = true := by
    rw [Bool.and_eq_true]
    exact ⟨decide_eq_true (by omega), decide_eq_true (by omega)⟩
  rw [if_pos h2]
  simp
theorem map_eraseI {α β : Type} (f : α → β) : ∀ (l : List α) (i : Nat), (l.map f).eraseIdx i = (l.eraseIdx i).map f
  | [], _ => rfl
  | _ :: _, 0 => rfl
  | a :: r, i + 1 => by
    show f a :: (r.map f).eraseIdx i = f a :: (r.eraseIdx i).map f
    rw [map_eraseI f r i]
theorem lt_line {n : Nat} (h : n ≤ 100000) : n < sizeLine := Nat.lt_of_le_of_lt h (by decide)
theorem le_line {n : Nat} (h : n ≤ 100000) : n ≤ sizeLine := Nat.le_of_lt (lt_line h)

theorem ixN_nat {m len : Nat} (h : m < len) : ixN len (m : Int) = some m := by
  unfold ixN
  rw [if_pos (by omega), if_pos (by omega)]
  simp
theorem set_last {α : Type} : ∀ (a : List α) (x y : α), (a ++ [x]).set a.length y = a ++ [y]
  | [], _, _ => rfl
  | b :: r, x, y => by
    show b :: (r ++ [x]).set r.length y = b :: (r ++ [y])
    rw [set_last r x y]
theorem strOk_of (t : String) : PyData.strOk (Str.ofString t) = true := by
  rw [Str.ofString_eq_toList]
  unfold PyData.strOk
  rw [← Array.all_toList]
  simp only [List.all_eq_true, decide_eq_true_eq]
  intro c hc
  have hc' : c ∈ t.toList.map Char.toNat := by simpa using hc
  obtain ⟨ch, _, rfl⟩ := List.mem_map.mp hc'
  have v := ch.valid
  rcases v with v | v
  · have : ch.toNat < 0xd800 := v
    omega
  · have : ch.toNat < 0x110000 := v.2
    omega
theorem strOk_app (a b : Str) (ha : PyData.strOk a = true) (hb : PyData.strOk b = true) : PyData.strOk (a ++ b) = true := by
  unfold PyData.strOk at *
  show (a.cps ++ b.cps).all _ = true
  rw [Array.all_append, ha, hb] <;> rfl
/-- the heap without some addresses -/
def Wo (H : Hp) (bs : List Addr) : Hp := fun c => if c ∈ bs then none else H c
theorem wo_same {H : Hp} {bs : List Addr} : Same (Wo H bs) H := fun c o e => by
  unfold Wo at e
  by_cases h : c ∈ bs
  · rw [if_pos h] at e; cases e
  · rw [if_neg h] at e; exact e
theorem wo_mono {H H' : Hp} {bs : List Addr} (k : ∀ c o, H c = some o → c ∉ bs → H' c = some o) : Same (Wo H bs) (Wo H' bs) := fun c o e => by
  unfold Wo at e ⊢
  by_cases h : c ∈ bs
  · rw [if_pos h] at e; cases e
  · rw [if_neg h] at e ⊢
    exact k c o e h
theorem wo_at {H : Hp} {bs : List Addr} {c : Addr} {o : HO} (h : H c = some o) (hn : c ∉ bs) : Wo H bs c = some o := by
  unfold Wo
  rw [if_neg hn]
  exact h

theorem inV_ints (v : Int) : ∀ ps : List Int, inV (.int v) (ps.map V.int) = decide (v ∈ ps)
  | [] => by simp [inV]
  | p :: r => by
    have ih := inV_ints v r
    unfold inV at ih ⊢
    rw [List.map_cons, List.any_cons, ih]
    have e : eqV (.int p) (.int v) = decide (v = p) := by
      show (p == v) = _
      by_cases h : p = v
      · subst h; simp
      · have h' : ¬ v = p := fun z => h z.symm
        simp [h, h']
    rw [e]
    by_cases h : v = p <;> simp [h]
theorem flat_ints (ps : List Int) : (ps.map V.int).all flatV = true := by
  rw [List.all_eq_true]
  intro x hx
  obtain ⟨p, _, rfl⟩ := List.mem_map.mp hx
  rfl
theorem ifNT {b : Bool} {A B : Prop} (hb : b = true) (h : B) : if (!b) = true then A else B := by
  subst hb
  exact iteF h
theorem ifT {b : Bool} {A B : Prop} (hb : b = true) (h : A) : if b = true then A else B := by
  subst hb
  exact iteT h
theorem ifF {b : Bool} {A B : Prop} (hb : b = false) (h : B) : if b = true then A else B := by
  subst hb
  exact iteF h
theorem flat_rep {α : Type} (x : α) : ∀ k : Nat, (List.replicate k [x]).flatten = List.replicate k x
  | 0 => rfl
  | k + 1 => by
    rw [List.replicate_succ, List.flatten_cons, flat_rep x k, List.replicate_succ]
    rfl
theorem dpAll_rep {K : PySem.W.Frag} {H : Hp} {x : V} {d : PyData} (h : Dp K H x d) : ∀ k : Nat, DpAll K H (List.replicate k x) (List.replicate k d)
  | 0 => .nil
  | k + 1 => .cons h (dpAll_rep h k)
end SB

/-! Own exceptions over ValueError whose __init__ begins with super().__init__(..). -/
namespace SB
open PySem PySem.Spec PyProof.Rows L2 NdefX
section
variable {X : Cx} {pins : List (Addr × Obj)} {σ : L2.St} {H : Hp} {s : Shared} {a C u : Addr}
/-- the bound __init__ of the base, called: nothing of it is told -/
theorem call_mw {A : Around} {E : Value → Shared → Prop} {us : List Value} {Q : Value → Shared → Prop} (T : OexC X.K C) (I : Inv X pins σ H s) (e : H a = some (exo a C none)) (hu : s.heap.get? u = some (PySem.W.kxs_mw "ValueError.__init__" a)) (hl : us.length ≤ sizeLine)
    (h : ∀ s', Inv X pins σ H s' → Q .none s') : wpAny (model X.prog X.w) A (call (.ref u) us) Q E s := by
  obtain ⟨nm, q, N, bs, bm, sn, sub, ab, col, dd, k0, k1, k2, k3, k5, hC, hbm⟩ := T.cls
  obtain ⟨t1, ho⟩ := exo_at I.hok e
  have FB := F.excBase_ValueError
  have hC' := I.kIn _ _ hC
  have fin : ∀ h', (∀ b o, b ≠ a → s.heap.get? b = some o → h'.get? b = some o) → (∃ t2 : Addr, h'.get? a = some ({ cls := .ref C, dict := none, data := .fields #[.ref t2, .none, .none, .none, .bool false, .none] } : Obj)) → Q .none { s with heap := h' } := fun h' k hx => by
    obtain ⟨t2, hx⟩ := hx
    have J := I.write (t' := s.toks) (x := a) (e := a) (o := exo a C none) (by rw [e]; exact True.intro) (.inl rfl) k ⟨_, hx⟩ (exo_ok hx)
    have eu : upd H a (exo a C none) = H := by
      funext b
      by_cases hb : b = a
      · rw [hb, upd_same, e]
      · rw [upd_ne hb]
    rw [eu] at J
    exact h _ J
  obtain ⟨hh, g, d, tk, os⟩ := s
  refine wpAny_call (codeAny_of_tree ?_)
  show wpAny _ A.in1 (callAny (.ref u) ⟨us, []⟩) _ _ _
  simp only [callAny]
  refine wpAny_bind (wpAny_load hu ?_)
  simp only [PySem.W.kxs_mw, show (Value.type "method-wrapper" == Value.type "method" || Value.type "method-wrapper" == Value.type "builtin_function_or_method" || Value.type "method-wrapper" == Value.type "method-wrapper") = true by decide, if_true]
  refine PySem.W.KFB.if_so (by decide) ?_
  refine wpAny_bind (PySem.W.check_bound_init FB.toExcCallFacts hC' ho rfl ?_)
  refine wpAny_bind (wpAny_pure (wpAny_pure ?_))
  refine ⟨plainId_quiet FB.init.plain _, codeAny_builtin FB.initEntry ?_⟩
  refine PySem.W.exc_init_tree (cls := .ref C) (t0 := t1) (dv := none) (c2 := .none) (c3 := .none) (b4 := .bool false) ho hl fun h' k e' _ => fin h' k ⟨_, e'⟩
end
/-- what the reading of such a def's body asks -/
def tSup (K : PySem.W.Frag) (D : Addr) (ta : TA) (t : TS) : TS := fun E σ H => ∃ a C : Addr, σ[0]? = some (some (.ref a)) ∧ OexC K C ∧ H a = some (exo a C none) ∧ PySem.W.mroIn K C (.ref D) = some true ∧
  PySem.W.ks_superIn K C D "__init__" = some (some (.builtin "ValueError.__init__")) ∧ PySem.W.subIn K (.ref C) (.type "ValueError") = some true ∧
  ta σ H fun us H1 => us.length ≤ 1000 ∧ H1 a = some (exo a C none) ∧ t E σ H1
theorem fn_sup {CX : CXT} {P : Program} {w : World} {K : PySem.W.Frag} {mg : Str → Option Value} {base : Heap} {k : Nat} {f cc cda D : Addr} {name qual : Str} {params : Arguments} {p0 p1 apos cpos pos : Pos} {e : Expr} {es : List Expr} {rest : List Stmt} {scope : Scope}
    {dV kV doc pm ct oc ccl cl : Value} {an od cdd cld : Option Addr} {osl ccs csl : Array (Option Value)} {N ps : List Str} {sp : Sp} {ar : Arg} {vs0 : Array Value} {file : Str} {tf : Tok} {cdD : ClassData}
    (lk : K.lookup f = some ⟨oc, od, .func (PySem.W.ksFn name qual params (.Expr (.Call (.Attribute (.Call (.Name "super" p0) [] [] p1) "__init__" apos) (e :: es) [] cpos) pos :: rest) scope dV kV doc pm an (.ref cda) ct cc), osl⟩)
    (hcd : PySem.W.codeIn K (.ref cda) qual = true) (S : NScope N ps ["__class__"] scope) (hp : (params.posonlyargs ++ params.args).head? = some ar) (hps : ps[0]? = some ar.arg)
    (hcode : K.lookup cda = some ⟨ccl, cdd, .fields vs0, ccs⟩) (hvs : vs0[2]? = some (.str file tf)) (hfile : ((P.main.file : Str) == file) = true)
    (hcell : K.lookup cc = some ⟨cl, cld, .cell (some (.ref D)), csl⟩) (hD : PySem.W.clsIn K D = some cdD) (hks : scope.names.lookup ("super" : Str) = some .globalImplicit)
    (htop : (P.main.scope.names.lookup ("super" : Str)).isSome = false) (hsu : mg "super" = none) (hth : PySem.W.nsIn K cStatics "thirdparty.any" = some none)
    (len : ∀ vs H Q E, sp vs H Q E → vs.length = ps.length)
    (hbody : ∀ (A : Around) (outer : List Env) (s : Shared) (H : Hp) (vs : List V) (Q : VK) (E : XK), Room k (A.deeper (envF ⟨name, qual, params, (.Expr (.Call (.Attribute (.Call (.Name "super" p0) [] [] p1) "__init__" apos) (e :: es) [] cpos) pos :: rest), scope, [("__class__", cc)], cda⟩ f s.heap.objs.size)) → sp vs H Q E →
      ∃ ta t, PA (ncx CX P w K mg base N ⟨name, qual, params, (.Expr (.Call (.Attribute (.Call (.Name "super" p0) [] [] p1) "__init__" apos) (e :: es) [] cpos) pos :: rest), scope, [("__class__", cc)], cda⟩ f A outer s H E) (e :: es) ta ∧
        PSs (ncx CX P w K mg base N ⟨name, qual, params, (.Expr (.Call (.Attribute (.Call (.Name "super" p0) [] [] p1) "__init__" apos) (e :: es) [] cpos) pos :: rest), scope, [("__class__", cc)], cda⟩ f A outer s H E) rest t ∧
        tSup K D ta t { nx := fun _ H' => Q .non H', rt := Q } (startF N vs [none]) H)
    (he : ∀ env : Env, starEach (e :: es) env = (false, eval e env) :: starEach es env := by intro _; rfl) (hpl : ∀ env : Env, (backTo cpos (starEach es env)).any (·.1) = false := by intro _; rfl)
    {pl : Env → Sem Bool} (ht : ∀ env : Env, eval (.Call (.Attribute (.Call (.Name "super" p0) [] [] p1) "__init__" apos) (e :: es) [] cpos) env = (do
      let ov ← attributeBase (.Call (.Name "super" p0) [] [] p1) "__init__" env (eval (.Call (.Name "super" p0) [] [] p1) env)
      standAt apos.atName
      let (f, first) ← holding [ov] (getMethod ov "__init__" (pl env))
      callWith cpos f first (backTo cpos (starEach (e :: es) env)) []) := by intro _; rfl)
    (hs : ∀ env : Env, swapsWith (.Call (.Attribute (.Call (.Name "super" p0) [] [] p1) "__init__" apos) (e :: es) [] cpos) none pos.line env = pure false := by intro _; rfl) :
    FnOk P w K mg base CX (k + 1) f (PySem.W.ksFn name qual params (.Expr (.Call (.Attribute (.Call (.Name "super" p0) [] [] p1) "__init__" apos) (e :: es) [] cpos) pos :: rest) scope dV kV doc pm an (.ref cda) ct cc) ps sp := by
  refine ⟨len, fun A outer s H args us vs Q E hr e0 hb r hsp => ?_⟩
  have hl := len _ _ _ _ hsp
  have KX : K.In s.heap := e0.mod.kin.keeps fun b o e => (e0.bs b o e).1
  have lim : s.heap.NoLimit := e0.mod.nolimit.keeps fun b o e => (e0.bs b o e).1
  have KB : ∀ b o, K.lookup b = some o → base.get? b = some o := fun b o z => e0.mod.kin _ _ z
  refine ks_codeAny_call_defAt (fd := PySem.W.ksFn name qual params (.Expr (.Call (.Attribute (.Call (.Name "super" p0) [] [] p1) "__init__" apos) (e :: es) [] cpos) pos :: rest) scope dV kV doc pm an (.ref cda) ct cc) (binds := ps.zip us) hr.depth (KX _ _ lk) rfl lim (PySem.W.codeRec_of KX hcd) rfl hb S.nocell
    (fun ⟨n, _⟩ hy => S.par n (List.of_mem_zip hy).1) (fun h₁ hns kp => ?_) S.co S.gen S.kind
  obtain ⟨ta, t, hA, hR, a, C, h0, T, ea, hm, hsi, hsub, hta⟩ := hbody A outer s H vs Q E (hr.deeper _) hsp
  have C0 : CellsAt [(("__class__" : Str), cc)] ["__class__"] [none] s.heap H := by
    refine ⟨rfl, fun y c z => ?_, fun x y c z1 z2 => ?_, fun i y z => ?_⟩
    · have e1 : (y, c) ∈ [(("__class__" : Str), cc)] := PySem.mem_of_lookup z
      have e2 : (y, c) = (("__class__" : Str), cc) := List.mem_singleton.mp e1
      cases e2
      exact ⟨(e0.bs _ _ (KB _ _ hcell)).2, _, _, KX _ _ hcell, rfl⟩
    · have e1 : (x, c) ∈ [(("__class__" : Str), cc)] := PySem.mem_of_lookup z1
      have e2 : (y, c) ∈ [(("__class__" : Str), cc)] := PySem.mem_of_lookup z2
      have e3 : (x, c) = (("__class__" : Str), cc) := List.mem_singleton.mp e1
      have e4 : (y, c) = (("__class__" : Str), cc) := List.mem_singleton.mp e2
      cases e3
      cases e4
      rfl
    · cases i with
      | zero =>
        have : ("__class__" : Str) = y := by simpa using z
        subst this
        exact ⟨cc, by simp [List.lookup], fun v q => by simp at q⟩
      | succ i => simp at z
  have I := inv_startN (CX := CX) (tk := s.toks + (ps.zip us).length) (F := ⟨name, qual, params, (.Expr (.Call (.Attribute (.Call (.Name "super" p0) [] [] p1) "__init__" apos) (e :: es) [] cpos) pos :: rest), scope, [("__class__", cc)], cda⟩) (f := f) (E := E) S hr.hd e0 hl r C0 hns kp
  obtain ⟨m, hn, hlk⟩ := id I.loc
  obtain ⟨mb, b1, b2⟩ := id I.mod.blt
  have hN0 : N[0]? = some ar.arg := by
    have q := S.pre
    cases ps with
    | nil => simp at hps
    | cons p ps =>
      have e1 : p = ar.arg := by simpa using hps
      subst e1
      cases N with
      | nil => simp at q
      | cons n N =>
        have q' : n :: N.take (ps.length + 1) = ar.arg :: (ps ++ [("__class__" : Str)]) := by
          have : (ar.arg :: ps).length + [("__class__" : Str)].length = ps.length + 1 + 1 := rfl
          rw [this, List.take_succ_cons] at q
          exact q
        injection q' with q1 q2
        rw [q1]
        rfl
  have hka : scope.names.lookup ar.arg = some .local := S.par _ (List.mem_of_getElem? hps)
  obtain ⟨u0, ru, lku⟩ := hlk 0 ar.arg (.ref a) hN0 h0 (.inl hka)
  have hma : m ar.arg = some (.ref a) := by
    cases ru
    rcases lku with ⟨_, z⟩ | ⟨z, _⟩
    · exact z
    · have z' : scope.names.lookup ar.arg = some .cell ∨ scope.names.lookup ar.arg = some .free := z
      rw [hka] at z'
      rcases z' with z' | z' <;> cases z'
  have hkc : scope.names.lookup ("__class__" : Str) = some .free := S.frk _ (List.mem_singleton_self _)
  obtain ⟨t1, hoa⟩ := exo_at I.hok ea
  obtain ⟨oD, hD1, hD2⟩ : ∃ oD, h₁.get? D = some oD ∧ oD.data = .cls cdD := by
    unfold PySem.W.clsIn at hD
    split at hD
    · rename_i c d cd' sl ho
      cases hD
      exact ⟨_, kp _ _ (KX _ _ ho), rfl⟩
    · cases hD
  obtain ⟨nmC, qC, NC, bsC, bmC, snC, subC, abC, colC, ddC, k0, k1, k2, k3, k5, hC, hbm⟩ := id T.cls
  obtain ⟨cd, hc⟩ : ∃ cd, PySem.W.clsIn K C = some cd := ⟨_, by unfold PySem.W.clsIn; rw [hC] <;> rfl⟩
  unfold PySem.W.ks_superIn at hsi
  rw [hc] at hsi
  have J0 : PySem.W.InstAt h₁ a { cls := .ref C, dict := none, data := .fields #[.ref t1, .none, .none, .none, .bool false, .none] } C none := ⟨hoa, rfl, rfl, trivial⟩
  have X1 : K.In h₁ := KX.keeps kp
  have hi : interactive (envF ⟨name, qual, params, (.Expr (.Call (.Attribute (.Call (.Name "super" p0) [] [] p1) "__init__" apos) (e :: es) [] cpos) pos :: rest), scope, [("__class__", cc)], cda⟩ f s.heap.objs.size) = false := by
    have := S.kind
    simp [interactive, this]
  obtain ⟨hh, g, d, tk, os⟩ := s
  refine ks_wpAt_execs_cons (ks_wpAt_Expr_any (ks_wpAt_MethodCall ?_ (ht _)) hi (hs _))
  refine ks_wpAt_super_base hks hkc (by decide) rfl (X1 _ _ lk) rfl hp rfl (X1 _ _ hcode) rfl hvs hfile htop ?_
  refine PySem.W.ks_loadName_global S.kind hks (Calls.loadGlobal_builtin (I.mod.glob.keeps I.bk) hsu (b1.keeps I.bk) ((b2 _ (by decide)).trans (by decide +kernel : bootBuiltins "super" = some (.type "super"))) ⟨rfl, ?_⟩)
  refine wpAny_loadName_free S.kind hkc rfl ⟨_, X1 _ _ hcell, rfl⟩ ?_
  refine wpAny_loadName_local S.kind hka hn hma ?_
  refine ks_wpAny_isType_cls hD1 hD2 ⟨rfl, ?_⟩
  refine ks_wpAny_call_super hD1 hD2 hoa rfl (fun c e => by cases e) (PySem.W.looks_mroIn X1 hm) (fun h2 so k2 => ?_)
  have I2 := I.kept (h' := h2) (t' := tk + (ps.zip us).length) k2
  obtain ⟨t2, hoa2⟩ := exo_at I2.hok ea
  have X2 : K.In h2 := X1.keeps k2
  have J2 : PySem.W.InstAt h2 a { cls := .ref C, dict := none, data := .fields #[.ref t2, .none, .none, .none, .bool false, .none] } C none := ⟨hoa2, rfl, rfl, trivial⟩
  refine PySem.W.kxs_getMethod PySem.W.kxs_ValueError so (PySem.W.looks_opaque X2 hth) (l₀ := cd.mro) (fun A Q E s k q => wpAny_bind ((PySem.W.looks_clsIn X2 hc) A _ E s k (wpAny_pure q))) rfl X2 hsi (J2.type.andThen (PySem.W.looks_subIn X2 hsub)) (PySem.W.ks_ne X2 J2 hc) (by decide) ?_
  have k3 : ∀ b o, h2.get? b = some o → (h2.push (PySem.W.kxs_mw "ValueError.__init__" a)).get? b = some o := fun b o z => Heap.get?_push_of_some _ z
  have I3 := I2.kept (h' := h2.push (PySem.W.kxs_mw "ValueError.__init__" a)) (t' := tk + (ps.zip us).length + 1) k3
  have hu : (h2.push (PySem.W.kxs_mw "ValueError.__init__" a)).get? h2.objs.size = some (PySem.W.kxs_mw "ValueError.__init__" a) := Heap.get?_push_size _ rfl
  have I4 := I3.pins_of (pins' := [(h2.objs.size, PySem.W.kxs_mw "ValueError.__init__" a)]) fun p hp => by
    have e1 : p = (h2.objs.size, PySem.W.kxs_mw "ValueError.__init__" a) := by simpa using hp
    subst e1
    exact ⟨hu, I2.hok.fresh (Nat.le_refl _), Nat.ne_of_gt I2.lt, I2.nofs (Nat.le_refl _), fun v z => by cases z⟩
  show wpAny _ _ (callWith cpos (.ref h2.objs.size) [] (backTo cpos (starEach (e :: es) _)) []) _ _ _
  have hrun := hA.run cpos _ _ _ _ _ I4 hta
  rw [he] at hrun ⊢
  refine PySem.W.kxs_callWith (i := "ValueError.__init__") (x := a) (by show (false || (backTo cpos (starEach es _)).any (·.1)) = false; rw [hpl]; rfl) ?_
  refine Calls.evalArgs_plain (wpAny_mono hrun (fun us1 s1 hq => ?_) fun _ _ z => z)
  obtain ⟨ws, H1, I5, r5, hz5, ea5, q5⟩ := hq
  have hu5 := (I5.pin (h2.objs.size, PySem.W.kxs_mw "ValueError.__init__" a) (List.mem_append_right _ (List.mem_singleton_self _))).1
  refine ⟨hu5, ?_⟩
  refine call_mw (X := ncx CX P w K mg base N ⟨name, qual, params, (.Expr (.Call (.Attribute (.Call (.Name "super" p0) [] [] p1) "__init__" apos) (e :: es) [] cpos) pos :: rest), scope, [("__class__", cc)], cda⟩ f A outer ⟨hh, g, d, tk, os⟩ H E) T I5 ea5 hu5 (by
    have := r5.length
    rw [sizeLine_eq]
    show us1.length ≤ _
    omega) fun s6 I6 => ?_
  refine wpAt_of_wpAny ?_
  have I7 := I6.pins_of (pins' := []) fun p hp => by simp at hp
  refine wpAny_mono (hR.run [] s6 _ H1 _ I7 q5) (fun fl s' hs => ?_) fun e s' hs => hs
  have fin : ∀ {σ' : L2.St} {H' : Hp} {v : V} {u : Value}, Inv (ncx CX P w K mg base N ⟨name, qual, params, (.Expr (.Call (.Attribute (.Call (.Name "super" p0) [] [] p1) "__init__" apos) (e :: es) [] cpos) pos :: rest), scope, [("__class__", cc)], cda⟩ f A outer ⟨hh, g, d, tk, os⟩ H E) [] σ' H' s' → L2.RelV v u → Q v H' → CE outer P w H ⟨hh, g, d, tk, os⟩ Q u s' :=
    fun {σ' H' v u} J rv q => ⟨v, H', J.os, J.bare, J.base, J.hok, rv, q⟩
  cases fl with
  | ret u =>
    obtain ⟨v, σ', H', J, rv, q⟩ := hs
    exact fin J rv q
  | next =>
    obtain ⟨σ', H', J, q⟩ := hs
    exact fin (v := V.non) (u := Value.none) J rfl q
  | brk =>
    obtain ⟨_, _, _, q⟩ := hs
    exact False.elim q
  | cont =>
    obtain ⟨_, _, _, q⟩ := hs
    exact False.elim q
end SB

/-! Several except clauses with names; exceptions made; a def that tells what was raised. -/
namespace SB
open PySem PySem.Spec PyProof.Rows L2 NdefX
/-- the ends of a suite whose name (slot i) goes behind it -/
def Ends.gone (D : Ends) (i : Nat) : Ends := { nx := fun σ' H' => D.nx (σ'.set i none) H', rt := D.rt, bk := fun σ' H' => D.bk (σ'.set i none) H', ct := fun σ' H' => D.ct (σ'.set i none) H' }
/-- what the named clauses wish, one after the other -/
def wManyAs (K : PySem.W.Frag) (i : Nat) (Wout : WX) (D : Ends) : List (Value × (Addr → Value → Option Addr → TS)) → WX
  | [] => Wout
  | (c, ts) :: r => fun cls d σ H => ∃ b, PySem.W.exmOne K cls c = some b ∧ (b = true → ∀ a, H a = none → ts a cls d (Ends.gone D i) (σ.set i (some (.ref a))) H) ∧ (b = false → wManyAs K i Wout D r cls d σ H)
inductive HdsAs (X : Cx) (n : Str) : List ExceptHandler → List (Value × (Addr → Value → Option Addr → TS)) → Prop
  | nil : HdsAs X n [] []
  | cons {x : Str} {c : Value} {ts : Addr → Value → Option Addr → TS} {b₀ : Stmt} {suite : List Stmt} {np pos' : Pos} {hds : List ExceptHandler} {l : List (Value × (Addr → Value → Option Addr → TS))} (hc : Names X x c)
      (hsu : ∀ (a : Addr) (oe : Obj) (cls : Value) (d : Option Addr) (pn : List (Addr × Obj)), Zc cls d oe → (∃ vs, oe.data = .fields vs) → PSs (X.suite a ((a, oe) :: pn)) (b₀ :: suite) (ts a cls d)) (r : HdsAs X n hds l) :
      HdsAs X n (.ExceptHandler (some (.Name x np)) (some n) (b₀ :: suite) pos' :: hds) ((c, ts) :: l)
section
variable {X : Cx} {body : List Stmt} {n : Str} {i : Nat} {h₀ : ExceptHandler} {hds : List ExceptHandler} {l : List (Value × (Addr → Value → Option Addr → TS))} {pos : Pos} {tb : WX → TS} {Wout : WX}
theorem ps_try_manyAs (hs : X.stack = X.env :: X.outer) (hf : X.env.frame = some X.env.locals) (hN : X.N.Nodup) (hi : X.N[i]? = some n) (hln : X.env.kindOf n = some .local) (tk : Takes X Wout)
    (hb : ∀ (W : WX) (pn : List (Addr × Obj)) (xe : Value → Shared → Prop), Takes (X.tr pn xe) W → PassesOwn (model X.prog X.w) X.A X.env xe → PSs (X.tr pn xe) body (tb W))
    (hh : HdsAs X n (h₀ :: hds) l) : PS X (.Try body (h₀ :: hds) [] [] pos) (fun D σ H => tb (wManyAs X.K i Wout D l) D σ H) := by
  refine ⟨fun pins s σ H D I h => ?_⟩
  have okX := I.ok
  have frX : X.A.frames = some (X.env :: X.outer) := by rw [okX.frames, hs]
  have locn : Loc X.env.scope n := .inl hln
  refine wpAny_Try_except ?_
  refine wpAny_mono ((hb (wManyAs X.K i Wout D l) (X.pn ++ pins) (fun e s₁ => wpAny (model X.prog X.w) X.A (noteFrame e X.env) (fun _ s₂ => wpAny (model X.prog X.w) X.A (setFlight e none) (fun _ s₃ =>
    wpAny (model X.prog X.w) X.A (handleBy e X.env (h₀ :: hds)) (SP X pins D) X.xe s₃) X.xe s₂) X.xe s₁) (fun u s' xx => ?_) PassesOwn.looking).run [] s σ H D (I.toTry _) h) (fun f s1 hsp => ?_) (fun e s1 he => he)
  · obtain ⟨a, B, sI, pins', σ', H', cls, d, rfl, JT, nb, up, sky, na, os, ag, wsh⟩ := xx
    have J : Inv X pins σ' H' sI := JT.ofTry okX
    have skyX : Sky B (X.env :: X.outer) a (Zc cls d) X.env.locals s'.heap := by rw [← hs]; exact sky
    show wpAny (model X.prog X.w) X.A (noteFrame (.ref a) X.env) _ _ _
    refine Sky.land Zc.steady frX hf skyX fun h3 fl3 up3 => ?_
    have J3 : Inv X pins σ' H' { s' with heap := h3 } := J.landed nb fl3.1 (up.trans up3) os ag
    obtain ⟨oe3, vs3, at3, z3, dt3⟩ := fl3.there
    have nfr : a ∉ frs (X.env :: X.outer) := fun hm => by
      obtain ⟨_, o', e', hnf⟩ := fl3.2.2.1.mem hm
      rw [at3] at e'
      cases e'
      exact hnf _ dt3
    have nL : a ≠ X.env.locals := fun z => nfr (List.mem_filterMap.mpr ⟨X.env, List.mem_cons_self, by rw [hf, z]⟩)
    have nF : a ∉ X.fs := fun hm => by
      obtain ⟨e, he, q⟩ := List.mem_filterMap.mp hm
      exact nfr (List.mem_filterMap.mpr ⟨e, List.mem_cons_of_mem _ he, q⟩)
    have S3 := J3.suite at3 dt3 na nL nF
    have go : ∀ {hd2 : List ExceptHandler} {l2 : List (Value × (Addr → Value → Option Addr → TS))}, HdsAs X n hd2 l2 → wManyAs X.K i Wout D l2 cls d σ' H' →
        wpAny (model X.prog X.w) X.A (handleBy (.ref a) X.env hd2) (SP X pins D) X.xe { s' with heap := h3 } := by
      intro hd2 l2 hk
      induction hk with
      | nil =>
        intro w
        refine wpAny_handleBy_nil ?_
        obtain ⟨_, _, _, oe, vs, T, oT, ts', he, hz, hd, h1, _⟩ := id fl3
        unfold PySem.passOn
        refine wpAny_bind (wpAny_field he hd h1 ?_)
        rw [if_neg (show ¬ ((Value.ref T == Value.none) = true) from by simp)]
        have fin : wpAny (model X.prog X.w) X.A (setFlight (.ref a) X.env.frame) (fun _ s4 => wpAny (model X.prog X.w) X.A (throw (.ref a) : Sem Flow) (SP X pins D) X.xe s4) X.xe { s' with heap := h3 } := by
          rw [hf]
          refine HandSPX.setFlight_upZ fl3 fun h4 hh4 up4 => wpAny_throw (tk _ _ ?_)
          exact ⟨a, B, sI, pins, σ', H', cls, d, rfl, J, nb, (up.trans up3).trans up4, .inr (.inr (by rw [hs]; exact hh4)), na, os, ag, w⟩
        first
          | exact wpAny_bind (wpAny_pure (wpAny_bind fin))
          | exact wpAny_bind fin
      | @cons x c ts b₀ suite np pos' hds2 l3 hc hsu r ih =>
        intro w
        obtain ⟨b, hb1, yes, no⟩ := w
        refine wpAny_handleBy_cons (codeAny_handlers_test ?_) (by intro q; cases q)
        have lt : PySem.W.Looks (model X.prog X.w) h3 (typeOf (.ref a)) cls := fun A Q E s k q => wpAny_typeOf_ref (k _ _ at3) (by rw [z3.1]; exact q)
        have lm := PySem.W.exm_one (M := model X.prog X.w) (J3.kIn) lt hb1
        have tst : ∀ {Q : Value → Shared → Prop} {E : Value → Shared → Prop}, Q c { s' with heap := h3 } → wpAny (model X.prog X.w) (X.A.mark (some (.ref a))) (eval (.Name x np) X.env) Q E { s' with heap := h3 } := fun {Q E} q => by
          obtain ⟨hg, hdbg, hm | ⟨hm, hv, hnn⟩⟩ := hc
          · exact ld_glob (X := X.suite a ((a, oe3) :: (X.pn ++ pins))) S3 hg hm q hdbg
          · exact ld_blt (X := X.suite a ((a, oe3) :: (X.pn ++ pins))) S3 hg hm hv q hnn hdbg
        refine tst (lm.here ?_)
        cases b with
        | true =>
          refine codeAny_handlers_suite_as ?_
          refine HandSPX.lands_againZ fl3 fun h4 fl4 up4 => ?_
          have J4 : Inv X pins σ' H' { s' with heap := h4 } := J.landed nb fl4.1 ((up.trans up3).trans up4) os ag
          obtain ⟨oe4, vs4, at4, z4, dt4⟩ := fl4.there
          have S4 := J4.suite at4 dt4 na nL nF
          refine store_ok (X := X.suite a ((a, oe4) :: (X.pn ++ pins))) (v := .ref a) S4 hN hi locn rfl (fun s5 S5 => ?_) (.inr hln)
          refine wpAny_mono ((hsu a oe4 cls d (X.pn ++ pins) z4 ⟨_, dt4⟩).run [] s5 _ H' _ S5 (yes rfl a na)) (fun f s6 hsp => ?_) (fun _ _ z => False.elim z)
          have fin : ∀ {σ6 : L2.St} {H6 : Hp} {Q : Shared → Prop}, Inv (X.suite a ((a, oe4) :: (X.pn ++ pins))) [] σ6 H6 s6 → (∀ s7, Inv X pins (σ6.set i none) H6 s7 → Q s7) →
              wpAny (model X.prog X.w) X.A (do bindName X.env n .none; unbindBehindTheSuite X.env n pos') (fun _ s7 => Q s7) X.xe s6 := fun {σ6 H6 Q} S6 hq => gone_ok (S6.unsuite okX) hN hi hln hq
          cases f with
          | next =>
            obtain ⟨_, _, S6, q6⟩ := hsp
            exact fin S6 fun s7 J7 => ⟨_, _, J7, q6⟩
          | brk =>
            obtain ⟨_, _, S6, q6⟩ := hsp
            exact fin S6 fun s7 J7 => ⟨_, _, J7, q6⟩
          | cont =>
            obtain ⟨_, _, S6, q6⟩ := hsp
            exact fin S6 fun s7 J7 => ⟨_, _, J7, q6⟩
          | ret u =>
            obtain ⟨_, _, _, S6, r6, q6⟩ := hsp
            exact fin S6 fun s7 J7 => ⟨_, _, _, J7, r6, q6⟩
        | false =>
          show wpAny _ X.A (handleBy (.ref a) X.env hds2) _ _ _
          exact ih (no rfl)
    exact go hh wsh
  · cases f with
    | next =>
      obtain ⟨_, _, JT, q⟩ := hsp
      exact wpAny_execs_nil ⟨_, _, JT.ofTry okX, q⟩
    | brk =>
      obtain ⟨_, _, JT, q⟩ := hsp
      exact ⟨_, _, JT.ofTry okX, q⟩
    | cont =>
      obtain ⟨_, _, JT, q⟩ := hsp
      exact ⟨_, _, JT.ofTry okX, q⟩
    | ret u =>
      obtain ⟨_, _, _, JT, r, q⟩ := hsp
      exact ⟨_, _, _, JT.ofTry okX, r, q⟩
end

/-! ### exceptions with fields, made -/
/-- an exception's __init__ that lays its arguments as the fields ns -/
def spExc (C : Addr) (ns : List Str) : Sp := fun vs H Q _ => ∃ (a : Addr) (ws : List V), vs = .ref a :: ws ∧ ws.length = ns.length ∧ H a = some (exo a C none) ∧
  ∀ (d : Addr) (H2 : Hp), H d = none → d ≠ a → H2 a = some (exo a C (some d)) → H2 d = some (exd d (ns.zip ws).reverse) → (∀ b, b ≠ a → b ≠ d → H2 b = H b) → Q .non H2
/-- the module's name x holds the exception class at C -/
structure Xc (P : Program) (w : World) (K : PySem.W.Frag) (mg : Str → Option Value) (base : Heap) (k : Nat) (x : Str) (C : Addr) (ns : List Str) : Prop where
  ex : ∃ (fI : Addr) (fd : FuncData) (ps : List Str), OexC K C ∧ PySem.W.findIn K (.ref C) "__init__" = some (some (.ref fI)) ∧ PySem.W.typeIn K (.ref fI) = some (.type "function") ∧ FnOk P w K mg base CX0 k fI fd ps (spExc C ns) ∧ Binds K fd ps [] ∧ mg x = some (.ref C)
/-- the reading of x(e, ..) in a raise -/
def tX (C : Addr) (ns : List Str) (ta : TA) : L2.St → Hp → XK → Prop := fun σ H Q => ta σ H fun vs H1 => vs.length = ns.length ∧ vs.length ≤ 1000 ∧ ∀ d, H1 d = none → Q (.ref C) (some d) (upd H1 d (.xd (ns.zip vs).reverse))
theorem pmk_x {X : Cx} {x : Str} {C : Addr} {ns : List Str} {k j : Nat} {e : Expr} {es : List Expr} {ta : TA} {p pos : Pos} (c : Xc X.prog X.w X.K X.mg X.base k x C ns) (hr : Room j X.A) (hk : k + 1 ≤ j) (hg : Gl X x) (ha : PA X (e :: es) ta)
    (hdb : (x == ("__debug__" : Str)) = false := by decide) (he : starEach (e :: es) X.env = (false, eval e X.env) :: starEach es X.env := by rfl) (hpl : (backTo pos (starEach es X.env)).any (·.1) = false := by rfl) :
    PMk X (.Call (.Name x p) (e :: es) [] pos) (tX C ns ta) := by
  obtain ⟨fI, fd, ps, T, iC, tI, F1, hb, hm⟩ := c.ex
  intro pins s σ H Q I h
  have im : PA X (e :: es) (fun σ H Q => ∃ R : List V → Hp → Prop, ta σ H R ∧ ∀ vs H1, R vs H1 → Q vs H1) := ⟨fun pos pins s σ H Q I ⟨R, h1, h2⟩ => wpAny_mono (ha.run pos pins s σ H R I h1) (fun us s1 ⟨vs, H1, I1, r, q⟩ => ⟨vs, H1, I1, r, h2 _ _ q⟩) fun _ _ z => z⟩
  refine pmk_oex (CX := CX0) (dvs := []) T iC tI F1 (hr.mono hk) hb .nil (fun _ _ _ _ _ _ _ z => z.elim) hg hm im hdb he hpl pins s σ H Q I ⟨_, h, fun vs H1 hq => ?_⟩
  obtain ⟨hl, hz, q⟩ := hq
  refine ⟨hz, fun a na => ⟨a, vs, by rw [List.append_nil], hl, upd_same, fun d H2 nd nda ea ed same => ⟨rfl, d, _, ea, ed, ?_, ?_⟩⟩⟩
  · rw [upd_ne nda] at nd
    exact nd
  · have nd' : H1 d = none := by
      rw [upd_ne nda] at nd
      exact nd
    have e1 : upd (del H2 a) d (.xd (ns.zip vs).reverse) = upd H1 d (.xd (ns.zip vs).reverse) := by
      funext b
      by_cases hbd : b = d
      · rw [hbd, upd_same, upd_same]
      · rw [upd_ne hbd, upd_ne hbd]
        by_cases hba : b = a
        · rw [hba, del_same, na]
        · rw [del_ne hba, same b hba hbd, upd_ne hba]
    rw [e1]
    exact q d nd'
/-- what the top says of an exception's class at C with its __init__ at fI -/
structure XcF (P : Program) (K : PySem.W.Frag) (mg : Str → Option Value) (x : Str) (C fI : Addr) : Prop where
  oex : OexC K C
  ini : PySem.W.findIn K (.ref C) "__init__" = some (some (.ref fI))
  tyI : PySem.W.typeIn K (.ref fI) = some (.type "function")
  cls : ∃ cd, PySem.W.clsIn K C = some cd
  mro : PySem.W.mroIn K C (.ref C) = some true
  sup : PySem.W.ks_superIn K C C "__init__" = some (some (.builtin "ValueError.__init__"))
  sub : PySem.W.subIn K (.ref C) (.type "ValueError") = some true
  thi : PySem.W.nsIn K cStatics "thirdparty.any" = some none
  top : (P.main.scope.names.lookup ("super" : Str)).isSome = false
  nsu : mg "super" = none
  nam : mg x = some (.ref C)
/-- its code object's file -/
def FileIs (P : Program) (K : PySem.W.Frag) (cda : Addr) : Prop := ∃ ccl cdd vs0 ccs file tf, K.lookup cda = some ⟨ccl, cdd, .fields vs0, ccs⟩ ∧ vs0[2]? = some (.str file tf) ∧ ((P.main.file : Str) == file) = true
def CellIs (K : PySem.W.Frag) (cc C : Addr) : Prop := ∃ cl cld csl, K.lookup cc = some ⟨cl, cld, .cell (some (.ref C)), csl⟩
section
variable {P : Program} {w : World} {K : PySem.W.Frag} {mg : Str → Option Value} {base : Heap} {x : Str} {C f cc cda : Addr} {qual : Str} {params : Arguments} {p0 p1 apos cpos pos q1 q2 q3 q4 q5 q6 q7 q8 ps1 : Pos} {msg : Str} {j : Nat} {scope : Scope} {dV kV doc pm ct oc : Value} {an od : Option Addr} {osl : Array (Option Value)} {ar : Arg} {v v2 f1 f2 : Str}
/-- one field -/
theorem ok_x1 (T : XcF P K mg x C f)
    (lk : K.lookup f = some ⟨oc, od, .func (PySem.W.ksFn "__init__" qual params [.Expr (.Call (.Attribute (.Call (.Name "super" p0) [] [] p1) "__init__" apos) [.Constant (.str msg) j ps1] [] cpos) pos, .Assign [.Attribute (.Name "self" q1) f1 q2] (.Name v q3) q4] scope dV kV doc pm an (.ref cda) ct cc), osl⟩)
    (hcd : PySem.W.codeIn K (.ref cda) qual = true) (S : NScope ["self", v, "__class__"] ["self", v] ["__class__"] scope) (hp : (params.posonlyargs ++ params.args).head? = some ar) (har : ar.arg = "self") (hF : FileIs P K cda) (hc : CellIs K cc C)
    (hks : scope.names.lookup ("super" : Str) = some .globalImplicit) (hno : PySem.W.findIn K (.ref C) f1 = some none) (hv1 : (v == ("__debug__" : Str)) = false) (hv2 : (v == ("__classdict__" : Str)) = false) (hb : Binds K (PySem.W.ksFn "__init__" qual params [.Expr (.Call (.Attribute (.Call (.Name "super" p0) [] [] p1) "__init__" apos) [.Constant (.str msg) j ps1] [] cpos) pos, .Assign [.Attribute (.Name "self" q1) f1 q2] (.Name v q3) q4] scope dV kV doc pm an (.ref cda) ct cc) ["self", v] [])
    {pl : Env → Sem Bool} (ht : ∀ env : Env, eval (.Call (.Attribute (.Call (.Name "super" p0) [] [] p1) "__init__" apos) [.Constant (.str msg) j ps1] [] cpos) env = (do
      let ov ← attributeBase (.Call (.Name "super" p0) [] [] p1) "__init__" env (eval (.Call (.Name "super" p0) [] [] p1) env)
      standAt apos.atName
      let (f, first) ← holding [ov] (getMethod ov "__init__" (pl env))
      callWith cpos f first (backTo cpos (starEach [.Constant (.str msg) j ps1] env)) []) := by intro _; rfl) : Xc P w K mg base 1 x C [f1] := by
  obtain ⟨ccl, cdd, vs0, ccs, file, tf, h1, h2, h3⟩ := hF
  obtain ⟨cl, cld, csl, h4⟩ := hc
  obtain ⟨cd, h5⟩ := T.cls
  refine ⟨f, _, ["self", v], T.oex, T.ini, T.tyI, ?_, hb, T.nam⟩
  refine fn_sup (CX := CX0) (k := 0) (N := ["self", v, "__class__"]) lk hcd S hp (by rw [har]; rfl) h1 h2 h3 h4 h5 hks T.top T.nsu T.thi (fun vs H Q E h => ?_) (fun A outer s H vs Q E hr h => ?_) (fun _ => rfl) (fun _ => rfl) ht
  · obtain ⟨a, ws, rfl, hl, _⟩ := h
    show ws.length + 1 = 2
    rw [hl] <;> rfl
  · obtain ⟨a, ws, rfl, hl, ea, k⟩ := h
    match ws, hl with
    | [y], _ =>
      refine ⟨_, _, pa_cons pe_str pa_nil, pss_one (ps_ost (pe_var (i := 0) rfl (.inl (S.par _ (by simp)))) (pe_var (i := 1) rfl (.inl (S.par _ (by simp))) hv1 hv2)), ?_⟩
      refine ⟨a, C, rfl, T.oex, ea, T.mro, T.sup, T.sub, ?_⟩
      refine ⟨by show 1 ≤ 1000; decide, ea, ?_⟩
      refine ⟨y, rfl, .ref a, rfl, a, C, rfl, T.oex, hno, .inl ⟨ea, fun dx nd ne => ?_⟩⟩
      exact k dx _ nd ne upd_same (by rw [upd_ne ne, upd_same]; rfl) fun b h1 h2 => by rw [upd_ne h1, upd_ne h2]
/-- two fields -/
theorem ok_x2 (T : XcF P K mg x C f)
    (lk : K.lookup f = some ⟨oc, od, .func (PySem.W.ksFn "__init__" qual params [.Expr (.Call (.Attribute (.Call (.Name "super" p0) [] [] p1) "__init__" apos) [.Constant (.str msg) j ps1] [] cpos) pos, .Assign [.Attribute (.Name "self" q1) f1 q2] (.Name v q3) q4, .Assign [.Attribute (.Name "self" q5) f2 q6] (.Name v2 q7) q8] scope dV kV doc pm an (.ref cda) ct cc), osl⟩)
    (hcd : PySem.W.codeIn K (.ref cda) qual = true) (S : NScope ["self", v, v2, "__class__"] ["self", v, v2] ["__class__"] scope) (hp : (params.posonlyargs ++ params.args).head? = some ar) (har : ar.arg = "self") (hF : FileIs P K cda) (hc : CellIs K cc C)
    (hks : scope.names.lookup ("super" : Str) = some .globalImplicit) (hno : PySem.W.findIn K (.ref C) f1 = some none) (hno2 : PySem.W.findIn K (.ref C) f2 = some none) (hv1 : (v == ("__debug__" : Str)) = false) (hv2 : (v == ("__classdict__" : Str)) = false) (hw1 : (v2 == ("__debug__" : Str)) = false) (hw2 : (v2 == ("__classdict__" : Str)) = false)
    (hb : Binds K (PySem.W.ksFn "__init__" qual params [.Expr (.Call (.Attribute (.Call (.Name "super" p0) [] [] p1) "__init__" apos) [.Constant (.str msg) j ps1] [] cpos) pos, .Assign [.Attribute (.Name "self" q1) f1 q2] (.Name v q3) q4, .Assign [.Attribute (.Name "self" q5) f2 q6] (.Name v2 q7) q8] scope dV kV doc pm an (.ref cda) ct cc) ["self", v, v2] [])
    {pl : Env → Sem Bool} (ht : ∀ env : Env, eval (.Call (.Attribute (.Call (.Name "super" p0) [] [] p1) "__init__" apos) [.Constant (.str msg) j ps1] [] cpos) env = (do
      let ov ← attributeBase (.Call (.Name "super" p0) [] [] p1) "__init__" env (eval (.Call (.Name "super" p0) [] [] p1) env)
      standAt apos.atName
      let (f, first) ← holding [ov] (getMethod ov "__init__" (pl env))
      callWith cpos f first (backTo cpos (starEach [.Constant (.str msg) j ps1] env)) []) := by intro _; rfl) : Xc P w K mg base 1 x C [f1, f2] := by
  obtain ⟨ccl, cdd, vs0, ccs, file, tf, h1, h2, h3⟩ := hF
  obtain ⟨cl, cld, csl, h4⟩ := hc
  obtain ⟨cd, h5⟩ := T.cls
  refine ⟨f, _, ["self", v, v2], T.oex, T.ini, T.tyI, ?_, hb, T.nam⟩
  refine fn_sup (CX := CX0) (k := 0) (N := ["self", v, v2, "__class__"]) lk hcd S hp (by rw [har]; rfl) h1 h2 h3 h4 h5 hks T.top T.nsu T.thi (fun vs H Q E h => ?_) (fun A outer s H vs Q E hr h => ?_) (fun _ => rfl) (fun _ => rfl) ht
  · obtain ⟨a, ws, rfl, hl, _⟩ := h
    show ws.length + 1 = 3
    rw [hl] <;> rfl
  · obtain ⟨a, ws, rfl, hl, ea, k⟩ := h
    match ws, hl with
    | [y, z], _ =>
      refine ⟨_, _, pa_cons pe_str pa_nil, pss_cons (ps_ost (pe_var (i := 0) rfl (.inl (S.par _ (by simp)))) (pe_var (i := 1) rfl (.inl (S.par _ (by simp))) hv1 hv2)) (pss_one (ps_ost (pe_var (i := 0) rfl (.inl (S.par _ (by simp)))) (pe_var (i := 2) rfl (.inl (S.par _ (by simp))) hw1 hw2))), ?_⟩
      refine ⟨a, C, rfl, T.oex, ea, T.mro, T.sup, T.sub, ?_⟩
      refine ⟨by show 1 ≤ 1000; decide, ea, ?_⟩
      refine ⟨y, rfl, .ref a, rfl, a, C, rfl, T.oex, hno, .inl ⟨ea, fun dx nd ne => ?_⟩⟩
      refine ⟨z, rfl, .ref a, rfl, a, C, rfl, T.oex, hno2, .inr ⟨dx, _, upd_same, by rw [upd_ne ne, upd_same], by show 1 ≤ 900; decide, ?_⟩⟩
      exact k dx _ nd ne (by rw [upd_ne (Ne.symm ne), upd_same]) (by rw [upd_same]; rfl) fun b h1 h2 => by rw [upd_ne h2, upd_ne h1, upd_ne h2]
end
end SB

/-! A def that tells what the handed lambda raises: («name», fields ..) or None. -/
namespace SB
open PySem PySem.Spec PyProof.Rows L2 NdefX LamX
/-- a clause: the class, the told name, the told fields -/
abbrev Rc := Addr × Str × List Str
/-- what is told of an exception with the dict at d -/
def ToldX (d : Option Addr) (H : Hp) (nm : Str) (fs : List Str) (Q : VK) : Prop := ∃ (dd : Addr) (kvs : List (Str × V)) (vs : List V), d = some dd ∧ H dd = some (.xd kvs) ∧ fs.map (fun f => kvs.lookup f) = vs.map some ∧ vs.length ≤ 10 ∧ ∀ p, H p = none → Q (.ref p) (upd H p (.tup (.str nm :: vs)))
def RfW (L : List Rc) (Q : VK) : XK := fun cls d H => ∃ (C : Addr) (nm : Str) (fs : List Str), (C, nm, fs) ∈ L ∧ cls = .ref C ∧ ToldX d H nm fs Q
def TTref (L : List Rc) : (XK → Hp → VK → Prop) → Hp → VK → Prop := fun tl H Q => tl (RfW L Q) H fun _ H' => Q .non H'
def taF (a : Addr) (cls : Value) (d : Option Addr) (C : Addr) : List Str → TA
  | [] => tNil
  | f :: r => tCons (tXf a cls d C f (tVar 1)) (taF a cls d C r)
def tsR (r : Rc) (a : Addr) (cls : Value) (d : Option Addr) : TS := tRet (tTup (tCons (tC (.str r.2.1)) (taF a cls d r.1 r.2.2)))
theorem taF_ok {a C dd : Addr} {d : Option Addr} {kvs : List (Str × V)} {H : Hp} {σ : L2.St} (hd : d = some dd) (hH : H dd = some (.xd kvs)) (hσ : σ[1]? = some (some (.ref a))) : ∀ {fs : List Str} {vs : List V} {Q : List V → Hp → Prop}, fs.map (fun f => kvs.lookup f) = vs.map some → Q vs H → taF a (.ref C) d C fs σ H Q
  | [], [], _, _, q => q
  | [], _ :: _, _, h, _ => by simp at h
  | _ :: _, [], _, h, _ => by simp at h
  | f :: fs, v :: vs, Q, h, q => by
    have h' : kvs.lookup f = some v ∧ fs.map (fun f => kvs.lookup f) = vs.map some := by
      rw [List.map_cons, List.map_cons] at h
      injection h with h1 h2
      exact ⟨h1, h2⟩
    exact ⟨.ref a, hσ, rfl, rfl, dd, kvs, v, hd, hH, h'.1, taF_ok hd hH hσ h'.2 q⟩
/-- the clauses tell each other apart -/
def exAll (K : PySem.W.Frag) (Cs : List Addr) : Bool := Cs.all fun c => Cs.all fun c' => decide (PySem.W.exmOne K (.ref c) (.ref c') = some (decide (c = c')))
theorem exAll_at {K : PySem.W.Frag} {Cs : List Addr} (h : exAll K Cs = true) {c c' : Addr} (h1 : c ∈ Cs) (h2 : c' ∈ Cs) : PySem.W.exmOne K (.ref c) (.ref c') = some (decide (c = c')) :=
  of_decide_eq_true (List.all_eq_true.mp (List.all_eq_true.mp h c h1) c' h2)
theorem many_of {K : PySem.W.Frag} {Wout : WX} {D : Ends} {Q : VK} {C : Addr} {nm : Str} {fs : List Str} {d : Option Addr} {σ : L2.St} {H : Hp} (hσ : 1 < σ.length) (ht : ToldX d H nm fs Q) (hD : D.rt = Q) :
    ∀ (L : List Rc), (∀ r ∈ L, PySem.W.exmOne K (.ref C) (.ref r.1) = some (decide (C = r.1))) → (L.map (·.1)).Nodup → (C, nm, fs) ∈ L → wManyAs K 1 Wout D (L.map fun r => (Value.ref r.1, tsR r)) (.ref C) d σ H
  | [], _, _, hm => nomatch hm
  | r :: L, he, hn, hm => by
    refine ⟨decide (C = r.1), he r List.mem_cons_self, fun hb a na => ?_, fun hb => ?_⟩
    · have e : C = r.1 := of_decide_eq_true hb
      have er : r = (C, nm, fs) := by
        rcases List.mem_cons.mp hm with z | z
        · exact z.symm
        · have : C ∈ L.map (·.1) := List.mem_map.mpr ⟨_, z, rfl⟩
          rw [List.map_cons] at hn
          exact absurd (e ▸ this) (List.nodup_cons.mp hn).1
      subst er
      obtain ⟨dd, kvs, vs, h1, h2, h3, hl, h4⟩ := ht
      show tTup (tCons (tC (.str nm)) (taF a (.ref C) d C fs)) (σ.set 1 (some (.ref a))) H D.rt
      rw [hD]
      refine taF_ok h1 h2 (by rw [List.getElem?_set_self hσ]) h3 ⟨?_, h4⟩
      show vs.length + 1 ≤ sizeLine
      exact Nat.le_trans (show vs.length + 1 ≤ 11 by omega) (by decide)
    · have e : ¬ C = r.1 := of_decide_eq_false hb
      have hm' : (C, nm, fs) ∈ L := by
        rcases List.mem_cons.mp hm with z | z
        · exact absurd (by rw [← z]) e
        · exact z
      exact many_of hσ ht hD L (fun r hr => he r (List.mem_cons_of_mem _ hr)) (List.nodup_cons.mp (by rw [← List.map_cons]; exact hn)).2 hm'
theorem takes_len {X : Cx} {W : WX} (tk : Takes X W) : Takes X (fun cls d σ H => σ.length = X.N.length → W cls d σ H) := fun u s' ⟨a, B, sI, pins, σ, H, cls, d, e, I, nb, up, sky, na, os, ag, w⟩ => tk u s' ⟨a, B, sI, pins, σ, H, cls, d, e, I, nb, up, sky, na, os, ag, w I.len⟩
/-- the clause of one field, of two fields -/
theorem hd1 {X : Cx} {K : PySem.W.Frag} {x nm f1 n : Str} {C : Addr} {np pos' p1 p2 p3 p4 p5 : Pos} {j j2 : Nat} {hds : List ExceptHandler} {l : List (Value × (Addr → Value → Option Addr → TS))} (hK : X.K = K) (hN : X.N[1]? = some n) (hv : Vis X.env.scope n) (hc : Names X x (.ref C)) (T : XfC K C) (hno : PySem.W.findIn K (.ref C) f1 = some none)
    (hd : (n == ("__debug__" : Str)) = false) (hcd : (n == ("__classdict__" : Str)) = false) (r : HdsAs X n hds l) :
    HdsAs X n (.ExceptHandler (some (.Name x np)) (some n) [.Return (some (.Tuple [.Constant (.str nm) j p1, .Attribute (.Name n p2) f1 p3] j2 p4)) p5] pos' :: hds) ((.ref C, tsR (C, nm, [f1])) :: l) := by
  subst hK
  refine .cons hc (fun a oe cls d pn hz hf => ?_) r
  exact pss_one (ps_ret (pe_tup (pa_cons pe_str (pa_cons (pe_xf T hno hz hf (pe_var (i := 1) hN hv hd hcd)) pa_nil))))
theorem hd2 {X : Cx} {K : PySem.W.Frag} {x nm f1 f2 n : Str} {C : Addr} {np pos' p1 p2 p3 p4 p5 p6 p7 : Pos} {j j2 : Nat} {hds : List ExceptHandler} {l : List (Value × (Addr → Value → Option Addr → TS))} (hK : X.K = K) (hN : X.N[1]? = some n) (hv : Vis X.env.scope n) (hc : Names X x (.ref C)) (T : XfC K C) (hno : PySem.W.findIn K (.ref C) f1 = some none) (hno2 : PySem.W.findIn K (.ref C) f2 = some none)
    (hd : (n == ("__debug__" : Str)) = false) (hcd : (n == ("__classdict__" : Str)) = false) (r : HdsAs X n hds l) :
    HdsAs X n (.ExceptHandler (some (.Name x np)) (some n) [.Return (some (.Tuple [.Constant (.str nm) j p1, .Attribute (.Name n p2) f1 p3, .Attribute (.Name n p6) f2 p7] j2 p4)) p5] pos' :: hds) ((.ref C, tsR (C, nm, [f1, f2])) :: l) := by
  subst hK
  refine .cons hc (fun a oe cls d pn hz hf => ?_) r
  exact pss_one (ps_ret (pe_tup (pa_cons pe_str (pa_cons (pe_xf T hno hz hf (pe_var (i := 1) hN hv hd hcd)) (pa_cons (pe_xf T hno2 hz hf (pe_var (i := 1) hN hv hd hcd)) pa_nil)))))
/-- try: a() / except .. as e: return (..) / return None -/
theorem ref_gives {X : Cx} {Ng : List Str} {x a n q : Str} {sg : Scope} {g : Addr} {cdg : Value} {p1 p2 p3 p4 p5 p6 : Pos} {j : Nat} {h₀ : ExceptHandler} {hds : List ExceptHandler} {L : List Rc} (hNg : Ng = [a, n]) (hnd : Ng.Nodup) (hln : sg.names.lookup n = some .local)
    (hex : exAll X.K (L.map (·.1)) = true) (hL : (L.map (·.1)).Nodup)
    (hh : ∀ (s : Shared) (H : Hp), HdsAs (cxOf C8.CX0 X.prog X.w X.K X.mg X.base Ng x sg g cdg X.A X.stack s H C8.E0).nox n (h₀ :: hds) (L.map fun r => (Value.ref r.1, tsR r)))
    (hs : ∀ env : Env, swapsWith (.Call (.Name a p1) [] [] p2) none p3.line env = pure false) :
    GivesTo X Ng x sg g cdg [.Try [.Expr (.Call (.Name a p1) [] [] p2) p3] (h₀ :: hds) [] [] p4, .Return (some (.Constant .none j p5)) p6] a q (TTref L) := by
  subst hNg
  intro f c' s H Q tl act hc h
  refine ⟨_, pss_cons (ps_try_manyAs (X := (cxOf C8.CX0 X.prog X.w X.K X.mg X.base [a, n] x sg g cdg X.A X.stack s H C8.E0).nox) (i := 1) (l := L.map fun r => (Value.ref r.1, tsR r))
      (tb := fun W D σ H => ∃ Ech : XK, (∀ cls d σ' H', Ech cls d H' → σ'.length = 2 → W cls d σ' H') ∧ σ[0]? = some (some (.ref f)) ∧ H c' = some (CodeO c' q) ∧ tl Ech H fun _ H' => D.nx σ H')
      rfl rfl hnd rfl hln takes0 (fun W pn xe tk _ => ?_) (hh s H)) (pss_one (ps_ret pe_non)), ?_⟩
  · refine ⟨fun pins s' σ H' D I h' => ?_⟩
    obtain ⟨Ech, hW, h1, h2, h3⟩ := h'
    have hp := act (fun cls d σ H => σ.length = 2 → W cls d σ H) pn xe Ech p1 p2 (takes_len tk) hW
    have hq := pss_one (ps_expr (pos := p3) hp (hs _))
    exact hq.run pins s' σ H' D I ⟨h1, h2, h3⟩
  · refine ⟨RfW L Q, fun cls d σ' H' hw hl => ?_, rfl, hc, h⟩
    obtain ⟨C, nm, fs, hm, rfl, ht⟩ := hw
    refine many_of (Q := Q) (by omega) ht rfl L (fun r hr => exAll_at hex (List.mem_map.mpr ⟨_, hm, rfl⟩) (List.mem_map.mpr ⟨_, hr, rfl⟩)) hL hm
/-- the module's name x holds a def that calls what it gets and tells what that raises -/
structure Rf (P : Program) (w : World) (K : PySem.W.Frag) (mg : Str → Option Value) (base : Heap) (x : Str) (L : List Rc) : Prop where
  ex : ∃ (g : Addr) (oc : Value) (od : Option Addr) (osl : Array (Option Value)) (pg : Arguments) (bg : List Stmt) (sg : Scope) (dV kV doc pm cdv ct : Value) (an : Option Addr) (a : Str) (Ng : List Str),
    mg x = some (.ref g) ∧ PySem.W.keepIn K (.ref g) = true ∧ K.lookup g = some ⟨oc, od, .func (PySem.W.fnOf x x pg bg sg dV kV doc pm an cdv ct), osl⟩ ∧ PySem.W.codeIn K cdv x = true ∧ L2.Binds K (PySem.W.fnOf x x pg bg sg dV kV doc pm an cdv ct) [a] [] ∧
    FnScope Ng [a] sg ∧ Ng[0]? = some a ∧ Vis sg a ∧ (a == ("__debug__" : Str)) = false ∧ (a == ("__classdict__" : Str)) = false ∧
    ∀ (X : Cx) (q : Str), X.prog = P → X.w = w → X.K = K → X.mg = mg → X.base = base → GivesTo X Ng x sg g cdv bg a q (TTref L)
theorem pe_rf {X : Cx} {T : List (Addr × Str)} {x : Str} {c P : Addr} {k j : Nat} {L : List Rc} {params : Arguments} {body : Expr} {scope : Scope} {t : XK → TE} {p lpos pos : Pos} (R : Rf X.prog X.w X.K X.mg X.base x L) (hg : Gl X x)
    (TB : TabB X.base X.mg c P) (hcode : X.env.code = .ref c) (hmT : (P, X.env.qual ++ "<lambda>") ∈ T) (hu : ∀ p ∈ T, p.1 = P → p.2 = X.env.qual ++ "<lambda>") (hr : Room j X.A) (hk : k + 2 ≤ j) (Ls : LamS X.env.scope scope) (hdef : defaultsOf params X.env = ([], []))
    (hbind : ∀ (q : Str) (cl : List (Str × Addr)) (pm cv ctv : Value), bindArgs (PySem.W.kla_fn "<lambda>" q params body scope cl pm cv ctv) ⟨[], []⟩ = pure [])
    (hbody : ∀ (A : Around) (outer : List Env) (s : Shared) (H : Hp) (E : XK) (f c' : Addr), Room k (A.deeper (lamEnv X scope s.heap.objs.size f c')) → PE (lamCx X A outer s H E scope f c') body (t E))
    (hdb : (x == ("__debug__" : Str)) = false := by decide) : PE X (.Call (.Name x p) [.Lambda params body scope lpos] [] pos) (tLam T (TTref L) t) := by
  obtain ⟨g, oc, od, osl, pg, bg, sg, dV, kV, doc, pm, cdv, ct, an, a, Ng, hm, hkp, lk, hcg, hb, Sg, hNg, hva, h1, h2, hG⟩ := R.ex
  exact pe_lamcall hg hm hkp lk hcg hb Sg hNg hva (hG X _ rfl rfl rfl rfl rfl) TB hcode hmT hu (hr.mono hk) Ls hdef hbind hbody hdb h1 h2
/-! ### defs that may raise; defs that make lambdas -/
theorem passF {X : Cx} : Passes (L2.CX X.prog X.w) X (fun _ _ _ => False) := fun _ _ _ _ _ _ _ ⟨_, _, _, _, _, _, _, _, _, _, _, _, z⟩ => z.elim
theorem passL {X : Cx} {E : XK} {E₁ : Value → Shared → Prop} (hs : X.stack = X.env :: X.outer) (hf : X.env.frame = some X.env.locals) (hex : X.ex = [])
    (hx : X.xe = fun e s' => wpAny (model X.prog X.w) X.A (leaving X.env e) (fun _ s'' => L2.CX X.prog X.w X.outer X.H_0 X.s_0 E e s'') E₁ s') : Passes (L2.CX X.prog X.w) X E := passes_call (takes_of hs hf hex hx) fun _ _ _ _ h => h
section
variable {P : Program} {w : World} {K : PySem.W.Frag} {mg : Str → Option Value} {base : Heap} {x qual : Str} {st : Stmt} {f c : Addr} {fd : FuncData} {N ps : List Str} {k : Nat} {sp : Sp}
/-- a def that may let exceptions out -/
theorem okX {CX : CXT} (F : Fun K x qual st f fd) (S : FnScope N ps (defScope st)) (len : ∀ vs H Q E, sp vs H Q E → vs.length = ps.length)
    (hbody : ∀ (cdv : Value) (A : Around) (outer : List Env) (s : Shared) (H : Hp) (vs : List V) (Q : VK) (E : XK), Room k (A.deeper (envOfC qual (defScope st) s.heap.objs.size f cdv)) → sp vs H Q E →
      ∃ t, PSs (cxOf CX P w K mg base N qual (defScope st) f cdv A outer s H E) (defBody st) t ∧ t { nx := fun _ H' => Q .non H', rt := Q } (start N vs) H) : FnOk P w K mg base CX (k + 1) f fd ps sp := by
  obtain ⟨oc, od, kV, doc, pm, an, cdv, ct, osl, rfl, lk, hcd⟩ := F.ex
  exact fn_of lk hcd S len fun A outer s H vs Q E hr hsp => hbody cdv A outer s H vs Q E hr hsp
theorem fnrX {CX : CXT} (F : Fun K x qual st f fd) (S : FnScope N ps (defScope st)) (len : ∀ vs H Q E, sp vs H Q E → vs.length = ps.length)
    (hb : ∀ (kV doc pm : Value) (an : Option Addr) (cdv ct : Value) (us : List Value), us.length = ps.length → bindArgs (PySem.W.fnOf x qual (defArgs st) (defBody st) (defScope st) .none kV doc pm an cdv ct) ⟨us, []⟩ = pure (ps.zip us))
    (hbody : ∀ (cdv : Value) (A : Around) (outer : List Env) (s : Shared) (H : Hp) (vs : List V) (Q : VK) (E : XK), Room k (A.deeper (envOfC qual (defScope st) s.heap.objs.size f cdv)) → sp vs H Q E →
      ∃ t, PSs (cxOf CX P w K mg base N qual (defScope st) f cdv A outer s H E) (defBody st) t ∧ t { nx := fun _ H' => Q .non H', rt := Q } (start N vs) H) : FnR P w K mg base CX (k + 1) f sp :=
  FnOk.r (okX F S len hbody) (F.binds hb)
/-- a def that makes lambdas: its code object stands at c -/
theorem okC (F : Fun K x qual st f fd) (hc : fd.code = .ref c) (S : FnScope N ps (defScope st)) (len : ∀ vs H Q E, sp vs H Q E → vs.length = ps.length)
    (hbody : ∀ (A : Around) (outer : List Env) (s : Shared) (H : Hp) (vs : List V) (Q : VK) (E : XK), Room k (A.deeper (envOfC qual (defScope st) s.heap.objs.size f (.ref c))) → sp vs H Q E →
      ∃ t, PSs (cxOf CX0 P w K mg base N qual (defScope st) f (.ref c) A outer s H E).nox (defBody st) t ∧ t { nx := fun _ H' => Q .non H', rt := Q } (start N vs) H) : FnOk P w K mg base CX0 (k + 1) f fd ps sp := by
  obtain ⟨oc, od, kV, doc, pm, an, cdv, ct, osl, rfl, lk, hcd⟩ := F.ex
  have e : cdv = .ref c := hc
  subst e
  refine fn_of lk hcd S len fun A outer s H vs Q E hr hsp => ?_
  obtain ⟨t, h, q⟩ := hbody A outer s H vs Q E hr hsp
  exact ⟨t, h.nox, q⟩
theorem fnrC (F : Fun K x qual st f fd) (hc : fd.code = .ref c) (S : FnScope N ps (defScope st)) (len : ∀ vs H Q E, sp vs H Q E → vs.length = ps.length)
    (hb : ∀ (kV doc pm : Value) (an : Option Addr) (cdv ct : Value) (us : List Value), us.length = ps.length → bindArgs (PySem.W.fnOf x qual (defArgs st) (defBody st) (defScope st) .none kV doc pm an cdv ct) ⟨us, []⟩ = pure (ps.zip us))
    (hbody : ∀ (A : Around) (outer : List Env) (s : Shared) (H : Hp) (vs : List V) (Q : VK) (E : XK), Room k (A.deeper (envOfC qual (defScope st) s.heap.objs.size f (.ref c))) → sp vs H Q E →
      ∃ t, PSs (cxOf CX0 P w K mg base N qual (defScope st) f (.ref c) A outer s H E).nox (defBody st) t ∧ t { nx := fun _ H' => Q .non H', rt := Q } (start N vs) H) : FnR P w K mg base CX0 (k + 1) f sp :=
  FnOk.r (okC F hc S len hbody) (F.binds hb)
end
/-! ### an instance called, with a reading that names no context -/
def tCallK (C : Addr) (sp : Sp) (E : XK) (tf : TE) (t : TA) : TE := fun σ H Q => tf σ H fun y H1 => ∃ a, y = V.ref a ∧ t σ H1 fun vs H2 => (∃ dx fs, H2 a = some (.ins C dx fs)) ∧ sp (V.ref a :: vs) H2 Q E
theorem pe_caK {X : Cx} {CX : CXT} {k j : Nat} {C : Addr} {sp : Sp} {E : XK} {pos : Pos} {e fe : Expr} {es : List Expr} {tf : TE} {t : TA} (hf : PE X fe tf) (c : Ca X.prog X.w X.K X.mg X.base CX k C sp) (hr : Room j X.A) (hk : k ≤ j) (hx : Passes CX X E) (ha : PA X (e :: es) t)
    (ht : eval (.Call fe (e :: es) [] pos) X.env = (do callWith pos (← eval fe X.env) [] (backTo pos (starEach (e :: es) X.env)) (backToKw pos (keywordEach [] X.env))) := by rfl)
    (he : starEach (e :: es) X.env = (false, eval e X.env) :: starEach es X.env := by rfl) (hpl : (backTo pos (starEach es X.env)).any (·.1) = false := by rfl) : PE X (.Call fe (e :: es) [] pos) (tCallK C sp E tf t) := by
  have hf2 : PE X fe (fun σ H Q => ∃ R : V → Hp → Prop, tf σ H R ∧ ∀ v H1, R v H1 → Q v H1) := ⟨fun pins s σ H Q I ⟨R, h1, h2⟩ => wpAny_mono (hf.run pins s σ H R I h1) (fun us s1 ⟨v, H1, I1, r, q⟩ => ⟨v, H1, I1, r, h2 _ _ q⟩) fun _ _ z => z⟩
  have ha2 : PA X (e :: es) (fun σ H Q => ∃ R : List V → Hp → Prop, t σ H R ∧ ∀ vs H1, R vs H1 → Q vs H1) := ⟨fun pos pins s σ H Q I ⟨R, h1, h2⟩ => wpAny_mono (ha.run pos pins s σ H R I h1) (fun us s1 ⟨vs, H1, I1, r, q⟩ => ⟨vs, H1, I1, r, h2 _ _ q⟩) fun _ _ z => z⟩
  have m := pe_ca hf2 c hr hk hx ha2 ht he hpl
  refine ⟨fun pins s σ H Q I h => m.run pins s σ H Q I ⟨_, h, ?_⟩⟩
  rintro v H1 ⟨a, ea, q⟩
  exact ⟨a, ea, _, q, fun vs H2 ⟨⟨dx, fs, hi⟩, hs⟩ => ⟨.inr ⟨dx, fs, hi⟩, hs⟩⟩
end SB

/-! list(range(a, b, c)). -/
namespace SB
open PySem PySem.Spec PyProof.Rows L2
def rg3 (i k : Int) (n : Nat) : List V := (List.range n).map fun m : Nat => V.int (i + (m : Int) * k)
def tLstRg3 (ta : TA) : TE := fun σ H Q => ta σ H fun vs H1 => ∃ (i j k : Int) (n : Nat), vs = [.int i, .int j, .int k] ∧ RgC i j k n ∧ n ≤ 2 ^ 24 ∧ ∀ q, H1 q = none → Q (.ref q) (upd H1 q (.lst (rg3 i k n)))
theorem vals_rg3 {a k : Int} {n : Nat} {acc : Array Value} (h : ItemsOf (fun i v => ∃ t, v = .int (a + i * k) t) acc n) : Vals (rg3 a k n) acc.toList := by
  have e : acc.toList.length = n := by rw [Array.length_toList]; exact h.1
  unfold rg3
  rw [← e]
  refine vals_of_get acc.toList _ fun j u hj => ?_
  obtain ⟨t, rfl⟩ := h.2 j u (by rw [← hj, Array.getElem?_toList])
  exact ⟨t, rfl⟩
theorem pe_listRg3 {X : Cx} {a b c : Expr} {ta : TA} {p p2 pos pos2 : Pos} (hc : X.calm = true) (hg : Gl X "list") (hm : X.mg "list" = none) (hg2 : Gl X "range") (hm2 : X.mg "range" = none) (ha : PA X [a, b, c] ta)
    (hs : starEach [a, b, c] X.env = (false, eval a X.env) :: starEach [b, c] X.env := by rfl) (hpl : (backTo pos2 (starEach [b, c] X.env)).any (·.1) = false := by rfl)
    (na : starEach [.Call (.Name "range" p2) [a, b, c] [] pos2] X.env = (false, eval (.Call (.Name "range" p2) [a, b, c] [] pos2) X.env) :: starEach [] X.env := by rfl) :
    PE X (.Call (.Name "list" p) [.Call (.Name "range" p2) [a, b, c] [] pos2] [] pos) (tLstRg3 ta) := by
  refine ⟨fun pins s σ H Q I h => ?_⟩
  refine Call_ (ld_blt I hg hm boot_list (PyProof.Rows.callWith_type1 (args_cons ?_ na) na))
  refine Call_ (ld_blt I hg2 hm2 boot_range (PyProof.Rows.callWith_type1 (thn (ha.run pos2 pins s σ H _ I h) fun us s1 ⟨vs, H1, I1, r1, q1⟩ => ?_) hs hpl))
  obtain ⟨i, j, k, n, e, ⟨c0, c1, c2, c3⟩, hn, q⟩ := q1
  subst e
  cases r1 with
  | cons r rr =>
    cases rr with
    | cons r' rr =>
      cases rr with
      | cons r'' rr =>
        cases rr
        obtain ⟨t, rfl⟩ := r
        obtain ⟨t', rfl⟩ := r'
        obtain ⟨t'', rfl⟩ := r''
        refine call_range_3 c0 ?_ (.inl (PyProof.noPylong_small c1))
        have I2 : Inv X pins σ H1 { s1 with heap := s1.heap.push { cls := .type "range", data := .fields #[.int i t, .int j t', .int k t''] } } := I1.kept (t' := s1.toks) fun b o z => Heap.get?_push_of_some _ z
        refine args_nil ?_
        refine call_list_range (n := n) (I2.ok.hd hc) (IsRange.new ..) c2 c3 hn fun h' tk acc c' hk e' hi => ?_
        refine ⟨.ref _, upd H1 _ (.lst (rg3 i k n)), I2.laid hk (Nat.le_refl _) (show ObjOk X.prog X.w _ _ _ (.lst (rg3 i k n)) from ⟨?_, acc.toList, c', vals_rg3 hi, ?_⟩), rfl, q _ (I2.hok.fresh (Nat.le_refl _))⟩
        · show (rg3 i k n).length ≤ sizeLine
          unfold rg3
          rw [List.length_map, List.length_range, sizeLine_eq]
          omega
        · rw [Array.toArray_toList]
          exact e'
end SB

/-! own containers: x in o, len(o), o[i], o == any value, o != o2. -/
namespace SB
open PySem PySem.Spec PyProof.Rows L2
section
variable {X : Cx} {CX : CXT} {k j : Nat} {C : Addr} {x m : Str} {sp : Sp} {E : XK} {p pos apos : Pos} {e o : Expr} {es : List Expr} {ta tb : TE} {t : TA}
/-- the callee runs, one C call deeper -/
theorem run_fnR1 {pins : List (Addr × Obj)} {σ : L2.St} {H : Hp} {s : Shared} {f : Addr} {Q : VK} {us : List Value} {vs : List V} (F : FnR X.prog X.w X.K X.mg X.base CX k f sp) (hr : Room (k + 1) X.A) (hx : Passes CX X E) (I : Inv X pins σ H s) (r : Vals vs us) (h : sp vs H Q E) :
    codeAny (model X.prog X.w) X.A.in1 (.call (.ref f) ⟨us, []⟩) (fun r s' => match r with | .ok (.ret v) => EP X pins σ Q v s' | .ok _ => False | .error e => X.xe e s') s := by
  refine codeAny_mono (F X.A.in1 X.stack s H us vs Q E hr.in1 I.env0.in1 r h) fun r s' hq => ?_
  cases r with
  | error e => exact hx pins σ H s e s' I hq
  | ok fl =>
    cases fl with
    | ret u => exact I.after hq
    | next => exact False.elim hq
    | brk => exact False.elim hq
    | cont => exact False.elim hq
def rOwnIn (neg : Bool) (C : Addr) (sp : Sp) (E : XK) : R2 := fun x y H Q => ∃ a dx fs, y = .ref a ∧ H a = some (.ins C dx fs) ∧ sp [y, x] H (fun v H' => ∃ b, v = .bl b ∧ Q (.bl (if neg then !b else b)) H') E
/-- x in o, o an instance of C with a __contains__ of its own -/
theorem op_ownIn (c : Me X.prog X.w X.K X.mg X.base CX k C "__contains__" sp) (hr : Room j X.A) (hk : k ≤ j) (hx : Passes CX X E) : OpR X (compareOp .In) (rOwnIn false C sp E) := by
  obtain ⟨g, F, hs, hf, _⟩ := c.ex
  intro pins s σ H x y v u Q I rx ry h
  obtain ⟨a, dx, fs, rfl, ha, q⟩ := h
  cases (show u = Value.ref a from ry)
  obtain ⟨ox, od, J⟩ := inst_at I ha
  obtain ⟨m, hF⟩ := I.fr
  refine PySem.W.in_K hF I.ok.mod.kin J hs hf ?_
  refine wpAny_mono (wpAny_call (run_fnR (us := [.ref a, v]) (vs := [.ref a, x]) F (hr.mono hk) hx I (.cons rfl (.cons rx .nil)) q)) (fun w s' z => ?_) fun _ _ x => x
  obtain ⟨_, H', I', rz, b, rfl, q'⟩ := z
  cases rz
  exact wpAny_truthy_bool ⟨.bl b, H', I', rfl, q'⟩
def rOwnLen (C : Addr) (sp : Sp) (E : XK) : List V → Hp → VK → Prop := fun xs H Q => ∃ a dx fs, xs = [.ref a] ∧ H a = some (.ins C dx fs) ∧ sp [.ref a] H (fun v H' => ∃ n : Nat, v = .int (n : Int) ∧ n < 2 ^ 63 ∧ Q (.int (n : Int)) H') E
/-- len(o) -/
theorem call_ownLen (c : Me X.prog X.w X.K X.mg X.base CX k C "__len__" sp) (hr : Room j X.A) (hk : k + 1 ≤ j) (hx : Passes CX X E) : CallR X (.builtin "len") (rOwnLen C sp E) := by
  obtain ⟨g, F, hs, hf, _⟩ := c.ex
  intro pins s σ H xs us Q I r h
  obtain ⟨a, dx, fs, rfl, ha, q⟩ := h
  obtain ⟨u, rfl, ru⟩ := r.one
  cases (show u = Value.ref a from ru)
  obtain ⟨ox, od, J⟩ := inst_at I ha
  obtain ⟨m, hF⟩ := I.fr
  refine PySem.W.len_K hF I.ok.mod.kin J hs hf ?_
  refine wpAny_mono (wpAny_call (run_fnR1 (us := [.ref a]) (vs := [.ref a]) F (hr.mono hk) hx I (.cons rfl .nil) q)) (fun w s' z => ?_) fun _ _ x => x
  obtain ⟨_, H', I', rz, n, rfl, hn, q'⟩ := z
  obtain ⟨t, rfl⟩ := rz
  exact ⟨⟨by omega, by omega⟩, ⟨.int n, H', I'.tok _, ⟨_, rfl⟩, q'⟩⟩
def rOwnIx (C : Addr) (sp : Sp) (E : XK) : R2 := fun x y H Q => ∃ a dx fs, x = .ref a ∧ H a = some (.ins C dx fs) ∧ sp [x, y] H Q E
/-- o[i] -/
theorem pe_ixO (c : Me X.prog X.w X.K X.mg X.base CX k C "__getitem__" sp) (hr : Room j X.A) (hk : k + 1 ≤ j) (hx : Passes CX X E) {a b : Expr} (ha : PE X a ta) (hb : PE X b tb) (hfn : ∀ g, PySem.W.findIn X.K (.ref C) "__getitem__" = some (some (.ref g)) → PySem.W.fnIn X.K g = true)
    (hsl : ∀ v u : Value, subscripted b true v u = runValue (.builtin "lifetime.subscript" ⟨[v, u], []⟩) := by intro _ _; rfl) : PE X (.Subscript a b pos) (tOp (rOwnIx C sp E) ta tb) := by
  obtain ⟨g, F, hs, hf, _⟩ := c.ex
  refine ⟨fun pins s σ H Q I h => ?_⟩
  refine Subscript_ (binT ha hb I h fun v u s2 x y H2 I2 rx ry q => ?_)
  obtain ⟨ad, dx, fs, rfl, had, q⟩ := q
  cases (show v = Value.ref ad from rx)
  obtain ⟨ox, od, J⟩ := inst_at I2 had
  obtain ⟨m, hF⟩ := I2.fr
  refine PySem.W.sub_K hF I2.ok.mod.kin J hs (hfn g hs) hf ?_ (hsl _ _)
  exact wpAny_call (run_fnR1 (us := [.ref ad, u]) (vs := [.ref ad, y]) F (hr.mono hk) hx I2 (.cons rfl (.cons ry .nil)) q)
def rOwnEqX (K : PySem.W.Frag) (C : Addr) (sp : Sp) (E : XK) : R2 := fun x y H Q => ∃ a dx fs t, x = .ref a ∧ H a = some (.ins C dx fs) ∧ TyX K H y t ∧ PySem.W.notFirst K C t = true ∧ sp [x, y] H Q E
/-- o == y, y of any kind -/
theorem op_ownEqX (c : Me X.prog X.w X.K X.mg X.base CX k C "__eq__" sp) (hr : Room j X.A) (hk : k ≤ j) (hx : Passes CX X E) : OpR X (compareOp .Eq) (rOwnEqX X.K C sp E) := by
  obtain ⟨g, F, hs, hf, _⟩ := c.ex
  intro pins s σ H x y v u Q I rx ry h
  obtain ⟨a, dx, fs, t, rfl, ha, ty, hn, q⟩ := h
  cases (show v = Value.ref a from rx)
  obtain ⟨ox, od, J⟩ := inst_at I ha
  obtain ⟨P, Z, p, _⟩ := kit_of I ry ty
  obtain ⟨m, hF⟩ := I.fr
  show wpAny _ _ (richCompare .Eq (.ref a) u) _ _ _
  refine PySem.W.cmp_K (op := .Eq) (tb := t) hr.units0 hF I.ok.mod.kin J (Z.ty _ _ I.kIn p) hn hs hf ?_
  refine wpAny_mono (wpAny_call (run_fnR (us := [.ref a, u]) (vs := [.ref a, y]) F (hr.mono hk) hx I (.cons rfl (.cons ry .nil)) q)) (fun w s' z => ?_) fun _ _ x => x
  exact cmpback z
end

section
variable {M : Model} {prog : Program} {w : World} {A : Around} {E : Value → Shared → Prop} {s : Shared} {K : PySem.W.Frag} {x C f : Addr} {ox : Obj} {od : Option Obj}
theorem ifBound_objNe {args : List Value} {Q : Option Value → Shared → Prop} (X : K.In s.heap) (I : PySem.W.InstAt s.heap x ox C od) (hs : PySem.W.findIn K (.ref C) "__ne__" = some (some (.builtin "object.__ne__")))
    (h : wpAny M A (call (.builtin "object.__ne__") (.ref x :: args)) (fun v => Q (some v)) E s) : wpAny M A (callSpecialIfBound? (.ref x) "__ne__" args) Q E s := by
  simp only [callSpecialIfBound?, bindSpecialIfBound?]
  refine wpAny_holding (wpAny_bind (wpAny_bind (wpAny_bind (I.type.here ((PySem.W.looks_findIn X hs).here ?_)))))
  refine wpAny_bind (wpAny_askSetting (wpAny_ite ?_))
  have fin : wpAny M A (call (.builtin "object.__ne__") ([.ref x] ++ args) >>= fun v => pure (some v)) Q E s := wpAny_bind (wpAny_mono h (fun v s' h' => wpAny_pure h') fun _ _ h' => h')
  split
  · exact wpAny_bind (wpAny_of_eq (F.cmp_object.ne.bind _) (wpAny_pure (by exact fin)))
  · exact wpAny_tryCatch (wpAny_bind (wpAny_of_eq (F.cmp_object.ne.bind _) (wpAny_pure (by exact fin))))
theorem objNe_entry {b : Value} {Q : Fin → Shared → Prop} (hu : A.units < cLine) (X : K.In s.heap) (I : PySem.W.InstAt s.heap x ox C od) (hs : PySem.W.findIn K (.ref C) "__eq__" = some (some (.ref f))) (hf : PySem.W.isFn K (.ref f) = true)
    (h : wpAny M A (call (.ref f) [.ref x, b]) (fun v s' => ∃ c, v = .bool c ∧ Q (.done (.ret (.bool (!c)))) s') E s) : wpAny M A (Builtin.«object.__ne__» ⟨[.ref x, b], []⟩) Q E s := by
  unfold Builtin.«object.__ne__»
  repeat (first | with_reducible refine wpAny_cRoomFor hu ?_ | with_reducible refine PySem.W.ifBound_K X I hs hf (wpAny_mono h (fun v s' z => ?_) fun _ _ e => e) | wp_step)
  obtain ⟨c, rfl, q⟩ := z
  exact wpAny_bind (wpAny_truthy_bool (wpAny_pure q))
theorem richNe_K {b tb : Value} {Q : Value → Shared → Prop} (hu : A.units + 1 < cLine) (X : K.In s.heap) (I : PySem.W.InstAt s.heap x ox C od) (hb : PySem.W.Looks (model prog w) s.heap (typeOf b) tb) (hn : PySem.W.notFirst K C tb = true) (hm : PySem.W.mroIn K C (.type "object") = some true)
    (hne : PySem.W.findIn K (.ref C) "__ne__" = some (some (.builtin "object.__ne__"))) (hs : PySem.W.findIn K (.ref C) "__eq__" = some (some (.ref f))) (hf : PySem.W.isFn K (.ref f) = true)
    (h : wpAny (model prog w) A.in1 (call (.ref f) [.ref x, b]) (fun v s' => ∃ c, v = .bool c ∧ Q (.bool (!c)) s') E s) : wpAny (model prog w) A (richCompare .NotEq (.ref x) b) Q E s := by
  have hu0 : A.units < cLine := Nat.lt_of_succ_lt hu
  have one : wpAny (model prog w) A (tryCompare (.ref x) "__ne__" b) (fun r s' => ∃ v, r = some v ∧ Q v s') E s := by
    unfold tryCompare
    refine wpAny_bind (ifBound_objNe X I hne (wpAny_call (codeAny_call_builtin F.cmp_object.ne.plain F.cmpEntry_ne (PySem.W.check_slot F.cmpKind_ne F.cmpSplit_ne (I.type.andThen (PySem.W.looks_mroIn X hm)) (F.cmpArgs_ne _ _) (objNe_entry (A := A.in1) hu X I hs hf ?_)))))
    refine wpAny_mono h (fun v s' z => ?_) fun _ _ e => e
    obtain ⟨c, rfl, q⟩ := z
    exact ⟨c, rfl, wpAny_pure ⟨_, rfl, q⟩⟩
  simp only [richCompare, cmpInfo_NotEq, oneThing_ref]
  refine wpAny_holding (wpAny_bind (wpAny_cRoomFor hu0 ?_))
  refine wpAny_bind (I.type.here (wpAny_bind (hb.here ?_)))
  split
  · rename_i q
    have e : PySem.W.subIn K tb (.ref C) = some false := by
      rcases Bool.or_eq_true_iff.mp hn with e | e
      · rw [beq_iff_eq.mp e] at q; simp at q
      · exact beq_iff_eq.mp e
    refine wpAny_bind ((PySem.W.looks_subIn X e).here ?_)
    simp only [Bool.false_eq_true, if_false]
    refine wpAny_bind (wpAny_mono one (fun r s' z => ?_) fun _ _ e => e)
    obtain ⟨v, rfl, hq⟩ := z
    exact wpAny_pure hq
  · refine wpAny_bind (wpAny_pure ?_)
    simp only [Bool.false_eq_true, if_false]
    refine wpAny_bind (wpAny_mono one (fun r s' z => ?_) fun _ _ e => e)
    obtain ⟨v, rfl, hq⟩ := z
    exact wpAny_pure hq
end
section
variable {X : Cx} {CX : CXT} {k j : Nat} {C : Addr} {sp : Sp} {E : XK}
def rOwnNe (C : Addr) (sp : Sp) (E : XK) : R2 := fun x y H Q => ∃ a dx fs b dy gs, x = .ref a ∧ y = .ref b ∧ H a = some (.ins C dx fs) ∧ H b = some (.ins C dy gs) ∧ sp [x, y] H (fun v H' => ∃ c, v = .bl c ∧ Q (.bl (!c)) H') E
/-- o != o2, both of C, which has an __eq__ of its own and no __ne__ -/
theorem op_ownNe (c : Me X.prog X.w X.K X.mg X.base CX k C "__eq__" sp) (hn : PySem.W.notFirst X.K C (.ref C) = true) (hm : PySem.W.mroIn X.K C (.type "object") = some true) (hne : PySem.W.findIn X.K (.ref C) "__ne__" = some (some (.builtin "object.__ne__")))
    (hr : Room j X.A) (hk : k + 1 ≤ j) (hx : Passes CX X E) : OpR X (compareOp .NotEq) (rOwnNe C sp E) := by
  obtain ⟨g, F, hs, hf, _⟩ := c.ex
  intro pins s σ H x y v u Q I rx ry h
  obtain ⟨a, dx, fs, b, dy, gs, rfl, rfl, ha, hb, q⟩ := h
  cases (show v = Value.ref a from rx)
  cases (show u = Value.ref b from ry)
  obtain ⟨ox, od, J⟩ := inst_at I ha
  obtain ⟨ox', od', J'⟩ := inst_at I hb
  show wpAny _ _ (richCompare .NotEq (.ref a) (.ref b)) _ _ _
  refine richNe_K (tb := .ref C) (hu_of hr) I.kIn J J'.type hn hm hne hs hf ?_
  refine wpAny_mono (wpAny_call (run_fnR1 (us := [.ref a, .ref b]) (vs := [.ref a, .ref b]) F (hr.mono hk) hx I (.cons rfl (.cons rfl .nil)) q)) (fun w s' z => ?_) fun _ _ x => x
  obtain ⟨_, H', I', rz, c, rfl, q'⟩ := z
  cases rz
  exact ⟨c, rfl, ⟨.bl (!c), H', I', rfl, q'⟩⟩
end
end SB

/-! sorted(range(n), key=lambda i: ..), the key a whole number. -/
namespace SB
open PySem PySem.Spec PyProof.Rows L2 LamX
/-- e is evaluated in env, over the heap g, without a change, to a value of which R holds -/
def Ev (prog : Program) (w : World) (env : Env) (g : Heap) (e : Expr) (R : Value → Prop) : Prop :=
  ∀ (A : Around) (E : Value → Shared → Prop) (s : Shared) (Q : Value → Shared → Prop), s.heap = g → (∀ v tk, R v → Q v { s with toks := tk }) → wpAny (model prog w) A (eval e env) Q E s
section
variable {prog : Program} {w : World} {env : Env} {g : Heap} {a b : Expr} {pos : Pos}
theorem ev_int {i : Int} {j : Nat} : Ev prog w env g (.Constant (.int i) j pos) (fun v => ∃ t, v = .int i t) := fun A E s Q hs h => wpAny_Constant_int (h _ _ ⟨_, rfl⟩)
theorem ev_mul {x y : Int} (ha : Ev prog w env g a (fun v => ∃ t, v = .int x t)) (hb : Ev prog w env g b (fun v => ∃ t, v = .int y t)) (hc : CMul x y) : Ev prog w env g (.BinOp a .Mult b pos) (fun v => ∃ t, v = .int (x * y) t) := fun A E s Q hs h => by
  refine wpAny_BinOp (ha A E s _ hs fun v tk hv => hb A E { s with toks := tk } _ hs fun u tk2 hu => ?_)
  obtain ⟨t, rfl⟩ := hv
  obtain ⟨t', rfl⟩ := hu
  exact mul_int (h _ _ ⟨_, rfl⟩) hc.ok
theorem ev_sub {x y : Int} (ha : Ev prog w env g a (fun v => ∃ t, v = .int x t)) (hb : Ev prog w env g b (fun v => ∃ t, v = .int y t)) : Ev prog w env g (.BinOp a .Sub b pos) (fun v => ∃ t, v = .int (x - y) t) := fun A E s Q hs h => by
  refine wpAny_BinOp (ha A E s _ hs fun v tk hv => hb A E { s with toks := tk } _ hs fun u tk2 hu => ?_)
  obtain ⟨t, rfl⟩ := hv
  obtain ⟨t', rfl⟩ := hu
  exact PyProof.Rows.sub_int (h _ _ ⟨_, rfl⟩)
theorem ev_local {x : Str} {m : Str → Option Value} {u : Value} (hk : env.scope.kind = .function) (hl : env.kindOf x = some .local) (hn : g.Ns env.locals m) (hv : m x = some u) (hd : (x == ("__debug__" : Str)) = false) : Ev prog w env g (.Name x pos) (fun v => v = u) := fun A E s Q hs h => by
  subst hs
  exact wpAny_Name (wpAny_loadName_local hk hl hn hv (h _ s.toks rfl)) hd
theorem ev_free {x : Str} {c : Addr} {u : Value} (hk : env.scope.kind = .function) (hl : env.kindOf x = some .free) (hc : env.cells.lookup x = some c) (hv : g.IsCell c (some u)) (hd : (x == ("__debug__" : Str)) = false) (hcd : (x == ("__classdict__" : Str)) = false) : Ev prog w env g (.Name x pos) (fun v => v = u) := fun A E s Q hs h => by
  subst hs
  exact wpAny_Name (wpAny_loadName_free hk hl hc hv (h _ s.toks rfl) hcd) hd
theorem ev_ixL {l : Addr} {its : Array Value} {k : Int} {u : Value} (ha : Ev prog w env g a (fun v => v = .ref l)) (hb : Ev prog w env g b (fun v => ∃ t, v = .int k t)) (hl : g.IsList l its) (h0 : 0 ≤ k) (h1 : k < 2 ^ 63) (hu : its[k.toNat]? = some u) (hp : PlainIx b) : Ev prog w env g (.Subscript a b pos) (fun v => v = u) := fun A E s Q hs h => by
  subst hs
  refine Subscript_ (ha A E s _ rfl fun v tk hv => hb A E { s with toks := tk } _ rfl fun x tk2 hx => ?_)
  subst hv
  obtain ⟨t, rfl⟩ := hx
  exact item_listR (s := { s with toks := tk2 }) hl h0 h1 hu (h _ _ rfl) (hp _ _)
theorem ev_ixT {l : Addr} {its : Array Value} {k : Int} {u : Value} (ha : Ev prog w env g a (fun v => v = .ref l)) (hb : Ev prog w env g b (fun v => ∃ t, v = .int k t)) (hl : g.IsTuple l its) (h0 : 0 ≤ k) (h1 : k < 2 ^ 63) (hu : its[k.toNat]? = some u) (hp : PlainIx b) : Ev prog w env g (.Subscript a b pos) (fun v => v = u) := fun A E s Q hs h => by
  subst hs
  refine Subscript_ (ha A E s _ rfl fun v tk hv => hb A E { s with toks := tk } _ rfl fun x tk2 hx => ?_)
  subst hv
  obtain ⟨t, rfl⟩ := hx
  have hlt : k.toNat < its.size := (Array.getElem?_eq_some_iff.mp hu).1
  have ek : k = ((k.toNat : Nat) : Int) := by omega
  exact subscriptTail_builtinR (s := { s with toks := tk2 }) (x := u) hl.typeIs slot_tuple_getitem.lookup (getItem_tuple (j := k.toNat) (Q := fun r s' => r = u ∧ Q r s') hl (by omega) (by omega) (by rw [ek]; exact seqIdx_nat hlt) hu ⟨rfl, h _ _ rfl⟩) (hp _ _)
end
/-! ### a lambda of one parameter -/
structure LamP (sc scope : Scope) (par : Str) : Prop where
  kind : scope.kind = .function
  co : scope.isCoroutine = false
  gen : scope.isGenerator = false
  own : ∀ y ∈ scope.names, y.2 ≠ .cell
  par : scope.names.lookup par = some .local
  free : ∀ y ∈ scope.names, y.2 = .free → sc.names.lookup y.1 = some .cell ∨ sc.names.lookup y.1 = some .free
def lamPB (sc scope : Scope) (par : Str) : Bool :=
  decide (scope.kind = .function) && !scope.isCoroutine && !scope.isGenerator && decide (scope.names.lookup par = some .local) && scope.names.all fun y => !decide (y.2 = .cell) && (!decide (y.2 = .free) || decide (sc.names.lookup y.1 = some .cell) || decide (sc.names.lookup y.1 = some .free))
theorem lamP_by {sc scope : Scope} {par : Str} (h : lamPB sc scope par = true) : LamP sc scope par := by
  unfold lamPB at h
  simp only [Bool.and_eq_true, Bool.or_eq_true, Bool.not_eq_true', decide_eq_true_eq, decide_eq_false_iff_not, List.all_eq_true] at h
  obtain ⟨⟨⟨⟨h1, h2⟩, h3⟩, h5⟩, h4⟩ := h
  refine ⟨h1, h2, h3, fun y hy => (h4 y hy).1, h5, fun y hy e => ?_⟩
  rcases (h4 y hy).2 with (z | z) | z
  · exact absurd e z
  · exact .inl z
  · exact .inr z
/-- the key of i, by the slots and the heap of the def that made the lambda -/
def KeyR (X : Cx) (scope : Scope) (body : Expr) (par : Str) (kr : L2.St → Hp → Int → Int → Prop) : Prop :=
  ∀ (pins : List (Addr × Obj)) (s : Shared) (σ : L2.St) (H : Hp) (i n : Int), Inv X pins σ H s → kr σ H i n → ∀ (t : Tok) (g : Heap) (l f c' : Addr), (∀ b o, s.heap.get? b = some o → g.get? b = some o) →
    g.Ns l (fun y => ([(par, Value.int i t)] : List (Str × Value)).reverse.lookup y) → Ev X.prog X.w (lamEnv X scope l f c') g body (fun v => ∃ t, v = .int n t)
section
variable {X : Cx} {pins : List (Addr × Obj)} {σ : L2.St} {H : Hp} {s : Shared} {scope : Scope} {par : Str} {g : Heap} {l f c' : Addr} {pos : Pos}
/-- a captured name -/
theorem ev_cap {x : Str} {j : Nat} {v : V} (I : Inv X pins σ H s) (L : LamP X.env.scope scope par) (kp : ∀ b o, s.heap.get? b = some o → g.get? b = some o) (hN : X.N[j]? = some x) (hf : scope.names.lookup x = some .free) (hv : σ[j]? = some (some v))
    (hd : (x == ("__debug__" : Str)) = false := by decide) (hcd : (x == ("__classdict__" : Str)) = false := by decide) : ∃ u, RelV v u ∧ Ev X.prog X.w (lamEnv X scope l f c') g (.Name x pos) (fun w' => w' = u) := by
  have hm := PySem.mem_of_lookup hf
  have hk := L.free _ hm rfl
  have hvis : Vis X.env.scope x := hk.elim (fun k => .inr (.inl k)) (fun k => .inr (.inr k))
  obtain ⟨m, hn, hl⟩ := I.loc
  obtain ⟨u, r, q⟩ := hl j x v hN hv hvis
  refine ⟨u, r, ?_⟩
  rcases q with ⟨k', _⟩ | ⟨_, c, hc, o, ho, hd'⟩
  · exfalso
    have k' : X.env.scope.names.lookup x = some .local := k'
    rcases hk with k2 | k2 <;> rw [show X.env.scope.names.lookup x = _ from k2] at k' <;> cases k'
  · have h1 : ∃ c2, (cloFrom X.env.cells scope.names []).lookup x = some c2 := mem_lookup (cloFrom_has (cells := X.env.cells) (acc := []) hm)
    obtain ⟨c2, h2⟩ := h1
    have e : c2 = c := by
      rcases cloFrom_mem (PySem.mem_of_lookup h2) with z | ⟨z1, z2⟩
      · cases z
      · rw [z2, hc] <;> rfl
    subst e
    exact ev_free L.kind hf h2 ⟨o, kp _ _ ho, hd'⟩ hd hcd
/-- the lambda's own parameter -/
theorem ev_par {i : Int} {t : Tok} (L : LamP X.env.scope scope par) (hn : g.Ns l (fun y => ([(par, Value.int i t)] : List (Str × Value)).reverse.lookup y)) (hd : (par == ("__debug__" : Str)) = false := by decide) :
    Ev X.prog X.w (lamEnv X scope l f c') g (.Name par pos) (fun v => ∃ t, v = .int i t) := fun A E s Q hs h =>
  ev_local (env := lamEnv X scope l f c') (u := .int i t) L.kind (show (lamEnv X scope l f c').kindOf par = some .local from L.par) hn (by simp) hd A E s Q hs fun v tk e => h v tk ⟨t, e⟩
end
theorem isList_keep {h g : Heap} {l : Addr} {its : Array Value} (kp : ∀ b o, h.get? b = some o → g.get? b = some o) (hl : h.IsList l its) : g.IsList l its := by
  obtain ⟨o, h1, h2⟩ := hl
  exact ⟨o, kp _ _ h1, h2⟩
/-- sign * values[at] -/
theorem key_sv {X : Cx} {scope : Scope} {par sg vs : Str} {is iv : Nat} {p1 p2 p3 p4 p5 : Pos} (L : LamP X.env.scope scope par) (h1 : X.N[is]? = some sg) (h2 : X.N[iv]? = some vs) (f1 : scope.names.lookup sg = some .free) (f2 : scope.names.lookup vs = some .free)
    (d1 : (sg == ("__debug__" : Str)) = false := by decide) (e1 : (sg == ("__classdict__" : Str)) = false := by decide) (d2 : (vs == ("__debug__" : Str)) = false := by decide) (e2 : (vs == ("__classdict__" : Str)) = false := by decide) (d3 : (par == ("__debug__" : Str)) = false := by decide) :
    KeyR X scope (.BinOp (.Name sg p1) .Mult (.Subscript (.Name vs p2) (.Name par p3) p4) p5) par (fun σ H i n => ∃ (sgn : Int) (a : Addr) (xs : List V) (x : Int), σ[is]? = some (some (.int sgn)) ∧ σ[iv]? = some (some (.ref a)) ∧ SqL X.K H a xs ∧ 0 ≤ i ∧ i < 2 ^ 63 ∧ xs[i.toNat]? = some (.int x) ∧ CMul sgn x ∧ n = sgn * x) := by
  rintro pins s σ H i n I ⟨sgn, a, xs, x, s1, s2, hS, h0, h9, hx, hm, rfl⟩ t g l f c' kp hn
  obtain ⟨u1, r1, ev1⟩ := ev_cap (l := l) (f := f) (c' := c') (pos := p1) I L kp h1 f1 s1 d1 e1
  obtain ⟨u2, r2, ev2⟩ := ev_cap (l := l) (f := f) (c' := c') (pos := p2) I L kp h2 f2 s2 d2 e2
  obtain ⟨t1, rfl⟩ := r1
  obtain rfl : u2 = Value.ref a := r2
  obtain ⟨its, rv, pl, hz⟩ := I.list hS
  obtain ⟨w', ew, rw'⟩ := rv.get hx
  obtain ⟨t2, rfl⟩ := rw'
  have ev3 : Ev X.prog X.w (lamEnv X scope l f c') g (.Subscript (.Name vs p2) (.Name par p3) p4) (fun v => v = .int x t2) := ev_ixL ev2 (ev_par L hn d3) (isList_keep kp pl.isList) h0 h9 (by simpa using ew) (fun _ _ => rfl)
  exact ev_mul (fun A E s Q hs h => ev1 A E s Q hs fun v tk e => h v tk ⟨t1, e⟩) (fun A E s Q hs h => ev3 A E s Q hs fun v tk e => h v tk ⟨t2, e⟩) hm
/-- items[k][0] * (1 - 2 * word) -/
theorem key_it {X : Cx} {scope : Scope} {par it wd : Str} {ii iw : Nat} {j1 j2 j3 : Nat} {p1 p2 p3 p4 p5 p6 p7 p8 p9 p10 p11 : Pos} (L : LamP X.env.scope scope par) (h1 : X.N[ii]? = some it) (h2 : X.N[iw]? = some wd) (f1 : scope.names.lookup it = some .free) (f2 : scope.names.lookup wd = some .free)
    (d1 : (it == ("__debug__" : Str)) = false := by decide) (e1 : (it == ("__classdict__" : Str)) = false := by decide) (d2 : (wd == ("__debug__" : Str)) = false := by decide) (e2 : (wd == ("__classdict__" : Str)) = false := by decide) (d3 : (par == ("__debug__" : Str)) = false := by decide) :
    KeyR X scope (.BinOp (.Subscript (.Subscript (.Name it p1) (.Name par p2) p3) (.Constant (.int 0) j1 p4) p5) .Mult (.BinOp (.Constant (.int 1) j2 p6) .Sub (.BinOp (.Constant (.int 2) j3 p7) .Mult (.Name wd p8) p9) p10) p11) par
      (fun σ H i n => ∃ (wo : Int) (a t : Addr) (xs : List V) (x : Int) (r : List V), σ[iw]? = some (some (.int wo)) ∧ σ[ii]? = some (some (.ref a)) ∧ SqL X.K H a xs ∧ 0 ≤ i ∧ i < 2 ^ 63 ∧ xs[i.toNat]? = some (.ref t) ∧ SqT X.K H t (.int x :: r) ∧ (0 ≤ wo ∧ wo ≤ 10) ∧ n = x * (1 - 2 * wo)) := by
  rintro pins s σ H i n I ⟨wo, a, tt, xs, x, r, s2, s1, hS, h0, h9, hx, hT, hw, rfl⟩ t g l f c' kp hn
  obtain ⟨u1, r1, ev1⟩ := ev_cap (l := l) (f := f) (c' := c') (pos := p1) I L kp h1 f1 s1 d1 e1
  obtain ⟨u2, r2, ev2⟩ := ev_cap (l := l) (f := f) (c' := c') (pos := p8) I L kp h2 f2 s2 d2 e2
  obtain rfl : u1 = Value.ref a := r1
  obtain ⟨t2, rfl⟩ := r2
  obtain ⟨its, rv, pl, hz⟩ := I.list hS
  obtain ⟨w', ew, rw'⟩ := rv.get hx
  obtain rfl : w' = Value.ref tt := rw'
  have ev3 : Ev X.prog X.w (lamEnv X scope l f c') g (.Subscript (.Name it p1) (.Name par p2) p3) (fun v => v = .ref tt) := ev_ixL ev1 (ev_par L hn d3) (isList_keep kp pl.isList) h0 h9 (by simpa using ew) (fun _ _ => rfl)
  obtain ⟨its2, rv2, pl2, hz2⟩ := I.tuple hT
  obtain ⟨w2, ew2, rw2⟩ := rv2.get (i := 0) rfl
  obtain ⟨t3, rfl⟩ := rw2
  obtain ⟨o2, g1, g2⟩ := pl2
  have ev4 : Ev X.prog X.w (lamEnv X scope l f c') g (.Subscript (.Subscript (.Name it p1) (.Name par p2) p3) (.Constant (.int 0) j1 p4) p5) (fun v => v = .int x t3) := ev_ixT ev3 ev_int (⟨o2, kp _ _ g1, g2⟩ : g.IsTuple tt its2.toArray) (by decide) (by decide) (by simpa using ew2) (fun _ _ => rfl)
  have ev5 := ev_sub (pos := p10) (ev_int (prog := X.prog) (w := X.w) (env := lamEnv X scope l f c') (g := g) (i := 1) (j := j2) (pos := p6)) (ev_mul (pos := p9) (ev_int (i := 2) (j := j3) (pos := p7)) (fun A E s Q hs h => ev2 A E s Q hs fun v tk e => h v tk ⟨t2, e⟩) (.inl ⟨by decide, by decide⟩))
  exact ev_mul (fun A E s Q hs h => ev4 A E s Q hs fun v tk e => h v tk ⟨t3, e⟩) ev5 (.inr ⟨by omega, by omega⟩)
/-! ### the call -/
section
variable {prog : Program} {w : World} {A : Around} {E : Value → Shared → Prop} {s : Shared}
theorem sorted_rng {r f : Addr} {n : Nat} {kz : Nat → Int} {t u v : Tok} {Q : Value → Shared → Prop} (hh : A.handled = none) (hr : IsRange s.heap r 0 (n : Int) 1 t u v) (hn : n ≤ 2 ^ 24) (hu : A.units + 2 < cLine)
    (turn : ∀ (i : Nat) (t : Tok), i < n → ∀ (h : Heap) (tk : Nat), (∀ b o, s.heap.get? b = some o → h.get? b = some o) → wpAny (model prog w) A.in1.in1 (call (.ref f) [.int (i : Int) t]) (PySem.W.KeyPure (.int (kz i)) { s with heap := h, toks := tk }) (fun _ _ => False) { s with heap := h, toks := tk })
    (fin : ∀ (out : List Value) (c : Nat) (h' : Heap) (tk : Nat) (q : Addr), (∀ b o, s.heap.get? b = some o → h'.get? b = some o) → (∃ hm : Heap, (∀ b o, s.heap.get? b = some o → hm.get? b = some o) ∧ hm.objs.size ≤ q) → h'.get? q = some (seqObj "list" (List.toArray out) c) →
      PySem.W.EachIs (fun (v : Value) (i : Nat) => ∃ t, v = .int (i : Int) t) out ((List.range n).mergeSort fun a b => decide (kz a ≤ kz b)) → Q (.ref q) { s with heap := h', toks := tk }) :
    wpAny (model prog w) A (call (.builtin "sorted") [.ref r] [(Str.ofString "key", .ref f)]) Q E s := by
  have hsz : n ≤ sizeLine := by rw [sizeLine_eq]; omega
  have hsm : Builtin.Range.rangeSize 0 (n : Int) 1 = n := by
    rw [rangeSize_one]
    by_cases c : (0 : Int) < (n : Int)
    · rw [if_pos c]; omega
    · rw [if_neg c]; omega
  refine call_function_entry_kw kind_sorted plain_sorted entry_sorted (ksk_s1 _ _) ?_
  unfold Builtin.«sorted»
  refine wpAny_bind (m := checkCount "sorted" 1 1 [Value.ref r].length) (wpAny_pure ?_)
  refine wpAny_bind (m := collect (Value.ref r)) (collect_range (A := A.in1) (n := n) hh hr ?_ hsm hn fun h' tk acc kp hi => ?_)
  · exact small_one (by decide) (by decide) (by omega) (by omega)
  have hlen : acc.toList.length = n := by rw [Array.length_toList]; exact hi.1
  refine wpAny_bind (m := newList acc.toList) (wpAny_newList ?_ (by rw [hlen]; exact hsz))
  have hat : (h'.push { cls := .type "list", data := .seq acc.toList.toArray }).get? h'.objs.size = some (seqObj "list" acc.toList.toArray 0) := Heap.get?_push_size _ rfl
  have ea : PySem.W.EachIs (fun (v : Value) (i : Nat) => ∃ t, v = .int (i : Int) t) acc.toList (List.range n) := by
    refine PySem.W.EachIs.of_zip (by rw [hlen, List.length_range]) fun p hp => ?_
    obtain ⟨j, hj⟩ := List.mem_iff_getElem?.mp hp
    rw [List.getElem?_zip_eq_some] at hj
    obtain ⟨j1, j2⟩ := hj
    obtain ⟨t, et⟩ := hi.2 j p.1 (by rw [← j1, Array.getElem?_toList])
    have ej : p.2 = j := by
      have := (List.getElem?_eq_some_iff.mp j2).2
      rw [List.getElem_range] at this
      exact this.symm
    refine ⟨t, ?_⟩
    rw [et, ej]
    congr 1
    omega
  refine wpAny_bind (wpAny_holding (wpAny_call_entry_kw slot_list_sort ⟨_, hat, rfl⟩ entry_list_sort ?_ (ksk_l1 _ _)))
  rw [ksk_t1]
  have kpush : ∀ b o, s.heap.get? b = some o → (h'.push { cls := .type "list", data := .seq acc.toList.toArray }).get? b = some o := fun b o e => Heap.get?_push_of_some _ (kp b o e)
  have up : ∀ {g : Heap}, PySem.W.KeepsBut h'.objs.size (h'.push { cls := .type "list", data := .seq acc.toList.toArray }) g → ∀ b o, s.heap.get? b = some o → g.get? b = some o := fun {g} k b o e =>
    k b o (Nat.ne_of_lt (Heap.lt_size (kp b o e))) (kpush b o e)
  refine PySem.W.keyH_tree (A := A.in1.in1) (b := false) (kz := (List.range n).map fun i => PyData.int (kz i)) (s := { s with heap := h'.push { cls := .type "list", data := .seq acc.toList.toArray }, toks := tk }) hat (by rw [List.length_map, List.length_range, hlen]) (by rw [hlen]; exact hsz)
    (PySem.W.AllAlike.of fun _ _ => rfl) (PySem.W.Sortable.others fun _ => ⟨(by intro z; cases z), (by intro _ z; cases z)⟩) (fun d hd => ?_)
    (PySem.W.keyH_turns (s := { s with heap := h'.push { cls := .type "list", data := .seq acc.toList.toArray }, toks := tk }) ea fun v i hv hi' h tk2 k => ?_) fun h2 tk2 out c k hD ko => ?_
  · obtain ⟨i, _, rfl⟩ := List.mem_map.mp hd
    show A.units + 1 + 1 + 0 < cLine
    omega
  · obtain ⟨t, rfl⟩ := hv
    exact turn i t (List.mem_range.mp hi') h tk2 (up k)
  · refine ⟨_, rfl, wpAny_pure ⟨_, rfl, fin out c h2 tk2 _ (up k) ⟨h', kp, Nat.le_refl _⟩ hD ?_⟩⟩
    have := PySem.W.keyedOut_each (fun i : Nat => PyData.int (kz i)) ko ea
    rw [PySem.W.dataLe_int] at this
    exact this
end
section
variable {X : Cx} {pins : List (Addr × Obj)} {σ : L2.St} {H : Hp} {s : Shared}
/-- range(n) as a value -/
theorem cr_range1 : CallR X (.type "range") (fun vs H Q => ∃ j, vs = [V.int j] ∧ ∀ p, H p = none → Q (.ref p) (upd H p (.rng 0 j))) := by
  intro pins s σ H vs us Q I r h
  obtain ⟨j, rfl, q⟩ := h
  obtain ⟨u, rfl, rj⟩ := r.one
  obtain ⟨t, rfl⟩ := rj
  refine call_range_1 ⟨.ref s.heap.objs.size, upd H s.heap.objs.size (.rng 0 j), I.laid (t' := s.toks + 1 + 1) (fun b o e => Heap.get?_push_of_some _ e) (Nat.le_refl _) ⟨_, _, _, Heap.get?_push_size _ rfl⟩, rfl, q _ (I.hok.fresh (Nat.le_refl _))⟩
/-- one call of the lambda -/
theorem lam_key {params : Arguments} {body : Expr} {scope : Scope} {par : Str} {f c' : Addr} {pm ctv : Value} {i n : Int} {t : Tok} {A : Around} {kr : L2.St → Hp → Int → Int → Prop} {h : Heap} {tk : Nat} (I : Inv X pins σ H s) (L : LamP X.env.scope scope par) (hd : A.depth < recursionLimit)
    (hf : s.heap.get? f = some (PySem.W.kla_obj "<lambda>" (X.env.qual ++ "<lambda>") params body scope (cloFrom X.env.cells scope.names []) pm c' ctv)) (hco : H c' = some (CodeO c' (X.env.qual ++ "<lambda>")))
    (hbind : ∀ v, bindArgs (PySem.W.kla_fn "<lambda>" (X.env.qual ++ "<lambda>") params body scope (cloFrom X.env.cells scope.names []) pm (.ref c') ctv) ⟨[v], []⟩ = pure [(par, v)])
    (hK : KeyR X scope body par kr) (hk : kr σ H i n) (kp : ∀ b o, s.heap.get? b = some o → h.get? b = some o) :
    wpAny (model X.prog X.w) A (call (.ref f) [.int i t]) (PySem.W.KeyPure (.int n) { s with heap := h, toks := tk }) (fun _ _ => False) { s with heap := h, toks := tk } := by
  obtain ⟨⟨oc, vs, t', hoc, hdc, hvc⟩, _, _⟩ := I.hok c' _ hco
  refine wpAny_call (codeAny_mono (R := fun r s' => ∃ v, r = .ok (.ret v) ∧ PySem.W.KeyPure (.int n) { s with heap := h, toks := tk } v s') ?_ fun r s' hq => ?_)
  · refine PySem.W.kla_callFunE (s := { s with heap := h, toks := tk }) hd (kp _ _ hf) rfl L.co L.gen rfl ⟨c', oc, vs, t', rfl, kp _ _ hoc, hdc, hvc⟩ ?_
    rw [hbind]
    refine wpAny_pure (wpAny_newFunctionEnv L.own (fun y hy => by rw [List.mem_singleton.mp hy]; exact L.par) (fun h₁ hns hsb => ?_) L.kind)
    have k1 : ∀ b o, h.get? b = some o → h₁.get? b = some o := fun b o e => hsb.extBut b o (Nat.ne_of_lt (Heap.lt_size e)) (Heap.get?_push_of_some _ e)
    have k2 : ∀ b o, s.heap.get? b = some o → h₁.get? b = some o := fun b o e => k1 b o (kp b o e)
    refine ⟨I.nolimit.keeps k2, PySem.W.kla_codeExpr ?_⟩
    refine hK pins s σ H i n I hk t h₁ h.objs.size f c' k2 hns _ _ _ _ rfl fun v tk2 hv => ?_
    obtain ⟨t2, rfl⟩ := hv
    exact ⟨_, rfl, h₁, tk2, rfl, k1, .int n t2⟩
  · obtain ⟨v, rfl, hv⟩ := hq
    exact hv
end
/-- positions in the order of their keys -/
def sortM (n : Nat) (ks : Nat → Int) : List Int := ((List.range n).mergeSort fun a b => decide (ks a ≤ ks b)).map fun i : Nat => (i : Int)
def tSortRK (T : List (Addr × Str)) (ta : TA) (kr : L2.St → Hp → Int → Int → Prop) : TE := fun σ H Q => ta σ H fun vs H1 => ∃ (r : Addr) (n : Nat), vs = [.ref r] ∧ H1 r = some (.rng 0 (n : Int)) ∧ n ≤ 2 ^ 24 ∧ Tabs T H1 ∧
  ∀ H2, ExtN H1 H2 → Tabs T H2 → ∃ ks : Nat → Int, (∀ i : Nat, i < n → kr σ H2 (i : Int) (ks i)) ∧ ∀ p, H2 p = none → Q (.ref p) (upd H2 p (.lst ((sortM n ks).map V.int)))
theorem each_ints : ∀ {out : List Value} {is : List Nat}, PySem.W.EachIs (fun (v : Value) (i : Nat) => ∃ t, v = .int (i : Int) t) out is → Vals ((is.map fun i : Nat => (i : Int)).map V.int) out
  | _, _, .nil => .nil
  | _, _, .cons ⟨t, e⟩ r => .cons ⟨t, e⟩ (each_ints r)
theorem pe_sortRK {X : Cx} {T : List (Addr × Str)} {c P : Addr} {par : Str} {params : Arguments} {body : Expr} {scope : Scope} {kr : L2.St → Hp → Int → Int → Prop} {e : Expr} {ta : TA} {p pos lpos kpos : Pos} (hc : X.calm = true) (hg : Gl X "sorted") (hm : X.mg "sorted" = none) (ha : PA X [e] ta)
    (TB : TabB X.base X.mg c P) (hcode : X.env.code = .ref c) (hmT : (P, X.env.qual ++ "<lambda>") ∈ T) (hu : ∀ p ∈ T, p.1 = P → p.2 = X.env.qual ++ "<lambda>") (hr : Room 3 X.A) (L : LamP X.env.scope scope par) (hdef : defaultsOf params X.env = ([], []))
    (hbind : ∀ (q : Str) (cl : List (Str × Addr)) (pm cv ctv v : Value), bindArgs (PySem.W.kla_fn "<lambda>" q params body scope cl pm cv ctv) ⟨[v], []⟩ = pure [(par, v)]) (hK : KeyR X scope body par kr)
    (he : backTo pos (starEach [e] X.env) = (false, eval e X.env) :: backTo pos (starEach [] X.env) := by rfl) (hpl : (backTo pos (starEach [e] X.env)).any (·.1) = false := by rfl) :
    PE X (.Call (.Name "sorted" p) [e] [⟨some "key", .Lambda params body scope lpos, kpos⟩] pos) (tSortRK T ta kr) := by
  refine ⟨fun pins s σ H Q I h => ?_⟩
  refine wpAny_Call_Name_kw (ld_blt I hg hm (by decide +kernel : bootBuiltins "sorted" = some (.builtin "sorted")) ?_ (by decide) (by decide))
  refine PyProof.Rows.callWith_kw (thn (ha.run pos pins s σ H _ I h) fun us s1 ⟨vs, H1, I1, r1, q1⟩ => ?_) he hpl rfl rfl
  obtain ⟨r, n, rfl, hrg, hn, hT, q⟩ := q1
  obtain ⟨u, rfl, ru⟩ := r1.one
  obtain rfl : u = Value.ref r := ru
  show wpAny _ _ (evalAll ((do let v ← eval (.Lambda params body scope lpos) X.env; standAt pos; pure v) :: [])) _ _ s1
  refine wpAny_evalAll_cons (wpAny_bind (lam_make2 I1 TB hcode hmT hu hT hdef (fun y hy e => ?_) fun f c' pm ctv H2 s2 I2 eN T2 hf hfn hfr hco => wpAny_bind (wpAny_standAt (wpAny_pure (wpAny_evalAll_nil ?_)))))
  · rcases L.free y hy e with k | k
    · exact I1.ok.has _ (.inl k)
    · exact I1.ok.has _ (.inr k)
  · obtain ⟨ks, hks, q⟩ := q H2 eN T2
    obtain ⟨t, u, v, ho⟩ := I2.hok r _ (eN _ _ hrg (by intro _ z; cases z))
    show wpAny _ _ (call (.builtin "sorted") [.ref r] [(Str.ofString "key", .ref f)]) _ _ _
    refine sorted_rng (n := n) (kz := ks) (I2.ok.hd hc) (show IsRange s2.heap r 0 (n : Int) 1 t u v from ho) hn ?_ (fun i t hi h tk kp => ?_) fun out cc h' tk q' kp hm hD ea => ?_
    · have := hr.units
      omega
    · exact lam_key I2 L hr.in1.in1.depth hf hco (hbind _ _ _ _ _) hK (hks i hi) kp
    · obtain ⟨hm', k1, k2⟩ := hm
      have nH : H2 q' = none := (I2.hok.kept k1).fresh k2
      have nS : s2.heap.get? q' = none := by
        cases e : s2.heap.get? q' with
        | none => rfl
        | some o => exact absurd (Heap.lt_size (k1 _ _ e)) (Nat.not_lt.mpr k2)
      refine ⟨.ref q', upd H2 q' (.lst ((sortM n ks).map V.int)), I2.laidN (t' := tk) kp nS nH ⟨?_, out, cc, each_ints ea, hD⟩, rfl, q _ nH⟩
      unfold sortM
      rw [List.length_map, List.length_map, (List.mergeSort_perm _ _).length_eq, List.length_range, sizeLine_eq]
      omega
/-! ### a staticmethod called with keywords -/
structure SmN (P : Program) (w : World) (K : PySem.W.Frag) (mg : Str → Option Value) (base : Heap) (CX : CXT) (k : Nat) (x m : Str) (n : Nat) (ks : List Str) (gV : List V → List V → List V) (sp : Sp) : Prop where
  ex : ∃ (C p g : Addr) (mc : Value) (fd : FuncData) (ps : List Str) (g2 : List Value → List Value → List Value), mg x = some (.ref C) ∧ ClX.CRead K C mc ∧ SMet K C mc m p g ∧ FnOk P w K mg base CX k g fd ps sp ∧ KBn K fd ps n ks g2 gV
section
variable {X : Cx} {CX : CXT} {k j n : Nat} {C : Addr} {x m : Str} {ks : List Str} {gV : List V → List V → List V} {sp : Sp} {E : XK} {p pos apos : Pos} {e : Expr} {es : List Expr} {kws : List Keyword} {t tk : TA}
theorem pe_smN {pl : Sem Bool} (c : SmN X.prog X.w X.K X.mg X.base CX k x m n ks gV sp) (hr : Room j X.A) (hk : k ≤ j) (hg : Gl X x) (hx : Passes CX X E) (ha : PA X (e :: es) t) (hkw : PK X kws tk) (hall : (backToKw pos (keywordEach kws X.env)).all (·.1.isSome) = true := by rfl) (hks : (backToKw pos (keywordEach kws X.env)).filterMap (·.1) = ks := by rfl)
    (hdb : (x == ("__debug__" : Str)) = false := by decide) (hst : starEach (e :: es) X.env = (false, eval e X.env) :: starEach es X.env := by rfl)
    (hpl : ((backTo pos (starEach (e :: es) X.env)).any (·.1) || (backToKw pos (keywordEach kws X.env)).any (·.1.isNone)) = false := by rfl)
    (ht : eval (.Call (.Attribute (.Name x p) m apos) (e :: es) kws pos) X.env = (do
      let ov ← eval (.Name x p) X.env
      standAt apos.atName
      let (f, first) ← holding [ov] (getMethod ov m pl)
      callWith pos f first (backTo pos (starEach (e :: es) X.env)) (backToKw pos (keywordEach kws X.env))) := by rfl) :
    PE X (.Call (.Attribute (.Name x p) m apos) (e :: es) kws pos) (tCallN n ks.length sp gV E t tk) := by
  obtain ⟨C, pr, g, mc, fd, ps, g2, hm, r, c, F, hb⟩ := c.ex
  obtain ⟨rest, hp⟩ := c.rc
  refine ⟨fun pins s σ H Q I h => ?_⟩
  refine PySem.W.methodCall_KW (pl := pl) (ld_glob I hg hm ?_ hdb) ht
  refine PySem.W.method_cls I.kIn r.ga (PySem.W.cls_bind I.kIn r.rd c.at_ (wpAny_call (PySem.W.sm_get (s := { s with toks := s.toks + 1 }) I.kIn hp (PySem.W.handed_on rfl ?_))))
  have I0 : Inv X pins σ H { s with toks := s.toks + 1 } := I.tok _
  refine PySem.W.callWith_KW (h₀ := X.base) I.ok.mod.kin c.kp hall (thn (ha.run pos pins _ σ H _ I0 h) fun us s1 ⟨vs, H1, I1, rv, q⟩ => ?_) hpl hst
  refine thn (hkw.run pos pins s1 σ H1 _ I1 q) fun ws s2 ⟨zs, H2, I2, rz, l1, l2, q2⟩ => ⟨I2.kIn, ?_⟩
  rw [hks]
  exact run_fnN F (hr.mono hk) hb hx I2 rv rz l1 l2 q2
end
end SB

/-! own methods by their names. -/
namespace SB
open PySem PySem.Spec PyProof.Rows L2
theorem pe_mo {X : Cx} {CX : CXT} {k j : Nat} {C : Addr} {m : Str} {sp : Sp} {E : XK} {o e : Expr} {es : List Expr} {ta : TE} {t : TA} {apos pos : Pos} {pl : Sem Bool} (he : PE X o ta) (cl : Cls X.K C) (c : Me X.prog X.w X.K X.mg X.base CX k C m sp) (hr : Room j X.A) (hk : k ≤ j) (hx : Passes CX X E) (ha : PA X (e :: es) t)
    (hst : starEach (e :: es) X.env = (false, eval e X.env) :: starEach es X.env := by rfl) (hpl : (backTo pos (starEach es X.env)).any (·.1) = false := by rfl)
    (ht : eval (.Call (.Attribute o m apos) (e :: es) [] pos) X.env = (do
      let ov ← eval o X.env
      standAt apos.atName
      let (f, first) ← holding [ov] (getMethod ov m pl)
      callWith pos f first (backTo pos (starEach (e :: es) X.env)) (backToKw pos (keywordEach [] X.env))) := by rfl) :
    PE X (.Call (.Attribute o m apos) (e :: es) [] pos) (tMethR C m sp E ta t) := by
  obtain ⟨g, F, h1, h2, h3⟩ := c.ex
  exact pe_methR he cl ⟨h1, h2, h3⟩ F (hr.mono hk) hx ha hst hpl ht
/-! ### a tuple whose object is known to have no attributes -/
/-- at p stands a tuple of xs, locked, without a dict -/
def FzT (H : Hp) (p : Addr) (xs : List V) : Prop := ∃ o, H p = some (.frz o (.tup xs)) ∧ o.dict = none
theorem FzT.sq {K : PySem.W.Frag} {H : Hp} {p : Addr} {xs : List V} (h : FzT H p xs) : SqT K H p xs := by
  obtain ⟨o, h, _⟩ := h
  exact .inl (.inr ⟨o, h⟩)
theorem FzT.same {H H' : Hp} {p : Addr} {xs : List V} (h : FzT H p xs) (e : Same H H') : FzT H' p xs := by
  obtain ⟨o, h, hd⟩ := h
  exact ⟨o, e _ _ h, hd⟩
/-- tuple(x): a list gives a new tuple, a tuple itself -/
theorem call_tupleF {X : Cx} : CallR X (.type "tuple") (fun xs H Q => ∃ p ys, xs = [.ref p] ∧ ((SqL X.K H p ys ∧ ∀ l H', H l = none → (∀ b, b ≠ l → H' b = H b) → FzT H' l ys → Q (.ref l) H') ∨ (SqT X.K H p ys ∧ Q (.ref p) H))) := by
  intro pins s σ H xs us Q I r h
  obtain ⟨p, ys, rfl, h⟩ := h
  obtain ⟨u, rfl, rx⟩ := r.one
  cases (show u = Value.ref p from rx)
  rcases h with ⟨hq, q⟩ | ⟨hq, q⟩
  · obtain ⟨its, r', pl, hz⟩ := I.list hq
    have hlen := r'.length
    refine call_tuple_list pl.isList (fun h' kp => ?_) (by simp only [List.size_toArray] <;> omega)
    have I1 : Inv X pins σ H { s with heap := h' } := I.kept (t' := s.toks) kp
    have I2 : Inv X pins σ (upd H h'.objs.size (.frz { cls := .type "tuple", data := .seq its.toArray } (.tup ys))) { s with heap := h'.push { cls := .type "tuple", data := .seq its.toArray } } :=
      I1.laid (t' := s.toks) (fun b o e => Heap.get?_push_of_some _ e) (Nat.le_refl _) (show ObjOk X.prog X.w _ _ _ (.frz _ (.tup ys)) from ⟨Heap.get?_push_size _ rfl, hz, its, r', IsTup.new _ _⟩)
    exact ⟨.ref h'.objs.size, _, I2, rfl, q _ _ (I1.hok.fresh (Nat.le_refl _)) (fun b hb => upd_ne hb) ⟨_, upd_same, rfl⟩⟩
  · obtain ⟨its, r', pl, hz⟩ := I.tuple hq
    exact call_tuple_same pl ⟨.ref p, H, I, rfl, q⟩
def tBMF (r : V → List V → Hp → VK → Prop) (to : TE) (t : TA) : TE := fun σ H Q => to σ H fun x H1 => (∃ p xs, x = .ref p ∧ FzT H1 p xs) ∧ t σ H1 fun xs H2 => r x xs H2 Q
/-- a method of such a tuple -/
theorem pe_bmF {X : Cx} {o a1 : Expr} {a2 : List Expr} {to : TE} {t : TA} {name : Str} {ap cp : Pos} {id : String} {r : V → List V → Hp → VK → Prop} (slot : Slot "tuple" name id) (hty : typeOf (.builtin id) = pure (.type "method_descriptor")) (hm : MtR X id r) (ho : PE X o to) (ha : PA X (a1 :: a2) t) (hbase : attributeBase o name X.env (eval o X.env) = eval o X.env := by rfl)
    (hfew : ((backTo cp (starEach (a1 :: a2) X.env)).all (fun x => !x.1) && (backToKw cp (keywordEach [] X.env)).all (fun x => x.1.isSome) && decide ((a1 :: a2).length + ([] : List Keyword).length + (if ([] : List Keyword).isEmpty then 0 else 1) < 30)) = true := by rfl)
    (hline : (ap.endLine == cp.line) = true := by rfl) (hs : starEach (a1 :: a2) X.env = (false, eval a1 X.env) :: starEach a2 X.env := by rfl) (hp1 : (backTo cp (starEach a2 X.env)).any (·.1) = false := by rfl) : PE X (.Call (.Attribute o name ap) (a1 :: a2) [] cp) (tBMF r to t) := by
  refine ⟨fun pn st σ H Q I hh => ?_⟩
  refine wpAny_Call_method_late hbase hfew hline rfl (thn (ho.run pn st σ H _ I hh) fun v s1 ⟨x, H1, I1, r1, ⟨p, xs, ex, ob, hp, hd⟩, q1⟩ => ?_)
  subst ex
  obtain rfl : v = Value.ref p := r1
  obtain ⟨g1, _, its, _, o2, g2, g3, _⟩ := I1.hok p _ hp
  have e2 : o2 = ob := Option.some.inj (g2.symm.trans g1)
  subst e2
  have hA := ha.run cp pn s1 σ H1 _ I1 q1
  refine ⟨"tuple", id, PySem.F.plainAttrs_tuple, slot, hty, ⟨_, g1, g3⟩, fun a ea => by cases ea; exact ⟨_, g1, hd⟩, ?_⟩
  rw [hs] at hA ⊢
  refine Calls.callWith_builtin (by show (false || (backTo cp (starEach a2 X.env)).any (·.1)) = false; rw [hp1] <;> rfl) (Calls.evalArgs_plain (thn hA fun us s2 ⟨vs, H2, I2, rv, q2⟩ => hm pn s2 σ H2 (.ref p) vs (.ref p) us Q I2 rfl rv q2))
end SB

/-! o[i] = v, o an instance of a class with a __setitem__ of its own. -/
namespace SB
open PySem PySem.Spec PyProof.Rows L2
def rSetO (C : Addr) (sp : Sp) (E : XK) : TSet := fun o i v H Q => ∃ a dx fs, o = .ref a ∧ H a = some (.ins C dx fs) ∧ sp [o, i, v] H (fun _ H' => Q H') E
theorem set_own {X : Cx} {CX : CXT} {k j : Nat} {C : Addr} {sp : Sp} {E : XK} (c : Me X.prog X.w X.K X.mg X.base CX k C "__setitem__" sp) (hq : PySem.W.noSeq X.K C = true) (hr : Room j X.A) (hk : k ≤ j) (hx : Passes CX X E) : PSet X (rSetO C sp E) := by
  obtain ⟨g, F, hs, hf, _⟩ := c.ex
  intro pins s σ H o i v ov iv u Q I ro ri rv h
  obtain ⟨a, dx, fs, rfl, ha, q⟩ := h
  cases (show ov = Value.ref a from ro)
  obtain ⟨ox, od, J⟩ := inst_at I ha
  obtain ⟨m, hF⟩ := I.fr
  refine PySem.W.ksp_setItem hF I.ok.mod.kin J hq hs hf (wpAny_mono (wpAny_call (run_fnR (us := [.ref a, iv, u]) (vs := [.ref a, i, v]) F (hr.mono hk) hx I (.cons rfl (.cons ri (.cons rv .nil))) q)) (fun _ s' ⟨_, H', I', _, q'⟩ => ⟨H', I', q'⟩) fun _ _ z => z)
end SB

/-! zip of a list and a tuple. -/
namespace SB
open PySem PySem.Spec PyProof.Rows L2 RZ
section
variable {prog : Program} {w : World} {A : Around} {E : Value → Shared → Prop} {s : Shared}
/-- one turn: the list gives u, the tuple gives v -/
theorem zm_item {c ti to j1 j2 p q : Addr} {m n : Nat} {us vs : Array Value} {u v d e : Value} {R : Value → Shared → Prop} (D : ZipApart c ti to j1 j2 p q) (gc : IsZip s.heap c ti to .none) (gI : IsPair s.heap ti (.ref j1) (.ref j2)) (gO : IsPair s.heap to d e)
    (g1 : s.heap.IsListIter j1 p m) (g2 : s.heap.IsTupleIter j2 q n) (gp : s.heap.IsList p us) (gq : s.heap.IsTuple q vs) (hu : us[m]? = some u) (hv : vs[n]? = some v)
    (kR : ∀ k, IsZip k c ti to (rawInt s.heap.objs.size) → IsPair k to u v → k.IsListIter j1 p (m + 1) → k.IsTupleIter j2 q (n + 1) → IsPair k s.heap.objs.size u v → k.objs.size = s.heap.objs.size + 1 →
      (∀ y o, y ≠ c → y ≠ to → y ≠ j1 → y ≠ j2 → s.heap.get? y = some o → k.get? y = some o) → R (.ref s.heap.objs.size) { s with heap := k }) :
    wpAny (model prog w) A (Builtin.«zip.__next__» ⟨[.ref c], []⟩) (fun fin s' => ∃ r, fin = .done (.ret r) ∧ R r s') E s := by
  show wpAny _ _ (field (.ref c) 2 >>= _) _ _ _
  refine wpAny_bind (wpAny_field gc rfl (x := .bool false) rfl ?_)
  show wpAny _ _ (field (.ref c) 3 >>= _) _ _ _
  refine wpAny_bind (wpAny_field gc rfl (x := .ref ti) rfl (wpAny_bind (wpAny_seqItems gI rfl ?_)))
  show wpAny _ _ (Builtin.SmallTypes.ownedTupleIsFree (.ref c) >>= _) _ _ _
  refine wpAny_bind ?_; unfold Builtin.SmallTypes.ownedTupleIsFree
  refine wpAny_bind (wpAny_field gc rfl (x := .none) rfl (wpAny_pure ?_)); simp only [if_true]
  refine wpAny_bind (wpAny_rule (wpAny_bind (wpAny_field gc rfl (x := .ref to) rfl (wpAny_bind (wpAny_setField_rec gc (by simp) fun a1 c1 s1 => ?_)))))
  replace c1 : IsZip a1 c ti to .ellipsis := c1
  refine wpAny_bind ?_; simp only [List.forIn_cons, List.forIn_nil, List.zipIdx_cons, List.zipIdx_nil]
  refine wpAny_bind (wpAny_bind (wpAny_onRaise ?_)); show wpAny _ _ (Builtin.SmallTypes.nextOf (.ref j1) >>= _) _ _ _
  refine wpAny_bind (wpAny_nextOf_list_item (g1.extBut s1.extBut D.i1z) (gp.extBut s1.extBut D.l1z) hu fun a2 i2 s2 => wpAny_pure ?_)
  have o2 : IsPair a2 to d e := s2.extBut _ _ D.TOi1 (s1.extBut _ _ D.TOz gO)
  refine wpAny_bind (wpAny_seqItems o2 rfl (wpAny_bind (wpAny_updateSeq_pair o2 fun a3 o3 s3 => ?_)))
  replace o3 : IsPair a3 to u e := o3
  refine wpAny_bind (wpAny_letGo (wpAny_pure ?_))
  refine wpAny_bind (wpAny_bind (wpAny_onRaise ?_)); show wpAny _ _ (Builtin.SmallTypes.nextOf (.ref j2) >>= _) _ _ _
  refine wpAny_bind (nextOf_tuple_item (((g2.extBut s1.extBut D.i2z).extBut s2.extBut D.i12.symm).extBut s3.extBut D.TOi2.symm) (((gq.extBut s1.extBut D.l2z).extBut s2.extBut D.l2i1).extBut s3.extBut D.l2TO) hv fun a4 i4 s4 => wpAny_pure ?_)
  have o4 : IsPair a4 to u e := s4.extBut _ _ D.TOi2 o3
  refine wpAny_bind (wpAny_seqItems o4 rfl (wpAny_bind (wpAny_updateSeq_pair o4 fun a5 o5 s5 => ?_)))
  replace o5 : IsPair a5 to u v := o5
  refine wpAny_bind (wpAny_letGo (wpAny_pure (wpAny_pure (wpAny_bind (wpAny_seqItems o5 rfl (wpAny_bind (wpAny_newTuple ?_)))))))
  have esz : a5.objs.size = s.heap.objs.size := by rw [s5.1, s4.1, s3.1, s2.1, s1.1]
  have c5 : IsZip a5 c ti to .ellipsis := s5.extBut _ _ D.TOz.symm (s4.extBut _ _ D.i2z.symm (s3.extBut _ _ D.TOz.symm (s2.extBut _ _ D.i1z.symm c1)))
  have k5 : ∀ y o, y ≠ c → y ≠ to → y ≠ j1 → y ≠ j2 → s.heap.get? y = some o → a5.get? y = some o := fun y o n1 n2 n3 n4 z => s5.extBut _ _ n2 (s4.extBut _ _ n4 (s3.extBut _ _ n2 (s2.extBut _ _ n3 (s1.extBut _ _ n1 z))))
  have f1 : a5.IsListIter j1 p (m + 1) := ((i2.extBut s3.extBut D.TOi1.symm).extBut s4.extBut D.i12).extBut s5.extBut D.TOi1.symm
  have f2 : a5.IsTupleIter j2 q (n + 1) := i4.extBut s5.extBut D.TOi2.symm
  have clt : c < a5.objs.size := Heap.lt_size c5
  show wpAny _ _ (Builtin.SmallTypes.ownedTupleHandOut (.ref c) (.ref a5.objs.size) >>= _) _ _ _
  refine wpAny_bind ?_; unfold Builtin.SmallTypes.ownedTupleHandOut
  have c6 : IsZip (a5.push { cls := .type "tuple", data := .seq #[u, v] }) c ti to .ellipsis := Heap.get?_push_of_some _ c5
  refine wpAny_bind (wpAny_setField_rec c6 (by simp) fun a7 c7 s7 => ?_)
  replace c7 : IsZip a7 c ti to (rawInt a5.objs.size) := c7
  refine wpAny_setField_rec c7 (by simp) fun a8 c8 s8 => ?_
  replace c8 : IsZip a8 c ti to (rawInt a5.objs.size) := c8
  have up : ∀ y o, y ≠ c → a5.get? y = some o → a8.get? y = some o := fun y o n1 z => s8.extBut _ _ n1 (s7.extBut _ _ n1 (Heap.get?_push_of_some _ z))
  have t8 : IsPair a8 a5.objs.size u v := s8.extBut _ _ (Nat.ne_of_gt clt) (s7.extBut _ _ (Nat.ne_of_gt clt) (Heap.get?_push_size _ rfl))
  have z8 : a8.objs.size = a5.objs.size + 1 := by rw [s8.1, s7.1, Heap.size_push]
  rw [esz] at c8 t8 z8
  refine wpAny_pure ⟨_, rfl, ?_⟩
  show R (.ref a5.objs.size) _
  rw [esz]
  exact kR a8 c8 (up _ _ D.TOz o5) (f1.at fun o z => up _ o D.i1z z) (f2.at fun o z => up _ o D.i2z z) t8 z8 fun y o n1 n2 n3 n4 z => up y o n1 (k5 y o n1 n2 n3 n4 z)
/-- the end: one of them has no more -/
theorem zm_end {c ti to j1 j2 p q : Addr} {m n : Nat} {us vs : Array Value} {d e : Value} {R : Fin → Shared → Prop} (hh : A.handled = none) (D : ZipApart c ti to j1 j2 p q) (gc : IsZip s.heap c ti to .none) (gI : IsPair s.heap ti (.ref j1) (.ref j2)) (gO : IsPair s.heap to d e)
    (g1 : s.heap.IsListIter j1 p m) (g2 : s.heap.IsTupleIter j2 q n) (gp : s.heap.IsList p us) (gq : s.heap.IsTuple q vs) (hn : us[m]? = none ∨ vs[n]? = none)
    (kE : ∀ k x, (∀ y o, y ≠ c → y ≠ to → y ≠ j1 → y ≠ j2 → s.heap.get? y = some o → k.get? y = some o) → (∃ o, k.get? x = some o ∧ o.cls = .type "StopIteration") → E (.ref x) { s with heap := k }) :
    wpAny (model prog w) A (Builtin.«zip.__next__» ⟨[.ref c], []⟩) R E s := by
  show wpAny _ _ (field (.ref c) 2 >>= _) _ _ _
  refine wpAny_bind (wpAny_field gc rfl (x := .bool false) rfl ?_)
  show wpAny _ _ (field (.ref c) 3 >>= _) _ _ _
  refine wpAny_bind (wpAny_field gc rfl (x := .ref ti) rfl (wpAny_bind (wpAny_seqItems gI rfl ?_)))
  show wpAny _ _ (Builtin.SmallTypes.ownedTupleIsFree (.ref c) >>= _) _ _ _
  refine wpAny_bind ?_; unfold Builtin.SmallTypes.ownedTupleIsFree
  refine wpAny_bind (wpAny_field gc rfl (x := .none) rfl (wpAny_pure ?_)); simp only [if_true]
  refine wpAny_bind (wpAny_rule (wpAny_bind (wpAny_field gc rfl (x := .ref to) rfl (wpAny_bind (wpAny_setField_rec gc (by simp) fun a1 c1 s1 => ?_)))))
  replace c1 : IsZip a1 c ti to .ellipsis := c1
  refine wpAny_bind ?_; simp only [List.forIn_cons, List.forIn_nil, List.zipIdx_cons, List.zipIdx_nil]
  refine wpAny_bind (wpAny_bind (wpAny_onRaise ?_)); show wpAny _ _ (Builtin.SmallTypes.nextOf (.ref j1) >>= _) _ _ _
  cases hu : us[m]? with
  | none =>
    refine wpAny_bind (wpAny_nextOf_list_end hh (g1.extBut s1.extBut D.i1z) (gp.extBut s1.extBut D.l1z) hu fun a2 x s2 hx => ?_)
    obtain ⟨ox, h1, h2⟩ := hx
    have c2 : IsZip a2 c ti to .ellipsis := s2 _ _ D.i1z.symm c1
    have nx : x ≠ c := fun z => by subst z; rw [c2] at h1; cases h1; simp at h2
    exact wpAny_setField_rec c2 (by simp) fun a3 _ s3 => kE a3 x (fun y o n1 _ n3 _ z => s3.extBut _ _ n1 (s2 _ _ n3 (s1.extBut _ _ n1 z))) ⟨ox, s3.extBut _ _ nx h1, h2⟩
  | some u =>
    have hv : vs[n]? = none := hn.resolve_left (by rw [hu]; intro z; cases z)
    refine wpAny_bind (wpAny_nextOf_list_item (g1.extBut s1.extBut D.i1z) (gp.extBut s1.extBut D.l1z) hu fun a2 i2 s2 => wpAny_pure ?_)
    have o2 : IsPair a2 to d e := s2.extBut _ _ D.TOi1 (s1.extBut _ _ D.TOz gO)
    refine wpAny_bind (wpAny_seqItems o2 rfl (wpAny_bind (wpAny_updateSeq_pair o2 fun a3 o3 s3 => wpAny_bind (wpAny_letGo (wpAny_pure (wpAny_bind (wpAny_bind (wpAny_onRaise ?_))))))))
    show wpAny _ _ (Builtin.SmallTypes.nextOf (.ref j2) >>= _) _ _ _
    refine wpAny_bind (nextOf_tuple_end hh (((g2.extBut s1.extBut D.i2z).extBut s2.extBut D.i12.symm).extBut s3.extBut D.TOi2.symm) (((gq.extBut s1.extBut D.l2z).extBut s2.extBut D.l2i1).extBut s3.extBut D.l2TO) hv fun a4 x s4 hx => ?_)
    obtain ⟨ox, h1, h2⟩ := hx
    have c4 : IsZip a4 c ti to .ellipsis := s4 _ _ D.i2z.symm (s3.extBut _ _ D.TOz.symm (s2.extBut _ _ D.i1z.symm c1))
    have nx : x ≠ c := fun z => by subst z; rw [c4] at h1; cases h1; simp at h2
    exact wpAny_setField_rec c4 (by simp) fun a5 _ s5 => kE a5 x (fun y o n1 n2 n3 n4 z => s5.extBut _ _ n1 (s4 _ _ n4 (s3.extBut _ _ n2 (s2.extBut _ _ n3 (s1.extBut _ _ n1 z))))) ⟨ox, s5.extBut _ _ nx h1, h2⟩
theorem zm_next {c ti to j1 j2 p q : Addr} {m n : Nat} {us vs : Array Value} {u v d e : Value} {R : Option Value → Shared → Prop} (D : ZipApart c ti to j1 j2 p q) (gc : IsZip s.heap c ti to .none) (gI : IsPair s.heap ti (.ref j1) (.ref j2)) (gO : IsPair s.heap to d e)
    (g1 : s.heap.IsListIter j1 p m) (g2 : s.heap.IsTupleIter j2 q n) (gp : s.heap.IsList p us) (gq : s.heap.IsTuple q vs) (hu : us[m]? = some u) (hv : vs[n]? = some v)
    (kR : ∀ k, IsZip k c ti to (rawInt s.heap.objs.size) → IsPair k to u v → k.IsListIter j1 p (m + 1) → k.IsTupleIter j2 q (n + 1) → IsPair k s.heap.objs.size u v → k.objs.size = s.heap.objs.size + 1 →
      (∀ y o, y ≠ c → y ≠ to → y ≠ j1 → y ≠ j2 → s.heap.get? y = some o → k.get? y = some o) → R (some (.ref s.heap.objs.size)) { s with heap := k }) : wpAny (model prog w) A (pyNext (.ref c)) R E s := by
  have ty : s.TypeIs (.ref c) "zip" := ⟨_, gc, rfl⟩
  unfold pyNext
  exact wpAny_bind (wpAny_attempt (wpAny_callSpecial?_slot (name := Str.ofString "__next__") ty F.slot_zip_next (wpAny_call_entry F.slot_zip_next ty F.entry_zip_next (zm_item D gc gI gO g1 g2 gp gq hu hv fun k b1 b2 b3 b4 b5 b6 b7 => wpAny_pure (kR k b1 b2 b3 b4 b5 b6 b7)) (F.args_zip_next_1 _))))
theorem zm_stop {c ti to j1 j2 p q : Addr} {m n : Nat} {us vs : Array Value} {d e : Value} {R : Option Value → Shared → Prop} (hh : A.handled = none) (D : ZipApart c ti to j1 j2 p q) (gc : IsZip s.heap c ti to .none) (gI : IsPair s.heap ti (.ref j1) (.ref j2)) (gO : IsPair s.heap to d e)
    (g1 : s.heap.IsListIter j1 p m) (g2 : s.heap.IsTupleIter j2 q n) (gp : s.heap.IsList p us) (gq : s.heap.IsTuple q vs) (hn : us[m]? = none ∨ vs[n]? = none)
    (kR : ∀ k, (∀ y o, y ≠ c → y ≠ to → y ≠ j1 → y ≠ j2 → s.heap.get? y = some o → k.get? y = some o) → R none { s with heap := k }) : wpAny (model prog w) A (pyNext (.ref c)) R E s := by
  have ty : s.TypeIs (.ref c) "zip" := ⟨_, gc, rfl⟩
  unfold pyNext
  refine wpAny_bind (wpAny_attempt (wpAny_callSpecial?_slot (name := Str.ofString "__next__") ty F.slot_zip_next (wpAny_call_entry F.slot_zip_next ty F.entry_zip_next (zm_end hh D gc gI gO g1 g2 gp gq hn fun k x kk hx => ?_) (F.args_zip_next_1 _))))
  obtain ⟨ox, h1, h2⟩ := hx
  exact wpAny_bind (wpAny_isInstance (T := "StopIteration") (b := true) ⟨ox, h1, h2⟩ isSubtype_stop (wpAny_pure (kR _ kk)))
end
/-! ### zip(list, tuple): the five new objects -/
abbrev zm1 (h : Heap) (p : Addr) : Heap := h.push { cls := .type "list_iterator", data := .fields #[.ref p, .int 0 0] }
abbrev zm2 (h : Heap) (p q : Addr) : Heap := (zm1 h p).push { cls := .type "tuple_iterator", data := .fields #[.ref q, .int 0 0] }
abbrev zm3 (h : Heap) (p q : Addr) : Heap := (zm2 h p q).push { cls := .type "tuple", data := .seq #[.ref h.objs.size, .ref (zm1 h p).objs.size] }
abbrev zm4 (h : Heap) (p q : Addr) : Heap := (zm3 h p q).push { cls := .type "tuple", data := .seq #[.none, .none] }
abbrev zm5 (h : Heap) (p q : Addr) : Heap := (zm4 h p q).push { cls := .type "zip", data := .fields #[.none, .bool false, .bool false, .ref (zm2 h p q).objs.size, .ref (zm3 h p q).objs.size] }
theorem zm_new (p q : Addr) (us vs : Array Value) : Meets (Builtin.«zip.__new__» ⟨[.type "zip", .ref p, .ref q], []⟩) (fun _ R s => s.heap.IsList p us ∧ s.heap.IsTuple q vs ∧ R (.ok (.ret (.ref (zm4 s.heap p q).objs.size))) { s with heap := zm5 s.heap p q }) :=
  .of_wp fun prog w A R s h => by
    obtain ⟨hp, g, d, tk, os⟩ := s; obtain ⟨h1, h2, h⟩ := h
    have hsub := sub_zip
    have k1 : Heap.IsList (Shared.heap ⟨hp, g, d, tk, os⟩) p us := h1
    have k2 : Heap.IsTuple (Shared.heap ⟨hp.push { cls := .type "list_iterator", data := .fields #[.ref p, .int 0 0] }, g, d, tk, os⟩) q vs := Heap.IsTuple.push h2 _
    wp_walk using wpAny_pyIter_list k1, wpAny_pyIter_tuple k2
    exact ⟨_, rfl, h⟩
section
variable {prog : Program} {w : World} {A : Around} {E : Value → Shared → Prop} {s : Shared}
theorem zm_call {p q : Addr} {us vs : Array Value} {R : Value → Shared → Prop} (h1 : s.heap.IsList p us) (h2 : s.heap.IsTuple q vs)
    (k : ∀ t, IsZip t (s.heap.objs.size + 4) (s.heap.objs.size + 2) (s.heap.objs.size + 3) .none → IsPair t (s.heap.objs.size + 2) (.ref s.heap.objs.size) (.ref (s.heap.objs.size + 1)) → IsPair t (s.heap.objs.size + 3) .none .none →
      t.IsListIter s.heap.objs.size p 0 → t.IsTupleIter (s.heap.objs.size + 1) q 0 → t.objs.size = s.heap.objs.size + 5 → (∀ c o, s.heap.get? c = some o → t.get? c = some o) → R (.ref (s.heap.objs.size + 4)) { s with heap := t }) :
    wpAny (model prog w) A (call (.type "zip") [.ref p, .ref q]) R E s := by
  refine callType_new F.called_zip (by decide) (F.typeCall_zip_2 _ _) (F.newCall_zip_2 _ _) (fun obj => F.args_object_init_3 obj _ _) F.entry_zip_new (zm_new p q us vs) ⟨h1, h2, ?_⟩
  have e1 : (zm1 s.heap p).objs.size = s.heap.objs.size + 1 := Heap.size_push ..
  have e2 : (zm2 s.heap p q).objs.size = s.heap.objs.size + 2 := by rw [Heap.size_push, e1]
  have e3 : (zm3 s.heap p q).objs.size = s.heap.objs.size + 3 := by rw [Heap.size_push, e2]
  have e4 : (zm4 s.heap p q).objs.size = s.heap.objs.size + 4 := by rw [Heap.size_push, e3]
  have e5 : (zm5 s.heap p q).objs.size = s.heap.objs.size + 5 := by rw [Heap.size_push, e4]
  have b5 : (zm5 s.heap p q).get? (zm4 s.heap p q).objs.size = some _ := Heap.get?_push_size _ rfl
  have b4 : (zm5 s.heap p q).get? (zm3 s.heap p q).objs.size = some _ := Heap.get?_push_of_some _ (Heap.get?_push_size _ rfl)
  have b3 : (zm5 s.heap p q).get? (zm2 s.heap p q).objs.size = some _ := Heap.get?_push_of_some _ (Heap.get?_push_of_some _ (Heap.get?_push_size _ rfl))
  have b2 : (zm5 s.heap p q).get? (zm1 s.heap p).objs.size = some _ := Heap.get?_push_of_some _ (Heap.get?_push_of_some _ (Heap.get?_push_of_some _ (Heap.get?_push_size _ rfl)))
  have b1 : (zm5 s.heap p q).get? s.heap.objs.size = some _ := Heap.get?_push_of_some _ (Heap.get?_push_of_some _ (Heap.get?_push_of_some _ (Heap.get?_push_of_some _ (Heap.get?_push_size _ rfl))))
  show _ ∧ _
  rw [e2, e3, e4] at b5
  rw [e1, e2] at b3
  rw [e3] at b4
  rw [e1] at b2
  rw [e4]
  refine ⟨⟨_, b5, rfl⟩, k _ b5 b3 b4 ⟨_, b1, rfl, rfl⟩ ⟨_, b2, rfl, rfl⟩ e5 fun c o x => ?_⟩
  exact Heap.get?_push_of_some _ (Heap.get?_push_of_some _ (Heap.get?_push_of_some _ (Heap.get?_push_of_some _ (Heap.get?_push_of_some _ x))))
end
/-- the list at a and the tuple at b at each turn, their items in new pairs -/
def ItzM (K : PySem.W.Frag) (a b : Addr) : It :=
  ⟨fun i H => ∃ (us vs : List V) (u v : V), SqL K H a us ∧ SqT K H b vs ∧ us[i]? = some u ∧ vs[i]? = some v,
    fun i H r H' => ∃ P u v, r = .ref P ∧ H P = none ∧ H' = upd H P (.tup [u, v]) ∧ (∀ us, SqL K H a us → us[i]? = some u) ∧ ∀ vs, SqT K H b vs → vs[i]? = some v,
    fun i H => ∃ us vs : List V, SqL K H a us ∧ SqT K H b vs ∧ (us.length ≤ i ∨ vs.length ≤ i)⟩
theorem turn_zm {P : Program} {w : World} {K : PySem.W.Frag} {elts : List Expr} {kk : Nat} {tpos : Pos} {a b c ti to j1 j2 : Addr} (D : ZipApart c ti to j1 j2 a b) :
    Turn P w K (.Tuple elts kk tpos) (ItzM K a b) [c, ti, to, j1, j2] c (fun i h => IsZip h c ti to .none ∧ IsPair h ti (.ref j1) (.ref j2) ∧ (∃ u v, IsPair h to u v) ∧ h.IsListIter j1 a i ∧ h.IsTupleIter j2 b i) where
  mem := by simp
  obj := fun i h st y hy => by
    obtain ⟨g, gI, ⟨u, v, gO⟩, ⟨o1, e1, _, d1⟩, ⟨o2, e2, _, d2⟩⟩ := st
    have hy' : y = c ∨ y = ti ∨ y = to ∨ y = j1 ∨ y = j2 := by simpa using hy
    rcases hy' with rfl | rfl | rfl | rfl | rfl
    · exact ⟨_, g, fun v z => nomatch z⟩
    · exact ⟨_, gI, fun v z => nomatch z⟩
    · exact ⟨_, gO, fun v z => nomatch z⟩
    · exact ⟨o1, e1, fun v z => by rw [d1] at z; cases z⟩
    · exact ⟨o2, e2, fun v z => by rw [d2] at z; cases z⟩
  keep := fun i h h' st k => by
    obtain ⟨g, gI, ⟨u, v, gO⟩, h1, h2⟩ := st
    exact ⟨k c (by simp) _ g, k ti (by simp) _ gI, ⟨u, v, k to (by simp) _ gO⟩, h1.at fun o z => k j1 (by simp) o z, h2.at fun o z => k j2 (by simp) o z⟩
  item := by
    intro X hP hw hK hc i pins s σ H E I hf st hg
    subst hP hw hK
    obtain ⟨g, gI, ⟨x0, y0, gO⟩, h1, h2⟩ := st
    obtain ⟨us, vs, u, v, qa, qb, hu, hv⟩ := hg
    obtain ⟨is1, r1, p1, _⟩ := I.list qa
    obtain ⟨is2, r2, p2, _⟩ := I.tuple qb
    obtain ⟨m1, em1, rm1⟩ := r1.get hu
    obtain ⟨m2, em2, rm2⟩ := r2.get hv
    have clt : c < s.heap.objs.size := Heap.lt_size g
    refine zm_next D g gI gO h1 h2 p1.isList p2 (u := m1) (v := m2) (by simpa using em1) (by simpa using em2) fun t z' to' h1' h2' hT hsz hk => ?_
    refine ⟨_, rfl, wpAny_letOwnedTupleGo_zip (s := { s with heap := t }) z' fun t2 z2 sb => ?_⟩
    have hT2 : t2.get? s.heap.objs.size = some { cls := .type "tuple", data := .seq #[m1, m2] } := (sb.2 _ (Nat.ne_of_gt clt)).trans hT
    have new : ObjOk X.prog X.w (upd H s.heap.objs.size (.tup [u, v])) t2 s.heap.objs.size (.tup [u, v]) := ⟨by show 2 ≤ sizeLine; decide, [m1, m2], .cons rm1 (.cons rm2 .nil), ⟨_, hT2, rfl, _, rfl⟩⟩
    have I1 : Inv X pins σ (upd H s.heap.objs.size (.tup [u, v])) { s with heap := t2 } :=
      I.turnedNew (t' := s.toks) (ch := [c, ti, to, j1, j2]) (fun y o hb z => (sb.2 y (fun w => hb (by simp [w]))).trans (hk y o (fun w => hb (by simp [w])) (fun w => hb (by simp [w])) (fun w => hb (by simp [w])) (fun w => hb (by simp [w])) z)) hf (Nat.le_refl _) new
    refine ⟨.ref s.heap.objs.size, _, I1, rfl, ⟨_, u, v, rfl, I.hok.fresh (Nat.le_refl _), rfl, fun l hl => by rw [I.list_inj hl qa]; exact hu, fun l hl => by rw [I.tuple_inj hl qb]; exact hv⟩, ⟨z2, (sb.2 _ D.TIz).trans (hk _ _ D.TIz D.TITO D.TIi1 D.TIi2 gI), ⟨m1, m2, (sb.2 _ D.TOz).trans to'⟩, h1'.at fun o z => (sb.2 _ D.i1z).trans z, h2'.at fun o z => (sb.2 _ D.i2z).trans z⟩, fun y hy => ?_⟩
    have hlt : y < s.heap.objs.size := by
      have hy' : y = c ∨ y = ti ∨ y = to ∨ y = j1 ∨ y = j2 := by simpa using hy
      rcases hy' with rfl | rfl | rfl | rfl | rfl
      · exact clt
      · exact Heap.lt_size gI
      · exact Heap.lt_size gO
      · obtain ⟨_, e1, _⟩ := h1; exact Heap.lt_size e1
      · obtain ⟨_, e2, _⟩ := h2; exact Heap.lt_size e2
    rw [upd_ne (Nat.ne_of_lt hlt)]
    exact (hf y hy).1
  done := by
    intro X hP hw hK hc i pins s σ H E I hf st hg
    subst hP hw hK
    obtain ⟨g, gI, ⟨x0, y0, gO⟩, h1, h2⟩ := st
    obtain ⟨us, vs, qa, qb, he⟩ := hg
    obtain ⟨is1, r1, p1, _⟩ := I.list qa
    obtain ⟨is2, r2, p2, _⟩ := I.tuple qb
    have l1 := r1.length
    have l2 := r2.length
    have he' : is1.toArray[i]? = none ∨ is2.toArray[i]? = none := by
      rcases he with z | z
      · exact .inl (by simp; omega)
      · exact .inr (by simp; omega)
    exact zm_stop (I.ok.hd hc) D g gI gO h1 h2 p1.isList p2 he' fun t hk => ⟨rfl, I.turnedL (t' := s.toks) (ch := [c, ti, to, j1, j2]) (fun y o hb z => hk y o (fun w => hb (by simp [w])) (fun w => hb (by simp [w])) (fun w => hb (by simp [w])) (fun w => hb (by simp [w])) z) hf⟩
  self := fun A i s Q E st h => wpAny_pyIter_zip st.1 h
section
variable {K : PySem.W.Frag} {a b : Addr} {xs ys : List V}
theorem walk_zm {n : Nat} (hn : n = min xs.length ys.length) : Walk (ItzM K a b) n (fun H => SqL K H a xs ∧ SqT K H b ys) (YPair (fun i => xs[i]?) (fun i => ys[i]?)) := by
  subst hn
  refine ⟨fun i _ hi q => ?_, fun _ q => ⟨xs, ys, q.1, q.2, by omega⟩, fun i H v H' _ ⟨q1, q2⟩ ⟨T, u, z, e1, e2, e3, e4, e5⟩ => ⟨T, u, z, e1, e2, e3, e4 xs q1, e5 ys q2⟩⟩
  have l1 : i < xs.length := by omega
  have l2 : i < ys.length := by omega
  exact ⟨xs, ys, xs[i], ys[i], q.1, q.2, List.getElem?_eq_getElem l1, List.getElem?_eq_getElem l2⟩
end
/-- zip of a list and a list or a tuple -/
def iZipS (K : PySem.W.Frag) (ta : TA) : TI := fun σ H R => ta σ H fun vs H1 => ∃ a b xs ys, vs = [.ref a, .ref b] ∧ SqL K H1 a xs ∧ (SqL K H1 b ys ∨ SqT K H1 b ys) ∧ ∀ (J : It) (G : Hp → Prop), Walk J (min xs.length ys.length) G (YPair (fun i => xs[i]?) (fun i => ys[i]?)) → (∀ H', SqL K H' a xs → (SqL K H1 b ys → SqL K H' b ys) → (SqT K H1 b ys → SqT K H' b ys) → G H') → R J H1
theorem pi_zipS {X : Cx} {e1 e2 : Expr} {ta : TA} {p pos tpos : Pos} {elts : List Expr} {kk : Nat} (hg : Gl X "zip") (hm : X.mg "zip" = none) (ha : PA X [e1, e2] ta)
    (hs : starEach [e1, e2] X.env = (false, eval e1 X.env) :: starEach [e2] X.env := by rfl) (hpl : (backTo pos (starEach [e2] X.env)).any (·.1) = false := by rfl) : PI X (.Tuple elts kk tpos) (.Call (.Name "zip" p) [e1, e2] [] pos) (iZipS X.K ta) := by
  refine ⟨fun pn st σ H R I h => ?_⟩
  refine Call_ (ld_blt I hg hm PyProof.Rows.boot_zip (PyProof.Rows.callWith_type1 (thn (ha.run pos pn st σ H _ I h) fun us s1 ⟨vs, H1, I1, r1, a, b, xs, ys, ex, qa, qb, q⟩ => ?_) hs hpl))
  subst ex
  obtain ⟨u1, u2, rfl, ra, rb⟩ := r1.two
  cases (show u1 = Value.ref a from ra)
  cases (show u2 = Value.ref b from rb)
  have fr : ∀ c, c ∈ [s1.heap.objs.size + 4, s1.heap.objs.size + 2, s1.heap.objs.size + 3, s1.heap.objs.size, s1.heap.objs.size + 1] → FpOk X pn H1 c := fun c hc => by
    have hc' : c = s1.heap.objs.size + 4 ∨ c = s1.heap.objs.size + 2 ∨ c = s1.heap.objs.size + 3 ∨ c = s1.heap.objs.size ∨ c = s1.heap.objs.size + 1 := by simpa using hc
    have hle : s1.heap.objs.size ≤ c := by omega
    exact I1.fpOk hle (I1.hok.fresh hle)
  obtain ⟨is1, w1, p1, _⟩ := I1.list qa
  rcases qb with qb | qb
  · obtain ⟨is2, w2, p2, _⟩ := I1.list qb
    refine call_zip_2 p1.isList p2.isList fun t hz hI hO k1 k2 hsz hk => wpAny_pyIter_zip hz ?_
    exact ⟨s1.heap.objs.size + 4, [s1.heap.objs.size + 4, s1.heap.objs.size + 2, s1.heap.objs.size + 3, s1.heap.objs.size, s1.heap.objs.size + 1], _, _, H1, rfl, I1.kept (t' := s1.toks) hk, turn_zip (PySem.W.ktu_apart s1.heap.objs.size a b p1.lt p2.lt), ⟨hz, hI, ⟨_, _, hO⟩, k1, k2⟩, fr, q _ _ (walk_zip rfl) fun H' z1 z2 _ => ⟨z1, z2 qb⟩⟩
  · obtain ⟨is2, w2, p2, _⟩ := I1.tuple qb
    obtain ⟨o2, ho2, _⟩ := id p2
    refine zm_call p1.isList p2 fun t hz hI hO k1 k2 hsz hk => wpAny_pyIter_zip hz ?_
    exact ⟨s1.heap.objs.size + 4, [s1.heap.objs.size + 4, s1.heap.objs.size + 2, s1.heap.objs.size + 3, s1.heap.objs.size, s1.heap.objs.size + 1], _, _, H1, rfl, I1.kept (t' := s1.toks) hk, turn_zm (PySem.W.ktu_apart s1.heap.objs.size a b p1.lt (Heap.lt_size ho2)), ⟨hz, hI, ⟨_, _, hO⟩, k1, k2⟩, fr, q _ _ (walk_zm rfl) fun H' z1 _ z2 => ⟨z1, z2 qb⟩⟩
end SB

/-! defs with a star parameter and one keyword-only parameter; own methods called with keywords or without arguments. -/
namespace SB
open PySem PySem.Spec PyProof.Rows L2 StX
/-- a call with the keywords ks -/
def FnK (P : Program) (w : World) (K : PySem.W.Frag) (mg : Str → Option Value) (base : Heap) (CX : CXT) (k : Nat) (f : Addr) (ks : List Str) (sp : List V → Sp) : Prop :=
  ∀ (A : Around) (outer : List Env) (s : Shared) (H : Hp) (us ws : List Value) (vs zs : List V) (Q : VK) (E : XK), Room k A → Env0 P w K mg base A outer s H → Vals vs us → Vals zs ws → zs.length = ks.length → sp zs vs H Q E →
    codeAny (model P w) A (.call (.ref f) ⟨us, ks.zip ws⟩) (CR CX outer P w H s Q E) s
structure MeK (P : Program) (w : World) (K : PySem.W.Frag) (mg : Str → Option Value) (base : Heap) (CX : CXT) (k : Nat) (C : Addr) (m : Str) (ks : List Str) (sp : List V → Sp) : Prop where
  ex : ∃ g : Addr, FnK P w K mg base CX k g ks sp ∧ PySem.W.findIn K (.ref C) m = some (some (.ref g)) ∧ PySem.W.isFn K (.ref g) = true ∧ PySem.W.keepIn K (.ref g) = true
def tMethK (C : Addr) (m : Str) (ks : List Str) (sp : List V → Sp) (E : XK) (ta : TE) (t tk : TA) : TE := fun σ H Q => ta σ H fun x H1 => ∃ a dx fs, x = .ref a ∧ H1 a = some (.ins C dx fs) ∧ fs.lookup m = none ∧ t σ H1 fun vs H2 => tk σ H2 fun zs H3 => zs.length = ks.length ∧ sp zs (x :: vs) H3 Q E
section
variable {X : Cx} {CX : CXT} {k j : Nat} {C : Addr} {m : Str} {ks : List Str} {sp : List V → Sp} {sp0 : Sp} {E : XK} {o e : Expr} {es : List Expr} {kws : List Keyword} {ta : TE} {t tk : TA} {apos pos : Pos} {pl : Sem Bool}
theorem run_fnK {pins : List (Addr × Obj)} {σ : L2.St} {H : Hp} {s : Shared} {Q : VK} {f : Addr} {us ws : List Value} {vs zs : List V} (F : FnK X.prog X.w X.K X.mg X.base CX k f ks sp) (hr : Room k X.A) (hx : Passes CX X E) (I : Inv X pins σ H s) (r : Vals vs us) (rz : Vals zs ws) (hl : zs.length = ks.length) (h : sp zs vs H Q E) :
    wpAny (model X.prog X.w) X.A (call (.ref f) us (ks.zip ws)) (EP X pins σ Q) X.xe s := by
  refine wpAny_call (codeAny_mono (F X.A X.stack s H us ws vs zs Q E hr I.env0 r rz hl h) fun r s' hq => ?_)
  cases r with
  | error e => exact hx pins σ H s e s' I hq
  | ok fl =>
    cases fl with
    | ret u => exact I.after hq
    | _ => exact hq.elim
/-- o.m(e, .., k = v, ..) -/
theorem pe_moK (he : PE X o ta) (cl : Cls X.K C) (c : MeK X.prog X.w X.K X.mg X.base CX k C m ks sp) (hr : Room j X.A) (hk : k ≤ j) (hx : Passes CX X E) (ha : PA X (e :: es) t) (hkw : PK X kws tk) (hall : (backToKw pos (keywordEach kws X.env)).all (·.1.isSome) = true := by rfl) (hks : (backToKw pos (keywordEach kws X.env)).filterMap (·.1) = ks := by rfl)
    (hst : starEach (e :: es) X.env = (false, eval e X.env) :: starEach es X.env := by rfl) (hpl : ((backTo pos (starEach (e :: es) X.env)).any (·.1) || (backToKw pos (keywordEach kws X.env)).any (·.1.isNone)) = false := by rfl)
    (ht : eval (.Call (.Attribute o m apos) (e :: es) kws pos) X.env = (do
      let ov ← eval o X.env
      standAt apos.atName
      let (f, first) ← holding [ov] (getMethod ov m pl)
      callWith pos f first (backTo pos (starEach (e :: es) X.env)) (backToKw pos (keywordEach kws X.env))) := by rfl) :
    PE X (.Call (.Attribute o m apos) (e :: es) kws pos) (tMethK C m ks sp E ta t tk) := by
  obtain ⟨g, F, h1, h2, h3⟩ := c.ex
  refine ⟨fun pins s σ H Q I h => ?_⟩
  refine PySem.W.methodCall_KW (pl := pl) (thn (he.run pins s σ H _ I h) fun u s1 ⟨x, H1, I1, rx, a, dx, fs, ex, ea, l, q⟩ => ?_) ht
  subst ex
  obtain rfl : u = Value.ref a := rx
  refine getmeth_ok I1 ea cl ⟨h1, h2, h3⟩ l ?_
  refine PySem.W.callWith_KW (first := [.ref a]) (h₀ := X.base) I.ok.mod.kin h3 hall (thn (ha.run pos pins s1 σ H1 _ I1 q) fun us s2 ⟨vs, H2, I2, rv, q2⟩ => ?_) hpl hst
  refine thn (hkw.run pos pins s2 σ H2 _ I2 q2) fun ws s3 ⟨zs, H3, I3, rz, l2, q3⟩ => ⟨I3.kIn, ?_⟩
  rw [hks]
  exact run_fnK (us := .ref a :: us) (vs := .ref a :: vs) F (hr.mono hk) hx I3 (.cons rfl rv) rz l2 q3
/-- o.m(k = v, ..) -/
theorem pe_moK0 (he : PE X o ta) (cl : Cls X.K C) (c : MeK X.prog X.w X.K X.mg X.base CX k C m ks sp) (hr : Room j X.A) (hk : k ≤ j) (hx : Passes CX X E) (hkw : PK X kws tk) (hall : (backToKw pos (keywordEach kws X.env)).all (·.1.isSome) = true := by rfl) (hks : (backToKw pos (keywordEach kws X.env)).filterMap (·.1) = ks := by rfl)
    (hpl : ((backTo pos (starEach [] X.env)).any (·.1) || (backToKw pos (keywordEach kws X.env)).any (·.1.isNone)) = false := by rfl)
    (ht : eval (.Call (.Attribute o m apos) [] kws pos) X.env = (do
      let ov ← eval o X.env
      standAt apos.atName
      let (f, first) ← holding [ov] (getMethod ov m pl)
      callWith pos f first (backTo pos (starEach [] X.env)) (backToKw pos (keywordEach kws X.env))) := by rfl) :
    PE X (.Call (.Attribute o m apos) [] kws pos) (tMethK C m ks sp E ta tNil tk) := by
  obtain ⟨g, F, h1, h2, h3⟩ := c.ex
  refine ⟨fun pins s σ H Q I h => ?_⟩
  refine PySem.W.methodCall_KW (pl := pl) (thn (he.run pins s σ H _ I h) fun u s1 ⟨x, H1, I1, rx, a, dx, fs, ex, ea, l, q⟩ => ?_) ht
  subst ex
  obtain rfl : u = Value.ref a := rx
  refine getmeth_ok I1 ea cl ⟨h1, h2, h3⟩ l ?_
  refine PySem.W.callWith_KW0 (first := [.ref a]) (h₀ := X.base) I.ok.mod.kin h3 hall ?_ hpl
  refine thn (hkw.run pos pins s1 σ H1 _ I1 q) fun ws s3 ⟨zs, H3, I3, rz, l2, q3⟩ => ⟨I3.kIn, ?_⟩
  rw [hks, List.append_nil]
  exact run_fnK (us := [.ref a]) (vs := [.ref a]) F (hr.mono hk) hx I3 (.cons rfl .nil) rz l2 q3
/-- o.m() -/
theorem pe_mo0 (he : PE X o ta) (cl : Cls X.K C) (c : Me X.prog X.w X.K X.mg X.base CX k C m sp0) (hr : Room j X.A) (hk : k ≤ j) (hx : Passes CX X E)
    (ht : eval (.Call (.Attribute o m apos) [] [] pos) X.env = (do
      let ov ← eval o X.env
      standAt apos.atName
      let (f, first) ← holding [ov] (getMethod ov m pl)
      callWith pos f first (backTo pos (starEach [] X.env)) (backToKw pos (keywordEach [] X.env))) := by rfl) :
    PE X (.Call (.Attribute o m apos) [] [] pos) (tMethR C m sp0 E ta tNil) := by
  obtain ⟨g, F, h1, h2, h3⟩ := c.ex
  refine ⟨fun pins s σ H Q I h => ?_⟩
  refine PySem.W.methodCall_KW (pl := pl) (thn (he.run pins s σ H _ I h) fun u s1 ⟨x, H1, I1, rx, a, dx, fs, ex, ea, l, q⟩ => ?_) ht
  subst ex
  obtain rfl : u = Value.ref a := rx
  refine getmeth_ok I1 ea cl ⟨h1, h2, h3⟩ l ?_
  exact PySem.W.callWith_K0 (first := [.ref a]) I1.kIn h3 (wpAny_call (run_fnR (us := [.ref a]) (vs := [.ref a]) F (hr.mono hk) hx I1 (.cons rfl .nil) q))
end
section
variable {CX : CXT} {P : Program} {w : World} {K : PySem.W.Frag} {mg : Str → Option Value} {base : Heap} {k : Nat} {f : Addr} {name qual : Str} {params : Arguments} {body : List Stmt} {scope : Scope} {dV kV doc pm cdv ct oc : Value} {an od : Option Addr}
  {osl : Array (Option Value)} {N ps : List Str} {sp : Sp} {pv kn : Str}
/-- what a def with *v and one keyword-only parameter binds -/
theorem bnd_starK {A : Around} {outer : List Env} {s : Shared} {H : Hp} {E : XK} {args : Args} {u1 u2 : List Value} {ws rest : List V} {z : V} {uz : Value} (hCX : CXUp CX) (e0 : Env0 P w K mg base A outer s H) (r1 : Vals ws u1) (r2 : Vals rest u2) (rz : RelV z uz) (hl : ws.length = ps.length) (hz : rest.length ≤ sizeLine)
    {fd : FuncData} (hb : ∀ (A' : Around) (Ex : Value → Shared → Prop) (Q : List (Str × Value) → Shared → Prop), wpAny (model P w) A' (newTuple u2 >>= fun t => pure (ps.zip u1 ++ [(kn, uz), (pv, t)])) Q Ex s → wpAny (model P w) A' (bindArgs fd args) Q Ex s) :
    Bnd CX P w K mg base fd args (ps ++ [kn, pv]) A outer s H E (fun xs H2 => ∃ p, H p = Option.none ∧ xs = ws ++ [z, V.ref p] ∧ H2 = upd H p (.tup rest)) := by
  intro A' Ex Q' h
  have hn : H s.heap.objs.size = Option.none := e0.hok.fresh (Nat.le_refl _)
  have hl1 : u1.length = ps.length := by rw [← r1.length]; exact hl
  have hl2 : u2.length ≤ sizeLine := by rw [← r2.length]; exact hz
  refine hb A' Ex Q' (wpAny_bind (wpAny_newTuple (wpAny_pure ?_) hl2))
  have new : ObjOk P w (upd H s.heap.objs.size (.tup rest)) (s.heap.push ({ cls := .type "tuple", data := .seq u2.toArray } : Obj)) s.heap.objs.size (.tup rest) := ⟨hz, u2, r2, ⟨_, Heap.get?_push_size _ rfl, rfl, _, rfl⟩⟩
  have un := un_laid (fs := frs outer) (s := s) (o := ({ cls := .type "tuple", data := .seq u2.toArray } : Obj)) (u := .tup rest) hn
  have z := h _ _ (ws ++ [z, V.ref s.heap.objs.size]) (u1 ++ [uz, Value.ref s.heap.objs.size]) (env0_laid e0 new) un rfl (fun e s' => hCX outer s H _ _ E e s' un (fun b o q => Heap.get?_push_of_some _ q) rfl) (r1.append (.cons rz (.cons rfl .nil)))
    (by rw [List.length_append, List.length_append, hl] <;> rfl) ⟨_, hn, rfl, rfl⟩
  rw [List.zip_append hl1.symm] at z
  exact z
/-- def f(a, .., *v, k = ..), called with k -/
theorem fn_starK (lk : K.lookup f = some ⟨oc, od, .func (PySem.W.fnOf name qual params body scope dV kV doc pm an cdv ct), osl⟩) (hcd : PySem.W.codeIn K cdv qual = true) (S : FnScope N (ps ++ [kn, pv]) scope) (hCX : CXUp CX)
    (hb : ∀ (us rest : List Value) (v : Value), us.length = ps.length → bindArgs (PySem.W.fnOf name qual params body scope dV kV doc pm an cdv ct) ⟨us ++ rest, [(kn, v)]⟩ = (newTuple rest >>= fun t => pure (ps.zip us ++ [(kn, v), (pv, t)])))
    (hbody : ∀ (A : Around) (outer : List Env) (s : Shared) (H : Hp) (vs : List V) (Q : VK) (E : XK), Room k (A.deeper (envOfC qual scope s.heap.objs.size f cdv)) → sp vs H Q E →
      ∃ t, PSs (cxOf CX P w K mg base N qual scope f cdv A outer s H E) body t ∧ t { nx := fun _ H' => Q .non H', rt := Q } (start N vs) H) :
    FnK P w K mg base CX (k + 1) f [kn] (fun zs vs H Q E => ∃ ws rest z, zs = [z] ∧ vs = ws ++ rest ∧ ws.length = ps.length ∧ rest.length ≤ sizeLine ∧ ∀ p, H p = Option.none → sp (ws ++ [z, V.ref p]) (upd H p (.tup rest)) Q E) := by
  intro A outer s H us wz vs zs Q E hr e0 r rz _ hsp
  obtain ⟨ws, rest, z, ez, ev, hl, hz, hq⟩ := hsp
  subst ez ev
  obtain ⟨u1, u2, eu, r1, r2⟩ := vals_split r
  subst eu
  cases rz with
  | cons rz rt =>
    cases rt
    rename_i uz
    refine run_bnd lk hcd S hr e0 (bnd_starK hCX e0 r1 r2 rz hl hz fun A' Ex Q' h => ?_) fun s2 H2 xs ⟨p, hp, ex, eH⟩ hr' => ?_
    · show wpAny _ _ (bindArgs _ ⟨u1 ++ u2, [(kn, uz)]⟩) _ _ _
      rw [hb u1 u2 uz (by rw [← r1.length]; exact hl)]
      exact h
    · subst ex eH
      exact hbody A outer s2 _ _ Q E hr' (hq p hp)
/-- called without k: its default -/
theorem fn_starD {D : Addr} {ud : Value} {dv : V} (lk : K.lookup f = some ⟨oc, od, .func (PySem.W.fnOf name qual params body scope dV kV doc pm an cdv ct), osl⟩) (hcd : PySem.W.codeIn K cdv qual = true) (S : FnScope N (ps ++ [kn, pv]) scope) (hCX : CXUp CX) (hD : PySem.W.nsIn K D kn = some (some ud)) (rd : RelV dv ud)
    (hb : ∀ (us rest : List Value), us.length = ps.length → ∃ (β γ : Type) (k1 : Option Value → Sem β) (k2 : β → Sem γ) (k3 : γ → Sem (List (Str × Value))) (a : β), bindArgs (PySem.W.fnOf name qual params body scope dV kV doc pm an cdv ct) ⟨us ++ rest, []⟩ = ((nsGet D kn >>= k1) >>= k2) >>= k3 ∧ k1 (some ud) = pure a ∧ (k2 a >>= k3) = (newTuple rest >>= fun t => pure (ps.zip us ++ [(kn, ud), (pv, t)])))
    (hbody : ∀ (A : Around) (outer : List Env) (s : Shared) (H : Hp) (vs : List V) (Q : VK) (E : XK), Room k (A.deeper (envOfC qual scope s.heap.objs.size f cdv)) → sp vs H Q E →
      ∃ t, PSs (cxOf CX P w K mg base N qual scope f cdv A outer s H E) body t ∧ t { nx := fun _ H' => Q .non H', rt := Q } (start N vs) H) :
    FnR P w K mg base CX (k + 1) f (fun vs H Q E => ∃ ws rest, vs = ws ++ rest ∧ ws.length = ps.length ∧ rest.length ≤ sizeLine ∧ ∀ p, H p = Option.none → sp (ws ++ [dv, V.ref p]) (upd H p (.tup rest)) Q E) := by
  intro A outer s H us vs Q E hr e0 r hsp
  obtain ⟨ws, rest, ev, hl, hz, hq⟩ := hsp
  subst ev
  obtain ⟨u1, u2, eu, r1, r2⟩ := vals_split r
  subst eu
  have KX : K.In s.heap := e0.mod.kin.keeps fun b o e => (e0.bs b o e).1
  refine run_bnd lk hcd S hr e0 (bnd_starK hCX e0 r1 r2 rd hl hz fun A' Ex Q' h => ?_) fun s2 H2 xs ⟨p, hp, ex, eH⟩ hr' => ?_
  · obtain ⟨β, γ, k1, k2, k3, a, e1, e2, e3⟩ := hb u1 u2 (by rw [← r1.length]; exact hl)
    rw [e1, bind_assoc]
    refine wpAny_bind (wpAny_bind ((PySem.W.looks_nsIn KX hD).here ?_))
    rw [e2]
    refine wpAny_pure ?_
    rw [e3]
    exact h
  · subst ex eH
    exact hbody A outer s2 _ _ Q E hr' (hq p hp)
end
end SB

/-! with own(..): suite, where the suite lets an exception out: __exit__ is called and returns None, on it goes. -/
namespace SB
open PySem PySem.Spec PyProof.Rows L2
/-- a def that never raises, called while an exception is handled; p is any record that is not tracked -/
def FnQ (P : Program) (w : World) (K : PySem.W.Frag) (mg : Str → Option Value) (base : Heap) (k : Nat) (f : Addr) (sp : Sp) : Prop :=
  ∀ (A : Around) (outer : List Env) (s : Shared) (H : Hp) (us : List Value) (vs : List V) (Q : VK) (p : Addr × Obj), L2H.RoomH k A → L2H.PinOk outer H s p → Env0 P w K mg base A outer s H → Vals vs us → sp vs H Q (fun _ _ _ => False) →
    codeAny (model P w) A (.call (.ref f) ⟨us, []⟩) (CR CX0 outer P w H s Q (fun _ _ _ => False)) s
theorem fn_q {P : Program} {w : World} {K : PySem.W.Frag} {mg : Str → Option Value} {base : Heap} {k : Nat} {f : Addr} {name qual : Str} {params : Arguments} {body : List Stmt} {scope : Scope} {dV kV doc pm cdv ct oc : Value} {an od : Option Addr} {osl : Array (Option Value)} {N ps : List Str} {sp : Sp}
    (lk : K.lookup f = some ⟨oc, od, .func (PySem.W.fnOf name qual params body scope dV kV doc pm an cdv ct), osl⟩) (hcd : PySem.W.codeIn K cdv qual = true) (S : FnScope N ps scope)
    (hb : ∀ us : List Value, us.length = ps.length → bindArgs (PySem.W.fnOf name qual params body scope dV kV doc pm an cdv ct) ⟨us, []⟩ = pure (ps.zip us)) (len : ∀ vs H Q E, sp vs H Q E → vs.length = ps.length)
    (walk : ∀ (A : Around) (outer : List Env) (s : Shared) (H : Hp) (vs : List V) (Q : VK) (p : Addr × Obj), L2H.RoomH k (A.deeper (envOfC qual scope s.heap.objs.size f cdv)) → sp vs H Q (fun _ _ _ => False) →
      ∃ t, PSs (L2H.cxH CX0 P w K mg base N qual scope f cdv A outer s H (fun _ _ _ => False) p) body t ∧ t { nx := fun _ H' => Q .non H', rt := Q } (L2.start N vs) H) :
    FnQ P w K mg base (k + 1) f sp := by
  intro A outer s H us vs Q p room pin env rel wish
  have lv := len _ _ _ _ wish
  have inK : K.In s.heap := env.mod.kin.keeps fun b o z => (env.bs b o z).1
  have lu : us.length = ps.length := by rw [← rel.length]; exact lv
  have places : ∀ y ∈ ps.zip us, scope.names.lookup y.1 = some .local ∨ (scope.names.lookup y.1 = some .cell ∧ ((cellsFrom (s.heap.objs.size + 1) scope.names []).lookup y.1).isSome = true) := fun y hy =>
    (S.par y.1 (List.of_mem_zip hy).1).imp id fun z => ⟨z, PySem.W.cellsFrom_some _ _ _ (.inl z)⟩
  refine codeAny_call_function room.depth (inK _ _ lk) rfl S.co S.gen rfl (PySem.W.codeRec_of inK hcd) ?_
  rw [hb us lu]
  refine wpAny_pure (wpAny_newFunctionEnv_cells S.kind places fun ev hev s1 x => ?_)
  subst hev
  refine ⟨(env.mod.nolimit.keeps fun b o z => (env.bs b o z).1 : s.heap.NoLimit).keeps x.toInCall.keep, codeAny_func ?_⟩
  obtain ⟨t, run, ask⟩ := walk A outer s H vs Q p (room.deeper _) wish
  refine wpAny_mono (run.run [] s1 (L2.start N vs) H _ (L2H.inv_startH S pin env lv rel x) ask) (fun fl s' got => ?_) fun _ _ z => z
  cases fl with
  | ret u =>
    obtain ⟨v, σ', H', J, rv, q⟩ := got
    exact ⟨v, H', J.os, J.bare, J.base, J.hok, rv, q⟩
  | next =>
    obtain ⟨σ', H', J, q⟩ := got
    exact ⟨V.non, H', J.os, J.bare, J.base, J.hok, rfl, q⟩
  | brk =>
    obtain ⟨_, _, _, q⟩ := got
    exact q.elim
  | cont =>
    obtain ⟨_, _, _, q⟩ := got
    exact q.elim
/-- what is wished of an exception of the suite: __exit__ of x, then Wout -/
def wExit (spX : Sp) (x : Addr) (Wout : WX) : WX := fun cls d σ H => ∃ cv : V, L2.RelV cv cls ∧ ∀ va vt : V, spX [.ref x, cv, va, vt] H (fun r H2 => r = .non ∧ Wout cls d σ H2) (fun _ _ _ => False)
def tWithX (C : Addr) (spE spX : Sp) (tc : TE) (tb : WX → TS) (Wout : WX) : TS := fun D σ H => tc σ H fun v H1 => ∃ x dx fs, v = .ref x ∧ H1 x = some (.ins C dx fs) ∧
  spE [.ref x] H1 (fun _ H2 => tb (wExit spX x Wout) { nx := fun σ2 H3 => spX [.ref x, .non, .non, .non] H3 (fun _ H4 => D.nx σ2 H4) (fun _ _ _ => False), rt := fun _ _ => False } σ H2) (fun _ _ _ => False)
section
variable {X : Cx} {k : Nat} {C fE fX : Addr} {spE spX : Sp} {ctx : Expr} {tc : TE} {body : List Stmt} {tb : WX → TS} {Wout : WX} {pos : Pos}
theorem ps_withX (hs : X.stack = X.env :: X.outer) (hf : X.env.frame = some X.env.locals) (hex : X.ex = []) (tk : Takes X Wout)
    (e1 : PySem.W.findIn X.K (.ref C) "__enter__" = some (some (.ref fE))) (e2 : PySem.W.isFn X.K (.ref fE) = true) (x1 : PySem.W.findIn X.K (.ref C) "__exit__" = some (some (.ref fX))) (x2 : PySem.W.isFn X.K (.ref fX) = true)
    (FE : FnR X.prog X.w X.K X.mg X.base CX0 k fE spE) (FX : FnR X.prog X.w X.K X.mg X.base CX0 k fX spX) (FQ : FnQ X.prog X.w X.K X.mg X.base k fX spX) (hr : Room k X.A) (hc : PE X ctx tc)
    (hb : ∀ (W : WX) (pn : List (Addr × Obj)) (xe : Value → Shared → Prop), Takes (X.tr pn xe) W → PassesOwn (model X.prog X.w) X.A X.env xe → PSs (X.tr pn xe) body (tb W)) :
    PS X (.With [⟨ctx, none⟩] body pos) (tWithX C spE spX tc tb Wout) := by
  refine ⟨fun pins s σ H D I h => ?_⟩
  rw [arm_exec_With]
  refine wpAny_bind (wpAny_standAt ?_)
  rw [arm_withItems_cons, arm_withItems_nil]
  unfold withItem
  refine wpAny_bind (thn (hc.run pins s σ H _ I h) fun u s1 ⟨v, H1, I1, rv, x, dx, fs, ev, ex, q⟩ => ?_)
  subst ev
  obtain rfl : u = Value.ref x := rv
  obtain ⟨mA, O, _⟩ := ins_get I1.hok ex
  obtain ⟨od, J, _⟩ := O.look
  obtain ⟨cd, hcd, aE⟩ := PySem.W.kw_along e1
  obtain ⟨cd', hcd', aX⟩ := PySem.W.kw_along x1
  cases hcd.symm.trans hcd'
  have frX : X.A.frames = some (X.env :: X.outer) := by rw [I.ok.frames, hs]
  obtain ⟨h1, g1, d1, t1, o1⟩ := s1
  have KI : X.K.In h1 := I1.kIn
  have La : PySem.W.Looks (model X.prog X.w) h1 (specialOnItsLine (.ref x) "__enter__") (some (.ref fE), cd.mro) := PySem.W.kw_special KI J hcd aE
  have Lb : PySem.W.Looks (model X.prog X.w) h1 (specialOnItsLine (.ref x) "__exit__") (some (.ref fX), cd.mro) := PySem.W.kw_special KI J hcd aX
  have Lc : PySem.W.Looks (model X.prog X.w) h1 (bindSpecial (.ref fE) (.ref x)) (.ref fE, [.ref x]) := PySem.W.bind_fn KI _ (beq_iff_eq.mp e2)
  have Ld : PySem.W.Looks (model X.prog X.w) h1 (bindSpecial (.ref fX) (.ref x)) (.ref fX, [.ref x]) := PySem.W.bind_fn KI _ (beq_iff_eq.mp x2)
  have Le : PySem.W.Looks (model X.prog X.w) h1 (aMethodOfAnotherBuiltinTypeStops (.ref fE) cd.mro) () := PySem.W.Looks.of_pure rfl
  have Lf : PySem.W.Looks (model X.prog X.w) h1 (aMethodOfAnotherBuiltinTypeStops (.ref fX) cd.mro) () := PySem.W.Looks.of_pure rfl
  refine wpAny_bind (wpAny_standAt ?_)
  simp only [Bool.false_eq_true, if_false]
  kw_lk
  refine wpAny_mono (wpAny_call (run_fnR (us := [.ref x]) (vs := [.ref x]) FE hr pass0 I1 (.cons rfl .nil) q)) (fun v2 s2 z2 => ?_) fun _ _ z => z
  obtain ⟨v', H2, I2, _, q2⟩ := z2
  kw_lk
  refine wpAny_attempt (PySem.W.kw_held ?_)
  show wpAny _ _ (execs body X.env) _ _ _
  refine wpAny_mono ((hb (wExit spX x Wout) (X.pn ++ pins) (fun e s₁ => wpAny (model X.prog X.w) X.A (noteFrame e X.env) (fun _ s₂ => (_ : Value → Shared → Prop) e s₂) X.xe s₁) (fun u s' xx => ?_) PassesOwn.looking).run [] s2 σ H2 _ (I2.toTry _) q2) (fun f s4 h4 => ?_) (fun e s4 he => wpAny_bind he)
  · obtain ⟨a, B, sI, pins', σ', H', cls, d, rfl, JT, nb, up, sky, na, os, ag, cv, rcv, wish⟩ := xx
    have JA : Inv X pins σ' H' sI := JT.ofTry I.ok
    have sk : Sky B (X.env :: X.outer) a (Zc cls d) X.env.locals s'.heap := by rw [← hs]; exact sky
    refine wpAny_mono (Q := fun _ s2 => wpAny (model X.prog X.w) X.A (setFlight (.ref a) none) (fun _ s3 => (_ : Shared → Prop) s3) X.xe s2) ?_ (fun _ s2 z => wpAny_bind z) (fun _ _ z => z)
    refine Sky.land Zc.steady frX hf sk fun h3 fl3 up3 => ?_
    have JB : Inv X pins σ' H' { s' with heap := h3 } := JA.landed nb fl3.1 (up.trans up3) os ag
    obtain ⟨k1, k2, k3, oe, vs, T, oT, ts, he3, hz, hd, hv1, hnT, hTe, hT, hdT, ht3⟩ := id fl3
    have frT : H' T = none := (JA.inGround nb).gone hnT
    have noFr : ∀ (y : Addr) (oy : Obj) (fv : Array Value), h3.get? y = some oy → oy.data = .fields fv → y ∉ frs (X.env :: X.outer) := fun y oy fv g gd hm => by
      obtain ⟨_, o', g', nf⟩ := k3.mem hm
      cases g.symm.trans g'
      exact nf _ gd
    have mine : X.env.locals ∈ frs (X.env :: X.outer) := List.mem_filterMap.mpr ⟨X.env, List.mem_cons_self, hf⟩
    have below : ∀ y, y ∈ X.fs → y ∈ frs (X.env :: X.outer) := fun y hm => by
      obtain ⟨ev, hev, hq⟩ := List.mem_filterMap.mp hm
      exact List.mem_filterMap.mpr ⟨ev, List.mem_cons_of_mem _ hev, hq⟩
    have offA := noFr a oe vs he3 hd
    have offT := noFr T oT ts hT hdT
    have JC : Inv X ((T, oT) :: pins) σ' H' { s' with heap := h3 } := JB.pins_of fun p hp => by
      rcases List.mem_cons.mp hp with z | z
      · subst z
        exact ⟨hT, frT, fun z => offT (by rw [show T = X.env.locals from z]; exact mine), fun z => offT (below _ z), fun w z => by
          rw [show oT.data = _ from hdT] at z
          cases z⟩
      · exact JB.pin p (List.mem_append_right _ z)
    have SA := JC.suite he3 hd na (fun z => offA (by rw [z]; exact mine)) (fun z => offA (below _ z))
    refine wpAny_bind (wpAny_standAt (wpAny_holding ?_))
    refine wpAny_bind (wpAny_typeOf_ref he3 ?_)
    rw [hz.1]
    obtain ⟨w1, hw1⟩ : ∃ w1, ts[1]? = some w1 := by
      have := (Array.getElem?_eq_some_iff.mp ht3).1
      exact ⟨ts[1]'(by omega), Array.getElem?_eq_getElem (by omega)⟩
    have trace : ∀ {Qt : Value → Shared → Prop}, (∀ (vt : V) (ut : Value), RelV vt ut → Qt ut { s' with heap := h3 }) → wpAny (model X.prog X.w) X.A (tracebackOf (.ref a)) Qt X.xe { s' with heap := h3 } := fun {Qt} got => by
      unfold tracebackOf
      refine wpAny_bind (wpAny_field he3 hd hv1 ?_)
      dsimp only
      refine wpAny_bind (wpAny_field hT hdT hw1 ?_)
      by_cases cw : (w1 == Value.none) = true
      · rw [if_pos cw]
        exact wpAny_pure (got .non .none rfl)
      · rw [if_neg cw]
        exact wpAny_pure (got (.ref T) (.ref T) rfl)
    refine wpAny_bind (trace fun vt ut rt => ?_)
    have pk : L2H.PinOk X.stack H' { s' with heap := h3 } (a, oe) := ⟨he3, na, by rw [hs]; exact offA, fun w z => by
      rw [show oe.data = _ from hd] at z
      cases z⟩
    refine wpAny_bind ?_
    unfold withItem.marked
    refine wpAny_bind (wpAny_run (codeAny_mono (FQ (X.A.mark (some (.ref a))) X.stack { s' with heap := h3 } H' [.ref x, cls, .ref a, ut] [.ref x, cv, .ref a, vt] _ (a, oe) (L2H.roomH_mark hr _) pk SA.env0 (.cons rfl (.cons rcv (.cons rfl (.cons rt .nil)))) (wish (.ref a) vt)) fun r s6 hq => ?_) (by intro z; cases z))
    cases r with
    | error e => exact hq.elim
    | ok fl =>
      cases fl with
      | ret ur =>
        obtain ⟨vr, H6, S6, rr, er, wout⟩ := SA.after hq
        subst er
        obtain rfl : ur = Value.none := rr
        refine wpAny_pure (wpAny_bind (wpAny_pure (wpAny_bind (wpAny_pure ?_))))
        rw [if_neg Bool.false_ne_true]
        have JD : Inv X ((T, oT) :: pins) σ' H6 s6 := S6.unsuite I.ok
        have J6 : Inv X pins σ' H6 s6 := JD.pins_of fun p hp => JD.pin p (List.mem_append_right _ (List.mem_cons_of_mem _ hp))
        obtain ⟨getA, fa6, _⟩ := S6.pin (a, oe) (List.mem_append_left _ List.mem_cons_self)
        obtain ⟨getT, ft6, _⟩ := JD.pin (T, oT) (List.mem_append_right _ List.mem_cons_self)
        have other : ∀ y oy, sI.heap.get? y = some oy → y ≠ a ∧ y ≠ T := fun y oy gy => by
          by_cases hy : y ∈ frs X.stack
          · rw [hs] at hy
            exact ⟨fun z => offA (z ▸ hy), fun z => offT (z ▸ hy)⟩
          · have inB := nb y oy gy hy
            constructor
            · rintro rfl
              rw [k2] at inB
              cases inB
            · rintro rfl
              rw [hnT] at inB
              cases inB
        obtain ⟨G, in1, in0⟩ := restrict s6.heap fun y => !(decide (y = a) || decide (y = T))
        have fromG : ∀ y oy, G.get? y = some oy → s6.heap.get? y = some oy ∧ y ≠ a ∧ y ≠ T := fun y oy gy => by
          by_cases hy : y = a ∨ y = T
          · rw [in0 y (by rcases hy with z | z <;> simp [z])] at gy
            cases gy
          · have h1 : y ≠ a := fun z => hy (.inl z)
            have h2 : y ≠ T := fun z => hy (.inr z)
            rw [in1 y (by simp [h1, h2])] at gy
            exact ⟨gy, h1, h2⟩
        have toG : ∀ y oy, y ≠ a → y ≠ T → s6.heap.get? y = some oy → G.get? y = some oy := fun y oy h1 h2 gy => (in1 y (by simp [h1, h2])).trans gy
        have JG : Inv X pins σ' H6 { s6 with heap := G } := J6.less (fun y oy gy => (fromG y oy gy).1) toG ⟨oe, vs, getA, hd⟩ ⟨oT, ts, getT, hdT⟩ fa6 ft6
          (fun y oy gy => by
            obtain ⟨oz, gz⟩ := JA.base.there y oy gy (by rw [hex]; simp)
            exact other y oz gz) (fun p hp => other p.1 p.2 (JA.pin p hp).1)
        have none6 : ∀ y, (y = a ∨ y = T) → (PySem.W.hideAll G (frs X.stack)).get? y = none := fun y hy => by
          cases gy : (PySem.W.hideAll G (frs X.stack)).get? y with
          | none => rfl
          | some oy =>
            obtain ⟨_, n1, n2⟩ := fromG y oy (PySem.W.of_hideAll _ gy)
            exact hy.elim (fun z => absurd z n1) (fun z => absurd z n2)
        have fly : HandSPX.FlyingZ (PySem.W.hideAll G (frs X.stack)) (X.env :: X.outer) a (Zc cls d) s6.heap := by
          refine ⟨fun y oy gy => (fromG y oy (PySem.W.of_hideAll _ gy)).1, none6 a (.inl rfl), ?_, oe, vs, T, oT, ts, getA, hz, hd, hv1, none6 T (.inr rfl), hTe, getT, hdT, ht3⟩
          have funs := funFrames_none (B := PySem.W.hideAll G (frs X.stack)) J6.stack fun y hy => PySem.W.hideAll_none _ hy
          rw [← hs]
          exact funs
        unfold PySem.passOn
        refine wpAny_bind (wpAny_field getA hd hv1 ?_)
        rw [if_neg (by intro z; cases z)]
        have away : wpAny (model X.prog X.w) X.A (setFlight (.ref a) X.env.frame) (fun _ s7 => wpAny (model X.prog X.w) X.A (throw (.ref a) : Sem Flow) (SP X pins D) X.xe s7) X.xe s6 := by
          rw [hf]
          refine HandSPX.setFlight_upZ fly fun h7 held up7 => wpAny_throw (tk _ _ ?_)
          exact ⟨a, PySem.W.hideAll G (frs X.stack), { s6 with heap := G }, pins, σ', H6, cls, d, rfl, JG, fun y oy gy hy => PySem.W.hideAll_get _ gy hy, (Heap.UpToSlots.of_keeps fun y oy gy => (fromG y oy gy).1).trans up7, .inr (.inr (by rw [← hs] at held; exact held)), fa6, rfl, J6.bare, wout⟩
        first
          | exact wpAny_bind (wpAny_pure (wpAny_bind away))
          | exact wpAny_bind away
      | next => exact hq.elim
      | brk => exact hq.elim
      | cont => exact hq.elim
  · cases f with
    | next =>
      obtain ⟨σ', H', JT, q3⟩ := h4
      have I4 : Inv X pins σ' H' s4 := JT.ofTry I.ok
      refine wpAny_bind (wpAny_standAt (wpAny_bind (wpAny_holding ?_)))
      refine wpAny_mono (wpAny_call (run_fnR (us := [.ref x, .none, .none, .none]) (vs := [.ref x, .non, .non, .non]) FX hr pass0 I4 (.cons rfl (.cons rfl (.cons rfl (.cons rfl .nil)))) q3)) (fun v5 s5 z5 => ?_) fun _ _ z => z
      obtain ⟨v', H5, I5, _, q5⟩ := z5
      exact wpAny_pure ⟨σ', H5, I5, q5⟩
    | ret u =>
      obtain ⟨_, _, _, _, _, q⟩ := h4
      exact q.elim
    | brk =>
      obtain ⟨_, _, _, q⟩ := h4
      exact q.elim
    | cont =>
      obtain ⟨_, _, _, q⟩ := h4
      exact q.elim
end
end SB

/-! o.f = v, f a property with a setter; own methods with keyword-only parameters. -/
namespace SB
open PySem PySem.Spec PyProof.Rows L2 StX
structure PrS (P : Program) (w : World) (K : PySem.W.Frag) (mg : Str → Option Value) (base : Heap) (CX : CXT) (k : Nat) (C : Addr) (f : Str) (sp : Sp) : Prop where
  ex : ∃ (p g : Addr) (a : Value) (rest : List Value), Cls K C ∧ PySem.W.takerIn K C f = some (some (.ref p)) ∧ PySem.W.typeIn K (.ref p) = some (.type "property") ∧ PySem.W.recIn K p "property" = some (a :: .ref g :: rest) ∧ FnR P w K mg base CX k g sp
def sPrS (C : Addr) (sp : Sp) (E : XK) (ta tv : TE) : TS := fun D σ H => tv σ H fun y H1 => ta σ H1 fun x H2 => ∃ a dx fs, x = .ref a ∧ H2 a = some (.ins C dx fs) ∧ sp [x, y] H2 (fun _ H' => D.nx σ H') E
section
variable {X : Cx} {CX : CXT} {k j : Nat} {C : Addr} {f : Str} {sp : Sp} {E : XK} {pos pos' : Pos} {o value : Expr} {ta tv : TE}
theorem run_fnR2 {pins : List (Addr × Obj)} {σ : L2.St} {H : Hp} {s : Shared} {f : Addr} {Q : VK} {us : List Value} {vs : List V} (F : FnR X.prog X.w X.K X.mg X.base CX k f sp) (hr : Room (k + 2) X.A) (hx : Passes CX X E) (I : Inv X pins σ H s) (r : Vals vs us) (h : sp vs H Q E) :
    codeAny (model X.prog X.w) X.A.in1.in1 (.call (.ref f) ⟨us, []⟩) (fun r s' => match r with | .ok (.ret v) => EP X pins σ Q v s' | .ok _ => False | .error e => X.xe e s') s := by
  refine codeAny_mono (F X.A.in1.in1 X.stack s H us vs Q E hr.in1.in1 I.env0.in1.in1 r h) fun r s' hq => ?_
  cases r with
  | error e => exact hx pins σ H s e s' I hq
  | ok fl =>
    cases fl with
    | ret u => exact I.after hq
    | next => exact False.elim hq
    | brk => exact False.elim hq
    | cont => exact False.elim hq
theorem ps_prset (ha : PE X o ta) (hv : PE X value tv) (c : PrS X.prog X.w X.K X.mg X.base CX k C f sp) (hr : Room j X.A) (hk : k + 2 ≤ j) (hx : Passes CX X E) (hs : swapsWith value (some (.Attribute o f pos')) pos.line X.env = pure false) : PS X (.Assign [.Attribute o f pos'] value pos) (sPrS C sp E ta tv) := by
  obtain ⟨p, g, a0, rest, cl, ht, hT, hp, F⟩ := c.ex
  refine ⟨fun pins s σ H D I h => ?_⟩
  refine plainObj_wpAny_Assign_Attribute (thn (hv.run pins s σ H _ I h) fun u s1 ⟨y, H1, I1, ry, q⟩ => thn (ha.run pins s1 σ H1 _ I1 q) fun ov s2 ⟨x, H2, I2, rx, a, dx, fs, ex, ea, q2⟩ => ?_) hs
  subst ex
  obtain rfl : ov = Value.ref a := rx
  obtain ⟨ox, od, J⟩ := inst_at I2 ea
  refine PySem.W.set_plain I2.kIn J cl.sa (PySem.W.osa_descr (s := { s2 with toks := s2.toks + 1 }) PySem.W.KF.slot_pset I2.kIn J cl.po ht hT (PySem.W.prop_set (s := { s2 with toks := s2.toks + 1 }) I2.kIn hp ?_))
  refine codeAny_mono (run_fnR2 (us := [.ref a, u]) (vs := [.ref a, y]) F (hr.mono hk) hx (I2.tok _) (.cons rfl (.cons ry .nil)) q2) fun r s' z => ?_
  cases r with
  | error e => exact z
  | ok fl =>
    cases fl with
    | ret v =>
      obtain ⟨_, H', I', _, q'⟩ := z
      exact ⟨σ, H', I', q'⟩
    | next => exact False.elim z
    | brk => exact False.elim z
    | cont => exact False.elim z
end
/-- a call with keywords, by a def's promise -/
theorem fnk_of {P : Program} {w : World} {K : PySem.W.Frag} {mg : Str → Option Value} {base : Heap} {CX : CXT} {k n : Nat} {f : Addr} {fd : FuncData} {ps ks : List Str} {sp : Sp} {g : List Value → List Value → List Value} {gV : List V → List V → List V}
    (F : FnOk P w K mg base CX k f fd ps sp) (b : KBn K fd ps n ks g gV) : FnK P w K mg base CX k f ks (fun zs vs H Q E => vs.length = n ∧ sp (gV vs zs) H Q E) := by
  intro A outer s H us ws vs zs Q E hr e0 r rz hl ⟨hn, h⟩
  have KX : K.In s.heap := e0.mod.kin.keeps fun b o e => (e0.bs b o e).1
  exact F.run A outer s H _ _ _ Q E hr e0 (b.to s us ws KX (by rw [← r.length]; exact hn) (by rw [← rz.length]; exact hl)) (b.rel r rz) h
end SB

/-! Moves as plain lists of places. -/
namespace MM
/-- the places of a move that takes t values -/
def MoveOk (t : Nat) (ps : List Int) : Prop := (∀ p ∈ ps, -1 ≤ p ∧ p < (t : Int)) ∧ ps.Pairwise (fun a b => 0 ≤ a → a ≠ b)
theorem MoveOk.inj {t : Nat} {ps : List Int} (h : MoveOk t ps) {i j : Nat} {v : Int} (hi : ps[i]? = some v) (hj : ps[j]? = some v) (h0 : 0 ≤ v) : i = j := by
  obtain ⟨li, ei⟩ := List.getElem?_eq_some_iff.mp hi
  obtain ⟨lj, ej⟩ := List.getElem?_eq_some_iff.mp hj
  have pw := List.pairwise_iff_getElem.mp h.2
  rcases Nat.lt_trichotomy i j with c | c | c
  · exact absurd (ei.trans ej.symm) (pw i j li lj c (by rw [ei]; exact h0))
  · exact c
  · exact absurd (ej.trans ei.symm) (pw j i lj li c (by rw [ej]; exact h0))
theorem MoveOk.at {t : Nat} {ps : List Int} (h : MoveOk t ps) {i : Nat} {v : Int} (hi : ps[i]? = some v) : -1 ≤ v ∧ v < (t : Int) := h.1 v (List.mem_of_getElem? hi)
theorem moveOk_of {t : Nat} {ps : List Int} (h1 : ∀ (i : Nat) (v : Int), ps[i]? = some v → -1 ≤ v ∧ v < (t : Int)) (h2 : ∀ (i j : Nat) (v : Int), ps[i]? = some v → ps[j]? = some v → 0 ≤ v → i = j) : MoveOk t ps := by
  refine ⟨fun p hp => ?_, List.pairwise_iff_getElem.mpr fun i j hi hj hij h0 e => ?_⟩
  · obtain ⟨i, hi, e⟩ := List.mem_iff_getElem.mp hp
    exact h1 i p (by rw [List.getElem?_eq_getElem hi, e])
  · have := h2 i j ps[i] (List.getElem?_eq_getElem hi) (by rw [List.getElem?_eq_getElem hj, e]) h0
    omega
/-- where p stands among the places, or -1 -/
def posI : List Int → Int → Nat → Int
  | [], _, _ => -1
  | x :: r, p, k => if x = p then (k : Int) else posI r p (k + 1)
def posM (ps : List Int) (p : Int) : Int := posI ps p 0
theorem posI_spec : ∀ (ps : List Int) (p : Int) (k : Nat), (posI ps p k = -1 ∧ p ∉ ps) ∨ ∃ j : Nat, posI ps p k = ((k + j : Nat) : Int) ∧ ps[j]? = some p
  | [], p, k => .inl ⟨rfl, by simp⟩
  | x :: r, p, k => by
    unfold posI
    by_cases c : x = p
    · rw [if_pos c]
      exact .inr ⟨0, by simp, by simp [c]⟩
    · rw [if_neg c]
      rcases posI_spec r p (k + 1) with ⟨e, h⟩ | ⟨j, e, h⟩
      · exact .inl ⟨e, by simp [h]; exact fun z => c z.symm⟩
      · exact .inr ⟨j + 1, by rw [e]; congr 1; omega, by simpa using h⟩
theorem posM_none {ps : List Int} {p : Int} (h : p ∉ ps) : posM ps p = -1 := by
  rcases posI_spec ps p 0 with ⟨e, _⟩ | ⟨j, _, hj⟩
  · exact e
  · exact absurd (List.mem_of_getElem? hj) h
theorem posM_some {t : Nat} {ps : List Int} (ok : MoveOk t ps) {p : Int} {j : Nat} (h0 : 0 ≤ p) (h : ps[j]? = some p) : posM ps p = (j : Int) := by
  rcases posI_spec ps p 0 with ⟨_, n⟩ | ⟨i, e, hi⟩
  · exact absurd (List.mem_of_getElem? h) n
  · have := ok.inj hi h h0
    subst this
    exact e.trans (by simp)
theorem posM_cases (ps : List Int) (p : Int) : (posM ps p = -1 ∧ p ∉ ps) ∨ ∃ j : Nat, posM ps p = (j : Int) ∧ ps[j]? = some p := by
  rcases posI_spec ps p 0 with h | ⟨j, e, h⟩
  · exact .inl h
  · exact .inr ⟨j, e.trans (by simp), h⟩
/-- the places of the undone move -/
def invM (t : Nat) (ps : List Int) : List Int := (List.range t).map fun i : Nat => posM ps (i : Int)
theorem invM_length (t : Nat) (ps : List Int) : (invM t ps).length = t := by simp [invM]
theorem invM_get {t : Nat} {ps : List Int} {i : Nat} (h : i < t) : (invM t ps)[i]? = some (posM ps (i : Int)) := by
  simp [invM, h]
theorem invM_get' {t : Nat} {ps : List Int} {i : Nat} {v : Int} (h : (invM t ps)[i]? = some v) : i < t ∧ v = posM ps (i : Int) := by
  have hl : i < t := by
    have := (List.getElem?_eq_some_iff.mp h).1
    rw [invM_length] at this
    exact this
  rw [invM_get hl] at h
  exact ⟨hl, (Option.some.inj h).symm⟩
theorem invM_ok {t : Nat} {ps : List Int} (ok : MoveOk t ps) : MoveOk ps.length (invM t ps) := by
  refine moveOk_of (fun i v h => ?_) (fun i j v hi hj h0 => ?_)
  · obtain ⟨_, rfl⟩ := invM_get' h
    rcases posM_cases ps i with ⟨e, _⟩ | ⟨j, e, hj⟩
    · rw [e]; omega
    · have := (List.getElem?_eq_some_iff.mp hj).1
      rw [e]; omega
  · obtain ⟨_, e1⟩ := invM_get' hi
    obtain ⟨_, e2⟩ := invM_get' hj
    rcases posM_cases ps i with ⟨e, _⟩ | ⟨a, ea, ha⟩
    · omega
    · rcases posM_cases ps j with ⟨e, _⟩ | ⟨b, eb, hb⟩
      · omega
      · have : a = b := by omega
        subst this
        rw [ha] at hb
        have := Option.some.inj hb
        omega
theorem invM_succ (t : Nat) (ps : List Int) : invM (t + 1) ps = invM t ps ++ [posM ps (t : Int)] := by
  unfold invM
  rw [List.range_succ, List.map_append]
  rfl
theorem posI_snoc_old {x p : Int} (h : p ≠ x) : ∀ (ps : List Int) (k : Nat), posI (ps ++ [x]) p k = posI ps p k
  | [], k => by
    show (if x = p then _ else _) = _
    rw [if_neg fun z => h z.symm]
    rfl
  | y :: r, k => by
    show (if y = p then _ else posI (r ++ [x]) p (k + 1)) = if y = p then _ else _
    rw [posI_snoc_old h r (k + 1)]
theorem posM_snoc_old {ps : List Int} {x p : Int} (h : p ≠ x) : posM (ps ++ [x]) p = posM ps p := posI_snoc_old h ps 0
theorem posM_snoc_new {t : Nat} {ps : List Int} (ok : MoveOk t ps) {i : Nat} {v p : Int} (h : ps[i]? = some v) (h0 : 0 ≤ v) (e : p = v) : posM (ps.take i ++ [v]) p = (i : Int) := by
  subst e
  have hl : i < ps.length := (List.getElem?_eq_some_iff.mp h).1
  rcases posM_cases (ps.take i ++ [p]) p with ⟨_, n⟩ | ⟨j, e, hj⟩
  · exact absurd (List.mem_append_right _ (List.mem_singleton_self _)) n
  · rw [e]
    have hlt : j < i + 1 := by
      have := (List.getElem?_eq_some_iff.mp hj).1
      rw [List.length_append, List.length_take] at this
      simp at this
      omega
    by_cases c : j < i
    · rw [List.getElem?_append_left (by rw [List.length_take]; omega), List.getElem?_take, if_pos c] at hj
      have := ok.inj hj h h0
      omega
    · congr 1
      omega
theorem ext_get {a b : List Int} (hl : a.length = b.length) (h : ∀ (i : Nat) (x y : Int), a[i]? = some x → b[i]? = some y → x = y) : a = b := by
  apply List.ext_getElem hl
  intro i h1 h2
  exact h i _ _ (List.getElem?_eq_getElem h1) (List.getElem?_eq_getElem h2)
/-- undone twice -/
theorem inv_inv {t : Nat} {ps : List Int} (ok : MoveOk t ps) : invM ps.length (invM t ps) = ps := by
  refine ext_get (invM_length _ _) fun i x y hx hy => ?_
  obtain ⟨hi, rfl⟩ := invM_get' hx
  have b := ok.at hy
  by_cases h0 : 0 ≤ y
  · obtain ⟨k, rfl⟩ : ∃ k : Nat, y = (k : Int) := ⟨y.toNat, by omega⟩
    have hk : k < t := by omega
    have e : (invM t ps)[k]? = some (i : Int) := by rw [invM_get hk, posM_some ok (by omega) hy]
    exact posM_some (invM_ok ok) (by omega) e
  · have ey : y = -1 := by omega
    rw [posM_none, ey]
    intro hm
    obtain ⟨k, hk⟩ := List.mem_iff_getElem?.mp hm
    obtain ⟨hk1, e⟩ := invM_get' hk
    rcases posM_cases ps k with ⟨e2, _⟩ | ⟨j, e2, hj⟩
    · omega
    · have : j = i := by omega
      subst this
      rw [hy] at hj
      have := Option.some.inj hj
      omega
/-- the places of a product -/
def prodM (ps qs : List Int) : List Int := qs.map fun q => if q < 0 then q else ps.getD q.toNat (-1)
theorem prodM_length (ps qs : List Int) : (prodM ps qs).length = qs.length := by simp [prodM]
theorem prodM_get {ps qs : List Int} {i : Nat} {q : Int} (h : qs[i]? = some q) : (prodM ps qs)[i]? = some (if q < 0 then q else ps.getD q.toNat (-1)) := by
  simp [prodM, h]
theorem prodM_get' {ps qs : List Int} {i : Nat} {v : Int} (h : (prodM ps qs)[i]? = some v) : ∃ q, qs[i]? = some q ∧ v = if q < 0 then q else ps.getD q.toNat (-1) := by
  have hl : i < qs.length := by
    have := (List.getElem?_eq_some_iff.mp h).1
    rw [prodM_length] at this
    exact this
  have hq := List.getElem?_eq_getElem hl
  rw [prodM_get hq] at h
  exact ⟨_, hq, (Option.some.inj h).symm⟩
theorem getD_of {ps : List Int} {k : Nat} {v : Int} (h : ps[k]? = some v) : ps.getD k (-1) = v := by simp [List.getD, h]
/-- a place of a product: a gap of the second, or the place of the first there -/
theorem prod_case {t : Nat} {ps qs : List Int} (o2 : MoveOk ps.length qs) {i : Nat} {v : Int} (h : (prodM ps qs)[i]? = some v) : (qs[i]? = some (-1) ∧ v = -1) ∨ ∃ k : Nat, qs[i]? = some (k : Int) ∧ ps[k]? = some v := by
  obtain ⟨q, hq, e⟩ := prodM_get' h
  have b := o2.at hq
  by_cases c : q < 0
  · rw [if_pos c] at e
    have : q = -1 := by omega
    subst this
    exact .inl ⟨hq, e⟩
  · rw [if_neg c] at e
    have hl : q.toNat < ps.length := by omega
    refine .inr ⟨q.toNat, by rw [hq]; congr 1; omega, ?_⟩
    rw [getD_of (List.getElem?_eq_getElem hl)] at e
    rw [List.getElem?_eq_getElem hl, e]
theorem prod_gap {ps qs : List Int} {i : Nat} (h : qs[i]? = some (-1)) : (prodM ps qs)[i]? = some (-1) := by rw [prodM_get h]; simp
theorem prod_at {ps qs : List Int} {i k : Nat} {v : Int} (h : qs[i]? = some (k : Int)) (hk : ps[k]? = some v) : (prodM ps qs)[i]? = some v := by
  rw [prodM_get h, if_neg (by omega), Int.toNat_natCast, getD_of hk]
theorem prod_ok {t : Nat} {ps qs : List Int} (o1 : MoveOk t ps) (o2 : MoveOk ps.length qs) : MoveOk t (prodM ps qs) := by
  refine moveOk_of (fun i v h => ?_) (fun i j v hi hj h0 => ?_)
  · rcases prod_case (t := t) o2 h with ⟨_, e⟩ | ⟨k, _, hk⟩
    · omega
    · exact o1.at hk
  · rcases prod_case (t := t) o2 hi with ⟨_, e⟩ | ⟨a, ha, hka⟩
    · omega
    · rcases prod_case (t := t) o2 hj with ⟨_, e⟩ | ⟨b, hb, hkb⟩
      · omega
      · have := o1.inj hka hkb h0
        subst this
        exact o2.inj ha hb (by omega)
theorem getElem?_of_lt {ps : List Int} {k : Nat} (h : k < ps.length) : ∃ v, ps[k]? = some v := ⟨_, List.getElem?_eq_getElem h⟩
/-- the undone product -/
theorem inv_prod {t : Nat} {ps qs : List Int} (o1 : MoveOk t ps) (o2 : MoveOk ps.length qs) : invM t (prodM ps qs) = prodM (invM ps.length qs) (invM t ps) := by
  have o3 := prod_ok o1 o2
  have o4 := invM_ok o1
  have o5 := invM_ok o2
  have o6 : MoveOk (invM ps.length qs).length (invM t ps) := by rw [invM_length]; exact o4
  refine ext_get (by rw [invM_length, prodM_length, invM_length]) fun i x y hx hy => ?_
  obtain ⟨hi, rfl⟩ := invM_get' hx
  rcases prod_case (t := qs.length) o6 hy with ⟨hg, rfl⟩ | ⟨k, hk, hy2⟩
  · -- i is not among ps
    obtain ⟨_, e⟩ := invM_get' hg
    rcases posM_cases ps i with ⟨_, n⟩ | ⟨j, e2, _⟩
    · refine posM_none fun hm => ?_
      obtain ⟨j, hj⟩ := List.mem_iff_getElem?.mp hm
      rcases prod_case (t := t) o2 hj with ⟨_, z⟩ | ⟨a, _, ha⟩
      · omega
      · exact n (List.mem_of_getElem? ha)
    · omega
  · obtain ⟨_, ek⟩ := invM_get' hk
    rcases posM_cases ps i with ⟨e2, _⟩ | ⟨j, e2, hj⟩
    · omega
    · have : j = k := by omega
      subst this
      obtain ⟨_, rfl⟩ := invM_get' hy2
      rcases posM_cases qs j with ⟨e3, n⟩ | ⟨l, e3, hl⟩
      · rw [e3]
        refine posM_none fun hm => ?_
        obtain ⟨b, hb⟩ := List.mem_iff_getElem?.mp hm
        rcases prod_case (t := t) o2 hb with ⟨_, z⟩ | ⟨a, ha1, ha2⟩
        · omega
        · have := o1.inj ha2 hj (by omega)
          subst this
          exact n (List.mem_of_getElem? ha1)
      · rw [e3]
        exact posM_some o3 (by omega) (prod_at hl hj)
/-- a move, undone, and done again -/
theorem prod_back {t : Nat} {ps : List Int} (ok : MoveOk t ps) : prodM (prodM ps (invM t ps)) ps = ps := by
  have o4 := invM_ok ok
  have o5 : MoveOk t (prodM ps (invM t ps)) := prod_ok ok o4
  have hl : (prodM ps (invM t ps)).length = t := by rw [prodM_length, invM_length]
  have o6 : MoveOk (prodM ps (invM t ps)).length ps := by rw [hl]; exact ok
  refine ext_get (prodM_length _ _) fun i x y hx hy => ?_
  rcases prod_case (t := t) o6 hx with ⟨hg, rfl⟩ | ⟨k, hk, hx2⟩
  · rw [hy] at hg
    exact (Option.some.inj hg).symm
  · rw [hy] at hk
    have ey := Option.some.inj hk
    rcases prod_case (t := t) o4 hx2 with ⟨hg, rfl⟩ | ⟨j, hj, hj2⟩
    · obtain ⟨_, e⟩ := invM_get' hg
      rw [posM_some ok (by omega) (by rw [hy, ey])] at e
      omega
    · obtain ⟨_, e⟩ := invM_get' hj
      rw [posM_some ok (by omega) (by rw [hy, ey])] at e
      have : j = i := by omega
      subst this
      rw [hy] at hj2
      exact (Option.some.inj hj2).symm
/-- gaps -/
def gapsM (ps : List Int) : Nat := (ps.filter fun p => decide (p < 0)).length
/-- the still move -/
def stillM (t : Nat) : List Int := (List.range t).map fun i : Nat => (i : Int)
theorem stillM_length (t : Nat) : (stillM t).length = t := by simp [stillM]
theorem stillM_get {t i : Nat} {v : Int} (h : (stillM t)[i]? = some v) : i < t ∧ v = (i : Int) := by
  have hl : i < t := by
    have := (List.getElem?_eq_some_iff.mp h).1
    rw [stillM_length] at this
    exact this
  simp [stillM, hl] at h
  exact ⟨hl, h.symm⟩
theorem stillM_at {t i : Nat} (h : i < t) : (stillM t)[i]? = some (i : Int) := by simp [stillM, h]
theorem still_ok (t : Nat) : MoveOk t (stillM t) := by
  refine moveOk_of (fun i v h => ?_) (fun i j v hi hj _ => ?_)
  · obtain ⟨_, rfl⟩ := stillM_get h
    omega
  · obtain ⟨_, e1⟩ := stillM_get hi
    obtain ⟨_, e2⟩ := stillM_get hj
    omega
theorem still_nodup (t : Nat) : (stillM t).Nodup := by
  refine List.nodup_iff_pairwise_ne.mpr (List.pairwise_iff_getElem.mpr fun i j hi hj hij e => ?_)
  have a := stillM_get (List.getElem?_eq_getElem hi)
  have b := stillM_get (List.getElem?_eq_getElem hj)
  omega
theorem still_mem {t : Nat} {v : Int} : v ∈ stillM t ↔ 0 ≤ v ∧ v < (t : Int) := by
  constructor
  · intro h
    obtain ⟨i, hi⟩ := List.mem_iff_getElem?.mp h
    obtain ⟨h1, rfl⟩ := stillM_get hi
    omega
  · rintro ⟨h0, h1⟩
    have e := stillM_at (t := t) (i := v.toNat) (by omega)
    have := List.mem_of_getElem? e
    rwa [show ((v.toNat : Nat) : Int) = v by omega] at this
/-- some of the indexes below t, each once -/
def SomeOf (t : Nat) (a b : List Int) : Prop := (a ++ b).Perm (stillM t)
theorem someOf_ok {t : Nat} {a b : List Int} (h : SomeOf t a b) : MoveOk t a := by
  have nd : (a ++ b).Nodup := h.nodup_iff.mpr (still_nodup t)
  have na := (List.nodup_append.mp nd).1
  refine ⟨fun p hp => ?_, List.Pairwise.imp (R := (· ≠ ·)) (S := fun a b => 0 ≤ a → a ≠ b) (fun hab _ => hab) (List.nodup_iff_pairwise_ne.mp na)⟩
  have := still_mem.mp (h.mem_iff.mp (List.mem_append_left b hp))
  omega
theorem someOf_nonneg {t : Nat} {a b : List Int} (h : SomeOf t a b) : ∀ p ∈ a, 0 ≤ p := fun p hp => (still_mem.mp (h.mem_iff.mp (List.mem_append_left b hp))).1
theorem someOf_length {t : Nat} {a b : List Int} (h : SomeOf t a b) : a.length + b.length = t := by
  have := h.length_eq
  rw [List.length_append, stillM_length] at this
  exact this
theorem someOf_start (t : Nat) : SomeOf t [] (stillM t) := List.Perm.refl _
theorem cons_erase : ∀ {b : List Int} {k : Nat} {v : Int}, b[k]? = some v → (v :: b.eraseIdx k).Perm b
  | [], _, _, h => by simp at h
  | x :: r, 0, v, h => by
    have e : x = v := Option.some.inj h
    subst e
    exact List.Perm.refl _
  | x :: r, k + 1, v, h => by
    have ih := cons_erase (b := r) (k := k) (v := v) (by simpa using h)
    show (v :: x :: r.eraseIdx k).Perm (x :: r)
    exact (List.Perm.swap x v _).trans (ih.cons x)
theorem someOf_step {t : Nat} {a b : List Int} {k : Nat} {v : Int} (h : SomeOf t a b) (hk : b[k]? = some v) : SomeOf t (a ++ [v]) (b.eraseIdx k) := by
  have p := cons_erase hk
  have q : (a ++ [v] ++ b.eraseIdx k).Perm (a ++ b) := by
    rw [List.append_assoc]
    exact p.append_left a
  exact q.trans h
theorem ok_insert {t : Nat} {a : List Int} (h : MoveOk t a) (i : Nat) : MoveOk t (a.take i ++ [-1] ++ a.drop i) := by
  obtain ⟨h1, h2⟩ := h
  refine ⟨fun p hp => ?_, ?_⟩
  · rcases List.mem_append.mp hp with hp | hp
    · rcases List.mem_append.mp hp with hp | hp
      · exact h1 p (List.mem_of_mem_take hp)
      · have : p = -1 := by simpa using hp
        omega
    · exact h1 p (List.mem_of_mem_drop hp)
  · have h2' : (a.take i ++ a.drop i).Pairwise (fun a b => 0 ≤ a → a ≠ b) := by rw [List.take_append_drop]; exact h2
    obtain ⟨p1, p2, p3⟩ := List.pairwise_append.mp h2'
    refine List.pairwise_append.mpr ⟨List.pairwise_append.mpr ⟨p1, List.pairwise_singleton _ _, fun x hx y hy h0 => ?_⟩, p2, fun x hx y hy => ?_⟩
    · have : y = -1 := by simpa using hy
      omega
    · rcases List.mem_append.mp hx with hx | hx
      · exact p3 x hx y hy
      · have : x = -1 := by simpa using hx
        intro h0
        omega
/-- a move that leaves nothing out and has no gaps, undone -/
theorem perm_back {t : Nat} {ps : List Int} (h : SomeOf t ps []) : prodM ps (invM t ps) = stillM t := by
  have ok := someOf_ok h
  have o4 := invM_ok ok
  have hp : ps.Perm (stillM t) := by have := h; unfold SomeOf at this; rwa [List.append_nil] at this
  refine ext_get (by rw [prodM_length, invM_length, stillM_length]) fun i x y hx hy => ?_
  obtain ⟨hi, rfl⟩ := stillM_get hy
  have hm : (i : Int) ∈ ps := hp.mem_iff.mpr (still_mem.mpr (by omega))
  rcases prod_case (t := t) o4 hx with ⟨hg, rfl⟩ | ⟨k, hk, hx2⟩
  · obtain ⟨_, e⟩ := invM_get' hg
    rcases posM_cases ps i with ⟨_, n⟩ | ⟨j, e2, _⟩
    · exact absurd hm n
    · omega
  · obtain ⟨_, e⟩ := invM_get' hk
    rcases posM_cases ps i with ⟨_, n⟩ | ⟨j, e2, hj⟩
    · exact absurd hm n
    · have : j = k := by omega
      subst this
      rw [hx2] at hj
      exact Option.some.inj hj
theorem back_perm {t : Nat} {ps : List Int} (h : SomeOf t ps []) : prodM (invM t ps) ps = stillM t := by
  have ok := someOf_ok h
  have o6 : MoveOk (invM t ps).length ps := by rw [invM_length]; exact ok
  have hl : ps.length = t := by have := someOf_length h; simpa using this
  refine ext_get (by rw [prodM_length, stillM_length, hl]) fun i x y hx hy => ?_
  obtain ⟨hi, rfl⟩ := stillM_get hy
  rcases prod_case (t := ps.length) o6 hx with ⟨hg, rfl⟩ | ⟨k, hk, hx2⟩
  · have := someOf_nonneg h (-1) (List.mem_of_getElem? hg)
    omega
  · obtain ⟨_, rfl⟩ := invM_get' hx2
    exact posM_some ok (by omega) hk
/-! ### a move applied to values -/
section
variable {α β : Type}
def applyM : List Int → List α → List α → List α
  | [], _, _ => []
  | p :: ps, xs, ys => if p < 0 then ys.take 1 ++ applyM ps xs (ys.drop 1) else (xs[p.toNat]?).toList ++ applyM ps xs ys
theorem apply_neg {p : Int} {ps : List Int} {xs ys : List α} {y : α} (h : p < 0) : applyM (p :: ps) xs (y :: ys) = y :: applyM ps xs ys := by
  show (if p < 0 then _ else _) = _
  rw [if_pos h]
  rfl
theorem apply_nonneg {p : Int} {ps : List Int} {xs ys : List α} {x : α} (h : ¬ p < 0) (hx : xs[p.toNat]? = some x) : applyM (p :: ps) xs ys = x :: applyM ps xs ys := by
  show (if p < 0 then _ else _) = _
  rw [if_neg h, hx]
  rfl
theorem gaps_cons (p : Int) (ps : List Int) : gapsM (p :: ps) = (if p < 0 then 1 else 0) + gapsM ps := by
  unfold gapsM
  by_cases c : p < 0
  · simp [c]; omega
  · simp [c]
theorem gaps_snoc (ps : List Int) (p : Int) : gapsM (ps ++ [p]) = gapsM ps + (if p < 0 then 1 else 0) := by
  unfold gapsM
  by_cases c : p < 0 <;> simp [c]
/-- what stands at a position -/
theorem apply_get : ∀ (ps : List Int) (xs ys : List α), (∀ p ∈ ps, p < 0 ∨ p.toNat < xs.length) → gapsM ps ≤ ys.length → ∀ i : Nat, (applyM ps xs ys)[i]? = (ps[i]?).bind fun p => if p < 0 then ys[gapsM (ps.take i)]? else xs[p.toNat]?
  | [], _, _, _, _, i => by simp [applyM]
  | p :: ps, xs, ys, hp, hg, i => by
    rw [gaps_cons] at hg
    by_cases c : p < 0
    · rw [if_pos c] at hg
      cases ys with
      | nil => simp at hg
      | cons y ys =>
        rw [apply_neg c]
        cases i with
        | zero => simp [c, gapsM]
        | succ i =>
          have ih := apply_get ps xs ys (fun q hq => hp q (List.mem_cons_of_mem _ hq)) (by simp at hg; omega) i
          simp only [List.getElem?_cons_succ, List.take_succ_cons]
          rw [ih, gaps_cons, if_pos c]
          simp only [Nat.add_comm 1, List.getElem?_cons_succ]
    · rw [if_neg c] at hg
      have hl : p.toNat < xs.length := (hp p List.mem_cons_self).resolve_left c
      rw [apply_nonneg c (List.getElem?_eq_getElem hl)]
      cases i with
      | zero => simp [c]
      | succ i =>
        have ih := apply_get ps xs ys (fun q hq => hp q (List.mem_cons_of_mem _ hq)) (by omega) i
        simp only [List.getElem?_cons_succ, List.take_succ_cons]
        rw [ih, gaps_cons, if_neg c]
        simp only [Nat.zero_add]
theorem apply_length : ∀ (ps : List Int) (xs ys : List α), (∀ p ∈ ps, p < 0 ∨ p.toNat < xs.length) → gapsM ps ≤ ys.length → (applyM ps xs ys).length = ps.length
  | [], _, _, _, _ => rfl
  | p :: ps, xs, ys, hp, hg => by
    rw [gaps_cons] at hg
    by_cases c : p < 0
    · rw [if_pos c] at hg
      cases ys with
      | nil => simp at hg
      | cons y ys =>
        rw [apply_neg c, List.length_cons, List.length_cons, apply_length ps xs ys (fun q hq => hp q (List.mem_cons_of_mem _ hq)) (by simp at hg; omega)]
    · rw [if_neg c] at hg
      have hl : p.toNat < xs.length := (hp p List.mem_cons_self).resolve_left c
      rw [apply_nonneg c (List.getElem?_eq_getElem hl), List.length_cons, List.length_cons, apply_length ps xs ys (fun q hq => hp q (List.mem_cons_of_mem _ hq)) (by omega)]
theorem apply_map (f : α → β) : ∀ (ps : List Int) (xs ys : List α), (applyM ps xs ys).map f = applyM ps (xs.map f) (ys.map f)
  | [], _, _ => rfl
  | p :: ps, xs, ys => by
    unfold applyM
    by_cases c : p < 0
    · rw [if_pos c, if_pos c, List.map_append, apply_map f ps, List.map_take, List.map_drop]
    · rw [if_neg c, if_neg c, List.map_append, apply_map f ps, List.getElem?_map]
      cases xs[p.toNat]? <;> rfl
theorem apply_filter {γ : Type} {f : γ → Int} {g h : γ → α} {Y : List α} : ∀ (is : List γ), (∀ i ∈ is, 0 ≤ f i → Y[(f i).toNat]? = some (h i)) →
    applyM (is.map f) Y ((is.filter fun i => decide (f i < 0)).map g) = is.map fun i => if f i < 0 then g i else h i
  | [], _ => rfl
  | i :: r, H => by
    have ih := apply_filter (f := f) (g := g) (h := h) (Y := Y) r fun j hj => H j (List.mem_cons_of_mem _ hj)
    by_cases c : f i < 0
    · rw [List.map_cons, List.filter_cons, if_pos (decide_eq_true c), List.map_cons, apply_neg c, ih, List.map_cons, if_pos c]
    · rw [List.map_cons, List.filter_cons, if_neg (by simp [c]), apply_nonneg c (H i List.mem_cons_self (by omega)), ih, List.map_cons, if_neg c]
end
/-- what the undone move makes of what the move has made -/
theorem undo_values {α : Type} {t : Nat} {ps : List Int} (ok : MoveOk t ps) {ds gs : List α} (hd : ds.length = t) (hg : gs.length = gapsM ps) (lost : Int → α) (x : α) :
    applyM (invM t ps) (applyM ps ds gs) (((stillM t).filter fun i => decide (i ∉ ps)).map lost) = (stillM t).map fun i => if i ∈ ps then ds.getD i.toNat x else lost i := by
  have e1 : invM t ps = (stillM t).map (posM ps) := by
    unfold invM stillM
    rw [List.map_map]
    rfl
  have e2 : (stillM t).filter (fun i => decide (i ∉ ps)) = (stillM t).filter (fun i => decide (posM ps i < 0)) := by
    apply List.filter_congr
    intro i _
    rcases posM_cases ps i with ⟨e, n⟩ | ⟨j, e, hj⟩
    · rw [e]; simp [n]
    · rw [e]
      have := List.mem_of_getElem? hj
      simp [this]
  rw [e1, e2, apply_filter (h := fun i => ds.getD i.toNat x)]
  · apply List.map_congr_left
    intro i _
    rcases posM_cases ps i with ⟨e, n⟩ | ⟨j, e, hj⟩
    · rw [e, if_pos (by omega), if_neg n]
    · rw [e, if_neg (by omega), if_pos (List.mem_of_getElem? hj)]
  · intro i hi h0
    obtain ⟨i0, i1⟩ := still_mem.mp hi
    rcases posM_cases ps i with ⟨e, n⟩ | ⟨j, e, hj⟩
    · omega
    · rw [e, Int.toNat_natCast, apply_get ps ds gs (fun p hp => ?_) (by omega), hj]
      · show (if i < 0 then _ else ds[i.toNat]?) = _
        rw [if_neg (by omega)]
        have hl : i.toNat < ds.length := by omega
        rw [List.getElem?_eq_getElem hl]
        simp [List.getD, List.getElem?_eq_getElem hl]
      · have := ok.1 p hp
        by_cases c : p < 0
        · exact .inl c
        · exact .inr (by omega)
end MM

/-! Products of moves, and what is done with one mark in all gaps. -/
namespace MM
theorem prod_assoc {ps qs rs : List Int} (ok : MoveOk qs.length rs) : prodM (prodM ps qs) rs = prodM ps (prodM qs rs) := by
  unfold prodM
  rw [List.map_map]
  apply List.map_congr_left
  intro r hr
  have b := ok.1 r hr
  show (if r < 0 then r else _) = (if (if r < 0 then r else qs.getD r.toNat (-1)) < 0 then (if r < 0 then r else qs.getD r.toNat (-1)) else ps.getD (if r < 0 then r else qs.getD r.toNat (-1)).toNat (-1))
  by_cases c : r < 0
  · rw [if_pos c, if_pos c, if_pos c]
  · have hl : r.toNat < qs.length := by omega
    rw [if_neg c, if_neg c]
    have e : qs.getD r.toNat (-1) = qs[r.toNat] := getD_of (List.getElem?_eq_getElem hl)
    rw [e]
    exact getD_of (by rw [List.getElem?_map, List.getElem?_eq_getElem hl]; rfl)
theorem still_prod {t : Nat} {ps : List Int} (ok : MoveOk t ps) : prodM (stillM t) ps = ps := by
  unfold prodM
  conv => rhs; rw [← List.map_id ps]
  apply List.map_congr_left
  intro p hp
  have b := ok.1 p hp
  by_cases c : p < 0
  · rw [if_pos c]; rfl
  · rw [if_neg c]
    have : (stillM t)[p.toNat]? = some p := by
      rw [stillM_at (by omega)]
      congr 1
      omega
    exact getD_of this
theorem prod_still (ps : List Int) : prodM ps (stillM ps.length) = ps := by
  apply ext_get
  · rw [prodM_length, stillM_length]
  · intro i x y hx hy
    obtain ⟨q, hq, e⟩ := prodM_get' hx
    obtain ⟨hi, e2⟩ := stillM_get hq
    subst e2
    rw [if_neg (by omega), Int.toNat_natCast, getD_of hy] at e
    exact e
section
variable {α β : Type}
def doneM (ps : List Int) (xs : List α) (m : α) : List α := ps.map fun p => if p < 0 then m else xs.getD p.toNat m
theorem doneM_length (ps : List Int) (xs : List α) (m : α) : (doneM ps xs m).length = ps.length := by simp [doneM]
theorem getD_at {xs : List α} {k : Nat} {v m : α} (h : xs[k]? = some v) : xs.getD k m = v := by simp [List.getD, h]
theorem done_map (f : α → β) (ps : List Int) (xs : List α) (m : α) : (doneM ps xs m).map f = doneM ps (xs.map f) (f m) := by
  unfold doneM
  rw [List.map_map]
  apply List.map_congr_left
  intro p _
  show f (if p < 0 then m else xs.getD p.toNat m) = if p < 0 then f m else (xs.map f).getD p.toNat (f m)
  by_cases c : p < 0
  · rw [if_pos c, if_pos c]
  · rw [if_neg c, if_neg c]
    simp [List.getD, List.getElem?_map]
theorem done_apply : ∀ (ps : List Int) (xs : List α) (m : α), (∀ p ∈ ps, p < 0 ∨ p.toNat < xs.length) → applyM ps xs (List.replicate (gapsM ps) m) = doneM ps xs m
  | [], _, _, _ => rfl
  | p :: ps, xs, m, h => by
    have ih := done_apply ps xs m fun q hq => h q (List.mem_cons_of_mem _ hq)
    rw [gaps_cons]
    by_cases c : p < 0
    · rw [if_pos c, show 1 + gapsM ps = gapsM ps + 1 by omega, List.replicate_succ, apply_neg c, ih]
      unfold doneM
      rw [List.map_cons, if_pos c]
    · have hl : p.toNat < xs.length := (h p List.mem_cons_self).resolve_left c
      rw [if_neg c, Nat.zero_add, apply_nonneg c (List.getElem?_eq_getElem hl), ih]
      unfold doneM
      rw [List.map_cons, if_neg c, getD_at (List.getElem?_eq_getElem hl)]
theorem done_prod {ps qs : List Int} (ok : MoveOk ps.length qs) (xs : List α) (m : α) : doneM (prodM ps qs) xs m = doneM qs (doneM ps xs m) m := by
  unfold prodM
  unfold doneM
  rw [List.map_map]
  apply List.map_congr_left
  intro q hq
  have b := ok.1 q hq
  show (if (if q < 0 then q else ps.getD q.toNat (-1)) < 0 then m else xs.getD (if q < 0 then q else ps.getD q.toNat (-1)).toNat m) = if q < 0 then m else _
  by_cases c : q < 0
  · rw [if_pos c, if_pos c, if_pos c]
  · have hl : q.toNat < ps.length := by omega
    rw [if_neg c, if_neg c, getD_of (List.getElem?_eq_getElem hl)]
    exact (getD_at (by rw [List.getElem?_map, List.getElem?_eq_getElem hl]; rfl)).symm
theorem ok_range {t : Nat} {ps : List Int} (ok : MoveOk t ps) : ∀ p ∈ ps, p < 0 ∨ p.toNat < t := fun p hp => by
  have b := ok.1 p hp
  by_cases c : p < 0
  · exact .inl c
  · exact .inr (by omega)
end
end MM

/-! plain mathematics of the sorting move -/
namespace MM
open SB
theorem tot_le (ks : Nat → Int) : PySem.W.TotalLe fun a b : Nat => decide (ks a ≤ ks b) where
  total a b := by
    by_cases h : ks a ≤ ks b
    · exact .inl (decide_eq_true h)
    · exact .inr (decide_eq_true (by omega))
  trans a b c h1 h2 := by
    have h1 := of_decide_eq_true h1
    have h2 := of_decide_eq_true h2
    exact decide_eq_true (by omega)
theorem sort_strict (n : Nat) (ks : Nat → Int) : ((List.range n).mergeSort fun a b => decide (ks a ≤ ks b)).Pairwise fun a b => ks a < ks b ∨ (ks a = ks b ∧ a < b) := by
  have h1 := PySem.W.sort_pairwise (tot_le ks) (List.range n)
  have h2 : ∀ c : Nat, ((List.range n).mergeSort fun a b => decide (ks a ≤ ks b)).Pairwise fun a b => PySem.W.sameRank (fun a b : Nat => decide (ks a ≤ ks b)) c a = true → PySem.W.sameRank (fun a b : Nat => decide (ks a ≤ ks b)) c b = true → a < b := fun c => by
    have e := PySem.W.sort_stable (tot_le ks) (List.range n) c
    have p : ((List.range n).filter (PySem.W.sameRank (fun a b : Nat => decide (ks a ≤ ks b)) c)).Pairwise (· < ·) := List.Pairwise.sublist List.filter_sublist (List.pairwise_lt_range (n := n))
    rw [← e] at p
    exact List.pairwise_filter.mp p
  rw [List.pairwise_iff_getElem] at h1 ⊢
  intro i j hi hj hij
  have a1 := of_decide_eq_true (h1 i j hi hj hij)
  have a2 := (List.pairwise_iff_getElem.mp (h2 (((List.range n).mergeSort fun a b => decide (ks a ≤ ks b))[i]))) i j hi hj hij
  by_cases c : ks ((List.range n).mergeSort fun a b => decide (ks a ≤ ks b))[i] < ks ((List.range n).mergeSort fun a b => decide (ks a ≤ ks b))[j]
  · exact .inl c
  · refine .inr ⟨by omega, a2 ?_ ?_⟩
    · unfold PySem.W.sameRank
      rw [Bool.and_eq_true]
      exact ⟨decide_eq_true (Int.le_refl _), decide_eq_true (Int.le_refl _)⟩
    · unfold PySem.W.sameRank
      rw [Bool.and_eq_true]
      exact ⟨decide_eq_true (by omega), decide_eq_true (by omega)⟩
theorem sortM_perm (n : Nat) (ks : Nat → Int) : (sortM n ks).Perm (stillM n) := (List.mergeSort_perm _ _).map _
theorem sortM_len (n : Nat) (ks : Nat → Int) : (sortM n ks).length = n := by rw [(sortM_perm n ks).length_eq, stillM_length]
theorem sortM_ok (n : Nat) (ks : Nat → Int) : MoveOk n (sortM n ks) := someOf_ok (b := []) (by unfold SomeOf; rw [List.append_nil]; exact sortM_perm n ks)
theorem sortM_pair {n : Nat} {ks : Nat → Int} {i j : Nat} {a b : Int} (hij : i < j) (ha : (sortM n ks)[i]? = some a) (hb : (sortM n ks)[j]? = some b) : ∃ x y : Nat, a = (x : Int) ∧ b = (y : Int) ∧ x < n ∧ y < n ∧ (ks x < ks y ∨ (ks x = ks y ∧ x < y)) := by
  unfold sortM at ha hb
  rw [List.getElem?_map] at ha hb
  have hi : i < ((List.range n).mergeSort fun a b => decide (ks a ≤ ks b)).length := by
    apply Classical.byContradiction
    intro c
    rw [List.getElem?_eq_none (by omega)] at ha
    cases ha
  have hj : j < ((List.range n).mergeSort fun a b => decide (ks a ≤ ks b)).length := by
    apply Classical.byContradiction
    intro c
    rw [List.getElem?_eq_none (by omega)] at hb
    cases hb
  rw [List.getElem?_eq_getElem hi] at ha
  rw [List.getElem?_eq_getElem hj] at hb
  have p := List.pairwise_iff_getElem.mp (sort_strict n ks) i j hi hj hij
  have m1 := List.mem_range.mp ((List.mergeSort_perm (List.range n) (fun a b => decide (ks a ≤ ks b))).mem_iff.mp (List.getElem_mem hi))
  have m2 := List.mem_range.mp ((List.mergeSort_perm (List.range n) (fun a b => decide (ks a ≤ ks b))).mem_iff.mp (List.getElem_mem hj))
  exact ⟨_, _, (Option.some.inj ha).symm, (Option.some.inj hb).symm, m1, m2, p⟩
/-- two rising lists of the same numbers are one -/
theorem rising_one : ∀ {a b : List Int}, a.Perm b → a.Pairwise (· ≤ ·) → b.Pairwise (· ≤ ·) → a = b
  | [], b, h, _, _ => (List.Perm.nil_eq h)
  | x :: a, [], h, _, _ => absurd (List.Perm.eq_nil h) (List.cons_ne_nil _ _)
  | x :: a, y :: b, h, ha, hb => by
    have h1 : x ∈ y :: b := h.mem_iff.mp List.mem_cons_self
    have h2 : y ∈ x :: a := h.mem_iff.mpr List.mem_cons_self
    have e : x = y := by
      rcases List.mem_cons.mp h1 with z | z
      · exact z
      · rcases List.mem_cons.mp h2 with z2 | z2
        · exact z2.symm
        · have a1 := (List.pairwise_cons.mp hb).1 x z
          have a2 := (List.pairwise_cons.mp ha).1 y z2
          omega
    subst e
    rw [rising_one (List.Perm.cons_inv h) (List.pairwise_cons.mp ha).2 (List.pairwise_cons.mp hb).2]
theorem still_rising (n : Nat) : (stillM n).Pairwise (· ≤ ·) := by
  unfold stillM
  rw [List.pairwise_map]
  exact List.Pairwise.imp (fun {a b : Nat} (h : a < b) => by omega) (List.pairwise_lt_range (n := n))
def keyM (d : Bool) (xs : List Int) (i : Nat) : Int := (if d = true then -1 else 1) * xs.getD i 0
/-- the values in their new order -/
theorem apply_sort {xs : List Int} {n : Nat} (hn : xs.length = n) : ∀ {ps : List Int}, (∀ p ∈ ps, 0 ≤ p ∧ p < (n : Int)) → applyM ps xs [] = ps.map fun p => xs.getD p.toNat 0
  | [], _ => rfl
  | p :: ps, h => by
    have hp := h p List.mem_cons_self
    have hl : p.toNat < xs.length := by omega
    rw [apply_nonneg (by omega) (List.getElem?_eq_getElem hl), apply_sort hn fun q hq => h q (List.mem_cons_of_mem _ hq), List.map_cons]
    congr 1
    simp [hl]
theorem still_getD (xs : List Int) : (stillM xs.length).map (fun p => xs.getD p.toNat 0) = xs := by
  unfold stillM
  rw [List.map_map]
  apply List.ext_getElem?
  intro i
  rw [List.getElem?_map]
  by_cases h : i < xs.length
  · rw [List.getElem?_range h, List.getElem?_eq_getElem h]
    simp [h]
  · rw [List.getElem?_eq_none (by rw [List.length_range]; omega), List.getElem?_eq_none (by omega)]
    rfl
theorem sort_apply {xs ys : List Int} (h1 : ys.Perm xs) (h2 : ys.Pairwise (· ≤ ·)) : applyM (sortM xs.length (keyM false xs)) xs [] = ys := by
  have hr : ∀ p ∈ sortM xs.length (keyM false xs), 0 ≤ p ∧ p < (xs.length : Int) := fun p hp => still_mem.mp ((sortM_perm _ _).mem_iff.mp hp)
  rw [apply_sort rfl hr]
  refine rising_one ?_ ?_ h2
  · have := (sortM_perm xs.length (keyM false xs)).map fun p => xs.getD p.toNat 0
    rw [still_getD] at this
    exact this.trans h1.symm
  · rw [List.pairwise_map, List.pairwise_iff_getElem]
    intro i j hi hj hij
    obtain ⟨x, y, e1, e2, hx, hy, c⟩ := sortM_pair hij (List.getElem?_eq_getElem hi) (List.getElem?_eq_getElem hj)
    rw [e1, e2, Int.toNat_natCast, Int.toNat_natCast]
    unfold keyM at c
    simp only [Bool.false_eq_true, if_false, Int.one_mul] at c
    omega
end MM

namespace MM
/-! rows put in, rows left out -/
section
variable {α : Type}
theorem gaps_append (a b : List Int) : gapsM (a ++ b) = gapsM a + gapsM b := by
  unfold gapsM
  rw [List.filter_append, List.length_append]
theorem gaps_none {a : List Int} (h : ∀ p ∈ a, 0 ≤ p) : gapsM a = 0 := by
  unfold gapsM
  rw [List.length_eq_zero_iff, List.filter_eq_nil_iff]
  intro p hp
  have := h p hp
  simp
  omega
theorem gaps_rep (g : Nat) : gapsM (List.replicate g (-1)) = g := by
  induction g with
  | zero => rfl
  | succ g ih =>
    rw [List.replicate_succ, gaps_cons, ih, if_pos (by decide)]
    omega
theorem apply_cons (p : Int) (ps : List Int) (xs ys : List α) : applyM (p :: ps) xs ys = if p < 0 then ys.take 1 ++ applyM ps xs (ys.drop 1) else (xs[p.toNat]?).toList ++ applyM ps xs ys := rfl
theorem apply_append : ∀ (a b : List Int) (xs ys : List α), applyM (a ++ b) xs ys = applyM a xs ys ++ applyM b xs (ys.drop (gapsM a))
  | [], b, xs, ys => by simp [applyM, gapsM]
  | p :: a, b, xs, ys => by
    show applyM (p :: (a ++ b)) xs ys = _
    rw [apply_cons, apply_cons, gaps_cons]
    by_cases c : p < 0
    · rw [if_pos c, if_pos c, if_pos c, apply_append a b xs (ys.drop 1), List.append_assoc, List.drop_drop]
    · rw [if_neg c, if_neg c, if_neg c, apply_append a b xs ys, List.append_assoc, Nat.zero_add]
theorem apply_rep : ∀ (g : Nat) (xs ys : List α), applyM (List.replicate g (-1)) xs ys = ys.take g
  | 0, _, _ => by simp [applyM]
  | g + 1, xs, [] => by
    rw [List.replicate_succ, apply_cons, if_pos (by decide), apply_rep g]
    simp
  | g + 1, xs, y :: ys => by
    rw [List.replicate_succ, apply_neg (by decide), apply_rep g]
    rfl
theorem apply_nats : ∀ (is : List Nat) (xs ys : List α), applyM (is.map fun i : Nat => (i : Int)) xs ys = is.filterMap fun i => xs[i]?
  | [], _, _ => rfl
  | i :: is, xs, ys => by
    rw [List.map_cons, apply_cons, if_neg (by omega), apply_nats is xs ys, Int.toNat_natCast, List.filterMap_cons]
    cases xs[i]? <;> rfl
theorem range_get : ∀ (m : Nat) (xs : List α), (List.range m).filterMap (fun i => xs[i]?) = xs.take m
  | 0, _ => by simp
  | m + 1, xs => by
    rw [List.range_succ, List.filterMap_append, range_get m xs, List.take_add_one]
    congr 1
theorem still_take (t j : Nat) : (stillM t).take j = (List.range (min j t)).map fun i : Nat => (i : Int) := by
  unfold stillM
  rw [← List.map_take, List.take_range]
theorem apply_take (t j : Nat) (xs ys : List α) (h : j ≤ t) : applyM ((stillM t).take j) xs ys = xs.take j := by
  rw [still_take, apply_nats, range_get, Nat.min_eq_left h]
theorem apply_still {t : Nat} {xs ys : List α} (h : xs.length = t) : applyM (stillM t) xs ys = xs := by
  unfold stillM
  rw [apply_nats, range_get, ← h, List.take_length]
theorem still_nonneg {t : Nat} : ∀ p ∈ stillM t, 0 ≤ p := fun p hp => (still_mem.mp hp).1
theorem apply_drop {t j : Nat} {xs ys : List α} (h : j ≤ t) (hx : xs.length = t) : applyM ((stillM t).drop j) xs ys = xs.drop j := by
  have e := apply_append ((stillM t).take j) ((stillM t).drop j) xs ys
  rw [List.take_append_drop, apply_still hx, apply_take t j xs ys h, gaps_none (fun p hp => still_nonneg p (List.mem_of_mem_take hp)), List.drop_zero] at e
  have e2 : xs.take j ++ xs.drop j = xs.take j ++ applyM ((stillM t).drop j) xs ys := by rw [List.take_append_drop]; exact e
  exact (List.append_cancel_left e2).symm
/-- g gaps ahead of place j -/
def addM (t j g : Nat) : List Int := (stillM t).take j ++ List.replicate g (-1) ++ (stillM t).drop j
theorem gaps_add (t j g : Nat) : gapsM (addM t j g) = g := by
  unfold addM
  rw [gaps_append, gaps_append, gaps_rep, gaps_none (fun p hp => still_nonneg p (List.mem_of_mem_take hp)), gaps_none (fun p hp => still_nonneg p (List.mem_of_mem_drop hp))]
  omega
theorem apply_add {t j g : Nat} {xs ys : List α} (h : j ≤ t) (hx : xs.length = t) (hy : ys.length = g) : applyM (addM t j g) xs ys = xs.take j ++ ys ++ xs.drop j := by
  unfold addM
  rw [apply_append, apply_append, apply_take t j xs ys h, apply_rep, apply_drop h hx, gaps_none (fun p hp => still_nonneg p (List.mem_of_mem_take hp)), List.drop_zero, List.take_of_length_le (l := ys) (by omega)]
theorem add_ok {t j : Nat} (h : j ≤ t) : ∀ g : Nat, MoveOk t (addM t j g)
  | 0 => by
    unfold addM
    rw [List.replicate_zero, List.append_nil, List.take_append_drop]
    exact still_ok t
  | g + 1 => by
    have z := ok_insert (add_ok h g) j
    have l : ((stillM t).take j).length = j := by rw [List.length_take, stillM_length]; omega
    have e1 : (addM t j g).take j = (stillM t).take j := by
      unfold addM
      rw [List.append_assoc, List.take_append_of_le_length (by omega), List.take_of_length_le (by omega)]
    have e2 : (addM t j g).drop j = List.replicate g (-1) ++ (stillM t).drop j := by
      unfold addM
      rw [List.append_assoc, List.drop_append_of_le_length (by omega), List.drop_of_length_le (by omega), List.nil_append]
    rw [e1, e2] at z
    unfold addM
    rw [List.replicate_succ]
    simpa using z
theorem add_length {t j g : Nat} (h : j ≤ t) : (addM t j g).length = t + g := by
  unfold addM
  rw [List.length_append, List.length_append, List.length_take, List.length_drop, List.length_replicate, stillM_length]
  omega
/-- the places that are not gone -/
def dropM (t : Nat) (gone : List Int) : List Int := (stillM t).filter fun i => !decide (i ∈ gone)
theorem drop_nonneg {t : Nat} {gone : List Int} : ∀ p ∈ dropM t gone, 0 ≤ p ∧ p < (t : Int) := fun p hp => still_mem.mp ((List.mem_filter.mp hp).1)
theorem drop_length {t : Nat} {gone : List Int} : (dropM t gone).length ≤ t := Nat.le_trans (List.length_filter_le _ _) (by rw [stillM_length]; exact Nat.le_refl _)
theorem ok_filter {t : Nat} (p : Int → Bool) : MoveOk t ((stillM t).filter p) := by
  obtain ⟨h1, h2⟩ := still_ok t
  exact ⟨fun q hq => h1 q ((List.mem_filter.mp hq).1), h2.filter _⟩
theorem apply_mem {x : α} : ∀ {ps : List Int} {xs ys : List α}, x ∈ applyM ps xs ys → x ∈ xs ∨ x ∈ ys
  | [], _, _, h => nomatch h
  | p :: ps, xs, ys, h => by
    rw [apply_cons] at h
    by_cases c : p < 0
    · rw [if_pos c] at h
      rcases List.mem_append.mp h with z | z
      · exact .inr (List.mem_of_mem_take z)
      · exact (apply_mem z).imp id List.mem_of_mem_drop
    · rw [if_neg c] at h
      rcases List.mem_append.mp h with z | z
      · refine .inl ?_
        cases e : xs[p.toNat]? with
        | none => rw [e] at z; cases z
        | some y =>
          rw [e] at z
          rw [List.mem_singleton.mp (show x ∈ [y] from z)]
          exact List.mem_of_getElem? e
      · exact apply_mem z
theorem apply_snoc {p : Int} {a : List Int} {xs : List α} {x : α} (h : 0 ≤ p) (hx : xs[p.toNat]? = some x) : applyM (a ++ [p]) xs [] = applyM a xs [] ++ [x] := by
  rw [apply_append, apply_nonneg (by omega) hx]
  rfl
end
end MM

namespace MV
open PySem PySem.Spec PyProof.Rows L2 SB
local macro_rules | `(tactic| walk_at "rd") => `(tactic| repeat (first | (refine ⟨_, rfl, ?_⟩) | (refine ⟨_, _, rfl, rfl, ?_⟩)))
def top (i : Nat) : Stmt := PySem.Challenge.pw_sidelists_k76_attempts.main.body.getD i (.Pass ⟨0, 0, 0, 0⟩)
abbrev s_bag : Stmt := top 30
abbrev s_take : Stmt := top 31
/-- the built-ins that the text calls -/
structure Blt (mg : Str → Option Value) : Prop where
  n_len : mg "len" = none
  n_abs : mg "abs" = none
  n_int : mg "int" = none
  n_range : mg "range" = none
  n_list : mg "list" = none
  n_tuple : mg "tuple" = none
  n_str : mg "str" = none
  n_max : mg "max" = none
  n_min : mg "min" = none
  n_enumerate : mg "enumerate" = none
  n_isinstance : mg "isinstance" = none
/-- a source of draws that was asked at most n times -/
def BagL (l : List V) (n : Nat) : Prop := ∃ d m c : Int, l = [.int d, .int m, .int c] ∧ 0 ≤ m ∧ m ≤ 12000000000000000000 ∧ 0 ≤ c ∧ c ≤ (n : Int)
theorem BagL.mono {l : List V} {n k : Nat} (h : BagL l n) (hk : n ≤ k) : BagL l k := by
  obtain ⟨d, m, c, e, h1, h2, h3, h4⟩ := h
  exact ⟨d, m, c, e, h1, h2, h3, by omega⟩
def BagAt (H : Hp) (b : Addr) (n : Nat) : Prop := ∃ l, H b = some (.lst l) ∧ BagL l n
def spBag (K : PySem.W.Frag) : Sp := fun vs H Q _ => ∃ (a : Addr) (ns : List Int) (i : Int), vs = [.ref a, .int i] ∧ SqL K H a (ns.map V.int) ∧ 0 ≤ i ∧ i ≤ 100 ∧ ns.length ≤ 1000 ∧
  ∀ (b : Addr) (l : List V), H b = none → BagL l 0 → Q (.ref b) (upd H b (.lst l))
def spTake : Sp := fun vs H Q _ => ∃ (b : Addr) (many : Int) (l : List V) (n : Nat), vs = [.ref b, .int many] ∧ H b = some (.lst l) ∧ BagL l n ∧ n < 1000000 ∧ 0 < many ∧ many < 2 ^ 200 ∧
  ∀ (r : Int) (l' : List V), 0 ≤ r → r < many → BagL l' (n + 1) → Q (.int r) (upd H b (.lst l'))
section
variable {P : Program} {w : World} {K : PySem.W.Frag} {mg : Str → Option Value} {base : Heap}
theorem sc_bag : FnScope ["_law_script", "_law_number_here", "_law_cell", "_law_digits"] ["_law_script", "_law_number_here"] (defScope s_bag) := ⟨rfl, rfl, rfl, by decide +kernel, rfl, by decide +kernel, by decide +kernel⟩
theorem ok_bag {f : Addr} {fd : FuncData} (F : Fun K "_law_bag" "_law_bag" s_bag f fd) (T : Blt mg) : FnR P w K mg base CX0 1 f (spBag K) := by
  refine fnr F sc_bag (fun vs H Q E h => ?_) (fun _ _ _ _ _ _ us hl => match us, hl with | [_, _], _ => rfl) (fun cdv A outer s H vs Q E hr h => ?_)
  · obtain ⟨a, ns, i, rfl, _⟩ := h
    rfl
  · obtain ⟨a, ns, i, rfl, hS, h0, h1, hz, k⟩ := h
    refine ⟨_, (C8.pss_cut (ps_set (i := 2) sc_bag.nd rfl (Or.inl rfl) (pe_ifExp (pt_cmpR op_lt (pv 1) (pe_callB call_len_seq (by rfl) T.n_len (by decide +kernel) (pa_cons (pv 0) pa_nil)) (nomark _)) (pe_ix ix_list (pv 0) (pv 1) (fun _ _ => rfl)) pe_int))
      (C8.pss_cut (ps_set (i := 3) sc_bag.nd rfl (Or.inl rfl) (pe_ifExp (pt_cmpR op_ge (pe_callB call_abs (by rfl) T.n_abs (by decide +kernel) (pa_cons (pv 2) pa_nil)) (pe_op op_pow pe_int pe_int) (nomark _)) (pe_callB call_abs (by rfl) T.n_abs (by decide +kernel) (pa_cons (pv 2) pa_nil)) pe_int))
      (pss_one (ps_ret (pe_lst (pa_cons (pv 3) (pa_cons (pe_op op_add (pe_op op_add (pe_op op_mul (pe_op op_mod (pe_callTy call_int1 (by rfl) T.n_int (by decide +kernel) (pa_cons (pv 2) pa_nil)) pe_int) pe_int) (pe_op op_mul pe_int (pv 1))) pe_int) (pa_cons pe_int pa_nil)))))))), ?_⟩
    refine ⟨fun σ' H' => ∃ z : Int, σ' = [some (.ref a), some (.int i), some (.int z), none] ∧ H' = H, ?_, ?_⟩
    · walk_at "rd"
      refine ⟨a, _, rfl, .inl hS, ?_⟩
      walk_at "rd"
      refine ite2 (fun c => ?_) (fun c => ?_)
      · have c' : i < (ns.length : Int) := by simpa using of_decide_eq_true c
        walk_at "rd"
        have hj : i.toNat < ns.length := by omega
        refine ⟨a, _, i, .int ns[i.toNat], rfl, rfl, hS, at_of (j := i.toNat) (by omega) (by rw [List.getElem?_map, List.getElem?_eq_getElem hj]; rfl), ?_⟩
        exact ⟨_, rfl, rfl⟩
      · exact ⟨0, rfl, rfl⟩
    · rintro σ' H' ⟨z, rfl, rfl⟩
      refine ⟨fun σ' H'' => ∃ d : Int, σ' = [some (.ref a), some (.int i), some (.int z), some (.int d)] ∧ H'' = H', ?_, ?_⟩
      · walk_at "rd"
        refine ⟨⟨by decide, by decide, by decide⟩, ?_⟩
        walk_at "rd"
        refine ite2 (fun c => ?_) (fun c => ?_)
        · walk_at "rd"
          rfl
        · exact ⟨0, rfl, rfl⟩
      · rintro σ' H'' ⟨d, rfl, rfl⟩
        walk_at "rd"
        refine .inl ⟨_, rfl, ?_⟩
        walk_at "rd"
        refine ⟨(by show (0 : Int) < 2305843009213693951; decide), ?_⟩
        walk_at "rd"
        refine ⟨.inr ⟨by decide, by decide⟩, ?_⟩
        walk_at "rd"
        refine ⟨.inl ⟨by decide, by decide⟩, ?_⟩
        walk_at "rd"
        have z0 : 0 ≤ z % 2305843009213693951 := Int.emod_nonneg _ (by decide)
        have z1 : z % 2305843009213693951 < 2305843009213693951 := Int.emod_lt_of_pos _ (by decide)
        refine ⟨by show 3 ≤ sizeLine; decide, fun p hp => k p _ hp ⟨_, _, _, rfl, ?_, ?_, ?_, ?_⟩⟩
        all_goals omega
theorem sc_take : FnScope ["_law_bag_here", "_law_many", "_law_digit", "_law_mixed"] ["_law_bag_here", "_law_many"] (defScope s_take) := ⟨rfl, rfl, rfl, by decide +kernel, rfl, by decide +kernel, by decide +kernel⟩
theorem ok_take {f : Addr} {fd : FuncData} (F : Fun K "_law_take" "_law_take" s_take f fd) (T : Blt mg) : FnR P w K mg base CX0 1 f spTake := by
  refine fnr F sc_take (fun vs H Q E h => ?_) (fun _ _ _ _ _ _ us hl => match us, hl with | [_, _], _ => rfl) (fun cdv A outer s H vs Q E hr h => ?_)
  · obtain ⟨a, ns, i, _, rfl, _⟩ := h
    rfl
  · obtain ⟨b, many, l, n, rfl, hb, ⟨d, m, c, rfl, m0, m1, c0, c1⟩, hn, hm0, hm1, k⟩ := h
    refine ⟨_, (pss_cons (ps_if (pt_cmpR op_gt (pe_ix ix_list (pv 0) pe_int (fun _ _ => rfl)) pe_int (nomark _)) (pss_cons (ps_set (i := 2) sc_take.nd rfl (Or.inl rfl) (pe_op op_mod (pe_callTy call_int1 (by rfl) T.n_int (by decide +kernel) (pa_cons (pe_ix ix_list (pv 0) pe_int (fun _ _ => rfl)) pa_nil)) (pv 1)))
        (pss_cons (ps_asg (pe_op op_fdivW (pe_ix ix_list (pv 0) pe_int (fun _ _ => rfl)) (pv 1)) (pg_sub (pv 0) pe_int set_list))
        (pss_one (ps_ret (pv 2))))) pss_nil)
      (pss_cons (ps_asg (pe_op op_add (pe_ix ix_list (pv 0) pe_int (fun _ _ => rfl)) pe_int) (pg_sub (pv 0) pe_int set_list))
      (pss_cons (ps_set (i := 3) sc_take.nd rfl (Or.inl rfl) (pe_op op_mod (pe_callTy call_int1 (by rfl) T.n_int (by decide +kernel) (pa_cons (pe_op op_pow (pe_op op_add (pe_ix ix_list (pv 0) pe_int (fun _ _ => rfl)) (pe_op op_mul pe_int (pe_ix ix_list (pv 0) pe_int (fun _ _ => rfl)))) pe_int) pa_nil)) pe_int))
      (pss_cons (ps_set (i := 3) sc_take.nd rfl (Or.inl rfl) (pe_op op_mod (pe_callTy call_int1 (by rfl) T.n_int (by decide +kernel) (pa_cons (pe_op op_pow (pe_op op_add (pv 3) (pe_op op_mul pe_int (pe_ix ix_list (pv 0) pe_int (fun _ _ => rfl)))) pe_int) pa_nil)) pe_int))
      (pss_one (ps_ret (pe_op op_mod (pe_callTy call_int1 (by rfl) T.n_int (by decide +kernel) (pa_cons (pe_op op_fdiv (pv 3) pe_int) pa_nil)) (pv 1)))))))), ?_⟩
    have hq := SqL.of (K := K) hb
    walk_at "rd"
    refine ⟨b, _, _, _, rfl, rfl, hq, rfl, ?_⟩
    walk_at "rd"
    refine ite2 (fun g => ?_) (fun g => ?_)
    · walk_at "rd"
      refine ⟨b, _, _, _, rfl, rfl, hq, rfl, ?_⟩
      refine .inl ⟨_, rfl, ?_⟩
      walk_at "rd"
      refine ⟨hm0, ?_⟩
      walk_at "rd"
      refine ⟨b, _, _, _, rfl, rfl, hq, rfl, ?_⟩
      walk_at "rd"
      refine ⟨wide_div (b := 200) hm0 (by omega) (by decide) (by decide), ?_⟩
      walk_at "rd"
      refine ⟨b, _, _, 0, rfl, rfl, hb, rfl, ?_⟩
      walk_at "rd"
      exact k _ _ (Int.emod_nonneg _ (by omega)) (Int.emod_lt_of_pos _ hm0) ⟨_, m, c, rfl, m0, m1, c0, by omega⟩
    · walk_at "rd"
      refine ⟨b, _, _, _, rfl, rfl, hq, rfl, ?_⟩
      walk_at "rd"
      refine ⟨b, _, _, 2, rfl, rfl, hb, rfl, ?_⟩
      have hb2 : (upd H b (.lst [.int d, .int m, .int (c + 1)])) b = some (.lst [.int d, .int m, .int (c + 1)]) := upd_same
      have hq2 := SqL.of (K := K) hb2
      walk_at "rd"
      refine ⟨b, _, _, _, rfl, rfl, hq2, rfl, ?_⟩
      walk_at "rd"
      refine ⟨b, _, _, _, rfl, rfl, hq2, rfl, ?_⟩
      walk_at "rd"
      refine ⟨.inl ⟨by decide, by decide⟩, ?_⟩
      walk_at "rd"
      refine ⟨⟨by decide, by decide, by omega⟩, ?_⟩
      refine .inl ⟨_, rfl, ?_⟩
      walk_at "rd"
      refine ⟨(by show (0 : Int) < 2305843009213693921; decide), ?_⟩
      walk_at "rd"
      refine ⟨b, _, _, _, rfl, rfl, hq2, rfl, ?_⟩
      walk_at "rd"
      refine ⟨.inl ⟨by decide, by decide⟩, ?_⟩
      walk_at "rd"
      have y0 := Int.emod_nonneg ((m + 1000081 * (c + 1)) ^ 3) (show (2305843009213693921 : Int) ≠ 0 by decide)
      have y1 := Int.emod_lt_of_pos ((m + 1000081 * (c + 1)) ^ 3) (show (0 : Int) < 2305843009213693921 by decide)
      refine ⟨⟨by decide, by decide, (by show ((m + 1000081 * (c + 1)) ^ 3 % 2305843009213693921 + 15485863 * (c + 1)).natAbs < 2 ^ 64; omega)⟩, ?_⟩
      refine .inl ⟨_, rfl, ?_⟩
      walk_at "rd"
      refine ⟨(by show (0 : Int) < 2305843009213693951; decide), ?_⟩
      walk_at "rd"
      refine ⟨⟨by decide, by decide⟩, ?_⟩
      refine .inl ⟨_, rfl, ?_⟩
      walk_at "rd"
      refine ⟨hm0, ?_⟩
      exact k _ _ (Int.emod_nonneg _ (by omega)) (Int.emod_lt_of_pos _ hm0) ⟨_, m, c + 1, rfl, m0, m1, by omega, by omega⟩
end
end MV

namespace MV
open PySem PySem.Spec PyProof.Rows L2 SB MM
local macro_rules | `(tactic| walk_at "rd") => `(tactic| repeat (first | (refine ⟨_, rfl, ?_⟩) | (refine ⟨_, _, rfl, rfl, ?_⟩) | (refine ⟨_, _, rfl, ?_⟩) | (refine ⟨rfl, ?_⟩)))
abbrev s_of : Stmt := top 32
/-- one of some values -/
def spOf (K : PySem.W.Frag) : Sp := fun vs H Q _ => ∃ (b p : Addr) (l xs : List V) (n : Nat), vs = [.ref b, .ref p] ∧ H b = some (.lst l) ∧ BagL l n ∧ n < 1000000 ∧ H p = some (.lst xs) ∧ p ≠ b ∧ 0 < xs.length ∧ xs.length ≤ 100000 ∧
  ∀ (j : Nat) (x : V) (l' : List V), xs[j]? = some x → BagL l' (n + 1) → Q x (upd H b (.lst l'))
section
variable {P : Program} {w : World} {K : PySem.W.Frag} {mg : Str → Option Value} {base : Heap}
theorem sc_of : FnScope ["_law_bag_here", "_law_some"] ["_law_bag_here", "_law_some"] (defScope s_of) := ⟨rfl, rfl, rfl, by decide +kernel, rfl, by decide +kernel, by decide +kernel⟩
theorem ok_of {f : Addr} {fd : FuncData} (F : Fun K "_law_of" "_law_of" s_of f fd) (T : Blt mg) (Dtake : Cl P w K mg base CX0 1 "_law_take" spTake) : FnR P w K mg base CX0 2 f (spOf K) := by
  refine fnr F sc_of (fun vs H Q E h => ?_) (fun _ _ _ _ _ _ us hl => match us, hl with | [_, _], _ => rfl) (fun cdv A outer s H vs Q E hr h => ?_)
  · obtain ⟨b, p, l, xs, n, rfl, _⟩ := h
    rfl
  · obtain ⟨b, p, l, xs, n, rfl, hb, hl, hn, hp, npb, h0, hz, k⟩ := h
    refine ⟨_, (pss_one (ps_ret (pe_ix ix_list (pv 1) (by exact (pe_cl Dtake hr (by decide) (by rfl) pass0 (pa_cons (pv 0) (pa_cons (pe_callB call_len_seq (by rfl) T.n_len (by decide +kernel) (pa_cons (pv 1) pa_nil)) pa_nil)))) (fun _ _ => rfl)))), ?_⟩
    walk_at "rd"
    refine ⟨p, xs, rfl, .inl (SqL.of hp), ?_⟩
    refine ⟨b, _, l, n, rfl, hb, hl, hn, by omega, by omega, fun r l' r0 r1 hl' => ?_⟩
    have hj : r.toNat < xs.length := by omega
    refine ⟨p, xs, r, xs[r.toNat], rfl, rfl, SqL.of (by rw [upd_ne npb]; exact hp), at_of (j := r.toNat) (by omega) (List.getElem?_eq_getElem hj), ?_⟩
    exact k r.toNat _ l' (List.getElem?_eq_getElem hj) hl'
end
end MV

namespace MV
open PySem PySem.Spec PyProof.Rows L2 SB MM
local macro_rules | `(tactic| walk_at "rd") => `(tactic| repeat (first | (refine ⟨_, rfl, ?_⟩) | (refine ⟨_, _, rfl, rfl, ?_⟩) | (refine ⟨_, _, rfl, ?_⟩) | (refine ⟨rfl, ?_⟩)))
abbrev s_count : Stmt := top 33
def spCount : Sp := fun vs H Q _ => ∃ (b : Addr) (most : Nat) (l : List V) (n : Nat), vs = [.ref b, .int (most : Int)] ∧ H b = some (.lst l) ∧ BagL l n ∧ n + 2 < 1000000 ∧ most ≤ 100000 ∧
  ∀ (r : Nat) (l' : List V), (r ≤ 6 ∨ r ≤ most) → BagL l' (n + 2) → Q (.int (r : Int)) (upd H b (.lst l'))
section
variable {P : Program} {w : World} {K : PySem.W.Frag} {mg : Str → Option Value} {base : Heap}
theorem sc_count : FnScope ["_law_bag_here", "_law_most"] ["_law_bag_here", "_law_most"] (defScope s_count) := ⟨rfl, rfl, rfl, by decide +kernel, rfl, by decide +kernel, by decide +kernel⟩
theorem ok_count {f : Addr} {fd : FuncData} (F : Fun K "_law_count" "_law_count" s_count f fd) (T : Blt mg) (Dtake : Cl P w K mg base CX0 1 "_law_take" spTake) : FnR P w K mg base CX0 2 f spCount := by
  refine fnr F sc_count (fun vs H Q E h => ?_) (fun _ _ _ _ _ _ us hl => match us, hl with | [_, _], _ => rfl) (fun cdv A outer s H vs Q E hr h => ?_)
  · obtain ⟨b, most, l, n, rfl, _⟩ := h
    rfl
  · obtain ⟨b, most, l, n, rfl, hb, hl, hn, hm, k⟩ := h
    refine ⟨_, (pss_one (ps_ret (pe_ifExp (pt_cmpR op_lt (pe_cl Dtake hr (by decide) (by rfl) pass0 (pa_cons (pv 0) (pa_cons pe_int pa_nil))) pe_int (nomark _)) (pe_cl Dtake hr (by decide) (by rfl) pass0 (pa_cons (pv 0) (pa_cons pe_int pa_nil))) (pe_cl Dtake hr (by decide) (by rfl) pass0 (pa_cons (pv 0) (pa_cons (pe_op op_add (pv 1) pe_int) pa_nil)))))), ?_⟩
    walk_at "rd"
    refine ⟨b, 4, l, n, rfl, hb, hl, by omega, by decide, by decide, fun r l1 r0 r1 hl1 => ?_⟩
    walk_at "rd"
    refine ite2 (fun c => ?_) (fun c => ?_)
    · walk_at "rd"
      refine ⟨b, 7, l1, n + 1, rfl, upd_same, hl1, by omega, by decide, by decide, fun r2 l2 h0 h1 hl2 => ?_⟩
      rw [upd_upd]
      obtain ⟨m, rfl⟩ : ∃ m : Nat, r2 = (m : Int) := ⟨r2.toNat, by omega⟩
      exact k m l2 (.inl (by omega)) hl2
    · walk_at "rd"
      refine ⟨b, _, l1, n + 1, rfl, upd_same, hl1, by omega, by omega, by omega, fun r2 l2 h0 h1 hl2 => ?_⟩
      rw [upd_upd]
      obtain ⟨m, rfl⟩ : ∃ m : Nat, r2 = (m : Int) := ⟨r2.toNat, by omega⟩
      exact k m l2 (.inr (by omega)) hl2
end
end MV

namespace MV
open PySem PySem.Spec PyProof.Rows L2 SB
local macro_rules | `(tactic| walk_at "rd") => `(tactic| repeat (first | (refine ⟨_, rfl, ?_⟩) | (refine ⟨_, _, rfl, rfl, ?_⟩) | (refine ⟨_, _, rfl, ?_⟩) | (refine ⟨rfl, ?_⟩)))
abbrev s_name : Stmt := top 34
/-- a letter of a text, drawn -/
def spOfS : Sp := fun vs H Q _ => ∃ (b : Addr) (z : Str) (l : List V) (n : Nat), vs = [.ref b, .str z] ∧ H b = some (.lst l) ∧ BagL l n ∧ n < 1000000 ∧ 0 < z.length ∧ z.length ≤ 1000 ∧
  ∀ (c : Nat) (l' : List V), c ∈ z.cps.toList → BagL l' (n + 1) → Q (.str ⟨#[c]⟩) (upd H b (.lst l'))
def firstL : List Nat := [104, 106, 113, 117, 118, 119, 120, 121, 122]
def Low (c : Nat) : Prop := 97 ≤ c ∧ c ≤ 122
/-- a drawn name -/
def NmOk (z : Str) : Prop := ∃ (c : Nat) (cs : List Nat), z.cps.toList = c :: cs ∧ c ∈ firstL ∧ (∀ d ∈ c :: cs, Low d) ∧ cs.length ≤ 7
def spName : Sp := fun vs H Q _ => ∃ (b : Addr) (l : List V) (n : Nat), vs = [.ref b] ∧ H b = some (.lst l) ∧ BagL l n ∧ n + 10 < 1000000 ∧ ∀ (z : Str) (l' : List V), NmOk z → BagL l' (n + 10) → Q (.str z) (upd H b (.lst l'))
theorem len_cps (z : Str) : z.cps.toList.length = z.length := by simp [Str.length]
theorem app_cps (a b : Str) : (a ++ b).cps.toList = a.cps.toList ++ b.cps.toList := by
  show (a.cps ++ b.cps).toList = _
  rw [Array.toList_append]
theorem str_ext {a b : Str} (h : a.cps.toList = b.cps.toList) : a = b := by
  cases a
  cases b
  congr 1
  exact Array.toList_inj.mp h
theorem NmOk.len {z : Str} (h : NmOk z) : 1 ≤ z.length ∧ z.length ≤ 8 := by
  obtain ⟨c, cs, e, _, _, hl⟩ := h
  rw [← len_cps, e, List.length_cons]
  omega
section
variable {P : Program} {w : World} {K : PySem.W.Frag} {mg : Str → Option Value} {base : Heap}
theorem sc_name : FnScope ["_law_bag_here", "_law_word", "_law_turn"] ["_law_bag_here"] (defScope s_name) := ⟨rfl, rfl, rfl, by decide +kernel, rfl, by decide +kernel, by decide +kernel⟩
theorem ok_name {f : Addr} {fd : FuncData} (F : Fun K "_law_name" "_law_name" s_name f fd) (T : Blt mg) (Dtake : Cl P w K mg base CX0 1 "_law_take" spTake) (DofS : Cl P w K mg base CX0 2 "_law_of" spOfS) : FnR P w K mg base CX0 3 f spName := by
  refine fnr F sc_name (fun vs H Q E h => ?_) (fun _ _ _ _ _ _ us hl => match us, hl with | [_], _ => rfl) (fun cdv A outer s H vs Q E hr h => ?_)
  · obtain ⟨b, l, n, rfl, _⟩ := h
    rfl
  · obtain ⟨b, l, n, rfl, hb, hl, hn, k⟩ := h
    refine ⟨_, (pss_cons (ps_set (i := 1) sc_name.nd rfl (Or.inl rfl) (pe_cl DofS hr (by decide) (by rfl) pass0 (pa_cons (pv 0) (pa_cons pe_str pa_nil))))
      (pss_cons (ps_for PassesOwn.never rfl (pi_range1 (by rfl) T.n_range (pa_cons (pe_cl Dtake hr (by decide) (by rfl) pass0 (pa_cons (pv 0) (pa_cons pe_int pa_nil))) pa_nil)) (pg_name (i := 2) sc_name.nd rfl (Or.inl rfl))
        (pss_one (ps_set (i := 1) sc_name.nd rfl (Or.inl rfl) (pe_op op_add_str (pv 1) (pe_cl DofS hr (by decide) (by rfl) pass0 (pa_cons (pv 0) (pa_cons pe_str pa_nil)))))))
      (pss_one (ps_ret (pv 1))))), ?_⟩
    walk_at "rd"
    refine ⟨b, "hjquvwxyz", l, n, rfl, hb, hl, by omega, by decide +kernel, by decide +kernel, fun c0 l1 hc0 hl1 => ?_⟩
    have hf : c0 ∈ firstL := by
      have e : (Str.ofString "hjquvwxyz").cps.toList = firstL := by decide +kernel
      rw [← e]
      exact hc0
    have hlow : Low c0 := by
      have := hf
      simp [firstL] at this
      unfold Low
      omega
    walk_at "rd"
    refine ⟨b, 8, l1, _, rfl, upd_same, hl1, by omega, by decide, by decide, fun r l2 r0 r1 hl2 => ?_⟩
    rw [upd_upd]
    obtain ⟨m, rfl⟩ : ∃ m : Nat, r = (m : Int) := ⟨r.toNat, by omega⟩
    refine ⟨_, rfl, by omega, by omega, ?_⟩
    rw [Int.toNat_natCast]
    refine for_it walk_range (fun i σ H' => ∃ (v2 : Option V) (z : Str) (cs : List Nat) (l' : List V), σ = [some (.ref b), some (.str z), v2] ∧ H' = upd H b (.lst l') ∧ BagL l' (n + 2 + i) ∧ z.cps.toList = c0 :: cs ∧ (∀ d ∈ cs, Low d) ∧ cs.length = i) ?_ (fun _ _ _ _ _ => trivial) ?_ ?_
    · exact ⟨none, ⟨#[c0]⟩, [], l2, rfl, rfl, hl2, rfl, (fun _ z => nomatch z), rfl⟩
    · rintro i x σ H0 H' hi ⟨v2, z, cs, l', rfl, rfl, hl', ez, hcs, hlen⟩ ⟨rfl, rfl⟩
      have zl : z.length = i + 1 := by rw [← len_cps, ez, List.length_cons, hlen]
      walk_at "rd"
      refine ⟨b, "abcdefghijklmnopqrstuvwxyz", l', _, rfl, upd_same, hl', by omega, by decide +kernel, by decide +kernel, fun c l3 hc hl3 => ?_⟩
      rw [upd_upd]
      have hlc : Low c := by
        have e : ∀ d ∈ (Str.ofString "abcdefghijklmnopqrstuvwxyz").cps.toList, 97 ≤ d ∧ d ≤ 122 := by decide +kernel
        exact e c hc
      walk_at "rd"
      refine ⟨by show z.length + 1 ≤ sizeLine; exact le_line (by omega), ?_⟩
      refine ⟨_, _, cs ++ [c], l3, rfl, rfl, hl3, ?_, fun d hd => ?_, by rw [List.length_append, hlen]; rfl⟩
      · rw [app_cps, ez]
        rfl
      · rcases List.mem_append.mp hd with h | h
        · exact hcs d h
        · rw [List.mem_singleton.mp h]
          exact hlc
    · rintro σ H' ⟨v2, z, cs, l', rfl, rfl, hl', ez, hcs, hlen⟩
      walk_at "rd"
      exact k z l' ⟨c0, cs, ez, hf, List.forall_mem_cons.mpr ⟨hlow, hcs⟩, by omega⟩ (hl'.mono (by omega))
end
end MV

namespace MV
open PySem PySem.Spec PyProof.Rows L2 SB
local macro_rules | `(tactic| walk_at "rd") => `(tactic| repeat (first | (refine ⟨_, rfl, ?_⟩) | (refine ⟨_, _, rfl, rfl, ?_⟩) | (refine ⟨_, _, rfl, ?_⟩) | (refine ⟨rfl, ?_⟩)))
section
variable {P : Program} {w : World} {K : PySem.W.Frag} {mg : Str → Option Value} {base : Heap}
theorem ok_ofS {f : Addr} {fd : FuncData} (F : Fun K "_law_of" "_law_of" s_of f fd) (T : Blt mg) (Dtake : Cl P w K mg base CX0 1 "_law_take" spTake) : FnR P w K mg base CX0 2 f spOfS := by
  refine fnr F sc_of (fun vs H Q E h => ?_) (fun _ _ _ _ _ _ us hl => match us, hl with | [_, _], _ => rfl) (fun cdv A outer s H vs Q E hr h => ?_)
  · obtain ⟨b, z, l, n, rfl, _⟩ := h
    rfl
  · obtain ⟨b, z, l, n, rfl, hb, hl, hn, h0, hz, k⟩ := h
    refine ⟨_, (pss_one (ps_ret (pe_ix ix_str (pv 1) (by exact (pe_cl Dtake hr (by decide) (by rfl) pass0 (pa_cons (pv 0) (pa_cons (pe_callB call_len_str (by rfl) T.n_len (by decide +kernel) (pa_cons (pv 1) pa_nil)) pa_nil)))) (fun _ _ => rfl)))), ?_⟩
    walk_at "rd"
    refine ⟨le_line (by omega), ?_⟩
    refine ⟨b, _, l, n, rfl, hb, hl, hn, by omega, by omega, fun r l' r0 r1 hl' => ?_⟩
    obtain ⟨j, rfl⟩ : ∃ j : Nat, r = (j : Int) := ⟨r.toNat, by omega⟩
    have hj : j < z.cps.toList.length := by rw [len_cps]; omega
    refine ⟨z, (j : Int), z.cps.toList[j], rfl, rfl, le_line (by omega), atI_nat (List.getElem?_eq_getElem hj), ?_⟩
    exact k _ l' (List.getElem_mem hj) hl'
end
end MV

namespace MV
open PySem PySem.Spec PyProof.Rows L2 SB
local macro_rules | `(tactic| walk_at "rd") => `(tactic| repeat (first | (refine ⟨_, rfl, ?_⟩) | (refine ⟨_, _, rfl, rfl, ?_⟩) | (refine ⟨_, _, rfl, ?_⟩) | (refine ⟨rfl, ?_⟩)))
abbrev s_number : Stmt := top 35
abbrev s_rows : Stmt := top 36
/-- a number of the document -/
def NumOk (i : Int) : Prop := 0 ≤ i ∧ i ≤ 10 ^ 30
def spNumber : Sp := fun vs H Q _ => ∃ (b : Addr) (l : List V) (n : Nat), vs = [.ref b] ∧ H b = some (.lst l) ∧ BagL l n ∧ n + 3 < 1000000 ∧ ∀ (i : Int) (l' : List V), NumOk i → BagL l' (n + 3) → Q (.int i) (upd H b (.lst l'))
/-- a row: the address of its tuple, its numbers -/
abbrev Row := Addr × List Int
def refR (r : Row) : V := .ref r.1
def RA (H : Hp) (rs : List Row) : Prop := ∀ r ∈ rs, H r.1 = some (.tup (r.2.map V.int))
def RowsOk (w : Nat) (rs : List Row) : Prop := ∀ r ∈ rs, r.2.length = w ∧ ∀ i ∈ r.2, NumOk i
theorem RA.same {H H' : Hp} {rs : List Row} (h : RA H rs) (e : Same H H') : RA H' rs := fun t ht => e _ _ (h t ht)
theorem RA.keep {H H' : Hp} {b : Addr} {l : List V} {rs : List Row} (h : RA H rs) (hb : H b = some (.lst l)) (e : KeepB b H H') : RA H' rs := fun t ht => e _ _ (h t ht) (ne_of (h t ht) hb (by intro z; cases z))
theorem RA.dp {K : PySem.W.Frag} {H : Hp} : ∀ {rs : List Row}, RA H rs → DpAll K H (rs.map refR) (rs.map fun r => PyData.tuple (r.2.map PyData.int))
  | [], _ => .nil
  | r :: rs, h => .cons (dp_intsT (SqT.of (h r List.mem_cons_self))) (RA.dp fun t ht => h t (List.mem_cons_of_mem _ ht))
theorem sh_rows (rs : List Row) : ∀ d ∈ rs.map (fun r : Row => PyData.tuple (r.2.map PyData.int)), Sh d := fun d hd => by
  obtain ⟨r, _, rfl⟩ := List.mem_map.mp hd
  exact (sh_seq (k := 0) (fun d hd => by
    obtain ⟨n, _, rfl⟩ := List.mem_map.mp hd
    exact ⟨rfl, Nat.le_refl _⟩) (by decide)).2
theorem RA.snoc {H : Hp} {rs : List Row} {r : Row} (h : RA H rs) (hr : H r.1 = some (.tup (r.2.map V.int))) : RA H (rs ++ [r]) := fun t ht => by
  rcases List.mem_append.mp ht with z | z
  · exact h t z
  · rw [List.mem_singleton.mp z]
    exact hr
theorem RowsOk.snoc {w : Nat} {rs : List Row} {r : Row} (h : RowsOk w rs) (hr : r.2.length = w ∧ ∀ i ∈ r.2, NumOk i) : RowsOk w (rs ++ [r]) := fun t ht => by
  rcases List.mem_append.mp ht with z | z
  · exact h t z
  · rw [List.mem_singleton.mp z]
    exact hr
def spRows : Sp := fun vs H Q _ => ∃ (b : Addr) (m wd : Nat) (l : List V) (n : Nat), vs = [.ref b, .int (m : Int), .int (wd : Int)] ∧ H b = some (.lst l) ∧ BagL l n ∧ n + m * 100 < 1000000 ∧ m ≤ 1000 ∧ wd ≤ 10 ∧
  ∀ (H' : Hp) (p : Addr) (l' : List V) (rs : List Row), KeepB b H H' → H' b = some (.lst l') → BagL l' (n + m * 100) → H p = none → H' p = some (.lst (rs.map refR)) → RA H' rs → RowsOk wd rs → rs.length = m → Q (.ref p) H'
section
variable {P : Program} {w : World} {K : PySem.W.Frag} {mg : Str → Option Value} {base : Heap}
theorem sc_number : FnScope ["_law_bag_here", "_law_sort"] ["_law_bag_here"] (defScope s_number) := ⟨rfl, rfl, rfl, by decide +kernel, rfl, by decide +kernel, by decide +kernel⟩
theorem ok_number {f : Addr} {fd : FuncData} (F : Fun K "_law_number" "_law_number" s_number f fd) (T : Blt mg) (Dtake : Cl P w K mg base CX0 1 "_law_take" spTake) : FnR P w K mg base CX0 2 f spNumber := by
  refine fnr F sc_number (fun vs H Q E h => ?_) (fun _ _ _ _ _ _ us hl => match us, hl with | [_], _ => rfl) (fun cdv A outer s H vs Q E hr h => ?_)
  · obtain ⟨b, l, n, rfl, _⟩ := h
    rfl
  · obtain ⟨b, l, n, rfl, hb, hl, hn, k⟩ := h
    have e9 : (10 : Int) ^ (Int.toNat 9) = 1000000000 := by decide
    have e15 : (10 : Int) ^ (Int.toNat 15) = 1000000000000000 := by decide
    have e30 : (10 : Int) ^ (Int.toNat 30) = 1000000000000000000000000000000 := by decide +kernel
    have m30 : (10 : Int) ^ 30 = 1000000000000000000000000000000 := by decide +kernel
    refine ⟨_, (pss_cons (ps_set (i := 1) sc_number.nd rfl (Or.inl rfl) (pe_cl Dtake hr (by decide) (by rfl) pass0 (pa_cons (pv 0) (pa_cons pe_int pa_nil))))
      (pss_cons (ps_if (pt_cmpR op_lt (pv 1) pe_int (nomark _)) (pss_one (ps_ret (pe_cl Dtake hr (by decide) (by rfl) pass0 (pa_cons (pv 0) (pa_cons pe_int pa_nil))))) pss_nil)
      (pss_cons (ps_if (pt_cmpR op_eq (pv 1) pe_int (nomark _)) (pss_one (ps_ret (pe_cl Dtake hr (by decide) (by rfl) pass0 (pa_cons (pv 0) (pa_cons (pe_op op_pow pe_int pe_int) pa_nil))))) pss_nil)
      (pss_cons (ps_if (pt_cmpR op_eq (pv 1) pe_int (nomark _)) (pss_one (ps_ret (pe_op op_add (pe_op op_mul (pe_cl Dtake hr (by decide) (by rfl) pass0 (pa_cons (pv 0) (pa_cons (pe_op op_pow pe_int pe_int) pa_nil))) (pe_op op_pow pe_int pe_int)) (pe_cl Dtake hr (by decide) (by rfl) pass0 (pa_cons (pv 0) (pa_cons (pe_op op_pow pe_int pe_int) pa_nil)))))) pss_nil)
      (pss_one (ps_ret (pe_op op_sub (pe_op op_pow pe_int pe_int) (pe_cl Dtake hr (by decide) (by rfl) pass0 (pa_cons (pv 0) (pa_cons pe_int pa_nil)))))))))), ?_⟩
    walk_at "rd"
    refine ⟨b, 5, l, n, rfl, hb, hl, by omega, by decide, by decide, fun sw l1 s0 s1 hl1 => ?_⟩
    walk_at "rd"
    refine ite2 (fun c => ?_) (fun c => ?_)
    · walk_at "rd"
      refine ⟨b, 4, l1, _, rfl, upd_same, hl1, by omega, by decide, by decide, fun r l2 r0 r1 hl2 => ?_⟩
      rw [upd_upd]
      exact k r l2 ⟨r0, by rw [m30]; omega⟩ (hl2.mono (by omega))
    · walk_at "rd"
      refine ite2 (fun c => ?_) (fun c => ?_)
      · walk_at "rd"
        refine ⟨⟨by decide, by decide, by decide⟩, ?_⟩
        walk_at "rd"
        refine ⟨b, _, l1, _, rfl, upd_same, hl1, by omega, by decide, by decide, fun r l2 r0 r1 hl2 => ?_⟩
        rw [upd_upd]
        rw [e9] at r1
        exact k r l2 ⟨r0, by rw [m30]; omega⟩ (hl2.mono (by omega))
      · walk_at "rd"
        refine ite2 (fun c => ?_) (fun c => ?_)
        · walk_at "rd"
          refine ⟨⟨by decide, by decide, by decide⟩, ?_⟩
          walk_at "rd"
          refine ⟨b, _, l1, _, rfl, upd_same, hl1, by omega, by decide, by decide, fun r l2 r0 r1 hl2 => ?_⟩
          rw [upd_upd]
          rw [e15] at r1
          walk_at "rd"
          refine ⟨⟨by decide, by decide, by decide⟩, ?_⟩
          walk_at "rd"
          refine ⟨.inl ⟨by omega, by omega⟩, ?_⟩
          walk_at "rd"
          refine ⟨⟨by decide, by decide, by decide⟩, ?_⟩
          walk_at "rd"
          refine ⟨b, _, l2, _, rfl, upd_same, hl2, by omega, by decide, by decide, fun r2 l3 r20 r21 hl3 => ?_⟩
          rw [upd_upd]
          rw [e15] at r21
          walk_at "rd"
          refine k (r * 10 ^ Int.toNat 15 + r2) l3 ⟨by rw [e15]; omega, by rw [m30, e15]; omega⟩ (hl3.mono (by omega))
        · walk_at "rd"
          refine ⟨⟨by decide, by decide, by decide⟩, ?_⟩
          walk_at "rd"
          refine ⟨b, 3, l1, _, rfl, upd_same, hl1, by omega, by decide, by decide, fun r l2 r0 r1 hl2 => ?_⟩
          rw [upd_upd]
          walk_at "rd"
          exact k (10 ^ Int.toNat 30 - r) l2 ⟨by rw [e30]; omega, by rw [m30, e30]; omega⟩ (hl2.mono (by omega))
theorem sc_rows : FnScope ["_law_bag_here", "_law_many", "_law_width", "_law_rows_here", "_law_k", "_law_j"] ["_law_bag_here", "_law_many", "_law_width"] (defScope s_rows) := ⟨rfl, rfl, rfl, by decide +kernel, rfl, by decide +kernel, by decide +kernel⟩
theorem ok_rows {f : Addr} {fd : FuncData} (F : Fun K "_law_rows" "_law_rows" s_rows f fd) (T : Blt mg) (Dtake : Cl P w K mg base CX0 1 "_law_take" spTake) (Dof : Cl P w K mg base CX0 2 "_law_of" (spOf K)) (Dnumber : Cl P w K mg base CX0 2 "_law_number" spNumber) : FnR P w K mg base CX0 3 f spRows := by
  refine fnr F sc_rows (fun vs H Q E h => ?_) (fun _ _ _ _ _ _ us hl => match us, hl with | [_, _, _], _ => rfl) (fun cdv A outer s H vs Q E hr h => ?_)
  · obtain ⟨b, m, wd, l, n, rfl, _⟩ := h
    rfl
  · obtain ⟨b, m, wd, l, n, rfl, hb, hl, hn, hm, hw, k⟩ := h
    refine ⟨_, (pss_cons (ps_set (i := 3) sc_rows.nd rfl (Or.inl rfl) (pe_lst pa_nil))
      (pss_cons (ps_for PassesOwn.never rfl (pi_range1 (by rfl) T.n_range (pa_cons (pv 1) pa_nil)) (pg_name (i := 4) sc_rows.nd rfl (Or.inl rfl))
        (pss_one (ps_if (PW.pt (pw_and (pt_cmpR (op_neD hr.units) (pv 3) (pe_lst pa_nil) (nomark _)) (pw_and1 (pt_cmpR op_eq (pe_cl Dtake hr (by decide) (by rfl) pass0 (pa_cons (pv 0) (pa_cons pe_int pa_nil))) pe_int (nomark _))))) (pss_one (ps_expr (pe_bm PySem.F.plainAttrs_list PySem.F.slot_list_append PySem.F.type_list_append mt_append (pv 3) (pa_cons (pe_cl Dof hr (by decide) (by rfl) pass0 (pa_cons (pv 0) (pa_cons (pv 3) pa_nil))) pa_nil)))) (pss_one (ps_expr (pe_bm PySem.F.plainAttrs_list PySem.F.slot_list_append PySem.F.type_list_append mt_append (pv 3) (pa_cons (pe_callTy call_tuple_of (by rfl) T.n_tuple (by decide +kernel) (pa_cons (pe_lc (own := [("_law_j", 5)]) (by rfl) sc_rows.nd (pi_range1 (by rfl) T.n_range (pa_cons (pv 2) pa_nil)) (blkOk_by (own := [("_law_j", 5)]) (N := ["_law_bag_here", "_law_many", "_law_width", "_law_rows_here", "_law_k", "_law_j"]) (sc := defScope s_rows) (by first | decide +kernel | kernel_rfl)) (fun _ _ _ _ _ => (pg_name (i := 5) sc_rows.nd rfl (Or.inl rfl))) (fun _ _ _ _ _ => by exact pts_nil) (fun _ _ _ _ _ => by exact (pe_cl Dnumber hr (by decide) (by rfl) pass0 (pa_cons (pv 0) pa_nil)))) pa_nil)) pa_nil)))))))
      (pss_one (ps_ret (pv 3))))), ?_⟩
    walk_at "rd"
    refine ⟨(by show 0 ≤ sizeLine; decide), fun p hp => ?_⟩
    have npb : b ≠ p := ne_of_none hb hp
    walk_at "rd"
    refine ⟨by omega, by omega, ?_⟩
    rw [Int.toNat_natCast]
    refine for_it walk_range (fun i σ H' => ∃ (v4 : Option V) (l' : List V) (rs : List Row), σ = [some (.ref b), some (.int (m : Int)), some (.int (wd : Int)), some (.ref p), v4, none] ∧ KeepB b H H' ∧ H' b = some (.lst l') ∧ BagL l' (n + i * 100) ∧ H' p = some (.lst (rs.map refR)) ∧ RA H' rs ∧ RowsOk wd rs ∧ rs.length = i) ?_ (fun _ _ _ _ _ => trivial) ?_ ?_
    · exact ⟨none, l, [], rfl, (KeepB.refl b H).new hp, by rw [upd_ne npb]; exact hb, hl.mono (by omega), upd_same, (fun _ z => nomatch z), (fun _ z => nomatch z), rfl⟩
    · rintro i x σ H0 HA hi ⟨v4, l', rs, rfl, kA, hbA, hlA, hpA, raA, okA, hlen⟩ ⟨rfl, ex⟩
      clear ex
      have fin : ∀ (HC : Hp) (lC : List V) (r : Row), KeepB b H HC → HC b = some (.lst lC) → BagL lC (n + (i + 1) * 100) → HC p = some (.lst (rs.map refR)) → RA HC rs → HC r.1 = some (.tup (r.2.map V.int)) → (r.2.length = wd ∧ ∀ j ∈ r.2, NumOk j) →
          (rs.map refR).length < sizeLine ∧ KeepB b H (upd HC p (.lst (rs.map refR ++ [.ref r.1]))) ∧ (upd HC p (.lst (rs.map refR ++ [.ref r.1]))) b = some (.lst lC) ∧ (upd HC p (.lst (rs.map refR ++ [.ref r.1]))) p = some (.lst ((rs ++ [r]).map refR)) ∧ RA (upd HC p (.lst (rs.map refR ++ [.ref r.1]))) (rs ++ [r]) ∧ RowsOk wd (rs ++ [r]) ∧ (rs ++ [r]).length = i + 1 := by
        intro HC lC r kC hbC hlC hpC raC hr hr2
        refine ⟨by rw [List.length_map]; exact lt_line (by omega), fun c o e hc => ?_, by rw [upd_ne npb]; exact hbC, by rw [upd_same, List.map_append]; rfl, fun t ht => ?_, okA.snoc hr2, by rw [List.length_append, hlen]; rfl⟩
        · rw [upd_ne (ne_of_none e hp)]
          exact kC c o e hc
        · have := (raC.snoc hr) t ht
          rw [upd_ne (ne_of this hpC (by intro z; cases z))]
          exact this
      walk_at "rd"
      refine ⟨(by show 0 ≤ sizeLine; decide), fun Z hZ => ?_⟩
      have sZ := same_new (o := .lst []) (Same.refl HA) hZ
      have kZ := kA.new (o := .lst []) hZ
      refine ⟨_, _, .lst (SqL.of (sZ _ _ hpA)) (raA.same sZ).dp, .lst (SqL.of upd_same) .nil, shaped_list (sh_rows rs), shaped_list (fun d hd => nomatch hd), ?_⟩
      rw [eqv_list]
      have hbZ := sZ _ _ hbA
      have hpZ := sZ _ _ hpA
      have raZ := raA.same sZ
      generalize upd HA Z (.lst []) = HZ at sZ kZ hbZ hpZ raZ ⊢
      by_cases cq : rs = []
      · have e0 : PyData.eqvAll (rs.map fun r : Row => PyData.tuple (r.2.map PyData.int)) [] = true := by rw [cq] <;> rfl
        rw [e0]
        walk_at "rd"
        refine ⟨.inl ⟨rfl, _, SqL.of hpZ⟩, ?_⟩
        walk_at "rd"
        refine ⟨by omega, by omega, fun D hD => ?_⟩
        rw [Int.toNat_natCast]
        have nbD : b ≠ D := ne_of_none hbZ hD
        have npD : p ≠ D := ne_of_none hpZ hD
        refine lc_it walk_range (fun j H2 => ∃ (xs : List Int) (l2 : List V), KeepB b HZ H2 ∧ H2 D = some (.lst (xs.map V.int)) ∧ xs.length = j ∧ (∀ y ∈ xs, NumOk y) ∧ H2 b = some (.lst l2) ∧ BagL l2 ((n + i * 100) + 3 * j)) ⟨[], l', (KeepB.refl b HZ).new hD, upd_same, rfl, (fun _ z => nomatch z), by rw [upd_ne nbD]; exact hbZ, hlA⟩ (fun _ _ _ _ => trivial) ?_ ?_
        · rintro j x H0 HI hj ⟨xs, l2, e1, e2, e3, e6, e4, e5⟩ ⟨rfl, rfl⟩
          walk_at "rd"
          refine ⟨b, l2, _, rfl, e4, e5, by omega, fun y l3 hy hl3 => ?_⟩
          refine ⟨_, by rw [upd_ne nbD.symm]; exact e2, by rw [List.length_map]; exact lt_line (by omega), xs ++ [y], l3, fun c o e hc => ?_, ?_, by rw [List.length_append, e3]; rfl, fun y' hy' => ?_, ?_, hl3⟩
          · rw [upd_ne (ne_of_none e hD), upd_ne hc]
            exact e1 _ _ e hc
          · rw [upd_same, List.map_append]
            rfl
          · rcases List.mem_append.mp hy' with z | z
            · exact e6 y' z
            · rw [List.mem_singleton.mp z]
              exact hy
          · rw [upd_ne nbD]
            exact upd_same
        · rintro H2 ⟨xs, l2, e1, e2, e3, e6, e4, e5⟩
          walk_at "rd"
          refine ⟨D, _, rfl, .inl ⟨SqL.of e2, fun T hT => ?_⟩⟩
          have sT := same_new (o := .tup (xs.map V.int)) (Same.refl H2) hT
          obtain ⟨f1, f2, f3, f4, f5, f6, f7⟩ := fin _ l2 (T, xs) ((kZ.trans e1).new (o := .tup (xs.map V.int)) hT) (sT _ _ e4) (e5.mono (by omega)) (sT _ _ (e1 _ _ hpZ npb.symm)) ((raZ.keep hbZ e1).same sT) upd_same ⟨e3, e6⟩
          exact ⟨p, _, _, rfl, rfl, sT _ _ (e1 _ _ hpZ npb.symm), f1, _, l2, rs ++ [(T, xs)], rfl, f2, f3, e5.mono (by omega), f4, f5, f6, f7⟩
      · have e0 : PyData.eqvAll (rs.map fun r : Row => PyData.tuple (r.2.map PyData.int)) [] = false := by
          cases rs with
          | nil => exact absurd rfl cq
          | cons a r => rfl
        have hq0 : 0 < rs.length := List.length_pos_iff.mpr cq
        rw [e0]
        walk_at "rd"
        refine ⟨b, 5, l', _, rfl, hbZ, hlA, by omega, by decide, by decide, fun g4 l8 g40 g41 hl8 => ?_⟩
        have kD : KeepB b H (upd HZ b (.lst l8)) := kZ.upd
        have hpD : (upd HZ b (.lst l8)) p = some (.lst (rs.map refR)) := by rw [upd_ne npb.symm]; exact hpZ
        have hbD : (upd HZ b (.lst l8)) b = some (.lst l8) := upd_same
        have raD : RA (upd HZ b (.lst l8)) rs := raZ.keep hbZ ((KeepB.refl b HZ).upd)
        generalize upd HZ b (.lst l8) = HD at kD hbD hpD raD ⊢
        walk_at "rd"
        refine ite2 (fun c1 => ?_) (fun c1 => ?_)
        · walk_at "rd"
          refine ⟨.inl ⟨rfl, _, SqL.of hpD⟩, ?_⟩
          walk_at "rd"
          refine ⟨b, p, l8, _, _, rfl, hbD, hl8, by omega, hpD, npb.symm, by rw [List.length_map]; omega, by rw [List.length_map]; omega, fun j x l9 hj hl9 => ?_⟩
          obtain ⟨r, hr, rfl⟩ : ∃ r, r ∈ rs ∧ x = .ref r.1 := by
            rw [List.getElem?_map] at hj
            cases e : rs[j]? with
            | none => rw [e] at hj; cases hj
            | some r => rw [e] at hj; exact ⟨r, List.mem_of_getElem? e, (Option.some.inj hj).symm⟩
          have hpE : (upd HD b (.lst l9)) p = some (.lst (rs.map refR)) := by rw [upd_ne npb.symm]; exact hpD
          have raE : RA (upd HD b (.lst l9)) rs := raD.keep hbD ((KeepB.refl b HD).upd)
          obtain ⟨f1, f2, f3, f4, f5, f6, f7⟩ := fin _ l9 r kD.upd upd_same (hl9.mono (by omega)) hpE raE (raE r hr) (okA r hr)
          exact ⟨p, _, _, rfl, rfl, hpE, f1, _, l9, rs ++ [r], rfl, f2, f3, hl9.mono (by omega), f4, f5, f6, f7⟩
        · skip
          walk_at "rd"
          refine ⟨.inl ⟨rfl, _, SqL.of hpD⟩, ?_⟩
          walk_at "rd"
          refine ⟨by omega, by omega, fun D hD => ?_⟩
          rw [Int.toNat_natCast]
          have nbD : b ≠ D := ne_of_none hbD hD
          have npD : p ≠ D := ne_of_none hpD hD
          refine lc_it walk_range (fun j H2 => ∃ (xs : List Int) (l2 : List V), KeepB b HD H2 ∧ H2 D = some (.lst (xs.map V.int)) ∧ xs.length = j ∧ (∀ y ∈ xs, NumOk y) ∧ H2 b = some (.lst l2) ∧ BagL l2 ((n + i * 100 + 1) + 3 * j)) ⟨[], l8, (KeepB.refl b HD).new hD, upd_same, rfl, (fun _ z => nomatch z), by rw [upd_ne nbD]; exact hbD, hl8⟩ (fun _ _ _ _ => trivial) ?_ ?_
          · rintro j x H0 HI hj ⟨xs, l2, e1, e2, e3, e6, e4, e5⟩ ⟨rfl, rfl⟩
            walk_at "rd"
            refine ⟨b, l2, _, rfl, e4, e5, by omega, fun y l3 hy hl3 => ?_⟩
            refine ⟨_, by rw [upd_ne nbD.symm]; exact e2, by rw [List.length_map]; exact lt_line (by omega), xs ++ [y], l3, fun c o e hc => ?_, ?_, by rw [List.length_append, e3]; rfl, fun y' hy' => ?_, ?_, hl3⟩
            · rw [upd_ne (ne_of_none e hD), upd_ne hc]
              exact e1 _ _ e hc
            · rw [upd_same, List.map_append]
              rfl
            · rcases List.mem_append.mp hy' with z | z
              · exact e6 y' z
              · rw [List.mem_singleton.mp z]
                exact hy
            · rw [upd_ne nbD]
              exact upd_same
          · rintro H2 ⟨xs, l2, e1, e2, e3, e6, e4, e5⟩
            walk_at "rd"
            refine ⟨D, _, rfl, .inl ⟨SqL.of e2, fun T hT => ?_⟩⟩
            have sT := same_new (o := .tup (xs.map V.int)) (Same.refl H2) hT
            obtain ⟨f1, f2, f3, f4, f5, f6, f7⟩ := fin _ l2 (T, xs) ((kD.trans e1).new (o := .tup (xs.map V.int)) hT) (sT _ _ e4) (e5.mono (by omega)) (sT _ _ (e1 _ _ hpD npb.symm)) ((raD.keep hbD e1).same sT) upd_same ⟨e3, e6⟩
            exact ⟨p, _, _, rfl, rfl, sT _ _ (e1 _ _ hpD npb.symm), f1, _, l2, rs ++ [(T, xs)], rfl, f2, f3, e5.mono (by omega), f4, f5, f6, f7⟩
    · rintro σ HA ⟨v4, l', rs, rfl, kA, hbA, hlA, hpA, raA, okA, hlen⟩
      walk_at "rd"
      exact k _ _ l' rs kA hbA hlA hp hpA raA okA hlen
end
end MV

namespace MV
open PySem PySem.Spec PyProof.Rows L2 SB MM LamX
def NmsOk (nms : List Str) : Prop := (∀ z ∈ nms, NmOk z) ∧ nms.Nodup
theorem inV_strs (v : Str) : ∀ ps : List Str, inV (.str v) (ps.map V.str) = decide (v ∈ ps)
  | [] => by simp [inV]
  | p :: r => by
    have ih := inV_strs v r
    unfold inV at ih ⊢
    rw [List.map_cons, List.any_cons, ih]
    have e : eqV (.str p) (.str v) = decide (v = p) := by
      show (p == v) = _
      by_cases h : p = v
      · subst h; simp
      · have h' : ¬ v = p := fun z => h z.symm
        simp [h, h']
    rw [e]
    by_cases h : v = p <;> simp [h]
theorem flat_strs (ps : List Str) : (ps.map V.str).all flatV = true := by
  rw [List.all_eq_true]
  intro x hx
  obtain ⟨p, _, rfl⟩ := List.mem_map.mp hx
  rfl
theorem cut7 (z : Str) : (cutS z none (some 7)).cps.toList = z.cps.toList.take 7 := by
  unfold cutS
  have e : HT.sIx z.length z.length (some 7) = min 7 z.length := HT.sIx_nat ..
  rw [HT.sIx_none, e, List.drop_zero, Nat.sub_zero]
  show (z.cps.toList.take (min 7 z.length)).toArray.toList = _
  rw [List.toList_toArray, ← len_cps, List.take_eq_take_iff]
  omega
def spNames : Sp := fun vs H Q _ => ∃ (b : Addr) (m : Nat) (l : List V) (n : Nat), vs = [.ref b, .int (m : Int)] ∧ H b = some (.lst l) ∧ BagL l n ∧ n + 20 * m + 20 < 1000000 ∧ 0 < m ∧ m ≤ 10 ∧
  ∀ (H' : Hp) (p : Addr) (l' : List V) (nms : List Str), KeepB b H H' → H' b = some (.lst l') → BagL l' (n + 20 * m + 20) → H p = none → H' p = some (.lst (nms.map V.str)) → NmsOk nms → 0 < nms.length → nms.length ≤ m → Q (.ref p) H'
end MV

namespace MV
open PySem PySem.Spec PyProof.Rows L2 SB
local macro_rules | `(tactic| walk_at "rd") => `(tactic| repeat (first | (refine ⟨_, rfl, ?_⟩) | (refine ⟨_, _, rfl, rfl, ?_⟩) | (refine ⟨_, _, rfl, ?_⟩) | (refine ⟨rfl, ?_⟩)))
abbrev s_isint : Stmt := top 14
abbrev s_isnum : Stmt := top 15
abbrev s_isword : Stmt := top 16
abbrev s_cnames : Stmt := top 21
abbrev s_isrow : Stmt := top 22
abbrev s_crows : Stmt := top 23
abbrev s_ctable : Stmt := top 24
def LET : Str := Str.ofString "abcdefghijklmnopqrstuvwxyz"
def keptL : List Str := ["lists", "define", "end", "take", "order", "down", "keep", "turn", "new", "front", "back", "any", "spot", "move", "cut", "set", "pour", "into", "check", "stop", "call", "maybe", "else", "repeat", "guard"]
/-- what the top says of the words -/
structure TxtW (K : PySem.W.Frag) (mg : Str → Option Value) (KPT : Addr) : Prop extends Blt mg where
  n_bool : mg "bool" = none
  n_all : mg "all" = none
  g_letters : ∃ u, mg "LETTERS" = some u ∧ RelV (.str LET) u
  g_kept : ∃ u, mg "KEPT" = some u ∧ RelV (.ref KPT) u
  g_most : ∃ u, mg "MOST_NUMBER" = some u ∧ RelV (.int (10 ^ 30)) u
  g_mostn : ∃ u, mg "MOST_NAMES" = some u ∧ RelV (.int 6) u
  kept : ∀ H : Hp, SqT K H KPT (keptL.map V.str)
/-- a list or a tuple -/
def SqS (K : PySem.W.Frag) (H : Hp) (a : Addr) (xs : List V) : Prop := SqL K H a xs ∨ SqT K H a xs
theorem SqS.same {K : PySem.W.Frag} {H H' : Hp} {a : Addr} {xs : List V} (h : SqS K H a xs) (e : Same H H') : SqS K H' a xs := h.imp (fun h => L2.Same.seq e h) (fun h => Same.sqT e h)
/-- no int (a bool is none) -/
def NoInt (K : PySem.W.Frag) (H : Hp) (v : V) : Prop := ∃ n, n ∈ ["bool", "NoneType", "str", "list", "tuple"] ∧ TyX K H v (.type n)
def Plain (K : PySem.W.Frag) (H : Hp) (v : V) : Prop := (∃ i, v = .int i) ∨ NoInt K H v
def numV : V → Bool
  | .int i => decide (0 ≤ i ∧ i ≤ 10 ^ 30)
  | _ => false
theorem tyT {K : PySem.W.Frag} {H : Hp} {a : Addr} {xs : List V} (h : SqT K H a xs) : TyX K H (.ref a) (.type "tuple") := by
  rcases h with (h | ⟨o, h⟩) | h
  · exact .base (.tup h)
  · exact .fTuple h
  · obtain ⟨o, _, _, h1, h2, _⟩ := h
    exact .kTuple h1 h2
theorem tyL {K : PySem.W.Frag} {H : Hp} {a : Addr} {xs : List V} (h : SqL K H a xs) : TyX K H (.ref a) (.type "list") := by
  rcases h with (h | ⟨o, h⟩) | h
  · exact .base (.lst h)
  · exact .base (.frz h)
  · obtain ⟨o, _, _, h1, h2, _⟩ := h
    exact .kList h1 h2
def wordB (z : Str) : Bool := decide (1 ≤ z.length ∧ z.length ≤ 8) && (!decide (z ∈ keptL) && z.cps.toList.all fun c => decide (c ∈ LET.cps.toList))
theorem NmOk.word {z : Str} (h : NmOk z) : wordB z = true := by
  have hl := h.len
  obtain ⟨c, cs, e, hf, hlow, _⟩ := h
  unfold wordB
  rw [decide_eq_true hl, Bool.true_and, Bool.and_eq_true]
  refine ⟨?_, ?_⟩
  · have : z ∉ keptL := fun hm => by
      have k : ∀ k ∈ keptL, ∀ d ∈ firstL, k.cps.toList.head? ≠ some d := by decide +kernel
      exact k z hm c hf (by rw [e]; rfl)
    rw [decide_eq_false this]
    rfl
  · rw [List.all_eq_true]
    intro d hd
    rw [e] at hd
    have lo := hlow d hd
    have k : ∀ j, j < 26 → 97 + j ∈ LET.cps.toList := by decide +kernel
    have := k (d - 97) (by unfold Low at lo; omega)
    have ed : 97 + (d - 97) = d := by unfold Low at lo; omega
    rw [ed] at this
    exact decide_eq_true this
def spIsInt (K : PySem.W.Frag) : Sp := fun vs H Q _ => ∃ v, vs = [v] ∧ ((∃ i, v = .int i) ∧ Q (.bl true) H ∨ NoInt K H v ∧ Q (.bl false) H)
def spIsNum (K : PySem.W.Frag) : Sp := fun vs H Q _ => ∃ v, vs = [v] ∧ Plain K H v ∧ Q (.bl (numV v)) H
def spIsWord : Sp := fun vs H Q _ => ∃ z, vs = [.str z] ∧ z.length ≤ 1000 ∧ ∀ H', Same H H' → Q (.bl (wordB z)) H'
def spCNames (K : PySem.W.Frag) : Sp := fun vs H Q _ => ∃ (a : Addr) (nms : List Str), vs = [.ref a] ∧ SqS K H a (nms.map V.str) ∧ (∀ z ∈ nms, wordB z = true) ∧ nms.Nodup ∧ 0 < nms.length ∧ nms.length ≤ 6 ∧ ∀ H', Same H H' → Q .non H'
def spIsRow (K : PySem.W.Frag) : Sp := fun vs H Q _ => ∃ (v : V) (wd : Nat), vs = [v, .int (wd : Int)] ∧
  ((∃ (p : Addr) (xs : List V), v = .ref p ∧ SqT K H p xs ∧ (∀ H', Same H H' → ∀ x ∈ xs, Plain K H' x) ∧ xs.length ≤ 1000 ∧ ∀ H', Same H H' → Q (.bl (decide (xs.length = wd) && xs.all numV)) H') ∨
    (∃ n, n ∈ ["bool", "NoneType", "str", "list", "int"] ∧ TyX K H v (.type n)) ∧ Q (.bl false) H)
def spCRows (K : PySem.W.Frag) : Sp := fun vs H Q _ => ∃ (a : Addr) (wd : Nat) (rs : List Row), vs = [.ref a, .int (wd : Int)] ∧ SqS K H a (rs.map refR) ∧ RA H rs ∧ RowsOk wd rs ∧ wd ≤ 10 ∧ ∀ H', Same H H' → Q .non H'
section
variable {P : Program} {w : World} {K : PySem.W.Frag} {mg : Str → Option Value} {base : Heap} {KPT : Addr}
theorem sc_isint : FnScope ["value"] ["value"] (defScope s_isint) := ⟨rfl, rfl, rfl, by decide +kernel, rfl, by decide +kernel, by decide +kernel⟩
theorem ok_isint {f : Addr} {fd : FuncData} (F : Fun K "is_integer" "is_integer" s_isint f fd) (T : TxtW K mg KPT) : FnR P w K mg base CX0 1 f (spIsInt K) := by
  refine fnr F sc_isint (fun vs H Q E h => ?_) (fun _ _ _ _ _ _ us hl => match us, hl with | [_], _ => rfl) (fun cdv A outer s H vs Q E hr h => ?_)
  · obtain ⟨v, rfl, _⟩ := h
    rfl
  · obtain ⟨v, rfl, h⟩ := h
    refine ⟨_, (pss_one (ps_ret (pe_and (pe_callB call_isi (by rfl) T.n_isinstance (by decide +kernel) (pa_cons (pv 0) (pa_cons (pe_bltn (v := .ty "int") (by rfl) T.n_int (by decide +kernel) rfl) pa_nil))) (pe_one (pe_not (pe_callB call_isi (by rfl) T.n_isinstance (by decide +kernel) (pa_cons (pv 0) (pa_cons (pe_bltn (v := .ty "bool") (by rfl) T.n_bool (by decide +kernel) rfl) pa_nil)))))))), ?_⟩
    rcases h with ⟨⟨i, rfl⟩, k⟩ | ⟨⟨n, hn, ty⟩, k⟩
    · walk_at "rd"
      refine ⟨_, _, _, _, _, rfl, .ty _, .base (.int i), kit_ty (r := true) (by decide +kernel), ?_⟩
      walk_at "rd"
      refine ⟨_, _, _, _, _, rfl, .ty _, .base (.int i), kit_ty (r := false) (by decide +kernel), ?_⟩
      walk_at "rd"
      exact k
    · walk_at "rd"
      simp only [List.mem_cons, List.not_mem_nil, or_false] at hn
      rcases hn with rfl | rfl | rfl | rfl | rfl
      · refine ⟨_, _, _, _, _, rfl, .ty _, ty, kit_ty (r := true) (by decide +kernel), ?_⟩
        walk_at "rd"
        refine ⟨_, _, _, _, _, rfl, .ty _, ty, kit_ty (r := true) (by decide +kernel), ?_⟩
        walk_at "rd"
        exact k
      · refine ⟨_, _, _, _, _, rfl, .ty _, ty, kit_ty (r := false) (by decide +kernel), ?_⟩
        walk_at "rd"
        exact k
      · refine ⟨_, _, _, _, _, rfl, .ty _, ty, kit_ty (r := false) (by decide +kernel), ?_⟩
        walk_at "rd"
        exact k
      · refine ⟨_, _, _, _, _, rfl, .ty _, ty, kit_ty (r := false) (by decide +kernel), ?_⟩
        walk_at "rd"
        exact k
      · refine ⟨_, _, _, _, _, rfl, .ty _, ty, kit_ty (r := false) (by decide +kernel), ?_⟩
        walk_at "rd"
        exact k
theorem sc_isnum : FnScope ["value"] ["value"] (defScope s_isnum) := ⟨rfl, rfl, rfl, by decide +kernel, rfl, by decide +kernel, by decide +kernel⟩
theorem ok_isnum {f : Addr} {fd : FuncData} (F : Fun K "is_number" "is_number" s_isnum f fd) (T : TxtW K mg KPT) (Disint : Cl P w K mg base CX0 1 "is_integer" (spIsInt K)) : FnR P w K mg base CX0 2 f (spIsNum K) := by
  refine fnr F sc_isnum (fun vs H Q E h => ?_) (fun _ _ _ _ _ _ us hl => match us, hl with | [_], _ => rfl) (fun cdv A outer s H vs Q E hr h => ?_)
  · obtain ⟨v, rfl, _⟩ := h
    rfl
  · obtain ⟨v, rfl, h, k⟩ := h
    refine ⟨_, (pss_one (ps_ret (pe_and (pe_cl Disint hr (by decide) (by rfl) pass0 (pa_cons (pv 0) pa_nil)) (pe_one (pe_chain op_le op_le pe_int (pv 0) (C8.pe_gc (v := .int (10 ^ 30)) (by rfl) T.g_most)))))), ?_⟩
    walk_at "rd"
    rcases h with ⟨i, rfl⟩ | h
    · refine .inl ⟨⟨i, rfl⟩, ?_⟩
      walk_at "rd"
      refine ite2 (fun c => ?_) (fun c => ?_)
      · have c1 : 0 ≤ i := of_decide_eq_true c
        walk_at "rd"
        have e : numV (.int i) = decide (i ≤ 10 ^ 30) := by
          show decide (0 ≤ i ∧ i ≤ 10 ^ 30) = _
          exact decide_eq_decide.mpr ⟨fun z => z.2, fun z => ⟨c1, z⟩⟩
        rw [e] at k
        exact k
      · have c1 : ¬ 0 ≤ i := fun z => c (decide_eq_true z)
        have e : numV (.int i) = false := decide_eq_false fun z => c1 z.1
        rw [e] at k
        have e2 : decide (0 ≤ i) = false := decide_eq_false c1
        first | exact k | (rw [e2]; exact k)
    · refine .inr ⟨h, ?_⟩
      walk_at "rd"
      have e : numV v = false := by
        obtain ⟨n, hn, ty⟩ := h
        cases v with
        | int i =>
          exfalso
          cases ty with
          | base b => cases b; simp at hn
        | _ => rfl
      rw [e] at k
      exact k
theorem sc_isword : FnScope ["value", "letter"] ["value"] (defScope s_isword) := ⟨rfl, rfl, rfl, by decide +kernel, rfl, by decide +kernel, by decide +kernel⟩
theorem ok_isword {f : Addr} {fd : FuncData} (F : Fun K "is_word" "is_word" s_isword f fd) (T : TxtW K mg KPT) : FnR P w K mg base CX0 1 f spIsWord := by
  refine fnr F sc_isword (fun vs H Q E h => ?_) (fun _ _ _ _ _ _ us hl => match us, hl with | [_], _ => rfl) (fun cdv A outer s H vs Q E hr h => ?_)
  · obtain ⟨v, rfl, _⟩ := h
    rfl
  · obtain ⟨z, rfl, hz, k⟩ := h
    refine ⟨_, (pss_cons (ps_if (PW.pt (pw_or (pt_not (pt_val (pe_callB call_isi (by rfl) T.n_isinstance (by decide +kernel) (pa_cons (pv 0) (pa_cons (pe_bltn (v := .ty "str") (by rfl) T.n_str (by decide +kernel) rfl) pa_nil))))) (pw_or (pt_not (pt_chain op_le op_le pe_int (pe_callB call_len_str (by rfl) T.n_len (by decide +kernel) (pa_cons (pv 0) pa_nil)) pe_int)) (pw_or1 (pt_cmpR op_in_seq (pv 0) (C8.pe_gc (v := .ref KPT) (by rfl) T.g_kept) rfl))))) (pss_one (ps_ret pe_bl)) pss_nil)
      (pss_one (ps_ret (pe_callB (cr_all rfl) (by rfl) T.n_all (by decide +kernel) (pa_cons (pe_lc (own := [("letter", 1)]) (by rfl) sc_isword.nd (pi_str (pv 0)) (blkOk_by (own := [("letter", 1)]) (N := ["value", "letter"]) (sc := defScope s_isword) (by first | decide +kernel | kernel_rfl)) (fun _ _ _ _ _ => (pg_name (i := 1) sc_isword.nd rfl (Or.inl rfl))) (fun _ _ _ _ _ => by exact pts_nil) (fun _ _ _ _ _ => by exact (pe_cmpR op_in_sign (pv 1) (C8.pe_gc (v := .str LET) (by rfl) T.g_letters) (by rfl)))) pa_nil))))), ?_⟩
    walk_at "rd"
    refine ⟨_, _, _, _, _, rfl, .ty _, .base (.str z), kit_ty (r := true) (by decide +kernel), ?_⟩
    walk_at "rd"
    refine ⟨le_line (by omega), ?_⟩
    walk_at "rd"
    have bad : ¬ (1 ≤ z.length ∧ z.length ≤ 8) → wordB z = false := fun h => by unfold wordB; rw [decide_eq_false h]; rfl
    refine ite2 (fun c => ?_) (fun c => ?_)
    · have c1 : 1 ≤ (z.length : Int) := of_decide_eq_true c
      walk_at "rd"
      refine ite2 (fun c2 => ?_) (fun c2 => ?_)
      · have d2 : ¬ ((z.length : Int) ≤ 8) := by simpa using c2
        walk_at "rd"
        have := k _ (Same.refl H)
        rw [bad (by omega)] at this
        exact this
      · have d2 : (z.length : Int) ≤ 8 := by simpa using c2
        have hl : 1 ≤ z.length ∧ z.length ≤ 8 := by omega
        walk_at "rd"
        refine ⟨KPT, _, rfl, .inr (T.kept _), rfl, flat_strs _, ?_⟩
        rw [if_neg (by decide), inV_strs]
        walk_at "rd"
        by_cases hm : z ∈ keptL
        · refine ifT (decide_eq_true hm) ?_
          walk_at "rd"
          have e : wordB z = false := by unfold wordB; rw [decide_eq_true hm, decide_eq_true hl]; rfl
          have := k _ (Same.refl H)
          rw [e] at this
          exact this
        · refine ifF (decide_eq_false hm) ?_
          walk_at "rd"
          refine fun D hD => ?_
          have s1 := same_new (o := .lst []) (Same.refl H) hD
          refine lc_it (walk_str (z := z)) (fun i H' => KeepB D (upd H D (.lst [])) H' ∧ H' D = some (.lst (((z.cps.toList.take i).map fun c => decide (c ∈ LET.cps.toList)).map V.bl))) ⟨KeepB.refl _ _, upd_same⟩ (fun _ _ _ _ => trivial) ?_ ?_
          · rintro i x Hz H' hi ⟨kp, hD'⟩ ⟨rfl, cc, hcc, rfl⟩
            have hi' : i < z.cps.toList.length := by simpa using hi
            have ec : z.cps.toList[i]? = some cc := by rw [Array.getElem?_toList]; exact hcc
            have tk : z.cps.toList.take (i + 1) = z.cps.toList.take i ++ [cc] := by
              rw [List.take_add_one, ec]
              rfl
            walk_at "rd"
            refine ⟨_, hD', by rw [List.length_map, List.length_map, List.length_take]; exact lt_line (by rw [len_cps]; omega), kp.upd, ?_⟩
            rw [upd_same, tk, List.map_append, List.map_append]
            rfl
          · rintro H2 ⟨kp2, hD2⟩
            have s2 : Same H H2 := fun c o e => kp2 _ _ (s1 _ _ e) (ne_of_none e hD)
            have ez : z.cps.size = z.cps.toList.length := by simp
            rw [ez, List.take_length] at hD2
            refine ⟨D, _, rfl, SqL.of hD2, ?_⟩
            have e : (((z.cps.toList.map fun c => decide (c ∈ LET.cps.toList))).all id) = wordB z := by
              unfold wordB
              rw [decide_eq_true hl, decide_eq_false hm, List.all_map]
              rfl
            rw [e]
            exact k _ s2
    · have c1 : ¬ 1 ≤ (z.length : Int) := fun y => c (decide_eq_true y)
      walk_at "rd"
      have := k _ (Same.refl H)
      rw [bad (by omega)] at this
      exact this
end
end MV

namespace MV
open PySem PySem.Spec PyProof.Rows L2 SB
local macro_rules | `(tactic| walk_at "rd") => `(tactic| repeat (first | (refine ⟨_, rfl, ?_⟩) | (refine ⟨_, _, rfl, rfl, ?_⟩) | (refine ⟨_, _, rfl, ?_⟩) | (refine ⟨rfl, ?_⟩)))
theorem kit_lt {K : PySem.W.Frag} {n : String} (h : n = "list" ∨ n = "tuple") : PySem.W.kitAny K (.type n) [.type "list", .type "tuple"] = some true := by
  rcases h with rfl | rfl
  · exact kitAny_cons (kit_ty (r := true) (by decide +kernel)) (fun z => nomatch z) (fun _ => rfl)
  · exact kitAny_cons (kit_ty (r := false) (by decide +kernel)) (fun _ => kitAny_cons (kit_ty (r := true) (by decide +kernel)) (fun z => nomatch z) (fun _ => rfl)) (fun z => nomatch z)
theorem tyS {K : PySem.W.Frag} {H : Hp} {a : Addr} {xs : List V} (h : SqS K H a xs) : ∃ n, (n = "list" ∨ n = "tuple") ∧ TyX K H (.ref a) (.type n) := by
  rcases h with h | h
  · exact ⟨"list", .inl rfl, tyL h⟩
  · exact ⟨"tuple", .inr rfl, tyT h⟩
section
variable {P : Program} {w : World} {K : PySem.W.Frag} {mg : Str → Option Value} {base : Heap} {KPT : Addr}
theorem sc_cnames : FnScope ["names", "seen", "at", "name"] ["names"] (defScope s_cnames) := ⟨rfl, rfl, rfl, by decide +kernel, rfl, by decide +kernel, by decide +kernel⟩
theorem ok_cnames {f : Addr} {fd : FuncData} (F : Fun K "check_names" "check_names" s_cnames f fd) (T : TxtW K mg KPT) (Disword : Cl P w K mg base CX0 1 "is_word" spIsWord) : FnR P w K mg base CX0 2 f (spCNames K) := by
  refine fnr F sc_cnames (fun vs H Q E h => ?_) (fun _ _ _ _ _ _ us hl => match us, hl with | [_], _ => rfl) (fun cdv A outer s H vs Q E hr h => ?_)
  · obtain ⟨a, nms, rfl, _⟩ := h
    rfl
  · obtain ⟨a, nms, rfl, hS, hw, hnd, hl0, hl6, k⟩ := h
    refine ⟨_, (pss_cons (ps_if (PW.pt (pw_or (pt_not (pt_val (pe_callB call_isiT (by rfl) T.n_isinstance (by decide +kernel) (pa_cons (pv 0) (pa_cons (pe_tup (pa_cons (pe_bltn (v := .ty "list") (by rfl) T.n_list (by decide +kernel) rfl) (pa_cons (pe_bltn (v := .ty "tuple") (by rfl) T.n_tuple (by decide +kernel) rfl) pa_nil))) pa_nil))))) (pw_or1 (pt_not (pt_chain op_le op_le pe_int (pe_callB call_len_seq (by rfl) T.n_len (by decide +kernel) (pa_cons (pv 0) pa_nil)) (C8.pe_gc (v := .int 6) (by rfl) T.g_mostn)))))) (pss_one ps_never) pss_nil)
      (pss_cons (ps_set (i := 1) sc_cnames.nd rfl (Or.inl rfl) pe_dnewK)
      (pss_one (ps_for PassesOwn.never rfl (pi_enumS (by rfl) T.n_enumerate (pa_cons (pv 0) pa_nil)) (pg_tup rfl (pgs_cons (pg_name (i := 2) sc_cnames.nd rfl (Or.inl rfl)) (pgs_cons (pg_name (i := 3) sc_cnames.nd rfl (Or.inl rfl)) pgs_nil)))
        (pss_cons (ps_if (PW.pt (pw_or (pt_not (pt_val (pe_cl Disword hr (by decide) (by rfl) pass0 (pa_cons (pv 3) pa_nil)))) (pw_or1 (pt_cmp (pc_din (hu_of hr) (pv 3) (pv 1)))))) (pss_one ps_never) pss_nil)
        (pss_one (ps_dput (hu_of hr) (pv 1) (pv 3) pe_bl rfl))))))), ?_⟩
    walk_at "rd"
    refine ⟨(by show 2 ≤ sizeLine; decide), fun TT hTT => ?_⟩
    have s1 := same_new (o := .tup [.ty "list", .ty "tuple"]) (Same.refl H) hTT
    obtain ⟨nn, hnn, ty⟩ := tyS (hS.same s1)
    refine ⟨_, TT, _, _, [.type "list", .type "tuple"], _, rfl, upd_same, .cons (.ty _) (.cons (.ty _) .nil), ty, kit_lt hnn, ?_⟩
    generalize upd H TT (.tup [.ty "list", .ty "tuple"]) = H1 at s1 ty ⊢
    walk_at "rd"
    refine ⟨a, _, rfl, hS.same s1, ?_⟩
    rw [List.length_map]
    walk_at "rd"
    refine ifT (decide_eq_true (by omega)) ?_
    walk_at "rd"
    refine iteNS (by omega) ?_
    walk_at "rd"
    intro d hd
    have s2 : Same H1 (upd H1 d (.dK [])) := same_new (Same.refl H1) hd
    have hS2 := (hS.same s1).same s2
    walk_at "rd"
    refine ⟨a, _, rfl, hS2, fun J G w hG => ?_⟩
    refine for_it w (fun i σ H' => ∃ (v2 v3 : Option V) (kvs : List (Key × V)), σ = [some (.ref a), some (.ref d), v2, v3] ∧ KeepB d (upd H1 d (.dK [])) H' ∧ H' d = some (.dK kvs) ∧ kvs.length ≤ i ∧
      ∀ z : Str, (valV kvs (Sum.inr z)).isSome = true → z ∈ nms.take i) ?_ ?_ ?_ ?_
    · exact ⟨none, none, [], rfl, KeepB.refl _ _, upd_same, Nat.le_refl _, fun p hp => by simp [valV_nil] at hp⟩
    · rintro i σ H' _ ⟨_, _, kvs, _, kp, hd', _⟩
      exact hG H' (fun e => kp.sqL' upd_same (noSeq_dK _) e) (fun e => kp.sqT' upd_same (noSeq_dK _) e)
    · rintro i x' σ H' H'' hi ⟨v2, v3, kvs, rfl, kp, hd', hlen, hv⟩ ⟨T', x0, y0, rfl, hT, rfl, e0, ey⟩
      cases e0
      have hi' : i < nms.length := by simpa using hi
      have epi : nms[i]? = some nms[i] := List.getElem?_eq_getElem hi'
      have ey' : y0 = .str nms[i] := by
        have q : (nms.map V.str)[i]? = some y0 := ey
        rw [List.getElem?_map, epi] at q
        exact (Option.some.inj q).symm
      subst ey'
      have ndT : d ≠ T' := ne_of_none hd' hT
      have hd2 : (upd H' T' (.tup [.int (i : Nat), .str nms[i]])) d = some (.dK kvs) := by rw [upd_ne ndT]; exact hd'
      have kp2 := kp.new (o := .tup [.int (i : Nat), .str nms[i]]) hT
      have tk : nms.take (i + 1) = nms.take i ++ [nms[i]] := by rw [List.take_append_getElem hi']
      have wl := hw nms[i] (List.getElem_mem hi')
      have lz : nms[i].length ≤ 8 := by
        unfold wordB at wl
        rw [Bool.and_eq_true] at wl
        exact (of_decide_eq_true wl.1).2
      have nin : (valV kvs (Sum.inr nms[i])).isSome = false := by
        cases c : valV kvs (Sum.inr nms[i]) with
        | none => rfl
        | some v =>
          exfalso
          have hm := hv nms[i] (by rw [c]; rfl)
          obtain ⟨j, hj⟩ := List.mem_iff_getElem?.mp hm
          have hl := (List.getElem?_eq_some_iff.mp hj).1
          rw [List.length_take] at hl
          rw [List.getElem?_take, if_pos (by omega)] at hj
          have := nd_ix hnd hj epi
          omega
      refine ⟨T', _, rfl, SqT.of upd_same, rfl, ?_⟩
      walk_at "rd"
      refine ⟨by omega, fun H3 s3 => ?_⟩
      rw [wl]
      walk_at "rd"
      have hd3 := s3 _ _ hd2
      refine ⟨d, _, rfl, DGet.k (k := Sum.inr nms[i]) hd3, _, rfl, ?_⟩
      rw [nin]
      walk_at "rd"
      refine ⟨d, _, rfl, DPut.k (k := Sum.inr nms[i]) hd3 (lt_line (by omega)), ?_⟩
      refine ⟨_, _, _, rfl, (fun c o e hc => by rw [upd_ne hc]; exact s3 _ _ (kp2 c o e hc)), upd_same, ?_, ?_⟩
      · have := length_putK kvs (Sum.inr nms[i]) (V.bl true)
        omega
      · intro z hz
        rw [valV_put] at hz
        rw [tk]
        by_cases e : (Sum.inr z : Key) = Sum.inr nms[i]
        · have e' : z = nms[i] := Sum.inr.inj e
          subst e'
          exact List.mem_append_right _ (List.mem_singleton_self _)
        · rw [if_neg e] at hz
          exact List.mem_append_left _ (hv z hz)
    · rintro σ H' ⟨v2, v3, kvs, rfl, kp, hd', hlen, hv⟩
      exact k _ (s1.trans fun c o e => kp _ _ (s2 _ _ e) (ne_of_none e hd))
theorem sc_isrow : FnScope ["row", "width", "value"] ["row", "width"] (defScope s_isrow) := ⟨rfl, rfl, rfl, by decide +kernel, rfl, by decide +kernel, by decide +kernel⟩
theorem ok_isrow {f : Addr} {fd : FuncData} (F : Fun K "is_row" "is_row" s_isrow f fd) (T : TxtW K mg KPT) (Disnum : Cl P w K mg base CX0 2 "is_number" (spIsNum K)) : FnR P w K mg base CX0 3 f (spIsRow K) := by
  refine fnr F sc_isrow (fun vs H Q E h => ?_) (fun _ _ _ _ _ _ us hl => match us, hl with | [_, _], _ => rfl) (fun cdv A outer s H vs Q E hr h => ?_)
  · obtain ⟨v, wd, rfl, _⟩ := h
    rfl
  · obtain ⟨v, wd, rfl, h⟩ := h
    refine ⟨_, (pss_one (ps_ret (pe_and (pe_callB call_isi (by rfl) T.n_isinstance (by decide +kernel) (pa_cons (pv 0) (pa_cons (pe_bltn (v := .ty "tuple") (by rfl) T.n_tuple (by decide +kernel) rfl) pa_nil))) (pe_and (pe_cmpR op_eq (pe_callB call_len_seq (by rfl) T.n_len (by decide +kernel) (pa_cons (pv 0) pa_nil)) (pv 1) (nomark _)) (pe_one (pe_callB (cr_all rfl) (by rfl) T.n_all (by decide +kernel) (pa_cons (pe_lc (own := [("value", 2)]) (by rfl) sc_isrow.nd (pi_tup (pv 0)) (blkOk_by (own := [("value", 2)]) (N := ["row", "width", "value"]) (sc := defScope s_isrow) (by first | decide +kernel | kernel_rfl)) (fun _ _ _ _ _ => (pg_name (i := 2) sc_isrow.nd rfl (Or.inl rfl))) (fun _ _ _ _ _ => by exact pts_nil) (fun _ _ _ _ _ => by exact (pe_cl Disnum hr (by decide) (by rfl) pass0 (pa_cons (pv 2) pa_nil)))) pa_nil))))))), ?_⟩
    rcases h with ⟨p, xs, rfl, hp, hpl, hz, k⟩ | ⟨⟨n, hn, ty⟩, k⟩
    · walk_at "rd"
      refine ⟨_, _, _, _, _, rfl, .ty _, tyT hp, kit_ty (r := true) (by decide +kernel), ?_⟩
      walk_at "rd"
      refine ⟨p, _, rfl, .inr hp, ?_⟩
      walk_at "rd"
      by_cases c : xs.length = wd
      · refine ifT (decide_eq_true (by rw [c])) ?_
        walk_at "rd"
        refine ⟨⟨_, hp⟩, fun D hD => ?_⟩
        have s1 := same_new (o := .lst []) (Same.refl H) hD
        refine lc_it (walk_tup (xs := xs)) (fun i H' => KeepB D (upd H D (.lst [])) H' ∧ H' D = some (.lst (((xs.take i).map numV).map V.bl))) ⟨KeepB.refl _ _, upd_same⟩ ?_ ?_ ?_
        · rintro i H' _ ⟨kp, _⟩
          exact kp.sqT upd_same (Same.sqT s1 hp)
        · rintro i x Hz H' hi ⟨kp, hD'⟩ ⟨rfl, hx⟩
          have tk : xs.take (i + 1) = xs.take i ++ [x] := by
            rw [List.take_add_one, hx]
            rfl
          have sI : Same H H' := fun c o e => kp _ _ (s1 _ _ e) (ne_of_none e hD)
          walk_at "rd"
          refine ⟨hpl _ sI x (List.mem_of_getElem? hx), ?_⟩
          refine ⟨_, hD', by rw [List.length_map, List.length_map, List.length_take]; exact lt_line (by omega), kp.upd, ?_⟩
          rw [upd_same, tk, List.map_append, List.map_append]
          rfl
        · rintro H2 ⟨kp2, hD2⟩
          have s2 : Same H H2 := fun c o e => kp2 _ _ (s1 _ _ e) (ne_of_none e hD)
          rw [List.take_length] at hD2
          refine ⟨D, _, rfl, SqL.of hD2, ?_⟩
          have e : ((xs.map numV).all id) = (decide (xs.length = wd) && xs.all numV) := by
            rw [decide_eq_true c, List.all_map]
            rfl
          rw [e]
          exact k _ s2
      · have c' : ¬ (V.int (xs.length : Int) = V.int (wd : Int)) := fun z => c (by have := V.int.inj z; omega)
        refine ifF (decide_eq_false c') ?_
        have := k _ (Same.refl H)
        rw [decide_eq_false c] at this
        have e2 := decide_eq_false c'
        first | exact this | (rw [e2]; exact this)
    · walk_at "rd"
      have kt : PySem.W.kitOne K (.type n) (.type "tuple") = some false := by
        simp only [List.mem_cons, List.not_mem_nil, or_false] at hn
        rcases hn with rfl | rfl | rfl | rfl | rfl
        · exact kit_ty (by decide +kernel)
        · exact kit_ty (by decide +kernel)
        · exact kit_ty (by decide +kernel)
        · exact kit_ty (by decide +kernel)
        · exact kit_ty (by decide +kernel)
      refine ⟨_, _, _, _, _, rfl, .ty _, ty, kt, ?_⟩
      walk_at "rd"
      exact k
theorem row_ok {H : Hp} {rs : List Row} {wd : Nat} {r : Row} (ra : RA H rs) (ok : RowsOk wd rs) (hr : r ∈ rs) : SqT K H r.1 (r.2.map V.int) ∧ (∀ H', Same H H' → ∀ x ∈ r.2.map V.int, Plain K H' x) ∧ (decide ((r.2.map V.int).length = wd) && (r.2.map V.int).all numV) = true := by
  refine ⟨SqT.of (ra r hr), fun H' _ x hx => ?_, ?_⟩
  · obtain ⟨i, _, rfl⟩ := List.mem_map.mp hx
    exact .inl ⟨i, rfl⟩
  · rw [List.length_map, decide_eq_true (ok r hr).1, Bool.true_and, List.all_eq_true]
    intro x hx
    obtain ⟨i, hi, rfl⟩ := List.mem_map.mp hx
    exact decide_eq_true ((ok r hr).2 i hi)
theorem sc_crows : FnScope ["rows", "width", "at", "row"] ["rows", "width"] (defScope s_crows) := ⟨rfl, rfl, rfl, by decide +kernel, rfl, by decide +kernel, by decide +kernel⟩
theorem ok_crows {f : Addr} {fd : FuncData} (F : Fun K "check_rows" "check_rows" s_crows f fd) (T : TxtW K mg KPT) (Disrow : Cl P w K mg base CX0 3 "is_row" (spIsRow K)) : FnR P w K mg base CX0 4 f (spCRows K) := by
  refine fnr F sc_crows (fun vs H Q E h => ?_) (fun _ _ _ _ _ _ us hl => match us, hl with | [_, _], _ => rfl) (fun cdv A outer s H vs Q E hr h => ?_)
  · obtain ⟨a, wd, rs, rfl, _⟩ := h
    rfl
  · obtain ⟨a, wd, rs, rfl, hS, ra, ok, hw, k⟩ := h
    refine ⟨_, (pss_one (ps_for PassesOwn.never rfl (pi_enumS (by rfl) T.n_enumerate (pa_cons (pv 0) pa_nil)) (pg_tup rfl (pgs_cons (pg_name (i := 2) sc_crows.nd rfl (Or.inl rfl)) (pgs_cons (pg_name (i := 3) sc_crows.nd rfl (Or.inl rfl)) pgs_nil)))
        (pss_one (ps_if (pt_not (pt_val (pe_cl Disrow hr (by decide) (by rfl) pass0 (pa_cons (pv 3) (pa_cons (pv 1) pa_nil))))) (pss_one ps_never) pss_nil)))), ?_⟩
    walk_at "rd"
    refine ⟨a, _, rfl, hS, fun J G w hG => ?_⟩
    refine for_it w (fun i σ H' => ∃ (v2 v3 : Option V), σ = [some (.ref a), some (.int (wd : Int)), v2, v3] ∧ Same H H') ?_ ?_ ?_ ?_
    · exact ⟨none, none, rfl, Same.refl H⟩
    · rintro i σ H' _ ⟨_, _, _, sm⟩
      exact hG H' (fun e => L2.Same.seq sm e) (fun e => Same.sqT sm e)
    · rintro i x' σ H' H'' hi ⟨v2, v3, rfl, sm⟩ ⟨T', x0, y0, rfl, hT, rfl, e0, ey⟩
      cases e0
      have hi' : i < rs.length := by simpa using hi
      have ey' : y0 = .ref rs[i].1 := by
        have q : (rs.map refR)[i]? = some y0 := ey
        rw [List.getElem?_map, List.getElem?_eq_getElem hi'] at q
        exact (Option.some.inj q).symm
      subst ey'
      have s2 := same_new (o := .tup [.int (i : Nat), .ref rs[i].1]) sm hT
      obtain ⟨o1, o2, o3⟩ := row_ok (K := K) (ra.same s2) ok (List.getElem_mem hi')
      have ln := (ok _ (List.getElem_mem hi')).1
      refine ⟨T', _, rfl, SqT.of upd_same, rfl, ?_⟩
      walk_at "rd"
      refine .inl ⟨rs[i].1, _, rfl, o1, o2, by rw [List.length_map]; omega, fun H3 s3 => ?_⟩
      rw [o3]
      walk_at "rd"
      first | exact ⟨_, _, rfl, s2.trans s3⟩ | exact s2.trans s3
    · rintro σ H' ⟨v2, v3, rfl, sm⟩
      exact k _ sm
theorem sc_ctable : FnScope ["rows", "width"] ["rows", "width"] (defScope s_ctable) := ⟨rfl, rfl, rfl, by decide +kernel, rfl, by decide +kernel, by decide +kernel⟩
theorem ok_ctable {f : Addr} {fd : FuncData} (F : Fun K "check_table" "check_table" s_ctable f fd) (T : TxtW K mg KPT) (Dcrows : Cl P w K mg base CX0 4 "check_rows" (spCRows K)) : FnR P w K mg base CX0 5 f (spCRows K) := by
  refine fnr F sc_ctable (fun vs H Q E h => ?_) (fun _ _ _ _ _ _ us hl => match us, hl with | [_, _], _ => rfl) (fun cdv A outer s H vs Q E hr h => ?_)
  · obtain ⟨a, wd, rs, rfl, _⟩ := h
    rfl
  · obtain ⟨a, wd, rs, rfl, hS, ra, ok, hw, k⟩ := h
    refine ⟨_, (pss_cons (ps_if (pt_not (pt_val (pe_callB call_isiT (by rfl) T.n_isinstance (by decide +kernel) (pa_cons (pv 0) (pa_cons (pe_tup (pa_cons (pe_bltn (v := .ty "list") (by rfl) T.n_list (by decide +kernel) rfl) (pa_cons (pe_bltn (v := .ty "tuple") (by rfl) T.n_tuple (by decide +kernel) rfl) pa_nil))) pa_nil))))) (pss_one ps_never) pss_nil)
      (pss_one (ps_expr (pe_cl Dcrows hr (by decide) (by rfl) pass0 (pa_cons (pv 0) (pa_cons (pv 1) pa_nil)))))), ?_⟩
    walk_at "rd"
    refine ⟨(by show 2 ≤ sizeLine; decide), fun TT hTT => ?_⟩
    have s1 := same_new (o := .tup [.ty "list", .ty "tuple"]) (Same.refl H) hTT
    obtain ⟨nn, hnn, ty⟩ := tyS (hS.same s1)
    refine ⟨_, TT, _, _, [.type "list", .type "tuple"], _, rfl, upd_same, .cons (.ty _) (.cons (.ty _) .nil), ty, kit_lt hnn, ?_⟩
    walk_at "rd"
    refine ⟨a, wd, rs, rfl, hS.same s1, ra.same s1, ok, hw, fun H2 s2 => ?_⟩
    exact k _ (s1.trans s2)
end
end MV

namespace MV
open PySem PySem.Spec PyProof.Rows L2 SB
local macro_rules | `(tactic| walk_at "rd") => `(tactic| repeat (first | (refine ⟨_, rfl, ?_⟩) | (refine ⟨_, _, rfl, rfl, ?_⟩) | (refine ⟨_, _, rfl, ?_⟩) | (refine ⟨rfl, ?_⟩)))
abbrev s_k_init : Stmt := inClass (top 27) 1
abbrev s_k_table : Stmt := inClass (top 27) 7
abbrev s_k_index_of : Stmt := inClass (top 27) 11
abbrev s_k_check_place : Stmt := inClass (top 27) 12
abbrev s_k_getitem : Stmt := inClass (top 27) 13
structure TxtKe (K : PySem.W.Frag) (mg : Str → Option Value) (KPT CK : Addr) : Prop extends TxtW K mg KPT where
  ck : Cls K CK
  nn : NoAttr K CK "names"
  nh : NoAttr K CK "held"
  g_Keeper : mg "Keeper" = some (.ref CK)
def kfs (qn qh : Addr) : List (Str × V) := putF "held" (.ref qh) (putF "names" (.ref qn) [])
theorem nhe : ¬ (("names" : Str) = "held") := by decide +kernel
theorem kfs_eq (qn qh : Addr) : kfs qn qh = ([("names", V.ref qn), ("held", V.ref qh)] : List (Str × V)) := by
  show (if ("names" : Str) = "held" then [(("names" : Str), V.ref qh)] else (("names" : Str), V.ref qn) :: putF "held" (V.ref qh) []) = _
  rw [if_neg nhe]
  rfl
theorem kfs_names (qn qh : Addr) : (kfs qn qh).lookup ("names" : Str) = some (.ref qn) := by
  unfold kfs
  rw [lookup_putF, if_neg nhe, lookup_putF, if_pos rfl]
theorem kfs_held (qn qh : Addr) : (kfs qn qh).lookup ("held" : Str) = some (.ref qh) := by
  unfold kfs
  rw [lookup_putF, if_pos rfl]
theorem FzT.kb {b : Addr} {H H' : Hp} {a : Addr} {xs : List V} {o : HO} (e : KeepB b H H') (hb : H b = some o) (ho : NoSeq o) (h : FzT H a xs) : FzT H' a xs := by
  obtain ⟨o, h, hd⟩ := h
  exact ⟨o, e _ _ h (ne_of h hb fun z => ho.2.2 _ _ z.symm), hd⟩
def NsIn (K : PySem.W.Frag) (H : Hp) (n : Addr) (nms : List Str) : Prop := SqL K H n (nms.map V.str) ∨ FzT H n (nms.map V.str)
theorem NsIn.same {K : PySem.W.Frag} {H H' : Hp} {n : Addr} {nms : List Str} (h : NsIn K H n nms) (e : Same H H') : NsIn K H' n nms := h.imp (fun z => L2.Same.seq e z) (fun z => z.same e)
theorem NsIn.sq {K : PySem.W.Frag} {H : Hp} {n : Addr} {nms : List Str} (h : NsIn K H n nms) : SqS K H n (nms.map V.str) := h.imp id FzT.sq
/-- a keeper stands at a -/
def KeepAt (K : PySem.W.Frag) (CK : Addr) (H : Hp) (a : Addr) (nms : List Str) (rs : List Row) : Prop := ∃ dx qn qh, H a = some (.ins CK dx (kfs qn qh)) ∧ FzT H qn (nms.map V.str) ∧ H qh = some (.lst (rs.map refR)) ∧ RA H rs
theorem KeepAt.same {K : PySem.W.Frag} {CK : Addr} {H H' : Hp} {a : Addr} {nms : List Str} {rs : List Row} (m : KeepAt K CK H a nms rs) (e : Same H H') : KeepAt K CK H' a nms rs := by
  obtain ⟨dx, qn, qh, h1, h2, h3, h4⟩ := m
  exact ⟨dx, qn, qh, e _ _ h1, h2.same e, e _ _ h3, h4.same e⟩
/-- what the keeper holds is new -/
def HNew (CK : Addr) (H H' : Hp) (x : Addr) : Prop := ∀ dx qn qh, H' x = some (.ins CK dx (kfs qn qh)) → H qh = none
theorem kfs_inj {qn qh qn' qh' : Addr} (h : kfs qn qh = kfs qn' qh') : qh = qh' := by
  have := kfs_held qn qh
  rw [h, kfs_held] at this
  cases this
  rfl
def spKInit (K : PySem.W.Frag) (CK : Addr) : Sp := fun vs H Q _ => ∃ (x dx n r : Addr) (nms : List Str) (rs : List Row), vs = [.ref x, .ref n, .ref r] ∧ H x = some (.ins CK dx []) ∧ NsIn K H n nms ∧ (∀ z ∈ nms, wordB z = true) ∧ nms.Nodup ∧ 0 < nms.length ∧ nms.length ≤ 6 ∧ SqS K H r (rs.map refR) ∧ RA H rs ∧ RowsOk nms.length rs ∧
  ∀ H', KeepB x H H' → KeepAt K CK H' x nms rs → HNew CK H H' x → Q .non H'
theorem mk_keeper {K : PySem.W.Frag} {CK n r x dx : Addr} {H : Hp} {nms : List Str} {rs : List Row} {Q : VK} {E : XK} (nx : H x = none) (nd : H dx = none) (hn : NsIn K H n nms) (hw : ∀ z ∈ nms, wordB z = true) (hnd : nms.Nodup) (h0 : 0 < nms.length) (h6 : nms.length ≤ 6) (hr : SqS K H r (rs.map refR)) (ra : RA H rs) (ok : RowsOk nms.length rs)
    (k : ∀ H', Same H H' → KeepAt K CK H' x nms rs → HNew CK H H' x → Q .non H') : spKInit K CK [.ref x, .ref n, .ref r] (upd (upd H dx (.own x)) x (.ins CK dx [])) Q E := by
  have s0 : Same H (upd (upd H dx (.own x)) x (.ins CK dx [])) := fun b o e => by
    rw [upd_ne (ne_of_none e nx), upd_ne (ne_of_none e nd)]
    exact e
  exact ⟨x, dx, n, r, nms, rs, rfl, upd_same, hn.same s0, hw, hnd, h0, h6, hr.same s0, ra.same s0, ok, fun H' kp m hn => k H' (fun b o e => kp b o (s0 b o e) (ne_of_none e nx)) m fun d n h e => s0.free (hn d n h e)⟩
def spTable (K : PySem.W.Frag) (CK : Addr) : Sp := fun vs H Q _ => ∃ (a : Addr) (nms : List Str) (rs : List Row), vs = [.ref a] ∧ KeepAt K CK H a nms rs ∧ ∀ p, H p = none → Q (.ref p) (upd H p (.lst (rs.map refR)))
def spIndexOf (K : PySem.W.Frag) (CK CNN : Addr) : Sp := fun vs H Q E => ∃ (a : Addr) (nms : List Str) (rs : List Row) (z : Str), vs = [.ref a, .str z] ∧ KeepAt K CK H a nms rs ∧ nms.Nodup ∧
  (∀ j : Nat, nms[j]? = some z → Q (.int (j : Int)) H) ∧ (z ∉ nms → ∀ d, H d = none → E (.ref CNN) (some d) (upd H d (.xd [("name", .str z)])))
def spCheckPlace (K : PySem.W.Frag) (CK CNP : Addr) : Sp := fun vs H Q E => ∃ (a : Addr) (nms : List Str) (rs : List Row) (i : Int), vs = [.ref a, .int i] ∧ KeepAt K CK H a nms rs ∧
  (0 ≤ i ∧ i < (rs.length : Int) → Q .non H) ∧ (¬ (0 ≤ i ∧ i < (rs.length : Int)) → ∀ d, H d = none → E (.ref CNP) (some d) (upd H d (.xd [("place", .int i)])))
def colM (rs : List Row) (j : Nat) : List Int := rs.map fun r => r.2.getD j 0
def spKGet (K : PySem.W.Frag) (CK CNN CNP : Addr) : Sp := fun vs H Q E => ∃ (a : Addr) (nms : List Str) (rs : List Row) (v : V), vs = [.ref a, v] ∧ KeepAt K CK H a nms rs ∧ nms.Nodup ∧ RowsOk nms.length rs ∧ rs.length ≤ 1000 ∧
  ((∃ i : Int, v = .int i ∧ (∀ (j : Nat) (r : Row), i = (j : Int) → rs[j]? = some r → Q (.ref r.1) H) ∧ (¬ (0 ≤ i ∧ i < (rs.length : Int)) → ∀ d, H d = none → E (.ref CNP) (some d) (upd H d (.xd [("place", .int i)])))) ∨
   (∃ z : Str, v = .str z ∧ (∀ j : Nat, nms[j]? = some z → ∀ H' p, Same H H' → H p = none → H' p = some (.lst ((colM rs j).map V.int)) → Q (.ref p) H') ∧ (z ∉ nms → ∀ d, H d = none → E (.ref CNN) (some d) (upd H d (.xd [("name", .str z)])))) ∨
   (∃ (t : Addr) (i : Int) (z : Str), v = .ref t ∧ H t = some (.tup [.int i, .str z]) ∧ (¬ (0 ≤ i ∧ i < (rs.length : Int)) → ∀ d, H d = none → E (.ref CNP) (some d) (upd H d (.xd [("place", .int i)]))) ∧
     (0 ≤ i ∧ i < (rs.length : Int) → z ∉ nms → ∀ d, H d = none → E (.ref CNN) (some d) (upd H d (.xd [("name", .str z)]))) ∧
     (∀ (j m : Nat) (r : Row), i = (j : Int) → rs[j]? = some r → nms[m]? = some z → Q (.int (r.2.getD m 0)) H)))
section
variable {P : Program} {w : World} {K : PySem.W.Frag} {mg : Str → Option Value} {base : Heap} {KPT CK CNN CNP : Addr}
theorem sc_k_init : FnScope ["self", "names", "rows"] ["self", "names", "rows"] (defScope s_k_init) := ⟨rfl, rfl, rfl, by decide +kernel, rfl, by decide +kernel, by decide +kernel⟩
theorem okf_kinit {f e0 : Addr} {fd : FuncData} (F : FunD K "__init__" "Keeper.__init__" (defArgs s_k_init) (defBody s_k_init) (defScope s_k_init) [.ref e0] [] f fd) (T : TxtKe K mg KPT CK) (Dcnames : Cl P w K mg base CX0 2 "check_names" (spCNames K)) (Dctable : Cl P w K mg base CX0 5 "check_table" (spCRows K)) : FnOk P w K mg base CX0 6 f fd ["self", "names", "rows"] (spKInit K CK) := by
  refine F.ok sc_k_init (fun vs H Q E h => ?_) (fun cdv A outer s H vs Q E hr h => ?_)
  · obtain ⟨x, dx, n, r, nms, rs, rfl, _⟩ := h
    rfl
  · obtain ⟨x, dx, n, r, nms, rs, rfl, hx, hn, hw, hnd, h0, h6, hR, ra, ok, k⟩ := h
    refine ⟨_, (pss_cons (ps_expr (pe_cl Dcnames hr (by decide) (by rfl) pass0 (pa_cons (pv 1) pa_nil)))
      (pss_cons (ps_expr (pe_cl Dctable hr (by decide) (by rfl) pass0 (pa_cons (pv 2) (pa_cons (pe_callB call_len_seq (by rfl) T.n_len (by decide +kernel) (pa_cons (pv 1) pa_nil)) pa_nil))))
      (pss_cons (ps_fld (pv 0) (pe_callTy call_tupleF (by rfl) T.n_tuple (by decide +kernel) (pa_cons (pv 1) pa_nil)) rfl)
      (pss_one (ps_fld (pv 0) (pe_callTy call_list_of (by rfl) T.n_list (by decide +kernel) (pa_cons (pv 2) pa_nil)) rfl))))), ?_⟩
    walk_at "rd"
    refine ⟨n, nms, rfl, hn.sq, hw, hnd, h0, h6, fun H1 s1 => ?_⟩
    walk_at "rd"
    refine ⟨n, _, rfl, (hn.same s1).sq, ?_⟩
    rw [List.length_map]
    walk_at "rd"
    refine ⟨r, nms.length, rs, rfl, hR.same s1, ra.same s1, ok, by omega, fun H2 s2 => ?_⟩
    have S2 := s1.trans s2
    have hx2 := S2 _ _ hx
    walk_at "rd"
    refine ⟨n, nms.map V.str, rfl, ?_⟩
    have tail : ∀ (H3 : Hp) (qn : Addr), Same H2 H3 → FzT H3 qn (nms.map V.str) → (H3 x = some (.ins CK dx []) ∧ KeepB x H (upd H3 x (.ins CK dx (putF "names" (.ref qn) []))) ∧ FzT (upd H3 x (.ins CK dx (putF "names" (.ref qn) []))) qn (nms.map V.str) ∧ SqS K (upd H3 x (.ins CK dx (putF "names" (.ref qn) []))) r (rs.map refR) ∧ RA (upd H3 x (.ins CK dx (putF "names" (.ref qn) []))) rs) := by
      intro H3 qn s3 hq
      have S3 := S2.trans s3
      have hx3 := S3 _ _ hx
      have kx : KeepB x H3 (upd H3 x (.ins CK dx (putF "names" (.ref qn) []))) := (KeepB.refl _ _).upd
      refine ⟨hx3, fun c o e hc => kx _ _ (S3 _ _ e) hc, FzT.kb kx hx3 (noSeq_ins _ _ _) hq, (hR.same S3).imp (fun e => kx.sqL' hx3 (noSeq_ins _ _ _) e) (fun e => kx.sqT' hx3 (noSeq_ins _ _ _) e), fun t ht => kx _ _ ((ra.same S3) t ht) (ne_of ((ra.same S3) t ht) hx3 (by intro z; cases z))⟩
    have fin : ∀ (H4 : Hp) (qn q : Addr), H4 q = none → H4 x = some (.ins CK dx (putF "names" (.ref qn) [])) → KeepB x H H4 → FzT H4 qn (nms.map V.str) → RA H4 rs → (upd H4 q (.lst (rs.map refR))) x = some (.ins CK dx (putF "names" (.ref qn) [])) ∧ Q .non (upd (upd H4 q (.lst (rs.map refR))) x (.ins CK dx (putF "held" (.ref q) (putF "names" (.ref qn) [])))) := by
      intro H4 qn q hq hx4 k4 hqn ra4
      have nxq : x ≠ q := ne_of_none hx4 hq
      have s5 := same_new (o := .lst (rs.map refR)) (Same.refl H4) hq
      have hx5 := s5 _ _ hx4
      have kx : KeepB x (upd H4 q (.lst (rs.map refR))) (upd (upd H4 q (.lst (rs.map refR))) x (.ins CK dx (putF "held" (.ref q) (putF "names" (.ref qn) [])))) := (KeepB.refl _ _).upd
      refine ⟨hx5, k _ (fun c o e hc => kx _ _ (s5 _ _ (k4 _ _ e hc)) hc) ⟨dx, qn, q, upd_same, FzT.kb kx hx5 (noSeq_ins _ _ _) (hqn.same s5), by rw [upd_ne nxq.symm]; exact upd_same, fun t ht => ?_⟩ fun d n h e => ?_⟩
      · have := (ra4.same s5) t ht
        exact kx _ _ this (ne_of this hx5 (by intro z; cases z))
      · rw [upd_same] at e
        injection e with e
        injection e with _ _ e
        have e2 : q = h := kfs_inj (qn := qn) (qn' := n) e
        rw [← e2]
        cases e3 : H q with
        | none => rfl
        | some o => exact absurd (k4 _ _ e3 nxq.symm) (by rw [hq]; intro z; cases z)
    rcases hn.same S2 with hn2 | hn2
    · refine .inl ⟨hn2, fun qn H3 nq h3 fz => ?_⟩
      obtain ⟨a1, a2, a3, a4, a5⟩ := tail H3 qn (fun b o e => (h3 b (ne_of_none e nq)).trans e) fz
      walk_at "rd"
      refine ⟨x, CK, dx, [], rfl, a1, T.ck, T.nn, (by show 0 < 1000; decide), ?_⟩
      walk_at "rd"
      refine ⟨r, _, rfl, a4, fun q hq => ?_⟩
      obtain ⟨b1, b2⟩ := fin _ qn q hq upd_same a2 a3 a5
      walk_at "rd"
      exact ⟨x, CK, dx, _, rfl, b1, T.ck, T.nh, (by show 1 < 1000; decide), b2⟩
    · refine .inr ⟨hn2.sq, ?_⟩
      obtain ⟨a1, a2, a3, a4, a5⟩ := tail _ n (Same.refl H2) hn2
      walk_at "rd"
      refine ⟨x, CK, dx, [], rfl, a1, T.ck, T.nn, (by show 0 < 1000; decide), ?_⟩
      walk_at "rd"
      refine ⟨r, _, rfl, a4, fun q hq => ?_⟩
      obtain ⟨b1, b2⟩ := fin _ n q hq upd_same a2 a3 a5
      walk_at "rd"
      exact ⟨x, CK, dx, _, rfl, b1, T.ck, T.nh, (by show 1 < 1000; decide), b2⟩
theorem sc_k_table : FnScope ["self"] ["self"] (defScope s_k_table) := ⟨rfl, rfl, rfl, by decide +kernel, rfl, by decide +kernel, by decide +kernel⟩
theorem okf_table {f : Addr} {fd : FuncData} (F : Fun K "table" "Keeper.table" s_k_table f fd) (T : TxtKe K mg KPT CK) : FnOk P w K mg base CX0 1 f fd ["self"] (spTable K CK) := by
  refine F.ok sc_k_table (fun vs H Q E h => ?_) (fun cdv A outer s H vs Q E hr h => ?_)
  · obtain ⟨a, nms, rs, rfl, _⟩ := h
    rfl
  · obtain ⟨a, nms, rs, rfl, ⟨dx, qn, qh, ha, hqn, hqh, ra⟩, k⟩ := h
    refine ⟨_, (pss_one (ps_ret (pe_callTy call_list_of (by rfl) T.n_list (by decide +kernel) (pa_cons (pe_fld (pv 0) (by rfl)) pa_nil)))), ?_⟩
    walk_at "rd"
    refine ⟨a, CK, dx, _, _, rfl, ha, T.ck, T.nh, kfs_held _ _, ?_⟩
    refine ⟨qh, _, rfl, .inl (SqL.of hqh), fun p hp => ?_⟩
    exact k p hp
theorem sc_k_index_of : FnScope ["self", "name"] ["self", "name"] (defScope s_k_index_of) := ⟨rfl, rfl, rfl, by decide +kernel, rfl, by decide +kernel, by decide +kernel⟩
theorem ok_index_of {f : Addr} {fd : FuncData} (F : Fun K "index_of" "Keeper.index_of" s_k_index_of f fd) (T : TxtKe K mg KPT CK) (XNoName : Xc P w K mg base 1 "NoName" CNN ["name"]) : FnR P w K mg base (L2.CX P w) 3 f (spIndexOf K CK CNN) := by
  refine fnrX F sc_k_index_of (fun vs H Q E h => ?_) (fun _ _ _ _ _ _ us hl => match us, hl with | [_, _], _ => rfl) (fun cdv A outer s H vs Q E hr h => ?_)
  · obtain ⟨a, nms, rs, z, rfl, _⟩ := h
    rfl
  · obtain ⟨a, nms, rs, z, rfl, ⟨dx, qn, qh, ha, hqn, hqh, ra⟩, hnd, k1, k2⟩ := h
    refine ⟨_, (pss_cons (ps_if (pt_cmpR op_notIn_seq (pv 1) (pe_fld (pv 0) (by rfl)) rfl) (pss_one (ps_raise rfl (takes_of rfl rfl rfl rfl) (pmk_x XNoName hr (by decide) (by rfl) (pa_cons (pv 1) pa_nil)))) pss_nil)
      (pss_one (ps_ret (pe_bmF PySem.F.slot_tuple_index PySem.F.type_tuple_index mt_tup_index (pe_fld (pv 0) (by rfl)) (pa_cons (pv 1) pa_nil))))), ?_⟩
    walk_at "rd"
    refine ⟨a, CK, dx, _, _, rfl, ha, T.ck, T.nn, kfs_names _ _, ?_⟩
    refine ⟨qn, _, rfl, .inr hqn.sq, rfl, flat_strs _, ?_⟩
    rw [if_pos rfl, inV_strs]
    walk_at "rd"
    by_cases c : z ∈ nms
    · refine ifF (by rw [decide_eq_true c]; rfl) ?_
      obtain ⟨j, hj⟩ := List.mem_iff_getElem?.mp c
      walk_at "rd"
      refine ⟨a, CK, dx, _, _, rfl, ha, T.ck, T.nn, kfs_names _ _, ?_⟩
      refine ⟨⟨qn, _, rfl, hqn⟩, ?_⟩
      walk_at "rd"
      refine ⟨qn, nms, z, j, rfl, rfl, hqn.sq, hj, fun m hm e => ?_, k1 j hj⟩
      have := nd_ix hnd e hj
      omega
    · refine ifT (by rw [decide_eq_false c]; rfl) ?_
      walk_at "rd"
      exact ⟨by show 1 ≤ 1000; decide, fun d hd => k2 c d hd⟩
theorem sc_k_check_place : FnScope ["self", "at"] ["self", "at"] (defScope s_k_check_place) := ⟨rfl, rfl, rfl, by decide +kernel, rfl, by decide +kernel, by decide +kernel⟩
theorem ok_check_place {f : Addr} {fd : FuncData} (F : Fun K "check_place" "Keeper.check_place" s_k_check_place f fd) (T : TxtKe K mg KPT CK) (XNoPlace : Xc P w K mg base 1 "NoPlace" CNP ["place"]) : FnR P w K mg base (L2.CX P w) 3 f (spCheckPlace K CK CNP) := by
  refine fnrX F sc_k_check_place (fun vs H Q E h => ?_) (fun _ _ _ _ _ _ us hl => match us, hl with | [_, _], _ => rfl) (fun cdv A outer s H vs Q E hr h => ?_)
  · obtain ⟨a, nms, rs, i, rfl, _⟩ := h
    rfl
  · obtain ⟨a, nms, rs, i, rfl, ⟨dx, qn, qh, ha, hqn, hqh, ra⟩, k1, k2⟩ := h
    refine ⟨_, (pss_one (ps_if (pt_not (pt_chain op_le op_lt pe_int (pv 1) (pe_callB call_len_seq (by rfl) T.n_len (by decide +kernel) (pa_cons (pe_fld (pv 0) (by rfl)) pa_nil)))) (pss_one (ps_raise rfl (takes_of rfl rfl rfl rfl) (pmk_x XNoPlace hr (by decide) (by rfl) (pa_cons (pv 1) pa_nil)))) pss_nil)), ?_⟩
    walk_at "rd"
    refine ite2 (fun c => ?_) (fun c => ?_)
    · have c1 : 0 ≤ i := of_decide_eq_true c
      walk_at "rd"
      refine ⟨a, CK, dx, _, _, rfl, ha, T.ck, T.nh, kfs_held _ _, ?_⟩
      refine ⟨qh, _, rfl, .inl (SqL.of hqh), ?_⟩
      rw [List.length_map]
      walk_at "rd"
      refine ite2 (fun c2 => ?_) (fun c2 => ?_)
      · have c3 : ¬ (i < (rs.length : Int)) := by simpa using c2
        walk_at "rd"
        exact ⟨by show 1 ≤ 1000; decide, fun d hd => k2 (fun z => c3 z.2) d hd⟩
      · have c3 : i < (rs.length : Int) := by simpa using c2
        exact k1 ⟨c1, c3⟩
    · have c1 : ¬ 0 ≤ i := fun z => c (decide_eq_true z)
      walk_at "rd"
      exact ⟨by show 1 ≤ 1000; decide, fun d hd => k2 (fun z => c1 z.1) d hd⟩
end
end MV

namespace MV
open PySem PySem.Spec PyProof.Rows L2 SB
local macro_rules | `(tactic| walk_at "rd") => `(tactic| repeat (first | (refine ⟨_, rfl, ?_⟩) | (refine ⟨_, _, rfl, rfl, ?_⟩) | (refine ⟨_, _, rfl, ?_⟩) | (refine ⟨rfl, ?_⟩)))
theorem kfs_no (qn qh : Addr) {m : Str} (h1 : ¬ (m = ("names" : Str))) (h2 : ¬ (m = ("held" : Str))) : (kfs qn qh).lookup m = none := by
  unfold kfs
  rw [lookup_putF, if_neg h2, lookup_putF, if_neg h1]
  rfl
theorem get_lt {α : Type} {xs : List α} {i : Nat} (h : i < xs.length) : ∃ y, xs[i]? = some y := ⟨xs[i], List.getElem?_eq_getElem h⟩
section
variable {P : Program} {w : World} {K : PySem.W.Frag} {mg : Str → Option Value} {base : Heap} {KPT CK CNN CNP : Addr}
theorem sc_k_getitem : FnScope ["self", "at", "k", "row", "place", "name"] ["self", "at"] (defScope s_k_getitem) := ⟨rfl, rfl, rfl, by decide +kernel, rfl, by decide +kernel, by decide +kernel⟩
theorem ok_kgetitem {f : Addr} {fd : FuncData} (F : Fun K "__getitem__" "Keeper.__getitem__" s_k_getitem f fd) (T : TxtKe K mg KPT CK) (MKindex_of : Me P w K mg base (L2.CX P w) 3 CK "index_of" (spIndexOf K CK CNN)) (MKcheck_place : Me P w K mg base (L2.CX P w) 3 CK "check_place" (spCheckPlace K CK CNP)) : FnR P w K mg base (L2.CX P w) 4 f (spKGet K CK CNN CNP) := by
  refine fnrX F sc_k_getitem (fun vs H Q E h => ?_) (fun _ _ _ _ _ _ us hl => match us, hl with | [_, _], _ => rfl) (fun cdv A outer s H vs Q E hr h => ?_)
  · obtain ⟨a, nms, rs, v, rfl, _⟩ := h
    rfl
  · obtain ⟨a, nms, rs, v, rfl, kp, hnd, ok, h1000, hv⟩ := h
    obtain ⟨dx, qn, qh, ha, hqn, hqh, ra⟩ := id kp
    refine ⟨_, (pss_cons (ps_if (pt_val (pe_callB call_isi (by rfl) T.n_isinstance (by decide +kernel) (pa_cons (pv 1) (pa_cons (pe_bltn (v := .ty "str") (by rfl) T.n_str (by decide +kernel) rfl) pa_nil)))) (pss_cons (ps_set (i := 2) sc_k_getitem.nd rfl (Or.inr rfl) (pe_mo (pv 0) T.ck MKindex_of hr (by decide) (passL rfl rfl rfl rfl) (pa_cons (pv 1) pa_nil)))
        (pss_one (ps_ret (pe_lc (own := [("row", 3)]) (by rfl) sc_k_getitem.nd (pi_list (pe_fld (pv 0) (by rfl))) (blkOk_by (own := [("row", 3)]) (N := ["self", "at", "k", "row", "place", "name"]) (sc := defScope s_k_getitem) (by first | decide +kernel | kernel_rfl)) (fun _ _ _ _ _ => (pg_name (i := 3) sc_k_getitem.nd rfl (Or.inl rfl))) (fun _ _ _ _ _ => by exact pts_nil) (fun _ _ _ _ _ => by exact (pe_ix (ix_tupK (K := K) (by rfl)) (pv 3) (pv 2) (fun _ _ => rfl))))))) pss_nil)
      (pss_cons (ps_if (pt_val (pe_callB call_isi (by rfl) T.n_isinstance (by decide +kernel) (pa_cons (pv 1) (pa_cons (pe_bltn (v := .ty "tuple") (by rfl) T.n_tuple (by decide +kernel) rfl) pa_nil)))) (pss_cons (ps_asg (pv 1) (pg_tup rfl (pgs_cons (pg_name (i := 4) sc_k_getitem.nd rfl (Or.inl rfl)) (pgs_cons (pg_name (i := 5) sc_k_getitem.nd rfl (Or.inl rfl)) pgs_nil))))
        (pss_cons (ps_expr (pe_mo (pv 0) T.ck MKcheck_place hr (by decide) (passL rfl rfl rfl rfl) (pa_cons (pv 4) pa_nil)))
        (pss_one (ps_ret (pe_ix ix_tup (by exact (pe_ix ix_list (by exact (pe_fld (pv 0) (by rfl))) (pv 4) (fun _ _ => rfl))) (by exact (pe_mo (pv 0) T.ck MKindex_of hr (by decide) (passL rfl rfl rfl rfl) (pa_cons (pv 5) pa_nil))) (fun _ _ => rfl)))))) pss_nil)
      (pss_cons (ps_expr (pe_mo (pv 0) T.ck MKcheck_place hr (by decide) (passL rfl rfl rfl rfl) (pa_cons (pv 1) pa_nil)))
      (pss_one (ps_ret (pe_ix ix_list (by exact (pe_fld (pv 0) (by rfl))) (pv 1) (fun _ _ => rfl))))))), ?_⟩
    rcases hv with ⟨i, rfl, k1, k2⟩ | ⟨z, rfl, k1, k2⟩ | ⟨t, i, z, rfl, ht, k1, k2, k3⟩
    · walk_at "rd"
      refine ⟨_, _, _, _, _, rfl, .ty _, .base (.int i), kit_ty (r := false) (by decide +kernel), ?_⟩
      walk_at "rd"
      refine ⟨_, _, _, _, _, rfl, .ty _, .base (.int i), kit_ty (r := false) (by decide +kernel), ?_⟩
      walk_at "rd"
      refine ⟨a, dx, _, rfl, ha, kfs_no qn qh (by decide +kernel) (by decide +kernel), ?_⟩
      walk_at "rd"
      refine ⟨a, nms, rs, i, rfl, kp, fun hi => ?_, k2⟩
      walk_at "rd"
      refine ⟨a, CK, dx, _, _, rfl, ha, T.ck, T.nh, kfs_held _ _, ?_⟩
      obtain ⟨j, rfl⟩ := Int.eq_ofNat_of_zero_le hi.1
      obtain ⟨r, hr⟩ := get_lt (xs := rs) (i := j) (by omega)
      walk_at "rd"
      refine ⟨qh, _, (j : Int), .ref r.1, rfl, rfl, SqL.of hqh, atI_nat (by rw [List.getElem?_map, hr]; rfl), ?_⟩
      exact k1 j r rfl hr
    · walk_at "rd"
      refine ⟨_, _, _, _, _, rfl, .ty _, .base (.str z), kit_ty (r := true) (by decide +kernel), ?_⟩
      walk_at "rd"
      refine ⟨a, dx, _, rfl, ha, kfs_no qn qh (by decide +kernel) (by decide +kernel), ?_⟩
      walk_at "rd"
      refine ⟨a, nms, rs, z, rfl, kp, hnd, fun j hj => ?_, k2⟩
      walk_at "rd"
      refine ⟨a, CK, dx, _, _, rfl, ha, T.ck, T.nh, kfs_held _ _, ?_⟩
      refine ⟨qh, rfl, ⟨_, SqL.of hqh⟩, fun D hD => ?_⟩
      have s1 := same_new (o := .lst []) (Same.refl H) hD
      have lj := (List.getElem?_eq_some_iff.mp hj).1
      refine lc_it (walk_list (xs := rs.map refR)) (fun i H' => KeepB D (upd H D (.lst [])) H' ∧ H' D = some (.lst ((colM (rs.take i) j).map V.int))) ⟨KeepB.refl _ _, upd_same⟩ ?_ ?_ ?_
      · rintro i H' _ ⟨kq, _⟩
        exact SqL.of (kq _ _ (s1 _ _ hqh) (ne_of_none hqh hD))
      · rintro i x Hz H' hi ⟨kq, hD'⟩ ⟨rfl, hx⟩
        rw [List.getElem?_map] at hx
        obtain ⟨r, hr, rfl⟩ := Option.map_eq_some_iff.mp hx
        have hm := List.mem_of_getElem? hr
        have tk : rs.take (i + 1) = rs.take i ++ [r] := by
          rw [List.take_add_one, hr]
          rfl
        obtain ⟨y, hy⟩ := get_lt (xs := r.2) (i := j) (by rw [(ok r hm).1]; exact lj)
        have hrt := kq _ _ (s1 _ _ (ra r hm)) (ne_of_none (ra r hm) hD)
        walk_at "rd"
        refine ⟨r.1, _, (j : Int), .int y, rfl, rfl, SqT.of hrt, atI_nat (by rw [List.getElem?_map, hy]; rfl), ?_⟩
        refine ⟨_, hD', by unfold colM; rw [List.length_map, List.length_map, List.length_take]; exact lt_line (by omega), kq.upd, ?_⟩
        rw [upd_same, tk]
        unfold colM
        rw [List.map_append, List.map_append]
        show _ = some (HO.lst (_ ++ [V.int (r.2.getD j 0)]))
        rw [List.getD_eq_getElem?_getD, hy]
        rfl
      · rintro H2 ⟨kp2, hD2⟩
        have hl : (rs.map refR).length = rs.length := List.length_map _
        rw [hl, List.take_length] at hD2
        exact k1 j hj H2 D (fun c o e => kp2 _ _ (s1 _ _ e) (ne_of_none e hD)) hD hD2
    · walk_at "rd"
      refine ⟨_, _, _, _, _, rfl, .ty _, tyT (SqT.of ht), kit_ty (r := false) (by decide +kernel), ?_⟩
      walk_at "rd"
      refine ⟨_, _, _, _, _, rfl, .ty _, tyT (SqT.of ht), kit_ty (r := true) (by decide +kernel), ?_⟩
      walk_at "rd"
      refine ⟨t, _, rfl, SqT.of ht, rfl, ?_⟩
      walk_at "rd"
      refine ⟨a, dx, _, rfl, ha, kfs_no qn qh (by decide +kernel) (by decide +kernel), ?_⟩
      walk_at "rd"
      refine ⟨a, nms, rs, i, rfl, kp, fun hi => ?_, k1⟩
      walk_at "rd"
      refine ⟨a, CK, dx, _, _, rfl, ha, T.ck, T.nh, kfs_held _ _, ?_⟩
      obtain ⟨j, rfl⟩ := Int.eq_ofNat_of_zero_le hi.1
      obtain ⟨r, hr⟩ := get_lt (xs := rs) (i := j) (by omega)
      have hm := List.mem_of_getElem? hr
      walk_at "rd"
      refine ⟨qh, _, (j : Int), .ref r.1, rfl, rfl, SqL.of hqh, atI_nat (by rw [List.getElem?_map, hr]; rfl), ?_⟩
      walk_at "rd"
      refine ⟨a, dx, _, rfl, ha, kfs_no qn qh (by decide +kernel) (by decide +kernel), ?_⟩
      walk_at "rd"
      refine ⟨a, nms, rs, z, rfl, kp, hnd, fun m hm2 => ?_, k2 hi⟩
      have lj := (List.getElem?_eq_some_iff.mp hm2).1
      obtain ⟨y, hy⟩ := get_lt (xs := r.2) (i := m) (by rw [(ok r hm).1]; exact lj)
      refine ⟨r.1, _, (m : Int), .int y, rfl, rfl, SqT.of (ra r hm), atI_nat (by rw [List.getElem?_map, hy]; rfl), ?_⟩
      have := k3 j m r rfl hr hm2
      rw [List.getD_eq_getElem?_getD, hy] at this
      exact this
end
end MV

namespace MV
open PySem PySem.Spec PyProof.Rows L2 SB MM LamX
/-- the six refusals of the keepers -/
def six (CBN CBR CNP CNN CM CDL : Addr) : List Rc := [(CBN, "BadNames", ["at"]), (CBR, "BadRow", ["at"]), (CNP, "NoPlace", ["place"]), (CNN, "NoName", ["name"]), (CM, "Mismatch", ["wanted", "got"]), (CDL, "DifferentLists", ["one", "other"])]
theorem cut_le (z : Str) (a c : Option Int) : (cutS z a c).length ≤ z.length := by
  unfold cutS
  rw [← len_cps, ← len_cps]
  simp
  omega
theorem ok_all {z : Str} (h : ∀ c ∈ z.cps.toList, c < 0x110000) : PyData.strOk z = true := by
  unfold PyData.strOk
  rw [← Array.all_toList, List.all_eq_true]
  exact fun c hc => decide_eq_true (h c hc)
theorem all_ok {z : Str} (h : PyData.strOk z = true) : ∀ c ∈ z.cps.toList, c < 0x110000 := by
  unfold PyData.strOk at h
  rw [← Array.all_toList, List.all_eq_true] at h
  exact fun c hc => of_decide_eq_true (h c hc)
theorem cut_ok {z : Str} (a c : Option Int) (h : PyData.strOk z = true) : PyData.strOk (cutS z a c) = true := by
  refine ok_all fun d hd => all_ok h d ?_
  unfold cutS at hd
  exact List.mem_of_mem_drop (List.mem_of_mem_take hd)
theorem NmOk.sok {z : Str} (h : NmOk z) : PyData.strOk z = true := by
  obtain ⟨c, cs, e, hf, hlow, _⟩ := h
  refine ok_all fun d hd => ?_
  have := hlow d (by rw [← e]; exact hd)
  unfold Low at this
  omega
end MV

namespace MV
open PySem PySem.Spec PyProof.Rows L2 SB MM LamX
local macro_rules | `(tactic| walk_at "rd") => `(tactic| repeat (first | (refine ⟨_, rfl, ?_⟩) | (refine ⟨_, _, rfl, rfl, ?_⟩) | (refine ⟨_, _, rfl, ?_⟩) | (refine ⟨rfl, ?_⟩)))
/-- the name of the lambda of a def -/
def lamQ (qual : Str) (sc : Scope) : Str := (envOfC qual sc 0 0 .none).qual ++ "<lambda>"
section
variable {K : PySem.W.Frag} {H H' : Hp}
theorem ext_sqL {a : Addr} {xs : List V} (e : ExtN H H') (h : SqL K H a xs) : SqL K H' a xs := by
  rcases h with (h | ⟨o, h⟩) | h
  · exact .inl (.inl (e _ _ h fun _ z => by cases z))
  · exact .inl (.inr ⟨o, e _ _ h fun _ z => by cases z⟩)
  · exact .inr h
theorem ext_sqT {a : Addr} {xs : List V} (e : ExtN H H') (h : SqT K H a xs) : SqT K H' a xs := by
  rcases h with (h | ⟨o, h⟩) | h
  · exact .inl (.inl (e _ _ h fun _ z => by cases z))
  · exact .inl (.inr ⟨o, e _ _ h fun _ z => by cases z⟩)
  · exact .inr h
mutual
theorem dp_ext (e : ExtN H H') : ∀ {v : V} {d : PyData}, Dp K H v d → Dp K H' v d
  | _, _, .non => .non
  | _, _, .bl b => .bl b
  | _, _, .int i => .int i
  | _, _, .str x => .str x
  | _, _, .lst h q => .lst (ext_sqL e h) (dpAll_ext e q)
  | _, _, .tup h q => .tup (ext_sqT e h) (dpAll_ext e q)
theorem dpAll_ext (e : ExtN H H') : ∀ {vs : List V} {ds : List PyData}, DpAll K H vs ds → DpAll K H' vs ds
  | _, _, .nil => .nil
  | _, _, .cons h q => .cons (dp_ext e h) (dpAll_ext e q)
end
theorem KeepAt.ext {CK a : Addr} {nms : List Str} {rs : List Row} (m : KeepAt K CK H a nms rs) (e : ExtN H H') : KeepAt K CK H' a nms rs := by
  obtain ⟨dx, qn, qh, h1, ⟨o, h2, h2'⟩, h3, h4⟩ := m
  exact ⟨dx, qn, qh, e _ _ h1 (fun _ z => by cases z), ⟨o, e _ _ h2 (fun _ z => by cases z), h2'⟩, e _ _ h3 (fun _ z => by cases z), fun t ht => e _ _ (h4 t ht) (fun _ z => by cases z)⟩
theorem tabs_same {T : List (Addr × Str)} (t : Tabs T H) (e : Same H H') : Tabs T H' := t.ext e
theorem ext_same (e : Same H H') : ExtN H H' := ExtN.of e
end
/-! all but the bag b and the tables of code objects stays -/
def KeX (b : Addr) (H H' : Hp) : Prop := ∀ c o, H c = some o → c ≠ b → (∀ ps, o ≠ .tbl ps) → H' c = some o
section
variable {K : PySem.W.Frag} {H H' H2 : Hp} {b : Addr}
theorem KeX.refl (b : Addr) (H : Hp) : KeX b H H := fun _ _ e _ _ => e
theorem KeX.trans (x : KeX b H H') (y : KeX b H' H2) : KeX b H H2 := fun c o e n t => y c o (x c o e n t) n t
theorem KeX.of_keep (x : KeepB b H H') : KeX b H H' := fun c o e n _ => x c o e n
theorem KeX.of_ext (x : ExtN H H') : KeX b H H' := fun c o e _ t => x c o e t
theorem KeX.of_same (x : Same H H') : KeX b H H' := fun c o e _ _ => x c o e
theorem KeX.lst {c : Addr} {xs : List V} (x : KeX b H H') (h : H c = some (.lst xs)) (n : c ≠ b) : H' c = some (.lst xs) := x c _ h n fun _ z => by cases z
theorem KeX.keep {CK a : Addr} {nms : List Str} {rs : List Row} {l : List V} (e : KeX b H H') (hb : H b = some (.lst l)) (m : KeepAt K CK H a nms rs) (hq : ∀ dx qn qh, H a = some (.ins CK dx (kfs qn qh)) → qh ≠ b) : KeepAt K CK H' a nms rs := by
  obtain ⟨dx, qn, qh, h1, ⟨o, h2, h2'⟩, h3, h4⟩ := m
  exact ⟨dx, qn, qh, e _ _ h1 (ne_of h1 hb (by intro z; cases z)) (fun _ z => by cases z), ⟨o, e _ _ h2 (ne_of h2 hb (by intro z; cases z)) (fun _ z => by cases z), h2'⟩, e _ _ h3 (hq _ _ _ h1) (fun _ z => by cases z), fun t ht => e _ _ (h4 t ht) (ne_of (h4 t ht) hb (by intro z; cases z)) (fun _ z => by cases z)⟩
theorem tabs_keep {T : List (Addr × Str)} {l : List V} (hT : Tabs T H) (hb : H b = some (.lst l)) (kp : KeepB b H H') : Tabs T H' := by
  intro p hp
  obtain ⟨tb, h1, h2, h3⟩ := hT p hp
  refine ⟨tb, kp _ _ h1 (by intro z; rw [z, hb] at h1; cases h1), h2, fun pos cv hcv => ?_⟩
  obtain ⟨cx, e1, e2⟩ := h3 pos cv hcv
  exact ⟨cx, e1, kp _ _ e2 (by intro z; rw [z, hb] at e2; have e3 := Option.some.inj e2; unfold CodeO at e3; cases e3)⟩
end
theorem sh_two {a b : PyData} (h1 : Sh a) (h2 : Sh b) : ∀ d ∈ [a, b], Sh d := fun d hd => by
  rcases List.mem_cons.mp hd with z | z
  · rw [z]; exact h1
  · rw [List.mem_singleton.mp z]; exact h2
theorem sh_str {z : Str} (h : PyData.strOk z = true) : Sh (.str z) := ⟨h, Nat.zero_le _⟩
theorem sh_int (i : Int) : Sh (.int i) := ⟨rfl, Nat.zero_le _⟩
end MV

namespace MV
open PySem PySem.Spec PyProof.Rows L2 SB MM LamX
/-- no number: none, a bool, a text, a sequence apart from b, an int out of the line -/
def NoN (b : Addr) (H : Hp) (v : V) : Prop := v = .non ∨ (∃ c, v = .bl c) ∨ (∃ i, v = .int i ∧ ¬ NumOk i) ∨ (∃ z, v = .str z) ∨ (∃ p xs, v = .ref p ∧ p ≠ b ∧ (H p = some (.lst xs) ∨ H p = some (.tup xs)))
theorem NoN.kex {b : Addr} {H H' : Hp} {v : V} (h : NoN b H v) (e : KeX b H H') : NoN b H' v := by
  rcases h with h | h | h | h | ⟨p, xs, h, n, h2⟩
  · exact .inl h
  · exact .inr (.inl h)
  · exact .inr (.inr (.inl h))
  · exact .inr (.inr (.inr (.inl h)))
  · refine .inr (.inr (.inr (.inr ⟨p, xs, h, n, ?_⟩)))
    exact h2.imp (fun z => e _ _ z n fun _ z => by cases z) (fun z => e _ _ z n fun _ z => by cases z)
theorem NoN.plain {K : PySem.W.Frag} {b : Addr} {H : Hp} {v : V} (h : NoN b H v) : Plain K H v ∧ numV v = false := by
  rcases h with rfl | ⟨c, rfl⟩ | ⟨i, rfl, hi⟩ | ⟨z, rfl⟩ | ⟨p, xs, rfl, n, h2⟩
  · exact ⟨.inr ⟨"NoneType", by simp, .base .non⟩, rfl⟩
  · exact ⟨.inr ⟨"bool", by simp, .base (.bl c)⟩, rfl⟩
  · exact ⟨.inl ⟨i, rfl⟩, decide_eq_false hi⟩
  · exact ⟨.inr ⟨"str", by simp, .base (.str z)⟩, rfl⟩
  · rcases h2 with h2 | h2
    · exact ⟨.inr ⟨"list", by simp, tyL (SqL.of h2)⟩, rfl⟩
    · exact ⟨.inr ⟨"tuple", by simp, tyT (SqT.of h2)⟩, rfl⟩
def spNoNum : Sp := fun vs H Q _ => ∃ (b : Addr) (l : List V) (n : Nat), vs = [.ref b] ∧ H b = some (.lst l) ∧ BagL l n ∧ n + 10 < 1000000 ∧
  ∀ (H' : Hp) (v : V) (l' : List V), KeepB b H H' → H' b = some (.lst l') → BagL l' (n + 1) → NoN b H' v → Q v H'
/-- an item of a row that is told -/
def ItN (b : Addr) (H : Hp) (x : V) : Prop := (∃ i, x = .int i) ∨ NoN b H x
theorem ItN.kex {b : Addr} {H H' : Hp} {v : V} (h : ItN b H v) (e : KeX b H H') : ItN b H' v := h.imp id fun z => z.kex e
theorem ItN.plain {K : PySem.W.Frag} {b : Addr} {H : Hp} {v : V} (h : ItN b H v) : Plain K H v := by
  rcases h with h | h
  · exact .inl h
  · exact h.plain.1
/-- no row of that width -/
def NoR (b : Addr) (H : Hp) (wd : Nat) (v : V) : Prop := v = .non ∨ (∃ i, v = .int i) ∨ (∃ z, v = .str z) ∨ (∃ p xs, v = .ref p ∧ p ≠ b ∧ H p = some (.lst xs)) ∨
  (∃ p xs, v = .ref p ∧ p ≠ b ∧ H p = some (.tup xs) ∧ (∀ x ∈ xs, ItN b H x) ∧ xs.length ≤ 1000 ∧ (decide (xs.length = wd) && xs.all numV) = false)
theorem NoR.kex {b : Addr} {H H' : Hp} {wd : Nat} {v : V} (h : NoR b H wd v) (e : KeX b H H') : NoR b H' wd v := by
  rcases h with h | h | h | ⟨p, xs, h, n, h2⟩ | ⟨p, xs, h, n, h2, h3, h4⟩
  · exact .inl h
  · exact .inr (.inl h)
  · exact .inr (.inr (.inl h))
  · exact .inr (.inr (.inr (.inl ⟨p, xs, h, n, e _ _ h2 n fun _ z => by cases z⟩)))
  · exact .inr (.inr (.inr (.inr ⟨p, xs, h, n, e _ _ h2 n (fun _ z => by cases z), fun x hx => (h3 x hx).kex e, h4⟩)))
theorem catA_of {K : PySem.W.Frag} {H : Hp} {a b : Addr} {xs ys : List V} {Q : VK} (ha : H a = some (.tup xs)) (hb : H b = some (.tup ys)) (hz : xs.length + ys.length ≤ sizeLine) (k : ∀ q H', Same H H' → H' q = some (.tup (xs ++ ys)) → Q (.ref q) H') : rCatA K (.ref a) (.ref b) H Q := by
  refine ⟨a, b, xs, ys, rfl, rfl, SqT.of ha, SqT.of hb, hz, fun e => ?_, fun e1 e => ?_, fun _ _ p hp => k p _ (same_new (Same.refl H) hp) upd_same⟩
  · exact k b H (Same.refl H) (by rw [hb, e]; rfl)
  · exact k a H (Same.refl H) (by rw [ha, e, List.append_nil])
theorem cut_to (xs : List V) (k : Nat) (h : k ≤ xs.length) : cutV xs none (some (k : Int)) = xs.take k := by
  unfold cutV
  rw [HT.sIx_none, HT.sIx_nat, List.drop_zero, Nat.sub_zero, Nat.min_eq_left h]
theorem cut_from (xs : List V) (k : Nat) (h : k ≤ xs.length) : cutV xs (some (k : Int)) none = xs.drop k := by
  unfold cutV
  rw [HT.sIx_none, HT.sIx_nat, Nat.min_eq_left h, List.take_of_length_le (by rw [List.length_drop]; omega)]
theorem slT_to {K : PySem.W.Frag} {H : Hp} {a : Addr} {xs : List V} {Q : VK} {k : Nat} (ha : H a = some (.tup xs)) (h : k < xs.length) (q : ∀ p, H p = none → Q (.ref p) (upd H p (.tup (xs.take k)))) : rSlT K (.ref a) none (some (k : Int)) H Q := by
  refine ⟨a, xs, rfl, SqT.of ha, fun z => ?_, fun p hp => ?_⟩
  · have := z.2
    rw [HT.sIx_nat] at this
    omega
  · rw [cut_to _ _ (by omega)]
    exact q p hp
theorem slT_from {K : PySem.W.Frag} {H : Hp} {a : Addr} {xs : List V} {Q : VK} {k : Nat} (ha : H a = some (.tup xs)) (h : k < xs.length) (q : ∀ p, H p = none → Q (.ref p) (upd H p (.tup (xs.drop (k + 1))))) : rSlT K (.ref a) (some ((k : Int) + 1)) none H Q := by
  have e : ((k : Int) + 1) = ((k + 1 : Nat) : Int) := by omega
  rw [e]
  refine ⟨a, xs, rfl, SqT.of ha, fun z => ?_, fun p hp => ?_⟩
  · have := z.1
    rw [HT.sIx_nat] at this
    omega
  · rw [cut_from _ _ (by omega)]
    exact q p hp
def spNoRow : Sp := fun vs H Q _ => ∃ (b t : Addr) (xs : List Int) (l : List V) (n : Nat), vs = [.ref b, .ref t] ∧ H b = some (.lst l) ∧ BagL l n ∧ n + 20 < 1000000 ∧ H t = some (.tup (xs.map V.int)) ∧ 0 < xs.length ∧ xs.length ≤ 10 ∧
  ∀ (H' : Hp) (v : V) (l' : List V), KeepB b H H' → H' b = some (.lst l') → BagL l' (n + 10) → NoR b H' xs.length v → Q v H'
end MV

namespace MV
open PySem PySem.Spec PyProof.Rows L2 SB MM LamX
/-! How a heap goes on: all but the addresses in L stays; kinds stay; the tables of code objects are told anew. -/
theorem st_nil {σ : L2.St} {H : Hp} {Q : List V → Hp → Prop} (h : Q [] H) : tNil σ H Q := h
theorem st_cons {ta : TE} {tr : TA} {σ : L2.St} {H : Hp} {Q : List V → Hp → Prop} (h : ta σ H fun x H1 => tr σ H1 fun xs H2 => Q (x :: xs) H2) : tCons ta tr σ H Q := h
theorem st_C {v : V} {σ : L2.St} {H : Hp} {Q : VK} (h : Q v H) : tC v σ H Q := h
def Fix : HO → Prop
  | .tup _ => True
  | .frz _ (.tup _) => True
  | .frz _ (.lst _) => True
  | .frz _ (.dK _) => True
  | _ => False
def NT (o : HO) : Prop := ∀ ps, o ≠ .tbl ps
def Kin : HO → HO → Prop
  | .lst _, o => ∃ xs, o = .lst xs
  | .ins C _ _, o => ∃ dx fs, o = .ins C dx fs
  | .dK _, o => ∃ kvs, o = .dK kvs
  | .dT _, o => ∃ kvs, o = .dT kvs
  | o, o' => o' = o
theorem Kin.refl : ∀ o : HO, Kin o o
  | .lst _ => ⟨_, rfl⟩
  | .ins _ _ _ => ⟨_, _, rfl⟩
  | .dK _ => ⟨_, rfl⟩
  | .tup _ => rfl
  | .dT _ => ⟨_, rfl⟩
  | .set _ _ => rfl
  | .own _ => rfl
  | .xd _ => rfl
  | .met _ _ => rfl
  | .rng _ _ => rfl
  | .frz _ _ => rfl
  | .tbl _ => rfl
  | .ext _ => rfl
theorem Kin.nt {o o' : HO} (k : Kin o o') (n : NT o) : NT o' := by
  intro ps e
  subst e
  cases o with
  | tbl _ => exact absurd rfl (n _)
  | lst _ => obtain ⟨_, z⟩ := k; cases z
  | dK _ => obtain ⟨_, z⟩ := k; cases z
  | dT _ => obtain ⟨_, z⟩ := k; cases z
  | ins _ _ _ => obtain ⟨_, _, z⟩ := k; cases z
  | _ => have z : HO.tbl ps = _ := k; cases z
theorem Kin.trans {a b c : HO} (x : Kin a b) (y : Kin b c) : Kin a c := by
  cases a with
  | lst _ => obtain ⟨_, rfl⟩ := x; exact y
  | dK _ => obtain ⟨_, rfl⟩ := x; exact y
  | dT _ => obtain ⟨_, rfl⟩ := x; exact y
  | ins _ _ _ => obtain ⟨_, _, rfl⟩ := x; exact y
  | _ => have e : b = _ := x; rw [e] at y; exact y
structure Ev (TS : List (Addr × Str)) (L : List Addr) (H H' : Hp) : Prop where
  st : ∀ p o, H p = some o → (p ∈ L → Fix o) → NT o → H' p = some o
  kd : ∀ p o, H p = some o → NT o → ∃ o', H' p = some o' ∧ Kin o o'
  tb : Tabs TS H → Tabs TS H'
/-- unlike addresses, seen from H -/
def NeH (_ : Hp) (p q : Addr) : Prop := p ≠ q
def Nin (H : Hp) (p : Addr) : List Addr → Prop
  | [] => True
  | q :: r => NeH H p q ∧ Nin H p r
theorem Nin.no {H : Hp} {p : Addr} : ∀ {L : List Addr}, Nin H p L → p ∉ L
  | [], _, h => nomatch h
  | q :: r, ⟨h1, h2⟩, h => by
    rcases List.mem_cons.mp h with z | z
    · exact h1 z
    · exact h2.no z
/-- allocated -/
def Al (H : Hp) (p : Addr) : Prop := ∃ o, H p = some o ∧ NT o
def Out (H : Hp) (L : List Addr) : List Addr → Prop
  | [] => True
  | q :: r => (q ∈ L ∨ ¬ Al H q) ∧ Out H L r
theorem Out.at_ {H : Hp} {L : List Addr} : ∀ {M : List Addr}, Out H L M → ∀ q ∈ M, q ∈ L ∨ ¬ Al H q
  | [], _, _, h => nomatch h
  | m :: r, ⟨h1, h2⟩, q, h => by
    rcases List.mem_cons.mp h with z | z
    · rw [z]; exact h1
    · exact h2.at_ q z
section
variable {TS : List (Addr × Str)} {K : PySem.W.Frag} {H H1 H' : Hp} {L L1 : List Addr} {p q a b : Addr} {xs ys : List V}
theorem Al.lst (h : H p = some (.lst xs)) : Al H p := ⟨_, h, fun _ z => by cases z⟩
theorem Al.tup (h : H p = some (.tup xs)) : Al H p := ⟨_, h, fun _ z => by cases z⟩
theorem Al.ins {C dx : Addr} {fs : List (Str × V)} (h : H p = some (.ins C dx fs)) : Al H p := ⟨_, h, fun _ z => by cases z⟩
theorem Al.dK {kvs : List (Key × V)} (h : H p = some (.dK kvs)) : Al H p := ⟨_, h, fun _ z => by cases z⟩
theorem Al.dT {kvs : List (List Key × V)} (h : H p = some (.dT kvs)) : Al H p := ⟨_, h, fun _ z => by cases z⟩
theorem Al.ev (e : Ev TS L H H') (h : Al H p) : Al H' p := by
  obtain ⟨o, h, n⟩ := h
  obtain ⟨o', h', k⟩ := e.kd p o h n
  exact ⟨o', h', k.nt n⟩
theorem Al.ne (hq : H1 q = none) (h : Al H1 p) : NeH H p q := by
  obtain ⟨o, h, _⟩ := h
  exact ne_of_none h hq
/-- new -/
def NA (H : Hp) (p : Addr) : Prop := ¬ Al H p
theorem NA.ne (hq : NA H1 q) (h : Al H1 p) : NeH H p q := fun e => by
  subst e
  exact hq h
theorem NA.ens (hq : NA H1 p) (h : Al H1 q) : NeH H p q := fun e => by
  subst e
  exact hq h
theorem NA.of (h : H q = none) : NA H q := fun ⟨o, e, _⟩ => by
  rw [h] at e
  cases e
/-- kinds -/
def isL (H : Hp) (p : Addr) : Prop := ∃ xs, H p = some (.lst xs)
def isI (H : Hp) (p : Addr) : Prop := ∃ C dx fs, H p = some (.ins C dx fs)
theorem isL.of (h : H p = some (.lst xs)) : isL H p := ⟨_, h⟩
theorem isI.of {C dx : Addr} {fs : List (Str × V)} (h : H p = some (.ins C dx fs)) : isI H p := ⟨_, _, _, h⟩
theorem isL.ev (e : Ev TS L H H') (h : isL H p) : isL H' p := by
  obtain ⟨xs, h⟩ := h
  obtain ⟨o', h', ys, rfl⟩ := e.kd p _ h fun _ z => by cases z
  exact ⟨ys, h'⟩
theorem isI.ev (e : Ev TS L H H') (h : isI H p) : isI H' p := by
  obtain ⟨C, dx, fs, h⟩ := h
  obtain ⟨o', h', dy, ys, rfl⟩ := e.kd p _ h fun _ z => by cases z
  exact ⟨_, _, ys, h'⟩
theorem NeH.symm (h : NeH H p q) : NeH H q p := Ne.symm h
theorem NeH.of (h : p ≠ q) : NeH H p q := h
theorem NeH.ofs (h : q ≠ p) : NeH H p q := Ne.symm h
theorem neLI (h : isL H p) (h' : isI H q) : NeH H p q := by
  obtain ⟨xs, h⟩ := h
  obtain ⟨C, dx, fs, h'⟩ := h'
  exact ne_of h h' (by intro z; cases z)
theorem neIL (h : isI H p) (h' : isL H q) : NeH H p q := (neLI h' h).symm
theorem Al.ens (hq : H1 p = none) (h : Al H1 q) : NeH H p q := (Al.ne (H := H) hq h).symm
theorem isL.al (h : isL H p) : Al H p := by
  obtain ⟨xs, h⟩ := h
  exact Al.lst h
theorem isI.al (h : isI H p) : Al H p := by
  obtain ⟨C, dx, fs, h⟩ := h
  exact Al.ins h
def Le (H H' : Hp) : Prop := ∀ p, Al H p → Al H' p
theorem Le.refl (H : Hp) : Le H H := fun _ h => h
theorem Le.ev (e : Ev TS L H1 H') (l : Le H H1) : Le H H' := fun p h => (l p h).ev e
theorem Le.nal (h : H1 q = none) (l : Le H H1) : ¬ Al H q := fun z => by
  obtain ⟨o, e, _⟩ := l q z
  rw [h] at e
  cases e
theorem Le.na (h : NA H1 q) (l : Le H H1) : NA H q := fun z => h (l q z)
theorem Ev.refl (L : List Addr) (H : Hp) : Ev TS L H H := ⟨fun _ _ h _ _ => h, fun _ o h _ => ⟨o, h, Kin.refl o⟩, id⟩
theorem Ev.trans (x : Ev TS L H H1) (y : Ev TS L1 H1 H') (h : Out H L L1) : Ev TS L H H' := by
  refine ⟨fun p o e f n => ?_, fun p o e n => ?_, fun t => y.tb (x.tb t)⟩
  · refine y.st p o (x.st p o e f n) (fun hp => ?_) n
    rcases h.at_ p hp with z | z
    · exact f z
    · exact absurd ⟨o, e, n⟩ z
  · obtain ⟨o1, e1, k1⟩ := x.kd p o e n
    obtain ⟨o2, e2, k2⟩ := y.kd p o1 e1 (k1.nt n)
    exact ⟨o2, e2, k1.trans k2⟩
theorem Ev.trans' (y : Ev TS L1 H1 H') (x : Ev TS L H H1) (h : Out H L L1) : Ev TS L H H' := x.trans y h
theorem ev_tabs (e : Ev TS L H H') (h : Tabs TS H) : Tabs TS H' := e.tb h
theorem Ev.mono (x : Ev TS L H H') (h : ∀ p ∈ L, p ∈ L1) : Ev TS L1 H H' := ⟨fun p o e f n => x.st p o e (fun z => f (h p z)) n, x.kd, x.tb⟩
/-- what is new there was not here -/
theorem Ev.nal (x : Ev TS L H H1) (h : H1 q = none) : ¬ Al H q := fun z => by
  obtain ⟨o, e, _⟩ := z.ev x
  rw [h] at e
  cases e
theorem nal0 (h : H q = none) : ¬ Al H q := fun ⟨o, e, _⟩ => by
  rw [h] at e
  cases e
theorem tabs_upd {o o' : HO} (hT : Tabs TS H) (h : H p = some o) (n : NT o) (nx : ∀ φ, o ≠ .ext φ) : Tabs TS (upd H p o') := by
  intro t ht
  obtain ⟨tb, h1, h2, h3⟩ := hT t ht
  refine ⟨tb, by rw [upd_ne (ne_of h1 h (fun z => n _ z.symm))]; exact h1, h2, fun pos cv hcv => ?_⟩
  obtain ⟨cx, e1, e2⟩ := h3 pos cv hcv
  exact ⟨cx, e1, by rw [upd_ne (ne_of e2 h (fun z => nx _ (by unfold CodeO at z; exact z.symm)))]; exact e2⟩
theorem Ev.same (e : Same H H') : Ev TS [] H H' := ⟨fun p o h _ _ => e p o h, fun p o h _ => ⟨o, e p o h, Kin.refl o⟩, fun t => t.ext e⟩
theorem Ev.new {o : HO} (h : H p = none) : Ev TS [] H (upd H p o) := Ev.same (same_new (Same.refl H) h)
theorem Ev.upd_ {o o' : HO} (h : H p = some o) (hf : ¬ Fix o) (n : NT o) (nx : ∀ φ, o ≠ .ext φ) (k : Kin o o') : Ev TS [p] H (upd H p o') := by
  refine ⟨fun q u e f _ => ?_, fun q u e nu => ?_, fun t => tabs_upd t h n nx⟩
  · by_cases c : q = p
    · subst c
      rw [h] at e
      cases e
      exact absurd (f (List.mem_singleton.mpr rfl)) hf
    · rw [upd_ne c]
      exact e
  · by_cases c : q = p
    · subst c
      rw [h] at e
      cases e
      exact ⟨o', upd_same, k⟩
    · exact ⟨u, by rw [upd_ne c]; exact e, Kin.refl u⟩
theorem Ev.setL (h : H p = some (.lst xs)) : Ev TS [p] H (upd H p (.lst ys)) := Ev.upd_ h (fun z => z) (fun _ z => by cases z) (fun _ z => by cases z) ⟨_, rfl⟩
theorem Ev.setI {C dx : Addr} {fs gs : List (Str × V)} (h : H p = some (.ins C dx fs)) : Ev TS [p] H (upd H p (.ins C dx gs)) := Ev.upd_ h (fun z => z) (fun _ z => by cases z) (fun _ z => by cases z) ⟨_, _, rfl⟩
theorem Ev.setD {kvs kws : List (Key × V)} (h : H p = some (.dK kvs)) : Ev TS [p] H (upd H p (.dK kws)) := Ev.upd_ h (fun z => z) (fun _ z => by cases z) (fun _ z => by cases z) ⟨_, rfl⟩
theorem Ev.setT {kvs kws : List (List Key × V)} (h : H p = some (.dT kvs)) : Ev TS [p] H (upd H p (.dT kws)) := Ev.upd_ h (fun z => z) (fun _ z => by cases z) (fun _ z => by cases z) ⟨_, rfl⟩
theorem Ev.keepB (h : H b = some (.lst xs)) (h' : H' b = some (.lst ys)) (k : KeepB b H H') : Ev TS [b] H H' := by
  refine ⟨fun q u e f _ => ?_, fun q u e _ => ?_, fun t => tabs_keep t h k⟩
  · by_cases c : q = b
    · subst c
      rw [h] at e
      cases e
      exact (f (List.mem_singleton.mpr rfl)).elim
    · exact k q u e c
  · by_cases c : q = b
    · subst c
      rw [h] at e
      cases e
      exact ⟨_, h', ⟨_, rfl⟩⟩
    · exact ⟨u, k q u e c, Kin.refl u⟩
theorem tabs_keepI {C dx : Addr} {fs : List (Str × V)} (hT : Tabs TS H) (h : H a = some (.ins C dx fs)) (k : KeepB a H H') : Tabs TS H' := by
  intro t ht
  obtain ⟨tb, h1, h2, h3⟩ := hT t ht
  refine ⟨tb, k _ _ h1 (ne_of h1 h (by intro z; cases z)), h2, fun pos cv hcv => ?_⟩
  obtain ⟨cx, e1, e2⟩ := h3 pos cv hcv
  exact ⟨cx, e1, k _ _ e2 (ne_of e2 h (by intro z; unfold CodeO at z; cases z))⟩
theorem Ev.keepI {C dx dx' : Addr} {fs fs' : List (Str × V)} (h : H a = some (.ins C dx fs)) (h' : H' a = some (.ins C dx' fs')) (k : KeepB a H H') : Ev TS [a] H H' := by
  refine ⟨fun q u e f _ => ?_, fun q u e _ => ?_, fun t => tabs_keepI t h k⟩
  · by_cases c : q = a
    · subst c
      rw [h] at e
      cases e
      exact (f (List.mem_singleton.mpr rfl)).elim
    · exact k q u e c
  · by_cases c : q = a
    · subst c
      rw [h] at e
      cases e
      exact ⟨_, h', ⟨_, _, rfl⟩⟩
    · exact ⟨u, k q u e c, Kin.refl u⟩
theorem Ev.ext (e : ExtN H H') (t : Tabs TS H') : Ev TS [] H H' := ⟨fun p o h _ n => e p o h n, fun p o h n => ⟨o, e p o h n, Kin.refl o⟩, fun _ => t⟩
/-! facts that go on -/
theorem ev_tup (e : Ev TS L H H') (h : H p = some (.tup xs)) : H' p = some (.tup xs) := e.st _ _ h (fun _ => trivial) fun _ z => by cases z
theorem ev_frzT {o : Obj} (e : Ev TS L H H') (h : H p = some (.frz o (.tup xs))) : H' p = some (.frz o (.tup xs)) := e.st _ _ h (fun _ => trivial) fun _ z => by cases z
theorem ev_lst (e : Ev TS L H H') (h : H p = some (.lst xs)) (n : Nin H p L) : H' p = some (.lst xs) := e.st _ _ h (fun z => absurd z n.no) fun _ z => by cases z
theorem ev_ins {C dx : Addr} {fs : List (Str × V)} (e : Ev TS L H H') (h : H p = some (.ins C dx fs)) (n : Nin H p L) : H' p = some (.ins C dx fs) := e.st _ _ h (fun z => absurd z n.no) fun _ z => by cases z
theorem ev_dK {kvs : List (Key × V)} (e : Ev TS L H H') (h : H p = some (.dK kvs)) (n : Nin H p L) : H' p = some (.dK kvs) := e.st _ _ h (fun z => absurd z n.no) fun _ z => by cases z
theorem ev_dT {kvs : List (List Key × V)} (e : Ev TS L H H') (h : H p = some (.dT kvs)) (n : Nin H p L) : H' p = some (.dT kvs) := e.st _ _ h (fun z => absurd z n.no) fun _ z => by cases z
theorem ev_xd {fs : List (Str × V)} (e : Ev TS L H H') (h : H p = some (.xd fs)) (n : Nin H p L) : H' p = some (.xd fs) := e.st _ _ h (fun z => absurd z n.no) fun _ z => by cases z
theorem ev_ra {rs : List Row} (e : Ev TS L H H') (h : RA H rs) : RA H' rs := fun r hr => ev_tup e (h r hr)
theorem ev_fzT (e : Ev TS L H H') (h : FzT H p xs) : FzT H' p xs := by
  obtain ⟨o, h, hd⟩ := h
  exact ⟨o, ev_frzT e h, hd⟩
theorem ev_sqT (e : Ev TS L H H') (h : SqT K H p xs) : SqT K H' p xs := by
  rcases h with (h | ⟨o, h⟩) | h
  · exact .inl (.inl (ev_tup e h))
  · exact .inl (.inr ⟨o, ev_frzT e h⟩)
  · exact .inr h
theorem ev_sqL (e : Ev TS L H H') (h : SqL K H p xs) (n : Nin H p L) : SqL K H' p xs := by
  rcases h with (h | ⟨o, h⟩) | h
  · exact .inl (.inl (ev_lst e h n))
  · exact .inl (.inr ⟨o, e.st _ _ h (fun _ => trivial) fun _ z => by cases z⟩)
  · exact .inr h
/-- a locked or written list stays -/
def ScrL (K : PySem.W.Frag) (H : Hp) (p : Addr) (xs : List V) : Prop := (∃ o, H p = some (.frz o (.lst xs))) ∨ ∃ (o : Obj) (its : Array Value) (n : Nat), K.lookup p = some o ∧ o.cls = .type "list" ∧ o.dict = none ∧ o.data = .seq its n ∧ its.size ≤ sizeLine ∧ Vals xs its.toList
/-- the draws stand at b, asked at most n times -/
def BagB (H : Hp) (b : Addr) (n : Nat) : Prop := ∃ l, H b = some (.lst l) ∧ BagL l n
theorem ev_bag {n : Nat} (e : Ev TS L H H') (h : BagB H b n) (hn : Nin H b L) : BagB H' b n := by
  obtain ⟨l, h, hl⟩ := h
  exact ⟨l, ev_lst e h hn, hl⟩
theorem BagB.mono {n m : Nat} (h : BagB H b n) (hm : n ≤ m) : BagB H b m := by
  obtain ⟨l, h, hl⟩ := h
  exact ⟨l, h, hl.mono hm⟩
theorem isL.bag {n : Nat} (h : BagB H b n) : isL H b := by
  obtain ⟨l, h, hl⟩ := h
  exact ⟨_, h⟩
theorem Al.bag {n : Nat} (h : BagB H b n) : Al H b := by
  obtain ⟨l, h, hl⟩ := h
  exact Al.lst h
/-- rows stand in the list at p -/
def LR (H : Hp) (p : Addr) (rows : List (List Int)) : Prop := ∃ rs : List Row, H p = some (.lst (rs.map refR)) ∧ RA H rs ∧ rs.map Prod.snd = rows
theorem ev_lr {rows : List (List Int)} (e : Ev TS L H H') (h : LR H p rows) (n : Nin H p L) : LR H' p rows := by
  obtain ⟨rs, h1, h2, h3⟩ := h
  exact ⟨rs, ev_lst e h1 n, ev_ra e h2, h3⟩
theorem isL.lr {rows : List (List Int)} (h : LR H p rows) : isL H p := by
  obtain ⟨rs, h1, h2, h3⟩ := h
  exact ⟨_, h1⟩
theorem Al.lr {rows : List (List Int)} (h : LR H p rows) : Al H p := by
  obtain ⟨rs, h1, h2, h3⟩ := h
  exact Al.lst h1
/-- a keeper stands at a, its rows in the list at qh -/
def KQ (CK : Addr) (H : Hp) (a qh : Addr) (nms : List Str) (rows : List (List Int)) : Prop := ∃ (dx qn : Addr) (rs : List Row), H a = some (.ins CK dx (kfs qn qh)) ∧ FzT H qn (nms.map V.str) ∧ H qh = some (.lst (rs.map refR)) ∧ RA H rs ∧ rs.map Prod.snd = rows
theorem ev_kq {CK qh : Addr} {nms : List Str} {rows : List (List Int)} (e : Ev TS L H H') (h : KQ CK H a qh nms rows) (n : Nin H a L) (n2 : Nin H qh L) : KQ CK H' a qh nms rows := by
  obtain ⟨dx, qn, rs, h1, h2, h3, h4, h5⟩ := h
  exact ⟨dx, qn, rs, ev_ins e h1 n, ev_fzT e h2, ev_lst e h3 n2, ev_ra e h4, h5⟩
theorem KQ.al {CK qh : Addr} {nms : List Str} {rows : List (List Int)} (h : KQ CK H a qh nms rows) : Al H a := by
  obtain ⟨dx, qn, rs, h1, h2, h3, h4, h5⟩ := h
  exact Al.ins h1
theorem KQ.alq {CK qh : Addr} {nms : List Str} {rows : List (List Int)} (h : KQ CK H a qh nms rows) : Al H qh := by
  obtain ⟨dx, qn, rs, h1, h2, h3, h4, h5⟩ := h
  exact Al.lst h3
theorem KQ.isI {CK qh : Addr} {nms : List Str} {rows : List (List Int)} (h : KQ CK H a qh nms rows) : isI H a := by
  obtain ⟨dx, qn, rs, h1, h2, h3, h4, h5⟩ := h
  exact ⟨_, _, _, h1⟩
theorem KQ.isL {CK qh : Addr} {nms : List Str} {rows : List (List Int)} (h : KQ CK H a qh nms rows) : isL H qh := by
  obtain ⟨dx, qn, rs, h1, h2, h3, h4, h5⟩ := h
  exact ⟨_, h3⟩
theorem KQ.at_ {CK qh : Addr} {nms : List Str} {rows : List (List Int)} (h : KQ CK H a qh nms rows) : ∃ rs, KeepAt K CK H a nms rs ∧ rs.map Prod.snd = rows ∧ ∀ dx qn q, H a = some (.ins CK dx (kfs qn q)) → q = qh := by
  obtain ⟨dx, qn, rs, h1, h2, h3, h4, h5⟩ := h
  refine ⟨rs, ⟨dx, qn, qh, h1, h2, h3, h4⟩, h5, fun dx' qn' q e => ?_⟩
  rw [h1] at e
  injection e with e
  injection e with _ _ e
  exact (kfs_inj (qn := qn) (qn' := qn') e).symm
theorem KeepAt.kq {CK : Addr} {nms : List Str} {rs : List Row} (h : KeepAt K CK H a nms rs) : ∃ qh, KQ CK H a qh nms (rs.map Prod.snd) := by
  obtain ⟨dx, qn, qh, h1, h2, h3, h4⟩ := h
  exact ⟨qh, dx, qn, rs, h1, h2, h3, h4, rfl⟩
/-- a tuple stands there -/
def isT (H : Hp) (p : Addr) : Prop := ∃ xs, H p = some (.tup xs)
theorem isT.ev (e : Ev TS L H H') (h : isT H p) : isT H' p := by
  obtain ⟨xs, h⟩ := h
  exact ⟨xs, ev_tup e h⟩
/-- a value that is no number -/
def Od (H : Hp) (v : V) : Prop := v = .non ∨ (∃ c, v = .bl c) ∨ (∃ i, v = .int i ∧ ¬ NumOk i) ∨ (∃ z, v = .str z) ∨ (∃ p, v = .ref p ∧ (isL H p ∨ isT H p))
theorem ev_od {v : V} (e : Ev TS L H H') (h : Od H v) : Od H' v := by
  rcases h with h | h | h | h | ⟨p, h, h2⟩
  · exact .inl h
  · exact .inr (.inl h)
  · exact .inr (.inr (.inl h))
  · exact .inr (.inr (.inr (.inl h)))
  · exact .inr (.inr (.inr (.inr ⟨p, h, h2.imp (fun z => z.ev e) (fun z => z.ev e)⟩)))
theorem Od.plain {v : V} (h : Od H v) : Plain K H v ∧ numV v = false := by
  rcases h with rfl | ⟨c, rfl⟩ | ⟨i, rfl, hi⟩ | ⟨z, rfl⟩ | ⟨p, rfl, h2⟩
  · exact ⟨.inr ⟨"NoneType", by simp, .base .non⟩, rfl⟩
  · exact ⟨.inr ⟨"bool", by simp, .base (.bl c)⟩, rfl⟩
  · exact ⟨.inl ⟨i, rfl⟩, decide_eq_false hi⟩
  · exact ⟨.inr ⟨"str", by simp, .base (.str z)⟩, rfl⟩
  · rcases h2 with ⟨_, h2⟩ | ⟨_, h2⟩
    · exact ⟨.inr ⟨"list", by simp, tyL (SqL.of h2)⟩, rfl⟩
    · exact ⟨.inr ⟨"tuple", by simp, tyT (SqT.of h2)⟩, rfl⟩
theorem NoN.od {v : V} (h : NoN b H v) : Od H v := by
  rcases h with h | h | h | h | ⟨p, xs, h, _, h2⟩
  · exact .inl h
  · exact .inr (.inl h)
  · exact .inr (.inr (.inl h))
  · exact .inr (.inr (.inr (.inl h)))
  · exact .inr (.inr (.inr (.inr ⟨p, h, h2.imp (fun z => ⟨_, z⟩) (fun z => ⟨_, z⟩)⟩)))
/-- a number, or no number -/
def Cel (H : Hp) (v : V) : Prop := (∃ i, v = .int i) ∨ Od H v
theorem ev_cel {v : V} (e : Ev TS L H H') (h : Cel H v) : Cel H' v := h.imp id fun z => ev_od e z
def Cels (H : Hp) (ws : List V) : Prop := ∀ x ∈ ws, Cel H x
theorem ev_cels {ws : List V} (e : Ev TS L H H') (h : Cels H ws) : Cels H' ws := fun x hx => ev_cel e (h x hx)
theorem Cel.plain {v : V} (h : Cel H v) : Plain K H v := by
  rcases h with h | h
  · exact .inl h
  · exact h.plain.1
/-- no row of that width -/
def OdR (H : Hp) (wd : Nat) (v : V) : Prop := v = .non ∨ (∃ i, v = .int i) ∨ (∃ z, v = .str z) ∨ (∃ p, v = .ref p ∧ isL H p) ∨ (∃ p xs, v = .ref p ∧ H p = some (.tup xs) ∧ (∀ x ∈ xs, Cel H x) ∧ xs.length ≤ 1000 ∧ (decide (xs.length = wd) && xs.all numV) = false)
theorem ev_odR {v : V} {wd : Nat} (e : Ev TS L H H') (h : OdR H wd v) : OdR H' wd v := by
  rcases h with h | h | h | ⟨p, h, h2⟩ | ⟨p, xs, h, h2, h3, h4⟩
  · exact .inl h
  · exact .inr (.inl h)
  · exact .inr (.inr (.inl h))
  · exact .inr (.inr (.inr (.inl ⟨p, h, h2.ev e⟩)))
  · exact .inr (.inr (.inr (.inr ⟨p, xs, h, ev_tup e h2, fun x hx => ev_cel e (h3 x hx), h4⟩)))
theorem NoR.odR {v : V} {wd : Nat} (h : NoR b H wd v) : OdR H wd v := by
  rcases h with h | h | h | ⟨p, xs, h, _, h2⟩ | ⟨p, xs, h, _, h2, h3, h4⟩
  · exact .inl h
  · exact .inr (.inl h)
  · exact .inr (.inr (.inl h))
  · exact .inr (.inr (.inr (.inl ⟨p, h, ⟨_, h2⟩⟩)))
  · exact .inr (.inr (.inr (.inr ⟨p, xs, h, h2, fun x hx => (h3 x hx).imp id fun z => z.od, h4⟩)))
theorem new_facts {o : HO} (h : upd H p o = H') (hp : H p = none) : Ev TS [] H H' ∧ H' p = some o := h ▸ ⟨Ev.new hp, upd_same⟩
theorem set_facts (h : upd H p (.lst ys) = H') (hp : H p = some (.lst xs)) : Ev TS [p] H H' ∧ H' p = some (.lst ys) := h ▸ ⟨Ev.setL hp, upd_same⟩
theorem setI_facts {C dx : Addr} {fs gs : List (Str × V)} (h : upd H p (.ins C dx gs) = H') (hp : H p = some (.ins C dx fs)) : Ev TS [p] H H' ∧ H' p = some (.ins C dx gs) := h ▸ ⟨Ev.setI hp, upd_same⟩
theorem setD_facts {kvs kws : List (Key × V)} (h : upd H p (.dK kws) = H') (hp : H p = some (.dK kvs)) : Ev TS [p] H H' ∧ H' p = some (.dK kws) := h ▸ ⟨Ev.setD hp, upd_same⟩
theorem setT_facts {kvs kws : List (List Key × V)} (h : upd H p (.dT kws) = H') (hp : H p = some (.dT kvs)) : Ev TS [p] H H' ∧ H' p = some (.dT kws) := h ▸ ⟨Ev.setT hp, upd_same⟩
/-! answers with the heap behind them unnamed -/
variable {Q : VK}
theorem a_lst (hz : xs.length ≤ sizeLine) (k : ∀ p H', H p = none → Ev TS [] H H' → H' p = some (.lst xs) → Q (.ref p) H') : xs.length ≤ sizeLine ∧ ∀ p, H p = none → Q (.ref p) (upd H p (.lst xs)) := ⟨hz, fun p hp => k p _ hp (Ev.new hp) upd_same⟩
theorem a_tup (hz : xs.length ≤ sizeLine) (k : ∀ p H', H p = none → Ev TS [] H H' → H' p = some (.tup xs) → Q (.ref p) H') : xs.length ≤ sizeLine ∧ ∀ p, H p = none → Q (.ref p) (upd H p (.tup xs)) := ⟨hz, fun p hp => k p _ hp (Ev.new hp) upd_same⟩
theorem a_newL (k : ∀ p H', H p = none → Ev TS [] H H' → H' p = some (.lst xs) → Q (.ref p) H') : ∀ p, H p = none → Q (.ref p) (upd H p (.lst xs)) := fun p hp => k p _ hp (Ev.new hp) upd_same
theorem a_newT (k : ∀ p H', H p = none → Ev TS [] H H' → H' p = some (.tup xs) → Q (.ref p) H') : ∀ p, H p = none → Q (.ref p) (upd H p (.tup xs)) := fun p hp => k p _ hp (Ev.new hp) upd_same
theorem a_catT (ha : H a = some (.tup xs)) (hb : H b = some (.tup ys)) (hz : xs.length + ys.length ≤ sizeLine) (k : ∀ q H', Ev TS [] H H' → H' q = some (.tup (xs ++ ys)) → Q (.ref q) H') : rCatA K (.ref a) (.ref b) H Q := catA_of ha hb hz fun q H' s h => k q H' (Ev.same s) h
theorem a_slTto {k : Nat} (ha : H a = some (.tup xs)) (h : k < xs.length) (q : ∀ p H', H p = none → Ev TS [] H H' → H' p = some (.tup (xs.take k)) → Q (.ref p) H') : rSlT K (.ref a) none (some (k : Int)) H Q := slT_to ha h fun p hp => q p _ hp (Ev.new hp) upd_same
theorem a_slTfrom {k : Nat} (ha : H a = some (.tup xs)) (h : k < xs.length) (q : ∀ p H', H p = none → Ev TS [] H H' → H' p = some (.tup (xs.drop (k + 1))) → Q (.ref p) H') : rSlT K (.ref a) (some ((k : Int) + 1)) none H Q := slT_from ha h fun p hp => q p _ hp (Ev.new hp) upd_same
theorem a_append {v : V} (h : H p = some (.lst xs)) (hz : xs.length < sizeLine) (k : ∀ H', Ev TS [p] H H' → H' p = some (.lst (xs ++ [v])) → Q .non H') : rAppend (.ref p) [v] H Q := ⟨p, xs, v, rfl, rfl, h, hz, k _ (Ev.setL h) upd_same⟩
theorem a_cat (ha : H a = some (.lst xs)) (hb : H b = some (.lst ys)) (hz : xs.length + ys.length ≤ sizeLine) (k : ∀ q H', H q = none → Ev TS [] H H' → H' q = some (.lst (xs ++ ys)) → Q (.ref q) H') : rCat (.ref a) (.ref b) H Q := ⟨a, b, xs, ys, rfl, rfl, ha, hb, hz, fun p hp => k p _ hp (Ev.new hp) upd_same⟩
theorem a_setL {v : V} {j : Nat} {Qh : Hp → Prop} (h : H p = some (.lst xs)) (hj : j < xs.length) (k : ∀ H', Ev TS [p] H H' → H' p = some (.lst (xs.set j v)) → Qh H') : rSetL (.ref p) (.int (j : Int)) v H Qh := ⟨p, xs, (j : Int), j, rfl, rfl, h, ixN_nat hj, k _ (Ev.setL h) upd_same⟩
/-! the law's own defs -/
theorem bag_ok {E : XK} {ns : List Int} {i : Int} (h : SqL K H a (ns.map V.int)) (h0 : 0 ≤ i) (h1 : i ≤ 100) (hz : ns.length ≤ 1000) (k : ∀ b H', H b = none → Ev TS [] H H' → BagB H' b 0 → Q (.ref b) H') : spBag K [.ref a, .int i] H Q E :=
  ⟨a, ns, i, rfl, h, h0, h1, hz, fun b l hb hl => k b _ hb (Ev.new hb) ⟨l, upd_same, hl⟩⟩
theorem take_ok {E : XK} {n : Nat} {many : Int} (h : BagB H b n) (hn : n < 1000000) (h0 : 0 < many) (h1 : many < 2 ^ 200) (k : ∀ r H', 0 ≤ r → r < many → Ev TS [b] H H' → BagB H' b (n + 1) → Q (.int r) H') : spTake [.ref b, .int many] H Q E := by
  obtain ⟨l, hb, hl⟩ := h
  exact ⟨b, many, l, n, rfl, hb, hl, hn, h0, h1, fun r l' r0 r1 hl' => k r _ r0 r1 (Ev.setL hb) ⟨l', upd_same, hl'⟩⟩
theorem number_ok {E : XK} {n : Nat} (h : BagB H b n) (hn : n + 3 < 1000000) (k : ∀ i H', NumOk i → Ev TS [b] H H' → BagB H' b (n + 3) → Q (.int i) H') : spNumber [.ref b] H Q E := by
  obtain ⟨l, hb, hl⟩ := h
  exact ⟨b, l, n, rfl, hb, hl, hn, fun r l' r0 hl' => k r _ r0 (Ev.setL hb) ⟨l', upd_same, hl'⟩⟩
theorem count_ok {E : XK} {n most : Nat} (h : BagB H b n) (hn : n + 2 < 1000000) (h1 : most ≤ 100000) (k : ∀ (r : Nat) H', (r ≤ 6 ∨ r ≤ most) → Ev TS [b] H H' → BagB H' b (n + 2) → Q (.int (r : Int)) H') : spCount [.ref b, .int (most : Int)] H Q E := by
  obtain ⟨l, hb, hl⟩ := h
  exact ⟨b, most, l, n, rfl, hb, hl, hn, h1, fun r l' r0 hl' => k r _ r0 (Ev.setL hb) ⟨l', upd_same, hl'⟩⟩
theorem of_ok {E : XK} {n : Nat} (h : BagB H b n) (hp : H p = some (.lst xs)) (np : NeH H p b) (hn : n < 1000000) (h0 : 0 < xs.length) (h1 : xs.length ≤ 100000) (k : ∀ (j : Nat) x H', xs[j]? = some x → Ev TS [b] H H' → BagB H' b (n + 1) → Q x H') : spOf K [.ref b, .ref p] H Q E := by
  obtain ⟨l, hb, hl⟩ := h
  exact ⟨b, p, l, xs, n, rfl, hb, hl, hn, hp, np, h0, h1, fun j x l' hx hl' => k j x _ hx (Ev.setL hb) ⟨l', upd_same, hl'⟩⟩
theorem ofS_ok {E : XK} {n : Nat} {z : Str} (h : BagB H b n) (hn : n < 1000000) (h0 : 0 < z.length) (h1 : z.length ≤ 1000) (k : ∀ c H', c ∈ z.cps.toList → Ev TS [b] H H' → BagB H' b (n + 1) → Q (.str ⟨#[c]⟩) H') : spOfS [.ref b, .str z] H Q E := by
  obtain ⟨l, hb, hl⟩ := h
  exact ⟨b, z, l, n, rfl, hb, hl, hn, h0, h1, fun c l' hx hl' => k c _ hx (Ev.setL hb) ⟨l', upd_same, hl'⟩⟩
theorem name_ok {E : XK} {n : Nat} (h : BagB H b n) (hn : n + 10 < 1000000) (k : ∀ z H', NmOk z → Ev TS [b] H H' → BagB H' b (n + 10) → Q (.str z) H') : spName [.ref b] H Q E := by
  obtain ⟨l, hb, hl⟩ := h
  exact ⟨b, l, n, rfl, hb, hl, hn, fun c l' hx hl' => k c _ hx (Ev.setL hb) ⟨l', upd_same, hl'⟩⟩
theorem names_ok {E : XK} {n m : Nat} (h : BagB H b n) (hn : n + 20 * m + 20 < 1000000) (h0 : 0 < m) (h1 : m ≤ 10) (k : ∀ p nms H', H p = none → H' p = some (.lst (nms.map V.str)) → NmsOk nms → 0 < nms.length → nms.length ≤ m → Ev TS [b] H H' → BagB H' b (n + 20 * m + 20) → Q (.ref p) H') : spNames [.ref b, .int (m : Int)] H Q E := by
  obtain ⟨l, hb, hl⟩ := h
  exact ⟨b, m, l, n, rfl, hb, hl, hn, h0, h1, fun H' p l' nms kb hb' hl' np hp ok l0 l1 => k p nms H' np hp ok l0 l1 (Ev.keepB hb hb' kb) ⟨l', hb', hl'⟩⟩
/-- rows of that width -/
def WF (wd : Nat) (rows : List (List Int)) : Prop := ∀ r ∈ rows, r.length = wd ∧ ∀ i ∈ r, NumOk i
theorem RowsOk.wf {wd : Nat} {rs : List Row} (h : RowsOk wd rs) : WF wd (rs.map Prod.snd) := fun r hr => by
  obtain ⟨t, ht, rfl⟩ := List.mem_map.mp hr
  exact h t ht
theorem WF.ok {wd : Nat} {rs : List Row} (h : WF wd (rs.map Prod.snd)) : RowsOk wd rs := fun r hr => h r.2 (List.mem_map.mpr ⟨r, hr, rfl⟩)
theorem rows_ok {E : XK} {n m wd : Nat} (h : BagB H b n) (hn : n + m * 100 < 1000000) (h0 : m ≤ 1000) (h1 : wd ≤ 10) (k : ∀ p rows H', H p = none → LR H' p rows → WF wd rows → rows.length = m → Ev TS [b] H H' → BagB H' b (n + m * 100) → Q (.ref p) H') : spRows [.ref b, .int (m : Int), .int (wd : Int)] H Q E := by
  obtain ⟨l, hb, hl⟩ := h
  exact ⟨b, m, wd, l, n, rfl, hb, hl, hn, h0, h1, fun H' p l' rs kb hb' hl' np hp ra ok hm => k p _ H' np ⟨rs, hp, ra, rfl⟩ ok.wf (by rw [List.length_map, hm]) (Ev.keepB hb hb' kb) ⟨l', hb', hl'⟩⟩
theorem nonum_ok {E : XK} {n : Nat} (h : BagB H b n) (hn : n + 10 < 1000000) (k : ∀ v H', Od H' v → Ev TS [b] H H' → BagB H' b (n + 1) → Q v H') : spNoNum [.ref b] H Q E := by
  obtain ⟨l, hb, hl⟩ := h
  exact ⟨b, l, n, rfl, hb, hl, hn, fun H' v l' kb hb' hl' nn => k v H' nn.od (Ev.keepB hb hb' kb) ⟨l', hb', hl'⟩⟩
theorem norow_ok {E : XK} {n : Nat} {t : Addr} {r : List Int} (h : BagB H b n) (ht : H t = some (.tup (r.map V.int))) (hn : n + 20 < 1000000) (h0 : 0 < r.length) (h1 : r.length ≤ 10) (k : ∀ v H', OdR H' r.length v → Ev TS [b] H H' → BagB H' b (n + 10) → Q v H') : spNoRow [.ref b, .ref t] H Q E := by
  obtain ⟨l, hb, hl⟩ := h
  exact ⟨b, t, r, l, n, rfl, hb, hl, hn, ht, h0, h1, fun H' v l' kb hb' hl' nn => k v H' nn.odR (Ev.keepB hb hb' kb) ⟨l', hb', hl'⟩⟩
/-! loops -/
/-- the list that is made stands at D -/
def LcI (I : List V → Hp → Prop) (D : Addr) (H : Hp) : Prop := ∃ acc, H D = some (.lst acc) ∧ I acc H
theorem lc_put {I : List V → Hp → Prop} {D : Addr} {acc : List V} {y : V} (h : H D = some (.lst acc)) (hz : acc.length < sizeLine) (k : ∀ H5, Ev TS [D] H H5 → H5 D = some (.lst (acc ++ [y])) → I (acc ++ [y]) H5) :
    ∃ acc, H D = some (.lst acc) ∧ acc.length < sizeLine ∧ LcI I D (upd H D (.lst (acc ++ [y]))) := ⟨acc, h, hz, acc ++ [y], upd_same, k _ (Ev.setL h) upd_same⟩
theorem lc_ev {J : It} {n : Nat} {G : Hp → Prop} {Y : Nat → Hp → V → Hp → Prop} (w : Walk J n G Y) {g : TG} {tt : TT} {te : TE} {vs : List Nat} {σ : L2.St} {H1 : Hp} {D : Addr} {Qd : Hp → Prop} (hD : H1 D = none) (I : Nat → List V → Hp → Prop) (h0 : ∀ H2, Ev TS [] H1 H2 → H2 D = some (.lst []) → I 0 [] H2) (hG : ∀ i acc H, i ≤ n → I i acc H → H D = some (.lst acc) → G H)
    (hs : ∀ i x acc H H', i < n → I i acc H → H D = some (.lst acc) → Y i H x H' → g x (wipe σ vs) H' fun σ2 H2 => wipe σ2 vs = wipe σ vs ∧ tt σ2 H2 fun b H3 =>
      if b = true then te σ2 H3 fun y H4 => ∃ acc, H4 D = some (.lst acc) ∧ acc.length < sizeLine ∧ LcI (I (i + 1)) D (upd H4 D (.lst (acc ++ [y]))) else LcI (I (i + 1)) D H3) (hd : ∀ acc H, I n acc H → H D = some (.lst acc) → Qd H) :
    ∃ W : Nat → Nat → Hp → Prop, (∃ m, W 0 m (upd H1 D (.lst []))) ∧ ∀ i m H, W i m H →
      (J.stop i H ∧ Qd H) ∨ (J.go i H ∧ ∃ Nx : Hp → Prop, (∀ H', Nx H' → ∃ m', m' < m ∧ W (i + 1) m' H') ∧ ∀ x H', J.yld i H x H' → g x (wipe σ vs) H' fun σ2 H2 => wipe σ2 vs = wipe σ vs ∧ tt σ2 H2 fun b H3 =>
        if b = true then te σ2 H3 fun y H4 => ∃ acc, H4 D = some (.lst acc) ∧ acc.length < sizeLine ∧ Nx (upd H4 D (.lst (acc ++ [y]))) else Nx H3) := by
  refine lc_it w (fun i H => LcI (I i) D H) ⟨[], upd_same, h0 _ (Ev.new hD) upd_same⟩ (fun i H hi ⟨acc, h1, h2⟩ => hG i acc H hi h2 h1) ?_ (fun H ⟨acc, h1, h2⟩ => hd acc H h2 h1)
  rintro i x H H' hi ⟨acc, h1, h2⟩ y
  exact hs i x acc H H' hi h2 h1 y
theorem a_neD {x y : V} {d e : PyData} (hd : Dp K H x d) (he : Dp K H y e) (sd : SeqAt.shaped d = true) (se : SeqAt.shaped e = true) (k : Q (.bl (!PyData.eqv d e)) H) : rNeD K x y H Q := ⟨d, e, hd, he, sd, se, k⟩
theorem a_eqD {x y : V} {d e : PyData} (hd : Dp K H x d) (he : Dp K H y e) (sd : SeqAt.shaped d = true) (se : SeqAt.shaped e = true) (k : Q (.bl (PyData.eqv d e)) H) : rEqD K x y H Q := ⟨d, e, hd, he, sd, se, k⟩
theorem a_neI {xs ys : List Int} (hp : H p = some (.lst (xs.map V.int))) (hq : H q = some (.lst (ys.map V.int))) (k : Q (.bl (!decide (xs = ys))) H) : rNeD K (.ref p) (.ref q) H Q := by
  refine a_neD (dp_ints (SqL.of hp)) (dp_ints (SqL.of hq)) (shaped_list (sh_ints _)) (shaped_list (sh_ints _)) ?_
  rw [eqv_list, eqvAll_ints]
  exact k
def rowsD (rows : List (List Int)) : List PyData := rows.map fun r => PyData.tuple (r.map PyData.int)
theorem sh_rowsD (rows : List (List Int)) : ∀ d ∈ rowsD rows, Sh d := fun d hd => by
  obtain ⟨r, _, rfl⟩ := List.mem_map.mp hd
  exact (sh_seq (k := 0) (fun d hd => by
    obtain ⟨n, _, rfl⟩ := List.mem_map.mp hd
    exact ⟨rfl, Nat.le_refl _⟩) (by decide)).2
theorem LR.dp {rows : List (List Int)} (h : LR H p rows) : Dp K H (.ref p) (.list (rowsD rows)) := by
  obtain ⟨rs, h1, h2, rfl⟩ := h
  have e : rowsD (rs.map Prod.snd) = rs.map fun r => PyData.tuple (r.2.map PyData.int) := by
    unfold rowsD
    rw [List.map_map]
    rfl
  rw [e]
  exact .lst (SqL.of h1) h2.dp
theorem eqvAll_rows : ∀ a b : List (List Int), PyData.eqvAll (rowsD a) (rowsD b) = decide (a = b)
  | [], [] => rfl
  | [], _ :: _ => rfl
  | _ :: _, [] => rfl
  | x :: a, y :: b => by
    show (PyData.eqv (.tuple (x.map PyData.int)) (.tuple (y.map PyData.int)) && PyData.eqvAll (rowsD a) (rowsD b)) = decide (x :: a = y :: b)
    rw [eqvAll_rows a b, eqv_tuple, eqvAll_ints, ← Bool.decide_and]
    exact decide_eq_decide.mpr ⟨fun h => by rw [h.1, h.2], fun h => by injection h with h1 h2; exact ⟨h1, h2⟩⟩
theorem a_eqR {r1 r2 : List (List Int)} (hp : LR H p r1) (hq : LR H q r2) (k : Q (.bl (decide (r1 = r2))) H) : rEqD K (.ref p) (.ref q) H Q := by
  refine a_eqD hp.dp hq.dp (shaped_list (sh_rowsD _)) (shaped_list (sh_rowsD _)) ?_
  rw [eqv_list, eqvAll_rows]
  exact k
theorem a_neR {r1 r2 : List (List Int)} (hp : LR H p r1) (hq : LR H q r2) (k : Q (.bl (!decide (r1 = r2))) H) : rNeD K (.ref p) (.ref q) H Q := by
  refine a_neD hp.dp hq.dp (shaped_list (sh_rowsD _)) (shaped_list (sh_rowsD _)) ?_
  rw [eqv_list, eqvAll_rows]
  exact k
/-! what is refused -/
theorem lam_ok {L : List Rc} {t : XK → TE} {σ : L2.St} (hT : Tabs TS H) (k : ∀ H1, Ev TS [] H H1 → t (RfW L Q) σ H1 (fun _ H' => Q .non H')) : tLam TS (TTref L) t σ H Q := ⟨hT, fun H1 e1 t1 => k H1 (Ev.ext e1 t1)⟩
/-- an error that is raised -/
def Rz (TS : List (Addr × Str)) (H : Hp) (E : XK) (C : Addr) (fs : List (Str × V)) : Prop := ∀ d H', Ev TS [] H H' → H' d = some (.xd fs) → E (.ref C) (some d) H'
theorem Rz.go {E : XK} {C : Addr} {fs : List (Str × V)} (h : Rz TS H E C fs) : ∀ d, H d = none → E (.ref C) (some d) (upd H d (.xd fs)) := fun d hd => h d _ (Ev.new hd) upd_same
theorem Rz.ev {E : XK} {C : Addr} {fs : List (Str × V)} (h : Rz TS H E C fs) (e : Ev TS [] H H') : Rz TS H' E C fs := fun d H2 e2 h2 => h d H2 (e.trans e2 trivial) h2
theorem told1 {C : Addr} {nm f : Str} {v : V} {L : List Rc} (hm : (C, nm, [f]) ∈ L) (k : ∀ p H', Ev TS [] H H' → H' p = some (.tup [.str nm, v]) → Q (.ref p) H') : Rz TS H (RfW L Q) C [(f, v)] := fun d H1 e1 h1 =>
  ⟨C, nm, [f], hm, rfl, d, _, [v], rfl, h1, by simp, by simp, fun p hp => k p _ (e1.trans (Ev.new hp) trivial) upd_same⟩
theorem told2 {C : Addr} {nm f g : Str} {v u : V} {L : List Rc} (hm : (C, nm, [f, g]) ∈ L) (hfg : (f == g) = false) (k : ∀ p H', Ev TS [] H H' → H' p = some (.tup [.str nm, v, u]) → Q (.ref p) H') : Rz TS H (RfW L Q) C [(g, u), (f, v)] := fun d H1 e1 h1 =>
  ⟨C, nm, [f, g], hm, rfl, d, _, [v, u], rfl, h1, by simp [List.lookup, hfg], by simp, fun p hp => k p _ (e1.trans (Ev.new hp) trivial) upd_same⟩
end
end MV

namespace MV
open PySem PySem.Spec PyProof.Rows L2 SB MM LamX
/-! flat data: scalars and tuples of scalars; they stay as heaps go on -/
def flatD : V → Option PyData
  | .non => some .none
  | .bl b => some (.bool b)
  | .int i => some (.int i)
  | .str z => some (.str z)
  | _ => none
def Dm (H : Hp) (v : V) (d : PyData) : Prop := flatD v = some d ∨ ∃ p vs ds, v = .ref p ∧ H p = some (.tup vs) ∧ vs.map flatD = ds.map some ∧ d = .tuple ds
section
variable {TS : List (Addr × Str)} {K : PySem.W.Frag} {H H1 H' : Hp} {L L1 : List Addr} {p q a b : Addr} {xs ys : List V}
theorem ev_dm {v : V} {d : PyData} (e : Ev TS L H H') (h : Dm H v d) : Dm H' v d := by
  rcases h with h | ⟨p, vs, ds, h1, h2, h3⟩
  · exact .inl h
  · exact .inr ⟨p, vs, ds, h1, ev_tup e h2, h3⟩
theorem flat_dp {v : V} {d : PyData} (h : flatD v = some d) : Dp K H v d := by
  cases v with
  | non => cases h; exact .non
  | bl b => cases h; exact .bl b
  | int i => cases h; exact .int i
  | str z => cases h; exact .str z
  | _ => cases h
theorem flat_dpAll : ∀ {vs : List V} {ds : List PyData}, vs.map flatD = ds.map some → DpAll K H vs ds
  | [], [], _ => .nil
  | [], _ :: _, h => by simp at h
  | _ :: _, [], h => by simp at h
  | v :: vs, d :: ds, h => by
    rw [List.map_cons, List.map_cons] at h
    injection h with h1 h2
    exact .cons (flat_dp h1) (flat_dpAll h2)
theorem Dm.dp {v : V} {d : PyData} (h : Dm H v d) : Dp K H v d := by
  rcases h with h | ⟨p, vs, ds, rfl, h2, h3, rfl⟩
  · exact flat_dp h
  · exact .tup (SqT.of h2) (flat_dpAll h3)
theorem Dm.tup {ds : List PyData} (h : H p = some (.tup xs)) (e : xs.map flatD = ds.map some) : Dm H (.ref p) (.tuple ds) := .inr ⟨p, xs, ds, rfl, h, e, rfl⟩
theorem Dm.non : Dm H .non .none := .inl rfl
theorem Dm.is_non {v : V} (h : Dm H v .none) : v = .non := by
  rcases h with h | ⟨p, vs, ds, _, _, _, h⟩
  · cases v <;> first | rfl | (simp [flatD] at h)
  · cases h
theorem Dm.not_non {v : V} {ds : List PyData} (h : Dm H v (.tuple ds)) : v ≠ .non := by
  rintro rfl
  rcases h with h | ⟨p, vs, ds, h, _⟩
  · cases h
  · cases h
theorem LR.sq {rows : List (List Int)} (h : LR H p rows) : ∃ vs, H p = some (.lst vs) ∧ vs.length = rows.length := by
  obtain ⟨rs, h1, h2, rfl⟩ := h
  exact ⟨_, h1, by rw [List.length_map, List.length_map]⟩
theorem LR.get {rows : List (List Int)} {j : Nat} {r : List Int} (h : LR H p rows) (hj : rows[j]? = some r) : ∃ vs t, H p = some (.lst vs) ∧ vs[j]? = some (.ref t) ∧ H t = some (.tup (r.map V.int)) := by
  obtain ⟨rs, h1, h2, rfl⟩ := h
  rw [List.getElem?_map] at hj
  obtain ⟨t, ht, rfl⟩ := Option.map_eq_some_iff.mp hj
  exact ⟨_, t.1, h1, by rw [List.getElem?_map, ht]; rfl, h2 t (List.mem_of_getElem? ht)⟩
theorem eqv_flat {d : PyData} (h : SeqAt.shaped d = true) : PyData.eqv d d = true := by
  unfold SeqAt.shaped at h
  rw [Bool.and_eq_true] at h
  exact SeqAt.eqv_refl d h.1
variable {Q : VK}
theorem a_eqM {v u : V} {d : PyData} (h1 : Dm H v d) (h2 : Dm H u d) (hs : SeqAt.shaped d = true) (k : Q (.bl true) H) : rEqD K v u H Q := by
  refine a_eqD h1.dp h2.dp hs hs ?_
  rw [eqv_flat hs]
  exact k
theorem a_indexS {nms : List Str} {z : Str} {j : Nat} (hp : H p = some (.lst (nms.map V.str))) (hj : nms[j]? = some z) (hnd : nms.Nodup) (k : Q (.int (j : Int)) H) : rIndex K (.ref p) [.str z] H Q := by
  refine ⟨p, nms.map V.str, .str z, j, .str z, rfl, rfl, SqL.of hp, rfl, flat_strs _, by rw [List.getElem?_map, hj]; rfl, by show (z == z) = true; exact beq_self_eq_true z, fun m z' hm hz' => ?_, k⟩
  rw [List.getElem?_map] at hz'
  obtain ⟨y, hy, rfl⟩ := Option.map_eq_some_iff.mp hz'
  show (y == z) = false
  refine beq_eq_false_iff_ne.mpr fun e => ?_
  subst e
  have := nd_ix hnd hy hj
  omega
theorem told1d {C : Addr} {nm f : Str} {v : V} {d : PyData} {L : List Rc} (hm : (C, nm, [f]) ∈ L) (hv : flatD v = some d) (k : ∀ u H', Ev TS [] H H' → Dm H' u (.tuple [.str nm, d]) → Q u H') : Rz TS H (RfW L Q) C [(f, v)] :=
  told1 hm fun p H' e h => k _ H' e (.inr ⟨p, _, _, rfl, h, by show [flatD (.str nm), flatD v] = _; rw [hv]; rfl, rfl⟩)
theorem told2d {C : Addr} {nm f g : Str} {v u : V} {d e : PyData} {L : List Rc} (hm : (C, nm, [f, g]) ∈ L) (hfg : (f == g) = false) (hv : flatD v = some d) (hu : flatD u = some e) (k : ∀ u H', Ev TS [] H H' → Dm H' u (.tuple [.str nm, d, e]) → Q u H') : Rz TS H (RfW L Q) C [(g, u), (f, v)] :=
  told2 hm hfg fun p H' ev h => k _ H' ev (.inr ⟨p, _, _, rfl, h, by show [flatD (.str nm), flatD v, flatD u] = _; rw [hv, hu]; rfl, rfl⟩)
theorem a_slLto {k : Nat} (ha : H a = some (.lst xs)) (h : k ≤ xs.length) (q : ∀ p H', H p = none → Ev TS [] H H' → H' p = some (.lst (xs.take k)) → Q (.ref p) H') : rSlL K (.ref a) none (some (k : Int)) H Q :=
  ⟨a, xs, rfl, SqL.of ha, fun p hp => q p _ hp (Ev.new hp) (by rw [cut_to _ _ h]; exact upd_same)⟩
theorem a_slLfrom {k : Nat} (ha : H a = some (.lst xs)) (h : k + 1 ≤ xs.length) (q : ∀ p H', H p = none → Ev TS [] H H' → H' p = some (.lst (xs.drop (k + 1))) → Q (.ref p) H') : rSlL K (.ref a) (some ((k : Int) + 1)) none H Q := by
  have e : ((k : Int) + 1) = ((k + 1 : Nat) : Int) := by omega
  rw [e]
  exact ⟨a, xs, rfl, SqL.of ha, fun p hp => q p _ hp (Ev.new hp) (by rw [cut_from _ _ h]; exact upd_same)⟩
theorem LR.put {rs : List Row} {j : Nat} {r : List Int} {t : Addr} (ra : RA H rs) (ht : H t = some (.tup (r.map V.int))) (hp : H p = some (.lst ((rs.map refR).take j ++ [.ref t] ++ (rs.map refR).drop (j + 1)))) (hj : j < rs.length) : LR H p ((rs.map Prod.snd).set j r) := by
  have e : rs.set j (t, r) = rs.take j ++ [(t, r)] ++ rs.drop (j + 1) := by
    rw [List.set_eq_take_append_cons_drop, if_pos hj, List.append_assoc]
    rfl
  refine ⟨rs.set j (t, r), ?_, fun x hx => ?_, by rw [List.map_set]⟩
  · rw [hp, e, List.map_append, List.map_append, List.map_take, List.map_drop]
    rfl
  · rcases List.mem_or_eq_of_mem_set hx with z | z
    · exact ra x z
    · rw [z]; exact ht
theorem sh_tup2 {a b : PyData} (h1 : Sh a) (h2 : Sh b) : SeqAt.shaped (.tuple [a, b]) = true := shaped_tuple (sh_two h1 h2)
theorem sh_tup3 {a b c : PyData} (h1 : Sh a) (h2 : Sh b) (h3 : Sh c) : SeqAt.shaped (.tuple [a, b, c]) = true := shaped_tuple fun d hd => by
  rcases List.mem_cons.mp hd with z | z
  · rw [z]; exact h1
  · exact sh_two h2 h3 d z
end
end MV

namespace MV
open PySem PySem.Spec PyProof.Rows L2 SB MM LamX
/-! what a keeper answers -/
section
variable {TS : List (Addr × Str)} {K : PySem.W.Frag} {H H1 H' : Hp} {L L1 : List Addr} {p q a b CK CNN CNP qh : Addr} {xs ys : List V} {Q : VK} {E : XK} {nms : List Str} {rows : List (List Int)}
theorem KQ.ins (h : KQ CK H a qh nms rows) : ∃ dx fs, H a = some (.ins CK dx fs) := by
  obtain ⟨dx, qn, rs, h1, _⟩ := h
  exact ⟨_, _, h1⟩
theorem keeper_ok {x dx n r : Addr} (nx : H x = none) (nd : H dx = none) (hn : H n = some (.lst (nms.map V.str))) (ok : NmsOk nms) (h0 : 0 < nms.length) (h6 : nms.length ≤ 6) (lr : LR H r rows) (wf : WF nms.length rows) (k : ∀ qh H', H qh = none → Ev TS [] H H' → KQ CK H' x qh nms rows → Q .non H') : spKInit K CK [.ref x, .ref n, .ref r] (upd (upd H dx (.own x)) x (.ins CK dx [])) Q E := by
  obtain ⟨rs, hr, ra, rfl⟩ := lr
  refine mk_keeper nx nd (.inl (SqL.of hn)) (fun z hz => (ok.1 z hz).word) ok.2 h0 h6 (.inl (SqL.of hr)) ra wf.ok fun H' s kp hw => ?_
  obtain ⟨dx', qn, qh, h1, h2, h3, h4⟩ := id kp
  exact k qh H' (hw _ _ _ h1) (Ev.same s) ⟨dx', qn, rs, h1, h2, h3, h4, rfl⟩
theorem ktable_ok (h : KQ CK H a qh nms rows) (k : ∀ p H', H p = none → Ev TS [] H H' → LR H' p rows → Q (.ref p) H') : spTable K CK [.ref a] H Q E := by
  obtain ⟨dx, qn, rs, h1, h2, h3, h4, rfl⟩ := h
  exact ⟨a, nms, rs, rfl, ⟨dx, qn, qh, h1, h2, h3, h4⟩, fun p hp => k p _ hp (Ev.new hp) ⟨rs, upd_same, h4.same (same_new (Same.refl H) hp), rfl⟩⟩
/-- a column of rows -/
def colR (rows : List (List Int)) (j : Nat) : List Int := rows.map fun r => r.getD j 0
theorem kcol_ok {j : Nat} {z : Str} (h : KQ CK H a qh nms rows) (hnd : nms.Nodup) (wf : WF nms.length rows) (hl : rows.length ≤ 1000) (hj : nms[j]? = some z) (k : ∀ p H', H p = none → Ev TS [] H H' → H' p = some (.lst ((colR rows j).map V.int)) → Q (.ref p) H') : spKGet K CK CNN CNP [.ref a, .str z] H Q E := by
  obtain ⟨dx, qn, rs, h1, h2, h3, h4, rfl⟩ := h
  rw [List.length_map] at hl
  refine ⟨a, nms, rs, .str z, rfl, ⟨dx, qn, qh, h1, h2, h3, h4⟩, hnd, wf.ok, hl, .inr (.inl ⟨z, rfl, fun j' hj' H' p s np hp => ?_, fun hn => absurd (List.mem_of_getElem? hj) hn⟩)⟩
  have e := nd_ix hnd hj' hj
  subst e
  refine k p H' np (Ev.same s) ?_
  rw [hp]
  unfold colM colR
  simp only [List.map_map]
  rfl
theorem kval_ok {t : Addr} {i j : Nat} {z : Str} {r : List Int} (h : KQ CK H a qh nms rows) (hnd : nms.Nodup) (wf : WF nms.length rows) (hl : rows.length ≤ 1000) (ht : H t = some (.tup [.int (i : Int), .str z])) (hi : rows[i]? = some r) (hj : nms[j]? = some z) (k : Q (.int (r.getD j 0)) H) : spKGet K CK CNN CNP [.ref a, .ref t] H Q E := by
  obtain ⟨dx, qn, rs, h1, h2, h3, h4, rfl⟩ := h
  rw [List.length_map] at hl
  rw [List.getElem?_map] at hi
  obtain ⟨rr, hrr, rfl⟩ := Option.map_eq_some_iff.mp hi
  have hil := (List.getElem?_eq_some_iff.mp hrr).1
  refine ⟨a, nms, rs, .ref t, rfl, ⟨dx, qn, qh, h1, h2, h3, h4⟩, hnd, wf.ok, hl, .inr (.inr ⟨t, (i : Int), z, rfl, ht, fun hn => absurd ⟨by omega, by omega⟩ hn, fun _ hn => absurd (List.mem_of_getElem? hj) hn, fun i' m r' ei hr' hm => ?_⟩)⟩
  have ei' : i' = i := by omega
  subst ei'
  rw [hrr] at hr'
  cases hr'
  have em := nd_ix hnd hm hj
  subst em
  exact k
theorem krow_ok {i : Nat} {r : List Int} (h : KQ CK H a qh nms rows) (hnd : nms.Nodup) (wf : WF nms.length rows) (hl : rows.length ≤ 1000) (hi : rows[i]? = some r) (k : ∀ t, H t = some (.tup (r.map V.int)) → Q (.ref t) H) : spKGet K CK CNN CNP [.ref a, .int (i : Int)] H Q E := by
  obtain ⟨dx, qn, rs, h1, h2, h3, h4, rfl⟩ := h
  rw [List.length_map] at hl
  rw [List.getElem?_map] at hi
  obtain ⟨rr, hrr, rfl⟩ := Option.map_eq_some_iff.mp hi
  have hil := (List.getElem?_eq_some_iff.mp hrr).1
  refine ⟨a, nms, rs, .int (i : Int), rfl, ⟨dx, qn, qh, h1, h2, h3, h4⟩, hnd, wf.ok, hl, .inl ⟨(i : Int), rfl, fun i' r' ei hr' => ?_, fun hn => absurd ⟨by omega, by omega⟩ hn⟩⟩
  have ei' : i' = i := by omega
  subst ei'
  rw [hrr] at hr'
  cases hr'
  exact k _ (h4 _ (List.mem_of_getElem? hrr))
end
end MV

namespace MV
open PySem PySem.Spec PyProof.Rows L2 SB MM
local macro_rules | `(tactic| walk_at "rd") => `(tactic| repeat (first | (refine ⟨_, rfl, ?_⟩) | (refine ⟨_, _, rfl, rfl, ?_⟩) | (refine ⟨_, _, rfl, ?_⟩) | (refine ⟨rfl, ?_⟩)))
abbrev s_m_init : Stmt := inClass (top 18) 1
abbrev s_m_eq : Stmt := inClass (top 18) 6
abbrev s_m_gaps : Stmt := inClass (top 18) 7
abbrev s_m_call : Stmt := inClass (top 18) 8
abbrev s_m_mul : Stmt := inClass (top 18) 9
abbrev s_m_invert : Stmt := inClass (top 18) 10
abbrev s_m_still : Stmt := inClass (top 18) 11
/-- what the top says of Move, at C -/
structure TxtM (K : PySem.W.Frag) (mg : Str → Option Value) (C : Addr) : Prop extends Blt mg where
  cl : Cls K C
  nt : NoAttr K C "takes"
  np : NoAttr K C "places"
  g_Move : mg "Move" = some (.ref C)
  is_Move : C8.InsC K C
  sf_Move : PySem.W.selfFirst K C = true
  nf_Move : PySem.W.notFirst K C (.ref C) = true
/-- the attributes of a move -/
def mfs (t : Nat) (q : Addr) : List (Str × V) := putF "places" (.ref q) (putF "takes" (.int (t : Int)) [])
theorem tp : ¬ (("takes" : Str) = "places") := by decide +kernel
theorem mfs_eq (t : Nat) (q : Addr) : mfs t q = ([("takes", V.int (t : Int)), ("places", V.ref q)] : List (Str × V)) := by
  show (if ("takes" : Str) = "places" then [(("takes" : Str), V.ref q)] else (("takes" : Str), V.int (t : Int)) :: putF "places" (V.ref q) []) = _
  rw [if_neg tp]
  rfl
theorem mfs_takes (t : Nat) (q : Addr) : (mfs t q).lookup ("takes" : Str) = some (.int (t : Int)) := by
  unfold mfs
  rw [lookup_putF, if_neg tp, lookup_putF, if_pos rfl]
theorem mfs_places (t : Nat) (q : Addr) : (mfs t q).lookup ("places" : Str) = some (.ref q) := by
  unfold mfs
  rw [lookup_putF, if_pos rfl]
/-- a move stands at a -/
def MoveAt (K : PySem.W.Frag) (C : Addr) (H : Hp) (a : Addr) (t : Nat) (ps : List Int) : Prop := ∃ dx q, H a = some (.ins C dx (mfs t q)) ∧ SqT K H q (ps.map V.int)
theorem MoveAt.same {K : PySem.W.Frag} {C : Addr} {H H' : Hp} {a : Addr} {t : Nat} {ps : List Int} (m : MoveAt K C H a t ps) (e : Same H H') : MoveAt K C H' a t ps := by
  obtain ⟨dx, q, h1, h2⟩ := m
  exact ⟨dx, q, e _ _ h1, Same.sqT e h2⟩
theorem MoveAt.keep {K : PySem.W.Frag} {C b : Addr} {H H' : Hp} {a : Addr} {t : Nat} {ps : List Int} {l : List V} (m : MoveAt K C H a t ps) (hb : H b = some (.lst l)) (e : KeepB b H H') : MoveAt K C H' a t ps := by
  obtain ⟨dx, q, h1, h2⟩ := m
  exact ⟨dx, q, e _ _ h1 (ne_of h1 hb (by intro z; cases z)), KeepB.sqT e hb h2⟩
/-- a list or a tuple -/
theorem SqS.stay {K : PySem.W.Frag} {H H' : Hp} {a : Addr} {xs : List V} (h : SqS K H a xs) (e : ∀ o, H a = some o → H' a = some o) : SqS K H' a xs := h.imp (fun h => stayL h e) (fun h => stayT h e)
/-! ### the promises -/
def spInit (K : PySem.W.Frag) (C : Addr) : Sp := fun vs H Q _ => ∃ (x dx l : Addr) (t : Nat) (ps : List Int), vs = [.ref x, .int (t : Int), .ref l] ∧ H x = some (.ins C dx []) ∧ SqS K H l (ps.map V.int) ∧ MoveOk t ps ∧ ps.length ≤ 100000 ∧
  ∀ H' q, KeepB x H H' → H' x = some (.ins C dx (mfs t q)) → SqT K H' q (ps.map V.int) → Q .non H'
def spEq (K : PySem.W.Frag) (C : Addr) : Sp := fun vs H Q _ => ∃ (a b : Addr) (t t' : Nat) (ps ps' : List Int), vs = [.ref a, .ref b] ∧ MoveAt K C H a t ps ∧ MoveAt K C H b t' ps' ∧
  Q (.bl (decide (t = t' ∧ ps = ps'))) H
def spGaps (K : PySem.W.Frag) (C : Addr) : Sp := fun vs H Q _ => ∃ (a : Addr) (t : Nat) (ps : List Int), vs = [.ref a] ∧ MoveAt K C H a t ps ∧ ps.length ≤ 100000 ∧
  ∀ H', Same H H' → Q (.int (gapsM ps : Nat)) H'
def spCall (K : PySem.W.Frag) (C : Addr) : Sp := fun vs H Q _ => ∃ (a v n : Addr) (t : Nat) (ps : List Int) (xs ys : List V), vs = [.ref a, .ref v, .ref n] ∧ MoveAt K C H a t ps ∧ MoveOk t ps ∧ ps.length ≤ 100000 ∧
  SqS K H v xs ∧ SqS K H n ys ∧ xs.length = t ∧ ys.length = gapsM ps ∧
  ∀ H' p, Same H H' → H p = none → H' p = some (.lst (applyM ps xs ys)) → Q (.ref p) H'
def spMul (K : PySem.W.Frag) (C : Addr) : Sp := fun vs H Q _ => ∃ (a b : Addr) (t : Nat) (ps qs : List Int), vs = [.ref a, .ref b] ∧ MoveAt K C H a t ps ∧ MoveAt K C H b ps.length qs ∧ MoveOk t ps ∧ MoveOk ps.length qs ∧ qs.length ≤ 100000 ∧
  ∀ H' p, Same H H' → H p = none → MoveAt K C H' p t (prodM ps qs) → Q (.ref p) H'
def spInv (K : PySem.W.Frag) (C : Addr) : Sp := fun vs H Q _ => ∃ (a : Addr) (t : Nat) (ps : List Int), vs = [.ref a] ∧ MoveAt K C H a t ps ∧ MoveOk t ps ∧ ps.length ≤ 100000 ∧ t ≤ 100000 ∧
  ∀ H' p, Same H H' → H p = none → MoveAt K C H' p ps.length (invM t ps) → Q (.ref p) H'
def spStill (K : PySem.W.Frag) (C : Addr) : Sp := fun vs H Q _ => ∃ t : Nat, vs = [.int (t : Int)] ∧ t ≤ 100000 ∧
  ∀ H' p, Same H H' → H p = none → MoveAt K C H' p t (stillM t) → Q (.ref p) H'
theorem mk_move {K : PySem.W.Frag} {C l : Addr} {H : Hp} {t : Nat} {ps : List Int} {Q : VK} {E : XK} (hl : SqS K H l (ps.map V.int)) (ok : MoveOk t ps) (hz : ps.length ≤ 100000)
    (k : ∀ H' a, Same H H' → H a = none → MoveAt K C H' a t ps → Q (.ref a) H') :
    ∀ x dx, H x = none → H dx = none → dx ≠ x → spInit K C [.ref x, .int (t : Int), .ref l] (upd (upd H dx (.own x)) x (.ins C dx [])) (fun v H2 => v = .non ∧ Q (.ref x) H2) E := by
  intro x dx nx nd ne
  have s0 : Same H (upd (upd H dx (.own x)) x (.ins C dx [])) := fun b o e => by
    rw [upd_ne (ne_of_none e nx), upd_ne (ne_of_none e nd)]
    exact e
  refine ⟨x, dx, l, t, ps, rfl, upd_same, hl.same s0, ok, hz, fun H' q kp hx hq => ⟨rfl, ?_⟩⟩
  exact k H' x (fun b o e => kp b o (s0 b o e) (ne_of_none e nx)) nx ⟨dx, q, hx, hq⟩
theorem mk_move2 {K : PySem.W.Frag} {C l x dx : Addr} {H : Hp} {t : Nat} {ps : List Int} {Q : VK} {E : XK} (nx : H x = none) (nd : H dx = none) (hl : SqS K H l (ps.map V.int)) (ok : MoveOk t ps) (hz : ps.length ≤ 100000)
    (k : ∀ H', Same H H' → MoveAt K C H' x t ps → Q .non H') : spInit K C [.ref x, .int (t : Int), .ref l] (upd (upd H dx (.own x)) x (.ins C dx [])) Q E := by
  have s0 : Same H (upd (upd H dx (.own x)) x (.ins C dx [])) := fun b o e => by
    rw [upd_ne (ne_of_none e nx), upd_ne (ne_of_none e nd)]
    exact e
  refine ⟨x, dx, l, t, ps, rfl, upd_same, hl.same s0, ok, hz, fun H' q kp hx hq => ?_⟩
  exact k H' (fun b o e => kp b o (s0 b o e) (ne_of_none e nx)) ⟨dx, q, hx, hq⟩
section
variable {P : Program} {w : World} {K : PySem.W.Frag} {mg : Str → Option Value} {base : Heap} {C : Addr}
theorem sc_m_init : FnScope ["self", "takes", "places", "taken", "at", "place"] ["self", "takes", "places"] (defScope s_m_init) := ⟨rfl, rfl, rfl, by decide +kernel, rfl, by decide +kernel, by decide +kernel⟩
theorem ok_init {f : Addr} {fd : FuncData} (F : Fun K "__init__" "Move.__init__" s_m_init f fd) (T : TxtM K mg C) : FnR P w K mg base CX0 1 f (spInit K C) := by
  refine fnr F sc_m_init (fun vs H Q E h => ?_) (fun _ _ _ _ _ _ us hl => match us, hl with | [_, _, _], _ => rfl) (fun cdv A outer s H vs Q E hr h => ?_)
  · obtain ⟨x, dx, l, t, ps, rfl, _⟩ := h
    rfl
  · obtain ⟨x, dx, l, t, ps, rfl, hx, hl, ok, hz, k⟩ := h
    refine ⟨_, (pss_cons (ps_set (i := 3) sc_m_init.nd rfl (Or.inl rfl) pe_dnewK)
      (pss_cons (ps_for PassesOwn.never rfl (pi_enumS (by rfl) T.n_enumerate (pa_cons (pv 2) pa_nil)) (pg_tup rfl (pgs_cons (pg_name (i := 4) sc_m_init.nd rfl (Or.inl rfl)) (pgs_cons (pg_name (i := 5) sc_m_init.nd rfl (Or.inl rfl)) pgs_nil)))
        (pss_cons (ps_if (PW.pt (pw_or (pt_cmp (pc_din (hu_of hr) (pv 5) (pv 3))) (pw_or1 (pt_not (pt_chain op_le op_lt (pe_un un_neg pe_int) (pv 5) (pv 1)))))) (pss_one ps_never) pss_nil)
        (pss_one (ps_if (pt_cmpR op_ge (pv 5) pe_int (nomark _)) (pss_one (ps_dput (hu_of hr) (pv 3) (pv 5) pe_bl rfl)) pss_nil))))
      (pss_cons (ps_fld (pv 0) (pv 1) rfl)
      (pss_one (ps_fld (pv 0) (pe_callTy call_tuple_of (by rfl) T.n_tuple (by decide +kernel) (pa_cons (pv 2) pa_nil)) rfl))))), ?_⟩
    intro d hd
    have hxd : x ≠ d := ne_of_none hx hd
    have s1 : Same H (upd H d (.dK [])) := same_new (Same.refl H) hd
    have hl1 := hl.same s1
    walk_at "rd"
    refine ⟨l, _, rfl, hl1, fun J G w hG => ?_⟩
    refine for_it w (fun i σ H' => ∃ (v4 v5 : Option V) (kvs : List (Key × V)), σ = [some (.ref x), some (.int (t : Int)), some (.ref l), some (.ref d), v4, v5] ∧ KeepB d (upd H d (.dK [])) H' ∧ H' d = some (.dK kvs) ∧ kvs.length ≤ i ∧
      ∀ p : Int, (valV kvs (Sum.inl p)).isSome = true → 0 ≤ p ∧ p ∈ ps.take i) ?_ ?_ ?_ ?_
    · exact ⟨none, none, [], rfl, KeepB.refl _ _, upd_same, Nat.le_refl _, fun p hp => by simp [valV_nil] at hp⟩
    · rintro i σ H' _ ⟨_, _, kvs, _, kp, hd', _⟩
      exact hG H' (fun e => kp.sqL' upd_same (noSeq_dK _) e) (fun e => kp.sqT' upd_same (noSeq_dK _) e)
    · rintro i x' σ H' H'' hi ⟨v4, v5, kvs, rfl, kp, hd', hlen, hv⟩ ⟨T', x0, y0, rfl, hT, rfl, e0, ey⟩
      cases e0
      have hi' : i < ps.length := by simpa using hi
      have epi : ps[i]? = some ps[i] := List.getElem?_eq_getElem hi'
      have ey' : y0 = .int ps[i] := by
        have q : (ps.map V.int)[i]? = some y0 := ey
        rw [List.getElem?_map, epi] at q
        exact (Option.some.inj q).symm
      subst ey'
      have bd := ok.at epi
      have ndT : d ≠ T' := ne_of_none hd' hT
      have hd2 : (upd H' T' (.tup [.int (i : Nat), .int ps[i]])) d = some (.dK kvs) := by rw [upd_ne ndT]; exact hd'
      have kp2 := kp.new (o := .tup [.int (i : Nat), .int ps[i]]) hT
      have tk : ps.take (i + 1) = ps.take i ++ [ps[i]] := by rw [List.take_append_getElem hi']
      have nin : 0 ≤ ps[i] → valV kvs (Sum.inl ps[i]) = none := fun h0 => by
        cases c : valV kvs (Sum.inl ps[i]) with
        | none => rfl
        | some v =>
          obtain ⟨_, hm⟩ := hv ps[i] (by rw [c]; rfl)
          obtain ⟨j, hj⟩ := List.mem_iff_getElem?.mp hm
          have hj2 : j < i ∧ ps[j]? = some ps[i] := by
            have hl := (List.getElem?_eq_some_iff.mp hj).1
            rw [List.length_take] at hl
            rw [List.getElem?_take] at hj
            have : j < i := by omega
            rw [if_pos this] at hj
            exact ⟨this, hj⟩
          have := ok.inj hj2.2 epi h0
          omega
      have nin2 : (valV kvs (Sum.inl ps[i])).isSome = false := by
        by_cases h0 : 0 ≤ ps[i]
        · rw [nin h0]; rfl
        · cases c : valV kvs (Sum.inl ps[i]) with
          | none => rfl
          | some v =>
            have := (hv ps[i] (by rw [c]; rfl)).1
            omega
      refine ⟨T', _, rfl, SqT.of upd_same, rfl, ?_⟩
      walk_at "rd"
      refine ⟨d, _, rfl, DGet.k (k := Sum.inl ps[i]) hd2, _, rfl, ?_⟩
      rw [nin2]
      refine iteF ?_
      walk_at "rd"
      refine ifY (by omega) ?_
      walk_at "rd"
      refine iteNS (by omega) ?_
      -- if place >= 0: taken[place] = True
      walk_at "rd"
      refine ite2 (fun c => ?_) (fun c => ?_)
      · have h0 : 0 ≤ ps[i] := of_decide_eq_true c
        walk_at "rd"
        refine ⟨d, _, rfl, DPut.k (k := Sum.inl ps[i]) hd2 (Nat.lt_of_le_of_lt hlen (Nat.lt_of_le_of_lt (by omega) (by decide : 100000 < sizeLine))), ?_⟩
        refine ⟨_, _, _, rfl, kp2.upd, upd_same, ?_, ?_⟩
        · have := length_putK kvs (Sum.inl ps[i]) (V.bl true)
          omega
        · intro p hp
          rw [valV_put] at hp
          rw [tk]
          by_cases e : (Sum.inl p : Key) = Sum.inl ps[i]
          · have e' : p = ps[i] := Sum.inl.inj e
            subst e'
            exact ⟨h0, List.mem_append_right _ (List.mem_singleton_self _)⟩
          · rw [if_neg e] at hp
            obtain ⟨a1, a2⟩ := hv p hp
            exact ⟨a1, List.mem_append_left _ a2⟩
      · refine ⟨_, _, kvs, rfl, kp2, hd2, by omega, fun p hp => ?_⟩
        obtain ⟨a1, a2⟩ := hv p hp
        exact ⟨a1, by rw [tk]; exact List.mem_append_left _ a2⟩
    · rintro σ H' ⟨v4, v5, kvs, rfl, kp, hd', hlen, hv⟩
      have hx1 : (upd H d (.dK [])) x = some (.ins C dx []) := by rw [upd_ne hxd]; exact hx
      have hx' : H' x = some (.ins C dx []) := kp x _ hx1 hxd
      have hl' : SqS K H' l (ps.map V.int) := hl1.imp (fun e => kp.sqL' upd_same (noSeq_dK _) e) (fun e => kp.sqT' upd_same (noSeq_dK _) e)
      walk_at "rd"
      refine ⟨x, C, dx, [], rfl, hx', T.cl, T.nt, (by show 0 < 1000; decide), ?_⟩
      have kx : KeepB x H' (upd H' x (.ins C dx (putF "takes" (.int (t : Int)) []))) := KeepB.upd (KeepB.refl _ _)
      have hl2 : SqS K (upd H' x (.ins C dx (putF "takes" (.int (t : Int)) []))) l (ps.map V.int) := hl'.imp (fun e => kx.sqL' hx' (noSeq_ins _ _ _) e) (fun e => kx.sqT' hx' (noSeq_ins _ _ _) e)
      have kH : KeepB x H H' := fun b o e hb => kp b o (s1 b o e) (ne_of_none e hd)
      walk_at "rd"
      refine ⟨l, ps.map V.int, rfl, ?_⟩
      rcases hl2 with hl2 | hl2
      · refine .inl ⟨hl2, fun q hq => ?_⟩
        have nxq : x ≠ q := ne_of_none upd_same hq
        walk_at "rd"
        refine ⟨x, C, dx, _, rfl, by rw [upd_ne nxq]; exact upd_same, T.cl, T.np, (by show 1 < 1000; decide), ?_⟩
        refine k _ q ?_ upd_same ?_
        · exact ((kH.trans kx).new hq).upd
        · exact SqT.of (by rw [upd_ne (Ne.symm nxq)]; exact upd_same)
      · refine .inr ⟨hl2, ?_⟩
        walk_at "rd"
        refine ⟨x, C, dx, _, rfl, upd_same, T.cl, T.np, (by show 1 < 1000; decide), ?_⟩
        have kx2 : KeepB x (upd H' x (.ins C dx (putF "takes" (.int (t : Int)) []))) (upd (upd H' x (.ins C dx (putF "takes" (.int (t : Int)) []))) x (.ins C dx (mfs t l))) := KeepB.upd (KeepB.refl _ _)
        refine k _ l ?_ upd_same ?_
        · exact (kH.trans kx).trans kx2
        · exact kx2.sqT' upd_same (noSeq_ins _ _ _) hl2
end
end MV

namespace MV
open PySem PySem.Spec PyProof.Rows L2 SB MM
local macro_rules | `(tactic| walk_at "rd") => `(tactic| repeat (first | (refine ⟨_, rfl, ?_⟩) | (refine ⟨_, _, rfl, rfl, ?_⟩) | (refine ⟨_, _, rfl, ?_⟩) | (refine ⟨rfl, ?_⟩)))
section
variable {P : Program} {w : World} {K : PySem.W.Frag} {mg : Str → Option Value} {base : Heap} {C : Addr}
theorem sc_m_eq : FnScope ["self", "other"] ["self", "other"] (defScope s_m_eq) := ⟨rfl, rfl, rfl, by decide +kernel, rfl, by decide +kernel, by decide +kernel⟩
theorem ok_eq {f : Addr} {fd : FuncData} (F : Fun K "__eq__" "Move.__eq__" s_m_eq f fd) (T : TxtM K mg C) : FnR P w K mg base CX0 1 f (spEq K C) := by
  refine fnr F sc_m_eq (fun vs H Q E h => ?_) (fun _ _ _ _ _ _ us hl => match us, hl with | [_, _], _ => rfl) (fun cdv A outer s H vs Q E hr h => ?_)
  · obtain ⟨a, b, t, t', ps, ps', rfl, _⟩ := h
    rfl
  · obtain ⟨a, b, t, t', ps, ps', rfl, ⟨dx, q, ha, hq⟩, ⟨dx', q', hb, hq'⟩, k⟩ := h
    refine ⟨_, (pss_one (ps_ret (pe_and (pe_callB (C8.call_isC T.is_Move) (by rfl) T.n_isinstance (by decide +kernel) (pa_cons (pv 1) (pa_cons (pe_glob (v := .ref C) (by rfl) T.g_Move rfl) pa_nil))) (pe_and (pe_cmpR op_eq (pe_fld (pv 0) (by rfl)) (pe_fld (pv 1) (by rfl)) (nomark _)) (pe_one (pe_cmpR (op_eqD hr.units) (pe_fld (pv 0) (by rfl)) (pe_fld (pv 1) (by rfl)) (nomark _))))))), ?_⟩
    walk_at "rd"
    refine ⟨b, dx', _, rfl, hb, ?_⟩
    walk_at "rd"
    refine ⟨a, C, dx, _, _, rfl, ha, T.cl, T.nt, mfs_takes _ _, ?_⟩
    walk_at "rd"
    refine ⟨b, C, dx', _, _, rfl, hb, T.cl, T.nt, mfs_takes _ _, ?_⟩
    walk_at "rd"
    refine ite2 (fun c => ?_) (fun c => ?_)
    · have et : t = t' := by
        have := V.int.inj (of_decide_eq_true c)
        omega
      subst et
      walk_at "rd"
      refine ⟨a, C, dx, _, _, rfl, ha, T.cl, T.np, mfs_places _ _, ?_⟩
      walk_at "rd"
      refine ⟨b, C, dx', _, _, rfl, hb, T.cl, T.np, mfs_places _ _, ?_⟩
      refine ⟨_, _, dp_intsT hq, dp_intsT hq', shaped_tuple (sh_ints _), shaped_tuple (sh_ints _), ?_⟩
      rw [eqv_tuple, eqvAll_ints]
      have e : decide (ps = ps') = decide (t = t ∧ ps = ps') := by simp
      rw [e]
      exact k
    · have e : decide (t = t' ∧ ps = ps') = false := decide_eq_false fun z => c (decide_eq_true (by rw [z.1]))
      rw [e] at k
      exact k
end
end MV

namespace MV
open PySem PySem.Spec PyProof.Rows L2 SB MM
local macro_rules | `(tactic| walk_at "rd") => `(tactic| repeat (first | (refine ⟨_, rfl, ?_⟩) | (refine ⟨_, _, rfl, rfl, ?_⟩) | (refine ⟨_, _, rfl, ?_⟩) | (refine ⟨rfl, ?_⟩)))
section
variable {P : Program} {w : World} {K : PySem.W.Frag} {mg : Str → Option Value} {base : Heap} {C : Addr}
theorem sc_m_gaps : FnScope ["self", "place"] ["self"] (defScope s_m_gaps) := ⟨rfl, rfl, rfl, by decide +kernel, rfl, by decide +kernel, by decide +kernel⟩
theorem okf_gaps {f : Addr} {fd : FuncData} (F : Fun K "gaps" "Move.gaps" s_m_gaps f fd) (T : TxtM K mg C) : FnOk P w K mg base CX0 1 f fd ["self"] (spGaps K C) := by
  refine F.ok sc_m_gaps (fun vs H Q E h => ?_) (fun cdv A outer s H vs Q E hr h => ?_)
  · obtain ⟨a, t, ps, rfl, _⟩ := h
    rfl
  · obtain ⟨a, t, ps, rfl, ⟨dx, q, ha, hq⟩, hz, k⟩ := h
    refine ⟨_, (pss_one (ps_ret (pe_callB call_len_seq (by rfl) T.n_len (by decide +kernel) (pa_cons (pe_lc (own := [("place", 1)]) (by rfl) sc_m_gaps.nd (pi_tup (pe_fld (pv 0) (by rfl))) (blkOk_by (own := [("place", 1)]) (N := ["self", "place"]) (sc := defScope s_m_gaps) (by first | decide +kernel | kernel_rfl)) (fun _ _ _ _ _ => (pg_name (i := 1) sc_m_gaps.nd rfl (Or.inl rfl))) (fun _ _ _ _ _ => by exact (pts_one (pt_cmpR op_lt (pv 1) pe_int (nomark _)))) (fun _ _ _ _ _ => by exact (pv 1))) pa_nil)))), ?_⟩
    walk_at "rd"
    refine ⟨a, C, dx, _, _, rfl, ha, T.cl, T.np, mfs_places _ _, ?_⟩
    refine ⟨q, rfl, ⟨_, hq⟩, fun D hD => ?_⟩
    have s1 : Same H (upd H D (.lst [])) := same_new (Same.refl H) hD
    refine lc_it (walk_tup (xs := ps.map V.int)) (fun i H' => KeepB D (upd H D (.lst [])) H' ∧ H' D = some (.lst (((ps.take i).filter fun p => decide (p < 0)).map V.int))) ⟨KeepB.refl _ _, upd_same⟩ ?_ ?_ ?_
    · rintro i H' _ ⟨kp, _⟩
      exact kp.sqT upd_same (Same.sqT s1 hq)
    · rintro i x H0 H' hi ⟨kp, hD'⟩ ⟨rfl, hx⟩
      have hi' : i < ps.length := by simpa using hi
      have epi : ps[i]? = some ps[i] := List.getElem?_eq_getElem hi'
      have ex : x = .int ps[i] := by
        rw [List.getElem?_map, epi] at hx
        exact (Option.some.inj hx).symm
      subst ex
      have tk : ps.take (i + 1) = ps.take i ++ [ps[i]] := by rw [List.take_append_getElem hi']
      walk_at "rd"
      refine ite2 (fun c => ?_) (fun c => ?_)
      · have h0 : ps[i] < 0 := of_decide_eq_true c
        walk_at "rd"
        refine ⟨_, hD', ?_, kp.upd, ?_⟩
        · rw [List.length_map]
          have := List.length_filter_le (fun p : Int => decide (p < 0)) (ps.take i)
          rw [List.length_take] at this
          exact Nat.lt_of_le_of_lt (show _ ≤ 100000 by omega) (by decide)
        · rw [upd_same, tk, List.filter_append, List.map_append]
          simp [h0]
      · have h0 : ¬ ps[i] < 0 := fun z => c (decide_eq_true z)
        refine ⟨kp, ?_⟩
        rw [hD', tk, List.filter_append]
        simp [h0]
    · rintro H' ⟨kp, hD'⟩
      rw [List.length_map, List.take_length] at hD'
      refine ⟨D, _, rfl, .inl (SqL.of hD'), ?_⟩
      rw [List.length_map]
      exact k H' fun b o e => kp b o (s1 b o e) (ne_of_none e hD)
end
end MV

namespace MV
open PySem PySem.Spec PyProof.Rows L2 SB MM
local macro_rules | `(tactic| walk_at "rd") => `(tactic| repeat (first | (refine ⟨_, rfl, ?_⟩) | (refine ⟨_, _, rfl, rfl, ?_⟩) | (refine ⟨_, _, rfl, ?_⟩) | (refine ⟨rfl, ?_⟩)))
section
variable {P : Program} {w : World} {K : PySem.W.Frag} {mg : Str → Option Value} {base : Heap} {C : Addr}
theorem sc_m_call : FnScope ["self", "values", "new", "result", "used", "place"] ["self", "values", "new"] (defScope s_m_call) := ⟨rfl, rfl, rfl, by decide +kernel, rfl, by decide +kernel, by decide +kernel⟩
theorem ok_call {f e0 : Addr} {fd : FuncData} (F : FunD K "__call__" "Move.__call__" (defArgs s_m_call) (defBody s_m_call) (defScope s_m_call) [.ref e0] [] f fd) (T : TxtM K mg C) (PRgaps : Pr P w K mg base CX0 1 C "gaps" (spGaps K C)) : FnOk P w K mg base CX0 3 f fd ["self", "values", "new"] (spCall K C) := by
  refine fnrD F sc_m_call (fun vs H Q E h => ?_) (fun cdv A outer s H vs Q E hr h => ?_)
  · obtain ⟨a, v, n, t, ps, xs, ys, rfl, _⟩ := h
    rfl
  · obtain ⟨a, v, n, t, ps, xs, ys, rfl, ⟨dx, q, ha, hq⟩, ok, hz, hv, hn, ex, ey, k⟩ := h
    refine ⟨_, (pss_cons (ps_if (pt_cmpR op_ne (pe_callB call_len_seq (by rfl) T.n_len (by decide +kernel) (pa_cons (pv 1) pa_nil)) (pe_fld (pv 0) (by rfl)) (nomark _)) (pss_one ps_never) pss_nil)
      (pss_cons (ps_if (pt_cmpR op_ne (pe_callB call_len_seq (by rfl) T.n_len (by decide +kernel) (pa_cons (pv 2) pa_nil)) (pe_pr PRgaps hr (by decide) pass0 (pv 0)) (nomark _)) (pss_one ps_never) pss_nil)
      (pss_cons (ps_par (i := 3) (j := 4) (by rfl) sc_m_call.nd rfl rfl (by decide) rfl rfl (pa_cons (pe_lst pa_nil) (pa_cons pe_int pa_nil)) (by rfl))
      (pss_cons (ps_for PassesOwn.never rfl (pi_tup (pe_fld (pv 0) (by rfl))) (pg_name (i := 5) sc_m_call.nd rfl (Or.inl rfl))
        (pss_one (ps_if (pt_cmpR op_lt (pv 5) pe_int (nomark _)) (pss_cons (ps_expr (pe_bm PySem.F.plainAttrs_list PySem.F.slot_list_append PySem.F.type_list_append mt_append (pv 3) (pa_cons (pe_ix ix_seq (pv 2) (pv 4) (fun _ _ => rfl)) pa_nil)))
          (pss_one (ps_aug (i := 4) sc_m_call.nd rfl (Or.inl rfl) pe_int ip_add))) (pss_one (ps_expr (pe_bm PySem.F.plainAttrs_list PySem.F.slot_list_append PySem.F.type_list_append mt_append (pv 3) (pa_cons (pe_ix ix_seq (pv 1) (pv 5) (fun _ _ => rfl)) pa_nil)))))))
      (pss_one (ps_ret (pv 3))))))), ?_⟩
    walk_at "rd"
    refine ⟨v, xs, rfl, hv, ?_⟩
    walk_at "rd"
    refine ⟨a, C, dx, _, _, rfl, ha, T.cl, T.nt, mfs_takes _ _, ?_⟩
    walk_at "rd"
    refine iteNS (by rw [ex]) ?_
    walk_at "rd"
    refine ⟨n, ys, rfl, hn, ?_⟩
    walk_at "rd"
    refine ⟨a, dx, _, rfl, ha, a, t, ps, rfl, ⟨dx, q, ha, hq⟩, hz, fun H1 s1 => ?_⟩
    walk_at "rd"
    refine iteNS (by rw [ey]) ?_
    have ha1 := s1 _ _ ha
    refine ⟨(by show 0 ≤ sizeLine; decide), fun r hr' => ?_⟩
    have s2 : Same H (upd H1 r (.lst [])) := same_new s1 hr'
    have s12 : Same H1 (upd H1 r (.lst [])) := same_new (Same.refl _) hr'
    walk_at "rd"
    refine ⟨a, C, dx, _, _, rfl, s12 _ _ ha1, T.cl, T.np, mfs_places _ _, ?_⟩
    refine ⟨q, rfl, ⟨_, Same.sqT s2 hq⟩, ?_⟩
    have nr : H r = none := s1.free hr'
    have hvr : v ≠ r ∨ True := .inr trivial
    refine for_it (walk_tup (xs := ps.map V.int)) (fun i σ H' => ∃ (v5 : Option V) (acc : List V) (used : Nat), σ = [some (.ref a), some (.ref v), some (.ref n), some (.ref r), some (.int (used : Int)), v5] ∧ KeepB r (upd H1 r (.lst [])) H' ∧ H' r = some (.lst acc) ∧
      used = gapsM (ps.take i) ∧ acc ++ applyM (ps.drop i) xs (ys.drop used) = applyM ps xs ys ∧ acc.length ≤ i) ?_ ?_ ?_ ?_
    · exact ⟨none, [], 0, rfl, KeepB.refl _ _, upd_same, by simp [gapsM], by simp, Nat.le_refl _⟩
    · rintro i σ H' _ ⟨_, _, _, _, kp, _⟩
      exact kp.sqT upd_same (Same.sqT s2 hq)
    · rintro i x' σ H0 H' hi ⟨v5, acc, used, rfl, kp, hr2, eu, eacc, hlen⟩ ⟨rfl, hx⟩
      have hi' : i < ps.length := by simpa using hi
      have epi : ps[i]? = some ps[i] := List.getElem?_eq_getElem hi'
      have ex' : x' = .int ps[i] := by
        rw [List.getElem?_map, epi] at hx
        exact (Option.some.inj hx).symm
      subst ex'
      have tk : ps.take (i + 1) = ps.take i ++ [ps[i]] := by rw [List.take_append_getElem hi']
      have dr : ps.drop i = ps[i] :: ps.drop (i + 1) := List.drop_eq_getElem_cons hi'
      have bd := ok.at epi
      have sH : Same H H' := fun b o e => kp b o (s2 b o e) (ne_of_none e nr)
      have hlen2 : acc.length < sizeLine := Nat.lt_of_le_of_lt (show _ ≤ 100000 by omega) (by decide)
      have hg : gapsM ps = gapsM (ps.take i) + gapsM (ps.drop i) := by
        have e := List.take_append_drop i ps
        conv => lhs; rw [← e]
        unfold gapsM
        rw [List.filter_append, List.length_append]
      rw [dr, gaps_cons] at hg
      walk_at "rd"
      refine ite2 (fun c => ?_) (fun c => ?_)
      · have h0 : ps[i] < 0 := of_decide_eq_true c
        rw [if_pos h0] at hg
        have hu : used < ys.length := by omega
        walk_at "rd"
        refine ⟨.inl ⟨rfl, _, SqL.of hr2⟩, ?_⟩
        walk_at "rd"
        refine rix_S (hn.same sH) (at_of (j := used) rfl (List.getElem?_eq_getElem hu)) ?_
        refine ⟨r, _, _, rfl, rfl, hr2, hlen2, ?_⟩
        walk_at "rd"
        refine ⟨_, _, used + 1, rfl, kp.upd, upd_same, ?_, ?_, ?_⟩
        · rw [tk, gaps_snoc, if_pos h0, eu]
        · rw [← eacc, dr, List.drop_eq_getElem_cons hu, apply_neg h0, List.append_assoc]
          rfl
        · rw [List.length_append]
          show acc.length + 1 ≤ i + 1
          omega
      · have h0 : ¬ ps[i] < 0 := fun z => c (decide_eq_true z)
        have hl : ps[i].toNat < xs.length := by omega
        walk_at "rd"
        refine ⟨.inl ⟨rfl, _, SqL.of hr2⟩, ?_⟩
        walk_at "rd"
        refine rix_S (hv.same sH) (at_of (j := ps[i].toNat) (by omega) (List.getElem?_eq_getElem hl)) ?_
        refine ⟨r, _, _, rfl, rfl, hr2, hlen2, ?_⟩
        refine ⟨_, _, used, rfl, kp.upd, upd_same, ?_, ?_, ?_⟩
        · rw [tk, gaps_snoc, if_neg h0, eu]
          rfl
        · rw [← eacc, dr, apply_nonneg h0 (List.getElem?_eq_getElem hl), List.append_assoc]
          rfl
        · rw [List.length_append]
          show acc.length + 1 ≤ i + 1
          omega
    · rintro σ H' ⟨v5, acc, used, rfl, kp, hr2, eu, eacc, hlen⟩
      have e0 : ps.drop (ps.map V.int).length = [] := by simp
      rw [e0] at eacc
      have e1 : acc = applyM ps xs ys := by
        have : acc ++ [] = applyM ps xs ys := eacc
        rwa [List.append_nil] at this
      subst e1
      walk_at "rd"
      exact k H' r (fun b o e => kp b o (s2 b o e) (ne_of_none e nr)) nr hr2
theorem call_binds {f e0 : Addr} {fd : FuncData} (F : FunD K "__call__" "Move.__call__" (defArgs s_m_call) (defBody s_m_call) (defScope s_m_call) [.ref e0] [] f fd) : Binds K fd ["self", "values", "new"] [] := by
  obtain ⟨ds, v, b⟩ := F.binds1 (ps := ["self", "values", "new"]) 3 1 (List.cons_ne_nil _ _) rfl fun _ _ _ _ _ _ _ us its hu hi => match us, its, hu, hi with | [_, _, _], [_], _, _ => ⟨_, rfl, rfl⟩
  cases v
  exact b
end
end MV

namespace MV
open PySem PySem.Spec PyProof.Rows L2 SB MM
local macro_rules | `(tactic| walk_at "rd") => `(tactic| repeat (first | (refine ⟨_, rfl, ?_⟩) | (refine ⟨_, _, rfl, rfl, ?_⟩) | (refine ⟨_, _, rfl, ?_⟩) | (refine ⟨rfl, ?_⟩)))
def turnM (t : Nat) : List Int := (List.range t).map fun i : Nat => (t : Int) - 1 - (i : Int)
def cutM (t : Nat) (j : Int) : List Int := (stillM t).filter fun i => decide (i ≠ j)
def openM (t j : Nat) : List Int := (stillM t).take j ++ [-1] ++ (stillM t).drop j
def keepM (bs : List Bool) : List Int := (stillM bs.length).filter fun i => bs.getD i.toNat false
theorem still_sub {t : Nat} {l : List Int} (h : l.Sublist (stillM t)) : MoveOk t l := by
  refine ⟨fun p hp => ?_, ?_⟩
  · have := still_mem.mp (h.subset hp)
    omega
  · exact List.Pairwise.imp (fun {a b} (z : a ≠ b) (_ : 0 ≤ a) => z) ((still_nodup t).sublist h)
theorem turn_ok (t : Nat) : MoveOk t (turnM t) := by
  refine ⟨fun p hp => ?_, ?_⟩
  · obtain ⟨i, hi, rfl⟩ := List.mem_map.mp hp
    have := List.mem_range.mp hi
    omega
  · unfold turnM
    rw [List.pairwise_map]
    exact List.Pairwise.imp (fun {a b : Nat} (z : a ≠ b) (_ : 0 ≤ (t : Int) - 1 - (a : Int)) (e : (t : Int) - 1 - (a : Int) = (t : Int) - 1 - (b : Int)) => z (by omega)) (List.nodup_range (n := t))
theorem intI_ne {a b : Int} (c : (!decide (V.int a = V.int b)) = true) : a ≠ b := fun z => by
  rw [z] at c
  simp at c
theorem intI_eq {a b : Int} (c : ¬ (!decide (V.int a = V.int b)) = true) : a = b := by
  by_cases z : a = b
  · exact z
  · exfalso
    apply c
    have z2 : ¬ (V.int a = V.int b) := fun y => z (V.int.inj y)
    simp [z2]
def spTurning (K : PySem.W.Frag) (C : Addr) : Sp := fun vs H Q _ => ∃ t : Nat, vs = [.int (t : Int)] ∧ t ≤ 100000 ∧ ∀ H' p, Same H H' → H p = none → MoveAt K C H' p t (turnM t) → Q (.ref p) H'
def spKeeping (K : PySem.W.Frag) (C : Addr) : Sp := fun vs H Q _ => ∃ (a : Addr) (bs : List Bool), vs = [.ref a] ∧ SqL K H a (bs.map V.bl) ∧ bs.length ≤ 100000 ∧ ∀ H' p, Same H H' → H p = none → MoveAt K C H' p bs.length (keepM bs) → Q (.ref p) H'
def spCutting (K : PySem.W.Frag) (C CN : Addr) : Sp := fun vs H Q E => ∃ (t : Nat) (j : Int), vs = [.int (t : Int), .int j] ∧ t ≤ 100000 ∧
  (0 ≤ j ∧ j < (t : Int) → ∀ H' p, Same H H' → H p = none → MoveAt K C H' p t (cutM t j) → Q (.ref p) H') ∧
  (¬ (0 ≤ j ∧ j < (t : Int)) → ∀ dd, H dd = none → E (.ref CN) (some dd) (upd H dd (.xd [("place", .int j)])))
def spOpening (K : PySem.W.Frag) (C CN : Addr) : Sp := fun vs H Q E => ∃ (t : Nat) (j : Int), vs = [.int (t : Int), .int j] ∧ t ≤ 90000 ∧
  (0 ≤ j ∧ j ≤ (t : Int) → ∀ H' p, Same H H' → H p = none → MoveAt K C H' p t (openM t j.toNat) → Q (.ref p) H') ∧
  (¬ (0 ≤ j ∧ j ≤ (t : Int)) → ∀ dd, H dd = none → E (.ref CN) (some dd) (upd H dd (.xd [("place", .int j)])))
end MV

namespace MV
open PySem PySem.Spec PyProof.Rows L2 SB MM
local macro_rules | `(tactic| walk_at "rd") => `(tactic| repeat (first | (refine ⟨_, rfl, ?_⟩) | (refine ⟨_, _, rfl, rfl, ?_⟩) | (refine ⟨_, _, rfl, ?_⟩) | (refine ⟨rfl, ?_⟩)))
abbrev s_m_keeping : Stmt := inClass (top 18) 14
section
variable {P : Program} {w : World} {K : PySem.W.Frag} {mg : Str → Option Value} {base : Heap} {C CN : Addr}
theorem sc_m_keeping : FnScope ["flags", "at", "flag"] ["flags"] (defScope s_m_keeping) := ⟨rfl, rfl, rfl, by decide +kernel, rfl, by decide +kernel, by decide +kernel⟩
theorem ok_keeping {f : Addr} {fd : FuncData} (F : Fun K "keeping" "Move.keeping" s_m_keeping f fd) (T : TxtM K mg C) (MMove : Ml P w K mg base CX0 1 "Move" C (spInit K C)) : FnR P w K mg base CX0 3 f (spKeeping K C) := by
  refine fnr F sc_m_keeping (fun vs H Q E h => ?_) (fun _ _ _ _ _ _ us hl => match us, hl with | [_], _ => rfl) (fun cdv A outer s H vs Q E hr h => ?_)
  · obtain ⟨a, bs, rfl, _⟩ := h
    rfl
  · obtain ⟨a, bs, rfl, ha, hz, k⟩ := h
    refine ⟨_, (pss_one (ps_ret (pe_ml MMove hr (by decide) (by rfl) pass0 (pa_cons (pe_callB call_len_seq (by rfl) T.n_len (by decide +kernel) (pa_cons (pv 0) pa_nil)) (pa_cons (pe_lc (own := [("at", 1), ("flag", 2)]) (by rfl) sc_m_keeping.nd (pi_enumS (by rfl) T.n_enumerate (pa_cons (pv 0) pa_nil)) (blkOk_by (own := [("at", 1), ("flag", 2)]) (N := ["flags", "at", "flag"]) (sc := defScope s_m_keeping) (by first | decide +kernel | kernel_rfl)) (fun _ _ _ _ _ => (pg_tupK (K := K) (n := 2) (by rfl) (by rfl) (pgs_cons (pg_name (i := 1) sc_m_keeping.nd rfl (Or.inl rfl)) (pgs_cons (pg_name (i := 2) sc_m_keeping.nd rfl (Or.inl rfl)) pgs_nil)))) (fun _ _ _ _ _ => by exact (pts_one (pt_val (pv 2)))) (fun _ _ _ _ _ => by exact (pv 1))) pa_nil))))), ?_⟩
    walk_at "rd"
    refine ⟨a, _, rfl, .inl ha, ?_⟩
    rw [List.length_map]
    walk_at "rd"
    refine ⟨a, _, rfl, .inl ha, fun J G w hG => ?_⟩
    intro D hD
    have s1 : Same H (upd H D (.lst [])) := same_new (Same.refl H) hD
    refine lc_it w (fun i H' => KeepB D (upd H D (.lst [])) H' ∧ H' D = some (.lst (((stillM i).filter fun j => bs.getD j.toNat false).map V.int))) ⟨KeepB.refl _ _, upd_same⟩ ?_ ?_ ?_
    · rintro i H' _ ⟨kp, _⟩
      exact hG H' (fun e => stayL e fun o h => kp _ _ (s1 _ _ h) (ne_of_none h hD)) (fun e => kp.sqT upd_same (Same.sqT s1 e))
    · rintro i x' H' H'' hi ⟨kp, hL⟩ ⟨T', x0, y0, rfl, hT, rfl, e0, ey⟩
      cases e0
      have hi' : i < bs.length := by simpa using hi
      have epi : bs[i]? = some bs[i] := List.getElem?_eq_getElem hi'
      have ey' : y0 = .bl bs[i] := by
        have q : (bs.map V.bl)[i]? = some y0 := ey
        rw [List.getElem?_map, epi] at q
        exact (Option.some.inj q).symm
      subst ey'
      have ndT : D ≠ T' := ne_of_none hL hT
      have hL2 : (upd H' T' (.tup [.int (i : Nat), .bl bs[i]])) D = some (.lst (((stillM i).filter fun j => bs.getD j.toNat false).map V.int)) := by rw [upd_ne ndT]; exact hL
      have kp2 := kp.new (o := .tup [.int (i : Nat), .bl bs[i]]) hT
      have est : stillM (i + 1) = stillM i ++ [(i : Int)] := by
        unfold stillM
        rw [List.range_succ, List.map_append]
        rfl
      have gi : bs.getD i false = bs[i] := by simp [List.getD, epi]
      have hfl := List.length_filter_le (fun j : Int => bs.getD j.toNat false) (stillM i)
      rw [stillM_length] at hfl
      refine ⟨T', _, rfl, SqT.of upd_same, rfl, ?_⟩
      walk_at "rd"
      cases cb : bs[i] with
      | true =>
        rw [cb] at hL2 kp2
        refine iteT ?_
        walk_at "rd"
        refine ⟨_, hL2, by rw [List.length_map]; exact lt_line (by omega), kp2.upd, ?_⟩
        have hf : [(i : Int)].filter (fun j => bs.getD j.toNat false) = [(i : Int)] := by
          rw [List.filter_cons, if_pos (show bs.getD ((i : Int)).toNat false = true by rw [Int.toNat_natCast, gi, cb])]
          rfl
        rw [upd_same, est, List.filter_append, List.map_append, hf]
        rfl
      | false =>
        rw [cb] at hL2 kp2
        refine iteF ?_
        refine ⟨kp2, ?_⟩
        have hf : [(i : Int)].filter (fun j => bs.getD j.toNat false) = [] := by
          rw [List.filter_cons, if_neg (show ¬ bs.getD ((i : Int)).toNat false = true by rw [Int.toNat_natCast, gi, cb]; decide)]
          rfl
        rw [hL2, est, List.filter_append, hf, List.append_nil]
    · rintro HI ⟨kp, hL⟩
      rw [List.length_map] at hL
      have s2 : Same H HI := fun c o e => kp c o (s1 c o e) (ne_of_none e hD)
      refine mk_move (.inl (SqL.of hL)) (still_sub List.filter_sublist) ?_ fun H2 q e2 hq m => k H2 q (s2.trans e2) (s2.free hq) m
      have := List.length_filter_le (fun j : Int => bs.getD j.toNat false) (stillM bs.length)
      rw [stillM_length] at this
      exact Nat.le_trans this hz
end
end MV

namespace MV
open PySem PySem.Spec PyProof.Rows L2 SB MM LamX
/-! moves, tuples of rows, rows good and odd, as heaps go on -/
section
variable {TS : List (Addr × Str)} {K : PySem.W.Frag} {H H1 H' : Hp} {L L1 : List Addr} {p q a b C : Addr} {xs ys : List V} {Q : VK} {E : XK} {t : Nat} {ps : List Int} {wd : Nat} {v : V}
theorem ev_move (e : Ev TS L H H') (h : MoveAt K C H a t ps) (n : Nin H a L) : MoveAt K C H' a t ps := by
  obtain ⟨dx, q, h1, h2⟩ := h
  exact ⟨dx, q, ev_ins e h1 n, ev_sqT e h2⟩
theorem MoveAt.isI (h : MoveAt K C H a t ps) : isI H a := by
  obtain ⟨dx, q, h1, h2⟩ := h
  exact ⟨_, _, _, h1⟩
theorem MoveAt.ins (h : MoveAt K C H a t ps) : ∃ dx fs, H a = some (.ins C dx fs) := by
  obtain ⟨dx, q, h1, h2⟩ := h
  exact ⟨_, _, h1⟩
theorem kfs_put (qn qh q : Addr) : putF "held" (.ref q) (kfs qn qh) = kfs qn q := by
  unfold kfs
  rfl
theorem rg_take {t i : Nat} (h : i ≤ t) : rgV 0 (i : Int) = ((stillM t).take i).map V.int := by
  unfold rgV stillM
  rw [← List.map_take, List.take_range, List.map_map]
  have : ((i : Int) - 0).toNat = min i t := by omega
  rw [this]
  apply List.map_congr_left
  intro j _
  show V.int ((0 : Int) + (j : Nat)) = V.int (j : Int)
  rw [Int.zero_add]
theorem rg_drop {t i : Nat} (h : i ≤ t) : rgV (i : Int) (t : Int) = ((stillM t).drop i).map V.int := by
  unfold rgV stillM
  rw [← List.map_drop, List.map_map]
  apply List.ext_getElem?
  intro j
  rw [List.getElem?_map, List.getElem?_map, List.getElem?_drop]
  by_cases hj : j < t - i
  · rw [List.getElem?_range (by omega), List.getElem?_range (by omega)]
    show some (V.int ((i : Int) + (j : Nat))) = some (V.int ((i + j : Nat) : Int))
    congr 2
  · rw [List.getElem?_eq_none (by rw [List.length_range]; omega), List.getElem?_eq_none (by rw [List.length_range]; omega)]
    rfl
theorem rep_one (g : Nat) : (List.replicate g [V.int (-1)]).flatten = (List.replicate g (-1)).map V.int := by
  induction g with
  | zero => rfl
  | succ g ih => rw [List.replicate_succ, List.replicate_succ, List.flatten_cons, ih]; rfl
theorem a_rep {g : Nat} (h : H p = some (.lst [V.int (-1)])) (hg : g ≤ 100000) (k : ∀ q H', H q = none → Ev TS [] H H' → H' q = some (.lst ((List.replicate g (-1)).map V.int)) → Q (.ref q) H') : rRep (.ref p) (.int (g : Int)) H Q := by
  refine ⟨p, (g : Int), _, rfl, rfl, h, by omega, by omega, ?_, fun q hq => k q _ hq (Ev.new hq) ?_⟩
  · rw [Int.toNat_natCast]
    show 1 * g ≤ sizeLine
    exact le_line (by omega)
  · rw [Int.toNat_natCast, rep_one]
    exact upd_same
theorem add_map {t i g : Nat} : ((stillM t).take i).map V.int ++ (List.replicate g (-1)).map V.int ++ ((stillM t).drop i).map V.int = (addM t i g).map V.int := by
  unfold addM
  rw [List.map_append, List.map_append]
/-- rows stand in the tuple at p -/
def RT (H : Hp) (p : Addr) (rows : List (List Int)) : Prop := ∃ rs : List Row, H p = some (.tup (rs.map refR)) ∧ RA H rs ∧ rs.map Prod.snd = rows
theorem ev_rt {rows : List (List Int)} (e : Ev TS L H H') (h : RT H p rows) : RT H' p rows := by
  obtain ⟨rs, h1, h2, h3⟩ := h
  exact ⟨rs, ev_tup e h1, ev_ra e h2, h3⟩
theorem RT.nil (h : H p = some (.tup [])) : RT H p [] := ⟨[], h, (fun _ z => nomatch z), rfl⟩
def GoodR (H : Hp) (wd : Nat) (v : V) : Prop := ∃ (p : Addr) (r : List Int), v = .ref p ∧ H p = some (.tup (r.map V.int)) ∧ r.length = wd ∧ ∀ i ∈ r, NumOk i
theorem ev_goodR (e : Ev TS L H H') (h : GoodR H wd v) : GoodR H' wd v := by
  obtain ⟨p, r, h1, h2, h3⟩ := h
  exact ⟨p, r, h1, ev_tup e h2, h3⟩
def RowVs (H : Hp) (wd : Nat) (ws : List V) : Prop := ∀ x ∈ ws, GoodR H wd x ∨ OdR H wd x
theorem ev_rowvs {ws : List V} (e : Ev TS L H H') (h : RowVs H wd ws) : RowVs H' wd ws := fun x hx => (h x hx).imp (fun z => ev_goodR e z) (fun z => ev_odR e z)
theorem good_odd (h : GoodR H wd v) (o : OdR H wd v) : False := by
  obtain ⟨p, r, rfl, hp, hl, ho⟩ := h
  rcases o with z | ⟨m, z⟩ | ⟨y, z⟩ | ⟨q, z, xs, hq⟩ | ⟨q, xs, z, hq, _, _, hb⟩
  · cases z
  · cases z
  · cases z
  · cases z
    rw [hp] at hq
    cases hq
  · cases z
    rw [hp] at hq
    injection hq with hq
    injection hq with hq
    subst hq
    rw [decide_eq_true (by rw [List.length_map, hl]), Bool.true_and] at hb
    have : (r.map V.int).all numV = true := by
      rw [List.all_eq_true]
      intro x hx
      obtain ⟨m, hm, rfl⟩ := List.mem_map.mp hx
      exact decide_eq_true (ho m hm)
    rw [this] at hb
    cases hb
theorem first_odd {ws : List V} {j j' : Nat} {x x' : V} (hx : ws[j]? = some x) (ho : OdR H wd x) (hl : ∀ (i : Nat) (y : V), i < j → ws[i]? = some y → GoodR H wd y) (hx' : ws[j']? = some x') (ho' : OdR H wd x') (hl' : ∀ (i : Nat) (y : V), i < j' → ws[i]? = some y → GoodR H wd y) : j = j' := by
  rcases Nat.lt_trichotomy j j' with z | z | z
  · exact (good_odd (hl' j x z hx) ho).elim
  · exact z
  · exact (good_odd (hl j' x' z hx') ho').elim
theorem isrow_good (h : GoodR H wd v) (hw : wd ≤ 10) (k : ∀ H', Ev TS [] H H' → Q (.bl true) H') : spIsRow K [v, .int (wd : Int)] H Q E := by
  obtain ⟨p, r, rfl, hp, hl, ho⟩ := h
  refine ⟨_, wd, rfl, .inl ⟨p, r.map V.int, rfl, SqT.of hp, fun H' s x hx => ?_, by rw [List.length_map]; omega, fun H' s => ?_⟩⟩
  · obtain ⟨m, _, rfl⟩ := List.mem_map.mp hx
    exact .inl ⟨m, rfl⟩
  · have e0 : (decide ((r.map V.int).length = wd) && (r.map V.int).all numV) = true := by
      rw [decide_eq_true (by rw [List.length_map, hl]), Bool.true_and, List.all_eq_true]
      intro x hx
      obtain ⟨m, hm, rfl⟩ := List.mem_map.mp hx
      exact decide_eq_true (ho m hm)
    rw [e0]
    exact k H' (Ev.same s)
theorem isrow_odd (h : OdR H wd v) (k : ∀ H', Ev TS [] H H' → Q (.bl false) H') : spIsRow K [v, .int (wd : Int)] H Q E := by
  refine ⟨v, wd, rfl, ?_⟩
  have k0 := k H (Ev.refl _ _)
  rcases h with rfl | ⟨m, rfl⟩ | ⟨z, rfl⟩ | ⟨p, rfl, xs, hp⟩ | ⟨p, xs, rfl, hp, hx, hxl, hb⟩
  · exact .inr ⟨⟨"NoneType", by simp, .base .non⟩, k0⟩
  · exact .inr ⟨⟨"int", by simp, .base (.int m)⟩, k0⟩
  · exact .inr ⟨⟨"str", by simp, .base (.str z)⟩, k0⟩
  · exact .inr ⟨⟨"list", by simp, tyL (SqL.of hp)⟩, k0⟩
  · refine .inl ⟨p, xs, rfl, SqT.of hp, fun H' s x hxx => (ev_cel (TS := TS) (Ev.same s) (hx x hxx)).plain, hxl, fun H1 s1 => ?_⟩
    rw [hb]
    exact k H1 (Ev.same s1)
theorem rt_uniq : ∀ {rs rs' : List Row}, RA H rs → RA H rs' → rs.map refR = rs'.map refR → rs.map Prod.snd = rs'.map Prod.snd
  | [], [], _, _, _ => rfl
  | [], _ :: _, _, _, h => by simp at h
  | _ :: _, [], _, _, h => by simp at h
  | r :: rs, r' :: rs', h1, h2, h => by
    rw [List.map_cons, List.map_cons] at h
    injection h with h3 h4
    have e1 : r.1 = r'.1 := V.ref.inj h3
    have e2 := h1 r List.mem_cons_self
    rw [e1, h2 r' List.mem_cons_self] at e2
    injection e2 with e2
    injection e2 with e2
    have e3 : r'.2 = r.2 := (List.map_inj_right (fun x y e => by injection e)).mp e2
    rw [List.map_cons, List.map_cons, e3, rt_uniq (fun t ht => h1 t (List.mem_cons_of_mem _ ht)) (fun t ht => h2 t (List.mem_cons_of_mem _ ht)) h4]
theorem goods_rt {ws : List V} (h : ∀ x ∈ ws, GoodR H wd x) (hp : H p = some (.tup ws)) : ∃ new, RT H p new ∧ WF wd new ∧ new.length = ws.length := by
  have : ∀ ws : List V, (∀ x ∈ ws, GoodR H wd x) → ∃ rs : List Row, ws = rs.map refR ∧ RA H rs ∧ WF wd (rs.map Prod.snd) := by
    intro ws
    induction ws with
    | nil => exact fun _ => ⟨[], rfl, (fun _ z => nomatch z), (fun _ z => nomatch z)⟩
    | cons y ws ih =>
      intro h
      obtain ⟨rs, e1, e2, e3⟩ := ih fun z hz => h z (List.mem_cons_of_mem _ hz)
      obtain ⟨p, r, h1, h2, h3⟩ := h y List.mem_cons_self
      refine ⟨(p, r) :: rs, by rw [e1, h1]; rfl, fun t ht => ?_, fun t ht => ?_⟩
      · rcases List.mem_cons.mp ht with z | z
        · rw [z]; exact h2
        · exact e2 t z
      · rw [List.map_cons] at ht
        rcases List.mem_cons.mp ht with z | z
        · rw [z]; exact h3
        · exact e3 t z
  obtain ⟨rs, rfl, e2, e3⟩ := this ws h
  exact ⟨_, ⟨rs, hp, e2, rfl⟩, e3, by rw [List.length_map, List.length_map]⟩
theorem keeping_ok {l : Addr} {bs : List Bool} (h : H l = some (.lst (bs.map V.bl))) (hz : bs.length ≤ 100000) (k : ∀ p H', H p = none → Ev TS [] H H' → MoveAt K C H' p bs.length (keepM bs) → Q (.ref p) H') : spKeeping K C [.ref l] H Q E := ⟨l, bs, rfl, SqL.of h, hz, fun H' p s np m => k p H' np (Ev.same s) m⟩
theorem keep_drop (t : Nat) (gone : List Int) : keepM ((List.range t).map fun i : Nat => !decide ((i : Int) ∈ gone)) = dropM t gone := by
  unfold keepM dropM
  rw [List.length_map, List.length_range]
  apply List.filter_congr
  intro p hp
  obtain ⟨h0, h1⟩ := still_mem.mp hp
  obtain ⟨i, rfl⟩ := Int.eq_ofNat_of_zero_le h0
  rw [List.getD_eq_getElem?_getD, Int.toNat_natCast, List.getElem?_map, List.getElem?_range (by omega)]
  rfl
theorem move_ok {x dx l : Addr} (nx : H x = none) (nd : H dx = none) (hl : SqS K H l (ps.map V.int)) (ok : MoveOk t ps) (hz : ps.length ≤ 100000) (k : ∀ H', Ev TS [] H H' → MoveAt K C H' x t ps → Q .non H') : spInit K C [.ref x, .int (t : Int), .ref l] (upd (upd H dx (.own x)) x (.ins C dx [])) Q E := by
  have s0 : Same H (upd (upd H dx (.own x)) x (.ins C dx [])) := fun b o e => by
    rw [upd_ne (ne_of_none e nx), upd_ne (ne_of_none e nd)]
    exact e
  refine ⟨x, dx, l, t, ps, rfl, upd_same, hl.same s0, ok, hz, fun H' q kp hx hq => k H' (Ev.same fun b o e => kp b o (s0 b o e) (ne_of_none e nx)) ⟨dx, q, hx, hq⟩⟩
theorem call_ok {a v n : Addr} (hm : MoveAt K C H a t ps) (ok : MoveOk t ps) (hz : ps.length ≤ 100000) (hv : SqS K H v xs) (hn : SqS K H n ys) (h1 : xs.length = t) (h2 : ys.length = gapsM ps) (k : ∀ p H', H p = none → Ev TS [] H H' → H' p = some (.lst (applyM ps xs ys)) → Q (.ref p) H') : spCall K C [.ref a, .ref v, .ref n] H Q E :=
  ⟨a, v, n, t, ps, xs, ys, rfl, hm, ok, hz, hv, hn, h1, h2, fun H' p s np hp => k p H' np (Ev.same s) hp⟩
end
end MV

/-! lists and tuples of names as data -/
namespace MV
open PySem PySem.Spec PyProof.Rows L2 SB MM
section
variable {K : PySem.W.Frag} {H : Hp} {p q : Addr} {Q : VK} {TS : List (Addr × Str)}
/-- names that can be laid -/
def StrsOk (xs : List Str) : Prop := ∀ z ∈ xs, PyData.strOk z = true
theorem dpAll_strs : ∀ ns : List Str, DpAll K H (ns.map V.str) (ns.map PyData.str)
  | [] => .nil
  | n :: r => .cons (.str n) (dpAll_strs r)
theorem dp_strs {ns : List Str} (h : SqL K H p (ns.map V.str)) : Dp K H (.ref p) (.list (ns.map PyData.str)) := .lst h (dpAll_strs ns)
theorem dp_strsT {ns : List Str} (h : SqT K H p (ns.map V.str)) : Dp K H (.ref p) (.tuple (ns.map PyData.str)) := .tup h (dpAll_strs ns)
theorem sh_strs {ns : List Str} (h : StrsOk ns) : ∀ d ∈ ns.map PyData.str, Sh d := fun d hd => by
  obtain ⟨n, hn, rfl⟩ := List.mem_map.mp hd
  exact ⟨h n hn, Nat.zero_le _⟩
theorem sh_strsT {ns : List Str} (h : StrsOk ns) : Sh (.tuple (ns.map PyData.str)) := (sh_seq (k := 0) (fun d hd => by
  obtain ⟨n, hn, rfl⟩ := List.mem_map.mp hd
  exact ⟨h n hn, Nat.zero_le _⟩) (by decide)).2
theorem eqvAll_strs : ∀ a b : List Str, PyData.eqvAll (a.map PyData.str) (b.map PyData.str) = decide (a = b)
  | [], [] => rfl
  | [], _ :: _ => rfl
  | _ :: _, [] => rfl
  | x :: a, y :: b => by
    show (PyData.eqv (.str x) (.str y) && PyData.eqvAll (a.map PyData.str) (b.map PyData.str)) = decide (x :: a = y :: b)
    rw [eqvAll_strs a b]
    have e : PyData.eqv (.str x) (.str y) = decide (x = y) := by
      unfold PyData.eqv
      exact Bool.beq_eq_decide_eq x y
    rw [e, ← Bool.decide_and]
    exact decide_eq_decide.mpr ⟨fun h => by rw [h.1, h.2], fun h => by injection h with h1 h2; exact ⟨h1, h2⟩⟩
theorem a_neN {xs ys : List Str} (hp : SqT K H p (xs.map V.str)) (hq : SqT K H q (ys.map V.str)) (hx : StrsOk xs) (hy : StrsOk ys) (k : Q (.bl (!decide (xs = ys))) H) : rNeD K (.ref p) (.ref q) H Q := by
  refine a_neD (dp_strsT hp) (dp_strsT hq) (shaped_tuple (sh_strs hx)) (shaped_tuple (sh_strs hy)) ?_
  rw [eqv_tuple, eqvAll_strs]
  exact k
theorem a_eqN {xs ys : List Str} (hp : SqT K H p (xs.map V.str)) (hq : SqT K H q (ys.map V.str)) (hx : StrsOk xs) (hy : StrsOk ys) (k : Q (.bl (decide (xs = ys))) H) : rEqD K (.ref p) (.ref q) H Q := by
  refine a_eqD (dp_strsT hp) (dp_strsT hq) (shaped_tuple (sh_strs hx)) (shaped_tuple (sh_strs hy)) ?_
  rw [eqv_tuple, eqvAll_strs]
  exact k
theorem a_neNL {xs ys : List Str} (hp : SqL K H p (xs.map V.str)) (hq : SqL K H q (ys.map V.str)) (hx : StrsOk xs) (hy : StrsOk ys) (k : Q (.bl (!decide (xs = ys))) H) : rNeD K (.ref p) (.ref q) H Q := by
  refine a_neD (dp_strs hp) (dp_strs hq) (shaped_list (sh_strs hx)) (shaped_list (sh_strs hy)) ?_
  rw [eqv_list, eqvAll_strs]
  exact k
end
end MV

/-! dict comprehensions; a dict of columns -/
namespace MV
open PySem PySem.Spec PyProof.Rows L2 SB MM LamX
section
variable {TS : List (Addr × Str)} {K : PySem.W.Frag} {H H1 H' : Hp} {L L1 : List Addr} {p q a b : Addr} {xs ys : List V}
theorem pi_listK {X : Cx} {tg l : Expr} {tl : TE} (hK : X.K = K) (hl : PE X l tl) : PI X tg l (iList K tl) := hK ▸ pi_list hl
theorem pi_tupK {X : Cx} {tg l : Expr} {tl : TE} (hK : X.K = K) (hl : PE X l tl) : PI X tg l (iTup K tl) := hK ▸ pi_tup hl
theorem call_tuple_ofK {X : Cx} (hK : X.K = K) : CallR X (.type "tuple") (fun xs H Q => ∃ p ys, xs = [.ref p] ∧ ((SqL K H p ys ∧ ∀ l, H l = none → Q (.ref l) (upd H l (.tup ys))) ∨ (SqT K H p ys ∧ Q (.ref p) H))) := hK ▸ call_tuple_of
theorem op_eqDK {X : Cx} (hK : X.K = K) (hu : X.A.units + 64 < cLine) : OpR X (compareOp .Eq) (rEqD K) := hK ▸ op_eqD hu
theorem op_neDK {X : Cx} (hK : X.K = K) (hu : X.A.units + 64 < cLine) : OpR X (compareOp .NotEq) (rNeD K) := hK ▸ op_neD hu
theorem call_isiK {X : Cx} (hK : X.K = K) : CallR X (.builtin "isinstance") (rIsi K) := hK ▸ call_isi
theorem cr_allK {X : Cx} (hK : X.K = K) (hc : X.calm = true) : CallR X (.builtin "all") (rAll K) := hK ▸ cr_all hc
/-- the dict that is made stands at D -/
def DcI (I : List (Key × V) → Hp → Prop) (D : Addr) (H : Hp) : Prop := ∃ kvs, H D = some (.dK kvs) ∧ I kvs H
theorem dc_put {I : List (Key × V) → Hp → Prop} {D : Addr} {kvs : List (Key × V)} {y : Str} {z : V} (h : H D = some (.dK kvs)) (hz : kvs.length < sizeLine) (k : ∀ H5, Ev TS [D] H H5 → H5 D = some (.dK (putK kvs (Sum.inr y) z)) → I (putK kvs (Sum.inr y) z) H5) :
    ∃ kvs k, V.str y = kV k ∧ H D = some (.dK kvs) ∧ kvs.length < sizeLine ∧ DcI I D (upd H D (.dK (putK kvs k z))) := ⟨kvs, Sum.inr y, rfl, h, hz, _, upd_same, k _ (Ev.setD h) upd_same⟩
theorem dc_ev {J : It} {n : Nat} {G : Hp → Prop} {Y : Nat → Hp → V → Hp → Prop} (w : Walk J n G Y) {g : TG} {tt : TT} {tk tv : TE} {vs : List Nat} {σ : L2.St} {H1 : Hp} {D : Addr} {Qd : Hp → Prop} (hD : H1 D = none) (I : Nat → List (Key × V) → Hp → Prop) (h0 : ∀ H2, Ev TS [] H1 H2 → H2 D = some (.dK []) → I 0 [] H2) (hG : ∀ i kvs H, i ≤ n → I i kvs H → H D = some (.dK kvs) → G H)
    (hs : ∀ i x kvs H H', i < n → I i kvs H → H D = some (.dK kvs) → Y i H x H' → g x (wipe σ vs) H' fun σ2 H2 => wipe σ2 vs = wipe σ vs ∧ tt σ2 H2 fun b H3 =>
      if b = true then tk σ2 H3 fun y H4 => tv σ2 H4 fun z H5 => ∃ kvs k, y = kV k ∧ H5 D = some (.dK kvs) ∧ kvs.length < sizeLine ∧ DcI (I (i + 1)) D (upd H5 D (.dK (putK kvs k z))) else DcI (I (i + 1)) D H3) (hd : ∀ kvs H, I n kvs H → H D = some (.dK kvs) → Qd H) :
    ∃ W : Nat → Nat → Hp → Prop, (∃ m, W 0 m (upd H1 D (.dK []))) ∧ ∀ i m H, W i m H →
      (J.stop i H ∧ Qd H) ∨ (J.go i H ∧ ∃ Nx : Hp → Prop, (∀ H', Nx H' → ∃ m', m' < m ∧ W (i + 1) m' H') ∧ ∀ x H', J.yld i H x H' → g x (wipe σ vs) H' fun σ2 H2 => wipe σ2 vs = wipe σ vs ∧ tt σ2 H2 fun b H3 =>
        if b = true then tk σ2 H3 fun y H4 => tv σ2 H4 fun z H5 => ∃ kvs k, y = kV k ∧ H5 D = some (.dK kvs) ∧ kvs.length < sizeLine ∧ Nx (upd H5 D (.dK (putK kvs k z))) else Nx H3) := by
  refine dc_it w (fun i H => DcI (I i) D H) ⟨[], upd_same, h0 _ (Ev.new hD) upd_same⟩ (fun i H hi ⟨kvs, h1, h2⟩ => hG i kvs H hi h2 h1) ?_ (fun H ⟨kvs, h1, h2⟩ => hd kvs H h2 h1)
  rintro i x H H' hi ⟨kvs, h1, h2⟩ y
  exact hs i x kvs H H' hi h2 h1 y
/-- names and addresses side by side -/
def zipK : List Str → List Addr → List (Key × V)
  | z :: zs, p :: ps => (Sum.inr z, .ref p) :: zipK zs ps
  | _, _ => []
theorem valV_cons {k k' : Key} {v : V} {r : List (Key × V)} : valV ((k, v) :: r) k' = if k = k' then some v else valV r k' := by
  unfold valV
  rw [List.find?_cons]
  by_cases h : k = k'
  · simp [h]
  · simp [h]
theorem zipK_none {z : Str} : ∀ {nms : List Str} {ps : List Addr}, z ∉ nms → valV (zipK nms ps) (Sum.inr z) = none
  | [], _, _ => by cases ‹List Addr› <;> rfl
  | _ :: _, [], _ => rfl
  | y :: nms, p :: ps, h => by
    show valV ((Sum.inr y, V.ref p) :: zipK nms ps) (Sum.inr z) = none
    rw [valV_cons, if_neg (fun e => h (by rw [← Sum.inr.inj e]; exact List.mem_cons_self)), zipK_none (fun m => h (List.mem_cons_of_mem _ m))]
theorem zipK_get {z : Str} : ∀ {nms : List Str} {ps : List Addr} {j : Nat} {p : Addr}, nms.Nodup → nms[j]? = some z → ps[j]? = some p → valV (zipK nms ps) (Sum.inr z) = some (.ref p)
  | [], _, _, _, _, h, _ => by simp at h
  | _ :: _, [], _, _, _, _, h => by simp at h
  | y :: nms, p :: ps, 0, _, _, h1, h2 => by
    cases h1
    cases h2
    show valV ((Sum.inr z, V.ref p) :: zipK nms ps) (Sum.inr z) = _
    rw [valV_cons, if_pos rfl]
  | y :: nms, p :: ps, j + 1, q, hn, h1, h2 => by
    show valV ((Sum.inr y, V.ref p) :: zipK nms ps) (Sum.inr z) = _
    rw [List.nodup_cons] at hn
    rw [valV_cons, if_neg (fun e => hn.1 (by rw [Sum.inr.inj e]; exact List.mem_of_getElem? h1)), zipK_get hn.2 h1 h2]
theorem zipK_snoc {z : Str} {p : Addr} : ∀ {a : List Str} {b : List Addr}, a.length = b.length → zipK (a ++ [z]) (b ++ [p]) = zipK a b ++ [(Sum.inr z, .ref p)]
  | [], [], _ => rfl
  | [], _ :: _, h => by simp at h
  | _ :: _, [], h => by simp at h
  | y :: a, q :: b, h => by
    show (Sum.inr y, V.ref q) :: zipK (a ++ [z]) (b ++ [p]) = (Sum.inr y, V.ref q) :: (zipK a b ++ [(Sum.inr z, .ref p)])
    rw [zipK_snoc (by simpa using h)]
theorem zipK_length : ∀ {a : List Str} {b : List Addr}, a.length = b.length → (zipK a b).length = a.length
  | [], _, _ => by cases ‹List Addr› <;> rfl
  | _ :: _, [], h => by simp at h
  | y :: a, q :: b, h => by
    show (zipK a b).length + 1 = a.length + 1
    rw [zipK_length (by simpa using h)]
theorem zipK_keys : ∀ {a : List Str} {b : List Addr}, a.length = b.length → (zipK a b).map (fun kv => kV kv.1) = a.map V.str
  | [], _, _ => by cases ‹List Addr› <;> rfl
  | _ :: _, [], h => by simp at h
  | y :: a, q :: b, h => by
    show V.str y :: (zipK a b).map (fun kv => kV kv.1) = V.str y :: a.map V.str
    rw [zipK_keys (by simpa using h)]
/-- the columns stand in the dict at d -/
def ColAt (H : Hp) (d : Addr) (ps : List Addr) (nms : List Str) (rows : List (List Int)) : Prop := H d = some (.dK (zipK nms ps)) ∧ ps.length = nms.length ∧ ∀ j p, ps[j]? = some p → H p = some (.lst ((colR rows j).map V.int))
theorem ColAt.get {d : Addr} {ps : List Addr} {nms : List Str} {rows : List (List Int)} {j : Nat} {z : Str} (h : ColAt H d ps nms rows) (hn : nms.Nodup) (hj : nms[j]? = some z) : ∃ p, p ∈ ps ∧ ps[j]? = some p ∧ DGet H d (.str z) (some (.ref p)) ∧ H p = some (.lst ((colR rows j).map V.int)) := by
  obtain ⟨h1, h2, h3⟩ := h
  have hl := (List.getElem?_eq_some_iff.mp hj).1
  have hp : ps[j]? = some ps[j] := List.getElem?_eq_getElem (by omega)
  refine ⟨ps[j], List.getElem_mem _, hp, ?_, h3 j _ hp⟩
  have := DGet.k (k := Sum.inr z) h1
  rw [zipK_get hn hj hp] at this
  exact this
end
end MV

/-! small answers that several laws want -/
namespace MV
open PySem PySem.Spec PyProof.Rows L2 SB MM LamX
section
variable {TS : List (Addr × Str)} {K : PySem.W.Frag} {H H' : Hp} {p q a : Addr} {Q : VK} {xs : List V}
theorem st_np {σ : L2.St} {H : Hp} {Q : Option Int → Hp → Prop} (h : Q none H) : tNoPart σ H Q := h
theorem a_slLfrN {k : Nat} (ha : H a = some (.lst xs)) (h : k ≤ xs.length) (q : ∀ p H', H p = none → Ev TS [] H H' → H' p = some (.lst (xs.drop k)) → Q (.ref p) H') : rSlL K (.ref a) (some (k : Int)) none H Q := ⟨a, xs, rfl, SqL.of ha, fun p hp => q p _ hp (Ev.new hp) (by rw [cut_from _ _ h]; exact upd_same)⟩
theorem a_neM {v u : V} {d : PyData} (h1 : Dm H v d) (h2 : Dm H u d) (hs : SeqAt.shaped d = true) (k : Q (.bl false) H) : rNeD K v u H Q := by
  refine a_neD h1.dp h2.dp hs hs ?_
  rw [eqv_flat hs]
  exact k
theorem rep_int (i : Int) (g : Nat) : (List.replicate g [V.int i]).flatten = (List.replicate g i).map V.int := by
  induction g with
  | zero => rfl
  | succ g ih => rw [List.replicate_succ, List.replicate_succ, List.flatten_cons, ih]; rfl
theorem a_repI {i : Int} {g : Nat} (h : H p = some (.lst [V.int i])) (hg : g ≤ 100000) (k : ∀ q H', H q = none → Ev TS [] H H' → H' q = some (.lst ((List.replicate g i).map V.int)) → Q (.ref q) H') : rRep (.ref p) (.int (g : Int)) H Q := by
  refine ⟨p, (g : Int), _, rfl, rfl, h, by omega, by omega, ?_, fun q hq => k q _ hq (Ev.new hq) ?_⟩
  · rw [Int.toNat_natCast]
    show 1 * g ≤ sizeLine
    exact le_line (by omega)
  · rw [Int.toNat_natCast, rep_int]
    exact upd_same
theorem un65 {k : Nat} {A : Around} (r : Room k A) : A.units + 65 < cLine := by have := r.un; omega
theorem LR.nil0 (h : H p = some (.lst [])) : LR H p [] := ⟨[], h, (fun _ z => nomatch z), rfl⟩
theorem LR.app {r1 r2 : List (List Int)} {rs ss : List Row} (h : H p = some (.lst (rs.map refR ++ ss.map refR))) (h1 : RA H rs) (h2 : RA H ss) (e1 : rs.map Prod.snd = r1) (e2 : ss.map Prod.snd = r2) : LR H p (r1 ++ r2) := ⟨rs ++ ss, by rw [h, List.map_append], fun y hy => (List.mem_append.mp hy).elim (h1 y) (h2 y), by rw [List.map_append, e1, e2]⟩
theorem LR.row {rs : List Row} {t : Addr} {r : List Int} (h1 : RA H rs) (ht : H t = some (.tup (r.map V.int))) (h : H p = some (.lst (rs.map refR ++ [.ref t]))) : LR H p (rs.map Prod.snd ++ [r]) := LR.app (ss := [(t, r)]) h h1 (fun y hy => by rw [List.mem_singleton.mp hy]; exact ht) rfl rfl
theorem strs_ok {nms : List Str} (h : NmsOk nms) : StrsOk nms := fun z hz => (h.1 z hz).sok
end
end MV

namespace MV
open PySem PySem.Spec PyProof.Rows L2 SB MM LamX
local macro_rules | `(tactic| walk_at "rd") => `(tactic| repeat (first | (refine ⟨_, rfl, ?_⟩) | (refine ⟨_, _, rfl, rfl, ?_⟩) | (refine ⟨_, _, rfl, ?_⟩) | (refine ⟨rfl, ?_⟩) | (with_reducible refine st_nil ?_) | (with_reducible refine st_cons ?_) | (with_reducible refine st_C ?_)))
local macro_rules | `(tactic| walk_at "isL") => `(tactic| first | assumption | (apply isL.of; assumption) | (apply isL.bag; assumption) | (apply isL.lr; assumption) | (apply KQ.isL; assumption) | (apply isL.ev; assumption; walk_at "isL"))
local macro_rules | `(tactic| walk_at "isI") => `(tactic| first | assumption | (apply isI.of; assumption) | (apply KQ.isI; assumption) | (apply MoveAt.isI; assumption) | (apply isI.ev; assumption; walk_at "isI"))
local macro_rules | `(tactic| walk_at "al") => `(tactic| first | assumption | (apply isL.al; walk_at "isL") | (apply isI.al; walk_at "isI") | (apply Al.dK; assumption) | (apply Al.dT; assumption) | (apply Al.ev; assumption; walk_at "al"))
local macro_rules | `(tactic| walk_at "ne") => `(tactic| first | (apply NeH.of; assumption) | (apply NeH.ofs; assumption) | (apply neLI; walk_at "isL"; walk_at "isI") | (apply neIL; walk_at "isI"; walk_at "isL") | (apply Al.ne; assumption; walk_at "al") | (apply Al.ens; assumption; walk_at "al") | (apply NA.ne; assumption; walk_at "al") | (apply NA.ens; assumption; walk_at "al"))
local macro_rules | `(tactic| walk_at "nin") => `(tactic| first | exact trivial | (refine And.intro ?_ ?_; walk_at "ne"; walk_at "nin"))
local macro_rules | `(tactic| walk_at "t") => `(tactic| first | assumption | (apply ev_tup; assumption; walk_at "t") | (apply ev_lst; assumption; walk_at "t"; walk_at "nin") | (apply ev_ins; assumption; walk_at "t"; walk_at "nin") | (apply ev_dK; assumption; walk_at "t"; walk_at "nin") | (apply ev_dT; assumption; walk_at "t"; walk_at "nin") | (apply ev_ra; assumption; walk_at "t") | (apply ev_bag; assumption; walk_at "t"; walk_at "nin") | (apply ev_lr; assumption; walk_at "t"; walk_at "nin") | (apply ev_kq; assumption; walk_at "t"; walk_at "nin"; walk_at "nin") | (apply ev_tabs; assumption; walk_at "t") | (apply ev_fzT; assumption; walk_at "t") | (apply ev_od; assumption; walk_at "t") | (apply ev_odR; assumption; walk_at "t") | (apply ev_cels; assumption; walk_at "t") | (apply ev_move; assumption; walk_at "t"; walk_at "nin") | (apply ev_rt; assumption; walk_at "t") | (apply ev_goodR; assumption; walk_at "t") | (apply ev_rowvs; assumption; walk_at "t") | (apply ev_dm; assumption; walk_at "t")  | (apply SqL.of; walk_at "t") | (apply SqT.of; walk_at "t") | (apply ev_sqT; assumption; walk_at "t") | (apply ev_sqL; assumption; walk_at "t"; walk_at "nin"))
local macro_rules | `(tactic| walk_at "le") => `(tactic| first | exact Le.refl _ | (apply Le.ev; assumption; walk_at "le"))
local macro_rules | `(tactic| walk_at "om") => `(tactic| first | exact Or.inl (List.mem_cons_self) | exact Or.inl (List.mem_cons_of_mem _ List.mem_cons_self) | exact Or.inl (List.mem_cons_of_mem _ (List.mem_cons_of_mem _ List.mem_cons_self)) | (apply Or.inr; apply nal0; assumption) | (apply Or.inr; apply Le.nal; assumption; walk_at "le") | (apply Or.inr; apply Le.na; assumption; walk_at "le"))
local macro_rules | `(tactic| walk_at "out") => `(tactic| first | exact trivial | (refine And.intro ?_ ?_; walk_at "om"; walk_at "out"))
local macro_rules | `(tactic| walk_at "e") => `(tactic| first | assumption | exact Ev.refl _ _ | (apply Ev.trans'; assumption; walk_at "e"; walk_at "out"))
local macro_rules | `(tactic| walk_at "c") => `(tactic| dsimp only [tNil, tCons, tC])
local macro_rules | `(tactic| walk_at "na") => `(tactic| first | assumption | (apply NA.of; assumption) | (apply Le.nal; assumption; walk_at "le") | (apply Le.na; assumption; walk_at "le"))
local macro_rules | `(tactic| walk_at "rs") => `(tactic| repeat (first | (with_reducible refine st_nil ?_) | (with_reducible refine st_cons ?_) | (with_reducible refine st_C ?_)))
local macro_rules | `(tactic| walk_at "rv") => `(tactic| repeat (first | (refine ⟨_, rfl, ?_⟩) | (with_reducible refine st_nil ?_) | (with_reducible refine st_cons ?_) | (with_reducible refine st_C ?_)))
local macro_rules | `(tactic| walk_at "if") => `(tactic| first | refine ifT rfl ?_ | refine ifF rfl ?_ | skip)
/-- rows are checked: the first odd one is refused -/
def spCRowsX (K : PySem.W.Frag) (TS : List (Addr × Str)) (CBR : Addr) : Sp := fun vs H Q E => ∃ (r : Addr) (wd : Nat) (ws : List V), vs = [.ref r, .int (wd : Int)] ∧ SqS K H r ws ∧ RowVs H wd ws ∧ wd ≤ 10 ∧
  ((∀ x ∈ ws, GoodR H wd x) → ∀ H', Ev TS [] H H' → Q .non H') ∧ (∀ (j : Nat) (x : V), ws[j]? = some x → OdR H wd x → (∀ (i : Nat) (y : V), i < j → ws[i]? = some y → GoodR H wd y) → ∀ H1, Ev TS [] H H1 → Rz TS H1 E CBR [("at", .int (j : Int))])
section
variable {P : Program} {w : World} {K : PySem.W.Frag} {mg : Str → Option Value} {base : Heap} {KPT CBR : Addr} {TS : List (Addr × Str)}
theorem ok_crowsX {f : Addr} {fd : FuncData} (F : Fun K "check_rows" "check_rows" s_crows f fd) (T : TxtW K mg KPT) (XBadRow : Xc P w K mg base 1 "BadRow" CBR ["at"]) (Disrow : Cl P w K mg base CX0 3 "is_row" (spIsRow K)) : FnR P w K mg base (L2.CX P w) 4 f (spCRowsX K TS CBR) := by
  refine fnrX F sc_crows (fun vs H Q E h => ?_) (fun _ _ _ _ _ _ us hl => match us, hl with | [_, _], _ => rfl) (fun cdv A outer s H vs Q E hr h => ?_)
  · obtain ⟨r, wd, ws, rfl, _⟩ := h
    rfl
  · obtain ⟨r, wd, ws, rfl, hs, hrv, hw, k1, k2⟩ := h
    refine ⟨_, (pss_one (ps_for (passes_of rfl) rfl (pi_enumS (by rfl) T.n_enumerate (pa_cons (pv 0) pa_nil)) (pg_tup rfl (pgs_cons (pg_name (i := 2) sc_crows.nd rfl (Or.inl rfl)) (pgs_cons (pg_name (i := 3) sc_crows.nd rfl (Or.inl rfl)) pgs_nil)))
        (pss_one (ps_if (pt_not (pt_val (pe_cl Disrow hr (by decide) (by rfl) pass0 (pa_cons (pv 3) (pa_cons (pv 1) pa_nil))))) (pss_one (ps_raise rfl (takes_of rfl rfl rfl rfl) (pmk_x XBadRow hr (by decide) (by rfl) (pa_cons (pv 2) pa_nil)))) pss_nil)))), ?_⟩
    walk_at "rd"
    refine ⟨r, ws, rfl, hs, fun J G w hG => ?_⟩
    refine for_it w (fun i σ H' => ∃ (v2 v3 : Option V), σ = [some (.ref r), some (.int (wd : Int)), v2, v3] ∧ Ev TS [] H H' ∧ ∀ m y, m < i → ws[m]? = some y → GoodR H wd y) ⟨none, none, rfl, Ev.refl _ _, fun m y hm => absurd hm (Nat.not_lt_zero _)⟩ ?_ ?_ ?_
    · rintro i σ H' _ ⟨_, _, _, e, _⟩
      exact hG H' (fun z => ev_sqL e z trivial) (fun z => ev_sqT e z)
    · rintro i x' σ H' H'' hi ⟨v2, v3, rfl, e, hgd⟩ ⟨T', x0, y0, rfl, hT, rfl, e0, ey⟩
      cases e0
      have ey' : ws[i]? = some y0 := ey
      generalize hXX : upd _ T' _ = H2
      obtain ⟨e2, h2⟩ := new_facts (TS := TS) hXX hT
      clear hXX
      walk_at "rs"
      refine ⟨T', _, rfl, SqT.of h2, rfl, ?_⟩
      refine ⟨_, _, rfl, ?_⟩
      refine ⟨_, _, rfl, rfl, ?_⟩
      walk_at "rv"
      rcases hrv y0 (List.mem_of_getElem? ey') with hg | ho
      · have hg2 : GoodR H2 wd y0 := (by walk_at "t")
        refine isrow_good (TS := TS) hg2 hw fun H3 e3 => ?_
        walk_at "rd"
        refine ⟨(by walk_at "e"), fun m y hm hy => ?_⟩
        rcases Nat.lt_succ_iff_lt_or_eq.mp hm with z | z
        · exact hgd m y z hy
        · subst z
          rw [ey'] at hy
          cases hy
          exact hg
      · have ho2 : OdR H2 wd y0 := (by walk_at "t")
        refine isrow_odd (TS := TS) ho2 fun H3 e3 => ?_
        walk_at "rd"
        exact ⟨by show 1 ≤ 1000; decide, (k2 i y0 ey' ho hgd H3 (by walk_at "e")).go⟩
    · rintro σ H1 ⟨v2, v3, rfl, e, hgd⟩
      refine k1 (fun x hx => ?_) H1 e
      obtain ⟨m, hm⟩ := List.mem_iff_getElem?.mp hx
      exact hgd m x (List.getElem?_eq_some_iff.mp hm).1 hm
end
end MV

namespace MV
open PySem PySem.Spec PyProof.Rows L2 SB MM LamX StX
local macro_rules | `(tactic| walk_at "rd") => `(tactic| repeat (first | (refine ⟨_, rfl, ?_⟩) | (refine ⟨_, _, rfl, rfl, ?_⟩) | (refine ⟨_, _, rfl, ?_⟩) | (refine ⟨rfl, ?_⟩) | (with_reducible refine st_nil ?_) | (with_reducible refine st_cons ?_) | (with_reducible refine st_C ?_)))
local macro_rules | `(tactic| walk_at "isL") => `(tactic| first | assumption | (apply isL.of; assumption) | (apply isL.bag; assumption) | (apply isL.lr; assumption) | (apply KQ.isL; assumption) | (apply isL.ev; assumption; walk_at "isL"))
local macro_rules | `(tactic| walk_at "isI") => `(tactic| first | assumption | (apply isI.of; assumption) | (apply KQ.isI; assumption) | (apply MoveAt.isI; assumption) | (apply isI.ev; assumption; walk_at "isI"))
local macro_rules | `(tactic| walk_at "al") => `(tactic| first | assumption | (apply isL.al; walk_at "isL") | (apply isI.al; walk_at "isI") | (apply Al.dK; assumption) | (apply Al.dT; assumption) | (apply Al.ev; assumption; walk_at "al"))
local macro_rules | `(tactic| walk_at "ne") => `(tactic| first | (apply NeH.of; assumption) | (apply NeH.ofs; assumption) | (apply neLI; walk_at "isL"; walk_at "isI") | (apply neIL; walk_at "isI"; walk_at "isL") | (apply Al.ne; assumption; walk_at "al") | (apply Al.ens; assumption; walk_at "al") | (apply NA.ne; assumption; walk_at "al") | (apply NA.ens; assumption; walk_at "al"))
local macro_rules | `(tactic| walk_at "nin") => `(tactic| first | exact trivial | (refine And.intro ?_ ?_; walk_at "ne"; walk_at "nin"))
local macro_rules | `(tactic| walk_at "t") => `(tactic| first | assumption | (apply ev_tup; assumption; walk_at "t") | (apply ev_lst; assumption; walk_at "t"; walk_at "nin") | (apply ev_ins; assumption; walk_at "t"; walk_at "nin") | (apply ev_dK; assumption; walk_at "t"; walk_at "nin") | (apply ev_dT; assumption; walk_at "t"; walk_at "nin") | (apply ev_ra; assumption; walk_at "t") | (apply ev_bag; assumption; walk_at "t"; walk_at "nin") | (apply ev_lr; assumption; walk_at "t"; walk_at "nin") | (apply ev_kq; assumption; walk_at "t"; walk_at "nin"; walk_at "nin") | (apply ev_tabs; assumption; walk_at "t") | (apply ev_fzT; assumption; walk_at "t") | (apply ev_od; assumption; walk_at "t") | (apply ev_odR; assumption; walk_at "t") | (apply ev_cels; assumption; walk_at "t") | (apply ev_move; assumption; walk_at "t"; walk_at "nin") | (apply ev_rt; assumption; walk_at "t") | (apply ev_goodR; assumption; walk_at "t") | (apply ev_rowvs; assumption; walk_at "t") | (apply ev_dm; assumption; walk_at "t")  | (apply SqL.of; walk_at "t") | (apply SqT.of; walk_at "t") | (apply ev_sqT; assumption; walk_at "t") | (apply ev_sqL; assumption; walk_at "t"; walk_at "nin"))
local macro_rules | `(tactic| walk_at "le") => `(tactic| first | exact Le.refl _ | (apply Le.ev; assumption; walk_at "le"))
local macro_rules | `(tactic| walk_at "om") => `(tactic| first | exact Or.inl (List.mem_cons_self) | exact Or.inl (List.mem_cons_of_mem _ List.mem_cons_self) | exact Or.inl (List.mem_cons_of_mem _ (List.mem_cons_of_mem _ List.mem_cons_self)) | (apply Or.inr; apply nal0; assumption) | (apply Or.inr; apply Le.nal; assumption; walk_at "le") | (apply Or.inr; apply Le.na; assumption; walk_at "le"))
local macro_rules | `(tactic| walk_at "out") => `(tactic| first | exact trivial | (refine And.intro ?_ ?_; walk_at "om"; walk_at "out"))
local macro_rules | `(tactic| walk_at "e") => `(tactic| first | assumption | exact Ev.refl _ _ | (apply Ev.trans'; assumption; walk_at "e"; walk_at "out"))
local macro_rules | `(tactic| walk_at "c") => `(tactic| dsimp only [tNil, tCons, tC])
local macro_rules | `(tactic| walk_at "na") => `(tactic| first | assumption | (apply NA.of; assumption) | (apply Le.nal; assumption; walk_at "le") | (apply Le.na; assumption; walk_at "le"))
local macro_rules | `(tactic| walk_at "rs") => `(tactic| repeat (first | (with_reducible refine st_nil ?_) | (with_reducible refine st_cons ?_) | (with_reducible refine st_C ?_)))
local macro_rules | `(tactic| walk_at "rv") => `(tactic| repeat (first | (refine ⟨_, rfl, ?_⟩) | (with_reducible refine st_nil ?_) | (with_reducible refine st_cons ?_) | (with_reducible refine st_C ?_)))
local macro_rules | `(tactic| walk_at "if") => `(tactic| first | refine ifT rfl ?_ | refine ifF rfl ?_ | skip)
abbrev s_k_moved : Stmt := inClass (top 27) 19
abbrev s_k_len : Stmt := inClass (top 27) 3
def spKLen (K : PySem.W.Frag) (CK : Addr) : Sp := fun vs H Q _ => ∃ (a qh : Addr) (nms : List Str) (rows : List (List Int)), vs = [.ref a] ∧ KQ CK H a qh nms rows ∧ Q (.int (rows.length : Int)) H
def spMoved (K : PySem.W.Frag) (TS : List (Addr × Str)) (CK C : Addr) : Sp := fun vs H Q _ => ∃ (a qh m r : Addr) (nms : List Str) (rows new : List (List Int)) (ps : List Int), vs = [.ref a, .ref m, .ref r] ∧ KQ CK H a qh nms rows ∧ MoveAt K C H m rows.length ps ∧ MoveOk rows.length ps ∧ ps.length ≤ 10000 ∧ RT H r new ∧ new.length = gapsM ps ∧
  ∀ qh' H', H qh' = none → Ev TS [a] H H' → KQ CK H' a qh' nms (applyM ps rows new) → Q (.ref m) H'
section
variable {P : Program} {w : World} {K : PySem.W.Frag} {mg : Str → Option Value} {base : Heap} {KPT CK C CBR CNP : Addr} {TS : List (Addr × Str)}
theorem sc_k_len : FnScope ["self"] ["self"] (defScope s_k_len) := ⟨rfl, rfl, rfl, by decide +kernel, rfl, by decide +kernel, by decide +kernel⟩
theorem ok_klen {f : Addr} {fd : FuncData} (F : Fun K "__len__" "Keeper.__len__" s_k_len f fd) (T : TxtKe K mg KPT CK) : FnR P w K mg base CX0 1 f (spKLen K CK) := by
  refine fnr F sc_k_len (fun vs H Q E h => ?_) (fun _ _ _ _ _ _ us hl => match us, hl with | [_], _ => rfl) (fun cdv A outer s H vs Q E hr h => ?_)
  · obtain ⟨a, qh, nms, rows, rfl, _⟩ := h
    rfl
  · obtain ⟨a, qh, nms, rows, rfl, ⟨dx, qn, rs, ha, hqn, hqh, ra, rfl⟩, k⟩ := h
    refine ⟨_, (pss_one (ps_ret (pe_callB call_len_seq (by rfl) T.n_len (by decide +kernel) (pa_cons (pe_fld (pv 0) (by rfl)) pa_nil)))), ?_⟩
    walk_at "rd"
    refine ⟨a, CK, dx, _, _, rfl, ha, T.ck, T.nh, kfs_held _ _, ?_⟩
    refine ⟨qh, _, rfl, .inl (SqL.of hqh), ?_⟩
    rw [List.length_map]
    rw [List.length_map] at k
    exact k
theorem sc_k_moved : FnScope ["self", "move", "rows"] ["self", "move", "rows"] (defScope s_k_moved) := ⟨rfl, rfl, rfl, by decide +kernel, rfl, by decide +kernel, by decide +kernel⟩
theorem ok_moved {f : Addr} {fd : FuncData} (F : Fun K "moved" "Keeper.moved" s_k_moved f fd) (T : TxtKe K mg KPT CK) (CA2 : Ca P w K mg base CX0 3 C (spCall K C)) : FnR P w K mg base CX0 4 f (spMoved K TS CK C) := by
  refine fnr F sc_k_moved (fun vs H Q E h => ?_) (fun _ _ _ _ _ _ us hl => match us, hl with | [_, _, _], _ => rfl) (fun cdv A outer s H vs Q E hr h => ?_)
  · obtain ⟨a, qh, m, r, nms, rows, new, ps, rfl, _⟩ := h
    rfl
  · obtain ⟨a, qh, m, r, nms, rows, new, ps, rfl, ⟨dx, qn, rs, ha, hqn, hqh, ra, rfl⟩, hm, ok, hpl, ⟨rn, hr1, rar, rfl⟩, hg, k⟩ := h
    rw [List.length_map] at hm ok hg
    refine ⟨_, (pss_cons (ps_fld (pv 0) (pe_caK (pv 1) CA2 hr (by decide) pass0 (pa_cons (pe_fld (pv 0) (by rfl)) (pa_cons (pv 2) pa_nil))) rfl)
      (pss_one (ps_ret (pv 1)))), ?_⟩
    walk_at "rd"
    refine ⟨a, CK, dx, _, _, rfl, ha, T.ck, T.nh, kfs_held _ _, ?_⟩
    walk_at "rd"
    refine ⟨hm.ins, ?_⟩
    refine call_ok (TS := TS) hm ok (by omega) (.inl (SqL.of hqh)) (.inr (SqT.of hr1)) (by rw [List.length_map]) (by rw [List.length_map, hg]) fun p H1 np e1 h1 => ?_
    walk_at "rd"
    have ha1 : H1 a = some (.ins CK dx (kfs qn qh)) := (by walk_at "t")
    refine ⟨a, CK, dx, _, rfl, ha1, T.ck, T.nh, (by rw [kfs_eq]; show 2 < 1000; decide), ?_⟩
    rw [kfs_put]
    generalize hXX : upd _ a _ = H2
    obtain ⟨e2, h2⟩ := setI_facts (TS := TS) hXX ha1
    clear hXX
    walk_at "rs"
    walk_at "rd"
    refine k p H2 np (by walk_at "e") ⟨dx, qn, applyM ps rs rn, h2, (by walk_at "t"), ?_, fun x hx => ?_, by rw [apply_map]⟩
    · rw [apply_map]
      exact (by walk_at "t")
    · have x1 : RA H2 rs := (by walk_at "t")
      have x2 : RA H2 rn := (by walk_at "t")
      exact (apply_mem hx).elim (x1 x) (x2 x)
end
end MV

namespace MV
open PySem PySem.Spec PyProof.Rows L2 SB MM LamX
local macro_rules | `(tactic| walk_at "rd") => `(tactic| repeat (first | (refine ⟨_, rfl, ?_⟩) | (refine ⟨_, _, rfl, rfl, ?_⟩) | (refine ⟨_, _, rfl, ?_⟩) | (refine ⟨rfl, ?_⟩) | (with_reducible refine st_nil ?_) | (with_reducible refine st_cons ?_) | (with_reducible refine st_C ?_)))
local macro_rules | `(tactic| walk_at "isL") => `(tactic| first | assumption | (apply isL.of; assumption) | (apply isL.bag; assumption) | (apply isL.lr; assumption) | (apply KQ.isL; assumption) | (apply isL.ev; assumption; walk_at "isL"))
local macro_rules | `(tactic| walk_at "isI") => `(tactic| first | assumption | (apply isI.of; assumption) | (apply KQ.isI; assumption) | (apply MoveAt.isI; assumption) | (apply isI.ev; assumption; walk_at "isI"))
local macro_rules | `(tactic| walk_at "al") => `(tactic| first | assumption | (apply isL.al; walk_at "isL") | (apply isI.al; walk_at "isI") | (apply Al.dK; assumption) | (apply Al.dT; assumption) | (apply Al.ev; assumption; walk_at "al"))
local macro_rules | `(tactic| walk_at "ne") => `(tactic| first | (apply NeH.of; assumption) | (apply NeH.ofs; assumption) | (apply neLI; walk_at "isL"; walk_at "isI") | (apply neIL; walk_at "isI"; walk_at "isL") | (apply Al.ne; assumption; walk_at "al") | (apply Al.ens; assumption; walk_at "al") | (apply NA.ne; assumption; walk_at "al") | (apply NA.ens; assumption; walk_at "al"))
local macro_rules | `(tactic| walk_at "nin") => `(tactic| first | exact trivial | (refine And.intro ?_ ?_; walk_at "ne"; walk_at "nin"))
local macro_rules | `(tactic| walk_at "t") => `(tactic| first | assumption | (apply ev_tup; assumption; walk_at "t") | (apply ev_lst; assumption; walk_at "t"; walk_at "nin") | (apply ev_ins; assumption; walk_at "t"; walk_at "nin") | (apply ev_dK; assumption; walk_at "t"; walk_at "nin") | (apply ev_dT; assumption; walk_at "t"; walk_at "nin") | (apply ev_ra; assumption; walk_at "t") | (apply ev_bag; assumption; walk_at "t"; walk_at "nin") | (apply ev_lr; assumption; walk_at "t"; walk_at "nin") | (apply ev_kq; assumption; walk_at "t"; walk_at "nin"; walk_at "nin") | (apply ev_tabs; assumption; walk_at "t") | (apply ev_fzT; assumption; walk_at "t") | (apply ev_od; assumption; walk_at "t") | (apply ev_odR; assumption; walk_at "t") | (apply ev_cels; assumption; walk_at "t") | (apply ev_move; assumption; walk_at "t"; walk_at "nin") | (apply ev_rt; assumption; walk_at "t") | (apply ev_goodR; assumption; walk_at "t") | (apply ev_rowvs; assumption; walk_at "t") | (apply ev_dm; assumption; walk_at "t")  | (apply SqL.of; walk_at "t") | (apply SqT.of; walk_at "t") | (apply ev_sqT; assumption; walk_at "t") | (apply ev_sqL; assumption; walk_at "t"; walk_at "nin"))
local macro_rules | `(tactic| walk_at "le") => `(tactic| first | exact Le.refl _ | (apply Le.ev; assumption; walk_at "le"))
local macro_rules | `(tactic| walk_at "om") => `(tactic| first | exact Or.inl (List.mem_cons_self) | exact Or.inl (List.mem_cons_of_mem _ List.mem_cons_self) | exact Or.inl (List.mem_cons_of_mem _ (List.mem_cons_of_mem _ List.mem_cons_self)) | (apply Or.inr; apply nal0; assumption) | (apply Or.inr; apply Le.nal; assumption; walk_at "le") | (apply Or.inr; apply Le.na; assumption; walk_at "le"))
local macro_rules | `(tactic| walk_at "out") => `(tactic| first | exact trivial | (refine And.intro ?_ ?_; walk_at "om"; walk_at "out"))
local macro_rules | `(tactic| walk_at "e") => `(tactic| first | assumption | exact Ev.refl _ _ | (apply Ev.trans'; assumption; walk_at "e"; walk_at "out"))
local macro_rules | `(tactic| walk_at "c") => `(tactic| dsimp only [tNil, tCons, tC])
local macro_rules | `(tactic| walk_at "na") => `(tactic| first | assumption | (apply NA.of; assumption) | (apply Le.nal; assumption; walk_at "le") | (apply Le.na; assumption; walk_at "le"))
local macro_rules | `(tactic| walk_at "rs") => `(tactic| repeat (first | (with_reducible refine st_nil ?_) | (with_reducible refine st_cons ?_) | (with_reducible refine st_C ?_)))
local macro_rules | `(tactic| walk_at "rv") => `(tactic| repeat (first | (refine ⟨_, rfl, ?_⟩) | (with_reducible refine st_nil ?_) | (with_reducible refine st_cons ?_) | (with_reducible refine st_C ?_)))
local macro_rules | `(tactic| walk_at "if") => `(tactic| first | refine ifT rfl ?_ | refine ifF rfl ?_ | skip)
abbrev s_k_columns : Stmt := inClass (top 27) 9
def spCols (TS : List (Addr × Str)) (CK : Addr) : Sp := fun vs H Q _ => ∃ (a qh : Addr) (nms : List Str) (rows : List (List Int)), vs = [.ref a] ∧ KQ CK H a qh nms rows ∧ nms.Nodup ∧ nms.length ≤ 6 ∧ WF nms.length rows ∧ rows.length ≤ 1000 ∧
  ∀ (d : Addr) (ps : List Addr) H', NA H d → (∀ p ∈ ps, NA H p) → ps.Nodup → d ∉ ps → Ev TS [] H H' → ColAt H' d ps nms rows → Q (.ref d) H'
section
variable {P : Program} {w : World} {K : PySem.W.Frag} {mg : Str → Option Value} {base : Heap} {KPT CK : Addr} {TS : List (Addr × Str)}
theorem col_step {rs : List Row} {i j : Nat} {r : Row} {y : Int} (hr : rs[i]? = some r) (hy : r.2[j]? = some y) : (colR (rs.map Prod.snd) j).take (i + 1) = (colR (rs.map Prod.snd) j).take i ++ [y] := by
  unfold colR
  rw [List.take_add_one, List.getElem?_map, List.getElem?_map, hr]
  show _ ++ [r.2.getD j 0] = _
  rw [List.getD_eq_getElem?_getD, hy]
  rfl
theorem colR_length (rows : List (List Int)) (j : Nat) : (colR rows j).length = rows.length := by
  unfold colR
  rw [List.length_map]
theorem sc_k_columns : FnScope ["self", "row", "k", "name"] ["self"] (defScope s_k_columns) := ⟨rfl, rfl, rfl, by decide +kernel, rfl, by decide +kernel, by decide +kernel⟩
theorem okf_columns {f : Addr} {fd : FuncData} (F : Fun K "columns" "Keeper.columns" s_k_columns f fd) (T : TxtKe K mg KPT CK) : FnOk P w K mg base CX0 1 f fd ["self"] (spCols TS CK) := by
  refine F.ok sc_k_columns (fun vs H Q E h => ?_) (fun cdv A outer s H vs Q E hr h => ?_)
  · obtain ⟨a, qh, nms, rows, rfl, _⟩ := h
    rfl
  · obtain ⟨a, qh, nms, rows, rfl, kq, hnd, h6, wf, h1000, k⟩ := h
    obtain ⟨dx, qn, rs, ha, hqn, hqh, ra, ers⟩ := id kq
    have lrs : rs.length = rows.length := by rw [← ers, List.length_map]
    refine ⟨_, (pss_one (ps_ret (pe_dc (own := [("k", 2), ("name", 3)]) (by rfl) sc_k_columns.nd (pi_enumS (by rfl) T.n_enumerate (pa_cons (pe_fld (pv 0) (by rfl)) pa_nil)) (blkOk_by (own := [("k", 2), ("name", 3)]) (N := ["self", "row", "k", "name"]) (sc := defScope s_k_columns) (by first | decide +kernel | kernel_rfl)) (fun _ _ _ _ _ => (pg_tupK (K := K) (n := 2) (by rfl) (by rfl) (pgs_cons (pg_name (i := 2) sc_k_columns.nd rfl (Or.inr rfl)) (pgs_cons (pg_name (i := 3) sc_k_columns.nd rfl (Or.inl rfl)) pgs_nil)))) (fun _ _ _ _ _ => pts_nil) (fun _ _ _ _ _ => by exact (pv 3)) (fun _ _ _ _ _ => by exact (pe_lc (own := [("row", 1)]) (by rfl) sc_k_columns.nd (by exact (pi_listK (K := K) (by rfl) (pe_fldK (K := K) (by rfl) (pv 0) (by rfl)))) (blkOk_by (own := [("row", 1)]) (N := ["self", "row", "k", "name"]) (sc := _) (by first | decide +kernel | kernel_rfl)) (fun _ _ _ _ _ => (pg_name (i := 1) sc_k_columns.nd rfl (Or.inl rfl))) (fun _ _ _ _ _ => by exact pts_nil) (fun _ _ _ _ _ => by exact (pe_ix (ix_tupK (K := K) (by rfl)) (pv 1) (pv 2) (fun _ _ => rfl)))))))), ?_⟩
    walk_at "rd"
    refine ⟨a, CK, dx, _, _, rfl, ha, T.ck, T.nn, kfs_names _ _, ?_⟩
    refine ⟨qn, _, rfl, .inr hqn.sq, fun J G w hG D hD => ?_⟩
    refine dc_ev (TS := TS) w hD (fun i kvs H' => Ev TS [] H H' ∧ ∃ ps : List Addr, kvs = zipK (nms.take i) ps ∧ ps.length = i ∧ (∀ j p, ps[j]? = some p → H' p = some (.lst ((colR rows j).map V.int))) ∧ (∀ p ∈ ps, NA H p) ∧ ps.Nodup ∧ D ∉ ps)
      (fun H2 e2 h2 => ⟨e2, [], rfl, rfl, (fun j p hp => by simp at hp), (fun _ z => nomatch z), List.nodup_nil, (fun z => nomatch z)⟩) (fun i kvs H' _ ⟨e, _⟩ _ => hG H' (fun z => ev_sqL e z trivial) (fun z => ev_sqT e z)) ?_ ?_
    · rintro i x kvs H1 H2' hi ⟨eI, ps, rfl, hpl, hcol, hna, hnp, hDn⟩ hD1 ⟨T', x0, y0, rfl, hT, rfl, e0, ey⟩
      cases e0
      have hi' : i < nms.length := by simpa using hi
      have epi : nms[i]? = some nms[i] := List.getElem?_eq_getElem hi'
      have ey' : y0 = .str nms[i] := by
        have q : (nms.map V.str)[i]? = some y0 := ey
        rw [List.getElem?_map, epi] at q
        exact (Option.some.inj q).symm
      subst ey'
      generalize hXX : upd _ T' _ = H2
      obtain ⟨e2, h2⟩ := new_facts (TS := TS) hXX hT
      clear hXX
      walk_at "rs"
      refine ⟨T', _, rfl, SqT.of h2, rfl, ?_⟩
      walk_at "rd"
      refine ⟨a, CK, dx, _, _, rfl, (by walk_at "t"), T.ck, T.nh, kfs_held qn qh, ?_⟩
      walk_at "rd"
      refine ⟨⟨rs.map refR, SqL.of (by walk_at "t")⟩, fun D2 hD2 => ?_⟩
      refine lc_ev (TS := TS) (walk_list (xs := rs.map refR)) hD2 (fun m acc H' => Ev TS [] H2 H' ∧ acc = ((colR rows i).take m).map V.int) (fun H3 e3 h3 => ⟨e3, rfl⟩) (fun m acc H3 _ ⟨e3, _⟩ _ => SqL.of (by walk_at "t")) ?_ ?_
      · rintro m y acc H3 H4 hm ⟨e3, rfl⟩ hD3 ⟨rfl, hy⟩
        rw [List.length_map] at hm
        rw [List.getElem?_map] at hy
        obtain ⟨r, hr, rfl⟩ := Option.map_eq_some_iff.mp hy
        have hmem := List.mem_of_getElem? hr
        have ra3 : RA H4 rs := (by walk_at "t")
        have hlen : r.2.length = nms.length := (wf r.2 (by rw [← ers]; exact List.mem_map.mpr ⟨r, hmem, rfl⟩)).1
        obtain ⟨y, hyy⟩ := get_lt (xs := r.2) (i := i) (by omega)
        walk_at "rd"
        refine ⟨r.1, _, (i : Int), .int y, rfl, rfl, SqT.of (ra3 r hmem), atI_nat (by rw [List.getElem?_map, hyy]; rfl), ?_⟩
        refine lc_put (TS := TS) hD3 (by rw [List.length_map, List.length_take, colR_length]; exact lt_line (by omega)) fun H5 e5 h5 => ⟨(by walk_at "e"), ?_⟩
        rw [← ers, col_step hr hyy, List.map_append, ers]
        rfl
      · rintro acc H3 ⟨e3, rfl⟩ hD3
        have hl : (rs.map refR).length = (colR rows i).length := by rw [List.length_map, colR_length, lrs]
        rw [hl, List.take_length] at hD3
        have hD1' : H3 D = some (.dK (zipK (nms.take i) ps)) := (by walk_at "t")
        have ltk : (nms.take i).length = ps.length := by rw [List.length_take, hpl]; omega
        have nD2 : NA H D2 := (by walk_at "na")
        have hd2ps : D2 ∉ ps := fun hm => by
          obtain ⟨j, hj⟩ := List.mem_iff_getElem?.mp hm
          have := hcol j D2 hj
          have : H2 D2 = some (.lst ((colR rows j).map V.int)) := (by walk_at "t")
          rw [hD2] at this
          cases this
        have hDD : D ≠ D2 := (show NeH H3 D D2 from (by walk_at "ne"))
        refine dc_put (TS := TS) hD1' (by rw [zipK_length ltk, List.length_take]; exact lt_line (by omega)) fun H5 e5 h5 => ⟨(by walk_at "e"), ps ++ [D2], ?_, by rw [List.length_append, hpl]; rfl, fun j p hj => ?_, fun p hp => ?_, ?_, fun hm => ?_⟩
        · have tk : nms.take (i + 1) = nms.take i ++ [nms[i]] := by rw [List.take_append_getElem hi']
          rw [putK_new _ (zipK_none fun hm => ?_), tk, zipK_snoc ltk]
          obtain ⟨j, hj⟩ := List.mem_iff_getElem?.mp hm
          have hl := (List.getElem?_eq_some_iff.mp hj).1
          rw [List.length_take] at hl
          rw [List.getElem?_take, if_pos (by omega)] at hj
          have := nd_ix hnd hj epi
          omega
        · by_cases c : j < ps.length
          · rw [List.getElem?_append_left c] at hj
            have hcj := hcol j p hj
            have npD : p ≠ D := fun z => hDn (by rw [← z]; exact List.mem_of_getElem? hj)
            exact (by walk_at "t")
          · have : j = ps.length := by
              have := (List.getElem?_eq_some_iff.mp hj).1
              rw [List.length_append] at this
              have : j < ps.length + 1 := this
              omega
            subst this
            rw [List.getElem?_append_right (Nat.le_refl _), Nat.sub_self] at hj
            cases hj
            rw [hpl]
            exact (by walk_at "t")
        · rcases List.mem_append.mp hp with z | z
          · exact hna p z
          · rw [List.mem_singleton.mp z]; exact nD2
        · rw [List.nodup_append]
          exact ⟨hnp, by simp, fun y hy u hu e => hd2ps (by rw [← List.mem_singleton.mp hu, ← e]; exact hy)⟩
        · rcases List.mem_append.mp hm with z | z
          · exact hDn z
          · exact hDD (List.mem_singleton.mp z)
    · rintro kvs H' ⟨eI, ps, rfl, hpl, hcol, hna, hnp, hDn⟩ hD'
      have hl : (nms.map V.str).length = nms.length := List.length_map _
      rw [hl, List.take_length] at hD'
      rw [hl] at hpl
      exact k D ps H' (NA.of hD) hna hnp hDn eI ⟨hD', hpl, hcol⟩
end
end MV

namespace MV
open PySem PySem.Spec PyProof.Rows L2 SB MM LamX
local macro_rules | `(tactic| walk_at "rd") => `(tactic| repeat (first | (refine ⟨_, rfl, ?_⟩) | (refine ⟨_, _, rfl, rfl, ?_⟩) | (refine ⟨_, _, rfl, ?_⟩) | (refine ⟨rfl, ?_⟩) | (with_reducible refine st_nil ?_) | (with_reducible refine st_cons ?_) | (with_reducible refine st_C ?_)))
local macro_rules | `(tactic| walk_at "isL") => `(tactic| first | assumption | (apply isL.of; assumption) | (apply isL.bag; assumption) | (apply isL.lr; assumption) | (apply KQ.isL; assumption) | (apply isL.ev; assumption; walk_at "isL"))
local macro_rules | `(tactic| walk_at "isI") => `(tactic| first | assumption | (apply isI.of; assumption) | (apply KQ.isI; assumption) | (apply MoveAt.isI; assumption) | (apply isI.ev; assumption; walk_at "isI"))
local macro_rules | `(tactic| walk_at "al") => `(tactic| first | assumption | (apply isL.al; walk_at "isL") | (apply isI.al; walk_at "isI") | (apply Al.dK; assumption) | (apply Al.dT; assumption) | (apply Al.ev; assumption; walk_at "al"))
local macro_rules | `(tactic| walk_at "ne") => `(tactic| first | (apply NeH.of; assumption) | (apply NeH.ofs; assumption) | (apply neLI; walk_at "isL"; walk_at "isI") | (apply neIL; walk_at "isI"; walk_at "isL") | (apply Al.ne; assumption; walk_at "al") | (apply Al.ens; assumption; walk_at "al") | (apply NA.ne; assumption; walk_at "al") | (apply NA.ens; assumption; walk_at "al"))
local macro_rules | `(tactic| walk_at "nin") => `(tactic| first | exact trivial | (refine And.intro ?_ ?_; walk_at "ne"; walk_at "nin"))
local macro_rules | `(tactic| walk_at "t") => `(tactic| first | assumption | (apply ev_tup; assumption; walk_at "t") | (apply ev_lst; assumption; walk_at "t"; walk_at "nin") | (apply ev_ins; assumption; walk_at "t"; walk_at "nin") | (apply ev_dK; assumption; walk_at "t"; walk_at "nin") | (apply ev_dT; assumption; walk_at "t"; walk_at "nin") | (apply ev_ra; assumption; walk_at "t") | (apply ev_bag; assumption; walk_at "t"; walk_at "nin") | (apply ev_lr; assumption; walk_at "t"; walk_at "nin") | (apply ev_kq; assumption; walk_at "t"; walk_at "nin"; walk_at "nin") | (apply ev_tabs; assumption; walk_at "t") | (apply ev_fzT; assumption; walk_at "t") | (apply ev_od; assumption; walk_at "t") | (apply ev_odR; assumption; walk_at "t") | (apply ev_cels; assumption; walk_at "t") | (apply ev_move; assumption; walk_at "t"; walk_at "nin") | (apply ev_rt; assumption; walk_at "t") | (apply ev_goodR; assumption; walk_at "t") | (apply ev_rowvs; assumption; walk_at "t") | (apply ev_dm; assumption; walk_at "t")  | (apply SqL.of; walk_at "t") | (apply SqT.of; walk_at "t") | (apply ev_sqT; assumption; walk_at "t") | (apply ev_sqL; assumption; walk_at "t"; walk_at "nin"))
local macro_rules | `(tactic| walk_at "le") => `(tactic| first | exact Le.refl _ | (apply Le.ev; assumption; walk_at "le"))
local macro_rules | `(tactic| walk_at "om") => `(tactic| first | exact Or.inl (List.mem_cons_self) | exact Or.inl (List.mem_cons_of_mem _ List.mem_cons_self) | exact Or.inl (List.mem_cons_of_mem _ (List.mem_cons_of_mem _ List.mem_cons_self)) | (apply Or.inr; apply nal0; assumption) | (apply Or.inr; apply Le.nal; assumption; walk_at "le") | (apply Or.inr; apply Le.na; assumption; walk_at "le"))
local macro_rules | `(tactic| walk_at "out") => `(tactic| first | exact trivial | (refine And.intro ?_ ?_; walk_at "om"; walk_at "out"))
local macro_rules | `(tactic| walk_at "e") => `(tactic| first | assumption | exact Ev.refl _ _ | (apply Ev.trans'; assumption; walk_at "e"; walk_at "out"))
local macro_rules | `(tactic| walk_at "c") => `(tactic| dsimp only [tNil, tCons, tC])
local macro_rules | `(tactic| walk_at "na") => `(tactic| first | assumption | (apply NA.of; assumption) | (apply Le.nal; assumption; walk_at "le") | (apply Le.na; assumption; walk_at "le"))
local macro_rules | `(tactic| walk_at "rs") => `(tactic| repeat (first | (with_reducible refine st_nil ?_) | (with_reducible refine st_cons ?_) | (with_reducible refine st_C ?_)))
local macro_rules | `(tactic| walk_at "rv") => `(tactic| repeat (first | (refine ⟨_, rfl, ?_⟩) | (with_reducible refine st_nil ?_) | (with_reducible refine st_cons ?_) | (with_reducible refine st_C ?_)))
local macro_rules | `(tactic| walk_at "if") => `(tactic| first | refine ifT rfl ?_ | refine ifF rfl ?_ | skip)
/-! what is no name, no names, no table: the refusals of Keeper's making -/
section
variable {P : Program} {w : World} {K : PySem.W.Frag} {mg : Str → Option Value} {base : Heap} {k : Nat} {f : Addr} {sp sp' : Sp} {CX : CXT}
theorem fnr_or (h1 : FnR P w K mg base CX k f sp) (h2 : FnR P w K mg base CX k f sp') : FnR P w K mg base CX k f (fun vs H Q E => sp vs H Q E ∨ sp' vs H Q E) := fun A outer s H us vs Q E hr e0 r h => h.elim (h1 A outer s H us vs Q E hr e0 r) (h2 A outer s H us vs Q E hr e0 r)
theorem fnr_up (h : FnR P w K mg base CX0 k f sp) : FnR P w K mg base CX k f sp := fun A outer s H us vs Q E hr e0 r hs => codeAny_mono (h A outer s H us vs Q E hr e0 r hs) fun r s' q => by
  cases r with
  | error e => exact q.elim
  | ok fl => cases fl <;> exact q
end
/-- no list and no tuple -/
def NoSq (v : V) : Prop := v = .non ∨ (∃ c, v = .bl c) ∨ (∃ i, v = .int i) ∨ ∃ z, v = .str z
/-- a value that may stand for a name -/
def Nv (H : Hp) (v : V) : Prop := v = .non ∨ (∃ c, v = .bl c) ∨ (∃ i, v = .int i) ∨ (∃ z, v = .str z ∧ z.length ≤ 1000) ∨ ∃ p, v = .ref p ∧ (isL H p ∨ isT H p)
theorem ev_nv {TS : List (Addr × Str)} {L : List Addr} {H H' : Hp} {v : V} (e : Ev TS L H H') (h : Nv H v) : Nv H' v := by
  rcases h with h | h | h | h | ⟨p, h, h2⟩
  · exact .inl h
  · exact .inr (.inl h)
  · exact .inr (.inr (.inl h))
  · exact .inr (.inr (.inr (.inl h)))
  · exact .inr (.inr (.inr (.inr ⟨p, h, h2.imp (fun z => z.ev e) (fun z => z.ev e)⟩)))
def wordV : V → Bool
  | .str z => wordB z
  | _ => false
/-- the j-th is no word, or stood ahead -/
def BadAt (ws : List V) (j : Nat) : Prop := ∃ x, ws[j]? = some x ∧ (wordV x = false ∨ x ∈ ws.take j)
/-- no names: where -/
def BadNm (H : Hp) (v : V) (at_ : Int) : Prop := (NoSq v ∧ at_ = -1) ∨ ∃ a ws, v = .ref a ∧ (H a = some (.lst ws) ∨ H a = some (.tup ws)) ∧ (∀ x ∈ ws, Nv H x) ∧ ws.length ≤ 1000 ∧ ((¬ (1 ≤ ws.length ∧ ws.length ≤ 6) ∧ at_ = -1) ∨ (1 ≤ ws.length ∧ ws.length ≤ 6 ∧ ∃ j : Nat, at_ = (j : Int) ∧ BadAt ws j ∧ ∀ i, i < j → ¬ BadAt ws i))
theorem ev_badnm {TS : List (Addr × Str)} {H H' : Hp} {v : V} {at_ : Int} (e : Ev TS [] H H') (h : BadNm H v at_) : BadNm H' v at_ := by
  rcases h with h | ⟨a, ws, h1, h2, h3, h4⟩
  · exact .inl h
  · exact .inr ⟨a, ws, h1, h2.imp (fun z => ev_lst e z trivial) (fun z => ev_tup e z), fun x hx => ev_nv e (h3 x hx), h4⟩
/-- no table: where -/
def BadTb (H : Hp) (wd : Nat) (v : V) (at_ : Int) : Prop := (NoSq v ∧ at_ = -1) ∨ ∃ a ws, v = .ref a ∧ (H a = some (.lst ws) ∨ H a = some (.tup ws)) ∧ RowVs H wd ws ∧ ∃ (j : Nat) (x : V), at_ = (j : Int) ∧ ws[j]? = some x ∧ OdR H wd x ∧ ∀ (i : Nat) (y : V), i < j → ws[i]? = some y → GoodR H wd y
theorem ev_badtb {TS : List (Addr × Str)} {H H' : Hp} {v : V} {wd : Nat} {at_ : Int} (e : Ev TS [] H H') (h : BadTb H wd v at_) : BadTb H' wd v at_ := by
  rcases h with h | ⟨a, ws, h1, h2, h3, j, x, h4, h5, h6, h7⟩
  · exact .inl h
  · exact .inr ⟨a, ws, h1, h2.imp (fun z => ev_lst e z trivial) (fun z => ev_tup e z), ev_rowvs e h3, j, x, h4, h5, ev_odR e h6, fun i y hi hy => ev_goodR e (h7 i y hi hy)⟩
def spIsWordN : Sp := fun vs H Q _ => ∃ v, vs = [v] ∧ Nv H v ∧ (∀ z, v ≠ .str z) ∧ Q (.bl false) H
def spIsWordA : Sp := fun vs H Q E => spIsWord vs H Q E ∨ spIsWordN vs H Q E
theorem isword_any {TS : List (Addr × Str)} {H : Hp} {v : V} {Q : VK} {E : XK} (h : Nv H v) (k : ∀ H', Ev TS [] H H' → Q (.bl (wordV v)) H') : spIsWordA [v] H Q E := by
  rcases h with rfl | ⟨c, rfl⟩ | ⟨i, rfl⟩ | ⟨z, rfl, hz⟩ | ⟨p, rfl, h2⟩
  · exact .inr ⟨_, rfl, .inl rfl, (fun z e => by cases e), k H (Ev.refl _ _)⟩
  · exact .inr ⟨_, rfl, .inr (.inl ⟨c, rfl⟩), (fun z e => by cases e), k H (Ev.refl _ _)⟩
  · exact .inr ⟨_, rfl, .inr (.inr (.inl ⟨i, rfl⟩)), (fun z e => by cases e), k H (Ev.refl _ _)⟩
  · exact .inl ⟨z, rfl, hz, fun H' s => k H' (Ev.same s)⟩
  · exact .inr ⟨_, rfl, .inr (.inr (.inr (.inr ⟨p, rfl, h2⟩))), (fun z e => by cases e), k H (Ev.refl _ _)⟩
def spCNamesX (TS : List (Addr × Str)) (CBN : Addr) : Sp := fun vs H Q E => ∃ (v : V) (at_ : Int), vs = [v] ∧ BadNm H v at_ ∧ Rz TS H E CBN [("at", .int at_)]
def spCTableX (TS : List (Addr × Str)) (CBR : Addr) : Sp := fun vs H Q E => ∃ (v : V) (wd : Nat) (at_ : Int), vs = [v, .int (wd : Int)] ∧ wd ≤ 10 ∧ BadTb H wd v at_ ∧ Rz TS H E CBR [("at", .int at_)]
theorem kit_no {K : PySem.W.Frag} {n : String} (h : n ∈ ["NoneType", "bool", "int", "str"]) : PySem.W.kitAny K (.type n) [.type "list", .type "tuple"] = some false := by
  simp only [List.mem_cons, List.not_mem_nil, or_false] at h
  rcases h with rfl | rfl | rfl | rfl
  all_goals exact kitAny_cons (kit_ty (r := false) (by decide +kernel)) (fun _ => kitAny_cons (kit_ty (r := false) (by decide +kernel)) (fun _ => rfl) (fun z => nomatch z)) (fun z => nomatch z)
theorem NoSq.ty {K : PySem.W.Frag} {H : Hp} {v : V} (h : NoSq v) : ∃ n, n ∈ ["NoneType", "bool", "int", "str"] ∧ TyX K H v (.type n) := by
  rcases h with rfl | ⟨c, rfl⟩ | ⟨i, rfl⟩ | ⟨z, rfl⟩
  · exact ⟨"NoneType", by simp, .base .non⟩
  · exact ⟨"bool", by simp, .base (.bl c)⟩
  · exact ⟨"int", by simp, .base (.int i)⟩
  · exact ⟨"str", by simp, .base (.str z)⟩
section
variable {P : Program} {w : World} {K : PySem.W.Frag} {mg : Str → Option Value} {base : Heap} {KPT CK CBN CBR : Addr} {TS : List (Addr × Str)}
theorem ok_iswordN {f : Addr} {fd : FuncData} (F : Fun K "is_word" "is_word" s_isword f fd) (T : TxtW K mg KPT) : FnR P w K mg base CX0 1 f spIsWordN := by
  refine fnr F sc_isword (fun vs H Q E h => ?_) (fun _ _ _ _ _ _ us hl => match us, hl with | [_], _ => rfl) (fun cdv A outer s H vs Q E hr h => ?_)
  · obtain ⟨v, rfl, _⟩ := h
    rfl
  · obtain ⟨v, rfl, hv, hns, k⟩ := h
    have ty : ∃ n, n ∈ ["bool", "NoneType", "int", "list", "tuple"] ∧ TyX K H v (.type n) := by
      rcases hv with rfl | ⟨c, rfl⟩ | ⟨i, rfl⟩ | ⟨z, rfl, hz⟩ | ⟨p, rfl, ⟨xs, h2⟩ | ⟨xs, h2⟩⟩
      · exact ⟨"NoneType", by simp, .base .non⟩
      · exact ⟨"bool", by simp, .base (.bl c)⟩
      · exact ⟨"int", by simp, .base (.int i)⟩
      · exact absurd rfl (hns z)
      · exact ⟨"list", by simp, tyL (SqL.of h2)⟩
      · exact ⟨"tuple", by simp, tyT (SqT.of h2)⟩
    obtain ⟨n, hn, ty⟩ := ty
    refine ⟨_, (pss_cons (ps_if (PW.pt (pw_or (pt_not (pt_val (pe_callB call_isi (by rfl) T.n_isinstance (by decide +kernel) (pa_cons (pv 0) (pa_cons (pe_bltn (v := .ty "str") (by rfl) T.n_str (by decide +kernel) rfl) pa_nil))))) (pw_or (pt_not (pt_chain op_le op_le pe_int (pe_callB call_len_str (by rfl) T.n_len (by decide +kernel) (pa_cons (pv 0) pa_nil)) pe_int)) (pw_or1 (pt_cmpR op_in_seq (pv 0) (C8.pe_gc (v := .ref KPT) (by rfl) T.g_kept) rfl))))) (pss_one (ps_ret pe_bl)) pss_nil)
      (pss_one (ps_ret (pe_callB (cr_all rfl) (by rfl) T.n_all (by decide +kernel) (pa_cons (pe_lc (own := [("letter", 1)]) (by rfl) sc_isword.nd (pi_str (pv 0)) (blkOk_by (own := [("letter", 1)]) (N := ["value", "letter"]) (sc := defScope s_isword) (by first | decide +kernel | kernel_rfl)) (fun _ _ _ _ _ => (pg_name (i := 1) sc_isword.nd rfl (Or.inl rfl))) (fun _ _ _ _ _ => by exact pts_nil) (fun _ _ _ _ _ => by exact (pe_cmpR op_in_sign (pv 1) (C8.pe_gc (v := .str LET) (by rfl) T.g_letters) (by rfl)))) pa_nil))))), ?_⟩
    walk_at "rd"
    have kt : PySem.W.kitOne K (.type n) (.type "str") = some false := by
      simp only [List.mem_cons, List.not_mem_nil, or_false] at hn
      rcases hn with rfl | rfl | rfl | rfl | rfl
      all_goals exact kit_ty (by decide +kernel)
    refine ⟨_, _, _, _, _, rfl, .ty _, ty, kt, ?_⟩
    walk_at "rd"
    exact k
theorem ok_cnamesX {f : Addr} {fd : FuncData} (F : Fun K "check_names" "check_names" s_cnames f fd) (T : TxtW K mg KPT) (XBadNames : Xc P w K mg base 1 "BadNames" CBN ["at"]) (Disword : Cl P w K mg base CX0 1 "is_word" spIsWordA) : FnR P w K mg base (L2.CX P w) 3 f (spCNamesX TS CBN) := by
  refine fnrX F sc_cnames (fun vs H Q E h => ?_) (fun _ _ _ _ _ _ us hl => match us, hl with | [_], _ => rfl) (fun cdv A outer s H vs Q E hr h => ?_)
  · obtain ⟨v, at_, rfl, _⟩ := h
    rfl
  · obtain ⟨v, at_, rfl, hbad, k⟩ := h
    refine ⟨_, (pss_cons (ps_if (PW.pt (pw_or (pt_not (pt_val (pe_callB call_isiT (by rfl) T.n_isinstance (by decide +kernel) (pa_cons (pv 0) (pa_cons (pe_tup (pa_cons (pe_bltn (v := .ty "list") (by rfl) T.n_list (by decide +kernel) rfl) (pa_cons (pe_bltn (v := .ty "tuple") (by rfl) T.n_tuple (by decide +kernel) rfl) pa_nil))) pa_nil))))) (pw_or1 (pt_not (pt_chain op_le op_le pe_int (pe_callB call_len_seq (by rfl) T.n_len (by decide +kernel) (pa_cons (pv 0) pa_nil)) (C8.pe_gc (v := .int 6) (by rfl) T.g_mostn)))))) (pss_one (ps_raise rfl (takes_of rfl rfl rfl rfl) (pmk_x XBadNames hr (by decide) (by rfl) (pa_cons (pe_un un_neg pe_int) pa_nil)))) pss_nil)
      (pss_cons (ps_set (i := 1) sc_cnames.nd rfl (Or.inl rfl) pe_dnewK)
      (pss_one (ps_for (passes_of rfl) rfl (pi_enumS (by rfl) T.n_enumerate (pa_cons (pv 0) pa_nil)) (pg_tup rfl (pgs_cons (pg_name (i := 2) sc_cnames.nd rfl (Or.inl rfl)) (pgs_cons (pg_name (i := 3) sc_cnames.nd rfl (Or.inl rfl)) pgs_nil)))
        (pss_cons (ps_if (PW.pt (pw_or (pt_not (pt_val (pe_cl Disword hr (by decide) (by rfl) pass0 (pa_cons (pv 3) pa_nil)))) (pw_or1 (pt_cmp (pc_din (hu_of hr) (pv 3) (pv 1)))))) (pss_one (ps_raise rfl (takes_of rfl rfl rfl rfl) (pmk_x XBadNames hr (by decide) (by rfl) (pa_cons (pv 2) pa_nil)))) pss_nil)
        (pss_one (ps_dput (hu_of hr) (pv 1) (pv 3) pe_bl rfl))))))), ?_⟩
    walk_at "rd"
    refine ⟨(by show 2 ≤ sizeLine; decide), fun TT hTT => ?_⟩
    generalize hXX : upd _ TT _ = H1
    obtain ⟨e1, h1⟩ := new_facts (TS := TS) hXX hTT
    clear hXX
    walk_at "rs"
    rcases hbad with ⟨hns, rfl⟩ | ⟨a, ws, rfl, hws, hnv, hz, hcase⟩
    · obtain ⟨n, hn, ty⟩ := hns.ty (K := K) (H := H1)
      refine ⟨_, TT, _, _, [.type "list", .type "tuple"], _, rfl, h1, .cons (.ty _) (.cons (.ty _) .nil), ty, kit_no hn, ?_⟩
      walk_at "rd"
      exact ⟨by show 1 ≤ 1000; decide, (k.ev e1).go⟩
    have hs1 : SqS K H1 a ws := hws.imp (fun z => SqL.of (ev_lst e1 z trivial)) (fun z => SqT.of (ev_tup e1 z))
    obtain ⟨nn, hnn, ty⟩ := tyS hs1
    refine ⟨_, TT, _, _, [.type "list", .type "tuple"], _, rfl, h1, .cons (.ty _) (.cons (.ty _) .nil), ty, kit_lt hnn, ?_⟩
    walk_at "rd"
    refine ⟨a, _, rfl, hs1, ?_⟩
    walk_at "rd"
    have fin : (¬ (1 ≤ ws.length ∧ ws.length ≤ 6)) → (1 : Nat) ≤ 1000 ∧ ∀ d, H1 d = none → E (.ref CBN) (some d) (upd H1 d (.xd [("at", .int (-1))])) := fun hn => by
      rcases hcase with ⟨_, rfl⟩ | ⟨h1', h2', _⟩
      · exact ⟨by decide, (k.ev e1).go⟩
      · exact absurd ⟨h1', h2'⟩ hn
    refine ite2 (fun c => ?_) (fun c => ?_)
    · have c1 : 1 ≤ (ws.length : Int) := of_decide_eq_true c
      walk_at "rd"
      refine ite2 (fun c2 => ?_) (fun c2 => ?_)
      · have c3 : ¬ ((ws.length : Int) ≤ 6) := by simpa using c2
        walk_at "rd"
        exact fin (by omega)
      · have c3 : (ws.length : Int) ≤ 6 := by simpa using c2
        rcases hcase with ⟨hn, _⟩ | ⟨_, _, j, rfl, hbj, hlt⟩
        · exact absurd ⟨by omega, by omega⟩ hn
        walk_at "rd"
        intro d hd
        generalize hXX : upd _ d _ = H2
        obtain ⟨e2, h2⟩ := new_facts (TS := TS) hXX hd
        clear hXX
        walk_at "rs"
        walk_at "rd"
        have hs2 : SqS K H2 a ws := hs1.imp (fun z => ev_sqL e2 z trivial) (fun z => ev_sqT e2 z)
        refine ⟨a, _, rfl, hs2, fun J G w hG => ?_⟩
        have bad : ∀ (i : Nat) (H' : Hp), BadAt ws i → (∀ m, m < i → ¬ BadAt ws m) → Ev TS [] H H' → (1 : Nat) ≤ 1000 ∧ ∀ d, H' d = none → E (.ref CBN) (some d) (upd H' d (.xd [("at", .int (i : Int))])) := fun i H' hb hm e => by
          have ej : j = i := by
            rcases Nat.lt_trichotomy j i with z | z | z
            · exact absurd hbj (hm j z)
            · exact z
            · exact absurd hb (hlt i z)
          subst ej
          exact ⟨by decide, (k.ev e).go⟩
        have nad : a ≠ d := by
          rcases hws with q | q
          · exact ne_of_none (ev_lst e1 q trivial) hd
          · exact ne_of_none (ev_tup e1 q) hd
        refine for_it w (fun i σ H' => ∃ (v2 v3 : Option V) (kvs : List (Key × V)), σ = [some (.ref a), some (.ref d), v2, v3] ∧ Ev TS [d] H2 H' ∧ H' d = some (.dK kvs) ∧ kvs.length ≤ i ∧ (∀ z : Str, (valV kvs (Sum.inr z)).isSome = decide (V.str z ∈ ws.take i)) ∧ ∀ m, m < i → ¬ BadAt ws m)
          ⟨none, none, [], rfl, Ev.refl _ _, h2, Nat.le_refl _, fun z => by simp [valV_nil], fun m hm => absurd hm (Nat.not_lt_zero _)⟩ (fun i σ H' _ ⟨_, _, _, _, e, _⟩ => hG H' (fun z => ev_sqL e z ⟨nad, trivial⟩) (fun z => ev_sqT e z)) ?_ ?_
        · rintro i x' σ H3 H4' hi ⟨v2, v3, kvs, rfl, e3, hd3, hkl, hval, hno⟩ ⟨T', x0, y0, rfl, hT, rfl, e0, ey⟩
          cases e0
          have ey' : ws[i]? = some y0 := ey
          have tk : ws.take (i + 1) = ws.take i ++ [y0] := by rw [List.take_add_one, ey']; rfl
          generalize hXX : upd _ T' _ = H4
          obtain ⟨e4, h4⟩ := new_facts (TS := TS) hXX hT
          clear hXX
          walk_at "rs"
          refine ⟨T', _, rfl, SqT.of h4, rfl, ?_⟩
          walk_at "rd"
          have hv4 : Nv H4 y0 := ev_nv (TS := TS) (show Ev TS [] H H4 from (by walk_at "e")) (hnv y0 (List.mem_of_getElem? ey'))
          refine isword_any (TS := TS) hv4 fun H5 e5 => ?_
          by_cases cw : wordV y0 = true
          · obtain ⟨z, rfl, hzl⟩ : ∃ z, y0 = .str z ∧ z.length ≤ 1000 := by
              rcases hv4 with rfl | ⟨c, rfl⟩ | ⟨i, rfl⟩ | h | ⟨p, rfl, _⟩
              · cases cw
              · cases cw
              · cases cw
              · exact h
              · cases cw
            rw [cw]
            walk_at "rd"
            have hd5 : H5 d = some (.dK kvs) := (by walk_at "t")
            refine ⟨d, _, rfl, DGet.k (k := Sum.inr z) hd5, _, rfl, ?_⟩
            rw [hval z]
            by_cases cm : V.str z ∈ ws.take i
            · rw [decide_eq_true cm]
              walk_at "rd"
              exact bad i H5 ⟨_, ey', .inr cm⟩ hno (by walk_at "e")
            · rw [decide_eq_false cm]
              walk_at "rd"
              refine ⟨d, _, rfl, DPut.k (k := Sum.inr z) hd5 (lt_line (by omega)), ?_⟩
              generalize hXX : upd _ d _ = H6
              obtain ⟨e6, h6⟩ := setD_facts (TS := TS) hXX hd5
              clear hXX
              walk_at "rs"
              refine ⟨_, _, _, rfl, (by walk_at "e"), h6, ?_, fun u => ?_, fun m hm => ?_⟩
              · have := length_putK kvs (Sum.inr z) (V.bl true)
                omega
              · rw [valV_put, tk]
                by_cases e : (Sum.inr u : Key) = Sum.inr z
                · have e' : u = z := Sum.inr.inj e
                  subst e'
                  simp
                · rw [if_neg e, hval u]
                  have : ¬ u = z := fun q => e (by rw [q])
                  simp [this]
              · rcases Nat.lt_succ_iff_lt_or_eq.mp hm with q | q
                · exact hno m q
                · subst q
                  rintro ⟨x, hx, hb⟩
                  rw [ey'] at hx
                  cases hx
                  rcases hb with hb | hb
                  · rw [cw] at hb
                    cases hb
                  · exact cm hb
          · have cf : wordV y0 = false := by simpa using cw
            rw [cf]
            walk_at "rd"
            exact bad i H5 ⟨_, ey', .inl cf⟩ hno (by walk_at "e")
        · rintro σ H3 ⟨v2, v3, kvs, rfl, e3, hd3, hkl, hval, hno⟩
          obtain ⟨x, hx, _⟩ := id hbj
          exact absurd hbj (hno j (List.getElem?_eq_some_iff.mp hx).1)
    · have c1 : ¬ (1 ≤ (ws.length : Int)) := fun z => c (decide_eq_true z)
      walk_at "rd"
      exact fin (by omega)
theorem ok_ctableX {f : Addr} {fd : FuncData} (F : Fun K "check_table" "check_table" s_ctable f fd) (T : TxtW K mg KPT) (XBadRow : Xc P w K mg base 1 "BadRow" CBR ["at"]) (Dcrows : Cl P w K mg base (L2.CX P w) 4 "check_rows" (spCRowsX K TS CBR)) : FnR P w K mg base (L2.CX P w) 5 f (spCTableX TS CBR) := by
  refine fnrX F sc_ctable (fun vs H Q E h => ?_) (fun _ _ _ _ _ _ us hl => match us, hl with | [_, _], _ => rfl) (fun cdv A outer s H vs Q E hr h => ?_)
  · obtain ⟨v, wd, at_, rfl, _⟩ := h
    rfl
  · obtain ⟨v, wd, at_, rfl, hw, hbad, k⟩ := h
    refine ⟨_, (pss_cons (ps_if (pt_not (pt_val (pe_callB call_isiT (by rfl) T.n_isinstance (by decide +kernel) (pa_cons (pv 0) (pa_cons (pe_tup (pa_cons (pe_bltn (v := .ty "list") (by rfl) T.n_list (by decide +kernel) rfl) (pa_cons (pe_bltn (v := .ty "tuple") (by rfl) T.n_tuple (by decide +kernel) rfl) pa_nil))) pa_nil))))) (pss_one (ps_raise rfl (takes_of rfl rfl rfl rfl) (pmk_x XBadRow hr (by decide) (by rfl) (pa_cons (pe_un un_neg pe_int) pa_nil)))) pss_nil)
      (pss_one (ps_expr (pe_cl Dcrows hr (by decide) (by rfl) (passL rfl rfl rfl rfl) (pa_cons (pv 0) (pa_cons (pv 1) pa_nil)))))), ?_⟩
    walk_at "rd"
    refine ⟨(by show 2 ≤ sizeLine; decide), fun TT hTT => ?_⟩
    generalize hXX : upd _ TT _ = H1
    obtain ⟨e1, h1⟩ := new_facts (TS := TS) hXX hTT
    clear hXX
    walk_at "rs"
    rcases hbad with ⟨hns, rfl⟩ | ⟨a, ws, rfl, hws, hrv, j, x, rfl, hx, ho, hlt⟩
    · obtain ⟨n, hn, ty⟩ := hns.ty (K := K) (H := H1)
      refine ⟨_, TT, _, _, [.type "list", .type "tuple"], _, rfl, h1, .cons (.ty _) (.cons (.ty _) .nil), ty, kit_no hn, ?_⟩
      walk_at "rd"
      exact ⟨by show 1 ≤ 1000; decide, (k.ev e1).go⟩
    have hs1 : SqS K H1 a ws := hws.imp (fun z => SqL.of (ev_lst e1 z trivial)) (fun z => SqT.of (ev_tup e1 z))
    obtain ⟨nn, hnn, ty⟩ := tyS hs1
    refine ⟨_, TT, _, _, [.type "list", .type "tuple"], _, rfl, h1, .cons (.ty _) (.cons (.ty _) .nil), ty, kit_lt hnn, ?_⟩
    walk_at "rd"
    refine ⟨a, wd, ws, rfl, hs1, (by walk_at "t"), hw, fun hgd => ?_, fun j' x' hx' ho' hlt' H2 e2 => ?_⟩
    · have ho1 : OdR H1 wd x := (by walk_at "t")
      exact (good_odd (hgd x (List.mem_of_getElem? hx)) ho1).elim
    · have ho1 : OdR H1 wd x := (by walk_at "t")
      have ej := first_odd (H := H1) hx ho1 (fun i y hi hy => ev_goodR e1 (hlt i y hi hy)) hx' ho' hlt'
      subst ej
      exact (k.ev e1).ev e2
end
end MV

namespace MV
open PySem PySem.Spec PyProof.Rows L2 SB MM LamX
local macro_rules | `(tactic| walk_at "rd") => `(tactic| repeat (first | (refine ⟨_, rfl, ?_⟩) | (refine ⟨_, _, rfl, rfl, ?_⟩) | (refine ⟨_, _, rfl, ?_⟩) | (refine ⟨rfl, ?_⟩) | (with_reducible refine st_nil ?_) | (with_reducible refine st_cons ?_) | (with_reducible refine st_C ?_)))
local macro_rules | `(tactic| walk_at "isL") => `(tactic| first | assumption | (apply isL.of; assumption) | (apply isL.bag; assumption) | (apply isL.lr; assumption) | (apply KQ.isL; assumption) | (apply isL.ev; assumption; walk_at "isL"))
local macro_rules | `(tactic| walk_at "isI") => `(tactic| first | assumption | (apply isI.of; assumption) | (apply KQ.isI; assumption) | (apply MoveAt.isI; assumption) | (apply isI.ev; assumption; walk_at "isI"))
local macro_rules | `(tactic| walk_at "al") => `(tactic| first | assumption | (apply isL.al; walk_at "isL") | (apply isI.al; walk_at "isI") | (apply Al.dK; assumption) | (apply Al.dT; assumption) | (apply Al.ev; assumption; walk_at "al"))
local macro_rules | `(tactic| walk_at "ne") => `(tactic| first | (apply NeH.of; assumption) | (apply NeH.ofs; assumption) | (apply neLI; walk_at "isL"; walk_at "isI") | (apply neIL; walk_at "isI"; walk_at "isL") | (apply Al.ne; assumption; walk_at "al") | (apply Al.ens; assumption; walk_at "al") | (apply NA.ne; assumption; walk_at "al") | (apply NA.ens; assumption; walk_at "al"))
local macro_rules | `(tactic| walk_at "nin") => `(tactic| first | exact trivial | (refine And.intro ?_ ?_; walk_at "ne"; walk_at "nin"))
local macro_rules | `(tactic| walk_at "t") => `(tactic| first | assumption | (apply ev_tup; assumption; walk_at "t") | (apply ev_lst; assumption; walk_at "t"; walk_at "nin") | (apply ev_ins; assumption; walk_at "t"; walk_at "nin") | (apply ev_dK; assumption; walk_at "t"; walk_at "nin") | (apply ev_dT; assumption; walk_at "t"; walk_at "nin") | (apply ev_ra; assumption; walk_at "t") | (apply ev_bag; assumption; walk_at "t"; walk_at "nin") | (apply ev_lr; assumption; walk_at "t"; walk_at "nin") | (apply ev_kq; assumption; walk_at "t"; walk_at "nin"; walk_at "nin") | (apply ev_tabs; assumption; walk_at "t") | (apply ev_fzT; assumption; walk_at "t") | (apply ev_od; assumption; walk_at "t") | (apply ev_odR; assumption; walk_at "t") | (apply ev_cels; assumption; walk_at "t") | (apply ev_move; assumption; walk_at "t"; walk_at "nin") | (apply ev_rt; assumption; walk_at "t") | (apply ev_goodR; assumption; walk_at "t") | (apply ev_rowvs; assumption; walk_at "t") | (apply ev_dm; assumption; walk_at "t")  | (apply SqL.of; walk_at "t") | (apply SqT.of; walk_at "t") | (apply ev_sqT; assumption; walk_at "t") | (apply ev_sqL; assumption; walk_at "t"; walk_at "nin"))
local macro_rules | `(tactic| walk_at "le") => `(tactic| first | exact Le.refl _ | (apply Le.ev; assumption; walk_at "le"))
local macro_rules | `(tactic| walk_at "om") => `(tactic| first | exact Or.inl (List.mem_cons_self) | exact Or.inl (List.mem_cons_of_mem _ List.mem_cons_self) | exact Or.inl (List.mem_cons_of_mem _ (List.mem_cons_of_mem _ List.mem_cons_self)) | (apply Or.inr; apply nal0; assumption) | (apply Or.inr; apply Le.nal; assumption; walk_at "le") | (apply Or.inr; apply Le.na; assumption; walk_at "le"))
local macro_rules | `(tactic| walk_at "out") => `(tactic| first | exact trivial | (refine And.intro ?_ ?_; walk_at "om"; walk_at "out"))
local macro_rules | `(tactic| walk_at "e") => `(tactic| first | assumption | exact Ev.refl _ _ | (apply Ev.trans'; assumption; walk_at "e"; walk_at "out"))
local macro_rules | `(tactic| walk_at "c") => `(tactic| dsimp only [tNil, tCons, tC])
local macro_rules | `(tactic| walk_at "na") => `(tactic| first | assumption | (apply NA.of; assumption) | (apply Le.nal; assumption; walk_at "le") | (apply Le.na; assumption; walk_at "le"))
local macro_rules | `(tactic| walk_at "rs") => `(tactic| repeat (first | (with_reducible refine st_nil ?_) | (with_reducible refine st_cons ?_) | (with_reducible refine st_C ?_)))
local macro_rules | `(tactic| walk_at "rv") => `(tactic| repeat (first | (refine ⟨_, rfl, ?_⟩) | (with_reducible refine st_nil ?_) | (with_reducible refine st_cons ?_) | (with_reducible refine st_C ?_)))
local macro_rules | `(tactic| walk_at "if") => `(tactic| first | refine ifT rfl ?_ | refine ifF rfl ?_ | skip)
def spCNamesA (K : PySem.W.Frag) (TS : List (Addr × Str)) (CBN : Addr) : Sp := fun vs H Q E => spCNames K vs H Q E ∨ spCNamesX TS CBN vs H Q E
/-- a keeper that is refused -/
def spKInitX (K : PySem.W.Frag) (TS : List (Addr × Str)) (CBN CBR : Addr) : Sp := fun vs H Q E => ∃ (x : Addr) (nv rv : V), vs = [.ref x, nv, rv] ∧ ((∃ at_, BadNm H nv at_ ∧ Rz TS H E CBN [("at", .int at_)]) ∨
  (∃ (n : Addr) (nms : List Str) (at_ : Int), nv = .ref n ∧ NsIn K H n nms ∧ (∀ z ∈ nms, wordB z = true) ∧ nms.Nodup ∧ 0 < nms.length ∧ nms.length ≤ 6 ∧ BadTb H nms.length rv at_ ∧ Rz TS H E CBR [("at", .int at_)]))
section
variable {P : Program} {w : World} {K : PySem.W.Frag} {mg : Str → Option Value} {base : Heap} {KPT CK CBN CBR : Addr} {TS : List (Addr × Str)}
theorem okf_kinitX {f e0 : Addr} {fd : FuncData} (F : FunD K "__init__" "Keeper.__init__" (defArgs s_k_init) (defBody s_k_init) (defScope s_k_init) [.ref e0] [] f fd) (T : TxtKe K mg KPT CK) (Dcnames : Cl P w K mg base (L2.CX P w) 3 "check_names" (spCNamesA K TS CBN)) (Dctable : Cl P w K mg base (L2.CX P w) 5 "check_table" (spCTableX TS CBR)) : FnOk P w K mg base (L2.CX P w) 6 f fd ["self", "names", "rows"] (spKInitX K TS CBN CBR) := by
  refine F.ok sc_k_init (fun vs H Q E h => ?_) (fun cdv A outer s H vs Q E hr h => ?_)
  · obtain ⟨x, nv, rv, rfl, _⟩ := h
    rfl
  · obtain ⟨x, nv, rv, rfl, h⟩ := h
    refine ⟨_, (pss_cons (ps_expr (pe_cl Dcnames hr (by decide) (by rfl) (passL rfl rfl rfl rfl) (pa_cons (pv 1) pa_nil)))
      (pss_cons (ps_expr (pe_cl Dctable hr (by decide) (by rfl) (passL rfl rfl rfl rfl) (pa_cons (pv 2) (pa_cons (pe_callB call_len_seq (by rfl) T.n_len (by decide +kernel) (pa_cons (pv 1) pa_nil)) pa_nil))))
      (pss_cons (ps_fld (pv 0) (pe_callTy call_tupleF (by rfl) T.n_tuple (by decide +kernel) (pa_cons (pv 1) pa_nil)) rfl)
      (pss_one (ps_fld (pv 0) (pe_callTy call_list_of (by rfl) T.n_list (by decide +kernel) (pa_cons (pv 2) pa_nil)) rfl))))), ?_⟩
    walk_at "rd"
    rcases h with ⟨at_, hb, k⟩ | ⟨n, nms, at_, rfl, hn, hw, hnd, h0, h6, hb, k⟩
    · exact .inr ⟨nv, at_, rfl, hb, k⟩
    · refine .inl ⟨n, nms, rfl, hn.sq, hw, hnd, h0, h6, fun H1 s1 => ?_⟩
      have e1 : Ev TS [] H H1 := Ev.same s1
      walk_at "rd"
      refine ⟨n, _, rfl, (hn.same s1).sq, ?_⟩
      rw [List.length_map]
      walk_at "rd"
      exact ⟨rv, nms.length, at_, rfl, by omega, ev_badtb e1 hb, k.ev e1⟩
end
section
variable {TS : List (Addr × Str)} {K : PySem.W.Frag} {H : Hp} {CK CBN CBR x dx n r : Addr} {Q : VK} {E : XK} {nms : List Str} {rows : List (List Int)}
theorem mk_same (nx : H x = none) (nd : H dx = none) : Same H (upd (upd H dx (.own x)) x (.ins CK dx [])) := fun b o e => by
  rw [upd_ne (ne_of_none e nx), upd_ne (ne_of_none e nd)]
  exact e
theorem keeper_badN {nv rv : V} {at_ : Int} (nx : H x = none) (nd : H dx = none) (hb : BadNm H nv at_) (k : Rz TS H E CBN [("at", .int at_)]) : spKInitX K TS CBN CBR [.ref x, nv, rv] (upd (upd H dx (.own x)) x (.ins CK dx [])) Q E :=
  have e0 : Ev TS [] H (upd (upd H dx (.own x)) x (.ins CK dx [])) := Ev.same (mk_same nx nd)
  ⟨x, nv, rv, rfl, .inl ⟨at_, ev_badnm e0 hb, k.ev e0⟩⟩
theorem keeper_badR {rv : V} {at_ : Int} (nx : H x = none) (nd : H dx = none) (hn : H n = some (.lst (nms.map V.str))) (ok : NmsOk nms) (h0 : 0 < nms.length) (h6 : nms.length ≤ 6) (hb : BadTb H nms.length rv at_) (k : Rz TS H E CBR [("at", .int at_)]) : spKInitX K TS CBN CBR [.ref x, .ref n, rv] (upd (upd H dx (.own x)) x (.ins CK dx [])) Q E :=
  have e0 : Ev TS [] H (upd (upd H dx (.own x)) x (.ins CK dx [])) := Ev.same (mk_same nx nd)
  ⟨x, .ref n, rv, rfl, .inr ⟨n, nms, at_, rfl, .inl (SqL.of (ev_lst e0 hn trivial)), fun z hz => (ok.1 z hz).word, ok.2, h0, h6, ev_badtb e0 hb, k.ev e0⟩⟩
theorem keeper_okS (nx : H x = none) (nd : H dx = none) (hn : NsIn K H n nms) (ok : NmsOk nms) (h0 : 0 < nms.length) (h6 : nms.length ≤ 6) (lr : LR H r rows ∨ RT H r rows) (wf : WF nms.length rows) (k : ∀ qh H', H qh = none → Ev TS [] H H' → KQ CK H' x qh nms rows → Q .non H') : spKInit K CK [.ref x, .ref n, .ref r] (upd (upd H dx (.own x)) x (.ins CK dx [])) Q E := by
  obtain ⟨rs, hr, ra, rfl⟩ : ∃ rs : List Row, SqS K H r (rs.map refR) ∧ RA H rs ∧ rs.map Prod.snd = rows := by
    rcases lr with ⟨rs, hr, ra, e⟩ | ⟨rs, hr, ra, e⟩
    · exact ⟨rs, .inl (SqL.of hr), ra, e⟩
    · exact ⟨rs, .inr (SqT.of hr), ra, e⟩
  refine mk_keeper nx nd hn (fun z hz => (ok.1 z hz).word) ok.2 h0 h6 hr ra wf.ok fun H' s kp hw => ?_
  obtain ⟨dx', qn, qh, h1, h2, h3, h4⟩ := id kp
  exact k qh H' (hw _ _ _ h1) (Ev.same s) ⟨dx', qn, rs, h1, h2, h3, h4, rfl⟩
theorem keeper_ok0 (nx : H x = none) (nd : H dx = none) (hn : NsIn K H n nms) (ok : NmsOk nms) (h0 : 0 < nms.length) (h6 : nms.length ≤ 6) (hr : ∀ H : Hp, SqT K H r []) (k : ∀ qh H', H qh = none → Ev TS [] H H' → KQ CK H' x qh nms [] → Q .non H') : spKInit K CK ([.ref x, .ref n] ++ [.ref r]) (upd (upd H dx (.own x)) x (.ins CK dx [])) Q E := by
  refine mk_keeper (rs := []) nx nd hn (fun z hz => (ok.1 z hz).word) ok.2 h0 h6 (.inr (hr H)) (fun _ z => nomatch z) (fun _ z => nomatch z) fun H' s kp hw => ?_
  obtain ⟨dx', qn, qh, h1, h2, h3, h4⟩ := id kp
  exact k qh H' (hw _ _ _ h1) (Ev.same s) ⟨dx', qn, [], h1, h2, h3, h4, rfl⟩
end
end MV

namespace MV
open PySem PySem.Spec PyProof.Rows L2 SB MM LamX
/-! names that end in unlike letters -/
def abcd : Str := Str.ofString "abcd"
theorem nm_cut {z : Str} {l : Nat} (h : NmOk z) (hl : Low l) : NmOk (cutS z none (some 7) ++ ⟨#[l]⟩) ∧ (cutS z none (some 7) ++ ⟨#[l]⟩).cps.toList.getLast? = some l ∧ (cutS z none (some 7)).length ≤ 7 := by
  obtain ⟨c0, cs, ez, hf, hlow, hcl⟩ := h
  have e7 : (cutS z none (some 7)).cps.toList = c0 :: cs.take 6 := by rw [cut7, ez]; rfl
  have ea : (cutS z none (some 7) ++ (⟨#[l]⟩ : Str)).cps.toList = c0 :: (cs.take 6 ++ [l]) := by
    rw [app_cps, e7]
    rfl
  refine ⟨⟨c0, cs.take 6 ++ [l], ea, hf, ?_, by rw [List.length_append, List.length_take]; show min 6 cs.length + 1 ≤ 7; omega⟩, ?_, ?_⟩
  · intro d hd
    rcases List.mem_cons.mp hd with z | z
    · exact hlow d (by rw [z]; exact List.mem_cons_self)
    · rcases List.mem_append.mp z with z | z
      · exact hlow d (List.mem_cons_of_mem _ (List.mem_of_mem_take z))
      · rw [List.mem_singleton.mp z]
        exact hl
  · rw [ea, ← List.cons_append, List.getLast?_concat]
  · rw [← len_cps, e7, List.length_cons, List.length_take]; omega
/-- the first i names -/
def NmsI (nms : List Str) (i : Nat) : Prop := nms.length = i ∧ (∀ z ∈ nms, NmOk z) ∧ (∀ z ∈ nms, ∃ m, m < i ∧ z.cps.toList.getLast? = some (97 + m)) ∧ nms.Nodup
theorem NmsI.nil : NmsI [] 0 := ⟨rfl, (fun _ z => nomatch z), (fun _ z => nomatch z), List.nodup_nil⟩
theorem NmsI.snoc {nms : List Str} {i : Nat} {z : Str} (h : NmsI nms i) (hz : NmOk z) (hl : z.cps.toList.getLast? = some (97 + i)) : NmsI (nms ++ [z]) (i + 1) := by
  obtain ⟨h1, h2, h3, h4⟩ := h
  refine ⟨by rw [List.length_append, h1]; rfl, fun y hy => ?_, fun y hy => ?_, ?_⟩
  · rcases List.mem_append.mp hy with q | q
    · exact h2 y q
    · rw [List.mem_singleton.mp q]; exact hz
  · rcases List.mem_append.mp hy with q | q
    · obtain ⟨m, hm, e⟩ := h3 y q
      exact ⟨m, by omega, e⟩
    · rw [List.mem_singleton.mp q]; exact ⟨i, by omega, hl⟩
  · rw [List.nodup_append]
    refine ⟨h4, by simp, fun y hy w hw e => ?_⟩
    obtain ⟨m, hm, e2⟩ := h3 y hy
    rw [e, List.mem_singleton.mp hw, hl] at e2
    have := Option.some.inj e2
    omega
theorem NmsI.ok {nms : List Str} {i : Nat} (h : NmsI nms i) : NmsOk nms := ⟨h.2.1, h.2.2.2⟩
theorem abcd_cut {r : Nat} (h : r < 4) : (cutS abcd none (some (1 + (r : Int)))).cps.size = r + 1 ∧ ∀ i c, (cutS abcd none (some (1 + (r : Int)))).cps[i]? = some c → c = 97 + i := by
  have e : ∀ r : Nat, r < 4 → (cutS abcd none (some (1 + (r : Int)))).cps = ((List.range (r + 1)).map fun i => 97 + i).toArray := by decide +kernel
  rw [e r h]
  refine ⟨by simp, fun i c hc => ?_⟩
  rw [List.getElem?_toArray, List.getElem?_map] at hc
  obtain ⟨j, hj, rfl⟩ := Option.map_eq_some_iff.mp hc
  have := (List.getElem?_eq_some_iff.mp hj)
  obtain ⟨h1, h2⟩ := this
  rw [List.getElem_range] at h2
  rw [h2]
end MV

namespace MV
open PySem PySem.Spec PyProof.Rows L2 SB MM LamX
local macro_rules | `(tactic| walk_at "rd") => `(tactic| repeat (first | (refine ⟨_, rfl, ?_⟩) | (refine ⟨_, _, rfl, rfl, ?_⟩) | (refine ⟨_, _, rfl, ?_⟩) | (refine ⟨rfl, ?_⟩)))
abbrev s_k_put_column : Stmt := inClass (top 27) 15
abbrev s_k_setitem : Stmt := inClass (top 27) 14
theorem sl_tupK {X : Cx} {K : PySem.W.Frag} (h : X.K = K) : SlR X (rSlT K) := by
  subst h
  exact sl_tup
theorem sl_listK {X : Cx} {K : PySem.W.Frag} (h : X.K = K) : SlR X (rSlL K) := by
  subst h
  exact sl_list
theorem op_catAK {X : Cx} {K : PySem.W.Frag} (h : X.K = K) : OpR X (binaryOp .Add) (rCatA K) := by
  subst h
  exact op_catA
/-- the number at k of a row replaced -/
def setR (xs : List Int) (k : Nat) (i : Int) : List Int := xs.take k ++ [i] ++ xs.drop (k + 1)
theorem kfs_set (qn qh q : Addr) : putF "held" (.ref q) (kfs qn qh) = kfs qn q := by
  unfold kfs
  rfl
def spPutCol (K : PySem.W.Frag) (CK CM CBR : Addr) : Sp := fun vs H Q E => ∃ (a c : Addr) (kk : Nat) (nms : List Str) (rs : List Row) (ws : List V), vs = [.ref a, .int (kk : Int), .ref c] ∧ KeepAt K CK H a nms rs ∧ kk < nms.length ∧ nms.length ≤ 10 ∧ RowsOk nms.length rs ∧ rs.length ≤ 1000 ∧ SqS K H c ws ∧ (∀ H', Same H H' → ∀ x ∈ ws, Plain K H' x) ∧ ws.length ≤ 1000 ∧
  (ws.length ≠ rs.length → ∀ d, H d = none → E (.ref CM) (some d) (upd H d (.xd [("got", .int (ws.length : Int)), ("wanted", .int (rs.length : Int))]))) ∧
  (ws.length = rs.length → ∀ (j : Nat) (x : V), ws[j]? = some x → numV x = false → (∀ i y, i < j → ws[i]? = some y → numV y = true) → ∀ H' d, Same H H' → H' d = none → E (.ref CBR) (some d) (upd H' d (.xd [("at", .int (j : Int))]))) ∧
  (∀ (ns : List Int), ws = ns.map V.int → ns.length = rs.length → (∀ i ∈ ns, NumOk i) → ∀ (H' : Hp) (rs' : List Row), KeepB a H H' → KeepAt K CK H' a nms rs' → HNew CK H H' a → RowsOk nms.length rs' → rs'.map Prod.snd = List.zipWith (fun r i => setR r.2 kk i) rs ns → Q .non H')
section
variable {P : Program} {w : World} {K : PySem.W.Frag} {mg : Str → Option Value} {base : Heap} {KPT CK CM CBR CNN CNP : Addr}
theorem sc_k_put_column : FnScope ["self", "k", "column", "at", "value", "row"] ["self", "k", "column"] (defScope s_k_put_column) := ⟨rfl, rfl, rfl, by decide +kernel, rfl, by decide +kernel, by decide +kernel⟩
theorem ok_put_column {f : Addr} {fd : FuncData} (F : Fun K "put_column" "Keeper.put_column" s_k_put_column f fd) (T : TxtKe K mg KPT CK) (nZ : mg "zip" = none) (XMismatch : Xc P w K mg base 1 "Mismatch" CM ["wanted", "got"]) (XBadRow : Xc P w K mg base 1 "BadRow" CBR ["at"]) (Disnum : Cl P w K mg base CX0 2 "is_number" (spIsNum K)) : FnR P w K mg base (L2.CX P w) 3 f (spPutCol K CK CM CBR) := by
  refine fnrX F sc_k_put_column (fun vs H Q E h => ?_) (fun _ _ _ _ _ _ us hl => match us, hl with | [_, _, _], _ => rfl) (fun cdv A outer s H vs Q E hr h => ?_)
  · obtain ⟨a, c, kk, nms, rs, ws, rfl, _⟩ := h
    rfl
  · obtain ⟨a, c, kk, nms, rs, ws, rfl, kp, hkk, h10, ok, h1000, hc, hpl, hw, k1, k2, k3⟩ := h
    obtain ⟨dx, qn, qh, ha, hqn, hqh, ra⟩ := id kp
    refine ⟨_, (pss_cons (ps_if (pt_cmpR op_ne (pe_callB call_len_seq (by rfl) T.n_len (by decide +kernel) (pa_cons (pv 2) pa_nil)) (pe_callB call_len_seq (by rfl) T.n_len (by decide +kernel) (pa_cons (pe_fld (pv 0) (by rfl)) pa_nil)) (nomark _)) (pss_one (ps_raise rfl (takes_of rfl rfl rfl rfl) (pmk_x XMismatch hr (by decide) (by rfl) (pa_cons (pe_callB call_len_seq (by rfl) T.n_len (by decide +kernel) (pa_cons (pe_fld (pv 0) (by rfl)) pa_nil)) (pa_cons (pe_callB call_len_seq (by rfl) T.n_len (by decide +kernel) (pa_cons (pv 2) pa_nil)) pa_nil))))) pss_nil)
      (pss_cons (ps_for (passes_of rfl) rfl (pi_enumS (by rfl) T.n_enumerate (pa_cons (pv 2) pa_nil)) (pg_tup rfl (pgs_cons (pg_name (i := 3) sc_k_put_column.nd rfl (Or.inl rfl)) (pgs_cons (pg_name (i := 4) sc_k_put_column.nd rfl (Or.inl rfl)) pgs_nil)))
        (pss_one (ps_if (pt_not (pt_val (pe_cl Disnum hr (by decide) (by rfl) pass0 (pa_cons (pv 4) pa_nil)))) (pss_one (ps_raise rfl (takes_of rfl rfl rfl rfl) (pmk_x XBadRow hr (by decide) (by rfl) (pa_cons (pv 3) pa_nil)))) pss_nil)))
      (pss_one (ps_fld (pv 0) (pe_lc (own := [("row", 5), ("value", 4)]) (by rfl) sc_k_put_column.nd (pi_zipS (by rfl) nZ (pa_cons (pe_fld (pv 0) (by rfl)) (pa_cons (pv 2) pa_nil))) (blkOk_by (own := [("row", 5), ("value", 4)]) (N := ["self", "k", "column", "at", "value", "row"]) (sc := defScope s_k_put_column) (by first | decide +kernel | kernel_rfl)) (fun _ _ _ _ _ => (pg_tupK (K := K) (n := 2) (by rfl) (by rfl) (pgs_cons (pg_name (i := 5) sc_k_put_column.nd rfl (Or.inl rfl)) (pgs_cons (pg_name (i := 4) sc_k_put_column.nd rfl (Or.inl rfl)) pgs_nil)))) (fun _ _ _ _ _ => by exact pts_nil) (fun _ _ _ _ _ => by exact (pe_op (op_catAK (K := K) (by rfl)) (pe_op (op_catAK (K := K) (by rfl)) (pe_slice (sl_tupK (K := K) (by rfl)) (pv 5) po_none (po_some (pv 1))) (pe_tup (pa_cons (pv 4) pa_nil))) (pe_slice (sl_tupK (K := K) (by rfl)) (pv 5) (po_some (pe_op op_add (pv 1) pe_int)) po_none)))) rfl)))), ?_⟩
    walk_at "rd"
    refine ⟨c, _, rfl, hc, ?_⟩
    walk_at "rd"
    refine ⟨a, CK, dx, _, _, rfl, ha, T.ck, T.nh, kfs_held _ _, ?_⟩
    refine ⟨qh, _, rfl, .inl (SqL.of hqh), ?_⟩
    rw [List.length_map]
    walk_at "rd"
    by_cases e : ws.length = rs.length
    · refine ifF (by rw [decide_eq_true (by rw [e])]; rfl) ?_
      walk_at "rd"
      refine ⟨c, _, rfl, hc, fun J G w hG => ?_⟩
      refine for_it w (fun i σ H' => ∃ (v3 v4 : Option V), σ = [some (.ref a), some (.int (kk : Int)), some (.ref c), v3, v4, none] ∧ Same H H' ∧ ∀ m y, m < i → ws[m]? = some y → numV y = true) ?_ ?_ ?_ ?_
      · exact ⟨none, none, rfl, Same.refl H, fun m y hm => absurd hm (Nat.not_lt_zero _)⟩
      · rintro i σ H' _ ⟨_, _, _, sm, _⟩
        exact hG H' (fun e => L2.Same.seq sm e) (fun e => Same.sqT sm e)
      · rintro i x' σ H' H'' hi ⟨v3, v4, rfl, sm, hgd⟩ ⟨T', x0, y0, rfl, hT, rfl, e0, ey⟩
        cases e0
        have ey' : ws[i]? = some y0 := ey
        have s2 := same_new (o := .tup [.int (i : Nat), y0]) sm hT
        refine ⟨T', _, rfl, SqT.of upd_same, rfl, ?_⟩
        walk_at "rd"
        refine ⟨hpl _ s2 y0 (List.mem_of_getElem? ey'), ?_⟩
        by_cases hn : numV y0 = true
        · rw [hn]
          walk_at "rd"
          refine ⟨s2, fun m y hm hy => ?_⟩
          rcases Nat.lt_succ_iff_lt_or_eq.mp hm with z | z
          · exact hgd m y z hy
          · subst z
            rw [ey'] at hy
            cases hy
            exact hn
        · have hn' := Bool.eq_false_iff.mpr hn
          rw [hn']
          walk_at "rd"
          exact ⟨by show 1 ≤ 1000; decide, fun d hd => k2 e i y0 ey' hn' (fun m y hm hy => hgd m y hm hy) _ d s2 hd⟩
      · rintro σ H1 ⟨v3, v4, rfl, sm, hgd⟩
        have hok : ∀ ws : List V, (∀ y ∈ ws, numV y = true) → ∃ ns : List Int, ws = ns.map V.int ∧ ∀ i ∈ ns, NumOk i := by
          intro ws
          induction ws with
          | nil => exact fun _ => ⟨[], rfl, fun _ z => nomatch z⟩
          | cons y ws ih =>
            intro h
            obtain ⟨ns, e1, e2⟩ := ih fun z hz => h z (List.mem_cons_of_mem _ hz)
            have hy := h y List.mem_cons_self
            cases y with
            | int i => exact ⟨i :: ns, by rw [e1]; rfl, fun m hm => by
                rcases List.mem_cons.mp hm with z | z
                · rw [z]; exact of_decide_eq_true (p := 0 ≤ i ∧ i ≤ 10 ^ 30) hy
                · exact e2 m z⟩
            | _ => cases hy
        obtain ⟨ns, rfl, hns⟩ := hok ws fun y hy => by
          obtain ⟨m, hm⟩ := List.mem_iff_getElem?.mp hy
          exact hgd m y (List.getElem?_eq_some_iff.mp hm).1 hm
        have hln : ns.length = rs.length := by rw [← e, List.length_map]
        have hqh1 := sm _ _ hqh
        have ra1 := ra.same sm
        walk_at "rd"
        refine ⟨a, CK, dx, _, _, rfl, sm _ _ ha, T.ck, T.nh, kfs_held _ _, ?_⟩
        walk_at "rd"
        refine ⟨qh, c, rs.map refR, ns.map V.int, rfl, SqL.of hqh1, ?_⟩
        refine ⟨hc.same sm, fun J2 G2 w2 hG2 D hD => ?_⟩
        have hmn : min (rs.map refR).length (ns.map V.int).length = rs.length := by rw [List.length_map, List.length_map, hln, Nat.min_self]
        rw [hmn] at w2
        have sD := same_new (o := .lst []) (Same.refl H1) hD
        refine lc_it w2 (fun i H' => ∃ rs' : List Row, KeepB D (upd H1 D (.lst [])) H' ∧ H' D = some (.lst (rs'.map refR)) ∧ RA H' rs' ∧ RowsOk nms.length rs' ∧ rs'.length = i ∧ rs'.map Prod.snd = List.zipWith (fun r i => setR r.2 kk i) (rs.take i) (ns.take i)) ⟨[], KeepB.refl _ _, upd_same, (fun _ z => nomatch z), (fun _ z => nomatch z), rfl, rfl⟩ ?_ ?_ ?_
        · rintro i H' _ ⟨rs', kq, _⟩
          have sm2 : Same H1 H' := fun c o z => kq _ _ (sD _ _ z) (ne_of_none z hD)
          exact hG2 H' (SqL.of (sm2 _ _ hqh1)) (fun z => L2.Same.seq sm2 z) (fun z => Same.sqT sm2 z)
        · rintro i x' H0 H' hi ⟨rs', kq, hD', ra', ok', hl', hm'⟩ ⟨T', x0, y0, rfl, hT, rfl, ex, ey⟩
          have hi2 : i < ns.length := by omega
          have er : rs[i]? = some rs[i] := List.getElem?_eq_getElem hi
          have en : ns[i]? = some ns[i] := List.getElem?_eq_getElem hi2
          have ex' : x0 = .ref rs[i].1 := by
            have q : (rs.map refR)[i]? = some x0 := ex
            rw [List.getElem?_map, er] at q
            exact (Option.some.inj q).symm
          have ey' : y0 = .int ns[i] := by
            have q : (ns.map V.int)[i]? = some y0 := ey
            rw [List.getElem?_map, en] at q
            exact (Option.some.inj q).symm
          subst ex' ey'
          have hmr := List.getElem_mem hi
          have s0 : Same H1 H0 := fun c o z => kq _ _ (sD _ _ z) (ne_of_none z hD)
          have s2 := same_new (o := .tup [.ref rs[i].1, .int ns[i]]) (Same.refl H0) hT
          have hrow := s2 _ _ (s0 _ _ (ra1 _ hmr))
          have lr : (rs[i].2.map V.int).length = nms.length := by rw [List.length_map, (ok _ hmr).1]
          refine ⟨T', _, rfl, SqT.of upd_same, rfl, ?_⟩
          generalize upd H0 T' (.tup [.ref rs[i].1, .int ns[i]]) = H2 at s2 hrow ⊢
          walk_at "rd"
          refine slT_to hrow (by omega) fun p1 hp1 => ?_
          have s3 := same_new (o := .tup ((rs[i].2.map V.int).take kk)) (Same.refl H2) hp1
          have e3 := upd_same (H := H2) (a := p1) (o := .tup ((rs[i].2.map V.int).take kk))
          generalize upd H2 p1 (.tup ((rs[i].2.map V.int).take kk)) = H3 at s3 e3 ⊢
          walk_at "rd"
          refine ⟨(by show 1 ≤ sizeLine; decide), fun p2 hp2 => ?_⟩
          have s4 := same_new (o := .tup [V.int ns[i]]) (Same.refl H3) hp2
          refine catA_of (s4 _ _ e3) upd_same (by rw [List.length_take]; exact le_line (show min kk (rs[i].2.map V.int).length + 1 ≤ 100000 by omega)) fun q1 H5 s5 hq1 => ?_
          have S5 := s3.trans (s4.trans s5)
          walk_at "rd"
          dsimp only [tNoPart]
          refine slT_from (S5 _ _ hrow) (by omega) fun p3 hp3 => ?_
          have s6 := same_new (o := .tup ((rs[i].2.map V.int).drop (kk + 1))) (Same.refl H5) hp3
          refine catA_of (s6 _ _ hq1) upd_same (by rw [List.length_append, List.length_take, List.length_drop]; exact le_line (show min kk (rs[i].2.map V.int).length + 1 + ((rs[i].2.map V.int).length - (kk + 1)) ≤ 100000 by omega)) fun q2 H7 s7 hq2 => ?_
          have S7 := s2.trans (S5.trans (s6.trans s7))
          have eq2 : H7 q2 = some (.tup ((setR rs[i].2 kk ns[i]).map V.int)) := by
            rw [hq2]
            unfold setR
            rw [List.map_append, List.map_append, List.map_take, List.map_drop]
            rfl
          have lset : (setR rs[i].2 kk ns[i]).length = nms.length := by
            unfold setR
            rw [List.length_append, List.length_append, List.length_take, List.length_drop, (ok _ hmr).1]
            show min kk nms.length + 1 + (nms.length - (kk + 1)) = nms.length
            omega
          have nqD : q2 ≠ D := ne_of eq2 (S7 _ _ hD') (by intro z; cases z)
          refine ⟨_, S7 _ _ hD', by rw [List.length_map]; exact lt_line (by omega), rs' ++ [(q2, setR rs[i].2 kk ns[i])], ?_, ?_, ?_, ?_, ?_, ?_⟩
          · exact fun c o z hc => by rw [upd_ne hc]; exact S7 _ _ (kq _ _ z hc)
          · rw [upd_same, List.map_append]
            rfl
          · intro t ht
            have : H7 t.1 = some (.tup (t.2.map V.int)) := by
              rcases List.mem_append.mp ht with z | z
              · exact S7 _ _ (ra' t z)
              · rw [List.mem_singleton.mp z]; exact eq2
            rw [upd_ne (ne_of this (S7 _ _ hD') (by intro z; cases z))]
            exact this
          · refine ok'.snoc ⟨lset, fun m hm => ?_⟩
            unfold setR at hm
            rcases List.mem_append.mp hm with z | z
            · rcases List.mem_append.mp z with z | z
              · exact (ok _ hmr).2 m (List.mem_of_mem_take z)
              · rw [List.mem_singleton.mp z]; exact hns _ (List.getElem_mem hi2)
            · exact (ok _ hmr).2 m (List.mem_of_mem_drop z)
          · rw [List.length_append, hl']; rfl
          · rw [List.map_append, hm', List.take_add_one, List.take_add_one, er, en, List.zipWith_append (by rw [List.length_take, List.length_take]; omega)]
            rfl
        · rintro H2 ⟨rs', kq, hD2, ra', ok', hl', hm'⟩
          have S2 : Same H H2 := fun c o z => kq _ _ (sD _ _ (sm _ _ z)) (ne_of_none (sm _ _ z) hD)
          have ha2 := S2 _ _ ha
          have naD : D ≠ a := ne_of hD2 ha2 (by intro z; cases z)
          have kx : KeepB a H2 (upd H2 a (.ins CK dx (kfs qn D))) := (KeepB.refl _ _).upd
          walk_at "rd"
          refine ⟨a, CK, dx, _, rfl, ha2, T.ck, T.nh, (by rw [kfs_eq]; show 2 < 1000; decide), ?_⟩
          rw [kfs_set]
          refine k3 ns rfl hln hns _ rs' (fun c o z hc => kx _ _ (S2 _ _ z) hc) ⟨dx, qn, D, upd_same, FzT.kb kx ha2 (noSeq_ins _ _ _) (hqn.same S2), by rw [upd_ne naD]; exact hD2, fun t ht => ?_⟩ (fun d n h e => ?_) ok' (by rw [hm', List.take_length, List.take_of_length_le (by omega)])
          · have := ra' t ht
            exact kx _ _ this (ne_of this ha2 (by intro z; cases z))
          · rw [upd_same] at e
            injection e with e
            injection e with _ _ e
            have e2 : D = h := kfs_inj (qn := qn) (qn' := n) e
            rw [← e2]
            cases e3 : H D with
            | none => rfl
            | some o => exact absurd (sm _ _ e3) (by rw [hD]; intro z; cases z)
    · refine ifT (by rw [decide_eq_false (fun z => e (by have := V.int.inj z; omega))]; rfl) ?_
      walk_at "rd"
      refine ⟨a, CK, dx, _, _, rfl, ha, T.ck, T.nh, kfs_held _ _, ?_⟩
      refine ⟨qh, _, rfl, .inl (SqL.of hqh), ?_⟩
      rw [List.length_map]
      walk_at "rd"
      refine ⟨c, _, rfl, hc, ?_⟩
      walk_at "rd"
      exact ⟨by show 2 ≤ 1000; decide, fun d hd => k1 e d hd⟩
end
end MV

namespace MV
open PySem PySem.Spec PyProof.Rows L2 SB MM LamX
local macro_rules | `(tactic| walk_at "rd") => `(tactic| repeat (first | (refine ⟨_, rfl, ?_⟩) | (refine ⟨_, _, rfl, rfl, ?_⟩) | (refine ⟨_, _, rfl, ?_⟩) | (refine ⟨rfl, ?_⟩) | (with_reducible refine st_nil ?_) | (with_reducible refine st_cons ?_) | (with_reducible refine st_C ?_)))
local macro_rules | `(tactic| walk_at "isL") => `(tactic| first | assumption | (apply isL.of; assumption) | (apply isL.bag; assumption) | (apply isL.lr; assumption) | (apply KQ.isL; assumption) | (apply isL.ev; assumption; walk_at "isL"))
local macro_rules | `(tactic| walk_at "isI") => `(tactic| first | assumption | (apply isI.of; assumption) | (apply KQ.isI; assumption) | (apply isI.ev; assumption; walk_at "isI"))
local macro_rules | `(tactic| walk_at "al") => `(tactic| first | assumption | (apply isL.al; walk_at "isL") | (apply isI.al; walk_at "isI") | (apply Al.dK; assumption) | (apply Al.dT; assumption) | (apply Al.ev; assumption; walk_at "al"))
local macro_rules | `(tactic| walk_at "ne") => `(tactic| first | (apply NeH.of; assumption) | (apply NeH.ofs; assumption) | (apply neLI; walk_at "isL"; walk_at "isI") | (apply neIL; walk_at "isI"; walk_at "isL") | (apply Al.ne; assumption; walk_at "al") | (apply Al.ens; assumption; walk_at "al") | (apply NA.ne; assumption; walk_at "al") | (apply NA.ens; assumption; walk_at "al"))
local macro_rules | `(tactic| walk_at "nin") => `(tactic| first | exact trivial | (refine And.intro ?_ ?_; walk_at "ne"; walk_at "nin"))
local macro_rules | `(tactic| walk_at "t") => `(tactic| first | assumption | (apply ev_tup; assumption; walk_at "t") | (apply ev_lst; assumption; walk_at "t"; walk_at "nin") | (apply ev_ins; assumption; walk_at "t"; walk_at "nin") | (apply ev_dK; assumption; walk_at "t"; walk_at "nin") | (apply ev_dT; assumption; walk_at "t"; walk_at "nin") | (apply ev_ra; assumption; walk_at "t") | (apply ev_bag; assumption; walk_at "t"; walk_at "nin") | (apply ev_lr; assumption; walk_at "t"; walk_at "nin") | (apply ev_kq; assumption; walk_at "t"; walk_at "nin"; walk_at "nin") | (apply ev_tabs; assumption; walk_at "t") | (apply ev_fzT; assumption; walk_at "t") | (apply ev_od; assumption; walk_at "t") | (apply ev_odR; assumption; walk_at "t") | (apply ev_cels; assumption; walk_at "t")  | (apply SqL.of; walk_at "t") | (apply SqT.of; walk_at "t") | (apply ev_sqT; assumption; walk_at "t") | (apply ev_sqL; assumption; walk_at "t"; walk_at "nin"))
local macro_rules | `(tactic| walk_at "le") => `(tactic| first | exact Le.refl _ | (apply Le.ev; assumption; walk_at "le"))
local macro_rules | `(tactic| walk_at "om") => `(tactic| first | exact Or.inl (List.mem_cons_self) | exact Or.inl (List.mem_cons_of_mem _ List.mem_cons_self) | exact Or.inl (List.mem_cons_of_mem _ (List.mem_cons_of_mem _ List.mem_cons_self)) | (apply Or.inr; apply nal0; assumption) | (apply Or.inr; apply Le.nal; assumption; walk_at "le") | (apply Or.inr; apply Le.na; assumption; walk_at "le"))
local macro_rules | `(tactic| walk_at "out") => `(tactic| first | exact trivial | (refine And.intro ?_ ?_; walk_at "om"; walk_at "out"))
local macro_rules | `(tactic| walk_at "e") => `(tactic| first | assumption | exact Ev.refl _ _ | (apply Ev.trans'; assumption; walk_at "e"; walk_at "out"))
local macro_rules | `(tactic| walk_at "c") => `(tactic| dsimp only [tNil, tCons, tC])
local macro_rules | `(tactic| walk_at "na") => `(tactic| first | assumption | (apply NA.of; assumption) | (apply Le.nal; assumption; walk_at "le") | (apply Le.na; assumption; walk_at "le"))
local macro_rules | `(tactic| walk_at "rs") => `(tactic| repeat (first | (with_reducible refine st_nil ?_) | (with_reducible refine st_cons ?_) | (with_reducible refine st_C ?_)))
local macro_rules | `(tactic| walk_at "rv") => `(tactic| repeat (first | (refine ⟨_, rfl, ?_⟩) | (with_reducible refine st_nil ?_) | (with_reducible refine st_cons ?_) | (with_reducible refine st_C ?_)))
local macro_rules | `(tactic| walk_at "if") => `(tactic| first | refine ifT rfl ?_ | refine ifF rfl ?_ | skip)
/-- setting in a keeper: a column, a row, a value -/
def spKSet (K : PySem.W.Frag) (TS : List (Addr × Str)) (CK CNN CNP CBR CM : Addr) : Sp := fun vs H Q E => ∃ (a qh : Addr) (nms : List Str) (rows : List (List Int)) (v w : V), vs = [.ref a, v, w] ∧ KQ CK H a qh nms rows ∧ nms.Nodup ∧ nms.length ≤ 6 ∧ WF nms.length rows ∧ rows.length ≤ 1000 ∧
  ((∃ (z : Str) (c : Addr) (ws : List V), v = .str z ∧ w = .ref c ∧ SqS K H c ws ∧ (Cels H ws) ∧ ws.length ≤ 1000 ∧
      ((z ∉ nms ∧ Rz TS H E CNN [("name", .str z)]) ∨
       (∃ k : Nat, nms[k]? = some z ∧
        ((ws.length ≠ rows.length ∧ Rz TS H E CM [("got", .int (ws.length : Int)), ("wanted", .int (rows.length : Int))]) ∨
         (ws.length = rows.length ∧ ∃ (j : Nat) (x : V), ws[j]? = some x ∧ numV x = false ∧ (∀ (i : Nat) y, i < j → ws[i]? = some y → numV y = true) ∧ Rz TS H E CBR [("at", .int (j : Int))]) ∨
         (∃ ns : List Int, ws = ns.map V.int ∧ ns.length = rows.length ∧ (∀ i ∈ ns, NumOk i) ∧ ∀ qh' H', H qh' = none → Ev TS [a] H H' → KQ CK H' a qh' nms (List.zipWith (fun r i => setR r k i) rows ns) → WF nms.length (List.zipWith (fun r i => setR r k i) rows ns) → Q .non H'))))) ∨
   (∃ i : Int, v = .int i ∧ ((¬ (0 ≤ i ∧ i < (rows.length : Int)) ∧ Rz TS H E CNP [("place", .int i)]) ∨
      (∃ j : Nat, i = (j : Int) ∧ j < rows.length ∧ ((OdR H nms.length w ∧ Rz TS H E CBR [("at", .int i)]) ∨
        (∃ (p : Addr) (r : List Int), w = .ref p ∧ H p = some (.tup (r.map V.int)) ∧ r.length = nms.length ∧ (∀ i ∈ r, NumOk i) ∧ ∀ H', Ev TS [qh] H H' → KQ CK H' a qh nms (rows.set j r) → Q .non H'))))) ∨
   (∃ (t : Addr) (i : Int) (z : Str), v = .ref t ∧ H t = some (.tup [.int i, .str z]) ∧ ((¬ (0 ≤ i ∧ i < (rows.length : Int)) ∧ Rz TS H E CNP [("place", .int i)]) ∨
      ((0 ≤ i ∧ i < (rows.length : Int)) ∧ z ∉ nms ∧ Rz TS H E CNN [("name", .str z)]) ∨
      (∃ (j k : Nat) (r : List Int), i = (j : Int) ∧ rows[j]? = some r ∧ nms[k]? = some z ∧ ((Od H w ∧ Rz TS H E CBR [("at", .int i)]) ∨
        (∃ m : Int, w = .int m ∧ NumOk m ∧ ∀ H', Ev TS [qh] H H' → KQ CK H' a qh nms (rows.set j (setR r k m)) → Q .non H'))))))
theorem setR_len {r : List Int} {k : Nat} {m : Int} (h : k < r.length) : (setR r k m).length = r.length := by
  unfold setR
  rw [List.length_append, List.length_append, List.length_take, List.length_drop]
  show min k r.length + 1 + (r.length - (k + 1)) = r.length
  omega
theorem setR_ok {r : List Int} {k : Nat} {m : Int} (h : ∀ i ∈ r, NumOk i) (hm : NumOk m) : ∀ i ∈ setR r k m, NumOk i := fun i hi => by
  unfold setR at hi
  rcases List.mem_append.mp hi with z | z
  · rcases List.mem_append.mp z with z | z
    · exact h i (List.mem_of_mem_take z)
    · rw [List.mem_singleton.mp z]; exact hm
  · exact h i (List.mem_of_mem_drop z)
theorem setR_map {r : List Int} {k : Nat} {m : Int} : (setR r k m).map V.int = (r.map V.int).take k ++ [V.int m] ++ (r.map V.int).drop (k + 1) := by
  unfold setR
  rw [List.map_append, List.map_append, List.map_take, List.map_drop]
  rfl
theorem WF.set {wd j : Nat} {rows : List (List Int)} {r : List Int} (h : WF wd rows) (hr : r.length = wd ∧ ∀ i ∈ r, NumOk i) : WF wd (rows.set j r) := fun t ht => by
  rcases List.mem_or_eq_of_mem_set ht with z | z
  · exact h t z
  · rw [z]; exact hr
section
variable {P : Program} {w : World} {K : PySem.W.Frag} {mg : Str → Option Value} {base : Heap} {KPT CK CM CBR CNN CNP : Addr} {TS : List (Addr × Str)}
/-- the list of a keeper with one row replaced -/
theorem KQ.put {H H' : Hp} {a qh p : Addr} {nms : List Str} {rs : List Row} {dx qn : Addr} {j : Nat} {r : List Int} (ha : H a = some (.ins CK dx (kfs qn qh))) (hqn : FzT H qn (nms.map V.str)) (hqh : H qh = some (.lst (rs.map refR))) (ra : RA H rs) (hp : H p = some (.tup (r.map V.int)))
    (e : Ev TS [qh] H H') (h : H' qh = some (.lst ((rs.map refR).set j (.ref p)))) : KQ CK H' a qh nms ((rs.map Prod.snd).set j r) := by
  refine ⟨dx, qn, rs.set j (p, r), (by walk_at "t"), (by walk_at "t"), ?_, fun t ht => ?_, ?_⟩
  · rw [h, List.map_set]
    rfl
  · rcases List.mem_or_eq_of_mem_set ht with z | z
    · exact ev_tup e (ra t z)
    · rw [z]
      exact ev_tup e hp
  · rw [List.map_set]
theorem sc_k_setitem : FnScope ["self", "at", "worth", "k", "row", "place", "name"] ["self", "at", "worth"] (defScope s_k_setitem) := ⟨rfl, rfl, rfl, by decide +kernel, rfl, by decide +kernel, by decide +kernel⟩
theorem ok_ksetitem {f : Addr} {fd : FuncData} (F : Fun K "__setitem__" "Keeper.__setitem__" s_k_setitem f fd) (T : TxtKe K mg KPT CK) (MKindex_of : Me P w K mg base (L2.CX P w) 3 CK "index_of" (spIndexOf K CK CNN)) (MKcheck_place : Me P w K mg base (L2.CX P w) 3 CK "check_place" (spCheckPlace K CK CNP)) (MKput_column : Me P w K mg base (L2.CX P w) 3 CK "put_column" (spPutCol K CK CM CBR)) (XBadRow : Xc P w K mg base 1 "BadRow" CBR ["at"]) (Disnum : Cl P w K mg base CX0 2 "is_number" (spIsNum K)) (Disrow : Cl P w K mg base CX0 3 "is_row" (spIsRow K)) : FnR P w K mg base (L2.CX P w) 4 f (spKSet K TS CK CNN CNP CBR CM) := by
  refine fnrX F sc_k_setitem (fun vs H Q E h => ?_) (fun _ _ _ _ _ _ us hl => match us, hl with | [_, _, _], _ => rfl) (fun cdv A outer s H vs Q E hr h => ?_)
  · obtain ⟨a, qh, nms, rows, v, w, rfl, _⟩ := h
    rfl
  · obtain ⟨a, qh, nms, rows, v, w, rfl, kq, hnd, h6, wf, h1000, hv⟩ := h
    obtain ⟨dx, qn, rs, ha, hqn, hqh, ra, rfl⟩ := id kq
    have kp : KeepAt K CK H a nms rs := ⟨dx, qn, qh, ha, hqn, hqh, ra⟩
    have ok : RowsOk nms.length rs := wf.ok
    have hlr : (rs.map Prod.snd).length = rs.length := List.length_map _
    have hln : (rs.map refR).length = rs.length := List.length_map _
    rw [hlr] at h1000 hv
    refine ⟨_, (pss_one (ps_if (pt_val (pe_callB call_isi (by rfl) T.n_isinstance (by decide +kernel) (pa_cons (pv 1) (pa_cons (pe_bltn (v := .ty "str") (by rfl) T.n_str (by decide +kernel) rfl) pa_nil)))) (pss_one (ps_expr (pe_mo (pv 0) T.ck MKput_column hr (by decide) (passL rfl rfl rfl rfl) (pa_cons (pe_mo (pv 0) T.ck MKindex_of hr (by decide) (passL rfl rfl rfl rfl) (pa_cons (pv 1) pa_nil)) (pa_cons (pv 2) pa_nil))))) (pss_one (ps_if (pt_val (pe_callB call_isi (by rfl) T.n_isinstance (by decide +kernel) (pa_cons (pv 1) (pa_cons (pe_bltn (v := .ty "tuple") (by rfl) T.n_tuple (by decide +kernel) rfl) pa_nil)))) (pss_cons (ps_asg (pv 1) (pg_tup rfl (pgs_cons (pg_name (i := 5) sc_k_setitem.nd rfl (Or.inl rfl)) (pgs_cons (pg_name (i := 6) sc_k_setitem.nd rfl (Or.inl rfl)) pgs_nil))))
          (pss_cons (ps_expr (pe_mo (pv 0) T.ck MKcheck_place hr (by decide) (passL rfl rfl rfl rfl) (pa_cons (pv 5) pa_nil)))
          (pss_cons (ps_set (i := 3) sc_k_setitem.nd rfl (Or.inl rfl) (pe_mo (pv 0) T.ck MKindex_of hr (by decide) (passL rfl rfl rfl rfl) (pa_cons (pv 6) pa_nil)))
          (pss_cons (ps_if (pt_not (pt_val (pe_cl Disnum hr (by decide) (by rfl) pass0 (pa_cons (pv 2) pa_nil)))) (pss_one (ps_raise rfl (takes_of rfl rfl rfl rfl) (pmk_x XBadRow hr (by decide) (by rfl) (pa_cons (pv 5) pa_nil)))) pss_nil)
          (pss_cons (ps_set (i := 4) sc_k_setitem.nd rfl (Or.inl rfl) (pe_ix ix_list (by exact (pe_fld (pv 0) (by rfl))) (pv 5) (fun _ _ => rfl)))
          (pss_one (ps_asg (pe_op op_catA (pe_op op_catA (pe_slice sl_tup (pv 4) po_none (po_some (pv 3))) (pe_tup (pa_cons (pv 2) pa_nil))) (pe_slice sl_tup (pv 4) (po_some (pe_op op_add (pv 3) pe_int)) po_none)) (pg_sub (pe_fld (pv 0) (by rfl)) (pv 5) set_list)))))))) (pss_cons (ps_expr (pe_mo (pv 0) T.ck MKcheck_place hr (by decide) (passL rfl rfl rfl rfl) (pa_cons (pv 1) pa_nil)))
          (pss_cons (ps_if (pt_not (pt_val (pe_cl Disrow hr (by decide) (by rfl) pass0 (pa_cons (pv 2) (pa_cons (pe_callB call_len_seq (by rfl) T.n_len (by decide +kernel) (pa_cons (pe_fld (pv 0) (by rfl)) pa_nil)) pa_nil))))) (pss_one (ps_raise rfl (takes_of rfl rfl rfl rfl) (pmk_x XBadRow hr (by decide) (by rfl) (pa_cons (pv 1) pa_nil)))) pss_nil)
          (pss_one (ps_asg (pv 2) (pg_sub (pe_fld (pv 0) (by rfl)) (pv 1) set_list))))))))), ?_⟩
    rcases hv with ⟨z, c, ws, rfl, rfl, hc, hcel, hws, hv⟩ | ⟨i, rfl, hv⟩ | ⟨t, i, z, rfl, ht, hv⟩
    · walk_at "rd"
      refine ⟨_, _, _, _, _, rfl, .ty _, .base (.str z), kit_ty (r := true) (by decide +kernel), ?_⟩
      walk_at "rd"
      refine ⟨a, dx, _, rfl, ha, kfs_no qn qh (by decide +kernel) (by decide +kernel), ?_⟩
      walk_at "rd"
      refine ⟨a, dx, _, rfl, ha, kfs_no qn qh (by decide +kernel) (by decide +kernel), ?_⟩
      walk_at "rd"
      rcases hv with ⟨hz, k⟩ | ⟨kk, hkk, hv⟩
      · exact ⟨a, nms, rs, z, rfl, kp, hnd, fun j hj => absurd (List.mem_of_getElem? hj) hz, fun _ => k.go⟩
      refine ⟨a, nms, rs, z, rfl, kp, hnd, fun j hj => ?_, fun hz => absurd (List.mem_of_getElem? hkk) hz⟩
      have ej := nd_ix hnd hj hkk
      subst ej
      have hj2 := (List.getElem?_eq_some_iff.mp hj).1
      walk_at "rd"
      have hpl : ∀ H', Same H H' → ∀ x ∈ ws, Plain K H' x := fun H' s x hx => (ev_cel (TS := TS) (Ev.same s) (hcel x hx)).plain
      refine ⟨a, c, j, nms, rs, ws, rfl, kp, hj2, by omega, ok, h1000, hc, hpl, hws, ?_⟩
      rcases hv with ⟨hl, k⟩ | ⟨hl, j', x, hx, hn, hlt, k⟩ | ⟨ns, rfl, hl, hns, k⟩
      · exact ⟨fun _ => k.go, fun e => absurd e hl, fun ns e1 e2 => absurd (by rw [e1, List.length_map, e2]) hl⟩
      · refine ⟨fun e => absurd hl e, fun _ i y hy hny hb H' d s hd => ?_, fun ns e1 e2 e3 => ?_⟩
        · have : i = j' := by
            rcases Nat.lt_trichotomy i j' with z | z | z
            · rw [hlt i y z hy] at hny; cases hny
            · exact z
            · rw [hb j' x z hx] at hn; cases hn
          subst this
          exact (k.ev (Ev.same s)).go d hd
        · rw [e1, List.getElem?_map] at hx
          obtain ⟨m, hm, rfl⟩ := Option.map_eq_some_iff.mp hx
          have : numV (.int m) = true := decide_eq_true (e3 m (List.mem_of_getElem? hm))
          rw [this] at hn
          cases hn
      · have hl' : (ns.map V.int).length = rs.length := by rw [List.length_map, hl]
        refine ⟨fun e => absurd hl' e, fun _ i y hy hny => ?_, fun ns' e1 e2 e3 H' rs' kb kp' hnw ok' em => ?_⟩
        · rw [List.getElem?_map] at hy
          obtain ⟨m, hm, rfl⟩ := Option.map_eq_some_iff.mp hy
          have : numV (.int m) = true := decide_eq_true (hns m (List.mem_of_getElem? hm))
          rw [this] at hny
          cases hny
        · have en : ns' = ns := (List.map_inj_right (fun x y e => by injection e)).mp e1.symm
          subst en
          obtain ⟨dx', qn', qh', ha', hqn', hqh', ra'⟩ := id kp'
          have eq : rs'.map Prod.snd = List.zipWith (fun r i => setR r j i) (rs.map Prod.snd) ns' := by
            rw [em, List.zipWith_map_left]
          refine k qh' H' (hnw _ _ _ ha') (Ev.keepI ha ha' kb) ⟨dx', qn', rs', ha', hqn', hqh', ra', eq⟩ ?_
          rw [← eq]
          exact ok'.wf
    · walk_at "rd"
      refine ⟨_, _, _, _, _, rfl, .ty _, .base (.int i), kit_ty (r := false) (by decide +kernel), ?_⟩
      walk_at "rd"
      refine ⟨_, _, _, _, _, rfl, .ty _, .base (.int i), kit_ty (r := false) (by decide +kernel), ?_⟩
      walk_at "rd"
      refine ⟨a, dx, _, rfl, ha, kfs_no qn qh (by decide +kernel) (by decide +kernel), ?_⟩
      walk_at "rd"
      rcases hv with ⟨hi, k⟩ | ⟨j, rfl, hj, hv⟩
      · exact ⟨a, nms, rs, i, rfl, kp, fun h => absurd h hi, fun _ => k.go⟩
      refine ⟨a, nms, rs, _, rfl, kp, fun _ => ?_, fun h => absurd ⟨by omega, by omega⟩ h⟩
      walk_at "rd"
      refine ⟨a, CK, dx, _, _, rfl, ha, T.ck, T.nn, kfs_names _ _, ?_⟩
      refine ⟨qn, _, rfl, .inr hqn.sq, ?_⟩
      rw [List.length_map]
      have fin : ∀ (p : Addr) (r : List Int) (H1 : Hp), Same H H1 → w = .ref p → H p = some (.tup (r.map V.int)) → (∀ H', Ev TS [qh] H H' → KQ CK H' a qh nms ((rs.map Prod.snd).set j r) → Q .non H') →
          ∃ (p1 : Addr) (xs : List V) (k : Int) (j1 : Nat), V.ref qh = .ref p1 ∧ V.int (j : Int) = .int k ∧ H1 p1 = some (.lst xs) ∧ ixN xs.length k = some j1 ∧ Q .non (upd H1 p1 (.lst (xs.set j1 w))) := by
        intro p r H1 s1 ew hp k
        subst ew
        have hq1 := s1 _ _ hqh
        refine ⟨qh, _, (j : Int), j, rfl, rfl, hq1, ixN_nat (by omega), ?_⟩
        have e2 : Ev TS [qh] H1 (upd H1 qh (.lst ((rs.map refR).set j (.ref p)))) := Ev.setL hq1
        have e1 : Ev TS [] H H1 := Ev.same s1
        exact k _ (by walk_at "e") (KQ.put (s1 _ _ ha) (hqn.same s1) hq1 (ra.same s1) (s1 _ _ hp) e2 upd_same)
      rcases hv with ⟨hod, k⟩ | ⟨p, r, rfl, hp, hrl, hro, k⟩
      · have tail : ∀ H1, Ev TS [] H H1 → (0 < 1000 ∧ 1 ≤ 1000 ∧ ∀ d, H1 d = none → E (.ref CBR) (some d) (upd H1 d (.xd [("at", .int (j : Int))]))) := fun H1 e1 => ⟨by decide, by decide, (k.ev e1).go⟩
        refine ⟨w, nms.length, rfl, ?_⟩
        rcases hod with rfl | ⟨m, rfl⟩ | ⟨z, rfl⟩ | ⟨p, rfl, xs, hp⟩ | ⟨p, xs, rfl, hp, hx, hxl, hb⟩
        · refine .inr ⟨⟨"NoneType", by simp, .base .non⟩, ?_⟩
          walk_at "rd"
          exact ⟨by show 1 ≤ 1000; decide, k.go⟩
        · refine .inr ⟨⟨"int", by simp, .base (.int m)⟩, ?_⟩
          walk_at "rd"
          exact ⟨by show 1 ≤ 1000; decide, k.go⟩
        · refine .inr ⟨⟨"str", by simp, .base (.str z)⟩, ?_⟩
          walk_at "rd"
          exact ⟨by show 1 ≤ 1000; decide, k.go⟩
        · refine .inr ⟨⟨"list", by simp, tyL (SqL.of hp)⟩, ?_⟩
          walk_at "rd"
          exact ⟨by show 1 ≤ 1000; decide, k.go⟩
        · refine .inl ⟨p, xs, rfl, SqT.of hp, fun H' s x hxx => (ev_cel (TS := TS) (Ev.same s) (hx x hxx)).plain, hxl, fun H1 s1 => ?_⟩
          rw [hb]
          walk_at "rd"
          exact ⟨by show 1 ≤ 1000; decide, (k.ev (Ev.same s1)).go⟩
      · refine ⟨_, nms.length, rfl, .inl ⟨p, _, rfl, SqT.of hp, fun H' s x hxx => ?_, by rw [List.length_map, hrl]; omega, fun H1 s1 => ?_⟩⟩
        · obtain ⟨m, _, rfl⟩ := List.mem_map.mp hxx
          exact .inl ⟨m, rfl⟩
        · have e0 : (decide ((r.map V.int).length = nms.length) && (r.map V.int).all numV) = true := by
            rw [decide_eq_true (by rw [List.length_map, hrl]), Bool.true_and, List.all_eq_true]
            intro x hx
            obtain ⟨m, hm, rfl⟩ := List.mem_map.mp hx
            exact decide_eq_true (hro m hm)
          rw [e0]
          walk_at "rd"
          refine ⟨a, CK, dx, _, _, rfl, s1 _ _ ha, T.ck, T.nh, kfs_held _ _, ?_⟩
          walk_at "rd"
          exact fin p r H1 s1 rfl hp k
    · walk_at "rd"
      refine ⟨_, _, _, _, _, rfl, .ty _, tyT (SqT.of ht), kit_ty (r := false) (by decide +kernel), ?_⟩
      walk_at "rd"
      refine ⟨_, _, _, _, _, rfl, .ty _, tyT (SqT.of ht), kit_ty (r := true) (by decide +kernel), ?_⟩
      walk_at "rd"
      refine ⟨t, _, rfl, SqT.of ht, rfl, ?_⟩
      walk_at "rd"
      refine ⟨a, dx, _, rfl, ha, kfs_no qn qh (by decide +kernel) (by decide +kernel), ?_⟩
      walk_at "rd"
      rcases hv with ⟨hi, k⟩ | hv
      · exact ⟨a, nms, rs, i, rfl, kp, fun h => absurd h hi, fun _ => k.go⟩
      have hi : 0 ≤ i ∧ i < (rs.length : Int) := by
        rcases hv with ⟨hi, _⟩ | ⟨j, k, r, rfl, hj, _⟩
        · exact hi
        · have := (List.getElem?_eq_some_iff.mp hj).1
          omega
      refine ⟨a, nms, rs, i, rfl, kp, fun _ => ?_, fun h => absurd hi h⟩
      walk_at "rd"
      refine ⟨a, dx, _, rfl, ha, kfs_no qn qh (by decide +kernel) (by decide +kernel), ?_⟩
      walk_at "rd"
      rcases hv with ⟨_, hz, k⟩ | ⟨j, kk, r, rfl, hj, hkk, hv⟩
      · exact ⟨a, nms, rs, z, rfl, kp, hnd, fun j hj => absurd (List.mem_of_getElem? hj) hz, fun _ => k.go⟩
      refine ⟨a, nms, rs, z, rfl, kp, hnd, fun j' hj' => ?_, fun hz => absurd (List.mem_of_getElem? hkk) hz⟩
      have ej := nd_ix hnd hj' hkk
      subst ej
      have hk2 := (List.getElem?_eq_some_iff.mp hkk).1
      rw [List.getElem?_map] at hj
      obtain ⟨rr, hrr, rfl⟩ := Option.map_eq_some_iff.mp hj
      have hmr := List.mem_of_getElem? hrr
      have hrow := ra _ hmr
      have lr : (rr.2.map V.int).length = nms.length := by rw [List.length_map, (ok _ hmr).1]
      walk_at "rd"
      rcases hv with ⟨hod, k⟩ | ⟨m, rfl, hm, k⟩
      · refine ⟨hod.plain.1, ?_⟩
        rw [(hod.plain (K := K)).2]
        walk_at "rd"
        exact ⟨by show 1 ≤ 1000; decide, k.go⟩
      · refine ⟨.inl ⟨m, rfl⟩, ?_⟩
        have e0 : numV (.int m) = true := decide_eq_true hm
        rw [e0]
        walk_at "rd"
        refine ⟨a, CK, dx, _, _, rfl, ha, T.ck, T.nh, kfs_held _ _, ?_⟩
        walk_at "rd"
        refine ⟨qh, _, (j : Int), .ref rr.1, rfl, rfl, SqL.of hqh, atI_nat (by rw [List.getElem?_map, hrr]; rfl), ?_⟩
        walk_at "rd"
        refine a_slTto (TS := TS) hrow (by omega) fun p1 H1 hp1 e1 h1 => ?_
        walk_at "rd"
        refine ⟨by show 1 ≤ sizeLine; decide, fun p2 hp2 => ?_⟩
        generalize hXX : upd _ p2 _ = H2
        obtain ⟨e2, h2⟩ := new_facts (TS := TS) hXX hp2
        clear hXX
        walk_at "rs"
        refine a_catT (TS := TS) (by walk_at "t") (by walk_at "t") (by rw [List.length_take]; exact le_line (show min j' (rr.2.map V.int).length + 1 ≤ 100000 by omega)) fun q3 H3 e3 h3 => ?_
        walk_at "rd"
        dsimp only [tNoPart]
        refine a_slTfrom (TS := TS) (xs := rr.2.map V.int) (by walk_at "t") (by omega) fun p4 H4 hp4 e4 h4 => ?_
        refine a_catT (TS := TS) (by walk_at "t") (by walk_at "t") (by rw [List.length_append, List.length_take, List.length_drop]; exact le_line (show min j' (rr.2.map V.int).length + 1 + ((rr.2.map V.int).length - (j' + 1)) ≤ 100000 by omega)) fun q5 H5 e5 h5 => ?_
        walk_at "rd"
        have ha5 : H5 a = some (.ins CK dx (kfs qn qh)) := (by walk_at "t")
        have hq5 : H5 qh = some (.lst (rs.map refR)) := (by walk_at "t")
        refine ⟨a, CK, dx, _, _, rfl, ha5, T.ck, T.nh, kfs_held _ _, ?_⟩
        walk_at "rd"
        refine a_setL (TS := TS) hq5 (by omega) fun H6 e6 h6' => ?_
        rw [← setR_map] at h5
        exact k _ (by walk_at "e") (KQ.put ha5 (by walk_at "t") hq5 (by walk_at "t") h5 e6 h6')
end
end MV

namespace MV
open PySem PySem.Spec PyProof.Rows L2 SB MM LamX StX
local macro_rules | `(tactic| walk_at "rd") => `(tactic| repeat (first | (refine ⟨_, rfl, ?_⟩) | (refine ⟨_, _, rfl, rfl, ?_⟩) | (refine ⟨_, _, rfl, ?_⟩) | (refine ⟨rfl, ?_⟩) | (with_reducible refine st_nil ?_) | (with_reducible refine st_cons ?_) | (with_reducible refine st_C ?_)))
local macro_rules | `(tactic| walk_at "isL") => `(tactic| first | assumption | (apply isL.of; assumption) | (apply isL.bag; assumption) | (apply isL.lr; assumption) | (apply KQ.isL; assumption) | (apply isL.ev; assumption; walk_at "isL"))
local macro_rules | `(tactic| walk_at "isI") => `(tactic| first | assumption | (apply isI.of; assumption) | (apply KQ.isI; assumption) | (apply MoveAt.isI; assumption) | (apply isI.ev; assumption; walk_at "isI"))
local macro_rules | `(tactic| walk_at "al") => `(tactic| first | assumption | (apply isL.al; walk_at "isL") | (apply isI.al; walk_at "isI") | (apply Al.dK; assumption) | (apply Al.dT; assumption) | (apply Al.ev; assumption; walk_at "al"))
local macro_rules | `(tactic| walk_at "ne") => `(tactic| first | (apply NeH.of; assumption) | (apply NeH.ofs; assumption) | (apply neLI; walk_at "isL"; walk_at "isI") | (apply neIL; walk_at "isI"; walk_at "isL") | (apply Al.ne; assumption; walk_at "al") | (apply Al.ens; assumption; walk_at "al") | (apply NA.ne; assumption; walk_at "al") | (apply NA.ens; assumption; walk_at "al"))
local macro_rules | `(tactic| walk_at "nin") => `(tactic| first | exact trivial | (refine And.intro ?_ ?_; walk_at "ne"; walk_at "nin"))
local macro_rules | `(tactic| walk_at "t") => `(tactic| first | assumption | (apply ev_tup; assumption; walk_at "t") | (apply ev_lst; assumption; walk_at "t"; walk_at "nin") | (apply ev_ins; assumption; walk_at "t"; walk_at "nin") | (apply ev_dK; assumption; walk_at "t"; walk_at "nin") | (apply ev_dT; assumption; walk_at "t"; walk_at "nin") | (apply ev_ra; assumption; walk_at "t") | (apply ev_bag; assumption; walk_at "t"; walk_at "nin") | (apply ev_lr; assumption; walk_at "t"; walk_at "nin") | (apply ev_kq; assumption; walk_at "t"; walk_at "nin"; walk_at "nin") | (apply ev_tabs; assumption; walk_at "t") | (apply ev_fzT; assumption; walk_at "t") | (apply ev_od; assumption; walk_at "t") | (apply ev_odR; assumption; walk_at "t") | (apply ev_cels; assumption; walk_at "t") | (apply ev_move; assumption; walk_at "t"; walk_at "nin") | (apply ev_rt; assumption; walk_at "t") | (apply ev_goodR; assumption; walk_at "t") | (apply ev_rowvs; assumption; walk_at "t") | (apply ev_dm; assumption; walk_at "t")  | (apply SqL.of; walk_at "t") | (apply SqT.of; walk_at "t") | (apply ev_sqT; assumption; walk_at "t") | (apply ev_sqL; assumption; walk_at "t"; walk_at "nin"))
local macro_rules | `(tactic| walk_at "le") => `(tactic| first | exact Le.refl _ | (apply Le.ev; assumption; walk_at "le"))
local macro_rules | `(tactic| walk_at "om") => `(tactic| first | exact Or.inl (List.mem_cons_self) | exact Or.inl (List.mem_cons_of_mem _ List.mem_cons_self) | exact Or.inl (List.mem_cons_of_mem _ (List.mem_cons_of_mem _ List.mem_cons_self)) | (apply Or.inr; apply nal0; assumption) | (apply Or.inr; apply Le.nal; assumption; walk_at "le") | (apply Or.inr; apply Le.na; assumption; walk_at "le"))
local macro_rules | `(tactic| walk_at "out") => `(tactic| first | exact trivial | (refine And.intro ?_ ?_; walk_at "om"; walk_at "out"))
local macro_rules | `(tactic| walk_at "e") => `(tactic| first | assumption | exact Ev.refl _ _ | (apply Ev.trans'; assumption; walk_at "e"; walk_at "out"))
local macro_rules | `(tactic| walk_at "c") => `(tactic| dsimp only [tNil, tCons, tC])
local macro_rules | `(tactic| walk_at "na") => `(tactic| first | assumption | (apply NA.of; assumption) | (apply Le.nal; assumption; walk_at "le") | (apply Le.na; assumption; walk_at "le"))
local macro_rules | `(tactic| walk_at "rs") => `(tactic| repeat (first | (with_reducible refine st_nil ?_) | (with_reducible refine st_cons ?_) | (with_reducible refine st_C ?_)))
local macro_rules | `(tactic| walk_at "rv") => `(tactic| repeat (first | (refine ⟨_, rfl, ?_⟩) | (with_reducible refine st_nil ?_) | (with_reducible refine st_cons ?_) | (with_reducible refine st_C ?_)))
local macro_rules | `(tactic| walk_at "if") => `(tactic| first | refine ifT rfl ?_ | refine ifF rfl ?_ | skip)
abbrev s_k_add : Stmt := inClass (top 27) 20
/-- add, told of its three parameters -/
def spAddB (K : PySem.W.Frag) (TS : List (Addr × Str)) (CK C CBR CNP : Addr) : Sp := fun vs H Q E => ∃ (a qh r : Addr) (at_ : V) (nms : List Str) (rows : List (List Int)) (ws : List V), vs = [.ref a, at_, .ref r] ∧ KQ CK H a qh nms rows ∧ nms.length ≤ 6 ∧ rows.length ≤ 1000 ∧ H r = some (.tup ws) ∧ RowVs H nms.length ws ∧ ws.length ≤ 1000 ∧
  ((∃ (j : Nat) (x : V), ws[j]? = some x ∧ OdR H nms.length x ∧ (∀ (i : Nat) (y : V), i < j → ws[i]? = some y → GoodR H nms.length y) ∧ Rz TS H E CBR [("at", .int (j : Int))]) ∨
   ((∀ x ∈ ws, GoodR H nms.length x) ∧ ((∃ i : Int, at_ = .int i ∧ ¬ (0 ≤ i ∧ i ≤ (rows.length : Int)) ∧ Rz TS H E CNP [("place", .int i)]) ∨
     (∃ j : Nat, ((at_ = .non ∧ j = rows.length) ∨ at_ = .int (j : Int)) ∧ j ≤ rows.length ∧ ∀ new m qh' H', RT H r new → WF nms.length new → new.length = ws.length → NA H m → NA H qh' → Ev TS [a] H H' → KQ CK H' a qh' nms (rows.take j ++ new ++ rows.drop j) → MoveAt K C H' m rows.length (addM rows.length j ws.length) → Q (.ref m) H'))))
section
variable {P : Program} {w : World} {K : PySem.W.Frag} {mg : Str → Option Value} {base : Heap} {KPT CK C CBR CNP : Addr} {TS : List (Addr × Str)}
theorem sc_k_add : FnScope ["self", "at", "rows", "many", "place", "places"] ["self", "at", "rows"] (defScope s_k_add) := ⟨rfl, rfl, rfl, by decide +kernel, rfl, by decide +kernel, by decide +kernel⟩
theorem add_body {f : Addr} {cdv : Value} (T : TxtKe K mg KPT CK) (MMove : Ml P w K mg base CX0 1 "Move" C (spInit K C)) (MKmoved : Me P w K mg base CX0 4 CK "moved" (spMoved K TS CK C)) (XNoPlace : Xc P w K mg base 1 "NoPlace" CNP ["place"]) (Dcrows : Cl P w K mg base (L2.CX P w) 4 "check_rows" (spCRowsX K TS CBR))
    (A : Around) (outer : List Env) (s : Shared) (H : Hp) (vs : List V) (Q : VK) (E : XK) (hr : Room 4 (A.deeper (envOfC "Keeper.add" (defScope s_k_add) s.heap.objs.size f cdv))) (h : spAddB K TS CK C CBR CNP vs H Q E) :
    ∃ t, PSs (cxOf (L2.CX P w) P w K mg base ["self", "at", "rows", "many", "place", "places"] "Keeper.add" (defScope s_k_add) f cdv A outer s H E) (defBody s_k_add) t ∧ t { nx := fun _ H' => Q .non H', rt := Q } (start ["self", "at", "rows", "many", "place", "places"] vs) H := by
  obtain ⟨a, qh, r, at_, nms, rows, ws, rfl, kq, h6, h1000, hrw, hrv, hwl, hv⟩ := h
  obtain ⟨dx, qn, rs, ha, hqn, hqh, ra, ers⟩ := id kq
  have lrs : rs.length = rows.length := by rw [← ers, List.length_map]
  refine ⟨_, (pss_cons (ps_expr (pe_cl Dcrows hr (by decide) (by rfl) (passL rfl rfl rfl rfl) (pa_cons (pv 2) (pa_cons (pe_callB call_len_seq (by rfl) T.n_len (by decide +kernel) (pa_cons (pe_fld (pv 0) (by rfl)) pa_nil)) pa_nil))))
      (pss_cons (ps_set (i := 3) sc_k_add.nd rfl (Or.inl rfl) (pe_callB call_len_seq (by rfl) T.n_len (by decide +kernel) (pa_cons (pe_fld (pv 0) (by rfl)) pa_nil)))
      (C8.pss_cut (ps_set (i := 4) sc_k_add.nd rfl (Or.inl rfl) (pe_ifExp (pt_cmpR op_isN (pv 1) pe_non (nomark _)) (pv 3) (pv 1)))
      (pss_cons (ps_if (pt_not (pt_chain op_le op_le pe_int (pv 4) (pv 3))) (pss_one (ps_raise rfl (takes_of rfl rfl rfl rfl) (pmk_x XNoPlace hr (by decide) (by rfl) (pa_cons (pv 4) pa_nil)))) pss_nil)
      (pss_cons (ps_set (i := 5) sc_k_add.nd rfl (Or.inl rfl) (pe_op op_cat (pe_op op_cat (pe_listRg rfl (by rfl) T.n_list (prg_1 (by rfl) T.n_range (pv 4))) (pe_op op_rep (pe_lst (pa_cons (pe_un un_neg pe_int) pa_nil)) (pe_callB call_len_seq (by rfl) T.n_len (by decide +kernel) (pa_cons (pv 2) pa_nil)))) (pe_listRg rfl (by rfl) T.n_list (prg_2 (by rfl) T.n_range (pv 4) (pv 3)))))
      (pss_one (ps_ret (pe_mo (pv 0) T.ck MKmoved hr (by decide) pass0 (pa_cons (pe_ml MMove hr (by decide) (by rfl) pass0 (pa_cons (pv 3) (pa_cons (pv 5) pa_nil))) (pa_cons (pv 2) pa_nil)))))))))), ?_⟩
  walk_at "rd"
  refine ⟨a, CK, dx, _, _, rfl, ha, T.ck, T.nn, kfs_names _ _, ?_⟩
  refine ⟨qn, _, rfl, .inr hqn.sq, ?_⟩
  rw [List.length_map]
  walk_at "rd"
  refine ⟨r, nms.length, ws, rfl, .inr (SqT.of hrw), hrv, by omega, ?_⟩
  rcases hv with ⟨j, x, hx, ho, hlt, k⟩ | ⟨hgd, hv⟩
  · refine ⟨fun hgd => (good_odd (hgd x (List.mem_of_getElem? hx)) ho).elim, fun j' x' hx' ho' hlt' H1 e1 => ?_⟩
    have ej := first_odd hx ho hlt hx' ho' hlt'
    subst ej
    exact k.ev e1
  refine ⟨fun _ H1 e1 => ?_, fun j x hx ho hlt => (good_odd (hgd x (List.mem_of_getElem? hx)) ho).elim⟩
  obtain ⟨new, hrt, hwf, hnl⟩ := goods_rt hgd hrw
  walk_at "rd"
  refine ⟨a, CK, dx, _, _, rfl, (by walk_at "t"), T.ck, T.nh, kfs_held qn qh, ?_⟩
  refine ⟨qh, rs.map refR, rfl, .inl (SqL.of (by walk_at "t")), ?_⟩
  rw [List.length_map, lrs]
  refine ⟨fun σ' H' => H' = H1 ∧ ∃ pl : Int, σ' = [some (.ref a), some at_, some (.ref r), some (.int (rows.length : Int)), some (.int pl), none] ∧ ((at_ = .int pl) ∨ (at_ = .non ∧ pl = (rows.length : Int))), ?_, ?_⟩
  · walk_at "rd"
    rcases hv with ⟨i, rfl, hi, k⟩ | ⟨j, ⟨rfl, rfl⟩ | rfl, hj, k⟩
    · walk_at "rd"
      exact .inl rfl
    · walk_at "rd"
      exact .inr ⟨rfl, rfl⟩
    · walk_at "rd"
      exact .inl rfl
  rintro σ' H' ⟨rfl, pl, rfl, hpl⟩
  have hcase : (¬ (0 ≤ pl ∧ pl ≤ (rows.length : Int)) ∧ Rz TS H E CNP [("place", .int pl)]) ∨ (∃ j : Nat, pl = (j : Int) ∧ j ≤ rows.length ∧ ∀ new m qh' H', RT H r new → WF nms.length new → new.length = ws.length → NA H m → NA H qh' → Ev TS [a] H H' → KQ CK H' a qh' nms (rows.take j ++ new ++ rows.drop j) → MoveAt K C H' m rows.length (addM rows.length j ws.length) → Q (.ref m) H') := by
    rcases hv with ⟨i, rfl, hi, k⟩ | ⟨j, ⟨rfl, rfl⟩ | rfl, hj, k⟩
    · rcases hpl with z | ⟨z, _⟩
      · cases z; exact .inl ⟨hi, k⟩
      · cases z
    · rcases hpl with z | ⟨_, z⟩
      · cases z
      · exact .inr ⟨_, z, hj, k⟩
    · rcases hpl with z | ⟨z, _⟩
      · cases z; exact .inr ⟨j, rfl, hj, k⟩
      · cases z
  clear hv hpl
  walk_at "rd"
  refine ite2 (fun c => ?_) (fun c => ?_)
  · have c1 : 0 ≤ pl := of_decide_eq_true c
    walk_at "rd"
    refine ite2 (fun c2 => ?_) (fun c2 => ?_)
    · have c3 : ¬ (pl ≤ (rows.length : Int)) := by simpa using c2
      walk_at "rd"
      rcases hcase with ⟨_, k⟩ | ⟨j, rfl, hj, _⟩
      · exact ⟨by show 1 ≤ 1000; decide, (k.ev e1).go⟩
      · omega
    · have c3 : pl ≤ (rows.length : Int) := by simpa using c2
      rcases hcase with ⟨hn, _⟩ | ⟨j, rfl, hj, k⟩
      · exact absurd ⟨c1, c3⟩ hn
      walk_at "rd"
      refine ⟨RgOk.of_le (by omega) (by omega) (by omega) (by omega), fun p1 hp1 => ?_⟩
      rw [rg_take hj]
      generalize hXX : upd _ p1 _ = H2
      obtain ⟨e2, h2⟩ := new_facts (TS := TS) hXX hp1
      clear hXX
      walk_at "rs"
      walk_at "rd"
      refine ⟨by show 1 ≤ sizeLine; decide, fun p2 hp2 => ?_⟩
      generalize hXX : upd _ p2 _ = H3
      obtain ⟨e3, h3⟩ := new_facts (TS := TS) hXX hp2
      clear hXX
      walk_at "rs"
      walk_at "rd"
      refine ⟨r, ws, rfl, .inr (SqT.of (by walk_at "t")), ?_⟩
      refine a_rep (TS := TS) h3 (by omega) fun p3 H4 hp3 e4 h4 => ?_
      refine a_cat (TS := TS) (xs := ((stillM rows.length).take j).map V.int) (by walk_at "t") h4 (by rw [List.length_map, List.length_map, List.length_take, List.length_replicate]; exact le_line (show min j (stillM rows.length).length + ws.length ≤ 100000 by omega)) fun p4 H5 hp4 e5 h5 => ?_
      walk_at "rd"
      refine ⟨RgOk.of_le (by omega) (by omega) (by omega) (by omega), fun p5 hp5 => ?_⟩
      rw [rg_drop hj]
      generalize hXX : upd _ p5 _ = H6
      obtain ⟨e6, h6'⟩ := new_facts (TS := TS) hXX hp5
      clear hXX
      walk_at "rs"
      refine a_cat (TS := TS) (xs := ((stillM rows.length).take j).map V.int ++ (List.replicate ws.length (-1)).map V.int) (by walk_at "t") h6' (by rw [List.length_append, List.length_map, List.length_map, List.length_map, List.length_take, List.length_drop, List.length_replicate, stillM_length]; exact le_line (show min j rows.length + ws.length + (rows.length - j) ≤ 100000 by omega)) fun p6 H7 hp6 e7 h7 => ?_
      rw [add_map] at h7
      walk_at "rd"
      refine ⟨a, dx, _, rfl, (by walk_at "t"), kfs_no qn qh (by decide +kernel) (by decide +kernel), ?_⟩
      walk_at "rd"
      refine fun m dm nm nd _ => move_ok (TS := TS) nm nd (.inl (SqL.of h7)) (add_ok hj ws.length) (by rw [add_length hj]; omega) fun H8 e8 hm8 => ?_
      walk_at "rd"
      refine ⟨a, qh, m, r, nms, rows, new, addM rows.length j ws.length, rfl, (by walk_at "t"), hm8, add_ok hj ws.length, by rw [add_length hj]; omega, (by walk_at "t"), by rw [gaps_add, hnl], fun qh' H9 nq e9 kq9 => ?_⟩
      rw [apply_add hj rfl hnl] at kq9
      exact k new m qh' H9 hrt hwf hnl (by walk_at "na") (by walk_at "na") (by walk_at "e") kq9 (by walk_at "t")
  · have c1 : ¬ 0 ≤ pl := fun z => c (decide_eq_true z)
    walk_at "rd"
    rcases hcase with ⟨_, k⟩ | ⟨j, rfl, hj, _⟩
    · exact ⟨by show 1 ≤ 1000; decide, (k.ev e1).go⟩
    · omega
/-- add as it is called: some rows, at by name or left out -/
def spAdd (K : PySem.W.Frag) (TS : List (Addr × Str)) (CK C CBR CNP : Addr) (at_ : V) : Sp := fun vs H Q E => ∃ (a qh : Addr) (nms : List Str) (rows : List (List Int)) (ws : List V), vs = .ref a :: ws ∧ KQ CK H a qh nms rows ∧ nms.length ≤ 6 ∧ rows.length ≤ 1000 ∧ RowVs H nms.length ws ∧ ws.length ≤ 1000 ∧
  ((∃ (j : Nat) (x : V), ws[j]? = some x ∧ OdR H nms.length x ∧ (∀ (i : Nat) (y : V), i < j → ws[i]? = some y → GoodR H nms.length y) ∧ Rz TS H E CBR [("at", .int (j : Int))]) ∨
   ((∀ x ∈ ws, GoodR H nms.length x) ∧ ((∃ i : Int, at_ = .int i ∧ ¬ (0 ≤ i ∧ i ≤ (rows.length : Int)) ∧ Rz TS H E CNP [("place", .int i)]) ∨
     (∃ j : Nat, ((at_ = .non ∧ j = rows.length) ∨ at_ = .int (j : Int)) ∧ j ≤ rows.length ∧ ∀ new t m qh' H', RT H' t new → H' t = some (.tup ws) → WF nms.length new → new.length = ws.length → NA H m → NA H qh' → Ev TS [a] H H' → KQ CK H' a qh' nms (rows.take j ++ new ++ rows.drop j) → MoveAt K C H' m rows.length (addM rows.length j ws.length) → Q (.ref m) H'))))
theorem add_imp {H : Hp} {Q : VK} {E : XK} {vs : List V} {at_ : V} (h : spAdd K TS CK C CBR CNP at_ vs H Q E) : ∃ (a : V) (ws : List V), vs = [a] ++ ws ∧ ws.length ≤ sizeLine ∧ ∀ p, H p = none → spAddB K TS CK C CBR CNP ([a] ++ [at_, .ref p]) (upd H p (.tup ws)) Q E := by
  obtain ⟨a, qh, nms, rows, ws, rfl, kq, h6, h1000, hrv, hwl, hv⟩ := h
  refine ⟨.ref a, ws, rfl, le_line (by omega), fun p hp => ?_⟩
  generalize hXX : upd _ p _ = H1
  obtain ⟨e1, h1⟩ := new_facts (TS := TS) hXX hp
  clear hXX
  walk_at "rs"
  refine ⟨a, qh, p, at_, nms, rows, ws, rfl, (by walk_at "t"), h6, h1000, h1, (by walk_at "t"), hwl, ?_⟩
  rcases hv with ⟨j, x, hx, ho, hlt, k⟩ | ⟨hgd, ⟨i, e, hi, k⟩ | ⟨j, hj1, hj, k⟩⟩
  · exact .inl ⟨j, x, hx, (by walk_at "t"), fun i y hi hy => ev_goodR e1 (hlt i y hi hy), k.ev e1⟩
  · exact .inr ⟨fun x hx => ev_goodR e1 (hgd x hx), .inl ⟨i, e, hi, k.ev e1⟩⟩
  · refine .inr ⟨fun x hx => ev_goodR e1 (hgd x hx), .inr ⟨j, hj1, hj, fun new m qh' H' hrt hwf hnl nm nq e2 kq2 hm2 => ?_⟩⟩
    exact k new p m qh' H' (by walk_at "t") (by walk_at "t") hwf hnl (by walk_at "na") (by walk_at "na") (by walk_at "e") kq2 hm2
theorem ok_addK {f D : Addr} {oc doc pm cdv ct : Value} {od an : Option Addr} {osl : Array (Option Value)} (lk : K.lookup f = some ⟨oc, od, .func (PySem.W.fnOf "add" "Keeper.add" (defArgs s_k_add) (defBody s_k_add) (defScope s_k_add) .none (.ref D) doc pm an cdv ct), osl⟩) (hcd : PySem.W.codeIn K cdv "Keeper.add" = true)
    (T : TxtKe K mg KPT CK) (MMove : Ml P w K mg base CX0 1 "Move" C (spInit K C)) (MKmoved : Me P w K mg base CX0 4 CK "moved" (spMoved K TS CK C)) (XNoPlace : Xc P w K mg base 1 "NoPlace" CNP ["place"]) (Dcrows : Cl P w K mg base (L2.CX P w) 4 "check_rows" (spCRowsX K TS CBR)) :
    FnK P w K mg base (L2.CX P w) 5 f ["at"] (fun zs vs H Q E => ∃ z, zs = [z] ∧ spAdd K TS CK C CBR CNP z vs H Q E) := by
  have F := fn_starK (CX := L2.CX P w) (ps := ["self"]) (kn := "at") (pv := "rows") lk hcd sc_k_add cxUp (fun us rest v hl => match us, rest, hl with | [_], [], _ => rfl | [_], _ :: _, _ => rfl) (add_body T MMove MKmoved XNoPlace Dcrows)
  intro A outer s H us ws vs zs Q E hr e0 r rz hl h
  obtain ⟨z, e1, h⟩ := h
  obtain ⟨a, wz, e2, e3, e4⟩ := add_imp h
  exact F A outer s H us ws vs zs Q E hr e0 r rz hl ⟨[a], wz, z, e1, e2, rfl, e3, e4⟩
theorem ok_addD {f D : Addr} {oc doc pm cdv ct : Value} {od an : Option Addr} {osl : Array (Option Value)} (lk : K.lookup f = some ⟨oc, od, .func (PySem.W.fnOf "add" "Keeper.add" (defArgs s_k_add) (defBody s_k_add) (defScope s_k_add) .none (.ref D) doc pm an cdv ct), osl⟩) (hcd : PySem.W.codeIn K cdv "Keeper.add" = true) (hD : PySem.W.nsIn K D "at" = some (some .none))
    (T : TxtKe K mg KPT CK) (MMove : Ml P w K mg base CX0 1 "Move" C (spInit K C)) (MKmoved : Me P w K mg base CX0 4 CK "moved" (spMoved K TS CK C)) (XNoPlace : Xc P w K mg base 1 "NoPlace" CNP ["place"]) (Dcrows : Cl P w K mg base (L2.CX P w) 4 "check_rows" (spCRowsX K TS CBR)) :
    FnR P w K mg base (L2.CX P w) 5 f (spAdd K TS CK C CBR CNP .non) := by
  have F := fn_starD (CX := L2.CX P w) (ps := ["self"]) (kn := "at") (pv := "rows") (dv := .non) lk hcd sc_k_add cxUp hD rfl (fun us rest hl => match us, rest, hl with | [_], [], _ => ⟨_, _, _, _, _, _, rfl, rfl, rfl⟩ | [_], _ :: _, _ => ⟨_, _, _, _, _, _, rfl, rfl, rfl⟩) (add_body T MMove MKmoved XNoPlace Dcrows)
  intro A outer s H us vs Q E hr e0 r h
  obtain ⟨a, wz, e2, e3, e4⟩ := add_imp h
  exact F A outer s H us vs Q E hr e0 r ⟨[a], wz, e2, rfl, e3, e4⟩
end
end MV

namespace MV
open PySem PySem.Spec PyProof.Rows L2 SB MM LamX StX
local macro_rules | `(tactic| walk_at "rd") => `(tactic| repeat (first | (refine ⟨_, rfl, ?_⟩) | (refine ⟨_, _, rfl, rfl, ?_⟩) | (refine ⟨_, _, rfl, ?_⟩) | (refine ⟨rfl, ?_⟩) | (with_reducible refine st_nil ?_) | (with_reducible refine st_cons ?_) | (with_reducible refine st_C ?_)))
local macro_rules | `(tactic| walk_at "isL") => `(tactic| first | assumption | (apply isL.of; assumption) | (apply isL.bag; assumption) | (apply isL.lr; assumption) | (apply KQ.isL; assumption) | (apply isL.ev; assumption; walk_at "isL"))
local macro_rules | `(tactic| walk_at "isI") => `(tactic| first | assumption | (apply isI.of; assumption) | (apply KQ.isI; assumption) | (apply MoveAt.isI; assumption) | (apply isI.ev; assumption; walk_at "isI"))
local macro_rules | `(tactic| walk_at "al") => `(tactic| first | assumption | (apply isL.al; walk_at "isL") | (apply isI.al; walk_at "isI") | (apply Al.dK; assumption) | (apply Al.dT; assumption) | (apply Al.ev; assumption; walk_at "al"))
local macro_rules | `(tactic| walk_at "ne") => `(tactic| first | (apply NeH.of; assumption) | (apply NeH.ofs; assumption) | (apply neLI; walk_at "isL"; walk_at "isI") | (apply neIL; walk_at "isI"; walk_at "isL") | (apply Al.ne; assumption; walk_at "al") | (apply Al.ens; assumption; walk_at "al") | (apply NA.ne; assumption; walk_at "al") | (apply NA.ens; assumption; walk_at "al"))
local macro_rules | `(tactic| walk_at "nin") => `(tactic| first | exact trivial | (refine And.intro ?_ ?_; walk_at "ne"; walk_at "nin"))
local macro_rules | `(tactic| walk_at "t") => `(tactic| first | assumption | (apply ev_tup; assumption; walk_at "t") | (apply ev_lst; assumption; walk_at "t"; walk_at "nin") | (apply ev_ins; assumption; walk_at "t"; walk_at "nin") | (apply ev_dK; assumption; walk_at "t"; walk_at "nin") | (apply ev_dT; assumption; walk_at "t"; walk_at "nin") | (apply ev_ra; assumption; walk_at "t") | (apply ev_bag; assumption; walk_at "t"; walk_at "nin") | (apply ev_lr; assumption; walk_at "t"; walk_at "nin") | (apply ev_kq; assumption; walk_at "t"; walk_at "nin"; walk_at "nin") | (apply ev_tabs; assumption; walk_at "t") | (apply ev_fzT; assumption; walk_at "t") | (apply ev_od; assumption; walk_at "t") | (apply ev_odR; assumption; walk_at "t") | (apply ev_cels; assumption; walk_at "t") | (apply ev_move; assumption; walk_at "t"; walk_at "nin") | (apply ev_rt; assumption; walk_at "t") | (apply ev_goodR; assumption; walk_at "t") | (apply ev_rowvs; assumption; walk_at "t") | (apply ev_dm; assumption; walk_at "t")  | (apply SqL.of; walk_at "t") | (apply SqT.of; walk_at "t") | (apply ev_sqT; assumption; walk_at "t") | (apply ev_sqL; assumption; walk_at "t"; walk_at "nin"))
local macro_rules | `(tactic| walk_at "le") => `(tactic| first | exact Le.refl _ | (apply Le.ev; assumption; walk_at "le"))
local macro_rules | `(tactic| walk_at "om") => `(tactic| first | exact Or.inl (List.mem_cons_self) | exact Or.inl (List.mem_cons_of_mem _ List.mem_cons_self) | exact Or.inl (List.mem_cons_of_mem _ (List.mem_cons_of_mem _ List.mem_cons_self)) | (apply Or.inr; apply nal0; assumption) | (apply Or.inr; apply Le.nal; assumption; walk_at "le") | (apply Or.inr; apply Le.na; assumption; walk_at "le"))
local macro_rules | `(tactic| walk_at "out") => `(tactic| first | exact trivial | (refine And.intro ?_ ?_; walk_at "om"; walk_at "out"))
local macro_rules | `(tactic| walk_at "e") => `(tactic| first | assumption | exact Ev.refl _ _ | (apply Ev.trans'; assumption; walk_at "e"; walk_at "out"))
local macro_rules | `(tactic| walk_at "c") => `(tactic| dsimp only [tNil, tCons, tC])
local macro_rules | `(tactic| walk_at "na") => `(tactic| first | assumption | (apply NA.of; assumption) | (apply Le.nal; assumption; walk_at "le") | (apply Le.na; assumption; walk_at "le"))
local macro_rules | `(tactic| walk_at "rs") => `(tactic| repeat (first | (with_reducible refine st_nil ?_) | (with_reducible refine st_cons ?_) | (with_reducible refine st_C ?_)))
local macro_rules | `(tactic| walk_at "rv") => `(tactic| repeat (first | (refine ⟨_, rfl, ?_⟩) | (with_reducible refine st_nil ?_) | (with_reducible refine st_cons ?_) | (with_reducible refine st_C ?_)))
local macro_rules | `(tactic| walk_at "if") => `(tactic| first | refine ifT rfl ?_ | refine ifF rfl ?_ | skip)
abbrev s_k_drop : Stmt := inClass (top 27) 21
/-- the first place of drop that is wrong -/
def WrongAt (t : Nat) (ds : List Int) (j : Nat) : Prop := ∃ d, ds[j]? = some d ∧ (d ∈ ds.take j ∨ ¬ (0 ≤ d ∧ d < (t : Int)))
def spDropB (K : PySem.W.Frag) (TS : List (Addr × Str)) (CK C CNP : Addr) : Sp := fun vs H Q E => ∃ (a qh r : Addr) (nms : List Str) (rows : List (List Int)) (ds : List Int), vs = [.ref a, .ref r] ∧ KQ CK H a qh nms rows ∧ rows.length ≤ 1000 ∧ H r = some (.tup (ds.map V.int)) ∧ ds.length ≤ 1000 ∧
  ((∃ (j : Nat) (d : Int), ds[j]? = some d ∧ WrongAt rows.length ds j ∧ (∀ i, i < j → ¬ WrongAt rows.length ds i) ∧ Rz TS H E CNP [("place", .int d)]) ∨
   ((∀ i, ¬ WrongAt rows.length ds i) ∧ ∀ m qh' H', NA H m → NA H qh' → Ev TS [a] H H' → KQ CK H' a qh' nms (applyM (dropM rows.length ds) rows []) → MoveAt K C H' m rows.length (dropM rows.length ds) → Q (.ref m) H'))
def spDrop (K : PySem.W.Frag) (TS : List (Addr × Str)) (CK C CNP : Addr) : Sp := fun vs H Q E => ∃ (a qh : Addr) (nms : List Str) (rows : List (List Int)) (ds : List Int), vs = .ref a :: ds.map V.int ∧ KQ CK H a qh nms rows ∧ rows.length ≤ 1000 ∧ ds.length ≤ 1000 ∧
  ((∃ (j : Nat) (d : Int), ds[j]? = some d ∧ WrongAt rows.length ds j ∧ (∀ i, i < j → ¬ WrongAt rows.length ds i) ∧ Rz TS H E CNP [("place", .int d)]) ∨
   ((∀ i, ¬ WrongAt rows.length ds i) ∧ ∀ m qh' H', NA H m → NA H qh' → Ev TS [a] H H' → KQ CK H' a qh' nms (applyM (dropM rows.length ds) rows []) → MoveAt K C H' m rows.length (dropM rows.length ds) → Q (.ref m) H'))
section
variable {P : Program} {w : World} {K : PySem.W.Frag} {mg : Str → Option Value} {base : Heap} {KPT CK C CNP : Addr} {TS : List (Addr × Str)}
theorem sc_k_drop : FnScope ["self", "places", "seen", "place", "at"] ["self", "places"] (defScope s_k_drop) := ⟨rfl, rfl, rfl, by decide +kernel, rfl, by decide +kernel, by decide +kernel⟩
theorem drop_body {f : Addr} {cdv : Value} (T : TxtKe K mg KPT CK) (SMkeeping : Sm P w K mg base CX0 3 "Move" "keeping" (spKeeping K C)) (MKmoved : Me P w K mg base CX0 4 CK "moved" (spMoved K TS CK C)) (XNoPlace : Xc P w K mg base 1 "NoPlace" CNP ["place"])
    (A : Around) (outer : List Env) (s : Shared) (H : Hp) (vs : List V) (Q : VK) (E : XK) (hr : Room 4 (A.deeper (envOfC "Keeper.drop" (defScope s_k_drop) s.heap.objs.size f cdv))) (h : spDropB K TS CK C CNP vs H Q E) :
    ∃ t, PSs (cxOf (L2.CX P w) P w K mg base ["self", "places", "seen", "place", "at"] "Keeper.drop" (defScope s_k_drop) f cdv A outer s H E) (defBody s_k_drop) t ∧ t { nx := fun _ H' => Q .non H', rt := Q } (start ["self", "places", "seen", "place", "at"] vs) H := by
  obtain ⟨a, qh, r, nms, rows, ds, rfl, kq, h1000, hrd, hdl, hv⟩ := h
  obtain ⟨dx, qn, rs, ha, hqn, hqh, ra, ers⟩ := id kq
  have lrs : rs.length = rows.length := by rw [← ers, List.length_map]
  refine ⟨_, (pss_cons (ps_set (i := 2) sc_k_drop.nd rfl (Or.inr rfl) pe_dnewK)
      (pss_cons (ps_for (passes_of rfl) rfl (pi_tup (pv 1)) (pg_name (i := 3) sc_k_drop.nd rfl (Or.inl rfl))
        (pss_cons (ps_if (PW.pt (pw_or (pt_cmp (pc_din (hu_of hr) (pv 3) (pv 2))) (pw_or1 (pt_not (pt_chain op_le op_lt pe_int (pv 3) (pe_callB call_len_seq (by rfl) T.n_len (by decide +kernel) (pa_cons (pe_fld (pv 0) (by rfl)) pa_nil))))))) (pss_one (ps_raise rfl (takes_of rfl rfl rfl rfl) (pmk_x XNoPlace hr (by decide) (by rfl) (pa_cons (pv 3) pa_nil)))) pss_nil)
        (pss_one (ps_dput (hu_of hr) (pv 2) (pv 3) pe_bl rfl))))
      (pss_one (ps_ret (pe_mo (pv 0) T.ck MKmoved hr (by decide) pass0 (pa_cons (pe_sm SMkeeping hr (by decide) (by rfl) pass0 (pa_cons (pe_lc (own := [("at", 4)]) (by rfl) sc_k_drop.nd (pi_range1 (by rfl) T.n_range (pa_cons (pe_callB call_len_seq (by rfl) T.n_len (by decide +kernel) (pa_cons (pe_fld (pv 0) (by rfl)) pa_nil)) pa_nil)) (blkOk_by (own := [("at", 4)]) (N := ["self", "places", "seen", "place", "at"]) (sc := defScope s_k_drop) (by first | decide +kernel | kernel_rfl)) (fun _ _ _ _ _ => (pg_name (i := 4) sc_k_drop.nd rfl (Or.inl rfl))) (fun _ _ _ _ _ => by exact pts_nil) (fun _ _ _ _ _ => by exact (pe_cmp (pc_dnotin (hu_of hr) (pv 4) (pv 2))))) pa_nil)) (pa_cons (pe_tup pa_nil) pa_nil))))))), ?_⟩
  refine fun d hd => ?_
  generalize hXX : upd _ d _ = H1
  obtain ⟨e1, h1⟩ := new_facts (TS := TS) hXX hd
  clear hXX
  walk_at "rs"
  walk_at "rd"
  refine ⟨⟨ds.map V.int, SqT.of (by walk_at "t")⟩, ?_⟩
  refine for_it (walk_tup (xs := ds.map V.int)) (fun i σ H' => ∃ (v3 : Option V) (kvs : List (Key × V)), σ = [some (.ref a), some (.ref r), some (.ref d), v3, none] ∧ Ev TS [] H H' ∧ H' d = some (.dK kvs) ∧ kvs.length ≤ i ∧ (∀ p : Int, (valV kvs (Sum.inl p)).isSome = decide (p ∈ ds.take i)) ∧ ∀ m, m < i → ¬ WrongAt rows.length ds m) ⟨none, [], rfl, e1, h1, Nat.le_refl _, fun p => by simp [valV_nil], fun m hm => absurd hm (Nat.not_lt_zero _)⟩ (fun i σ H' _ ⟨_, _, _, eI, _⟩ => SqT.of (by walk_at "t")) ?_ ?_
  · rintro i x σ H2 H3 hi ⟨v3, kvs, rfl, eI, hd2, hkl, hval, hrt⟩ ⟨rfl, hx⟩
    rw [List.length_map] at hi
    rw [List.getElem?_map] at hx
    obtain ⟨di, hdi, rfl⟩ := Option.map_eq_some_iff.mp hx
    have ha2 : H3 a = some (.ins CK dx (kfs qn qh)) := (by walk_at "t")
    have hq2 : H3 qh = some (.lst (rs.map refR)) := (by walk_at "t")
    have bad : WrongAt rows.length ds i → (1 : Nat) ≤ 1000 ∧ ∀ dd, H3 dd = none → E (.ref CNP) (some dd) (upd H3 dd (.xd [("place", .int di)])) := fun hw => by
      rcases hv with ⟨j, d0, hj, hwj, hlt, k⟩ | ⟨hno, _⟩
      · have ej : j = i := by
          rcases Nat.lt_trichotomy j i with z | z | z
          · exact absurd hwj (hrt j z)
          · exact z
          · exact absurd hw (hlt i z)
        subst ej
        rw [hdi] at hj
        cases hj
        exact ⟨by decide, (k.ev eI).go⟩
      · exact absurd hw (hno i)
    walk_at "rd"
    refine ⟨d, _, rfl, DGet.k (k := Sum.inl di) hd2, _, rfl, ?_⟩
    rw [hval di]
    by_cases c0 : di ∈ ds.take i
    · rw [decide_eq_true c0]
      walk_at "rd"
      exact bad ⟨di, hdi, .inl c0⟩
    · rw [decide_eq_false c0]
      walk_at "rd"
      refine ite2 (fun c => ?_) (fun c => ?_)
      · have c1 : 0 ≤ di := of_decide_eq_true c
        walk_at "rd"
        refine ⟨a, CK, dx, _, _, rfl, ha2, T.ck, T.nh, kfs_held _ _, ?_⟩
        refine ⟨qh, _, rfl, .inl (SqL.of hq2), ?_⟩
        rw [List.length_map, lrs]
        walk_at "rd"
        refine ite2 (fun c2 => ?_) (fun c2 => ?_)
        · have c3 : ¬ di < (rows.length : Int) := by simpa using c2
          walk_at "rd"
          exact bad ⟨di, hdi, .inr fun z => c3 z.2⟩
        · have c3 : di < (rows.length : Int) := by simpa using c2
          walk_at "rd"
          refine ⟨d, _, rfl, DPut.k (k := Sum.inl di) hd2 (lt_line (by omega)), ?_⟩
          generalize hXX : upd _ d _ = H4
          obtain ⟨e4, h4⟩ := setD_facts (TS := TS) hXX hd2
          clear hXX
          walk_at "rs"
          have tk : ds.take (i + 1) = ds.take i ++ [di] := by rw [List.take_add_one, hdi]; rfl
          refine ⟨_, _, rfl, (by walk_at "e"), h4, ?_, fun p => ?_, fun m hm => ?_⟩
          · have := length_putK kvs (Sum.inl di) (V.bl true)
            omega
          · rw [valV_put, tk]
            by_cases e : (Sum.inl p : Key) = Sum.inl di
            · have e' : p = di := Sum.inl.inj e
              subst e'
              rw [if_pos rfl, decide_eq_true (List.mem_append_right _ (List.mem_singleton_self _))]
              rfl
            · rw [if_neg e, hval p]
              refine decide_eq_decide.mpr ⟨fun z => List.mem_append_left _ z, fun z => ?_⟩
              rcases List.mem_append.mp z with z | z
              · exact z
              · exact absurd (by rw [List.mem_singleton.mp z]) e
          · rcases Nat.lt_succ_iff_lt_or_eq.mp hm with z | z
            · exact hrt m z
            · subst z
              rintro ⟨d0, h0, hw⟩
              rw [hdi] at h0
              cases h0
              rcases hw with hw | hw
              · exact c0 hw
              · exact hw ⟨c1, c3⟩
      · have c1 : ¬ 0 ≤ di := fun z => c (decide_eq_true z)
        walk_at "rd"
        exact bad ⟨di, hdi, .inr fun z => c1 z.1⟩
  · rintro σ H2 ⟨v3, kvs, rfl, eI, hd2, hkl, hval, hrt⟩
    rw [List.length_map] at hval hrt
    rw [List.take_length] at hval
    have hall : ∀ i, ¬ WrongAt rows.length ds i := fun i hw => by
      obtain ⟨d0, h0, _⟩ := id hw
      exact hrt i (List.getElem?_eq_some_iff.mp h0).1 hw
    have k : ∀ m qh' H', NA H m → NA H qh' → Ev TS [a] H H' → KQ CK H' a qh' nms (applyM (dropM rows.length ds) rows []) → MoveAt K C H' m rows.length (dropM rows.length ds) → Q (.ref m) H' := by
      rcases hv with ⟨j, d0, hj, hwj, _⟩ | ⟨_, k⟩
      · exact absurd hwj (hall j)
      · exact k
    walk_at "rd"
    refine ⟨a, dx, _, rfl, (by walk_at "t"), kfs_no qn qh (by decide +kernel) (by decide +kernel), ?_⟩
    walk_at "rd"
    refine ⟨a, CK, dx, _, _, rfl, (by walk_at "t"), T.ck, T.nh, kfs_held qn qh, ?_⟩
    refine ⟨qh, rs.map refR, rfl, .inl (SqL.of (by walk_at "t")), ?_⟩
    rw [List.length_map, lrs]
    walk_at "rd"
    refine ⟨by omega, by omega, fun D hD => ?_⟩
    rw [Int.toNat_natCast]
    refine lc_ev (TS := TS) walk_range hD (fun j acc H3 => Ev TS [] H2 H3 ∧ acc = ((List.range j).map fun i : Nat => !decide ((i : Int) ∈ ds)).map V.bl) (fun H3 e3 h3 => ⟨e3, rfl⟩) (fun _ _ _ _ _ _ => trivial) ?_ ?_
    · rintro j x acc H3 H4 hj ⟨e3, rfl⟩ hD3 ⟨rfl, rfl⟩
      walk_at "rd"
      have hd3 : H4 d = some (.dK kvs) := (by walk_at "t")
      refine ⟨d, _, rfl, DGet.k (k := Sum.inl (0 + (j : Int))) hd3, ?_⟩
      rw [hval]
      refine lc_put (TS := TS) (acc := ((List.range j).map fun i : Nat => !decide ((i : Int) ∈ ds)).map V.bl) (by walk_at "t") (by rw [List.length_map, List.length_map, List.length_range]; exact lt_line (by omega)) fun H6 e6 h6 => ⟨(by walk_at "e"), ?_⟩
      rw [List.range_succ, List.map_append, List.map_append, Int.zero_add]
      rfl
    · rintro acc H3 ⟨e3, rfl⟩ hD3
      walk_at "rd"
      refine keeping_ok (TS := TS) hD3 (by rw [List.length_map, List.length_range]; omega) fun m H4 nm e4 hm4 => ?_
      rw [List.length_map, List.length_range, keep_drop] at hm4
      walk_at "rd"
      refine ⟨by show 0 ≤ sizeLine; decide, fun t ht => ?_⟩
      generalize hXX : upd _ t _ = H5
      obtain ⟨e5, h5⟩ := new_facts (TS := TS) hXX ht
      clear hXX
      walk_at "rs"
      have okd : MoveOk rows.length (dropM rows.length ds) := ok_filter _
      have hdl : (dropM rows.length ds).length ≤ rows.length := drop_length
      refine ⟨a, qh, m, t, nms, rows, [], dropM rows.length ds, rfl, (by walk_at "t"), (by walk_at "t"), okd, by omega, RT.nil h5, ?_, fun qh' H6 nq e6 kq6 => ?_⟩
      · rw [gaps_none (fun p hp => (drop_nonneg p hp).1)]
        rfl
      · exact k m qh' H6 (by walk_at "na") (by walk_at "na") (by walk_at "e") kq6 (by walk_at "t")
theorem ok_drop {f : Addr} {fd : FuncData} (F : Fun K "drop" "Keeper.drop" s_k_drop f fd) (T : TxtKe K mg KPT CK) (SMkeeping : Sm P w K mg base CX0 3 "Move" "keeping" (spKeeping K C)) (MKmoved : Me P w K mg base CX0 4 CK "moved" (spMoved K TS CK C)) (XNoPlace : Xc P w K mg base 1 "NoPlace" CNP ["place"]) :
    FnR P w K mg base (L2.CX P w) 5 f (spDrop K TS CK C CNP) := by
  obtain ⟨oc, od, kV, doc, pm, an, cdv, ct, osl, rfl, lk, hcd⟩ := F.ex
  have G := fn_star (CX := L2.CX P w) (ps := ["self"]) (pv := "places") lk hcd sc_k_drop cxUp (fun us rest hl => match us, rest, hl with | [_], [], _ => rfl | [_], _ :: _, _ => rfl) (drop_body T SMkeeping MKmoved XNoPlace)
  intro A outer s H us vs Q E hr e0 r h
  obtain ⟨a, qh, nms, rows, ds, rfl, kq, h1000, hdl, hv⟩ := h
  refine G A outer s H us _ Q E hr e0 r ⟨[.ref a], ds.map V.int, rfl, rfl, le_line (by rw [List.length_map]; omega), fun p hp => ?_⟩
  generalize hXX : upd _ p _ = H1
  obtain ⟨e1, h1⟩ := new_facts (TS := TS) hXX hp
  clear hXX
  walk_at "rs"
  refine ⟨a, qh, p, nms, rows, ds, rfl, (by walk_at "t"), h1000, h1, hdl, ?_⟩
  rcases hv with ⟨j, d, hj, hwj, hlt, k⟩ | ⟨hno, k⟩
  · exact .inl ⟨j, d, hj, hwj, hlt, k.ev e1⟩
  · exact .inr ⟨hno, fun m qh' H' nm nq e2 kq2 hm2 => k m qh' H' (by walk_at "na") (by walk_at "na") (by walk_at "e") kq2 hm2⟩
end
end MV

namespace MV
open PySem PySem.Spec PyProof.Rows L2 SB MM
local macro_rules | `(tactic| walk_at "rd") => `(tactic| repeat (first | (refine ⟨_, rfl, ?_⟩) | (refine ⟨_, _, rfl, rfl, ?_⟩) | (refine ⟨_, _, rfl, ?_⟩) | (refine ⟨rfl, ?_⟩)))
abbrev s_m_turning : Stmt := inClass (top 18) 12
section
variable {P : Program} {w : World} {K : PySem.W.Frag} {mg : Str → Option Value} {base : Heap} {C CN : Addr}
theorem sc_m_turning : FnScope ["count"] ["count"] (defScope s_m_turning) := ⟨rfl, rfl, rfl, by decide +kernel, rfl, by decide +kernel, by decide +kernel⟩
theorem ok_turning {f : Addr} {fd : FuncData} (F : Fun K "turning" "Move.turning" s_m_turning f fd) (T : TxtM K mg C) (MMove : Ml P w K mg base CX0 1 "Move" C (spInit K C)) : FnR P w K mg base CX0 3 f (spTurning K C) := by
  refine fnr F sc_m_turning (fun vs H Q E h => ?_) (fun _ _ _ _ _ _ us hl => match us, hl with | [_], _ => rfl) (fun cdv A outer s H vs Q E hr h => ?_)
  · obtain ⟨t, rfl, _⟩ := h
    rfl
  · obtain ⟨t, rfl, hz, k⟩ := h
    refine ⟨_, (pss_one (ps_ret (pe_ml MMove hr (by decide) (by rfl) pass0 (pa_cons (pv 0) (pa_cons (pe_listRg3 rfl (by rfl) T.n_list (by rfl) T.n_range (pa_cons (pe_op op_sub (pv 0) pe_int) (pa_cons (pe_un un_neg pe_int) (pa_cons (pe_un un_neg pe_int) pa_nil)))) pa_nil))))), ?_⟩
    walk_at "rd"
    refine ⟨_, _, _, _, rfl, RgC.neg (by omega) (by omega) (by omega) (by omega), by omega, fun p hp => ?_⟩
    have s1 := same_new (o := .lst ((turnM t).map V.int)) (Same.refl H) hp
    have e : rg3 ((t : Int) - 1) (-1) ((t : Int) - 1 - -1).toNat = (turnM t).map V.int := by
      have e0 : ((t : Int) - 1 - -1).toNat = t := by omega
      rw [e0]
      unfold rg3 turnM
      rw [List.map_map]
      apply List.map_congr_left
      intro i _
      show V.int ((t : Int) - 1 + (i : Int) * -1) = V.int ((t : Int) - 1 - (i : Int))
      congr 1
      omega
    rw [e]
    refine mk_move (.inl (SqL.of upd_same)) (turn_ok t) (by unfold turnM; simp; exact hz) fun H2 q e2 hq m => k H2 q (s1.trans e2) (s1.free hq) m
end
end MV

namespace MV
open PySem PySem.Spec PyProof.Rows L2 SB MM
local macro_rules | `(tactic| walk_at "rd") => `(tactic| repeat (first | (refine ⟨_, rfl, ?_⟩) | (refine ⟨_, _, rfl, rfl, ?_⟩) | (refine ⟨_, _, rfl, ?_⟩) | (refine ⟨rfl, ?_⟩)))
section
variable {P : Program} {w : World} {K : PySem.W.Frag} {mg : Str → Option Value} {base : Heap} {C : Addr}
theorem sc_m_still : FnScope ["count"] ["count"] (defScope s_m_still) := ⟨rfl, rfl, rfl, by decide +kernel, rfl, by decide +kernel, by decide +kernel⟩
theorem ok_still {f : Addr} {fd : FuncData} (F : Fun K "still" "Move.still" s_m_still f fd) (T : TxtM K mg C) (MMove : Ml P w K mg base CX0 1 "Move" C (spInit K C)) : FnR P w K mg base CX0 3 f (spStill K C) := by
  refine fnr F sc_m_still (fun vs H Q E h => ?_) (fun _ _ _ _ _ _ us hl => match us, hl with | [_], _ => rfl) (fun cdv A outer s H vs Q E hr h => ?_)
  · obtain ⟨t, rfl, _⟩ := h
    rfl
  · obtain ⟨t, rfl, hz, k⟩ := h
    refine ⟨_, (pss_one (ps_ret (pe_ml MMove hr (by decide) (by rfl) pass0 (pa_cons (pv 0) (pa_cons (pe_listRg rfl (by rfl) T.n_list (prg_1 (by rfl) T.n_range (pv 0))) pa_nil))))), ?_⟩
    walk_at "rd"
    refine ⟨RgOk.of_le (by omega) (by omega) (by omega) (by omega), fun p hp => ?_⟩
    have s1 := same_new (o := .lst (rgV 0 (t : Int))) (Same.refl H) hp
    have e : rgV 0 (t : Int) = (stillM t).map V.int := by
      unfold rgV stillM
      simp
    refine mk_move (.inl (SqL.of (by rw [upd_same, e]))) (still_ok t) (by rw [stillM_length]; exact hz) fun H2 q e2 hq m => k H2 q (s1.trans e2) (s1.free hq) m
end
end MV

namespace MV
open PySem PySem.Spec PyProof.Rows L2 SB MM LamX StX
local macro_rules | `(tactic| walk_at "rd") => `(tactic| repeat (first | (refine ⟨_, rfl, ?_⟩) | (refine ⟨_, _, rfl, rfl, ?_⟩) | (refine ⟨_, _, rfl, ?_⟩) | (refine ⟨rfl, ?_⟩) | (with_reducible refine st_nil ?_) | (with_reducible refine st_cons ?_) | (with_reducible refine st_C ?_)))
local macro_rules | `(tactic| walk_at "isL") => `(tactic| first | assumption | (apply isL.of; assumption) | (apply isL.bag; assumption) | (apply isL.lr; assumption) | (apply KQ.isL; assumption) | (apply isL.ev; assumption; walk_at "isL"))
local macro_rules | `(tactic| walk_at "isI") => `(tactic| first | assumption | (apply isI.of; assumption) | (apply KQ.isI; assumption) | (apply MoveAt.isI; assumption) | (apply isI.ev; assumption; walk_at "isI"))
local macro_rules | `(tactic| walk_at "al") => `(tactic| first | assumption | (apply isL.al; walk_at "isL") | (apply isI.al; walk_at "isI") | (apply Al.dK; assumption) | (apply Al.dT; assumption) | (apply Al.ev; assumption; walk_at "al"))
local macro_rules | `(tactic| walk_at "ne") => `(tactic| first | (apply NeH.of; assumption) | (apply NeH.ofs; assumption) | (apply neLI; walk_at "isL"; walk_at "isI") | (apply neIL; walk_at "isI"; walk_at "isL") | (apply Al.ne; assumption; walk_at "al") | (apply Al.ens; assumption; walk_at "al") | (apply NA.ne; assumption; walk_at "al") | (apply NA.ens; assumption; walk_at "al"))
local macro_rules | `(tactic| walk_at "nin") => `(tactic| first | exact trivial | (refine And.intro ?_ ?_; walk_at "ne"; walk_at "nin"))
local macro_rules | `(tactic| walk_at "t") => `(tactic| first | assumption | (apply ev_tup; assumption; walk_at "t") | (apply ev_lst; assumption; walk_at "t"; walk_at "nin") | (apply ev_ins; assumption; walk_at "t"; walk_at "nin") | (apply ev_dK; assumption; walk_at "t"; walk_at "nin") | (apply ev_dT; assumption; walk_at "t"; walk_at "nin") | (apply ev_ra; assumption; walk_at "t") | (apply ev_bag; assumption; walk_at "t"; walk_at "nin") | (apply ev_lr; assumption; walk_at "t"; walk_at "nin") | (apply ev_kq; assumption; walk_at "t"; walk_at "nin"; walk_at "nin") | (apply ev_tabs; assumption; walk_at "t") | (apply ev_fzT; assumption; walk_at "t") | (apply ev_od; assumption; walk_at "t") | (apply ev_odR; assumption; walk_at "t") | (apply ev_cels; assumption; walk_at "t") | (apply ev_move; assumption; walk_at "t"; walk_at "nin") | (apply ev_rt; assumption; walk_at "t") | (apply ev_goodR; assumption; walk_at "t") | (apply ev_rowvs; assumption; walk_at "t") | (apply ev_dm; assumption; walk_at "t")  | (apply SqL.of; walk_at "t") | (apply SqT.of; walk_at "t") | (apply ev_sqT; assumption; walk_at "t") | (apply ev_sqL; assumption; walk_at "t"; walk_at "nin"))
local macro_rules | `(tactic| walk_at "le") => `(tactic| first | exact Le.refl _ | (apply Le.ev; assumption; walk_at "le"))
local macro_rules | `(tactic| walk_at "om") => `(tactic| first | exact Or.inl (List.mem_cons_self) | exact Or.inl (List.mem_cons_of_mem _ List.mem_cons_self) | exact Or.inl (List.mem_cons_of_mem _ (List.mem_cons_of_mem _ List.mem_cons_self)) | (apply Or.inr; apply nal0; assumption) | (apply Or.inr; apply Le.nal; assumption; walk_at "le") | (apply Or.inr; apply Le.na; assumption; walk_at "le"))
local macro_rules | `(tactic| walk_at "out") => `(tactic| first | exact trivial | (refine And.intro ?_ ?_; walk_at "om"; walk_at "out"))
local macro_rules | `(tactic| walk_at "e") => `(tactic| first | assumption | exact Ev.refl _ _ | (apply Ev.trans'; assumption; walk_at "e"; walk_at "out"))
local macro_rules | `(tactic| walk_at "c") => `(tactic| dsimp only [tNil, tCons, tC])
local macro_rules | `(tactic| walk_at "na") => `(tactic| first | assumption | (apply NA.of; assumption) | (apply Le.nal; assumption; walk_at "le") | (apply Le.na; assumption; walk_at "le"))
local macro_rules | `(tactic| walk_at "rs") => `(tactic| repeat (first | (with_reducible refine st_nil ?_) | (with_reducible refine st_cons ?_) | (with_reducible refine st_C ?_)))
local macro_rules | `(tactic| walk_at "rv") => `(tactic| repeat (first | (refine ⟨_, rfl, ?_⟩) | (with_reducible refine st_nil ?_) | (with_reducible refine st_cons ?_) | (with_reducible refine st_C ?_)))
local macro_rules | `(tactic| walk_at "if") => `(tactic| first | refine ifT rfl ?_ | refine ifF rfl ?_ | skip)
abbrev s_k_turn : Stmt := inClass (top 27) 24
theorem turn_rev (t : Nat) : turnM t = ((List.range t).reverse).map fun i : Nat => (i : Int) := by
  unfold turnM
  apply List.ext_getElem?
  intro i
  rw [List.getElem?_map, List.getElem?_map]
  by_cases h : i < t
  · rw [List.getElem?_range h, List.getElem?_reverse (by rw [List.length_range]; exact h), List.length_range, List.getElem?_range (by omega)]
    show some ((t : Int) - 1 - (i : Int)) = some (((t - 1 - i : Nat)) : Int)
    congr 1
    omega
  · rw [List.getElem?_eq_none (by rw [List.length_range]; omega), List.getElem?_eq_none (by rw [List.length_reverse, List.length_range]; omega)]
    rfl
theorem apply_turn {α : Type} {t : Nat} {xs ys : List α} (h : xs.length = t) : applyM (turnM t) xs ys = xs.reverse := by
  rw [turn_rev, apply_nats, List.filterMap_reverse, range_get, ← h, List.take_length]
theorem turn_nonneg {t : Nat} : ∀ p ∈ turnM t, 0 ≤ p := fun p hp => by
  rw [turn_rev] at hp
  obtain ⟨i, _, rfl⟩ := List.mem_map.mp hp
  omega
theorem turn_length (t : Nat) : (turnM t).length = t := by
  unfold turnM
  rw [List.length_map, List.length_range]
def spTurn (K : PySem.W.Frag) (TS : List (Addr × Str)) (CK C : Addr) : Sp := fun vs H Q _ => ∃ (a qh : Addr) (nms : List Str) (rows : List (List Int)), vs = [.ref a] ∧ KQ CK H a qh nms rows ∧ rows.length ≤ 1000 ∧ ∀ m qh' H', NA H m → NA H qh' → Ev TS [a] H H' → KQ CK H' a qh' nms rows.reverse → MoveAt K C H' m rows.length (turnM rows.length) → Q (.ref m) H'
section
variable {P : Program} {w : World} {K : PySem.W.Frag} {mg : Str → Option Value} {base : Heap} {KPT CK C CM CBR : Addr} {TS : List (Addr × Str)}
theorem sc_k_turn : FnScope ["self"] ["self"] (defScope s_k_turn) := ⟨rfl, rfl, rfl, by decide +kernel, rfl, by decide +kernel, by decide +kernel⟩
theorem ok_turn {f : Addr} {fd : FuncData} (F : Fun K "turn" "Keeper.turn" s_k_turn f fd) (T : TxtKe K mg KPT CK) (SMturning : Sm P w K mg base CX0 3 "Move" "turning" (spTurning K C)) (MKmoved : Me P w K mg base CX0 4 CK "moved" (spMoved K TS CK C)) : FnR P w K mg base CX0 5 f (spTurn K TS CK C) := by
  refine fnr F sc_k_turn (fun vs H Q E h => ?_) (fun _ _ _ _ _ _ us hl => match us, hl with | [_], _ => rfl) (fun cdv A outer s H vs Q E hr h => ?_)
  · obtain ⟨a, qh, nms, rows, rfl, _⟩ := h
    rfl
  · obtain ⟨a, qh, nms, rows, rfl, kq, h1000, k⟩ := h
    obtain ⟨dx, qn, rs, ha, hqn, hqh, ra, ers⟩ := id kq
    have lrs : rs.length = rows.length := by rw [← ers, List.length_map]
    refine ⟨_, (pss_one (ps_ret (pe_mo (pv 0) T.ck MKmoved hr (by decide) pass0 (pa_cons (pe_sm SMturning hr (by decide) (by rfl) pass0 (pa_cons (pe_callB call_len_seq (by rfl) T.n_len (by decide +kernel) (pa_cons (pe_fld (pv 0) (by rfl)) pa_nil)) pa_nil)) (pa_cons (pe_tup pa_nil) pa_nil))))), ?_⟩
    walk_at "rd"
    refine ⟨a, dx, _, rfl, ha, kfs_no qn qh (by decide +kernel) (by decide +kernel), ?_⟩
    walk_at "rd"
    refine ⟨a, CK, dx, _, _, rfl, ha, T.ck, T.nh, kfs_held _ _, ?_⟩
    refine ⟨qh, _, rfl, .inl (SqL.of hqh), ?_⟩
    rw [List.length_map, lrs]
    walk_at "rd"
    refine ⟨by omega, fun H1 m s1 nm hm => ?_⟩
    have e1 : Ev TS [] H H1 := Ev.same s1
    walk_at "rd"
    refine ⟨by show 0 ≤ sizeLine; decide, fun t ht => ?_⟩
    generalize hXX : upd _ t _ = H2
    obtain ⟨e2, h2⟩ := new_facts (TS := TS) hXX ht
    clear hXX
    walk_at "rs"
    refine ⟨a, qh, m, t, nms, rows, [], turnM rows.length, rfl, (by walk_at "t"), (by walk_at "t"), turn_ok _, by rw [turn_length]; omega, RT.nil h2, by rw [gaps_none turn_nonneg]; rfl, fun qh' H3 nq e3 kq3 => ?_⟩
    rw [apply_turn rfl] at kq3
    exact k m qh' H3 (by walk_at "na") (by walk_at "na") (by walk_at "e") kq3 (by walk_at "t")
end
end MV

namespace MV
open PySem PySem.Spec PyProof.Rows L2 SB MM LamX StX
local macro_rules | `(tactic| walk_at "rd") => `(tactic| repeat (first | (refine ⟨_, rfl, ?_⟩) | (refine ⟨_, _, rfl, rfl, ?_⟩) | (refine ⟨_, _, rfl, ?_⟩) | (refine ⟨rfl, ?_⟩) | (with_reducible refine st_nil ?_) | (with_reducible refine st_cons ?_) | (with_reducible refine st_C ?_)))
local macro_rules | `(tactic| walk_at "isL") => `(tactic| first | assumption | (apply isL.of; assumption) | (apply isL.bag; assumption) | (apply isL.lr; assumption) | (apply KQ.isL; assumption) | (apply isL.ev; assumption; walk_at "isL"))
local macro_rules | `(tactic| walk_at "isI") => `(tactic| first | assumption | (apply isI.of; assumption) | (apply KQ.isI; assumption) | (apply MoveAt.isI; assumption) | (apply isI.ev; assumption; walk_at "isI"))
local macro_rules | `(tactic| walk_at "al") => `(tactic| first | assumption | (apply isL.al; walk_at "isL") | (apply isI.al; walk_at "isI") | (apply Al.dK; assumption) | (apply Al.dT; assumption) | (apply Al.ev; assumption; walk_at "al"))
local macro_rules | `(tactic| walk_at "ne") => `(tactic| first | (apply NeH.of; assumption) | (apply NeH.ofs; assumption) | (apply neLI; walk_at "isL"; walk_at "isI") | (apply neIL; walk_at "isI"; walk_at "isL") | (apply Al.ne; assumption; walk_at "al") | (apply Al.ens; assumption; walk_at "al") | (apply NA.ne; assumption; walk_at "al") | (apply NA.ens; assumption; walk_at "al"))
local macro_rules | `(tactic| walk_at "nin") => `(tactic| first | exact trivial | (refine And.intro ?_ ?_; walk_at "ne"; walk_at "nin"))
local macro_rules | `(tactic| walk_at "t") => `(tactic| first | assumption | (apply ev_tup; assumption; walk_at "t") | (apply ev_lst; assumption; walk_at "t"; walk_at "nin") | (apply ev_ins; assumption; walk_at "t"; walk_at "nin") | (apply ev_dK; assumption; walk_at "t"; walk_at "nin") | (apply ev_dT; assumption; walk_at "t"; walk_at "nin") | (apply ev_ra; assumption; walk_at "t") | (apply ev_bag; assumption; walk_at "t"; walk_at "nin") | (apply ev_lr; assumption; walk_at "t"; walk_at "nin") | (apply ev_kq; assumption; walk_at "t"; walk_at "nin"; walk_at "nin") | (apply ev_tabs; assumption; walk_at "t") | (apply ev_fzT; assumption; walk_at "t") | (apply ev_od; assumption; walk_at "t") | (apply ev_odR; assumption; walk_at "t") | (apply ev_cels; assumption; walk_at "t") | (apply ev_move; assumption; walk_at "t"; walk_at "nin") | (apply ev_rt; assumption; walk_at "t") | (apply ev_goodR; assumption; walk_at "t") | (apply ev_rowvs; assumption; walk_at "t") | (apply ev_dm; assumption; walk_at "t")  | (apply SqL.of; walk_at "t") | (apply SqT.of; walk_at "t") | (apply ev_sqT; assumption; walk_at "t") | (apply ev_sqL; assumption; walk_at "t"; walk_at "nin"))
local macro_rules | `(tactic| walk_at "le") => `(tactic| first | exact Le.refl _ | (apply Le.ev; assumption; walk_at "le"))
local macro_rules | `(tactic| walk_at "om") => `(tactic| first | exact Or.inl (List.mem_cons_self) | exact Or.inl (List.mem_cons_of_mem _ List.mem_cons_self) | exact Or.inl (List.mem_cons_of_mem _ (List.mem_cons_of_mem _ List.mem_cons_self)) | (apply Or.inr; apply nal0; assumption) | (apply Or.inr; apply Le.nal; assumption; walk_at "le") | (apply Or.inr; apply Le.na; assumption; walk_at "le"))
local macro_rules | `(tactic| walk_at "out") => `(tactic| first | exact trivial | (refine And.intro ?_ ?_; walk_at "om"; walk_at "out"))
local macro_rules | `(tactic| walk_at "e") => `(tactic| first | assumption | exact Ev.refl _ _ | (apply Ev.trans'; assumption; walk_at "e"; walk_at "out"))
local macro_rules | `(tactic| walk_at "c") => `(tactic| dsimp only [tNil, tCons, tC])
local macro_rules | `(tactic| walk_at "na") => `(tactic| first | assumption | (apply NA.of; assumption) | (apply Le.nal; assumption; walk_at "le") | (apply Le.na; assumption; walk_at "le"))
local macro_rules | `(tactic| walk_at "rs") => `(tactic| repeat (first | (with_reducible refine st_nil ?_) | (with_reducible refine st_cons ?_) | (with_reducible refine st_C ?_)))
local macro_rules | `(tactic| walk_at "rv") => `(tactic| repeat (first | (refine ⟨_, rfl, ?_⟩) | (with_reducible refine st_nil ?_) | (with_reducible refine st_cons ?_) | (with_reducible refine st_C ?_)))
local macro_rules | `(tactic| walk_at "if") => `(tactic| first | refine ifT rfl ?_ | refine ifF rfl ?_ | skip)
abbrev s_k_check_names_of : Stmt := inClass (top 27) 16
abbrev s_k_add2 : Stmt := inClass (top 27) 17
abbrev s_k_iadd : Stmt := inClass (top 27) 18
abbrev s_k_eq : Stmt := inClass (top 27) 6
/-- two keepers -/
def KK (CK : Addr) (H : Hp) (a qa b qb : Addr) (na nb : List Str) (ra rb : List (List Int)) : Prop := KQ CK H a qa na ra ∧ KQ CK H b qb nb rb ∧ StrsOk na ∧ StrsOk nb
/-- what is raised for keepers of different names -/
def DLz (TS : List (Addr × Str)) (CDL : Addr) (H : Hp) (E : XK) (na nb : List Str) : Prop := ∀ qn qm H', Ev TS [] H H' → FzT H' qn (na.map V.str) → FzT H' qm (nb.map V.str) → Rz TS H' E CDL [("other", .ref qm), ("one", .ref qn)]
theorem DLz.ev {TS : List (Addr × Str)} {CDL : Addr} {H H' : Hp} {E : XK} {na nb : List Str} (h : DLz TS CDL H E na nb) (e : Ev TS [] H H') : DLz TS CDL H' E na nb := fun qn qm H2 e2 => h qn qm H2 (e.trans e2 trivial)
def spCNO (TS : List (Addr × Str)) (CK CDL : Addr) : Sp := fun vs H Q E => ∃ (a qa b qb : Addr) (na nb : List Str) (ra rb : List (List Int)), vs = [.ref a, .ref b] ∧ KK CK H a qa b qb na nb ra rb ∧ (na = nb → ∀ H', Ev TS [] H H' → Q .non H') ∧ (na ≠ nb → DLz TS CDL H E na nb)
def spKPlus (TS : List (Addr × Str)) (CK CDL : Addr) : Sp := fun vs H Q E => ∃ (a qa b qb : Addr) (na nb : List Str) (ra rb : List (List Int)), vs = [.ref a, .ref b] ∧ KK CK H a qa b qb na nb ra rb ∧ NmsOk na ∧ 0 < na.length ∧ na.length ≤ 6 ∧ WF na.length ra ∧ WF nb.length rb ∧ ra.length + rb.length ≤ 10000 ∧ (na = nb → ∀ x qx H', NA H x → NA H qx → Ev TS [] H H' → KQ CK H' x qx na (ra ++ rb) → Q (.ref x) H') ∧ (na ≠ nb → DLz TS CDL H E na nb)
def spKIadd (TS : List (Addr × Str)) (CK CDL : Addr) : Sp := fun vs H Q E => ∃ (a qa b qb : Addr) (na nb : List Str) (ra rb : List (List Int)), vs = [.ref a, .ref b] ∧ KK CK H a qa b qb na nb ra rb ∧ ra.length + rb.length ≤ 10000 ∧ (na = nb → ∀ qx H', NA H qx → Ev TS [a] H H' → KQ CK H' a qx na (ra ++ rb) → Q (.ref a) H') ∧ (na ≠ nb → DLz TS CDL H E na nb)
def spKEq (TS : List (Addr × Str)) (CK : Addr) : Sp := fun vs H Q _ => ∃ (a qa b qb : Addr) (na nb : List Str) (ra rb : List (List Int)), vs = [.ref a, .ref b] ∧ KK CK H a qa b qb na nb ra rb ∧ ∀ H', Ev TS [] H H' → Q (.bl (decide (na = nb) && decide (ra = rb))) H'
section
variable {P : Program} {w : World} {K : PySem.W.Frag} {mg : Str → Option Value} {base : Heap} {KPT CK C CDL : Addr} {TS : List (Addr × Str)}
theorem sc_k_check_names_of : FnScope ["self", "other"] ["self", "other"] (defScope s_k_check_names_of) := ⟨rfl, rfl, rfl, by decide +kernel, rfl, by decide +kernel, by decide +kernel⟩
theorem ok_cno {f : Addr} {fd : FuncData} (F : Fun K "check_names_of" "Keeper.check_names_of" s_k_check_names_of f fd) (T : TxtKe K mg KPT CK) (XDifferentLists : Xc P w K mg base 1 "DifferentLists" CDL ["one", "other"]) : FnR P w K mg base (L2.CX P w) 3 f (spCNO TS CK CDL) := by
  refine fnrX F sc_k_check_names_of (fun vs H Q E h => ?_) (fun _ _ _ _ _ _ us hl => match us, hl with | [_, _], _ => rfl) (fun cdv A outer s H vs Q E hr h => ?_)
  · obtain ⟨a, qa, b, qb, na, nb, ra, rb, rfl, _⟩ := h
    rfl
  · obtain ⟨a, qa, b, qb, na, nb, ra, rb, rfl, ⟨⟨dx, qn, rs, ha, hqn, _⟩, ⟨dy, qm, rt, hb, hqm, _⟩, oka, okb⟩, k1, k2⟩ := h
    refine ⟨_, (pss_one (ps_if (pt_cmpR (op_neD hr.units) (pe_fld (pv 0) (by rfl)) (pe_fld (pv 1) (by rfl)) (nomark _)) (pss_one (ps_raise rfl (takes_of rfl rfl rfl rfl) (pmk_x XDifferentLists hr (by decide) (by rfl) (pa_cons (pe_fld (pv 0) (by rfl)) (pa_cons (pe_fld (pv 1) (by rfl)) pa_nil))))) pss_nil)), ?_⟩
    walk_at "rd"
    refine ⟨a, CK, dx, _, _, rfl, ha, T.ck, T.nn, kfs_names _ _, ?_⟩
    walk_at "rd"
    refine ⟨b, CK, dy, _, _, rfl, hb, T.ck, T.nn, kfs_names _ _, ?_⟩
    walk_at "rd"
    refine a_neN hqn.sq hqm.sq oka okb ?_
    by_cases c : na = nb
    · rw [decide_eq_true c]
      walk_at "rd"
      exact k1 c H (Ev.refl _ _)
    · rw [decide_eq_false c]
      walk_at "rd"
      refine ⟨a, CK, dx, _, _, rfl, ha, T.ck, T.nn, kfs_names _ _, ?_⟩
      walk_at "rd"
      refine ⟨b, CK, dy, _, _, rfl, hb, T.ck, T.nn, kfs_names _ _, ?_⟩
      walk_at "rd"
      exact ⟨by show 2 ≤ 1000; decide, (k2 c qn qm H (Ev.refl _ _) hqn hqm).go⟩
theorem keeper_okT {H : Hp} {Q : VK} {E : XK} {nms : List Str} {rows : List (List Int)} {x dx n r : Addr} (nx : H x = none) (nd : H dx = none) (hn : FzT H n (nms.map V.str)) (ok : NmsOk nms) (h0 : 0 < nms.length) (h6 : nms.length ≤ 6) (lr : LR H r rows) (wf : WF nms.length rows) (k : ∀ qh H', H qh = none → Ev TS [] H H' → KQ CK H' x qh nms rows → Q .non H') : spKInit K CK [.ref x, .ref n, .ref r] (upd (upd H dx (.own x)) x (.ins CK dx [])) Q E := by
  obtain ⟨rs, hr, ra, rfl⟩ := lr
  refine mk_keeper nx nd (.inr hn) (fun z hz => (ok.1 z hz).word) ok.2 h0 h6 (.inl (SqL.of hr)) ra wf.ok fun H' s kp hw => ?_
  obtain ⟨dx', qn, qh, h1, h2, h3, h4⟩ := id kp
  exact k qh H' (hw _ _ _ h1) (Ev.same s) ⟨dx', qn, rs, h1, h2, h3, h4, rfl⟩
theorem sc_k_add2 : FnScope ["self", "other"] ["self", "other"] (defScope s_k_add2) := ⟨rfl, rfl, rfl, by decide +kernel, rfl, by decide +kernel, by decide +kernel⟩
theorem ok_kplus {f : Addr} {fd : FuncData} (F : Fun K "__add__" "Keeper.__add__" s_k_add2 f fd) (T : TxtKe K mg KPT CK) (MKcheck_names_of : Me P w K mg base (L2.CX P w) 3 CK "check_names_of" (spCNO TS CK CDL)) (MKeeper : Ml P w K mg base CX0 6 "Keeper" CK (spKInit K CK)) : FnR P w K mg base (L2.CX P w) 8 f (spKPlus TS CK CDL) := by
  refine fnrX F sc_k_add2 (fun vs H Q E h => ?_) (fun _ _ _ _ _ _ us hl => match us, hl with | [_, _], _ => rfl) (fun cdv A outer s H vs Q E hr h => ?_)
  · obtain ⟨a, qa, b, qb, na, nb, ra, rb, rfl, _⟩ := h
    rfl
  · obtain ⟨a, qa, b, qb, na, nb, ra, rb, rfl, kk, okn, h0, h6, wfa, wfb, hsz, k1, k2⟩ := h
    obtain ⟨kqa, kqb, oka, okb⟩ := id kk
    obtain ⟨dx, qn, rs, ha, hqn, hqa, raa, era⟩ := id kqa
    obtain ⟨dy, qm, rt, hb, hqm, hqb, rab, erb⟩ := id kqb
    refine ⟨_, (pss_cons (ps_expr (pe_mo (pv 0) T.ck MKcheck_names_of hr (by decide) (passL rfl rfl rfl rfl) (pa_cons (pv 1) pa_nil)))
      (pss_one (ps_ret (pe_ml MKeeper hr (by decide) (by rfl) pass0 (pa_cons (pe_fld (pv 0) (by rfl)) (pa_cons (pe_op op_cat (pe_fld (pv 0) (by rfl)) (pe_fld (pv 1) (by rfl))) pa_nil)))))), ?_⟩
    walk_at "rd"
    refine ⟨a, dx, _, rfl, ha, kfs_no qn qa (by decide +kernel) (by decide +kernel), ?_⟩
    walk_at "rv"
    refine ⟨a, qa, b, qb, na, nb, ra, rb, rfl, kk, fun e H1 e1 => ?_, k2⟩
    subst e
    walk_at "rd"
    refine ⟨a, CK, dx, _, _, rfl, (by walk_at "t"), T.ck, T.nn, kfs_names qn qa, ?_⟩
    walk_at "rd"
    refine ⟨a, CK, dx, _, _, rfl, (by walk_at "t"), T.ck, T.nh, kfs_held qn qa, ?_⟩
    walk_at "rd"
    refine ⟨b, CK, dy, _, _, rfl, (by walk_at "t"), T.ck, T.nh, kfs_held qm qb, ?_⟩
    walk_at "rd"
    have l1 : rs.length = ra.length := by rw [← era, List.length_map]
    have l2 : rt.length = rb.length := by rw [← erb, List.length_map]
    refine a_cat (TS := TS) (xs := rs.map refR) (ys := rt.map refR) (by walk_at "t") (by walk_at "t") (by rw [List.length_map, List.length_map]; exact le_line (by omega)) fun q H2 nq e2 h2 => ?_
    walk_at "rd"
    have raa2 : RA H2 rs := (by walk_at "t")
    have rab2 : RA H2 rt := (by walk_at "t")
    have lr2 : LR H2 q (ra ++ rb) := ⟨rs ++ rt, by rw [h2, List.map_append], fun y hy => (List.mem_append.mp hy).elim (raa2 y) (rab2 y), by rw [List.map_append, era, erb]⟩
    refine fun x d2 nx nd _ => keeper_okT (TS := TS) (nms := na) nx nd (by walk_at "t") okn h0 h6 lr2 (fun y hy => (List.mem_append.mp hy).elim (wfa y) (wfb y)) fun qx H3 nqx e3 kq3 => ?_
    walk_at "rd"
    exact k1 rfl x qx H3 (by walk_at "na") (by walk_at "na") (by walk_at "e") kq3
theorem sc_k_iadd : FnScope ["self", "other"] ["self", "other"] (defScope s_k_iadd) := ⟨rfl, rfl, rfl, by decide +kernel, rfl, by decide +kernel, by decide +kernel⟩
theorem ok_kiadd {f : Addr} {fd : FuncData} (F : Fun K "__iadd__" "Keeper.__iadd__" s_k_iadd f fd) (T : TxtKe K mg KPT CK) (MKcheck_names_of : Me P w K mg base (L2.CX P w) 3 CK "check_names_of" (spCNO TS CK CDL)) : FnR P w K mg base (L2.CX P w) 4 f (spKIadd TS CK CDL) := by
  refine fnrX F sc_k_iadd (fun vs H Q E h => ?_) (fun _ _ _ _ _ _ us hl => match us, hl with | [_, _], _ => rfl) (fun cdv A outer s H vs Q E hr h => ?_)
  · obtain ⟨a, qa, b, qb, na, nb, ra, rb, rfl, _⟩ := h
    rfl
  · obtain ⟨a, qa, b, qb, na, nb, ra, rb, rfl, kk, hsz, k1, k2⟩ := h
    obtain ⟨kqa, kqb, oka, okb⟩ := id kk
    obtain ⟨dx, qn, rs, ha, hqn, hqa, raa, era⟩ := id kqa
    obtain ⟨dy, qm, rt, hb, hqm, hqb, rab, erb⟩ := id kqb
    refine ⟨_, (pss_cons (ps_expr (pe_mo (pv 0) T.ck MKcheck_names_of hr (by decide) (passL rfl rfl rfl rfl) (pa_cons (pv 1) pa_nil)))
      (pss_cons (ps_fld (pv 0) (pe_op op_cat (pe_fld (pv 0) (by rfl)) (pe_fld (pv 1) (by rfl))) rfl)
      (pss_one (ps_ret (pv 0))))), ?_⟩
    walk_at "rd"
    refine ⟨a, dx, _, rfl, ha, kfs_no qn qa (by decide +kernel) (by decide +kernel), ?_⟩
    walk_at "rv"
    refine ⟨a, qa, b, qb, na, nb, ra, rb, rfl, kk, fun e H1 e1 => ?_, k2⟩
    subst e
    walk_at "rd"
    refine ⟨a, CK, dx, _, _, rfl, (by walk_at "t"), T.ck, T.nh, kfs_held qn qa, ?_⟩
    walk_at "rd"
    refine ⟨b, CK, dy, _, _, rfl, (by walk_at "t"), T.ck, T.nh, kfs_held qm qb, ?_⟩
    walk_at "rd"
    have l1 : rs.length = ra.length := by rw [← era, List.length_map]
    have l2 : rt.length = rb.length := by rw [← erb, List.length_map]
    refine a_cat (TS := TS) (xs := rs.map refR) (ys := rt.map refR) (by walk_at "t") (by walk_at "t") (by rw [List.length_map, List.length_map]; exact le_line (by omega)) fun q H2 nq e2 h2 => ?_
    walk_at "rd"
    have ha2 : H2 a = some (.ins CK dx (kfs qn qa)) := (by walk_at "t")
    refine ⟨a, CK, dx, _, rfl, ha2, T.ck, T.nh, (by rw [kfs_eq]; show 2 < 1000; decide), ?_⟩
    rw [kfs_put]
    generalize hXX : upd _ a _ = H3
    obtain ⟨e3, h3⟩ := setI_facts (TS := TS) hXX ha2
    clear hXX
    walk_at "rs"
    walk_at "rd"
    have raa2 : RA H3 rs := (by walk_at "t")
    have rab2 : RA H3 rt := (by walk_at "t")
    have hq3 : H3 q = some (.lst ((rs ++ rt).map refR)) := by rw [List.map_append]; exact (by walk_at "t")
    exact k1 rfl q H3 (by walk_at "na") (by walk_at "e") ⟨dx, qn, rs ++ rt, h3, (by walk_at "t"), hq3, fun y hy => (List.mem_append.mp hy).elim (raa2 y) (rab2 y), by rw [List.map_append, era, erb]⟩
theorem sc_k_eq : FnScope ["self", "other"] ["self", "other"] (defScope s_k_eq) := ⟨rfl, rfl, rfl, by decide +kernel, rfl, by decide +kernel, by decide +kernel⟩
theorem ok_keq {f : Addr} {fd : FuncData} (F : Fun K "__eq__" "Keeper.__eq__" s_k_eq f fd) (T : TxtKe K mg KPT CK) (kis : C8.InsC K CK) : FnR P w K mg base CX0 1 f (spKEq TS CK) := by
  refine fnr F sc_k_eq (fun vs H Q E h => ?_) (fun _ _ _ _ _ _ us hl => match us, hl with | [_, _], _ => rfl) (fun cdv A outer s H vs Q E hr h => ?_)
  · obtain ⟨a, qa, b, qb, na, nb, ra, rb, rfl, _⟩ := h
    rfl
  · obtain ⟨a, qa, b, qb, na, nb, ra, rb, rfl, ⟨⟨dx, qn, rs, ha, hqn, hqa, raa, era⟩, ⟨dy, qm, rt, hb, hqm, hqb, rab, erb⟩, oka, okb⟩, k⟩ := h
    refine ⟨_, (pss_one (ps_ret (pe_and (pe_callB (C8.call_isC kis) (by rfl) T.n_isinstance (by decide +kernel) (pa_cons (pv 1) (pa_cons (pe_glob (v := .ref CK) (by rfl) T.g_Keeper rfl) pa_nil))) (pe_and (pe_cmpR (op_eqD hr.units) (pe_fld (pv 0) (by rfl)) (pe_fld (pv 1) (by rfl)) (nomark _)) (pe_one (pe_cmpR (op_eqD hr.units) (pe_fld (pv 0) (by rfl)) (pe_fld (pv 1) (by rfl)) (nomark _))))))), ?_⟩
    walk_at "rd"
    refine ⟨b, dy, _, rfl, hb, ?_⟩
    walk_at "rd"
    refine ⟨a, CK, dx, _, _, rfl, ha, T.ck, T.nn, kfs_names _ _, ?_⟩
    walk_at "rd"
    refine ⟨b, CK, dy, _, _, rfl, hb, T.ck, T.nn, kfs_names _ _, ?_⟩
    walk_at "rd"
    refine a_eqN hqn.sq hqm.sq oka okb ?_
    by_cases c : na = nb
    · rw [decide_eq_true c]
      walk_at "rd"
      refine ⟨a, CK, dx, _, _, rfl, ha, T.ck, T.nh, kfs_held _ _, ?_⟩
      walk_at "rd"
      refine ⟨b, CK, dy, _, _, rfl, hb, T.ck, T.nh, kfs_held _ _, ?_⟩
      walk_at "rd"
      refine a_eqR (r1 := ra) (r2 := rb) ⟨rs, hqa, raa, era⟩ ⟨rt, hqb, rab, erb⟩ ?_
      have := k H (Ev.refl _ _)
      rw [decide_eq_true c, Bool.true_and] at this
      exact this
    · rw [decide_eq_false c]
      walk_at "rd"
      have := k H (Ev.refl _ _)
      rw [decide_eq_false c, Bool.false_and] at this
      exact this
end
end MV

namespace MV
open PySem PySem.Spec PyProof.Rows L2 SB MM LamX
local macro_rules | `(tactic| walk_at "rd") => `(tactic| repeat (first | (refine ⟨_, rfl, ?_⟩) | (refine ⟨_, _, rfl, rfl, ?_⟩) | (refine ⟨_, _, rfl, ?_⟩) | (refine ⟨rfl, ?_⟩)))
abbrev s_m_sorting : Stmt := inClass (top 18) 13
/-- Move.sorting, as heaps go on -/
def spSortE (K : PySem.W.Frag) (C : Addr) (TS : List (Addr × Str)) : Sp := fun vs H Q _ => ∃ (a : Addr) (xs : List Int) (d : Bool), vs = [.ref a, .bl d] ∧ SqL K H a (xs.map V.int) ∧ xs.length ≤ 10000 ∧ Tabs TS H ∧
  ∀ p H', NA H p → Ev TS [] H H' → MoveAt K C H' p xs.length (sortM xs.length (keyM d xs)) → Q (.ref p) H'
section
variable {P : Program} {w : World} {K : PySem.W.Frag} {mg : Str → Option Value} {base : Heap} {C c PT : Addr} {TS : List (Addr × Str)}
theorem sc_m_sorting : FnScope ["values", "down", "sign"] ["values", "down"] (defScope s_m_sorting) := ⟨rfl, rfl, rfl, by decide +kernel, rfl, by decide +kernel, by decide +kernel⟩
theorem okf_sortE {f : Addr} {fd : FuncData} (F : Fun K "sorting" "Move.sorting" s_m_sorting f fd) (hc : fd.code = .ref c) (T : TxtM K mg C) (nS : mg "sorted" = none) (MMove : Ml P w K mg base CX0 1 "Move" C (spInit K C)) (TB : TabB base mg c PT)
    (hmT : (PT, lamQ "Move.sorting" (defScope s_m_sorting)) ∈ TS) (hu : ∀ p ∈ TS, p.1 = PT → p.2 = lamQ "Move.sorting" (defScope s_m_sorting)) : FnOk P w K mg base CX0 4 f fd ["values", "down"] (spSortE K C TS) := by
  refine okC F hc sc_m_sorting (fun vs H Q E h => ?_) (fun A outer s H vs Q E hr h => ?_)
  · obtain ⟨a, xs, d, rfl, _⟩ := h
    rfl
  · obtain ⟨a, xs, d, rfl, ha, hz, hT, k⟩ := h
    refine ⟨_, (C8.pss_cut (ps_set (i := 2) sc_m_sorting.nd rfl (Or.inr rfl) (pe_ifExp (pt_val (pv 1)) (pe_un un_neg pe_int) pe_int))
      (pss_one (ps_ret (pe_ml MMove hr (by decide) (by rfl) pass0 (pa_cons (pe_callB call_len_seq (by rfl) T.n_len (by decide +kernel) (pa_cons (pv 0) pa_nil)) (pa_cons (pe_sortRK rfl (by rfl) nS (pa_cons (pe_callTy cr_range1 (by rfl) T.n_range (by decide +kernel) (pa_cons (pe_callB call_len_seq (by rfl) T.n_len (by decide +kernel) (pa_cons (pv 0) pa_nil)) pa_nil)) pa_nil) TB (by rfl) hmT hu (hr.mono (by decide)) (lamP_by (sc := defScope s_m_sorting) (by decide +kernel)) (by rfl) (fun _ _ _ _ _ _ => rfl) (key_sv (is := 2) (iv := 0) (lamP_by (sc := defScope s_m_sorting) (by decide +kernel)) rfl rfl rfl rfl)) pa_nil)))))), ?_⟩
    refine ⟨fun σ' H' => σ' = [some (.ref a), some (.bl d), some (.int (if d = true then -1 else 1))] ∧ H' = H, ?_, ?_⟩
    · walk_at "rd"
      cases d
      · first | exact ⟨rfl, rfl⟩ | exact rfl
      · refine ⟨_, rfl, ?_⟩
        first | exact ⟨rfl, rfl⟩ | exact rfl
    · rintro σ' H' ⟨rfl, rfl⟩
      walk_at "rd"
      refine ⟨a, _, rfl, .inl ha, ?_⟩
      rw [List.length_map]
      walk_at "rd"
      refine ⟨a, _, rfl, .inl ha, ?_⟩
      rw [List.length_map]
      walk_at "rd"
      refine fun r hr' => ?_
      have s1 := same_new (o := .rng 0 (xs.length : Int)) (Same.refl H') hr'
      refine ⟨r, xs.length, rfl, upd_same, by omega, tabs_same hT s1, fun H2 e2 t2 => ⟨keyM d xs, fun i hi => ?_, fun p hp => ?_⟩⟩
      · refine ⟨_, a, _, xs.getD i 0, rfl, rfl, ext_sqL e2 (L2.Same.seq s1 ha), by omega, by omega, ?_, ?_, rfl⟩
        · rw [Int.toNat_natCast, List.getElem?_map, List.getElem?_eq_getElem hi]
          simp [hi]
        · refine .inl ?_
          cases d
          · exact ⟨by decide, by decide⟩
          · exact ⟨by decide, by decide⟩
      · have s3 := same_new (o := .lst ((sortM xs.length (keyM d xs)).map V.int)) (Same.refl H2) hp
        refine fun a4 _ n4 nd4 _ => mk_move2 n4 nd4 (.inl (SqL.of upd_same)) (sortM_ok _ _) (by rw [sortM_len]; omega) fun H4 s4 m4 => ⟨rfl, ?_⟩
        have E3 := ((Ev.same (TS := TS) s1).trans (Ev.ext e2 t2) trivial).trans (Ev.same s3) trivial
        exact k a4 H4 (E3.nal n4) (E3.trans (Ev.same s4) trivial) m4
end
end MV

namespace MV
open PySem PySem.Spec PyProof.Rows L2 SB MM LamX StX
local macro_rules | `(tactic| walk_at "rd") => `(tactic| repeat (first | (refine ⟨_, rfl, ?_⟩) | (refine ⟨_, _, rfl, rfl, ?_⟩) | (refine ⟨_, _, rfl, ?_⟩) | (refine ⟨rfl, ?_⟩) | (with_reducible refine st_nil ?_) | (with_reducible refine st_cons ?_) | (with_reducible refine st_C ?_)))
local macro_rules | `(tactic| walk_at "isL") => `(tactic| first | assumption | (apply isL.of; assumption) | (apply isL.bag; assumption) | (apply isL.lr; assumption) | (apply KQ.isL; assumption) | (apply isL.ev; assumption; walk_at "isL"))
local macro_rules | `(tactic| walk_at "isI") => `(tactic| first | assumption | (apply isI.of; assumption) | (apply KQ.isI; assumption) | (apply MoveAt.isI; assumption) | (apply isI.ev; assumption; walk_at "isI"))
local macro_rules | `(tactic| walk_at "al") => `(tactic| first | assumption | (apply isL.al; walk_at "isL") | (apply isI.al; walk_at "isI") | (apply Al.dK; assumption) | (apply Al.dT; assumption) | (apply Al.ev; assumption; walk_at "al"))
local macro_rules | `(tactic| walk_at "ne") => `(tactic| first | (apply NeH.of; assumption) | (apply NeH.ofs; assumption) | (apply neLI; walk_at "isL"; walk_at "isI") | (apply neIL; walk_at "isI"; walk_at "isL") | (apply Al.ne; assumption; walk_at "al") | (apply Al.ens; assumption; walk_at "al") | (apply NA.ne; assumption; walk_at "al") | (apply NA.ens; assumption; walk_at "al"))
local macro_rules | `(tactic| walk_at "nin") => `(tactic| first | exact trivial | (refine And.intro ?_ ?_; walk_at "ne"; walk_at "nin"))
local macro_rules | `(tactic| walk_at "t") => `(tactic| first | assumption | (apply ev_tup; assumption; walk_at "t") | (apply ev_lst; assumption; walk_at "t"; walk_at "nin") | (apply ev_ins; assumption; walk_at "t"; walk_at "nin") | (apply ev_dK; assumption; walk_at "t"; walk_at "nin") | (apply ev_dT; assumption; walk_at "t"; walk_at "nin") | (apply ev_ra; assumption; walk_at "t") | (apply ev_bag; assumption; walk_at "t"; walk_at "nin") | (apply ev_lr; assumption; walk_at "t"; walk_at "nin") | (apply ev_kq; assumption; walk_at "t"; walk_at "nin"; walk_at "nin") | (apply ev_tabs; assumption; walk_at "t") | (apply ev_fzT; assumption; walk_at "t") | (apply ev_od; assumption; walk_at "t") | (apply ev_odR; assumption; walk_at "t") | (apply ev_cels; assumption; walk_at "t") | (apply ev_move; assumption; walk_at "t"; walk_at "nin") | (apply ev_rt; assumption; walk_at "t") | (apply ev_goodR; assumption; walk_at "t") | (apply ev_rowvs; assumption; walk_at "t") | (apply ev_dm; assumption; walk_at "t")  | (apply SqL.of; walk_at "t") | (apply SqT.of; walk_at "t") | (apply ev_sqT; assumption; walk_at "t") | (apply ev_sqL; assumption; walk_at "t"; walk_at "nin"))
local macro_rules | `(tactic| walk_at "le") => `(tactic| first | exact Le.refl _ | (apply Le.ev; assumption; walk_at "le"))
local macro_rules | `(tactic| walk_at "om") => `(tactic| first | exact Or.inl (List.mem_cons_self) | exact Or.inl (List.mem_cons_of_mem _ List.mem_cons_self) | exact Or.inl (List.mem_cons_of_mem _ (List.mem_cons_of_mem _ List.mem_cons_self)) | (apply Or.inr; apply nal0; assumption) | (apply Or.inr; apply Le.nal; assumption; walk_at "le") | (apply Or.inr; apply Le.na; assumption; walk_at "le"))
local macro_rules | `(tactic| walk_at "out") => `(tactic| first | exact trivial | (refine And.intro ?_ ?_; walk_at "om"; walk_at "out"))
local macro_rules | `(tactic| walk_at "e") => `(tactic| first | assumption | exact Ev.refl _ _ | (apply Ev.trans'; assumption; walk_at "e"; walk_at "out"))
local macro_rules | `(tactic| walk_at "c") => `(tactic| dsimp only [tNil, tCons, tC])
local macro_rules | `(tactic| walk_at "na") => `(tactic| first | assumption | (apply NA.of; assumption) | (apply Le.nal; assumption; walk_at "le") | (apply Le.na; assumption; walk_at "le"))
local macro_rules | `(tactic| walk_at "rs") => `(tactic| repeat (first | (with_reducible refine st_nil ?_) | (with_reducible refine st_cons ?_) | (with_reducible refine st_C ?_)))
local macro_rules | `(tactic| walk_at "rv") => `(tactic| repeat (first | (refine ⟨_, rfl, ?_⟩) | (with_reducible refine st_nil ?_) | (with_reducible refine st_cons ?_) | (with_reducible refine st_C ?_)))
local macro_rules | `(tactic| walk_at "if") => `(tactic| first | refine ifT rfl ?_ | refine ifF rfl ?_ | skip)
abbrev s_k_order : Stmt := inClass (top 27) 22
section
variable {TS : List (Addr × Str)} {K : PySem.W.Frag} {H : Hp} {a CK CNN CNP qh : Addr} {Q : VK} {E : XK} {nms : List Str} {rows : List (List Int)}
theorem kcolX_ok {z : Str} (h : KQ CK H a qh nms rows) (hnd : nms.Nodup) (wf : WF nms.length rows) (hl : rows.length ≤ 1000) (k : ∀ j, nms[j]? = some z → ∀ p H', H p = none → Ev TS [] H H' → H' p = some (.lst ((colR rows j).map V.int)) → Q (.ref p) H') (k2 : z ∉ nms → Rz TS H E CNN [("name", .str z)]) : spKGet K CK CNN CNP [.ref a, .str z] H Q E := by
  obtain ⟨dx, qn, rs, h1, h2, h3, h4, rfl⟩ := h
  rw [List.length_map] at hl
  refine ⟨a, nms, rs, .str z, rfl, ⟨dx, qn, qh, h1, h2, h3, h4⟩, hnd, wf.ok, hl, .inr (.inl ⟨z, rfl, fun j' hj' H' p s np hp => ?_, fun hn => (k2 hn).go⟩)⟩
  refine k j' hj' p H' np (Ev.same s) ?_
  rw [hp]
  unfold colM colR
  simp only [List.map_map]
  rfl
end
theorem gaps_sortM (n : Nat) (ks : Nat → Int) : gapsM (sortM n ks) = 0 := gaps_none fun p hp => still_nonneg p ((sortM_perm n ks).mem_iff.mp hp)
/-- the rows in the order of a column -/
def sortR (d : Bool) (rows : List (List Int)) (j : Nat) : List Int := sortM rows.length (keyM d (colR rows j))
def spOrder (K : PySem.W.Frag) (TS : List (Addr × Str)) (CK C CNN : Addr) : Sp := fun vs H Q E => ∃ (a qh : Addr) (nms : List Str) (rows : List (List Int)) (z : Str) (d : Bool), vs = [.ref a, .str z, .bl d] ∧ KQ CK H a qh nms rows ∧ nms.Nodup ∧ WF nms.length rows ∧ rows.length ≤ 1000 ∧ Tabs TS H ∧
  (∀ j, nms[j]? = some z → ∀ m qh' H', NA H m → NA H qh' → Ev TS [a] H H' → KQ CK H' a qh' nms (applyM (sortR d rows j) rows []) → MoveAt K C H' m rows.length (sortR d rows j) → Q (.ref m) H') ∧ (z ∉ nms → Rz TS H E CNN [("name", .str z)])
section
variable {P : Program} {w : World} {K : PySem.W.Frag} {mg : Str → Option Value} {base : Heap} {KPT CK C CNN CNP CBR : Addr} {TS : List (Addr × Str)}
theorem sc_k_order : FnScope ["self", "by", "down"] ["self", "by", "down"] (defScope s_k_order) := ⟨rfl, rfl, rfl, by decide +kernel, rfl, by decide +kernel, by decide +kernel⟩
theorem okf_order {f : Addr} {fd : FuncData} {kws : List (Str × V)} (F : FunD K "order" "Keeper.order" (defArgs s_k_order) (defBody s_k_order) (defScope s_k_order) [] kws f fd) (T : TxtKe K mg KPT CK) (SNsorting : SmN P w K mg base CX0 4 "Move" "sorting" 1 ["down"] (fun vs zs => vs ++ zs) (spSortE K C TS)) (MKmoved : Me P w K mg base CX0 4 CK "moved" (spMoved K TS CK C)) (MKgetitem : Me P w K mg base (L2.CX P w) 4 CK "__getitem__" (spKGet K CK CNN CNP)) (GI : ∀ g, PySem.W.findIn K (.ref CK) "__getitem__" = some (some (.ref g)) → PySem.W.fnIn K g = true) : FnOk P w K mg base (L2.CX P w) 6 f fd ["self", "by", "down"] (spOrder K TS CK C CNN) := by
  refine F.ok sc_k_order (fun vs H Q E h => ?_) (fun cdv A outer s H vs Q E hr h => ?_)
  · obtain ⟨a, qh, nms, rows, z, d, rfl, _⟩ := h
    rfl
  · obtain ⟨a, qh, nms, rows, z, d, rfl, kq, hnd, wf, h1000, hT, k1, k2⟩ := h
    obtain ⟨dx, qn, rs, ha, hqn, hqh, ra, ers⟩ := id kq
    refine ⟨_, (pss_one (ps_ret (pe_mo (pv 0) T.ck MKmoved hr (by decide) pass0 (pa_cons (pe_smN SNsorting hr (by decide) (by rfl) pass0 (pa_cons (pe_ixO MKgetitem hr (by decide) (passL rfl rfl rfl rfl) (pv 0) (pv 1) GI) pa_nil) (pk_cons (pv 2) pk_nil)) (pa_cons (pe_tup pa_nil) pa_nil))))), ?_⟩
    walk_at "rd"
    refine ⟨a, dx, _, rfl, ha, kfs_no qn qh (by decide +kernel) (by decide +kernel), ?_⟩
    walk_at "rd"
    refine ⟨a, dx, _, rfl, ha, ?_⟩
    refine kcolX_ok (TS := TS) kq hnd wf h1000 (fun j hj p H1 np e1 h1 => ?_) k2
    walk_at "rd"
    refine ⟨p, colR rows j, d, rfl, SqL.of h1, by rw [colR_length]; omega, (by walk_at "t"), fun m H2 nm e2 hm2 => ?_⟩
    rw [colR_length] at hm2
    walk_at "rd"
    refine ⟨by show 0 ≤ sizeLine; decide, fun t ht => ?_⟩
    generalize hXX : upd _ t _ = H3
    obtain ⟨e3, h3⟩ := new_facts (TS := TS) hXX ht
    clear hXX
    walk_at "rs"
    have okm := sortM_ok rows.length (keyM d (colR rows j))
    refine ⟨a, qh, m, t, nms, rows, [], sortR d rows j, rfl, (by walk_at "t"), (by walk_at "t"), okm, by unfold sortR; rw [sortM_len]; omega, RT.nil h3, by unfold sortR; rw [gaps_sortM]; rfl, fun qh' H4 nq e4 kq4 => ?_⟩
    exact k1 j hj m qh' H4 (by walk_at "na") (by walk_at "na") (by walk_at "e") kq4 (by walk_at "t")
end
end MV

/-! A lambda of one parameter handed to a method and called there. -/
namespace SB
open PySem PySem.Spec PyProof.Rows L2 LamX
/-- the very object at a -/
def ExO (a : Addr) (o : Obj) : HO := .ext fun h => h.get? a = some o
theorem exO_ok {P : Program} {w : World} {H : Hp} {h : Heap} {a : Addr} {o : Obj} (e : h.get? a = some o) : ObjOk P w H h a (ExO a o) := ⟨e, ⟨o, e⟩, fun _ _ p k => k _ p⟩
/-- what the function at f answers to whole numbers -/
def Fq (P : Program) (w : World) (H : Hp) (f : Addr) (wf : Int → Bool) : Prop :=
  ∃ L : List (Addr × (Heap → Prop)), (∀ p ∈ L, H p.1 = some (.ext p.2)) ∧ ∀ s : Shared, (∀ p ∈ L, p.2 s.heap) → s.heap.NoLimit → PySem.W.FnAt f s.heap ∧
    ∀ (A : Around) (i : Int) (t : Tok), A.depth < recursionLimit → wpAny (model P w) A (call (.ref f) [.int i t]) (fun v s' => v = .bool (wf i) ∧ ∃ h' tk, s' = { s with heap := h', toks := tk } ∧ ∀ b o, s.heap.get? b = some o → h'.get? b = some o) (fun _ _ => False) s
theorem Fq.imp {P : Program} {w : World} {H H' : Hp} {f : Addr} {wf : Int → Bool} (h : Fq P w H f wf) (k : ∀ a φ, H a = some (.ext φ) → H' a = some (.ext φ)) : Fq P w H' f wf := by
  obtain ⟨L, h1, h2⟩ := h
  exact ⟨L, fun p hp => k _ _ (h1 p hp), h2⟩
/-- f(x), f a name's value -/
def tFq (P : Program) (w : World) (i : Nat) (ta : TE) : TE := fun σ H Q => ∃ f wf, σ[i]? = some (some (.ref f)) ∧ Fq P w H f wf ∧ ta σ H fun v H1 => ∃ x, v = .int x ∧ Fq P w H1 f wf ∧ Q (.bl (wf x)) H1
theorem pe_fq {X : Cx} {P : Program} {w : World} {x : Str} {i j : Nat} {e : Expr} {ta : TE} {p pos : Pos} (hP : X.prog = P) (hw : X.w = w) (hN : X.N[i]? = some x) (hv : Vis X.env.scope x) (ha : PE X e ta) (hr : Room j X.A)
    (hd : (x == ("__debug__" : Str)) = false := by decide) (hcd : (x == ("__classdict__" : Str)) = false := by decide)
    (he : starEach [e] X.env = (false, eval e X.env) :: starEach [] X.env := by rfl) (hpl : (backTo pos (starEach [] X.env)).any (·.1) = false := by rfl) : PE X (.Call (.Name x p) [e] [] pos) (tFq P w i ta) := by
  subst hP hw
  refine ⟨fun pins s σ H Q I h => ?_⟩
  obtain ⟨f, wf, hs, hF, ht⟩ := h
  refine wpAny_Call_Name_kw (thn ((pe_var (pos := p) hN hv hd hcd).run pins s σ H (fun v H1 => v = .ref f ∧ H1 = H) I ⟨.ref f, hs, rfl, rfl⟩) fun u s1 ⟨v, H1, I1, r1, q1⟩ => ?_)
  obtain ⟨rfl, rfl⟩ := q1
  cases r1
  have at1 : PySem.W.FnAt f s1.heap := by
    obtain ⟨L, h1, h2⟩ := hF
    exact (h2 s1 (fun p hp => (I1.hok p.1 _ (h1 p hp)).1) I1.nolimit).1
  refine PySem.W.callWith_F at1 (thn ((pa_cons ha pa_nil he).run pos pins s1 σ _ (fun vs H2 => ∃ x, vs = [.int x] ∧ Fq X.prog X.w H2 f wf ∧ Q (.bl (wf x)) H2) I1 ?_) fun us s2 ⟨vs, H2, I2, r2, y, ev, hF2, q2⟩ => ?_) he hpl
  · show ta σ _ fun v H2 => ∃ x, [v] = [.int x] ∧ _ ∧ _
    have e0 : (fun (v : V) (H2 : Hp) => ∃ x, [v] = [V.int x] ∧ Fq X.prog X.w H2 f wf ∧ Q (.bl (wf x)) H2) = fun v H2 => ∃ x, v = .int x ∧ Fq X.prog X.w H2 f wf ∧ Q (.bl (wf x)) H2 := by
      funext v H2
      simp
    rw [e0]
    exact ht
  · subst ev
    obtain ⟨u, rfl, ru⟩ := r2.one
    obtain ⟨t, rfl⟩ := ru
    obtain ⟨L, h1, h2⟩ := hF2
    obtain ⟨at2, run⟩ := h2 s2 (fun p hp => (I2.hok p.1 _ (h1 p hp)).1) I2.nolimit
    refine ⟨at2, wpAny_mono (run X.A y t hr.depth) (fun v s' hq => ?_) fun _ _ z => z.elim⟩
    obtain ⟨rfl, h', tk, rfl, kp⟩ := hq
    exact ⟨.bl (wf y), H2, I2.kept kp, rfl, q2⟩
/-! ### the lambda as a value -/
def tLamV (T : List (Addr × Str)) (q : Str) (params : Arguments) (body : Expr) (scope : Scope) (cl : List (Str × Addr)) : TE := fun _ H Q => Tabs T H ∧
  ∀ (f c' : Addr) (pm ctv : Value) (H1 : Hp), ExtN H H1 → Tabs T H1 → H f = none → H1 f = some (ExO f (PySem.W.kla_obj "<lambda>" q params body scope cl pm c' ctv)) → H1 c' = some (CodeO c' q) → Q (.ref f) H1
theorem extN_new {H : Hp} {a : Addr} {o : HO} (n : H a = none) : ∀ b u, H b = some u → upd H a o b = some u := fun b u e => by
  rw [upd_ne (ne_of_none e n)]
  exact e
theorem pe_lamV {X : Cx} {T : List (Addr × Str)} {c PT : Addr} {params : Arguments} {body : Expr} {scope : Scope} {pos : Pos} (TB : TabB X.base X.mg c PT) (hcode : X.env.code = .ref c) (hmT : (PT, X.env.qual ++ "<lambda>") ∈ T) (hu : ∀ p ∈ T, p.1 = PT → p.2 = X.env.qual ++ "<lambda>")
    (hdef : defaultsOf params X.env = ([], [])) (hfr : ∀ y ∈ scope.names, y.2 = .free → X.env.scope.names.lookup y.1 = some .cell ∨ X.env.scope.names.lookup y.1 = some .free) :
    PE X (.Lambda params body scope pos) (tLamV T (X.env.qual ++ "<lambda>") params body scope (cloFrom X.env.cells scope.names [])) := by
  refine ⟨fun pins s σ H Q I ⟨hT, h⟩ => PySem.W.kla_eval hdef ?_⟩
  obtain ⟨tb, htb, htr, hcs⟩ := hT _ hmT
  have hcells : ∀ y ∈ scope.names, y.2 = .free → ∃ c, X.env.cells.lookup y.1 = some c := fun y hy e => I.ok.has _ (hfr y hy e)
  have tbh : s.heap.get? PT = some { cls := .none, data := .fields tb } := I.hok PT _ htb
  have bP : s.heap.BuiltinsAt X.mg PT := TB.bm.keeps I.bk
  cases hf : codeAmong pos tb.toList with
  | some cv =>
    obtain ⟨c', rfl, hco⟩ := hcs pos cv hf
    refine PySem.W.kla_makeFunctionHit (mg := X.mg) (c := c) (P := PT) (ps := tb) (closure_ok hcells) I.ok.glob (I.mod.glob.keeps I.bk) hcode (TB.code.keeps I.bk) tbh htr hf bP fun ctv h' tk kp hsz => ?_
    have J : Inv X pins σ H { s with heap := h', toks := tk } := I.kept kp
    have nf : H h'.objs.size = none := J.hok.fresh (Nat.le_refl _)
    have J2 : Inv X pins σ (upd H h'.objs.size (ExO h'.objs.size (PySem.W.kla_obj "<lambda>" (X.env.qual ++ "<lambda>") params body scope (cloFrom X.env.cells scope.names []) ((X.mg "__name__").getD .none) c' ctv))) { s with heap := h'.push (PySem.W.kla_obj "<lambda>" (X.env.qual ++ "<lambda>") params body scope (cloFrom X.env.cells scope.names []) ((X.mg "__name__").getD .none) c' ctv), toks := tk } :=
      J.laid (t' := tk) (fun b o e => Heap.get?_push_of_some _ e) (Nat.le_refl _) (exO_ok (Heap.get?_push_size _ rfl))
    exact ⟨.ref h'.objs.size, _, J2, rfl, h _ c' _ ctv _ (ExtN.of (extN_new nf)) (hT.ext (extN_new nf)) nf upd_same (extN_new nf _ _ hco)⟩
  | none =>
    refine PySem.W.kla_makeFunction (mg := X.mg) (c := c) (P := PT) (ps := tb) (closure_ok hcells) I.ok.glob (I.mod.glob.keeps I.bk) hcode (TB.code.keeps I.bk) tbh htr hf TB.gP bP fun c' ctv h' tk hx hge hlt hrec htb2 => ?_
    obtain ⟨c2, oc, vs, t, e2, hoc, hd, hv⟩ := hrec
    cases e2
    have nC : H c' = none := I.hok.fresh hge
    have J := inv_table (t' := tk) (more := #[rawInt pos.line, rawInt pos.col, .ref c']) (h' := h') I htb (fun b o hb e => hx b o hb e) htb2 hge ⟨oc, vs, t, hoc, hd, hv⟩
    have hE : ExtN H (upd (upd H PT (.tbl (tb ++ #[rawInt pos.line, rawInt pos.col, .ref c']))) c' (CodeO c' (X.env.qual ++ "<lambda>"))) := fun b o e n => by
      have hbP : b ≠ PT := fun z => n tb (Option.some.inj (e.symm.trans (z ▸ htb)))
      rw [upd_ne (ne_of_none e nC), upd_ne hbP, e]
    have hcodes : ∀ (b : Addr) (q : Str), H b = some (CodeO b q) → _ := fun b q e => hE b _ e codeO_ne
    have hT2 : Tabs T (upd (upd H PT (.tbl (tb ++ #[rawInt pos.line, rawInt pos.col, .ref c']))) c' (CodeO c' (X.env.qual ++ "<lambda>"))) := fun p hp => by
      have eL : (tb ++ #[rawInt pos.line, rawInt pos.col, Value.ref c']).toList = tb.toList ++ [rawInt pos.line, rawInt pos.col, Value.ref c'] := by simp
      by_cases hb : p.1 = PT
      · rw [hu p hp hb, hb]
        refine ⟨_, (upd_ne (ne_of_none htb nC)).trans upd_same, by rw [eL]; exact PySem.TriplesOk_snoc _ _ _ _ htr, fun p2 cv hcv => ?_⟩
        rw [eL] at hcv
        rcases among_app _ htr hcv with z | rfl
        · obtain ⟨c0, h1, h2⟩ := hcs p2 cv z
          exact ⟨c0, h1, hcodes _ _ h2⟩
        · exact ⟨c', rfl, upd_same⟩
      · obtain ⟨tb2, a1, a2, a3⟩ := hT p hp
        refine ⟨tb2, (upd_ne (ne_of_none a1 nC)).trans ((upd_ne hb).trans a1), a2, fun p2 cv hcv => ?_⟩
        obtain ⟨c0, h1, h2⟩ := a3 p2 cv hcv
        exact ⟨c0, h1, hcodes _ _ h2⟩
    have nf := J.hok.fresh (Nat.le_refl h'.objs.size)
    have nf0 : H h'.objs.size = none := I.hok.fresh (Nat.le_trans hge (Nat.le_of_lt hlt))
    have J2 := J.laid (t' := tk) (a := h'.objs.size) (h' := h'.push (PySem.W.kla_obj "<lambda>" (X.env.qual ++ "<lambda>") params body scope (cloFrom X.env.cells scope.names []) ((X.mg "__name__").getD .none) c' ctv)) (fun b o e => Heap.get?_push_of_some _ e) (Nat.le_refl _) (exO_ok (Heap.get?_push_size _ rfl))
    exact ⟨.ref h'.objs.size, _, J2, rfl, h _ c' _ ctv _ (hE.trans (ExtN.of (extN_new nf))) (hT2.ext (extN_new nf)) nf0 upd_same (extN_new nf _ _ upd_same)⟩
/-! ### the method that gets it: the captured number's cell is told to it -/
def tMoC (X : Cx) (x : Str) (j : Nat) (C : Addr) (m : Str) (sp : Sp) (ta : TE) (t : TA) : TE := fun σ H Q => ta σ H fun y H1 => ∃ a dx fs, y = .ref a ∧ H1 a = some (.ins C dx fs) ∧ fs.lookup m = none ∧ t σ H1 fun vs H2 => ∃ i : Int, σ[j]? = some (some (.int i)) ∧
  ∀ (c : Addr) (oc : Obj) (tok : Tok), X.env.cells.lookup x = some c → oc.data = .cell (some (.int i tok)) → H2 c = none → (∀ q, ExO c oc ≠ CodeO c q) → sp (.ref a :: vs) (upd H2 c (ExO c oc)) (fun v H3 => H3 c = some (ExO c oc) ∧ Q v (delH H3 c)) C8.E0
theorem pe_moC {X : Cx} {k j jx : Nat} {C : Addr} {m x : Str} {sp : Sp} {o e : Expr} {es : List Expr} {ta : TE} {t : TA} {apos pos : Pos} {pl : Sem Bool} (hN : X.N[jx]? = some x) (hcell : X.env.scope.names.lookup x = some .cell) (hfn : X.fn x = true) (he : PE X o ta) (cl : Cls X.K C) (c : Me X.prog X.w X.K X.mg X.base C8.CX0 k C m sp) (hr : Room j X.A) (hk : k ≤ j) (ha : PA X (e :: es) t)
    (hst : starEach (e :: es) X.env = (false, eval e X.env) :: starEach es X.env := by rfl) (hpl : (backTo pos (starEach es X.env)).any (·.1) = false := by rfl)
    (ht : eval (.Call (.Attribute o m apos) (e :: es) [] pos) X.env = (do
      let ov ← eval o X.env
      standAt apos.atName
      let (f, first) ← holding [ov] (getMethod ov m pl)
      callWith pos f first (backTo pos (starEach (e :: es) X.env)) (backToKw pos (keywordEach [] X.env))) := by rfl) :
    PE X (.Call (.Attribute o m apos) (e :: es) [] pos) (tMoC X x jx C m sp ta t) := by
  obtain ⟨g, F, h1, h2, h3⟩ := c.ex
  have hm : Meth X.K C m g := ⟨h1, h2, h3⟩
  refine ⟨fun pins s σ H Q I h => ?_⟩
  refine PySem.W.methodCall_KW (pl := pl) (thn (he.run pins s σ H _ I h) fun u s1 ⟨y, H1, I1, ry, a, dx, fs, ey, ea, l, q⟩ => ?_) ht
  subst ey
  obtain rfl : u = Value.ref a := ry
  refine getmeth_ok I1 ea cl hm l (PySem.W.callWith_K (first := [.ref a]) (h₀ := X.base) I.ok.mod.kin hm.kp (thn (ha.run pos pins s1 σ H1 _ I1 q) fun us s2 ⟨vs, H2, I2, r, i, hi, q2⟩ => ⟨I2.kIn, ?_⟩) hst hpl)
  obtain ⟨mp, hn, hl⟩ := I2.loc
  obtain ⟨ui, rui, lk⟩ := hl jx x (.int i) hN hi (.inr (.inl hcell))
  obtain ⟨tok, rfl⟩ := rui
  rcases lk with ⟨k', _⟩ | ⟨_, cc, hcc, oc, hoc, hdat⟩
  · have k2 : X.env.scope.names.lookup x = some .local := k'
    rw [hcell] at k2
    cases k2
  have hnc : H2 cc = none := I2.freeC x cc hcc
  have hge : X.s_0.heap.objs.size ≤ cc := I2.ok.cab x cc hfn hcc
  have hneq : ∀ q, ExO cc oc ≠ CodeO cc q := fun q z => by
    have z2 : (fun h : Heap => h.get? cc = some oc) = _ := HO.ext.inj z
    have z3 := congrFun z2 s2.heap
    rw [eq_iff_iff] at z3
    obtain ⟨o2, vs2, t2, g1, g2, _⟩ := z3.mp hoc
    rw [hoc] at g1
    cases g1
    rw [hdat] at g2
    cases g2
  have e0 := I2.env0
  have nfr : ∀ b ∈ frs X.stack, b ≠ cc := fun b hb z => by
    rcases List.mem_cons.mp (I2.stkSub b hb) with e | hb2
    · exact I2.cne x cc hcc (z ▸ e)
    · obtain ⟨_, o2, ho2, _⟩ := I2.ok.funs.mem hb2
      rw [z] at ho2
      exact Nat.lt_irrefl _ (Nat.lt_of_lt_of_le (Heap.lt_size ho2) hge)
  have ext0 : ∀ b u, H2 b = some u → upd H2 cc (ExO cc oc) b = some u := extN_new hnc
  have hok1 : HOk X.prog X.w (upd H2 cc (ExO cc oc)) s2.heap := fun b u e => by
    by_cases hb : b = cc
    · subst hb
      rw [upd_same] at e
      cases e
      exact exO_ok hoc
    · rw [upd_ne hb] at e
      exact (I2.hok b u e).stay (fun _ _ _ z => z) (fun d z => ext0 _ _ z) fun d xs z => ext0 _ _ z
  have e1 : Env0 X.prog X.w X.K X.mg X.base X.A X.stack s2 (upd H2 cc (ExO cc oc)) := ⟨e0.frames, e0.mod, fun b u e => ⟨(e0.bs b u e).1, by
      rw [upd_ne (fun z => Nat.lt_irrefl _ (Nat.lt_of_lt_of_le (Heap.lt_size (z ▸ e)) (Nat.le_trans I2.ok.bsz hge)))]
      exact (e0.bs b u e).2⟩, e0.bsz, e0.funs, fun b hb => by
      rw [upd_ne (nfr b hb)]
      exact e0.frf b hb, hok1, e0.bare⟩
  have hsp := q2 cc oc tok hcc hdat hnc hneq
  refine wpAny_call (codeAny_mono (F X.A X.stack s2 _ (.ref a :: us) (.ref a :: vs) _ C8.E0 (hr.mono hk) e1 (.cons rfl r) hsp) fun rr s' hq => ?_)
  cases rr with
  | error e => exact (show False from hq).elim
  | ok fl =>
    cases fl with
    | next => exact False.elim hq
    | brk => exact False.elim hq
    | cont => exact False.elim hq
    | ret u =>
      obtain ⟨v, H', os, bare, un, hok, rv, hc', qv⟩ := hq
      have dn : ∀ {b}, b ≠ cc → delH H' cc b = H' b := fun {b} hb => by
        unfold delH
        rw [if_neg hb]
      have nE : ∀ {b o}, H' b = some o → (∀ φ, o ≠ .ext φ) → b ≠ cc := fun {b o} e n z => by
        rw [z, hc'] at e
        exact n _ (Option.some.inj e).symm
      refine I2.after ⟨v, delH H' cc, os, bare, ⟨fun b ob hb n hf hx => ?_, fun b ob hb n hf hx => ?_, fun b ob hb n hx => ?_, fun b ob hb hx => un.there b ob hb hx, fun b xs hb => ?_, fun b ob ho hb => ?_, fun b ps hb => ?_⟩, fun b ob hb => ?_, rv, qv⟩
      · by_cases z : b = cc
        · subst z
          rw [hoc] at hb
          cases hb
          exact (hok b _ hc').1
        · exact un.keep b ob hb (by rw [upd_ne z]; exact n) hf hx
      · exact un.slot b ob hb (by rw [upd_ne (nfr b hf)]; exact n) hf hx
      · by_cases z : b = cc
        · subst z
          exact delH_same
        · rw [dn z]
          exact un.free b ob hb (by rw [upd_ne z]; exact n) hx
      · have z := un.tups b xs (ext0 _ _ hb)
        rw [dn (nE z fun _ y => by cases y)]
        exact z
      · have z := un.frzs b ob ho (ext0 _ _ hb)
        rw [dn (nE z fun _ y => by cases y)]
        exact z
      · obtain ⟨more, z⟩ := un.tbls b ps (ext0 _ _ hb)
        exact ⟨more, by rw [dn (nE z fun _ y => by cases y)]; exact z⟩
      · by_cases z : b = cc
        · subst z
          rw [delH_same] at hb
          cases hb
        · rw [dn z] at hb
          exact (hok b ob hb).stay (fun _ _ _ y => y) (fun d y => by rw [dn (nE y fun _ x => by cases x)]; exact y) fun d xs y => by rw [dn (nE y fun _ x => by cases x)]; exact y
/-! ### lambda x: x >= limit -/
def phiO : HO → Heap → Prop
  | .ext φ => φ
  | _ => fun _ => True
theorem fq_ge {P : Program} {w : World} {H : Hp} {f c c' : Addr} {q par cap : Str} {params : Arguments} {scope sc : Scope} {cells : List (Str × Addr)} {pm ctv : Value} {oc : Obj} {lim : Int} {tok : Tok} {p1 p2 p3 : Pos} (L : LamP sc scope par) (hfree : scope.names.lookup cap = some .free)
    (hf : H f = some (ExO f (PySem.W.kla_obj "<lambda>" q params (.Compare (.Name par p1) [.GtE] [.Name cap p2] p3) scope (cloFrom cells scope.names []) pm c' ctv))) (hc : H c = some (ExO c oc)) (hco : H c' = some (CodeO c' q)) (hd : oc.data = .cell (some (.int lim tok))) (hl : cells.lookup cap = some c)
    (hbind : ∀ v, bindArgs (PySem.W.kla_fn "<lambda>" q params (.Compare (.Name par p1) [.GtE] [.Name cap p2] p3) scope (cloFrom cells scope.names []) pm (.ref c') ctv) ⟨[v], []⟩ = pure [(par, v)])
    (d1 : (cap == ("__debug__" : Str)) = false := by decide) (d2 : (cap == ("__classdict__" : Str)) = false := by decide) (d3 : (par == ("__debug__" : Str)) = false := by decide) : Fq P w H f fun i => decide (lim ≤ i) := by
  have hmem := PySem.mem_of_lookup hfree
  have hlk : (cloFrom cells scope.names []).lookup cap = some c := by
    obtain ⟨c2, h2⟩ : ∃ c2, (cloFrom cells scope.names []).lookup cap = some c2 := mem_lookup (cloFrom_has (cells := cells) (acc := []) hmem)
    rcases cloFrom_mem (PySem.mem_of_lookup h2) with z | ⟨_, z⟩
    · cases z
    · rw [hl] at z
      rw [h2, z]
      rfl
  refine ⟨[(f, phiO (ExO f (PySem.W.kla_obj "<lambda>" q params (.Compare (.Name par p1) [.GtE] [.Name cap p2] p3) scope (cloFrom cells scope.names []) pm c' ctv))), (c, phiO (ExO c oc)), (c', phiO (CodeO c' q))], fun p hp => ?_, fun s hs hnl => ?_⟩
  · rcases List.mem_cons.mp hp with rfl | hp
    · exact hf
    · rcases List.mem_cons.mp hp with rfl | hp
      · exact hc
      · rw [List.mem_singleton.mp hp]
        exact hco
  · have g1 := hs _ (List.mem_cons_self)
    have g2 := hs _ (List.mem_cons_of_mem _ List.mem_cons_self)
    obtain ⟨o3, vs, t3, g3, g4, g5⟩ := hs _ (List.mem_cons_of_mem _ (List.mem_cons_of_mem _ List.mem_cons_self))
    refine ⟨⟨_, _, _, _, g1⟩, fun A i t hdep => wpAny_call (codeAny_mono (R := fun r s' => ∃ v, r = .ok (.ret v) ∧ v = .bool (decide (lim ≤ i)) ∧ ∃ h' tk, s' = { s with heap := h', toks := tk } ∧ ∀ b o, s.heap.get? b = some o → h'.get? b = some o) ?_ fun r s' hq => ?_)⟩
    · refine PySem.W.kla_callFunE hdep g1 rfl L.co L.gen rfl ⟨c', o3, vs, t3, rfl, g3, g4, g5⟩ ?_
      rw [hbind]
      refine wpAny_pure (wpAny_newFunctionEnv L.own (fun y hy => by rw [List.mem_singleton.mp hy]; exact L.par) (fun h₁ hns hsb => ?_) L.kind)
      have kp : ∀ b o, s.heap.get? b = some o → h₁.get? b = some o := fun b o e => hsb.extBut b o (Nat.ne_of_lt (Heap.lt_size e)) (Heap.get?_push_of_some _ e)
      refine ⟨hnl.keeps kp, PySem.W.kla_codeExpr (wpAny_Compare1 ?_ (nomark _))⟩
      refine ev_local (env := newEnv scope s.heap.objs.size mainGlobals (cloFrom cells scope.names []) (q ++ ".<locals>.") (some f) (.ref c') none builtinsNs) (u := .int i t) L.kind L.par hns (by simp) d3 _ _ _ _ rfl fun v tk hv => ?_
      subst hv
      refine ev_free (env := newEnv scope s.heap.objs.size mainGlobals (cloFrom cells scope.names []) (q ++ ".<locals>.") (some f) (.ref c') none builtinsNs) (u := .int lim tok) L.kind hfree hlk ⟨oc, kp _ _ g2, hd⟩ d1 d2 _ _ _ _ rfl fun v tk2 hv => ?_
      subst hv
      exact PyProof.Rows.ge_int ⟨_, rfl, rfl, h₁, tk2, rfl, kp⟩
    · obtain ⟨v, rfl, hv⟩ := hq
      exact hv
end SB

namespace MV
open PySem PySem.Spec PyProof.Rows L2 SB MM LamX StX
/-! Heaps with one told cell (SW), as they go on. -/
section
variable {TS : List (Addr × Str)} {L : List Addr} {P : Program} {w : World} {H H' : Hp} {f : Addr} {wf : Int → Bool}
theorem Ev.ext_ {a : Addr} {φ : Heap → Prop} (e : Ev TS L H H') (h : H a = some (.ext φ)) : H' a = some (.ext φ) := by
  obtain ⟨o', h', k⟩ := e.kd a _ h fun _ z => by cases z
  have z : o' = .ext φ := k
  rw [h', z]
theorem ev_fq (e : Ev TS L H H') (h : Fq P w H f wf) : Fq P w H' f wf := h.imp fun _ _ z => e.ext_ z
end
section
variable {TS : List (Addr × Str)} {L : List Addr} {K : PySem.W.Frag} {H Hp H3 : L2.Hp} {c : Addr} {oc : Obj}
theorem exO_ext {o : HO} (h : H3 c = some (ExO c oc)) (h' : H3 c = some o) (n : ∀ φ, o ≠ .ext φ) : False := by
  rw [h] at h'
  exact n _ (Option.some.inj h').symm
theorem del_at {p : Addr} {o : HO} (h : H3 c = some (ExO c oc)) (hp : H3 p = some o) (n : ∀ φ, o ≠ .ext φ) : delH H3 c p = some o := by
  have hn : p ≠ c := fun z => by
    subst z
    exact exO_ext h hp n
  rw [delH_ne hn]
  exact hp
/-- the told cell is forgotten again -/
theorem ev_del (n : H c = none) (e : Ev TS [] H Hp) (h : Hp c = some (ExO c oc)) (ne : ∀ q, ExO c oc ≠ CodeO c q) (x : Ev TS L Hp H3) : Ev TS L H (delH H3 c) := by
  have h3 : H3 c = some (ExO c oc) := x.ext_ h
  refine ⟨fun p o hp f nt => ?_, fun p o hp nt => ?_, fun t y hy => ?_⟩
  · rw [delH_ne (ne_of_none hp n)]
    exact x.st p o (e.st p o hp (fun z => nomatch z) nt) f nt
  · obtain ⟨o1, g1, k1⟩ := e.kd p o hp nt
    obtain ⟨o2, g2, k2⟩ := x.kd p o1 g1 (k1.nt nt)
    exact ⟨o2, by rw [delH_ne (ne_of_none hp n)]; exact g2, k1.trans k2⟩
  · obtain ⟨ps, a1, a2, a3⟩ := x.tb (e.tb t) y hy
    refine ⟨ps, del_at h3 a1 (fun φ z => by cases z), a2, fun pos cv hcv => ?_⟩
    obtain ⟨c0, b1, b2⟩ := a3 pos cv hcv
    refine ⟨c0, b1, ?_⟩
    have hn : c0 ≠ c := fun z => by
      subst z
      rw [h3] at b2
      exact ne y.2 (Option.some.inj b2)
    rw [delH_ne hn]
    exact b2
theorem sqT_del {p : Addr} {xs : List V} (h : H3 c = some (ExO c oc)) (x : SqT K H3 p xs) : SqT K (delH H3 c) p xs := by
  rcases x with (x | ⟨o, x⟩) | x
  · exact .inl (.inl (del_at h x fun φ z => by cases z))
  · exact .inl (.inr ⟨o, del_at h x fun φ z => by cases z⟩)
  · exact .inr x
theorem kq_del {CK a qh : Addr} {nms : List Str} {rows : List (List Int)} (h : H3 c = some (ExO c oc)) (x : KQ CK H3 a qh nms rows) : KQ CK (delH H3 c) a qh nms rows := by
  obtain ⟨dx, qn, rs, g1, ⟨ob, g2, g2'⟩, g3, g4, g5⟩ := x
  exact ⟨dx, qn, rs, del_at h g1 (fun φ z => by cases z), ⟨ob, del_at h g2 (fun φ z => by cases z), g2'⟩, del_at h g3 (fun φ z => by cases z), fun r hr => del_at h (g4 r hr) (fun φ z => by cases z), g5⟩
theorem move_del {C a : Addr} {t : Nat} {ps : List Int} (h : H3 c = some (ExO c oc)) (x : MoveAt K C H3 a t ps) : MoveAt K C (delH H3 c) a t ps := by
  obtain ⟨dx, q, h1, h2⟩ := x
  exact ⟨dx, q, del_at h h1 (fun φ z => by cases z), sqT_del h h2⟩
end
end MV

/-! a op= b, both instances of a class with an in-place operator of its own. -/
namespace SB
open PySem PySem.Spec PyProof.Rows L2
theorem iop_own {X : Cx} {CX : CXT} {k j : Nat} {C : Addr} {sp : Sp} {E : XK} {op : Operator} {nm : Str} (c : Me X.prog X.w X.K X.mg X.base CX k C nm sp) (hnm : PySem.dunderI op.info.2 = nm) (hc : PySem.W.selfFirst X.K C = true) (hr : Room j X.A) (hk : k ≤ j) (hx : Passes CX X E) : PIp X op (rOwn2 C sp E) := by
  obtain ⟨g, F, hs, hf, _⟩ := c.ex
  intro pins s σ H x y v u Q I rx ry h
  obtain ⟨a, dx, fs, b, dy, gs, rfl, rfl, ha, hb, q⟩ := h
  cases (show v = Value.ref a from rx)
  cases (show u = Value.ref b from ry)
  obtain ⟨ox, od, J⟩ := inst_at I ha
  obtain ⟨m, hF⟩ := I.fr
  subst hnm
  refine PySem.W.ksp_inplace (op := op) hF I.ok.mod.kin J hc hs hf ?_
  refine wpAny_mono (wpAny_call (run_fnR (us := [.ref a, .ref b]) (vs := [.ref a, .ref b]) F (hr.mono hk) hx I (.cons rfl (.cons rfl .nil)) q)) (fun w s' z => ?_) fun _ _ x => x
  exact cmpback z
end SB

namespace MV
open PySem PySem.Spec PyProof.Rows L2 SB MM LamX StX
local macro_rules | `(tactic| walk_at "rd") => `(tactic| repeat (first | (refine ⟨_, rfl, ?_⟩) | (refine ⟨_, _, rfl, rfl, ?_⟩) | (refine ⟨_, _, rfl, ?_⟩) | (refine ⟨rfl, ?_⟩) | (with_reducible refine st_nil ?_) | (with_reducible refine st_cons ?_) | (with_reducible refine st_C ?_)))
local macro_rules | `(tactic| walk_at "isL") => `(tactic| first | assumption | (apply isL.of; assumption) | (apply isL.bag; assumption) | (apply isL.lr; assumption) | (apply KQ.isL; assumption) | (apply isL.ev; assumption; walk_at "isL"))
local macro_rules | `(tactic| walk_at "isI") => `(tactic| first | assumption | (apply isI.of; assumption) | (apply KQ.isI; assumption) | (apply MoveAt.isI; assumption) | (apply isI.ev; assumption; walk_at "isI"))
local macro_rules | `(tactic| walk_at "al") => `(tactic| first | assumption | (apply isL.al; walk_at "isL") | (apply isI.al; walk_at "isI") | (apply Al.dK; assumption) | (apply Al.dT; assumption) | (apply Al.ev; assumption; walk_at "al"))
local macro_rules | `(tactic| walk_at "ne") => `(tactic| first | (apply NeH.of; assumption) | (apply NeH.ofs; assumption) | (apply neLI; walk_at "isL"; walk_at "isI") | (apply neIL; walk_at "isI"; walk_at "isL") | (apply Al.ne; assumption; walk_at "al") | (apply Al.ens; assumption; walk_at "al") | (apply NA.ne; assumption; walk_at "al") | (apply NA.ens; assumption; walk_at "al"))
local macro_rules | `(tactic| walk_at "nin") => `(tactic| first | exact trivial | (refine And.intro ?_ ?_; walk_at "ne"; walk_at "nin"))
local macro_rules | `(tactic| walk_at "t") => `(tactic| first | assumption | (apply ev_tup; assumption; walk_at "t") | (apply ev_lst; assumption; walk_at "t"; walk_at "nin") | (apply ev_ins; assumption; walk_at "t"; walk_at "nin") | (apply ev_dK; assumption; walk_at "t"; walk_at "nin") | (apply ev_dT; assumption; walk_at "t"; walk_at "nin") | (apply ev_ra; assumption; walk_at "t") | (apply ev_bag; assumption; walk_at "t"; walk_at "nin") | (apply ev_lr; assumption; walk_at "t"; walk_at "nin") | (apply ev_kq; assumption; walk_at "t"; walk_at "nin"; walk_at "nin") | (apply ev_tabs; assumption; walk_at "t") | (apply ev_fzT; assumption; walk_at "t") | (apply ev_od; assumption; walk_at "t") | (apply ev_odR; assumption; walk_at "t") | (apply ev_cels; assumption; walk_at "t") | (apply ev_move; assumption; walk_at "t"; walk_at "nin") | (apply ev_rt; assumption; walk_at "t") | (apply ev_goodR; assumption; walk_at "t") | (apply ev_rowvs; assumption; walk_at "t") | (apply ev_dm; assumption; walk_at "t")  | (apply SqL.of; walk_at "t") | (apply SqT.of; walk_at "t") | (apply ev_sqT; assumption; walk_at "t") | (apply ev_sqL; assumption; walk_at "t"; walk_at "nin"))
local macro_rules | `(tactic| walk_at "le") => `(tactic| first | exact Le.refl _ | (apply Le.ev; assumption; walk_at "le"))
local macro_rules | `(tactic| walk_at "om") => `(tactic| first | exact Or.inl (List.mem_cons_self) | exact Or.inl (List.mem_cons_of_mem _ List.mem_cons_self) | exact Or.inl (List.mem_cons_of_mem _ (List.mem_cons_of_mem _ List.mem_cons_self)) | (apply Or.inr; apply nal0; assumption) | (apply Or.inr; apply Le.nal; assumption; walk_at "le") | (apply Or.inr; apply Le.na; assumption; walk_at "le"))
local macro_rules | `(tactic| walk_at "out") => `(tactic| first | exact trivial | (refine And.intro ?_ ?_; walk_at "om"; walk_at "out"))
local macro_rules | `(tactic| walk_at "e") => `(tactic| first | assumption | exact Ev.refl _ _ | (apply Ev.trans'; assumption; walk_at "e"; walk_at "out"))
local macro_rules | `(tactic| walk_at "c") => `(tactic| dsimp only [tNil, tCons, tC])
local macro_rules | `(tactic| walk_at "na") => `(tactic| first | assumption | (apply NA.of; assumption) | (apply Le.nal; assumption; walk_at "le") | (apply Le.na; assumption; walk_at "le"))
local macro_rules | `(tactic| walk_at "rs") => `(tactic| repeat (first | (with_reducible refine st_nil ?_) | (with_reducible refine st_cons ?_) | (with_reducible refine st_C ?_)))
local macro_rules | `(tactic| walk_at "rv") => `(tactic| repeat (first | (refine ⟨_, rfl, ?_⟩) | (with_reducible refine st_nil ?_) | (with_reducible refine st_cons ?_) | (with_reducible refine st_C ?_)))
local macro_rules | `(tactic| walk_at "if") => `(tactic| first | refine ifT rfl ?_ | refine ifF rfl ?_ | skip)
abbrev s_grow : Stmt := top 37
section
variable {P : Program} {w : World} {K : PySem.W.Frag} {mg : Str → Option Value} {base : Heap} {KPT CK CDL : Addr} {TS : List (Addr × Str)}
theorem sc_grow : FnScope ["_law_one", "_law_other"] ["_law_one", "_law_other"] (defScope s_grow) := ⟨rfl, rfl, rfl, by decide +kernel, rfl, by decide +kernel, by decide +kernel⟩
theorem ok_grow {f : Addr} {fd : FuncData} (F : Fun K "_law_grow" "_law_grow" s_grow f fd) (T : TxtKe K mg KPT CK) (ksf : PySem.W.selfFirst K CK = true) (MKiadd : Me P w K mg base (L2.CX P w) 4 CK "__iadd__" (spKIadd TS CK CDL)) : FnR P w K mg base (L2.CX P w) 5 f (spKIadd TS CK CDL) := by
  refine fnrX F sc_grow (fun vs H Q E h => ?_) (fun _ _ _ _ _ _ us hl => match us, hl with | [_, _], _ => rfl) (fun cdv A outer s H vs Q E hr h => ?_)
  · obtain ⟨a, qa, b, qb, na, nb, ra, rb, rfl, _⟩ := h
    rfl
  · obtain ⟨a, qa, b, qb, na, nb, ra, rb, rfl, kk, hsz, k1, k2⟩ := h
    obtain ⟨dx, fs, hx⟩ := kk.1.ins
    obtain ⟨dy, gs, hy⟩ := kk.2.1.ins
    refine ⟨_, (pss_cons (ps_aug (i := 0) sc_grow.nd rfl (Or.inl rfl) (pv 1) (iop_own MKiadd rfl ksf hr (by decide) (passL rfl rfl rfl rfl)))
      (pss_one (ps_ret (pv 0)))), ?_⟩
    walk_at "rv"
    refine ⟨a, dx, fs, b, dy, gs, rfl, rfl, hx, hy, a, qa, b, qb, na, nb, ra, rb, rfl, kk, hsz, fun e qx H1 nq e1 kq1 => ?_, k2⟩
    walk_at "rd"
    exact k1 e qx H1 nq e1 kq1
end
end MV

namespace MV
open PySem PySem.Spec PyProof.Rows L2 SB
abbrev s_BadNames : Stmt := inClass (top 7) 0
abbrev s_BadRow : Stmt := inClass (top 8) 0
abbrev s_NoPlace : Stmt := inClass (top 4) 0
abbrev s_NoName : Stmt := inClass (top 9) 0
abbrev s_Mismatch : Stmt := inClass (top 5) 0
abbrev s_DifferentLists : Stmt := inClass (top 6) 0
theorem se_here : True := trivial
end MV

namespace MV
open PySem PySem.Spec PyProof.Rows L2 SB MM LamX
local macro_rules | `(tactic| walk_at "rd") => `(tactic| repeat (first | (refine ⟨_, rfl, ?_⟩) | (refine ⟨_, _, rfl, rfl, ?_⟩) | (refine ⟨_, _, rfl, ?_⟩) | (refine ⟨rfl, ?_⟩) | (with_reducible refine st_nil ?_) | (with_reducible refine st_cons ?_) | (with_reducible refine st_C ?_)))
local macro_rules | `(tactic| walk_at "isL") => `(tactic| first | assumption | (apply isL.of; assumption) | (apply isL.bag; assumption) | (apply isL.lr; assumption) | (apply KQ.isL; assumption) | (apply isL.ev; assumption; walk_at "isL"))
local macro_rules | `(tactic| walk_at "isI") => `(tactic| first | assumption | (apply isI.of; assumption) | (apply KQ.isI; assumption) | (apply MoveAt.isI; assumption) | (apply isI.ev; assumption; walk_at "isI"))
local macro_rules | `(tactic| walk_at "al") => `(tactic| first | assumption | (apply isL.al; walk_at "isL") | (apply isI.al; walk_at "isI") | (apply Al.dK; assumption) | (apply Al.dT; assumption) | (apply Al.ev; assumption; walk_at "al"))
local macro_rules | `(tactic| walk_at "ne") => `(tactic| first | (apply NeH.of; assumption) | (apply NeH.ofs; assumption) | (apply neLI; walk_at "isL"; walk_at "isI") | (apply neIL; walk_at "isI"; walk_at "isL") | (apply Al.ne; assumption; walk_at "al") | (apply Al.ens; assumption; walk_at "al") | (apply NA.ne; assumption; walk_at "al") | (apply NA.ens; assumption; walk_at "al"))
local macro_rules | `(tactic| walk_at "nin") => `(tactic| first | exact trivial | (refine And.intro ?_ ?_; walk_at "ne"; walk_at "nin"))
local macro_rules | `(tactic| walk_at "t") => `(tactic| first | assumption | (apply ev_tup; assumption; walk_at "t") | (apply ev_lst; assumption; walk_at "t"; walk_at "nin") | (apply ev_ins; assumption; walk_at "t"; walk_at "nin") | (apply ev_dK; assumption; walk_at "t"; walk_at "nin") | (apply ev_dT; assumption; walk_at "t"; walk_at "nin") | (apply ev_ra; assumption; walk_at "t") | (apply ev_bag; assumption; walk_at "t"; walk_at "nin") | (apply ev_lr; assumption; walk_at "t"; walk_at "nin") | (apply ev_kq; assumption; walk_at "t"; walk_at "nin"; walk_at "nin") | (apply ev_tabs; assumption; walk_at "t") | (apply ev_fzT; assumption; walk_at "t") | (apply ev_od; assumption; walk_at "t") | (apply ev_odR; assumption; walk_at "t") | (apply ev_cels; assumption; walk_at "t") | (apply ev_move; assumption; walk_at "t"; walk_at "nin") | (apply ev_rt; assumption; walk_at "t") | (apply ev_goodR; assumption; walk_at "t") | (apply ev_rowvs; assumption; walk_at "t") | (apply ev_dm; assumption; walk_at "t")  | (apply SqL.of; walk_at "t") | (apply SqT.of; walk_at "t") | (apply ev_sqT; assumption; walk_at "t") | (apply ev_sqL; assumption; walk_at "t"; walk_at "nin"))
local macro_rules | `(tactic| walk_at "le") => `(tactic| first | exact Le.refl _ | (apply Le.ev; assumption; walk_at "le"))
local macro_rules | `(tactic| walk_at "om") => `(tactic| first | exact Or.inl (List.mem_cons_self) | exact Or.inl (List.mem_cons_of_mem _ List.mem_cons_self) | exact Or.inl (List.mem_cons_of_mem _ (List.mem_cons_of_mem _ List.mem_cons_self)) | (apply Or.inr; apply nal0; assumption) | (apply Or.inr; apply Le.nal; assumption; walk_at "le") | (apply Or.inr; apply Le.na; assumption; walk_at "le"))
local macro_rules | `(tactic| walk_at "out") => `(tactic| first | exact trivial | (refine And.intro ?_ ?_; walk_at "om"; walk_at "out"))
local macro_rules | `(tactic| walk_at "e") => `(tactic| first | assumption | exact Ev.refl _ _ | (apply Ev.trans'; assumption; walk_at "e"; walk_at "out"))
local macro_rules | `(tactic| walk_at "c") => `(tactic| dsimp only [tNil, tCons, tC])
local macro_rules | `(tactic| walk_at "na") => `(tactic| first | assumption | (apply NA.of; assumption) | (apply Le.nal; assumption; walk_at "le") | (apply Le.na; assumption; walk_at "le"))
local macro_rules | `(tactic| walk_at "rs") => `(tactic| repeat (first | (with_reducible refine st_nil ?_) | (with_reducible refine st_cons ?_) | (with_reducible refine st_C ?_)))
local macro_rules | `(tactic| walk_at "rv") => `(tactic| repeat (first | (refine ⟨_, rfl, ?_⟩) | (with_reducible refine st_nil ?_) | (with_reducible refine st_cons ?_) | (with_reducible refine st_C ?_)))
local macro_rules | `(tactic| walk_at "if") => `(tactic| first | refine ifT rfl ?_ | refine ifF rfl ?_ | skip)
abbrev s_sv_init : Stmt := inClass (top 28) 0
abbrev s_sv_enter : Stmt := inClass (top 28) 1
abbrev s_sv_exit : Stmt := inClass (top 28) 2
/-- the fields of a Saved -/
def svs (k l : Addr) : List (Str × V) := putF "rows_before" (.ref l) (putF "keeper" (.ref k) [])
structure TxtSv (K : PySem.W.Frag) (CS : Addr) : Prop where
  ck : Cls K CS
  nk : PySem.W.findIn K (.ref CS) "keeper" = some none
  nr : PySem.W.findIn K (.ref CS) "rows_before" = some none
theorem svs_k (k l : Addr) : (svs k l).lookup ("keeper" : Str) = some (.ref k) := by
  unfold svs
  rw [lookup_putF, if_neg (by decide +kernel), lookup_putF, if_pos rfl]
theorem svs_r (k l : Addr) : (svs k l).lookup ("rows_before" : Str) = some (.ref l) := by
  unfold svs
  rw [lookup_putF, if_pos rfl]
theorem svs_put (k l m : Addr) : putF "rows_before" (.ref m) (svs k l) = svs k m := by
  unfold svs
  rfl
def spSvExit (TS : List (Addr × Str)) (CK CS : Addr) : Sp := fun vs H Q _ => (∃ x : Addr, vs = [.ref x, .non, .non, .non] ∧ Q .non H) ∨
  ∃ (x dx k l dk qn qh : Addr) (cv va vt : V), vs = [.ref x, cv, va, vt] ∧ ((∃ CE, cv = .ref CE) ∨ ∃ n, cv = .ty n) ∧ H x = some (.ins CS dx (svs k l)) ∧ H k = some (.ins CK dk (kfs qn qh)) ∧ ∀ H', Ev TS [k] H H' → H' k = some (.ins CK dk (kfs qn l)) → Q .non H'
section
variable {P : Program} {w : World} {K : PySem.W.Frag} {mg : Str → Option Value} {base : Heap} {KPT CK CS : Addr} {TS : List (Addr × Str)}
theorem sc_sv_exit : FnScope ["self", "kind", "value", "trace"] ["self", "kind", "value", "trace"] (defScope s_sv_exit) := ⟨rfl, rfl, rfl, by decide +kernel, rfl, by decide +kernel, by decide +kernel⟩
theorem ok_svexit {f : Addr} {fd : FuncData} (F : Fun K "__exit__" "Saved.__exit__" s_sv_exit f fd) (T : TxtKe K mg KPT CK) (TV : TxtSv K CS) : FnR P w K mg base CX0 1 f (spSvExit TS CK CS) := by
  refine fnr F sc_sv_exit (fun vs H Q E h => ?_) (fun _ _ _ _ _ _ us hl => match us, hl with | [_, _, _, _], _ => rfl) (fun cdv A outer s H vs Q E hr h => ?_)
  · rcases h with ⟨x, rfl, _⟩ | ⟨x, dx, k, l, dk, qn, qh, cv, va, vt, rfl, _⟩ <;> rfl
  · refine ⟨_, (pss_one (ps_if (pt_cmpR op_notN (pv 1) pe_non (nomark _)) (pss_one (ps_fld (pe_fld (pv 0) (by rfl)) (pe_fld (pv 0) (by rfl)) rfl)) pss_nil)), ?_⟩
    rcases h with ⟨x, rfl, q⟩ | ⟨x, dx, k, l, dk, qn, qh, cv, va, vt, rfl, hcv, hx, hk, q⟩
    · walk_at "rd"
      exact q
    · rcases hcv with ⟨CE, rfl⟩ | ⟨nm, rfl⟩
      · skip
        walk_at "rd"
        refine ⟨x, CS, dx, _, _, rfl, hx, TV.ck, TV.nr, svs_r k l, ?_⟩
        walk_at "rd"
        refine ⟨x, CS, dx, _, _, rfl, hx, TV.ck, TV.nk, svs_k k l, ?_⟩
        walk_at "rd"
        refine ⟨k, CK, dk, _, rfl, hk, T.ck, T.nh, (by rw [kfs_eq]; show 2 < 1000; decide), ?_⟩
        rw [kfs_put]
        generalize hXX : upd _ k _ = H1
        obtain ⟨e1, h1⟩ := setI_facts (TS := TS) hXX hk
        clear hXX
        walk_at "rs"
        walk_at "rd"
        exact q H1 e1 h1
      · skip
        walk_at "rd"
        refine ⟨x, CS, dx, _, _, rfl, hx, TV.ck, TV.nr, svs_r k l, ?_⟩
        walk_at "rd"
        refine ⟨x, CS, dx, _, _, rfl, hx, TV.ck, TV.nk, svs_k k l, ?_⟩
        walk_at "rd"
        refine ⟨k, CK, dk, _, rfl, hk, T.ck, T.nh, (by rw [kfs_eq]; show 2 < 1000; decide), ?_⟩
        rw [kfs_put]
        generalize hXX : upd _ k _ = H1
        obtain ⟨e1, h1⟩ := setI_facts (TS := TS) hXX hk
        clear hXX
        walk_at "rs"
        walk_at "rd"
        exact q H1 e1 h1
/-- .. called while the exception is handled -/
theorem okq_svexit {f : Addr} {fd : FuncData} (F : Fun K "__exit__" "Saved.__exit__" s_sv_exit f fd) (T : TxtKe K mg KPT CK) (TV : TxtSv K CS) : FnQ P w K mg base 1 f (spSvExit TS CK CS) := by
  obtain ⟨oc, od, kV, doc, pm, an, cdv, ct, osl, rfl, lk, hcd⟩ := F.ex
  refine fn_q lk hcd sc_sv_exit (fun us hl => match us, hl with | [_, _, _, _], _ => rfl) (fun vs H Q E h => ?_) (fun A outer s H vs Q p hr h => ?_)
  · rcases h with ⟨x, rfl, _⟩ | ⟨x, dx, k, l, dk, qn, qh, cv, va, vt, rfl, _⟩ <;> rfl
  · refine ⟨_, (pss_one (ps_if (pt_cmpR op_notN (pv 1) pe_non (nomark _)) (pss_one (ps_fld (pe_fld (pv 0) (by rfl)) (pe_fld (pv 0) (by rfl)) rfl)) pss_nil)), ?_⟩
    rcases h with ⟨x, rfl, q⟩ | ⟨x, dx, k, l, dk, qn, qh, cv, va, vt, rfl, hcv, hx, hk, q⟩
    · walk_at "rd"
      exact q
    · rcases hcv with ⟨CE, rfl⟩ | ⟨nm, rfl⟩
      · skip
        walk_at "rd"
        refine ⟨x, CS, dx, _, _, rfl, hx, TV.ck, TV.nr, svs_r k l, ?_⟩
        walk_at "rd"
        refine ⟨x, CS, dx, _, _, rfl, hx, TV.ck, TV.nk, svs_k k l, ?_⟩
        walk_at "rd"
        refine ⟨k, CK, dk, _, rfl, hk, T.ck, T.nh, (by rw [kfs_eq]; show 2 < 1000; decide), ?_⟩
        rw [kfs_put]
        generalize hXX : upd _ k _ = H1
        obtain ⟨e1, h1⟩ := setI_facts (TS := TS) hXX hk
        clear hXX
        walk_at "rs"
        walk_at "rd"
        exact q H1 e1 h1
      · skip
        walk_at "rd"
        refine ⟨x, CS, dx, _, _, rfl, hx, TV.ck, TV.nr, svs_r k l, ?_⟩
        walk_at "rd"
        refine ⟨x, CS, dx, _, _, rfl, hx, TV.ck, TV.nk, svs_k k l, ?_⟩
        walk_at "rd"
        refine ⟨k, CK, dk, _, rfl, hk, T.ck, T.nh, (by rw [kfs_eq]; show 2 < 1000; decide), ?_⟩
        rw [kfs_put]
        generalize hXX : upd _ k _ = H1
        obtain ⟨e1, h1⟩ := setI_facts (TS := TS) hXX hk
        clear hXX
        walk_at "rs"
        walk_at "rd"
        exact q H1 e1 h1
end
end MV

namespace MV
open PySem PySem.Spec PyProof.Rows L2 SB MM LamX
local macro_rules | `(tactic| walk_at "rd") => `(tactic| repeat (first | (refine ⟨_, rfl, ?_⟩) | (refine ⟨_, _, rfl, rfl, ?_⟩) | (refine ⟨_, _, rfl, ?_⟩) | (refine ⟨rfl, ?_⟩) | (with_reducible refine st_nil ?_) | (with_reducible refine st_cons ?_) | (with_reducible refine st_C ?_)))
local macro_rules | `(tactic| walk_at "isL") => `(tactic| first | assumption | (apply isL.of; assumption) | (apply isL.bag; assumption) | (apply isL.lr; assumption) | (apply KQ.isL; assumption) | (apply isL.ev; assumption; walk_at "isL"))
local macro_rules | `(tactic| walk_at "isI") => `(tactic| first | assumption | (apply isI.of; assumption) | (apply KQ.isI; assumption) | (apply MoveAt.isI; assumption) | (apply isI.ev; assumption; walk_at "isI"))
local macro_rules | `(tactic| walk_at "al") => `(tactic| first | assumption | (apply isL.al; walk_at "isL") | (apply isI.al; walk_at "isI") | (apply Al.dK; assumption) | (apply Al.dT; assumption) | (apply Al.ev; assumption; walk_at "al"))
local macro_rules | `(tactic| walk_at "ne") => `(tactic| first | (apply NeH.of; assumption) | (apply NeH.ofs; assumption) | (apply neLI; walk_at "isL"; walk_at "isI") | (apply neIL; walk_at "isI"; walk_at "isL") | (apply Al.ne; assumption; walk_at "al") | (apply Al.ens; assumption; walk_at "al") | (apply NA.ne; assumption; walk_at "al") | (apply NA.ens; assumption; walk_at "al"))
local macro_rules | `(tactic| walk_at "nin") => `(tactic| first | exact trivial | (refine And.intro ?_ ?_; walk_at "ne"; walk_at "nin"))
local macro_rules | `(tactic| walk_at "t") => `(tactic| first | assumption | (apply ev_tup; assumption; walk_at "t") | (apply ev_lst; assumption; walk_at "t"; walk_at "nin") | (apply ev_ins; assumption; walk_at "t"; walk_at "nin") | (apply ev_dK; assumption; walk_at "t"; walk_at "nin") | (apply ev_dT; assumption; walk_at "t"; walk_at "nin") | (apply ev_ra; assumption; walk_at "t") | (apply ev_bag; assumption; walk_at "t"; walk_at "nin") | (apply ev_lr; assumption; walk_at "t"; walk_at "nin") | (apply ev_kq; assumption; walk_at "t"; walk_at "nin"; walk_at "nin") | (apply ev_tabs; assumption; walk_at "t") | (apply ev_fzT; assumption; walk_at "t") | (apply ev_od; assumption; walk_at "t") | (apply ev_odR; assumption; walk_at "t") | (apply ev_cels; assumption; walk_at "t") | (apply ev_move; assumption; walk_at "t"; walk_at "nin") | (apply ev_rt; assumption; walk_at "t") | (apply ev_goodR; assumption; walk_at "t") | (apply ev_rowvs; assumption; walk_at "t") | (apply ev_dm; assumption; walk_at "t")  | (apply SqL.of; walk_at "t") | (apply SqT.of; walk_at "t") | (apply ev_sqT; assumption; walk_at "t") | (apply ev_sqL; assumption; walk_at "t"; walk_at "nin"))
local macro_rules | `(tactic| walk_at "le") => `(tactic| first | exact Le.refl _ | (apply Le.ev; assumption; walk_at "le"))
local macro_rules | `(tactic| walk_at "om") => `(tactic| first | exact Or.inl (List.mem_cons_self) | exact Or.inl (List.mem_cons_of_mem _ List.mem_cons_self) | exact Or.inl (List.mem_cons_of_mem _ (List.mem_cons_of_mem _ List.mem_cons_self)) | (apply Or.inr; apply nal0; assumption) | (apply Or.inr; apply Le.nal; assumption; walk_at "le") | (apply Or.inr; apply Le.na; assumption; walk_at "le"))
local macro_rules | `(tactic| walk_at "out") => `(tactic| first | exact trivial | (refine And.intro ?_ ?_; walk_at "om"; walk_at "out"))
local macro_rules | `(tactic| walk_at "e") => `(tactic| first | assumption | exact Ev.refl _ _ | (apply Ev.trans'; assumption; walk_at "e"; walk_at "out"))
local macro_rules | `(tactic| walk_at "c") => `(tactic| dsimp only [tNil, tCons, tC])
local macro_rules | `(tactic| walk_at "na") => `(tactic| first | assumption | (apply NA.of; assumption) | (apply Le.nal; assumption; walk_at "le") | (apply Le.na; assumption; walk_at "le"))
local macro_rules | `(tactic| walk_at "rs") => `(tactic| repeat (first | (with_reducible refine st_nil ?_) | (with_reducible refine st_cons ?_) | (with_reducible refine st_C ?_)))
local macro_rules | `(tactic| walk_at "rv") => `(tactic| repeat (first | (refine ⟨_, rfl, ?_⟩) | (with_reducible refine st_nil ?_) | (with_reducible refine st_cons ?_) | (with_reducible refine st_C ?_)))
local macro_rules | `(tactic| walk_at "if") => `(tactic| first | refine ifT rfl ?_ | refine ifF rfl ?_ | skip)
def spSvInit (TS : List (Addr × Str)) (CS : Addr) : Sp := fun vs H Q _ => ∃ x dx k : Addr, vs = [.ref x, .ref k] ∧ H x = some (.ins CS dx []) ∧ ∀ l H', NA H l → Ev TS [x] H H' → H' x = some (.ins CS dx (svs k l)) → H' l = some (.lst []) → Q .non H'
def spSvEnter (TS : List (Addr × Str)) (CK CS : Addr) : Sp := fun vs H Q _ => ∃ (x dx k l qh : Addr) (nms : List Str) (rows : List (List Int)), vs = [.ref x] ∧ H x = some (.ins CS dx (svs k l)) ∧ KQ CK H k qh nms rows ∧ rows.length ≤ 10000 ∧ k ≠ x ∧
  ∀ m H', NA H m → Ev TS [x] H H' → H' x = some (.ins CS dx (svs k m)) → LR H' m rows → Q (.ref k) H'
section
variable {P : Program} {w : World} {K : PySem.W.Frag} {mg : Str → Option Value} {base : Heap} {KPT CK CS : Addr} {TS : List (Addr × Str)}
theorem sc_sv_init : FnScope ["self", "keeper"] ["self", "keeper"] (defScope s_sv_init) := ⟨rfl, rfl, rfl, by decide +kernel, rfl, by decide +kernel, by decide +kernel⟩
theorem ok_svinit {f : Addr} {fd : FuncData} (F : Fun K "__init__" "Saved.__init__" s_sv_init f fd) (TV : TxtSv K CS) : FnR P w K mg base CX0 1 f (spSvInit TS CS) := by
  refine fnr F sc_sv_init (fun vs H Q E h => ?_) (fun _ _ _ _ _ _ us hl => match us, hl with | [_, _], _ => rfl) (fun cdv A outer s H vs Q E hr h => ?_)
  · obtain ⟨x, dx, k, rfl, _⟩ := h
    rfl
  · obtain ⟨x, dx, k, rfl, hx, q⟩ := h
    refine ⟨_, (pss_cons (ps_fld (pv 0) (pv 1) rfl)
      (pss_one (ps_fld (pv 0) (pe_lst pa_nil) rfl))), ?_⟩
    walk_at "rd"
    refine ⟨x, CS, dx, _, rfl, hx, TV.ck, TV.nk, (by show 0 < 1000; decide), ?_⟩
    generalize hXX : upd _ x _ = H1
    obtain ⟨e1, h1⟩ := setI_facts (TS := TS) hXX hx
    clear hXX
    walk_at "rs"
    walk_at "rd"
    refine ⟨by show 0 ≤ sizeLine; decide, fun l hl => ?_⟩
    generalize hXX : upd _ l _ = H2
    obtain ⟨e2, h2⟩ := new_facts (TS := TS) hXX hl
    clear hXX
    walk_at "rs"
    walk_at "rd"
    have hx2 : H2 x = some (.ins CS dx (putF "keeper" (.ref k) [])) := (by walk_at "t")
    refine ⟨x, CS, dx, _, rfl, hx2, TV.ck, TV.nr, (by show 1 < 1000; decide), ?_⟩
    generalize hXX : upd _ x _ = H3
    obtain ⟨e3, h3⟩ := setI_facts (TS := TS) hXX hx2
    clear hXX
    walk_at "rs"
    walk_at "rd"
    exact q l H3 (by walk_at "na") (by walk_at "e") h3 (by walk_at "t")
theorem sc_sv_enter : FnScope ["self"] ["self"] (defScope s_sv_enter) := ⟨rfl, rfl, rfl, by decide +kernel, rfl, by decide +kernel, by decide +kernel⟩
theorem ok_sventer {f : Addr} {fd : FuncData} (F : Fun K "__enter__" "Saved.__enter__" s_sv_enter f fd) (T : TxtKe K mg KPT CK) (TV : TxtSv K CS) : FnR P w K mg base CX0 1 f (spSvEnter TS CK CS) := by
  refine fnr F sc_sv_enter (fun vs H Q E h => ?_) (fun _ _ _ _ _ _ us hl => match us, hl with | [_], _ => rfl) (fun cdv A outer s H vs Q E hr h => ?_)
  · obtain ⟨x, dx, k, l, qh, nms, rows, rfl, _⟩ := h
    rfl
  · obtain ⟨x, dx, k, l, qh, nms, rows, rfl, hx, kq, hz, nkx, q⟩ := h
    obtain ⟨dk, qn, rs, hk, hqn, hqh, ra, ers⟩ := id kq
    refine ⟨_, (pss_cons (ps_fld (pv 0) (pe_callTy call_list_of (by rfl) T.n_list (by decide +kernel) (pa_cons (pe_fld (pe_fld (pv 0) (by rfl)) (by rfl)) pa_nil)) rfl)
      (pss_one (ps_ret (pe_fld (pv 0) (by rfl))))), ?_⟩
    walk_at "rd"
    refine ⟨x, CS, dx, _, _, rfl, hx, TV.ck, TV.nk, svs_k k l, ?_⟩
    walk_at "rd"
    refine ⟨k, CK, dk, _, _, rfl, hk, T.ck, T.nh, kfs_held _ _, ?_⟩
    walk_at "rd"
    refine ⟨qh, _, rfl, .inl (SqL.of hqh), fun m hm => ?_⟩
    generalize hXX : upd _ m _ = H1
    obtain ⟨e1, h1⟩ := new_facts (TS := TS) hXX hm
    clear hXX
    walk_at "rs"
    walk_at "rd"
    have hx1 : H1 x = some (.ins CS dx (svs k l)) := (by walk_at "t")
    refine ⟨x, CS, dx, _, rfl, hx1, TV.ck, TV.nr, (by show 2 < 1000; decide), ?_⟩
    rw [svs_put]
    generalize hXX : upd _ x _ = H2
    obtain ⟨e2, h2⟩ := setI_facts (TS := TS) hXX hx1
    clear hXX
    walk_at "rs"
    walk_at "rd"
    refine ⟨x, CS, dx, _, _, rfl, h2, TV.ck, TV.nk, svs_k k m, ?_⟩
    walk_at "rd"
    have ra2 : RA H2 rs := (by walk_at "t")
    have h12 : H2 m = some (.lst (rs.map refR)) := (by walk_at "t")
    exact q m H2 (by walk_at "na") (by walk_at "e") h2 ⟨rs, h12, ra2, ers⟩
end
end MV

/-! a handed function (its promise is told of a heap in which its cells are locked as ext facts), called. -/
namespace SB
open PySem PySem.Spec PyProof.Rows L2
/-- the function at f keeps sp, wherever the facts of L stand -/
def Fa (P : Program) (w : World) (K : PySem.W.Frag) (mg : Str → Option Value) (base : Heap) (CX : CXT) (k : Nat) (f : Addr) (sp : Sp) (H : Hp) : Prop :=
  ∃ L : List (Addr × (Heap → Prop)), (∀ p ∈ L, H p.1 = some (.ext p.2)) ∧ (∀ s : Shared, (∀ p ∈ L, p.2 s.heap) → s.heap.NoLimit → PySem.W.FnAt f s.heap) ∧
    ∀ (A : Around) (outer : List Env) (s : Shared) (H' : Hp) (us : List Value) (vs : List V) (Q : VK) (E : XK), Room k A → Env0 P w K mg base A outer s H' → (∀ p ∈ L, H' p.1 = some (.ext p.2)) → Vals vs us → sp vs H' Q E →
      codeAny (model P w) A (.call (.ref f) ⟨us, []⟩) (CR CX outer P w H' s Q E) s
theorem Fa.imp {P : Program} {w : World} {K : PySem.W.Frag} {mg : Str → Option Value} {base : Heap} {CX : CXT} {k : Nat} {f : Addr} {sp : Sp} {H H' : Hp} (h : Fa P w K mg base CX k f sp H) (e : ∀ a φ, H a = some (.ext φ) → H' a = some (.ext φ)) : Fa P w K mg base CX k f sp H' := by
  obtain ⟨L, h1, h2, h3⟩ := h
  exact ⟨L, fun p hp => e _ _ (h1 p hp), h2, h3⟩
def tFa (P : Program) (w : World) (K : PySem.W.Frag) (mg : Str → Option Value) (base : Heap) (CX : CXT) (k i : Nat) (E : XK) (t : TA) : TE := fun σ H Q => ∃ f sp, σ[i]? = some (some (.ref f)) ∧ Fa P w K mg base CX k f sp H ∧ t σ H fun vs H1 => Fa P w K mg base CX k f sp H1 ∧ sp vs H1 Q E
/-- .. where what is wished of an exception leans on the slots (within try and with) -/
def tFaS (P : Program) (w : World) (K : PySem.W.Frag) (mg : Str → Option Value) (base : Heap) (CX : CXT) (k i : Nat) (E : L2.St → XK) (t : TA) : TE := fun σ H Q => ∃ f sp, σ[i]? = some (some (.ref f)) ∧ Fa P w K mg base CX k f sp H ∧ t σ H fun vs H1 => Fa P w K mg base CX k f sp H1 ∧ sp vs H1 Q (E σ)
theorem pe_fa {X : Cx} {CX : CXT} {k j i : Nat} {E : XK} {x : Str} {e : Expr} {es : List Expr} {t : TA} {p pos : Pos} (hN : X.N[i]? = some x) (hv : Vis X.env.scope x) (ha : PA X (e :: es) t) (hr : Room j X.A) (hk : k ≤ j) (hx : Passes CX X E)
    (hd : (x == ("__debug__" : Str)) = false := by decide) (hcd : (x == ("__classdict__" : Str)) = false := by decide)
    (he : starEach (e :: es) X.env = (false, eval e X.env) :: starEach es X.env := by rfl) (hpl : (backTo pos (starEach es X.env)).any (·.1) = false := by rfl) : PE X (.Call (.Name x p) (e :: es) [] pos) (tFa X.prog X.w X.K X.mg X.base CX k i E t) := by
  refine ⟨fun pins s σ H Q I h => ?_⟩
  obtain ⟨f, sp, hs, hF, ht⟩ := h
  refine wpAny_Call_Name_kw (thn ((pe_var (pos := p) hN hv hd hcd).run pins s σ H (fun v H1 => v = .ref f ∧ H1 = H) I ⟨.ref f, hs, rfl, rfl⟩) fun u s1 ⟨v, H1, I1, r1, q1⟩ => ?_)
  obtain ⟨rfl, eH⟩ := q1
  cases r1
  rw [← eH] at hF ht
  have seen : ∀ {s' : Shared} {H' : Hp}, Inv X pins σ H' s' → Fa X.prog X.w X.K X.mg X.base CX k f sp H' → PySem.W.FnAt f s'.heap := fun J hF' => by
    obtain ⟨L, h1, h2, _⟩ := hF'
    exact h2 _ (fun p hp => (J.hok p.1 _ (h1 p hp)).1) J.nolimit
  refine PySem.W.callWith_F (seen I1 hF) (thn (ha.run pos pins s1 σ H1 _ I1 ht) fun us s2 ⟨vs, H2, I2, r2, hF2, q2⟩ => ?_) he hpl
  refine ⟨seen I2 hF2, wpAny_call ?_⟩
  obtain ⟨L, h1, _, run⟩ := hF2
  refine codeAny_mono (run X.A X.stack s2 H2 us vs Q E (hr.mono hk) I2.env0 h1 r2 q2) fun r s' hq => ?_
  cases r with
  | error e => exact hx pins σ H2 s2 e s' I2 hq
  | ok fl =>
    cases fl with
    | ret u => exact I2.after hq
    | next => exact hq.elim
    | brk => exact hq.elim
    | cont => exact hq.elim
theorem pe_faS {X : Cx} {CX : CXT} {k j i : Nat} {E : L2.St → XK} {x : Str} {e : Expr} {es : List Expr} {t : TA} {p pos : Pos} (hN : X.N[i]? = some x) (hv : Vis X.env.scope x) (ha : PA X (e :: es) t) (hr : Room j X.A) (hk : k ≤ j) (hx : ∀ σ, PassesAt CX X σ (E σ))
    (hd : (x == ("__debug__" : Str)) = false := by decide) (hcd : (x == ("__classdict__" : Str)) = false := by decide)
    (he : starEach (e :: es) X.env = (false, eval e X.env) :: starEach es X.env := by rfl) (hpl : (backTo pos (starEach es X.env)).any (·.1) = false := by rfl) : PE X (.Call (.Name x p) (e :: es) [] pos) (tFaS X.prog X.w X.K X.mg X.base CX k i E t) := by
  refine ⟨fun pins s σ H Q I h => ?_⟩
  obtain ⟨f, sp, hs, hF, ht⟩ := h
  refine wpAny_Call_Name_kw (thn ((pe_var (pos := p) hN hv hd hcd).run pins s σ H (fun v H1 => v = .ref f ∧ H1 = H) I ⟨.ref f, hs, rfl, rfl⟩) fun u s1 ⟨v, H1, I1, r1, q1⟩ => ?_)
  obtain ⟨rfl, eH⟩ := q1
  cases r1
  rw [← eH] at hF ht
  have seen : ∀ {s' : Shared} {H' : Hp}, Inv X pins σ H' s' → Fa X.prog X.w X.K X.mg X.base CX k f sp H' → PySem.W.FnAt f s'.heap := fun J hF' => by
    obtain ⟨L, h1, h2, _⟩ := hF'
    exact h2 _ (fun p hp => (J.hok p.1 _ (h1 p hp)).1) J.nolimit
  refine PySem.W.callWith_F (seen I1 hF) (thn (ha.run pos pins s1 σ H1 _ I1 ht) fun us s2 ⟨vs, H2, I2, r2, hF2, q2⟩ => ?_) he hpl
  refine ⟨seen I2 hF2, wpAny_call ?_⟩
  obtain ⟨L, h1, _, run⟩ := hF2
  refine codeAny_mono (run X.A X.stack s2 H2 us vs Q (E σ) (hr.mono hk) I2.env0 h1 r2 q2) fun r s' hq => ?_
  cases r with
  | error e => exact hx σ pins H2 s2 e s' I2 hq
  | ok fl =>
    cases fl with
    | ret u => exact I2.after hq
    | next => exact hq.elim
    | brk => exact hq.elim
    | cont => exact hq.elim
/-- .. the context's parts named -/
theorem pe_faV {X : Cx} {P : Program} {w : World} {K : PySem.W.Frag} {mg : Str → Option Value} {base : Heap} {CX : CXT} {k j i : Nat} {E : L2.St → XK} {x : Str} {e : Expr} {es : List Expr} {t : TA} {p pos : Pos} (hP : X.prog = P) (hw : X.w = w) (hK : X.K = K) (hm : X.mg = mg) (hb : X.base = base) (hN : X.N[i]? = some x) (hv : Vis X.env.scope x) (ha : PA X (e :: es) t) (hr : Room j X.A) (hk : k ≤ j) (hx : ∀ σ, PassesAt CX X σ (E σ))
    (hd : (x == ("__debug__" : Str)) = false := by decide) (hcd : (x == ("__classdict__" : Str)) = false := by decide)
    (he : starEach (e :: es) X.env = (false, eval e X.env) :: starEach es X.env := by rfl) (hpl : (backTo pos (starEach es X.env)).any (·.1) = false := by rfl) : PE X (.Call (.Name x p) (e :: es) [] pos) (tFaS P w K mg base CX k i E t) := by
  subst hP hw hK hm hb
  exact pe_faS hN hv ha hr hk hx hd hcd he hpl
end SB

/-! A nested def handed to a method: its captured cells are told to the callee as locked objects. -/
namespace SB
open PySem PySem.Spec PyProof.Rows L2 NdefX LamX
abbrev Cls_ := List (Addr × Obj)
/-- the cells cs are told -/
def lkH (H : Hp) : List (Addr × Obj) → Hp
  | [] => H
  | p :: r => upd (lkH H r) p.1 (ExO p.1 p.2)
/-- .. and forgotten again -/
def unH (H : Hp) (cs : List (Addr × Obj)) : Hp := fun b => if b ∈ cs.map Prod.fst then none else H b
def LkOk (H : Hp) (cs : List (Addr × Obj)) : Prop := ∀ p ∈ cs, H p.1 = some (ExO p.1 p.2)
def FrOk (H : Hp) (cs : List (Addr × Obj)) : Prop := ∀ p ∈ cs, H p.1 = none
/-- the cells are what they are -/
structure CsOk (cs : List (Addr × Obj)) (h : Heap) (fs : List Addr) : Prop where
  nd : (cs.map Prod.fst).Nodup
  at_ : ∀ p ∈ cs, h.get? p.1 = some p.2
  off : ∀ p ∈ cs, p.1 ∉ fs
section
variable {H H' : Hp} {cs : List (Addr × Obj)} {P : Program} {w : World} {h h' : Heap} {fs : List Addr}
theorem unH_ne {b : Addr} (n : b ∉ cs.map Prod.fst) : unH H cs b = H b := if_neg n
theorem unH_in {b : Addr} (n : b ∈ cs.map Prod.fst) : unH H cs b = none := if_pos n
theorem unH_some {b : Addr} {o : HO} (e : unH H cs b = some o) : b ∉ cs.map Prod.fst ∧ H b = some o := by
  unfold unH at e
  split at e
  · cases e
  · rename_i n
    exact ⟨n, e⟩
theorem fr_un : FrOk (unH H cs) cs := fun p hp => unH_in (List.mem_map.mpr ⟨p, hp, rfl⟩)
theorem lkH_ne {b : Addr} : ∀ {cs : List (Addr × Obj)}, b ∉ cs.map Prod.fst → lkH H cs b = H b
  | [], _ => rfl
  | p :: r, n => by
    rw [List.map_cons, List.mem_cons, not_or] at n
    show upd (lkH H r) p.1 (ExO p.1 p.2) b = H b
    rw [upd_ne n.1]
    exact lkH_ne n.2
theorem lkH_in : ∀ {cs : List (Addr × Obj)}, (cs.map Prod.fst).Nodup → ∀ p ∈ cs, lkH H cs p.1 = some (ExO p.1 p.2)
  | [], _, p, hp => nomatch hp
  | q :: r, nd, p, hp => by
    rw [List.map_cons, List.nodup_cons] at nd
    show upd (lkH H r) q.1 (ExO q.1 q.2) p.1 = _
    rcases List.mem_cons.mp hp with rfl | hp
    · exact upd_same
    · have n : p.1 ≠ q.1 := fun z => nd.1 (by rw [← z]; exact List.mem_map.mpr ⟨p, hp, rfl⟩)
      rw [upd_ne n]
      exact lkH_in nd.2 p hp
theorem lk_ok (nd : (cs.map Prod.fst).Nodup) : LkOk (lkH H cs) cs := lkH_in nd
theorem lk_ext (fr : FrOk H cs) {b : Addr} {u : HO} (e : H b = some u) : lkH H cs b = some u := by
  rw [lkH_ne fun z => ?_]
  · exact e
  · obtain ⟨p, hp, rfl⟩ := List.mem_map.mp z
    rw [fr p hp] at e
    cases e
theorem lk_notin (k : LkOk H cs) {b : Addr} {u : HO} (e : H b = some u) (n : ∀ φ, u ≠ .ext φ) : b ∉ cs.map Prod.fst := fun z => by
  obtain ⟨p, hp, rfl⟩ := List.mem_map.mp z
  rw [k p hp] at e
  exact n _ (Option.some.inj e).symm
theorem un_at (k : LkOk H cs) {b : Addr} {u : HO} (e : H b = some u) (n : ∀ φ, u ≠ .ext φ) : unH H cs b = some u := by
  rw [unH_ne (lk_notin k e n)]
  exact e
theorem hok_lk (k : HOk P w H h) (fr : FrOk H cs) (c : CsOk cs h fs) : HOk P w (lkH H cs) h := fun b u e => by
  by_cases hb : b ∈ cs.map Prod.fst
  · obtain ⟨p, hp, rfl⟩ := List.mem_map.mp hb
    rw [lkH_in c.nd p hp] at e
    cases e
    exact exO_ok (c.at_ p hp)
  · rw [lkH_ne hb] at e
    exact (k b u e).stay (fun _ _ _ z => z) (fun d z => lk_ext fr z) fun d xs z => lk_ext fr z
theorem hok_un (k : HOk P w H h) (l : LkOk H cs) : HOk P w (unH H cs) h := fun b u e => by
  obtain ⟨hb, e⟩ := unH_some e
  exact (k b u e).stay (fun _ _ _ z => z) (fun d z => un_at l z fun φ y => by cases y) fun d xs z => un_at l z fun φ y => by cases y
/-- a call's way, seen without the told cells -/
theorem un_of_lk (u : Un fs [] (lkH H cs) H' h h') (k' : HOk P w H' h') (l' : LkOk H' cs) (fr : FrOk H cs) (c : CsOk cs h fs) : Un fs [] H (unH H' cs) h h' := by
  have no : ∀ {b}, b ∉ cs.map Prod.fst → lkH H cs b = H b := fun hb => lkH_ne hb
  refine ⟨fun b ob hb n hf hx => ?_, fun b ob hb n hf hx => ?_, fun b ob hb n hx => ?_, fun b ob hb hx => u.there b ob hb hx, fun b xs hb => ?_, fun b ob ho hb => ?_, fun b ps hb => ?_⟩
  · by_cases z : b ∈ cs.map Prod.fst
    · obtain ⟨p, hp, rfl⟩ := List.mem_map.mp z
      rw [c.at_ p hp] at hb
      cases hb
      exact (k' p.1 _ (l' p hp)).1
    · exact u.keep b ob hb (by rw [no z]; exact n) hf hx
  · have nb : b ∉ cs.map Prod.fst := fun z => by
      obtain ⟨p, hp, rfl⟩ := List.mem_map.mp z
      exact c.off p hp hf
    exact u.slot b ob hb (by rw [no nb]; exact n) hf hx
  · by_cases z : b ∈ cs.map Prod.fst
    · exact unH_in z
    · rw [unH_ne z]
      exact u.free b ob hb (by rw [no z]; exact n) hx
  · exact un_at l' (u.tups b xs (lk_ext fr hb)) fun φ y => by cases y
  · exact un_at l' (u.frzs b ob ho (lk_ext fr hb)) fun φ y => by cases y
  · obtain ⟨more, z⟩ := u.tbls b ps (lk_ext fr hb)
    exact ⟨more, un_at l' z fun φ y => by cases y⟩
theorem ub_of_lk {B : Heap} (u : UB fs (lkH H cs) H' h B h') (k' : HOk P w H' B) (l' : LkOk H' cs) (fr : FrOk H cs) (c : CsOk cs h fs) : UB fs H (unH H' cs) h B h' := by
  have no : ∀ {b}, b ∉ cs.map Prod.fst → lkH H cs b = H b := fun hb => lkH_ne hb
  refine ⟨fun b ob hb n hf => ?_, u.slot, fun b ob hb n => ?_, u.there, fun b xs hb => ?_, fun b ob ho hb => ?_, fun b ps hb => ?_⟩
  · by_cases z : b ∈ cs.map Prod.fst
    · obtain ⟨p, hp, rfl⟩ := List.mem_map.mp z
      rw [c.at_ p hp] at hb
      cases hb
      exact (k' p.1 _ (l' p hp)).1
    · exact u.keep b ob hb (by rw [no z]; exact n) hf
  · by_cases z : b ∈ cs.map Prod.fst
    · exact unH_in z
    · rw [unH_ne z]
      exact u.free b ob hb (by rw [no z]; exact n)
  · exact un_at l' (u.tups b xs (lk_ext fr hb)) fun φ y => by cases y
  · exact un_at l' (u.frzs b ob ho (lk_ext fr hb)) fun φ y => by cases y
  · obtain ⟨more, z⟩ := u.tbls b ps (lk_ext fr hb)
    exact ⟨more, un_at l' z fun φ y => by cases y⟩
/-- .. and the other way round: a call within, seen with the told cells -/
theorem un_of_un (u : Un fs [] (unH H cs) H' h h') (l : LkOk H cs) (c : CsOk cs h fs) : FrOk H' cs ∧ CsOk cs h' fs ∧ Un fs [] H (lkH H' cs) h h' := by
  have fr' : FrOk H' cs := fun p hp => u.free p.1 p.2 (c.at_ p hp) (unH_in (List.mem_map.mpr ⟨p, hp, rfl⟩)) (by simp)
  have at' : ∀ p ∈ cs, h'.get? p.1 = some p.2 := fun p hp => u.keep p.1 p.2 (c.at_ p hp) (unH_in (List.mem_map.mpr ⟨p, hp, rfl⟩)) (c.off p hp) (by simp)
  have nin : ∀ {b}, H b = none → b ∉ cs.map Prod.fst := fun {b} n z => by
    obtain ⟨p, hp, rfl⟩ := List.mem_map.mp z
    rw [l p hp] at n
    cases n
  refine ⟨fr', ⟨c.nd, at', c.off⟩, fun b ob hb n hf hx => u.keep b ob hb (by rw [unH_ne (nin n)]; exact n) hf hx, fun b ob hb n hf hx => u.slot b ob hb (by rw [unH_ne (nin n)]; exact n) hf hx, fun b ob hb n hx => ?_, u.there, fun b xs hb => ?_, fun b ob ho hb => ?_, fun b ps hb => ?_⟩
  · rw [lkH_ne (nin n)]
    exact u.free b ob hb (by rw [unH_ne (nin n)]; exact n) hx
  · exact lk_ext fr' (u.tups b xs (un_at l hb fun φ y => by cases y))
  · exact lk_ext fr' (u.frzs b ob ho (un_at l hb fun φ y => by cases y))
  · obtain ⟨more, z⟩ := u.tbls b ps (un_at l hb fun φ y => by cases y)
    exact ⟨more, lk_ext fr' z⟩
theorem ub_of_un {B : Heap} (u : UB fs (unH H cs) H' h B h') (l : LkOk H cs) (c : CsOk cs h fs) : FrOk H' cs ∧ CsOk cs B fs ∧ UB fs H (lkH H' cs) h B h' := by
  have fr' : FrOk H' cs := fun p hp => u.free p.1 p.2 (c.at_ p hp) (unH_in (List.mem_map.mpr ⟨p, hp, rfl⟩))
  have at' : ∀ p ∈ cs, B.get? p.1 = some p.2 := fun p hp => u.keep p.1 p.2 (c.at_ p hp) (unH_in (List.mem_map.mpr ⟨p, hp, rfl⟩)) (c.off p hp)
  have nin : ∀ {b}, H b = none → b ∉ cs.map Prod.fst := fun {b} n z => by
    obtain ⟨p, hp, rfl⟩ := List.mem_map.mp z
    rw [l p hp] at n
    cases n
  refine ⟨fr', ⟨c.nd, at', c.off⟩, fun b ob hb n hf => u.keep b ob hb (by rw [unH_ne (nin n)]; exact n) hf, u.slot, fun b ob hb n => ?_, u.there, fun b xs hb => ?_, fun b ob ho hb => ?_, fun b ps hb => ?_⟩
  · rw [lkH_ne (nin n)]
    exact u.free b ob hb (by rw [unH_ne (nin n)]; exact n)
  · exact lk_ext fr' (u.tups b xs (un_at l hb fun φ y => by cases y))
  · exact lk_ext fr' (u.frzs b ob ho (un_at l hb fun φ y => by cases y))
  · obtain ⟨more, z⟩ := u.tbls b ps (un_at l hb fun φ y => by cases y)
    exact ⟨more, lk_ext fr' z⟩
end
section
variable {P : Program} {w : World} {K : PySem.W.Frag} {mg : Str → Option Value} {base : Heap} {A : Around} {outer : List Env} {s s' : Shared} {H H' : Hp} {cs : List (Addr × Obj)} {Q Q' : VK} {E E' : XK} {r : Result}
theorem env0_lk (e0 : Env0 P w K mg base A outer s H) (fr : FrOk H cs) (c : CsOk cs s.heap (frs outer)) (hb : ∀ p ∈ cs, base.objs.size ≤ p.1) : Env0 P w K mg base A outer s (lkH H cs) := by
  have nf : ∀ b ∈ frs outer, b ∉ cs.map Prod.fst := fun b hf z => by
    obtain ⟨p, hp, rfl⟩ := List.mem_map.mp z
    exact c.off p hp hf
  refine ⟨e0.frames, e0.mod, fun b u e => ⟨(e0.bs b u e).1, ?_⟩, e0.bsz, e0.funs, fun b hf => ?_, hok_lk e0.hok fr c, e0.bare⟩
  · rw [lkH_ne fun z => ?_]
    · exact (e0.bs b u e).2
    · obtain ⟨p, hp, rfl⟩ := List.mem_map.mp z
      exact Nat.lt_irrefl _ (Nat.lt_of_lt_of_le (Heap.lt_size e) (hb p hp))
  · rw [lkH_ne (nf b hf)]
    exact e0.frf b hf
theorem env0_un (e0 : Env0 P w K mg base A outer s H) (l : LkOk H cs) : Env0 P w K mg base A outer s (unH H cs) := by
  have un0 : ∀ {b}, H b = none → unH H cs b = none := fun {b} n => by
    unfold unH
    split
    · rfl
    · exact n
  exact ⟨e0.frames, e0.mod, fun b u e => ⟨(e0.bs b u e).1, un0 (e0.bs b u e).2⟩, e0.bsz, e0.funs, fun b hf => un0 (e0.frf b hf), hok_un e0.hok l, e0.bare⟩
/-- the wishes of the callee, seen by the caller -/
def QUn (cs : List (Addr × Obj)) (Q : VK) : VK := fun v H3 => LkOk H3 cs ∧ Q v (unH H3 cs)
def EUn (cs : List (Addr × Obj)) (E : XK) : XK := fun cls d H3 => LkOk H3 cs ∧ E cls d (unH H3 cs)
def QLk (cs : List (Addr × Obj)) (Q : VK) : VK := fun v H3 => FrOk H3 cs → Q v (lkH H3 cs)
def ELk (cs : List (Addr × Obj)) (E : XK) : XK := fun cls d H3 => FrOk H3 cs → E cls d (lkH H3 cs)
theorem cr_un (fr : FrOk H cs) (c : CsOk cs s.heap (frs outer)) (h : CR (L2.CX P w) outer P w (lkH H cs) s (QUn cs Q) (EUn cs E) r s') : CR (L2.CX P w) outer P w H s Q E r s' := by
  cases r with
  | error e =>
    obtain ⟨a, B, H3, cls, d, ea, fl, hok, ub, na, os, ag, l, he⟩ := h
    refine ⟨a, B, unH H3 cs, cls, d, ea, fl, hok_un hok l, ub_of_lk ub hok l fr c, ?_, os, ag, he⟩
    unfold unH
    split
    · rfl
    · exact na
  | ok fl =>
    cases fl with
    | ret u =>
      obtain ⟨v, H3, os, ag, un, hok, rv, l, q⟩ := h
      exact ⟨v, unH H3 cs, os, ag, un_of_lk un hok l fr c, hok_un hok l, rv, q⟩
    | next => exact h
    | brk => exact h
    | cont => exact h
theorem cr0_un (fr : FrOk H cs) (c : CsOk cs s.heap (frs outer)) (h : CR C8.CX0 outer P w (lkH H cs) s (QUn cs Q) E' r s') : CR C8.CX0 outer P w H s Q E r s' := by
  cases r with
  | error e => exact h
  | ok fl =>
    cases fl with
    | ret u =>
      obtain ⟨v, H3, os, ag, un, hok, rv, l, q⟩ := h
      exact ⟨v, unH H3 cs, os, ag, un_of_lk un hok l fr c, hok_un hok l, rv, q⟩
    | next => exact h
    | brk => exact h
    | cont => exact h
theorem cr_lk (l : LkOk H cs) (c : CsOk cs s.heap (frs outer)) (h : CR (L2.CX P w) outer P w (unH H cs) s (QLk cs Q) (ELk cs E) r s') : CR (L2.CX P w) outer P w H s Q E r s' := by
  cases r with
  | error e =>
    obtain ⟨a, B, H3, cls, d, ea, fl, hok, ub, na, os, ag, he⟩ := h
    obtain ⟨fr', c', ub'⟩ := ub_of_un ub l c
    refine ⟨a, B, lkH H3 cs, cls, d, ea, fl, hok_lk hok fr' c', ub', ?_, os, ag, he fr'⟩
    by_cases z : a ∈ cs.map Prod.fst
    · obtain ⟨p, hp, rfl⟩ := List.mem_map.mp z
      have := c'.at_ p hp
      rw [fl.2.1] at this
      cases this
    · rw [lkH_ne z]
      exact na
  | ok fl =>
    cases fl with
    | ret u =>
      obtain ⟨v, H3, os, ag, un, hok, rv, q⟩ := h
      obtain ⟨fr', c', un'⟩ := un_of_un un l c
      exact ⟨v, lkH H3 cs, os, ag, un', hok_lk hok fr' c', rv, q fr'⟩
    | next => exact h
    | brk => exact h
    | cont => exact h
end
/-- a cell p of the name y (its slot j) -/
def CellW (cells : List (Str × Addr)) (σ : L2.St) (y : Str) (j : Nat) (p : Addr × Obj) : Prop := cells.lookup y = some p.1 ∧ (∃ v, p.2.data = .cell v) ∧ ∀ v, σ[j]? = some (some v) → ∃ u, L2.RelV v u ∧ p.2.data = .cell (some u)
/-- the cells of the names fr (their slots js), told of σ -/
def CellsW (cells : List (Str × Addr)) (σ : L2.St) (fr : List Str) (js : List Nat) (cs : List (Addr × Obj)) : Prop := js.length = fr.length ∧ cs.length = fr.length ∧ ∀ (i : Nat) (y : Str) (j : Nat) (p : Addr × Obj), fr[i]? = some y → js[i]? = some j → cs[i]? = some p → CellW cells σ y j p
theorem CellsW.at_ {cells : List (Str × Addr)} {σ : L2.St} {fr : List Str} {js : List Nat} {cs : List (Addr × Obj)} (h : CellsW cells σ fr js cs) {i : Nat} {y : Str} (e : fr[i]? = some y) : ∃ j p, js[i]? = some j ∧ cs[i]? = some p ∧ CellW cells σ y j p := by
  obtain ⟨h1, h2, h3⟩ := h
  have hi := (List.getElem?_eq_some_iff.mp e).1
  have e1 : js[i]? = some (js[i]'(by omega)) := List.getElem?_eq_getElem (by omega)
  have e2 : cs[i]? = some (cs[i]'(by omega)) := List.getElem?_eq_getElem (by omega)
  exact ⟨_, _, e1, e2, h3 i y _ _ e e1 e2⟩
/-- the frame's cells, found -/
theorem cells_list {X : Cx} {pins : List (Addr × Obj)} {σ : L2.St} {H : Hp} {s : Shared} (I : Inv X pins σ H s) : ∀ (fr : List Str) (js : List Nat), js.map (fun j => X.N[j]?) = fr.map some → (∀ y ∈ fr, X.env.scope.names.lookup y = some .cell ∨ X.env.scope.names.lookup y = some .free) →
    ∃ cs, CellsW X.env.cells σ fr js cs ∧ ∀ p ∈ cs, s.heap.get? p.1 = some p.2 ∧ (∃ v, p.2.data = .cell v) ∧ ∃ y ∈ fr, X.env.cells.lookup y = some p.1 := by
  intro fr
  induction fr with
  | nil =>
    intro js h _
    have : js = [] := by
      cases js with
      | nil => rfl
      | cons j js => simp at h
    subst this
    exact ⟨[], ⟨rfl, rfl, fun i y j p h => by simp at h⟩, fun _ z => nomatch z⟩
  | cons y fr ih =>
    intro js h hk
    cases js with
    | nil => simp at h
    | cons j js =>
      rw [List.map_cons, List.map_cons] at h
      injection h with h1 h2
      obtain ⟨cs, hc, hp⟩ := ih js h2 fun y hy => hk y (List.mem_cons_of_mem _ hy)
      have k := hk y List.mem_cons_self
      obtain ⟨c, hcl⟩ : ∃ c, X.env.cells.lookup y = some c := I.ok.has y k
      obtain ⟨v, o, ho, hd⟩ := I.cell y c hcl
      have hw : CellW X.env.cells σ y j (c, o) := by
        refine ⟨hcl, ⟨v, hd⟩, fun x hx => ?_⟩
        obtain ⟨m, hn, hl⟩ := I.loc
        obtain ⟨u, ru, lk⟩ := hl j y x h1 hx (k.elim (fun z => .inr (.inl z)) fun z => .inr (.inr z))
        rcases lk with ⟨z, _⟩ | ⟨_, c', hc', o', ho', hd'⟩
        · have z' : X.env.scope.names.lookup y = some .local := z
          rcases k with k | k <;> rw [k] at z' <;> cases z'
        · rw [hcl] at hc'
          cases hc'
          rw [ho] at ho'
          cases ho'
          exact ⟨u, ru, hd'⟩
      obtain ⟨g1, g2, g3⟩ := hc
      refine ⟨(c, o) :: cs, ⟨by rw [List.length_cons, List.length_cons, g1], by rw [List.length_cons, List.length_cons, g2], fun i y' j' p e1 e2 e3 => ?_⟩, fun p hpm => ?_⟩
      · cases i with
        | zero =>
          cases (show some y = some y' from e1)
          cases (show some j = some j' from e2)
          cases (show some (c, o) = some p from e3)
          exact hw
        | succ i => exact g3 i y' j' p e1 e2 e3
      · rcases List.mem_cons.mp hpm with rfl | hpm
        · exact ⟨ho, ⟨v, hd⟩, y, List.mem_cons_self, hcl⟩
        · obtain ⟨a, b, y', hy, hl⟩ := hp p hpm
          exact ⟨a, b, y', List.mem_cons_of_mem _ hy, hl⟩
theorem cells_nodup {cells : List (Str × Addr)} {σ : L2.St} (inj : ∀ x y c, cells.lookup x = some c → cells.lookup y = some c → x = y) {fr : List Str} {js : List Nat} {cs : List (Addr × Obj)} (h : CellsW cells σ fr js cs) (nd : fr.Nodup) : (cs.map Prod.fst).Nodup := by
  refine List.pairwise_iff_getElem.mpr fun i j hi0 hj0 hij e => ?_
  have hi := hi0
  have hj := hj0
  rw [List.length_map, h.2.1] at hi hj
  obtain ⟨_, p, _, p2, p3, _⟩ := h.at_ (List.getElem?_eq_getElem (l := fr) hi)
  obtain ⟨_, q, _, q2, q3, _⟩ := h.at_ (List.getElem?_eq_getElem (l := fr) hj)
  rw [List.getElem_map, List.getElem_map] at e
  have ep := (List.getElem?_eq_some_iff.mp p2).2
  have eq := (List.getElem?_eq_some_iff.mp q2).2
  rw [ep, eq] at e
  rw [← e] at q3
  have e3 := inj _ _ _ p3 q3
  have := (List.getElem?_inj hi nd (j := j)).mp (by rw [List.getElem?_eq_getElem hi, List.getElem?_eq_getElem hj, e3])
  omega
/-- no cell is a code object -/
def NoCode (cs : List (Addr × Obj)) : Prop := ∀ p ∈ cs, ∀ q, ExO p.1 p.2 ≠ CodeO p.1 q
theorem nocode {cs : List (Addr × Obj)} {h : Heap} (hp : ∀ p ∈ cs, h.get? p.1 = some p.2 ∧ ∃ v, p.2.data = .cell v) : NoCode cs := fun p hm q z => by
  obtain ⟨g, v, hd⟩ := hp p hm
  have z2 : (fun h : Heap => h.get? p.1 = some p.2) = _ := HO.ext.inj z
  have z3 := congrFun z2 h
  rw [eq_iff_iff] at z3
  obtain ⟨o2, vs2, t2, g1, g2, _⟩ := z3.mp g
  rw [g] at g1
  cases g1
  rw [hd] at g2
  cases g2
/-! ### the nested function as a handed one -/
def spU (cs : List (Addr × Obj)) (sp : Sp) : Sp := fun vs H Q E => sp vs (unH H cs) (QLk cs Q) (ELk cs E)
theorem fa_of {P : Program} {w : World} {K : PySem.W.Frag} {mg : Str → Option Value} {base : Heap} {k : Nat} {f : Addr} {F : NF} {N ps fr : List Str} {sp : List (Option V) → Sp} {cells : List (Str × Addr)} {σ : L2.St} {js : List Nat} {cs : List (Addr × Obj)} {H : Hp}
    (o : NOk P w K mg base (L2.CX P w) k f F ps fr sp) (S : NScope N ps fr F.scope) (hcl : F.cl = cloFrom cells F.scope.names []) (hW : CellsW cells σ fr js cs) (nd : (cs.map Prod.fst).Nodup) (ndf : fr.Nodup)
    (hf : H f = some (FnO f F)) (hc : H F.c = some (CodeO F.c F.qual)) (lk : LkOk H cs) : Fa P w K mg base (L2.CX P w) k f (spU cs (sp (js.map (slotAt σ)))) H := by
  have nmem : ∀ {y : Str}, (y, NameKind.free) ∈ F.scope.names → ∃ i : Nat, fr[i]? = some y := fun {y} h => List.mem_iff_getElem?.mp (S.free (y, .free) h rfl)
  have hfree : ∀ y ∈ F.scope.names, y.2 = .free → ∃ c, cells.lookup y.1 = some c := fun y hy e => by
    obtain ⟨y1, y2⟩ := y
    obtain rfl : y2 = .free := e
    obtain ⟨i, hi⟩ := nmem hy
    obtain ⟨j, p, _, _, h, _⟩ := hW.at_ hi
    exact ⟨_, h⟩
  have look : ∀ {y : Str} {c : Addr}, F.cl.lookup y = some c → ∃ (i : Nat) (p : Addr × Obj), fr[i]? = some y ∧ cs[i]? = some p ∧ p.1 = c ∧ ∃ v, p.2.data = .cell v := fun {y c} e => by
    rw [hcl] at e
    have hm : (y, NameKind.free) ∈ F.scope.names := by
      rcases cloFrom_mem (PySem.mem_of_lookup e) with z | ⟨z, _⟩
      · cases z
      · exact z
    obtain ⟨i, hi⟩ := nmem hm
    obtain ⟨j, p, _, h2, h3, h4, _⟩ := hW.at_ hi
    have e2 := clo_cm hfree e
    rw [h3] at e2
    exact ⟨i, p, hi, h2, Option.some.inj e2, h4⟩
  refine ⟨(f, phiO (FnO f F)) :: (F.c, phiO (CodeO F.c F.qual)) :: cs.map (fun p => (p.1, phiO (ExO p.1 p.2))), fun p hp => ?_, fun s hs hnl => ?_, fun A outer s H' us vs Q E hr e0 hL r hsp => ?_⟩
  · rcases List.mem_cons.mp hp with rfl | hp
    · exact hf
    rcases List.mem_cons.mp hp with rfl | hp
    · exact hc
    obtain ⟨q, hq, rfl⟩ := List.mem_map.mp hp
    exact lk q hq
  · obtain ⟨od, sl, doc, pm, ctv, ho⟩ := hs _ List.mem_cons_self
    exact ⟨_, od, _, sl, ho⟩
  · have hf' : H' f = some (FnO f F) := hL _ List.mem_cons_self
    have hc' : H' F.c = some (CodeO F.c F.qual) := hL _ (List.mem_cons_of_mem _ List.mem_cons_self)
    have lk' : LkOk H' cs := fun p hp => hL (p.1, phiO (ExO p.1 p.2)) (List.mem_cons_of_mem _ (List.mem_cons_of_mem _ (List.mem_map.mpr ⟨p, hp, rfl⟩)))
    have at' : ∀ p ∈ cs, s.heap.get? p.1 = some p.2 := fun p hp => (e0.hok p.1 _ (lk' p hp)).1
    have off : ∀ p ∈ cs, p.1 ∉ frs outer := fun p hp z => by
      have := e0.frf _ z
      rw [lk' p hp] at this
      cases this
    have C : CsOk cs s.heap (frs outer) := ⟨nd, at', off⟩
    have isc : ∀ (p : Addr × Obj), p ∈ cs → ∀ v, p.2.data = .cell v → s.heap.IsCell p.1 v := fun p hp v hd => ⟨p.2, at' p hp, hd⟩
    have fno : ∀ a ∈ cs.map Prod.fst, a ≠ f := fun a ha z => by
      obtain ⟨p, hp, rfl⟩ := List.mem_map.mp ha
      obtain ⟨od, sl, doc, pm, ctv, ho⟩ := fnO_at e0.hok hf'
      have h1 := at' p hp
      rw [z, ho] at h1
      obtain ⟨i, hi⟩ := List.mem_iff_getElem?.mp hp
      have hil : i < fr.length := by
        rw [← hW.2.1]
        exact (List.getElem?_eq_some_iff.mp hi).1
      obtain ⟨j, p2, _, h2, _, ⟨v, hv⟩, _⟩ := hW.at_ (List.getElem?_eq_getElem hil)
      rw [hi] at h2
      cases h2
      rw [← Option.some.inj h1] at hv
      cases hv
    have cno : ∀ a ∈ cs.map Prod.fst, a ≠ F.c := fun a ha z => by
      obtain ⟨p, hp, rfl⟩ := List.mem_map.mp ha
      obtain ⟨⟨oc, ovs, ot, g1, g2, g3⟩, _, _⟩ := e0.hok F.c _ hc'
      have h1 := at' p hp
      rw [z, g1] at h1
      obtain ⟨i, hi⟩ := List.mem_iff_getElem?.mp hp
      have hil : i < fr.length := by
        rw [← hW.2.1]
        exact (List.getElem?_eq_some_iff.mp hi).1
      obtain ⟨j, p2, _, h2, _, ⟨v, hv⟩, _⟩ := hW.at_ (List.getElem?_eq_getElem hil)
      rw [hi] at h2
      cases h2
      rw [← Option.some.inj h1, g2] at hv
      cases hv
    refine codeAny_mono (o.run A outer s (unH H' cs) us vs _ (QLk cs Q) (ELk cs E) hr (env0_un e0 lk') (by rw [unH_ne fun z => fno _ z rfl]; exact hf') (by rw [unH_ne fun z => cno _ z rfl]; exact hc') ⟨?_, fun y c e => ?_, fun x y c e1 e2 => ?_, fun i y hi => ?_⟩ r hsp) fun r s' hq => cr_lk lk' C hq
    · rw [List.length_map]
      exact hW.1
    · obtain ⟨i, p, _, h2, rfl, v, hv⟩ := look e
      have hp := List.mem_of_getElem? h2
      exact ⟨unH_in (List.mem_map.mpr ⟨p, hp, rfl⟩), v, isc p hp v hv⟩
    · obtain ⟨i, p, g1, g2, g3, _⟩ := look e1
      obtain ⟨i', p', g1', g2', g3', _⟩ := look e2
      have hil := (List.getElem?_eq_some_iff.mp g2).1
      have e3 : (cs.map Prod.fst)[i]? = (cs.map Prod.fst)[i']? := by rw [List.getElem?_map, List.getElem?_map, g2, g2', Option.map_some, Option.map_some, g3, g3']
      have ei := (List.getElem?_inj (by rw [List.length_map]; exact hil) nd).mp e3
      subst ei
      rw [g1] at g1'
      exact Option.some.inj g1'
    · obtain ⟨j, p, g1, g2, g3, _, g5⟩ := hW.at_ hi
      have hp := List.mem_of_getElem? g2
      refine ⟨p.1, ?_, fun v hv => ?_⟩
      · rw [hcl]
        exact clo_has hfree (PySem.mem_of_lookup (S.frk y (List.mem_of_getElem? hi))) g3
      · rw [List.getElem?_map, g1] at hv
        obtain ⟨u, ru, hd⟩ := g5 v (slotAt_some (Option.some.inj (show some (slotAt σ j) = some (some v) from hv)))
        exact ⟨u, ru, isc p hp _ hd⟩
/-! ### the method that gets it -/
def tMoF (cells : List (Str × Addr)) (fr : List Str) (js : List Nat) (C : Addr) (m : Str) (sp : Sp) (E : XK) (ta : TE) (t : TA) : TE := fun σ H Q => ta σ H fun y H1 => ∃ a dx fs, y = .ref a ∧ H1 a = some (.ins C dx fs) ∧ fs.lookup m = none ∧ t σ H1 fun vs H2 =>
  ∀ cs : List (Addr × Obj), CellsW cells σ fr js cs → (cs.map Prod.fst).Nodup → FrOk H2 cs → NoCode cs → sp (.ref a :: vs) (lkH H2 cs) (QUn cs Q) (EUn cs E)
section
variable {X : Cx} {k j : Nat} {fr : List Str} {js : List Nat} {C : Addr} {m : Str} {sp : Sp} {E : XK} {o e : Expr} {es : List Expr} {ta : TE} {t : TA} {apos pos : Pos} {pl : Sem Bool}
theorem cs_all {pins : List (Addr × Obj)} {σ : L2.St} {H : Hp} {s : Shared} (I : Inv X pins σ H s) (hjs : js.map (fun j => X.N[j]?) = fr.map some) (hcell : ∀ y ∈ fr, X.env.scope.names.lookup y = some .cell) (hfn : ∀ y ∈ fr, X.fn y = true) (ndf : fr.Nodup) :
    ∃ cs, CellsW X.env.cells σ fr js cs ∧ (cs.map Prod.fst).Nodup ∧ FrOk H cs ∧ NoCode cs ∧ CsOk cs s.heap (frs X.stack) ∧ ∀ p ∈ cs, X.base.objs.size ≤ p.1 := by
  obtain ⟨cs, hW, hp⟩ := cells_list I fr js hjs fun y hy => .inl (hcell y hy)
  have nd := cells_nodup (fun x y c e1 e2 => I.ok.inj x y c e1 e2) hW ndf
  have ge : ∀ p ∈ cs, X.s_0.heap.objs.size ≤ p.1 := fun p hm => by
    obtain ⟨_, _, y, hy, hl⟩ := hp p hm
    exact I.ok.cab y p.1 (hfn y hy) hl
  refine ⟨cs, hW, nd, fun p hm => ?_, nocode fun p hm => ⟨(hp p hm).1, (hp p hm).2.1⟩, ⟨nd, fun p hm => (hp p hm).1, fun p hm z => ?_⟩, fun p hm => Nat.le_trans I.ok.bsz (ge p hm)⟩
  · obtain ⟨_, _, y, hy, hl⟩ := hp p hm
    exact I.freeC y p.1 hl
  · obtain ⟨_, _, y, hy, hl⟩ := hp p hm
    rcases List.mem_cons.mp (I.stkSub _ z) with e | hb2
    · exact I.cne y p.1 hl e
    · obtain ⟨_, o2, ho2, _⟩ := I.ok.funs.mem hb2
      exact Nat.lt_irrefl _ (Nat.lt_of_lt_of_le (Heap.lt_size ho2) (ge p hm))
theorem pe_moF {cells : List (Str × Addr)} (hce : X.env.cells = cells) (hjs : js.map (fun j => X.N[j]?) = fr.map some) (hcell : ∀ y ∈ fr, X.env.scope.names.lookup y = some .cell) (hfn : ∀ y ∈ fr, X.fn y = true) (ndf : fr.Nodup) (he : PE X o ta) (cl : Cls X.K C) (c : Me X.prog X.w X.K X.mg X.base (L2.CX X.prog X.w) k C m sp) (hr : Room j X.A) (hk : k ≤ j) (hx : Passes (L2.CX X.prog X.w) X E) (ha : PA X (e :: es) t)
    (hst : starEach (e :: es) X.env = (false, eval e X.env) :: starEach es X.env := by rfl) (hpl : (backTo pos (starEach es X.env)).any (·.1) = false := by rfl)
    (ht : eval (.Call (.Attribute o m apos) (e :: es) [] pos) X.env = (do
      let ov ← eval o X.env
      standAt apos.atName
      let (f, first) ← holding [ov] (getMethod ov m pl)
      callWith pos f first (backTo pos (starEach (e :: es) X.env)) (backToKw pos (keywordEach [] X.env))) := by rfl) :
    PE X (.Call (.Attribute o m apos) (e :: es) [] pos) (tMoF cells fr js C m sp E ta t) := by
  subst hce
  obtain ⟨g, F, h1, h2, h3⟩ := c.ex
  have hm : Meth X.K C m g := ⟨h1, h2, h3⟩
  refine ⟨fun pins s σ H Q I h => ?_⟩
  refine PySem.W.methodCall_KW (pl := pl) (thn (he.run pins s σ H _ I h) fun u s1 ⟨y, H1, I1, ry, a, dx, fs, ey, ea, l, q⟩ => ?_) ht
  subst ey
  obtain rfl : u = Value.ref a := ry
  refine getmeth_ok I1 ea cl hm l (PySem.W.callWith_K (first := [.ref a]) (h₀ := X.base) I.ok.mod.kin hm.kp (thn (ha.run pos pins s1 σ H1 _ I1 q) fun us s2 ⟨vs, H2, I2, r, q2⟩ => ⟨I2.kIn, ?_⟩) hst hpl)
  obtain ⟨cs, hW, nd, fr0, nc, C0, hb⟩ := cs_all I2 hjs hcell hfn ndf
  refine wpAny_call (codeAny_mono (F X.A X.stack s2 _ (.ref a :: us) (.ref a :: vs) _ _ (hr.mono hk) (env0_lk I2.env0 fr0 C0 hb) (.cons rfl r) (q2 cs hW nd fr0 nc)) fun rr s' hq => ?_)
  have hq2 := cr_un fr0 C0 hq
  cases rr with
  | error e => exact hx pins σ H2 s2 e s' I2 hq2
  | ok fl =>
    cases fl with
    | next => exact False.elim hq2
    | brk => exact False.elim hq2
    | cont => exact False.elim hq2
    | ret u => exact I2.after hq2
theorem pe_moF0 {cells : List (Str × Addr)} (hce : X.env.cells = cells) (hjs : js.map (fun j => X.N[j]?) = fr.map some) (hcell : ∀ y ∈ fr, X.env.scope.names.lookup y = some .cell) (hfn : ∀ y ∈ fr, X.fn y = true) (ndf : fr.Nodup) (he : PE X o ta) (cl : Cls X.K C) (c : Me X.prog X.w X.K X.mg X.base C8.CX0 k C m sp) (hr : Room j X.A) (hk : k ≤ j) (ha : PA X (e :: es) t)
    (hst : starEach (e :: es) X.env = (false, eval e X.env) :: starEach es X.env := by rfl) (hpl : (backTo pos (starEach es X.env)).any (·.1) = false := by rfl)
    (ht : eval (.Call (.Attribute o m apos) (e :: es) [] pos) X.env = (do
      let ov ← eval o X.env
      standAt apos.atName
      let (f, first) ← holding [ov] (getMethod ov m pl)
      callWith pos f first (backTo pos (starEach (e :: es) X.env)) (backToKw pos (keywordEach [] X.env))) := by rfl) :
    PE X (.Call (.Attribute o m apos) (e :: es) [] pos) (tMoF cells fr js C m sp C8.E0 ta t) := by
  subst hce
  obtain ⟨g, F, h1, h2, h3⟩ := c.ex
  have hm : Meth X.K C m g := ⟨h1, h2, h3⟩
  refine ⟨fun pins s σ H Q I h => ?_⟩
  refine PySem.W.methodCall_KW (pl := pl) (thn (he.run pins s σ H _ I h) fun u s1 ⟨y, H1, I1, ry, a, dx, fs, ey, ea, l, q⟩ => ?_) ht
  subst ey
  obtain rfl : u = Value.ref a := ry
  refine getmeth_ok I1 ea cl hm l (PySem.W.callWith_K (first := [.ref a]) (h₀ := X.base) I.ok.mod.kin hm.kp (thn (ha.run pos pins s1 σ H1 _ I1 q) fun us s2 ⟨vs, H2, I2, r, q2⟩ => ⟨I2.kIn, ?_⟩) hst hpl)
  obtain ⟨cs, hW, nd, fr0, nc, C0, hb⟩ := cs_all I2 hjs hcell hfn ndf
  refine wpAny_call (codeAny_mono (F X.A X.stack s2 _ (.ref a :: us) (.ref a :: vs) _ _ (hr.mono hk) (env0_lk I2.env0 fr0 C0 hb) (.cons rfl r) (q2 cs hW nd fr0 nc)) fun rr s' hq => ?_)
  have hq2 := cr0_un (E := C8.E0) fr0 C0 hq
  cases rr with
  | error e => exact (show False from hq2).elim
  | ok fl =>
    cases fl with
    | next => exact False.elim hq2
    | brk => exact False.elim hq2
    | cont => exact False.elim hq2
    | ret u => exact I2.after hq2
end
/-! ### the statement, with tables of one name each -/
def inDef (st : Stmt) (j : Nat) : Stmt := (defBody st).getD j st
/-- the qualified name of a def within the def qual -/
def ndQ (qual : Str) (sc : Scope) (name : Str) : Str := (envOfC qual sc 0 0 .none).qual ++ name
def tNdefT (T : List (Addr × Str)) (i : Nat) (mk : Addr → NF) : TS := fun D σ H => Tabs T H ∧ ∀ (f c' : Addr) (H1 : Hp), ExtN H H1 → Tabs T H1 → H f = none → H1 f = some (FnO f (mk c')) → H1 c' = some (CodeO c' (mk c').qual) → D.nx (σ.set i (some (.ref f))) H1
theorem tabsN_of {T : List (Addr × Str)} {H : Hp} (h : Tabs T H) : TabsN (T.map fun p => (p.1, fun _ _ => p.2)) H := fun q hq => by
  obtain ⟨p, hp, rfl⟩ := List.mem_map.mp hq
  exact h p hp
theorem tabsN_to {T : List (Addr × Str)} {H : Hp} (h : TabsN (T.map fun p => (p.1, fun _ _ => p.2)) H) : Tabs T H := fun p hp => h (p.1, fun _ _ => p.2) (List.mem_map.mpr ⟨p, hp, rfl⟩)
theorem ps_ndefT {X : Cx} {st : Stmt} {T : List (Addr × Str)} {q : Str} {c P : Addr} {name : Str} {pos : Pos} {i : Nat} {cells : List (Str × Addr)} (hst : st = .FunctionDef name (C8.fnArgs st) (C8.fnBody st) [] none [] (C8.fnScope st) none name pos) (TB : TabB X.base X.mg c P) (hcode : X.env.code = .ref c) (hm : (P, q) ∈ T) (hq : q = X.env.qual ++ name)
    (hu : ∀ p ∈ T, p.1 = P → p.2 = q) (hfree : ∀ y ∈ (C8.fnScope st).names, y.2 = .free → X.env.scope.names.lookup y.1 = some .cell ∨ X.env.scope.names.lookup y.1 = some .free) (hd0 : (C8.fnArgs st).defaults = []) (hk0 : (C8.fnArgs st).kw_defaults = []) (ha : annTrees (C8.fnArgs st) none X.env = [])
    (hN : X.N.Nodup) (hi : X.N[i]? = some name) (hx : Loc X.env.scope name) (hf : X.fn name = true ∨ X.env.scope.names.lookup name = some .local) (hce : X.env.cells = cells := by rfl) :
    PS X st (tNdefT T i (NF.of st name q (cloFrom cells (C8.fnScope st).names []))) := by
  subst hce hq
  have R := ps_ndefMS (X := X) (T := T.map fun p => (p.1, fun _ _ => p.2)) (nm := fun _ _ => X.env.qual ++ name) hst TB hcode (List.mem_map.mpr ⟨_, hm, rfl⟩) rfl (fun p hp e => by
    obtain ⟨p0, hp0, rfl⟩ := List.mem_map.mp hp
    rw [show p0.2 = X.env.qual ++ name from hu p0 hp0 e]) hfree hd0 hk0 ha hN hi hx hf
  refine ⟨fun pins s σ H D I h => R.run pins s σ H D I ?_⟩
  obtain ⟨hT, k⟩ := h
  exact ⟨tabsN_of hT, fun f c' H1 e _ t n h1 h2 => k f c' H1 e (tabsN_to t) n h1 h2⟩
end SB

/-! calls within try: what is wished of an exception leans on the slots. -/
namespace SB
open PySem PySem.Spec PyProof.Rows L2 NdefX LamX
def tClS (sp : Sp) (E : L2.St → XK) (t : TA) : TE := fun σ H Q => t σ H fun vs H1 => sp vs H1 Q (E σ)
theorem run_fnRS {X : Cx} {CX : CXT} {k : Nat} {sp : Sp} {E : XK} {pins : List (Addr × Obj)} {σ : L2.St} {H : Hp} {s : Shared} {Q : VK} {f : Addr} {us : List Value} {vs : List V} (F : FnR X.prog X.w X.K X.mg X.base CX k f sp) (hr : Room k X.A) (hx : PassesAt CX X σ E) (I : Inv X pins σ H s) (r : Vals vs us) (h : sp vs H Q E) :
    codeAny (model X.prog X.w) X.A (.call (.ref f) ⟨us, []⟩) (fun r s' => match r with | .ok (.ret v) => EP X pins σ Q v s' | .ok _ => False | .error e => X.xe e s') s := by
  refine codeAny_mono (F X.A X.stack s H us vs Q E hr I.env0 r h) fun r s' hq => ?_
  cases r with
  | error e => exact hx pins H s e s' I hq
  | ok fl =>
    cases fl with
    | ret u => exact I.after hq
    | next => exact hq.elim
    | brk => exact hq.elim
    | cont => exact hq.elim
theorem pe_clS {X : Cx} {CX : CXT} {k j : Nat} {x : Str} {sp : Sp} {E : L2.St → XK} {p pos : Pos} {e : Expr} {es : List Expr} {t : TA} {P : Program} {w : World} {K : PySem.W.Frag} {mg : Str → Option Value} {base : Heap} (hP : X.prog = P) (hw : X.w = w) (hK : X.K = K) (hm' : X.mg = mg) (hb : X.base = base) (c : Cl P w K mg base CX k x sp) (hr : Room j X.A) (hk : k ≤ j) (hg : Gl X x) (hx : ∀ σ, PassesAt CX X σ (E σ)) (ha : PA X (e :: es) t) (hd : (x == ("__debug__" : Str)) = false := by decide)
    (he : starEach (e :: es) X.env = (false, eval e X.env) :: starEach es X.env := by rfl) (hpl : (backTo pos (starEach es X.env)).any (·.1) = false := by rfl) :
    PE X (.Call (.Name x p) (e :: es) [] pos) (tClS sp E t) := by
  subst hP hw hK hm' hb
  obtain ⟨f, F, hm, kp⟩ := c.ex
  refine ⟨fun pins s σ H Q I h => ?_⟩
  refine wpAny_Call_Name_kw (ld_glob I hg hm ?_ hd)
  refine PySem.W.callWith_K (h₀ := X.base) I.ok.mod.kin kp (thn (ha.run pos pins s σ H _ I h) fun us s1 ⟨vs, H1, I1, r, q⟩ => ⟨I1.kIn, ?_⟩) he hpl
  exact wpAny_call (run_fnRS F (hr.mono hk) (hx σ) I1 r q)
/-- o.m(f, ..), f with captured cells (SNf's tMoF) -/
def tMoFS (cells : List (Str × Addr)) (fr : List Str) (js : List Nat) (C : Addr) (m : Str) (sp : Sp) (E : L2.St → XK) (ta : TE) (t : TA) : TE := fun σ H Q => ta σ H fun y H1 => ∃ a dx fs, y = .ref a ∧ H1 a = some (.ins C dx fs) ∧ fs.lookup m = none ∧ t σ H1 fun vs H2 =>
  ∀ cs : List (Addr × Obj), CellsW cells σ fr js cs → (cs.map Prod.fst).Nodup → FrOk H2 cs → NoCode cs → sp (.ref a :: vs) (lkH H2 cs) (QUn cs Q) (EUn cs (E σ))
theorem pe_moFS {X : Cx} {P : Program} {w : World} {K : PySem.W.Frag} {mg : Str → Option Value} {base : Heap} {k j : Nat} {fr : List Str} {js : List Nat} {C : Addr} {m : Str} {sp : Sp} {E : L2.St → XK} {o e : Expr} {es : List Expr} {ta : TE} {t : TA} {apos pos : Pos} {pl : Sem Bool} {cells : List (Str × Addr)} (hP : X.prog = P) (hw : X.w = w) (hK : X.K = K) (hm' : X.mg = mg) (hb' : X.base = base) (hce : X.env.cells = cells) (hjs : js.map (fun j => X.N[j]?) = fr.map some) (hcell : ∀ y ∈ fr, X.env.scope.names.lookup y = some .cell) (hfn : ∀ y ∈ fr, X.fn y = true) (ndf : fr.Nodup) (he : PE X o ta) (cl : Cls K C) (c : Me P w K mg base (L2.CX P w) k C m sp) (hr : Room j X.A) (hk : k ≤ j) (hx : ∀ σ, PassesAt (L2.CX P w) X σ (E σ)) (ha : PA X (e :: es) t)
    (hst : starEach (e :: es) X.env = (false, eval e X.env) :: starEach es X.env := by rfl) (hpl : (backTo pos (starEach es X.env)).any (·.1) = false := by rfl)
    (ht : eval (.Call (.Attribute o m apos) (e :: es) [] pos) X.env = (do
      let ov ← eval o X.env
      standAt apos.atName
      let (f, first) ← holding [ov] (getMethod ov m pl)
      callWith pos f first (backTo pos (starEach (e :: es) X.env)) (backToKw pos (keywordEach [] X.env))) := by rfl) :
    PE X (.Call (.Attribute o m apos) (e :: es) [] pos) (tMoFS cells fr js C m sp E ta t) := by
  subst hP hw hK hm' hb' hce
  obtain ⟨g, F, h1, h2, h3⟩ := c.ex
  have hm : Meth X.K C m g := ⟨h1, h2, h3⟩
  refine ⟨fun pins s σ H Q I h => ?_⟩
  refine PySem.W.methodCall_KW (pl := pl) (thn (he.run pins s σ H _ I h) fun u s1 ⟨y, H1, I1, ry, a, dx, fs, ey, ea, l, q⟩ => ?_) ht
  subst ey
  obtain rfl : u = Value.ref a := ry
  refine getmeth_ok I1 ea cl hm l (PySem.W.callWith_K (first := [.ref a]) (h₀ := X.base) I.ok.mod.kin hm.kp (thn (ha.run pos pins s1 σ H1 _ I1 q) fun us s2 ⟨vs, H2, I2, r, q2⟩ => ⟨I2.kIn, ?_⟩) hst hpl)
  obtain ⟨cs, hW, nd, fr0, nc, C0, hb⟩ := cs_all I2 hjs hcell hfn ndf
  refine wpAny_call (codeAny_mono (F X.A X.stack s2 _ (.ref a :: us) (.ref a :: vs) _ _ (hr.mono hk) (env0_lk I2.env0 fr0 C0 hb) (.cons rfl r) (q2 cs hW nd fr0 nc)) fun rr s' hq => ?_)
  have hq2 := cr_un fr0 C0 hq
  cases rr with
  | error e => exact hx σ pins H2 s2 e s' I2 hq2
  | ok fl =>
    cases fl with
    | next => exact False.elim hq2
    | brk => exact False.elim hq2
    | cont => exact False.elim hq2
    | ret u => exact I2.after hq2
/-! ### a property read while an exception is handled -/
structure PrQ (P : Program) (w : World) (K : PySem.W.Frag) (mg : Str → Option Value) (base : Heap) (k : Nat) (C : Addr) (f : Str) (sp : Sp) : Prop where
  ex : ∃ p g : Addr, Cls K C ∧ PropOf K C f p g ∧ FnQ P w K mg base k g sp
theorem roomH_in1 {k : Nat} {A : Around} (r : L2H.RoomH (k + 1) A) : L2H.RoomH k A.in1 := ⟨by have := r.dp; show A.depth + 3 * k + 5 < _; omega, by have := r.un; show A.units + 1 + 16 * k + 200 < _; omega⟩
theorem pe_prQ {X : Cx} {k j : Nat} {C : Addr} {f : Str} {sp : Sp} {q : Addr × Obj} {e : Expr} {pos : Pos} {ta : TE} (hq : q ∈ X.pn) (hs : X.stack = X.env :: X.outer) (hf : X.env.frame = some X.env.locals) (cc : PrQ X.prog X.w X.K X.mg X.base k C f sp) (hr : L2H.RoomH j X.A) (hk : k + 1 ≤ j) (he : PE X e ta) (hab : attributeBase e f X.env (eval e X.env) = eval e X.env := by rfl) :
    PE X (.Attribute e f pos) (tPr C sp C8.E0 ta) := by
  obtain ⟨p, g, c, hp, F⟩ := cc.ex
  refine ⟨fun pins s σ H Q I h => ?_⟩
  refine attr_of hab (thn (he.run pins s σ H _ I h) fun u s1 ⟨x, H1, I1, rx, a, dx, fs, ex, ea, qq⟩ => ?_)
  subst ex
  obtain rfl : u = Value.ref a := rx
  obtain ⟨mA, O, _, _, _, _⟩ := ins_get I1.hok ea
  obtain ⟨od, J, _⟩ := O.look
  obtain ⟨rest, hrec⟩ := hp.rec_
  have I2 := I1.tok (s1.toks + 1)
  have hc : (PySem.W.clsIn X.K C).isSome = true := by
    obtain ⟨cd, hc, _⟩ := PySem.W.any_some c.hd
    rw [hc]
    rfl
  have pk : L2H.PinOk X.stack H1 { s1 with toks := s1.toks + 1 } q := by
    obtain ⟨g1, g2, g3, g4, g5⟩ := I2.pin q (List.mem_append_left _ hq)
    refine ⟨g1, g2, fun z => ?_, g5⟩
    rw [hs] at z
    obtain ⟨ev, hev, hq'⟩ := List.mem_filterMap.mp z
    rcases List.mem_cons.mp hev with rfl | hev
    · rw [hf] at hq'
      exact g3 (Option.some.inj hq').symm
    · exact g4 (List.mem_filterMap.mpr ⟨ev, hev, hq'⟩)
  refine PySem.W.get_bind I1.kIn J (PySem.W.plainGet_of (c.get f)).1 (PySem.W.findObj_data hc hp.at_ hp.get hp.tak) (PySem.W.plainGet_of (c.get f)).2 (wpAny_call (PySem.W.prop_get (s := { s1 with toks := s1.toks + 1 }) I1.kIn hrec ?_))
  refine codeAny_mono (F X.A.in1 X.stack { s1 with toks := s1.toks + 1 } H1 [.ref a] [.ref a] Q q (roomH_in1 ⟨by have := hr.dp; omega, by have := hr.un; omega⟩) pk I2.env0.in1 (.cons rfl .nil) qq) fun r s' hq2 => ?_
  cases r with
  | error er => exact (show False from hq2).elim
  | ok fl =>
    cases fl with
    | ret u =>
      obtain ⟨v, H', I3, rv, q3⟩ := I2.after hq2
      show wpAny _ _ (handedOut u) _ _ _
      rw [PySem.W.handedOut_of (handed_of rv)]
      exact wpAny_pure ⟨v, H', I3, rv, q3⟩
    | next => exact False.elim hq2
    | brk => exact False.elim hq2
    | cont => exact False.elim hq2
end SB

namespace MV
open PySem PySem.Spec PyProof.Rows L2 SB MM LamX NdefX
/-! Heaps with told cells (SNf), as they go on. -/
section
variable {TS : List (Addr × Str)} {L : List Addr} {K : PySem.W.Frag} {H Hl H2 H3 : Hp} {cs : List (Addr × Obj)} {a qh p : Addr} {nms : List Str} {rows : List (List Int)} {CK C : Addr}
theorem ev_lk (fr : FrOk H cs) : Ev TS [] H (lkH H cs) := Ev.same fun _ _ h => lk_ext fr h
theorem tabs_un (l : LkOk H cs) (nc : NoCode cs) (t : Tabs TS H) : Tabs TS (unH H cs) := fun y hy => by
  obtain ⟨ps, a1, a2, a3⟩ := t y hy
  refine ⟨ps, un_at l a1 (fun φ z => by cases z), a2, fun pos cv hcv => ?_⟩
  obtain ⟨c0, b1, b2⟩ := a3 pos cv hcv
  refine ⟨c0, b1, ?_⟩
  rw [unH_ne fun z => ?_]
  · exact b2
  · obtain ⟨q, hq, rfl⟩ := List.mem_map.mp z
    rw [l q hq] at b2
    exact nc q hq y.2 (Option.some.inj b2)
theorem tabs_lk (fr : FrOk H cs) (t : Tabs TS H) : Tabs TS (lkH H cs) := t.ext fun _ _ h => lk_ext fr h
/-- the told cells are forgotten again -/
theorem ev_un (fr : FrOk H cs) (nc : NoCode cs) (e : Ev TS [] H Hl) (x : Ev TS L Hl H3) (l3 : LkOk H3 cs) : Ev TS L H (unH H3 cs) := by
  have nin : ∀ {b o}, H b = some o → b ∉ cs.map Prod.fst := fun {b o} h z => by
    obtain ⟨q, hq, rfl⟩ := List.mem_map.mp z
    rw [fr q hq] at h
    cases h
  refine ⟨fun p o hp f nt => ?_, fun p o hp nt => ?_, fun t => tabs_un l3 nc (x.tb (e.tb t))⟩
  · rw [unH_ne (nin hp)]
    exact x.st p o (e.st p o hp (fun z => nomatch z) nt) f nt
  · obtain ⟨o1, g1, k1⟩ := e.kd p o hp nt
    obtain ⟨o2, g2, k2⟩ := x.kd p o1 g1 (k1.nt nt)
    exact ⟨o2, by rw [unH_ne (nin hp)]; exact g2, k1.trans k2⟩
/-- .. and told again -/
theorem ev_relk (l : LkOk H2 cs) (nc : NoCode cs) (nd : (cs.map Prod.fst).Nodup) (x : Ev TS L (unH H2 cs) H3) (fr3 : FrOk H3 cs) : Ev TS L H2 (lkH H3 cs) := by
  refine ⟨fun p o hp f nt => ?_, fun p o hp nt => ?_, fun t => tabs_lk fr3 (x.tb (tabs_un l nc t))⟩
  · by_cases z : p ∈ cs.map Prod.fst
    · obtain ⟨q, hq, rfl⟩ := List.mem_map.mp z
      rw [lkH_in nd q hq]
      exact (l q hq).symm.trans hp
    · rw [lkH_ne z]
      exact x.st p o (by rw [unH_ne z]; exact hp) f nt
  · by_cases z : p ∈ cs.map Prod.fst
    · obtain ⟨q, hq, rfl⟩ := List.mem_map.mp z
      rw [l q hq] at hp
      cases hp
      exact ⟨_, lkH_in nd q hq, Kin.refl _⟩
    · obtain ⟨o', g, k⟩ := x.kd p o (by rw [unH_ne z]; exact hp) nt
      exact ⟨o', by rw [lkH_ne z]; exact g, k⟩
theorem al_un (l : LkOk H cs) (n : p ∉ cs.map Prod.fst) (h : Al H p) : Al (unH H cs) p := by
  obtain ⟨o, g, nt⟩ := h
  exact ⟨o, by rw [unH_ne n]; exact g, nt⟩
theorem na_un (h : NA H p) : NA (unH H cs) p := fun ⟨o, g, nt⟩ => h ⟨o, (unH_some g).2, nt⟩
/-- what is not new here is not new there but for the cells -/
theorem na_of_un (l : LkOk H cs) (n : p ∉ cs.map Prod.fst) (h : NA (unH H cs) p) : NA H p := fun z => h (al_un l n z)
theorem sqT_un {xs : List V} (l : LkOk H cs) (x : SqT K H p xs) : SqT K (unH H cs) p xs := by
  rcases x with (x | ⟨o, x⟩) | x
  · exact .inl (.inl (un_at l x (fun φ z => by cases z)))
  · exact .inl (.inr ⟨o, un_at l x (fun φ z => by cases z)⟩)
  · exact .inr x
theorem ra_un {rs : List Row} (l : LkOk H cs) (h : RA H rs) : RA (unH H cs) rs := fun r hr => un_at l (h r hr) (fun φ z => by cases z)
theorem kq_un (l : LkOk H cs) (x : KQ CK H a qh nms rows) : KQ CK (unH H cs) a qh nms rows := by
  obtain ⟨dx, qn, rs, g1, ⟨ob, g2, g2'⟩, g3, g4, g5⟩ := x
  exact ⟨dx, qn, rs, un_at l g1 (fun φ z => by cases z), ⟨ob, un_at l g2 (fun φ z => by cases z), g2'⟩, un_at l g3 (fun φ z => by cases z), ra_un l g4, g5⟩
theorem kq_lk (fr : FrOk H cs) (x : KQ CK H a qh nms rows) : KQ CK (lkH H cs) a qh nms rows := ev_kq (TS := []) (ev_lk fr) x trivial trivial
theorem bag_un {n : Nat} (l : LkOk H cs) (x : BagB H a n) : BagB (unH H cs) a n := by
  obtain ⟨y, h, hl⟩ := x
  exact ⟨y, un_at l h (fun φ z => by cases z), hl⟩
theorem lr_un (l : LkOk H cs) (x : LR H a rows) : LR (unH H cs) a rows := by
  obtain ⟨rs, h1, h2, h3⟩ := x
  exact ⟨rs, un_at l h1 (fun φ z => by cases z), ra_un l h2, h3⟩
theorem kq_nin (l : LkOk H cs) (x : KQ CK H a qh nms rows) : a ∉ cs.map Prod.fst ∧ qh ∉ cs.map Prod.fst := by
  obtain ⟨dx, qn, rs, g1, _, g3, _⟩ := x
  exact ⟨lk_notin l g1 (fun φ z => by cases z), lk_notin l g3 (fun φ z => by cases z)⟩
end
end MV

namespace MV
open PySem PySem.Spec PyProof.Rows L2 SB MM LamX
local macro_rules | `(tactic| walk_at "rd") => `(tactic| repeat (first | (refine ⟨_, rfl, ?_⟩) | (refine ⟨_, _, rfl, rfl, ?_⟩) | (refine ⟨_, _, rfl, ?_⟩) | (refine ⟨rfl, ?_⟩) | (with_reducible refine st_nil ?_) | (with_reducible refine st_cons ?_) | (with_reducible refine st_C ?_)))
local macro_rules | `(tactic| walk_at "isL") => `(tactic| first | assumption | (apply isL.of; assumption) | (apply isL.bag; assumption) | (apply isL.lr; assumption) | (apply KQ.isL; assumption) | (apply isL.ev; assumption; walk_at "isL"))
local macro_rules | `(tactic| walk_at "isI") => `(tactic| first | assumption | (apply isI.of; assumption) | (apply KQ.isI; assumption) | (apply MoveAt.isI; assumption) | (apply isI.ev; assumption; walk_at "isI"))
local macro_rules | `(tactic| walk_at "al") => `(tactic| first | assumption | (apply isL.al; walk_at "isL") | (apply isI.al; walk_at "isI") | (apply Al.dK; assumption) | (apply Al.dT; assumption) | (apply Al.ev; assumption; walk_at "al"))
local macro_rules | `(tactic| walk_at "ne") => `(tactic| first | (apply NeH.of; assumption) | (apply NeH.ofs; assumption) | (apply neLI; walk_at "isL"; walk_at "isI") | (apply neIL; walk_at "isI"; walk_at "isL") | (apply Al.ne; assumption; walk_at "al") | (apply Al.ens; assumption; walk_at "al") | (apply NA.ne; assumption; walk_at "al") | (apply NA.ens; assumption; walk_at "al"))
local macro_rules | `(tactic| walk_at "nin") => `(tactic| first | exact trivial | (refine And.intro ?_ ?_; walk_at "ne"; walk_at "nin"))
local macro_rules | `(tactic| walk_at "t") => `(tactic| first | assumption | (apply ev_tup; assumption; walk_at "t") | (apply ev_lst; assumption; walk_at "t"; walk_at "nin") | (apply ev_ins; assumption; walk_at "t"; walk_at "nin") | (apply ev_dK; assumption; walk_at "t"; walk_at "nin") | (apply ev_dT; assumption; walk_at "t"; walk_at "nin") | (apply ev_ra; assumption; walk_at "t") | (apply ev_bag; assumption; walk_at "t"; walk_at "nin") | (apply ev_lr; assumption; walk_at "t"; walk_at "nin") | (apply ev_kq; assumption; walk_at "t"; walk_at "nin"; walk_at "nin") | (apply ev_tabs; assumption; walk_at "t") | (apply ev_fzT; assumption; walk_at "t") | (apply ev_od; assumption; walk_at "t") | (apply ev_odR; assumption; walk_at "t") | (apply ev_cels; assumption; walk_at "t") | (apply ev_move; assumption; walk_at "t"; walk_at "nin") | (apply ev_rt; assumption; walk_at "t") | (apply ev_goodR; assumption; walk_at "t") | (apply ev_rowvs; assumption; walk_at "t") | (apply ev_dm; assumption; walk_at "t")  | (apply SqL.of; walk_at "t") | (apply SqT.of; walk_at "t") | (apply ev_sqT; assumption; walk_at "t") | (apply ev_sqL; assumption; walk_at "t"; walk_at "nin"))
local macro_rules | `(tactic| walk_at "le") => `(tactic| first | exact Le.refl _ | (apply Le.ev; assumption; walk_at "le"))
local macro_rules | `(tactic| walk_at "om") => `(tactic| first | exact Or.inl (List.mem_cons_self) | exact Or.inl (List.mem_cons_of_mem _ List.mem_cons_self) | exact Or.inl (List.mem_cons_of_mem _ (List.mem_cons_of_mem _ List.mem_cons_self)) | (apply Or.inr; apply nal0; assumption) | (apply Or.inr; apply Le.nal; assumption; walk_at "le") | (apply Or.inr; apply Le.na; assumption; walk_at "le"))
local macro_rules | `(tactic| walk_at "out") => `(tactic| first | exact trivial | (refine And.intro ?_ ?_; walk_at "om"; walk_at "out"))
local macro_rules | `(tactic| walk_at "e") => `(tactic| first | assumption | exact Ev.refl _ _ | (apply Ev.trans'; assumption; walk_at "e"; walk_at "out"))
local macro_rules | `(tactic| walk_at "c") => `(tactic| dsimp only [tNil, tCons, tC])
local macro_rules | `(tactic| walk_at "na") => `(tactic| first | assumption | (apply NA.of; assumption) | (apply Le.nal; assumption; walk_at "le") | (apply Le.na; assumption; walk_at "le"))
local macro_rules | `(tactic| walk_at "rs") => `(tactic| repeat (first | (with_reducible refine st_nil ?_) | (with_reducible refine st_cons ?_) | (with_reducible refine st_C ?_)))
local macro_rules | `(tactic| walk_at "rv") => `(tactic| repeat (first | (refine ⟨_, rfl, ?_⟩) | (with_reducible refine st_nil ?_) | (with_reducible refine st_cons ?_) | (with_reducible refine st_C ?_)))
local macro_rules | `(tactic| walk_at "if") => `(tactic| first | refine ifT rfl ?_ | refine ifF rfl ?_ | skip)
abbrev s_k_attempt : Stmt := inClass (top 27) 26
/-- what the action has left of the keeper when an exception leaves it -/
def KpAt (CK : Addr) (H : Hp) (kp : Addr) (nms : List Str) : Prop := ∃ dk qn q3 : Addr, H kp = some (.ins CK dk (kfs qn q3)) ∧ FzT H qn (nms.map V.str)
/-- a class that an exception may have -/
def ClsE (cls : Value) : Prop := (∃ CE : Addr, cls = .ref CE) ∨ ∃ n : String, cls = .type n
/-- an attempt: RV, RE, RO tell what the action has made where it returns, lets out an error of the package, another one (told of the heap at its start and the one at its end) -/
def spAtt (kf : Nat) (P : Program) (w : World) (K : PySem.W.Frag) (mg : Str → Option Value) (base : Heap) (TS : List (Addr × Str)) (CK CSE : Addr) : Sp := fun vs H Q E => ∃ (kp ac qh : Addr) (nms : List Str) (rows : List (List Int)) (sp : Sp) (L : List Addr) (RV RE : Hp → Hp → Prop) (RO : Value → Option Addr → Hp → Hp → Prop), vs = [.ref kp, .ref ac] ∧ KQ CK H kp qh nms rows ∧ rows.length ≤ 10000 ∧ (∀ p ∈ L, Al H p) ∧ Fa P w K mg base (L2.CX P w) kf ac sp H ∧
  (∀ H2 H3 H4, RE H2 H3 → KpAt CK H3 kp nms → Ev TS [kp] H3 H4 → RE H2 H4) ∧ (∀ cls d H2 H3 H4, RO cls d H2 H3 → KpAt CK H3 kp nms → Ev TS [kp] H3 H4 → RO cls d H2 H4) ∧
  (∀ (H2 : Hp) (Q2 : VK) (E2 : XK), Ev TS [] H H2 → (∀ v H3, Ev TS (kp :: L) H2 H3 → RV H2 H3 → Q2 v H3) →
    (∀ (CE : Addr) (d : Option Addr) (H3 : Hp), PySem.W.exmOne K (.ref CE) (.ref CSE) = some true → Ev TS (kp :: L) H2 H3 → KpAt CK H3 kp nms → RE H2 H3 → E2 (.ref CE) d H3) →
    (∀ (cls : Value) (d : Option Addr) (H3 : Hp), ClsE cls → PySem.W.exmOne K cls (.ref CSE) = some false → Ev TS (kp :: L) H2 H3 → KpAt CK H3 kp nms → RO cls d H2 H3 → E2 cls d H3) → sp [.ref kp] H2 Q2 E2) ∧
  (∀ H2 H3, Ev TS [] H H2 → Ev TS (kp :: L) H H3 → RV H2 H3 → Q (.bl true) H3) ∧
  (∀ m H2 H4, NA H m → Al H2 m → Ev TS [] H H2 → RE H2 H4 → Ev TS (kp :: L) H H4 → KQ CK H4 kp m nms rows → Q (.bl false) H4) ∧
  (∀ cls d m H2 H4, NA H m → Al H2 m → Ev TS [] H H2 → RO cls d H2 H4 → Ev TS (kp :: L) H H4 → KQ CK H4 kp m nms rows → E cls d H4)
theorem out_sub {H : Hp} {L : List Addr} : ∀ {L1 : List Addr}, (∀ p ∈ L1, p ∈ L) → Out H L L1
  | [], _ => trivial
  | q :: r, h => ⟨.inl (h q List.mem_cons_self), out_sub fun p hp => h p (List.mem_cons_of_mem _ hp)⟩
section
variable {P : Program} {w : World} {K : PySem.W.Frag} {mg : Str → Option Value} {base : Heap} {KPT CK CS CSE fE fX : Addr} {TS : List (Addr × Str)} {kf : Nat}
theorem sc_k_attempt : FnScope ["self", "action"] ["self", "action"] (defScope s_k_attempt) := ⟨rfl, rfl, rfl, by decide +kernel, rfl, by decide +kernel, by decide +kernel⟩
theorem ok_att {f : Addr} {fd : FuncData} (F : Fun K "attempt" "Keeper.attempt" s_k_attempt f fd) (T : TxtKe K mg KPT CK) (MSaved : Ml P w K mg base CX0 1 "Saved" CS (spSvInit TS CS))
    (e1 : PySem.W.findIn K (.ref CS) "__enter__" = some (some (.ref fE))) (e2 : PySem.W.isFn K (.ref fE) = true) (x1 : PySem.W.findIn K (.ref CS) "__exit__" = some (some (.ref fX))) (x2 : PySem.W.isFn K (.ref fX) = true)
    (FE : FnR P w K mg base CX0 1 fE (spSvEnter TS CK CS)) (FX : FnR P w K mg base CX0 1 fX (spSvExit TS CK CS)) (FQ : FnQ P w K mg base 1 fX (spSvExit TS CK CS)) (hSE : mg "SidelistsError" = some (.ref CSE)) : FnR P w K mg base (L2.CX P w) (kf + 3) f (spAtt kf P w K mg base TS CK CSE) := by
  refine fnrX F sc_k_attempt (fun vs H Q E h => ?_) (fun _ _ _ _ _ _ us hl => match us, hl with | [_, _], _ => rfl) (fun cdv A outer s H vs Q E hr h => ?_)
  · obtain ⟨kp, ac, qh, nms, rows, sp, L, RV, RE, RO, rfl, _⟩ := h
    rfl
  · obtain ⟨kp, ac, qh, nms, rows, sp, L, RV, RE, RO, rfl, kq, hz, hL, hF, hRE, hRO, hact, kT, kF, kO⟩ := h
    refine ⟨_, pss_cons (ps_try_only (c := .ref CSE) rfl rfl ⟨rfl, by decide, .inl hSE⟩ (takes_of rfl rfl rfl rfl) (fun W pn xe tk hp => pss_one (ps_withX rfl rfl rfl tk e1 e2 x1 x2 FE FX FQ (hr.mono (by omega)) (pe_ml MSaved hr (by omega) (by rfl) pass0 (pa_cons (pv 0) pa_nil))
      (fun W2 pn2 xe2 tk2 hp2 => pss_one (ps_expr (pe_faV (P := P) (w := w) (K := K) (mg := mg) (base := base) (k := kf) (i := 1) (CX := L2.CX P w) (by rfl) (by rfl) (by rfl) (by rfl) (by rfl) (by rfl) (by first | exact Or.inl rfl | exact Or.inr (Or.inl rfl) | exact Or.inr (Or.inr rfl)) (pa_cons (pv 0) pa_nil) hr (by omega) (fun σ => passAt tk2 σ)))))) (fun a oe cls d pn _ _ => pss_one (ps_ret pe_bl))) (pss_one (ps_ret pe_bl)), ?_⟩
    walk_at "rd"
    have eS : ∀ {x dx : Addr}, H x = none → H dx = none → Ev TS [] H (upd (upd H dx (.own x)) x (.ins CS dx [])) := fun nx nd => Ev.same (mk_same nx nd)
    refine fun x dx nx nd nxd => ⟨x, dx, kp, rfl, upd_same, fun l H1 nl e1' h1 hl => ?_⟩
    have n0 : NA H x := NA.of nx
    have E1 : Ev TS [] H H1 := (eS nx nd).trans e1' ⟨.inr n0, trivial⟩
    have kq1 : KQ CK H1 kp qh nms rows := (by walk_at "t")
    have nkx : kp ≠ x := fun z => n0 (z ▸ kq.al)
    refine ⟨rfl, x, dx, _, rfl, h1, x, dx, kp, l, qh, nms, rows, rfl, h1, kq1, hz, nkx, fun m H2 nm e2 h2 lr2 => ?_⟩
    have nm0 : NA H m := Le.na nm (Le.ev E1 (Le.refl H))
    have E2 : Ev TS [] H H2 := E1.trans e2 ⟨.inr n0, trivial⟩
    have F2 := hF.imp (H' := H2) (fun _ _ z => E2.ext_ z)
    refine ⟨ac, sp, rfl, F2, ?_⟩
    walk_at "rd"
    have nxL : x ∉ kp :: L := fun z => by
      rcases List.mem_cons.mp z with z | z
      · exact nkx z.symm
      · exact n0 (hL x z)
    have nmL : m ∉ kp :: L := fun z => by
      rcases List.mem_cons.mp z with z | z
      · exact nm0 (z ▸ kq.al)
      · exact nm0 (hL m z)
    obtain ⟨rs, hm2, ra2, ers⟩ := lr2
    have toH : ∀ {H3 : Hp}, Ev TS (kp :: L) H2 H3 → Ev TS (kp :: L) H H3 := fun e3 => (E2.mono fun _ z => nomatch z).trans e3 (out_sub fun _ z => z)
    have back : ∀ {H3 H4 : Hp} {dk qn q3 : Addr}, Ev TS (kp :: L) H2 H3 → FzT H3 qn (nms.map V.str) → Ev TS [kp] H3 H4 → H4 kp = some (.ins CK dk (kfs qn m)) → Ev TS (kp :: L) H H4 ∧ KQ CK H4 kp m nms rows := fun {H3 H4 dk qn q3} e3 hq3 e4 h4 => by
      have hm3 : H3 m = some (.lst (rs.map refR)) := e3.st _ _ hm2 (fun z => absurd z nmL) (fun _ z => by cases z)
      have hm4 : H4 m = some (.lst (rs.map refR)) := e4.st _ _ hm3 (fun z => absurd (List.mem_singleton.mp z) fun z => nmL (by rw [z]; exact List.mem_cons_self)) (fun _ z => by cases z)
      exact ⟨(toH e3).trans e4 (out_sub fun p z => by rw [List.mem_singleton.mp z]; exact List.mem_cons_self), dk, qn, rs, h4, ev_fzT e4 hq3, hm4, ev_ra e4 (ev_ra e3 ra2), ers⟩
    have sv : ∀ {H3 : Hp}, Ev TS (kp :: L) H2 H3 → H3 x = some (.ins CS dx (svs kp m)) := fun e3 => e3.st _ _ h2 (fun z => absurd z nxL) (fun _ z => by cases z)
    refine ⟨F2, hact H2 _ _ E2 (fun v H3 e3 rv => .inl ⟨x, rfl, ?_⟩) (fun CE d H3 hex e3 hk r3 => ?_) (fun cls d H3 hcl hex e3 hk r3 => ?_)⟩
    · walk_at "rd"
      exact kT H2 H3 E2 (toH e3) rv
    · obtain ⟨dk, qn, q3, hk3, hq3⟩ := id hk
      refine ⟨.ref CE, rfl, fun va vt => .inr ⟨x, dx, kp, m, dk, qn, q3, .ref CE, va, vt, rfl, .inl ⟨CE, rfl⟩, sv e3, hk3, fun H4 e4 h4 => ⟨rfl, true, hex, fun _ a na => ?_, fun z => by cases z⟩⟩⟩
      obtain ⟨E4, kq4⟩ := back (q3 := q3) e3 hq3 e4 h4
      exact kF m H2 H4 nm0 (Al.lst hm2) E2 (hRE _ _ _ r3 hk e4) E4 kq4
    · obtain ⟨dk, qn, q3, hk3, hq3⟩ := id hk
      have go : ∀ H4, Ev TS [kp] H3 H4 → H4 kp = some (.ins CK dk (kfs qn m)) → E cls d H4 := fun H4 e4 h4 => by
        obtain ⟨E4, kq4⟩ := back (q3 := q3) e3 hq3 e4 h4
        exact kO cls d m H2 H4 nm0 (Al.lst hm2) E2 (hRO _ _ _ _ _ r3 hk e4) E4 kq4
      rcases hcl with ⟨CE, rfl⟩ | ⟨n, rfl⟩
      · exact ⟨.ref CE, rfl, fun va vt => .inr ⟨x, dx, kp, m, dk, qn, q3, .ref CE, va, vt, rfl, .inl ⟨CE, rfl⟩, sv e3, hk3, fun H4 e4 h4 => ⟨rfl, false, hex, (fun z => by cases z), fun _ => go H4 e4 h4⟩⟩⟩
      · exact ⟨.ty n, rfl, fun va vt => .inr ⟨x, dx, kp, m, dk, qn, q3, .ty n, va, vt, rfl, .inr ⟨n, rfl⟩, sv e3, hk3, fun H4 e4 h4 => ⟨rfl, false, hex, (fun z => by cases z), fun _ => go H4 e4 h4⟩⟩⟩
end
end MV

namespace MV
open PySem PySem.Spec PyProof.Rows L2 SB MM LamX StX
local macro_rules | `(tactic| walk_at "rd") => `(tactic| repeat (first | (refine ⟨_, rfl, ?_⟩) | (refine ⟨_, _, rfl, rfl, ?_⟩) | (refine ⟨_, _, rfl, ?_⟩) | (refine ⟨rfl, ?_⟩) | (with_reducible refine st_nil ?_) | (with_reducible refine st_cons ?_) | (with_reducible refine st_C ?_)))
local macro_rules | `(tactic| walk_at "isL") => `(tactic| first | assumption | (apply isL.of; assumption) | (apply isL.bag; assumption) | (apply isL.lr; assumption) | (apply KQ.isL; assumption) | (apply isL.ev; assumption; walk_at "isL"))
local macro_rules | `(tactic| walk_at "isI") => `(tactic| first | assumption | (apply isI.of; assumption) | (apply KQ.isI; assumption) | (apply MoveAt.isI; assumption) | (apply isI.ev; assumption; walk_at "isI"))
local macro_rules | `(tactic| walk_at "al") => `(tactic| first | assumption | (apply isL.al; walk_at "isL") | (apply isI.al; walk_at "isI") | (apply Al.dK; assumption) | (apply Al.dT; assumption) | (apply Al.ev; assumption; walk_at "al"))
local macro_rules | `(tactic| walk_at "ne") => `(tactic| first | (apply NeH.of; assumption) | (apply NeH.ofs; assumption) | (apply neLI; walk_at "isL"; walk_at "isI") | (apply neIL; walk_at "isI"; walk_at "isL") | (apply Al.ne; assumption; walk_at "al") | (apply Al.ens; assumption; walk_at "al") | (apply NA.ne; assumption; walk_at "al") | (apply NA.ens; assumption; walk_at "al"))
local macro_rules | `(tactic| walk_at "nin") => `(tactic| first | exact trivial | (refine And.intro ?_ ?_; walk_at "ne"; walk_at "nin"))
local macro_rules | `(tactic| walk_at "t") => `(tactic| first | assumption | (apply ev_tup; assumption; walk_at "t") | (apply ev_lst; assumption; walk_at "t"; walk_at "nin") | (apply ev_ins; assumption; walk_at "t"; walk_at "nin") | (apply ev_dK; assumption; walk_at "t"; walk_at "nin") | (apply ev_dT; assumption; walk_at "t"; walk_at "nin") | (apply ev_ra; assumption; walk_at "t") | (apply ev_bag; assumption; walk_at "t"; walk_at "nin") | (apply ev_lr; assumption; walk_at "t"; walk_at "nin") | (apply ev_kq; assumption; walk_at "t"; walk_at "nin"; walk_at "nin") | (apply ev_tabs; assumption; walk_at "t") | (apply ev_fzT; assumption; walk_at "t") | (apply ev_od; assumption; walk_at "t") | (apply ev_odR; assumption; walk_at "t") | (apply ev_cels; assumption; walk_at "t") | (apply ev_move; assumption; walk_at "t"; walk_at "nin") | (apply ev_rt; assumption; walk_at "t") | (apply ev_goodR; assumption; walk_at "t") | (apply ev_rowvs; assumption; walk_at "t") | (apply ev_dm; assumption; walk_at "t")  | (apply SqL.of; walk_at "t") | (apply SqT.of; walk_at "t") | (apply ev_sqT; assumption; walk_at "t") | (apply ev_sqL; assumption; walk_at "t"; walk_at "nin"))
local macro_rules | `(tactic| walk_at "le") => `(tactic| first | exact Le.refl _ | (apply Le.ev; assumption; walk_at "le"))
local macro_rules | `(tactic| walk_at "om") => `(tactic| first | exact Or.inl (List.mem_cons_self) | exact Or.inl (List.mem_cons_of_mem _ List.mem_cons_self) | exact Or.inl (List.mem_cons_of_mem _ (List.mem_cons_of_mem _ List.mem_cons_self)) | (apply Or.inr; apply nal0; assumption) | (apply Or.inr; apply Le.nal; assumption; walk_at "le") | (apply Or.inr; apply Le.na; assumption; walk_at "le"))
local macro_rules | `(tactic| walk_at "out") => `(tactic| first | exact trivial | (refine And.intro ?_ ?_; walk_at "om"; walk_at "out"))
local macro_rules | `(tactic| walk_at "e") => `(tactic| first | assumption | exact Ev.refl _ _ | (apply Ev.trans'; assumption; walk_at "e"; walk_at "out"))
local macro_rules | `(tactic| walk_at "c") => `(tactic| dsimp only [tNil, tCons, tC])
local macro_rules | `(tactic| walk_at "na") => `(tactic| first | assumption | (apply NA.of; assumption) | (apply Le.nal; assumption; walk_at "le") | (apply Le.na; assumption; walk_at "le"))
local macro_rules | `(tactic| walk_at "rs") => `(tactic| repeat (first | (with_reducible refine st_nil ?_) | (with_reducible refine st_cons ?_) | (with_reducible refine st_C ?_)))
local macro_rules | `(tactic| walk_at "rv") => `(tactic| repeat (first | (refine ⟨_, rfl, ?_⟩) | (with_reducible refine st_nil ?_) | (with_reducible refine st_cons ?_) | (with_reducible refine st_C ?_)))
local macro_rules | `(tactic| walk_at "if") => `(tactic| first | refine ifT rfl ?_ | refine ifF rfl ?_ | skip)
abbrev s_k_apply : Stmt := inClass (top 27) 25
/-- what apply answers: the cases, then how it goes on -/
def ApplyC (TS : List (Addr × Str)) (CK CM CBR a : Addr) (nms : List Str) (rows : List (List Int)) (t : Nat) (ps : List Int) (ws : List V) (H : Hp) (Q : VK) (E : XK) : Prop :=
  (t ≠ rows.length ∧ Rz TS H E CM [("got", .int (rows.length : Int)), ("wanted", .int (t : Int))]) ∨ (t = rows.length ∧ ((gapsM ps ≠ ws.length ∧ Rz TS H E CM [("got", .int (ws.length : Int)), ("wanted", .int (gapsM ps : Int))]) ∨ (gapsM ps = ws.length ∧
    ((∃ (j : Nat) (x : V), ws[j]? = some x ∧ OdR H nms.length x ∧ (∀ (i : Nat) (y : V), i < j → ws[i]? = some y → GoodR H nms.length y) ∧ Rz TS H E CBR [("at", .int (j : Int))]) ∨
     ((∀ x ∈ ws, GoodR H nms.length x) ∧ ∀ new tp qh' H', RT H' tp new → H' tp = some (.tup ws) → WF nms.length new → new.length = ws.length → NA H qh' → Ev TS [a] H H' → KQ CK H' a qh' nms (applyM ps rows new) → Q .non H')))))
def spApplyB (K : PySem.W.Frag) (TS : List (Addr × Str)) (CK C CM CBR : Addr) : Sp := fun vs H Q E => ∃ (a qh m r : Addr) (nms : List Str) (rows : List (List Int)) (t : Nat) (ps : List Int) (ws : List V), vs = [.ref a, .ref m, .ref r] ∧ KQ CK H a qh nms rows ∧ nms.length ≤ 6 ∧ rows.length ≤ 1000 ∧ MoveAt K C H m t ps ∧ MoveOk t ps ∧ ps.length ≤ 1000 ∧ H r = some (.tup ws) ∧ RowVs H nms.length ws ∧ ApplyC TS CK CM CBR a nms rows t ps ws H Q E
def spApply (K : PySem.W.Frag) (TS : List (Addr × Str)) (CK C CM CBR : Addr) : Sp := fun vs H Q E => ∃ (a qh m : Addr) (nms : List Str) (rows : List (List Int)) (t : Nat) (ps : List Int) (ws : List V), vs = .ref a :: .ref m :: ws ∧ KQ CK H a qh nms rows ∧ nms.length ≤ 6 ∧ rows.length ≤ 1000 ∧ MoveAt K C H m t ps ∧ MoveOk t ps ∧ ps.length ≤ 1000 ∧ ws.length ≤ 1000 ∧ RowVs H nms.length ws ∧ ApplyC TS CK CM CBR a nms rows t ps ws H Q E
section
variable {P : Program} {w : World} {K : PySem.W.Frag} {mg : Str → Option Value} {base : Heap} {KPT CK C CM CBR : Addr} {TS : List (Addr × Str)}
theorem sc_k_apply : FnScope ["self", "move", "rows"] ["self", "move", "rows"] (defScope s_k_apply) := ⟨rfl, rfl, rfl, by decide +kernel, rfl, by decide +kernel, by decide +kernel⟩
theorem apply_body {f : Addr} {cdv : Value} (T : TxtKe K mg KPT CK) (TM : TxtM K mg C) (PRgaps : Pr P w K mg base CX0 1 C "gaps" (spGaps K C)) (MKmoved : Me P w K mg base CX0 4 CK "moved" (spMoved K TS CK C)) (XMismatch : Xc P w K mg base 1 "Mismatch" CM ["wanted", "got"]) (Dcrows : Cl P w K mg base (L2.CX P w) 4 "check_rows" (spCRowsX K TS CBR))
    (A : Around) (outer : List Env) (s : Shared) (H : Hp) (vs : List V) (Q : VK) (E : XK) (hr : Room 4 (A.deeper (envOfC "Keeper.apply" (defScope s_k_apply) s.heap.objs.size f cdv))) (h : spApplyB K TS CK C CM CBR vs H Q E) :
    ∃ t, PSs (cxOf (L2.CX P w) P w K mg base ["self", "move", "rows"] "Keeper.apply" (defScope s_k_apply) f cdv A outer s H E) (defBody s_k_apply) t ∧ t { nx := fun _ H' => Q .non H', rt := Q } (start ["self", "move", "rows"] vs) H := by
  obtain ⟨a, qh, m, r, nms, rows, t, ps, ws, rfl, kq, h6, h1000, hm, okm, hpl, hrw, hrv, hv⟩ := h
  obtain ⟨dx, qn, rs, ha, hqn, hqh, ra, ers⟩ := id kq
  obtain ⟨dm, q, hmi, hmq⟩ := id hm
  have lrs : rs.length = rows.length := by rw [← ers, List.length_map]
  refine ⟨_, (pss_cons (ps_if (pt_cmpR op_ne (pe_callB call_len_seq (by rfl) T.n_len (by decide +kernel) (pa_cons (pe_fld (pv 0) (by rfl)) pa_nil)) (pe_fld (pv 1) (by rfl)) (nomark _)) (pss_one (ps_raise rfl (takes_of rfl rfl rfl rfl) (pmk_x XMismatch hr (by decide) (by rfl) (pa_cons (pe_fld (pv 1) (by rfl)) (pa_cons (pe_callB call_len_seq (by rfl) T.n_len (by decide +kernel) (pa_cons (pe_fld (pv 0) (by rfl)) pa_nil)) pa_nil))))) pss_nil)
      (pss_cons (ps_if (pt_cmpR op_ne (pe_callB call_len_seq (by rfl) T.n_len (by decide +kernel) (pa_cons (pv 2) pa_nil)) (pe_pr PRgaps hr (by decide) pass0 (pv 1)) (nomark _)) (pss_one (ps_raise rfl (takes_of rfl rfl rfl rfl) (pmk_x XMismatch hr (by decide) (by rfl) (pa_cons (pe_pr PRgaps hr (by decide) pass0 (pv 1)) (pa_cons (pe_callB call_len_seq (by rfl) T.n_len (by decide +kernel) (pa_cons (pv 2) pa_nil)) pa_nil))))) pss_nil)
      (pss_cons (ps_expr (pe_cl Dcrows hr (by decide) (by rfl) (passL rfl rfl rfl rfl) (pa_cons (pv 2) (pa_cons (pe_callB call_len_seq (by rfl) T.n_len (by decide +kernel) (pa_cons (pe_fld (pv 0) (by rfl)) pa_nil)) pa_nil))))
      (pss_one (ps_expr (pe_mo (pv 0) T.ck MKmoved hr (by decide) pass0 (pa_cons (pv 1) (pa_cons (pv 2) pa_nil)))))))), ?_⟩
  walk_at "rd"
  refine ⟨a, CK, dx, _, _, rfl, ha, T.ck, T.nh, kfs_held _ _, ?_⟩
  refine ⟨qh, _, rfl, .inl (SqL.of hqh), ?_⟩
  rw [List.length_map, lrs]
  walk_at "rd"
  refine ⟨m, C, dm, _, _, rfl, hmi, TM.cl, TM.nt, mfs_takes _ _, ?_⟩
  walk_at "rd"
  rcases hv with ⟨hne, k⟩ | ⟨rfl, hv⟩
  · refine ifT (by rw [decide_eq_false (fun z => hne (by have := V.int.inj z; omega))]; rfl) ?_
    walk_at "rd"
    refine ⟨m, C, dm, _, _, rfl, hmi, TM.cl, TM.nt, mfs_takes _ _, ?_⟩
    walk_at "rd"
    refine ⟨a, CK, dx, _, _, rfl, ha, T.ck, T.nh, kfs_held _ _, ?_⟩
    refine ⟨qh, _, rfl, .inl (SqL.of hqh), ?_⟩
    rw [List.length_map, lrs]
    walk_at "rd"
    exact ⟨by show 2 ≤ 1000; decide, k.go⟩
  refine ifF (by rw [decide_eq_true rfl]; rfl) ?_
  walk_at "rd"
  refine ⟨r, ws, rfl, .inr (SqT.of hrw), ?_⟩
  walk_at "rd"
  refine ⟨m, dm, _, rfl, hmi, m, rows.length, ps, rfl, hm, by omega, fun H1 s1 => ?_⟩
  have e1 : Ev TS [] H H1 := Ev.same s1
  walk_at "rd"
  rcases hv with ⟨hne, k⟩ | ⟨hge, hv⟩
  · refine ifT (by rw [decide_eq_false (fun z => hne (by have := V.int.inj z; omega))]; rfl) ?_
    walk_at "rd"
    have hmi1 : H1 m = some (.ins C dm (mfs rows.length q)) := (by walk_at "t")
    refine ⟨m, dm, _, rfl, hmi1, m, rows.length, ps, rfl, (by walk_at "t"), by omega, fun H2 s2 => ?_⟩
    have e2 : Ev TS [] H1 H2 := Ev.same s2
    walk_at "rd"
    refine ⟨r, ws, rfl, .inr (SqT.of (by walk_at "t")), ?_⟩
    walk_at "rd"
    exact ⟨by show 2 ≤ 1000; decide, (k.ev (show Ev TS [] H H2 from (by walk_at "e"))).go⟩
  refine ifF (by rw [decide_eq_true (by rw [hge])]; rfl) ?_
  walk_at "rd"
  refine ⟨a, CK, dx, _, _, rfl, (by walk_at "t"), T.ck, T.nn, kfs_names qn qh, ?_⟩
  have hqn1 : FzT H1 qn (nms.map V.str) := (by walk_at "t")
  refine ⟨qn, _, rfl, .inr hqn1.sq, ?_⟩
  rw [List.length_map]
  walk_at "rd"
  refine ⟨r, nms.length, ws, rfl, .inr (SqT.of (by walk_at "t")), (by walk_at "t"), by omega, ?_⟩
  rcases hv with ⟨j, x, hx, ho, hlt, k⟩ | ⟨hgd, k⟩
  · refine ⟨fun hgd => (good_odd (hgd x (List.mem_of_getElem? hx)) (by walk_at "t")).elim, fun j' x' hx' ho' hlt' H2 e2 => ?_⟩
    have ej := first_odd (H := H1) hx (by walk_at "t") (fun i y hi hy => ev_goodR e1 (hlt i y hi hy)) hx' ho' hlt'
    subst ej
    exact k.ev (by walk_at "e")
  refine ⟨fun _ H2 e2 => ?_, fun j x hx ho hlt => (good_odd (have := hgd x (List.mem_of_getElem? hx); (by walk_at "t")) ho).elim⟩
  obtain ⟨new, hrt, hwf, hnl⟩ := goods_rt hgd hrw
  walk_at "rd"
  refine ⟨a, dx, _, rfl, (by walk_at "t"), kfs_no qn qh (by decide +kernel) (by decide +kernel), ?_⟩
  walk_at "rd"
  refine ⟨a, qh, m, r, nms, rows, new, ps, rfl, (by walk_at "t"), (by walk_at "t"), okm, by omega, (by walk_at "t"), by omega, fun qh' H3 nq e3 kq3 => ?_⟩
  exact k new r qh' H3 (by walk_at "t") (by walk_at "t") hwf hnl (by walk_at "na") (by walk_at "e") kq3
theorem ok_apply {f : Addr} {fd : FuncData} (F : Fun K "apply" "Keeper.apply" s_k_apply f fd) (T : TxtKe K mg KPT CK) (TM : TxtM K mg C) (PRgaps : Pr P w K mg base CX0 1 C "gaps" (spGaps K C)) (MKmoved : Me P w K mg base CX0 4 CK "moved" (spMoved K TS CK C)) (XMismatch : Xc P w K mg base 1 "Mismatch" CM ["wanted", "got"]) (Dcrows : Cl P w K mg base (L2.CX P w) 4 "check_rows" (spCRowsX K TS CBR)) :
    FnR P w K mg base (L2.CX P w) 5 f (spApply K TS CK C CM CBR) := by
  obtain ⟨oc, od, kV, doc, pm, an, cdv, ct, osl, rfl, lk, hcd⟩ := F.ex
  have G := fn_star (CX := L2.CX P w) (ps := ["self", "move"]) (pv := "rows") lk hcd sc_k_apply cxUp (fun us rest hl => match us, rest, hl with | [_, _], [], _ => rfl | [_, _], _ :: _, _ => rfl) (apply_body T TM PRgaps MKmoved XMismatch Dcrows)
  intro A outer s H us vs Q E hr e0 r h
  obtain ⟨a, qh, m, nms, rows, t, ps, ws, rfl, kq, h6, h1000, hm, okm, hpl, hwl, hrv, hv⟩ := h
  refine G A outer s H us _ Q E hr e0 r ⟨[.ref a, .ref m], ws, rfl, rfl, le_line (by omega), fun p hp => ?_⟩
  generalize hXX : upd _ p _ = H1
  obtain ⟨e1, h1⟩ := new_facts (TS := TS) hXX hp
  clear hXX
  walk_at "rs"
  refine ⟨a, qh, m, p, nms, rows, t, ps, ws, rfl, (by walk_at "t"), h6, h1000, (by walk_at "t"), okm, hpl, h1, (by walk_at "t"), ?_⟩
  rcases hv with ⟨hne, k⟩ | ⟨e, ⟨hne, k⟩ | ⟨hge, ⟨j, x, hx, ho, hlt, k⟩ | ⟨hgd, k⟩⟩⟩
  · exact .inl ⟨hne, k.ev e1⟩
  · exact .inr ⟨e, .inl ⟨hne, k.ev e1⟩⟩
  · exact .inr ⟨e, .inr ⟨hge, .inl ⟨j, x, hx, (by walk_at "t"), fun i y hi hy => ev_goodR e1 (hlt i y hi hy), k.ev e1⟩⟩⟩
  · exact .inr ⟨e, .inr ⟨hge, .inr ⟨fun x hx => ev_goodR e1 (hgd x hx), fun new tp qh' H2 hrt htp hwf hnl nq e2 kq2 => k new tp qh' H2 hrt htp hwf hnl (by walk_at "na") (by walk_at "e") kq2⟩⟩⟩
end
end MV

namespace MV
open PySem PySem.Spec PyProof.Rows L2 SB MM LamX StX
local macro_rules | `(tactic| walk_at "rd") => `(tactic| repeat (first | (refine ⟨_, rfl, ?_⟩) | (refine ⟨_, _, rfl, rfl, ?_⟩) | (refine ⟨_, _, rfl, ?_⟩) | (refine ⟨rfl, ?_⟩) | (with_reducible refine st_nil ?_) | (with_reducible refine st_cons ?_) | (with_reducible refine st_C ?_)))
local macro_rules | `(tactic| walk_at "isL") => `(tactic| first | assumption | (apply isL.of; assumption) | (apply isL.bag; assumption) | (apply isL.lr; assumption) | (apply KQ.isL; assumption) | (apply isL.ev; assumption; walk_at "isL"))
local macro_rules | `(tactic| walk_at "isI") => `(tactic| first | assumption | (apply isI.of; assumption) | (apply KQ.isI; assumption) | (apply MoveAt.isI; assumption) | (apply isI.ev; assumption; walk_at "isI"))
local macro_rules | `(tactic| walk_at "al") => `(tactic| first | assumption | (apply isL.al; walk_at "isL") | (apply isI.al; walk_at "isI") | (apply Al.dK; assumption) | (apply Al.dT; assumption) | (apply Al.ev; assumption; walk_at "al"))
local macro_rules | `(tactic| walk_at "ne") => `(tactic| first | (apply NeH.of; assumption) | (apply NeH.ofs; assumption) | (apply neLI; walk_at "isL"; walk_at "isI") | (apply neIL; walk_at "isI"; walk_at "isL") | (apply Al.ne; assumption; walk_at "al") | (apply Al.ens; assumption; walk_at "al") | (apply NA.ne; assumption; walk_at "al") | (apply NA.ens; assumption; walk_at "al"))
local macro_rules | `(tactic| walk_at "nin") => `(tactic| first | exact trivial | (refine And.intro ?_ ?_; walk_at "ne"; walk_at "nin"))
local macro_rules | `(tactic| walk_at "t") => `(tactic| first | assumption | (apply ev_tup; assumption; walk_at "t") | (apply ev_lst; assumption; walk_at "t"; walk_at "nin") | (apply ev_ins; assumption; walk_at "t"; walk_at "nin") | (apply ev_dK; assumption; walk_at "t"; walk_at "nin") | (apply ev_dT; assumption; walk_at "t"; walk_at "nin") | (apply ev_ra; assumption; walk_at "t") | (apply ev_bag; assumption; walk_at "t"; walk_at "nin") | (apply ev_lr; assumption; walk_at "t"; walk_at "nin") | (apply ev_kq; assumption; walk_at "t"; walk_at "nin"; walk_at "nin") | (apply ev_tabs; assumption; walk_at "t") | (apply ev_fzT; assumption; walk_at "t") | (apply ev_od; assumption; walk_at "t") | (apply ev_odR; assumption; walk_at "t") | (apply ev_cels; assumption; walk_at "t") | (apply ev_move; assumption; walk_at "t"; walk_at "nin") | (apply ev_rt; assumption; walk_at "t") | (apply ev_goodR; assumption; walk_at "t") | (apply ev_rowvs; assumption; walk_at "t") | (apply ev_dm; assumption; walk_at "t")  | (apply SqL.of; walk_at "t") | (apply SqT.of; walk_at "t") | (apply ev_sqT; assumption; walk_at "t") | (apply ev_sqL; assumption; walk_at "t"; walk_at "nin"))
local macro_rules | `(tactic| walk_at "le") => `(tactic| first | exact Le.refl _ | (apply Le.ev; assumption; walk_at "le"))
local macro_rules | `(tactic| walk_at "om") => `(tactic| first | exact Or.inl (List.mem_cons_self) | exact Or.inl (List.mem_cons_of_mem _ List.mem_cons_self) | exact Or.inl (List.mem_cons_of_mem _ (List.mem_cons_of_mem _ List.mem_cons_self)) | (apply Or.inr; apply nal0; assumption) | (apply Or.inr; apply Le.nal; assumption; walk_at "le") | (apply Or.inr; apply Le.na; assumption; walk_at "le"))
local macro_rules | `(tactic| walk_at "out") => `(tactic| first | exact trivial | (refine And.intro ?_ ?_; walk_at "om"; walk_at "out"))
local macro_rules | `(tactic| walk_at "e") => `(tactic| first | assumption | exact Ev.refl _ _ | (apply Ev.trans'; assumption; walk_at "e"; walk_at "out"))
local macro_rules | `(tactic| walk_at "c") => `(tactic| dsimp only [tNil, tCons, tC])
local macro_rules | `(tactic| walk_at "na") => `(tactic| first | assumption | (apply NA.of; assumption) | (apply Le.nal; assumption; walk_at "le") | (apply Le.na; assumption; walk_at "le"))
local macro_rules | `(tactic| walk_at "rs") => `(tactic| repeat (first | (with_reducible refine st_nil ?_) | (with_reducible refine st_cons ?_) | (with_reducible refine st_C ?_)))
local macro_rules | `(tactic| walk_at "rv") => `(tactic| repeat (first | (refine ⟨_, rfl, ?_⟩) | (with_reducible refine st_nil ?_) | (with_reducible refine st_cons ?_) | (with_reducible refine st_C ?_)))
local macro_rules | `(tactic| walk_at "if") => `(tactic| first | refine ifT rfl ?_ | refine ifF rfl ?_ | skip)
abbrev s_deed : Stmt := top 38
theorem rng_yld {x : V} {i : Nat} {H H' : Hp} (h : H' = H ∧ x = .int (0 + (i : Int))) : H' = H ∧ x = .int (i : Int) := by
  rw [Int.zero_add] at h
  exact h
theorem split_at {A C : List Int} {x : Int} {k : Nat} (hA : A.length = k) : (A ++ x :: C).take k = A ∧ (A ++ x :: C).drop (k + 1) = C := by
  subst hA
  constructor
  · simp
  · have : (A ++ x :: C) = (A ++ [x]) ++ C := by simp
    rw [this, List.drop_left' (by simp)]
theorem drop_one {t k : Nat} (h : k < t) : dropM t [(k : Int)] = (stillM t).take k ++ (stillM t).drop (k + 1) := by
  obtain ⟨m, rfl⟩ : ∃ m, t = k + (m + 1) := ⟨t - k - 1, by omega⟩
  have e : stillM (k + (m + 1)) = (List.range k).map (fun i : Nat => (i : Int)) ++ (k : Int) :: (List.range m).map fun i : Nat => ((k + (i + 1) : Nat) : Int) := by
    unfold stillM
    rw [List.range_add, List.range_succ_eq_map, List.map_append, List.map_cons, List.map_cons, List.map_map, List.map_map]
    rfl
  obtain ⟨e1, e2⟩ := split_at (A := (List.range k).map fun i : Nat => (i : Int)) (x := (k : Int)) (C := (List.range m).map fun i : Nat => ((k + (i + 1) : Nat) : Int)) (k := k) (by rw [List.length_map, List.length_range])
  unfold dropM
  rw [e, e1, e2, List.filter_append, List.filter_cons_of_neg (by simp)]
  congr 1
  · refine List.filter_eq_self.mpr fun p hp => ?_
    obtain ⟨i, hi, rfl⟩ := List.mem_map.mp hp
    have := List.mem_range.mp hi
    simp
    omega
  · refine List.filter_eq_self.mpr fun p hp => ?_
    obtain ⟨i, hi, rfl⟩ := List.mem_map.mp hp
    simp
    omega
theorem apply_one {α : Type} {xs : List α} {k : Nat} (h : k < xs.length) : applyM (dropM xs.length [(k : Int)]) xs [] = xs.take k ++ xs.drop (k + 1) := by
  rw [drop_one h, apply_append, apply_take _ _ _ _ (by omega), gaps_none (fun p hp => still_nonneg p (List.mem_of_mem_take hp)), List.drop_zero, apply_drop (by omega) rfl]
theorem LR.insN {H : Hp} {p t : Addr} {rs : List Row} {r : List Int} {j : Nat} (ra : RA H rs) (ht : H t = some (.tup (r.map V.int))) (hp : H p = some (.lst ((rs.map refR).take j ++ [.ref t] ++ (rs.map refR).drop j))) : LR H p ((rs.map Prod.snd).take j ++ [r] ++ (rs.map Prod.snd).drop j) := by
  refine ⟨rs.take j ++ [(t, r)] ++ rs.drop j, ?_, fun x hx => ?_, ?_⟩
  · rw [hp, List.map_append, List.map_append, List.map_take, List.map_drop]
    rfl
  · rcases List.mem_append.mp hx with z | z
    · rcases List.mem_append.mp z with z | z
      · exact ra x (List.mem_of_mem_take z)
      · rw [List.mem_singleton.mp z]
        exact ht
    · exact ra x (List.mem_of_mem_drop z)
  · rw [List.map_append, List.map_append, List.map_take, List.map_drop]
    rfl
theorem a_slLtoI {K : PySem.W.Frag} {TS : List (Addr × Str)} {H : Hp} {a : Addr} {xs : List V} {Q : VK} {i : Int} {k : Nat} (e : i = (k : Int)) (ha : H a = some (.lst xs)) (h : k ≤ xs.length) (q : ∀ p H', H p = none → Ev TS [] H H' → H' p = some (.lst (xs.take k)) → Q (.ref p) H') : rSlL K (.ref a) none (some i) H Q := by
  rw [e]
  exact a_slLto ha h q
theorem a_slLfrI {K : PySem.W.Frag} {TS : List (Addr × Str)} {H : Hp} {a : Addr} {xs : List V} {Q : VK} {i : Int} {k : Nat} (e : i = (k : Int)) (ha : H a = some (.lst xs)) (h : k ≤ xs.length) (q : ∀ p H', H p = none → Ev TS [] H H' → H' p = some (.lst (xs.drop k)) → Q (.ref p) H') : rSlL K (.ref a) (some i) none H Q := by
  rw [e]
  exact a_slLfrN ha h q
def spDeed (TS : List (Addr × Str)) (CK : Addr) : Sp := fun vs H Q _ => ∃ (b a qh pr : Addr) (n : Nat) (nms : List Str) (rows : List (List Int)), vs = [.ref b, .ref a, .ref pr] ∧ BagB H b n ∧ n + 1000 < 1000000 ∧ KQ CK H a qh nms rows ∧ LR H pr rows ∧ NmsOk nms ∧ 0 < nms.length ∧ nms.length ≤ 6 ∧ WF nms.length rows ∧ rows.length ≤ 100 ∧ b ≠ qh ∧ pr ≠ b ∧ pr ≠ qh ∧
  ∀ p qh' rows' H', Ev TS [b, a, qh] H H' → BagB H' b (n + 30) → KQ CK H' a qh' nms rows' → LR H' p rows' → WF nms.length rows' → rows'.length ≤ 100 → (qh' = qh ∨ NA H qh') → NA H p → p ≠ qh' → Q (.ref p) H'
section
variable {P : Program} {w : World} {K : PySem.W.Frag} {mg : Str → Option Value} {base : Heap} {KPT CK C CBR CNP CNN CM CDL : Addr} {TS : List (Addr × Str)}
theorem sc_deed : FnScope ["_law_bag_here", "_law_keeper", "_law_rows_here", "_law_word", "_law_width", "_law_row", "_law_j", "_law_k"] ["_law_bag_here", "_law_keeper", "_law_rows_here"] (defScope s_deed) := ⟨rfl, rfl, rfl, by decide +kernel, rfl, by decide +kernel, by decide +kernel⟩
theorem ok_deed {f : Addr} {fd : FuncData} (F : Fun K "_law_deed" "_law_deed" s_deed f fd) (T : TxtKe K mg KPT CK) (NSQ : PySem.W.noSeq K CK = true) (Dtake : Cl P w K mg base CX0 1 "_law_take" spTake) (Dnumber : Cl P w K mg base CX0 2 "_law_number" spNumber) (MKsetitem : Me P w K mg base (L2.CX P w) 4 CK "__setitem__" (spKSet K TS CK CNN CNP CBR CM))
    (Dgrow : Cl P w K mg base (L2.CX P w) 5 "_law_grow" (spKIadd TS CK CDL)) (MNadd : MeK P w K mg base (L2.CX P w) 5 CK "add" ["at"] (fun zs vs H Q E => ∃ z, zs = [z] ∧ spAdd K TS CK C CBR CNP z vs H Q E)) (MKdrop : Me P w K mg base (L2.CX P w) 5 CK "drop" (spDrop K TS CK C CNP)) (MKturn : Me P w K mg base CX0 5 CK "turn" (spTurn K TS CK C)) : FnR P w K mg base CX0 6 f (spDeed TS CK) := by
  refine fnr F sc_deed (fun vs H Q E h => ?_) (fun _ _ _ _ _ _ us hl => match us, hl with | [_, _, _], _ => rfl) (fun cdv A outer s H vs Q E hr h => ?_)
  · obtain ⟨b, a, qh, pr, n, nms, rows, rfl, _⟩ := h
    rfl
  · obtain ⟨b, a, qh, pr, n, nms, rows, rfl, hb, hn, kq, lr, okn, l0, l6, wf, h100, nbq, nrb, nrq, k⟩ := h
    obtain ⟨dx, qn, rs0, hx, hqn, _⟩ := id kq
    refine ⟨_, (pss_cons (ps_par (i := 3) (j := 4) (by rfl) sc_deed.nd rfl rfl (by decide) rfl rfl (pa_cons (pe_cl Dtake hr (by decide) (by rfl) pass0 (pa_cons (pv 0) (pa_cons pe_int pa_nil))) (pa_cons (pe_callB call_len_seq (by rfl) T.n_len (by decide +kernel) (pa_cons (pe_fld (pv 1) (by rfl)) pa_nil)) pa_nil)) (by rfl))
      (pss_cons (ps_set (i := 5) sc_deed.nd rfl (Or.inl rfl) (pe_callTy call_tuple_of (by rfl) T.n_tuple (by decide +kernel) (pa_cons (pe_lc (own := [("_law_j", 6)]) (by rfl) sc_deed.nd (pi_range1 (by rfl) T.n_range (pa_cons (pv 4) pa_nil)) (blkOk_by (own := [("_law_j", 6)]) (N := ["_law_bag_here", "_law_keeper", "_law_rows_here", "_law_word", "_law_width", "_law_row", "_law_j", "_law_k"]) (sc := defScope s_deed) (by first | decide +kernel | kernel_rfl)) (fun _ _ _ _ _ => (pg_name (i := 6) sc_deed.nd rfl (Or.inl rfl))) (fun _ _ _ _ _ => by exact pts_nil) (fun _ _ _ _ _ => by exact (pe_cl Dnumber hr (by decide) (by rfl) pass0 (pa_cons (pv 0) pa_nil)))) pa_nil)))
      (C8.pss_cut (ps_if (PW.pt (pw_and (pt_cmpR op_eq (pv 3) pe_int (nomark _)) (pw_and1 (pt_cmpR op_lt (pe_callB call_len_seq (by rfl) T.n_len (by decide +kernel) (pa_cons (pv 2) pa_nil)) pe_int (nomark _))))) (pss_cons (ps_expr (pe_moK (pv 1) T.ck MNadd hr (by decide) passF (pa_cons (pv 5) pa_nil) (pk_cons (pe_op op_fdiv (pe_callB call_len_seq (by rfl) T.n_len (by decide +kernel) (pa_cons (pv 2) pa_nil)) pe_int) pk_nil)))
        (pss_one (ps_ret (pe_op op_cat (pe_op op_cat (pe_slice sl_list (pv 2) po_none (po_some (pe_op op_fdiv (pe_callB call_len_seq (by rfl) T.n_len (by decide +kernel) (pa_cons (pv 2) pa_nil)) pe_int))) (pe_lst (pa_cons (pv 5) pa_nil))) (pe_slice sl_list (pv 2) (po_some (pe_op op_fdiv (pe_callB call_len_seq (by rfl) T.n_len (by decide +kernel) (pa_cons (pv 2) pa_nil)) pe_int)) po_none))))) pss_nil)
      (C8.pss_cut (ps_if (PW.pt (pw_and (pt_cmpR op_eq (pv 3) pe_int (nomark _)) (pw_and1 (pt_cmpR (op_neD hr.units) (pv 2) (pe_lst pa_nil) (nomark _))))) (pss_cons (ps_set (i := 7) sc_deed.nd rfl (Or.inl rfl) (pe_cl Dtake hr (by decide) (by rfl) pass0 (pa_cons (pv 0) (pa_cons (pe_callB call_len_seq (by rfl) T.n_len (by decide +kernel) (pa_cons (pv 2) pa_nil)) pa_nil))))
        (pss_cons (ps_expr (pe_mo (pv 1) T.ck MKdrop hr (by decide) passF (pa_cons (pv 7) pa_nil)))
        (pss_one (ps_ret (pe_op op_cat (pe_slice sl_list (pv 2) po_none (po_some (pv 7))) (pe_slice sl_list (pv 2) (po_some (pe_op op_add (pv 7) pe_int)) po_none)))))) pss_nil)
      (C8.pss_cut (ps_if (PW.pt (pw_and (pt_cmpR op_eq (pv 3) pe_int (nomark _)) (pw_and1 (pt_cmpR (op_neD hr.units) (pv 2) (pe_lst pa_nil) (nomark _))))) (pss_cons (ps_set (i := 7) sc_deed.nd rfl (Or.inl rfl) (pe_cl Dtake hr (by decide) (by rfl) pass0 (pa_cons (pv 0) (pa_cons (pe_callB call_len_seq (by rfl) T.n_len (by decide +kernel) (pa_cons (pv 2) pa_nil)) pa_nil))))
        (pss_cons (ps_asg (pv 5) (pg_sub (pv 1) (pv 7) (set_own MKsetitem NSQ hr (by decide) passF)))
        (pss_one (ps_ret (pe_op op_cat (pe_op op_cat (pe_slice sl_list (pv 2) po_none (po_some (pv 7))) (pe_lst (pa_cons (pv 5) pa_nil))) (pe_slice sl_list (pv 2) (po_some (pe_op op_add (pv 7) pe_int)) po_none)))))) pss_nil)
      (C8.pss_cut (ps_if (PW.pt (pw_and (pt_cmpR op_eq (pv 3) pe_int (nomark _)) (pw_and1 (pt_cmpR op_lt (pe_callB call_len_seq (by rfl) T.n_len (by decide +kernel) (pa_cons (pv 2) pa_nil)) pe_int (nomark _))))) (pss_cons (ps_expr (pe_cl Dgrow hr (by decide) (by rfl) passF (pa_cons (pv 1) (pa_cons (pv 1) pa_nil))))
        (pss_one (ps_ret (pe_op op_cat (pv 2) (pv 2))))) pss_nil)
      (pss_cons (ps_expr (pe_mo0 (pv 1) T.ck MKturn hr (by decide) pass0))
      (pss_one (ps_ret (pe_revL (pv 2))))))))))), ?_⟩
    walk_at "rd"
    refine take_ok (TS := TS) hb (by omega) (by decide) (by decide) fun wo H1 wo0 wo1 e1 b1 => ?_
    walk_at "rd"
    refine ⟨a, CK, dx, _, _, rfl, (by walk_at "t"), T.ck, T.nn, kfs_names qn qh, ?_⟩
    walk_at "rd"
    refine ⟨qn, nms.map V.str, rfl, .inr (FzT.sq (H := H1) (by walk_at "t")), ?_⟩
    rw [List.length_map]
    walk_at "rd"
    refine ⟨by omega, by omega, fun D hD => ?_⟩
    refine lc_ev (TS := TS) walk_range hD (fun i acc H' => Ev TS [b] H1 H' ∧ BagB H' b (n + 1 + 3 * i) ∧ ∃ xs : List Int, acc = xs.map V.int ∧ xs.length = i ∧ ∀ y ∈ xs, NumOk y) (fun H3 e3 h3 => ⟨(by walk_at "e"), (by walk_at "t"), [], rfl, rfl, fun _ z => nomatch z⟩) (fun _ _ _ _ _ _ => trivial) ?_ ?_
    · rintro i x acc H3 H4 hi ⟨eI, bI, xs, rfl, hl, hok⟩ hD3 y3
      rw [Int.toNat_natCast] at hi
      obtain ⟨rfl, rfl⟩ := rng_yld y3
      walk_at "rd"
      refine number_ok (TS := TS) bI (by omega) fun y H5 hy e5 b5 => ?_
      refine lc_put (TS := TS) (acc := xs.map V.int) (by walk_at "t") (by rw [List.length_map]; exact lt_line (by omega)) fun H6 e6 h6 => ⟨(by walk_at "e"), (by walk_at "t"), xs ++ [y], by simp, by simp [hl], fun z hz => ?_⟩
      rcases List.mem_append.mp hz with q | q
      · exact hok z q
      · rw [List.mem_singleton.mp q]; exact hy
    rintro acc H2 ⟨e2, b2, r, rfl, hrl, hro⟩ hD2
    rw [Int.toNat_natCast] at hrl b2
    walk_at "rd"
    refine ⟨D, r.map V.int, rfl, .inl ⟨SqL.of hD2, fun t ht => ?_⟩⟩
    generalize hXX : upd _ t _ = H3
    obtain ⟨e3, h3⟩ := new_facts (TS := TS) hXX ht
    clear hXX
    walk_at "rs"
    walk_at "rd"
    have kq3 : KQ CK H3 a qh nms rows := (by walk_at "t")
    have b3 : BagB H3 b (n + 20) := (show BagB H3 b (n + 1 + 3 * nms.length) from (by walk_at "t")).mono (by omega)
    have lr3 : LR H3 pr rows := (by walk_at "t")
    have hx3 : H3 a = some (.ins CK dx (kfs qn qh)) := (by walk_at "t")
    have E3 : Ev TS [b] H H3 := (by walk_at "e")
    have nat3 : NA H t := (by walk_at "na")
    clear b1 b2 hD2 e3 e2 e1 kq lr hx hqn hb
    have lrt : (r.map V.int).length = nms.length := by rw [List.length_map, hrl]
    refine ⟨fun σ' H' => σ' = [some (.ref b), some (.ref a), some (.ref pr), some (.int wo), some (.int (nms.length : Int)), some (.ref t), none, none] ∧ Ev TS [] H3 H', ?_, ?_⟩
    · walk_at "rd"
      refine ite2 (fun c1 => ?_) (fun c1 => ?_)
      · walk_at "rd"
        obtain ⟨vsX, hvX, hlX⟩ := LR.sq (show LR H3 pr rows from by walk_at "t")
        refine ⟨pr, vsX, rfl, .inl (SqL.of hvX), ?_⟩
        rw [hlX]
        clear hvX hlX
        walk_at "rd"
        refine ite2 (fun c2 => ?_) (fun c2 => ?_)
        · have h99 : rows.length < 100 := by have := of_decide_eq_true c2; omega
          walk_at "rd"
          refine ⟨a, dx, _, rfl, hx3, kfs_no qn qh (by decide +kernel) (by decide +kernel), ?_⟩
          walk_at "rd"
          obtain ⟨vsX, hvX, hlX⟩ := LR.sq (show LR H3 pr rows from by walk_at "t")
          refine ⟨pr, vsX, rfl, .inl (SqL.of hvX), ?_⟩
          rw [hlX]
          clear hvX hlX
          walk_at "rd"
          refine ⟨⟨by decide, by decide⟩, ?_⟩
          walk_at "rd"
          have eh : (rows.length : Int) / 2 = ((rows.length / 2 : Nat) : Int) := by omega
          have good : ∀ x ∈ [V.ref t], GoodR H3 nms.length x := fun x hx => by
            rw [List.mem_singleton.mp hx]
            exact ⟨t, r, rfl, h3, hrl, hro⟩
          refine ⟨a, qh, nms, rows, [.ref t], rfl, kq3, l6, by omega, fun x hx => .inl (good x hx), by show 1 ≤ 1000; decide, .inr ⟨good, .inr ⟨rows.length / 2, .inr (congrArg V.int eh), by omega, fun new tp m qh' H4 hrt htp wfn hnl nm nq e4 kq4 mv4 => ?_⟩⟩⟩
          have en : new = [r] := by
            obtain ⟨rn, g1, g2, g3⟩ := hrt
            rw [htp] at g1
            have g4 : [V.ref t] = rn.map refR := by injection g1 with g1; injection g1
            rw [← g3]
            exact (rt_uniq (rs := [(t, r)]) (rs' := rn) (fun y hy => by rw [List.mem_singleton.mp hy]; exact (show H4 t = some (.tup (r.map V.int)) from (by walk_at "t"))) g2 g4).symm
          subst en
          walk_at "rd"
          obtain ⟨vsX, hvX, hlX⟩ := LR.sq (show LR H4 pr rows from by walk_at "t")
          refine ⟨pr, vsX, rfl, .inl (SqL.of hvX), ?_⟩
          rw [hlX]
          clear hvX hlX
          walk_at "rd"
          refine ⟨⟨by decide, by decide⟩, ?_⟩
          walk_at "rd"
          obtain ⟨rs, hpr4, ra4, ers⟩ := (show LR H4 pr rows from (by walk_at "t"))
          have lrs : rs.length = rows.length := by rw [← ers, List.length_map]
          refine a_slLtoI (TS := TS) eh hpr4 (by rw [List.length_map]; omega) fun p1 H5 hp1 e5 h5 => ?_
          walk_at "rd"
          refine ⟨by show 1 ≤ sizeLine; decide, fun p2 hp2 => ?_⟩
          generalize hXX : upd _ p2 _ = H6
          obtain ⟨e6, h6⟩ := new_facts (TS := TS) hXX hp2
          clear hXX
          walk_at "rs"
          refine a_cat (TS := TS) (xs := (rs.map refR).take (rows.length / 2)) (by walk_at "t") h6 (by rw [List.length_take, List.length_map]; exact le_line (show min (rows.length / 2) rs.length + 1 ≤ 100000 by omega)) fun p3 H7 hp3 e7 h7 => ?_
          walk_at "rd"
          obtain ⟨vsX, hvX, hlX⟩ := LR.sq (show LR H7 pr rows from by walk_at "t")
          refine ⟨pr, vsX, rfl, .inl (SqL.of hvX), ?_⟩
          rw [hlX]
          clear hvX hlX
          walk_at "rd"
          refine ⟨⟨by decide, by decide⟩, ?_⟩
          walk_at "rd"
          dsimp only [tNoPart]
          refine a_slLfrI (TS := TS) (xs := rs.map refR) eh (by walk_at "t") (by rw [List.length_map]; omega) fun p4 H8 hp4 e8 h8 => ?_
          refine a_cat (TS := TS) (by walk_at "t") h8 (by rw [List.length_append, List.length_take, List.length_drop, List.length_map]; exact le_line (show min (rows.length / 2) rs.length + 1 + (rs.length - rows.length / 2) ≤ 100000 by omega)) fun p5 H9 hp5 e9 h9 => ?_
          have lr9 : LR H9 p5 (rows.take (rows.length / 2) ++ [r] ++ rows.drop (rows.length / 2)) := by
            rw [← ers]
            exact LR.insN (t := t) (by walk_at "t") (by walk_at "t") (by rw [ers]; exact h9)
          have wf9 : WF nms.length (rows.take (rows.length / 2) ++ [r] ++ rows.drop (rows.length / 2)) := fun y hy => by
            rcases List.mem_append.mp hy with z | z
            · rcases List.mem_append.mp z with z | z
              · exact wf y (List.mem_of_mem_take z)
              · exact wfn y z
            · exact wf y (List.mem_of_mem_drop z)
          have kq9 : KQ CK H9 a qh' nms (rows.take (rows.length / 2) ++ [r] ++ rows.drop (rows.length / 2)) := (by walk_at "t")
          exact k p5 qh' _ H9 (((show Ev TS [b, a] H H9 from (by walk_at "e"))).mono fun y hy => by
            simp only [List.mem_cons, List.not_mem_nil, or_false] at hy ⊢
            rcases hy with z | z <;> simp [z]) ((show BagB H9 b (n + 20) from (by walk_at "t")).mono (by omega)) kq9 lr9 wf9 (by simp; omega) (.inr (by walk_at "na")) (by walk_at "na") (show NeH H7 p5 qh' from (by walk_at "ne"))
        · walk_at "rd"
          exact (by walk_at "e")
      · walk_at "rd"
        exact (by walk_at "e")
    rintro σ' G ⟨rfl, eG⟩
    replace kq3 : KQ CK G a qh nms rows := ev_kq eG kq3 trivial trivial
    replace b3 : BagB G b (n + 20) := ev_bag eG b3 trivial
    replace lr3 : LR G pr rows := ev_lr eG lr3 trivial
    replace hx3 : G a = some (.ins CK dx (kfs qn qh)) := ev_ins eG hx3 trivial
    replace E3 : Ev TS [b] H G := E3.trans eG trivial
    replace h3 : G t = some (.tup (r.map V.int)) := ev_tup eG h3
    clear eG
    refine ⟨fun σ' H' => σ' = [some (.ref b), some (.ref a), some (.ref pr), some (.int wo), some (.int (nms.length : Int)), some (.ref t), none, none] ∧ Ev TS [] G H', ?_, ?_⟩
    · walk_at "rd"
      refine ite2 (fun c1 => ?_) (fun c1 => ?_)
      · walk_at "rd"
        refine ⟨by show 0 ≤ sizeLine; decide, fun p0 hp0 => ?_⟩
        generalize hXX : upd _ p0 _ = H4
        obtain ⟨e4, h4⟩ := new_facts (TS := TS) hXX hp0
        clear hXX
        walk_at "rs"
        walk_at "rd"
        refine a_neR (r1 := rows) (r2 := []) (by walk_at "t") (LR.nil0 h4) ?_
        walk_at "rd"
        by_cases c2 : rows = []
        · rw [decide_eq_true c2]
          walk_at "rd"
          exact (by walk_at "e")
        · rw [decide_eq_false c2]
          walk_at "rd"
          have hpos : 0 < rows.length := List.length_pos_iff.mpr c2
          obtain ⟨vsX, hvX, hlX⟩ := LR.sq (show LR H4 pr rows from by walk_at "t")
          refine ⟨pr, vsX, rfl, .inl (SqL.of hvX), ?_⟩
          rw [hlX]
          clear hvX hlX
          walk_at "rd"
          refine take_ok (TS := TS) (n := n + 20) (many := (rows.length : Int)) (by walk_at "t") (by omega) (by omega) (by omega) fun kk H5 g0 g1 e5 b5 => ?_
          obtain ⟨kk, rfl⟩ := Int.eq_ofNat_of_zero_le g0
          walk_at "rd"
          refine ⟨a, dx, _, rfl, (by walk_at "t"), kfs_no qn qh (by decide +kernel) (by decide +kernel), ?_⟩
          walk_at "rd"
          refine ⟨a, qh, nms, rows, [(kk : Int)], rfl, (by walk_at "t"), by omega, by show 1 ≤ 1000; decide, .inr ⟨fun i hw => ?_, fun m qh' H6 nm nq e6 kq6 mv6 => ?_⟩⟩
          · obtain ⟨d, hd, hw⟩ := hw
            cases i with
            | zero =>
              cases (show some (kk : Int) = some d from hd)
              rcases hw with hw | hw
              · exact nomatch hw
              · exact hw ⟨by omega, by omega⟩
            | succ i => cases hd
          rw [apply_one (by omega)] at kq6
          walk_at "rd"
          obtain ⟨rs, hpr6, ra6, ers⟩ := (show LR H6 pr rows from (by walk_at "t"))
          have lrs : rs.length = rows.length := by rw [← ers, List.length_map]
          refine a_slLto (TS := TS) hpr6 (by rw [List.length_map]; omega) fun p1 H7 hp1 e7 h7 => ?_
          walk_at "rd"
          dsimp only [tNoPart]
          refine a_slLfrom (TS := TS) (xs := rs.map refR) (by walk_at "t") (by rw [List.length_map]; omega) fun p2 H8 hp2 e8 h8 => ?_
          refine a_cat (TS := TS) (xs := (rs.map refR).take kk) (by walk_at "t") h8 (by rw [List.length_take, List.length_drop, List.length_map]; exact le_line (show min kk rs.length + (rs.length - (kk + 1)) ≤ 100000 by omega)) fun p3 H9 hp3 e9 h9 => ?_
          have ra9 : RA H9 rs := (by walk_at "t")
          have lr9 : LR H9 p3 (rows.take kk ++ rows.drop (kk + 1)) := ⟨rs.take kk ++ rs.drop (kk + 1), by rw [h9, List.map_append, List.map_take, List.map_drop], fun y hy => ra9 y ((List.mem_append.mp hy).elim List.mem_of_mem_take List.mem_of_mem_drop), by rw [List.map_append, List.map_take, List.map_drop, ers]⟩
          have kq9 : KQ CK H9 a qh' nms (rows.take kk ++ rows.drop (kk + 1)) := (by walk_at "t")
          exact k p3 qh' _ H9 (((show Ev TS [b, a] H H9 from (by walk_at "e"))).mono fun y hy => by
            simp only [List.mem_cons, List.not_mem_nil, or_false] at hy ⊢
            rcases hy with z | z <;> simp [z]) ((show BagB H9 b (n + 20 + 1) from (by walk_at "t")).mono (by omega)) kq9 lr9 (fun y hy => wf y ((List.mem_append.mp hy).elim List.mem_of_mem_take List.mem_of_mem_drop)) (by simp; omega) (.inr (by walk_at "na")) (by walk_at "na") (show NeH H8 p3 qh' from (by walk_at "ne"))
      · walk_at "rd"
        exact (by walk_at "e")
    rintro σ' G2 ⟨rfl, eG⟩
    replace kq3 : KQ CK G2 a qh nms rows := ev_kq eG kq3 trivial trivial
    replace b3 : BagB G2 b (n + 20) := ev_bag eG b3 trivial
    replace lr3 : LR G2 pr rows := ev_lr eG lr3 trivial
    replace hx3 : G2 a = some (.ins CK dx (kfs qn qh)) := ev_ins eG hx3 trivial
    replace E3 : Ev TS [b] H G2 := E3.trans eG trivial
    replace h3 : G2 t = some (.tup (r.map V.int)) := ev_tup eG h3
    clear eG
    refine ⟨fun σ' H' => σ' = [some (.ref b), some (.ref a), some (.ref pr), some (.int wo), some (.int (nms.length : Int)), some (.ref t), none, none] ∧ Ev TS [] G2 H', ?_, ?_⟩
    · walk_at "rd"
      refine ite2 (fun c1 => ?_) (fun c1 => ?_)
      · walk_at "rd"
        refine ⟨by show 0 ≤ sizeLine; decide, fun p0 hp0 => ?_⟩
        generalize hXX : upd _ p0 _ = H4
        obtain ⟨e4, h4⟩ := new_facts (TS := TS) hXX hp0
        clear hXX
        walk_at "rs"
        walk_at "rd"
        refine a_neR (r1 := rows) (r2 := []) (by walk_at "t") (LR.nil0 h4) ?_
        walk_at "rd"
        by_cases c2 : rows = []
        · rw [decide_eq_true c2]
          walk_at "rd"
          exact (by walk_at "e")
        · rw [decide_eq_false c2]
          walk_at "rd"
          have hpos : 0 < rows.length := List.length_pos_iff.mpr c2
          obtain ⟨vsX, hvX, hlX⟩ := LR.sq (show LR H4 pr rows from by walk_at "t")
          refine ⟨pr, vsX, rfl, .inl (SqL.of hvX), ?_⟩
          rw [hlX]
          clear hvX hlX
          walk_at "rd"
          refine take_ok (TS := TS) (n := n + 20) (many := (rows.length : Int)) (by walk_at "t") (by omega) (by omega) (by omega) fun kk H5 g0 g1 e5 b5 => ?_
          obtain ⟨kk, rfl⟩ := Int.eq_ofNat_of_zero_le g0
          walk_at "rd"
          have hx5 : H5 a = some (.ins CK dx (kfs qn qh)) := (by walk_at "t")
          refine ⟨a, dx, _, rfl, hx5, a, qh, nms, rows, _, _, rfl, (by walk_at "t"), okn.2, l6, wf, by omega, .inr (.inl ⟨_, rfl, .inr ⟨kk, rfl, by omega, .inr ⟨t, r, rfl, (by walk_at "t"), hrl, hro, fun H7 e7 kq7 => ?_⟩⟩⟩)⟩
          walk_at "rd"
          obtain ⟨rs, hpr7, ra7, ers⟩ := (show LR H7 pr rows from (by walk_at "t"))
          have lrs : rs.length = rows.length := by rw [← ers, List.length_map]
          refine a_slLto (TS := TS) hpr7 (by rw [List.length_map]; omega) fun p1 H8 hp1 e8 h8 => ?_
          walk_at "rd"
          refine ⟨by show 1 ≤ sizeLine; decide, fun p2 hp2 => ?_⟩
          generalize hXX : upd _ p2 _ = H9
          obtain ⟨e9, h9⟩ := new_facts (TS := TS) hXX hp2
          clear hXX
          walk_at "rs"
          refine a_cat (TS := TS) (xs := (rs.map refR).take kk) (by walk_at "t") h9 (by rw [List.length_take, List.length_map]; exact le_line (show min kk rs.length + 1 ≤ 100000 by omega)) fun p3 H10 hp3 e10 h10 => ?_
          walk_at "rd"
          dsimp only [tNoPart]
          refine a_slLfrom (TS := TS) (xs := rs.map refR) (by walk_at "t") (by rw [List.length_map]; omega) fun p4 H11 hp4 e11 h11 => ?_
          refine a_cat (TS := TS) (by walk_at "t") h11 (by rw [List.length_append, List.length_take, List.length_drop, List.length_map]; exact le_line (show min kk rs.length + 1 + (rs.length - (kk + 1)) ≤ 100000 by omega)) fun p5 H12 hp5 e12 h12 => ?_
          have lr12 : LR H12 p5 (rows.set kk r) := by
            rw [← ers]
            exact LR.put (t := t) (by walk_at "t") (by walk_at "t") h12 (by omega)
          exact k p5 qh _ H12 (by walk_at "e") ((show BagB H12 b (n + 20 + 1) from (by walk_at "t")).mono (by omega)) (by walk_at "t") lr12 (wf.set ⟨hrl, hro⟩) (by rw [List.length_set]; exact h100) (.inl rfl) (by walk_at "na") (show NeH H12 p5 qh from (by walk_at "ne"))
      · walk_at "rd"
        exact (by walk_at "e")
    rintro σ' G3 ⟨rfl, eG⟩
    replace kq3 : KQ CK G3 a qh nms rows := ev_kq eG kq3 trivial trivial
    replace b3 : BagB G3 b (n + 20) := ev_bag eG b3 trivial
    replace lr3 : LR G3 pr rows := ev_lr eG lr3 trivial
    replace hx3 : G3 a = some (.ins CK dx (kfs qn qh)) := ev_ins eG hx3 trivial
    replace E3 : Ev TS [b] H G3 := E3.trans eG trivial
    replace h3 : G3 t = some (.tup (r.map V.int)) := ev_tup eG h3
    clear eG
    refine ⟨fun σ' H' => σ' = [some (.ref b), some (.ref a), some (.ref pr), some (.int wo), some (.int (nms.length : Int)), some (.ref t), none, none] ∧ Ev TS [] G3 H', ?_, ?_⟩
    · walk_at "rd"
      refine ite2 (fun c1 => ?_) (fun c1 => ?_)
      · walk_at "rd"
        obtain ⟨vsX, hvX, hlX⟩ := LR.sq (show LR G3 pr rows from by walk_at "t")
        refine ⟨pr, vsX, rfl, .inl (SqL.of hvX), ?_⟩
        rw [hlX]
        clear hvX hlX
        walk_at "rd"
        refine ite2 (fun c2 => ?_) (fun c2 => ?_)
        · have l50 : rows.length < 50 := by have := of_decide_eq_true c2; omega
          walk_at "rd"
          refine ⟨a, qh, a, qh, nms, nms, rows, rows, rfl, ⟨kq3, kq3, strs_ok okn, strs_ok okn⟩, by omega, fun _ qh' H4 nq e4 kq4 => ?_, fun h => absurd rfl h⟩
          walk_at "rd"
          obtain ⟨rs, hpr4, ra4, ers⟩ := (show LR H4 pr rows from (by walk_at "t"))
          have lrs : rs.length = rows.length := by rw [← ers, List.length_map]
          refine a_cat (TS := TS) (xs := rs.map refR) (ys := rs.map refR) hpr4 hpr4 (by rw [List.length_map]; exact le_line (by omega)) fun p1 H5 hp1 e5 h5 => ?_
          have ra5 : RA H5 rs := (by walk_at "t")
          have lr5 : LR H5 p1 (rows ++ rows) := ⟨rs ++ rs, by rw [h5, List.map_append], fun y hy => ra5 y ((List.mem_append.mp hy).elim id id), by rw [List.map_append, ers]⟩
          have kq5 : KQ CK H5 a qh' nms (rows ++ rows) := (by walk_at "t")
          exact k p1 qh' _ H5 (((show Ev TS [b, a] H H5 from (by walk_at "e"))).mono fun y hy => by
            simp only [List.mem_cons, List.not_mem_nil, or_false] at hy ⊢
            rcases hy with z | z <;> simp [z]) ((show BagB H5 b (n + 20) from (by walk_at "t")).mono (by omega)) kq5 lr5 (fun y hy => wf y ((List.mem_append.mp hy).elim id id)) (by simp; omega) (.inr (by walk_at "na")) (by walk_at "na") (show NeH H4 p1 qh' from (by walk_at "ne"))
        · walk_at "rd"
          exact (by walk_at "e")
      · walk_at "rd"
        exact (by walk_at "e")
    rintro σ' G4 ⟨rfl, eG⟩
    replace kq3 : KQ CK G4 a qh nms rows := ev_kq eG kq3 trivial trivial
    replace b3 : BagB G4 b (n + 20) := ev_bag eG b3 trivial
    replace lr3 : LR G4 pr rows := ev_lr eG lr3 trivial
    replace hx3 : G4 a = some (.ins CK dx (kfs qn qh)) := ev_ins eG hx3 trivial
    replace E3 : Ev TS [b] H G4 := E3.trans eG trivial
    replace h3 : G4 t = some (.tup (r.map V.int)) := ev_tup eG h3
    clear eG
    walk_at "rd"
    refine ⟨a, dx, _, rfl, hx3, kfs_no qn qh (by decide +kernel) (by decide +kernel), ?_⟩
    walk_at "rd"
    refine ⟨a, qh, nms, rows, rfl, kq3, by omega, fun m qh' H4 nm nq e4 kq4 => ?_⟩
    intro _
    walk_at "rd"
    obtain ⟨rs, hpr4, ra4, ers⟩ := (show LR H4 pr rows from (by walk_at "t"))
    refine ⟨pr, _, rfl, SqL.of hpr4, fun p1 hp1 => ?_⟩
    generalize hXX : upd _ p1 _ = H5
    obtain ⟨e5, h5⟩ := new_facts (TS := TS) hXX hp1
    clear hXX
    walk_at "rs"
    have ra5 : RA H5 rs := (by walk_at "t")
    have lr5 : LR H5 p1 rows.reverse := ⟨rs.reverse, by rw [h5, List.map_reverse], fun y hy => ra5 y (List.mem_reverse.mp hy), by rw [List.map_reverse, ers]⟩
    have kq5 : KQ CK H5 a qh' nms rows.reverse := (by walk_at "t")
    exact k p1 qh' _ H5 (((show Ev TS [b, a] H H5 from (by walk_at "e"))).mono fun y hy => by
      simp only [List.mem_cons, List.not_mem_nil, or_false] at hy ⊢
      rcases hy with z | z <;> simp [z]) ((show BagB H5 b (n + 20) from (by walk_at "t")).mono (by omega)) kq5 lr5 (fun y hy => wf y (List.mem_reverse.mp hy)) (by rw [List.length_reverse]; exact h100) (.inr (by walk_at "na")) (by walk_at "na") (show NeH H4 p1 qh' from (by walk_at "ne"))
end
end MV

namespace MV
open PySem PySem.Spec PyProof.Rows L2 SB MM LamX StX
local macro_rules | `(tactic| walk_at "rd") => `(tactic| repeat (first | (refine ⟨_, rfl, ?_⟩) | (refine ⟨_, _, rfl, rfl, ?_⟩) | (refine ⟨_, _, rfl, ?_⟩) | (refine ⟨rfl, ?_⟩) | (with_reducible refine st_nil ?_) | (with_reducible refine st_cons ?_) | (with_reducible refine st_C ?_)))
local macro_rules | `(tactic| walk_at "isL") => `(tactic| first | assumption | (apply isL.of; assumption) | (apply isL.bag; assumption) | (apply isL.lr; assumption) | (apply KQ.isL; assumption) | (apply isL.ev; assumption; walk_at "isL"))
local macro_rules | `(tactic| walk_at "isI") => `(tactic| first | assumption | (apply isI.of; assumption) | (apply KQ.isI; assumption) | (apply MoveAt.isI; assumption) | (apply isI.ev; assumption; walk_at "isI"))
local macro_rules | `(tactic| walk_at "al") => `(tactic| first | assumption | (apply isL.al; walk_at "isL") | (apply isI.al; walk_at "isI") | (apply Al.dK; assumption) | (apply Al.dT; assumption) | (apply Al.ev; assumption; walk_at "al"))
local macro_rules | `(tactic| walk_at "ne") => `(tactic| first | (apply NeH.of; assumption) | (apply NeH.ofs; assumption) | (apply neLI; walk_at "isL"; walk_at "isI") | (apply neIL; walk_at "isI"; walk_at "isL") | (apply Al.ne; assumption; walk_at "al") | (apply Al.ens; assumption; walk_at "al") | (apply NA.ne; assumption; walk_at "al") | (apply NA.ens; assumption; walk_at "al"))
local macro_rules | `(tactic| walk_at "nin") => `(tactic| first | exact trivial | (refine And.intro ?_ ?_; walk_at "ne"; walk_at "nin"))
local macro_rules | `(tactic| walk_at "t") => `(tactic| first | assumption | (apply ev_tup; assumption; walk_at "t") | (apply ev_lst; assumption; walk_at "t"; walk_at "nin") | (apply ev_ins; assumption; walk_at "t"; walk_at "nin") | (apply ev_dK; assumption; walk_at "t"; walk_at "nin") | (apply ev_dT; assumption; walk_at "t"; walk_at "nin") | (apply ev_ra; assumption; walk_at "t") | (apply ev_bag; assumption; walk_at "t"; walk_at "nin") | (apply ev_lr; assumption; walk_at "t"; walk_at "nin") | (apply ev_kq; assumption; walk_at "t"; walk_at "nin"; walk_at "nin") | (apply ev_tabs; assumption; walk_at "t") | (apply ev_fzT; assumption; walk_at "t") | (apply ev_od; assumption; walk_at "t") | (apply ev_odR; assumption; walk_at "t") | (apply ev_cels; assumption; walk_at "t") | (apply ev_move; assumption; walk_at "t"; walk_at "nin") | (apply ev_rt; assumption; walk_at "t") | (apply ev_goodR; assumption; walk_at "t") | (apply ev_rowvs; assumption; walk_at "t") | (apply ev_dm; assumption; walk_at "t")  | (apply SqL.of; walk_at "t") | (apply SqT.of; walk_at "t") | (apply ev_sqT; assumption; walk_at "t") | (apply ev_sqL; assumption; walk_at "t"; walk_at "nin"))
local macro_rules | `(tactic| walk_at "le") => `(tactic| first | exact Le.refl _ | (apply Le.ev; assumption; walk_at "le"))
local macro_rules | `(tactic| walk_at "om") => `(tactic| first | exact Or.inl (List.mem_cons_self) | exact Or.inl (List.mem_cons_of_mem _ List.mem_cons_self) | exact Or.inl (List.mem_cons_of_mem _ (List.mem_cons_of_mem _ List.mem_cons_self)) | (apply Or.inr; apply nal0; assumption) | (apply Or.inr; apply Le.nal; assumption; walk_at "le") | (apply Or.inr; apply Le.na; assumption; walk_at "le"))
local macro_rules | `(tactic| walk_at "out") => `(tactic| first | exact trivial | (refine And.intro ?_ ?_; walk_at "om"; walk_at "out"))
local macro_rules | `(tactic| walk_at "e") => `(tactic| first | assumption | exact Ev.refl _ _ | (apply Ev.trans'; assumption; walk_at "e"; walk_at "out"))
local macro_rules | `(tactic| walk_at "c") => `(tactic| dsimp only [tNil, tCons, tC])
local macro_rules | `(tactic| walk_at "na") => `(tactic| first | assumption | (apply NA.of; assumption) | (apply Le.nal; assumption; walk_at "le") | (apply Le.na; assumption; walk_at "le"))
local macro_rules | `(tactic| walk_at "rs") => `(tactic| repeat (first | (with_reducible refine st_nil ?_) | (with_reducible refine st_cons ?_) | (with_reducible refine st_C ?_)))
local macro_rules | `(tactic| walk_at "rv") => `(tactic| repeat (first | (refine ⟨_, rfl, ?_⟩) | (with_reducible refine st_nil ?_) | (with_reducible refine st_cons ?_) | (with_reducible refine st_C ?_)))
local macro_rules | `(tactic| walk_at "if") => `(tactic| first | refine ifT rfl ?_ | refine ifF rfl ?_ | skip)
abbrev s_rdeed : Stmt := top 39
abbrev s_caught : Stmt := top 40
/-- a deed that is refused: one of four errors, the keeper as it was -/
def spRDeed (TS : List (Addr × Str)) (CK CBR CNP CNN CM : Addr) : Sp := fun vs H _ E => ∃ (b a qh : Addr) (n : Nat) (nms : List Str) (rows : List (List Int)), vs = [.ref b, .ref a] ∧ BagB H b n ∧ n + 1000 < 1000000 ∧ KQ CK H a qh nms rows ∧ nms.Nodup ∧ 1 < nms.length ∧ nms.length ≤ 6 ∧ WF nms.length rows ∧ rows.length ≤ 200 ∧ ("none" : Str) ∉ nms ∧ Tabs TS H ∧ b ≠ qh ∧
  ∀ (CE : Addr) (d : Option Addr) H', CE ∈ [CBR, CNP, CNN, CM] → Ev TS [b] H H' → BagB H' b (n + 1) → E (.ref CE) d H'
section
variable {P : Program} {w : World} {K : PySem.W.Frag} {mg : Str → Option Value} {base : Heap} {KPT CK C CBR CNP CNN CM CDL CSE : Addr} {TS : List (Addr × Str)}
theorem sc_rdeed : FnScope ["_law_bag_here", "_law_keeper", "_law_word"] ["_law_bag_here", "_law_keeper"] (defScope s_rdeed) := ⟨rfl, rfl, rfl, by decide +kernel, rfl, by decide +kernel, by decide +kernel⟩
theorem ok_rdeed {f : Addr} {fd : FuncData} (F : Fun K "_law_refused_deed" "_law_refused_deed" s_rdeed f fd) (T : TxtKe K mg KPT CK) (Dtake : Cl P w K mg base CX0 1 "_law_take" spTake) (MKadd : Me P w K mg base (L2.CX P w) 5 CK "add" (spAdd K TS CK C CBR CNP .non)) (MKdrop : Me P w K mg base (L2.CX P w) 5 CK "drop" (spDrop K TS CK C CNP)) (MKlen : Me P w K mg base CX0 1 CK "__len__" (spKLen K CK))
    (MKorder : Me P w K mg base (L2.CX P w) 6 CK "order" (fun vs H Q E => spOrder K TS CK C CNN (vs ++ [.bl false]) H Q E)) (MKapply : Me P w K mg base (L2.CX P w) 5 CK "apply" (spApply K TS CK C CM CBR)) (SMstill : Sm P w K mg base CX0 3 "Move" "still" (spStill K C)) : FnR P w K mg base (L2.CX P w) 7 f (spRDeed TS CK CBR CNP CNN CM) := by
  refine fnrX F sc_rdeed (fun vs H Q E h => ?_) (fun _ _ _ _ _ _ us hl => match us, hl with | [_, _], _ => rfl) (fun cdv A outer s H vs Q E hr h => ?_)
  · obtain ⟨b, a, qh, n, nms, rows, rfl, _⟩ := h
    rfl
  · obtain ⟨b, a, qh, n, nms, rows, rfl, hb, hn, kq, hnd, l1, l6, wf, h200, hno, hT, nbq, k⟩ := h
    obtain ⟨dx, qn, rs0, hx, hqn, _⟩ := id kq
    refine ⟨_, (pss_cons (ps_set (i := 2) sc_rdeed.nd rfl (Or.inl rfl) (pe_cl Dtake hr (by decide) (by rfl) pass0 (pa_cons (pv 0) (pa_cons pe_int pa_nil))))
      (pss_one (ps_if (pt_cmpR op_eq (pv 2) pe_int (nomark _)) (pss_one (ps_expr (pe_mo (pv 1) T.ck MKadd hr (by decide) (passL rfl rfl rfl rfl) (pa_cons (pe_tup (pa_cons pe_int pa_nil)) (pa_cons (pe_tup pa_nil) pa_nil))))) (pss_one (ps_if (pt_cmpR op_eq (pv 2) pe_int (nomark _)) (pss_one (ps_expr (pe_mo (pv 1) T.ck MKdrop hr (by decide) (passL rfl rfl rfl rfl) (pa_cons (pe_callB (call_ownLen MKlen hr (by decide) pass0) (by rfl) T.n_len (by decide +kernel) (pa_cons (pv 1) pa_nil)) pa_nil)))) (pss_one (ps_if (pt_cmpR op_eq (pv 2) pe_int (nomark _)) (pss_one (ps_expr (pe_mo (pv 1) T.ck MKorder hr (by decide) (passL rfl rfl rfl rfl) (pa_cons pe_str pa_nil)))) (pss_one (ps_expr (pe_mo (pv 1) T.ck MKapply hr (by decide) (passL rfl rfl rfl rfl) (pa_cons (pe_sm SMstill hr (by decide) (by rfl) pass0 (pa_cons (pe_op op_add (pe_callB (call_ownLen MKlen hr (by decide) pass0) (by rfl) T.n_len (by decide +kernel) (pa_cons (pv 1) pa_nil)) pe_int) pa_nil)) pa_nil))))))))))), ?_⟩
    walk_at "rd"
    refine take_ok (TS := TS) hb (by omega) (by decide) (by decide) fun wo H1 wo0 wo1 e1 b1 => ?_
    walk_at "rd"
    have hx1 : H1 a = some (.ins CK dx (kfs qn qh)) := (by walk_at "t")
    have kq1 : KQ CK H1 a qh nms rows := (by walk_at "t")
    refine ite2 (fun c1 => ?_) (fun c1 => ?_)
    · walk_at "rd"
      refine ⟨a, dx, _, rfl, hx1, kfs_no qn qh (by decide +kernel) (by decide +kernel), ?_⟩
      walk_at "rd"
      refine ⟨by show 1 ≤ sizeLine; decide, fun p1 hp1 => ?_⟩
      generalize hXX : upd _ p1 _ = H2
      obtain ⟨e2, h2⟩ := new_facts (TS := TS) hXX hp1
      clear hXX
      walk_at "rs"
      refine ⟨by show 0 ≤ sizeLine; decide, fun p2 hp2 => ?_⟩
      generalize hXX : upd _ p2 _ = H3
      obtain ⟨e3, h3⟩ := new_facts (TS := TS) hXX hp2
      clear hXX
      walk_at "rs"
      have h23 : H3 p1 = some (.tup [.int 1]) := (by walk_at "t")
      have o1 : OdR H3 nms.length (.ref p1) := .inr (.inr (.inr (.inr ⟨p1, _, rfl, h23, (fun x hx => .inl ⟨1, List.mem_singleton.mp hx⟩), by show 1 ≤ 1000; decide, by rw [decide_eq_false (by show ¬ 1 = nms.length; omega)]; rfl⟩)))
      have o2 : OdR H3 nms.length (.ref p2) := .inr (.inr (.inr (.inr ⟨p2, _, rfl, h3, (fun x hx => nomatch hx), Nat.zero_le _, by rw [decide_eq_false (by show ¬ 0 = nms.length; omega)]; rfl⟩)))
      refine ⟨a, qh, nms, rows, [.ref p1, .ref p2], rfl, (by walk_at "t"), l6, by omega, fun x hx => ?_, by show 2 ≤ 1000; decide, .inl ⟨0, _, rfl, o1, (fun i y hi => absurd hi (Nat.not_lt_zero i)), fun d H4 e4 h4 => k CBR (some d) H4 (by simp) (by walk_at "e") (by walk_at "t")⟩⟩
      rcases List.mem_cons.mp hx with rfl | hx
      · exact .inr o1
      · rw [List.mem_singleton.mp hx]; exact .inr o2
    · walk_at "rd"
      refine ite2 (fun c2 => ?_) (fun c2 => ?_)
      · walk_at "rd"
        refine ⟨a, dx, _, rfl, hx1, kfs_no qn qh (by decide +kernel) (by decide +kernel), ?_⟩
        walk_at "rd"
        refine ⟨a, dx, _, rfl, hx1, a, qh, nms, rows, rfl, kq1, ?_⟩
        walk_at "rd"
        refine ⟨by omega, ?_⟩
        walk_at "rd"
        exact ⟨a, qh, nms, rows, [(rows.length : Int)], rfl, kq1, by omega, by show 1 ≤ 1000; decide, .inl ⟨0, _, rfl, ⟨_, rfl, .inr (by omega)⟩, (fun i hi => absurd hi (Nat.not_lt_zero i)), fun d H3 e3 h3 => k CNP (some d) H3 (by simp) (by walk_at "e") (by walk_at "t")⟩⟩
      · walk_at "rd"
        refine ite2 (fun c3 => ?_) (fun c3 => ?_)
        · walk_at "rd"
          refine ⟨a, dx, _, rfl, hx1, kfs_no qn qh (by decide +kernel) (by decide +kernel), ?_⟩
          walk_at "rd"
          refine ⟨a, qh, nms, rows, "none", false, rfl, kq1, hnd, wf, by omega, (show Tabs TS H1 from (by walk_at "t")), fun j' hj' => absurd (List.mem_of_getElem? hj') hno, fun _ => ?_⟩
          exact fun d H3 e3 h3 => k CNN (some d) H3 (by simp) (by walk_at "e") (by walk_at "t")
        · walk_at "rd"
          refine ⟨a, dx, _, rfl, hx1, kfs_no qn qh (by decide +kernel) (by decide +kernel), ?_⟩
          walk_at "rd"
          refine ⟨a, dx, _, rfl, hx1, a, qh, nms, rows, rfl, kq1, ?_⟩
          walk_at "rd"
          refine ⟨by omega, ?_⟩
          refine ⟨_, _, rfl, rfl, ?_⟩
          refine ⟨rows.length + 1, rfl, by omega, fun H2 p2 s2 n2 mv2 => ?_⟩
          have e2 : Ev TS [] H1 H2 := Ev.same s2
          walk_at "rd"
          refine ⟨a, qh, p2, nms, rows, rows.length + 1, _, [], rfl, (by walk_at "t"), l6, by omega, mv2, still_ok _, by rw [stillM_length]; omega, Nat.zero_le _, (fun x hx => nomatch hx), .inl ⟨by omega, fun d H3 e3 h3 => k CM (some d) H3 (by simp) (by walk_at "e") (by walk_at "t")⟩⟩
/-- the property table, read while an exception is handled -/
theorem okq_table {f : Addr} {fd : FuncData} (F : Fun K "table" "Keeper.table" s_k_table f fd) (T : TxtKe K mg KPT CK) : FnQ P w K mg base 1 f (spTable K CK) := by
  obtain ⟨oc, od, kV, doc, pm, an, cdv, ct, osl, rfl, lk, hcd⟩ := F.ex
  refine fn_q lk hcd sc_k_table (fun us hl => match us, hl with | [_], _ => rfl) (fun vs H Q E h => ?_) (fun A outer s H vs Q p hr h => ?_)
  · obtain ⟨a, nms, rs, rfl, _⟩ := h
    rfl
  · obtain ⟨a, nms, rs, rfl, kp, k⟩ := h
    obtain ⟨dx, qn, qh, ha, _, hqh, _⟩ := kp
    refine ⟨_, (pss_one (ps_ret (pe_callTy call_list_of (by rfl) T.n_list (by decide +kernel) (pa_cons (pe_fld (pv 0) (by rfl)) pa_nil)))), ?_⟩
    walk_at "rd"
    refine ⟨a, CK, dx, _, _, rfl, ha, T.ck, T.nh, kfs_held _ _, ?_⟩
    walk_at "rd"
    exact ⟨qh, _, rfl, .inl (SqL.of hqh), fun l hl => k l hl⟩
def spCaught (TS : List (Addr × Str)) (CK : Addr) : Sp := fun vs H Q _ => ∃ (b a qh : Addr) (n : Nat) (nms : List Str) (rows : List (List Int)), vs = [.ref b, .ref a] ∧ BagB H b n ∧ n + 1000 < 1000000 ∧ KQ CK H a qh nms rows ∧ nms.Nodup ∧ 1 < nms.length ∧ nms.length ≤ 6 ∧ WF nms.length rows ∧ rows.length ≤ 200 ∧ ("none" : Str) ∉ nms ∧ Tabs TS H ∧ b ≠ qh ∧
  ∀ H', Ev TS [b] H H' → BagB H' b (n + 1) → Q (.bl true) H'
theorem sc_caught : FnScope ["_law_bag_here", "_law_keeper", "_law_rows_here"] ["_law_bag_here", "_law_keeper"] (defScope s_caught) := ⟨rfl, rfl, rfl, by decide +kernel, rfl, by decide +kernel, by decide +kernel⟩
theorem ok_caught {f : Addr} {fd : FuncData} (F : Fun K "_law_caught" "_law_caught" s_caught f fd) (T : TxtKe K mg KPT CK) (PRtable : Pr P w K mg base CX0 1 CK "table" (spTable K CK)) (PQ : PrQ P w K mg base 1 CK "table" (spTable K CK)) (Drdeed : Cl P w K mg base (L2.CX P w) 7 "_law_refused_deed" (spRDeed TS CK CBR CNP CNN CM)) (hSE : mg "SidelistsError" = some (.ref CSE)) (hex : ∀ CE ∈ [CBR, CNP, CNN, CM], PySem.W.exmOne K (.ref CE) (.ref CSE) = some true) : FnR P w K mg base CX0 8 f (spCaught TS CK) := by
  refine fnr F sc_caught (fun vs H Q E h => ?_) (fun _ _ _ _ _ _ us hl => match us, hl with | [_, _], _ => rfl) (fun cdv A outer s H vs Q E hr h => ?_)
  · obtain ⟨b, a, qh, n, nms, rows, rfl, _⟩ := h
    rfl
  · obtain ⟨b, a, qh, n, nms, rows, rfl, hb, hn, kq, hnd, l1, l6, wf, h200, hno, hT, nbq, k⟩ := h
    obtain ⟨dx, qn, rs0, hx, hqn, _⟩ := id kq
    refine ⟨_, pss_cons (ps_set (i := 2) sc_caught.nd rfl (Or.inl rfl) (pe_pr PRtable hr (by decide) pass0 (pv 1)))
      (pss_cons (ps_try_only (c := .ref CSE) rfl rfl ⟨rfl, by decide, .inl hSE⟩ takes_none5 (fun W pn xe tk hp => pss_one (ps_expr (pe_clS (P := P) (w := w) (K := K) (mg := mg) (base := base) (by rfl) (by rfl) (by rfl) (by rfl) (by rfl) Drdeed hr (by decide) (by rfl) (fun σ => passAt tk σ) (pa_cons (pv 0) (pa_cons (pv 1) pa_nil)))))
        (fun a oe cls d pn _ _ => pss_one (ps_ret (pe_cmpR (op_eqDK (K := K) (by rfl) hr.units) (pe_prQ (q := (a, oe)) List.mem_cons_self rfl rfl PQ (L2H.roomH_mark hr _) (by decide) (pv 1)) (pv 2) (nomark _))))) (pss_one (ps_ret pe_bl))), ?_⟩
    walk_at "rd"
    refine ⟨a, dx, _, rfl, hx, ktable_ok (TS := TS) kq fun p1 H1 np1 e1 lr1 => ?_⟩
    walk_at "rd"
    refine ⟨b, a, qh, n, nms, rows, rfl, (show BagB H1 b n from (by walk_at "t")), hn, (by walk_at "t"), hnd, l1, l6, wf, h200, hno, (by walk_at "t"), nbq, fun CE d H2 hCE e2 b2 => ⟨true, hex CE hCE, fun _ ax na => ?_, fun z => by cases z⟩⟩
    have kq2 : KQ CK H2 a qh nms rows := (by walk_at "t")
    obtain ⟨dx2, qn2, rs2, hx2, _⟩ := id kq2
    walk_at "rd"
    refine ⟨a, dx2, _, rfl, hx2, ktable_ok (TS := TS) kq2 fun p2 H3 np2 e3 lr3 => ?_⟩
    walk_at "rd"
    have lr13 : LR H3 p1 rows := (by walk_at "t")
    refine a_eqR lr3 lr13 ?_
    rw [decide_eq_true rfl]
    exact k H3 (by walk_at "e") (by walk_at "t")
end
end MV

namespace MV
open PySem PySem.Spec PyProof.Rows L2 SB MM LamX NdefX
local macro_rules | `(tactic| walk_at "rd") => `(tactic| repeat (first | (refine ⟨_, rfl, ?_⟩) | (refine ⟨_, _, rfl, rfl, ?_⟩) | (refine ⟨_, _, rfl, ?_⟩) | (refine ⟨rfl, ?_⟩) | (with_reducible refine st_nil ?_) | (with_reducible refine st_cons ?_) | (with_reducible refine st_C ?_)))
local macro_rules | `(tactic| walk_at "isL") => `(tactic| first | assumption | (apply isL.of; assumption) | (apply isL.bag; assumption) | (apply isL.lr; assumption) | (apply KQ.isL; assumption) | (apply isL.ev; assumption; walk_at "isL"))
local macro_rules | `(tactic| walk_at "isI") => `(tactic| first | assumption | (apply isI.of; assumption) | (apply KQ.isI; assumption) | (apply MoveAt.isI; assumption) | (apply isI.ev; assumption; walk_at "isI"))
local macro_rules | `(tactic| walk_at "al") => `(tactic| first | assumption | (apply isL.al; walk_at "isL") | (apply isI.al; walk_at "isI") | (apply Al.dK; assumption) | (apply Al.dT; assumption) | (apply Al.ev; assumption; walk_at "al"))
local macro_rules | `(tactic| walk_at "ne") => `(tactic| first | (apply NeH.of; assumption) | (apply NeH.ofs; assumption) | (apply neLI; walk_at "isL"; walk_at "isI") | (apply neIL; walk_at "isI"; walk_at "isL") | (apply Al.ne; assumption; walk_at "al") | (apply Al.ens; assumption; walk_at "al") | (apply NA.ne; assumption; walk_at "al") | (apply NA.ens; assumption; walk_at "al"))
local macro_rules | `(tactic| walk_at "nin") => `(tactic| first | exact trivial | (refine And.intro ?_ ?_; walk_at "ne"; walk_at "nin"))
local macro_rules | `(tactic| walk_at "t") => `(tactic| first | assumption | (apply ev_tup; assumption; walk_at "t") | (apply ev_lst; assumption; walk_at "t"; walk_at "nin") | (apply ev_ins; assumption; walk_at "t"; walk_at "nin") | (apply ev_dK; assumption; walk_at "t"; walk_at "nin") | (apply ev_dT; assumption; walk_at "t"; walk_at "nin") | (apply ev_ra; assumption; walk_at "t") | (apply ev_bag; assumption; walk_at "t"; walk_at "nin") | (apply ev_lr; assumption; walk_at "t"; walk_at "nin") | (apply ev_kq; assumption; walk_at "t"; walk_at "nin"; walk_at "nin") | (apply ev_tabs; assumption; walk_at "t") | (apply ev_fzT; assumption; walk_at "t") | (apply ev_od; assumption; walk_at "t") | (apply ev_odR; assumption; walk_at "t") | (apply ev_cels; assumption; walk_at "t") | (apply ev_move; assumption; walk_at "t"; walk_at "nin") | (apply ev_rt; assumption; walk_at "t") | (apply ev_goodR; assumption; walk_at "t") | (apply ev_rowvs; assumption; walk_at "t") | (apply ev_dm; assumption; walk_at "t")  | (apply SqL.of; walk_at "t") | (apply SqT.of; walk_at "t") | (apply ev_sqT; assumption; walk_at "t") | (apply ev_sqL; assumption; walk_at "t"; walk_at "nin"))
local macro_rules | `(tactic| walk_at "le") => `(tactic| first | exact Le.refl _ | (apply Le.ev; assumption; walk_at "le"))
local macro_rules | `(tactic| walk_at "om") => `(tactic| first | exact Or.inl (List.mem_cons_self) | exact Or.inl (List.mem_cons_of_mem _ List.mem_cons_self) | exact Or.inl (List.mem_cons_of_mem _ (List.mem_cons_of_mem _ List.mem_cons_self)) | (apply Or.inr; apply nal0; assumption) | (apply Or.inr; apply Le.nal; assumption; walk_at "le") | (apply Or.inr; apply Le.na; assumption; walk_at "le"))
local macro_rules | `(tactic| walk_at "out") => `(tactic| first | exact trivial | (refine And.intro ?_ ?_; walk_at "om"; walk_at "out"))
local macro_rules | `(tactic| walk_at "e") => `(tactic| first | assumption | exact Ev.refl _ _ | (apply Ev.trans'; assumption; walk_at "e"; walk_at "out"))
local macro_rules | `(tactic| walk_at "c") => `(tactic| dsimp only [tNil, tCons, tC])
local macro_rules | `(tactic| walk_at "na") => `(tactic| first | assumption | (apply NA.of; assumption) | (apply Le.nal; assumption; walk_at "le") | (apply Le.na; assumption; walk_at "le"))
local macro_rules | `(tactic| walk_at "rs") => `(tactic| repeat (first | (with_reducible refine st_nil ?_) | (with_reducible refine st_cons ?_) | (with_reducible refine st_C ?_)))
local macro_rules | `(tactic| walk_at "rv") => `(tactic| repeat (first | (refine ⟨_, rfl, ?_⟩) | (with_reducible refine st_nil ?_) | (with_reducible refine st_cons ?_) | (with_reducible refine st_C ?_)))
local macro_rules | `(tactic| walk_at "if") => `(tactic| first | refine ifT rfl ?_ | refine ifF rfl ?_ | skip)
abbrev s_latt : Stmt := top 41
abbrev s_act : Stmt := inDef (top 41) 2
/-- the keeper x (its rows in the list at q) and the state at S tell the same rows; all was right so far -/
structure S76 (CK : Addr) (H : Hp) (b x q S pr : Addr) (nms : List Str) (rows : List (List Int)) : Prop where
  kq : KQ CK H x q nms rows
  hs : H S = some (.lst [.ref pr, .bl true])
  lr : LR H pr rows
  wf : WF nms.length rows
  hl : rows.length ≤ 100
  bq : b ≠ q
  sq : S ≠ q
  pb : pr ≠ b
  pq : pr ≠ q
  ps : pr ≠ S
structure Nm76 (nms : List Str) : Prop where
  ok : NmsOk nms
  l1 : 1 < nms.length
  l6 : nms.length ≤ 6
  no : ("none" : Str) ∉ nms
theorem S76.ev {TS : List (Addr × Str)} {CK : Addr} {H H' : Hp} {b x q S pr : Addr} {nms : List Str} {rows : List (List Int)} (h : S76 CK H b x q S pr nms rows) (sb : S ≠ b) (hb : isL H b) (e : Ev TS [b] H H') : S76 CK H' b x q S pr nms rows :=
  ⟨ev_kq e h.kq ⟨(neLI hb h.kq.isI).symm, trivial⟩ ⟨h.bq.symm, trivial⟩, ev_lst e h.hs ⟨sb, trivial⟩, ev_lr e h.lr ⟨h.pb, trivial⟩, h.wf, h.hl, h.bq, h.sq, h.pb, h.pq, h.ps⟩
theorem S76.ev0 {TS : List (Addr × Str)} {CK : Addr} {H H' : Hp} {b x q S pr : Addr} {nms : List Str} {rows : List (List Int)} (h : S76 CK H b x q S pr nms rows) (e : Ev TS [] H H') : S76 CK H' b x q S pr nms rows :=
  ⟨ev_kq e h.kq trivial trivial, ev_lst e h.hs trivial, ev_lr e h.lr trivial, h.wf, h.hl, h.bq, h.sq, h.pb, h.pq, h.ps⟩
theorem S76.mk' {TS : List (Addr × Str)} {CK : Addr} {H H' : Hp} {b x q S pr p0 : Addr} {nms : List Str} {rows : List (List Int)} (hS : H S = some (.lst [.ref p0, .bl true])) (e : Ev TS [S] H H') (h : H' S = some (.lst [.ref pr, .bl true])) (kq : KQ CK H x q nms rows) (lr : LR H pr rows) (wf : WF nms.length rows) (hl : rows.length ≤ 100) (bq : b ≠ q) (sq : S ≠ q) (pb : pr ≠ b) (pq : pr ≠ q) (ps : pr ≠ S) : S76 CK H' b x q S pr nms rows :=
  ⟨ev_kq e kq ⟨neIL kq.isI (isL.of hS), trivial⟩ ⟨sq.symm, trivial⟩, h, ev_lr e lr ⟨ps, trivial⟩, wf, hl, bq, sq, pb, pq, ps⟩
theorem S76.put {TS : List (Addr × Str)} {CK : Addr} {H H' : Hp} {b x q S pr : Addr} {nms : List Str} {rows : List (List Int)} (st : S76 CK H b x q S pr nms rows) (e : Ev TS [S] H H') (h : H' S = some (.lst [.ref pr, .bl true])) (kq : KQ CK H x q nms rows) (lr : LR H pr rows) (wf : WF nms.length rows) (hl : rows.length ≤ 100) (bq : b ≠ q) (sq : S ≠ q) (pb : pr ≠ b) (pq : pr ≠ q) (ps : pr ≠ S) : S76 CK H' b x q S pr nms rows := S76.mk' st.hs e h kq lr wf hl bq sq pb pq ps
def spLatt (TS : List (Addr × Str)) (CK : Addr) (dp c : Nat) : Sp := fun vs H Q _ => ∃ (b x q S pr : Addr) (n : Nat) (nms : List Str) (rows : List (List Int)), vs = [.ref b, .ref x, .ref S, .int (dp : Int)] ∧ BagB H b n ∧ n + c + 2000 < 1000000 ∧ S76 CK H b x q S pr nms rows ∧ Nm76 nms ∧ S ≠ b ∧ Tabs TS H ∧
  ∀ q' pr' rows' H', Ev TS [b, x, q, S] H H' → BagB H' b (n + c) → S76 CK H' b x q' S pr' nms rows' → (q' = q ∨ NA H q') → Q .non H'
/-- what the action leaves -/
def Post76 (TS : List (Addr × Str)) (CK : Addr) (H : Hp) (b x q S cl : Addr) (m : Nat) (nms : List Str) (H' : Hp) : Prop := ∃ (q' pr' : Addr) (rows' : List (List Int)), Ev TS [b, x, q, S, cl] H H' ∧ BagB H' b m ∧ S76 CK H' b x q' S pr' nms rows' ∧ (q' = q ∨ NA H q') ∧ H' cl = some (.lst [.bl true])
def spAct (TS : List (Addr × Str)) (CK CBR CNP CNN CM : Addr) (dp c : Nat) (ws : List (Option V)) : Sp := fun vs H Q E => ∃ (b x q S pr cl : Addr) (n dd : Nat) (en : Str) (nms : List Str) (rows : List (List Int)), ws = [some (.ref cl), some (.ref x), some (.int (dd : Int)), some (.ref b), some (.int (dp : Int)), some (.ref S), some (.str en)] ∧ vs = [.ref x] ∧ dd < 5 ∧ BagB H b n ∧ n + c + 2000 < 1000000 ∧ S76 CK H b x q S pr nms rows ∧ Nm76 nms ∧ S ≠ b ∧ Tabs TS H ∧ H cl = some (.lst []) ∧ cl ≠ b ∧ cl ≠ q ∧ cl ≠ S ∧ cl ≠ pr ∧
  (en ≠ "refused" → en ≠ "other" → ∀ v H', Post76 TS CK H b x q S cl (n + c) nms H' → Q v H') ∧ (en = "refused" → ∀ (CE : Addr) (d : Option Addr) H', CE ∈ [CBR, CNP, CNN, CM] → Post76 TS CK H b x q S cl (n + c) nms H' → E (.ref CE) d H') ∧ (en = "other" → ∀ (d : Option Addr) H', Post76 TS CK H b x q S cl (n + c) nms H' → E (.type "KeyError") d H')
section
variable {P : Program} {w : World} {K : PySem.W.Frag} {mg : Str → Option Value} {base : Heap} {KPT CK C CBR CNP CNN CM CDL CSE : Addr} {TS : List (Addr × Str)} {kk dp c c' : Nat} {spRec : Sp}
theorem sc_act : NScope ["_law_inner", "_law_calls", "_law_keeper", "_law_deeds", "_law_bag_here", "_law_depth", "_law_state", "_law_end", "_law_turn", "_law_used", "_law_word"] ["_law_inner"] ["_law_calls", "_law_keeper", "_law_deeds", "_law_bag_here", "_law_depth", "_law_state", "_law_end"] (C8.fnScope s_act) := nscope_by (by decide +kernel)
theorem nok_act {f : Addr} {q : Str} {cl : List (Str × Addr)} {cc : Addr} (T : TxtKe K mg KPT CK) (knf : PySem.W.notFirst K CK (.ref CK) = true) (nKE : mg "KeyError" = none) (h8 : 8 ≤ kk) (hc : 5 * (c' + 2) + 10 ≤ c) (h40 : 40 ≤ c') (MKeq : Me P w K mg base CX0 1 CK "__eq__" (spKEq TS CK)) (PRtable : Pr P w K mg base CX0 1 CK "table" (spTable K CK)) (Dtake : Cl P w K mg base CX0 1 "_law_take" spTake)
    (Ddeed : Cl P w K mg base CX0 6 "_law_deed" (spDeed TS CK)) (Drdeed : Cl P w K mg base (L2.CX P w) 7 "_law_refused_deed" (spRDeed TS CK CBR CNP CNN CM)) (Dcaught : Cl P w K mg base CX0 8 "_law_caught" (spCaught TS CK)) (Dlatt : Cl P w K mg base CX0 kk "_law_attempt" spRec) (hrec : dp < 3 → ∀ vs H Q E, spLatt TS CK (dp + 1) c' vs H Q E → spRec vs H Q E) :
    NOk P w K mg base (L2.CX P w) (kk + 1) f (NF.of s_act "_law_action" q cl cc) ["_law_inner"] ["_law_calls", "_law_keeper", "_law_deeds", "_law_bag_here", "_law_depth", "_law_state", "_law_end"] (spAct TS CK CBR CNP CNN CM dp c) := by
  refine nok_of (N := ["_law_inner", "_law_calls", "_law_keeper", "_law_deeds", "_law_bag_here", "_law_depth", "_law_state", "_law_end", "_law_turn", "_law_used", "_law_word"]) sc_act (fun _ _ _ us hl => match us, hl with | [_], _ => rfl) (fun ws vs H Q E h => ?_) (fun A outer s H vs ws Q E hr hf hc0 hws h => ?_)
  · obtain ⟨b, x, q, S, pr, cl, n, dd, en, nms, rows, rfl, rfl, _⟩ := h
    rfl
  · obtain ⟨b, x, q, S, pr, cl, n, dd, en, nms, rows, rfl, rfl, hdd, hb, hn, st, nm, sb, hT, hcl, clb, clq, cls, clp, kD, kR, kO⟩ := h
    obtain ⟨dx, qn, rs0, hx, _⟩ := id st.kq
    refine ⟨_, (pss_cons (ps_expr (pe_bm PySem.F.plainAttrs_list PySem.F.slot_list_append PySem.F.type_list_append mt_append (pv 1) (pa_cons (pe_cmpR (op_ownEq MKeq knf hr (by omega) pass0) (pv 0) (pv 2) (nomark _)) pa_nil)))
      (pss_cons (ps_for (passes_of rfl) rfl (pi_range1 (by rfl) T.n_range (pa_cons (pv 3) pa_nil)) (pg_name (i := 8) sc_act.nd rfl (Or.inl rfl))
        (C8.pss_cut (ps_set (i := 9) sc_act.nd rfl (Or.inl rfl) (pe_ifExp (pt_cmpR op_eq (pe_cl Dtake hr (by omega) (by rfl) pass0 (pa_cons (pv 4) (pa_cons pe_int pa_nil))) pe_int (nomark _)) (pv 0) (pv 2)))
        (pss_cons (ps_set (i := 10) sc_act.nd rfl (Or.inl rfl) (pe_cl Dtake hr (by omega) (by rfl) pass0 (pa_cons (pv 4) (pa_cons pe_int pa_nil))))
        (C8.pss_cut (ps_if (PW.pt (pw_and (pt_cmpR op_eq (pv 10) pe_int (nomark _)) (pw_and1 (pt_cmpR op_lt (pv 5) pe_int (nomark _))))) (pss_one (ps_expr (pe_cl Dlatt hr (by omega) (by rfl) pass0 (pa_cons (pv 4) (pa_cons (pv 9) (pa_cons (pv 6) (pa_cons (pe_op op_add (pv 5) pe_int) pa_nil))))))) (pss_one (ps_if (pt_cmpR op_eq (pv 10) pe_int (nomark _)) (pss_one (ps_asg (pe_and (pe_ix ix_list (pv 6) pe_int (fun _ _ => rfl)) (pe_one (pe_cl Dcaught hr (by omega) (by rfl) pass0 (pa_cons (pv 4) (pa_cons (pv 9) pa_nil))))) (pg_sub (pv 6) pe_int set_list))) (pss_one (ps_asg (pe_cl Ddeed hr (by omega) (by rfl) pass0 (pa_cons (pv 4) (pa_cons (pv 9) (pa_cons (pe_ix ix_list (pv 6) pe_int (fun _ _ => rfl)) pa_nil)))) (pg_sub (pv 6) pe_int set_list))))))
        (pss_one (ps_asg (pe_and (pe_ix ix_list (pv 6) pe_int (fun _ _ => rfl)) (pe_and (pe_cmpR (op_eqD hr.units) (pe_pr PRtable hr (by omega) pass0 (pv 0)) (pe_ix ix_list (pv 6) pe_int (fun _ _ => rfl)) (nomark _)) (pe_one (pe_cmpR (op_eqD hr.units) (pe_pr PRtable hr (by omega) pass0 (pv 2)) (pe_ix ix_list (pv 6) pe_int (fun _ _ => rfl)) (nomark _))))) (pg_sub (pv 6) pe_int set_list)))))))
      (pss_cons (ps_if (pt_cmpR op_eq (pv 7) pe_str (nomark _)) (pss_one (ps_expr (pe_cl Drdeed hr (by omega) (by rfl) (passL rfl rfl rfl rfl) (pa_cons (pv 4) (pa_cons (pv 0) pa_nil))))) pss_nil)
      (pss_cons (ps_if (pt_cmpR op_eq (pv 7) pe_str (nomark _)) (pss_one (ps_raise rfl (takes_of rfl rfl rfl rfl) (pmk_exc excClass_KeyError ty_KeyError (by rfl) nKE boot_KeyError (pa_cons (pv 3) pa_nil)))) pss_nil)
      (pss_one (ps_ret (pe_ix ix_list (by exact (pe_lst (pa_cons pe_non (pa_cons pe_bl (pa_cons pe_int (pa_cons (pe_lst pa_nil) (pa_cons pe_bl pa_nil))))))) (pv 3) (fun _ _ => rfl)))))))), ?_⟩
    walk_at "rd"
    refine ⟨.inl ⟨rfl, _, SqL.of hcl⟩, ?_⟩
    walk_at "rd"
    refine ⟨x, dx, _, x, dx, _, rfl, rfl, hx, hx, x, q, x, q, nms, nms, rows, rows, rfl, ⟨st.kq, st.kq, strs_ok nm.ok, strs_ok nm.ok⟩, fun H1 e1 => ?_⟩
    rw [decide_eq_true (show nms = nms from rfl), decide_eq_true (show rows = rows from rfl)]
    walk_at "rd"
    have hcl1 : H1 cl = some (.lst []) := ev_lst e1 hcl trivial
    refine a_append (TS := TS) hcl1 (by show 0 < sizeLine; decide) fun H2 e2 hcl2 => ?_
    walk_at "rd"
    have st1 : S76 CK H1 b x q S pr nms rows := st.ev0 e1
    have st2 : S76 CK H2 b x q S pr nms rows := ⟨ev_kq e2 st1.kq ⟨neIL st1.kq.isI (isL.of hcl1), trivial⟩ ⟨clq.symm, trivial⟩, ev_lst e2 st1.hs ⟨cls.symm, trivial⟩, ev_lr e2 st1.lr ⟨clp.symm, trivial⟩, st1.wf, st1.hl, st1.bq, st1.sq, st1.pb, st1.pq, st1.ps⟩
    have b2 : BagB H2 b n := ev_bag e2 (ev_bag e1 hb trivial) ⟨clb.symm, trivial⟩
    have T2 : Tabs TS H2 := ev_tabs e2 (ev_tabs e1 hT)
    have E2 : Ev TS [cl] H H2 := e1.mono (fun _ z => nomatch z) |>.trans e2 ⟨.inl List.mem_cons_self, trivial⟩
    have hcl2' : H2 cl = some (.lst [.bl true]) := hcl2
    clear hcl2
    refine ⟨by omega, by omega, ?_⟩
    rw [Int.toNat_natCast]
    refine for_it walk_range (fun i σ H' => ∃ (q' pr' : Addr) (rows' : List (List Int)) (w8 w9 w10 : Option V), σ = [some (.ref x), some (.ref cl), some (.ref x), some (.int (dd : Int)), some (.ref b), some (.int (dp : Int)), some (.ref S), some (.str en), w8, w9, w10] ∧ Ev TS [b, x, q, S] H2 H' ∧ BagB H' b (n + (c' + 2) * i) ∧ S76 CK H' b x q' S pr' nms rows' ∧ (q' = q ∨ NA H2 q') ∧ H' cl = some (.lst [.bl true])) ⟨q, pr, rows, none, none, none, rfl, Ev.refl _ _, b2, st2, .inl rfl, hcl2'⟩ (fun _ _ _ _ _ => trivial) ?_ ?_
    · rintro i y σ G0' G0 hi ⟨q', pr', rows', w8, w9, w10, rfl, E0, b0, st0, hq0, hcl0⟩ ⟨rfl, rfl⟩
      have hmul : (c' + 2) * i ≤ (c' + 2) * 4 := Nat.mul_le_mul_left _ (by omega)
      have hsucc : (c' + 2) * (i + 1) = (c' + 2) * i + (c' + 2) := Nat.mul_succ _ _
      walk_at "rd"
      refine ⟨fun σ' H' => ∃ w8, σ' = [some (.ref x), some (.ref cl), some (.ref x), some (.int (dd : Int)), some (.ref b), some (.int (dp : Int)), some (.ref S), some (.str en), w8, some (.ref x), w10] ∧ Ev TS [b] G0 H' ∧ BagB H' b (n + (c' + 2) * i + 1), ?_, ?_⟩
      · walk_at "rd"
        refine take_ok (TS := TS) b0 (by omega) (by decide) (by decide) fun us G1 us0 us1 e1 b1 => ?_
        walk_at "rd"
        refine ite2 (fun c1 => ?_) (fun c1 => ?_)
        · walk_at "rd"
          first | exact ⟨_, rfl, (by walk_at "e"), b1⟩ | exact ⟨(by walk_at "e"), b1⟩
        · walk_at "rd"
          first | exact ⟨_, rfl, (by walk_at "e"), b1⟩ | exact ⟨(by walk_at "e"), b1⟩
      rintro σ' G1 ⟨w8, rfl, e1, b1⟩
      walk_at "rd"
      refine take_ok (TS := TS) b1 (by omega) (by decide) (by decide) fun wo G2 wo0 wo1 e2 b2 => ?_
      walk_at "rd"
      have clq' : cl ≠ q' := hq0.elim (fun z => z ▸ clq) fun z e => z (e ▸ Al.lst hcl2')
      have e02 : Ev TS [b] G0 G2 := e1.trans e2 ⟨.inl List.mem_cons_self, trivial⟩
      have st' := st0.ev sb (isL.bag b0) e02
      have hclG : G2 cl = some (.lst [.bl true]) := ev_lst e02 hcl0 ⟨clb, trivial⟩
      have TG : Tabs TS G2 := ev_tabs e02 (ev_tabs E0 T2)
      have clx : cl ≠ x := (neLI (isL.of hclG) st'.kq.isI)
      obtain ⟨dxg, qng, rsg, hxg, _⟩ := id st'.kq
      refine ⟨fun σ' H' => ∃ (q'' pr'' : Addr) (rows'' : List (List Int)) (w8 w10 : Option V), σ' = [some (.ref x), some (.ref cl), some (.ref x), some (.int (dd : Int)), some (.ref b), some (.int (dp : Int)), some (.ref S), some (.str en), w8, some (.ref x), w10] ∧ Ev TS [b, x, q', S] G2 H' ∧ BagB H' b (n + (c' + 2) * i + 2 + c') ∧ S76 CK H' b x q'' S pr'' nms rows'' ∧ (q'' = q' ∨ NA G2 q'') ∧ H' cl = some (.lst [.bl true]), ?_, ?_⟩
      · walk_at "rd"
        refine ite2 (fun c1 => ?_) (fun c1 => ?_)
        · walk_at "rd"
          refine ite2 (fun c2 => ?_) (fun c2 => ?_)
          · have hd3 : dp < 3 := by have := of_decide_eq_true c2; omega
            walk_at "rd"
            refine hrec hd3 _ _ _ _ ⟨b, x, q', S, pr', _, nms, rows', rfl, b2, by omega, st', nm, sb, TG, fun q'' pr'' rows'' G3 e3 b3 st3 hq3 => ?_⟩
            walk_at "rd"
            exact ⟨q'', pr'', rows'', _, _, rfl, e3, b3.mono (by omega), st3, hq3, ev_lst e3 hclG ⟨clb, clx, clq', cls, trivial⟩⟩
          · skip
            walk_at "rd"
            refine ite2 (fun c3 => ?_) (fun c3 => ?_)
            · walk_at "rd"
              refine ⟨S, _, 1, .bl true, rfl, rfl, SqL.of st'.hs, rfl, ?_⟩
              walk_at "rd"
              refine ⟨b, x, q', _, nms, rows', rfl, b2, by omega, st'.kq, nm.ok.2, nm.l1, nm.l6, st'.wf, by have := st'.hl; omega, nm.no, TG, st'.bq, fun G3 e3 b3 => ?_⟩
              walk_at "rd"
              have st3 := st'.ev sb (isL.bag b2) e3
              refine a_setL (TS := TS) (j := 1) st3.hs (by show 1 < 2; decide) fun G4 e4 h4 => ?_
              have st4 : S76 CK G4 b x q' S pr' nms rows' := st3.put e4 h4 st3.kq st3.lr st3.wf st3.hl st3.bq st3.sq st3.pb st3.pq st3.ps
              exact ⟨q', pr', rows', _, _, rfl, (e3.mono (L1 := [b, x, q', S]) fun y hy => by rw [List.mem_singleton.mp hy]; exact List.mem_cons_self).trans e4 ⟨.inl (by simp), trivial⟩, (ev_bag e4 b3 ⟨sb.symm, trivial⟩).mono (by omega), st4, .inl rfl, ev_lst e4 (ev_lst e3 hclG ⟨clb, trivial⟩) ⟨cls, trivial⟩⟩
            · walk_at "rd"
              refine ⟨S, _, 0, .ref pr', rfl, rfl, SqL.of st'.hs, rfl, ?_⟩
              walk_at "rd"
              refine ⟨b, x, q', pr', _, nms, rows', rfl, b2, by omega, st'.kq, st'.lr, nm.ok, by have := nm.l1; omega, nm.l6, st'.wf, st'.hl, st'.bq, st'.pb, st'.pq, fun p3 q'' rows'' G3 e3 b3 kq3 lr3 wf3 hl3 hq3 np3 npq3 => ?_⟩
              walk_at "rd"
              have hS3 : G3 S = some (.lst [.ref pr', .bl true]) := ev_lst e3 st'.hs ⟨sb, (neLI (isL.of st'.hs) st'.kq.isI), st'.sq, trivial⟩
              refine a_setL (TS := TS) (j := 0) hS3 (by show 0 < 2; decide) fun G4 e4 h4 => ?_
              have alS : Al G2 S := Al.lst st'.hs
              have alb : Al G2 b := Al.bag b2
              have bq3 : b ≠ q'' := hq3.elim (fun z => z ▸ st'.bq) fun z e => z (e ▸ alb)
              have sq3 : S ≠ q'' := hq3.elim (fun z => z ▸ st'.sq) fun z e => z (e ▸ alS)
              have pb3 : p3 ≠ b := fun e => np3 (e ▸ alb)
              have ps3 : p3 ≠ S := fun e => np3 (e ▸ alS)
              have st4 : S76 CK G4 b x q'' S p3 nms rows'' := S76.mk' hS3 e4 h4 kq3 lr3 wf3 hl3 bq3 sq3 pb3 npq3 ps3
              exact ⟨q'', p3, rows'', _, _, rfl, (e3.mono (L1 := [b, x, q', S]) fun y hy => by
                simp only [List.mem_cons, List.not_mem_nil, or_false] at hy ⊢
                rcases hy with z | z | z <;> simp [z]).trans e4 ⟨.inl (by simp), trivial⟩, (ev_bag e4 b3 ⟨sb.symm, trivial⟩).mono (by omega), st4, hq3, ev_lst e4 (ev_lst e3 hclG ⟨clb, clx, clq', trivial⟩) ⟨cls, trivial⟩⟩
        · skip
          walk_at "rd"
          refine ite2 (fun c3 => ?_) (fun c3 => ?_)
          · walk_at "rd"
            refine ⟨S, _, 1, .bl true, rfl, rfl, SqL.of st'.hs, rfl, ?_⟩
            walk_at "rd"
            refine ⟨b, x, q', _, nms, rows', rfl, b2, by omega, st'.kq, nm.ok.2, nm.l1, nm.l6, st'.wf, by have := st'.hl; omega, nm.no, TG, st'.bq, fun G3 e3 b3 => ?_⟩
            walk_at "rd"
            have st3 := st'.ev sb (isL.bag b2) e3
            refine a_setL (TS := TS) (j := 1) st3.hs (by show 1 < 2; decide) fun G4 e4 h4 => ?_
            have st4 : S76 CK G4 b x q' S pr' nms rows' := st3.put e4 h4 st3.kq st3.lr st3.wf st3.hl st3.bq st3.sq st3.pb st3.pq st3.ps
            exact ⟨q', pr', rows', _, _, rfl, (e3.mono (L1 := [b, x, q', S]) fun y hy => by rw [List.mem_singleton.mp hy]; exact List.mem_cons_self).trans e4 ⟨.inl (by simp), trivial⟩, (ev_bag e4 b3 ⟨sb.symm, trivial⟩).mono (by omega), st4, .inl rfl, ev_lst e4 (ev_lst e3 hclG ⟨clb, trivial⟩) ⟨cls, trivial⟩⟩
          · walk_at "rd"
            refine ⟨S, _, 0, .ref pr', rfl, rfl, SqL.of st'.hs, rfl, ?_⟩
            walk_at "rd"
            refine ⟨b, x, q', pr', _, nms, rows', rfl, b2, by omega, st'.kq, st'.lr, nm.ok, by have := nm.l1; omega, nm.l6, st'.wf, st'.hl, st'.bq, st'.pb, st'.pq, fun p3 q'' rows'' G3 e3 b3 kq3 lr3 wf3 hl3 hq3 np3 npq3 => ?_⟩
            walk_at "rd"
            have hS3 : G3 S = some (.lst [.ref pr', .bl true]) := ev_lst e3 st'.hs ⟨sb, (neLI (isL.of st'.hs) st'.kq.isI), st'.sq, trivial⟩
            refine a_setL (TS := TS) (j := 0) hS3 (by show 0 < 2; decide) fun G4 e4 h4 => ?_
            have alS : Al G2 S := Al.lst st'.hs
            have alb : Al G2 b := Al.bag b2
            have bq3 : b ≠ q'' := hq3.elim (fun z => z ▸ st'.bq) fun z e => z (e ▸ alb)
            have sq3 : S ≠ q'' := hq3.elim (fun z => z ▸ st'.sq) fun z e => z (e ▸ alS)
            have pb3 : p3 ≠ b := fun e => np3 (e ▸ alb)
            have ps3 : p3 ≠ S := fun e => np3 (e ▸ alS)
            have st4 : S76 CK G4 b x q'' S p3 nms rows'' := S76.mk' hS3 e4 h4 kq3 lr3 wf3 hl3 bq3 sq3 pb3 npq3 ps3
            exact ⟨q'', p3, rows'', _, _, rfl, (e3.mono (L1 := [b, x, q', S]) fun y hy => by
              simp only [List.mem_cons, List.not_mem_nil, or_false] at hy ⊢
              rcases hy with z | z | z <;> simp [z]).trans e4 ⟨.inl (by simp), trivial⟩, (ev_bag e4 b3 ⟨sb.symm, trivial⟩).mono (by omega), st4, hq3, ev_lst e4 (ev_lst e3 hclG ⟨clb, clx, clq', trivial⟩) ⟨cls, trivial⟩⟩
      have E02 : Ev TS [b, x, q, S] H2 G2 := E0.trans e02 ⟨.inl List.mem_cons_self, trivial⟩
      clear st' hclG e02 b2 TG hxg
      rintro σ' G3 ⟨q'', pr'', rows'', w8, w10, rfl, e3, b3, st3, hq3, hcl3⟩
      walk_at "rd"
      obtain ⟨dx3, qn3, rs3, hx3, _⟩ := id st3.kq
      refine ⟨S, _, 1, .bl true, rfl, rfl, SqL.of st3.hs, rfl, ?_⟩
      walk_at "rd"
      refine ⟨x, dx3, _, rfl, hx3, ktable_ok (TS := TS) st3.kq fun p4 G4 np4 e4 lr4 => ?_⟩
      walk_at "rd"
      have st4 := st3.ev0 e4
      refine ⟨S, _, 0, .ref pr'', rfl, rfl, SqL.of st4.hs, rfl, ?_⟩
      walk_at "rd"
      refine a_eqR (r1 := rows'') (r2 := rows'') lr4 st4.lr ?_
      rw [decide_eq_true rfl]
      walk_at "rd"
      obtain ⟨dx4, qn4, rs4, hx4, _⟩ := id st4.kq
      refine ⟨x, dx4, _, rfl, hx4, ktable_ok (TS := TS) st4.kq fun p5 G5 np5 e5 lr5 => ?_⟩
      walk_at "rd"
      have st5 := st4.ev0 e5
      refine ⟨S, _, 0, .ref pr'', rfl, rfl, SqL.of st5.hs, rfl, ?_⟩
      walk_at "rd"
      refine a_eqR (r1 := rows'') (r2 := rows'') lr5 st5.lr ?_
      rw [decide_eq_true rfl]
      walk_at "rd"
      refine a_setL (TS := TS) (j := 1) st5.hs (by show 1 < 2; decide) fun G6 e6 h6 => ?_
      have st6 : S76 CK G6 b x q'' S pr'' nms rows'' := st5.put e6 h6 st5.kq st5.lr st5.wf st5.hl st5.bq st5.sq st5.pb st5.pq st5.ps
      have e36 : Ev TS [S] G3 G6 := ((e4.trans e5 trivial).mono fun _ z => nomatch z).trans e6 ⟨.inl List.mem_cons_self, trivial⟩
      have E26 : Ev TS [b, x, q', S] G2 G6 := e3.trans e36 ⟨.inl (by simp), trivial⟩
      exact ⟨q'', pr'', rows'', _, _, _, rfl, E02.trans E26 ⟨.inl (by simp), .inl (by simp), hq0.elim (fun z => .inl (by simp [z])) .inr, .inl (by simp), trivial⟩, (ev_bag e36 b3 ⟨sb.symm, trivial⟩).mono (by omega), st6, hq3.elim (fun z => z ▸ hq0) (fun z => .inr fun al => z (al.ev E02)), ev_lst e36 hcl3 ⟨cls, trivial⟩⟩
    · rintro σ G0 ⟨q', pr', rows', w8, w9, w10, rfl, E0, b0, st0, hq0, hcl0⟩
      walk_at "rd"
      have cost : (c' + 2) * dd ≤ (c' + 2) * 4 := Nat.mul_le_mul_left _ (by omega)
      have E00 : Ev TS [b, x, q, S, cl] H G0 := (E2.mono (L1 := [b, x, q, S, cl]) fun y hy => by rw [List.mem_singleton.mp hy]; simp).trans E0 ⟨.inl (by simp), .inl (by simp), .inl (by simp), .inl (by simp), trivial⟩
      have hq00 : q' = q ∨ NA H q' := hq0.imp id fun z al => z (al.ev E2)
      have post : ∀ {G : Hp} {m : Nat}, Ev TS [b] G0 G → BagB G b m → m ≤ n + c → Post76 TS CK H b x q S cl (n + c) nms G := fun {G m} e bG hm => ⟨q', pr', rows', E00.trans e ⟨.inl List.mem_cons_self, trivial⟩, bG.mono hm, st0.ev sb (isL.bag b0) e, hq00, ev_lst e hcl0 ⟨clb, trivial⟩⟩
      by_cases c1 : en = "refused"
      · subst c1
        refine ifT (by rfl) ?_
        walk_at "rd"
        exact ⟨b, x, q', _, nms, rows', rfl, b0, by omega, st0.kq, nm.ok.2, nm.l1, nm.l6, st0.wf, by have := st0.hl; omega, nm.no, ev_tabs E0 T2, st0.bq, fun CE d G hCE e bG => kR rfl CE d G hCE (post e bG (by omega))⟩
      · refine ifF ?_ ?_
        · exact decide_eq_false (fun z => c1 (V.str.inj z))
        walk_at "rd"
        by_cases c2 : en = "other"
        · subst c2
          refine ifT (by rfl) ?_
          walk_at "rd"
          exact ⟨by show 1 ≤ sizeLine; decide, fun d => kO rfl d G0 (post (Ev.refl _ _) b0 (by omega))⟩
        · refine ifF ?_ ?_
          · exact decide_eq_false (fun z => c2 (V.str.inj z))
          walk_at "rd"
          refine ⟨by show 0 ≤ sizeLine; decide, fun p8 hp8 => ?_⟩
          generalize hXX : upd _ p8 _ = G8
          obtain ⟨e8, h8⟩ := new_facts (TS := TS) hXX hp8
          clear hXX
          walk_at "rs"
          refine ⟨by show 5 ≤ sizeLine; decide, fun p9 hp9 => ?_⟩
          generalize hXX : upd _ p9 _ = G9
          obtain ⟨e9, h9⟩ := new_facts (TS := TS) hXX hp9
          clear hXX
          walk_at "rs"
          obtain ⟨v, hv⟩ : ∃ v, [V.non, V.bl false, V.int 0, V.ref p8, V.bl true][dd]? = some v := ⟨_, List.getElem?_eq_getElem (show dd < 5 from hdd)⟩
          refine ⟨.int (dd : Int), rfl, p9, _, (dd : Int), v, rfl, rfl, SqL.of h9, atI_nat hv, ?_⟩
          have e09 : Ev TS [] G0 G9 := e8.trans e9 trivial
          exact kD c1 c2 v G9 (post (e09.mono fun _ z => nomatch z) (ev_bag e09 b0 trivial) (by omega))
end
end MV

namespace MV
open PySem PySem.Spec PyProof.Rows L2 SB MM LamX NdefX
local macro_rules | `(tactic| walk_at "rd") => `(tactic| repeat (first | (refine ⟨_, rfl, ?_⟩) | (refine ⟨_, _, rfl, rfl, ?_⟩) | (refine ⟨_, _, rfl, ?_⟩) | (refine ⟨rfl, ?_⟩) | (with_reducible refine st_nil ?_) | (with_reducible refine st_cons ?_) | (with_reducible refine st_C ?_)))
local macro_rules | `(tactic| walk_at "isL") => `(tactic| first | assumption | (apply isL.of; assumption) | (apply isL.bag; assumption) | (apply isL.lr; assumption) | (apply KQ.isL; assumption) | (apply isL.ev; assumption; walk_at "isL"))
local macro_rules | `(tactic| walk_at "isI") => `(tactic| first | assumption | (apply isI.of; assumption) | (apply KQ.isI; assumption) | (apply MoveAt.isI; assumption) | (apply isI.ev; assumption; walk_at "isI"))
local macro_rules | `(tactic| walk_at "al") => `(tactic| first | assumption | (apply isL.al; walk_at "isL") | (apply isI.al; walk_at "isI") | (apply Al.dK; assumption) | (apply Al.dT; assumption) | (apply Al.ev; assumption; walk_at "al"))
local macro_rules | `(tactic| walk_at "ne") => `(tactic| first | (apply NeH.of; assumption) | (apply NeH.ofs; assumption) | (apply neLI; walk_at "isL"; walk_at "isI") | (apply neIL; walk_at "isI"; walk_at "isL") | (apply Al.ne; assumption; walk_at "al") | (apply Al.ens; assumption; walk_at "al") | (apply NA.ne; assumption; walk_at "al") | (apply NA.ens; assumption; walk_at "al"))
local macro_rules | `(tactic| walk_at "nin") => `(tactic| first | exact trivial | (refine And.intro ?_ ?_; walk_at "ne"; walk_at "nin"))
local macro_rules | `(tactic| walk_at "t") => `(tactic| first | assumption | (apply ev_tup; assumption; walk_at "t") | (apply ev_lst; assumption; walk_at "t"; walk_at "nin") | (apply ev_ins; assumption; walk_at "t"; walk_at "nin") | (apply ev_dK; assumption; walk_at "t"; walk_at "nin") | (apply ev_dT; assumption; walk_at "t"; walk_at "nin") | (apply ev_ra; assumption; walk_at "t") | (apply ev_bag; assumption; walk_at "t"; walk_at "nin") | (apply ev_lr; assumption; walk_at "t"; walk_at "nin") | (apply ev_kq; assumption; walk_at "t"; walk_at "nin"; walk_at "nin") | (apply ev_tabs; assumption; walk_at "t") | (apply ev_fzT; assumption; walk_at "t") | (apply ev_od; assumption; walk_at "t") | (apply ev_odR; assumption; walk_at "t") | (apply ev_cels; assumption; walk_at "t") | (apply ev_move; assumption; walk_at "t"; walk_at "nin") | (apply ev_rt; assumption; walk_at "t") | (apply ev_goodR; assumption; walk_at "t") | (apply ev_rowvs; assumption; walk_at "t") | (apply ev_dm; assumption; walk_at "t")  | (apply SqL.of; walk_at "t") | (apply SqT.of; walk_at "t") | (apply ev_sqT; assumption; walk_at "t") | (apply ev_sqL; assumption; walk_at "t"; walk_at "nin"))
local macro_rules | `(tactic| walk_at "le") => `(tactic| first | exact Le.refl _ | (apply Le.ev; assumption; walk_at "le"))
local macro_rules | `(tactic| walk_at "om") => `(tactic| first | exact Or.inl (List.mem_cons_self) | exact Or.inl (List.mem_cons_of_mem _ List.mem_cons_self) | exact Or.inl (List.mem_cons_of_mem _ (List.mem_cons_of_mem _ List.mem_cons_self)) | (apply Or.inr; apply nal0; assumption) | (apply Or.inr; apply Le.nal; assumption; walk_at "le") | (apply Or.inr; apply Le.na; assumption; walk_at "le"))
local macro_rules | `(tactic| walk_at "out") => `(tactic| first | exact trivial | (refine And.intro ?_ ?_; walk_at "om"; walk_at "out"))
local macro_rules | `(tactic| walk_at "e") => `(tactic| first | assumption | exact Ev.refl _ _ | (apply Ev.trans'; assumption; walk_at "e"; walk_at "out"))
local macro_rules | `(tactic| walk_at "c") => `(tactic| dsimp only [tNil, tCons, tC])
local macro_rules | `(tactic| walk_at "na") => `(tactic| first | assumption | (apply NA.of; assumption) | (apply Le.nal; assumption; walk_at "le") | (apply Le.na; assumption; walk_at "le"))
local macro_rules | `(tactic| walk_at "rs") => `(tactic| repeat (first | (with_reducible refine st_nil ?_) | (with_reducible refine st_cons ?_) | (with_reducible refine st_C ?_)))
local macro_rules | `(tactic| walk_at "rv") => `(tactic| repeat (first | (refine ⟨_, rfl, ?_⟩) | (with_reducible refine st_nil ?_) | (with_reducible refine st_cons ?_) | (with_reducible refine st_C ?_)))
local macro_rules | `(tactic| walk_at "if") => `(tactic| first | refine ifT rfl ?_ | refine ifF rfl ?_ | skip)
abbrev ENdone : Str := "done"
abbrev ENrefused : Str := "refused"
abbrev ENother : Str := "other"
abbrev VALdone : V := .bl true
abbrev VALrefused : V := .bl false
abbrev VALother : V := .str "other"
abbrev TYNb : String := "bool"
abbrev TYNs : String := "str"
abbrev ISIt : Bool := true
abbrev ISIf : Bool := false
theorem TYXdone {K : PySem.W.Frag} {H : Hp} : TyX K H VALdone (.type "bool") := .base (.bl true)
theorem TYXref {K : PySem.W.Frag} {H : Hp} : TyX K H VALrefused (.type "bool") := .base (.bl false)
theorem TYXother {K : PySem.W.Frag} {H : Hp} : TyX K H VALother (.type "str") := .base (.str "other")
section
variable {TS : List (Addr × Str)} {CK : Addr} {H H' : Hp} {b x q S pr : Addr} {nms : List Str} {rows : List (List Int)} {cs : List (Addr × Obj)}
theorem S76.un (h : S76 CK H b x q S pr nms rows) (l : LkOk H cs) : S76 CK (unH H cs) b x q S pr nms rows := ⟨kq_un l h.kq, un_at l h.hs (fun φ z => by cases z), lr_un l h.lr, h.wf, h.hl, h.bq, h.sq, h.pb, h.pq, h.ps⟩
theorem S76.lk (h : S76 CK H b x q S pr nms rows) (fr : FrOk H cs) : S76 CK (lkH H cs) b x q S pr nms rows := h.ev0 (TS := []) (ev_lk fr)
theorem S76.mk8 {TS : List (Addr × Str)} {pd : Addr} (h : S76 CK H b x q S pr nms rows) (e : Ev TS [pd] H H') (n1 : q ≠ pd) (n2 : x ≠ pd) (n3 : S ≠ pd) (n4 : pr ≠ pd) : S76 CK H' b x q S pr nms rows :=
  ⟨ev_kq e h.kq ⟨n2, trivial⟩ ⟨n1, trivial⟩, ev_lst e h.hs ⟨n3, trivial⟩, ev_lr e h.lr ⟨n4, trivial⟩, h.wf, h.hl, h.bq, h.sq, h.pb, h.pq, h.ps⟩
theorem lst_nin {p : Addr} {xs : List V} (fr : FrOk H cs) (h : H p = some (.lst xs)) : p ∉ cs.map Prod.fst := fun z => by
  obtain ⟨y, hy, e⟩ := List.mem_map.mp z
  rw [← e, fr y hy] at h
  cases h
theorem S76.qlst (h : S76 CK H b x q S pr nms rows) : ∃ xs, H q = some (.lst xs) := by
  obtain ⟨_, _, _, _, _, g3, _⟩ := h.kq
  exact ⟨_, g3⟩
theorem KpAt.of {qh : Addr} (h : KQ CK H x qh nms rows) : KpAt CK H x nms := by
  obtain ⟨dx, qn, rs, g1, g2, _⟩ := h
  exact ⟨dx, qn, qh, g1, g2⟩
theorem KpAt.isI (h : KpAt CK H x nms) : isI H x := by
  obtain ⟨dx, qn, q3, g1, _⟩ := h
  exact isI.of g1
end
/-- what the action has left but for the keeper -/
def Rest76 (H : Hp) (b S cl : Addr) (m : Nat) : Prop := BagB H b m ∧ (∃ p : Addr, H S = some (.lst [.ref p, .bl true])) ∧ H cl = some (.lst [.bl true])
theorem Rest76.ev {TS : List (Addr × Str)} {CK : Addr} {H H' : Hp} {b x S cl : Addr} {m : Nat} {nms : List Str} (h : Rest76 H b S cl m) (k : KpAt CK H x nms) (e : Ev TS [x] H H') : Rest76 H' b S cl m := by
  obtain ⟨h1, ⟨p, h2⟩, h3⟩ := h
  exact ⟨ev_bag e h1 ⟨neLI (isL.bag h1) k.isI, trivial⟩, ⟨p, ev_lst e h2 ⟨neLI (isL.of h2) k.isI, trivial⟩⟩, ev_lst e h3 ⟨neLI (isL.of h3) k.isI, trivial⟩⟩
section
variable {P : Program} {w : World} {K : PySem.W.Frag} {mg : Str → Option Value} {base : Heap} {KPT CK C CBR CNP CNN CM CDL CSE c0 PT : Addr} {TS : List (Addr × Str)} {kk dp c ca c' : Nat} {spRec : Sp}
theorem sc_latt : FnScope ["_law_bag_here", "_law_keeper", "_law_state", "_law_depth", "_law_before", "_law_end", "_law_deeds", "_law_calls", "_law_action", "_law_told"] ["_law_bag_here", "_law_keeper", "_law_state", "_law_depth"] (defScope s_latt) := ⟨rfl, rfl, rfl, by decide +kernel, rfl, by decide +kernel, by decide +kernel⟩
theorem ok_latt {f : Addr} {fd : FuncData} (F : Fun K "_law_attempt" "_law_attempt" s_latt f fd) (hc : fd.code = .ref c0) (T : TxtKe K mg KPT CK) (knf : PySem.W.notFirst K CK (.ref CK) = true) (nKE : mg "KeyError" = none) (h8 : 8 ≤ kk) (hca : 5 * (c' + 2) + 10 ≤ ca) (hcc : ca + 2 ≤ c) (h40 : 40 ≤ c') (MKeq : Me P w K mg base CX0 1 CK "__eq__" (spKEq TS CK)) (PRtable : Pr P w K mg base CX0 1 CK "table" (spTable K CK)) (Dtake : Cl P w K mg base CX0 1 "_law_take" spTake) (Dof : Cl P w K mg base CX0 2 "_law_of" (spOf K))
    (Ddeed : Cl P w K mg base CX0 6 "_law_deed" (spDeed TS CK)) (Drdeed : Cl P w K mg base (L2.CX P w) 7 "_law_refused_deed" (spRDeed TS CK CBR CNP CNN CM)) (Dcaught : Cl P w K mg base CX0 8 "_law_caught" (spCaught TS CK)) (Dlatt : Cl P w K mg base CX0 kk "_law_attempt" spRec) (hrec : dp < 3 → ∀ vs H Q E, spLatt TS CK (dp + 1) c' vs H Q E → spRec vs H Q E)
    (hex : ∀ CE ∈ [CBR, CNP, CNN, CM], PySem.W.exmOne K (.ref CE) (.ref CSE) = some true) (hexO : PySem.W.exmOne K (.type "KeyError") (.ref CSE) = some false) (MKattempt : Me P w K mg base (L2.CX P w) (kk + 4) CK "attempt" (spAtt (kk + 1) P w K mg base TS CK CSE)) (TB : TabB base mg c0 PT) (hmT : (PT, ndQ "_law_attempt" (defScope s_latt) "_law_action") ∈ TS) (hu : ∀ p ∈ TS, p.1 = PT → p.2 = ndQ "_law_attempt" (defScope s_latt) "_law_action") :
    FnR P w K mg base CX0 (kk + 5) f (spLatt TS CK dp c) := by
  refine fnrC F hc sc_latt (fun vs H Q E h => ?_) (fun _ _ _ _ _ _ us hl => match us, hl with | [_, _, _, _], _ => rfl) (fun A outer s H vs Q E hr h => ?_)
  · obtain ⟨b, x, q, S, pr, n, nms, rows, rfl, _⟩ := h
    rfl
  · obtain ⟨b, x, q, S, pr, n, nms, rows, rfl, hb, hn, st, nm, sb, hT, k⟩ := h
    refine ⟨_, (pss_cons (ps_asg (pe_tup (pa_cons (pe_ix ix_list (pv 2) pe_int (fun _ _ => rfl)) (pa_cons (pe_cl Dof hr (by omega) (by rfl) pass0 (pa_cons (pv 0) (pa_cons (pe_lst (pa_cons pe_str (pa_cons pe_str (pa_cons pe_str pa_nil)))) pa_nil))) (pa_cons (pe_cl Dtake hr (by omega) (by rfl) pass0 (pa_cons (pv 0) (pa_cons pe_int pa_nil))) pa_nil)))) (pg_tup rfl (pgs_cons (pg_name (i := 4) sc_latt.nd rfl (Or.inl rfl)) (pgs_cons (pg_name (i := 5) sc_latt.nd rfl (Or.inr rfl)) (pgs_cons (pg_name (i := 6) sc_latt.nd rfl (Or.inr rfl)) pgs_nil)))))
      (pss_cons (ps_set (i := 7) sc_latt.nd rfl (Or.inr rfl) (pe_lst pa_nil))
      (pss_cons (ps_ndefT (st := s_act) (i := 8) (by rfl) TB (by rfl) hmT (by rfl) hu (ndef_free (sc := defScope s_latt) (nsc := C8.fnScope s_act) (fr := ["_law_calls", "_law_keeper", "_law_deeds", "_law_bag_here", "_law_depth", "_law_state", "_law_end"]) (by decide +kernel)) rfl rfl (by rfl) sc_latt.nd rfl (Or.inl rfl) (Or.inl rfl))
      (C8.pss_cut (ps_try_only (c := .type "KeyError") rfl rfl (names_blt (by rfl) nKE boot_KeyError) takes_none5 (fun W pn xe tk hp => pss_one (ps_set (i := 9) sc_latt.nd rfl (Or.inl rfl) (pe_moFS (P := P) (w := w) (K := K) (mg := mg) (base := base) (fr := ["_law_calls", "_law_keeper", "_law_deeds", "_law_bag_here", "_law_depth", "_law_state", "_law_end"]) (js := [7, 1, 6, 0, 3, 2, 5]) (by rfl) (by rfl) (by rfl) (by rfl) (by rfl) (by rfl) (by rfl) (List.forall_mem_cons.mpr ⟨by rfl, List.forall_mem_cons.mpr ⟨by rfl, List.forall_mem_cons.mpr ⟨by rfl, List.forall_mem_cons.mpr ⟨by rfl, List.forall_mem_cons.mpr ⟨by rfl, List.forall_mem_cons.mpr ⟨by rfl, List.forall_mem_cons.mpr ⟨by rfl, fun _ z => nomatch z⟩⟩⟩⟩⟩⟩⟩) (List.forall_mem_cons.mpr ⟨by rfl, List.forall_mem_cons.mpr ⟨by rfl, List.forall_mem_cons.mpr ⟨by rfl, List.forall_mem_cons.mpr ⟨by rfl, List.forall_mem_cons.mpr ⟨by rfl, List.forall_mem_cons.mpr ⟨by rfl, List.forall_mem_cons.mpr ⟨by rfl, fun _ z => nomatch z⟩⟩⟩⟩⟩⟩⟩) (by decide) (pv 1) T.ck MKattempt hr (by omega) (fun σ => passAt tk σ) (pa_cons (pv 8) pa_nil)))) (fun a oe cls d pn _ _ => pss_one (ps_set (i := 9) sc_latt.nd rfl (Or.inl rfl) pe_str)))
      (C8.pss_cut (ps_if (pt_cmpR op_ne (pv 5) pe_str (nomark _)) (pss_one (ps_asg (pv 4) (pg_sub (pv 2) pe_int set_list))) pss_nil)
      (pss_cons (ps_asg (pe_and (pe_ix ix_list (pv 2) pe_int (fun _ _ => rfl)) (pe_one (pe_cmpR op_eq (pv 9) (pe_dget (hu_of hr) (pe_disp (pps_cons pe_str pe_bl (pps_cons pe_str pe_bl (pps_cons pe_str pe_str pps_nil))) (by rfl) (by rfl) (fun z => by cases z) (by decide)) (pv 5) (fun _ _ => rfl)) (nomark _)))) (pg_sub (pv 2) pe_int set_list))
      (pss_cons (ps_asg (pe_and (pe_ix ix_list (pv 2) pe_int (fun _ _ => rfl)) (pe_one (pe_cmpR op_eq (pe_callB call_isi (by rfl) T.n_isinstance (by decide +kernel) (pa_cons (pv 9) (pa_cons (pe_bltn (v := .ty "bool") (by rfl) T.n_bool (by decide +kernel) rfl) pa_nil))) (pe_cmpR op_ne (pv 5) pe_str (nomark _)) (nomark _)))) (pg_sub (pv 2) pe_int set_list))
      (pss_one (ps_asg (pe_and (pe_ix ix_list (pv 2) pe_int (fun _ _ => rfl)) (pe_and (pe_cmpR (op_eqD hr.units) (pv 7) (pe_lst (pa_cons pe_bl pa_nil)) (nomark _)) (pe_one (pe_cmpR (op_eqD hr.units) (pe_pr PRtable hr (by omega) pass0 (pv 1)) (pe_ix ix_list (pv 2) pe_int (fun _ _ => rfl)) (nomark _))))) (pg_sub (pv 2) pe_int set_list)))))))))), ?_⟩
    walk_at "rd"
    refine ⟨S, _, 0, .ref pr, rfl, rfl, SqL.of st.hs, rfl, ?_⟩
    walk_at "rd"
    refine ⟨by show 3 ≤ sizeLine; decide, fun lp hlp => ?_⟩
    generalize hXX : upd _ lp _ = H1
    obtain ⟨e1, h1⟩ := new_facts (TS := TS) hXX hlp
    clear hXX
    walk_at "rs"
    refine of_ok (TS := TS) (n := n) (show BagB H1 b n from (by walk_at "t")) h1 (show NeH H lp b from (by walk_at "ne")) (by omega) (by show 0 < 3; decide) (by show 3 ≤ 100000; decide) fun jx vx H2 hjx e2 b2 => ?_
    obtain ⟨en, hvx, hen⟩ : ∃ en : Str, vx = .str en ∧ (en = "done" ∨ en = "refused" ∨ en = "other") := by
      have hm := List.mem_of_getElem? hjx
      simp only [List.mem_cons, List.not_mem_nil, or_false] at hm
      rcases hm with h | h | h
      · exact ⟨_, h, .inl rfl⟩
      · exact ⟨_, h, .inr (.inl rfl)⟩
      · exact ⟨_, h, .inr (.inr rfl)⟩
    subst hvx
    walk_at "rd"
    refine take_ok (TS := TS) b2 (by omega) (by decide) (by decide) fun dd H3 dd0 dd1 e3 b3 => ?_
    obtain ⟨dd, rfl⟩ := Int.eq_ofNat_of_zero_le dd0
    have hdd : dd < 5 := by omega
    walk_at "rd"
    refine ⟨by show 3 ≤ sizeLine; decide, fun t0 ht0 => ?_⟩
    generalize hXX : upd _ t0 _ = H4
    obtain ⟨e4, h4⟩ := new_facts (TS := TS) hXX ht0
    clear hXX
    walk_at "rs"
    refine ⟨t0, _, rfl, SqT.of h4, rfl, ?_⟩
    walk_at "rd"
    refine ⟨by show 0 ≤ sizeLine; decide, fun cl hcl => ?_⟩
    generalize hXX : upd _ cl _ = H5
    obtain ⟨e5, h5⟩ := new_facts (TS := TS) hXX hcl
    clear hXX
    walk_at "rs"
    walk_at "rd"
    have T5 : Tabs TS H5 := (by walk_at "t")
    have b5 : BagB H5 b (n + 2) := (by walk_at "t")
    have E05 : Ev TS [b] H H5 := (by walk_at "e")
    refine ⟨T5, fun fa ca6 H6 xx6 t6 nf hf6 hca6 => ?_⟩
    have e6 : Ev TS [] H5 H6 := Ev.ext xx6 t6
    have E06 : Ev TS [b] H H6 := E05.trans e6 trivial
    have st6 : S76 CK H6 b x q S pr nms rows := st.ev sb (isL.bag hb) E06
    have b6 : BagB H6 b (n + 2) := ev_bag e6 b5 trivial
    have hcl6 : H6 cl = some (.lst []) := ev_lst e6 h5 trivial
    have nacl : NA H cl := NA.of hcl |> fun z y => z (y.ev (show Ev TS [b] H H4 from (by walk_at "e")))
    have clb : cl ≠ b := fun z => nacl (z ▸ Al.bag hb)
    have clq : cl ≠ q := fun z => by
      obtain ⟨_, hq⟩ := st.qlst
      exact nacl (z ▸ Al.lst hq)
    have clS : cl ≠ S := fun z => nacl (z ▸ Al.lst st.hs)
    have clp : cl ≠ pr := fun z => nacl (z ▸ Al.lr st.lr)
    clear e1 h1 e2 b2 e3 b3 e4 h4 e5 h5 b5 E05 xx6 T5 hcl
    refine ⟨fun σ' H' => ∃ (q' pS : Addr) (rows' : List (List Int)) (told : V), σ' = [some (.ref b), some (.ref x), some (.ref S), some (.int (dp : Int)), some (.ref pr), some (.str en), some (.int (dd : Int)), some (.ref cl), some (.ref fa), some told] ∧ Ev TS [b, x, q, S, cl] H6 H' ∧ BagB H' b (n + 2 + ca) ∧ KQ CK H' x q' nms rows' ∧ H' S = some (.lst [.ref pS, .bl true]) ∧ H' cl = some (.lst [.bl true]) ∧ (q' = q ∨ NA H6 q') ∧
      ((en = "done" ∧ told = .bl true ∧ S76 CK H' b x q' S pS nms rows') ∨ (en ≠ "done" ∧ rows' = rows ∧ ((en = "refused" ∧ told = .bl false) ∨ (en = "other" ∧ told = .str "other")))), ?_, ?_⟩
    · walk_at "rd"
      obtain ⟨dx6, qn6, rs6, hx6, _⟩ := id st6.kq
      refine ⟨x, dx6, _, rfl, hx6, kfs_no qn6 q (by decide +kernel) (by decide +kernel), ?_⟩
      walk_at "rd"
      refine fun cs hW ndc fr0 nc => ?_
      have lk6 : LkOk (lkH H6 cs) cs := lk_ok ndc
      have eL : Ev TS [] H6 (lkH H6 cs) := ev_lk fr0
      have hFa := fa_of (nok_act (f := fa) (cc := ca6) T knf nKE h8 hca h40 MKeq PRtable Dtake Ddeed Drdeed Dcaught Dlatt hrec) sc_act rfl hW ndc (by decide) (lk_ext fr0 hf6) (lk_ext fr0 hca6) lk6
      have stL := st6.lk fr0
      have post : ∀ {Ha Hb : Hp}, LkOk Ha cs → FrOk Hb cs → Post76 TS CK (unH Ha cs) b x q S cl (n + 2 + ca) nms Hb → Ev TS (x :: [b, q, S, cl]) Ha (lkH Hb cs) ∧ KpAt CK (lkH Hb cs) x nms ∧ Rest76 (lkH Hb cs) b S cl (n + 2 + ca) ∧ ∃ q' pr' rows', S76 CK (lkH Hb cs) b x q' S pr' nms rows' ∧ (q' = q ∨ NA Ha q') := fun {Ha Hb} lkA frb ⟨q', pr', rows', ep, bp, sp, hqp, hclp⟩ => by
        have spl := sp.lk frb
        obtain ⟨_, hq⟩ := sp.qlst
        refine ⟨(ev_relk lkA nc ndc ep frb).mono fun y hy => ?_, KpAt.of spl.kq, ⟨ev_bag (TS := TS) (ev_lk frb) bp trivial, ⟨pr', spl.hs⟩, lk_ext frb hclp⟩, q', pr', rows', spl, hqp.imp id fun z => na_of_un lkA (lst_nin frb hq) z⟩
        simp only [List.mem_cons, List.not_mem_nil, or_false] at hy ⊢
        rcases hy with z | z | z | z | z <;> simp [z]
      have toM : ∀ {H4 : Hp}, Ev TS (x :: [b, q, S, cl]) (lkH H6 cs) H4 → LkOk H4 cs → Ev TS [b, x, q, S, cl] H6 (unH H4 cs) := fun {H4} e4 lk4 => (ev_un fr0 nc eL e4 lk4).mono fun y hy => by
        simp only [List.mem_cons, List.not_mem_nil, or_false] at hy ⊢
        rcases hy with z | z | z | z | z <;> simp [z]
      refine ⟨x, fa, q, nms, rows, _, [b, q, S, cl], fun Ha Hb => en = "done" ∧ Rest76 Hb b S cl (n + 2 + ca) ∧ ∃ q' pr' rows', S76 CK Hb b x q' S pr' nms rows' ∧ (q' = q ∨ NA Ha q'), fun _ Hb => en = "refused" ∧ Rest76 Hb b S cl (n + 2 + ca), fun cls _ _ Hb => en = "other" ∧ cls = .type "KeyError" ∧ Rest76 Hb b S cl (n + 2 + ca), rfl, stL.kq, by have := st.hl; omega, ?_, hFa, ?_, ?_, ?_, ?_, ?_, ?_⟩
      · intro p hp
        simp only [List.mem_cons, List.not_mem_nil, or_false] at hp
        obtain ⟨_, hql⟩ := stL.qlst
        rcases hp with rfl | rfl | rfl | rfl
        · exact Al.bag (ev_bag eL b6 trivial)
        · exact Al.lst hql
        · exact Al.lst stL.hs
        · exact Al.lst (ev_lst eL hcl6 trivial)
      · rintro H2 H3 H4 ⟨h1, h2⟩ kp e
        exact ⟨h1, h2.ev kp e⟩
      · rintro cls d H2 H3 H4 ⟨h0, h1, h2⟩ kp e
        exact ⟨h0, h1, h2.ev kp e⟩
      · intro Ha Q2 E2 ea hv he ho
        have lkA : LkOk Ha cs := fun p hp => ea.ext_ (lk6 p hp)
        have stA := stL.ev0 ea
        refine ⟨b, x, q, S, pr, cl, n + 2, dd, en, nms, rows, rfl, rfl, hdd, bag_un lkA (ev_bag ea (ev_bag eL b6 trivial) trivial), by omega, stA.un lkA, nm, sb, tabs_un lkA nc (ev_tabs ea (ev_tabs eL t6)), un_at lkA (ev_lst ea (ev_lst eL hcl6 trivial) trivial) (fun φ z => by cases z), clb, clq, clS, clp, fun h1 h2 v Hb pp frb => ?_, fun h1 CE d Hb hCE pp frb => ?_, fun h1 d Hb pp frb => ?_⟩
        · obtain ⟨ev, kp, rest, z⟩ := post lkA frb pp
          exact hv v _ ev ⟨hen.elim id fun y => (y.elim (fun y => absurd y h1) fun y => absurd y h2), rest, z⟩
        · obtain ⟨ev, kp, rest, z⟩ := post lkA frb pp
          exact he CE d _ (hex CE hCE) ev kp ⟨h1, rest⟩
        · obtain ⟨ev, kp, rest, z⟩ := post lkA frb pp
          exact ho _ d _ (.inr ⟨_, rfl⟩) hexO ev kp ⟨h1, rfl, rest⟩
      · rintro Ha H4 ea e4 ⟨hd, ⟨r1, ⟨pS, r2⟩, r3⟩, q', pr', rows', st4, hq4⟩
        have lk4 : LkOk H4 cs := fun p hp => e4.ext_ (lk6 p hp)
        refine ⟨lk4, ?_⟩
        have st5 := st4.un lk4
        exact ⟨q', pr', rows', _, rfl, toM e4 lk4, bag_un lk4 r1, st5.kq, st5.hs, un_at lk4 r3 (fun φ z => by cases z), hq4.imp id (fun z al => z ((al.ev eL).ev ea)), .inl ⟨hd, rfl, st5⟩⟩
      · rintro m Ha H4 nm4 alm ea ⟨hd, r1, ⟨pS, r2⟩, r3⟩ e4 kq4
        have lk4 : LkOk H4 cs := fun p hp => e4.ext_ (lk6 p hp)
        refine ⟨lk4, ?_⟩
        exact ⟨m, pS, rows, _, rfl, toM e4 lk4, bag_un lk4 r1, kq_un lk4 kq4, un_at lk4 r2 (fun φ z => by cases z), un_at lk4 r3 (fun φ z => by cases z), .inr (fun al => nm4 (al.ev eL)), .inr ⟨by rw [hd]; decide, rfl, .inl ⟨hd, rfl⟩⟩⟩
      · rintro cls d m Ha H4 nm4 alm ea ⟨hd, rfl, r1, ⟨pS, r2⟩, r3⟩ e4 kq4
        have lk4 : LkOk H4 cs := fun p hp => e4.ext_ (lk6 p hp)
        refine ⟨lk4, true, exm_KE, fun _ ax na => ?_, fun z => by cases z⟩
        walk_at "rd"
        exact ⟨m, pS, rows, _, rfl, toM e4 lk4, bag_un lk4 r1, kq_un lk4 kq4, un_at lk4 r2 (fun φ z => by cases z), un_at lk4 r3 (fun φ z => by cases z), .inr (fun al => nm4 (al.ev eL)), .inr ⟨by rw [hd]; decide, rfl, .inr ⟨hd, rfl⟩⟩⟩
    rintro σ' G ⟨q', pS, rows', told, rfl, eG, bG, kqG, hSG, hclG, hqG, hcase⟩
    have alS : Al H6 S := Al.lst st6.hs
    have sq' : S ≠ q' := hqG.elim (fun z => z ▸ st6.sq) fun z e => z (e ▸ alS)
    have bq' : b ≠ q' := hqG.elim (fun z => z ▸ st6.bq) fun z e => z (e ▸ Al.bag b6)
    have clq' : cl ≠ q' := hqG.elim (fun z => z ▸ clq) fun z e => z (e ▸ Al.lst hcl6)
    have pq' : pr ≠ q' := hqG.elim (fun z => z ▸ st6.pq) fun z e => z (e ▸ Al.lr st6.lr)
    have lrG : LR G pr rows := ev_lr eG st6.lr ⟨st6.pb, neLI (isL.lr st6.lr) st6.kq.isI, st6.pq, st6.ps, clp.symm, trivial⟩
    refine ⟨fun σ' H' => ∃ pT rowsT, σ' = [some (.ref b), some (.ref x), some (.ref S), some (.int (dp : Int)), some (.ref pr), some (.str en), some (.int (dd : Int)), some (.ref cl), some (.ref fa), some told] ∧ Ev TS [S] G H' ∧ S76 CK H' b x q' S pT nms rowsT ∧ ((en = "done" ∧ told = .bl true) ∨ (en = "refused" ∧ told = .bl false) ∨ (en = "other" ∧ told = .str "other")), ?_, ?_⟩
    · walk_at "rd"
      rcases hcase with ⟨rfl, rfl, stG⟩ | ⟨hnd, rfl, ho⟩
      · refine ifF (by rfl) ?_
        walk_at "rd"
        exact ⟨pS, rows', rfl, Ev.refl _ _, stG, .inl ⟨rfl, rfl⟩⟩
      · have done : ∀ G4, Ev TS [S] G G4 → G4 S = some (.lst [.ref pr, .bl true]) → S76 CK G4 b x q' S pr nms rows' := fun G4 e4 h4 => S76.mk' hSG e4 h4 kqG lrG st6.wf st6.hl bq' sq' st6.pb pq' st6.ps
        rcases ho with ⟨rfl, rfl⟩ | ⟨rfl, rfl⟩
        · refine ifT (by rfl) ?_
          walk_at "rd"
          refine a_setL (TS := TS) (j := 0) hSG (by show 0 < 2; decide) fun G4 e4 h4 => ?_
          exact ⟨pr, rows', rfl, e4, done G4 e4 h4, .inr (.inl ⟨rfl, rfl⟩)⟩
        · refine ifT (by rfl) ?_
          walk_at "rd"
          refine a_setL (TS := TS) (j := 0) hSG (by show 0 < 2; decide) fun G4 e4 h4 => ?_
          exact ⟨pr, rows', rfl, e4, done G4 e4 h4, .inr (.inr ⟨rfl, rfl⟩)⟩
    clear hcase kqG hSG lrG
    rintro σ' G4 ⟨pT, rowsT, rfl, e4, st4, hcase⟩
    have b4 : BagB G4 b (n + 2 + ca) := ev_bag e4 bG ⟨sb.symm, trivial⟩
    have hcl4 : G4 cl = some (.lst [.bl true]) := ev_lst e4 hclG ⟨clS, trivial⟩
    have E64 : Ev TS [b, x, q, S, cl] H6 G4 := eG.trans e4 ⟨.inl (by simp), trivial⟩
    have E4 : Ev TS [b, x, q, S] H G4 := (E06.mono (L1 := [b, x, q, S]) fun y hy => by rw [List.mem_singleton.mp hy]; simp).trans E64 ⟨.inl (by simp), .inl (by simp), .inl (by simp), .inl (by simp), .inr nacl, trivial⟩
    have hq4 : q' = q ∨ NA H q' := hqG.imp id fun z al => z (al.ev E06)
    rcases hcase with ⟨rfl, rfl⟩ | ⟨rfl, rfl⟩ | ⟨rfl, rfl⟩
    · skip
      walk_at "rd"
      refine ⟨S, _, 1, .bl true, rfl, rfl, SqL.of st4.hs, rfl, ?_⟩
      walk_at "rd"
      refine fun pd hpd => ?_
      generalize hXX : upd _ pd _ = H7
      obtain ⟨e7, h7⟩ := new_facts (TS := TS) hXX hpd
      clear hXX
      walk_at "rs"
      refine ⟨h7, [(.inr "done", .bl true), (.inr "refused", .bl false), (.inr "other", .str "other")], rfl, by show 3 ≤ 15; decide, ?_⟩
      generalize hXX : upd _ pd _ = H8
      obtain ⟨e8, h8⟩ := setD_facts (TS := TS) hXX h7
      clear hXX
      walk_at "rs"
      walk_at "rd"
      have hv : valV (mergeK [] [((.inr "done" : Key), V.bl true), (.inr "refused", .bl false), (.inr "other", .str "other")]) (.inr ENdone) = some VALdone := by decide +kernel
      refine ⟨pd, _, rfl, hv ▸ DGet.k (k := .inr ENdone) h8, ?_⟩
      refine ⟨by rfl, ?_⟩
      rw [decide_eq_true rfl]
      walk_at "rd"
      have hs8 : H8 S = some (.lst [.ref pT, .bl true]) := ev_lst e8 (ev_lst e7 st4.hs trivial) ⟨(fun z => by rw [← z, st4.hs] at hpd; cases hpd), trivial⟩
      refine a_setL (TS := TS) (j := 1) hs8 (by show 1 < 2; decide) fun H9 e9 h9 => ?_
      walk_at "rd"
      refine ⟨S, _, 1, .bl true, rfl, rfl, SqL.of h9, rfl, ?_⟩
      walk_at "rd"
      refine ⟨VALdone, .ty "bool", .type TYNb, .type "bool", ISIt, rfl, .ty "bool", TYXdone, by rfl, ?_⟩
      walk_at "rd"
      have hd9 : (decide (V.bl ISIt = V.bl !decide (V.str ENdone = V.str (Str.ofString "other")))) = true := by decide +kernel
      rw [hd9]
      refine a_setL (TS := TS) (j := 1) h9 (by show 1 < 2; decide) fun H10 e10 h10 => ?_
      walk_at "rd"
      have st8 := (st4.ev0 e7).mk8 e8 (fun z => by rw [← z] at hpd; obtain ⟨_, g⟩ := st4.qlst; rw [g] at hpd; cases hpd) (fun z => by rw [← z] at hpd; obtain ⟨_, _, _, g, _⟩ := st4.kq; rw [g] at hpd; cases hpd) (fun z => by rw [← z, st4.hs] at hpd; cases hpd) (fun z => by rw [← z] at hpd; obtain ⟨_, g, _⟩ := st4.lr; rw [g] at hpd; cases hpd)
      have st9 := st8.put e9 h9 st8.kq st8.lr st8.wf st8.hl st8.bq st8.sq st8.pb st8.pq st8.ps
      have st10 := st9.put e10 h10 st9.kq st9.lr st9.wf st9.hl st9.bq st9.sq st9.pb st9.pq st9.ps
      have e910 : Ev TS [S] H8 H10 := e9.trans e10 ⟨.inl List.mem_cons_self, trivial⟩
      have hcl10 : H10 cl = some (.lst [.bl true]) := ev_lst e910 (ev_lst e8 (ev_lst e7 hcl4 trivial) ⟨(fun z => by rw [← z, hcl4] at hpd; cases hpd), trivial⟩) ⟨clS, trivial⟩
      refine ⟨S, _, 1, .bl true, rfl, rfl, SqL.of st10.hs, rfl, ?_⟩
      walk_at "rd"
      refine ⟨by show 1 ≤ sizeLine; decide, fun p11 hp11 => ?_⟩
      generalize hXX : upd _ p11 _ = H11
      obtain ⟨e11, h11⟩ := new_facts (TS := TS) hXX hp11
      clear hXX
      walk_at "rs"
      refine a_eqD (.lst (SqL.of (ev_lst e11 hcl10 trivial)) (.cons (.bl true) .nil)) (.lst (SqL.of h11) (.cons (.bl true) .nil)) rfl rfl ?_
      rw [show PyData.eqv (.list [.bool true]) (.list [.bool true]) = true from rfl]
      walk_at "rd"
      have st11 := st10.ev0 e11
      obtain ⟨dx11, qn11, rs11, hx11, _⟩ := id st11.kq
      refine ⟨x, dx11, _, rfl, hx11, ktable_ok (TS := TS) st11.kq fun p12 H12 np12 e12 lr12 => ?_⟩
      walk_at "rd"
      have st12 := st11.ev0 e12
      refine ⟨S, _, 0, .ref pT, rfl, rfl, SqL.of st12.hs, rfl, ?_⟩
      walk_at "rd"
      refine a_eqR (r1 := rowsT) (r2 := rowsT) lr12 st12.lr ?_
      rw [decide_eq_true rfl]
      walk_at "rd"
      refine a_setL (TS := TS) (j := 1) st12.hs (by show 1 < 2; decide) fun H13 e13 h13 => ?_
      have st13 := st12.put e13 h13 st12.kq st12.lr st12.wf st12.hl st12.bq st12.sq st12.pb st12.pq st12.ps
      have e8' : Ev TS [] G4 H8 := ⟨fun p o h f n => e8.st p o (e7.st p o h (fun z => nomatch z) n) (fun z => absurd (List.mem_singleton.mp z) fun z => by rw [z] at h; rw [h] at hpd; cases hpd) n, fun p o h n => ⟨o, e8.st p o (e7.st p o h (fun z => nomatch z) n) (fun z => absurd (List.mem_singleton.mp z) fun z => by rw [z] at h; rw [h] at hpd; cases hpd) n, Kin.refl o⟩, fun t => e8.tb (e7.tb t)⟩
      have e413 : Ev TS [S] G4 H13 := (e8'.mono (L1 := [S]) fun _ z => nomatch z).trans (e910.trans (((e11.trans e12 trivial).mono (L1 := [S]) fun _ z => nomatch z).trans e13 ⟨.inl List.mem_cons_self, trivial⟩) ⟨.inl List.mem_cons_self, trivial⟩) ⟨.inl List.mem_cons_self, trivial⟩
      exact k q' pT rowsT H13 (E4.trans e413 ⟨.inl (by simp), trivial⟩) ((ev_bag e413 b4 ⟨sb.symm, trivial⟩).mono (by omega)) st13 hq4
    · skip
      walk_at "rd"
      refine ⟨S, _, 1, .bl true, rfl, rfl, SqL.of st4.hs, rfl, ?_⟩
      walk_at "rd"
      refine fun pd hpd => ?_
      generalize hXX : upd _ pd _ = H7
      obtain ⟨e7, h7⟩ := new_facts (TS := TS) hXX hpd
      clear hXX
      walk_at "rs"
      refine ⟨h7, [(.inr "done", .bl true), (.inr "refused", .bl false), (.inr "other", .str "other")], rfl, by show 3 ≤ 15; decide, ?_⟩
      generalize hXX : upd _ pd _ = H8
      obtain ⟨e8, h8⟩ := setD_facts (TS := TS) hXX h7
      clear hXX
      walk_at "rs"
      walk_at "rd"
      have hv : valV (mergeK [] [((.inr "done" : Key), V.bl true), (.inr "refused", .bl false), (.inr "other", .str "other")]) (.inr ENrefused) = some VALrefused := by decide +kernel
      refine ⟨pd, _, rfl, hv ▸ DGet.k (k := .inr ENrefused) h8, ?_⟩
      refine ⟨by rfl, ?_⟩
      rw [decide_eq_true rfl]
      walk_at "rd"
      have hs8 : H8 S = some (.lst [.ref pT, .bl true]) := ev_lst e8 (ev_lst e7 st4.hs trivial) ⟨(fun z => by rw [← z, st4.hs] at hpd; cases hpd), trivial⟩
      refine a_setL (TS := TS) (j := 1) hs8 (by show 1 < 2; decide) fun H9 e9 h9 => ?_
      walk_at "rd"
      refine ⟨S, _, 1, .bl true, rfl, rfl, SqL.of h9, rfl, ?_⟩
      walk_at "rd"
      refine ⟨VALrefused, .ty "bool", .type TYNb, .type "bool", ISIt, rfl, .ty "bool", TYXref, by rfl, ?_⟩
      walk_at "rd"
      have hd9 : (decide (V.bl ISIt = V.bl !decide (V.str ENrefused = V.str (Str.ofString "other")))) = true := by decide +kernel
      rw [hd9]
      refine a_setL (TS := TS) (j := 1) h9 (by show 1 < 2; decide) fun H10 e10 h10 => ?_
      walk_at "rd"
      have st8 := (st4.ev0 e7).mk8 e8 (fun z => by rw [← z] at hpd; obtain ⟨_, g⟩ := st4.qlst; rw [g] at hpd; cases hpd) (fun z => by rw [← z] at hpd; obtain ⟨_, _, _, g, _⟩ := st4.kq; rw [g] at hpd; cases hpd) (fun z => by rw [← z, st4.hs] at hpd; cases hpd) (fun z => by rw [← z] at hpd; obtain ⟨_, g, _⟩ := st4.lr; rw [g] at hpd; cases hpd)
      have st9 := st8.put e9 h9 st8.kq st8.lr st8.wf st8.hl st8.bq st8.sq st8.pb st8.pq st8.ps
      have st10 := st9.put e10 h10 st9.kq st9.lr st9.wf st9.hl st9.bq st9.sq st9.pb st9.pq st9.ps
      have e910 : Ev TS [S] H8 H10 := e9.trans e10 ⟨.inl List.mem_cons_self, trivial⟩
      have hcl10 : H10 cl = some (.lst [.bl true]) := ev_lst e910 (ev_lst e8 (ev_lst e7 hcl4 trivial) ⟨(fun z => by rw [← z, hcl4] at hpd; cases hpd), trivial⟩) ⟨clS, trivial⟩
      refine ⟨S, _, 1, .bl true, rfl, rfl, SqL.of st10.hs, rfl, ?_⟩
      walk_at "rd"
      refine ⟨by show 1 ≤ sizeLine; decide, fun p11 hp11 => ?_⟩
      generalize hXX : upd _ p11 _ = H11
      obtain ⟨e11, h11⟩ := new_facts (TS := TS) hXX hp11
      clear hXX
      walk_at "rs"
      refine a_eqD (.lst (SqL.of (ev_lst e11 hcl10 trivial)) (.cons (.bl true) .nil)) (.lst (SqL.of h11) (.cons (.bl true) .nil)) rfl rfl ?_
      rw [show PyData.eqv (.list [.bool true]) (.list [.bool true]) = true from rfl]
      walk_at "rd"
      have st11 := st10.ev0 e11
      obtain ⟨dx11, qn11, rs11, hx11, _⟩ := id st11.kq
      refine ⟨x, dx11, _, rfl, hx11, ktable_ok (TS := TS) st11.kq fun p12 H12 np12 e12 lr12 => ?_⟩
      walk_at "rd"
      have st12 := st11.ev0 e12
      refine ⟨S, _, 0, .ref pT, rfl, rfl, SqL.of st12.hs, rfl, ?_⟩
      walk_at "rd"
      refine a_eqR (r1 := rowsT) (r2 := rowsT) lr12 st12.lr ?_
      rw [decide_eq_true rfl]
      walk_at "rd"
      refine a_setL (TS := TS) (j := 1) st12.hs (by show 1 < 2; decide) fun H13 e13 h13 => ?_
      have st13 := st12.put e13 h13 st12.kq st12.lr st12.wf st12.hl st12.bq st12.sq st12.pb st12.pq st12.ps
      have e8' : Ev TS [] G4 H8 := ⟨fun p o h f n => e8.st p o (e7.st p o h (fun z => nomatch z) n) (fun z => absurd (List.mem_singleton.mp z) fun z => by rw [z] at h; rw [h] at hpd; cases hpd) n, fun p o h n => ⟨o, e8.st p o (e7.st p o h (fun z => nomatch z) n) (fun z => absurd (List.mem_singleton.mp z) fun z => by rw [z] at h; rw [h] at hpd; cases hpd) n, Kin.refl o⟩, fun t => e8.tb (e7.tb t)⟩
      have e413 : Ev TS [S] G4 H13 := (e8'.mono (L1 := [S]) fun _ z => nomatch z).trans (e910.trans (((e11.trans e12 trivial).mono (L1 := [S]) fun _ z => nomatch z).trans e13 ⟨.inl List.mem_cons_self, trivial⟩) ⟨.inl List.mem_cons_self, trivial⟩) ⟨.inl List.mem_cons_self, trivial⟩
      exact k q' pT rowsT H13 (E4.trans e413 ⟨.inl (by simp), trivial⟩) ((ev_bag e413 b4 ⟨sb.symm, trivial⟩).mono (by omega)) st13 hq4
    · skip
      walk_at "rd"
      refine ⟨S, _, 1, .bl true, rfl, rfl, SqL.of st4.hs, rfl, ?_⟩
      walk_at "rd"
      refine fun pd hpd => ?_
      generalize hXX : upd _ pd _ = H7
      obtain ⟨e7, h7⟩ := new_facts (TS := TS) hXX hpd
      clear hXX
      walk_at "rs"
      refine ⟨h7, [(.inr "done", .bl true), (.inr "refused", .bl false), (.inr "other", .str "other")], rfl, by show 3 ≤ 15; decide, ?_⟩
      generalize hXX : upd _ pd _ = H8
      obtain ⟨e8, h8⟩ := setD_facts (TS := TS) hXX h7
      clear hXX
      walk_at "rs"
      walk_at "rd"
      have hv : valV (mergeK [] [((.inr "done" : Key), V.bl true), (.inr "refused", .bl false), (.inr "other", .str "other")]) (.inr ENother) = some VALother := by decide +kernel
      refine ⟨pd, _, rfl, hv ▸ DGet.k (k := .inr ENother) h8, ?_⟩
      refine ⟨by rfl, ?_⟩
      rw [decide_eq_true rfl]
      walk_at "rd"
      have hs8 : H8 S = some (.lst [.ref pT, .bl true]) := ev_lst e8 (ev_lst e7 st4.hs trivial) ⟨(fun z => by rw [← z, st4.hs] at hpd; cases hpd), trivial⟩
      refine a_setL (TS := TS) (j := 1) hs8 (by show 1 < 2; decide) fun H9 e9 h9 => ?_
      walk_at "rd"
      refine ⟨S, _, 1, .bl true, rfl, rfl, SqL.of h9, rfl, ?_⟩
      walk_at "rd"
      refine ⟨VALother, .ty "bool", .type TYNs, .type "bool", ISIf, rfl, .ty "bool", TYXother, by rfl, ?_⟩
      walk_at "rd"
      have hd9 : (decide (V.bl ISIf = V.bl !decide (V.str ENother = V.str (Str.ofString "other")))) = true := by decide +kernel
      rw [hd9]
      refine a_setL (TS := TS) (j := 1) h9 (by show 1 < 2; decide) fun H10 e10 h10 => ?_
      walk_at "rd"
      have st8 := (st4.ev0 e7).mk8 e8 (fun z => by rw [← z] at hpd; obtain ⟨_, g⟩ := st4.qlst; rw [g] at hpd; cases hpd) (fun z => by rw [← z] at hpd; obtain ⟨_, _, _, g, _⟩ := st4.kq; rw [g] at hpd; cases hpd) (fun z => by rw [← z, st4.hs] at hpd; cases hpd) (fun z => by rw [← z] at hpd; obtain ⟨_, g, _⟩ := st4.lr; rw [g] at hpd; cases hpd)
      have st9 := st8.put e9 h9 st8.kq st8.lr st8.wf st8.hl st8.bq st8.sq st8.pb st8.pq st8.ps
      have st10 := st9.put e10 h10 st9.kq st9.lr st9.wf st9.hl st9.bq st9.sq st9.pb st9.pq st9.ps
      have e910 : Ev TS [S] H8 H10 := e9.trans e10 ⟨.inl List.mem_cons_self, trivial⟩
      have hcl10 : H10 cl = some (.lst [.bl true]) := ev_lst e910 (ev_lst e8 (ev_lst e7 hcl4 trivial) ⟨(fun z => by rw [← z, hcl4] at hpd; cases hpd), trivial⟩) ⟨clS, trivial⟩
      refine ⟨S, _, 1, .bl true, rfl, rfl, SqL.of st10.hs, rfl, ?_⟩
      walk_at "rd"
      refine ⟨by show 1 ≤ sizeLine; decide, fun p11 hp11 => ?_⟩
      generalize hXX : upd _ p11 _ = H11
      obtain ⟨e11, h11⟩ := new_facts (TS := TS) hXX hp11
      clear hXX
      walk_at "rs"
      refine a_eqD (.lst (SqL.of (ev_lst e11 hcl10 trivial)) (.cons (.bl true) .nil)) (.lst (SqL.of h11) (.cons (.bl true) .nil)) rfl rfl ?_
      rw [show PyData.eqv (.list [.bool true]) (.list [.bool true]) = true from rfl]
      walk_at "rd"
      have st11 := st10.ev0 e11
      obtain ⟨dx11, qn11, rs11, hx11, _⟩ := id st11.kq
      refine ⟨x, dx11, _, rfl, hx11, ktable_ok (TS := TS) st11.kq fun p12 H12 np12 e12 lr12 => ?_⟩
      walk_at "rd"
      have st12 := st11.ev0 e12
      refine ⟨S, _, 0, .ref pT, rfl, rfl, SqL.of st12.hs, rfl, ?_⟩
      walk_at "rd"
      refine a_eqR (r1 := rowsT) (r2 := rowsT) lr12 st12.lr ?_
      rw [decide_eq_true rfl]
      walk_at "rd"
      refine a_setL (TS := TS) (j := 1) st12.hs (by show 1 < 2; decide) fun H13 e13 h13 => ?_
      have st13 := st12.put e13 h13 st12.kq st12.lr st12.wf st12.hl st12.bq st12.sq st12.pb st12.pq st12.ps
      have e8' : Ev TS [] G4 H8 := ⟨fun p o h f n => e8.st p o (e7.st p o h (fun z => nomatch z) n) (fun z => absurd (List.mem_singleton.mp z) fun z => by rw [z] at h; rw [h] at hpd; cases hpd) n, fun p o h n => ⟨o, e8.st p o (e7.st p o h (fun z => nomatch z) n) (fun z => absurd (List.mem_singleton.mp z) fun z => by rw [z] at h; rw [h] at hpd; cases hpd) n, Kin.refl o⟩, fun t => e8.tb (e7.tb t)⟩
      have e413 : Ev TS [S] G4 H13 := (e8'.mono (L1 := [S]) fun _ z => nomatch z).trans (e910.trans (((e11.trans e12 trivial).mono (L1 := [S]) fun _ z => nomatch z).trans e13 ⟨.inl List.mem_cons_self, trivial⟩) ⟨.inl List.mem_cons_self, trivial⟩) ⟨.inl List.mem_cons_self, trivial⟩
      exact k q' pT rowsT H13 (E4.trans e413 ⟨.inl (by simp), trivial⟩) ((ev_bag e413 b4 ⟨sb.symm, trivial⟩).mono (by omega)) st13 hq4
end
end MV

namespace MV
open PySem PySem.Spec PyProof.Rows L2 SB MM LamX
local macro_rules | `(tactic| walk_at "rd") => `(tactic| repeat (first | (refine ⟨_, rfl, ?_⟩) | (refine ⟨_, _, rfl, rfl, ?_⟩) | (refine ⟨_, _, rfl, ?_⟩) | (refine ⟨rfl, ?_⟩) | (with_reducible refine st_nil ?_) | (with_reducible refine st_cons ?_) | (with_reducible refine st_C ?_)))
local macro_rules | `(tactic| walk_at "isL") => `(tactic| first | assumption | (apply isL.of; assumption) | (apply isL.bag; assumption) | (apply isL.lr; assumption) | (apply KQ.isL; assumption) | (apply isL.ev; assumption; walk_at "isL"))
local macro_rules | `(tactic| walk_at "isI") => `(tactic| first | assumption | (apply isI.of; assumption) | (apply KQ.isI; assumption) | (apply MoveAt.isI; assumption) | (apply isI.ev; assumption; walk_at "isI"))
local macro_rules | `(tactic| walk_at "al") => `(tactic| first | assumption | (apply isL.al; walk_at "isL") | (apply isI.al; walk_at "isI") | (apply Al.dK; assumption) | (apply Al.dT; assumption) | (apply Al.ev; assumption; walk_at "al"))
local macro_rules | `(tactic| walk_at "ne") => `(tactic| first | (apply NeH.of; assumption) | (apply NeH.ofs; assumption) | (apply neLI; walk_at "isL"; walk_at "isI") | (apply neIL; walk_at "isI"; walk_at "isL") | (apply Al.ne; assumption; walk_at "al") | (apply Al.ens; assumption; walk_at "al") | (apply NA.ne; assumption; walk_at "al") | (apply NA.ens; assumption; walk_at "al"))
local macro_rules | `(tactic| walk_at "nin") => `(tactic| first | exact trivial | (refine And.intro ?_ ?_; walk_at "ne"; walk_at "nin"))
local macro_rules | `(tactic| walk_at "t") => `(tactic| first | assumption | (apply ev_tup; assumption; walk_at "t") | (apply ev_lst; assumption; walk_at "t"; walk_at "nin") | (apply ev_ins; assumption; walk_at "t"; walk_at "nin") | (apply ev_dK; assumption; walk_at "t"; walk_at "nin") | (apply ev_dT; assumption; walk_at "t"; walk_at "nin") | (apply ev_ra; assumption; walk_at "t") | (apply ev_bag; assumption; walk_at "t"; walk_at "nin") | (apply ev_lr; assumption; walk_at "t"; walk_at "nin") | (apply ev_kq; assumption; walk_at "t"; walk_at "nin"; walk_at "nin") | (apply ev_tabs; assumption; walk_at "t") | (apply ev_fzT; assumption; walk_at "t") | (apply ev_od; assumption; walk_at "t") | (apply ev_odR; assumption; walk_at "t") | (apply ev_cels; assumption; walk_at "t") | (apply ev_move; assumption; walk_at "t"; walk_at "nin") | (apply ev_rt; assumption; walk_at "t") | (apply ev_goodR; assumption; walk_at "t") | (apply ev_rowvs; assumption; walk_at "t") | (apply ev_dm; assumption; walk_at "t")  | (apply SqL.of; walk_at "t") | (apply SqT.of; walk_at "t") | (apply ev_sqT; assumption; walk_at "t") | (apply ev_sqL; assumption; walk_at "t"; walk_at "nin"))
local macro_rules | `(tactic| walk_at "le") => `(tactic| first | exact Le.refl _ | (apply Le.ev; assumption; walk_at "le"))
local macro_rules | `(tactic| walk_at "om") => `(tactic| first | exact Or.inl (List.mem_cons_self) | exact Or.inl (List.mem_cons_of_mem _ List.mem_cons_self) | exact Or.inl (List.mem_cons_of_mem _ (List.mem_cons_of_mem _ List.mem_cons_self)) | (apply Or.inr; apply nal0; assumption) | (apply Or.inr; apply Le.nal; assumption; walk_at "le") | (apply Or.inr; apply Le.na; assumption; walk_at "le"))
local macro_rules | `(tactic| walk_at "out") => `(tactic| first | exact trivial | (refine And.intro ?_ ?_; walk_at "om"; walk_at "out"))
local macro_rules | `(tactic| walk_at "e") => `(tactic| first | assumption | exact Ev.refl _ _ | (apply Ev.trans'; assumption; walk_at "e"; walk_at "out"))
local macro_rules | `(tactic| walk_at "c") => `(tactic| dsimp only [tNil, tCons, tC])
local macro_rules | `(tactic| walk_at "na") => `(tactic| first | assumption | (apply NA.of; assumption) | (apply Le.nal; assumption; walk_at "le") | (apply Le.na; assumption; walk_at "le"))
local macro_rules | `(tactic| walk_at "rs") => `(tactic| repeat (first | (with_reducible refine st_nil ?_) | (with_reducible refine st_cons ?_) | (with_reducible refine st_C ?_)))
local macro_rules | `(tactic| walk_at "rv") => `(tactic| repeat (first | (refine ⟨_, rfl, ?_⟩) | (with_reducible refine st_nil ?_) | (with_reducible refine st_cons ?_) | (with_reducible refine st_C ?_)))
local macro_rules | `(tactic| walk_at "if") => `(tactic| first | refine ifT rfl ?_ | refine ifF rfl ?_ | skip)
abbrev s_law : Stmt := top 42
def spLaw (K : PySem.W.Frag) (T : List (Addr × Str)) : Sp := fun vs H Q _ => ∃ (a : Addr) (ns : List Int), vs = [.ref a] ∧ SqL K H a (ns.map V.int) ∧ ns.length ≤ 63 ∧ Tabs T H ∧ ∀ H', Q (.bl true) H'
theorem NA.down {TS : List (Addr × Str)} {L : List Addr} {H H' : Hp} {p : Addr} (h : NA H' p) (e : Ev TS L H H') : NA H p := fun z => h (z.ev e)
theorem none_no {nms : List Str} {i : Nat} (h : NmsI nms i) (hi : i ≤ 4) : ("none" : Str) ∉ nms := fun z => by
  obtain ⟨m, hm, he⟩ := h.2.2.1 _ z
  have : ("none" : Str).cps.toList.getLast? = some 101 := by decide +kernel
  rw [this] at he
  have := Option.some.inj he
  omega
section
variable {P : Program} {w : World} {K : PySem.W.Frag} {mg : Str → Option Value} {base : Heap} {KPT CK C : Addr} {TS : List (Addr × Str)}
theorem sc_law : FnScope ["_law_script", "_law_number_here", "_law_bag_here", "_law_names", "_law_rows_here", "_law_turn", "_law_keeper", "_law_state", "_law_letter"] ["_law_script"] (defScope s_law) := ⟨rfl, rfl, rfl, by decide +kernel, rfl, by decide +kernel, by decide +kernel⟩
theorem ok_law {f : Addr} {fd : FuncData} (F : Fun K "law" "law" s_law f fd) (T : TxtKe K mg KPT CK) (MKeeper : Ml P w K mg base CX0 6 "Keeper" CK (spKInit K CK)) (PRtable : Pr P w K mg base CX0 1 CK "table" (spTable K CK)) (MKlen : Me P w K mg base CX0 1 CK "__len__" (spKLen K CK))
    (Dbag : Cl P w K mg base CX0 1 "_law_bag" (spBag K)) (Dtake : Cl P w K mg base CX0 1 "_law_take" spTake) (Dcount : Cl P w K mg base CX0 2 "_law_count" spCount) (Dname : Cl P w K mg base CX0 3 "_law_name" spName) (Drows : Cl P w K mg base CX0 3 "_law_rows" spRows)
    (Ddeed : Cl P w K mg base CX0 6 "_law_deed" (spDeed TS CK)) (Dlatt : Cl P w K mg base CX0 23 "_law_attempt" (spLatt TS CK 1 6000)) : FnOk P w K mg base CX0 24 f fd ["_law_script"] (spLaw K TS) := by
  refine F.ok sc_law (fun vs H Q E h => ?_) (fun cdv A outer s H vs Q E hr h => ?_)
  · obtain ⟨a, ns, rfl, _⟩ := h
    rfl
  · obtain ⟨a, ns, rfl, hS, hlen, hT, k⟩ := h
    refine ⟨_, (pss_cons (ps_for PassesOwn.never rfl (pi_range1 (by rfl) T.n_range (pa_cons (pe_callB (call_max2 rfl) (by rfl) T.n_max (by decide +kernel) (pa_cons pe_int (pa_cons (pe_callB (call_min2 rfl) (by rfl) T.n_min (by decide +kernel) (pa_cons pe_int (pa_cons (pe_callB call_len_seq (by rfl) T.n_len (by decide +kernel) (pa_cons (pv 0) pa_nil)) pa_nil))) pa_nil))) pa_nil)) (pg_name (i := 1) sc_law.nd rfl (Or.inl rfl))
        (pss_cons (ps_set (i := 2) sc_law.nd rfl (Or.inr rfl) (pe_cl Dbag hr (by decide) (by rfl) pass0 (pa_cons (pv 0) (pa_cons (pv 1) pa_nil))))
        (pss_cons (ps_setLc (i := 3) (own := [("_law_letter", 8)]) (by rfl) sc_law.nd rfl rfl (sw_true rfl rfl rfl (by decide +kernel)) (pi_str (pe_slice sl_str pe_str po_none (po_some (pe_op op_add pe_int (pe_cl Dtake hr (by decide) (by rfl) pass0 (pa_cons (pv 2) (pa_cons pe_int pa_nil))))))) (blkOk_by (own := [("_law_letter", 8)]) (N := ["_law_script", "_law_number_here", "_law_bag_here", "_law_names", "_law_rows_here", "_law_turn", "_law_keeper", "_law_state", "_law_letter"]) (sc := defScope s_law) (by first | decide +kernel | kernel_rfl)) (fun _ _ _ _ _ => (pg_name (i := 8) sc_law.nd rfl (Or.inl rfl))) (fun _ _ _ _ _ => by exact pts_nil) (fun _ _ _ _ _ => by exact (pe_op op_add_str (pe_slice sl_str (pe_cl Dname hr (by decide) (by rfl) pass0 (pa_cons (pv 2) pa_nil)) po_none (po_some pe_int)) (pv 8))))
        (pss_cons (ps_set (i := 4) sc_law.nd rfl (Or.inl rfl) (pe_cl Drows hr (by decide) (by rfl) pass0 (pa_cons (pv 2) (pa_cons (pe_cl Dcount hr (by decide) (by rfl) pass0 (pa_cons (pv 2) (pa_cons pe_int pa_nil))) (pa_cons (pe_callB call_len_seq (by rfl) T.n_len (by decide +kernel) (pa_cons (pv 3) pa_nil)) pa_nil)))))
        (pss_cons (ps_par (i := 6) (j := 7) (by rfl) sc_law.nd rfl rfl (by decide) rfl rfl (pa_cons (pe_ml MKeeper hr (by decide) (by rfl) pass0 (pa_cons (pv 3) (pa_cons (pv 4) pa_nil))) (pa_cons (pe_lst (pa_cons (pe_callTy call_list_of (by rfl) T.n_list (by decide +kernel) (pa_cons (pv 4) pa_nil)) (pa_cons pe_bl pa_nil))) pa_nil)) (by rfl))
        (pss_one (ps_for PassesOwn.never rfl (pi_range1 (by rfl) T.n_range (pa_cons pe_int pa_nil)) (pg_name (i := 5) sc_law.nd rfl (Or.inl rfl))
          (pss_cons (ps_expr (pe_cl Dlatt hr (by decide) (by rfl) pass0 (pa_cons (pv 2) (pa_cons (pv 6) (pa_cons (pv 7) (pa_cons pe_int pa_nil))))))
          (pss_cons (ps_if (PW.pt (pw_or (pt_not (pt_val (pe_ix ix_list (pv 7) pe_int (fun _ _ => rfl)))) (pw_or1 (pt_cmpR op_ne (pe_callB (call_ownLen MKlen hr (by decide) pass0) (by rfl) T.n_len (by decide +kernel) (pa_cons (pv 6) pa_nil)) (pe_callB call_len_seq (by rfl) T.n_len (by decide +kernel) (pa_cons (pe_ix ix_list (pv 7) pe_int (fun _ _ => rfl)) pa_nil)) (nomark _))))) (pss_one (ps_ret pe_bl)) pss_nil)
          (pss_cons (ps_asg (pe_cl Ddeed hr (by decide) (by rfl) pass0 (pa_cons (pv 2) (pa_cons (pv 6) (pa_cons (pe_ix ix_list (pv 7) pe_int (fun _ _ => rfl)) pa_nil)))) (pg_sub (pv 7) pe_int set_list))
          (pss_one (ps_if (PW.pt (pw_or (pt_cmpR (op_neD hr.units) (pe_pr PRtable hr (by decide) pass0 (pv 6)) (pe_ix ix_list (pv 7) pe_int (fun _ _ => rfl)) (nomark _)) (pw_or1 (pt_cmpR (op_neD hr.units) (pe_fld (pv 6) (by rfl)) (pe_callTy call_tuple_of (by rfl) T.n_tuple (by decide +kernel) (pa_cons (pv 3) pa_nil)) (nomark _))))) (pss_one (ps_ret pe_bl)) pss_nil))))))))))))
      (pss_one (ps_ret pe_bl))), ?_⟩
    walk_at "rd"
    refine ⟨a, _, rfl, .inl hS, ?_⟩
    rw [List.length_map]
    walk_at "rd"
    have hm : ∃ m : Nat, (if (if (ns.length : Int) < 4 then (ns.length : Int) else 4) > 1 then (if (ns.length : Int) < 4 then (ns.length : Int) else 4) else 1) = (m : Int) ∧ m ≤ 4 := by
      by_cases c : (ns.length : Int) < 4
      · rw [if_pos c]
        by_cases c2 : (ns.length : Int) > 1
        · rw [if_pos c2]; exact ⟨ns.length, rfl, by omega⟩
        · rw [if_neg c2]; exact ⟨1, rfl, by omega⟩
      · rw [if_neg c]; exact ⟨4, rfl, by omega⟩
    obtain ⟨m, em, hm5⟩ := hm
    rw [em]
    refine ⟨by omega, by omega, ?_⟩
    rw [Int.toNat_natCast]
    refine for_it walk_range (fun i σ H' => ∃ v1 v2 v3 v4 v5 v6 v7 v8 : Option V, σ = [some (.ref a), v1, v2, v3, v4, v5, v6, v7, v8] ∧ Ev TS [] H H') ⟨none, none, none, none, none, none, none, none, rfl, Ev.refl _ H⟩ (fun _ _ _ _ _ => trivial) ?_ ?_
    · rintro ii x0 σ H0 H1 hi ⟨v1, v2, v3, v4, v5, v6, v7, v8, rfl, e1⟩ ⟨rfl, rfl⟩
      walk_at "rd"
      refine bag_ok (TS := TS) (ns := ns) (by walk_at "t") (by omega) (by omega) (by omega) fun b H2 nb e2 b2 => ?_
      walk_at "rd"
      refine take_ok (TS := TS) b2 (by omega) (by decide) (by decide) fun wn H3 w0 w1 e3 b3 => ?_
      obtain ⟨wn, rfl⟩ := Int.eq_ofNat_of_zero_le w0
      obtain ⟨hsz, hch⟩ := abcd_cut (r := wn + 1) (by omega)
      walk_at "rd"
      rw [show (2 : Int) + (wn : Int) = 1 + ((wn + 1 : Nat) : Int) from by omega]
      refine ⟨le_line (show 4 ≤ 100000 by decide), ?_⟩
      walk_at "rd"
      refine fun pn hpn => ?_
      refine lc_ev (TS := TS) walk_str hpn (fun i acc H' => Ev TS [b] H3 H' ∧ BagB H' b (0 + 1 + 10 * i) ∧ ∃ nms, acc = nms.map V.str ∧ NmsI nms i) (fun H4 e4 h4 => ⟨(by walk_at "e"), (by walk_at "t"), [], rfl, .nil⟩) (fun _ _ _ _ _ _ => trivial) ?_ ?_
      · rintro i y acc H4 H5 hi ⟨eI, bI, nms, rfl, hni⟩ hpn4 ⟨rfl, cc, hcc, rfl⟩
        have hi4 : i < 4 := by
          have : i < (cutS abcd none (some (1 + ((wn + 1 : Nat) : Int)))).cps.size := hi
          omega
        have ec := hch i cc hcc
        subst ec
        walk_at "rd"
        refine name_ok (TS := TS) bI (by omega) fun z H6 hz e6 b6 => ?_
        obtain ⟨q1, q2, q3⟩ := nm_cut hz (l := 97 + i) ⟨by omega, by omega⟩
        have hz8 := hz.len
        walk_at "rd"
        refine ⟨le_line (by omega), ?_⟩
        walk_at "rd"
        refine ⟨by show (cutS z none (some 7)).length + 1 ≤ sizeLine; exact le_line (by omega), ?_⟩
        refine lc_put (TS := TS) (acc := nms.map V.str) (by walk_at "t") (by rw [List.length_map, hni.1]; exact lt_line (by omega)) fun H7 e7 h7 => ⟨(by walk_at "e"), (by walk_at "t"), nms ++ [_], by rw [List.map_append]; rfl, hni.snoc q1 q2⟩
      rintro acc H4 ⟨e4, b4, nms, rfl, hni⟩ hpn4
      have hni' : NmsI nms (wn + 1 + 1) := hsz ▸ hni
      have okn := hni'.ok
      have ln := hni'.1
      have b4' : BagB H4 b 50 := b4.mono (by have : (cutS (Str.ofString "abcd") none (some (1 + ((wn + 1 : Nat) : Int)))).cps.size = wn + 1 + 1 := hsz; rw [this]; omega)
      clear b4 hni
      walk_at "rd"
      have hno := none_no hni' (by omega)
      refine count_ok (TS := TS) (most := 30) b4' (by omega) (by decide) fun cr H5 hcr e5 b5 => ?_
      walk_at "rd"
      refine ⟨pn, _, rfl, .inl (SqL.of (xs := nms.map V.str) (by walk_at "t")), ?_⟩
      rw [List.length_map]
      walk_at "rd"
      refine rows_ok (TS := TS) (m := cr) (wd := nms.length) b5 (by omega) (by omega) (by omega) fun pr rows H6 npr lr wf hrl e6 b6 => ?_
      walk_at "rd"
      have hrl30 : rows.length ≤ 30 := by omega
      refine fun x dx nx ndx _ => keeper_ok (TS := TS) (nms := nms) nx ndx (by walk_at "t") okn (by omega) (by omega) lr wf fun q H7 nq e7 kq7 => ?_
      walk_at "rd"
      obtain ⟨rs, hrs, ra, ers⟩ := (show LR H7 pr rows from (by walk_at "t"))
      refine ⟨pr, _, rfl, .inl (SqL.of hrs), fun pl hpl => ?_⟩
      generalize hXX : upd _ pl _ = H8
      obtain ⟨e8, h8⟩ := new_facts (TS := TS) hXX hpl
      clear hXX
      walk_at "rs"
      walk_at "rd"
      refine ⟨by show 2 ≤ sizeLine; decide, fun S hS0 => ?_⟩
      generalize hXX : upd _ S _ = H9
      obtain ⟨e9, h9⟩ := new_facts (TS := TS) hXX hS0
      clear hXX
      walk_at "rs"
      walk_at "rd"
      have ra9 : RA H9 rs := (by walk_at "t")
      have hpl9 : H9 pl = some (.lst (rs.map refR)) := (by walk_at "t")
      have kq9 : KQ CK H9 x q nms rows := (by walk_at "t")
      have b9 : BagB H9 b 3100 := (show BagB H9 b (50 + 2 + cr * 100) from (by walk_at "t")).mono (by omega)
      have st9 : S76 CK H9 b x q S pl nms rows := ⟨kq9, h9, ⟨rs, hpl9, ra9, ers⟩, wf, by omega, (show NeH H1 b q from (by walk_at "ne")), (show NeH H1 S q from (by walk_at "ne")), (show NeH H1 pl b from (by walk_at "ne")), (show NeH H1 pl q from (by walk_at "ne")), (show NeH H1 pl S from (by walk_at "ne"))⟩
      have Sb : S ≠ b := (show NeH H1 S b from (by walk_at "ne"))
      have nb1 : NA H1 b := (by walk_at "na")
      have nx1 : NA H1 x := (by walk_at "na")
      have nS1 : NA H1 S := (by walk_at "na")
      have nq1 : NA H1 q := (by walk_at "na")
      have hpn9 : H9 pn = some (.lst (nms.map V.str)) := (by walk_at "t")
      have hT1 : Tabs TS H1 := ev_tabs e1 hT
      have E9 : Ev TS [] H1 H9 := (by walk_at "e")
      have pnb : pn ≠ b := (show NeH H1 pn b from (by walk_at "ne"))
      have pnq : pn ≠ q := (show NeH H1 pn q from (by walk_at "ne"))
      have pnS : pn ≠ S := (show NeH H1 pn S from (by walk_at "ne"))
      have nm : Nm76 nms := ⟨okn, by omega, by omega, hno⟩
      refine ⟨by decide, by decide, ?_⟩
      refine for_it walk_range (fun i σ H' => ∃ (q pS : Addr) (rws : List (List Int)) (w1 w5 w8 : Option V), σ = [some (.ref a), w1, some (.ref b), some (.ref pn), some (.ref pr), w5, some (.ref x), some (.ref S), w8] ∧ Ev TS [] H1 H' ∧ BagB H' b (3100 + 6100 * i) ∧ S76 CK H' b x q S pS nms rws ∧ NA H1 q ∧ H' pn = some (.lst (nms.map V.str)) ∧ pn ≠ q) ⟨q, pl, rows, _, _, _, rfl, E9, b9, st9, nq1, hpn9, pnq⟩ (fun _ _ _ _ _ => trivial) ?_ ?_
      · clear E9 b9 st9 nq1 hpn9 pnq kq9 hpl9 ra9 h9 e9 h8 e8 hrs ra ers e7 kq7 e6 b6 lr e5 b5 b4'
        rintro i y σ G0' G0 hi ⟨q, pS, rws, w1, w5, w8, rfl, E0, b0, st0, nq0, hpn0, pnq0⟩ ⟨rfl, rfl⟩
        walk_at "rd"
        refine ⟨b, x, q, S, pS, _, nms, rws, rfl, b0, by omega, st0, nm, Sb, ev_tabs E0 hT1, fun q1 pS1 rws1 G1 e1' b1 st1 hq1 => ?_⟩
        walk_at "rd"
        have nqq : q1 = q ∨ NA G0 q1 := hq1
        have pnq1 : pn ≠ q1 := hq1.elim (fun z => z ▸ pnq0) fun z e => z (e ▸ Al.lst hpn0)
        have nq1' : NA H1 q1 := hq1.elim (fun z => z ▸ nq0) fun z => z.down E0
        have E1 : Ev TS [] H1 G1 := E0.trans e1' ⟨.inr nb1, .inr nx1, .inr nq0, .inr nS1, trivial⟩
        have hpn1 : G1 pn = some (.lst (nms.map V.str)) := ev_lst e1' hpn0 ⟨pnb, neLI (isL.of hpn0) st0.kq.isI, pnq0, pnS, trivial⟩
        clear e1' E0 hpn0 b0 st0 nq0 pnq0 hq1 nqq
        refine ⟨S, _, 1, .bl true, rfl, rfl, SqL.of st1.hs, rfl, ?_⟩
        walk_at "rd"
        obtain ⟨dx1, qn1, rs1, hx1, _⟩ := id st1.kq
        refine ⟨x, dx1, _, rfl, hx1, x, q1, nms, rws1, rfl, st1.kq, ?_⟩
        walk_at "rd"
        refine ⟨by have := st1.hl; omega, ?_⟩
        walk_at "rd"
        refine ⟨S, _, 0, .ref pS1, rfl, rfl, SqL.of st1.hs, rfl, ?_⟩
        walk_at "rd"
        obtain ⟨vsX, hvX, hlX⟩ := LR.sq st1.lr
        refine ⟨pS1, vsX, rfl, .inl (SqL.of hvX), ?_⟩
        rw [hlX]
        clear hvX hlX vsX
        walk_at "rd"
        refine ifF (by rw [decide_eq_true rfl]; rfl) ?_
        walk_at "rd"
        refine ⟨S, _, 0, .ref pS1, rfl, rfl, SqL.of st1.hs, rfl, ?_⟩
        walk_at "rd"
        refine ⟨b, x, q1, pS1, _, nms, rws1, rfl, b1, by omega, st1.kq, st1.lr, okn, by omega, by omega, st1.wf, st1.hl, st1.bq, st1.pb, st1.pq, fun p3 q2 rws2 G3 e3 b3 kq3 lr3 wf3 hl3 hq3 np3 npq3 => ?_⟩
        walk_at "rd"
        have hS3 : G3 S = some (.lst [.ref pS1, .bl true]) := ev_lst e3 st1.hs ⟨Sb, neLI (isL.of st1.hs) st1.kq.isI, st1.sq, trivial⟩
        refine a_setL (TS := TS) (j := 0) hS3 (by show 0 < 2; decide) fun G4 e4 h4 => ?_
        have bq3 : b ≠ q2 := hq3.elim (fun z => z ▸ st1.bq) fun z e => z (e ▸ Al.bag b1)
        have sq3 : S ≠ q2 := hq3.elim (fun z => z ▸ st1.sq) fun z e => z (e ▸ Al.lst st1.hs)
        have pb3 : p3 ≠ b := fun e => np3 (e ▸ Al.bag b1)
        have ps3 : p3 ≠ S := fun e => np3 (e ▸ Al.lst st1.hs)
        have st4 : S76 CK G4 b x q2 S p3 nms rws2 := S76.mk' hS3 e4 h4 kq3 lr3 wf3 hl3 bq3 sq3 pb3 npq3 ps3
        have pnq2 : pn ≠ q2 := hq3.elim (fun z => z ▸ pnq1) fun z e => z (e ▸ Al.lst hpn1)
        have nq2' : NA H1 q2 := hq3.elim (fun z => z ▸ nq1') fun z => z.down E1
        have b4 : BagB G4 b (3100 + 6100 * i + 6000 + 30) := ev_bag e4 b3 ⟨Sb.symm, trivial⟩
        have hpn4 : G4 pn = some (.lst (nms.map V.str)) := ev_lst e4 (ev_lst e3 hpn1 ⟨pnb, neLI (isL.of hpn1) st1.kq.isI, pnq1, trivial⟩) ⟨pnS, trivial⟩
        have E4 : Ev TS [] H1 G4 := (E1.trans e3 ⟨.inr nb1, .inr nx1, .inr nq1', trivial⟩).trans e4 ⟨.inr nS1, trivial⟩
        clear e4 e3 hS3 h4 kq3 lr3 E1 hpn1 b3 b1 st1
        walk_at "rd"
        obtain ⟨dx4, qn4, rs4, hx4, hqn4, _⟩ := id st4.kq
        refine ⟨x, dx4, _, rfl, hx4, ktable_ok (TS := TS) st4.kq fun p5 G5 np5 e5 lr5 => ?_⟩
        walk_at "rd"
        have st5 := st4.ev0 e5
        refine ⟨S, _, 0, .ref p3, rfl, rfl, SqL.of st5.hs, rfl, ?_⟩
        walk_at "rd"
        refine a_neR (r1 := rws2) (r2 := rws2) lr5 st5.lr ?_
        rw [decide_eq_true rfl]
        walk_at "rd"
        obtain ⟨dx5, qn5, rs5, hx5, hqn5, _⟩ := id st5.kq
        refine ⟨x, CK, dx5, _, _, rfl, hx5, T.ck, T.nn, kfs_names qn5 q2, ?_⟩
        walk_at "rd"
        have hpn5 : G5 pn = some (.lst (nms.map V.str)) := ev_lst e5 hpn4 trivial
        refine ⟨pn, nms.map V.str, rfl, .inl ⟨SqL.of hpn5, fun t1 ht1 => ?_⟩⟩
        generalize hXX : upd _ t1 _ = G6
        obtain ⟨e6, h6⟩ := new_facts (TS := TS) hXX ht1
        clear hXX
        walk_at "rs"
        refine a_neN (xs := nms) (ys := nms) (FzT.sq (ev_fzT e6 hqn5)) (SqT.of h6) (strs_ok okn) (strs_ok okn) ?_
        rw [decide_eq_true rfl]
        walk_at "rd"
        have e46 : Ev TS [] G4 G6 := e5.trans e6 trivial
        exact ⟨q2, p3, rws2, _, _, _, rfl, E4.trans e46 trivial, (ev_bag e46 b4 trivial).mono (by omega), st4.ev0 e46, nq2', ev_lst e46 hpn4 trivial, pnq2⟩
      · rintro σ G0 ⟨q, pS, rws, w1, w5, w8, rfl, E0, b0, st0, nq0, hpn0, pnq0⟩
        exact ⟨_, _, _, _, _, _, _, _, rfl, e1.trans E0 trivial⟩
    · rintro σ H1 ⟨v1, v2, v3, v4, v5, v6, v7, v8, rfl, e1⟩
      walk_at "rd"
      exact k H1
end
end MV

namespace MV
open PySem PySem.Spec PyProof.Rows L2 SB MM NdefX
theorem all_mk {l : PySem.W.OpenLaw} {w : World} {K : PySem.W.Frag} {h : Heap} {mg : Str → Option Value} {fa : Addr} (X : K.In h) (G : h.Ns mainGlobals mg) (hfa : mg "law" = some (.ref fa))
    {fbag ftake fof fcount fname fnumber frows fgrow fdeed fcaught frdeed flatt cdlatt tPlatt fisint fisnum fisword fcnames fisrow fcrows fctable flaw C fm_init fm_call Tm_call Em_call pm_gaps fm_gaps pm_turning fm_turning pm_sorting fm_sorting KDm_sorting cdm_sorting tPm_sorting pm_keeping fm_keeping pm_still fm_still CK fk_init Tk_init Ek_init pk_table fk_table fk_len fk_index_of fk_check_place fk_getitem fk_setitem fk_put_column fk_check_names_of fk_iadd fk_moved fk_add KDk_add fk_drop fk_order KDk_order fk_turn fk_eq fk_apply fk_attempt CS fsv_init fsv_enter fsv_exit XBadNames iBadNames qBadNames ccBadNames NBadNames XBadRow iBadRow qBadRow ccBadRow NBadRow XNoPlace iNoPlace qNoPlace ccNoPlace NNoPlace XNoName iNoName qNoName ccNoName NNoName XMismatch iMismatch qMismatch ccMismatch NMismatch XDifferentLists iDifferentLists qDifferentLists ccDifferentLists NDifferentLists KPT CSE : Addr} {odbag anbag odtake antake odof anof odcount ancount odname anname odnumber annumber odrows anrows odgrow angrow oddeed andeed odcaught ancaught odrdeed anrdeed odlatt anlatt tdlatt odisint anisint odisnum anisnum odisword anisword odcnames ancnames odisrow anisrow odcrows ancrows odctable anctable odlaw anlaw odm_init anm_init odm_call anm_call odTm_call odm_gaps anm_gaps odm_turning anm_turning odm_sorting anm_sorting tdm_sorting odm_keeping anm_keeping odm_still anm_still odk_init ank_init odTk_init odk_table ank_table odk_len ank_len odk_index_of ank_index_of odk_check_place ank_check_place odk_getitem ank_getitem odk_setitem ank_setitem odk_put_column ank_put_column odk_check_names_of ank_check_names_of odk_iadd ank_iadd odk_moved ank_moved odk_add ank_add odk_drop ank_drop odk_order ank_order odk_turn ank_turn odk_eq ank_eq odk_apply ank_apply odk_attempt ank_attempt odsv_init ansv_init odsv_enter ansv_enter odsv_exit ansv_exit ddBadNames odBadNames anBadNames cddBadNames cldBadNames ddBadRow odBadRow anBadRow cddBadRow cldBadRow ddNoPlace odNoPlace anNoPlace cddNoPlace cldNoPlace ddNoName odNoName anNoName cddNoName cldNoName ddMismatch odMismatch anMismatch cddMismatch cldMismatch ddDifferentLists odDifferentLists anDifferentLists cddDifferentLists cldDifferentLists ddk : Option Addr} {slbag sltake slof slcount slname slnumber slrows slgrow sldeed slcaught slrdeed sllatt tslatt slisint slisnum slisword slcnames slisrow slcrows slctable sllaw slm_init slm_call slTm_call slm_gaps slm_turning slm_sorting tsm_sorting slm_keeping slm_still slk_init slTk_init slk_table slk_len slk_index_of slk_check_place slk_getitem slk_setitem slk_put_column slk_check_names_of slk_iadd slk_moved slk_add slk_drop slk_order slk_turn slk_eq slk_apply slk_attempt slsv_init slsv_enter slsv_exit slBadNames ccsBadNames cslBadNames slBadRow ccsBadRow cslBadRow slNoPlace ccsNoPlace cslNoPlace slNoName ccsNoName cslNoName slMismatch ccsMismatch cslMismatch slDifferentLists ccsDifferentLists cslDifferentLists slk : Array (Option Value)} {ocbag dcbag pmbag ctbag kVbag cdbag octake dctake pmtake cttake kVtake cdtake ocof dcof pmof ctof kVof cdof occount dccount pmcount ctcount kVcount cdcount ocname dcname pmname ctname kVname cdname ocnumber dcnumber pmnumber ctnumber kVnumber cdnumber ocrows dcrows pmrows ctrows kVrows cdrows ocgrow dcgrow pmgrow ctgrow kVgrow cdgrow ocdeed dcdeed pmdeed ctdeed kVdeed cddeed occaught dccaught pmcaught ctcaught kVcaught cdcaught ocrdeed dcrdeed pmrdeed ctrdeed kVrdeed cdrdeed oclatt dclatt pmlatt ctlatt kVlatt tclatt ocisint dcisint pmisint ctisint kVisint cdisint ocisnum dcisnum pmisnum ctisnum kVisnum cdisnum ocisword dcisword pmisword ctisword kVisword cdisword occnames dccnames pmcnames ctcnames kVcnames cdcnames ocisrow dcisrow pmisrow ctisrow kVisrow cdisrow occrows dccrows pmcrows ctcrows kVcrows cdcrows occtable dcctable pmctable ctctable kVctable cdctable oclaw dclaw pmlaw ctlaw kVlaw cdlaw ocm_init dcm_init pmm_init ctm_init kVm_init cdm_init ocm_call dcm_call pmm_call ctm_call kVm_call cdm_call ocTm_call ocm_gaps dcm_gaps pmm_gaps ctm_gaps kVm_gaps cdm_gaps ocm_turning dcm_turning pmm_turning ctm_turning kVm_turning cdm_turning ocm_sorting dcm_sorting pmm_sorting ctm_sorting tcm_sorting ocm_keeping dcm_keeping pmm_keeping ctm_keeping kVm_keeping cdm_keeping ocm_still dcm_still pmm_still ctm_still kVm_still cdm_still ock_init dck_init pmk_init ctk_init kVk_init cdk_init ocTk_init ock_table dck_table pmk_table ctk_table kVk_table cdk_table ock_len dck_len pmk_len ctk_len kVk_len cdk_len ock_index_of dck_index_of pmk_index_of ctk_index_of kVk_index_of cdk_index_of ock_check_place dck_check_place pmk_check_place ctk_check_place kVk_check_place cdk_check_place ock_getitem dck_getitem pmk_getitem ctk_getitem kVk_getitem cdk_getitem ock_setitem dck_setitem pmk_setitem ctk_setitem kVk_setitem cdk_setitem ock_put_column dck_put_column pmk_put_column ctk_put_column kVk_put_column cdk_put_column ock_check_names_of dck_check_names_of pmk_check_names_of ctk_check_names_of kVk_check_names_of cdk_check_names_of ock_iadd dck_iadd pmk_iadd ctk_iadd kVk_iadd cdk_iadd ock_moved dck_moved pmk_moved ctk_moved kVk_moved cdk_moved ock_add dck_add pmk_add ctk_add cdk_add ock_drop dck_drop pmk_drop ctk_drop kVk_drop cdk_drop ock_order dck_order pmk_order ctk_order cdk_order ock_turn dck_turn pmk_turn ctk_turn kVk_turn cdk_turn ock_eq dck_eq pmk_eq ctk_eq kVk_eq cdk_eq ock_apply dck_apply pmk_apply ctk_apply kVk_apply cdk_apply ock_attempt dck_attempt pmk_attempt ctk_attempt kVk_attempt cdk_attempt ocsv_init dcsv_init pmsv_init ctsv_init kVsv_init cdsv_init ocsv_enter dcsv_enter pmsv_enter ctsv_enter kVsv_enter cdsv_enter ocsv_exit dcsv_exit pmsv_exit ctsv_exit kVsv_exit cdsv_exit ocBadNames kVBadNames dcBadNames pmBadNames ctBadNames cclBadNames clBadNames ocBadRow kVBadRow dcBadRow pmBadRow ctBadRow cclBadRow clBadRow ocNoPlace kVNoPlace dcNoPlace pmNoPlace ctNoPlace cclNoPlace clNoPlace ocNoName kVNoName dcNoName pmNoName ctNoName cclNoName clNoName ocMismatch kVMismatch dcMismatch pmMismatch ctMismatch cclMismatch clMismatch ocDifferentLists kVDifferentLists dcDifferentLists pmDifferentLists ctDifferentLists cclDifferentLists clDifferentLists : Value} {tvlatt tvm_sorting vsBadNames vsBadRow vsNoPlace vsNoName vsMismatch vsDifferentLists : Array Value} {nTm_call nTk_init nKk : Nat} {rm_gaps rm_turning rm_sorting rm_keeping rm_still rk_table bsBadNames bmBadNames subBadNames bsBadRow bmBadRow subBadRow bsNoPlace bmNoPlace subNoPlace bsNoName bmNoName subNoName bsMismatch bmMismatch subMismatch bsDifferentLists bmDifferentLists subDifferentLists : List Value} {nmBadNames qnBadNames fileBadNames nmBadRow qnBadRow fileBadRow nmNoPlace qnNoPlace fileNoPlace nmNoName qnNoName fileNoName nmMismatch qnMismatch fileMismatch nmDifferentLists qnDifferentLists fileDifferentLists : Str} {snBadNames snBadRow snNoPlace snNoName snMismatch snDifferentLists : List Str} {abBadNames abBadRow abNoPlace abNoName abMismatch abDifferentLists : Bool} {colBadNames colBadRow colNoPlace colNoName colMismatch colDifferentLists : Option Bool} {k0BadNames k1BadNames k2BadNames k3BadNames k5BadNames k0BadRow k1BadRow k2BadRow k3BadRow k5BadRow k0NoPlace k1NoPlace k2NoPlace k3NoPlace k5NoPlace k0NoName k1NoName k2NoName k3NoName k5NoName k0Mismatch k1Mismatch k2Mismatch k3Mismatch k5Mismatch k0DifferentLists k1DifferentLists k2DifferentLists k3DifferentLists k5DifferentLists : Option Value} {tfBadNames tfBadRow tfNoPlace tfNoName tfMismatch tfDifferentLists tk0 tk1 tk2 tk3 tk4 tk5 tk6 tk7 tk8 tk9 tk10 tk11 tk12 tk13 tk14 tk15 tk16 tk17 tk18 tk19 tk20 tk21 tk22 tk23 tk24 tLet tMost tMostn : Tok}
    (abag : PySem.W.nsIn K mainGlobals "_law_bag" = some (some (.ref fbag)))
    (lbag : K.lookup fbag = some ⟨ocbag, odbag, .func (PySem.W.fnOf "_law_bag" "_law_bag" (defArgs s_bag) (defBody s_bag) (defScope s_bag) .none kVbag dcbag pmbag anbag cdbag ctbag), slbag⟩)
    (cbag : PySem.W.codeIn K cdbag "_law_bag" = true)
    (kbag : PySem.W.keepIn K (.ref fbag) = true)
    (atake : PySem.W.nsIn K mainGlobals "_law_take" = some (some (.ref ftake)))
    (ltake : K.lookup ftake = some ⟨octake, odtake, .func (PySem.W.fnOf "_law_take" "_law_take" (defArgs s_take) (defBody s_take) (defScope s_take) .none kVtake dctake pmtake antake cdtake cttake), sltake⟩)
    (ctake : PySem.W.codeIn K cdtake "_law_take" = true)
    (ktake : PySem.W.keepIn K (.ref ftake) = true)
    (aof : PySem.W.nsIn K mainGlobals "_law_of" = some (some (.ref fof)))
    (lof : K.lookup fof = some ⟨ocof, odof, .func (PySem.W.fnOf "_law_of" "_law_of" (defArgs s_of) (defBody s_of) (defScope s_of) .none kVof dcof pmof anof cdof ctof), slof⟩)
    (cof : PySem.W.codeIn K cdof "_law_of" = true)
    (kof : PySem.W.keepIn K (.ref fof) = true)
    (acount : PySem.W.nsIn K mainGlobals "_law_count" = some (some (.ref fcount)))
    (lcount : K.lookup fcount = some ⟨occount, odcount, .func (PySem.W.fnOf "_law_count" "_law_count" (defArgs s_count) (defBody s_count) (defScope s_count) .none kVcount dccount pmcount ancount cdcount ctcount), slcount⟩)
    (ccount : PySem.W.codeIn K cdcount "_law_count" = true)
    (kcount : PySem.W.keepIn K (.ref fcount) = true)
    (aname : PySem.W.nsIn K mainGlobals "_law_name" = some (some (.ref fname)))
    (lname : K.lookup fname = some ⟨ocname, odname, .func (PySem.W.fnOf "_law_name" "_law_name" (defArgs s_name) (defBody s_name) (defScope s_name) .none kVname dcname pmname anname cdname ctname), slname⟩)
    (cname : PySem.W.codeIn K cdname "_law_name" = true)
    (kname : PySem.W.keepIn K (.ref fname) = true)
    (anumber : PySem.W.nsIn K mainGlobals "_law_number" = some (some (.ref fnumber)))
    (lnumber : K.lookup fnumber = some ⟨ocnumber, odnumber, .func (PySem.W.fnOf "_law_number" "_law_number" (defArgs s_number) (defBody s_number) (defScope s_number) .none kVnumber dcnumber pmnumber annumber cdnumber ctnumber), slnumber⟩)
    (cnumber : PySem.W.codeIn K cdnumber "_law_number" = true)
    (knumber : PySem.W.keepIn K (.ref fnumber) = true)
    (arows : PySem.W.nsIn K mainGlobals "_law_rows" = some (some (.ref frows)))
    (lrows : K.lookup frows = some ⟨ocrows, odrows, .func (PySem.W.fnOf "_law_rows" "_law_rows" (defArgs s_rows) (defBody s_rows) (defScope s_rows) .none kVrows dcrows pmrows anrows cdrows ctrows), slrows⟩)
    (crows : PySem.W.codeIn K cdrows "_law_rows" = true)
    (krows : PySem.W.keepIn K (.ref frows) = true)
    (agrow : PySem.W.nsIn K mainGlobals "_law_grow" = some (some (.ref fgrow)))
    (lgrow : K.lookup fgrow = some ⟨ocgrow, odgrow, .func (PySem.W.fnOf "_law_grow" "_law_grow" (defArgs s_grow) (defBody s_grow) (defScope s_grow) .none kVgrow dcgrow pmgrow angrow cdgrow ctgrow), slgrow⟩)
    (cgrow : PySem.W.codeIn K cdgrow "_law_grow" = true)
    (kgrow : PySem.W.keepIn K (.ref fgrow) = true)
    (adeed : PySem.W.nsIn K mainGlobals "_law_deed" = some (some (.ref fdeed)))
    (ldeed : K.lookup fdeed = some ⟨ocdeed, oddeed, .func (PySem.W.fnOf "_law_deed" "_law_deed" (defArgs s_deed) (defBody s_deed) (defScope s_deed) .none kVdeed dcdeed pmdeed andeed cddeed ctdeed), sldeed⟩)
    (cdeed : PySem.W.codeIn K cddeed "_law_deed" = true)
    (kdeed : PySem.W.keepIn K (.ref fdeed) = true)
    (acaught : PySem.W.nsIn K mainGlobals "_law_caught" = some (some (.ref fcaught)))
    (lcaught : K.lookup fcaught = some ⟨occaught, odcaught, .func (PySem.W.fnOf "_law_caught" "_law_caught" (defArgs s_caught) (defBody s_caught) (defScope s_caught) .none kVcaught dccaught pmcaught ancaught cdcaught ctcaught), slcaught⟩)
    (ccaught : PySem.W.codeIn K cdcaught "_law_caught" = true)
    (kcaught : PySem.W.keepIn K (.ref fcaught) = true)
    (ardeed : PySem.W.nsIn K mainGlobals "_law_refused_deed" = some (some (.ref frdeed)))
    (lrdeed : K.lookup frdeed = some ⟨ocrdeed, odrdeed, .func (PySem.W.fnOf "_law_refused_deed" "_law_refused_deed" (defArgs s_rdeed) (defBody s_rdeed) (defScope s_rdeed) .none kVrdeed dcrdeed pmrdeed anrdeed cdrdeed ctrdeed), slrdeed⟩)
    (crdeed : PySem.W.codeIn K cdrdeed "_law_refused_deed" = true)
    (krdeed : PySem.W.keepIn K (.ref frdeed) = true)
    (alatt : PySem.W.nsIn K mainGlobals "_law_attempt" = some (some (.ref flatt)))
    (llatt : K.lookup flatt = some ⟨oclatt, odlatt, .func (PySem.W.fnOf "_law_attempt" "_law_attempt" (defArgs s_latt) (defBody s_latt) (defScope s_latt) .none kVlatt dclatt pmlatt anlatt (.ref cdlatt) ctlatt), sllatt⟩)
    (clatt : PySem.W.codeIn K (.ref cdlatt) "_law_attempt" = true)
    (klatt : PySem.W.keepIn K (.ref flatt) = true)
    (tllatt : K.lookup cdlatt = some ⟨tclatt, tdlatt, .fields tvlatt, tslatt⟩)
    (txlatt : tvlatt[11]? = some (.ref tPlatt))
    (thlatt : PySem.W.codeHdIn K cdlatt tPlatt = true)
    (ttlatt : h.get? tPlatt = some { cls := .none, data := .fields #[] })
    (tnlatt : K.lookup tPlatt = none)
    (aisint : PySem.W.nsIn K mainGlobals "is_integer" = some (some (.ref fisint)))
    (lisint : K.lookup fisint = some ⟨ocisint, odisint, .func (PySem.W.fnOf "is_integer" "is_integer" (defArgs s_isint) (defBody s_isint) (defScope s_isint) .none kVisint dcisint pmisint anisint cdisint ctisint), slisint⟩)
    (cisint : PySem.W.codeIn K cdisint "is_integer" = true)
    (kisint : PySem.W.keepIn K (.ref fisint) = true)
    (aisnum : PySem.W.nsIn K mainGlobals "is_number" = some (some (.ref fisnum)))
    (lisnum : K.lookup fisnum = some ⟨ocisnum, odisnum, .func (PySem.W.fnOf "is_number" "is_number" (defArgs s_isnum) (defBody s_isnum) (defScope s_isnum) .none kVisnum dcisnum pmisnum anisnum cdisnum ctisnum), slisnum⟩)
    (cisnum : PySem.W.codeIn K cdisnum "is_number" = true)
    (kisnum : PySem.W.keepIn K (.ref fisnum) = true)
    (aisword : PySem.W.nsIn K mainGlobals "is_word" = some (some (.ref fisword)))
    (lisword : K.lookup fisword = some ⟨ocisword, odisword, .func (PySem.W.fnOf "is_word" "is_word" (defArgs s_isword) (defBody s_isword) (defScope s_isword) .none kVisword dcisword pmisword anisword cdisword ctisword), slisword⟩)
    (cisword : PySem.W.codeIn K cdisword "is_word" = true)
    (kisword : PySem.W.keepIn K (.ref fisword) = true)
    (acnames : PySem.W.nsIn K mainGlobals "check_names" = some (some (.ref fcnames)))
    (lcnames : K.lookup fcnames = some ⟨occnames, odcnames, .func (PySem.W.fnOf "check_names" "check_names" (defArgs s_cnames) (defBody s_cnames) (defScope s_cnames) .none kVcnames dccnames pmcnames ancnames cdcnames ctcnames), slcnames⟩)
    (ccnames : PySem.W.codeIn K cdcnames "check_names" = true)
    (kcnames : PySem.W.keepIn K (.ref fcnames) = true)
    (aisrow : PySem.W.nsIn K mainGlobals "is_row" = some (some (.ref fisrow)))
    (lisrow : K.lookup fisrow = some ⟨ocisrow, odisrow, .func (PySem.W.fnOf "is_row" "is_row" (defArgs s_isrow) (defBody s_isrow) (defScope s_isrow) .none kVisrow dcisrow pmisrow anisrow cdisrow ctisrow), slisrow⟩)
    (cisrow : PySem.W.codeIn K cdisrow "is_row" = true)
    (kisrow : PySem.W.keepIn K (.ref fisrow) = true)
    (acrows : PySem.W.nsIn K mainGlobals "check_rows" = some (some (.ref fcrows)))
    (lcrows : K.lookup fcrows = some ⟨occrows, odcrows, .func (PySem.W.fnOf "check_rows" "check_rows" (defArgs s_crows) (defBody s_crows) (defScope s_crows) .none kVcrows dccrows pmcrows ancrows cdcrows ctcrows), slcrows⟩)
    (ccrows : PySem.W.codeIn K cdcrows "check_rows" = true)
    (kcrows : PySem.W.keepIn K (.ref fcrows) = true)
    (actable : PySem.W.nsIn K mainGlobals "check_table" = some (some (.ref fctable)))
    (lctable : K.lookup fctable = some ⟨occtable, odctable, .func (PySem.W.fnOf "check_table" "check_table" (defArgs s_ctable) (defBody s_ctable) (defScope s_ctable) .none kVctable dcctable pmctable anctable cdctable ctctable), slctable⟩)
    (cctable : PySem.W.codeIn K cdctable "check_table" = true)
    (kctable : PySem.W.keepIn K (.ref fctable) = true)
    (alaw : PySem.W.nsIn K mainGlobals "law" = some (some (.ref flaw)))
    (llaw : K.lookup flaw = some ⟨oclaw, odlaw, .func (PySem.W.fnOf "law" "law" (defArgs s_law) (defBody s_law) (defScope s_law) .none kVlaw dclaw pmlaw anlaw cdlaw ctlaw), sllaw⟩)
    (claw : PySem.W.codeIn K cdlaw "law" = true)
    (klaw : PySem.W.keepIn K (.ref flaw) = true)
    (aC : PySem.W.nsIn K mainGlobals "Move" = some (some (.ref C)))
    (am_init : PySem.W.findIn K (.ref C) "__init__" = some (some (.ref fm_init)))
    (im_init : PySem.W.isFn K (.ref fm_init) = true)
    (lm_init : K.lookup fm_init = some ⟨ocm_init, odm_init, .func (PySem.W.fnOf "__init__" "Move.__init__" (defArgs s_m_init) (defBody s_m_init) (defScope s_m_init) .none kVm_init dcm_init pmm_init anm_init cdm_init ctm_init), slm_init⟩)
    (cm_init : PySem.W.codeIn K cdm_init "Move.__init__" = true)
    (km_init : PySem.W.keepIn K (.ref fm_init) = true)
    (am_call : PySem.W.findIn K (.ref C) "__call__" = some (some (.ref fm_call)))
    (im_call : PySem.W.isFn K (.ref fm_call) = true)
    (lm_call : K.lookup fm_call = some ⟨ocm_call, odm_call, .func (PySem.W.fnOf "__call__" "Move.__call__" (defArgs s_m_call) (defBody s_m_call) (defScope s_m_call) (.ref Tm_call) kVm_call dcm_call pmm_call anm_call cdm_call ctm_call), slm_call⟩)
    (cm_call : PySem.W.codeIn K cdm_call "Move.__call__" = true)
    (km_call : PySem.W.keepIn K (.ref fm_call) = true)
    (xm_call : PySem.W.fnIn K fm_call = true)
    (ym_call : K.lookup Tm_call = some ⟨ocTm_call, odTm_call, .seq #[.ref Em_call] nTm_call, slTm_call⟩)
    (am_gaps : PySem.W.findIn K (.ref C) "gaps" = some (some (.ref pm_gaps)))
    (gm_gaps : PySem.W.specialIn K (.ref pm_gaps) "__get__" = some (some (.builtin "property.__get__")))
    (tm_gaps : PySem.W.takesIn K (.ref pm_gaps) = some true)
    (r_m_gaps : PySem.W.recIn K pm_gaps "property" = some (.ref fm_gaps :: rm_gaps))
    (lm_gaps : K.lookup fm_gaps = some ⟨ocm_gaps, odm_gaps, .func (PySem.W.fnOf "gaps" "Move.gaps" (defArgs s_m_gaps) (defBody s_m_gaps) (defScope s_m_gaps) .none kVm_gaps dcm_gaps pmm_gaps anm_gaps cdm_gaps ctm_gaps), slm_gaps⟩)
    (cm_gaps : PySem.W.codeIn K cdm_gaps "Move.gaps" = true)
    (km_gaps : PySem.W.keepIn K (.ref fm_gaps) = true)
    (am_turning : PySem.W.findCls K (.ref C) (.type "type") "turning" = some (.get (.builtin "staticmethod.__get__") (.ref pm_turning) .none (.ref C)))
    (r_m_turning : PySem.W.recIn K pm_turning "staticmethod" = some (.ref fm_turning :: rm_turning))
    (lm_turning : K.lookup fm_turning = some ⟨ocm_turning, odm_turning, .func (PySem.W.fnOf "turning" "Move.turning" (defArgs s_m_turning) (defBody s_m_turning) (defScope s_m_turning) .none kVm_turning dcm_turning pmm_turning anm_turning cdm_turning ctm_turning), slm_turning⟩)
    (cm_turning : PySem.W.codeIn K cdm_turning "Move.turning" = true)
    (km_turning : PySem.W.keepIn K (.ref fm_turning) = true)
    (am_sorting : PySem.W.findCls K (.ref C) (.type "type") "sorting" = some (.get (.builtin "staticmethod.__get__") (.ref pm_sorting) .none (.ref C)))
    (r_m_sorting : PySem.W.recIn K pm_sorting "staticmethod" = some (.ref fm_sorting :: rm_sorting))
    (lm_sorting : K.lookup fm_sorting = some ⟨ocm_sorting, odm_sorting, .func (PySem.W.fnOf "sorting" "Move.sorting" (defArgs s_m_sorting) (defBody s_m_sorting) (defScope s_m_sorting) .none (.ref KDm_sorting) dcm_sorting pmm_sorting anm_sorting (.ref cdm_sorting) ctm_sorting), slm_sorting⟩)
    (cm_sorting : PySem.W.codeIn K (.ref cdm_sorting) "Move.sorting" = true)
    (km_sorting : PySem.W.keepIn K (.ref fm_sorting) = true)
    (kdm_sorting_down : PySem.W.nsIn K KDm_sorting "down" = some (some (.bool false)))
    (tlm_sorting : K.lookup cdm_sorting = some ⟨tcm_sorting, tdm_sorting, .fields tvm_sorting, tsm_sorting⟩)
    (txm_sorting : tvm_sorting[11]? = some (.ref tPm_sorting))
    (thm_sorting : PySem.W.codeHdIn K cdm_sorting tPm_sorting = true)
    (ttm_sorting : h.get? tPm_sorting = some { cls := .none, data := .fields #[] })
    (tnm_sorting : K.lookup tPm_sorting = none)
    (am_keeping : PySem.W.findCls K (.ref C) (.type "type") "keeping" = some (.get (.builtin "staticmethod.__get__") (.ref pm_keeping) .none (.ref C)))
    (r_m_keeping : PySem.W.recIn K pm_keeping "staticmethod" = some (.ref fm_keeping :: rm_keeping))
    (lm_keeping : K.lookup fm_keeping = some ⟨ocm_keeping, odm_keeping, .func (PySem.W.fnOf "keeping" "Move.keeping" (defArgs s_m_keeping) (defBody s_m_keeping) (defScope s_m_keeping) .none kVm_keeping dcm_keeping pmm_keeping anm_keeping cdm_keeping ctm_keeping), slm_keeping⟩)
    (cm_keeping : PySem.W.codeIn K cdm_keeping "Move.keeping" = true)
    (km_keeping : PySem.W.keepIn K (.ref fm_keeping) = true)
    (am_still : PySem.W.findCls K (.ref C) (.type "type") "still" = some (.get (.builtin "staticmethod.__get__") (.ref pm_still) .none (.ref C)))
    (r_m_still : PySem.W.recIn K pm_still "staticmethod" = some (.ref fm_still :: rm_still))
    (lm_still : K.lookup fm_still = some ⟨ocm_still, odm_still, .func (PySem.W.fnOf "still" "Move.still" (defArgs s_m_still) (defBody s_m_still) (defScope s_m_still) .none kVm_still dcm_still pmm_still anm_still cdm_still ctm_still), slm_still⟩)
    (cm_still : PySem.W.codeIn K cdm_still "Move.still" = true)
    (km_still : PySem.W.keepIn K (.ref fm_still) = true)
    (pgC : PySem.W.plainGet K C Str.empty = true)
    (hdC : PySem.W.hasDictIn K C = true)
    (poC : PySem.W.plainOver K C = true)
    (saC : PySem.W.findIn K (.ref C) "__setattr__" = some (some (.builtin "object.__setattr__")))
    (mkC : PySem.W.makesIn K C = true)
    (kcC : PySem.W.keepIn K (.ref C) = true)
    (nt : PySem.W.findIn K (.ref C) "takes" = some none)
    (np : PySem.W.findIn K (.ref C) "places" = some none)
    (hcl : PySem.W.findIn K (.ref C) "__class__" = some (some (.builtin "object.__class__")))
    (hcg : PySem.W.specialIn K (.builtin "object.__class__") "__get__" = some (some (.builtin "getset_descriptor.__get__")))
    (hct : PySem.W.takesIn K (.builtin "object.__class__") = some true)
    (hcm : PySem.W.mroIn K C (.type "object") = some true)
    (sf : PySem.W.selfFirst K C = true)
    (nf : PySem.W.notFirst K C (.ref C) = true)
    (rds : PySem.W.readsIn K C (.type "type") = true)
    (rga : PySem.W.specialIn K (.ref C) "__getattribute__" = some (some (.builtin "type.__getattribute__")))
    (aCK : PySem.W.nsIn K mainGlobals "Keeper" = some (some (.ref CK)))
    (ak_init : PySem.W.findIn K (.ref CK) "__init__" = some (some (.ref fk_init)))
    (ik_init : PySem.W.isFn K (.ref fk_init) = true)
    (lk_init : K.lookup fk_init = some ⟨ock_init, odk_init, .func (PySem.W.fnOf "__init__" "Keeper.__init__" (defArgs s_k_init) (defBody s_k_init) (defScope s_k_init) (.ref Tk_init) kVk_init dck_init pmk_init ank_init cdk_init ctk_init), slk_init⟩)
    (ck_init : PySem.W.codeIn K cdk_init "Keeper.__init__" = true)
    (kk_init : PySem.W.keepIn K (.ref fk_init) = true)
    (xk_init : PySem.W.fnIn K fk_init = true)
    (yk_init : K.lookup Tk_init = some ⟨ocTk_init, odTk_init, .seq #[.ref Ek_init] nTk_init, slTk_init⟩)
    (ak_table : PySem.W.findIn K (.ref CK) "table" = some (some (.ref pk_table)))
    (gk_table : PySem.W.specialIn K (.ref pk_table) "__get__" = some (some (.builtin "property.__get__")))
    (tk_table : PySem.W.takesIn K (.ref pk_table) = some true)
    (r_k_table : PySem.W.recIn K pk_table "property" = some (.ref fk_table :: rk_table))
    (lk_table : K.lookup fk_table = some ⟨ock_table, odk_table, .func (PySem.W.fnOf "table" "Keeper.table" (defArgs s_k_table) (defBody s_k_table) (defScope s_k_table) .none kVk_table dck_table pmk_table ank_table cdk_table ctk_table), slk_table⟩)
    (ck_table : PySem.W.codeIn K cdk_table "Keeper.table" = true)
    (kk_table : PySem.W.keepIn K (.ref fk_table) = true)
    (ak_len : PySem.W.findIn K (.ref CK) "__len__" = some (some (.ref fk_len)))
    (ik_len : PySem.W.isFn K (.ref fk_len) = true)
    (lk_len : K.lookup fk_len = some ⟨ock_len, odk_len, .func (PySem.W.fnOf "__len__" "Keeper.__len__" (defArgs s_k_len) (defBody s_k_len) (defScope s_k_len) .none kVk_len dck_len pmk_len ank_len cdk_len ctk_len), slk_len⟩)
    (ck_len : PySem.W.codeIn K cdk_len "Keeper.__len__" = true)
    (kk_len : PySem.W.keepIn K (.ref fk_len) = true)
    (ak_index_of : PySem.W.findIn K (.ref CK) "index_of" = some (some (.ref fk_index_of)))
    (ik_index_of : PySem.W.isFn K (.ref fk_index_of) = true)
    (lk_index_of : K.lookup fk_index_of = some ⟨ock_index_of, odk_index_of, .func (PySem.W.fnOf "index_of" "Keeper.index_of" (defArgs s_k_index_of) (defBody s_k_index_of) (defScope s_k_index_of) .none kVk_index_of dck_index_of pmk_index_of ank_index_of cdk_index_of ctk_index_of), slk_index_of⟩)
    (ck_index_of : PySem.W.codeIn K cdk_index_of "Keeper.index_of" = true)
    (kk_index_of : PySem.W.keepIn K (.ref fk_index_of) = true)
    (ak_check_place : PySem.W.findIn K (.ref CK) "check_place" = some (some (.ref fk_check_place)))
    (ik_check_place : PySem.W.isFn K (.ref fk_check_place) = true)
    (lk_check_place : K.lookup fk_check_place = some ⟨ock_check_place, odk_check_place, .func (PySem.W.fnOf "check_place" "Keeper.check_place" (defArgs s_k_check_place) (defBody s_k_check_place) (defScope s_k_check_place) .none kVk_check_place dck_check_place pmk_check_place ank_check_place cdk_check_place ctk_check_place), slk_check_place⟩)
    (ck_check_place : PySem.W.codeIn K cdk_check_place "Keeper.check_place" = true)
    (kk_check_place : PySem.W.keepIn K (.ref fk_check_place) = true)
    (ak_getitem : PySem.W.findIn K (.ref CK) "__getitem__" = some (some (.ref fk_getitem)))
    (ik_getitem : PySem.W.isFn K (.ref fk_getitem) = true)
    (lk_getitem : K.lookup fk_getitem = some ⟨ock_getitem, odk_getitem, .func (PySem.W.fnOf "__getitem__" "Keeper.__getitem__" (defArgs s_k_getitem) (defBody s_k_getitem) (defScope s_k_getitem) .none kVk_getitem dck_getitem pmk_getitem ank_getitem cdk_getitem ctk_getitem), slk_getitem⟩)
    (ck_getitem : PySem.W.codeIn K cdk_getitem "Keeper.__getitem__" = true)
    (kk_getitem : PySem.W.keepIn K (.ref fk_getitem) = true)
    (xk_getitem : PySem.W.fnIn K fk_getitem = true)
    (ak_setitem : PySem.W.findIn K (.ref CK) "__setitem__" = some (some (.ref fk_setitem)))
    (ik_setitem : PySem.W.isFn K (.ref fk_setitem) = true)
    (lk_setitem : K.lookup fk_setitem = some ⟨ock_setitem, odk_setitem, .func (PySem.W.fnOf "__setitem__" "Keeper.__setitem__" (defArgs s_k_setitem) (defBody s_k_setitem) (defScope s_k_setitem) .none kVk_setitem dck_setitem pmk_setitem ank_setitem cdk_setitem ctk_setitem), slk_setitem⟩)
    (ck_setitem : PySem.W.codeIn K cdk_setitem "Keeper.__setitem__" = true)
    (kk_setitem : PySem.W.keepIn K (.ref fk_setitem) = true)
    (ak_put_column : PySem.W.findIn K (.ref CK) "put_column" = some (some (.ref fk_put_column)))
    (ik_put_column : PySem.W.isFn K (.ref fk_put_column) = true)
    (lk_put_column : K.lookup fk_put_column = some ⟨ock_put_column, odk_put_column, .func (PySem.W.fnOf "put_column" "Keeper.put_column" (defArgs s_k_put_column) (defBody s_k_put_column) (defScope s_k_put_column) .none kVk_put_column dck_put_column pmk_put_column ank_put_column cdk_put_column ctk_put_column), slk_put_column⟩)
    (ck_put_column : PySem.W.codeIn K cdk_put_column "Keeper.put_column" = true)
    (kk_put_column : PySem.W.keepIn K (.ref fk_put_column) = true)
    (ak_check_names_of : PySem.W.findIn K (.ref CK) "check_names_of" = some (some (.ref fk_check_names_of)))
    (ik_check_names_of : PySem.W.isFn K (.ref fk_check_names_of) = true)
    (lk_check_names_of : K.lookup fk_check_names_of = some ⟨ock_check_names_of, odk_check_names_of, .func (PySem.W.fnOf "check_names_of" "Keeper.check_names_of" (defArgs s_k_check_names_of) (defBody s_k_check_names_of) (defScope s_k_check_names_of) .none kVk_check_names_of dck_check_names_of pmk_check_names_of ank_check_names_of cdk_check_names_of ctk_check_names_of), slk_check_names_of⟩)
    (ck_check_names_of : PySem.W.codeIn K cdk_check_names_of "Keeper.check_names_of" = true)
    (kk_check_names_of : PySem.W.keepIn K (.ref fk_check_names_of) = true)
    (ak_iadd : PySem.W.findIn K (.ref CK) "__iadd__" = some (some (.ref fk_iadd)))
    (ik_iadd : PySem.W.isFn K (.ref fk_iadd) = true)
    (lk_iadd : K.lookup fk_iadd = some ⟨ock_iadd, odk_iadd, .func (PySem.W.fnOf "__iadd__" "Keeper.__iadd__" (defArgs s_k_iadd) (defBody s_k_iadd) (defScope s_k_iadd) .none kVk_iadd dck_iadd pmk_iadd ank_iadd cdk_iadd ctk_iadd), slk_iadd⟩)
    (ck_iadd : PySem.W.codeIn K cdk_iadd "Keeper.__iadd__" = true)
    (kk_iadd : PySem.W.keepIn K (.ref fk_iadd) = true)
    (ak_moved : PySem.W.findIn K (.ref CK) "moved" = some (some (.ref fk_moved)))
    (ik_moved : PySem.W.isFn K (.ref fk_moved) = true)
    (lk_moved : K.lookup fk_moved = some ⟨ock_moved, odk_moved, .func (PySem.W.fnOf "moved" "Keeper.moved" (defArgs s_k_moved) (defBody s_k_moved) (defScope s_k_moved) .none kVk_moved dck_moved pmk_moved ank_moved cdk_moved ctk_moved), slk_moved⟩)
    (ck_moved : PySem.W.codeIn K cdk_moved "Keeper.moved" = true)
    (kk_moved : PySem.W.keepIn K (.ref fk_moved) = true)
    (ak_add : PySem.W.findIn K (.ref CK) "add" = some (some (.ref fk_add)))
    (ik_add : PySem.W.isFn K (.ref fk_add) = true)
    (lk_add : K.lookup fk_add = some ⟨ock_add, odk_add, .func (PySem.W.fnOf "add" "Keeper.add" (defArgs s_k_add) (defBody s_k_add) (defScope s_k_add) .none (.ref KDk_add) dck_add pmk_add ank_add cdk_add ctk_add), slk_add⟩)
    (ck_add : PySem.W.codeIn K cdk_add "Keeper.add" = true)
    (kk_add : PySem.W.keepIn K (.ref fk_add) = true)
    (kdk_add_at : PySem.W.nsIn K KDk_add "at" = some (some (.none)))
    (ak_drop : PySem.W.findIn K (.ref CK) "drop" = some (some (.ref fk_drop)))
    (ik_drop : PySem.W.isFn K (.ref fk_drop) = true)
    (lk_drop : K.lookup fk_drop = some ⟨ock_drop, odk_drop, .func (PySem.W.fnOf "drop" "Keeper.drop" (defArgs s_k_drop) (defBody s_k_drop) (defScope s_k_drop) .none kVk_drop dck_drop pmk_drop ank_drop cdk_drop ctk_drop), slk_drop⟩)
    (ck_drop : PySem.W.codeIn K cdk_drop "Keeper.drop" = true)
    (kk_drop : PySem.W.keepIn K (.ref fk_drop) = true)
    (ak_order : PySem.W.findIn K (.ref CK) "order" = some (some (.ref fk_order)))
    (ik_order : PySem.W.isFn K (.ref fk_order) = true)
    (lk_order : K.lookup fk_order = some ⟨ock_order, odk_order, .func (PySem.W.fnOf "order" "Keeper.order" (defArgs s_k_order) (defBody s_k_order) (defScope s_k_order) .none (.ref KDk_order) dck_order pmk_order ank_order cdk_order ctk_order), slk_order⟩)
    (ck_order : PySem.W.codeIn K cdk_order "Keeper.order" = true)
    (kk_order : PySem.W.keepIn K (.ref fk_order) = true)
    (kdk_order_down : PySem.W.nsIn K KDk_order "down" = some (some (.bool false)))
    (ak_turn : PySem.W.findIn K (.ref CK) "turn" = some (some (.ref fk_turn)))
    (ik_turn : PySem.W.isFn K (.ref fk_turn) = true)
    (lk_turn : K.lookup fk_turn = some ⟨ock_turn, odk_turn, .func (PySem.W.fnOf "turn" "Keeper.turn" (defArgs s_k_turn) (defBody s_k_turn) (defScope s_k_turn) .none kVk_turn dck_turn pmk_turn ank_turn cdk_turn ctk_turn), slk_turn⟩)
    (ck_turn : PySem.W.codeIn K cdk_turn "Keeper.turn" = true)
    (kk_turn : PySem.W.keepIn K (.ref fk_turn) = true)
    (ak_eq : PySem.W.findIn K (.ref CK) "__eq__" = some (some (.ref fk_eq)))
    (ik_eq : PySem.W.isFn K (.ref fk_eq) = true)
    (lk_eq : K.lookup fk_eq = some ⟨ock_eq, odk_eq, .func (PySem.W.fnOf "__eq__" "Keeper.__eq__" (defArgs s_k_eq) (defBody s_k_eq) (defScope s_k_eq) .none kVk_eq dck_eq pmk_eq ank_eq cdk_eq ctk_eq), slk_eq⟩)
    (ck_eq : PySem.W.codeIn K cdk_eq "Keeper.__eq__" = true)
    (kk_eq : PySem.W.keepIn K (.ref fk_eq) = true)
    (ak_apply : PySem.W.findIn K (.ref CK) "apply" = some (some (.ref fk_apply)))
    (ik_apply : PySem.W.isFn K (.ref fk_apply) = true)
    (lk_apply : K.lookup fk_apply = some ⟨ock_apply, odk_apply, .func (PySem.W.fnOf "apply" "Keeper.apply" (defArgs s_k_apply) (defBody s_k_apply) (defScope s_k_apply) .none kVk_apply dck_apply pmk_apply ank_apply cdk_apply ctk_apply), slk_apply⟩)
    (ck_apply : PySem.W.codeIn K cdk_apply "Keeper.apply" = true)
    (kk_apply : PySem.W.keepIn K (.ref fk_apply) = true)
    (ak_attempt : PySem.W.findIn K (.ref CK) "attempt" = some (some (.ref fk_attempt)))
    (ik_attempt : PySem.W.isFn K (.ref fk_attempt) = true)
    (lk_attempt : K.lookup fk_attempt = some ⟨ock_attempt, odk_attempt, .func (PySem.W.fnOf "attempt" "Keeper.attempt" (defArgs s_k_attempt) (defBody s_k_attempt) (defScope s_k_attempt) .none kVk_attempt dck_attempt pmk_attempt ank_attempt cdk_attempt ctk_attempt), slk_attempt⟩)
    (ck_attempt : PySem.W.codeIn K cdk_attempt "Keeper.attempt" = true)
    (kk_attempt : PySem.W.keepIn K (.ref fk_attempt) = true)
    (pgCK : PySem.W.plainGet K CK Str.empty = true)
    (hdCK : PySem.W.hasDictIn K CK = true)
    (poCK : PySem.W.plainOver K CK = true)
    (saCK : PySem.W.findIn K (.ref CK) "__setattr__" = some (some (.builtin "object.__setattr__")))
    (mkCK : PySem.W.makesIn K CK = true)
    (kcCK : PySem.W.keepIn K (.ref CK) = true)
    (nn : PySem.W.findIn K (.ref CK) "names" = some none)
    (nh : PySem.W.findIn K (.ref CK) "held" = some none)
    (nsq : PySem.W.noSeq K CK = true)
    (ksf : PySem.W.selfFirst K CK = true)
    (knf : PySem.W.notFirst K CK (.ref CK) = true)
    (khc : PySem.W.findIn K (.ref CK) "__class__" = some (some (.builtin "object.__class__")))
    (khg : PySem.W.specialIn K (.builtin "object.__class__") "__get__" = some (some (.builtin "getset_descriptor.__get__")))
    (kht : PySem.W.takesIn K (.builtin "object.__class__") = some true)
    (khm : PySem.W.mroIn K CK (.type "object") = some true)
    (aCS : PySem.W.nsIn K mainGlobals "Saved" = some (some (.ref CS)))
    (asv_init : PySem.W.findIn K (.ref CS) "__init__" = some (some (.ref fsv_init)))
    (isv_init : PySem.W.isFn K (.ref fsv_init) = true)
    (lsv_init : K.lookup fsv_init = some ⟨ocsv_init, odsv_init, .func (PySem.W.fnOf "__init__" "Saved.__init__" (defArgs s_sv_init) (defBody s_sv_init) (defScope s_sv_init) .none kVsv_init dcsv_init pmsv_init ansv_init cdsv_init ctsv_init), slsv_init⟩)
    (csv_init : PySem.W.codeIn K cdsv_init "Saved.__init__" = true)
    (ksv_init : PySem.W.keepIn K (.ref fsv_init) = true)
    (asv_enter : PySem.W.findIn K (.ref CS) "__enter__" = some (some (.ref fsv_enter)))
    (isv_enter : PySem.W.isFn K (.ref fsv_enter) = true)
    (lsv_enter : K.lookup fsv_enter = some ⟨ocsv_enter, odsv_enter, .func (PySem.W.fnOf "__enter__" "Saved.__enter__" (defArgs s_sv_enter) (defBody s_sv_enter) (defScope s_sv_enter) .none kVsv_enter dcsv_enter pmsv_enter ansv_enter cdsv_enter ctsv_enter), slsv_enter⟩)
    (csv_enter : PySem.W.codeIn K cdsv_enter "Saved.__enter__" = true)
    (ksv_enter : PySem.W.keepIn K (.ref fsv_enter) = true)
    (asv_exit : PySem.W.findIn K (.ref CS) "__exit__" = some (some (.ref fsv_exit)))
    (isv_exit : PySem.W.isFn K (.ref fsv_exit) = true)
    (lsv_exit : K.lookup fsv_exit = some ⟨ocsv_exit, odsv_exit, .func (PySem.W.fnOf "__exit__" "Saved.__exit__" (defArgs s_sv_exit) (defBody s_sv_exit) (defScope s_sv_exit) .none kVsv_exit dcsv_exit pmsv_exit ansv_exit cdsv_exit ctsv_exit), slsv_exit⟩)
    (csv_exit : PySem.W.codeIn K cdsv_exit "Saved.__exit__" = true)
    (ksv_exit : PySem.W.keepIn K (.ref fsv_exit) = true)
    (pgCS : PySem.W.plainGet K CS Str.empty = true)
    (hdCS : PySem.W.hasDictIn K CS = true)
    (poCS : PySem.W.plainOver K CS = true)
    (saCS : PySem.W.findIn K (.ref CS) "__setattr__" = some (some (.builtin "object.__setattr__")))
    (mkCS : PySem.W.makesIn K CS = true)
    (kcCS : PySem.W.keepIn K (.ref CS) = true)
    (snk : PySem.W.findIn K (.ref CS) "keeper" = some none)
    (snr : PySem.W.findIn K (.ref CS) "rows_before" = some none)
    (aBadNames : PySem.W.nsIn K mainGlobals "BadNames" = some (some (.ref XBadNames)))
    (lBadNames : K.lookup XBadNames = some (excClassObj nmBadNames qnBadNames XBadNames NBadNames bsBadNames bmBadNames true snBadNames subBadNames abBadNames colBadNames ddBadNames k0BadNames k1BadNames k2BadNames k3BadNames k5BadNames "ValueError.__new__"))
    (rBadNames : PySem.HandSPX.refsVE bmBadNames = true)
    (saBadNames : PySem.W.findIn K (.ref XBadNames) "__setattr__" = some (some (.builtin "object.__setattr__")))
    (ecBadNames : PySem.W.subIn K (.ref XBadNames) (.type "BaseException") = some true)
    (tyBadNames : PySem.W.typeIn K (.ref XBadNames) = some (.type "type"))
    (kcBadNames : PySem.W.keepIn K (.ref XBadNames) = true)
    (inBadNames : PySem.W.findIn K (.ref XBadNames) "__init__" = some (some (.ref iBadNames)))
    (tiBadNames : PySem.W.typeIn K (.ref iBadNames) = some (.type "function"))
    (mrBadNames : PySem.W.mroIn K XBadNames (.ref XBadNames) = some true)
    (suBadNames : PySem.W.ks_superIn K XBadNames XBadNames "__init__" = some (some (.builtin "ValueError.__init__")))
    (sbBadNames : PySem.W.subIn K (.ref XBadNames) (.type "ValueError") = some true)
    (fnBadNames : K.lookup iBadNames = some ⟨ocBadNames, odBadNames, .func (PySem.W.ksFn "__init__" "BadNames.__init__" (defArgs s_BadNames) (defBody s_BadNames) (defScope s_BadNames) .none kVBadNames dcBadNames pmBadNames anBadNames (.ref qBadNames) ctBadNames ccBadNames), slBadNames⟩)
    (cdBadNames : PySem.W.codeIn K (.ref qBadNames) "BadNames.__init__" = true)
    (coBadNames : K.lookup qBadNames = some ⟨cclBadNames, cddBadNames, .fields vsBadNames, ccsBadNames⟩)
    (fiBadNames : vsBadNames[2]? = some (.str fileBadNames tfBadNames))
    (flBadNames : ((l.prog.main.file : Str) == fileBadNames) = true)
    (ceBadNames : K.lookup ccBadNames = some ⟨clBadNames, cldBadNames, .cell (some (.ref XBadNames)), cslBadNames⟩)
    (noBadNames_at : PySem.W.findIn K (.ref XBadNames) "at" = some none)
    (gaBadNames : PySem.W.findIn K (.ref XBadNames) "__getattribute__" = some (some (.builtin "BaseException.__getattribute__")))
    (ggBadNames : PySem.W.findIn K (.ref XBadNames) "__getattr__" = some none)
    (hdBadNames : PySem.W.hasDictIn K XBadNames = true)
    (aBadRow : PySem.W.nsIn K mainGlobals "BadRow" = some (some (.ref XBadRow)))
    (lBadRow : K.lookup XBadRow = some (excClassObj nmBadRow qnBadRow XBadRow NBadRow bsBadRow bmBadRow true snBadRow subBadRow abBadRow colBadRow ddBadRow k0BadRow k1BadRow k2BadRow k3BadRow k5BadRow "ValueError.__new__"))
    (rBadRow : PySem.HandSPX.refsVE bmBadRow = true)
    (saBadRow : PySem.W.findIn K (.ref XBadRow) "__setattr__" = some (some (.builtin "object.__setattr__")))
    (ecBadRow : PySem.W.subIn K (.ref XBadRow) (.type "BaseException") = some true)
    (tyBadRow : PySem.W.typeIn K (.ref XBadRow) = some (.type "type"))
    (kcBadRow : PySem.W.keepIn K (.ref XBadRow) = true)
    (inBadRow : PySem.W.findIn K (.ref XBadRow) "__init__" = some (some (.ref iBadRow)))
    (tiBadRow : PySem.W.typeIn K (.ref iBadRow) = some (.type "function"))
    (mrBadRow : PySem.W.mroIn K XBadRow (.ref XBadRow) = some true)
    (suBadRow : PySem.W.ks_superIn K XBadRow XBadRow "__init__" = some (some (.builtin "ValueError.__init__")))
    (sbBadRow : PySem.W.subIn K (.ref XBadRow) (.type "ValueError") = some true)
    (fnBadRow : K.lookup iBadRow = some ⟨ocBadRow, odBadRow, .func (PySem.W.ksFn "__init__" "BadRow.__init__" (defArgs s_BadRow) (defBody s_BadRow) (defScope s_BadRow) .none kVBadRow dcBadRow pmBadRow anBadRow (.ref qBadRow) ctBadRow ccBadRow), slBadRow⟩)
    (cdBadRow : PySem.W.codeIn K (.ref qBadRow) "BadRow.__init__" = true)
    (coBadRow : K.lookup qBadRow = some ⟨cclBadRow, cddBadRow, .fields vsBadRow, ccsBadRow⟩)
    (fiBadRow : vsBadRow[2]? = some (.str fileBadRow tfBadRow))
    (flBadRow : ((l.prog.main.file : Str) == fileBadRow) = true)
    (ceBadRow : K.lookup ccBadRow = some ⟨clBadRow, cldBadRow, .cell (some (.ref XBadRow)), cslBadRow⟩)
    (noBadRow_at : PySem.W.findIn K (.ref XBadRow) "at" = some none)
    (gaBadRow : PySem.W.findIn K (.ref XBadRow) "__getattribute__" = some (some (.builtin "BaseException.__getattribute__")))
    (ggBadRow : PySem.W.findIn K (.ref XBadRow) "__getattr__" = some none)
    (hdBadRow : PySem.W.hasDictIn K XBadRow = true)
    (aNoPlace : PySem.W.nsIn K mainGlobals "NoPlace" = some (some (.ref XNoPlace)))
    (lNoPlace : K.lookup XNoPlace = some (excClassObj nmNoPlace qnNoPlace XNoPlace NNoPlace bsNoPlace bmNoPlace true snNoPlace subNoPlace abNoPlace colNoPlace ddNoPlace k0NoPlace k1NoPlace k2NoPlace k3NoPlace k5NoPlace "ValueError.__new__"))
    (rNoPlace : PySem.HandSPX.refsVE bmNoPlace = true)
    (saNoPlace : PySem.W.findIn K (.ref XNoPlace) "__setattr__" = some (some (.builtin "object.__setattr__")))
    (ecNoPlace : PySem.W.subIn K (.ref XNoPlace) (.type "BaseException") = some true)
    (tyNoPlace : PySem.W.typeIn K (.ref XNoPlace) = some (.type "type"))
    (kcNoPlace : PySem.W.keepIn K (.ref XNoPlace) = true)
    (inNoPlace : PySem.W.findIn K (.ref XNoPlace) "__init__" = some (some (.ref iNoPlace)))
    (tiNoPlace : PySem.W.typeIn K (.ref iNoPlace) = some (.type "function"))
    (mrNoPlace : PySem.W.mroIn K XNoPlace (.ref XNoPlace) = some true)
    (suNoPlace : PySem.W.ks_superIn K XNoPlace XNoPlace "__init__" = some (some (.builtin "ValueError.__init__")))
    (sbNoPlace : PySem.W.subIn K (.ref XNoPlace) (.type "ValueError") = some true)
    (fnNoPlace : K.lookup iNoPlace = some ⟨ocNoPlace, odNoPlace, .func (PySem.W.ksFn "__init__" "NoPlace.__init__" (defArgs s_NoPlace) (defBody s_NoPlace) (defScope s_NoPlace) .none kVNoPlace dcNoPlace pmNoPlace anNoPlace (.ref qNoPlace) ctNoPlace ccNoPlace), slNoPlace⟩)
    (cdNoPlace : PySem.W.codeIn K (.ref qNoPlace) "NoPlace.__init__" = true)
    (coNoPlace : K.lookup qNoPlace = some ⟨cclNoPlace, cddNoPlace, .fields vsNoPlace, ccsNoPlace⟩)
    (fiNoPlace : vsNoPlace[2]? = some (.str fileNoPlace tfNoPlace))
    (flNoPlace : ((l.prog.main.file : Str) == fileNoPlace) = true)
    (ceNoPlace : K.lookup ccNoPlace = some ⟨clNoPlace, cldNoPlace, .cell (some (.ref XNoPlace)), cslNoPlace⟩)
    (noNoPlace_place : PySem.W.findIn K (.ref XNoPlace) "place" = some none)
    (gaNoPlace : PySem.W.findIn K (.ref XNoPlace) "__getattribute__" = some (some (.builtin "BaseException.__getattribute__")))
    (ggNoPlace : PySem.W.findIn K (.ref XNoPlace) "__getattr__" = some none)
    (hdNoPlace : PySem.W.hasDictIn K XNoPlace = true)
    (aNoName : PySem.W.nsIn K mainGlobals "NoName" = some (some (.ref XNoName)))
    (lNoName : K.lookup XNoName = some (excClassObj nmNoName qnNoName XNoName NNoName bsNoName bmNoName true snNoName subNoName abNoName colNoName ddNoName k0NoName k1NoName k2NoName k3NoName k5NoName "ValueError.__new__"))
    (rNoName : PySem.HandSPX.refsVE bmNoName = true)
    (saNoName : PySem.W.findIn K (.ref XNoName) "__setattr__" = some (some (.builtin "object.__setattr__")))
    (ecNoName : PySem.W.subIn K (.ref XNoName) (.type "BaseException") = some true)
    (tyNoName : PySem.W.typeIn K (.ref XNoName) = some (.type "type"))
    (kcNoName : PySem.W.keepIn K (.ref XNoName) = true)
    (inNoName : PySem.W.findIn K (.ref XNoName) "__init__" = some (some (.ref iNoName)))
    (tiNoName : PySem.W.typeIn K (.ref iNoName) = some (.type "function"))
    (mrNoName : PySem.W.mroIn K XNoName (.ref XNoName) = some true)
    (suNoName : PySem.W.ks_superIn K XNoName XNoName "__init__" = some (some (.builtin "ValueError.__init__")))
    (sbNoName : PySem.W.subIn K (.ref XNoName) (.type "ValueError") = some true)
    (fnNoName : K.lookup iNoName = some ⟨ocNoName, odNoName, .func (PySem.W.ksFn "__init__" "NoName.__init__" (defArgs s_NoName) (defBody s_NoName) (defScope s_NoName) .none kVNoName dcNoName pmNoName anNoName (.ref qNoName) ctNoName ccNoName), slNoName⟩)
    (cdNoName : PySem.W.codeIn K (.ref qNoName) "NoName.__init__" = true)
    (coNoName : K.lookup qNoName = some ⟨cclNoName, cddNoName, .fields vsNoName, ccsNoName⟩)
    (fiNoName : vsNoName[2]? = some (.str fileNoName tfNoName))
    (flNoName : ((l.prog.main.file : Str) == fileNoName) = true)
    (ceNoName : K.lookup ccNoName = some ⟨clNoName, cldNoName, .cell (some (.ref XNoName)), cslNoName⟩)
    (noNoName_name : PySem.W.findIn K (.ref XNoName) "name" = some none)
    (gaNoName : PySem.W.findIn K (.ref XNoName) "__getattribute__" = some (some (.builtin "BaseException.__getattribute__")))
    (ggNoName : PySem.W.findIn K (.ref XNoName) "__getattr__" = some none)
    (hdNoName : PySem.W.hasDictIn K XNoName = true)
    (aMismatch : PySem.W.nsIn K mainGlobals "Mismatch" = some (some (.ref XMismatch)))
    (lMismatch : K.lookup XMismatch = some (excClassObj nmMismatch qnMismatch XMismatch NMismatch bsMismatch bmMismatch true snMismatch subMismatch abMismatch colMismatch ddMismatch k0Mismatch k1Mismatch k2Mismatch k3Mismatch k5Mismatch "ValueError.__new__"))
    (rMismatch : PySem.HandSPX.refsVE bmMismatch = true)
    (saMismatch : PySem.W.findIn K (.ref XMismatch) "__setattr__" = some (some (.builtin "object.__setattr__")))
    (ecMismatch : PySem.W.subIn K (.ref XMismatch) (.type "BaseException") = some true)
    (tyMismatch : PySem.W.typeIn K (.ref XMismatch) = some (.type "type"))
    (kcMismatch : PySem.W.keepIn K (.ref XMismatch) = true)
    (inMismatch : PySem.W.findIn K (.ref XMismatch) "__init__" = some (some (.ref iMismatch)))
    (tiMismatch : PySem.W.typeIn K (.ref iMismatch) = some (.type "function"))
    (mrMismatch : PySem.W.mroIn K XMismatch (.ref XMismatch) = some true)
    (suMismatch : PySem.W.ks_superIn K XMismatch XMismatch "__init__" = some (some (.builtin "ValueError.__init__")))
    (sbMismatch : PySem.W.subIn K (.ref XMismatch) (.type "ValueError") = some true)
    (fnMismatch : K.lookup iMismatch = some ⟨ocMismatch, odMismatch, .func (PySem.W.ksFn "__init__" "Mismatch.__init__" (defArgs s_Mismatch) (defBody s_Mismatch) (defScope s_Mismatch) .none kVMismatch dcMismatch pmMismatch anMismatch (.ref qMismatch) ctMismatch ccMismatch), slMismatch⟩)
    (cdMismatch : PySem.W.codeIn K (.ref qMismatch) "Mismatch.__init__" = true)
    (coMismatch : K.lookup qMismatch = some ⟨cclMismatch, cddMismatch, .fields vsMismatch, ccsMismatch⟩)
    (fiMismatch : vsMismatch[2]? = some (.str fileMismatch tfMismatch))
    (flMismatch : ((l.prog.main.file : Str) == fileMismatch) = true)
    (ceMismatch : K.lookup ccMismatch = some ⟨clMismatch, cldMismatch, .cell (some (.ref XMismatch)), cslMismatch⟩)
    (noMismatch_wanted : PySem.W.findIn K (.ref XMismatch) "wanted" = some none)
    (noMismatch_got : PySem.W.findIn K (.ref XMismatch) "got" = some none)
    (gaMismatch : PySem.W.findIn K (.ref XMismatch) "__getattribute__" = some (some (.builtin "BaseException.__getattribute__")))
    (ggMismatch : PySem.W.findIn K (.ref XMismatch) "__getattr__" = some none)
    (hdMismatch : PySem.W.hasDictIn K XMismatch = true)
    (aDifferentLists : PySem.W.nsIn K mainGlobals "DifferentLists" = some (some (.ref XDifferentLists)))
    (lDifferentLists : K.lookup XDifferentLists = some (excClassObj nmDifferentLists qnDifferentLists XDifferentLists NDifferentLists bsDifferentLists bmDifferentLists true snDifferentLists subDifferentLists abDifferentLists colDifferentLists ddDifferentLists k0DifferentLists k1DifferentLists k2DifferentLists k3DifferentLists k5DifferentLists "ValueError.__new__"))
    (rDifferentLists : PySem.HandSPX.refsVE bmDifferentLists = true)
    (saDifferentLists : PySem.W.findIn K (.ref XDifferentLists) "__setattr__" = some (some (.builtin "object.__setattr__")))
    (ecDifferentLists : PySem.W.subIn K (.ref XDifferentLists) (.type "BaseException") = some true)
    (tyDifferentLists : PySem.W.typeIn K (.ref XDifferentLists) = some (.type "type"))
    (kcDifferentLists : PySem.W.keepIn K (.ref XDifferentLists) = true)
    (inDifferentLists : PySem.W.findIn K (.ref XDifferentLists) "__init__" = some (some (.ref iDifferentLists)))
    (tiDifferentLists : PySem.W.typeIn K (.ref iDifferentLists) = some (.type "function"))
    (mrDifferentLists : PySem.W.mroIn K XDifferentLists (.ref XDifferentLists) = some true)
    (suDifferentLists : PySem.W.ks_superIn K XDifferentLists XDifferentLists "__init__" = some (some (.builtin "ValueError.__init__")))
    (sbDifferentLists : PySem.W.subIn K (.ref XDifferentLists) (.type "ValueError") = some true)
    (fnDifferentLists : K.lookup iDifferentLists = some ⟨ocDifferentLists, odDifferentLists, .func (PySem.W.ksFn "__init__" "DifferentLists.__init__" (defArgs s_DifferentLists) (defBody s_DifferentLists) (defScope s_DifferentLists) .none kVDifferentLists dcDifferentLists pmDifferentLists anDifferentLists (.ref qDifferentLists) ctDifferentLists ccDifferentLists), slDifferentLists⟩)
    (cdDifferentLists : PySem.W.codeIn K (.ref qDifferentLists) "DifferentLists.__init__" = true)
    (coDifferentLists : K.lookup qDifferentLists = some ⟨cclDifferentLists, cddDifferentLists, .fields vsDifferentLists, ccsDifferentLists⟩)
    (fiDifferentLists : vsDifferentLists[2]? = some (.str fileDifferentLists tfDifferentLists))
    (flDifferentLists : ((l.prog.main.file : Str) == fileDifferentLists) = true)
    (ceDifferentLists : K.lookup ccDifferentLists = some ⟨clDifferentLists, cldDifferentLists, .cell (some (.ref XDifferentLists)), cslDifferentLists⟩)
    (noDifferentLists_one : PySem.W.findIn K (.ref XDifferentLists) "one" = some none)
    (noDifferentLists_other : PySem.W.findIn K (.ref XDifferentLists) "other" = some none)
    (gaDifferentLists : PySem.W.findIn K (.ref XDifferentLists) "__getattribute__" = some (some (.builtin "BaseException.__getattribute__")))
    (ggDifferentLists : PySem.W.findIn K (.ref XDifferentLists) "__getattr__" = some none)
    (hdDifferentLists : PySem.W.hasDictIn K XDifferentLists = true)
    (thi : PySem.W.nsIn K cStatics "thirdparty.any" = some none)
    (z_super : PySem.W.nsIn K mainGlobals "super" = some none)
    (tops : (l.prog.main.scope.names.lookup ("super" : Str)).isSome = false)
    (exa : exAll K [XBadNames, XBadRow, XNoPlace, XNoName, XMismatch, XDifferentLists] = true)
    (exn : [XBadNames, XBadRow, XNoPlace, XNoName, XMismatch, XDifferentLists].Nodup)
    (z_len : PySem.W.nsIn K mainGlobals "len" = some none)
    (z_abs : PySem.W.nsIn K mainGlobals "abs" = some none)
    (z_int : PySem.W.nsIn K mainGlobals "int" = some none)
    (z_range : PySem.W.nsIn K mainGlobals "range" = some none)
    (z_list : PySem.W.nsIn K mainGlobals "list" = some none)
    (z_tuple : PySem.W.nsIn K mainGlobals "tuple" = some none)
    (z_str : PySem.W.nsIn K mainGlobals "str" = some none)
    (z_max : PySem.W.nsIn K mainGlobals "max" = some none)
    (z_min : PySem.W.nsIn K mainGlobals "min" = some none)
    (z_enumerate : PySem.W.nsIn K mainGlobals "enumerate" = some none)
    (z_isinstance : PySem.W.nsIn K mainGlobals "isinstance" = some none)
    (z_bool : PySem.W.nsIn K mainGlobals "bool" = some none)
    (z_all : PySem.W.nsIn K mainGlobals "all" = some none)
    (z_zip : PySem.W.nsIn K mainGlobals "zip" = some none)
    (z_sorted : PySem.W.nsIn K mainGlobals "sorted" = some none)
    (z_KeyError : PySem.W.nsIn K mainGlobals "KeyError" = some none)
    (g_let : PySem.W.nsIn K mainGlobals "LETTERS" = some (some (.str LET tLet)))
    (g_kpt : PySem.W.nsIn K mainGlobals "KEPT" = some (some (.ref KPT)))
    (g_mst : PySem.W.nsIn K mainGlobals "MOST_NUMBER" = some (some (.int (10 ^ 30) tMost)))
    (g_msn : PySem.W.nsIn K mainGlobals "MOST_NAMES" = some (some (.int 6 tMostn)))
    (ykept : K.lookup KPT = some ⟨.type "tuple", ddk, .seq #[.str "lists" tk0, .str "define" tk1, .str "end" tk2, .str "take" tk3, .str "order" tk4, .str "down" tk5, .str "keep" tk6, .str "turn" tk7, .str "new" tk8, .str "front" tk9, .str "back" tk10, .str "any" tk11, .str "spot" tk12, .str "move" tk13, .str "cut" tk14, .str "set" tk15, .str "pour" tk16, .str "into" tk17, .str "check" tk18, .str "stop" tk19, .str "call" tk20, .str "maybe" tk21, .str "else" tk22, .str "repeat" tk23, .str "guard" tk24] nKk, slk⟩)
    (ne_latt_m_sorting : tPlatt ≠ tPm_sorting)
    (ne_m_sorting_latt : tPm_sorting ≠ tPlatt)
    (g_se : PySem.W.nsIn K mainGlobals "SidelistsError" = some (some (.ref CSE)))
    (hexP : PySem.W.exmOne K (.ref XNoPlace) (.ref CSE) = some true)
    (hexR : PySem.W.exmOne K (.ref XBadRow) (.ref CSE) = some true)
    (hexN : PySem.W.exmOne K (.ref XNoName) (.ref CSE) = some true)
    (hexM : PySem.W.exmOne K (.ref XMismatch) (.ref CSE) = some true)
    (hexO : PySem.W.exmOne K (.type "KeyError") (.ref CSE) = some false)
    : LamX.LawAtS l w K CX0 24 63 "_law_script" mg fa h := by
  have e := hfa.symm.trans (PySem.W.mg_of X G alaw)
  cases e
  have B : Blt mg := ⟨PySem.W.mg_none_of X G z_len, PySem.W.mg_none_of X G z_abs, PySem.W.mg_none_of X G z_int, PySem.W.mg_none_of X G z_range, PySem.W.mg_none_of X G z_list, PySem.W.mg_none_of X G z_tuple, PySem.W.mg_none_of X G z_str, PySem.W.mg_none_of X G z_max, PySem.W.mg_none_of X G z_min, PySem.W.mg_none_of X G z_enumerate, PySem.W.mg_none_of X G z_isinstance⟩
  have TBadNames : XcF l.prog K mg "BadNames" XBadNames iBadNames := ⟨⟨⟨_, _, _, _, _, _, _, _, _, _, _, _, _, _, _, lBadNames, rBadNames⟩, saBadNames, ecBadNames, tyBadNames, kcBadNames⟩, inBadNames, tiBadNames, ⟨_, by unfold PySem.W.clsIn; rw [lBadNames] <;> rfl⟩, mrBadNames, suBadNames, sbBadNames, thi, tops, PySem.W.mg_none_of X G z_super, PySem.W.mg_of X G aBadNames⟩
  have FBadNames : XfC K XBadNames := ⟨gaBadNames, ggBadNames, ecBadNames, hdBadNames⟩
  have TBadRow : XcF l.prog K mg "BadRow" XBadRow iBadRow := ⟨⟨⟨_, _, _, _, _, _, _, _, _, _, _, _, _, _, _, lBadRow, rBadRow⟩, saBadRow, ecBadRow, tyBadRow, kcBadRow⟩, inBadRow, tiBadRow, ⟨_, by unfold PySem.W.clsIn; rw [lBadRow] <;> rfl⟩, mrBadRow, suBadRow, sbBadRow, thi, tops, PySem.W.mg_none_of X G z_super, PySem.W.mg_of X G aBadRow⟩
  have FBadRow : XfC K XBadRow := ⟨gaBadRow, ggBadRow, ecBadRow, hdBadRow⟩
  have TNoPlace : XcF l.prog K mg "NoPlace" XNoPlace iNoPlace := ⟨⟨⟨_, _, _, _, _, _, _, _, _, _, _, _, _, _, _, lNoPlace, rNoPlace⟩, saNoPlace, ecNoPlace, tyNoPlace, kcNoPlace⟩, inNoPlace, tiNoPlace, ⟨_, by unfold PySem.W.clsIn; rw [lNoPlace] <;> rfl⟩, mrNoPlace, suNoPlace, sbNoPlace, thi, tops, PySem.W.mg_none_of X G z_super, PySem.W.mg_of X G aNoPlace⟩
  have FNoPlace : XfC K XNoPlace := ⟨gaNoPlace, ggNoPlace, ecNoPlace, hdNoPlace⟩
  have TNoName : XcF l.prog K mg "NoName" XNoName iNoName := ⟨⟨⟨_, _, _, _, _, _, _, _, _, _, _, _, _, _, _, lNoName, rNoName⟩, saNoName, ecNoName, tyNoName, kcNoName⟩, inNoName, tiNoName, ⟨_, by unfold PySem.W.clsIn; rw [lNoName] <;> rfl⟩, mrNoName, suNoName, sbNoName, thi, tops, PySem.W.mg_none_of X G z_super, PySem.W.mg_of X G aNoName⟩
  have FNoName : XfC K XNoName := ⟨gaNoName, ggNoName, ecNoName, hdNoName⟩
  have TMismatch : XcF l.prog K mg "Mismatch" XMismatch iMismatch := ⟨⟨⟨_, _, _, _, _, _, _, _, _, _, _, _, _, _, _, lMismatch, rMismatch⟩, saMismatch, ecMismatch, tyMismatch, kcMismatch⟩, inMismatch, tiMismatch, ⟨_, by unfold PySem.W.clsIn; rw [lMismatch] <;> rfl⟩, mrMismatch, suMismatch, sbMismatch, thi, tops, PySem.W.mg_none_of X G z_super, PySem.W.mg_of X G aMismatch⟩
  have FMismatch : XfC K XMismatch := ⟨gaMismatch, ggMismatch, ecMismatch, hdMismatch⟩
  have TDifferentLists : XcF l.prog K mg "DifferentLists" XDifferentLists iDifferentLists := ⟨⟨⟨_, _, _, _, _, _, _, _, _, _, _, _, _, _, _, lDifferentLists, rDifferentLists⟩, saDifferentLists, ecDifferentLists, tyDifferentLists, kcDifferentLists⟩, inDifferentLists, tiDifferentLists, ⟨_, by unfold PySem.W.clsIn; rw [lDifferentLists] <;> rfl⟩, mrDifferentLists, suDifferentLists, sbDifferentLists, thi, tops, PySem.W.mg_none_of X G z_super, PySem.W.mg_of X G aDifferentLists⟩
  have FDifferentLists : XfC K XDifferentLists := ⟨gaDifferentLists, ggDifferentLists, ecDifferentLists, hdDifferentLists⟩
  refine ⟨PySem.W.fnOf "law" "law" (defArgs s_law) (defBody s_law) (defScope s_law) .none kVlaw dclaw pmlaw anlaw cdlaw ctlaw, [(cdm_sorting, tPm_sorting), (cdlatt, tPlatt)], spLaw K [(tPm_sorting, lamQ "Move.sorting" (defScope s_m_sorting)), (tPlatt, ndQ "_law_attempt" (defScope s_latt) "_law_action")], List.forall_mem_cons.mpr ⟨ttm_sorting, List.forall_mem_cons.mpr ⟨ttlatt, (fun _ hp => nomatch hp)⟩⟩, List.forall_mem_cons.mpr ⟨tnm_sorting, List.forall_mem_cons.mpr ⟨tnlatt, (fun _ hp => nomatch hp)⟩⟩, List.forall_mem_cons.mpr ⟨PySem.W.codeHd_of_K X thm_sorting, List.forall_mem_cons.mpr ⟨PySem.W.codeHd_of_K X thlatt, (fun _ hp => nomatch hp)⟩⟩, fun s v => .of_eq rfl, fun H a ns hl _ hH hS => ?_, fun base _ _ hTB => ?_⟩
  · refine ⟨a, ns, rfl, hS, hl, List.forall_mem_cons.mpr ⟨LamX.TabS.nil (hH (cdm_sorting, tPm_sorting) (by simp)), List.forall_mem_cons.mpr ⟨LamX.TabS.nil (hH (cdlatt, tPlatt) (by simp)), (fun _ hp => nomatch hp)⟩⟩, fun _ => rfl⟩
  have TBm_sorting := hTB (cdm_sorting, tPm_sorting) (by simp)
  have TBlatt := hTB (cdlatt, tPlatt) (by simp)
  have QBadNames : Xc l.prog w K mg base 1 "BadNames" XBadNames ["at"] := ok_x1 TBadNames fnBadNames cdBadNames (nscope_by (by decide +kernel)) rfl rfl ⟨_, _, _, _, _, _, coBadNames, fiBadNames, flBadNames⟩ ⟨_, _, _, ceBadNames⟩ rfl noBadNames_at (by decide) (by decide) (.all fun us hl => match us, hl with | [_, _], _ => rfl)
  have QBadRow : Xc l.prog w K mg base 1 "BadRow" XBadRow ["at"] := ok_x1 TBadRow fnBadRow cdBadRow (nscope_by (by decide +kernel)) rfl rfl ⟨_, _, _, _, _, _, coBadRow, fiBadRow, flBadRow⟩ ⟨_, _, _, ceBadRow⟩ rfl noBadRow_at (by decide) (by decide) (.all fun us hl => match us, hl with | [_, _], _ => rfl)
  have QNoPlace : Xc l.prog w K mg base 1 "NoPlace" XNoPlace ["place"] := ok_x1 TNoPlace fnNoPlace cdNoPlace (nscope_by (by decide +kernel)) rfl rfl ⟨_, _, _, _, _, _, coNoPlace, fiNoPlace, flNoPlace⟩ ⟨_, _, _, ceNoPlace⟩ rfl noNoPlace_place (by decide) (by decide) (.all fun us hl => match us, hl with | [_, _], _ => rfl)
  have QNoName : Xc l.prog w K mg base 1 "NoName" XNoName ["name"] := ok_x1 TNoName fnNoName cdNoName (nscope_by (by decide +kernel)) rfl rfl ⟨_, _, _, _, _, _, coNoName, fiNoName, flNoName⟩ ⟨_, _, _, ceNoName⟩ rfl noNoName_name (by decide) (by decide) (.all fun us hl => match us, hl with | [_, _], _ => rfl)
  have QMismatch : Xc l.prog w K mg base 1 "Mismatch" XMismatch ["wanted", "got"] := ok_x2 TMismatch fnMismatch cdMismatch (nscope_by (by decide +kernel)) rfl rfl ⟨_, _, _, _, _, _, coMismatch, fiMismatch, flMismatch⟩ ⟨_, _, _, ceMismatch⟩ rfl noMismatch_wanted noMismatch_got (by decide) (by decide) (by decide) (by decide) (.all fun us hl => match us, hl with | [_, _, _], _ => rfl)
  have QDifferentLists : Xc l.prog w K mg base 1 "DifferentLists" XDifferentLists ["one", "other"] := ok_x2 TDifferentLists fnDifferentLists cdDifferentLists (nscope_by (by decide +kernel)) rfl rfl ⟨_, _, _, _, _, _, coDifferentLists, fiDifferentLists, flDifferentLists⟩ ⟨_, _, _, ceDifferentLists⟩ rfl noDifferentLists_one noDifferentLists_other (by decide) (by decide) (by decide) (by decide) (.all fun us hl => match us, hl with | [_, _, _], _ => rfl)
  have TW : TxtW K mg KPT := ⟨B, PySem.W.mg_none_of X G z_bool, PySem.W.mg_none_of X G z_all, ⟨_, PySem.W.mg_of X G g_let, ⟨_, rfl⟩⟩, ⟨_, PySem.W.mg_of X G g_kpt, rfl⟩, ⟨_, PySem.W.mg_of X G g_mst, ⟨_, rfl⟩⟩, ⟨_, PySem.W.mg_of X G g_msn, ⟨_, rfl⟩⟩, fun H => .inr ⟨_, _, _, ykept, rfl, rfl, (by show 25 ≤ sizeLine; decide), (.cons ⟨_, rfl⟩ (.cons ⟨_, rfl⟩ (.cons ⟨_, rfl⟩ (.cons ⟨_, rfl⟩ (.cons ⟨_, rfl⟩ (.cons ⟨_, rfl⟩ (.cons ⟨_, rfl⟩ (.cons ⟨_, rfl⟩ (.cons ⟨_, rfl⟩ (.cons ⟨_, rfl⟩ (.cons ⟨_, rfl⟩ (.cons ⟨_, rfl⟩ (.cons ⟨_, rfl⟩ (.cons ⟨_, rfl⟩ (.cons ⟨_, rfl⟩ (.cons ⟨_, rfl⟩ (.cons ⟨_, rfl⟩ (.cons ⟨_, rfl⟩ (.cons ⟨_, rfl⟩ (.cons ⟨_, rfl⟩ (.cons ⟨_, rfl⟩ (.cons ⟨_, rfl⟩ (.cons ⟨_, rfl⟩ (.cons ⟨_, rfl⟩ (.cons ⟨_, rfl⟩ .nil)))))))))))))))))))))))))⟩⟩
  have T : TxtKe K mg KPT CK := ⟨TW, ⟨pgCK, hdCK, poCK, saCK⟩, nn, nh, PySem.W.mg_of X G aCK⟩
  have I1 : Cl l.prog w K mg base CX0 1 "is_integer" (spIsInt K) := ⟨_, ok_isint (fun_mk (st := s_isint) lisint cisint kisint) TW, PySem.W.mg_of X G aisint, kisint⟩
  have I2 : Cl l.prog w K mg base CX0 2 "is_number" (spIsNum K) := ⟨_, ok_isnum (fun_mk (st := s_isnum) lisnum cisnum kisnum) TW I1, PySem.W.mg_of X G aisnum, kisnum⟩
  have I3 : Cl l.prog w K mg base CX0 1 "is_word" (spIsWord) := ⟨_, ok_isword (fun_mk (st := s_isword) lisword cisword kisword) TW, PySem.W.mg_of X G aisword, kisword⟩
  have I4 : Cl l.prog w K mg base CX0 2 "check_names" (spCNames K) := ⟨_, ok_cnames (fun_mk (st := s_cnames) lcnames ccnames kcnames) TW I3, PySem.W.mg_of X G acnames, kcnames⟩
  have I5 : Cl l.prog w K mg base CX0 3 "is_row" (spIsRow K) := ⟨_, ok_isrow (fun_mk (st := s_isrow) lisrow cisrow kisrow) TW I2, PySem.W.mg_of X G aisrow, kisrow⟩
  have I6 : Cl l.prog w K mg base CX0 4 "check_rows" (spCRows K) := ⟨_, ok_crows (fun_mk (st := s_crows) lcrows ccrows kcrows) TW I5, PySem.W.mg_of X G acrows, kcrows⟩
  have I7 : Cl l.prog w K mg base CX0 5 "check_table" (spCRows K) := ⟨_, ok_ctable (fun_mk (st := s_ctable) lctable cctable kctable) TW I6, PySem.W.mg_of X G actable, kctable⟩
  have Fk : FunD K "__init__" "Keeper.__init__" (defArgs s_k_init) (defBody s_k_init) (defScope s_k_init) [.ref Ek_init] [] fk_init _ := ⟨⟨_, _, _, _, _, _, _, _, _, _, rfl, lk_init, ck_init, .inr ⟨List.cons_ne_nil _ _, _, _, [.ref Ek_init], _, rfl, yk_init, rfl, .cons rfl .nil⟩, .inl rfl⟩, kk_init⟩
  obtain ⟨dsk, vdk, bdk⟩ := Fk.binds1 (ps := ["self", "names", "rows"]) 3 1 (List.cons_ne_nil _ _) rfl fun _ _ _ _ _ _ _ us its hu hi => match us, its, hu, hi with | [_, _, _], [_], _, _ => ⟨_, rfl, rfl⟩
  cases vdk
  have M1 : Ml l.prog w K mg base CX0 6 "Keeper" CK (spKInit K CK) := ⟨_, ⟨mkCK, ak_init, ik_init, kcCK⟩, FnOk.r (okf_kinit Fk T I4 I7) bdk, T.g_Keeper⟩
  have Ft := fun_mk (st := s_k_table) lk_table ck_table kk_table
  have P1 : Pr l.prog w K mg base CX0 1 CK "table" (spTable K CK) := ⟨_, _, _, _, T.ck, ⟨ak_table, gk_table, tk_table, ⟨_, r_k_table⟩⟩, okf_table Ft T, Ft.binds fun _ _ _ _ _ _ us hl => match us, hl with | [_], _ => rfl⟩
  have J1 : Me l.prog w K mg base (L2.CX l.prog w) 3 CK "index_of" (spIndexOf K CK XNoName) := ⟨_, ok_index_of (fun_mk (st := s_k_index_of) lk_index_of ck_index_of kk_index_of) T QNoName, ak_index_of, ik_index_of, kk_index_of⟩
  have J2 : Me l.prog w K mg base (L2.CX l.prog w) 3 CK "check_place" (spCheckPlace K CK XNoPlace) := ⟨_, ok_check_place (fun_mk (st := s_k_check_place) lk_check_place ck_check_place kk_check_place) T QNoPlace, ak_check_place, ik_check_place, kk_check_place⟩
  have J3 : Me l.prog w K mg base (L2.CX l.prog w) 4 CK "__getitem__" (spKGet K CK XNoName XNoPlace) := ⟨_, ok_kgetitem (fun_mk (st := s_k_getitem) lk_getitem ck_getitem kk_getitem) T J1 J2, ak_getitem, ik_getitem, kk_getitem⟩
  have GI : ∀ g, PySem.W.findIn K (.ref CK) "__getitem__" = some (some (.ref g)) → PySem.W.fnIn K g = true := fun g e => by
    rw [ak_getitem] at e
    cases e
    exact xk_getitem
  have nZ := PySem.W.mg_none_of X G z_zip
  have D1 : Cl l.prog w K mg base CX0 1 "_law_bag" (spBag K) := ⟨_, ok_bag (fun_mk (st := s_bag) lbag cbag kbag) B, PySem.W.mg_of X G abag, kbag⟩
  have D2 : Cl l.prog w K mg base CX0 1 "_law_take" (spTake) := ⟨_, ok_take (fun_mk (st := s_take) ltake ctake ktake) B, PySem.W.mg_of X G atake, ktake⟩
  have D3 : Cl l.prog w K mg base CX0 2 "_law_of" (spOf K) := ⟨_, ok_of (fun_mk (st := s_of) lof cof kof) B D2, PySem.W.mg_of X G aof, kof⟩
  have D4 : Cl l.prog w K mg base CX0 2 "_law_of" (spOfS) := ⟨_, ok_ofS (fun_mk (st := s_of) lof cof kof) B D2, PySem.W.mg_of X G aof, kof⟩
  have D5 : Cl l.prog w K mg base CX0 2 "_law_count" (spCount) := ⟨_, ok_count (fun_mk (st := s_count) lcount ccount kcount) B D2, PySem.W.mg_of X G acount, kcount⟩
  have D6 : Cl l.prog w K mg base CX0 3 "_law_name" (spName) := ⟨_, ok_name (fun_mk (st := s_name) lname cname kname) B D2 D4, PySem.W.mg_of X G aname, kname⟩
  have D8 : Cl l.prog w K mg base CX0 2 "_law_number" (spNumber) := ⟨_, ok_number (fun_mk (st := s_number) lnumber cnumber knumber) B D2, PySem.W.mg_of X G anumber, knumber⟩
  have D9 : Cl l.prog w K mg base CX0 3 "_law_rows" (spRows) := ⟨_, ok_rows (fun_mk (st := s_rows) lrows crows krows) B D2 D3 D8, PySem.W.mg_of X G arows, krows⟩
  have hu_m_sorting : ∀ p ∈ [(tPm_sorting, lamQ "Move.sorting" (defScope s_m_sorting)), (tPlatt, ndQ "_law_attempt" (defScope s_latt) "_law_action")], p.1 = tPm_sorting → p.2 = lamQ "Move.sorting" (defScope s_m_sorting) := fun p hp e => by
    simp only [List.mem_cons, List.not_mem_nil, or_false] at hp
    rcases hp with rfl | rfl
    · rfl
    · exact absurd e ne_latt_m_sorting
  have hu_latt : ∀ p ∈ [(tPm_sorting, lamQ "Move.sorting" (defScope s_m_sorting)), (tPlatt, ndQ "_law_attempt" (defScope s_latt) "_law_action")], p.1 = tPlatt → p.2 = ndQ "_law_attempt" (defScope s_latt) "_law_action" := fun p hp e => by
    simp only [List.mem_cons, List.not_mem_nil, or_false] at hp
    rcases hp with rfl | rfl
    · exact absurd e ne_m_sorting_latt
    · rfl
  have TM : TxtM K mg C := ⟨B, ⟨pgC, hdC, poC, saC⟩, nt, np, PySem.W.mg_of X G aC, ⟨⟨pgC, hdC, poC, saC⟩, hcl, hcg, hct, hcm, if_pos (beq_self_eq_true _)⟩, sf, nf⟩
  have Fcall : FunD K "__call__" "Move.__call__" (defArgs s_m_call) (defBody s_m_call) (defScope s_m_call) [.ref Em_call] [] fm_call _ := ⟨⟨_, _, _, _, _, _, _, _, _, _, rfl, lm_call, cm_call, .inr ⟨List.cons_ne_nil _ _, _, _, [.ref Em_call], _, rfl, ym_call, rfl, .cons rfl .nil⟩, .inl rfl⟩, km_call⟩
  have MM1 : Ml l.prog w K mg base CX0 1 "Move" C (spInit K C) := ⟨_, ⟨mkC, am_init, im_init, kcC⟩, ok_init (fun_mk (st := s_m_init) lm_init cm_init km_init) TM, TM.g_Move⟩
  have Fg := fun_mk (st := s_m_gaps) lm_gaps cm_gaps km_gaps
  have G1 : Pr l.prog w K mg base CX0 1 C "gaps" (spGaps K C) := ⟨_, _, _, _, TM.cl, ⟨am_gaps, gm_gaps, tm_gaps, ⟨_, r_m_gaps⟩⟩, okf_gaps Fg TM, Fg.binds fun _ _ _ _ _ _ us hl => match us, hl with | [_], _ => rfl⟩
  have C2 : Ca l.prog w K mg base CX0 3 C (spCall K C) := ⟨_, ⟨am_call, im_call, xm_call⟩, FnOk.r (ok_call Fcall TM G1) (call_binds Fcall)⟩
  have S2 : Sm l.prog w K mg base CX0 3 "Move" "turning" (spTurning K C) := ⟨_, _, _, _, TM.g_Move, ⟨rds, rga⟩, ⟨am_turning, ⟨_, r_m_turning⟩, km_turning⟩, ok_turning (fun_mk (st := s_m_turning) lm_turning cm_turning km_turning) TM MM1⟩
  have S3 : Sm l.prog w K mg base CX0 3 "Move" "keeping" (spKeeping K C) := ⟨_, _, _, _, TM.g_Move, ⟨rds, rga⟩, ⟨am_keeping, ⟨_, r_m_keeping⟩, km_keeping⟩, ok_keeping (fun_mk (st := s_m_keeping) lm_keeping cm_keeping km_keeping) TM MM1⟩
  have S5 : Sm l.prog w K mg base CX0 3 "Move" "still" (spStill K C) := ⟨_, _, _, _, TM.g_Move, ⟨rds, rga⟩, ⟨am_still, ⟨_, r_m_still⟩, km_still⟩, ok_still (fun_mk (st := s_m_still) lm_still cm_still km_still) TM MM1⟩
  have I8 : Cl l.prog w K mg base (L2.CX l.prog w) 4 "check_rows" (spCRowsX K [(tPm_sorting, lamQ "Move.sorting" (defScope s_m_sorting)), (tPlatt, ndQ "_law_attempt" (defScope s_latt) "_law_action")] XBadRow) := ⟨_, ok_crowsX (fun_mk (st := s_crows) lcrows ccrows kcrows) TW QBadRow I5, PySem.W.mg_of X G acrows, kcrows⟩
  have kis : C8.InsC K CK := ⟨⟨pgCK, hdCK, poCK, saCK⟩, khc, khg, kht, khm, if_pos (beq_self_eq_true _)⟩
  have nKE := PySem.W.mg_none_of X G z_KeyError
  have hSE := PySem.W.mg_of X G g_se
  have J4 : Me l.prog w K mg base CX0 4 CK "moved" (spMoved K [(tPm_sorting, lamQ "Move.sorting" (defScope s_m_sorting)), (tPlatt, ndQ "_law_attempt" (defScope s_latt) "_law_action")] CK C) := ⟨_, ok_moved (fun_mk (st := s_k_moved) lk_moved ck_moved kk_moved) T C2, ak_moved, ik_moved, kk_moved⟩
  have J5 : Me l.prog w K mg base (L2.CX l.prog w) 5 CK "add" (spAdd K [(tPm_sorting, lamQ "Move.sorting" (defScope s_m_sorting)), (tPlatt, ndQ "_law_attempt" (defScope s_latt) "_law_action")] CK C XBadRow XNoPlace .non) := ⟨_, ok_addD lk_add ck_add kdk_add_at T MM1 J4 QNoPlace I8, ak_add, ik_add, kk_add⟩
  have J6 : MeK l.prog w K mg base (L2.CX l.prog w) 5 CK "add" ["at"] (fun zs vs H Q E => ∃ z, zs = [z] ∧ spAdd K [(tPm_sorting, lamQ "Move.sorting" (defScope s_m_sorting)), (tPlatt, ndQ "_law_attempt" (defScope s_latt) "_law_action")] CK C XBadRow XNoPlace z vs H Q E) := ⟨_, ok_addK lk_add ck_add T MM1 J4 QNoPlace I8, ak_add, ik_add, kk_add⟩
  have J7 : Me l.prog w K mg base (L2.CX l.prog w) 3 CK "put_column" (spPutCol K CK XMismatch XBadRow) := ⟨_, ok_put_column (fun_mk (st := s_k_put_column) lk_put_column ck_put_column kk_put_column) T nZ QMismatch QBadRow I2, ak_put_column, ik_put_column, kk_put_column⟩
  have J8 : Me l.prog w K mg base (L2.CX l.prog w) 4 CK "__setitem__" (spKSet K [(tPm_sorting, lamQ "Move.sorting" (defScope s_m_sorting)), (tPlatt, ndQ "_law_attempt" (defScope s_latt) "_law_action")] CK XNoName XNoPlace XBadRow XMismatch) := ⟨_, ok_ksetitem (fun_mk (st := s_k_setitem) lk_setitem ck_setitem kk_setitem) T J1 J2 J7 QBadRow I2 I5, ak_setitem, ik_setitem, kk_setitem⟩
  have J9 : Me l.prog w K mg base CX0 5 CK "turn" (spTurn K [(tPm_sorting, lamQ "Move.sorting" (defScope s_m_sorting)), (tPlatt, ndQ "_law_attempt" (defScope s_latt) "_law_action")] CK C) := ⟨_, ok_turn (fun_mk (st := s_k_turn) lk_turn ck_turn kk_turn) T S2 J4, ak_turn, ik_turn, kk_turn⟩
  have nS := PySem.W.mg_none_of X G z_sorted
  have FS := okf_sortE (P := l.prog) (w := w) (TS := [(tPm_sorting, lamQ "Move.sorting" (defScope s_m_sorting)), (tPlatt, ndQ "_law_attempt" (defScope s_latt) "_law_action")]) (fun_mk (st := s_m_sorting) lm_sorting cm_sorting km_sorting) rfl TM nS MM1 TBm_sorting List.mem_cons_self hu_m_sorting
  have S4 : SmN l.prog w K mg base CX0 4 "Move" "sorting" 1 ["down"] (fun vs zs => vs ++ zs) (spSortE K C [(tPm_sorting, lamQ "Move.sorting" (defScope s_m_sorting)), (tPlatt, ndQ "_law_attempt" (defScope s_latt) "_law_action")]) := ⟨_, _, _, _, _, _, fun us ws => us ++ ws, TM.g_Move, ⟨rds, rga⟩, ⟨am_sorting, ⟨_, r_m_sorting⟩, km_sorting⟩, FS, ⟨fun s us ws _ h1 h2 => .of_eq (match us, ws, h1, h2 with | [_], [_], _, _ => rfl), fun r1 r2 => r1.append r2⟩⟩
  have FD : FunD K "order" "Keeper.order" (defArgs s_k_order) (defBody s_k_order) (defScope s_k_order) [] [("down", .bl false)] fk_order _ := ⟨⟨_, _, _, _, _, _, _, _, _, _, rfl, lk_order, ck_order, .inl ⟨rfl, rfl⟩, .inr ⟨_, rfl, fun q hq => by rw [List.mem_singleton.mp hq]; exact ⟨_, kdk_order_down, rfl⟩⟩⟩, kk_order⟩
  obtain ⟨ds, vd, bd⟩ := FD.binds0 (ps := ["self", "by", "down"]) 2 (List.cons_ne_nil _ _) rfl fun D doc pm an cdv ct us ks hu hk => match us, ks, hu, hk with | [_, _], [_], _, _ => ⟨_, _, _, _, _, _, rfl, rfl, rfl⟩
  have FO := okf_order (P := l.prog) (w := w) (base := base) (TS := [(tPm_sorting, lamQ "Move.sorting" (defScope s_m_sorting)), (tPlatt, ndQ "_law_attempt" (defScope s_latt) "_law_action")]) FD T S4 J4 J3 GI
  have J11 : Me l.prog w K mg base (L2.CX l.prog w) 6 CK "order" (fun vs H Q E => spOrder K [(tPm_sorting, lamQ "Move.sorting" (defScope s_m_sorting)), (tPlatt, ndQ "_law_attempt" (defScope s_latt) "_law_action")] CK C XNoName (vs ++ [.bl false]) H Q E) := ⟨_, FnOk.raw FO bd vd, ak_order, ik_order, kk_order⟩
  have J12 : MeK l.prog w K mg base (L2.CX l.prog w) 6 CK "order" ["down"] (fun zs vs H Q E => vs.length = 2 ∧ spOrder K [(tPm_sorting, lamQ "Move.sorting" (defScope s_m_sorting)), (tPlatt, ndQ "_law_attempt" (defScope s_latt) "_law_action")] CK C XNoName (vs ++ zs) H Q E) := ⟨_, fnk_of (g := fun us ws => us ++ ws) (gV := fun vs zs => vs ++ zs) FO ⟨fun s us ws _ h1 h2 => .of_eq (match us, ws, h1, h2 with | [_, _], [_], _, _ => rfl), fun r1 r2 => r1.append r2⟩, ak_order, ik_order, kk_order⟩
  have J13 : Me l.prog w K mg base (L2.CX l.prog w) 5 CK "drop" (spDrop K [(tPm_sorting, lamQ "Move.sorting" (defScope s_m_sorting)), (tPlatt, ndQ "_law_attempt" (defScope s_latt) "_law_action")] CK C XNoPlace) := ⟨_, ok_drop (fun_mk (st := s_k_drop) lk_drop ck_drop kk_drop) T S3 J4 QNoPlace, ak_drop, ik_drop, kk_drop⟩
  have J14 : Me l.prog w K mg base CX0 1 CK "__len__" (spKLen K CK) := ⟨_, ok_klen (fun_mk (st := s_k_len) lk_len ck_len kk_len) T, ak_len, ik_len, kk_len⟩
  have J15 : Me l.prog w K mg base (L2.CX l.prog w) 3 CK "check_names_of" (spCNO [(tPm_sorting, lamQ "Move.sorting" (defScope s_m_sorting)), (tPlatt, ndQ "_law_attempt" (defScope s_latt) "_law_action")] CK XDifferentLists) := ⟨_, ok_cno (fun_mk (st := s_k_check_names_of) lk_check_names_of ck_check_names_of kk_check_names_of) T QDifferentLists, ak_check_names_of, ik_check_names_of, kk_check_names_of⟩
  have J16 : Me l.prog w K mg base (L2.CX l.prog w) 4 CK "__iadd__" (spKIadd [(tPm_sorting, lamQ "Move.sorting" (defScope s_m_sorting)), (tPlatt, ndQ "_law_attempt" (defScope s_latt) "_law_action")] CK XDifferentLists) := ⟨_, ok_kiadd (fun_mk (st := s_k_iadd) lk_iadd ck_iadd kk_iadd) T J15, ak_iadd, ik_iadd, kk_iadd⟩
  have J19 : Me l.prog w K mg base CX0 1 CK "__eq__" (spKEq [(tPm_sorting, lamQ "Move.sorting" (defScope s_m_sorting)), (tPlatt, ndQ "_law_attempt" (defScope s_latt) "_law_action")] CK) := ⟨_, ok_keq (fun_mk (st := s_k_eq) lk_eq ck_eq kk_eq) T kis, ak_eq, ik_eq, kk_eq⟩
  have J21 : Me l.prog w K mg base (L2.CX l.prog w) 5 CK "apply" (spApply K [(tPm_sorting, lamQ "Move.sorting" (defScope s_m_sorting)), (tPlatt, ndQ "_law_attempt" (defScope s_latt) "_law_action")] CK C XMismatch XBadRow) := ⟨_, ok_apply (fun_mk (st := s_k_apply) lk_apply ck_apply kk_apply) T TM G1 J4 QMismatch I8, ak_apply, ik_apply, kk_apply⟩
  have D14 : Cl l.prog w K mg base (L2.CX l.prog w) 5 "_law_grow" (spKIadd [(tPm_sorting, lamQ "Move.sorting" (defScope s_m_sorting)), (tPlatt, ndQ "_law_attempt" (defScope s_latt) "_law_action")] CK XDifferentLists) := ⟨_, ok_grow (fun_mk (st := s_grow) lgrow cgrow kgrow) T ksf J16, PySem.W.mg_of X G agrow, kgrow⟩
  have D20 : Cl l.prog w K mg base CX0 6 "_law_deed" (spDeed [(tPm_sorting, lamQ "Move.sorting" (defScope s_m_sorting)), (tPlatt, ndQ "_law_attempt" (defScope s_latt) "_law_action")] CK) := ⟨_, ok_deed (fun_mk (st := s_deed) ldeed cdeed kdeed) T nsq D2 D8 J8 D14 J6 J13 J9, PySem.W.mg_of X G adeed, kdeed⟩
  have D21 : Cl l.prog w K mg base (L2.CX l.prog w) 7 "_law_refused_deed" (spRDeed [(tPm_sorting, lamQ "Move.sorting" (defScope s_m_sorting)), (tPlatt, ndQ "_law_attempt" (defScope s_latt) "_law_action")] CK XBadRow XNoPlace XNoName XMismatch) := ⟨_, ok_rdeed (fun_mk (st := s_rdeed) lrdeed crdeed krdeed) T D2 J5 J13 J14 J11 J21 S5, PySem.W.mg_of X G ardeed, krdeed⟩
  have hexA : ∀ CE ∈ [XBadRow, XNoPlace, XNoName, XMismatch], PySem.W.exmOne K (.ref CE) (.ref CSE) = some true := List.forall_mem_cons.mpr ⟨hexR, List.forall_mem_cons.mpr ⟨hexP, List.forall_mem_cons.mpr ⟨hexN, List.forall_mem_cons.mpr ⟨hexM, fun _ z => nomatch z⟩⟩⟩⟩
  have PQ1 : PrQ l.prog w K mg base 1 CK "table" (spTable K CK) := ⟨_, _, T.ck, ⟨ak_table, gk_table, tk_table, ⟨_, r_k_table⟩⟩, okq_table Ft T⟩
  have D22 : Cl l.prog w K mg base CX0 8 "_law_caught" (spCaught [(tPm_sorting, lamQ "Move.sorting" (defScope s_m_sorting)), (tPlatt, ndQ "_law_attempt" (defScope s_latt) "_law_action")] CK) := ⟨_, ok_caught (fun_mk (st := s_caught) lcaught ccaught kcaught) T P1 PQ1 D21 hSE hexA, PySem.W.mg_of X G acaught, kcaught⟩
  have TV : TxtSv K CS := ⟨⟨pgCS, hdCS, poCS, saCS⟩, snk, snr⟩
  have S0 : Ml l.prog w K mg base CX0 1 "Saved" CS (spSvInit [(tPm_sorting, lamQ "Move.sorting" (defScope s_m_sorting)), (tPlatt, ndQ "_law_attempt" (defScope s_latt) "_law_action")] CS) := ⟨_, ⟨mkCS, asv_init, isv_init, kcCS⟩, ok_svinit (fun_mk (st := s_sv_init) lsv_init csv_init ksv_init) TV, PySem.W.mg_of X G aCS⟩
  have D30 : Cl l.prog w K mg base CX0 8 "_law_attempt" (fun _ _ _ _ => False) := ⟨_, fun _ _ _ _ _ _ _ _ _ _ _ h => h.elim, PySem.W.mg_of X G alatt, klatt⟩
  have J31 : Me l.prog w K mg base (L2.CX l.prog w) 12 CK "attempt" (spAtt 9 l.prog w K mg base [(tPm_sorting, lamQ "Move.sorting" (defScope s_m_sorting)), (tPlatt, ndQ "_law_attempt" (defScope s_latt) "_law_action")] CK CSE) := ⟨_, ok_att (kf := 9) (fun_mk (st := s_k_attempt) lk_attempt ck_attempt kk_attempt) T S0 asv_enter isv_enter asv_exit isv_exit (ok_sventer (fun_mk (st := s_sv_enter) lsv_enter csv_enter ksv_enter) T TV) (ok_svexit (fun_mk (st := s_sv_exit) lsv_exit csv_exit ksv_exit) T TV) (okq_svexit (fun_mk (st := s_sv_exit) lsv_exit csv_exit ksv_exit) T TV) hSE, ak_attempt, ik_attempt, kk_attempt⟩
  have J32 : Me l.prog w K mg base (L2.CX l.prog w) 17 CK "attempt" (spAtt 14 l.prog w K mg base [(tPm_sorting, lamQ "Move.sorting" (defScope s_m_sorting)), (tPlatt, ndQ "_law_attempt" (defScope s_latt) "_law_action")] CK CSE) := ⟨_, ok_att (kf := 14) (fun_mk (st := s_k_attempt) lk_attempt ck_attempt kk_attempt) T S0 asv_enter isv_enter asv_exit isv_exit (ok_sventer (fun_mk (st := s_sv_enter) lsv_enter csv_enter ksv_enter) T TV) (ok_svexit (fun_mk (st := s_sv_exit) lsv_exit csv_exit ksv_exit) T TV) (okq_svexit (fun_mk (st := s_sv_exit) lsv_exit csv_exit ksv_exit) T TV) hSE, ak_attempt, ik_attempt, kk_attempt⟩
  have J33 : Me l.prog w K mg base (L2.CX l.prog w) 22 CK "attempt" (spAtt 19 l.prog w K mg base [(tPm_sorting, lamQ "Move.sorting" (defScope s_m_sorting)), (tPlatt, ndQ "_law_attempt" (defScope s_latt) "_law_action")] CK CSE) := ⟨_, ok_att (kf := 19) (fun_mk (st := s_k_attempt) lk_attempt ck_attempt kk_attempt) T S0 asv_enter isv_enter asv_exit isv_exit (ok_sventer (fun_mk (st := s_sv_enter) lsv_enter csv_enter ksv_enter) T TV) (ok_svexit (fun_mk (st := s_sv_exit) lsv_exit csv_exit ksv_exit) T TV) (okq_svexit (fun_mk (st := s_sv_exit) lsv_exit csv_exit ksv_exit) T TV) hSE, ak_attempt, ik_attempt, kk_attempt⟩
  have D31 : Cl l.prog w K mg base CX0 13 "_law_attempt" (spLatt [(tPm_sorting, lamQ "Move.sorting" (defScope s_m_sorting)), (tPlatt, ndQ "_law_attempt" (defScope s_latt) "_law_action")] CK 3 230) := ⟨_, ok_latt (kk := 8) (dp := 3) (c := 230) (ca := 220) (c' := 40) (fun_mk (st := s_latt) llatt clatt klatt) rfl T knf nKE (by decide) (by decide) (by decide) (by decide) J19 P1 D2 D3 D20 D21 D22 D30 (fun h => absurd h (by decide)) hexA hexO J31 TBlatt (List.mem_cons_of_mem _ List.mem_cons_self) hu_latt, PySem.W.mg_of X G alatt, klatt⟩
  have D32 : Cl l.prog w K mg base CX0 18 "_law_attempt" (spLatt [(tPm_sorting, lamQ "Move.sorting" (defScope s_m_sorting)), (tPlatt, ndQ "_law_attempt" (defScope s_latt) "_law_action")] CK 2 1180) := ⟨_, ok_latt (kk := 13) (dp := 2) (c := 1180) (ca := 1170) (c' := 230) (fun_mk (st := s_latt) llatt clatt klatt) rfl T knf nKE (by decide) (by decide) (by decide) (by decide) J19 P1 D2 D3 D20 D21 D22 D31 (fun _ _ _ _ _ h => h) hexA hexO J32 TBlatt (List.mem_cons_of_mem _ List.mem_cons_self) hu_latt, PySem.W.mg_of X G alatt, klatt⟩
  have D33 : Cl l.prog w K mg base CX0 23 "_law_attempt" (spLatt [(tPm_sorting, lamQ "Move.sorting" (defScope s_m_sorting)), (tPlatt, ndQ "_law_attempt" (defScope s_latt) "_law_action")] CK 1 6000) := ⟨_, ok_latt (kk := 18) (dp := 1) (c := 6000) (ca := 5920) (c' := 1180) (fun_mk (st := s_latt) llatt clatt klatt) rfl T knf nKE (by decide) (by decide) (by decide) (by decide) J19 P1 D2 D3 D20 D21 D22 D32 (fun _ _ _ _ _ h => h) hexA hexO J33 TBlatt (List.mem_cons_of_mem _ List.mem_cons_self) hu_latt, PySem.W.mg_of X G alatt, klatt⟩
  exact ok_law (fun_mk (st := s_law) llaw claw klaw) T M1 P1 J14 D1 D2 D5 D6 D9 D20 D33
end MV
open PySem PySem.W PyProof.Rows
set_option maxRecDepth 100000 in
set_option maxHeartbeats 0 in
theorem PySem.Challenge.cw_sidelists_k76_attempts_holds : PySem.Challenge.rw_sidelists_k76_attempts.Holds := by
  w_on; o_law; k_head; (case hw => w_witness2)
  k_fill
  refine LamX.walk_ofTs (l := PySem.Challenge.rw_sidelists_k76_attempts) (n := 63) (k := 24) (x := "_law_script") (CX := fun _ => C8.CX0) rfl (by decide) rfl ⟨rfl, by decide, by decide⟩ (fun w h Y => PySem.W.km_in_of Y) ?F (fun _ _ _ _ _ z => z)
  case F =>
    intro w mg fa h Y KX G hmg
    refine' MV.all_mk KX G hmg ?abag ?lbag ?cbag ?kbag ?atake ?ltake ?ctake ?ktake ?aof ?lof ?cof ?kof ?acount ?lcount ?ccount ?kcount ?aname ?lname ?cname ?kname ?anumber ?lnumber ?cnumber ?knumber ?arows ?lrows ?crows ?krows ?agrow ?lgrow ?cgrow ?kgrow ?adeed ?ldeed ?cdeed ?kdeed ?acaught ?lcaught ?ccaught ?kcaught ?ardeed ?lrdeed ?crdeed ?krdeed ?alatt ?llatt ?clatt ?klatt ?tllatt ?txlatt ?thlatt ?ttlatt ?tnlatt ?aisint ?lisint ?cisint ?kisint ?aisnum ?lisnum ?cisnum ?kisnum ?aisword ?lisword ?cisword ?kisword ?acnames ?lcnames ?ccnames ?kcnames ?aisrow ?lisrow ?cisrow ?kisrow ?acrows ?lcrows ?ccrows ?kcrows ?actable ?lctable ?cctable ?kctable ?alaw ?llaw ?claw ?klaw ?aC ?am_init ?im_init ?lm_init ?cm_init ?km_init ?am_call ?im_call ?lm_call ?cm_call ?km_call ?xm_call ?ym_call ?am_gaps ?gm_gaps ?tm_gaps ?r_m_gaps ?lm_gaps ?cm_gaps ?km_gaps ?am_turning ?r_m_turning ?lm_turning ?cm_turning ?km_turning ?am_sorting ?r_m_sorting ?lm_sorting ?cm_sorting ?km_sorting ?kdm_sorting_down ?tlm_sorting ?txm_sorting ?thm_sorting ?ttm_sorting ?tnm_sorting ?am_keeping ?r_m_keeping ?lm_keeping ?cm_keeping ?km_keeping ?am_still ?r_m_still ?lm_still ?cm_still ?km_still ?pgC ?hdC ?poC ?saC ?mkC ?kcC ?nt ?np ?hcl ?hcg ?hct ?hcm ?sf ?nf ?rds ?rga ?aCK ?ak_init ?ik_init ?lk_init ?ck_init ?kk_init ?xk_init ?yk_init ?ak_table ?gk_table ?tk_table ?r_k_table ?lk_table ?ck_table ?kk_table ?ak_len ?ik_len ?lk_len ?ck_len ?kk_len ?ak_index_of ?ik_index_of ?lk_index_of ?ck_index_of ?kk_index_of ?ak_check_place ?ik_check_place ?lk_check_place ?ck_check_place ?kk_check_place ?ak_getitem ?ik_getitem ?lk_getitem ?ck_getitem ?kk_getitem ?xk_getitem ?ak_setitem ?ik_setitem ?lk_setitem ?ck_setitem ?kk_setitem ?ak_put_column ?ik_put_column ?lk_put_column ?ck_put_column ?kk_put_column ?ak_check_names_of ?ik_check_names_of ?lk_check_names_of ?ck_check_names_of ?kk_check_names_of ?ak_iadd ?ik_iadd ?lk_iadd ?ck_iadd ?kk_iadd ?ak_moved ?ik_moved ?lk_moved ?ck_moved ?kk_moved ?ak_add ?ik_add ?lk_add ?ck_add ?kk_add ?kdk_add_at ?ak_drop ?ik_drop ?lk_drop ?ck_drop ?kk_drop ?ak_order ?ik_order ?lk_order ?ck_order ?kk_order ?kdk_order_down ?ak_turn ?ik_turn ?lk_turn ?ck_turn ?kk_turn ?ak_eq ?ik_eq ?lk_eq ?ck_eq ?kk_eq ?ak_apply ?ik_apply ?lk_apply ?ck_apply ?kk_apply ?ak_attempt ?ik_attempt ?lk_attempt ?ck_attempt ?kk_attempt ?pgCK ?hdCK ?poCK ?saCK ?mkCK ?kcCK ?nn ?nh ?nsq ?ksf ?knf ?khc ?khg ?kht ?khm ?aCS ?asv_init ?isv_init ?lsv_init ?csv_init ?ksv_init ?asv_enter ?isv_enter ?lsv_enter ?csv_enter ?ksv_enter ?asv_exit ?isv_exit ?lsv_exit ?csv_exit ?ksv_exit ?pgCS ?hdCS ?poCS ?saCS ?mkCS ?kcCS ?snk ?snr ?aBadNames ?lBadNames ?rBadNames ?saBadNames ?ecBadNames ?tyBadNames ?kcBadNames ?inBadNames ?tiBadNames ?mrBadNames ?suBadNames ?sbBadNames ?fnBadNames ?cdBadNames ?coBadNames ?fiBadNames ?flBadNames ?ceBadNames ?noBadNames_at ?gaBadNames ?ggBadNames ?hdBadNames ?aBadRow ?lBadRow ?rBadRow ?saBadRow ?ecBadRow ?tyBadRow ?kcBadRow ?inBadRow ?tiBadRow ?mrBadRow ?suBadRow ?sbBadRow ?fnBadRow ?cdBadRow ?coBadRow ?fiBadRow ?flBadRow ?ceBadRow ?noBadRow_at ?gaBadRow ?ggBadRow ?hdBadRow ?aNoPlace ?lNoPlace ?rNoPlace ?saNoPlace ?ecNoPlace ?tyNoPlace ?kcNoPlace ?inNoPlace ?tiNoPlace ?mrNoPlace ?suNoPlace ?sbNoPlace ?fnNoPlace ?cdNoPlace ?coNoPlace ?fiNoPlace ?flNoPlace ?ceNoPlace ?noNoPlace_place ?gaNoPlace ?ggNoPlace ?hdNoPlace ?aNoName ?lNoName ?rNoName ?saNoName ?ecNoName ?tyNoName ?kcNoName ?inNoName ?tiNoName ?mrNoName ?suNoName ?sbNoName ?fnNoName ?cdNoName ?coNoName ?fiNoName ?flNoName ?ceNoName ?noNoName_name ?gaNoName ?ggNoName ?hdNoName ?aMismatch ?lMismatch ?rMismatch ?saMismatch ?ecMismatch ?tyMismatch ?kcMismatch ?inMismatch ?tiMismatch ?mrMismatch ?suMismatch ?sbMismatch ?fnMismatch ?cdMismatch ?coMismatch ?fiMismatch ?flMismatch ?ceMismatch ?noMismatch_wanted ?noMismatch_got ?gaMismatch ?ggMismatch ?hdMismatch ?aDifferentLists ?lDifferentLists ?rDifferentLists ?saDifferentLists ?ecDifferentLists ?tyDifferentLists ?kcDifferentLists ?inDifferentLists ?tiDifferentLists ?mrDifferentLists ?suDifferentLists ?sbDifferentLists ?fnDifferentLists ?cdDifferentLists ?coDifferentLists ?fiDifferentLists ?flDifferentLists ?ceDifferentLists ?noDifferentLists_one ?noDifferentLists_other ?gaDifferentLists ?ggDifferentLists ?hdDifferentLists ?thi ?z_super ?tops ?exa ?exn ?z_len ?z_abs ?z_int ?z_range ?z_list ?z_tuple ?z_str ?z_max ?z_min ?z_enumerate ?z_isinstance ?z_bool ?z_all ?z_zip ?z_sorted ?z_KeyError ?g_let ?g_kpt ?g_mst ?g_msn ?ykept ?ne_latt_m_sorting ?ne_m_sorting_latt ?g_se ?hexP ?hexR ?hexN ?hexM ?hexO
    (case abag => k_is)
    (case lbag => k_is)
    (case cbag => k_is)
    (case kbag => k_is)
    (case atake => k_is)
    (case ltake => k_is)
    (case ctake => k_is)
    (case ktake => k_is)
    (case aof => k_is)
    (case lof => k_is)
    (case cof => k_is)
    (case kof => k_is)
    (case acount => k_is)
    (case lcount => k_is)
    (case ccount => k_is)
    (case kcount => k_is)
    (case aname => k_is)
    (case lname => k_is)
    (case cname => k_is)
    (case kname => k_is)
    (case anumber => k_is)
    (case lnumber => k_is)
    (case cnumber => k_is)
    (case knumber => k_is)
    (case arows => k_is)
    (case lrows => k_is)
    (case crows => k_is)
    (case krows => k_is)
    (case agrow => k_is)
    (case lgrow => k_is)
    (case cgrow => k_is)
    (case kgrow => k_is)
    (case adeed => k_is)
    (case ldeed => k_is)
    (case cdeed => k_is)
    (case kdeed => k_is)
    (case acaught => k_is)
    (case lcaught => k_is)
    (case ccaught => k_is)
    (case kcaught => k_is)
    (case ardeed => k_is)
    (case lrdeed => k_is)
    (case crdeed => k_is)
    (case krdeed => k_is)
    (case alatt => k_is)
    (case llatt => k_is)
    (case clatt => k_is)
    (case klatt => k_is)
    (case tllatt => k_is)
    (case txlatt => rfl)
    (case thlatt => kernel_rfl)
    (case ttlatt => exact PySem.W.km_tabs_of Y _ (by k_mem))
    (case tnlatt => first | kernel_rfl | k_is)
    (case aisint => k_is)
    (case lisint => k_is)
    (case cisint => k_is)
    (case kisint => k_is)
    (case aisnum => k_is)
    (case lisnum => k_is)
    (case cisnum => k_is)
    (case kisnum => k_is)
    (case aisword => k_is)
    (case lisword => k_is)
    (case cisword => k_is)
    (case kisword => k_is)
    (case acnames => k_is)
    (case lcnames => k_is)
    (case ccnames => k_is)
    (case kcnames => k_is)
    (case aisrow => k_is)
    (case lisrow => k_is)
    (case cisrow => k_is)
    (case kisrow => k_is)
    (case acrows => k_is)
    (case lcrows => k_is)
    (case ccrows => k_is)
    (case kcrows => k_is)
    (case actable => k_is)
    (case lctable => k_is)
    (case cctable => k_is)
    (case kctable => k_is)
    (case alaw => k_is)
    (case llaw => k_is)
    (case claw => k_is)
    (case klaw => k_is)
    (case aC => k_is)
    (case am_init => k_is)
    (case im_init => k_is)
    (case lm_init => k_is)
    (case cm_init => k_is)
    (case km_init => k_is)
    (case am_call => k_is)
    (case im_call => k_is)
    (case lm_call => k_is)
    (case cm_call => k_is)
    (case km_call => k_is)
    (case xm_call => k_is)
    (case ym_call => k_is)
    (case am_gaps => k_is)
    (case gm_gaps => k_is)
    (case tm_gaps => k_is)
    (case r_m_gaps => k_is)
    (case lm_gaps => k_is)
    (case cm_gaps => k_is)
    (case km_gaps => k_is)
    (case am_turning => k_is)
    (case r_m_turning => k_is)
    (case lm_turning => k_is)
    (case cm_turning => k_is)
    (case km_turning => k_is)
    (case am_sorting => k_is)
    (case r_m_sorting => k_is)
    (case lm_sorting => k_is)
    (case cm_sorting => k_is)
    (case km_sorting => k_is)
    (case kdm_sorting_down => k_is)
    (case tlm_sorting => k_is)
    (case txm_sorting => rfl)
    (case thm_sorting => kernel_rfl)
    (case ttm_sorting => exact PySem.W.km_tabs_of Y _ (by k_mem))
    (case tnm_sorting => first | kernel_rfl | k_is)
    (case am_keeping => k_is)
    (case r_m_keeping => k_is)
    (case lm_keeping => k_is)
    (case cm_keeping => k_is)
    (case km_keeping => k_is)
    (case am_still => k_is)
    (case r_m_still => k_is)
    (case lm_still => k_is)
    (case cm_still => k_is)
    (case km_still => k_is)
    (case pgC => k_is)
    (case hdC => k_is)
    (case poC => k_is)
    (case saC => k_is)
    (case mkC => k_is)
    (case kcC => k_is)
    (case nt => k_is)
    (case np => k_is)
    (case hcl => k_is)
    (case hcg => k_is)
    (case hct => k_is)
    (case hcm => k_is)
    (case sf => k_is)
    (case nf => k_is)
    (case rds => k_is)
    (case rga => k_is)
    (case aCK => k_is)
    (case ak_init => k_is)
    (case ik_init => k_is)
    (case lk_init => k_is)
    (case ck_init => k_is)
    (case kk_init => k_is)
    (case xk_init => k_is)
    (case yk_init => k_is)
    (case ak_table => k_is)
    (case gk_table => k_is)
    (case tk_table => k_is)
    (case r_k_table => k_is)
    (case lk_table => k_is)
    (case ck_table => k_is)
    (case kk_table => k_is)
    (case ak_len => k_is)
    (case ik_len => k_is)
    (case lk_len => k_is)
    (case ck_len => k_is)
    (case kk_len => k_is)
    (case ak_index_of => k_is)
    (case ik_index_of => k_is)
    (case lk_index_of => k_is)
    (case ck_index_of => k_is)
    (case kk_index_of => k_is)
    (case ak_check_place => k_is)
    (case ik_check_place => k_is)
    (case lk_check_place => k_is)
    (case ck_check_place => k_is)
    (case kk_check_place => k_is)
    (case ak_getitem => k_is)
    (case ik_getitem => k_is)
    (case lk_getitem => k_is)
    (case ck_getitem => k_is)
    (case kk_getitem => k_is)
    (case xk_getitem => k_is)
    (case ak_setitem => k_is)
    (case ik_setitem => k_is)
    (case lk_setitem => k_is)
    (case ck_setitem => k_is)
    (case kk_setitem => k_is)
    (case ak_put_column => k_is)
    (case ik_put_column => k_is)
    (case lk_put_column => k_is)
    (case ck_put_column => k_is)
    (case kk_put_column => k_is)
    (case ak_check_names_of => k_is)
    (case ik_check_names_of => k_is)
    (case lk_check_names_of => k_is)
    (case ck_check_names_of => k_is)
    (case kk_check_names_of => k_is)
    (case ak_iadd => k_is)
    (case ik_iadd => k_is)
    (case lk_iadd => k_is)
    (case ck_iadd => k_is)
    (case kk_iadd => k_is)
    (case ak_moved => k_is)
    (case ik_moved => k_is)
    (case lk_moved => k_is)
    (case ck_moved => k_is)
    (case kk_moved => k_is)
    (case ak_add => k_is)
    (case ik_add => k_is)
    (case lk_add => k_is)
    (case ck_add => k_is)
    (case kk_add => k_is)
    (case kdk_add_at => k_is)
    (case ak_drop => k_is)
    (case ik_drop => k_is)
    (case lk_drop => k_is)
    (case ck_drop => k_is)
    (case kk_drop => k_is)
    (case ak_order => k_is)
    (case ik_order => k_is)
    (case lk_order => k_is)
    (case ck_order => k_is)
    (case kk_order => k_is)
    (case kdk_order_down => k_is)
    (case ak_turn => k_is)
    (case ik_turn => k_is)
    (case lk_turn => k_is)
    (case ck_turn => k_is)
    (case kk_turn => k_is)
    (case ak_eq => k_is)
    (case ik_eq => k_is)
    (case lk_eq => k_is)
    (case ck_eq => k_is)
    (case kk_eq => k_is)
    (case ak_apply => k_is)
    (case ik_apply => k_is)
    (case lk_apply => k_is)
    (case ck_apply => k_is)
    (case kk_apply => k_is)
    (case ak_attempt => k_is)
    (case ik_attempt => k_is)
    (case lk_attempt => k_is)
    (case ck_attempt => k_is)
    (case kk_attempt => k_is)
    (case pgCK => k_is)
    (case hdCK => k_is)
    (case poCK => k_is)
    (case saCK => k_is)
    (case mkCK => k_is)
    (case kcCK => k_is)
    (case nn => k_is)
    (case nh => k_is)
    (case nsq => k_is)
    (case ksf => k_is)
    (case knf => k_is)
    (case khc => k_is)
    (case khg => k_is)
    (case kht => k_is)
    (case khm => k_is)
    (case aCS => k_is)
    (case asv_init => k_is)
    (case isv_init => k_is)
    (case lsv_init => k_is)
    (case csv_init => k_is)
    (case ksv_init => k_is)
    (case asv_enter => k_is)
    (case isv_enter => k_is)
    (case lsv_enter => k_is)
    (case csv_enter => k_is)
    (case ksv_enter => k_is)
    (case asv_exit => k_is)
    (case isv_exit => k_is)
    (case lsv_exit => k_is)
    (case csv_exit => k_is)
    (case ksv_exit => k_is)
    (case pgCS => k_is)
    (case hdCS => k_is)
    (case poCS => k_is)
    (case saCS => k_is)
    (case mkCS => k_is)
    (case kcCS => k_is)
    (case snk => k_is)
    (case snr => k_is)
    (case aBadNames => k_is)
    (case lBadNames => k_is)
    (case rBadNames => rfl)
    (case saBadNames => k_is)
    (case ecBadNames => k_is)
    (case tyBadNames => k_is)
    (case kcBadNames => k_is)
    (case inBadNames => k_is)
    (case tiBadNames => k_is)
    (case mrBadNames => k_is)
    (case suBadNames => ks_is)
    (case sbBadNames => k_is)
    (case fnBadNames => k_is)
    (case cdBadNames => k_is)
    (case coBadNames => k_is)
    (case fiBadNames => rfl)
    (case flBadNames => first | rfl | decide +kernel | kernel_rfl)
    (case ceBadNames => k_is)
    (case noBadNames_at => k_is)
    (case gaBadNames => k_is)
    (case ggBadNames => k_is)
    (case hdBadNames => k_is)
    (case aBadRow => k_is)
    (case lBadRow => k_is)
    (case rBadRow => rfl)
    (case saBadRow => k_is)
    (case ecBadRow => k_is)
    (case tyBadRow => k_is)
    (case kcBadRow => k_is)
    (case inBadRow => k_is)
    (case tiBadRow => k_is)
    (case mrBadRow => k_is)
    (case suBadRow => ks_is)
    (case sbBadRow => k_is)
    (case fnBadRow => k_is)
    (case cdBadRow => k_is)
    (case coBadRow => k_is)
    (case fiBadRow => rfl)
    (case flBadRow => first | rfl | decide +kernel | kernel_rfl)
    (case ceBadRow => k_is)
    (case noBadRow_at => k_is)
    (case gaBadRow => k_is)
    (case ggBadRow => k_is)
    (case hdBadRow => k_is)
    (case aNoPlace => k_is)
    (case lNoPlace => k_is)
    (case rNoPlace => rfl)
    (case saNoPlace => k_is)
    (case ecNoPlace => k_is)
    (case tyNoPlace => k_is)
    (case kcNoPlace => k_is)
    (case inNoPlace => k_is)
    (case tiNoPlace => k_is)
    (case mrNoPlace => k_is)
    (case suNoPlace => ks_is)
    (case sbNoPlace => k_is)
    (case fnNoPlace => k_is)
    (case cdNoPlace => k_is)
    (case coNoPlace => k_is)
    (case fiNoPlace => rfl)
    (case flNoPlace => first | rfl | decide +kernel | kernel_rfl)
    (case ceNoPlace => k_is)
    (case noNoPlace_place => k_is)
    (case gaNoPlace => k_is)
    (case ggNoPlace => k_is)
    (case hdNoPlace => k_is)
    (case aNoName => k_is)
    (case lNoName => k_is)
    (case rNoName => rfl)
    (case saNoName => k_is)
    (case ecNoName => k_is)
    (case tyNoName => k_is)
    (case kcNoName => k_is)
    (case inNoName => k_is)
    (case tiNoName => k_is)
    (case mrNoName => k_is)
    (case suNoName => ks_is)
    (case sbNoName => k_is)
    (case fnNoName => k_is)
    (case cdNoName => k_is)
    (case coNoName => k_is)
    (case fiNoName => rfl)
    (case flNoName => first | rfl | decide +kernel | kernel_rfl)
    (case ceNoName => k_is)
    (case noNoName_name => k_is)
    (case gaNoName => k_is)
    (case ggNoName => k_is)
    (case hdNoName => k_is)
    (case aMismatch => k_is)
    (case lMismatch => k_is)
    (case rMismatch => rfl)
    (case saMismatch => k_is)
    (case ecMismatch => k_is)
    (case tyMismatch => k_is)
    (case kcMismatch => k_is)
    (case inMismatch => k_is)
    (case tiMismatch => k_is)
    (case mrMismatch => k_is)
    (case suMismatch => ks_is)
    (case sbMismatch => k_is)
    (case fnMismatch => k_is)
    (case cdMismatch => k_is)
    (case coMismatch => k_is)
    (case fiMismatch => rfl)
    (case flMismatch => first | rfl | decide +kernel | kernel_rfl)
    (case ceMismatch => k_is)
    (case noMismatch_wanted => k_is)
    (case noMismatch_got => k_is)
    (case gaMismatch => k_is)
    (case ggMismatch => k_is)
    (case hdMismatch => k_is)
    (case aDifferentLists => k_is)
    (case lDifferentLists => k_is)
    (case rDifferentLists => rfl)
    (case saDifferentLists => k_is)
    (case ecDifferentLists => k_is)
    (case tyDifferentLists => k_is)
    (case kcDifferentLists => k_is)
    (case inDifferentLists => k_is)
    (case tiDifferentLists => k_is)
    (case mrDifferentLists => k_is)
    (case suDifferentLists => ks_is)
    (case sbDifferentLists => k_is)
    (case fnDifferentLists => k_is)
    (case cdDifferentLists => k_is)
    (case coDifferentLists => k_is)
    (case fiDifferentLists => rfl)
    (case flDifferentLists => first | rfl | decide +kernel | kernel_rfl)
    (case ceDifferentLists => k_is)
    (case noDifferentLists_one => k_is)
    (case noDifferentLists_other => k_is)
    (case gaDifferentLists => k_is)
    (case ggDifferentLists => k_is)
    (case hdDifferentLists => k_is)
    (case thi => k_is)
    (case z_super => k_is)
    (case tops => first | rfl | decide +kernel | kernel_rfl)
    (case exa => kernel_rfl)
    (case exn => decide)
    (case z_len => k_is)
    (case z_abs => k_is)
    (case z_int => k_is)
    (case z_range => k_is)
    (case z_list => k_is)
    (case z_tuple => k_is)
    (case z_str => k_is)
    (case z_max => k_is)
    (case z_min => k_is)
    (case z_enumerate => k_is)
    (case z_isinstance => k_is)
    (case z_bool => k_is)
    (case z_all => k_is)
    (case z_zip => k_is)
    (case z_sorted => k_is)
    (case z_KeyError => k_is)
    (case g_let => k_is)
    (case g_kpt => k_is)
    (case g_mst => k_is)
    (case g_msn => k_is)
    (case ykept => k_is)
    (case ne_latt_m_sorting => decide)
    (case ne_m_sorting_latt => decide)
    (case g_se => k_is)
    (case hexP => kernel_rfl)
    (case hexR => kernel_rfl)
    (case hexN => kernel_rfl)
    (case hexM => kernel_rfl)
    (case hexO => kernel_rfl)
