import PyProof.Rows.All
import Wide.All
import OpenK.AllK
import Wide.FinOn
import PyProof.EqAt
import PyProof.EqKinds
import PyProof.TupleCall
import KE.KOpsOwn
import HandS.ForMost
import HandS.More
import HandS.Conv
import HandS.Walk
import HandS.Wide
import HandS.Star
import HandS.Codes
import HandS.Property
import HandS.DictComp
import HandS.IsInst
import HandS.Deep
import HandS.EndBits
import HandS.ClsMeth
import HandS.Defaults
import KE.GoesMore
import KE.KExcSuper
import HandS.ExcInit
import HandS.ExcField
import HandS.TryMany
import HandS.TryOnly
import HandS.Nested
import HandS.Lambda
import HandS.EndTab
import KE.KNestM
import HandS.Style
import PySem.Challenge.RW_sidelists_k61_moves_called
set_option Elab.async false
set_option linter.all false
set_option maxRecDepth 100000
set_option maxHeartbeats 4000000
/-! Rules beside the hand layer: own defs called by their promises, own operators, enumerate of a tuple. -/
namespace SB
open PySem PySem.Spec PyProof.Rows L2

/-- the module's name x holds a def that keeps sp -/
structure Cl (P : Program) (w : World) (K : PySem.W.Frag) (mg : Str → Option Value) (base : Heap) (CX : CXT) (k : Nat) (x : Str) (sp : Sp) : Prop where
  ex : ∃ f : Addr, FnR P w K mg base CX k f sp ∧ mg x = some (.ref f) ∧ PySem.W.keepIn K (.ref f) = true
/-- the module's name x holds the class at C, whose init keeps sp -/
structure Ml (P : Program) (w : World) (K : PySem.W.Frag) (mg : Str → Option Value) (base : Heap) (CX : CXT) (k : Nat) (x : Str) (C : Addr) (sp : Sp) : Prop where
  ex : ∃ f : Addr, Mk K C f ∧ FnR P w K mg base CX k f sp ∧ mg x = some (.ref C)
/-- the class at C has a def for the name m that keeps sp -/
structure Me (P : Program) (w : World) (K : PySem.W.Frag) (mg : Str → Option Value) (base : Heap) (CX : CXT) (k : Nat) (C : Addr) (m : Str) (sp : Sp) : Prop where
  ex : ∃ g : Addr, FnR P w K mg base CX k g sp ∧ PySem.W.findIn K (.ref C) m = some (some (.ref g)) ∧ PySem.W.isFn K (.ref g) = true ∧ PySem.W.keepIn K (.ref g) = true

def tCl (sp : Sp) (E : XK) (t : TA) : TE := fun σ H Q => t σ H fun vs H1 => sp vs H1 Q E
section
variable {X : Cx} {CX : CXT} {k j : Nat} {C : Addr} {x m : Str} {sp : Sp} {E : XK} {p pos apos : Pos} {e o : Expr} {es : List Expr} {ta tb : TE} {t : TA}
theorem pe_cl (c : Cl X.prog X.w X.K X.mg X.base CX k x sp) (hr : Room j X.A) (hk : k ≤ j) (hg : Gl X x) (hx : Passes CX X E) (ha : PA X (e :: es) t) (hd : (x == ("__debug__" : Str)) = false := by decide)
    (he : starEach (e :: es) X.env = (false, eval e X.env) :: starEach es X.env := by rfl) (hpl : (backTo pos (starEach es X.env)).any (·.1) = false := by rfl) :
    PE X (.Call (.Name x p) (e :: es) [] pos) (tCl sp E t) := by
  obtain ⟨f, F, hm, kp⟩ := c.ex
  refine ⟨fun pins s σ H Q I h => ?_⟩
  refine wpAny_Call_Name_kw (ld_glob I hg hm ?_ hd)
  refine PySem.W.callWith_K (h₀ := X.base) I.ok.mod.kin kp (thn (ha.run pos pins s σ H _ I h) fun us s1 ⟨vs, H1, I1, r, q⟩ => ⟨I1.kIn, ?_⟩) he hpl
  exact wpAny_call (run_fnR F (hr.mono hk) hx I1 r q)
def tMl (C : Addr) (sp : Sp) (E : XK) (t : TA) : TE := fun σ H Q => t σ H fun vs H1 => ∀ x dx, H1 x = Option.none → H1 dx = Option.none → dx ≠ x →
  sp (V.ref x :: vs) (upd (upd H1 dx (.own x)) x (.ins C dx [])) (fun v H2 => v = .non ∧ Q (.ref x) H2) E
theorem pe_ml (c : Ml X.prog X.w X.K X.mg X.base CX k x C sp) (hr : Room j X.A) (hk : k + 1 ≤ j) (hg : Gl X x) (hx : Passes CX X E) (ha : PA X (e :: es) t) (hdb : (x == ("__debug__" : Str)) = false := by decide)
    (he : starEach (e :: es) X.env = (false, eval e X.env) :: starEach es X.env := by rfl) (hpl : (backTo pos (starEach es X.env)).any (·.1) = false := by rfl) : PE X (.Call (.Name x p) (e :: es) [] pos) (tMl C sp E t) := by
  obtain ⟨f, M, F, hm⟩ := c.ex
  exact StX.pe_makeR M F (hr.mono hk) hg hm hx ha hdb he hpl

/-! ### own operators of an instance of C -/
theorem cmpback {pins : List (Addr × Obj)} {σ : L2.St} {Q : VK} {w : Value} {s' : Shared} (h : EP X pins σ Q w s') : PySem.W.CmpBack (EP X pins σ Q) w s' := by
  obtain ⟨z, H', I', rz, qz⟩ := id h
  cases z with
  | non => cases rz; exact h
  | bl b => cases rz; exact h
  | int i => obtain ⟨t, rfl⟩ := rz; exact h
  | str i => obtain ⟨t, rfl⟩ := rz; exact h
  | byt i => obtain ⟨t, rfl⟩ := rz; exact h
  | flt i => obtain ⟨t, rfl⟩ := rz; exact h
  | ref i => cases rz; exact h
  | ty i => cases rz; exact h
theorem inst_at {pins : List (Addr × Obj)} {σ : L2.St} {H : Hp} {s : Shared} {a dx : Addr} {fs : List (Str × V)} (I : Inv X pins σ H s) (h : H a = some (.ins C dx fs)) : ∃ ox od, PySem.W.InstAt s.heap a ox C od := by
  obtain ⟨mA, O, _⟩ := ins_get I.hok h
  obtain ⟨od, J, _⟩ := O.look
  exact ⟨_, _, J⟩
def rOwn2 (C : Addr) (sp : Sp) (E : XK) : R2 := fun x y H Q => ∃ a dx fs b dy gs, x = .ref a ∧ y = .ref b ∧ H a = some (.ins C dx fs) ∧ H b = some (.ins C dy gs) ∧ sp [x, y] H Q E
/-- x op y, both instances of C -/
theorem op_own2 {op : Operator} {nm : Str} (c : Me X.prog X.w X.K X.mg X.base CX k C nm sp) (hnm : PySem.dunder op.info.2 = nm) (hc : PySem.W.selfFirst X.K C = true) (hr : Room j X.A) (hk : k ≤ j) (hx : Passes CX X E) :
    OpR X (binaryOp op) (rOwn2 C sp E) := by
  obtain ⟨g, F, hs, hf, _⟩ := c.ex
  intro pins s σ H x y v u Q I rx ry h
  obtain ⟨a, dx, fs, b, dy, gs, rfl, rfl, ha, hb, q⟩ := h
  cases (show v = Value.ref a from rx)
  cases (show u = Value.ref b from ry)
  obtain ⟨ox, od, J⟩ := inst_at I ha
  obtain ⟨ox', od', J'⟩ := inst_at I hb
  obtain ⟨m, hF⟩ := I.fr
  subst hnm
  refine PySem.W.binop_K (op := op) hF I.ok.mod.kin J J'.type hc hs hf ?_
  refine wpAny_mono (wpAny_call (run_fnR (us := [.ref a, .ref b]) (vs := [.ref a, .ref b]) F (hr.mono hk) hx I (.cons rfl (.cons rfl .nil)) q)) (fun w s' z => ?_) fun _ _ x => x
  exact cmpback z
/-- x == y, both instances of C -/
theorem op_ownEq (c : Me X.prog X.w X.K X.mg X.base CX k C "__eq__" sp) (hn : PySem.W.notFirst X.K C (.ref C) = true) (hr : Room j X.A) (hk : k ≤ j) (hx : Passes CX X E) :
    OpR X (compareOp .Eq) (rOwn2 C sp E) := by
  obtain ⟨g, F, hs, hf, _⟩ := c.ex
  intro pins s σ H x y v u Q I rx ry h
  obtain ⟨a, dx, fs, b, dy, gs, rfl, rfl, ha, hb, q⟩ := h
  cases (show v = Value.ref a from rx)
  cases (show u = Value.ref b from ry)
  obtain ⟨ox, od, J⟩ := inst_at I ha
  obtain ⟨ox', od', J'⟩ := inst_at I hb
  obtain ⟨m, hF⟩ := I.fr
  show wpAny _ _ (richCompare .Eq (.ref a) (.ref b)) _ _ _
  refine PySem.W.cmp_K (op := .Eq) (tb := .ref C) hr.units0 hF I.ok.mod.kin J J'.type hn hs hf ?_
  refine wpAny_mono (wpAny_call (run_fnR (us := [.ref a, .ref b]) (vs := [.ref a, .ref b]) F (hr.mono hk) hx I (.cons rfl (.cons rfl .nil)) q)) (fun w s' z => ?_) fun _ _ x => x
  exact cmpback z
def rOwn1 (C : Addr) (sp : Sp) (E : XK) : V → Hp → VK → Prop := fun x H Q => ∃ a dx fs, x = .ref a ∧ H a = some (.ins C dx fs) ∧ sp [x] H Q E
/-- the bitwise not of an instance of C -/
theorem un_ownInv (c : Me X.prog X.w X.K X.mg X.base CX k C "__invert__" sp) (hr : Room j X.A) (hk : k ≤ j) (hx : Passes CX X E) : UnR X (unaryOp .Invert) (rOwn1 C sp E) := by
  obtain ⟨g, F, hs, hf, _⟩ := c.ex
  intro pins s σ H x v Q I rx h
  obtain ⟨a, dx, fs, rfl, ha, q⟩ := h
  cases (show v = Value.ref a from rx)
  obtain ⟨ox, od, J⟩ := inst_at I ha
  obtain ⟨m, hF⟩ := I.fr
  refine PySem.W.ksp_inv hF I.ok.mod.kin J hs hf ?_
  exact wpAny_call (run_fnR (us := [.ref a]) (vs := [.ref a]) F (hr.mono hk) hx I (.cons rfl .nil) q)
end

/-! ### a staticmethod called on its class; a property; an instance called -/
/-- C.m is a staticmethod: its record at p, its def at g -/
structure SMet (K : PySem.W.Frag) (C : Addr) (mc : Value) (m : Str) (p g : Addr) : Prop where
  at_ : PySem.W.findCls K (.ref C) mc m = some (.get (.builtin "staticmethod.__get__") (.ref p) .none (.ref C))
  rc : ∃ rest, PySem.W.recIn K p "staticmethod" = some (.ref g :: rest)
  kp : PySem.W.keepIn K (.ref g) = true
structure Sm (P : Program) (w : World) (K : PySem.W.Frag) (mg : Str → Option Value) (base : Heap) (CX : CXT) (k : Nat) (x m : Str) (sp : Sp) : Prop where
  ex : ∃ (C p g : Addr) (mc : Value), mg x = some (.ref C) ∧ ClX.CRead K C mc ∧ SMet K C mc m p g ∧ FnR P w K mg base CX k g sp
structure Pr (P : Program) (w : World) (K : PySem.W.Frag) (mg : Str → Option Value) (base : Heap) (CX : CXT) (k : Nat) (C : Addr) (f : Str) (sp : Sp) : Prop where
  ex : ∃ (p g : Addr) (fd : FuncData) (ps : List Str), Cls K C ∧ PropOf K C f p g ∧ FnOk P w K mg base CX k g fd ps sp ∧ Binds K fd ps []
structure Ca (P : Program) (w : World) (K : PySem.W.Frag) (mg : Str → Option Value) (base : Heap) (CX : CXT) (k : Nat) (C : Addr) (sp : Sp) : Prop where
  ex : ∃ g : Addr, StX.CallO K C g ∧ FnR P w K mg base CX k g sp
section
variable {X : Cx} {CX : CXT} {k j : Nat} {C : Addr} {x m : Str} {sp : Sp} {E : XK} {p pos apos : Pos} {e o fe : Expr} {es : List Expr} {ta tf : TE} {t : TA}
theorem pe_sm {pl : Sem Bool} (c : Sm X.prog X.w X.K X.mg X.base CX k x m sp) (hr : Room j X.A) (hk : k ≤ j) (hg : Gl X x) (hx : Passes CX X E) (ha : PA X (e :: es) t) (hdb : (x == ("__debug__" : Str)) = false := by decide)
    (hst : starEach (e :: es) X.env = (false, eval e X.env) :: starEach es X.env := by rfl) (hpl : (backTo pos (starEach es X.env)).any (·.1) = false := by rfl)
    (ht : eval (.Call (.Attribute (.Name x p) m apos) (e :: es) [] pos) X.env = (do
      let ov ← eval (.Name x p) X.env
      standAt apos.atName
      let (f, first) ← holding [ov] (getMethod ov m pl)
      callWith pos f first (backTo pos (starEach (e :: es) X.env)) (backToKw pos (keywordEach [] X.env))) := by rfl) :
    PE X (.Call (.Attribute (.Name x p) m apos) (e :: es) [] pos) (tCl sp E t) := by
  obtain ⟨C, pr, g, mc, hm, r, c, F⟩ := c.ex
  obtain ⟨rest, hp⟩ := c.rc
  refine ⟨fun pins s σ H Q I h => ?_⟩
  refine PySem.W.methodCall_KW (pl := pl) (ld_glob I hg hm ?_ hdb) ht
  refine PySem.W.method_cls I.kIn r.ga (PySem.W.cls_bind I.kIn r.rd c.at_ (wpAny_call (PySem.W.sm_get (s := { s with toks := s.toks + 1 }) I.kIn hp (PySem.W.handed_on rfl ?_))))
  have I1 : Inv X pins σ H { s with toks := s.toks + 1 } := I.tok _
  refine PySem.W.callWith_K (h₀ := X.base) I.ok.mod.kin c.kp (thn (ha.run pos pins _ σ H _ I1 h) fun us s1 ⟨vs, H1, I2, rv, q⟩ => ⟨I2.kIn, ?_⟩) hst hpl
  exact wpAny_call (run_fnR F (hr.mono hk) hx I2 rv q)
def tPr (C : Addr) (sp : Sp) (E : XK) (ta : TE) : TE := fun σ H Q => ta σ H fun x H1 => ∃ a dx fs, x = .ref a ∧ H1 a = some (.ins C dx fs) ∧ sp [.ref a] H1 Q E
theorem pe_pr {f : Str} (c : Pr X.prog X.w X.K X.mg X.base CX k C f sp) (hr : Room j X.A) (hk : k + 1 ≤ j) (hx : Passes CX X.nox E) (he : PE X e ta) (hab : attributeBase e f X.env (eval e X.env) = eval e X.env := by rfl) :
    PE X (.Attribute e f pos) (tPr C sp E ta) := by
  obtain ⟨p, g, fd, ps, c, hp, F, b⟩ := c.ex
  exact pe_prop he c hp F (hr.mono hk) b .nil hx hab
theorem pe_ca (hf : PE X fe tf) (c : Ca X.prog X.w X.K X.mg X.base CX k C sp) (hr : Room j X.A) (hk : k ≤ j) (hx : Passes CX X E) (ha : PA X (e :: es) t)
    (ht : eval (.Call fe (e :: es) [] pos) X.env = (do callWith pos (← eval fe X.env) [] (backTo pos (starEach (e :: es) X.env)) (backToKw pos (keywordEach [] X.env))) := by rfl)
    (he : starEach (e :: es) X.env = (false, eval e X.env) :: starEach es X.env := by rfl) (hpl : (backTo pos (starEach es X.env)).any (·.1) = false := by rfl) : PE X (.Call fe (e :: es) [] pos) (StX.tCallO X C sp E tf t) := by
  obtain ⟨g, c, F⟩ := c.ex
  exact StX.pe_callO hf c F (hr.mono hk) hx ha ht he hpl
end

/-! ### enumerate(tuple) -/
theorem meets_enumerate_newT (l : Addr) (items : Array Value) (n : Nat) (dct : Option Addr) (sl : Array (Option Value)) :
    Meets (Builtin.«enumerate.__new__» ⟨[.type "enumerate", .ref l], []⟩) (fun _ R s => s.heap.get? l = some { cls := .type "tuple", dict := dct, data := .seq items n, slots := sl } ∧
      R (.ok (.ret (.ref (s.heap.push { cls := .type "tuple_iterator", data := .fields #[.ref l, .int 0 0] }).objs.size)))
        { s with heap := (s.heap.push { cls := .type "tuple_iterator", data := .fields #[.ref l, .int 0 0] }).push { cls := .type "enumerate", data := .fields #[.none, .bool false, .ref s.heap.objs.size, rawInt 0, .none, .none] } }) :=
  .of_wp fun prog w A R s h => by
    obtain ⟨hp, g, d, tk, os⟩ := s; obtain ⟨hl, h⟩ := h
    have hsub := sub_enumerate
    have hL : Heap.IsTuple (Shared.heap ⟨hp, g, d, tk, os⟩) l items := ⟨_, hl, rfl, n, rfl⟩
    wp_walk using AutoSeq1.wpAny_loadPart' hl
    refine wpAny_stack_any fun st => wpAny_pure ?_
    split
    · rename_i c _ _ _ _ _
      cases (c == Value.type "enumerate")
      · wp_walk using AutoSeq1.wpAny_loadPart' hl, wpAny_pyIter_tuple hL
        exact ⟨_, rfl, h⟩
      · wp_walk using AutoSeq1.wpAny_loadPart' hl, wpAny_pyIter_tuple hL
        exact ⟨_, rfl, h⟩
    · wp_walk using AutoSeq1.wpAny_loadPart' hl, wpAny_pyIter_tuple hL
      exact ⟨_, rfl, h⟩
theorem call_enumerate_tup {prog : Program} {w : World} {A : Around} {E : Value → Shared → Prop} {s : Shared} {l : Addr} {items : Array Value} {Q : Value → Shared → Prop} (hL : s.heap.IsTuple l items)
    (h : ∀ h', IsEnum h' (s.heap.objs.size + 1) s.heap.objs.size 0 .none → h'.IsTupleIter s.heap.objs.size l 0 → h'.objs.size = s.heap.objs.size + 2 →
      (∀ b o, s.heap.get? b = some o → h'.get? b = some o) → Q (.ref (s.heap.objs.size + 1)) { s with heap := h' }) :
    wpAny (model prog w) A (call (.type "enumerate") [.ref l]) Q E s := by
  obtain ⟨⟨c, dct, dt, sl⟩, hl, hc, n, hd⟩ := hL
  replace hc : c = .type "tuple" := hc
  replace hd : dt = .seq items n := hd
  subst hc hd
  refine callType_new F.called_enumerate (by decide) (F.typeCall_enumerate_1 _) (F.newCall_enumerate_1 _) (fun obj => F.args_object_init_2 obj _) F.entry_enumerate_new
    (meets_enumerate_newT l items n dct sl) ⟨hl, ?_⟩
  have hz : (s.heap.push { cls := .type "tuple_iterator", data := .fields #[.ref l, .int 0 0] }).objs.size = s.heap.objs.size + 1 := Heap.size_push ..
  show _ ∧ _
  rw [hz]
  have he : IsEnum ((s.heap.push { cls := .type "tuple_iterator", data := .fields #[.ref l, .int 0 0] }).push
      { cls := .type "enumerate", data := .fields #[.none, .bool false, .ref s.heap.objs.size, rawInt 0, .none, .none] }) (s.heap.objs.size + 1) s.heap.objs.size 0 .none := by
    have := Heap.get?_push_size (s.heap.push { cls := .type "tuple_iterator", data := .fields #[.ref l, .int 0 0] })
      (o := { cls := .type "enumerate", data := .fields #[.none, .bool false, .ref s.heap.objs.size, rawInt 0, .none, .none] }) rfl
    rw [hz] at this; exact this
  refine ⟨⟨_, he, rfl⟩, h _ he ⟨_, Heap.get?_push_of_some _ (Heap.get?_push_size _ rfl), rfl, rfl⟩ (by rw [Heap.size_push, hz]) fun b o x => Heap.get?_push_of_some _ (Heap.get?_push_of_some _ x)⟩
def IteT (K : PySem.W.Frag) (a : Addr) : It :=
  ⟨fun i H => ∃ (xs : List V) (x : V), SqT K H a xs ∧ xs[i]? = some x, fun i H v H' => ∃ T x, v = .ref T ∧ H T = none ∧ H' = upd H T (.tup [.int (i : Nat), x]) ∧ ∀ xs, SqT K H a xs → xs[i]? = some x, fun i H => ∃ xs : List V, SqT K H a xs ∧ xs.length = i⟩
theorem turn_enumT {P : Program} {w : World} {K : PySem.W.Frag} {elts : List Expr} {kk : Nat} {tpos : Pos} (a e it : Addr) :
    Turn P w K (.Tuple elts kk tpos) (IteT K a) [e, it] e (fun i h => (∃ old, IsEnum h e it ((i : Nat) : Int) old) ∧ h.IsTupleIter it a i ∧ e ≠ it ∧ a ≠ it ∧ a ≠ e) where
  mem := by simp
  obj := fun i h st b hb => by
    obtain ⟨⟨old, he⟩, ⟨o, ho, hc, hd⟩, _⟩ := st
    have e' : b = e ∨ b = it := by simpa using hb
    rcases e' with z | z
    · rw [z]; exact ⟨_, he, fun v q => nomatch q⟩
    · rw [z]; exact ⟨o, ho, fun v q => by rw [hd] at q; cases q⟩
  keep := fun i h h' st k => let ⟨⟨old, he⟩, hi, hne⟩ := st; ⟨⟨old, k e (by simp) _ he⟩, hi.at fun o q => k it (by simp) o q, hne⟩
  item := by
    intro X hP hw hK hc i pins s σ H E I hf st hg
    subst hP hw hK
    obtain ⟨⟨old, he⟩, hit, hne, nai, nae⟩ := st
    obtain ⟨xs, x, hq, hx⟩ := hg
    obtain ⟨its, rv, p, hz⟩ := I.tuple hq
    obtain ⟨u, hu, ru⟩ := rv.get hx
    have hel : e < s.heap.objs.size := Heap.lt_size he
    have hil : it < s.heap.objs.size := by obtain ⟨_, q, _⟩ := hit; exact Heap.lt_size q
    have hlt : i < its.toArray.size := by
      have := (List.getElem?_eq_some_iff.mp hu).1
      simpa using this
    have hA : X.A.in1.handled = none := I.ok.hd hc
    refine wpAny_pyNext_enum_itemD (Draws.tuple hA it a nai its.toArray) he ⟨hit, p⟩ hlt hne (by simp; exact ⟨hne, fun z => nae z.symm⟩) fun u' h' tk hP ho hst hT hsz hk => ?_
    have eu : u' = u := by
      have q : its[i]? = some u' := by simpa using hP
      rw [hu] at q; exact (Option.some.inj q).symm
    subst eu
    obtain ⟨hit', _⟩ := hst
    refine ⟨_, rfl, wpAny_letOwnedTupleGo_enum (s := { s with heap := h', toks := tk + 1 }) ho fun h'' he' sb => ?_⟩
    have hT2 : h''.get? s.heap.objs.size = some { cls := .type "tuple", data := .seq #[.int i tk, u'] } := (sb.2 _ (Nat.ne_of_gt hel)).trans hT
    have new : ObjOk X.prog X.w (upd H s.heap.objs.size (.tup [.int (i : Nat), x])) h'' s.heap.objs.size (.tup [.int (i : Nat), x]) :=
      ⟨by show 2 ≤ sizeLine; decide, [.int i tk, u'], .cons ⟨_, rfl⟩ (.cons ru .nil), ⟨_, hT2, rfl, _, rfl⟩⟩
    have I1 : Inv X pins σ (upd H s.heap.objs.size (.tup [.int (i : Nat), x])) { s with heap := h'', toks := tk + 1 } :=
      I.turnedNew (ch := [e, it]) (fun b ob hb q => (sb.2 b (fun z => hb (by simp [z]))).trans (hk b ob (fun z => hb (by simp [z])) (fun z => hb (by simp [z])) q)) hf (Nat.le_refl _) new
    refine ⟨.ref s.heap.objs.size, _, I1, rfl, ⟨_, x, rfl, I.hok.fresh (Nat.le_refl _), rfl, fun ys hy => by rw [I.tuple_inj hy hq]; exact hx⟩, ⟨⟨u', ?_⟩, hit'.at fun o q => (sb.2 it (Ne.symm hne)).trans q, hne, nai, nae⟩, fun b hb => ?_⟩
    · have e1 : ((i + 1 : Nat) : Int) = (i : Int) + 1 := by omega
      rw [e1]; exact he'
    · have hb' : b < s.heap.objs.size := by
        have e' : b = e ∨ b = it := by simpa using hb
        rcases e' with z | z
        · rw [z]; exact hel
        · rw [z]; exact hil
      rw [upd_ne (Nat.ne_of_lt hb')]
      exact (hf b hb).1
  done := by
    intro X hP hw hK hc i pins s σ H E I hf st hg
    subst hP hw hK
    obtain ⟨⟨old, he⟩, hit, hne, nai, nae⟩ := st
    obtain ⟨xs, hq, hx⟩ := hg
    obtain ⟨its, rv, p, hz⟩ := I.tuple hq
    obtain ⟨f0, f1, f2, f3, f4, f5⟩ := hf it (by simp)
    have hl := rv.length
    have hA : X.A.in1.handled = none := I.ok.hd hc
    have en : i = its.toArray.size := by simp; omega
    subst en
    exact wpAny_pyNext_enum_endD (Draws.tuple hA it a nai its.toArray) he ⟨hit, p⟩ fun h' eb => ⟨rfl, I.turned (t' := s.toks) (fun b o hb q => eb b o hb q) f0 f1 f3 f4 f5⟩
  self := fun A i s Q E st h => let ⟨⟨_, he⟩, _⟩ := st; wpAny_pyIter_enum he h
theorem walk_enumT {K : PySem.W.Frag} {a : Addr} {xs : List V} : Walk (IteT K a) xs.length (fun H => SqT K H a xs) (YPair (fun i => some (.int (i : Nat))) (fun i => xs[i]?)) := by
  refine ⟨fun i _ hi q => ⟨xs, xs[i], q, by simp [hi]⟩, fun _ q => ⟨xs, q, rfl⟩, fun i H v H' _ q y => ?_⟩
  obtain ⟨T, x, h1, h2, h3, h4⟩ := y
  exact ⟨T, .int (i : Nat), x, h1, h2, h3, rfl, h4 xs q⟩
/-- enumerate of a list or a tuple: whatever walks it, while its object stays -/
def iEnumS (K : PySem.W.Frag) (ta : TA) : TI := fun σ H R => ta σ H fun vs H1 => ∃ a xs, vs = [.ref a] ∧ (SqL K H1 a xs ∨ SqT K H1 a xs) ∧
  ∀ (J : It) (G : Hp → Prop), Walk J xs.length G (YPair (fun i => some (.int (i : Nat))) (fun i => xs[i]?)) → (∀ H', (SqL K H1 a xs → SqL K H' a xs) → (SqT K H1 a xs → SqT K H' a xs) → G H') → R J H1
theorem stayL {K : PySem.W.Frag} {H H' : Hp} {a : Addr} {xs : List V} (h : SqL K H a xs) (e : ∀ o, H a = some o → H' a = some o) : SqL K H' a xs := by
  rcases h with (h | ⟨o, h⟩) | h
  · exact .inl (.inl (e _ h))
  · exact .inl (.inr ⟨o, e _ h⟩)
  · exact .inr h
theorem stayT {K : PySem.W.Frag} {H H' : Hp} {a : Addr} {xs : List V} (h : SqT K H a xs) (e : ∀ o, H a = some o → H' a = some o) : SqT K H' a xs := by
  rcases h with (h | ⟨o, h⟩) | h
  · exact .inl (.inl (e _ h))
  · exact .inl (.inr ⟨o, e _ h⟩)
  · exact .inr h
theorem pi_enumS {X : Cx} {e : Expr} {ta : TA} {p pos tpos : Pos} {elts : List Expr} {kk : Nat} (hg : Gl X "enumerate") (hm : X.mg "enumerate" = none) (ha : PA X [e] ta) (hs : starEach [e] X.env = [(false, eval e X.env)] := by rfl) :
    PI X (.Tuple elts kk tpos) (.Call (.Name "enumerate" p) [e] [] pos) (iEnumS X.K ta) := by
  refine ⟨fun pins s σ H R I h => ?_⟩
  refine Call_ (ld_blt I hg hm boot_enumerate (PyProof.Rows.callWith_type1 (thn (ha.run pos pins s σ H _ I h) fun us s1 ⟨vs, H1, I1, r1, q1⟩ => ?_) hs rfl))
  obtain ⟨a, xs, ex, hq, q⟩ := q1
  subst ex
  have hfp : ∀ b, b = s1.heap.objs.size + 1 ∨ b = s1.heap.objs.size → s1.heap.objs.size ≤ b := fun b e' => by
    rcases e' with z | z
    · rw [z]; exact Nat.le_add_right _ _
    · rw [z]; exact Nat.le_refl _
  cases r1 with
  | cons r rr =>
    cases rr
    cases r
    rcases hq with hq | hq
    · obtain ⟨its, rv, p', hz⟩ := I1.list hq
      refine call_enumerate_list p'.isList fun h' he hit hsz hk => wpAny_pyIter_enum he ?_
      have I2 : Inv X pins σ H1 { s1 with heap := h' } := I1.kept (t' := s1.toks) hk
      refine ⟨s1.heap.objs.size + 1, [s1.heap.objs.size + 1, s1.heap.objs.size], _, _, H1, rfl, I2, turn_enum a (s1.heap.objs.size + 1) s1.heap.objs.size, ⟨⟨.none, he⟩, hit, Nat.succ_ne_self _⟩, fun b hb => ?_, q _ _ walk_enum fun H' e _ => e hq⟩
      have hle := hfp b (by simpa using hb)
      exact I1.fpOk hle (I1.hok.fresh hle)
    · obtain ⟨its, rv, p', hz⟩ := I1.tuple hq
      have hlt := p'.lt
      refine call_enumerate_tup p' fun h' he hit hsz hk => wpAny_pyIter_enum he ?_
      have I2 : Inv X pins σ H1 { s1 with heap := h' } := I1.kept (t' := s1.toks) hk
      refine ⟨s1.heap.objs.size + 1, [s1.heap.objs.size + 1, s1.heap.objs.size], _, _, H1, rfl, I2, turn_enumT a (s1.heap.objs.size + 1) s1.heap.objs.size, ⟨⟨.none, he⟩, hit, Nat.succ_ne_self _, Nat.ne_of_lt hlt, Nat.ne_of_lt (Nat.lt_succ_of_lt hlt)⟩, fun b hb => ?_, q _ _ walk_enumT fun H' _ e => e hq⟩
      have hle := hfp b (by simpa using hb)
      exact I1.fpOk hle (I1.hok.fresh hle)

/-! ### a def of the text keeps its promise -/
section
variable {P : Program} {w : World} {K : PySem.W.Frag} {mg : Str → Option Value} {base : Heap}
theorem fnr {x qual : Str} {st : Stmt} {f : Addr} {fd : FuncData} {N ps : List Str} {k : Nat} {sp : Sp} (F : Fun K x qual st f fd) (S : FnScope N ps (defScope st)) (len : ∀ vs H Q E, sp vs H Q E → vs.length = ps.length)
    (hb : ∀ (kV doc pm : Value) (an : Option Addr) (cdv ct : Value) (us : List Value), us.length = ps.length → bindArgs (PySem.W.fnOf x qual (defArgs st) (defBody st) (defScope st) .none kV doc pm an cdv ct) ⟨us, []⟩ = pure (ps.zip us))
    (hbody : ∀ (cdv : Value) (A : Around) (outer : List Env) (s : Shared) (H : Hp) (vs : List V) (Q : VK) (E : XK), Room k (A.deeper (envOfC qual (defScope st) s.heap.objs.size f cdv)) → sp vs H Q E →
      ∃ t, PSs (cxOf CX0 P w K mg base N qual (defScope st) f cdv A outer s H E).nox (defBody st) t ∧ t { nx := fun _ H' => Q .non H', rt := Q } (start N vs) H) : FnR P w K mg base CX0 (k + 1) f sp :=
  (FnOk.raw (F.ok S len hbody) (F.binds hb) .nil).imp fun vs H Q E h => by rw [List.append_nil]; exact h
end
/-- a def of the text with defaults -/
theorem fnrD {P : Program} {w : World} {K : PySem.W.Frag} {mg : Str → Option Value} {base : Heap} {x qual : Str} {st : Stmt} {f : Addr} {fd : FuncData} {dvs : List V} {kws : List (Str × V)} {N ps : List Str} {k : Nat} {sp : Sp} (F : FunD K x qual (defArgs st) (defBody st) (defScope st) dvs kws f fd) (S : FnScope N ps (defScope st)) (len : ∀ vs H Q E, sp vs H Q E → vs.length = ps.length)
    (hbody : ∀ (cdv : Value) (A : Around) (outer : List Env) (s : Shared) (H : Hp) (vs : List V) (Q : VK) (E : XK), Room k (A.deeper (envOfC qual (defScope st) s.heap.objs.size f cdv)) → sp vs H Q E →
      ∃ t, PSs (cxOf CX0 P w K mg base N qual (defScope st) f cdv A outer s H E).nox (defBody st) t ∧ t { nx := fun _ H' => Q .non H', rt := Q } (start N vs) H) : FnOk P w K mg base CX0 (k + 1) f fd ps sp :=
  F.ok S len fun cdv A outer s H vs Q E hr h => by
    obtain ⟨t, a, q⟩ := hbody cdv A outer s H vs Q E hr h
    exact ⟨t, a.nox, q⟩
theorem FnOk.r {P : Program} {w : World} {K : PySem.W.Frag} {mg : Str → Option Value} {base : Heap} {CX : CXT} {k : Nat} {f : Addr} {fd : FuncData} {ps : List Str} {sp : Sp} (F : FnOk P w K mg base CX k f fd ps sp) (b : Binds K fd ps []) : FnR P w K mg base CX k f sp :=
  (FnOk.raw F b .nil).imp fun vs H Q E h => by rw [List.append_nil]; exact h
theorem rix_S {K : PySem.W.Frag} {H : Hp} {n : Addr} {ys : List V} {i : Int} {v : V} {Q : VK} (h : SqL K H n ys ∨ SqT K H n ys) (e : atI ys i = some v) (q : Q v H) : rIx K (.ref n) (.int i) H Q :=
  h.elim (fun h => .inl ⟨n, ys, i, v, rfl, rfl, h, e, q⟩) (fun h => .inr (.inl ⟨n, ys, i, v, rfl, rfl, h, e, q⟩))
theorem ifY {c A B : Prop} [Decidable c] (hc : c) (h : A) : if decide c = true then A else B := by
  rw [decide_eq_true hc]
  exact iteT h
theorem ifN {c A B : Prop} [Decidable c] (hc : ¬ c) (h : B) : if decide c = true then A else B := by
  rw [decide_eq_false hc]
  exact iteF h
theorem ifNN {c A B : Prop} [Decidable c] (hc : ¬ c) (h : A) : if (!decide c) = true then A else B := by
  rw [decide_eq_false hc]
  exact iteT h
/-- names that the module leaves to the built-ins -/
def Free (mg : Str → Option Value) : List Str → Prop
  | [] => True
  | x :: r => mg x = none ∧ Free mg r
/-- what stood stands, but at b -/
def KeepB (b : Addr) (H H' : Hp) : Prop := ∀ c o, H c = some o → c ≠ b → H' c = some o
theorem KeepB.refl (b : Addr) (H : Hp) : KeepB b H H := fun _ _ e _ => e
theorem KeepB.trans {b : Addr} {H H1 H2 : Hp} (x : KeepB b H H1) (y : KeepB b H1 H2) : KeepB b H H2 := fun c o e n => y c o (x c o e n) n
theorem KeepB.of_same {b : Addr} {H H1 : Hp} (x : Same H H1) : KeepB b H H1 := fun c o e _ => x c o e
theorem KeepB.upd {b : Addr} {H H1 : Hp} {o : HO} (x : KeepB b H H1) : KeepB b H (L2.upd H1 b o) := fun c u e n => by rw [upd_ne n]; exact x c u e n
theorem KeepB.new {b p : Addr} {H H1 : Hp} {o : HO} (x : KeepB b H H1) (hp : H1 p = none) : KeepB b H (L2.upd H1 p o) := fun c u e n => by
  rw [upd_ne (ne_of_none (x c u e n) hp)]; exact x c u e n
theorem same_new {p : Addr} {H H1 : Hp} {o : HO} (x : Same H H1) (hp : H1 p = none) : Same H (L2.upd H1 p o) := fun c u e => by
  rw [upd_ne (ne_of_none (x c u e) hp)]; exact x c u e
theorem Same.sqT {K : PySem.W.Frag} {H H' : Hp} {a : Addr} {xs : List V} (e : Same H H') (h : SqT K H a xs) : SqT K H' a xs := by
  rcases h with (h | ⟨o, h⟩) | h
  · exact .inl (.inl (e _ _ h))
  · exact .inl (.inr ⟨o, e _ _ h⟩)
  · exact .inr h
theorem KeepB.sqT {K : PySem.W.Frag} {b : Addr} {H H' : Hp} {a : Addr} {xs : List V} (e : KeepB b H H') {l : List V} (hb : H b = some (.lst l)) (h : SqT K H a xs) : SqT K H' a xs := by
  rcases h with (h | ⟨o, h⟩) | h
  · exact .inl (.inl (e _ _ h (ne_of h hb (by intro z; cases z))))
  · exact .inl (.inr ⟨o, e _ _ h (ne_of h hb (by intro z; cases z))⟩)
  · exact .inr h
/-- what b holds is neither a list nor locked -/
def NoSeq (o : HO) : Prop := (∀ xs, o ≠ .lst xs) ∧ (∀ xs, o ≠ .tup xs) ∧ ∀ ob u, o ≠ .frz ob u
theorem KeepB.sqT' {K : PySem.W.Frag} {b : Addr} {H H' : Hp} {a : Addr} {xs : List V} {o : HO} (e : KeepB b H H') (hb : H b = some o) (ho : NoSeq o) (h : SqT K H a xs) : SqT K H' a xs := by
  rcases h with (h | ⟨o, h⟩) | h
  · exact .inl (.inl (e _ _ h (ne_of h hb fun z => ho.2.1 _ z.symm)))
  · exact .inl (.inr ⟨o, e _ _ h (ne_of h hb fun z => ho.2.2 _ _ z.symm)⟩)
  · exact .inr h
theorem KeepB.sqL' {K : PySem.W.Frag} {b : Addr} {H H' : Hp} {a : Addr} {xs : List V} {o : HO} (e : KeepB b H H') (hb : H b = some o) (ho : NoSeq o) (h : SqL K H a xs) : SqL K H' a xs := by
  rcases h with (h | ⟨o, h⟩) | h
  · exact .inl (.inl (e _ _ h (ne_of h hb fun z => ho.1 _ z.symm)))
  · exact .inl (.inr ⟨o, e _ _ h (ne_of h hb fun z => ho.2.2 _ _ z.symm)⟩)
  · exact .inr h
theorem noSeq_dK (kvs : List (Key × V)) : NoSeq (.dK kvs) := ⟨fun _ z => (by cases z), fun _ z => (by cases z), fun _ _ z => (by cases z)⟩
theorem noSeq_ins (C dx : Addr) (fs : List (Str × V)) : NoSeq (.ins C dx fs) := ⟨fun _ z => (by cases z), fun _ z => (by cases z), fun _ _ z => (by cases z)⟩
theorem KeepB.sqL {K : PySem.W.Frag} {b : Addr} {H H' : Hp} {a : Addr} {xs : List V} (e : KeepB b H H') (hn : a ≠ b) (h : SqL K H a xs) : SqL K H' a xs := by
  rcases h with (h | ⟨o, h⟩) | h
  · exact .inl (.inl (e _ _ h hn))
  · exact .inl (.inr ⟨o, e _ _ h hn⟩)
  · exact .inr h

/-! ### data -/
def Sh (d : PyData) : Prop := d.canLay0 = true ∧ d.depth ≤ 10
theorem canLayAll_of : ∀ {ds : List PyData}, (∀ d ∈ ds, d.canLay0 = true) → PyData.canLayAll0 ds = true
  | [], _ => rfl
  | d :: ds, h => by
    show (PyData.canLay0 d && PyData.canLayAll0 ds) = true
    rw [h d List.mem_cons_self, canLayAll_of fun e he => h e (List.mem_cons_of_mem _ he)] <;> rfl
theorem depthAll_of {k : Nat} : ∀ {ds : List PyData}, (∀ d ∈ ds, d.depth ≤ k) → PyData.depthAll ds ≤ k
  | [], _ => Nat.zero_le _
  | d :: ds, h => by
    show max (PyData.depth d) (PyData.depthAll ds) ≤ k
    exact Nat.max_le.mpr ⟨h d List.mem_cons_self, depthAll_of fun e he => h e (List.mem_cons_of_mem _ he)⟩
theorem shaped_list {ds : List PyData} (h : ∀ d ∈ ds, Sh d) : SeqAt.shaped (.list ds) = true := by
  have h1 : PyData.canLay0 (.list ds) = true := canLayAll_of fun d hd => (h d hd).1
  have h2 : PyData.depth (.list ds) ≤ 11 := Nat.succ_le_succ (depthAll_of fun d hd => (h d hd).2)
  unfold SeqAt.shaped
  rw [h1, decide_eq_true (Nat.le_trans h2 (by decide))] <;> rfl
theorem shaped_tuple {ds : List PyData} (h : ∀ d ∈ ds, Sh d) : SeqAt.shaped (.tuple ds) = true := by
  have h1 : PyData.canLay0 (.tuple ds) = true := canLayAll_of fun d hd => (h d hd).1
  have h2 : PyData.depth (.tuple ds) ≤ 11 := Nat.succ_le_succ (depthAll_of fun d hd => (h d hd).2)
  unfold SeqAt.shaped
  rw [h1, decide_eq_true (Nat.le_trans h2 (by decide))] <;> rfl
theorem sh_seq {k : Nat} {ds : List PyData} (h : ∀ d ∈ ds, d.canLay0 = true ∧ d.depth ≤ k) (hk : k ≤ 9) : Sh (.list ds) ∧ Sh (.tuple ds) := by
  have h1 : PyData.canLayAll0 ds = true := canLayAll_of fun d hd => (h d hd).1
  have h2 : PyData.depthAll ds + 1 ≤ 10 := Nat.succ_le_succ (Nat.le_trans (depthAll_of fun d hd => (h d hd).2) hk)
  exact ⟨⟨h1, h2⟩, ⟨h1, h2⟩⟩
theorem sh_ints (ns : List Int) : ∀ d ∈ ns.map PyData.int, Sh d := fun d hd => by
  obtain ⟨n, _, rfl⟩ := List.mem_map.mp hd
  exact ⟨rfl, Nat.zero_le _⟩
theorem eqvAll_ints : ∀ a b : List Int, PyData.eqvAll (a.map PyData.int) (b.map PyData.int) = decide (a = b)
  | [], [] => rfl
  | [], _ :: _ => rfl
  | _ :: _, [] => rfl
  | x :: a, y :: b => by
    show (PyData.eqv (.int x) (.int y) && PyData.eqvAll (a.map PyData.int) (b.map PyData.int)) = decide (x :: a = y :: b)
    rw [eqvAll_ints a b]
    have e : PyData.eqv (.int x) (.int y) = decide (x = y) := by
      unfold PyData.eqv
      exact Bool.beq_eq_decide_eq x y
    rw [e, ← Bool.decide_and]
    exact decide_eq_decide.mpr ⟨fun h => by rw [h.1, h.2], fun h => by injection h with h1 h2; exact ⟨h1, h2⟩⟩
theorem eqv_list {a b : List PyData} : PyData.eqv (.list a) (.list b) = PyData.eqvAll a b := by rw [PyData.eqv]
theorem eqv_tuple {a b : List PyData} : PyData.eqv (.tuple a) (.tuple b) = PyData.eqvAll a b := by rw [PyData.eqv]
theorem eqv_same {ds : List PyData} (h : ∀ d ∈ ds, Sh d) : PyData.eqv (.list ds) (.list ds) = true := SeqAt.eqv_refl _ (canLayAll_of fun d hd => (h d hd).1)
section
variable {K : PySem.W.Frag} {H H' : Hp}
theorem dpAll_ints : ∀ ns : List Int, DpAll K H (ns.map V.int) (ns.map PyData.int)
  | [] => .nil
  | n :: r => .cons (.int n) (dpAll_ints r)
theorem dp_ints {p : Addr} {ns : List Int} (h : SqL K H p (ns.map V.int)) : Dp K H (.ref p) (.list (ns.map PyData.int)) := .lst h (dpAll_ints ns)
theorem dp_intsT {p : Addr} {ns : List Int} (h : SqT K H p (ns.map V.int)) : Dp K H (.ref p) (.tuple (ns.map PyData.int)) := .tup h (dpAll_ints ns)
mutual
theorem Dp.mono (e : Same H H') : ∀ {v : V} {d : PyData}, Dp K H v d → Dp K H' v d
  | _, _, .non => .non
  | _, _, .bl b => .bl b
  | _, _, .int i => .int i
  | _, _, .str x => .str x
  | _, _, .lst h q => .lst (L2.Same.seq e h) (DpAll.mono e q)
  | _, _, .tup h q => .tup (Same.sqT e h) (DpAll.mono e q)
theorem DpAll.mono (e : Same H H') : ∀ {vs : List V} {ds : List PyData}, DpAll K H vs ds → DpAll K H' vs ds
  | _, _, .nil => .nil
  | _, _, .cons h q => .cons (Dp.mono e h) (DpAll.mono e q)
end
theorem DpAll.length : ∀ {vs : List V} {ds : List PyData}, DpAll K H vs ds → vs.length = ds.length
  | _, _, .nil => rfl
  | _, _, .cons _ q => congrArg Nat.succ (DpAll.length q)
theorem DpAll.get : ∀ {vs : List V} {ds : List PyData} {i : Nat} {v : V}, DpAll K H vs ds → vs[i]? = some v → ∃ d, ds[i]? = some d ∧ Dp K H v d
  | _, _, _, _, .nil, e => by simp at e
  | _, _, 0, v, .cons (v := v') h _, e => by
    have : v' = v := Option.some.inj e
    subst this
    exact ⟨_, rfl, h⟩
  | _, _, i + 1, v, .cons _ q, e => by
    obtain ⟨d, h1, h2⟩ := DpAll.get (i := i) q (by simpa using e)
    exact ⟨d, by simpa using h1, h2⟩
theorem DpAll.snoc : ∀ {vs : List V} {ds : List PyData} {v : V} {d : PyData}, DpAll K H vs ds → Dp K H v d → DpAll K H (vs ++ [v]) (ds ++ [d])
  | _, _, _, _, .nil, h => .cons h .nil
  | _, _, _, _, .cons h q, h' => .cons h (DpAll.snoc q h')
end

/-! ### rules with the written part named: within a comprehension -/
section
variable {X : Cx} {K : PySem.W.Frag}
theorem ix_tupK (hK : X.K = K) : IxR X (rIxT K) := hK ▸ ix_tup
theorem ix_listK (hK : X.K = K) : IxR X (rIxL K) := hK ▸ ix_list
theorem ix_seqK (hK : X.K = K) : IxR X (rIx K) := hK ▸ ix_seq
theorem op_in_seqK (hK : X.K = K) : OpR X (compareOp .In) (rIn K false) := hK ▸ op_in_seq
theorem op_notIn_seqK (hK : X.K = K) : OpR X (compareOp .NotIn) (rIn K true) := hK ▸ op_notIn_seq
theorem op_eqDK (hK : X.K = K) (hu : X.A.units + 64 < cLine) : OpR X (compareOp .Eq) (rEqD K) := hK ▸ op_eqD hu
theorem op_neDK (hK : X.K = K) (hu : X.A.units + 64 < cLine) : OpR X (compareOp .NotEq) (rNeD K) := hK ▸ op_neD hu
theorem pe_fldK {e : Expr} {ta : TE} {f : Str} {pos : Pos} (hK : X.K = K) (he : PE X e ta) (hb : attributeBase e f X.env (eval e X.env) = eval e X.env) : PE X (.Attribute e f pos) (tFld K ta f) := hK ▸ pe_fld he hb
def rLenS (K : PySem.W.Frag) : List V → Hp → VK → Prop := fun xs H Q => ∃ p ys, xs = [.ref p] ∧ (SqL K H p ys ∨ SqT K H p ys) ∧ Q (.int ys.length) H
theorem call_len_seqK (hK : X.K = K) : CallR X (.builtin "len") (rLenS K) := hK ▸ call_len_seq
end

theorem pg_tupK {X : Cx} {K : PySem.W.Frag} {pos : Pos} {es : List Expr} {k : Nat} {t : TGs} {n : Nat} (hK : X.K = K) (hc : X.calm = true) (h : PGs X es t)
    (hn : (assignEach es X.env).length = n := by rfl) (hst : (assignEach es X.env).findIdx? (·.1) = none := by rfl) : PG X (.Tuple es k pos) (gTup K n t) := hK ▸ pg_tup hc h hn hst
/-- a dict comprehension over what is walked -/
theorem dc_it {J : It} {n : Nat} {G : Hp → Prop} {Y : Nat → Hp → V → Hp → Prop} (w : Walk J n G Y) {g : TG} {tt : TT} {tk tv : TE} {vs : List Nat} {σ : L2.St} {H1 : Hp} {D : Addr} {Qd : Hp → Prop} (Pv : Nat → Hp → Prop) (h0 : Pv 0 (upd H1 D (.dK []))) (hG : ∀ i H, i ≤ n → Pv i H → G H)
    (hs : ∀ i x H H', i < n → Pv i H → Y i H x H' → g x (wipe σ vs) H' fun σ2 H2 => wipe σ2 vs = wipe σ vs ∧ tt σ2 H2 fun b H3 =>
      if b = true then tk σ2 H3 fun y H4 => tv σ2 H4 fun z H5 => ∃ kvs k, y = kV k ∧ H5 D = some (.dK kvs) ∧ kvs.length < sizeLine ∧ Pv (i + 1) (upd H5 D (.dK (putK kvs k z))) else Pv (i + 1) H3) (hd : ∀ H, Pv n H → Qd H) :
    ∃ W : Nat → Nat → Hp → Prop, (∃ m, W 0 m (upd H1 D (.dK []))) ∧ ∀ i m H, W i m H →
      (J.stop i H ∧ Qd H) ∨ (J.go i H ∧ ∃ Nx : Hp → Prop, (∀ H', Nx H' → ∃ m', m' < m ∧ W (i + 1) m' H') ∧ ∀ x H', J.yld i H x H' → g x (wipe σ vs) H' fun σ2 H2 => wipe σ2 vs = wipe σ vs ∧ tt σ2 H2 fun b H3 =>
        if b = true then tk σ2 H3 fun y H4 => tv σ2 H4 fun z H5 => ∃ kvs k, y = kV k ∧ H5 D = some (.dK kvs) ∧ kvs.length < sizeLine ∧ Nx (upd H5 D (.dK (putK kvs k z))) else Nx H3) := by
  refine ⟨fun i m H => m = n - i ∧ i ≤ n ∧ Pv i H, ⟨n, by simp, Nat.zero_le _, h0⟩, ?_⟩
  rintro i m H ⟨rfl, hi, p⟩
  have q := hG i H hi p
  by_cases hlt : i < n
  · exact .inr ⟨w.goes i H hlt q, Pv (i + 1), fun H' p' => ⟨n - (i + 1), by omega, rfl, hlt, p'⟩, fun x H' y => hs i x H H' hlt p (w.yields i H x H' hlt q y)⟩
  · have e : i = n := by omega
    subst e
    exact .inl ⟨w.stops H q, hd H p⟩

theorem seqIdx_nat {m len : Nat} (h : m < len) : seqIndex? (m : Int) len = some m := by
  unfold seqIndex?
  have h1 : ¬ ((m : Int) < 0) := by omega
  simp only [h1, if_false]
  have h2 : (decide ((0 : Int) ≤ (m : Int)) && decide ((m : Int) < (len : Int))) = true := by
    rw [Bool.and_eq_true]
    exact ⟨decide_eq_true (by omega), decide_eq_true (by omega)⟩
  rw [if_pos h2]
  simp
theorem map_eraseI {α β : Type} (f : α → β) : ∀ (l : List α) (i : Nat), (l.map f).eraseIdx i = (l.eraseIdx i).map f
  | [], _ => rfl
  | _ :: _, 0 => rfl
  | a :: r, i + 1 => by
    show f a :: (r.map f).eraseIdx i = f a :: (r.eraseIdx i).map f
    rw [map_eraseI f r i]
theorem lt_line {n : Nat} (h : n ≤ 100000) : n < sizeLine := Nat.lt_of_le_of_lt h (by decide)
theorem le_line {n : Nat} (h : n ≤ 100000) : n ≤ sizeLine := Nat.le_of_lt (lt_line h)

theorem ixN_nat {m len : Nat} (h : m < len) : ixN len (m : Int) = some m := by
  unfold ixN
  rw [if_pos (by omega), if_pos (by omega)]
  simp
theorem set_last {α : Type} : ∀ (a : List α) (x y : α), (a ++ [x]).set a.length y = a ++ [y]
  | [], _, _ => rfl
  | b :: r, x, y => by
    show b :: (r ++ [x]).set r.length y = b :: (r ++ [y])
    rw [set_last r x y]
theorem strOk_of (t : String) : PyData.strOk (Str.ofString t) = true := by
  rw [Str.ofString_eq_toList]
  unfold PyData.strOk
  rw [← Array.all_toList]
  simp only [List.all_eq_true, decide_eq_true_eq]
  intro c hc
  have hc' : c ∈ t.toList.map Char.toNat := by simpa using hc
  obtain ⟨ch, _, rfl⟩ := List.mem_map.mp hc'
  have v := ch.valid
  rcases v with v | v
  · have : ch.toNat < 0xd800 := v
    omega
  · have : ch.toNat < 0x110000 := v.2
    omega
theorem strOk_app (a b : Str) (ha : PyData.strOk a = true) (hb : PyData.strOk b = true) : PyData.strOk (a ++ b) = true := by
  unfold PyData.strOk at *
  show (a.cps ++ b.cps).all _ = true
  rw [Array.all_append, ha, hb] <;> rfl
/-- the heap without some addresses -/
def Wo (H : Hp) (bs : List Addr) : Hp := fun c => if c ∈ bs then none else H c
theorem wo_same {H : Hp} {bs : List Addr} : Same (Wo H bs) H := fun c o e => by
  unfold Wo at e
  by_cases h : c ∈ bs
  · rw [if_pos h] at e; cases e
  · rw [if_neg h] at e; exact e
theorem wo_mono {H H' : Hp} {bs : List Addr} (k : ∀ c o, H c = some o → c ∉ bs → H' c = some o) : Same (Wo H bs) (Wo H' bs) := fun c o e => by
  unfold Wo at e ⊢
  by_cases h : c ∈ bs
  · rw [if_pos h] at e; cases e
  · rw [if_neg h] at e ⊢
    exact k c o e h
theorem wo_at {H : Hp} {bs : List Addr} {c : Addr} {o : HO} (h : H c = some o) (hn : c ∉ bs) : Wo H bs c = some o := by
  unfold Wo
  rw [if_neg hn]
  exact h

theorem inV_ints (v : Int) : ∀ ps : List Int, inV (.int v) (ps.map V.int) = decide (v ∈ ps)
  | [] => by simp [inV]
  | p :: r => by
    have ih := inV_ints v r
    unfold inV at ih ⊢
    rw [List.map_cons, List.any_cons, ih]
    have e : eqV (.int p) (.int v) = decide (v = p) := by
      show (p == v) = _
      by_cases h : p = v
      · subst h; simp
      · have h' : ¬ v = p := fun z => h z.symm
        simp [h, h']
    rw [e]
    by_cases h : v = p <;> simp [h]
theorem flat_ints (ps : List Int) : (ps.map V.int).all flatV = true := by
  rw [List.all_eq_true]
  intro x hx
  obtain ⟨p, _, rfl⟩ := List.mem_map.mp hx
  rfl
theorem ifNT {b : Bool} {A B : Prop} (hb : b = true) (h : B) : if (!b) = true then A else B := by
  subst hb
  exact iteF h
theorem ifT {b : Bool} {A B : Prop} (hb : b = true) (h : A) : if b = true then A else B := by
  subst hb
  exact iteT h
theorem ifF {b : Bool} {A B : Prop} (hb : b = false) (h : B) : if b = true then A else B := by
  subst hb
  exact iteF h
theorem flat_rep {α : Type} (x : α) : ∀ k : Nat, (List.replicate k [x]).flatten = List.replicate k x
  | 0 => rfl
  | k + 1 => by
    rw [List.replicate_succ, List.flatten_cons, flat_rep x k, List.replicate_succ]
    rfl
theorem dpAll_rep {K : PySem.W.Frag} {H : Hp} {x : V} {d : PyData} (h : Dp K H x d) : ∀ k : Nat, DpAll K H (List.replicate k x) (List.replicate k d)
  | 0 => .nil
  | k + 1 => .cons h (dpAll_rep h k)
end SB

/-! Own exceptions over ValueError whose __init__ begins with super().__init__(..). -/
namespace SB
open PySem PySem.Spec PyProof.Rows L2 NdefX
section
variable {X : Cx} {pins : List (Addr × Obj)} {σ : L2.St} {H : Hp} {s : Shared} {a C u : Addr}
/-- the bound __init__ of the base, called: nothing of it is told -/
theorem call_mw {A : Around} {E : Value → Shared → Prop} {us : List Value} {Q : Value → Shared → Prop} (T : OexC X.K C) (I : Inv X pins σ H s) (e : H a = some (exo a C none)) (hu : s.heap.get? u = some (PySem.W.kxs_mw "ValueError.__init__" a)) (hl : us.length ≤ sizeLine)
    (h : ∀ s', Inv X pins σ H s' → Q .none s') : wpAny (model X.prog X.w) A (call (.ref u) us) Q E s := by
  obtain ⟨nm, q, N, bs, bm, sn, sub, ab, col, dd, k0, k1, k2, k3, k5, hC, hbm⟩ := T.cls
  obtain ⟨t1, ho⟩ := exo_at I.hok e
  have FB := F.excBase_ValueError
  have hC' := I.kIn _ _ hC
  have fin : ∀ h', (∀ b o, b ≠ a → s.heap.get? b = some o → h'.get? b = some o) → (∃ t2 : Addr, h'.get? a = some ({ cls := .ref C, dict := none, data := .fields #[.ref t2, .none, .none, .none, .bool false, .none] } : Obj)) → Q .none { s with heap := h' } := fun h' k hx => by
    obtain ⟨t2, hx⟩ := hx
    have J := I.write (t' := s.toks) (x := a) (e := a) (o := exo a C none) (by rw [e]; exact True.intro) (.inl rfl) k ⟨_, hx⟩ (exo_ok hx)
    have eu : upd H a (exo a C none) = H := by
      funext b
      by_cases hb : b = a
      · rw [hb, upd_same, e]
      · rw [upd_ne hb]
    rw [eu] at J
    exact h _ J
  obtain ⟨hh, g, d, tk, os⟩ := s
  refine wpAny_call (codeAny_of_tree ?_)
  show wpAny _ A.in1 (callAny (.ref u) ⟨us, []⟩) _ _ _
  simp only [callAny]
  refine wpAny_bind (wpAny_load hu ?_)
  simp only [PySem.W.kxs_mw, show (Value.type "method-wrapper" == Value.type "method" || Value.type "method-wrapper" == Value.type "builtin_function_or_method" || Value.type "method-wrapper" == Value.type "method-wrapper") = true by decide, if_true]
  refine PySem.W.KFB.if_so (by decide) ?_
  refine wpAny_bind (PySem.W.check_bound_init FB.toExcCallFacts hC' ho rfl ?_)
  refine wpAny_bind (wpAny_pure (wpAny_pure ?_))
  refine ⟨plainId_quiet FB.init.plain _, codeAny_builtin FB.initEntry ?_⟩
  refine PySem.W.exc_init_tree (cls := .ref C) (t0 := t1) (dv := none) (c2 := .none) (c3 := .none) (b4 := .bool false) ho hl fun h' k e' _ => fin h' k ⟨_, e'⟩
end
/-- what the reading of such a def's body asks -/
def tSup (K : PySem.W.Frag) (D : Addr) (ta : TA) (t : TS) : TS := fun E σ H => ∃ a C : Addr, σ[0]? = some (some (.ref a)) ∧ OexC K C ∧ H a = some (exo a C none) ∧ PySem.W.mroIn K C (.ref D) = some true ∧
  PySem.W.ks_superIn K C D "__init__" = some (some (.builtin "ValueError.__init__")) ∧ PySem.W.subIn K (.ref C) (.type "ValueError") = some true ∧
  ta σ H fun us H1 => us.length ≤ 1000 ∧ H1 a = some (exo a C none) ∧ t E σ H1
theorem fn_sup {CX : CXT} {P : Program} {w : World} {K : PySem.W.Frag} {mg : Str → Option Value} {base : Heap} {k : Nat} {f cc cda D : Addr} {name qual : Str} {params : Arguments} {p0 p1 apos cpos pos : Pos} {e : Expr} {es : List Expr} {rest : List Stmt} {scope : Scope}
    {dV kV doc pm ct oc ccl cl : Value} {an od cdd cld : Option Addr} {osl ccs csl : Array (Option Value)} {N ps : List Str} {sp : Sp} {ar : Arg} {vs0 : Array Value} {file : Str} {tf : Tok} {cdD : ClassData}
    (lk : K.lookup f = some ⟨oc, od, .func (PySem.W.ksFn name qual params (.Expr (.Call (.Attribute (.Call (.Name "super" p0) [] [] p1) "__init__" apos) (e :: es) [] cpos) pos :: rest) scope dV kV doc pm an (.ref cda) ct cc), osl⟩)
    (hcd : PySem.W.codeIn K (.ref cda) qual = true) (S : NScope N ps ["__class__"] scope) (hp : (params.posonlyargs ++ params.args).head? = some ar) (hps : ps[0]? = some ar.arg)
    (hcode : K.lookup cda = some ⟨ccl, cdd, .fields vs0, ccs⟩) (hvs : vs0[2]? = some (.str file tf)) (hfile : ((P.main.file : Str) == file) = true)
    (hcell : K.lookup cc = some ⟨cl, cld, .cell (some (.ref D)), csl⟩) (hD : PySem.W.clsIn K D = some cdD) (hks : scope.names.lookup ("super" : Str) = some .globalImplicit)
    (htop : (P.main.scope.names.lookup ("super" : Str)).isSome = false) (hsu : mg "super" = none) (hth : PySem.W.nsIn K cStatics "thirdparty.any" = some none)
    (len : ∀ vs H Q E, sp vs H Q E → vs.length = ps.length)
    (hbody : ∀ (A : Around) (outer : List Env) (s : Shared) (H : Hp) (vs : List V) (Q : VK) (E : XK), Room k (A.deeper (envF ⟨name, qual, params, (.Expr (.Call (.Attribute (.Call (.Name "super" p0) [] [] p1) "__init__" apos) (e :: es) [] cpos) pos :: rest), scope, [("__class__", cc)], cda⟩ f s.heap.objs.size)) → sp vs H Q E →
      ∃ ta t, PA (ncx CX P w K mg base N ⟨name, qual, params, (.Expr (.Call (.Attribute (.Call (.Name "super" p0) [] [] p1) "__init__" apos) (e :: es) [] cpos) pos :: rest), scope, [("__class__", cc)], cda⟩ f A outer s H E) (e :: es) ta ∧
        PSs (ncx CX P w K mg base N ⟨name, qual, params, (.Expr (.Call (.Attribute (.Call (.Name "super" p0) [] [] p1) "__init__" apos) (e :: es) [] cpos) pos :: rest), scope, [("__class__", cc)], cda⟩ f A outer s H E) rest t ∧
        tSup K D ta t { nx := fun _ H' => Q .non H', rt := Q } (startF N vs [none]) H)
    (he : ∀ env : Env, starEach (e :: es) env = (false, eval e env) :: starEach es env := by intro _; rfl) (hpl : ∀ env : Env, (backTo cpos (starEach es env)).any (·.1) = false := by intro _; rfl)
    {pl : Env → Sem Bool} (ht : ∀ env : Env, eval (.Call (.Attribute (.Call (.Name "super" p0) [] [] p1) "__init__" apos) (e :: es) [] cpos) env = (do
      let ov ← attributeBase (.Call (.Name "super" p0) [] [] p1) "__init__" env (eval (.Call (.Name "super" p0) [] [] p1) env)
      standAt apos.atName
      let (f, first) ← holding [ov] (getMethod ov "__init__" (pl env))
      callWith cpos f first (backTo cpos (starEach (e :: es) env)) []) := by intro _; rfl)
    (hs : ∀ env : Env, swapsWith (.Call (.Attribute (.Call (.Name "super" p0) [] [] p1) "__init__" apos) (e :: es) [] cpos) none pos.line env = pure false := by intro _; rfl) :
    FnOk P w K mg base CX (k + 1) f (PySem.W.ksFn name qual params (.Expr (.Call (.Attribute (.Call (.Name "super" p0) [] [] p1) "__init__" apos) (e :: es) [] cpos) pos :: rest) scope dV kV doc pm an (.ref cda) ct cc) ps sp := by
  refine ⟨len, fun A outer s H args us vs Q E hr e0 hb r hsp => ?_⟩
  have hl := len _ _ _ _ hsp
  have KX : K.In s.heap := e0.mod.kin.keeps fun b o e => (e0.bs b o e).1
  have lim : s.heap.NoLimit := e0.mod.nolimit.keeps fun b o e => (e0.bs b o e).1
  have KB : ∀ b o, K.lookup b = some o → base.get? b = some o := fun b o z => e0.mod.kin _ _ z
  refine ks_codeAny_call_defAt (fd := PySem.W.ksFn name qual params (.Expr (.Call (.Attribute (.Call (.Name "super" p0) [] [] p1) "__init__" apos) (e :: es) [] cpos) pos :: rest) scope dV kV doc pm an (.ref cda) ct cc) (binds := ps.zip us) hr.depth (KX _ _ lk) rfl lim (PySem.W.codeRec_of KX hcd) rfl hb S.nocell
    (fun ⟨n, _⟩ hy => S.par n (List.of_mem_zip hy).1) (fun h₁ hns kp => ?_) S.co S.gen S.kind
  obtain ⟨ta, t, hA, hR, a, C, h0, T, ea, hm, hsi, hsub, hta⟩ := hbody A outer s H vs Q E (hr.deeper _) hsp
  have C0 : CellsAt [(("__class__" : Str), cc)] ["__class__"] [none] s.heap H := by
    refine ⟨rfl, fun y c z => ?_, fun x y c z1 z2 => ?_, fun i y z => ?_⟩
    · have e1 : (y, c) ∈ [(("__class__" : Str), cc)] := PySem.mem_of_lookup z
      have e2 : (y, c) = (("__class__" : Str), cc) := List.mem_singleton.mp e1
      cases e2
      exact ⟨(e0.bs _ _ (KB _ _ hcell)).2, _, _, KX _ _ hcell, rfl⟩
    · have e1 : (x, c) ∈ [(("__class__" : Str), cc)] := PySem.mem_of_lookup z1
      have e2 : (y, c) ∈ [(("__class__" : Str), cc)] := PySem.mem_of_lookup z2
      have e3 : (x, c) = (("__class__" : Str), cc) := List.mem_singleton.mp e1
      have e4 : (y, c) = (("__class__" : Str), cc) := List.mem_singleton.mp e2
      cases e3
      cases e4
      rfl
    · cases i with
      | zero =>
        have : ("__class__" : Str) = y := by simpa using z
        subst this
        exact ⟨cc, by simp [List.lookup], fun v q => by simp at q⟩
      | succ i => simp at z
  have I := inv_startN (CX := CX) (tk := s.toks + (ps.zip us).length) (F := ⟨name, qual, params, (.Expr (.Call (.Attribute (.Call (.Name "super" p0) [] [] p1) "__init__" apos) (e :: es) [] cpos) pos :: rest), scope, [("__class__", cc)], cda⟩) (f := f) (E := E) S hr.hd e0 hl r C0 hns kp
  obtain ⟨m, hn, hlk⟩ := id I.loc
  obtain ⟨mb, b1, b2⟩ := id I.mod.blt
  have hN0 : N[0]? = some ar.arg := by
    have q := S.pre
    cases ps with
    | nil => simp at hps
    | cons p ps =>
      have e1 : p = ar.arg := by simpa using hps
      subst e1
      cases N with
      | nil => simp at q
      | cons n N =>
        have q' : n :: N.take (ps.length + 1) = ar.arg :: (ps ++ [("__class__" : Str)]) := by
          have : (ar.arg :: ps).length + [("__class__" : Str)].length = ps.length + 1 + 1 := rfl
          rw [this, List.take_succ_cons] at q
          exact q
        injection q' with q1 q2
        rw [q1]
        rfl
  have hka : scope.names.lookup ar.arg = some .local := S.par _ (List.mem_of_getElem? hps)
  obtain ⟨u0, ru, lku⟩ := hlk 0 ar.arg (.ref a) hN0 h0 (.inl hka)
  have hma : m ar.arg = some (.ref a) := by
    cases ru
    rcases lku with ⟨_, z⟩ | ⟨z, _⟩
    · exact z
    · have z' : scope.names.lookup ar.arg = some .cell ∨ scope.names.lookup ar.arg = some .free := z
      rw [hka] at z'
      rcases z' with z' | z' <;> cases z'
  have hkc : scope.names.lookup ("__class__" : Str) = some .free := S.frk _ (List.mem_singleton_self _)
  obtain ⟨t1, hoa⟩ := exo_at I.hok ea
  obtain ⟨oD, hD1, hD2⟩ : ∃ oD, h₁.get? D = some oD ∧ oD.data = .cls cdD := by
    unfold PySem.W.clsIn at hD
    split at hD
    · rename_i c d cd' sl ho
      cases hD
      exact ⟨_, kp _ _ (KX _ _ ho), rfl⟩
    · cases hD
  obtain ⟨nmC, qC, NC, bsC, bmC, snC, subC, abC, colC, ddC, k0, k1, k2, k3, k5, hC, hbm⟩ := id T.cls
  obtain ⟨cd, hc⟩ : ∃ cd, PySem.W.clsIn K C = some cd := ⟨_, by unfold PySem.W.clsIn; rw [hC] <;> rfl⟩
  unfold PySem.W.ks_superIn at hsi
  rw [hc] at hsi
  have J0 : PySem.W.InstAt h₁ a { cls := .ref C, dict := none, data := .fields #[.ref t1, .none, .none, .none, .bool false, .none] } C none := ⟨hoa, rfl, rfl, trivial⟩
  have X1 : K.In h₁ := KX.keeps kp
  have hi : interactive (envF ⟨name, qual, params, (.Expr (.Call (.Attribute (.Call (.Name "super" p0) [] [] p1) "__init__" apos) (e :: es) [] cpos) pos :: rest), scope, [("__class__", cc)], cda⟩ f s.heap.objs.size) = false := by
    have := S.kind
    simp [interactive, this]
  obtain ⟨hh, g, d, tk, os⟩ := s
  refine ks_wpAt_execs_cons (ks_wpAt_Expr_any (ks_wpAt_MethodCall ?_ (ht _)) hi (hs _))
  refine ks_wpAt_super_base hks hkc (by decide) rfl (X1 _ _ lk) rfl hp rfl (X1 _ _ hcode) rfl hvs hfile htop ?_
  refine PySem.W.ks_loadName_global S.kind hks (Calls.loadGlobal_builtin (I.mod.glob.keeps I.bk) hsu (b1.keeps I.bk) ((b2 _ (by decide)).trans (by decide +kernel : bootBuiltins "super" = some (.type "super"))) ⟨rfl, ?_⟩)
  refine wpAny_loadName_free S.kind hkc rfl ⟨_, X1 _ _ hcell, rfl⟩ ?_
  refine wpAny_loadName_local S.kind hka hn hma ?_
  refine ks_wpAny_isType_cls hD1 hD2 ⟨rfl, ?_⟩
  refine ks_wpAny_call_super hD1 hD2 hoa rfl (fun c e => by cases e) (PySem.W.looks_mroIn X1 hm) (fun h2 so k2 => ?_)
  have I2 := I.kept (h' := h2) (t' := tk + (ps.zip us).length) k2
  obtain ⟨t2, hoa2⟩ := exo_at I2.hok ea
  have X2 : K.In h2 := X1.keeps k2
  have J2 : PySem.W.InstAt h2 a { cls := .ref C, dict := none, data := .fields #[.ref t2, .none, .none, .none, .bool false, .none] } C none := ⟨hoa2, rfl, rfl, trivial⟩
  refine PySem.W.kxs_getMethod PySem.W.kxs_ValueError so (PySem.W.looks_opaque X2 hth) (l₀ := cd.mro) (fun A Q E s k q => wpAny_bind ((PySem.W.looks_clsIn X2 hc) A _ E s k (wpAny_pure q))) rfl X2 hsi (J2.type.andThen (PySem.W.looks_subIn X2 hsub)) (PySem.W.ks_ne X2 J2 hc) (by decide) ?_
  have k3 : ∀ b o, h2.get? b = some o → (h2.push (PySem.W.kxs_mw "ValueError.__init__" a)).get? b = some o := fun b o z => Heap.get?_push_of_some _ z
  have I3 := I2.kept (h' := h2.push (PySem.W.kxs_mw "ValueError.__init__" a)) (t' := tk + (ps.zip us).length + 1) k3
  have hu : (h2.push (PySem.W.kxs_mw "ValueError.__init__" a)).get? h2.objs.size = some (PySem.W.kxs_mw "ValueError.__init__" a) := Heap.get?_push_size _ rfl
  have I4 := I3.pins_of (pins' := [(h2.objs.size, PySem.W.kxs_mw "ValueError.__init__" a)]) fun p hp => by
    have e1 : p = (h2.objs.size, PySem.W.kxs_mw "ValueError.__init__" a) := by simpa using hp
    subst e1
    exact ⟨hu, I2.hok.fresh (Nat.le_refl _), Nat.ne_of_gt I2.lt, I2.nofs (Nat.le_refl _), fun v z => by cases z⟩
  show wpAny _ _ (callWith cpos (.ref h2.objs.size) [] (backTo cpos (starEach (e :: es) _)) []) _ _ _
  have hrun := hA.run cpos _ _ _ _ _ I4 hta
  rw [he] at hrun ⊢
  refine PySem.W.kxs_callWith (i := "ValueError.__init__") (x := a) (by show (false || (backTo cpos (starEach es _)).any (·.1)) = false; rw [hpl]; rfl) ?_
  refine Calls.evalArgs_plain (wpAny_mono hrun (fun us1 s1 hq => ?_) fun _ _ z => z)
  obtain ⟨ws, H1, I5, r5, hz5, ea5, q5⟩ := hq
  have hu5 := (I5.pin (h2.objs.size, PySem.W.kxs_mw "ValueError.__init__" a) (List.mem_append_right _ (List.mem_singleton_self _))).1
  refine ⟨hu5, ?_⟩
  refine call_mw (X := ncx CX P w K mg base N ⟨name, qual, params, (.Expr (.Call (.Attribute (.Call (.Name "super" p0) [] [] p1) "__init__" apos) (e :: es) [] cpos) pos :: rest), scope, [("__class__", cc)], cda⟩ f A outer ⟨hh, g, d, tk, os⟩ H E) T I5 ea5 hu5 (by
    have := r5.length
    rw [sizeLine_eq]
    show us1.length ≤ _
    omega) fun s6 I6 => ?_
  refine wpAt_of_wpAny ?_
  have I7 := I6.pins_of (pins' := []) fun p hp => by simp at hp
  refine wpAny_mono (hR.run [] s6 _ H1 _ I7 q5) (fun fl s' hs => ?_) fun e s' hs => hs
  have fin : ∀ {σ' : L2.St} {H' : Hp} {v : V} {u : Value}, Inv (ncx CX P w K mg base N ⟨name, qual, params, (.Expr (.Call (.Attribute (.Call (.Name "super" p0) [] [] p1) "__init__" apos) (e :: es) [] cpos) pos :: rest), scope, [("__class__", cc)], cda⟩ f A outer ⟨hh, g, d, tk, os⟩ H E) [] σ' H' s' → L2.RelV v u → Q v H' → CE outer P w H ⟨hh, g, d, tk, os⟩ Q u s' :=
    fun {σ' H' v u} J rv q => ⟨v, H', J.os, J.bare, J.base, J.hok, rv, q⟩
  cases fl with
  | ret u =>
    obtain ⟨v, σ', H', J, rv, q⟩ := hs
    exact fin J rv q
  | next =>
    obtain ⟨σ', H', J, q⟩ := hs
    exact fin (v := V.non) (u := Value.none) J rfl q
  | brk =>
    obtain ⟨_, _, _, q⟩ := hs
    exact False.elim q
  | cont =>
    obtain ⟨_, _, _, q⟩ := hs
    exact False.elim q
end SB

/-! Several except clauses with names; exceptions made; a def that tells what was raised. -/
namespace SB
open PySem PySem.Spec PyProof.Rows L2 NdefX
/-- the ends of a suite whose name (slot i) goes behind it -/
def Ends.gone (D : Ends) (i : Nat) : Ends := { nx := fun σ' H' => D.nx (σ'.set i none) H', rt := D.rt, bk := fun σ' H' => D.bk (σ'.set i none) H', ct := fun σ' H' => D.ct (σ'.set i none) H' }
/-- what the named clauses wish, one after the other -/
def wManyAs (K : PySem.W.Frag) (i : Nat) (Wout : WX) (D : Ends) : List (Value × (Addr → Value → Option Addr → TS)) → WX
  | [] => Wout
  | (c, ts) :: r => fun cls d σ H => ∃ b, PySem.W.exmOne K cls c = some b ∧ (b = true → ∀ a, H a = none → ts a cls d (Ends.gone D i) (σ.set i (some (.ref a))) H) ∧ (b = false → wManyAs K i Wout D r cls d σ H)
inductive HdsAs (X : Cx) (n : Str) : List ExceptHandler → List (Value × (Addr → Value → Option Addr → TS)) → Prop
  | nil : HdsAs X n [] []
  | cons {x : Str} {c : Value} {ts : Addr → Value → Option Addr → TS} {b₀ : Stmt} {suite : List Stmt} {np pos' : Pos} {hds : List ExceptHandler} {l : List (Value × (Addr → Value → Option Addr → TS))} (hc : Names X x c)
      (hsu : ∀ (a : Addr) (oe : Obj) (cls : Value) (d : Option Addr) (pn : List (Addr × Obj)), Zc cls d oe → (∃ vs, oe.data = .fields vs) → PSs (X.suite a ((a, oe) :: pn)) (b₀ :: suite) (ts a cls d)) (r : HdsAs X n hds l) :
      HdsAs X n (.ExceptHandler (some (.Name x np)) (some n) (b₀ :: suite) pos' :: hds) ((c, ts) :: l)
section
variable {X : Cx} {body : List Stmt} {n : Str} {i : Nat} {h₀ : ExceptHandler} {hds : List ExceptHandler} {l : List (Value × (Addr → Value → Option Addr → TS))} {pos : Pos} {tb : WX → TS} {Wout : WX}
theorem ps_try_manyAs (hs : X.stack = X.env :: X.outer) (hf : X.env.frame = some X.env.locals) (hN : X.N.Nodup) (hi : X.N[i]? = some n) (hln : X.env.kindOf n = some .local) (tk : Takes X Wout)
    (hb : ∀ (W : WX) (pn : List (Addr × Obj)) (xe : Value → Shared → Prop), Takes (X.tr pn xe) W → PassesOwn (model X.prog X.w) X.A X.env xe → PSs (X.tr pn xe) body (tb W))
    (hh : HdsAs X n (h₀ :: hds) l) : PS X (.Try body (h₀ :: hds) [] [] pos) (fun D σ H => tb (wManyAs X.K i Wout D l) D σ H) := by
  refine ⟨fun pins s σ H D I h => ?_⟩
  have okX := I.ok
  have frX : X.A.frames = some (X.env :: X.outer) := by rw [okX.frames, hs]
  have locn : Loc X.env.scope n := .inl hln
  refine wpAny_Try_except ?_
  refine wpAny_mono ((hb (wManyAs X.K i Wout D l) (X.pn ++ pins) (fun e s₁ => wpAny (model X.prog X.w) X.A (noteFrame e X.env) (fun _ s₂ => wpAny (model X.prog X.w) X.A (setFlight e none) (fun _ s₃ =>
    wpAny (model X.prog X.w) X.A (handleBy e X.env (h₀ :: hds)) (SP X pins D) X.xe s₃) X.xe s₂) X.xe s₁) (fun u s' xx => ?_) PassesOwn.looking).run [] s σ H D (I.toTry _) h) (fun f s1 hsp => ?_) (fun e s1 he => he)
  · obtain ⟨a, B, sI, pins', σ', H', cls, d, rfl, JT, nb, up, sky, na, os, ag, wsh⟩ := xx
    have J : Inv X pins σ' H' sI := JT.ofTry okX
    have skyX : Sky B (X.env :: X.outer) a (Zc cls d) X.env.locals s'.heap := by rw [← hs]; exact sky
    show wpAny (model X.prog X.w) X.A (noteFrame (.ref a) X.env) _ _ _
    refine Sky.land Zc.steady frX hf skyX fun h3 fl3 up3 => ?_
    have J3 : Inv X pins σ' H' { s' with heap := h3 } := J.landed nb fl3.1 (up.trans up3) os ag
    obtain ⟨oe3, vs3, at3, z3, dt3⟩ := fl3.there
    have nfr : a ∉ frs (X.env :: X.outer) := fun hm => by
      obtain ⟨_, o', e', hnf⟩ := fl3.2.2.1.mem hm
      rw [at3] at e'
      cases e'
      exact hnf _ dt3
    have nL : a ≠ X.env.locals := fun z => nfr (List.mem_filterMap.mpr ⟨X.env, List.mem_cons_self, by rw [hf, z]⟩)
    have nF : a ∉ X.fs := fun hm => by
      obtain ⟨e, he, q⟩ := List.mem_filterMap.mp hm
      exact nfr (List.mem_filterMap.mpr ⟨e, List.mem_cons_of_mem _ he, q⟩)
    have S3 := J3.suite at3 dt3 na nL nF
    have go : ∀ {hd2 : List ExceptHandler} {l2 : List (Value × (Addr → Value → Option Addr → TS))}, HdsAs X n hd2 l2 → wManyAs X.K i Wout D l2 cls d σ' H' →
        wpAny (model X.prog X.w) X.A (handleBy (.ref a) X.env hd2) (SP X pins D) X.xe { s' with heap := h3 } := by
      intro hd2 l2 hk
      induction hk with
      | nil =>
        intro w
        refine wpAny_handleBy_nil ?_
        obtain ⟨_, _, _, oe, vs, T, oT, ts', he, hz, hd, h1, _⟩ := id fl3
        unfold PySem.passOn
        refine wpAny_bind (wpAny_field he hd h1 ?_)
        rw [if_neg (show ¬ ((Value.ref T == Value.none) = true) from by simp)]
        have fin : wpAny (model X.prog X.w) X.A (setFlight (.ref a) X.env.frame) (fun _ s4 => wpAny (model X.prog X.w) X.A (throw (.ref a) : Sem Flow) (SP X pins D) X.xe s4) X.xe { s' with heap := h3 } := by
          rw [hf]
          refine HandSPX.setFlight_upZ fl3 fun h4 hh4 up4 => wpAny_throw (tk _ _ ?_)
          exact ⟨a, B, sI, pins, σ', H', cls, d, rfl, J, nb, (up.trans up3).trans up4, .inr (.inr (by rw [hs]; exact hh4)), na, os, ag, w⟩
        first
          | exact wpAny_bind (wpAny_pure (wpAny_bind fin))
          | exact wpAny_bind fin
      | @cons x c ts b₀ suite np pos' hds2 l3 hc hsu r ih =>
        intro w
        obtain ⟨b, hb1, yes, no⟩ := w
        refine wpAny_handleBy_cons (codeAny_handlers_test ?_) (by intro q; cases q)
        have lt : PySem.W.Looks (model X.prog X.w) h3 (typeOf (.ref a)) cls := fun A Q E s k q => wpAny_typeOf_ref (k _ _ at3) (by rw [z3.1]; exact q)
        have lm := PySem.W.exm_one (M := model X.prog X.w) (J3.kIn) lt hb1
        have tst : ∀ {Q : Value → Shared → Prop} {E : Value → Shared → Prop}, Q c { s' with heap := h3 } → wpAny (model X.prog X.w) (X.A.mark (some (.ref a))) (eval (.Name x np) X.env) Q E { s' with heap := h3 } := fun {Q E} q => by
          obtain ⟨hg, hdbg, hm | ⟨hm, hv, hnn⟩⟩ := hc
          · exact ld_glob (X := X.suite a ((a, oe3) :: (X.pn ++ pins))) S3 hg hm q hdbg
          · exact ld_blt (X := X.suite a ((a, oe3) :: (X.pn ++ pins))) S3 hg hm hv q hnn hdbg
        refine tst (lm.here ?_)
        cases b with
        | true =>
          refine codeAny_handlers_suite_as ?_
          refine HandSPX.lands_againZ fl3 fun h4 fl4 up4 => ?_
          have J4 : Inv X pins σ' H' { s' with heap := h4 } := J.landed nb fl4.1 ((up.trans up3).trans up4) os ag
          obtain ⟨oe4, vs4, at4, z4, dt4⟩ := fl4.there
          have S4 := J4.suite at4 dt4 na nL nF
          refine store_ok (X := X.suite a ((a, oe4) :: (X.pn ++ pins))) (v := .ref a) S4 hN hi locn rfl (fun s5 S5 => ?_) (.inr hln)
          refine wpAny_mono ((hsu a oe4 cls d (X.pn ++ pins) z4 ⟨_, dt4⟩).run [] s5 _ H' _ S5 (yes rfl a na)) (fun f s6 hsp => ?_) (fun _ _ z => False.elim z)
          have fin : ∀ {σ6 : L2.St} {H6 : Hp} {Q : Shared → Prop}, Inv (X.suite a ((a, oe4) :: (X.pn ++ pins))) [] σ6 H6 s6 → (∀ s7, Inv X pins (σ6.set i none) H6 s7 → Q s7) →
              wpAny (model X.prog X.w) X.A (do bindName X.env n .none; unbindBehindTheSuite X.env n pos') (fun _ s7 => Q s7) X.xe s6 := fun {σ6 H6 Q} S6 hq => gone_ok (S6.unsuite okX) hN hi hln hq
          cases f with
          | next =>
            obtain ⟨_, _, S6, q6⟩ := hsp
            exact fin S6 fun s7 J7 => ⟨_, _, J7, q6⟩
          | brk =>
            obtain ⟨_, _, S6, q6⟩ := hsp
            exact fin S6 fun s7 J7 => ⟨_, _, J7, q6⟩
          | cont =>
            obtain ⟨_, _, S6, q6⟩ := hsp
            exact fin S6 fun s7 J7 => ⟨_, _, J7, q6⟩
          | ret u =>
            obtain ⟨_, _, _, S6, r6, q6⟩ := hsp
            exact fin S6 fun s7 J7 => ⟨_, _, _, J7, r6, q6⟩
        | false =>
          show wpAny _ X.A (handleBy (.ref a) X.env hds2) _ _ _
          exact ih (no rfl)
    exact go hh wsh
  · cases f with
    | next =>
      obtain ⟨_, _, JT, q⟩ := hsp
      exact wpAny_execs_nil ⟨_, _, JT.ofTry okX, q⟩
    | brk =>
      obtain ⟨_, _, JT, q⟩ := hsp
      exact ⟨_, _, JT.ofTry okX, q⟩
    | cont =>
      obtain ⟨_, _, JT, q⟩ := hsp
      exact ⟨_, _, JT.ofTry okX, q⟩
    | ret u =>
      obtain ⟨_, _, _, JT, r, q⟩ := hsp
      exact ⟨_, _, _, JT.ofTry okX, r, q⟩
end

/-! ### exceptions with fields, made -/
/-- an exception's __init__ that lays its arguments as the fields ns -/
def spExc (C : Addr) (ns : List Str) : Sp := fun vs H Q _ => ∃ (a : Addr) (ws : List V), vs = .ref a :: ws ∧ ws.length = ns.length ∧ H a = some (exo a C none) ∧
  ∀ (d : Addr) (H2 : Hp), H d = none → d ≠ a → H2 a = some (exo a C (some d)) → H2 d = some (exd d (ns.zip ws).reverse) → (∀ b, b ≠ a → b ≠ d → H2 b = H b) → Q .non H2
/-- the module's name x holds the exception class at C -/
structure Xc (P : Program) (w : World) (K : PySem.W.Frag) (mg : Str → Option Value) (base : Heap) (k : Nat) (x : Str) (C : Addr) (ns : List Str) : Prop where
  ex : ∃ (fI : Addr) (fd : FuncData) (ps : List Str), OexC K C ∧ PySem.W.findIn K (.ref C) "__init__" = some (some (.ref fI)) ∧ PySem.W.typeIn K (.ref fI) = some (.type "function") ∧ FnOk P w K mg base CX0 k fI fd ps (spExc C ns) ∧ Binds K fd ps [] ∧ mg x = some (.ref C)
/-- the reading of x(e, ..) in a raise -/
def tX (C : Addr) (ns : List Str) (ta : TA) : L2.St → Hp → XK → Prop := fun σ H Q => ta σ H fun vs H1 => vs.length = ns.length ∧ vs.length ≤ 1000 ∧ ∀ d, H1 d = none → Q (.ref C) (some d) (upd H1 d (.xd (ns.zip vs).reverse))
theorem pmk_x {X : Cx} {x : Str} {C : Addr} {ns : List Str} {k j : Nat} {e : Expr} {es : List Expr} {ta : TA} {p pos : Pos} (c : Xc X.prog X.w X.K X.mg X.base k x C ns) (hr : Room j X.A) (hk : k + 1 ≤ j) (hg : Gl X x) (ha : PA X (e :: es) ta)
    (hdb : (x == ("__debug__" : Str)) = false := by decide) (he : starEach (e :: es) X.env = (false, eval e X.env) :: starEach es X.env := by rfl) (hpl : (backTo pos (starEach es X.env)).any (·.1) = false := by rfl) :
    PMk X (.Call (.Name x p) (e :: es) [] pos) (tX C ns ta) := by
  obtain ⟨fI, fd, ps, T, iC, tI, F1, hb, hm⟩ := c.ex
  intro pins s σ H Q I h
  have im : PA X (e :: es) (fun σ H Q => ∃ R : List V → Hp → Prop, ta σ H R ∧ ∀ vs H1, R vs H1 → Q vs H1) := ⟨fun pos pins s σ H Q I ⟨R, h1, h2⟩ => wpAny_mono (ha.run pos pins s σ H R I h1) (fun us s1 ⟨vs, H1, I1, r, q⟩ => ⟨vs, H1, I1, r, h2 _ _ q⟩) fun _ _ z => z⟩
  refine pmk_oex (CX := CX0) (dvs := []) T iC tI F1 (hr.mono hk) hb .nil (fun _ _ _ _ _ _ _ z => z.elim) hg hm im hdb he hpl pins s σ H Q I ⟨_, h, fun vs H1 hq => ?_⟩
  obtain ⟨hl, hz, q⟩ := hq
  refine ⟨hz, fun a na => ⟨a, vs, by rw [List.append_nil], hl, upd_same, fun d H2 nd nda ea ed same => ⟨rfl, d, _, ea, ed, ?_, ?_⟩⟩⟩
  · rw [upd_ne nda] at nd
    exact nd
  · have nd' : H1 d = none := by
      rw [upd_ne nda] at nd
      exact nd
    have e1 : upd (del H2 a) d (.xd (ns.zip vs).reverse) = upd H1 d (.xd (ns.zip vs).reverse) := by
      funext b
      by_cases hbd : b = d
      · rw [hbd, upd_same, upd_same]
      · rw [upd_ne hbd, upd_ne hbd]
        by_cases hba : b = a
        · rw [hba, del_same, na]
        · rw [del_ne hba, same b hba hbd, upd_ne hba]
    rw [e1]
    exact q d nd'
/-- what the top says of an exception's class at C with its __init__ at fI -/
structure XcF (P : Program) (K : PySem.W.Frag) (mg : Str → Option Value) (x : Str) (C fI : Addr) : Prop where
  oex : OexC K C
  ini : PySem.W.findIn K (.ref C) "__init__" = some (some (.ref fI))
  tyI : PySem.W.typeIn K (.ref fI) = some (.type "function")
  cls : ∃ cd, PySem.W.clsIn K C = some cd
  mro : PySem.W.mroIn K C (.ref C) = some true
  sup : PySem.W.ks_superIn K C C "__init__" = some (some (.builtin "ValueError.__init__"))
  sub : PySem.W.subIn K (.ref C) (.type "ValueError") = some true
  thi : PySem.W.nsIn K cStatics "thirdparty.any" = some none
  top : (P.main.scope.names.lookup ("super" : Str)).isSome = false
  nsu : mg "super" = none
  nam : mg x = some (.ref C)
/-- its code object's file -/
def FileIs (P : Program) (K : PySem.W.Frag) (cda : Addr) : Prop := ∃ ccl cdd vs0 ccs file tf, K.lookup cda = some ⟨ccl, cdd, .fields vs0, ccs⟩ ∧ vs0[2]? = some (.str file tf) ∧ ((P.main.file : Str) == file) = true
def CellIs (K : PySem.W.Frag) (cc C : Addr) : Prop := ∃ cl cld csl, K.lookup cc = some ⟨cl, cld, .cell (some (.ref C)), csl⟩
section
variable {P : Program} {w : World} {K : PySem.W.Frag} {mg : Str → Option Value} {base : Heap} {x : Str} {C f cc cda : Addr} {qual : Str} {params : Arguments} {p0 p1 apos cpos pos q1 q2 q3 q4 q5 q6 q7 q8 ps1 : Pos} {msg : Str} {j : Nat} {scope : Scope} {dV kV doc pm ct oc : Value} {an od : Option Addr} {osl : Array (Option Value)} {ar : Arg} {v v2 f1 f2 : Str}
/-- one field -/
theorem ok_x1 (T : XcF P K mg x C f)
    (lk : K.lookup f = some ⟨oc, od, .func (PySem.W.ksFn "__init__" qual params [.Expr (.Call (.Attribute (.Call (.Name "super" p0) [] [] p1) "__init__" apos) [.Constant (.str msg) j ps1] [] cpos) pos, .Assign [.Attribute (.Name "self" q1) f1 q2] (.Name v q3) q4] scope dV kV doc pm an (.ref cda) ct cc), osl⟩)
    (hcd : PySem.W.codeIn K (.ref cda) qual = true) (S : NScope ["self", v, "__class__"] ["self", v] ["__class__"] scope) (hp : (params.posonlyargs ++ params.args).head? = some ar) (har : ar.arg = "self") (hF : FileIs P K cda) (hc : CellIs K cc C)
    (hks : scope.names.lookup ("super" : Str) = some .globalImplicit) (hno : PySem.W.findIn K (.ref C) f1 = some none) (hv1 : (v == ("__debug__" : Str)) = false) (hv2 : (v == ("__classdict__" : Str)) = false) (hb : Binds K (PySem.W.ksFn "__init__" qual params [.Expr (.Call (.Attribute (.Call (.Name "super" p0) [] [] p1) "__init__" apos) [.Constant (.str msg) j ps1] [] cpos) pos, .Assign [.Attribute (.Name "self" q1) f1 q2] (.Name v q3) q4] scope dV kV doc pm an (.ref cda) ct cc) ["self", v] [])
    {pl : Env → Sem Bool} (ht : ∀ env : Env, eval (.Call (.Attribute (.Call (.Name "super" p0) [] [] p1) "__init__" apos) [.Constant (.str msg) j ps1] [] cpos) env = (do
      let ov ← attributeBase (.Call (.Name "super" p0) [] [] p1) "__init__" env (eval (.Call (.Name "super" p0) [] [] p1) env)
      standAt apos.atName
      let (f, first) ← holding [ov] (getMethod ov "__init__" (pl env))
      callWith cpos f first (backTo cpos (starEach [.Constant (.str msg) j ps1] env)) []) := by intro _; rfl) : Xc P w K mg base 1 x C [f1] := by
  obtain ⟨ccl, cdd, vs0, ccs, file, tf, h1, h2, h3⟩ := hF
  obtain ⟨cl, cld, csl, h4⟩ := hc
  obtain ⟨cd, h5⟩ := T.cls
  refine ⟨f, _, ["self", v], T.oex, T.ini, T.tyI, ?_, hb, T.nam⟩
  refine fn_sup (CX := CX0) (k := 0) (N := ["self", v, "__class__"]) lk hcd S hp (by rw [har]; rfl) h1 h2 h3 h4 h5 hks T.top T.nsu T.thi (fun vs H Q E h => ?_) (fun A outer s H vs Q E hr h => ?_) (fun _ => rfl) (fun _ => rfl) ht
  · obtain ⟨a, ws, rfl, hl, _⟩ := h
    show ws.length + 1 = 2
    rw [hl] <;> rfl
  · obtain ⟨a, ws, rfl, hl, ea, k⟩ := h
    match ws, hl with
    | [y], _ =>
      refine ⟨_, _, pa_cons pe_str pa_nil, pss_one (ps_ost (pe_var (i := 0) rfl (.inl (S.par _ (by simp)))) (pe_var (i := 1) rfl (.inl (S.par _ (by simp))) hv1 hv2)), ?_⟩
      refine ⟨a, C, rfl, T.oex, ea, T.mro, T.sup, T.sub, ?_⟩
      refine ⟨by show 1 ≤ 1000; decide, ea, ?_⟩
      refine ⟨y, rfl, .ref a, rfl, a, C, rfl, T.oex, hno, .inl ⟨ea, fun dx nd ne => ?_⟩⟩
      exact k dx _ nd ne upd_same (by rw [upd_ne ne, upd_same]; rfl) fun b h1 h2 => by rw [upd_ne h1, upd_ne h2]
/-- two fields -/
theorem ok_x2 (T : XcF P K mg x C f)
    (lk : K.lookup f = some ⟨oc, od, .func (PySem.W.ksFn "__init__" qual params [.Expr (.Call (.Attribute (.Call (.Name "super" p0) [] [] p1) "__init__" apos) [.Constant (.str msg) j ps1] [] cpos) pos, .Assign [.Attribute (.Name "self" q1) f1 q2] (.Name v q3) q4, .Assign [.Attribute (.Name "self" q5) f2 q6] (.Name v2 q7) q8] scope dV kV doc pm an (.ref cda) ct cc), osl⟩)
    (hcd : PySem.W.codeIn K (.ref cda) qual = true) (S : NScope ["self", v, v2, "__class__"] ["self", v, v2] ["__class__"] scope) (hp : (params.posonlyargs ++ params.args).head? = some ar) (har : ar.arg = "self") (hF : FileIs P K cda) (hc : CellIs K cc C)
    (hks : scope.names.lookup ("super" : Str) = some .globalImplicit) (hno : PySem.W.findIn K (.ref C) f1 = some none) (hno2 : PySem.W.findIn K (.ref C) f2 = some none) (hv1 : (v == ("__debug__" : Str)) = false) (hv2 : (v == ("__classdict__" : Str)) = false) (hw1 : (v2 == ("__debug__" : Str)) = false) (hw2 : (v2 == ("__classdict__" : Str)) = false)
    (hb : Binds K (PySem.W.ksFn "__init__" qual params [.Expr (.Call (.Attribute (.Call (.Name "super" p0) [] [] p1) "__init__" apos) [.Constant (.str msg) j ps1] [] cpos) pos, .Assign [.Attribute (.Name "self" q1) f1 q2] (.Name v q3) q4, .Assign [.Attribute (.Name "self" q5) f2 q6] (.Name v2 q7) q8] scope dV kV doc pm an (.ref cda) ct cc) ["self", v, v2] [])
    {pl : Env → Sem Bool} (ht : ∀ env : Env, eval (.Call (.Attribute (.Call (.Name "super" p0) [] [] p1) "__init__" apos) [.Constant (.str msg) j ps1] [] cpos) env = (do
      let ov ← attributeBase (.Call (.Name "super" p0) [] [] p1) "__init__" env (eval (.Call (.Name "super" p0) [] [] p1) env)
      standAt apos.atName
      let (f, first) ← holding [ov] (getMethod ov "__init__" (pl env))
      callWith cpos f first (backTo cpos (starEach [.Constant (.str msg) j ps1] env)) []) := by intro _; rfl) : Xc P w K mg base 1 x C [f1, f2] := by
  obtain ⟨ccl, cdd, vs0, ccs, file, tf, h1, h2, h3⟩ := hF
  obtain ⟨cl, cld, csl, h4⟩ := hc
  obtain ⟨cd, h5⟩ := T.cls
  refine ⟨f, _, ["self", v, v2], T.oex, T.ini, T.tyI, ?_, hb, T.nam⟩
  refine fn_sup (CX := CX0) (k := 0) (N := ["self", v, v2, "__class__"]) lk hcd S hp (by rw [har]; rfl) h1 h2 h3 h4 h5 hks T.top T.nsu T.thi (fun vs H Q E h => ?_) (fun A outer s H vs Q E hr h => ?_) (fun _ => rfl) (fun _ => rfl) ht
  · obtain ⟨a, ws, rfl, hl, _⟩ := h
    show ws.length + 1 = 3
    rw [hl] <;> rfl
  · obtain ⟨a, ws, rfl, hl, ea, k⟩ := h
    match ws, hl with
    | [y, z], _ =>
      refine ⟨_, _, pa_cons pe_str pa_nil, pss_cons (ps_ost (pe_var (i := 0) rfl (.inl (S.par _ (by simp)))) (pe_var (i := 1) rfl (.inl (S.par _ (by simp))) hv1 hv2)) (pss_one (ps_ost (pe_var (i := 0) rfl (.inl (S.par _ (by simp)))) (pe_var (i := 2) rfl (.inl (S.par _ (by simp))) hw1 hw2))), ?_⟩
      refine ⟨a, C, rfl, T.oex, ea, T.mro, T.sup, T.sub, ?_⟩
      refine ⟨by show 1 ≤ 1000; decide, ea, ?_⟩
      refine ⟨y, rfl, .ref a, rfl, a, C, rfl, T.oex, hno, .inl ⟨ea, fun dx nd ne => ?_⟩⟩
      refine ⟨z, rfl, .ref a, rfl, a, C, rfl, T.oex, hno2, .inr ⟨dx, _, upd_same, by rw [upd_ne ne, upd_same], by show 1 ≤ 900; decide, ?_⟩⟩
      exact k dx _ nd ne (by rw [upd_ne (Ne.symm ne), upd_same]) (by rw [upd_same]; rfl) fun b h1 h2 => by rw [upd_ne h2, upd_ne h1, upd_ne h2]
end
end SB

/-! A def that tells what the handed lambda raises: («name», fields ..) or None. -/
namespace SB
open PySem PySem.Spec PyProof.Rows L2 NdefX LamX
/-- a clause: the class, the told name, the told fields -/
abbrev Rc := Addr × Str × List Str
/-- what is told of an exception with the dict at d -/
def ToldX (d : Option Addr) (H : Hp) (nm : Str) (fs : List Str) (Q : VK) : Prop := ∃ (dd : Addr) (kvs : List (Str × V)) (vs : List V), d = some dd ∧ H dd = some (.xd kvs) ∧ fs.map (fun f => kvs.lookup f) = vs.map some ∧ vs.length ≤ 10 ∧ ∀ p, H p = none → Q (.ref p) (upd H p (.tup (.str nm :: vs)))
def RfW (L : List Rc) (Q : VK) : XK := fun cls d H => ∃ (C : Addr) (nm : Str) (fs : List Str), (C, nm, fs) ∈ L ∧ cls = .ref C ∧ ToldX d H nm fs Q
def TTref (L : List Rc) : (XK → Hp → VK → Prop) → Hp → VK → Prop := fun tl H Q => tl (RfW L Q) H fun _ H' => Q .non H'
def taF (a : Addr) (cls : Value) (d : Option Addr) (C : Addr) : List Str → TA
  | [] => tNil
  | f :: r => tCons (tXf a cls d C f (tVar 1)) (taF a cls d C r)
def tsR (r : Rc) (a : Addr) (cls : Value) (d : Option Addr) : TS := tRet (tTup (tCons (tC (.str r.2.1)) (taF a cls d r.1 r.2.2)))
theorem taF_ok {a C dd : Addr} {d : Option Addr} {kvs : List (Str × V)} {H : Hp} {σ : L2.St} (hd : d = some dd) (hH : H dd = some (.xd kvs)) (hσ : σ[1]? = some (some (.ref a))) : ∀ {fs : List Str} {vs : List V} {Q : List V → Hp → Prop}, fs.map (fun f => kvs.lookup f) = vs.map some → Q vs H → taF a (.ref C) d C fs σ H Q
  | [], [], _, _, q => q
  | [], _ :: _, _, h, _ => by simp at h
  | _ :: _, [], _, h, _ => by simp at h
  | f :: fs, v :: vs, Q, h, q => by
    have h' : kvs.lookup f = some v ∧ fs.map (fun f => kvs.lookup f) = vs.map some := by
      rw [List.map_cons, List.map_cons] at h
      injection h with h1 h2
      exact ⟨h1, h2⟩
    exact ⟨.ref a, hσ, rfl, rfl, dd, kvs, v, hd, hH, h'.1, taF_ok hd hH hσ h'.2 q⟩
/-- the clauses tell each other apart -/
def exAll (K : PySem.W.Frag) (Cs : List Addr) : Bool := Cs.all fun c => Cs.all fun c' => decide (PySem.W.exmOne K (.ref c) (.ref c') = some (decide (c = c')))
theorem exAll_at {K : PySem.W.Frag} {Cs : List Addr} (h : exAll K Cs = true) {c c' : Addr} (h1 : c ∈ Cs) (h2 : c' ∈ Cs) : PySem.W.exmOne K (.ref c) (.ref c') = some (decide (c = c')) :=
  of_decide_eq_true (List.all_eq_true.mp (List.all_eq_true.mp h c h1) c' h2)
theorem many_of {K : PySem.W.Frag} {Wout : WX} {D : Ends} {Q : VK} {C : Addr} {nm : Str} {fs : List Str} {d : Option Addr} {σ : L2.St} {H : Hp} (hσ : 1 < σ.length) (ht : ToldX d H nm fs Q) (hD : D.rt = Q) :
    ∀ (L : List Rc), (∀ r ∈ L, PySem.W.exmOne K (.ref C) (.ref r.1) = some (decide (C = r.1))) → (L.map (·.1)).Nodup → (C, nm, fs) ∈ L → wManyAs K 1 Wout D (L.map fun r => (Value.ref r.1, tsR r)) (.ref C) d σ H
  | [], _, _, hm => nomatch hm
  | r :: L, he, hn, hm => by
    refine ⟨decide (C = r.1), he r List.mem_cons_self, fun hb a na => ?_, fun hb => ?_⟩
    · have e : C = r.1 := of_decide_eq_true hb
      have er : r = (C, nm, fs) := by
        rcases List.mem_cons.mp hm with z | z
        · exact z.symm
        · have : C ∈ L.map (·.1) := List.mem_map.mpr ⟨_, z, rfl⟩
          rw [List.map_cons] at hn
          exact absurd (e ▸ this) (List.nodup_cons.mp hn).1
      subst er
      obtain ⟨dd, kvs, vs, h1, h2, h3, hl, h4⟩ := ht
      show tTup (tCons (tC (.str nm)) (taF a (.ref C) d C fs)) (σ.set 1 (some (.ref a))) H D.rt
      rw [hD]
      refine taF_ok h1 h2 (by rw [List.getElem?_set_self hσ]) h3 ⟨?_, h4⟩
      show vs.length + 1 ≤ sizeLine
      exact Nat.le_trans (show vs.length + 1 ≤ 11 by omega) (by decide)
    · have e : ¬ C = r.1 := of_decide_eq_false hb
      have hm' : (C, nm, fs) ∈ L := by
        rcases List.mem_cons.mp hm with z | z
        · exact absurd (by rw [← z]) e
        · exact z
      exact many_of hσ ht hD L (fun r hr => he r (List.mem_cons_of_mem _ hr)) (List.nodup_cons.mp (by rw [← List.map_cons]; exact hn)).2 hm'
theorem takes_len {X : Cx} {W : WX} (tk : Takes X W) : Takes X (fun cls d σ H => σ.length = X.N.length → W cls d σ H) := fun u s' ⟨a, B, sI, pins, σ, H, cls, d, e, I, nb, up, sky, na, os, ag, w⟩ => tk u s' ⟨a, B, sI, pins, σ, H, cls, d, e, I, nb, up, sky, na, os, ag, w I.len⟩
/-- the clause of one field, of two fields -/
theorem hd1 {X : Cx} {K : PySem.W.Frag} {x nm f1 n : Str} {C : Addr} {np pos' p1 p2 p3 p4 p5 : Pos} {j j2 : Nat} {hds : List ExceptHandler} {l : List (Value × (Addr → Value → Option Addr → TS))} (hK : X.K = K) (hN : X.N[1]? = some n) (hv : Vis X.env.scope n) (hc : Names X x (.ref C)) (T : XfC K C) (hno : PySem.W.findIn K (.ref C) f1 = some none)
    (hd : (n == ("__debug__" : Str)) = false) (hcd : (n == ("__classdict__" : Str)) = false) (r : HdsAs X n hds l) :
    HdsAs X n (.ExceptHandler (some (.Name x np)) (some n) [.Return (some (.Tuple [.Constant (.str nm) j p1, .Attribute (.Name n p2) f1 p3] j2 p4)) p5] pos' :: hds) ((.ref C, tsR (C, nm, [f1])) :: l) := by
  subst hK
  refine .cons hc (fun a oe cls d pn hz hf => ?_) r
  exact pss_one (ps_ret (pe_tup (pa_cons pe_str (pa_cons (pe_xf T hno hz hf (pe_var (i := 1) hN hv hd hcd)) pa_nil))))
theorem hd2 {X : Cx} {K : PySem.W.Frag} {x nm f1 f2 n : Str} {C : Addr} {np pos' p1 p2 p3 p4 p5 p6 p7 : Pos} {j j2 : Nat} {hds : List ExceptHandler} {l : List (Value × (Addr → Value → Option Addr → TS))} (hK : X.K = K) (hN : X.N[1]? = some n) (hv : Vis X.env.scope n) (hc : Names X x (.ref C)) (T : XfC K C) (hno : PySem.W.findIn K (.ref C) f1 = some none) (hno2 : PySem.W.findIn K (.ref C) f2 = some none)
    (hd : (n == ("__debug__" : Str)) = false) (hcd : (n == ("__classdict__" : Str)) = false) (r : HdsAs X n hds l) :
    HdsAs X n (.ExceptHandler (some (.Name x np)) (some n) [.Return (some (.Tuple [.Constant (.str nm) j p1, .Attribute (.Name n p2) f1 p3, .Attribute (.Name n p6) f2 p7] j2 p4)) p5] pos' :: hds) ((.ref C, tsR (C, nm, [f1, f2])) :: l) := by
  subst hK
  refine .cons hc (fun a oe cls d pn hz hf => ?_) r
  exact pss_one (ps_ret (pe_tup (pa_cons pe_str (pa_cons (pe_xf T hno hz hf (pe_var (i := 1) hN hv hd hcd)) (pa_cons (pe_xf T hno2 hz hf (pe_var (i := 1) hN hv hd hcd)) pa_nil)))))
/-- try: a() / except .. as e: return (..) / return None -/
theorem ref_gives {X : Cx} {Ng : List Str} {x a n q : Str} {sg : Scope} {g : Addr} {cdg : Value} {p1 p2 p3 p4 p5 p6 : Pos} {j : Nat} {h₀ : ExceptHandler} {hds : List ExceptHandler} {L : List Rc} (hNg : Ng = [a, n]) (hnd : Ng.Nodup) (hln : sg.names.lookup n = some .local)
    (hex : exAll X.K (L.map (·.1)) = true) (hL : (L.map (·.1)).Nodup)
    (hh : ∀ (s : Shared) (H : Hp), HdsAs (cxOf C8.CX0 X.prog X.w X.K X.mg X.base Ng x sg g cdg X.A X.stack s H C8.E0).nox n (h₀ :: hds) (L.map fun r => (Value.ref r.1, tsR r)))
    (hs : ∀ env : Env, swapsWith (.Call (.Name a p1) [] [] p2) none p3.line env = pure false) :
    GivesTo X Ng x sg g cdg [.Try [.Expr (.Call (.Name a p1) [] [] p2) p3] (h₀ :: hds) [] [] p4, .Return (some (.Constant .none j p5)) p6] a q (TTref L) := by
  subst hNg
  intro f c' s H Q tl act hc h
  refine ⟨_, pss_cons (ps_try_manyAs (X := (cxOf C8.CX0 X.prog X.w X.K X.mg X.base [a, n] x sg g cdg X.A X.stack s H C8.E0).nox) (i := 1) (l := L.map fun r => (Value.ref r.1, tsR r))
      (tb := fun W D σ H => ∃ Ech : XK, (∀ cls d σ' H', Ech cls d H' → σ'.length = 2 → W cls d σ' H') ∧ σ[0]? = some (some (.ref f)) ∧ H c' = some (CodeO c' q) ∧ tl Ech H fun _ H' => D.nx σ H')
      rfl rfl hnd rfl hln takes0 (fun W pn xe tk _ => ?_) (hh s H)) (pss_one (ps_ret pe_non)), ?_⟩
  · refine ⟨fun pins s' σ H' D I h' => ?_⟩
    obtain ⟨Ech, hW, h1, h2, h3⟩ := h'
    have hp := act (fun cls d σ H => σ.length = 2 → W cls d σ H) pn xe Ech p1 p2 (takes_len tk) hW
    have hq := pss_one (ps_expr (pos := p3) hp (hs _))
    exact hq.run pins s' σ H' D I ⟨h1, h2, h3⟩
  · refine ⟨RfW L Q, fun cls d σ' H' hw hl => ?_, rfl, hc, h⟩
    obtain ⟨C, nm, fs, hm, rfl, ht⟩ := hw
    refine many_of (Q := Q) (by omega) ht rfl L (fun r hr => exAll_at hex (List.mem_map.mpr ⟨_, hm, rfl⟩) (List.mem_map.mpr ⟨_, hr, rfl⟩)) hL hm
/-- the module's name x holds a def that calls what it gets and tells what that raises -/
structure Rf (P : Program) (w : World) (K : PySem.W.Frag) (mg : Str → Option Value) (base : Heap) (x : Str) (L : List Rc) : Prop where
  ex : ∃ (g : Addr) (oc : Value) (od : Option Addr) (osl : Array (Option Value)) (pg : Arguments) (bg : List Stmt) (sg : Scope) (dV kV doc pm cdv ct : Value) (an : Option Addr) (a : Str) (Ng : List Str),
    mg x = some (.ref g) ∧ PySem.W.keepIn K (.ref g) = true ∧ K.lookup g = some ⟨oc, od, .func (PySem.W.fnOf x x pg bg sg dV kV doc pm an cdv ct), osl⟩ ∧ PySem.W.codeIn K cdv x = true ∧ L2.Binds K (PySem.W.fnOf x x pg bg sg dV kV doc pm an cdv ct) [a] [] ∧
    FnScope Ng [a] sg ∧ Ng[0]? = some a ∧ Vis sg a ∧ (a == ("__debug__" : Str)) = false ∧ (a == ("__classdict__" : Str)) = false ∧
    ∀ (X : Cx) (q : Str), X.prog = P → X.w = w → X.K = K → X.mg = mg → X.base = base → GivesTo X Ng x sg g cdv bg a q (TTref L)
theorem pe_rf {X : Cx} {T : List (Addr × Str)} {x : Str} {c P : Addr} {k j : Nat} {L : List Rc} {params : Arguments} {body : Expr} {scope : Scope} {t : XK → TE} {p lpos pos : Pos} (R : Rf X.prog X.w X.K X.mg X.base x L) (hg : Gl X x)
    (TB : TabB X.base X.mg c P) (hcode : X.env.code = .ref c) (hmT : (P, X.env.qual ++ "<lambda>") ∈ T) (hu : ∀ p ∈ T, p.1 = P → p.2 = X.env.qual ++ "<lambda>") (hr : Room j X.A) (hk : k + 2 ≤ j) (Ls : LamS X.env.scope scope) (hdef : defaultsOf params X.env = ([], []))
    (hbind : ∀ (q : Str) (cl : List (Str × Addr)) (pm cv ctv : Value), bindArgs (PySem.W.kla_fn "<lambda>" q params body scope cl pm cv ctv) ⟨[], []⟩ = pure [])
    (hbody : ∀ (A : Around) (outer : List Env) (s : Shared) (H : Hp) (E : XK) (f c' : Addr), Room k (A.deeper (lamEnv X scope s.heap.objs.size f c')) → PE (lamCx X A outer s H E scope f c') body (t E))
    (hdb : (x == ("__debug__" : Str)) = false := by decide) : PE X (.Call (.Name x p) [.Lambda params body scope lpos] [] pos) (tLam T (TTref L) t) := by
  obtain ⟨g, oc, od, osl, pg, bg, sg, dV, kV, doc, pm, cdv, ct, an, a, Ng, hm, hkp, lk, hcg, hb, Sg, hNg, hva, h1, h2, hG⟩ := R.ex
  exact pe_lamcall hg hm hkp lk hcg hb Sg hNg hva (hG X _ rfl rfl rfl rfl rfl) TB hcode hmT hu (hr.mono hk) Ls hdef hbind hbody hdb h1 h2
/-! ### defs that may raise; defs that make lambdas -/
theorem passF {X : Cx} : Passes (L2.CX X.prog X.w) X (fun _ _ _ => False) := fun _ _ _ _ _ _ _ ⟨_, _, _, _, _, _, _, _, _, _, _, _, z⟩ => z.elim
theorem passL {X : Cx} {E : XK} {E₁ : Value → Shared → Prop} (hs : X.stack = X.env :: X.outer) (hf : X.env.frame = some X.env.locals) (hex : X.ex = [])
    (hx : X.xe = fun e s' => wpAny (model X.prog X.w) X.A (leaving X.env e) (fun _ s'' => L2.CX X.prog X.w X.outer X.H_0 X.s_0 E e s'') E₁ s') : Passes (L2.CX X.prog X.w) X E := passes_call (takes_of hs hf hex hx) fun _ _ _ _ h => h
section
variable {P : Program} {w : World} {K : PySem.W.Frag} {mg : Str → Option Value} {base : Heap} {x qual : Str} {st : Stmt} {f c : Addr} {fd : FuncData} {N ps : List Str} {k : Nat} {sp : Sp}
/-- a def that may let exceptions out -/
theorem okX {CX : CXT} (F : Fun K x qual st f fd) (S : FnScope N ps (defScope st)) (len : ∀ vs H Q E, sp vs H Q E → vs.length = ps.length)
    (hbody : ∀ (cdv : Value) (A : Around) (outer : List Env) (s : Shared) (H : Hp) (vs : List V) (Q : VK) (E : XK), Room k (A.deeper (envOfC qual (defScope st) s.heap.objs.size f cdv)) → sp vs H Q E →
      ∃ t, PSs (cxOf CX P w K mg base N qual (defScope st) f cdv A outer s H E) (defBody st) t ∧ t { nx := fun _ H' => Q .non H', rt := Q } (start N vs) H) : FnOk P w K mg base CX (k + 1) f fd ps sp := by
  obtain ⟨oc, od, kV, doc, pm, an, cdv, ct, osl, rfl, lk, hcd⟩ := F.ex
  exact fn_of lk hcd S len fun A outer s H vs Q E hr hsp => hbody cdv A outer s H vs Q E hr hsp
theorem fnrX {CX : CXT} (F : Fun K x qual st f fd) (S : FnScope N ps (defScope st)) (len : ∀ vs H Q E, sp vs H Q E → vs.length = ps.length)
    (hb : ∀ (kV doc pm : Value) (an : Option Addr) (cdv ct : Value) (us : List Value), us.length = ps.length → bindArgs (PySem.W.fnOf x qual (defArgs st) (defBody st) (defScope st) .none kV doc pm an cdv ct) ⟨us, []⟩ = pure (ps.zip us))
    (hbody : ∀ (cdv : Value) (A : Around) (outer : List Env) (s : Shared) (H : Hp) (vs : List V) (Q : VK) (E : XK), Room k (A.deeper (envOfC qual (defScope st) s.heap.objs.size f cdv)) → sp vs H Q E →
      ∃ t, PSs (cxOf CX P w K mg base N qual (defScope st) f cdv A outer s H E) (defBody st) t ∧ t { nx := fun _ H' => Q .non H', rt := Q } (start N vs) H) : FnR P w K mg base CX (k + 1) f sp :=
  FnOk.r (okX F S len hbody) (F.binds hb)
/-- a def that makes lambdas: its code object stands at c -/
theorem okC (F : Fun K x qual st f fd) (hc : fd.code = .ref c) (S : FnScope N ps (defScope st)) (len : ∀ vs H Q E, sp vs H Q E → vs.length = ps.length)
    (hbody : ∀ (A : Around) (outer : List Env) (s : Shared) (H : Hp) (vs : List V) (Q : VK) (E : XK), Room k (A.deeper (envOfC qual (defScope st) s.heap.objs.size f (.ref c))) → sp vs H Q E →
      ∃ t, PSs (cxOf CX0 P w K mg base N qual (defScope st) f (.ref c) A outer s H E).nox (defBody st) t ∧ t { nx := fun _ H' => Q .non H', rt := Q } (start N vs) H) : FnOk P w K mg base CX0 (k + 1) f fd ps sp := by
  obtain ⟨oc, od, kV, doc, pm, an, cdv, ct, osl, rfl, lk, hcd⟩ := F.ex
  have e : cdv = .ref c := hc
  subst e
  refine fn_of lk hcd S len fun A outer s H vs Q E hr hsp => ?_
  obtain ⟨t, h, q⟩ := hbody A outer s H vs Q E hr hsp
  exact ⟨t, h.nox, q⟩
theorem fnrC (F : Fun K x qual st f fd) (hc : fd.code = .ref c) (S : FnScope N ps (defScope st)) (len : ∀ vs H Q E, sp vs H Q E → vs.length = ps.length)
    (hb : ∀ (kV doc pm : Value) (an : Option Addr) (cdv ct : Value) (us : List Value), us.length = ps.length → bindArgs (PySem.W.fnOf x qual (defArgs st) (defBody st) (defScope st) .none kV doc pm an cdv ct) ⟨us, []⟩ = pure (ps.zip us))
    (hbody : ∀ (A : Around) (outer : List Env) (s : Shared) (H : Hp) (vs : List V) (Q : VK) (E : XK), Room k (A.deeper (envOfC qual (defScope st) s.heap.objs.size f (.ref c))) → sp vs H Q E →
      ∃ t, PSs (cxOf CX0 P w K mg base N qual (defScope st) f (.ref c) A outer s H E).nox (defBody st) t ∧ t { nx := fun _ H' => Q .non H', rt := Q } (start N vs) H) : FnR P w K mg base CX0 (k + 1) f sp :=
  FnOk.r (okC F hc S len hbody) (F.binds hb)
end
/-! ### an instance called, with a reading that names no context -/
def tCallK (C : Addr) (sp : Sp) (E : XK) (tf : TE) (t : TA) : TE := fun σ H Q => tf σ H fun y H1 => ∃ a, y = V.ref a ∧ t σ H1 fun vs H2 => (∃ dx fs, H2 a = some (.ins C dx fs)) ∧ sp (V.ref a :: vs) H2 Q E
theorem pe_caK {X : Cx} {CX : CXT} {k j : Nat} {C : Addr} {sp : Sp} {E : XK} {pos : Pos} {e fe : Expr} {es : List Expr} {tf : TE} {t : TA} (hf : PE X fe tf) (c : Ca X.prog X.w X.K X.mg X.base CX k C sp) (hr : Room j X.A) (hk : k ≤ j) (hx : Passes CX X E) (ha : PA X (e :: es) t)
    (ht : eval (.Call fe (e :: es) [] pos) X.env = (do callWith pos (← eval fe X.env) [] (backTo pos (starEach (e :: es) X.env)) (backToKw pos (keywordEach [] X.env))) := by rfl)
    (he : starEach (e :: es) X.env = (false, eval e X.env) :: starEach es X.env := by rfl) (hpl : (backTo pos (starEach es X.env)).any (·.1) = false := by rfl) : PE X (.Call fe (e :: es) [] pos) (tCallK C sp E tf t) := by
  have hf2 : PE X fe (fun σ H Q => ∃ R : V → Hp → Prop, tf σ H R ∧ ∀ v H1, R v H1 → Q v H1) := ⟨fun pins s σ H Q I ⟨R, h1, h2⟩ => wpAny_mono (hf.run pins s σ H R I h1) (fun us s1 ⟨v, H1, I1, r, q⟩ => ⟨v, H1, I1, r, h2 _ _ q⟩) fun _ _ z => z⟩
  have ha2 : PA X (e :: es) (fun σ H Q => ∃ R : List V → Hp → Prop, t σ H R ∧ ∀ vs H1, R vs H1 → Q vs H1) := ⟨fun pos pins s σ H Q I ⟨R, h1, h2⟩ => wpAny_mono (ha.run pos pins s σ H R I h1) (fun us s1 ⟨vs, H1, I1, r, q⟩ => ⟨vs, H1, I1, r, h2 _ _ q⟩) fun _ _ z => z⟩
  have m := pe_ca hf2 c hr hk hx ha2 ht he hpl
  refine ⟨fun pins s σ H Q I h => m.run pins s σ H Q I ⟨_, h, ?_⟩⟩
  rintro v H1 ⟨a, ea, q⟩
  exact ⟨a, ea, _, q, fun vs H2 ⟨⟨dx, fs, hi⟩, hs⟩ => ⟨.inr ⟨dx, fs, hi⟩, hs⟩⟩
end SB

/-! Moves as plain lists of places. -/
namespace MM
/-- the places of a move that takes t values -/
def MoveOk (t : Nat) (ps : List Int) : Prop := (∀ p ∈ ps, -1 ≤ p ∧ p < (t : Int)) ∧ ps.Pairwise (fun a b => 0 ≤ a → a ≠ b)
theorem MoveOk.inj {t : Nat} {ps : List Int} (h : MoveOk t ps) {i j : Nat} {v : Int} (hi : ps[i]? = some v) (hj : ps[j]? = some v) (h0 : 0 ≤ v) : i = j := by
  obtain ⟨li, ei⟩ := List.getElem?_eq_some_iff.mp hi
  obtain ⟨lj, ej⟩ := List.getElem?_eq_some_iff.mp hj
  have pw := List.pairwise_iff_getElem.mp h.2
  rcases Nat.lt_trichotomy i j with c | c | c
  · exact absurd (ei.trans ej.symm) (pw i j li lj c (by rw [ei]; exact h0))
  · exact c
  · exact absurd (ej.trans ei.symm) (pw j i lj li c (by rw [ej]; exact h0))
theorem MoveOk.at {t : Nat} {ps : List Int} (h : MoveOk t ps) {i : Nat} {v : Int} (hi : ps[i]? = some v) : -1 ≤ v ∧ v < (t : Int) := h.1 v (List.mem_of_getElem? hi)
theorem moveOk_of {t : Nat} {ps : List Int} (h1 : ∀ (i : Nat) (v : Int), ps[i]? = some v → -1 ≤ v ∧ v < (t : Int)) (h2 : ∀ (i j : Nat) (v : Int), ps[i]? = some v → ps[j]? = some v → 0 ≤ v → i = j) : MoveOk t ps := by
  refine ⟨fun p hp => ?_, List.pairwise_iff_getElem.mpr fun i j hi hj hij h0 e => ?_⟩
  · obtain ⟨i, hi, e⟩ := List.mem_iff_getElem.mp hp
    exact h1 i p (by rw [List.getElem?_eq_getElem hi, e])
  · have := h2 i j ps[i] (List.getElem?_eq_getElem hi) (by rw [List.getElem?_eq_getElem hj, e]) h0
    omega
/-- where p stands among the places, or -1 -/
def posI : List Int → Int → Nat → Int
  | [], _, _ => -1
  | x :: r, p, k => if x = p then (k : Int) else posI r p (k + 1)
def posM (ps : List Int) (p : Int) : Int := posI ps p 0
theorem posI_spec : ∀ (ps : List Int) (p : Int) (k : Nat), (posI ps p k = -1 ∧ p ∉ ps) ∨ ∃ j : Nat, posI ps p k = ((k + j : Nat) : Int) ∧ ps[j]? = some p
  | [], p, k => .inl ⟨rfl, by simp⟩
  | x :: r, p, k => by
    unfold posI
    by_cases c : x = p
    · rw [if_pos c]
      exact .inr ⟨0, by simp, by simp [c]⟩
    · rw [if_neg c]
      rcases posI_spec r p (k + 1) with ⟨e, h⟩ | ⟨j, e, h⟩
      · exact .inl ⟨e, by simp [h]; exact fun z => c z.symm⟩
      · exact .inr ⟨j + 1, by rw [e]; congr 1; omega, by simpa using h⟩
theorem posM_none {ps : List Int} {p : Int} (h : p ∉ ps) : posM ps p = -1 := by
  rcases posI_spec ps p 0 with ⟨e, _⟩ | ⟨j, _, hj⟩
  · exact e
  · exact absurd (List.mem_of_getElem? hj) h
theorem posM_some {t : Nat} {ps : List Int} (ok : MoveOk t ps) {p : Int} {j : Nat} (h0 : 0 ≤ p) (h : ps[j]? = some p) : posM ps p = (j : Int) := by
  rcases posI_spec ps p 0 with ⟨_, n⟩ | ⟨i, e, hi⟩
  · exact absurd (List.mem_of_getElem? h) n
  · have := ok.inj hi h h0
    subst this
    exact e.trans (by simp)
theorem posM_cases (ps : List Int) (p : Int) : (posM ps p = -1 ∧ p ∉ ps) ∨ ∃ j : Nat, posM ps p = (j : Int) ∧ ps[j]? = some p := by
  rcases posI_spec ps p 0 with h | ⟨j, e, h⟩
  · exact .inl h
  · exact .inr ⟨j, e.trans (by simp), h⟩
/-- the places of the undone move -/
def invM (t : Nat) (ps : List Int) : List Int := (List.range t).map fun i : Nat => posM ps (i : Int)
theorem invM_length (t : Nat) (ps : List Int) : (invM t ps).length = t := by simp [invM]
theorem invM_get {t : Nat} {ps : List Int} {i : Nat} (h : i < t) : (invM t ps)[i]? = some (posM ps (i : Int)) := by
  simp [invM, h]
theorem invM_get' {t : Nat} {ps : List Int} {i : Nat} {v : Int} (h : (invM t ps)[i]? = some v) : i < t ∧ v = posM ps (i : Int) := by
  have hl : i < t := by
    have := (List.getElem?_eq_some_iff.mp h).1
    rw [invM_length] at this
    exact this
  rw [invM_get hl] at h
  exact ⟨hl, (Option.some.inj h).symm⟩
theorem invM_ok {t : Nat} {ps : List Int} (ok : MoveOk t ps) : MoveOk ps.length (invM t ps) := by
  refine moveOk_of (fun i v h => ?_) (fun i j v hi hj h0 => ?_)
  · obtain ⟨_, rfl⟩ := invM_get' h
    rcases posM_cases ps i with ⟨e, _⟩ | ⟨j, e, hj⟩
    · rw [e]; omega
    · have := (List.getElem?_eq_some_iff.mp hj).1
      rw [e]; omega
  · obtain ⟨_, e1⟩ := invM_get' hi
    obtain ⟨_, e2⟩ := invM_get' hj
    rcases posM_cases ps i with ⟨e, _⟩ | ⟨a, ea, ha⟩
    · omega
    · rcases posM_cases ps j with ⟨e, _⟩ | ⟨b, eb, hb⟩
      · omega
      · have : a = b := by omega
        subst this
        rw [ha] at hb
        have := Option.some.inj hb
        omega
theorem invM_succ (t : Nat) (ps : List Int) : invM (t + 1) ps = invM t ps ++ [posM ps (t : Int)] := by
  unfold invM
  rw [List.range_succ, List.map_append]
  rfl
theorem posI_snoc_old {x p : Int} (h : p ≠ x) : ∀ (ps : List Int) (k : Nat), posI (ps ++ [x]) p k = posI ps p k
  | [], k => by
    show (if x = p then _ else _) = _
    rw [if_neg fun z => h z.symm]
    rfl
  | y :: r, k => by
    show (if y = p then _ else posI (r ++ [x]) p (k + 1)) = if y = p then _ else _
    rw [posI_snoc_old h r (k + 1)]
theorem posM_snoc_old {ps : List Int} {x p : Int} (h : p ≠ x) : posM (ps ++ [x]) p = posM ps p := posI_snoc_old h ps 0
theorem posM_snoc_new {t : Nat} {ps : List Int} (ok : MoveOk t ps) {i : Nat} {v p : Int} (h : ps[i]? = some v) (h0 : 0 ≤ v) (e : p = v) : posM (ps.take i ++ [v]) p = (i : Int) := by
  subst e
  have hl : i < ps.length := (List.getElem?_eq_some_iff.mp h).1
  rcases posM_cases (ps.take i ++ [p]) p with ⟨_, n⟩ | ⟨j, e, hj⟩
  · exact absurd (List.mem_append_right _ (List.mem_singleton_self _)) n
  · rw [e]
    have hlt : j < i + 1 := by
      have := (List.getElem?_eq_some_iff.mp hj).1
      rw [List.length_append, List.length_take] at this
      simp at this
      omega
    by_cases c : j < i
    · rw [List.getElem?_append_left (by rw [List.length_take]; omega), List.getElem?_take, if_pos c] at hj
      have := ok.inj hj h h0
      omega
    · congr 1
      omega
theorem ext_get {a b : List Int} (hl : a.length = b.length) (h : ∀ (i : Nat) (x y : Int), a[i]? = some x → b[i]? = some y → x = y) : a = b := by
  apply List.ext_getElem hl
  intro i h1 h2
  exact h i _ _ (List.getElem?_eq_getElem h1) (List.getElem?_eq_getElem h2)
/-- undone twice -/
theorem inv_inv {t : Nat} {ps : List Int} (ok : MoveOk t ps) : invM ps.length (invM t ps) = ps := by
  refine ext_get (invM_length _ _) fun i x y hx hy => ?_
  obtain ⟨hi, rfl⟩ := invM_get' hx
  have b := ok.at hy
  by_cases h0 : 0 ≤ y
  · obtain ⟨k, rfl⟩ : ∃ k : Nat, y = (k : Int) := ⟨y.toNat, by omega⟩
    have hk : k < t := by omega
    have e : (invM t ps)[k]? = some (i : Int) := by rw [invM_get hk, posM_some ok (by omega) hy]
    exact posM_some (invM_ok ok) (by omega) e
  · have ey : y = -1 := by omega
    rw [posM_none, ey]
    intro hm
    obtain ⟨k, hk⟩ := List.mem_iff_getElem?.mp hm
    obtain ⟨hk1, e⟩ := invM_get' hk
    rcases posM_cases ps k with ⟨e2, _⟩ | ⟨j, e2, hj⟩
    · omega
    · have : j = i := by omega
      subst this
      rw [hy] at hj
      have := Option.some.inj hj
      omega
/-- the places of a product -/
def prodM (ps qs : List Int) : List Int := qs.map fun q => if q < 0 then q else ps.getD q.toNat (-1)
theorem prodM_length (ps qs : List Int) : (prodM ps qs).length = qs.length := by simp [prodM]
theorem prodM_get {ps qs : List Int} {i : Nat} {q : Int} (h : qs[i]? = some q) : (prodM ps qs)[i]? = some (if q < 0 then q else ps.getD q.toNat (-1)) := by
  simp [prodM, h]
theorem prodM_get' {ps qs : List Int} {i : Nat} {v : Int} (h : (prodM ps qs)[i]? = some v) : ∃ q, qs[i]? = some q ∧ v = if q < 0 then q else ps.getD q.toNat (-1) := by
  have hl : i < qs.length := by
    have := (List.getElem?_eq_some_iff.mp h).1
    rw [prodM_length] at this
    exact this
  have hq := List.getElem?_eq_getElem hl
  rw [prodM_get hq] at h
  exact ⟨_, hq, (Option.some.inj h).symm⟩
theorem getD_of {ps : List Int} {k : Nat} {v : Int} (h : ps[k]? = some v) : ps.getD k (-1) = v := by simp [List.getD, h]
/-- a place of a product: a gap of the second, or the place of the first there -/
theorem prod_case {t : Nat} {ps qs : List Int} (o2 : MoveOk ps.length qs) {i : Nat} {v : Int} (h : (prodM ps qs)[i]? = some v) : (qs[i]? = some (-1) ∧ v = -1) ∨ ∃ k : Nat, qs[i]? = some (k : Int) ∧ ps[k]? = some v := by
  obtain ⟨q, hq, e⟩ := prodM_get' h
  have b := o2.at hq
  by_cases c : q < 0
  · rw [if_pos c] at e
    have : q = -1 := by omega
    subst this
    exact .inl ⟨hq, e⟩
  · rw [if_neg c] at e
    have hl : q.toNat < ps.length := by omega
    refine .inr ⟨q.toNat, by rw [hq]; congr 1; omega, ?_⟩
    rw [getD_of (List.getElem?_eq_getElem hl)] at e
    rw [List.getElem?_eq_getElem hl, e]
theorem prod_gap {ps qs : List Int} {i : Nat} (h : qs[i]? = some (-1)) : (prodM ps qs)[i]? = some (-1) := by rw [prodM_get h]; simp
theorem prod_at {ps qs : List Int} {i k : Nat} {v : Int} (h : qs[i]? = some (k : Int)) (hk : ps[k]? = some v) : (prodM ps qs)[i]? = some v := by
  rw [prodM_get h, if_neg (by omega), Int.toNat_natCast, getD_of hk]
theorem prod_ok {t : Nat} {ps qs : List Int} (o1 : MoveOk t ps) (o2 : MoveOk ps.length qs) : MoveOk t (prodM ps qs) := by
  refine moveOk_of (fun i v h => ?_) (fun i j v hi hj h0 => ?_)
  · rcases prod_case (t := t) o2 h with ⟨_, e⟩ | ⟨k, _, hk⟩
    · omega
    · exact o1.at hk
  · rcases prod_case (t := t) o2 hi with ⟨_, e⟩ | ⟨a, ha, hka⟩
    · omega
    · rcases prod_case (t := t) o2 hj with ⟨_, e⟩ | ⟨b, hb, hkb⟩
      · omega
      · have := o1.inj hka hkb h0
        subst this
        exact o2.inj ha hb (by omega)
theorem getElem?_of_lt {ps : List Int} {k : Nat} (h : k < ps.length) : ∃ v, ps[k]? = some v := ⟨_, List.getElem?_eq_getElem h⟩
/-- the undone product -/
theorem inv_prod {t : Nat} {ps qs : List Int} (o1 : MoveOk t ps) (o2 : MoveOk ps.length qs) : invM t (prodM ps qs) = prodM (invM ps.length qs) (invM t ps) := by
  have o3 := prod_ok o1 o2
  have o4 := invM_ok o1
  have o5 := invM_ok o2
  have o6 : MoveOk (invM ps.length qs).length (invM t ps) := by rw [invM_length]; exact o4
  refine ext_get (by rw [invM_length, prodM_length, invM_length]) fun i x y hx hy => ?_
  obtain ⟨hi, rfl⟩ := invM_get' hx
  rcases prod_case (t := qs.length) o6 hy with ⟨hg, rfl⟩ | ⟨k, hk, hy2⟩
  · -- i is not among ps
    obtain ⟨_, e⟩ := invM_get' hg
    rcases posM_cases ps i with ⟨_, n⟩ | ⟨j, e2, _⟩
    · refine posM_none fun hm => ?_
      obtain ⟨j, hj⟩ := List.mem_iff_getElem?.mp hm
      rcases prod_case (t := t) o2 hj with ⟨_, z⟩ | ⟨a, _, ha⟩
      · omega
      · exact n (List.mem_of_getElem? ha)
    · omega
  · obtain ⟨_, ek⟩ := invM_get' hk
    rcases posM_cases ps i with ⟨e2, _⟩ | ⟨j, e2, hj⟩
    · omega
    · have : j = k := by omega
      subst this
      obtain ⟨_, rfl⟩ := invM_get' hy2
      rcases posM_cases qs j with ⟨e3, n⟩ | ⟨l, e3, hl⟩
      · rw [e3]
        refine posM_none fun hm => ?_
        obtain ⟨b, hb⟩ := List.mem_iff_getElem?.mp hm
        rcases prod_case (t := t) o2 hb with ⟨_, z⟩ | ⟨a, ha1, ha2⟩
        · omega
        · have := o1.inj ha2 hj (by omega)
          subst this
          exact n (List.mem_of_getElem? ha1)
      · rw [e3]
        exact posM_some o3 (by omega) (prod_at hl hj)
/-- a move, undone, and done again -/
theorem prod_back {t : Nat} {ps : List Int} (ok : MoveOk t ps) : prodM (prodM ps (invM t ps)) ps = ps := by
  have o4 := invM_ok ok
  have o5 : MoveOk t (prodM ps (invM t ps)) := prod_ok ok o4
  have hl : (prodM ps (invM t ps)).length = t := by rw [prodM_length, invM_length]
  have o6 : MoveOk (prodM ps (invM t ps)).length ps := by rw [hl]; exact ok
  refine ext_get (prodM_length _ _) fun i x y hx hy => ?_
  rcases prod_case (t := t) o6 hx with ⟨hg, rfl⟩ | ⟨k, hk, hx2⟩
  · rw [hy] at hg
    exact (Option.some.inj hg).symm
  · rw [hy] at hk
    have ey := Option.some.inj hk
    rcases prod_case (t := t) o4 hx2 with ⟨hg, rfl⟩ | ⟨j, hj, hj2⟩
    · obtain ⟨_, e⟩ := invM_get' hg
      rw [posM_some ok (by omega) (by rw [hy, ey])] at e
      omega
    · obtain ⟨_, e⟩ := invM_get' hj
      rw [posM_some ok (by omega) (by rw [hy, ey])] at e
      have : j = i := by omega
      subst this
      rw [hy] at hj2
      exact (Option.some.inj hj2).symm
/-- gaps -/
def gapsM (ps : List Int) : Nat := (ps.filter fun p => decide (p < 0)).length
/-- the still move -/
def stillM (t : Nat) : List Int := (List.range t).map fun i : Nat => (i : Int)
theorem stillM_length (t : Nat) : (stillM t).length = t := by simp [stillM]
theorem stillM_get {t i : Nat} {v : Int} (h : (stillM t)[i]? = some v) : i < t ∧ v = (i : Int) := by
  have hl : i < t := by
    have := (List.getElem?_eq_some_iff.mp h).1
    rw [stillM_length] at this
    exact this
  simp [stillM, hl] at h
  exact ⟨hl, h.symm⟩
theorem stillM_at {t i : Nat} (h : i < t) : (stillM t)[i]? = some (i : Int) := by simp [stillM, h]
theorem still_ok (t : Nat) : MoveOk t (stillM t) := by
  refine moveOk_of (fun i v h => ?_) (fun i j v hi hj _ => ?_)
  · obtain ⟨_, rfl⟩ := stillM_get h
    omega
  · obtain ⟨_, e1⟩ := stillM_get hi
    obtain ⟨_, e2⟩ := stillM_get hj
    omega
theorem still_nodup (t : Nat) : (stillM t).Nodup := by
  refine List.nodup_iff_pairwise_ne.mpr (List.pairwise_iff_getElem.mpr fun i j hi hj hij e => ?_)
  have a := stillM_get (List.getElem?_eq_getElem hi)
  have b := stillM_get (List.getElem?_eq_getElem hj)
  omega
theorem still_mem {t : Nat} {v : Int} : v ∈ stillM t ↔ 0 ≤ v ∧ v < (t : Int) := by
  constructor
  · intro h
    obtain ⟨i, hi⟩ := List.mem_iff_getElem?.mp h
    obtain ⟨h1, rfl⟩ := stillM_get hi
    omega
  · rintro ⟨h0, h1⟩
    have e := stillM_at (t := t) (i := v.toNat) (by omega)
    have := List.mem_of_getElem? e
    rwa [show ((v.toNat : Nat) : Int) = v by omega] at this
/-- some of the indexes below t, each once -/
def SomeOf (t : Nat) (a b : List Int) : Prop := (a ++ b).Perm (stillM t)
theorem someOf_ok {t : Nat} {a b : List Int} (h : SomeOf t a b) : MoveOk t a := by
  have nd : (a ++ b).Nodup := h.nodup_iff.mpr (still_nodup t)
  have na := (List.nodup_append.mp nd).1
  refine ⟨fun p hp => ?_, List.Pairwise.imp (R := (· ≠ ·)) (S := fun a b => 0 ≤ a → a ≠ b) (fun hab _ => hab) (List.nodup_iff_pairwise_ne.mp na)⟩
  have := still_mem.mp (h.mem_iff.mp (List.mem_append_left b hp))
  omega
theorem someOf_nonneg {t : Nat} {a b : List Int} (h : SomeOf t a b) : ∀ p ∈ a, 0 ≤ p := fun p hp => (still_mem.mp (h.mem_iff.mp (List.mem_append_left b hp))).1
theorem someOf_length {t : Nat} {a b : List Int} (h : SomeOf t a b) : a.length + b.length = t := by
  have := h.length_eq
  rw [List.length_append, stillM_length] at this
  exact this
theorem someOf_start (t : Nat) : SomeOf t [] (stillM t) := List.Perm.refl _
theorem cons_erase : ∀ {b : List Int} {k : Nat} {v : Int}, b[k]? = some v → (v :: b.eraseIdx k).Perm b
  | [], _, _, h => by simp at h
  | x :: r, 0, v, h => by
    have e : x = v := Option.some.inj h
    subst e
    exact List.Perm.refl _
  | x :: r, k + 1, v, h => by
    have ih := cons_erase (b := r) (k := k) (v := v) (by simpa using h)
    show (v :: x :: r.eraseIdx k).Perm (x :: r)
    exact (List.Perm.swap x v _).trans (ih.cons x)
theorem someOf_step {t : Nat} {a b : List Int} {k : Nat} {v : Int} (h : SomeOf t a b) (hk : b[k]? = some v) : SomeOf t (a ++ [v]) (b.eraseIdx k) := by
  have p := cons_erase hk
  have q : (a ++ [v] ++ b.eraseIdx k).Perm (a ++ b) := by
    rw [List.append_assoc]
    exact p.append_left a
  exact q.trans h
theorem ok_insert {t : Nat} {a : List Int} (h : MoveOk t a) (i : Nat) : MoveOk t (a.take i ++ [-1] ++ a.drop i) := by
  obtain ⟨h1, h2⟩ := h
  refine ⟨fun p hp => ?_, ?_⟩
  · rcases List.mem_append.mp hp with hp | hp
    · rcases List.mem_append.mp hp with hp | hp
      · exact h1 p (List.mem_of_mem_take hp)
      · have : p = -1 := by simpa using hp
        omega
    · exact h1 p (List.mem_of_mem_drop hp)
  · have h2' : (a.take i ++ a.drop i).Pairwise (fun a b => 0 ≤ a → a ≠ b) := by rw [List.take_append_drop]; exact h2
    obtain ⟨p1, p2, p3⟩ := List.pairwise_append.mp h2'
    refine List.pairwise_append.mpr ⟨List.pairwise_append.mpr ⟨p1, List.pairwise_singleton _ _, fun x hx y hy h0 => ?_⟩, p2, fun x hx y hy => ?_⟩
    · have : y = -1 := by simpa using hy
      omega
    · rcases List.mem_append.mp hx with hx | hx
      · exact p3 x hx y hy
      · have : x = -1 := by simpa using hx
        intro h0
        omega
/-- a move that leaves nothing out and has no gaps, undone -/
theorem perm_back {t : Nat} {ps : List Int} (h : SomeOf t ps []) : prodM ps (invM t ps) = stillM t := by
  have ok := someOf_ok h
  have o4 := invM_ok ok
  have hp : ps.Perm (stillM t) := by have := h; unfold SomeOf at this; rwa [List.append_nil] at this
  refine ext_get (by rw [prodM_length, invM_length, stillM_length]) fun i x y hx hy => ?_
  obtain ⟨hi, rfl⟩ := stillM_get hy
  have hm : (i : Int) ∈ ps := hp.mem_iff.mpr (still_mem.mpr (by omega))
  rcases prod_case (t := t) o4 hx with ⟨hg, rfl⟩ | ⟨k, hk, hx2⟩
  · obtain ⟨_, e⟩ := invM_get' hg
    rcases posM_cases ps i with ⟨_, n⟩ | ⟨j, e2, _⟩
    · exact absurd hm n
    · omega
  · obtain ⟨_, e⟩ := invM_get' hk
    rcases posM_cases ps i with ⟨_, n⟩ | ⟨j, e2, hj⟩
    · exact absurd hm n
    · have : j = k := by omega
      subst this
      rw [hx2] at hj
      exact Option.some.inj hj
theorem back_perm {t : Nat} {ps : List Int} (h : SomeOf t ps []) : prodM (invM t ps) ps = stillM t := by
  have ok := someOf_ok h
  have o6 : MoveOk (invM t ps).length ps := by rw [invM_length]; exact ok
  have hl : ps.length = t := by have := someOf_length h; simpa using this
  refine ext_get (by rw [prodM_length, stillM_length, hl]) fun i x y hx hy => ?_
  obtain ⟨hi, rfl⟩ := stillM_get hy
  rcases prod_case (t := ps.length) o6 hx with ⟨hg, rfl⟩ | ⟨k, hk, hx2⟩
  · have := someOf_nonneg h (-1) (List.mem_of_getElem? hg)
    omega
  · obtain ⟨_, rfl⟩ := invM_get' hx2
    exact posM_some ok (by omega) hk
/-! ### a move applied to values -/
section
variable {α β : Type}
def applyM : List Int → List α → List α → List α
  | [], _, _ => []
  | p :: ps, xs, ys => if p < 0 then ys.take 1 ++ applyM ps xs (ys.drop 1) else (xs[p.toNat]?).toList ++ applyM ps xs ys
theorem apply_neg {p : Int} {ps : List Int} {xs ys : List α} {y : α} (h : p < 0) : applyM (p :: ps) xs (y :: ys) = y :: applyM ps xs ys := by
  show (if p < 0 then _ else _) = _
  rw [if_pos h]
  rfl
theorem apply_nonneg {p : Int} {ps : List Int} {xs ys : List α} {x : α} (h : ¬ p < 0) (hx : xs[p.toNat]? = some x) : applyM (p :: ps) xs ys = x :: applyM ps xs ys := by
  show (if p < 0 then _ else _) = _
  rw [if_neg h, hx]
  rfl
theorem gaps_cons (p : Int) (ps : List Int) : gapsM (p :: ps) = (if p < 0 then 1 else 0) + gapsM ps := by
  unfold gapsM
  by_cases c : p < 0
  · simp [c]; omega
  · simp [c]
theorem gaps_snoc (ps : List Int) (p : Int) : gapsM (ps ++ [p]) = gapsM ps + (if p < 0 then 1 else 0) := by
  unfold gapsM
  by_cases c : p < 0 <;> simp [c]
/-- what stands at a position -/
theorem apply_get : ∀ (ps : List Int) (xs ys : List α), (∀ p ∈ ps, p < 0 ∨ p.toNat < xs.length) → gapsM ps ≤ ys.length → ∀ i : Nat, (applyM ps xs ys)[i]? = (ps[i]?).bind fun p => if p < 0 then ys[gapsM (ps.take i)]? else xs[p.toNat]?
  | [], _, _, _, _, i => by simp [applyM]
  | p :: ps, xs, ys, hp, hg, i => by
    rw [gaps_cons] at hg
    by_cases c : p < 0
    · rw [if_pos c] at hg
      cases ys with
      | nil => simp at hg
      | cons y ys =>
        rw [apply_neg c]
        cases i with
        | zero => simp [c, gapsM]
        | succ i =>
          have ih := apply_get ps xs ys (fun q hq => hp q (List.mem_cons_of_mem _ hq)) (by simp at hg; omega) i
          simp only [List.getElem?_cons_succ, List.take_succ_cons]
          rw [ih, gaps_cons, if_pos c]
          simp only [Nat.add_comm 1, List.getElem?_cons_succ]
    · rw [if_neg c] at hg
      have hl : p.toNat < xs.length := (hp p List.mem_cons_self).resolve_left c
      rw [apply_nonneg c (List.getElem?_eq_getElem hl)]
      cases i with
      | zero => simp [c]
      | succ i =>
        have ih := apply_get ps xs ys (fun q hq => hp q (List.mem_cons_of_mem _ hq)) (by omega) i
        simp only [List.getElem?_cons_succ, List.take_succ_cons]
        rw [ih, gaps_cons, if_neg c]
        simp only [Nat.zero_add]
theorem apply_length : ∀ (ps : List Int) (xs ys : List α), (∀ p ∈ ps, p < 0 ∨ p.toNat < xs.length) → gapsM ps ≤ ys.length → (applyM ps xs ys).length = ps.length
  | [], _, _, _, _ => rfl
  | p :: ps, xs, ys, hp, hg => by
    rw [gaps_cons] at hg
    by_cases c : p < 0
    · rw [if_pos c] at hg
      cases ys with
      | nil => simp at hg
      | cons y ys =>
        rw [apply_neg c, List.length_cons, List.length_cons, apply_length ps xs ys (fun q hq => hp q (List.mem_cons_of_mem _ hq)) (by simp at hg; omega)]
    · rw [if_neg c] at hg
      have hl : p.toNat < xs.length := (hp p List.mem_cons_self).resolve_left c
      rw [apply_nonneg c (List.getElem?_eq_getElem hl), List.length_cons, List.length_cons, apply_length ps xs ys (fun q hq => hp q (List.mem_cons_of_mem _ hq)) (by omega)]
theorem apply_map (f : α → β) : ∀ (ps : List Int) (xs ys : List α), (applyM ps xs ys).map f = applyM ps (xs.map f) (ys.map f)
  | [], _, _ => rfl
  | p :: ps, xs, ys => by
    unfold applyM
    by_cases c : p < 0
    · rw [if_pos c, if_pos c, List.map_append, apply_map f ps, List.map_take, List.map_drop]
    · rw [if_neg c, if_neg c, List.map_append, apply_map f ps, List.getElem?_map]
      cases xs[p.toNat]? <;> rfl
theorem apply_filter {γ : Type} {f : γ → Int} {g h : γ → α} {Y : List α} : ∀ (is : List γ), (∀ i ∈ is, 0 ≤ f i → Y[(f i).toNat]? = some (h i)) →
    applyM (is.map f) Y ((is.filter fun i => decide (f i < 0)).map g) = is.map fun i => if f i < 0 then g i else h i
  | [], _ => rfl
  | i :: r, H => by
    have ih := apply_filter (f := f) (g := g) (h := h) (Y := Y) r fun j hj => H j (List.mem_cons_of_mem _ hj)
    by_cases c : f i < 0
    · rw [List.map_cons, List.filter_cons, if_pos (decide_eq_true c), List.map_cons, apply_neg c, ih, List.map_cons, if_pos c]
    · rw [List.map_cons, List.filter_cons, if_neg (by simp [c]), apply_nonneg c (H i List.mem_cons_self (by omega)), ih, List.map_cons, if_neg c]
end
/-- what the undone move makes of what the move has made -/
theorem undo_values {α : Type} {t : Nat} {ps : List Int} (ok : MoveOk t ps) {ds gs : List α} (hd : ds.length = t) (hg : gs.length = gapsM ps) (lost : Int → α) (x : α) :
    applyM (invM t ps) (applyM ps ds gs) (((stillM t).filter fun i => decide (i ∉ ps)).map lost) = (stillM t).map fun i => if i ∈ ps then ds.getD i.toNat x else lost i := by
  have e1 : invM t ps = (stillM t).map (posM ps) := by
    unfold invM stillM
    rw [List.map_map]
    rfl
  have e2 : (stillM t).filter (fun i => decide (i ∉ ps)) = (stillM t).filter (fun i => decide (posM ps i < 0)) := by
    apply List.filter_congr
    intro i _
    rcases posM_cases ps i with ⟨e, n⟩ | ⟨j, e, hj⟩
    · rw [e]; simp [n]
    · rw [e]
      have := List.mem_of_getElem? hj
      simp [this]
  rw [e1, e2, apply_filter (h := fun i => ds.getD i.toNat x)]
  · apply List.map_congr_left
    intro i _
    rcases posM_cases ps i with ⟨e, n⟩ | ⟨j, e, hj⟩
    · rw [e, if_pos (by omega), if_neg n]
    · rw [e, if_neg (by omega), if_pos (List.mem_of_getElem? hj)]
  · intro i hi h0
    obtain ⟨i0, i1⟩ := still_mem.mp hi
    rcases posM_cases ps i with ⟨e, n⟩ | ⟨j, e, hj⟩
    · omega
    · rw [e, Int.toNat_natCast, apply_get ps ds gs (fun p hp => ?_) (by omega), hj]
      · show (if i < 0 then _ else ds[i.toNat]?) = _
        rw [if_neg (by omega)]
        have hl : i.toNat < ds.length := by omega
        rw [List.getElem?_eq_getElem hl]
        simp [List.getD, List.getElem?_eq_getElem hl]
      · have := ok.1 p hp
        by_cases c : p < 0
        · exact .inl c
        · exact .inr (by omega)
end MM

/-! Products of moves, and what is done with one mark in all gaps. -/
namespace MM
theorem prod_assoc {ps qs rs : List Int} (ok : MoveOk qs.length rs) : prodM (prodM ps qs) rs = prodM ps (prodM qs rs) := by
  unfold prodM
  rw [List.map_map]
  apply List.map_congr_left
  intro r hr
  have b := ok.1 r hr
  show (if r < 0 then r else _) = (if (if r < 0 then r else qs.getD r.toNat (-1)) < 0 then (if r < 0 then r else qs.getD r.toNat (-1)) else ps.getD (if r < 0 then r else qs.getD r.toNat (-1)).toNat (-1))
  by_cases c : r < 0
  · rw [if_pos c, if_pos c, if_pos c]
  · have hl : r.toNat < qs.length := by omega
    rw [if_neg c, if_neg c]
    have e : qs.getD r.toNat (-1) = qs[r.toNat] := getD_of (List.getElem?_eq_getElem hl)
    rw [e]
    exact getD_of (by rw [List.getElem?_map, List.getElem?_eq_getElem hl]; rfl)
theorem still_prod {t : Nat} {ps : List Int} (ok : MoveOk t ps) : prodM (stillM t) ps = ps := by
  unfold prodM
  conv => rhs; rw [← List.map_id ps]
  apply List.map_congr_left
  intro p hp
  have b := ok.1 p hp
  by_cases c : p < 0
  · rw [if_pos c]; rfl
  · rw [if_neg c]
    have : (stillM t)[p.toNat]? = some p := by
      rw [stillM_at (by omega)]
      congr 1
      omega
    exact getD_of this
theorem prod_still (ps : List Int) : prodM ps (stillM ps.length) = ps := by
  apply ext_get
  · rw [prodM_length, stillM_length]
  · intro i x y hx hy
    obtain ⟨q, hq, e⟩ := prodM_get' hx
    obtain ⟨hi, e2⟩ := stillM_get hq
    subst e2
    rw [if_neg (by omega), Int.toNat_natCast, getD_of hy] at e
    exact e
section
variable {α β : Type}
def doneM (ps : List Int) (xs : List α) (m : α) : List α := ps.map fun p => if p < 0 then m else xs.getD p.toNat m
theorem doneM_length (ps : List Int) (xs : List α) (m : α) : (doneM ps xs m).length = ps.length := by simp [doneM]
theorem getD_at {xs : List α} {k : Nat} {v m : α} (h : xs[k]? = some v) : xs.getD k m = v := by simp [List.getD, h]
theorem done_map (f : α → β) (ps : List Int) (xs : List α) (m : α) : (doneM ps xs m).map f = doneM ps (xs.map f) (f m) := by
  unfold doneM
  rw [List.map_map]
  apply List.map_congr_left
  intro p _
  show f (if p < 0 then m else xs.getD p.toNat m) = if p < 0 then f m else (xs.map f).getD p.toNat (f m)
  by_cases c : p < 0
  · rw [if_pos c, if_pos c]
  · rw [if_neg c, if_neg c]
    simp [List.getD, List.getElem?_map]
theorem done_apply : ∀ (ps : List Int) (xs : List α) (m : α), (∀ p ∈ ps, p < 0 ∨ p.toNat < xs.length) → applyM ps xs (List.replicate (gapsM ps) m) = doneM ps xs m
  | [], _, _, _ => rfl
  | p :: ps, xs, m, h => by
    have ih := done_apply ps xs m fun q hq => h q (List.mem_cons_of_mem _ hq)
    rw [gaps_cons]
    by_cases c : p < 0
    · rw [if_pos c, show 1 + gapsM ps = gapsM ps + 1 by omega, List.replicate_succ, apply_neg c, ih]
      unfold doneM
      rw [List.map_cons, if_pos c]
    · have hl : p.toNat < xs.length := (h p List.mem_cons_self).resolve_left c
      rw [if_neg c, Nat.zero_add, apply_nonneg c (List.getElem?_eq_getElem hl), ih]
      unfold doneM
      rw [List.map_cons, if_neg c, getD_at (List.getElem?_eq_getElem hl)]
theorem done_prod {ps qs : List Int} (ok : MoveOk ps.length qs) (xs : List α) (m : α) : doneM (prodM ps qs) xs m = doneM qs (doneM ps xs m) m := by
  unfold prodM
  unfold doneM
  rw [List.map_map]
  apply List.map_congr_left
  intro q hq
  have b := ok.1 q hq
  show (if (if q < 0 then q else ps.getD q.toNat (-1)) < 0 then m else xs.getD (if q < 0 then q else ps.getD q.toNat (-1)).toNat m) = if q < 0 then m else _
  by_cases c : q < 0
  · rw [if_pos c, if_pos c, if_pos c]
  · have hl : q.toNat < ps.length := by omega
    rw [if_neg c, if_neg c, getD_of (List.getElem?_eq_getElem hl)]
    exact (getD_at (by rw [List.getElem?_map, List.getElem?_eq_getElem hl]; rfl)).symm
theorem ok_range {t : Nat} {ps : List Int} (ok : MoveOk t ps) : ∀ p ∈ ps, p < 0 ∨ p.toNat < t := fun p hp => by
  have b := ok.1 p hp
  by_cases c : p < 0
  · exact .inl c
  · exact .inr (by omega)
end
end MM

namespace MV
open PySem PySem.Spec PyProof.Rows L2 SB
local macro_rules | `(tactic| walk_at "rd") => `(tactic| repeat (first | (refine ⟨_, rfl, ?_⟩) | (refine ⟨_, _, rfl, rfl, ?_⟩)))
def top (i : Nat) : Stmt := PySem.Challenge.pw_sidelists_k61_moves_called.main.body.getD i (.Pass ⟨0, 0, 0, 0⟩)
abbrev s_bag : Stmt := top 11
abbrev s_take : Stmt := top 12
/-- the built-ins that the text calls -/
structure Blt (mg : Str → Option Value) : Prop where
  n_len : mg "len" = none
  n_abs : mg "abs" = none
  n_int : mg "int" = none
  n_range : mg "range" = none
  n_list : mg "list" = none
  n_tuple : mg "tuple" = none
  n_str : mg "str" = none
  n_max : mg "max" = none
  n_min : mg "min" = none
  n_enumerate : mg "enumerate" = none
  n_isinstance : mg "isinstance" = none
/-- a source of draws that was asked at most n times -/
def BagL (l : List V) (n : Nat) : Prop := ∃ d m c : Int, l = [.int d, .int m, .int c] ∧ 0 ≤ m ∧ m ≤ 12000000000000000000 ∧ 0 ≤ c ∧ c ≤ (n : Int)
theorem BagL.mono {l : List V} {n k : Nat} (h : BagL l n) (hk : n ≤ k) : BagL l k := by
  obtain ⟨d, m, c, e, h1, h2, h3, h4⟩ := h
  exact ⟨d, m, c, e, h1, h2, h3, by omega⟩
def BagAt (H : Hp) (b : Addr) (n : Nat) : Prop := ∃ l, H b = some (.lst l) ∧ BagL l n
def spBag (K : PySem.W.Frag) : Sp := fun vs H Q _ => ∃ (a : Addr) (ns : List Int) (i : Int), vs = [.ref a, .int i] ∧ SqL K H a (ns.map V.int) ∧ 0 ≤ i ∧ i ≤ 100 ∧ ns.length ≤ 1000 ∧
  ∀ (b : Addr) (l : List V), H b = none → BagL l 0 → Q (.ref b) (upd H b (.lst l))
def spTake : Sp := fun vs H Q _ => ∃ (b : Addr) (many : Int) (l : List V) (n : Nat), vs = [.ref b, .int many] ∧ H b = some (.lst l) ∧ BagL l n ∧ n < 1000000 ∧ 0 < many ∧ many < 2 ^ 200 ∧
  ∀ (r : Int) (l' : List V), 0 ≤ r → r < many → BagL l' (n + 1) → Q (.int r) (upd H b (.lst l'))
section
variable {P : Program} {w : World} {K : PySem.W.Frag} {mg : Str → Option Value} {base : Heap}
theorem sc_bag : FnScope ["_law_script", "_law_at", "_law_cell", "_law_digits"] ["_law_script", "_law_at"] (defScope s_bag) := ⟨rfl, rfl, rfl, by decide +kernel, rfl, by decide +kernel, by decide +kernel⟩
theorem ok_bag {f : Addr} {fd : FuncData} (F : Fun K "_law_bag" "_law_bag" s_bag f fd) (T : Blt mg) : FnR P w K mg base CX0 1 f (spBag K) := by
  refine fnr F sc_bag (fun vs H Q E h => ?_) (fun _ _ _ _ _ _ us hl => match us, hl with | [_, _], _ => rfl) (fun cdv A outer s H vs Q E hr h => ?_)
  · obtain ⟨a, ns, i, rfl, _⟩ := h
    rfl
  · obtain ⟨a, ns, i, rfl, hS, h0, h1, hz, k⟩ := h
    refine ⟨_, (C8.pss_cut (ps_set (i := 2) sc_bag.nd rfl (Or.inl rfl) (pe_ifExp (pt_cmpR op_lt (pv 1) (pe_callB call_len_seq (by rfl) T.n_len (by decide +kernel) (pa_cons (pv 0) pa_nil)) (nomark _)) (pe_ix ix_list (pv 0) (pv 1) (fun _ _ => rfl)) pe_int))
      (C8.pss_cut (ps_set (i := 3) sc_bag.nd rfl (Or.inl rfl) (pe_ifExp (pt_cmpR op_ge (pe_callB call_abs (by rfl) T.n_abs (by decide +kernel) (pa_cons (pv 2) pa_nil)) (pe_op op_pow pe_int pe_int) (nomark _)) (pe_callB call_abs (by rfl) T.n_abs (by decide +kernel) (pa_cons (pv 2) pa_nil)) pe_int))
      (pss_one (ps_ret (pe_lst (pa_cons (pv 3) (pa_cons (pe_op op_add (pe_op op_add (pe_op op_mul (pe_op op_mod (pe_callTy call_int1 (by rfl) T.n_int (by decide +kernel) (pa_cons (pv 2) pa_nil)) pe_int) pe_int) (pe_op op_mul pe_int (pv 1))) pe_int) (pa_cons pe_int pa_nil)))))))), ?_⟩
    refine ⟨fun σ' H' => ∃ z : Int, σ' = [some (.ref a), some (.int i), some (.int z), none] ∧ H' = H, ?_, ?_⟩
    · walk_at "rd"
      refine ⟨a, _, rfl, .inl hS, ?_⟩
      walk_at "rd"
      refine ite2 (fun c => ?_) (fun c => ?_)
      · have c' : i < (ns.length : Int) := by simpa using of_decide_eq_true c
        walk_at "rd"
        have hj : i.toNat < ns.length := by omega
        refine ⟨a, _, i, .int ns[i.toNat], rfl, rfl, hS, at_of (j := i.toNat) (by omega) (by rw [List.getElem?_map, List.getElem?_eq_getElem hj]; rfl), ?_⟩
        exact ⟨_, rfl, rfl⟩
      · exact ⟨0, rfl, rfl⟩
    · rintro σ' H' ⟨z, rfl, rfl⟩
      refine ⟨fun σ' H'' => ∃ d : Int, σ' = [some (.ref a), some (.int i), some (.int z), some (.int d)] ∧ H'' = H', ?_, ?_⟩
      · walk_at "rd"
        refine ⟨⟨by decide, by decide, by decide⟩, ?_⟩
        walk_at "rd"
        refine ite2 (fun c => ?_) (fun c => ?_)
        · walk_at "rd"
          rfl
        · exact ⟨0, rfl, rfl⟩
      · rintro σ' H'' ⟨d, rfl, rfl⟩
        walk_at "rd"
        refine .inl ⟨_, rfl, ?_⟩
        walk_at "rd"
        refine ⟨(by show (0 : Int) < 2305843009213693951; decide), ?_⟩
        walk_at "rd"
        refine ⟨.inr ⟨by decide, by decide⟩, ?_⟩
        walk_at "rd"
        refine ⟨.inl ⟨by decide, by decide⟩, ?_⟩
        walk_at "rd"
        have z0 : 0 ≤ z % 2305843009213693951 := Int.emod_nonneg _ (by decide)
        have z1 : z % 2305843009213693951 < 2305843009213693951 := Int.emod_lt_of_pos _ (by decide)
        refine ⟨by show 3 ≤ sizeLine; decide, fun p hp => k p _ hp ⟨_, _, _, rfl, ?_, ?_, ?_, ?_⟩⟩
        all_goals omega
theorem sc_take : FnScope ["_law_bag_here", "_law_many", "_law_digit", "_law_mixed"] ["_law_bag_here", "_law_many"] (defScope s_take) := ⟨rfl, rfl, rfl, by decide +kernel, rfl, by decide +kernel, by decide +kernel⟩
theorem ok_take {f : Addr} {fd : FuncData} (F : Fun K "_law_take" "_law_take" s_take f fd) (T : Blt mg) : FnR P w K mg base CX0 1 f spTake := by
  refine fnr F sc_take (fun vs H Q E h => ?_) (fun _ _ _ _ _ _ us hl => match us, hl with | [_, _], _ => rfl) (fun cdv A outer s H vs Q E hr h => ?_)
  · obtain ⟨a, ns, i, _, rfl, _⟩ := h
    rfl
  · obtain ⟨b, many, l, n, rfl, hb, ⟨d, m, c, rfl, m0, m1, c0, c1⟩, hn, hm0, hm1, k⟩ := h
    refine ⟨_, (pss_cons (ps_if (pt_cmpR op_gt (pe_ix ix_list (pv 0) pe_int (fun _ _ => rfl)) pe_int (nomark _)) (pss_cons (ps_set (i := 2) sc_take.nd rfl (Or.inl rfl) (pe_op op_mod (pe_callTy call_int1 (by rfl) T.n_int (by decide +kernel) (pa_cons (pe_ix ix_list (pv 0) pe_int (fun _ _ => rfl)) pa_nil)) (pv 1)))
        (pss_cons (ps_asg (pe_op op_fdivW (pe_ix ix_list (pv 0) pe_int (fun _ _ => rfl)) (pv 1)) (pg_sub (pv 0) pe_int set_list))
        (pss_one (ps_ret (pv 2))))) pss_nil)
      (pss_cons (ps_asg (pe_op op_add (pe_ix ix_list (pv 0) pe_int (fun _ _ => rfl)) pe_int) (pg_sub (pv 0) pe_int set_list))
      (pss_cons (ps_set (i := 3) sc_take.nd rfl (Or.inl rfl) (pe_op op_mod (pe_callTy call_int1 (by rfl) T.n_int (by decide +kernel) (pa_cons (pe_op op_pow (pe_op op_add (pe_ix ix_list (pv 0) pe_int (fun _ _ => rfl)) (pe_op op_mul pe_int (pe_ix ix_list (pv 0) pe_int (fun _ _ => rfl)))) pe_int) pa_nil)) pe_int))
      (pss_cons (ps_set (i := 3) sc_take.nd rfl (Or.inl rfl) (pe_op op_mod (pe_callTy call_int1 (by rfl) T.n_int (by decide +kernel) (pa_cons (pe_op op_pow (pe_op op_add (pv 3) (pe_op op_mul pe_int (pe_ix ix_list (pv 0) pe_int (fun _ _ => rfl)))) pe_int) pa_nil)) pe_int))
      (pss_one (ps_ret (pe_op op_mod (pe_callTy call_int1 (by rfl) T.n_int (by decide +kernel) (pa_cons (pe_op op_fdiv (pv 3) pe_int) pa_nil)) (pv 1)))))))), ?_⟩
    have hq := SqL.of (K := K) hb
    walk_at "rd"
    refine ⟨b, _, _, _, rfl, rfl, hq, rfl, ?_⟩
    walk_at "rd"
    refine ite2 (fun g => ?_) (fun g => ?_)
    · walk_at "rd"
      refine ⟨b, _, _, _, rfl, rfl, hq, rfl, ?_⟩
      refine .inl ⟨_, rfl, ?_⟩
      walk_at "rd"
      refine ⟨hm0, ?_⟩
      walk_at "rd"
      refine ⟨b, _, _, _, rfl, rfl, hq, rfl, ?_⟩
      walk_at "rd"
      refine ⟨wide_div (b := 200) hm0 (by omega) (by decide) (by decide), ?_⟩
      walk_at "rd"
      refine ⟨b, _, _, 0, rfl, rfl, hb, rfl, ?_⟩
      walk_at "rd"
      exact k _ _ (Int.emod_nonneg _ (by omega)) (Int.emod_lt_of_pos _ hm0) ⟨_, m, c, rfl, m0, m1, c0, by omega⟩
    · walk_at "rd"
      refine ⟨b, _, _, _, rfl, rfl, hq, rfl, ?_⟩
      walk_at "rd"
      refine ⟨b, _, _, 2, rfl, rfl, hb, rfl, ?_⟩
      have hb2 : (upd H b (.lst [.int d, .int m, .int (c + 1)])) b = some (.lst [.int d, .int m, .int (c + 1)]) := upd_same
      have hq2 := SqL.of (K := K) hb2
      walk_at "rd"
      refine ⟨b, _, _, _, rfl, rfl, hq2, rfl, ?_⟩
      walk_at "rd"
      refine ⟨b, _, _, _, rfl, rfl, hq2, rfl, ?_⟩
      walk_at "rd"
      refine ⟨.inl ⟨by decide, by decide⟩, ?_⟩
      walk_at "rd"
      refine ⟨⟨by decide, by decide, by omega⟩, ?_⟩
      refine .inl ⟨_, rfl, ?_⟩
      walk_at "rd"
      refine ⟨(by show (0 : Int) < 2305843009213693921; decide), ?_⟩
      walk_at "rd"
      refine ⟨b, _, _, _, rfl, rfl, hq2, rfl, ?_⟩
      walk_at "rd"
      refine ⟨.inl ⟨by decide, by decide⟩, ?_⟩
      walk_at "rd"
      have y0 := Int.emod_nonneg ((m + 1000081 * (c + 1)) ^ 3) (show (2305843009213693921 : Int) ≠ 0 by decide)
      have y1 := Int.emod_lt_of_pos ((m + 1000081 * (c + 1)) ^ 3) (show (0 : Int) < 2305843009213693921 by decide)
      refine ⟨⟨by decide, by decide, (by show ((m + 1000081 * (c + 1)) ^ 3 % 2305843009213693921 + 15485863 * (c + 1)).natAbs < 2 ^ 64; omega)⟩, ?_⟩
      refine .inl ⟨_, rfl, ?_⟩
      walk_at "rd"
      refine ⟨(by show (0 : Int) < 2305843009213693951; decide), ?_⟩
      walk_at "rd"
      refine ⟨⟨by decide, by decide⟩, ?_⟩
      refine .inl ⟨_, rfl, ?_⟩
      walk_at "rd"
      refine ⟨hm0, ?_⟩
      exact k _ _ (Int.emod_nonneg _ (by omega)) (Int.emod_lt_of_pos _ hm0) ⟨_, m, c + 1, rfl, m0, m1, by omega, by omega⟩
end
end MV

namespace MV
open PySem PySem.Spec PyProof.Rows L2 SB MM
local macro_rules | `(tactic| walk_at "rd") => `(tactic| repeat (first | (refine ⟨_, rfl, ?_⟩) | (refine ⟨_, _, rfl, rfl, ?_⟩) | (refine ⟨_, _, rfl, ?_⟩) | (refine ⟨rfl, ?_⟩)))
abbrev s_m_init : Stmt := inClass (top 9) 1
abbrev s_m_eq : Stmt := inClass (top 9) 6
abbrev s_m_gaps : Stmt := inClass (top 9) 7
abbrev s_m_call : Stmt := inClass (top 9) 8
abbrev s_m_mul : Stmt := inClass (top 9) 9
abbrev s_m_invert : Stmt := inClass (top 9) 10
abbrev s_m_still : Stmt := inClass (top 9) 11
/-- what the top says of Move, at C -/
structure TxtM (K : PySem.W.Frag) (mg : Str → Option Value) (C : Addr) : Prop extends Blt mg where
  cl : Cls K C
  nt : NoAttr K C "takes"
  np : NoAttr K C "places"
  g_Move : mg "Move" = some (.ref C)
  is_Move : C8.InsC K C
  sf_Move : PySem.W.selfFirst K C = true
  nf_Move : PySem.W.notFirst K C (.ref C) = true
/-- the attributes of a move -/
def mfs (t : Nat) (q : Addr) : List (Str × V) := putF "places" (.ref q) (putF "takes" (.int (t : Int)) [])
theorem tp : ¬ (("takes" : Str) = "places") := by decide +kernel
theorem mfs_eq (t : Nat) (q : Addr) : mfs t q = ([("takes", V.int (t : Int)), ("places", V.ref q)] : List (Str × V)) := by
  show (if ("takes" : Str) = "places" then [(("takes" : Str), V.ref q)] else (("takes" : Str), V.int (t : Int)) :: putF "places" (V.ref q) []) = _
  rw [if_neg tp]
  rfl
theorem mfs_takes (t : Nat) (q : Addr) : (mfs t q).lookup ("takes" : Str) = some (.int (t : Int)) := by
  unfold mfs
  rw [lookup_putF, if_neg tp, lookup_putF, if_pos rfl]
theorem mfs_places (t : Nat) (q : Addr) : (mfs t q).lookup ("places" : Str) = some (.ref q) := by
  unfold mfs
  rw [lookup_putF, if_pos rfl]
/-- a move stands at a -/
def MoveAt (K : PySem.W.Frag) (C : Addr) (H : Hp) (a : Addr) (t : Nat) (ps : List Int) : Prop := ∃ dx q, H a = some (.ins C dx (mfs t q)) ∧ SqT K H q (ps.map V.int)
theorem MoveAt.same {K : PySem.W.Frag} {C : Addr} {H H' : Hp} {a : Addr} {t : Nat} {ps : List Int} (m : MoveAt K C H a t ps) (e : Same H H') : MoveAt K C H' a t ps := by
  obtain ⟨dx, q, h1, h2⟩ := m
  exact ⟨dx, q, e _ _ h1, Same.sqT e h2⟩
theorem MoveAt.keep {K : PySem.W.Frag} {C b : Addr} {H H' : Hp} {a : Addr} {t : Nat} {ps : List Int} {l : List V} (m : MoveAt K C H a t ps) (hb : H b = some (.lst l)) (e : KeepB b H H') : MoveAt K C H' a t ps := by
  obtain ⟨dx, q, h1, h2⟩ := m
  exact ⟨dx, q, e _ _ h1 (ne_of h1 hb (by intro z; cases z)), KeepB.sqT e hb h2⟩
/-- a list or a tuple -/
def SqS (K : PySem.W.Frag) (H : Hp) (a : Addr) (xs : List V) : Prop := SqL K H a xs ∨ SqT K H a xs
theorem SqS.same {K : PySem.W.Frag} {H H' : Hp} {a : Addr} {xs : List V} (h : SqS K H a xs) (e : Same H H') : SqS K H' a xs := h.imp (fun h => L2.Same.seq e h) (fun h => Same.sqT e h)
theorem SqS.stay {K : PySem.W.Frag} {H H' : Hp} {a : Addr} {xs : List V} (h : SqS K H a xs) (e : ∀ o, H a = some o → H' a = some o) : SqS K H' a xs := h.imp (fun h => stayL h e) (fun h => stayT h e)
/-! ### the promises -/
def spInit (K : PySem.W.Frag) (C : Addr) : Sp := fun vs H Q _ => ∃ (x dx l : Addr) (t : Nat) (ps : List Int), vs = [.ref x, .int (t : Int), .ref l] ∧ H x = some (.ins C dx []) ∧ SqS K H l (ps.map V.int) ∧ MoveOk t ps ∧ ps.length ≤ 100000 ∧
  ∀ H' q, KeepB x H H' → H' x = some (.ins C dx (mfs t q)) → SqT K H' q (ps.map V.int) → Q .non H'
def spEq (K : PySem.W.Frag) (C : Addr) : Sp := fun vs H Q _ => ∃ (a b : Addr) (t t' : Nat) (ps ps' : List Int), vs = [.ref a, .ref b] ∧ MoveAt K C H a t ps ∧ MoveAt K C H b t' ps' ∧
  Q (.bl (decide (t = t' ∧ ps = ps'))) H
def spGaps (K : PySem.W.Frag) (C : Addr) : Sp := fun vs H Q _ => ∃ (a : Addr) (t : Nat) (ps : List Int), vs = [.ref a] ∧ MoveAt K C H a t ps ∧ ps.length ≤ 100000 ∧
  ∀ H', Same H H' → Q (.int (gapsM ps : Nat)) H'
def spCall (K : PySem.W.Frag) (C : Addr) : Sp := fun vs H Q _ => ∃ (a v n : Addr) (t : Nat) (ps : List Int) (xs ys : List V), vs = [.ref a, .ref v, .ref n] ∧ MoveAt K C H a t ps ∧ MoveOk t ps ∧ ps.length ≤ 100000 ∧
  SqS K H v xs ∧ SqS K H n ys ∧ xs.length = t ∧ ys.length = gapsM ps ∧
  ∀ H' p, Same H H' → H p = none → H' p = some (.lst (applyM ps xs ys)) → Q (.ref p) H'
def spMul (K : PySem.W.Frag) (C : Addr) : Sp := fun vs H Q _ => ∃ (a b : Addr) (t : Nat) (ps qs : List Int), vs = [.ref a, .ref b] ∧ MoveAt K C H a t ps ∧ MoveAt K C H b ps.length qs ∧ MoveOk t ps ∧ MoveOk ps.length qs ∧ qs.length ≤ 100000 ∧
  ∀ H' p, Same H H' → H p = none → MoveAt K C H' p t (prodM ps qs) → Q (.ref p) H'
def spInv (K : PySem.W.Frag) (C : Addr) : Sp := fun vs H Q _ => ∃ (a : Addr) (t : Nat) (ps : List Int), vs = [.ref a] ∧ MoveAt K C H a t ps ∧ MoveOk t ps ∧ ps.length ≤ 100000 ∧ t ≤ 100000 ∧
  ∀ H' p, Same H H' → H p = none → MoveAt K C H' p ps.length (invM t ps) → Q (.ref p) H'
def spStill (K : PySem.W.Frag) (C : Addr) : Sp := fun vs H Q _ => ∃ t : Nat, vs = [.int (t : Int)] ∧ t ≤ 100000 ∧
  ∀ H' p, Same H H' → H p = none → MoveAt K C H' p t (stillM t) → Q (.ref p) H'
theorem mk_move {K : PySem.W.Frag} {C l : Addr} {H : Hp} {t : Nat} {ps : List Int} {Q : VK} {E : XK} (hl : SqS K H l (ps.map V.int)) (ok : MoveOk t ps) (hz : ps.length ≤ 100000)
    (k : ∀ H' a, Same H H' → H a = none → MoveAt K C H' a t ps → Q (.ref a) H') :
    ∀ x dx, H x = none → H dx = none → dx ≠ x → spInit K C [.ref x, .int (t : Int), .ref l] (upd (upd H dx (.own x)) x (.ins C dx [])) (fun v H2 => v = .non ∧ Q (.ref x) H2) E := by
  intro x dx nx nd ne
  have s0 : Same H (upd (upd H dx (.own x)) x (.ins C dx [])) := fun b o e => by
    rw [upd_ne (ne_of_none e nx), upd_ne (ne_of_none e nd)]
    exact e
  refine ⟨x, dx, l, t, ps, rfl, upd_same, hl.same s0, ok, hz, fun H' q kp hx hq => ⟨rfl, ?_⟩⟩
  exact k H' x (fun b o e => kp b o (s0 b o e) (ne_of_none e nx)) nx ⟨dx, q, hx, hq⟩
theorem mk_move2 {K : PySem.W.Frag} {C l x dx : Addr} {H : Hp} {t : Nat} {ps : List Int} {Q : VK} {E : XK} (nx : H x = none) (nd : H dx = none) (hl : SqS K H l (ps.map V.int)) (ok : MoveOk t ps) (hz : ps.length ≤ 100000)
    (k : ∀ H', Same H H' → MoveAt K C H' x t ps → Q .non H') : spInit K C [.ref x, .int (t : Int), .ref l] (upd (upd H dx (.own x)) x (.ins C dx [])) Q E := by
  have s0 : Same H (upd (upd H dx (.own x)) x (.ins C dx [])) := fun b o e => by
    rw [upd_ne (ne_of_none e nx), upd_ne (ne_of_none e nd)]
    exact e
  refine ⟨x, dx, l, t, ps, rfl, upd_same, hl.same s0, ok, hz, fun H' q kp hx hq => ?_⟩
  exact k H' (fun b o e => kp b o (s0 b o e) (ne_of_none e nx)) ⟨dx, q, hx, hq⟩
section
variable {P : Program} {w : World} {K : PySem.W.Frag} {mg : Str → Option Value} {base : Heap} {C : Addr}
theorem sc_m_init : FnScope ["self", "takes", "places", "taken", "at", "place"] ["self", "takes", "places"] (defScope s_m_init) := ⟨rfl, rfl, rfl, by decide +kernel, rfl, by decide +kernel, by decide +kernel⟩
theorem ok_init {f : Addr} {fd : FuncData} (F : Fun K "__init__" "Move.__init__" s_m_init f fd) (T : TxtM K mg C) : FnR P w K mg base CX0 1 f (spInit K C) := by
  refine fnr F sc_m_init (fun vs H Q E h => ?_) (fun _ _ _ _ _ _ us hl => match us, hl with | [_, _, _], _ => rfl) (fun cdv A outer s H vs Q E hr h => ?_)
  · obtain ⟨x, dx, l, t, ps, rfl, _⟩ := h
    rfl
  · obtain ⟨x, dx, l, t, ps, rfl, hx, hl, ok, hz, k⟩ := h
    refine ⟨_, (pss_cons (ps_set (i := 3) sc_m_init.nd rfl (Or.inl rfl) pe_dnewK)
      (pss_cons (ps_for PassesOwn.never rfl (pi_enumS (by rfl) T.n_enumerate (pa_cons (pv 2) pa_nil)) (pg_tup rfl (pgs_cons (pg_name (i := 4) sc_m_init.nd rfl (Or.inl rfl)) (pgs_cons (pg_name (i := 5) sc_m_init.nd rfl (Or.inl rfl)) pgs_nil)))
        (pss_cons (ps_if (PW.pt (pw_or (pt_cmp (pc_din (hu_of hr) (pv 5) (pv 3))) (pw_or1 (pt_not (pt_chain op_le op_lt (pe_un un_neg pe_int) (pv 5) (pv 1)))))) (pss_one ps_never) pss_nil)
        (pss_one (ps_if (pt_cmpR op_ge (pv 5) pe_int (nomark _)) (pss_one (ps_dput (hu_of hr) (pv 3) (pv 5) pe_bl rfl)) pss_nil))))
      (pss_cons (ps_fld (pv 0) (pv 1) rfl)
      (pss_one (ps_fld (pv 0) (pe_callTy call_tuple_of (by rfl) T.n_tuple (by decide +kernel) (pa_cons (pv 2) pa_nil)) rfl))))), ?_⟩
    intro d hd
    have hxd : x ≠ d := ne_of_none hx hd
    have s1 : Same H (upd H d (.dK [])) := same_new (Same.refl H) hd
    have hl1 := hl.same s1
    walk_at "rd"
    refine ⟨l, _, rfl, hl1, fun J G w hG => ?_⟩
    refine for_it w (fun i σ H' => ∃ (v4 v5 : Option V) (kvs : List (Key × V)), σ = [some (.ref x), some (.int (t : Int)), some (.ref l), some (.ref d), v4, v5] ∧ KeepB d (upd H d (.dK [])) H' ∧ H' d = some (.dK kvs) ∧ kvs.length ≤ i ∧
      ∀ p : Int, (valV kvs (Sum.inl p)).isSome = true → 0 ≤ p ∧ p ∈ ps.take i) ?_ ?_ ?_ ?_
    · exact ⟨none, none, [], rfl, KeepB.refl _ _, upd_same, Nat.le_refl _, fun p hp => by simp [valV_nil] at hp⟩
    · rintro i σ H' _ ⟨_, _, kvs, _, kp, hd', _⟩
      exact hG H' (fun e => kp.sqL' upd_same (noSeq_dK _) e) (fun e => kp.sqT' upd_same (noSeq_dK _) e)
    · rintro i x' σ H' H'' hi ⟨v4, v5, kvs, rfl, kp, hd', hlen, hv⟩ ⟨T', x0, y0, rfl, hT, rfl, e0, ey⟩
      cases e0
      have hi' : i < ps.length := by simpa using hi
      have epi : ps[i]? = some ps[i] := List.getElem?_eq_getElem hi'
      have ey' : y0 = .int ps[i] := by
        have q : (ps.map V.int)[i]? = some y0 := ey
        rw [List.getElem?_map, epi] at q
        exact (Option.some.inj q).symm
      subst ey'
      have bd := ok.at epi
      have ndT : d ≠ T' := ne_of_none hd' hT
      have hd2 : (upd H' T' (.tup [.int (i : Nat), .int ps[i]])) d = some (.dK kvs) := by rw [upd_ne ndT]; exact hd'
      have kp2 := kp.new (o := .tup [.int (i : Nat), .int ps[i]]) hT
      have tk : ps.take (i + 1) = ps.take i ++ [ps[i]] := by rw [List.take_append_getElem hi']
      have nin : 0 ≤ ps[i] → valV kvs (Sum.inl ps[i]) = none := fun h0 => by
        cases c : valV kvs (Sum.inl ps[i]) with
        | none => rfl
        | some v =>
          obtain ⟨_, hm⟩ := hv ps[i] (by rw [c]; rfl)
          obtain ⟨j, hj⟩ := List.mem_iff_getElem?.mp hm
          have hj2 : j < i ∧ ps[j]? = some ps[i] := by
            have hl := (List.getElem?_eq_some_iff.mp hj).1
            rw [List.length_take] at hl
            rw [List.getElem?_take] at hj
            have : j < i := by omega
            rw [if_pos this] at hj
            exact ⟨this, hj⟩
          have := ok.inj hj2.2 epi h0
          omega
      have nin2 : (valV kvs (Sum.inl ps[i])).isSome = false := by
        by_cases h0 : 0 ≤ ps[i]
        · rw [nin h0]; rfl
        · cases c : valV kvs (Sum.inl ps[i]) with
          | none => rfl
          | some v =>
            have := (hv ps[i] (by rw [c]; rfl)).1
            omega
      refine ⟨T', _, rfl, SqT.of upd_same, rfl, ?_⟩
      walk_at "rd"
      refine ⟨d, _, rfl, DGet.k (k := Sum.inl ps[i]) hd2, _, rfl, ?_⟩
      rw [nin2]
      refine iteF ?_
      walk_at "rd"
      refine ifY (by omega) ?_
      walk_at "rd"
      refine iteNS (by omega) ?_
      -- if place >= 0: taken[place] = True
      walk_at "rd"
      refine ite2 (fun c => ?_) (fun c => ?_)
      · have h0 : 0 ≤ ps[i] := of_decide_eq_true c
        walk_at "rd"
        refine ⟨d, _, rfl, DPut.k (k := Sum.inl ps[i]) hd2 (Nat.lt_of_le_of_lt hlen (Nat.lt_of_le_of_lt (by omega) (by decide : 100000 < sizeLine))), ?_⟩
        refine ⟨_, _, _, rfl, kp2.upd, upd_same, ?_, ?_⟩
        · have := length_putK kvs (Sum.inl ps[i]) (V.bl true)
          omega
        · intro p hp
          rw [valV_put] at hp
          rw [tk]
          by_cases e : (Sum.inl p : Key) = Sum.inl ps[i]
          · have e' : p = ps[i] := Sum.inl.inj e
            subst e'
            exact ⟨h0, List.mem_append_right _ (List.mem_singleton_self _)⟩
          · rw [if_neg e] at hp
            obtain ⟨a1, a2⟩ := hv p hp
            exact ⟨a1, List.mem_append_left _ a2⟩
      · refine ⟨_, _, kvs, rfl, kp2, hd2, by omega, fun p hp => ?_⟩
        obtain ⟨a1, a2⟩ := hv p hp
        exact ⟨a1, by rw [tk]; exact List.mem_append_left _ a2⟩
    · rintro σ H' ⟨v4, v5, kvs, rfl, kp, hd', hlen, hv⟩
      have hx1 : (upd H d (.dK [])) x = some (.ins C dx []) := by rw [upd_ne hxd]; exact hx
      have hx' : H' x = some (.ins C dx []) := kp x _ hx1 hxd
      have hl' : SqS K H' l (ps.map V.int) := hl1.imp (fun e => kp.sqL' upd_same (noSeq_dK _) e) (fun e => kp.sqT' upd_same (noSeq_dK _) e)
      walk_at "rd"
      refine ⟨x, C, dx, [], rfl, hx', T.cl, T.nt, (by show 0 < 1000; decide), ?_⟩
      have kx : KeepB x H' (upd H' x (.ins C dx (putF "takes" (.int (t : Int)) []))) := KeepB.upd (KeepB.refl _ _)
      have hl2 : SqS K (upd H' x (.ins C dx (putF "takes" (.int (t : Int)) []))) l (ps.map V.int) := hl'.imp (fun e => kx.sqL' hx' (noSeq_ins _ _ _) e) (fun e => kx.sqT' hx' (noSeq_ins _ _ _) e)
      have kH : KeepB x H H' := fun b o e hb => kp b o (s1 b o e) (ne_of_none e hd)
      walk_at "rd"
      refine ⟨l, ps.map V.int, rfl, ?_⟩
      rcases hl2 with hl2 | hl2
      · refine .inl ⟨hl2, fun q hq => ?_⟩
        have nxq : x ≠ q := ne_of_none upd_same hq
        walk_at "rd"
        refine ⟨x, C, dx, _, rfl, by rw [upd_ne nxq]; exact upd_same, T.cl, T.np, (by show 1 < 1000; decide), ?_⟩
        refine k _ q ?_ upd_same ?_
        · exact ((kH.trans kx).new hq).upd
        · exact SqT.of (by rw [upd_ne (Ne.symm nxq)]; exact upd_same)
      · refine .inr ⟨hl2, ?_⟩
        walk_at "rd"
        refine ⟨x, C, dx, _, rfl, upd_same, T.cl, T.np, (by show 1 < 1000; decide), ?_⟩
        have kx2 : KeepB x (upd H' x (.ins C dx (putF "takes" (.int (t : Int)) []))) (upd (upd H' x (.ins C dx (putF "takes" (.int (t : Int)) []))) x (.ins C dx (mfs t l))) := KeepB.upd (KeepB.refl _ _)
        refine k _ l ?_ upd_same ?_
        · exact (kH.trans kx).trans kx2
        · exact kx2.sqT' upd_same (noSeq_ins _ _ _) hl2
end
end MV

namespace MV
open PySem PySem.Spec PyProof.Rows L2 SB MM
local macro_rules | `(tactic| walk_at "rd") => `(tactic| repeat (first | (refine ⟨_, rfl, ?_⟩) | (refine ⟨_, _, rfl, rfl, ?_⟩) | (refine ⟨_, _, rfl, ?_⟩) | (refine ⟨rfl, ?_⟩)))
section
variable {P : Program} {w : World} {K : PySem.W.Frag} {mg : Str → Option Value} {base : Heap} {C : Addr}
theorem sc_m_gaps : FnScope ["self", "place"] ["self"] (defScope s_m_gaps) := ⟨rfl, rfl, rfl, by decide +kernel, rfl, by decide +kernel, by decide +kernel⟩
theorem okf_gaps {f : Addr} {fd : FuncData} (F : Fun K "gaps" "Move.gaps" s_m_gaps f fd) (T : TxtM K mg C) : FnOk P w K mg base CX0 1 f fd ["self"] (spGaps K C) := by
  refine F.ok sc_m_gaps (fun vs H Q E h => ?_) (fun cdv A outer s H vs Q E hr h => ?_)
  · obtain ⟨a, t, ps, rfl, _⟩ := h
    rfl
  · obtain ⟨a, t, ps, rfl, ⟨dx, q, ha, hq⟩, hz, k⟩ := h
    refine ⟨_, (pss_one (ps_ret (pe_callB call_len_seq (by rfl) T.n_len (by decide +kernel) (pa_cons (pe_lc (own := [("place", 1)]) (by rfl) sc_m_gaps.nd (pi_tup (pe_fld (pv 0) (by rfl))) (blkOk_by (own := [("place", 1)]) (N := ["self", "place"]) (sc := defScope s_m_gaps) (by decide +kernel)) (fun _ _ _ _ _ => (pg_name (i := 1) sc_m_gaps.nd rfl (Or.inl rfl))) (fun _ _ _ _ _ => by exact (pts_one (pt_cmpR op_lt (pv 1) pe_int (nomark _)))) (fun _ _ _ _ _ => by exact (pv 1))) pa_nil)))), ?_⟩
    walk_at "rd"
    refine ⟨a, C, dx, _, _, rfl, ha, T.cl, T.np, mfs_places _ _, ?_⟩
    refine ⟨q, rfl, ⟨_, hq⟩, fun D hD => ?_⟩
    have s1 : Same H (upd H D (.lst [])) := same_new (Same.refl H) hD
    refine lc_it (walk_tup (xs := ps.map V.int)) (fun i H' => KeepB D (upd H D (.lst [])) H' ∧ H' D = some (.lst (((ps.take i).filter fun p => decide (p < 0)).map V.int))) ⟨KeepB.refl _ _, upd_same⟩ ?_ ?_ ?_
    · rintro i H' _ ⟨kp, _⟩
      exact kp.sqT upd_same (Same.sqT s1 hq)
    · rintro i x H0 H' hi ⟨kp, hD'⟩ ⟨rfl, hx⟩
      have hi' : i < ps.length := by simpa using hi
      have epi : ps[i]? = some ps[i] := List.getElem?_eq_getElem hi'
      have ex : x = .int ps[i] := by
        rw [List.getElem?_map, epi] at hx
        exact (Option.some.inj hx).symm
      subst ex
      have tk : ps.take (i + 1) = ps.take i ++ [ps[i]] := by rw [List.take_append_getElem hi']
      walk_at "rd"
      refine ite2 (fun c => ?_) (fun c => ?_)
      · have h0 : ps[i] < 0 := of_decide_eq_true c
        walk_at "rd"
        refine ⟨_, hD', ?_, kp.upd, ?_⟩
        · rw [List.length_map]
          have := List.length_filter_le (fun p : Int => decide (p < 0)) (ps.take i)
          rw [List.length_take] at this
          exact Nat.lt_of_le_of_lt (show _ ≤ 100000 by omega) (by decide)
        · rw [upd_same, tk, List.filter_append, List.map_append]
          simp [h0]
      · have h0 : ¬ ps[i] < 0 := fun z => c (decide_eq_true z)
        refine ⟨kp, ?_⟩
        rw [hD', tk, List.filter_append]
        simp [h0]
    · rintro H' ⟨kp, hD'⟩
      rw [List.length_map, List.take_length] at hD'
      refine ⟨D, _, rfl, .inl (SqL.of hD'), ?_⟩
      rw [List.length_map]
      exact k H' fun b o e => kp b o (s1 b o e) (ne_of_none e hD)
end
end MV

namespace MV
open PySem PySem.Spec PyProof.Rows L2 SB MM
local macro_rules | `(tactic| walk_at "rd") => `(tactic| repeat (first | (refine ⟨_, rfl, ?_⟩) | (refine ⟨_, _, rfl, rfl, ?_⟩) | (refine ⟨_, _, rfl, ?_⟩) | (refine ⟨rfl, ?_⟩)))
/-- what the call gives, or its refusals -/
def spCallX (K : PySem.W.Frag) (C CM : Addr) : Sp := fun vs H Q E => ∃ (a v n : Addr) (t : Nat) (ps : List Int) (xs ys : List V), vs = [.ref a, .ref v, .ref n] ∧ MoveAt K C H a t ps ∧ MoveOk t ps ∧ ps.length ≤ 100000 ∧
  SqS K H v xs ∧ SqS K H n ys ∧
  (xs.length = t → ys.length = gapsM ps → ∀ H' p, Same H H' → H p = none → H' p = some (.lst (applyM ps xs ys)) → Q (.ref p) H') ∧
  (xs.length ≠ t → ∀ dd, H dd = none → E (.ref CM) (some dd) (upd H dd (.xd [("got", .int (xs.length : Int)), ("wanted", .int (t : Int))]))) ∧
  (xs.length = t → ys.length ≠ gapsM ps → ∀ H' dd, Same H H' → H' dd = none → E (.ref CM) (some dd) (upd H' dd (.xd [("got", .int (ys.length : Int)), ("wanted", .int (gapsM ps : Int))])))
theorem int_ne {a b : Nat} (c : (!decide (V.int (a : Int) = V.int (b : Int))) = true) : a ≠ b := fun z => by
  rw [z] at c
  simp at c
theorem int_eq {a b : Nat} (c : ¬ (!decide (V.int (a : Int) = V.int (b : Int))) = true) : a = b := by
  by_cases z : a = b
  · exact z
  · exfalso
    apply c
    have z2 : ¬ (V.int (a : Int) = V.int (b : Int)) := fun y => z (by
      have := V.int.inj y
      omega)
    simp [z2]
section
variable {P : Program} {w : World} {K : PySem.W.Frag} {mg : Str → Option Value} {base : Heap} {C CM : Addr}
theorem sc_m_call : FnScope ["self", "values", "new", "result", "used", "place"] ["self", "values", "new"] (defScope s_m_call) := ⟨rfl, rfl, rfl, by decide +kernel, rfl, by decide +kernel, by decide +kernel⟩
theorem ok_callX {f e0 : Addr} {fd : FuncData} (F : FunD K "__call__" "Move.__call__" (defArgs s_m_call) (defBody s_m_call) (defScope s_m_call) [.ref e0] [] f fd) (T : TxtM K mg C) (PRgaps : Pr P w K mg base CX0 1 C "gaps" (spGaps K C)) (XMismatch : Xc P w K mg base 1 "Mismatch" CM ["wanted", "got"]) : FnOk P w K mg base (L2.CX P w) 3 f fd ["self", "values", "new"] (spCallX K C CM) := by
  refine F.ok sc_m_call (fun vs H Q E h => ?_) (fun cdv A outer s H vs Q E hr h => ?_)
  · obtain ⟨a, v, n, t, ps, xs, ys, rfl, _⟩ := h
    rfl
  · obtain ⟨a, v, n, t, ps, xs, ys, rfl, ⟨dx, q, ha, hq⟩, ok, hz, hv, hn, k, k2, k3⟩ := h
    refine ⟨_, (pss_cons (ps_if (pt_cmpR op_ne (pe_callB call_len_seq (by rfl) T.n_len (by decide +kernel) (pa_cons (pv 1) pa_nil)) (pe_fld (pv 0) (by rfl)) (nomark _)) (pss_one (ps_raise rfl (takes_of rfl rfl rfl rfl) (pmk_x XMismatch hr (by decide) (by rfl) (pa_cons (pe_fld (pv 0) (by rfl)) (pa_cons (pe_callB call_len_seq (by rfl) T.n_len (by decide +kernel) (pa_cons (pv 1) pa_nil)) pa_nil))))) pss_nil)
      (pss_cons (ps_if (pt_cmpR op_ne (pe_callB call_len_seq (by rfl) T.n_len (by decide +kernel) (pa_cons (pv 2) pa_nil)) (pe_pr PRgaps hr (by decide) pass0 (pv 0)) (nomark _)) (pss_one (ps_raise rfl (takes_of rfl rfl rfl rfl) (pmk_x XMismatch hr (by decide) (by rfl) (pa_cons (pe_pr PRgaps hr (by decide) pass0 (pv 0)) (pa_cons (pe_callB call_len_seq (by rfl) T.n_len (by decide +kernel) (pa_cons (pv 2) pa_nil)) pa_nil))))) pss_nil)
      (pss_cons (ps_par (i := 3) (j := 4) (by rfl) sc_m_call.nd rfl rfl (by decide) rfl rfl (pa_cons (pe_lst pa_nil) (pa_cons pe_int pa_nil)) (by rfl))
      (pss_cons (ps_for (passes_of rfl) rfl (pi_tup (pe_fld (pv 0) (by rfl))) (pg_name (i := 5) sc_m_call.nd rfl (Or.inl rfl))
        (pss_one (ps_if (pt_cmpR op_lt (pv 5) pe_int (nomark _)) (pss_cons (ps_expr (pe_bm PySem.F.plainAttrs_list PySem.F.slot_list_append PySem.F.type_list_append mt_append (pv 3) (pa_cons (pe_ix ix_seq (pv 2) (pv 4) (fun _ _ => rfl)) pa_nil)))
          (pss_one (ps_aug (i := 4) sc_m_call.nd rfl (Or.inl rfl) pe_int ip_add))) (pss_one (ps_expr (pe_bm PySem.F.plainAttrs_list PySem.F.slot_list_append PySem.F.type_list_append mt_append (pv 3) (pa_cons (pe_ix ix_seq (pv 1) (pv 5) (fun _ _ => rfl)) pa_nil)))))))
      (pss_one (ps_ret (pv 3))))))), ?_⟩
    walk_at "rd"
    refine ⟨v, xs, rfl, hv, ?_⟩
    walk_at "rd"
    refine ⟨a, C, dx, _, _, rfl, ha, T.cl, T.nt, mfs_takes _ _, ?_⟩
    walk_at "rd"
    refine ite2 (fun c => ?_) (fun c => ?_)
    · have ne := int_ne c
      walk_at "rd"
      refine ⟨a, C, dx, _, _, rfl, ha, T.cl, T.nt, mfs_takes _ _, ?_⟩
      walk_at "rd"
      refine ⟨v, xs, rfl, hv, ?_⟩
      exact ⟨rfl, by show 2 ≤ 1000; decide, fun d hd => k2 ne d hd⟩
    have ex := int_eq c
    walk_at "rd"
    refine ⟨n, ys, rfl, hn, ?_⟩
    walk_at "rd"
    refine ⟨a, dx, _, rfl, ha, a, t, ps, rfl, ⟨dx, q, ha, hq⟩, hz, fun H1 s1 => ?_⟩
    walk_at "rd"
    refine ite2 (fun c => ?_) (fun c => ?_)
    · have ne := int_ne c
      walk_at "rd"
      refine ⟨a, dx, _, rfl, s1 _ _ ha, a, t, ps, rfl, ⟨dx, q, s1 _ _ ha, Same.sqT s1 hq⟩, hz, fun H2 s2 => ?_⟩
      walk_at "rd"
      refine ⟨n, ys, rfl, hn.same (s1.trans s2), ?_⟩
      exact ⟨rfl, by show 2 ≤ 1000; decide, fun d hd => k3 ex ne H2 d (s1.trans s2) hd⟩
    have ey := int_eq c
    have k := k ex ey
    have ha1 := s1 _ _ ha
    refine ⟨(by show 0 ≤ sizeLine; decide), fun r hr' => ?_⟩
    have s2 : Same H (upd H1 r (.lst [])) := same_new s1 hr'
    have s12 : Same H1 (upd H1 r (.lst [])) := same_new (Same.refl _) hr'
    walk_at "rd"
    refine ⟨a, C, dx, _, _, rfl, s12 _ _ ha1, T.cl, T.np, mfs_places _ _, ?_⟩
    refine ⟨q, rfl, ⟨_, Same.sqT s2 hq⟩, ?_⟩
    have nr : H r = none := s1.free hr'
    have hvr : v ≠ r ∨ True := .inr trivial
    refine for_it (walk_tup (xs := ps.map V.int)) (fun i σ H' => ∃ (v5 : Option V) (acc : List V) (used : Nat), σ = [some (.ref a), some (.ref v), some (.ref n), some (.ref r), some (.int (used : Int)), v5] ∧ KeepB r (upd H1 r (.lst [])) H' ∧ H' r = some (.lst acc) ∧
      used = gapsM (ps.take i) ∧ acc ++ applyM (ps.drop i) xs (ys.drop used) = applyM ps xs ys ∧ acc.length ≤ i) ?_ ?_ ?_ ?_
    · exact ⟨none, [], 0, rfl, KeepB.refl _ _, upd_same, by simp [gapsM], by simp, Nat.le_refl _⟩
    · rintro i σ H' _ ⟨_, _, _, _, kp, _⟩
      exact kp.sqT upd_same (Same.sqT s2 hq)
    · rintro i x' σ H0 H' hi ⟨v5, acc, used, rfl, kp, hr2, eu, eacc, hlen⟩ ⟨rfl, hx⟩
      have hi' : i < ps.length := by simpa using hi
      have epi : ps[i]? = some ps[i] := List.getElem?_eq_getElem hi'
      have ex' : x' = .int ps[i] := by
        rw [List.getElem?_map, epi] at hx
        exact (Option.some.inj hx).symm
      subst ex'
      have tk : ps.take (i + 1) = ps.take i ++ [ps[i]] := by rw [List.take_append_getElem hi']
      have dr : ps.drop i = ps[i] :: ps.drop (i + 1) := List.drop_eq_getElem_cons hi'
      have bd := ok.at epi
      have sH : Same H H' := fun b o e => kp b o (s2 b o e) (ne_of_none e nr)
      have hlen2 : acc.length < sizeLine := Nat.lt_of_le_of_lt (show _ ≤ 100000 by omega) (by decide)
      have hg : gapsM ps = gapsM (ps.take i) + gapsM (ps.drop i) := by
        have e := List.take_append_drop i ps
        conv => lhs; rw [← e]
        unfold gapsM
        rw [List.filter_append, List.length_append]
      rw [dr, gaps_cons] at hg
      walk_at "rd"
      refine ite2 (fun c => ?_) (fun c => ?_)
      · have h0 : ps[i] < 0 := of_decide_eq_true c
        rw [if_pos h0] at hg
        have hu : used < ys.length := by omega
        walk_at "rd"
        refine ⟨.inl ⟨rfl, _, SqL.of hr2⟩, ?_⟩
        walk_at "rd"
        refine rix_S (hn.same sH) (at_of (j := used) rfl (List.getElem?_eq_getElem hu)) ?_
        refine ⟨r, _, _, rfl, rfl, hr2, hlen2, ?_⟩
        walk_at "rd"
        refine ⟨_, _, used + 1, rfl, kp.upd, upd_same, ?_, ?_, ?_⟩
        · rw [tk, gaps_snoc, if_pos h0, eu]
        · rw [← eacc, dr, List.drop_eq_getElem_cons hu, apply_neg h0, List.append_assoc]
          rfl
        · rw [List.length_append]
          show acc.length + 1 ≤ i + 1
          omega
      · have h0 : ¬ ps[i] < 0 := fun z => c (decide_eq_true z)
        have hl : ps[i].toNat < xs.length := by omega
        walk_at "rd"
        refine ⟨.inl ⟨rfl, _, SqL.of hr2⟩, ?_⟩
        walk_at "rd"
        refine rix_S (hv.same sH) (at_of (j := ps[i].toNat) (by omega) (List.getElem?_eq_getElem hl)) ?_
        refine ⟨r, _, _, rfl, rfl, hr2, hlen2, ?_⟩
        refine ⟨_, _, used, rfl, kp.upd, upd_same, ?_, ?_, ?_⟩
        · rw [tk, gaps_snoc, if_neg h0, eu]
          rfl
        · rw [← eacc, dr, apply_nonneg h0 (List.getElem?_eq_getElem hl), List.append_assoc]
          rfl
        · rw [List.length_append]
          show acc.length + 1 ≤ i + 1
          omega
    · rintro σ H' ⟨v5, acc, used, rfl, kp, hr2, eu, eacc, hlen⟩
      have e0 : ps.drop (ps.map V.int).length = [] := by simp
      rw [e0] at eacc
      have e1 : acc = applyM ps xs ys := by
        have : acc ++ [] = applyM ps xs ys := eacc
        rwa [List.append_nil] at this
      subst e1
      walk_at "rd"
      exact k H' r (fun b o e => kp b o (s2 b o e) (ne_of_none e nr)) nr hr2
theorem call_binds {f e0 : Addr} {fd : FuncData} (F : FunD K "__call__" "Move.__call__" (defArgs s_m_call) (defBody s_m_call) (defScope s_m_call) [.ref e0] [] f fd) : Binds K fd ["self", "values", "new"] [] := by
  obtain ⟨ds, v, b⟩ := F.binds1 (ps := ["self", "values", "new"]) 3 1 (List.cons_ne_nil _ _) rfl fun _ _ _ _ _ _ _ us its hu hi => match us, its, hu, hi with | [_, _, _], [_], _, _ => ⟨_, rfl, rfl⟩
  cases v
  exact b
/-- the call without new values -/
theorem call_binds1 {f e0 : Addr} {fd : FuncData} (F : FunD K "__call__" "Move.__call__" (defArgs s_m_call) (defBody s_m_call) (defScope s_m_call) [.ref e0] [] f fd) : ∃ ds, Vals [.ref e0] ds ∧ Binds K fd ["self", "values", "new"] ds :=
  F.binds1 (ps := ["self", "values", "new"]) 2 0 (List.cons_ne_nil _ _) rfl fun _ _ _ _ _ _ _ us its hu hi => match us, its, hu, hi with | [_, _], [_], _, _ => ⟨_, rfl, rfl⟩
end
end MV

namespace MV
open PySem PySem.Spec PyProof.Rows L2 SB MM
local macro_rules | `(tactic| walk_at "rd") => `(tactic| repeat (first | (refine ⟨_, rfl, ?_⟩) | (refine ⟨_, _, rfl, rfl, ?_⟩) | (refine ⟨_, _, rfl, ?_⟩) | (refine ⟨rfl, ?_⟩)))
abbrev s_of : Stmt := top 13
/-- one of some values -/
def spOf (K : PySem.W.Frag) : Sp := fun vs H Q _ => ∃ (b p : Addr) (l xs : List V) (n : Nat), vs = [.ref b, .ref p] ∧ H b = some (.lst l) ∧ BagL l n ∧ n < 1000000 ∧ H p = some (.lst xs) ∧ p ≠ b ∧ 0 < xs.length ∧ xs.length ≤ 100000 ∧
  ∀ (j : Nat) (x : V) (l' : List V), xs[j]? = some x → BagL l' (n + 1) → Q x (upd H b (.lst l'))
section
variable {P : Program} {w : World} {K : PySem.W.Frag} {mg : Str → Option Value} {base : Heap}
theorem sc_of : FnScope ["_law_bag_here", "_law_some"] ["_law_bag_here", "_law_some"] (defScope s_of) := ⟨rfl, rfl, rfl, by decide +kernel, rfl, by decide +kernel, by decide +kernel⟩
theorem ok_of {f : Addr} {fd : FuncData} (F : Fun K "_law_of" "_law_of" s_of f fd) (T : Blt mg) (Dtake : Cl P w K mg base CX0 1 "_law_take" spTake) : FnR P w K mg base CX0 2 f (spOf K) := by
  refine fnr F sc_of (fun vs H Q E h => ?_) (fun _ _ _ _ _ _ us hl => match us, hl with | [_, _], _ => rfl) (fun cdv A outer s H vs Q E hr h => ?_)
  · obtain ⟨b, p, l, xs, n, rfl, _⟩ := h
    rfl
  · obtain ⟨b, p, l, xs, n, rfl, hb, hl, hn, hp, npb, h0, hz, k⟩ := h
    refine ⟨_, (pss_one (ps_ret (pe_ix ix_list (pv 1) (by exact (pe_cl Dtake hr (by decide) (by rfl) pass0 (pa_cons (pv 0) (pa_cons (pe_callB call_len_seq (by rfl) T.n_len (by decide +kernel) (pa_cons (pv 1) pa_nil)) pa_nil)))) (fun _ _ => rfl)))), ?_⟩
    walk_at "rd"
    refine ⟨p, xs, rfl, .inl (SqL.of hp), ?_⟩
    refine ⟨b, _, l, n, rfl, hb, hl, hn, by omega, by omega, fun r l' r0 r1 hl' => ?_⟩
    have hj : r.toNat < xs.length := by omega
    refine ⟨p, xs, r, xs[r.toNat], rfl, rfl, SqL.of (by rw [upd_ne npb]; exact hp), at_of (j := r.toNat) (by omega) (List.getElem?_eq_getElem hj), ?_⟩
    exact k r.toNat _ l' (List.getElem?_eq_getElem hj) hl'
end
end MV

namespace MV
open PySem PySem.Spec PyProof.Rows L2 SB MM
local macro_rules | `(tactic| walk_at "rd") => `(tactic| repeat (first | (refine ⟨_, rfl, ?_⟩) | (refine ⟨_, _, rfl, rfl, ?_⟩) | (refine ⟨_, _, rfl, ?_⟩) | (refine ⟨rfl, ?_⟩)))
abbrev s_count : Stmt := top 14
def spCount : Sp := fun vs H Q _ => ∃ (b : Addr) (most : Nat) (l : List V) (n : Nat), vs = [.ref b, .int (most : Int)] ∧ H b = some (.lst l) ∧ BagL l n ∧ n + 2 < 1000000 ∧ most ≤ 100000 ∧
  ∀ (r : Nat) (l' : List V), (r ≤ 6 ∨ r ≤ most) → BagL l' (n + 2) → Q (.int (r : Int)) (upd H b (.lst l'))
section
variable {P : Program} {w : World} {K : PySem.W.Frag} {mg : Str → Option Value} {base : Heap}
theorem sc_count : FnScope ["_law_bag_here", "_law_most"] ["_law_bag_here", "_law_most"] (defScope s_count) := ⟨rfl, rfl, rfl, by decide +kernel, rfl, by decide +kernel, by decide +kernel⟩
theorem ok_count {f : Addr} {fd : FuncData} (F : Fun K "_law_count" "_law_count" s_count f fd) (T : Blt mg) (Dtake : Cl P w K mg base CX0 1 "_law_take" spTake) : FnR P w K mg base CX0 2 f spCount := by
  refine fnr F sc_count (fun vs H Q E h => ?_) (fun _ _ _ _ _ _ us hl => match us, hl with | [_, _], _ => rfl) (fun cdv A outer s H vs Q E hr h => ?_)
  · obtain ⟨b, most, l, n, rfl, _⟩ := h
    rfl
  · obtain ⟨b, most, l, n, rfl, hb, hl, hn, hm, k⟩ := h
    refine ⟨_, (pss_one (ps_ret (pe_ifExp (pt_cmpR op_lt (pe_cl Dtake hr (by decide) (by rfl) pass0 (pa_cons (pv 0) (pa_cons pe_int pa_nil))) pe_int (nomark _)) (pe_cl Dtake hr (by decide) (by rfl) pass0 (pa_cons (pv 0) (pa_cons pe_int pa_nil))) (pe_cl Dtake hr (by decide) (by rfl) pass0 (pa_cons (pv 0) (pa_cons (pe_op op_add (pv 1) pe_int) pa_nil)))))), ?_⟩
    walk_at "rd"
    refine ⟨b, 4, l, n, rfl, hb, hl, by omega, by decide, by decide, fun r l1 r0 r1 hl1 => ?_⟩
    walk_at "rd"
    refine ite2 (fun c => ?_) (fun c => ?_)
    · walk_at "rd"
      refine ⟨b, 7, l1, n + 1, rfl, upd_same, hl1, by omega, by decide, by decide, fun r2 l2 h0 h1 hl2 => ?_⟩
      rw [upd_upd]
      obtain ⟨m, rfl⟩ : ∃ m : Nat, r2 = (m : Int) := ⟨r2.toNat, by omega⟩
      exact k m l2 (.inl (by omega)) hl2
    · walk_at "rd"
      refine ⟨b, _, l1, n + 1, rfl, upd_same, hl1, by omega, by omega, by omega, fun r2 l2 h0 h1 hl2 => ?_⟩
      rw [upd_upd]
      obtain ⟨m, rfl⟩ : ∃ m : Nat, r2 = (m : Int) := ⟨r2.toNat, by omega⟩
      exact k m l2 (.inr (by omega)) hl2
end
end MV

namespace MV
open PySem PySem.Spec PyProof.Rows L2 SB MM
local macro_rules | `(tactic| walk_at "rd") => `(tactic| repeat (first | (refine ⟨_, rfl, ?_⟩) | (refine ⟨_, _, rfl, rfl, ?_⟩) | (refine ⟨_, _, rfl, ?_⟩) | (refine ⟨rfl, ?_⟩)))
abbrev s_places : Stmt := top 15
def spPlaces : Sp := fun vs H Q _ => ∃ (b : Addr) (t g : Nat) (l : List V) (n : Nat), vs = [.ref b, .int (t : Int), .int (g : Int)] ∧ H b = some (.lst l) ∧ BagL l n ∧ n + t + g + 2 < 1000000 ∧ t ≤ 10000 ∧ g ≤ 10000 ∧
  ∀ (H' : Hp) (p : Addr) (l' : List V) (ps : List Int), KeepB b H H' → H' b = some (.lst l') → BagL l' (n + t + g + 2) → H p = none → H' p = some (.lst (ps.map V.int)) → MoveOk t ps → ps.length ≤ t + g → Q (.ref p) H'
section
variable {P : Program} {w : World} {K : PySem.W.Frag} {mg : Str → Option Value} {base : Heap}
theorem sc_places : FnScope ["_law_bag_here", "_law_takes", "_law_most_gaps", "_law_left", "_law_places_here", "_law_turn"] ["_law_bag_here", "_law_takes", "_law_most_gaps"] (defScope s_places) := ⟨rfl, rfl, rfl, by decide +kernel, rfl, by decide +kernel, by decide +kernel⟩
theorem ok_places {f : Addr} {fd : FuncData} (F : Fun K "_law_places" "_law_places" s_places f fd) (T : Blt mg) (Dtake : Cl P w K mg base CX0 1 "_law_take" spTake) : FnR P w K mg base CX0 2 f spPlaces := by
  refine fnr F sc_places (fun vs H Q E h => ?_) (fun _ _ _ _ _ _ us hl => match us, hl with | [_, _, _], _ => rfl) (fun cdv A outer s H vs Q E hr h => ?_)
  · obtain ⟨b, t, g, l, n, rfl, _⟩ := h
    rfl
  · obtain ⟨b, t, g, l, n, rfl, hb, hl, hn, ht, hg, k⟩ := h
    refine ⟨_, (pss_cons (ps_par (i := 3) (j := 4) (by rfl) sc_places.nd rfl rfl (by decide) rfl rfl (pa_cons (pe_listRg rfl (by rfl) T.n_list (prg_1 (by rfl) T.n_range (pv 1))) (pa_cons (pe_lst pa_nil) pa_nil)) (by rfl))
      (pss_cons (ps_for PassesOwn.never rfl (pi_range1 (by rfl) T.n_range (pa_cons (pe_cl Dtake hr (by decide) (by rfl) pass0 (pa_cons (pv 0) (pa_cons (pe_op op_add (pv 1) pe_int) pa_nil))) pa_nil)) (pg_name (i := 5) sc_places.nd rfl (Or.inl rfl))
        (pss_one (ps_expr (pe_bm PySem.F.plainAttrs_list PySem.F.slot_list_append PySem.F.type_list_append mt_append (pv 4) (pa_cons (pe_bm PySem.F.plainAttrs_list PySem.F.slot_list_pop PySem.F.type_list_pop mt_popAt (pv 3) (pa_cons (pe_cl Dtake hr (by decide) (by rfl) pass0 (pa_cons (pv 0) (pa_cons (pe_callB call_len_seq (by rfl) T.n_len (by decide +kernel) (pa_cons (pv 3) pa_nil)) pa_nil))) pa_nil)) pa_nil)))))
      (pss_cons (ps_for PassesOwn.never rfl (pi_range1 (by rfl) T.n_range (pa_cons (pe_cl Dtake hr (by decide) (by rfl) pass0 (pa_cons (pv 0) (pa_cons (pe_op op_add (pv 2) pe_int) pa_nil))) pa_nil)) (pg_name (i := 5) sc_places.nd rfl (Or.inl rfl))
        (pss_one (ps_expr (pe_bm PySem.F.plainAttrs_list PySem.F.slot_list_insert PySem.F.type_list_insert mt_insert (pv 4) (pa_cons (pe_cl Dtake hr (by decide) (by rfl) pass0 (pa_cons (pv 0) (pa_cons (pe_op op_add (pe_callB call_len_seq (by rfl) T.n_len (by decide +kernel) (pa_cons (pv 4) pa_nil)) pe_int) pa_nil))) (pa_cons (pe_un un_neg pe_int) pa_nil))))))
      (pss_one (ps_ret (pv 4)))))), ?_⟩
    walk_at "rd"
    refine ⟨RgOk.of_le (by omega) (by omega) (by omega) (by omega), fun lf hlf => ?_⟩
    refine ⟨(by show 0 ≤ sizeLine; decide), fun p hp => ?_⟩
    have e0 : rgV 0 (t : Int) = (stillM t).map V.int := by
      unfold rgV stillM
      simp
    rw [e0] at hp ⊢
    have nbf : b ≠ lf := ne_of_none hb hlf
    have hb1 : (upd H lf (.lst ((stillM t).map V.int))) b = some (.lst l) := by rw [upd_ne nbf]; exact hb
    have nbp : b ≠ p := ne_of_none hb1 hp
    have nfp : lf ≠ p := ne_of_none upd_same hp
    have np0 : H p = none := (same_new (Same.refl H) hlf).free hp
    walk_at "rd"
    refine ⟨b, _, l, n, rfl, by rw [upd_ne nbp]; exact hb1, hl, by omega, by omega, by omega, fun r l1 r0 r1 hl1 => ?_⟩
    obtain ⟨r, rfl⟩ : ∃ m : Nat, r = (m : Int) := ⟨r.toNat, by omega⟩
    refine ⟨_, rfl, by omega, by omega, ?_⟩
    rw [Int.toNat_natCast]
    refine for_it walk_range (fun i σ H' => ∃ (v5 : Option V) (l' : List V) (L ps : List Int), σ = [some (.ref b), some (.int (t : Int)), some (.int (g : Int)), some (.ref lf), some (.ref p), v5] ∧ (∀ c o, H c = some o → c ≠ b → H' c = some o) ∧ H' b = some (.lst l') ∧ BagL l' (n + 1 + i) ∧
      H' lf = some (.lst (L.map V.int)) ∧ H' p = some (.lst (ps.map V.int)) ∧ SomeOf t ps L ∧ ps.length = i) ?_ (fun _ _ _ _ _ => trivial) ?_ ?_
    · refine ⟨none, l1, stillM t, [], rfl, fun c o e hc => ?_, upd_same, hl1, ?_, ?_, someOf_start t, rfl⟩
      · rw [upd_ne hc, upd_ne (ne_of_none e np0), upd_ne (ne_of_none e hlf)]
        exact e
      · rw [upd_ne (Ne.symm nbf), upd_ne nfp]
        exact upd_same
      · rw [upd_ne (Ne.symm nbp)]
        exact upd_same
    · rintro i x σ H0 H' hi ⟨v5, l', L, ps, rfl, kp, hb', hl', hf', hp', so, hlen⟩ ⟨rfl, rfl⟩
      have hs := someOf_length so
      walk_at "rd"
      refine ⟨.inl ⟨rfl, _, SqL.of hp'⟩, ?_⟩
      walk_at "rd"
      refine ⟨.inl ⟨rfl, _, SqL.of hf'⟩, ?_⟩
      walk_at "rd"
      refine ⟨lf, _, rfl, .inl (SqL.of hf'), ?_⟩
      rw [List.length_map]
      refine ⟨b, _, l', n + 1 + i, rfl, hb', hl', by omega, by omega, by omega, fun r2 l2 h0 h1 hl2 => ?_⟩
      obtain ⟨m, rfl⟩ : ∃ m : Nat, r2 = (m : Int) := ⟨r2.toNat, by omega⟩
      have hm : m < L.length := by omega
      have em : L[m]? = some L[m] := List.getElem?_eq_getElem hm
      refine ⟨lf, _, m, m, .int L[m], rfl, rfl, by rw [upd_ne (Ne.symm nbf)]; exact hf', by omega, by omega, ?_, by rw [List.getElem?_map, em]; rfl, ?_⟩
      · rw [List.length_map]; exact seqIdx_nat hm
      refine ⟨p, _, _, rfl, rfl, by rw [upd_ne (Ne.symm nfp), upd_ne (Ne.symm nbp)]; exact hp', ?_, ?_⟩
      · rw [List.length_map]
        exact Nat.lt_of_le_of_lt (show _ ≤ 100000 by omega) (by decide)
      refine ⟨_, l2, L.eraseIdx m, ps ++ [L[m]], rfl, fun c o e hc => ?_, ?_, hl2, ?_, ?_, someOf_step so em, by rw [List.length_append, hlen]; rfl⟩
      · rw [upd_ne (ne_of_none e np0), upd_ne (ne_of_none e hlf), upd_ne hc]
        exact kp c o e hc
      · rw [upd_ne nbp, upd_ne nbf]
        exact upd_same
      · rw [upd_ne nfp, upd_same, map_eraseI]
      · rw [upd_same, List.map_append]
        rfl
    · rintro σ H' ⟨v5, l', L, ps, rfl, kp, hb', hl', hf', hp', so, hlen⟩
      have hs := someOf_length so
      walk_at "rd"
      refine ⟨b, _, l', n + 1 + r, rfl, hb', hl', by omega, by omega, by omega, fun r2 l2 h0 h1 hl2 => ?_⟩
      obtain ⟨m, rfl⟩ : ∃ m : Nat, r2 = (m : Int) := ⟨r2.toNat, by omega⟩
      refine ⟨_, rfl, by omega, by omega, ?_⟩
      rw [Int.toNat_natCast]
      refine for_it walk_range (fun i σ H2 => ∃ (v5 : Option V) (l' : List V) (qs : List Int), σ = [some (.ref b), some (.int (t : Int)), some (.int (g : Int)), some (.ref lf), some (.ref p), v5] ∧ (∀ c o, H c = some o → c ≠ b → H2 c = some o) ∧ H2 b = some (.lst l') ∧ BagL l' (n + 2 + r + i) ∧
        H2 p = some (.lst (qs.map V.int)) ∧ MoveOk t qs ∧ qs.length = r + i) ?_ (fun _ _ _ _ _ => trivial) ?_ ?_
      · refine ⟨_, l2, ps, rfl, fun c o e hc => ?_, upd_same, hl2.mono (by omega), ?_, someOf_ok so, hlen⟩
        · rw [upd_ne hc]
          exact kp c o e hc
        · rw [upd_ne (Ne.symm nbp)]
          exact hp'
      · rintro i x σ H0 H2 hi ⟨v5, l', qs, rfl, kp2, hb2, hl2, hp2, ok, hlen2⟩ ⟨rfl, rfl⟩
        walk_at "rd"
        refine ⟨.inl ⟨rfl, _, SqL.of hp2⟩, ?_⟩
        walk_at "rd"
        refine ⟨p, _, rfl, .inl (SqL.of hp2), ?_⟩
        rw [List.length_map]
        walk_at "rd"
        refine ⟨b, _, l', n + 2 + r + i, rfl, hb2, hl2, by omega, by omega, by omega, fun r3 l3 h0 h1 hl3 => ?_⟩
        obtain ⟨j, rfl⟩ : ∃ m : Nat, r3 = (m : Int) := ⟨r3.toNat, by omega⟩
        walk_at "rd"
        refine ⟨p, _, (j : Int), _, rfl, rfl, by rw [upd_ne (Ne.symm nbp)]; exact hp2, ?_, by omega, by omega, ?_⟩
        · rw [List.length_map]
          exact lt_line (by omega)
        refine ⟨_, l3, qs.take j ++ [-1] ++ qs.drop j, rfl, fun c o e hc => ?_, ?_, hl3, ?_, ok_insert ok j, ?_⟩
        · rw [upd_ne (ne_of_none e np0), upd_ne hc]
          exact kp2 c o e hc
        · rw [upd_ne nbp]
          exact upd_same
        · rw [upd_same, Int.toNat_natCast, List.map_append, List.map_append, List.map_take, List.map_drop]
          rfl
        · rw [List.length_append, List.length_append, List.length_take, List.length_drop, List.length_singleton]
          omega
      · rintro σ H2 ⟨v5, l', qs, rfl, kp2, hb2, hl2, hp2, ok, hlen2⟩
        walk_at "rd"
        exact k H2 p l' qs kp2 hb2 (hl2.mono (by omega)) np0 hp2 ok (by omega)
end
end MV

namespace MV
open PySem PySem.Spec PyProof.Rows L2 SB MM
local macro_rules | `(tactic| walk_at "rd") => `(tactic| repeat (first | (refine ⟨_, rfl, ?_⟩) | (refine ⟨_, _, rfl, rfl, ?_⟩) | (refine ⟨_, _, rfl, ?_⟩) | (refine ⟨rfl, ?_⟩)))
abbrev s_values : Stmt := top 16
def spValues (K : PySem.W.Frag) : Sp := fun vs H Q _ => ∃ (b : Addr) (many : Nat) (mark : Str) (l : List V) (n : Nat), vs = [.ref b, .int (many : Int), .str mark] ∧ H b = some (.lst l) ∧ BagL l n ∧ n + many + 1 < 1000000 ∧ many ≤ 10000 ∧ PyData.strOk mark = true ∧ mark.length ≤ 100 ∧
  ∀ (H' : Hp) (p : Addr) (l' xs : List V) (ds : List PyData), KeepB b H H' → H' b = some (.lst l') → BagL l' (n + many) → H p = none → H' p = some (.lst xs) → xs.length = many → DpAll K (Wo H' [b, p]) xs ds → (∀ d ∈ ds, Sh d) → Q (.ref p) H'
section
variable {P : Program} {w : World} {K : PySem.W.Frag} {mg : Str → Option Value} {base : Heap}
theorem sc_values : FnScope ["_law_bag_here", "_law_many", "_law_mark", "_law_found", "_law_k"] ["_law_bag_here", "_law_many", "_law_mark"] (defScope s_values) := ⟨rfl, rfl, rfl, by decide +kernel, rfl, by decide +kernel, by decide +kernel⟩
theorem ok_values {f : Addr} {fd : FuncData} (F : Fun K "_law_values" "_law_values" s_values f fd) (T : Blt mg) (Dof : Cl P w K mg base CX0 2 "_law_of" (spOf K)) : FnR P w K mg base CX0 3 f (spValues K) := by
  refine fnr F sc_values (fun vs H Q E h => ?_) (fun _ _ _ _ _ _ us hl => match us, hl with | [_, _, _], _ => rfl) (fun cdv A outer s H vs Q E hr h => ?_)
  · obtain ⟨b, many, mark, l, n, rfl, _⟩ := h
    rfl
  · obtain ⟨b, many, mark, l, n, rfl, hb, hl, hn, hm, hok, hml, k⟩ := h
    refine ⟨_, (pss_cons (ps_set (i := 3) sc_values.nd rfl (Or.inl rfl) (pe_lst pa_nil))
      (pss_cons (ps_for PassesOwn.never rfl (pi_range1 (by rfl) T.n_range (pa_cons (pv 1) pa_nil)) (pg_name (i := 4) sc_values.nd rfl (Or.inl rfl))
        (pss_one (ps_expr (pe_bm PySem.F.plainAttrs_list PySem.F.slot_list_append PySem.F.type_list_append mt_append (pv 3) (pa_cons (pe_cl Dof hr (by decide) (by rfl) pass0 (pa_cons (pv 0) (pa_cons (pe_lst (pa_cons (pe_tup (pa_cons (pv 2) (pa_cons (pv 4) pa_nil))) (pa_cons (pe_lst (pa_cons (pv 2) (pa_cons (pv 4) pa_nil))) (pa_cons (pe_op op_add_str (pv 2) (pe_callTy call_str_int (by rfl) T.n_str (by decide +kernel) (pa_cons (pv 4) pa_nil))) (pa_cons (pe_tup (pa_cons (pv 4) (pa_cons pe_non (pa_cons pe_bl (pa_cons (pv 2) pa_nil))))) pa_nil))))) pa_nil))) pa_nil)))))
      (pss_one (ps_ret (pv 3))))), ?_⟩
    refine ⟨(by show 0 ≤ sizeLine; decide), fun p hp => ?_⟩
    have nbp : b ≠ p := ne_of_none hb hp
    have s1 : Same H (upd H p (.lst [])) := same_new (Same.refl H) hp
    walk_at "rd"
    refine ⟨by omega, by omega, ?_⟩
    rw [Int.toNat_natCast]
    refine for_it walk_range (fun i σ H' => ∃ (v5 : Option V) (l' xs : List V) (ds : List PyData), σ = [some (.ref b), some (.int (many : Int)), some (.str mark), some (.ref p), v5] ∧ KeepB b H H' ∧ H' b = some (.lst l') ∧ BagL l' (n + i) ∧ H' p = some (.lst xs) ∧ xs.length = i ∧ DpAll K (Wo H' [b, p]) xs ds ∧ (∀ d ∈ ds, Sh d)) ?_ (fun _ _ _ _ _ => trivial) ?_ ?_
    · exact ⟨none, l, [], [], rfl, KeepB.of_same s1, s1 _ _ hb, hl, upd_same, rfl, .nil, fun _ h => nomatch h⟩
    · rintro i x σ H0 H' hi ⟨v5, l', xs, ds, rfl, kp, hb', hl', hp', hlen, hd, hsh⟩ ⟨rfl, rfl⟩
      walk_at "rd"
      refine ⟨.inl ⟨rfl, _, SqL.of hp'⟩, ?_⟩
      walk_at "rd"
      refine ⟨(by show 2 ≤ sizeLine; decide), fun T1 hT1 => ?_⟩
      walk_at "rd"
      refine ⟨(by show 2 ≤ sizeLine; decide), fun T2 hT2 => ?_⟩
      walk_at "rd"
      have hlog : ((0 : Int) + i).natAbs.log2 < 1920 := Nat.lt_of_lt_of_le (PySem.Flt.log2_lt_of (k := 20) (by decide) (by omega)) (by decide)
      refine ⟨hlog, ?_⟩
      walk_at "rd"
      have htl := int_text_len_1921 hlog
      refine ⟨le_line (by omega), ?_⟩
      walk_at "rd"
      refine ⟨(by show 4 ≤ sizeLine; decide), fun T3 hT3 => ?_⟩
      refine ⟨(by show 4 ≤ sizeLine; decide), fun T4 hT4 => ?_⟩
      have b1 := same_new (o := .tup [.str mark, .int ((0 : Int) + i)]) (Same.refl H') hT1
      have b2 := same_new (o := .lst [.str mark, .int ((0 : Int) + i)]) b1 hT2
      have b3 := same_new (o := .tup [.int ((0 : Int) + i), .non, .bl true, .str mark]) b2 hT3
      have b4 := same_new (o := .lst [.ref T1, .ref T2, .str (mark ++ Str.ofString (toString ((0 : Int) + i))), .ref T3]) b3 hT4
      have n1 : H' T1 = none := hT1
      have n2 : H' T2 = none := b1.free hT2
      have n3 : H' T3 = none := b2.free hT3
      have n4 : H' T4 = none := b3.free hT4
      have hb4 := b4 _ _ hb'
      have hp4 := b4 _ _ hp'
      have nb1 : T1 ∉ [b, p] := by
        have := ne_of_none hb' n1
        have := ne_of_none hp' n1
        simp; exact ⟨fun z => by simp_all, fun z => by simp_all⟩
      have nb2 : T2 ∉ [b, p] := by
        have := ne_of_none hb' n2
        have := ne_of_none hp' n2
        simp; exact ⟨fun z => by simp_all, fun z => by simp_all⟩
      have nb3 : T3 ∉ [b, p] := by
        have := ne_of_none hb' n3
        have := ne_of_none hp' n3
        simp; exact ⟨fun z => by simp_all, fun z => by simp_all⟩
      have t1 := same_new (o := .lst [.ref T1, .ref T2, .str (mark ++ Str.ofString (toString ((0 : Int) + i))), .ref T3]) (same_new (o := .tup [.int ((0 : Int) + i), .non, .bl true, .str mark]) (same_new (o := .lst [.str mark, .int ((0 : Int) + i)]) (Same.refl _) hT2) hT3) hT4 T1 _ upd_same
      have t2 := same_new (o := .lst [.ref T1, .ref T2, .str (mark ++ Str.ofString (toString ((0 : Int) + i))), .ref T3]) (same_new (o := .tup [.int ((0 : Int) + i), .non, .bl true, .str mark]) (Same.refl _) hT3) hT4 T2 _ upd_same
      have t3 := same_new (o := .lst [.ref T1, .ref T2, .str (mark ++ Str.ofString (toString ((0 : Int) + i))), .ref T3]) (Same.refl _) hT4 T3 _ upd_same
      refine ⟨b, T4, l', _, n + i, rfl, hb4, hl', by omega, upd_same, (ne_of_none hb' n4).symm, (by show 0 < 4; decide), (by show 4 ≤ 100000; decide), fun j x l2 hx hl2 => ?_⟩
      have nbp' : p ≠ b := nbp.symm
      refine ⟨p, xs, x, rfl, rfl, by rw [upd_ne nbp']; exact hp4, lt_line (by omega), ?_⟩
      have key : ∃ d, Sh d ∧ Dp K (Wo (upd (upd (upd (upd H' T1 (.tup [.str mark, .int ((0 : Int) + i)])) T2 (.lst [.str mark, .int ((0 : Int) + i)])) T3 (.tup [.int ((0 : Int) + i), .non, .bl true, .str mark])) T4 (.lst [.ref T1, .ref T2, .str (mark ++ Str.ofString (toString ((0 : Int) + i))), .ref T3])) [b, p]) x d := by
        have hs1 : PyData.canLay0 (.str mark) = true := hok
        match j, hx with
        | 0, hx =>
          have ex : V.ref T1 = x := Option.some.inj hx
          subst ex
          exact ⟨.tuple [.str mark, .int ((0 : Int) + i)], (sh_seq (k := 0) (by intro d hd; simp at hd; rcases hd with rfl | rfl <;> first | exact ⟨hs1, Nat.le_refl _⟩ | exact ⟨rfl, Nat.le_refl _⟩) (by decide)).2, .tup (SqT.of (wo_at t1 nb1)) (.cons (.str _) (.cons (.int _) .nil))⟩
        | 1, hx =>
          have ex : V.ref T2 = x := Option.some.inj hx
          subst ex
          exact ⟨.list [.str mark, .int ((0 : Int) + i)], (sh_seq (k := 0) (by intro d hd; simp at hd; rcases hd with rfl | rfl <;> first | exact ⟨hs1, Nat.le_refl _⟩ | exact ⟨rfl, Nat.le_refl _⟩) (by decide)).1, .lst (SqL.of (wo_at t2 nb2)) (.cons (.str _) (.cons (.int _) .nil))⟩
        | 2, hx =>
          have ex : V.str (mark ++ Str.ofString (toString ((0 : Int) + i))) = x := Option.some.inj hx
          subst ex
          exact ⟨.str (mark ++ Str.ofString (toString ((0 : Int) + i))), ⟨strOk_app _ _ hok (strOk_of _), Nat.zero_le _⟩, .str _⟩
        | 3, hx =>
          have ex : V.ref T3 = x := Option.some.inj hx
          subst ex
          exact ⟨.tuple [.int ((0 : Int) + i), .none, .bool true, .str mark], (sh_seq (k := 0) (by intro d hd; simp at hd; rcases hd with rfl | rfl | rfl | rfl <;> first | exact ⟨hs1, Nat.le_refl _⟩ | exact ⟨rfl, Nat.le_refl _⟩) (by decide)).2, .tup (SqT.of (wo_at t3 nb3)) (.cons (.int _) (.cons .non (.cons (.bl _) (.cons (.str _) .nil))))⟩
        | j + 4, hx => simp at hx
      obtain ⟨d, hd1, hd2⟩ := key
      have w2 := wo_mono (bs := [b, p]) (H' := upd (upd (upd (upd (upd (upd H' T1 (.tup [.str mark, .int ((0 : Int) + i)])) T2 (.lst [.str mark, .int ((0 : Int) + i)])) T3 (.tup [.int ((0 : Int) + i), .non, .bl true, .str mark])) T4 (.lst [.ref T1, .ref T2, .str (mark ++ Str.ofString (toString ((0 : Int) + i))), .ref T3])) b (.lst l2)) p (.lst (xs ++ [x])))
        (fun c o (e : (upd (upd (upd (upd H' T1 (.tup [.str mark, .int ((0 : Int) + i)])) T2 (.lst [.str mark, .int ((0 : Int) + i)])) T3 (.tup [.int ((0 : Int) + i), .non, .bl true, .str mark])) T4 (.lst [.ref T1, .ref T2, .str (mark ++ Str.ofString (toString ((0 : Int) + i))), .ref T3])) c = some o) hc => by
          have h1 : c ≠ p := fun z => hc (by simp [z])
          have h2 : c ≠ b := fun z => hc (by simp [z])
          rw [upd_ne h1, upd_ne h2]
          exact e)
      refine ⟨_, l2, xs ++ [x], ds ++ [d], rfl, fun c o e hc => ?_, ?_, hl2, upd_same, by rw [List.length_append, hlen]; rfl, SB.DpAll.snoc (DpAll.mono ((wo_mono fun c o e _ => b4 c o e).trans w2) hd) (Dp.mono w2 hd2), fun e he => ?_⟩
      · rw [upd_ne (ne_of_none e hp), upd_ne hc]
        exact b4 c o (kp c o e hc)
      · rw [upd_ne nbp]
        exact upd_same
      · rcases List.mem_append.mp he with he | he
        · exact hsh e he
        · have : e = d := by simpa using he
          rw [this]; exact hd1
    · rintro σ H' ⟨v5, l', xs, ds, rfl, kp, hb', hl', hp', hlen, hd, hsh⟩
      walk_at "rd"
      exact k H' p l' xs ds kp hb' hl' hp hp' hlen hd hsh
end
end MV

namespace MV
open PySem PySem.Spec PyProof.Rows L2 SB MM
local macro_rules | `(tactic| walk_at "rd") => `(tactic| repeat (first | (refine ⟨_, rfl, ?_⟩) | (refine ⟨_, _, rfl, rfl, ?_⟩) | (refine ⟨_, _, rfl, ?_⟩) | (refine ⟨rfl, ?_⟩)))
theorem dpAll_apply {K : PySem.W.Frag} {H : Hp} : ∀ (ps : List Int) {xs ys : List V} {ds es : List PyData}, DpAll K H xs ds → DpAll K H ys es → DpAll K H (applyM ps xs ys) (applyM ps ds es)
  | [], _, _, _, _, _, _ => .nil
  | p :: ps, xs, ys, ds, es, h1, h2 => by
    unfold applyM
    by_cases c : p < 0
    · rw [if_pos c, if_pos c]
      cases h2 with
      | nil => exact dpAll_apply ps h1 .nil
      | cons a b => exact .cons a (dpAll_apply ps h1 b)
    · rw [if_neg c, if_neg c]
      cases e : xs[p.toNat]? with
      | none =>
        have e2 : ds[p.toNat]? = none := by
          have hl := SB.DpAll.length h1
          exact List.getElem?_eq_none_iff.mpr (by rw [← hl]; exact List.getElem?_eq_none_iff.mp e)
        rw [e2]
        exact dpAll_apply ps h1 h2
      | some x =>
        obtain ⟨d, hd, hx⟩ := SB.DpAll.get h1 e
        rw [hd]
        exact .cons hx (dpAll_apply ps h1 h2)
end MV

namespace MV
open PySem PySem.Spec PyProof.Rows L2 SB MM LamX
local macro_rules | `(tactic| walk_at "rd") => `(tactic| repeat (first | (refine ⟨_, rfl, ?_⟩) | (refine ⟨_, _, rfl, rfl, ?_⟩) | (refine ⟨_, _, rfl, ?_⟩) | (refine ⟨rfl, ?_⟩)))
/-! what stays where only tables of code objects change -/
section
variable {K : PySem.W.Frag} {H H' : Hp}
theorem ext_sqL {a : Addr} {xs : List V} (e : ExtN H H') (h : SqL K H a xs) : SqL K H' a xs := by
  rcases h with (h | ⟨o, h⟩) | h
  · exact .inl (.inl (e _ _ h fun _ z => by cases z))
  · exact .inl (.inr ⟨o, e _ _ h fun _ z => by cases z⟩)
  · exact .inr h
theorem ext_sqT {a : Addr} {xs : List V} (e : ExtN H H') (h : SqT K H a xs) : SqT K H' a xs := by
  rcases h with (h | ⟨o, h⟩) | h
  · exact .inl (.inl (e _ _ h fun _ z => by cases z))
  · exact .inl (.inr ⟨o, e _ _ h fun _ z => by cases z⟩)
  · exact .inr h
mutual
theorem dp_ext (e : ExtN H H') : ∀ {v : V} {d : PyData}, Dp K H v d → Dp K H' v d
  | _, _, .non => .non
  | _, _, .bl b => .bl b
  | _, _, .int i => .int i
  | _, _, .str x => .str x
  | _, _, .lst h q => .lst (ext_sqL e h) (dpAll_ext e q)
  | _, _, .tup h q => .tup (ext_sqT e h) (dpAll_ext e q)
theorem dpAll_ext (e : ExtN H H') : ∀ {vs : List V} {ds : List PyData}, DpAll K H vs ds → DpAll K H' vs ds
  | _, _, .nil => .nil
  | _, _, .cons h q => .cons (dp_ext e h) (dpAll_ext e q)
end
theorem MoveAt.ext {C : Addr} {a : Addr} {t : Nat} {ps : List Int} (m : MoveAt K C H a t ps) (e : ExtN H H') : MoveAt K C H' a t ps := by
  obtain ⟨dx, q, h1, h2⟩ := m
  exact ⟨dx, q, e _ _ h1 (fun _ z => by cases z), ext_sqT e h2⟩
theorem tabs_same {T : List (Addr × Str)} (t : Tabs T H) (e : Same H H') : Tabs T H' := t.ext e
theorem ext_same (e : Same H H') : ExtN H H' := ExtN.of e
end
end MV

namespace MV
open PySem PySem.Spec PyProof.Rows L2 SB MM LamX
local macro_rules | `(tactic| walk_at "rd") => `(tactic| repeat (first | (refine ⟨_, rfl, ?_⟩) | (refine ⟨_, _, rfl, rfl, ?_⟩) | (refine ⟨_, _, rfl, ?_⟩) | (refine ⟨rfl, ?_⟩)))
abbrev s_refused : Stmt := top 17
abbrev s_BadMove : Stmt := inClass (top 3) 0
abbrev s_NoPlace : Stmt := inClass (top 4) 0
abbrev s_Mismatch : Stmt := inClass (top 5) 0
section
variable {P : Program} {w : World} {K : PySem.W.Frag} {mg : Str → Option Value} {base : Heap} {CB CN CM g : Addr}
theorem sc_refused : FnScope ["_law_deed", "e"] ["_law_deed"] (defScope s_refused) := ⟨rfl, rfl, rfl, by decide +kernel, rfl, by decide +kernel, by decide +kernel⟩
theorem rf_moves {oc kV doc pm cdv ct : Value} {od an : Option Addr} {osl : Array (Option Value)} (lk : K.lookup g = some ⟨oc, od, .func (PySem.W.fnOf "_law_refused" "_law_refused" (defArgs s_refused) (defBody s_refused) (defScope s_refused) .none kV doc pm an cdv ct), osl⟩) (hcd : PySem.W.codeIn K cdv "_law_refused" = true)
    (hkp : PySem.W.keepIn K (.ref g) = true) (hm : mg "_law_refused" = some (.ref g)) (mB : mg "BadMove" = some (.ref CB)) (mN : mg "NoPlace" = some (.ref CN)) (mM : mg "Mismatch" = some (.ref CM)) (xB : XfC K CB) (xN : XfC K CN) (xM : XfC K CM)
    (nB : PySem.W.findIn K (.ref CB) "at" = some none) (nN : PySem.W.findIn K (.ref CN) "place" = some none) (nM : PySem.W.findIn K (.ref CM) "wanted" = some none) (nM2 : PySem.W.findIn K (.ref CM) "got" = some none)
    (hex : exAll K [CB, CN, CM] = true) (hnd : [CB, CN, CM].Nodup) : Rf P w K mg base "_law_refused" [(CB, "BadMove", ["at"]), (CN, "NoPlace", ["place"]), (CM, "Mismatch", ["wanted", "got"])] := by
  refine ⟨g, oc, od, osl, _, _, _, .none, kV, doc, pm, cdv, ct, an, "_law_deed", ["_law_deed", "e"], hm, hkp, lk, hcd, .all fun us hl => match us, hl with | [_], _ => rfl, sc_refused, rfl, .inl rfl, by decide, by decide, fun X q e1 e2 e3 e4 e5 => ?_⟩
  subst e1 e2 e3 e4 e5
  refine ref_gives (hds := [_, _]) (n := "e") rfl sc_refused.nd rfl hex hnd (fun s H => ?_) (fun _ => rfl)
  refine hd1 rfl rfl (.inl rfl) ⟨rfl, by decide, .inl mB⟩ xB nB (by decide) (by decide) ?_
  refine hd1 rfl rfl (.inl rfl) ⟨rfl, by decide, .inl mN⟩ xN nN (by decide) (by decide) ?_
  exact hd2 rfl rfl (.inl rfl) ⟨rfl, by decide, .inl mM⟩ xM nM nM2 (by decide) (by decide) .nil
end
end MV

namespace MV
open PySem PySem.Spec PyProof.Rows L2 SB MM LamX
local macro_rules | `(tactic| walk_at "rd") => `(tactic| repeat (first | (refine ⟨_, rfl, ?_⟩) | (refine ⟨_, _, rfl, rfl, ?_⟩) | (refine ⟨_, _, rfl, ?_⟩) | (refine ⟨rfl, ?_⟩)))
abbrev s_due : Stmt := top 18
def spDue (K : PySem.W.Frag) : Sp := fun vs H Q _ => ∃ (pl v n : Addr) (ps : List Int) (xs ys : List V), vs = [.ref pl, .ref v, .ref n] ∧ SqL K H pl (ps.map V.int) ∧ SqL K H v xs ∧ SqL K H n ys ∧ MoveOk xs.length ps ∧ ys.length = gapsM ps ∧ ps.length ≤ 100000 ∧
  ∀ H' p, Same H H' → H p = none → H' p = some (.lst (applyM ps xs ys)) → Q (.ref p) H'
section
variable {P : Program} {w : World} {K : PySem.W.Frag} {mg : Str → Option Value} {base : Heap}
theorem sc_due : FnScope ["_law_places_here", "_law_values_here", "_law_new", "_law_found", "_law_used", "_law_place"] ["_law_places_here", "_law_values_here", "_law_new"] (defScope s_due) := ⟨rfl, rfl, rfl, by decide +kernel, rfl, by decide +kernel, by decide +kernel⟩
theorem ok_due {f : Addr} {fd : FuncData} (F : Fun K "_law_due" "_law_due" s_due f fd) (T : Blt mg) : FnR P w K mg base CX0 1 f (spDue K) := by
  refine fnr F sc_due (fun vs H Q E h => ?_) (fun _ _ _ _ _ _ us hl => match us, hl with | [_, _, _], _ => rfl) (fun cdv A outer s H vs Q E hr h => ?_)
  · obtain ⟨pl, v, n, ps, xs, ys, rfl, _⟩ := h
    rfl
  · obtain ⟨pl, v, n, ps, xs, ys, rfl, hpl, hv, hn, ok, ey, hz, k⟩ := h
    refine ⟨_, (pss_cons (ps_par (i := 3) (j := 4) (by rfl) sc_due.nd rfl rfl (by decide) rfl rfl (pa_cons (pe_lst pa_nil) (pa_cons pe_int pa_nil)) (by rfl))
      (pss_cons (ps_for PassesOwn.never rfl (pi_list (pv 0)) (pg_name (i := 5) sc_due.nd rfl (Or.inl rfl))
        (pss_one (ps_if (pt_cmpR op_lt (pv 5) pe_int (nomark _)) (pss_cons (ps_expr (pe_bm PySem.F.plainAttrs_list PySem.F.slot_list_append PySem.F.type_list_append mt_append (pv 3) (pa_cons (pe_ix ix_list (pv 2) (pv 4) (fun _ _ => rfl)) pa_nil)))
          (pss_one (ps_set (i := 4) sc_due.nd rfl (Or.inl rfl) (pe_op op_add (pv 4) pe_int)))) (pss_one (ps_expr (pe_bm PySem.F.plainAttrs_list PySem.F.slot_list_append PySem.F.type_list_append mt_append (pv 3) (pa_cons (pe_ix ix_list (pv 1) (pv 5) (fun _ _ => rfl)) pa_nil)))))))
      (pss_one (ps_ret (pv 3))))), ?_⟩
    refine ⟨(by show 0 ≤ sizeLine; decide), fun r nr => ?_⟩
    have s2 : Same H (upd H r (.lst [])) := same_new (Same.refl H) nr
    walk_at "rd"
    refine ⟨⟨_, L2.Same.seq s2 hpl⟩, ?_⟩
    refine for_it (walk_list (xs := ps.map V.int)) (fun i σ H' => ∃ (v5 : Option V) (acc : List V) (used : Nat), σ = [some (.ref pl), some (.ref v), some (.ref n), some (.ref r), some (.int (used : Int)), v5] ∧ KeepB r (upd H r (.lst [])) H' ∧ H' r = some (.lst acc) ∧
      used = gapsM (ps.take i) ∧ acc ++ applyM (ps.drop i) xs (ys.drop used) = applyM ps xs ys ∧ acc.length ≤ i) ?_ ?_ ?_ ?_
    · exact ⟨none, [], 0, rfl, KeepB.refl _ _, upd_same, by simp [gapsM], by simp, Nat.le_refl _⟩
    · rintro i σ H' _ ⟨_, _, _, _, kp, _⟩
      exact stayL hpl fun o e => kp _ _ (s2 _ _ e) (ne_of_none e nr)
    · rintro i x' σ H0 H' hi ⟨v5, acc, used, rfl, kp, hr2, eu, eacc, hlen⟩ ⟨rfl, hx⟩
      have hi' : i < ps.length := by simpa using hi
      have epi : ps[i]? = some ps[i] := List.getElem?_eq_getElem hi'
      have ex' : x' = .int ps[i] := by
        rw [List.getElem?_map, epi] at hx
        exact (Option.some.inj hx).symm
      subst ex'
      have tk : ps.take (i + 1) = ps.take i ++ [ps[i]] := by rw [List.take_append_getElem hi']
      have dr : ps.drop i = ps[i] :: ps.drop (i + 1) := List.drop_eq_getElem_cons hi'
      have bd := ok.at epi
      have sH : Same H H' := fun b o e => kp b o (s2 b o e) (ne_of_none e nr)
      have hlen2 : acc.length < sizeLine := lt_line (by omega)
      have hg : gapsM ps = gapsM (ps.take i) + gapsM (ps.drop i) := by
        have e := List.take_append_drop i ps
        conv => lhs; rw [← e]
        unfold gapsM
        rw [List.filter_append, List.length_append]
      rw [dr, gaps_cons] at hg
      walk_at "rd"
      refine ite2 (fun c => ?_) (fun c => ?_)
      · have h0 : ps[i] < 0 := of_decide_eq_true c
        rw [if_pos h0] at hg
        have hu : used < ys.length := by omega
        walk_at "rd"
        refine ⟨.inl ⟨rfl, _, SqL.of hr2⟩, ?_⟩
        walk_at "rd"
        refine ⟨n, ys, (used : Int), ys[used], rfl, rfl, L2.Same.seq sH hn, at_of (j := used) rfl (List.getElem?_eq_getElem hu), ?_⟩
        refine ⟨r, _, _, rfl, rfl, hr2, hlen2, ?_⟩
        walk_at "rd"
        refine ⟨_, _, used + 1, rfl, kp.upd, upd_same, ?_, ?_, ?_⟩
        · rw [tk, gaps_snoc, if_pos h0, eu]
        · rw [← eacc, dr, List.drop_eq_getElem_cons hu, apply_neg h0, List.append_assoc]
          rfl
        · rw [List.length_append]
          show acc.length + 1 ≤ i + 1
          omega
      · have h0 : ¬ ps[i] < 0 := fun z => c (decide_eq_true z)
        have hl : ps[i].toNat < xs.length := by omega
        walk_at "rd"
        refine ⟨.inl ⟨rfl, _, SqL.of hr2⟩, ?_⟩
        walk_at "rd"
        refine ⟨v, xs, ps[i], xs[ps[i].toNat], rfl, rfl, L2.Same.seq sH hv, at_of (j := ps[i].toNat) (by omega) (List.getElem?_eq_getElem hl), ?_⟩
        refine ⟨r, _, _, rfl, rfl, hr2, hlen2, ?_⟩
        refine ⟨_, _, used, rfl, kp.upd, upd_same, ?_, ?_, ?_⟩
        · rw [tk, gaps_snoc, if_neg h0, eu]
          rfl
        · rw [← eacc, dr, apply_nonneg h0 (List.getElem?_eq_getElem hl), List.append_assoc]
          rfl
        · rw [List.length_append]
          show acc.length + 1 ≤ i + 1
          omega
    · rintro σ H' ⟨v5, acc, used, rfl, kp, hr2, eu, eacc, hlen⟩
      have e0 : ps.drop (ps.map V.int).length = [] := by simp
      rw [e0] at eacc
      have e1 : acc = applyM ps xs ys := by
        have : acc ++ [] = applyM ps xs ys := eacc
        rwa [List.append_nil] at this
      subst e1
      walk_at "rd"
      exact k H' r (fun b o e => kp b o (s2 b o e) (ne_of_none e nr)) nr hr2
end
end MV

namespace MV
open PySem PySem.Spec PyProof.Rows L2 SB MM LamX
local macro_rules | `(tactic| walk_at "rd") => `(tactic| repeat (first | (refine ⟨_, rfl, ?_⟩) | (refine ⟨_, _, rfl, rfl, ?_⟩) | (refine ⟨_, _, rfl, ?_⟩) | (refine ⟨rfl, ?_⟩)))
abbrev s_wrong : Stmt := top 20
/-- the name of the lambda of a def -/
def lamQ (qual : Str) (sc : Scope) : Str := (envOfC qual sc 0 0 .none).qual ++ "<lambda>"
def spWrong (K : PySem.W.Frag) (T : List (Addr × Str)) : Sp := fun vs H Q _ => ∃ (b pl : Addr) (t : Nat) (ps : List Int) (l : List V) (n : Nat), vs = [.ref b, .int (t : Int), .ref pl] ∧ H b = some (.lst l) ∧ BagL l n ∧ n + 1000 < 1000000 ∧ t ≤ 100 ∧ H pl = some (.lst (ps.map V.int)) ∧ pl ≠ b ∧ MoveOk t ps ∧ ps.length ≤ 200 ∧ Tabs T H ∧
  ∀ H' : Hp, ExtN (Wo H [b]) H' → Tabs T H' → Q (.bl true) H'
theorem max0 (x : Int) : ∃ m : Nat, (if x > 0 then x else 0) = (m : Int) ∧ ((m : Int) ≤ x ∨ m = 0) := by
  by_cases c : x > 0
  · rw [if_pos c]
    exact ⟨x.toNat, by omega, .inl (by omega)⟩
  · rw [if_neg c]
    exact ⟨0, rfl, .inr rfl⟩
/-- ("Mismatch", a, b) -/
abbrev misD (a b : Nat) : PyData := .tuple [.str "Mismatch", .int (a : Int), .int (b : Int)]
theorem misD_sh (a b : Nat) : SeqAt.shaped (misD a b) = true := shaped_tuple (by intro d hd; simp at hd; rcases hd with rfl | rfl | rfl <;> first | exact ⟨strOk_of _, Nat.zero_le _⟩ | exact ⟨rfl, Nat.zero_le _⟩)
theorem misD_eqv (a b : Nat) : PyData.eqv (misD a b) (misD a b) = true := SeqAt.eqv_refl _ (by
  refine canLayAll_of (ds := [_, _, _]) fun d hd => ?_
  simp at hd
  rcases hd with rfl | rfl | rfl <;> first | exact strOk_of _ | rfl)
theorem misD_dp {K : PySem.W.Frag} {H : Hp} {p : Addr} {a b : Nat} (h : H p = some (.tup [.str "Mismatch", .int (a : Int), .int (b : Int)])) : Dp K H (.ref p) (misD a b) := .tup (SqT.of h) (.cons (.str _) (.cons (.int _) (.cons (.int _) .nil)))
theorem misD_keep {K : PySem.W.Frag} {H H' : Hp} {b : Addr} {l : List V} {v : V} {x y : Nat} (kp : KeepB b H H') (hb : H b = some (.lst l)) (h : Dp K H v (misD x y)) : Dp K H' v (misD x y) := by
  cases h with
  | tup h q =>
    refine .tup (kp.sqT hb h) ?_
    cases q with
    | cons h1 q =>
      cases h1
      cases q with
      | cons h2 q =>
        cases h2
        cases q with
        | cons h3 q =>
          cases h3
          cases q
          exact .cons (.str _) (.cons (.int _) (.cons (.int _) .nil))
theorem none_keep {K : PySem.W.Frag} {H H' : Hp} {v : V} (h : Dp K H v .none) : Dp K H' v .none := by
  cases h
  exact .non
section
variable {P : Program} {w : World} {K : PySem.W.Frag} {mg : Str → Option Value} {base : Heap} {C CB CN CM c PT : Addr} {TS : List (Addr × Str)}
theorem sc_wrong : FnScope ["_law_bag_here", "_law_takes", "_law_places_here", "_law_gaps", "_law_place", "_law_many", "_law_extra", "_law_due_here", "_law_values_here", "_law_new"] ["_law_bag_here", "_law_takes", "_law_places_here"] (defScope s_wrong) := ⟨rfl, rfl, rfl, by decide +kernel, rfl, by decide +kernel, by decide +kernel⟩
theorem ok_wrong {f : Addr} {fd : FuncData} (F : Fun K "_law_wrong" "_law_wrong" s_wrong f fd) (hc : fd.code = .ref c) (T : TxtM K mg C) (MMove : Ml P w K mg base CX0 1 "Move" C (spInit K C))
    (CA2 : Ca P w K mg base (L2.CX P w) 3 C (spCallX K C CM)) (TB : TabB base mg c PT) (RF : Rf P w K mg base "_law_refused" [(CB, "BadMove", ["at"]), (CN, "NoPlace", ["place"]), (CM, "Mismatch", ["wanted", "got"])])
    (hmT : (PT, lamQ "_law_wrong" (defScope s_wrong)) ∈ TS) (hu : ∀ p ∈ TS, p.1 = PT → p.2 = lamQ "_law_wrong" (defScope s_wrong))
    (Dtake : Cl P w K mg base CX0 1 "_law_take" spTake) (Dvalues : Cl P w K mg base CX0 3 "_law_values" (spValues K)) : FnR P w K mg base CX0 7 f (spWrong K TS) := by
  refine fnrC F hc sc_wrong (fun vs H Q E h => ?_) (fun _ _ _ _ _ _ us hl => match us, hl with | [_, _, _], _ => rfl) (fun A outer s H vs Q E hr h => ?_)
  · obtain ⟨b, pl, t, ps, l, n, rfl, _⟩ := h
    rfl
  · obtain ⟨b, pl, t, ps, l, n, rfl, hb, hl, hn, ht, hpl, npb, ok, hz, hT, k⟩ := h
    refine ⟨_, (pss_cons (ps_set (i := 3) sc_wrong.nd rfl (Or.inl rfl) (pe_callB call_len_seq (by rfl) T.n_len (by decide +kernel) (pa_cons (pe_lc (own := [("_law_place", 4)]) (by rfl) sc_wrong.nd (pi_list (pv 2)) (blkOk_by (own := [("_law_place", 4)]) (N := ["_law_bag_here", "_law_takes", "_law_places_here", "_law_gaps", "_law_place", "_law_many", "_law_extra", "_law_due_here", "_law_values_here", "_law_new"]) (sc := defScope s_wrong) (by decide +kernel)) (fun _ _ _ _ _ => (pg_name (i := 4) sc_wrong.nd rfl (Or.inl rfl))) (fun _ _ _ _ _ => by exact (pts_one (pt_cmpR op_lt (pv 4) pe_int (nomark _)))) (fun _ _ _ _ _ => by exact (pv 4))) pa_nil)))
      (pss_cons (ps_set (i := 5) sc_wrong.nd rfl (Or.inl rfl) (pe_callB (call_max2 rfl) (by rfl) T.n_max (by decide +kernel) (pa_cons pe_int (pa_cons (pe_op op_sub (pe_op op_add (pv 1) (pe_cl Dtake hr (by decide) (by rfl) pass0 (pa_cons (pv 0) (pa_cons pe_int pa_nil)))) pe_int) pa_nil))))
      (pss_cons (ps_set (i := 6) sc_wrong.nd rfl (Or.inl rfl) (pe_callB (call_max2 rfl) (by rfl) T.n_max (by decide +kernel) (pa_cons pe_int (pa_cons (pe_op op_sub (pe_op op_add (pv 3) (pe_cl Dtake hr (by decide) (by rfl) pass0 (pa_cons (pv 0) (pa_cons pe_int pa_nil)))) pe_int) pa_nil))))
      (C8.pss_cut (ps_set (i := 7) sc_wrong.nd rfl (Or.inl rfl) (pe_ifExp (pt_cmpR op_ne (pv 5) (pv 1) (nomark _)) (pe_tup (pa_cons pe_str (pa_cons (pv 1) (pa_cons (pv 5) pa_nil)))) pe_non))
      (C8.pss_cut (ps_if (PW.pt (pw_and (pt_cmpR op_eq (pv 5) (pv 1) (nomark _)) (pw_and1 (pt_cmpR op_ne (pv 6) (pv 3) (nomark _))))) (pss_one (ps_set (i := 7) sc_wrong.nd rfl (Or.inl rfl) (pe_tup (pa_cons pe_str (pa_cons (pv 3) (pa_cons (pv 6) pa_nil)))))) pss_nil)
      (pss_cons (ps_asg (pe_tup (pa_cons (pe_cl Dvalues hr (by decide) (by rfl) pass0 (pa_cons (pv 0) (pa_cons (pv 5) (pa_cons pe_str pa_nil)))) (pa_cons (pe_cl Dvalues hr (by decide) (by rfl) pass0 (pa_cons (pv 0) (pa_cons (pv 6) (pa_cons pe_str pa_nil)))) pa_nil))) (pg_tup rfl (pgs_cons (pg_name (i := 8) sc_wrong.nd rfl (Or.inr rfl)) (pgs_cons (pg_name (i := 9) sc_wrong.nd rfl (Or.inr rfl)) pgs_nil))))
      (pss_one (ps_ret (pe_cmpR (op_eqD hr.units) (pe_rf (k := 4) RF (by rfl) TB (by rfl) hmT hu hr (by decide) (lamS_by (sc := defScope s_wrong) (by decide +kernel)) (by rfl) (fun _ _ _ _ _ => rfl) (fun _ _ _ _ _ _ _ hr => by exact (pe_caK (pe_ml MMove hr (by decide) (by rfl) pass0 (pa_cons (pv 1) (pa_cons (pv 2) pa_nil))) CA2 hr (by decide) (passL rfl rfl rfl rfl) (pa_cons (pv 8) (pa_cons (pv 9) pa_nil))))) (pv 7) (nomark _)))))))))), ?_⟩
    walk_at "rd"
    refine ⟨⟨_, SqL.of hpl⟩, fun D hD => ?_⟩
    have s1 : Same H (upd H D (.lst [])) := same_new (Same.refl H) hD
    refine lc_it (walk_list (xs := ps.map V.int)) (fun i H' => KeepB D (upd H D (.lst [])) H' ∧ H' D = some (.lst (((ps.take i).filter fun p => decide (p < 0)).map V.int))) ⟨KeepB.refl _ _, upd_same⟩ ?_ ?_ ?_
    · rintro i H' _ ⟨kp, _⟩
      exact SqL.of (kp _ _ (s1 _ _ hpl) (ne_of_none hpl hD))
    · rintro i x H0 H' hi ⟨kp, hD'⟩ ⟨rfl, hx⟩
      have hi' : i < ps.length := by simpa using hi
      have epi : ps[i]? = some ps[i] := List.getElem?_eq_getElem hi'
      have ex : x = .int ps[i] := by
        rw [List.getElem?_map, epi] at hx
        exact (Option.some.inj hx).symm
      subst ex
      have tk : ps.take (i + 1) = ps.take i ++ [ps[i]] := by rw [List.take_append_getElem hi']
      walk_at "rd"
      refine ite2 (fun cc => ?_) (fun cc => ?_)
      · have h0 : ps[i] < 0 := of_decide_eq_true cc
        walk_at "rd"
        refine ⟨_, hD', ?_, kp.upd, ?_⟩
        · rw [List.length_map]
          have := List.length_filter_le (fun p : Int => decide (p < 0)) (ps.take i)
          rw [List.length_take] at this
          exact lt_line (by omega)
        · rw [upd_same, tk, List.filter_append, List.map_append]
          simp [h0]
      · have h0 : ¬ ps[i] < 0 := fun z => cc (decide_eq_true z)
        refine ⟨kp, ?_⟩
        rw [hD', tk, List.filter_append]
        simp [h0]
    · rintro H1 ⟨kp1, hD1⟩
      rw [List.length_map, List.take_length] at hD1
      have s1' : Same H H1 := fun b o e => kp1 b o (s1 b o e) (ne_of_none e hD)
      refine ⟨D, _, rfl, .inl (SqL.of hD1), ?_⟩
      rw [List.length_map]
      have hg : ((ps.filter fun p => decide (p < 0))).length = gapsM ps := rfl
      rw [hg]
      have hgl : gapsM ps ≤ ps.length := List.length_filter_le _ _
      -- many, extra
      walk_at "rd"
      refine ⟨b, 7, l, n, rfl, s1' _ _ hb, hl, by omega, by decide, by decide, fun r l1 r0 r1 hl1 => ?_⟩
      walk_at "rd"
      obtain ⟨many, em, hmany⟩ := max0 ((t : Int) + r - 3)
      rw [em]
      walk_at "rd"
      refine ⟨b, 7, l1, n + 1, rfl, upd_same, hl1, by omega, by decide, by decide, fun r2 l2 q0 q1 hl2 => ?_⟩
      rw [upd_upd]
      walk_at "rd"
      obtain ⟨extra, ee, hextra⟩ := max0 ((gapsM ps : Int) + r2 - 3)
      rw [ee]
      have k2 : KeepB b H (upd H1 b (.lst l2)) := (KeepB.of_same s1').upd
      -- due
      refine ⟨fun σ' H3 => ∃ (v : V) (d : PyData), σ' = [some (.ref b), some (.int (t : Int)), some (.ref pl), some (.int (gapsM ps : Int)), none, some (.int (many : Int)), some (.int (extra : Int)), some v, none, none] ∧ Same (upd H1 b (.lst l2)) H3 ∧ Dp K H3 v d ∧ ((many ≠ t ∧ d = misD t many) ∨ (many = t ∧ d = .none)), ?_, ?_⟩
      · walk_at "rd"
        refine ite2 (fun cc => ?_) (fun cc => ?_)
        · have ne := int_ne cc
          walk_at "rd"
          refine ⟨(by show 3 ≤ sizeLine; decide), fun TD hTD => ?_⟩
          exact ⟨.ref TD, _, rfl, same_new (Same.refl _) hTD, misD_dp upd_same, .inl ⟨ne, rfl⟩⟩
        · have eq := int_eq cc
          walk_at "rd"
          exact ⟨.non, .none, rfl, Same.refl _, .non, .inr ⟨eq, rfl⟩⟩
      rintro σ' H3 ⟨v, d, rfl, s3, hdp, hcase⟩
      refine ⟨fun σ' H4 => ∃ (v : V) (d : PyData), σ' = [some (.ref b), some (.int (t : Int)), some (.ref pl), some (.int (gapsM ps : Int)), none, some (.int (many : Int)), some (.int (extra : Int)), some v, none, none] ∧ Same H3 H4 ∧ Dp K H4 v d ∧ ((many ≠ t ∧ d = misD t many) ∨ (many = t ∧ extra ≠ gapsM ps ∧ d = misD (gapsM ps) extra) ∨ (many = t ∧ extra = gapsM ps ∧ d = .none)), ?_, ?_⟩
      · walk_at "rd"
        refine ite2 (fun cc => ?_) (fun cc => ?_)
        · have eq : many = t := by
            have := V.int.inj (of_decide_eq_true cc)
            omega
          walk_at "rd"
          refine ite2 (fun cc2 => ?_) (fun cc2 => ?_)
          · have ne := int_ne cc2
            walk_at "rd"
            refine ⟨(by show 3 ≤ sizeLine; decide), fun TD hTD => ?_⟩
            exact ⟨.ref TD, _, rfl, same_new (Same.refl _) hTD, misD_dp upd_same, .inr (.inl ⟨eq, ne, rfl⟩)⟩
          · have e2 := int_eq cc2
            rcases hcase with ⟨ne, _⟩ | ⟨_, rfl⟩
            · exact absurd eq ne
            · exact ⟨v, _, rfl, Same.refl _, hdp, .inr (.inr ⟨eq, e2, rfl⟩)⟩
        · have ne : many ≠ t := fun z => cc (decide_eq_true (by rw [z]))
          rcases hcase with ⟨_, rfl⟩ | ⟨eq, _⟩
          · exact ⟨v, _, rfl, Same.refl _, hdp, .inl ⟨ne, rfl⟩⟩
          · exact absurd eq ne
      rintro σ' H4 ⟨v, d, rfl, s4', hdp, hcase⟩
      have s4 := s3.trans s4'
      have hb4 := s4 _ _ upd_same
      have hpl4 : H4 pl = some (.lst (ps.map V.int)) := s4 _ _ (k2 _ _ hpl npb)
      have hmz : many ≤ 110 := by omega
      have hez : extra ≤ 210 := by omega
      -- values, new
      walk_at "rd"
      refine ⟨b, many, _, l2, _, rfl, hb4, hl2, by omega, by omega, strOk_of _, (by show 3 ≤ 100; decide), fun H5 p5 l5 xs ds k5 hb5 hl5 n5 hp5 hxl hds hsh => ?_⟩
      walk_at "rd"
      refine ⟨b, extra, _, l5, _, rfl, hb5, hl5, by omega, by omega, strOk_of _, (by show 3 ≤ 100; decide), fun H6 p6 l6 ys es k6 hb6 hl6 n6 hp6 hyl hes hsh2 => ?_⟩
      have np5b : p5 ≠ b := (ne_of_none hb4 n5).symm
      have hp56 : H6 p5 = some (.lst xs) := k6 _ _ hp5 np5b
      refine ⟨(by show 2 ≤ sizeLine; decide), fun TT hTT => ?_⟩
      have s7 := same_new (o := .tup [.ref p5, .ref p6]) (Same.refl H6) hTT
      refine ⟨TT, _, rfl, SqT.of upd_same, rfl, ?_⟩
      walk_at "rd"
      -- what lies where, but the bag
      have w4 : Same (Wo H [b]) H4 := fun c o e => by
        have hn : c ≠ b := fun z => by
          unfold Wo at e
          rw [if_pos (by rw [z]; exact List.mem_singleton_self _)] at e
          cases e
        exact s4 _ _ (k2 _ _ (wo_same _ _ e) hn)
      have w46 : ∀ c o, H4 c = some o → c ≠ b → H6 c = some o := fun c o e hc => k6 _ _ (k5 _ _ e hc) hc
      have w6 : Same (Wo H [b]) (upd H6 TT (.tup [.ref p5, .ref p6])) := fun c o e => by
        have hn : c ≠ b := fun z => by
          unfold Wo at e
          rw [if_pos (by rw [z]; exact List.mem_singleton_self _)] at e
          cases e
        exact s7 _ _ (w46 _ _ (w4 _ _ e) hn)
      have hdp6 : Dp K (upd H6 TT (.tup [.ref p5, .ref p6])) v d := by
        refine Dp.mono s7 ?_
        rcases hcase with ⟨_, rfl⟩ | ⟨_, _, rfl⟩ | ⟨_, _, rfl⟩
        · exact misD_keep k6 hb5 (misD_keep k5 hb4 hdp)
        · exact misD_keep k6 hb5 (misD_keep k5 hb4 hdp)
        · exact none_keep hdp
      have hshd : SeqAt.shaped d = true ∧ PyData.eqv d d = true := by
        rcases hcase with ⟨_, rfl⟩ | ⟨_, _, rfl⟩ | ⟨_, _, rfl⟩
        · exact ⟨misD_sh _ _, misD_eqv _ _⟩
        · exact ⟨misD_sh _ _, misD_eqv _ _⟩
        · exact ⟨by decide, rfl⟩
      have hT6 : Tabs TS (upd H6 TT (.tup [.ref p5, .ref p6])) := by
        refine tabs_same ?_ w6
        intro p hp
        obtain ⟨tb, h1, h2, h3⟩ := hT p hp
        refine ⟨tb, wo_at h1 (by intro z; rw [List.mem_singleton.mp z, hb] at h1; cases h1), h2, fun pos cv hcv => ?_⟩
        obtain ⟨cx, e1, e2⟩ := h3 pos cv hcv
        refine ⟨cx, e1, wo_at e2 (by intro z; rw [List.mem_singleton.mp z, hb] at e2; have e3 := Option.some.inj e2; unfold CodeO at e3; cases e3)⟩
      -- refused(lambda: Move(takes, places)(values, new))
      refine ⟨hT6, fun HA eA tA => ?_⟩
      have hdA := dp_ext eA hdp6
      have hplA : HA pl = some (.lst (ps.map V.int)) := eA _ _ (s7 _ _ (w46 _ _ hpl4 npb)) (fun _ z => by cases z)
      have hxA : HA p5 = some (.lst xs) := eA _ _ (s7 _ _ hp56) (fun _ z => by cases z)
      have hyA : HA p6 = some (.lst ys) := eA _ _ (s7 _ _ hp6) (fun _ z => by cases z)
      have wA : ExtN (Wo H [b]) HA := (ext_same w6).trans eA
      walk_at "rd"
      refine fun a1 _ n1 nd1 _ => mk_move2 n1 nd1 (.inl (SqL.of hplA)) ok (by omega) fun HB sB mB => ⟨rfl, ?_⟩
      obtain ⟨_, _, zB, _⟩ := id mB
      have hdB := Dp.mono sB hdA
      walk_at "rd"
      refine ⟨⟨_, _, zB⟩, a1, p5, p6, t, ps, xs, ys, rfl, mB, ok, by omega, .inl (SqL.of (sB _ _ hxA)), .inl (SqL.of (sB _ _ hyA)), fun ex ey HC pC sC nC hpC => ?_, fun ne dd ndd => ?_, fun ex ney HC dd sC ndd => ?_⟩
      · rcases hcase with ⟨ne, _⟩ | ⟨_, ne, _⟩ | ⟨_, _, rfl⟩
        · omega
        · omega
        · walk_at "rd"
          refine ⟨_, _, .non, Dp.mono sC hdB, hshd.1, hshd.1, ?_⟩
          rw [hshd.2]
          exact k _ (wA.trans (ext_same (sB.trans sC))) (tabs_same tA (sB.trans sC))
      · rcases hcase with ⟨_, rfl⟩ | ⟨e, _⟩ | ⟨e, _⟩
        · rw [hxl] at *
          refine ⟨CM, "Mismatch", ["wanted", "got"], by simp, rfl, dd, _, [.int (t : Int), .int (many : Int)], rfl, upd_same, rfl, by show 2 ≤ 10; decide, fun pE hpE => ?_⟩
          have sE := same_new (o := .tup [.str "Mismatch", .int (t : Int), .int (many : Int)]) (same_new (o := .xd [("got", .int (many : Int)), ("wanted", .int (t : Int))]) (Same.refl HB) ndd) hpE
          walk_at "rd"
          refine ⟨_, _, misD_dp upd_same, Dp.mono sE hdB, hshd.1, hshd.1, ?_⟩
          rw [hshd.2]
          exact k _ (wA.trans (ext_same (sB.trans sE))) (tabs_same tA (sB.trans sE))
        · omega
        · omega
      · rcases hcase with ⟨ne, _⟩ | ⟨_, _, rfl⟩ | ⟨_, e, _⟩
        · omega
        · rw [hyl] at *
          refine ⟨CM, "Mismatch", ["wanted", "got"], by simp, rfl, dd, _, [.int (gapsM ps : Int), .int (extra : Int)], rfl, upd_same, rfl, by show 2 ≤ 10; decide, fun pE hpE => ?_⟩
          have sE := same_new (o := .tup [.str "Mismatch", .int (gapsM ps : Int), .int (extra : Int)]) (same_new (o := .xd [("got", .int (extra : Int)), ("wanted", .int (gapsM ps : Int))]) sC ndd) hpE
          walk_at "rd"
          refine ⟨_, _, misD_dp upd_same, Dp.mono sE hdB, hshd.1, hshd.1, ?_⟩
          rw [hshd.2]
          exact k _ (wA.trans (ext_same (sB.trans sE))) (tabs_same tA (sB.trans sE))
        · omega
end
end MV

namespace MV
open PySem PySem.Spec PyProof.Rows L2 SB MM LamX
local macro_rules | `(tactic| walk_at "rd") => `(tactic| repeat (first | (refine ⟨_, rfl, ?_⟩) | (refine ⟨_, _, rfl, rfl, ?_⟩) | (refine ⟨_, _, rfl, ?_⟩) | (refine ⟨rfl, ?_⟩)))
abbrev s_called : Stmt := top 19
theorem mem_apply {α : Type} : ∀ (ps : List Int) (xs ys : List α) {d : α}, d ∈ applyM ps xs ys → d ∈ xs ∨ d ∈ ys
  | [], _, _, _, h => nomatch h
  | p :: ps, xs, ys, d, h => by
    unfold applyM at h
    by_cases c : p < 0
    · rw [if_pos c] at h
      rcases List.mem_append.mp h with h | h
      · exact .inr (List.mem_of_mem_take h)
      · exact (mem_apply ps xs _ h).imp id List.mem_of_mem_drop
    · rw [if_neg c] at h
      rcases List.mem_append.mp h with h | h
      · exact .inl (by
          cases e : xs[p.toNat]? with
          | none => rw [e] at h; simp at h
          | some x =>
            rw [e] at h
            have : d = x := by simpa using h
            subst this
            exact List.mem_of_getElem? e)
      · exact mem_apply ps xs ys h
theorem wo1_new {H : Hp} {b g : Addr} {l : List V} {o : HO} (hg : (upd H b (.lst l)) g = none) : Same (Wo H [b]) (Wo (upd (upd H b (.lst l)) g o) [b]) ∧ g ≠ b ∧ (upd (upd H b (.lst l)) g o) b = some (.lst l) := by
  have ne : g ≠ b := fun z => by
    rw [z, upd_same] at hg
    cases hg
  refine ⟨wo_mono fun c u e hc => ?_, ne, by rw [upd_ne (Ne.symm ne), upd_same]⟩
  have hc' : c ≠ b := fun z => hc (by rw [z]; exact List.mem_singleton_self _)
  have e2 : (upd H b (.lst l)) c = some u := by rw [upd_ne hc']; exact e
  rw [upd_ne (ne_of_none e2 hg)]
  exact e2
theorem wo1_keep {H H' : Hp} {b : Addr} (k : KeepB b H H') : Same (Wo H [b]) (Wo H' [b]) := wo_mono fun c o e hc => k c o e fun z => hc (by rw [z]; exact List.mem_singleton_self _)
theorem wo1_at {H : Hp} {b c : Addr} {o : HO} (h : H c = some o) (ne : c ≠ b) : Wo H [b] c = some o := wo_at h fun z => ne (List.mem_singleton.mp z)
theorem tabs_wo {T : List (Addr × Str)} {H : Hp} {b : Addr} {l : List V} (hT : Tabs T H) (hb : H b = some (.lst l)) : Tabs T (Wo H [b]) := by
  intro p hp
  obtain ⟨tb, h1, h2, h3⟩ := hT p hp
  refine ⟨tb, wo1_at h1 (by intro z; rw [z, hb] at h1; cases h1), h2, fun pos cv hcv => ?_⟩
  obtain ⟨cx, e1, e2⟩ := h3 pos cv hcv
  refine ⟨cx, e1, wo1_at e2 (by intro z; rw [z, hb] at e2; have e3 := Option.some.inj e2; unfold CodeO at e3; cases e3)⟩
def spCalled (K : PySem.W.Frag) (T : List (Addr × Str)) : Sp := fun vs H Q _ => ∃ (b pl : Addr) (t : Nat) (ps : List Int) (l : List V) (n : Nat), vs = [.ref b, .int (t : Int), .ref pl] ∧ H b = some (.lst l) ∧ BagL l n ∧ n + 1000 < 1000000 ∧ t ≤ 100 ∧ H pl = some (.lst (ps.map V.int)) ∧ pl ≠ b ∧ MoveOk t ps ∧ ps.length ≤ 200 ∧ Tabs T H ∧
  ∀ (H' : Hp) (l' : List V), ExtN (Wo H [b]) H' → Tabs T H' → H' b = some (.lst l') → BagL l' (n + 500) → Q (.bl true) H'
section
variable {P : Program} {w : World} {K : PySem.W.Frag} {mg : Str → Option Value} {base : Heap} {C CB CN CM c PT e0 : Addr} {TS : List (Addr × Str)}
theorem sc_called : FnScope ["_law_bag_here", "_law_takes", "_law_places_here", "_law_move", "_law_gaps", "_law_place", "_law_values_here", "_law_new", "_law_given", "_law_extra", "_law_told", "_law_due_here"] ["_law_bag_here", "_law_takes", "_law_places_here"] (defScope s_called) := ⟨rfl, rfl, rfl, by decide +kernel, rfl, by decide +kernel, by decide +kernel⟩
theorem ok_called {f : Addr} {fd : FuncData} (F : Fun K "_law_called" "_law_called" s_called f fd) (hc : fd.code = .ref c) (T : TxtM K mg C) (MMove : Ml P w K mg base CX0 1 "Move" C (spInit K C))
    (CA2 : Ca P w K mg base (L2.CX P w) 3 C (spCallX K C CM)) (CA1 : Ca P w K mg base (L2.CX P w) 3 C (fun vs H Q E => spCallX K C CM (vs ++ [.ref e0]) H Q E)) (he0 : ∀ H : Hp, SqT K H e0 []) (TB : TabB base mg c PT)
    (RF : Rf P w K mg base "_law_refused" [(CB, "BadMove", ["at"]), (CN, "NoPlace", ["place"]), (CM, "Mismatch", ["wanted", "got"])])
    (hmT : (PT, lamQ "_law_called" (defScope s_called)) ∈ TS) (hu : ∀ p ∈ TS, p.1 = PT → p.2 = lamQ "_law_called" (defScope s_called))
    (Dtake : Cl P w K mg base CX0 1 "_law_take" spTake) (Dvalues : Cl P w K mg base CX0 3 "_law_values" (spValues K)) (Ddue : Cl P w K mg base CX0 1 "_law_due" (spDue K)) : FnR P w K mg base CX0 7 f (spCalled K TS) := by
  refine fnrC F hc sc_called (fun vs H Q E h => ?_) (fun _ _ _ _ _ _ us hl => match us, hl with | [_, _, _], _ => rfl) (fun A outer s H vs Q E hr h => ?_)
  · obtain ⟨b, pl, t, ps, l, n, rfl, _⟩ := h
    rfl
  · obtain ⟨b, pl, t, ps, l, n, rfl, hb, hl, hn, ht, hpl, npb, ok, hz, hT, k⟩ := h
    refine ⟨_, (pss_cons (ps_asg (pe_tup (pa_cons (pe_ml MMove hr (by decide) (by rfl) pass0 (pa_cons (pv 1) (pa_cons (pv 2) pa_nil))) (pa_cons (pe_callB call_len_seq (by rfl) T.n_len (by decide +kernel) (pa_cons (pe_lc (own := [("_law_place", 5)]) (by rfl) sc_called.nd (pi_list (pv 2)) (blkOk_by (own := [("_law_place", 5)]) (N := ["_law_bag_here", "_law_takes", "_law_places_here", "_law_move", "_law_gaps", "_law_place", "_law_values_here", "_law_new", "_law_given", "_law_extra", "_law_told", "_law_due_here"]) (sc := defScope s_called) (by decide +kernel)) (fun _ _ _ _ _ => (pg_name (i := 5) sc_called.nd rfl (Or.inl rfl))) (fun _ _ _ _ _ => by exact (pts_one (pt_cmpR op_lt (pv 5) pe_int (nomark _)))) (fun _ _ _ _ _ => by exact (pv 5))) pa_nil)) pa_nil))) (pg_tup rfl (pgs_cons (pg_name (i := 3) sc_called.nd rfl (Or.inr rfl)) (pgs_cons (pg_name (i := 4) sc_called.nd rfl (Or.inl rfl)) pgs_nil))))
      (pss_cons (ps_par (i := 6) (j := 7) (by rfl) sc_called.nd rfl rfl (by decide) rfl rfl (pa_cons (pe_cl Dvalues hr (by decide) (by rfl) pass0 (pa_cons (pv 0) (pa_cons (pv 1) (pa_cons pe_str pa_nil)))) (pa_cons (pe_cl Dvalues hr (by decide) (by rfl) pass0 (pa_cons (pv 0) (pa_cons (pv 4) (pa_cons pe_str pa_nil)))) pa_nil)) (by rfl))
      (C8.pss_cut (ps_set (i := 8) sc_called.nd rfl (Or.inr rfl) (pe_ifExp (pt_cmpR op_eq (pe_cl Dtake hr (by decide) (by rfl) pass0 (pa_cons (pv 0) (pa_cons pe_int pa_nil))) pe_int (nomark _)) (pe_callTy call_tuple_of (by rfl) T.n_tuple (by decide +kernel) (pa_cons (pv 6) pa_nil)) (pe_callTy call_list_of (by rfl) T.n_list (by decide +kernel) (pa_cons (pv 6) pa_nil))))
      (C8.pss_cut (ps_set (i := 9) sc_called.nd rfl (Or.inl rfl) (pe_ifExp (pt_cmpR op_eq (pe_cl Dtake hr (by decide) (by rfl) pass0 (pa_cons (pv 0) (pa_cons pe_int pa_nil))) pe_int (nomark _)) (pe_callTy call_tuple_of (by rfl) T.n_tuple (by decide +kernel) (pa_cons (pv 7) pa_nil)) (pe_callTy call_list_of (by rfl) T.n_list (by decide +kernel) (pa_cons (pv 7) pa_nil))))
      (pss_cons (ps_par (i := 10) (j := 11) (by rfl) sc_called.nd rfl rfl (by decide) rfl rfl (pa_cons (pe_ca (pv 3) CA2 hr (by decide) passF (pa_cons (pv 8) (pa_cons (pv 9) pa_nil))) (pa_cons (pe_cl Ddue hr (by decide) (by rfl) pass0 (pa_cons (pv 2) (pa_cons (pv 6) (pa_cons (pv 7) pa_nil)))) pa_nil)) (by rfl))
      (pss_cons (ps_if (PW.pt (pw_or (pt_not (pt_val (pe_callB call_isi (by rfl) T.n_isinstance (by decide +kernel) (pa_cons (pv 10) (pa_cons (pe_bltn (v := .ty "list") (by rfl) T.n_list (by decide +kernel) rfl) pa_nil))))) (pw_or (pt_cmpR (op_neD hr.units) (pv 10) (pv 11) (nomark _)) (pw_or (pt_cmpR (op_neD hr.units) (pe_callTy call_list_of (by rfl) T.n_list (by decide +kernel) (pa_cons (pv 8) pa_nil)) (pv 6) (nomark _)) (pw_or1 (pt_cmpR (op_neD hr.units) (pe_callTy call_list_of (by rfl) T.n_list (by decide +kernel) (pa_cons (pv 9) pa_nil)) (pv 7) (nomark _))))))) (pss_one (ps_ret pe_bl)) pss_nil)
      (pss_cons (ps_expr (pe_bm PySem.F.plainAttrs_list PySem.F.slot_list_append PySem.F.type_list_append mt_append (pv 10) (pa_cons pe_str pa_nil)))
      (pss_cons (ps_if (PW.pt (pw_or (pt_cmpR (op_neD hr.units) (pe_ca (pv 3) CA2 hr (by decide) passF (pa_cons (pv 8) (pa_cons (pv 9) pa_nil))) (pv 11) (nomark _)) (pw_or1 (pt_cmpR (op_neD hr.units) (pe_fld (pv 3) (by rfl)) (pe_callTy call_tuple_of (by rfl) T.n_tuple (by decide +kernel) (pa_cons (pv 2) pa_nil)) (nomark _))))) (pss_one (ps_ret pe_bl)) pss_nil)
      (pss_one (ps_ret (pe_ifExp (pt_cmpR op_eq (pv 4) pe_int (nomark _)) (pe_cmpR (op_eqD hr.units) (pe_ca (pv 3) CA1 hr (by decide) passF (pa_cons (pv 8) pa_nil)) (pv 11) (nomark _)) (pe_cmpR (op_eqD hr.units) (pe_rf (k := 4) RF (by rfl) TB (by rfl) hmT hu hr (by decide) (lamS_by (sc := defScope s_called) (by decide +kernel)) (by rfl) (fun _ _ _ _ _ => rfl) (fun _ _ _ _ _ _ _ hr => by exact (pe_caK (pv 3) CA1 hr (by decide) (passL rfl rfl rfl rfl) (pa_cons (pv 8) pa_nil)))) (pe_tup (pa_cons pe_str (pa_cons (pv 4) (pa_cons pe_int pa_nil)))) (nomark _))))))))))))), ?_⟩
    walk_at "rd"
    refine fun a1 _ n1 nd1 _ => mk_move2 n1 nd1 (.inl (SqL.of hpl)) ok (by omega) fun H0 s0 m0 => ⟨rfl, ?_⟩
    have hpl0 := s0 _ _ hpl
    have hb0 := s0 _ _ hb
    walk_at "rd"
    refine ⟨⟨_, SqL.of hpl0⟩, fun D hD => ?_⟩
    have s1 : Same H0 (upd H0 D (.lst [])) := same_new (Same.refl H0) hD
    refine lc_it (walk_list (xs := ps.map V.int)) (fun i H' => KeepB D (upd H0 D (.lst [])) H' ∧ H' D = some (.lst (((ps.take i).filter fun p => decide (p < 0)).map V.int))) ⟨KeepB.refl _ _, upd_same⟩ ?_ ?_ ?_
    · rintro i H' _ ⟨kp, _⟩
      exact SqL.of (kp _ _ (s1 _ _ hpl0) (ne_of_none hpl0 hD))
    · rintro i x Hz H' hi ⟨kp, hD'⟩ ⟨rfl, hx⟩
      have hi' : i < ps.length := by simpa using hi
      have epi : ps[i]? = some ps[i] := List.getElem?_eq_getElem hi'
      have ex : x = .int ps[i] := by
        rw [List.getElem?_map, epi] at hx
        exact (Option.some.inj hx).symm
      subst ex
      have tk : ps.take (i + 1) = ps.take i ++ [ps[i]] := by rw [List.take_append_getElem hi']
      walk_at "rd"
      refine ite2 (fun cc => ?_) (fun cc => ?_)
      · have h0 : ps[i] < 0 := of_decide_eq_true cc
        walk_at "rd"
        refine ⟨_, hD', ?_, kp.upd, ?_⟩
        · rw [List.length_map]
          have := List.length_filter_le (fun p : Int => decide (p < 0)) (ps.take i)
          rw [List.length_take] at this
          exact lt_line (by omega)
        · rw [upd_same, tk, List.filter_append, List.map_append]
          simp [h0]
      · have h0 : ¬ ps[i] < 0 := fun z => cc (decide_eq_true z)
        refine ⟨kp, ?_⟩
        rw [hD', tk, List.filter_append]
        simp [h0]
    · rintro H1 ⟨kp1, hD1⟩
      rw [List.length_map, List.take_length] at hD1
      have s01 : Same H0 H1 := fun b o e => kp1 b o (s1 b o e) (ne_of_none e hD)
      have sH1 := s0.trans s01
      refine ⟨D, _, rfl, .inl (SqL.of hD1), ?_⟩
      rw [List.length_map]
      have hg : ((ps.filter fun p => decide (p < 0))).length = gapsM ps := rfl
      rw [hg]
      have hgl : gapsM ps ≤ ps.length := List.length_filter_le _ _
      walk_at "rd"
      refine ⟨(by show 2 ≤ sizeLine; decide), fun TT hTT => ?_⟩
      have s2 := same_new (o := .tup [.ref a1, .int (gapsM ps : Int)]) (Same.refl H1) hTT
      refine ⟨TT, _, rfl, SqT.of upd_same, rfl, ?_⟩
      have sH2 := sH1.trans s2
      have m2 := (m0.same s01).same s2
      have hb2 := sH2 _ _ hb
      -- values, new
      walk_at "rd"
      refine ⟨b, t, _, l, n, rfl, hb2, hl, by omega, by omega, strOk_of _, (by show 3 ≤ 100; decide), fun H5 p5 l5 xs ds k5 hb5 hl5 n5 hp5 hxl hds hsh => ?_⟩
      walk_at "rd"
      refine ⟨b, gapsM ps, _, l5, _, rfl, hb5, hl5, by omega, by omega, strOk_of _, (by show 3 ≤ 100; decide), fun H6 p6 l6 ys es k6 hb6 hl6 n6 hp6 hyl hes hsh2 => ?_⟩
      have np5b : p5 ≠ b := (ne_of_none hb2 n5).symm
      have np6b : p6 ≠ b := (ne_of_none hb5 n6).symm
      have hp56 : H6 p5 = some (.lst xs) := k6 _ _ hp5 np5b
      have m6 := (m2.keep hb2 k5).keep hb5 k6
      have dX : DpAll K (Wo H6 [b]) xs ds := DpAll.mono (fun c o e => by
        have hcb : c ≠ b := fun z => by
          unfold Wo at e
          rw [if_pos (by simp [z])] at e
          cases e
        exact wo1_at (k6 _ _ (wo_same _ _ e) hcb) hcb) hds
      have dY : DpAll K (Wo H6 [b]) ys es := DpAll.mono (fun c o e => by
        have hcb : c ≠ b := fun z => by
          unfold Wo at e
          rw [if_pos (by simp [z])] at e
          cases e
        exact wo1_at (wo_same _ _ e) hcb) hes
      have W6 : Same (Wo H [b]) (Wo H6 [b]) := (wo1_keep (KeepB.of_same sH2)).trans ((wo1_keep k5).trans (wo1_keep k6))
      -- given
      walk_at "rd"
      refine ⟨fun σ' H7 => ∃ (g : Addr) (l7 : List V), σ' = [some (.ref b), some (.int (t : Int)), some (.ref pl), some (.ref a1), some (.int (gapsM ps : Int)), none, some (.ref p5), some (.ref p6), some (.ref g), none, none, none] ∧ Same (Wo H6 [b]) (Wo H7 [b]) ∧ H7 b = some (.lst l7) ∧ BagL l7 (n + t + gapsM ps + 1) ∧ SqS K (Wo H7 [b]) g xs, ?_, ?_⟩
      · walk_at "rd"
        refine ⟨b, 2, l6, _, rfl, hb6, hl6, by omega, by decide, by decide, fun r l7 r0 r1 hl7 => ?_⟩
        have e5 : (upd H6 b (.lst l7)) p5 = some (.lst xs) := by rw [upd_ne np5b]; exact hp56
        walk_at "rd"
        refine ite2 (fun cc => ?_) (fun cc => ?_)
        · walk_at "rd"
          refine ⟨p5, xs, rfl, .inl ⟨SqL.of e5, fun g hg => ?_⟩⟩
          obtain ⟨z1, z2, z3⟩ := wo1_new (o := .tup xs) hg
          exact ⟨g, l7, rfl, z1, z3, hl7, .inr (SqT.of (wo1_at upd_same z2))⟩
        · walk_at "rd"
          refine ⟨p5, xs, rfl, .inl (SqL.of e5), fun g hg => ?_⟩
          obtain ⟨z1, z2, z3⟩ := wo1_new (o := .lst xs) hg
          exact ⟨g, l7, rfl, z1, z3, hl7, .inl (SqL.of (wo1_at upd_same z2))⟩
      rintro σ' H7 ⟨g, l7, rfl, W7, hb7, hl7, sg⟩
      -- extra
      refine ⟨fun σ' H8 => ∃ (x : Addr) (l8 : List V), σ' = [some (.ref b), some (.int (t : Int)), some (.ref pl), some (.ref a1), some (.int (gapsM ps : Int)), none, some (.ref p5), some (.ref p6), some (.ref g), some (.ref x), none, none] ∧ Same (Wo H7 [b]) (Wo H8 [b]) ∧ H8 b = some (.lst l8) ∧ BagL l8 (n + t + gapsM ps + 2) ∧ SqS K (Wo H8 [b]) x ys, ?_, ?_⟩
      · walk_at "rd"
        refine ⟨b, 2, l7, _, rfl, hb7, hl7, by omega, by decide, by decide, fun r l8 r0 r1 hl8 => ?_⟩
        have e6 : (upd H7 b (.lst l8)) p6 = some (.lst ys) := by rw [upd_ne np6b]; exact wo_same _ _ (W7 _ _ (wo1_at hp6 np6b))
        walk_at "rd"
        refine ite2 (fun cc => ?_) (fun cc => ?_)
        · walk_at "rd"
          refine ⟨p6, ys, rfl, .inl ⟨SqL.of e6, fun x hx => ?_⟩⟩
          obtain ⟨z1, z2, z3⟩ := wo1_new (o := .tup ys) hx
          exact ⟨x, l8, rfl, z1, z3, hl8, .inr (SqT.of (wo1_at upd_same z2))⟩
        · walk_at "rd"
          refine ⟨p6, ys, rfl, .inl (SqL.of e6), fun x hx => ?_⟩
          obtain ⟨z1, z2, z3⟩ := wo1_new (o := .lst ys) hx
          exact ⟨x, l8, rfl, z1, z3, hl8, .inl (SqL.of (wo1_at upd_same z2))⟩
      rintro σ' H8 ⟨x, l8, rfl, W8, hb8, hl8, sx⟩
      have W68 := W7.trans W8
      have S8 : Same (Wo H6 [b]) H8 := W68.trans wo_same
      have ma : MoveAt K C H8 a1 t ps := by
        obtain ⟨dx, q, h1, h2⟩ := m6
        have nab : a1 ≠ b := fun z => by rw [z, hb6] at h1; cases h1
        refine ⟨dx, q, S8 _ _ (wo1_at h1 nab), Same.sqT S8 ?_⟩
        rcases h2 with (h2 | ⟨o, h2⟩) | h2
        · exact .inl (.inl (wo1_at h2 fun z => by rw [z, hb6] at h2; cases h2))
        · exact .inl (.inr ⟨o, wo1_at h2 fun z => by rw [z, hb6] at h2; cases h2⟩)
        · exact .inr h2
      have sg8 : SqS K H8 g xs := (sg.same W8).same wo_same
      have sx8 : SqS K H8 x ys := sx.same wo_same
      have dX8 := DpAll.mono S8 dX
      have dY8 := DpAll.mono S8 dY
      have h5 : H8 p5 = some (.lst xs) := S8 _ _ (wo1_at hp56 np5b)
      have h6 : H8 p6 = some (.lst ys) := S8 _ _ (wo1_at hp6 np6b)
      have hpl8 : H8 pl = some (.lst (ps.map V.int)) := S8 _ _ (W6 _ _ (wo1_at hpl npb))
      have E8 : Same (Wo H [b]) H8 := W6.trans S8
      have okx : MoveOk xs.length ps := by rw [hxl]; exact ok
      have shA : ∀ d ∈ applyM ps ds es, Sh d := fun d hd => (mem_apply ps ds es hd).elim (hsh d) (hsh2 d)
      -- told, due
      walk_at "rd"
      obtain ⟨_, _, za, _⟩ := id ma
      refine ⟨.inr ⟨_, _, za⟩, a1, g, x, t, ps, xs, ys, rfl, ma, ok, by omega, sg8, sx8, fun _ _ H9 p9 s9 n9 hp9 => ?_, fun ne => absurd hxl ne, fun _ ne => absurd hyl ne⟩
      walk_at "rd"
      refine ⟨pl, p5, p6, ps, xs, ys, rfl, SqL.of (s9 _ _ hpl8), SqL.of (s9 _ _ h5), SqL.of (s9 _ _ h6), okx, hyl, by omega, fun HA pA sA nA hpA => ?_⟩
      have S9A := s9.trans sA
      have hp9A := sA _ _ hp9
      have n9A : pA ≠ p9 := (ne_of_none hp9 nA).symm
      -- not isinstance(told, list)
      walk_at "rd"
      refine ⟨.ref p9, .ty "list", .type "list", .type "list", true, rfl, .ty _, .base (.lst hp9A), if_pos (beq_self_eq_true _), ?_⟩
      walk_at "rd"
      refine ⟨_, _, .lst (SqL.of hp9A) (dpAll_apply ps (DpAll.mono S9A dX8) (DpAll.mono S9A dY8)), .lst (SqL.of hpA) (dpAll_apply ps (DpAll.mono S9A dX8) (DpAll.mono S9A dY8)), shaped_list shA, shaped_list shA, ?_⟩
      walk_at "rd"
      refine ifNT (eqv_same shA) ?_
      walk_at "rd"
      refine ⟨g, xs, rfl, sg8.same S9A, fun L1 hL1 => ?_⟩
      have sB := same_new (o := .lst xs) (Same.refl HA) hL1
      have S9B := S9A.trans sB
      walk_at "rd"
      refine ⟨_, _, .lst (SqL.of upd_same) (DpAll.mono S9B dX8), .lst (SqL.of (S9B _ _ h5)) (DpAll.mono S9B dX8), shaped_list hsh, shaped_list hsh, ?_⟩
      walk_at "rd"
      refine ifNT (eqv_same hsh) ?_
      walk_at "rd"
      refine ⟨x, ys, rfl, sx8.same S9B, fun L2 hL2 => ?_⟩
      have sC := same_new (o := .lst ys) sB hL2
      have S9C := S9A.trans sC
      walk_at "rd"
      refine ⟨_, _, .lst (SqL.of upd_same) (DpAll.mono S9C dY8), .lst (SqL.of (S9C _ _ h6)) (DpAll.mono S9C dY8), shaped_list hsh2, shaped_list hsh2, ?_⟩
      walk_at "rd"
      refine ifNT (eqv_same hsh2) ?_
      -- told.append("more")
      walk_at "rd"
      have hp9C := sC _ _ hp9A
      have hpAC := sC _ _ hpA
      refine ⟨.inl ⟨rfl, _, SqL.of hp9C⟩, ?_⟩
      walk_at "rd"
      have lA : (applyM ps xs ys).length = ps.length := apply_length ps xs ys (ok_range okx) (by omega)
      refine ⟨p9, _, _, rfl, rfl, hp9C, lt_line (by omega), ?_⟩
      have S8D : Same H8 (upd (upd (upd HA L1 (.lst xs)) L2 (.lst ys)) p9 (.lst (applyM ps xs ys ++ [.str "more"]))) := fun c o e => by
        rw [upd_ne (ne_of_none e n9)]
        exact S9C c o e
      have hpAD : (upd (upd (upd HA L1 (.lst xs)) L2 (.lst ys)) p9 (.lst (applyM ps xs ys ++ [.str "more"]))) pA = some (.lst (applyM ps xs ys)) := by
        rw [upd_ne n9A]
        exact hpAC
      generalize (upd (upd (upd HA L1 (.lst xs)) L2 (.lst ys)) p9 (.lst (applyM ps xs ys ++ [.str "more"]))) = HD at S8D hpAD ⊢
      -- move(given, extra) != due
      have mD := ma.same S8D
      obtain ⟨_, _, zD, _⟩ := id mD
      walk_at "rd"
      refine ⟨.inr ⟨_, _, zD⟩, a1, g, x, t, ps, xs, ys, rfl, mD, ok, by omega, sg8.same S8D, sx8.same S8D, fun _ _ HE pE sE nE hpE => ?_, fun ne => absurd hxl ne, fun _ ne => absurd hyl ne⟩
      have S8E := S8D.trans sE
      walk_at "rd"
      refine ⟨_, _, .lst (SqL.of hpE) (dpAll_apply ps (DpAll.mono S8E dX8) (DpAll.mono S8E dY8)), .lst (SqL.of (sE _ _ hpAD)) (dpAll_apply ps (DpAll.mono S8E dX8) (DpAll.mono S8E dY8)), shaped_list shA, shaped_list shA, ?_⟩
      walk_at "rd"
      refine ifNT (eqv_same shA) ?_
      walk_at "rd"
      obtain ⟨dE, qE, zE, zqE⟩ := id (mD.same sE)
      refine ⟨a1, C, dE, _, _, rfl, zE, T.cl, T.np, mfs_places _ _, ?_⟩
      walk_at "rd"
      refine ⟨pl, _, rfl, .inl ⟨SqL.of (S8E _ _ hpl8), fun TP hTP => ?_⟩⟩
      have sF := same_new (o := .tup (ps.map V.int)) (Same.refl HE) hTP
      refine ⟨_, _, dp_intsT (Same.sqT sF zqE), dp_intsT (SqT.of upd_same), shaped_tuple (sh_ints _), shaped_tuple (sh_ints _), ?_⟩
      walk_at "rd"
      refine ifNT (by rw [eqv_tuple, eqvAll_ints]; simp) ?_
      have S8F := S8E.trans sF
      have hpAF := sF _ _ (sE _ _ hpAD)
      generalize (upd HE TP (.tup (ps.map V.int))) = HF at S8F hpAF sF ⊢
      have mF := ma.same S8F
      obtain ⟨_, _, zF, _⟩ := id mF
      have tF : Tabs TS HF := tabs_same (tabs_wo hT hb) (E8.trans S8F)
      have eF : ExtN (Wo H [b]) HF := ext_same (E8.trans S8F)
      have hbF : HF b = some (.lst l8) := S8F _ _ hb8
      -- the end
      walk_at "rd"
      refine ite2 (fun cc => ?_) (fun cc => ?_)
      · have g0 : gapsM ps = 0 := by
          have := V.int.inj (of_decide_eq_true cc)
          omega
        have ey0 : ys = [] := List.length_eq_zero_iff.mp (by omega)
        subst ey0
        walk_at "rd"
        refine ⟨.inr ⟨_, _, zF⟩, a1, g, e0, t, ps, xs, [], rfl, mF, ok, by omega, sg8.same S8F, .inr (he0 _), fun _ _ HG pG sG nG hpG => ?_, fun ne => absurd hxl ne, fun _ ne => absurd g0.symm ne⟩
        have S8G := S8F.trans sG
        walk_at "rd"
        refine ⟨_, _, .lst (SqL.of hpG) (dpAll_apply ps (DpAll.mono S8G dX8) (DpAll.mono S8G dY8)), .lst (SqL.of (sG _ _ hpAF)) (dpAll_apply ps (DpAll.mono S8G dX8) (DpAll.mono S8G dY8)), shaped_list shA, shaped_list shA, ?_⟩
        rw [eqv_same shA]
        exact k _ l8 (ext_same (E8.trans S8G)) (tabs_same tF sG) (sG _ _ hbF) (hl8.mono (by omega))
      · have g0 : gapsM ps ≠ 0 := fun z => cc (decide_eq_true (by rw [z]; rfl))
        refine ⟨tF, fun HG eG tG => ?_⟩
        have mG := mF.ext eG
        obtain ⟨_, _, zG, _⟩ := id mG
        have sgG : SqS K HG g xs := (sg8.same S8F).imp (fun z => ext_sqL eG z) (fun z => ext_sqT eG z)
        walk_at "rd"
        refine ⟨⟨_, _, zG⟩, a1, g, e0, t, ps, xs, [], rfl, mG, ok, by omega, sgG, .inr (he0 _), fun _ e => absurd e.symm g0, fun ne => absurd hxl ne, fun _ _ HI dd sI ndd => ?_⟩
        refine ⟨CM, "Mismatch", ["wanted", "got"], by simp, rfl, dd, _, [.int (gapsM ps : Int), .int 0], rfl, upd_same, rfl, by show 2 ≤ 10; decide, fun pJ hpJ => ?_⟩
        have sJ := same_new (o := .tup [.str "Mismatch", .int (gapsM ps : Int), .int 0]) (same_new (o := .xd [("got", .int 0), ("wanted", .int (gapsM ps : Int))]) sI ndd) hpJ
        walk_at "rd"
        refine ⟨(by show 3 ≤ sizeLine; decide), fun TD hTD => ?_⟩
        have sK := same_new (o := .tup [.str "Mismatch", .int (gapsM ps : Int), .int 0]) (Same.refl _) hTD
        walk_at "rd"
        refine ⟨_, _, misD_dp (b := 0) (sK _ _ upd_same), misD_dp (b := 0) upd_same, misD_sh _ _, misD_sh _ _, ?_⟩
        rw [misD_eqv]
        have sGJ := sJ.trans sK
        exact k _ l8 ((eF.trans eG).trans (ext_same sGJ)) (tabs_same tG sGJ) (sGJ _ _ (eG _ _ hbF fun _ z => by cases z)) (hl8.mono (by omega))
end
end MV

namespace MV
open PySem PySem.Spec PyProof.Rows L2 SB MM LamX
local macro_rules | `(tactic| walk_at "rd") => `(tactic| repeat (first | (refine ⟨_, rfl, ?_⟩) | (refine ⟨_, _, rfl, rfl, ?_⟩) | (refine ⟨_, _, rfl, ?_⟩) | (refine ⟨rfl, ?_⟩)))
abbrev s_law : Stmt := top 21
def spLaw (K : PySem.W.Frag) (T : List (Addr × Str)) : Sp := fun vs H Q _ => ∃ (a : Addr) (ns : List Int), vs = [.ref a] ∧ SqL K H a (ns.map V.int) ∧ ns.length ≤ 63 ∧ Tabs T H ∧ ∀ H', Q (.bl true) H'
section
variable {P : Program} {w : World} {K : PySem.W.Frag} {mg : Str → Option Value} {base : Heap} {C : Addr} {TS : List (Addr × Str)}
theorem sc_law : FnScope ["_law_script", "_law_at", "_law_bag_here", "_law_takes", "_law_places_here"] ["_law_script"] (defScope s_law) := ⟨rfl, rfl, rfl, by decide +kernel, rfl, by decide +kernel, by decide +kernel⟩
theorem ok_law {f : Addr} {fd : FuncData} (F : Fun K "law" "law" s_law f fd) (T : Blt mg)
    (Dbag : Cl P w K mg base CX0 1 "_law_bag" (spBag K)) (Dcount : Cl P w K mg base CX0 2 "_law_count" spCount) (Dplaces : Cl P w K mg base CX0 2 "_law_places" spPlaces)
    (Dcalled : Cl P w K mg base CX0 7 "_law_called" (spCalled K TS)) (Dwrong : Cl P w K mg base CX0 7 "_law_wrong" (spWrong K TS)) : FnOk P w K mg base CX0 8 f fd ["_law_script"] (spLaw K TS) := by
  refine F.ok sc_law (fun vs H Q E h => ?_) (fun cdv A outer s H vs Q E hr h => ?_)
  · obtain ⟨a, ns, rfl, _⟩ := h
    rfl
  · obtain ⟨a, ns, rfl, hS, hlen, hT, k⟩ := h
    refine ⟨_, (pss_cons (ps_for PassesOwn.never rfl (pi_range1 (by rfl) T.n_range (pa_cons (pe_callB (call_max2 rfl) (by rfl) T.n_max (by decide +kernel) (pa_cons pe_int (pa_cons (pe_callB (call_min2 rfl) (by rfl) T.n_min (by decide +kernel) (pa_cons pe_int (pa_cons (pe_callB call_len_seq (by rfl) T.n_len (by decide +kernel) (pa_cons (pv 0) pa_nil)) pa_nil))) pa_nil))) pa_nil)) (pg_name (i := 1) sc_law.nd rfl (Or.inl rfl))
        (pss_cons (ps_set (i := 2) sc_law.nd rfl (Or.inl rfl) (pe_cl Dbag hr (by decide) (by rfl) pass0 (pa_cons (pv 0) (pa_cons (pv 1) pa_nil))))
        (pss_cons (ps_set (i := 3) sc_law.nd rfl (Or.inl rfl) (pe_cl Dcount hr (by decide) (by rfl) pass0 (pa_cons (pv 2) (pa_cons pe_int pa_nil))))
        (pss_cons (ps_set (i := 4) sc_law.nd rfl (Or.inl rfl) (pe_cl Dplaces hr (by decide) (by rfl) pass0 (pa_cons (pv 2) (pa_cons (pv 3) (pa_cons pe_int pa_nil)))))
        (pss_one (ps_if (PW.pt (pw_or (pt_not (pt_val (pe_cl Dcalled hr (by decide) (by rfl) pass0 (pa_cons (pv 2) (pa_cons (pv 3) (pa_cons (pv 4) pa_nil)))))) (pw_or1 (pt_not (pt_val (pe_cl Dwrong hr (by decide) (by rfl) pass0 (pa_cons (pv 2) (pa_cons (pv 3) (pa_cons (pv 4) pa_nil))))))))) (pss_one (ps_ret pe_bl)) pss_nil))))))
      (pss_one (ps_ret pe_bl))), ?_⟩
    walk_at "rd"
    refine ⟨a, _, rfl, .inl hS, ?_⟩
    rw [List.length_map]
    walk_at "rd"
    have hm : ∃ m : Nat, (if (if (ns.length : Int) < 6 then (ns.length : Int) else 6) > 1 then (if (ns.length : Int) < 6 then (ns.length : Int) else 6) else 1) = (m : Int) ∧ m ≤ 6 := by
      by_cases c : (ns.length : Int) < 6
      · rw [if_pos c]
        by_cases c2 : (ns.length : Int) > 1
        · rw [if_pos c2]; exact ⟨ns.length, rfl, by omega⟩
        · rw [if_neg c2]; exact ⟨1, rfl, by omega⟩
      · rw [if_neg c]; exact ⟨6, rfl, by omega⟩
    obtain ⟨m, em, hm6⟩ := hm
    rw [em]
    refine ⟨by omega, by omega, ?_⟩
    rw [Int.toNat_natCast]
    refine for_it walk_range (fun i σ H' => ∃ v1 v2 v3 v4 : Option V, σ = [some (.ref a), v1, v2, v3, v4] ∧ ExtN H H' ∧ Tabs TS H') ⟨none, none, none, none, rfl, ExtN.refl H, hT⟩ (fun _ _ _ _ _ => trivial) ?_ ?_
    · rintro ii x σ H0 H' hi ⟨v1, v2, v3, v4, rfl, sm, hT'⟩ ⟨rfl, rfl⟩
      walk_at "rd"
      refine ⟨a, ns, _, rfl, ext_sqL sm hS, by omega, by omega, by omega, fun b l nb hl => ?_⟩
      walk_at "rd"
      refine ⟨b, 60, l, 0, rfl, upd_same, hl, by omega, by omega, fun t l1 ht hl1 => ?_⟩
      rw [upd_upd]
      have s1 := same_new (o := .lst l1) (Same.refl H') nb
      have ht' : t ≤ 60 := by omega
      walk_at "rd"
      refine ⟨b, t, 5, l1, 2, rfl, upd_same, hl1, by omega, by omega, by omega, fun H2 p2 l2 ps k2 hb2 hl2 n2 hp2 ok1 hz1 => ?_⟩
      have np2b : p2 ≠ b := (ne_of_none upd_same n2).symm
      have s2 : Same H' H2 := fun c o e => k2 c o (s1 c o e) (ne_of_none e nb)
      walk_at "rd"
      refine ⟨b, p2, t, ps, l2, _, rfl, hb2, hl2, by omega, by omega, hp2, np2b, ok1, by omega, tabs_same hT' s2, fun H3 l3 e3 t3 hb3 hl3 => ?_⟩
      have hp3 : H3 p2 = some (.lst (ps.map V.int)) := e3 _ _ (wo1_at hp2 np2b) (fun _ z => by cases z)
      have x3 : ExtN H' H3 := fun c o e hn => e3 _ _ (wo1_at (s2 _ _ e) (ne_of_none e nb)) hn
      walk_at "rd"
      refine ⟨b, p2, t, ps, l3, _, rfl, hb3, hl3, by omega, by omega, hp3, np2b, ok1, by omega, t3, fun H4 e4 t4 => ?_⟩
      have x4 : ExtN H' H4 := fun c o e hn => e4 _ _ (wo1_at (x3 _ _ e hn) (ne_of_none e nb)) hn
      walk_at "rd"
      exact ⟨_, _, _, _, rfl, sm.trans x4, t4⟩
    · rintro σ H' ⟨v1, v2, v3, v4, rfl, sm, hT'⟩
      exact k H'
end
end MV

namespace MV
open PySem PySem.Spec PyProof.Rows L2 SB MM NdefX
theorem all_mk {l : PySem.W.OpenLaw} {w : World} {K : PySem.W.Frag} {h : Heap} {mg : Str → Option Value} {fa : Addr} (X : K.In h) (G : h.Ns mainGlobals mg) (hfa : mg "law" = some (.ref fa))
    {fbag ftake fof fcount fplaces fvalues frefused fdue fcalled cdcalled tPcalled fwrong cdwrong tPwrong flaw C fm_init fm_call Tm_call Em_call pm_gaps fm_gaps XBadMove iBadMove qBadMove ccBadMove NBadMove XNoPlace iNoPlace qNoPlace ccNoPlace NNoPlace XMismatch iMismatch qMismatch ccMismatch NMismatch : Addr} {odbag anbag odtake antake odof anof odcount ancount odplaces anplaces odvalues anvalues odrefused anrefused oddue andue odcalled ancalled tdcalled odwrong anwrong tdwrong odlaw anlaw odm_init anm_init odm_call anm_call odTm_call odm_gaps anm_gaps ddBadMove odBadMove anBadMove cddBadMove cldBadMove ddNoPlace odNoPlace anNoPlace cddNoPlace cldNoPlace ddMismatch odMismatch anMismatch cddMismatch cldMismatch dde0 : Option Addr} {slbag sltake slof slcount slplaces slvalues slrefused sldue slcalled tscalled slwrong tswrong sllaw slm_init slm_call slTm_call slm_gaps slBadMove ccsBadMove cslBadMove slNoPlace ccsNoPlace cslNoPlace slMismatch ccsMismatch cslMismatch sle0 : Array (Option Value)} {ocbag kVbag dcbag pmbag ctbag cdbag octake kVtake dctake pmtake cttake cdtake ocof kVof dcof pmof ctof cdof occount kVcount dccount pmcount ctcount cdcount ocplaces kVplaces dcplaces pmplaces ctplaces cdplaces ocvalues kVvalues dcvalues pmvalues ctvalues cdvalues ocrefused kVrefused dcrefused pmrefused ctrefused cdrefused ocdue kVdue dcdue pmdue ctdue cddue occalled kVcalled dccalled pmcalled ctcalled tccalled ocwrong kVwrong dcwrong pmwrong ctwrong tcwrong oclaw kVlaw dclaw pmlaw ctlaw cdlaw ocm_init kVm_init dcm_init pmm_init ctm_init cdm_init ocm_call kVm_call dcm_call pmm_call ctm_call cdm_call ocTm_call ocm_gaps kVm_gaps dcm_gaps pmm_gaps ctm_gaps cdm_gaps ocBadMove kVBadMove dcBadMove pmBadMove ctBadMove cclBadMove clBadMove ocNoPlace kVNoPlace dcNoPlace pmNoPlace ctNoPlace cclNoPlace clNoPlace ocMismatch kVMismatch dcMismatch pmMismatch ctMismatch cclMismatch clMismatch : Value} {tvcalled tvwrong vsBadMove vsNoPlace vsMismatch : Array Value} {nTm_call ne0 : Nat} {rm_gaps bsBadMove bmBadMove subBadMove bsNoPlace bmNoPlace subNoPlace bsMismatch bmMismatch subMismatch : List Value} {nmBadMove qnBadMove fileBadMove nmNoPlace qnNoPlace fileNoPlace nmMismatch qnMismatch fileMismatch : Str} {snBadMove snNoPlace snMismatch : List Str} {abBadMove abNoPlace abMismatch : Bool} {colBadMove colNoPlace colMismatch : Option Bool} {k0BadMove k1BadMove k2BadMove k3BadMove k5BadMove k0NoPlace k1NoPlace k2NoPlace k3NoPlace k5NoPlace k0Mismatch k1Mismatch k2Mismatch k3Mismatch k5Mismatch : Option Value} {tfBadMove tfNoPlace tfMismatch : Tok}
    (abag : PySem.W.nsIn K mainGlobals "_law_bag" = some (some (.ref fbag)))
    (lbag : K.lookup fbag = some ⟨ocbag, odbag, .func (PySem.W.fnOf "_law_bag" "_law_bag" (defArgs s_bag) (defBody s_bag) (defScope s_bag) .none kVbag dcbag pmbag anbag cdbag ctbag), slbag⟩)
    (cbag : PySem.W.codeIn K cdbag "_law_bag" = true)
    (kbag : PySem.W.keepIn K (.ref fbag) = true)
    (atake : PySem.W.nsIn K mainGlobals "_law_take" = some (some (.ref ftake)))
    (ltake : K.lookup ftake = some ⟨octake, odtake, .func (PySem.W.fnOf "_law_take" "_law_take" (defArgs s_take) (defBody s_take) (defScope s_take) .none kVtake dctake pmtake antake cdtake cttake), sltake⟩)
    (ctake : PySem.W.codeIn K cdtake "_law_take" = true)
    (ktake : PySem.W.keepIn K (.ref ftake) = true)
    (aof : PySem.W.nsIn K mainGlobals "_law_of" = some (some (.ref fof)))
    (lof : K.lookup fof = some ⟨ocof, odof, .func (PySem.W.fnOf "_law_of" "_law_of" (defArgs s_of) (defBody s_of) (defScope s_of) .none kVof dcof pmof anof cdof ctof), slof⟩)
    (cof : PySem.W.codeIn K cdof "_law_of" = true)
    (kof : PySem.W.keepIn K (.ref fof) = true)
    (acount : PySem.W.nsIn K mainGlobals "_law_count" = some (some (.ref fcount)))
    (lcount : K.lookup fcount = some ⟨occount, odcount, .func (PySem.W.fnOf "_law_count" "_law_count" (defArgs s_count) (defBody s_count) (defScope s_count) .none kVcount dccount pmcount ancount cdcount ctcount), slcount⟩)
    (ccount : PySem.W.codeIn K cdcount "_law_count" = true)
    (kcount : PySem.W.keepIn K (.ref fcount) = true)
    (aplaces : PySem.W.nsIn K mainGlobals "_law_places" = some (some (.ref fplaces)))
    (lplaces : K.lookup fplaces = some ⟨ocplaces, odplaces, .func (PySem.W.fnOf "_law_places" "_law_places" (defArgs s_places) (defBody s_places) (defScope s_places) .none kVplaces dcplaces pmplaces anplaces cdplaces ctplaces), slplaces⟩)
    (cplaces : PySem.W.codeIn K cdplaces "_law_places" = true)
    (kplaces : PySem.W.keepIn K (.ref fplaces) = true)
    (avalues : PySem.W.nsIn K mainGlobals "_law_values" = some (some (.ref fvalues)))
    (lvalues : K.lookup fvalues = some ⟨ocvalues, odvalues, .func (PySem.W.fnOf "_law_values" "_law_values" (defArgs s_values) (defBody s_values) (defScope s_values) .none kVvalues dcvalues pmvalues anvalues cdvalues ctvalues), slvalues⟩)
    (cvalues : PySem.W.codeIn K cdvalues "_law_values" = true)
    (kvalues : PySem.W.keepIn K (.ref fvalues) = true)
    (arefused : PySem.W.nsIn K mainGlobals "_law_refused" = some (some (.ref frefused)))
    (lrefused : K.lookup frefused = some ⟨ocrefused, odrefused, .func (PySem.W.fnOf "_law_refused" "_law_refused" (defArgs s_refused) (defBody s_refused) (defScope s_refused) .none kVrefused dcrefused pmrefused anrefused cdrefused ctrefused), slrefused⟩)
    (crefused : PySem.W.codeIn K cdrefused "_law_refused" = true)
    (krefused : PySem.W.keepIn K (.ref frefused) = true)
    (adue : PySem.W.nsIn K mainGlobals "_law_due" = some (some (.ref fdue)))
    (ldue : K.lookup fdue = some ⟨ocdue, oddue, .func (PySem.W.fnOf "_law_due" "_law_due" (defArgs s_due) (defBody s_due) (defScope s_due) .none kVdue dcdue pmdue andue cddue ctdue), sldue⟩)
    (cdue : PySem.W.codeIn K cddue "_law_due" = true)
    (kdue : PySem.W.keepIn K (.ref fdue) = true)
    (acalled : PySem.W.nsIn K mainGlobals "_law_called" = some (some (.ref fcalled)))
    (lcalled : K.lookup fcalled = some ⟨occalled, odcalled, .func (PySem.W.fnOf "_law_called" "_law_called" (defArgs s_called) (defBody s_called) (defScope s_called) .none kVcalled dccalled pmcalled ancalled (.ref cdcalled) ctcalled), slcalled⟩)
    (ccalled : PySem.W.codeIn K (.ref cdcalled) "_law_called" = true)
    (kcalled : PySem.W.keepIn K (.ref fcalled) = true)
    (tlcalled : K.lookup cdcalled = some ⟨tccalled, tdcalled, .fields tvcalled, tscalled⟩)
    (txcalled : tvcalled[11]? = some (.ref tPcalled))
    (thcalled : PySem.W.codeHdIn K cdcalled tPcalled = true)
    (ttcalled : h.get? tPcalled = some { cls := .none, data := .fields #[] })
    (tncalled : K.lookup tPcalled = none)
    (awrong : PySem.W.nsIn K mainGlobals "_law_wrong" = some (some (.ref fwrong)))
    (lwrong : K.lookup fwrong = some ⟨ocwrong, odwrong, .func (PySem.W.fnOf "_law_wrong" "_law_wrong" (defArgs s_wrong) (defBody s_wrong) (defScope s_wrong) .none kVwrong dcwrong pmwrong anwrong (.ref cdwrong) ctwrong), slwrong⟩)
    (cwrong : PySem.W.codeIn K (.ref cdwrong) "_law_wrong" = true)
    (kwrong : PySem.W.keepIn K (.ref fwrong) = true)
    (tlwrong : K.lookup cdwrong = some ⟨tcwrong, tdwrong, .fields tvwrong, tswrong⟩)
    (txwrong : tvwrong[11]? = some (.ref tPwrong))
    (thwrong : PySem.W.codeHdIn K cdwrong tPwrong = true)
    (ttwrong : h.get? tPwrong = some { cls := .none, data := .fields #[] })
    (tnwrong : K.lookup tPwrong = none)
    (alaw : PySem.W.nsIn K mainGlobals "law" = some (some (.ref flaw)))
    (llaw : K.lookup flaw = some ⟨oclaw, odlaw, .func (PySem.W.fnOf "law" "law" (defArgs s_law) (defBody s_law) (defScope s_law) .none kVlaw dclaw pmlaw anlaw cdlaw ctlaw), sllaw⟩)
    (claw : PySem.W.codeIn K cdlaw "law" = true)
    (klaw : PySem.W.keepIn K (.ref flaw) = true)
    (aC : PySem.W.nsIn K mainGlobals "Move" = some (some (.ref C)))
    (am_init : PySem.W.findIn K (.ref C) "__init__" = some (some (.ref fm_init)))
    (im_init : PySem.W.isFn K (.ref fm_init) = true)
    (lm_init : K.lookup fm_init = some ⟨ocm_init, odm_init, .func (PySem.W.fnOf "__init__" "Move.__init__" (defArgs s_m_init) (defBody s_m_init) (defScope s_m_init) .none kVm_init dcm_init pmm_init anm_init cdm_init ctm_init), slm_init⟩)
    (cm_init : PySem.W.codeIn K cdm_init "Move.__init__" = true)
    (km_init : PySem.W.keepIn K (.ref fm_init) = true)
    (am_call : PySem.W.findIn K (.ref C) "__call__" = some (some (.ref fm_call)))
    (im_call : PySem.W.isFn K (.ref fm_call) = true)
    (lm_call : K.lookup fm_call = some ⟨ocm_call, odm_call, .func (PySem.W.fnOf "__call__" "Move.__call__" (defArgs s_m_call) (defBody s_m_call) (defScope s_m_call) (.ref Tm_call) kVm_call dcm_call pmm_call anm_call cdm_call ctm_call), slm_call⟩)
    (cm_call : PySem.W.codeIn K cdm_call "Move.__call__" = true)
    (km_call : PySem.W.keepIn K (.ref fm_call) = true)
    (xm_call : PySem.W.fnIn K fm_call = true)
    (ym_call : K.lookup Tm_call = some ⟨ocTm_call, odTm_call, .seq #[.ref Em_call] nTm_call, slTm_call⟩)
    (am_gaps : PySem.W.findIn K (.ref C) "gaps" = some (some (.ref pm_gaps)))
    (gm_gaps : PySem.W.specialIn K (.ref pm_gaps) "__get__" = some (some (.builtin "property.__get__")))
    (tm_gaps : PySem.W.takesIn K (.ref pm_gaps) = some true)
    (r_m_gaps : PySem.W.recIn K pm_gaps "property" = some (.ref fm_gaps :: rm_gaps))
    (lm_gaps : K.lookup fm_gaps = some ⟨ocm_gaps, odm_gaps, .func (PySem.W.fnOf "gaps" "Move.gaps" (defArgs s_m_gaps) (defBody s_m_gaps) (defScope s_m_gaps) .none kVm_gaps dcm_gaps pmm_gaps anm_gaps cdm_gaps ctm_gaps), slm_gaps⟩)
    (cm_gaps : PySem.W.codeIn K cdm_gaps "Move.gaps" = true)
    (km_gaps : PySem.W.keepIn K (.ref fm_gaps) = true)
    (pgC : PySem.W.plainGet K C Str.empty = true)
    (hdC : PySem.W.hasDictIn K C = true)
    (poC : PySem.W.plainOver K C = true)
    (saC : PySem.W.findIn K (.ref C) "__setattr__" = some (some (.builtin "object.__setattr__")))
    (mkC : PySem.W.makesIn K C = true)
    (kcC : PySem.W.keepIn K (.ref C) = true)
    (nt : PySem.W.findIn K (.ref C) "takes" = some none)
    (np : PySem.W.findIn K (.ref C) "places" = some none)
    (hcl : PySem.W.findIn K (.ref C) "__class__" = some (some (.builtin "object.__class__")))
    (hcg : PySem.W.specialIn K (.builtin "object.__class__") "__get__" = some (some (.builtin "getset_descriptor.__get__")))
    (hct : PySem.W.takesIn K (.builtin "object.__class__") = some true)
    (hcm : PySem.W.mroIn K C (.type "object") = some true)
    (sf : PySem.W.selfFirst K C = true)
    (nf : PySem.W.notFirst K C (.ref C) = true)
    (rds : PySem.W.readsIn K C (.type "type") = true)
    (rga : PySem.W.specialIn K (.ref C) "__getattribute__" = some (some (.builtin "type.__getattribute__")))
    (aBadMove : PySem.W.nsIn K mainGlobals "BadMove" = some (some (.ref XBadMove)))
    (lBadMove : K.lookup XBadMove = some (excClassObj nmBadMove qnBadMove XBadMove NBadMove bsBadMove bmBadMove true snBadMove subBadMove abBadMove colBadMove ddBadMove k0BadMove k1BadMove k2BadMove k3BadMove k5BadMove "ValueError.__new__"))
    (rBadMove : PySem.HandSPX.refsVE bmBadMove = true)
    (saBadMove : PySem.W.findIn K (.ref XBadMove) "__setattr__" = some (some (.builtin "object.__setattr__")))
    (ecBadMove : PySem.W.subIn K (.ref XBadMove) (.type "BaseException") = some true)
    (tyBadMove : PySem.W.typeIn K (.ref XBadMove) = some (.type "type"))
    (kcBadMove : PySem.W.keepIn K (.ref XBadMove) = true)
    (inBadMove : PySem.W.findIn K (.ref XBadMove) "__init__" = some (some (.ref iBadMove)))
    (tiBadMove : PySem.W.typeIn K (.ref iBadMove) = some (.type "function"))
    (mrBadMove : PySem.W.mroIn K XBadMove (.ref XBadMove) = some true)
    (suBadMove : PySem.W.ks_superIn K XBadMove XBadMove "__init__" = some (some (.builtin "ValueError.__init__")))
    (sbBadMove : PySem.W.subIn K (.ref XBadMove) (.type "ValueError") = some true)
    (fnBadMove : K.lookup iBadMove = some ⟨ocBadMove, odBadMove, .func (PySem.W.ksFn "__init__" "BadMove.__init__" (defArgs s_BadMove) (defBody s_BadMove) (defScope s_BadMove) .none kVBadMove dcBadMove pmBadMove anBadMove (.ref qBadMove) ctBadMove ccBadMove), slBadMove⟩)
    (cdBadMove : PySem.W.codeIn K (.ref qBadMove) "BadMove.__init__" = true)
    (coBadMove : K.lookup qBadMove = some ⟨cclBadMove, cddBadMove, .fields vsBadMove, ccsBadMove⟩)
    (fiBadMove : vsBadMove[2]? = some (.str fileBadMove tfBadMove))
    (flBadMove : ((l.prog.main.file : Str) == fileBadMove) = true)
    (ceBadMove : K.lookup ccBadMove = some ⟨clBadMove, cldBadMove, .cell (some (.ref XBadMove)), cslBadMove⟩)
    (noBadMove_at : PySem.W.findIn K (.ref XBadMove) "at" = some none)
    (gaBadMove : PySem.W.findIn K (.ref XBadMove) "__getattribute__" = some (some (.builtin "BaseException.__getattribute__")))
    (ggBadMove : PySem.W.findIn K (.ref XBadMove) "__getattr__" = some none)
    (hdBadMove : PySem.W.hasDictIn K XBadMove = true)
    (aNoPlace : PySem.W.nsIn K mainGlobals "NoPlace" = some (some (.ref XNoPlace)))
    (lNoPlace : K.lookup XNoPlace = some (excClassObj nmNoPlace qnNoPlace XNoPlace NNoPlace bsNoPlace bmNoPlace true snNoPlace subNoPlace abNoPlace colNoPlace ddNoPlace k0NoPlace k1NoPlace k2NoPlace k3NoPlace k5NoPlace "ValueError.__new__"))
    (rNoPlace : PySem.HandSPX.refsVE bmNoPlace = true)
    (saNoPlace : PySem.W.findIn K (.ref XNoPlace) "__setattr__" = some (some (.builtin "object.__setattr__")))
    (ecNoPlace : PySem.W.subIn K (.ref XNoPlace) (.type "BaseException") = some true)
    (tyNoPlace : PySem.W.typeIn K (.ref XNoPlace) = some (.type "type"))
    (kcNoPlace : PySem.W.keepIn K (.ref XNoPlace) = true)
    (inNoPlace : PySem.W.findIn K (.ref XNoPlace) "__init__" = some (some (.ref iNoPlace)))
    (tiNoPlace : PySem.W.typeIn K (.ref iNoPlace) = some (.type "function"))
    (mrNoPlace : PySem.W.mroIn K XNoPlace (.ref XNoPlace) = some true)
    (suNoPlace : PySem.W.ks_superIn K XNoPlace XNoPlace "__init__" = some (some (.builtin "ValueError.__init__")))
    (sbNoPlace : PySem.W.subIn K (.ref XNoPlace) (.type "ValueError") = some true)
    (fnNoPlace : K.lookup iNoPlace = some ⟨ocNoPlace, odNoPlace, .func (PySem.W.ksFn "__init__" "NoPlace.__init__" (defArgs s_NoPlace) (defBody s_NoPlace) (defScope s_NoPlace) .none kVNoPlace dcNoPlace pmNoPlace anNoPlace (.ref qNoPlace) ctNoPlace ccNoPlace), slNoPlace⟩)
    (cdNoPlace : PySem.W.codeIn K (.ref qNoPlace) "NoPlace.__init__" = true)
    (coNoPlace : K.lookup qNoPlace = some ⟨cclNoPlace, cddNoPlace, .fields vsNoPlace, ccsNoPlace⟩)
    (fiNoPlace : vsNoPlace[2]? = some (.str fileNoPlace tfNoPlace))
    (flNoPlace : ((l.prog.main.file : Str) == fileNoPlace) = true)
    (ceNoPlace : K.lookup ccNoPlace = some ⟨clNoPlace, cldNoPlace, .cell (some (.ref XNoPlace)), cslNoPlace⟩)
    (noNoPlace_place : PySem.W.findIn K (.ref XNoPlace) "place" = some none)
    (gaNoPlace : PySem.W.findIn K (.ref XNoPlace) "__getattribute__" = some (some (.builtin "BaseException.__getattribute__")))
    (ggNoPlace : PySem.W.findIn K (.ref XNoPlace) "__getattr__" = some none)
    (hdNoPlace : PySem.W.hasDictIn K XNoPlace = true)
    (aMismatch : PySem.W.nsIn K mainGlobals "Mismatch" = some (some (.ref XMismatch)))
    (lMismatch : K.lookup XMismatch = some (excClassObj nmMismatch qnMismatch XMismatch NMismatch bsMismatch bmMismatch true snMismatch subMismatch abMismatch colMismatch ddMismatch k0Mismatch k1Mismatch k2Mismatch k3Mismatch k5Mismatch "ValueError.__new__"))
    (rMismatch : PySem.HandSPX.refsVE bmMismatch = true)
    (saMismatch : PySem.W.findIn K (.ref XMismatch) "__setattr__" = some (some (.builtin "object.__setattr__")))
    (ecMismatch : PySem.W.subIn K (.ref XMismatch) (.type "BaseException") = some true)
    (tyMismatch : PySem.W.typeIn K (.ref XMismatch) = some (.type "type"))
    (kcMismatch : PySem.W.keepIn K (.ref XMismatch) = true)
    (inMismatch : PySem.W.findIn K (.ref XMismatch) "__init__" = some (some (.ref iMismatch)))
    (tiMismatch : PySem.W.typeIn K (.ref iMismatch) = some (.type "function"))
    (mrMismatch : PySem.W.mroIn K XMismatch (.ref XMismatch) = some true)
    (suMismatch : PySem.W.ks_superIn K XMismatch XMismatch "__init__" = some (some (.builtin "ValueError.__init__")))
    (sbMismatch : PySem.W.subIn K (.ref XMismatch) (.type "ValueError") = some true)
    (fnMismatch : K.lookup iMismatch = some ⟨ocMismatch, odMismatch, .func (PySem.W.ksFn "__init__" "Mismatch.__init__" (defArgs s_Mismatch) (defBody s_Mismatch) (defScope s_Mismatch) .none kVMismatch dcMismatch pmMismatch anMismatch (.ref qMismatch) ctMismatch ccMismatch), slMismatch⟩)
    (cdMismatch : PySem.W.codeIn K (.ref qMismatch) "Mismatch.__init__" = true)
    (coMismatch : K.lookup qMismatch = some ⟨cclMismatch, cddMismatch, .fields vsMismatch, ccsMismatch⟩)
    (fiMismatch : vsMismatch[2]? = some (.str fileMismatch tfMismatch))
    (flMismatch : ((l.prog.main.file : Str) == fileMismatch) = true)
    (ceMismatch : K.lookup ccMismatch = some ⟨clMismatch, cldMismatch, .cell (some (.ref XMismatch)), cslMismatch⟩)
    (noMismatch_wanted : PySem.W.findIn K (.ref XMismatch) "wanted" = some none)
    (noMismatch_got : PySem.W.findIn K (.ref XMismatch) "got" = some none)
    (gaMismatch : PySem.W.findIn K (.ref XMismatch) "__getattribute__" = some (some (.builtin "BaseException.__getattribute__")))
    (ggMismatch : PySem.W.findIn K (.ref XMismatch) "__getattr__" = some none)
    (hdMismatch : PySem.W.hasDictIn K XMismatch = true)
    (thi : PySem.W.nsIn K cStatics "thirdparty.any" = some none)
    (z_super : PySem.W.nsIn K mainGlobals "super" = some none)
    (tops : (l.prog.main.scope.names.lookup ("super" : Str)).isSome = false)
    (exa : exAll K [XBadMove, XNoPlace, XMismatch] = true)
    (exn : [XBadMove, XNoPlace, XMismatch].Nodup)
    (z_len : PySem.W.nsIn K mainGlobals "len" = some none)
    (z_abs : PySem.W.nsIn K mainGlobals "abs" = some none)
    (z_int : PySem.W.nsIn K mainGlobals "int" = some none)
    (z_range : PySem.W.nsIn K mainGlobals "range" = some none)
    (z_list : PySem.W.nsIn K mainGlobals "list" = some none)
    (z_tuple : PySem.W.nsIn K mainGlobals "tuple" = some none)
    (z_str : PySem.W.nsIn K mainGlobals "str" = some none)
    (z_max : PySem.W.nsIn K mainGlobals "max" = some none)
    (z_min : PySem.W.nsIn K mainGlobals "min" = some none)
    (z_enumerate : PySem.W.nsIn K mainGlobals "enumerate" = some none)
    (z_isinstance : PySem.W.nsIn K mainGlobals "isinstance" = some none)
    (ye0 : K.lookup Em_call = some ⟨.type "tuple", dde0, .seq #[] ne0, sle0⟩)
    (cpw : tPcalled ≠ tPwrong)
    : LamX.LawAtS l w K CX0 8 63 "_law_script" mg fa h := by
  have e := hfa.symm.trans (PySem.W.mg_of X G alaw)
  cases e
  have B : Blt mg := ⟨PySem.W.mg_none_of X G z_len, PySem.W.mg_none_of X G z_abs, PySem.W.mg_none_of X G z_int, PySem.W.mg_none_of X G z_range, PySem.W.mg_none_of X G z_list, PySem.W.mg_none_of X G z_tuple, PySem.W.mg_none_of X G z_str, PySem.W.mg_none_of X G z_max, PySem.W.mg_none_of X G z_min, PySem.W.mg_none_of X G z_enumerate, PySem.W.mg_none_of X G z_isinstance⟩
  have TBadMove : XcF l.prog K mg "BadMove" XBadMove iBadMove := ⟨⟨⟨_, _, _, _, _, _, _, _, _, _, _, _, _, _, _, lBadMove, rBadMove⟩, saBadMove, ecBadMove, tyBadMove, kcBadMove⟩, inBadMove, tiBadMove, ⟨_, by unfold PySem.W.clsIn; rw [lBadMove] <;> rfl⟩, mrBadMove, suBadMove, sbBadMove, thi, tops, PySem.W.mg_none_of X G z_super, PySem.W.mg_of X G aBadMove⟩
  have FBadMove : XfC K XBadMove := ⟨gaBadMove, ggBadMove, ecBadMove, hdBadMove⟩
  have TNoPlace : XcF l.prog K mg "NoPlace" XNoPlace iNoPlace := ⟨⟨⟨_, _, _, _, _, _, _, _, _, _, _, _, _, _, _, lNoPlace, rNoPlace⟩, saNoPlace, ecNoPlace, tyNoPlace, kcNoPlace⟩, inNoPlace, tiNoPlace, ⟨_, by unfold PySem.W.clsIn; rw [lNoPlace] <;> rfl⟩, mrNoPlace, suNoPlace, sbNoPlace, thi, tops, PySem.W.mg_none_of X G z_super, PySem.W.mg_of X G aNoPlace⟩
  have FNoPlace : XfC K XNoPlace := ⟨gaNoPlace, ggNoPlace, ecNoPlace, hdNoPlace⟩
  have TMismatch : XcF l.prog K mg "Mismatch" XMismatch iMismatch := ⟨⟨⟨_, _, _, _, _, _, _, _, _, _, _, _, _, _, _, lMismatch, rMismatch⟩, saMismatch, ecMismatch, tyMismatch, kcMismatch⟩, inMismatch, tiMismatch, ⟨_, by unfold PySem.W.clsIn; rw [lMismatch] <;> rfl⟩, mrMismatch, suMismatch, sbMismatch, thi, tops, PySem.W.mg_none_of X G z_super, PySem.W.mg_of X G aMismatch⟩
  have FMismatch : XfC K XMismatch := ⟨gaMismatch, ggMismatch, ecMismatch, hdMismatch⟩
  refine ⟨PySem.W.fnOf "law" "law" (defArgs s_law) (defBody s_law) (defScope s_law) .none kVlaw dclaw pmlaw anlaw cdlaw ctlaw, [(cdcalled, tPcalled), (cdwrong, tPwrong)], spLaw K [(tPcalled, lamQ "_law_called" (defScope s_called)), (tPwrong, lamQ "_law_wrong" (defScope s_wrong))], List.forall_mem_cons.mpr ⟨ttcalled, List.forall_mem_cons.mpr ⟨ttwrong, fun _ hp => nomatch hp⟩⟩, List.forall_mem_cons.mpr ⟨tncalled, List.forall_mem_cons.mpr ⟨tnwrong, fun _ hp => nomatch hp⟩⟩, List.forall_mem_cons.mpr ⟨PySem.W.codeHd_of_K X thcalled, List.forall_mem_cons.mpr ⟨PySem.W.codeHd_of_K X thwrong, fun _ hp => nomatch hp⟩⟩, fun s v => .of_eq rfl, fun H a ns hl _ hH hS => ?_, fun base _ _ hTB => ?_⟩
  · refine ⟨a, ns, rfl, hS, hl, List.forall_mem_cons.mpr ⟨LamX.TabS.nil (hH (cdcalled, tPcalled) (by simp)), List.forall_mem_cons.mpr ⟨LamX.TabS.nil (hH (cdwrong, tPwrong) (by simp)), fun _ hp => nomatch hp⟩⟩, fun _ => rfl⟩
  have TBcalled := hTB (cdcalled, tPcalled) (by simp)
  have TBwrong := hTB (cdwrong, tPwrong) (by simp)
  have QBadMove : Xc l.prog w K mg base 1 "BadMove" XBadMove ["at"] := ok_x1 TBadMove fnBadMove cdBadMove (nscope_by (by decide +kernel)) rfl rfl ⟨_, _, _, _, _, _, coBadMove, fiBadMove, flBadMove⟩ ⟨_, _, _, ceBadMove⟩ rfl noBadMove_at (by decide) (by decide) (.all fun us hl => match us, hl with | [_, _], _ => rfl)
  have QNoPlace : Xc l.prog w K mg base 1 "NoPlace" XNoPlace ["place"] := ok_x1 TNoPlace fnNoPlace cdNoPlace (nscope_by (by decide +kernel)) rfl rfl ⟨_, _, _, _, _, _, coNoPlace, fiNoPlace, flNoPlace⟩ ⟨_, _, _, ceNoPlace⟩ rfl noNoPlace_place (by decide) (by decide) (.all fun us hl => match us, hl with | [_, _], _ => rfl)
  have QMismatch : Xc l.prog w K mg base 1 "Mismatch" XMismatch ["wanted", "got"] := ok_x2 TMismatch fnMismatch cdMismatch (nscope_by (by decide +kernel)) rfl rfl ⟨_, _, _, _, _, _, coMismatch, fiMismatch, flMismatch⟩ ⟨_, _, _, ceMismatch⟩ rfl noMismatch_wanted noMismatch_got (by decide) (by decide) (by decide) (by decide) (.all fun us hl => match us, hl with | [_, _, _], _ => rfl)
  have T : TxtM K mg C := ⟨B, ⟨pgC, hdC, poC, saC⟩, nt, np, PySem.W.mg_of X G aC, ⟨⟨pgC, hdC, poC, saC⟩, hcl, hcg, hct, hcm, if_pos (beq_self_eq_true _)⟩, sf, nf⟩
  have Fcall : FunD K "__call__" "Move.__call__" (defArgs s_m_call) (defBody s_m_call) (defScope s_m_call) [.ref Em_call] [] fm_call _ := ⟨⟨_, _, _, _, _, _, _, _, _, _, rfl, lm_call, cm_call, .inr ⟨List.cons_ne_nil _ _, _, _, [.ref Em_call], _, rfl, ym_call, rfl, .cons rfl .nil⟩, .inl rfl⟩, km_call⟩
  have M1 : Ml l.prog w K mg base CX0 1 "Move" C (spInit K C) := ⟨_, ⟨mkC, am_init, im_init, kcC⟩, ok_init (fun_mk (st := s_m_init) lm_init cm_init km_init) T, T.g_Move⟩
  have Fg := fun_mk (st := s_m_gaps) lm_gaps cm_gaps km_gaps
  have G1 : Pr l.prog w K mg base CX0 1 C "gaps" (spGaps K C) := ⟨_, _, _, _, T.cl, ⟨am_gaps, gm_gaps, tm_gaps, ⟨_, r_m_gaps⟩⟩, okf_gaps Fg T, Fg.binds fun _ _ _ _ _ _ us hl => match us, hl with | [_], _ => rfl⟩
  have C2 : Ca l.prog w K mg base (L2.CX l.prog w) 3 C (spCallX K C XMismatch) := ⟨_, ⟨am_call, im_call, xm_call⟩, FnOk.r (ok_callX Fcall T G1 QMismatch) (call_binds Fcall)⟩
  obtain ⟨dse, vde, bde⟩ := call_binds1 Fcall
  have C1 : Ca l.prog w K mg base (L2.CX l.prog w) 3 C (fun vs H Q E => spCallX K C XMismatch (vs ++ [.ref Em_call]) H Q E) := ⟨_, ⟨am_call, im_call, xm_call⟩, FnOk.raw (ok_callX Fcall T G1 QMismatch) bde vde⟩
  have he0 : ∀ H : Hp, SqT K H Em_call [] := fun H => .inr ⟨_, #[], _, ye0, rfl, rfl, Nat.zero_le _, .nil⟩
  have D1 : Cl l.prog w K mg base CX0 1 "_law_bag" (spBag K) := ⟨_, ok_bag (fun_mk (st := s_bag) lbag cbag kbag) B, PySem.W.mg_of X G abag, kbag⟩
  have D2 : Cl l.prog w K mg base CX0 1 "_law_take" spTake := ⟨_, ok_take (fun_mk (st := s_take) ltake ctake ktake) B, PySem.W.mg_of X G atake, ktake⟩
  have D3 : Cl l.prog w K mg base CX0 2 "_law_of" (spOf K) := ⟨_, ok_of (fun_mk (st := s_of) lof cof kof) B D2, PySem.W.mg_of X G aof, kof⟩
  have D4 : Cl l.prog w K mg base CX0 2 "_law_count" spCount := ⟨_, ok_count (fun_mk (st := s_count) lcount ccount kcount) B D2, PySem.W.mg_of X G acount, kcount⟩
  have D5 : Cl l.prog w K mg base CX0 2 "_law_places" spPlaces := ⟨_, ok_places (fun_mk (st := s_places) lplaces cplaces kplaces) B D2, PySem.W.mg_of X G aplaces, kplaces⟩
  have D6 : Cl l.prog w K mg base CX0 3 "_law_values" (spValues K) := ⟨_, ok_values (fun_mk (st := s_values) lvalues cvalues kvalues) B D3, PySem.W.mg_of X G avalues, kvalues⟩
  have D7 : Cl l.prog w K mg base CX0 1 "_law_due" (spDue K) := ⟨_, ok_due (fun_mk (st := s_due) ldue cdue kdue) B, PySem.W.mg_of X G adue, kdue⟩
  have RF := rf_moves (P := l.prog) (w := w) (base := base) lrefused crefused krefused (PySem.W.mg_of X G arefused) TBadMove.nam TNoPlace.nam TMismatch.nam FBadMove FNoPlace FMismatch noBadMove_at noNoPlace_place noMismatch_wanted noMismatch_got exa exn
  have hu1 : ∀ p ∈ [(tPcalled, lamQ "_law_called" (defScope s_called)), (tPwrong, lamQ "_law_wrong" (defScope s_wrong))], p.1 = tPcalled → p.2 = lamQ "_law_called" (defScope s_called) := fun p hp e => by
    rcases List.mem_cons.mp hp with z | z
    · rw [z]
    · rw [List.mem_singleton.mp z] at e
      exact absurd e.symm cpw
  have hu2 : ∀ p ∈ [(tPcalled, lamQ "_law_called" (defScope s_called)), (tPwrong, lamQ "_law_wrong" (defScope s_wrong))], p.1 = tPwrong → p.2 = lamQ "_law_wrong" (defScope s_wrong) := fun p hp e => by
    rcases List.mem_cons.mp hp with z | z
    · rw [z] at e
      exact absurd e cpw
    · rw [List.mem_singleton.mp z]
  have D8 : Cl l.prog w K mg base CX0 7 "_law_called" (spCalled K [(tPcalled, lamQ "_law_called" (defScope s_called)), (tPwrong, lamQ "_law_wrong" (defScope s_wrong))]) := ⟨_, ok_called (fun_mk (st := s_called) lcalled ccalled kcalled) rfl T M1 C2 C1 he0 TBcalled RF List.mem_cons_self hu1 D2 D6 D7, PySem.W.mg_of X G acalled, kcalled⟩
  have D9 : Cl l.prog w K mg base CX0 7 "_law_wrong" (spWrong K [(tPcalled, lamQ "_law_called" (defScope s_called)), (tPwrong, lamQ "_law_wrong" (defScope s_wrong))]) := ⟨_, ok_wrong (fun_mk (st := s_wrong) lwrong cwrong kwrong) rfl T M1 C2 TBwrong RF (List.mem_cons_of_mem _ List.mem_cons_self) hu2 D2 D6, PySem.W.mg_of X G awrong, kwrong⟩
  exact ok_law (fun_mk (st := s_law) llaw claw klaw) B D1 D4 D5 D8 D9
end MV
open PySem PySem.W PyProof.Rows
set_option maxRecDepth 100000 in
set_option maxHeartbeats 0 in
theorem PySem.Challenge.cw_sidelists_k61_moves_called_holds : PySem.Challenge.rw_sidelists_k61_moves_called.Holds := by
  w_on; o_law; k_head; (case hw => w_witness2)
  k_fill
  refine LamX.walk_ofTs (l := PySem.Challenge.rw_sidelists_k61_moves_called) (n := 63) (k := 8) (x := "_law_script") (CX := fun _ => C8.CX0) rfl (by decide) rfl ⟨rfl, by decide, by decide⟩ (fun w h Y => PySem.W.km_in_of Y) ?F (fun _ _ _ _ _ z => z)
  case F =>
    intro w mg fa h Y KX G hmg
    refine' MV.all_mk KX G hmg ?abag ?lbag ?cbag ?kbag ?atake ?ltake ?ctake ?ktake ?aof ?lof ?cof ?kof ?acount ?lcount ?ccount ?kcount ?aplaces ?lplaces ?cplaces ?kplaces ?avalues ?lvalues ?cvalues ?kvalues ?arefused ?lrefused ?crefused ?krefused ?adue ?ldue ?cdue ?kdue ?acalled ?lcalled ?ccalled ?kcalled ?tlcalled ?txcalled ?thcalled ?ttcalled ?tncalled ?awrong ?lwrong ?cwrong ?kwrong ?tlwrong ?txwrong ?thwrong ?ttwrong ?tnwrong ?alaw ?llaw ?claw ?klaw ?aC ?am_init ?im_init ?lm_init ?cm_init ?km_init ?am_call ?im_call ?lm_call ?cm_call ?km_call ?xm_call ?ym_call ?am_gaps ?gm_gaps ?tm_gaps ?r_m_gaps ?lm_gaps ?cm_gaps ?km_gaps ?pgC ?hdC ?poC ?saC ?mkC ?kcC ?nt ?np ?hcl ?hcg ?hct ?hcm ?sf ?nf ?rds ?rga ?aBadMove ?lBadMove ?rBadMove ?saBadMove ?ecBadMove ?tyBadMove ?kcBadMove ?inBadMove ?tiBadMove ?mrBadMove ?suBadMove ?sbBadMove ?fnBadMove ?cdBadMove ?coBadMove ?fiBadMove ?flBadMove ?ceBadMove ?noBadMove_at ?gaBadMove ?ggBadMove ?hdBadMove ?aNoPlace ?lNoPlace ?rNoPlace ?saNoPlace ?ecNoPlace ?tyNoPlace ?kcNoPlace ?inNoPlace ?tiNoPlace ?mrNoPlace ?suNoPlace ?sbNoPlace ?fnNoPlace ?cdNoPlace ?coNoPlace ?fiNoPlace ?flNoPlace ?ceNoPlace ?noNoPlace_place ?gaNoPlace ?ggNoPlace ?hdNoPlace ?aMismatch ?lMismatch ?rMismatch ?saMismatch ?ecMismatch ?tyMismatch ?kcMismatch ?inMismatch ?tiMismatch ?mrMismatch ?suMismatch ?sbMismatch ?fnMismatch ?cdMismatch ?coMismatch ?fiMismatch ?flMismatch ?ceMismatch ?noMismatch_wanted ?noMismatch_got ?gaMismatch ?ggMismatch ?hdMismatch ?thi ?z_super ?tops ?exa ?exn ?z_len ?z_abs ?z_int ?z_range ?z_list ?z_tuple ?z_str ?z_max ?z_min ?z_enumerate ?z_isinstance ?ye0 ?cpw
    (case abag => k_is)
    (case lbag => k_is)
    (case cbag => k_is)
    (case kbag => k_is)
    (case atake => k_is)
    (case ltake => k_is)
    (case ctake => k_is)
    (case ktake => k_is)
    (case aof => k_is)
    (case lof => k_is)
    (case cof => k_is)
    (case kof => k_is)
    (case acount => k_is)
    (case lcount => k_is)
    (case ccount => k_is)
    (case kcount => k_is)
    (case aplaces => k_is)
    (case lplaces => k_is)
    (case cplaces => k_is)
    (case kplaces => k_is)
    (case avalues => k_is)
    (case lvalues => k_is)
    (case cvalues => k_is)
    (case kvalues => k_is)
    (case arefused => k_is)
    (case lrefused => k_is)
    (case crefused => k_is)
    (case krefused => k_is)
    (case adue => k_is)
    (case ldue => k_is)
    (case cdue => k_is)
    (case kdue => k_is)
    (case acalled => k_is)
    (case lcalled => k_is)
    (case ccalled => k_is)
    (case kcalled => k_is)
    (case tlcalled => k_is)
    (case txcalled => rfl)
    (case thcalled => kernel_rfl)
    (case ttcalled => exact PySem.W.km_tabs_of Y _ (by k_mem))
    (case tncalled => first | kernel_rfl | k_is)
    (case awrong => k_is)
    (case lwrong => k_is)
    (case cwrong => k_is)
    (case kwrong => k_is)
    (case tlwrong => k_is)
    (case txwrong => rfl)
    (case thwrong => kernel_rfl)
    (case ttwrong => exact PySem.W.km_tabs_of Y _ (by k_mem))
    (case tnwrong => first | kernel_rfl | k_is)
    (case alaw => k_is)
    (case llaw => k_is)
    (case claw => k_is)
    (case klaw => k_is)
    (case aC => k_is)
    (case am_init => k_is)
    (case im_init => k_is)
    (case lm_init => k_is)
    (case cm_init => k_is)
    (case km_init => k_is)
    (case am_call => k_is)
    (case im_call => k_is)
    (case lm_call => k_is)
    (case cm_call => k_is)
    (case km_call => k_is)
    (case xm_call => k_is)
    (case ym_call => k_is)
    (case am_gaps => k_is)
    (case gm_gaps => k_is)
    (case tm_gaps => k_is)
    (case r_m_gaps => k_is)
    (case lm_gaps => k_is)
    (case cm_gaps => k_is)
    (case km_gaps => k_is)
    (case pgC => k_is)
    (case hdC => k_is)
    (case poC => k_is)
    (case saC => k_is)
    (case mkC => k_is)
    (case kcC => k_is)
    (case nt => k_is)
    (case np => k_is)
    (case hcl => k_is)
    (case hcg => k_is)
    (case hct => k_is)
    (case hcm => k_is)
    (case sf => k_is)
    (case nf => k_is)
    (case rds => k_is)
    (case rga => k_is)
    (case aBadMove => k_is)
    (case lBadMove => k_is)
    (case rBadMove => rfl)
    (case saBadMove => k_is)
    (case ecBadMove => k_is)
    (case tyBadMove => k_is)
    (case kcBadMove => k_is)
    (case inBadMove => k_is)
    (case tiBadMove => k_is)
    (case mrBadMove => k_is)
    (case suBadMove => ks_is)
    (case sbBadMove => k_is)
    (case fnBadMove => k_is)
    (case cdBadMove => k_is)
    (case coBadMove => k_is)
    (case fiBadMove => rfl)
    (case flBadMove => first | rfl | decide +kernel | kernel_rfl)
    (case ceBadMove => k_is)
    (case noBadMove_at => k_is)
    (case gaBadMove => k_is)
    (case ggBadMove => k_is)
    (case hdBadMove => k_is)
    (case aNoPlace => k_is)
    (case lNoPlace => k_is)
    (case rNoPlace => rfl)
    (case saNoPlace => k_is)
    (case ecNoPlace => k_is)
    (case tyNoPlace => k_is)
    (case kcNoPlace => k_is)
    (case inNoPlace => k_is)
    (case tiNoPlace => k_is)
    (case mrNoPlace => k_is)
    (case suNoPlace => ks_is)
    (case sbNoPlace => k_is)
    (case fnNoPlace => k_is)
    (case cdNoPlace => k_is)
    (case coNoPlace => k_is)
    (case fiNoPlace => rfl)
    (case flNoPlace => first | rfl | decide +kernel | kernel_rfl)
    (case ceNoPlace => k_is)
    (case noNoPlace_place => k_is)
    (case gaNoPlace => k_is)
    (case ggNoPlace => k_is)
    (case hdNoPlace => k_is)
    (case aMismatch => k_is)
    (case lMismatch => k_is)
    (case rMismatch => rfl)
    (case saMismatch => k_is)
    (case ecMismatch => k_is)
    (case tyMismatch => k_is)
    (case kcMismatch => k_is)
    (case inMismatch => k_is)
    (case tiMismatch => k_is)
    (case mrMismatch => k_is)
    (case suMismatch => ks_is)
    (case sbMismatch => k_is)
    (case fnMismatch => k_is)
    (case cdMismatch => k_is)
    (case coMismatch => k_is)
    (case fiMismatch => rfl)
    (case flMismatch => first | rfl | decide +kernel | kernel_rfl)
    (case ceMismatch => k_is)
    (case noMismatch_wanted => k_is)
    (case noMismatch_got => k_is)
    (case gaMismatch => k_is)
    (case ggMismatch => k_is)
    (case hdMismatch => k_is)
    (case thi => k_is)
    (case z_super => k_is)
    (case tops => first | rfl | decide +kernel | kernel_rfl)
    (case exa => kernel_rfl)
    (case exn => decide)
    (case z_len => k_is)
    (case z_abs => k_is)
    (case z_int => k_is)
    (case z_range => k_is)
    (case z_list => k_is)
    (case z_tuple => k_is)
    (case z_str => k_is)
    (case z_max => k_is)
    (case z_min => k_is)
    (case z_enumerate => k_is)
    (case z_isinstance => k_is)
    (case ye0 => k_is)
    (case cpw => decide)
