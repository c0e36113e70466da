import PyProof.Rows.All
import Wide.All
import OpenK.AllK
import Wide.FinOn
import PyProof.EqAt
import PyProof.EqKinds
import PyProof.TupleCall
import KE.KOpsOwn
import HandS.ForMost
import HandS.More
import HandS.Conv
import HandS.Walk
import HandS.Wide
import HandS.Star
import HandS.Codes
import HandS.Property
import HandS.DictComp
import HandS.IsInst
import HandS.Deep
import HandS.EndBits
import HandS.ClsMeth
import HandS.Defaults
import KE.GoesMore
import KE.KExcSuper
import HandS.ExcInit
import HandS.ExcField
import HandS.TryMany
import HandS.TryOnly
import HandS.Nested
import HandS.Lambda
import HandS.EndTab
import KE.KNestM
import HandS.Style
import HandS.Iter
import KE.SortKeyHeap
import KE.SortData
import HandS.SortKw
import HandS.ExcValue
import PySem.Challenge.RW_sidelists_k66_whole_moves_follow_a_list
set_option Elab.async false
set_option linter.all false
set_option maxRecDepth 100000
set_option maxHeartbeats 4000000
/-! Rules beside the hand layer: own defs called by their promises, own operators, enumerate of a tuple. -/
namespace SB
open PySem PySem.Spec PyProof.Rows L2

/-- the module's name x holds a def that keeps sp -/
structure Cl (P : Program) (w : World) (K : PySem.W.Frag) (mg : Str → Option Value) (base : Heap) (CX : CXT) (k : Nat) (x : Str) (sp : Sp) : Prop where
  ex : ∃ f : Addr, FnR P w K mg base CX k f sp ∧ mg x = some (.ref f) ∧ PySem.W.keepIn K (.ref f) = true
/-- the module's name x holds the class at C, whose init keeps sp -/
structure Ml (P : Program) (w : World) (K : PySem.W.Frag) (mg : Str → Option Value) (base : Heap) (CX : CXT) (k : Nat) (x : Str) (C : Addr) (sp : Sp) : Prop where
  ex : ∃ f : Addr, Mk K C f ∧ FnR P w K mg base CX k f sp ∧ mg x = some (.ref C)
/-- the class at C has a def for the name m that keeps sp -/
structure Me (P : Program) (w : World) (K : PySem.W.Frag) (mg : Str → Option Value) (base : Heap) (CX : CXT) (k : Nat) (C : Addr) (m : Str) (sp : Sp) : Prop where
  ex : ∃ g : Addr, FnR P w K mg base CX k g sp ∧ PySem.W.findIn K (.ref C) m = some (some (.ref g)) ∧ PySem.W.isFn K (.ref g) = true ∧ PySem.W.keepIn K (.ref g) = true

def tCl (sp : Sp) (E : XK) (t : TA) : TE := fun σ H Q => t σ H fun vs H1 => sp vs H1 Q E
section
variable {X : Cx} {CX : CXT} {k j : Nat} {C : Addr} {x m : Str} {sp : Sp} {E : XK} {p pos apos : Pos} {e o : Expr} {es : List Expr} {ta tb : TE} {t : TA}
theorem pe_cl (c : Cl X.prog X.w X.K X.mg X.base CX k x sp) (hr : Room j X.A) (hk : k ≤ j) (hg : Gl X x) (hx : Passes CX X E) (ha : PA X (e :: es) t) (hd : (x == ("__debug__" : Str)) = false := by decide)
    (he : starEach (e :: es) X.env = (false, eval e X.env) :: starEach es X.env := by rfl) (hpl : (backTo pos (starEach es X.env)).any (·.1) = false := by rfl) :
    PE X (.Call (.Name x p) (e :: es) [] pos) (tCl sp E t) := by
  obtain ⟨f, F, hm, kp⟩ := c.ex
  refine ⟨fun pins s σ H Q I h => ?_⟩
  refine wpAny_Call_Name_kw (ld_glob I hg hm ?_ hd)
  refine PySem.W.callWith_K (h₀ := X.base) I.ok.mod.kin kp (thn (ha.run pos pins s σ H _ I h) fun us s1 ⟨vs, H1, I1, r, q⟩ => ⟨I1.kIn, ?_⟩) he hpl
  exact wpAny_call (run_fnR F (hr.mono hk) hx I1 r q)
def tMl (C : Addr) (sp : Sp) (E : XK) (t : TA) : TE := fun σ H Q => t σ H fun vs H1 => ∀ x dx, H1 x = Option.none → H1 dx = Option.none → dx ≠ x →
  sp (V.ref x :: vs) (upd (upd H1 dx (.own x)) x (.ins C dx [])) (fun v H2 => v = .non ∧ Q (.ref x) H2) E
theorem pe_ml (c : Ml X.prog X.w X.K X.mg X.base CX k x C sp) (hr : Room j X.A) (hk : k + 1 ≤ j) (hg : Gl X x) (hx : Passes CX X E) (ha : PA X (e :: es) t) (hdb : (x == ("__debug__" : Str)) = false := by decide)
    (he : starEach (e :: es) X.env = (false, eval e X.env) :: starEach es X.env := by rfl) (hpl : (backTo pos (starEach es X.env)).any (·.1) = false := by rfl) : PE X (.Call (.Name x p) (e :: es) [] pos) (tMl C sp E t) := by
  obtain ⟨f, M, F, hm⟩ := c.ex
  exact StX.pe_makeR M F (hr.mono hk) hg hm hx ha hdb he hpl

/-! ### own operators of an instance of C -/
theorem cmpback {pins : List (Addr × Obj)} {σ : L2.St} {Q : VK} {w : Value} {s' : Shared} (h : EP X pins σ Q w s') : PySem.W.CmpBack (EP X pins σ Q) w s' := by
  obtain ⟨z, H', I', rz, qz⟩ := id h
  cases z with
  | non => cases rz; exact h
  | bl b => cases rz; exact h
  | int i => obtain ⟨t, rfl⟩ := rz; exact h
  | str i => obtain ⟨t, rfl⟩ := rz; exact h
  | byt i => obtain ⟨t, rfl⟩ := rz; exact h
  | flt i => obtain ⟨t, rfl⟩ := rz; exact h
  | ref i => cases rz; exact h
  | ty i => cases rz; exact h
theorem inst_at {pins : List (Addr × Obj)} {σ : L2.St} {H : Hp} {s : Shared} {a dx : Addr} {fs : List (Str × V)} (I : Inv X pins σ H s) (h : H a = some (.ins C dx fs)) : ∃ ox od, PySem.W.InstAt s.heap a ox C od := by
  obtain ⟨mA, O, _⟩ := ins_get I.hok h
  obtain ⟨od, J, _⟩ := O.look
  exact ⟨_, _, J⟩
def rOwn2 (C : Addr) (sp : Sp) (E : XK) : R2 := fun x y H Q => ∃ a dx fs b dy gs, x = .ref a ∧ y = .ref b ∧ H a = some (.ins C dx fs) ∧ H b = some (.ins C dy gs) ∧ sp [x, y] H Q E
/-- x op y, both instances of C -/
theorem op_own2 {op : Operator} {nm : Str} (c : Me X.prog X.w X.K X.mg X.base CX k C nm sp) (hnm : PySem.dunder op.info.2 = nm) (hc : PySem.W.selfFirst X.K C = true) (hr : Room j X.A) (hk : k ≤ j) (hx : Passes CX X E) :
    OpR X (binaryOp op) (rOwn2 C sp E) := by
  obtain ⟨g, F, hs, hf, _⟩ := c.ex
  intro pins s σ H x y v u Q I rx ry h
  obtain ⟨a, dx, fs, b, dy, gs, rfl, rfl, ha, hb, q⟩ := h
  cases (show v = Value.ref a from rx)
  cases (show u = Value.ref b from ry)
  obtain ⟨ox, od, J⟩ := inst_at I ha
  obtain ⟨ox', od', J'⟩ := inst_at I hb
  obtain ⟨m, hF⟩ := I.fr
  subst hnm
  refine PySem.W.binop_K (op := op) hF I.ok.mod.kin J J'.type hc hs hf ?_
  refine wpAny_mono (wpAny_call (run_fnR (us := [.ref a, .ref b]) (vs := [.ref a, .ref b]) F (hr.mono hk) hx I (.cons rfl (.cons rfl .nil)) q)) (fun w s' z => ?_) fun _ _ x => x
  exact cmpback z
/-- x == y, both instances of C -/
theorem op_ownEq (c : Me X.prog X.w X.K X.mg X.base CX k C "__eq__" sp) (hn : PySem.W.notFirst X.K C (.ref C) = true) (hr : Room j X.A) (hk : k ≤ j) (hx : Passes CX X E) :
    OpR X (compareOp .Eq) (rOwn2 C sp E) := by
  obtain ⟨g, F, hs, hf, _⟩ := c.ex
  intro pins s σ H x y v u Q I rx ry h
  obtain ⟨a, dx, fs, b, dy, gs, rfl, rfl, ha, hb, q⟩ := h
  cases (show v = Value.ref a from rx)
  cases (show u = Value.ref b from ry)
  obtain ⟨ox, od, J⟩ := inst_at I ha
  obtain ⟨ox', od', J'⟩ := inst_at I hb
  obtain ⟨m, hF⟩ := I.fr
  show wpAny _ _ (richCompare .Eq (.ref a) (.ref b)) _ _ _
  refine PySem.W.cmp_K (op := .Eq) (tb := .ref C) hr.units0 hF I.ok.mod.kin J J'.type hn hs hf ?_
  refine wpAny_mono (wpAny_call (run_fnR (us := [.ref a, .ref b]) (vs := [.ref a, .ref b]) F (hr.mono hk) hx I (.cons rfl (.cons rfl .nil)) q)) (fun w s' z => ?_) fun _ _ x => x
  exact cmpback z
def rOwn1 (C : Addr) (sp : Sp) (E : XK) : V → Hp → VK → Prop := fun x H Q => ∃ a dx fs, x = .ref a ∧ H a = some (.ins C dx fs) ∧ sp [x] H Q E
/-- the bitwise not of an instance of C -/
theorem un_ownInv (c : Me X.prog X.w X.K X.mg X.base CX k C "__invert__" sp) (hr : Room j X.A) (hk : k ≤ j) (hx : Passes CX X E) : UnR X (unaryOp .Invert) (rOwn1 C sp E) := by
  obtain ⟨g, F, hs, hf, _⟩ := c.ex
  intro pins s σ H x v Q I rx h
  obtain ⟨a, dx, fs, rfl, ha, q⟩ := h
  cases (show v = Value.ref a from rx)
  obtain ⟨ox, od, J⟩ := inst_at I ha
  obtain ⟨m, hF⟩ := I.fr
  refine PySem.W.ksp_inv hF I.ok.mod.kin J hs hf ?_
  exact wpAny_call (run_fnR (us := [.ref a]) (vs := [.ref a]) F (hr.mono hk) hx I (.cons rfl .nil) q)
end

/-! ### a staticmethod called on its class; a property; an instance called -/
/-- C.m is a staticmethod: its record at p, its def at g -/
structure SMet (K : PySem.W.Frag) (C : Addr) (mc : Value) (m : Str) (p g : Addr) : Prop where
  at_ : PySem.W.findCls K (.ref C) mc m = some (.get (.builtin "staticmethod.__get__") (.ref p) .none (.ref C))
  rc : ∃ rest, PySem.W.recIn K p "staticmethod" = some (.ref g :: rest)
  kp : PySem.W.keepIn K (.ref g) = true
structure Sm (P : Program) (w : World) (K : PySem.W.Frag) (mg : Str → Option Value) (base : Heap) (CX : CXT) (k : Nat) (x m : Str) (sp : Sp) : Prop where
  ex : ∃ (C p g : Addr) (mc : Value), mg x = some (.ref C) ∧ ClX.CRead K C mc ∧ SMet K C mc m p g ∧ FnR P w K mg base CX k g sp
structure Pr (P : Program) (w : World) (K : PySem.W.Frag) (mg : Str → Option Value) (base : Heap) (CX : CXT) (k : Nat) (C : Addr) (f : Str) (sp : Sp) : Prop where
  ex : ∃ (p g : Addr) (fd : FuncData) (ps : List Str), Cls K C ∧ PropOf K C f p g ∧ FnOk P w K mg base CX k g fd ps sp ∧ Binds K fd ps []
structure Ca (P : Program) (w : World) (K : PySem.W.Frag) (mg : Str → Option Value) (base : Heap) (CX : CXT) (k : Nat) (C : Addr) (sp : Sp) : Prop where
  ex : ∃ g : Addr, StX.CallO K C g ∧ FnR P w K mg base CX k g sp
section
variable {X : Cx} {CX : CXT} {k j : Nat} {C : Addr} {x m : Str} {sp : Sp} {E : XK} {p pos apos : Pos} {e o fe : Expr} {es : List Expr} {ta tf : TE} {t : TA}
theorem pe_sm {pl : Sem Bool} (c : Sm X.prog X.w X.K X.mg X.base CX k x m sp) (hr : Room j X.A) (hk : k ≤ j) (hg : Gl X x) (hx : Passes CX X E) (ha : PA X (e :: es) t) (hdb : (x == ("__debug__" : Str)) = false := by decide)
    (hst : starEach (e :: es) X.env = (false, eval e X.env) :: starEach es X.env := by rfl) (hpl : (backTo pos (starEach es X.env)).any (·.1) = false := by rfl)
    (ht : eval (.Call (.Attribute (.Name x p) m apos) (e :: es) [] pos) X.env = (do
      let ov ← eval (.Name x p) X.env
      standAt apos.atName
      let (f, first) ← holding [ov] (getMethod ov m pl)
      callWith pos f first (backTo pos (starEach (e :: es) X.env)) (backToKw pos (keywordEach [] X.env))) := by rfl) :
    PE X (.Call (.Attribute (.Name x p) m apos) (e :: es) [] pos) (tCl sp E t) := by
  obtain ⟨C, pr, g, mc, hm, r, c, F⟩ := c.ex
  obtain ⟨rest, hp⟩ := c.rc
  refine ⟨fun pins s σ H Q I h => ?_⟩
  refine PySem.W.methodCall_KW (pl := pl) (ld_glob I hg hm ?_ hdb) ht
  refine PySem.W.method_cls I.kIn r.ga (PySem.W.cls_bind I.kIn r.rd c.at_ (wpAny_call (PySem.W.sm_get (s := { s with toks := s.toks + 1 }) I.kIn hp (PySem.W.handed_on rfl ?_))))
  have I1 : Inv X pins σ H { s with toks := s.toks + 1 } := I.tok _
  refine PySem.W.callWith_K (h₀ := X.base) I.ok.mod.kin c.kp (thn (ha.run pos pins _ σ H _ I1 h) fun us s1 ⟨vs, H1, I2, rv, q⟩ => ⟨I2.kIn, ?_⟩) hst hpl
  exact wpAny_call (run_fnR F (hr.mono hk) hx I2 rv q)
def tPr (C : Addr) (sp : Sp) (E : XK) (ta : TE) : TE := fun σ H Q => ta σ H fun x H1 => ∃ a dx fs, x = .ref a ∧ H1 a = some (.ins C dx fs) ∧ sp [.ref a] H1 Q E
theorem pe_pr {f : Str} (c : Pr X.prog X.w X.K X.mg X.base CX k C f sp) (hr : Room j X.A) (hk : k + 1 ≤ j) (hx : Passes CX X.nox E) (he : PE X e ta) (hab : attributeBase e f X.env (eval e X.env) = eval e X.env := by rfl) :
    PE X (.Attribute e f pos) (tPr C sp E ta) := by
  obtain ⟨p, g, fd, ps, c, hp, F, b⟩ := c.ex
  exact pe_prop he c hp F (hr.mono hk) b .nil hx hab
theorem pe_ca (hf : PE X fe tf) (c : Ca X.prog X.w X.K X.mg X.base CX k C sp) (hr : Room j X.A) (hk : k ≤ j) (hx : Passes CX X E) (ha : PA X (e :: es) t)
    (ht : eval (.Call fe (e :: es) [] pos) X.env = (do callWith pos (← eval fe X.env) [] (backTo pos (starEach (e :: es) X.env)) (backToKw pos (keywordEach [] X.env))) := by rfl)
    (he : starEach (e :: es) X.env = (false, eval e X.env) :: starEach es X.env := by rfl) (hpl : (backTo pos (starEach es X.env)).any (·.1) = false := by rfl) : PE X (.Call fe (e :: es) [] pos) (StX.tCallO X C sp E tf t) := by
  obtain ⟨g, c, F⟩ := c.ex
  exact StX.pe_callO hf c F (hr.mono hk) hx ha ht he hpl
end

/-! ### enumerate(tuple) -/
theorem meets_enumerate_newT (l : Addr) (items : Array Value) (n : Nat) (dct : Option Addr) (sl : Array (Option Value)) :
    Meets (Builtin.«enumerate.__new__» ⟨[.type "enumerate", .ref l], []⟩) (fun _ R s => s.heap.get? l = some { cls := .type "tuple", dict := dct, data := .seq items n, slots := sl } ∧
      R (.ok (.ret (.ref (s.heap.push { cls := .type "tuple_iterator", data := .fields #[.ref l, .int 0 0] }).objs.size)))
        { s with heap := (s.heap.push { cls := .type "tuple_iterator", data := .fields #[.ref l, .int 0 0] }).push { cls := .type "enumerate", data := .fields #[.none, .bool false, .ref s.heap.objs.size, rawInt 0, .none, .none] } }) :=
  .of_wp fun prog w A R s h => by
    obtain ⟨hp, g, d, tk, os⟩ := s; obtain ⟨hl, h⟩ := h
    have hsub := sub_enumerate
    have hL : Heap.IsTuple (Shared.heap ⟨hp, g, d, tk, os⟩) l items := ⟨_, hl, rfl, n, rfl⟩
    wp_walk using AutoSeq1.wpAny_loadPart' hl
    refine wpAny_stack_any fun st => wpAny_pure ?_
    split
    · rename_i c _ _ _ _ _
      cases (c == Value.type "enumerate")
      · wp_walk using AutoSeq1.wpAny_loadPart' hl, wpAny_pyIter_tuple hL
        exact ⟨_, rfl, h⟩
      · wp_walk using AutoSeq1.wpAny_loadPart' hl, wpAny_pyIter_tuple hL
        exact ⟨_, rfl, h⟩
    · wp_walk using AutoSeq1.wpAny_loadPart' hl, wpAny_pyIter_tuple hL
      exact ⟨_, rfl, h⟩
theorem call_enumerate_tup {prog : Program} {w : World} {A : Around} {E : Value → Shared → Prop} {s : Shared} {l : Addr} {items : Array Value} {Q : Value → Shared → Prop} (hL : s.heap.IsTuple l items)
    (h : ∀ h', IsEnum h' (s.heap.objs.size + 1) s.heap.objs.size 0 .none → h'.IsTupleIter s.heap.objs.size l 0 → h'.objs.size = s.heap.objs.size + 2 →
      (∀ b o, s.heap.get? b = some o → h'.get? b = some o) → Q (.ref (s.heap.objs.size + 1)) { s with heap := h' }) :
    wpAny (model prog w) A (call (.type "enumerate") [.ref l]) Q E s := by
  obtain ⟨⟨c, dct, dt, sl⟩, hl, hc, n, hd⟩ := hL
  replace hc : c = .type "tuple" := hc
  replace hd : dt = .seq items n := hd
  subst hc hd
  refine callType_new F.called_enumerate (by decide) (F.typeCall_enumerate_1 _) (F.newCall_enumerate_1 _) (fun obj => F.args_object_init_2 obj _) F.entry_enumerate_new
    (meets_enumerate_newT l items n dct sl) ⟨hl, ?_⟩
  have hz : (s.heap.push { cls := .type "tuple_iterator", data := .fields #[.ref l, .int 0 0] }).objs.size = s.heap.objs.size + 1 := Heap.size_push ..
  show _ ∧ _
  rw [hz]
  have he : IsEnum ((s.heap.push { cls := .type "tuple_iterator", data := .fields #[.ref l, .int 0 0] }).push
      { cls := .type "enumerate", data := .fields #[.none, .bool false, .ref s.heap.objs.size, rawInt 0, .none, .none] }) (s.heap.objs.size + 1) s.heap.objs.size 0 .none := by
    have := Heap.get?_push_size (s.heap.push { cls := .type "tuple_iterator", data := .fields #[.ref l, .int 0 0] })
      (o := { cls := .type "enumerate", data := .fields #[.none, .bool false, .ref s.heap.objs.size, rawInt 0, .none, .none] }) rfl
    rw [hz] at this; exact this
  refine ⟨⟨_, he, rfl⟩, h _ he ⟨_, Heap.get?_push_of_some _ (Heap.get?_push_size _ rfl), rfl, rfl⟩ (by rw [Heap.size_push, hz]) fun b o x => Heap.get?_push_of_some _ (Heap.get?_push_of_some _ x)⟩
def IteT (K : PySem.W.Frag) (a : Addr) : It :=
  ⟨fun i H => ∃ (xs : List V) (x : V), SqT K H a xs ∧ xs[i]? = some x, fun i H v H' => ∃ T x, v = .ref T ∧ H T = none ∧ H' = upd H T (.tup [.int (i : Nat), x]) ∧ ∀ xs, SqT K H a xs → xs[i]? = some x, fun i H => ∃ xs : List V, SqT K H a xs ∧ xs.length = i⟩
theorem turn_enumT {P : Program} {w : World} {K : PySem.W.Frag} {elts : List Expr} {kk : Nat} {tpos : Pos} (a e it : Addr) :
    Turn P w K (.Tuple elts kk tpos) (IteT K a) [e, it] e (fun i h => (∃ old, IsEnum h e it ((i : Nat) : Int) old) ∧ h.IsTupleIter it a i ∧ e ≠ it ∧ a ≠ it ∧ a ≠ e) where
  mem := by simp
  obj := fun i h st b hb => by
    obtain ⟨⟨old, he⟩, ⟨o, ho, hc, hd⟩, _⟩ := st
    have e' : b = e ∨ b = it := by simpa using hb
    rcases e' with z | z
    · rw [z]; exact ⟨_, he, fun v q => nomatch q⟩
    · rw [z]; exact ⟨o, ho, fun v q => by rw [hd] at q; cases q⟩
  keep := fun i h h' st k => let ⟨⟨old, he⟩, hi, hne⟩ := st; ⟨⟨old, k e (by simp) _ he⟩, hi.at fun o q => k it (by simp) o q, hne⟩
  item := by
    intro X hP hw hK hc i pins s σ H E I hf st hg
    subst hP hw hK
    obtain ⟨⟨old, he⟩, hit, hne, nai, nae⟩ := st
    obtain ⟨xs, x, hq, hx⟩ := hg
    obtain ⟨its, rv, p, hz⟩ := I.tuple hq
    obtain ⟨u, hu, ru⟩ := rv.get hx
    have hel : e < s.heap.objs.size := Heap.lt_size he
    have hil : it < s.heap.objs.size := by obtain ⟨_, q, _⟩ := hit; exact Heap.lt_size q
    have hlt : i < its.toArray.size := by
      have := (List.getElem?_eq_some_iff.mp hu).1
      simpa using this
    have hA : X.A.in1.handled = none := I.ok.hd hc
    refine wpAny_pyNext_enum_itemD (Draws.tuple hA it a nai its.toArray) he ⟨hit, p⟩ hlt hne (by simp; exact ⟨hne, fun z => nae z.symm⟩) fun u' h' tk hP ho hst hT hsz hk => ?_
    have eu : u' = u := by
      have q : its[i]? = some u' := by simpa using hP
      rw [hu] at q; exact (Option.some.inj q).symm
    subst eu
    obtain ⟨hit', _⟩ := hst
    refine ⟨_, rfl, wpAny_letOwnedTupleGo_enum (s := { s with heap := h', toks := tk + 1 }) ho fun h'' he' sb => ?_⟩
    have hT2 : h''.get? s.heap.objs.size = some { cls := .type "tuple", data := .seq #[.int i tk, u'] } := (sb.2 _ (Nat.ne_of_gt hel)).trans hT
    have new : ObjOk X.prog X.w (upd H s.heap.objs.size (.tup [.int (i : Nat), x])) h'' s.heap.objs.size (.tup [.int (i : Nat), x]) :=
      ⟨by show 2 ≤ sizeLine; decide, [.int i tk, u'], .cons ⟨_, rfl⟩ (.cons ru .nil), ⟨_, hT2, rfl, _, rfl⟩⟩
    have I1 : Inv X pins σ (upd H s.heap.objs.size (.tup [.int (i : Nat), x])) { s with heap := h'', toks := tk + 1 } :=
      I.turnedNew (ch := [e, it]) (fun b ob hb q => (sb.2 b (fun z => hb (by simp [z]))).trans (hk b ob (fun z => hb (by simp [z])) (fun z => hb (by simp [z])) q)) hf (Nat.le_refl _) new
    refine ⟨.ref s.heap.objs.size, _, I1, rfl, ⟨_, x, rfl, I.hok.fresh (Nat.le_refl _), rfl, fun ys hy => by rw [I.tuple_inj hy hq]; exact hx⟩, ⟨⟨u', ?_⟩, hit'.at fun o q => (sb.2 it (Ne.symm hne)).trans q, hne, nai, nae⟩, fun b hb => ?_⟩
    · have e1 : ((i + 1 : Nat) : Int) = (i : Int) + 1 := by omega
      rw [e1]; exact he'
    · have hb' : b < s.heap.objs.size := by
        have e' : b = e ∨ b = it := by simpa using hb
        rcases e' with z | z
        · rw [z]; exact hel
        · rw [z]; exact hil
      rw [upd_ne (Nat.ne_of_lt hb')]
      exact (hf b hb).1
  done := by
    intro X hP hw hK hc i pins s σ H E I hf st hg
    subst hP hw hK
    obtain ⟨⟨old, he⟩, hit, hne, nai, nae⟩ := st
    obtain ⟨xs, hq, hx⟩ := hg
    obtain ⟨its, rv, p, hz⟩ := I.tuple hq
    obtain ⟨f0, f1, f2, f3, f4, f5⟩ := hf it (by simp)
    have hl := rv.length
    have hA : X.A.in1.handled = none := I.ok.hd hc
    have en : i = its.toArray.size := by simp; omega
    subst en
    exact wpAny_pyNext_enum_endD (Draws.tuple hA it a nai its.toArray) he ⟨hit, p⟩ fun h' eb => ⟨rfl, I.turned (t' := s.toks) (fun b o hb q => eb b o hb q) f0 f1 f3 f4 f5⟩
  self := fun A i s Q E st h => let ⟨⟨_, he⟩, _⟩ := st; wpAny_pyIter_enum he h
theorem walk_enumT {K : PySem.W.Frag} {a : Addr} {xs : List V} : Walk (IteT K a) xs.length (fun H => SqT K H a xs) (YPair (fun i => some (.int (i : Nat))) (fun i => xs[i]?)) := by
  refine ⟨fun i _ hi q => ⟨xs, xs[i], q, by simp [hi]⟩, fun _ q => ⟨xs, q, rfl⟩, fun i H v H' _ q y => ?_⟩
  obtain ⟨T, x, h1, h2, h3, h4⟩ := y
  exact ⟨T, .int (i : Nat), x, h1, h2, h3, rfl, h4 xs q⟩
/-- enumerate of a list or a tuple: whatever walks it, while its object stays -/
def iEnumS (K : PySem.W.Frag) (ta : TA) : TI := fun σ H R => ta σ H fun vs H1 => ∃ a xs, vs = [.ref a] ∧ (SqL K H1 a xs ∨ SqT K H1 a xs) ∧
  ∀ (J : It) (G : Hp → Prop), Walk J xs.length G (YPair (fun i => some (.int (i : Nat))) (fun i => xs[i]?)) → (∀ H', (SqL K H1 a xs → SqL K H' a xs) → (SqT K H1 a xs → SqT K H' a xs) → G H') → R J H1
theorem stayL {K : PySem.W.Frag} {H H' : Hp} {a : Addr} {xs : List V} (h : SqL K H a xs) (e : ∀ o, H a = some o → H' a = some o) : SqL K H' a xs := by
  rcases h with (h | ⟨o, h⟩) | h
  · exact .inl (.inl (e _ h))
  · exact .inl (.inr ⟨o, e _ h⟩)
  · exact .inr h
theorem stayT {K : PySem.W.Frag} {H H' : Hp} {a : Addr} {xs : List V} (h : SqT K H a xs) (e : ∀ o, H a = some o → H' a = some o) : SqT K H' a xs := by
  rcases h with (h | ⟨o, h⟩) | h
  · exact .inl (.inl (e _ h))
  · exact .inl (.inr ⟨o, e _ h⟩)
  · exact .inr h
theorem pi_enumS {X : Cx} {e : Expr} {ta : TA} {p pos tpos : Pos} {elts : List Expr} {kk : Nat} (hg : Gl X "enumerate") (hm : X.mg "enumerate" = none) (ha : PA X [e] ta) (hs : starEach [e] X.env = [(false, eval e X.env)] := by rfl) :
    PI X (.Tuple elts kk tpos) (.Call (.Name "enumerate" p) [e] [] pos) (iEnumS X.K ta) := by
  refine ⟨fun pins s σ H R I h => ?_⟩
  refine Call_ (ld_blt I hg hm boot_enumerate (PyProof.Rows.callWith_type1 (thn (ha.run pos pins s σ H _ I h) fun us s1 ⟨vs, H1, I1, r1, q1⟩ => ?_) hs rfl))
  obtain ⟨a, xs, ex, hq, q⟩ := q1
  subst ex
  have hfp : ∀ b, b = s1.heap.objs.size + 1 ∨ b = s1.heap.objs.size → s1.heap.objs.size ≤ b := fun b e' => by
    rcases e' with z | z
    · rw [z]; exact Nat.le_add_right _ _
    · rw [z]; exact Nat.le_refl _
  cases r1 with
  | cons r rr =>
    cases rr
    cases r
    rcases hq with hq | hq
    · obtain ⟨its, rv, p', hz⟩ := I1.list hq
      refine call_enumerate_list p'.isList fun h' he hit hsz hk => wpAny_pyIter_enum he ?_
      have I2 : Inv X pins σ H1 { s1 with heap := h' } := I1.kept (t' := s1.toks) hk
      refine ⟨s1.heap.objs.size + 1, [s1.heap.objs.size + 1, s1.heap.objs.size], _, _, H1, rfl, I2, turn_enum a (s1.heap.objs.size + 1) s1.heap.objs.size, ⟨⟨.none, he⟩, hit, Nat.succ_ne_self _⟩, fun b hb => ?_, q _ _ walk_enum fun H' e _ => e hq⟩
      have hle := hfp b (by simpa using hb)
      exact I1.fpOk hle (I1.hok.fresh hle)
    · obtain ⟨its, rv, p', hz⟩ := I1.tuple hq
      have hlt := p'.lt
      refine call_enumerate_tup p' fun h' he hit hsz hk => wpAny_pyIter_enum he ?_
      have I2 : Inv X pins σ H1 { s1 with heap := h' } := I1.kept (t' := s1.toks) hk
      refine ⟨s1.heap.objs.size + 1, [s1.heap.objs.size + 1, s1.heap.objs.size], _, _, H1, rfl, I2, turn_enumT a (s1.heap.objs.size + 1) s1.heap.objs.size, ⟨⟨.none, he⟩, hit, Nat.succ_ne_self _, Nat.ne_of_lt hlt, Nat.ne_of_lt (Nat.lt_succ_of_lt hlt)⟩, fun b hb => ?_, q _ _ walk_enumT fun H' _ e => e hq⟩
      have hle := hfp b (by simpa using hb)
      exact I1.fpOk hle (I1.hok.fresh hle)

/-! ### a def of the text keeps its promise -/
section
variable {P : Program} {w : World} {K : PySem.W.Frag} {mg : Str → Option Value} {base : Heap}
theorem fnr {x qual : Str} {st : Stmt} {f : Addr} {fd : FuncData} {N ps : List Str} {k : Nat} {sp : Sp} (F : Fun K x qual st f fd) (S : FnScope N ps (defScope st)) (len : ∀ vs H Q E, sp vs H Q E → vs.length = ps.length)
    (hb : ∀ (kV doc pm : Value) (an : Option Addr) (cdv ct : Value) (us : List Value), us.length = ps.length → bindArgs (PySem.W.fnOf x qual (defArgs st) (defBody st) (defScope st) .none kV doc pm an cdv ct) ⟨us, []⟩ = pure (ps.zip us))
    (hbody : ∀ (cdv : Value) (A : Around) (outer : List Env) (s : Shared) (H : Hp) (vs : List V) (Q : VK) (E : XK), Room k (A.deeper (envOfC qual (defScope st) s.heap.objs.size f cdv)) → sp vs H Q E →
      ∃ t, PSs (cxOf CX0 P w K mg base N qual (defScope st) f cdv A outer s H E).nox (defBody st) t ∧ t { nx := fun _ H' => Q .non H', rt := Q } (start N vs) H) : FnR P w K mg base CX0 (k + 1) f sp :=
  (FnOk.raw (F.ok S len hbody) (F.binds hb) .nil).imp fun vs H Q E h => by rw [List.append_nil]; exact h
end
/-- a def of the text with defaults -/
theorem fnrD {P : Program} {w : World} {K : PySem.W.Frag} {mg : Str → Option Value} {base : Heap} {x qual : Str} {st : Stmt} {f : Addr} {fd : FuncData} {dvs : List V} {kws : List (Str × V)} {N ps : List Str} {k : Nat} {sp : Sp} (F : FunD K x qual (defArgs st) (defBody st) (defScope st) dvs kws f fd) (S : FnScope N ps (defScope st)) (len : ∀ vs H Q E, sp vs H Q E → vs.length = ps.length)
    (hbody : ∀ (cdv : Value) (A : Around) (outer : List Env) (s : Shared) (H : Hp) (vs : List V) (Q : VK) (E : XK), Room k (A.deeper (envOfC qual (defScope st) s.heap.objs.size f cdv)) → sp vs H Q E →
      ∃ t, PSs (cxOf CX0 P w K mg base N qual (defScope st) f cdv A outer s H E).nox (defBody st) t ∧ t { nx := fun _ H' => Q .non H', rt := Q } (start N vs) H) : FnOk P w K mg base CX0 (k + 1) f fd ps sp :=
  F.ok S len fun cdv A outer s H vs Q E hr h => by
    obtain ⟨t, a, q⟩ := hbody cdv A outer s H vs Q E hr h
    exact ⟨t, a.nox, q⟩
theorem FnOk.r {P : Program} {w : World} {K : PySem.W.Frag} {mg : Str → Option Value} {base : Heap} {CX : CXT} {k : Nat} {f : Addr} {fd : FuncData} {ps : List Str} {sp : Sp} (F : FnOk P w K mg base CX k f fd ps sp) (b : Binds K fd ps []) : FnR P w K mg base CX k f sp :=
  (FnOk.raw F b .nil).imp fun vs H Q E h => by rw [List.append_nil]; exact h
theorem rix_S {K : PySem.W.Frag} {H : Hp} {n : Addr} {ys : List V} {i : Int} {v : V} {Q : VK} (h : SqL K H n ys ∨ SqT K H n ys) (e : atI ys i = some v) (q : Q v H) : rIx K (.ref n) (.int i) H Q :=
  h.elim (fun h => .inl ⟨n, ys, i, v, rfl, rfl, h, e, q⟩) (fun h => .inr (.inl ⟨n, ys, i, v, rfl, rfl, h, e, q⟩))
theorem ifY {c A B : Prop} [Decidable c] (hc : c) (h : A) : if decide c = true then A else B := by
  rw [decide_eq_true hc]
  exact iteT h
theorem ifN {c A B : Prop} [Decidable c] (hc : ¬ c) (h : B) : if decide c = true then A else B := by
  rw [decide_eq_false hc]
  exact iteF h
theorem ifNN {c A B : Prop} [Decidable c] (hc : ¬ c) (h : A) : if (!decide c) = true then A else B := by
  rw [decide_eq_false hc]
  exact iteT h
/-- names that the module leaves to the built-ins -/
def Free (mg : Str → Option Value) : List Str → Prop
  | [] => True
  | x :: r => mg x = none ∧ Free mg r
/-- what stood stands, but at b -/
def KeepB (b : Addr) (H H' : Hp) : Prop := ∀ c o, H c = some o → c ≠ b → H' c = some o
theorem KeepB.refl (b : Addr) (H : Hp) : KeepB b H H := fun _ _ e _ => e
theorem KeepB.trans {b : Addr} {H H1 H2 : Hp} (x : KeepB b H H1) (y : KeepB b H1 H2) : KeepB b H H2 := fun c o e n => y c o (x c o e n) n
theorem KeepB.of_same {b : Addr} {H H1 : Hp} (x : Same H H1) : KeepB b H H1 := fun c o e _ => x c o e
theorem KeepB.upd {b : Addr} {H H1 : Hp} {o : HO} (x : KeepB b H H1) : KeepB b H (L2.upd H1 b o) := fun c u e n => by rw [upd_ne n]; exact x c u e n
theorem KeepB.new {b p : Addr} {H H1 : Hp} {o : HO} (x : KeepB b H H1) (hp : H1 p = none) : KeepB b H (L2.upd H1 p o) := fun c u e n => by
  rw [upd_ne (ne_of_none (x c u e n) hp)]; exact x c u e n
theorem same_new {p : Addr} {H H1 : Hp} {o : HO} (x : Same H H1) (hp : H1 p = none) : Same H (L2.upd H1 p o) := fun c u e => by
  rw [upd_ne (ne_of_none (x c u e) hp)]; exact x c u e
theorem Same.sqT {K : PySem.W.Frag} {H H' : Hp} {a : Addr} {xs : List V} (e : Same H H') (h : SqT K H a xs) : SqT K H' a xs := by
  rcases h with (h | ⟨o, h⟩) | h
  · exact .inl (.inl (e _ _ h))
  · exact .inl (.inr ⟨o, e _ _ h⟩)
  · exact .inr h
theorem KeepB.sqT {K : PySem.W.Frag} {b : Addr} {H H' : Hp} {a : Addr} {xs : List V} (e : KeepB b H H') {l : List V} (hb : H b = some (.lst l)) (h : SqT K H a xs) : SqT K H' a xs := by
  rcases h with (h | ⟨o, h⟩) | h
  · exact .inl (.inl (e _ _ h (ne_of h hb (by intro z; cases z))))
  · exact .inl (.inr ⟨o, e _ _ h (ne_of h hb (by intro z; cases z))⟩)
  · exact .inr h
/-- what b holds is neither a list nor locked -/
def NoSeq (o : HO) : Prop := (∀ xs, o ≠ .lst xs) ∧ (∀ xs, o ≠ .tup xs) ∧ ∀ ob u, o ≠ .frz ob u
theorem KeepB.sqT' {K : PySem.W.Frag} {b : Addr} {H H' : Hp} {a : Addr} {xs : List V} {o : HO} (e : KeepB b H H') (hb : H b = some o) (ho : NoSeq o) (h : SqT K H a xs) : SqT K H' a xs := by
  rcases h with (h | ⟨o, h⟩) | h
  · exact .inl (.inl (e _ _ h (ne_of h hb fun z => ho.2.1 _ z.symm)))
  · exact .inl (.inr ⟨o, e _ _ h (ne_of h hb fun z => ho.2.2 _ _ z.symm)⟩)
  · exact .inr h
theorem KeepB.sqL' {K : PySem.W.Frag} {b : Addr} {H H' : Hp} {a : Addr} {xs : List V} {o : HO} (e : KeepB b H H') (hb : H b = some o) (ho : NoSeq o) (h : SqL K H a xs) : SqL K H' a xs := by
  rcases h with (h | ⟨o, h⟩) | h
  · exact .inl (.inl (e _ _ h (ne_of h hb fun z => ho.1 _ z.symm)))
  · exact .inl (.inr ⟨o, e _ _ h (ne_of h hb fun z => ho.2.2 _ _ z.symm)⟩)
  · exact .inr h
theorem noSeq_dK (kvs : List (Key × V)) : NoSeq (.dK kvs) := ⟨fun _ z => (by cases z), fun _ z => (by cases z), fun _ _ z => (by cases z)⟩
theorem noSeq_ins (C dx : Addr) (fs : List (Str × V)) : NoSeq (.ins C dx fs) := ⟨fun _ z => (by cases z), fun _ z => (by cases z), fun _ _ z => (by cases z)⟩
theorem KeepB.sqL {K : PySem.W.Frag} {b : Addr} {H H' : Hp} {a : Addr} {xs : List V} (e : KeepB b H H') (hn : a ≠ b) (h : SqL K H a xs) : SqL K H' a xs := by
  rcases h with (h | ⟨o, h⟩) | h
  · exact .inl (.inl (e _ _ h hn))
  · exact .inl (.inr ⟨o, e _ _ h hn⟩)
  · exact .inr h

/-! ### data -/
def Sh (d : PyData) : Prop := d.canLay0 = true ∧ d.depth ≤ 10
theorem canLayAll_of : ∀ {ds : List PyData}, (∀ d ∈ ds, d.canLay0 = true) → PyData.canLayAll0 ds = true
  | [], _ => rfl
  | d :: ds, h => by
    show (PyData.canLay0 d && PyData.canLayAll0 ds) = true
    rw [h d List.mem_cons_self, canLayAll_of fun e he => h e (List.mem_cons_of_mem _ he)] <;> rfl
theorem depthAll_of {k : Nat} : ∀ {ds : List PyData}, (∀ d ∈ ds, d.depth ≤ k) → PyData.depthAll ds ≤ k
  | [], _ => Nat.zero_le _
  | d :: ds, h => by
    show max (PyData.depth d) (PyData.depthAll ds) ≤ k
    exact Nat.max_le.mpr ⟨h d List.mem_cons_self, depthAll_of fun e he => h e (List.mem_cons_of_mem _ he)⟩
theorem shaped_list {ds : List PyData} (h : ∀ d ∈ ds, Sh d) : SeqAt.shaped (.list ds) = true := by
  have h1 : PyData.canLay0 (.list ds) = true := canLayAll_of fun d hd => (h d hd).1
  have h2 : PyData.depth (.list ds) ≤ 11 := Nat.succ_le_succ (depthAll_of fun d hd => (h d hd).2)
  unfold SeqAt.shaped
  rw [h1, decide_eq_true (Nat.le_trans h2 (by decide))] <;> rfl
theorem shaped_tuple {ds : List PyData} (h : ∀ d ∈ ds, Sh d) : SeqAt.shaped (.tuple ds) = true := by
  have h1 : PyData.canLay0 (.tuple ds) = true := canLayAll_of fun d hd => (h d hd).1
  have h2 : PyData.depth (.tuple ds) ≤ 11 := Nat.succ_le_succ (depthAll_of fun d hd => (h d hd).2)
  unfold SeqAt.shaped
  rw [h1, decide_eq_true (Nat.le_trans h2 (by decide))] <;> rfl
theorem sh_seq {k : Nat} {ds : List PyData} (h : ∀ d ∈ ds, d.canLay0 = true ∧ d.depth ≤ k) (hk : k ≤ 9) : Sh (.list ds) ∧ Sh (.tuple ds) := by
  have h1 : PyData.canLayAll0 ds = true := canLayAll_of fun d hd => (h d hd).1
  have h2 : PyData.depthAll ds + 1 ≤ 10 := Nat.succ_le_succ (Nat.le_trans (depthAll_of fun d hd => (h d hd).2) hk)
  exact ⟨⟨h1, h2⟩, ⟨h1, h2⟩⟩
theorem sh_ints (ns : List Int) : ∀ d ∈ ns.map PyData.int, Sh d := fun d hd => by
  obtain ⟨n, _, rfl⟩ := List.mem_map.mp hd
  exact ⟨rfl, Nat.zero_le _⟩
theorem eqvAll_ints : ∀ a b : List Int, PyData.eqvAll (a.map PyData.int) (b.map PyData.int) = decide (a = b)
  | [], [] => rfl
  | [], _ :: _ => rfl
  | _ :: _, [] => rfl
  | x :: a, y :: b => by
    show (PyData.eqv (.int x) (.int y) && PyData.eqvAll (a.map PyData.int) (b.map PyData.int)) = decide (x :: a = y :: b)
    rw [eqvAll_ints a b]
    have e : PyData.eqv (.int x) (.int y) = decide (x = y) := by
      unfold PyData.eqv
      exact Bool.beq_eq_decide_eq x y
    rw [e, ← Bool.decide_and]
    exact decide_eq_decide.mpr ⟨fun h => by rw [h.1, h.2], fun h => by injection h with h1 h2; exact ⟨h1, h2⟩⟩
theorem eqv_list {a b : List PyData} : PyData.eqv (.list a) (.list b) = PyData.eqvAll a b := by rw [PyData.eqv]
theorem eqv_tuple {a b : List PyData} : PyData.eqv (.tuple a) (.tuple b) = PyData.eqvAll a b := by rw [PyData.eqv]
theorem eqv_same {ds : List PyData} (h : ∀ d ∈ ds, Sh d) : PyData.eqv (.list ds) (.list ds) = true := SeqAt.eqv_refl _ (canLayAll_of fun d hd => (h d hd).1)
section
variable {K : PySem.W.Frag} {H H' : Hp}
theorem dpAll_ints : ∀ ns : List Int, DpAll K H (ns.map V.int) (ns.map PyData.int)
  | [] => .nil
  | n :: r => .cons (.int n) (dpAll_ints r)
theorem dp_ints {p : Addr} {ns : List Int} (h : SqL K H p (ns.map V.int)) : Dp K H (.ref p) (.list (ns.map PyData.int)) := .lst h (dpAll_ints ns)
theorem dp_intsT {p : Addr} {ns : List Int} (h : SqT K H p (ns.map V.int)) : Dp K H (.ref p) (.tuple (ns.map PyData.int)) := .tup h (dpAll_ints ns)
mutual
theorem Dp.mono (e : Same H H') : ∀ {v : V} {d : PyData}, Dp K H v d → Dp K H' v d
  | _, _, .non => .non
  | _, _, .bl b => .bl b
  | _, _, .int i => .int i
  | _, _, .str x => .str x
  | _, _, .lst h q => .lst (L2.Same.seq e h) (DpAll.mono e q)
  | _, _, .tup h q => .tup (Same.sqT e h) (DpAll.mono e q)
theorem DpAll.mono (e : Same H H') : ∀ {vs : List V} {ds : List PyData}, DpAll K H vs ds → DpAll K H' vs ds
  | _, _, .nil => .nil
  | _, _, .cons h q => .cons (Dp.mono e h) (DpAll.mono e q)
end
theorem DpAll.length : ∀ {vs : List V} {ds : List PyData}, DpAll K H vs ds → vs.length = ds.length
  | _, _, .nil => rfl
  | _, _, .cons _ q => congrArg Nat.succ (DpAll.length q)
theorem DpAll.get : ∀ {vs : List V} {ds : List PyData} {i : Nat} {v : V}, DpAll K H vs ds → vs[i]? = some v → ∃ d, ds[i]? = some d ∧ Dp K H v d
  | _, _, _, _, .nil, e => by simp at e
  | _, _, 0, v, .cons (v := v') h _, e => by
    have : v' = v := Option.some.inj e
    subst this
    exact ⟨_, rfl, h⟩
  | _, _, i + 1, v, .cons _ q, e => by
    obtain ⟨d, h1, h2⟩ := DpAll.get (i := i) q (by simpa using e)
    exact ⟨d, by simpa using h1, h2⟩
theorem DpAll.snoc : ∀ {vs : List V} {ds : List PyData} {v : V} {d : PyData}, DpAll K H vs ds → Dp K H v d → DpAll K H (vs ++ [v]) (ds ++ [d])
  | _, _, _, _, .nil, h => .cons h .nil
  | _, _, _, _, .cons h q, h' => .cons h (DpAll.snoc q h')
end

/-! ### rules with the written part named: within a comprehension -/
section
variable {X : Cx} {K : PySem.W.Frag}
theorem ix_tupK (hK : X.K = K) : IxR X (rIxT K) := hK ▸ ix_tup
theorem ix_listK (hK : X.K = K) : IxR X (rIxL K) := hK ▸ ix_list
theorem ix_seqK (hK : X.K = K) : IxR X (rIx K) := hK ▸ ix_seq
theorem op_in_seqK (hK : X.K = K) : OpR X (compareOp .In) (rIn K false) := hK ▸ op_in_seq
theorem op_notIn_seqK (hK : X.K = K) : OpR X (compareOp .NotIn) (rIn K true) := hK ▸ op_notIn_seq
theorem op_eqDK (hK : X.K = K) (hu : X.A.units + 64 < cLine) : OpR X (compareOp .Eq) (rEqD K) := hK ▸ op_eqD hu
theorem op_neDK (hK : X.K = K) (hu : X.A.units + 64 < cLine) : OpR X (compareOp .NotEq) (rNeD K) := hK ▸ op_neD hu
theorem pe_fldK {e : Expr} {ta : TE} {f : Str} {pos : Pos} (hK : X.K = K) (he : PE X e ta) (hb : attributeBase e f X.env (eval e X.env) = eval e X.env) : PE X (.Attribute e f pos) (tFld K ta f) := hK ▸ pe_fld he hb
def rLenS (K : PySem.W.Frag) : List V → Hp → VK → Prop := fun xs H Q => ∃ p ys, xs = [.ref p] ∧ (SqL K H p ys ∨ SqT K H p ys) ∧ Q (.int ys.length) H
theorem call_len_seqK (hK : X.K = K) : CallR X (.builtin "len") (rLenS K) := hK ▸ call_len_seq
end

theorem pg_tupK {X : Cx} {K : PySem.W.Frag} {pos : Pos} {es : List Expr} {k : Nat} {t : TGs} {n : Nat} (hK : X.K = K) (hc : X.calm = true) (h : PGs X es t)
    (hn : (assignEach es X.env).length = n := by rfl) (hst : (assignEach es X.env).findIdx? (·.1) = none := by rfl) : PG X (.Tuple es k pos) (gTup K n t) := hK ▸ pg_tup hc h hn hst
/-- a dict comprehension over what is walked -/
theorem dc_it {J : It} {n : Nat} {G : Hp → Prop} {Y : Nat → Hp → V → Hp → Prop} (w : Walk J n G Y) {g : TG} {tt : TT} {tk tv : TE} {vs : List Nat} {σ : L2.St} {H1 : Hp} {D : Addr} {Qd : Hp → Prop} (Pv : Nat → Hp → Prop) (h0 : Pv 0 (upd H1 D (.dK []))) (hG : ∀ i H, i ≤ n → Pv i H → G H)
    (hs : ∀ i x H H', i < n → Pv i H → Y i H x H' → g x (wipe σ vs) H' fun σ2 H2 => wipe σ2 vs = wipe σ vs ∧ tt σ2 H2 fun b H3 =>
      if b = true then tk σ2 H3 fun y H4 => tv σ2 H4 fun z H5 => ∃ kvs k, y = kV k ∧ H5 D = some (.dK kvs) ∧ kvs.length < sizeLine ∧ Pv (i + 1) (upd H5 D (.dK (putK kvs k z))) else Pv (i + 1) H3) (hd : ∀ H, Pv n H → Qd H) :
    ∃ W : Nat → Nat → Hp → Prop, (∃ m, W 0 m (upd H1 D (.dK []))) ∧ ∀ i m H, W i m H →
      (J.stop i H ∧ Qd H) ∨ (J.go i H ∧ ∃ Nx : Hp → Prop, (∀ H', Nx H' → ∃ m', m' < m ∧ W (i + 1) m' H') ∧ ∀ x H', J.yld i H x H' → g x (wipe σ vs) H' fun σ2 H2 => wipe σ2 vs = wipe σ vs ∧ tt σ2 H2 fun b H3 =>
        if b = true then tk σ2 H3 fun y H4 => tv σ2 H4 fun z H5 => ∃ kvs k, y = kV k ∧ H5 D = some (.dK kvs) ∧ kvs.length < sizeLine ∧ Nx (upd H5 D (.dK (putK kvs k z))) else Nx H3) := by
  refine ⟨fun i m H => m = n - i ∧ i ≤ n ∧ Pv i H, ⟨n, by simp, Nat.zero_le _, h0⟩, ?_⟩
  rintro i m H ⟨rfl, hi, p⟩
  have q := hG i H hi p
  by_cases hlt : i < n
  · exact .inr ⟨w.goes i H hlt q, Pv (i + 1), fun H' p' => ⟨n - (i + 1), by omega, rfl, hlt, p'⟩, fun x H' y => hs i x H H' hlt p (w.yields i H x H' hlt q y)⟩
  · have e : i = n := by omega
    subst e
    exact .inl ⟨w.stops H q, hd H p⟩

theorem seqIdx_nat {m len : Nat} (h : m < len) : seqIndex? (m : Int) len = some m := by
  unfold seqIndex?
  have h1 : ¬ ((m : Int) < 0) := by omega
  simp only [h1, if_false]
  have h2 : (decide ((0 : Int) ≤ (m : Int)) && decide ((m : Int) < (len : Int))) = true := by
    rw [Bool.and_eq_true]
    exact ⟨decide_eq_true (by omega), decide_eq_true (by omega)⟩
  rw [if_pos h2]
  simp
theorem map_eraseI {α β : Type} (f : α → β) : ∀ (l : List α) (i : Nat), (l.map f).eraseIdx i = (l.eraseIdx i).map f
  | [], _ => rfl
  | _ :: _, 0 => rfl
  | a :: r, i + 1 => by
    show f a :: (r.map f).eraseIdx i = f a :: (r.eraseIdx i).map f
    rw [map_eraseI f r i]
theorem lt_line {n : Nat} (h : n ≤ 100000) : n < sizeLine := Nat.lt_of_le_of_lt h (by decide)
theorem le_line {n : Nat} (h : n ≤ 100000) : n ≤ sizeLine := Nat.le_of_lt (lt_line h)

theorem ixN_nat {m len : Nat} (h : m < len) : ixN len (m : Int) = some m := by
  unfold ixN
  rw [if_pos (by omega), if_pos (by omega)]
  simp
theorem set_last {α : Type} : ∀ (a : List α) (x y : α), (a ++ [x]).set a.length y = a ++ [y]
  | [], _, _ => rfl
  | b :: r, x, y => by
    show b :: (r ++ [x]).set r.length y = b :: (r ++ [y])
    rw [set_last r x y]
theorem strOk_of (t : String) : PyData.strOk (Str.ofString t) = true := by
  rw [Str.ofString_eq_toList]
  unfold PyData.strOk
  rw [← Array.all_toList]
  simp only [List.all_eq_true, decide_eq_true_eq]
  intro c hc
  have hc' : c ∈ t.toList.map Char.toNat := by simpa using hc
  obtain ⟨ch, _, rfl⟩ := List.mem_map.mp hc'
  have v := ch.valid
  rcases v with v | v
  · have : ch.toNat < 0xd800 := v
    omega
  · have : ch.toNat < 0x110000 := v.2
    omega
theorem strOk_app (a b : Str) (ha : PyData.strOk a = true) (hb : PyData.strOk b = true) : PyData.strOk (a ++ b) = true := by
  unfold PyData.strOk at *
  show (a.cps ++ b.cps).all _ = true
  rw [Array.all_append, ha, hb] <;> rfl
/-- the heap without some addresses -/
def Wo (H : Hp) (bs : List Addr) : Hp := fun c => if c ∈ bs then none else H c
theorem wo_same {H : Hp} {bs : List Addr} : Same (Wo H bs) H := fun c o e => by
  unfold Wo at e
  by_cases h : c ∈ bs
  · rw [if_pos h] at e; cases e
  · rw [if_neg h] at e; exact e
theorem wo_mono {H H' : Hp} {bs : List Addr} (k : ∀ c o, H c = some o → c ∉ bs → H' c = some o) : Same (Wo H bs) (Wo H' bs) := fun c o e => by
  unfold Wo at e ⊢
  by_cases h : c ∈ bs
  · rw [if_pos h] at e; cases e
  · rw [if_neg h] at e ⊢
    exact k c o e h
theorem wo_at {H : Hp} {bs : List Addr} {c : Addr} {o : HO} (h : H c = some o) (hn : c ∉ bs) : Wo H bs c = some o := by
  unfold Wo
  rw [if_neg hn]
  exact h

theorem inV_ints (v : Int) : ∀ ps : List Int, inV (.int v) (ps.map V.int) = decide (v ∈ ps)
  | [] => by simp [inV]
  | p :: r => by
    have ih := inV_ints v r
    unfold inV at ih ⊢
    rw [List.map_cons, List.any_cons, ih]
    have e : eqV (.int p) (.int v) = decide (v = p) := by
      show (p == v) = _
      by_cases h : p = v
      · subst h; simp
      · have h' : ¬ v = p := fun z => h z.symm
        simp [h, h']
    rw [e]
    by_cases h : v = p <;> simp [h]
theorem flat_ints (ps : List Int) : (ps.map V.int).all flatV = true := by
  rw [List.all_eq_true]
  intro x hx
  obtain ⟨p, _, rfl⟩ := List.mem_map.mp hx
  rfl
theorem ifNT {b : Bool} {A B : Prop} (hb : b = true) (h : B) : if (!b) = true then A else B := by
  subst hb
  exact iteF h
theorem ifT {b : Bool} {A B : Prop} (hb : b = true) (h : A) : if b = true then A else B := by
  subst hb
  exact iteT h
theorem ifF {b : Bool} {A B : Prop} (hb : b = false) (h : B) : if b = true then A else B := by
  subst hb
  exact iteF h
theorem flat_rep {α : Type} (x : α) : ∀ k : Nat, (List.replicate k [x]).flatten = List.replicate k x
  | 0 => rfl
  | k + 1 => by
    rw [List.replicate_succ, List.flatten_cons, flat_rep x k, List.replicate_succ]
    rfl
theorem dpAll_rep {K : PySem.W.Frag} {H : Hp} {x : V} {d : PyData} (h : Dp K H x d) : ∀ k : Nat, DpAll K H (List.replicate k x) (List.replicate k d)
  | 0 => .nil
  | k + 1 => .cons h (dpAll_rep h k)
end SB

/-! Own exceptions over ValueError whose __init__ begins with super().__init__(..). -/
namespace SB
open PySem PySem.Spec PyProof.Rows L2 NdefX
section
variable {X : Cx} {pins : List (Addr × Obj)} {σ : L2.St} {H : Hp} {s : Shared} {a C u : Addr}
/-- the bound __init__ of the base, called: nothing of it is told -/
theorem call_mw {A : Around} {E : Value → Shared → Prop} {us : List Value} {Q : Value → Shared → Prop} (T : OexC X.K C) (I : Inv X pins σ H s) (e : H a = some (exo a C none)) (hu : s.heap.get? u = some (PySem.W.kxs_mw "ValueError.__init__" a)) (hl : us.length ≤ sizeLine)
    (h : ∀ s', Inv X pins σ H s' → Q .none s') : wpAny (model X.prog X.w) A (call (.ref u) us) Q E s := by
  obtain ⟨nm, q, N, bs, bm, sn, sub, ab, col, dd, k0, k1, k2, k3, k5, hC, hbm⟩ := T.cls
  obtain ⟨t1, ho⟩ := exo_at I.hok e
  have FB := F.excBase_ValueError
  have hC' := I.kIn _ _ hC
  have fin : ∀ h', (∀ b o, b ≠ a → s.heap.get? b = some o → h'.get? b = some o) → (∃ t2 : Addr, h'.get? a = some ({ cls := .ref C, dict := none, data := .fields #[.ref t2, .none, .none, .none, .bool false, .none] } : Obj)) → Q .none { s with heap := h' } := fun h' k hx => by
    obtain ⟨t2, hx⟩ := hx
    have J := I.write (t' := s.toks) (x := a) (e := a) (o := exo a C none) (by rw [e]; exact True.intro) (.inl rfl) k ⟨_, hx⟩ (exo_ok hx)
    have eu : upd H a (exo a C none) = H := by
      funext b
      by_cases hb : b = a
      · rw [hb, upd_same, e]
      · rw [upd_ne hb]
    rw [eu] at J
    exact h _ J
  obtain ⟨hh, g, d, tk, os⟩ := s
  refine wpAny_call (codeAny_of_tree ?_)
  show wpAny _ A.in1 (callAny (.ref u) ⟨us, []⟩) _ _ _
  simp only [callAny]
  refine wpAny_bind (wpAny_load hu ?_)
  simp only [PySem.W.kxs_mw, show (Value.type "method-wrapper" == Value.type "method" || Value.type "method-wrapper" == Value.type "builtin_function_or_method" || Value.type "method-wrapper" == Value.type "method-wrapper") = true by decide, if_true]
  refine PySem.W.KFB.if_so (by decide) ?_
  refine wpAny_bind (PySem.W.check_bound_init FB.toExcCallFacts hC' ho rfl ?_)
  refine wpAny_bind (wpAny_pure (wpAny_pure ?_))
  refine ⟨plainId_quiet FB.init.plain _, codeAny_builtin FB.initEntry ?_⟩
  refine PySem.W.exc_init_tree (cls := .ref C) (t0 := t1) (dv := none) (c2 := .none) (c3 := .none) (b4 := .bool false) ho hl fun h' k e' _ => fin h' k ⟨_, e'⟩
end
/-- what the reading of such a def's body asks -/
def tSup (K : PySem.W.Frag) (D : Addr) (ta : TA) (t : TS) : TS := fun E σ H => ∃ a C : Addr, σ[0]? = some (some (.ref a)) ∧ OexC K C ∧ H a = some (exo a C none) ∧ PySem.W.mroIn K C (.ref D) = some true ∧
  PySem.W.ks_superIn K C D "__init__" = some (some (.builtin "ValueError.__init__")) ∧ PySem.W.subIn K (.ref C) (.type "ValueError") = some true ∧
  ta σ H fun us H1 => us.length ≤ 1000 ∧ H1 a = some (exo a C none) ∧ t E σ H1
theorem fn_sup {CX : CXT} {P : Program} {w : World} {K : PySem.W.Frag} {mg : Str → Option Value} {base : Heap} {k : Nat} {f cc cda D : Addr} {name qual : Str} {params : Arguments} {p0 p1 apos cpos pos : Pos} {e : Expr} {es : List Expr} {rest : List Stmt} {scope : Scope}
    {dV kV doc pm ct oc ccl cl : Value} {an od cdd cld : Option Addr} {osl ccs csl : Array (Option Value)} {N ps : List Str} {sp : Sp} {ar : Arg} {vs0 : Array Value} {file : Str} {tf : Tok} {cdD : ClassData}
    (lk : K.lookup f = some ⟨oc, od, .func (PySem.W.ksFn name qual params (.Expr (.Call (.Attribute (.Call (.Name "super" p0) [] [] p1) "__init__" apos) (e :: es) [] cpos) pos :: rest) scope dV kV doc pm an (.ref cda) ct cc), osl⟩)
    (hcd : PySem.W.codeIn K (.ref cda) qual = true) (S : NScope N ps ["__class__"] scope) (hp : (params.posonlyargs ++ params.args).head? = some ar) (hps : ps[0]? = some ar.arg)
    (hcode : K.lookup cda = some ⟨ccl, cdd, .fields vs0, ccs⟩) (hvs : vs0[2]? = some (.str file tf)) (hfile : ((P.main.file : Str) == file) = true)
    (hcell : K.lookup cc = some ⟨cl, cld, .cell (some (.ref D)), csl⟩) (hD : PySem.W.clsIn K D = some cdD) (hks : scope.names.lookup ("super" : Str) = some .globalImplicit)
    (htop : (P.main.scope.names.lookup ("super" : Str)).isSome = false) (hsu : mg "super" = none) (hth : PySem.W.nsIn K cStatics "thirdparty.any" = some none)
    (len : ∀ vs H Q E, sp vs H Q E → vs.length = ps.length)
    (hbody : ∀ (A : Around) (outer : List Env) (s : Shared) (H : Hp) (vs : List V) (Q : VK) (E : XK), Room k (A.deeper (envF ⟨name, qual, params, (.Expr (.Call (.Attribute (.Call (.Name "super" p0) [] [] p1) "__init__" apos) (e :: es) [] cpos) pos :: rest), scope, [("__class__", cc)], cda⟩ f s.heap.objs.size)) → sp vs H Q E →
      ∃ ta t, PA (ncx CX P w K mg base N ⟨name, qual, params, (.Expr (.Call (.Attribute (.Call (.Name "super" p0) [] [] p1) "__init__" apos) (e :: es) [] cpos) pos :: rest), scope, [("__class__", cc)], cda⟩ f A outer s H E) (e :: es) ta ∧
        PSs (ncx CX P w K mg base N ⟨name, qual, params, (.Expr (.Call (.Attribute (.Call (.Name "super" p0) [] [] p1) "__init__" apos) (e :: es) [] cpos) pos :: rest), scope, [("__class__", cc)], cda⟩ f A outer s H E) rest t ∧
        tSup K D ta t { nx := fun _ H' => Q .non H', rt := Q } (startF N vs [none]) H)
    (he : ∀ env : Env, starEach (e :: es) env = (false, eval e env) :: starEach es env := by intro _; rfl) (hpl : ∀ env : Env, (backTo cpos (starEach es env)).any (·.1) = false := by intro _; rfl)
    {pl : Env → Sem Bool} (ht : ∀ env : Env, eval (.Call (.Attribute (.Call (.Name "super" p0) [] [] p1) "__init__" apos) (e :: es) [] cpos) env = (do
      let ov ← attributeBase (.Call (.Name "super" p0) [] [] p1) "__init__" env (eval (.Call (.Name "super" p0) [] [] p1) env)
      standAt apos.atName
      let (f, first) ← holding [ov] (getMethod ov "__init__" (pl env))
      callWith cpos f first (backTo cpos (starEach (e :: es) env)) []) := by intro _; rfl)
    (hs : ∀ env : Env, swapsWith (.Call (.Attribute (.Call (.Name "super" p0) [] [] p1) "__init__" apos) (e :: es) [] cpos) none pos.line env = pure false := by intro _; rfl) :
    FnOk P w K mg base CX (k + 1) f (PySem.W.ksFn name qual params (.Expr (.Call (.Attribute (.Call (.Name "super" p0) [] [] p1) "__init__" apos) (e :: es) [] cpos) pos :: rest) scope dV kV doc pm an (.ref cda) ct cc) ps sp := by
  refine ⟨len, fun A outer s H args us vs Q E hr e0 hb r hsp => ?_⟩
  have hl := len _ _ _ _ hsp
  have KX : K.In s.heap := e0.mod.kin.keeps fun b o e => (e0.bs b o e).1
  have lim : s.heap.NoLimit := e0.mod.nolimit.keeps fun b o e => (e0.bs b o e).1
  have KB : ∀ b o, K.lookup b = some o → base.get? b = some o := fun b o z => e0.mod.kin _ _ z
  refine ks_codeAny_call_defAt (fd := PySem.W.ksFn name qual params (.Expr (.Call (.Attribute (.Call (.Name "super" p0) [] [] p1) "__init__" apos) (e :: es) [] cpos) pos :: rest) scope dV kV doc pm an (.ref cda) ct cc) (binds := ps.zip us) hr.depth (KX _ _ lk) rfl lim (PySem.W.codeRec_of KX hcd) rfl hb S.nocell
    (fun ⟨n, _⟩ hy => S.par n (List.of_mem_zip hy).1) (fun h₁ hns kp => ?_) S.co S.gen S.kind
  obtain ⟨ta, t, hA, hR, a, C, h0, T, ea, hm, hsi, hsub, hta⟩ := hbody A outer s H vs Q E (hr.deeper _) hsp
  have C0 : CellsAt [(("__class__" : Str), cc)] ["__class__"] [none] s.heap H := by
    refine ⟨rfl, fun y c z => ?_, fun x y c z1 z2 => ?_, fun i y z => ?_⟩
    · have e1 : (y, c) ∈ [(("__class__" : Str), cc)] := PySem.mem_of_lookup z
      have e2 : (y, c) = (("__class__" : Str), cc) := List.mem_singleton.mp e1
      cases e2
      exact ⟨(e0.bs _ _ (KB _ _ hcell)).2, _, _, KX _ _ hcell, rfl⟩
    · have e1 : (x, c) ∈ [(("__class__" : Str), cc)] := PySem.mem_of_lookup z1
      have e2 : (y, c) ∈ [(("__class__" : Str), cc)] := PySem.mem_of_lookup z2
      have e3 : (x, c) = (("__class__" : Str), cc) := List.mem_singleton.mp e1
      have e4 : (y, c) = (("__class__" : Str), cc) := List.mem_singleton.mp e2
      cases e3
      cases e4
      rfl
    · cases i with
      | zero =>
        have : ("__class__" : Str) = y := by simpa using z
        subst this
        exact ⟨cc, by simp [List.lookup], fun v q => by simp at q⟩
      | succ i => simp at z
  have I := inv_startN (CX := CX) (tk := s.toks + (ps.zip us).length) (F := ⟨name, qual, params, (.Expr (.Call (.Attribute (.Call (.Name "super" p0) [] [] p1) "__init__" apos) (e :: es) [] cpos) pos :: rest), scope, [("__class__", cc)], cda⟩) (f := f) (E := E) S hr.hd e0 hl r C0 hns kp
  obtain ⟨m, hn, hlk⟩ := id I.loc
  obtain ⟨mb, b1, b2⟩ := id I.mod.blt
  have hN0 : N[0]? = some ar.arg := by
    have q := S.pre
    cases ps with
    | nil => simp at hps
    | cons p ps =>
      have e1 : p = ar.arg := by simpa using hps
      subst e1
      cases N with
      | nil => simp at q
      | cons n N =>
        have q' : n :: N.take (ps.length + 1) = ar.arg :: (ps ++ [("__class__" : Str)]) := by
          have : (ar.arg :: ps).length + [("__class__" : Str)].length = ps.length + 1 + 1 := rfl
          rw [this, List.take_succ_cons] at q
          exact q
        injection q' with q1 q2
        rw [q1]
        rfl
  have hka : scope.names.lookup ar.arg = some .local := S.par _ (List.mem_of_getElem? hps)
  obtain ⟨u0, ru, lku⟩ := hlk 0 ar.arg (.ref a) hN0 h0 (.inl hka)
  have hma : m ar.arg = some (.ref a) := by
    cases ru
    rcases lku with ⟨_, z⟩ | ⟨z, _⟩
    · exact z
    · have z' : scope.names.lookup ar.arg = some .cell ∨ scope.names.lookup ar.arg = some .free := z
      rw [hka] at z'
      rcases z' with z' | z' <;> cases z'
  have hkc : scope.names.lookup ("__class__" : Str) = some .free := S.frk _ (List.mem_singleton_self _)
  obtain ⟨t1, hoa⟩ := exo_at I.hok ea
  obtain ⟨oD, hD1, hD2⟩ : ∃ oD, h₁.get? D = some oD ∧ oD.data = .cls cdD := by
    unfold PySem.W.clsIn at hD
    split at hD
    · rename_i c d cd' sl ho
      cases hD
      exact ⟨_, kp _ _ (KX _ _ ho), rfl⟩
    · cases hD
  obtain ⟨nmC, qC, NC, bsC, bmC, snC, subC, abC, colC, ddC, k0, k1, k2, k3, k5, hC, hbm⟩ := id T.cls
  obtain ⟨cd, hc⟩ : ∃ cd, PySem.W.clsIn K C = some cd := ⟨_, by unfold PySem.W.clsIn; rw [hC] <;> rfl⟩
  unfold PySem.W.ks_superIn at hsi
  rw [hc] at hsi
  have J0 : PySem.W.InstAt h₁ a { cls := .ref C, dict := none, data := .fields #[.ref t1, .none, .none, .none, .bool false, .none] } C none := ⟨hoa, rfl, rfl, trivial⟩
  have X1 : K.In h₁ := KX.keeps kp
  have hi : interactive (envF ⟨name, qual, params, (.Expr (.Call (.Attribute (.Call (.Name "super" p0) [] [] p1) "__init__" apos) (e :: es) [] cpos) pos :: rest), scope, [("__class__", cc)], cda⟩ f s.heap.objs.size) = false := by
    have := S.kind
    simp [interactive, this]
  obtain ⟨hh, g, d, tk, os⟩ := s
  refine ks_wpAt_execs_cons (ks_wpAt_Expr_any (ks_wpAt_MethodCall ?_ (ht _)) hi (hs _))
  refine ks_wpAt_super_base hks hkc (by decide) rfl (X1 _ _ lk) rfl hp rfl (X1 _ _ hcode) rfl hvs hfile htop ?_
  refine PySem.W.ks_loadName_global S.kind hks (Calls.loadGlobal_builtin (I.mod.glob.keeps I.bk) hsu (b1.keeps I.bk) ((b2 _ (by decide)).trans (by decide +kernel : bootBuiltins "super" = some (.type "super"))) ⟨rfl, ?_⟩)
  refine wpAny_loadName_free S.kind hkc rfl ⟨_, X1 _ _ hcell, rfl⟩ ?_
  refine wpAny_loadName_local S.kind hka hn hma ?_
  refine ks_wpAny_isType_cls hD1 hD2 ⟨rfl, ?_⟩
  refine ks_wpAny_call_super hD1 hD2 hoa rfl (fun c e => by cases e) (PySem.W.looks_mroIn X1 hm) (fun h2 so k2 => ?_)
  have I2 := I.kept (h' := h2) (t' := tk + (ps.zip us).length) k2
  obtain ⟨t2, hoa2⟩ := exo_at I2.hok ea
  have X2 : K.In h2 := X1.keeps k2
  have J2 : PySem.W.InstAt h2 a { cls := .ref C, dict := none, data := .fields #[.ref t2, .none, .none, .none, .bool false, .none] } C none := ⟨hoa2, rfl, rfl, trivial⟩
  refine PySem.W.kxs_getMethod PySem.W.kxs_ValueError so (PySem.W.looks_opaque X2 hth) (l₀ := cd.mro) (fun A Q E s k q => wpAny_bind ((PySem.W.looks_clsIn X2 hc) A _ E s k (wpAny_pure q))) rfl X2 hsi (J2.type.andThen (PySem.W.looks_subIn X2 hsub)) (PySem.W.ks_ne X2 J2 hc) (by decide) ?_
  have k3 : ∀ b o, h2.get? b = some o → (h2.push (PySem.W.kxs_mw "ValueError.__init__" a)).get? b = some o := fun b o z => Heap.get?_push_of_some _ z
  have I3 := I2.kept (h' := h2.push (PySem.W.kxs_mw "ValueError.__init__" a)) (t' := tk + (ps.zip us).length + 1) k3
  have hu : (h2.push (PySem.W.kxs_mw "ValueError.__init__" a)).get? h2.objs.size = some (PySem.W.kxs_mw "ValueError.__init__" a) := Heap.get?_push_size _ rfl
  have I4 := I3.pins_of (pins' := [(h2.objs.size, PySem.W.kxs_mw "ValueError.__init__" a)]) fun p hp => by
    have e1 : p = (h2.objs.size, PySem.W.kxs_mw "ValueError.__init__" a) := by simpa using hp
    subst e1
    exact ⟨hu, I2.hok.fresh (Nat.le_refl _), Nat.ne_of_gt I2.lt, I2.nofs (Nat.le_refl _), fun v z => by cases z⟩
  show wpAny _ _ (callWith cpos (.ref h2.objs.size) [] (backTo cpos (starEach (e :: es) _)) []) _ _ _
  have hrun := hA.run cpos _ _ _ _ _ I4 hta
  rw [he] at hrun ⊢
  refine PySem.W.kxs_callWith (i := "ValueError.__init__") (x := a) (by show (false || (backTo cpos (starEach es _)).any (·.1)) = false; rw [hpl]; rfl) ?_
  refine Calls.evalArgs_plain (wpAny_mono hrun (fun us1 s1 hq => ?_) fun _ _ z => z)
  obtain ⟨ws, H1, I5, r5, hz5, ea5, q5⟩ := hq
  have hu5 := (I5.pin (h2.objs.size, PySem.W.kxs_mw "ValueError.__init__" a) (List.mem_append_right _ (List.mem_singleton_self _))).1
  refine ⟨hu5, ?_⟩
  refine call_mw (X := ncx CX P w K mg base N ⟨name, qual, params, (.Expr (.Call (.Attribute (.Call (.Name "super" p0) [] [] p1) "__init__" apos) (e :: es) [] cpos) pos :: rest), scope, [("__class__", cc)], cda⟩ f A outer ⟨hh, g, d, tk, os⟩ H E) T I5 ea5 hu5 (by
    have := r5.length
    rw [sizeLine_eq]
    show us1.length ≤ _
    omega) fun s6 I6 => ?_
  refine wpAt_of_wpAny ?_
  have I7 := I6.pins_of (pins' := []) fun p hp => by simp at hp
  refine wpAny_mono (hR.run [] s6 _ H1 _ I7 q5) (fun fl s' hs => ?_) fun e s' hs => hs
  have fin : ∀ {σ' : L2.St} {H' : Hp} {v : V} {u : Value}, Inv (ncx CX P w K mg base N ⟨name, qual, params, (.Expr (.Call (.Attribute (.Call (.Name "super" p0) [] [] p1) "__init__" apos) (e :: es) [] cpos) pos :: rest), scope, [("__class__", cc)], cda⟩ f A outer ⟨hh, g, d, tk, os⟩ H E) [] σ' H' s' → L2.RelV v u → Q v H' → CE outer P w H ⟨hh, g, d, tk, os⟩ Q u s' :=
    fun {σ' H' v u} J rv q => ⟨v, H', J.os, J.bare, J.base, J.hok, rv, q⟩
  cases fl with
  | ret u =>
    obtain ⟨v, σ', H', J, rv, q⟩ := hs
    exact fin J rv q
  | next =>
    obtain ⟨σ', H', J, q⟩ := hs
    exact fin (v := V.non) (u := Value.none) J rfl q
  | brk =>
    obtain ⟨_, _, _, q⟩ := hs
    exact False.elim q
  | cont =>
    obtain ⟨_, _, _, q⟩ := hs
    exact False.elim q
end SB

/-! Several except clauses with names; exceptions made; a def that tells what was raised. -/
namespace SB
open PySem PySem.Spec PyProof.Rows L2 NdefX
/-- the ends of a suite whose name (slot i) goes behind it -/
def Ends.gone (D : Ends) (i : Nat) : Ends := { nx := fun σ' H' => D.nx (σ'.set i none) H', rt := D.rt, bk := fun σ' H' => D.bk (σ'.set i none) H', ct := fun σ' H' => D.ct (σ'.set i none) H' }
/-- what the named clauses wish, one after the other -/
def wManyAs (K : PySem.W.Frag) (i : Nat) (Wout : WX) (D : Ends) : List (Value × (Addr → Value → Option Addr → TS)) → WX
  | [] => Wout
  | (c, ts) :: r => fun cls d σ H => ∃ b, PySem.W.exmOne K cls c = some b ∧ (b = true → ∀ a, H a = none → ts a cls d (Ends.gone D i) (σ.set i (some (.ref a))) H) ∧ (b = false → wManyAs K i Wout D r cls d σ H)
inductive HdsAs (X : Cx) (n : Str) : List ExceptHandler → List (Value × (Addr → Value → Option Addr → TS)) → Prop
  | nil : HdsAs X n [] []
  | cons {x : Str} {c : Value} {ts : Addr → Value → Option Addr → TS} {b₀ : Stmt} {suite : List Stmt} {np pos' : Pos} {hds : List ExceptHandler} {l : List (Value × (Addr → Value → Option Addr → TS))} (hc : Names X x c)
      (hsu : ∀ (a : Addr) (oe : Obj) (cls : Value) (d : Option Addr) (pn : List (Addr × Obj)), Zc cls d oe → (∃ vs, oe.data = .fields vs) → PSs (X.suite a ((a, oe) :: pn)) (b₀ :: suite) (ts a cls d)) (r : HdsAs X n hds l) :
      HdsAs X n (.ExceptHandler (some (.Name x np)) (some n) (b₀ :: suite) pos' :: hds) ((c, ts) :: l)
section
variable {X : Cx} {body : List Stmt} {n : Str} {i : Nat} {h₀ : ExceptHandler} {hds : List ExceptHandler} {l : List (Value × (Addr → Value → Option Addr → TS))} {pos : Pos} {tb : WX → TS} {Wout : WX}
theorem ps_try_manyAs (hs : X.stack = X.env :: X.outer) (hf : X.env.frame = some X.env.locals) (hN : X.N.Nodup) (hi : X.N[i]? = some n) (hln : X.env.kindOf n = some .local) (tk : Takes X Wout)
    (hb : ∀ (W : WX) (pn : List (Addr × Obj)) (xe : Value → Shared → Prop), Takes (X.tr pn xe) W → PassesOwn (model X.prog X.w) X.A X.env xe → PSs (X.tr pn xe) body (tb W))
    (hh : HdsAs X n (h₀ :: hds) l) : PS X (.Try body (h₀ :: hds) [] [] pos) (fun D σ H => tb (wManyAs X.K i Wout D l) D σ H) := by
  refine ⟨fun pins s σ H D I h => ?_⟩
  have okX := I.ok
  have frX : X.A.frames = some (X.env :: X.outer) := by rw [okX.frames, hs]
  have locn : Loc X.env.scope n := .inl hln
  refine wpAny_Try_except ?_
  refine wpAny_mono ((hb (wManyAs X.K i Wout D l) (X.pn ++ pins) (fun e s₁ => wpAny (model X.prog X.w) X.A (noteFrame e X.env) (fun _ s₂ => wpAny (model X.prog X.w) X.A (setFlight e none) (fun _ s₃ =>
    wpAny (model X.prog X.w) X.A (handleBy e X.env (h₀ :: hds)) (SP X pins D) X.xe s₃) X.xe s₂) X.xe s₁) (fun u s' xx => ?_) PassesOwn.looking).run [] s σ H D (I.toTry _) h) (fun f s1 hsp => ?_) (fun e s1 he => he)
  · obtain ⟨a, B, sI, pins', σ', H', cls, d, rfl, JT, nb, up, sky, na, os, ag, wsh⟩ := xx
    have J : Inv X pins σ' H' sI := JT.ofTry okX
    have skyX : Sky B (X.env :: X.outer) a (Zc cls d) X.env.locals s'.heap := by rw [← hs]; exact sky
    show wpAny (model X.prog X.w) X.A (noteFrame (.ref a) X.env) _ _ _
    refine Sky.land Zc.steady frX hf skyX fun h3 fl3 up3 => ?_
    have J3 : Inv X pins σ' H' { s' with heap := h3 } := J.landed nb fl3.1 (up.trans up3) os ag
    obtain ⟨oe3, vs3, at3, z3, dt3⟩ := fl3.there
    have nfr : a ∉ frs (X.env :: X.outer) := fun hm => by
      obtain ⟨_, o', e', hnf⟩ := fl3.2.2.1.mem hm
      rw [at3] at e'
      cases e'
      exact hnf _ dt3
    have nL : a ≠ X.env.locals := fun z => nfr (List.mem_filterMap.mpr ⟨X.env, List.mem_cons_self, by rw [hf, z]⟩)
    have nF : a ∉ X.fs := fun hm => by
      obtain ⟨e, he, q⟩ := List.mem_filterMap.mp hm
      exact nfr (List.mem_filterMap.mpr ⟨e, List.mem_cons_of_mem _ he, q⟩)
    have S3 := J3.suite at3 dt3 na nL nF
    have go : ∀ {hd2 : List ExceptHandler} {l2 : List (Value × (Addr → Value → Option Addr → TS))}, HdsAs X n hd2 l2 → wManyAs X.K i Wout D l2 cls d σ' H' →
        wpAny (model X.prog X.w) X.A (handleBy (.ref a) X.env hd2) (SP X pins D) X.xe { s' with heap := h3 } := by
      intro hd2 l2 hk
      induction hk with
      | nil =>
        intro w
        refine wpAny_handleBy_nil ?_
        obtain ⟨_, _, _, oe, vs, T, oT, ts', he, hz, hd, h1, _⟩ := id fl3
        unfold PySem.passOn
        refine wpAny_bind (wpAny_field he hd h1 ?_)
        rw [if_neg (show ¬ ((Value.ref T == Value.none) = true) from by simp)]
        have fin : wpAny (model X.prog X.w) X.A (setFlight (.ref a) X.env.frame) (fun _ s4 => wpAny (model X.prog X.w) X.A (throw (.ref a) : Sem Flow) (SP X pins D) X.xe s4) X.xe { s' with heap := h3 } := by
          rw [hf]
          refine HandSPX.setFlight_upZ fl3 fun h4 hh4 up4 => wpAny_throw (tk _ _ ?_)
          exact ⟨a, B, sI, pins, σ', H', cls, d, rfl, J, nb, (up.trans up3).trans up4, .inr (.inr (by rw [hs]; exact hh4)), na, os, ag, w⟩
        first
          | exact wpAny_bind (wpAny_pure (wpAny_bind fin))
          | exact wpAny_bind fin
      | @cons x c ts b₀ suite np pos' hds2 l3 hc hsu r ih =>
        intro w
        obtain ⟨b, hb1, yes, no⟩ := w
        refine wpAny_handleBy_cons (codeAny_handlers_test ?_) (by intro q; cases q)
        have lt : PySem.W.Looks (model X.prog X.w) h3 (typeOf (.ref a)) cls := fun A Q E s k q => wpAny_typeOf_ref (k _ _ at3) (by rw [z3.1]; exact q)
        have lm := PySem.W.exm_one (M := model X.prog X.w) (J3.kIn) lt hb1
        have tst : ∀ {Q : Value → Shared → Prop} {E : Value → Shared → Prop}, Q c { s' with heap := h3 } → wpAny (model X.prog X.w) (X.A.mark (some (.ref a))) (eval (.Name x np) X.env) Q E { s' with heap := h3 } := fun {Q E} q => by
          obtain ⟨hg, hdbg, hm | ⟨hm, hv, hnn⟩⟩ := hc
          · exact ld_glob (X := X.suite a ((a, oe3) :: (X.pn ++ pins))) S3 hg hm q hdbg
          · exact ld_blt (X := X.suite a ((a, oe3) :: (X.pn ++ pins))) S3 hg hm hv q hnn hdbg
        refine tst (lm.here ?_)
        cases b with
        | true =>
          refine codeAny_handlers_suite_as ?_
          refine HandSPX.lands_againZ fl3 fun h4 fl4 up4 => ?_
          have J4 : Inv X pins σ' H' { s' with heap := h4 } := J.landed nb fl4.1 ((up.trans up3).trans up4) os ag
          obtain ⟨oe4, vs4, at4, z4, dt4⟩ := fl4.there
          have S4 := J4.suite at4 dt4 na nL nF
          refine store_ok (X := X.suite a ((a, oe4) :: (X.pn ++ pins))) (v := .ref a) S4 hN hi locn rfl (fun s5 S5 => ?_) (.inr hln)
          refine wpAny_mono ((hsu a oe4 cls d (X.pn ++ pins) z4 ⟨_, dt4⟩).run [] s5 _ H' _ S5 (yes rfl a na)) (fun f s6 hsp => ?_) (fun _ _ z => False.elim z)
          have fin : ∀ {σ6 : L2.St} {H6 : Hp} {Q : Shared → Prop}, Inv (X.suite a ((a, oe4) :: (X.pn ++ pins))) [] σ6 H6 s6 → (∀ s7, Inv X pins (σ6.set i none) H6 s7 → Q s7) →
              wpAny (model X.prog X.w) X.A (do bindName X.env n .none; unbindBehindTheSuite X.env n pos') (fun _ s7 => Q s7) X.xe s6 := fun {σ6 H6 Q} S6 hq => gone_ok (S6.unsuite okX) hN hi hln hq
          cases f with
          | next =>
            obtain ⟨_, _, S6, q6⟩ := hsp
            exact fin S6 fun s7 J7 => ⟨_, _, J7, q6⟩
          | brk =>
            obtain ⟨_, _, S6, q6⟩ := hsp
            exact fin S6 fun s7 J7 => ⟨_, _, J7, q6⟩
          | cont =>
            obtain ⟨_, _, S6, q6⟩ := hsp
            exact fin S6 fun s7 J7 => ⟨_, _, J7, q6⟩
          | ret u =>
            obtain ⟨_, _, _, S6, r6, q6⟩ := hsp
            exact fin S6 fun s7 J7 => ⟨_, _, _, J7, r6, q6⟩
        | false =>
          show wpAny _ X.A (handleBy (.ref a) X.env hds2) _ _ _
          exact ih (no rfl)
    exact go hh wsh
  · cases f with
    | next =>
      obtain ⟨_, _, JT, q⟩ := hsp
      exact wpAny_execs_nil ⟨_, _, JT.ofTry okX, q⟩
    | brk =>
      obtain ⟨_, _, JT, q⟩ := hsp
      exact ⟨_, _, JT.ofTry okX, q⟩
    | cont =>
      obtain ⟨_, _, JT, q⟩ := hsp
      exact ⟨_, _, JT.ofTry okX, q⟩
    | ret u =>
      obtain ⟨_, _, _, JT, r, q⟩ := hsp
      exact ⟨_, _, _, JT.ofTry okX, r, q⟩
end

/-! ### exceptions with fields, made -/
/-- an exception's __init__ that lays its arguments as the fields ns -/
def spExc (C : Addr) (ns : List Str) : Sp := fun vs H Q _ => ∃ (a : Addr) (ws : List V), vs = .ref a :: ws ∧ ws.length = ns.length ∧ H a = some (exo a C none) ∧
  ∀ (d : Addr) (H2 : Hp), H d = none → d ≠ a → H2 a = some (exo a C (some d)) → H2 d = some (exd d (ns.zip ws).reverse) → (∀ b, b ≠ a → b ≠ d → H2 b = H b) → Q .non H2
/-- the module's name x holds the exception class at C -/
structure Xc (P : Program) (w : World) (K : PySem.W.Frag) (mg : Str → Option Value) (base : Heap) (k : Nat) (x : Str) (C : Addr) (ns : List Str) : Prop where
  ex : ∃ (fI : Addr) (fd : FuncData) (ps : List Str), OexC K C ∧ PySem.W.findIn K (.ref C) "__init__" = some (some (.ref fI)) ∧ PySem.W.typeIn K (.ref fI) = some (.type "function") ∧ FnOk P w K mg base CX0 k fI fd ps (spExc C ns) ∧ Binds K fd ps [] ∧ mg x = some (.ref C)
/-- the reading of x(e, ..) in a raise -/
def tX (C : Addr) (ns : List Str) (ta : TA) : L2.St → Hp → XK → Prop := fun σ H Q => ta σ H fun vs H1 => vs.length = ns.length ∧ vs.length ≤ 1000 ∧ ∀ d, H1 d = none → Q (.ref C) (some d) (upd H1 d (.xd (ns.zip vs).reverse))
theorem pmk_x {X : Cx} {x : Str} {C : Addr} {ns : List Str} {k j : Nat} {e : Expr} {es : List Expr} {ta : TA} {p pos : Pos} (c : Xc X.prog X.w X.K X.mg X.base k x C ns) (hr : Room j X.A) (hk : k + 1 ≤ j) (hg : Gl X x) (ha : PA X (e :: es) ta)
    (hdb : (x == ("__debug__" : Str)) = false := by decide) (he : starEach (e :: es) X.env = (false, eval e X.env) :: starEach es X.env := by rfl) (hpl : (backTo pos (starEach es X.env)).any (·.1) = false := by rfl) :
    PMk X (.Call (.Name x p) (e :: es) [] pos) (tX C ns ta) := by
  obtain ⟨fI, fd, ps, T, iC, tI, F1, hb, hm⟩ := c.ex
  intro pins s σ H Q I h
  have im : PA X (e :: es) (fun σ H Q => ∃ R : List V → Hp → Prop, ta σ H R ∧ ∀ vs H1, R vs H1 → Q vs H1) := ⟨fun pos pins s σ H Q I ⟨R, h1, h2⟩ => wpAny_mono (ha.run pos pins s σ H R I h1) (fun us s1 ⟨vs, H1, I1, r, q⟩ => ⟨vs, H1, I1, r, h2 _ _ q⟩) fun _ _ z => z⟩
  refine pmk_oex (CX := CX0) (dvs := []) T iC tI F1 (hr.mono hk) hb .nil (fun _ _ _ _ _ _ _ z => z.elim) hg hm im hdb he hpl pins s σ H Q I ⟨_, h, fun vs H1 hq => ?_⟩
  obtain ⟨hl, hz, q⟩ := hq
  refine ⟨hz, fun a na => ⟨a, vs, by rw [List.append_nil], hl, upd_same, fun d H2 nd nda ea ed same => ⟨rfl, d, _, ea, ed, ?_, ?_⟩⟩⟩
  · rw [upd_ne nda] at nd
    exact nd
  · have nd' : H1 d = none := by
      rw [upd_ne nda] at nd
      exact nd
    have e1 : upd (del H2 a) d (.xd (ns.zip vs).reverse) = upd H1 d (.xd (ns.zip vs).reverse) := by
      funext b
      by_cases hbd : b = d
      · rw [hbd, upd_same, upd_same]
      · rw [upd_ne hbd, upd_ne hbd]
        by_cases hba : b = a
        · rw [hba, del_same, na]
        · rw [del_ne hba, same b hba hbd, upd_ne hba]
    rw [e1]
    exact q d nd'
/-- what the top says of an exception's class at C with its __init__ at fI -/
structure XcF (P : Program) (K : PySem.W.Frag) (mg : Str → Option Value) (x : Str) (C fI : Addr) : Prop where
  oex : OexC K C
  ini : PySem.W.findIn K (.ref C) "__init__" = some (some (.ref fI))
  tyI : PySem.W.typeIn K (.ref fI) = some (.type "function")
  cls : ∃ cd, PySem.W.clsIn K C = some cd
  mro : PySem.W.mroIn K C (.ref C) = some true
  sup : PySem.W.ks_superIn K C C "__init__" = some (some (.builtin "ValueError.__init__"))
  sub : PySem.W.subIn K (.ref C) (.type "ValueError") = some true
  thi : PySem.W.nsIn K cStatics "thirdparty.any" = some none
  top : (P.main.scope.names.lookup ("super" : Str)).isSome = false
  nsu : mg "super" = none
  nam : mg x = some (.ref C)
/-- its code object's file -/
def FileIs (P : Program) (K : PySem.W.Frag) (cda : Addr) : Prop := ∃ ccl cdd vs0 ccs file tf, K.lookup cda = some ⟨ccl, cdd, .fields vs0, ccs⟩ ∧ vs0[2]? = some (.str file tf) ∧ ((P.main.file : Str) == file) = true
def CellIs (K : PySem.W.Frag) (cc C : Addr) : Prop := ∃ cl cld csl, K.lookup cc = some ⟨cl, cld, .cell (some (.ref C)), csl⟩
section
variable {P : Program} {w : World} {K : PySem.W.Frag} {mg : Str → Option Value} {base : Heap} {x : Str} {C f cc cda : Addr} {qual : Str} {params : Arguments} {p0 p1 apos cpos pos q1 q2 q3 q4 q5 q6 q7 q8 ps1 : Pos} {msg : Str} {j : Nat} {scope : Scope} {dV kV doc pm ct oc : Value} {an od : Option Addr} {osl : Array (Option Value)} {ar : Arg} {v v2 f1 f2 : Str}
/-- one field -/
theorem ok_x1 (T : XcF P K mg x C f)
    (lk : K.lookup f = some ⟨oc, od, .func (PySem.W.ksFn "__init__" qual params [.Expr (.Call (.Attribute (.Call (.Name "super" p0) [] [] p1) "__init__" apos) [.Constant (.str msg) j ps1] [] cpos) pos, .Assign [.Attribute (.Name "self" q1) f1 q2] (.Name v q3) q4] scope dV kV doc pm an (.ref cda) ct cc), osl⟩)
    (hcd : PySem.W.codeIn K (.ref cda) qual = true) (S : NScope ["self", v, "__class__"] ["self", v] ["__class__"] scope) (hp : (params.posonlyargs ++ params.args).head? = some ar) (har : ar.arg = "self") (hF : FileIs P K cda) (hc : CellIs K cc C)
    (hks : scope.names.lookup ("super" : Str) = some .globalImplicit) (hno : PySem.W.findIn K (.ref C) f1 = some none) (hv1 : (v == ("__debug__" : Str)) = false) (hv2 : (v == ("__classdict__" : Str)) = false) (hb : Binds K (PySem.W.ksFn "__init__" qual params [.Expr (.Call (.Attribute (.Call (.Name "super" p0) [] [] p1) "__init__" apos) [.Constant (.str msg) j ps1] [] cpos) pos, .Assign [.Attribute (.Name "self" q1) f1 q2] (.Name v q3) q4] scope dV kV doc pm an (.ref cda) ct cc) ["self", v] [])
    {pl : Env → Sem Bool} (ht : ∀ env : Env, eval (.Call (.Attribute (.Call (.Name "super" p0) [] [] p1) "__init__" apos) [.Constant (.str msg) j ps1] [] cpos) env = (do
      let ov ← attributeBase (.Call (.Name "super" p0) [] [] p1) "__init__" env (eval (.Call (.Name "super" p0) [] [] p1) env)
      standAt apos.atName
      let (f, first) ← holding [ov] (getMethod ov "__init__" (pl env))
      callWith cpos f first (backTo cpos (starEach [.Constant (.str msg) j ps1] env)) []) := by intro _; rfl) : Xc P w K mg base 1 x C [f1] := by
  obtain ⟨ccl, cdd, vs0, ccs, file, tf, h1, h2, h3⟩ := hF
  obtain ⟨cl, cld, csl, h4⟩ := hc
  obtain ⟨cd, h5⟩ := T.cls
  refine ⟨f, _, ["self", v], T.oex, T.ini, T.tyI, ?_, hb, T.nam⟩
  refine fn_sup (CX := CX0) (k := 0) (N := ["self", v, "__class__"]) lk hcd S hp (by rw [har]; rfl) h1 h2 h3 h4 h5 hks T.top T.nsu T.thi (fun vs H Q E h => ?_) (fun A outer s H vs Q E hr h => ?_) (fun _ => rfl) (fun _ => rfl) ht
  · obtain ⟨a, ws, rfl, hl, _⟩ := h
    show ws.length + 1 = 2
    rw [hl] <;> rfl
  · obtain ⟨a, ws, rfl, hl, ea, k⟩ := h
    match ws, hl with
    | [y], _ =>
      refine ⟨_, _, pa_cons pe_str pa_nil, pss_one (ps_ost (pe_var (i := 0) rfl (.inl (S.par _ (by simp)))) (pe_var (i := 1) rfl (.inl (S.par _ (by simp))) hv1 hv2)), ?_⟩
      refine ⟨a, C, rfl, T.oex, ea, T.mro, T.sup, T.sub, ?_⟩
      refine ⟨by show 1 ≤ 1000; decide, ea, ?_⟩
      refine ⟨y, rfl, .ref a, rfl, a, C, rfl, T.oex, hno, .inl ⟨ea, fun dx nd ne => ?_⟩⟩
      exact k dx _ nd ne upd_same (by rw [upd_ne ne, upd_same]; rfl) fun b h1 h2 => by rw [upd_ne h1, upd_ne h2]
/-- two fields -/
theorem ok_x2 (T : XcF P K mg x C f)
    (lk : K.lookup f = some ⟨oc, od, .func (PySem.W.ksFn "__init__" qual params [.Expr (.Call (.Attribute (.Call (.Name "super" p0) [] [] p1) "__init__" apos) [.Constant (.str msg) j ps1] [] cpos) pos, .Assign [.Attribute (.Name "self" q1) f1 q2] (.Name v q3) q4, .Assign [.Attribute (.Name "self" q5) f2 q6] (.Name v2 q7) q8] scope dV kV doc pm an (.ref cda) ct cc), osl⟩)
    (hcd : PySem.W.codeIn K (.ref cda) qual = true) (S : NScope ["self", v, v2, "__class__"] ["self", v, v2] ["__class__"] scope) (hp : (params.posonlyargs ++ params.args).head? = some ar) (har : ar.arg = "self") (hF : FileIs P K cda) (hc : CellIs K cc C)
    (hks : scope.names.lookup ("super" : Str) = some .globalImplicit) (hno : PySem.W.findIn K (.ref C) f1 = some none) (hno2 : PySem.W.findIn K (.ref C) f2 = some none) (hv1 : (v == ("__debug__" : Str)) = false) (hv2 : (v == ("__classdict__" : Str)) = false) (hw1 : (v2 == ("__debug__" : Str)) = false) (hw2 : (v2 == ("__classdict__" : Str)) = false)
    (hb : Binds K (PySem.W.ksFn "__init__" qual params [.Expr (.Call (.Attribute (.Call (.Name "super" p0) [] [] p1) "__init__" apos) [.Constant (.str msg) j ps1] [] cpos) pos, .Assign [.Attribute (.Name "self" q1) f1 q2] (.Name v q3) q4, .Assign [.Attribute (.Name "self" q5) f2 q6] (.Name v2 q7) q8] scope dV kV doc pm an (.ref cda) ct cc) ["self", v, v2] [])
    {pl : Env → Sem Bool} (ht : ∀ env : Env, eval (.Call (.Attribute (.Call (.Name "super" p0) [] [] p1) "__init__" apos) [.Constant (.str msg) j ps1] [] cpos) env = (do
      let ov ← attributeBase (.Call (.Name "super" p0) [] [] p1) "__init__" env (eval (.Call (.Name "super" p0) [] [] p1) env)
      standAt apos.atName
      let (f, first) ← holding [ov] (getMethod ov "__init__" (pl env))
      callWith cpos f first (backTo cpos (starEach [.Constant (.str msg) j ps1] env)) []) := by intro _; rfl) : Xc P w K mg base 1 x C [f1, f2] := by
  obtain ⟨ccl, cdd, vs0, ccs, file, tf, h1, h2, h3⟩ := hF
  obtain ⟨cl, cld, csl, h4⟩ := hc
  obtain ⟨cd, h5⟩ := T.cls
  refine ⟨f, _, ["self", v, v2], T.oex, T.ini, T.tyI, ?_, hb, T.nam⟩
  refine fn_sup (CX := CX0) (k := 0) (N := ["self", v, v2, "__class__"]) lk hcd S hp (by rw [har]; rfl) h1 h2 h3 h4 h5 hks T.top T.nsu T.thi (fun vs H Q E h => ?_) (fun A outer s H vs Q E hr h => ?_) (fun _ => rfl) (fun _ => rfl) ht
  · obtain ⟨a, ws, rfl, hl, _⟩ := h
    show ws.length + 1 = 3
    rw [hl] <;> rfl
  · obtain ⟨a, ws, rfl, hl, ea, k⟩ := h
    match ws, hl with
    | [y, z], _ =>
      refine ⟨_, _, pa_cons pe_str pa_nil, pss_cons (ps_ost (pe_var (i := 0) rfl (.inl (S.par _ (by simp)))) (pe_var (i := 1) rfl (.inl (S.par _ (by simp))) hv1 hv2)) (pss_one (ps_ost (pe_var (i := 0) rfl (.inl (S.par _ (by simp)))) (pe_var (i := 2) rfl (.inl (S.par _ (by simp))) hw1 hw2))), ?_⟩
      refine ⟨a, C, rfl, T.oex, ea, T.mro, T.sup, T.sub, ?_⟩
      refine ⟨by show 1 ≤ 1000; decide, ea, ?_⟩
      refine ⟨y, rfl, .ref a, rfl, a, C, rfl, T.oex, hno, .inl ⟨ea, fun dx nd ne => ?_⟩⟩
      refine ⟨z, rfl, .ref a, rfl, a, C, rfl, T.oex, hno2, .inr ⟨dx, _, upd_same, by rw [upd_ne ne, upd_same], by show 1 ≤ 900; decide, ?_⟩⟩
      exact k dx _ nd ne (by rw [upd_ne (Ne.symm ne), upd_same]) (by rw [upd_same]; rfl) fun b h1 h2 => by rw [upd_ne h2, upd_ne h1, upd_ne h2]
end
end SB

/-! A def that tells what the handed lambda raises: («name», fields ..) or None. -/
namespace SB
open PySem PySem.Spec PyProof.Rows L2 NdefX LamX
/-- a clause: the class, the told name, the told fields -/
abbrev Rc := Addr × Str × List Str
/-- what is told of an exception with the dict at d -/
def ToldX (d : Option Addr) (H : Hp) (nm : Str) (fs : List Str) (Q : VK) : Prop := ∃ (dd : Addr) (kvs : List (Str × V)) (vs : List V), d = some dd ∧ H dd = some (.xd kvs) ∧ fs.map (fun f => kvs.lookup f) = vs.map some ∧ vs.length ≤ 10 ∧ ∀ p, H p = none → Q (.ref p) (upd H p (.tup (.str nm :: vs)))
def RfW (L : List Rc) (Q : VK) : XK := fun cls d H => ∃ (C : Addr) (nm : Str) (fs : List Str), (C, nm, fs) ∈ L ∧ cls = .ref C ∧ ToldX d H nm fs Q
def TTref (L : List Rc) : (XK → Hp → VK → Prop) → Hp → VK → Prop := fun tl H Q => tl (RfW L Q) H fun _ H' => Q .non H'
def taF (a : Addr) (cls : Value) (d : Option Addr) (C : Addr) : List Str → TA
  | [] => tNil
  | f :: r => tCons (tXf a cls d C f (tVar 1)) (taF a cls d C r)
def tsR (r : Rc) (a : Addr) (cls : Value) (d : Option Addr) : TS := tRet (tTup (tCons (tC (.str r.2.1)) (taF a cls d r.1 r.2.2)))
theorem taF_ok {a C dd : Addr} {d : Option Addr} {kvs : List (Str × V)} {H : Hp} {σ : L2.St} (hd : d = some dd) (hH : H dd = some (.xd kvs)) (hσ : σ[1]? = some (some (.ref a))) : ∀ {fs : List Str} {vs : List V} {Q : List V → Hp → Prop}, fs.map (fun f => kvs.lookup f) = vs.map some → Q vs H → taF a (.ref C) d C fs σ H Q
  | [], [], _, _, q => q
  | [], _ :: _, _, h, _ => by simp at h
  | _ :: _, [], _, h, _ => by simp at h
  | f :: fs, v :: vs, Q, h, q => by
    have h' : kvs.lookup f = some v ∧ fs.map (fun f => kvs.lookup f) = vs.map some := by
      rw [List.map_cons, List.map_cons] at h
      injection h with h1 h2
      exact ⟨h1, h2⟩
    exact ⟨.ref a, hσ, rfl, rfl, dd, kvs, v, hd, hH, h'.1, taF_ok hd hH hσ h'.2 q⟩
/-- the clauses tell each other apart -/
def exAll (K : PySem.W.Frag) (Cs : List Addr) : Bool := Cs.all fun c => Cs.all fun c' => decide (PySem.W.exmOne K (.ref c) (.ref c') = some (decide (c = c')))
theorem exAll_at {K : PySem.W.Frag} {Cs : List Addr} (h : exAll K Cs = true) {c c' : Addr} (h1 : c ∈ Cs) (h2 : c' ∈ Cs) : PySem.W.exmOne K (.ref c) (.ref c') = some (decide (c = c')) :=
  of_decide_eq_true (List.all_eq_true.mp (List.all_eq_true.mp h c h1) c' h2)
theorem many_of {K : PySem.W.Frag} {Wout : WX} {D : Ends} {Q : VK} {C : Addr} {nm : Str} {fs : List Str} {d : Option Addr} {σ : L2.St} {H : Hp} (hσ : 1 < σ.length) (ht : ToldX d H nm fs Q) (hD : D.rt = Q) :
    ∀ (L : List Rc), (∀ r ∈ L, PySem.W.exmOne K (.ref C) (.ref r.1) = some (decide (C = r.1))) → (L.map (·.1)).Nodup → (C, nm, fs) ∈ L → wManyAs K 1 Wout D (L.map fun r => (Value.ref r.1, tsR r)) (.ref C) d σ H
  | [], _, _, hm => nomatch hm
  | r :: L, he, hn, hm => by
    refine ⟨decide (C = r.1), he r List.mem_cons_self, fun hb a na => ?_, fun hb => ?_⟩
    · have e : C = r.1 := of_decide_eq_true hb
      have er : r = (C, nm, fs) := by
        rcases List.mem_cons.mp hm with z | z
        · exact z.symm
        · have : C ∈ L.map (·.1) := List.mem_map.mpr ⟨_, z, rfl⟩
          rw [List.map_cons] at hn
          exact absurd (e ▸ this) (List.nodup_cons.mp hn).1
      subst er
      obtain ⟨dd, kvs, vs, h1, h2, h3, hl, h4⟩ := ht
      show tTup (tCons (tC (.str nm)) (taF a (.ref C) d C fs)) (σ.set 1 (some (.ref a))) H D.rt
      rw [hD]
      refine taF_ok h1 h2 (by rw [List.getElem?_set_self hσ]) h3 ⟨?_, h4⟩
      show vs.length + 1 ≤ sizeLine
      exact Nat.le_trans (show vs.length + 1 ≤ 11 by omega) (by decide)
    · have e : ¬ C = r.1 := of_decide_eq_false hb
      have hm' : (C, nm, fs) ∈ L := by
        rcases List.mem_cons.mp hm with z | z
        · exact absurd (by rw [← z]) e
        · exact z
      exact many_of hσ ht hD L (fun r hr => he r (List.mem_cons_of_mem _ hr)) (List.nodup_cons.mp (by rw [← List.map_cons]; exact hn)).2 hm'
theorem takes_len {X : Cx} {W : WX} (tk : Takes X W) : Takes X (fun cls d σ H => σ.length = X.N.length → W cls d σ H) := fun u s' ⟨a, B, sI, pins, σ, H, cls, d, e, I, nb, up, sky, na, os, ag, w⟩ => tk u s' ⟨a, B, sI, pins, σ, H, cls, d, e, I, nb, up, sky, na, os, ag, w I.len⟩
/-- the clause of one field, of two fields -/
theorem hd1 {X : Cx} {K : PySem.W.Frag} {x nm f1 n : Str} {C : Addr} {np pos' p1 p2 p3 p4 p5 : Pos} {j j2 : Nat} {hds : List ExceptHandler} {l : List (Value × (Addr → Value → Option Addr → TS))} (hK : X.K = K) (hN : X.N[1]? = some n) (hv : Vis X.env.scope n) (hc : Names X x (.ref C)) (T : XfC K C) (hno : PySem.W.findIn K (.ref C) f1 = some none)
    (hd : (n == ("__debug__" : Str)) = false) (hcd : (n == ("__classdict__" : Str)) = false) (r : HdsAs X n hds l) :
    HdsAs X n (.ExceptHandler (some (.Name x np)) (some n) [.Return (some (.Tuple [.Constant (.str nm) j p1, .Attribute (.Name n p2) f1 p3] j2 p4)) p5] pos' :: hds) ((.ref C, tsR (C, nm, [f1])) :: l) := by
  subst hK
  refine .cons hc (fun a oe cls d pn hz hf => ?_) r
  exact pss_one (ps_ret (pe_tup (pa_cons pe_str (pa_cons (pe_xf T hno hz hf (pe_var (i := 1) hN hv hd hcd)) pa_nil))))
theorem hd2 {X : Cx} {K : PySem.W.Frag} {x nm f1 f2 n : Str} {C : Addr} {np pos' p1 p2 p3 p4 p5 p6 p7 : Pos} {j j2 : Nat} {hds : List ExceptHandler} {l : List (Value × (Addr → Value → Option Addr → TS))} (hK : X.K = K) (hN : X.N[1]? = some n) (hv : Vis X.env.scope n) (hc : Names X x (.ref C)) (T : XfC K C) (hno : PySem.W.findIn K (.ref C) f1 = some none) (hno2 : PySem.W.findIn K (.ref C) f2 = some none)
    (hd : (n == ("__debug__" : Str)) = false) (hcd : (n == ("__classdict__" : Str)) = false) (r : HdsAs X n hds l) :
    HdsAs X n (.ExceptHandler (some (.Name x np)) (some n) [.Return (some (.Tuple [.Constant (.str nm) j p1, .Attribute (.Name n p2) f1 p3, .Attribute (.Name n p6) f2 p7] j2 p4)) p5] pos' :: hds) ((.ref C, tsR (C, nm, [f1, f2])) :: l) := by
  subst hK
  refine .cons hc (fun a oe cls d pn hz hf => ?_) r
  exact pss_one (ps_ret (pe_tup (pa_cons pe_str (pa_cons (pe_xf T hno hz hf (pe_var (i := 1) hN hv hd hcd)) (pa_cons (pe_xf T hno2 hz hf (pe_var (i := 1) hN hv hd hcd)) pa_nil)))))
/-- try: a() / except .. as e: return (..) / return None -/
theorem ref_gives {X : Cx} {Ng : List Str} {x a n q : Str} {sg : Scope} {g : Addr} {cdg : Value} {p1 p2 p3 p4 p5 p6 : Pos} {j : Nat} {h₀ : ExceptHandler} {hds : List ExceptHandler} {L : List Rc} (hNg : Ng = [a, n]) (hnd : Ng.Nodup) (hln : sg.names.lookup n = some .local)
    (hex : exAll X.K (L.map (·.1)) = true) (hL : (L.map (·.1)).Nodup)
    (hh : ∀ (s : Shared) (H : Hp), HdsAs (cxOf C8.CX0 X.prog X.w X.K X.mg X.base Ng x sg g cdg X.A X.stack s H C8.E0).nox n (h₀ :: hds) (L.map fun r => (Value.ref r.1, tsR r)))
    (hs : ∀ env : Env, swapsWith (.Call (.Name a p1) [] [] p2) none p3.line env = pure false) :
    GivesTo X Ng x sg g cdg [.Try [.Expr (.Call (.Name a p1) [] [] p2) p3] (h₀ :: hds) [] [] p4, .Return (some (.Constant .none j p5)) p6] a q (TTref L) := by
  subst hNg
  intro f c' s H Q tl act hc h
  refine ⟨_, pss_cons (ps_try_manyAs (X := (cxOf C8.CX0 X.prog X.w X.K X.mg X.base [a, n] x sg g cdg X.A X.stack s H C8.E0).nox) (i := 1) (l := L.map fun r => (Value.ref r.1, tsR r))
      (tb := fun W D σ H => ∃ Ech : XK, (∀ cls d σ' H', Ech cls d H' → σ'.length = 2 → W cls d σ' H') ∧ σ[0]? = some (some (.ref f)) ∧ H c' = some (CodeO c' q) ∧ tl Ech H fun _ H' => D.nx σ H')
      rfl rfl hnd rfl hln takes0 (fun W pn xe tk _ => ?_) (hh s H)) (pss_one (ps_ret pe_non)), ?_⟩
  · refine ⟨fun pins s' σ H' D I h' => ?_⟩
    obtain ⟨Ech, hW, h1, h2, h3⟩ := h'
    have hp := act (fun cls d σ H => σ.length = 2 → W cls d σ H) pn xe Ech p1 p2 (takes_len tk) hW
    have hq := pss_one (ps_expr (pos := p3) hp (hs _))
    exact hq.run pins s' σ H' D I ⟨h1, h2, h3⟩
  · refine ⟨RfW L Q, fun cls d σ' H' hw hl => ?_, rfl, hc, h⟩
    obtain ⟨C, nm, fs, hm, rfl, ht⟩ := hw
    refine many_of (Q := Q) (by omega) ht rfl L (fun r hr => exAll_at hex (List.mem_map.mpr ⟨_, hm, rfl⟩) (List.mem_map.mpr ⟨_, hr, rfl⟩)) hL hm
/-- the module's name x holds a def that calls what it gets and tells what that raises -/
structure Rf (P : Program) (w : World) (K : PySem.W.Frag) (mg : Str → Option Value) (base : Heap) (x : Str) (L : List Rc) : Prop where
  ex : ∃ (g : Addr) (oc : Value) (od : Option Addr) (osl : Array (Option Value)) (pg : Arguments) (bg : List Stmt) (sg : Scope) (dV kV doc pm cdv ct : Value) (an : Option Addr) (a : Str) (Ng : List Str),
    mg x = some (.ref g) ∧ PySem.W.keepIn K (.ref g) = true ∧ K.lookup g = some ⟨oc, od, .func (PySem.W.fnOf x x pg bg sg dV kV doc pm an cdv ct), osl⟩ ∧ PySem.W.codeIn K cdv x = true ∧ L2.Binds K (PySem.W.fnOf x x pg bg sg dV kV doc pm an cdv ct) [a] [] ∧
    FnScope Ng [a] sg ∧ Ng[0]? = some a ∧ Vis sg a ∧ (a == ("__debug__" : Str)) = false ∧ (a == ("__classdict__" : Str)) = false ∧
    ∀ (X : Cx) (q : Str), X.prog = P → X.w = w → X.K = K → X.mg = mg → X.base = base → GivesTo X Ng x sg g cdv bg a q (TTref L)
theorem pe_rf {X : Cx} {T : List (Addr × Str)} {x : Str} {c P : Addr} {k j : Nat} {L : List Rc} {params : Arguments} {body : Expr} {scope : Scope} {t : XK → TE} {p lpos pos : Pos} (R : Rf X.prog X.w X.K X.mg X.base x L) (hg : Gl X x)
    (TB : TabB X.base X.mg c P) (hcode : X.env.code = .ref c) (hmT : (P, X.env.qual ++ "<lambda>") ∈ T) (hu : ∀ p ∈ T, p.1 = P → p.2 = X.env.qual ++ "<lambda>") (hr : Room j X.A) (hk : k + 2 ≤ j) (Ls : LamS X.env.scope scope) (hdef : defaultsOf params X.env = ([], []))
    (hbind : ∀ (q : Str) (cl : List (Str × Addr)) (pm cv ctv : Value), bindArgs (PySem.W.kla_fn "<lambda>" q params body scope cl pm cv ctv) ⟨[], []⟩ = pure [])
    (hbody : ∀ (A : Around) (outer : List Env) (s : Shared) (H : Hp) (E : XK) (f c' : Addr), Room k (A.deeper (lamEnv X scope s.heap.objs.size f c')) → PE (lamCx X A outer s H E scope f c') body (t E))
    (hdb : (x == ("__debug__" : Str)) = false := by decide) : PE X (.Call (.Name x p) [.Lambda params body scope lpos] [] pos) (tLam T (TTref L) t) := by
  obtain ⟨g, oc, od, osl, pg, bg, sg, dV, kV, doc, pm, cdv, ct, an, a, Ng, hm, hkp, lk, hcg, hb, Sg, hNg, hva, h1, h2, hG⟩ := R.ex
  exact pe_lamcall hg hm hkp lk hcg hb Sg hNg hva (hG X _ rfl rfl rfl rfl rfl) TB hcode hmT hu (hr.mono hk) Ls hdef hbind hbody hdb h1 h2
/-! ### defs that may raise; defs that make lambdas -/
theorem passF {X : Cx} : Passes (L2.CX X.prog X.w) X (fun _ _ _ => False) := fun _ _ _ _ _ _ _ ⟨_, _, _, _, _, _, _, _, _, _, _, _, z⟩ => z.elim
theorem passL {X : Cx} {E : XK} {E₁ : Value → Shared → Prop} (hs : X.stack = X.env :: X.outer) (hf : X.env.frame = some X.env.locals) (hex : X.ex = [])
    (hx : X.xe = fun e s' => wpAny (model X.prog X.w) X.A (leaving X.env e) (fun _ s'' => L2.CX X.prog X.w X.outer X.H_0 X.s_0 E e s'') E₁ s') : Passes (L2.CX X.prog X.w) X E := passes_call (takes_of hs hf hex hx) fun _ _ _ _ h => h
section
variable {P : Program} {w : World} {K : PySem.W.Frag} {mg : Str → Option Value} {base : Heap} {x qual : Str} {st : Stmt} {f c : Addr} {fd : FuncData} {N ps : List Str} {k : Nat} {sp : Sp}
/-- a def that may let exceptions out -/
theorem okX {CX : CXT} (F : Fun K x qual st f fd) (S : FnScope N ps (defScope st)) (len : ∀ vs H Q E, sp vs H Q E → vs.length = ps.length)
    (hbody : ∀ (cdv : Value) (A : Around) (outer : List Env) (s : Shared) (H : Hp) (vs : List V) (Q : VK) (E : XK), Room k (A.deeper (envOfC qual (defScope st) s.heap.objs.size f cdv)) → sp vs H Q E →
      ∃ t, PSs (cxOf CX P w K mg base N qual (defScope st) f cdv A outer s H E) (defBody st) t ∧ t { nx := fun _ H' => Q .non H', rt := Q } (start N vs) H) : FnOk P w K mg base CX (k + 1) f fd ps sp := by
  obtain ⟨oc, od, kV, doc, pm, an, cdv, ct, osl, rfl, lk, hcd⟩ := F.ex
  exact fn_of lk hcd S len fun A outer s H vs Q E hr hsp => hbody cdv A outer s H vs Q E hr hsp
theorem fnrX {CX : CXT} (F : Fun K x qual st f fd) (S : FnScope N ps (defScope st)) (len : ∀ vs H Q E, sp vs H Q E → vs.length = ps.length)
    (hb : ∀ (kV doc pm : Value) (an : Option Addr) (cdv ct : Value) (us : List Value), us.length = ps.length → bindArgs (PySem.W.fnOf x qual (defArgs st) (defBody st) (defScope st) .none kV doc pm an cdv ct) ⟨us, []⟩ = pure (ps.zip us))
    (hbody : ∀ (cdv : Value) (A : Around) (outer : List Env) (s : Shared) (H : Hp) (vs : List V) (Q : VK) (E : XK), Room k (A.deeper (envOfC qual (defScope st) s.heap.objs.size f cdv)) → sp vs H Q E →
      ∃ t, PSs (cxOf CX P w K mg base N qual (defScope st) f cdv A outer s H E) (defBody st) t ∧ t { nx := fun _ H' => Q .non H', rt := Q } (start N vs) H) : FnR P w K mg base CX (k + 1) f sp :=
  FnOk.r (okX F S len hbody) (F.binds hb)
/-- a def that makes lambdas: its code object stands at c -/
theorem okC (F : Fun K x qual st f fd) (hc : fd.code = .ref c) (S : FnScope N ps (defScope st)) (len : ∀ vs H Q E, sp vs H Q E → vs.length = ps.length)
    (hbody : ∀ (A : Around) (outer : List Env) (s : Shared) (H : Hp) (vs : List V) (Q : VK) (E : XK), Room k (A.deeper (envOfC qual (defScope st) s.heap.objs.size f (.ref c))) → sp vs H Q E →
      ∃ t, PSs (cxOf CX0 P w K mg base N qual (defScope st) f (.ref c) A outer s H E).nox (defBody st) t ∧ t { nx := fun _ H' => Q .non H', rt := Q } (start N vs) H) : FnOk P w K mg base CX0 (k + 1) f fd ps sp := by
  obtain ⟨oc, od, kV, doc, pm, an, cdv, ct, osl, rfl, lk, hcd⟩ := F.ex
  have e : cdv = .ref c := hc
  subst e
  refine fn_of lk hcd S len fun A outer s H vs Q E hr hsp => ?_
  obtain ⟨t, h, q⟩ := hbody A outer s H vs Q E hr hsp
  exact ⟨t, h.nox, q⟩
theorem fnrC (F : Fun K x qual st f fd) (hc : fd.code = .ref c) (S : FnScope N ps (defScope st)) (len : ∀ vs H Q E, sp vs H Q E → vs.length = ps.length)
    (hb : ∀ (kV doc pm : Value) (an : Option Addr) (cdv ct : Value) (us : List Value), us.length = ps.length → bindArgs (PySem.W.fnOf x qual (defArgs st) (defBody st) (defScope st) .none kV doc pm an cdv ct) ⟨us, []⟩ = pure (ps.zip us))
    (hbody : ∀ (A : Around) (outer : List Env) (s : Shared) (H : Hp) (vs : List V) (Q : VK) (E : XK), Room k (A.deeper (envOfC qual (defScope st) s.heap.objs.size f (.ref c))) → sp vs H Q E →
      ∃ t, PSs (cxOf CX0 P w K mg base N qual (defScope st) f (.ref c) A outer s H E).nox (defBody st) t ∧ t { nx := fun _ H' => Q .non H', rt := Q } (start N vs) H) : FnR P w K mg base CX0 (k + 1) f sp :=
  FnOk.r (okC F hc S len hbody) (F.binds hb)
end
/-! ### an instance called, with a reading that names no context -/
def tCallK (C : Addr) (sp : Sp) (E : XK) (tf : TE) (t : TA) : TE := fun σ H Q => tf σ H fun y H1 => ∃ a, y = V.ref a ∧ t σ H1 fun vs H2 => (∃ dx fs, H2 a = some (.ins C dx fs)) ∧ sp (V.ref a :: vs) H2 Q E
theorem pe_caK {X : Cx} {CX : CXT} {k j : Nat} {C : Addr} {sp : Sp} {E : XK} {pos : Pos} {e fe : Expr} {es : List Expr} {tf : TE} {t : TA} (hf : PE X fe tf) (c : Ca X.prog X.w X.K X.mg X.base CX k C sp) (hr : Room j X.A) (hk : k ≤ j) (hx : Passes CX X E) (ha : PA X (e :: es) t)
    (ht : eval (.Call fe (e :: es) [] pos) X.env = (do callWith pos (← eval fe X.env) [] (backTo pos (starEach (e :: es) X.env)) (backToKw pos (keywordEach [] X.env))) := by rfl)
    (he : starEach (e :: es) X.env = (false, eval e X.env) :: starEach es X.env := by rfl) (hpl : (backTo pos (starEach es X.env)).any (·.1) = false := by rfl) : PE X (.Call fe (e :: es) [] pos) (tCallK C sp E tf t) := by
  have hf2 : PE X fe (fun σ H Q => ∃ R : V → Hp → Prop, tf σ H R ∧ ∀ v H1, R v H1 → Q v H1) := ⟨fun pins s σ H Q I ⟨R, h1, h2⟩ => wpAny_mono (hf.run pins s σ H R I h1) (fun us s1 ⟨v, H1, I1, r, q⟩ => ⟨v, H1, I1, r, h2 _ _ q⟩) fun _ _ z => z⟩
  have ha2 : PA X (e :: es) (fun σ H Q => ∃ R : List V → Hp → Prop, t σ H R ∧ ∀ vs H1, R vs H1 → Q vs H1) := ⟨fun pos pins s σ H Q I ⟨R, h1, h2⟩ => wpAny_mono (ha.run pos pins s σ H R I h1) (fun us s1 ⟨vs, H1, I1, r, q⟩ => ⟨vs, H1, I1, r, h2 _ _ q⟩) fun _ _ z => z⟩
  have m := pe_ca hf2 c hr hk hx ha2 ht he hpl
  refine ⟨fun pins s σ H Q I h => m.run pins s σ H Q I ⟨_, h, ?_⟩⟩
  rintro v H1 ⟨a, ea, q⟩
  exact ⟨a, ea, _, q, fun vs H2 ⟨⟨dx, fs, hi⟩, hs⟩ => ⟨.inr ⟨dx, fs, hi⟩, hs⟩⟩
end SB

/-! list(range(a, b, c)). -/
namespace SB
open PySem PySem.Spec PyProof.Rows L2
def rg3 (i k : Int) (n : Nat) : List V := (List.range n).map fun m : Nat => V.int (i + (m : Int) * k)
def tLstRg3 (ta : TA) : TE := fun σ H Q => ta σ H fun vs H1 => ∃ (i j k : Int) (n : Nat), vs = [.int i, .int j, .int k] ∧ RgC i j k n ∧ n ≤ 2 ^ 24 ∧ ∀ q, H1 q = none → Q (.ref q) (upd H1 q (.lst (rg3 i k n)))
theorem vals_rg3 {a k : Int} {n : Nat} {acc : Array Value} (h : ItemsOf (fun i v => ∃ t, v = .int (a + i * k) t) acc n) : Vals (rg3 a k n) acc.toList := by
  have e : acc.toList.length = n := by rw [Array.length_toList]; exact h.1
  unfold rg3
  rw [← e]
  refine vals_of_get acc.toList _ fun j u hj => ?_
  obtain ⟨t, rfl⟩ := h.2 j u (by rw [← hj, Array.getElem?_toList])
  exact ⟨t, rfl⟩
theorem pe_listRg3 {X : Cx} {a b c : Expr} {ta : TA} {p p2 pos pos2 : Pos} (hc : X.calm = true) (hg : Gl X "list") (hm : X.mg "list" = none) (hg2 : Gl X "range") (hm2 : X.mg "range" = none) (ha : PA X [a, b, c] ta)
    (hs : starEach [a, b, c] X.env = (false, eval a X.env) :: starEach [b, c] X.env := by rfl) (hpl : (backTo pos2 (starEach [b, c] X.env)).any (·.1) = false := by rfl)
    (na : starEach [.Call (.Name "range" p2) [a, b, c] [] pos2] X.env = (false, eval (.Call (.Name "range" p2) [a, b, c] [] pos2) X.env) :: starEach [] X.env := by rfl) :
    PE X (.Call (.Name "list" p) [.Call (.Name "range" p2) [a, b, c] [] pos2] [] pos) (tLstRg3 ta) := by
  refine ⟨fun pins s σ H Q I h => ?_⟩
  refine Call_ (ld_blt I hg hm boot_list (PyProof.Rows.callWith_type1 (args_cons ?_ na) na))
  refine Call_ (ld_blt I hg2 hm2 boot_range (PyProof.Rows.callWith_type1 (thn (ha.run pos2 pins s σ H _ I h) fun us s1 ⟨vs, H1, I1, r1, q1⟩ => ?_) hs hpl))
  obtain ⟨i, j, k, n, e, ⟨c0, c1, c2, c3⟩, hn, q⟩ := q1
  subst e
  cases r1 with
  | cons r rr =>
    cases rr with
    | cons r' rr =>
      cases rr with
      | cons r'' rr =>
        cases rr
        obtain ⟨t, rfl⟩ := r
        obtain ⟨t', rfl⟩ := r'
        obtain ⟨t'', rfl⟩ := r''
        refine call_range_3 c0 ?_ (.inl (PyProof.noPylong_small c1))
        have I2 : Inv X pins σ H1 { s1 with heap := s1.heap.push { cls := .type "range", data := .fields #[.int i t, .int j t', .int k t''] } } := I1.kept (t' := s1.toks) fun b o z => Heap.get?_push_of_some _ z
        refine args_nil ?_
        refine call_list_range (n := n) (I2.ok.hd hc) (IsRange.new ..) c2 c3 hn fun h' tk acc c' hk e' hi => ?_
        refine ⟨.ref _, upd H1 _ (.lst (rg3 i k n)), I2.laid hk (Nat.le_refl _) (show ObjOk X.prog X.w _ _ _ (.lst (rg3 i k n)) from ⟨?_, acc.toList, c', vals_rg3 hi, ?_⟩), rfl, q _ (I2.hok.fresh (Nat.le_refl _))⟩
        · show (rg3 i k n).length ≤ sizeLine
          unfold rg3
          rw [List.length_map, List.length_range, sizeLine_eq]
          omega
        · rw [Array.toArray_toList]
          exact e'
end SB

/-! own containers: x in o, len(o), o[i], o == any value, o != o2. -/
namespace SB
open PySem PySem.Spec PyProof.Rows L2
section
variable {X : Cx} {CX : CXT} {k j : Nat} {C : Addr} {x m : Str} {sp : Sp} {E : XK} {p pos apos : Pos} {e o : Expr} {es : List Expr} {ta tb : TE} {t : TA}
/-- the callee runs, one C call deeper -/
theorem run_fnR1 {pins : List (Addr × Obj)} {σ : L2.St} {H : Hp} {s : Shared} {f : Addr} {Q : VK} {us : List Value} {vs : List V} (F : FnR X.prog X.w X.K X.mg X.base CX k f sp) (hr : Room (k + 1) X.A) (hx : Passes CX X E) (I : Inv X pins σ H s) (r : Vals vs us) (h : sp vs H Q E) :
    codeAny (model X.prog X.w) X.A.in1 (.call (.ref f) ⟨us, []⟩) (fun r s' => match r with | .ok (.ret v) => EP X pins σ Q v s' | .ok _ => False | .error e => X.xe e s') s := by
  refine codeAny_mono (F X.A.in1 X.stack s H us vs Q E hr.in1 I.env0.in1 r h) fun r s' hq => ?_
  cases r with
  | error e => exact hx pins σ H s e s' I hq
  | ok fl =>
    cases fl with
    | ret u => exact I.after hq
    | next => exact False.elim hq
    | brk => exact False.elim hq
    | cont => exact False.elim hq
def rOwnIn (neg : Bool) (C : Addr) (sp : Sp) (E : XK) : R2 := fun x y H Q => ∃ a dx fs, y = .ref a ∧ H a = some (.ins C dx fs) ∧ sp [y, x] H (fun v H' => ∃ b, v = .bl b ∧ Q (.bl (if neg then !b else b)) H') E
/-- x in o, o an instance of C with a __contains__ of its own -/
theorem op_ownIn (c : Me X.prog X.w X.K X.mg X.base CX k C "__contains__" sp) (hr : Room j X.A) (hk : k ≤ j) (hx : Passes CX X E) : OpR X (compareOp .In) (rOwnIn false C sp E) := by
  obtain ⟨g, F, hs, hf, _⟩ := c.ex
  intro pins s σ H x y v u Q I rx ry h
  obtain ⟨a, dx, fs, rfl, ha, q⟩ := h
  cases (show u = Value.ref a from ry)
  obtain ⟨ox, od, J⟩ := inst_at I ha
  obtain ⟨m, hF⟩ := I.fr
  refine PySem.W.in_K hF I.ok.mod.kin J hs hf ?_
  refine wpAny_mono (wpAny_call (run_fnR (us := [.ref a, v]) (vs := [.ref a, x]) F (hr.mono hk) hx I (.cons rfl (.cons rx .nil)) q)) (fun w s' z => ?_) fun _ _ x => x
  obtain ⟨_, H', I', rz, b, rfl, q'⟩ := z
  cases rz
  exact wpAny_truthy_bool ⟨.bl b, H', I', rfl, q'⟩
def rOwnLen (C : Addr) (sp : Sp) (E : XK) : List V → Hp → VK → Prop := fun xs H Q => ∃ a dx fs, xs = [.ref a] ∧ H a = some (.ins C dx fs) ∧ sp [.ref a] H (fun v H' => ∃ n : Nat, v = .int (n : Int) ∧ n < 2 ^ 63 ∧ Q (.int (n : Int)) H') E
/-- len(o) -/
theorem call_ownLen (c : Me X.prog X.w X.K X.mg X.base CX k C "__len__" sp) (hr : Room j X.A) (hk : k + 1 ≤ j) (hx : Passes CX X E) : CallR X (.builtin "len") (rOwnLen C sp E) := by
  obtain ⟨g, F, hs, hf, _⟩ := c.ex
  intro pins s σ H xs us Q I r h
  obtain ⟨a, dx, fs, rfl, ha, q⟩ := h
  obtain ⟨u, rfl, ru⟩ := r.one
  cases (show u = Value.ref a from ru)
  obtain ⟨ox, od, J⟩ := inst_at I ha
  obtain ⟨m, hF⟩ := I.fr
  refine PySem.W.len_K hF I.ok.mod.kin J hs hf ?_
  refine wpAny_mono (wpAny_call (run_fnR1 (us := [.ref a]) (vs := [.ref a]) F (hr.mono hk) hx I (.cons rfl .nil) q)) (fun w s' z => ?_) fun _ _ x => x
  obtain ⟨_, H', I', rz, n, rfl, hn, q'⟩ := z
  obtain ⟨t, rfl⟩ := rz
  exact ⟨⟨by omega, by omega⟩, ⟨.int n, H', I'.tok _, ⟨_, rfl⟩, q'⟩⟩
def rOwnIx (C : Addr) (sp : Sp) (E : XK) : R2 := fun x y H Q => ∃ a dx fs, x = .ref a ∧ H a = some (.ins C dx fs) ∧ sp [x, y] H Q E
/-- o[i] -/
theorem pe_ixO (c : Me X.prog X.w X.K X.mg X.base CX k C "__getitem__" sp) (hr : Room j X.A) (hk : k + 1 ≤ j) (hx : Passes CX X E) {a b : Expr} (ha : PE X a ta) (hb : PE X b tb) (hfn : ∀ g, PySem.W.findIn X.K (.ref C) "__getitem__" = some (some (.ref g)) → PySem.W.fnIn X.K g = true)
    (hsl : ∀ v u : Value, subscripted b true v u = runValue (.builtin "lifetime.subscript" ⟨[v, u], []⟩) := by intro _ _; rfl) : PE X (.Subscript a b pos) (tOp (rOwnIx C sp E) ta tb) := by
  obtain ⟨g, F, hs, hf, _⟩ := c.ex
  refine ⟨fun pins s σ H Q I h => ?_⟩
  refine Subscript_ (binT ha hb I h fun v u s2 x y H2 I2 rx ry q => ?_)
  obtain ⟨ad, dx, fs, rfl, had, q⟩ := q
  cases (show v = Value.ref ad from rx)
  obtain ⟨ox, od, J⟩ := inst_at I2 had
  obtain ⟨m, hF⟩ := I2.fr
  refine PySem.W.sub_K hF I2.ok.mod.kin J hs (hfn g hs) hf ?_ (hsl _ _)
  exact wpAny_call (run_fnR1 (us := [.ref ad, u]) (vs := [.ref ad, y]) F (hr.mono hk) hx I2 (.cons rfl (.cons ry .nil)) q)
def rOwnEqX (K : PySem.W.Frag) (C : Addr) (sp : Sp) (E : XK) : R2 := fun x y H Q => ∃ a dx fs t, x = .ref a ∧ H a = some (.ins C dx fs) ∧ TyX K H y t ∧ PySem.W.notFirst K C t = true ∧ sp [x, y] H Q E
/-- o == y, y of any kind -/
theorem op_ownEqX (c : Me X.prog X.w X.K X.mg X.base CX k C "__eq__" sp) (hr : Room j X.A) (hk : k ≤ j) (hx : Passes CX X E) : OpR X (compareOp .Eq) (rOwnEqX X.K C sp E) := by
  obtain ⟨g, F, hs, hf, _⟩ := c.ex
  intro pins s σ H x y v u Q I rx ry h
  obtain ⟨a, dx, fs, t, rfl, ha, ty, hn, q⟩ := h
  cases (show v = Value.ref a from rx)
  obtain ⟨ox, od, J⟩ := inst_at I ha
  obtain ⟨P, Z, p, _⟩ := kit_of I ry ty
  obtain ⟨m, hF⟩ := I.fr
  show wpAny _ _ (richCompare .Eq (.ref a) u) _ _ _
  refine PySem.W.cmp_K (op := .Eq) (tb := t) hr.units0 hF I.ok.mod.kin J (Z.ty _ _ I.kIn p) hn hs hf ?_
  refine wpAny_mono (wpAny_call (run_fnR (us := [.ref a, u]) (vs := [.ref a, y]) F (hr.mono hk) hx I (.cons rfl (.cons ry .nil)) q)) (fun w s' z => ?_) fun _ _ x => x
  exact cmpback z
end

section
variable {M : Model} {prog : Program} {w : World} {A : Around} {E : Value → Shared → Prop} {s : Shared} {K : PySem.W.Frag} {x C f : Addr} {ox : Obj} {od : Option Obj}
theorem ifBound_objNe {args : List Value} {Q : Option Value → Shared → Prop} (X : K.In s.heap) (I : PySem.W.InstAt s.heap x ox C od) (hs : PySem.W.findIn K (.ref C) "__ne__" = some (some (.builtin "object.__ne__")))
    (h : wpAny M A (call (.builtin "object.__ne__") (.ref x :: args)) (fun v => Q (some v)) E s) : wpAny M A (callSpecialIfBound? (.ref x) "__ne__" args) Q E s := by
  simp only [callSpecialIfBound?, bindSpecialIfBound?]
  refine wpAny_holding (wpAny_bind (wpAny_bind (wpAny_bind (I.type.here ((PySem.W.looks_findIn X hs).here ?_)))))
  refine wpAny_bind (wpAny_askSetting (wpAny_ite ?_))
  have fin : wpAny M A (call (.builtin "object.__ne__") ([.ref x] ++ args) >>= fun v => pure (some v)) Q E s := wpAny_bind (wpAny_mono h (fun v s' h' => wpAny_pure h') fun _ _ h' => h')
  split
  · exact wpAny_bind (wpAny_of_eq (F.cmp_object.ne.bind _) (wpAny_pure (by exact fin)))
  · exact wpAny_tryCatch (wpAny_bind (wpAny_of_eq (F.cmp_object.ne.bind _) (wpAny_pure (by exact fin))))
theorem objNe_entry {b : Value} {Q : Fin → Shared → Prop} (hu : A.units < cLine) (X : K.In s.heap) (I : PySem.W.InstAt s.heap x ox C od) (hs : PySem.W.findIn K (.ref C) "__eq__" = some (some (.ref f))) (hf : PySem.W.isFn K (.ref f) = true)
    (h : wpAny M A (call (.ref f) [.ref x, b]) (fun v s' => ∃ c, v = .bool c ∧ Q (.done (.ret (.bool (!c)))) s') E s) : wpAny M A (Builtin.«object.__ne__» ⟨[.ref x, b], []⟩) Q E s := by
  unfold Builtin.«object.__ne__»
  repeat (first | with_reducible refine wpAny_cRoomFor hu ?_ | with_reducible refine PySem.W.ifBound_K X I hs hf (wpAny_mono h (fun v s' z => ?_) fun _ _ e => e) | wp_step)
  obtain ⟨c, rfl, q⟩ := z
  exact wpAny_bind (wpAny_truthy_bool (wpAny_pure q))
theorem richNe_K {b tb : Value} {Q : Value → Shared → Prop} (hu : A.units + 1 < cLine) (X : K.In s.heap) (I : PySem.W.InstAt s.heap x ox C od) (hb : PySem.W.Looks (model prog w) s.heap (typeOf b) tb) (hn : PySem.W.notFirst K C tb = true) (hm : PySem.W.mroIn K C (.type "object") = some true)
    (hne : PySem.W.findIn K (.ref C) "__ne__" = some (some (.builtin "object.__ne__"))) (hs : PySem.W.findIn K (.ref C) "__eq__" = some (some (.ref f))) (hf : PySem.W.isFn K (.ref f) = true)
    (h : wpAny (model prog w) A.in1 (call (.ref f) [.ref x, b]) (fun v s' => ∃ c, v = .bool c ∧ Q (.bool (!c)) s') E s) : wpAny (model prog w) A (richCompare .NotEq (.ref x) b) Q E s := by
  have hu0 : A.units < cLine := Nat.lt_of_succ_lt hu
  have one : wpAny (model prog w) A (tryCompare (.ref x) "__ne__" b) (fun r s' => ∃ v, r = some v ∧ Q v s') E s := by
    unfold tryCompare
    refine wpAny_bind (ifBound_objNe X I hne (wpAny_call (codeAny_call_builtin F.cmp_object.ne.plain F.cmpEntry_ne (PySem.W.check_slot F.cmpKind_ne F.cmpSplit_ne (I.type.andThen (PySem.W.looks_mroIn X hm)) (F.cmpArgs_ne _ _) (objNe_entry (A := A.in1) hu X I hs hf ?_)))))
    refine wpAny_mono h (fun v s' z => ?_) fun _ _ e => e
    obtain ⟨c, rfl, q⟩ := z
    exact ⟨c, rfl, wpAny_pure ⟨_, rfl, q⟩⟩
  simp only [richCompare, cmpInfo_NotEq, oneThing_ref]
  refine wpAny_holding (wpAny_bind (wpAny_cRoomFor hu0 ?_))
  refine wpAny_bind (I.type.here (wpAny_bind (hb.here ?_)))
  split
  · rename_i q
    have e : PySem.W.subIn K tb (.ref C) = some false := by
      rcases Bool.or_eq_true_iff.mp hn with e | e
      · rw [beq_iff_eq.mp e] at q; simp at q
      · exact beq_iff_eq.mp e
    refine wpAny_bind ((PySem.W.looks_subIn X e).here ?_)
    simp only [Bool.false_eq_true, if_false]
    refine wpAny_bind (wpAny_mono one (fun r s' z => ?_) fun _ _ e => e)
    obtain ⟨v, rfl, hq⟩ := z
    exact wpAny_pure hq
  · refine wpAny_bind (wpAny_pure ?_)
    simp only [Bool.false_eq_true, if_false]
    refine wpAny_bind (wpAny_mono one (fun r s' z => ?_) fun _ _ e => e)
    obtain ⟨v, rfl, hq⟩ := z
    exact wpAny_pure hq
end
section
variable {X : Cx} {CX : CXT} {k j : Nat} {C : Addr} {sp : Sp} {E : XK}
def rOwnNe (C : Addr) (sp : Sp) (E : XK) : R2 := fun x y H Q => ∃ a dx fs b dy gs, x = .ref a ∧ y = .ref b ∧ H a = some (.ins C dx fs) ∧ H b = some (.ins C dy gs) ∧ sp [x, y] H (fun v H' => ∃ c, v = .bl c ∧ Q (.bl (!c)) H') E
/-- o != o2, both of C, which has an __eq__ of its own and no __ne__ -/
theorem op_ownNe (c : Me X.prog X.w X.K X.mg X.base CX k C "__eq__" sp) (hn : PySem.W.notFirst X.K C (.ref C) = true) (hm : PySem.W.mroIn X.K C (.type "object") = some true) (hne : PySem.W.findIn X.K (.ref C) "__ne__" = some (some (.builtin "object.__ne__")))
    (hr : Room j X.A) (hk : k + 1 ≤ j) (hx : Passes CX X E) : OpR X (compareOp .NotEq) (rOwnNe C sp E) := by
  obtain ⟨g, F, hs, hf, _⟩ := c.ex
  intro pins s σ H x y v u Q I rx ry h
  obtain ⟨a, dx, fs, b, dy, gs, rfl, rfl, ha, hb, q⟩ := h
  cases (show v = Value.ref a from rx)
  cases (show u = Value.ref b from ry)
  obtain ⟨ox, od, J⟩ := inst_at I ha
  obtain ⟨ox', od', J'⟩ := inst_at I hb
  show wpAny _ _ (richCompare .NotEq (.ref a) (.ref b)) _ _ _
  refine richNe_K (tb := .ref C) (hu_of hr) I.kIn J J'.type hn hm hne hs hf ?_
  refine wpAny_mono (wpAny_call (run_fnR1 (us := [.ref a, .ref b]) (vs := [.ref a, .ref b]) F (hr.mono hk) hx I (.cons rfl (.cons rfl .nil)) q)) (fun w s' z => ?_) fun _ _ x => x
  obtain ⟨_, H', I', rz, c, rfl, q'⟩ := z
  cases rz
  exact ⟨c, rfl, ⟨.bl (!c), H', I', rfl, q'⟩⟩
end
end SB

/-! sorted(range(n), key=lambda i: ..), the key a whole number. -/
namespace SB
open PySem PySem.Spec PyProof.Rows L2 LamX
/-- e is evaluated in env, over the heap g, without a change, to a value of which R holds -/
def Ev (prog : Program) (w : World) (env : Env) (g : Heap) (e : Expr) (R : Value → Prop) : Prop :=
  ∀ (A : Around) (E : Value → Shared → Prop) (s : Shared) (Q : Value → Shared → Prop), s.heap = g → (∀ v tk, R v → Q v { s with toks := tk }) → wpAny (model prog w) A (eval e env) Q E s
section
variable {prog : Program} {w : World} {env : Env} {g : Heap} {a b : Expr} {pos : Pos}
theorem ev_int {i : Int} {j : Nat} : Ev prog w env g (.Constant (.int i) j pos) (fun v => ∃ t, v = .int i t) := fun A E s Q hs h => wpAny_Constant_int (h _ _ ⟨_, rfl⟩)
theorem ev_mul {x y : Int} (ha : Ev prog w env g a (fun v => ∃ t, v = .int x t)) (hb : Ev prog w env g b (fun v => ∃ t, v = .int y t)) (hc : CMul x y) : Ev prog w env g (.BinOp a .Mult b pos) (fun v => ∃ t, v = .int (x * y) t) := fun A E s Q hs h => by
  refine wpAny_BinOp (ha A E s _ hs fun v tk hv => hb A E { s with toks := tk } _ hs fun u tk2 hu => ?_)
  obtain ⟨t, rfl⟩ := hv
  obtain ⟨t', rfl⟩ := hu
  exact mul_int (h _ _ ⟨_, rfl⟩) hc.ok
theorem ev_sub {x y : Int} (ha : Ev prog w env g a (fun v => ∃ t, v = .int x t)) (hb : Ev prog w env g b (fun v => ∃ t, v = .int y t)) : Ev prog w env g (.BinOp a .Sub b pos) (fun v => ∃ t, v = .int (x - y) t) := fun A E s Q hs h => by
  refine wpAny_BinOp (ha A E s _ hs fun v tk hv => hb A E { s with toks := tk } _ hs fun u tk2 hu => ?_)
  obtain ⟨t, rfl⟩ := hv
  obtain ⟨t', rfl⟩ := hu
  exact PyProof.Rows.sub_int (h _ _ ⟨_, rfl⟩)
theorem ev_local {x : Str} {m : Str → Option Value} {u : Value} (hk : env.scope.kind = .function) (hl : env.kindOf x = some .local) (hn : g.Ns env.locals m) (hv : m x = some u) (hd : (x == ("__debug__" : Str)) = false) : Ev prog w env g (.Name x pos) (fun v => v = u) := fun A E s Q hs h => by
  subst hs
  exact wpAny_Name (wpAny_loadName_local hk hl hn hv (h _ s.toks rfl)) hd
theorem ev_free {x : Str} {c : Addr} {u : Value} (hk : env.scope.kind = .function) (hl : env.kindOf x = some .free) (hc : env.cells.lookup x = some c) (hv : g.IsCell c (some u)) (hd : (x == ("__debug__" : Str)) = false) (hcd : (x == ("__classdict__" : Str)) = false) : Ev prog w env g (.Name x pos) (fun v => v = u) := fun A E s Q hs h => by
  subst hs
  exact wpAny_Name (wpAny_loadName_free hk hl hc hv (h _ s.toks rfl) hcd) hd
theorem ev_ixL {l : Addr} {its : Array Value} {k : Int} {u : Value} (ha : Ev prog w env g a (fun v => v = .ref l)) (hb : Ev prog w env g b (fun v => ∃ t, v = .int k t)) (hl : g.IsList l its) (h0 : 0 ≤ k) (h1 : k < 2 ^ 63) (hu : its[k.toNat]? = some u) (hp : PlainIx b) : Ev prog w env g (.Subscript a b pos) (fun v => v = u) := fun A E s Q hs h => by
  subst hs
  refine Subscript_ (ha A E s _ rfl fun v tk hv => hb A E { s with toks := tk } _ rfl fun x tk2 hx => ?_)
  subst hv
  obtain ⟨t, rfl⟩ := hx
  exact item_listR (s := { s with toks := tk2 }) hl h0 h1 hu (h _ _ rfl) (hp _ _)
theorem ev_ixT {l : Addr} {its : Array Value} {k : Int} {u : Value} (ha : Ev prog w env g a (fun v => v = .ref l)) (hb : Ev prog w env g b (fun v => ∃ t, v = .int k t)) (hl : g.IsTuple l its) (h0 : 0 ≤ k) (h1 : k < 2 ^ 63) (hu : its[k.toNat]? = some u) (hp : PlainIx b) : Ev prog w env g (.Subscript a b pos) (fun v => v = u) := fun A E s Q hs h => by
  subst hs
  refine Subscript_ (ha A E s _ rfl fun v tk hv => hb A E { s with toks := tk } _ rfl fun x tk2 hx => ?_)
  subst hv
  obtain ⟨t, rfl⟩ := hx
  have hlt : k.toNat < its.size := (Array.getElem?_eq_some_iff.mp hu).1
  have ek : k = ((k.toNat : Nat) : Int) := by omega
  exact subscriptTail_builtinR (s := { s with toks := tk2 }) (x := u) hl.typeIs slot_tuple_getitem.lookup (getItem_tuple (j := k.toNat) (Q := fun r s' => r = u ∧ Q r s') hl (by omega) (by omega) (by rw [ek]; exact seqIdx_nat hlt) hu ⟨rfl, h _ _ rfl⟩) (hp _ _)
end
/-! ### a lambda of one parameter -/
structure LamP (sc scope : Scope) (par : Str) : Prop where
  kind : scope.kind = .function
  co : scope.isCoroutine = false
  gen : scope.isGenerator = false
  own : ∀ y ∈ scope.names, y.2 ≠ .cell
  par : scope.names.lookup par = some .local
  free : ∀ y ∈ scope.names, y.2 = .free → sc.names.lookup y.1 = some .cell ∨ sc.names.lookup y.1 = some .free
def lamPB (sc scope : Scope) (par : Str) : Bool :=
  decide (scope.kind = .function) && !scope.isCoroutine && !scope.isGenerator && decide (scope.names.lookup par = some .local) && scope.names.all fun y => !decide (y.2 = .cell) && (!decide (y.2 = .free) || decide (sc.names.lookup y.1 = some .cell) || decide (sc.names.lookup y.1 = some .free))
theorem lamP_by {sc scope : Scope} {par : Str} (h : lamPB sc scope par = true) : LamP sc scope par := by
  unfold lamPB at h
  simp only [Bool.and_eq_true, Bool.or_eq_true, Bool.not_eq_true', decide_eq_true_eq, decide_eq_false_iff_not, List.all_eq_true] at h
  obtain ⟨⟨⟨⟨h1, h2⟩, h3⟩, h5⟩, h4⟩ := h
  refine ⟨h1, h2, h3, fun y hy => (h4 y hy).1, h5, fun y hy e => ?_⟩
  rcases (h4 y hy).2 with (z | z) | z
  · exact absurd e z
  · exact .inl z
  · exact .inr z
/-- the key of i, by the slots and the heap of the def that made the lambda -/
def KeyR (X : Cx) (scope : Scope) (body : Expr) (par : Str) (kr : L2.St → Hp → Int → Int → Prop) : Prop :=
  ∀ (pins : List (Addr × Obj)) (s : Shared) (σ : L2.St) (H : Hp) (i n : Int), Inv X pins σ H s → kr σ H i n → ∀ (t : Tok) (g : Heap) (l f c' : Addr), (∀ b o, s.heap.get? b = some o → g.get? b = some o) →
    g.Ns l (fun y => ([(par, Value.int i t)] : List (Str × Value)).reverse.lookup y) → Ev X.prog X.w (lamEnv X scope l f c') g body (fun v => ∃ t, v = .int n t)
section
variable {X : Cx} {pins : List (Addr × Obj)} {σ : L2.St} {H : Hp} {s : Shared} {scope : Scope} {par : Str} {g : Heap} {l f c' : Addr} {pos : Pos}
/-- a captured name -/
theorem ev_cap {x : Str} {j : Nat} {v : V} (I : Inv X pins σ H s) (L : LamP X.env.scope scope par) (kp : ∀ b o, s.heap.get? b = some o → g.get? b = some o) (hN : X.N[j]? = some x) (hf : scope.names.lookup x = some .free) (hv : σ[j]? = some (some v))
    (hd : (x == ("__debug__" : Str)) = false := by decide) (hcd : (x == ("__classdict__" : Str)) = false := by decide) : ∃ u, RelV v u ∧ Ev X.prog X.w (lamEnv X scope l f c') g (.Name x pos) (fun w' => w' = u) := by
  have hm := PySem.mem_of_lookup hf
  have hk := L.free _ hm rfl
  have hvis : Vis X.env.scope x := hk.elim (fun k => .inr (.inl k)) (fun k => .inr (.inr k))
  obtain ⟨m, hn, hl⟩ := I.loc
  obtain ⟨u, r, q⟩ := hl j x v hN hv hvis
  refine ⟨u, r, ?_⟩
  rcases q with ⟨k', _⟩ | ⟨_, c, hc, o, ho, hd'⟩
  · exfalso
    have k' : X.env.scope.names.lookup x = some .local := k'
    rcases hk with k2 | k2 <;> rw [show X.env.scope.names.lookup x = _ from k2] at k' <;> cases k'
  · have h1 : ∃ c2, (cloFrom X.env.cells scope.names []).lookup x = some c2 := mem_lookup (cloFrom_has (cells := X.env.cells) (acc := []) hm)
    obtain ⟨c2, h2⟩ := h1
    have e : c2 = c := by
      rcases cloFrom_mem (PySem.mem_of_lookup h2) with z | ⟨z1, z2⟩
      · cases z
      · rw [z2, hc] <;> rfl
    subst e
    exact ev_free L.kind hf h2 ⟨o, kp _ _ ho, hd'⟩ hd hcd
/-- the lambda's own parameter -/
theorem ev_par {i : Int} {t : Tok} (L : LamP X.env.scope scope par) (hn : g.Ns l (fun y => ([(par, Value.int i t)] : List (Str × Value)).reverse.lookup y)) (hd : (par == ("__debug__" : Str)) = false := by decide) :
    Ev X.prog X.w (lamEnv X scope l f c') g (.Name par pos) (fun v => ∃ t, v = .int i t) := fun A E s Q hs h =>
  ev_local (env := lamEnv X scope l f c') (u := .int i t) L.kind (show (lamEnv X scope l f c').kindOf par = some .local from L.par) hn (by simp) hd A E s Q hs fun v tk e => h v tk ⟨t, e⟩
end
theorem isList_keep {h g : Heap} {l : Addr} {its : Array Value} (kp : ∀ b o, h.get? b = some o → g.get? b = some o) (hl : h.IsList l its) : g.IsList l its := by
  obtain ⟨o, h1, h2⟩ := hl
  exact ⟨o, kp _ _ h1, h2⟩
/-- sign * values[at] -/
theorem key_sv {X : Cx} {scope : Scope} {par sg vs : Str} {is iv : Nat} {p1 p2 p3 p4 p5 : Pos} (L : LamP X.env.scope scope par) (h1 : X.N[is]? = some sg) (h2 : X.N[iv]? = some vs) (f1 : scope.names.lookup sg = some .free) (f2 : scope.names.lookup vs = some .free)
    (d1 : (sg == ("__debug__" : Str)) = false := by decide) (e1 : (sg == ("__classdict__" : Str)) = false := by decide) (d2 : (vs == ("__debug__" : Str)) = false := by decide) (e2 : (vs == ("__classdict__" : Str)) = false := by decide) (d3 : (par == ("__debug__" : Str)) = false := by decide) :
    KeyR X scope (.BinOp (.Name sg p1) .Mult (.Subscript (.Name vs p2) (.Name par p3) p4) p5) par (fun σ H i n => ∃ (sgn : Int) (a : Addr) (xs : List V) (x : Int), σ[is]? = some (some (.int sgn)) ∧ σ[iv]? = some (some (.ref a)) ∧ SqL X.K H a xs ∧ 0 ≤ i ∧ i < 2 ^ 63 ∧ xs[i.toNat]? = some (.int x) ∧ CMul sgn x ∧ n = sgn * x) := by
  rintro pins s σ H i n I ⟨sgn, a, xs, x, s1, s2, hS, h0, h9, hx, hm, rfl⟩ t g l f c' kp hn
  obtain ⟨u1, r1, ev1⟩ := ev_cap (l := l) (f := f) (c' := c') (pos := p1) I L kp h1 f1 s1 d1 e1
  obtain ⟨u2, r2, ev2⟩ := ev_cap (l := l) (f := f) (c' := c') (pos := p2) I L kp h2 f2 s2 d2 e2
  obtain ⟨t1, rfl⟩ := r1
  obtain rfl : u2 = Value.ref a := r2
  obtain ⟨its, rv, pl, hz⟩ := I.list hS
  obtain ⟨w', ew, rw'⟩ := rv.get hx
  obtain ⟨t2, rfl⟩ := rw'
  have ev3 : Ev X.prog X.w (lamEnv X scope l f c') g (.Subscript (.Name vs p2) (.Name par p3) p4) (fun v => v = .int x t2) := ev_ixL ev2 (ev_par L hn d3) (isList_keep kp pl.isList) h0 h9 (by simpa using ew) (fun _ _ => rfl)
  exact ev_mul (fun A E s Q hs h => ev1 A E s Q hs fun v tk e => h v tk ⟨t1, e⟩) (fun A E s Q hs h => ev3 A E s Q hs fun v tk e => h v tk ⟨t2, e⟩) hm
/-- items[k][0] * (1 - 2 * word) -/
theorem key_it {X : Cx} {scope : Scope} {par it wd : Str} {ii iw : Nat} {j1 j2 j3 : Nat} {p1 p2 p3 p4 p5 p6 p7 p8 p9 p10 p11 : Pos} (L : LamP X.env.scope scope par) (h1 : X.N[ii]? = some it) (h2 : X.N[iw]? = some wd) (f1 : scope.names.lookup it = some .free) (f2 : scope.names.lookup wd = some .free)
    (d1 : (it == ("__debug__" : Str)) = false := by decide) (e1 : (it == ("__classdict__" : Str)) = false := by decide) (d2 : (wd == ("__debug__" : Str)) = false := by decide) (e2 : (wd == ("__classdict__" : Str)) = false := by decide) (d3 : (par == ("__debug__" : Str)) = false := by decide) :
    KeyR X scope (.BinOp (.Subscript (.Subscript (.Name it p1) (.Name par p2) p3) (.Constant (.int 0) j1 p4) p5) .Mult (.BinOp (.Constant (.int 1) j2 p6) .Sub (.BinOp (.Constant (.int 2) j3 p7) .Mult (.Name wd p8) p9) p10) p11) par
      (fun σ H i n => ∃ (wo : Int) (a t : Addr) (xs : List V) (x : Int) (r : List V), σ[iw]? = some (some (.int wo)) ∧ σ[ii]? = some (some (.ref a)) ∧ SqL X.K H a xs ∧ 0 ≤ i ∧ i < 2 ^ 63 ∧ xs[i.toNat]? = some (.ref t) ∧ SqT X.K H t (.int x :: r) ∧ (0 ≤ wo ∧ wo ≤ 10) ∧ n = x * (1 - 2 * wo)) := by
  rintro pins s σ H i n I ⟨wo, a, tt, xs, x, r, s2, s1, hS, h0, h9, hx, hT, hw, rfl⟩ t g l f c' kp hn
  obtain ⟨u1, r1, ev1⟩ := ev_cap (l := l) (f := f) (c' := c') (pos := p1) I L kp h1 f1 s1 d1 e1
  obtain ⟨u2, r2, ev2⟩ := ev_cap (l := l) (f := f) (c' := c') (pos := p8) I L kp h2 f2 s2 d2 e2
  obtain rfl : u1 = Value.ref a := r1
  obtain ⟨t2, rfl⟩ := r2
  obtain ⟨its, rv, pl, hz⟩ := I.list hS
  obtain ⟨w', ew, rw'⟩ := rv.get hx
  obtain rfl : w' = Value.ref tt := rw'
  have ev3 : Ev X.prog X.w (lamEnv X scope l f c') g (.Subscript (.Name it p1) (.Name par p2) p3) (fun v => v = .ref tt) := ev_ixL ev1 (ev_par L hn d3) (isList_keep kp pl.isList) h0 h9 (by simpa using ew) (fun _ _ => rfl)
  obtain ⟨its2, rv2, pl2, hz2⟩ := I.tuple hT
  obtain ⟨w2, ew2, rw2⟩ := rv2.get (i := 0) rfl
  obtain ⟨t3, rfl⟩ := rw2
  obtain ⟨o2, g1, g2⟩ := pl2
  have ev4 : Ev X.prog X.w (lamEnv X scope l f c') g (.Subscript (.Subscript (.Name it p1) (.Name par p2) p3) (.Constant (.int 0) j1 p4) p5) (fun v => v = .int x t3) := ev_ixT ev3 ev_int (⟨o2, kp _ _ g1, g2⟩ : g.IsTuple tt its2.toArray) (by decide) (by decide) (by simpa using ew2) (fun _ _ => rfl)
  have ev5 := ev_sub (pos := p10) (ev_int (prog := X.prog) (w := X.w) (env := lamEnv X scope l f c') (g := g) (i := 1) (j := j2) (pos := p6)) (ev_mul (pos := p9) (ev_int (i := 2) (j := j3) (pos := p7)) (fun A E s Q hs h => ev2 A E s Q hs fun v tk e => h v tk ⟨t2, e⟩) (.inl ⟨by decide, by decide⟩))
  exact ev_mul (fun A E s Q hs h => ev4 A E s Q hs fun v tk e => h v tk ⟨t3, e⟩) ev5 (.inr ⟨by omega, by omega⟩)
/-! ### the call -/
section
variable {prog : Program} {w : World} {A : Around} {E : Value → Shared → Prop} {s : Shared}
theorem sorted_rng {r f : Addr} {n : Nat} {kz : Nat → Int} {t u v : Tok} {Q : Value → Shared → Prop} (hh : A.handled = none) (hr : IsRange s.heap r 0 (n : Int) 1 t u v) (hn : n ≤ 2 ^ 24) (hu : A.units + 2 < cLine)
    (turn : ∀ (i : Nat) (t : Tok), i < n → ∀ (h : Heap) (tk : Nat), (∀ b o, s.heap.get? b = some o → h.get? b = some o) → wpAny (model prog w) A.in1.in1 (call (.ref f) [.int (i : Int) t]) (PySem.W.KeyPure (.int (kz i)) { s with heap := h, toks := tk }) (fun _ _ => False) { s with heap := h, toks := tk })
    (fin : ∀ (out : List Value) (c : Nat) (h' : Heap) (tk : Nat) (q : Addr), (∀ b o, s.heap.get? b = some o → h'.get? b = some o) → (∃ hm : Heap, (∀ b o, s.heap.get? b = some o → hm.get? b = some o) ∧ hm.objs.size ≤ q) → h'.get? q = some (seqObj "list" (List.toArray out) c) →
      PySem.W.EachIs (fun (v : Value) (i : Nat) => ∃ t, v = .int (i : Int) t) out ((List.range n).mergeSort fun a b => decide (kz a ≤ kz b)) → Q (.ref q) { s with heap := h', toks := tk }) :
    wpAny (model prog w) A (call (.builtin "sorted") [.ref r] [(Str.ofString "key", .ref f)]) Q E s := by
  have hsz : n ≤ sizeLine := by rw [sizeLine_eq]; omega
  have hsm : Builtin.Range.rangeSize 0 (n : Int) 1 = n := by
    rw [rangeSize_one]
    by_cases c : (0 : Int) < (n : Int)
    · rw [if_pos c]; omega
    · rw [if_neg c]; omega
  refine call_function_entry_kw kind_sorted plain_sorted entry_sorted (ksk_s1 _ _) ?_
  unfold Builtin.«sorted»
  refine wpAny_bind (m := checkCount "sorted" 1 1 [Value.ref r].length) (wpAny_pure ?_)
  refine wpAny_bind (m := collect (Value.ref r)) (collect_range (A := A.in1) (n := n) hh hr ?_ hsm hn fun h' tk acc kp hi => ?_)
  · exact small_one (by decide) (by decide) (by omega) (by omega)
  have hlen : acc.toList.length = n := by rw [Array.length_toList]; exact hi.1
  refine wpAny_bind (m := newList acc.toList) (wpAny_newList ?_ (by rw [hlen]; exact hsz))
  have hat : (h'.push { cls := .type "list", data := .seq acc.toList.toArray }).get? h'.objs.size = some (seqObj "list" acc.toList.toArray 0) := Heap.get?_push_size _ rfl
  have ea : PySem.W.EachIs (fun (v : Value) (i : Nat) => ∃ t, v = .int (i : Int) t) acc.toList (List.range n) := by
    refine PySem.W.EachIs.of_zip (by rw [hlen, List.length_range]) fun p hp => ?_
    obtain ⟨j, hj⟩ := List.mem_iff_getElem?.mp hp
    rw [List.getElem?_zip_eq_some] at hj
    obtain ⟨j1, j2⟩ := hj
    obtain ⟨t, et⟩ := hi.2 j p.1 (by rw [← j1, Array.getElem?_toList])
    have ej : p.2 = j := by
      have := (List.getElem?_eq_some_iff.mp j2).2
      rw [List.getElem_range] at this
      exact this.symm
    refine ⟨t, ?_⟩
    rw [et, ej]
    congr 1
    omega
  refine wpAny_bind (wpAny_holding (wpAny_call_entry_kw slot_list_sort ⟨_, hat, rfl⟩ entry_list_sort ?_ (ksk_l1 _ _)))
  rw [ksk_t1]
  have kpush : ∀ b o, s.heap.get? b = some o → (h'.push { cls := .type "list", data := .seq acc.toList.toArray }).get? b = some o := fun b o e => Heap.get?_push_of_some _ (kp b o e)
  have up : ∀ {g : Heap}, PySem.W.KeepsBut h'.objs.size (h'.push { cls := .type "list", data := .seq acc.toList.toArray }) g → ∀ b o, s.heap.get? b = some o → g.get? b = some o := fun {g} k b o e =>
    k b o (Nat.ne_of_lt (Heap.lt_size (kp b o e))) (kpush b o e)
  refine PySem.W.keyH_tree (A := A.in1.in1) (b := false) (kz := (List.range n).map fun i => PyData.int (kz i)) (s := { s with heap := h'.push { cls := .type "list", data := .seq acc.toList.toArray }, toks := tk }) hat (by rw [List.length_map, List.length_range, hlen]) (by rw [hlen]; exact hsz)
    (PySem.W.AllAlike.of fun _ _ => rfl) (PySem.W.Sortable.others fun _ => ⟨(by intro z; cases z), (by intro _ z; cases z)⟩) (fun d hd => ?_)
    (PySem.W.keyH_turns (s := { s with heap := h'.push { cls := .type "list", data := .seq acc.toList.toArray }, toks := tk }) ea fun v i hv hi' h tk2 k => ?_) fun h2 tk2 out c k hD ko => ?_
  · obtain ⟨i, _, rfl⟩ := List.mem_map.mp hd
    show A.units + 1 + 1 + 0 < cLine
    omega
  · obtain ⟨t, rfl⟩ := hv
    exact turn i t (List.mem_range.mp hi') h tk2 (up k)
  · refine ⟨_, rfl, wpAny_pure ⟨_, rfl, fin out c h2 tk2 _ (up k) ⟨h', kp, Nat.le_refl _⟩ hD ?_⟩⟩
    have := PySem.W.keyedOut_each (fun i : Nat => PyData.int (kz i)) ko ea
    rw [PySem.W.dataLe_int] at this
    exact this
end
section
variable {X : Cx} {pins : List (Addr × Obj)} {σ : L2.St} {H : Hp} {s : Shared}
/-- range(n) as a value -/
theorem cr_range1 : CallR X (.type "range") (fun vs H Q => ∃ j, vs = [V.int j] ∧ ∀ p, H p = none → Q (.ref p) (upd H p (.rng 0 j))) := by
  intro pins s σ H vs us Q I r h
  obtain ⟨j, rfl, q⟩ := h
  obtain ⟨u, rfl, rj⟩ := r.one
  obtain ⟨t, rfl⟩ := rj
  refine call_range_1 ⟨.ref s.heap.objs.size, upd H s.heap.objs.size (.rng 0 j), I.laid (t' := s.toks + 1 + 1) (fun b o e => Heap.get?_push_of_some _ e) (Nat.le_refl _) ⟨_, _, _, Heap.get?_push_size _ rfl⟩, rfl, q _ (I.hok.fresh (Nat.le_refl _))⟩
/-- one call of the lambda -/
theorem lam_key {params : Arguments} {body : Expr} {scope : Scope} {par : Str} {f c' : Addr} {pm ctv : Value} {i n : Int} {t : Tok} {A : Around} {kr : L2.St → Hp → Int → Int → Prop} {h : Heap} {tk : Nat} (I : Inv X pins σ H s) (L : LamP X.env.scope scope par) (hd : A.depth < recursionLimit)
    (hf : s.heap.get? f = some (PySem.W.kla_obj "<lambda>" (X.env.qual ++ "<lambda>") params body scope (cloFrom X.env.cells scope.names []) pm c' ctv)) (hco : H c' = some (CodeO c' (X.env.qual ++ "<lambda>")))
    (hbind : ∀ v, bindArgs (PySem.W.kla_fn "<lambda>" (X.env.qual ++ "<lambda>") params body scope (cloFrom X.env.cells scope.names []) pm (.ref c') ctv) ⟨[v], []⟩ = pure [(par, v)])
    (hK : KeyR X scope body par kr) (hk : kr σ H i n) (kp : ∀ b o, s.heap.get? b = some o → h.get? b = some o) :
    wpAny (model X.prog X.w) A (call (.ref f) [.int i t]) (PySem.W.KeyPure (.int n) { s with heap := h, toks := tk }) (fun _ _ => False) { s with heap := h, toks := tk } := by
  obtain ⟨⟨oc, vs, t', hoc, hdc, hvc⟩, _, _⟩ := I.hok c' _ hco
  refine wpAny_call (codeAny_mono (R := fun r s' => ∃ v, r = .ok (.ret v) ∧ PySem.W.KeyPure (.int n) { s with heap := h, toks := tk } v s') ?_ fun r s' hq => ?_)
  · refine PySem.W.kla_callFunE (s := { s with heap := h, toks := tk }) hd (kp _ _ hf) rfl L.co L.gen rfl ⟨c', oc, vs, t', rfl, kp _ _ hoc, hdc, hvc⟩ ?_
    rw [hbind]
    refine wpAny_pure (wpAny_newFunctionEnv L.own (fun y hy => by rw [List.mem_singleton.mp hy]; exact L.par) (fun h₁ hns hsb => ?_) L.kind)
    have k1 : ∀ b o, h.get? b = some o → h₁.get? b = some o := fun b o e => hsb.extBut b o (Nat.ne_of_lt (Heap.lt_size e)) (Heap.get?_push_of_some _ e)
    have k2 : ∀ b o, s.heap.get? b = some o → h₁.get? b = some o := fun b o e => k1 b o (kp b o e)
    refine ⟨I.nolimit.keeps k2, PySem.W.kla_codeExpr ?_⟩
    refine hK pins s σ H i n I hk t h₁ h.objs.size f c' k2 hns _ _ _ _ rfl fun v tk2 hv => ?_
    obtain ⟨t2, rfl⟩ := hv
    exact ⟨_, rfl, h₁, tk2, rfl, k1, .int n t2⟩
  · obtain ⟨v, rfl, hv⟩ := hq
    exact hv
end
/-- positions in the order of their keys -/
def sortM (n : Nat) (ks : Nat → Int) : List Int := ((List.range n).mergeSort fun a b => decide (ks a ≤ ks b)).map fun i : Nat => (i : Int)
def tSortRK (T : List (Addr × Str)) (ta : TA) (kr : L2.St → Hp → Int → Int → Prop) : TE := fun σ H Q => ta σ H fun vs H1 => ∃ (r : Addr) (n : Nat), vs = [.ref r] ∧ H1 r = some (.rng 0 (n : Int)) ∧ n ≤ 2 ^ 24 ∧ Tabs T H1 ∧
  ∀ H2, ExtN H1 H2 → Tabs T H2 → ∃ ks : Nat → Int, (∀ i : Nat, i < n → kr σ H2 (i : Int) (ks i)) ∧ ∀ p, H2 p = none → Q (.ref p) (upd H2 p (.lst ((sortM n ks).map V.int)))
theorem each_ints : ∀ {out : List Value} {is : List Nat}, PySem.W.EachIs (fun (v : Value) (i : Nat) => ∃ t, v = .int (i : Int) t) out is → Vals ((is.map fun i : Nat => (i : Int)).map V.int) out
  | _, _, .nil => .nil
  | _, _, .cons ⟨t, e⟩ r => .cons ⟨t, e⟩ (each_ints r)
theorem pe_sortRK {X : Cx} {T : List (Addr × Str)} {c P : Addr} {par : Str} {params : Arguments} {body : Expr} {scope : Scope} {kr : L2.St → Hp → Int → Int → Prop} {e : Expr} {ta : TA} {p pos lpos kpos : Pos} (hc : X.calm = true) (hg : Gl X "sorted") (hm : X.mg "sorted" = none) (ha : PA X [e] ta)
    (TB : TabB X.base X.mg c P) (hcode : X.env.code = .ref c) (hmT : (P, X.env.qual ++ "<lambda>") ∈ T) (hu : ∀ p ∈ T, p.1 = P → p.2 = X.env.qual ++ "<lambda>") (hr : Room 3 X.A) (L : LamP X.env.scope scope par) (hdef : defaultsOf params X.env = ([], []))
    (hbind : ∀ (q : Str) (cl : List (Str × Addr)) (pm cv ctv v : Value), bindArgs (PySem.W.kla_fn "<lambda>" q params body scope cl pm cv ctv) ⟨[v], []⟩ = pure [(par, v)]) (hK : KeyR X scope body par kr)
    (he : backTo pos (starEach [e] X.env) = (false, eval e X.env) :: backTo pos (starEach [] X.env) := by rfl) (hpl : (backTo pos (starEach [e] X.env)).any (·.1) = false := by rfl) :
    PE X (.Call (.Name "sorted" p) [e] [⟨some "key", .Lambda params body scope lpos, kpos⟩] pos) (tSortRK T ta kr) := by
  refine ⟨fun pins s σ H Q I h => ?_⟩
  refine wpAny_Call_Name_kw (ld_blt I hg hm (by decide +kernel : bootBuiltins "sorted" = some (.builtin "sorted")) ?_ (by decide) (by decide))
  refine PyProof.Rows.callWith_kw (thn (ha.run pos pins s σ H _ I h) fun us s1 ⟨vs, H1, I1, r1, q1⟩ => ?_) he hpl rfl rfl
  obtain ⟨r, n, rfl, hrg, hn, hT, q⟩ := q1
  obtain ⟨u, rfl, ru⟩ := r1.one
  obtain rfl : u = Value.ref r := ru
  show wpAny _ _ (evalAll ((do let v ← eval (.Lambda params body scope lpos) X.env; standAt pos; pure v) :: [])) _ _ s1
  refine wpAny_evalAll_cons (wpAny_bind (lam_make2 I1 TB hcode hmT hu hT hdef (fun y hy e => ?_) fun f c' pm ctv H2 s2 I2 eN T2 hf hfn hfr hco => wpAny_bind (wpAny_standAt (wpAny_pure (wpAny_evalAll_nil ?_)))))
  · rcases L.free y hy e with k | k
    · exact I1.ok.has _ (.inl k)
    · exact I1.ok.has _ (.inr k)
  · obtain ⟨ks, hks, q⟩ := q H2 eN T2
    obtain ⟨t, u, v, ho⟩ := I2.hok r _ (eN _ _ hrg (by intro _ z; cases z))
    show wpAny _ _ (call (.builtin "sorted") [.ref r] [(Str.ofString "key", .ref f)]) _ _ _
    refine sorted_rng (n := n) (kz := ks) (I2.ok.hd hc) (show IsRange s2.heap r 0 (n : Int) 1 t u v from ho) hn ?_ (fun i t hi h tk kp => ?_) fun out cc h' tk q' kp hm hD ea => ?_
    · have := hr.units
      omega
    · exact lam_key I2 L hr.in1.in1.depth hf hco (hbind _ _ _ _ _) hK (hks i hi) kp
    · obtain ⟨hm', k1, k2⟩ := hm
      have nH : H2 q' = none := (I2.hok.kept k1).fresh k2
      have nS : s2.heap.get? q' = none := by
        cases e : s2.heap.get? q' with
        | none => rfl
        | some o => exact absurd (Heap.lt_size (k1 _ _ e)) (Nat.not_lt.mpr k2)
      refine ⟨.ref q', upd H2 q' (.lst ((sortM n ks).map V.int)), I2.laidN (t' := tk) kp nS nH ⟨?_, out, cc, each_ints ea, hD⟩, rfl, q _ nH⟩
      unfold sortM
      rw [List.length_map, List.length_map, (List.mergeSort_perm _ _).length_eq, List.length_range, sizeLine_eq]
      omega
/-! ### a staticmethod called with keywords -/
structure SmN (P : Program) (w : World) (K : PySem.W.Frag) (mg : Str → Option Value) (base : Heap) (CX : CXT) (k : Nat) (x m : Str) (n : Nat) (ks : List Str) (gV : List V → List V → List V) (sp : Sp) : Prop where
  ex : ∃ (C p g : Addr) (mc : Value) (fd : FuncData) (ps : List Str) (g2 : List Value → List Value → List Value), mg x = some (.ref C) ∧ ClX.CRead K C mc ∧ SMet K C mc m p g ∧ FnOk P w K mg base CX k g fd ps sp ∧ KBn K fd ps n ks g2 gV
section
variable {X : Cx} {CX : CXT} {k j n : Nat} {C : Addr} {x m : Str} {ks : List Str} {gV : List V → List V → List V} {sp : Sp} {E : XK} {p pos apos : Pos} {e : Expr} {es : List Expr} {kws : List Keyword} {t tk : TA}
theorem pe_smN {pl : Sem Bool} (c : SmN X.prog X.w X.K X.mg X.base CX k x m n ks gV sp) (hr : Room j X.A) (hk : k ≤ j) (hg : Gl X x) (hx : Passes CX X E) (ha : PA X (e :: es) t) (hkw : PK X kws tk) (hall : (backToKw pos (keywordEach kws X.env)).all (·.1.isSome) = true := by rfl) (hks : (backToKw pos (keywordEach kws X.env)).filterMap (·.1) = ks := by rfl)
    (hdb : (x == ("__debug__" : Str)) = false := by decide) (hst : starEach (e :: es) X.env = (false, eval e X.env) :: starEach es X.env := by rfl)
    (hpl : ((backTo pos (starEach (e :: es) X.env)).any (·.1) || (backToKw pos (keywordEach kws X.env)).any (·.1.isNone)) = false := by rfl)
    (ht : eval (.Call (.Attribute (.Name x p) m apos) (e :: es) kws pos) X.env = (do
      let ov ← eval (.Name x p) X.env
      standAt apos.atName
      let (f, first) ← holding [ov] (getMethod ov m pl)
      callWith pos f first (backTo pos (starEach (e :: es) X.env)) (backToKw pos (keywordEach kws X.env))) := by rfl) :
    PE X (.Call (.Attribute (.Name x p) m apos) (e :: es) kws pos) (tCallN n ks.length sp gV E t tk) := by
  obtain ⟨C, pr, g, mc, fd, ps, g2, hm, r, c, F, hb⟩ := c.ex
  obtain ⟨rest, hp⟩ := c.rc
  refine ⟨fun pins s σ H Q I h => ?_⟩
  refine PySem.W.methodCall_KW (pl := pl) (ld_glob I hg hm ?_ hdb) ht
  refine PySem.W.method_cls I.kIn r.ga (PySem.W.cls_bind I.kIn r.rd c.at_ (wpAny_call (PySem.W.sm_get (s := { s with toks := s.toks + 1 }) I.kIn hp (PySem.W.handed_on rfl ?_))))
  have I0 : Inv X pins σ H { s with toks := s.toks + 1 } := I.tok _
  refine PySem.W.callWith_KW (h₀ := X.base) I.ok.mod.kin c.kp hall (thn (ha.run pos pins _ σ H _ I0 h) fun us s1 ⟨vs, H1, I1, rv, q⟩ => ?_) hpl hst
  refine thn (hkw.run pos pins s1 σ H1 _ I1 q) fun ws s2 ⟨zs, H2, I2, rz, l1, l2, q2⟩ => ⟨I2.kIn, ?_⟩
  rw [hks]
  exact run_fnN F (hr.mono hk) hb hx I2 rv rz l1 l2 q2
end
end SB

/-! Moves as plain lists of places. -/
namespace MM
/-- the places of a move that takes t values -/
def MoveOk (t : Nat) (ps : List Int) : Prop := (∀ p ∈ ps, -1 ≤ p ∧ p < (t : Int)) ∧ ps.Pairwise (fun a b => 0 ≤ a → a ≠ b)
theorem MoveOk.inj {t : Nat} {ps : List Int} (h : MoveOk t ps) {i j : Nat} {v : Int} (hi : ps[i]? = some v) (hj : ps[j]? = some v) (h0 : 0 ≤ v) : i = j := by
  obtain ⟨li, ei⟩ := List.getElem?_eq_some_iff.mp hi
  obtain ⟨lj, ej⟩ := List.getElem?_eq_some_iff.mp hj
  have pw := List.pairwise_iff_getElem.mp h.2
  rcases Nat.lt_trichotomy i j with c | c | c
  · exact absurd (ei.trans ej.symm) (pw i j li lj c (by rw [ei]; exact h0))
  · exact c
  · exact absurd (ej.trans ei.symm) (pw j i lj li c (by rw [ej]; exact h0))
theorem MoveOk.at {t : Nat} {ps : List Int} (h : MoveOk t ps) {i : Nat} {v : Int} (hi : ps[i]? = some v) : -1 ≤ v ∧ v < (t : Int) := h.1 v (List.mem_of_getElem? hi)
theorem moveOk_of {t : Nat} {ps : List Int} (h1 : ∀ (i : Nat) (v : Int), ps[i]? = some v → -1 ≤ v ∧ v < (t : Int)) (h2 : ∀ (i j : Nat) (v : Int), ps[i]? = some v → ps[j]? = some v → 0 ≤ v → i = j) : MoveOk t ps := by
  refine ⟨fun p hp => ?_, List.pairwise_iff_getElem.mpr fun i j hi hj hij h0 e => ?_⟩
  · obtain ⟨i, hi, e⟩ := List.mem_iff_getElem.mp hp
    exact h1 i p (by rw [List.getElem?_eq_getElem hi, e])
  · have := h2 i j ps[i] (List.getElem?_eq_getElem hi) (by rw [List.getElem?_eq_getElem hj, e]) h0
    omega
/-- where p stands among the places, or -1 -/
def posI : List Int → Int → Nat → Int
  | [], _, _ => -1
  | x :: r, p, k => if x = p then (k : Int) else posI r p (k + 1)
def posM (ps : List Int) (p : Int) : Int := posI ps p 0
theorem posI_spec : ∀ (ps : List Int) (p : Int) (k : Nat), (posI ps p k = -1 ∧ p ∉ ps) ∨ ∃ j : Nat, posI ps p k = ((k + j : Nat) : Int) ∧ ps[j]? = some p
  | [], p, k => .inl ⟨rfl, by simp⟩
  | x :: r, p, k => by
    unfold posI
    by_cases c : x = p
    · rw [if_pos c]
      exact .inr ⟨0, by simp, by simp [c]⟩
    · rw [if_neg c]
      rcases posI_spec r p (k + 1) with ⟨e, h⟩ | ⟨j, e, h⟩
      · exact .inl ⟨e, by simp [h]; exact fun z => c z.symm⟩
      · exact .inr ⟨j + 1, by rw [e]; congr 1; omega, by simpa using h⟩
theorem posM_none {ps : List Int} {p : Int} (h : p ∉ ps) : posM ps p = -1 := by
  rcases posI_spec ps p 0 with ⟨e, _⟩ | ⟨j, _, hj⟩
  · exact e
  · exact absurd (List.mem_of_getElem? hj) h
theorem posM_some {t : Nat} {ps : List Int} (ok : MoveOk t ps) {p : Int} {j : Nat} (h0 : 0 ≤ p) (h : ps[j]? = some p) : posM ps p = (j : Int) := by
  rcases posI_spec ps p 0 with ⟨_, n⟩ | ⟨i, e, hi⟩
  · exact absurd (List.mem_of_getElem? h) n
  · have := ok.inj hi h h0
    subst this
    exact e.trans (by simp)
theorem posM_cases (ps : List Int) (p : Int) : (posM ps p = -1 ∧ p ∉ ps) ∨ ∃ j : Nat, posM ps p = (j : Int) ∧ ps[j]? = some p := by
  rcases posI_spec ps p 0 with h | ⟨j, e, h⟩
  · exact .inl h
  · exact .inr ⟨j, e.trans (by simp), h⟩
/-- the places of the undone move -/
def invM (t : Nat) (ps : List Int) : List Int := (List.range t).map fun i : Nat => posM ps (i : Int)
theorem invM_length (t : Nat) (ps : List Int) : (invM t ps).length = t := by simp [invM]
theorem invM_get {t : Nat} {ps : List Int} {i : Nat} (h : i < t) : (invM t ps)[i]? = some (posM ps (i : Int)) := by
  simp [invM, h]
theorem invM_get' {t : Nat} {ps : List Int} {i : Nat} {v : Int} (h : (invM t ps)[i]? = some v) : i < t ∧ v = posM ps (i : Int) := by
  have hl : i < t := by
    have := (List.getElem?_eq_some_iff.mp h).1
    rw [invM_length] at this
    exact this
  rw [invM_get hl] at h
  exact ⟨hl, (Option.some.inj h).symm⟩
theorem invM_ok {t : Nat} {ps : List Int} (ok : MoveOk t ps) : MoveOk ps.length (invM t ps) := by
  refine moveOk_of (fun i v h => ?_) (fun i j v hi hj h0 => ?_)
  · obtain ⟨_, rfl⟩ := invM_get' h
    rcases posM_cases ps i with ⟨e, _⟩ | ⟨j, e, hj⟩
    · rw [e]; omega
    · have := (List.getElem?_eq_some_iff.mp hj).1
      rw [e]; omega
  · obtain ⟨_, e1⟩ := invM_get' hi
    obtain ⟨_, e2⟩ := invM_get' hj
    rcases posM_cases ps i with ⟨e, _⟩ | ⟨a, ea, ha⟩
    · omega
    · rcases posM_cases ps j with ⟨e, _⟩ | ⟨b, eb, hb⟩
      · omega
      · have : a = b := by omega
        subst this
        rw [ha] at hb
        have := Option.some.inj hb
        omega
theorem invM_succ (t : Nat) (ps : List Int) : invM (t + 1) ps = invM t ps ++ [posM ps (t : Int)] := by
  unfold invM
  rw [List.range_succ, List.map_append]
  rfl
theorem posI_snoc_old {x p : Int} (h : p ≠ x) : ∀ (ps : List Int) (k : Nat), posI (ps ++ [x]) p k = posI ps p k
  | [], k => by
    show (if x = p then _ else _) = _
    rw [if_neg fun z => h z.symm]
    rfl
  | y :: r, k => by
    show (if y = p then _ else posI (r ++ [x]) p (k + 1)) = if y = p then _ else _
    rw [posI_snoc_old h r (k + 1)]
theorem posM_snoc_old {ps : List Int} {x p : Int} (h : p ≠ x) : posM (ps ++ [x]) p = posM ps p := posI_snoc_old h ps 0
theorem posM_snoc_new {t : Nat} {ps : List Int} (ok : MoveOk t ps) {i : Nat} {v p : Int} (h : ps[i]? = some v) (h0 : 0 ≤ v) (e : p = v) : posM (ps.take i ++ [v]) p = (i : Int) := by
  subst e
  have hl : i < ps.length := (List.getElem?_eq_some_iff.mp h).1
  rcases posM_cases (ps.take i ++ [p]) p with ⟨_, n⟩ | ⟨j, e, hj⟩
  · exact absurd (List.mem_append_right _ (List.mem_singleton_self _)) n
  · rw [e]
    have hlt : j < i + 1 := by
      have := (List.getElem?_eq_some_iff.mp hj).1
      rw [List.length_append, List.length_take] at this
      simp at this
      omega
    by_cases c : j < i
    · rw [List.getElem?_append_left (by rw [List.length_take]; omega), List.getElem?_take, if_pos c] at hj
      have := ok.inj hj h h0
      omega
    · congr 1
      omega
theorem ext_get {a b : List Int} (hl : a.length = b.length) (h : ∀ (i : Nat) (x y : Int), a[i]? = some x → b[i]? = some y → x = y) : a = b := by
  apply List.ext_getElem hl
  intro i h1 h2
  exact h i _ _ (List.getElem?_eq_getElem h1) (List.getElem?_eq_getElem h2)
/-- undone twice -/
theorem inv_inv {t : Nat} {ps : List Int} (ok : MoveOk t ps) : invM ps.length (invM t ps) = ps := by
  refine ext_get (invM_length _ _) fun i x y hx hy => ?_
  obtain ⟨hi, rfl⟩ := invM_get' hx
  have b := ok.at hy
  by_cases h0 : 0 ≤ y
  · obtain ⟨k, rfl⟩ : ∃ k : Nat, y = (k : Int) := ⟨y.toNat, by omega⟩
    have hk : k < t := by omega
    have e : (invM t ps)[k]? = some (i : Int) := by rw [invM_get hk, posM_some ok (by omega) hy]
    exact posM_some (invM_ok ok) (by omega) e
  · have ey : y = -1 := by omega
    rw [posM_none, ey]
    intro hm
    obtain ⟨k, hk⟩ := List.mem_iff_getElem?.mp hm
    obtain ⟨hk1, e⟩ := invM_get' hk
    rcases posM_cases ps k with ⟨e2, _⟩ | ⟨j, e2, hj⟩
    · omega
    · have : j = i := by omega
      subst this
      rw [hy] at hj
      have := Option.some.inj hj
      omega
/-- the places of a product -/
def prodM (ps qs : List Int) : List Int := qs.map fun q => if q < 0 then q else ps.getD q.toNat (-1)
theorem prodM_length (ps qs : List Int) : (prodM ps qs).length = qs.length := by simp [prodM]
theorem prodM_get {ps qs : List Int} {i : Nat} {q : Int} (h : qs[i]? = some q) : (prodM ps qs)[i]? = some (if q < 0 then q else ps.getD q.toNat (-1)) := by
  simp [prodM, h]
theorem prodM_get' {ps qs : List Int} {i : Nat} {v : Int} (h : (prodM ps qs)[i]? = some v) : ∃ q, qs[i]? = some q ∧ v = if q < 0 then q else ps.getD q.toNat (-1) := by
  have hl : i < qs.length := by
    have := (List.getElem?_eq_some_iff.mp h).1
    rw [prodM_length] at this
    exact this
  have hq := List.getElem?_eq_getElem hl
  rw [prodM_get hq] at h
  exact ⟨_, hq, (Option.some.inj h).symm⟩
theorem getD_of {ps : List Int} {k : Nat} {v : Int} (h : ps[k]? = some v) : ps.getD k (-1) = v := by simp [List.getD, h]
/-- a place of a product: a gap of the second, or the place of the first there -/
theorem prod_case {t : Nat} {ps qs : List Int} (o2 : MoveOk ps.length qs) {i : Nat} {v : Int} (h : (prodM ps qs)[i]? = some v) : (qs[i]? = some (-1) ∧ v = -1) ∨ ∃ k : Nat, qs[i]? = some (k : Int) ∧ ps[k]? = some v := by
  obtain ⟨q, hq, e⟩ := prodM_get' h
  have b := o2.at hq
  by_cases c : q < 0
  · rw [if_pos c] at e
    have : q = -1 := by omega
    subst this
    exact .inl ⟨hq, e⟩
  · rw [if_neg c] at e
    have hl : q.toNat < ps.length := by omega
    refine .inr ⟨q.toNat, by rw [hq]; congr 1; omega, ?_⟩
    rw [getD_of (List.getElem?_eq_getElem hl)] at e
    rw [List.getElem?_eq_getElem hl, e]
theorem prod_gap {ps qs : List Int} {i : Nat} (h : qs[i]? = some (-1)) : (prodM ps qs)[i]? = some (-1) := by rw [prodM_get h]; simp
theorem prod_at {ps qs : List Int} {i k : Nat} {v : Int} (h : qs[i]? = some (k : Int)) (hk : ps[k]? = some v) : (prodM ps qs)[i]? = some v := by
  rw [prodM_get h, if_neg (by omega), Int.toNat_natCast, getD_of hk]
theorem prod_ok {t : Nat} {ps qs : List Int} (o1 : MoveOk t ps) (o2 : MoveOk ps.length qs) : MoveOk t (prodM ps qs) := by
  refine moveOk_of (fun i v h => ?_) (fun i j v hi hj h0 => ?_)
  · rcases prod_case (t := t) o2 h with ⟨_, e⟩ | ⟨k, _, hk⟩
    · omega
    · exact o1.at hk
  · rcases prod_case (t := t) o2 hi with ⟨_, e⟩ | ⟨a, ha, hka⟩
    · omega
    · rcases prod_case (t := t) o2 hj with ⟨_, e⟩ | ⟨b, hb, hkb⟩
      · omega
      · have := o1.inj hka hkb h0
        subst this
        exact o2.inj ha hb (by omega)
theorem getElem?_of_lt {ps : List Int} {k : Nat} (h : k < ps.length) : ∃ v, ps[k]? = some v := ⟨_, List.getElem?_eq_getElem h⟩
/-- the undone product -/
theorem inv_prod {t : Nat} {ps qs : List Int} (o1 : MoveOk t ps) (o2 : MoveOk ps.length qs) : invM t (prodM ps qs) = prodM (invM ps.length qs) (invM t ps) := by
  have o3 := prod_ok o1 o2
  have o4 := invM_ok o1
  have o5 := invM_ok o2
  have o6 : MoveOk (invM ps.length qs).length (invM t ps) := by rw [invM_length]; exact o4
  refine ext_get (by rw [invM_length, prodM_length, invM_length]) fun i x y hx hy => ?_
  obtain ⟨hi, rfl⟩ := invM_get' hx
  rcases prod_case (t := qs.length) o6 hy with ⟨hg, rfl⟩ | ⟨k, hk, hy2⟩
  · -- i is not among ps
    obtain ⟨_, e⟩ := invM_get' hg
    rcases posM_cases ps i with ⟨_, n⟩ | ⟨j, e2, _⟩
    · refine posM_none fun hm => ?_
      obtain ⟨j, hj⟩ := List.mem_iff_getElem?.mp hm
      rcases prod_case (t := t) o2 hj with ⟨_, z⟩ | ⟨a, _, ha⟩
      · omega
      · exact n (List.mem_of_getElem? ha)
    · omega
  · obtain ⟨_, ek⟩ := invM_get' hk
    rcases posM_cases ps i with ⟨e2, _⟩ | ⟨j, e2, hj⟩
    · omega
    · have : j = k := by omega
      subst this
      obtain ⟨_, rfl⟩ := invM_get' hy2
      rcases posM_cases qs j with ⟨e3, n⟩ | ⟨l, e3, hl⟩
      · rw [e3]
        refine posM_none fun hm => ?_
        obtain ⟨b, hb⟩ := List.mem_iff_getElem?.mp hm
        rcases prod_case (t := t) o2 hb with ⟨_, z⟩ | ⟨a, ha1, ha2⟩
        · omega
        · have := o1.inj ha2 hj (by omega)
          subst this
          exact n (List.mem_of_getElem? ha1)
      · rw [e3]
        exact posM_some o3 (by omega) (prod_at hl hj)
/-- a move, undone, and done again -/
theorem prod_back {t : Nat} {ps : List Int} (ok : MoveOk t ps) : prodM (prodM ps (invM t ps)) ps = ps := by
  have o4 := invM_ok ok
  have o5 : MoveOk t (prodM ps (invM t ps)) := prod_ok ok o4
  have hl : (prodM ps (invM t ps)).length = t := by rw [prodM_length, invM_length]
  have o6 : MoveOk (prodM ps (invM t ps)).length ps := by rw [hl]; exact ok
  refine ext_get (prodM_length _ _) fun i x y hx hy => ?_
  rcases prod_case (t := t) o6 hx with ⟨hg, rfl⟩ | ⟨k, hk, hx2⟩
  · rw [hy] at hg
    exact (Option.some.inj hg).symm
  · rw [hy] at hk
    have ey := Option.some.inj hk
    rcases prod_case (t := t) o4 hx2 with ⟨hg, rfl⟩ | ⟨j, hj, hj2⟩
    · obtain ⟨_, e⟩ := invM_get' hg
      rw [posM_some ok (by omega) (by rw [hy, ey])] at e
      omega
    · obtain ⟨_, e⟩ := invM_get' hj
      rw [posM_some ok (by omega) (by rw [hy, ey])] at e
      have : j = i := by omega
      subst this
      rw [hy] at hj2
      exact (Option.some.inj hj2).symm
/-- gaps -/
def gapsM (ps : List Int) : Nat := (ps.filter fun p => decide (p < 0)).length
/-- the still move -/
def stillM (t : Nat) : List Int := (List.range t).map fun i : Nat => (i : Int)
theorem stillM_length (t : Nat) : (stillM t).length = t := by simp [stillM]
theorem stillM_get {t i : Nat} {v : Int} (h : (stillM t)[i]? = some v) : i < t ∧ v = (i : Int) := by
  have hl : i < t := by
    have := (List.getElem?_eq_some_iff.mp h).1
    rw [stillM_length] at this
    exact this
  simp [stillM, hl] at h
  exact ⟨hl, h.symm⟩
theorem stillM_at {t i : Nat} (h : i < t) : (stillM t)[i]? = some (i : Int) := by simp [stillM, h]
theorem still_ok (t : Nat) : MoveOk t (stillM t) := by
  refine moveOk_of (fun i v h => ?_) (fun i j v hi hj _ => ?_)
  · obtain ⟨_, rfl⟩ := stillM_get h
    omega
  · obtain ⟨_, e1⟩ := stillM_get hi
    obtain ⟨_, e2⟩ := stillM_get hj
    omega
theorem still_nodup (t : Nat) : (stillM t).Nodup := by
  refine List.nodup_iff_pairwise_ne.mpr (List.pairwise_iff_getElem.mpr fun i j hi hj hij e => ?_)
  have a := stillM_get (List.getElem?_eq_getElem hi)
  have b := stillM_get (List.getElem?_eq_getElem hj)
  omega
theorem still_mem {t : Nat} {v : Int} : v ∈ stillM t ↔ 0 ≤ v ∧ v < (t : Int) := by
  constructor
  · intro h
    obtain ⟨i, hi⟩ := List.mem_iff_getElem?.mp h
    obtain ⟨h1, rfl⟩ := stillM_get hi
    omega
  · rintro ⟨h0, h1⟩
    have e := stillM_at (t := t) (i := v.toNat) (by omega)
    have := List.mem_of_getElem? e
    rwa [show ((v.toNat : Nat) : Int) = v by omega] at this
/-- some of the indexes below t, each once -/
def SomeOf (t : Nat) (a b : List Int) : Prop := (a ++ b).Perm (stillM t)
theorem someOf_ok {t : Nat} {a b : List Int} (h : SomeOf t a b) : MoveOk t a := by
  have nd : (a ++ b).Nodup := h.nodup_iff.mpr (still_nodup t)
  have na := (List.nodup_append.mp nd).1
  refine ⟨fun p hp => ?_, List.Pairwise.imp (R := (· ≠ ·)) (S := fun a b => 0 ≤ a → a ≠ b) (fun hab _ => hab) (List.nodup_iff_pairwise_ne.mp na)⟩
  have := still_mem.mp (h.mem_iff.mp (List.mem_append_left b hp))
  omega
theorem someOf_nonneg {t : Nat} {a b : List Int} (h : SomeOf t a b) : ∀ p ∈ a, 0 ≤ p := fun p hp => (still_mem.mp (h.mem_iff.mp (List.mem_append_left b hp))).1
theorem someOf_length {t : Nat} {a b : List Int} (h : SomeOf t a b) : a.length + b.length = t := by
  have := h.length_eq
  rw [List.length_append, stillM_length] at this
  exact this
theorem someOf_start (t : Nat) : SomeOf t [] (stillM t) := List.Perm.refl _
theorem cons_erase : ∀ {b : List Int} {k : Nat} {v : Int}, b[k]? = some v → (v :: b.eraseIdx k).Perm b
  | [], _, _, h => by simp at h
  | x :: r, 0, v, h => by
    have e : x = v := Option.some.inj h
    subst e
    exact List.Perm.refl _
  | x :: r, k + 1, v, h => by
    have ih := cons_erase (b := r) (k := k) (v := v) (by simpa using h)
    show (v :: x :: r.eraseIdx k).Perm (x :: r)
    exact (List.Perm.swap x v _).trans (ih.cons x)
theorem someOf_step {t : Nat} {a b : List Int} {k : Nat} {v : Int} (h : SomeOf t a b) (hk : b[k]? = some v) : SomeOf t (a ++ [v]) (b.eraseIdx k) := by
  have p := cons_erase hk
  have q : (a ++ [v] ++ b.eraseIdx k).Perm (a ++ b) := by
    rw [List.append_assoc]
    exact p.append_left a
  exact q.trans h
theorem ok_insert {t : Nat} {a : List Int} (h : MoveOk t a) (i : Nat) : MoveOk t (a.take i ++ [-1] ++ a.drop i) := by
  obtain ⟨h1, h2⟩ := h
  refine ⟨fun p hp => ?_, ?_⟩
  · rcases List.mem_append.mp hp with hp | hp
    · rcases List.mem_append.mp hp with hp | hp
      · exact h1 p (List.mem_of_mem_take hp)
      · have : p = -1 := by simpa using hp
        omega
    · exact h1 p (List.mem_of_mem_drop hp)
  · have h2' : (a.take i ++ a.drop i).Pairwise (fun a b => 0 ≤ a → a ≠ b) := by rw [List.take_append_drop]; exact h2
    obtain ⟨p1, p2, p3⟩ := List.pairwise_append.mp h2'
    refine List.pairwise_append.mpr ⟨List.pairwise_append.mpr ⟨p1, List.pairwise_singleton _ _, fun x hx y hy h0 => ?_⟩, p2, fun x hx y hy => ?_⟩
    · have : y = -1 := by simpa using hy
      omega
    · rcases List.mem_append.mp hx with hx | hx
      · exact p3 x hx y hy
      · have : x = -1 := by simpa using hx
        intro h0
        omega
/-- a move that leaves nothing out and has no gaps, undone -/
theorem perm_back {t : Nat} {ps : List Int} (h : SomeOf t ps []) : prodM ps (invM t ps) = stillM t := by
  have ok := someOf_ok h
  have o4 := invM_ok ok
  have hp : ps.Perm (stillM t) := by have := h; unfold SomeOf at this; rwa [List.append_nil] at this
  refine ext_get (by rw [prodM_length, invM_length, stillM_length]) fun i x y hx hy => ?_
  obtain ⟨hi, rfl⟩ := stillM_get hy
  have hm : (i : Int) ∈ ps := hp.mem_iff.mpr (still_mem.mpr (by omega))
  rcases prod_case (t := t) o4 hx with ⟨hg, rfl⟩ | ⟨k, hk, hx2⟩
  · obtain ⟨_, e⟩ := invM_get' hg
    rcases posM_cases ps i with ⟨_, n⟩ | ⟨j, e2, _⟩
    · exact absurd hm n
    · omega
  · obtain ⟨_, e⟩ := invM_get' hk
    rcases posM_cases ps i with ⟨_, n⟩ | ⟨j, e2, hj⟩
    · exact absurd hm n
    · have : j = k := by omega
      subst this
      rw [hx2] at hj
      exact Option.some.inj hj
theorem back_perm {t : Nat} {ps : List Int} (h : SomeOf t ps []) : prodM (invM t ps) ps = stillM t := by
  have ok := someOf_ok h
  have o6 : MoveOk (invM t ps).length ps := by rw [invM_length]; exact ok
  have hl : ps.length = t := by have := someOf_length h; simpa using this
  refine ext_get (by rw [prodM_length, stillM_length, hl]) fun i x y hx hy => ?_
  obtain ⟨hi, rfl⟩ := stillM_get hy
  rcases prod_case (t := ps.length) o6 hx with ⟨hg, rfl⟩ | ⟨k, hk, hx2⟩
  · have := someOf_nonneg h (-1) (List.mem_of_getElem? hg)
    omega
  · obtain ⟨_, rfl⟩ := invM_get' hx2
    exact posM_some ok (by omega) hk
/-! ### a move applied to values -/
section
variable {α β : Type}
def applyM : List Int → List α → List α → List α
  | [], _, _ => []
  | p :: ps, xs, ys => if p < 0 then ys.take 1 ++ applyM ps xs (ys.drop 1) else (xs[p.toNat]?).toList ++ applyM ps xs ys
theorem apply_neg {p : Int} {ps : List Int} {xs ys : List α} {y : α} (h : p < 0) : applyM (p :: ps) xs (y :: ys) = y :: applyM ps xs ys := by
  show (if p < 0 then _ else _) = _
  rw [if_pos h]
  rfl
theorem apply_nonneg {p : Int} {ps : List Int} {xs ys : List α} {x : α} (h : ¬ p < 0) (hx : xs[p.toNat]? = some x) : applyM (p :: ps) xs ys = x :: applyM ps xs ys := by
  show (if p < 0 then _ else _) = _
  rw [if_neg h, hx]
  rfl
theorem gaps_cons (p : Int) (ps : List Int) : gapsM (p :: ps) = (if p < 0 then 1 else 0) + gapsM ps := by
  unfold gapsM
  by_cases c : p < 0
  · simp [c]; omega
  · simp [c]
theorem gaps_snoc (ps : List Int) (p : Int) : gapsM (ps ++ [p]) = gapsM ps + (if p < 0 then 1 else 0) := by
  unfold gapsM
  by_cases c : p < 0 <;> simp [c]
/-- what stands at a position -/
theorem apply_get : ∀ (ps : List Int) (xs ys : List α), (∀ p ∈ ps, p < 0 ∨ p.toNat < xs.length) → gapsM ps ≤ ys.length → ∀ i : Nat, (applyM ps xs ys)[i]? = (ps[i]?).bind fun p => if p < 0 then ys[gapsM (ps.take i)]? else xs[p.toNat]?
  | [], _, _, _, _, i => by simp [applyM]
  | p :: ps, xs, ys, hp, hg, i => by
    rw [gaps_cons] at hg
    by_cases c : p < 0
    · rw [if_pos c] at hg
      cases ys with
      | nil => simp at hg
      | cons y ys =>
        rw [apply_neg c]
        cases i with
        | zero => simp [c, gapsM]
        | succ i =>
          have ih := apply_get ps xs ys (fun q hq => hp q (List.mem_cons_of_mem _ hq)) (by simp at hg; omega) i
          simp only [List.getElem?_cons_succ, List.take_succ_cons]
          rw [ih, gaps_cons, if_pos c]
          simp only [Nat.add_comm 1, List.getElem?_cons_succ]
    · rw [if_neg c] at hg
      have hl : p.toNat < xs.length := (hp p List.mem_cons_self).resolve_left c
      rw [apply_nonneg c (List.getElem?_eq_getElem hl)]
      cases i with
      | zero => simp [c]
      | succ i =>
        have ih := apply_get ps xs ys (fun q hq => hp q (List.mem_cons_of_mem _ hq)) (by omega) i
        simp only [List.getElem?_cons_succ, List.take_succ_cons]
        rw [ih, gaps_cons, if_neg c]
        simp only [Nat.zero_add]
theorem apply_length : ∀ (ps : List Int) (xs ys : List α), (∀ p ∈ ps, p < 0 ∨ p.toNat < xs.length) → gapsM ps ≤ ys.length → (applyM ps xs ys).length = ps.length
  | [], _, _, _, _ => rfl
  | p :: ps, xs, ys, hp, hg => by
    rw [gaps_cons] at hg
    by_cases c : p < 0
    · rw [if_pos c] at hg
      cases ys with
      | nil => simp at hg
      | cons y ys =>
        rw [apply_neg c, List.length_cons, List.length_cons, apply_length ps xs ys (fun q hq => hp q (List.mem_cons_of_mem _ hq)) (by simp at hg; omega)]
    · rw [if_neg c] at hg
      have hl : p.toNat < xs.length := (hp p List.mem_cons_self).resolve_left c
      rw [apply_nonneg c (List.getElem?_eq_getElem hl), List.length_cons, List.length_cons, apply_length ps xs ys (fun q hq => hp q (List.mem_cons_of_mem _ hq)) (by omega)]
theorem apply_map (f : α → β) : ∀ (ps : List Int) (xs ys : List α), (applyM ps xs ys).map f = applyM ps (xs.map f) (ys.map f)
  | [], _, _ => rfl
  | p :: ps, xs, ys => by
    unfold applyM
    by_cases c : p < 0
    · rw [if_pos c, if_pos c, List.map_append, apply_map f ps, List.map_take, List.map_drop]
    · rw [if_neg c, if_neg c, List.map_append, apply_map f ps, List.getElem?_map]
      cases xs[p.toNat]? <;> rfl
theorem apply_filter {γ : Type} {f : γ → Int} {g h : γ → α} {Y : List α} : ∀ (is : List γ), (∀ i ∈ is, 0 ≤ f i → Y[(f i).toNat]? = some (h i)) →
    applyM (is.map f) Y ((is.filter fun i => decide (f i < 0)).map g) = is.map fun i => if f i < 0 then g i else h i
  | [], _ => rfl
  | i :: r, H => by
    have ih := apply_filter (f := f) (g := g) (h := h) (Y := Y) r fun j hj => H j (List.mem_cons_of_mem _ hj)
    by_cases c : f i < 0
    · rw [List.map_cons, List.filter_cons, if_pos (decide_eq_true c), List.map_cons, apply_neg c, ih, List.map_cons, if_pos c]
    · rw [List.map_cons, List.filter_cons, if_neg (by simp [c]), apply_nonneg c (H i List.mem_cons_self (by omega)), ih, List.map_cons, if_neg c]
end
/-- what the undone move makes of what the move has made -/
theorem undo_values {α : Type} {t : Nat} {ps : List Int} (ok : MoveOk t ps) {ds gs : List α} (hd : ds.length = t) (hg : gs.length = gapsM ps) (lost : Int → α) (x : α) :
    applyM (invM t ps) (applyM ps ds gs) (((stillM t).filter fun i => decide (i ∉ ps)).map lost) = (stillM t).map fun i => if i ∈ ps then ds.getD i.toNat x else lost i := by
  have e1 : invM t ps = (stillM t).map (posM ps) := by
    unfold invM stillM
    rw [List.map_map]
    rfl
  have e2 : (stillM t).filter (fun i => decide (i ∉ ps)) = (stillM t).filter (fun i => decide (posM ps i < 0)) := by
    apply List.filter_congr
    intro i _
    rcases posM_cases ps i with ⟨e, n⟩ | ⟨j, e, hj⟩
    · rw [e]; simp [n]
    · rw [e]
      have := List.mem_of_getElem? hj
      simp [this]
  rw [e1, e2, apply_filter (h := fun i => ds.getD i.toNat x)]
  · apply List.map_congr_left
    intro i _
    rcases posM_cases ps i with ⟨e, n⟩ | ⟨j, e, hj⟩
    · rw [e, if_pos (by omega), if_neg n]
    · rw [e, if_neg (by omega), if_pos (List.mem_of_getElem? hj)]
  · intro i hi h0
    obtain ⟨i0, i1⟩ := still_mem.mp hi
    rcases posM_cases ps i with ⟨e, n⟩ | ⟨j, e, hj⟩
    · omega
    · rw [e, Int.toNat_natCast, apply_get ps ds gs (fun p hp => ?_) (by omega), hj]
      · show (if i < 0 then _ else ds[i.toNat]?) = _
        rw [if_neg (by omega)]
        have hl : i.toNat < ds.length := by omega
        rw [List.getElem?_eq_getElem hl]
        simp [List.getD, List.getElem?_eq_getElem hl]
      · have := ok.1 p hp
        by_cases c : p < 0
        · exact .inl c
        · exact .inr (by omega)
end MM

/-! Products of moves, and what is done with one mark in all gaps. -/
namespace MM
theorem prod_assoc {ps qs rs : List Int} (ok : MoveOk qs.length rs) : prodM (prodM ps qs) rs = prodM ps (prodM qs rs) := by
  unfold prodM
  rw [List.map_map]
  apply List.map_congr_left
  intro r hr
  have b := ok.1 r hr
  show (if r < 0 then r else _) = (if (if r < 0 then r else qs.getD r.toNat (-1)) < 0 then (if r < 0 then r else qs.getD r.toNat (-1)) else ps.getD (if r < 0 then r else qs.getD r.toNat (-1)).toNat (-1))
  by_cases c : r < 0
  · rw [if_pos c, if_pos c, if_pos c]
  · have hl : r.toNat < qs.length := by omega
    rw [if_neg c, if_neg c]
    have e : qs.getD r.toNat (-1) = qs[r.toNat] := getD_of (List.getElem?_eq_getElem hl)
    rw [e]
    exact getD_of (by rw [List.getElem?_map, List.getElem?_eq_getElem hl]; rfl)
theorem still_prod {t : Nat} {ps : List Int} (ok : MoveOk t ps) : prodM (stillM t) ps = ps := by
  unfold prodM
  conv => rhs; rw [← List.map_id ps]
  apply List.map_congr_left
  intro p hp
  have b := ok.1 p hp
  by_cases c : p < 0
  · rw [if_pos c]; rfl
  · rw [if_neg c]
    have : (stillM t)[p.toNat]? = some p := by
      rw [stillM_at (by omega)]
      congr 1
      omega
    exact getD_of this
theorem prod_still (ps : List Int) : prodM ps (stillM ps.length) = ps := by
  apply ext_get
  · rw [prodM_length, stillM_length]
  · intro i x y hx hy
    obtain ⟨q, hq, e⟩ := prodM_get' hx
    obtain ⟨hi, e2⟩ := stillM_get hq
    subst e2
    rw [if_neg (by omega), Int.toNat_natCast, getD_of hy] at e
    exact e
section
variable {α β : Type}
def doneM (ps : List Int) (xs : List α) (m : α) : List α := ps.map fun p => if p < 0 then m else xs.getD p.toNat m
theorem doneM_length (ps : List Int) (xs : List α) (m : α) : (doneM ps xs m).length = ps.length := by simp [doneM]
theorem getD_at {xs : List α} {k : Nat} {v m : α} (h : xs[k]? = some v) : xs.getD k m = v := by simp [List.getD, h]
theorem done_map (f : α → β) (ps : List Int) (xs : List α) (m : α) : (doneM ps xs m).map f = doneM ps (xs.map f) (f m) := by
  unfold doneM
  rw [List.map_map]
  apply List.map_congr_left
  intro p _
  show f (if p < 0 then m else xs.getD p.toNat m) = if p < 0 then f m else (xs.map f).getD p.toNat (f m)
  by_cases c : p < 0
  · rw [if_pos c, if_pos c]
  · rw [if_neg c, if_neg c]
    simp [List.getD, List.getElem?_map]
theorem done_apply : ∀ (ps : List Int) (xs : List α) (m : α), (∀ p ∈ ps, p < 0 ∨ p.toNat < xs.length) → applyM ps xs (List.replicate (gapsM ps) m) = doneM ps xs m
  | [], _, _, _ => rfl
  | p :: ps, xs, m, h => by
    have ih := done_apply ps xs m fun q hq => h q (List.mem_cons_of_mem _ hq)
    rw [gaps_cons]
    by_cases c : p < 0
    · rw [if_pos c, show 1 + gapsM ps = gapsM ps + 1 by omega, List.replicate_succ, apply_neg c, ih]
      unfold doneM
      rw [List.map_cons, if_pos c]
    · have hl : p.toNat < xs.length := (h p List.mem_cons_self).resolve_left c
      rw [if_neg c, Nat.zero_add, apply_nonneg c (List.getElem?_eq_getElem hl), ih]
      unfold doneM
      rw [List.map_cons, if_neg c, getD_at (List.getElem?_eq_getElem hl)]
theorem done_prod {ps qs : List Int} (ok : MoveOk ps.length qs) (xs : List α) (m : α) : doneM (prodM ps qs) xs m = doneM qs (doneM ps xs m) m := by
  unfold prodM
  unfold doneM
  rw [List.map_map]
  apply List.map_congr_left
  intro q hq
  have b := ok.1 q hq
  show (if (if q < 0 then q else ps.getD q.toNat (-1)) < 0 then m else xs.getD (if q < 0 then q else ps.getD q.toNat (-1)).toNat m) = if q < 0 then m else _
  by_cases c : q < 0
  · rw [if_pos c, if_pos c, if_pos c]
  · have hl : q.toNat < ps.length := by omega
    rw [if_neg c, if_neg c, getD_of (List.getElem?_eq_getElem hl)]
    exact (getD_at (by rw [List.getElem?_map, List.getElem?_eq_getElem hl]; rfl)).symm
theorem ok_range {t : Nat} {ps : List Int} (ok : MoveOk t ps) : ∀ p ∈ ps, p < 0 ∨ p.toNat < t := fun p hp => by
  have b := ok.1 p hp
  by_cases c : p < 0
  · exact .inl c
  · exact .inr (by omega)
end
end MM

/-! plain mathematics of the sorting move -/
namespace MM
open SB
theorem tot_le (ks : Nat → Int) : PySem.W.TotalLe fun a b : Nat => decide (ks a ≤ ks b) where
  total a b := by
    by_cases h : ks a ≤ ks b
    · exact .inl (decide_eq_true h)
    · exact .inr (decide_eq_true (by omega))
  trans a b c h1 h2 := by
    have h1 := of_decide_eq_true h1
    have h2 := of_decide_eq_true h2
    exact decide_eq_true (by omega)
theorem sort_strict (n : Nat) (ks : Nat → Int) : ((List.range n).mergeSort fun a b => decide (ks a ≤ ks b)).Pairwise fun a b => ks a < ks b ∨ (ks a = ks b ∧ a < b) := by
  have h1 := PySem.W.sort_pairwise (tot_le ks) (List.range n)
  have h2 : ∀ c : Nat, ((List.range n).mergeSort fun a b => decide (ks a ≤ ks b)).Pairwise fun a b => PySem.W.sameRank (fun a b : Nat => decide (ks a ≤ ks b)) c a = true → PySem.W.sameRank (fun a b : Nat => decide (ks a ≤ ks b)) c b = true → a < b := fun c => by
    have e := PySem.W.sort_stable (tot_le ks) (List.range n) c
    have p : ((List.range n).filter (PySem.W.sameRank (fun a b : Nat => decide (ks a ≤ ks b)) c)).Pairwise (· < ·) := List.Pairwise.sublist List.filter_sublist (List.pairwise_lt_range (n := n))
    rw [← e] at p
    exact List.pairwise_filter.mp p
  rw [List.pairwise_iff_getElem] at h1 ⊢
  intro i j hi hj hij
  have a1 := of_decide_eq_true (h1 i j hi hj hij)
  have a2 := (List.pairwise_iff_getElem.mp (h2 (((List.range n).mergeSort fun a b => decide (ks a ≤ ks b))[i]))) i j hi hj hij
  by_cases c : ks ((List.range n).mergeSort fun a b => decide (ks a ≤ ks b))[i] < ks ((List.range n).mergeSort fun a b => decide (ks a ≤ ks b))[j]
  · exact .inl c
  · refine .inr ⟨by omega, a2 ?_ ?_⟩
    · unfold PySem.W.sameRank
      rw [Bool.and_eq_true]
      exact ⟨decide_eq_true (Int.le_refl _), decide_eq_true (Int.le_refl _)⟩
    · unfold PySem.W.sameRank
      rw [Bool.and_eq_true]
      exact ⟨decide_eq_true (by omega), decide_eq_true (by omega)⟩
theorem sortM_perm (n : Nat) (ks : Nat → Int) : (sortM n ks).Perm (stillM n) := (List.mergeSort_perm _ _).map _
theorem sortM_len (n : Nat) (ks : Nat → Int) : (sortM n ks).length = n := by rw [(sortM_perm n ks).length_eq, stillM_length]
theorem sortM_ok (n : Nat) (ks : Nat → Int) : MoveOk n (sortM n ks) := someOf_ok (b := []) (by unfold SomeOf; rw [List.append_nil]; exact sortM_perm n ks)
theorem sortM_pair {n : Nat} {ks : Nat → Int} {i j : Nat} {a b : Int} (hij : i < j) (ha : (sortM n ks)[i]? = some a) (hb : (sortM n ks)[j]? = some b) : ∃ x y : Nat, a = (x : Int) ∧ b = (y : Int) ∧ x < n ∧ y < n ∧ (ks x < ks y ∨ (ks x = ks y ∧ x < y)) := by
  unfold sortM at ha hb
  rw [List.getElem?_map] at ha hb
  have hi : i < ((List.range n).mergeSort fun a b => decide (ks a ≤ ks b)).length := by
    apply Classical.byContradiction
    intro c
    rw [List.getElem?_eq_none (by omega)] at ha
    cases ha
  have hj : j < ((List.range n).mergeSort fun a b => decide (ks a ≤ ks b)).length := by
    apply Classical.byContradiction
    intro c
    rw [List.getElem?_eq_none (by omega)] at hb
    cases hb
  rw [List.getElem?_eq_getElem hi] at ha
  rw [List.getElem?_eq_getElem hj] at hb
  have p := List.pairwise_iff_getElem.mp (sort_strict n ks) i j hi hj hij
  have m1 := List.mem_range.mp ((List.mergeSort_perm (List.range n) (fun a b => decide (ks a ≤ ks b))).mem_iff.mp (List.getElem_mem hi))
  have m2 := List.mem_range.mp ((List.mergeSort_perm (List.range n) (fun a b => decide (ks a ≤ ks b))).mem_iff.mp (List.getElem_mem hj))
  exact ⟨_, _, (Option.some.inj ha).symm, (Option.some.inj hb).symm, m1, m2, p⟩
/-- two rising lists of the same numbers are one -/
theorem rising_one : ∀ {a b : List Int}, a.Perm b → a.Pairwise (· ≤ ·) → b.Pairwise (· ≤ ·) → a = b
  | [], b, h, _, _ => (List.Perm.nil_eq h)
  | x :: a, [], h, _, _ => absurd (List.Perm.eq_nil h) (List.cons_ne_nil _ _)
  | x :: a, y :: b, h, ha, hb => by
    have h1 : x ∈ y :: b := h.mem_iff.mp List.mem_cons_self
    have h2 : y ∈ x :: a := h.mem_iff.mpr List.mem_cons_self
    have e : x = y := by
      rcases List.mem_cons.mp h1 with z | z
      · exact z
      · rcases List.mem_cons.mp h2 with z2 | z2
        · exact z2.symm
        · have a1 := (List.pairwise_cons.mp hb).1 x z
          have a2 := (List.pairwise_cons.mp ha).1 y z2
          omega
    subst e
    rw [rising_one (List.Perm.cons_inv h) (List.pairwise_cons.mp ha).2 (List.pairwise_cons.mp hb).2]
theorem still_rising (n : Nat) : (stillM n).Pairwise (· ≤ ·) := by
  unfold stillM
  rw [List.pairwise_map]
  exact List.Pairwise.imp (fun {a b : Nat} (h : a < b) => by omega) (List.pairwise_lt_range (n := n))
def keyM (d : Bool) (xs : List Int) (i : Nat) : Int := (if d = true then -1 else 1) * xs.getD i 0
/-- the values in their new order -/
theorem apply_sort {xs : List Int} {n : Nat} (hn : xs.length = n) : ∀ {ps : List Int}, (∀ p ∈ ps, 0 ≤ p ∧ p < (n : Int)) → applyM ps xs [] = ps.map fun p => xs.getD p.toNat 0
  | [], _ => rfl
  | p :: ps, h => by
    have hp := h p List.mem_cons_self
    have hl : p.toNat < xs.length := by omega
    rw [apply_nonneg (by omega) (List.getElem?_eq_getElem hl), apply_sort hn fun q hq => h q (List.mem_cons_of_mem _ hq), List.map_cons]
    congr 1
    simp [hl]
theorem still_getD (xs : List Int) : (stillM xs.length).map (fun p => xs.getD p.toNat 0) = xs := by
  unfold stillM
  rw [List.map_map]
  apply List.ext_getElem?
  intro i
  rw [List.getElem?_map]
  by_cases h : i < xs.length
  · rw [List.getElem?_range h, List.getElem?_eq_getElem h]
    simp [h]
  · rw [List.getElem?_eq_none (by rw [List.length_range]; omega), List.getElem?_eq_none (by omega)]
    rfl
theorem sort_apply {xs ys : List Int} (h1 : ys.Perm xs) (h2 : ys.Pairwise (· ≤ ·)) : applyM (sortM xs.length (keyM false xs)) xs [] = ys := by
  have hr : ∀ p ∈ sortM xs.length (keyM false xs), 0 ≤ p ∧ p < (xs.length : Int) := fun p hp => still_mem.mp ((sortM_perm _ _).mem_iff.mp hp)
  rw [apply_sort rfl hr]
  refine rising_one ?_ ?_ h2
  · have := (sortM_perm xs.length (keyM false xs)).map fun p => xs.getD p.toNat 0
    rw [still_getD] at this
    exact this.trans h1.symm
  · rw [List.pairwise_map, List.pairwise_iff_getElem]
    intro i j hi hj hij
    obtain ⟨x, y, e1, e2, hx, hy, c⟩ := sortM_pair hij (List.getElem?_eq_getElem hi) (List.getElem?_eq_getElem hj)
    rw [e1, e2, Int.toNat_natCast, Int.toNat_natCast]
    unfold keyM at c
    simp only [Bool.false_eq_true, if_false, Int.one_mul] at c
    omega
end MM

namespace MV
open PySem PySem.Spec PyProof.Rows L2 SB
local macro_rules | `(tactic| walk_at "rd") => `(tactic| repeat (first | (refine ⟨_, rfl, ?_⟩) | (refine ⟨_, _, rfl, rfl, ?_⟩)))
def top (i : Nat) : Stmt := PySem.Challenge.pw_sidelists_k66_whole_moves_follow_a_list.main.body.getD i (.Pass ⟨0, 0, 0, 0⟩)
abbrev s_bag : Stmt := top 10
abbrev s_take : Stmt := top 11
/-- the built-ins that the text calls -/
structure Blt (mg : Str → Option Value) : Prop where
  n_len : mg "len" = none
  n_abs : mg "abs" = none
  n_int : mg "int" = none
  n_range : mg "range" = none
  n_list : mg "list" = none
  n_tuple : mg "tuple" = none
  n_str : mg "str" = none
  n_max : mg "max" = none
  n_min : mg "min" = none
  n_enumerate : mg "enumerate" = none
  n_isinstance : mg "isinstance" = none
/-- a source of draws that was asked at most n times -/
def BagL (l : List V) (n : Nat) : Prop := ∃ d m c : Int, l = [.int d, .int m, .int c] ∧ 0 ≤ m ∧ m ≤ 12000000000000000000 ∧ 0 ≤ c ∧ c ≤ (n : Int)
theorem BagL.mono {l : List V} {n k : Nat} (h : BagL l n) (hk : n ≤ k) : BagL l k := by
  obtain ⟨d, m, c, e, h1, h2, h3, h4⟩ := h
  exact ⟨d, m, c, e, h1, h2, h3, by omega⟩
def BagAt (H : Hp) (b : Addr) (n : Nat) : Prop := ∃ l, H b = some (.lst l) ∧ BagL l n
def spBag (K : PySem.W.Frag) : Sp := fun vs H Q _ => ∃ (a : Addr) (ns : List Int) (i : Int), vs = [.ref a, .int i] ∧ SqL K H a (ns.map V.int) ∧ 0 ≤ i ∧ i ≤ 100 ∧ ns.length ≤ 1000 ∧
  ∀ (b : Addr) (l : List V), H b = none → BagL l 0 → Q (.ref b) (upd H b (.lst l))
def spTake : Sp := fun vs H Q _ => ∃ (b : Addr) (many : Int) (l : List V) (n : Nat), vs = [.ref b, .int many] ∧ H b = some (.lst l) ∧ BagL l n ∧ n < 1000000 ∧ 0 < many ∧ many < 2 ^ 200 ∧
  ∀ (r : Int) (l' : List V), 0 ≤ r → r < many → BagL l' (n + 1) → Q (.int r) (upd H b (.lst l'))
section
variable {P : Program} {w : World} {K : PySem.W.Frag} {mg : Str → Option Value} {base : Heap}
theorem sc_bag : FnScope ["_law_script", "_law_at", "_law_cell", "_law_digits"] ["_law_script", "_law_at"] (defScope s_bag) := ⟨rfl, rfl, rfl, by decide +kernel, rfl, by decide +kernel, by decide +kernel⟩
theorem ok_bag {f : Addr} {fd : FuncData} (F : Fun K "_law_bag" "_law_bag" s_bag f fd) (T : Blt mg) : FnR P w K mg base CX0 1 f (spBag K) := by
  refine fnr F sc_bag (fun vs H Q E h => ?_) (fun _ _ _ _ _ _ us hl => match us, hl with | [_, _], _ => rfl) (fun cdv A outer s H vs Q E hr h => ?_)
  · obtain ⟨a, ns, i, rfl, _⟩ := h
    rfl
  · obtain ⟨a, ns, i, rfl, hS, h0, h1, hz, k⟩ := h
    refine ⟨_, (C8.pss_cut (ps_set (i := 2) sc_bag.nd rfl (Or.inl rfl) (pe_ifExp (pt_cmpR op_lt (pv 1) (pe_callB call_len_seq (by rfl) T.n_len (by decide +kernel) (pa_cons (pv 0) pa_nil)) (nomark _)) (pe_ix ix_list (pv 0) (pv 1) (fun _ _ => rfl)) pe_int))
      (C8.pss_cut (ps_set (i := 3) sc_bag.nd rfl (Or.inl rfl) (pe_ifExp (pt_cmpR op_ge (pe_callB call_abs (by rfl) T.n_abs (by decide +kernel) (pa_cons (pv 2) pa_nil)) (pe_op op_pow pe_int pe_int) (nomark _)) (pe_callB call_abs (by rfl) T.n_abs (by decide +kernel) (pa_cons (pv 2) pa_nil)) pe_int))
      (pss_one (ps_ret (pe_lst (pa_cons (pv 3) (pa_cons (pe_op op_add (pe_op op_add (pe_op op_mul (pe_op op_mod (pe_callTy call_int1 (by rfl) T.n_int (by decide +kernel) (pa_cons (pv 2) pa_nil)) pe_int) pe_int) (pe_op op_mul pe_int (pv 1))) pe_int) (pa_cons pe_int pa_nil)))))))), ?_⟩
    refine ⟨fun σ' H' => ∃ z : Int, σ' = [some (.ref a), some (.int i), some (.int z), none] ∧ H' = H, ?_, ?_⟩
    · walk_at "rd"
      refine ⟨a, _, rfl, .inl hS, ?_⟩
      walk_at "rd"
      refine ite2 (fun c => ?_) (fun c => ?_)
      · have c' : i < (ns.length : Int) := by simpa using of_decide_eq_true c
        walk_at "rd"
        have hj : i.toNat < ns.length := by omega
        refine ⟨a, _, i, .int ns[i.toNat], rfl, rfl, hS, at_of (j := i.toNat) (by omega) (by rw [List.getElem?_map, List.getElem?_eq_getElem hj]; rfl), ?_⟩
        exact ⟨_, rfl, rfl⟩
      · exact ⟨0, rfl, rfl⟩
    · rintro σ' H' ⟨z, rfl, rfl⟩
      refine ⟨fun σ' H'' => ∃ d : Int, σ' = [some (.ref a), some (.int i), some (.int z), some (.int d)] ∧ H'' = H', ?_, ?_⟩
      · walk_at "rd"
        refine ⟨⟨by decide, by decide, by decide⟩, ?_⟩
        walk_at "rd"
        refine ite2 (fun c => ?_) (fun c => ?_)
        · walk_at "rd"
          rfl
        · exact ⟨0, rfl, rfl⟩
      · rintro σ' H'' ⟨d, rfl, rfl⟩
        walk_at "rd"
        refine .inl ⟨_, rfl, ?_⟩
        walk_at "rd"
        refine ⟨(by show (0 : Int) < 2305843009213693951; decide), ?_⟩
        walk_at "rd"
        refine ⟨.inr ⟨by decide, by decide⟩, ?_⟩
        walk_at "rd"
        refine ⟨.inl ⟨by decide, by decide⟩, ?_⟩
        walk_at "rd"
        have z0 : 0 ≤ z % 2305843009213693951 := Int.emod_nonneg _ (by decide)
        have z1 : z % 2305843009213693951 < 2305843009213693951 := Int.emod_lt_of_pos _ (by decide)
        refine ⟨by show 3 ≤ sizeLine; decide, fun p hp => k p _ hp ⟨_, _, _, rfl, ?_, ?_, ?_, ?_⟩⟩
        all_goals omega
theorem sc_take : FnScope ["_law_bag_here", "_law_many", "_law_digit", "_law_mixed"] ["_law_bag_here", "_law_many"] (defScope s_take) := ⟨rfl, rfl, rfl, by decide +kernel, rfl, by decide +kernel, by decide +kernel⟩
theorem ok_take {f : Addr} {fd : FuncData} (F : Fun K "_law_take" "_law_take" s_take f fd) (T : Blt mg) : FnR P w K mg base CX0 1 f spTake := by
  refine fnr F sc_take (fun vs H Q E h => ?_) (fun _ _ _ _ _ _ us hl => match us, hl with | [_, _], _ => rfl) (fun cdv A outer s H vs Q E hr h => ?_)
  · obtain ⟨a, ns, i, _, rfl, _⟩ := h
    rfl
  · obtain ⟨b, many, l, n, rfl, hb, ⟨d, m, c, rfl, m0, m1, c0, c1⟩, hn, hm0, hm1, k⟩ := h
    refine ⟨_, (pss_cons (ps_if (pt_cmpR op_gt (pe_ix ix_list (pv 0) pe_int (fun _ _ => rfl)) pe_int (nomark _)) (pss_cons (ps_set (i := 2) sc_take.nd rfl (Or.inl rfl) (pe_op op_mod (pe_callTy call_int1 (by rfl) T.n_int (by decide +kernel) (pa_cons (pe_ix ix_list (pv 0) pe_int (fun _ _ => rfl)) pa_nil)) (pv 1)))
        (pss_cons (ps_asg (pe_op op_fdivW (pe_ix ix_list (pv 0) pe_int (fun _ _ => rfl)) (pv 1)) (pg_sub (pv 0) pe_int set_list))
        (pss_one (ps_ret (pv 2))))) pss_nil)
      (pss_cons (ps_asg (pe_op op_add (pe_ix ix_list (pv 0) pe_int (fun _ _ => rfl)) pe_int) (pg_sub (pv 0) pe_int set_list))
      (pss_cons (ps_set (i := 3) sc_take.nd rfl (Or.inl rfl) (pe_op op_mod (pe_callTy call_int1 (by rfl) T.n_int (by decide +kernel) (pa_cons (pe_op op_pow (pe_op op_add (pe_ix ix_list (pv 0) pe_int (fun _ _ => rfl)) (pe_op op_mul pe_int (pe_ix ix_list (pv 0) pe_int (fun _ _ => rfl)))) pe_int) pa_nil)) pe_int))
      (pss_cons (ps_set (i := 3) sc_take.nd rfl (Or.inl rfl) (pe_op op_mod (pe_callTy call_int1 (by rfl) T.n_int (by decide +kernel) (pa_cons (pe_op op_pow (pe_op op_add (pv 3) (pe_op op_mul pe_int (pe_ix ix_list (pv 0) pe_int (fun _ _ => rfl)))) pe_int) pa_nil)) pe_int))
      (pss_one (ps_ret (pe_op op_mod (pe_callTy call_int1 (by rfl) T.n_int (by decide +kernel) (pa_cons (pe_op op_fdiv (pv 3) pe_int) pa_nil)) (pv 1)))))))), ?_⟩
    have hq := SqL.of (K := K) hb
    walk_at "rd"
    refine ⟨b, _, _, _, rfl, rfl, hq, rfl, ?_⟩
    walk_at "rd"
    refine ite2 (fun g => ?_) (fun g => ?_)
    · walk_at "rd"
      refine ⟨b, _, _, _, rfl, rfl, hq, rfl, ?_⟩
      refine .inl ⟨_, rfl, ?_⟩
      walk_at "rd"
      refine ⟨hm0, ?_⟩
      walk_at "rd"
      refine ⟨b, _, _, _, rfl, rfl, hq, rfl, ?_⟩
      walk_at "rd"
      refine ⟨wide_div (b := 200) hm0 (by omega) (by decide) (by decide), ?_⟩
      walk_at "rd"
      refine ⟨b, _, _, 0, rfl, rfl, hb, rfl, ?_⟩
      walk_at "rd"
      exact k _ _ (Int.emod_nonneg _ (by omega)) (Int.emod_lt_of_pos _ hm0) ⟨_, m, c, rfl, m0, m1, c0, by omega⟩
    · walk_at "rd"
      refine ⟨b, _, _, _, rfl, rfl, hq, rfl, ?_⟩
      walk_at "rd"
      refine ⟨b, _, _, 2, rfl, rfl, hb, rfl, ?_⟩
      have hb2 : (upd H b (.lst [.int d, .int m, .int (c + 1)])) b = some (.lst [.int d, .int m, .int (c + 1)]) := upd_same
      have hq2 := SqL.of (K := K) hb2
      walk_at "rd"
      refine ⟨b, _, _, _, rfl, rfl, hq2, rfl, ?_⟩
      walk_at "rd"
      refine ⟨b, _, _, _, rfl, rfl, hq2, rfl, ?_⟩
      walk_at "rd"
      refine ⟨.inl ⟨by decide, by decide⟩, ?_⟩
      walk_at "rd"
      refine ⟨⟨by decide, by decide, by omega⟩, ?_⟩
      refine .inl ⟨_, rfl, ?_⟩
      walk_at "rd"
      refine ⟨(by show (0 : Int) < 2305843009213693921; decide), ?_⟩
      walk_at "rd"
      refine ⟨b, _, _, _, rfl, rfl, hq2, rfl, ?_⟩
      walk_at "rd"
      refine ⟨.inl ⟨by decide, by decide⟩, ?_⟩
      walk_at "rd"
      have y0 := Int.emod_nonneg ((m + 1000081 * (c + 1)) ^ 3) (show (2305843009213693921 : Int) ≠ 0 by decide)
      have y1 := Int.emod_lt_of_pos ((m + 1000081 * (c + 1)) ^ 3) (show (0 : Int) < 2305843009213693921 by decide)
      refine ⟨⟨by decide, by decide, (by show ((m + 1000081 * (c + 1)) ^ 3 % 2305843009213693921 + 15485863 * (c + 1)).natAbs < 2 ^ 64; omega)⟩, ?_⟩
      refine .inl ⟨_, rfl, ?_⟩
      walk_at "rd"
      refine ⟨(by show (0 : Int) < 2305843009213693951; decide), ?_⟩
      walk_at "rd"
      refine ⟨⟨by decide, by decide⟩, ?_⟩
      refine .inl ⟨_, rfl, ?_⟩
      walk_at "rd"
      refine ⟨hm0, ?_⟩
      exact k _ _ (Int.emod_nonneg _ (by omega)) (Int.emod_lt_of_pos _ hm0) ⟨_, m, c + 1, rfl, m0, m1, by omega, by omega⟩
end
end MV

namespace MV
open PySem PySem.Spec PyProof.Rows L2 SB MM
local macro_rules | `(tactic| walk_at "rd") => `(tactic| repeat (first | (refine ⟨_, rfl, ?_⟩) | (refine ⟨_, _, rfl, rfl, ?_⟩) | (refine ⟨_, _, rfl, ?_⟩) | (refine ⟨rfl, ?_⟩)))
abbrev s_m_init : Stmt := inClass (top 8) 1
abbrev s_m_eq : Stmt := inClass (top 8) 6
abbrev s_m_gaps : Stmt := inClass (top 8) 7
abbrev s_m_call : Stmt := inClass (top 8) 8
abbrev s_m_mul : Stmt := inClass (top 8) 9
abbrev s_m_invert : Stmt := inClass (top 8) 10
abbrev s_m_still : Stmt := inClass (top 8) 11
/-- what the top says of Move, at C -/
structure TxtM (K : PySem.W.Frag) (mg : Str → Option Value) (C : Addr) : Prop extends Blt mg where
  cl : Cls K C
  nt : NoAttr K C "takes"
  np : NoAttr K C "places"
  g_Move : mg "Move" = some (.ref C)
  is_Move : C8.InsC K C
  sf_Move : PySem.W.selfFirst K C = true
  nf_Move : PySem.W.notFirst K C (.ref C) = true
/-- the attributes of a move -/
def mfs (t : Nat) (q : Addr) : List (Str × V) := putF "places" (.ref q) (putF "takes" (.int (t : Int)) [])
theorem tp : ¬ (("takes" : Str) = "places") := by decide +kernel
theorem mfs_eq (t : Nat) (q : Addr) : mfs t q = ([("takes", V.int (t : Int)), ("places", V.ref q)] : List (Str × V)) := by
  show (if ("takes" : Str) = "places" then [(("takes" : Str), V.ref q)] else (("takes" : Str), V.int (t : Int)) :: putF "places" (V.ref q) []) = _
  rw [if_neg tp]
  rfl
theorem mfs_takes (t : Nat) (q : Addr) : (mfs t q).lookup ("takes" : Str) = some (.int (t : Int)) := by
  unfold mfs
  rw [lookup_putF, if_neg tp, lookup_putF, if_pos rfl]
theorem mfs_places (t : Nat) (q : Addr) : (mfs t q).lookup ("places" : Str) = some (.ref q) := by
  unfold mfs
  rw [lookup_putF, if_pos rfl]
/-- a move stands at a -/
def MoveAt (K : PySem.W.Frag) (C : Addr) (H : Hp) (a : Addr) (t : Nat) (ps : List Int) : Prop := ∃ dx q, H a = some (.ins C dx (mfs t q)) ∧ SqT K H q (ps.map V.int)
theorem MoveAt.same {K : PySem.W.Frag} {C : Addr} {H H' : Hp} {a : Addr} {t : Nat} {ps : List Int} (m : MoveAt K C H a t ps) (e : Same H H') : MoveAt K C H' a t ps := by
  obtain ⟨dx, q, h1, h2⟩ := m
  exact ⟨dx, q, e _ _ h1, Same.sqT e h2⟩
theorem MoveAt.keep {K : PySem.W.Frag} {C b : Addr} {H H' : Hp} {a : Addr} {t : Nat} {ps : List Int} {l : List V} (m : MoveAt K C H a t ps) (hb : H b = some (.lst l)) (e : KeepB b H H') : MoveAt K C H' a t ps := by
  obtain ⟨dx, q, h1, h2⟩ := m
  exact ⟨dx, q, e _ _ h1 (ne_of h1 hb (by intro z; cases z)), KeepB.sqT e hb h2⟩
/-- a list or a tuple -/
def SqS (K : PySem.W.Frag) (H : Hp) (a : Addr) (xs : List V) : Prop := SqL K H a xs ∨ SqT K H a xs
theorem SqS.same {K : PySem.W.Frag} {H H' : Hp} {a : Addr} {xs : List V} (h : SqS K H a xs) (e : Same H H') : SqS K H' a xs := h.imp (fun h => L2.Same.seq e h) (fun h => Same.sqT e h)
theorem SqS.stay {K : PySem.W.Frag} {H H' : Hp} {a : Addr} {xs : List V} (h : SqS K H a xs) (e : ∀ o, H a = some o → H' a = some o) : SqS K H' a xs := h.imp (fun h => stayL h e) (fun h => stayT h e)
/-! ### the promises -/
def spInit (K : PySem.W.Frag) (C : Addr) : Sp := fun vs H Q _ => ∃ (x dx l : Addr) (t : Nat) (ps : List Int), vs = [.ref x, .int (t : Int), .ref l] ∧ H x = some (.ins C dx []) ∧ SqS K H l (ps.map V.int) ∧ MoveOk t ps ∧ ps.length ≤ 100000 ∧
  ∀ H' q, KeepB x H H' → H' x = some (.ins C dx (mfs t q)) → SqT K H' q (ps.map V.int) → Q .non H'
def spEq (K : PySem.W.Frag) (C : Addr) : Sp := fun vs H Q _ => ∃ (a b : Addr) (t t' : Nat) (ps ps' : List Int), vs = [.ref a, .ref b] ∧ MoveAt K C H a t ps ∧ MoveAt K C H b t' ps' ∧
  Q (.bl (decide (t = t' ∧ ps = ps'))) H
def spGaps (K : PySem.W.Frag) (C : Addr) : Sp := fun vs H Q _ => ∃ (a : Addr) (t : Nat) (ps : List Int), vs = [.ref a] ∧ MoveAt K C H a t ps ∧ ps.length ≤ 100000 ∧
  ∀ H', Same H H' → Q (.int (gapsM ps : Nat)) H'
def spCall (K : PySem.W.Frag) (C : Addr) : Sp := fun vs H Q _ => ∃ (a v n : Addr) (t : Nat) (ps : List Int) (xs ys : List V), vs = [.ref a, .ref v, .ref n] ∧ MoveAt K C H a t ps ∧ MoveOk t ps ∧ ps.length ≤ 100000 ∧
  SqS K H v xs ∧ SqS K H n ys ∧ xs.length = t ∧ ys.length = gapsM ps ∧
  ∀ H' p, Same H H' → H p = none → H' p = some (.lst (applyM ps xs ys)) → Q (.ref p) H'
def spMul (K : PySem.W.Frag) (C : Addr) : Sp := fun vs H Q _ => ∃ (a b : Addr) (t : Nat) (ps qs : List Int), vs = [.ref a, .ref b] ∧ MoveAt K C H a t ps ∧ MoveAt K C H b ps.length qs ∧ MoveOk t ps ∧ MoveOk ps.length qs ∧ qs.length ≤ 100000 ∧
  ∀ H' p, Same H H' → H p = none → MoveAt K C H' p t (prodM ps qs) → Q (.ref p) H'
def spInv (K : PySem.W.Frag) (C : Addr) : Sp := fun vs H Q _ => ∃ (a : Addr) (t : Nat) (ps : List Int), vs = [.ref a] ∧ MoveAt K C H a t ps ∧ MoveOk t ps ∧ ps.length ≤ 100000 ∧ t ≤ 100000 ∧
  ∀ H' p, Same H H' → H p = none → MoveAt K C H' p ps.length (invM t ps) → Q (.ref p) H'
def spStill (K : PySem.W.Frag) (C : Addr) : Sp := fun vs H Q _ => ∃ t : Nat, vs = [.int (t : Int)] ∧ t ≤ 100000 ∧
  ∀ H' p, Same H H' → H p = none → MoveAt K C H' p t (stillM t) → Q (.ref p) H'
theorem mk_move {K : PySem.W.Frag} {C l : Addr} {H : Hp} {t : Nat} {ps : List Int} {Q : VK} {E : XK} (hl : SqS K H l (ps.map V.int)) (ok : MoveOk t ps) (hz : ps.length ≤ 100000)
    (k : ∀ H' a, Same H H' → H a = none → MoveAt K C H' a t ps → Q (.ref a) H') :
    ∀ x dx, H x = none → H dx = none → dx ≠ x → spInit K C [.ref x, .int (t : Int), .ref l] (upd (upd H dx (.own x)) x (.ins C dx [])) (fun v H2 => v = .non ∧ Q (.ref x) H2) E := by
  intro x dx nx nd ne
  have s0 : Same H (upd (upd H dx (.own x)) x (.ins C dx [])) := fun b o e => by
    rw [upd_ne (ne_of_none e nx), upd_ne (ne_of_none e nd)]
    exact e
  refine ⟨x, dx, l, t, ps, rfl, upd_same, hl.same s0, ok, hz, fun H' q kp hx hq => ⟨rfl, ?_⟩⟩
  exact k H' x (fun b o e => kp b o (s0 b o e) (ne_of_none e nx)) nx ⟨dx, q, hx, hq⟩
theorem mk_move2 {K : PySem.W.Frag} {C l x dx : Addr} {H : Hp} {t : Nat} {ps : List Int} {Q : VK} {E : XK} (nx : H x = none) (nd : H dx = none) (hl : SqS K H l (ps.map V.int)) (ok : MoveOk t ps) (hz : ps.length ≤ 100000)
    (k : ∀ H', Same H H' → MoveAt K C H' x t ps → Q .non H') : spInit K C [.ref x, .int (t : Int), .ref l] (upd (upd H dx (.own x)) x (.ins C dx [])) Q E := by
  have s0 : Same H (upd (upd H dx (.own x)) x (.ins C dx [])) := fun b o e => by
    rw [upd_ne (ne_of_none e nx), upd_ne (ne_of_none e nd)]
    exact e
  refine ⟨x, dx, l, t, ps, rfl, upd_same, hl.same s0, ok, hz, fun H' q kp hx hq => ?_⟩
  exact k H' (fun b o e => kp b o (s0 b o e) (ne_of_none e nx)) ⟨dx, q, hx, hq⟩
section
variable {P : Program} {w : World} {K : PySem.W.Frag} {mg : Str → Option Value} {base : Heap} {C : Addr}
theorem sc_m_init : FnScope ["self", "takes", "places", "taken", "at", "place"] ["self", "takes", "places"] (defScope s_m_init) := ⟨rfl, rfl, rfl, by decide +kernel, rfl, by decide +kernel, by decide +kernel⟩
theorem ok_init {f : Addr} {fd : FuncData} (F : Fun K "__init__" "Move.__init__" s_m_init f fd) (T : TxtM K mg C) : FnR P w K mg base CX0 1 f (spInit K C) := by
  refine fnr F sc_m_init (fun vs H Q E h => ?_) (fun _ _ _ _ _ _ us hl => match us, hl with | [_, _, _], _ => rfl) (fun cdv A outer s H vs Q E hr h => ?_)
  · obtain ⟨x, dx, l, t, ps, rfl, _⟩ := h
    rfl
  · obtain ⟨x, dx, l, t, ps, rfl, hx, hl, ok, hz, k⟩ := h
    refine ⟨_, (pss_cons (ps_set (i := 3) sc_m_init.nd rfl (Or.inl rfl) pe_dnewK)
      (pss_cons (ps_for PassesOwn.never rfl (pi_enumS (by rfl) T.n_enumerate (pa_cons (pv 2) pa_nil)) (pg_tup rfl (pgs_cons (pg_name (i := 4) sc_m_init.nd rfl (Or.inl rfl)) (pgs_cons (pg_name (i := 5) sc_m_init.nd rfl (Or.inl rfl)) pgs_nil)))
        (pss_cons (ps_if (PW.pt (pw_or (pt_cmp (pc_din (hu_of hr) (pv 5) (pv 3))) (pw_or1 (pt_not (pt_chain op_le op_lt (pe_un un_neg pe_int) (pv 5) (pv 1)))))) (pss_one ps_never) pss_nil)
        (pss_one (ps_if (pt_cmpR op_ge (pv 5) pe_int (nomark _)) (pss_one (ps_dput (hu_of hr) (pv 3) (pv 5) pe_bl rfl)) pss_nil))))
      (pss_cons (ps_fld (pv 0) (pv 1) rfl)
      (pss_one (ps_fld (pv 0) (pe_callTy call_tuple_of (by rfl) T.n_tuple (by decide +kernel) (pa_cons (pv 2) pa_nil)) rfl))))), ?_⟩
    intro d hd
    have hxd : x ≠ d := ne_of_none hx hd
    have s1 : Same H (upd H d (.dK [])) := same_new (Same.refl H) hd
    have hl1 := hl.same s1
    walk_at "rd"
    refine ⟨l, _, rfl, hl1, fun J G w hG => ?_⟩
    refine for_it w (fun i σ H' => ∃ (v4 v5 : Option V) (kvs : List (Key × V)), σ = [some (.ref x), some (.int (t : Int)), some (.ref l), some (.ref d), v4, v5] ∧ KeepB d (upd H d (.dK [])) H' ∧ H' d = some (.dK kvs) ∧ kvs.length ≤ i ∧
      ∀ p : Int, (valV kvs (Sum.inl p)).isSome = true → 0 ≤ p ∧ p ∈ ps.take i) ?_ ?_ ?_ ?_
    · exact ⟨none, none, [], rfl, KeepB.refl _ _, upd_same, Nat.le_refl _, fun p hp => by simp [valV_nil] at hp⟩
    · rintro i σ H' _ ⟨_, _, kvs, _, kp, hd', _⟩
      exact hG H' (fun e => kp.sqL' upd_same (noSeq_dK _) e) (fun e => kp.sqT' upd_same (noSeq_dK _) e)
    · rintro i x' σ H' H'' hi ⟨v4, v5, kvs, rfl, kp, hd', hlen, hv⟩ ⟨T', x0, y0, rfl, hT, rfl, e0, ey⟩
      cases e0
      have hi' : i < ps.length := by simpa using hi
      have epi : ps[i]? = some ps[i] := List.getElem?_eq_getElem hi'
      have ey' : y0 = .int ps[i] := by
        have q : (ps.map V.int)[i]? = some y0 := ey
        rw [List.getElem?_map, epi] at q
        exact (Option.some.inj q).symm
      subst ey'
      have bd := ok.at epi
      have ndT : d ≠ T' := ne_of_none hd' hT
      have hd2 : (upd H' T' (.tup [.int (i : Nat), .int ps[i]])) d = some (.dK kvs) := by rw [upd_ne ndT]; exact hd'
      have kp2 := kp.new (o := .tup [.int (i : Nat), .int ps[i]]) hT
      have tk : ps.take (i + 1) = ps.take i ++ [ps[i]] := by rw [List.take_append_getElem hi']
      have nin : 0 ≤ ps[i] → valV kvs (Sum.inl ps[i]) = none := fun h0 => by
        cases c : valV kvs (Sum.inl ps[i]) with
        | none => rfl
        | some v =>
          obtain ⟨_, hm⟩ := hv ps[i] (by rw [c]; rfl)
          obtain ⟨j, hj⟩ := List.mem_iff_getElem?.mp hm
          have hj2 : j < i ∧ ps[j]? = some ps[i] := by
            have hl := (List.getElem?_eq_some_iff.mp hj).1
            rw [List.length_take] at hl
            rw [List.getElem?_take] at hj
            have : j < i := by omega
            rw [if_pos this] at hj
            exact ⟨this, hj⟩
          have := ok.inj hj2.2 epi h0
          omega
      have nin2 : (valV kvs (Sum.inl ps[i])).isSome = false := by
        by_cases h0 : 0 ≤ ps[i]
        · rw [nin h0]; rfl
        · cases c : valV kvs (Sum.inl ps[i]) with
          | none => rfl
          | some v =>
            have := (hv ps[i] (by rw [c]; rfl)).1
            omega
      refine ⟨T', _, rfl, SqT.of upd_same, rfl, ?_⟩
      walk_at "rd"
      refine ⟨d, _, rfl, DGet.k (k := Sum.inl ps[i]) hd2, _, rfl, ?_⟩
      rw [nin2]
      refine iteF ?_
      walk_at "rd"
      refine ifY (by omega) ?_
      walk_at "rd"
      refine iteNS (by omega) ?_
      -- if place >= 0: taken[place] = True
      walk_at "rd"
      refine ite2 (fun c => ?_) (fun c => ?_)
      · have h0 : 0 ≤ ps[i] := of_decide_eq_true c
        walk_at "rd"
        refine ⟨d, _, rfl, DPut.k (k := Sum.inl ps[i]) hd2 (Nat.lt_of_le_of_lt hlen (Nat.lt_of_le_of_lt (by omega) (by decide : 100000 < sizeLine))), ?_⟩
        refine ⟨_, _, _, rfl, kp2.upd, upd_same, ?_, ?_⟩
        · have := length_putK kvs (Sum.inl ps[i]) (V.bl true)
          omega
        · intro p hp
          rw [valV_put] at hp
          rw [tk]
          by_cases e : (Sum.inl p : Key) = Sum.inl ps[i]
          · have e' : p = ps[i] := Sum.inl.inj e
            subst e'
            exact ⟨h0, List.mem_append_right _ (List.mem_singleton_self _)⟩
          · rw [if_neg e] at hp
            obtain ⟨a1, a2⟩ := hv p hp
            exact ⟨a1, List.mem_append_left _ a2⟩
      · refine ⟨_, _, kvs, rfl, kp2, hd2, by omega, fun p hp => ?_⟩
        obtain ⟨a1, a2⟩ := hv p hp
        exact ⟨a1, by rw [tk]; exact List.mem_append_left _ a2⟩
    · rintro σ H' ⟨v4, v5, kvs, rfl, kp, hd', hlen, hv⟩
      have hx1 : (upd H d (.dK [])) x = some (.ins C dx []) := by rw [upd_ne hxd]; exact hx
      have hx' : H' x = some (.ins C dx []) := kp x _ hx1 hxd
      have hl' : SqS K H' l (ps.map V.int) := hl1.imp (fun e => kp.sqL' upd_same (noSeq_dK _) e) (fun e => kp.sqT' upd_same (noSeq_dK _) e)
      walk_at "rd"
      refine ⟨x, C, dx, [], rfl, hx', T.cl, T.nt, (by show 0 < 1000; decide), ?_⟩
      have kx : KeepB x H' (upd H' x (.ins C dx (putF "takes" (.int (t : Int)) []))) := KeepB.upd (KeepB.refl _ _)
      have hl2 : SqS K (upd H' x (.ins C dx (putF "takes" (.int (t : Int)) []))) l (ps.map V.int) := hl'.imp (fun e => kx.sqL' hx' (noSeq_ins _ _ _) e) (fun e => kx.sqT' hx' (noSeq_ins _ _ _) e)
      have kH : KeepB x H H' := fun b o e hb => kp b o (s1 b o e) (ne_of_none e hd)
      walk_at "rd"
      refine ⟨l, ps.map V.int, rfl, ?_⟩
      rcases hl2 with hl2 | hl2
      · refine .inl ⟨hl2, fun q hq => ?_⟩
        have nxq : x ≠ q := ne_of_none upd_same hq
        walk_at "rd"
        refine ⟨x, C, dx, _, rfl, by rw [upd_ne nxq]; exact upd_same, T.cl, T.np, (by show 1 < 1000; decide), ?_⟩
        refine k _ q ?_ upd_same ?_
        · exact ((kH.trans kx).new hq).upd
        · exact SqT.of (by rw [upd_ne (Ne.symm nxq)]; exact upd_same)
      · refine .inr ⟨hl2, ?_⟩
        walk_at "rd"
        refine ⟨x, C, dx, _, rfl, upd_same, T.cl, T.np, (by show 1 < 1000; decide), ?_⟩
        have kx2 : KeepB x (upd H' x (.ins C dx (putF "takes" (.int (t : Int)) []))) (upd (upd H' x (.ins C dx (putF "takes" (.int (t : Int)) []))) x (.ins C dx (mfs t l))) := KeepB.upd (KeepB.refl _ _)
        refine k _ l ?_ upd_same ?_
        · exact (kH.trans kx).trans kx2
        · exact kx2.sqT' upd_same (noSeq_ins _ _ _) hl2
end
end MV

namespace MV
open PySem PySem.Spec PyProof.Rows L2 SB MM
local macro_rules | `(tactic| walk_at "rd") => `(tactic| repeat (first | (refine ⟨_, rfl, ?_⟩) | (refine ⟨_, _, rfl, rfl, ?_⟩) | (refine ⟨_, _, rfl, ?_⟩) | (refine ⟨rfl, ?_⟩)))
section
variable {P : Program} {w : World} {K : PySem.W.Frag} {mg : Str → Option Value} {base : Heap} {C : Addr}
theorem sc_m_eq : FnScope ["self", "other"] ["self", "other"] (defScope s_m_eq) := ⟨rfl, rfl, rfl, by decide +kernel, rfl, by decide +kernel, by decide +kernel⟩
theorem ok_eq {f : Addr} {fd : FuncData} (F : Fun K "__eq__" "Move.__eq__" s_m_eq f fd) (T : TxtM K mg C) : FnR P w K mg base CX0 1 f (spEq K C) := by
  refine fnr F sc_m_eq (fun vs H Q E h => ?_) (fun _ _ _ _ _ _ us hl => match us, hl with | [_, _], _ => rfl) (fun cdv A outer s H vs Q E hr h => ?_)
  · obtain ⟨a, b, t, t', ps, ps', rfl, _⟩ := h
    rfl
  · obtain ⟨a, b, t, t', ps, ps', rfl, ⟨dx, q, ha, hq⟩, ⟨dx', q', hb, hq'⟩, k⟩ := h
    refine ⟨_, (pss_one (ps_ret (pe_and (pe_callB (C8.call_isC T.is_Move) (by rfl) T.n_isinstance (by decide +kernel) (pa_cons (pv 1) (pa_cons (pe_glob (v := .ref C) (by rfl) T.g_Move rfl) pa_nil))) (pe_and (pe_cmpR op_eq (pe_fld (pv 0) (by rfl)) (pe_fld (pv 1) (by rfl)) (nomark _)) (pe_one (pe_cmpR (op_eqD hr.units) (pe_fld (pv 0) (by rfl)) (pe_fld (pv 1) (by rfl)) (nomark _))))))), ?_⟩
    walk_at "rd"
    refine ⟨b, dx', _, rfl, hb, ?_⟩
    walk_at "rd"
    refine ⟨a, C, dx, _, _, rfl, ha, T.cl, T.nt, mfs_takes _ _, ?_⟩
    walk_at "rd"
    refine ⟨b, C, dx', _, _, rfl, hb, T.cl, T.nt, mfs_takes _ _, ?_⟩
    walk_at "rd"
    refine ite2 (fun c => ?_) (fun c => ?_)
    · have et : t = t' := by
        have := V.int.inj (of_decide_eq_true c)
        omega
      subst et
      walk_at "rd"
      refine ⟨a, C, dx, _, _, rfl, ha, T.cl, T.np, mfs_places _ _, ?_⟩
      walk_at "rd"
      refine ⟨b, C, dx', _, _, rfl, hb, T.cl, T.np, mfs_places _ _, ?_⟩
      refine ⟨_, _, dp_intsT hq, dp_intsT hq', shaped_tuple (sh_ints _), shaped_tuple (sh_ints _), ?_⟩
      rw [eqv_tuple, eqvAll_ints]
      have e : decide (ps = ps') = decide (t = t ∧ ps = ps') := by simp
      rw [e]
      exact k
    · have e : decide (t = t' ∧ ps = ps') = false := decide_eq_false fun z => c (decide_eq_true (by rw [z.1]))
      rw [e] at k
      exact k
end
end MV

namespace MV
open PySem PySem.Spec PyProof.Rows L2 SB MM
local macro_rules | `(tactic| walk_at "rd") => `(tactic| repeat (first | (refine ⟨_, rfl, ?_⟩) | (refine ⟨_, _, rfl, rfl, ?_⟩) | (refine ⟨_, _, rfl, ?_⟩) | (refine ⟨rfl, ?_⟩)))
section
variable {P : Program} {w : World} {K : PySem.W.Frag} {mg : Str → Option Value} {base : Heap} {C : Addr}
theorem sc_m_gaps : FnScope ["self", "place"] ["self"] (defScope s_m_gaps) := ⟨rfl, rfl, rfl, by decide +kernel, rfl, by decide +kernel, by decide +kernel⟩
theorem okf_gaps {f : Addr} {fd : FuncData} (F : Fun K "gaps" "Move.gaps" s_m_gaps f fd) (T : TxtM K mg C) : FnOk P w K mg base CX0 1 f fd ["self"] (spGaps K C) := by
  refine F.ok sc_m_gaps (fun vs H Q E h => ?_) (fun cdv A outer s H vs Q E hr h => ?_)
  · obtain ⟨a, t, ps, rfl, _⟩ := h
    rfl
  · obtain ⟨a, t, ps, rfl, ⟨dx, q, ha, hq⟩, hz, k⟩ := h
    refine ⟨_, (pss_one (ps_ret (pe_callB call_len_seq (by rfl) T.n_len (by decide +kernel) (pa_cons (pe_lc (own := [("place", 1)]) (by rfl) sc_m_gaps.nd (pi_tup (pe_fld (pv 0) (by rfl))) (blkOk_by (own := [("place", 1)]) (N := ["self", "place"]) (sc := defScope s_m_gaps) (by decide +kernel)) (fun _ _ _ _ _ => (pg_name (i := 1) sc_m_gaps.nd rfl (Or.inl rfl))) (fun _ _ _ _ _ => by exact (pts_one (pt_cmpR op_lt (pv 1) pe_int (nomark _)))) (fun _ _ _ _ _ => by exact (pv 1))) pa_nil)))), ?_⟩
    walk_at "rd"
    refine ⟨a, C, dx, _, _, rfl, ha, T.cl, T.np, mfs_places _ _, ?_⟩
    refine ⟨q, rfl, ⟨_, hq⟩, fun D hD => ?_⟩
    have s1 : Same H (upd H D (.lst [])) := same_new (Same.refl H) hD
    refine lc_it (walk_tup (xs := ps.map V.int)) (fun i H' => KeepB D (upd H D (.lst [])) H' ∧ H' D = some (.lst (((ps.take i).filter fun p => decide (p < 0)).map V.int))) ⟨KeepB.refl _ _, upd_same⟩ ?_ ?_ ?_
    · rintro i H' _ ⟨kp, _⟩
      exact kp.sqT upd_same (Same.sqT s1 hq)
    · rintro i x H0 H' hi ⟨kp, hD'⟩ ⟨rfl, hx⟩
      have hi' : i < ps.length := by simpa using hi
      have epi : ps[i]? = some ps[i] := List.getElem?_eq_getElem hi'
      have ex : x = .int ps[i] := by
        rw [List.getElem?_map, epi] at hx
        exact (Option.some.inj hx).symm
      subst ex
      have tk : ps.take (i + 1) = ps.take i ++ [ps[i]] := by rw [List.take_append_getElem hi']
      walk_at "rd"
      refine ite2 (fun c => ?_) (fun c => ?_)
      · have h0 : ps[i] < 0 := of_decide_eq_true c
        walk_at "rd"
        refine ⟨_, hD', ?_, kp.upd, ?_⟩
        · rw [List.length_map]
          have := List.length_filter_le (fun p : Int => decide (p < 0)) (ps.take i)
          rw [List.length_take] at this
          exact Nat.lt_of_le_of_lt (show _ ≤ 100000 by omega) (by decide)
        · rw [upd_same, tk, List.filter_append, List.map_append]
          simp [h0]
      · have h0 : ¬ ps[i] < 0 := fun z => c (decide_eq_true z)
        refine ⟨kp, ?_⟩
        rw [hD', tk, List.filter_append]
        simp [h0]
    · rintro H' ⟨kp, hD'⟩
      rw [List.length_map, List.take_length] at hD'
      refine ⟨D, _, rfl, .inl (SqL.of hD'), ?_⟩
      rw [List.length_map]
      exact k H' fun b o e => kp b o (s1 b o e) (ne_of_none e hD)
end
end MV

namespace MV
open PySem PySem.Spec PyProof.Rows L2 SB MM
local macro_rules | `(tactic| walk_at "rd") => `(tactic| repeat (first | (refine ⟨_, rfl, ?_⟩) | (refine ⟨_, _, rfl, rfl, ?_⟩) | (refine ⟨_, _, rfl, ?_⟩) | (refine ⟨rfl, ?_⟩)))
section
variable {P : Program} {w : World} {K : PySem.W.Frag} {mg : Str → Option Value} {base : Heap} {C : Addr}
theorem sc_m_call : FnScope ["self", "values", "new", "result", "used", "place"] ["self", "values", "new"] (defScope s_m_call) := ⟨rfl, rfl, rfl, by decide +kernel, rfl, by decide +kernel, by decide +kernel⟩
theorem ok_call {f e0 : Addr} {fd : FuncData} (F : FunD K "__call__" "Move.__call__" (defArgs s_m_call) (defBody s_m_call) (defScope s_m_call) [.ref e0] [] f fd) (T : TxtM K mg C) (PRgaps : Pr P w K mg base CX0 1 C "gaps" (spGaps K C)) : FnOk P w K mg base CX0 3 f fd ["self", "values", "new"] (spCall K C) := by
  refine fnrD F sc_m_call (fun vs H Q E h => ?_) (fun cdv A outer s H vs Q E hr h => ?_)
  · obtain ⟨a, v, n, t, ps, xs, ys, rfl, _⟩ := h
    rfl
  · obtain ⟨a, v, n, t, ps, xs, ys, rfl, ⟨dx, q, ha, hq⟩, ok, hz, hv, hn, ex, ey, k⟩ := h
    refine ⟨_, (pss_cons (ps_if (pt_cmpR op_ne (pe_callB call_len_seq (by rfl) T.n_len (by decide +kernel) (pa_cons (pv 1) pa_nil)) (pe_fld (pv 0) (by rfl)) (nomark _)) (pss_one ps_never) pss_nil)
      (pss_cons (ps_if (pt_cmpR op_ne (pe_callB call_len_seq (by rfl) T.n_len (by decide +kernel) (pa_cons (pv 2) pa_nil)) (pe_pr PRgaps hr (by decide) pass0 (pv 0)) (nomark _)) (pss_one ps_never) pss_nil)
      (pss_cons (ps_par (i := 3) (j := 4) (by rfl) sc_m_call.nd rfl rfl (by decide) rfl rfl (pa_cons (pe_lst pa_nil) (pa_cons pe_int pa_nil)) (by rfl))
      (pss_cons (ps_for PassesOwn.never rfl (pi_tup (pe_fld (pv 0) (by rfl))) (pg_name (i := 5) sc_m_call.nd rfl (Or.inl rfl))
        (pss_one (ps_if (pt_cmpR op_lt (pv 5) pe_int (nomark _)) (pss_cons (ps_expr (pe_bm PySem.F.plainAttrs_list PySem.F.slot_list_append PySem.F.type_list_append mt_append (pv 3) (pa_cons (pe_ix ix_seq (pv 2) (pv 4) (fun _ _ => rfl)) pa_nil)))
          (pss_one (ps_aug (i := 4) sc_m_call.nd rfl (Or.inl rfl) pe_int ip_add))) (pss_one (ps_expr (pe_bm PySem.F.plainAttrs_list PySem.F.slot_list_append PySem.F.type_list_append mt_append (pv 3) (pa_cons (pe_ix ix_seq (pv 1) (pv 5) (fun _ _ => rfl)) pa_nil)))))))
      (pss_one (ps_ret (pv 3))))))), ?_⟩
    walk_at "rd"
    refine ⟨v, xs, rfl, hv, ?_⟩
    walk_at "rd"
    refine ⟨a, C, dx, _, _, rfl, ha, T.cl, T.nt, mfs_takes _ _, ?_⟩
    walk_at "rd"
    refine iteNS (by rw [ex]) ?_
    walk_at "rd"
    refine ⟨n, ys, rfl, hn, ?_⟩
    walk_at "rd"
    refine ⟨a, dx, _, rfl, ha, a, t, ps, rfl, ⟨dx, q, ha, hq⟩, hz, fun H1 s1 => ?_⟩
    walk_at "rd"
    refine iteNS (by rw [ey]) ?_
    have ha1 := s1 _ _ ha
    refine ⟨(by show 0 ≤ sizeLine; decide), fun r hr' => ?_⟩
    have s2 : Same H (upd H1 r (.lst [])) := same_new s1 hr'
    have s12 : Same H1 (upd H1 r (.lst [])) := same_new (Same.refl _) hr'
    walk_at "rd"
    refine ⟨a, C, dx, _, _, rfl, s12 _ _ ha1, T.cl, T.np, mfs_places _ _, ?_⟩
    refine ⟨q, rfl, ⟨_, Same.sqT s2 hq⟩, ?_⟩
    have nr : H r = none := s1.free hr'
    have hvr : v ≠ r ∨ True := .inr trivial
    refine for_it (walk_tup (xs := ps.map V.int)) (fun i σ H' => ∃ (v5 : Option V) (acc : List V) (used : Nat), σ = [some (.ref a), some (.ref v), some (.ref n), some (.ref r), some (.int (used : Int)), v5] ∧ KeepB r (upd H1 r (.lst [])) H' ∧ H' r = some (.lst acc) ∧
      used = gapsM (ps.take i) ∧ acc ++ applyM (ps.drop i) xs (ys.drop used) = applyM ps xs ys ∧ acc.length ≤ i) ?_ ?_ ?_ ?_
    · exact ⟨none, [], 0, rfl, KeepB.refl _ _, upd_same, by simp [gapsM], by simp, Nat.le_refl _⟩
    · rintro i σ H' _ ⟨_, _, _, _, kp, _⟩
      exact kp.sqT upd_same (Same.sqT s2 hq)
    · rintro i x' σ H0 H' hi ⟨v5, acc, used, rfl, kp, hr2, eu, eacc, hlen⟩ ⟨rfl, hx⟩
      have hi' : i < ps.length := by simpa using hi
      have epi : ps[i]? = some ps[i] := List.getElem?_eq_getElem hi'
      have ex' : x' = .int ps[i] := by
        rw [List.getElem?_map, epi] at hx
        exact (Option.some.inj hx).symm
      subst ex'
      have tk : ps.take (i + 1) = ps.take i ++ [ps[i]] := by rw [List.take_append_getElem hi']
      have dr : ps.drop i = ps[i] :: ps.drop (i + 1) := List.drop_eq_getElem_cons hi'
      have bd := ok.at epi
      have sH : Same H H' := fun b o e => kp b o (s2 b o e) (ne_of_none e nr)
      have hlen2 : acc.length < sizeLine := Nat.lt_of_le_of_lt (show _ ≤ 100000 by omega) (by decide)
      have hg : gapsM ps = gapsM (ps.take i) + gapsM (ps.drop i) := by
        have e := List.take_append_drop i ps
        conv => lhs; rw [← e]
        unfold gapsM
        rw [List.filter_append, List.length_append]
      rw [dr, gaps_cons] at hg
      walk_at "rd"
      refine ite2 (fun c => ?_) (fun c => ?_)
      · have h0 : ps[i] < 0 := of_decide_eq_true c
        rw [if_pos h0] at hg
        have hu : used < ys.length := by omega
        walk_at "rd"
        refine ⟨.inl ⟨rfl, _, SqL.of hr2⟩, ?_⟩
        walk_at "rd"
        refine rix_S (hn.same sH) (at_of (j := used) rfl (List.getElem?_eq_getElem hu)) ?_
        refine ⟨r, _, _, rfl, rfl, hr2, hlen2, ?_⟩
        walk_at "rd"
        refine ⟨_, _, used + 1, rfl, kp.upd, upd_same, ?_, ?_, ?_⟩
        · rw [tk, gaps_snoc, if_pos h0, eu]
        · rw [← eacc, dr, List.drop_eq_getElem_cons hu, apply_neg h0, List.append_assoc]
          rfl
        · rw [List.length_append]
          show acc.length + 1 ≤ i + 1
          omega
      · have h0 : ¬ ps[i] < 0 := fun z => c (decide_eq_true z)
        have hl : ps[i].toNat < xs.length := by omega
        walk_at "rd"
        refine ⟨.inl ⟨rfl, _, SqL.of hr2⟩, ?_⟩
        walk_at "rd"
        refine rix_S (hv.same sH) (at_of (j := ps[i].toNat) (by omega) (List.getElem?_eq_getElem hl)) ?_
        refine ⟨r, _, _, rfl, rfl, hr2, hlen2, ?_⟩
        refine ⟨_, _, used, rfl, kp.upd, upd_same, ?_, ?_, ?_⟩
        · rw [tk, gaps_snoc, if_neg h0, eu]
          rfl
        · rw [← eacc, dr, apply_nonneg h0 (List.getElem?_eq_getElem hl), List.append_assoc]
          rfl
        · rw [List.length_append]
          show acc.length + 1 ≤ i + 1
          omega
    · rintro σ H' ⟨v5, acc, used, rfl, kp, hr2, eu, eacc, hlen⟩
      have e0 : ps.drop (ps.map V.int).length = [] := by simp
      rw [e0] at eacc
      have e1 : acc = applyM ps xs ys := by
        have : acc ++ [] = applyM ps xs ys := eacc
        rwa [List.append_nil] at this
      subst e1
      walk_at "rd"
      exact k H' r (fun b o e => kp b o (s2 b o e) (ne_of_none e nr)) nr hr2
theorem call_binds {f e0 : Addr} {fd : FuncData} (F : FunD K "__call__" "Move.__call__" (defArgs s_m_call) (defBody s_m_call) (defScope s_m_call) [.ref e0] [] f fd) : Binds K fd ["self", "values", "new"] [] := by
  obtain ⟨ds, v, b⟩ := F.binds1 (ps := ["self", "values", "new"]) 3 1 (List.cons_ne_nil _ _) rfl fun _ _ _ _ _ _ _ us its hu hi => match us, its, hu, hi with | [_, _, _], [_], _, _ => ⟨_, rfl, rfl⟩
  cases v
  exact b
end
end MV

namespace MV
open PySem PySem.Spec PyProof.Rows L2 SB MM
local macro_rules | `(tactic| walk_at "rd") => `(tactic| repeat (first | (refine ⟨_, rfl, ?_⟩) | (refine ⟨_, _, rfl, rfl, ?_⟩) | (refine ⟨_, _, rfl, ?_⟩) | (refine ⟨rfl, ?_⟩)))
section
variable {P : Program} {w : World} {K : PySem.W.Frag} {mg : Str → Option Value} {base : Heap} {C : Addr}
theorem sc_m_mul : FnScope ["self", "other", "place"] ["self", "other"] (defScope s_m_mul) := ⟨rfl, rfl, rfl, by decide +kernel, rfl, by decide +kernel, by decide +kernel⟩
theorem ok_mul {f : Addr} {fd : FuncData} (F : Fun K "__mul__" "Move.__mul__" s_m_mul f fd) (T : TxtM K mg C) (MMove : Ml P w K mg base CX0 1 "Move" C (spInit K C)) : FnR P w K mg base CX0 3 f (spMul K C) := by
  refine fnr F sc_m_mul (fun vs H Q E h => ?_) (fun _ _ _ _ _ _ us hl => match us, hl with | [_, _], _ => rfl) (fun cdv A outer s H vs Q E hr h => ?_)
  · obtain ⟨a, b, t, ps, qs, rfl, _⟩ := h
    rfl
  · obtain ⟨a, b, t, ps, qs, rfl, ⟨dx, q, ha, hq⟩, ⟨dx', q', hb, hq'⟩, o1, o2, hz, k⟩ := h
    refine ⟨_, (pss_cons (ps_if (pt_cmpR op_ne (pe_callB call_len_seq (by rfl) T.n_len (by decide +kernel) (pa_cons (pe_fld (pv 0) (by rfl)) pa_nil)) (pe_fld (pv 1) (by rfl)) (nomark _)) (pss_one ps_never) pss_nil)
      (pss_one (ps_ret (pe_ml MMove hr (by decide) (by rfl) pass0 (pa_cons (pe_fld (pv 0) (by rfl)) (pa_cons (pe_lc (own := [("place", 2)]) (by rfl) sc_m_mul.nd (pi_tup (pe_fld (pv 1) (by rfl))) (blkOk_by (own := [("place", 2)]) (N := ["self", "other", "place"]) (sc := defScope s_m_mul) (by decide +kernel)) (fun _ _ _ _ _ => (pg_name (i := 2) sc_m_mul.nd rfl (Or.inl rfl))) (fun _ _ _ _ _ => by exact pts_nil) (fun _ _ _ _ _ => by exact (pe_ifExp (pt_cmpR op_lt (pv 2) pe_int (nomark _)) (pv 2) (pe_ix (ix_tupK (K := K) (by rfl)) (by exact (pe_fldK (K := K) (by rfl) (pv 0) (by rfl))) (pv 2) (fun _ _ => rfl))))) pa_nil)))))), ?_⟩
    walk_at "rd"
    refine ⟨a, C, dx, _, _, rfl, ha, T.cl, T.np, mfs_places _ _, ?_⟩
    refine ⟨q, _, rfl, .inr hq, ?_⟩
    walk_at "rd"
    refine ⟨b, C, dx', _, _, rfl, hb, T.cl, T.nt, mfs_takes _ _, ?_⟩
    rw [List.length_map]
    walk_at "rd"
    refine iteNS rfl ?_
    walk_at "rd"
    refine ⟨a, C, dx, _, _, rfl, ha, T.cl, T.nt, mfs_takes _ _, ?_⟩
    walk_at "rd"
    refine ⟨b, C, dx', _, _, rfl, hb, T.cl, T.np, mfs_places _ _, ?_⟩
    refine ⟨q', rfl, ⟨_, hq'⟩, fun D hD => ?_⟩
    have s1 : Same H (upd H D (.lst [])) := same_new (Same.refl H) hD
    refine lc_it (walk_tup (xs := qs.map V.int)) (fun i H' => KeepB D (upd H D (.lst [])) H' ∧ H' D = some (.lst ((prodM ps (qs.take i)).map V.int))) ⟨KeepB.refl _ _, upd_same⟩ ?_ ?_ ?_
    · rintro i H' _ ⟨kp, _⟩
      exact kp.sqT upd_same (Same.sqT s1 hq')
    · rintro i x H0 H' hi ⟨kp, hD'⟩ ⟨rfl, hx⟩
      have hi' : i < qs.length := by simpa using hi
      have epi : qs[i]? = some qs[i] := List.getElem?_eq_getElem hi'
      have ex : x = .int qs[i] := by
        rw [List.getElem?_map, epi] at hx
        exact (Option.some.inj hx).symm
      subst ex
      have tk : qs.take (i + 1) = qs.take i ++ [qs[i]] := by rw [List.take_append_getElem hi']
      have hlen : ((prodM ps (qs.take i)).map V.int).length < sizeLine := by
        rw [List.length_map, prodM_length, List.length_take]
        exact Nat.lt_of_le_of_lt (show _ ≤ 100000 by omega) (by decide)
      have fin : ∀ v : Int, v = (if qs[i] < 0 then qs[i] else ps.getD qs[i].toNat (-1)) → (upd H' D (.lst ((prodM ps (qs.take i)).map V.int ++ [.int v]))) D = some (.lst ((prodM ps (qs.take (i + 1))).map V.int)) := by
        intro v hv
        rw [upd_same, tk, hv]
        unfold prodM
        rw [List.map_append, List.map_append]
        rfl
      have b2 := o2.at epi
      walk_at "rd"
      refine ite2 (fun c => ?_) (fun c => ?_)
      · have h0 : qs[i] < 0 := of_decide_eq_true c
        walk_at "rd"
        exact ⟨_, hD', hlen, kp.upd, fin _ (by rw [if_pos h0])⟩
      · have h0 : ¬ qs[i] < 0 := fun z => c (decide_eq_true z)
        have hl : qs[i].toNat < ps.length := by omega
        have ha' : H' a = some (.ins C dx (mfs t q)) := kp a _ (s1 _ _ ha) (ne_of_none ha hD)
        have hqq : SqT K H' q (ps.map V.int) := kp.sqT upd_same (Same.sqT s1 hq)
        walk_at "rd"
        refine ⟨a, C, dx, _, _, rfl, ha', T.cl, T.np, mfs_places _ _, ?_⟩
        walk_at "rd"
        refine ⟨q, _, qs[i], .int ps[qs[i].toNat], rfl, rfl, hqq, at_of (j := qs[i].toNat) (by omega) (by rw [List.getElem?_map, List.getElem?_eq_getElem hl]; rfl), ?_⟩
        exact ⟨_, hD', hlen, kp.upd, fin _ (by rw [if_neg h0, getD_of (List.getElem?_eq_getElem hl)])⟩
    · rintro H' ⟨kp, hD'⟩
      rw [List.length_map, List.take_length] at hD'
      have s2 : Same H H' := fun b o e => kp b o (s1 b o e) (ne_of_none e hD)
      refine mk_move (.inl (SqL.of hD')) (prod_ok o1 o2) (by rw [prodM_length]; exact hz) fun H2 p e2 hp m => k H2 p (s2.trans e2) (s2.free hp) m
end
end MV

namespace MV
open PySem PySem.Spec PyProof.Rows L2 SB MM
local macro_rules | `(tactic| walk_at "rd") => `(tactic| repeat (first | (refine ⟨_, rfl, ?_⟩) | (refine ⟨_, _, rfl, rfl, ?_⟩) | (refine ⟨_, _, rfl, ?_⟩) | (refine ⟨rfl, ?_⟩)))
section
variable {P : Program} {w : World} {K : PySem.W.Frag} {mg : Str → Option Value} {base : Heap} {C : Addr}
theorem sc_m_still : FnScope ["count"] ["count"] (defScope s_m_still) := ⟨rfl, rfl, rfl, by decide +kernel, rfl, by decide +kernel, by decide +kernel⟩
theorem ok_still {f : Addr} {fd : FuncData} (F : Fun K "still" "Move.still" s_m_still f fd) (T : TxtM K mg C) (MMove : Ml P w K mg base CX0 1 "Move" C (spInit K C)) : FnR P w K mg base CX0 3 f (spStill K C) := by
  refine fnr F sc_m_still (fun vs H Q E h => ?_) (fun _ _ _ _ _ _ us hl => match us, hl with | [_], _ => rfl) (fun cdv A outer s H vs Q E hr h => ?_)
  · obtain ⟨t, rfl, _⟩ := h
    rfl
  · obtain ⟨t, rfl, hz, k⟩ := h
    refine ⟨_, (pss_one (ps_ret (pe_ml MMove hr (by decide) (by rfl) pass0 (pa_cons (pv 0) (pa_cons (pe_listRg rfl (by rfl) T.n_list (prg_1 (by rfl) T.n_range (pv 0))) pa_nil))))), ?_⟩
    walk_at "rd"
    refine ⟨RgOk.of_le (by omega) (by omega) (by omega) (by omega), fun p hp => ?_⟩
    have s1 := same_new (o := .lst (rgV 0 (t : Int))) (Same.refl H) hp
    have e : rgV 0 (t : Int) = (stillM t).map V.int := by
      unfold rgV stillM
      simp
    refine mk_move (.inl (SqL.of (by rw [upd_same, e]))) (still_ok t) (by rw [stillM_length]; exact hz) fun H2 q e2 hq m => k H2 q (s1.trans e2) (s1.free hq) m
end
end MV

namespace MV
open PySem PySem.Spec PyProof.Rows L2 SB MM
local macro_rules | `(tactic| walk_at "rd") => `(tactic| repeat (first | (refine ⟨_, rfl, ?_⟩) | (refine ⟨_, _, rfl, rfl, ?_⟩) | (refine ⟨_, _, rfl, ?_⟩) | (refine ⟨rfl, ?_⟩)))
section
variable {P : Program} {w : World} {K : PySem.W.Frag} {mg : Str → Option Value} {base : Heap} {C : Addr}
theorem sc_m_invert : FnScope ["self", "position", "at", "place", "index"] ["self"] (defScope s_m_invert) := ⟨rfl, rfl, rfl, by decide +kernel, rfl, by decide +kernel, by decide +kernel⟩
theorem ok_inv {f : Addr} {fd : FuncData} (F : Fun K "__invert__" "Move.__invert__" s_m_invert f fd) (T : TxtM K mg C) (MMove : Ml P w K mg base CX0 1 "Move" C (spInit K C)) : FnR P w K mg base CX0 3 f (spInv K C) := by
  refine fnr F sc_m_invert (fun vs H Q E h => ?_) (fun _ _ _ _ _ _ us hl => match us, hl with | [_], _ => rfl) (fun cdv A outer s H vs Q E hr h => ?_)
  · obtain ⟨a, t, ps, rfl, _⟩ := h
    rfl
  · obtain ⟨a, t, ps, rfl, ⟨dx, q, ha, hq⟩, ok, hz, ht, k⟩ := h
    refine ⟨_, (pss_cons (ps_set (i := 1) sc_m_invert.nd rfl (Or.inr rfl) (pe_dc (own := [("at", 2), ("place", 3)]) (by rfl) sc_m_invert.nd (pi_enumS (by rfl) T.n_enumerate (pa_cons (pe_fld (pv 0) (by rfl)) pa_nil)) (blkOk_by (own := [("at", 2), ("place", 3)]) (N := ["self", "position", "at", "place", "index"]) (sc := defScope s_m_invert) (by decide +kernel)) (fun _ _ _ _ _ => (pg_tupK (K := K) (n := 2) (by rfl) (by rfl) (pgs_cons (pg_name (i := 2) sc_m_invert.nd rfl (Or.inl rfl)) (pgs_cons (pg_name (i := 3) sc_m_invert.nd rfl (Or.inl rfl)) pgs_nil)))) (fun _ _ _ _ _ => pts_nil) (fun _ _ _ _ _ => (pv 3)) (fun _ _ _ _ _ => (pv 2))))
      (pss_one (ps_ret (pe_ml MMove hr (by decide) (by rfl) pass0 (pa_cons (pe_callB call_len_seq (by rfl) T.n_len (by decide +kernel) (pa_cons (pe_fld (pv 0) (by rfl)) pa_nil)) (pa_cons (pe_lc (own := [("index", 4)]) (by rfl) sc_m_invert.nd (pi_range1 (by rfl) T.n_range (pa_cons (pe_fld (pv 0) (by rfl)) pa_nil)) (blkOk_by (own := [("index", 4)]) (N := ["self", "position", "at", "place", "index"]) (sc := defScope s_m_invert) (by decide +kernel)) (fun _ _ _ _ _ => (pg_name (i := 4) sc_m_invert.nd rfl (Or.inl rfl))) (fun _ _ _ _ _ => by exact pts_nil) (fun _ _ _ _ _ => by exact (pe_dget2 (hu_of hr) (pv 1) (pv 4) (pe_un un_neg pe_int) ⟨rfl, rfl, rfl, rfl⟩))) pa_nil)))))), ?_⟩
    walk_at "rd"
    refine ⟨a, C, dx, _, _, rfl, ha, T.cl, T.np, mfs_places _ _, ?_⟩
    refine ⟨q, _, rfl, .inr hq, fun J G w hG => ?_⟩
    intro D hD
    have s1 : Same H (upd H D (.dK [])) := same_new (Same.refl H) hD
    refine dc_it w (fun i H' => ∃ kvs : List (Key × V), KeepB D (upd H D (.dK [])) H' ∧ H' D = some (.dK kvs) ∧ kvs.length ≤ i ∧
      ∀ p : Int, 0 ≤ p → (valV kvs (Sum.inl p)).getD (.int (-1)) = .int (posM (ps.take i) p)) ⟨[], KeepB.refl _ _, upd_same, Nat.le_refl _, fun p _ => rfl⟩ ?_ ?_ ?_
    · rintro i H' _ ⟨_, kp, _⟩
      exact hG H' (fun e => kp.sqL' upd_same (noSeq_dK _) (stayL e fun o h => (by exact s1 _ _ h))) (fun e => kp.sqT' upd_same (noSeq_dK _) (Same.sqT s1 e))
    · rintro i x' H' H'' hi ⟨kvs, kp, hD', hlen, hv⟩ ⟨T', x0, y0, rfl, hT, rfl, e0, ey⟩
      cases e0
      have hi' : i < ps.length := by simpa using hi
      have epi : ps[i]? = some ps[i] := List.getElem?_eq_getElem hi'
      have ey' : y0 = .int ps[i] := by
        have q : (ps.map V.int)[i]? = some y0 := ey
        rw [List.getElem?_map, epi] at q
        exact (Option.some.inj q).symm
      subst ey'
      have ndT : D ≠ T' := ne_of_none hD' hT
      have hd2 : (upd H' T' (.tup [.int (i : Nat), .int ps[i]])) D = some (.dK kvs) := by rw [upd_ne ndT]; exact hD'
      have kp2 := kp.new (o := .tup [.int (i : Nat), .int ps[i]]) hT
      have tk : ps.take (i + 1) = ps.take i ++ [ps[i]] := by rw [List.take_append_getElem hi']
      refine ⟨T', _, rfl, SqT.of upd_same, rfl, ?_⟩
      walk_at "rd"
      refine ⟨kvs, Sum.inl ps[i], rfl, hd2, Nat.lt_of_le_of_lt (show _ ≤ 100000 by omega) (by decide), _, kp2.upd, upd_same, ?_, fun p h0 => ?_⟩
      · have := length_putK kvs (Sum.inl ps[i]) (V.int (i : Nat))
        omega
      · rw [valV_put, tk]
        by_cases e : (Sum.inl p : Key) = Sum.inl ps[i]
        · have e' : p = ps[i] := Sum.inl.inj e
          rw [if_pos e]
          show V.int (i : Nat) = _
          rw [posM_snoc_new ok epi (by omega) e']
        · rw [if_neg e, hv p h0, posM_snoc_old fun z => e (by rw [z])]
    · rintro H' ⟨kvs, kp, hD', hlen, hv⟩
      have s2 : Same H H' := fun b o e => kp b o (s1 b o e) (ne_of_none e hD)
      have ha' := s2 _ _ ha
      have hq' := Same.sqT s2 hq
      rw [List.length_map, List.take_length] at hv
      walk_at "rd"
      refine ⟨a, C, dx, _, _, rfl, ha', T.cl, T.np, mfs_places _ _, ?_⟩
      refine ⟨q, _, rfl, .inr hq', ?_⟩
      rw [List.length_map]
      walk_at "rd"
      refine ⟨a, C, dx, _, _, rfl, ha', T.cl, T.nt, mfs_takes _ _, ?_⟩
      refine ⟨_, rfl, by omega, by omega, fun L hL => ?_⟩
      have s3 : Same H' (upd H' L (.lst [])) := same_new (Same.refl H') hL
      rw [Int.toNat_natCast]
      refine lc_it walk_range (fun i H2 => KeepB L (upd H' L (.lst [])) H2 ∧ H2 L = some (.lst ((invM i ps).map V.int))) ⟨KeepB.refl _ _, upd_same⟩ (fun _ _ _ _ => trivial) ?_ ?_
      · rintro i x H0 H2 hi ⟨kp2, hL2⟩ ⟨rfl, rfl⟩
        have hD2 : H2 D = some (.dK kvs) := kp2 D _ (s3 _ _ hD') (ne_of_none hD' hL)
        walk_at "rd"
        refine ⟨.inl ⟨kvs, Rd.of hD2⟩, ?_⟩
        walk_at "rd"
        refine ⟨_, DGet.k (k := Sum.inl ((0 : Int) + i)) hD2, ?_⟩
        rw [hv _ (by omega)]
        refine ⟨_, hL2, ?_, kp2.upd, ?_⟩
        · rw [List.length_map, invM_length]
          exact Nat.lt_of_le_of_lt (show _ ≤ 100000 by omega) (by decide)
        · rw [upd_same, invM_succ, List.map_append]
          simp
      · rintro H2 ⟨kp2, hL2⟩
        have s4 : Same H H2 := fun b o e => kp2 b o (s3 b o (s2 b o e)) (ne_of_none (s2 b o e) hL)
        refine mk_move (.inl (SqL.of hL2)) (invM_ok ok) (by rw [invM_length]; exact ht) fun H3 p e3 hp m => k H3 p (s4.trans e3) (s4.free hp) m
end
end MV

namespace MV
open PySem PySem.Spec PyProof.Rows L2 SB MM
local macro_rules | `(tactic| walk_at "rd") => `(tactic| repeat (first | (refine ⟨_, rfl, ?_⟩) | (refine ⟨_, _, rfl, rfl, ?_⟩) | (refine ⟨_, _, rfl, ?_⟩) | (refine ⟨rfl, ?_⟩)))
abbrev s_m_turning : Stmt := inClass (top 8) 12
abbrev s_m_keeping : Stmt := inClass (top 8) 14
abbrev s_m_cutting : Stmt := inClass (top 8) 15
abbrev s_m_opening : Stmt := inClass (top 8) 16
def turnM (t : Nat) : List Int := (List.range t).map fun i : Nat => (t : Int) - 1 - (i : Int)
def cutM (t : Nat) (j : Int) : List Int := (stillM t).filter fun i => decide (i ≠ j)
def openM (t j : Nat) : List Int := (stillM t).take j ++ [-1] ++ (stillM t).drop j
def keepM (bs : List Bool) : List Int := (stillM bs.length).filter fun i => bs.getD i.toNat false
theorem still_sub {t : Nat} {l : List Int} (h : l.Sublist (stillM t)) : MoveOk t l := by
  refine ⟨fun p hp => ?_, ?_⟩
  · have := still_mem.mp (h.subset hp)
    omega
  · exact List.Pairwise.imp (fun {a b} (z : a ≠ b) (_ : 0 ≤ a) => z) ((still_nodup t).sublist h)
theorem turn_ok (t : Nat) : MoveOk t (turnM t) := by
  refine ⟨fun p hp => ?_, ?_⟩
  · obtain ⟨i, hi, rfl⟩ := List.mem_map.mp hp
    have := List.mem_range.mp hi
    omega
  · unfold turnM
    rw [List.pairwise_map]
    exact List.Pairwise.imp (fun {a b : Nat} (z : a ≠ b) (_ : 0 ≤ (t : Int) - 1 - (a : Int)) (e : (t : Int) - 1 - (a : Int) = (t : Int) - 1 - (b : Int)) => z (by omega)) (List.nodup_range (n := t))
theorem intI_ne {a b : Int} (c : (!decide (V.int a = V.int b)) = true) : a ≠ b := fun z => by
  rw [z] at c
  simp at c
theorem intI_eq {a b : Int} (c : ¬ (!decide (V.int a = V.int b)) = true) : a = b := by
  by_cases z : a = b
  · exact z
  · exfalso
    apply c
    have z2 : ¬ (V.int a = V.int b) := fun y => z (V.int.inj y)
    simp [z2]
def spTurning (K : PySem.W.Frag) (C : Addr) : Sp := fun vs H Q _ => ∃ t : Nat, vs = [.int (t : Int)] ∧ t ≤ 100000 ∧ ∀ H' p, Same H H' → H p = none → MoveAt K C H' p t (turnM t) → Q (.ref p) H'
def spKeeping (K : PySem.W.Frag) (C : Addr) : Sp := fun vs H Q _ => ∃ (a : Addr) (bs : List Bool), vs = [.ref a] ∧ SqL K H a (bs.map V.bl) ∧ bs.length ≤ 100000 ∧ ∀ H' p, Same H H' → H p = none → MoveAt K C H' p bs.length (keepM bs) → Q (.ref p) H'
def spCutting (K : PySem.W.Frag) (C CN : Addr) : Sp := fun vs H Q E => ∃ (t : Nat) (j : Int), vs = [.int (t : Int), .int j] ∧ t ≤ 100000 ∧
  (0 ≤ j ∧ j < (t : Int) → ∀ H' p, Same H H' → H p = none → MoveAt K C H' p t (cutM t j) → Q (.ref p) H') ∧
  (¬ (0 ≤ j ∧ j < (t : Int)) → ∀ dd, H dd = none → E (.ref CN) (some dd) (upd H dd (.xd [("place", .int j)])))
def spOpening (K : PySem.W.Frag) (C CN : Addr) : Sp := fun vs H Q E => ∃ (t : Nat) (j : Int), vs = [.int (t : Int), .int j] ∧ t ≤ 90000 ∧
  (0 ≤ j ∧ j ≤ (t : Int) → ∀ H' p, Same H H' → H p = none → MoveAt K C H' p t (openM t j.toNat) → Q (.ref p) H') ∧
  (¬ (0 ≤ j ∧ j ≤ (t : Int)) → ∀ dd, H dd = none → E (.ref CN) (some dd) (upd H dd (.xd [("place", .int j)])))
section
variable {P : Program} {w : World} {K : PySem.W.Frag} {mg : Str → Option Value} {base : Heap} {C CN : Addr}
theorem sc_m_turning : FnScope ["count"] ["count"] (defScope s_m_turning) := ⟨rfl, rfl, rfl, by decide +kernel, rfl, by decide +kernel, by decide +kernel⟩
theorem ok_turning {f : Addr} {fd : FuncData} (F : Fun K "turning" "Move.turning" s_m_turning f fd) (T : TxtM K mg C) (MMove : Ml P w K mg base CX0 1 "Move" C (spInit K C)) : FnR P w K mg base CX0 3 f (spTurning K C) := by
  refine fnr F sc_m_turning (fun vs H Q E h => ?_) (fun _ _ _ _ _ _ us hl => match us, hl with | [_], _ => rfl) (fun cdv A outer s H vs Q E hr h => ?_)
  · obtain ⟨t, rfl, _⟩ := h
    rfl
  · obtain ⟨t, rfl, hz, k⟩ := h
    refine ⟨_, (pss_one (ps_ret (pe_ml MMove hr (by decide) (by rfl) pass0 (pa_cons (pv 0) (pa_cons (pe_listRg3 rfl (by rfl) T.n_list (by rfl) T.n_range (pa_cons (pe_op op_sub (pv 0) pe_int) (pa_cons (pe_un un_neg pe_int) (pa_cons (pe_un un_neg pe_int) pa_nil)))) pa_nil))))), ?_⟩
    walk_at "rd"
    refine ⟨_, _, _, _, rfl, RgC.neg (by omega) (by omega) (by omega) (by omega), by omega, fun p hp => ?_⟩
    have s1 := same_new (o := .lst ((turnM t).map V.int)) (Same.refl H) hp
    have e : rg3 ((t : Int) - 1) (-1) ((t : Int) - 1 - -1).toNat = (turnM t).map V.int := by
      have e0 : ((t : Int) - 1 - -1).toNat = t := by omega
      rw [e0]
      unfold rg3 turnM
      rw [List.map_map]
      apply List.map_congr_left
      intro i _
      show V.int ((t : Int) - 1 + (i : Int) * -1) = V.int ((t : Int) - 1 - (i : Int))
      congr 1
      omega
    rw [e]
    refine mk_move (.inl (SqL.of upd_same)) (turn_ok t) (by unfold turnM; simp; exact hz) fun H2 q e2 hq m => k H2 q (s1.trans e2) (s1.free hq) m
theorem sc_m_keeping : FnScope ["flags", "at", "flag"] ["flags"] (defScope s_m_keeping) := ⟨rfl, rfl, rfl, by decide +kernel, rfl, by decide +kernel, by decide +kernel⟩
theorem ok_keeping {f : Addr} {fd : FuncData} (F : Fun K "keeping" "Move.keeping" s_m_keeping f fd) (T : TxtM K mg C) (MMove : Ml P w K mg base CX0 1 "Move" C (spInit K C)) : FnR P w K mg base CX0 3 f (spKeeping K C) := by
  refine fnr F sc_m_keeping (fun vs H Q E h => ?_) (fun _ _ _ _ _ _ us hl => match us, hl with | [_], _ => rfl) (fun cdv A outer s H vs Q E hr h => ?_)
  · obtain ⟨a, bs, rfl, _⟩ := h
    rfl
  · obtain ⟨a, bs, rfl, ha, hz, k⟩ := h
    refine ⟨_, (pss_one (ps_ret (pe_ml MMove hr (by decide) (by rfl) pass0 (pa_cons (pe_callB call_len_seq (by rfl) T.n_len (by decide +kernel) (pa_cons (pv 0) pa_nil)) (pa_cons (pe_lc (own := [("at", 1), ("flag", 2)]) (by rfl) sc_m_keeping.nd (pi_enumS (by rfl) T.n_enumerate (pa_cons (pv 0) pa_nil)) (blkOk_by (own := [("at", 1), ("flag", 2)]) (N := ["flags", "at", "flag"]) (sc := defScope s_m_keeping) (by decide +kernel)) (fun _ _ _ _ _ => (pg_tupK (K := K) (n := 2) (by rfl) (by rfl) (pgs_cons (pg_name (i := 1) sc_m_keeping.nd rfl (Or.inl rfl)) (pgs_cons (pg_name (i := 2) sc_m_keeping.nd rfl (Or.inl rfl)) pgs_nil)))) (fun _ _ _ _ _ => by exact (pts_one (pt_val (pv 2)))) (fun _ _ _ _ _ => by exact (pv 1))) pa_nil))))), ?_⟩
    walk_at "rd"
    refine ⟨a, _, rfl, .inl ha, ?_⟩
    rw [List.length_map]
    walk_at "rd"
    refine ⟨a, _, rfl, .inl ha, fun J G w hG => ?_⟩
    intro D hD
    have s1 : Same H (upd H D (.lst [])) := same_new (Same.refl H) hD
    refine lc_it w (fun i H' => KeepB D (upd H D (.lst [])) H' ∧ H' D = some (.lst (((stillM i).filter fun j => bs.getD j.toNat false).map V.int))) ⟨KeepB.refl _ _, upd_same⟩ ?_ ?_ ?_
    · rintro i H' _ ⟨kp, _⟩
      exact hG H' (fun e => stayL e fun o h => kp _ _ (s1 _ _ h) (ne_of_none h hD)) (fun e => kp.sqT upd_same (Same.sqT s1 e))
    · rintro i x' H' H'' hi ⟨kp, hL⟩ ⟨T', x0, y0, rfl, hT, rfl, e0, ey⟩
      cases e0
      have hi' : i < bs.length := by simpa using hi
      have epi : bs[i]? = some bs[i] := List.getElem?_eq_getElem hi'
      have ey' : y0 = .bl bs[i] := by
        have q : (bs.map V.bl)[i]? = some y0 := ey
        rw [List.getElem?_map, epi] at q
        exact (Option.some.inj q).symm
      subst ey'
      have ndT : D ≠ T' := ne_of_none hL hT
      have hL2 : (upd H' T' (.tup [.int (i : Nat), .bl bs[i]])) D = some (.lst (((stillM i).filter fun j => bs.getD j.toNat false).map V.int)) := by rw [upd_ne ndT]; exact hL
      have kp2 := kp.new (o := .tup [.int (i : Nat), .bl bs[i]]) hT
      have est : stillM (i + 1) = stillM i ++ [(i : Int)] := by
        unfold stillM
        rw [List.range_succ, List.map_append]
        rfl
      have gi : bs.getD i false = bs[i] := by simp [List.getD, epi]
      have hfl := List.length_filter_le (fun j : Int => bs.getD j.toNat false) (stillM i)
      rw [stillM_length] at hfl
      refine ⟨T', _, rfl, SqT.of upd_same, rfl, ?_⟩
      walk_at "rd"
      cases cb : bs[i] with
      | true =>
        rw [cb] at hL2 kp2
        refine iteT ?_
        walk_at "rd"
        refine ⟨_, hL2, by rw [List.length_map]; exact lt_line (by omega), kp2.upd, ?_⟩
        have hf : [(i : Int)].filter (fun j => bs.getD j.toNat false) = [(i : Int)] := by
          rw [List.filter_cons, if_pos (show bs.getD ((i : Int)).toNat false = true by rw [Int.toNat_natCast, gi, cb])]
          rfl
        rw [upd_same, est, List.filter_append, List.map_append, hf]
        rfl
      | false =>
        rw [cb] at hL2 kp2
        refine iteF ?_
        refine ⟨kp2, ?_⟩
        have hf : [(i : Int)].filter (fun j => bs.getD j.toNat false) = [] := by
          rw [List.filter_cons, if_neg (show ¬ bs.getD ((i : Int)).toNat false = true by rw [Int.toNat_natCast, gi, cb]; decide)]
          rfl
        rw [hL2, est, List.filter_append, hf, List.append_nil]
    · rintro HI ⟨kp, hL⟩
      rw [List.length_map] at hL
      have s2 : Same H HI := fun c o e => kp c o (s1 c o e) (ne_of_none e hD)
      refine mk_move (.inl (SqL.of hL)) (still_sub List.filter_sublist) ?_ fun H2 q e2 hq m => k H2 q (s2.trans e2) (s2.free hq) m
      have := List.length_filter_le (fun j : Int => bs.getD j.toNat false) (stillM bs.length)
      rw [stillM_length] at this
      exact Nat.le_trans this hz
theorem sc_m_cutting : FnScope ["count", "at", "index"] ["count", "at"] (defScope s_m_cutting) := ⟨rfl, rfl, rfl, by decide +kernel, rfl, by decide +kernel, by decide +kernel⟩
theorem ok_cutting {f : Addr} {fd : FuncData} (F : Fun K "cutting" "Move.cutting" s_m_cutting f fd) (T : TxtM K mg C) (MMove : Ml P w K mg base CX0 1 "Move" C (spInit K C)) (XNoPlace : Xc P w K mg base 1 "NoPlace" CN ["place"]) : FnR P w K mg base (L2.CX P w) 3 f (spCutting K C CN) := by
  refine fnrX F sc_m_cutting (fun vs H Q E h => ?_) (fun _ _ _ _ _ _ us hl => match us, hl with | [_, _], _ => rfl) (fun cdv A outer s H vs Q E hr h => ?_)
  · obtain ⟨t, j, rfl, _⟩ := h
    rfl
  · obtain ⟨t, j, rfl, hz, k, k2⟩ := h
    refine ⟨_, (pss_cons (ps_if (pt_not (pt_chain op_le op_lt pe_int (pv 1) (pv 0))) (pss_one (ps_raise rfl (takes_of rfl rfl rfl rfl) (pmk_x XNoPlace hr (by decide) (by rfl) (pa_cons (pv 1) pa_nil)))) pss_nil)
      (pss_one (ps_ret (pe_ml MMove hr (by decide) (by rfl) pass0 (pa_cons (pv 0) (pa_cons (pe_lc (own := [("index", 2)]) (by rfl) sc_m_cutting.nd (pi_range1 (by rfl) T.n_range (pa_cons (pv 0) pa_nil)) (blkOk_by (own := [("index", 2)]) (N := ["count", "at", "index"]) (sc := defScope s_m_cutting) (by decide +kernel)) (fun _ _ _ _ _ => (pg_name (i := 2) sc_m_cutting.nd rfl (Or.inl rfl))) (fun _ _ _ _ _ => by exact (pts_one (pt_cmpR op_ne (pv 2) (pv 1) (nomark _)))) (fun _ _ _ _ _ => by exact (pv 2))) pa_nil)))))), ?_⟩
    walk_at "rd"
    refine ite2 (fun c => ?_) (fun c => ?_)
    · have c1 : 0 ≤ j := of_decide_eq_true c
      walk_at "rd"
      refine ite2 (fun c2 => ?_) (fun c2 => ?_)
      · have c3 : ¬ (j < (t : Int)) := by simpa using c2
        walk_at "rd"
        exact ⟨by show 1 ≤ 1000; decide, fun d hd => k2 (fun z => c3 z.2) d hd⟩
      · have c3 : j < (t : Int) := by simpa using c2
        have k := k ⟨c1, c3⟩
        walk_at "rd"
        refine ⟨by omega, by omega, fun D hD => ?_⟩
        rw [Int.toNat_natCast]
        have s1 := same_new (o := .lst []) (Same.refl H) hD
        refine lc_it walk_range (fun i H2 => KeepB D (upd H D (.lst [])) H2 ∧ H2 D = some (.lst ((cutM i j).map V.int))) ⟨KeepB.refl _ _, upd_same⟩ (fun _ _ _ _ => trivial) ?_ ?_
        · rintro i x H0 HI hi ⟨kp, hL⟩ ⟨rfl, rfl⟩
          have est : stillM (i + 1) = stillM i ++ [(i : Int)] := by
            unfold stillM
            rw [List.range_succ, List.map_append]
            rfl
          have hcl : (cutM i j).length ≤ i := by
            have := List.length_filter_le (fun i : Int => decide (i ≠ j)) (stillM i)
            rw [stillM_length] at this
            exact this
          walk_at "rd"
          refine ite2 (fun c4 => ?_) (fun c4 => ?_)
          · have hne : (i : Int) ≠ j := by
              have := intI_ne c4
              omega
            walk_at "rd"
            refine ⟨_, hL, by rw [List.length_map]; exact lt_line (by omega), kp.upd, ?_⟩
            rw [upd_same]
            unfold cutM
            rw [est, List.filter_append, List.map_append]
            simp [hne]
          · have heq : (i : Int) = j := by
              have := intI_eq c4
              omega
            refine ⟨kp, ?_⟩
            rw [hL]
            unfold cutM
            rw [est, List.filter_append]
            simp [heq]
        · rintro HI ⟨kp, hL⟩
          have s2 : Same H HI := fun c o e => kp c o (s1 c o e) (ne_of_none e hD)
          refine mk_move (.inl (SqL.of hL)) (still_sub List.filter_sublist) ?_ fun H2 q e2 hq m => k H2 q (s2.trans e2) (s2.free hq) m
          have := List.length_filter_le (fun i : Int => decide (i ≠ j)) (stillM t)
          rw [stillM_length] at this
          exact Nat.le_trans this hz
    · have c1 : ¬ 0 ≤ j := fun z => c (decide_eq_true z)
      walk_at "rd"
      exact ⟨by show 1 ≤ 1000; decide, fun d hd => k2 (fun z => c1 z.1) d hd⟩
theorem sc_m_opening : FnScope ["count", "at"] ["count", "at"] (defScope s_m_opening) := ⟨rfl, rfl, rfl, by decide +kernel, rfl, by decide +kernel, by decide +kernel⟩
theorem ok_opening {f : Addr} {fd : FuncData} (F : Fun K "opening" "Move.opening" s_m_opening f fd) (T : TxtM K mg C) (MMove : Ml P w K mg base CX0 1 "Move" C (spInit K C)) (XNoPlace : Xc P w K mg base 1 "NoPlace" CN ["place"]) : FnR P w K mg base (L2.CX P w) 3 f (spOpening K C CN) := by
  refine fnrX F sc_m_opening (fun vs H Q E h => ?_) (fun _ _ _ _ _ _ us hl => match us, hl with | [_, _], _ => rfl) (fun cdv A outer s H vs Q E hr h => ?_)
  · obtain ⟨t, j, rfl, _⟩ := h
    rfl
  · obtain ⟨t, j, rfl, hz, k, k2⟩ := h
    refine ⟨_, (pss_cons (ps_if (pt_not (pt_chain op_le op_le pe_int (pv 1) (pv 0))) (pss_one (ps_raise rfl (takes_of rfl rfl rfl rfl) (pmk_x XNoPlace hr (by decide) (by rfl) (pa_cons (pv 1) pa_nil)))) pss_nil)
      (pss_one (ps_ret (pe_ml MMove hr (by decide) (by rfl) pass0 (pa_cons (pv 0) (pa_cons (pe_op op_cat (pe_op op_cat (pe_listRg rfl (by rfl) T.n_list (prg_1 (by rfl) T.n_range (pv 1))) (pe_lst (pa_cons (pe_un un_neg pe_int) pa_nil))) (pe_listRg rfl (by rfl) T.n_list (prg_2 (by rfl) T.n_range (pv 1) (pv 0)))) pa_nil)))))), ?_⟩
    walk_at "rd"
    refine ite2 (fun c => ?_) (fun c => ?_)
    · have c1 : 0 ≤ j := of_decide_eq_true c
      walk_at "rd"
      refine ite2 (fun c2 => ?_) (fun c2 => ?_)
      · have c3 : ¬ (j ≤ (t : Int)) := by simpa using c2
        walk_at "rd"
        exact ⟨by show 1 ≤ 1000; decide, fun d hd => k2 (fun z => c3 z.2) d hd⟩
      · have c3 : j ≤ (t : Int) := by simpa using c2
        have k := k ⟨c1, c3⟩
        obtain ⟨i, rfl⟩ : ∃ i : Nat, j = (i : Int) := ⟨j.toNat, by omega⟩
        rw [Int.toNat_natCast] at k
        have hit : i ≤ t := by omega
        walk_at "rd"
        refine ⟨RgOk.of_le (by omega) (by omega) (by omega) (by omega), fun L1 hL1 => ?_⟩
        walk_at "rd"
        refine ⟨(by show 1 ≤ sizeLine; decide), fun L2 hL2 => ?_⟩
        walk_at "rd"
        have l1 : (rgV 0 (i : Int)).length = i := by rw [rgV_length]; omega
        have s1 := same_new (o := .lst (rgV 0 (i : Int))) (Same.refl H) hL1
        have s2 := same_new (o := .lst [.int (-1)]) s1 hL2
        have c1' := same_new (o := .lst [.int (-1)]) (Same.refl _) hL2 L1 _ upd_same
        refine ⟨L1, L2, _, _, rfl, rfl, c1', upd_same, by rw [l1]; exact Nat.le_trans (show i + 1 ≤ 100001 by omega) (by decide), fun L3 hL3 => ?_⟩
        have s3 := same_new (o := .lst (rgV 0 (i : Int) ++ [.int (-1)])) s2 hL3
        walk_at "rd"
        refine ⟨RgOk.of_le (by omega) (by omega) (by omega) (by omega), fun L4 hL4 => ?_⟩
        have l2 : (rgV (i : Int) (t : Int)).length = t - i := by rw [rgV_length]; omega
        have s4 := same_new (o := .lst (rgV (i : Int) (t : Int))) s3 hL4
        have c3' := same_new (o := .lst (rgV (i : Int) (t : Int))) (Same.refl _) hL4 L3 _ upd_same
        walk_at "rd"
        refine ⟨L3, L4, _, _, rfl, rfl, c3', upd_same, by rw [List.length_append, l1, l2]; exact Nat.le_trans (show i + 1 + (t - i) ≤ 100001 by omega) (by decide), fun L5 hL5 => ?_⟩
        have s5 := same_new (o := .lst (rgV 0 (i : Int) ++ [.int (-1)] ++ rgV (i : Int) (t : Int))) s4 hL5
        have e : rgV 0 (i : Int) ++ [.int (-1)] ++ rgV (i : Int) (t : Int) = (openM t i).map V.int := by
          unfold openM
          rw [List.map_append, List.map_append]
          congr 1
          · congr 1
            unfold rgV stillM
            rw [← List.map_take, List.take_range, List.map_map]
            have : ((i : Int) - 0).toNat = min i t := by omega
            rw [this]
            apply List.map_congr_left
            intro j _
            show V.int ((0 : Int) + (j : Nat)) = V.int (j : Int)
            rw [Int.zero_add]
          · unfold rgV stillM
            rw [← List.map_drop, List.map_map]
            apply List.ext_getElem?
            intro j
            rw [List.getElem?_map, List.getElem?_map, List.getElem?_drop]
            by_cases hj : j < t - i
            · rw [List.getElem?_range (by omega), List.getElem?_range (by omega)]
              show some (V.int ((i : Int) + (j : Nat))) = some (V.int ((i + j : Nat) : Int))
              congr 2
            · rw [List.getElem?_eq_none (by rw [List.length_range]; omega), List.getElem?_eq_none (by rw [List.length_range]; omega)]
              rfl
        rw [e] at s5 ⊢
        refine mk_move (.inl (SqL.of upd_same)) (ok_insert (still_ok t) i) ?_ fun H2 q e2 hq m => k H2 q (s5.trans e2) (s5.free hq) m
        unfold openM
        rw [List.length_append, List.length_append, List.length_take, List.length_drop, stillM_length]
        show min i t + 1 + (t - i) ≤ 100000
        omega
    · have c1 : ¬ 0 ≤ j := fun z => c (decide_eq_true z)
      walk_at "rd"
      exact ⟨by show 1 ≤ 1000; decide, fun d hd => k2 (fun z => c1 z.1) d hd⟩
end
end MV

namespace MV
open PySem PySem.Spec PyProof.Rows L2 SB MM LamX
local macro_rules | `(tactic| walk_at "rd") => `(tactic| repeat (first | (refine ⟨_, rfl, ?_⟩) | (refine ⟨_, _, rfl, rfl, ?_⟩) | (refine ⟨_, _, rfl, ?_⟩) | (refine ⟨rfl, ?_⟩)))
/-! what stays where only tables of code objects change -/
section
variable {K : PySem.W.Frag} {H H' : Hp}
theorem ext_sqL {a : Addr} {xs : List V} (e : ExtN H H') (h : SqL K H a xs) : SqL K H' a xs := by
  rcases h with (h | ⟨o, h⟩) | h
  · exact .inl (.inl (e _ _ h fun _ z => by cases z))
  · exact .inl (.inr ⟨o, e _ _ h fun _ z => by cases z⟩)
  · exact .inr h
theorem ext_sqT {a : Addr} {xs : List V} (e : ExtN H H') (h : SqT K H a xs) : SqT K H' a xs := by
  rcases h with (h | ⟨o, h⟩) | h
  · exact .inl (.inl (e _ _ h fun _ z => by cases z))
  · exact .inl (.inr ⟨o, e _ _ h fun _ z => by cases z⟩)
  · exact .inr h
mutual
theorem dp_ext (e : ExtN H H') : ∀ {v : V} {d : PyData}, Dp K H v d → Dp K H' v d
  | _, _, .non => .non
  | _, _, .bl b => .bl b
  | _, _, .int i => .int i
  | _, _, .str x => .str x
  | _, _, .lst h q => .lst (ext_sqL e h) (dpAll_ext e q)
  | _, _, .tup h q => .tup (ext_sqT e h) (dpAll_ext e q)
theorem dpAll_ext (e : ExtN H H') : ∀ {vs : List V} {ds : List PyData}, DpAll K H vs ds → DpAll K H' vs ds
  | _, _, .nil => .nil
  | _, _, .cons h q => .cons (dp_ext e h) (dpAll_ext e q)
end
theorem MoveAt.ext {C : Addr} {a : Addr} {t : Nat} {ps : List Int} (m : MoveAt K C H a t ps) (e : ExtN H H') : MoveAt K C H' a t ps := by
  obtain ⟨dx, q, h1, h2⟩ := m
  exact ⟨dx, q, e _ _ h1 (fun _ z => by cases z), ext_sqT e h2⟩
theorem tabs_same {T : List (Addr × Str)} (t : Tabs T H) (e : Same H H') : Tabs T H' := t.ext e
theorem ext_same (e : Same H H') : ExtN H H' := ExtN.of e
end
end MV

namespace MV
open PySem PySem.Spec PyProof.Rows L2 SB MM LamX
/-! all but the bag b and the tables of code objects stays -/
def KeX (b : Addr) (H H' : Hp) : Prop := ∀ c o, H c = some o → c ≠ b → (∀ ps, o ≠ .tbl ps) → H' c = some o
/-- the name of the lambda of a def -/
def lamQ (qual : Str) (sc : Scope) : Str := (envOfC qual sc 0 0 .none).qual ++ "<lambda>"
section
variable {K : PySem.W.Frag} {H H' H2 : Hp} {b : Addr}
theorem KeX.refl (b : Addr) (H : Hp) : KeX b H H := fun _ _ e _ _ => e
theorem KeX.trans (x : KeX b H H') (y : KeX b H' H2) : KeX b H H2 := fun c o e n t => y c o (x c o e n t) n t
theorem KeX.of_keep (x : KeepB b H H') : KeX b H H' := fun c o e n _ => x c o e n
theorem KeX.of_ext (x : ExtN H H') : KeX b H H' := fun c o e _ t => x c o e t
theorem KeX.of_same (x : Same H H') : KeX b H H' := fun c o e _ _ => x c o e
theorem KeX.lst {c : Addr} {xs : List V} (x : KeX b H H') (h : H c = some (.lst xs)) (n : c ≠ b) : H' c = some (.lst xs) := x c _ h n fun _ z => by cases z
theorem KeX.sqL {a : Addr} {xs : List V} (x : KeX b H H') (hn : a ≠ b) (h : SqL K H a xs) : SqL K H' a xs := by
  rcases h with (h | ⟨o, h⟩) | h
  · exact .inl (.inl (x _ _ h hn fun _ z => by cases z))
  · exact .inl (.inr ⟨o, x _ _ h hn fun _ z => by cases z⟩)
  · exact .inr h
theorem KeX.sqT {a : Addr} {xs l : List V} (x : KeX b H H') (hb : H b = some (.lst l)) (h : SqT K H a xs) : SqT K H' a xs := by
  rcases h with (h | ⟨o, h⟩) | h
  · exact .inl (.inl (x _ _ h (ne_of h hb (by intro z; cases z)) fun _ z => by cases z))
  · exact .inl (.inr ⟨o, x _ _ h (ne_of h hb (by intro z; cases z)) fun _ z => by cases z⟩)
  · exact .inr h
theorem KeX.move {C a : Addr} {t : Nat} {ps : List Int} {l : List V} (x : KeX b H H') (hb : H b = some (.lst l)) (m : MoveAt K C H a t ps) : MoveAt K C H' a t ps := by
  obtain ⟨dx, q, h1, h2⟩ := m
  exact ⟨dx, q, x _ _ h1 (ne_of h1 hb (by intro z; cases z)) (fun _ z => by cases z), x.sqT hb h2⟩
theorem tabs_keep {T : List (Addr × Str)} {l : List V} (hT : Tabs T H) (hb : H b = some (.lst l)) (kp : KeepB b H H') : Tabs T H' := by
  intro p hp
  obtain ⟨tb, h1, h2, h3⟩ := hT p hp
  refine ⟨tb, kp _ _ h1 (by intro z; rw [z, hb] at h1; cases h1), h2, fun pos cv hcv => ?_⟩
  obtain ⟨cx, e1, e2⟩ := h3 pos cv hcv
  exact ⟨cx, e1, kp _ _ e2 (by intro z; rw [z, hb] at e2; have e3 := Option.some.inj e2; unfold CodeO at e3; cases e3)⟩
end
end MV

namespace MV
open PySem PySem.Spec PyProof.Rows L2 SB MM LamX
local macro_rules | `(tactic| walk_at "rd") => `(tactic| repeat (first | (refine ⟨_, rfl, ?_⟩) | (refine ⟨_, _, rfl, rfl, ?_⟩) | (refine ⟨_, _, rfl, ?_⟩) | (refine ⟨rfl, ?_⟩)))
abbrev s_m_sorting : Stmt := inClass (top 8) 13
def spSorting (K : PySem.W.Frag) (C : Addr) (T : List (Addr × Str)) : Sp := fun vs H Q _ => ∃ (a : Addr) (xs : List Int) (d : Bool), vs = [.ref a, .bl d] ∧ SqL K H a (xs.map V.int) ∧ xs.length ≤ 10000 ∧ Tabs T H ∧
  ∀ H' p, ExtN H H' → Tabs T H' → MoveAt K C H' p xs.length (sortM xs.length (keyM d xs)) → Q (.ref p) H'
section
variable {P : Program} {w : World} {K : PySem.W.Frag} {mg : Str → Option Value} {base : Heap} {C c PT : Addr} {TS : List (Addr × Str)}
theorem sc_m_sorting : FnScope ["values", "down", "sign"] ["values", "down"] (defScope s_m_sorting) := ⟨rfl, rfl, rfl, by decide +kernel, rfl, by decide +kernel, by decide +kernel⟩
theorem okf_sorting {f : Addr} {fd : FuncData} (F : Fun K "sorting" "Move.sorting" s_m_sorting f fd) (hc : fd.code = .ref c) (T : TxtM K mg C) (nS : mg "sorted" = none) (MMove : Ml P w K mg base CX0 1 "Move" C (spInit K C)) (TB : TabB base mg c PT)
    (hmT : (PT, lamQ "Move.sorting" (defScope s_m_sorting)) ∈ TS) (hu : ∀ p ∈ TS, p.1 = PT → p.2 = lamQ "Move.sorting" (defScope s_m_sorting)) : FnOk P w K mg base CX0 4 f fd ["values", "down"] (spSorting K C TS) := by
  refine okC F hc sc_m_sorting (fun vs H Q E h => ?_) (fun A outer s H vs Q E hr h => ?_)
  · obtain ⟨a, xs, d, rfl, _⟩ := h
    rfl
  · obtain ⟨a, xs, d, rfl, ha, hz, hT, k⟩ := h
    refine ⟨_, (C8.pss_cut (ps_set (i := 2) sc_m_sorting.nd rfl (Or.inr rfl) (pe_ifExp (pt_val (pv 1)) (pe_un un_neg pe_int) pe_int))
      (pss_one (ps_ret (pe_ml MMove hr (by decide) (by rfl) pass0 (pa_cons (pe_callB call_len_seq (by rfl) T.n_len (by decide +kernel) (pa_cons (pv 0) pa_nil)) (pa_cons (pe_sortRK rfl (by rfl) nS (pa_cons (pe_callTy cr_range1 (by rfl) T.n_range (by decide +kernel) (pa_cons (pe_callB call_len_seq (by rfl) T.n_len (by decide +kernel) (pa_cons (pv 0) pa_nil)) pa_nil)) pa_nil) TB (by rfl) hmT hu (hr.mono (by decide)) (lamP_by (sc := defScope s_m_sorting) (by decide +kernel)) (by rfl) (fun _ _ _ _ _ _ => rfl) (key_sv (is := 2) (iv := 0) (lamP_by (sc := defScope s_m_sorting) (by decide +kernel)) rfl rfl rfl rfl)) pa_nil)))))), ?_⟩
    refine ⟨fun σ' H' => σ' = [some (.ref a), some (.bl d), some (.int (if d = true then -1 else 1))] ∧ H' = H, ?_, ?_⟩
    · walk_at "rd"
      cases d
      · first | exact ⟨rfl, rfl⟩ | exact rfl
      · refine ⟨_, rfl, ?_⟩
        first | exact ⟨rfl, rfl⟩ | exact rfl
    · rintro σ' H' ⟨rfl, rfl⟩
      walk_at "rd"
      refine ⟨a, _, rfl, .inl ha, ?_⟩
      rw [List.length_map]
      walk_at "rd"
      refine ⟨a, _, rfl, .inl ha, ?_⟩
      rw [List.length_map]
      walk_at "rd"
      refine fun r hr' => ?_
      have s1 := same_new (o := .rng 0 (xs.length : Int)) (Same.refl H') hr'
      refine ⟨r, xs.length, rfl, upd_same, by omega, tabs_same hT s1, fun H2 e2 t2 => ⟨keyM d xs, fun i hi => ?_, fun p hp => ?_⟩⟩
      · refine ⟨_, a, _, xs.getD i 0, rfl, rfl, ext_sqL e2 (L2.Same.seq s1 ha), by omega, by omega, ?_, ?_, rfl⟩
        · rw [Int.toNat_natCast, List.getElem?_map, List.getElem?_eq_getElem hi]
          simp [hi]
        · refine .inl ?_
          cases d
          · exact ⟨by decide, by decide⟩
          · exact ⟨by decide, by decide⟩
      · have s3 := same_new (o := .lst ((sortM xs.length (keyM d xs)).map V.int)) (Same.refl H2) hp
        refine fun a4 _ n4 nd4 _ => mk_move2 n4 nd4 (.inl (SqL.of upd_same)) (sortM_ok _ _) (by rw [sortM_len]; omega) fun H4 s4 m4 => ⟨rfl, ?_⟩
        have s34 := s3.trans s4
        exact k _ _ (((ext_same s1).trans e2).trans (ext_same s34)) (tabs_same t2 s34) m4
end
end MV

namespace MV
open PySem PySem.Spec PyProof.Rows L2 SB MM
local macro_rules | `(tactic| walk_at "rd") => `(tactic| repeat (first | (refine ⟨_, rfl, ?_⟩) | (refine ⟨_, _, rfl, rfl, ?_⟩) | (refine ⟨_, _, rfl, ?_⟩) | (refine ⟨rfl, ?_⟩)))
abbrev s_count : Stmt := top 12
def spCount : Sp := fun vs H Q _ => ∃ (b : Addr) (most : Nat) (l : List V) (n : Nat), vs = [.ref b, .int (most : Int)] ∧ H b = some (.lst l) ∧ BagL l n ∧ n + 2 < 1000000 ∧ most ≤ 100000 ∧
  ∀ (r : Nat) (l' : List V), (r ≤ 6 ∨ r ≤ most) → BagL l' (n + 2) → Q (.int (r : Int)) (upd H b (.lst l'))
section
variable {P : Program} {w : World} {K : PySem.W.Frag} {mg : Str → Option Value} {base : Heap}
theorem sc_count : FnScope ["_law_bag_here", "_law_most"] ["_law_bag_here", "_law_most"] (defScope s_count) := ⟨rfl, rfl, rfl, by decide +kernel, rfl, by decide +kernel, by decide +kernel⟩
theorem ok_count {f : Addr} {fd : FuncData} (F : Fun K "_law_count" "_law_count" s_count f fd) (T : Blt mg) (Dtake : Cl P w K mg base CX0 1 "_law_take" spTake) : FnR P w K mg base CX0 2 f spCount := by
  refine fnr F sc_count (fun vs H Q E h => ?_) (fun _ _ _ _ _ _ us hl => match us, hl with | [_, _], _ => rfl) (fun cdv A outer s H vs Q E hr h => ?_)
  · obtain ⟨b, most, l, n, rfl, _⟩ := h
    rfl
  · obtain ⟨b, most, l, n, rfl, hb, hl, hn, hm, k⟩ := h
    refine ⟨_, (pss_one (ps_ret (pe_ifExp (pt_cmpR op_lt (pe_cl Dtake hr (by decide) (by rfl) pass0 (pa_cons (pv 0) (pa_cons pe_int pa_nil))) pe_int (nomark _)) (pe_cl Dtake hr (by decide) (by rfl) pass0 (pa_cons (pv 0) (pa_cons pe_int pa_nil))) (pe_cl Dtake hr (by decide) (by rfl) pass0 (pa_cons (pv 0) (pa_cons (pe_op op_add (pv 1) pe_int) pa_nil)))))), ?_⟩
    walk_at "rd"
    refine ⟨b, 4, l, n, rfl, hb, hl, by omega, by decide, by decide, fun r l1 r0 r1 hl1 => ?_⟩
    walk_at "rd"
    refine ite2 (fun c => ?_) (fun c => ?_)
    · walk_at "rd"
      refine ⟨b, 7, l1, n + 1, rfl, upd_same, hl1, by omega, by decide, by decide, fun r2 l2 h0 h1 hl2 => ?_⟩
      rw [upd_upd]
      obtain ⟨m, rfl⟩ : ∃ m : Nat, r2 = (m : Int) := ⟨r2.toNat, by omega⟩
      exact k m l2 (.inl (by omega)) hl2
    · walk_at "rd"
      refine ⟨b, _, l1, n + 1, rfl, upd_same, hl1, by omega, by omega, by omega, fun r2 l2 h0 h1 hl2 => ?_⟩
      rw [upd_upd]
      obtain ⟨m, rfl⟩ : ∃ m : Nat, r2 = (m : Int) := ⟨r2.toNat, by omega⟩
      exact k m l2 (.inr (by omega)) hl2
end
end MV

namespace MV
open PySem PySem.Spec PyProof.Rows L2 SB MM LamX
/-! items (value, origin): their addresses, values, origins -/
abbrev Itm := Addr × Int × Int
def refI (t : Itm) : V := .ref t.1
def orgI (t : Itm) : Int := if t.2.2 < 0 then -1 else t.2.2
def IA (H : Hp) (its : List Itm) : Prop := ∀ t ∈ its, H t.1 = some (.tup [.int t.2.1, .int t.2.2])
theorem IA.same {H H' : Hp} {its : List Itm} (h : IA H its) (e : Same H H') : IA H' its := fun t ht => e _ _ (h t ht)
theorem IA.ext {H H' : Hp} {its : List Itm} (h : IA H its) (e : ExtN H H') : IA H' its := fun t ht => e _ _ (h t ht) fun _ z => by cases z
theorem IA.keep {H H' : Hp} {b : Addr} {l : List V} {its : List Itm} (h : IA H its) (hb : H b = some (.lst l)) (e : KeepB b H H') : IA H' its := fun t ht => e _ _ (h t ht) (ne_of (h t ht) hb (by intro z; cases z))
theorem IA.kex {H H' : Hp} {b : Addr} {l : List V} {its : List Itm} (h : IA H its) (hb : H b = some (.lst l)) (e : KeX b H H') : IA H' its := fun t ht => e _ _ (h t ht) (ne_of (h t ht) hb (by intro z; cases z)) fun _ z => by cases z
section
variable {α : Type}
theorem apply_nn {d : α} {xs ys : List α} : ∀ {ps : List Int}, (∀ p ∈ ps, 0 ≤ p ∧ p.toNat < xs.length) → applyM ps xs ys = ps.map fun p => xs.getD p.toNat d
  | [], _ => rfl
  | p :: ps, h => by
    have hp := h p List.mem_cons_self
    rw [apply_nonneg (by omega) (List.getElem?_eq_getElem hp.2), apply_nn fun q hq => h q (List.mem_cons_of_mem _ hq), List.map_cons]
    congr 1
    simp [hp.2]
theorem apply_cons (p : Int) (ps : List Int) (xs ys : List α) : applyM (p :: ps) xs ys = if p < 0 then ys.take 1 ++ applyM ps xs (ys.drop 1) else xs[p.toNat]?.toList ++ applyM ps xs ys := by rw [applyM]
theorem apply_app {xs : List α} : ∀ (a b : List Int) (ys : List α), applyM (a ++ b) xs ys = applyM a xs ys ++ applyM b xs (ys.drop (gapsM a))
  | [], b, ys => by simp [applyM, gapsM]
  | p :: a, b, ys => by
    rw [List.cons_append, apply_cons, apply_cons]
    by_cases c : p < 0
    · rw [if_pos c, if_pos c, apply_app a b, gaps_cons, if_pos c, List.append_assoc, List.drop_drop]
    · rw [if_neg c, if_neg c, apply_app a b, gaps_cons, if_neg c, List.append_assoc, Nat.zero_add]
theorem still_get {d : α} (xs : List α) : (stillM xs.length).map (fun p => xs.getD p.toNat d) = xs := by
  unfold stillM
  rw [List.map_map]
  apply List.ext_getElem?
  intro i
  rw [List.getElem?_map]
  by_cases h : i < xs.length
  · rw [List.getElem?_range h, List.getElem?_eq_getElem h]
    simp [h]
  · rw [List.getElem?_eq_none (by rw [List.length_range]; omega), List.getElem?_eq_none (by omega)]
    rfl
theorem apply_turn {xs ys : List α} (d : α) : applyM (turnM xs.length) xs ys = xs.reverse := by
  rw [apply_nn (d := d) fun p hp => by
    obtain ⟨i, hi, rfl⟩ := List.mem_map.mp hp
    have := List.mem_range.mp hi
    omega]
  apply List.ext_getElem?
  intro i
  rw [List.getElem?_map]
  unfold turnM
  rw [List.getElem?_map]
  by_cases h : i < xs.length
  · rw [List.getElem?_range h, List.getElem?_reverse h, List.getElem?_eq_getElem (by omega)]
    have e : ((xs.length : Int) - 1 - (i : Int)).toNat = xs.length - 1 - i := by omega
    show some (xs.getD ((xs.length : Int) - 1 - (i : Int)).toNat d) = _
    rw [e]
    simp [show xs.length - 1 - i < xs.length by omega]
  · rw [List.getElem?_eq_none (by rw [List.length_range]; omega), List.getElem?_eq_none (by rw [List.length_reverse]; omega)]
    rfl
theorem st_succ (i : Nat) : stillM (i + 1) = stillM i ++ [(i : Int)] := by
  unfold stillM
  rw [List.range_succ, List.map_append]
  rfl
theorem cut_no {m : Nat} {j : Int} (h : (m : Int) ≤ j) : cutM m j = stillM m := by
  unfold cutM
  rw [List.filter_eq_self]
  intro x hx
  have := still_mem.mp hx
  simp
  omega
theorem cut_sl {g : Nat} : ∀ {m : Nat}, g < m → (stillM m).take g ++ (stillM m).drop (g + 1) = cutM m (g : Int)
  | 0, h => absurd h (Nat.not_lt_zero _)
  | m + 1, h => by
    by_cases e : g = m
    · subst e
      rw [st_succ, List.take_append_of_le_length (by rw [stillM_length]; exact Nat.le_refl _), List.take_of_length_le (by rw [stillM_length]; exact Nat.le_refl _), List.drop_of_length_le (by rw [List.length_append, stillM_length]; exact Nat.le_refl _), List.append_nil]
      unfold cutM
      rw [st_succ, List.filter_append]
      have := cut_no (m := g) (j := (g : Int)) (Int.le_refl _)
      unfold cutM at this
      rw [this]
      simp
    · have ih := cut_sl (g := g) (m := m) (by omega)
      rw [st_succ, List.take_append_of_le_length (by rw [stillM_length]; omega), List.drop_append_of_le_length (by rw [stillM_length]; omega), ← List.append_assoc, ih]
      unfold cutM
      rw [st_succ, List.filter_append]
      congr 1
      have : ((m : Int) ≠ (g : Int)) := by omega
      simp [this]
theorem sub_rng {n : Nat} {ps : List Int} (h : ps.Sublist (stillM n)) : ∀ p ∈ ps, 0 ≤ p ∧ p.toNat < n := fun p hp => by
  have := still_mem.mp (h.subset hp)
  omega
theorem apply_cut {xs ys : List α} (d : α) {g : Nat} (h : g < xs.length) : applyM (cutM xs.length (g : Int)) xs ys = xs.take g ++ xs.drop (g + 1) := by
  rw [apply_nn (d := d) (sub_rng (show (cutM xs.length (g : Int)).Sublist (stillM xs.length) from List.filter_sublist)), ← cut_sl h, List.map_append, List.map_take, List.map_drop, still_get]
theorem apply_open {xs : List α} (f : α) {j : Nat} (h : j ≤ xs.length) : applyM (openM xs.length j) xs [f] = xs.take j ++ [f] ++ xs.drop j := by
  have g1 : gapsM ((stillM xs.length).take j) = 0 := by
    unfold gapsM
    rw [List.length_eq_zero_iff, List.filter_eq_nil_iff]
    intro p hp
    have := still_mem.mp (List.mem_of_mem_take hp)
    simp
    omega
  unfold openM
  rw [List.append_assoc, apply_app, g1, List.drop_zero, List.singleton_append, apply_neg (by decide), apply_nn (d := f) (sub_rng (List.take_sublist _ _)), apply_nn (d := f) (sub_rng (List.drop_sublist _ _)), List.map_take, List.map_drop, still_get, List.append_assoc]
  rfl
/-- the positions of True so far -/
def keptTo (bs : List Bool) (i : Nat) : List Int := (stillM i).filter fun j => bs.getD j.toNat false
theorem keptTo_succ (bs : List Bool) (i : Nat) : keptTo bs (i + 1) = keptTo bs i ++ (if bs.getD i false = true then [(i : Int)] else []) := by
  unfold keptTo
  rw [st_succ, List.filter_append]
  congr 1
  by_cases h : bs.getD i false = true
  · rw [if_pos h, List.filter_cons_of_pos (by show bs.getD (i : Int).toNat false = true; rw [Int.toNat_natCast]; exact h)]
    rfl
  · rw [if_neg h, List.filter_cons_of_neg (by show ¬ (bs.getD (i : Int).toNat false = true); rw [Int.toNat_natCast]; exact h)]
    rfl
theorem mem_apply : ∀ (ps : List Int) (xs ys : List α) {d : α}, d ∈ applyM ps xs ys → d ∈ xs ∨ d ∈ ys
  | [], _, _, _, h => nomatch h
  | p :: ps, xs, ys, d, h => by
    unfold applyM at h
    by_cases c : p < 0
    · rw [if_pos c] at h
      rcases List.mem_append.mp h with h | h
      · exact .inr (List.mem_of_mem_take h)
      · exact (mem_apply ps xs _ h).imp id List.mem_of_mem_drop
    · rw [if_neg c] at h
      rcases List.mem_append.mp h with h | h
      · exact .inl (by
          cases e : xs[p.toNat]? with
          | none => rw [e] at h; simp at h
          | some x =>
            rw [e] at h
            have : d = x := by simpa using h
            subst this
            exact List.mem_of_getElem? e)
      · exact mem_apply ps xs ys h
end
theorem gaps_take (qs : List Int) (i : Nat) : gapsM (qs.take i) ≤ gapsM qs := by
  unfold gapsM
  exact (List.Sublist.filter _ (List.take_sublist i qs)).length_le
/-- the places of the product -/
theorem prod_org {its : List Itm} {qs : List Int} {fr : Itm} (ok : MoveOk its.length qs) (hg : gapsM qs ≤ 1) (hf : fr.2.2 < 0) : prodM (its.map orgI) qs = (applyM qs its [fr]).map orgI := by
  apply List.ext_getElem?
  intro i
  rw [List.getElem?_map, apply_get qs its [fr] (ok_range ok) (by show gapsM qs ≤ 1; exact hg)]
  unfold prodM
  rw [List.getElem?_map]
  cases e : qs[i]? with
  | none => rfl
  | some q =>
    have bd := ok.at e
    show some (if q < 0 then q else (its.map orgI).getD q.toNat (-1)) = Option.map orgI (if q < 0 then [fr][gapsM (qs.take i)]? else its[q.toNat]?)
    by_cases c : q < 0
    · have hi : i < qs.length := (List.getElem?_eq_some_iff.mp e).1
      have tk : qs.take (i + 1) = qs.take i ++ [q] := by
        rw [List.take_add_one, e]
        rfl
      have g1 := gaps_take qs (i + 1)
      rw [tk, gaps_snoc, if_pos c] at g1
      have g0 : gapsM (qs.take i) = 0 := by omega
      rw [if_pos c, if_pos c, g0]
      show some q = some (orgI fr)
      unfold orgI
      rw [if_pos hf]
      congr 1
      omega
    · have hl : q.toNat < its.length := by omega
      rw [if_neg c, if_neg c, List.getElem?_eq_getElem hl]
      show some _ = some _
      congr 1
      simp [List.getD, hl]
theorem sortM_congr {n : Nat} {k1 k2 : Nat → Int} (h : ∀ i, i < n → k1 i = k2 i) : sortM n k1 = sortM n k2 := by
  unfold sortM
  rw [PySem.W.sort_congr (r := fun a b => decide (k1 a ≤ k1 b)) (s := fun a b => decide (k2 a ≤ k2 b)) fun a ha b hb => by rw [h a (List.mem_range.mp ha), h b (List.mem_range.mp hb)]]
end MV

namespace MV
open PySem PySem.Spec PyProof.Rows L2 SB MM LamX
local macro_rules | `(tactic| walk_at "rd") => `(tactic| repeat (first | (refine ⟨_, rfl, ?_⟩) | (refine ⟨_, _, rfl, rfl, ?_⟩) | (refine ⟨_, _, rfl, ?_⟩) | (refine ⟨rfl, ?_⟩)))
abbrev s_deed : Stmt := top 13
def spDeed (K : PySem.W.Frag) (C : Addr) (T : List (Addr × Str)) : Sp := fun vs H Q _ => ∃ (b q fr : Addr) (its : List Itm) (v o : Int) (l : List V) (n : Nat), vs = [.ref b, .ref q, .ref fr] ∧ H b = some (.lst l) ∧ BagL l n ∧ n + 1000 < 1000000 ∧ H q = some (.lst (its.map refI)) ∧ q ≠ b ∧ IA H its ∧ H fr = some (.tup [.int v, .int o]) ∧ its.length ≤ 200 ∧ Tabs T H ∧
  ∀ (H' : Hp) (tp m q' : Addr) (l' : List V) (qs : List Int), KeX b H H' → Tabs T H' → H' b = some (.lst l') → BagL l' (n + 1 + its.length + 1) → H' tp = some (.tup [.ref m, .ref q']) → q' ≠ b → H' q' = some (.lst ((applyM qs its [(fr, v, o)]).map refI)) → MoveAt K C H' m its.length qs → MoveOk its.length qs → gapsM qs ≤ 1 → qs.length ≤ its.length + 1 → Q (.ref tp) H'
theorem gaps0 {n : Nat} {ps : List Int} (h : ps.Sublist (stillM n)) : gapsM ps ≤ 1 := by
  have : gapsM ps = 0 := by
    unfold gapsM
    rw [List.length_eq_zero_iff, List.filter_eq_nil_iff]
    intro p hp
    have := still_mem.mp (h.subset hp)
    simp
    omega
  omega
theorem gapsP {n : Nat} {ps : List Int} (h : ps.Perm (stillM n)) : gapsM ps ≤ 1 := by
  have : gapsM ps = 0 := by
    unfold gapsM
    rw [List.length_eq_zero_iff, List.filter_eq_nil_iff]
    intro p hp
    have := still_mem.mp (h.mem_iff.mp hp)
    simp
    omega
  omega
section
variable {P : Program} {w : World} {K : PySem.W.Frag} {mg : Str → Option Value} {base : Heap} {C CN c PT : Addr} {TS : List (Addr × Str)}
theorem sc_deed : FnScope ["_law_bag_here", "_law_items", "_law_fresh", "_law_word", "_law_many", "_law_rank", "_law_k", "_law_value", "_law_origin", "_law_flags", "_law_item", "_law_flag", "_law_at"] ["_law_bag_here", "_law_items", "_law_fresh"] (defScope s_deed) := ⟨rfl, rfl, rfl, by decide +kernel, rfl, by decide +kernel, by decide +kernel⟩
theorem ok_deed {f : Addr} {fd : FuncData} (F : Fun K "_law_deed" "_law_deed" s_deed f fd) (hc : fd.code = .ref c) (T : TxtM K mg C) (nS : mg "sorted" = none) (nZ : mg "zip" = none) (TB : TabB base mg c PT)
    (hmT : (PT, lamQ "_law_deed" (defScope s_deed)) ∈ TS) (hu : ∀ p ∈ TS, p.1 = PT → p.2 = lamQ "_law_deed" (defScope s_deed))
    (SNsorting : SmN P w K mg base CX0 4 "Move" "sorting" 1 ["down"] (fun vs zs => vs ++ zs) (spSorting K C TS)) (SMturning : Sm P w K mg base CX0 3 "Move" "turning" (spTurning K C)) (SMkeeping : Sm P w K mg base CX0 3 "Move" "keeping" (spKeeping K C))
    (SMcutting : Sm P w K mg base (L2.CX P w) 3 "Move" "cutting" (spCutting K C CN)) (SMopening : Sm P w K mg base (L2.CX P w) 3 "Move" "opening" (spOpening K C CN))
    (Dtake : Cl P w K mg base CX0 1 "_law_take" spTake) : FnR P w K mg base CX0 6 f (spDeed K C TS) := by
  refine fnrC F hc sc_deed (fun vs H Q E h => ?_) (fun _ _ _ _ _ _ us hl => match us, hl with | [_, _, _], _ => rfl) (fun A outer s H vs Q E hr h => ?_)
  · obtain ⟨b, q, fr, its, v, o, l, n, rfl, _⟩ := h
    rfl
  · obtain ⟨b, q, fr, its, v, o, l, n, rfl, hb, hl, hn, hq, nqb, hI, hf, hz, hT, k⟩ := h
    refine ⟨_, (pss_cons (ps_asg (pe_tup (pa_cons (pe_cl Dtake hr (by decide) (by rfl) pass0 (pa_cons (pv 0) (pa_cons pe_int pa_nil))) (pa_cons (pe_callB call_len_seq (by rfl) T.n_len (by decide +kernel) (pa_cons (pv 1) pa_nil)) pa_nil))) (pg_tup rfl (pgs_cons (pg_name (i := 3) sc_deed.nd rfl (Or.inr rfl)) (pgs_cons (pg_name (i := 4) sc_deed.nd rfl (Or.inl rfl)) pgs_nil))))
      (pss_cons (ps_if (pt_cmpR op_lt (pv 3) pe_int (nomark _)) (pss_cons (ps_set (i := 5) sc_deed.nd rfl (Or.inl rfl) (pe_sortRK rfl (by rfl) nS (pa_cons (pe_callTy cr_range1 (by rfl) T.n_range (by decide +kernel) (pa_cons (pv 4) pa_nil)) pa_nil) TB (by rfl) hmT hu (hr.mono (by decide)) (lamP_by (sc := defScope s_deed) (by decide +kernel)) (by rfl) (fun _ _ _ _ _ _ => rfl) (key_it (ii := 1) (iw := 3) (lamP_by (sc := defScope s_deed) (by decide +kernel)) rfl rfl rfl rfl)))
        (pss_one (ps_ret (pe_tup (pa_cons (pe_smN SNsorting hr (by decide) (by rfl) pass0 (pa_cons (pe_lc (own := [("_law_value", 7), ("_law_origin", 8)]) (by rfl) sc_deed.nd (pi_list (pv 1)) (blkOk_by (own := [("_law_value", 7), ("_law_origin", 8)]) (N := ["_law_bag_here", "_law_items", "_law_fresh", "_law_word", "_law_many", "_law_rank", "_law_k", "_law_value", "_law_origin", "_law_flags", "_law_item", "_law_flag", "_law_at"]) (sc := defScope s_deed) (by decide +kernel)) (fun _ _ _ _ _ => (pg_tupK (K := K) (n := 2) (by rfl) (by rfl) (pgs_cons (pg_name (i := 7) sc_deed.nd rfl (Or.inl rfl)) (pgs_cons (pg_name (i := 8) sc_deed.nd rfl (Or.inl rfl)) pgs_nil)))) (fun _ _ _ _ _ => by exact pts_nil) (fun _ _ _ _ _ => by exact (pv 7))) pa_nil) (pk_cons (pe_cmpR op_eq (pv 3) pe_int (nomark _)) pk_nil)) (pa_cons (pe_lc (own := [("_law_k", 6)]) (by rfl) sc_deed.nd (pi_list (pv 5)) (blkOk_by (own := [("_law_k", 6)]) (N := ["_law_bag_here", "_law_items", "_law_fresh", "_law_word", "_law_many", "_law_rank", "_law_k", "_law_value", "_law_origin", "_law_flags", "_law_item", "_law_flag", "_law_at"]) (sc := defScope s_deed) (by decide +kernel)) (fun _ _ _ _ _ => (pg_name (i := 6) sc_deed.nd rfl (Or.inl rfl))) (fun _ _ _ _ _ => by exact pts_nil) (fun _ _ _ _ _ => by exact (pe_ix (ix_listK (K := K) (by rfl)) (pv 1) (pv 6) (fun _ _ => rfl)))) pa_nil)))))) pss_nil)
      (pss_cons (ps_if (pt_cmpR op_eq (pv 3) pe_int (nomark _)) (pss_one (ps_ret (pe_tup (pa_cons (pe_sm SMturning hr (by decide) (by rfl) pass0 (pa_cons (pv 4) pa_nil)) (pa_cons (pe_revL (pv 1)) pa_nil))))) pss_nil)
      (pss_cons (ps_if (pt_cmpR op_eq (pv 3) pe_int (nomark _)) (pss_cons (ps_setLc (i := 9) (own := [("_law_item", 10)]) (by rfl) sc_deed.nd rfl rfl (sw_true rfl rfl rfl (by decide +kernel)) (pi_list (pv 1)) (blkOk_by (own := [("_law_item", 10)]) (N := ["_law_bag_here", "_law_items", "_law_fresh", "_law_word", "_law_many", "_law_rank", "_law_k", "_law_value", "_law_origin", "_law_flags", "_law_item", "_law_flag", "_law_at"]) (sc := defScope s_deed) (by decide +kernel)) (fun _ _ _ _ _ => (pg_name (i := 10) sc_deed.nd rfl (Or.inl rfl))) (fun _ _ _ _ _ => by exact pts_nil) (fun _ _ _ _ _ => by exact (pe_cmpR op_gt (pe_cl Dtake hr (by decide) (by rfl) pass0 (pa_cons (pv 0) (pa_cons pe_int pa_nil))) pe_int (nomark _))))
        (pss_one (ps_ret (pe_tup (pa_cons (pe_sm SMkeeping hr (by decide) (by rfl) pass0 (pa_cons (pv 9) pa_nil)) (pa_cons (pe_lc (own := [("_law_item", 10), ("_law_flag", 11)]) (by rfl) sc_deed.nd (pi_zip (by rfl) nZ (pa_cons (pv 1) (pa_cons (pv 9) pa_nil))) (blkOk_by (own := [("_law_item", 10), ("_law_flag", 11)]) (N := ["_law_bag_here", "_law_items", "_law_fresh", "_law_word", "_law_many", "_law_rank", "_law_k", "_law_value", "_law_origin", "_law_flags", "_law_item", "_law_flag", "_law_at"]) (sc := defScope s_deed) (by decide +kernel)) (fun _ _ _ _ _ => (pg_tupK (K := K) (n := 2) (by rfl) (by rfl) (pgs_cons (pg_name (i := 10) sc_deed.nd rfl (Or.inl rfl)) (pgs_cons (pg_name (i := 11) sc_deed.nd rfl (Or.inl rfl)) pgs_nil)))) (fun _ _ _ _ _ => by exact (pts_one (pt_val (pv 11)))) (fun _ _ _ _ _ => by exact (pv 10))) pa_nil)))))) pss_nil)
      (C8.pss_cut (ps_if (PW.pt (pw_and (pt_cmpR op_eq (pv 3) pe_int (nomark _)) (pw_and1 (pt_cmpR op_gt (pv 4) pe_int (nomark _))))) (pss_cons (ps_set (i := 12) sc_deed.nd rfl (Or.inl rfl) (pe_cl Dtake hr (by decide) (by rfl) pass0 (pa_cons (pv 0) (pa_cons (pv 4) pa_nil))))
        (pss_one (ps_ret (pe_tup (pa_cons (pe_sm SMcutting hr (by decide) (by rfl) passF (pa_cons (pv 4) (pa_cons (pv 12) pa_nil))) (pa_cons (pe_op op_cat (pe_slice sl_list (pv 1) po_none (po_some (pv 12))) (pe_slice sl_list (pv 1) (po_some (pe_op op_add (pv 12) pe_int)) po_none)) pa_nil)))))) pss_nil)
      (pss_cons (ps_set (i := 12) sc_deed.nd rfl (Or.inl rfl) (pe_cl Dtake hr (by decide) (by rfl) pass0 (pa_cons (pv 0) (pa_cons (pe_op op_add (pv 4) pe_int) pa_nil))))
      (pss_one (ps_ret (pe_tup (pa_cons (pe_sm SMopening hr (by decide) (by rfl) passF (pa_cons (pv 4) (pa_cons (pv 12) pa_nil))) (pa_cons (pe_op op_cat (pe_op op_cat (pe_slice sl_list (pv 1) po_none (po_some (pv 12))) (pe_lst (pa_cons (pv 2) pa_nil))) (pe_slice sl_list (pv 1) (po_some (pv 12)) po_none)) pa_nil))))))))))), ?_⟩
    walk_at "rd"
    refine ⟨b, 6, l, n, rfl, hb, hl, by omega, by decide, by decide, fun wd l1 w0 w1 hl1 => ?_⟩
    have hq1 : (upd H b (.lst l1)) q = some (.lst (its.map refI)) := by rw [upd_ne nqb]; exact hq
    walk_at "rd"
    refine ⟨q, _, rfl, .inl (SqL.of hq1), ?_⟩
    rw [List.length_map]
    refine ⟨(by show 2 ≤ sizeLine; decide), fun T0 hT0 => ?_⟩
    have K1 : KeepB b H (upd (upd H b (.lst l1)) T0 (.tup [.int wd, .int (its.length : Int)])) := ((KeepB.refl b H).upd).new hT0
    have hbT : b ≠ T0 := ne_of_none upd_same hT0
    have hb1 : (upd (upd H b (.lst l1)) T0 (.tup [.int wd, .int (its.length : Int)])) b = some (.lst l1) := by rw [upd_ne hbT]; exact upd_same
    refine ⟨T0, _, rfl, SqT.of upd_same, rfl, ?_⟩
    have hq1 := K1 _ _ hq nqb
    have hI1 := hI.keep hb K1
    have hf1 := K1 _ _ hf (ne_of hf hb (by intro z; cases z))
    have hT1 := tabs_keep hT hb K1
    generalize upd (upd H b (.lst l1)) T0 (.tup [.int wd, .int (its.length : Int)]) = H1 at K1 hb1 hq1 hI1 hf1 hT1 ⊢
    walk_at "rd"
    refine ite2 (fun c1 => ?_) (fun c1 => ?_)
    · -- sorted
      have d1 : wd < 2 := of_decide_eq_true c1
      walk_at "rd"
      refine fun r hr' => ?_
      have s1 := same_new (o := .rng 0 (its.length : Int)) (Same.refl H1) hr'
      refine ⟨r, its.length, rfl, upd_same, by omega, tabs_same hT1 s1, fun H2 e2 t2 => ⟨fun i => (its.getD i (fr, v, o)).2.1 * (1 - 2 * wd), fun i hi => ?_, fun p hp => ?_⟩⟩
      · have gi : its[i]? = some its[i] := List.getElem?_eq_getElem hi
        refine ⟨wd, q, its[i].1, its.map refI, its[i].2.1, [.int its[i].2.2], rfl, rfl, SqL.of (e2 _ _ (s1 _ _ hq1) fun _ z => by cases z), by omega, by omega, ?_, SqT.of (e2 _ _ (s1 _ _ (hI1 its[i] (List.getElem_mem hi))) fun _ z => by cases z), ⟨by omega, by omega⟩, ?_⟩
        · rw [Int.toNat_natCast, List.getElem?_map, gi]
          rfl
        · simp [hi]
      · generalize er : sortM its.length (fun i => (its.getD i (fr, v, o)).2.1 * (1 - 2 * wd)) = rk
        have s3 := same_new (o := .lst (rk.map V.int)) (Same.refl H2) hp
        have E3 : ExtN H1 (upd H2 p (.lst (rk.map V.int))) := ((ext_same s1).trans e2).trans (ext_same s3)
        have t3 := tabs_same t2 s3
        have hp3 : (upd H2 p (.lst (rk.map V.int))) p = some (.lst (rk.map V.int)) := upd_same
        generalize upd H2 p (.lst (rk.map V.int)) = H3 at E3 t3 hp3 ⊢
        have hq3 : H3 q = some (.lst (its.map refI)) := E3 _ _ hq1 fun _ z => by cases z
        have hI3 := hI1.ext E3
        walk_at "rd"
        refine ⟨⟨_, SqL.of hq3⟩, fun D hD => ?_⟩
        have s4 := same_new (o := .lst []) (Same.refl H3) hD
        refine lc_it (walk_list (xs := its.map refI)) (fun i H' => KeepB D (upd H3 D (.lst [])) H' ∧ H' D = some (.lst (((its.take i).map fun t => t.2.1).map V.int))) ⟨KeepB.refl _ _, upd_same⟩ ?_ ?_ ?_
        · rintro i H' _ ⟨kp, _⟩
          exact SqL.of (kp _ _ (s4 _ _ hq3) (ne_of_none hq3 hD))
        · rintro i x Hz H' hi ⟨kp, hD'⟩ ⟨rfl, hx⟩
          have hi' : i < its.length := by simpa using hi
          have epi : its[i]? = some its[i] := List.getElem?_eq_getElem hi'
          have ex : x = .ref its[i].1 := by
            rw [List.getElem?_map, epi] at hx
            exact (Option.some.inj hx).symm
          subst ex
          have tk : its.take (i + 1) = its.take i ++ [its[i]] := by rw [List.take_append_getElem hi']
          have hx3 := hI3 its[i] (List.getElem_mem hi')
          refine ⟨its[i].1, _, rfl, SqT.of (kp _ _ (s4 _ _ hx3) (ne_of_none hx3 hD)), rfl, ?_⟩
          walk_at "rd"
          refine ⟨_, hD', by rw [List.length_map, List.length_map, List.length_take]; exact lt_line (by omega), kp.upd, ?_⟩
          rw [upd_same, tk, List.map_append, List.map_append]
          rfl
        · rintro H4 ⟨kp4, hD4⟩
          have s34 : Same H3 H4 := fun c o e => kp4 _ _ (s4 _ _ e) (ne_of_none e hD)
          have hlen : (its.map refI).length = its.length := List.length_map _
          rw [hlen, List.take_length] at hD4
          walk_at "rd"
          refine ⟨D, its.map fun t => t.2.1, decide (V.int wd = V.int 1), rfl, SqL.of hD4, by rw [List.length_map]; omega, tabs_same t3 s34, fun H5 m e5 t5 m5 => ?_⟩
          rw [List.length_map] at m5
          have ek : sortM its.length (keyM (decide (V.int wd = V.int 1)) (its.map fun t => t.2.1)) = rk := by
            rw [← er]
            refine sortM_congr fun i hi => ?_
            unfold keyM
            have e1 : (its.map fun t => t.2.1).getD i 0 = (its.getD i (fr, v, o)).2.1 := by simp [hi]
            rw [e1]
            by_cases cw : wd = 1
            · subst cw
              rw [if_pos (decide_eq_true rfl)]
              omega
            · have : wd = 0 := by omega
              subst this
              rw [if_neg (by decide)]
              omega
          rw [ek] at m5
          have E5 : ExtN H1 H5 := E3.trans ((ext_same s34).trans e5)
          have hp5 : H5 p = some (.lst (rk.map V.int)) := e5 _ _ (s34 _ _ hp3) fun _ z => by cases z
          have hq5 : H5 q = some (.lst (its.map refI)) := E5 _ _ hq1 fun _ z => by cases z
          have hb5 : H5 b = some (.lst l1) := E5 _ _ hb1 fun _ z => by cases z
          have prk : rk.Perm (stillM its.length) := by rw [← er]; exact sortM_perm _ _
          have rng : ∀ p ∈ rk, 0 ≤ p ∧ p.toNat < its.length := fun p hp => by
            have := still_mem.mp (prk.mem_iff.mp hp)
            omega
          have lrk : rk.length = its.length := by rw [prk.length_eq, stillM_length]
          walk_at "rd"
          refine ⟨⟨_, SqL.of hp5⟩, fun D2 hD2 => ?_⟩
          have s6 := same_new (o := .lst []) (Same.refl H5) hD2
          refine lc_it (walk_list (xs := rk.map V.int)) (fun i H' => KeepB D2 (upd H5 D2 (.lst [])) H' ∧ H' D2 = some (.lst ((applyM (rk.take i) its [(fr, v, o)]).map refI))) ⟨KeepB.refl _ _, upd_same⟩ ?_ ?_ ?_
          · rintro i H' _ ⟨kp, _⟩
            exact SqL.of (kp _ _ (s6 _ _ hp5) (ne_of_none hp5 hD2))
          · rintro i x Hz H' hi ⟨kp, hD'⟩ ⟨rfl, hx⟩
            have hi' : i < rk.length := by simpa using hi
            have epi : rk[i]? = some rk[i] := List.getElem?_eq_getElem hi'
            have ex : x = .int rk[i] := by
              rw [List.getElem?_map, epi] at hx
              exact (Option.some.inj hx).symm
            subst ex
            have tk : rk.take (i + 1) = rk.take i ++ [rk[i]] := by rw [List.take_append_getElem hi']
            have ri := rng rk[i] (List.getElem_mem hi')
            have rt : ∀ p ∈ rk.take i, 0 ≤ p ∧ p.toNat < its.length := fun p hp => rng p (List.mem_of_mem_take hp)
            walk_at "rd"
            refine ⟨q, _, _, .ref its[rk[i].toNat].1, rfl, rfl, SqL.of (kp _ _ (s6 _ _ hq5) (ne_of_none hq5 hD2)), at_of (j := rk[i].toNat) (by omega) (by rw [List.getElem?_map, List.getElem?_eq_getElem ri.2]; rfl), ?_⟩
            refine ⟨_, hD', ?_, kp.upd, ?_⟩
            · rw [List.length_map, apply_nn (d := (fr, v, o)) rt, List.length_map, List.length_take]
              exact lt_line (by omega)
            · rw [upd_same, tk, apply_app, apply_cons, if_neg (by omega), List.getElem?_eq_getElem ri.2, List.map_append]
              rfl
          · rintro H6 ⟨kp6, hD6⟩
            have s56 : Same H5 H6 := fun c o e => kp6 _ _ (s6 _ _ e) (ne_of_none e hD2)
            have hlen2 : (rk.map V.int).length = rk.length := List.length_map _
            rw [hlen2, List.take_length] at hD6
            have nbD2 : D2 ≠ b := (ne_of_none hb5 hD2).symm
            refine ⟨(by show 2 ≤ sizeLine; decide), fun tp htp => ?_⟩
            have s7 := same_new (o := .tup [.ref m, .ref D2]) s56 htp
            have nDt : D2 ≠ tp := ne_of_none hD6 htp
            refine k _ tp m D2 l1 rk ?_ (tabs_same t5 s7) (s7 _ _ hb5) (hl1.mono (by omega)) upd_same nbD2 (by rw [upd_ne nDt]; exact hD6) (m5.same s7) (by rw [← er]; exact sortM_ok _ _) (gapsP prk) (by omega)
            exact (KeX.of_keep K1).trans ((KeX.of_ext E5).trans (KeX.of_same s7))
    · walk_at "rd"
      refine ite2 (fun c2 => ?_) (fun c2 => ?_)
      · -- turned
        walk_at "rd"
        refine ⟨by omega, fun H2 m s2 n2 m2 => ?_⟩
        walk_at "rd"
        refine ⟨q, _, rfl, SqL.of (s2 _ _ hq1), fun R hR => ?_⟩
        have s3 := same_new (o := .lst (its.map refI).reverse) s2 hR
        have nRb : R ≠ b := (ne_of_none (s2 _ _ hb1) hR).symm
        refine ⟨(by show 2 ≤ sizeLine; decide), fun tp htp => ?_⟩
        have s4 := same_new (o := .tup [.ref m, .ref R]) s3 htp
        have nRt : R ≠ tp := ne_of_none upd_same htp
        refine k _ tp m R l1 (turnM its.length) ((KeX.of_keep K1).trans (KeX.of_same s4)) (tabs_same hT1 s4) (s4 _ _ hb1) (hl1.mono (by omega)) upd_same nRb ?_ ?_ (turn_ok _) ?_ (by unfold turnM; rw [List.length_map, List.length_range]; omega)
        · rw [upd_ne nRt, upd_same, apply_turn (fr, v, o), List.map_reverse]
        · exact m2.same (same_new (same_new (Same.refl H2) hR) htp)
        · have : gapsM (turnM its.length) = 0 := by
            unfold gapsM
            rw [List.length_eq_zero_iff, List.filter_eq_nil_iff]
            intro p hp
            obtain ⟨i, hi, rfl⟩ := List.mem_map.mp hp
            have := List.mem_range.mp hi
            simp
            omega
          omega
      · walk_at "rd"
        refine ite2 (fun c3 => ?_) (fun c3 => ?_)
        · -- kept
          walk_at "rd"
          refine ⟨⟨_, SqL.of hq1⟩, fun D hD => ?_⟩
          have nqD : q ≠ D := ne_of_none hq1 hD
          have nbD : b ≠ D := ne_of_none hb1 hD
          refine lc_it (walk_list (xs := its.map refI)) (fun i H2 => ∃ (bs : List Bool) (l' : List V), KeepB b H1 H2 ∧ H2 D = some (.lst (bs.map V.bl)) ∧ bs.length = i ∧ H2 b = some (.lst l') ∧ BagL l' (n + 1 + i)) ⟨[], l1, (KeepB.refl b H1).new hD, upd_same, rfl, by rw [upd_ne nbD]; exact hb1, hl1⟩ ?_ ?_ ?_
          · rintro i H' _ ⟨_, _, kp, _⟩
            exact SqL.of (kp _ _ hq1 nqb)
          · rintro i x H0 HI hi2 ⟨bs, l', e1, e2, e3, e4, e5⟩ ⟨rfl, hx⟩
            have hi3 : i < its.length := by simpa using hi2
            walk_at "rd"
            refine ⟨b, 4, l', _, rfl, e4, e5, by omega, by decide, by decide, fun r l'' r0 r1 hl'' => ?_⟩
            walk_at "rd"
            refine ⟨_, by rw [upd_ne nbD.symm]; exact e2, by rw [List.length_map]; exact lt_line (by omega), bs ++ [decide (0 < r)], l'', fun c o e hc => ?_, ?_, by rw [List.length_append, e3]; rfl, ?_, hl''⟩
            · rw [upd_ne (ne_of_none e hD), upd_ne hc]
              exact e1 _ _ e hc
            · rw [upd_same, List.map_append]
              rfl
            · rw [upd_ne nbD]
              exact upd_same
          · rintro H2 ⟨bs, l2, k2, e2, e3, e4, e5⟩
            rw [List.length_map] at e3 e5
            have hq2 := k2 _ _ hq1 nqb
            have hI2 := hI1.keep hb1 k2
            walk_at "rd"
            refine ⟨D, bs, rfl, SqL.of e2, by omega, fun H3 m s3 n3 m3 => ?_⟩
            rw [e3] at m3
            walk_at "rd"
            refine ⟨q, D, _, _, rfl, SqL.of (s3 _ _ hq2), SqL.of (s3 _ _ e2), fun D2 hD2 => ?_⟩
            have s4 := same_new (o := .lst []) (Same.refl H3) hD2
            have nn : its.length = min (its.map refI).length (bs.map V.bl).length := by rw [List.length_map, List.length_map, e3, Nat.min_self]
            refine lc_it (walk_zip (xs := its.map refI) (ys := bs.map V.bl) nn) (fun i H' => KeepB D2 (upd H3 D2 (.lst [])) H' ∧ H' D2 = some (.lst (((keptTo bs i).map fun p => its.getD p.toNat (fr, v, o)).map refI))) ⟨KeepB.refl _ _, upd_same⟩ ?_ ?_ ?_
            · rintro i H' _ ⟨kp, _⟩
              exact ⟨SqL.of (kp _ _ (s4 _ _ (s3 _ _ hq2)) (ne_of_none (s3 _ _ hq2) hD2)), SqL.of (kp _ _ (s4 _ _ (s3 _ _ e2)) (ne_of_none (s3 _ _ e2) hD2))⟩
            · rintro i x H0 HI hi2 ⟨kp, hL⟩ ⟨T', x0, y0, rfl, hT', rfl, ex, ey⟩
              have hib : i < bs.length := by omega
              have hx0 : x0 = .ref its[i].1 := by
                have z : (its.map refI)[i]? = some x0 := ex
                rw [List.getElem?_map, List.getElem?_eq_getElem hi2] at z
                exact (Option.some.inj z).symm
              have hy0 : y0 = .bl bs[i] := by
                have z : (bs.map V.bl)[i]? = some y0 := ey
                rw [List.getElem?_map, List.getElem?_eq_getElem hib] at z
                exact (Option.some.inj z).symm
              subst hx0 hy0
              have nDT : D2 ≠ T' := ne_of_none hL hT'
              have kp2 := kp.new (o := .tup [.ref its[i].1, .bl bs[i]]) hT'
              have hL2 : (upd H0 T' (.tup [.ref its[i].1, .bl bs[i]])) D2 = some (.lst (((keptTo bs i).map fun p => its.getD p.toNat (fr, v, o)).map refI)) := by rw [upd_ne nDT]; exact hL
              have hgd : bs.getD i false = bs[i] := by simp [hib]
              have kl : (keptTo bs i).length ≤ i := by
                have := List.length_filter_le (fun j : Int => bs.getD j.toNat false) (stillM i)
                rw [stillM_length] at this
                exact this
              refine ⟨T', _, rfl, SqT.of upd_same, rfl, ?_⟩
              walk_at "rd"
              refine ite2 (fun c => ?_) (fun c => ?_)
              · walk_at "rd"
                refine ⟨_, hL2, by rw [List.length_map, List.length_map]; exact lt_line (by omega), kp2.upd, ?_⟩
                rw [upd_same, keptTo_succ, hgd, if_pos c, List.map_append, List.map_append]
                simp [hi2, refI]
              · refine ⟨kp2, ?_⟩
                rw [keptTo_succ, hgd, if_neg c, List.append_nil]
                exact hL2
            · rintro H4 ⟨kp4, hD4⟩
              have s34 : Same H3 H4 := fun c o e => kp4 _ _ (s4 _ _ e) (ne_of_none e hD2)
              have S24 := s3.trans s34
              have nD2b : D2 ≠ b := (ne_of_none (s3 _ _ e4) hD2).symm
              refine ⟨(by show 2 ≤ sizeLine; decide), fun tp htp => ?_⟩
              have s5 := same_new (o := .tup [.ref m, .ref D2]) S24 htp
              have nDt : D2 ≠ tp := ne_of_none hD4 htp
              have ekm : keptTo bs its.length = keepM bs := by unfold keptTo keepM; rw [e3]
              refine k _ tp m D2 l2 (keepM bs) (((KeX.of_keep K1).trans (KeX.of_keep k2)).trans (KeX.of_same s5)) (tabs_same (tabs_keep hT1 hb1 k2) s5) (s5 _ _ e4) (e5.mono (by omega)) upd_same nD2b ?_ ?_ ?_ ?_ (by have := List.length_filter_le (fun j : Int => bs.getD j.toNat false) (stillM bs.length); rw [stillM_length] at this; unfold keepM; omega)
              · have sb : (keepM bs).Sublist (stillM its.length) := by rw [← e3]; exact List.filter_sublist
                rw [upd_ne nDt, hD4, ekm, apply_nn (d := (fr, v, o)) (sub_rng sb)]
              · exact (m3.same s34).same (same_new (Same.refl H4) htp)
              · rw [← e3]
                exact still_sub List.filter_sublist
              · exact gaps0 (n := bs.length) List.filter_sublist
        · refine ⟨fun σ' H' => σ' = [some (.ref b), some (.ref q), some (.ref fr), some (.int wd), some (.int (its.length : Int)), none, none, none, none, none, none, none, none] ∧ H' = H1, ?_, ?_⟩
          · walk_at "rd"
            refine ite2 (fun c4 => ?_) (fun c4 => ?_)
            · walk_at "rd"
              refine ite2 (fun c5 => ?_) (fun c5 => ?_)
              · -- cut
                have d5 : 0 < its.length := by
                  have := of_decide_eq_true c5
                  omega
                walk_at "rd"
                refine ⟨b, _, l1, _, rfl, hb1, hl1, by omega, by omega, by omega, fun r l2 r0 r1 hl2 => ?_⟩
                obtain ⟨g, rfl⟩ : ∃ g : Nat, r = (g : Int) := ⟨r.toNat, by omega⟩
                have hg : g < its.length := by omega
                have k2 : KeepB b H1 (upd H1 b (.lst l2)) := (KeepB.refl b H1).upd
                have hq2 := k2 _ _ hq1 nqb
                have hb2 : (upd H1 b (.lst l2)) b = some (.lst l2) := upd_same
                generalize upd H1 b (.lst l2) = H2 at k2 hq2 hb2 ⊢
                walk_at "rd"
                refine ⟨by omega, fun _ H3 m s3 n3 m3 => ?_, fun z => absurd ⟨by omega, by omega⟩ z⟩
                have cv1 : cutV (its.map refI) none (some (g : Int)) = (its.take g).map refI := by
                  unfold cutV
                  rw [HT.sIx_none, HT.sIx_nat, List.length_map, List.drop_zero, Nat.sub_zero, Nat.min_eq_left (by omega), List.map_take]
                have cv2 : cutV (its.map refI) (some ((g : Int) + 1)) none = (its.drop (g + 1)).map refI := by
                  unfold cutV
                  have e : (g : Int) + 1 = ((g + 1 : Nat) : Int) := by omega
                  rw [e, HT.sIx_none, HT.sIx_nat, List.length_map, Nat.min_eq_left (by omega), List.map_drop]
                  exact List.take_of_length_le (by rw [List.length_drop, List.length_map]; exact Nat.le_refl _)
                have hq3 := s3 _ _ hq2
                walk_at "rd"
                refine ⟨q, _, rfl, SqL.of hq3, fun p1 hp1 => ?_⟩
                rw [cv1]
                have u1 := same_new (o := .lst ((its.take g).map refI)) s3 hp1
                walk_at "rd"
                refine ⟨q, _, rfl, SqL.of (u1 _ _ hq2), fun p2 hp2 => ?_⟩
                rw [cv2]
                have u2 := same_new (o := .lst ((its.drop (g + 1)).map refI)) u1 hp2
                have c1' := same_new (o := .lst ((its.drop (g + 1)).map refI)) (Same.refl _) hp2 p1 _ upd_same
                refine ⟨p1, p2, _, _, rfl, rfl, c1', upd_same, by rw [List.length_map, List.length_map, List.length_take, List.length_drop]; exact le_line (by omega), fun p3 hp3 => ?_⟩
                have u3 := same_new (o := .lst ((its.take g).map refI ++ (its.drop (g + 1)).map refI)) u2 hp3
                have np3 : p3 ≠ b := (ne_of_none (u2 _ _ hb2) hp3).symm
                refine ⟨(by show 2 ≤ sizeLine; decide), fun tp htp => ?_⟩
                have u4 := same_new (o := .tup [.ref m, .ref p3]) u3 htp
                have npt : p3 ≠ tp := ne_of_none upd_same htp
                refine k _ tp m p3 l2 (cutM its.length (g : Int)) (((KeX.of_keep K1).trans (KeX.of_keep k2)).trans (KeX.of_same u4)) (tabs_same (tabs_keep hT1 hb1 k2) u4) (u4 _ _ hb2) (hl2.mono (by omega)) upd_same np3 ?_ ?_ (still_sub List.filter_sublist) (gaps0 (n := its.length) List.filter_sublist) (by have := List.length_filter_le (fun i : Int => decide (i ≠ (g : Int))) (stillM its.length); rw [stillM_length] at this; unfold cutM; omega)
                · rw [upd_ne npt, upd_same, apply_cut (fr, v, o) hg, List.map_append]
                · exact m3.same (same_new (same_new (same_new (same_new (Same.refl H3) hp1) hp2) hp3) htp)
              · exact ⟨rfl, rfl⟩
            · exact ⟨rfl, rfl⟩
          · rintro σ' H' ⟨rfl, rfl⟩
            -- opened
            walk_at "rd"
            refine ⟨b, _, l1, _, rfl, hb1, hl1, by omega, by omega, by omega, fun r l2 r0 r1 hl2 => ?_⟩
            obtain ⟨g, rfl⟩ : ∃ g : Nat, r = (g : Int) := ⟨r.toNat, by omega⟩
            have hg : g ≤ its.length := by omega
            have k2 : KeepB b H' (upd H' b (.lst l2)) := (KeepB.refl b H').upd
            have hq2 := k2 _ _ hq1 nqb
            have hb2 : (upd H' b (.lst l2)) b = some (.lst l2) := upd_same
            generalize upd H' b (.lst l2) = H2 at k2 hq2 hb2 ⊢
            walk_at "rd"
            refine ⟨by omega, fun _ H3 m s3 n3 m3 => ?_, fun z => absurd ⟨by omega, by omega⟩ z⟩
            rw [Int.toNat_natCast] at m3
            have cv1 : cutV (its.map refI) none (some (g : Int)) = (its.take g).map refI := by
              unfold cutV
              rw [HT.sIx_none, HT.sIx_nat, List.length_map, List.drop_zero, Nat.sub_zero, Nat.min_eq_left (by omega), List.map_take]
            have cv2 : cutV (its.map refI) (some (g : Int)) none = (its.drop g).map refI := by
              unfold cutV
              rw [HT.sIx_none, HT.sIx_nat, List.length_map, Nat.min_eq_left (by omega), List.map_drop]
              exact List.take_of_length_le (by rw [List.length_drop, List.length_map]; exact Nat.le_refl _)
            have hq3 := s3 _ _ hq2
            walk_at "rd"
            refine ⟨q, _, rfl, SqL.of hq3, fun p1 hp1 => ?_⟩
            rw [cv1]
            have u1 := same_new (o := .lst ((its.take g).map refI)) s3 hp1
            walk_at "rd"
            refine ⟨(by show 1 ≤ sizeLine; decide), fun p2 hp2 => ?_⟩
            have u2 := same_new (o := .lst [.ref fr]) u1 hp2
            have c1' := same_new (o := .lst [.ref fr]) (Same.refl _) hp2 p1 _ upd_same
            refine ⟨p1, p2, _, _, rfl, rfl, c1', upd_same, by rw [List.length_map, List.length_take]; exact le_line (by show min g its.length + 1 ≤ 100000; omega), fun p3 hp3 => ?_⟩
            have u3 := same_new (o := .lst ((its.take g).map refI ++ [.ref fr])) u2 hp3
            walk_at "rd"
            refine ⟨q, _, rfl, SqL.of (u3 _ _ hq2), fun p4 hp4 => ?_⟩
            rw [cv2]
            have u4 := same_new (o := .lst ((its.drop g).map refI)) u3 hp4
            have c3' := same_new (o := .lst ((its.drop g).map refI)) (Same.refl _) hp4 p3 _ upd_same
            refine ⟨p3, p4, _, _, rfl, rfl, c3', upd_same, by rw [List.length_append, List.length_map, List.length_map, List.length_take, List.length_drop]; exact le_line (by show min g its.length + 1 + (its.length - g) ≤ 100000; omega), fun p5 hp5 => ?_⟩
            have u5 := same_new (o := .lst ((its.take g).map refI ++ [.ref fr] ++ (its.drop g).map refI)) u4 hp5
            have np5 : p5 ≠ b := (ne_of_none (u4 _ _ hb2) hp5).symm
            refine ⟨(by show 2 ≤ sizeLine; decide), fun tp htp => ?_⟩
            have u6 := same_new (o := .tup [.ref m, .ref p5]) u5 htp
            have npt : p5 ≠ tp := ne_of_none upd_same htp
            refine k _ tp m p5 l2 (openM its.length g) (((KeX.of_keep K1).trans (KeX.of_keep k2)).trans (KeX.of_same u6)) (tabs_same (tabs_keep hT1 hb1 k2) u6) (u6 _ _ hb2) (hl2.mono (by omega)) upd_same np5 ?_ ?_ (ok_insert (still_ok _) g) ?_ (by unfold openM; rw [List.length_append, List.length_append, List.length_take, List.length_drop, stillM_length]; show min g its.length + 1 + (its.length - g) ≤ _; omega)
            · rw [upd_ne npt, upd_same, apply_open (fr, v, o) hg, List.map_append, List.map_append]
              rfl
            · exact m3.same (same_new (same_new (same_new (same_new (same_new (same_new (Same.refl H3) hp1) hp2) hp3) hp4) hp5) htp)
            · unfold openM
              have e1 := gaps0 (n := its.length) (List.take_sublist g (stillM its.length))
              unfold gapsM at e1 ⊢
              have a0 : ((stillM its.length).take g).filter (fun p => decide (p < 0)) = [] := by
                rw [List.filter_eq_nil_iff]
                intro p hp
                have := still_mem.mp (List.mem_of_mem_take hp)
                simp
                omega
              have b0 : ((stillM its.length).drop g).filter (fun p => decide (p < 0)) = [] := by
                rw [List.filter_eq_nil_iff]
                intro p hp
                have := still_mem.mp (List.mem_of_mem_drop hp)
                simp
                omega
              rw [List.filter_append, List.filter_append, a0, b0]
              decide
end
end MV

namespace MV
open PySem PySem.Spec PyProof.Rows L2 SB MM
local macro_rules | `(tactic| walk_at "rd") => `(tactic| repeat (first | (refine ⟨_, rfl, ?_⟩) | (refine ⟨_, _, rfl, rfl, ?_⟩) | (refine ⟨_, _, rfl, ?_⟩) | (refine ⟨rfl, ?_⟩)))
abbrev s_m_len : Stmt := inClass (top 8) 2
abbrev s_m_getitem : Stmt := inClass (top 8) 4
def spLen (K : PySem.W.Frag) (C : Addr) : Sp := fun vs H Q _ => ∃ (a : Addr) (t : Nat) (ps : List Int), vs = [.ref a] ∧ MoveAt K C H a t ps ∧ Q (.int (ps.length : Int)) H
def spGet0 (K : PySem.W.Frag) (C : Addr) : Sp := fun vs H Q _ => ∃ (a : Addr) (t : Nat) (ps : List Int) (j : Nat) (v : Int), vs = [.ref a, .int (j : Int)] ∧ MoveAt K C H a t ps ∧ ps[j]? = some v ∧ Q (.int v) H
section
variable {P : Program} {w : World} {K : PySem.W.Frag} {mg : Str → Option Value} {base : Heap} {C : Addr}
theorem sc_m_len : FnScope ["self"] ["self"] (defScope s_m_len) := ⟨rfl, rfl, rfl, by decide +kernel, rfl, by decide +kernel, by decide +kernel⟩
theorem ok_len {f : Addr} {fd : FuncData} (F : Fun K "__len__" "Move.__len__" s_m_len f fd) (T : TxtM K mg C) : FnR P w K mg base CX0 1 f (spLen K C) := by
  refine fnr F sc_m_len (fun vs H Q E h => ?_) (fun _ _ _ _ _ _ us hl => match us, hl with | [_], _ => rfl) (fun cdv A outer s H vs Q E hr h => ?_)
  · obtain ⟨a, t, ps, rfl, _⟩ := h
    rfl
  · obtain ⟨a, t, ps, rfl, ⟨dx, q, ha, hq⟩, k⟩ := h
    refine ⟨_, (pss_one (ps_ret (pe_callB call_len_seq (by rfl) T.n_len (by decide +kernel) (pa_cons (pe_fld (pv 0) (by rfl)) pa_nil)))), ?_⟩
    walk_at "rd"
    refine ⟨a, C, dx, _, _, rfl, ha, T.cl, T.np, mfs_places _ _, ?_⟩
    refine ⟨q, _, rfl, .inr hq, ?_⟩
    rw [List.length_map]
    exact k
theorem sc_m_getitem : FnScope ["self", "at"] ["self", "at"] (defScope s_m_getitem) := ⟨rfl, rfl, rfl, by decide +kernel, rfl, by decide +kernel, by decide +kernel⟩
theorem ok_getitem {f : Addr} {fd : FuncData} (F : Fun K "__getitem__" "Move.__getitem__" s_m_getitem f fd) (T : TxtM K mg C) : FnR P w K mg base CX0 1 f (spGet0 K C) := by
  refine fnr F sc_m_getitem (fun vs H Q E h => ?_) (fun _ _ _ _ _ _ us hl => match us, hl with | [_, _], _ => rfl) (fun cdv A outer s H vs Q E hr h => ?_)
  · obtain ⟨a, t, ps, j, v, rfl, _⟩ := h
    rfl
  · obtain ⟨a, t, ps, j, v, rfl, ⟨dx, q, ha, hq⟩, hj, k⟩ := h
    have hjl := (List.getElem?_eq_some_iff.mp hj).1
    refine ⟨_, (pss_cons (ps_if (pt_not (pt_chain op_le op_lt pe_int (pv 1) (pe_callB call_len_seq (by rfl) T.n_len (by decide +kernel) (pa_cons (pe_fld (pv 0) (by rfl)) pa_nil)))) (pss_one ps_never) pss_nil)
      (pss_one (ps_ret (pe_ix ix_tup (by exact (pe_fld (pv 0) (by rfl))) (pv 1) (fun _ _ => rfl))))), ?_⟩
    walk_at "rd"
    refine ⟨a, C, dx, _, _, rfl, ha, T.cl, T.np, mfs_places _ _, ?_⟩
    refine ⟨q, _, rfl, .inr hq, ?_⟩
    rw [List.length_map]
    walk_at "rd"
    refine iteNS (by omega) ?_
    walk_at "rd"
    refine ⟨a, C, dx, _, _, rfl, ha, T.cl, T.np, mfs_places _ _, ?_⟩
    walk_at "rd"
    refine ⟨q, _, _, .int v, rfl, rfl, hq, at_of (j := j) (by omega) (by rw [List.getElem?_map, hj]; rfl), ?_⟩
    exact k
end
end MV

namespace MV
open PySem PySem.Spec PyProof.Rows L2 SB MM LamX
local macro_rules | `(tactic| walk_at "rd") => `(tactic| repeat (first | (refine ⟨_, rfl, ?_⟩) | (refine ⟨_, _, rfl, rfl, ?_⟩) | (refine ⟨_, _, rfl, ?_⟩) | (refine ⟨rfl, ?_⟩)))
abbrev s_follows : Stmt := top 14
/-- the items and the list that they began as -/
def Fits (xs : List Int) (its : List Itm) : Prop := MoveOk xs.length (its.map orgI) ∧ ∀ t ∈ its, 0 ≤ t.2.2 → xs[t.2.2.toNat]? = some t.2.1
def spFollows (K : PySem.W.Frag) (C : Addr) : Sp := fun vs H Q _ => ∃ (a st q : Addr) (xs : List Int) (its : List Itm), vs = [.ref a, .ref st, .ref q] ∧ MoveAt K C H a xs.length (its.map orgI) ∧ H st = some (.lst (xs.map V.int)) ∧ H q = some (.lst (its.map refI)) ∧ IA H its ∧ Fits xs its ∧ xs.length ≤ 1000 ∧ its.length ≤ 1000 ∧ ∀ H', Same H H' → Q (.bl true) H'
theorem gaps_org (its : List Itm) : gapsM (its.map orgI) = (its.filter fun t => decide (t.2.2 < 0)).length := by
  unfold gapsM
  rw [List.filter_map, List.length_map]
  congr 1
  apply List.filter_congr
  intro t _
  show decide (orgI t < 0) = decide (t.2.2 < 0)
  unfold orgI
  by_cases c : t.2.2 < 0
  · rw [if_pos c]
    simp [c]
  · rw [if_neg c]
theorem org_neg (t : Itm) : decide (orgI t < 0) = decide (t.2.2 < 0) := by
  unfold orgI
  by_cases c : t.2.2 < 0
  · rw [if_pos c]
    simp [c]
  · rw [if_neg c]
theorem fits_apply {xs : List Int} {its : List Itm} (h : Fits xs its) : applyM (its.map orgI) xs ((its.filter fun t => decide (t.2.2 < 0)).map fun t => t.2.1) = its.map fun t => t.2.1 := by
  have e := apply_filter (f := orgI) (g := fun t : Itm => t.2.1) (h := fun t : Itm => t.2.1) (Y := xs) its fun t ht h0 => by
    unfold orgI at h0 ⊢
    by_cases c : t.2.2 < 0
    · rw [if_pos c] at h0
      exact absurd h0 (by decide)
    · rw [if_neg c]
      exact h.2 t ht (by omega)
  have e2 : (its.filter fun i => decide (orgI i < 0)) = its.filter fun t => decide (t.2.2 < 0) := List.filter_congr fun t _ => org_neg t
  rw [e2] at e
  rw [e]
  apply List.map_congr_left
  intro t _
  by_cases c : orgI t < 0
  · rw [if_pos c]
  · rw [if_neg c]
/-- where the origin idx stands so far -/
def foundTo (its : List Itm) (idx : Int) (i : Nat) : List Int := (stillM i).filter fun j => decide ((its.getD j.toNat (0, 0, -1)).2.2 = idx)
theorem foundTo_succ (its : List Itm) (idx : Int) (i : Nat) : foundTo its idx (i + 1) = foundTo its idx i ++ (if (its.getD i (0, 0, -1)).2.2 = idx then [(i : Int)] else []) := by
  unfold foundTo
  rw [st_succ, List.filter_append]
  congr 1
  by_cases h : (its.getD i (0, 0, -1)).2.2 = idx
  · rw [if_pos h, List.filter_cons_of_pos (by show decide ((its.getD (i : Int).toNat (0, 0, -1)).2.2 = idx) = true; rw [Int.toNat_natCast]; exact decide_eq_true h)]
    rfl
  · rw [if_neg h, List.filter_cons_of_neg (by show ¬ (decide ((its.getD (i : Int).toNat (0, 0, -1)).2.2 = idx) = true); rw [Int.toNat_natCast]; exact fun z => h (of_decide_eq_true z))]
    rfl
theorem found_pos {xs : List Int} {its : List Itm} (h : Fits xs its) {idx : Nat} : (foundTo its (idx : Int) its.length = [] ∧ posM (its.map orgI) (idx : Int) = -1) ∨ ∃ r, foundTo its (idx : Int) its.length = posM (its.map orgI) (idx : Int) :: r := by
  have mem : ∀ p ∈ foundTo its (idx : Int) its.length, ∃ j : Nat, p = (j : Int) ∧ (its.map orgI)[j]? = some (idx : Int) := fun p hp => by
    obtain ⟨h1, h2⟩ := List.mem_filter.mp hp
    have h1 := still_mem.mp h1
    have h2 := of_decide_eq_true h2
    have hl : p.toNat < its.length := by omega
    refine ⟨p.toNat, by omega, ?_⟩
    rw [List.getElem?_map, List.getElem?_eq_getElem hl]
    have e : its.getD p.toNat (0, 0, -1) = its[p.toNat] := by simp [hl]
    rw [e] at h2
    show some (orgI its[p.toNat]) = _
    unfold orgI
    rw [if_neg (by omega), h2]
  cases e : foundTo its (idx : Int) its.length with
  | nil =>
    refine .inl ⟨rfl, posM_none fun hm => ?_⟩
    obtain ⟨t, ht, et⟩ := List.mem_map.mp hm
    obtain ⟨j, hj⟩ := List.mem_iff_getElem?.mp ht
    have hl := (List.getElem?_eq_some_iff.mp hj).1
    have : (j : Int) ∈ foundTo its (idx : Int) its.length := by
      refine List.mem_filter.mpr ⟨still_mem.mpr (by omega), decide_eq_true ?_⟩
      rw [Int.toNat_natCast]
      have e2 : its.getD j (0, 0, -1) = t := by simp [List.getD, hj]
      rw [e2]
      unfold orgI at et
      by_cases c : t.2.2 < 0
      · rw [if_pos c] at et
        omega
      · rw [if_neg c] at et
        exact et
    rw [e] at this
    exact nomatch this
  | cons p r =>
    obtain ⟨j, rfl, hj⟩ := mem p (by rw [e]; exact List.mem_cons_self)
    exact .inr ⟨r, by rw [posM_some h.1 (by omega) hj]⟩
section
variable {P : Program} {w : World} {K : PySem.W.Frag} {mg : Str → Option Value} {base : Heap} {C : Addr}
theorem sc_follows : FnScope ["_law_total", "_law_start", "_law_items", "_law_new", "_law_value", "_law_origin", "_law_back", "_law_index", "_law_found", "_law_at", "_law_item"] ["_law_total", "_law_start", "_law_items"] (defScope s_follows) := ⟨rfl, rfl, rfl, by decide +kernel, rfl, by decide +kernel, by decide +kernel⟩
theorem ok_follows {f : Addr} {fd : FuncData} (F : Fun K "_law_follows" "_law_follows" s_follows f fd) (T : TxtM K mg C) (PRgaps : Pr P w K mg base CX0 1 C "gaps" (spGaps K C)) (CA2 : Ca P w K mg base CX0 3 C (spCall K C)) (MEinvert : Me P w K mg base CX0 3 C "__invert__" (spInv K C))
    (MEgetitem : Me P w K mg base CX0 1 C "__getitem__" (spGet0 K C)) (GI : ∀ g, PySem.W.findIn K (.ref C) "__getitem__" = some (some (.ref g)) → PySem.W.fnIn K g = true) (MElen : Me P w K mg base CX0 1 C "__len__" (spLen K C)) : FnR P w K mg base CX0 5 f (spFollows K C) := by
  refine fnr F sc_follows (fun vs H Q E h => ?_) (fun _ _ _ _ _ _ us hl => match us, hl with | [_, _, _], _ => rfl) (fun cdv A outer s H vs Q E hr h => ?_)
  · obtain ⟨a, st, q, xs, its, rfl, _⟩ := h
    rfl
  · obtain ⟨a, st, q, xs, its, rfl, hm, hst, hq, hI, hF, hz, hz2, k⟩ := h
    refine ⟨_, (pss_cons (ps_setLc (i := 3) (own := [("_law_value", 4), ("_law_origin", 5)]) (by rfl) sc_follows.nd rfl rfl (sw_true rfl rfl rfl (by decide +kernel)) (pi_list (pv 2)) (blkOk_by (own := [("_law_value", 4), ("_law_origin", 5)]) (N := ["_law_total", "_law_start", "_law_items", "_law_new", "_law_value", "_law_origin", "_law_back", "_law_index", "_law_found", "_law_at", "_law_item"]) (sc := defScope s_follows) (by decide +kernel)) (fun _ _ _ _ _ => (pg_tupK (K := K) (n := 2) (by rfl) (by rfl) (pgs_cons (pg_name (i := 4) sc_follows.nd rfl (Or.inl rfl)) (pgs_cons (pg_name (i := 5) sc_follows.nd rfl (Or.inl rfl)) pgs_nil)))) (fun _ _ _ _ _ => by exact (pts_one (pt_cmpR op_lt (pv 5) pe_int (nomark _)))) (fun _ _ _ _ _ => by exact (pv 4)))
      (pss_cons (ps_if (PW.pt (pw_or (pt_cmpR op_ne (pe_pr PRgaps hr (by decide) pass0 (pv 0)) (pe_callB call_len_seq (by rfl) T.n_len (by decide +kernel) (pa_cons (pv 3) pa_nil)) (nomark _)) (pw_or1 (pt_cmpR (op_neD hr.units) (pe_ca (pv 0) CA2 hr (by decide) pass0 (pa_cons (pv 1) (pa_cons (pv 3) pa_nil))) (pe_lc (own := [("_law_value", 4), ("_law_origin", 5)]) (by rfl) sc_follows.nd (pi_list (pv 2)) (blkOk_by (own := [("_law_value", 4), ("_law_origin", 5)]) (N := ["_law_total", "_law_start", "_law_items", "_law_new", "_law_value", "_law_origin", "_law_back", "_law_index", "_law_found", "_law_at", "_law_item"]) (sc := defScope s_follows) (by decide +kernel)) (fun _ _ _ _ _ => (pg_tupK (K := K) (n := 2) (by rfl) (by rfl) (pgs_cons (pg_name (i := 4) sc_follows.nd rfl (Or.inl rfl)) (pgs_cons (pg_name (i := 5) sc_follows.nd rfl (Or.inl rfl)) pgs_nil)))) (fun _ _ _ _ _ => by exact pts_nil) (fun _ _ _ _ _ => by exact (pv 4))) (nomark _))))) (pss_one (ps_ret pe_bl)) pss_nil)
      (pss_cons (ps_set (i := 6) sc_follows.nd rfl (Or.inl rfl) (pe_un (un_ownInv MEinvert hr (by decide) pass0) (pv 0)))
      (pss_cons (ps_for PassesOwn.never rfl (pi_range1 (by rfl) T.n_range (pa_cons (pe_callB call_len_seq (by rfl) T.n_len (by decide +kernel) (pa_cons (pv 1) pa_nil)) pa_nil)) (pg_name (i := 7) sc_follows.nd rfl (Or.inr rfl))
        (pss_cons (ps_setLc (i := 8) (own := [("_law_at", 9), ("_law_item", 10)]) (by rfl) sc_follows.nd rfl rfl (sw_true rfl rfl rfl (by decide +kernel)) (pi_enum (by rfl) T.n_enumerate (pa_cons (pv 2) pa_nil)) (blkOk_by (own := [("_law_at", 9), ("_law_item", 10)]) (N := ["_law_total", "_law_start", "_law_items", "_law_new", "_law_value", "_law_origin", "_law_back", "_law_index", "_law_found", "_law_at", "_law_item"]) (sc := defScope s_follows) (by decide +kernel)) (fun _ _ _ _ _ => (pg_tupK (K := K) (n := 2) (by rfl) (by rfl) (pgs_cons (pg_name (i := 9) sc_follows.nd rfl (Or.inl rfl)) (pgs_cons (pg_name (i := 10) sc_follows.nd rfl (Or.inl rfl)) pgs_nil)))) (fun _ _ _ _ _ => by exact (pts_one (pt_cmpR op_eq (pe_ix (ix_tupK (K := K) (by rfl)) (pv 10) pe_int (fun _ _ => rfl)) (pv 7) (nomark _)))) (fun _ _ _ _ _ => by exact (pv 9)))
        (pss_one (ps_if (pt_cmpR op_ne (pe_ixO MEgetitem hr (by decide) pass0 (pv 6) (pv 7) GI) (pe_ifExp (pt_cmpR (op_neD hr.units) (pv 8) (pe_lst pa_nil) (nomark _)) (pe_ix ix_list (pv 8) pe_int (fun _ _ => rfl)) (pe_un un_neg pe_int)) (nomark _)) (pss_one (ps_ret pe_bl)) pss_nil))))
      (pss_one (ps_ret (pe_and (pe_cmpR op_eq (pe_callB (call_ownLen MElen hr (by decide) pass0) (by rfl) T.n_len (by decide +kernel) (pa_cons (pv 6) pa_nil)) (pe_callB call_len_seq (by rfl) T.n_len (by decide +kernel) (pa_cons (pv 1) pa_nil)) (nomark _)) (pe_one (pe_cmpR op_eq (pe_fld (pv 6) (by rfl)) (pe_callB call_len_seq (by rfl) T.n_len (by decide +kernel) (pa_cons (pv 2) pa_nil)) (nomark _)))))))))), ?_⟩
    walk_at "rd"
    refine ⟨⟨_, SqL.of hq⟩, fun D hD => ?_⟩
    have s1 := same_new (o := .lst []) (Same.refl H) hD
    refine lc_it (walk_list (xs := its.map refI)) (fun i H' => KeepB D (upd H D (.lst [])) H' ∧ H' D = some (.lst ((((its.take i).filter fun t => decide (t.2.2 < 0)).map fun t => t.2.1).map V.int))) ⟨KeepB.refl _ _, upd_same⟩ ?_ ?_ ?_
    · rintro i H' _ ⟨kp, _⟩
      exact SqL.of (kp _ _ (s1 _ _ hq) (ne_of_none hq hD))
    · rintro i x Hz H' hi ⟨kp, hD'⟩ ⟨rfl, hx⟩
      have hi' : i < its.length := by simpa using hi
      have ex : x = .ref its[i].1 := by
        rw [List.getElem?_map, List.getElem?_eq_getElem hi'] at hx
        exact (Option.some.inj hx).symm
      subst ex
      have tk : its.take (i + 1) = its.take i ++ [its[i]] := by rw [List.take_append_getElem hi']
      have hx3 := hI its[i] (List.getElem_mem hi')
      have fl := List.length_filter_le (fun t : Itm => decide (t.2.2 < 0)) (its.take i)
      rw [List.length_take] at fl
      refine ⟨its[i].1, _, rfl, SqT.of (kp _ _ (s1 _ _ hx3) (ne_of_none hx3 hD)), rfl, ?_⟩
      walk_at "rd"
      refine ite2 (fun c => ?_) (fun c => ?_)
      · have h0 : its[i].2.2 < 0 := of_decide_eq_true c
        walk_at "rd"
        refine ⟨_, hD', by rw [List.length_map, List.length_map]; exact lt_line (by omega), kp.upd, ?_⟩
        rw [upd_same, tk, List.filter_append, List.map_append, List.map_append]
        simp [h0]
      · have h0 : ¬ its[i].2.2 < 0 := fun z => c (decide_eq_true z)
        refine ⟨kp, ?_⟩
        rw [hD', tk, List.filter_append]
        simp [h0]
    rintro H2 ⟨kp2, hD2⟩
    have s2 : Same H H2 := fun c o e => kp2 _ _ (s1 _ _ e) (ne_of_none e hD)
    have hlen : (its.map refI).length = its.length := List.length_map _
    rw [hlen, List.take_length] at hD2
    have m2 := hm.same s2
    obtain ⟨dx, pq, ha, hpq⟩ := id m2
    walk_at "rd"
    refine ⟨a, dx, _, rfl, ha, a, _, _, rfl, m2, by rw [List.length_map]; omega, fun H3 s3 => ?_⟩
    walk_at "rd"
    refine ⟨D, _, rfl, .inl (SqL.of (s3 _ _ hD2)), ?_⟩
    rw [List.length_map, List.length_map, gaps_org]
    walk_at "rd"
    refine ifNT (decide_eq_true rfl) ?_
    have S3 := s2.trans s3
    have m3 := m2.same s3
    obtain ⟨dx3, pq3, ha3, hpq3⟩ := id m3
    walk_at "rd"
    refine ⟨.inr ⟨_, _, ha3⟩, a, st, D, xs.length, its.map orgI, xs.map V.int, _, rfl, m3, hF.1, by rw [List.length_map]; omega, .inl (SqL.of (S3 _ _ hst)), .inl (SqL.of (s3 _ _ hD2)), by rw [List.length_map], by rw [List.length_map, List.length_map, gaps_org], fun H4 p4 s4 n4 hp4 => ?_⟩
    have S4 := S3.trans s4
    have ea : applyM (its.map orgI) (xs.map V.int) (((its.filter fun t => decide (t.2.2 < 0)).map fun t => t.2.1).map V.int) = (its.map fun t => t.2.1).map V.int := by
      rw [← apply_map, fits_apply hF]
    rw [ea] at hp4
    walk_at "rd"
    refine ⟨⟨_, SqL.of (S4 _ _ hq)⟩, fun D5 hD5 => ?_⟩
    have s5 := same_new (o := .lst []) (Same.refl H4) hD5
    refine lc_it (walk_list (xs := its.map refI)) (fun i H' => KeepB D5 (upd H4 D5 (.lst [])) H' ∧ H' D5 = some (.lst (((its.take i).map fun t => t.2.1).map V.int))) ⟨KeepB.refl _ _, upd_same⟩ ?_ ?_ ?_
    · rintro i H' _ ⟨kp, _⟩
      exact SqL.of (kp _ _ (s5 _ _ (S4 _ _ hq)) (ne_of_none (S4 _ _ hq) hD5))
    · rintro i x Hz H' hi ⟨kp, hD'⟩ ⟨rfl, hx⟩
      have hi' : i < its.length := by simpa using hi
      have ex : x = .ref its[i].1 := by
        rw [List.getElem?_map, List.getElem?_eq_getElem hi'] at hx
        exact (Option.some.inj hx).symm
      subst ex
      have tk : its.take (i + 1) = its.take i ++ [its[i]] := by rw [List.take_append_getElem hi']
      have hx3 := S4 _ _ (hI its[i] (List.getElem_mem hi'))
      refine ⟨its[i].1, _, rfl, SqT.of (kp _ _ (s5 _ _ hx3) (ne_of_none hx3 hD5)), rfl, ?_⟩
      walk_at "rd"
      refine ⟨_, hD', by rw [List.length_map, List.length_map, List.length_take]; exact lt_line (by omega), kp.upd, ?_⟩
      rw [upd_same, tk, List.map_append, List.map_append]
      rfl
    rintro H6 ⟨kp6, hD6⟩
    have s6 : Same H4 H6 := fun c o e => kp6 _ _ (s5 _ _ e) (ne_of_none e hD5)
    rw [hlen, List.take_length] at hD6
    refine ⟨_, _, dp_ints (SqL.of (s6 _ _ hp4)), dp_ints (SqL.of hD6), shaped_list (sh_ints _), shaped_list (sh_ints _), ?_⟩
    rw [eqv_same (sh_ints _)]
    have S6 := S4.trans s6
    have m6 := (m3.same s4).same s6
    obtain ⟨dx6, pq6, ha6, hpq6⟩ := id m6
    walk_at "rd"
    refine ⟨a, dx6, _, rfl, ha6, a, _, _, rfl, m6, hF.1, by rw [List.length_map]; omega, by omega, fun H7 bk s7 n7 m7 => ?_⟩
    rw [List.length_map] at m7
    have S7 := S6.trans s7
    walk_at "rd"
    refine ⟨st, _, rfl, .inl (SqL.of (S7 _ _ hst)), ?_⟩
    rw [List.length_map]
    walk_at "rd"
    refine ⟨by omega, by omega, ?_⟩
    rw [Int.toNat_natCast]
    refine for_it walk_range (fun i σ H' => ∃ v7 v8 : Option V, σ = [some (.ref a), some (.ref st), some (.ref q), some (.ref D), none, none, some (.ref bk), v7, v8, none, none] ∧ Same H7 H') ⟨none, none, rfl, Same.refl H7⟩ (fun _ _ _ _ _ => trivial) ?_ ?_
    · rintro ix x σ H0 HA hi ⟨v7, v8, rfl, sA⟩ ⟨rfl, ex⟩
      have ex' : x = .int (ix : Int) := by
        rw [ex]
        show V.int (0 + (ix : Int)) = _
        rw [Int.zero_add]
      clear ex
      subst ex'
      have SA := S7.trans sA
      walk_at "rd"
      refine ⟨q, _, rfl, SqL.of (SA _ _ hq), fun DF hDF => ?_⟩
      have sF := same_new (o := .lst []) (Same.refl HA) hDF
      refine lc_it (walk_enum (xs := its.map refI)) (fun i H' => KeepB DF (upd HA DF (.lst [])) H' ∧ H' DF = some (.lst ((foundTo its (ix : Int) i).map V.int))) ⟨KeepB.refl _ _, upd_same⟩ ?_ ?_ ?_
      · rintro i H' _ ⟨kp, _⟩
        exact SqL.of (kp _ _ (sF _ _ (SA _ _ hq)) (ne_of_none (SA _ _ hq) hDF))
      · rintro i x H0 HI hi2 ⟨kp, hL⟩ ⟨T', x0, y0, rfl, hT', rfl, e0, ey⟩
        cases e0
        have hi' : i < its.length := by simpa using hi2
        have hy0 : y0 = .ref its[i].1 := by
          have z : (its.map refI)[i]? = some y0 := ey
          rw [List.getElem?_map, List.getElem?_eq_getElem hi'] at z
          exact (Option.some.inj z).symm
        subst hy0
        have nDT : DF ≠ T' := ne_of_none hL hT'
        have kp2' := kp.new (o := .tup [.int (i : Nat), .ref its[i].1]) hT'
        have hL2 : (upd H0 T' (.tup [.int (i : Nat), .ref its[i].1])) DF = some (.lst ((foundTo its (ix : Int) i).map V.int)) := by rw [upd_ne nDT]; exact hL
        have hx3 := SA _ _ (hI its[i] (List.getElem_mem hi'))
        have hgd : its.getD i (0, 0, -1) = its[i] := by simp [hi']
        have fl : (foundTo its (ix : Int) i).length ≤ i := by
          have := List.length_filter_le (fun j : Int => decide ((its.getD j.toNat (0, 0, -1)).2.2 = (ix : Int))) (stillM i)
          rw [stillM_length] at this
          exact this
        refine ⟨T', _, rfl, SqT.of upd_same, rfl, ?_⟩
        walk_at "rd"
        refine ⟨its[i].1, _, _, .int its[i].2.2, rfl, rfl, SqT.of (kp2' _ _ (sF _ _ hx3) (ne_of_none hx3 hDF)), rfl, ?_⟩
        walk_at "rd"
        refine ite2 (fun c => ?_) (fun c => ?_)
        · have h0 : its[i].2.2 = (ix : Int) := V.int.inj (of_decide_eq_true c)
          walk_at "rd"
          refine ⟨_, hL2, by rw [List.length_map]; exact lt_line (by omega), kp2'.upd, ?_⟩
          rw [upd_same, foundTo_succ, hgd, if_pos h0, List.map_append]
          rfl
        · have h0 : ¬ its[i].2.2 = (ix : Int) := fun z => c (decide_eq_true (by rw [z]))
          refine ⟨kp2', ?_⟩
          rw [foundTo_succ, hgd, if_neg h0, List.append_nil]
          exact hL2
      rintro HB ⟨kpB, hDB⟩
      rw [hlen] at hDB
      have sB : Same HA HB := fun c o e => kpB _ _ (sF _ _ e) (ne_of_none e hDF)
      have SB7 := sA.trans sB
      have mB := m7.same SB7
      obtain ⟨dxB, pqB, haB, hpqB⟩ := id mB
      have hix : (invM xs.length (its.map orgI))[ix]? = some (posM (its.map orgI) (ix : Int)) := invM_get hi
      walk_at "rd"
      refine ⟨bk, dxB, _, rfl, haB, bk, _, _, ix, _, rfl, mB, hix, ?_⟩
      walk_at "rd"
      refine ⟨(by show 0 ≤ sizeLine; decide), fun Z hZ => ?_⟩
      have sZ := same_new (o := .lst []) (Same.refl HB) hZ
      refine ⟨_, _, dp_ints (SqL.of (sZ _ _ hDB)), .lst (SqL.of upd_same) .nil, shaped_list (sh_ints _), shaped_list (fun d hd => nomatch hd), ?_⟩
      rw [eqv_list]
      rcases found_pos hF (idx := ix) with ⟨e1, e2⟩ | ⟨r, e1⟩
      · rw [e1, e2]
        walk_at "rd"
        exact SB7.trans sZ
      · rw [e1]
        walk_at "rd"
        refine ⟨DF, _, _, .int (posM (its.map orgI) (ix : Int)), rfl, rfl, SqL.of (sZ _ _ hDB), at_of (j := 0) (by omega) (by rw [e1]; rfl), ?_⟩
        walk_at "rd"
        refine ifNT (decide_eq_true rfl) ?_
        exact ⟨_, _, rfl, SB7.trans sZ⟩
    · rintro σ HA ⟨v7, v8, rfl, sA⟩
      have SA := S7.trans sA
      have mA := m7.same sA
      obtain ⟨dxA, pqA, haA, hpqA⟩ := id mA
      walk_at "rd"
      refine ⟨bk, dxA, _, rfl, haA, bk, _, _, rfl, mA, (invM xs.length (its.map orgI)).length, rfl, by rw [invM_length]; omega, ?_⟩
      walk_at "rd"
      refine ⟨st, _, rfl, .inl (SqL.of (SA _ _ hst)), ?_⟩
      rw [List.length_map, invM_length]
      walk_at "rd"
      refine ifT (decide_eq_true rfl) ?_
      walk_at "rd"
      refine ⟨bk, C, dxA, _, _, rfl, haA, T.cl, T.nt, mfs_takes _ _, ?_⟩
      walk_at "rd"
      refine ⟨q, _, rfl, .inl (SqL.of (SA _ _ hq)), ?_⟩
      rw [List.length_map]
      have ed : ∀ n : Nat, decide (V.int (n : Int) = V.int (n : Int)) = true := fun n => decide_eq_true rfl
      have kk := k _ SA
      rw [← ed its.length] at kk
      first | exact kk | (walk_at "rd"; exact kk)
end
end MV

namespace MV
open PySem PySem.Spec PyProof.Rows L2 SB MM LamX
local macro_rules | `(tactic| walk_at "rd") => `(tactic| repeat (first | (refine ⟨_, rfl, ?_⟩) | (refine ⟨_, _, rfl, rfl, ?_⟩) | (refine ⟨_, _, rfl, ?_⟩) | (refine ⟨rfl, ?_⟩)))
abbrev s_right : Stmt := top 15
def spRight (K : PySem.W.Frag) (T : List (Addr × Str)) : Sp := fun vs H Q _ => ∃ (b st : Addr) (xs : List Int) (l : List V) (n : Nat), vs = [.ref b, .ref st] ∧ H b = some (.lst l) ∧ BagL l n ∧ n + 100000 < 1000000 ∧ H st = some (.lst (xs.map V.int)) ∧ st ≠ b ∧ xs.length ≤ 40 ∧ Tabs T H ∧
  ∀ (H' : Hp), KeX b H H' → Tabs T H' → Q (.bl true) H'
/-- the start's items, addresses as they come -/
theorem fits_start {xs : List Int} {its : List Itm} (hl : its.length = xs.length) (h : ∀ (i : Nat) (t : Itm), its[i]? = some t → t.2.2 = (i : Int) ∧ xs[i]? = some t.2.1) : its.map orgI = stillM xs.length ∧ Fits xs its := by
  have e : its.map orgI = stillM xs.length := by
    apply List.ext_getElem?
    intro i
    rw [List.getElem?_map]
    by_cases c : i < its.length
    · have e1 := List.getElem?_eq_getElem c
      rw [e1, stillM_at (by omega)]
      have := (h i _ e1).1
      show some (orgI its[i]) = _
      unfold orgI
      rw [this, if_neg (by omega)]
    · rw [List.getElem?_eq_none (by omega), List.getElem?_eq_none (by rw [stillM_length]; omega)]
      rfl
  refine ⟨e, by rw [e]; exact still_ok _, fun t ht h0 => ?_⟩
  obtain ⟨i, hi⟩ := List.mem_iff_getElem?.mp ht
  obtain ⟨a1, a2⟩ := h i t hi
  rw [a1, Int.toNat_natCast]
  exact a2
theorem fits_step {xs : List Int} {its : List Itm} {qs : List Int} {fr : Itm} (h : Fits xs its) (ok : MoveOk its.length qs) (hg : gapsM qs ≤ 1) (hf : fr.2.2 < 0) : Fits xs (applyM qs its [fr]) ∧ prodM (its.map orgI) qs = (applyM qs its [fr]).map orgI := by
  have e := prod_org ok hg hf
  refine ⟨⟨?_, fun t ht h0 => ?_⟩, e⟩
  · rw [← e]
    exact prod_ok h.1 (by rw [List.length_map]; exact ok)
  · rcases mem_apply _ _ _ ht with z | z
    · exact h.2 t z h0
    · rw [List.mem_singleton.mp z] at h0
      omega
/-- the product behind the turn -/
def Behind (K : PySem.W.Frag) (C : Addr) (H : Hp) (tot : List Int) (t0 : Nat) (v6 v7 : V) : Prop := (∃ b6, v6 = .ref b6) ∧ (v7 = .non ∨ ∃ (b6 b7 : Addr) (ps qs : List Int), v6 = .ref b6 ∧ v7 = .ref b7 ∧ MoveAt K C H b6 t0 ps ∧ MoveAt K C H b7 ps.length qs ∧ MoveOk t0 ps ∧ MoveOk ps.length qs ∧ prodM ps qs = tot ∧ ps.length ≤ 1000)
theorem Behind.kex {K : PySem.W.Frag} {C : Addr} {H H' : Hp} {tot : List Int} {t0 : Nat} {v6 v7 : V} {b : Addr} {l : List V} (h : Behind K C H tot t0 v6 v7) (hb : H b = some (.lst l)) (e : KeX b H H') : Behind K C H' tot t0 v6 v7 := by
  refine ⟨h.1, h.2.imp id ?_⟩
  rintro ⟨b6, b7, ps, qs, e1, e2, m1, m2, r⟩
  exact ⟨b6, b7, ps, qs, e1, e2, e.move hb m1, e.move hb m2, r⟩
section
variable {P : Program} {w : World} {K : PySem.W.Frag} {mg : Str → Option Value} {base : Heap} {C : Addr} {TS : List (Addr × Str)}
theorem sc_right : FnScope ["_law_bag_here", "_law_start", "_law_items", "_law_k", "_law_value", "_law_total", "_law_before", "_law_behind", "_law_deeds", "_law_turned", "_law_turn", "_law_move"] ["_law_bag_here", "_law_start"] (defScope s_right) := ⟨rfl, rfl, rfl, by decide +kernel, rfl, by decide +kernel, by decide +kernel⟩
theorem ok_right {f : Addr} {fd : FuncData} (F : Fun K "_law_right" "_law_right" s_right f fd) (T : TxtM K mg C) (SMstill : Sm P w K mg base CX0 3 "Move" "still" (spStill K C)) (MEmul : Me P w K mg base CX0 3 C "__mul__" (spMul K C)) (MEeq : Me P w K mg base CX0 1 C "__eq__" (spEq K C))
    (Dtake : Cl P w K mg base CX0 1 "_law_take" spTake) (Dcount : Cl P w K mg base CX0 2 "_law_count" spCount) (Ddeed : Cl P w K mg base CX0 6 "_law_deed" (spDeed K C TS)) (Dfollows : Cl P w K mg base CX0 5 "_law_follows" (spFollows K C)) : FnR P w K mg base CX0 7 f (spRight K TS) := by
  refine fnr F sc_right (fun vs H Q E h => ?_) (fun _ _ _ _ _ _ us hl => match us, hl with | [_, _], _ => rfl) (fun cdv A outer s H vs Q E hr h => ?_)
  · obtain ⟨b, st, xs, l, n, rfl, _⟩ := h
    rfl
  · obtain ⟨b, st, xs, l, n, rfl, hb, hl, hn, hst, nsb, hz, hT, k⟩ := h
    refine ⟨_, (pss_cons (ps_setLc (i := 2) (own := [("_law_k", 3), ("_law_value", 4)]) (by rfl) sc_right.nd rfl rfl (sw_true rfl rfl rfl (by decide +kernel)) (pi_enum (by rfl) T.n_enumerate (pa_cons (pv 1) pa_nil)) (blkOk_by (own := [("_law_k", 3), ("_law_value", 4)]) (N := ["_law_bag_here", "_law_start", "_law_items", "_law_k", "_law_value", "_law_total", "_law_before", "_law_behind", "_law_deeds", "_law_turned", "_law_turn", "_law_move"]) (sc := defScope s_right) (by decide +kernel)) (fun _ _ _ _ _ => (pg_tupK (K := K) (n := 2) (by rfl) (by rfl) (pgs_cons (pg_name (i := 3) sc_right.nd rfl (Or.inl rfl)) (pgs_cons (pg_name (i := 4) sc_right.nd rfl (Or.inl rfl)) pgs_nil)))) (fun _ _ _ _ _ => by exact pts_nil) (fun _ _ _ _ _ => by exact (pe_tup (pa_cons (pv 4) (pa_cons (pv 3) pa_nil)))))
      (pss_cons (ps_par3 (i := 5) (j := 6) (l := 7) (by rfl) sc_right.nd rfl rfl rfl (by decide) (by decide) (by decide) rfl rfl rfl (pa_cons (pe_sm SMstill hr (by decide) (by rfl) pass0 (pa_cons (pe_callB call_len_seq (by rfl) T.n_len (by decide +kernel) (pa_cons (pv 1) pa_nil)) pa_nil)) (pa_cons (pe_sm SMstill hr (by decide) (by rfl) pass0 (pa_cons (pe_callB call_len_seq (by rfl) T.n_len (by decide +kernel) (pa_cons (pv 1) pa_nil)) pa_nil)) (pa_cons pe_non pa_nil))) (by rfl))
      (pss_cons (ps_set (i := 8) sc_right.nd rfl (Or.inl rfl) (pe_op op_add (pe_cl Dcount hr (by decide) (by rfl) pass0 (pa_cons (pv 0) (pa_cons pe_int pa_nil))) (pe_cl Dtake hr (by decide) (by rfl) pass0 (pa_cons (pv 0) (pa_cons pe_int pa_nil)))))
      (pss_cons (ps_set (i := 9) sc_right.nd rfl (Or.inl rfl) (pe_cl Dtake hr (by decide) (by rfl) pass0 (pa_cons (pv 0) (pa_cons (pe_op op_add (pv 8) pe_int) pa_nil))))
      (pss_cons (ps_for PassesOwn.never rfl (pi_range1 (by rfl) T.n_range (pa_cons (pv 8) pa_nil)) (pg_name (i := 10) sc_right.nd rfl (Or.inl rfl))
        (C8.pss_cut (ps_if (pt_cmpR op_eq (pv 10) (pv 9) (nomark _)) (pss_one (ps_par (i := 6) (j := 7) (by rfl) sc_right.nd rfl rfl (by decide) rfl rfl (pa_cons (pv 5) (pa_cons (pe_sm SMstill hr (by decide) (by rfl) pass0 (pa_cons (pe_callB call_len_seq (by rfl) T.n_len (by decide +kernel) (pa_cons (pv 2) pa_nil)) pa_nil)) pa_nil)) (by rfl))) pss_nil)
        (pss_cons (ps_asg (pe_cl Ddeed hr (by decide) (by rfl) pass0 (pa_cons (pv 0) (pa_cons (pv 2) (pa_cons (pe_tup (pa_cons (pe_cl Dtake hr (by decide) (by rfl) pass0 (pa_cons (pv 0) (pa_cons pe_int pa_nil))) (pa_cons (pe_op op_sub (pe_un un_neg pe_int) (pv 10)) pa_nil))) pa_nil)))) (pg_tup rfl (pgs_cons (pg_name (i := 11) sc_right.nd rfl (Or.inl rfl)) (pgs_cons (pg_name (i := 2) sc_right.nd rfl (Or.inl rfl)) pgs_nil))))
        (pss_cons (ps_set (i := 5) sc_right.nd rfl (Or.inl rfl) (pe_op (op_own2 MEmul rfl T.sf_Move hr (by decide) pass0) (pv 5) (pv 11)))
        (C8.pss_cut (ps_set (i := 7) sc_right.nd rfl (Or.inl rfl) (pe_ifExp (pt_cmpR op_notN (pv 7) pe_non (nomark _)) (pe_op (op_own2 MEmul rfl T.sf_Move hr (by decide) pass0) (pv 7) (pv 11)) pe_non))
        (pss_one (ps_if (pt_not (pt_val (pe_cl Dfollows hr (by decide) (by rfl) pass0 (pa_cons (pv 5) (pa_cons (pv 1) (pa_cons (pv 2) pa_nil)))))) (pss_one (ps_ret pe_bl)) pss_nil)))))))
      (pss_one (ps_ret (pe_or (pe_cmpR op_isN (pv 7) pe_non (nomark _)) (pe_one (pe_cmpR (op_ownEq MEeq T.nf_Move hr (by decide) pass0) (pe_op (op_own2 MEmul rfl T.sf_Move hr (by decide) pass0) (pv 6) (pv 7)) (pv 5) (nomark _))))))))))), ?_⟩
    walk_at "rd"
    refine ⟨st, _, rfl, SqL.of hst, fun D hD => ?_⟩
    have s1 := same_new (o := .lst []) (Same.refl H) hD
    refine lc_it (walk_enum (xs := xs.map V.int)) (fun i H' => ∃ its : List Itm, KeepB D (upd H D (.lst [])) H' ∧ H' D = some (.lst (its.map refI)) ∧ IA H' its ∧ its.length = i ∧ ∀ (j : Nat) (t : Itm), its[j]? = some t → t.2.2 = (j : Int) ∧ xs[j]? = some t.2.1) ⟨[], KeepB.refl _ _, upd_same, (fun _ z => nomatch z), rfl, fun j t z => by simp at z⟩ ?_ ?_ ?_
    · rintro i H' _ ⟨_, kp, _⟩
      exact SqL.of (kp _ _ (s1 _ _ hst) (ne_of_none hst hD))
    · rintro i x H0 HI hi2 ⟨its, kp, hL, hI, hlen, hall⟩ ⟨T', x0, y0, rfl, hT', rfl, e0, ey⟩
      cases e0
      have hi' : i < xs.length := by simpa using hi2
      have hy0 : y0 = .int xs[i] := by
        have z : (xs.map V.int)[i]? = some y0 := ey
        rw [List.getElem?_map, List.getElem?_eq_getElem hi'] at z
        exact (Option.some.inj z).symm
      subst hy0
      have nDT : D ≠ T' := ne_of_none hL hT'
      have kp2 := kp.new (o := .tup [.int (i : Nat), .int xs[i]]) hT'
      have s2 := same_new (o := .tup [.int (i : Nat), .int xs[i]]) (Same.refl H0) hT'
      refine ⟨T', _, rfl, SqT.of upd_same, rfl, ?_⟩
      walk_at "rd"
      refine ⟨(by show 2 ≤ sizeLine; decide), fun T2 hT2 => ?_⟩
      have s3 := same_new (o := .tup [.int xs[i], .int (i : Nat)]) s2 hT2
      have kp3 := kp2.new (o := .tup [.int xs[i], .int (i : Nat)]) hT2
      have hL3 := s3 _ _ hL
      refine ⟨_, hL3, by rw [List.length_map]; exact lt_line (by omega), its ++ [(T2, xs[i], (i : Int))], kp3.upd, ?_, ?_, by rw [List.length_append, hlen]; rfl, ?_⟩
      · rw [upd_same, List.map_append]
        rfl
      · have nT2D : T2 ≠ D := (ne_of_none (s2 _ _ hL) hT2).symm
        intro t ht
        rcases List.mem_append.mp ht with z | z
        · have := s3 _ _ (hI t z)
          rw [upd_ne (ne_of this hL3 (by intro z; cases z))]
          exact this
        · rw [List.mem_singleton.mp z]
          show (upd _ D _) T2 = _
          rw [upd_ne nT2D]
          exact upd_same
      · intro j t ht
        by_cases c : j < its.length
        · rw [List.getElem?_append_left c] at ht
          exact hall j t ht
        · rw [List.getElem?_append_right (by omega)] at ht
          have hj : j = i := by
            have := (List.getElem?_eq_some_iff.mp ht).1
            simp at this
            omega
          subst hj
          rw [hlen, Nat.sub_self] at ht
          have e : t = (T2, xs[j], (j : Int)) := (Option.some.inj ht).symm
          subst e
          exact ⟨rfl, List.getElem?_eq_getElem hi'⟩
    rintro H2 ⟨its0, kp2, hD2, hI2, hlen0, hall⟩
    rw [List.length_map] at hlen0
    obtain ⟨eo, fit0⟩ := fits_start hlen0 hall
    have s2 : Same H H2 := fun c o e => kp2 _ _ (s1 _ _ e) (ne_of_none e hD)
    have nDb : D ≠ b := (ne_of_none hb hD).symm
    walk_at "rd"
    refine ⟨st, _, rfl, .inl (SqL.of (s2 _ _ hst)), ?_⟩
    rw [List.length_map]
    walk_at "rd"
    refine ⟨by omega, fun H3 a3 s3 n3 m3 => ?_⟩
    have S3 := s2.trans s3
    walk_at "rd"
    refine ⟨st, _, rfl, .inl (SqL.of (S3 _ _ hst)), ?_⟩
    rw [List.length_map]
    walk_at "rd"
    refine ⟨by omega, fun H4 a4 s4 n4 m4 => ?_⟩
    have S4 := S3.trans s4
    have hb4 := S4 _ _ hb
    refine ⟨_, _, _, rfl, ?_⟩
    walk_at "rd"
    refine ⟨b, 30, l, n, rfl, hb4, hl, by omega, by omega, fun dc l5 hdc hl5 => ?_⟩
    have hdc' : dc ≤ 30 := by omega
    walk_at "rd"
    refine ⟨b, 7, l5, _, rfl, upd_same, hl5, by omega, by decide, by decide, fun dx l6 d0 d1 hl6 => ?_⟩
    rw [upd_upd]
    obtain ⟨nd, end_, hnd⟩ : ∃ nd : Nat, (dc : Int) + dx = (nd : Int) ∧ nd ≤ 36 := ⟨((dc : Int) + dx).toNat, by omega, by omega⟩
    walk_at "rd"
    refine ⟨b, _, l6, _, rfl, upd_same, hl6, by omega, by omega, by omega, fun tn l7 t0 t1 hl7 => ?_⟩
    rw [upd_upd]
    have k7 : KeepB b H4 (upd H4 b (.lst l7)) := (KeepB.refl b H4).upd
    have K7 : KeX b H (upd H4 b (.lst l7)) := (KeX.of_same S4).trans (KeX.of_keep k7)
    walk_at "rd"
    refine ⟨by omega, by omega, ?_⟩
    have enn : ((dc : Int) + dx).toNat = nd := by omega
    rw [enn]
    refine for_it walk_range (fun i σ H' => ∃ (q a5 : Addr) (v6 v7 : V) (v10 v11 : Option V) (its : List Itm) (l' : List V), σ = [some (.ref b), some (.ref st), some (.ref q), none, none, some (.ref a5), some v6, some v7, some (.int ((dc : Int) + dx)), some (.int tn), v10, v11] ∧
      KeX b H H' ∧ Tabs TS H' ∧ H' b = some (.lst l') ∧ BagL l' (n + 4 + 300 * i) ∧ H' q = some (.lst (its.map refI)) ∧ q ≠ b ∧ IA H' its ∧ Fits xs its ∧ its.length ≤ 40 + i ∧ MoveAt K C H' a5 xs.length (its.map orgI) ∧ Behind K C H' (its.map orgI) xs.length v6 v7) ?_ (fun _ _ _ _ _ => trivial) ?_ ?_
    · refine ⟨D, a3, .ref a4, .non, none, none, its0, l7, rfl, K7, tabs_keep (tabs_same hT S4) hb4 k7, upd_same, hl7, k7 _ _ ((s3.trans s4) _ _ hD2) nDb, nDb, (hI2.same (s3.trans s4)).keep hb4 k7, fit0, by omega, ?_, ⟨a4, rfl⟩, .inl rfl⟩
      rw [eo]
      exact (m3.same s4).keep hb4 k7
    · rintro i x σ Hz HA hi ⟨q, a5, v6, v7, v10, v11, its, l', rfl, xA, tA, hbA, hlA, hqA, nqb, hIA, fit, hlen, mA, bhA⟩ ⟨rfl, ex⟩
      have ex' : x = .int (i : Int) := by
        rw [ex]
        show V.int (0 + (i : Int)) = _
        rw [Int.zero_add]
      clear ex
      subst ex'
      have hi36 : i < 36 := by omega
      refine ⟨fun σ' H' => ∃ v6' v7' : V, σ' = [some (.ref b), some (.ref st), some (.ref q), none, none, some (.ref a5), some v6', some v7', some (.int ((dc : Int) + dx)), some (.int tn), some (.int (i : Int)), v11] ∧ Same HA H' ∧ Behind K C H' (its.map orgI) xs.length v6' v7', ?_, ?_⟩
      · walk_at "rd"
        refine ite2 (fun c => ?_) (fun c => ?_)
        · walk_at "rd"
          refine ⟨q, _, rfl, .inl (SqL.of hqA), ?_⟩
          rw [List.length_map]
          walk_at "rd"
          refine ⟨by omega, fun H2' p2 s2' n2' m2' => ?_⟩
          refine ⟨_, _, rfl, ?_⟩
          refine ⟨.ref a5, .ref p2, rfl, s2', ⟨a5, rfl⟩, .inr ⟨a5, p2, its.map orgI, stillM its.length, rfl, rfl, mA.same s2', by rw [List.length_map]; exact m2', fit.1, by rw [List.length_map]; exact still_ok _, ?_, by rw [List.length_map]; omega⟩⟩
          have := prod_still (its.map orgI)
          rw [List.length_map] at this
          exact this
        · exact ⟨v6, v7, rfl, Same.refl _, bhA⟩
      · rintro σ' HB ⟨v6', v7', rfl, sB, bhB⟩
        have hbB := sB _ _ hbA
        walk_at "rd"
        refine ⟨b, 9, l', _, rfl, hbB, hlA, by omega, by decide, by decide, fun r lC r0 r1 hlC => ?_⟩
        have kC : KeepB b HB (upd HB b (.lst lC)) := (KeepB.refl b HB).upd
        have hbC : (upd HB b (.lst lC)) b = some (.lst lC) := upd_same
        generalize upd HB b (.lst lC) = HC at kC hbC ⊢
        walk_at "rd"
        refine ⟨(by show 2 ≤ sizeLine; decide), fun fr hfr => ?_⟩
        have kD := kC.new (o := .tup [.int r, (fun i j : Int => V.int (i - j)) (-1) (i : Int)]) hfr
        have hbD : (upd HC fr (.tup [.int r, (fun i j : Int => V.int (i - j)) (-1) (i : Int)])) b = some (.lst lC) := by rw [upd_ne (ne_of_none hbC hfr)]; exact hbC
        have hfD : (upd HC fr (.tup [.int r, (fun i j : Int => V.int (i - j)) (-1) (i : Int)])) fr = some (.tup [.int r, .int (-1 - (i : Int))]) := upd_same
        generalize upd HC fr (.tup [.int r, (fun i j : Int => V.int (i - j)) (-1) (i : Int)]) = HD at kD hbD hfD ⊢
        have hqD := kD _ _ (sB _ _ hqA) nqb
        have tD := tabs_keep (tabs_same tA sB) hbB kD
        have xD : KeX b H HD := (xA.trans (KeX.of_same sB)).trans (KeX.of_keep kD)
        walk_at "rd"
        refine ⟨b, q, fr, its, r, -1 - (i : Int), lC, _, rfl, hbD, hlC, by omega, hqD, nqb, (hIA.same sB).keep hbB kD, hfD, by omega, tD, fun HE tp m q' lE qs xE tE hbE hlE htp nq' hq' mm okq gp lq => ?_⟩
        refine ⟨tp, _, rfl, SqT.of htp, rfl, ?_⟩
        obtain ⟨fit', ep⟩ := fits_step (fr := (fr, r, -1 - (i : Int))) fit okq gp (show -1 - (i : Int) < 0 by omega)
        have its'l : (applyM qs its [(fr, r, -1 - (i : Int))]).length = qs.length := apply_length qs its _ (ok_range okq) gp
        have mAE : MoveAt K C HE a5 xs.length (its.map orgI) := (KeX.of_keep kD |>.trans xE).move hbB (mA.same sB)
        have bhE := bhB.kex hbB ((KeX.of_keep kD).trans xE)
        have frE := xE _ _ hfD (ne_of hfD hbD (by intro z; cases z)) (fun _ z => by cases z)
        have IE : IA HE (applyM qs its [(fr, r, -1 - (i : Int))]) := fun t ht => by
          rcases mem_apply _ _ _ ht with z | z
          · exact (((hIA.same sB).keep hbB kD).kex hbD xE) t z
          · rw [List.mem_singleton.mp z]
            exact frE
        generalize applyM qs its [(fr, r, -1 - (i : Int))] = its' at hq' fit' ep its'l IE
        obtain ⟨dx5, p5, h5, hp5⟩ := id mAE
        obtain ⟨dxm, pm, hmm, hpm⟩ := id mm
        walk_at "rd"
        refine ⟨a5, dx5, _, m, dxm, _, rfl, rfl, h5, hmm, a5, m, _, _, qs, rfl, mAE, by rw [List.length_map]; exact mm, fit.1, by rw [List.length_map]; exact okq, by omega, fun HF a6 sF nF mF => ?_⟩
        rw [ep] at mF
        have hbF := sF _ _ hbE
        refine ⟨fun σ' H' => ∃ v7'' : V, σ' = [some (.ref b), some (.ref st), some (.ref q'), none, none, some (.ref a6), some v6', some v7'', some (.int ((dc : Int) + dx)), some (.int tn), some (.int (i : Int)), some (.ref m)] ∧ Same HF H' ∧ Behind K C H' (its'.map orgI) xs.length v6' v7'', ?_, ?_⟩
        · obtain ⟨b6e, hcase⟩ := bhE
          rcases hcase with rfl | ⟨b6, b7, ps0, qs0, rfl, rfl, m60, m70, ok0, okq0, e0, hl0⟩
          · walk_at "rd"
            exact ⟨Same.refl _, b6e, .inl rfl⟩
          · have lq0 : qs0.length = its.length := by
              have := congrArg List.length e0
              rw [prodM_length, List.length_map] at this
              exact this
            obtain ⟨dx7, p7, h7, hp7⟩ := id (m70.same sF)
            walk_at "rd"
            refine ⟨b7, dx7, _, m, dxm, _, rfl, rfl, h7, sF _ _ hmm, b7, m, _, _, qs, rfl, m70.same sF, by rw [lq0]; exact mm.same sF, okq0, by rw [lq0]; exact okq, by omega, fun HG a7 sG nG mG => ?_⟩
            refine ⟨.ref a7, rfl, sG, ⟨b6, rfl⟩, .inr ⟨b6, a7, ps0, prodM qs0 qs, rfl, rfl, (m60.same sF).same sG, mG, ok0, prod_ok okq0 (by rw [lq0]; exact okq), ?_, hl0⟩⟩
            rw [← prod_assoc (by rw [lq0]; exact okq), e0, ep]
        · rintro σ' HG ⟨v7'', rfl, sG, bhG⟩
          have SG := sF.trans sG
          have xG : KeX b H HG := (xD.trans xE).trans (KeX.of_same SG)
          have hqG := SG _ _ hq'
          have IG := IE.same SG
          have mG := mF.same sG
          walk_at "rd"
          refine ⟨a6, st, q', xs, its', rfl, mG, xG _ _ hst nsb (fun _ z => by cases z), hqG, IG, fit', by omega, by omega, fun HX sX => ?_⟩
          walk_at "rd"
          refine ⟨q', a6, v6', v7'', _, _, its', lE, rfl, xG.trans (KeX.of_same sX), tabs_same tE (SG.trans sX), sX _ _ (SG _ _ hbE), hlE.mono (by omega), sX _ _ hqG, nq', IG.same sX, fit', by omega, mG.same sX, bhG.kex (SG _ _ hbE) (KeX.of_same sX)⟩
    · rintro σ HA ⟨q, a5, v6, v7, v10, v11, its, l', rfl, xA, tA, hbA, hlA, hqA, nqb, hIA, fit, hlen, mA, ⟨b6, rfl⟩, bh⟩
      rcases bh with rfl | ⟨b6', b7, ps0, qs0, e6, rfl, m60, m70, ok0, okq0, e0, hl0⟩
      · walk_at "rd"
        exact k _ xA tA
      · cases e6
        have lq0 : qs0.length = its.length := by
          have := congrArg List.length e0
          rw [prodM_length, List.length_map] at this
          exact this
        obtain ⟨dx6, p6, h6, hp6⟩ := id m60
        obtain ⟨dx7, p7, h7, hp7⟩ := id m70
        walk_at "rd"
        refine ⟨b6, dx6, _, b7, dx7, _, rfl, rfl, h6, h7, b6, b7, _, _, qs0, rfl, m60, m70, ok0, okq0, by omega, fun HB a8 sB nB mB => ?_⟩
        rw [e0] at mB
        obtain ⟨dx8, p8, h8, hp8⟩ := id mB
        obtain ⟨dx5, p5, h5, hp5⟩ := id (mA.same sB)
        walk_at "rd"
        refine ⟨a8, dx8, _, a5, dx5, _, rfl, rfl, h8, h5, a8, a5, _, _, _, _, rfl, mB, mA.same sB, ?_⟩
        rw [decide_eq_true (⟨rfl, rfl⟩ : xs.length = xs.length ∧ its.map orgI = its.map orgI)]
        exact k _ (xA.trans (KeX.of_same sB)) (tabs_same tA sB)
end
end MV

namespace MV
open PySem PySem.Spec PyProof.Rows L2 SB MM LamX
local macro_rules | `(tactic| walk_at "rd") => `(tactic| repeat (first | (refine ⟨_, rfl, ?_⟩) | (refine ⟨_, _, rfl, rfl, ?_⟩) | (refine ⟨_, _, rfl, ?_⟩) | (refine ⟨rfl, ?_⟩)))
abbrev s_law : Stmt := top 16
abbrev s_NoPlace : Stmt := inClass (top 3) 0
def spLaw (K : PySem.W.Frag) (T : List (Addr × Str)) : Sp := fun vs H Q _ => ∃ (a : Addr) (ns : List Int), vs = [.ref a] ∧ SqL K H a (ns.map V.int) ∧ ns.length ≤ 63 ∧ Tabs T H ∧ ∀ H', Q (.bl true) H'
section
variable {P : Program} {w : World} {K : PySem.W.Frag} {mg : Str → Option Value} {base : Heap} {C : Addr} {TS : List (Addr × Str)}
theorem sc_law : FnScope ["_law_script", "_law_at", "_law_bag_here", "_law_many", "_law_k"] ["_law_script"] (defScope s_law) := ⟨rfl, rfl, rfl, by decide +kernel, rfl, by decide +kernel, by decide +kernel⟩
theorem ok_law {f : Addr} {fd : FuncData} (F : Fun K "law" "law" s_law f fd) (T : TxtM K mg C)
    (Dbag : Cl P w K mg base CX0 1 "_law_bag" (spBag K)) (Dtake : Cl P w K mg base CX0 1 "_law_take" spTake) (Dcount : Cl P w K mg base CX0 2 "_law_count" spCount)
    (Dright : Cl P w K mg base CX0 7 "_law_right" (spRight K TS)) : FnOk P w K mg base CX0 8 f fd ["_law_script"] (spLaw K TS) := by
  refine F.ok sc_law (fun vs H Q E h => ?_) (fun cdv A outer s H vs Q E hr h => ?_)
  · obtain ⟨a, ns, rfl, _⟩ := h
    rfl
  · obtain ⟨a, ns, rfl, hS, hlen, hT, k⟩ := h
    refine ⟨_, (pss_cons (ps_for PassesOwn.never rfl (pi_range1 (by rfl) T.n_range (pa_cons (pe_callB (call_max2 rfl) (by rfl) T.n_max (by decide +kernel) (pa_cons pe_int (pa_cons (pe_callB (call_min2 rfl) (by rfl) T.n_min (by decide +kernel) (pa_cons pe_int (pa_cons (pe_callB call_len_seq (by rfl) T.n_len (by decide +kernel) (pa_cons (pv 0) pa_nil)) pa_nil))) pa_nil))) pa_nil)) (pg_name (i := 1) sc_law.nd rfl (Or.inl rfl))
        (pss_cons (ps_set (i := 2) sc_law.nd rfl (Or.inr rfl) (pe_cl Dbag hr (by decide) (by rfl) pass0 (pa_cons (pv 0) (pa_cons (pv 1) pa_nil))))
        (pss_cons (ps_set (i := 3) sc_law.nd rfl (Or.inl rfl) (pe_cl Dcount hr (by decide) (by rfl) pass0 (pa_cons (pv 2) (pa_cons pe_int pa_nil))))
        (pss_one (ps_if (pt_not (pt_val (pe_cl Dright hr (by decide) (by rfl) pass0 (pa_cons (pv 2) (pa_cons (pe_lc (own := [("_law_k", 4)]) (by rfl) sc_law.nd (pi_range1 (by rfl) T.n_range (pa_cons (pv 3) pa_nil)) (blkOk_by (own := [("_law_k", 4)]) (N := ["_law_script", "_law_at", "_law_bag_here", "_law_many", "_law_k"]) (sc := defScope s_law) (by decide +kernel)) (fun _ _ _ _ _ => (pg_name (i := 4) sc_law.nd rfl (Or.inl rfl))) (fun _ _ _ _ _ => by exact pts_nil) (fun _ _ _ _ _ => by exact (pe_cl Dtake hr (by decide) (by rfl) pass0 (pa_cons (pv 2) (pa_cons (pe_op op_add pe_int (pe_op op_mul (pe_op op_pow pe_int pe_int) (pe_cl Dtake hr (by decide) (by rfl) pass0 (pa_cons (pv 2) (pa_cons pe_int pa_nil))))) pa_nil))))) pa_nil))))) (pss_one (ps_ret pe_bl)) pss_nil)))))
      (pss_one (ps_ret pe_bl))), ?_⟩
    walk_at "rd"
    refine ⟨a, _, rfl, .inl hS, ?_⟩
    rw [List.length_map]
    walk_at "rd"
    have hm : ∃ m : Nat, (if (if (ns.length : Int) < 4 then (ns.length : Int) else 4) > 1 then (if (ns.length : Int) < 4 then (ns.length : Int) else 4) else 1) = (m : Int) ∧ m ≤ 4 := by
      by_cases c : (ns.length : Int) < 4
      · rw [if_pos c]
        by_cases c2 : (ns.length : Int) > 1
        · rw [if_pos c2]; exact ⟨ns.length, rfl, by omega⟩
        · rw [if_neg c2]; exact ⟨1, rfl, by omega⟩
      · rw [if_neg c]; exact ⟨4, rfl, by omega⟩
    obtain ⟨m, em, hm4⟩ := hm
    rw [em]
    refine ⟨by omega, by omega, ?_⟩
    rw [Int.toNat_natCast]
    refine for_it walk_range (fun i σ H' => ∃ v1 v2 v3 v4 : Option V, σ = [some (.ref a), v1, v2, v3, v4] ∧ ExtN H H' ∧ Tabs TS H') ⟨none, none, none, none, rfl, ExtN.refl H, hT⟩ (fun _ _ _ _ _ => trivial) ?_ ?_
    · rintro ii x σ H0 H' hi ⟨v1, v2, v3, v4, rfl, sm, hT'⟩ ⟨rfl, rfl⟩
      walk_at "rd"
      refine ⟨a, ns, _, rfl, ext_sqL sm hS, by omega, by omega, by omega, fun b l nb hl => ?_⟩
      walk_at "rd"
      refine ⟨b, 30, l, 0, rfl, upd_same, hl, by omega, by omega, fun t l1 ht hl1 => ?_⟩
      rw [upd_upd]
      have u1 := same_new (o := .lst l1) (Same.refl H') nb
      have ht' : t ≤ 30 := by omega
      walk_at "rd"
      refine ⟨by omega, by omega, fun D hD => ?_⟩
      rw [Int.toNat_natCast]
      have nbD : b ≠ D := ne_of_none upd_same hD
      have nD' : H' D = none := u1.free hD
      refine lc_it walk_range (fun i H2 => ∃ (xs : List Int) (l' : List V), Same H' H2 ∧ H2 D = some (.lst (xs.map V.int)) ∧ xs.length = i ∧ H2 b = some (.lst l') ∧ BagL l' (2 + 2 * i)) ⟨[], l1, same_new u1 hD, upd_same, rfl, by rw [upd_ne nbD]; exact upd_same, hl1⟩ (fun _ _ _ _ => trivial) ?_ ?_
      · rintro i x H0 HI hi2 ⟨xs, l', e1, e2, e3, e4, e5⟩ ⟨rfl, rfl⟩
        walk_at "rd"
        refine ⟨⟨by decide, by decide, by decide⟩, ?_⟩
        walk_at "rd"
        refine ⟨b, 2, l', _, rfl, e4, e5, by omega, by decide, by decide, fun r l'' r0 r1 hl'' => ?_⟩
        walk_at "rd"
        refine ⟨.inl ⟨by decide, by decide⟩, ?_⟩
        walk_at "rd"
        have e10 : (10 : Int) ^ (Int.toNat 12) = 1000000000000 := by decide
        refine ⟨b, _, l'', _, rfl, upd_same, hl'', by omega, (by show (0 : Int) < 5 + 10 ^ Int.toNat 12 * r; rw [e10]; omega), (by show 5 + 10 ^ Int.toNat 12 * r < 2 ^ 200; rw [e10]; omega), fun r2 l3 _ _ hl3 => ?_⟩
        rw [upd_upd]
        refine ⟨_, by rw [upd_ne nbD.symm]; exact e2, by rw [List.length_map]; exact lt_line (by omega), xs ++ [r2], l3, fun c o e => ?_, ?_, by rw [List.length_append, e3]; rfl, ?_, hl3⟩
        · rw [upd_ne (ne_of_none e nD'), upd_ne (ne_of_none e nb)]
          exact e1 _ _ e
        · rw [upd_same, List.map_append]
          rfl
        · rw [upd_ne nbD]
          exact upd_same
      · rintro H2 ⟨xs, l2, e1, e2, e3, e4, e5⟩
        walk_at "rd"
        refine ⟨b, D, xs, l2, _, rfl, e4, e5, by omega, e2, nbD.symm, by omega, tabs_same hT' e1, fun H3 x3 t3 => ?_⟩
        walk_at "rd"
        exact ⟨_, _, _, _, rfl, sm.trans fun c o e hn => x3 _ _ (e1 _ _ e) (ne_of_none e nb) hn, t3⟩
    · rintro σ H' ⟨v1, v2, v3, v4, rfl, sm, hT'⟩
      exact k H'
end
end MV

namespace MV
open PySem PySem.Spec PyProof.Rows L2 SB MM NdefX
theorem all_mk {l : PySem.W.OpenLaw} {w : World} {K : PySem.W.Frag} {h : Heap} {mg : Str → Option Value} {fa : Addr} (X : K.In h) (G : h.Ns mainGlobals mg) (hfa : mg "law" = some (.ref fa))
    {fbag ftake fcount fdeed cddeed tPdeed ffollows fright flaw C fm_init fm_call Tm_call Em_call pm_gaps fm_gaps fm_eq fm_mul fm_invert fm_len fm_getitem pm_still fm_still pm_turning fm_turning pm_keeping fm_keeping pm_cutting fm_cutting pm_opening fm_opening pm_sorting fm_sorting KDm_sorting cdm_sorting tPm_sorting XNoPlace iNoPlace qNoPlace ccNoPlace NNoPlace : Addr} {odbag anbag odtake antake odcount ancount oddeed andeed tddeed odfollows anfollows odright anright odlaw anlaw odm_init anm_init odm_call anm_call odTm_call odm_gaps anm_gaps odm_eq anm_eq odm_mul anm_mul odm_invert anm_invert odm_len anm_len odm_getitem anm_getitem odm_still anm_still odm_turning anm_turning odm_keeping anm_keeping odm_cutting anm_cutting odm_opening anm_opening odm_sorting anm_sorting tdm_sorting ddNoPlace odNoPlace anNoPlace cddNoPlace cldNoPlace : Option Addr} {slbag sltake slcount sldeed tsdeed slfollows slright sllaw slm_init slm_call slTm_call slm_gaps slm_eq slm_mul slm_invert slm_len slm_getitem slm_still slm_turning slm_keeping slm_cutting slm_opening slm_sorting tsm_sorting slNoPlace ccsNoPlace cslNoPlace : Array (Option Value)} {ocbag dcbag pmbag ctbag kVbag cdbag octake dctake pmtake cttake kVtake cdtake occount dccount pmcount ctcount kVcount cdcount ocdeed dcdeed pmdeed ctdeed kVdeed tcdeed ocfollows dcfollows pmfollows ctfollows kVfollows cdfollows ocright dcright pmright ctright kVright cdright oclaw dclaw pmlaw ctlaw kVlaw cdlaw ocm_init dcm_init pmm_init ctm_init kVm_init cdm_init ocm_call dcm_call pmm_call ctm_call kVm_call cdm_call ocTm_call ocm_gaps dcm_gaps pmm_gaps ctm_gaps kVm_gaps cdm_gaps ocm_eq dcm_eq pmm_eq ctm_eq kVm_eq cdm_eq ocm_mul dcm_mul pmm_mul ctm_mul kVm_mul cdm_mul ocm_invert dcm_invert pmm_invert ctm_invert kVm_invert cdm_invert ocm_len dcm_len pmm_len ctm_len kVm_len cdm_len ocm_getitem dcm_getitem pmm_getitem ctm_getitem kVm_getitem cdm_getitem ocm_still dcm_still pmm_still ctm_still kVm_still cdm_still ocm_turning dcm_turning pmm_turning ctm_turning kVm_turning cdm_turning ocm_keeping dcm_keeping pmm_keeping ctm_keeping kVm_keeping cdm_keeping ocm_cutting dcm_cutting pmm_cutting ctm_cutting kVm_cutting cdm_cutting ocm_opening dcm_opening pmm_opening ctm_opening kVm_opening cdm_opening ocm_sorting dcm_sorting pmm_sorting ctm_sorting tcm_sorting ocNoPlace kVNoPlace dcNoPlace pmNoPlace ctNoPlace cclNoPlace clNoPlace : Value} {tvdeed tvm_sorting vsNoPlace : Array Value} {nTm_call : Nat} {rm_gaps rm_still rm_turning rm_keeping rm_cutting rm_opening rm_sorting bsNoPlace bmNoPlace subNoPlace : List Value} {nmNoPlace qnNoPlace fileNoPlace : Str} {snNoPlace : List Str} {abNoPlace : Bool} {colNoPlace : Option Bool} {k0NoPlace k1NoPlace k2NoPlace k3NoPlace k5NoPlace : Option Value} {tfNoPlace : Tok}
    (abag : PySem.W.nsIn K mainGlobals "_law_bag" = some (some (.ref fbag)))
    (lbag : K.lookup fbag = some ⟨ocbag, odbag, .func (PySem.W.fnOf "_law_bag" "_law_bag" (defArgs s_bag) (defBody s_bag) (defScope s_bag) .none kVbag dcbag pmbag anbag cdbag ctbag), slbag⟩)
    (cbag : PySem.W.codeIn K cdbag "_law_bag" = true)
    (kbag : PySem.W.keepIn K (.ref fbag) = true)
    (atake : PySem.W.nsIn K mainGlobals "_law_take" = some (some (.ref ftake)))
    (ltake : K.lookup ftake = some ⟨octake, odtake, .func (PySem.W.fnOf "_law_take" "_law_take" (defArgs s_take) (defBody s_take) (defScope s_take) .none kVtake dctake pmtake antake cdtake cttake), sltake⟩)
    (ctake : PySem.W.codeIn K cdtake "_law_take" = true)
    (ktake : PySem.W.keepIn K (.ref ftake) = true)
    (acount : PySem.W.nsIn K mainGlobals "_law_count" = some (some (.ref fcount)))
    (lcount : K.lookup fcount = some ⟨occount, odcount, .func (PySem.W.fnOf "_law_count" "_law_count" (defArgs s_count) (defBody s_count) (defScope s_count) .none kVcount dccount pmcount ancount cdcount ctcount), slcount⟩)
    (ccount : PySem.W.codeIn K cdcount "_law_count" = true)
    (kcount : PySem.W.keepIn K (.ref fcount) = true)
    (adeed : PySem.W.nsIn K mainGlobals "_law_deed" = some (some (.ref fdeed)))
    (ldeed : K.lookup fdeed = some ⟨ocdeed, oddeed, .func (PySem.W.fnOf "_law_deed" "_law_deed" (defArgs s_deed) (defBody s_deed) (defScope s_deed) .none kVdeed dcdeed pmdeed andeed (.ref cddeed) ctdeed), sldeed⟩)
    (cdeed : PySem.W.codeIn K (.ref cddeed) "_law_deed" = true)
    (kdeed : PySem.W.keepIn K (.ref fdeed) = true)
    (tldeed : K.lookup cddeed = some ⟨tcdeed, tddeed, .fields tvdeed, tsdeed⟩)
    (txdeed : tvdeed[11]? = some (.ref tPdeed))
    (thdeed : PySem.W.codeHdIn K cddeed tPdeed = true)
    (ttdeed : h.get? tPdeed = some { cls := .none, data := .fields #[] })
    (tndeed : K.lookup tPdeed = none)
    (afollows : PySem.W.nsIn K mainGlobals "_law_follows" = some (some (.ref ffollows)))
    (lfollows : K.lookup ffollows = some ⟨ocfollows, odfollows, .func (PySem.W.fnOf "_law_follows" "_law_follows" (defArgs s_follows) (defBody s_follows) (defScope s_follows) .none kVfollows dcfollows pmfollows anfollows cdfollows ctfollows), slfollows⟩)
    (cfollows : PySem.W.codeIn K cdfollows "_law_follows" = true)
    (kfollows : PySem.W.keepIn K (.ref ffollows) = true)
    (aright : PySem.W.nsIn K mainGlobals "_law_right" = some (some (.ref fright)))
    (lright : K.lookup fright = some ⟨ocright, odright, .func (PySem.W.fnOf "_law_right" "_law_right" (defArgs s_right) (defBody s_right) (defScope s_right) .none kVright dcright pmright anright cdright ctright), slright⟩)
    (cright : PySem.W.codeIn K cdright "_law_right" = true)
    (kright : PySem.W.keepIn K (.ref fright) = true)
    (alaw : PySem.W.nsIn K mainGlobals "law" = some (some (.ref flaw)))
    (llaw : K.lookup flaw = some ⟨oclaw, odlaw, .func (PySem.W.fnOf "law" "law" (defArgs s_law) (defBody s_law) (defScope s_law) .none kVlaw dclaw pmlaw anlaw cdlaw ctlaw), sllaw⟩)
    (claw : PySem.W.codeIn K cdlaw "law" = true)
    (klaw : PySem.W.keepIn K (.ref flaw) = true)
    (aC : PySem.W.nsIn K mainGlobals "Move" = some (some (.ref C)))
    (am_init : PySem.W.findIn K (.ref C) "__init__" = some (some (.ref fm_init)))
    (im_init : PySem.W.isFn K (.ref fm_init) = true)
    (lm_init : K.lookup fm_init = some ⟨ocm_init, odm_init, .func (PySem.W.fnOf "__init__" "Move.__init__" (defArgs s_m_init) (defBody s_m_init) (defScope s_m_init) .none kVm_init dcm_init pmm_init anm_init cdm_init ctm_init), slm_init⟩)
    (cm_init : PySem.W.codeIn K cdm_init "Move.__init__" = true)
    (km_init : PySem.W.keepIn K (.ref fm_init) = true)
    (am_call : PySem.W.findIn K (.ref C) "__call__" = some (some (.ref fm_call)))
    (im_call : PySem.W.isFn K (.ref fm_call) = true)
    (lm_call : K.lookup fm_call = some ⟨ocm_call, odm_call, .func (PySem.W.fnOf "__call__" "Move.__call__" (defArgs s_m_call) (defBody s_m_call) (defScope s_m_call) (.ref Tm_call) kVm_call dcm_call pmm_call anm_call cdm_call ctm_call), slm_call⟩)
    (cm_call : PySem.W.codeIn K cdm_call "Move.__call__" = true)
    (km_call : PySem.W.keepIn K (.ref fm_call) = true)
    (xm_call : PySem.W.fnIn K fm_call = true)
    (ym_call : K.lookup Tm_call = some ⟨ocTm_call, odTm_call, .seq #[.ref Em_call] nTm_call, slTm_call⟩)
    (am_gaps : PySem.W.findIn K (.ref C) "gaps" = some (some (.ref pm_gaps)))
    (gm_gaps : PySem.W.specialIn K (.ref pm_gaps) "__get__" = some (some (.builtin "property.__get__")))
    (tm_gaps : PySem.W.takesIn K (.ref pm_gaps) = some true)
    (r_m_gaps : PySem.W.recIn K pm_gaps "property" = some (.ref fm_gaps :: rm_gaps))
    (lm_gaps : K.lookup fm_gaps = some ⟨ocm_gaps, odm_gaps, .func (PySem.W.fnOf "gaps" "Move.gaps" (defArgs s_m_gaps) (defBody s_m_gaps) (defScope s_m_gaps) .none kVm_gaps dcm_gaps pmm_gaps anm_gaps cdm_gaps ctm_gaps), slm_gaps⟩)
    (cm_gaps : PySem.W.codeIn K cdm_gaps "Move.gaps" = true)
    (km_gaps : PySem.W.keepIn K (.ref fm_gaps) = true)
    (am_eq : PySem.W.findIn K (.ref C) "__eq__" = some (some (.ref fm_eq)))
    (im_eq : PySem.W.isFn K (.ref fm_eq) = true)
    (lm_eq : K.lookup fm_eq = some ⟨ocm_eq, odm_eq, .func (PySem.W.fnOf "__eq__" "Move.__eq__" (defArgs s_m_eq) (defBody s_m_eq) (defScope s_m_eq) .none kVm_eq dcm_eq pmm_eq anm_eq cdm_eq ctm_eq), slm_eq⟩)
    (cm_eq : PySem.W.codeIn K cdm_eq "Move.__eq__" = true)
    (km_eq : PySem.W.keepIn K (.ref fm_eq) = true)
    (am_mul : PySem.W.findIn K (.ref C) "__mul__" = some (some (.ref fm_mul)))
    (im_mul : PySem.W.isFn K (.ref fm_mul) = true)
    (lm_mul : K.lookup fm_mul = some ⟨ocm_mul, odm_mul, .func (PySem.W.fnOf "__mul__" "Move.__mul__" (defArgs s_m_mul) (defBody s_m_mul) (defScope s_m_mul) .none kVm_mul dcm_mul pmm_mul anm_mul cdm_mul ctm_mul), slm_mul⟩)
    (cm_mul : PySem.W.codeIn K cdm_mul "Move.__mul__" = true)
    (km_mul : PySem.W.keepIn K (.ref fm_mul) = true)
    (am_invert : PySem.W.findIn K (.ref C) "__invert__" = some (some (.ref fm_invert)))
    (im_invert : PySem.W.isFn K (.ref fm_invert) = true)
    (lm_invert : K.lookup fm_invert = some ⟨ocm_invert, odm_invert, .func (PySem.W.fnOf "__invert__" "Move.__invert__" (defArgs s_m_invert) (defBody s_m_invert) (defScope s_m_invert) .none kVm_invert dcm_invert pmm_invert anm_invert cdm_invert ctm_invert), slm_invert⟩)
    (cm_invert : PySem.W.codeIn K cdm_invert "Move.__invert__" = true)
    (km_invert : PySem.W.keepIn K (.ref fm_invert) = true)
    (am_len : PySem.W.findIn K (.ref C) "__len__" = some (some (.ref fm_len)))
    (im_len : PySem.W.isFn K (.ref fm_len) = true)
    (lm_len : K.lookup fm_len = some ⟨ocm_len, odm_len, .func (PySem.W.fnOf "__len__" "Move.__len__" (defArgs s_m_len) (defBody s_m_len) (defScope s_m_len) .none kVm_len dcm_len pmm_len anm_len cdm_len ctm_len), slm_len⟩)
    (cm_len : PySem.W.codeIn K cdm_len "Move.__len__" = true)
    (km_len : PySem.W.keepIn K (.ref fm_len) = true)
    (am_getitem : PySem.W.findIn K (.ref C) "__getitem__" = some (some (.ref fm_getitem)))
    (im_getitem : PySem.W.isFn K (.ref fm_getitem) = true)
    (lm_getitem : K.lookup fm_getitem = some ⟨ocm_getitem, odm_getitem, .func (PySem.W.fnOf "__getitem__" "Move.__getitem__" (defArgs s_m_getitem) (defBody s_m_getitem) (defScope s_m_getitem) .none kVm_getitem dcm_getitem pmm_getitem anm_getitem cdm_getitem ctm_getitem), slm_getitem⟩)
    (cm_getitem : PySem.W.codeIn K cdm_getitem "Move.__getitem__" = true)
    (km_getitem : PySem.W.keepIn K (.ref fm_getitem) = true)
    (xm_getitem : PySem.W.fnIn K fm_getitem = true)
    (am_still : PySem.W.findCls K (.ref C) (.type "type") "still" = some (.get (.builtin "staticmethod.__get__") (.ref pm_still) .none (.ref C)))
    (r_m_still : PySem.W.recIn K pm_still "staticmethod" = some (.ref fm_still :: rm_still))
    (lm_still : K.lookup fm_still = some ⟨ocm_still, odm_still, .func (PySem.W.fnOf "still" "Move.still" (defArgs s_m_still) (defBody s_m_still) (defScope s_m_still) .none kVm_still dcm_still pmm_still anm_still cdm_still ctm_still), slm_still⟩)
    (cm_still : PySem.W.codeIn K cdm_still "Move.still" = true)
    (km_still : PySem.W.keepIn K (.ref fm_still) = true)
    (am_turning : PySem.W.findCls K (.ref C) (.type "type") "turning" = some (.get (.builtin "staticmethod.__get__") (.ref pm_turning) .none (.ref C)))
    (r_m_turning : PySem.W.recIn K pm_turning "staticmethod" = some (.ref fm_turning :: rm_turning))
    (lm_turning : K.lookup fm_turning = some ⟨ocm_turning, odm_turning, .func (PySem.W.fnOf "turning" "Move.turning" (defArgs s_m_turning) (defBody s_m_turning) (defScope s_m_turning) .none kVm_turning dcm_turning pmm_turning anm_turning cdm_turning ctm_turning), slm_turning⟩)
    (cm_turning : PySem.W.codeIn K cdm_turning "Move.turning" = true)
    (km_turning : PySem.W.keepIn K (.ref fm_turning) = true)
    (am_keeping : PySem.W.findCls K (.ref C) (.type "type") "keeping" = some (.get (.builtin "staticmethod.__get__") (.ref pm_keeping) .none (.ref C)))
    (r_m_keeping : PySem.W.recIn K pm_keeping "staticmethod" = some (.ref fm_keeping :: rm_keeping))
    (lm_keeping : K.lookup fm_keeping = some ⟨ocm_keeping, odm_keeping, .func (PySem.W.fnOf "keeping" "Move.keeping" (defArgs s_m_keeping) (defBody s_m_keeping) (defScope s_m_keeping) .none kVm_keeping dcm_keeping pmm_keeping anm_keeping cdm_keeping ctm_keeping), slm_keeping⟩)
    (cm_keeping : PySem.W.codeIn K cdm_keeping "Move.keeping" = true)
    (km_keeping : PySem.W.keepIn K (.ref fm_keeping) = true)
    (am_cutting : PySem.W.findCls K (.ref C) (.type "type") "cutting" = some (.get (.builtin "staticmethod.__get__") (.ref pm_cutting) .none (.ref C)))
    (r_m_cutting : PySem.W.recIn K pm_cutting "staticmethod" = some (.ref fm_cutting :: rm_cutting))
    (lm_cutting : K.lookup fm_cutting = some ⟨ocm_cutting, odm_cutting, .func (PySem.W.fnOf "cutting" "Move.cutting" (defArgs s_m_cutting) (defBody s_m_cutting) (defScope s_m_cutting) .none kVm_cutting dcm_cutting pmm_cutting anm_cutting cdm_cutting ctm_cutting), slm_cutting⟩)
    (cm_cutting : PySem.W.codeIn K cdm_cutting "Move.cutting" = true)
    (km_cutting : PySem.W.keepIn K (.ref fm_cutting) = true)
    (am_opening : PySem.W.findCls K (.ref C) (.type "type") "opening" = some (.get (.builtin "staticmethod.__get__") (.ref pm_opening) .none (.ref C)))
    (r_m_opening : PySem.W.recIn K pm_opening "staticmethod" = some (.ref fm_opening :: rm_opening))
    (lm_opening : K.lookup fm_opening = some ⟨ocm_opening, odm_opening, .func (PySem.W.fnOf "opening" "Move.opening" (defArgs s_m_opening) (defBody s_m_opening) (defScope s_m_opening) .none kVm_opening dcm_opening pmm_opening anm_opening cdm_opening ctm_opening), slm_opening⟩)
    (cm_opening : PySem.W.codeIn K cdm_opening "Move.opening" = true)
    (km_opening : PySem.W.keepIn K (.ref fm_opening) = true)
    (am_sorting : PySem.W.findCls K (.ref C) (.type "type") "sorting" = some (.get (.builtin "staticmethod.__get__") (.ref pm_sorting) .none (.ref C)))
    (r_m_sorting : PySem.W.recIn K pm_sorting "staticmethod" = some (.ref fm_sorting :: rm_sorting))
    (lm_sorting : K.lookup fm_sorting = some ⟨ocm_sorting, odm_sorting, .func (PySem.W.fnOf "sorting" "Move.sorting" (defArgs s_m_sorting) (defBody s_m_sorting) (defScope s_m_sorting) .none (.ref KDm_sorting) dcm_sorting pmm_sorting anm_sorting (.ref cdm_sorting) ctm_sorting), slm_sorting⟩)
    (cm_sorting : PySem.W.codeIn K (.ref cdm_sorting) "Move.sorting" = true)
    (km_sorting : PySem.W.keepIn K (.ref fm_sorting) = true)
    (kdm_sorting_down : PySem.W.nsIn K KDm_sorting "down" = some (some (.bool false)))
    (tlm_sorting : K.lookup cdm_sorting = some ⟨tcm_sorting, tdm_sorting, .fields tvm_sorting, tsm_sorting⟩)
    (txm_sorting : tvm_sorting[11]? = some (.ref tPm_sorting))
    (thm_sorting : PySem.W.codeHdIn K cdm_sorting tPm_sorting = true)
    (ttm_sorting : h.get? tPm_sorting = some { cls := .none, data := .fields #[] })
    (tnm_sorting : K.lookup tPm_sorting = none)
    (pgC : PySem.W.plainGet K C Str.empty = true)
    (hdC : PySem.W.hasDictIn K C = true)
    (poC : PySem.W.plainOver K C = true)
    (saC : PySem.W.findIn K (.ref C) "__setattr__" = some (some (.builtin "object.__setattr__")))
    (mkC : PySem.W.makesIn K C = true)
    (kcC : PySem.W.keepIn K (.ref C) = true)
    (nt : PySem.W.findIn K (.ref C) "takes" = some none)
    (np : PySem.W.findIn K (.ref C) "places" = some none)
    (hcl : PySem.W.findIn K (.ref C) "__class__" = some (some (.builtin "object.__class__")))
    (hcg : PySem.W.specialIn K (.builtin "object.__class__") "__get__" = some (some (.builtin "getset_descriptor.__get__")))
    (hct : PySem.W.takesIn K (.builtin "object.__class__") = some true)
    (hcm : PySem.W.mroIn K C (.type "object") = some true)
    (sf : PySem.W.selfFirst K C = true)
    (nf : PySem.W.notFirst K C (.ref C) = true)
    (rds : PySem.W.readsIn K C (.type "type") = true)
    (rga : PySem.W.specialIn K (.ref C) "__getattribute__" = some (some (.builtin "type.__getattribute__")))
    (aNoPlace : PySem.W.nsIn K mainGlobals "NoPlace" = some (some (.ref XNoPlace)))
    (lNoPlace : K.lookup XNoPlace = some (excClassObj nmNoPlace qnNoPlace XNoPlace NNoPlace bsNoPlace bmNoPlace true snNoPlace subNoPlace abNoPlace colNoPlace ddNoPlace k0NoPlace k1NoPlace k2NoPlace k3NoPlace k5NoPlace "ValueError.__new__"))
    (rNoPlace : PySem.HandSPX.refsVE bmNoPlace = true)
    (saNoPlace : PySem.W.findIn K (.ref XNoPlace) "__setattr__" = some (some (.builtin "object.__setattr__")))
    (ecNoPlace : PySem.W.subIn K (.ref XNoPlace) (.type "BaseException") = some true)
    (tyNoPlace : PySem.W.typeIn K (.ref XNoPlace) = some (.type "type"))
    (kcNoPlace : PySem.W.keepIn K (.ref XNoPlace) = true)
    (inNoPlace : PySem.W.findIn K (.ref XNoPlace) "__init__" = some (some (.ref iNoPlace)))
    (tiNoPlace : PySem.W.typeIn K (.ref iNoPlace) = some (.type "function"))
    (mrNoPlace : PySem.W.mroIn K XNoPlace (.ref XNoPlace) = some true)
    (suNoPlace : PySem.W.ks_superIn K XNoPlace XNoPlace "__init__" = some (some (.builtin "ValueError.__init__")))
    (sbNoPlace : PySem.W.subIn K (.ref XNoPlace) (.type "ValueError") = some true)
    (fnNoPlace : K.lookup iNoPlace = some ⟨ocNoPlace, odNoPlace, .func (PySem.W.ksFn "__init__" "NoPlace.__init__" (defArgs s_NoPlace) (defBody s_NoPlace) (defScope s_NoPlace) .none kVNoPlace dcNoPlace pmNoPlace anNoPlace (.ref qNoPlace) ctNoPlace ccNoPlace), slNoPlace⟩)
    (cdNoPlace : PySem.W.codeIn K (.ref qNoPlace) "NoPlace.__init__" = true)
    (coNoPlace : K.lookup qNoPlace = some ⟨cclNoPlace, cddNoPlace, .fields vsNoPlace, ccsNoPlace⟩)
    (fiNoPlace : vsNoPlace[2]? = some (.str fileNoPlace tfNoPlace))
    (flNoPlace : ((l.prog.main.file : Str) == fileNoPlace) = true)
    (ceNoPlace : K.lookup ccNoPlace = some ⟨clNoPlace, cldNoPlace, .cell (some (.ref XNoPlace)), cslNoPlace⟩)
    (noNoPlace_place : PySem.W.findIn K (.ref XNoPlace) "place" = some none)
    (gaNoPlace : PySem.W.findIn K (.ref XNoPlace) "__getattribute__" = some (some (.builtin "BaseException.__getattribute__")))
    (ggNoPlace : PySem.W.findIn K (.ref XNoPlace) "__getattr__" = some none)
    (hdNoPlace : PySem.W.hasDictIn K XNoPlace = true)
    (thi : PySem.W.nsIn K cStatics "thirdparty.any" = some none)
    (z_super : PySem.W.nsIn K mainGlobals "super" = some none)
    (tops : (l.prog.main.scope.names.lookup ("super" : Str)).isSome = false)
    (exa : exAll K [XNoPlace] = true)
    (exn : [XNoPlace].Nodup)
    (z_len : PySem.W.nsIn K mainGlobals "len" = some none)
    (z_abs : PySem.W.nsIn K mainGlobals "abs" = some none)
    (z_int : PySem.W.nsIn K mainGlobals "int" = some none)
    (z_range : PySem.W.nsIn K mainGlobals "range" = some none)
    (z_list : PySem.W.nsIn K mainGlobals "list" = some none)
    (z_tuple : PySem.W.nsIn K mainGlobals "tuple" = some none)
    (z_str : PySem.W.nsIn K mainGlobals "str" = some none)
    (z_max : PySem.W.nsIn K mainGlobals "max" = some none)
    (z_min : PySem.W.nsIn K mainGlobals "min" = some none)
    (z_enumerate : PySem.W.nsIn K mainGlobals "enumerate" = some none)
    (z_isinstance : PySem.W.nsIn K mainGlobals "isinstance" = some none)
    (z_sorted : PySem.W.nsIn K mainGlobals "sorted" = some none)
    (z_zip : PySem.W.nsIn K mainGlobals "zip" = some none)
    (cpw : tPdeed ≠ tPm_sorting)
    : LamX.LawAtS l w K CX0 8 63 "_law_script" mg fa h := by
  have e := hfa.symm.trans (PySem.W.mg_of X G alaw)
  cases e
  have B : Blt mg := ⟨PySem.W.mg_none_of X G z_len, PySem.W.mg_none_of X G z_abs, PySem.W.mg_none_of X G z_int, PySem.W.mg_none_of X G z_range, PySem.W.mg_none_of X G z_list, PySem.W.mg_none_of X G z_tuple, PySem.W.mg_none_of X G z_str, PySem.W.mg_none_of X G z_max, PySem.W.mg_none_of X G z_min, PySem.W.mg_none_of X G z_enumerate, PySem.W.mg_none_of X G z_isinstance⟩
  have TNoPlace : XcF l.prog K mg "NoPlace" XNoPlace iNoPlace := ⟨⟨⟨_, _, _, _, _, _, _, _, _, _, _, _, _, _, _, lNoPlace, rNoPlace⟩, saNoPlace, ecNoPlace, tyNoPlace, kcNoPlace⟩, inNoPlace, tiNoPlace, ⟨_, by unfold PySem.W.clsIn; rw [lNoPlace] <;> rfl⟩, mrNoPlace, suNoPlace, sbNoPlace, thi, tops, PySem.W.mg_none_of X G z_super, PySem.W.mg_of X G aNoPlace⟩
  have FNoPlace : XfC K XNoPlace := ⟨gaNoPlace, ggNoPlace, ecNoPlace, hdNoPlace⟩
  refine ⟨PySem.W.fnOf "law" "law" (defArgs s_law) (defBody s_law) (defScope s_law) .none kVlaw dclaw pmlaw anlaw cdlaw ctlaw, [(cddeed, tPdeed), (cdm_sorting, tPm_sorting)], spLaw K [(tPdeed, lamQ "_law_deed" (defScope s_deed)), (tPm_sorting, lamQ "Move.sorting" (defScope s_m_sorting))], List.forall_mem_cons.mpr ⟨ttdeed, List.forall_mem_cons.mpr ⟨ttm_sorting, fun _ hp => nomatch hp⟩⟩, List.forall_mem_cons.mpr ⟨tndeed, List.forall_mem_cons.mpr ⟨tnm_sorting, fun _ hp => nomatch hp⟩⟩, List.forall_mem_cons.mpr ⟨PySem.W.codeHd_of_K X thdeed, List.forall_mem_cons.mpr ⟨PySem.W.codeHd_of_K X thm_sorting, fun _ hp => nomatch hp⟩⟩, fun s v => .of_eq rfl, fun H a ns hl _ hH hS => ?_, fun base _ _ hTB => ?_⟩
  · refine ⟨a, ns, rfl, hS, hl, List.forall_mem_cons.mpr ⟨LamX.TabS.nil (hH (cddeed, tPdeed) (by simp)), List.forall_mem_cons.mpr ⟨LamX.TabS.nil (hH (cdm_sorting, tPm_sorting) (by simp)), fun _ hp => nomatch hp⟩⟩, fun _ => rfl⟩
  have TBdeed := hTB (cddeed, tPdeed) (by simp)
  have TBm_sorting := hTB (cdm_sorting, tPm_sorting) (by simp)
  have QNoPlace : Xc l.prog w K mg base 1 "NoPlace" XNoPlace ["place"] := ok_x1 TNoPlace fnNoPlace cdNoPlace (nscope_by (by decide +kernel)) rfl rfl ⟨_, _, _, _, _, _, coNoPlace, fiNoPlace, flNoPlace⟩ ⟨_, _, _, ceNoPlace⟩ rfl noNoPlace_place (by decide) (by decide) (.all fun us hl => match us, hl with | [_, _], _ => rfl)
  have T : TxtM K mg C := ⟨B, ⟨pgC, hdC, poC, saC⟩, nt, np, PySem.W.mg_of X G aC, ⟨⟨pgC, hdC, poC, saC⟩, hcl, hcg, hct, hcm, if_pos (beq_self_eq_true _)⟩, sf, nf⟩
  have Fcall : FunD K "__call__" "Move.__call__" (defArgs s_m_call) (defBody s_m_call) (defScope s_m_call) [.ref Em_call] [] fm_call _ := ⟨⟨_, _, _, _, _, _, _, _, _, _, rfl, lm_call, cm_call, .inr ⟨List.cons_ne_nil _ _, _, _, [.ref Em_call], _, rfl, ym_call, rfl, .cons rfl .nil⟩, .inl rfl⟩, km_call⟩
  have M1 : Ml l.prog w K mg base CX0 1 "Move" C (spInit K C) := ⟨_, ⟨mkC, am_init, im_init, kcC⟩, ok_init (fun_mk (st := s_m_init) lm_init cm_init km_init) T, T.g_Move⟩
  have Fg := fun_mk (st := s_m_gaps) lm_gaps cm_gaps km_gaps
  have G1 : Pr l.prog w K mg base CX0 1 C "gaps" (spGaps K C) := ⟨_, _, _, _, T.cl, ⟨am_gaps, gm_gaps, tm_gaps, ⟨_, r_m_gaps⟩⟩, okf_gaps Fg T, Fg.binds fun _ _ _ _ _ _ us hl => match us, hl with | [_], _ => rfl⟩
  have hu1 : ∀ p ∈ [(tPdeed, lamQ "_law_deed" (defScope s_deed)), (tPm_sorting, lamQ "Move.sorting" (defScope s_m_sorting))], p.1 = tPdeed → p.2 = lamQ "_law_deed" (defScope s_deed) := fun p hp e => by
    rcases List.mem_cons.mp hp with z | z
    · rw [z]
    · rw [List.mem_singleton.mp z] at e
      exact absurd e.symm cpw
  have hu2 : ∀ p ∈ [(tPdeed, lamQ "_law_deed" (defScope s_deed)), (tPm_sorting, lamQ "Move.sorting" (defScope s_m_sorting))], p.1 = tPm_sorting → p.2 = lamQ "Move.sorting" (defScope s_m_sorting) := fun p hp e => by
    rcases List.mem_cons.mp hp with z | z
    · rw [z] at e
      exact absurd e cpw
    · rw [List.mem_singleton.mp z]
  have nS := PySem.W.mg_none_of X G z_sorted
  have nZ := PySem.W.mg_none_of X G z_zip
  have C2 : Ca l.prog w K mg base CX0 3 C (spCall K C) := ⟨_, ⟨am_call, im_call, xm_call⟩, FnOk.r (ok_call Fcall T G1) (call_binds Fcall)⟩
  have GI : ∀ g, PySem.W.findIn K (.ref C) "__getitem__" = some (some (.ref g)) → PySem.W.fnIn K g = true := fun g e => by
    rw [am_getitem] at e
    cases e
    exact xm_getitem
  have FS := okf_sorting (P := l.prog) (w := w) (fun_mk (st := s_m_sorting) lm_sorting cm_sorting km_sorting) rfl T nS M1 TBm_sorting (List.mem_cons_of_mem _ List.mem_cons_self) hu2
  have S0 : SmN l.prog w K mg base CX0 4 "Move" "sorting" 1 ["down"] (fun vs zs => vs ++ zs) (spSorting K C [(tPdeed, lamQ "_law_deed" (defScope s_deed)), (tPm_sorting, lamQ "Move.sorting" (defScope s_m_sorting))]) := ⟨_, _, _, _, _, _, fun us ws => us ++ ws, T.g_Move, ⟨rds, rga⟩, ⟨am_sorting, ⟨_, r_m_sorting⟩, km_sorting⟩, FS, ⟨fun s us ws _ h1 h2 => .of_eq (match us, ws, h1, h2 with | [_], [_], _, _ => rfl), fun r1 r2 => r1.append r2⟩⟩
  have E1 : Me l.prog w K mg base CX0 1 C "__eq__" (spEq K C) := ⟨_, ok_eq (fun_mk (st := s_m_eq) lm_eq cm_eq km_eq) T, am_eq, im_eq, km_eq⟩
  have E2 : Me l.prog w K mg base CX0 3 C "__mul__" (spMul K C) := ⟨_, ok_mul (fun_mk (st := s_m_mul) lm_mul cm_mul km_mul) T M1, am_mul, im_mul, km_mul⟩
  have E3 : Me l.prog w K mg base CX0 3 C "__invert__" (spInv K C) := ⟨_, ok_inv (fun_mk (st := s_m_invert) lm_invert cm_invert km_invert) T M1, am_invert, im_invert, km_invert⟩
  have E4 : Me l.prog w K mg base CX0 1 C "__len__" (spLen K C) := ⟨_, ok_len (fun_mk (st := s_m_len) lm_len cm_len km_len) T, am_len, im_len, km_len⟩
  have E5 : Me l.prog w K mg base CX0 1 C "__getitem__" (spGet0 K C) := ⟨_, ok_getitem (fun_mk (st := s_m_getitem) lm_getitem cm_getitem km_getitem) T, am_getitem, im_getitem, km_getitem⟩
  have S1 : Sm l.prog w K mg base CX0 3 "Move" "still" (spStill K C) := ⟨_, _, _, _, T.g_Move, ⟨rds, rga⟩, ⟨am_still, ⟨_, r_m_still⟩, km_still⟩, ok_still (fun_mk (st := s_m_still) lm_still cm_still km_still) T M1⟩
  have S2 : Sm l.prog w K mg base CX0 3 "Move" "turning" (spTurning K C) := ⟨_, _, _, _, T.g_Move, ⟨rds, rga⟩, ⟨am_turning, ⟨_, r_m_turning⟩, km_turning⟩, ok_turning (fun_mk (st := s_m_turning) lm_turning cm_turning km_turning) T M1⟩
  have S3 : Sm l.prog w K mg base CX0 3 "Move" "keeping" (spKeeping K C) := ⟨_, _, _, _, T.g_Move, ⟨rds, rga⟩, ⟨am_keeping, ⟨_, r_m_keeping⟩, km_keeping⟩, ok_keeping (fun_mk (st := s_m_keeping) lm_keeping cm_keeping km_keeping) T M1⟩
  have S4 : Sm l.prog w K mg base (L2.CX l.prog w) 3 "Move" "cutting" (spCutting K C XNoPlace) := ⟨_, _, _, _, T.g_Move, ⟨rds, rga⟩, ⟨am_cutting, ⟨_, r_m_cutting⟩, km_cutting⟩, ok_cutting (fun_mk (st := s_m_cutting) lm_cutting cm_cutting km_cutting) T M1 QNoPlace⟩
  have S5 : Sm l.prog w K mg base (L2.CX l.prog w) 3 "Move" "opening" (spOpening K C XNoPlace) := ⟨_, _, _, _, T.g_Move, ⟨rds, rga⟩, ⟨am_opening, ⟨_, r_m_opening⟩, km_opening⟩, ok_opening (fun_mk (st := s_m_opening) lm_opening cm_opening km_opening) T M1 QNoPlace⟩
  have D1 : Cl l.prog w K mg base CX0 1 "_law_bag" (spBag K) := ⟨_, ok_bag (fun_mk (st := s_bag) lbag cbag kbag) B, PySem.W.mg_of X G abag, kbag⟩
  have D2 : Cl l.prog w K mg base CX0 1 "_law_take" (spTake) := ⟨_, ok_take (fun_mk (st := s_take) ltake ctake ktake) B, PySem.W.mg_of X G atake, ktake⟩
  have D3 : Cl l.prog w K mg base CX0 2 "_law_count" (spCount) := ⟨_, ok_count (fun_mk (st := s_count) lcount ccount kcount) B D2, PySem.W.mg_of X G acount, kcount⟩
  have D4 : Cl l.prog w K mg base CX0 6 "_law_deed" (spDeed K C [(tPdeed, lamQ "_law_deed" (defScope s_deed)), (tPm_sorting, lamQ "Move.sorting" (defScope s_m_sorting))]) := ⟨_, ok_deed (fun_mk (st := s_deed) ldeed cdeed kdeed) rfl T nS nZ TBdeed List.mem_cons_self hu1 S0 S2 S3 S4 S5 D2, PySem.W.mg_of X G adeed, kdeed⟩
  have D5 : Cl l.prog w K mg base CX0 5 "_law_follows" (spFollows K C) := ⟨_, ok_follows (fun_mk (st := s_follows) lfollows cfollows kfollows) T G1 C2 E3 E5 GI E4, PySem.W.mg_of X G afollows, kfollows⟩
  have D6 : Cl l.prog w K mg base CX0 7 "_law_right" (spRight K [(tPdeed, lamQ "_law_deed" (defScope s_deed)), (tPm_sorting, lamQ "Move.sorting" (defScope s_m_sorting))]) := ⟨_, ok_right (fun_mk (st := s_right) lright cright kright) T S1 E2 E1 D2 D3 D4 D5, PySem.W.mg_of X G aright, kright⟩
  exact ok_law (fun_mk (st := s_law) llaw claw klaw) T D1 D2 D3 D6
end MV
open PySem PySem.W PyProof.Rows
set_option maxRecDepth 100000 in
set_option maxHeartbeats 0 in
theorem PySem.Challenge.cw_sidelists_k66_whole_moves_follow_a_list_holds : PySem.Challenge.rw_sidelists_k66_whole_moves_follow_a_list.Holds := by
  w_on; o_law; k_head; (case hw => w_witness2)
  k_fill
  refine LamX.walk_ofTs (l := PySem.Challenge.rw_sidelists_k66_whole_moves_follow_a_list) (n := 63) (k := 8) (x := "_law_script") (CX := fun _ => C8.CX0) rfl (by decide) rfl ⟨rfl, by decide, by decide⟩ (fun w h Y => PySem.W.km_in_of Y) ?F (fun _ _ _ _ _ z => z)
  case F =>
    intro w mg fa h Y KX G hmg
    refine' MV.all_mk KX G hmg ?abag ?lbag ?cbag ?kbag ?atake ?ltake ?ctake ?ktake ?acount ?lcount ?ccount ?kcount ?adeed ?ldeed ?cdeed ?kdeed ?tldeed ?txdeed ?thdeed ?ttdeed ?tndeed ?afollows ?lfollows ?cfollows ?kfollows ?aright ?lright ?cright ?kright ?alaw ?llaw ?claw ?klaw ?aC ?am_init ?im_init ?lm_init ?cm_init ?km_init ?am_call ?im_call ?lm_call ?cm_call ?km_call ?xm_call ?ym_call ?am_gaps ?gm_gaps ?tm_gaps ?r_m_gaps ?lm_gaps ?cm_gaps ?km_gaps ?am_eq ?im_eq ?lm_eq ?cm_eq ?km_eq ?am_mul ?im_mul ?lm_mul ?cm_mul ?km_mul ?am_invert ?im_invert ?lm_invert ?cm_invert ?km_invert ?am_len ?im_len ?lm_len ?cm_len ?km_len ?am_getitem ?im_getitem ?lm_getitem ?cm_getitem ?km_getitem ?xm_getitem ?am_still ?r_m_still ?lm_still ?cm_still ?km_still ?am_turning ?r_m_turning ?lm_turning ?cm_turning ?km_turning ?am_keeping ?r_m_keeping ?lm_keeping ?cm_keeping ?km_keeping ?am_cutting ?r_m_cutting ?lm_cutting ?cm_cutting ?km_cutting ?am_opening ?r_m_opening ?lm_opening ?cm_opening ?km_opening ?am_sorting ?r_m_sorting ?lm_sorting ?cm_sorting ?km_sorting ?kdm_sorting_down ?tlm_sorting ?txm_sorting ?thm_sorting ?ttm_sorting ?tnm_sorting ?pgC ?hdC ?poC ?saC ?mkC ?kcC ?nt ?np ?hcl ?hcg ?hct ?hcm ?sf ?nf ?rds ?rga ?aNoPlace ?lNoPlace ?rNoPlace ?saNoPlace ?ecNoPlace ?tyNoPlace ?kcNoPlace ?inNoPlace ?tiNoPlace ?mrNoPlace ?suNoPlace ?sbNoPlace ?fnNoPlace ?cdNoPlace ?coNoPlace ?fiNoPlace ?flNoPlace ?ceNoPlace ?noNoPlace_place ?gaNoPlace ?ggNoPlace ?hdNoPlace ?thi ?z_super ?tops ?exa ?exn ?z_len ?z_abs ?z_int ?z_range ?z_list ?z_tuple ?z_str ?z_max ?z_min ?z_enumerate ?z_isinstance ?z_sorted ?z_zip ?cpw
    (case abag => k_is)
    (case lbag => k_is)
    (case cbag => k_is)
    (case kbag => k_is)
    (case atake => k_is)
    (case ltake => k_is)
    (case ctake => k_is)
    (case ktake => k_is)
    (case acount => k_is)
    (case lcount => k_is)
    (case ccount => k_is)
    (case kcount => k_is)
    (case adeed => k_is)
    (case ldeed => k_is)
    (case cdeed => k_is)
    (case kdeed => k_is)
    (case tldeed => k_is)
    (case txdeed => rfl)
    (case thdeed => kernel_rfl)
    (case ttdeed => exact PySem.W.km_tabs_of Y _ (by k_mem))
    (case tndeed => first | kernel_rfl | k_is)
    (case afollows => k_is)
    (case lfollows => k_is)
    (case cfollows => k_is)
    (case kfollows => k_is)
    (case aright => k_is)
    (case lright => k_is)
    (case cright => k_is)
    (case kright => k_is)
    (case alaw => k_is)
    (case llaw => k_is)
    (case claw => k_is)
    (case klaw => k_is)
    (case aC => k_is)
    (case am_init => k_is)
    (case im_init => k_is)
    (case lm_init => k_is)
    (case cm_init => k_is)
    (case km_init => k_is)
    (case am_call => k_is)
    (case im_call => k_is)
    (case lm_call => k_is)
    (case cm_call => k_is)
    (case km_call => k_is)
    (case xm_call => k_is)
    (case ym_call => k_is)
    (case am_gaps => k_is)
    (case gm_gaps => k_is)
    (case tm_gaps => k_is)
    (case r_m_gaps => k_is)
    (case lm_gaps => k_is)
    (case cm_gaps => k_is)
    (case km_gaps => k_is)
    (case am_eq => k_is)
    (case im_eq => k_is)
    (case lm_eq => k_is)
    (case cm_eq => k_is)
    (case km_eq => k_is)
    (case am_mul => k_is)
    (case im_mul => k_is)
    (case lm_mul => k_is)
    (case cm_mul => k_is)
    (case km_mul => k_is)
    (case am_invert => k_is)
    (case im_invert => k_is)
    (case lm_invert => k_is)
    (case cm_invert => k_is)
    (case km_invert => k_is)
    (case am_len => k_is)
    (case im_len => k_is)
    (case lm_len => k_is)
    (case cm_len => k_is)
    (case km_len => k_is)
    (case am_getitem => k_is)
    (case im_getitem => k_is)
    (case lm_getitem => k_is)
    (case cm_getitem => k_is)
    (case km_getitem => k_is)
    (case xm_getitem => k_is)
    (case am_still => k_is)
    (case r_m_still => k_is)
    (case lm_still => k_is)
    (case cm_still => k_is)
    (case km_still => k_is)
    (case am_turning => k_is)
    (case r_m_turning => k_is)
    (case lm_turning => k_is)
    (case cm_turning => k_is)
    (case km_turning => k_is)
    (case am_keeping => k_is)
    (case r_m_keeping => k_is)
    (case lm_keeping => k_is)
    (case cm_keeping => k_is)
    (case km_keeping => k_is)
    (case am_cutting => k_is)
    (case r_m_cutting => k_is)
    (case lm_cutting => k_is)
    (case cm_cutting => k_is)
    (case km_cutting => k_is)
    (case am_opening => k_is)
    (case r_m_opening => k_is)
    (case lm_opening => k_is)
    (case cm_opening => k_is)
    (case km_opening => k_is)
    (case am_sorting => k_is)
    (case r_m_sorting => k_is)
    (case lm_sorting => k_is)
    (case cm_sorting => k_is)
    (case km_sorting => k_is)
    (case kdm_sorting_down => k_is)
    (case tlm_sorting => k_is)
    (case txm_sorting => rfl)
    (case thm_sorting => kernel_rfl)
    (case ttm_sorting => exact PySem.W.km_tabs_of Y _ (by k_mem))
    (case tnm_sorting => first | kernel_rfl | k_is)
    (case pgC => k_is)
    (case hdC => k_is)
    (case poC => k_is)
    (case saC => k_is)
    (case mkC => k_is)
    (case kcC => k_is)
    (case nt => k_is)
    (case np => k_is)
    (case hcl => k_is)
    (case hcg => k_is)
    (case hct => k_is)
    (case hcm => k_is)
    (case sf => k_is)
    (case nf => k_is)
    (case rds => k_is)
    (case rga => k_is)
    (case aNoPlace => k_is)
    (case lNoPlace => k_is)
    (case rNoPlace => rfl)
    (case saNoPlace => k_is)
    (case ecNoPlace => k_is)
    (case tyNoPlace => k_is)
    (case kcNoPlace => k_is)
    (case inNoPlace => k_is)
    (case tiNoPlace => k_is)
    (case mrNoPlace => k_is)
    (case suNoPlace => ks_is)
    (case sbNoPlace => k_is)
    (case fnNoPlace => k_is)
    (case cdNoPlace => k_is)
    (case coNoPlace => k_is)
    (case fiNoPlace => rfl)
    (case flNoPlace => first | rfl | decide +kernel | kernel_rfl)
    (case ceNoPlace => k_is)
    (case noNoPlace_place => k_is)
    (case gaNoPlace => k_is)
    (case ggNoPlace => k_is)
    (case hdNoPlace => k_is)
    (case thi => k_is)
    (case z_super => k_is)
    (case tops => first | rfl | decide +kernel | kernel_rfl)
    (case exa => kernel_rfl)
    (case exn => decide)
    (case z_len => k_is)
    (case z_abs => k_is)
    (case z_int => k_is)
    (case z_range => k_is)
    (case z_list => k_is)
    (case z_tuple => k_is)
    (case z_str => k_is)
    (case z_max => k_is)
    (case z_min => k_is)
    (case z_enumerate => k_is)
    (case z_isinstance => k_is)
    (case z_sorted => k_is)
    (case z_zip => k_is)
    (case cpw => decide)
