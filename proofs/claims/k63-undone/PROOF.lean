import PyProof.Rows.All
import Wide.All
import OpenK.AllK
import Wide.FinOn
import PyProof.EqAt
import PyProof.EqKinds
import PyProof.TupleCall
import KE.KOpsOwn
import HandS.ForMost
import HandS.More
import HandS.Conv
import HandS.Walk
import HandS.Wide
import HandS.Star
import HandS.Codes
import HandS.Property
import HandS.DictComp
import HandS.IsInst
import HandS.Deep
import HandS.EndBits
import HandS.ClsMeth
import HandS.Defaults
import KE.GoesMore
import PySem.Challenge.RW_sidelists_k63_undone
set_option Elab.async false
set_option linter.all false
set_option maxRecDepth 100000
set_option maxHeartbeats 4000000
/-! Rules beside the hand layer: own defs called by their promises, own operators, enumerate of a tuple. -/
namespace SB
open PySem PySem.Spec PyProof.Rows L2

/-- the module's name x holds a def that keeps sp -/
structure Cl (P : Program) (w : World) (K : PySem.W.Frag) (mg : Str → Option Value) (base : Heap) (CX : CXT) (k : Nat) (x : Str) (sp : Sp) : Prop where
  ex : ∃ f : Addr, FnR P w K mg base CX k f sp ∧ mg x = some (.ref f) ∧ PySem.W.keepIn K (.ref f) = true
/-- the module's name x holds the class at C, whose init keeps sp -/
structure Ml (P : Program) (w : World) (K : PySem.W.Frag) (mg : Str → Option Value) (base : Heap) (CX : CXT) (k : Nat) (x : Str) (C : Addr) (sp : Sp) : Prop where
  ex : ∃ f : Addr, Mk K C f ∧ FnR P w K mg base CX k f sp ∧ mg x = some (.ref C)
/-- the class at C has a def for the name m that keeps sp -/
structure Me (P : Program) (w : World) (K : PySem.W.Frag) (mg : Str → Option Value) (base : Heap) (CX : CXT) (k : Nat) (C : Addr) (m : Str) (sp : Sp) : Prop where
  ex : ∃ g : Addr, FnR P w K mg base CX k g sp ∧ PySem.W.findIn K (.ref C) m = some (some (.ref g)) ∧ PySem.W.isFn K (.ref g) = true ∧ PySem.W.keepIn K (.ref g) = true

def tCl (sp : Sp) (E : XK) (t : TA) : TE := fun σ H Q => t σ H fun vs H1 => sp vs H1 Q E
section
variable {X : Cx} {CX : CXT} {k j : Nat} {C : Addr} {x m : Str} {sp : Sp} {E : XK} {p pos apos : Pos} {e o : Expr} {es : List Expr} {ta tb : TE} {t : TA}
theorem pe_cl (c : Cl X.prog X.w X.K X.mg X.base CX k x sp) (hr : Room j X.A) (hk : k ≤ j) (hg : Gl X x) (hx : Passes CX X E) (ha : PA X (e :: es) t) (hd : (x == ("__debug__" : Str)) = false := by decide)
    (he : starEach (e :: es) X.env = (false, eval e X.env) :: starEach es X.env := by rfl) (hpl : (backTo pos (starEach es X.env)).any (·.1) = false := by rfl) :
    PE X (.Call (.Name x p) (e :: es) [] pos) (tCl sp E t) := by
  obtain ⟨f, F, hm, kp⟩ := c.ex
  refine ⟨fun pins s σ H Q I h => ?_⟩
  refine wpAny_Call_Name_kw (ld_glob I hg hm ?_ hd)
  refine PySem.W.callWith_K (h₀ := X.base) I.ok.mod.kin kp (thn (ha.run pos pins s σ H _ I h) fun us s1 ⟨vs, H1, I1, r, q⟩ => ⟨I1.kIn, ?_⟩) he hpl
  exact wpAny_call (run_fnR F (hr.mono hk) hx I1 r q)
def tMl (C : Addr) (sp : Sp) (E : XK) (t : TA) : TE := fun σ H Q => t σ H fun vs H1 => ∀ x dx, H1 x = Option.none → H1 dx = Option.none → dx ≠ x →
  sp (V.ref x :: vs) (upd (upd H1 dx (.own x)) x (.ins C dx [])) (fun v H2 => v = .non ∧ Q (.ref x) H2) E
theorem pe_ml (c : Ml X.prog X.w X.K X.mg X.base CX k x C sp) (hr : Room j X.A) (hk : k + 1 ≤ j) (hg : Gl X x) (hx : Passes CX X E) (ha : PA X (e :: es) t) (hdb : (x == ("__debug__" : Str)) = false := by decide)
    (he : starEach (e :: es) X.env = (false, eval e X.env) :: starEach es X.env := by rfl) (hpl : (backTo pos (starEach es X.env)).any (·.1) = false := by rfl) : PE X (.Call (.Name x p) (e :: es) [] pos) (tMl C sp E t) := by
  obtain ⟨f, M, F, hm⟩ := c.ex
  exact StX.pe_makeR M F (hr.mono hk) hg hm hx ha hdb he hpl

/-! ### own operators of an instance of C -/
theorem cmpback {pins : List (Addr × Obj)} {σ : L2.St} {Q : VK} {w : Value} {s' : Shared} (h : EP X pins σ Q w s') : PySem.W.CmpBack (EP X pins σ Q) w s' := by
  obtain ⟨z, H', I', rz, qz⟩ := id h
  cases z with
  | non => cases rz; exact h
  | bl b => cases rz; exact h
  | int i => obtain ⟨t, rfl⟩ := rz; exact h
  | str i => obtain ⟨t, rfl⟩ := rz; exact h
  | byt i => obtain ⟨t, rfl⟩ := rz; exact h
  | flt i => obtain ⟨t, rfl⟩ := rz; exact h
  | ref i => cases rz; exact h
  | ty i => cases rz; exact h
theorem inst_at {pins : List (Addr × Obj)} {σ : L2.St} {H : Hp} {s : Shared} {a dx : Addr} {fs : List (Str × V)} (I : Inv X pins σ H s) (h : H a = some (.ins C dx fs)) : ∃ ox od, PySem.W.InstAt s.heap a ox C od := by
  obtain ⟨mA, O, _⟩ := ins_get I.hok h
  obtain ⟨od, J, _⟩ := O.look
  exact ⟨_, _, J⟩
def rOwn2 (C : Addr) (sp : Sp) (E : XK) : R2 := fun x y H Q => ∃ a dx fs b dy gs, x = .ref a ∧ y = .ref b ∧ H a = some (.ins C dx fs) ∧ H b = some (.ins C dy gs) ∧ sp [x, y] H Q E
/-- x op y, both instances of C -/
theorem op_own2 {op : Operator} {nm : Str} (c : Me X.prog X.w X.K X.mg X.base CX k C nm sp) (hnm : PySem.dunder op.info.2 = nm) (hc : PySem.W.selfFirst X.K C = true) (hr : Room j X.A) (hk : k ≤ j) (hx : Passes CX X E) :
    OpR X (binaryOp op) (rOwn2 C sp E) := by
  obtain ⟨g, F, hs, hf, _⟩ := c.ex
  intro pins s σ H x y v u Q I rx ry h
  obtain ⟨a, dx, fs, b, dy, gs, rfl, rfl, ha, hb, q⟩ := h
  cases (show v = Value.ref a from rx)
  cases (show u = Value.ref b from ry)
  obtain ⟨ox, od, J⟩ := inst_at I ha
  obtain ⟨ox', od', J'⟩ := inst_at I hb
  obtain ⟨m, hF⟩ := I.fr
  subst hnm
  refine PySem.W.binop_K (op := op) hF I.ok.mod.kin J J'.type hc hs hf ?_
  refine wpAny_mono (wpAny_call (run_fnR (us := [.ref a, .ref b]) (vs := [.ref a, .ref b]) F (hr.mono hk) hx I (.cons rfl (.cons rfl .nil)) q)) (fun w s' z => ?_) fun _ _ x => x
  exact cmpback z
/-- x == y, both instances of C -/
theorem op_ownEq (c : Me X.prog X.w X.K X.mg X.base CX k C "__eq__" sp) (hn : PySem.W.notFirst X.K C (.ref C) = true) (hr : Room j X.A) (hk : k ≤ j) (hx : Passes CX X E) :
    OpR X (compareOp .Eq) (rOwn2 C sp E) := by
  obtain ⟨g, F, hs, hf, _⟩ := c.ex
  intro pins s σ H x y v u Q I rx ry h
  obtain ⟨a, dx, fs, b, dy, gs, rfl, rfl, ha, hb, q⟩ := h
  cases (show v = Value.ref a from rx)
  cases (show u = Value.ref b from ry)
  obtain ⟨ox, od, J⟩ := inst_at I ha
  obtain ⟨ox', od', J'⟩ := inst_at I hb
  obtain ⟨m, hF⟩ := I.fr
  show wpAny _ _ (richCompare .Eq (.ref a) (.ref b)) _ _ _
  refine PySem.W.cmp_K (op := .Eq) (tb := .ref C) hr.units0 hF I.ok.mod.kin J J'.type hn hs hf ?_
  refine wpAny_mono (wpAny_call (run_fnR (us := [.ref a, .ref b]) (vs := [.ref a, .ref b]) F (hr.mono hk) hx I (.cons rfl (.cons rfl .nil)) q)) (fun w s' z => ?_) fun _ _ x => x
  exact cmpback z
def rOwn1 (C : Addr) (sp : Sp) (E : XK) : V → Hp → VK → Prop := fun x H Q => ∃ a dx fs, x = .ref a ∧ H a = some (.ins C dx fs) ∧ sp [x] H Q E
/-- the bitwise not of an instance of C -/
theorem un_ownInv (c : Me X.prog X.w X.K X.mg X.base CX k C "__invert__" sp) (hr : Room j X.A) (hk : k ≤ j) (hx : Passes CX X E) : UnR X (unaryOp .Invert) (rOwn1 C sp E) := by
  obtain ⟨g, F, hs, hf, _⟩ := c.ex
  intro pins s σ H x v Q I rx h
  obtain ⟨a, dx, fs, rfl, ha, q⟩ := h
  cases (show v = Value.ref a from rx)
  obtain ⟨ox, od, J⟩ := inst_at I ha
  obtain ⟨m, hF⟩ := I.fr
  refine PySem.W.ksp_inv hF I.ok.mod.kin J hs hf ?_
  exact wpAny_call (run_fnR (us := [.ref a]) (vs := [.ref a]) F (hr.mono hk) hx I (.cons rfl .nil) q)
end

/-! ### a staticmethod called on its class; a property; an instance called -/
/-- C.m is a staticmethod: its record at p, its def at g -/
structure SMet (K : PySem.W.Frag) (C : Addr) (mc : Value) (m : Str) (p g : Addr) : Prop where
  at_ : PySem.W.findCls K (.ref C) mc m = some (.get (.builtin "staticmethod.__get__") (.ref p) .none (.ref C))
  rc : ∃ rest, PySem.W.recIn K p "staticmethod" = some (.ref g :: rest)
  kp : PySem.W.keepIn K (.ref g) = true
structure Sm (P : Program) (w : World) (K : PySem.W.Frag) (mg : Str → Option Value) (base : Heap) (CX : CXT) (k : Nat) (x m : Str) (sp : Sp) : Prop where
  ex : ∃ (C p g : Addr) (mc : Value), mg x = some (.ref C) ∧ ClX.CRead K C mc ∧ SMet K C mc m p g ∧ FnR P w K mg base CX k g sp
structure Pr (P : Program) (w : World) (K : PySem.W.Frag) (mg : Str → Option Value) (base : Heap) (CX : CXT) (k : Nat) (C : Addr) (f : Str) (sp : Sp) : Prop where
  ex : ∃ (p g : Addr) (fd : FuncData) (ps : List Str), Cls K C ∧ PropOf K C f p g ∧ FnOk P w K mg base CX k g fd ps sp ∧ Binds K fd ps []
structure Ca (P : Program) (w : World) (K : PySem.W.Frag) (mg : Str → Option Value) (base : Heap) (CX : CXT) (k : Nat) (C : Addr) (sp : Sp) : Prop where
  ex : ∃ g : Addr, StX.CallO K C g ∧ FnR P w K mg base CX k g sp
section
variable {X : Cx} {CX : CXT} {k j : Nat} {C : Addr} {x m : Str} {sp : Sp} {E : XK} {p pos apos : Pos} {e o fe : Expr} {es : List Expr} {ta tf : TE} {t : TA}
theorem pe_sm {pl : Sem Bool} (c : Sm X.prog X.w X.K X.mg X.base CX k x m sp) (hr : Room j X.A) (hk : k ≤ j) (hg : Gl X x) (hx : Passes CX X E) (ha : PA X (e :: es) t) (hdb : (x == ("__debug__" : Str)) = false := by decide)
    (hst : starEach (e :: es) X.env = (false, eval e X.env) :: starEach es X.env := by rfl) (hpl : (backTo pos (starEach es X.env)).any (·.1) = false := by rfl)
    (ht : eval (.Call (.Attribute (.Name x p) m apos) (e :: es) [] pos) X.env = (do
      let ov ← eval (.Name x p) X.env
      standAt apos.atName
      let (f, first) ← holding [ov] (getMethod ov m pl)
      callWith pos f first (backTo pos (starEach (e :: es) X.env)) (backToKw pos (keywordEach [] X.env))) := by rfl) :
    PE X (.Call (.Attribute (.Name x p) m apos) (e :: es) [] pos) (tCl sp E t) := by
  obtain ⟨C, pr, g, mc, hm, r, c, F⟩ := c.ex
  obtain ⟨rest, hp⟩ := c.rc
  refine ⟨fun pins s σ H Q I h => ?_⟩
  refine PySem.W.methodCall_KW (pl := pl) (ld_glob I hg hm ?_ hdb) ht
  refine PySem.W.method_cls I.kIn r.ga (PySem.W.cls_bind I.kIn r.rd c.at_ (wpAny_call (PySem.W.sm_get (s := { s with toks := s.toks + 1 }) I.kIn hp (PySem.W.handed_on rfl ?_))))
  have I1 : Inv X pins σ H { s with toks := s.toks + 1 } := I.tok _
  refine PySem.W.callWith_K (h₀ := X.base) I.ok.mod.kin c.kp (thn (ha.run pos pins _ σ H _ I1 h) fun us s1 ⟨vs, H1, I2, rv, q⟩ => ⟨I2.kIn, ?_⟩) hst hpl
  exact wpAny_call (run_fnR F (hr.mono hk) hx I2 rv q)
def tPr (C : Addr) (sp : Sp) (E : XK) (ta : TE) : TE := fun σ H Q => ta σ H fun x H1 => ∃ a dx fs, x = .ref a ∧ H1 a = some (.ins C dx fs) ∧ sp [.ref a] H1 Q E
theorem pe_pr {f : Str} (c : Pr X.prog X.w X.K X.mg X.base CX k C f sp) (hr : Room j X.A) (hk : k + 1 ≤ j) (hx : Passes CX X.nox E) (he : PE X e ta) (hab : attributeBase e f X.env (eval e X.env) = eval e X.env := by rfl) :
    PE X (.Attribute e f pos) (tPr C sp E ta) := by
  obtain ⟨p, g, fd, ps, c, hp, F, b⟩ := c.ex
  exact pe_prop he c hp F (hr.mono hk) b .nil hx hab
theorem pe_ca (hf : PE X fe tf) (c : Ca X.prog X.w X.K X.mg X.base CX k C sp) (hr : Room j X.A) (hk : k ≤ j) (hx : Passes CX X E) (ha : PA X (e :: es) t)
    (ht : eval (.Call fe (e :: es) [] pos) X.env = (do callWith pos (← eval fe X.env) [] (backTo pos (starEach (e :: es) X.env)) (backToKw pos (keywordEach [] X.env))) := by rfl)
    (he : starEach (e :: es) X.env = (false, eval e X.env) :: starEach es X.env := by rfl) (hpl : (backTo pos (starEach es X.env)).any (·.1) = false := by rfl) : PE X (.Call fe (e :: es) [] pos) (StX.tCallO X C sp E tf t) := by
  obtain ⟨g, c, F⟩ := c.ex
  exact StX.pe_callO hf c F (hr.mono hk) hx ha ht he hpl
end

/-! ### enumerate(tuple) -/
theorem meets_enumerate_newT (l : Addr) (items : Array Value) (n : Nat) (dct : Option Addr) (sl : Array (Option Value)) :
    Meets (Builtin.«enumerate.__new__» ⟨[.type "enumerate", .ref l], []⟩) (fun _ R s => s.heap.get? l = some { cls := .type "tuple", dict := dct, data := .seq items n, slots := sl } ∧
      R (.ok (.ret (.ref (s.heap.push { cls := .type "tuple_iterator", data := .fields #[.ref l, .int 0 0] }).objs.size)))
        { s with heap := (s.heap.push { cls := .type "tuple_iterator", data := .fields #[.ref l, .int 0 0] }).push { cls := .type "enumerate", data := .fields #[.none, .bool false, .ref s.heap.objs.size, rawInt 0, .none, .none] } }) :=
  .of_wp fun prog w A R s h => by
    obtain ⟨hp, g, d, tk, os⟩ := s; obtain ⟨hl, h⟩ := h
    have hsub := sub_enumerate
    have hL : Heap.IsTuple (Shared.heap ⟨hp, g, d, tk, os⟩) l items := ⟨_, hl, rfl, n, rfl⟩
    wp_walk using AutoSeq1.wpAny_loadPart' hl
    refine wpAny_stack_any fun st => wpAny_pure ?_
    split
    · rename_i c _ _ _ _ _
      cases (c == Value.type "enumerate")
      · wp_walk using AutoSeq1.wpAny_loadPart' hl, wpAny_pyIter_tuple hL
        exact ⟨_, rfl, h⟩
      · wp_walk using AutoSeq1.wpAny_loadPart' hl, wpAny_pyIter_tuple hL
        exact ⟨_, rfl, h⟩
    · wp_walk using AutoSeq1.wpAny_loadPart' hl, wpAny_pyIter_tuple hL
      exact ⟨_, rfl, h⟩
theorem call_enumerate_tup {prog : Program} {w : World} {A : Around} {E : Value → Shared → Prop} {s : Shared} {l : Addr} {items : Array Value} {Q : Value → Shared → Prop} (hL : s.heap.IsTuple l items)
    (h : ∀ h', IsEnum h' (s.heap.objs.size + 1) s.heap.objs.size 0 .none → h'.IsTupleIter s.heap.objs.size l 0 → h'.objs.size = s.heap.objs.size + 2 →
      (∀ b o, s.heap.get? b = some o → h'.get? b = some o) → Q (.ref (s.heap.objs.size + 1)) { s with heap := h' }) :
    wpAny (model prog w) A (call (.type "enumerate") [.ref l]) Q E s := by
  obtain ⟨⟨c, dct, dt, sl⟩, hl, hc, n, hd⟩ := hL
  replace hc : c = .type "tuple" := hc
  replace hd : dt = .seq items n := hd
  subst hc hd
  refine callType_new F.called_enumerate (by decide) (F.typeCall_enumerate_1 _) (F.newCall_enumerate_1 _) (fun obj => F.args_object_init_2 obj _) F.entry_enumerate_new
    (meets_enumerate_newT l items n dct sl) ⟨hl, ?_⟩
  have hz : (s.heap.push { cls := .type "tuple_iterator", data := .fields #[.ref l, .int 0 0] }).objs.size = s.heap.objs.size + 1 := Heap.size_push ..
  show _ ∧ _
  rw [hz]
  have he : IsEnum ((s.heap.push { cls := .type "tuple_iterator", data := .fields #[.ref l, .int 0 0] }).push
      { cls := .type "enumerate", data := .fields #[.none, .bool false, .ref s.heap.objs.size, rawInt 0, .none, .none] }) (s.heap.objs.size + 1) s.heap.objs.size 0 .none := by
    have := Heap.get?_push_size (s.heap.push { cls := .type "tuple_iterator", data := .fields #[.ref l, .int 0 0] })
      (o := { cls := .type "enumerate", data := .fields #[.none, .bool false, .ref s.heap.objs.size, rawInt 0, .none, .none] }) rfl
    rw [hz] at this; exact this
  refine ⟨⟨_, he, rfl⟩, h _ he ⟨_, Heap.get?_push_of_some _ (Heap.get?_push_size _ rfl), rfl, rfl⟩ (by rw [Heap.size_push, hz]) fun b o x => Heap.get?_push_of_some _ (Heap.get?_push_of_some _ x)⟩
def IteT (K : PySem.W.Frag) (a : Addr) : It :=
  ⟨fun i H => ∃ (xs : List V) (x : V), SqT K H a xs ∧ xs[i]? = some x, fun i H v H' => ∃ T x, v = .ref T ∧ H T = none ∧ H' = upd H T (.tup [.int (i : Nat), x]) ∧ ∀ xs, SqT K H a xs → xs[i]? = some x, fun i H => ∃ xs : List V, SqT K H a xs ∧ xs.length = i⟩
theorem turn_enumT {P : Program} {w : World} {K : PySem.W.Frag} {elts : List Expr} {kk : Nat} {tpos : Pos} (a e it : Addr) :
    Turn P w K (.Tuple elts kk tpos) (IteT K a) [e, it] e (fun i h => (∃ old, IsEnum h e it ((i : Nat) : Int) old) ∧ h.IsTupleIter it a i ∧ e ≠ it ∧ a ≠ it ∧ a ≠ e) where
  mem := by simp
  obj := fun i h st b hb => by
    obtain ⟨⟨old, he⟩, ⟨o, ho, hc, hd⟩, _⟩ := st
    have e' : b = e ∨ b = it := by simpa using hb
    rcases e' with z | z
    · rw [z]; exact ⟨_, he, fun v q => nomatch q⟩
    · rw [z]; exact ⟨o, ho, fun v q => by rw [hd] at q; cases q⟩
  keep := fun i h h' st k => let ⟨⟨old, he⟩, hi, hne⟩ := st; ⟨⟨old, k e (by simp) _ he⟩, hi.at fun o q => k it (by simp) o q, hne⟩
  item := by
    intro X hP hw hK hc i pins s σ H E I hf st hg
    subst hP hw hK
    obtain ⟨⟨old, he⟩, hit, hne, nai, nae⟩ := st
    obtain ⟨xs, x, hq, hx⟩ := hg
    obtain ⟨its, rv, p, hz⟩ := I.tuple hq
    obtain ⟨u, hu, ru⟩ := rv.get hx
    have hel : e < s.heap.objs.size := Heap.lt_size he
    have hil : it < s.heap.objs.size := by obtain ⟨_, q, _⟩ := hit; exact Heap.lt_size q
    have hlt : i < its.toArray.size := by
      have := (List.getElem?_eq_some_iff.mp hu).1
      simpa using this
    have hA : X.A.in1.handled = none := I.ok.hd hc
    refine wpAny_pyNext_enum_itemD (Draws.tuple hA it a nai its.toArray) he ⟨hit, p⟩ hlt hne (by simp; exact ⟨hne, fun z => nae z.symm⟩) fun u' h' tk hP ho hst hT hsz hk => ?_
    have eu : u' = u := by
      have q : its[i]? = some u' := by simpa using hP
      rw [hu] at q; exact (Option.some.inj q).symm
    subst eu
    obtain ⟨hit', _⟩ := hst
    refine ⟨_, rfl, wpAny_letOwnedTupleGo_enum (s := { s with heap := h', toks := tk + 1 }) ho fun h'' he' sb => ?_⟩
    have hT2 : h''.get? s.heap.objs.size = some { cls := .type "tuple", data := .seq #[.int i tk, u'] } := (sb.2 _ (Nat.ne_of_gt hel)).trans hT
    have new : ObjOk X.prog X.w (upd H s.heap.objs.size (.tup [.int (i : Nat), x])) h'' s.heap.objs.size (.tup [.int (i : Nat), x]) :=
      ⟨by show 2 ≤ sizeLine; decide, [.int i tk, u'], .cons ⟨_, rfl⟩ (.cons ru .nil), ⟨_, hT2, rfl, _, rfl⟩⟩
    have I1 : Inv X pins σ (upd H s.heap.objs.size (.tup [.int (i : Nat), x])) { s with heap := h'', toks := tk + 1 } :=
      I.turnedNew (ch := [e, it]) (fun b ob hb q => (sb.2 b (fun z => hb (by simp [z]))).trans (hk b ob (fun z => hb (by simp [z])) (fun z => hb (by simp [z])) q)) hf (Nat.le_refl _) new
    refine ⟨.ref s.heap.objs.size, _, I1, rfl, ⟨_, x, rfl, I.hok.fresh (Nat.le_refl _), rfl, fun ys hy => by rw [I.tuple_inj hy hq]; exact hx⟩, ⟨⟨u', ?_⟩, hit'.at fun o q => (sb.2 it (Ne.symm hne)).trans q, hne, nai, nae⟩, fun b hb => ?_⟩
    · have e1 : ((i + 1 : Nat) : Int) = (i : Int) + 1 := by omega
      rw [e1]; exact he'
    · have hb' : b < s.heap.objs.size := by
        have e' : b = e ∨ b = it := by simpa using hb
        rcases e' with z | z
        · rw [z]; exact hel
        · rw [z]; exact hil
      rw [upd_ne (Nat.ne_of_lt hb')]
      exact (hf b hb).1
  done := by
    intro X hP hw hK hc i pins s σ H E I hf st hg
    subst hP hw hK
    obtain ⟨⟨old, he⟩, hit, hne, nai, nae⟩ := st
    obtain ⟨xs, hq, hx⟩ := hg
    obtain ⟨its, rv, p, hz⟩ := I.tuple hq
    obtain ⟨f0, f1, f2, f3, f4, f5⟩ := hf it (by simp)
    have hl := rv.length
    have hA : X.A.in1.handled = none := I.ok.hd hc
    have en : i = its.toArray.size := by simp; omega
    subst en
    exact wpAny_pyNext_enum_endD (Draws.tuple hA it a nai its.toArray) he ⟨hit, p⟩ fun h' eb => ⟨rfl, I.turned (t' := s.toks) (fun b o hb q => eb b o hb q) f0 f1 f3 f4 f5⟩
  self := fun A i s Q E st h => let ⟨⟨_, he⟩, _⟩ := st; wpAny_pyIter_enum he h
theorem walk_enumT {K : PySem.W.Frag} {a : Addr} {xs : List V} : Walk (IteT K a) xs.length (fun H => SqT K H a xs) (YPair (fun i => some (.int (i : Nat))) (fun i => xs[i]?)) := by
  refine ⟨fun i _ hi q => ⟨xs, xs[i], q, by simp [hi]⟩, fun _ q => ⟨xs, q, rfl⟩, fun i H v H' _ q y => ?_⟩
  obtain ⟨T, x, h1, h2, h3, h4⟩ := y
  exact ⟨T, .int (i : Nat), x, h1, h2, h3, rfl, h4 xs q⟩
/-- enumerate of a list or a tuple: whatever walks it, while its object stays -/
def iEnumS (K : PySem.W.Frag) (ta : TA) : TI := fun σ H R => ta σ H fun vs H1 => ∃ a xs, vs = [.ref a] ∧ (SqL K H1 a xs ∨ SqT K H1 a xs) ∧
  ∀ (J : It) (G : Hp → Prop), Walk J xs.length G (YPair (fun i => some (.int (i : Nat))) (fun i => xs[i]?)) → (∀ H', (SqL K H1 a xs → SqL K H' a xs) → (SqT K H1 a xs → SqT K H' a xs) → G H') → R J H1
theorem stayL {K : PySem.W.Frag} {H H' : Hp} {a : Addr} {xs : List V} (h : SqL K H a xs) (e : ∀ o, H a = some o → H' a = some o) : SqL K H' a xs := by
  rcases h with (h | ⟨o, h⟩) | h
  · exact .inl (.inl (e _ h))
  · exact .inl (.inr ⟨o, e _ h⟩)
  · exact .inr h
theorem stayT {K : PySem.W.Frag} {H H' : Hp} {a : Addr} {xs : List V} (h : SqT K H a xs) (e : ∀ o, H a = some o → H' a = some o) : SqT K H' a xs := by
  rcases h with (h | ⟨o, h⟩) | h
  · exact .inl (.inl (e _ h))
  · exact .inl (.inr ⟨o, e _ h⟩)
  · exact .inr h
theorem pi_enumS {X : Cx} {e : Expr} {ta : TA} {p pos tpos : Pos} {elts : List Expr} {kk : Nat} (hg : Gl X "enumerate") (hm : X.mg "enumerate" = none) (ha : PA X [e] ta) (hs : starEach [e] X.env = [(false, eval e X.env)] := by rfl) :
    PI X (.Tuple elts kk tpos) (.Call (.Name "enumerate" p) [e] [] pos) (iEnumS X.K ta) := by
  refine ⟨fun pins s σ H R I h => ?_⟩
  refine Call_ (ld_blt I hg hm boot_enumerate (PyProof.Rows.callWith_type1 (thn (ha.run pos pins s σ H _ I h) fun us s1 ⟨vs, H1, I1, r1, q1⟩ => ?_) hs rfl))
  obtain ⟨a, xs, ex, hq, q⟩ := q1
  subst ex
  have hfp : ∀ b, b = s1.heap.objs.size + 1 ∨ b = s1.heap.objs.size → s1.heap.objs.size ≤ b := fun b e' => by
    rcases e' with z | z
    · rw [z]; exact Nat.le_add_right _ _
    · rw [z]; exact Nat.le_refl _
  cases r1 with
  | cons r rr =>
    cases rr
    cases r
    rcases hq with hq | hq
    · obtain ⟨its, rv, p', hz⟩ := I1.list hq
      refine call_enumerate_list p'.isList fun h' he hit hsz hk => wpAny_pyIter_enum he ?_
      have I2 : Inv X pins σ H1 { s1 with heap := h' } := I1.kept (t' := s1.toks) hk
      refine ⟨s1.heap.objs.size + 1, [s1.heap.objs.size + 1, s1.heap.objs.size], _, _, H1, rfl, I2, turn_enum a (s1.heap.objs.size + 1) s1.heap.objs.size, ⟨⟨.none, he⟩, hit, Nat.succ_ne_self _⟩, fun b hb => ?_, q _ _ walk_enum fun H' e _ => e hq⟩
      have hle := hfp b (by simpa using hb)
      exact I1.fpOk hle (I1.hok.fresh hle)
    · obtain ⟨its, rv, p', hz⟩ := I1.tuple hq
      have hlt := p'.lt
      refine call_enumerate_tup p' fun h' he hit hsz hk => wpAny_pyIter_enum he ?_
      have I2 : Inv X pins σ H1 { s1 with heap := h' } := I1.kept (t' := s1.toks) hk
      refine ⟨s1.heap.objs.size + 1, [s1.heap.objs.size + 1, s1.heap.objs.size], _, _, H1, rfl, I2, turn_enumT a (s1.heap.objs.size + 1) s1.heap.objs.size, ⟨⟨.none, he⟩, hit, Nat.succ_ne_self _, Nat.ne_of_lt hlt, Nat.ne_of_lt (Nat.lt_succ_of_lt hlt)⟩, fun b hb => ?_, q _ _ walk_enumT fun H' _ e => e hq⟩
      have hle := hfp b (by simpa using hb)
      exact I1.fpOk hle (I1.hok.fresh hle)

/-! ### a def of the text keeps its promise -/
section
variable {P : Program} {w : World} {K : PySem.W.Frag} {mg : Str → Option Value} {base : Heap}
theorem fnr {x qual : Str} {st : Stmt} {f : Addr} {fd : FuncData} {N ps : List Str} {k : Nat} {sp : Sp} (F : Fun K x qual st f fd) (S : FnScope N ps (defScope st)) (len : ∀ vs H Q E, sp vs H Q E → vs.length = ps.length)
    (hb : ∀ (kV doc pm : Value) (an : Option Addr) (cdv ct : Value) (us : List Value), us.length = ps.length → bindArgs (PySem.W.fnOf x qual (defArgs st) (defBody st) (defScope st) .none kV doc pm an cdv ct) ⟨us, []⟩ = pure (ps.zip us))
    (hbody : ∀ (cdv : Value) (A : Around) (outer : List Env) (s : Shared) (H : Hp) (vs : List V) (Q : VK) (E : XK), Room k (A.deeper (envOfC qual (defScope st) s.heap.objs.size f cdv)) → sp vs H Q E →
      ∃ t, PSs (cxOf CX0 P w K mg base N qual (defScope st) f cdv A outer s H E).nox (defBody st) t ∧ t { nx := fun _ H' => Q .non H', rt := Q } (start N vs) H) : FnR P w K mg base CX0 (k + 1) f sp :=
  (FnOk.raw (F.ok S len hbody) (F.binds hb) .nil).imp fun vs H Q E h => by rw [List.append_nil]; exact h
end
/-- a def of the text with defaults -/
theorem fnrD {P : Program} {w : World} {K : PySem.W.Frag} {mg : Str → Option Value} {base : Heap} {x qual : Str} {st : Stmt} {f : Addr} {fd : FuncData} {dvs : List V} {kws : List (Str × V)} {N ps : List Str} {k : Nat} {sp : Sp} (F : FunD K x qual (defArgs st) (defBody st) (defScope st) dvs kws f fd) (S : FnScope N ps (defScope st)) (len : ∀ vs H Q E, sp vs H Q E → vs.length = ps.length)
    (hbody : ∀ (cdv : Value) (A : Around) (outer : List Env) (s : Shared) (H : Hp) (vs : List V) (Q : VK) (E : XK), Room k (A.deeper (envOfC qual (defScope st) s.heap.objs.size f cdv)) → sp vs H Q E →
      ∃ t, PSs (cxOf CX0 P w K mg base N qual (defScope st) f cdv A outer s H E).nox (defBody st) t ∧ t { nx := fun _ H' => Q .non H', rt := Q } (start N vs) H) : FnOk P w K mg base CX0 (k + 1) f fd ps sp :=
  F.ok S len fun cdv A outer s H vs Q E hr h => by
    obtain ⟨t, a, q⟩ := hbody cdv A outer s H vs Q E hr h
    exact ⟨t, a.nox, q⟩
theorem FnOk.r {P : Program} {w : World} {K : PySem.W.Frag} {mg : Str → Option Value} {base : Heap} {CX : CXT} {k : Nat} {f : Addr} {fd : FuncData} {ps : List Str} {sp : Sp} (F : FnOk P w K mg base CX k f fd ps sp) (b : Binds K fd ps []) : FnR P w K mg base CX k f sp :=
  (FnOk.raw F b .nil).imp fun vs H Q E h => by rw [List.append_nil]; exact h
theorem rix_S {K : PySem.W.Frag} {H : Hp} {n : Addr} {ys : List V} {i : Int} {v : V} {Q : VK} (h : SqL K H n ys ∨ SqT K H n ys) (e : atI ys i = some v) (q : Q v H) : rIx K (.ref n) (.int i) H Q :=
  h.elim (fun h => .inl ⟨n, ys, i, v, rfl, rfl, h, e, q⟩) (fun h => .inr (.inl ⟨n, ys, i, v, rfl, rfl, h, e, q⟩))
theorem ifY {c A B : Prop} [Decidable c] (hc : c) (h : A) : if decide c = true then A else B := by
  rw [decide_eq_true hc]
  exact iteT h
theorem ifN {c A B : Prop} [Decidable c] (hc : ¬ c) (h : B) : if decide c = true then A else B := by
  rw [decide_eq_false hc]
  exact iteF h
theorem ifNN {c A B : Prop} [Decidable c] (hc : ¬ c) (h : A) : if (!decide c) = true then A else B := by
  rw [decide_eq_false hc]
  exact iteT h
/-- names that the module leaves to the built-ins -/
def Free (mg : Str → Option Value) : List Str → Prop
  | [] => True
  | x :: r => mg x = none ∧ Free mg r
/-- what stood stands, but at b -/
def KeepB (b : Addr) (H H' : Hp) : Prop := ∀ c o, H c = some o → c ≠ b → H' c = some o
theorem KeepB.refl (b : Addr) (H : Hp) : KeepB b H H := fun _ _ e _ => e
theorem KeepB.trans {b : Addr} {H H1 H2 : Hp} (x : KeepB b H H1) (y : KeepB b H1 H2) : KeepB b H H2 := fun c o e n => y c o (x c o e n) n
theorem KeepB.of_same {b : Addr} {H H1 : Hp} (x : Same H H1) : KeepB b H H1 := fun c o e _ => x c o e
theorem KeepB.upd {b : Addr} {H H1 : Hp} {o : HO} (x : KeepB b H H1) : KeepB b H (L2.upd H1 b o) := fun c u e n => by rw [upd_ne n]; exact x c u e n
theorem KeepB.new {b p : Addr} {H H1 : Hp} {o : HO} (x : KeepB b H H1) (hp : H1 p = none) : KeepB b H (L2.upd H1 p o) := fun c u e n => by
  rw [upd_ne (ne_of_none (x c u e n) hp)]; exact x c u e n
theorem same_new {p : Addr} {H H1 : Hp} {o : HO} (x : Same H H1) (hp : H1 p = none) : Same H (L2.upd H1 p o) := fun c u e => by
  rw [upd_ne (ne_of_none (x c u e) hp)]; exact x c u e
theorem Same.sqT {K : PySem.W.Frag} {H H' : Hp} {a : Addr} {xs : List V} (e : Same H H') (h : SqT K H a xs) : SqT K H' a xs := by
  rcases h with (h | ⟨o, h⟩) | h
  · exact .inl (.inl (e _ _ h))
  · exact .inl (.inr ⟨o, e _ _ h⟩)
  · exact .inr h
theorem KeepB.sqT {K : PySem.W.Frag} {b : Addr} {H H' : Hp} {a : Addr} {xs : List V} (e : KeepB b H H') {l : List V} (hb : H b = some (.lst l)) (h : SqT K H a xs) : SqT K H' a xs := by
  rcases h with (h | ⟨o, h⟩) | h
  · exact .inl (.inl (e _ _ h (ne_of h hb (by intro z; cases z))))
  · exact .inl (.inr ⟨o, e _ _ h (ne_of h hb (by intro z; cases z))⟩)
  · exact .inr h
/-- what b holds is neither a list nor locked -/
def NoSeq (o : HO) : Prop := (∀ xs, o ≠ .lst xs) ∧ (∀ xs, o ≠ .tup xs) ∧ ∀ ob u, o ≠ .frz ob u
theorem KeepB.sqT' {K : PySem.W.Frag} {b : Addr} {H H' : Hp} {a : Addr} {xs : List V} {o : HO} (e : KeepB b H H') (hb : H b = some o) (ho : NoSeq o) (h : SqT K H a xs) : SqT K H' a xs := by
  rcases h with (h | ⟨o, h⟩) | h
  · exact .inl (.inl (e _ _ h (ne_of h hb fun z => ho.2.1 _ z.symm)))
  · exact .inl (.inr ⟨o, e _ _ h (ne_of h hb fun z => ho.2.2 _ _ z.symm)⟩)
  · exact .inr h
theorem KeepB.sqL' {K : PySem.W.Frag} {b : Addr} {H H' : Hp} {a : Addr} {xs : List V} {o : HO} (e : KeepB b H H') (hb : H b = some o) (ho : NoSeq o) (h : SqL K H a xs) : SqL K H' a xs := by
  rcases h with (h | ⟨o, h⟩) | h
  · exact .inl (.inl (e _ _ h (ne_of h hb fun z => ho.1 _ z.symm)))
  · exact .inl (.inr ⟨o, e _ _ h (ne_of h hb fun z => ho.2.2 _ _ z.symm)⟩)
  · exact .inr h
theorem noSeq_dK (kvs : List (Key × V)) : NoSeq (.dK kvs) := ⟨fun _ z => (by cases z), fun _ z => (by cases z), fun _ _ z => (by cases z)⟩
theorem noSeq_ins (C dx : Addr) (fs : List (Str × V)) : NoSeq (.ins C dx fs) := ⟨fun _ z => (by cases z), fun _ z => (by cases z), fun _ _ z => (by cases z)⟩
theorem KeepB.sqL {K : PySem.W.Frag} {b : Addr} {H H' : Hp} {a : Addr} {xs : List V} (e : KeepB b H H') (hn : a ≠ b) (h : SqL K H a xs) : SqL K H' a xs := by
  rcases h with (h | ⟨o, h⟩) | h
  · exact .inl (.inl (e _ _ h hn))
  · exact .inl (.inr ⟨o, e _ _ h hn⟩)
  · exact .inr h

/-! ### data -/
def Sh (d : PyData) : Prop := d.canLay0 = true ∧ d.depth ≤ 10
theorem canLayAll_of : ∀ {ds : List PyData}, (∀ d ∈ ds, d.canLay0 = true) → PyData.canLayAll0 ds = true
  | [], _ => rfl
  | d :: ds, h => by
    show (PyData.canLay0 d && PyData.canLayAll0 ds) = true
    rw [h d List.mem_cons_self, canLayAll_of fun e he => h e (List.mem_cons_of_mem _ he)] <;> rfl
theorem depthAll_of {k : Nat} : ∀ {ds : List PyData}, (∀ d ∈ ds, d.depth ≤ k) → PyData.depthAll ds ≤ k
  | [], _ => Nat.zero_le _
  | d :: ds, h => by
    show max (PyData.depth d) (PyData.depthAll ds) ≤ k
    exact Nat.max_le.mpr ⟨h d List.mem_cons_self, depthAll_of fun e he => h e (List.mem_cons_of_mem _ he)⟩
theorem shaped_list {ds : List PyData} (h : ∀ d ∈ ds, Sh d) : SeqAt.shaped (.list ds) = true := by
  have h1 : PyData.canLay0 (.list ds) = true := canLayAll_of fun d hd => (h d hd).1
  have h2 : PyData.depth (.list ds) ≤ 11 := Nat.succ_le_succ (depthAll_of fun d hd => (h d hd).2)
  unfold SeqAt.shaped
  rw [h1, decide_eq_true (Nat.le_trans h2 (by decide))] <;> rfl
theorem shaped_tuple {ds : List PyData} (h : ∀ d ∈ ds, Sh d) : SeqAt.shaped (.tuple ds) = true := by
  have h1 : PyData.canLay0 (.tuple ds) = true := canLayAll_of fun d hd => (h d hd).1
  have h2 : PyData.depth (.tuple ds) ≤ 11 := Nat.succ_le_succ (depthAll_of fun d hd => (h d hd).2)
  unfold SeqAt.shaped
  rw [h1, decide_eq_true (Nat.le_trans h2 (by decide))] <;> rfl
theorem sh_seq {k : Nat} {ds : List PyData} (h : ∀ d ∈ ds, d.canLay0 = true ∧ d.depth ≤ k) (hk : k ≤ 9) : Sh (.list ds) ∧ Sh (.tuple ds) := by
  have h1 : PyData.canLayAll0 ds = true := canLayAll_of fun d hd => (h d hd).1
  have h2 : PyData.depthAll ds + 1 ≤ 10 := Nat.succ_le_succ (Nat.le_trans (depthAll_of fun d hd => (h d hd).2) hk)
  exact ⟨⟨h1, h2⟩, ⟨h1, h2⟩⟩
theorem sh_ints (ns : List Int) : ∀ d ∈ ns.map PyData.int, Sh d := fun d hd => by
  obtain ⟨n, _, rfl⟩ := List.mem_map.mp hd
  exact ⟨rfl, Nat.zero_le _⟩
theorem eqvAll_ints : ∀ a b : List Int, PyData.eqvAll (a.map PyData.int) (b.map PyData.int) = decide (a = b)
  | [], [] => rfl
  | [], _ :: _ => rfl
  | _ :: _, [] => rfl
  | x :: a, y :: b => by
    show (PyData.eqv (.int x) (.int y) && PyData.eqvAll (a.map PyData.int) (b.map PyData.int)) = decide (x :: a = y :: b)
    rw [eqvAll_ints a b]
    have e : PyData.eqv (.int x) (.int y) = decide (x = y) := by
      unfold PyData.eqv
      exact Bool.beq_eq_decide_eq x y
    rw [e, ← Bool.decide_and]
    exact decide_eq_decide.mpr ⟨fun h => by rw [h.1, h.2], fun h => by injection h with h1 h2; exact ⟨h1, h2⟩⟩
theorem eqv_list {a b : List PyData} : PyData.eqv (.list a) (.list b) = PyData.eqvAll a b := by rw [PyData.eqv]
theorem eqv_tuple {a b : List PyData} : PyData.eqv (.tuple a) (.tuple b) = PyData.eqvAll a b := by rw [PyData.eqv]
theorem eqv_same {ds : List PyData} (h : ∀ d ∈ ds, Sh d) : PyData.eqv (.list ds) (.list ds) = true := SeqAt.eqv_refl _ (canLayAll_of fun d hd => (h d hd).1)
section
variable {K : PySem.W.Frag} {H H' : Hp}
theorem dpAll_ints : ∀ ns : List Int, DpAll K H (ns.map V.int) (ns.map PyData.int)
  | [] => .nil
  | n :: r => .cons (.int n) (dpAll_ints r)
theorem dp_ints {p : Addr} {ns : List Int} (h : SqL K H p (ns.map V.int)) : Dp K H (.ref p) (.list (ns.map PyData.int)) := .lst h (dpAll_ints ns)
theorem dp_intsT {p : Addr} {ns : List Int} (h : SqT K H p (ns.map V.int)) : Dp K H (.ref p) (.tuple (ns.map PyData.int)) := .tup h (dpAll_ints ns)
mutual
theorem Dp.mono (e : Same H H') : ∀ {v : V} {d : PyData}, Dp K H v d → Dp K H' v d
  | _, _, .non => .non
  | _, _, .bl b => .bl b
  | _, _, .int i => .int i
  | _, _, .str x => .str x
  | _, _, .lst h q => .lst (L2.Same.seq e h) (DpAll.mono e q)
  | _, _, .tup h q => .tup (Same.sqT e h) (DpAll.mono e q)
theorem DpAll.mono (e : Same H H') : ∀ {vs : List V} {ds : List PyData}, DpAll K H vs ds → DpAll K H' vs ds
  | _, _, .nil => .nil
  | _, _, .cons h q => .cons (Dp.mono e h) (DpAll.mono e q)
end
theorem DpAll.length : ∀ {vs : List V} {ds : List PyData}, DpAll K H vs ds → vs.length = ds.length
  | _, _, .nil => rfl
  | _, _, .cons _ q => congrArg Nat.succ (DpAll.length q)
theorem DpAll.get : ∀ {vs : List V} {ds : List PyData} {i : Nat} {v : V}, DpAll K H vs ds → vs[i]? = some v → ∃ d, ds[i]? = some d ∧ Dp K H v d
  | _, _, _, _, .nil, e => by simp at e
  | _, _, 0, v, .cons (v := v') h _, e => by
    have : v' = v := Option.some.inj e
    subst this
    exact ⟨_, rfl, h⟩
  | _, _, i + 1, v, .cons _ q, e => by
    obtain ⟨d, h1, h2⟩ := DpAll.get (i := i) q (by simpa using e)
    exact ⟨d, by simpa using h1, h2⟩
theorem DpAll.snoc : ∀ {vs : List V} {ds : List PyData} {v : V} {d : PyData}, DpAll K H vs ds → Dp K H v d → DpAll K H (vs ++ [v]) (ds ++ [d])
  | _, _, _, _, .nil, h => .cons h .nil
  | _, _, _, _, .cons h q, h' => .cons h (DpAll.snoc q h')
end

/-! ### rules with the written part named: within a comprehension -/
section
variable {X : Cx} {K : PySem.W.Frag}
theorem ix_tupK (hK : X.K = K) : IxR X (rIxT K) := hK ▸ ix_tup
theorem ix_listK (hK : X.K = K) : IxR X (rIxL K) := hK ▸ ix_list
theorem ix_seqK (hK : X.K = K) : IxR X (rIx K) := hK ▸ ix_seq
theorem op_in_seqK (hK : X.K = K) : OpR X (compareOp .In) (rIn K false) := hK ▸ op_in_seq
theorem op_notIn_seqK (hK : X.K = K) : OpR X (compareOp .NotIn) (rIn K true) := hK ▸ op_notIn_seq
theorem op_eqDK (hK : X.K = K) (hu : X.A.units + 64 < cLine) : OpR X (compareOp .Eq) (rEqD K) := hK ▸ op_eqD hu
theorem op_neDK (hK : X.K = K) (hu : X.A.units + 64 < cLine) : OpR X (compareOp .NotEq) (rNeD K) := hK ▸ op_neD hu
theorem pe_fldK {e : Expr} {ta : TE} {f : Str} {pos : Pos} (hK : X.K = K) (he : PE X e ta) (hb : attributeBase e f X.env (eval e X.env) = eval e X.env) : PE X (.Attribute e f pos) (tFld K ta f) := hK ▸ pe_fld he hb
def rLenS (K : PySem.W.Frag) : List V → Hp → VK → Prop := fun xs H Q => ∃ p ys, xs = [.ref p] ∧ (SqL K H p ys ∨ SqT K H p ys) ∧ Q (.int ys.length) H
theorem call_len_seqK (hK : X.K = K) : CallR X (.builtin "len") (rLenS K) := hK ▸ call_len_seq
end

theorem pg_tupK {X : Cx} {K : PySem.W.Frag} {pos : Pos} {es : List Expr} {k : Nat} {t : TGs} {n : Nat} (hK : X.K = K) (hc : X.calm = true) (h : PGs X es t)
    (hn : (assignEach es X.env).length = n := by rfl) (hst : (assignEach es X.env).findIdx? (·.1) = none := by rfl) : PG X (.Tuple es k pos) (gTup K n t) := hK ▸ pg_tup hc h hn hst
/-- a dict comprehension over what is walked -/
theorem dc_it {J : It} {n : Nat} {G : Hp → Prop} {Y : Nat → Hp → V → Hp → Prop} (w : Walk J n G Y) {g : TG} {tt : TT} {tk tv : TE} {vs : List Nat} {σ : L2.St} {H1 : Hp} {D : Addr} {Qd : Hp → Prop} (Pv : Nat → Hp → Prop) (h0 : Pv 0 (upd H1 D (.dK []))) (hG : ∀ i H, i ≤ n → Pv i H → G H)
    (hs : ∀ i x H H', i < n → Pv i H → Y i H x H' → g x (wipe σ vs) H' fun σ2 H2 => wipe σ2 vs = wipe σ vs ∧ tt σ2 H2 fun b H3 =>
      if b = true then tk σ2 H3 fun y H4 => tv σ2 H4 fun z H5 => ∃ kvs k, y = kV k ∧ H5 D = some (.dK kvs) ∧ kvs.length < sizeLine ∧ Pv (i + 1) (upd H5 D (.dK (putK kvs k z))) else Pv (i + 1) H3) (hd : ∀ H, Pv n H → Qd H) :
    ∃ W : Nat → Nat → Hp → Prop, (∃ m, W 0 m (upd H1 D (.dK []))) ∧ ∀ i m H, W i m H →
      (J.stop i H ∧ Qd H) ∨ (J.go i H ∧ ∃ Nx : Hp → Prop, (∀ H', Nx H' → ∃ m', m' < m ∧ W (i + 1) m' H') ∧ ∀ x H', J.yld i H x H' → g x (wipe σ vs) H' fun σ2 H2 => wipe σ2 vs = wipe σ vs ∧ tt σ2 H2 fun b H3 =>
        if b = true then tk σ2 H3 fun y H4 => tv σ2 H4 fun z H5 => ∃ kvs k, y = kV k ∧ H5 D = some (.dK kvs) ∧ kvs.length < sizeLine ∧ Nx (upd H5 D (.dK (putK kvs k z))) else Nx H3) := by
  refine ⟨fun i m H => m = n - i ∧ i ≤ n ∧ Pv i H, ⟨n, by simp, Nat.zero_le _, h0⟩, ?_⟩
  rintro i m H ⟨rfl, hi, p⟩
  have q := hG i H hi p
  by_cases hlt : i < n
  · exact .inr ⟨w.goes i H hlt q, Pv (i + 1), fun H' p' => ⟨n - (i + 1), by omega, rfl, hlt, p'⟩, fun x H' y => hs i x H H' hlt p (w.yields i H x H' hlt q y)⟩
  · have e : i = n := by omega
    subst e
    exact .inl ⟨w.stops H q, hd H p⟩

theorem seqIdx_nat {m len : Nat} (h : m < len) : seqIndex? (m : Int) len = some m := by
  unfold seqIndex?
  have h1 : ¬ ((m : Int) < 0) := by omega
  simp only [h1, if_false]
  have h2 : (decide ((0 : Int) ≤ (m : Int)) && decide ((m : Int) < (len : Int))) = true := by
    rw [Bool.and_eq_true]
    exact ⟨decide_eq_true (by omega), decide_eq_true (by omega)⟩
  rw [if_pos h2]
  simp
theorem map_eraseI {α β : Type} (f : α → β) : ∀ (l : List α) (i : Nat), (l.map f).eraseIdx i = (l.eraseIdx i).map f
  | [], _ => rfl
  | _ :: _, 0 => rfl
  | a :: r, i + 1 => by
    show f a :: (r.map f).eraseIdx i = f a :: (r.eraseIdx i).map f
    rw [map_eraseI f r i]
theorem lt_line {n : Nat} (h : n ≤ 100000) : n < sizeLine := Nat.lt_of_le_of_lt h (by decide)
theorem le_line {n : Nat} (h : n ≤ 100000) : n ≤ sizeLine := Nat.le_of_lt (lt_line h)

theorem ixN_nat {m len : Nat} (h : m < len) : ixN len (m : Int) = some m := by
  unfold ixN
  rw [if_pos (by omega), if_pos (by omega)]
  simp
theorem set_last {α : Type} : ∀ (a : List α) (x y : α), (a ++ [x]).set a.length y = a ++ [y]
  | [], _, _ => rfl
  | b :: r, x, y => by
    show b :: (r ++ [x]).set r.length y = b :: (r ++ [y])
    rw [set_last r x y]
theorem strOk_of (t : String) : PyData.strOk (Str.ofString t) = true := by
  rw [Str.ofString_eq_toList]
  unfold PyData.strOk
  rw [← Array.all_toList]
  simp only [List.all_eq_true, decide_eq_true_eq]
  intro c hc
  have hc' : c ∈ t.toList.map Char.toNat := by simpa using hc
  obtain ⟨ch, _, rfl⟩ := List.mem_map.mp hc'
  have v := ch.valid
  rcases v with v | v
  · have : ch.toNat < 0xd800 := v
    omega
  · have : ch.toNat < 0x110000 := v.2
    omega
theorem strOk_app (a b : Str) (ha : PyData.strOk a = true) (hb : PyData.strOk b = true) : PyData.strOk (a ++ b) = true := by
  unfold PyData.strOk at *
  show (a.cps ++ b.cps).all _ = true
  rw [Array.all_append, ha, hb] <;> rfl
/-- the heap without some addresses -/
def Wo (H : Hp) (bs : List Addr) : Hp := fun c => if c ∈ bs then none else H c
theorem wo_same {H : Hp} {bs : List Addr} : Same (Wo H bs) H := fun c o e => by
  unfold Wo at e
  by_cases h : c ∈ bs
  · rw [if_pos h] at e; cases e
  · rw [if_neg h] at e; exact e
theorem wo_mono {H H' : Hp} {bs : List Addr} (k : ∀ c o, H c = some o → c ∉ bs → H' c = some o) : Same (Wo H bs) (Wo H' bs) := fun c o e => by
  unfold Wo at e ⊢
  by_cases h : c ∈ bs
  · rw [if_pos h] at e; cases e
  · rw [if_neg h] at e ⊢
    exact k c o e h
theorem wo_at {H : Hp} {bs : List Addr} {c : Addr} {o : HO} (h : H c = some o) (hn : c ∉ bs) : Wo H bs c = some o := by
  unfold Wo
  rw [if_neg hn]
  exact h

theorem inV_ints (v : Int) : ∀ ps : List Int, inV (.int v) (ps.map V.int) = decide (v ∈ ps)
  | [] => by simp [inV]
  | p :: r => by
    have ih := inV_ints v r
    unfold inV at ih ⊢
    rw [List.map_cons, List.any_cons, ih]
    have e : eqV (.int p) (.int v) = decide (v = p) := by
      show (p == v) = _
      by_cases h : p = v
      · subst h; simp
      · have h' : ¬ v = p := fun z => h z.symm
        simp [h, h']
    rw [e]
    by_cases h : v = p <;> simp [h]
theorem flat_ints (ps : List Int) : (ps.map V.int).all flatV = true := by
  rw [List.all_eq_true]
  intro x hx
  obtain ⟨p, _, rfl⟩ := List.mem_map.mp hx
  rfl
theorem ifNT {b : Bool} {A B : Prop} (hb : b = true) (h : B) : if (!b) = true then A else B := by
  subst hb
  exact iteF h
theorem ifT {b : Bool} {A B : Prop} (hb : b = true) (h : A) : if b = true then A else B := by
  subst hb
  exact iteT h
theorem ifF {b : Bool} {A B : Prop} (hb : b = false) (h : B) : if b = true then A else B := by
  subst hb
  exact iteF h
theorem flat_rep {α : Type} (x : α) : ∀ k : Nat, (List.replicate k [x]).flatten = List.replicate k x
  | 0 => rfl
  | k + 1 => by
    rw [List.replicate_succ, List.flatten_cons, flat_rep x k, List.replicate_succ]
    rfl
theorem dpAll_rep {K : PySem.W.Frag} {H : Hp} {x : V} {d : PyData} (h : Dp K H x d) : ∀ k : Nat, DpAll K H (List.replicate k x) (List.replicate k d)
  | 0 => .nil
  | k + 1 => .cons h (dpAll_rep h k)
end SB

/-! Moves as plain lists of places. -/
namespace MM
/-- the places of a move that takes t values -/
def MoveOk (t : Nat) (ps : List Int) : Prop := (∀ p ∈ ps, -1 ≤ p ∧ p < (t : Int)) ∧ ps.Pairwise (fun a b => 0 ≤ a → a ≠ b)
theorem MoveOk.inj {t : Nat} {ps : List Int} (h : MoveOk t ps) {i j : Nat} {v : Int} (hi : ps[i]? = some v) (hj : ps[j]? = some v) (h0 : 0 ≤ v) : i = j := by
  obtain ⟨li, ei⟩ := List.getElem?_eq_some_iff.mp hi
  obtain ⟨lj, ej⟩ := List.getElem?_eq_some_iff.mp hj
  have pw := List.pairwise_iff_getElem.mp h.2
  rcases Nat.lt_trichotomy i j with c | c | c
  · exact absurd (ei.trans ej.symm) (pw i j li lj c (by rw [ei]; exact h0))
  · exact c
  · exact absurd (ej.trans ei.symm) (pw j i lj li c (by rw [ej]; exact h0))
theorem MoveOk.at {t : Nat} {ps : List Int} (h : MoveOk t ps) {i : Nat} {v : Int} (hi : ps[i]? = some v) : -1 ≤ v ∧ v < (t : Int) := h.1 v (List.mem_of_getElem? hi)
theorem moveOk_of {t : Nat} {ps : List Int} (h1 : ∀ (i : Nat) (v : Int), ps[i]? = some v → -1 ≤ v ∧ v < (t : Int)) (h2 : ∀ (i j : Nat) (v : Int), ps[i]? = some v → ps[j]? = some v → 0 ≤ v → i = j) : MoveOk t ps := by
  refine ⟨fun p hp => ?_, List.pairwise_iff_getElem.mpr fun i j hi hj hij h0 e => ?_⟩
  · obtain ⟨i, hi, e⟩ := List.mem_iff_getElem.mp hp
    exact h1 i p (by rw [List.getElem?_eq_getElem hi, e])
  · have := h2 i j ps[i] (List.getElem?_eq_getElem hi) (by rw [List.getElem?_eq_getElem hj, e]) h0
    omega
/-- where p stands among the places, or -1 -/
def posI : List Int → Int → Nat → Int
  | [], _, _ => -1
  | x :: r, p, k => if x = p then (k : Int) else posI r p (k + 1)
def posM (ps : List Int) (p : Int) : Int := posI ps p 0
theorem posI_spec : ∀ (ps : List Int) (p : Int) (k : Nat), (posI ps p k = -1 ∧ p ∉ ps) ∨ ∃ j : Nat, posI ps p k = ((k + j : Nat) : Int) ∧ ps[j]? = some p
  | [], p, k => .inl ⟨rfl, by simp⟩
  | x :: r, p, k => by
    unfold posI
    by_cases c : x = p
    · rw [if_pos c]
      exact .inr ⟨0, by simp, by simp [c]⟩
    · rw [if_neg c]
      rcases posI_spec r p (k + 1) with ⟨e, h⟩ | ⟨j, e, h⟩
      · exact .inl ⟨e, by simp [h]; exact fun z => c z.symm⟩
      · exact .inr ⟨j + 1, by rw [e]; congr 1; omega, by simpa using h⟩
theorem posM_none {ps : List Int} {p : Int} (h : p ∉ ps) : posM ps p = -1 := by
  rcases posI_spec ps p 0 with ⟨e, _⟩ | ⟨j, _, hj⟩
  · exact e
  · exact absurd (List.mem_of_getElem? hj) h
theorem posM_some {t : Nat} {ps : List Int} (ok : MoveOk t ps) {p : Int} {j : Nat} (h0 : 0 ≤ p) (h : ps[j]? = some p) : posM ps p = (j : Int) := by
  rcases posI_spec ps p 0 with ⟨_, n⟩ | ⟨i, e, hi⟩
  · exact absurd (List.mem_of_getElem? h) n
  · have := ok.inj hi h h0
    subst this
    exact e.trans (by simp)
theorem posM_cases (ps : List Int) (p : Int) : (posM ps p = -1 ∧ p ∉ ps) ∨ ∃ j : Nat, posM ps p = (j : Int) ∧ ps[j]? = some p := by
  rcases posI_spec ps p 0 with h | ⟨j, e, h⟩
  · exact .inl h
  · exact .inr ⟨j, e.trans (by simp), h⟩
/-- the places of the undone move -/
def invM (t : Nat) (ps : List Int) : List Int := (List.range t).map fun i : Nat => posM ps (i : Int)
theorem invM_length (t : Nat) (ps : List Int) : (invM t ps).length = t := by simp [invM]
theorem invM_get {t : Nat} {ps : List Int} {i : Nat} (h : i < t) : (invM t ps)[i]? = some (posM ps (i : Int)) := by
  simp [invM, h]
theorem invM_get' {t : Nat} {ps : List Int} {i : Nat} {v : Int} (h : (invM t ps)[i]? = some v) : i < t ∧ v = posM ps (i : Int) := by
  have hl : i < t := by
    have := (List.getElem?_eq_some_iff.mp h).1
    rw [invM_length] at this
    exact this
  rw [invM_get hl] at h
  exact ⟨hl, (Option.some.inj h).symm⟩
theorem invM_ok {t : Nat} {ps : List Int} (ok : MoveOk t ps) : MoveOk ps.length (invM t ps) := by
  refine moveOk_of (fun i v h => ?_) (fun i j v hi hj h0 => ?_)
  · obtain ⟨_, rfl⟩ := invM_get' h
    rcases posM_cases ps i with ⟨e, _⟩ | ⟨j, e, hj⟩
    · rw [e]; omega
    · have := (List.getElem?_eq_some_iff.mp hj).1
      rw [e]; omega
  · obtain ⟨_, e1⟩ := invM_get' hi
    obtain ⟨_, e2⟩ := invM_get' hj
    rcases posM_cases ps i with ⟨e, _⟩ | ⟨a, ea, ha⟩
    · omega
    · rcases posM_cases ps j with ⟨e, _⟩ | ⟨b, eb, hb⟩
      · omega
      · have : a = b := by omega
        subst this
        rw [ha] at hb
        have := Option.some.inj hb
        omega
theorem invM_succ (t : Nat) (ps : List Int) : invM (t + 1) ps = invM t ps ++ [posM ps (t : Int)] := by
  unfold invM
  rw [List.range_succ, List.map_append]
  rfl
theorem posI_snoc_old {x p : Int} (h : p ≠ x) : ∀ (ps : List Int) (k : Nat), posI (ps ++ [x]) p k = posI ps p k
  | [], k => by
    show (if x = p then _ else _) = _
    rw [if_neg fun z => h z.symm]
    rfl
  | y :: r, k => by
    show (if y = p then _ else posI (r ++ [x]) p (k + 1)) = if y = p then _ else _
    rw [posI_snoc_old h r (k + 1)]
theorem posM_snoc_old {ps : List Int} {x p : Int} (h : p ≠ x) : posM (ps ++ [x]) p = posM ps p := posI_snoc_old h ps 0
theorem posM_snoc_new {t : Nat} {ps : List Int} (ok : MoveOk t ps) {i : Nat} {v p : Int} (h : ps[i]? = some v) (h0 : 0 ≤ v) (e : p = v) : posM (ps.take i ++ [v]) p = (i : Int) := by
  subst e
  have hl : i < ps.length := (List.getElem?_eq_some_iff.mp h).1
  rcases posM_cases (ps.take i ++ [p]) p with ⟨_, n⟩ | ⟨j, e, hj⟩
  · exact absurd (List.mem_append_right _ (List.mem_singleton_self _)) n
  · rw [e]
    have hlt : j < i + 1 := by
      have := (List.getElem?_eq_some_iff.mp hj).1
      rw [List.length_append, List.length_take] at this
      simp at this
      omega
    by_cases c : j < i
    · rw [List.getElem?_append_left (by rw [List.length_take]; omega), List.getElem?_take, if_pos c] at hj
      have := ok.inj hj h h0
      omega
    · congr 1
      omega
theorem ext_get {a b : List Int} (hl : a.length = b.length) (h : ∀ (i : Nat) (x y : Int), a[i]? = some x → b[i]? = some y → x = y) : a = b := by
  apply List.ext_getElem hl
  intro i h1 h2
  exact h i _ _ (List.getElem?_eq_getElem h1) (List.getElem?_eq_getElem h2)
/-- undone twice -/
theorem inv_inv {t : Nat} {ps : List Int} (ok : MoveOk t ps) : invM ps.length (invM t ps) = ps := by
  refine ext_get (invM_length _ _) fun i x y hx hy => ?_
  obtain ⟨hi, rfl⟩ := invM_get' hx
  have b := ok.at hy
  by_cases h0 : 0 ≤ y
  · obtain ⟨k, rfl⟩ : ∃ k : Nat, y = (k : Int) := ⟨y.toNat, by omega⟩
    have hk : k < t := by omega
    have e : (invM t ps)[k]? = some (i : Int) := by rw [invM_get hk, posM_some ok (by omega) hy]
    exact posM_some (invM_ok ok) (by omega) e
  · have ey : y = -1 := by omega
    rw [posM_none, ey]
    intro hm
    obtain ⟨k, hk⟩ := List.mem_iff_getElem?.mp hm
    obtain ⟨hk1, e⟩ := invM_get' hk
    rcases posM_cases ps k with ⟨e2, _⟩ | ⟨j, e2, hj⟩
    · omega
    · have : j = i := by omega
      subst this
      rw [hy] at hj
      have := Option.some.inj hj
      omega
/-- the places of a product -/
def prodM (ps qs : List Int) : List Int := qs.map fun q => if q < 0 then q else ps.getD q.toNat (-1)
theorem prodM_length (ps qs : List Int) : (prodM ps qs).length = qs.length := by simp [prodM]
theorem prodM_get {ps qs : List Int} {i : Nat} {q : Int} (h : qs[i]? = some q) : (prodM ps qs)[i]? = some (if q < 0 then q else ps.getD q.toNat (-1)) := by
  simp [prodM, h]
theorem prodM_get' {ps qs : List Int} {i : Nat} {v : Int} (h : (prodM ps qs)[i]? = some v) : ∃ q, qs[i]? = some q ∧ v = if q < 0 then q else ps.getD q.toNat (-1) := by
  have hl : i < qs.length := by
    have := (List.getElem?_eq_some_iff.mp h).1
    rw [prodM_length] at this
    exact this
  have hq := List.getElem?_eq_getElem hl
  rw [prodM_get hq] at h
  exact ⟨_, hq, (Option.some.inj h).symm⟩
theorem getD_of {ps : List Int} {k : Nat} {v : Int} (h : ps[k]? = some v) : ps.getD k (-1) = v := by simp [List.getD, h]
/-- a place of a product: a gap of the second, or the place of the first there -/
theorem prod_case {t : Nat} {ps qs : List Int} (o2 : MoveOk ps.length qs) {i : Nat} {v : Int} (h : (prodM ps qs)[i]? = some v) : (qs[i]? = some (-1) ∧ v = -1) ∨ ∃ k : Nat, qs[i]? = some (k : Int) ∧ ps[k]? = some v := by
  obtain ⟨q, hq, e⟩ := prodM_get' h
  have b := o2.at hq
  by_cases c : q < 0
  · rw [if_pos c] at e
    have : q = -1 := by omega
    subst this
    exact .inl ⟨hq, e⟩
  · rw [if_neg c] at e
    have hl : q.toNat < ps.length := by omega
    refine .inr ⟨q.toNat, by rw [hq]; congr 1; omega, ?_⟩
    rw [getD_of (List.getElem?_eq_getElem hl)] at e
    rw [List.getElem?_eq_getElem hl, e]
theorem prod_gap {ps qs : List Int} {i : Nat} (h : qs[i]? = some (-1)) : (prodM ps qs)[i]? = some (-1) := by rw [prodM_get h]; simp
theorem prod_at {ps qs : List Int} {i k : Nat} {v : Int} (h : qs[i]? = some (k : Int)) (hk : ps[k]? = some v) : (prodM ps qs)[i]? = some v := by
  rw [prodM_get h, if_neg (by omega), Int.toNat_natCast, getD_of hk]
theorem prod_ok {t : Nat} {ps qs : List Int} (o1 : MoveOk t ps) (o2 : MoveOk ps.length qs) : MoveOk t (prodM ps qs) := by
  refine moveOk_of (fun i v h => ?_) (fun i j v hi hj h0 => ?_)
  · rcases prod_case (t := t) o2 h with ⟨_, e⟩ | ⟨k, _, hk⟩
    · omega
    · exact o1.at hk
  · rcases prod_case (t := t) o2 hi with ⟨_, e⟩ | ⟨a, ha, hka⟩
    · omega
    · rcases prod_case (t := t) o2 hj with ⟨_, e⟩ | ⟨b, hb, hkb⟩
      · omega
      · have := o1.inj hka hkb h0
        subst this
        exact o2.inj ha hb (by omega)
theorem getElem?_of_lt {ps : List Int} {k : Nat} (h : k < ps.length) : ∃ v, ps[k]? = some v := ⟨_, List.getElem?_eq_getElem h⟩
/-- the undone product -/
theorem inv_prod {t : Nat} {ps qs : List Int} (o1 : MoveOk t ps) (o2 : MoveOk ps.length qs) : invM t (prodM ps qs) = prodM (invM ps.length qs) (invM t ps) := by
  have o3 := prod_ok o1 o2
  have o4 := invM_ok o1
  have o5 := invM_ok o2
  have o6 : MoveOk (invM ps.length qs).length (invM t ps) := by rw [invM_length]; exact o4
  refine ext_get (by rw [invM_length, prodM_length, invM_length]) fun i x y hx hy => ?_
  obtain ⟨hi, rfl⟩ := invM_get' hx
  rcases prod_case (t := qs.length) o6 hy with ⟨hg, rfl⟩ | ⟨k, hk, hy2⟩
  · -- i is not among ps
    obtain ⟨_, e⟩ := invM_get' hg
    rcases posM_cases ps i with ⟨_, n⟩ | ⟨j, e2, _⟩
    · refine posM_none fun hm => ?_
      obtain ⟨j, hj⟩ := List.mem_iff_getElem?.mp hm
      rcases prod_case (t := t) o2 hj with ⟨_, z⟩ | ⟨a, _, ha⟩
      · omega
      · exact n (List.mem_of_getElem? ha)
    · omega
  · obtain ⟨_, ek⟩ := invM_get' hk
    rcases posM_cases ps i with ⟨e2, _⟩ | ⟨j, e2, hj⟩
    · omega
    · have : j = k := by omega
      subst this
      obtain ⟨_, rfl⟩ := invM_get' hy2
      rcases posM_cases qs j with ⟨e3, n⟩ | ⟨l, e3, hl⟩
      · rw [e3]
        refine posM_none fun hm => ?_
        obtain ⟨b, hb⟩ := List.mem_iff_getElem?.mp hm
        rcases prod_case (t := t) o2 hb with ⟨_, z⟩ | ⟨a, ha1, ha2⟩
        · omega
        · have := o1.inj ha2 hj (by omega)
          subst this
          exact n (List.mem_of_getElem? ha1)
      · rw [e3]
        exact posM_some o3 (by omega) (prod_at hl hj)
/-- a move, undone, and done again -/
theorem prod_back {t : Nat} {ps : List Int} (ok : MoveOk t ps) : prodM (prodM ps (invM t ps)) ps = ps := by
  have o4 := invM_ok ok
  have o5 : MoveOk t (prodM ps (invM t ps)) := prod_ok ok o4
  have hl : (prodM ps (invM t ps)).length = t := by rw [prodM_length, invM_length]
  have o6 : MoveOk (prodM ps (invM t ps)).length ps := by rw [hl]; exact ok
  refine ext_get (prodM_length _ _) fun i x y hx hy => ?_
  rcases prod_case (t := t) o6 hx with ⟨hg, rfl⟩ | ⟨k, hk, hx2⟩
  · rw [hy] at hg
    exact (Option.some.inj hg).symm
  · rw [hy] at hk
    have ey := Option.some.inj hk
    rcases prod_case (t := t) o4 hx2 with ⟨hg, rfl⟩ | ⟨j, hj, hj2⟩
    · obtain ⟨_, e⟩ := invM_get' hg
      rw [posM_some ok (by omega) (by rw [hy, ey])] at e
      omega
    · obtain ⟨_, e⟩ := invM_get' hj
      rw [posM_some ok (by omega) (by rw [hy, ey])] at e
      have : j = i := by omega
      subst this
      rw [hy] at hj2
      exact (Option.some.inj hj2).symm
/-- gaps -/
def gapsM (ps : List Int) : Nat := (ps.filter fun p => decide (p < 0)).length
/-- the still move -/
def stillM (t : Nat) : List Int := (List.range t).map fun i : Nat => (i : Int)
theorem stillM_length (t : Nat) : (stillM t).length = t := by simp [stillM]
theorem stillM_get {t i : Nat} {v : Int} (h : (stillM t)[i]? = some v) : i < t ∧ v = (i : Int) := by
  have hl : i < t := by
    have := (List.getElem?_eq_some_iff.mp h).1
    rw [stillM_length] at this
    exact this
  simp [stillM, hl] at h
  exact ⟨hl, h.symm⟩
theorem stillM_at {t i : Nat} (h : i < t) : (stillM t)[i]? = some (i : Int) := by simp [stillM, h]
theorem still_ok (t : Nat) : MoveOk t (stillM t) := by
  refine moveOk_of (fun i v h => ?_) (fun i j v hi hj _ => ?_)
  · obtain ⟨_, rfl⟩ := stillM_get h
    omega
  · obtain ⟨_, e1⟩ := stillM_get hi
    obtain ⟨_, e2⟩ := stillM_get hj
    omega
theorem still_nodup (t : Nat) : (stillM t).Nodup := by
  refine List.nodup_iff_pairwise_ne.mpr (List.pairwise_iff_getElem.mpr fun i j hi hj hij e => ?_)
  have a := stillM_get (List.getElem?_eq_getElem hi)
  have b := stillM_get (List.getElem?_eq_getElem hj)
  omega
theorem still_mem {t : Nat} {v : Int} : v ∈ stillM t ↔ 0 ≤ v ∧ v < (t : Int) := by
  constructor
  · intro h
    obtain ⟨i, hi⟩ := List.mem_iff_getElem?.mp h
    obtain ⟨h1, rfl⟩ := stillM_get hi
    omega
  · rintro ⟨h0, h1⟩
    have e := stillM_at (t := t) (i := v.toNat) (by omega)
    have := List.mem_of_getElem? e
    rwa [show ((v.toNat : Nat) : Int) = v by omega] at this
/-- some of the indexes below t, each once -/
def SomeOf (t : Nat) (a b : List Int) : Prop := (a ++ b).Perm (stillM t)
theorem someOf_ok {t : Nat} {a b : List Int} (h : SomeOf t a b) : MoveOk t a := by
  have nd : (a ++ b).Nodup := h.nodup_iff.mpr (still_nodup t)
  have na := (List.nodup_append.mp nd).1
  refine ⟨fun p hp => ?_, List.Pairwise.imp (R := (· ≠ ·)) (S := fun a b => 0 ≤ a → a ≠ b) (fun hab _ => hab) (List.nodup_iff_pairwise_ne.mp na)⟩
  have := still_mem.mp (h.mem_iff.mp (List.mem_append_left b hp))
  omega
theorem someOf_nonneg {t : Nat} {a b : List Int} (h : SomeOf t a b) : ∀ p ∈ a, 0 ≤ p := fun p hp => (still_mem.mp (h.mem_iff.mp (List.mem_append_left b hp))).1
theorem someOf_length {t : Nat} {a b : List Int} (h : SomeOf t a b) : a.length + b.length = t := by
  have := h.length_eq
  rw [List.length_append, stillM_length] at this
  exact this
theorem someOf_start (t : Nat) : SomeOf t [] (stillM t) := List.Perm.refl _
theorem cons_erase : ∀ {b : List Int} {k : Nat} {v : Int}, b[k]? = some v → (v :: b.eraseIdx k).Perm b
  | [], _, _, h => by simp at h
  | x :: r, 0, v, h => by
    have e : x = v := Option.some.inj h
    subst e
    exact List.Perm.refl _
  | x :: r, k + 1, v, h => by
    have ih := cons_erase (b := r) (k := k) (v := v) (by simpa using h)
    show (v :: x :: r.eraseIdx k).Perm (x :: r)
    exact (List.Perm.swap x v _).trans (ih.cons x)
theorem someOf_step {t : Nat} {a b : List Int} {k : Nat} {v : Int} (h : SomeOf t a b) (hk : b[k]? = some v) : SomeOf t (a ++ [v]) (b.eraseIdx k) := by
  have p := cons_erase hk
  have q : (a ++ [v] ++ b.eraseIdx k).Perm (a ++ b) := by
    rw [List.append_assoc]
    exact p.append_left a
  exact q.trans h
theorem ok_insert {t : Nat} {a : List Int} (h : MoveOk t a) (i : Nat) : MoveOk t (a.take i ++ [-1] ++ a.drop i) := by
  obtain ⟨h1, h2⟩ := h
  refine ⟨fun p hp => ?_, ?_⟩
  · rcases List.mem_append.mp hp with hp | hp
    · rcases List.mem_append.mp hp with hp | hp
      · exact h1 p (List.mem_of_mem_take hp)
      · have : p = -1 := by simpa using hp
        omega
    · exact h1 p (List.mem_of_mem_drop hp)
  · have h2' : (a.take i ++ a.drop i).Pairwise (fun a b => 0 ≤ a → a ≠ b) := by rw [List.take_append_drop]; exact h2
    obtain ⟨p1, p2, p3⟩ := List.pairwise_append.mp h2'
    refine List.pairwise_append.mpr ⟨List.pairwise_append.mpr ⟨p1, List.pairwise_singleton _ _, fun x hx y hy h0 => ?_⟩, p2, fun x hx y hy => ?_⟩
    · have : y = -1 := by simpa using hy
      omega
    · rcases List.mem_append.mp hx with hx | hx
      · exact p3 x hx y hy
      · have : x = -1 := by simpa using hx
        intro h0
        omega
/-- a move that leaves nothing out and has no gaps, undone -/
theorem perm_back {t : Nat} {ps : List Int} (h : SomeOf t ps []) : prodM ps (invM t ps) = stillM t := by
  have ok := someOf_ok h
  have o4 := invM_ok ok
  have hp : ps.Perm (stillM t) := by have := h; unfold SomeOf at this; rwa [List.append_nil] at this
  refine ext_get (by rw [prodM_length, invM_length, stillM_length]) fun i x y hx hy => ?_
  obtain ⟨hi, rfl⟩ := stillM_get hy
  have hm : (i : Int) ∈ ps := hp.mem_iff.mpr (still_mem.mpr (by omega))
  rcases prod_case (t := t) o4 hx with ⟨hg, rfl⟩ | ⟨k, hk, hx2⟩
  · obtain ⟨_, e⟩ := invM_get' hg
    rcases posM_cases ps i with ⟨_, n⟩ | ⟨j, e2, _⟩
    · exact absurd hm n
    · omega
  · obtain ⟨_, e⟩ := invM_get' hk
    rcases posM_cases ps i with ⟨_, n⟩ | ⟨j, e2, hj⟩
    · exact absurd hm n
    · have : j = k := by omega
      subst this
      rw [hx2] at hj
      exact Option.some.inj hj
theorem back_perm {t : Nat} {ps : List Int} (h : SomeOf t ps []) : prodM (invM t ps) ps = stillM t := by
  have ok := someOf_ok h
  have o6 : MoveOk (invM t ps).length ps := by rw [invM_length]; exact ok
  have hl : ps.length = t := by have := someOf_length h; simpa using this
  refine ext_get (by rw [prodM_length, stillM_length, hl]) fun i x y hx hy => ?_
  obtain ⟨hi, rfl⟩ := stillM_get hy
  rcases prod_case (t := ps.length) o6 hx with ⟨hg, rfl⟩ | ⟨k, hk, hx2⟩
  · have := someOf_nonneg h (-1) (List.mem_of_getElem? hg)
    omega
  · obtain ⟨_, rfl⟩ := invM_get' hx2
    exact posM_some ok (by omega) hk
/-! ### a move applied to values -/
section
variable {α β : Type}
def applyM : List Int → List α → List α → List α
  | [], _, _ => []
  | p :: ps, xs, ys => if p < 0 then ys.take 1 ++ applyM ps xs (ys.drop 1) else (xs[p.toNat]?).toList ++ applyM ps xs ys
theorem apply_neg {p : Int} {ps : List Int} {xs ys : List α} {y : α} (h : p < 0) : applyM (p :: ps) xs (y :: ys) = y :: applyM ps xs ys := by
  show (if p < 0 then _ else _) = _
  rw [if_pos h]
  rfl
theorem apply_nonneg {p : Int} {ps : List Int} {xs ys : List α} {x : α} (h : ¬ p < 0) (hx : xs[p.toNat]? = some x) : applyM (p :: ps) xs ys = x :: applyM ps xs ys := by
  show (if p < 0 then _ else _) = _
  rw [if_neg h, hx]
  rfl
theorem gaps_cons (p : Int) (ps : List Int) : gapsM (p :: ps) = (if p < 0 then 1 else 0) + gapsM ps := by
  unfold gapsM
  by_cases c : p < 0
  · simp [c]; omega
  · simp [c]
theorem gaps_snoc (ps : List Int) (p : Int) : gapsM (ps ++ [p]) = gapsM ps + (if p < 0 then 1 else 0) := by
  unfold gapsM
  by_cases c : p < 0 <;> simp [c]
/-- what stands at a position -/
theorem apply_get : ∀ (ps : List Int) (xs ys : List α), (∀ p ∈ ps, p < 0 ∨ p.toNat < xs.length) → gapsM ps ≤ ys.length → ∀ i : Nat, (applyM ps xs ys)[i]? = (ps[i]?).bind fun p => if p < 0 then ys[gapsM (ps.take i)]? else xs[p.toNat]?
  | [], _, _, _, _, i => by simp [applyM]
  | p :: ps, xs, ys, hp, hg, i => by
    rw [gaps_cons] at hg
    by_cases c : p < 0
    · rw [if_pos c] at hg
      cases ys with
      | nil => simp at hg
      | cons y ys =>
        rw [apply_neg c]
        cases i with
        | zero => simp [c, gapsM]
        | succ i =>
          have ih := apply_get ps xs ys (fun q hq => hp q (List.mem_cons_of_mem _ hq)) (by simp at hg; omega) i
          simp only [List.getElem?_cons_succ, List.take_succ_cons]
          rw [ih, gaps_cons, if_pos c]
          simp only [Nat.add_comm 1, List.getElem?_cons_succ]
    · rw [if_neg c] at hg
      have hl : p.toNat < xs.length := (hp p List.mem_cons_self).resolve_left c
      rw [apply_nonneg c (List.getElem?_eq_getElem hl)]
      cases i with
      | zero => simp [c]
      | succ i =>
        have ih := apply_get ps xs ys (fun q hq => hp q (List.mem_cons_of_mem _ hq)) (by omega) i
        simp only [List.getElem?_cons_succ, List.take_succ_cons]
        rw [ih, gaps_cons, if_neg c]
        simp only [Nat.zero_add]
theorem apply_length : ∀ (ps : List Int) (xs ys : List α), (∀ p ∈ ps, p < 0 ∨ p.toNat < xs.length) → gapsM ps ≤ ys.length → (applyM ps xs ys).length = ps.length
  | [], _, _, _, _ => rfl
  | p :: ps, xs, ys, hp, hg => by
    rw [gaps_cons] at hg
    by_cases c : p < 0
    · rw [if_pos c] at hg
      cases ys with
      | nil => simp at hg
      | cons y ys =>
        rw [apply_neg c, List.length_cons, List.length_cons, apply_length ps xs ys (fun q hq => hp q (List.mem_cons_of_mem _ hq)) (by simp at hg; omega)]
    · rw [if_neg c] at hg
      have hl : p.toNat < xs.length := (hp p List.mem_cons_self).resolve_left c
      rw [apply_nonneg c (List.getElem?_eq_getElem hl), List.length_cons, List.length_cons, apply_length ps xs ys (fun q hq => hp q (List.mem_cons_of_mem _ hq)) (by omega)]
theorem apply_map (f : α → β) : ∀ (ps : List Int) (xs ys : List α), (applyM ps xs ys).map f = applyM ps (xs.map f) (ys.map f)
  | [], _, _ => rfl
  | p :: ps, xs, ys => by
    unfold applyM
    by_cases c : p < 0
    · rw [if_pos c, if_pos c, List.map_append, apply_map f ps, List.map_take, List.map_drop]
    · rw [if_neg c, if_neg c, List.map_append, apply_map f ps, List.getElem?_map]
      cases xs[p.toNat]? <;> rfl
theorem apply_filter {γ : Type} {f : γ → Int} {g h : γ → α} {Y : List α} : ∀ (is : List γ), (∀ i ∈ is, 0 ≤ f i → Y[(f i).toNat]? = some (h i)) →
    applyM (is.map f) Y ((is.filter fun i => decide (f i < 0)).map g) = is.map fun i => if f i < 0 then g i else h i
  | [], _ => rfl
  | i :: r, H => by
    have ih := apply_filter (f := f) (g := g) (h := h) (Y := Y) r fun j hj => H j (List.mem_cons_of_mem _ hj)
    by_cases c : f i < 0
    · rw [List.map_cons, List.filter_cons, if_pos (decide_eq_true c), List.map_cons, apply_neg c, ih, List.map_cons, if_pos c]
    · rw [List.map_cons, List.filter_cons, if_neg (by simp [c]), apply_nonneg c (H i List.mem_cons_self (by omega)), ih, List.map_cons, if_neg c]
end
/-- what the undone move makes of what the move has made -/
theorem undo_values {α : Type} {t : Nat} {ps : List Int} (ok : MoveOk t ps) {ds gs : List α} (hd : ds.length = t) (hg : gs.length = gapsM ps) (lost : Int → α) (x : α) :
    applyM (invM t ps) (applyM ps ds gs) (((stillM t).filter fun i => decide (i ∉ ps)).map lost) = (stillM t).map fun i => if i ∈ ps then ds.getD i.toNat x else lost i := by
  have e1 : invM t ps = (stillM t).map (posM ps) := by
    unfold invM stillM
    rw [List.map_map]
    rfl
  have e2 : (stillM t).filter (fun i => decide (i ∉ ps)) = (stillM t).filter (fun i => decide (posM ps i < 0)) := by
    apply List.filter_congr
    intro i _
    rcases posM_cases ps i with ⟨e, n⟩ | ⟨j, e, hj⟩
    · rw [e]; simp [n]
    · rw [e]
      have := List.mem_of_getElem? hj
      simp [this]
  rw [e1, e2, apply_filter (h := fun i => ds.getD i.toNat x)]
  · apply List.map_congr_left
    intro i _
    rcases posM_cases ps i with ⟨e, n⟩ | ⟨j, e, hj⟩
    · rw [e, if_pos (by omega), if_neg n]
    · rw [e, if_neg (by omega), if_pos (List.mem_of_getElem? hj)]
  · intro i hi h0
    obtain ⟨i0, i1⟩ := still_mem.mp hi
    rcases posM_cases ps i with ⟨e, n⟩ | ⟨j, e, hj⟩
    · omega
    · rw [e, Int.toNat_natCast, apply_get ps ds gs (fun p hp => ?_) (by omega), hj]
      · show (if i < 0 then _ else ds[i.toNat]?) = _
        rw [if_neg (by omega)]
        have hl : i.toNat < ds.length := by omega
        rw [List.getElem?_eq_getElem hl]
        simp [List.getD, List.getElem?_eq_getElem hl]
      · have := ok.1 p hp
        by_cases c : p < 0
        · exact .inl c
        · exact .inr (by omega)
end MM

namespace MV
open PySem PySem.Spec PyProof.Rows L2 SB
local macro_rules | `(tactic| walk_at "rd") => `(tactic| repeat (first | (refine ⟨_, rfl, ?_⟩) | (refine ⟨_, _, rfl, rfl, ?_⟩)))
def top (i : Nat) : Stmt := PySem.Challenge.pw_sidelists_k63_undone.main.body.getD i (.Pass ⟨0, 0, 0, 0⟩)
abbrev s_bag : Stmt := top 11
abbrev s_take : Stmt := top 12
abbrev s_of : Stmt := top 13
abbrev s_count : Stmt := top 14
/-- the built-ins that the text calls -/
structure Blt (mg : Str → Option Value) : Prop where
  n_len : mg "len" = none
  n_abs : mg "abs" = none
  n_int : mg "int" = none
  n_range : mg "range" = none
  n_list : mg "list" = none
  n_tuple : mg "tuple" = none
  n_str : mg "str" = none
  n_max : mg "max" = none
  n_min : mg "min" = none
  n_enumerate : mg "enumerate" = none
  n_isinstance : mg "isinstance" = none
/-- a source of draws that was asked at most n times -/
def BagL (l : List V) (n : Nat) : Prop := ∃ d m c : Int, l = [.int d, .int m, .int c] ∧ 0 ≤ m ∧ m ≤ 12000000000000000000 ∧ 0 ≤ c ∧ c ≤ (n : Int)
theorem BagL.mono {l : List V} {n k : Nat} (h : BagL l n) (hk : n ≤ k) : BagL l k := by
  obtain ⟨d, m, c, e, h1, h2, h3, h4⟩ := h
  exact ⟨d, m, c, e, h1, h2, h3, by omega⟩
def BagAt (H : Hp) (b : Addr) (n : Nat) : Prop := ∃ l, H b = some (.lst l) ∧ BagL l n
def spBag (K : PySem.W.Frag) : Sp := fun vs H Q _ => ∃ (a : Addr) (ns : List Int) (i : Int), vs = [.ref a, .int i] ∧ SqL K H a (ns.map V.int) ∧ 0 ≤ i ∧ i ≤ 100 ∧ ns.length ≤ 1000 ∧
  ∀ (b : Addr) (l : List V), H b = none → BagL l 0 → Q (.ref b) (upd H b (.lst l))
def spTake : Sp := fun vs H Q _ => ∃ (b : Addr) (many : Int) (l : List V) (n : Nat), vs = [.ref b, .int many] ∧ H b = some (.lst l) ∧ BagL l n ∧ n < 1000000 ∧ 0 < many ∧ many < 2 ^ 200 ∧
  ∀ (r : Int) (l' : List V), 0 ≤ r → r < many → BagL l' (n + 1) → Q (.int r) (upd H b (.lst l'))
section
variable {P : Program} {w : World} {K : PySem.W.Frag} {mg : Str → Option Value} {base : Heap}
theorem sc_bag : FnScope ["_law_script", "_law_at", "_law_cell", "_law_digits"] ["_law_script", "_law_at"] (defScope s_bag) := ⟨rfl, rfl, rfl, by decide +kernel, rfl, by decide +kernel, by decide +kernel⟩
theorem ok_bag {f : Addr} {fd : FuncData} (F : Fun K "_law_bag" "_law_bag" s_bag f fd) (T : Blt mg) : FnR P w K mg base CX0 1 f (spBag K) := by
  refine fnr F sc_bag (fun vs H Q E h => ?_) (fun _ _ _ _ _ _ us hl => match us, hl with | [_, _], _ => rfl) (fun cdv A outer s H vs Q E hr h => ?_)
  · obtain ⟨a, ns, i, rfl, _⟩ := h
    rfl
  · obtain ⟨a, ns, i, rfl, hS, h0, h1, hz, k⟩ := h
    refine ⟨_, (C8.pss_cut (ps_set (i := 2) sc_bag.nd rfl (Or.inl rfl) (pe_ifExp (pt_cmpR op_lt (pv 1) (pe_callB call_len_seq (by rfl) T.n_len (by decide +kernel) (pa_cons (pv 0) pa_nil)) (nomark _)) (pe_ix ix_list (pv 0) (pv 1) (fun _ _ => rfl)) pe_int))
      (C8.pss_cut (ps_set (i := 3) sc_bag.nd rfl (Or.inl rfl) (pe_ifExp (pt_cmpR op_ge (pe_callB call_abs (by rfl) T.n_abs (by decide +kernel) (pa_cons (pv 2) pa_nil)) (pe_op op_pow pe_int pe_int) (nomark _)) (pe_callB call_abs (by rfl) T.n_abs (by decide +kernel) (pa_cons (pv 2) pa_nil)) pe_int))
      (pss_one (ps_ret (pe_lst (pa_cons (pv 3) (pa_cons (pe_op op_add (pe_op op_add (pe_op op_mul (pe_op op_mod (pe_callTy call_int1 (by rfl) T.n_int (by decide +kernel) (pa_cons (pv 2) pa_nil)) pe_int) pe_int) (pe_op op_mul pe_int (pv 1))) pe_int) (pa_cons pe_int pa_nil)))))))), ?_⟩
    refine ⟨fun σ' H' => ∃ z : Int, σ' = [some (.ref a), some (.int i), some (.int z), none] ∧ H' = H, ?_, ?_⟩
    · walk_at "rd"
      refine ⟨a, _, rfl, .inl hS, ?_⟩
      walk_at "rd"
      refine ite2 (fun c => ?_) (fun c => ?_)
      · have c' : i < (ns.length : Int) := by simpa using of_decide_eq_true c
        walk_at "rd"
        have hj : i.toNat < ns.length := by omega
        refine ⟨a, _, i, .int ns[i.toNat], rfl, rfl, hS, at_of (j := i.toNat) (by omega) (by rw [List.getElem?_map, List.getElem?_eq_getElem hj]; rfl), ?_⟩
        exact ⟨_, rfl, rfl⟩
      · exact ⟨0, rfl, rfl⟩
    · rintro σ' H' ⟨z, rfl, rfl⟩
      refine ⟨fun σ' H'' => ∃ d : Int, σ' = [some (.ref a), some (.int i), some (.int z), some (.int d)] ∧ H'' = H', ?_, ?_⟩
      · walk_at "rd"
        refine ⟨⟨by decide, by decide, by decide⟩, ?_⟩
        walk_at "rd"
        refine ite2 (fun c => ?_) (fun c => ?_)
        · walk_at "rd"
          rfl
        · exact ⟨0, rfl, rfl⟩
      · rintro σ' H'' ⟨d, rfl, rfl⟩
        walk_at "rd"
        refine .inl ⟨_, rfl, ?_⟩
        walk_at "rd"
        refine ⟨(by show (0 : Int) < 2305843009213693951; decide), ?_⟩
        walk_at "rd"
        refine ⟨.inr ⟨by decide, by decide⟩, ?_⟩
        walk_at "rd"
        refine ⟨.inl ⟨by decide, by decide⟩, ?_⟩
        walk_at "rd"
        have z0 : 0 ≤ z % 2305843009213693951 := Int.emod_nonneg _ (by decide)
        have z1 : z % 2305843009213693951 < 2305843009213693951 := Int.emod_lt_of_pos _ (by decide)
        refine ⟨by show 3 ≤ sizeLine; decide, fun p hp => k p _ hp ⟨_, _, _, rfl, ?_, ?_, ?_, ?_⟩⟩
        all_goals omega
theorem sc_take : FnScope ["_law_bag_here", "_law_many", "_law_digit", "_law_mixed"] ["_law_bag_here", "_law_many"] (defScope s_take) := ⟨rfl, rfl, rfl, by decide +kernel, rfl, by decide +kernel, by decide +kernel⟩
theorem ok_take {f : Addr} {fd : FuncData} (F : Fun K "_law_take" "_law_take" s_take f fd) (T : Blt mg) : FnR P w K mg base CX0 1 f spTake := by
  refine fnr F sc_take (fun vs H Q E h => ?_) (fun _ _ _ _ _ _ us hl => match us, hl with | [_, _], _ => rfl) (fun cdv A outer s H vs Q E hr h => ?_)
  · obtain ⟨a, ns, i, _, rfl, _⟩ := h
    rfl
  · obtain ⟨b, many, l, n, rfl, hb, ⟨d, m, c, rfl, m0, m1, c0, c1⟩, hn, hm0, hm1, k⟩ := h
    refine ⟨_, (pss_cons (ps_if (pt_cmpR op_gt (pe_ix ix_list (pv 0) pe_int (fun _ _ => rfl)) pe_int (nomark _)) (pss_cons (ps_set (i := 2) sc_take.nd rfl (Or.inl rfl) (pe_op op_mod (pe_callTy call_int1 (by rfl) T.n_int (by decide +kernel) (pa_cons (pe_ix ix_list (pv 0) pe_int (fun _ _ => rfl)) pa_nil)) (pv 1)))
        (pss_cons (ps_asg (pe_op op_fdivW (pe_ix ix_list (pv 0) pe_int (fun _ _ => rfl)) (pv 1)) (pg_sub (pv 0) pe_int set_list))
        (pss_one (ps_ret (pv 2))))) pss_nil)
      (pss_cons (ps_asg (pe_op op_add (pe_ix ix_list (pv 0) pe_int (fun _ _ => rfl)) pe_int) (pg_sub (pv 0) pe_int set_list))
      (pss_cons (ps_set (i := 3) sc_take.nd rfl (Or.inl rfl) (pe_op op_mod (pe_callTy call_int1 (by rfl) T.n_int (by decide +kernel) (pa_cons (pe_op op_pow (pe_op op_add (pe_ix ix_list (pv 0) pe_int (fun _ _ => rfl)) (pe_op op_mul pe_int (pe_ix ix_list (pv 0) pe_int (fun _ _ => rfl)))) pe_int) pa_nil)) pe_int))
      (pss_cons (ps_set (i := 3) sc_take.nd rfl (Or.inl rfl) (pe_op op_mod (pe_callTy call_int1 (by rfl) T.n_int (by decide +kernel) (pa_cons (pe_op op_pow (pe_op op_add (pv 3) (pe_op op_mul pe_int (pe_ix ix_list (pv 0) pe_int (fun _ _ => rfl)))) pe_int) pa_nil)) pe_int))
      (pss_one (ps_ret (pe_op op_mod (pe_callTy call_int1 (by rfl) T.n_int (by decide +kernel) (pa_cons (pe_op op_fdiv (pv 3) pe_int) pa_nil)) (pv 1)))))))), ?_⟩
    have hq := SqL.of (K := K) hb
    walk_at "rd"
    refine ⟨b, _, _, _, rfl, rfl, hq, rfl, ?_⟩
    walk_at "rd"
    refine ite2 (fun g => ?_) (fun g => ?_)
    · walk_at "rd"
      refine ⟨b, _, _, _, rfl, rfl, hq, rfl, ?_⟩
      refine .inl ⟨_, rfl, ?_⟩
      walk_at "rd"
      refine ⟨hm0, ?_⟩
      walk_at "rd"
      refine ⟨b, _, _, _, rfl, rfl, hq, rfl, ?_⟩
      walk_at "rd"
      refine ⟨wide_div (b := 200) hm0 (by omega) (by decide) (by decide), ?_⟩
      walk_at "rd"
      refine ⟨b, _, _, 0, rfl, rfl, hb, rfl, ?_⟩
      walk_at "rd"
      exact k _ _ (Int.emod_nonneg _ (by omega)) (Int.emod_lt_of_pos _ hm0) ⟨_, m, c, rfl, m0, m1, c0, by omega⟩
    · walk_at "rd"
      refine ⟨b, _, _, _, rfl, rfl, hq, rfl, ?_⟩
      walk_at "rd"
      refine ⟨b, _, _, 2, rfl, rfl, hb, rfl, ?_⟩
      have hb2 : (upd H b (.lst [.int d, .int m, .int (c + 1)])) b = some (.lst [.int d, .int m, .int (c + 1)]) := upd_same
      have hq2 := SqL.of (K := K) hb2
      walk_at "rd"
      refine ⟨b, _, _, _, rfl, rfl, hq2, rfl, ?_⟩
      walk_at "rd"
      refine ⟨b, _, _, _, rfl, rfl, hq2, rfl, ?_⟩
      walk_at "rd"
      refine ⟨.inl ⟨by decide, by decide⟩, ?_⟩
      walk_at "rd"
      refine ⟨⟨by decide, by decide, by omega⟩, ?_⟩
      refine .inl ⟨_, rfl, ?_⟩
      walk_at "rd"
      refine ⟨(by show (0 : Int) < 2305843009213693921; decide), ?_⟩
      walk_at "rd"
      refine ⟨b, _, _, _, rfl, rfl, hq2, rfl, ?_⟩
      walk_at "rd"
      refine ⟨.inl ⟨by decide, by decide⟩, ?_⟩
      walk_at "rd"
      have y0 := Int.emod_nonneg ((m + 1000081 * (c + 1)) ^ 3) (show (2305843009213693921 : Int) ≠ 0 by decide)
      have y1 := Int.emod_lt_of_pos ((m + 1000081 * (c + 1)) ^ 3) (show (0 : Int) < 2305843009213693921 by decide)
      refine ⟨⟨by decide, by decide, (by show ((m + 1000081 * (c + 1)) ^ 3 % 2305843009213693921 + 15485863 * (c + 1)).natAbs < 2 ^ 64; omega)⟩, ?_⟩
      refine .inl ⟨_, rfl, ?_⟩
      walk_at "rd"
      refine ⟨(by show (0 : Int) < 2305843009213693951; decide), ?_⟩
      walk_at "rd"
      refine ⟨⟨by decide, by decide⟩, ?_⟩
      refine .inl ⟨_, rfl, ?_⟩
      walk_at "rd"
      refine ⟨hm0, ?_⟩
      exact k _ _ (Int.emod_nonneg _ (by omega)) (Int.emod_lt_of_pos _ hm0) ⟨_, m, c + 1, rfl, m0, m1, by omega, by omega⟩
end
end MV

namespace MV
open PySem PySem.Spec PyProof.Rows L2 SB MM
local macro_rules | `(tactic| walk_at "rd") => `(tactic| repeat (first | (refine ⟨_, rfl, ?_⟩) | (refine ⟨_, _, rfl, rfl, ?_⟩) | (refine ⟨_, _, rfl, ?_⟩) | (refine ⟨rfl, ?_⟩)))
abbrev s_m_init : Stmt := inClass (top 9) 1
abbrev s_m_eq : Stmt := inClass (top 9) 6
abbrev s_m_gaps : Stmt := inClass (top 9) 7
abbrev s_m_call : Stmt := inClass (top 9) 8
abbrev s_m_mul : Stmt := inClass (top 9) 9
abbrev s_m_invert : Stmt := inClass (top 9) 10
abbrev s_m_still : Stmt := inClass (top 9) 11
/-- what the top says of Move, at C -/
structure TxtM (K : PySem.W.Frag) (mg : Str → Option Value) (C : Addr) : Prop extends Blt mg where
  cl : Cls K C
  nt : NoAttr K C "takes"
  np : NoAttr K C "places"
  g_Move : mg "Move" = some (.ref C)
  is_Move : C8.InsC K C
  sf_Move : PySem.W.selfFirst K C = true
  nf_Move : PySem.W.notFirst K C (.ref C) = true
/-- the attributes of a move -/
def mfs (t : Nat) (q : Addr) : List (Str × V) := putF "places" (.ref q) (putF "takes" (.int (t : Int)) [])
theorem tp : ¬ (("takes" : Str) = "places") := by decide +kernel
theorem mfs_eq (t : Nat) (q : Addr) : mfs t q = ([("takes", V.int (t : Int)), ("places", V.ref q)] : List (Str × V)) := by
  show (if ("takes" : Str) = "places" then [(("takes" : Str), V.ref q)] else (("takes" : Str), V.int (t : Int)) :: putF "places" (V.ref q) []) = _
  rw [if_neg tp]
  rfl
theorem mfs_takes (t : Nat) (q : Addr) : (mfs t q).lookup ("takes" : Str) = some (.int (t : Int)) := by
  unfold mfs
  rw [lookup_putF, if_neg tp, lookup_putF, if_pos rfl]
theorem mfs_places (t : Nat) (q : Addr) : (mfs t q).lookup ("places" : Str) = some (.ref q) := by
  unfold mfs
  rw [lookup_putF, if_pos rfl]
/-- a move stands at a -/
def MoveAt (K : PySem.W.Frag) (C : Addr) (H : Hp) (a : Addr) (t : Nat) (ps : List Int) : Prop := ∃ dx q, H a = some (.ins C dx (mfs t q)) ∧ SqT K H q (ps.map V.int)
theorem MoveAt.same {K : PySem.W.Frag} {C : Addr} {H H' : Hp} {a : Addr} {t : Nat} {ps : List Int} (m : MoveAt K C H a t ps) (e : Same H H') : MoveAt K C H' a t ps := by
  obtain ⟨dx, q, h1, h2⟩ := m
  exact ⟨dx, q, e _ _ h1, Same.sqT e h2⟩
theorem MoveAt.keep {K : PySem.W.Frag} {C b : Addr} {H H' : Hp} {a : Addr} {t : Nat} {ps : List Int} {l : List V} (m : MoveAt K C H a t ps) (hb : H b = some (.lst l)) (e : KeepB b H H') : MoveAt K C H' a t ps := by
  obtain ⟨dx, q, h1, h2⟩ := m
  exact ⟨dx, q, e _ _ h1 (ne_of h1 hb (by intro z; cases z)), KeepB.sqT e hb h2⟩
/-- a list or a tuple -/
def SqS (K : PySem.W.Frag) (H : Hp) (a : Addr) (xs : List V) : Prop := SqL K H a xs ∨ SqT K H a xs
theorem SqS.same {K : PySem.W.Frag} {H H' : Hp} {a : Addr} {xs : List V} (h : SqS K H a xs) (e : Same H H') : SqS K H' a xs := h.imp (fun h => L2.Same.seq e h) (fun h => Same.sqT e h)
theorem SqS.stay {K : PySem.W.Frag} {H H' : Hp} {a : Addr} {xs : List V} (h : SqS K H a xs) (e : ∀ o, H a = some o → H' a = some o) : SqS K H' a xs := h.imp (fun h => stayL h e) (fun h => stayT h e)
/-! ### the promises -/
def spInit (K : PySem.W.Frag) (C : Addr) : Sp := fun vs H Q _ => ∃ (x dx l : Addr) (t : Nat) (ps : List Int), vs = [.ref x, .int (t : Int), .ref l] ∧ H x = some (.ins C dx []) ∧ SqS K H l (ps.map V.int) ∧ MoveOk t ps ∧ ps.length ≤ 100000 ∧
  ∀ H' q, KeepB x H H' → H' x = some (.ins C dx (mfs t q)) → SqT K H' q (ps.map V.int) → Q .non H'
def spEq (K : PySem.W.Frag) (C : Addr) : Sp := fun vs H Q _ => ∃ (a b : Addr) (t t' : Nat) (ps ps' : List Int), vs = [.ref a, .ref b] ∧ MoveAt K C H a t ps ∧ MoveAt K C H b t' ps' ∧
  Q (.bl (decide (t = t' ∧ ps = ps'))) H
def spGaps (K : PySem.W.Frag) (C : Addr) : Sp := fun vs H Q _ => ∃ (a : Addr) (t : Nat) (ps : List Int), vs = [.ref a] ∧ MoveAt K C H a t ps ∧ ps.length ≤ 100000 ∧
  ∀ H', Same H H' → Q (.int (gapsM ps : Nat)) H'
def spCall (K : PySem.W.Frag) (C : Addr) : Sp := fun vs H Q _ => ∃ (a v n : Addr) (t : Nat) (ps : List Int) (xs ys : List V), vs = [.ref a, .ref v, .ref n] ∧ MoveAt K C H a t ps ∧ MoveOk t ps ∧ ps.length ≤ 100000 ∧
  SqS K H v xs ∧ SqS K H n ys ∧ xs.length = t ∧ ys.length = gapsM ps ∧
  ∀ H' p, Same H H' → H p = none → H' p = some (.lst (applyM ps xs ys)) → Q (.ref p) H'
def spMul (K : PySem.W.Frag) (C : Addr) : Sp := fun vs H Q _ => ∃ (a b : Addr) (t : Nat) (ps qs : List Int), vs = [.ref a, .ref b] ∧ MoveAt K C H a t ps ∧ MoveAt K C H b ps.length qs ∧ MoveOk t ps ∧ MoveOk ps.length qs ∧ qs.length ≤ 100000 ∧
  ∀ H' p, Same H H' → H p = none → MoveAt K C H' p t (prodM ps qs) → Q (.ref p) H'
def spInv (K : PySem.W.Frag) (C : Addr) : Sp := fun vs H Q _ => ∃ (a : Addr) (t : Nat) (ps : List Int), vs = [.ref a] ∧ MoveAt K C H a t ps ∧ MoveOk t ps ∧ ps.length ≤ 100000 ∧ t ≤ 100000 ∧
  ∀ H' p, Same H H' → H p = none → MoveAt K C H' p ps.length (invM t ps) → Q (.ref p) H'
def spStill (K : PySem.W.Frag) (C : Addr) : Sp := fun vs H Q _ => ∃ t : Nat, vs = [.int (t : Int)] ∧ t ≤ 100000 ∧
  ∀ H' p, Same H H' → H p = none → MoveAt K C H' p t (stillM t) → Q (.ref p) H'
theorem mk_move {K : PySem.W.Frag} {C l : Addr} {H : Hp} {t : Nat} {ps : List Int} {Q : VK} {E : XK} (hl : SqS K H l (ps.map V.int)) (ok : MoveOk t ps) (hz : ps.length ≤ 100000)
    (k : ∀ H' a, Same H H' → H a = none → MoveAt K C H' a t ps → Q (.ref a) H') :
    ∀ x dx, H x = none → H dx = none → dx ≠ x → spInit K C [.ref x, .int (t : Int), .ref l] (upd (upd H dx (.own x)) x (.ins C dx [])) (fun v H2 => v = .non ∧ Q (.ref x) H2) E := by
  intro x dx nx nd ne
  have s0 : Same H (upd (upd H dx (.own x)) x (.ins C dx [])) := fun b o e => by
    rw [upd_ne (ne_of_none e nx), upd_ne (ne_of_none e nd)]
    exact e
  refine ⟨x, dx, l, t, ps, rfl, upd_same, hl.same s0, ok, hz, fun H' q kp hx hq => ⟨rfl, ?_⟩⟩
  exact k H' x (fun b o e => kp b o (s0 b o e) (ne_of_none e nx)) nx ⟨dx, q, hx, hq⟩
theorem mk_move2 {K : PySem.W.Frag} {C l x dx : Addr} {H : Hp} {t : Nat} {ps : List Int} {Q : VK} {E : XK} (nx : H x = none) (nd : H dx = none) (hl : SqS K H l (ps.map V.int)) (ok : MoveOk t ps) (hz : ps.length ≤ 100000)
    (k : ∀ H', Same H H' → MoveAt K C H' x t ps → Q .non H') : spInit K C [.ref x, .int (t : Int), .ref l] (upd (upd H dx (.own x)) x (.ins C dx [])) Q E := by
  have s0 : Same H (upd (upd H dx (.own x)) x (.ins C dx [])) := fun b o e => by
    rw [upd_ne (ne_of_none e nx), upd_ne (ne_of_none e nd)]
    exact e
  refine ⟨x, dx, l, t, ps, rfl, upd_same, hl.same s0, ok, hz, fun H' q kp hx hq => ?_⟩
  exact k H' (fun b o e => kp b o (s0 b o e) (ne_of_none e nx)) ⟨dx, q, hx, hq⟩
section
variable {P : Program} {w : World} {K : PySem.W.Frag} {mg : Str → Option Value} {base : Heap} {C : Addr}
theorem sc_m_init : FnScope ["self", "takes", "places", "taken", "at", "place"] ["self", "takes", "places"] (defScope s_m_init) := ⟨rfl, rfl, rfl, by decide +kernel, rfl, by decide +kernel, by decide +kernel⟩
theorem ok_init {f : Addr} {fd : FuncData} (F : Fun K "__init__" "Move.__init__" s_m_init f fd) (T : TxtM K mg C) : FnR P w K mg base CX0 1 f (spInit K C) := by
  refine fnr F sc_m_init (fun vs H Q E h => ?_) (fun _ _ _ _ _ _ us hl => match us, hl with | [_, _, _], _ => rfl) (fun cdv A outer s H vs Q E hr h => ?_)
  · obtain ⟨x, dx, l, t, ps, rfl, _⟩ := h
    rfl
  · obtain ⟨x, dx, l, t, ps, rfl, hx, hl, ok, hz, k⟩ := h
    refine ⟨_, (pss_cons (ps_set (i := 3) sc_m_init.nd rfl (Or.inl rfl) pe_dnewK)
      (pss_cons (ps_for PassesOwn.never rfl (pi_enumS (by rfl) T.n_enumerate (pa_cons (pv 2) pa_nil)) (pg_tup rfl (pgs_cons (pg_name (i := 4) sc_m_init.nd rfl (Or.inl rfl)) (pgs_cons (pg_name (i := 5) sc_m_init.nd rfl (Or.inl rfl)) pgs_nil)))
        (pss_cons (ps_if (PW.pt (pw_or (pt_cmp (pc_din (hu_of hr) (pv 5) (pv 3))) (pw_or1 (pt_not (pt_chain op_le op_lt (pe_un un_neg pe_int) (pv 5) (pv 1)))))) (pss_one ps_never) pss_nil)
        (pss_one (ps_if (pt_cmpR op_ge (pv 5) pe_int (nomark _)) (pss_one (ps_dput (hu_of hr) (pv 3) (pv 5) pe_bl rfl)) pss_nil))))
      (pss_cons (ps_fld (pv 0) (pv 1) rfl)
      (pss_one (ps_fld (pv 0) (pe_callTy call_tuple_of (by rfl) T.n_tuple (by decide +kernel) (pa_cons (pv 2) pa_nil)) rfl))))), ?_⟩
    intro d hd
    have hxd : x ≠ d := ne_of_none hx hd
    have s1 : Same H (upd H d (.dK [])) := same_new (Same.refl H) hd
    have hl1 := hl.same s1
    walk_at "rd"
    refine ⟨l, _, rfl, hl1, fun J G w hG => ?_⟩
    refine for_it w (fun i σ H' => ∃ (v4 v5 : Option V) (kvs : List (Key × V)), σ = [some (.ref x), some (.int (t : Int)), some (.ref l), some (.ref d), v4, v5] ∧ KeepB d (upd H d (.dK [])) H' ∧ H' d = some (.dK kvs) ∧ kvs.length ≤ i ∧
      ∀ p : Int, (valV kvs (Sum.inl p)).isSome = true → 0 ≤ p ∧ p ∈ ps.take i) ?_ ?_ ?_ ?_
    · exact ⟨none, none, [], rfl, KeepB.refl _ _, upd_same, Nat.le_refl _, fun p hp => by simp [valV_nil] at hp⟩
    · rintro i σ H' _ ⟨_, _, kvs, _, kp, hd', _⟩
      exact hG H' (fun e => kp.sqL' upd_same (noSeq_dK _) e) (fun e => kp.sqT' upd_same (noSeq_dK _) e)
    · rintro i x' σ H' H'' hi ⟨v4, v5, kvs, rfl, kp, hd', hlen, hv⟩ ⟨T', x0, y0, rfl, hT, rfl, e0, ey⟩
      cases e0
      have hi' : i < ps.length := by simpa using hi
      have epi : ps[i]? = some ps[i] := List.getElem?_eq_getElem hi'
      have ey' : y0 = .int ps[i] := by
        have q : (ps.map V.int)[i]? = some y0 := ey
        rw [List.getElem?_map, epi] at q
        exact (Option.some.inj q).symm
      subst ey'
      have bd := ok.at epi
      have ndT : d ≠ T' := ne_of_none hd' hT
      have hd2 : (upd H' T' (.tup [.int (i : Nat), .int ps[i]])) d = some (.dK kvs) := by rw [upd_ne ndT]; exact hd'
      have kp2 := kp.new (o := .tup [.int (i : Nat), .int ps[i]]) hT
      have tk : ps.take (i + 1) = ps.take i ++ [ps[i]] := by rw [List.take_append_getElem hi']
      have nin : 0 ≤ ps[i] → valV kvs (Sum.inl ps[i]) = none := fun h0 => by
        cases c : valV kvs (Sum.inl ps[i]) with
        | none => rfl
        | some v =>
          obtain ⟨_, hm⟩ := hv ps[i] (by rw [c]; rfl)
          obtain ⟨j, hj⟩ := List.mem_iff_getElem?.mp hm
          have hj2 : j < i ∧ ps[j]? = some ps[i] := by
            have hl := (List.getElem?_eq_some_iff.mp hj).1
            rw [List.length_take] at hl
            rw [List.getElem?_take] at hj
            have : j < i := by omega
            rw [if_pos this] at hj
            exact ⟨this, hj⟩
          have := ok.inj hj2.2 epi h0
          omega
      have nin2 : (valV kvs (Sum.inl ps[i])).isSome = false := by
        by_cases h0 : 0 ≤ ps[i]
        · rw [nin h0]; rfl
        · cases c : valV kvs (Sum.inl ps[i]) with
          | none => rfl
          | some v =>
            have := (hv ps[i] (by rw [c]; rfl)).1
            omega
      refine ⟨T', _, rfl, SqT.of upd_same, rfl, ?_⟩
      walk_at "rd"
      refine ⟨d, _, rfl, DGet.k (k := Sum.inl ps[i]) hd2, _, rfl, ?_⟩
      rw [nin2]
      refine iteF ?_
      walk_at "rd"
      refine ifY (by omega) ?_
      walk_at "rd"
      refine iteNS (by omega) ?_
      -- if place >= 0: taken[place] = True
      walk_at "rd"
      refine ite2 (fun c => ?_) (fun c => ?_)
      · have h0 : 0 ≤ ps[i] := of_decide_eq_true c
        walk_at "rd"
        refine ⟨d, _, rfl, DPut.k (k := Sum.inl ps[i]) hd2 (Nat.lt_of_le_of_lt hlen (Nat.lt_of_le_of_lt (by omega) (by decide : 100000 < sizeLine))), ?_⟩
        refine ⟨_, _, _, rfl, kp2.upd, upd_same, ?_, ?_⟩
        · have := length_putK kvs (Sum.inl ps[i]) (V.bl true)
          omega
        · intro p hp
          rw [valV_put] at hp
          rw [tk]
          by_cases e : (Sum.inl p : Key) = Sum.inl ps[i]
          · have e' : p = ps[i] := Sum.inl.inj e
            subst e'
            exact ⟨h0, List.mem_append_right _ (List.mem_singleton_self _)⟩
          · rw [if_neg e] at hp
            obtain ⟨a1, a2⟩ := hv p hp
            exact ⟨a1, List.mem_append_left _ a2⟩
      · refine ⟨_, _, kvs, rfl, kp2, hd2, by omega, fun p hp => ?_⟩
        obtain ⟨a1, a2⟩ := hv p hp
        exact ⟨a1, by rw [tk]; exact List.mem_append_left _ a2⟩
    · rintro σ H' ⟨v4, v5, kvs, rfl, kp, hd', hlen, hv⟩
      have hx1 : (upd H d (.dK [])) x = some (.ins C dx []) := by rw [upd_ne hxd]; exact hx
      have hx' : H' x = some (.ins C dx []) := kp x _ hx1 hxd
      have hl' : SqS K H' l (ps.map V.int) := hl1.imp (fun e => kp.sqL' upd_same (noSeq_dK _) e) (fun e => kp.sqT' upd_same (noSeq_dK _) e)
      walk_at "rd"
      refine ⟨x, C, dx, [], rfl, hx', T.cl, T.nt, (by show 0 < 1000; decide), ?_⟩
      have kx : KeepB x H' (upd H' x (.ins C dx (putF "takes" (.int (t : Int)) []))) := KeepB.upd (KeepB.refl _ _)
      have hl2 : SqS K (upd H' x (.ins C dx (putF "takes" (.int (t : Int)) []))) l (ps.map V.int) := hl'.imp (fun e => kx.sqL' hx' (noSeq_ins _ _ _) e) (fun e => kx.sqT' hx' (noSeq_ins _ _ _) e)
      have kH : KeepB x H H' := fun b o e hb => kp b o (s1 b o e) (ne_of_none e hd)
      walk_at "rd"
      refine ⟨l, ps.map V.int, rfl, ?_⟩
      rcases hl2 with hl2 | hl2
      · refine .inl ⟨hl2, fun q hq => ?_⟩
        have nxq : x ≠ q := ne_of_none upd_same hq
        walk_at "rd"
        refine ⟨x, C, dx, _, rfl, by rw [upd_ne nxq]; exact upd_same, T.cl, T.np, (by show 1 < 1000; decide), ?_⟩
        refine k _ q ?_ upd_same ?_
        · exact ((kH.trans kx).new hq).upd
        · exact SqT.of (by rw [upd_ne (Ne.symm nxq)]; exact upd_same)
      · refine .inr ⟨hl2, ?_⟩
        walk_at "rd"
        refine ⟨x, C, dx, _, rfl, upd_same, T.cl, T.np, (by show 1 < 1000; decide), ?_⟩
        have kx2 : KeepB x (upd H' x (.ins C dx (putF "takes" (.int (t : Int)) []))) (upd (upd H' x (.ins C dx (putF "takes" (.int (t : Int)) []))) x (.ins C dx (mfs t l))) := KeepB.upd (KeepB.refl _ _)
        refine k _ l ?_ upd_same ?_
        · exact (kH.trans kx).trans kx2
        · exact kx2.sqT' upd_same (noSeq_ins _ _ _) hl2
end
end MV

namespace MV
open PySem PySem.Spec PyProof.Rows L2 SB MM
local macro_rules | `(tactic| walk_at "rd") => `(tactic| repeat (first | (refine ⟨_, rfl, ?_⟩) | (refine ⟨_, _, rfl, rfl, ?_⟩) | (refine ⟨_, _, rfl, ?_⟩) | (refine ⟨rfl, ?_⟩)))
section
variable {P : Program} {w : World} {K : PySem.W.Frag} {mg : Str → Option Value} {base : Heap} {C : Addr}
theorem sc_m_eq : FnScope ["self", "other"] ["self", "other"] (defScope s_m_eq) := ⟨rfl, rfl, rfl, by decide +kernel, rfl, by decide +kernel, by decide +kernel⟩
theorem ok_eq {f : Addr} {fd : FuncData} (F : Fun K "__eq__" "Move.__eq__" s_m_eq f fd) (T : TxtM K mg C) : FnR P w K mg base CX0 1 f (spEq K C) := by
  refine fnr F sc_m_eq (fun vs H Q E h => ?_) (fun _ _ _ _ _ _ us hl => match us, hl with | [_, _], _ => rfl) (fun cdv A outer s H vs Q E hr h => ?_)
  · obtain ⟨a, b, t, t', ps, ps', rfl, _⟩ := h
    rfl
  · obtain ⟨a, b, t, t', ps, ps', rfl, ⟨dx, q, ha, hq⟩, ⟨dx', q', hb, hq'⟩, k⟩ := h
    refine ⟨_, (pss_one (ps_ret (pe_and (pe_callB (C8.call_isC T.is_Move) (by rfl) T.n_isinstance (by decide +kernel) (pa_cons (pv 1) (pa_cons (pe_glob (v := .ref C) (by rfl) T.g_Move rfl) pa_nil))) (pe_and (pe_cmpR op_eq (pe_fld (pv 0) (by rfl)) (pe_fld (pv 1) (by rfl)) (nomark _)) (pe_one (pe_cmpR (op_eqD hr.units) (pe_fld (pv 0) (by rfl)) (pe_fld (pv 1) (by rfl)) (nomark _))))))), ?_⟩
    walk_at "rd"
    refine ⟨b, dx', _, rfl, hb, ?_⟩
    walk_at "rd"
    refine ⟨a, C, dx, _, _, rfl, ha, T.cl, T.nt, mfs_takes _ _, ?_⟩
    walk_at "rd"
    refine ⟨b, C, dx', _, _, rfl, hb, T.cl, T.nt, mfs_takes _ _, ?_⟩
    walk_at "rd"
    refine ite2 (fun c => ?_) (fun c => ?_)
    · have et : t = t' := by
        have := V.int.inj (of_decide_eq_true c)
        omega
      subst et
      walk_at "rd"
      refine ⟨a, C, dx, _, _, rfl, ha, T.cl, T.np, mfs_places _ _, ?_⟩
      walk_at "rd"
      refine ⟨b, C, dx', _, _, rfl, hb, T.cl, T.np, mfs_places _ _, ?_⟩
      refine ⟨_, _, dp_intsT hq, dp_intsT hq', shaped_tuple (sh_ints _), shaped_tuple (sh_ints _), ?_⟩
      rw [eqv_tuple, eqvAll_ints]
      have e : decide (ps = ps') = decide (t = t ∧ ps = ps') := by simp
      rw [e]
      exact k
    · have e : decide (t = t' ∧ ps = ps') = false := decide_eq_false fun z => c (decide_eq_true (by rw [z.1]))
      rw [e] at k
      exact k
theorem sc_m_gaps : FnScope ["self", "place"] ["self"] (defScope s_m_gaps) := ⟨rfl, rfl, rfl, by decide +kernel, rfl, by decide +kernel, by decide +kernel⟩
theorem okf_gaps {f : Addr} {fd : FuncData} (F : Fun K "gaps" "Move.gaps" s_m_gaps f fd) (T : TxtM K mg C) : FnOk P w K mg base CX0 1 f fd ["self"] (spGaps K C) := by
  refine F.ok sc_m_gaps (fun vs H Q E h => ?_) (fun cdv A outer s H vs Q E hr h => ?_)
  · obtain ⟨a, t, ps, rfl, _⟩ := h
    rfl
  · obtain ⟨a, t, ps, rfl, ⟨dx, q, ha, hq⟩, hz, k⟩ := h
    refine ⟨_, (pss_one (ps_ret (pe_callB call_len_seq (by rfl) T.n_len (by decide +kernel) (pa_cons (pe_lc (own := [("place", 1)]) (by rfl) sc_m_gaps.nd (pi_tup (pe_fld (pv 0) (by rfl))) (blkOk_by (own := [("place", 1)]) (N := ["self", "place"]) (sc := defScope s_m_gaps) (by decide +kernel)) (fun _ _ _ _ _ => (pg_name (i := 1) sc_m_gaps.nd rfl (Or.inl rfl))) (fun _ _ _ _ _ => by exact (pts_one (pt_cmpR op_lt (pv 1) pe_int (nomark _)))) (fun _ _ _ _ _ => by exact (pv 1))) pa_nil)))), ?_⟩
    walk_at "rd"
    refine ⟨a, C, dx, _, _, rfl, ha, T.cl, T.np, mfs_places _ _, ?_⟩
    refine ⟨q, rfl, ⟨_, hq⟩, fun D hD => ?_⟩
    have s1 : Same H (upd H D (.lst [])) := same_new (Same.refl H) hD
    refine lc_it (walk_tup (xs := ps.map V.int)) (fun i H' => KeepB D (upd H D (.lst [])) H' ∧ H' D = some (.lst (((ps.take i).filter fun p => decide (p < 0)).map V.int))) ⟨KeepB.refl _ _, upd_same⟩ ?_ ?_ ?_
    · rintro i H' _ ⟨kp, _⟩
      exact kp.sqT upd_same (Same.sqT s1 hq)
    · rintro i x H0 H' hi ⟨kp, hD'⟩ ⟨rfl, hx⟩
      have hi' : i < ps.length := by simpa using hi
      have epi : ps[i]? = some ps[i] := List.getElem?_eq_getElem hi'
      have ex : x = .int ps[i] := by
        rw [List.getElem?_map, epi] at hx
        exact (Option.some.inj hx).symm
      subst ex
      have tk : ps.take (i + 1) = ps.take i ++ [ps[i]] := by rw [List.take_append_getElem hi']
      walk_at "rd"
      refine ite2 (fun c => ?_) (fun c => ?_)
      · have h0 : ps[i] < 0 := of_decide_eq_true c
        walk_at "rd"
        refine ⟨_, hD', ?_, kp.upd, ?_⟩
        · rw [List.length_map]
          have := List.length_filter_le (fun p : Int => decide (p < 0)) (ps.take i)
          rw [List.length_take] at this
          exact Nat.lt_of_le_of_lt (show _ ≤ 100000 by omega) (by decide)
        · rw [upd_same, tk, List.filter_append, List.map_append]
          simp [h0]
      · have h0 : ¬ ps[i] < 0 := fun z => c (decide_eq_true z)
        refine ⟨kp, ?_⟩
        rw [hD', tk, List.filter_append]
        simp [h0]
    · rintro H' ⟨kp, hD'⟩
      rw [List.length_map, List.take_length] at hD'
      refine ⟨D, _, rfl, .inl (SqL.of hD'), ?_⟩
      rw [List.length_map]
      exact k H' fun b o e => kp b o (s1 b o e) (ne_of_none e hD)
theorem sc_m_call : FnScope ["self", "values", "new", "result", "used", "place"] ["self", "values", "new"] (defScope s_m_call) := ⟨rfl, rfl, rfl, by decide +kernel, rfl, by decide +kernel, by decide +kernel⟩
theorem ok_call {f e0 : Addr} {fd : FuncData} (F : FunD K "__call__" "Move.__call__" (defArgs s_m_call) (defBody s_m_call) (defScope s_m_call) [.ref e0] [] f fd) (T : TxtM K mg C) (PRgaps : Pr P w K mg base CX0 1 C "gaps" (spGaps K C)) : FnOk P w K mg base CX0 3 f fd ["self", "values", "new"] (spCall K C) := by
  refine fnrD F sc_m_call (fun vs H Q E h => ?_) (fun cdv A outer s H vs Q E hr h => ?_)
  · obtain ⟨a, v, n, t, ps, xs, ys, rfl, _⟩ := h
    rfl
  · obtain ⟨a, v, n, t, ps, xs, ys, rfl, ⟨dx, q, ha, hq⟩, ok, hz, hv, hn, ex, ey, k⟩ := h
    refine ⟨_, (pss_cons (ps_if (pt_cmpR op_ne (pe_callB call_len_seq (by rfl) T.n_len (by decide +kernel) (pa_cons (pv 1) pa_nil)) (pe_fld (pv 0) (by rfl)) (nomark _)) (pss_one ps_never) pss_nil)
      (pss_cons (ps_if (pt_cmpR op_ne (pe_callB call_len_seq (by rfl) T.n_len (by decide +kernel) (pa_cons (pv 2) pa_nil)) (pe_pr PRgaps hr (by decide) pass0 (pv 0)) (nomark _)) (pss_one ps_never) pss_nil)
      (pss_cons (ps_par (i := 3) (j := 4) (by rfl) sc_m_call.nd rfl rfl (by decide) rfl rfl (pa_cons (pe_lst pa_nil) (pa_cons pe_int pa_nil)) (by rfl))
      (pss_cons (ps_for PassesOwn.never rfl (pi_tup (pe_fld (pv 0) (by rfl))) (pg_name (i := 5) sc_m_call.nd rfl (Or.inl rfl))
        (pss_one (ps_if (pt_cmpR op_lt (pv 5) pe_int (nomark _)) (pss_cons (ps_expr (pe_bm PySem.F.plainAttrs_list PySem.F.slot_list_append PySem.F.type_list_append mt_append (pv 3) (pa_cons (pe_ix ix_seq (pv 2) (pv 4) (fun _ _ => rfl)) pa_nil)))
          (pss_one (ps_aug (i := 4) sc_m_call.nd rfl (Or.inl rfl) pe_int ip_add))) (pss_one (ps_expr (pe_bm PySem.F.plainAttrs_list PySem.F.slot_list_append PySem.F.type_list_append mt_append (pv 3) (pa_cons (pe_ix ix_seq (pv 1) (pv 5) (fun _ _ => rfl)) pa_nil)))))))
      (pss_one (ps_ret (pv 3))))))), ?_⟩
    walk_at "rd"
    refine ⟨v, xs, rfl, hv, ?_⟩
    walk_at "rd"
    refine ⟨a, C, dx, _, _, rfl, ha, T.cl, T.nt, mfs_takes _ _, ?_⟩
    walk_at "rd"
    refine iteNS (by rw [ex]) ?_
    walk_at "rd"
    refine ⟨n, ys, rfl, hn, ?_⟩
    walk_at "rd"
    refine ⟨a, dx, _, rfl, ha, a, t, ps, rfl, ⟨dx, q, ha, hq⟩, hz, fun H1 s1 => ?_⟩
    walk_at "rd"
    refine iteNS (by rw [ey]) ?_
    have ha1 := s1 _ _ ha
    refine ⟨(by show 0 ≤ sizeLine; decide), fun r hr' => ?_⟩
    have s2 : Same H (upd H1 r (.lst [])) := same_new s1 hr'
    have s12 : Same H1 (upd H1 r (.lst [])) := same_new (Same.refl _) hr'
    walk_at "rd"
    refine ⟨a, C, dx, _, _, rfl, s12 _ _ ha1, T.cl, T.np, mfs_places _ _, ?_⟩
    refine ⟨q, rfl, ⟨_, Same.sqT s2 hq⟩, ?_⟩
    have nr : H r = none := s1.free hr'
    have hvr : v ≠ r ∨ True := .inr trivial
    refine for_it (walk_tup (xs := ps.map V.int)) (fun i σ H' => ∃ (v5 : Option V) (acc : List V) (used : Nat), σ = [some (.ref a), some (.ref v), some (.ref n), some (.ref r), some (.int (used : Int)), v5] ∧ KeepB r (upd H1 r (.lst [])) H' ∧ H' r = some (.lst acc) ∧
      used = gapsM (ps.take i) ∧ acc ++ applyM (ps.drop i) xs (ys.drop used) = applyM ps xs ys ∧ acc.length ≤ i) ?_ ?_ ?_ ?_
    · exact ⟨none, [], 0, rfl, KeepB.refl _ _, upd_same, by simp [gapsM], by simp, Nat.le_refl _⟩
    · rintro i σ H' _ ⟨_, _, _, _, kp, _⟩
      exact kp.sqT upd_same (Same.sqT s2 hq)
    · rintro i x' σ H0 H' hi ⟨v5, acc, used, rfl, kp, hr2, eu, eacc, hlen⟩ ⟨rfl, hx⟩
      have hi' : i < ps.length := by simpa using hi
      have epi : ps[i]? = some ps[i] := List.getElem?_eq_getElem hi'
      have ex' : x' = .int ps[i] := by
        rw [List.getElem?_map, epi] at hx
        exact (Option.some.inj hx).symm
      subst ex'
      have tk : ps.take (i + 1) = ps.take i ++ [ps[i]] := by rw [List.take_append_getElem hi']
      have dr : ps.drop i = ps[i] :: ps.drop (i + 1) := List.drop_eq_getElem_cons hi'
      have bd := ok.at epi
      have sH : Same H H' := fun b o e => kp b o (s2 b o e) (ne_of_none e nr)
      have hlen2 : acc.length < sizeLine := Nat.lt_of_le_of_lt (show _ ≤ 100000 by omega) (by decide)
      have hg : gapsM ps = gapsM (ps.take i) + gapsM (ps.drop i) := by
        have e := List.take_append_drop i ps
        conv => lhs; rw [← e]
        unfold gapsM
        rw [List.filter_append, List.length_append]
      rw [dr, gaps_cons] at hg
      walk_at "rd"
      refine ite2 (fun c => ?_) (fun c => ?_)
      · have h0 : ps[i] < 0 := of_decide_eq_true c
        rw [if_pos h0] at hg
        have hu : used < ys.length := by omega
        walk_at "rd"
        refine ⟨.inl ⟨rfl, _, SqL.of hr2⟩, ?_⟩
        walk_at "rd"
        refine rix_S (hn.same sH) (at_of (j := used) rfl (List.getElem?_eq_getElem hu)) ?_
        refine ⟨r, _, _, rfl, rfl, hr2, hlen2, ?_⟩
        walk_at "rd"
        refine ⟨_, _, used + 1, rfl, kp.upd, upd_same, ?_, ?_, ?_⟩
        · rw [tk, gaps_snoc, if_pos h0, eu]
        · rw [← eacc, dr, List.drop_eq_getElem_cons hu, apply_neg h0, List.append_assoc]
          rfl
        · rw [List.length_append]
          show acc.length + 1 ≤ i + 1
          omega
      · have h0 : ¬ ps[i] < 0 := fun z => c (decide_eq_true z)
        have hl : ps[i].toNat < xs.length := by omega
        walk_at "rd"
        refine ⟨.inl ⟨rfl, _, SqL.of hr2⟩, ?_⟩
        walk_at "rd"
        refine rix_S (hv.same sH) (at_of (j := ps[i].toNat) (by omega) (List.getElem?_eq_getElem hl)) ?_
        refine ⟨r, _, _, rfl, rfl, hr2, hlen2, ?_⟩
        refine ⟨_, _, used, rfl, kp.upd, upd_same, ?_, ?_, ?_⟩
        · rw [tk, gaps_snoc, if_neg h0, eu]
          rfl
        · rw [← eacc, dr, apply_nonneg h0 (List.getElem?_eq_getElem hl), List.append_assoc]
          rfl
        · rw [List.length_append]
          show acc.length + 1 ≤ i + 1
          omega
    · rintro σ H' ⟨v5, acc, used, rfl, kp, hr2, eu, eacc, hlen⟩
      have e0 : ps.drop (ps.map V.int).length = [] := by simp
      rw [e0] at eacc
      have e1 : acc = applyM ps xs ys := by
        have : acc ++ [] = applyM ps xs ys := eacc
        rwa [List.append_nil] at this
      subst e1
      walk_at "rd"
      exact k H' r (fun b o e => kp b o (s2 b o e) (ne_of_none e nr)) nr hr2
theorem call_binds {f e0 : Addr} {fd : FuncData} (F : FunD K "__call__" "Move.__call__" (defArgs s_m_call) (defBody s_m_call) (defScope s_m_call) [.ref e0] [] f fd) : Binds K fd ["self", "values", "new"] [] := by
  obtain ⟨ds, v, b⟩ := F.binds1 (ps := ["self", "values", "new"]) 3 1 (List.cons_ne_nil _ _) rfl fun _ _ _ _ _ _ _ us its hu hi => match us, its, hu, hi with | [_, _, _], [_], _, _ => ⟨_, rfl, rfl⟩
  cases v
  exact b
theorem sc_m_mul : FnScope ["self", "other", "place"] ["self", "other"] (defScope s_m_mul) := ⟨rfl, rfl, rfl, by decide +kernel, rfl, by decide +kernel, by decide +kernel⟩
theorem ok_mul {f : Addr} {fd : FuncData} (F : Fun K "__mul__" "Move.__mul__" s_m_mul f fd) (T : TxtM K mg C) (MMove : Ml P w K mg base CX0 1 "Move" C (spInit K C)) : FnR P w K mg base CX0 3 f (spMul K C) := by
  refine fnr F sc_m_mul (fun vs H Q E h => ?_) (fun _ _ _ _ _ _ us hl => match us, hl with | [_, _], _ => rfl) (fun cdv A outer s H vs Q E hr h => ?_)
  · obtain ⟨a, b, t, ps, qs, rfl, _⟩ := h
    rfl
  · obtain ⟨a, b, t, ps, qs, rfl, ⟨dx, q, ha, hq⟩, ⟨dx', q', hb, hq'⟩, o1, o2, hz, k⟩ := h
    refine ⟨_, (pss_cons (ps_if (pt_cmpR op_ne (pe_callB call_len_seq (by rfl) T.n_len (by decide +kernel) (pa_cons (pe_fld (pv 0) (by rfl)) pa_nil)) (pe_fld (pv 1) (by rfl)) (nomark _)) (pss_one ps_never) pss_nil)
      (pss_one (ps_ret (pe_ml MMove hr (by decide) (by rfl) pass0 (pa_cons (pe_fld (pv 0) (by rfl)) (pa_cons (pe_lc (own := [("place", 2)]) (by rfl) sc_m_mul.nd (pi_tup (pe_fld (pv 1) (by rfl))) (blkOk_by (own := [("place", 2)]) (N := ["self", "other", "place"]) (sc := defScope s_m_mul) (by decide +kernel)) (fun _ _ _ _ _ => (pg_name (i := 2) sc_m_mul.nd rfl (Or.inl rfl))) (fun _ _ _ _ _ => by exact pts_nil) (fun _ _ _ _ _ => by exact (pe_ifExp (pt_cmpR op_lt (pv 2) pe_int (nomark _)) (pv 2) (pe_ix (ix_tupK (K := K) (by rfl)) (by exact (pe_fldK (K := K) (by rfl) (pv 0) (by rfl))) (pv 2) (fun _ _ => rfl))))) pa_nil)))))), ?_⟩
    walk_at "rd"
    refine ⟨a, C, dx, _, _, rfl, ha, T.cl, T.np, mfs_places _ _, ?_⟩
    refine ⟨q, _, rfl, .inr hq, ?_⟩
    walk_at "rd"
    refine ⟨b, C, dx', _, _, rfl, hb, T.cl, T.nt, mfs_takes _ _, ?_⟩
    rw [List.length_map]
    walk_at "rd"
    refine iteNS rfl ?_
    walk_at "rd"
    refine ⟨a, C, dx, _, _, rfl, ha, T.cl, T.nt, mfs_takes _ _, ?_⟩
    walk_at "rd"
    refine ⟨b, C, dx', _, _, rfl, hb, T.cl, T.np, mfs_places _ _, ?_⟩
    refine ⟨q', rfl, ⟨_, hq'⟩, fun D hD => ?_⟩
    have s1 : Same H (upd H D (.lst [])) := same_new (Same.refl H) hD
    refine lc_it (walk_tup (xs := qs.map V.int)) (fun i H' => KeepB D (upd H D (.lst [])) H' ∧ H' D = some (.lst ((prodM ps (qs.take i)).map V.int))) ⟨KeepB.refl _ _, upd_same⟩ ?_ ?_ ?_
    · rintro i H' _ ⟨kp, _⟩
      exact kp.sqT upd_same (Same.sqT s1 hq')
    · rintro i x H0 H' hi ⟨kp, hD'⟩ ⟨rfl, hx⟩
      have hi' : i < qs.length := by simpa using hi
      have epi : qs[i]? = some qs[i] := List.getElem?_eq_getElem hi'
      have ex : x = .int qs[i] := by
        rw [List.getElem?_map, epi] at hx
        exact (Option.some.inj hx).symm
      subst ex
      have tk : qs.take (i + 1) = qs.take i ++ [qs[i]] := by rw [List.take_append_getElem hi']
      have hlen : ((prodM ps (qs.take i)).map V.int).length < sizeLine := by
        rw [List.length_map, prodM_length, List.length_take]
        exact Nat.lt_of_le_of_lt (show _ ≤ 100000 by omega) (by decide)
      have fin : ∀ v : Int, v = (if qs[i] < 0 then qs[i] else ps.getD qs[i].toNat (-1)) → (upd H' D (.lst ((prodM ps (qs.take i)).map V.int ++ [.int v]))) D = some (.lst ((prodM ps (qs.take (i + 1))).map V.int)) := by
        intro v hv
        rw [upd_same, tk, hv]
        unfold prodM
        rw [List.map_append, List.map_append]
        rfl
      have b2 := o2.at epi
      walk_at "rd"
      refine ite2 (fun c => ?_) (fun c => ?_)
      · have h0 : qs[i] < 0 := of_decide_eq_true c
        walk_at "rd"
        exact ⟨_, hD', hlen, kp.upd, fin _ (by rw [if_pos h0])⟩
      · have h0 : ¬ qs[i] < 0 := fun z => c (decide_eq_true z)
        have hl : qs[i].toNat < ps.length := by omega
        have ha' : H' a = some (.ins C dx (mfs t q)) := kp a _ (s1 _ _ ha) (ne_of_none ha hD)
        have hqq : SqT K H' q (ps.map V.int) := kp.sqT upd_same (Same.sqT s1 hq)
        walk_at "rd"
        refine ⟨a, C, dx, _, _, rfl, ha', T.cl, T.np, mfs_places _ _, ?_⟩
        walk_at "rd"
        refine ⟨q, _, qs[i], .int ps[qs[i].toNat], rfl, rfl, hqq, at_of (j := qs[i].toNat) (by omega) (by rw [List.getElem?_map, List.getElem?_eq_getElem hl]; rfl), ?_⟩
        exact ⟨_, hD', hlen, kp.upd, fin _ (by rw [if_neg h0, getD_of (List.getElem?_eq_getElem hl)])⟩
    · rintro H' ⟨kp, hD'⟩
      rw [List.length_map, List.take_length] at hD'
      have s2 : Same H H' := fun b o e => kp b o (s1 b o e) (ne_of_none e hD)
      refine mk_move (.inl (SqL.of hD')) (prod_ok o1 o2) (by rw [prodM_length]; exact hz) fun H2 p e2 hp m => k H2 p (s2.trans e2) (s2.free hp) m
theorem sc_m_still : FnScope ["count"] ["count"] (defScope s_m_still) := ⟨rfl, rfl, rfl, by decide +kernel, rfl, by decide +kernel, by decide +kernel⟩
theorem ok_still {f : Addr} {fd : FuncData} (F : Fun K "still" "Move.still" s_m_still f fd) (T : TxtM K mg C) (MMove : Ml P w K mg base CX0 1 "Move" C (spInit K C)) : FnR P w K mg base CX0 3 f (spStill K C) := by
  refine fnr F sc_m_still (fun vs H Q E h => ?_) (fun _ _ _ _ _ _ us hl => match us, hl with | [_], _ => rfl) (fun cdv A outer s H vs Q E hr h => ?_)
  · obtain ⟨t, rfl, _⟩ := h
    rfl
  · obtain ⟨t, rfl, hz, k⟩ := h
    refine ⟨_, (pss_one (ps_ret (pe_ml MMove hr (by decide) (by rfl) pass0 (pa_cons (pv 0) (pa_cons (pe_listRg rfl (by rfl) T.n_list (prg_1 (by rfl) T.n_range (pv 0))) pa_nil))))), ?_⟩
    walk_at "rd"
    refine ⟨RgOk.of_le (by omega) (by omega) (by omega) (by omega), fun p hp => ?_⟩
    have s1 := same_new (o := .lst (rgV 0 (t : Int))) (Same.refl H) hp
    have e : rgV 0 (t : Int) = (stillM t).map V.int := by
      unfold rgV stillM
      simp
    refine mk_move (.inl (SqL.of (by rw [upd_same, e]))) (still_ok t) (by rw [stillM_length]; exact hz) fun H2 q e2 hq m => k H2 q (s1.trans e2) (s1.free hq) m
end
end MV

namespace MV
open PySem PySem.Spec PyProof.Rows L2 SB MM
local macro_rules | `(tactic| walk_at "rd") => `(tactic| repeat (first | (refine ⟨_, rfl, ?_⟩) | (refine ⟨_, _, rfl, rfl, ?_⟩) | (refine ⟨_, _, rfl, ?_⟩) | (refine ⟨rfl, ?_⟩)))
section
variable {P : Program} {w : World} {K : PySem.W.Frag} {mg : Str → Option Value} {base : Heap} {C : Addr}
theorem sc_m_invert : FnScope ["self", "position", "at", "place", "index"] ["self"] (defScope s_m_invert) := ⟨rfl, rfl, rfl, by decide +kernel, rfl, by decide +kernel, by decide +kernel⟩
theorem ok_inv {f : Addr} {fd : FuncData} (F : Fun K "__invert__" "Move.__invert__" s_m_invert f fd) (T : TxtM K mg C) (MMove : Ml P w K mg base CX0 1 "Move" C (spInit K C)) : FnR P w K mg base CX0 3 f (spInv K C) := by
  refine fnr F sc_m_invert (fun vs H Q E h => ?_) (fun _ _ _ _ _ _ us hl => match us, hl with | [_], _ => rfl) (fun cdv A outer s H vs Q E hr h => ?_)
  · obtain ⟨a, t, ps, rfl, _⟩ := h
    rfl
  · obtain ⟨a, t, ps, rfl, ⟨dx, q, ha, hq⟩, ok, hz, ht, k⟩ := h
    refine ⟨_, (pss_cons (ps_set (i := 1) sc_m_invert.nd rfl (Or.inr rfl) (pe_dc (own := [("at", 2), ("place", 3)]) (by rfl) sc_m_invert.nd (pi_enumS (by rfl) T.n_enumerate (pa_cons (pe_fld (pv 0) (by rfl)) pa_nil)) (blkOk_by (own := [("at", 2), ("place", 3)]) (N := ["self", "position", "at", "place", "index"]) (sc := defScope s_m_invert) (by decide +kernel)) (fun _ _ _ _ _ => (pg_tupK (K := K) (n := 2) (by rfl) (by rfl) (pgs_cons (pg_name (i := 2) sc_m_invert.nd rfl (Or.inl rfl)) (pgs_cons (pg_name (i := 3) sc_m_invert.nd rfl (Or.inl rfl)) pgs_nil)))) (fun _ _ _ _ _ => pts_nil) (fun _ _ _ _ _ => (pv 3)) (fun _ _ _ _ _ => (pv 2))))
      (pss_one (ps_ret (pe_ml MMove hr (by decide) (by rfl) pass0 (pa_cons (pe_callB call_len_seq (by rfl) T.n_len (by decide +kernel) (pa_cons (pe_fld (pv 0) (by rfl)) pa_nil)) (pa_cons (pe_lc (own := [("index", 4)]) (by rfl) sc_m_invert.nd (pi_range1 (by rfl) T.n_range (pa_cons (pe_fld (pv 0) (by rfl)) pa_nil)) (blkOk_by (own := [("index", 4)]) (N := ["self", "position", "at", "place", "index"]) (sc := defScope s_m_invert) (by decide +kernel)) (fun _ _ _ _ _ => (pg_name (i := 4) sc_m_invert.nd rfl (Or.inl rfl))) (fun _ _ _ _ _ => by exact pts_nil) (fun _ _ _ _ _ => by exact (pe_dget2 (hu_of hr) (pv 1) (pv 4) (pe_un un_neg pe_int) ⟨rfl, rfl, rfl, rfl⟩))) pa_nil)))))), ?_⟩
    walk_at "rd"
    refine ⟨a, C, dx, _, _, rfl, ha, T.cl, T.np, mfs_places _ _, ?_⟩
    refine ⟨q, _, rfl, .inr hq, fun J G w hG => ?_⟩
    intro D hD
    have s1 : Same H (upd H D (.dK [])) := same_new (Same.refl H) hD
    refine dc_it w (fun i H' => ∃ kvs : List (Key × V), KeepB D (upd H D (.dK [])) H' ∧ H' D = some (.dK kvs) ∧ kvs.length ≤ i ∧
      ∀ p : Int, 0 ≤ p → (valV kvs (Sum.inl p)).getD (.int (-1)) = .int (posM (ps.take i) p)) ⟨[], KeepB.refl _ _, upd_same, Nat.le_refl _, fun p _ => rfl⟩ ?_ ?_ ?_
    · rintro i H' _ ⟨_, kp, _⟩
      exact hG H' (fun e => kp.sqL' upd_same (noSeq_dK _) (stayL e fun o h => (by exact s1 _ _ h))) (fun e => kp.sqT' upd_same (noSeq_dK _) (Same.sqT s1 e))
    · rintro i x' H' H'' hi ⟨kvs, kp, hD', hlen, hv⟩ ⟨T', x0, y0, rfl, hT, rfl, e0, ey⟩
      cases e0
      have hi' : i < ps.length := by simpa using hi
      have epi : ps[i]? = some ps[i] := List.getElem?_eq_getElem hi'
      have ey' : y0 = .int ps[i] := by
        have q : (ps.map V.int)[i]? = some y0 := ey
        rw [List.getElem?_map, epi] at q
        exact (Option.some.inj q).symm
      subst ey'
      have ndT : D ≠ T' := ne_of_none hD' hT
      have hd2 : (upd H' T' (.tup [.int (i : Nat), .int ps[i]])) D = some (.dK kvs) := by rw [upd_ne ndT]; exact hD'
      have kp2 := kp.new (o := .tup [.int (i : Nat), .int ps[i]]) hT
      have tk : ps.take (i + 1) = ps.take i ++ [ps[i]] := by rw [List.take_append_getElem hi']
      refine ⟨T', _, rfl, SqT.of upd_same, rfl, ?_⟩
      walk_at "rd"
      refine ⟨kvs, Sum.inl ps[i], rfl, hd2, Nat.lt_of_le_of_lt (show _ ≤ 100000 by omega) (by decide), _, kp2.upd, upd_same, ?_, fun p h0 => ?_⟩
      · have := length_putK kvs (Sum.inl ps[i]) (V.int (i : Nat))
        omega
      · rw [valV_put, tk]
        by_cases e : (Sum.inl p : Key) = Sum.inl ps[i]
        · have e' : p = ps[i] := Sum.inl.inj e
          rw [if_pos e]
          show V.int (i : Nat) = _
          rw [posM_snoc_new ok epi (by omega) e']
        · rw [if_neg e, hv p h0, posM_snoc_old fun z => e (by rw [z])]
    · rintro H' ⟨kvs, kp, hD', hlen, hv⟩
      have s2 : Same H H' := fun b o e => kp b o (s1 b o e) (ne_of_none e hD)
      have ha' := s2 _ _ ha
      have hq' := Same.sqT s2 hq
      rw [List.length_map, List.take_length] at hv
      walk_at "rd"
      refine ⟨a, C, dx, _, _, rfl, ha', T.cl, T.np, mfs_places _ _, ?_⟩
      refine ⟨q, _, rfl, .inr hq', ?_⟩
      rw [List.length_map]
      walk_at "rd"
      refine ⟨a, C, dx, _, _, rfl, ha', T.cl, T.nt, mfs_takes _ _, ?_⟩
      refine ⟨_, rfl, by omega, by omega, fun L hL => ?_⟩
      have s3 : Same H' (upd H' L (.lst [])) := same_new (Same.refl H') hL
      rw [Int.toNat_natCast]
      refine lc_it walk_range (fun i H2 => KeepB L (upd H' L (.lst [])) H2 ∧ H2 L = some (.lst ((invM i ps).map V.int))) ⟨KeepB.refl _ _, upd_same⟩ (fun _ _ _ _ => trivial) ?_ ?_
      · rintro i x H0 H2 hi ⟨kp2, hL2⟩ ⟨rfl, rfl⟩
        have hD2 : H2 D = some (.dK kvs) := kp2 D _ (s3 _ _ hD') (ne_of_none hD' hL)
        walk_at "rd"
        refine ⟨.inl ⟨kvs, Rd.of hD2⟩, ?_⟩
        walk_at "rd"
        refine ⟨_, DGet.k (k := Sum.inl ((0 : Int) + i)) hD2, ?_⟩
        rw [hv _ (by omega)]
        refine ⟨_, hL2, ?_, kp2.upd, ?_⟩
        · rw [List.length_map, invM_length]
          exact Nat.lt_of_le_of_lt (show _ ≤ 100000 by omega) (by decide)
        · rw [upd_same, invM_succ, List.map_append]
          simp
      · rintro H2 ⟨kp2, hL2⟩
        have s4 : Same H H2 := fun b o e => kp2 b o (s3 b o (s2 b o e)) (ne_of_none (s2 b o e) hL)
        refine mk_move (.inl (SqL.of hL2)) (invM_ok ok) (by rw [invM_length]; exact ht) fun H3 p e3 hp m => k H3 p (s4.trans e3) (s4.free hp) m
end
end MV

namespace MV
open PySem PySem.Spec PyProof.Rows L2 SB MM
local macro_rules | `(tactic| walk_at "rd") => `(tactic| repeat (first | (refine ⟨_, rfl, ?_⟩) | (refine ⟨_, _, rfl, rfl, ?_⟩) | (refine ⟨_, _, rfl, ?_⟩) | (refine ⟨rfl, ?_⟩)))
abbrev s_places : Stmt := top 15
abbrev s_values : Stmt := top 16
abbrev s_back : Stmt := top 17
/-- one of some values -/
def spOf (K : PySem.W.Frag) : Sp := fun vs H Q _ => ∃ (b p : Addr) (l xs : List V) (n : Nat), vs = [.ref b, .ref p] ∧ H b = some (.lst l) ∧ BagL l n ∧ n < 1000000 ∧ H p = some (.lst xs) ∧ p ≠ b ∧ 0 < xs.length ∧ xs.length ≤ 100000 ∧
  ∀ (j : Nat) (x : V) (l' : List V), xs[j]? = some x → BagL l' (n + 1) → Q x (upd H b (.lst l'))
def spCount : Sp := fun vs H Q _ => ∃ (b : Addr) (most : Nat) (l : List V) (n : Nat), vs = [.ref b, .int (most : Int)] ∧ H b = some (.lst l) ∧ BagL l n ∧ n + 2 < 1000000 ∧ most ≤ 100000 ∧
  ∀ (r : Nat) (l' : List V), (r ≤ 6 ∨ r ≤ most) → BagL l' (n + 2) → Q (.int (r : Int)) (upd H b (.lst l'))
def spPlaces : Sp := fun vs H Q _ => ∃ (b : Addr) (t g : Nat) (l : List V) (n : Nat), vs = [.ref b, .int (t : Int), .int (g : Int)] ∧ H b = some (.lst l) ∧ BagL l n ∧ n + t + g + 2 < 1000000 ∧ t ≤ 10000 ∧ g ≤ 10000 ∧
  ∀ (H' : Hp) (p : Addr) (l' : List V) (ps : List Int), KeepB b H H' → H' b = some (.lst l') → BagL l' (n + t + g + 2) → H p = none → H' p = some (.lst (ps.map V.int)) → MoveOk t ps → ps.length ≤ t + g → Q (.ref p) H'
section
variable {P : Program} {w : World} {K : PySem.W.Frag} {mg : Str → Option Value} {base : Heap}
theorem sc_of : FnScope ["_law_bag_here", "_law_some"] ["_law_bag_here", "_law_some"] (defScope s_of) := ⟨rfl, rfl, rfl, by decide +kernel, rfl, by decide +kernel, by decide +kernel⟩
theorem ok_of {f : Addr} {fd : FuncData} (F : Fun K "_law_of" "_law_of" s_of f fd) (T : Blt mg) (Dtake : Cl P w K mg base CX0 1 "_law_take" spTake) : FnR P w K mg base CX0 2 f (spOf K) := by
  refine fnr F sc_of (fun vs H Q E h => ?_) (fun _ _ _ _ _ _ us hl => match us, hl with | [_, _], _ => rfl) (fun cdv A outer s H vs Q E hr h => ?_)
  · obtain ⟨b, p, l, xs, n, rfl, _⟩ := h
    rfl
  · obtain ⟨b, p, l, xs, n, rfl, hb, hl, hn, hp, npb, h0, hz, k⟩ := h
    refine ⟨_, (pss_one (ps_ret (pe_ix ix_list (pv 1) (by exact (pe_cl Dtake hr (by decide) (by rfl) pass0 (pa_cons (pv 0) (pa_cons (pe_callB call_len_seq (by rfl) T.n_len (by decide +kernel) (pa_cons (pv 1) pa_nil)) pa_nil)))) (fun _ _ => rfl)))), ?_⟩
    walk_at "rd"
    refine ⟨p, xs, rfl, .inl (SqL.of hp), ?_⟩
    refine ⟨b, _, l, n, rfl, hb, hl, hn, by omega, by omega, fun r l' r0 r1 hl' => ?_⟩
    have hj : r.toNat < xs.length := by omega
    refine ⟨p, xs, r, xs[r.toNat], rfl, rfl, SqL.of (by rw [upd_ne npb]; exact hp), at_of (j := r.toNat) (by omega) (List.getElem?_eq_getElem hj), ?_⟩
    exact k r.toNat _ l' (List.getElem?_eq_getElem hj) hl'
theorem sc_count : FnScope ["_law_bag_here", "_law_most"] ["_law_bag_here", "_law_most"] (defScope s_count) := ⟨rfl, rfl, rfl, by decide +kernel, rfl, by decide +kernel, by decide +kernel⟩
theorem ok_count {f : Addr} {fd : FuncData} (F : Fun K "_law_count" "_law_count" s_count f fd) (T : Blt mg) (Dtake : Cl P w K mg base CX0 1 "_law_take" spTake) : FnR P w K mg base CX0 2 f spCount := by
  refine fnr F sc_count (fun vs H Q E h => ?_) (fun _ _ _ _ _ _ us hl => match us, hl with | [_, _], _ => rfl) (fun cdv A outer s H vs Q E hr h => ?_)
  · obtain ⟨b, most, l, n, rfl, _⟩ := h
    rfl
  · obtain ⟨b, most, l, n, rfl, hb, hl, hn, hm, k⟩ := h
    refine ⟨_, (pss_one (ps_ret (pe_ifExp (pt_cmpR op_lt (pe_cl Dtake hr (by decide) (by rfl) pass0 (pa_cons (pv 0) (pa_cons pe_int pa_nil))) pe_int (nomark _)) (pe_cl Dtake hr (by decide) (by rfl) pass0 (pa_cons (pv 0) (pa_cons pe_int pa_nil))) (pe_cl Dtake hr (by decide) (by rfl) pass0 (pa_cons (pv 0) (pa_cons (pe_op op_add (pv 1) pe_int) pa_nil)))))), ?_⟩
    walk_at "rd"
    refine ⟨b, 4, l, n, rfl, hb, hl, by omega, by decide, by decide, fun r l1 r0 r1 hl1 => ?_⟩
    walk_at "rd"
    refine ite2 (fun c => ?_) (fun c => ?_)
    · walk_at "rd"
      refine ⟨b, 7, l1, n + 1, rfl, upd_same, hl1, by omega, by decide, by decide, fun r2 l2 h0 h1 hl2 => ?_⟩
      rw [upd_upd]
      obtain ⟨m, rfl⟩ : ∃ m : Nat, r2 = (m : Int) := ⟨r2.toNat, by omega⟩
      exact k m l2 (.inl (by omega)) hl2
    · walk_at "rd"
      refine ⟨b, _, l1, n + 1, rfl, upd_same, hl1, by omega, by omega, by omega, fun r2 l2 h0 h1 hl2 => ?_⟩
      rw [upd_upd]
      obtain ⟨m, rfl⟩ : ∃ m : Nat, r2 = (m : Int) := ⟨r2.toNat, by omega⟩
      exact k m l2 (.inr (by omega)) hl2
theorem sc_places : FnScope ["_law_bag_here", "_law_takes", "_law_most_gaps", "_law_left", "_law_places_here", "_law_turn"] ["_law_bag_here", "_law_takes", "_law_most_gaps"] (defScope s_places) := ⟨rfl, rfl, rfl, by decide +kernel, rfl, by decide +kernel, by decide +kernel⟩
theorem ok_places {f : Addr} {fd : FuncData} (F : Fun K "_law_places" "_law_places" s_places f fd) (T : Blt mg) (Dtake : Cl P w K mg base CX0 1 "_law_take" spTake) : FnR P w K mg base CX0 2 f spPlaces := by
  refine fnr F sc_places (fun vs H Q E h => ?_) (fun _ _ _ _ _ _ us hl => match us, hl with | [_, _, _], _ => rfl) (fun cdv A outer s H vs Q E hr h => ?_)
  · obtain ⟨b, t, g, l, n, rfl, _⟩ := h
    rfl
  · obtain ⟨b, t, g, l, n, rfl, hb, hl, hn, ht, hg, k⟩ := h
    refine ⟨_, (pss_cons (ps_par (i := 3) (j := 4) (by rfl) sc_places.nd rfl rfl (by decide) rfl rfl (pa_cons (pe_listRg rfl (by rfl) T.n_list (prg_1 (by rfl) T.n_range (pv 1))) (pa_cons (pe_lst pa_nil) pa_nil)) (by rfl))
      (pss_cons (ps_for PassesOwn.never rfl (pi_range1 (by rfl) T.n_range (pa_cons (pe_cl Dtake hr (by decide) (by rfl) pass0 (pa_cons (pv 0) (pa_cons (pe_op op_add (pv 1) pe_int) pa_nil))) pa_nil)) (pg_name (i := 5) sc_places.nd rfl (Or.inl rfl))
        (pss_one (ps_expr (pe_bm PySem.F.plainAttrs_list PySem.F.slot_list_append PySem.F.type_list_append mt_append (pv 4) (pa_cons (pe_bm PySem.F.plainAttrs_list PySem.F.slot_list_pop PySem.F.type_list_pop mt_popAt (pv 3) (pa_cons (pe_cl Dtake hr (by decide) (by rfl) pass0 (pa_cons (pv 0) (pa_cons (pe_callB call_len_seq (by rfl) T.n_len (by decide +kernel) (pa_cons (pv 3) pa_nil)) pa_nil))) pa_nil)) pa_nil)))))
      (pss_cons (ps_for PassesOwn.never rfl (pi_range1 (by rfl) T.n_range (pa_cons (pe_cl Dtake hr (by decide) (by rfl) pass0 (pa_cons (pv 0) (pa_cons (pe_op op_add (pv 2) pe_int) pa_nil))) pa_nil)) (pg_name (i := 5) sc_places.nd rfl (Or.inl rfl))
        (pss_one (ps_expr (pe_bm PySem.F.plainAttrs_list PySem.F.slot_list_insert PySem.F.type_list_insert mt_insert (pv 4) (pa_cons (pe_cl Dtake hr (by decide) (by rfl) pass0 (pa_cons (pv 0) (pa_cons (pe_op op_add (pe_callB call_len_seq (by rfl) T.n_len (by decide +kernel) (pa_cons (pv 4) pa_nil)) pe_int) pa_nil))) (pa_cons (pe_un un_neg pe_int) pa_nil))))))
      (pss_one (ps_ret (pv 4)))))), ?_⟩
    walk_at "rd"
    refine ⟨RgOk.of_le (by omega) (by omega) (by omega) (by omega), fun lf hlf => ?_⟩
    refine ⟨(by show 0 ≤ sizeLine; decide), fun p hp => ?_⟩
    have e0 : rgV 0 (t : Int) = (stillM t).map V.int := by
      unfold rgV stillM
      simp
    rw [e0] at hp ⊢
    have nbf : b ≠ lf := ne_of_none hb hlf
    have hb1 : (upd H lf (.lst ((stillM t).map V.int))) b = some (.lst l) := by rw [upd_ne nbf]; exact hb
    have nbp : b ≠ p := ne_of_none hb1 hp
    have nfp : lf ≠ p := ne_of_none upd_same hp
    have np0 : H p = none := (same_new (Same.refl H) hlf).free hp
    walk_at "rd"
    refine ⟨b, _, l, n, rfl, by rw [upd_ne nbp]; exact hb1, hl, by omega, by omega, by omega, fun r l1 r0 r1 hl1 => ?_⟩
    obtain ⟨r, rfl⟩ : ∃ m : Nat, r = (m : Int) := ⟨r.toNat, by omega⟩
    refine ⟨_, rfl, by omega, by omega, ?_⟩
    rw [Int.toNat_natCast]
    refine for_it walk_range (fun i σ H' => ∃ (v5 : Option V) (l' : List V) (L ps : List Int), σ = [some (.ref b), some (.int (t : Int)), some (.int (g : Int)), some (.ref lf), some (.ref p), v5] ∧ (∀ c o, H c = some o → c ≠ b → H' c = some o) ∧ H' b = some (.lst l') ∧ BagL l' (n + 1 + i) ∧
      H' lf = some (.lst (L.map V.int)) ∧ H' p = some (.lst (ps.map V.int)) ∧ SomeOf t ps L ∧ ps.length = i) ?_ (fun _ _ _ _ _ => trivial) ?_ ?_
    · refine ⟨none, l1, stillM t, [], rfl, fun c o e hc => ?_, upd_same, hl1, ?_, ?_, someOf_start t, rfl⟩
      · rw [upd_ne hc, upd_ne (ne_of_none e np0), upd_ne (ne_of_none e hlf)]
        exact e
      · rw [upd_ne (Ne.symm nbf), upd_ne nfp]
        exact upd_same
      · rw [upd_ne (Ne.symm nbp)]
        exact upd_same
    · rintro i x σ H0 H' hi ⟨v5, l', L, ps, rfl, kp, hb', hl', hf', hp', so, hlen⟩ ⟨rfl, rfl⟩
      have hs := someOf_length so
      walk_at "rd"
      refine ⟨.inl ⟨rfl, _, SqL.of hp'⟩, ?_⟩
      walk_at "rd"
      refine ⟨.inl ⟨rfl, _, SqL.of hf'⟩, ?_⟩
      walk_at "rd"
      refine ⟨lf, _, rfl, .inl (SqL.of hf'), ?_⟩
      rw [List.length_map]
      refine ⟨b, _, l', n + 1 + i, rfl, hb', hl', by omega, by omega, by omega, fun r2 l2 h0 h1 hl2 => ?_⟩
      obtain ⟨m, rfl⟩ : ∃ m : Nat, r2 = (m : Int) := ⟨r2.toNat, by omega⟩
      have hm : m < L.length := by omega
      have em : L[m]? = some L[m] := List.getElem?_eq_getElem hm
      refine ⟨lf, _, m, m, .int L[m], rfl, rfl, by rw [upd_ne (Ne.symm nbf)]; exact hf', by omega, by omega, ?_, by rw [List.getElem?_map, em]; rfl, ?_⟩
      · rw [List.length_map]; exact seqIdx_nat hm
      refine ⟨p, _, _, rfl, rfl, by rw [upd_ne (Ne.symm nfp), upd_ne (Ne.symm nbp)]; exact hp', ?_, ?_⟩
      · rw [List.length_map]
        exact Nat.lt_of_le_of_lt (show _ ≤ 100000 by omega) (by decide)
      refine ⟨_, l2, L.eraseIdx m, ps ++ [L[m]], rfl, fun c o e hc => ?_, ?_, hl2, ?_, ?_, someOf_step so em, by rw [List.length_append, hlen]; rfl⟩
      · rw [upd_ne (ne_of_none e np0), upd_ne (ne_of_none e hlf), upd_ne hc]
        exact kp c o e hc
      · rw [upd_ne nbp, upd_ne nbf]
        exact upd_same
      · rw [upd_ne nfp, upd_same, map_eraseI]
      · rw [upd_same, List.map_append]
        rfl
    · rintro σ H' ⟨v5, l', L, ps, rfl, kp, hb', hl', hf', hp', so, hlen⟩
      have hs := someOf_length so
      walk_at "rd"
      refine ⟨b, _, l', n + 1 + r, rfl, hb', hl', by omega, by omega, by omega, fun r2 l2 h0 h1 hl2 => ?_⟩
      obtain ⟨m, rfl⟩ : ∃ m : Nat, r2 = (m : Int) := ⟨r2.toNat, by omega⟩
      refine ⟨_, rfl, by omega, by omega, ?_⟩
      rw [Int.toNat_natCast]
      refine for_it walk_range (fun i σ H2 => ∃ (v5 : Option V) (l' : List V) (qs : List Int), σ = [some (.ref b), some (.int (t : Int)), some (.int (g : Int)), some (.ref lf), some (.ref p), v5] ∧ (∀ c o, H c = some o → c ≠ b → H2 c = some o) ∧ H2 b = some (.lst l') ∧ BagL l' (n + 2 + r + i) ∧
        H2 p = some (.lst (qs.map V.int)) ∧ MoveOk t qs ∧ qs.length = r + i) ?_ (fun _ _ _ _ _ => trivial) ?_ ?_
      · refine ⟨_, l2, ps, rfl, fun c o e hc => ?_, upd_same, hl2.mono (by omega), ?_, someOf_ok so, hlen⟩
        · rw [upd_ne hc]
          exact kp c o e hc
        · rw [upd_ne (Ne.symm nbp)]
          exact hp'
      · rintro i x σ H0 H2 hi ⟨v5, l', qs, rfl, kp2, hb2, hl2, hp2, ok, hlen2⟩ ⟨rfl, rfl⟩
        walk_at "rd"
        refine ⟨.inl ⟨rfl, _, SqL.of hp2⟩, ?_⟩
        walk_at "rd"
        refine ⟨p, _, rfl, .inl (SqL.of hp2), ?_⟩
        rw [List.length_map]
        walk_at "rd"
        refine ⟨b, _, l', n + 2 + r + i, rfl, hb2, hl2, by omega, by omega, by omega, fun r3 l3 h0 h1 hl3 => ?_⟩
        obtain ⟨j, rfl⟩ : ∃ m : Nat, r3 = (m : Int) := ⟨r3.toNat, by omega⟩
        walk_at "rd"
        refine ⟨p, _, (j : Int), _, rfl, rfl, by rw [upd_ne (Ne.symm nbp)]; exact hp2, ?_, by omega, by omega, ?_⟩
        · rw [List.length_map]
          exact lt_line (by omega)
        refine ⟨_, l3, qs.take j ++ [-1] ++ qs.drop j, rfl, fun c o e hc => ?_, ?_, hl3, ?_, ok_insert ok j, ?_⟩
        · rw [upd_ne (ne_of_none e np0), upd_ne hc]
          exact kp2 c o e hc
        · rw [upd_ne nbp]
          exact upd_same
        · rw [upd_same, Int.toNat_natCast, List.map_append, List.map_append, List.map_take, List.map_drop]
          rfl
        · rw [List.length_append, List.length_append, List.length_take, List.length_drop, List.length_singleton]
          omega
      · rintro σ H2 ⟨v5, l', qs, rfl, kp2, hb2, hl2, hp2, ok, hlen2⟩
        walk_at "rd"
        exact k H2 p l' qs kp2 hb2 (hl2.mono (by omega)) np0 hp2 ok (by omega)
end
end MV

namespace MV
open PySem PySem.Spec PyProof.Rows L2 SB MM
local macro_rules | `(tactic| walk_at "rd") => `(tactic| repeat (first | (refine ⟨_, rfl, ?_⟩) | (refine ⟨_, _, rfl, rfl, ?_⟩) | (refine ⟨_, _, rfl, ?_⟩) | (refine ⟨rfl, ?_⟩)))
def spValues (K : PySem.W.Frag) : Sp := fun vs H Q _ => ∃ (b : Addr) (many : Nat) (mark : Str) (l : List V) (n : Nat), vs = [.ref b, .int (many : Int), .str mark] ∧ H b = some (.lst l) ∧ BagL l n ∧ n + many + 1 < 1000000 ∧ many ≤ 10000 ∧ PyData.strOk mark = true ∧ mark.length ≤ 100 ∧
  ∀ (H' : Hp) (p : Addr) (l' xs : List V) (ds : List PyData), KeepB b H H' → H' b = some (.lst l') → BagL l' (n + many) → H p = none → H' p = some (.lst xs) → xs.length = many → DpAll K (Wo H' [b, p]) xs ds → (∀ d ∈ ds, Sh d) → Q (.ref p) H'
def spBack (K : PySem.W.Frag) : Sp := fun vs H Q _ => ∃ (t : Nat) (pl : Addr) (ps : List Int), vs = [.int (t : Int), .ref pl] ∧ SqL K H pl (ps.map V.int) ∧ MoveOk t ps ∧ t ≤ 10000 ∧ ps.length ≤ 10000 ∧
  ∀ (H' : Hp) (p : Addr), Same H H' → H p = none → H' p = some (.lst ((invM t ps).map V.int)) → Q (.ref p) H'
section
variable {P : Program} {w : World} {K : PySem.W.Frag} {mg : Str → Option Value} {base : Heap}
theorem sc_values : FnScope ["_law_bag_here", "_law_many", "_law_mark", "_law_found", "_law_k"] ["_law_bag_here", "_law_many", "_law_mark"] (defScope s_values) := ⟨rfl, rfl, rfl, by decide +kernel, rfl, by decide +kernel, by decide +kernel⟩
theorem ok_values {f : Addr} {fd : FuncData} (F : Fun K "_law_values" "_law_values" s_values f fd) (T : Blt mg) (Dof : Cl P w K mg base CX0 2 "_law_of" (spOf K)) : FnR P w K mg base CX0 3 f (spValues K) := by
  refine fnr F sc_values (fun vs H Q E h => ?_) (fun _ _ _ _ _ _ us hl => match us, hl with | [_, _, _], _ => rfl) (fun cdv A outer s H vs Q E hr h => ?_)
  · obtain ⟨b, many, mark, l, n, rfl, _⟩ := h
    rfl
  · obtain ⟨b, many, mark, l, n, rfl, hb, hl, hn, hm, hok, hml, k⟩ := h
    refine ⟨_, (pss_cons (ps_set (i := 3) sc_values.nd rfl (Or.inl rfl) (pe_lst pa_nil))
      (pss_cons (ps_for PassesOwn.never rfl (pi_range1 (by rfl) T.n_range (pa_cons (pv 1) pa_nil)) (pg_name (i := 4) sc_values.nd rfl (Or.inl rfl))
        (pss_one (ps_expr (pe_bm PySem.F.plainAttrs_list PySem.F.slot_list_append PySem.F.type_list_append mt_append (pv 3) (pa_cons (pe_cl Dof hr (by decide) (by rfl) pass0 (pa_cons (pv 0) (pa_cons (pe_lst (pa_cons (pe_tup (pa_cons (pv 2) (pa_cons (pv 4) pa_nil))) (pa_cons (pe_lst (pa_cons (pv 2) (pa_cons (pv 4) pa_nil))) (pa_cons (pe_op op_add_str (pv 2) (pe_callTy call_str_int (by rfl) T.n_str (by decide +kernel) (pa_cons (pv 4) pa_nil))) (pa_cons (pe_tup (pa_cons (pv 4) (pa_cons pe_non (pa_cons pe_bl (pa_cons (pv 2) pa_nil))))) pa_nil))))) pa_nil))) pa_nil)))))
      (pss_one (ps_ret (pv 3))))), ?_⟩
    refine ⟨(by show 0 ≤ sizeLine; decide), fun p hp => ?_⟩
    have nbp : b ≠ p := ne_of_none hb hp
    have s1 : Same H (upd H p (.lst [])) := same_new (Same.refl H) hp
    walk_at "rd"
    refine ⟨by omega, by omega, ?_⟩
    rw [Int.toNat_natCast]
    refine for_it walk_range (fun i σ H' => ∃ (v5 : Option V) (l' xs : List V) (ds : List PyData), σ = [some (.ref b), some (.int (many : Int)), some (.str mark), some (.ref p), v5] ∧ KeepB b H H' ∧ H' b = some (.lst l') ∧ BagL l' (n + i) ∧ H' p = some (.lst xs) ∧ xs.length = i ∧ DpAll K (Wo H' [b, p]) xs ds ∧ (∀ d ∈ ds, Sh d)) ?_ (fun _ _ _ _ _ => trivial) ?_ ?_
    · exact ⟨none, l, [], [], rfl, KeepB.of_same s1, s1 _ _ hb, hl, upd_same, rfl, .nil, fun _ h => nomatch h⟩
    · rintro i x σ H0 H' hi ⟨v5, l', xs, ds, rfl, kp, hb', hl', hp', hlen, hd, hsh⟩ ⟨rfl, rfl⟩
      walk_at "rd"
      refine ⟨.inl ⟨rfl, _, SqL.of hp'⟩, ?_⟩
      walk_at "rd"
      refine ⟨(by show 2 ≤ sizeLine; decide), fun T1 hT1 => ?_⟩
      walk_at "rd"
      refine ⟨(by show 2 ≤ sizeLine; decide), fun T2 hT2 => ?_⟩
      walk_at "rd"
      have hlog : ((0 : Int) + i).natAbs.log2 < 1920 := Nat.lt_of_lt_of_le (PySem.Flt.log2_lt_of (k := 20) (by decide) (by omega)) (by decide)
      refine ⟨hlog, ?_⟩
      walk_at "rd"
      have htl := int_text_len_1921 hlog
      refine ⟨le_line (by omega), ?_⟩
      walk_at "rd"
      refine ⟨(by show 4 ≤ sizeLine; decide), fun T3 hT3 => ?_⟩
      refine ⟨(by show 4 ≤ sizeLine; decide), fun T4 hT4 => ?_⟩
      have b1 := same_new (o := .tup [.str mark, .int ((0 : Int) + i)]) (Same.refl H') hT1
      have b2 := same_new (o := .lst [.str mark, .int ((0 : Int) + i)]) b1 hT2
      have b3 := same_new (o := .tup [.int ((0 : Int) + i), .non, .bl true, .str mark]) b2 hT3
      have b4 := same_new (o := .lst [.ref T1, .ref T2, .str (mark ++ Str.ofString (toString ((0 : Int) + i))), .ref T3]) b3 hT4
      have n1 : H' T1 = none := hT1
      have n2 : H' T2 = none := b1.free hT2
      have n3 : H' T3 = none := b2.free hT3
      have n4 : H' T4 = none := b3.free hT4
      have hb4 := b4 _ _ hb'
      have hp4 := b4 _ _ hp'
      have nb1 : T1 ∉ [b, p] := by
        have := ne_of_none hb' n1
        have := ne_of_none hp' n1
        simp; exact ⟨fun z => by simp_all, fun z => by simp_all⟩
      have nb2 : T2 ∉ [b, p] := by
        have := ne_of_none hb' n2
        have := ne_of_none hp' n2
        simp; exact ⟨fun z => by simp_all, fun z => by simp_all⟩
      have nb3 : T3 ∉ [b, p] := by
        have := ne_of_none hb' n3
        have := ne_of_none hp' n3
        simp; exact ⟨fun z => by simp_all, fun z => by simp_all⟩
      have t1 := same_new (o := .lst [.ref T1, .ref T2, .str (mark ++ Str.ofString (toString ((0 : Int) + i))), .ref T3]) (same_new (o := .tup [.int ((0 : Int) + i), .non, .bl true, .str mark]) (same_new (o := .lst [.str mark, .int ((0 : Int) + i)]) (Same.refl _) hT2) hT3) hT4 T1 _ upd_same
      have t2 := same_new (o := .lst [.ref T1, .ref T2, .str (mark ++ Str.ofString (toString ((0 : Int) + i))), .ref T3]) (same_new (o := .tup [.int ((0 : Int) + i), .non, .bl true, .str mark]) (Same.refl _) hT3) hT4 T2 _ upd_same
      have t3 := same_new (o := .lst [.ref T1, .ref T2, .str (mark ++ Str.ofString (toString ((0 : Int) + i))), .ref T3]) (Same.refl _) hT4 T3 _ upd_same
      refine ⟨b, T4, l', _, n + i, rfl, hb4, hl', by omega, upd_same, (ne_of_none hb' n4).symm, (by show 0 < 4; decide), (by show 4 ≤ 100000; decide), fun j x l2 hx hl2 => ?_⟩
      have nbp' : p ≠ b := nbp.symm
      refine ⟨p, xs, x, rfl, rfl, by rw [upd_ne nbp']; exact hp4, lt_line (by omega), ?_⟩
      have key : ∃ d, Sh d ∧ Dp K (Wo (upd (upd (upd (upd H' T1 (.tup [.str mark, .int ((0 : Int) + i)])) T2 (.lst [.str mark, .int ((0 : Int) + i)])) T3 (.tup [.int ((0 : Int) + i), .non, .bl true, .str mark])) T4 (.lst [.ref T1, .ref T2, .str (mark ++ Str.ofString (toString ((0 : Int) + i))), .ref T3])) [b, p]) x d := by
        have hs1 : PyData.canLay0 (.str mark) = true := hok
        match j, hx with
        | 0, hx =>
          have ex : V.ref T1 = x := Option.some.inj hx
          subst ex
          exact ⟨.tuple [.str mark, .int ((0 : Int) + i)], (sh_seq (k := 0) (by intro d hd; simp at hd; rcases hd with rfl | rfl <;> first | exact ⟨hs1, Nat.le_refl _⟩ | exact ⟨rfl, Nat.le_refl _⟩) (by decide)).2, .tup (SqT.of (wo_at t1 nb1)) (.cons (.str _) (.cons (.int _) .nil))⟩
        | 1, hx =>
          have ex : V.ref T2 = x := Option.some.inj hx
          subst ex
          exact ⟨.list [.str mark, .int ((0 : Int) + i)], (sh_seq (k := 0) (by intro d hd; simp at hd; rcases hd with rfl | rfl <;> first | exact ⟨hs1, Nat.le_refl _⟩ | exact ⟨rfl, Nat.le_refl _⟩) (by decide)).1, .lst (SqL.of (wo_at t2 nb2)) (.cons (.str _) (.cons (.int _) .nil))⟩
        | 2, hx =>
          have ex : V.str (mark ++ Str.ofString (toString ((0 : Int) + i))) = x := Option.some.inj hx
          subst ex
          exact ⟨.str (mark ++ Str.ofString (toString ((0 : Int) + i))), ⟨strOk_app _ _ hok (strOk_of _), Nat.zero_le _⟩, .str _⟩
        | 3, hx =>
          have ex : V.ref T3 = x := Option.some.inj hx
          subst ex
          exact ⟨.tuple [.int ((0 : Int) + i), .none, .bool true, .str mark], (sh_seq (k := 0) (by intro d hd; simp at hd; rcases hd with rfl | rfl | rfl | rfl <;> first | exact ⟨hs1, Nat.le_refl _⟩ | exact ⟨rfl, Nat.le_refl _⟩) (by decide)).2, .tup (SqT.of (wo_at t3 nb3)) (.cons (.int _) (.cons .non (.cons (.bl _) (.cons (.str _) .nil))))⟩
        | j + 4, hx => simp at hx
      obtain ⟨d, hd1, hd2⟩ := key
      have w2 := wo_mono (bs := [b, p]) (H' := upd (upd (upd (upd (upd (upd H' T1 (.tup [.str mark, .int ((0 : Int) + i)])) T2 (.lst [.str mark, .int ((0 : Int) + i)])) T3 (.tup [.int ((0 : Int) + i), .non, .bl true, .str mark])) T4 (.lst [.ref T1, .ref T2, .str (mark ++ Str.ofString (toString ((0 : Int) + i))), .ref T3])) b (.lst l2)) p (.lst (xs ++ [x])))
        (fun c o (e : (upd (upd (upd (upd H' T1 (.tup [.str mark, .int ((0 : Int) + i)])) T2 (.lst [.str mark, .int ((0 : Int) + i)])) T3 (.tup [.int ((0 : Int) + i), .non, .bl true, .str mark])) T4 (.lst [.ref T1, .ref T2, .str (mark ++ Str.ofString (toString ((0 : Int) + i))), .ref T3])) c = some o) hc => by
          have h1 : c ≠ p := fun z => hc (by simp [z])
          have h2 : c ≠ b := fun z => hc (by simp [z])
          rw [upd_ne h1, upd_ne h2]
          exact e)
      refine ⟨_, l2, xs ++ [x], ds ++ [d], rfl, fun c o e hc => ?_, ?_, hl2, upd_same, by rw [List.length_append, hlen]; rfl, SB.DpAll.snoc (DpAll.mono ((wo_mono fun c o e _ => b4 c o e).trans w2) hd) (Dp.mono w2 hd2), fun e he => ?_⟩
      · rw [upd_ne (ne_of_none e hp), upd_ne hc]
        exact b4 c o (kp c o e hc)
      · rw [upd_ne nbp]
        exact upd_same
      · rcases List.mem_append.mp he with he | he
        · exact hsh e he
        · have : e = d := by simpa using he
          rw [this]; exact hd1
    · rintro σ H' ⟨v5, l', xs, ds, rfl, kp, hb', hl', hp', hlen, hd, hsh⟩
      walk_at "rd"
      exact k H' p l' xs ds kp hb' hl' hp hp' hlen hd hsh
theorem sc_back : FnScope ["_law_takes", "_law_places_here", "_law_found", "_law_index", "_law_at", "_law_place"] ["_law_takes", "_law_places_here"] (defScope s_back) := ⟨rfl, rfl, rfl, by decide +kernel, rfl, by decide +kernel, by decide +kernel⟩
theorem ok_back {f : Addr} {fd : FuncData} (F : Fun K "_law_back" "_law_back" s_back f fd) (T : Blt mg) : FnR P w K mg base CX0 1 f (spBack K) := by
  refine fnr F sc_back (fun vs H Q E h => ?_) (fun _ _ _ _ _ _ us hl => match us, hl with | [_, _], _ => rfl) (fun cdv A outer s H vs Q E hr h => ?_)
  · obtain ⟨t, pl, ps, rfl, _⟩ := h
    rfl
  · obtain ⟨t, pl, ps, rfl, hpl, ok, ht, hz, k⟩ := h
    refine ⟨_, (pss_cons (ps_set (i := 2) sc_back.nd rfl (Or.inl rfl) (pe_lst pa_nil))
      (pss_cons (ps_for PassesOwn.never rfl (pi_range1 (by rfl) T.n_range (pa_cons (pv 0) pa_nil)) (pg_name (i := 3) sc_back.nd rfl (Or.inl rfl))
        (pss_cons (ps_expr (pe_bm PySem.F.plainAttrs_list PySem.F.slot_list_append PySem.F.type_list_append mt_append (pv 2) (pa_cons (pe_un un_neg pe_int) pa_nil)))
        (pss_one (ps_for PassesOwn.never rfl (pi_enum (by rfl) T.n_enumerate (pa_cons (pv 1) pa_nil)) (pg_tup rfl (pgs_cons (pg_name (i := 4) sc_back.nd rfl (Or.inl rfl)) (pgs_cons (pg_name (i := 5) sc_back.nd rfl (Or.inl rfl)) pgs_nil)))
          (pss_one (ps_if (pt_cmpR op_eq (pv 5) (pv 3) (nomark _)) (pss_one (ps_asg (pv 4) (pg_sub (pv 2) (pv 3) set_list))) pss_nil))))))
      (pss_one (ps_ret (pv 2))))), ?_⟩
    refine ⟨(by show 0 ≤ sizeLine; decide), fun p hp => ?_⟩
    have s1 : Same H (upd H p (.lst [])) := same_new (Same.refl H) hp
    walk_at "rd"
    refine ⟨by omega, by omega, ?_⟩
    rw [Int.toNat_natCast]
    refine for_it walk_range (fun i σ H' => ∃ (v3 v4 v5 : Option V), σ = [some (.int (t : Int)), some (.ref pl), some (.ref p), v3, v4, v5] ∧ Same H H' ∧ H' p = some (.lst ((invM i ps).map V.int))) ?_ (fun _ _ _ _ _ => trivial) ?_ ?_
    · exact ⟨none, none, none, rfl, s1, upd_same⟩
    · rintro i x σ H0 H' hi ⟨v3, v4, v5, rfl, sm, hp'⟩ ⟨rfl, rfl⟩
      walk_at "rd"
      refine ⟨.inl ⟨rfl, _, SqL.of hp'⟩, ?_⟩
      walk_at "rd"
      refine ⟨p, _, _, rfl, rfl, hp', ?_, ?_⟩
      · rw [List.length_map, invM_length]
        exact lt_line (by omega)
      have kH : ∀ c o, H c = some o → (upd H' p (.lst ((invM i ps).map V.int ++ [.int (-1)]))) c = some o := fun c o e => by
        rw [upd_ne (ne_of_none e hp)]
        exact sm c o e
      walk_at "rd"
      refine ⟨pl, _, rfl, L2.Same.seq kH hpl, ?_⟩
      refine for_it (walk_enum (xs := ps.map V.int)) (fun j σ H2 => ∃ (v4 v5 : Option V), σ = [some (.int (t : Int)), some (.ref pl), some (.ref p), some (.int ((0 : Int) + i)), v4, v5] ∧ Same H H2 ∧ H2 p = some (.lst ((invM i ps ++ [posM (ps.take j) (i : Int)]).map V.int))) ?_ ?_ ?_ ?_
      · refine ⟨_, _, rfl, kH, ?_⟩
        rw [upd_same, List.map_append]
        rfl
      · rintro j σ H2 _ ⟨_, _, _, s2, _⟩
        exact L2.Same.seq s2 hpl
      · rintro j x' σ H2 H3 hj ⟨v4, v5, rfl, s2, hp2⟩ ⟨T', x0, y0, rfl, hT, rfl, e0, ey⟩
        cases e0
        have hj' : j < ps.length := by simpa using hj
        have epj : ps[j]? = some ps[j] := List.getElem?_eq_getElem hj'
        have ey' : y0 = .int ps[j] := by
          have q : (ps.map V.int)[j]? = some y0 := ey
          rw [List.getElem?_map, epj] at q
          exact (Option.some.inj q).symm
        subst ey'
        have npT : p ≠ T' := ne_of_none hp2 hT
        have hp3 : (upd H2 T' (.tup [.int (j : Nat), .int ps[j]])) p = some (.lst ((invM i ps ++ [posM (ps.take j) (i : Int)]).map V.int)) := by rw [upd_ne npT]; exact hp2
        have s3 := same_new (o := .tup [.int (j : Nat), .int ps[j]]) s2 hT
        have tk : ps.take (j + 1) = ps.take j ++ [ps[j]] := by rw [List.take_append_getElem hj']
        refine ⟨T', _, rfl, SqT.of upd_same, rfl, ?_⟩
        walk_at "rd"
        refine ite2 (fun c => ?_) (fun c => ?_)
        · have e1 : ps[j] = (i : Int) := by
            have := V.int.inj (of_decide_eq_true c)
            omega
          walk_at "rd"
          refine ⟨p, _, _, i, rfl, rfl, hp3, ?_, ?_⟩
          · rw [List.length_map, List.length_append, invM_length, Int.zero_add]
            exact ixN_nat (by rw [List.length_singleton]; omega)
          refine ⟨_, _, rfl, fun c o e => ?_, ?_⟩
          · rw [upd_ne (ne_of_none e hp)]
            exact s3 c o e
          · rw [upd_same, List.map_append]
            have el : ((invM i ps).map V.int).length = i := by rw [List.length_map, invM_length]
            have := set_last ((invM i ps).map V.int) (V.int (posM (ps.take j) (i : Int))) (V.int (j : Nat))
            rw [el] at this
            show some (HO.lst (((invM i ps).map V.int ++ [V.int (posM (ps.take j) (i : Int))]).set i (V.int (j : Nat)))) = _
            rw [this, tk, posM_snoc_new ok epj (by omega) e1.symm, List.map_append]
            rfl
        · have e1 : (i : Int) ≠ ps[j] := fun z => c (decide_eq_true (by rw [← z]; simp))
          refine ⟨_, _, rfl, s3, ?_⟩
          rw [hp3, tk, posM_snoc_old e1]
      · rintro σ H2 ⟨v4, v5, rfl, s2, hp2⟩
        rw [List.length_map, List.take_length, ← invM_succ] at hp2
        exact ⟨_, _, _, rfl, s2, hp2⟩
    · rintro σ H' ⟨v3, v4, v5, rfl, sm, hp'⟩
      walk_at "rd"
      exact k H' p sm hp hp'
end
end MV

namespace MV
open PySem PySem.Spec PyProof.Rows L2 SB MM
local macro_rules | `(tactic| walk_at "rd") => `(tactic| repeat (first | (refine ⟨_, rfl, ?_⟩) | (refine ⟨_, _, rfl, rfl, ?_⟩) | (refine ⟨_, _, rfl, ?_⟩) | (refine ⟨rfl, ?_⟩)))
abbrev s_right : Stmt := top 18
theorem dpAll_apply {K : PySem.W.Frag} {H : Hp} : ∀ (ps : List Int) {xs ys : List V} {ds es : List PyData}, DpAll K H xs ds → DpAll K H ys es → DpAll K H (applyM ps xs ys) (applyM ps ds es)
  | [], _, _, _, _, _, _ => .nil
  | p :: ps, xs, ys, ds, es, h1, h2 => by
    unfold applyM
    by_cases c : p < 0
    · rw [if_pos c, if_pos c]
      cases h2 with
      | nil => exact dpAll_apply ps h1 .nil
      | cons a b => exact .cons a (dpAll_apply ps h1 b)
    · rw [if_neg c, if_neg c]
      cases e : xs[p.toNat]? with
      | none =>
        have e2 : ds[p.toNat]? = none := by
          have hl := SB.DpAll.length h1
          exact List.getElem?_eq_none_iff.mpr (by rw [← hl]; exact List.getElem?_eq_none_iff.mp e)
        rw [e2]
        exact dpAll_apply ps h1 h2
      | some x =>
        obtain ⟨d, hd, hx⟩ := SB.DpAll.get h1 e
        rw [hd]
        exact .cons hx (dpAll_apply ps h1 h2)
def spRight (K : PySem.W.Frag) : Sp := fun vs H Q _ => ∃ (b pl rl : Addr) (t : Nat) (ps qs : List Int) (l : List V) (n : Nat), vs = [.ref b, .int (t : Int), .ref pl, .ref rl] ∧ H b = some (.lst l) ∧ BagL l n ∧ n + t + 1 < 1000000 ∧ t ≤ 1000 ∧
  H pl = some (.lst (ps.map V.int)) ∧ pl ≠ b ∧ MoveOk t ps ∧ ps.length ≤ 1000 ∧ H rl = some (.lst (qs.map V.int)) ∧ rl ≠ b ∧ MoveOk ps.length qs ∧ qs.length ≤ 1000 ∧
  ∀ (H' : Hp) (l' : List V), KeepB b H H' → H' b = some (.lst l') → BagL l' (n + t) → Q (.bl true) H'
section
variable {P : Program} {w : World} {K : PySem.W.Frag} {mg : Str → Option Value} {base : Heap} {C : Addr}
theorem sc_right : FnScope ["_law_bag_here", "_law_takes", "_law_places_here", "_law_rest", "_law_move", "_law_other", "_law_back_here", "_law_values_here", "_law_there", "_law_lost", "_law_index", "_law_again", "_law_due"] ["_law_bag_here", "_law_takes", "_law_places_here", "_law_rest"] (defScope s_right) := ⟨rfl, rfl, rfl, by decide +kernel, rfl, by decide +kernel, by decide +kernel⟩
theorem ok_right {f : Addr} {fd : FuncData} (F : Fun K "_law_right" "_law_right" s_right f fd) (T : TxtM K mg C) (MMove : Ml P w K mg base CX0 1 "Move" C (spInit K C)) (MEinvert : Me P w K mg base CX0 3 C "__invert__" (spInv K C))
    (MEmul : Me P w K mg base CX0 3 C "__mul__" (spMul K C)) (MEeq : Me P w K mg base CX0 1 C "__eq__" (spEq K C)) (PRgaps : Pr P w K mg base CX0 1 C "gaps" (spGaps K C)) (CA2 : Ca P w K mg base CX0 3 C (spCall K C))
    (Dback : Cl P w K mg base CX0 1 "_law_back" (spBack K)) (Dvalues : Cl P w K mg base CX0 3 "_law_values" (spValues K)) : FnR P w K mg base CX0 4 f (spRight K) := by
  refine fnr F sc_right (fun vs H Q E h => ?_) (fun _ _ _ _ _ _ us hl => match us, hl with | [_, _, _, _], _ => rfl) (fun cdv A outer s H vs Q E hr h => ?_)
  · obtain ⟨b, pl, rl, t, ps, qs, l, n, rfl, _⟩ := h
    rfl
  · obtain ⟨b, pl, rl, t, ps, qs, l, n, rfl, hb, hl, hn, ht, hpl, npb, o1, hz1, hrl, nrb, o2, hz2, k⟩ := h
    refine ⟨_, (pss_cons (ps_par (i := 4) (j := 5) (by rfl) sc_right.nd rfl rfl (by decide) rfl rfl (pa_cons (pe_ml MMove hr (by decide) (by rfl) pass0 (pa_cons (pv 1) (pa_cons (pv 2) pa_nil))) (pa_cons (pe_ml MMove hr (by decide) (by rfl) pass0 (pa_cons (pe_callB call_len_seq (by rfl) T.n_len (by decide +kernel) (pa_cons (pv 2) pa_nil)) (pa_cons (pv 3) pa_nil))) pa_nil)) (by rfl))
      (pss_cons (ps_set (i := 6) sc_right.nd rfl (Or.inl rfl) (pe_un (un_ownInv MEinvert hr (by decide) pass0) (pv 4)))
      (pss_cons (ps_if (PW.pt (pw_or (pt_not (pt_val (pe_callB (C8.call_isC T.is_Move) (by rfl) T.n_isinstance (by decide +kernel) (pa_cons (pv 6) (pa_cons (pe_glob (v := .ref C) (by rfl) T.g_Move rfl) pa_nil))))) (pw_or (pt_cmpR op_ne (pe_fld (pv 6) (by rfl)) (pe_callB call_len_seq (by rfl) T.n_len (by decide +kernel) (pa_cons (pv 2) pa_nil)) (nomark _)) (pw_or1 (pt_cmpR (op_neD hr.units) (pe_callTy call_list_of (by rfl) T.n_list (by decide +kernel) (pa_cons (pe_fld (pv 6) (by rfl)) pa_nil)) (pe_cl Dback hr (by decide) (by rfl) pass0 (pa_cons (pv 1) (pa_cons (pv 2) pa_nil))) (nomark _)))))) (pss_one (ps_ret pe_bl)) pss_nil)
      (pss_cons (ps_if (PW.pt (pw_or (pt_not (pt_cmpR (op_ownEq MEeq T.nf_Move hr (by decide) pass0) (pe_un (un_ownInv MEinvert hr (by decide) pass0) (pv 6)) (pv 4) (nomark _))) (pw_or (pt_not (pt_cmpR (op_ownEq MEeq T.nf_Move hr (by decide) pass0) (pe_un (un_ownInv MEinvert hr (by decide) pass0) (pe_op (op_own2 MEmul rfl T.sf_Move hr (by decide) pass0) (pv 4) (pv 5))) (pe_op (op_own2 MEmul rfl T.sf_Move hr (by decide) pass0) (pe_un (un_ownInv MEinvert hr (by decide) pass0) (pv 5)) (pe_un (un_ownInv MEinvert hr (by decide) pass0) (pv 4))) (nomark _))) (pw_or1 (pt_not (pt_cmpR (op_ownEq MEeq T.nf_Move hr (by decide) pass0) (pe_op (op_own2 MEmul rfl T.sf_Move hr (by decide) pass0) (pe_op (op_own2 MEmul rfl T.sf_Move hr (by decide) pass0) (pv 4) (pv 6)) (pv 4)) (pv 4) (nomark _))))))) (pss_one (ps_ret pe_bl)) pss_nil)
      (pss_cons (ps_set (i := 7) sc_right.nd rfl (Or.inr rfl) (pe_cl Dvalues hr (by decide) (by rfl) pass0 (pa_cons (pv 0) (pa_cons (pv 1) (pa_cons pe_str pa_nil)))))
      (pss_cons (ps_set (i := 8) sc_right.nd rfl (Or.inl rfl) (pe_ca (pv 4) CA2 hr (by decide) pass0 (pa_cons (pv 7) (pa_cons (pe_op op_rep (pe_lst (pa_cons pe_str pa_nil)) (pe_pr PRgaps hr (by decide) pass0 (pv 4))) pa_nil))))
      (pss_cons (ps_set (i := 9) sc_right.nd rfl (Or.inr rfl) (pe_lc (own := [("_law_index", 10)]) (by rfl) sc_right.nd (pi_range1 (by rfl) T.n_range (pa_cons (pv 1) pa_nil)) (blkOk_by (own := [("_law_index", 10)]) (N := ["_law_bag_here", "_law_takes", "_law_places_here", "_law_rest", "_law_move", "_law_other", "_law_back_here", "_law_values_here", "_law_there", "_law_lost", "_law_index", "_law_again", "_law_due"]) (sc := defScope s_right) (by decide +kernel)) (fun _ _ _ _ _ => (pg_name (i := 10) sc_right.nd rfl (Or.inl rfl))) (fun _ _ _ _ _ => by exact (pts_one (pt_cmpR (op_notIn_seqK (K := K) (by rfl)) (pv 10) (pv 2) (by rfl)))) (fun _ _ _ _ _ => by exact (pv 10))))
      (pss_cons (ps_set (i := 11) sc_right.nd rfl (Or.inl rfl) (pe_ca (pv 6) CA2 hr (by decide) pass0 (pa_cons (pv 8) (pa_cons (pe_lc (own := [("_law_index", 10)]) (by rfl) sc_right.nd (pi_list (pv 9)) (blkOk_by (own := [("_law_index", 10)]) (N := ["_law_bag_here", "_law_takes", "_law_places_here", "_law_rest", "_law_move", "_law_other", "_law_back_here", "_law_values_here", "_law_there", "_law_lost", "_law_index", "_law_again", "_law_due"]) (sc := defScope s_right) (by decide +kernel)) (fun _ _ _ _ _ => (pg_name (i := 10) sc_right.nd rfl (Or.inl rfl))) (fun _ _ _ _ _ => by exact pts_nil) (fun _ _ _ _ _ => by exact (pe_tup (pa_cons pe_str (pa_cons (pv 10) pa_nil))))) pa_nil))))
      (pss_cons (ps_setLc (i := 12) (own := [("_law_index", 10)]) (by rfl) sc_right.nd rfl rfl (sw_true rfl rfl rfl (by decide +kernel)) (pi_range1 (by rfl) T.n_range (pa_cons (pv 1) pa_nil)) (blkOk_by (own := [("_law_index", 10)]) (N := ["_law_bag_here", "_law_takes", "_law_places_here", "_law_rest", "_law_move", "_law_other", "_law_back_here", "_law_values_here", "_law_there", "_law_lost", "_law_index", "_law_again", "_law_due"]) (sc := defScope s_right) (by decide +kernel)) (fun _ _ _ _ _ => (pg_name (i := 10) sc_right.nd rfl (Or.inl rfl))) (fun _ _ _ _ _ => by exact pts_nil) (fun _ _ _ _ _ => by exact (pe_ifExp (pt_cmpR (op_in_seqK (K := K) (by rfl)) (pv 10) (pv 9) (by rfl)) (pe_tup (pa_cons pe_str (pa_cons (pv 10) pa_nil))) (pe_ix (ix_listK (K := K) (by rfl)) (pv 7) (pv 10) (fun _ _ => rfl)))))
      (pss_one (ps_ret (pe_and (pe_cmpR (op_eqD hr.units) (pv 11) (pv 12) (nomark _)) (pe_one (pe_cmpR (op_eqD hr.units) (pe_callTy call_list_of (by rfl) T.n_list (by decide +kernel) (pa_cons (pe_fld (pv 4) (by rfl)) pa_nil)) (pv 2) (nomark _))))))))))))))), ?_⟩
    -- _law_move, _law_other
    walk_at "rd"
    refine fun a1 _ n1 nd1 _ => mk_move2 n1 nd1 (.inl (SqL.of hpl)) o1 (by omega) fun H1 s1 m1 => ⟨rfl, ?_⟩
    walk_at "rd"
    refine ⟨pl, _, rfl, .inl (SqL.of (s1 _ _ hpl)), ?_⟩
    rw [List.length_map]
    walk_at "rd"
    refine fun a2 _ n2 nd2 _ => mk_move2 n2 nd2 (.inl (SqL.of (s1 _ _ hrl))) o2 (by omega) fun H2 s2 m2 => ⟨rfl, ?_⟩
    have m1' := m1.same s2
    -- _law_back_here
    walk_at "rd"
    obtain ⟨d1, q1, h1, hq1⟩ := id m1'
    refine ⟨a1, d1, _, rfl, h1, a1, t, ps, rfl, m1', o1, by omega, by omega, fun H3 a3 s3 n3 m3 => ?_⟩
    have m1'' := m1'.same s3
    have m2' := m2.same s3
    have s13 : Same H H3 := (s1.trans s2).trans s3
    obtain ⟨d3, q3, h3, hq3⟩ := id m3
    -- if not isinstance(..) or ..
    walk_at "rd"
    refine ⟨a3, d3, _, rfl, h3, ?_⟩
    walk_at "rd"
    refine ⟨a3, C, d3, _, _, rfl, h3, T.cl, T.nt, mfs_takes _ _, ?_⟩
    walk_at "rd"
    refine ⟨pl, _, rfl, .inl (SqL.of (s13 _ _ hpl)), ?_⟩
    rw [List.length_map]
    walk_at "rd"
    refine iteNS rfl ?_
    walk_at "rd"
    refine ⟨a3, C, d3, _, _, rfl, h3, T.cl, T.np, mfs_places _ _, ?_⟩
    refine ⟨q3, _, rfl, .inr hq3, fun L1 hL1 => ?_⟩
    have s4 := same_new (o := .lst ((invM t ps).map V.int)) (Same.refl H3) hL1
    walk_at "rd"
    refine ⟨t, pl, ps, rfl, SqL.of (s4 _ _ (s13 _ _ hpl)), o1, by omega, by omega, fun H5 p5 s5 n5 hp5 => ?_⟩
    refine ⟨_, _, dp_ints (SqL.of (s5 _ _ upd_same)), dp_ints (SqL.of hp5), shaped_list (sh_ints _), shaped_list (sh_ints _), ?_⟩
    walk_at "rd"
    refine ifNT (by rw [eqv_list, eqvAll_ints]; simp) ?_
    have s15 : Same H H5 := (s13.trans s4).trans s5
    have s35 : Same H3 H5 := s4.trans s5
    have M1 := m1''.same s35
    have M2 := m2'.same s35
    have M3 := m3.same s35
    obtain ⟨e1, g1, f1, fq1⟩ := id M1
    obtain ⟨e2, g2, f2, fq2⟩ := id M2
    obtain ⟨e3, g3, f3, fq3⟩ := id M3
    -- if not ~back == move or ..
    walk_at "rd"
    refine ⟨a3, e3, _, rfl, f3, a3, ps.length, invM t ps, rfl, M3, invM_ok o1, by rw [invM_length]; omega, by omega, fun H6 a6 s6 n6 m6 => ?_⟩
    rw [invM_length, inv_inv o1] at m6
    walk_at "rd"
    obtain ⟨_, _, z1, _⟩ := id m6
    obtain ⟨_, _, z2, _⟩ := id (M1.same s6)
    refine ⟨a6, _, _, a1, _, _, rfl, rfl, z1, z2, a6, a1, t, t, ps, ps, rfl, m6, M1.same s6, ?_⟩
    walk_at "rd"
    refine iteNS ⟨rfl, rfl⟩ ?_
    have N1 := M1.same s6
    have N2 := M2.same s6
    have N3 := M3.same s6
    walk_at "rd"
    obtain ⟨_, _, z3, _⟩ := id N1
    obtain ⟨_, _, z4, _⟩ := id N2
    refine ⟨a1, _, _, a2, _, _, rfl, rfl, z3, z4, a1, a2, t, ps, qs, rfl, N1, N2, o1, o2, by omega, fun H7 a7 s7 n7 m7 => ?_⟩
    obtain ⟨_, _, z5, _⟩ := id m7
    refine ⟨a7, _, _, rfl, z5, a7, t, prodM ps qs, rfl, m7, prod_ok o1 o2, by rw [prodM_length]; omega, by omega, fun H8 a8 s8 n8 m8 => ?_⟩
    have N1' := (N1.same s7).same s8
    have N2' := (N2.same s7).same s8
    walk_at "rd"
    obtain ⟨_, _, z6, _⟩ := id N2'
    refine ⟨a2, _, _, rfl, z6, a2, ps.length, qs, rfl, N2', o2, by omega, by omega, fun H9 a9 s9 n9 m9 => ?_⟩
    walk_at "rd"
    have N1'' := N1'.same s9
    obtain ⟨_, _, z7, _⟩ := id N1''
    refine ⟨a1, _, _, rfl, z7, a1, t, ps, rfl, N1'', o1, by omega, by omega, fun HA aA sA nA mA => ?_⟩
    have m9' := m9.same sA
    obtain ⟨_, _, z8, _⟩ := id m9'
    obtain ⟨_, _, z9, _⟩ := id mA
    have o3 : MoveOk (invM ps.length qs).length (invM t ps) := by rw [invM_length]; exact invM_ok o1
    have mA' : MoveAt K C HA aA (invM ps.length qs).length (invM t ps) := by rw [invM_length]; exact mA
    refine ⟨a9, _, _, aA, _, _, rfl, rfl, z8, z9, a9, aA, qs.length, invM ps.length qs, invM t ps, rfl, m9', mA', invM_ok o2, o3, by rw [invM_length]; omega, fun HB aB sB nB mB => ?_⟩
    rw [prodM_length] at m8
    have m8' := ((m8.same s9).same sA).same sB
    obtain ⟨_, _, y1, _⟩ := id m8'
    obtain ⟨_, _, y2, _⟩ := id mB
    refine ⟨a8, _, _, aB, _, _, rfl, rfl, y1, y2, a8, aB, _, _, _, _, rfl, m8', mB, ?_⟩
    walk_at "rd"
    refine iteNS ⟨rfl, inv_prod o1 o2⟩ ?_
    have s6B : Same H6 HB := (((s7.trans s8).trans s9).trans sA).trans sB
    have K1 := N1.same s6B
    have K2 := N2.same s6B
    have K3 := N3.same s6B
    walk_at "rd"
    obtain ⟨_, _, y3, _⟩ := id K1
    obtain ⟨_, _, y4, _⟩ := id K3
    refine ⟨a1, _, _, a3, _, _, rfl, rfl, y3, y4, a1, a3, t, ps, invM t ps, rfl, K1, K3, o1, invM_ok o1, by rw [invM_length]; omega, fun HC aC sC nC mC => ?_⟩
    walk_at "rd"
    have K1' := K1.same sC
    obtain ⟨_, _, y5, _⟩ := id mC
    obtain ⟨_, _, y6, _⟩ := id K1'
    have o4 : MoveOk (prodM ps (invM t ps)).length ps := by rw [prodM_length, invM_length]; exact o1
    have K1c : MoveAt K C HC a1 (prodM ps (invM t ps)).length ps := by rw [prodM_length, invM_length]; exact K1'
    refine ⟨aC, _, _, a1, _, _, rfl, rfl, y5, y6, aC, a1, t, prodM ps (invM t ps), ps, rfl, mC, K1c, prod_ok o1 (invM_ok o1), o4, by omega, fun HD aD sD nD mD => ?_⟩
    rw [prod_back o1] at mD
    walk_at "rd"
    have K1d := K1'.same sD
    obtain ⟨_, _, y7, _⟩ := id mD
    obtain ⟨_, _, y8, _⟩ := id K1d
    refine ⟨aD, _, _, a1, _, _, rfl, rfl, y7, y8, aD, a1, t, t, ps, ps, rfl, mD, K1d, ?_⟩
    walk_at "rd"
    refine iteNS ⟨rfl, rfl⟩ ?_
    have sHD : Same H HD := ((s15.trans s6).trans s6B).trans (sC.trans sD)
    have K3d := (K3.same sC).same sD
    -- _law_values_here
    walk_at "rd"
    refine ⟨b, t, _, l, n, rfl, sHD _ _ hb, hl, by omega, by omega, strOk_of _, (by show 3 ≤ 100; decide), fun HE pE lE xs ds kE hbE hlE nE hpE hxl hds hsh => ?_⟩
    have L1 := K1d.keep (sHD _ _ hb) kE
    have L3 := K3d.keep (sHD _ _ hb) kE
    obtain ⟨d1', g1', f1', fq1'⟩ := id L1
    obtain ⟨d3', g3', f3', fq3'⟩ := id L3
    have hplE : HE pl = some (.lst (ps.map V.int)) := kE _ _ (sHD _ _ hpl) npb
    have hdsE : DpAll K HE xs ds := DpAll.mono wo_same hds
    -- _law_there = _law_move(values, ["gap"] * gaps)
    walk_at "rd"
    refine ⟨(by show 1 ≤ sizeLine; decide), fun L2 hL2 => ?_⟩
    have sF := same_new (o := .lst [.str "gap"]) (Same.refl HE) hL2
    walk_at "rd"
    refine ⟨a1, _, _, rfl, sF _ _ f1', a1, t, ps, rfl, L1.same sF, by omega, fun HF s7' => ?_⟩
    have hgl : gapsM ps ≤ ps.length := List.length_filter_le _ _
    refine ⟨L2, _, _, rfl, rfl, s7' _ _ upd_same, by omega, by omega, ?_, fun L3' hL3 => ?_⟩
    · rw [Int.toNat_natCast, List.length_singleton, Nat.one_mul]
      exact le_line (by omega)
    rw [Int.toNat_natCast, flat_rep]
    have sG := same_new (o := .lst (List.replicate (gapsM ps) (.str "gap"))) (sF.trans s7') hL3
    have G1 := L1.same sG
    obtain ⟨_, _, w1, _⟩ := id G1
    refine ⟨.inr ⟨_, _, w1⟩, a1, pE, L3', t, ps, xs, _, rfl, G1, o1, by omega, .inl (SqL.of (sG _ _ hpE)), .inl (SqL.of upd_same), hxl, List.length_replicate, fun HH pH sH nH hpH => ?_⟩
    have sEH : Same HE HH := sG.trans sH
    have hdH := DpAll.mono sEH hdsE
    have hthere : DpAll K HH (applyM ps xs (List.replicate (gapsM ps) (.str "gap"))) (applyM ps ds (List.replicate (gapsM ps) (.str "gap"))) := dpAll_apply ps hdH (dpAll_rep (.str _) _)
    -- _law_lost
    walk_at "rd"
    refine ⟨by omega, by omega, fun LL hLL => ?_⟩
    rw [Int.toNat_natCast]
    have sI := same_new (o := .lst []) (Same.refl HH) hLL
    refine lc_it walk_range (fun i H2 => KeepB LL (upd HH LL (.lst [])) H2 ∧ H2 LL = some (.lst (((stillM i).filter fun j => decide (j ∉ ps)).map V.int))) ⟨KeepB.refl _ _, upd_same⟩ (fun _ _ _ _ => trivial) ?_ ?_
    · rintro i x H0 HI hi ⟨kp, hL⟩ ⟨rfl, rfl⟩
      have hplI : HI pl = some (.lst (ps.map V.int)) := kp _ _ (sI _ _ (sEH _ _ hplE)) (ne_of_none (sEH _ _ hplE) hLL)
      have est : stillM (i + 1) = stillM i ++ [(i : Int)] := by
        unfold stillM
        rw [List.range_succ, List.map_append]
        rfl
      walk_at "rd"
      refine ⟨pl, _, rfl, .inl (SqL.of hplI), rfl, flat_ints _, ?_⟩
      rw [inV_ints]
      walk_at "rd"
      refine ite2 (fun c => ?_) (fun c => ?_)
      · have hn : (i : Int) ∉ ps := by
          have c' : (!decide ((0 : Int) + i ∈ ps)) = true := c
          rw [Int.zero_add] at c'
          simpa using c'
        walk_at "rd"
        refine ⟨_, hL, ?_, kp.upd, ?_⟩
        · rw [List.length_map]
          have := List.length_filter_le (fun j : Int => decide (j ∉ ps)) (stillM i)
          rw [stillM_length] at this
          exact lt_line (by omega)
        · rw [upd_same, est, List.filter_append, List.map_append]
          simp [hn]
      · have hn : (i : Int) ∈ ps := by
          by_cases z : (i : Int) ∈ ps
          · exact z
          · refine absurd ?_ c
            show (!decide ((0 : Int) + i ∈ ps)) = true
            rw [Int.zero_add]
            simp [z]
        refine ⟨kp, ?_⟩
        rw [hL, est, List.filter_append]
        simp [hn]
    · rintro HI ⟨kpI, hLI⟩
      have sHI : Same HH HI := fun c o e => kpI c o (sI c o e) (ne_of_none e hLL)
      have sEI := sEH.trans sHI
      -- _law_again = back(there, [("lost", index) ..])
      walk_at "rd"
      refine ⟨⟨_, SqL.of hLI⟩, fun LA hLA => ?_⟩
      have sJ := same_new (o := .lst []) (Same.refl HI) hLA
      refine lc_it (walk_list (xs := ((stillM t).filter fun j => decide (j ∉ ps)).map V.int)) (fun i H2 => KeepB LA (upd HI LA (.lst [])) H2 ∧ ∃ ys : List V, H2 LA = some (.lst ys) ∧ ys.length = i ∧
        DpAll K (Wo H2 [LA]) ys ((((stillM t).filter fun j => decide (j ∉ ps)).take i).map fun j => PyData.tuple [.str "lost", .int j])) ⟨KeepB.refl _ _, [], upd_same, rfl, .nil⟩ ?_ ?_ ?_
      · rintro i H2 _ ⟨kp, _⟩
        exact SqL.of (kp _ _ (sJ _ _ hLI) (ne_of_none hLI hLA))
      · rintro i x H0 H2 hi ⟨kp, ys, hL, hlen, hd⟩ ⟨rfl, hx⟩
        rw [List.length_map] at hi
        have epi := List.getElem?_eq_getElem hi
        have ex : x = .int (((stillM t).filter fun j => decide (j ∉ ps))[i]) := by
          rw [List.getElem?_map, epi] at hx
          exact (Option.some.inj hx).symm
        subst ex
        walk_at "rd"
        refine ⟨(by show 2 ≤ sizeLine; decide), fun TT hTT => ?_⟩
        have nTL : TT ≠ LA := (ne_of_none hL hTT).symm
        have hfl := List.length_filter_le (fun j : Int => decide (j ∉ ps)) (stillM t)
        rw [stillM_length] at hfl
        refine ⟨ys, by rw [upd_ne nTL.symm]; exact hL, lt_line (by omega), (kp.new hTT).upd, _, upd_same, by rw [List.length_append, hlen]; rfl, ?_⟩
        rw [List.take_succ_eq_append_getElem hi, List.map_append]
        refine SB.DpAll.snoc (DpAll.mono (wo_mono fun c o e hc => ?_) hd) (.tup (SqT.of (wo_at ?_ (by simp [nTL]))) (.cons (.str _) (.cons (.int _) .nil)))
        · have hc' : c ≠ LA := fun z => hc (by simp [z])
          rw [upd_ne hc', upd_ne (ne_of_none e hTT)]
          exact e
        · rw [upd_ne nTL]
          exact upd_same
      · rintro HJ ⟨kpJ, ys, hLJ, hlenJ, hdJ⟩
        rw [List.length_map] at hlenJ hdJ
        rw [List.take_length] at hdJ
        have sIJ : Same HI HJ := fun c o e => kpJ c o (sJ c o e) (ne_of_none e hLA)
        have sEJ := sEI.trans sIJ
        have hdJ' := DpAll.mono wo_same hdJ
        have J3 := L3.same sEJ
        obtain ⟨_, _, w3, _⟩ := id J3
        have eg : gapsM (invM t ps) = ((stillM t).filter fun j => decide (j ∉ ps)).length := by
          have e1 : invM t ps = (stillM t).map (posM ps) := by
            unfold invM stillM
            rw [List.map_map]
            rfl
          unfold gapsM
          rw [e1, List.filter_map, List.length_map]
          congr 1
          apply List.filter_congr
          intro i _
          show decide (posM ps i < 0) = _
          rcases posM_cases ps i with ⟨e, n⟩ | ⟨j, e, hj⟩
          · rw [e]; simp [n]
          · rw [e]
            have := List.mem_of_getElem? hj
            simp [this]
        refine ⟨.inr ⟨_, _, w3⟩, a3, pH, LA, ps.length, invM t ps, applyM ps xs (List.replicate (gapsM ps) (.str "gap")), ys, rfl, J3, invM_ok o1, by rw [invM_length]; omega, .inl (SqL.of (sIJ _ _ (sHI _ _ hpH))), .inl (SqL.of hLJ), ?_, by rw [hlenJ, eg], fun HK pK sK nK hpK => ?_⟩
        · exact apply_length ps xs _ (fun p hp => by
            have := o1.1 p hp
            by_cases c : p < 0
            · exact .inl c
            · exact .inr (by omega)) (by rw [List.length_replicate]; exact Nat.le_refl _)
        have sEK := sEJ.trans sK
        have hagain : DpAll K HK _ _ := dpAll_apply (invM t ps) (DpAll.mono ((sHI.trans sIJ).trans sK) hthere) (DpAll.mono sK hdJ')
        -- _law_due
        walk_at "rd"
        refine ⟨by omega, by omega, fun LD hLD => ?_⟩
        rw [Int.toNat_natCast]
        have sL := same_new (o := .lst []) (Same.refl HK) hLD
        have hLLK : HK LL = some (.lst (((stillM t).filter fun j => decide (j ∉ ps)).map V.int)) := sK _ _ (sIJ _ _ hLI)
        have hpEK : HK pE = some (.lst xs) := sEK _ _ hpE
        have hdK : DpAll K HK xs ds := DpAll.mono sEK hdsE
        have hdl : ds.length = t := by rw [← SB.DpAll.length hdK]; exact hxl
        refine lc_it walk_range (fun i H2 => KeepB LD (upd HK LD (.lst [])) H2 ∧ ∃ zs : List V, H2 LD = some (.lst zs) ∧ zs.length = i ∧
          DpAll K (Wo H2 [LD]) zs ((stillM i).map fun j => if j ∈ ps then ds.getD j.toNat .none else PyData.tuple [.str "lost", .int j])) ⟨KeepB.refl _ _, [], upd_same, rfl, .nil⟩ (fun _ _ _ _ => trivial) ?_ ?_
        · rintro i x H0 H2 hi ⟨kp, zs, hL, hlen, hd⟩ ⟨rfl, rfl⟩
          have hLL2 : H2 LL = some (.lst (((stillM t).filter fun j => decide (j ∉ ps)).map V.int)) := kp _ _ (sL _ _ hLLK) (ne_of_none hLLK hLD)
          have hpE2 : H2 pE = some (.lst xs) := kp _ _ (sL _ _ hpEK) (ne_of_none hpEK hLD)
          have est : stillM (i + 1) = stillM i ++ [(i : Int)] := by
            unfold stillM
            rw [List.range_succ, List.map_append]
            rfl
          have hmem : ((i : Int) ∈ (stillM t).filter fun j => decide (j ∉ ps)) ↔ (i : Int) ∉ ps := by
            rw [List.mem_filter]
            constructor
            · rintro ⟨_, h⟩
              simpa using h
            · intro h
              exact ⟨still_mem.mpr (by omega), by simpa using h⟩
          walk_at "rd"
          refine ⟨LL, _, rfl, .inl (SqL.of hLL2), rfl, flat_ints _, ?_⟩
          rw [inV_ints]
          walk_at "rd"
          refine ite2 (fun c => ?_) (fun c => ?_)
          · have hn : (i : Int) ∉ ps := by
              have c' : decide ((0 : Int) + i ∈ (stillM t).filter fun j => decide (j ∉ ps)) = true := c
              rw [Int.zero_add] at c'
              exact hmem.mp (of_decide_eq_true c')
            walk_at "rd"
            refine ⟨(by show 2 ≤ sizeLine; decide), fun TT hTT => ?_⟩
            have nTL : TT ≠ LD := (ne_of_none hL hTT).symm
            refine ⟨zs, by rw [upd_ne nTL.symm]; exact hL, lt_line (by omega), (kp.new hTT).upd, _, upd_same, by rw [List.length_append, hlen]; rfl, ?_⟩
            rw [est, List.map_append, List.map_cons, List.map_nil, if_neg hn]
            refine SB.DpAll.snoc (DpAll.mono (wo_mono fun c o e hc => ?_) hd) (.tup (xs := [.str "lost", .int ((0 : Int) + i)]) (SqT.of (wo_at ?_ (by simp [nTL]))) (.cons (.str _) (.cons ?_ .nil)))
            · have hc' : c ≠ LD := fun z => hc (by simp [z])
              rw [upd_ne hc', upd_ne (ne_of_none e hTT)]
              exact e
            · rw [upd_ne nTL]
              exact upd_same
            · rw [Int.zero_add]
              exact .int _
          · have hn : (i : Int) ∈ ps := by
              by_cases z : (i : Int) ∈ ps
              · exact z
              · refine absurd ?_ c
                show decide ((0 : Int) + i ∈ (stillM t).filter fun j => decide (j ∉ ps)) = true
                rw [Int.zero_add]
                exact decide_eq_true (hmem.mpr z)
            have hix : i < xs.length := by omega
            have hid : i < ds.length := by omega
            walk_at "rd"
            refine ⟨pE, xs, _, xs[i], rfl, rfl, SqL.of hpE2, at_of (j := i) (by omega) (List.getElem?_eq_getElem hix), ?_⟩
            refine ⟨zs, hL, lt_line (by omega), kp.upd, _, upd_same, by rw [List.length_append, hlen]; rfl, ?_⟩
            obtain ⟨d, hd1, hd2⟩ := SB.DpAll.get hdK (List.getElem?_eq_getElem hix)
            rw [est, List.map_append, List.map_cons, List.map_nil, if_pos hn, Int.toNat_natCast]
            have egd : ds.getD i .none = d := by simp [List.getD, hd1]
            rw [egd]
            refine SB.DpAll.snoc (DpAll.mono (wo_mono fun c o e hc => ?_) hd) (Dp.mono (fun c o e => ?_) hd2)
            · have hc' : c ≠ LD := fun z => hc (by simp [z])
              rw [upd_ne hc']
              exact e
            · have hc' : c ≠ LD := ne_of_none e hLD
              refine wo_at ?_ (by simp [hc'])
              rw [upd_ne hc']
              exact kp c o (sL c o e) hc'
        · rintro HL ⟨kpL, zs, hLL', hlenL, hdL⟩
          have sKL : Same HK HL := fun c o e => kpL c o (sL c o e) (ne_of_none e hLD)
          have hdue := DpAll.mono wo_same hdL
          have hagL := DpAll.mono sKL hagain
          have emath := undo_values o1 hdl (List.length_replicate (n := gapsM ps) (a := PyData.str "gap")) (fun j => PyData.tuple [.str "lost", .int j]) .none
          rw [emath] at hagL
          have shall : ∀ d ∈ (stillM t).map (fun j => if j ∈ ps then ds.getD j.toNat .none else PyData.tuple [.str "lost", .int j]), Sh d := by
            intro d hd
            obtain ⟨j, hj, rfl⟩ := List.mem_map.mp hd
            obtain ⟨j0, j1⟩ := still_mem.mp hj
            show Sh (if j ∈ ps then ds.getD j.toNat .none else PyData.tuple [.str "lost", .int j])
            by_cases c : j ∈ ps
            · rw [if_pos c]
              have hl : j.toNat < ds.length := by omega
              have e : ds.getD j.toNat .none = ds[j.toNat] := by simp [List.getD, List.getElem?_eq_getElem hl]
              rw [e]
              exact hsh _ (List.getElem_mem hl)
            · rw [if_neg c]
              exact (sh_seq (k := 0) (by intro d hd; simp at hd; rcases hd with rfl | rfl <;> first | exact ⟨strOk_of _, Nat.le_refl _⟩ | exact ⟨rfl, Nat.le_refl _⟩) (by decide)).2
          walk_at "rd"
          refine ⟨_, _, .lst (SqL.of (sKL _ _ hpK)) hagL, .lst (SqL.of hLL') hdue, shaped_list shall, shaped_list shall, ?_⟩
          rw [eqv_same shall]
          walk_at "rd"
          have sEL := sEK.trans sKL
          have F1 := L1.same sEL
          obtain ⟨_, gq, w5, wq⟩ := id F1
          refine ⟨a1, C, _, _, _, rfl, w5, T.cl, T.np, mfs_places _ _, ?_⟩
          refine ⟨gq, _, rfl, .inr wq, fun LZ hLZ => ?_⟩
          have sM := same_new (o := .lst (ps.map V.int)) (Same.refl HL) hLZ
          walk_at "rd"
          refine ⟨_, _, dp_ints (SqL.of upd_same), dp_ints (SqL.of (sM _ _ (sEL _ _ hplE))), shaped_list (sh_ints _), shaped_list (sh_ints _), ?_⟩
          rw [eqv_list, eqvAll_ints, decide_eq_true rfl]
          have sEM := sEL.trans sM
          exact k _ lE (fun c o e hc => sEM c o (kE c o (sHD c o e) hc)) (sEM _ _ hbE) hlE
end
end MV

namespace MV
open PySem PySem.Spec PyProof.Rows L2 SB MM
local macro_rules | `(tactic| walk_at "rd") => `(tactic| repeat (first | (refine ⟨_, rfl, ?_⟩) | (refine ⟨_, _, rfl, rfl, ?_⟩) | (refine ⟨_, _, rfl, ?_⟩) | (refine ⟨rfl, ?_⟩)))
abbrev s_law : Stmt := top 19
def spLaw (K : PySem.W.Frag) : Sp := fun vs H Q _ => ∃ (a : Addr) (ns : List Int), vs = [.ref a] ∧ SqL K H a (ns.map V.int) ∧ ns.length ≤ 63 ∧ ∀ H', Q (.bl true) H'
section
variable {P : Program} {w : World} {K : PySem.W.Frag} {mg : Str → Option Value} {base : Heap} {C : Addr}
theorem sc_law : FnScope ["_law_script", "_law_at", "_law_bag_here", "_law_takes", "_law_places_here", "_law_turn", "_law_move", "_law_left", "_law_order"] ["_law_script"] (defScope s_law) := ⟨rfl, rfl, rfl, by decide +kernel, rfl, by decide +kernel, by decide +kernel⟩
theorem ok_law {f : Addr} {fd : FuncData} (F : Fun K "law" "law" s_law f fd) (T : TxtM K mg C) (MMove : Ml P w K mg base CX0 1 "Move" C (spInit K C)) (MEinvert : Me P w K mg base CX0 3 C "__invert__" (spInv K C))
    (MEmul : Me P w K mg base CX0 3 C "__mul__" (spMul K C)) (MEeq : Me P w K mg base CX0 1 C "__eq__" (spEq K C)) (SMstill : Sm P w K mg base CX0 3 "Move" "still" (spStill K C))
    (Dbag : Cl P w K mg base CX0 1 "_law_bag" (spBag K)) (Dtake : Cl P w K mg base CX0 1 "_law_take" spTake) (Dcount : Cl P w K mg base CX0 2 "_law_count" spCount) (Dplaces : Cl P w K mg base CX0 2 "_law_places" spPlaces)
    (Dright : Cl P w K mg base CX0 4 "_law_right" (spRight K)) : FnOk P w K mg base CX0 5 f fd ["_law_script"] (spLaw K) := by
  refine F.ok sc_law (fun vs H Q E h => ?_) (fun cdv A outer s H vs Q E hr h => ?_)
  · obtain ⟨a, ns, rfl, _⟩ := h
    rfl
  · obtain ⟨a, ns, rfl, hS, hlen, k⟩ := h
    refine ⟨_, (pss_cons (ps_for PassesOwn.never rfl (pi_range1 (by rfl) T.n_range (pa_cons (pe_callB (call_max2 rfl) (by rfl) T.n_max (by decide +kernel) (pa_cons pe_int (pa_cons (pe_callB (call_min2 rfl) (by rfl) T.n_min (by decide +kernel) (pa_cons pe_int (pa_cons (pe_callB call_len_seq (by rfl) T.n_len (by decide +kernel) (pa_cons (pv 0) pa_nil)) pa_nil))) pa_nil))) pa_nil)) (pg_name (i := 1) sc_law.nd rfl (Or.inl rfl))
        (pss_cons (ps_set (i := 2) sc_law.nd rfl (Or.inl rfl) (pe_cl Dbag hr (by decide) (by rfl) pass0 (pa_cons (pv 0) (pa_cons (pv 1) pa_nil))))
        (pss_cons (ps_set (i := 3) sc_law.nd rfl (Or.inl rfl) (pe_cl Dcount hr (by decide) (by rfl) pass0 (pa_cons (pv 2) (pa_cons pe_int pa_nil))))
        (pss_cons (ps_set (i := 4) sc_law.nd rfl (Or.inl rfl) (pe_cl Dplaces hr (by decide) (by rfl) pass0 (pa_cons (pv 2) (pa_cons (pv 3) (pa_cons pe_int pa_nil)))))
        (pss_cons (ps_if (pt_not (pt_val (pe_cl Dright hr (by decide) (by rfl) pass0 (pa_cons (pv 2) (pa_cons (pv 3) (pa_cons (pv 4) (pa_cons (pe_cl Dplaces hr (by decide) (by rfl) pass0 (pa_cons (pv 2) (pa_cons (pe_callB call_len_seq (by rfl) T.n_len (by decide +kernel) (pa_cons (pv 4) pa_nil)) (pa_cons pe_int pa_nil)))) pa_nil))))))) (pss_one (ps_ret pe_bl)) pss_nil)
        (pss_cons (ps_par (i := 7) (j := 8) (by rfl) sc_law.nd rfl rfl (by decide) rfl rfl (pa_cons (pe_listRg rfl (by rfl) T.n_list (prg_1 (by rfl) T.n_range (pv 3))) (pa_cons (pe_lst pa_nil) pa_nil)) (by rfl))
        (pss_cons (ps_for PassesOwn.never rfl (pi_range1 (by rfl) T.n_range (pa_cons (pv 3) pa_nil)) (pg_name (i := 5) sc_law.nd rfl (Or.inl rfl))
          (pss_one (ps_expr (pe_bm PySem.F.plainAttrs_list PySem.F.slot_list_append PySem.F.type_list_append mt_append (pv 8) (pa_cons (pe_bm PySem.F.plainAttrs_list PySem.F.slot_list_pop PySem.F.type_list_pop mt_popAt (pv 7) (pa_cons (pe_cl Dtake hr (by decide) (by rfl) pass0 (pa_cons (pv 2) (pa_cons (pe_callB call_len_seq (by rfl) T.n_len (by decide +kernel) (pa_cons (pv 7) pa_nil)) pa_nil))) pa_nil)) pa_nil)))))
        (pss_cons (ps_set (i := 6) sc_law.nd rfl (Or.inl rfl) (pe_ml MMove hr (by decide) (by rfl) pass0 (pa_cons (pv 3) (pa_cons (pv 8) pa_nil))))
        (pss_one (ps_if (PW.pt (pw_or (pt_not (pt_cmpR (op_ownEq MEeq T.nf_Move hr (by decide) pass0) (pe_op (op_own2 MEmul rfl T.sf_Move hr (by decide) pass0) (pv 6) (pe_un (un_ownInv MEinvert hr (by decide) pass0) (pv 6))) (pe_sm SMstill hr (by decide) (by rfl) pass0 (pa_cons (pv 3) pa_nil)) (nomark _))) (pw_or1 (pt_not (pt_cmpR (op_ownEq MEeq T.nf_Move hr (by decide) pass0) (pe_op (op_own2 MEmul rfl T.sf_Move hr (by decide) pass0) (pe_un (un_ownInv MEinvert hr (by decide) pass0) (pv 6)) (pv 6)) (pe_sm SMstill hr (by decide) (by rfl) pass0 (pa_cons (pv 3) pa_nil)) (nomark _)))))) (pss_one (ps_ret pe_bl)) pss_nil))))))))))
      (pss_one (ps_ret pe_bl))), ?_⟩
    walk_at "rd"
    refine ⟨a, _, rfl, .inl hS, ?_⟩
    rw [List.length_map]
    walk_at "rd"
    have hm : ∃ m : Nat, (if (if (ns.length : Int) < 5 then (ns.length : Int) else 5) > 1 then (if (ns.length : Int) < 5 then (ns.length : Int) else 5) else 1) = (m : Int) ∧ m ≤ 5 := by
      by_cases c : (ns.length : Int) < 5
      · rw [if_pos c]
        by_cases c2 : (ns.length : Int) > 1
        · rw [if_pos c2]; exact ⟨ns.length, rfl, by omega⟩
        · rw [if_neg c2]; exact ⟨1, rfl, by omega⟩
      · rw [if_neg c]; exact ⟨5, rfl, by omega⟩
    obtain ⟨m, em, hm5⟩ := hm
    rw [em]
    refine ⟨by omega, by omega, ?_⟩
    rw [Int.toNat_natCast]
    refine for_it walk_range (fun i σ H' => ∃ v1 v2 v3 v4 v5 v6 v7 v8 : Option V, σ = [some (.ref a), v1, v2, v3, v4, v5, v6, v7, v8] ∧ Same H H') ⟨none, none, none, none, none, none, none, none, rfl, Same.refl H⟩ (fun _ _ _ _ _ => trivial) ?_ ?_
    · rintro i x σ H0 H' hi ⟨v1, v2, v3, v4, v5, v6, v7, v8, rfl, sm⟩ ⟨rfl, rfl⟩
      -- _law_bag_here, _law_takes
      walk_at "rd"
      refine ⟨a, ns, _, rfl, L2.Same.seq sm hS, by omega, by omega, by omega, fun b l nb hl => ?_⟩
      walk_at "rd"
      refine ⟨b, 50, l, 0, rfl, upd_same, hl, by omega, by omega, fun t l1 ht hl1 => ?_⟩
      rw [upd_upd]
      have s1 := same_new (o := .lst l1) sm nb
      have ht' : t ≤ 50 := by omega
      have nb0 : H b = none := sm.free nb
      -- _law_places_here
      walk_at "rd"
      refine ⟨b, t, 4, l1, 2, rfl, upd_same, hl1, by omega, by omega, by omega, fun H2 p2 l2 ps k2 hb2 hl2 n2 hp2 ok1 hz1 => ?_⟩
      have np2b : p2 ≠ b := (ne_of_none upd_same n2).symm
      have s2 : Same H H2 := fun c o e => k2 c o (s1 c o e) (ne_of_none e nb0)
      walk_at "rd"
      refine ⟨p2, _, rfl, .inl (SqL.of hp2), ?_⟩
      rw [List.length_map]
      walk_at "rd"
      refine ⟨b, ps.length, 4, l2, _, rfl, hb2, hl2, by omega, by omega, by omega, fun H3 p3 l3 qs k3 hb3 hl3 n3 hp3 ok2 hz2 => ?_⟩
      have np3b : p3 ≠ b := (ne_of_none hb2 n3).symm
      have s3 : Same H H3 := fun c o e => k3 c o (s2 c o e) (ne_of_none e nb0)
      refine ⟨b, p2, p3, t, ps, qs, l3, _, rfl, hb3, hl3, by omega, by omega, k3 _ _ hp2 np2b, np2b, ok1, by omega, hp3, np3b, ok2, by omega, fun H4 l4 k4 hb4 hl4 => ?_⟩
      have s4 : Same H H4 := fun c o e => k4 c o (s3 c o e) (ne_of_none e nb0)
      -- left, order
      walk_at "rd"
      refine ⟨RgOk.of_le (by omega) (by omega) (by omega) (by omega), fun lf hlf => ?_⟩
      refine ⟨(by show 0 ≤ sizeLine; decide), fun p hp => ?_⟩
      have e0 : rgV 0 (t : Int) = (stillM t).map V.int := by
        unfold rgV stillM
        simp
      rw [e0] at hp ⊢
      have nbf : b ≠ lf := ne_of_none hb4 hlf
      have hb5 : (upd H4 lf (.lst ((stillM t).map V.int))) b = some (.lst l4) := by rw [upd_ne nbf]; exact hb4
      have nbp : b ≠ p := ne_of_none hb5 hp
      have nfp : lf ≠ p := ne_of_none upd_same hp
      have np0 : H4 p = none := (same_new (Same.refl H4) hlf).free hp
      have np1 : H p = none := s4.free np0
      have nf1 : H lf = none := s4.free hlf
      walk_at "rd"
      refine ⟨by omega, by omega, ?_⟩
      rw [Int.toNat_natCast]
      refine for_it walk_range (fun j σ H' => ∃ (u5 : Option V) (l' : List V) (L os : List Int), σ = [some (.ref a), some (.int ((0 : Int) + i)), some (.ref b), some (.int (t : Int)), some (.ref p2), u5, v6, some (.ref lf), some (.ref p)] ∧ Same H H' ∧ H' b = some (.lst l') ∧ BagL l' (1000 + j) ∧
        H' lf = some (.lst (L.map V.int)) ∧ H' p = some (.lst (os.map V.int)) ∧ SomeOf t os L ∧ os.length = j) ?_ (fun _ _ _ _ _ => trivial) ?_ ?_
      · refine ⟨_, l4, stillM t, [], rfl, fun c o e => ?_, ?_, hl4.mono (by omega), ?_, ?_, someOf_start t, rfl⟩
        · rw [upd_ne (ne_of_none e np1), upd_ne (ne_of_none e nf1)]
          exact s4 c o e
        · rw [upd_ne nbp]
          exact hb5
        · rw [upd_ne nfp]
          exact upd_same
        · exact upd_same
      · rintro j x σ H0 H' hj ⟨u5, l', L, os, rfl, sm5, hb', hl', hf', hp', so, hlen5⟩ ⟨rfl, rfl⟩
        have hs := someOf_length so
        walk_at "rd"
        refine ⟨.inl ⟨rfl, _, SqL.of hp'⟩, ?_⟩
        walk_at "rd"
        refine ⟨.inl ⟨rfl, _, SqL.of hf'⟩, ?_⟩
        walk_at "rd"
        refine ⟨lf, _, rfl, .inl (SqL.of hf'), ?_⟩
        rw [List.length_map]
        refine ⟨b, _, l', 1000 + j, rfl, hb', hl', by omega, by omega, by omega, fun r2 l2 h0 h1 hl2 => ?_⟩
        obtain ⟨m, rfl⟩ : ∃ m : Nat, r2 = (m : Int) := ⟨r2.toNat, by omega⟩
        have hm : m < L.length := by omega
        have em : L[m]? = some L[m] := List.getElem?_eq_getElem hm
        refine ⟨lf, _, m, m, .int L[m], rfl, rfl, by rw [upd_ne (Ne.symm nbf)]; exact hf', by omega, by omega, ?_, by rw [List.getElem?_map, em]; rfl, ?_⟩
        · rw [List.length_map]; exact seqIdx_nat hm
        refine ⟨p, _, _, rfl, rfl, by rw [upd_ne (Ne.symm nfp), upd_ne (Ne.symm nbp)]; exact hp', ?_, ?_⟩
        · rw [List.length_map]
          exact lt_line (by omega)
        refine ⟨_, l2, L.eraseIdx m, os ++ [L[m]], rfl, fun c o e => ?_, ?_, hl2, ?_, ?_, someOf_step so em, by rw [List.length_append, hlen5]; rfl⟩
        · rw [upd_ne (ne_of_none e np1), upd_ne (ne_of_none e nf1), upd_ne (ne_of_none e nb0)]
          exact sm5 c o e
        · rw [upd_ne nbp, upd_ne nbf]
          exact upd_same
        · rw [upd_ne nfp, upd_same, map_eraseI]
        · rw [upd_same, List.map_append]
          rfl
      · rintro σ H5 ⟨u5, l', L, os, rfl, sm5, hb', hl', hf', hp', so, hlen5⟩
        have hs := someOf_length so
        have eL : L = [] := List.length_eq_zero_iff.mp (by omega)
        subst eL
        have ok5 := someOf_ok so
        -- _law_move
        walk_at "rd"
        refine fun a1 _ n1 nd1 _ => mk_move2 n1 nd1 (.inl (SqL.of hp')) ok5 (by omega) fun H6 s6 m6 => ⟨rfl, ?_⟩
        walk_at "rd"
        obtain ⟨_, _, z1, _⟩ := id m6
        refine ⟨a1, _, _, rfl, z1, a1, t, os, rfl, m6, ok5, by omega, by omega, fun H7 a7 s7 n7 m7 => ?_⟩
        have m6' := m6.same s7
        obtain ⟨_, _, z2, _⟩ := id m6'
        obtain ⟨_, _, z3, _⟩ := id m7
        refine ⟨a1, _, _, a7, _, _, rfl, rfl, z2, z3, a1, a7, t, os, invM t os, rfl, m6', m7, ok5, invM_ok ok5, by rw [invM_length]; omega, fun H8 a8 s8 n8 m8 => ?_⟩
        rw [perm_back so] at m8
        walk_at "rd"
        refine ⟨by omega, fun H9 a9 s9 n9 m9 => ?_⟩
        have m8' := m8.same s9
        obtain ⟨_, _, z4, _⟩ := id m8'
        obtain ⟨_, _, z5, _⟩ := id m9
        refine ⟨a8, _, _, a9, _, _, rfl, rfl, z4, z5, a8, a9, t, t, stillM t, stillM t, rfl, m8', m9, ?_⟩
        walk_at "rd"
        refine iteNS ⟨rfl, rfl⟩ ?_
        have m6b := (m6'.same s8).same s9
        walk_at "rd"
        obtain ⟨_, _, y1, _⟩ := id m6b
        refine ⟨a1, _, _, rfl, y1, a1, t, os, rfl, m6b, ok5, by omega, by omega, fun HA aA sA nA mA => ?_⟩
        walk_at "rd"
        have m6c := m6b.same sA
        obtain ⟨_, _, y2, _⟩ := id mA
        obtain ⟨_, _, y3, _⟩ := id m6c
        have hos : os.length = t := by omega
        have o6 : MoveOk (invM t os).length os := by rw [invM_length]; exact ok5
        have m6d : MoveAt K C HA a1 (invM t os).length os := by rw [invM_length]; exact m6c
        refine ⟨aA, _, _, a1, _, _, rfl, rfl, y2, y3, aA, a1, os.length, invM t os, os, rfl, mA, m6d, invM_ok ok5, o6, by omega, fun HB aB sB nB mB => ?_⟩
        rw [back_perm so, hos] at mB
        walk_at "rd"
        refine ⟨by omega, fun HC aC sC nC mC => ?_⟩
        have mB' := mB.same sC
        obtain ⟨_, _, y4, _⟩ := id mB'
        obtain ⟨_, _, y5, _⟩ := id mC
        refine ⟨aB, _, _, aC, _, _, rfl, rfl, y4, y5, aB, aC, t, t, stillM t, stillM t, rfl, mB', mC, ?_⟩
        walk_at "rd"
        refine iteNS ⟨rfl, rfl⟩ ?_
        exact ⟨_, _, _, _, _, _, _, _, rfl, sm5.trans (s6.trans (s7.trans (s8.trans (s9.trans (sA.trans (sB.trans sC))))))⟩
    · rintro σ H' ⟨v1, v2, v3, v4, v5, v6, v7, v8, rfl, sm⟩
      exact k H'
end
end MV

namespace MV
open PySem PySem.Spec PyProof.Rows L2 SB MM
theorem all_mk {l : PySem.W.OpenLaw} {w : World} {K : PySem.W.Frag} {h : Heap} {mg : Str → Option Value} {fa : Addr} (X : K.In h) (G : h.Ns mainGlobals mg) (hfa : mg "law" = some (.ref fa))
    {fbag ftake fof fcount fplaces fvalues fback fright flaw C fm_init fm_invert fm_mul fm_eq fm_call Tm_call Em_call pm_gaps fm_gaps pm_still fm_still : Addr} {odbag anbag odtake antake odof anof odcount ancount odplaces anplaces odvalues anvalues odback anback odright anright odlaw anlaw odm_init anm_init odm_invert anm_invert odm_mul anm_mul odm_eq anm_eq odm_call anm_call odTm_call odm_gaps anm_gaps odm_still anm_still : Option Addr} {slbag sltake slof slcount slplaces slvalues slback slright sllaw slm_init slm_invert slm_mul slm_eq slm_call slTm_call slm_gaps slm_still : Array (Option Value)} {ocbag kVbag dcbag pmbag cdbag ctbag octake kVtake dctake pmtake cdtake cttake ocof kVof dcof pmof cdof ctof occount kVcount dccount pmcount cdcount ctcount ocplaces kVplaces dcplaces pmplaces cdplaces ctplaces ocvalues kVvalues dcvalues pmvalues cdvalues ctvalues ocback kVback dcback pmback cdback ctback ocright kVright dcright pmright cdright ctright oclaw kVlaw dclaw pmlaw cdlaw ctlaw ocm_init kVm_init dcm_init pmm_init cdm_init ctm_init ocm_invert kVm_invert dcm_invert pmm_invert cdm_invert ctm_invert ocm_mul kVm_mul dcm_mul pmm_mul cdm_mul ctm_mul ocm_eq kVm_eq dcm_eq pmm_eq cdm_eq ctm_eq ocm_call kVm_call dcm_call pmm_call cdm_call ctm_call ocTm_call ocm_gaps kVm_gaps dcm_gaps pmm_gaps cdm_gaps ctm_gaps ocm_still kVm_still dcm_still pmm_still cdm_still ctm_still : Value} {rm_gaps rm_still : List Value} {nTm_call : Nat}
    (abag : PySem.W.nsIn K mainGlobals "_law_bag" = some (some (.ref fbag)))
    (lbag : K.lookup fbag = some ⟨ocbag, odbag, .func (PySem.W.fnOf "_law_bag" "_law_bag" (defArgs s_bag) (defBody s_bag) (defScope s_bag) .none kVbag dcbag pmbag anbag cdbag ctbag), slbag⟩)
    (cbag : PySem.W.codeIn K cdbag "_law_bag" = true)
    (kbag : PySem.W.keepIn K (.ref fbag) = true)
    (atake : PySem.W.nsIn K mainGlobals "_law_take" = some (some (.ref ftake)))
    (ltake : K.lookup ftake = some ⟨octake, odtake, .func (PySem.W.fnOf "_law_take" "_law_take" (defArgs s_take) (defBody s_take) (defScope s_take) .none kVtake dctake pmtake antake cdtake cttake), sltake⟩)
    (ctake : PySem.W.codeIn K cdtake "_law_take" = true)
    (ktake : PySem.W.keepIn K (.ref ftake) = true)
    (aof : PySem.W.nsIn K mainGlobals "_law_of" = some (some (.ref fof)))
    (lof : K.lookup fof = some ⟨ocof, odof, .func (PySem.W.fnOf "_law_of" "_law_of" (defArgs s_of) (defBody s_of) (defScope s_of) .none kVof dcof pmof anof cdof ctof), slof⟩)
    (cof : PySem.W.codeIn K cdof "_law_of" = true)
    (kof : PySem.W.keepIn K (.ref fof) = true)
    (acount : PySem.W.nsIn K mainGlobals "_law_count" = some (some (.ref fcount)))
    (lcount : K.lookup fcount = some ⟨occount, odcount, .func (PySem.W.fnOf "_law_count" "_law_count" (defArgs s_count) (defBody s_count) (defScope s_count) .none kVcount dccount pmcount ancount cdcount ctcount), slcount⟩)
    (ccount : PySem.W.codeIn K cdcount "_law_count" = true)
    (kcount : PySem.W.keepIn K (.ref fcount) = true)
    (aplaces : PySem.W.nsIn K mainGlobals "_law_places" = some (some (.ref fplaces)))
    (lplaces : K.lookup fplaces = some ⟨ocplaces, odplaces, .func (PySem.W.fnOf "_law_places" "_law_places" (defArgs s_places) (defBody s_places) (defScope s_places) .none kVplaces dcplaces pmplaces anplaces cdplaces ctplaces), slplaces⟩)
    (cplaces : PySem.W.codeIn K cdplaces "_law_places" = true)
    (kplaces : PySem.W.keepIn K (.ref fplaces) = true)
    (avalues : PySem.W.nsIn K mainGlobals "_law_values" = some (some (.ref fvalues)))
    (lvalues : K.lookup fvalues = some ⟨ocvalues, odvalues, .func (PySem.W.fnOf "_law_values" "_law_values" (defArgs s_values) (defBody s_values) (defScope s_values) .none kVvalues dcvalues pmvalues anvalues cdvalues ctvalues), slvalues⟩)
    (cvalues : PySem.W.codeIn K cdvalues "_law_values" = true)
    (kvalues : PySem.W.keepIn K (.ref fvalues) = true)
    (aback : PySem.W.nsIn K mainGlobals "_law_back" = some (some (.ref fback)))
    (lback : K.lookup fback = some ⟨ocback, odback, .func (PySem.W.fnOf "_law_back" "_law_back" (defArgs s_back) (defBody s_back) (defScope s_back) .none kVback dcback pmback anback cdback ctback), slback⟩)
    (cback : PySem.W.codeIn K cdback "_law_back" = true)
    (kback : PySem.W.keepIn K (.ref fback) = true)
    (aright : PySem.W.nsIn K mainGlobals "_law_right" = some (some (.ref fright)))
    (lright : K.lookup fright = some ⟨ocright, odright, .func (PySem.W.fnOf "_law_right" "_law_right" (defArgs s_right) (defBody s_right) (defScope s_right) .none kVright dcright pmright anright cdright ctright), slright⟩)
    (cright : PySem.W.codeIn K cdright "_law_right" = true)
    (kright : PySem.W.keepIn K (.ref fright) = true)
    (alaw : PySem.W.nsIn K mainGlobals "law" = some (some (.ref flaw)))
    (llaw : K.lookup flaw = some ⟨oclaw, odlaw, .func (PySem.W.fnOf "law" "law" (defArgs s_law) (defBody s_law) (defScope s_law) .none kVlaw dclaw pmlaw anlaw cdlaw ctlaw), sllaw⟩)
    (claw : PySem.W.codeIn K cdlaw "law" = true)
    (klaw : PySem.W.keepIn K (.ref flaw) = true)
    (aC : PySem.W.nsIn K mainGlobals "Move" = some (some (.ref C)))
    (am_init : PySem.W.findIn K (.ref C) "__init__" = some (some (.ref fm_init)))
    (im_init : PySem.W.isFn K (.ref fm_init) = true)
    (lm_init : K.lookup fm_init = some ⟨ocm_init, odm_init, .func (PySem.W.fnOf "__init__" "Move.__init__" (defArgs s_m_init) (defBody s_m_init) (defScope s_m_init) .none kVm_init dcm_init pmm_init anm_init cdm_init ctm_init), slm_init⟩)
    (cm_init : PySem.W.codeIn K cdm_init "Move.__init__" = true)
    (km_init : PySem.W.keepIn K (.ref fm_init) = true)
    (am_invert : PySem.W.findIn K (.ref C) "__invert__" = some (some (.ref fm_invert)))
    (im_invert : PySem.W.isFn K (.ref fm_invert) = true)
    (lm_invert : K.lookup fm_invert = some ⟨ocm_invert, odm_invert, .func (PySem.W.fnOf "__invert__" "Move.__invert__" (defArgs s_m_invert) (defBody s_m_invert) (defScope s_m_invert) .none kVm_invert dcm_invert pmm_invert anm_invert cdm_invert ctm_invert), slm_invert⟩)
    (cm_invert : PySem.W.codeIn K cdm_invert "Move.__invert__" = true)
    (km_invert : PySem.W.keepIn K (.ref fm_invert) = true)
    (am_mul : PySem.W.findIn K (.ref C) "__mul__" = some (some (.ref fm_mul)))
    (im_mul : PySem.W.isFn K (.ref fm_mul) = true)
    (lm_mul : K.lookup fm_mul = some ⟨ocm_mul, odm_mul, .func (PySem.W.fnOf "__mul__" "Move.__mul__" (defArgs s_m_mul) (defBody s_m_mul) (defScope s_m_mul) .none kVm_mul dcm_mul pmm_mul anm_mul cdm_mul ctm_mul), slm_mul⟩)
    (cm_mul : PySem.W.codeIn K cdm_mul "Move.__mul__" = true)
    (km_mul : PySem.W.keepIn K (.ref fm_mul) = true)
    (am_eq : PySem.W.findIn K (.ref C) "__eq__" = some (some (.ref fm_eq)))
    (im_eq : PySem.W.isFn K (.ref fm_eq) = true)
    (lm_eq : K.lookup fm_eq = some ⟨ocm_eq, odm_eq, .func (PySem.W.fnOf "__eq__" "Move.__eq__" (defArgs s_m_eq) (defBody s_m_eq) (defScope s_m_eq) .none kVm_eq dcm_eq pmm_eq anm_eq cdm_eq ctm_eq), slm_eq⟩)
    (cm_eq : PySem.W.codeIn K cdm_eq "Move.__eq__" = true)
    (km_eq : PySem.W.keepIn K (.ref fm_eq) = true)
    (am_call : PySem.W.findIn K (.ref C) "__call__" = some (some (.ref fm_call)))
    (im_call : PySem.W.isFn K (.ref fm_call) = true)
    (lm_call : K.lookup fm_call = some ⟨ocm_call, odm_call, .func (PySem.W.fnOf "__call__" "Move.__call__" (defArgs s_m_call) (defBody s_m_call) (defScope s_m_call) (.ref Tm_call) kVm_call dcm_call pmm_call anm_call cdm_call ctm_call), slm_call⟩)
    (cm_call : PySem.W.codeIn K cdm_call "Move.__call__" = true)
    (km_call : PySem.W.keepIn K (.ref fm_call) = true)
    (xm_call : PySem.W.fnIn K fm_call = true)
    (ym_call : K.lookup Tm_call = some ⟨ocTm_call, odTm_call, .seq #[.ref Em_call] nTm_call, slTm_call⟩)
    (am_gaps : PySem.W.findIn K (.ref C) "gaps" = some (some (.ref pm_gaps)))
    (gm_gaps : PySem.W.specialIn K (.ref pm_gaps) "__get__" = some (some (.builtin "property.__get__")))
    (tm_gaps : PySem.W.takesIn K (.ref pm_gaps) = some true)
    (r_m_gaps : PySem.W.recIn K pm_gaps "property" = some (.ref fm_gaps :: rm_gaps))
    (lm_gaps : K.lookup fm_gaps = some ⟨ocm_gaps, odm_gaps, .func (PySem.W.fnOf "gaps" "Move.gaps" (defArgs s_m_gaps) (defBody s_m_gaps) (defScope s_m_gaps) .none kVm_gaps dcm_gaps pmm_gaps anm_gaps cdm_gaps ctm_gaps), slm_gaps⟩)
    (cm_gaps : PySem.W.codeIn K cdm_gaps "Move.gaps" = true)
    (km_gaps : PySem.W.keepIn K (.ref fm_gaps) = true)
    (am_still : PySem.W.findCls K (.ref C) (.type "type") "still" = some (.get (.builtin "staticmethod.__get__") (.ref pm_still) .none (.ref C)))
    (r_m_still : PySem.W.recIn K pm_still "staticmethod" = some (.ref fm_still :: rm_still))
    (lm_still : K.lookup fm_still = some ⟨ocm_still, odm_still, .func (PySem.W.fnOf "still" "Move.still" (defArgs s_m_still) (defBody s_m_still) (defScope s_m_still) .none kVm_still dcm_still pmm_still anm_still cdm_still ctm_still), slm_still⟩)
    (cm_still : PySem.W.codeIn K cdm_still "Move.still" = true)
    (km_still : PySem.W.keepIn K (.ref fm_still) = true)
    (pgC : PySem.W.plainGet K C Str.empty = true)
    (hdC : PySem.W.hasDictIn K C = true)
    (poC : PySem.W.plainOver K C = true)
    (saC : PySem.W.findIn K (.ref C) "__setattr__" = some (some (.builtin "object.__setattr__")))
    (mkC : PySem.W.makesIn K C = true)
    (kcC : PySem.W.keepIn K (.ref C) = true)
    (nt : PySem.W.findIn K (.ref C) "takes" = some none)
    (np : PySem.W.findIn K (.ref C) "places" = some none)
    (hcl : PySem.W.findIn K (.ref C) "__class__" = some (some (.builtin "object.__class__")))
    (hcg : PySem.W.specialIn K (.builtin "object.__class__") "__get__" = some (some (.builtin "getset_descriptor.__get__")))
    (hct : PySem.W.takesIn K (.builtin "object.__class__") = some true)
    (hcm : PySem.W.mroIn K C (.type "object") = some true)
    (sf : PySem.W.selfFirst K C = true)
    (nf : PySem.W.notFirst K C (.ref C) = true)
    (rds : PySem.W.readsIn K C (.type "type") = true)
    (rga : PySem.W.specialIn K (.ref C) "__getattribute__" = some (some (.builtin "type.__getattribute__")))
    (z_len : PySem.W.nsIn K mainGlobals "len" = some none)
    (z_abs : PySem.W.nsIn K mainGlobals "abs" = some none)
    (z_int : PySem.W.nsIn K mainGlobals "int" = some none)
    (z_range : PySem.W.nsIn K mainGlobals "range" = some none)
    (z_list : PySem.W.nsIn K mainGlobals "list" = some none)
    (z_tuple : PySem.W.nsIn K mainGlobals "tuple" = some none)
    (z_str : PySem.W.nsIn K mainGlobals "str" = some none)
    (z_max : PySem.W.nsIn K mainGlobals "max" = some none)
    (z_min : PySem.W.nsIn K mainGlobals "min" = some none)
    (z_enumerate : PySem.W.nsIn K mainGlobals "enumerate" = some none)
    (z_isinstance : PySem.W.nsIn K mainGlobals "isinstance" = some none)
    : ∃ fd : FuncData, (∀ (s : Shared) (v : Value), BindsTo s fd ⟨[v], []⟩ [("_law_script", v)]) ∧ ∀ base : Heap, K.In base → base.Ns mainGlobals mg → FnOk l.prog w K mg base CX0 5 fa fd ["_law_script"] (spLaw K) := by
  have e := hfa.symm.trans (PySem.W.mg_of X G alaw)
  cases e
  have B : Blt mg := ⟨PySem.W.mg_none_of X G z_len, PySem.W.mg_none_of X G z_abs, PySem.W.mg_none_of X G z_int, PySem.W.mg_none_of X G z_range, PySem.W.mg_none_of X G z_list, PySem.W.mg_none_of X G z_tuple, PySem.W.mg_none_of X G z_str, PySem.W.mg_none_of X G z_max, PySem.W.mg_none_of X G z_min, PySem.W.mg_none_of X G z_enumerate, PySem.W.mg_none_of X G z_isinstance⟩
  have T : TxtM K mg C := ⟨B, ⟨pgC, hdC, poC, saC⟩, nt, np, PySem.W.mg_of X G aC, ⟨⟨pgC, hdC, poC, saC⟩, hcl, hcg, hct, hcm, if_pos (beq_self_eq_true _)⟩, sf, nf⟩
  have Fcall : FunD K "__call__" "Move.__call__" (defArgs s_m_call) (defBody s_m_call) (defScope s_m_call) [.ref Em_call] [] fm_call _ := ⟨⟨_, _, _, _, _, _, _, _, _, _, rfl, lm_call, cm_call, .inr ⟨List.cons_ne_nil _ _, _, _, [.ref Em_call], _, rfl, ym_call, rfl, .cons rfl .nil⟩, .inl rfl⟩, km_call⟩
  refine ⟨PySem.W.fnOf "law" "law" (defArgs s_law) (defBody s_law) (defScope s_law) .none kVlaw dclaw pmlaw anlaw cdlaw ctlaw, fun s v => .of_eq rfl, fun base _ _ => ?_⟩
  have M1 : Ml l.prog w K mg base CX0 1 "Move" C (spInit K C) := ⟨_, ⟨mkC, am_init, im_init, kcC⟩, ok_init (fun_mk (st := s_m_init) lm_init cm_init km_init) T, T.g_Move⟩
  have I1 : Me l.prog w K mg base CX0 3 C "__invert__" (spInv K C) := ⟨_, ok_inv (fun_mk (st := s_m_invert) lm_invert cm_invert km_invert) T M1, am_invert, im_invert, km_invert⟩
  have U1 : Me l.prog w K mg base CX0 3 C "__mul__" (spMul K C) := ⟨_, ok_mul (fun_mk (st := s_m_mul) lm_mul cm_mul km_mul) T M1, am_mul, im_mul, km_mul⟩
  have E1 : Me l.prog w K mg base CX0 1 C "__eq__" (spEq K C) := ⟨_, ok_eq (fun_mk (st := s_m_eq) lm_eq cm_eq km_eq) T, am_eq, im_eq, km_eq⟩
  have Fg := fun_mk (st := s_m_gaps) lm_gaps cm_gaps km_gaps
  have G1 : Pr l.prog w K mg base CX0 1 C "gaps" (spGaps K C) := ⟨_, _, _, _, T.cl, ⟨am_gaps, gm_gaps, tm_gaps, ⟨_, r_m_gaps⟩⟩, okf_gaps Fg T, Fg.binds fun _ _ _ _ _ _ us hl => match us, hl with | [_], _ => rfl⟩
  have C1 : Ca l.prog w K mg base CX0 3 C (spCall K C) := ⟨_, ⟨am_call, im_call, xm_call⟩, FnOk.r (ok_call Fcall T G1) (call_binds Fcall)⟩
  have S1 : Sm l.prog w K mg base CX0 3 "Move" "still" (spStill K C) := ⟨_, _, _, _, T.g_Move, ⟨rds, rga⟩, ⟨am_still, ⟨_, r_m_still⟩, km_still⟩, ok_still (fun_mk (st := s_m_still) lm_still cm_still km_still) T M1⟩
  have D1 : Cl l.prog w K mg base CX0 1 "_law_bag" (spBag K) := ⟨_, ok_bag (fun_mk (st := s_bag) lbag cbag kbag) B, PySem.W.mg_of X G abag, kbag⟩
  have D2 : Cl l.prog w K mg base CX0 1 "_law_take" spTake := ⟨_, ok_take (fun_mk (st := s_take) ltake ctake ktake) B, PySem.W.mg_of X G atake, ktake⟩
  have D3 : Cl l.prog w K mg base CX0 2 "_law_of" (spOf K) := ⟨_, ok_of (fun_mk (st := s_of) lof cof kof) B D2, PySem.W.mg_of X G aof, kof⟩
  have D4 : Cl l.prog w K mg base CX0 2 "_law_count" spCount := ⟨_, ok_count (fun_mk (st := s_count) lcount ccount kcount) B D2, PySem.W.mg_of X G acount, kcount⟩
  have D5 : Cl l.prog w K mg base CX0 2 "_law_places" spPlaces := ⟨_, ok_places (fun_mk (st := s_places) lplaces cplaces kplaces) B D2, PySem.W.mg_of X G aplaces, kplaces⟩
  have D6 : Cl l.prog w K mg base CX0 3 "_law_values" (spValues K) := ⟨_, ok_values (fun_mk (st := s_values) lvalues cvalues kvalues) B D3, PySem.W.mg_of X G avalues, kvalues⟩
  have D7 : Cl l.prog w K mg base CX0 1 "_law_back" (spBack K) := ⟨_, ok_back (fun_mk (st := s_back) lback cback kback) B, PySem.W.mg_of X G aback, kback⟩
  have D8 : Cl l.prog w K mg base CX0 4 "_law_right" (spRight K) := ⟨_, ok_right (fun_mk (st := s_right) lright cright kright) T M1 I1 U1 E1 G1 C1 D7 D6, PySem.W.mg_of X G aright, kright⟩
  exact ok_law (fun_mk (st := s_law) llaw claw klaw) T M1 I1 U1 E1 S1 D1 D2 D4 D5 D8
theorem walk {l : PySem.W.OpenLaw} {q : Program} {loose : List Str} {XP : (Str → Option Value) → Heap → Prop} {YP : World → Heap → Prop} {d : DefRec} {K : Params → PySem.W.Frag} (hn : l.most = some 63) (hdf : d.params.defaults = [])
    (hY : ∀ (w : World) (h : Heap), YP w h → (K w.params).In h)
    (F : ∀ (w : World) (mg : Str → Option Value) (fa : Addr) (h : Heap), (K w.params).In h → h.Ns mainGlobals mg → mg d.name = some (.ref fa) →
      ∃ fd : FuncData, (∀ (s : Shared) (u : Value), BindsTo s fd ⟨[u], []⟩ [("_law_script", u)]) ∧ ∀ base : Heap, (K w.params).In base → base.Ns mainGlobals mg → FnOk l.prog w (K w.params) mg base CX0 5 fa fd ["_law_script"] (spLaw (K w.params))) :
    PySem.W.WalkO q loose XP YP l.row.toRowW d [] (fun f vs => PySem.call f vs) :=
  L2.walk_of (n := 63) (k := 5) (x := "_law_script") (CX := fun _ => CX0) (sp := fun w => spLaw (K w.params)) hn (by decide) hdf ⟨rfl, by decide, by decide⟩ hY F (fun _ _ a ns hl _ hS => ⟨a, ns, rfl, hS, hl, fun _ => rfl⟩) fun _ _ _ _ _ z => z
end MV
open PySem PySem.W PyProof.Rows
set_option maxRecDepth 100000 in
set_option maxHeartbeats 0 in
theorem PySem.Challenge.cw_sidelists_k63_undone_holds : PySem.Challenge.rw_sidelists_k63_undone.Holds := by
  w_on; o_law; k_head; (case hw => w_witness2)
  k_fill
  refine MV.walk (l := PySem.Challenge.rw_sidelists_k63_undone) rfl rfl (fun w h Y => PySem.W.kIn_of Y) ?F
  case F =>
    intro w mg fa h KX G hmg
    refine' MV.all_mk KX G hmg ?abag ?lbag ?cbag ?kbag ?atake ?ltake ?ctake ?ktake ?aof ?lof ?cof ?kof ?acount ?lcount ?ccount ?kcount ?aplaces ?lplaces ?cplaces ?kplaces ?avalues ?lvalues ?cvalues ?kvalues ?aback ?lback ?cback ?kback ?aright ?lright ?cright ?kright ?alaw ?llaw ?claw ?klaw ?aC ?am_init ?im_init ?lm_init ?cm_init ?km_init ?am_invert ?im_invert ?lm_invert ?cm_invert ?km_invert ?am_mul ?im_mul ?lm_mul ?cm_mul ?km_mul ?am_eq ?im_eq ?lm_eq ?cm_eq ?km_eq ?am_call ?im_call ?lm_call ?cm_call ?km_call ?xm_call ?ym_call ?am_gaps ?gm_gaps ?tm_gaps ?r_m_gaps ?lm_gaps ?cm_gaps ?km_gaps ?am_still ?r_m_still ?lm_still ?cm_still ?km_still ?pgC ?hdC ?poC ?saC ?mkC ?kcC ?nt ?np ?hcl ?hcg ?hct ?hcm ?sf ?nf ?rds ?rga ?z_len ?z_abs ?z_int ?z_range ?z_list ?z_tuple ?z_str ?z_max ?z_min ?z_enumerate ?z_isinstance
    (case abag => k_is)
    (case lbag => k_is)
    (case cbag => k_is)
    (case kbag => k_is)
    (case atake => k_is)
    (case ltake => k_is)
    (case ctake => k_is)
    (case ktake => k_is)
    (case aof => k_is)
    (case lof => k_is)
    (case cof => k_is)
    (case kof => k_is)
    (case acount => k_is)
    (case lcount => k_is)
    (case ccount => k_is)
    (case kcount => k_is)
    (case aplaces => k_is)
    (case lplaces => k_is)
    (case cplaces => k_is)
    (case kplaces => k_is)
    (case avalues => k_is)
    (case lvalues => k_is)
    (case cvalues => k_is)
    (case kvalues => k_is)
    (case aback => k_is)
    (case lback => k_is)
    (case cback => k_is)
    (case kback => k_is)
    (case aright => k_is)
    (case lright => k_is)
    (case cright => k_is)
    (case kright => k_is)
    (case alaw => k_is)
    (case llaw => k_is)
    (case claw => k_is)
    (case klaw => k_is)
    (case aC => k_is)
    (case am_init => k_is)
    (case im_init => k_is)
    (case lm_init => k_is)
    (case cm_init => k_is)
    (case km_init => k_is)
    (case am_invert => k_is)
    (case im_invert => k_is)
    (case lm_invert => k_is)
    (case cm_invert => k_is)
    (case km_invert => k_is)
    (case am_mul => k_is)
    (case im_mul => k_is)
    (case lm_mul => k_is)
    (case cm_mul => k_is)
    (case km_mul => k_is)
    (case am_eq => k_is)
    (case im_eq => k_is)
    (case lm_eq => k_is)
    (case cm_eq => k_is)
    (case km_eq => k_is)
    (case am_call => k_is)
    (case im_call => k_is)
    (case lm_call => k_is)
    (case cm_call => k_is)
    (case km_call => k_is)
    (case xm_call => k_is)
    (case ym_call => k_is)
    (case am_gaps => k_is)
    (case gm_gaps => k_is)
    (case tm_gaps => k_is)
    (case r_m_gaps => k_is)
    (case lm_gaps => k_is)
    (case cm_gaps => k_is)
    (case km_gaps => k_is)
    (case am_still => k_is)
    (case r_m_still => k_is)
    (case lm_still => k_is)
    (case cm_still => k_is)
    (case km_still => k_is)
    (case pgC => k_is)
    (case hdC => k_is)
    (case poC => k_is)
    (case saC => k_is)
    (case mkC => k_is)
    (case kcC => k_is)
    (case nt => k_is)
    (case np => k_is)
    (case hcl => k_is)
    (case hcg => k_is)
    (case hct => k_is)
    (case hcm => k_is)
    (case sf => k_is)
    (case nf => k_is)
    (case rds => k_is)
    (case rga => k_is)
    (case z_len => k_is)
    (case z_abs => k_is)
    (case z_int => k_is)
    (case z_range => k_is)
    (case z_list => k_is)
    (case z_tuple => k_is)
    (case z_str => k_is)
    (case z_max => k_is)
    (case z_min => k_is)
    (case z_enumerate => k_is)
    (case z_isinstance => k_is)
