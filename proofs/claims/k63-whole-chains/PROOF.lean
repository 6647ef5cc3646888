import PyProof.Rows.All
import Wide.All
import OpenK.AllK
import Wide.FinOn
import HandS.ForMost
import HandS.Evl
import HandS.Codes
import HandS.Defaults
import HandS.IsInst
import HandS.Property
import HandS.ClsMeth
import HandS.Star
import HandS.NoneIn
import HandS.Walk
import HandS.Deep
import HandS.TupAny
import HandS.Conv
import HandS.MakeKwOnly
import HandS.WideBits
import HandS.Wide
import HandS.NamedTupSort
import HandS.OwnEq
import KE.GoesEnum
import HandS.HeadHook1
import HandS.HeadHook2
import HandS.HeadNt
import PySem.Challenge.RW_agedfiles_k63_whole_chains_of_seldom_rea
import KE.KStateDown
import Lean
import HandS.Head0
import HandS.Head1
import HandS.Head2
import HandS.HeadEnd
import KE.DataEq
import KE.IntBitsLaws
set_option Elab.async false
set_option linter.all false
set_option maxRecDepth 100000
set_option maxHeartbeats 4000000
/-! Rules of my own over the hand layer: own __len__, __getitem__, != by an own __eq__, static methods, properties packed, calls without arguments. -/
namespace Ag
open PySem PySem.Spec PyProof.Rows L2
open C8 (Cal Met Mak pe_c pe_mt pe_mt0 pe_mk)
section
variable {X : Cx} {k j : Nat} {C : Addr} {x m : Str} {sp : Sp} {dvs : List V} {p pos apos : Pos} {e o : Expr} {es : List Expr} {ta tb : TE} {t : TA}
/-- x() -/
theorem pe_c0 (c : Cal X.prog X.w X.K X.mg X.base k x sp dvs) (hr : Room j X.A) (hk : k ≤ j) (hg : Gl X x) (hdb : (x == ("__debug__" : Str)) = false := by decide) :
    PE X (.Call (.Name x p) [] [] pos) (tCall sp dvs C8.E0 tNil) := by
  obtain ⟨f, fd, ps, ds, F, hm, kp, b, d⟩ := c.ex
  exact pe_call0 F (hr.mono hk) hg hm kp b d C8.pass0 hdb
/-- a callee run somewhere below -/
theorem run_in {CX : CXT} {f : Addr} {fd : FuncData} {ps : List Str} {ds : List Value} {E : XK} {A : Around} {pins : List (Addr × Obj)} {σ : L2.St} {H : Hp} {s : Shared} {Q : VK} {us : List Value} {vs : List V}
    (F : FnOk X.prog X.w X.K X.mg X.base CX k f fd ps sp) (hr : Room k A) (hA : A.frames = X.A.frames) (hb : Binds X.K fd ps ds) (hd : Vals dvs ds) (hx : Passes CX X E) (I : Inv X pins σ H s) (r : Vals vs us) (h : sp (vs ++ dvs) H Q E) :
    wpAny (model X.prog X.w) A (call (.ref f) us) (EP X pins σ Q) X.xe s := by
  have r2 : Vals (vs ++ dvs) (us ++ ds) := r.append hd
  have hl : (us ++ ds).length = ps.length := by rw [← r2.length]; exact F.len _ _ _ _ h
  have e0 : Env0 X.prog X.w X.K X.mg X.base A X.stack s H := by
    have e := I.env0
    exact ⟨by rw [hA]; exact e.frames, e.mod, e.bs, e.bsz, e.funs, e.frf, e.hok, e.bare⟩
  refine wpAny_call (codeAny_mono (F.run A X.stack s H ⟨us, []⟩ (us ++ ds) (vs ++ dvs) Q E hr e0 (hb s us I.kIn hl) r2 h) fun r s' hq => ?_)
  cases r with
  | error e => exact hx pins σ H s e s' I hq
  | ok fl =>
    cases fl with
    | ret u => exact I.after hq
    | next => exact False.elim hq
    | brk => exact False.elim hq
    | cont => exact False.elim hq
/-- len(o), o an instance with an own __len__ -/
theorem call_lenI (c : Met X.prog X.w X.K X.mg X.base k C "__len__" sp []) (hr : Room j X.A) (hk : k + 1 ≤ j) :
    CallR X (.builtin "len") (fun xs H Q => ∃ a dx fs, xs = [V.ref a] ∧ H a = some (.ins C dx fs) ∧ sp [.ref a] H (fun v H' => ∃ n : Int, v = .int n ∧ (0 ≤ n ∧ n < 2 ^ 63) ∧ Q (.int n) H') C8.E0) := by
  intro pins s σ H xs us Q I r h
  obtain ⟨a, dx, fs, rfl, ha, hsp⟩ := h
  obtain ⟨f, fd, ps, ds, hc, hm, F, b, d⟩ := c.ex
  obtain ⟨u, rfl, rr⟩ := Vals.one r
  cases rr
  obtain ⟨mA, J, _⟩ := ins_get I.hok ha
  obtain ⟨od, J, _⟩ := J.look
  obtain ⟨mm, hF⟩ := I.fr
  have hr1 : Room k X.A.in1 := (hr.mono hk).in1
  refine PySem.W.len_K (K := X.K) hF I.ok.mod.kin J hm.at_ hm.fn (wpAny_mono (run_in (E := C8.E0) F hr1 rfl b d C8.pass0 I (vs := [V.ref a]) (us := [Value.ref a]) (.cons rfl .nil) hsp) (fun v s' hv => ?_) fun _ _ z => z)
  obtain ⟨v', H', I', rv, n, rfl, hn, hq⟩ := hv
  obtain ⟨t, rfl⟩ := rv
  exact ⟨hn, .int n, H', I'.tok _, ⟨_, rfl⟩, hq⟩
/-- o[i], o an instance with an own __getitem__ -/
theorem ix_own (c : Met X.prog X.w X.K X.mg X.base k C "__getitem__" sp []) (hr : Room j X.A) (hk : k + 1 ≤ j) (hfi : ∀ f, PySem.W.findIn X.K (.ref C) "__getitem__" = some (some (.ref f)) → PySem.W.fnIn X.K f = true)
    {a b : Expr} (ha : PE X a ta) (hb : PE X b tb) (hsl : ∀ o i, subscripted b true o i = runValue (.builtin "lifetime.subscript" ⟨[o, i], []⟩) := by (intro o i; with_unfolding_all rfl)) :
    PE X (.Subscript a b pos) (fun σ H Q => ta σ H fun y H1 => tb σ H1 fun z H2 => ∃ o dx fs, y = .ref o ∧ H2 o = some (.ins C dx fs) ∧ sp [.ref o, z] H2 Q C8.E0) := by
  refine ⟨fun pins s σ H Q I h => ?_⟩
  refine Subscript_ (binT (R := fun y z H2 => ∃ o dx fs, y = .ref o ∧ H2 o = some (.ins C dx fs) ∧ sp [.ref o, z] H2 Q C8.E0) ha hb I h fun v u s2 y z H2 I2 ry rz q => ?_)
  obtain ⟨o, dx, fs, rfl, ho, hsp⟩ := q
  cases ry
  obtain ⟨f, fd, ps, ds, hc, hm, F, b', d⟩ := c.ex
  obtain ⟨mA, J, _⟩ := ins_get I2.hok ho
  obtain ⟨od, J, _⟩ := J.look
  obtain ⟨mm, hF⟩ := I2.fr
  have hr1 : Room k X.A.in1 := (hr.mono hk).in1
  exact PySem.W.sub_K (K := X.K) hF I2.ok.mod.kin J hm.at_ (hfi _ hm.at_) hm.fn (run_in (E := C8.E0) F hr1 rfl b' d C8.pass0 I2 (vs := [V.ref o, z]) (us := [Value.ref o, u]) (.cons rfl (.cons rz .nil)) hsp) (hsl _ _)
/-- a property of C, its getter's promise -/
structure Prp (P : Program) (w : World) (K : PySem.W.Frag) (mg : Str → Option Value) (base : Heap) (k : Nat) (C : Addr) (f : Str) (sp : Sp) : Prop where
  ex : ∃ (p g : Addr) (fd : FuncData) (ps : List Str), Cls K C ∧ PropOf K C f p g ∧ FnOk P w K mg base C8.CX0 k g fd ps sp ∧ Binds K fd ps []
theorem pe_pr {f : Str} (c : Prp X.prog X.w X.K X.mg X.base k C f sp) (hr : Room j X.A) (hk : k + 1 ≤ j) (he : PE X e ta) (hab : attributeBase e f X.env (eval e X.env) = eval e X.env := by rfl) :
    PE X (.Attribute e f pos) (tProp C sp [] C8.E0 ta) := by
  obtain ⟨p, g, fd, ps, hc, hp, F, b⟩ := c.ex
  exact pe_prop he hc hp F (hr.mono hk) b .nil C8.pass0 hab
/-- a static method of the class at C, C the module's name x -/
structure Sta (P : Program) (w : World) (K : PySem.W.Frag) (mg : Str → Option Value) (base : Heap) (k : Nat) (C : Addr) (m : Str) (sp : Sp) : Prop where
  ex : ∃ (mc : Value) (p g : Addr) (fd : FuncData) (ps : List Str), ClX.CRead K C mc ∧ PySem.W.findCls K (.ref C) mc m = some (.get (.builtin "staticmethod.__get__") (.ref p) .none (.ref C)) ∧ (∃ rest, PySem.W.recIn K p "staticmethod" = some (.ref g :: rest)) ∧
    PySem.W.keepIn K (.ref g) = true ∧ FnOk P w K mg base C8.CX0 k g fd ps sp ∧ Binds K fd ps []
theorem pe_st {pl : Sem Bool} (c : Sta X.prog X.w X.K X.mg X.base k C m sp) (hr : Room j X.A) (hk : k ≤ j) (he : PE X o (tC (.ref C))) (ha : PA X (e :: es) t)
    (hst : starEach (e :: es) X.env = (false, eval e X.env) :: starEach es X.env := by rfl) (hpl : (backTo pos (starEach es X.env)).any (·.1) = false := by rfl)
    (ht : eval (.Call (.Attribute o m apos) (e :: es) [] pos) X.env = (do
      let ov ← eval o X.env
      standAt apos.atName
      let (f, first) ← holding [ov] (getMethod ov m pl)
      callWith pos f first (backTo pos (starEach (e :: es) X.env)) (backToKw pos (keywordEach [] X.env))) := by rfl) :
    PE X (.Call (.Attribute o m apos) (e :: es) [] pos) (tCall sp [] C8.E0 t) := by
  obtain ⟨mc, p, g, fd, ps, r, at_, ⟨rest, rc⟩, kp, F, b⟩ := c.ex
  refine ⟨fun pins s σ H Q I h => ?_⟩
  refine PySem.W.methodCall_KW (pl := pl) (thn (he.run pins s σ H (fun v H' => v = .ref C ∧ t σ H' fun vs H1 => sp (vs ++ []) H1 Q C8.E0) I ⟨rfl, h⟩) fun u s1 ⟨x, H1, I1, rx, ex, q⟩ => ?_) ht
  subst ex
  obtain rfl : u = Value.ref C := rx
  refine PySem.W.method_cls I1.kIn r.ga ?_
  refine PySem.W.cls_bind I1.kIn r.rd at_ ?_
  refine wpAny_call (PySem.W.sm_get (s := { s1 with toks := s1.toks + 1 }) I1.kIn rc (PySem.W.handed_on rfl ?_))
  have I2 := I1.tok (s1.toks + 1)
  refine PySem.W.callWith_K (first := []) (h₀ := X.base) I.ok.mod.kin kp (thn (ha.run pos pins _ σ H1 _ I2 q) fun us s2 ⟨vs, H2, I2, r, q2⟩ => ⟨I2.kIn, ?_⟩) hst hpl
  exact run_fn (us := us) (vs := vs) F (hr.mono hk) b .nil C8.pass0 I2 r q2
end
end Ag
set_option maxHeartbeats 4000000
namespace Ag
open PySem PySem.Spec PyProof.Rows L2
open C8 (Cal Met Mak pe_c pe_mt pe_mt0 pe_mk)
section
variable {X : Cx} {k j : Nat} {C : Addr} {x m : Str} {sp : Sp}
/-- the built-in object.__ne__ by an own __eq__ -/
theorem rcNe_own {prog : Program} {w : World} {A : Around} {E : Value → Shared → Prop} {s : Shared} {K : PySem.W.Frag} {x y C f : Addr} {ox oy : Obj} {od ody : Option Obj} {Q : Value → Shared → Prop}
    (hu : A.units + 1 < cLine) (X : K.In s.heap) (I : PySem.W.InstAt s.heap x ox C od) (J : PySem.W.InstAt s.heap y oy C ody)
    (hn : PySem.W.findIn K (.ref C) "__ne__" = some (some (.builtin "object.__ne__"))) (hs : PySem.W.findIn K (.ref C) "__eq__" = some (some (.ref f))) (hf : PySem.W.isFn K (.ref f) = true) (ho : PySem.W.mroIn K C (.type "object") = some true)
    (h : wpAny (model prog w) A.in1 (call (.ref f) [.ref x, .ref y]) (fun v s' => ∃ b, v = .bool b ∧ Q (.bool (!b)) s') E s) : wpAny (model prog w) A (richCompare .NotEq (.ref x) (.ref y)) Q E s := by
  have sp : PySem.W.Looks (model prog w) s.heap (specialOf (.ref x) "__ne__") (some (.builtin "object.__ne__")) := I.type.andThen (PySem.W.looks_findIn X hn)
  have one : wpAny (model prog w) A (tryCompare (.ref x) "__ne__" (.ref y)) (fun r s' => ∃ v, r = some v ∧ Q v s') E s := by
    unfold tryCompare
    refine wpAny_bind (NtL.csib (args := [.ref y]) sp (PySem.F.cmp_object.ne.bind _) (wpAny_call (codeAny_call_builtin PySem.F.cmp_object.ne.plain PySem.F.cmpEntry_ne
      (@PySem.W.check_slot (model prog w) _ _ _ "object.__ne__" "object" "__ne__" (.ref x) [.ref y] [] _ PySem.F.cmpKind_ne PySem.F.cmpSplit_ne (I.type.andThen (PySem.W.looks_mroIn X ho)) (PySem.F.cmpArgs_ne _ _) ?_))))
    unfold Builtin.«object.__ne__»
    repeat (first
      | with_reducible refine wpAny_cRoomFor (show A.in1.units < cLine from hu) ?_
      | (refine wpAny_bind (m := callSpecialIfBound? (.ref x) (Str.ofString "__eq__") [.ref y]) (PySem.W.ifBound_K X I hs hf (wpAny_mono h (fun v s' hv => ?_) fun _ _ e => e))
         obtain ⟨b, rfl, hq⟩ := hv)
      | exact wpAny_truthy_bool (wpAny_pure ⟨_, rfl, wpAny_pure ⟨_, rfl, hq⟩⟩)
      | (refine wpAny_bind (m := truthy (.bool _)) (wpAny_truthy_bool ?_))
      | wp_step)
    all_goals exact ⟨_, rfl, hq⟩
  unfold richCompare
  simp only [oneThing_ref]
  refine wpAny_holding (wpAny_bind (wpAny_cRoomFor (Nat.lt_of_succ_lt hu) ?_))
  refine wpAny_bind (I.type.here (wpAny_bind (J.type.here ?_)))
  split
  · rename_i q
    simp at q
  · refine wpAny_bind (wpAny_pure ?_)
    simp only [Bool.false_eq_true, if_false]
    refine wpAny_bind (wpAny_mono one (fun r s' z => ?_) fun _ _ e => e)
    obtain ⟨v, rfl, hq⟩ := z
    exact wpAny_pure hq
/-- a != b of two instances of C that has an own __eq__ -/
theorem op_neI (c : Met X.prog X.w X.K X.mg X.base k C "__eq__" sp []) (hr : Room j X.A) (hk : k + 1 ≤ j)
    (hn : PySem.W.findIn X.K (.ref C) "__ne__" = some (some (.builtin "object.__ne__"))) (ho : PySem.W.mroIn X.K C (.type "object") = some true) :
    OpR X (compareOp .NotEq) (fun x y H Q => ∃ a b dx dy fs gs, x = .ref a ∧ y = .ref b ∧ H a = some (.ins C dx fs) ∧ H b = some (.ins C dy gs) ∧ sp [.ref a, .ref b] H (fun v H' => ∃ r, v = .bl r ∧ Q (.bl (!r)) H') C8.E0) := by
  intro pins s σ H x y v u Q I rx ry h
  obtain ⟨a, b, dx, dy, fs, gs, rfl, rfl, ha, hb, hsp⟩ := h
  obtain ⟨f, fd, ps, ds, hc, hm, F, b', d⟩ := c.ex
  cases rx
  cases ry
  obtain ⟨mA, J, _⟩ := ins_get I.hok ha
  obtain ⟨od, J, _⟩ := J.look
  obtain ⟨mB, J', _⟩ := ins_get I.hok hb
  obtain ⟨od', J', _⟩ := J'.look
  have hr1 : Room k X.A.in1 := (hr.mono hk).in1
  have hu : X.A.units + 1 < cLine := hu_of hr
  show wpAny (model X.prog X.w) X.A (richCompare .NotEq (.ref a) (.ref b)) (EP X pins σ Q) X.xe s
  refine rcNe_own hu I.kIn J J' hn hm.at_ hm.fn ho (wpAny_mono (run_in (E := C8.E0) F hr1 rfl b' d C8.pass0 I (vs := [V.ref a, V.ref b]) (us := [Value.ref a, Value.ref b]) (.cons rfl (.cons rfl .nil)) hsp) (fun v s' hv => ?_) fun _ _ z => z)
  obtain ⟨v', H', I', rv, r, rfl, hq⟩ := hv
  cases rv
  exact ⟨r, rfl, .bl (!r), H', I', rfl, hq⟩
/-- d.update(e), two dicts with int and text keys -/
def rDUpd : V → List V → Hp → VK → Prop := fun x vs H Q => ∃ (a b : Addr) (kvs more : List (Key × V)), x = .ref a ∧ vs = [.ref b] ∧ H a = some (.dK kvs) ∧ H b = some (.dK more) ∧ a ≠ b ∧ kvs.length + more.length ≤ sizeLine ∧ Q .non (upd H a (.dK (mergeK kvs more)))
theorem mt_update : MtR X "dict.update" rDUpd := by
  intro pins s σ H x vs v us Q I rx rv h
  obtain ⟨a, b, kvs, more, rfl, rfl, ha, hb, hne, hz, q⟩ := h
  obtain ⟨u, rfl, ru⟩ := Vals.one rv
  cases rx
  cases ru
  obtain ⟨z, hd, vs, rel, dd⟩ := dk_of I.hok ha
  obtain ⟨z2, hd2, vs2, rel2, dd2⟩ := dk_of I.hok hb
  refine call_meetsIn PySem.F.slot_dict_update dd.typeIs PySem.F.entry_dict_update (PySem.F.args_dict_update_2 _ _) (meets_dict_update (mixKind X.prog X.w) a b hne hd2)
    ⟨vs, vs2, dd, dd2, (by rw [← rel.length, ← rel2.length]; exact hz), fun h' dd' _ hs => ?_⟩
  have he : ∃ q, h'.get? a = some q := let ⟨q, _, _, hq, _⟩ := dd'; ⟨q, hq⟩
  exact ⟨.non, _, d_write (t' := s.toks) I (by rw [ha]; exact True.intro) hs he (dk_new (Nat.le_trans (length_mergeK _ _) hz) hd (KV.merge rel2 rel) dd'), rfl, q⟩
end
end Ag
set_option maxHeartbeats 4000000
namespace Ag
open PySem PySem.Spec PyProof.Rows L2
set_option maxHeartbeats 1000000 in
theorem meets_enum1 {v : Value} {o : Obj} {H : Heap → Prop} (B : Begins v o H) :
    Meets (Builtin.«enumerate.__new__» ⟨[.type "enumerate", v], []⟩) (fun _ R s => H s.heap ∧
      R (.ok (.ret (.ref (s.heap.push o).objs.size))) { s with heap := (s.heap.push o).push { cls := .type "enumerate", data := .fields #[.none, .bool false, .ref s.heap.objs.size, rawInt 0, .none, .none] } }) :=
  .of_wp fun prog w A R s h => by
    obtain ⟨hp, g, d, tk, os⟩ := s; obtain ⟨h1, h⟩ := h
    have hsub := sub_enumerate
    have q1 : ∀ {A' : Around} {E : Value → Shared → Prop} {Q : Value → Shared → Prop}, Q (.ref hp.objs.size) ⟨hp.push o, g, d, tk, os⟩ → wpAny (model prog w) A' (pyIter v) Q E ⟨hp, g, d, tk, os⟩ :=
      fun q => B.iter prog w _ _ ⟨hp, g, d, tk, os⟩ _ h1 q
    wp_walk using q1
    refine wpAny_stack_any fun st => wpAny_pure ?_
    split
    · rename_i c _ _ _ _ _
      cases (c == Value.type "enumerate")
      · wp_walk using q1
        exact ⟨_, rfl, h⟩
      · wp_walk using q1
        exact ⟨_, rfl, h⟩
    · wp_walk using q1
      exact ⟨_, rfl, h⟩
section
variable {prog : Program} {w : World} {A : Around} {E : Value → Shared → Prop} {s : Shared}
theorem enum_begins1 {v : Value} {o : Obj} {H : Heap → Prop} {Q : Value → Shared → Prop} (B : Begins v o H) (h1 : H s.heap)
    (h : ∀ h', IsEnum h' (s.heap.objs.size + 1) s.heap.objs.size 0 .none → h'.get? s.heap.objs.size = some o → h'.objs.size = s.heap.objs.size + 2 →
      (∀ b o, s.heap.get? b = some o → h'.get? b = some o) → Q (.ref (s.heap.objs.size + 1)) { s with heap := h' }) :
    wpAny (model prog w) A (call (.type "enumerate") [v]) Q E s := by
  refine callType_new F.called_enumerate (by decide) (F.typeCall_enumerate_1 _) (F.newCall_enumerate_1 _) (fun obj => F.args_object_init_2 obj _) F.entry_enumerate_new
    (meets_enum1 B) ⟨h1, ?_⟩
  have hz : (s.heap.push o).objs.size = s.heap.objs.size + 1 := Heap.size_push ..
  show _ ∧ _
  rw [hz]
  have he : IsEnum ((s.heap.push o).push { cls := .type "enumerate", data := .fields #[.none, .bool false, .ref s.heap.objs.size, rawInt 0, .none, .none] }) (s.heap.objs.size + 1) s.heap.objs.size 0 .none := by
    have := Heap.get?_push_size (s.heap.push o) (o := { cls := .type "enumerate", data := .fields #[.none, .bool false, .ref s.heap.objs.size, rawInt 0, .none, .none] }) rfl
    rw [hz] at this; exact this
  refine ⟨⟨_, he, rfl⟩, h _ he (Heap.get?_push_of_some _ (Heap.get?_push_size _ B.free)) (by rw [Heap.size_push, hz]) fun b o x => Heap.get?_push_of_some _ (Heap.get?_push_of_some _ x)⟩
end
/-- enumerate(t), t a tuple: new pairs -/
def IteT (K : PySem.W.Frag) (a : Addr) : It :=
  ⟨fun i H => ∃ xs x, SqT K H a xs ∧ xs[i]? = some x, fun i H v H' => ∃ T x, v = .ref T ∧ H T = none ∧ H' = upd H T (.tup [.int (i : Nat), x]) ∧ ∀ xs, SqT K H a xs → xs[i]? = some x, fun i H => ∃ xs, SqT K H a xs ∧ xs.length ≤ i⟩
theorem tup_is {h : Heap} {a : Addr} {items : Array Value} (p : IsTup h a items) : h.IsTuple a items := by
  obtain ⟨o, ho, hc, n, hd⟩ := p
  exact ⟨o, ho, hc, n, hd⟩
theorem turn_enumT {P : Program} {w : World} {K : PySem.W.Frag} {elts : List Expr} {kk : Nat} {tpos : Pos} (a e it : Addr) :
    Turn P w K (.Tuple elts kk tpos) (IteT K a) [e, it] e (fun i h => (∃ old, IsEnum h e it ((i : Nat) : Int) old) ∧ h.IsTupleIter it a i ∧ e ≠ it) where
  mem := by simp
  obj := fun i h st b hb => by
    obtain ⟨⟨old, he⟩, ⟨o, ho, hc, hd⟩, _⟩ := st
    have e' : b = e ∨ b = it := by simpa using hb
    rcases e' with z | z
    · rw [z]; exact ⟨_, he, fun v q => nomatch q⟩
    · rw [z]; exact ⟨o, ho, fun v q => by rw [hd] at q; cases q⟩
  keep := fun i h h' st k => let ⟨⟨old, he⟩, hi, hne⟩ := st; ⟨⟨old, k e (by simp) _ he⟩, hi.at fun o q => k it (by simp) o q, hne⟩
  item := by
    intro X hP hw hK hc i pins s σ H E I hf st hg
    subst hP hw hK
    obtain ⟨⟨old, he⟩, hit, hne⟩ := st
    obtain ⟨xs, x, hq, hx⟩ := hg
    obtain ⟨its, rv, p, hz⟩ := I.tuple hq
    obtain ⟨u, hu, ru⟩ := rv.get hx
    have hel : e < s.heap.objs.size := Heap.lt_size he
    have hil : it < s.heap.objs.size := by obtain ⟨_, q, _⟩ := hit; exact Heap.lt_size q
    have hpt := tup_is p
    have hal : a < s.heap.objs.size := by obtain ⟨o, ho, _⟩ := hpt; exact Heap.lt_size ho
    have hae : a ≠ e := fun z => by
      obtain ⟨o, ho, hc, _⟩ := hpt
      rw [z] at ho
      have := ho.symm.trans he
      cases this
      simp at hc
    have hai : a ≠ it := fun z => by
      obtain ⟨o, ho, hc, _⟩ := hpt
      obtain ⟨o2, ho2, hc2, _⟩ := hit
      rw [z] at ho
      have := ho.symm.trans ho2
      cases this
      rw [hc] at hc2
      simp at hc2
    have hlt : i < its.toArray.size := by
      have := (List.getElem?_eq_some_iff.mp hu).1
      simpa using this
    have D := Draws.tuple (prog := X.prog) (w := X.w) (A := X.A.in1) (hh := I.ok.hd hc) it a hai its.toArray
    refine wpAny_pyNext_enum_itemD D he ⟨hit, hpt⟩ hlt hne (by simp [hne, Ne.symm hae]) fun x' h' tk hP ho hs' hT hsz hk => ?_
    have hxu : x' = u := by
      have h1 : its[i]? = some x' := by simpa using hP
      rw [hu] at h1
      exact (Option.some.inj h1).symm
    subst hxu
    refine ⟨_, rfl, wpAny_letOwnedTupleGo_enum (s := { s with heap := h', toks := tk + 1 }) ho fun h'' he' sb => ?_⟩
    have hT2 : h''.get? s.heap.objs.size = some { cls := .type "tuple", data := .seq #[.int i tk, x'] } := (sb.2 _ (Nat.ne_of_gt hel)).trans hT
    have new : ObjOk X.prog X.w (upd H s.heap.objs.size (.tup [.int (i : Nat), x])) h'' s.heap.objs.size (.tup [.int (i : Nat), x]) :=
      ⟨by show 2 ≤ sizeLine; decide, [.int i tk, x'], .cons ⟨_, rfl⟩ (.cons ru .nil), ⟨_, hT2, rfl, _, rfl⟩⟩
    have I1 : Inv X pins σ (upd H s.heap.objs.size (.tup [.int (i : Nat), x])) { s with heap := h'', toks := tk + 1 } :=
      I.turnedNew (ch := [e, it]) (fun b ob hb q => (sb.2 b (fun z => hb (by simp [z]))).trans (hk b ob (fun z => hb (by simp [z])) (fun z => hb (by simp [z])) q)) hf (Nat.le_refl _) new
    refine ⟨.ref s.heap.objs.size, _, I1, rfl, ⟨_, x, rfl, I.hok.fresh (Nat.le_refl _), rfl, fun ys hy => by rw [I.tuple_inj hy hq]; exact hx⟩, ⟨⟨x', ?_⟩, hs'.1.at fun o q => (sb.2 it (Ne.symm hne)).trans q, hne⟩, fun b hb => ?_⟩
    · have e1 : ((i + 1 : Nat) : Int) = (i : Int) + 1 := by omega
      rw [e1]; exact he'
    · have hb' : b < s.heap.objs.size := by
        have e' : b = e ∨ b = it := by simpa using hb
        rcases e' with z | z
        · rw [z]; exact hel
        · rw [z]; exact hil
      rw [upd_ne (Nat.ne_of_lt hb')]
      exact (hf b hb).1
  done := by
    intro X hP hw hK hc i pins s σ H E I hf st hg
    subst hP hw hK
    obtain ⟨⟨old, he⟩, hit, hne⟩ := st
    obtain ⟨xs, hq, hx⟩ := hg
    obtain ⟨its, rv, p, hz⟩ := I.tuple hq
    obtain ⟨f0, f1, f2, f3, f4, f5⟩ := hf it (by simp)
    have hl := rv.length
    have hT : s.TypeIs (.ref e) "enumerate" := ⟨_, he, rfl⟩
    unfold pyNext
    refine wpAny_bind (wpAny_attempt (wpAny_callSpecial?_slot (name := Str.ofString "__next__") hT F.slot_enumerate_next
      (wpAny_call_entry F.slot_enumerate_next hT F.entry_enumerate_next ?_ (F.args_enumerate_next_1 _))))
    show wpAny _ _ (field (.ref e) 2 >>= _) _ _ _
    refine wpAny_bind (wpAny_field he rfl (x := .ref it) rfl ?_)
    refine wpAny_bind (wpAny_nextOf_tuple_end (I.ok.hd hc) hit (tup_is p) (by simp; omega) fun h' x he' hx' => ?_)
    obtain ⟨o, ho, hc⟩ := hx'
    refine wpAny_bind (wpAny_isInstance (T := "StopIteration") (b := true) ⟨o, ho, hc⟩ isSubtype_stop ?_)
    exact wpAny_pure ⟨rfl, I.turned (t' := s.toks) (fun b o hb q => he' b o hb q) f0 f1 f3 f4 f5⟩
  self := fun A i s Q E st hQ => by
    obtain ⟨⟨old, he⟩, _⟩ := st
    exact wpAny_pyIter_enum he hQ
def iEnumT (K : PySem.W.Frag) (ta : TA) : TI := fun σ H R => ta σ H fun vs H1 => ∃ a xs, vs = [.ref a] ∧ SqT K H1 a xs ∧ R (IteT K a) H1
theorem pi_enumT {X : Cx} {e : Expr} {ta : TA} {p pos tpos : Pos} {elts : List Expr} {kk : Nat} (hg : Gl X "enumerate") (hm : X.mg "enumerate" = none) (ha : PA X [e] ta) (hs : starEach [e] X.env = [(false, eval e X.env)] := by rfl) :
    PI X (.Tuple elts kk tpos) (.Call (.Name "enumerate" p) [e] [] pos) (iEnumT X.K ta) := by
  refine ⟨fun pins s σ H R I h => ?_⟩
  refine Call_ (ld_blt I hg hm boot_enumerate (PyProof.Rows.callWith_type1 (thn (ha.run pos pins s σ H _ I h) fun us s1 ⟨vs, H1, I1, r1, q1⟩ => ?_) hs rfl))
  obtain ⟨a, xs, ex, hq, q⟩ := q1
  subst ex
  cases r1 with
  | cons r rr =>
    cases rr
    cases r
    obtain ⟨its, rv, p', hz⟩ := I1.tuple hq
    have hpt := tup_is p'
    refine enum_begins1 (begins_tuple a its.toArray) hpt fun h' he hit hsz hk => wpAny_pyIter_enum he ?_
    have I2 : Inv X pins σ H1 { s1 with heap := h' } := I1.kept (t' := s1.toks) hk
    refine ⟨s1.heap.objs.size + 1, [s1.heap.objs.size + 1, s1.heap.objs.size], _, _, H1, rfl, I2, turn_enumT a (s1.heap.objs.size + 1) s1.heap.objs.size, ⟨⟨.none, he⟩, ⟨_, hit, rfl, rfl⟩, Nat.succ_ne_self _⟩, fun b hb => ?_, q⟩
    have e' : b = s1.heap.objs.size + 1 ∨ b = s1.heap.objs.size := by simpa using hb
    have hle : s1.heap.objs.size ≤ b := by
      rcases e' with z | z
      · rw [z]; exact Nat.le_add_right _ _
      · rw [z]; exact Nat.le_refl _
    exact I1.fpOk hle (I1.hok.fresh hle)
theorem walk_enumT {K : PySem.W.Frag} {a : Addr} {xs : List V} : Walk (IteT K a) xs.length (fun H => SqT K H a xs) (YPair (fun i => some (.int (i : Nat))) (fun i => xs[i]?)) := by
  refine ⟨fun i _ hi q => ⟨xs, xs[i], q, by simp [hi]⟩, fun _ q => ⟨xs, q, Nat.le_refl _⟩, fun i H v H' _ q y => ?_⟩
  obtain ⟨T, x, h1, h2, h3, h4⟩ := y
  exact ⟨T, .int (i : Nat), x, h1, h2, h3, rfl, h4 xs q⟩
end Ag
set_option maxHeartbeats 4000000
/-! The text by places, the facts that the top leaves. Printed by gentop.py. -/
namespace Ag
open PySem PySem.Spec PyProof.Rows L2
open C8 (Cal Met Mak)
def top (i : Nat) : Stmt := PySem.Challenge.pw_agedfiles_k63_whole_chains_of_seldom_rea.main.body.getD i (.Pass ⟨0, 0, 0, 0⟩)
abbrev s_is_whole : Stmt := top 13
abbrev s_is_between : Stmt := top 14
abbrev s_is_count : Stmt := top 15
abbrev s_is_listed : Stmt := top 16
abbrev s_is_part_of : Stmt := top 17
abbrev s_check_rule : Stmt := top 27
abbrev s_is_pair : Stmt := top 29
abbrev s_joined : Stmt := top 30
abbrev s_is_time : Stmt := top 40
abbrev s_is_deed : Stmt := top 41
abbrev s_makes : Stmt := top 42
abbrev s_is_looks : Stmt := top 43
abbrev s_all_looks : Stmt := top 44
abbrev s_backs : Stmt := top 45
abbrev s_is_arrow : Stmt := top 50
abbrev s_reached_from : Stmt := top 51
abbrev s_check_way : Stmt := top 53
abbrev s_check_node : Stmt := top 54
abbrev s_smeared : Stmt := top 56
abbrev s_passed : Stmt := top 57
abbrev s_next_bits : Stmt := top 58
abbrev s_bits_of : Stmt := top 59
abbrev s_stretches_of : Stmt := top 60
abbrev s_ages_of_read : Stmt := top 61
abbrev s_all_ages : Stmt := top 62
abbrev s_surely_set : Stmt := top 64
abbrev s_is_more : Stmt := top 65
abbrev s_least_table : Stmt := top 67
abbrev s_one_least : Stmt := top 68
abbrev s_check_looks : Stmt := top 69
abbrev s_greatest_age : Stmt := top 70
abbrev s_least_age : Stmt := top 71
abbrev s_is_value : Stmt := top 79
abbrev s_check_parts : Stmt := top 80
abbrev s_check_book : Stmt := top 83
abbrev s_check_all : Stmt := top 86
abbrev s_counts : Stmt := top 88
abbrev s_seen_most : Stmt := top 89
abbrev s_greatest_seen : Stmt := top 90
abbrev s_until : Stmt := top 92
abbrev s_stay : Stmt := top 93
abbrev s_law_source : Stmt := top 95
abbrev s_law_draw : Stmt := top 96
abbrev s_law_pick : Stmt := top 97
abbrev s_law_sets : Stmt := top 99
abbrev s_law_backs : Stmt := top 100
abbrev s_law_done : Stmt := top 101
abbrev s_law_maker : Stmt := top 102
abbrev s_law_user : Stmt := top 103
abbrev s_law_chain : Stmt := top 104
abbrev s_law_lives : Stmt := top 105
abbrev s_law : Stmt := top 106
abbrev s_Rule_init : Stmt := inClass (top 26) 0
abbrev s_Rule_seldom : Stmt := inClass (top 26) 3
abbrev s_Rule_word : Stmt := inClass (top 26) 4
abbrev s_Rule_after : Stmt := inClass (top 26) 5
abbrev s_Stretches_init : Stmt := inClass (top 35) 0
abbrev s_Stretches_eq : Stmt := inClass (top 35) 8
abbrev s_Stretches_least : Stmt := inClass (top 35) 14
abbrev s_Stretches_greatest : Stmt := inClass (top 35) 15
abbrev s_Stretches_one : Stmt := inClass (top 35) 21
abbrev s_Way_init : Stmt := inClass (top 52) 0
abbrev s_Way_arrows : Stmt := inClass (top 52) 2
abbrev s_Way_getitem : Stmt := inClass (top 52) 3
abbrev s_Way_len : Stmt := inClass (top 52) 5
abbrev s_Way_into : Stmt := inClass (top 52) 7
abbrev s_Ages_init : Stmt := inClass (top 66) 0
abbrev s_Ages_is_told : Stmt := inClass (top 66) 1
abbrev s_Ages_rest_of : Stmt := inClass (top 66) 2
abbrev s_Ages_nearest : Stmt := inClass (top 66) 3
abbrev s_Ages_arriving : Stmt := inClass (top 66) 4
abbrev s_Ages_settled : Stmt := inClass (top 66) 5
abbrev s_Ages_table : Stmt := inClass (top 66) 6
abbrev s_Ages_walked : Stmt := inClass (top 66) 7
abbrev s_Book_init : Stmt := inClass (top 82) 0
abbrev s_Book_threshold : Stmt := inClass (top 82) 26
abbrev s_Book_bound : Stmt := inClass (top 82) 2
abbrev s_Book_looks : Stmt := inClass (top 82) 4
abbrev s_Book_how : Stmt := inClass (top 82) 6
abbrev s_Book_day : Stmt := inClass (top 82) 8
abbrev s_Book_grain : Stmt := inClass (top 82) 10
abbrev s_Book_spares : Stmt := inClass (top 82) 12
abbrev s_Book_late : Stmt := inClass (top 82) 14
abbrev s_Book_again : Stmt := inClass (top 82) 16
abbrev s_Book_period : Stmt := inClass (top 82) 18
abbrev N_is_whole : List Str := ["value"]
theorem sc_is_whole : FnScope N_is_whole ["value"] (L2.defScope s_is_whole) := ⟨rfl, rfl, rfl, by decide +kernel, rfl, by decide +kernel, by decide +kernel⟩
abbrev N_is_between : List Str := ["value", "low", "high"]
theorem sc_is_between : FnScope N_is_between ["value", "low", "high"] (L2.defScope s_is_between) := ⟨rfl, rfl, rfl, by decide +kernel, rfl, by decide +kernel, by decide +kernel⟩
abbrev N_is_count : List Str := ["value"]
theorem sc_is_count : FnScope N_is_count ["value"] (L2.defScope s_is_count) := ⟨rfl, rfl, rfl, by decide +kernel, rfl, by decide +kernel, by decide +kernel⟩
abbrev N_is_listed : List Str := ["value"]
theorem sc_is_listed : FnScope N_is_listed ["value"] (L2.defScope s_is_listed) := ⟨rfl, rfl, rfl, by decide +kernel, rfl, by decide +kernel, by decide +kernel⟩
abbrev N_is_part_of : List Str := ["value", "words"]
theorem sc_is_part_of : FnScope N_is_part_of ["value", "words"] (L2.defScope s_is_part_of) := ⟨rfl, rfl, rfl, by decide +kernel, rfl, by decide +kernel, by decide +kernel⟩
abbrev N_check_rule : List Str := ["value"]
theorem sc_check_rule : FnScope N_check_rule ["value"] (L2.defScope s_check_rule) := ⟨rfl, rfl, rfl, by decide +kernel, rfl, by decide +kernel, by decide +kernel⟩
abbrev N_is_pair : List Str := ["value"]
theorem sc_is_pair : FnScope N_is_pair ["value"] (L2.defScope s_is_pair) := ⟨rfl, rfl, rfl, by decide +kernel, rfl, by decide +kernel, by decide +kernel⟩
abbrev N_joined : List Str := ["pairs", "ends", "low", "high", "found"]
theorem sc_joined : FnScope N_joined ["pairs"] (L2.defScope s_joined) := ⟨rfl, rfl, rfl, by decide +kernel, rfl, by decide +kernel, by decide +kernel⟩
abbrev N_is_time : List Str := ["value"]
theorem sc_is_time : FnScope N_is_time ["value"] (L2.defScope s_is_time) := ⟨rfl, rfl, rfl, by decide +kernel, rfl, by decide +kernel, by decide +kernel⟩
abbrev N_is_deed : List Str := ["value"]
theorem sc_is_deed : FnScope N_is_deed ["value"] (L2.defScope s_is_deed) := ⟨rfl, rfl, rfl, by decide +kernel, rfl, by decide +kernel, by decide +kernel⟩
abbrev N_makes : List Str := ["value"]
theorem sc_makes : FnScope N_makes ["value"] (L2.defScope s_makes) := ⟨rfl, rfl, rfl, by decide +kernel, rfl, by decide +kernel, by decide +kernel⟩
abbrev N_is_looks : List Str := ["value"]
theorem sc_is_looks : FnScope N_is_looks ["value"] (L2.defScope s_is_looks) := ⟨rfl, rfl, rfl, by decide +kernel, rfl, by decide +kernel, by decide +kernel⟩
abbrev N_all_looks : List Str := ["found", "mark", "looks"]
theorem sc_all_looks : FnScope N_all_looks [] (L2.defScope s_all_looks) := ⟨rfl, rfl, rfl, by decide +kernel, rfl, by decide +kernel, by decide +kernel⟩
abbrev N_backs : List Str := ["deed", "word"]
theorem sc_backs : FnScope N_backs ["deed"] (L2.defScope s_backs) := ⟨rfl, rfl, rfl, by decide +kernel, rfl, by decide +kernel, by decide +kernel⟩
abbrev N_is_arrow : List Str := ["value", "nodes", "word"]
theorem sc_is_arrow : FnScope N_is_arrow ["value", "nodes"] (L2.defScope s_is_arrow) := ⟨rfl, rfl, rfl, by decide +kernel, rfl, by decide +kernel, by decide +kernel⟩
abbrev N_reached_from : List Str := ["nodes", "arrows", "found", "node", "turn", "start", "goal", "least", "most", "word"]
theorem sc_reached_from : FnScope N_reached_from ["nodes", "arrows"] (L2.defScope s_reached_from) := ⟨rfl, rfl, rfl, by decide +kernel, rfl, by decide +kernel, by decide +kernel⟩
abbrev N_check_way : List Str := ["value"]
theorem sc_check_way : FnScope N_check_way ["value"] (L2.defScope s_check_way) := ⟨rfl, rfl, rfl, by decide +kernel, rfl, by decide +kernel, by decide +kernel⟩
abbrev N_check_node : List Str := ["way", "node"]
theorem sc_check_node : FnScope N_check_node ["way", "node"] (L2.defScope s_check_node) := ⟨rfl, rfl, rfl, by decide +kernel, rfl, by decide +kernel, by decide +kernel⟩
abbrev N_smeared : List Str := ["bits", "many", "done", "step"]
theorem sc_smeared : FnScope N_smeared ["bits", "many"] (L2.defScope s_smeared) := ⟨rfl, rfl, rfl, by decide +kernel, rfl, by decide +kernel, by decide +kernel⟩
abbrev N_passed : List Str := ["bits", "least", "most", "after", "last", "spread", "young"]
theorem sc_passed : FnScope N_passed ["bits", "least", "most", "after"] (L2.defScope s_passed) := ⟨rfl, rfl, rfl, by decide +kernel, rfl, by decide +kernel, by decide +kernel⟩
abbrev N_next_bits : List Str := ["way", "after", "bits", "node", "found", "start", "goal", "least", "most", "word"]
theorem sc_next_bits : FnScope N_next_bits ["way", "after", "bits", "node"] (L2.defScope s_next_bits) := ⟨rfl, rfl, rfl, by decide +kernel, rfl, by decide +kernel, by decide +kernel⟩
abbrev N_bits_of : List Str := ["way", "after", "reads", "node", "bits", "is_new", "found"]
theorem sc_bits_of : FnScope N_bits_of ["way", "after"] (L2.defScope s_bits_of) := ⟨rfl, rfl, rfl, by decide +kernel, rfl, by decide +kernel, by decide +kernel⟩
abbrev N_stretches_of : List Str := ["bits", "pairs", "at"]
theorem sc_stretches_of : FnScope N_stretches_of ["bits"] (L2.defScope s_stretches_of) := ⟨rfl, rfl, rfl, by decide +kernel, rfl, by decide +kernel, by decide +kernel⟩
abbrev N_ages_of_read : List Str := ["way", "rule", "node"]
theorem sc_ages_of_read : FnScope N_ages_of_read ["way", "rule", "node"] (L2.defScope s_ages_of_read) := ⟨rfl, rfl, rfl, by decide +kernel, rfl, by decide +kernel, by decide +kernel⟩
abbrev N_all_ages : List Str := ["way", "rule", "node", "bits"]
theorem sc_all_ages : FnScope N_all_ages ["way", "rule"] (L2.defScope s_all_ages) := ⟨rfl, rfl, rfl, by decide +kernel, rfl, by decide +kernel, by decide +kernel⟩
abbrev N_surely_set : List Str := ["way", "rule", "node", "deed"]
theorem sc_surely_set : FnScope N_surely_set ["way", "rule", "node"] (L2.defScope s_surely_set) := ⟨rfl, rfl, rfl, by decide +kernel, rfl, by decide +kernel, by decide +kernel⟩
abbrev N_is_more : List Str := ["one", "other"]
theorem sc_is_more : FnScope N_is_more ["one", "other"] (L2.defScope s_is_more) := ⟨rfl, rfl, rfl, by decide +kernel, rfl, by decide +kernel, by decide +kernel⟩
abbrev N_least_table : List Str := ["way", "rule", "looks", "read_ages", "tables", "mark", "table", "node"]
theorem sc_least_table : FnScope N_least_table ["way", "rule", "looks"] (L2.defScope s_least_table) := ⟨rfl, rfl, rfl, by decide +kernel, rfl, by decide +kernel, by decide +kernel⟩
abbrev N_one_least : List Str := ["way", "rule", "mark", "read_ages", "found", "node", "free", "turn", "start", "goal", "least", "most", "word"]
theorem sc_one_least : FnScope N_one_least ["way", "rule", "mark", "read_ages"] (L2.defScope s_one_least) := ⟨rfl, rfl, rfl, by decide +kernel, rfl, by decide +kernel, by decide +kernel⟩
abbrev N_check_looks : List Str := ["way", "rule", "looks", "node"]
theorem sc_check_looks : FnScope N_check_looks ["way", "rule", "looks", "node"] (L2.defScope s_check_looks) := ⟨rfl, rfl, rfl, by decide +kernel, rfl, by decide +kernel, by decide +kernel⟩
abbrev N_greatest_age : List Str := ["way", "rule", "looks", "node"]
theorem sc_greatest_age : FnScope N_greatest_age ["way", "rule", "looks", "node"] (L2.defScope s_greatest_age) := ⟨rfl, rfl, rfl, by decide +kernel, rfl, by decide +kernel, by decide +kernel⟩
abbrev N_least_age : List Str := ["way", "rule", "looks", "node"]
theorem sc_least_age : FnScope N_least_age ["way", "rule", "looks", "node"] (L2.defScope s_least_age) := ⟨rfl, rfl, rfl, by decide +kernel, rfl, by decide +kernel, by decide +kernel⟩
abbrev N_is_value : List Str := ["part", "value"]
theorem sc_is_value : FnScope N_is_value ["part", "value"] (L2.defScope s_is_value) := ⟨rfl, rfl, rfl, by decide +kernel, rfl, by decide +kernel, by decide +kernel⟩
abbrev N_check_parts : List Str := ["parts", "part"]
theorem sc_check_parts : FnScope N_check_parts ["parts"] (L2.defScope s_check_parts) := ⟨rfl, rfl, rfl, by decide +kernel, rfl, by decide +kernel, by decide +kernel⟩
abbrev N_check_book : List Str := ["value"]
theorem sc_check_book : FnScope N_check_book ["value"] (L2.defScope s_check_book) := ⟨rfl, rfl, rfl, by decide +kernel, rfl, by decide +kernel, by decide +kernel⟩
abbrev N_check_all : List Str := ["way", "rule", "book"]
theorem sc_check_all : FnScope N_check_all ["way", "rule", "book"] (L2.defScope s_check_all) := ⟨rfl, rfl, rfl, by decide +kernel, rfl, by decide +kernel, by decide +kernel⟩
abbrev N_counts : List Str := ["book", "arrow", "word"]
theorem sc_counts : FnScope N_counts ["book", "arrow"] (L2.defScope s_counts) := ⟨rfl, rfl, rfl, by decide +kernel, rfl, by decide +kernel, by decide +kernel⟩
abbrev N_seen_most : List Str := ["way", "book", "ages", "table", "found", "arrow", "age", "most", "seen"]
theorem sc_seen_most : FnScope N_seen_most ["way", "book", "ages"] (L2.defScope s_seen_most) := ⟨rfl, rfl, rfl, by decide +kernel, rfl, by decide +kernel, by decide +kernel⟩
abbrev N_greatest_seen : List Str := ["way", "rule", "book"]
theorem sc_greatest_seen : FnScope N_greatest_seen ["way", "rule", "book"] (L2.defScope s_greatest_seen) := ⟨rfl, rfl, rfl, by decide +kernel, rfl, by decide +kernel, by decide +kernel⟩
abbrev N_until : List Str := ["book", "age", "left"]
theorem sc_until : FnScope N_until ["book", "age"] (L2.defScope s_until) := ⟨rfl, rfl, rfl, by decide +kernel, rfl, by decide +kernel, by decide +kernel⟩
abbrev N_stay : List Str := ["way", "rule", "book", "old", "age", "young", "least"]
theorem sc_stay : FnScope N_stay ["way", "rule", "book"] (L2.defScope s_stay) := ⟨rfl, rfl, rfl, by decide +kernel, rfl, by decide +kernel, by decide +kernel⟩
abbrev N_law_source : List Str := ["script", "turn", "cell", "number", "seed"]
theorem sc_law_source : FnScope N_law_source ["script", "turn"] (L2.defScope s_law_source) := ⟨rfl, rfl, rfl, by decide +kernel, rfl, by decide +kernel, by decide +kernel⟩
abbrev N_law_draw : List Str := ["source", "amount", "digit", "found"]
theorem sc_law_draw : FnScope N_law_draw ["source", "amount"] (L2.defScope s_law_draw) := ⟨rfl, rfl, rfl, by decide +kernel, rfl, by decide +kernel, by decide +kernel⟩
abbrev N_law_pick : List Str := ["source", "items"]
theorem sc_law_pick : FnScope N_law_pick ["source", "items"] (L2.defScope s_law_pick) := ⟨rfl, rfl, rfl, by decide +kernel, rfl, by decide +kernel, by decide +kernel⟩
abbrev N_law_sets : List Str := ["marks", "row", "at"]
theorem sc_law_sets : FnScope N_law_sets ["marks", "row", "at"] (L2.defScope s_law_sets) := ⟨rfl, rfl, rfl, by decide +kernel, rfl, by decide +kernel, by decide +kernel⟩
abbrev N_law_backs : List Str := ["deed"]
theorem sc_law_backs : FnScope N_law_backs ["deed"] (L2.defScope s_law_backs) := ⟨rfl, rfl, rfl, by decide +kernel, rfl, by decide +kernel, by decide +kernel⟩
abbrev N_law_done : List Str := ["marks", "row", "deed", "at", "later", "setting", "mark"]
theorem sc_law_done : FnScope N_law_done ["marks", "row", "deed", "at"] (L2.defScope s_law_done) := ⟨rfl, rfl, rfl, by decide +kernel, rfl, by decide +kernel, by decide +kernel⟩
abbrev N_law_maker : List Str := ["source", "back"]
theorem sc_law_maker : FnScope N_law_maker ["source", "back"] (L2.defScope s_law_maker) := ⟨rfl, rfl, rfl, by decide +kernel, rfl, by decide +kernel, by decide +kernel⟩
abbrev N_law_user : List Str := ["source", "back"]
theorem sc_law_user : FnScope N_law_user ["source", "back"] (L2.defScope s_law_user) := ⟨rfl, rfl, rfl, by decide +kernel, rfl, by decide +kernel, by decide +kernel⟩
abbrev N_law_chain : List Str := ["source", "nodes", "times", "k"]
theorem sc_law_chain : FnScope N_law_chain ["source"] (L2.defScope s_law_chain) := ⟨rfl, rfl, rfl, by decide +kernel, rfl, by decide +kernel, by decide +kernel⟩
abbrev N_law_lives : List Str := ["nodes", "times", "row", "at", "marks", "found", "k"]
theorem sc_law_lives : FnScope N_law_lives ["nodes", "times", "row"] (L2.defScope s_law_lives) := ⟨rfl, rfl, rfl, by decide +kernel, rfl, by decide +kernel, by decide +kernel⟩
abbrev N_law : List Str := ["script", "turn", "source", "nodes", "times", "row", "way", "k", "rule", "due", "group", "ages", "mark", "marks", "at", "node", "one", "seen", "book", "old", "young", "age"]
theorem sc_law : FnScope N_law ["script"] (L2.defScope s_law) := ⟨rfl, rfl, rfl, by decide +kernel, rfl, by decide +kernel, by decide +kernel⟩
abbrev N_Rule_init : List Str := ["self", "word", "after"]
theorem sc_Rule_init : FnScope N_Rule_init ["self", "word", "after"] (L2.defScope s_Rule_init) := ⟨rfl, rfl, rfl, by decide +kernel, rfl, by decide +kernel, by decide +kernel⟩
abbrev N_Rule_seldom : List Str := ["after"]
theorem sc_Rule_seldom : FnScope N_Rule_seldom ["after"] (L2.defScope s_Rule_seldom) := ⟨rfl, rfl, rfl, by decide +kernel, rfl, by decide +kernel, by decide +kernel⟩
abbrev N_Rule_word : List Str := ["self"]
theorem sc_Rule_word : FnScope N_Rule_word ["self"] (L2.defScope s_Rule_word) := ⟨rfl, rfl, rfl, by decide +kernel, rfl, by decide +kernel, by decide +kernel⟩
abbrev N_Rule_after : List Str := ["self"]
theorem sc_Rule_after : FnScope N_Rule_after ["self"] (L2.defScope s_Rule_after) := ⟨rfl, rfl, rfl, by decide +kernel, rfl, by decide +kernel, by decide +kernel⟩
abbrev N_Stretches_init : List Str := ["self", "pairs", "index", "pair"]
theorem sc_Stretches_init : FnScope N_Stretches_init ["self", "pairs"] (L2.defScope s_Stretches_init) := ⟨rfl, rfl, rfl, by decide +kernel, rfl, by decide +kernel, by decide +kernel⟩
abbrev N_Stretches_eq : List Str := ["self", "other"]
theorem sc_Stretches_eq : FnScope N_Stretches_eq ["self", "other"] (L2.defScope s_Stretches_eq) := ⟨rfl, rfl, rfl, by decide +kernel, rfl, by decide +kernel, by decide +kernel⟩
abbrev N_Stretches_least : List Str := ["self"]
theorem sc_Stretches_least : FnScope N_Stretches_least ["self"] (L2.defScope s_Stretches_least) := ⟨rfl, rfl, rfl, by decide +kernel, rfl, by decide +kernel, by decide +kernel⟩
abbrev N_Stretches_greatest : List Str := ["self"]
theorem sc_Stretches_greatest : FnScope N_Stretches_greatest ["self"] (L2.defScope s_Stretches_greatest) := ⟨rfl, rfl, rfl, by decide +kernel, rfl, by decide +kernel, by decide +kernel⟩
abbrev N_Stretches_one : List Str := ["count"]
theorem sc_Stretches_one : FnScope N_Stretches_one ["count"] (L2.defScope s_Stretches_one) := ⟨rfl, rfl, rfl, by decide +kernel, rfl, by decide +kernel, by decide +kernel⟩
abbrev N_Way_init : List Str := ["self", "nodes", "arrows", "index", "node", "found", "arrow", "other", "is_reached"]
theorem sc_Way_init : FnScope N_Way_init ["self", "nodes", "arrows"] (L2.defScope s_Way_init) := ⟨rfl, rfl, rfl, by decide +kernel, rfl, by decide +kernel, by decide +kernel⟩
abbrev N_Way_arrows : List Str := ["self"]
theorem sc_Way_arrows : FnScope N_Way_arrows ["self"] (L2.defScope s_Way_arrows) := ⟨rfl, rfl, rfl, by decide +kernel, rfl, by decide +kernel, by decide +kernel⟩
abbrev N_Way_getitem : List Str := ["self", "node"]
theorem sc_Way_getitem : FnScope N_Way_getitem ["self", "node"] (L2.defScope s_Way_getitem) := ⟨rfl, rfl, rfl, by decide +kernel, rfl, by decide +kernel, by decide +kernel⟩
abbrev N_Way_len : List Str := ["self"]
theorem sc_Way_len : FnScope N_Way_len ["self"] (L2.defScope s_Way_len) := ⟨rfl, rfl, rfl, by decide +kernel, rfl, by decide +kernel, by decide +kernel⟩
abbrev N_Way_into : List Str := ["self", "node", "arrow"]
theorem sc_Way_into : FnScope N_Way_into ["self", "node"] (L2.defScope s_Way_into) := ⟨rfl, rfl, rfl, by decide +kernel, rfl, by decide +kernel, by decide +kernel⟩
abbrev N_Ages_init : List Str := ["self", "way", "rule"]
theorem sc_Ages_init : FnScope N_Ages_init ["self", "way", "rule"] (L2.defScope s_Ages_init) := ⟨rfl, rfl, rfl, by decide +kernel, rfl, by decide +kernel, by decide +kernel⟩
abbrev N_Ages_is_told : List Str := ["self", "looks", "node"]
theorem sc_Ages_is_told : FnScope N_Ages_is_told ["self", "looks", "node"] (L2.defScope s_Ages_is_told) := ⟨rfl, rfl, rfl, by decide +kernel, rfl, by decide +kernel, by decide +kernel⟩
abbrev N_Ages_rest_of : List Str := ["self", "looks", "node", "setting", "mark"]
theorem sc_Ages_rest_of : FnScope N_Ages_rest_of ["self", "looks", "node"] (L2.defScope s_Ages_rest_of) := ⟨rfl, rfl, rfl, by decide +kernel, rfl, by decide +kernel, by decide +kernel⟩
abbrev N_Ages_nearest : List Str := ["self", "looks", "node", "setting", "found", "mark", "back"]
theorem sc_Ages_nearest : FnScope N_Ages_nearest ["self", "looks", "node"] (L2.defScope s_Ages_nearest) := ⟨rfl, rfl, rfl, by decide +kernel, rfl, by decide +kernel, by decide +kernel⟩
abbrev N_Ages_arriving : List Str := ["self", "table", "node", "found", "start", "goal", "least", "most", "word", "age", "later"]
theorem sc_Ages_arriving : FnScope N_Ages_arriving ["self", "table", "node"] (L2.defScope s_Ages_arriving) := ⟨rfl, rfl, rfl, by decide +kernel, rfl, by decide +kernel, by decide +kernel⟩
abbrev N_Ages_settled : List Str := ["self", "looks", "node", "near", "rest", "old"]
theorem sc_Ages_settled : FnScope N_Ages_settled ["self", "looks", "node"] (L2.defScope s_Ages_settled) := ⟨rfl, rfl, rfl, by decide +kernel, rfl, by decide +kernel, by decide +kernel⟩
abbrev N_Ages_table : List Str := ["self", "looks"]
theorem sc_Ages_table : FnScope N_Ages_table ["self", "looks"] (L2.defScope s_Ages_table) := ⟨rfl, rfl, rfl, by decide +kernel, rfl, by decide +kernel, by decide +kernel⟩
abbrev N_Ages_walked : List Str := ["self", "looks", "many", "found", "node", "passing", "turn", "old"]
theorem sc_Ages_walked : FnScope N_Ages_walked ["self", "looks"] (L2.defScope s_Ages_walked) := ⟨rfl, rfl, rfl, by decide +kernel, rfl, by decide +kernel, by decide +kernel⟩
abbrev N_Book_init : List Str := ["self", "bound", "looks", "how", "day", "grain", "spares", "late", "again", "period", "parts"]
theorem sc_Book_init : FnScope N_Book_init ["self", "bound", "looks", "how", "day", "grain", "spares", "late", "again", "period"] (L2.defScope s_Book_init) := ⟨rfl, rfl, rfl, by decide +kernel, rfl, by decide +kernel, by decide +kernel⟩
abbrev N_Book_threshold : List Str := ["self"]
theorem sc_Book_threshold : FnScope N_Book_threshold ["self"] (L2.defScope s_Book_threshold) := ⟨rfl, rfl, rfl, by decide +kernel, rfl, by decide +kernel, by decide +kernel⟩
abbrev N_Book_bound : List Str := ["self"]
theorem sc_Book_bound : FnScope N_Book_bound ["self"] (L2.defScope s_Book_bound) := ⟨rfl, rfl, rfl, by decide +kernel, rfl, by decide +kernel, by decide +kernel⟩
abbrev N_Book_looks : List Str := ["self"]
theorem sc_Book_looks : FnScope N_Book_looks ["self"] (L2.defScope s_Book_looks) := ⟨rfl, rfl, rfl, by decide +kernel, rfl, by decide +kernel, by decide +kernel⟩
abbrev N_Book_how : List Str := ["self"]
theorem sc_Book_how : FnScope N_Book_how ["self"] (L2.defScope s_Book_how) := ⟨rfl, rfl, rfl, by decide +kernel, rfl, by decide +kernel, by decide +kernel⟩
abbrev N_Book_day : List Str := ["self"]
theorem sc_Book_day : FnScope N_Book_day ["self"] (L2.defScope s_Book_day) := ⟨rfl, rfl, rfl, by decide +kernel, rfl, by decide +kernel, by decide +kernel⟩
abbrev N_Book_grain : List Str := ["self"]
theorem sc_Book_grain : FnScope N_Book_grain ["self"] (L2.defScope s_Book_grain) := ⟨rfl, rfl, rfl, by decide +kernel, rfl, by decide +kernel, by decide +kernel⟩
abbrev N_Book_spares : List Str := ["self"]
theorem sc_Book_spares : FnScope N_Book_spares ["self"] (L2.defScope s_Book_spares) := ⟨rfl, rfl, rfl, by decide +kernel, rfl, by decide +kernel, by decide +kernel⟩
abbrev N_Book_late : List Str := ["self"]
theorem sc_Book_late : FnScope N_Book_late ["self"] (L2.defScope s_Book_late) := ⟨rfl, rfl, rfl, by decide +kernel, rfl, by decide +kernel, by decide +kernel⟩
abbrev N_Book_again : List Str := ["self"]
theorem sc_Book_again : FnScope N_Book_again ["self"] (L2.defScope s_Book_again) := ⟨rfl, rfl, rfl, by decide +kernel, rfl, by decide +kernel, by decide +kernel⟩
abbrev N_Book_period : List Str := ["self"]
theorem sc_Book_period : FnScope N_Book_period ["self"] (L2.defScope s_Book_period) := ⟨rfl, rfl, rfl, by decide +kernel, rfl, by decide +kernel, by decide +kernel⟩
/-! ### what the top leaves -/
def Df (K : PySem.W.Frag) (mg : Str → Option Value) (x : Str) (st : Stmt) : Prop := ∃ f fd, FunD K x x (L2.defArgs st) (L2.defBody st) (L2.defScope st) [] [] f fd ∧ mg x = some (.ref f)
def MtF (K : PySem.W.Frag) (C : Addr) (m qual : Str) (st : Stmt) : Prop := ∃ f fd, FunD K m qual (L2.defArgs st) (L2.defBody st) (L2.defScope st) [] [] f fd ∧ Meth K C m f
def MkF (K : PySem.W.Frag) (C : Addr) (qual : Str) (st : Stmt) (kws : List (Str × V)) : Prop := ∃ f fd, FunD K "__init__" qual (L2.defArgs st) (L2.defBody st) (L2.defScope st) [] kws f fd ∧ Mk K C f
def PrF (K : PySem.W.Frag) (C : Addr) (m qual : Str) (st : Stmt) : Prop := ∃ p f fd, FunD K m qual (L2.defArgs st) (L2.defBody st) (L2.defScope st) [] [] f fd ∧ PropOf K C m p f
def StF (K : PySem.W.Frag) (C : Addr) (m qual : Str) (st : Stmt) : Prop := ∃ mc p f fd, FunD K m qual (L2.defArgs st) (L2.defBody st) (L2.defScope st) [] [] f fd ∧ ClX.CRead K C mc ∧
  PySem.W.findCls K (.ref C) mc m = some (.get (.builtin "staticmethod.__get__") (.ref p) .none (.ref C)) ∧ ∃ rest, PySem.W.recIn K p "staticmethod" = some (.ref f :: rest)
abbrev cRule (K : PySem.W.Frag) : Addr := He.ga K "Rule"
abbrev cStretches (K : PySem.W.Frag) : Addr := He.ga K "Stretches"
abbrev cWay (K : PySem.W.Frag) : Addr := He.ga K "Way"
abbrev cAges (K : PySem.W.Frag) : Addr := He.ga K "Ages"
abbrev cBook (K : PySem.W.Frag) : Addr := He.ga K "Book"
abbrev aMARKS (K : PySem.W.Frag) : Addr := He.ga K "MARKS"
abbrev aPLAIN (K : PySem.W.Frag) : Addr := He.ga K "PLAIN"
abbrev aWORDS (K : PySem.W.Frag) : Addr := He.ga K "WORDS"
abbrev aPARTS (K : PySem.W.Frag) : Addr := He.ga K "PARTS"
def bookKws (K : PySem.W.Frag) : List (Str × V) := [("looks", .ref (aMARKS K)), ("how", .str "above"), ("day", .int 1), ("grain", .int 1), ("spares", .bl false), ("late", .int 0), ("again", .bl true), ("period", .int 1)]
structure Top (K : PySem.W.Frag) (mg : Str → Option Value) : Prop where
  n_isinstance : mg "isinstance" = none
  n_int : mg "int" = none
  n_bool : mg "bool" = none
  n_str : mg "str" = none
  n_tuple : mg "tuple" = none
  n_list : mg "list" = none
  n_len : mg "len" = none
  n_sorted : mg "sorted" = none
  n_enumerate : mg "enumerate" = none
  n_range : mg "range" = none
  n_any : mg "any" = none
  n_min : mg "min" = none
  n_max : mg "max" = none
  n_dict : mg "dict" = none
  n_abs : mg "abs" = none
  v_LATEST_AFTER : ∃ u, mg "LATEST_AFTER" = some u ∧ RelV (.int 2000) u
  v_LONGEST : ∃ u, mg "LONGEST" = some u ∧ RelV (.int 1000000000) u
  v_MOST_NODES : ∃ u, mg "MOST_NODES" = some u ∧ RelV (.int 12) u
  v_MOST_ARROWS : ∃ u, mg "MOST_ARROWS" = some u ∧ RelV (.int 40) u
  v_LARGEST_BOUND : ∃ u, mg "LARGEST_BOUND" = some u ∧ RelV (.int 1000000000000) u
  v_LARGEST_GRAIN : ∃ u, mg "LARGEST_GRAIN" = some u ∧ RelV (.int 1000000) u
  v_LATEST : ∃ u, mg "LATEST" = some u ∧ RelV (.int 1000000000) u
  t_MARKS : mg "MARKS" = some (.ref (aMARKS K))
  q_MARKS : ∀ H, SqT K H (aMARKS K) [.str "read", .str "written", .str "changed"]
  t_PLAIN : mg "PLAIN" = some (.ref (aPLAIN K))
  q_PLAIN : ∀ H, SqT K H (aPLAIN K) [.str "make", .str "read", .str "write", .str "rename", .str "touch"]
  t_WORDS : mg "WORDS" = some (.ref (aWORDS K))
  q_WORDS : ∀ H, SqT K H (aWORDS K) [.str "", .str "held", .str "anew"]
  t_PARTS : mg "PARTS" = some (.ref (aPARTS K))
  q_PARTS : ∀ H, SqT K H (aPARTS K) [.str "bound", .str "looks", .str "how", .str "day", .str "grain", .str "spares", .str "late", .str "again", .str "period"]
  g_Rule : mg "Rule" = some (.ref (cRule K))
  k_Rule : C8.InsC K (cRule K)
  g_Stretches : mg "Stretches" = some (.ref (cStretches K))
  k_Stretches : C8.InsC K (cStretches K)
  g_Way : mg "Way" = some (.ref (cWay K))
  k_Way : C8.InsC K (cWay K)
  g_Ages : mg "Ages" = some (.ref (cAges K))
  k_Ages : C8.InsC K (cAges K)
  g_Book : mg "Book" = some (.ref (cBook K))
  k_Book : C8.InsC K (cBook K)
  na_Rule_own_word : NoAttr K (cRule K) "own_word"
  na_Rule_own_after : NoAttr K (cRule K) "own_after"
  na_Stretches_own_pairs : NoAttr K (cStretches K) "own_pairs"
  na_Way_own_nodes : NoAttr K (cWay K) "own_nodes"
  na_Way_own_arrows : NoAttr K (cWay K) "own_arrows"
  na_Ages_way : NoAttr K (cAges K) "way"
  na_Ages_rule : NoAttr K (cAges K) "rule"
  na_Ages_read_ages : NoAttr K (cAges K) "read_ages"
  na_Ages_kept : NoAttr K (cAges K) "kept"
  na_Book_own_parts : NoAttr K (cBook K) "own_parts"
  d_is_whole : Df K mg "is_whole" s_is_whole
  d_is_between : Df K mg "is_between" s_is_between
  d_is_count : Df K mg "is_count" s_is_count
  d_is_listed : Df K mg "is_listed" s_is_listed
  d_is_part_of : Df K mg "is_part_of" s_is_part_of
  d_check_rule : Df K mg "check_rule" s_check_rule
  d_is_pair : Df K mg "is_pair" s_is_pair
  d_joined : Df K mg "joined" s_joined
  d_is_time : Df K mg "is_time" s_is_time
  d_is_deed : Df K mg "is_deed" s_is_deed
  d_makes : Df K mg "makes" s_makes
  d_is_looks : Df K mg "is_looks" s_is_looks
  d_all_looks : Df K mg "all_looks" s_all_looks
  d_backs : Df K mg "backs" s_backs
  d_is_arrow : Df K mg "is_arrow" s_is_arrow
  d_reached_from : Df K mg "reached_from" s_reached_from
  d_check_way : Df K mg "check_way" s_check_way
  d_check_node : Df K mg "check_node" s_check_node
  d_smeared : Df K mg "smeared" s_smeared
  d_passed : Df K mg "passed" s_passed
  d_next_bits : Df K mg "next_bits" s_next_bits
  d_bits_of : Df K mg "bits_of" s_bits_of
  d_stretches_of : Df K mg "stretches_of" s_stretches_of
  d_ages_of_read : Df K mg "ages_of_read" s_ages_of_read
  d_all_ages : Df K mg "all_ages" s_all_ages
  d_surely_set : Df K mg "surely_set" s_surely_set
  d_is_more : Df K mg "is_more" s_is_more
  d_least_table : Df K mg "least_table" s_least_table
  d_one_least : Df K mg "one_least" s_one_least
  d_check_looks : Df K mg "check_looks" s_check_looks
  d_greatest_age : Df K mg "greatest_age" s_greatest_age
  d_least_age : Df K mg "least_age" s_least_age
  d_is_value : Df K mg "is_value" s_is_value
  d_check_parts : Df K mg "check_parts" s_check_parts
  d_check_book : Df K mg "check_book" s_check_book
  d_check_all : Df K mg "check_all" s_check_all
  d_counts : Df K mg "counts" s_counts
  d_seen_most : Df K mg "seen_most" s_seen_most
  d_greatest_seen : Df K mg "greatest_seen" s_greatest_seen
  d_until : Df K mg "until" s_until
  d_stay : Df K mg "stay" s_stay
  d_law_source : Df K mg "_law_source" s_law_source
  d_law_draw : Df K mg "_law_draw" s_law_draw
  d_law_pick : Df K mg "_law_pick" s_law_pick
  d_law_sets : Df K mg "_law_sets" s_law_sets
  d_law_backs : Df K mg "_law_backs" s_law_backs
  d_law_done : Df K mg "_law_done" s_law_done
  d_law_maker : Df K mg "_law_maker" s_law_maker
  d_law_user : Df K mg "_law_user" s_law_user
  d_law_chain : Df K mg "_law_chain" s_law_chain
  d_law_lives : Df K mg "_law_lives" s_law_lives
  d_law : Df K mg "law" s_law
  i_Rule : MkF K (cRule K) "Rule.__init__" s_Rule_init []
  i_Stretches : MkF K (cStretches K) "Stretches.__init__" s_Stretches_init []
  i_Way : MkF K (cWay K) "Way.__init__" s_Way_init []
  i_Ages : MkF K (cAges K) "Ages.__init__" s_Ages_init []
  i_Book : MkF K (cBook K) "Book.__init__" s_Book_init (bookKws K)
  m_Stretches_eq : MtF K (cStretches K) "__eq__" "Stretches.__eq__" s_Stretches_eq
  m_Stretches_least : MtF K (cStretches K) "least" "Stretches.least" s_Stretches_least
  m_Stretches_greatest : MtF K (cStretches K) "greatest" "Stretches.greatest" s_Stretches_greatest
  m_Way_arrows : MtF K (cWay K) "arrows" "Way.arrows" s_Way_arrows
  m_Way_getitem : MtF K (cWay K) "__getitem__" "Way.__getitem__" s_Way_getitem
  m_Way_len : MtF K (cWay K) "__len__" "Way.__len__" s_Way_len
  m_Way_into : MtF K (cWay K) "into" "Way.into" s_Way_into
  m_Ages_is_told : MtF K (cAges K) "is_told" "Ages.is_told" s_Ages_is_told
  m_Ages_rest_of : MtF K (cAges K) "rest_of" "Ages.rest_of" s_Ages_rest_of
  m_Ages_nearest : MtF K (cAges K) "nearest" "Ages.nearest" s_Ages_nearest
  m_Ages_arriving : MtF K (cAges K) "arriving" "Ages.arriving" s_Ages_arriving
  m_Ages_settled : MtF K (cAges K) "settled" "Ages.settled" s_Ages_settled
  m_Ages_table : MtF K (cAges K) "table" "Ages.table" s_Ages_table
  m_Ages_walked : MtF K (cAges K) "walked" "Ages.walked" s_Ages_walked
  m_Book_threshold : MtF K (cBook K) "threshold" "Book.threshold" s_Book_threshold
  p_Rule_word : PrF K (cRule K) "word" "Rule.word" s_Rule_word
  p_Rule_after : PrF K (cRule K) "after" "Rule.after" s_Rule_after
  p_Book_bound : PrF K (cBook K) "bound" "Book.bound" s_Book_bound
  p_Book_looks : PrF K (cBook K) "looks" "Book.looks" s_Book_looks
  p_Book_how : PrF K (cBook K) "how" "Book.how" s_Book_how
  p_Book_day : PrF K (cBook K) "day" "Book.day" s_Book_day
  p_Book_grain : PrF K (cBook K) "grain" "Book.grain" s_Book_grain
  p_Book_spares : PrF K (cBook K) "spares" "Book.spares" s_Book_spares
  p_Book_late : PrF K (cBook K) "late" "Book.late" s_Book_late
  p_Book_again : PrF K (cBook K) "again" "Book.again" s_Book_again
  p_Book_period : PrF K (cBook K) "period" "Book.period" s_Book_period
  st_Rule_seldom : StF K (cRule K) "seldom" "Rule.seldom" s_Rule_seldom
  st_Stretches_one : StF K (cStretches K) "one" "Stretches.one" s_Stretches_one
  ne_Stretches : PySem.W.findIn K (.ref (cStretches K)) "__ne__" = some (some (.builtin "object.__ne__"))
  gi_Way : ∀ f, PySem.W.findIn K (.ref (cWay K)) "__getitem__" = some (some (.ref f)) → PySem.W.fnIn K f = true
end Ag
set_option maxHeartbeats 0
/-! The head's run, the facts that it leaves. Printed by genhead.py. -/
namespace Ag
open PySem PySem.Spec PyProof.Rows L2
def insB (K : PySem.W.Frag) (C : Addr) : Bool := He.eqO (PySem.W.findIn K (.ref C) "__class__") (some (some (.builtin "object.__class__"))) && (He.eqO (PySem.W.specialIn K (.builtin "object.__class__") "__get__") (some (some (.builtin "getset_descriptor.__get__"))) &&
  (decide (PySem.W.takesIn K (.builtin "object.__class__") = some true) && (decide (PySem.W.mroIn K C (.type "object") = some true) && decide (PySem.W.kitOne K (.ref C) (.ref C) = some true))))
theorem insB_ok {K : PySem.W.Frag} {C : Addr} (hc : Cls K C) (h : insB K C = true) : C8.InsC K C := by
  obtain ⟨h1, h⟩ := He.ba h
  obtain ⟨h2, h⟩ := He.ba h
  obtain ⟨h3, h⟩ := He.ba h
  obtain ⟨h4, h5⟩ := He.ba h
  exact ⟨hc, He.eqO_ok h1, He.eqO_ok h2, of_decide_eq_true h3, of_decide_eq_true h4, of_decide_eq_true h5⟩
def propB (K : PySem.W.Frag) (C : Addr) (m : Str) : Bool := He.eqO (PySem.W.findIn K (.ref C) m) (some (some (.ref (He.ma K C m)))) && (He.eqO (PySem.W.specialIn K (.ref (He.ma K C m)) "__get__") (some (some (.builtin "property.__get__"))) &&
  (decide (PySem.W.takesIn K (.ref (He.ma K C m)) = some true) && (match PySem.W.recIn K (He.ma K C m) "property" with
    | some (.ref _ :: _) => true
    | _ => false)))
theorem propB_ok {K : PySem.W.Frag} {C : Addr} {m : Str} (h : propB K C m = true) : PropOf K C m (He.ma K C m) (He5.wf K C "property" m) := by
  obtain ⟨h1, h⟩ := He.ba h
  obtain ⟨h2, h⟩ := He.ba h
  obtain ⟨h3, h4⟩ := He.ba h
  refine ⟨He.eqO_ok h1, He.eqO_ok h2, of_decide_eq_true h3, ?_⟩
  unfold He5.wf
  split at h4
  · rename_i f r e
    exact ⟨r, by rw [e]⟩
  · cases h4
theorem cread_of {K : PySem.W.Frag} {C : Addr} (h : PySem.W.readsIn K C (.type "type") = true) : ClX.CRead K C (.type "type") := by
  refine ⟨h, ?_⟩
  unfold PySem.W.readsIn at h
  obtain ⟨h, _⟩ := He.ba h
  obtain ⟨h, _⟩ := He.ba h
  obtain ⟨h, h3⟩ := He.ba h
  obtain ⟨_, h2⟩ := He.ba h
  unfold PySem.W.specialIn
  rw [beq_iff_eq.mp h2, Option.bind_some]
  exact beq_iff_eq.mp h3
/-! ### the Hook -/
def obsX (fa : List He.Fa) (fn : List He5.DefA) (ex : List (PySem.W.Frag → Bool)) (K : PySem.W.Frag) : He.AlD := ((fa.all fun f => f.ok K) && ((fn.all fun d => d.ok K) && ex.all fun b => b K), fn.map fun d => He5.fnA K (d.at_ K))
def SaysX (fa : List He.Fa) (fn : List He5.DefA) (ex : List (PySem.W.Frag → Bool)) (K : PySem.W.Frag) : Prop := obsX fa fn ex K = He5.valA fn
/-- the addresses that the facts look at: by names -/
structure Nms where
  cls : List Str
  tups : List Str
  funs : List Str
  meths : List (Str × Str)
  props : List (Str × Str)
def nsOf (g : Addr → Option Obj) (c : Addr) : List Addr := match g c with
  | some ⟨_, _, .cls cd, _⟩ => [cd.ns]
  | _ => []
def refsG (g : Addr → Option Obj) (a : Addr) : List Addr := match g a with
  | some o => He.refsD o
  | none => []
def asX (g : Addr → Option Obj) (N : Nms) : List Addr :=
  (fun (K0 : PySem.W.Frag) => (fun (C : List Addr) => (fun (A2 : List Addr) => (fun (K2 : PySem.W.Frag) => (fun (A3 : List Addr) => (fun (A4 : List Addr) => (fun (A1 : List Addr) =>
    mainGlobals :: (C ++ (A2 ++ (cStatics :: (A1 ++ (A3 ++ (A4 ++ (N.tups.map (He.ga K0) ++ ((A1.flatMap (refsG g)) ++ ((A3.flatMap (refsG g)) ++ A4.flatMap (refsG g)))))))))))
    (N.funs.map (He.ga K0)))
    (N.props.flatMap fun q => refsG g (He.ma K2 (He.ga K0 q.1) q.2)))
    (N.meths.map fun q => He.ma K2 (He.ga K0 q.1) q.2))
    (He.frG g (mainGlobals :: (C ++ A2))))
    (C.flatMap (nsOf g)))
    (N.cls.map (He.ga K0)))
    (He.frG g [mainGlobals])
def obsXG (n : Nms) (fa : List He.Fa) (fn : List He5.DefA) (ex : List (PySem.W.Frag → Bool)) (g : Addr → Option Obj) : He.AlD := obsX fa fn ex (He.frG g (asX g n))
def hookX (n : Nms) (fa : List He.Fa) (fn : List He5.DefA) (ex : List (PySem.W.Frag → Bool)) : PySem.W.Hook where
  α := He.AlD
  obs := fun s => obsXG n fa fn ex s.heap.get?
  val := fun _ => He5.valA fn
  says := fun _ h => ∃ K : PySem.W.Frag, K.In h ∧ SaysX fa fn ex K
  of := fun _ _ e => ⟨_, He.frG_in, e⟩
  keeps := fun _ _ _ ⟨K, hK, c⟩ k => ⟨K, PySem.W.Frag.In.keeps hK k, c⟩
theorem obsXG_eq {n : Nms} {fa : List He.Fa} {fn : List He5.DefA} {ex : List (PySem.W.Frag → Bool)} {g : Addr → Option Obj} {s : Shared} (h : ∀ a, g a = s.heap.get? a) : obsXG n fa fn ex g = (hookX n fa fn ex).obs s := by
  have e : g = s.heap.get? := funext h
  rw [e] <;> rfl
section
variable {fa : List He.Fa} {fn : List He5.DefA} {ex : List (PySem.W.Frag → Bool)} {K : PySem.W.Frag}
theorem SaysX.fact (c : SaysX fa fn ex K) (i : Nat) {f : He.Fa} (h : fa[i]? = some f) : f.ok K = true := by
  have c1 := (He.ba (show ((fa.all fun f => f.ok K) && ((fn.all fun d => d.ok K) && ex.all fun b => b K)) = true from congrArg (fun z : He.AlD => z.1) c)).1
  exact List.all_eq_true.mp c1 f (List.mem_of_getElem? h)
theorem SaysX.ext (c : SaysX fa fn ex K) (i : Nat) {b : PySem.W.Frag → Bool} (h : ex[i]? = some b) : b K = true := by
  have c1 := (He.ba (He.ba (show ((fa.all fun f => f.ok K) && ((fn.all fun d => d.ok K) && ex.all fun b => b K)) = true from congrArg (fun z : He.AlD => z.1) c)).2).2
  exact List.all_eq_true.mp c1 b (List.mem_of_getElem? h)
theorem SaysX.def_ (c : SaysX fa fn ex K) (i : Nat) {d : He5.DefA} (h : fn[i]? = some d) : ∃ fd, L2.FunD K d.name d.qual d.params d.body d.scope (d.dvs K) (d.kws K) (d.at_ K) fd := by
  have c2 := (He.ba (He.ba (show ((fa.all fun f => f.ok K) && ((fn.all fun d => d.ok K) && ex.all fun b => b K)) = true from congrArg (fun z : He.AlD => z.1) c)).2).1
  have e : fn.map (fun d => He5.fnA K (d.at_ K)) = fn.map He5.DefA.val := congrArg (fun z : He.AlD => z.2) c
  have e2 : (fn.map fun d => He5.fnA K (d.at_ K))[i]? = (fn.map He5.DefA.val)[i]? := by rw [e]
  rw [List.getElem?_map, List.getElem?_map, h] at e2
  exact He5.DefA.funD (Option.some.inj e2) (List.all_eq_true.mp c2 d (List.mem_of_getElem? h))
end
theorem gi_ok {K : PySem.W.Frag} {C : Addr} {m : Str} (h : PySem.W.fnIn K (He.ma K C m) = true) (f : Addr) (e : PySem.W.findIn K (.ref C) m = some (some (.ref f))) : PySem.W.fnIn K f = true := by
  have e2 : He.ma K C m = f := by
    unfold He.ma
    rw [e]
  rw [← e2]
  exact h
def nmF0 : List Str := ["is_whole", "is_between", "is_count", "is_listed", "is_part_of", "check_rule", "is_pair", "joined", "is_time", "is_deed", "makes", "is_looks", "all_looks", "backs", "is_arrow", "reached_from", "check_way", "check_node", "smeared", "passed", "next_bits", "bits_of", "stretches_of", "ages_of_read", "all_ages"]
def nmF1 : List Str := ["surely_set", "is_more", "least_table", "one_least", "check_looks", "greatest_age", "least_age", "is_value", "check_parts", "check_book", "check_all", "counts", "seen_most", "greatest_seen", "until", "stay", "_law_source", "_law_draw", "_law_pick", "_law_sets", "_law_backs", "_law_done", "_law_maker", "_law_user", "_law_chain"]
def nmF2 : List Str := ["_law_lives", "law"]
def nmM0 : List (Str × Str) := [("Rule", "__init__"), ("Stretches", "__init__"), ("Way", "__init__"), ("Ages", "__init__"), ("Book", "__init__"), ("Stretches", "__eq__"), ("Stretches", "least"), ("Stretches", "greatest"), ("Way", "arrows"), ("Way", "__getitem__"), ("Way", "__len__"), ("Way", "into"), ("Ages", "is_told"), ("Ages", "rest_of"), ("Ages", "nearest"), ("Ages", "arriving"), ("Ages", "settled"), ("Ages", "table"), ("Ages", "walked"), ("Book", "threshold"), ("Rule", "word"), ("Rule", "after"), ("Book", "bound"), ("Book", "looks"), ("Book", "how")]
def nmM1 : List (Str × Str) := [("Book", "day"), ("Book", "grain"), ("Book", "spares"), ("Book", "late"), ("Book", "again"), ("Book", "period"), ("Rule", "seldom"), ("Stretches", "one")]
def nmL : Nms := ⟨["Rule", "Stretches", "Way", "Ages", "Book"], ["MARKS", "PLAIN", "WORDS", "PARTS"], (nmF0 ++ nmF1 ++ nmF2), (nmM0 ++ nmM1), [("Rule", "word"), ("Rule", "after"), ("Book", "bound"), ("Book", "looks"), ("Book", "how"), ("Book", "day"), ("Book", "grain"), ("Book", "spares"), ("Book", "late"), ("Book", "again"), ("Book", "period"), ("Rule", "seldom"), ("Stretches", "one")]⟩
def faL : List He.Fa := [.free "isinstance", .free "int", .free "bool", .free "str", .free "tuple", .free "list", .free "len", .free "sorted", .free "enumerate", .free "range", .free "any", .free "min", .free "max", .free "dict", .free "abs", .int "LATEST_AFTER" 2000, .int "LONGEST" 1000000000, .int "MOST_NODES" 12, .int "MOST_ARROWS" 40, .int "LARGEST_BOUND" 1000000000000, .int "LARGEST_GRAIN" 1000000, .int "LATEST" 1000000000, .glo "MARKS", .glo "PLAIN", .glo "WORDS", .glo "PARTS", .glo "Rule", .cls "Rule", .glo "Stretches", .cls "Stretches", .glo "Way", .cls "Way", .glo "Ages", .cls "Ages", .glo "Book", .cls "Book", .noat "Rule" "own_word", .noat "Rule" "own_after", .noat "Stretches" "own_pairs", .noat "Way" "own_nodes", .noat "Way" "own_arrows", .noat "Ages" "way", .noat "Ages" "rule", .noat "Ages" "read_ages", .noat "Ages" "kept", .noat "Book" "own_parts", .glo "is_whole", .glo "is_between", .glo "is_count", .glo "is_listed", .glo "is_part_of", .glo "check_rule", .glo "is_pair", .glo "joined", .glo "is_time", .glo "is_deed", .glo "makes", .glo "is_looks", .glo "all_looks", .glo "backs", .glo "is_arrow", .glo "reached_from", .glo "check_way", .glo "check_node", .glo "smeared", .glo "passed", .glo "next_bits", .glo "bits_of", .glo "stretches_of", .glo "ages_of_read", .glo "all_ages", .glo "surely_set", .glo "is_more", .glo "least_table", .glo "one_least", .glo "check_looks", .glo "greatest_age", .glo "least_age", .glo "is_value", .glo "check_parts", .glo "check_book", .glo "check_all", .glo "counts", .glo "seen_most", .glo "greatest_seen", .glo "until", .glo "stay", .glo "_law_source", .glo "_law_draw", .glo "_law_pick", .glo "_law_sets", .glo "_law_backs", .glo "_law_done", .glo "_law_maker", .glo "_law_user", .glo "_law_chain", .glo "_law_lives", .glo "law", .mkr "Rule", .mkr "Stretches", .mkr "Way", .mkr "Ages", .mkr "Book", .meth "Stretches" "__eq__", .meth "Stretches" "least", .meth "Stretches" "greatest", .meth "Way" "arrows", .meth "Way" "__getitem__", .meth "Way" "__len__", .meth "Way" "into", .meth "Ages" "is_told", .meth "Ages" "rest_of", .meth "Ages" "nearest", .meth "Ages" "arriving", .meth "Ages" "settled", .meth "Ages" "table", .meth "Ages" "walked", .meth "Book" "threshold"]
def fnL : List He5.DefA := [
  ⟨fun K => He.ga K "is_whole", "is_whole", "is_whole", L2.defArgs s_is_whole, L2.defBody s_is_whole, L2.defScope s_is_whole, [], []⟩,
  ⟨fun K => He.ga K "is_between", "is_between", "is_between", L2.defArgs s_is_between, L2.defBody s_is_between, L2.defScope s_is_between, [], []⟩,
  ⟨fun K => He.ga K "is_count", "is_count", "is_count", L2.defArgs s_is_count, L2.defBody s_is_count, L2.defScope s_is_count, [], []⟩,
  ⟨fun K => He.ga K "is_listed", "is_listed", "is_listed", L2.defArgs s_is_listed, L2.defBody s_is_listed, L2.defScope s_is_listed, [], []⟩,
  ⟨fun K => He.ga K "is_part_of", "is_part_of", "is_part_of", L2.defArgs s_is_part_of, L2.defBody s_is_part_of, L2.defScope s_is_part_of, [], []⟩,
  ⟨fun K => He.ga K "check_rule", "check_rule", "check_rule", L2.defArgs s_check_rule, L2.defBody s_check_rule, L2.defScope s_check_rule, [], []⟩,
  ⟨fun K => He.ga K "is_pair", "is_pair", "is_pair", L2.defArgs s_is_pair, L2.defBody s_is_pair, L2.defScope s_is_pair, [], []⟩,
  ⟨fun K => He.ga K "joined", "joined", "joined", L2.defArgs s_joined, L2.defBody s_joined, L2.defScope s_joined, [], []⟩,
  ⟨fun K => He.ga K "is_time", "is_time", "is_time", L2.defArgs s_is_time, L2.defBody s_is_time, L2.defScope s_is_time, [], []⟩,
  ⟨fun K => He.ga K "is_deed", "is_deed", "is_deed", L2.defArgs s_is_deed, L2.defBody s_is_deed, L2.defScope s_is_deed, [], []⟩,
  ⟨fun K => He.ga K "makes", "makes", "makes", L2.defArgs s_makes, L2.defBody s_makes, L2.defScope s_makes, [], []⟩,
  ⟨fun K => He.ga K "is_looks", "is_looks", "is_looks", L2.defArgs s_is_looks, L2.defBody s_is_looks, L2.defScope s_is_looks, [], []⟩,
  ⟨fun K => He.ga K "all_looks", "all_looks", "all_looks", L2.defArgs s_all_looks, L2.defBody s_all_looks, L2.defScope s_all_looks, [], []⟩,
  ⟨fun K => He.ga K "backs", "backs", "backs", L2.defArgs s_backs, L2.defBody s_backs, L2.defScope s_backs, [], []⟩,
  ⟨fun K => He.ga K "is_arrow", "is_arrow", "is_arrow", L2.defArgs s_is_arrow, L2.defBody s_is_arrow, L2.defScope s_is_arrow, [], []⟩,
  ⟨fun K => He.ga K "reached_from", "reached_from", "reached_from", L2.defArgs s_reached_from, L2.defBody s_reached_from, L2.defScope s_reached_from, [], []⟩,
  ⟨fun K => He.ga K "check_way", "check_way", "check_way", L2.defArgs s_check_way, L2.defBody s_check_way, L2.defScope s_check_way, [], []⟩,
  ⟨fun K => He.ga K "check_node", "check_node", "check_node", L2.defArgs s_check_node, L2.defBody s_check_node, L2.defScope s_check_node, [], []⟩,
  ⟨fun K => He.ga K "smeared", "smeared", "smeared", L2.defArgs s_smeared, L2.defBody s_smeared, L2.defScope s_smeared, [], []⟩,
  ⟨fun K => He.ga K "passed", "passed", "passed", L2.defArgs s_passed, L2.defBody s_passed, L2.defScope s_passed, [], []⟩,
  ⟨fun K => He.ga K "next_bits", "next_bits", "next_bits", L2.defArgs s_next_bits, L2.defBody s_next_bits, L2.defScope s_next_bits, [], []⟩,
  ⟨fun K => He.ga K "bits_of", "bits_of", "bits_of", L2.defArgs s_bits_of, L2.defBody s_bits_of, L2.defScope s_bits_of, [], []⟩,
  ⟨fun K => He.ga K "stretches_of", "stretches_of", "stretches_of", L2.defArgs s_stretches_of, L2.defBody s_stretches_of, L2.defScope s_stretches_of, [], []⟩,
  ⟨fun K => He.ga K "ages_of_read", "ages_of_read", "ages_of_read", L2.defArgs s_ages_of_read, L2.defBody s_ages_of_read, L2.defScope s_ages_of_read, [], []⟩,
  ⟨fun K => He.ga K "all_ages", "all_ages", "all_ages", L2.defArgs s_all_ages, L2.defBody s_all_ages, L2.defScope s_all_ages, [], []⟩,
  ⟨fun K => He.ga K "surely_set", "surely_set", "surely_set", L2.defArgs s_surely_set, L2.defBody s_surely_set, L2.defScope s_surely_set, [], []⟩,
  ⟨fun K => He.ga K "is_more", "is_more", "is_more", L2.defArgs s_is_more, L2.defBody s_is_more, L2.defScope s_is_more, [], []⟩,
  ⟨fun K => He.ga K "least_table", "least_table", "least_table", L2.defArgs s_least_table, L2.defBody s_least_table, L2.defScope s_least_table, [], []⟩,
  ⟨fun K => He.ga K "one_least", "one_least", "one_least", L2.defArgs s_one_least, L2.defBody s_one_least, L2.defScope s_one_least, [], []⟩,
  ⟨fun K => He.ga K "check_looks", "check_looks", "check_looks", L2.defArgs s_check_looks, L2.defBody s_check_looks, L2.defScope s_check_looks, [], []⟩,
  ⟨fun K => He.ga K "greatest_age", "greatest_age", "greatest_age", L2.defArgs s_greatest_age, L2.defBody s_greatest_age, L2.defScope s_greatest_age, [], []⟩,
  ⟨fun K => He.ga K "least_age", "least_age", "least_age", L2.defArgs s_least_age, L2.defBody s_least_age, L2.defScope s_least_age, [], []⟩,
  ⟨fun K => He.ga K "is_value", "is_value", "is_value", L2.defArgs s_is_value, L2.defBody s_is_value, L2.defScope s_is_value, [], []⟩,
  ⟨fun K => He.ga K "check_parts", "check_parts", "check_parts", L2.defArgs s_check_parts, L2.defBody s_check_parts, L2.defScope s_check_parts, [], []⟩,
  ⟨fun K => He.ga K "check_book", "check_book", "check_book", L2.defArgs s_check_book, L2.defBody s_check_book, L2.defScope s_check_book, [], []⟩,
  ⟨fun K => He.ga K "check_all", "check_all", "check_all", L2.defArgs s_check_all, L2.defBody s_check_all, L2.defScope s_check_all, [], []⟩,
  ⟨fun K => He.ga K "counts", "counts", "counts", L2.defArgs s_counts, L2.defBody s_counts, L2.defScope s_counts, [], []⟩,
  ⟨fun K => He.ga K "seen_most", "seen_most", "seen_most", L2.defArgs s_seen_most, L2.defBody s_seen_most, L2.defScope s_seen_most, [], []⟩,
  ⟨fun K => He.ga K "greatest_seen", "greatest_seen", "greatest_seen", L2.defArgs s_greatest_seen, L2.defBody s_greatest_seen, L2.defScope s_greatest_seen, [], []⟩,
  ⟨fun K => He.ga K "until", "until", "until", L2.defArgs s_until, L2.defBody s_until, L2.defScope s_until, [], []⟩,
  ⟨fun K => He.ga K "stay", "stay", "stay", L2.defArgs s_stay, L2.defBody s_stay, L2.defScope s_stay, [], []⟩,
  ⟨fun K => He.ga K "_law_source", "_law_source", "_law_source", L2.defArgs s_law_source, L2.defBody s_law_source, L2.defScope s_law_source, [], []⟩,
  ⟨fun K => He.ga K "_law_draw", "_law_draw", "_law_draw", L2.defArgs s_law_draw, L2.defBody s_law_draw, L2.defScope s_law_draw, [], []⟩,
  ⟨fun K => He.ga K "_law_pick", "_law_pick", "_law_pick", L2.defArgs s_law_pick, L2.defBody s_law_pick, L2.defScope s_law_pick, [], []⟩,
  ⟨fun K => He.ga K "_law_sets", "_law_sets", "_law_sets", L2.defArgs s_law_sets, L2.defBody s_law_sets, L2.defScope s_law_sets, [], []⟩,
  ⟨fun K => He.ga K "_law_backs", "_law_backs", "_law_backs", L2.defArgs s_law_backs, L2.defBody s_law_backs, L2.defScope s_law_backs, [], []⟩,
  ⟨fun K => He.ga K "_law_done", "_law_done", "_law_done", L2.defArgs s_law_done, L2.defBody s_law_done, L2.defScope s_law_done, [], []⟩,
  ⟨fun K => He.ga K "_law_maker", "_law_maker", "_law_maker", L2.defArgs s_law_maker, L2.defBody s_law_maker, L2.defScope s_law_maker, [], []⟩,
  ⟨fun K => He.ga K "_law_user", "_law_user", "_law_user", L2.defArgs s_law_user, L2.defBody s_law_user, L2.defScope s_law_user, [], []⟩,
  ⟨fun K => He.ga K "_law_chain", "_law_chain", "_law_chain", L2.defArgs s_law_chain, L2.defBody s_law_chain, L2.defScope s_law_chain, [], []⟩,
  ⟨fun K => He.ga K "_law_lives", "_law_lives", "_law_lives", L2.defArgs s_law_lives, L2.defBody s_law_lives, L2.defScope s_law_lives, [], []⟩,
  ⟨fun K => He.ga K "law", "law", "law", L2.defArgs s_law, L2.defBody s_law, L2.defScope s_law, [], []⟩,
  ⟨fun K => He.ma K (He.ga K "Rule") "__init__", "__init__", "Rule.__init__", L2.defArgs s_Rule_init, L2.defBody s_Rule_init, L2.defScope s_Rule_init, [], []⟩,
  ⟨fun K => He.ma K (He.ga K "Stretches") "__init__", "__init__", "Stretches.__init__", L2.defArgs s_Stretches_init, L2.defBody s_Stretches_init, L2.defScope s_Stretches_init, [], []⟩,
  ⟨fun K => He.ma K (He.ga K "Way") "__init__", "__init__", "Way.__init__", L2.defArgs s_Way_init, L2.defBody s_Way_init, L2.defScope s_Way_init, [], []⟩,
  ⟨fun K => He.ma K (He.ga K "Ages") "__init__", "__init__", "Ages.__init__", L2.defArgs s_Ages_init, L2.defBody s_Ages_init, L2.defScope s_Ages_init, [], []⟩,
  ⟨fun K => He.ma K (He.ga K "Book") "__init__", "__init__", "Book.__init__", L2.defArgs s_Book_init, L2.defBody s_Book_init, L2.defScope s_Book_init, [], [("looks", .glo "MARKS"), ("how", .str "above"), ("day", .int 1), ("grain", .int 1), ("spares", .bl false), ("late", .int 0), ("again", .bl true), ("period", .int 1)]⟩,
  ⟨fun K => He.ma K (He.ga K "Stretches") "__eq__", "__eq__", "Stretches.__eq__", L2.defArgs s_Stretches_eq, L2.defBody s_Stretches_eq, L2.defScope s_Stretches_eq, [], []⟩,
  ⟨fun K => He.ma K (He.ga K "Stretches") "least", "least", "Stretches.least", L2.defArgs s_Stretches_least, L2.defBody s_Stretches_least, L2.defScope s_Stretches_least, [], []⟩,
  ⟨fun K => He.ma K (He.ga K "Stretches") "greatest", "greatest", "Stretches.greatest", L2.defArgs s_Stretches_greatest, L2.defBody s_Stretches_greatest, L2.defScope s_Stretches_greatest, [], []⟩,
  ⟨fun K => He.ma K (He.ga K "Way") "arrows", "arrows", "Way.arrows", L2.defArgs s_Way_arrows, L2.defBody s_Way_arrows, L2.defScope s_Way_arrows, [], []⟩,
  ⟨fun K => He.ma K (He.ga K "Way") "__getitem__", "__getitem__", "Way.__getitem__", L2.defArgs s_Way_getitem, L2.defBody s_Way_getitem, L2.defScope s_Way_getitem, [], []⟩,
  ⟨fun K => He.ma K (He.ga K "Way") "__len__", "__len__", "Way.__len__", L2.defArgs s_Way_len, L2.defBody s_Way_len, L2.defScope s_Way_len, [], []⟩,
  ⟨fun K => He.ma K (He.ga K "Way") "into", "into", "Way.into", L2.defArgs s_Way_into, L2.defBody s_Way_into, L2.defScope s_Way_into, [], []⟩,
  ⟨fun K => He.ma K (He.ga K "Ages") "is_told", "is_told", "Ages.is_told", L2.defArgs s_Ages_is_told, L2.defBody s_Ages_is_told, L2.defScope s_Ages_is_told, [], []⟩,
  ⟨fun K => He.ma K (He.ga K "Ages") "rest_of", "rest_of", "Ages.rest_of", L2.defArgs s_Ages_rest_of, L2.defBody s_Ages_rest_of, L2.defScope s_Ages_rest_of, [], []⟩,
  ⟨fun K => He.ma K (He.ga K "Ages") "nearest", "nearest", "Ages.nearest", L2.defArgs s_Ages_nearest, L2.defBody s_Ages_nearest, L2.defScope s_Ages_nearest, [], []⟩,
  ⟨fun K => He.ma K (He.ga K "Ages") "arriving", "arriving", "Ages.arriving", L2.defArgs s_Ages_arriving, L2.defBody s_Ages_arriving, L2.defScope s_Ages_arriving, [], []⟩,
  ⟨fun K => He.ma K (He.ga K "Ages") "settled", "settled", "Ages.settled", L2.defArgs s_Ages_settled, L2.defBody s_Ages_settled, L2.defScope s_Ages_settled, [], []⟩,
  ⟨fun K => He.ma K (He.ga K "Ages") "table", "table", "Ages.table", L2.defArgs s_Ages_table, L2.defBody s_Ages_table, L2.defScope s_Ages_table, [], []⟩,
  ⟨fun K => He.ma K (He.ga K "Ages") "walked", "walked", "Ages.walked", L2.defArgs s_Ages_walked, L2.defBody s_Ages_walked, L2.defScope s_Ages_walked, [], []⟩,
  ⟨fun K => He.ma K (He.ga K "Book") "threshold", "threshold", "Book.threshold", L2.defArgs s_Book_threshold, L2.defBody s_Book_threshold, L2.defScope s_Book_threshold, [], []⟩,
  ⟨fun K => He5.wf K (He.ga K "Rule") "property" "word", "word", "Rule.word", L2.defArgs s_Rule_word, L2.defBody s_Rule_word, L2.defScope s_Rule_word, [], []⟩,
  ⟨fun K => He5.wf K (He.ga K "Rule") "property" "after", "after", "Rule.after", L2.defArgs s_Rule_after, L2.defBody s_Rule_after, L2.defScope s_Rule_after, [], []⟩,
  ⟨fun K => He5.wf K (He.ga K "Book") "property" "bound", "bound", "Book.bound", L2.defArgs s_Book_bound, L2.defBody s_Book_bound, L2.defScope s_Book_bound, [], []⟩,
  ⟨fun K => He5.wf K (He.ga K "Book") "property" "looks", "looks", "Book.looks", L2.defArgs s_Book_looks, L2.defBody s_Book_looks, L2.defScope s_Book_looks, [], []⟩,
  ⟨fun K => He5.wf K (He.ga K "Book") "property" "how", "how", "Book.how", L2.defArgs s_Book_how, L2.defBody s_Book_how, L2.defScope s_Book_how, [], []⟩,
  ⟨fun K => He5.wf K (He.ga K "Book") "property" "day", "day", "Book.day", L2.defArgs s_Book_day, L2.defBody s_Book_day, L2.defScope s_Book_day, [], []⟩,
  ⟨fun K => He5.wf K (He.ga K "Book") "property" "grain", "grain", "Book.grain", L2.defArgs s_Book_grain, L2.defBody s_Book_grain, L2.defScope s_Book_grain, [], []⟩,
  ⟨fun K => He5.wf K (He.ga K "Book") "property" "spares", "spares", "Book.spares", L2.defArgs s_Book_spares, L2.defBody s_Book_spares, L2.defScope s_Book_spares, [], []⟩,
  ⟨fun K => He5.wf K (He.ga K "Book") "property" "late", "late", "Book.late", L2.defArgs s_Book_late, L2.defBody s_Book_late, L2.defScope s_Book_late, [], []⟩,
  ⟨fun K => He5.wf K (He.ga K "Book") "property" "again", "again", "Book.again", L2.defArgs s_Book_again, L2.defBody s_Book_again, L2.defScope s_Book_again, [], []⟩,
  ⟨fun K => He5.wf K (He.ga K "Book") "property" "period", "period", "Book.period", L2.defArgs s_Book_period, L2.defBody s_Book_period, L2.defScope s_Book_period, [], []⟩,
  ⟨fun K => He5.wf K (He.ga K "Rule") "staticmethod" "seldom", "seldom", "Rule.seldom", L2.defArgs s_Rule_seldom, L2.defBody s_Rule_seldom, L2.defScope s_Rule_seldom, [], []⟩,
  ⟨fun K => He5.wf K (He.ga K "Stretches") "staticmethod" "one", "one", "Stretches.one", L2.defArgs s_Stretches_one, L2.defBody s_Stretches_one, L2.defScope s_Stretches_one, [], []⟩]
def exL : List (PySem.W.Frag → Bool) := [
  fun K => He.tupB K "MARKS" [.str "read", .str "written", .str "changed"],
  fun K => He.tupB K "PLAIN" [.str "make", .str "read", .str "write", .str "rename", .str "touch"],
  fun K => He.tupB K "WORDS" [.str "", .str "held", .str "anew"],
  fun K => He.tupB K "PARTS" [.str "bound", .str "looks", .str "how", .str "day", .str "grain", .str "spares", .str "late", .str "again", .str "period"],
  fun K => insB K (He.ga K "Rule"),
  fun K => insB K (He.ga K "Stretches"),
  fun K => insB K (He.ga K "Way"),
  fun K => insB K (He.ga K "Ages"),
  fun K => insB K (He.ga K "Book"),
  fun K => propB K (He.ga K "Rule") "word",
  fun K => propB K (He.ga K "Rule") "after",
  fun K => propB K (He.ga K "Book") "bound",
  fun K => propB K (He.ga K "Book") "looks",
  fun K => propB K (He.ga K "Book") "how",
  fun K => propB K (He.ga K "Book") "day",
  fun K => propB K (He.ga K "Book") "grain",
  fun K => propB K (He.ga K "Book") "spares",
  fun K => propB K (He.ga K "Book") "late",
  fun K => propB K (He.ga K "Book") "again",
  fun K => propB K (He.ga K "Book") "period",
  fun K => PySem.W.readsIn K (He.ga K "Rule") (.type "type"),
  fun K => He5.wrapB K (He.ga K "Rule") "staticmethod" "staticmethod.__get__" "seldom",
  fun K => PySem.W.readsIn K (He.ga K "Stretches") (.type "type"),
  fun K => He5.wrapB K (He.ga K "Stretches") "staticmethod" "staticmethod.__get__" "one",
  fun K => He.eqO (PySem.W.findIn K (.ref (He.ga K "Stretches")) "__ne__") (some (some (.builtin "object.__ne__"))),
  fun K => PySem.W.fnIn K (He.ma K (He.ga K "Way") "__getitem__")]
theorem top_of {K : PySem.W.Frag} {h : Heap} {mg : Str → Option Value} (X : K.In h) (G : h.Ns mainGlobals mg) (c : SaysX faL fnL exL K) : Top K mg where
  n_isinstance := He.free_ok X G (c.fact 0 rfl)
  n_int := He.free_ok X G (c.fact 1 rfl)
  n_bool := He.free_ok X G (c.fact 2 rfl)
  n_str := He.free_ok X G (c.fact 3 rfl)
  n_tuple := He.free_ok X G (c.fact 4 rfl)
  n_list := He.free_ok X G (c.fact 5 rfl)
  n_len := He.free_ok X G (c.fact 6 rfl)
  n_sorted := He.free_ok X G (c.fact 7 rfl)
  n_enumerate := He.free_ok X G (c.fact 8 rfl)
  n_range := He.free_ok X G (c.fact 9 rfl)
  n_any := He.free_ok X G (c.fact 10 rfl)
  n_min := He.free_ok X G (c.fact 11 rfl)
  n_max := He.free_ok X G (c.fact 12 rfl)
  n_dict := He.free_ok X G (c.fact 13 rfl)
  n_abs := He.free_ok X G (c.fact 14 rfl)
  v_LATEST_AFTER := let ⟨t, e⟩ := He.int_ok X G (c.fact 15 rfl); ⟨_, e, ⟨t, rfl⟩⟩
  v_LONGEST := let ⟨t, e⟩ := He.int_ok X G (c.fact 16 rfl); ⟨_, e, ⟨t, rfl⟩⟩
  v_MOST_NODES := let ⟨t, e⟩ := He.int_ok X G (c.fact 17 rfl); ⟨_, e, ⟨t, rfl⟩⟩
  v_MOST_ARROWS := let ⟨t, e⟩ := He.int_ok X G (c.fact 18 rfl); ⟨_, e, ⟨t, rfl⟩⟩
  v_LARGEST_BOUND := let ⟨t, e⟩ := He.int_ok X G (c.fact 19 rfl); ⟨_, e, ⟨t, rfl⟩⟩
  v_LARGEST_GRAIN := let ⟨t, e⟩ := He.int_ok X G (c.fact 20 rfl); ⟨_, e, ⟨t, rfl⟩⟩
  v_LATEST := let ⟨t, e⟩ := He.int_ok X G (c.fact 21 rfl); ⟨_, e, ⟨t, rfl⟩⟩
  t_MARKS := He.glo_ok X G (c.fact 22 rfl)
  q_MARKS := fun H => He.tupB_ok (c.ext 0 rfl) H
  t_PLAIN := He.glo_ok X G (c.fact 23 rfl)
  q_PLAIN := fun H => He.tupB_ok (c.ext 1 rfl) H
  t_WORDS := He.glo_ok X G (c.fact 24 rfl)
  q_WORDS := fun H => He.tupB_ok (c.ext 2 rfl) H
  t_PARTS := He.glo_ok X G (c.fact 25 rfl)
  q_PARTS := fun H => He.tupB_ok (c.ext 3 rfl) H
  g_Rule := He.glo_ok X G (c.fact 26 rfl)
  k_Rule := insB_ok (He.cls_ok (c.fact 27 rfl)) (c.ext 4 rfl)
  g_Stretches := He.glo_ok X G (c.fact 28 rfl)
  k_Stretches := insB_ok (He.cls_ok (c.fact 29 rfl)) (c.ext 5 rfl)
  g_Way := He.glo_ok X G (c.fact 30 rfl)
  k_Way := insB_ok (He.cls_ok (c.fact 31 rfl)) (c.ext 6 rfl)
  g_Ages := He.glo_ok X G (c.fact 32 rfl)
  k_Ages := insB_ok (He.cls_ok (c.fact 33 rfl)) (c.ext 7 rfl)
  g_Book := He.glo_ok X G (c.fact 34 rfl)
  k_Book := insB_ok (He.cls_ok (c.fact 35 rfl)) (c.ext 8 rfl)
  na_Rule_own_word := He.noat_ok (c.fact 36 rfl)
  na_Rule_own_after := He.noat_ok (c.fact 37 rfl)
  na_Stretches_own_pairs := He.noat_ok (c.fact 38 rfl)
  na_Way_own_nodes := He.noat_ok (c.fact 39 rfl)
  na_Way_own_arrows := He.noat_ok (c.fact 40 rfl)
  na_Ages_way := He.noat_ok (c.fact 41 rfl)
  na_Ages_rule := He.noat_ok (c.fact 42 rfl)
  na_Ages_read_ages := He.noat_ok (c.fact 43 rfl)
  na_Ages_kept := He.noat_ok (c.fact 44 rfl)
  na_Book_own_parts := He.noat_ok (c.fact 45 rfl)
  d_is_whole := let ⟨fd, F⟩ := c.def_ 0 rfl; ⟨_, fd, F, He.glo_ok X G (c.fact 46 rfl)⟩
  d_is_between := let ⟨fd, F⟩ := c.def_ 1 rfl; ⟨_, fd, F, He.glo_ok X G (c.fact 47 rfl)⟩
  d_is_count := let ⟨fd, F⟩ := c.def_ 2 rfl; ⟨_, fd, F, He.glo_ok X G (c.fact 48 rfl)⟩
  d_is_listed := let ⟨fd, F⟩ := c.def_ 3 rfl; ⟨_, fd, F, He.glo_ok X G (c.fact 49 rfl)⟩
  d_is_part_of := let ⟨fd, F⟩ := c.def_ 4 rfl; ⟨_, fd, F, He.glo_ok X G (c.fact 50 rfl)⟩
  d_check_rule := let ⟨fd, F⟩ := c.def_ 5 rfl; ⟨_, fd, F, He.glo_ok X G (c.fact 51 rfl)⟩
  d_is_pair := let ⟨fd, F⟩ := c.def_ 6 rfl; ⟨_, fd, F, He.glo_ok X G (c.fact 52 rfl)⟩
  d_joined := let ⟨fd, F⟩ := c.def_ 7 rfl; ⟨_, fd, F, He.glo_ok X G (c.fact 53 rfl)⟩
  d_is_time := let ⟨fd, F⟩ := c.def_ 8 rfl; ⟨_, fd, F, He.glo_ok X G (c.fact 54 rfl)⟩
  d_is_deed := let ⟨fd, F⟩ := c.def_ 9 rfl; ⟨_, fd, F, He.glo_ok X G (c.fact 55 rfl)⟩
  d_makes := let ⟨fd, F⟩ := c.def_ 10 rfl; ⟨_, fd, F, He.glo_ok X G (c.fact 56 rfl)⟩
  d_is_looks := let ⟨fd, F⟩ := c.def_ 11 rfl; ⟨_, fd, F, He.glo_ok X G (c.fact 57 rfl)⟩
  d_all_looks := let ⟨fd, F⟩ := c.def_ 12 rfl; ⟨_, fd, F, He.glo_ok X G (c.fact 58 rfl)⟩
  d_backs := let ⟨fd, F⟩ := c.def_ 13 rfl; ⟨_, fd, F, He.glo_ok X G (c.fact 59 rfl)⟩
  d_is_arrow := let ⟨fd, F⟩ := c.def_ 14 rfl; ⟨_, fd, F, He.glo_ok X G (c.fact 60 rfl)⟩
  d_reached_from := let ⟨fd, F⟩ := c.def_ 15 rfl; ⟨_, fd, F, He.glo_ok X G (c.fact 61 rfl)⟩
  d_check_way := let ⟨fd, F⟩ := c.def_ 16 rfl; ⟨_, fd, F, He.glo_ok X G (c.fact 62 rfl)⟩
  d_check_node := let ⟨fd, F⟩ := c.def_ 17 rfl; ⟨_, fd, F, He.glo_ok X G (c.fact 63 rfl)⟩
  d_smeared := let ⟨fd, F⟩ := c.def_ 18 rfl; ⟨_, fd, F, He.glo_ok X G (c.fact 64 rfl)⟩
  d_passed := let ⟨fd, F⟩ := c.def_ 19 rfl; ⟨_, fd, F, He.glo_ok X G (c.fact 65 rfl)⟩
  d_next_bits := let ⟨fd, F⟩ := c.def_ 20 rfl; ⟨_, fd, F, He.glo_ok X G (c.fact 66 rfl)⟩
  d_bits_of := let ⟨fd, F⟩ := c.def_ 21 rfl; ⟨_, fd, F, He.glo_ok X G (c.fact 67 rfl)⟩
  d_stretches_of := let ⟨fd, F⟩ := c.def_ 22 rfl; ⟨_, fd, F, He.glo_ok X G (c.fact 68 rfl)⟩
  d_ages_of_read := let ⟨fd, F⟩ := c.def_ 23 rfl; ⟨_, fd, F, He.glo_ok X G (c.fact 69 rfl)⟩
  d_all_ages := let ⟨fd, F⟩ := c.def_ 24 rfl; ⟨_, fd, F, He.glo_ok X G (c.fact 70 rfl)⟩
  d_surely_set := let ⟨fd, F⟩ := c.def_ 25 rfl; ⟨_, fd, F, He.glo_ok X G (c.fact 71 rfl)⟩
  d_is_more := let ⟨fd, F⟩ := c.def_ 26 rfl; ⟨_, fd, F, He.glo_ok X G (c.fact 72 rfl)⟩
  d_least_table := let ⟨fd, F⟩ := c.def_ 27 rfl; ⟨_, fd, F, He.glo_ok X G (c.fact 73 rfl)⟩
  d_one_least := let ⟨fd, F⟩ := c.def_ 28 rfl; ⟨_, fd, F, He.glo_ok X G (c.fact 74 rfl)⟩
  d_check_looks := let ⟨fd, F⟩ := c.def_ 29 rfl; ⟨_, fd, F, He.glo_ok X G (c.fact 75 rfl)⟩
  d_greatest_age := let ⟨fd, F⟩ := c.def_ 30 rfl; ⟨_, fd, F, He.glo_ok X G (c.fact 76 rfl)⟩
  d_least_age := let ⟨fd, F⟩ := c.def_ 31 rfl; ⟨_, fd, F, He.glo_ok X G (c.fact 77 rfl)⟩
  d_is_value := let ⟨fd, F⟩ := c.def_ 32 rfl; ⟨_, fd, F, He.glo_ok X G (c.fact 78 rfl)⟩
  d_check_parts := let ⟨fd, F⟩ := c.def_ 33 rfl; ⟨_, fd, F, He.glo_ok X G (c.fact 79 rfl)⟩
  d_check_book := let ⟨fd, F⟩ := c.def_ 34 rfl; ⟨_, fd, F, He.glo_ok X G (c.fact 80 rfl)⟩
  d_check_all := let ⟨fd, F⟩ := c.def_ 35 rfl; ⟨_, fd, F, He.glo_ok X G (c.fact 81 rfl)⟩
  d_counts := let ⟨fd, F⟩ := c.def_ 36 rfl; ⟨_, fd, F, He.glo_ok X G (c.fact 82 rfl)⟩
  d_seen_most := let ⟨fd, F⟩ := c.def_ 37 rfl; ⟨_, fd, F, He.glo_ok X G (c.fact 83 rfl)⟩
  d_greatest_seen := let ⟨fd, F⟩ := c.def_ 38 rfl; ⟨_, fd, F, He.glo_ok X G (c.fact 84 rfl)⟩
  d_until := let ⟨fd, F⟩ := c.def_ 39 rfl; ⟨_, fd, F, He.glo_ok X G (c.fact 85 rfl)⟩
  d_stay := let ⟨fd, F⟩ := c.def_ 40 rfl; ⟨_, fd, F, He.glo_ok X G (c.fact 86 rfl)⟩
  d_law_source := let ⟨fd, F⟩ := c.def_ 41 rfl; ⟨_, fd, F, He.glo_ok X G (c.fact 87 rfl)⟩
  d_law_draw := let ⟨fd, F⟩ := c.def_ 42 rfl; ⟨_, fd, F, He.glo_ok X G (c.fact 88 rfl)⟩
  d_law_pick := let ⟨fd, F⟩ := c.def_ 43 rfl; ⟨_, fd, F, He.glo_ok X G (c.fact 89 rfl)⟩
  d_law_sets := let ⟨fd, F⟩ := c.def_ 44 rfl; ⟨_, fd, F, He.glo_ok X G (c.fact 90 rfl)⟩
  d_law_backs := let ⟨fd, F⟩ := c.def_ 45 rfl; ⟨_, fd, F, He.glo_ok X G (c.fact 91 rfl)⟩
  d_law_done := let ⟨fd, F⟩ := c.def_ 46 rfl; ⟨_, fd, F, He.glo_ok X G (c.fact 92 rfl)⟩
  d_law_maker := let ⟨fd, F⟩ := c.def_ 47 rfl; ⟨_, fd, F, He.glo_ok X G (c.fact 93 rfl)⟩
  d_law_user := let ⟨fd, F⟩ := c.def_ 48 rfl; ⟨_, fd, F, He.glo_ok X G (c.fact 94 rfl)⟩
  d_law_chain := let ⟨fd, F⟩ := c.def_ 49 rfl; ⟨_, fd, F, He.glo_ok X G (c.fact 95 rfl)⟩
  d_law_lives := let ⟨fd, F⟩ := c.def_ 50 rfl; ⟨_, fd, F, He.glo_ok X G (c.fact 96 rfl)⟩
  d_law := let ⟨fd, F⟩ := c.def_ 51 rfl; ⟨_, fd, F, He.glo_ok X G (c.fact 97 rfl)⟩
  i_Rule := let ⟨fd, F⟩ := c.def_ 52 rfl; ⟨_, fd, F, He.mkr_ok (c.fact 98 rfl)⟩
  i_Stretches := let ⟨fd, F⟩ := c.def_ 53 rfl; ⟨_, fd, F, He.mkr_ok (c.fact 99 rfl)⟩
  i_Way := let ⟨fd, F⟩ := c.def_ 54 rfl; ⟨_, fd, F, He.mkr_ok (c.fact 100 rfl)⟩
  i_Ages := let ⟨fd, F⟩ := c.def_ 55 rfl; ⟨_, fd, F, He.mkr_ok (c.fact 101 rfl)⟩
  i_Book := let ⟨fd, F⟩ := c.def_ 56 rfl; ⟨_, fd, F, He.mkr_ok (c.fact 102 rfl)⟩
  m_Stretches_eq := let ⟨fd, F⟩ := c.def_ 57 rfl; ⟨_, fd, F, He.meth_ok (c.fact 103 rfl)⟩
  m_Stretches_least := let ⟨fd, F⟩ := c.def_ 58 rfl; ⟨_, fd, F, He.meth_ok (c.fact 104 rfl)⟩
  m_Stretches_greatest := let ⟨fd, F⟩ := c.def_ 59 rfl; ⟨_, fd, F, He.meth_ok (c.fact 105 rfl)⟩
  m_Way_arrows := let ⟨fd, F⟩ := c.def_ 60 rfl; ⟨_, fd, F, He.meth_ok (c.fact 106 rfl)⟩
  m_Way_getitem := let ⟨fd, F⟩ := c.def_ 61 rfl; ⟨_, fd, F, He.meth_ok (c.fact 107 rfl)⟩
  m_Way_len := let ⟨fd, F⟩ := c.def_ 62 rfl; ⟨_, fd, F, He.meth_ok (c.fact 108 rfl)⟩
  m_Way_into := let ⟨fd, F⟩ := c.def_ 63 rfl; ⟨_, fd, F, He.meth_ok (c.fact 109 rfl)⟩
  m_Ages_is_told := let ⟨fd, F⟩ := c.def_ 64 rfl; ⟨_, fd, F, He.meth_ok (c.fact 110 rfl)⟩
  m_Ages_rest_of := let ⟨fd, F⟩ := c.def_ 65 rfl; ⟨_, fd, F, He.meth_ok (c.fact 111 rfl)⟩
  m_Ages_nearest := let ⟨fd, F⟩ := c.def_ 66 rfl; ⟨_, fd, F, He.meth_ok (c.fact 112 rfl)⟩
  m_Ages_arriving := let ⟨fd, F⟩ := c.def_ 67 rfl; ⟨_, fd, F, He.meth_ok (c.fact 113 rfl)⟩
  m_Ages_settled := let ⟨fd, F⟩ := c.def_ 68 rfl; ⟨_, fd, F, He.meth_ok (c.fact 114 rfl)⟩
  m_Ages_table := let ⟨fd, F⟩ := c.def_ 69 rfl; ⟨_, fd, F, He.meth_ok (c.fact 115 rfl)⟩
  m_Ages_walked := let ⟨fd, F⟩ := c.def_ 70 rfl; ⟨_, fd, F, He.meth_ok (c.fact 116 rfl)⟩
  m_Book_threshold := let ⟨fd, F⟩ := c.def_ 71 rfl; ⟨_, fd, F, He.meth_ok (c.fact 117 rfl)⟩
  p_Rule_word := let ⟨fd, F⟩ := c.def_ 72 rfl; ⟨_, _, fd, F, propB_ok (c.ext 9 rfl)⟩
  p_Rule_after := let ⟨fd, F⟩ := c.def_ 73 rfl; ⟨_, _, fd, F, propB_ok (c.ext 10 rfl)⟩
  p_Book_bound := let ⟨fd, F⟩ := c.def_ 74 rfl; ⟨_, _, fd, F, propB_ok (c.ext 11 rfl)⟩
  p_Book_looks := let ⟨fd, F⟩ := c.def_ 75 rfl; ⟨_, _, fd, F, propB_ok (c.ext 12 rfl)⟩
  p_Book_how := let ⟨fd, F⟩ := c.def_ 76 rfl; ⟨_, _, fd, F, propB_ok (c.ext 13 rfl)⟩
  p_Book_day := let ⟨fd, F⟩ := c.def_ 77 rfl; ⟨_, _, fd, F, propB_ok (c.ext 14 rfl)⟩
  p_Book_grain := let ⟨fd, F⟩ := c.def_ 78 rfl; ⟨_, _, fd, F, propB_ok (c.ext 15 rfl)⟩
  p_Book_spares := let ⟨fd, F⟩ := c.def_ 79 rfl; ⟨_, _, fd, F, propB_ok (c.ext 16 rfl)⟩
  p_Book_late := let ⟨fd, F⟩ := c.def_ 80 rfl; ⟨_, _, fd, F, propB_ok (c.ext 17 rfl)⟩
  p_Book_again := let ⟨fd, F⟩ := c.def_ 81 rfl; ⟨_, _, fd, F, propB_ok (c.ext 18 rfl)⟩
  p_Book_period := let ⟨fd, F⟩ := c.def_ 82 rfl; ⟨_, _, fd, F, propB_ok (c.ext 19 rfl)⟩
  st_Rule_seldom := let ⟨fd, F⟩ := c.def_ 83 rfl; let w := He5.wrapB_ok (c.ext 21 rfl); ⟨.type "type", _, _, fd, F, cread_of (c.ext 20 rfl), w.1, w.2⟩
  st_Stretches_one := let ⟨fd, F⟩ := c.def_ 84 rfl; let w := He5.wrapB_ok (c.ext 23 rfl); ⟨.type "type", _, _, fd, F, cread_of (c.ext 22 rfl), w.1, w.2⟩
  ne_Stretches := He.eqO_ok (c.ext 24 rfl)
  gi_Way := gi_ok (c.ext 25 (b := fun K => PySem.W.fnIn K (He.ma K (He.ga K "Way") "__getitem__")) rfl)
end Ag
set_option maxHeartbeats 0
/-! The head's run. Printed by genhead.py. -/
namespace Ag
open PySem PySem.W PySem.Calls PyProof.Rows
abbrev R : OpenRow := OpenLaw.row PySem.Challenge.rw_agedfiles_k63_whole_chains_of_seldom_rea
abbrev qv : Program := view R.prog [106]
abbrev hk : Hook := hookX nmL faL fnL exL
def ob (s : SharedT) : He.AlD := obsXG nmL faL fnL exL (HandSHeadRun.getT s)
theorem ob_eq (s : SharedT) : ob s = hk.obs s.abs := obsXG_eq (HandSHeadRun.getT_eq s)
def names1 : List PySem.Str := ["_wall", "AgeError", "NoMoment", "NoRule", "NoFile", "NoDeed", "NoMark", "NoGrain", "NoStretch", "NoWay", "NoBook", "is_whole", "is_between", "is_count", "is_listed", "is_part_of", "FARTHEST", "LARGEST_GRAIN", "Moment", "seconds_of", "LATEST_AFTER", "Marked", "Rule", "check_rule", "is_pair", "joined", "gaps_of", "lesser_end", "overlaps_of", "checked"]
def names2 : List PySem.Str := ["Stretches", "MARKS", "PLAIN", "LONGEST", "is_time", "is_deed", "makes", "is_looks", "all_looks", "backs", "MOST_NODES", "MOST_ARROWS", "WORDS", "is_arrow", "reached_from", "Way", "check_way", "check_node", "smeared", "passed", "next_bits", "bits_of", "stretches_of", "ages_of_read", "all_ages", "surely_set", "is_more", "Ages", "least_table", "one_least"]
def names3 : List PySem.Str := ["check_looks", "greatest_age", "least_age", "Hold", "File", "PARTS", "LARGEST_BOUND", "LATEST", "is_value", "check_parts", "common_grain", "Book", "check_book", "seconds_old", "check_all", "counts", "seen_most", "greatest_seen", "until", "stay", "_law_source", "_law_draw", "_law_pick", "_law_rule", "_law_sets", "_law_backs", "_law_done", "_law_maker", "_law_user", "_law_chain", "_law_lives"]
def names : List PySem.Str := names1 ++ names2 ++ names3
theorem runF (w : World) : ∀ os : OsState, (HandSHeadRun.endF (HandSHeadRun.stepQ (HandSHeadRun.denQ HandSHeadRun.tabQ) R.prog w) 20000 R.prog w os).map ob = some (He5.valA fnL) := by
  intro os
  kernel_rfl
theorem run0 (w : World) : HandSHeadRun.RunEq R qv Hook.none (fun _ => ()) 20000 names w := by
  intro os
  kernel_rfl
theorem run (w : World) : HandSHeadRun.RunEq R qv hk ob 20000 names w := by
  intro os
  have h0 := run0 w os
  have h1 := runF w os
  cases e : HandSHeadRun.endF (HandSHeadRun.stepQ (HandSHeadRun.denQ HandSHeadRun.tabQ) R.prog w) 20000 R.prog w os with
  | none =>
    rw [e] at h1
    cases h1
  | some s =>
    rw [e] at h0 h1
    have g1 : ob s = He5.valA fnL := Option.some.inj h1
    have g0 := Option.some.inj h0
    have g2 := congrArg Prod.fst g0
    have g3 := congrArg Prod.fst (congrArg Prod.snd g0)
    show some (_, _, ob s) = some (_, _, _)
    exact congrArg some (Prod.ext g2 (Prod.ext g3 g1))
end Ag
set_option maxHeartbeats 4000000
/-! How a def's promise is packed; the heap grows. -/
namespace Ag
open PySem PySem.Spec PyProof.Rows L2
open C8 (Cal Met Mak pe_c pe_mt pe_mt0 pe_mk)
open Evl (Ex)
/-! ### the heap grows -/
theorem _root_.Evl.Ex.at {H H' : Hp} (e : Ex H H') {a : Addr} {o : HO} (h : H a = some o) : H' a = some o := e a o h
theorem _root_.Evl.Ex.seqL {K : PySem.W.Frag} {H H' : Hp} (e : Ex H H') {a : Addr} {xs : List V} (h : SqL K H a xs) : SqL K H' a xs := Evl.ex_l e h
theorem _root_.Evl.Ex.seqT {K : PySem.W.Frag} {H H' : Hp} (e : Ex H H') {a : Addr} {xs : List V} (h : SqT K H a xs) : SqT K H' a xs := Evl.ex_t e h
theorem gen_new {G : Hp → Prop} {H : Hp} {p : Addr} {o : HO} (hp : H p = none) (k : ∀ H', Ex H H' → H' p = some o → G H') : G (upd H p o) := k _ (Evl.Ex.new hp) upd_same
theorem gen_mut {G : Hp → Prop} {H0 H : Hp} {l : Addr} {o : HO} (e : Ex H0 H) (hl : H0 l = none) (k : ∀ H', Ex H0 H' → H' l = some o → (∀ a, a ≠ l → H' a = H a) → G H') : G (upd H l o) :=
  k _ (Evl.Ex.mut e hl) upd_same (fun _ h => upd_ne h)
theorem new_ex {H : Hp} {p : Addr} {o : HO} (hp : H p = none) : ∃ H', H' = upd H p o ∧ Ex H H' ∧ H' p = some o := ⟨_, rfl, Evl.Ex.new hp, upd_same⟩
theorem mut_ex {H0 H : Hp} {l : Addr} {o : HO} (e : Ex H0 H) (hl : H0 l = none) : ∃ H', H' = upd H l o ∧ Ex H0 H' ∧ H' l = some o ∧ ∀ a, a ≠ l → H' a = H a := ⟨_, rfl, Evl.Ex.mut e hl, upd_same, fun _ h => upd_ne h⟩
theorem szl {n : Nat} (h : n ≤ 1000) : n ≤ sizeLine := Nat.le_trans h (by decide)
theorem szt {n : Nat} (h : n ≤ 1000) : n < sizeLine := Nat.lt_of_le_of_lt h (by decide)
theorem fr_of {H H' : Hp} (e : Ex H H') {p : Addr} (h : H' p = none) : H p = none := Evl.fresh_back e h
theorem ne_fr {H : Hp} {a p : Addr} {o : HO} (h : H a = some o) (hp : H p = none) : a ≠ p := ne_of_none h hp
theorem hu_65 {A : Around} {k : Nat} (r : Room k A) : A.units + 65 < cLine := by
  have := r.un
  omega
theorem _root_.L2.Room.units65 {A : Around} {k : Nat} (r : Room k A) : A.units + 65 < cLine := hu_65 r
/-! ### defs packed -/
abbrev BindOk (x qual : Str) (st : Stmt) (ps : List Str) : Prop := ∀ (kV doc pm : Value) (an : Option Addr) (cdv ct : Value) (us : List Value), us.length = ps.length →
  bindArgs (PySem.W.fnOf x qual (L2.defArgs st) (L2.defBody st) (L2.defScope st) .none kV doc pm an cdv ct) ⟨us, []⟩ = pure (ps.zip us)
section
variable {P : Program} {w : World} {K : PySem.W.Frag} {mg : Str → Option Value} {base : Heap}
abbrev BodyOk (P : Program) (w : World) (K : PySem.W.Frag) (mg : Str → Option Value) (base : Heap) (qual : Str) (st : Stmt) (N : List Str) (k : Nat) (sp : Sp) : Prop :=
  ∀ (f : Addr) (cdv : Value) (A : Around) (outer : List Env) (s : Shared) (H : Hp) (vs : List V) (Q : VK) (E : XK), Room k (A.deeper (envOfC qual (L2.defScope st) s.heap.objs.size f cdv)) → sp vs H Q E →
      ∃ t, PSs (cxOf C8.CX0 P w K mg base N qual (L2.defScope st) f cdv A outer s H E).nox (L2.defBody st) t ∧ t { nx := fun _ H' => Q .non H', rt := Q } (start N vs) H
theorem fnOk_of {x qual : Str} {st : Stmt} {N ps : List Str} {k : Nat} {sp : Sp} {f : Addr} {fd : FuncData} {kws : List (Str × V)} (F : FunD K x qual (L2.defArgs st) (L2.defBody st) (L2.defScope st) [] kws f fd) (S : FnScope N ps (L2.defScope st))
    (len : ∀ vs H Q E, sp vs H Q E → vs.length = ps.length) (hbody : BodyOk P w K mg base qual st N k sp) : FnOk P w K mg base C8.CX0 (k + 1) f fd ps sp :=
  F.ok S len (fun cdv A outer s H vs Q E hr h => by
    obtain ⟨t, ht, h2⟩ := hbody f cdv A outer s H vs Q E hr h
    exact ⟨t, ht.nox, h2⟩)
theorem mkCal {x : Str} {st : Stmt} {N ps : List Str} {k : Nat} {sp : Sp} (d : Df K mg x st) (S : FnScope N ps (L2.defScope st)) (hb : BindOk x x st ps) (len : ∀ vs H Q E, sp vs H Q E → vs.length = ps.length)
    (hbody : BodyOk P w K mg base x st N k sp) : Cal P w K mg base (k + 1) x sp [] := by
  obtain ⟨f, fd, F, g⟩ := d
  exact ⟨f, fd, ps, [], fnOk_of F S len hbody, g, F.kp, F.bindsN hb, .nil⟩
theorem mkMet {C : Addr} {m qual : Str} {st : Stmt} {N ps : List Str} {k : Nat} {sp : Sp} (cl : Cls K C) (d : MtF K C m qual st) (S : FnScope N ps (L2.defScope st)) (hb : BindOk m qual st ps) (len : ∀ vs H Q E, sp vs H Q E → vs.length = ps.length)
    (hbody : BodyOk P w K mg base qual st N k sp) : Met P w K mg base (k + 1) C m sp [] := by
  obtain ⟨f, fd, F, g⟩ := d
  exact ⟨f, fd, ps, [], cl, g, fnOk_of F S len hbody, F.bindsN hb, .nil⟩
theorem mkMak {C : Addr} {x qual : Str} {st : Stmt} {N ps : List Str} {k : Nat} {sp : Sp} (hm : mg x = some (.ref C)) (d : MkF K C qual st []) (S : FnScope N ps (L2.defScope st)) (hb : BindOk "__init__" qual st ps) (len : ∀ vs H Q E, sp vs H Q E → vs.length = ps.length)
    (hbody : BodyOk P w K mg base qual st N k sp) : Mak P w K mg base (k + 1) x C sp [] := by
  obtain ⟨f, fd, F, g⟩ := d
  exact ⟨f, fd, ps, [], g, fnOk_of F S len hbody, hm, F.bindsN hb, .nil⟩
theorem mkPrp {C : Addr} {m qual : Str} {st : Stmt} {N ps : List Str} {k : Nat} {sp : Sp} (cl : Cls K C) (d : PrF K C m qual st) (S : FnScope N ps (L2.defScope st)) (hb : BindOk m qual st ps) (len : ∀ vs H Q E, sp vs H Q E → vs.length = ps.length)
    (hbody : BodyOk P w K mg base qual st N k sp) : Prp P w K mg base (k + 1) C m sp := by
  obtain ⟨p, f, fd, F, g⟩ := d
  exact ⟨p, f, fd, ps, cl, g, fnOk_of F S len hbody, F.bindsN hb⟩
theorem mkSta {C : Addr} {m qual : Str} {st : Stmt} {N ps : List Str} {k : Nat} {sp : Sp} (d : StF K C m qual st) (S : FnScope N ps (L2.defScope st)) (hb : BindOk m qual st ps) (len : ∀ vs H Q E, sp vs H Q E → vs.length = ps.length)
    (hbody : BodyOk P w K mg base qual st N k sp) : Sta P w K mg base (k + 1) C m sp := by
  obtain ⟨mc, p, f, fd, F, r, at_, rc⟩ := d
  exact ⟨mc, p, f, fd, ps, r, at_, rc, F.kp, fnOk_of F S len hbody, F.bindsN hb⟩
end
end Ag
set_option maxHeartbeats 4000000
/-! The data of a chain, its one life; what stands in the heap for them. -/
namespace Ag
open PySem PySem.Spec PyProof.Rows L2
open Evl (Ex)
/-! ### deeds, chains, lives: plain -/
inductive Deed where
  | make | read | write | rename | touch | unpack (b : Int) | setback (b : Int)
def Deed.word : Deed → Str
  | .make => "make" | .read => "read" | .write => "write" | .rename => "rename" | .touch => "touch" | .unpack _ => "unpack" | .setback _ => "setback"
def Deed.vs : Deed → List V
  | .make => [.str "make"] | .read => [.str "read"] | .write => [.str "write"] | .rename => [.str "rename"] | .touch => [.str "touch"]
  | .unpack b => [.str "unpack", .int b] | .setback b => [.str "setback", .int b]
def Deed.maker : Deed → Bool
  | .make => true | .unpack _ => true | _ => false
def Deed.isRead : Deed → Bool
  | .read => true | _ => false
def Deed.ok : Deed → Prop
  | .unpack b => 1 ≤ b ∧ b ≤ 100 | .setback b => 1 ≤ b ∧ b ≤ 100 | _ => True
/-- the three ages -/
structure M3 where
  r : Int
  w : Int
  c : Int
/-- the ages behind a deed that comes t behind ages m, where a read is marked at age a -/
def stepM (a : Int) : Deed → Int → M3 → M3
  | .make, _, _ => ⟨0, 0, 0⟩
  | .touch, _, _ => ⟨0, 0, 0⟩
  | .unpack b, _, _ => ⟨0, b, 0⟩
  | .setback b, _, _ => ⟨b, b, 0⟩
  | .write, t, m => ⟨m.r + t, 0, 0⟩
  | .rename, t, m => ⟨m.r + t, m.w + t, 0⟩
  | .read, t, m => ⟨if m.w ≤ m.r ∨ m.c ≤ m.r ∨ a ≤ m.r + t then 0 else m.r + t, m.w + t, m.c + t⟩
structure Chain where
  n : Nat
  d : Nat → Deed
  t : Nat → Int
structure Chain.Ok (c : Chain) : Prop where
  pos : 1 ≤ c.n
  le : c.n ≤ 11
  mk0 : (c.d 0).maker = true
  nm : ∀ k, 0 < k → k < c.n → (c.d k).maker = false
  bk : ∀ k, k < c.n → (c.d k).ok
  tm : ∀ k, k + 1 < c.n → 1 ≤ c.t k ∧ c.t k ≤ 100000000
def life (a : Int) (c : Chain) : Nat → M3
  | 0 => stepM a (c.d 0) 0 ⟨0, 0, 0⟩
  | k + 1 => stepM a (c.d (k + 1)) (c.t k) (life a c k)
inductive Mark where
  | R | W | C
  deriving DecidableEq
def Mark.s : Mark → Str
  | .R => "read" | .W => "written" | .C => "changed"
def Mark.of (m : M3) : Mark → Int
  | .R => m.r | .W => m.w | .C => m.c
def minL : List Int → Int
  | [] => 0
  | [a] => a
  | a :: b :: r => min a (minL (b :: r))
/-- the age of the latest of some marks behind node k -/
def age (a : Int) (c : Chain) (L : List Mark) (k : Nat) : Int := minL (L.map (Mark.of (life a c k)))
def allL : List (List Mark) := [[.R], [.W], [.R, .W], [.C], [.R, .C], [.W, .C], [.R, .W, .C]]
def lv (L : List Mark) : List V := L.map fun m => V.str m.s
/-- ages as a list of values -/
def ivs (n : Nat) (f : Nat → Int) : List V := (List.range n).map fun k => V.int (f k)
def rvs (n : Nat) (f : Nat → Addr) : List V := (List.range n).map fun k => V.ref (f k)
theorem ivs_len (n : Nat) (f : Nat → Int) : (ivs n f).length = n := by simp [ivs]
theorem rvs_len (n : Nat) (f : Nat → Addr) : (rvs n f).length = n := by simp [rvs]
theorem ivs_at {n : Nat} {f : Nat → Int} {k : Nat} (h : k < n) : (ivs n f)[k]? = some (.int (f k)) := by simp [ivs, h]
theorem rvs_at {n : Nat} {f : Nat → Addr} {k : Nat} (h : k < n) : (rvs n f)[k]? = some (.ref (f k)) := by simp [rvs, h]
/-! ### what stands in the heap -/
section
variable (K : PySem.W.Frag) (H : Hp)
/-- a seldom rule of a stands at p -/
def RuleAt (p : Addr) (a : Int) : Prop := ∃ dx, H p = some (.ins (cRule K) dx [("own_word", .str "seldom"), ("own_after", .int a)])
/-- the set of one count, or of none -/
def StrAt (p : Addr) (o : Option Int) : Prop := ∃ dx l, H p = some (.ins (cStretches K) dx [("own_pairs", .ref l)]) ∧
  match o with
  | none => H l = some (.lst [])
  | some n => ∃ t, H l = some (.lst [.ref t]) ∧ H t = some (.tup [.int n, .int n])
structure WayIs (c : Chain) (p ln la : Addr) (nr ar : Nat → Addr) : Prop where
  ob : ∃ dx, H p = some (.ins (cWay K) dx [("own_nodes", .ref ln), ("own_arrows", .ref la)])
  nl : H ln = some (.lst (rvs c.n nr))
  al : H la = some (.lst (rvs (c.n - 1) ar))
  nd : ∀ k, k < c.n → H (nr k) = some (.tup (c.d k).vs)
  ad : ∀ k, k + 1 < c.n → H (ar k) = some (.tup [.int (k : Nat), .int ((k : Nat) + 1), .int (c.t k), .int (c.t k), .str ""])
def WayAt (p : Addr) (c : Chain) : Prop := c.Ok ∧ ∃ ln la nr ar, WayIs K H c p ln la nr ar
end
section
variable {K : PySem.W.Frag} {H H' : Hp}
theorem RuleAt.ext {p : Addr} {a : Int} (e : Ex H H') (h : RuleAt K H p a) : RuleAt K H' p a := let ⟨dx, x⟩ := h; ⟨dx, e _ _ x⟩
theorem StrAt.ext {p : Addr} {o : Option Int} (e : Ex H H') (h : StrAt K H p o) : StrAt K H' p o := by
  obtain ⟨dx, l, h1, h2⟩ := h
  refine ⟨dx, l, e _ _ h1, ?_⟩
  cases o with
  | none => exact e _ _ h2
  | some n => exact let ⟨t, a, b⟩ := h2; ⟨t, e _ _ a, e _ _ b⟩
theorem WayAt.ext {p : Addr} {c : Chain} (e : Ex H H') (h : WayAt K H p c) : WayAt K H' p c := by
  obtain ⟨ok, ln, la, nr, ar, ⟨dx, ob⟩, nl, al, nd, ad⟩ := h
  exact ⟨ok, ln, la, nr, ar, ⟨dx, e _ _ ob⟩, e _ _ nl, e _ _ al, fun k hk => e _ _ (nd k hk), fun k hk => e _ _ (ad k hk)⟩
end
/-! ### names of attributes are told apart -/
theorem lk1 {x y : Str} {v : V} {r : List (Str × V)} (h : x = y) : ((y, v) :: r).lookup x = some v := by subst h; simp [List.lookup]
theorem lk2 {x y : Str} {v : V} {r : List (Str × V)} (h : ¬ x = y) : ((y, v) :: r).lookup x = r.lookup x := by
  rw [List.lookup_cons]
  have : (x == y) = false := by simpa using h
  rw [this]
theorem lk0 {x : Str} : ([] : List (Str × V)).lookup x = none := rfl
theorem pf0 {x : Str} {v : V} : putF x v [] = [(x, v)] := rfl
theorem pf2 {x y : Str} {v u : V} {r : List (Str × V)} (h : ¬ y = x) : putF x v ((y, u) :: r) = (y, u) :: putF x v r := by
  show (if y = x then _ else _) = _
  rw [if_neg h]
end Ag
set_option maxHeartbeats 4000000
namespace Ag
open PySem PySem.Spec PyProof.Rows L2
open C8 (Cal Met Mak pe_c pe_mt pe_mt0 pe_mk pe_gc)
open Evl (Ex)
section
variable {P : Program} {w : World} {K : PySem.W.Frag} {mg : Str → Option Value} {base : Heap}
def sp_is_whole : Sp := fun vs H Q _ => ∃ i : Int, vs = [.int i] ∧ Q (.bl true) H
theorem c_is_whole (T : Top K mg) : Cal P w K mg base 1 "is_whole" sp_is_whole [] := by
  refine mkCal T.d_is_whole sc_is_whole (fun _ _ _ _ _ _ us hl => match us, hl with | [_], _ => rfl) (fun vs H Q E h => by (obtain ⟨_, rfl, _⟩ := h; rfl)) (fun f cdv A outer s H vs Q E hr h => ?_)
  obtain ⟨i, rfl, k⟩ := h
  refine ⟨_, (pss_one (ps_ret (pe_and (pe_callB call_isi (by rfl) T.n_isinstance (by decide +kernel) (pa_cons (pv 0) (pa_cons (pe_bltn (v := .ty "int") (by rfl) T.n_int (by decide +kernel) rfl) pa_nil))) (pe_one (pe_not (pe_callB call_isi (by rfl) T.n_isinstance (by decide +kernel) (pa_cons (pv 0) (pa_cons (pe_bltn (v := .ty "bool") (by rfl) T.n_bool (by decide +kernel) rfl) pa_nil)))))))), ?_⟩
  refine ⟨_, rfl, _, _, _, _, true, rfl, .ty _, .base (.int _), kit_ty (by decide +kernel), _, rfl, iteT ?_⟩
  refine ⟨_, rfl, _, _, _, _, false, rfl, .ty _, .base (.int _), kit_ty (by decide +kernel), _, rfl, ?_⟩
  exact k
def sp_is_between : Sp := fun vs H Q _ => ∃ i lo hi : Int, vs = [.int i, .int lo, .int hi] ∧ Q (.bl (decide (lo ≤ i) && decide (i ≤ hi))) H
theorem c_is_between (T : Top K mg) : Cal P w K mg base 2 "is_between" sp_is_between [] := by
  refine mkCal T.d_is_between sc_is_between (fun _ _ _ _ _ _ us hl => match us, hl with | [_, _, _], _ => rfl) (fun vs H Q E h => by (obtain ⟨_, _, _, rfl, _⟩ := h; rfl)) (fun f cdv A outer s H vs Q E hr h => ?_)
  obtain ⟨i, lo, hi, rfl, k⟩ := h
  refine ⟨_, (pss_one (ps_ret (pe_and (pe_c (c_is_whole T) hr (by decide) (by rfl) (pa_cons (pv 0) pa_nil)) (pe_one (pe_chain op_le op_le (pv 1) (pv 0) (pv 2)))))), ?_⟩
  refine ⟨_, rfl, _, rfl, _, rfl, iteT ?_⟩
  refine ⟨_, rfl, _, rfl, _, _, rfl, rfl, _, rfl, ?_⟩
  refine ite2 (fun h1 => ?_) (fun h1 => ?_)
  · refine ⟨_, rfl, _, _, rfl, rfl, ?_⟩
    rw [h1] at k
    exact k
  · rw [Bool.not_eq_true] at h1
    rw [h1] at k
    exact k
def sp_is_count : Sp := fun vs H Q _ => ∃ i : Int, vs = [.int i] ∧ Q (.bl (decide (0 ≤ i))) H
theorem c_is_count (T : Top K mg) : Cal P w K mg base 2 "is_count" sp_is_count [] := by
  refine mkCal T.d_is_count sc_is_count (fun _ _ _ _ _ _ us hl => match us, hl with | [_], _ => rfl) (fun vs H Q E h => by (obtain ⟨_, rfl, _⟩ := h; rfl)) (fun f cdv A outer s H vs Q E hr h => ?_)
  obtain ⟨i, rfl, k⟩ := h
  refine ⟨_, (pss_one (ps_ret (pe_and (pe_c (c_is_whole T) hr (by decide) (by rfl) (pa_cons (pv 0) pa_nil)) (pe_one (pe_cmpR op_ge (pv 0) pe_int (nomark _)))))), ?_⟩
  exact ⟨_, rfl, _, rfl, _, rfl, iteT ⟨_, rfl, _, _, rfl, rfl, k⟩⟩
def sp_is_listed (K : PySem.W.Frag) : Sp := fun vs H Q _ => ∃ (a : Addr) (xs : List V), vs = [.ref a] ∧ H a = some (.lst xs) ∧ ∀ H', Ex H H' → Q (.bl true) H'
theorem c_is_listed (T : Top K mg) : Cal P w K mg base 1 "is_listed" (sp_is_listed K) [] := by
  refine mkCal T.d_is_listed sc_is_listed (fun _ _ _ _ _ _ us hl => match us, hl with | [_], _ => rfl) (fun vs H Q E h => by (obtain ⟨_, _, rfl, _⟩ := h; rfl)) (fun f cdv A outer s H vs Q E hr h => ?_)
  obtain ⟨a, xs, rfl, ha, k⟩ := h
  refine ⟨_, (pss_one (ps_ret (pe_callB call_isiT (by rfl) T.n_isinstance (by decide +kernel) (pa_cons (pv 0) (pa_cons (pe_tup (pa_cons (pe_bltn (v := .ty "list") (by rfl) T.n_list (by decide +kernel) rfl) (pa_cons (pe_bltn (v := .ty "tuple") (by rfl) T.n_tuple (by decide +kernel) rfl) pa_nil))) pa_nil))))), ?_⟩
  refine ⟨_, rfl, by decide, fun p hp => ?_⟩
  have e := Evl.Ex.new (o := .tup [V.ty "list", V.ty "tuple"]) hp
  refine ⟨_, _, _, _, _, true, rfl, upd_same, .cons (.ty _) (.cons (.ty _) .nil), .base (.lst (e _ _ ha)), kitAny_cons (kit_ty (b := "list") (r := true) (by decide +kernel)) (fun z => by cases z) (fun _ => rfl), ?_⟩
  exact k _ e
def sp_is_part_of (K : PySem.W.Frag) : Sp := fun vs H Q _ => ∃ (z : Str) (a : Addr) (zs : List Str), vs = [.str z, .ref a] ∧ SqT K H a (zs.map V.str) ∧ z ∈ zs ∧ Q (.bl true) H
theorem flat_strs (zs : List Str) : (zs.map V.str).all flatV = true := by
  simp [flatV]
theorem inV_str (z : Str) (zs : List Str) : inV (.str z) (zs.map V.str) = decide (z ∈ zs) := by
  induction zs with
  | nil => rfl
  | cons a r ih =>
    have h : inV (.str z) ((a :: r).map V.str) = (eqV (.str a) (.str z) || inV (.str z) (r.map V.str)) := rfl
    rw [h, ih]
    by_cases e : z = a
    · subst e; simp [eqV]
    · have e2 : ¬ a = z := fun q => e q.symm
      simp [eqV, e, e2]
theorem c_is_part_of (T : Top K mg) : Cal P w K mg base 1 "is_part_of" (sp_is_part_of K) [] := by
  refine mkCal T.d_is_part_of sc_is_part_of (fun _ _ _ _ _ _ us hl => match us, hl with | [_, _], _ => rfl) (fun vs H Q E h => by (obtain ⟨_, _, _, rfl, _⟩ := h; rfl)) (fun f cdv A outer s H vs Q E hr h => ?_)
  obtain ⟨z, a, zs, rfl, ha, hz, k⟩ := h
  refine ⟨_, (pss_one (ps_ret (pe_and (pe_callB call_isi (by rfl) T.n_isinstance (by decide +kernel) (pa_cons (pv 0) (pa_cons (pe_bltn (v := .ty "str") (by rfl) T.n_str (by decide +kernel) rfl) pa_nil))) (pe_one (pe_cmpR op_in_seq (pv 0) (pv 1) (by rfl)))))), ?_⟩
  refine ⟨_, rfl, _, _, _, _, true, rfl, .ty _, .base (.str _), kit_ty (by decide +kernel), _, rfl, iteT ?_⟩
  refine ⟨_, rfl, _, rfl, _, _, rfl, .inr ha, rfl, flat_strs zs, ?_⟩
  show Q (.bl (inV (.str z) (zs.map V.str))) H
  rw [inV_str, decide_eq_true hz]
  exact k
def sp_check_rule (K : PySem.W.Frag) : Sp := fun vs H Q _ => ∃ (p : Addr) (a : Int), vs = [.ref p] ∧ RuleAt K H p a ∧ Q .non H
theorem c_check_rule (T : Top K mg) : Cal P w K mg base 1 "check_rule" (sp_check_rule K) [] := by
  refine mkCal T.d_check_rule sc_check_rule (fun _ _ _ _ _ _ us hl => match us, hl with | [_], _ => rfl) (fun vs H Q E h => by (obtain ⟨_, _, rfl, _⟩ := h; rfl)) (fun f cdv A outer s H vs Q E hr h => ?_)
  obtain ⟨p, a, rfl, ⟨dx, hp⟩, k⟩ := h
  refine ⟨_, (pss_one (ps_if (pt_not (pt_val (pe_callB (C8.call_isC T.k_Rule) (by rfl) T.n_isinstance (by decide +kernel) (pa_cons (pv 0) (pa_cons (pe_glob (v := .ref (cRule K)) (by rfl) T.g_Rule rfl) pa_nil))))) (pss_one ps_never) pss_nil)), ?_⟩
  exact ⟨_, rfl, _, _, _, rfl, hp, _, rfl, iteF k⟩
def sp_check_way (K : PySem.W.Frag) : Sp := fun vs H Q _ => ∃ (p : Addr) (c : Chain), vs = [.ref p] ∧ WayAt K H p c ∧ Q .non H
theorem c_check_way (T : Top K mg) : Cal P w K mg base 1 "check_way" (sp_check_way K) [] := by
  refine mkCal T.d_check_way sc_check_way (fun _ _ _ _ _ _ us hl => match us, hl with | [_], _ => rfl) (fun vs H Q E h => by (obtain ⟨_, _, rfl, _⟩ := h; rfl)) (fun f cdv A outer s H vs Q E hr h => ?_)
  obtain ⟨p, c, rfl, ⟨_, _, _, _, _, ⟨dx, hp⟩, _⟩, k⟩ := h
  refine ⟨_, (pss_one (ps_if (pt_not (pt_val (pe_callB (C8.call_isC T.k_Way) (by rfl) T.n_isinstance (by decide +kernel) (pa_cons (pv 0) (pa_cons (pe_glob (v := .ref (cWay K)) (by rfl) T.g_Way rfl) pa_nil))))) (pss_one ps_never) pss_nil)), ?_⟩
  exact ⟨_, rfl, _, _, _, rfl, hp, _, rfl, iteF k⟩
def sp_is_time : Sp := fun vs H Q _ => ∃ i : Int, vs = [.int i] ∧ Q (.bl (decide (1 ≤ i) && decide (i ≤ 1000000000))) H
theorem c_is_time (T : Top K mg) : Cal P w K mg base 3 "is_time" sp_is_time [] := by
  refine mkCal T.d_is_time sc_is_time (fun _ _ _ _ _ _ us hl => match us, hl with | [_], _ => rfl) (fun vs H Q E h => by (obtain ⟨_, rfl, _⟩ := h; rfl)) (fun f cdv A outer s H vs Q E hr h => ?_)
  obtain ⟨i, rfl, k⟩ := h
  refine ⟨_, (pss_one (ps_ret (pe_c (c_is_between T) hr (by decide) (by rfl) (pa_cons (pv 0) (pa_cons pe_int (pa_cons (pe_gc (by rfl) T.v_LONGEST) pa_nil)))))), ?_⟩
  exact ⟨_, rfl, _, _, _, rfl, k⟩
/-! ### Rule -/
theorem ow_oa : ¬ (("own_word" : Str) = "own_after") := by decide +kernel
theorem oa_ow : ¬ (("own_after" : Str) = "own_word") := by decide +kernel
def sp_Rule_init (K : PySem.W.Frag) : Sp := fun vs H Q _ => ∃ (p dx : Addr) (a : Int), vs = [.ref p, .str "seldom", .int a] ∧ H p = some (.ins (cRule K) dx []) ∧ Q .non (upd H p (.ins (cRule K) dx [("own_word", .str "seldom"), ("own_after", .int a)]))
theorem c_Rule_init (T : Top K mg) : Mak P w K mg base 1 "Rule" (cRule K) (sp_Rule_init K) [] := by
  refine mkMak T.g_Rule T.i_Rule sc_Rule_init (fun _ _ _ _ _ _ us hl => match us, hl with | [_, _, _], _ => rfl) (fun vs H Q E h => by (obtain ⟨_, _, _, rfl, _⟩ := h; rfl)) (fun f cdv A outer s H vs Q E hr h => ?_)
  obtain ⟨p, dx, a, rfl, hp, k⟩ := h
  refine ⟨_, (pss_cons (ps_fld (pv 0) (pv 1) rfl)
    (pss_one (ps_fld (pv 0) (pv 2) rfl))), ?_⟩
  refine ⟨_, rfl, _, rfl, p, _, dx, _, rfl, hp, T.k_Rule.cl, T.na_Rule_own_word, (by show 0 < 1000; decide), _, rfl, _, rfl, p, _, dx, _, rfl, upd_same, T.k_Rule.cl, T.na_Rule_own_after, (by show 1 < 1000; decide), ?_⟩
  rw [upd_upd, pf0, pf2 ow_oa, pf0]
  exact k
def sp_Rule_seldom (K : PySem.W.Frag) : Sp := fun vs H Q _ => ∃ a : Int, vs = [.int a] ∧ 1 ≤ a ∧ a ≤ 2000 ∧ ∀ p H', Ex H H' → H p = none → RuleAt K H' p a → Q (.ref p) H'
theorem c_Rule_seldom (T : Top K mg) : Sta P w K mg base 3 (cRule K) "seldom" (sp_Rule_seldom K) := by
  refine mkSta T.st_Rule_seldom sc_Rule_seldom (fun _ _ _ _ _ _ us hl => match us, hl with | [_], _ => rfl) (fun vs H Q E h => by (obtain ⟨_, rfl, _⟩ := h; rfl)) (fun f cdv A outer s H vs Q E hr h => ?_)
  obtain ⟨a, rfl, h1, h2, k⟩ := h
  refine ⟨_, (pss_cons (ps_if (pt_not (pt_val (pe_c (c_is_between T) hr (by decide) (by rfl) (pa_cons (pv 0) (pa_cons pe_int (pa_cons (pe_gc (by rfl) T.v_LATEST_AFTER) pa_nil)))))) (pss_one ps_never) pss_nil)
    (pss_one (ps_ret (pe_mk (c_Rule_init T) hr (by decide) (by rfl) (pa_cons pe_str (pa_cons (pv 0) pa_nil)))))), ?_⟩
  refine ⟨_, rfl, _, _, _, rfl, _, rfl, ?_⟩
  rw [decide_eq_true h1, decide_eq_true h2]
  refine iteF ?_
  refine ⟨_, rfl, fun x dx hx hdx ne => ?_⟩
  refine ⟨x, dx, a, rfl, upd_same, rfl, ?_⟩
  rw [upd_upd]
  refine k x _ (fun b o hb => ?_) hx ⟨dx, upd_same⟩
  rw [upd_ne (ne_fr hb hx), upd_ne (ne_fr hb hdx)]
  exact hb
def sp_Rule_word (K : PySem.W.Frag) : Sp := fun vs H Q _ => ∃ (p : Addr) (a : Int), vs = [.ref p] ∧ RuleAt K H p a ∧ Q (.str "seldom") H
theorem c_Rule_word (T : Top K mg) : Prp P w K mg base 1 (cRule K) "word" (sp_Rule_word K) := by
  refine mkPrp T.k_Rule.cl T.p_Rule_word sc_Rule_word (fun _ _ _ _ _ _ us hl => match us, hl with | [_], _ => rfl) (fun vs H Q E h => by (obtain ⟨_, _, rfl, _⟩ := h; rfl)) (fun f cdv A outer s H vs Q E hr h => ?_)
  obtain ⟨p, a, rfl, ⟨dx, hp⟩, k⟩ := h
  refine ⟨_, (pss_one (ps_ret (pe_fld (pv 0) rfl))), ?_⟩
  exact ⟨_, rfl, p, _, dx, _, _, rfl, hp, T.k_Rule.cl, T.na_Rule_own_word, lk1 rfl, k⟩
def sp_Rule_after (K : PySem.W.Frag) : Sp := fun vs H Q _ => ∃ (p : Addr) (a : Int), vs = [.ref p] ∧ RuleAt K H p a ∧ Q (.int a) H
theorem c_Rule_after (T : Top K mg) : Prp P w K mg base 1 (cRule K) "after" (sp_Rule_after K) := by
  refine mkPrp T.k_Rule.cl T.p_Rule_after sc_Rule_after (fun _ _ _ _ _ _ us hl => match us, hl with | [_], _ => rfl) (fun vs H Q E h => by (obtain ⟨_, _, rfl, _⟩ := h; rfl)) (fun f cdv A outer s H vs Q E hr h => ?_)
  obtain ⟨p, a, rfl, ⟨dx, hp⟩, k⟩ := h
  refine ⟨_, (pss_one (ps_ret (pe_fld (pv 0) rfl))), ?_⟩
  exact ⟨_, rfl, p, _, dx, _, _, rfl, hp, T.k_Rule.cl, T.na_Rule_own_after, (lk2 oa_ow).trans (lk1 rfl), k⟩
end
end Ag
set_option maxHeartbeats 4000000
/-! A class whose __init__ has a star parameter; one whose __init__ has keyword-only parameters; dead code. -/
namespace Ag
open PySem PySem.Spec PyProof.Rows L2
open C8 (Cal Met Mak pe_c pe_mt pe_mt0 pe_mk)
open Evl (Ex)
section
variable {X : Cx} {k j : Nat} {C : Addr} {x : Str} {sp : Sp} {p pos sp_ : Pos} {e : Expr} {es : List Expr} {te : TE} {t tk : TA} {kws : List Keyword}
theorem pe_never : PE X e (fun _ _ _ => False) := ⟨fun _ _ _ _ _ _ h => h.elim⟩
theorem pt_never : PT X e (fun _ _ _ => False) := ⟨fun _ _ _ _ _ _ h => h.elim⟩
/-! the same rules with K named: for use within comprehensions -/
section
variable {K : PySem.W.Frag} {es2 : List Expr}
theorem ixTK (hK : X.K = K := by rfl) : IxR X (rIxT K) := by subst hK; exact ix_tup
theorem ixLK (hK : X.K = K := by rfl) : IxR X (rIxL K) := by subst hK; exact ix_list
theorem slTK (hK : X.K = K := by rfl) : SlR X (rSlA K) := by subst hK; exact sl_tupA
theorem crMinK (hc : X.calm = true) (hK : X.K = K := by rfl) : CallR X (.builtin "min") (rMin K) := by subst hK; exact cr_min hc
theorem ix_ownK {P : Program} {w : World} {mg : Str → Option Value} {base : Heap} {A : Around} {a b : Expr} {ta tb : TE} (c : Met P w K mg base k C "__getitem__" sp []) (hr : Room j A) (hk : k + 1 ≤ j) (hfi : ∀ f, PySem.W.findIn K (.ref C) "__getitem__" = some (some (.ref f)) → PySem.W.fnIn K f = true)
    (ha : PE X a ta) (hb : PE X b tb) (h1 : X.prog = P := by rfl) (h2 : X.w = w := by rfl) (hK : X.K = K := by rfl) (h4 : X.mg = mg := by rfl) (h5 : X.base = base := by rfl) (h6 : X.A = A := by rfl) (hsl : ∀ o i, subscripted b true o i = runValue (.builtin "lifetime.subscript" ⟨[o, i], []⟩) := by (intro o i; with_unfolding_all rfl)) :
    PE X (.Subscript a b pos) (fun σ H Q => ta σ H fun y H1 => tb σ H1 fun z H2 => ∃ o dx fs, y = .ref o ∧ H2 o = some (.ins C dx fs) ∧ sp [.ref o, z] H2 Q C8.E0) := by
  subst h1 h2 hK h4 h5 h6
  exact ix_own c hr hk hfi ha hb hsl
theorem piLK {l : Expr} {tl : TE} {tg : Expr} (hl : PE X l tl) (hK : X.K = K := by rfl) : PI X tg l (iList K tl) := by subst hK; exact pi_list hl
theorem piTK {l : Expr} {tl : TE} {tg : Expr} (hl : PE X l tl) (hK : X.K = K := by rfl) : PI X tg l (iTup K tl) := by subst hK; exact pi_tup hl
theorem pg_unlK {es : List Expr} {k : Nat} {t : TGs} {n : Nat} (hc : X.calm = true) (h : PGs X es t) (hK : X.K = K := by rfl)
    (hn : (assignEach es X.env).length = n := by rfl) (hst : (assignEach es X.env).findIdx? (·.1) = none := by rfl) : PG X (.Tuple es k pos) (gUnl K n t) := by subst hK; exact pg_unl hc h hn hst
theorem starK (hK : X.K = K := by rfl) (he : PE X e te) (hr : PA X es t) (hs : starEach (.Starred e p :: es) X.env = (true, eval e X.env) :: starEach es X.env := by rfl) : PA X (.Starred e p :: es) (StX.tStar K te t) := by
  subst hK; exact StX.pa_star he hr hs
end
structure MakS (P : Program) (w : World) (K : PySem.W.Frag) (mg : Str → Option Value) (base : Heap) (k : Nat) (x : Str) (C : Addr) (sp : Sp) : Prop where
  ex : ∃ f, Mk K C f ∧ mg x = some (.ref C) ∧ FnR P w K mg base C8.CX0 k f (fun vs H Q E => ∃ ws rest, vs = ws ++ rest ∧ ws.length = 1 ∧ rest.length ≤ sizeLine ∧ ∀ p, H p = none → sp (ws ++ [V.ref p]) (upd H p (.tup rest)) Q E)
def tMkS (C : Addr) (sp : Sp) (t : TA) : TE := fun σ H Q => t σ H fun vs H1 => vs.length ≤ sizeLine ∧ ∀ x dx, H1 x = none → H1 dx = none → dx ≠ x → ∀ p, upd (upd H1 dx (.own x)) x (.ins C dx []) p = none →
  sp [V.ref x, V.ref p] (upd (upd (upd H1 dx (.own x)) x (.ins C dx [])) p (.tup vs)) (fun v H2 => v = .non ∧ Q (.ref x) H2) C8.E0
/-- C(e, ..) -/
theorem pe_mkS (c : MakS X.prog X.w X.K X.mg X.base k x C sp) (hr : Room j X.A) (hk : k + 1 ≤ j) (hg : Gl X x) (ha : PA X (e :: es) t)
    (hdb : (x == ("__debug__" : Str)) = false := by decide) (he : starEach (e :: es) X.env = (false, eval e X.env) :: starEach es X.env := by rfl) (hpl : (backTo pos (starEach es X.env)).any (·.1) = false := by rfl) :
    PE X (.Call (.Name x p) (e :: es) [] pos) (tMkS C sp t) := by
  obtain ⟨f, M, hm, F⟩ := c.ex
  refine ⟨fun pins s σ H Q I h => ?_⟩
  refine wpAny_Call_Name_kw (ld_glob I hg hm ?_ hdb)
  refine PySem.W.callWith_K (h₀ := X.base) I.ok.mod.kin M.kp (thn (ha.run pos pins s σ H _ I h) fun us s1 ⟨vs, H1, I1, r, hl, q⟩ => ⟨I1.kIn, ?_⟩) he hpl
  exact StX.run_makeR (E := C8.E0) M F (hr.mono hk) C8.pass0 I1 r fun x dx hx hdx ne => ⟨[V.ref x], vs, rfl, rfl, hl, fun p hp => q x dx hx hdx ne p hp⟩
/-- C(*e) -/
theorem pe_mkSS (c : MakS X.prog X.w X.K X.mg X.base k x C sp) (hr : Room j X.A) (hk : k + 1 ≤ j) (hg : Gl X x) (he : PE X e te)
    (hdb : (x == ("__debug__" : Str)) = false := by decide) (hst : starEach [.Starred e sp_] X.env = [(true, eval e X.env)] := by rfl) :
    PE X (.Call (.Name x p) [.Starred e sp_] [] pos) (fun σ H Q => te σ H fun y H1 => ∃ a xs, y = V.ref a ∧ (SqT X.K H1 a xs ∨ SqL X.K H1 a xs) ∧ tMkS C sp (fun _ H2 Q2 => Q2 xs H2) σ H1 Q) := by
  obtain ⟨f, M, hm, F⟩ := c.ex
  refine ⟨fun pins s σ H Q I h => ?_⟩
  refine wpAny_Call_Name_kw (ld_glob I hg hm ?_ hdb)
  refine PySem.W.callWith_S (h₀ := X.base) I.ok.mod.kin M.kp (thn (he.run pins s σ H _ I h) fun v s1 ⟨y, H1, I1, ry, a, xs, ey, hxs, hl, q⟩ => ?_) hst
  subst ey
  obtain rfl : v = Value.ref a := ry
  exact StX.star_any I1 hxs fun us s2 I2 rv => ⟨I2.kIn, StX.run_makeR (E := C8.E0) M F (hr.mono hk) C8.pass0 I2 rv fun x dx hx hdx ne => ⟨[V.ref x], xs, rfl, rfl, hl, fun p hp => q x dx hx hdx ne p hp⟩⟩
structure MakB (P : Program) (w : World) (K : PySem.W.Frag) (mg : Str → Option Value) (base : Heap) (k : Nat) (x : Str) (C : Addr) (ks : List Str) (more : List V) (sp : Sp) : Prop where
  ex : ∃ f fd ps mv, Mk K C f ∧ mg x = some (.ref C) ∧ FnOk P w K mg base C8.CX0 k f fd ps sp ∧ KBn K fd ps 1 ks (fun us ws => us ++ ws ++ mv) (fun vs zs => vs ++ zs ++ more)
theorem pe_mkB {ks : List Str} {more : List V} (c : MakB X.prog X.w X.K X.mg X.base k x C ks more sp) (hr : Room j X.A) (hk : k + 1 ≤ j) (hg : Gl X x) (hkw : PK X kws tk)
    (hall : (backToKw pos (keywordEach kws X.env)).all (·.1.isSome) = true := by rfl) (hks : (backToKw pos (keywordEach kws X.env)).filterMap (·.1) = ks := by rfl) (hdb : (x == ("__debug__" : Str)) = false := by decide)
    (hpl : ((backTo pos (starEach [] X.env)).any (·.1) || (backToKw pos (keywordEach kws X.env)).any (·.1.isNone)) = false := by rfl) :
    PE X (.Call (.Name x p) [] kws pos) (tMakeK C 0 ks.length sp (fun vs zs => vs ++ zs ++ more) C8.E0 tNil tk) := by
  obtain ⟨f, fd, ps, mv, M, hm, F, b⟩ := c.ex
  exact pe_makeK0 M F (hr.mono hk) hg hm b C8.pass0 hkw hall hks hdb hpl
end
section
variable {P : Program} {w : World} {K : PySem.W.Frag} {mg : Str → Option Value} {base : Heap}
theorem mkMakS {C : Addr} {x qual : Str} {st : Stmt} {N : List Str} {k : Nat} {sp : Sp} {p1 pv : Str} (hm : mg x = some (.ref C)) (d : MkF K C qual st []) (S : FnScope N [p1, pv] (L2.defScope st))
    (h0 : ∀ (kV doc pm : Value) (an : Option Addr) (cdv ct : Value) a, bindArgs (PySem.W.fnOf "__init__" qual (L2.defArgs st) (L2.defBody st) (L2.defScope st) .none kV doc pm an cdv ct) ⟨[a], []⟩ = (newTuple [] >>= fun t => pure [(p1, a), (pv, t)]))
    (h1 : ∀ (kV doc pm : Value) (an : Option Addr) (cdv ct : Value) a r rs, bindArgs (PySem.W.fnOf "__init__" qual (L2.defArgs st) (L2.defBody st) (L2.defScope st) .none kV doc pm an cdv ct) ⟨a :: r :: rs, []⟩ = (newTuple (r :: rs) >>= fun t => pure [(p1, a), (pv, t)]))
    (hbody : BodyOk P w K mg base qual st N k sp) : MakS P w K mg base (k + 1) x C sp := by
  obtain ⟨f, fd, F, g⟩ := d
  obtain ⟨oc, od, dV, kV, doc, pm, an, cdv, ct, osl, rfl, lk, hcd, hD, hK⟩ := F.ex
  obtain rfl : dV = .none := by
    rcases hD with ⟨_, z⟩ | ⟨z, _⟩
    · exact z
    · exact absurd rfl z
  refine ⟨f, g, hm, ?_⟩
  exact StX.fn_star lk hcd (ps := [p1]) S StX.cxUp_none (StX.bind_star1 (B := fun us => bindArgs _ ⟨us, []⟩) (fun a => h0 _ _ _ _ _ _ a) (fun a r rs => h1 _ _ _ _ _ _ a r rs)) (fun A outer s H vs Q E hr h => by
    obtain ⟨t, ht, h2⟩ := hbody f cdv A outer s H vs Q E hr h
    exact ⟨t, ht.nox, h2⟩)
end
end Ag
set_option maxHeartbeats 4000000
/-! Comprehensions by what they gather. -/
namespace Ag
open PySem PySem.Spec PyProof.Rows L2
open Evl (Ex)
/-- what H' holds beyond H; a heap less one place -/
def dif (H H' : Hp) : Hp := fun a => match H a with | none => H' a | some _ => none
def del (H : Hp) (D : Addr) : Hp := fun a => if a = D then none else H a
theorem dif_ex {H H' : Hp} : Ex (dif H H') H' := by
  intro a o h
  unfold dif at h
  cases q : H a with
  | none => rw [q] at h; exact h
  | some _ => rw [q] at h; cases h
theorem dif_of {H H' : Hp} {a : Addr} {o : HO} (h0 : H a = none) (h : H' a = some o) : dif H H' a = some o := by
  unfold dif
  rw [h0]
  exact h
theorem dif_mono {H H1 H' : Hp} (e : Ex H H1) : Ex (dif H1 H') (dif H H') := by
  intro a o h
  unfold dif at h
  cases q : H1 a with
  | some _ => rw [q] at h; cases h
  | none => rw [q] at h; exact dif_of (fr_of e q) h
theorem dif_ext {H H1 H2 : Hp} (e : Ex H1 H2) : Ex (dif H H1) (dif H H2) := by
  intro a o h
  unfold dif at h
  cases q : H a with
  | some _ => rw [q] at h; cases h
  | none => rw [q] at h; exact dif_of q (e _ _ h)
theorem dif_none {H H' : Hp} {a : Addr} {o : HO} (h : dif H H' a = some o) : H a = none := by
  unfold dif at h
  cases q : H a with
  | none => rfl
  | some _ => rw [q] at h; cases h
theorem del_ex {H : Hp} {D : Addr} : Ex (del H D) H := by
  intro a o h
  unfold del at h
  by_cases q : a = D
  · rw [if_pos q] at h; cases h
  · rw [if_neg q] at h; exact h
theorem del_of {H : Hp} {D a : Addr} {o : HO} (n : a ≠ D) (h : H a = some o) : del H D a = some o := by
  unfold del
  rw [if_neg n]
  exact h
theorem del_mono {H H' : Hp} {D : Addr} (e : Ex H H') : Ex (del H D) (del H' D) := by
  intro a o h
  unfold del at h
  by_cases q : a = D
  · rw [if_pos q] at h; cases h
  · rw [if_neg q] at h; exact del_of q (e _ _ h)
theorem dif_del {H H' : Hp} {D : Addr} {o : HO} (hD : H D = some o) : Ex (dif H H') (del H' D) := by
  intro a u h
  have h0 := dif_none h
  refine del_of (fun z => ?_) (dif_ex _ _ h)
  rw [z, hD] at h0
  cases h0
theorem del_upd {H : Hp} {D : Addr} {o : HO} : del (upd H D o) D = del H D := by
  funext a
  unfold del
  by_cases q : a = D
  · rw [if_pos q, if_pos q]
  · rw [if_neg q, if_neg q, upd_ne q]
theorem rng_set {α : Type} {n j : Nat} {f : Nat → α} {v : α} : ((List.range n).map f).set j v = (List.range n).map fun k => if k = j then v else f k := by
  apply List.ext_getElem?
  intro i
  rw [List.getElem?_set]
  by_cases h : j = i
  · subst h
    by_cases hn : j < n
    · simp [hn]
    · simp [hn]
  · have h' : ¬ i = j := fun z => h z.symm
    rw [if_neg h]
    by_cases hn : i < n
    · simp [hn, h']
    · simp [hn]
theorem rng_succ {α : Type} {n : Nat} {f : Nat → α} : (List.range (n + 1)).map f = (List.range n).map f ++ [f n] := by
  rw [List.range_succ, List.map_append]; rfl
theorem filt_succ {α : Type} {n : Nat} {f : Nat → α} {p : Nat → Bool} : ((List.range (n + 1)).filter p).map f = ((List.range n).filter p).map f ++ (if p n = true then [f n] else []) := by
  rw [List.range_succ, List.filter_append, List.map_append]
  congr 1
  by_cases h : p n = true
  · simp [h]
  · simp [h]
theorem filt_len (n : Nat) (p : Nat → Bool) : ((List.range n).filter p).length ≤ n := by
  have := List.length_filter_le p (List.range n)
  simpa using this
section
variable {J : It} {n : Nat} {G : Hp → Prop} {Y : Nat → Hp → V → Hp → Prop} {g : TG} {tt : TT} {te : TE} {vs : List Nat} {σ : L2.St} {H1 : Hp} {D : Addr} {Qd : Hp → Prop}
/-- [f i for i .. if p i] -/
theorem lc_filt (w : Walk J n G Y) (p : Nat → Bool) (f : Nat → V) (hD : H1 D = none) (hn : n ≤ 1000) (hG : ∀ H, Ex H1 H → G H)
    (hs : ∀ i x H H', i < n → Ex H1 H → Y i H x H' → ∀ (R : V → Hp → Prop) (S : Hp → Prop), (p i = true → ∀ H4, Ex H H4 → R (f i) H4) → (p i = false → ∀ H4, Ex H H4 → S H4) →
      g x (wipe σ vs) H' fun σ2 H2 => wipe σ2 vs = wipe σ vs ∧ tt σ2 H2 fun b H3 => if b = true then te σ2 H3 R else S H3)
    (hd : ∀ H, Ex H1 H → H D = some (.lst (((List.range n).filter p).map f)) → Qd H) :
    ∃ W : Nat → Nat → Hp → Prop, (∃ m, W 0 m (upd H1 D (.lst []))) ∧ ∀ i m H, W i m H →
      (J.stop i H ∧ Qd H) ∨ (J.go i H ∧ ∃ Nx : Hp → Prop, (∀ H', Nx H' → ∃ m', m' < m ∧ W (i + 1) m' H') ∧ ∀ x H', J.yld i H x H' → g x (wipe σ vs) H' fun σ2 H2 => wipe σ2 vs = wipe σ vs ∧ tt σ2 H2 fun b H3 =>
        if b = true then te σ2 H3 fun y H4 => ∃ acc, H4 D = some (.lst acc) ∧ acc.length < sizeLine ∧ Nx (upd H4 D (.lst (acc ++ [y]))) else Nx H3) := by
  refine lc_it w (fun i H => Ex H1 H ∧ H D = some (.lst (((List.range i).filter p).map f))) ⟨Evl.Ex.new hD, upd_same⟩ (fun i H _ z => hG H z.1) (fun i x H H' hi z y => ?_) (fun H z => hd H z.1 z.2)
  refine hs i x H H' hi z.1 y (fun y H4 => ∃ acc, H4 D = some (.lst acc) ∧ acc.length < sizeLine ∧ Ex H1 (upd H4 D (.lst (acc ++ [y]))) ∧ upd H4 D (.lst (acc ++ [y])) D = some (.lst (((List.range (i + 1)).filter p).map f)))
    (fun H3 => Ex H1 H3 ∧ H3 D = some (.lst (((List.range (i + 1)).filter p).map f))) (fun hp H4 e => ?_) (fun hp H4 e => ?_)
  · refine ⟨_, e _ _ z.2, szt ?_, Evl.Ex.mut (z.1.trans e) hD, ?_⟩
    · have := filt_len i p
      rw [List.length_map]
      omega
    · rw [upd_same, filt_succ, if_pos hp]
  · refine ⟨z.1.trans e, ?_⟩
    rw [filt_succ, if_neg (by rw [hp]; decide), List.append_nil]
    exact e _ _ z.2
/-- [f i for i ..] -/
theorem lc_map (w : Walk J n G Y) (f : Nat → V) (hD : H1 D = none) (hn : n ≤ 1000) (hG : ∀ H, Ex H1 H → G H)
    (hs : ∀ i x H H', i < n → Ex H1 H → Y i H x H' → ∀ (R : V → Hp → Prop), (∀ H4, Ex H H4 → R (f i) H4) →
      g x (wipe σ vs) H' fun σ2 H2 => wipe σ2 vs = wipe σ vs ∧ te σ2 H2 R)
    (hd : ∀ H, Ex H1 H → H D = some (.lst ((List.range n).map f)) → Qd H) :
    ∃ W : Nat → Nat → Hp → Prop, (∃ m, W 0 m (upd H1 D (.lst []))) ∧ ∀ i m H, W i m H →
      (J.stop i H ∧ Qd H) ∨ (J.go i H ∧ ∃ Nx : Hp → Prop, (∀ H', Nx H' → ∃ m', m' < m ∧ W (i + 1) m' H') ∧ ∀ x H', J.yld i H x H' → g x (wipe σ vs) H' fun σ2 H2 => wipe σ2 vs = wipe σ vs ∧ tYes σ2 H2 fun b H3 =>
        if b = true then te σ2 H3 fun y H4 => ∃ acc, H4 D = some (.lst acc) ∧ acc.length < sizeLine ∧ Nx (upd H4 D (.lst (acc ++ [y]))) else Nx H3) := by
  refine lc_filt (tt := tYes) w (fun _ => true) f hD hn hG (fun i x H H' hi e y R S h1 h2 => ?_) (fun H e h => hd H e ?_)
  · exact hs i x H H' hi e y R (h1 rfl)
  · rw [h]
    congr 3
    exact (List.filter_eq_self.mpr (fun _ _ => rfl)).symm ▸ rfl
/-- [.. for i ..], of the i-th item Pr is known -/
theorem lc_rel (w : Walk J n G Y) (Pr : Nat → Hp → V → Prop) (hst : ∀ i H H' v, Ex H H' → Pr i H v → Pr i H' v) (hD : H1 D = none) (hn : n ≤ 1000) (hG : ∀ H, Ex H1 H → G H)
    (hs : ∀ i x H H', i < n → Ex H1 H → (∃ acc, H D = some (.lst acc)) → Y i H x H' → ∀ (R : V → Hp → Prop), (∀ v H4, Ex H H4 → Pr i (del H4 D) v → R v H4) →
      g x (wipe σ vs) H' fun σ2 H2 => wipe σ2 vs = wipe σ vs ∧ te σ2 H2 R)
    (hd : ∀ H F, Ex H1 H → H D = some (.lst ((List.range n).map F)) → (∀ i, i < n → Pr i (del H D) (F i)) → Qd H) :
    ∃ W : Nat → Nat → Hp → Prop, (∃ m, W 0 m (upd H1 D (.lst []))) ∧ ∀ i m H, W i m H →
      (J.stop i H ∧ Qd H) ∨ (J.go i H ∧ ∃ Nx : Hp → Prop, (∀ H', Nx H' → ∃ m', m' < m ∧ W (i + 1) m' H') ∧ ∀ x H', J.yld i H x H' → g x (wipe σ vs) H' fun σ2 H2 => wipe σ2 vs = wipe σ vs ∧ tYes σ2 H2 fun b H3 =>
        if b = true then te σ2 H3 fun y H4 => ∃ acc, H4 D = some (.lst acc) ∧ acc.length < sizeLine ∧ Nx (upd H4 D (.lst (acc ++ [y]))) else Nx H3) := by
  refine lc_it (tt := tYes) w (fun i H => Ex H1 H ∧ ∃ F : Nat → V, H D = some (.lst ((List.range i).map F)) ∧ ∀ k, k < i → Pr k (del H D) (F k)) ⟨Evl.Ex.new hD, fun _ => .non, upd_same, fun k hk => absurd hk (Nat.not_lt_zero _)⟩ (fun i H _ z => hG H z.1) (fun i x H H' hi z y => ?_) (fun H ⟨e, F, h1, h2⟩ => hd H F e h1 h2)
  obtain ⟨e, F, hF, hP⟩ := z
  refine hs i x H H' hi e ⟨_, hF⟩ y (fun y H4 => ∃ acc, H4 D = some (.lst acc) ∧ acc.length < sizeLine ∧ Ex H1 (upd H4 D (.lst (acc ++ [y]))) ∧ ∃ F : Nat → V, upd H4 D (.lst (acc ++ [y])) D = some (.lst ((List.range (i + 1)).map F)) ∧ ∀ k, k < i + 1 → Pr k (del (upd H4 D (.lst (acc ++ [y]))) D) (F k)) (fun v H4 e4 hv => ?_)
  refine ⟨_, e4 _ _ hF, szt ?_, Evl.Ex.mut (e.trans e4) hD, fun k => if k = i then v else F k, ?_, fun k hk => ?_⟩
  · simp; omega
  · rw [upd_same, rng_succ, if_pos rfl]
    congr 3
    apply List.map_congr_left
    intro k hk
    have : k < i := by simpa using hk
    rw [if_neg (by omega)]
  · rw [del_upd]
    by_cases q : k = i
    · subst q
      simpa using hv
    · have : (if k = i then v else F k) = F k := if_neg q
      show Pr k (del H4 D) (if k = i then v else F k)
      rw [this]
      exact hst k _ _ _ (del_mono e4) (hP k (by omega))
end
end Ag
set_option maxHeartbeats 4000000
namespace Ag
open PySem PySem.Spec PyProof.Rows L2
open C8 (Cal Met Mak pe_c pe_mt pe_mt0 pe_mk pe_gc)
open Evl (Ex)
theorem iteDT {c A B : Prop} [Decidable c] (h : c) (x : A) : if decide c = true then A else B := by rw [decide_eq_true h]; exact iteT x
theorem iteDF {c A B : Prop} [Decidable c] (h : ¬ c) (x : B) : if decide c = true then A else B := by rw [decide_eq_false h]; exact iteF x
theorem iteNT {c A B : Prop} [Decidable c] (h : ¬ c) (x : A) : if (!decide c) = true then A else B := by rw [decide_eq_false h]; exact iteT x
theorem sh0 : SeqAt.shaped (.list []) = true := by simp [SeqAt.shaped, PyData.canLay0, PyData.canLayAll0, PyData.depth, PyData.depthAll]
theorem eqv0 : PyData.eqv (.list []) (.list []) = true := by simp [PyData.eqv, PyData.eqvAll]
section
variable {P : Program} {w : World} {K : PySem.W.Frag} {mg : Str → Option Value} {base : Heap}
def sp_is_pair : Sp := fun vs H Q _ => ∃ (t : Addr) (n : Int), vs = [.ref t] ∧ H t = some (.tup [.int n, .int n]) ∧ 0 ≤ n ∧ Q (.bl true) H
theorem c_is_pair (T : Top K mg) : Cal P w K mg base 3 "is_pair" sp_is_pair [] := by
  refine mkCal T.d_is_pair sc_is_pair (fun _ _ _ _ _ _ us hl => match us, hl with | [_], _ => rfl) (fun vs H Q E h => by (obtain ⟨_, _, rfl, _⟩ := h; rfl)) (fun f cdv A outer s H vs Q E hr h => ?_)
  obtain ⟨t, n, rfl, ht, hn, k⟩ := h
  refine ⟨_, (pss_cons (ps_if (PW.pt (pw_or (pt_not (pt_val (pe_callB call_isi (by rfl) T.n_isinstance (by decide +kernel) (pa_cons (pv 0) (pa_cons (pe_bltn (v := .ty "tuple") (by rfl) T.n_tuple (by decide +kernel) rfl) pa_nil))))) (pw_or (pt_cmpR op_ne (pe_callB call_len_seq (by rfl) T.n_len (by decide +kernel) (pa_cons (pv 0) pa_nil)) pe_int (nomark _)) (pw_or1 (pt_not (pt_val (pe_c (c_is_count T) hr (by decide) (by rfl) (pa_cons (pe_ix ix_tup (pv 0) pe_int (fun _ _ => rfl)) pa_nil)))))))) (pss_one (ps_ret pe_bl)) pss_nil)
    (pss_one (ps_ret (pe_or (pe_cmpR op_isN (pe_ix ix_tup (pv 0) pe_int (fun _ _ => rfl)) pe_non (nomark _)) (pe_one (pe_and (pe_c (c_is_count T) hr (by decide) (by rfl) (pa_cons (pe_ix ix_tup (pv 0) pe_int (fun _ _ => rfl)) pa_nil)) (pe_one (pe_cmpR op_ge (pe_ix ix_tup (pv 0) pe_int (fun _ _ => rfl)) (pe_ix ix_tup (pv 0) pe_int (fun _ _ => rfl)) (nomark _))))))))), ?_⟩
  refine ⟨_, rfl, _, _, _, _, true, rfl, .ty _, .base (.tup ht), kit_ty (by decide +kernel), _, rfl, iteF ?_⟩
  refine ⟨_, rfl, t, _, rfl, .inr (SqT.of ht), rfl, _, rfl, iteNS rfl ?_⟩
  refine ⟨_, rfl, t, _, _, _, rfl, rfl, SqT.of ht, rfl, _, rfl, _, rfl, iteNS hn ?_⟩
  refine ⟨_, rfl, t, _, _, _, rfl, rfl, SqT.of ht, rfl, rfl, _, rfl, iteF ?_⟩
  refine ⟨_, rfl, t, _, _, _, rfl, rfl, SqT.of ht, rfl, _, rfl, _, rfl, iteDT hn ?_⟩
  refine ⟨_, rfl, t, _, _, _, rfl, rfl, SqT.of ht, rfl, _, rfl, t, _, _, _, rfl, rfl, SqT.of ht, rfl, _, _, rfl, rfl, ?_⟩
  show Q (.bl (decide (n ≤ n))) H
  rw [decide_eq_true (Int.le_refl n)]
  exact k
/-- what stands for a set of one count, or none, as pairs -/
def prsAt (H : Hp) (xs : List V) : Option Int → Prop
  | none => xs = []
  | some n => 0 ≤ n ∧ ∃ t, xs = [.ref t] ∧ H t = some (.tup [.int n, .int n])
def kvsO : Option Int → List (Key × V)
  | none => []
  | some n => [(Sum.inl n, .int n)]
def nsO : Option Int → List Int
  | none => []
  | some n => [n]
def sp_joined (K : PySem.W.Frag) : Sp := fun vs H Q _ => ∃ (a : Addr) (xs : List V) (o : Option Int), vs = [.ref a] ∧ SqT K H a xs ∧ prsAt H xs o ∧
  ∀ p ys H', Ex H H' → H p = none → H' p = some (.lst ys) → prsAt (dif H H') ys o → Q (.ref p) H'
theorem c_joined (T : Top K mg) : Cal P w K mg base 1 "joined" (sp_joined K) [] := by
  refine mkCal T.d_joined sc_joined (fun _ _ _ _ _ _ us hl => match us, hl with | [_], _ => rfl) (fun vs H Q E h => by (obtain ⟨_, _, _, rfl, _⟩ := h; rfl)) (fun f cdv A outer s H vs Q E hr h => ?_)
  obtain ⟨a, xs, o, rfl, ha, ho, k⟩ := h
  have hu := hu_of hr
  refine ⟨_, (pss_cons (ps_set (i := 1) sc_joined.nd rfl (Or.inl rfl) pe_dnewK)
    (pss_cons (ps_for PassesOwn.never rfl (pi_tup (pv 0)) (pg_tup rfl (pgs_cons (pg_name (i := 2) sc_joined.nd rfl (by first | exact Or.inl rfl | exact Or.inr rfl)) (pgs_cons (pg_name (i := 3) sc_joined.nd rfl (by first | exact Or.inl rfl | exact Or.inr rfl)) pgs_nil)))
    (pss_one (ps_if (PW.pt (pw_or (pt_cmp (pc_dnotin hu (pv 2) (pv 1))) (pw_or1 (PW.pt (pw_and (pt_cmpR op_notN (pe_dget hu (pv 1) (pv 2) (fun _ _ => rfl)) pe_non (nomark _)) (pw_and1 (PW.pt (pw_or (pt_cmpR op_isN (pv 3) pe_non (nomark _)) (pw_or1 (pt_cmpR op_gt (pv 3) (pe_dget hu (pv 1) (pv 2) (fun _ _ => rfl)) (nomark _))))))))))) (pss_one (ps_dput hu (pv 1) (pv 2) (pv 3) rfl)) pss_nil)))
    (pss_cons (ps_set (i := 4) sc_joined.nd rfl (Or.inl rfl) (pe_lst pa_nil))
    (pss_cons (ps_for PassesOwn.never rfl (pi_list (pe_callB cr_sorted (by rfl) T.n_sorted (by decide +kernel) (pa_cons (pe_lock (pe_lc (own := [("low", 2)]) (g := gName 2) (tt := tYes) rfl sc_joined.nd (pi_keys (pv 1)) (blkOk_by (N := N_joined) (sc := L2.defScope s_joined) (by decide +kernel)) (fun _ _ _ _ _ => (pg_name (i := 2) sc_joined.nd rfl (by first | exact Or.inl rfl | exact Or.inr rfl))) (fun _ _ _ _ _ => pts_nil) (fun _ _ _ _ _ => (pe_callTy call_int1 (by rfl) T.n_int (by decide +kernel) (pa_cons (pv 2) pa_nil))))) pa_nil))) (pg_name (i := 2) sc_joined.nd rfl (by first | exact Or.inl rfl | exact Or.inr rfl))
    (pss_cons (ps_set (i := 3) sc_joined.nd rfl (Or.inl rfl) (pe_dget hu (pv 1) (pv 2) (fun _ _ => rfl)))
    (pss_one (ps_if (PW.pt (pw_or (pt_cmpR (op_eqD hr.units) (pv 4) (pe_lst pa_nil) (nomark _)) (pw_or1 (PW.pt (pw_and (pt_cmpR op_notN (pe_ix ix_tup (pe_ix ix_list (pv 4) (pe_un un_neg pe_int) (fun _ _ => rfl)) pe_int (fun _ _ => rfl)) pe_non (nomark _)) (pw_and1 (pt_cmpR op_lt (pe_op op_add (pe_ix ix_tup (pe_ix ix_list (pv 4) (pe_un un_neg pe_int) (fun _ _ => rfl)) pe_int (fun _ _ => rfl)) pe_int) (pv 2) (nomark _)))))))) (pss_one (ps_expr (pe_bm PySem.F.plainAttrs_list PySem.F.slot_list_append PySem.F.type_list_append mt_append (pv 4) (pa_cons (pe_tup (pa_cons (pv 2) (pa_cons (pv 3) pa_nil))) pa_nil)))) (pss_one (ps_if (PW.pt (pw_and (pt_cmpR op_notN (pe_ix ix_tup (pe_ix ix_list (pv 4) (pe_un un_neg pe_int) (fun _ _ => rfl)) pe_int (fun _ _ => rfl)) pe_non (nomark _)) (pw_and1 (PW.pt (pw_or (pt_cmpR op_isN (pv 3) pe_non (nomark _)) (pw_or1 (pt_cmpR op_gt (pv 3) (pe_ix ix_tup (pe_ix ix_list (pv 4) (pe_un un_neg pe_int) (fun _ _ => rfl)) pe_int (fun _ _ => rfl)) (nomark _)))))))) (pss_one (ps_asg (pe_tup (pa_cons (pe_ix ix_tup (pe_ix ix_list (pv 4) (pe_un un_neg pe_int) (fun _ _ => rfl)) pe_int (fun _ _ => rfl)) (pa_cons (pv 3) pa_nil))) (pg_sub (pv 4) (pe_un un_neg pe_int) set_list))) pss_nil))))))
    (pss_one (ps_ret (pv 4))))))), ?_⟩
  intro d hd
  refine gen_new (G := fun H' => _) hd (fun H1 e1 h1 => ?_)
  have hlen : ∀ i, i < xs.length → i = 0 ∧ ∃ n t, o = some n ∧ 0 ≤ n ∧ xs = [.ref t] ∧ H t = some (.tup [.int n, .int n]) := by
    intro i hi
    cases o with
    | none => obtain rfl := ho; exact absurd hi (Nat.not_lt_zero _)
    | some n =>
      obtain ⟨hn, t, rfl, ht⟩ := ho
      exact ⟨by simpa using hi, n, t, rfl, hn, rfl, ht⟩
  refine ⟨_, rfl, a, rfl, ⟨_, e1.seqT ha⟩, for_it (walk_tup (K := K) (a := a) (xs := xs)) (fun i σ H' => ∃ u v, σ = [some (.ref a), some (.ref d), u, v, none] ∧ Ex H H' ∧ H' d = some (.dK (if i = 0 then [] else kvsO o))) ⟨none, none, rfl, e1, h1⟩
    (fun i σ H' _ ⟨_, _, _, e, _⟩ => e.seqT ha) ?_ ?_⟩
  · rintro i x σ H' _ hi ⟨u, v, rfl, e, hd'⟩ ⟨rfl, hx⟩
    obtain ⟨rfl, n, t, rfl, hn, rfl, ht⟩ := hlen i hi
    obtain rfl : V.ref t = x := by simpa using hx
    refine ⟨t, _, rfl, SqT.of (e _ _ ht), rfl, _, _, rfl, _, _, rfl, rfl, ?_⟩
    refine ⟨_, rfl, _, rfl, d, _, rfl, DGet.k (k := Sum.inl n) hd', _, rfl, ?_⟩
    refine iteT ⟨_, rfl, _, rfl, _, rfl, d, _, rfl, DPut.k (k := Sum.inl n) hd' (by rw [if_pos rfl]; decide), ?_⟩
    exact ⟨_, _, rfl, Evl.Ex.mut e hd, upd_same⟩
  · rintro σ H2 ⟨u, v, rfl, e2, hd2⟩
    have hd2 : H2 d = some (.dK (kvsO o)) := by
      rw [hd2]
      cases o with
      | none => obtain rfl := ho; rfl
      | some n => obtain ⟨_, t, rfl, _⟩ := ho; rfl
    refine ⟨Nat.zero_le _, fun l hl => gen_new (G := fun H' => _) hl (fun H3 e3 h3 => ?_)⟩
    have hd3 := e3 _ _ hd2
    have ndl : d ≠ l := ne_fr hd2 hl
    refine ⟨d, _, hd3, trivial, fun od => ?_⟩
    refine ⟨_, rfl, d, od, rfl, .inl ⟨kvsO o, upd_same, fun D hD => ?_⟩⟩
    have dD : d ≠ D := ne_fr upd_same hD
    have lD : l ≠ D := ne_fr (by rw [upd_ne ndl.symm]; exact h3) hD
    have e3' : Ex H (upd H3 d (.frz od (.dK (kvsO o)))) := Evl.Ex.mut (e2.trans e3) hd
    have hD0 : H D = none := fr_of e3' hD
    refine lc_it (walk_keys (d := d) (o := od) (kvs := kvsO o)) (fun i H' => H' d = some (.frz od (.dK (kvsO o))) ∧ H' D = some (.lst (((nsO o).take i).map V.int)) ∧ Ex H H' ∧ H' l = some (.lst []))
      ⟨by rw [upd_ne dD]; exact upd_same, by rw [upd_same]; rfl, Evl.Ex.mut e3' hD0, by rw [upd_ne lD, upd_ne ndl.symm]; exact h3⟩ (fun i H' _ z => z.1) ?_ ?_
    · rintro i x H' _ hi ⟨z1, z2, z3, z4⟩ ⟨rfl, kk, vv, hk, rfl⟩
      cases o with
      | none => exact absurd hi (Nat.not_lt_zero _)
      | some n =>
        obtain rfl : i = 0 := by
          have : i < 1 := hi
          omega
        obtain ⟨rfl, rfl⟩ : Sum.inl n = kk ∧ V.int n = vv := by simpa [kvsO] using hk
        refine ⟨rfl, ?_⟩
        refine ⟨_, rfl, .inl ⟨n, rfl, [], z2, by decide, ?_⟩⟩
        exact ⟨by rw [upd_ne dD]; exact z1, by rw [upd_same]; rfl, Evl.Ex.mut z3 hD0, by rw [upd_ne lD]; exact z4⟩
    · rintro H4 ⟨z1, z2, z3, z4⟩
      refine ⟨z1, ?_⟩
      have z2 : H4 D = some (.lst ((nsO o).map V.int)) := by
        rw [z2]
        cases o <;> rfl
      refine gen_mut (G := fun H' => _) z3 hd (fun H5 e5 h5 f5 => ?_)
      have h5D : H5 D = some (.lst ((nsO o).map V.int)) := by rw [f5 _ dD.symm]; exact z2
      have h5l : H5 l = some (.lst []) := by rw [f5 _ ndl.symm]; exact z4
      refine ⟨D, nsO o, rfl, SqL.of h5D, by cases o <;> simp [nsO], fun ns' q pm _ hq => ?_⟩
      have hns : ns' = nsO o := by
        cases o with
        | none => exact List.perm_nil.mp pm
        | some n => exact List.perm_singleton.mp pm
      subst hns
      refine gen_new (G := fun H' => _) hq (fun H6 e6 h6 => ?_)
      have lH : H l = none := fr_of e2 hl
      have e6' : Ex H H6 := e5.trans e6
      have h6d : H6 d = some (.dK (kvsO o)) := e6 _ _ h5
      have h6l : H6 l = some (.lst []) := e6 _ _ h5l
      refine ⟨q, rfl, ⟨_, SqL.of h6⟩, ?_⟩
      cases o with
      | none =>
        refine for_it (walk_list (K := K) (a := q) (xs := [])) (fun i σ H' => σ = [some (.ref a), some (.ref d), u, v, some (.ref l)] ∧ H' = H6) ⟨rfl, rfl⟩ (fun i σ H' _ z => by rw [z.2]; exact SqL.of h6) (fun i x σ H' H'' hi _ _ => absurd hi (Nat.not_lt_zero _)) ?_
        rintro σ H' ⟨rfl, rfl⟩
        exact ⟨_, rfl, k l [] H' e6' lH h6l rfl⟩
      | some n =>
        refine for_it (walk_list (K := K) (a := q) (xs := [.int n])) (fun i σ H' => ∃ u v ys, σ = [some (.ref a), some (.ref d), u, v, some (.ref l)] ∧ Ex H H' ∧ H' d = some (.dK (kvsO (some n))) ∧ H' q = some (.lst [.int n]) ∧ H' l = some (.lst ys) ∧ ((i = 0 ∧ ys = []) ∨ (i = 1 ∧ ∃ t, ys = [.ref t] ∧ H t = none ∧ H' t = some (.tup [.int n, .int n]))))
          ⟨_, _, _, rfl, e6', h6d, h6, h6l, .inl ⟨rfl, rfl⟩⟩ (fun i σ H' _ ⟨_, _, _, _, _, _, z, _⟩ => SqL.of z) ?_ ?_
        · rintro i x σ H0 H' hi ⟨u, v, ys, rfl, z1, z2, z3, z4, z5⟩ ⟨hHH, hx⟩
          subst hHH
          obtain rfl : i = 0 := by
            have : i < 1 := hi
            omega
          obtain rfl : V.int n = x := by simpa using hx
          obtain rfl : ys = [] := by
            rcases z5 with ⟨_, z⟩ | ⟨z, _⟩
            · exact z
            · omega
          have dg : DGet H' d (.int n) (some (.int n)) := by
            have := DGet.k (k := Sum.inl n) z2
            rw [show valV (kvsO (some n)) (Sum.inl n) = some (.int n) from valV_pos rfl] at this
            exact this
          refine ⟨_, rfl, _, rfl, d, _, rfl, dg, ?_⟩
          refine ⟨_, rfl, Nat.zero_le _, fun m hm => ?_⟩
          obtain ⟨H7, q_, e7, h7⟩ := new_ex (o := .lst []) hm
          rw [← q_]; clear q_
          refine ⟨_, _, .lst (SqL.of (e7 _ _ z4)) .nil, .lst (SqL.of h7) .nil, sh0, sh0, ?_⟩
          rw [eqv0]
          refine ⟨_, rfl, ?_⟩
          refine ⟨_, rfl, .inl ⟨rfl, _, SqL.of (e7 _ _ z4)⟩, _, rfl, _, rfl, szl (by simp), fun m2 hm2 => ?_⟩
          obtain ⟨H8, q_, e8, h8⟩ := new_ex (o := .tup [.int n, .int n]) hm2
          rw [← q_]; clear q_
          refine ⟨l, [], _, rfl, rfl, e8 _ _ (e7 _ _ z4), by decide, ?_⟩
          have ql : q ≠ l := ne_of z3 z4 (by intro z; cases z)
          have dl : d ≠ l := ne_of z2 z4 (by intro z; cases z)
          have tl : m2 ≠ l := (ne_fr (e7 _ _ z4) hm2).symm
          have ee := e7.trans e8
          exact ⟨_, _, _, rfl, Evl.Ex.mut (z1.trans ee) lH, by rw [upd_ne dl]; exact ee _ _ z2, by rw [upd_ne ql]; exact ee _ _ z3, upd_same, .inr ⟨rfl, m2, rfl, fr_of (z1.trans e7) hm2, by rw [upd_ne tl]; exact h8⟩⟩
        · rintro σ H' ⟨u, v, ys, rfl, z1, z2, z3, z4, z5⟩
          rcases z5 with ⟨z, _⟩ | ⟨_, t, rfl, ht0, ht⟩
          · exact absurd z (by simp)
          · exact ⟨_, rfl, k l _ H' z1 lH z4 ⟨ho.1, t, rfl, dif_of ht0 ht⟩⟩
end
end Ag
set_option maxHeartbeats 4000000
/-! Stretches. -/
namespace Ag
open PySem PySem.Spec PyProof.Rows L2
open C8 (Cal Met Mak pe_c pe_mt pe_mt0 pe_mk pe_gc)
open Evl (Ex)
theorem prsAt.ext {H H' : Hp} {xs : List V} {o : Option Int} (e : Ex H H') (h : prsAt H xs o) : prsAt H' xs o := by
  cases o with
  | none => exact h
  | some n => exact let ⟨a, t, b, c⟩ := h; ⟨a, t, b, e _ _ c⟩
theorem prsAt.len {H : Hp} {xs : List V} {o : Option Int} (h : prsAt H xs o) : xs.length ≤ 1 := by
  cases o with
  | none => obtain rfl := h; exact Nat.zero_le _
  | some n => obtain ⟨_, t, rfl, _⟩ := h; exact Nat.le_refl _
theorem prsAt.at0 {H : Hp} {xs : List V} {o : Option Int} (h : prsAt H xs o) {i : Nat} {x : V} (hx : xs[i]? = some x) : ∃ n t, x = .ref t ∧ 0 ≤ n ∧ H t = some (.tup [.int n, .int n]) := by
  cases o with
  | none => obtain rfl := h; simp at hx
  | some n =>
    obtain ⟨a, t, rfl, ht⟩ := h
    have : i < 1 := by simpa using (List.getElem?_eq_some_iff.mp hx).1
    obtain rfl : i = 0 := by omega
    exact ⟨n, t, by simpa using hx.symm, a, ht⟩
section
variable {P : Program} {w : World} {K : PySem.W.Frag} {mg : Str → Option Value} {base : Heap}
def sp_Stretches_init (K : PySem.W.Frag) : Sp := fun vs H Q _ => ∃ (x tp dx : Addr) (xs : List V) (o : Option Int) (H0 : Hp), vs = [.ref x, .ref tp] ∧ H x = some (.ins (cStretches K) dx []) ∧ SqT K H tp xs ∧ prsAt H xs o ∧ Ex H0 H ∧ H0 x = none ∧
  ∀ H', Ex H0 H' → StrAt K (dif H0 H') x o → Q .non H'
theorem c_Stretches_init (T : Top K mg) : MakS P w K mg base 4 "Stretches" (cStretches K) (sp_Stretches_init K) := by
  refine mkMakS T.g_Stretches T.i_Stretches sc_Stretches_init (fun _ _ _ _ _ _ a => rfl) (fun _ _ _ _ _ _ a r rs => rfl) (fun f cdv A outer s H vs Q E hr h => ?_)
  obtain ⟨x, tp, dx, xs, o, H0, rfl, hx, ht, ho, e0, n0, k⟩ := h
  refine ⟨_, (pss_cons (ps_for PassesOwn.never rfl (pi_enumT (by rfl) T.n_enumerate (pa_cons (pv 1) pa_nil)) (pg_tup rfl (pgs_cons (pg_name (i := 2) sc_Stretches_init.nd rfl (by first | exact Or.inl rfl | exact Or.inr rfl)) (pgs_cons (pg_name (i := 3) sc_Stretches_init.nd rfl (by first | exact Or.inl rfl | exact Or.inr rfl)) pgs_nil)))
    (pss_one (ps_if (pt_not (pt_val (pe_c (c_is_pair T) hr (by decide) (by rfl) (pa_cons (pv 3) pa_nil)))) (pss_one ps_never) pss_nil)))
    (pss_one (ps_fld (pv 0) (pe_c (c_joined T) hr (by decide) (by rfl) (pa_cons (pv 1) pa_nil)) rfl))), ?_⟩
  refine ⟨_, rfl, tp, _, rfl, ht, for_it (walk_enumT (K := K) (a := tp) (xs := xs)) (fun i σ H' => ∃ u v, σ = [some (.ref x), some (.ref tp), u, v] ∧ Ex H H') ⟨none, none, rfl, Evl.Ex.refl _⟩ (fun i σ H' _ ⟨_, _, _, e⟩ => e.seqT ht) ?_ ?_⟩
  · rintro i y σ H1 H2 hi ⟨u, v, rfl, e⟩ ⟨T1, a, b, rfl, hT, rfl, hia, hib⟩
    obtain ⟨n, t, rfl, hn, htt⟩ := ho.at0 hib
    obtain ⟨H3, q_, e3, h3⟩ := new_ex (o := .tup [a, .ref t]) hT
    rw [← q_]; clear q_
    refine ⟨T1, _, rfl, SqT.of h3, rfl, _, _, rfl, _, _, rfl, rfl, ?_⟩
    refine ⟨_, rfl, t, n, rfl, e3 _ _ (e _ _ htt), hn, ?_⟩
    exact ⟨_, rfl, ⟨_, _, rfl, e.trans e3⟩⟩
  · rintro σ H1 ⟨u, v, rfl, e⟩
    refine ⟨_, rfl, tp, xs, o, rfl, e.seqT ht, ho.ext e, fun p ys H2 e2 hp hl hy => ?_⟩
    have hx2 := e2 _ _ (e _ _ hx)
    refine ⟨_, rfl, x, _, dx, _, rfl, hx2, T.k_Stretches.cl, T.na_Stretches_own_pairs, (by show 0 < 1000; decide), ?_⟩
    have ee := (e0.trans e).trans e2
    have px : p ≠ x := (ne_fr (e _ _ hx) hp).symm
    rw [pf0]
    obtain ⟨H3, q_, e3, h3, f3⟩ := mut_ex (o := .ins (cStretches K) dx [("own_pairs", .ref p)]) ee n0
    rw [← q_]; clear q_
    have hp0 : H0 p = none := fr_of (e0.trans e) hp
    refine k _ e3 ⟨dx, p, dif_of n0 h3, ?_⟩
    cases o with
    | none =>
      obtain rfl := hy
      exact dif_of hp0 ((f3 _ px).trans hl)
    | some n =>
      obtain ⟨hn, t, rfl, ht3⟩ := hy
      have ht2 := dif_ex _ _ ht3
      have tx : t ≠ x := ne_of ht2 hx2 (by intro z; cases z)
      exact ⟨t, dif_of hp0 ((f3 _ px).trans hl), dif_of (fr_of (e0.trans e) (dif_none ht3)) ((f3 _ tx).trans ht2)⟩
theorem mkS_of {vs : List V} {H1 : Hp} {o : Option Int} {Q : VK} (hv : prsAt H1 vs o) (k : ∀ p H', Ex H1 H' → H1 p = none → StrAt K (dif H1 H') p o → Q (.ref p) H') :
    vs.length ≤ sizeLine ∧ ∀ x dx, H1 x = none → H1 dx = none → dx ≠ x → ∀ p, upd (upd H1 dx (.own x)) x (.ins (cStretches K) dx []) p = none →
      sp_Stretches_init K [V.ref x, V.ref p] (upd (upd (upd H1 dx (.own x)) x (.ins (cStretches K) dx [])) p (.tup vs)) (fun v H2 => v = .non ∧ Q (.ref x) H2) C8.E0 := by
  refine ⟨szl (Nat.le_trans hv.len (by decide)), fun x dx hx hdx ne p hp => ?_⟩
  have e1 : Ex H1 (upd (upd H1 dx (.own x)) x (.ins (cStretches K) dx [])) := Evl.Ex.mut (Evl.Ex.new hdx) hx
  have e2 : Ex (upd (upd H1 dx (.own x)) x (.ins (cStretches K) dx [])) (upd (upd (upd H1 dx (.own x)) x (.ins (cStretches K) dx [])) p (.tup vs)) := Evl.Ex.new hp
  exact ⟨x, p, dx, vs, o, H1, rfl, e2 _ _ upd_same, SqT.of upd_same, (hv.ext e1).ext e2, e1.trans e2, hx, fun H' e h => ⟨rfl, k x H' e hx h⟩⟩
def sp_Stretches_one (K : PySem.W.Frag) : Sp := fun vs H Q _ => ∃ n : Int, vs = [.int n] ∧ 0 ≤ n ∧ ∀ p H', Ex H H' → H p = none → StrAt K (dif H H') p (some n) → Q (.ref p) H'
theorem c_Stretches_one (T : Top K mg) : Sta P w K mg base 6 (cStretches K) "one" (sp_Stretches_one K) := by
  refine mkSta T.st_Stretches_one sc_Stretches_one (fun _ _ _ _ _ _ us hl => match us, hl with | [_], _ => rfl) (fun vs H Q E h => by (obtain ⟨_, rfl, _⟩ := h; rfl)) (fun f cdv A outer s H vs Q E hr h => ?_)
  obtain ⟨n, rfl, hn, k⟩ := h
  refine ⟨_, (pss_one (ps_ret (pe_mkS (c_Stretches_init T) hr (by decide) (by rfl) (pa_cons (pe_tup (pa_cons (pv 0) (pa_cons (pv 0) pa_nil))) pa_nil)))), ?_⟩
  refine ⟨_, rfl, _, rfl, szl (by simp), fun t ht => ?_⟩
  obtain ⟨H1, q_, e1, h1⟩ := new_ex (o := .tup [.int n, .int n]) ht
  rw [← q_]; clear q_
  exact mkS_of (o := some n) ⟨hn, t, rfl, h1⟩ (fun p H' e hp hs => k p H' (e1.trans e) (fr_of e1 hp) (hs.ext (dif_mono e1)))
theorem shL1 (d : PyData) (h : d.canLay0 = true) (h2 : d.depth ≤ 1) : SeqAt.shaped (.list [d]) = true := by
  have : PyData.depth (.list [d]) ≤ 64 := by simp only [PyData.depth, PyData.depthAll]; omega
  show (PyData.canLay0 (.list [d]) && decide (PyData.depth (.list [d]) ≤ 64)) = true
  rw [decide_eq_true this]
  simp [PyData.canLay0, PyData.canLayAll0, h]
def prsD : Option Int → List PyData
  | none => []
  | some n => [.tuple [.int n, .int n]]
theorem prsD_sh (o : Option Int) : SeqAt.shaped (.list (prsD o)) = true := by
  cases o with
  | none => exact sh0
  | some n => exact shL1 _ (by simp [PyData.canLay0, PyData.canLayAll0]) (by simp [PyData.depth, PyData.depthAll])
theorem prsD_eqv (o o' : Option Int) : PyData.eqv (.list (prsD o)) (.list (prsD o')) = decide (o = o') := by
  cases o <;> cases o' <;> simp [prsD, PyData.eqv, PyData.eqvAll] <;> rfl
/-- what stands at the pairs' list -/
theorem StrAt.fld {H : Hp} {p : Addr} {o : Option Int} (h : StrAt K H p o) : ∃ dx l xs, H p = some (.ins (cStretches K) dx [("own_pairs", .ref l)]) ∧ H l = some (.lst xs) ∧ DpAll K H xs (prsD o) ∧ (∀ n, o = some n → ∃ t, xs = [.ref t] ∧ H t = some (.tup [.int n, .int n])) := by
  obtain ⟨dx, l, h1, h2⟩ := h
  cases o with
  | none => exact ⟨dx, l, [], h1, h2, .nil, fun n z => by cases z⟩
  | some n =>
    obtain ⟨t, a, b⟩ := h2
    exact ⟨dx, l, _, h1, a, .cons (.tup (SqT.of b) (.cons (.int _) (.cons (.int _) .nil))) .nil, fun m z => by cases z; exact ⟨t, rfl, b⟩⟩
mutual
theorem dp_ext {H H' : Hp} (e : Ex H H') : ∀ (d : PyData) (v : V), Dp K H v d → Dp K H' v d
  | .none, _, h => by cases h; exact .non
  | .bool _, _, h => by cases h; exact .bl _
  | .int _, _, h => by cases h; exact .int _
  | .str _, _, h => by cases h; exact .str _
  | .list ds, _, h => by cases h with | lst a b => exact .lst (e.seqL a) (dpAll_ext e ds _ b)
  | .tuple ds, _, h => by cases h with | tup a b => exact .tup (e.seqT a) (dpAll_ext e ds _ b)
  | .dict _, _, h => by cases h
theorem dpAll_ext {H H' : Hp} (e : Ex H H') : ∀ (ds : List PyData) (vs : List V), DpAll K H vs ds → DpAll K H' vs ds
  | [], _, h => by cases h; exact .nil
  | d :: ds, _, h => by cases h with | cons a b => exact .cons (dp_ext e d _ a) (dpAll_ext e ds _ b)
end
theorem DpAll.ext' {H H' : Hp} {xs : List V} {ds : List PyData} (e : Ex H H') (h : DpAll K H xs ds) : DpAll K H' xs ds := dpAll_ext e _ _ h
def oV : Option Int → V
  | none => .non
  | some n => .int n
def sp_Stretches_end (K : PySem.W.Frag) : Sp := fun vs H Q _ => ∃ (p : Addr) (o : Option Int), vs = [.ref p] ∧ StrAt K H p o ∧ ∀ H', Ex H H' → Q (oV o) H'
theorem c_Stretches_least (T : Top K mg) : Met P w K mg base 1 (cStretches K) "least" (sp_Stretches_end K) [] := by
  refine mkMet T.k_Stretches.cl T.m_Stretches_least sc_Stretches_least (fun _ _ _ _ _ _ us hl => match us, hl with | [_], _ => rfl) (fun vs H Q E h => by (obtain ⟨_, _, rfl, _⟩ := h; rfl)) (fun f cdv A outer s H vs Q E hr h => ?_)
  obtain ⟨p, o, rfl, hp, k⟩ := h
  obtain ⟨dx, l, xs, h1, h2, h3, h4⟩ := hp.fld
  refine ⟨_, (pss_one (ps_ret (pe_ifExp (pt_cmpR (op_eqD hr.units) (pe_fld (pv 0) rfl) (pe_lst pa_nil) (nomark _)) pe_non (pe_ix ix_tup (pe_ix ix_list (pe_fld (pv 0) rfl) pe_int (fun _ _ => rfl)) pe_int (fun _ _ => rfl))))), ?_⟩
  refine ⟨_, rfl, p, _, dx, _, _, rfl, h1, T.k_Stretches.cl, T.na_Stretches_own_pairs, lk1 rfl, ?_⟩
  refine ⟨Nat.zero_le _, fun m hm => ?_⟩
  obtain ⟨H1, q_, e1, hm1⟩ := new_ex (o := .lst []) hm
  rw [← q_]; clear q_
  refine ⟨.list (prsD o), .list (prsD none), .lst (SqL.of (e1 _ _ h2)) (DpAll.ext' e1 h3), .lst (SqL.of hm1) .nil, prsD_sh _, prsD_sh none, ?_⟩
  rw [prsD_eqv]
  refine ⟨_, rfl, ?_⟩
  cases o with
  | none => exact iteDT rfl (k _ e1)
  | some n =>
    obtain ⟨t, rfl, ht⟩ := h4 n rfl
    refine iteDF (by intro z; cases z) ?_
    refine ⟨_, rfl, p, _, dx, _, _, rfl, e1 _ _ h1, T.k_Stretches.cl, T.na_Stretches_own_pairs, lk1 rfl, ?_⟩
    exact ⟨l, _, _, _, rfl, rfl, SqL.of (e1 _ _ h2), rfl, t, _, _, _, rfl, rfl, SqT.of (e1 _ _ ht), rfl, k _ e1⟩
theorem c_Stretches_greatest (T : Top K mg) : Met P w K mg base 1 (cStretches K) "greatest" (sp_Stretches_end K) [] := by
  refine mkMet T.k_Stretches.cl T.m_Stretches_greatest sc_Stretches_greatest (fun _ _ _ _ _ _ us hl => match us, hl with | [_], _ => rfl) (fun vs H Q E h => by (obtain ⟨_, _, rfl, _⟩ := h; rfl)) (fun f cdv A outer s H vs Q E hr h => ?_)
  obtain ⟨p, o, rfl, hp, k⟩ := h
  obtain ⟨dx, l, xs, h1, h2, h3, h4⟩ := hp.fld
  refine ⟨_, (pss_one (ps_ret (pe_ifExp (pt_cmpR (op_eqD hr.units) (pe_fld (pv 0) rfl) (pe_lst pa_nil) (nomark _)) pe_non (pe_ix ix_tup (pe_ix ix_list (pe_fld (pv 0) rfl) (pe_un un_neg pe_int) (fun _ _ => rfl)) pe_int (fun _ _ => rfl))))), ?_⟩
  refine ⟨_, rfl, p, _, dx, _, _, rfl, h1, T.k_Stretches.cl, T.na_Stretches_own_pairs, lk1 rfl, ?_⟩
  refine ⟨Nat.zero_le _, fun m hm => ?_⟩
  obtain ⟨H1, q_, e1, hm1⟩ := new_ex (o := .lst []) hm
  rw [← q_]; clear q_
  refine ⟨.list (prsD o), .list (prsD none), .lst (SqL.of (e1 _ _ h2)) (DpAll.ext' e1 h3), .lst (SqL.of hm1) .nil, prsD_sh _, prsD_sh none, ?_⟩
  rw [prsD_eqv]
  refine ⟨_, rfl, ?_⟩
  cases o with
  | none => exact iteDT rfl (k _ e1)
  | some n =>
    obtain ⟨t, rfl, ht⟩ := h4 n rfl
    refine iteDF (by intro z; cases z) ?_
    refine ⟨_, rfl, p, _, dx, _, _, rfl, e1 _ _ h1, T.k_Stretches.cl, T.na_Stretches_own_pairs, lk1 rfl, ?_⟩
    exact ⟨_, rfl, l, _, _, _, rfl, rfl, SqL.of (e1 _ _ h2), rfl, t, _, _, _, rfl, rfl, SqT.of (e1 _ _ ht), rfl, k _ e1⟩
def sp_Stretches_eq (K : PySem.W.Frag) : Sp := fun vs H Q _ => ∃ (p q : Addr) (o o' : Option Int), vs = [.ref p, .ref q] ∧ StrAt K H p o ∧ StrAt K H q o' ∧ Q (.bl (decide (o = o'))) H
theorem c_Stretches_eq (T : Top K mg) : Met P w K mg base 1 (cStretches K) "__eq__" (sp_Stretches_eq K) [] := by
  refine mkMet T.k_Stretches.cl T.m_Stretches_eq sc_Stretches_eq (fun _ _ _ _ _ _ us hl => match us, hl with | [_, _], _ => rfl) (fun vs H Q E h => by (obtain ⟨_, _, _, _, rfl, _⟩ := h; rfl)) (fun f cdv A outer s H vs Q E hr h => ?_)
  obtain ⟨p, q, o, o', rfl, hp, hq, k⟩ := h
  obtain ⟨dx, l, xs, h1, h2, h3, h4⟩ := hp.fld
  obtain ⟨dx', l', xs', h1', h2', h3', h4'⟩ := hq.fld
  refine ⟨_, (pss_one (ps_ret (pe_and (pe_callB (C8.call_isC T.k_Stretches) (by rfl) T.n_isinstance (by decide +kernel) (pa_cons (pv 1) (pa_cons (pe_glob (v := .ref (cStretches K)) (by rfl) T.g_Stretches rfl) pa_nil))) (pe_one (pe_cmpR (op_eqD hr.units) (pe_fld (pv 0) rfl) (pe_fld (pv 1) rfl) (nomark _)))))), ?_⟩
  refine ⟨_, rfl, _, _, _, rfl, h1', _, rfl, iteT ?_⟩
  refine ⟨_, rfl, p, _, dx, _, _, rfl, h1, T.k_Stretches.cl, T.na_Stretches_own_pairs, lk1 rfl, ?_⟩
  refine ⟨_, rfl, q, _, dx', _, _, rfl, h1', T.k_Stretches.cl, T.na_Stretches_own_pairs, lk1 rfl, ?_⟩
  refine ⟨.list (prsD o), .list (prsD o'), .lst (SqL.of h2) h3, .lst (SqL.of h2') h3', prsD_sh _, prsD_sh _, ?_⟩
  rw [prsD_eqv]
  exact k
end
end Ag
set_option maxHeartbeats 4000000
/-! Deeds. -/
namespace Ag
open PySem PySem.Spec PyProof.Rows L2
open C8 (Cal Met Mak pe_c pe_mt pe_mt0 pe_mk pe_gc)
open Evl (Ex)
abbrev plains : List Str := ["make", "read", "write", "rename", "touch"]
abbrev timed : List Str := ["unpack", "setback"]
theorem Deed.vs_two {d : Deed} (ok : d.ok) : (d.vs = [.str d.word] ∧ d.word ∈ plains) ∨ (∃ b, d.vs = [.str d.word, .int b] ∧ d.word ∉ plains ∧ d.word ∈ timed ∧ 1 ≤ b ∧ b ≤ 100) := by
  cases d with
  | make => exact .inl ⟨rfl, by decide +kernel⟩
  | read => exact .inl ⟨rfl, by decide +kernel⟩
  | write => exact .inl ⟨rfl, by decide +kernel⟩
  | rename => exact .inl ⟨rfl, by decide +kernel⟩
  | touch => exact .inl ⟨rfl, by decide +kernel⟩
  | unpack b => exact .inr ⟨b, rfl, by show (("unpack" : Str) ∉ plains); decide +kernel, by show (("unpack" : Str) ∈ timed); decide +kernel, ok.1, ok.2⟩
  | setback b => exact .inr ⟨b, rfl, by show (("setback" : Str) ∉ plains); decide +kernel, by show (("setback" : Str) ∈ timed); decide +kernel, ok.1, ok.2⟩
def deedD : Deed → List PyData
  | .unpack b => [.str "unpack", .int b] | .setback b => [.str "setback", .int b] | d => [.str d.word]
theorem eqvT0 {ds : List PyData} (h : ds ≠ []) : PyData.eqv (.tuple ds) (.tuple []) = false := by
  cases ds with
  | nil => exact absurd rfl h
  | cons _ _ => simp [PyData.eqv, PyData.eqvAll]
theorem sh_of {d : PyData} (h1 : d.canLay0 = true) (h2 : d.depth ≤ 64) : SeqAt.shaped d = true := by
  show (d.canLay0 && decide (d.depth ≤ 64)) = true
  rw [h1, decide_eq_true h2]; rfl
theorem shT0 : SeqAt.shaped (.tuple []) = true := sh_of (by simp [PyData.canLay0, PyData.canLayAll0]) (by simp [PyData.depth, PyData.depthAll])
theorem sO_unpack : PyData.strOk "unpack" = true := by decide +kernel
theorem sO_setback : PyData.strOk "setback" = true := by decide +kernel
theorem sO_word (d : Deed) : PyData.strOk d.word = true := by cases d <;> (simp only [Deed.word]; decide +kernel)
theorem deed_lay (d : Deed) : (PyData.tuple (deedD d)).canLay0 = true := by
  cases d <;> simp [deedD, PyData.canLay0, PyData.canLayAll0, sO_unpack, sO_setback, sO_word]
theorem deed_depth (d : Deed) : (PyData.tuple (deedD d)).depth = 1 := by
  cases d <;> simp [deedD, PyData.depth, PyData.depthAll]
theorem deed_sh (d : Deed) : SeqAt.shaped (.tuple (deedD d)) = true := sh_of (deed_lay d) (by rw [deed_depth]; decide)
theorem deedD_ne (d : Deed) : deedD d ≠ [] := by cases d <;> simp [deedD]
theorem deed_dp {K : PySem.W.Frag} {H : Hp} {t : Addr} {d : Deed} (h : H t = some (.tup d.vs)) : Dp K H (.ref t) (.tuple (deedD d)) := by
  refine .tup (SqT.of h) ?_
  cases d with
  | unpack b => exact .cons (.str _) (.cons (.int _) .nil)
  | setback b => exact .cons (.str _) (.cons (.int _) .nil)
  | _ => exact .cons (.str _) .nil
theorem inT {z : Str} {zs : List Str} {vs : List V} (hv : vs = zs.map V.str) (h : z ∈ zs) : inV (.str z) vs = true := by rw [hv, inV_str, decide_eq_true h]
theorem inF {z : Str} {zs : List Str} {vs : List V} (hv : vs = zs.map V.str) (h : z ∉ zs) : inV (.str z) vs = false := by rw [hv, inV_str, decide_eq_false h]
theorem inPT {z : Str} (h : z ∈ plains) : inV (.str z) [.str "make", .str "read", .str "write", .str "rename", .str "touch"] = true := inT rfl h
theorem inPF {z : Str} (h : z ∉ plains) : inV (.str z) [.str "make", .str "read", .str "write", .str "rename", .str "touch"] = false := inF rfl h
theorem inTT {z : Str} (h : z ∈ timed) : inV (.str z) [.str "unpack", .str "setback"] = true := inT rfl h
section
variable {P : Program} {w : World} {K : PySem.W.Frag} {mg : Str → Option Value} {base : Heap}
def sp_is_deed : Sp := fun vs H Q _ => ∃ (t : Addr) (d : Deed), vs = [.ref t] ∧ H t = some (.tup d.vs) ∧ d.ok ∧ ∀ H', Ex H H' → Q (.bl true) H'
theorem c_is_deed (T : Top K mg) : Cal P w K mg base 4 "is_deed" sp_is_deed [] := by
  refine mkCal T.d_is_deed sc_is_deed (fun _ _ _ _ _ _ us hl => match us, hl with | [_], _ => rfl) (fun vs H Q E h => by (obtain ⟨_, _, rfl, _⟩ := h; rfl)) (fun f cdv A outer s H vs Q E hr h => ?_)
  obtain ⟨t, d, rfl, ht, ok, k⟩ := h
  refine ⟨_, (pss_cons (ps_if (PW.pt (pw_or (pt_not (pt_val (pe_callB call_isi (by rfl) T.n_isinstance (by decide +kernel) (pa_cons (pv 0) (pa_cons (pe_bltn (v := .ty "tuple") (by rfl) T.n_tuple (by decide +kernel) rfl) pa_nil))))) (pw_or (pt_cmpR (op_eqD hr.units) (pv 0) (pe_tup pa_nil) (nomark _)) (pw_or1 (pt_not (pt_val (pe_callB call_isi (by rfl) T.n_isinstance (by decide +kernel) (pa_cons (pe_ix ix_tup (pv 0) pe_int (fun _ _ => rfl)) (pa_cons (pe_bltn (v := .ty "str") (by rfl) T.n_str (by decide +kernel) rfl) pa_nil))))))))) (pss_one (ps_ret pe_bl)) pss_nil)
    (pss_cons (ps_if (pt_cmpR op_in_seq (pe_ix ix_tup (pv 0) pe_int (fun _ _ => rfl)) (pe_glob (v := .ref (aPLAIN K)) (by rfl) T.t_PLAIN rfl) (by rfl)) (pss_one (ps_ret (pe_cmpR op_eq (pe_callB call_len_seq (by rfl) T.n_len (by decide +kernel) (pa_cons (pv 0) pa_nil)) pe_int (nomark _)))) pss_nil)
    (pss_one (ps_ret (pe_and (pe_cmpR op_in_seq (pe_ix ix_tup (pv 0) pe_int (fun _ _ => rfl)) (pe_tup (pa_cons pe_str (pa_cons pe_str pa_nil))) (by rfl)) (pe_and (pe_cmpR op_eq (pe_callB call_len_seq (by rfl) T.n_len (by decide +kernel) (pa_cons (pv 0) pa_nil)) pe_int (nomark _)) (pe_one (pe_c (c_is_time T) hr (by decide) (by rfl) (pa_cons (pe_ix ix_tup (pv 0) pe_int (fun _ _ => rfl)) pa_nil))))))))), ?_⟩
  refine ⟨_, rfl, _, _, _, _, true, rfl, .ty _, .base (.tup ht), kit_ty (by decide +kernel), _, rfl, iteF ?_⟩
  refine ⟨_, rfl, Nat.zero_le _, fun m hm => ?_⟩
  obtain ⟨H1, q_, e1, h1⟩ := new_ex (o := .tup []) hm
  rw [← q_]; clear q_
  refine ⟨.tuple (deedD d), .tuple [], deed_dp (e1 _ _ ht), .tup (SqT.of h1) .nil, deed_sh d, shT0, ?_⟩
  rw [eqvT0 (deedD_ne d)]
  refine ⟨_, rfl, iteF ?_⟩
  have ht1 := e1 _ _ ht
  rcases Deed.vs_two ok with ⟨hv, hw⟩ | ⟨b, hv, hw, hw2, hb1, hb2⟩
  · rw [hv] at ht1
    refine ⟨_, rfl, t, _, _, _, rfl, rfl, SqT.of ht1, rfl, _, _, _, _, true, rfl, .ty _, .base (.str _), kit_ty (by decide +kernel), _, rfl, iteF ?_⟩
    refine ⟨_, rfl, t, _, _, _, rfl, rfl, SqT.of ht1, rfl, _, _, rfl, .inr (T.q_PLAIN _), rfl, rfl, ?_⟩
    rw [inPT hw]
    refine ⟨_, rfl, iteT ?_⟩
    exact ⟨_, rfl, t, _, rfl, .inr (SqT.of ht1), rfl, k _ e1⟩
  · rw [hv] at ht1
    refine ⟨_, rfl, t, _, _, _, rfl, rfl, SqT.of ht1, rfl, _, _, _, _, true, rfl, .ty _, .base (.str _), kit_ty (by decide +kernel), _, rfl, iteF ?_⟩
    refine ⟨_, rfl, t, _, _, _, rfl, rfl, SqT.of ht1, rfl, _, _, rfl, .inr (T.q_PLAIN _), rfl, rfl, ?_⟩
    rw [inPF hw]
    refine ⟨_, rfl, iteF ?_⟩
    refine ⟨_, rfl, t, _, _, _, rfl, rfl, SqT.of ht1, rfl, szl (by simp), fun m2 hm2 => ?_⟩
    obtain ⟨H2, q_, e2, h2⟩ := new_ex (o := .tup [.str "unpack", .str "setback"]) hm2
    rw [← q_]; clear q_
    refine ⟨_, _, rfl, .inr (SqT.of h2), rfl, rfl, ?_⟩
    rw [inTT hw2]
    refine ⟨_, rfl, iteT ?_⟩
    have ht2 := e2 _ _ ht1
    refine ⟨_, rfl, t, _, rfl, .inr (SqT.of ht2), rfl, ?_⟩
    refine ⟨true, rfl, iteT ?_⟩
    refine ⟨_, rfl, t, _, _, _, rfl, rfl, SqT.of ht2, rfl, b, rfl, ?_⟩
    rw [decide_eq_true hb1, decide_eq_true (Int.le_trans hb2 (by decide))]
    exact k _ (e1.trans e2)
def sp_makes : Sp := fun vs H Q _ => ∃ (t : Addr) (d : Deed), vs = [.ref t] ∧ H t = some (.tup d.vs) ∧ d.ok ∧ ∀ H', Ex H H' → Q (.bl d.maker) H'
theorem maker_in (d : Deed) : inV (.str d.word) [.str "make", .str "unpack"] = d.maker := by
  cases d with
  | unpack b => exact (by decide +kernel : inV (.str "unpack") [.str "make", .str "unpack"] = true)
  | setback b => exact (by decide +kernel : inV (.str "setback") [.str "make", .str "unpack"] = false)
  | _ => decide +kernel
theorem Deed.hd (d : Deed) : atI d.vs 0 = some (.str d.word) := by cases d <;> rfl
theorem c_makes (T : Top K mg) : Cal P w K mg base 5 "makes" sp_makes [] := by
  refine mkCal T.d_makes sc_makes (fun _ _ _ _ _ _ us hl => match us, hl with | [_], _ => rfl) (fun vs H Q E h => by (obtain ⟨_, _, rfl, _⟩ := h; rfl)) (fun f cdv A outer s H vs Q E hr h => ?_)
  obtain ⟨t, d, rfl, ht, ok, k⟩ := h
  refine ⟨_, (pss_one (ps_ret (pe_and (pe_c (c_is_deed T) hr (by decide) (by rfl) (pa_cons (pv 0) pa_nil)) (pe_one (pe_cmpR op_in_seq (pe_ix ix_tup (pv 0) pe_int (fun _ _ => rfl)) (pe_tup (pa_cons pe_str (pa_cons pe_str pa_nil))) (by rfl)))))), ?_⟩
  refine ⟨_, rfl, t, d, rfl, ht, ok, fun H1 e1 => ?_⟩
  refine ⟨_, rfl, iteT ?_⟩
  refine ⟨_, rfl, t, _, _, _, rfl, rfl, SqT.of (e1 _ _ ht), d.hd, szl (by simp), fun m2 hm2 => ?_⟩
  obtain ⟨H2, q_, e2, h2⟩ := new_ex (o := .tup [.str "make", .str "unpack"]) hm2
  rw [← q_]; clear q_
  refine ⟨_, _, rfl, .inr (SqT.of h2), rfl, rfl, ?_⟩
  rw [maker_in]
  exact k _ (e1.trans e2)
end
end Ag
set_option maxHeartbeats 4000000
/-! Deeds: backs, looks. -/
namespace Ag
open PySem PySem.Spec PyProof.Rows L2
open C8 (Cal Met Mak pe_c pe_mt pe_mt0 pe_mk pe_gc)
open Evl (Ex)
def backsM : Deed → List (Str × Int)
  | .make => [("read", 0), ("written", 0), ("changed", 0)]
  | .touch => [("read", 0), ("written", 0), ("changed", 0)]
  | .unpack b => [("read", 0), ("written", b), ("changed", 0)]
  | .setback b => [("read", b), ("written", b), ("changed", 0)]
  | .write => [("written", 0), ("changed", 0)]
  | .rename => [("changed", 0)]
  | .read => []
def dkv (l : List (Str × Int)) : List (Key × V) := l.map fun p => (Sum.inr p.1, V.int p.2)
theorem mg3 (x y z : Int) : mergeK [] [(Sum.inr ("read" : Str), V.int x), (Sum.inr ("written" : Str), V.int y), (Sum.inr ("changed" : Str), V.int z)] = dkv [("read", x), ("written", y), ("changed", z)] := rfl
theorem mg2 (y z : Int) : mergeK [] [(Sum.inr ("written" : Str), V.int y), (Sum.inr ("changed" : Str), V.int z)] = dkv [("written", y), ("changed", z)] := rfl
theorem mg1 (z : Int) : mergeK [] [(Sum.inr ("changed" : Str), V.int z)] = dkv [("changed", z)] := rfl
theorem mgr (z : Int) : mergeK [] [(Sum.inr ("read" : Str), V.int z)] = dkv [("read", z)] := rfl
theorem disp_end {H : Hp} {p : Addr} {kvs : List (Key × V)} {l : List (Str × Int)} {Q : VK} (hp : H p = none) (e : mergeK [] kvs = dkv l) (k : ∀ p H', Ex H H' → H p = none → H' p = some (.dK (dkv l)) → Q (.ref p) H') : Q (.ref p) (upd (upd H p (.dK [])) p (.dK (mergeK [] kvs))) := by
  rw [upd_upd, e]
  exact k p _ (Evl.Ex.new hp) hp upd_same
theorem w_mt (d : Deed) : inV (.str d.word) [.str "make", .str "touch"] = (match d with | .make => true | .touch => true | _ => false) := by
  cases d with
  | unpack b => exact (by decide +kernel : inV (.str "unpack") [.str "make", .str "touch"] = false)
  | setback b => exact (by decide +kernel : inV (.str "setback") [.str "make", .str "touch"] = false)
  | _ => decide +kernel
def Deed.tag : Deed → Nat
  | .make => 0 | .read => 1 | .write => 2 | .rename => 3 | .touch => 4 | .unpack _ => 5 | .setback _ => 6
theorem Deed.word_ne {d : Deed} {x : Str} (h : ¬ d.word = x) : ¬ V.str d.word = V.str x := fun z => h (by injection z)
section
variable {P : Program} {w : World} {K : PySem.W.Frag} {mg : Str → Option Value} {base : Heap}
def sp_backs : Sp := fun vs H Q _ => ∃ (t : Addr) (d : Deed), vs = [.ref t] ∧ H t = some (.tup d.vs) ∧ d.ok ∧ ∀ p H', Ex H H' → H p = none → H' p = some (.dK (dkv (backsM d))) → Q (.ref p) H'
theorem c_backs (T : Top K mg) : Cal P w K mg base 5 "backs" sp_backs [] := by
  refine mkCal T.d_backs sc_backs (fun _ _ _ _ _ _ us hl => match us, hl with | [_], _ => rfl) (fun vs H Q E h => by (obtain ⟨_, _, rfl, _⟩ := h; rfl)) (fun f cdv A outer s H vs Q E hr h => ?_)
  obtain ⟨t, d, rfl, ht, ok, k⟩ := h
  refine ⟨_, (pss_cons (ps_if (pt_not (pt_val (pe_c (c_is_deed T) hr (by decide) (by rfl) (pa_cons (pv 0) pa_nil)))) (pss_one ps_never) pss_nil)
    (pss_cons (ps_set (i := 1) sc_backs.nd rfl (Or.inl rfl) (pe_ix ix_tup (pv 0) pe_int (fun _ _ => rfl)))
    (pss_cons (ps_if (pt_cmpR op_in_seq (pv 1) (pe_tup (pa_cons pe_str (pa_cons pe_str pa_nil))) (by rfl)) (pss_one (ps_ret (pe_disp (pps_cons pe_str pe_int (pps_cons pe_str pe_int (pps_cons pe_str pe_int pps_nil))) (by rfl) (by rfl) (fun z => by cases z) (by decide)))) pss_nil)
    (pss_cons (ps_if (pt_cmpR op_eq (pv 1) pe_str (nomark _)) (pss_one (ps_ret (pe_disp (pps_cons pe_str pe_int (pps_cons pe_str (pe_ix ix_tup (pv 0) pe_int (fun _ _ => rfl)) (pps_cons pe_str pe_int pps_nil))) (by rfl) (by rfl) (fun z => by cases z) (by decide)))) pss_nil)
    (pss_cons (ps_if (pt_cmpR op_eq (pv 1) pe_str (nomark _)) (pss_one (ps_ret (pe_disp (pps_cons pe_str (pe_ix ix_tup (pv 0) pe_int (fun _ _ => rfl)) (pps_cons pe_str (pe_ix ix_tup (pv 0) pe_int (fun _ _ => rfl)) (pps_cons pe_str pe_int pps_nil))) (by rfl) (by rfl) (fun z => by cases z) (by decide)))) pss_nil)
    (pss_cons (ps_if (pt_cmpR op_eq (pv 1) pe_str (nomark _)) (pss_one (ps_ret (pe_disp (pps_cons pe_str pe_int (pps_cons pe_str pe_int pps_nil)) (by rfl) (by rfl) (fun z => by cases z) (by decide)))) pss_nil)
    (pss_one (ps_ret (pe_ifExp (pt_cmpR op_eq (pv 1) pe_str (nomark _)) (pe_disp (pps_cons pe_str pe_int pps_nil) (by rfl) (by rfl) (fun z => by cases z) (by decide)) pe_dnewK))))))))), ?_⟩
  refine ⟨_, rfl, t, d, rfl, ht, ok, fun H1 e1 => ?_⟩
  refine ⟨_, rfl, iteF ?_⟩
  refine ⟨_, rfl, t, _, _, _, rfl, rfl, SqT.of (e1 _ _ ht), d.hd, ?_⟩
  refine ⟨_, rfl, szl (by simp), fun m2 hm2 => ?_⟩
  obtain ⟨H2, q_, e2, h2⟩ := new_ex (o := .tup [.str "make", .str "touch"]) hm2
  rw [← q_]; clear q_
  have e12 := e1.trans e2
  have ht2 := e12 _ _ ht
  have kk : ∀ p H', Ex H2 H' → H2 p = none → H' p = some (.dK (dkv (backsM d))) → Q (.ref p) H' := fun p H' e hp h => k p H' (e12.trans e) (fr_of e12 hp) h
  refine ⟨_, _, rfl, .inr (SqT.of h2), rfl, rfl, ?_⟩
  rw [w_mt]
  cases d with
  | make =>
    refine ⟨_, rfl, iteT fun p hp => ?_⟩
    refine ⟨upd_same, [(Sum.inr "read", .int 0), (Sum.inr "written", .int 0), (Sum.inr "changed", .int 0)], rfl, (by simp), ?_⟩
    exact disp_end hp (mg3 _ _ _) kk
  | touch =>
    refine ⟨_, rfl, iteT fun p hp => ?_⟩
    refine ⟨upd_same, [(Sum.inr "read", .int 0), (Sum.inr "written", .int 0), (Sum.inr "changed", .int 0)], rfl, (by simp), ?_⟩
    exact disp_end hp (mg3 _ _ _) kk
  | unpack b =>
    refine ⟨_, rfl, iteF ?_⟩
    refine ⟨_, rfl, rfl, _, rfl, iteDT rfl fun p hp => ?_⟩
    have ht3 : upd H2 p (.dK []) t = some (.tup (Deed.unpack b).vs) := Evl.Ex.new hp _ _ ht2
    refine ⟨_, rfl, t, _, _, _, rfl, rfl, SqT.of ht3, rfl, upd_same, [(Sum.inr "read", .int 0), (Sum.inr "written", .int b), (Sum.inr "changed", .int 0)], rfl, (by simp), ?_⟩
    exact disp_end hp (mg3 _ _ _) kk
  | setback b =>
    refine ⟨_, rfl, iteF ?_⟩
    refine ⟨_, rfl, rfl, _, rfl, iteDF (Deed.word_ne (d := .setback b) (show ¬ (("setback" : Str) = "unpack") by decide +kernel)) ?_⟩
    refine ⟨_, rfl, rfl, _, rfl, iteDT rfl fun p hp => ?_⟩
    have ht3 : upd H2 p (.dK []) t = some (.tup (Deed.setback b).vs) := Evl.Ex.new hp _ _ ht2
    refine ⟨_, rfl, t, _, _, _, rfl, rfl, SqT.of ht3, rfl, _, rfl, t, _, _, _, rfl, rfl, SqT.of ht3, rfl, upd_same, [(Sum.inr "read", .int b), (Sum.inr "written", .int b), (Sum.inr "changed", .int 0)], rfl, (by simp), ?_⟩
    exact disp_end hp (mg3 _ _ _) kk
  | write =>
    refine ⟨_, rfl, iteF ?_⟩
    refine ⟨_, rfl, rfl, _, rfl, iteDF (Deed.word_ne (d := .write) (by decide +kernel)) ?_⟩
    refine ⟨_, rfl, rfl, _, rfl, iteDF (Deed.word_ne (d := .write) (by decide +kernel)) ?_⟩
    refine ⟨_, rfl, rfl, _, rfl, iteDT rfl fun p hp => ?_⟩
    refine ⟨upd_same, [(Sum.inr "written", .int 0), (Sum.inr "changed", .int 0)], rfl, (by simp), ?_⟩
    exact disp_end hp (mg2 _ _) kk
  | rename =>
    refine ⟨_, rfl, iteF ?_⟩
    refine ⟨_, rfl, rfl, _, rfl, iteDF (Deed.word_ne (d := .rename) (by decide +kernel)) ?_⟩
    refine ⟨_, rfl, rfl, _, rfl, iteDF (Deed.word_ne (d := .rename) (by decide +kernel)) ?_⟩
    refine ⟨_, rfl, rfl, _, rfl, iteDF (Deed.word_ne (d := .rename) (by decide +kernel)) ?_⟩
    refine ⟨_, rfl, rfl, _, rfl, iteDT rfl fun p hp => ?_⟩
    refine ⟨upd_same, [(Sum.inr "changed", .int 0)], rfl, (by simp), ?_⟩
    exact disp_end hp (mg1 _) kk
  | read =>
    refine ⟨_, rfl, iteF ?_⟩
    refine ⟨_, rfl, rfl, _, rfl, iteDF (Deed.word_ne (d := .read) (by decide +kernel)) ?_⟩
    refine ⟨_, rfl, rfl, _, rfl, iteDF (Deed.word_ne (d := .read) (by decide +kernel)) ?_⟩
    refine ⟨_, rfl, rfl, _, rfl, iteDF (Deed.word_ne (d := .read) (by decide +kernel)) ?_⟩
    refine ⟨_, rfl, rfl, _, rfl, iteDF (Deed.word_ne (d := .read) (by decide +kernel)) fun p hp => ?_⟩
    exact kk p _ (Evl.Ex.new hp) hp upd_same
end
end Ag
set_option maxHeartbeats 4000000
/-! Looks. -/
namespace Ag
open PySem PySem.Spec PyProof.Rows L2
open C8 (Cal Met Mak pe_c pe_mt pe_mt0 pe_mk pe_gc)
open Evl (Ex)
/-- tuples of these values stand at these places -/
def TupsAt (H : Hp) : List V → List (List V) → Prop
  | [], [] => True
  | v :: vs, L :: Ls => (∃ t, v = .ref t ∧ H t = some (.tup L)) ∧ TupsAt H vs Ls
  | _, _ => False
theorem TupsAt.ext {H H' : Hp} (e : Ex H H') : ∀ {vs Ls}, TupsAt H vs Ls → TupsAt H' vs Ls
  | [], [], _ => trivial
  | _ :: _, _ :: _, ⟨⟨t, a, b⟩, r⟩ => ⟨⟨t, a, e _ _ b⟩, r.ext e⟩
theorem TupsAt.app {H : Hp} : ∀ {vs Ls ws Ms}, TupsAt H vs Ls → TupsAt H ws Ms → TupsAt H (vs ++ ws) (Ls ++ Ms)
  | [], [], _, _, _, h => h
  | _ :: _, _ :: _, _, _, ⟨a, r⟩, h => ⟨a, r.app h⟩
theorem TupsAt.len {H : Hp} : ∀ {vs Ls}, TupsAt H vs Ls → vs.length = Ls.length
  | [], [], _ => rfl
  | _ :: _, _ :: _, ⟨_, r⟩ => by simp [r.len]
theorem TupsAt.get {H : Hp} {i : Nat} {x : V} : ∀ {vs : List V} {Ls : List (List V)}, TupsAt H vs Ls → vs[i]? = some x → ∃ t L, x = .ref t ∧ Ls[i]? = some L ∧ H t = some (.tup L) := by
  induction i with
  | zero =>
    intro vs Ls h hx
    match vs, Ls, h, hx with
    | v :: vs, L :: Ls, ⟨⟨t, a, b⟩, r⟩, hx => exact ⟨t, L, by rw [← a]; simpa using hx.symm, by simp, b⟩
    | [], [], _, hx => simp at hx
  | succ i ih =>
    intro vs Ls h hx
    match vs, Ls, h, hx with
    | v :: vs, L :: Ls, ⟨_, r⟩, hx =>
      obtain ⟨t, M, a, b, c⟩ := ih r (by simpa using hx)
      exact ⟨t, M, a, by simpa using b, c⟩
    | [], [], _, hx => simp at hx
theorem TupsAt.dp {K : PySem.W.Frag} {H : Hp} (f : List V → PyData) (hf : ∀ t L, H t = some (.tup L) → Dp K H (.ref t) (f L)) : ∀ {vs Ls}, TupsAt H vs Ls → DpAll K H vs (Ls.map f)
  | [], [], _ => .nil
  | _ :: _, L :: _, ⟨⟨t, a, b⟩, r⟩ => by
    subst a
    exact .cons (hf t L b) (r.dp f hf)
theorem TupsAt.tail {H : Hp} {vs : List V} {L : List V} {Ls : List (List V)} (h : TupsAt H vs (L :: Ls)) : ∃ v r, vs = v :: r ∧ TupsAt H r Ls := by
  cases vs with
  | nil => exact h.elim
  | cons v r => exact ⟨v, r, rfl, h.2⟩
def mk3 : List V := [.str "read", .str "written", .str "changed"]
def lks : Nat → List (List V)
  | 0 => [[]]
  | i + 1 => lks i ++ (lks i).map fun L => L ++ [mk3.getD i .non]
theorem lks_len : ∀ i, (lks i).length = 2 ^ i
  | 0 => rfl
  | i + 1 => by simp [lks, lks_len i, Nat.pow_succ]; omega
theorem lks_le : ∀ i, ∀ L ∈ lks i, L.length ≤ i
  | 0, L, h => by simp [lks] at h; simp [h]
  | i + 1, L, h => by
    rcases List.mem_append.mp h with h | h
    · have := lks_le i L h; omega
    · obtain ⟨M, hM, rfl⟩ := List.mem_map.mp h
      have := lks_le i M hM
      simp; omega
theorem lks3 : lks 3 = [] :: allL.map lv := by decide +kernel
def LD (L : List Mark) : PyData := .tuple (L.map fun m => .str m.s)
theorem sO_mark (m : Mark) : PyData.strOk m.s = true := by cases m <;> (simp only [Mark.s]; decide +kernel)
theorem LD_layA : ∀ L : List Mark, PyData.canLayAll0 (L.map fun m => PyData.str m.s) = true
  | [] => by simp [PyData.canLayAll0]
  | m :: L => by simp [PyData.canLayAll0, PyData.canLay0, sO_mark, LD_layA L]
theorem LD_lay (L : List Mark) : (LD L).canLay0 = true := by simp [LD, PyData.canLay0, LD_layA]
theorem LD_depthA : ∀ L : List Mark, PyData.depthAll (L.map fun m => PyData.str m.s) = 0
  | [] => by simp [PyData.depthAll]
  | m :: L => by simp [PyData.depthAll, PyData.depth, LD_depthA L]
theorem LD_depth (L : List Mark) : (LD L).depth = 1 := by simp [LD, PyData.depth, LD_depthA]
theorem LD_sh (L : List Mark) : SeqAt.shaped (LD L) = true := sh_of (LD_lay L) (by rw [LD_depth]; decide)
theorem LDs_lay : ∀ Ls : List (List Mark), PyData.canLayAll0 (Ls.map LD) = true
  | [] => by simp [PyData.canLayAll0]
  | L :: Ls => by simp [PyData.canLayAll0, LD_lay, LDs_lay Ls]
theorem LDs_depth : ∀ Ls : List (List Mark), PyData.depthAll (Ls.map LD) ≤ 1
  | [] => by simp [PyData.depthAll]
  | L :: Ls => by
    have := LDs_depth Ls
    simp [PyData.depthAll, LD_depth]
    omega
theorem LDs_sh (Ls : List (List Mark)) : SeqAt.shaped (.list (Ls.map LD)) = true := sh_of (by simp [PyData.canLay0, LDs_lay]) (by have := LDs_depth Ls; simp only [PyData.depth]; omega)
theorem LD_plainA : ∀ L : List Mark, PyData.plainAll (L.map fun m => PyData.str m.s) = true
  | [] => by simp [PyData.plainAll]
  | m :: L => by simp [PyData.plainAll, PyData.plain, LD_plainA L]
theorem LD_eqv (L : List Mark) : PyData.eqv (LD L) (LD L) = true := SeqAt.eqv_refl_plain _ (by simp [LD, PyData.plain, LD_plainA])
theorem LD_any {Ls : List (List Mark)} {L : List Mark} (h : L ∈ Ls) : (Ls.map LD).any (fun z => PyData.eqv z (LD L)) = true := by
  rw [List.any_eq_true]
  exact ⟨LD L, List.mem_map.mpr ⟨L, h, rfl⟩, LD_eqv L⟩
theorem lv_dpA {K : PySem.W.Frag} {H : Hp} : ∀ L : List Mark, DpAll K H (lv L) (L.map fun m => PyData.str m.s)
  | [] => .nil
  | m :: L => .cons (.str _) (lv_dpA L)
theorem LD_dp {K : PySem.W.Frag} {H : Hp} {t : Addr} {L : List Mark} (h : H t = some (.tup (lv L))) : Dp K H (.ref t) (LD L) := .tup (SqT.of h) (lv_dpA L)
theorem LDs_dp {K : PySem.W.Frag} {H : Hp} : ∀ {vs : List V} {Ls : List (List Mark)}, TupsAt H vs (Ls.map lv) → DpAll K H vs (Ls.map LD)
  | [], [], _ => .nil
  | _ :: _, L :: _, ⟨⟨t, a, b⟩, r⟩ => by
    subst a
    exact .cons (LD_dp b) (LDs_dp r)
section
variable {P : Program} {w : World} {K : PySem.W.Frag} {mg : Str → Option Value} {base : Heap}
def sp_all_looks : Sp := fun vs H Q _ => vs = [] ∧ ∀ p ws H', Ex H H' → H p = none → H' p = some (.lst ws) → TupsAt H' ws (allL.map lv) → Q (.ref p) H'
theorem c_all_looks (T : Top K mg) : Cal P w K mg base 1 "all_looks" sp_all_looks [] := by
  refine mkCal T.d_all_looks sc_all_looks (fun _ _ _ _ _ _ us hl => match us, hl with | [], _ => rfl) (fun vs H Q E h => by (obtain ⟨rfl, _⟩ := h; rfl)) (fun f cdv A outer s H vs Q E hr h => ?_)
  obtain ⟨rfl, k⟩ := h
  refine ⟨_, (pss_cons (ps_set (i := 0) sc_all_looks.nd rfl (Or.inl rfl) (pe_lst (pa_cons (pe_tup pa_nil) pa_nil)))
    (pss_cons (ps_for PassesOwn.never rfl (pi_tup (pe_glob (v := .ref (aMARKS K)) (by rfl) T.t_MARKS rfl)) (pg_name (i := 1) sc_all_looks.nd rfl (by first | exact Or.inl rfl | exact Or.inr rfl))
    (pss_one (ps_set (i := 0) sc_all_looks.nd rfl (Or.inl rfl) (pe_op op_cat (pv 0) (pe_lc (own := [("looks", 2)]) (g := gName 2) (tt := tYes) rfl sc_all_looks.nd (pi_list (pv 0)) (blkOk_by (N := N_all_looks) (sc := L2.defScope s_all_looks) (by decide +kernel)) (fun _ _ _ _ _ => (pg_name (i := 2) sc_all_looks.nd rfl (by first | exact Or.inl rfl | exact Or.inr rfl))) (fun _ _ _ _ _ => pts_nil) (fun _ _ _ _ _ => (pe_tup (starK (K := K) (by rfl) (pv 2) (pa_cons (pv 1) pa_nil)))))))))
    (pss_one (ps_ret (pe_slice sl_list (pv 0) (po_some pe_int) po_none))))), ?_⟩
  refine ⟨Nat.zero_le _, fun t ht => ?_⟩
  obtain ⟨H1, q_, e1, h1⟩ := new_ex (o := .tup []) ht
  rw [← q_]; clear q_
  refine ⟨szl (by simp), fun l hl => ?_⟩
  obtain ⟨H2, q_, e2, h2⟩ := new_ex (o := .lst [.ref t]) hl
  rw [← q_]; clear q_
  have h2t : H2 t = some (.tup []) := e2 _ _ h1
  refine ⟨_, rfl, ⟨_, T.q_MARKS _⟩, for_it (walk_tup (K := K) (a := aMARKS K) (xs := mk3)) (fun i σ H' => ∃ l vs u, σ = [some (.ref l), u, none] ∧ H l = none ∧ H' l = some (.lst vs) ∧ TupsAt H' vs (lks i) ∧ Ex H H')
    ⟨l, [.ref t], none, rfl, fr_of e1 hl, h2, ⟨⟨t, rfl, h2t⟩, trivial⟩, e1.trans e2⟩ (fun i σ H' _ _ => T.q_MARKS _) ?_ ?_⟩
  · rintro i x σ H3 H4 hi ⟨l, vs, u, rfl, hl0, hl3, htv, e⟩ ⟨rfl, hx⟩
    have hi3 : i < 3 := hi
    have hm : mk3.getD i .non = x := by
      rw [List.getD_eq_getElem?_getD, hx]; rfl
    have hlen : (lks i).length ≤ 4 := by
      rw [lks_len]
      have := Nat.pow_le_pow_right (show 0 < 2 by decide) (show i ≤ 2 by omega)
      omega
    have hvl := htv.len
    refine ⟨_, rfl, _, rfl, l, rfl, ⟨_, SqL.of hl3⟩, fun D hD => ?_⟩
    have hD0 : H D = none := fr_of e hD
    have lD : l ≠ D := ne_fr hl3 hD
    refine lc_it (walk_list (K := K) (a := l) (xs := vs)) (fun j H' => H' l = some (.lst vs) ∧ TupsAt H' vs (lks i) ∧ Ex H H' ∧ ∃ ws, H' D = some (.lst ws) ∧ TupsAt H' ws (((lks i).take j).map fun L => L ++ [x]))
      ⟨by rw [upd_ne lD]; exact hl3, htv.ext (Evl.Ex.new hD), e.trans (Evl.Ex.new hD), [], upd_same, trivial⟩ (fun i H' _ z => SqL.of z.1) ?_ ?_
    · rintro j y H5 H6 hj ⟨z1, z2, z3, ws, z4, z5⟩ ⟨rfl, hy⟩
      refine ⟨rfl, ?_⟩
      obtain ⟨t, L, rfl, hL, ht⟩ := z2.get hy
      have hjl : j < (lks i).length := by rw [← hvl]; exact hj
      have hLi : L.length ≤ i := lks_le i L (List.mem_of_getElem? hL)
      refine ⟨_, rfl, t, L, rfl, .inl (SqT.of ht), _, rfl, szl (by simp; omega), fun p hp => ?_⟩
      obtain ⟨H7, q_, e7, h7⟩ := new_ex (o := .tup (L ++ [x])) hp
      rw [← q_]; clear q_
      have wl := z5.len
      have wlen : ws.length = j := by
        rw [wl]; simp; omega
      refine ⟨ws, e7 _ _ z4, szt (by omega), ?_⟩
      have eD : Ex H (upd H7 D (.lst (ws ++ [.ref p]))) := Evl.Ex.mut (z3.trans e7) hD0
      have kD : ∀ {vs Ls}, TupsAt H7 vs Ls → TupsAt (upd H7 D (.lst (ws ++ [.ref p]))) vs Ls := by
        intro vs Ls h
        induction vs generalizing Ls with
        | nil => cases Ls <;> exact h
        | cons v vs ih =>
          cases Ls with
          | nil => exact h
          | cons M Ls =>
            obtain ⟨⟨t', a, b⟩, r⟩ := h
            exact ⟨⟨t', a, by rw [upd_ne (ne_of b (e7 _ _ z4) (by intro z; cases z))]; exact b⟩, ih r⟩
      refine ⟨by rw [upd_ne lD]; exact e7 _ _ z1, kD (z2.ext e7), eD, _, upd_same, ?_⟩
      have htk : ((lks i).take (j + 1)).map (fun L => L ++ [x]) = ((lks i).take j).map (fun L => L ++ [x]) ++ [L ++ [x]] := by
        rw [List.take_add_one, hL]; simp
      rw [htk]
      exact kD ((z5.ext e7).app ⟨⟨p, rfl, h7⟩, trivial⟩)
    · rintro H5 ⟨z1, z2, z3, ws, z4, z5⟩
      have hw : ws.length = vs.length := by rw [z5.len, hvl]; simp
      refine ⟨l, D, vs, ws, rfl, rfl, z1, z4, szl (by omega), fun p hp => ?_⟩
      obtain ⟨H6, q_, e6, h6⟩ := new_ex (o := .lst (vs ++ ws)) hp
      rw [← q_]; clear q_
      refine ⟨p, vs ++ ws, some x, rfl, fr_of z3 hp, h6, ?_, z3.trans e6⟩
      have z5' : TupsAt H5 ws ((lks i).map fun L => L ++ [x]) := by
        rw [hvl, List.take_length] at z5
        exact z5
      show TupsAt H6 (vs ++ ws) (lks i ++ (lks i).map fun L => L ++ [mk3.getD i .non])
      rw [hm]
      exact (z2.app z5').ext e6
  · rintro σ H3 ⟨l, vs, u, rfl, hl0, hl3, htv, e⟩
    have htv : TupsAt H3 vs ([] :: allL.map lv) := by
      have := htv
      rw [show mk3.length = 3 from rfl, lks3] at this
      exact this
    obtain ⟨v, r, rfl, hr⟩ := htv.tail
    refine ⟨_, rfl, _, rfl, l, _, rfl, SqL.of hl3, fun p hp => ?_⟩
    have hc : cutV (v :: r) (some 1) none = r := by
      simp [cutV, HT.sIx]
    rw [hc]
    obtain ⟨H4, q_, e4, h4⟩ := new_ex (o := .lst r) hp
    rw [← q_]; clear q_
    exact k p r H4 (e.trans e4) (fr_of e hp) h4 (hr.ext e4)
def sp_is_looks : Sp := fun vs H Q _ => ∃ (t : Addr) (L : List Mark), vs = [.ref t] ∧ H t = some (.tup (lv L)) ∧ L ∈ allL ∧ ∀ H', Ex H H' → Q (.bl true) H'
theorem c_is_looks (T : Top K mg) : Cal P w K mg base 2 "is_looks" sp_is_looks [] := by
  refine mkCal T.d_is_looks sc_is_looks (fun _ _ _ _ _ _ us hl => match us, hl with | [_], _ => rfl) (fun vs H Q E h => by (obtain ⟨_, _, rfl, _⟩ := h; rfl)) (fun f cdv A outer s H vs Q E hr h => ?_)
  obtain ⟨t, L, rfl, ht, hL, k⟩ := h
  refine ⟨_, (pss_cons (ps_if (PW.pt (pw_or (pt_not (pt_val (pe_callB call_isi (by rfl) T.n_isinstance (by decide +kernel) (pa_cons (pv 0) (pa_cons (pe_bltn (v := .ty "tuple") (by rfl) T.n_tuple (by decide +kernel) rfl) pa_nil))))) (pw_or1 (pt_cmpR (op_eqD hr.units) (pv 0) (pe_tup pa_nil) (nomark _))))) (pss_one (ps_ret pe_bl)) pss_nil)
    (pss_one (ps_ret (pe_cmpR (op_inD hr.units65) (pv 0) (pe_c0 (c_all_looks T) hr (by decide) (by rfl)) (by rfl))))), ?_⟩
  refine ⟨_, rfl, _, _, _, _, true, rfl, .ty _, .base (.tup ht), kit_ty (by decide +kernel), _, rfl, iteF ?_⟩
  refine ⟨_, rfl, Nat.zero_le _, fun m hm => ?_⟩
  obtain ⟨H1, q_, e1, h1⟩ := new_ex (o := .tup []) hm
  rw [← q_]; clear q_
  have hne : (L.map fun m => PyData.str m.s) ≠ [] := by
    intro z
    have : L = [] := by simpa using z
    subst this
    revert hL; decide
  refine ⟨LD L, .tuple [], LD_dp (e1 _ _ ht), .tup (SqT.of h1) .nil, LD_sh L, shT0, ?_⟩
  rw [show PyData.eqv (LD L) (.tuple []) = false from eqvT0 hne]
  refine ⟨_, rfl, iteF ?_⟩
  refine ⟨_, rfl, rfl, fun p ws H2 e2 hp h2 hw => ?_⟩
  refine ⟨LD L, allL.map LD, LD_dp (e2 _ _ (e1 _ _ ht)), .lst (SqL.of h2) (LDs_dp hw), LD_sh L, LDs_sh _, ?_⟩
  rw [LD_any hL]
  exact k _ (e1.trans e2)
end
end Ag
set_option maxHeartbeats 4000000
/-! Ways: the methods that read. -/
namespace Ag
open PySem PySem.Spec PyProof.Rows L2
open C8 (Cal Met Mak pe_c pe_mt pe_mt0 pe_mk pe_gc)
open Evl (Ex)
def av (c : Chain) (k : Nat) : List V := [.int (k : Nat), .int ((k : Nat) + 1), .int (c.t k), .int (c.t k), .str ""]
def av4 (c : Chain) (k : Nat) : List V := [.int (k : Nat), .int ((k : Nat) + 1), .int (c.t k), .int (c.t k)]
theorem filt_eq (m j : Nat) : (List.range m).filter (fun i => decide (i = j)) = if j < m then [j] else [] := by
  induction m with
  | zero => rfl
  | succ m ih =>
    rw [List.range_succ, List.filter_append, ih]
    by_cases h : j < m
    · have h1 : ¬ m = j := by omega
      have h2 : j < m + 1 := by omega
      simp [h, h1, h2]
    · by_cases h1 : m = j
      · subst h1; simp
      · have h2 : ¬ j < m + 1 := by omega
        simp [h, h1, h2]
theorem neI {a b : Int} (h : ¬ a = b) : ¬ V.int a = V.int b := fun z => h (by injection z)
theorem neS {a b : Str} (h : ¬ a = b) : ¬ V.str a = V.str b := fun z => h (by injection z)
theorem e_anew : ¬ (("" : Str) = "anew") := by decide +kernel
section
variable {P : Program} {w : World} {K : PySem.W.Frag} {mg : Str → Option Value} {base : Heap}
theorem WayAt.ins {H : Hp} {p : Addr} {c : Chain} (h : WayAt K H p c) : ∃ dx fs, H p = some (.ins (cWay K) dx fs) := by
  obtain ⟨ok, ln, la, nr, ar, ⟨dx, ob⟩, _⟩ := h
  exact ⟨dx, _, ob⟩
def sp_Way_len (K : PySem.W.Frag) : Sp := fun vs H Q _ => ∃ (p : Addr) (c : Chain), vs = [.ref p] ∧ WayAt K H p c ∧ Q (.int (c.n : Nat)) H
theorem c_Way_len (T : Top K mg) : Met P w K mg base 1 (cWay K) "__len__" (sp_Way_len K) [] := by
  refine mkMet T.k_Way.cl T.m_Way_len sc_Way_len (fun _ _ _ _ _ _ us hl => match us, hl with | [_], _ => rfl) (fun vs H Q E h => by (obtain ⟨_, _, rfl, _⟩ := h; rfl)) (fun f cdv A outer s H vs Q E hr h => ?_)
  obtain ⟨p, c, rfl, ⟨ok, ln, la, nr, ar, ⟨⟨dx, ob⟩, nl, al, nd, ad⟩⟩, k⟩ := h
  refine ⟨_, (pss_one (ps_ret (pe_callB call_len_seq (by rfl) T.n_len (by decide +kernel) (pa_cons (pe_fld (pv 0) rfl) pa_nil)))), ?_⟩
  refine ⟨_, rfl, p, _, dx, _, _, rfl, ob, T.k_Way.cl, T.na_Way_own_nodes, lk1 rfl, ln, _, rfl, .inl (SqL.of nl), ?_⟩
  rw [rvs_len]
  exact k
def sp_Way_getitem (K : PySem.W.Frag) : Sp := fun vs H Q _ => ∃ (p : Addr) (c : Chain) (k : Nat), vs = [.ref p, .int (k : Nat)] ∧ WayAt K H p c ∧ k < c.n ∧ ∀ t, H t = some (.tup (c.d k).vs) → Q (.ref t) H
theorem btw {k n : Nat} (h : k < n) : (decide ((0 : Int) ≤ (k : Nat)) && decide (((k : Nat) : Int) ≤ (n : Nat) - 1)) = true := by
  rw [decide_eq_true (by omega), decide_eq_true (by omega)]; rfl
theorem c_Way_getitem (T : Top K mg) : Met P w K mg base 3 (cWay K) "__getitem__" (sp_Way_getitem K) [] := by
  refine mkMet T.k_Way.cl T.m_Way_getitem sc_Way_getitem (fun _ _ _ _ _ _ us hl => match us, hl with | [_, _], _ => rfl) (fun vs H Q E h => by (obtain ⟨_, _, _, rfl, _⟩ := h; rfl)) (fun f cdv A outer s H vs Q E hr h => ?_)
  obtain ⟨p, c, k, rfl, ⟨ok, ln, la, nr, ar, ⟨⟨dx, ob⟩, nl, al, nd, ad⟩⟩, hk, kk⟩ := h
  refine ⟨_, (pss_cons (ps_if (pt_not (pt_val (pe_c (c_is_between T) hr (by decide) (by rfl) (pa_cons (pv 1) (pa_cons pe_int (pa_cons (pe_op op_sub (pe_callB call_len_seq (by rfl) T.n_len (by decide +kernel) (pa_cons (pe_fld (pv 0) rfl) pa_nil)) pe_int) pa_nil)))))) (pss_one ps_never) pss_nil)
    (pss_one (ps_ret (pe_ix ix_list (pe_fld (pv 0) rfl) (pv 1) (fun _ _ => rfl))))), ?_⟩
  refine ⟨_, rfl, _, rfl, p, _, dx, _, _, rfl, ob, T.k_Way.cl, T.na_Way_own_nodes, lk1 rfl, ln, _, rfl, .inl (SqL.of nl), ?_⟩
  rw [rvs_len]
  refine ⟨_, _, rfl, rfl, _, _, _, rfl, ?_⟩
  rw [btw hk]
  refine ⟨_, rfl, iteF ?_⟩
  exact ⟨_, rfl, p, _, dx, _, _, rfl, ob, T.k_Way.cl, T.na_Way_own_nodes, lk1 rfl, _, rfl, ln, _, _, _, rfl, rfl, SqL.of nl, atI_nat (rvs_at hk), kk _ (nd k hk)⟩
def sp_Way_arrows (K : PySem.W.Frag) : Sp := fun vs H Q _ => ∃ (p : Addr) (c : Chain), vs = [.ref p] ∧ WayAt K H p c ∧ ∀ l ar H', Ex H H' → H l = none → H' l = some (.lst (rvs (c.n - 1) ar)) → (∀ k, k + 1 < c.n → H (ar k) = some (.tup (av c k))) → Q (.ref l) H'
theorem c_Way_arrows (T : Top K mg) : Met P w K mg base 1 (cWay K) "arrows" (sp_Way_arrows K) [] := by
  refine mkMet T.k_Way.cl T.m_Way_arrows sc_Way_arrows (fun _ _ _ _ _ _ us hl => match us, hl with | [_], _ => rfl) (fun vs H Q E h => by (obtain ⟨_, _, rfl, _⟩ := h; rfl)) (fun f cdv A outer s H vs Q E hr h => ?_)
  obtain ⟨p, c, rfl, ⟨ok, ln, la, nr, ar, ⟨⟨dx, ob⟩, nl, al, nd, ad⟩⟩, k⟩ := h
  refine ⟨_, (pss_one (ps_ret (pe_callTy call_list_of (by rfl) T.n_list (by decide +kernel) (pa_cons (pe_fld (pv 0) rfl) pa_nil)))), ?_⟩
  refine ⟨_, rfl, p, _, dx, _, _, rfl, ob, T.k_Way.cl, T.na_Way_own_arrows, (lk2 (by decide +kernel)).trans (lk1 rfl), la, _, rfl, .inl (SqL.of al), fun l hl => ?_⟩
  exact k l ar _ (Evl.Ex.new hl) hl upd_same ad
def sp_check_node (K : PySem.W.Frag) : Sp := fun vs H Q _ => ∃ (p : Addr) (c : Chain) (k : Nat), vs = [.ref p, .int (k : Nat)] ∧ WayAt K H p c ∧ k < c.n ∧ Q .non H
theorem c_check_node (T : Top K mg) : Cal P w K mg base 3 "check_node" (sp_check_node K) [] := by
  refine mkCal T.d_check_node sc_check_node (fun _ _ _ _ _ _ us hl => match us, hl with | [_, _], _ => rfl) (fun vs H Q E h => by (obtain ⟨_, _, _, rfl, _⟩ := h; rfl)) (fun f cdv A outer s H vs Q E hr h => ?_)
  obtain ⟨p, c, k, rfl, hw, hk, kk⟩ := h
  refine ⟨_, (pss_one (ps_if (pt_not (pt_val (pe_c (c_is_between T) hr (by decide) (by rfl) (pa_cons (pv 1) (pa_cons pe_int (pa_cons (pe_op op_sub (pe_callB (call_lenI (c_Way_len T) hr (by decide)) (by rfl) T.n_len (by decide +kernel) (pa_cons (pv 0) pa_nil)) pe_int) pa_nil)))))) (pss_one ps_never) pss_nil)), ?_⟩
  have hle := hw.1.le
  obtain ⟨dx, fs, ho⟩ := hw.ins
  refine ⟨_, rfl, _, rfl, p, dx, fs, rfl, ho, p, c, rfl, hw, _, rfl, ⟨by omega, by omega⟩, _, _, rfl, rfl, _, _, _, rfl, ?_⟩
  rw [btw hk]
  exact ⟨_, rfl, iteF kk⟩
def sp_Way_into (K : PySem.W.Frag) : Sp := fun vs H Q _ => ∃ (p : Addr) (c : Chain) (k : Nat), vs = [.ref p, .int (k : Nat)] ∧ WayAt K H p c ∧ k < c.n ∧
  ∀ l xs H', Ex H H' → H l = none → H' l = some (.lst xs) → ((k = 0 ∧ xs = []) ∨ (∃ j a, k = j + 1 ∧ xs = [.ref a] ∧ H' a = some (.tup (av c j)))) → Q (.ref l) H'
theorem c_Way_into (T : Top K mg) : Met P w K mg base 1 (cWay K) "into" (sp_Way_into K) [] := by
  refine mkMet T.k_Way.cl T.m_Way_into sc_Way_into (fun _ _ _ _ _ _ us hl => match us, hl with | [_, _], _ => rfl) (fun vs H Q E h => by (obtain ⟨_, _, _, rfl, _⟩ := h; rfl)) (fun f cdv A outer s H vs Q E hr h => ?_)
  obtain ⟨p, c, k, rfl, ⟨ok, ln, la, nr, ar, ⟨⟨dx, ob⟩, nl, al, nd, ad⟩⟩, hk, kk⟩ := h
  refine ⟨_, (pss_one (ps_ret (pe_lc (own := [("arrow", 2)]) (g := gName 2) rfl sc_Way_into.nd (pi_list (pe_fld (pv 0) rfl)) (blkOk_by (N := N_Way_into) (sc := L2.defScope s_Way_into) (by decide +kernel)) (fun _ _ _ _ _ => (pg_name (i := 2) sc_Way_into.nd rfl (by first | exact Or.inl rfl | exact Or.inr rfl))) (fun _ _ _ _ _ => (pts_one (PW.pt (pw_and (pt_cmpR op_eq (pe_ix (ixTK (K := K)) (pv 2) pe_int (fun _ _ => rfl)) (pv 1) (nomark _)) (pw_and1 (pt_cmpR op_ne (pe_ix (ixTK (K := K)) (pv 2) pe_int (fun _ _ => rfl)) pe_str (nomark _))))))) (fun _ _ _ _ _ => (pv 2))))), ?_⟩
  refine ⟨_, rfl, p, _, dx, _, _, rfl, ob, T.k_Way.cl, T.na_Way_own_arrows, (lk2 (by decide +kernel)).trans (lk1 rfl), la, rfl, ⟨_, SqL.of al⟩, fun D hD => ?_⟩
  have hle := ok.le
  have hlen : (rvs (c.n - 1) ar).length = c.n - 1 := rvs_len _ _
  refine lc_filt (walk_list (K := K) (a := la) (xs := rvs (c.n - 1) ar)) (fun i => decide (i + 1 = k)) (fun i => .ref (ar i)) hD (by omega) (fun H e => e.seqL (SqL.of al)) ?_ ?_
  · rintro i x H1 H2 hi e ⟨rfl, hx⟩ R S h1 h2
    have hi' : i < c.n - 1 := by rw [hlen] at hi; exact hi
    obtain rfl : V.ref (ar i) = x := by rw [rvs_at hi'] at hx; exact Option.some.inj hx
    have ha := e _ _ (ad i (by omega))
    refine ⟨rfl, ?_⟩
    refine ⟨_, rfl, ar i, _, _, _, rfl, rfl, SqT.of ha, rfl, _, rfl, rfl, ?_⟩
    by_cases q : i + 1 = k
    · subst q
      refine ⟨_, rfl, iteDT (by simp) ?_⟩
      refine ⟨_, rfl, ar i, _, _, _, rfl, rfl, SqT.of ha, rfl, rfl, ?_⟩
      refine ⟨_, rfl, iteNT (neS e_anew) ?_⟩
      exact ⟨_, rfl, h1 (by simp) _ (Evl.Ex.refl _)⟩
    · refine ⟨_, rfl, iteDF (neI (by omega)) ?_⟩
      exact h2 (by simp [q]) _ (Evl.Ex.refl _)
  · rintro H1 e hl
    refine kk D _ H1 e hD hl ?_
    rw [hlen]
    cases k with
    | zero =>
      refine .inl ⟨rfl, ?_⟩
      have : (fun i : Nat => decide (i + 1 = 0)) = fun _ => false := by funext i; simp
      rw [this]; simp
    | succ j =>
      refine .inr ⟨j, ar j, rfl, ?_, e _ _ (ad j hk)⟩
      have : (fun i : Nat => decide (i + 1 = j + 1)) = fun i => decide (i = j) := by funext i; simp
      rw [this, filt_eq, if_pos (by omega)]; rfl
end
end Ag
set_option maxHeartbeats 4000000
/-! Ways: the making. -/
namespace Ag
open PySem PySem.Spec PyProof.Rows L2
open C8 (Cal Met Mak pe_c pe_mt pe_mt0 pe_mk pe_gc)
open Evl (Ex)
structure NodesAt (H : Hp) (c : Chain) (ln : Addr) (nr : Nat → Addr) : Prop where
  nl : H ln = some (.lst (rvs c.n nr))
  nd : ∀ k, k < c.n → H (nr k) = some (.tup (c.d k).vs)
theorem NodesAt.ext {H H' : Hp} {c : Chain} {ln : Addr} {nr : Nat → Addr} (e : Ex H H') (h : NodesAt H c ln nr) : NodesAt H' c ln nr := ⟨e _ _ h.nl, fun k hk => e _ _ (h.nd k hk)⟩
structure ArrAt (H : Hp) (c : Chain) (n : Nat) (la : Addr) (ar : Nat → Addr) (f : Nat → List V) : Prop where
  al : H la = some (.lst (rvs n ar))
  ad : ∀ k, k < n → H (ar k) = some (.tup (f k))
theorem ArrAt.ext {H H' : Hp} {c : Chain} {n : Nat} {ln : Addr} {nr : Nat → Addr} {f : Nat → List V} (e : Ex H H') (h : ArrAt H c n ln nr f) : ArrAt H' c n ln nr f := ⟨e _ _ h.al, fun k hk => e _ _ (h.ad k hk)⟩
theorem btw' {k n : Nat} (h : k + 1 < n) : (decide ((0 : Int) ≤ ((k : Nat) : Int) + 1) && decide (((k : Nat) : Int) + 1 ≤ (n : Nat) - 1)) = true := by
  rw [decide_eq_true (by omega), decide_eq_true (by omega)]; rfl
theorem atI_succ {n k : Nat} {nr : Nat → Addr} (h : k + 1 < n) : atI (rvs n nr) (((k : Nat) : Int) + 1) = some (.ref (nr (k + 1))) := atI_nat (j := k + 1) (rvs_at h)
section
variable {P : Program} {w : World} {K : PySem.W.Frag} {mg : Str → Option Value} {base : Heap}
def sp_is_arrow : Sp := fun vs H Q _ => ∃ (t ln : Addr) (c : Chain) (nr : Nat → Addr) (k : Nat), vs = [.ref t, .ref ln] ∧ c.Ok ∧ k + 1 < c.n ∧ H t = some (.tup (av4 c k)) ∧ NodesAt H c ln nr ∧ ∀ H', Ex H H' → Q (.bl true) H'
theorem c_is_arrow (T : Top K mg) : Cal P w K mg base 6 "is_arrow" sp_is_arrow [] := by
  refine mkCal T.d_is_arrow sc_is_arrow (fun _ _ _ _ _ _ us hl => match us, hl with | [_, _], _ => rfl) (fun vs H Q E h => by (obtain ⟨_, _, _, _, _, rfl, _⟩ := h; rfl)) (fun f cdv A outer s H vs Q E hr h => ?_)
  obtain ⟨t, ln, c, nr, k, rfl, ok, hk, ht, hn, kk⟩ := h
  refine ⟨_, (pss_cons (ps_if (PW.pt (pw_or (pt_not (pt_val (pe_callB call_isi (by rfl) T.n_isinstance (by decide +kernel) (pa_cons (pv 0) (pa_cons (pe_bltn (v := .ty "tuple") (by rfl) T.n_tuple (by decide +kernel) rfl) pa_nil))))) (pw_or1 (pt_cmpR op_notIn_seq (pe_callB call_len_seq (by rfl) T.n_len (by decide +kernel) (pa_cons (pv 0) pa_nil)) (pe_tup (pa_cons pe_int (pa_cons pe_int pa_nil))) (by rfl))))) (pss_one (ps_ret pe_bl)) pss_nil)
    (pss_cons (ps_if (PW.pt (pw_or (pt_not (pt_val (pe_c (c_is_between T) hr (by decide) (by rfl) (pa_cons (pe_ix ix_tup (pv 0) pe_int (fun _ _ => rfl)) (pa_cons pe_int (pa_cons (pe_op op_sub (pe_callB call_len_seq (by rfl) T.n_len (by decide +kernel) (pa_cons (pv 1) pa_nil)) pe_int) pa_nil)))))) (pw_or1 (pt_not (pt_val (pe_c (c_is_between T) hr (by decide) (by rfl) (pa_cons (pe_ix ix_tup (pv 0) pe_int (fun _ _ => rfl)) (pa_cons pe_int (pa_cons (pe_op op_sub (pe_callB call_len_seq (by rfl) T.n_len (by decide +kernel) (pa_cons (pv 1) pa_nil)) pe_int) pa_nil))))))))) (pss_one (ps_ret pe_bl)) pss_nil)
    (pss_cons (ps_if (PW.pt (pw_or (pt_not (pt_val (pe_c (c_is_time T) hr (by decide) (by rfl) (pa_cons (pe_ix ix_tup (pv 0) pe_int (fun _ _ => rfl)) pa_nil)))) (pw_or1 (PW.pt (pw_and (pt_cmpR op_notN (pe_ix ix_tup (pv 0) pe_int (fun _ _ => rfl)) pe_non (nomark _)) (pw_and1 (PW.pt (pw_or (pt_not (pt_val (pe_c (c_is_time T) hr (by decide) (by rfl) (pa_cons (pe_ix ix_tup (pv 0) pe_int (fun _ _ => rfl)) pa_nil)))) (pw_or1 (pt_cmpR op_lt (pe_ix ix_tup (pv 0) pe_int (fun _ _ => rfl)) (pe_ix ix_tup (pv 0) pe_int (fun _ _ => rfl)) (nomark _))))))))))) (pss_one (ps_ret pe_bl)) pss_nil)
    (pss_cons (ps_set (i := 2) sc_is_arrow.nd rfl (Or.inl rfl) (pe_ifExp (pt_cmpR op_eq (pe_callB call_len_seq (by rfl) T.n_len (by decide +kernel) (pa_cons (pv 0) pa_nil)) pe_int (nomark _)) (pe_ix ix_tup (pv 0) pe_int (fun _ _ => rfl)) pe_str))
    (pss_one (ps_ret (pe_and (pe_c (c_is_part_of T) hr (by decide) (by rfl) (pa_cons (pv 2) (pa_cons (pe_glob (v := .ref (aWORDS K)) (by rfl) T.t_WORDS rfl) pa_nil))) (pe_one (pe_cmpR op_eq (pe_cmpR op_eq (pv 2) pe_str (nomark _)) (pe_c (c_makes T) hr (by decide) (by rfl) (pa_cons (pe_ix ix_list (pv 1) (pe_ix ix_tup (pv 0) pe_int (fun _ _ => rfl)) (fun _ _ => rfl)) pa_nil)) (nomark _)))))))))), ?_⟩
  have hv : av4 c k = [.int (k : Nat), .int ((k : Nat) + 1), .int (c.t k), .int (c.t k)] := rfl
  obtain ⟨tm1, tm2⟩ := ok.tm k hk
  refine ⟨_, rfl, _, _, _, _, true, rfl, .ty _, .base (.tup ht), kit_ty (by decide +kernel), _, rfl, iteF ?_⟩
  refine ⟨_, rfl, t, _, rfl, .inr (SqT.of ht), szl (by simp), fun m hm => ?_⟩
  obtain ⟨H1, q_, e1, h1⟩ := new_ex (o := .tup [.int 4, .int 5]) hm
  rw [← q_]; clear q_
  refine ⟨_, _, rfl, .inr (SqT.of h1), rfl, rfl, ?_⟩
  refine ⟨false, rfl, iteF ?_⟩
  have ht1 := e1 _ _ ht
  have hn1 := hn.ext e1
  refine ⟨_, rfl, t, _, _, _, rfl, rfl, SqT.of ht1, rfl, _, rfl, ln, _, rfl, .inl (SqL.of hn1.nl), ?_⟩
  rw [rvs_len]
  refine ⟨_, _, rfl, rfl, _, _, _, rfl, ?_⟩
  rw [btw (by omega : k < c.n)]
  refine ⟨_, rfl, iteF ?_⟩
  refine ⟨_, rfl, t, _, _, _, rfl, rfl, SqT.of ht1, rfl, _, rfl, ln, _, rfl, .inl (SqL.of hn1.nl), ?_⟩
  rw [rvs_len]
  refine ⟨_, _, rfl, rfl, _, _, _, rfl, ?_⟩
  rw [btw' hk]
  refine ⟨_, rfl, iteF ?_⟩
  refine ⟨_, rfl, t, _, _, _, rfl, rfl, SqT.of ht1, rfl, _, rfl, ?_⟩
  rw [decide_eq_true tm1, decide_eq_true (Int.le_trans tm2 (by decide))]
  refine ⟨_, rfl, iteF ?_⟩
  refine ⟨_, rfl, t, _, _, _, rfl, rfl, SqT.of ht1, rfl, rfl, _, rfl, iteT ?_⟩
  refine ⟨_, rfl, t, _, _, _, rfl, rfl, SqT.of ht1, rfl, _, rfl, ?_⟩
  rw [decide_eq_true tm1, decide_eq_true (Int.le_trans tm2 (by decide))]
  refine ⟨_, rfl, iteF ?_⟩
  refine ⟨_, rfl, t, _, _, _, rfl, rfl, SqT.of ht1, rfl, _, rfl, t, _, _, _, rfl, rfl, SqT.of ht1, rfl, _, _, rfl, rfl, ?_⟩
  refine ⟨_, rfl, iteDF (Int.lt_irrefl _) ?_⟩
  refine ⟨_, rfl, t, _, rfl, .inr (SqT.of ht1), rfl, ?_⟩
  refine ⟨false, rfl, iteF ?_⟩
  refine ⟨_, rfl, _, _, ["", "held", "anew"], rfl, T.q_WORDS _, by decide +kernel, ?_⟩
  refine ⟨_, rfl, iteT ?_⟩
  refine ⟨_, rfl, rfl, _, rfl, _, rfl, t, _, _, _, rfl, rfl, SqT.of ht1, rfl, ln, _, _, _, rfl, rfl, SqL.of hn1.nl, atI_succ hk, nr (k + 1), c.d (k + 1), rfl, hn1.nd _ hk, ok.bk _ hk, fun H2 e2 => ?_⟩
  rw [ok.nm (k + 1) (by omega) hk, decide_eq_false (neS e_anew)]
  refine ⟨rfl, ?_⟩
  exact kk _ (e1.trans e2)
def bvs (n : Nat) (f : Nat → Bool) : List V := (List.range n).map fun k => V.bl (f k)
theorem bvs_at {n : Nat} {f : Nat → Bool} {k : Nat} (h : k < n) : (bvs n f)[k]? = some (.bl (f k)) := by simp [bvs, h]
theorem bvs_set {n j : Nat} {f : Nat → Bool} {b : Bool} : (bvs n f).set j (.bl b) = bvs n fun k => if k = j then b else f k := by
  unfold bvs
  rw [rng_set]
  apply List.map_congr_left
  intro k _
  by_cases h : k = j
  · simp [h]
  · simp [h]
theorem ixN_at {n k : Nat} (h : k < n) : ixN n ((k : Nat) : Int) = some k := by
  unfold ixN
  rw [if_pos (by omega), if_pos (by omega)]
  simp
def sp_reached_from : Sp := fun vs H Q _ => ∃ (ln la : Addr) (c : Chain) (nr ar : Nat → Addr), vs = [.ref ln, .ref la] ∧ c.Ok ∧ NodesAt H c ln nr ∧ ArrAt H c (c.n - 1) la ar (av c) ∧ ∀ p H', Ex H H' → H p = none → H' p = some (.lst (bvs c.n fun _ => true)) → Q (.ref p) H'
theorem c_reached_from (T : Top K mg) : Cal P w K mg base 6 "reached_from" sp_reached_from [] := by
  refine mkCal T.d_reached_from sc_reached_from (fun _ _ _ _ _ _ us hl => match us, hl with | [_, _], _ => rfl) (fun vs H Q E h => by (obtain ⟨_, _, _, _, _, rfl, _⟩ := h; rfl)) (fun f cdv A outer s H vs Q E hr h => ?_)
  obtain ⟨ln, la, c, nr, ar, rfl, ok, hn, ha, kk⟩ := h
  refine ⟨_, (pss_cons (ps_setLc (i := 2) (own := [("node", 3)]) (g := gName 3) (tt := tYes) rfl sc_reached_from.nd rfl rfl (sw_true rfl rfl rfl (by decide +kernel)) (pi_list (pv 0)) (blkOk_by (N := N_reached_from) (sc := L2.defScope s_reached_from) (by decide +kernel)) (fun _ _ _ _ _ => (pg_name (i := 3) sc_reached_from.nd rfl (by first | exact Or.inl rfl | exact Or.inr rfl))) (fun _ _ _ _ _ => pts_nil) (fun _ _ _ _ _ => (pe_c (c_makes T) hr (by decide) (by rfl) (pa_cons (pv 3) pa_nil))))
    (pss_cons (ps_for PassesOwn.never rfl (pi_range1 (by rfl) T.n_range (pa_cons (pe_callB call_len_seq (by rfl) T.n_len (by decide +kernel) (pa_cons (pv 0) pa_nil)) pa_nil)) (pg_name (i := 4) sc_reached_from.nd rfl (by first | exact Or.inl rfl | exact Or.inr rfl))
    (pss_one (ps_for PassesOwn.never rfl (pi_list (pv 1)) (pg_tup rfl (pgs_cons (pg_name (i := 5) sc_reached_from.nd rfl (by first | exact Or.inl rfl | exact Or.inr rfl)) (pgs_cons (pg_name (i := 6) sc_reached_from.nd rfl (by first | exact Or.inl rfl | exact Or.inr rfl)) (pgs_cons (pg_name (i := 7) sc_reached_from.nd rfl (by first | exact Or.inl rfl | exact Or.inr rfl)) (pgs_cons (pg_name (i := 8) sc_reached_from.nd rfl (by first | exact Or.inl rfl | exact Or.inr rfl)) (pgs_cons (pg_name (i := 9) sc_reached_from.nd rfl (by first | exact Or.inl rfl | exact Or.inr rfl)) pgs_nil))))))
    (pss_one (ps_if (PW.pt (pw_and (pt_val (pe_ix ix_list (pv 2) (pv 5) (fun _ _ => rfl))) (pw_and1 (pt_cmpR op_ne (pv 9) pe_str (nomark _))))) (pss_one (ps_asg pe_bl (pg_sub (pv 2) (pv 6) set_list))) pss_nil)))))
    (pss_one (ps_ret (pv 2))))), ?_⟩
  have hle := ok.le
  have hpos := ok.pos
  have hlen : (rvs c.n nr).length = c.n := rvs_len _ _
  have hlen' : (rvs (c.n - 1) ar).length = c.n - 1 := rvs_len _ _
  refine ⟨_, rfl, ln, rfl, ⟨_, SqL.of hn.nl⟩, fun D hD => ?_⟩
  refine lc_map (walk_list (K := K) (a := ln) (xs := rvs c.n nr)) (fun i => .bl (c.d i).maker) hD (by omega) (fun H e => e.seqL (SqL.of hn.nl)) ?_ ?_
  · rintro i x H1 H2 hi e ⟨rfl, hx⟩ R hR
    have hi' : i < c.n := by rw [hlen] at hi; exact hi
    obtain rfl : V.ref (nr i) = x := by rw [rvs_at hi'] at hx; exact Option.some.inj hx
    exact ⟨rfl, ⟨_, rfl, nr i, c.d i, rfl, e _ _ (hn.nd i hi'), ok.bk i hi', fun H3 e3 => hR H3 e3⟩⟩
  rintro H1 e1 hl
  rw [hlen] at hl
  refine ⟨_, rfl, ln, _, rfl, .inl (SqL.of (e1 _ _ hn.nl)), ?_⟩
  rw [hlen]
  refine ⟨_, rfl, by omega, by omega, ?_⟩
  refine for_it (walk_range (n := c.n)) (fun i σ H' => ∃ a b d e f h g, σ = [some (.ref ln), some (.ref la), some (.ref D), a, b, d, e, f, h, g] ∧ Ex H H' ∧ ∃ g : Nat → Bool, H' D = some (.lst (bvs c.n g)) ∧ g 0 = true ∧ (0 < i → ∀ k, k < c.n → g k = true))
    ⟨none, none, none, none, none, none, none, rfl, e1, _, hl, ok.mk0, fun z => absurd z (Nat.lt_irrefl _)⟩ (fun _ _ _ _ _ => trivial) ?_ ?_
  · rintro i x σ H2 H3 hi ⟨a, b, d, e, f, h, g, rfl, eH, gg, hg, g0, gi⟩ ⟨rfl, rfl⟩
    refine ⟨_, rfl, la, rfl, ⟨_, SqL.of (eH _ _ ha.al)⟩, ?_⟩
    refine for_it (walk_list (K := K) (a := la) (xs := rvs (c.n - 1) ar)) (fun j σ H' => ∃ a b d e f h g, σ = [some (.ref ln), some (.ref la), some (.ref D), a, b, d, e, f, h, g] ∧ Ex H H' ∧ ∃ g : Nat → Bool, H' D = some (.lst (bvs c.n g)) ∧ g 0 = true ∧ (∀ k, k ≤ j → k < c.n → g k = true))
      ⟨_, _, _, _, _, _, _, rfl, eH, gg, hg, g0, fun k hk _ => by rw [Nat.le_zero.mp hk]; exact g0⟩ (fun _ _ _ _ ⟨_, _, _, _, _, _, _, _, z, _⟩ => SqL.of (z _ _ ha.al)) ?_ ?_
    · rintro j x σ H4 H5 hj ⟨a, b, d, e, f, h, g, rfl, eH, gg, hg, g0, gi⟩ ⟨rfl, hx⟩
      have hj' : j < c.n - 1 := by rw [hlen'] at hj; exact hj
      obtain rfl : V.ref (ar j) = x := by rw [rvs_at hj'] at hx; exact Option.some.inj hx
      refine ⟨ar j, _, rfl, SqT.of (eH _ _ (ha.ad j hj')), rfl, _, _, rfl, _, _, rfl, _, _, rfl, _, _, rfl, _, _, rfl, rfl, ?_⟩
      refine ⟨_, rfl, _, rfl, D, _, _, _, rfl, rfl, SqL.of hg, atI_nat (bvs_at (by omega)), ?_⟩
      rw [gi j (Nat.le_refl _) (by omega)]
      refine ⟨_, rfl, iteT ?_⟩
      refine ⟨_, rfl, rfl, ?_⟩
      refine ⟨_, rfl, iteNT (neS e_anew) ?_⟩
      have hix : ixN (bvs c.n gg).length (((j : Nat) : Int) + 1) = some (j + 1) := by
        have : (bvs c.n gg).length = c.n := by simp [bvs]
        rw [this]
        exact ixN_at (k := j + 1) (by omega)
      refine ⟨_, rfl, _, rfl, D, _, _, j + 1, rfl, rfl, hg, hix, ?_⟩
      obtain ⟨H6, q_, e6, h6, f6⟩ := mut_ex (o := .lst ((bvs c.n gg).set (j + 1) (.bl true))) eH hD
      rw [← q_]; clear q_
      refine ⟨_, _, _, _, _, _, _, rfl, e6, _, by rw [h6, bvs_set], ?_, fun k hk hkn => ?_⟩
      · simp [g0]
      · by_cases q : k = j + 1
        · simp [q]
        · simp [q, gi k (by omega) hkn]
    · rintro σ H4 ⟨a, b, d, e, f, h, g, rfl, eH, gg, hg, g0, gi⟩
      refine ⟨_, _, _, _, _, _, _, rfl, eH, gg, hg, g0, fun _ k hk => gi k ?_ hk⟩
      rw [hlen']; omega
  · rintro σ H2 ⟨a, b, d, e, f, h, g, rfl, eH, gg, hg, g0, gi⟩
    refine ⟨_, rfl, kk D H2 eH hD ?_⟩
    rw [hg]
    congr 2
    apply List.map_congr_left
    intro k hk
    rw [gi (by omega) k (by simpa using hk)]
end
end Ag
set_option maxHeartbeats 4000000
/-! Way.__init__. -/
namespace Ag
open PySem PySem.Spec PyProof.Rows L2
open C8 (Cal Met Mak pe_c pe_mt pe_mt0 pe_mk pe_gc)
open Evl (Ex)
theorem dpAll_range {K : PySem.W.Frag} {H : Hp} {F : Nat → V} {d : Nat → PyData} : ∀ {n : Nat}, (∀ i, i < n → Dp K H (F i) (d i)) → DpAll K H ((List.range n).map F) ((List.range n).map d) := by
  have gen : ∀ (l : List Nat), (∀ i, i ∈ l → Dp K H (F i) (d i)) → DpAll K H (l.map F) (l.map d) := by
    intro l
    induction l with
    | nil => intro _; exact .nil
    | cons a r ih => intro h; exact .cons (h a (by simp)) (ih fun i hi => h i (by simp [hi]))
  intro n h
  exact gen _ fun i hi => h i (by simpa using hi)
theorem lay_map {d : Nat → PyData} : ∀ (l : List Nat), (∀ i, (d i).canLay0 = true) → PyData.canLayAll0 (l.map d) = true
  | [], _ => by simp [PyData.canLayAll0]
  | i :: l, h => by simp [PyData.canLayAll0, h i, lay_map l h]
theorem depth_map {d : Nat → PyData} {m : Nat} : ∀ (l : List Nat), (∀ i, (d i).depth ≤ m) → PyData.depthAll (l.map d) ≤ m
  | [], _ => by simp [PyData.depthAll]
  | i :: l, h => by
    have h1 := depth_map l h
    have h2 := h i
    simp only [List.map_cons, PyData.depthAll]
    omega
def prD2 (i : Nat) : PyData := .tuple [.int (i : Nat), .int ((i : Nat) + 1)]
theorem prD2_lay (i : Nat) : (prD2 i).canLay0 = true := by simp [prD2, PyData.canLay0, PyData.canLayAll0]
theorem prD2_depth (i : Nat) : (prD2 i).depth ≤ 1 := by simp [prD2, PyData.depth, PyData.depthAll]
theorem prD2_sh (i : Nat) : SeqAt.shaped (prD2 i) = true := sh_of (prD2_lay i) (Nat.le_trans (prD2_depth i) (by decide))
theorem prD2s_sh (n : Nat) : SeqAt.shaped (.list ((List.range n).map prD2)) = true := sh_of (by simp only [PyData.canLay0]; exact lay_map _ prD2_lay) (by have := depth_map (List.range n) prD2_depth; simp only [PyData.depth]; omega)
theorem prD2_any (i : Nat) : ((List.range i).map prD2).any (fun z => PyData.eqv z (prD2 i)) = false := by
  rw [List.any_eq_false]
  intro z hz
  obtain ⟨j, hj, rfl⟩ := List.mem_map.mp hz
  have : j < i := by simpa using hj
  simp [prD2, PyData.eqv, PyData.eqvAll]
  omega
theorem sl4 (c : Chain) (i : Nat) : ¬ HT.sIx (av4 c i).length (av4 c i).length (some 2) = (av4 c i).length := by simp [av4, HT.sIx]
theorem sl5 (c : Chain) (i : Nat) : ¬ HT.sIx (av c i).length (av c i).length (some 2) = (av c i).length := by simp [av, HT.sIx]
theorem cut4 (c : Chain) (i : Nat) : cutV (av4 c i) none (some 2) = [.int (i : Nat), .int ((i : Nat) + 1)] := by simp [cutV, av4, HT.sIx]
theorem cut5 (c : Chain) (i : Nat) : cutV (av c i) none (some 2) = [.int (i : Nat), .int ((i : Nat) + 1)] := by simp [cutV, av, HT.sIx]
section
variable {P : Program} {w : World} {K : PySem.W.Frag} {mg : Str → Option Value} {base : Heap}
def sp_Way_init (K : PySem.W.Frag) : Sp := fun vs H Q _ => ∃ (x ln la dx : Addr) (c : Chain) (nr a4 : Nat → Addr) (H0 : Hp), vs = [.ref x, .ref ln, .ref la] ∧ H x = some (.ins (cWay K) dx []) ∧ Ex H0 H ∧ H0 x = none ∧ c.Ok ∧
  NodesAt H c ln nr ∧ ArrAt H c (c.n - 1) la a4 (av4 c) ∧ ∀ H', Ex H0 H' → WayAt K H' x c → Q .non H'
theorem c_Way_init (T : Top K mg) : Mak P w K mg base 7 "Way" (cWay K) (sp_Way_init K) [] := by
  refine mkMak T.g_Way T.i_Way sc_Way_init (fun _ _ _ _ _ _ us hl => match us, hl with | [_, _, _], _ => rfl) (fun vs H Q E h => by (obtain ⟨_, _, _, _, _, _, _, _, rfl, _⟩ := h; rfl)) (fun f cdv A outer s H vs Q E hr h => ?_)
  obtain ⟨x, ln, la, dx, c, nr, a4, H0, rfl, hx, e0, n0, ok, hn, ha, kk⟩ := h
  refine ⟨_, (pss_cons (ps_if (PW.pt (pw_or (pt_not (pt_val (pe_c (c_is_listed T) hr (by decide) (by rfl) (pa_cons (pv 1) pa_nil)))) (pw_or1 (pt_not (pt_chain op_le op_le pe_int (pe_callB call_len_seq (by rfl) T.n_len (by decide +kernel) (pa_cons (pv 1) pa_nil)) (pe_gc (by rfl) T.v_MOST_NODES)))))) (pss_one ps_never) pss_nil)
    (pss_cons (ps_for PassesOwn.never rfl (pi_enum (by rfl) T.n_enumerate (pa_cons (pv 1) pa_nil)) (pg_tup rfl (pgs_cons (pg_name (i := 3) sc_Way_init.nd rfl (by first | exact Or.inl rfl | exact Or.inr rfl)) (pgs_cons (pg_name (i := 4) sc_Way_init.nd rfl (by first | exact Or.inl rfl | exact Or.inr rfl)) pgs_nil)))
    (pss_one (ps_if (pt_not (pt_val (pe_c (c_is_deed T) hr (by decide) (by rfl) (pa_cons (pv 4) pa_nil)))) (pss_one ps_never) pss_nil)))
    (pss_cons (ps_if (PW.pt (pw_or (pt_not (pt_val (pe_c (c_is_listed T) hr (by decide) (by rfl) (pa_cons (pv 2) pa_nil)))) (pw_or1 (pt_cmpR op_gt (pe_callB call_len_seq (by rfl) T.n_len (by decide +kernel) (pa_cons (pv 2) pa_nil)) (pe_gc (by rfl) T.v_MOST_ARROWS) (nomark _))))) (pss_one ps_never) pss_nil)
    (pss_cons (ps_set (i := 5) sc_Way_init.nd rfl (Or.inl rfl) (pe_lst pa_nil))
    (pss_cons (ps_for PassesOwn.never rfl (pi_enum (by rfl) T.n_enumerate (pa_cons (pv 2) pa_nil)) (pg_tup rfl (pgs_cons (pg_name (i := 3) sc_Way_init.nd rfl (by first | exact Or.inl rfl | exact Or.inr rfl)) (pgs_cons (pg_name (i := 6) sc_Way_init.nd rfl (by first | exact Or.inl rfl | exact Or.inr rfl)) pgs_nil)))
    (pss_cons (ps_if (PW.pt (pw_or (pt_not (pt_val (pe_c (c_is_arrow T) hr (by decide) (by rfl) (pa_cons (pv 6) (pa_cons (pv 1) pa_nil))))) (pw_or1 (pt_cmpR (op_inD hr.units65) (pe_slice sl_tupA (pv 6) po_none (po_some pe_int)) (pe_lc (own := [("other", 7)]) (g := gName 7) (tt := tYes) rfl sc_Way_init.nd (pi_list (pv 5)) (blkOk_by (N := N_Way_init) (sc := L2.defScope s_Way_init) (by decide +kernel)) (fun _ _ _ _ _ => (pg_name (i := 7) sc_Way_init.nd rfl (by first | exact Or.inl rfl | exact Or.inr rfl))) (fun _ _ _ _ _ => pts_nil) (fun _ _ _ _ _ => (pe_slice (slTK (K := K)) (pv 7) po_none (po_some pe_int)))) (by rfl))))) (pss_one ps_never) pss_nil)
    (pss_one (ps_expr (pe_bm PySem.F.plainAttrs_list PySem.F.slot_list_append PySem.F.type_list_append mt_append (pv 5) (pa_cons (pe_ifExp (pt_cmpR op_eq (pe_callB call_len_seq (by rfl) T.n_len (by decide +kernel) (pa_cons (pv 6) pa_nil)) pe_int (nomark _)) (pv 6) (pe_tup (StX.pa_star (pv 6) (pa_cons pe_str pa_nil)))) pa_nil))))))
    (pss_cons (ps_for PassesOwn.never rfl (pi_enum (by rfl) T.n_enumerate (pa_cons (pv 5) pa_nil)) (pg_tup rfl (pgs_cons (pg_name (i := 3) sc_Way_init.nd rfl (by first | exact Or.inl rfl | exact Or.inr rfl)) (pgs_cons (pg_name (i := 6) sc_Way_init.nd rfl (by first | exact Or.inl rfl | exact Or.inr rfl)) pgs_nil)))
    (pss_one (ps_if (PW.pt (pw_and (pt_cmpR op_eq (pe_ix ix_tup (pv 6) pe_int (fun _ _ => rfl)) pe_str (nomark _)) (pw_and1 (pt_not (pt_val (pe_callB (cr_any rfl) (by rfl) T.n_any (by decide +kernel) (pa_cons (pe_lc (own := [("other", 7)]) (g := gName 7) (tt := tYes) rfl sc_Way_init.nd (pi_list (pv 5)) (blkOk_by (N := N_Way_init) (sc := L2.defScope s_Way_init) (by decide +kernel)) (fun _ _ _ _ _ => (pg_name (i := 7) sc_Way_init.nd rfl (by first | exact Or.inl rfl | exact Or.inr rfl))) (fun _ _ _ _ _ => pts_nil) (fun _ _ _ _ _ => (pe_and (pe_cmpR op_eq (pe_ix (ixTK (K := K)) (pv 7) pe_int (fun _ _ => rfl)) (pe_ix (ixTK (K := K)) (pv 6) pe_int (fun _ _ => rfl)) (nomark _)) (pe_one (pe_cmpR op_ne (pe_ix (ixTK (K := K)) (pv 7) pe_int (fun _ _ => rfl)) pe_str (nomark _)))))) pa_nil))))))) (pss_one ps_never) pss_nil)))
    (pss_cons (ps_for PassesOwn.never rfl (pi_enum (by rfl) T.n_enumerate (pa_cons (pe_c (c_reached_from T) hr (by decide) (by rfl) (pa_cons (pv 1) (pa_cons (pv 5) pa_nil))) pa_nil)) (pg_tup rfl (pgs_cons (pg_name (i := 3) sc_Way_init.nd rfl (by first | exact Or.inl rfl | exact Or.inr rfl)) (pgs_cons (pg_name (i := 8) sc_Way_init.nd rfl (by first | exact Or.inl rfl | exact Or.inr rfl)) pgs_nil)))
    (pss_one (ps_if (pt_not (pt_val (pv 8))) (pss_one ps_never) pss_nil)))
    (pss_cons (ps_fld (pv 0) (pe_callTy call_list_of (by rfl) T.n_list (by decide +kernel) (pa_cons (pv 1) pa_nil)) rfl)
    (pss_one (ps_fld (pv 0) (pv 5) rfl)))))))))), ?_⟩
  have hle := ok.le
  have hpos := ok.pos
  have hlen : (rvs c.n nr).length = c.n := rvs_len _ _
  have hlen' : (rvs (c.n - 1) a4).length = c.n - 1 := rvs_len _ _
  refine ⟨_, rfl, ln, _, rfl, hn.nl, fun H1 e1 => ?_⟩
  refine ⟨_, rfl, iteF ?_⟩
  have hn1 := hn.ext e1
  refine ⟨_, rfl, ln, _, rfl, .inl (SqL.of hn1.nl), ?_⟩
  rw [hlen]
  refine ⟨_, _, rfl, rfl, ?_⟩
  refine ⟨true, congrArg V.bl (decide_eq_true (by omega)), ?_⟩
  refine ⟨_, _, rfl, rfl, ?_⟩
  refine ⟨true, congrArg V.bl (decide_eq_true (by omega)), iteF ?_⟩
  refine ⟨_, rfl, ln, _, rfl, SqL.of hn1.nl, for_it (walk_enum (K := K) (a := ln) (xs := rvs c.n nr)) (fun i σ H' => ∃ u v, σ = [some (.ref x), some (.ref ln), some (.ref la), u, v, none, none, none, none] ∧ Ex H H') ⟨none, none, rfl, e1⟩ (fun i σ H' _ ⟨_, _, _, e⟩ => e.seqL (SqL.of hn.nl)) ?_ ?_⟩
  · rintro i y σ H2 H3 hi ⟨u, v, rfl, e⟩ ⟨T1, a, b, rfl, hT, rfl, hia, hib⟩
    have hi' : i < c.n := by rw [hlen] at hi; exact hi
    obtain rfl : V.ref (nr i) = b := Option.some.inj ((rvs_at hi').symm.trans hib)
    obtain ⟨H4, q_, e4, h4⟩ := new_ex (o := .tup [a, .ref (nr i)]) hT
    rw [← q_]; clear q_
    have e14 := e.trans e4
    refine ⟨T1, _, rfl, SqT.of h4, rfl, _, _, rfl, _, _, rfl, rfl, ?_⟩
    refine ⟨_, rfl, nr i, c.d i, rfl, e14 _ _ (hn.nd i hi'), ok.bk i hi', fun H5 e5 => ?_⟩
    exact ⟨_, rfl, ⟨_, _, rfl, e14.trans e5⟩⟩
  rintro σ H2 ⟨u, v, rfl, e2⟩
  have ha2 := ha.ext e2
  refine ⟨_, rfl, la, _, rfl, ha2.al, fun H3 e3 => ?_⟩
  refine ⟨_, rfl, iteF ?_⟩
  have e3 := e2.trans e3
  have ha3 := ha.ext e3
  refine ⟨_, rfl, la, _, rfl, .inl (SqL.of ha3.al), ?_⟩
  rw [hlen']
  refine ⟨_, _, rfl, rfl, ?_⟩
  refine ⟨_, rfl, iteDF (by omega) ?_⟩
  refine ⟨Nat.zero_le _, fun l hl => ?_⟩
  have l0 : H l = none := fr_of e3 hl
  obtain ⟨H4, q_, e4, h4⟩ := new_ex (o := .lst []) hl
  rw [← q_]; clear q_
  refine ⟨_, rfl, la, _, rfl, SqL.of (ha3.ext e4).al, for_it (walk_enum (K := K) (a := la) (xs := rvs (c.n - 1) a4)) (fun i σ H' => ∃ u v w, σ = [some (.ref x), some (.ref ln), some (.ref la), u, v, some (.ref l), w, none, none] ∧ Ex H H' ∧ ∃ F, ArrAt H' c i l F (av c)) ⟨_, _, _, rfl, e3.trans e4, fun _ => 0, ⟨h4, fun k hk => absurd hk (Nat.not_lt_zero _)⟩⟩ (fun i σ H' _ ⟨_, _, _, _, e, _⟩ => e.seqL (SqL.of ha.al)) ?_ ?_⟩
  · rintro i y σ H5 H6 hi ⟨u, v, w, rfl, e, F, hF⟩ ⟨T1, a, b, rfl, hT, rfl, hia, hib⟩
    have hi' : i < c.n - 1 := by rw [hlen'] at hi; exact hi
    obtain rfl : V.ref (a4 i) = b := Option.some.inj ((rvs_at hi').symm.trans hib)
    obtain ⟨H7, q_, e7, h7⟩ := new_ex (o := .tup [a, .ref (a4 i)]) hT
    rw [← q_]; clear q_
    have ex7 := e.trans e7
    refine ⟨T1, _, rfl, SqT.of h7, rfl, _, _, rfl, _, _, rfl, rfl, ?_⟩
    refine ⟨_, rfl, _, rfl, a4 i, ln, c, nr, i, rfl, ok, by omega, ex7 _ _ (ha.ad i hi'), hn.ext ex7, fun H8 e8 => ?_⟩
    refine ⟨_, rfl, iteF ?_⟩
    have ex8 := ex7.trans e8
    have ht := ex8 _ _ (ha.ad i hi')
    have hF8 := (hF.ext e7).ext e8
    refine ⟨_, rfl, _, rfl, a4 i, _, rfl, SqT.of ht, fun z => absurd z.2 (sl4 c i), fun _ p hp => ?_⟩
    rw [cut4]
    obtain ⟨H9, q_, e9, h9⟩ := new_ex (o := .tup [.int (i : Nat), .int ((i : Nat) + 1)]) hp
    rw [← q_]; clear q_
    have hF9 := hF8.ext e9
    have ex9 := ex8.trans e9
    refine ⟨_, rfl, l, rfl, ⟨_, SqL.of hF9.al⟩, fun D hD => ?_⟩
    have hlF : (rvs i F).length = i := rvs_len _ _
    refine lc_rel (walk_list (K := K) (a := l) (xs := rvs i F)) (fun j H v => ∃ t, v = .ref t ∧ H t = some (.tup [.int (j : Nat), .int ((j : Nat) + 1)])) (fun j H H' v e z => let ⟨t, a, b⟩ := z; ⟨t, a, e _ _ b⟩) hD (by omega) (fun H e => e.seqL (SqL.of hF9.al)) ?_ ?_
    · rintro j y H10 H11 hj e10 ⟨acc, hacc⟩ ⟨rfl, hy⟩ R hR
      have hj' : j < i := by rw [hlF] at hj; exact hj
      obtain rfl : V.ref (F j) = y := Option.some.inj ((rvs_at hj').symm.trans hy)
      have hfj := e10 _ _ (hF9.ad j hj')
      refine ⟨rfl, ?_⟩
      refine ⟨_, rfl, _, rfl, F j, _, rfl, SqT.of hfj, fun z => absurd z.2 (sl5 c j), fun _ q hq => ?_⟩
      rw [cut5]
      refine hR _ _ (Evl.Ex.new hq) ⟨q, rfl, del_of (ne_fr hacc hq).symm upd_same⟩
    · rintro H10 G e10 hG hPr
      rw [hlF] at hG hPr
      have hp9 := e10 _ _ h9
      refine ⟨prD2 i, (List.range i).map prD2, .tup (SqT.of hp9) (.cons (.int _) (.cons (.int _) .nil)), .lst (SqL.of hG) (dpAll_range fun j hj => ?_), prD2_sh i, prD2s_sh i, ?_⟩
      · obtain ⟨t, e, h⟩ := hPr j hj
        rw [e]
        exact .tup (SqT.of (del_ex _ _ h)) (.cons (.int _) (.cons (.int _) .nil))
      rw [prD2_any]
      refine ⟨_, rfl, iteF ?_⟩
      have ex10 := ex9.trans e10
      have hF10 := hF9.ext e10
      have ht10 := ex10 _ _ (ha.ad i hi')
      refine ⟨_, rfl, .inl ⟨rfl, _, SqL.of hF10.al⟩, _, rfl, a4 i, _, rfl, .inr (SqT.of ht10), rfl, _, rfl, iteDF (by intro z; cases z) ?_⟩
      refine ⟨_, rfl, a4 i, _, rfl, .inl (SqT.of ht10), szl (by simp [av4]), fun q hq => ?_⟩
      obtain ⟨H12, q_, e12, h12⟩ := new_ex (o := .tup (av4 c i ++ [.str ""])) hq
      rw [← q_]; clear q_
      have hF12 := hF10.ext e12
      refine ⟨l, rvs i F, _, rfl, rfl, hF12.al, szt (by rw [hlF]; omega), ?_⟩
      have eA := ex10.trans e12
      obtain ⟨H13, q_, e13, h13, f13⟩ := mut_ex (o := .lst (rvs i F ++ [.ref q])) eA l0
      rw [← q_]; clear q_
      refine ⟨_, _, _, rfl, e13, fun k => if k = i then q else F k, ⟨?_, fun k hk => ?_⟩⟩
      · rw [h13]
        congr 2
        unfold rvs
        rw [rng_succ]
        congr 1
        · apply List.map_congr_left
          intro k hk
          have : k < i := by simpa using hk
          have : ¬ k = i := by omega
          simp [this]
        · simp
      · by_cases qk : k = i
        · subst qk
          simp only [if_true]
          rw [f13 _ (ne_of h12 hF12.al (by intro z; cases z))]
          exact h12
        · simp only [qk, if_false]
          rw [f13 _ (ne_of (hF12.ad k (by omega)) hF12.al (by intro z; cases z))]
          exact hF12.ad k (by omega)
  rintro σ H5 ⟨u, w', w, rfl, e5, F, hF⟩
  rw [hlen'] at hF
  have hlF : (rvs (c.n - 1) F).length = c.n - 1 := rvs_len _ _
  refine ⟨_, rfl, l, _, rfl, SqL.of hF.al, for_it (walk_enum (K := K) (a := l) (xs := rvs (c.n - 1) F)) (fun i σ H' => ∃ u v, σ = [some (.ref x), some (.ref ln), some (.ref la), u, w', some (.ref l), v, none, none] ∧ Ex H5 H') ⟨_, _, rfl, Evl.Ex.refl _⟩ (fun i σ H' _ ⟨_, _, _, e⟩ => e.seqL (SqL.of hF.al)) ?_ ?_⟩
  · rintro i y σ H6 H7 hi ⟨u, v, rfl, e⟩ ⟨T1, a, b, rfl, hT, rfl, hia, hib⟩
    have hi' : i < c.n - 1 := by rw [hlF] at hi; exact hi
    obtain rfl : V.ref (F i) = b := Option.some.inj ((rvs_at hi').symm.trans hib)
    obtain ⟨H8, q_, e8, h8⟩ := new_ex (o := .tup [a, .ref (F i)]) hT
    rw [← q_]; clear q_
    have ex8 := e.trans e8
    refine ⟨T1, _, rfl, SqT.of h8, rfl, _, _, rfl, _, _, rfl, rfl, ?_⟩
    refine ⟨_, rfl, F i, _, _, _, rfl, rfl, SqT.of (ex8 _ _ (hF.ad i hi')), rfl, rfl, ?_⟩
    exact ⟨_, rfl, iteDF (neS e_anew) ⟨_, _, rfl, ex8⟩⟩
  rintro σ H6 ⟨u, v, rfl, e6⟩
  have e6' := e5.trans e6
  have hF6 := hF.ext e6
  refine ⟨_, rfl, _, rfl, ln, l, c, nr, F, rfl, ok, hn.ext e6', hF6, fun b H7 e7 hb hb7 => ?_⟩
  have hlb : (bvs c.n fun _ => true).length = c.n := by simp [bvs]
  refine ⟨b, _, rfl, SqL.of hb7, for_it (walk_enum (K := K) (a := b) (xs := bvs c.n fun _ => true)) (fun i σ H' => ∃ u u', σ = [some (.ref x), some (.ref ln), some (.ref la), u, w', some (.ref l), v, none, u'] ∧ Ex H7 H') ⟨_, _, rfl, Evl.Ex.refl _⟩ (fun i σ H' _ ⟨_, _, _, e⟩ => e.seqL (SqL.of hb7)) ?_ ?_⟩
  · rintro i y σ H8 H9 hi ⟨u, u', rfl, e⟩ ⟨T1, a, b', rfl, hT, rfl, hia, hib⟩
    have hi' : i < c.n := by rw [hlb] at hi; exact hi
    obtain rfl : V.bl true = b' := Option.some.inj ((bvs_at (f := fun _ => true) hi').symm.trans hib)
    obtain ⟨H10, q_, e10, h10⟩ := new_ex (o := .tup [a, .bl true]) hT
    rw [← q_]; clear q_
    refine ⟨T1, _, rfl, SqT.of h10, rfl, _, _, rfl, _, _, rfl, rfl, ?_⟩
    exact ⟨_, rfl, _, rfl, iteF ⟨_, _, rfl, e.trans e10⟩⟩
  rintro σ H8 ⟨u, u', rfl, e8⟩
  have e78 := e7.trans e8
  have e08 := e6'.trans e78
  have hn8 := hn.ext e08
  refine ⟨_, rfl, ln, _, rfl, .inl (SqL.of hn8.nl), fun m hm => ?_⟩
  have hF8 := hF6.ext e78
  obtain ⟨H9, q_, e9, h9⟩ := new_ex (o := .lst (rvs c.n nr)) hm
  rw [← q_]; clear q_
  have e09 := e08.trans e9
  have hx9 := e09 _ _ hx
  have hF9 := hF8.ext e9
  have hn9 := hn8.ext e9
  have eB := e0.trans e09
  refine ⟨_, rfl, x, _, dx, _, rfl, hx9, T.k_Way.cl, T.na_Way_own_nodes, (by show 0 < 1000; decide), ?_⟩
  refine ⟨_, rfl, _, rfl, x, _, dx, _, rfl, upd_same, T.k_Way.cl, T.na_Way_own_arrows, (by show 1 < 1000; decide), ?_⟩
  rw [upd_upd, pf0, pf2 (by decide +kernel), pf0]
  obtain ⟨H10, q_, e10, h10, f10⟩ := mut_ex (o := .ins (cWay K) dx [("own_nodes", .ref m), ("own_arrows", .ref l)]) eB n0
  rw [← q_]; clear q_
  refine kk _ e10 ⟨ok, m, l, nr, F, ⟨dx, h10⟩, ?_, ?_, fun k hk => ?_, fun k hk => ?_⟩
  · rw [f10 _ (ne_of h9 hx9 (by intro z; cases z))]; exact h9
  · rw [f10 _ (ne_of hF9.al hx9 (by intro z; cases z))]; exact hF9.al
  · rw [f10 _ (ne_of (hn9.nd k hk) hx9 (by intro z; cases z))]; exact hn9.nd k hk
  · rw [f10 _ (ne_of (hF9.ad k (by omega)) hx9 (by intro z; cases z))]; exact hF9.ad k (by omega)
end
end Ag
set_option maxHeartbeats 4000000
/-! The life of a chain, plain. -/
namespace Ag
variable {a : Int} {c : Chain}
theorem life_nn (ok : c.Ok) : ∀ k, k < c.n → 0 ≤ (life a c k).r ∧ 0 ≤ (life a c k).w ∧ 0 ≤ (life a c k).c
  | 0, h => by
    have hb := ok.bk 0 h
    have hm := ok.mk0
    unfold life
    cases hd : c.d 0 <;> rw [hd] at hb hm <;> simp [Deed.maker] at hm <;> simp [stepM]
    simp [Deed.ok] at hb
    omega
  | k + 1, h => by
    have ih := life_nn ok k (by omega)
    have hb := ok.bk (k + 1) h
    have ht := ok.tm k h
    unfold life
    cases hd : c.d (k + 1) <;> rw [hd] at hb <;> simp [stepM] <;> simp [Deed.ok] at hb <;> (try omega)
theorem read_pos (ok : c.Ok) {k : Nat} (hr : (c.d k).isRead = true) : 0 < k := by
  rcases Nat.eq_zero_or_pos k with h | h
  · subst h
    have := ok.mk0
    cases hd : c.d 0 <;> rw [hd] at hr this <;> simp [Deed.isRead, Deed.maker] at hr this
  · exact h
theorem life_succ (k : Nat) : life a c (k + 1) = stepM a (c.d (k + 1)) (c.t k) (life a c k) := rfl
theorem isRead_eq {d : Deed} (h : d.isRead = true) : d = .read := by cases d <;> simp [Deed.isRead] at h; rfl
theorem read_lt (ok : c.Ok) (ha : 1 ≤ a) {k : Nat} (hk : k < c.n) (hr : (c.d k).isRead = true) : (life a c k).r < (life a c k).w ∧ (life a c k).r < (life a c k).c ∧ (life a c k).r < a := by
  have hp := read_pos ok hr
  obtain ⟨j, rfl⟩ : ∃ j, k = j + 1 := ⟨k - 1, by omega⟩
  have nn := life_nn (a := a) ok j (by omega)
  have ht := ok.tm j hk
  rw [life_succ, isRead_eq hr]
  simp only [stepM]
  split <;> omega
/-- a read behind another deed sets its mark -/
theorem read_first (ok : c.Ok) {k : Nat} (hk : k + 1 < c.n) (hr : (c.d (k + 1)).isRead = true) (hn : (c.d k).isRead = false) : (life a c (k + 1)).r = 0 := by
  have nn := life_nn (a := a) ok k (by omega)
  have hb := ok.bk k (by omega)
  rw [life_succ, isRead_eq hr]
  simp only [stepM]
  rw [if_pos]
  cases k with
  | zero =>
    unfold life at nn ⊢
    have hm := ok.mk0
    cases hd : c.d 0 <;> rw [hd] at hn hb hm nn <;> simp [Deed.isRead, Deed.maker] at hn hm <;> simp [stepM] at nn ⊢
  | succ j =>
    rw [life_succ] at nn ⊢
    cases hd : c.d (j + 1) <;> rw [hd] at hn hb nn <;> simp [Deed.isRead] at hn <;> simp [stepM] at nn ⊢ <;> omega
theorem read_next (ok : c.Ok) (ha : 1 ≤ a) {k : Nat} (hk : k + 1 < c.n) (hr : (c.d (k + 1)).isRead = true) (hp : (c.d k).isRead = true) :
    (life a c (k + 1)).r = if a ≤ (life a c k).r + c.t k then 0 else (life a c k).r + c.t k := by
  have h := read_lt ok ha (by omega) hp
  rw [life_succ, isRead_eq hr]
  simp only [stepM]
  by_cases q : a ≤ (life a c k).r + c.t k
  · rw [if_pos (.inr (.inr q)), if_pos q]
  · rw [if_neg (by omega), if_neg q]
/-- the bits of a node's ages of read -/
def rN (a : Int) (c : Chain) (k : Nat) : Nat := (life a c k).r.toNat
def bitsF (a : Int) (c : Chain) (k : Nat) : Int := if (c.d k).isRead = true then 2 ^ rN a c k else 0
theorem rN_first (ok : c.Ok) {k : Nat} (hk : k + 1 < c.n) (hr : (c.d (k + 1)).isRead = true) (hn : (c.d k).isRead = false) : rN a c (k + 1) = 0 := by
  unfold rN; rw [read_first ok hk hr hn]; rfl
theorem rN_next (ok : c.Ok) (ha : 1 ≤ a) {k : Nat} (hk : k + 1 < c.n) (hr : (c.d (k + 1)).isRead = true) (hp : (c.d k).isRead = true) :
    rN a c (k + 1) = if a ≤ (rN a c k : Nat) + c.t k then 0 else rN a c k + (c.t k).toNat := by
  have nn := (life_nn (a := a) ok k (by omega)).1
  have tm := ok.tm k hk
  have e : ((rN a c k : Nat) : Int) = (life a c k).r := by unfold rN; omega
  unfold rN at e ⊢
  rw [read_next ok ha hk hr hp, e]
  split
  · rfl
  · omega
theorem rN_lt (ok : c.Ok) (ha : 1 ≤ a) {k : Nat} (hk : k < c.n) (hr : (c.d k).isRead = true) : ((rN a c k : Nat) : Int) < a := by
  have := read_lt ok ha hk hr
  have nn := (life_nn (a := a) ok k hk).1
  unfold rN
  omega
end Ag
set_option maxHeartbeats 4000000
/-! Ages of marks along the life, plain. -/
namespace Ag
variable {a : Int} {c : Chain}
/-- what a deed other than a read sets surely -/
def setA : Deed → Mark → Option Int
  | .make, _ => some 0
  | .touch, _ => some 0
  | .unpack b, .W => some b
  | .unpack _, _ => some 0
  | .setback b, .C => some 0
  | .setback b, _ => some b
  | .write, .R => none
  | .write, _ => some 0
  | .rename, .C => some 0
  | .rename, _ => none
  | .read, _ => none
def nearL (d : Deed) (L : List Mark) : List Int := L.filterMap (setA d)
def restL (d : Deed) (L : List Mark) : List Mark := L.filter fun m => (setA d m).isNone
theorem allL_cases {L : List Mark} (h : L ∈ allL) : L = [.R] ∨ L = [.W] ∨ L = [.R, .W] ∨ L = [.C] ∨ L = [.R, .C] ∨ L = [.W, .C] ∨ L = [.R, .W, .C] := by
  simpa [allL] using h
theorem rest_all {L : List Mark} (h : L ∈ allL) (d : Deed) (hr : restL d L ≠ []) : restL d L ∈ allL := by
  rcases allL_cases h with rfl | rfl | rfl | rfl | rfl | rfl | rfl <;> cases d <;> simp [restL, setA, allL] at hr ⊢
theorem rest_lt {L : List Mark} (h : L ∈ allL) (d : Deed) (hn : nearL d L ≠ []) : (restL d L).length < L.length := by
  rcases allL_cases h with rfl | rfl | rfl | rfl | rfl | rfl | rfl <;> cases d <;> simp [restL, nearL, List.filterMap, setA] at hn ⊢
theorem near_maker {L : List Mark} (h : L ∈ allL) {d : Deed} (hm : d.maker = true) : nearL d L ≠ [] := by
  rcases allL_cases h with rfl | rfl | rfl | rfl | rfl | rfl | rfl <;> cases d <;> simp [Deed.maker] at hm <;> simp [nearL, List.filterMap, setA]
theorem near_nn {L : List Mark} (h : L ∈ allL) {d : Deed} (ok : d.ok) (hn : nearL d L ≠ []) : 0 ≤ minL (nearL d L) := by
  rcases allL_cases h with rfl | rfl | rfl | rfl | rfl | rfl | rfl <;> cases d <;> simp [nearL, List.filterMap, setA, minL, Deed.ok] at hn ok ⊢ <;> omega
theorem age_nn (ok : c.Ok) {L : List Mark} (h : L ∈ allL) {k : Nat} (hk : k < c.n) : 0 ≤ age a c L k := by
  obtain ⟨h1, h2, h3⟩ := life_nn (a := a) ok k hk
  rcases allL_cases h with rfl | rfl | rfl | rfl | rfl | rfl | rfl <;> simp only [age, List.map, minL, Mark.of] <;> omega
theorem age_told (ok : c.Ok) (ha : 1 ≤ a) {L : List Mark} (h : L ∈ allL) {k : Nat} (hk : k < c.n) (hr : (c.d k).isRead = true) (hm : Mark.R ∈ L) : age a c L k = (rN a c k : Nat) := by
  obtain ⟨h1, h2, h3⟩ := read_lt ok ha hk hr
  have h4 := (life_nn (a := a) ok k hk).1
  have e : ((rN a c k : Nat) : Int) = (life a c k).r := by unfold rN; omega
  rw [e]
  rcases allL_cases h with rfl | rfl | rfl | rfl | rfl | rfl | rfl <;> simp at hm <;> simp only [age, List.map, minL, Mark.of] <;> omega
theorem life_zero : life a c 0 = stepM a (c.d 0) 0 ⟨0, 0, 0⟩ := rfl
theorem age_maker (ok : c.Ok) {L : List Mark} (h : L ∈ allL) : age a c L 0 = minL (nearL (c.d 0) L) := by
  have hm := ok.mk0
  unfold age
  rw [life_zero]
  cases hd : c.d 0 <;> rw [hd] at hm <;> simp [Deed.maker] at hm <;>
    rcases allL_cases h with rfl | rfl | rfl | rfl | rfl | rfl | rfl <;> simp [stepM, nearL, List.filterMap, setA, minL, Mark.of]
/-- all looks are set by the deed -/
theorem age_all (ok : c.Ok) {L : List Mark} (h : L ∈ allL) {k : Nat} (hk : k + 1 < c.n) (hr : restL (c.d (k + 1)) L = []) : age a c L (k + 1) = minL (nearL (c.d (k + 1)) L) := by
  unfold age
  rw [life_succ]
  cases hd : c.d (k + 1) <;> rw [hd] at hr <;>
    rcases allL_cases h with rfl | rfl | rfl | rfl | rfl | rfl | rfl <;> simp [restL, setA] at hr <;> simp [stepM, nearL, List.filterMap, setA, minL, Mark.of]
/-- some are -/
theorem age_some (ok : c.Ok) {L : List Mark} (h : L ∈ allL) {k : Nat} (hk : k + 1 < c.n) (hn : nearL (c.d (k + 1)) L ≠ []) (hr : restL (c.d (k + 1)) L ≠ []) :
    age a c L (k + 1) = (if age a c (restL (c.d (k + 1)) L) k + c.t k > minL (nearL (c.d (k + 1)) L) then minL (nearL (c.d (k + 1)) L) else age a c (restL (c.d (k + 1)) L) k + c.t k) := by
  unfold age
  rw [life_succ]
  cases hd : c.d (k + 1) <;> rw [hd] at hr hn <;>
    rcases allL_cases h with rfl | rfl | rfl | rfl | rfl | rfl | rfl <;> simp [restL, nearL, List.filterMap, setA] at hr hn <;> simp [stepM, restL, nearL, List.filterMap, setA, minL, Mark.of] <;> (try split) <;> omega
/-- none is -/
theorem age_none (ok : c.Ok) {L : List Mark} (h : L ∈ allL) {k : Nat} (hk : k + 1 < c.n) (hn : nearL (c.d (k + 1)) L = []) (ht : ¬ ((c.d (k + 1)).isRead = true ∧ Mark.R ∈ L)) :
    age a c L (k + 1) = age a c L k + c.t k := by
  unfold age
  rw [life_succ]
  cases hd : c.d (k + 1) <;> rw [hd] at hn ht <;>
    rcases allL_cases h with rfl | rfl | rfl | rfl | rfl | rfl | rfl <;> simp [nearL, List.filterMap, setA, Deed.isRead] at hn ht <;> simp [stepM, minL, Mark.of] <;> omega
theorem age_le (ok : c.Ok) (ha : a ≤ 2000) {L : List Mark} (h : L ∈ allL) {k : Nat} (hk : k < c.n) : age a c L k ≤ 100 + 100000000 * (k : Nat) := by
  have hh : ∀ k, k < c.n → (life a c k).r ≤ 100 + 100000000 * (k : Nat) ∧ (life a c k).w ≤ 100 + 100000000 * (k : Nat) ∧ (life a c k).c ≤ 100 + 100000000 * (k : Nat) := by
    intro k
    induction k with
    | zero =>
      intro hk
      have hb := ok.bk 0 hk
      rw [life_zero]
      cases hd : c.d 0 <;> rw [hd] at hb <;> simp [stepM, Deed.ok] at hb ⊢ <;> omega
    | succ k ih =>
      intro hk
      have ih := ih (by omega)
      have hb := ok.bk (k + 1) hk
      have ht := ok.tm k hk
      rw [life_succ]
      cases hd : c.d (k + 1) <;> rw [hd] at hb <;> simp [stepM, Deed.ok] at hb ⊢ <;> (try split) <;> omega
  obtain ⟨h1, h2, h3⟩ := hh k hk
  rcases allL_cases h with rfl | rfl | rfl | rfl | rfl | rfl | rfl <;> simp only [age, List.map, minL, Mark.of] <;> omega
end Ag
set_option maxHeartbeats 4000000
/-! Seldom: bits. -/
namespace Ag
open PySem PySem.Spec PyProof.Rows L2
open C8 (Cal Met Mak pe_c pe_mt pe_mt0 pe_mk pe_gc)
open Evl (Ex)
theorem p2 (m : Nat) : (2 : Int) ^ m = ((2 ^ m : Nat) : Int) := (Int.natCast_pow 2 m).symm
theorem p2_pos (m : Nat) : (0 : Int) < 2 ^ m := by
  rw [p2]
  have := Nat.two_pow_pos m
  omega
theorem p2_mul (m n : Nat) : (2 : Int) ^ m * 2 ^ n = 2 ^ (m + n) := by rw [p2, p2, p2, Nat.pow_add, Int.natCast_mul]
theorem p2_bits (m : Nat) : Builtin.Int.intBits ((2 : Int) ^ m) ≤ m + 1 := by
  rw [intBits_le_iff, p2, Int.natAbs_natCast]
  exact Nat.pow_lt_pow_right (by decide) (Nat.lt_succ_self m)
theorem p2_mod_lt {m n : Nat} (h : m < n) : (2 : Int) ^ m % (1 * 2 ^ n) = 2 ^ m := by
  rw [Int.one_mul]
  refine Int.emod_eq_of_lt (Int.le_of_lt (p2_pos m)) ?_
  rw [p2, p2]
  exact_mod_cast Nat.pow_lt_pow_right (by decide) h
theorem p2_mod_ge {m n : Nat} (h : n ≤ m) : (2 : Int) ^ m % (1 * 2 ^ n) = 0 := by
  rw [Int.one_mul]
  obtain ⟨d, rfl⟩ : ∃ d, m = n + d := ⟨m - n, by omega⟩
  rw [← p2_mul, Int.mul_emod_right]
theorem p2_div_lt {m n : Nat} (h : m < n) : (2 : Int) ^ m / 2 ^ n = 0 := by
  refine Int.ediv_eq_zero_of_lt (Int.le_of_lt (p2_pos m)) ?_
  rw [p2, p2]
  exact_mod_cast Nat.pow_lt_pow_right (by decide) h
theorem p2_div_ge {m n : Nat} (h : n ≤ m) : (2 : Int) ^ m / 2 ^ n = 2 ^ (m - n) := by
  obtain ⟨d, rfl⟩ : ∃ d, m = n + d := ⟨m - n, by omega⟩
  rw [← p2_mul, Int.mul_ediv_cancel_left _ (Int.ne_of_gt (p2_pos n)), Nat.add_sub_cancel_left]
theorem or0 {x : Int} (h : 0 ≤ x) : Builtin.bitOr x 0 = x := by
  rw [bitOr_nn h (Int.le_refl 0)]
  simp
  omega
theorem zor {x : Int} (h : 0 ≤ x) : Builtin.bitOr 0 x = x := by
  rw [bitOr_nn (Int.le_refl 0) h]
  simp
  omega
theorem oror {x : Int} (h : 0 ≤ x) : Builtin.bitOr x x = x := by
  rw [bitOr_nn h h, Nat.or_self]
  omega
theorem vne0 {x : Int} (h : 0 < x) : ¬ V.int x = V.int 0 := neI (by omega)
section
variable {P : Program} {w : World} {K : PySem.W.Frag} {mg : Str → Option Value} {base : Heap}
def sp_smeared : Sp := fun vs H Q _ => ∃ b m : Int, vs = [.int b, .int m] ∧ m = 1 ∧ Q (.int b) H
theorem c_smeared (T : Top K mg) : Cal P w K mg base 1 "smeared" sp_smeared [] := by
  refine mkCal T.d_smeared sc_smeared (fun _ _ _ _ _ _ us hl => match us, hl with | [_, _], _ => rfl) (fun vs H Q E h => by (obtain ⟨_, _, rfl, _⟩ := h; rfl)) (fun f cdv A outer s H vs Q E hr h => ?_)
  obtain ⟨b, m, rfl, rfl, k⟩ := h
  refine ⟨_, (pss_cons (ps_set (i := 2) sc_smeared.nd rfl (Or.inl rfl) pe_int)
    (pss_cons (ps_while PassesOwn.never (pt_cmpR op_lt (pv 2) (pv 1) (nomark _))
    (pss_cons (ps_set (i := 3) sc_smeared.nd rfl (Or.inl rfl) (pe_ifExp (pt_cmpR op_lt (pv 2) (pe_op op_sub (pv 1) (pv 2)) (nomark _)) (pv 2) (pe_op op_sub (pv 1) (pv 2))))
    (pss_cons (ps_set (i := 0) sc_smeared.nd rfl (Or.inl rfl) (pe_op op_or (pv 0) (pe_op op_shlW (pv 0) (pv 3))))
    (pss_one (ps_set (i := 2) sc_smeared.nd rfl (Or.inl rfl) (pe_op op_add (pv 2) (pv 3)))))))
    (pss_one (ps_ret (pv 0))))), ?_⟩
  refine ⟨fun m σ H' => σ = [some (.int b), some (.int 1), some (.int 1), none] ∧ H' = H, ⟨0, rfl, rfl⟩, ?_⟩
  rintro m σ H' ⟨rfl, rfl⟩
  refine ⟨_, rfl, _, rfl, _, _, rfl, rfl, _, rfl, iteDF (by decide) ?_⟩
  exact ⟨_, rfl, k⟩
def sp_passed : Sp := fun vs H Q _ => ∃ (r : Nat) (t a : Int), vs = [.int (2 ^ r), .int t, .int t, .int a] ∧ 1 ≤ t ∧ 1 ≤ a ∧ a ≤ 2000 ∧ (r : Int) < a ∧ Q (.int (2 ^ (if a ≤ (r : Nat) + t then 0 else r + t.toNat))) H
theorem c_passed (T : Top K mg) : Cal P w K mg base 2 "passed" sp_passed [] := by
  refine mkCal T.d_passed sc_passed (fun _ _ _ _ _ _ us hl => match us, hl with | [_, _, _, _], _ => rfl) (fun vs H Q E h => by (obtain ⟨_, _, _, rfl, _⟩ := h; rfl)) (fun f cdv A outer s H vs Q E hr h => ?_)
  obtain ⟨r, t, a, rfl, t1, a1, a2, hra, k⟩ := h
  refine ⟨_, (pss_cons (ps_set (i := 4) sc_passed.nd rfl (Or.inl rfl) (pe_ifExp (PW.pt (pw_or (pt_cmpR op_isN (pv 2) pe_non (nomark _)) (pw_or1 (pt_cmpR op_gt (pv 2) (pv 3) (nomark _))))) (pv 3) (pv 2)))
    (pss_cons (ps_if (pt_cmpR op_gt (pv 1) (pv 3) (nomark _)) (pss_one (ps_ret (pe_ifExp (pt_cmpR op_ne (pv 0) pe_int (nomark _)) pe_int pe_int))) pss_nil)
    (pss_cons (ps_set (i := 5) sc_passed.nd rfl (Or.inl rfl) (pe_op op_shlW (pe_c (c_smeared T) hr (by decide) (by rfl) (pa_cons (pv 0) (pa_cons (pe_op op_add (pe_op op_sub (pv 4) (pv 1)) pe_int) pa_nil))) (pv 1)))
    (pss_cons (ps_set (i := 6) sc_passed.nd rfl (Or.inl rfl) (pe_op op_mod (pv 5) (pe_op op_shlW pe_int (pv 3))))
    (pss_one (ps_ret (pe_op op_or (pv 6) (pe_callTy call_int1 (by rfl) T.n_int (by decide +kernel) (pa_cons (pe_or (pe_cmpR op_ne (pe_op op_shr (pv 5) (pv 3)) pe_int (nomark _)) (pe_one (pe_and (pe_cmpR op_isN (pv 2) pe_non (nomark _)) (pe_one (pe_cmpR op_ne (pv 0) pe_int (nomark _)))))) pa_nil))))))))), ?_⟩
  refine ⟨_, rfl, rfl, _, rfl, iteF ?_⟩
  refine ⟨_, rfl, _, rfl, _, _, rfl, rfl, ?_⟩
  by_cases q : t > a
  · refine ⟨_, rfl, iteDT q ?_⟩
    refine ⟨_, rfl, ?_⟩
    refine ⟨_, rfl, _, rfl, _, _, rfl, rfl, _, rfl, iteDT q ?_⟩
    refine ⟨_, rfl, rfl, _, rfl, iteNT (vne0 (p2_pos r)) ?_⟩
    rw [if_pos (by omega)] at k
    exact k
  · refine ⟨_, rfl, iteDF q ?_⟩
    refine ⟨_, rfl, ?_⟩
    refine ⟨_, rfl, _, rfl, _, _, rfl, rfl, _, rfl, iteDF q ?_⟩
    have hb := p2_bits r
    refine ⟨_, rfl, _, rfl, _, rfl, _, _, rfl, rfl, _, _, rfl, rfl, _, _, rfl, by omega, _, rfl, _, _, rfl, rfl, ⟨by omega, by omega⟩, ?_⟩
    dsimp only
    rw [p2_mul]
    have h1b : Builtin.Int.intBits 1 ≤ 1 := by decide
    refine ⟨_, rfl, _, rfl, _, _, rfl, rfl, ⟨by omega, by omega⟩, _, _, rfl, rfl, by rw [Int.one_mul]; exact p2_pos _, ?_⟩
    by_cases q2 : a ≤ (r : Nat) + t
    · dsimp only
      rw [p2_mod_ge (by omega)]
      rw [if_pos q2] at k
      refine ⟨_, rfl, _, rfl, _, rfl, _, _, rfl, rfl, by omega, ?_⟩
      dsimp only
      rw [p2_div_ge (by omega)]
      refine ⟨rfl, ?_⟩
      rw [decide_eq_false (vne0 (p2_pos _))]
      refine ⟨true, rfl, iteT ?_⟩
      refine .inr ⟨true, rfl, _, _, rfl, rfl, ?_⟩
      exact k
    · dsimp only
      rw [p2_mod_lt (by omega)]
      rw [if_neg q2] at k
      refine ⟨_, rfl, _, rfl, _, rfl, _, _, rfl, rfl, by omega, ?_⟩
      dsimp only
      rw [p2_div_lt (by omega)]
      refine ⟨rfl, ?_⟩
      refine ⟨false, rfl, iteF ?_⟩
      refine ⟨_, rfl, rfl, ?_⟩
      refine ⟨false, rfl, iteF ?_⟩
      refine .inr ⟨false, rfl, _, _, rfl, rfl, ?_⟩
      show Q (.int (Builtin.bitOr _ 0)) H
      rw [or0 (Int.le_of_lt (p2_pos _))]
      exact k
end
end Ag
set_option maxHeartbeats 4000000
/-! Seldom: bits, the walks behind. -/
namespace Ag
open PySem PySem.Spec PyProof.Rows L2
open C8 (Cal Met Mak pe_c pe_mt pe_mt0 pe_mk pe_gc)
open Evl (Ex)
def bv : Option Nat → Int
  | none => 0
  | some r => 2 ^ r
def oI : Option Nat → Option Int
  | none => none
  | some r => some (r : Nat)
theorem p2_odd : (2 : Int) ^ 0 % 2 = 1 := by decide
theorem p2_even (d : Nat) : (2 : Int) ^ (d + 1) % 2 = 0 := by
  have : (2 : Int) ^ (d + 1) = 2 ^ 1 * 2 ^ d := by rw [p2_mul, Nat.add_comm]
  rw [this, show (2 : Int) ^ 1 = 2 from rfl, Int.mul_emod_right]
section
variable {P : Program} {w : World} {K : PySem.W.Frag} {mg : Str → Option Value} {base : Heap}
def sp_stretches_of (K : PySem.W.Frag) : Sp := fun vs H Q _ => ∃ o : Option Nat, vs = [.int (bv o)] ∧ (∀ r, o = some r → r ≤ 2000) ∧ ∀ p H', Ex H H' → H p = none → StrAt K (dif H H') p (oI o) → Q (.ref p) H'
theorem c_stretches_of (T : Top K mg) : Cal P w K mg base 6 "stretches_of" (sp_stretches_of K) [] := by
  refine mkCal T.d_stretches_of sc_stretches_of (fun _ _ _ _ _ _ us hl => match us, hl with | [_], _ => rfl) (fun vs H Q E h => by (obtain ⟨_, rfl, _⟩ := h; rfl)) (fun f cdv A outer s H vs Q E hr h => ?_)
  obtain ⟨o, rfl, hor, k⟩ := h
  refine ⟨_, (pss_cons (ps_set (i := 1) sc_stretches_of.nd rfl (Or.inl rfl) (pe_lst pa_nil))
    (pss_cons (ps_set (i := 2) sc_stretches_of.nd rfl (Or.inl rfl) pe_int)
    (pss_cons (ps_while PassesOwn.never (pt_cmpR op_ne (pe_op op_shr (pv 0) (pv 2)) pe_int (nomark _))
    (pss_cons (ps_if (pt_cmpR op_eq (pe_op op_mod (pe_op op_shr (pv 0) (pv 2)) pe_int) pe_int (nomark _)) (pss_one (ps_expr (pe_bm PySem.F.plainAttrs_list PySem.F.slot_list_append PySem.F.type_list_append mt_append (pv 1) (pa_cons (pe_tup (pa_cons (pv 2) (pa_cons (pv 2) pa_nil))) pa_nil)))) pss_nil)
    (pss_one (ps_set (i := 2) sc_stretches_of.nd rfl (Or.inl rfl) (pe_op op_add (pv 2) pe_int)))))
    (pss_one (ps_ret (pe_mkSS (c_Stretches_init T) hr (by decide) (by rfl) (pv 1))))))), ?_⟩
  refine ⟨Nat.zero_le _, fun l hl => ?_⟩
  obtain ⟨H1, q_, e1, h1⟩ := new_ex (o := .lst []) hl
  rw [← q_]; clear q_
  cases o with
  | none =>
    refine ⟨fun m σ H' => σ = [some (.int 0), some (.ref l), some (.int 0)] ∧ H' = H1, ⟨0, rfl, rfl⟩, ?_⟩
    rintro m σ H' ⟨rfl, rfl⟩
    refine ⟨_, rfl, _, rfl, _, _, rfl, rfl, Int.le_refl _, rfl, _, rfl, iteNS rfl ?_⟩
    exact ⟨_, rfl, l, [], rfl, .inr (SqL.of h1), mkS_of (o := none) rfl (fun p H' e hp hs => k p H' (e1.trans e) (fr_of e1 hp) (hs.ext (dif_mono e1)))⟩
  | some r =>
    have hr2 := hor r rfl
    refine ⟨fun m σ H' => ∃ (i : Nat) (ys : List V), σ = [some (.int (2 ^ r)), some (.ref l), some (.int (i : Nat))] ∧ Ex H H' ∧ H' l = some (.lst ys) ∧ i ≤ r + 1 ∧ m = r + 1 - i ∧ ((i ≤ r ∧ ys = []) ∨ (i = r + 1 ∧ ∃ t, ys = [.ref t] ∧ H' t = some (.tup [.int (r : Nat), .int (r : Nat)]))),
      ⟨r + 1, 0, [], rfl, e1, h1, by omega, by omega, .inl ⟨by omega, rfl⟩⟩, ?_⟩
    rintro m σ H' ⟨i, ys, rfl, e, hl', hi, rfl, hc⟩
    refine ⟨_, rfl, _, rfl, _, _, rfl, rfl, by omega, ?_⟩
    dsimp only
    rw [Int.toNat_natCast]
    rcases hc with ⟨hi2, rfl⟩ | ⟨rfl, t, rfl, ht⟩
    · rw [p2_div_ge hi2]
      refine ⟨rfl, _, rfl, iteNT (vne0 (p2_pos _)) ?_⟩
      refine ⟨fun σ H2 => ∃ ys : List V, σ = [some (.int (2 ^ r)), some (.ref l), some (.int ((i : Nat) + 1))] ∧ Ex H H2 ∧ H2 l = some (.lst ys) ∧ ((i + 1 ≤ r ∧ ys = []) ∨ (i + 1 = r + 1 ∧ ∃ t, ys = [.ref t] ∧ H2 t = some (.tup [.int (r : Nat), .int (r : Nat)]))), ?_, ?_⟩
      · rintro σ' H2 ⟨ys, rfl, z1, z2, z3⟩
        exact ⟨r + 1 - (i + 1), by omega, i + 1, ys, rfl, z1, z2, by omega, rfl, z3⟩
      refine ⟨_, rfl, _, rfl, _, _, rfl, rfl, by omega, ?_⟩
      dsimp only
      rw [Int.toNat_natCast, p2_div_ge hi2]
      refine ⟨_, _, rfl, rfl, (by show (0 : Int) < 2; decide), ?_⟩
      dsimp only
      by_cases q : i = r
      · subst q
        rw [Nat.sub_self, p2_odd]
        refine ⟨rfl, _, rfl, iteDT rfl ?_⟩
        refine ⟨_, rfl, .inl ⟨rfl, _, SqL.of hl'⟩, _, rfl, _, rfl, szl (by simp), fun t ht => ?_⟩
        obtain ⟨H3, q_, e3, h3⟩ := new_ex (o := .tup [.int (i : Nat), .int (i : Nat)]) ht
        rw [← q_]; clear q_
        refine ⟨l, [], _, rfl, rfl, e3 _ _ hl', by decide, ?_⟩
        have eA := e.trans e3
        obtain ⟨H4, q_, e4, h4, f4⟩ := mut_ex (o := .lst ([] ++ [.ref t])) eA hl
        rw [← q_]; clear q_
        exact ⟨_, rfl, _, _, rfl, rfl, ⟨_, rfl, e4, h4, .inr ⟨rfl, t, rfl, by rw [f4 _ (ne_fr hl' ht).symm]; exact h3⟩⟩⟩
      · obtain ⟨d, hd⟩ : ∃ d, r - i = d + 1 := ⟨r - i - 1, by omega⟩
        rw [hd, p2_even]
        refine ⟨rfl, _, rfl, iteDF (neI (by decide)) ?_⟩
        exact ⟨_, rfl, _, _, rfl, rfl, ⟨_, rfl, e, hl', .inl ⟨by omega, rfl⟩⟩⟩
    · rw [p2_div_lt (by omega)]
      refine ⟨rfl, _, rfl, iteNS rfl ?_⟩
      exact ⟨_, rfl, l, _, rfl, .inr (SqL.of hl'), mkS_of (o := some (r : Nat)) ⟨by omega, t, rfl, ht⟩ (fun p H' e' hp hs => k p H' (e.trans e') (fr_of e hp) (hs.ext (dif_mono e)))⟩
end
end Ag
set_option maxHeartbeats 4000000
/-! Seldom: next_bits, bits_of, ages_of_read, all_ages. -/
namespace Ag
open PySem PySem.Spec PyProof.Rows L2
open C8 (Cal Met Mak pe_c pe_mt pe_mt0 pe_mk pe_gc)
open Evl (Ex)
theorem word_read {d : Deed} (h : d.isRead = true) : d.word = "read" := by rw [isRead_eq h]; rfl
theorem word_nread {d : Deed} (h : d.isRead = false) : ¬ d.word = "read" := by
  cases d with
  | read => simp [Deed.isRead] at h
  | unpack b => exact (by decide +kernel : ¬ (("unpack" : Str) = "read"))
  | setback b => exact (by decide +kernel : ¬ (("setback" : Str) = "read"))
  | _ => decide +kernel
theorem bitsF_nn (a : Int) (c : Chain) (k : Nat) : 0 ≤ bitsF a c k := by
  unfold bitsF
  split
  · exact Int.le_of_lt (p2_pos _)
  · exact Int.le_refl 0
theorem filt_le {n : Nat} {p : Nat → Bool} {i j x y : Nat} (h1 : ((List.range n).filter p)[i]? = some x) (h2 : ((List.range n).filter p)[j]? = some y) (h : i ≤ j) : x ≤ y := by
  have hp : ((List.range n).filter p).Pairwise (· < ·) := List.Pairwise.filter p List.pairwise_lt_range
  obtain ⟨i1, e1⟩ := List.getElem?_eq_some_iff.mp h1
  obtain ⟨j1, e2⟩ := List.getElem?_eq_some_iff.mp h2
  rcases Nat.lt_or_eq_of_le h with q | q
  · have := List.pairwise_iff_getElem.mp hp i j i1 j1 q
    omega
  · subst q
    omega
section
variable {P : Program} {w : World} {K : PySem.W.Frag} {mg : Str → Option Value} {base : Heap}
theorem WayAt.ob2 {H : Hp} {p : Addr} {c : Chain} (h : WayAt K H p c) : ∃ dx fs, H p = some (.ins (cWay K) dx fs) ∧ ∀ m : Str, ¬ m = "own_nodes" → ¬ m = "own_arrows" → fs.lookup m = none := by
  obtain ⟨ok, ln, la, nr, ar, ⟨dx, ob⟩, _⟩ := h
  exact ⟨dx, _, ob, fun m h1 h2 => (lk2 h1).trans ((lk2 h2).trans lk0)⟩
def sp_next_bits (K : PySem.W.Frag) : Sp := fun vs H Q _ => ∃ (p b : Addr) (c : Chain) (a : Int) (k : Nat) (g : Nat → Int), vs = [.ref p, .int a, .ref b, .int (k : Nat)] ∧ WayAt K H p c ∧ 1 ≤ a ∧ a ≤ 2000 ∧ k < c.n ∧ (c.d k).isRead = true ∧
  H b = some (.lst (ivs c.n g)) ∧ (g k = bitsF a c k ∨ g k = 0) ∧ (∀ j, k = j + 1 → (c.d j).isRead = true → g j = bitsF a c j) ∧ ∀ H', Ex H H' → Q (.int (bitsF a c k)) H'
theorem c_next_bits (T : Top K mg) : Cal P w K mg base 5 "next_bits" (sp_next_bits K) [] := by
  refine mkCal T.d_next_bits sc_next_bits (fun _ _ _ _ _ _ us hl => match us, hl with | [_, _, _, _], _ => rfl) (fun vs H Q E h => by (obtain ⟨_, _, _, _, _, _, rfl, _⟩ := h; rfl)) (fun f cdv A outer s H vs Q E hr h => ?_)
  obtain ⟨p, b, c, a, k, g, rfl, hw, a1, a2, hk, hrd, hb, hgk, hgj, kk⟩ := h
  refine ⟨_, (pss_cons (ps_set (i := 4) sc_next_bits.nd rfl (Or.inl rfl) (pe_ix ix_list (pv 2) (pv 3) (fun _ _ => rfl)))
    (pss_cons (ps_for PassesOwn.never rfl (pi_list (pe_mt (c_Way_into T) hr (by decide) (pv 0) (pa_cons (pv 3) pa_nil))) (pg_tup rfl (pgs_cons (pg_name (i := 5) sc_next_bits.nd rfl (by first | exact Or.inl rfl | exact Or.inr rfl)) (pgs_cons (pg_name (i := 6) sc_next_bits.nd rfl (by first | exact Or.inl rfl | exact Or.inr rfl)) (pgs_cons (pg_name (i := 7) sc_next_bits.nd rfl (by first | exact Or.inl rfl | exact Or.inr rfl)) (pgs_cons (pg_name (i := 8) sc_next_bits.nd rfl (by first | exact Or.inl rfl | exact Or.inr rfl)) (pgs_cons (pg_name (i := 9) sc_next_bits.nd rfl (by first | exact Or.inl rfl | exact Or.inr rfl)) pgs_nil))))))
    (pss_one (ps_if (pt_cmpR op_ne (pe_ix ix_tup (ix_own (c_Way_getitem T) hr (by decide) T.gi_Way (pv 0) (pv 5)) pe_int (fun _ _ => rfl)) pe_str (nomark _)) (pss_one (ps_set (i := 4) sc_next_bits.nd rfl (Or.inl rfl) (pe_op op_or (pv 4) pe_int))) (pss_one (ps_set (i := 4) sc_next_bits.nd rfl (Or.inl rfl) (pe_op op_or (pv 4) (pe_c (c_passed T) hr (by decide) (by rfl) (pa_cons (pe_ix ix_list (pv 2) (pv 5) (fun _ _ => rfl)) (pa_cons (pv 7) (pa_cons (pv 8) (pa_cons (pv 1) pa_nil)))))))))))
    (pss_one (ps_ret (pv 4))))), ?_⟩
  have ok := hw.1
  obtain ⟨j, rfl⟩ : ∃ j, k = j + 1 := ⟨k - 1, by have := read_pos ok hrd; omega⟩
  refine ⟨_, rfl, _, rfl, b, _, _, _, rfl, rfl, SqL.of hb, atI_nat (ivs_at hk), ?_⟩
  obtain ⟨dx, fs, ho, hfs⟩ := hw.ob2
  refine ⟨_, rfl, p, dx, fs, rfl, ho, hfs _ (by decide +kernel) (by decide +kernel), _, rfl, p, c, j + 1, rfl, hw, hk, fun l xs H1 e1 hl h1 hx => ?_⟩
  obtain ⟨ar, rfl, har⟩ : ∃ ar, xs = [.ref ar] ∧ H1 ar = some (.tup (av c j)) := by
    rcases hx with ⟨z, _⟩ | ⟨j', ar, z, h2, h3⟩
    · omega
    · obtain rfl : j = j' := by omega
      exact ⟨ar, h2, h3⟩
  have hgn : Builtin.bitOr (g (j + 1)) (bitsF a c (j + 1)) = bitsF a c (j + 1) := by
    rcases hgk with z | z
    · rw [z, oror (bitsF_nn _ _ _)]
    · rw [z, zor (bitsF_nn _ _ _)]
  refine ⟨l, rfl, ⟨_, SqL.of h1⟩, for_it (walk_list (K := K) (a := l) (xs := [.ref ar])) (fun i σ H' => ∃ u a1 a2 a3 a4 a5, σ = [some (.ref p), some (.int a), some (.ref b), some (.int ((j + 1 : Nat) : Int)), some (.int u), a1, a2, a3, a4, a5] ∧ H' = H1 ∧ u = (if i = 0 then g (j + 1) else bitsF a c (j + 1)))
    ⟨_, _, _, _, _, _, rfl, rfl, rfl⟩ (fun i σ H' _ ⟨_, _, _, _, _, _, _, z, _⟩ => by rw [z]; exact SqL.of h1) ?_ ?_⟩
  · rintro i x σ H2 H3 hi ⟨u, u1, u2, u3, u4, u5, rfl, rfl, hu0⟩ ⟨rfl, hx⟩
    obtain rfl : i = 0 := by
      have : i < 1 := hi
      omega
    rw [if_pos rfl] at hu0
    subst hu0
    obtain rfl : V.ref ar = x := by simpa using hx
    refine ⟨ar, _, rfl, SqT.of har, rfl, _, _, rfl, _, _, rfl, _, _, rfl, _, _, rfl, _, _, rfl, rfl, ?_⟩
    have hw1 := hw.ext e1
    refine ⟨_, rfl, _, rfl, p, dx, fs, rfl, e1 _ _ ho, p, c, j, rfl, hw1, by omega, fun t ht => ?_⟩
    refine ⟨t, _, _, _, rfl, rfl, SqT.of ht, (c.d j).hd, rfl, _, rfl, ?_⟩
    cases hp : (c.d j).isRead with
    | false =>
      refine iteNT (neS (word_nread hp)) ?_
      refine ⟨_, rfl, _, _, rfl, rfl, ?_⟩
      have e : bitsF a c (j + 1) = 1 := by unfold bitsF; rw [if_pos hrd, rN_first ok hk hrd hp]; rfl
      rw [e] at hgn
      refine ⟨_, _, _, _, _, _, rfl, rfl, ?_⟩
      rw [if_neg (by omega), e]
      exact hgn
    | true =>
      refine iteNS (by rw [word_read hp]) ?_
      have hgj1 := hgj j rfl hp
      have eb : bitsF a c j = 2 ^ rN a c j := by unfold bitsF; rw [if_pos hp]
      refine ⟨_, rfl, _, rfl, _, rfl, b, _, _, _, rfl, rfl, SqL.of (e1 _ _ hb), atI_nat (ivs_at (by omega)), _, rfl, _, rfl, _, rfl, rN a c j, c.t j, a, ?_, (ok.tm j hk).1, a1, a2, rN_lt ok a1 (by omega) hp, _, _, rfl, rfl, ?_⟩
      · rw [hgj1, eb]; rfl
      have e : bitsF a c (j + 1) = 2 ^ (if a ≤ (rN a c j : Nat) + c.t j then 0 else rN a c j + (c.t j).toNat) := by
        unfold bitsF; rw [if_pos hrd, rN_next ok a1 hk hrd hp]
      refine ⟨_, _, _, _, _, _, rfl, rfl, ?_⟩
      rw [if_neg (show ¬ (0 + 1 = 0) by omega), ← e]
      exact hgn
  · rintro σ H2 ⟨u, u1, u2, u3, u4, u5, rfl, rfl, hu0⟩
    rw [if_neg (by simp)] at hu0
    subst hu0
    exact ⟨_, rfl, kk _ e1⟩
theorem ok_toNat (n : Nat) : ((n : Nat) : Int).toNat = n := rfl
def sp_bits_of (K : PySem.W.Frag) : Sp := fun vs H Q _ => ∃ (p : Addr) (c : Chain) (a : Int), vs = [.ref p, .int a] ∧ WayAt K H p c ∧ 1 ≤ a ∧ a ≤ 2000 ∧ ∀ l H', Ex H H' → H l = none → H' l = some (.lst (ivs c.n (bitsF a c))) → Q (.ref l) H'
theorem c_bits_of (T : Top K mg) : Cal P w K mg base 6 "bits_of" (sp_bits_of K) [] := by
  refine mkCal T.d_bits_of sc_bits_of (fun _ _ _ _ _ _ us hl => match us, hl with | [_, _], _ => rfl) (fun vs H Q E h => by (obtain ⟨_, _, _, rfl, _⟩ := h; rfl)) (fun f cdv A outer s H vs Q E hr h => ?_)
  obtain ⟨p, c, a, rfl, hw, a1, a2, kk⟩ := h
  refine ⟨_, (pss_cons (ps_setLc (i := 2) (own := [("node", 3)]) (g := gName 3) rfl sc_bits_of.nd rfl rfl (sw_true rfl rfl rfl (by decide +kernel)) (pi_range1 (by rfl) T.n_range (pa_cons (pe_callB (call_lenI (c_Way_len T) hr (by decide)) (by rfl) T.n_len (by decide +kernel) (pa_cons (pv 0) pa_nil)) pa_nil)) (blkOk_by (N := N_bits_of) (sc := L2.defScope s_bits_of) (by decide +kernel)) (fun _ _ _ _ _ => (pg_name (i := 3) sc_bits_of.nd rfl (by first | exact Or.inl rfl | exact Or.inr rfl))) (fun _ _ _ _ _ => (pts_one (pt_cmpR op_eq (pe_ix (ixTK (K := K)) (ix_ownK (c_Way_getitem T) hr (by decide) T.gi_Way (pv 0) (pv 3)) pe_int (fun _ _ => rfl)) pe_str (nomark _)))) (fun _ _ _ _ _ => (pv 3)))
    (pss_cons (ps_setLc (i := 4) (own := [("node", 3)]) (g := gName 3) (tt := tYes) rfl sc_bits_of.nd rfl rfl (sw_true rfl rfl rfl (by decide +kernel)) (pi_range1 (by rfl) T.n_range (pa_cons (pe_callB (call_lenI (c_Way_len T) hr (by decide)) (by rfl) T.n_len (by decide +kernel) (pa_cons (pv 0) pa_nil)) pa_nil)) (blkOk_by (N := N_bits_of) (sc := L2.defScope s_bits_of) (by decide +kernel)) (fun _ _ _ _ _ => (pg_name (i := 3) sc_bits_of.nd rfl (by first | exact Or.inl rfl | exact Or.inr rfl))) (fun _ _ _ _ _ => pts_nil) (fun _ _ _ _ _ => pe_int))
    (pss_cons (ps_set (i := 5) sc_bits_of.nd rfl (Or.inl rfl) pe_bl)
    (pss_cons (ps_while PassesOwn.never (pt_val (pv 5))
    (pss_cons (ps_set (i := 5) sc_bits_of.nd rfl (Or.inl rfl) pe_bl)
    (pss_one (ps_for PassesOwn.never rfl (pi_list (pv 2)) (pg_name (i := 3) sc_bits_of.nd rfl (by first | exact Or.inl rfl | exact Or.inr rfl))
    (pss_cons (ps_set (i := 6) sc_bits_of.nd rfl (Or.inl rfl) (pe_c (c_next_bits T) hr (by decide) (by rfl) (pa_cons (pv 0) (pa_cons (pv 1) (pa_cons (pv 4) (pa_cons (pv 3) pa_nil))))))
    (pss_one (ps_if (pt_cmpR op_ne (pv 6) (pe_ix ix_list (pv 4) (pv 3) (fun _ _ => rfl)) (nomark _)) (pss_cons (ps_asg (pv 6) (pg_sub (pv 4) (pv 3) set_list))
    (pss_one (ps_set (i := 5) sc_bits_of.nd rfl (Or.inl rfl) pe_bl))) pss_nil)))))))
    (pss_one (ps_ret (pv 4))))))), ?_⟩
  have ok := hw.1
  have hle := ok.le
  obtain ⟨dx, fs, ho⟩ := hw.ins
  refine ⟨_, rfl, p, dx, fs, rfl, ho, p, c, rfl, hw, _, rfl, ⟨by omega, by omega⟩, _, rfl, by omega, by omega, fun D hD => ?_⟩
  refine lc_filt (walk_range (lo := 0) (n := c.n)) (fun i => (c.d i).isRead) (fun i => .int (i : Nat)) hD (by omega) (fun _ _ => trivial) ?_ ?_
  · rintro i x H1 H2 hi e ⟨rfl, hx⟩ R S h1 h2
    obtain rfl : x = V.int (i : Nat) := hx.trans (congrArg V.int (Int.zero_add _))
    refine ⟨rfl, ?_⟩
    have hw1 := hw.ext e
    refine ⟨_, rfl, _, rfl, p, dx, fs, rfl, e _ _ ho, p, c, i, rfl, hw1, hi, fun t ht => ?_⟩
    refine ⟨t, _, _, _, rfl, rfl, SqT.of ht, (c.d i).hd, rfl, _, rfl, ?_⟩
    cases hp : (c.d i).isRead with
    | true => exact iteDT (by rw [word_read hp]) ⟨_, rfl, h1 hp _ (Evl.Ex.refl _)⟩
    | false => exact iteDF (neS (word_nread hp)) (h2 hp _ (Evl.Ex.refl _))
  intro H1 e1 hl1
  have hw1 := hw.ext e1
  refine ⟨_, rfl, p, dx, fs, rfl, e1 _ _ ho, p, c, rfl, hw1, _, rfl, ⟨by omega, by omega⟩, _, rfl, by omega, by omega, fun B hB => ?_⟩
  refine lc_map (walk_range (lo := 0) (n := c.n)) (fun i => .int 0) hB (by omega) (fun _ _ => trivial) ?_ ?_
  · rintro i x H2 H3 hi e ⟨rfl, rfl⟩ R hR
    exact ⟨rfl, hR _ (Evl.Ex.refl _)⟩
  intro H2 e2 hl2
  have hB0 : H B = none := fr_of e1 hB
  have hD2 := e2 _ _ hl1
  have nDB : D ≠ B := ne_fr hl1 hB
  refine ⟨fun m σ H' => ∃ (g : Nat → Int) (b : Bool) (u1 u2 : Option V), σ = [some (.ref p), some (.int a), some (.ref D), u1, some (.ref B), some (.bl b), u2] ∧ Ex H H' ∧ H' D = H2 D ∧ H' B = some (.lst (ivs c.n g)) ∧
    (∀ j, j < c.n → g j = bitsF a c j ∨ g j = 0) ∧ ((m = 2 ∧ b = true) ∨ ((∀ j, j < c.n → g j = bitsF a c j) ∧ (m = 1 ∨ (m = 0 ∧ b = false)))),
    ⟨2, fun _ => 0, true, none, none, rfl, e1.trans e2, rfl, hl2, fun j _ => .inr rfl, .inl ⟨rfl, rfl⟩⟩, ?_⟩
  rintro m σ H3 ⟨g, b, u1, u2, rfl, e3, h3D, h3B, hg, hm⟩
  cases b with
  | false =>
    refine ⟨_, rfl, _, rfl, iteF ?_⟩
    have hs : ∀ j, j < c.n → g j = bitsF a c j := by
      rcases hm with ⟨_, z⟩ | ⟨z, _⟩
      · cases z
      · exact z
    refine ⟨_, rfl, kk B H3 e3 hB0 ?_⟩
    rw [h3B]
    congr 2
    apply List.map_congr_left
    intro k hk
    rw [hs k (by simpa using hk)]
  | true =>
    refine ⟨_, rfl, _, rfl, iteT ?_⟩
    refine ⟨fun σ H' => ∃ (g : Nat → Int) (b : Bool) (u1 u2 : Option V), σ = [some (.ref p), some (.int a), some (.ref D), u1, some (.ref B), some (.bl b), u2] ∧ Ex H H' ∧ H' D = H2 D ∧ H' B = some (.lst (ivs c.n g)) ∧
      (∀ j, j < c.n → g j = bitsF a c j) ∧ (m = 2 ∨ (m = 1 ∧ b = false)), ?_, ?_⟩
    · rintro σ' H' ⟨g, b, u1, u2, rfl, z1, z2, z3, z4, z5⟩
      rcases z5 with z5 | ⟨z5, z6⟩
      · exact ⟨1, by omega, g, b, u1, u2, rfl, z1, z2, z3, fun j hj => .inl (z4 j hj), .inr ⟨z4, .inl rfl⟩⟩
      · exact ⟨0, by omega, g, b, u1, u2, rfl, z1, z2, z3, fun j hj => .inl (z4 j hj), .inr ⟨z4, .inr ⟨rfl, z6⟩⟩⟩
    refine ⟨_, rfl, ?_⟩
    have hD3 : SqL K H3 D (((List.range c.n).filter fun i => (c.d i).isRead).map fun i => .int (i : Nat)) := SqL.of (by rw [h3D]; exact hD2)
    refine ⟨D, rfl, ⟨_, hD3⟩, for_it (walk_list (K := K) (a := D) (xs := ((List.range c.n).filter fun i => (c.d i).isRead).map fun i => .int (i : Nat))) (fun i σ H' => ∃ (g : Nat → Int) (b : Bool) (u1 u2 : Option V), σ = [some (.ref p), some (.int a), some (.ref D), u1, some (.ref B), some (.bl b), u2] ∧ Ex H H' ∧ H' D = H2 D ∧ H' B = some (.lst (ivs c.n g)) ∧
      (∀ j, j < c.n → g j = bitsF a c j ∨ g j = 0) ∧ (∀ j, j < c.n → (c.d j).isRead = true → (∀ i', i ≤ i' → ((List.range c.n).filter fun i => (c.d i).isRead)[i']? ≠ some j) → g j = bitsF a c j) ∧ (m = 2 ∨ (m = 1 ∧ b = false ∧ ∀ j, j < c.n → g j = bitsF a c j)))
      ⟨g, false, u1, u2, rfl, e3, h3D, h3B, hg, ?_, ?_⟩ ?_ ?_ ?_⟩
    · intro j hj hr' hno
      exfalso
      have : j ∈ (List.range c.n).filter fun i => (c.d i).isRead := by simp [hj, hr']
      obtain ⟨i', hi'⟩ := List.mem_iff_getElem?.mp this
      exact hno i' (Nat.zero_le _) hi'
    · rcases hm with ⟨z, _⟩ | ⟨z, z2⟩
      · exact .inl z
      · rcases z2 with z2 | ⟨_, z2⟩
        · exact .inr ⟨z2, rfl, z⟩
        · cases z2
    · rintro i σ H' _ ⟨g, b, u1, u2, _, _, z, _⟩
      exact SqL.of (by rw [z]; exact hD2)
    · rintro i x σ H4 H5 hi ⟨g, b, u1, u2, rfl, e4, h4D, h4B, hg, hgi, hm⟩ ⟨rfl, hx⟩
      obtain ⟨k, hk, rfl⟩ : ∃ k, ((List.range c.n).filter fun i => (c.d i).isRead)[i]? = some k ∧ V.int (k : Nat) = x := by
        rw [List.getElem?_map] at hx
        cases hq : ((List.range c.n).filter fun i => (c.d i).isRead)[i]? with
        | none => rw [hq] at hx; cases hx
        | some k =>
          rw [hq] at hx
          refine ⟨k, rfl, ?_⟩
          have := Option.some.inj hx
          exact this
      have hmem := List.mem_of_getElem? hk
      obtain ⟨hkn, hkr⟩ : k < c.n ∧ (c.d k).isRead = true := by simpa using hmem
      have hprev : ∀ j, k = j + 1 → (c.d j).isRead = true → g j = bitsF a c j := by
        intro j hj hjr
        refine hgi j (by omega) hjr fun i' hi' z => ?_
        have := filt_le hk z hi'
        omega
      refine ⟨_, rfl, _, rfl, _, rfl, _, rfl, p, B, c, a, k, g, rfl, hw.ext e4, a1, a2, hkn, hkr, h4B, hg k hkn, hprev, fun H6 e6 => ?_⟩
      have h6B := e6 _ _ h4B
      refine ⟨_, rfl, _, rfl, _, rfl, B, _, _, _, rfl, rfl, SqL.of h6B, atI_nat (ivs_at hkn), rfl, _, rfl, ?_⟩
      have e46 := e4.trans e6
      have h6D : H6 D = H2 D := by rw [← h4D]; rw [h4D]; exact (e6 _ _ (h4D.trans hD2)).trans hD2.symm
      by_cases q : bitsF a c k = g k
      · refine iteNS (by rw [q]) ?_
        refine ⟨g, b, _, _, rfl, e46, h6D, h6B, hg, fun j hj hjr hno => ?_, hm⟩
        by_cases qj : j = k
        · subst qj; exact q.symm
        · exact hgi j hj hjr fun i' hi' z => by
            rcases Nat.lt_or_eq_of_le hi' with y | y
            · exact hno i' (by omega) z
            · subst y; rw [hk] at z; exact qj (Option.some.inj z).symm
      · refine iteNT (neI q) ?_
        have hix : ixN (ivs c.n g).length ((k : Nat) : Int) = some k := by rw [ivs_len]; exact ixN_at hkn
        refine ⟨_, rfl, _, rfl, _, rfl, B, _, _, k, rfl, rfl, h6B, hix, ?_⟩
        obtain ⟨H7, q_, e7, h7, f7⟩ := mut_ex (o := .lst ((ivs c.n g).set k (.int (bitsF a c k)))) e46 hB0
        rw [← q_]; clear q_
        refine ⟨fun j => if j = k then bitsF a c k else g j, true, _, _, rfl, e7, (f7 _ nDB).trans h6D, ?_, fun j hj => ?_, fun j hj hjr hno => ?_, ?_⟩
        · rw [h7]
          congr 2
          unfold ivs
          rw [rng_set]
          apply List.map_congr_left
          intro j _
          by_cases qj : j = k
          · simp [qj]
          · simp [qj]
        · by_cases qj : j = k
          · simp [qj]
          · simpa [qj] using hg j hj
        · by_cases qj : j = k
          · simp [qj]
          · simp only [qj, if_false]
            exact hgi j hj hjr fun i' hi' z => by
              rcases Nat.lt_or_eq_of_le hi' with y | y
              · exact hno i' (by omega) z
              · subst y; rw [hk] at z; exact qj (Option.some.inj z).symm
        · rcases hm with z | ⟨z1, z2, z3⟩
          · exact .inl z
          · exact absurd (z3 k hkn).symm q
    · rintro σ H4 ⟨g, b, u1, u2, rfl, e4, h4D, h4B, hg, hgi, hm⟩
      refine ⟨g, b, u1, u2, rfl, e4, h4D, h4B, fun j hj => ?_, ?_⟩
      · cases hjr : (c.d j).isRead with
        | true =>
          refine hgi j hj hjr fun i' hi' z => ?_
          have h1 := (List.getElem?_eq_some_iff.mp z).1
          simp at hi'
          omega
        | false =>
          have : bitsF a c j = 0 := by unfold bitsF; rw [if_neg (by rw [hjr]; decide)]
          rcases hg j hj with z | z
          · exact z
          · rw [z, this]
      · rcases hm with z | ⟨z1, z2, z3⟩
        · exact .inl z
        · exact .inr ⟨z1, z2⟩
end
end Ag
set_option maxHeartbeats 4000000
/-! Seldom: ages_of_read, all_ages. -/
namespace Ag
open PySem PySem.Spec PyProof.Rows L2
open C8 (Cal Met Mak pe_c pe_mt pe_mt0 pe_mk pe_gc)
open Evl (Ex)
def oB (a : Int) (c : Chain) (k : Nat) : Option Nat := if (c.d k).isRead = true then some (rN a c k) else none
theorem bv_oB (a : Int) (c : Chain) (k : Nat) : bv (oB a c k) = bitsF a c k := by
  unfold oB bitsF
  split <;> rfl
theorem oB_le {a : Int} {c : Chain} {k : Nat} (ok : c.Ok) (a1 : 1 ≤ a) (a2 : a ≤ 2000) (hk : k < c.n) : ∀ r, oB a c k = some r → r ≤ 2000 := by
  intro r h
  unfold oB at h
  split at h
  · rename_i hr
    have := rN_lt ok a1 hk hr
    cases h
    omega
  · cases h
section
variable {P : Program} {w : World} {K : PySem.W.Frag} {mg : Str → Option Value} {base : Heap}
def sp_ages_of_read (K : PySem.W.Frag) : Sp := fun vs H Q _ => ∃ (p q : Addr) (c : Chain) (a : Int) (k : Nat), vs = [.ref p, .ref q, .int (k : Nat)] ∧ WayAt K H p c ∧ RuleAt K H q a ∧ 1 ≤ a ∧ a ≤ 2000 ∧ k < c.n ∧ (c.d k).isRead = true ∧
  ∀ l H', Ex H H' → H l = none → StrAt K (dif H H') l (some (rN a c k : Nat)) → Q (.ref l) H'
theorem RuleAt.ins {H : Hp} {p : Addr} {a : Int} (h : RuleAt K H p a) : ∃ dx fs, H p = some (.ins (cRule K) dx fs) := let ⟨dx, x⟩ := h; ⟨dx, _, x⟩
theorem c_ages_of_read (T : Top K mg) : Cal P w K mg base 7 "ages_of_read" (sp_ages_of_read K) [] := by
  refine mkCal T.d_ages_of_read sc_ages_of_read (fun _ _ _ _ _ _ us hl => match us, hl with | [_, _, _], _ => rfl) (fun vs H Q E h => by (obtain ⟨_, _, _, _, _, rfl, _⟩ := h; rfl)) (fun f cdv A outer s H vs Q E hr h => ?_)
  obtain ⟨p, q, c, a, k, rfl, hw, hq, a1, a2, hk, hrd, kk⟩ := h
  refine ⟨_, (pss_cons (ps_expr (pe_c (c_check_way T) hr (by decide) (by rfl) (pa_cons (pv 0) pa_nil)))
    (pss_cons (ps_expr (pe_c (c_check_rule T) hr (by decide) (by rfl) (pa_cons (pv 1) pa_nil)))
    (pss_cons (ps_if (pt_cmpR op_ne (pe_pr (c_Rule_word T) hr (by decide) (pv 1)) pe_str (nomark _)) (pss_one ps_never) pss_nil)
    (pss_cons (ps_expr (pe_c (c_check_node T) hr (by decide) (by rfl) (pa_cons (pv 0) (pa_cons (pv 2) pa_nil))))
    (pss_cons (ps_if (pt_cmpR op_ne (pe_ix ix_tup (ix_own (c_Way_getitem T) hr (by decide) T.gi_Way (pv 0) (pv 2)) pe_int (fun _ _ => rfl)) pe_str (nomark _)) (pss_one ps_never) pss_nil)
    (pss_one (ps_ret (pe_c (c_stretches_of T) hr (by decide) (by rfl) (pa_cons (pe_ix ix_list (pe_c (c_bits_of T) hr (by decide) (by rfl) (pa_cons (pv 0) (pa_cons (pe_pr (c_Rule_after T) hr (by decide) (pv 1)) pa_nil))) (pv 2) (fun _ _ => rfl)) pa_nil))))))))), ?_⟩
  obtain ⟨dx, fs, ho⟩ := hw.ins
  obtain ⟨dq, fq, hoq⟩ := hq.ins
  refine ⟨_, rfl, p, c, rfl, hw, _, rfl, q, a, rfl, hq, ?_⟩
  refine ⟨_, rfl, q, dq, fq, rfl, hoq, q, a, rfl, hq, rfl, _, rfl, iteNS rfl ?_⟩
  refine ⟨_, rfl, _, rfl, p, c, k, rfl, hw, hk, ?_⟩
  refine ⟨_, rfl, _, rfl, p, dx, fs, rfl, ho, p, c, k, rfl, hw, hk, fun t ht => ?_⟩
  refine ⟨t, _, _, _, rfl, rfl, SqT.of ht, (c.d k).hd, rfl, _, rfl, iteNS (by rw [word_read hrd]) ?_⟩
  refine ⟨_, rfl, _, rfl, q, dq, fq, rfl, hoq, q, a, rfl, hq, p, c, a, rfl, hw, a1, a2, fun l H1 e1 hl h1 => ?_⟩
  refine ⟨_, rfl, l, _, _, _, rfl, rfl, SqL.of h1, atI_nat (ivs_at hk), oB a c k, ?_, oB_le hw.1 a1 a2 hk, fun m H2 e2 hm hs => ?_⟩
  · rw [bv_oB]; rfl
  · refine kk m H2 (e1.trans e2) (fr_of e1 hm) ?_
    have : oI (oB a c k) = some ((rN a c k : Nat) : Int) := by unfold oB; rw [if_pos hrd]; rfl
    rw [← this]
    exact hs.ext (dif_mono e1)
def sp_all_ages (K : PySem.W.Frag) : Sp := fun vs H Q _ => ∃ (p q : Addr) (c : Chain) (a : Int), vs = [.ref p, .ref q] ∧ WayAt K H p c ∧ RuleAt K H q a ∧ 1 ≤ a ∧ a ≤ 2000 ∧
  ∀ l F H', Ex H H' → H l = none → H' l = some (.lst ((List.range c.n).map F)) → (∀ i, i < c.n → ∃ m, F i = .ref m ∧ StrAt K H' m (oI (oB a c i))) → Q (.ref l) H'
theorem c_all_ages (T : Top K mg) : Cal P w K mg base 7 "all_ages" (sp_all_ages K) [] := by
  refine mkCal T.d_all_ages sc_all_ages (fun _ _ _ _ _ _ us hl => match us, hl with | [_, _], _ => rfl) (fun vs H Q E h => by (obtain ⟨_, _, _, _, rfl, _⟩ := h; rfl)) (fun f cdv A outer s H vs Q E hr h => ?_)
  obtain ⟨p, q, c, a, rfl, hw, hq, a1, a2, kk⟩ := h
  refine ⟨_, (pss_cons (ps_if (pt_cmpR op_ne (pe_pr (c_Rule_word T) hr (by decide) (pv 1)) pe_str (nomark _)) (pss_one ps_never) pss_nil)
    (pss_one (ps_ret (pe_lc (own := [("bits", 3)]) (g := gName 3) (tt := tYes) rfl sc_all_ages.nd (pi_list (pe_c (c_bits_of T) hr (by decide) (by rfl) (pa_cons (pv 0) (pa_cons (pe_pr (c_Rule_after T) hr (by decide) (pv 1)) pa_nil)))) (blkOk_by (N := N_all_ages) (sc := L2.defScope s_all_ages) (by decide +kernel)) (fun _ _ _ _ _ => (pg_name (i := 3) sc_all_ages.nd rfl (by first | exact Or.inl rfl | exact Or.inr rfl))) (fun _ _ _ _ _ => pts_nil) (fun _ _ _ _ _ => (pe_c (c_stretches_of T) hr (by decide) (by rfl) (pa_cons (pv 3) pa_nil))))))), ?_⟩
  have hle := hw.1.le
  obtain ⟨dx, fs, ho⟩ := hw.ins
  obtain ⟨dq, fq, hoq⟩ := hq.ins
  refine ⟨_, rfl, q, dq, fq, rfl, hoq, q, a, rfl, hq, rfl, _, rfl, iteNS rfl ?_⟩
  refine ⟨_, rfl, _, rfl, q, dq, fq, rfl, hoq, q, a, rfl, hq, p, c, a, rfl, hw, a1, a2, fun l H1 e1 hl h1 => ?_⟩
  refine ⟨l, rfl, ⟨_, SqL.of h1⟩, fun D hD => ?_⟩
  have hlen : (ivs c.n (bitsF a c)).length = c.n := ivs_len _ _
  refine lc_rel (walk_list (K := K) (a := l) (xs := ivs c.n (bitsF a c))) (fun i H v => ∃ m, v = .ref m ∧ StrAt K H m (oI (oB a c i))) (fun i H H' v e z => let ⟨m, x, y⟩ := z; ⟨m, x, y.ext e⟩) hD (by omega) (fun H e => e.seqL (SqL.of h1)) ?_ ?_
  · rintro i x H2 H3 hi e ⟨acc, hacc⟩ ⟨rfl, hx⟩ R hR
    have hi' : i < c.n := by rw [hlen] at hi; exact hi
    obtain rfl : V.int (bitsF a c i) = x := Option.some.inj ((ivs_at hi').symm.trans hx)
    refine ⟨rfl, _, rfl, oB a c i, ?_, oB_le hw.1 a1 a2 hi', fun m H4 e4 hm hs => ?_⟩
    · rw [bv_oB]; rfl
    · exact hR _ _ e4 ⟨m, rfl, hs.ext (dif_del hacc)⟩
  · rintro H2 F e2 hF hP
    rw [hlen] at hF hP
    exact kk D F H2 (e1.trans e2) (fr_of e1 hD) hF fun i hi => let ⟨m, x, y⟩ := hP i hi; ⟨m, x, y.ext del_ex⟩
end
end Ag
set_option maxHeartbeats 4000000
/-! Ages: the small methods. -/
namespace Ag
open PySem PySem.Spec PyProof.Rows L2
open C8 (Cal Met Mak pe_c pe_mt pe_mt0 pe_mk pe_gc)
open Evl (Ex)
theorem valV_set (d : Deed) (m : Mark) : valV (dkv (backsM d)) (Sum.inr m.s) = (setA d m).map V.int := by
  cases d <;> cases m <;> rfl
theorem Mark.s_inj {m m' : Mark} (h : m.s = m'.s) : m = m' := by
  revert h
  cases m <;> cases m' <;> first | (intro _; rfl) | (intro h; exact absurd h (by simp only [Mark.s]; decide +kernel))
theorem inV_lv (m : Mark) (L : List Mark) : inV (.str m.s) (lv L) = decide (m ∈ L) := by
  have e : lv L = (L.map Mark.s).map V.str := by simp [lv]
  rw [e, inV_str]
  by_cases h : m ∈ L
  · rw [decide_eq_true h, decide_eq_true]
    exact List.mem_map.mpr ⟨m, h, rfl⟩
  · rw [decide_eq_false h, decide_eq_false]
    intro z
    obtain ⟨m', h1, h2⟩ := List.mem_map.mp z
    rw [Mark.s_inj h2] at h1
    exact h h1
theorem flat_lv (L : List Mark) : (lv L).all flatV = true := by simp [lv, flatV]
theorem rng_getD {α : Type} (L : List α) (x : α) : (List.range L.length).map (fun i => L.getD i x) = L := by
  apply List.ext_getElem?
  intro i
  by_cases h : i < L.length
  · simp [h]
  · simp [h]
theorem filt_getD {α β : Type} (L : List α) (x : α) (p : α → Bool) (f : α → β) : ((List.range L.length).filter fun i => p (L.getD i x)).map (fun i => f (L.getD i x)) = (L.filter p).map f := by
  have h : (L.filter p).map f = (((List.range L.length).map fun i => L.getD i x).filter p).map f := by rw [rng_getD]
  rw [h, List.filter_map, List.map_map]
  rfl
theorem lv_at {L : List Mark} {i : Nat} {x : V} (h : (lv L)[i]? = some x) : x = .str (L.getD i .R).s ∧ i < L.length := by
  unfold lv at h
  rw [List.getElem?_map] at h
  cases q : L[i]? with
  | none => rw [q] at h; cases h
  | some m =>
    rw [q] at h
    have hi := (List.getElem?_eq_some_iff.mp q).1
    refine ⟨?_, hi⟩
    rw [List.getD_eq_getElem?_getD, q]
    exact (Option.some.inj h).symm
theorem allL_len {L : List Mark} (h : L ∈ allL) : L.length ≤ 3 ∧ 1 ≤ L.length := by
  rcases allL_cases h with rfl | rfl | rfl | rfl | rfl | rfl | rfl <;> simp
def lk (L : List Mark) : List Key := L.map fun m => Sum.inr m.s
theorem lk_kV (L : List Mark) : (lk L).map kV = lv L := by simp [lk, lv, kV]
theorem lk_inj {L M : List Mark} (h : lk L = lk M) : L = M := by
  induction L generalizing M with
  | nil => cases M with
    | nil => rfl
    | cons _ _ => simp [lk] at h
  | cons m L ih => cases M with
    | nil => simp [lk] at h
    | cons m' M =>
      have h' : (Sum.inr m.s : Key) :: lk L = Sum.inr m'.s :: lk M := h
      injection h' with h1 h2
      rw [ih h2, Mark.s_inj (Sum.inr.inj h1)]
/-- the memo's rows are right -/
def KeptOk (H : Hp) (c : Chain) (a : Int) (kvs : List (List Key × V)) : Prop := ∀ L v, valV kvs (lk L) = some v → ∃ t, v = .ref t ∧ H t = some (.lst (ivs c.n (age a c L)))
structure AgIs (K : PySem.W.Frag) (H : Hp) (c : Chain) (a : Int) (p wa ru l d dx : Addr) (F : Nat → V) (kvs : List (List Key × V)) : Prop where
  ob : del H d p = some (.ins (cAges K) dx [("way", .ref wa), ("rule", .ref ru), ("read_ages", .ref l), ("kept", .ref d)])
  wy : WayAt K (del H d) wa c
  rl : RuleAt K (del H d) ru a
  ra : del H d l = some (.lst ((List.range c.n).map F))
  rs : ∀ i, i < c.n → ∃ m, F i = .ref m ∧ StrAt K (del H d) m (oI (oB a c i))
  kp : H d = some (.dT kvs)
  kk : KeptOk (del H d) c a kvs
  a1 : 1 ≤ a
  a2 : a ≤ 2000
theorem KeptOk.ext {H H' : Hp} {c : Chain} {a : Int} {kvs : List (List Key × V)} (e : Ex H H') (h : KeptOk H c a kvs) : KeptOk H' c a kvs := fun L v hv => let ⟨t, x, y⟩ := h L v hv; ⟨t, x, e _ _ y⟩
section
variable {K : PySem.W.Frag} {H H' : Hp} {c : Chain} {a : Int} {p wa ru l d dx : Addr} {F : Nat → V} {kvs kvs' : List (List Key × V)}
theorem AgIs.step (e : Ex (del H d) (del H' d)) (hk : H' d = some (.dT kvs')) (ho : KeptOk (del H' d) c a kvs') (h : AgIs K H c a p wa ru l d dx F kvs) : AgIs K H' c a p wa ru l d dx F kvs' :=
  ⟨e _ _ h.ob, h.wy.ext e, h.rl.ext e, e _ _ h.ra, fun i hi => let ⟨m, x, y⟩ := h.rs i hi; ⟨m, x, y.ext e⟩, hk, ho, h.a1, h.a2⟩
theorem AgIs.ext (e : Ex H H') (h : AgIs K H c a p wa ru l d dx F kvs) : AgIs K H' c a p wa ru l d dx F kvs := h.step (del_mono e) (e _ _ h.kp) (h.kk.ext (del_mono e))
theorem AgIs.ob' (h : AgIs K H c a p wa ru l d dx F kvs) : H p = some (.ins (cAges K) dx [("way", .ref wa), ("rule", .ref ru), ("read_ages", .ref l), ("kept", .ref d)]) := del_ex _ _ h.ob
theorem AgIs.wy' (h : AgIs K H c a p wa ru l d dx F kvs) : WayAt K H wa c := h.wy.ext del_ex
theorem AgIs.rl' (h : AgIs K H c a p wa ru l d dx F kvs) : RuleAt K H ru a := h.rl.ext del_ex
end
theorem lkR {u v w x : V} : ([("way", u), ("rule", v), ("read_ages", w), ("kept", x)] : List (Str × V)).lookup ("rule" : Str) = some v := (lk2 (by decide +kernel)).trans (lk1 rfl)
theorem lkA {u v w x : V} : ([("way", u), ("rule", v), ("read_ages", w), ("kept", x)] : List (Str × V)).lookup ("read_ages" : Str) = some w := (lk2 (by decide +kernel)).trans ((lk2 (by decide +kernel)).trans (lk1 rfl))
theorem lkK {u v w x : V} : ([("way", u), ("rule", v), ("read_ages", w), ("kept", x)] : List (Str × V)).lookup ("kept" : Str) = some x := (lk2 (by decide +kernel)).trans ((lk2 (by decide +kernel)).trans ((lk2 (by decide +kernel)).trans (lk1 rfl)))
theorem lkN {u v w x : V} {m : Str} (h1 : ¬ m = "way") (h2 : ¬ m = "rule") (h3 : ¬ m = "read_ages") (h4 : ¬ m = "kept") : ([("way", u), ("rule", v), ("read_ages", w), ("kept", x)] : List (Str × V)).lookup m = none := (lk2 h1).trans ((lk2 h2).trans ((lk2 h3).trans ((lk2 h4).trans lk0)))
section
variable {P : Program} {w : World} {K : PySem.W.Frag} {mg : Str → Option Value} {base : Heap}
def sp_surely_set (K : PySem.W.Frag) : Sp := fun vs H Q _ => ∃ (p q : Addr) (c : Chain) (a : Int) (k : Nat), vs = [.ref p, .ref q, .int (k : Nat)] ∧ WayAt K H p c ∧ RuleAt K H q a ∧ k < c.n ∧
  ∀ s H', Ex H H' → H s = none → H' s = some (.dK (dkv (backsM (c.d k)))) → Q (.ref s) H'
theorem c_surely_set (T : Top K mg) : Cal P w K mg base 6 "surely_set" (sp_surely_set K) [] := by
  refine mkCal T.d_surely_set sc_surely_set (fun _ _ _ _ _ _ us hl => match us, hl with | [_, _, _], _ => rfl) (fun vs H Q E h => by (obtain ⟨_, _, _, _, _, rfl, _⟩ := h; rfl)) (fun f cdv A outer s H vs Q E hr h => ?_)
  obtain ⟨p, q, c, a, k, rfl, hw, hq, hk, kk⟩ := h
  refine ⟨_, (pss_cons (ps_set (i := 3) sc_surely_set.nd rfl (Or.inl rfl) (ix_own (c_Way_getitem T) hr (by decide) T.gi_Way (pv 0) (pv 2)))
    (pss_cons (ps_if (pt_cmpR op_eq (pe_ix ix_tup (pv 3) pe_int (fun _ _ => rfl)) pe_str (nomark _)) (pss_one (ps_ret (pe_ifExp (pt_cmpR op_eq (pe_pr (c_Rule_word T) hr (by decide) (pv 1)) pe_str (nomark _)) (pe_disp (pps_cons pe_str pe_int pps_nil) (by rfl) (by rfl) (fun z => by cases z) (by decide)) pe_dnewK))) pss_nil)
    (pss_one (ps_ret (pe_c (c_backs T) hr (by decide) (by rfl) (pa_cons (pv 3) pa_nil)))))), ?_⟩
  obtain ⟨dx, fs, ho⟩ := hw.ins
  obtain ⟨dq, fq, hoq⟩ := hq.ins
  refine ⟨_, rfl, _, rfl, p, dx, fs, rfl, ho, p, c, k, rfl, hw, hk, fun t ht => ?_⟩
  refine ⟨_, rfl, t, _, _, _, rfl, rfl, SqT.of ht, (c.d k).hd, rfl, _, rfl, ?_⟩
  cases hp : (c.d k).isRead with
  | true =>
    refine iteDT (by rw [word_read hp]) ?_
    refine ⟨_, rfl, q, dq, fq, rfl, hoq, q, a, rfl, hq, rfl, _, rfl, iteDF (neS (by decide +kernel)) fun s hs => ?_⟩
    refine kk s _ (Evl.Ex.new hs) hs ?_
    rw [upd_same, isRead_eq hp]
    rfl
  | false =>
    refine iteDF (neS (word_nread hp)) ?_
    exact ⟨_, rfl, t, c.d k, rfl, ht, hw.1.bk k hk, fun s H' e hs h => kk s H' e hs h⟩
def sp_is_more : Sp := fun vs H Q _ => ∃ x y : Int, vs = [.int x, .int y] ∧ Q (.bl (decide (x > y))) H
theorem c_is_more (T : Top K mg) : Cal P w K mg base 1 "is_more" sp_is_more [] := by
  refine mkCal T.d_is_more sc_is_more (fun _ _ _ _ _ _ us hl => match us, hl with | [_, _], _ => rfl) (fun vs H Q E h => by (obtain ⟨_, _, rfl, _⟩ := h; rfl)) (fun f cdv A outer s H vs Q E hr h => ?_)
  obtain ⟨x, y, rfl, k⟩ := h
  refine ⟨_, (pss_cons (ps_if (pt_cmpR op_isN (pv 1) pe_non (nomark _)) (pss_one (ps_ret pe_bl)) pss_nil)
    (pss_one (ps_ret (pe_or (pe_cmpR op_isN (pv 0) pe_non (nomark _)) (pe_one (pe_cmpR op_gt (pv 0) (pv 1) (nomark _))))))), ?_⟩
  refine ⟨_, rfl, rfl, _, rfl, iteF ?_⟩
  refine ⟨_, rfl, rfl, false, rfl, iteF ?_⟩
  exact ⟨_, rfl, _, rfl, _, _, rfl, rfl, k⟩
def sp_is_told (K : PySem.W.Frag) : Sp := fun vs H Q _ => ∃ (p wa ru l d dx t : Addr) (c : Chain) (a : Int) (F : Nat → V) (kvs : List (List Key × V)) (k : Nat) (L : List Mark), vs = [.ref p, .ref t, .int (k : Nat)] ∧ AgIs K H c a p wa ru l d dx F kvs ∧ k < c.n ∧ H t = some (.tup (lv L)) ∧
  Q (.bl ((c.d k).isRead && decide (Mark.R ∈ L))) H
theorem c_Ages_is_told (T : Top K mg) : Met P w K mg base 5 (cAges K) "is_told" (sp_is_told K) [] := by
  refine mkMet T.k_Ages.cl T.m_Ages_is_told sc_Ages_is_told (fun _ _ _ _ _ _ us hl => match us, hl with | [_, _, _], _ => rfl) (fun vs H Q E h => by (obtain ⟨_, _, _, _, _, _, _, _, _, _, _, _, _, rfl, _⟩ := h; rfl)) (fun f cdv A outer s H vs Q E hr h => ?_)
  obtain ⟨p, wa, ru, l, d, dx, t, c, a, F, kvs, k, L, rfl, hA, hk, ht, kk⟩ := h
  refine ⟨_, (pss_one (ps_ret (pe_and (pe_cmpR op_eq (pe_pr (c_Rule_word T) hr (by decide) (pe_fld (pv 0) rfl)) pe_str (nomark _)) (pe_and (pe_cmpR op_eq (pe_ix ix_tup (ix_own (c_Way_getitem T) hr (by decide) T.gi_Way (pe_fld (pv 0) rfl) (pv 2)) pe_int (fun _ _ => rfl)) pe_str (nomark _)) (pe_one (pe_cmpR op_in_seq pe_str (pv 1) (by rfl))))))), ?_⟩
  obtain ⟨dw, fw, how⟩ := hA.wy'.ins
  obtain ⟨dq, fq, hoq⟩ := hA.rl'.ins
  refine ⟨_, rfl, p, _, dx, _, _, rfl, hA.ob', T.k_Ages.cl, T.na_Ages_rule, lkR, ru, dq, fq, rfl, hoq, ru, a, rfl, hA.rl', rfl, true, rfl, iteT ?_⟩
  refine ⟨_, rfl, p, _, dx, _, _, rfl, hA.ob', T.k_Ages.cl, T.na_Ages_way, lk1 rfl, _, rfl, wa, dw, fw, rfl, how, wa, c, k, rfl, hA.wy', hk, fun n hn => ?_⟩
  refine ⟨n, _, _, _, rfl, rfl, SqT.of hn, (c.d k).hd, rfl, ?_⟩
  cases hp : (c.d k).isRead with
  | true =>
    rw [hp] at kk
    rw [decide_eq_true (congrArg V.str (word_read hp))]
    refine ⟨true, rfl, iteT ?_⟩
    refine ⟨_, rfl, _, _, rfl, .inr (SqT.of ht), rfl, flat_lv L, ?_⟩
    show Q (.bl (inV (.str Mark.R.s) (lv L))) H
    rw [inV_lv]
    exact kk
  | false =>
    rw [hp] at kk
    rw [decide_eq_false (neS (word_nread hp))]
    exact ⟨false, rfl, iteF kk⟩
end
end Ag
set_option maxHeartbeats 4000000
/-! Ages: rest_of, nearest, arriving. -/
namespace Ag
open PySem PySem.Spec PyProof.Rows L2
open C8 (Cal Met Mak pe_c pe_mt pe_mt0 pe_mk pe_gc)
open Evl (Ex)
theorem lv_len (L : List Mark) : (lv L).length = L.length := by simp [lv]
theorem nearL_eq (d : Deed) : ∀ L : List Mark, nearL d L = (L.filter fun m => (setA d m).isSome).map fun m => (setA d m).getD 0
  | [] => rfl
  | m :: L => by
    have ih := nearL_eq d L
    unfold nearL at ih ⊢
    cases h : setA d m with
    | none => simp [List.filterMap_cons, h, ih]
    | some b => simp [List.filterMap_cons, h, ih]
theorem minL_mem : ∀ {ns : List Int}, ns ≠ [] → minL ns ∈ ns
  | [a], _ => by simp [minL]
  | a :: b :: r, _ => by
    have ih := minL_mem (ns := b :: r) (by simp)
    simp only [minL]
    rcases Int.le_total a (minL (b :: r)) with h | h
    · rw [Int.min_eq_left h]; simp
    · rw [Int.min_eq_right h]; exact List.mem_cons_of_mem _ ih
theorem minL_le : ∀ {ns : List Int} {y : Int}, y ∈ ns → minL ns ≤ y
  | [a], y, h => by simp at h; simp [minL, h]
  | a :: b :: r, y, h => by
    simp only [minL]
    rcases List.mem_cons.mp h with h | h
    · subst h; exact Int.min_le_left _ _
    · exact Int.le_trans (Int.min_le_right _ _) (minL_le h)
theorem minL_uni {ns : List Int} {m : Int} (h : m ∈ ns) (hle : ∀ y, y ∈ ns → m ≤ y) : m = minL ns := by
  have hne : ns ≠ [] := fun z => by rw [z] at h; cases h
  have h1 := hle _ (minL_mem hne)
  have h2 := minL_le h
  omega
def nearV (ns : List Int) : V := if ns = [] then .non else .int (minL ns)
theorem ints_dp {K : PySem.W.Frag} {H : Hp} : ∀ ns : List Int, DpAll K H (ns.map V.int) (ns.map PyData.int)
  | [] => .nil
  | n :: ns => .cons (.int n) (ints_dp ns)
theorem ints_layA : ∀ ns : List Int, PyData.canLayAll0 (ns.map PyData.int) = true
  | [] => by simp [PyData.canLayAll0]
  | n :: ns => by simp [PyData.canLayAll0, PyData.canLay0, ints_layA ns]
theorem ints_depthA : ∀ ns : List Int, PyData.depthAll (ns.map PyData.int) = 0
  | [] => by simp [PyData.depthAll]
  | n :: ns => by simp [PyData.depthAll, PyData.depth, ints_depthA ns]
theorem ints_sh (ns : List Int) : SeqAt.shaped (.list (ns.map PyData.int)) = true := sh_of (by simp [PyData.canLay0, ints_layA]) (by simp [PyData.depth, ints_depthA])
theorem ints_eq0 (ns : List Int) : PyData.eqv (.list (ns.map PyData.int)) (.list []) = decide (ns = []) := by
  cases ns with
  | nil => simp [PyData.eqv, PyData.eqvAll]
  | cons _ _ => simp [PyData.eqv, PyData.eqvAll]
section
variable {P : Program} {w : World} {K : PySem.W.Frag} {mg : Str → Option Value} {base : Heap}
theorem dg_set {H : Hp} {s : Addr} {d : Deed} (h : H s = some (.dK (dkv (backsM d)))) (m : Mark) : DGet H s (.str m.s) ((setA d m).map V.int) := by
  have := DGet.k (k := Sum.inr m.s) h
  rw [valV_set] at this
  exact this
def sp_Ages_rest_of (K : PySem.W.Frag) : Sp := fun vs H Q _ => ∃ (p wa ru l d dx t : Addr) (c : Chain) (a : Int) (F : Nat → V) (kvs : List (List Key × V)) (k : Nat) (L : List Mark), vs = [.ref p, .ref t, .int (k : Nat)] ∧ AgIs K H c a p wa ru l d dx F kvs ∧ k < c.n ∧ H t = some (.tup (lv L)) ∧ L ∈ allL ∧
  ∀ q H', Ex H H' → H' q = some (.tup (lv (restL (c.d k) L))) → Q (.ref q) H'
theorem c_Ages_rest_of (T : Top K mg) : Met P w K mg base 7 (cAges K) "rest_of" (sp_Ages_rest_of K) [] := by
  refine mkMet T.k_Ages.cl T.m_Ages_rest_of sc_Ages_rest_of (fun _ _ _ _ _ _ us hl => match us, hl with | [_, _, _], _ => rfl) (fun vs H Q E h => by (obtain ⟨_, _, _, _, _, _, _, _, _, _, _, _, _, rfl, _⟩ := h; rfl)) (fun f cdv A outer s H vs Q E hr h => ?_)
  obtain ⟨p, wa, ru, l, d, dx, t, c, a, F, kvs, k, L, rfl, hA, hk, ht, hL, kk⟩ := h
  have hu := hu_of hr
  refine ⟨_, (pss_cons (ps_set (i := 3) sc_Ages_rest_of.nd rfl (Or.inr rfl) (pe_c (c_surely_set T) hr (by decide) (by rfl) (pa_cons (pe_fld (pv 0) rfl) (pa_cons (pe_fld (pv 0) rfl) (pa_cons (pv 2) pa_nil)))))
    (pss_one (ps_ret (pe_callTy call_tuple_of (by rfl) T.n_tuple (by decide +kernel) (pa_cons (pe_lc (own := [("mark", 4)]) (g := gName 4) rfl sc_Ages_rest_of.nd (pi_tup (pv 1)) (blkOk_by (N := N_Ages_rest_of) (sc := L2.defScope s_Ages_rest_of) (by decide +kernel)) (fun _ _ _ _ _ => (pg_name (i := 4) sc_Ages_rest_of.nd rfl (by first | exact Or.inl rfl | exact Or.inr rfl))) (fun _ _ _ _ _ => (pts_one (pt_cmp (pc_dnotin hu (pv 4) (pv 3))))) (fun _ _ _ _ _ => (pv 4))) pa_nil))))), ?_⟩
  have hLl := allL_len hL
  refine ⟨_, rfl, p, _, dx, _, _, rfl, hA.ob', T.k_Ages.cl, T.na_Ages_way, lk1 rfl, _, rfl, p, _, dx, _, _, rfl, hA.ob', T.k_Ages.cl, T.na_Ages_rule, lkR, _, rfl, wa, ru, c, a, k, rfl, hA.wy', hA.rl', hk, fun s H1 e1 hs h1 => ?_⟩
  refine ⟨_, rfl, t, rfl, ⟨_, SqT.of (e1 _ _ ht)⟩, fun D hD => ?_⟩
  refine lc_filt (walk_tup (K := K) (a := t) (xs := lv L)) (fun i => (setA (c.d k) (L.getD i .R)).isNone) (fun i => .str (L.getD i .R).s) hD (by rw [lv_len]; omega) (fun H e => (e1.trans e).seqT (SqT.of ht)) ?_ ?_
  · rintro i x H2 H3 hi e ⟨rfl, hx⟩ R S g1 g2
    obtain ⟨rfl, hi'⟩ := lv_at hx
    refine ⟨rfl, ?_⟩
    refine ⟨_, rfl, _, rfl, s, _, rfl, dg_set (e _ _ h1) (L.getD i .R), _, rfl, ?_⟩
    cases q : setA (c.d k) (L.getD i .R) with
    | none => exact iteT ⟨_, rfl, g1 (by rw [q]; rfl) _ (Evl.Ex.refl _)⟩
    | some b => exact iteF (g2 (by rw [q]; rfl) _ (Evl.Ex.refl _))
  · intro H2 e2 hl
    rw [lv_len] at hl
    have hE : ((List.range L.length).filter fun i => (setA (c.d k) (L.getD i .R)).isNone).map (fun i => V.str (L.getD i .R).s) = lv (restL (c.d k) L) := filt_getD L .R (fun m => (setA (c.d k) m).isNone) (fun m => V.str m.s)
    rw [hE] at hl
    refine ⟨D, _, rfl, .inl ⟨SqL.of hl, fun q hq => ?_⟩⟩
    exact kk q _ ((e1.trans e2).trans (Evl.Ex.new hq)) upd_same
def sp_Ages_nearest (K : PySem.W.Frag) : Sp := fun vs H Q _ => ∃ (p wa ru l d dx t : Addr) (c : Chain) (a : Int) (F : Nat → V) (kvs : List (List Key × V)) (k : Nat) (L : List Mark), vs = [.ref p, .ref t, .int (k : Nat)] ∧ AgIs K H c a p wa ru l d dx F kvs ∧ k < c.n ∧ H t = some (.tup (lv L)) ∧ L ∈ allL ∧
  ∀ H', Ex H H' → Q (nearV (nearL (c.d k) L)) H'
theorem c_Ages_nearest (T : Top K mg) : Met P w K mg base 7 (cAges K) "nearest" (sp_Ages_nearest K) [] := by
  refine mkMet T.k_Ages.cl T.m_Ages_nearest sc_Ages_nearest (fun _ _ _ _ _ _ us hl => match us, hl with | [_, _, _], _ => rfl) (fun vs H Q E h => by (obtain ⟨_, _, _, _, _, _, _, _, _, _, _, _, _, rfl, _⟩ := h; rfl)) (fun f cdv A outer s H vs Q E hr h => ?_)
  obtain ⟨p, wa, ru, l, d, dx, t, c, a, F, kvs, k, L, rfl, hA, hk, ht, hL, kk⟩ := h
  have hu := hu_of hr
  refine ⟨_, (pss_cons (ps_set (i := 3) sc_Ages_nearest.nd rfl (Or.inr rfl) (pe_c (c_surely_set T) hr (by decide) (by rfl) (pa_cons (pe_fld (pv 0) rfl) (pa_cons (pe_fld (pv 0) rfl) (pa_cons (pv 2) pa_nil)))))
    (pss_cons (ps_setLc (i := 4) (own := [("mark", 5)]) (g := gName 5) rfl sc_Ages_nearest.nd rfl rfl (sw_true rfl rfl rfl (by decide +kernel)) (pi_tup (pv 1)) (blkOk_by (N := N_Ages_nearest) (sc := L2.defScope s_Ages_nearest) (by decide +kernel)) (fun _ _ _ _ _ => (pg_name (i := 5) sc_Ages_nearest.nd rfl (by first | exact Or.inl rfl | exact Or.inr rfl))) (fun _ _ _ _ _ => (pts_one (pt_cmp (pc_din hu (pv 5) (pv 3))))) (fun _ _ _ _ _ => (pe_dget hu (pv 3) (pv 5) (fun _ _ => rfl))))
    (pss_one (ps_ret (pe_ifExp (pt_cmpR (op_eqD hr.units) (pv 4) (pe_lst pa_nil) (nomark _)) pe_non (pe_callB (cr_min rfl) (by rfl) T.n_min (by decide +kernel) (pa_cons (pe_lc (own := [("back", 6)]) (g := gName 6) (tt := tYes) rfl sc_Ages_nearest.nd (pi_list (pv 4)) (blkOk_by (N := N_Ages_nearest) (sc := L2.defScope s_Ages_nearest) (by decide +kernel)) (fun _ _ _ _ _ => (pg_name (i := 6) sc_Ages_nearest.nd rfl (by first | exact Or.inl rfl | exact Or.inr rfl))) (fun _ _ _ _ _ => pts_nil) (fun _ _ _ _ _ => (pe_callTy call_int1 (by rfl) T.n_int (by decide +kernel) (pa_cons (pv 6) pa_nil)))) pa_nil))))))), ?_⟩
  have hLl := allL_len hL
  refine ⟨_, rfl, p, _, dx, _, _, rfl, hA.ob', T.k_Ages.cl, T.na_Ages_way, lk1 rfl, _, rfl, p, _, dx, _, _, rfl, hA.ob', T.k_Ages.cl, T.na_Ages_rule, lkR, _, rfl, wa, ru, c, a, k, rfl, hA.wy', hA.rl', hk, fun s H1 e1 hs h1 => ?_⟩
  refine ⟨_, rfl, t, rfl, ⟨_, SqT.of (e1 _ _ ht)⟩, fun D hD => ?_⟩
  refine lc_filt (walk_tup (K := K) (a := t) (xs := lv L)) (fun i => (setA (c.d k) (L.getD i .R)).isSome) (fun i => .int ((setA (c.d k) (L.getD i .R)).getD 0)) hD (by rw [lv_len]; omega) (fun H e => (e1.trans e).seqT (SqT.of ht)) ?_ ?_
  · rintro i x H2 H3 hi e ⟨rfl, hx⟩ R S g1 g2
    obtain ⟨rfl, hi'⟩ := lv_at hx
    refine ⟨rfl, ?_⟩
    refine ⟨_, rfl, _, rfl, s, _, rfl, dg_set (e _ _ h1) (L.getD i .R), _, rfl, ?_⟩
    cases q : setA (c.d k) (L.getD i .R) with
    | some b =>
      refine iteT ⟨_, rfl, _, rfl, s, .int b, rfl, ?_, ?_⟩
      · have := dg_set (e _ _ h1) (L.getD i .R)
        rw [q] at this
        exact this
      · have := g1 (by rw [q]; rfl) _ (Evl.Ex.refl _)
        rw [q] at this
        exact this
    | none => exact iteF (g2 (by rw [q]; rfl) _ (Evl.Ex.refl _))
  intro H2 e2 hl
  rw [lv_len] at hl
  have hE : ((List.range L.length).filter fun i => (setA (c.d k) (L.getD i .R)).isSome).map (fun i => V.int ((setA (c.d k) (L.getD i .R)).getD 0)) = (nearL (c.d k) L).map V.int := by
    rw [filt_getD L .R (fun m => (setA (c.d k) m).isSome) (fun m => V.int ((setA (c.d k) m).getD 0)), nearL_eq, List.map_map]
    rfl
  rw [hE] at hl
  refine ⟨_, rfl, Nat.zero_le _, fun m hm => ?_⟩
  obtain ⟨H3, q_, e3, h3⟩ := new_ex (o := .lst []) hm
  rw [← q_]; clear q_
  refine ⟨_, .list [], .lst (SqL.of (e3 _ _ hl)) (ints_dp _), .lst (SqL.of h3) .nil, ints_sh _, sh0, ?_⟩
  rw [ints_eq0]
  refine ⟨_, rfl, ?_⟩
  have e13 := (e1.trans e2).trans e3
  by_cases q : nearL (c.d k) L = []
  · refine iteDT q ?_
    have := kk H3 e13
    unfold nearV at this
    rw [if_pos q] at this
    exact this
  · refine iteDF q ?_
    have hnl : (nearL (c.d k) L).length ≤ 3 := by
      have := List.length_filterMap_le (setA (c.d k)) L
      unfold nearL
      omega
    refine ⟨_, rfl, D, rfl, ⟨_, SqL.of (e3 _ _ hl)⟩, fun B hB => ?_⟩
    refine lc_map (walk_list (K := K) (a := D) (xs := (nearL (c.d k) L).map V.int)) (fun i => .int ((nearL (c.d k) L).getD i 0)) hB (by rw [List.length_map]; omega) (fun H e => e.seqL (SqL.of (e3 _ _ hl))) ?_ ?_
    · rintro i x H4 H5 hi e ⟨rfl, hx⟩ R hR
      refine ⟨rfl, _, rfl, .inl ⟨(nearL (c.d k) L).getD i 0, ?_, hR _ (Evl.Ex.refl _)⟩⟩
      rw [List.getElem?_map] at hx
      rw [List.getD_eq_getElem?_getD]
      cases z : (nearL (c.d k) L)[i]? with
      | none => rw [z] at hx; cases hx
      | some b => rw [z] at hx; rw [← Option.some.inj hx]; rfl
    · intro H4 e4 hl4
      rw [List.length_map] at hl4
      have hE2 : (List.range (nearL (c.d k) L).length).map (fun i => V.int ((nearL (c.d k) L).getD i 0)) = (nearL (c.d k) L).map V.int := by
        have := congrArg (List.map V.int) (rng_getD (nearL (c.d k) L) 0)
        rw [List.map_map] at this
        exact this
      rw [hE2] at hl4
      refine ⟨B, nearL (c.d k) L, rfl, SqL.of hl4, List.length_pos_iff.mpr q, fun m' h1 h2 => ?_⟩
      rw [minL_uni h1 h2]
      have := kk H4 (e13.trans e4)
      unfold nearV at this
      rw [if_neg q] at this
      exact this
def arr (c : Chain) (g : Nat → Int) : Nat → Int
  | 0 => -1
  | j + 1 => if g j = -1 then -1 else g j + c.t j
def sp_Ages_arriving (K : PySem.W.Frag) : Sp := fun vs H Q _ => ∃ (p wa ru l d dx t : Addr) (c : Chain) (a : Int) (F : Nat → V) (kvs : List (List Key × V)) (k : Nat) (g : Nat → Int), vs = [.ref p, .ref t, .int (k : Nat)] ∧ AgIs K H c a p wa ru l d dx F kvs ∧ k < c.n ∧ H t = some (.lst (ivs c.n g)) ∧ (∀ j, j < c.n → -1 ≤ g j) ∧
  ∀ H', Ex H H' → Q (.int (arr c g k)) H'
theorem c_Ages_arriving (T : Top K mg) : Met P w K mg base 7 (cAges K) "arriving" (sp_Ages_arriving K) [] := by
  refine mkMet T.k_Ages.cl T.m_Ages_arriving sc_Ages_arriving (fun _ _ _ _ _ _ us hl => match us, hl with | [_, _, _], _ => rfl) (fun vs H Q E h => by (obtain ⟨_, _, _, _, _, _, _, _, _, _, _, _, _, rfl, _⟩ := h; rfl)) (fun f cdv A outer s H vs Q E hr h => ?_)
  obtain ⟨p, wa, ru, l, d, dx, t, c, a, F, kvs, k, g, rfl, hA, hk, ht, hg, kk⟩ := h
  refine ⟨_, (pss_cons (ps_set (i := 3) sc_Ages_arriving.nd rfl (Or.inl rfl) (pe_un un_neg pe_int))
    (pss_cons (ps_for PassesOwn.never rfl (pi_list (pe_mt (c_Way_into T) hr (by decide) (pe_fld (pv 0) rfl) (pa_cons (pv 2) pa_nil))) (pg_tup rfl (pgs_cons (pg_name (i := 4) sc_Ages_arriving.nd rfl (by first | exact Or.inl rfl | exact Or.inr rfl)) (pgs_cons (pg_name (i := 5) sc_Ages_arriving.nd rfl (by first | exact Or.inl rfl | exact Or.inr rfl)) (pgs_cons (pg_name (i := 6) sc_Ages_arriving.nd rfl (by first | exact Or.inl rfl | exact Or.inr rfl)) (pgs_cons (pg_name (i := 7) sc_Ages_arriving.nd rfl (by first | exact Or.inl rfl | exact Or.inr rfl)) (pgs_cons (pg_name (i := 8) sc_Ages_arriving.nd rfl (by first | exact Or.inl rfl | exact Or.inr rfl)) pgs_nil))))))
    (pss_cons (ps_set (i := 9) sc_Ages_arriving.nd rfl (Or.inl rfl) (pe_ix ix_list (pv 1) (pv 4) (fun _ _ => rfl)))
    (pss_one (ps_if (pt_cmpR op_ne (pv 9) (pe_un un_neg pe_int) (nomark _)) (pss_cons (ps_set (i := 10) sc_Ages_arriving.nd rfl (Or.inl rfl) (pe_ifExp (PW.pt (pw_or (pt_cmpR op_isN (pv 9) pe_non (nomark _)) (pw_or1 (pt_cmpR op_isN (pv 7) pe_non (nomark _))))) pe_non (pe_op op_add (pv 9) (pv 7))))
    (pss_one (ps_set (i := 3) sc_Ages_arriving.nd rfl (Or.inl rfl) (pe_ifExp (pt_val (pe_c (c_is_more T) hr (by decide) (by rfl) (pa_cons (pv 10) (pa_cons (pv 3) pa_nil)))) (pv 10) (pv 3))))) pss_nil))))
    (pss_one (ps_ret (pv 3))))), ?_⟩
  have ok := hA.wy'.1
  obtain ⟨dw, fw, how, hfw⟩ := hA.wy'.ob2
  refine ⟨_, rfl, ?_⟩
  refine ⟨_, rfl, p, _, dx, _, _, rfl, hA.ob', T.k_Ages.cl, T.na_Ages_way, lk1 rfl, wa, dw, fw, rfl, how, hfw _ (by decide +kernel) (by decide +kernel), _, rfl, wa, c, k, rfl, hA.wy', hk, fun l' xs H1 e1 hl h1 hx => ?_⟩
  rcases hx with ⟨rfl, rfl⟩ | ⟨j, ar, rfl, rfl, har⟩
  · refine ⟨l', rfl, ⟨_, SqL.of h1⟩, for_it (walk_list (K := K) (a := l') (xs := [])) (fun i σ H' => H' = H1 ∧ σ = [some (.ref p), some (.ref t), some (.int ((0 : Nat) : Int)), some (.int (-1)), none, none, none, none, none, none, none]) ⟨rfl, rfl⟩ (fun i σ H' _ z => by rw [z.1]; exact SqL.of h1) (fun i x σ H' H'' hi _ _ => absurd hi (Nat.not_lt_zero _)) ?_⟩
    rintro σ H' ⟨rfl, rfl⟩
    exact ⟨_, rfl, kk _ e1⟩
  · have hj := hg j (by omega)
    have tm := ok.tm j hk
    refine ⟨l', rfl, ⟨_, SqL.of h1⟩, for_it (walk_list (K := K) (a := l') (xs := [.ref ar])) (fun i σ H' => ∃ v u1 u2 u3 u4 u5 u6 u7, H' = H1 ∧ σ = [some (.ref p), some (.ref t), some (.int ((j + 1 : Nat) : Int)), some (.int v), u1, u2, u3, u4, u5, u6, u7] ∧ v = (if i = 0 then -1 else arr c g (j + 1)))
      ⟨_, _, _, _, _, _, _, _, rfl, rfl, rfl⟩ (fun i σ H' _ ⟨_, _, _, _, _, _, _, _, z, _⟩ => by rw [z]; exact SqL.of h1) ?_ ?_⟩
    · rintro i x σ H2 H3 hi ⟨v, u1, u2, u3, u4, u5, u6, u7, rfl, rfl, hv⟩ ⟨rfl, hx⟩
      obtain rfl : i = 0 := by
        have : i < 1 := hi
        omega
      rw [if_pos rfl] at hv
      subst hv
      obtain rfl : V.ref ar = x := by simpa using hx
      refine ⟨ar, _, rfl, SqT.of har, rfl, _, _, rfl, _, _, rfl, _, _, rfl, _, _, rfl, _, _, rfl, rfl, ?_⟩
      refine ⟨_, rfl, _, rfl, t, _, _, _, rfl, rfl, SqL.of (e1 _ _ ht), atI_nat (ivs_at (by omega)), ?_⟩
      refine ⟨_, rfl, _, rfl, rfl, _, rfl, ?_⟩
      by_cases q : g j = -1
      · refine iteNS (by rw [q]) ?_
        refine ⟨_, _, _, _, _, _, _, _, rfl, rfl, ?_⟩
        rw [if_neg (by omega)]
        simp [arr, q]
      · refine iteNT (neI q) ?_
        refine ⟨_, rfl, rfl, _, rfl, iteF ?_⟩
        refine ⟨_, rfl, rfl, _, rfl, iteF ?_⟩
        refine ⟨_, rfl, _, rfl, _, _, rfl, rfl, ?_⟩
        refine ⟨_, rfl, _, rfl, _, _, rfl, ?_⟩
        refine ⟨_, rfl, iteDT (show g j + c.t j > -1 by omega) ?_⟩
        refine ⟨_, rfl, _, _, _, _, _, _, _, _, rfl, rfl, ?_⟩
        rw [if_neg (by omega)]
        simp [arr, q]
    · rintro σ H2 ⟨v, u1, u2, u3, u4, u5, u6, u7, rfl, rfl, hv⟩
      rw [if_neg (by simp)] at hv
      subst hv
      exact ⟨_, rfl, kk _ e1⟩
end
end Ag
set_option maxHeartbeats 4000000
/-! Ages: settled, table. -/
namespace Ag
open PySem PySem.Spec PyProof.Rows L2
open C8 (Cal Met Mak pe_c pe_mt pe_mt0 pe_mk pe_gc)
open Evl (Ex)
/-- what settled answers -/
def setl (a : Int) (c : Chain) (L : List Mark) (k : Nat) : Int := if nearL (c.d k) L = [] ∧ ¬ ((c.d k).isRead = true ∧ Mark.R ∈ L) then -1 else age a c L k
theorem LD_eq0 (L : List Mark) : PyData.eqv (LD L) (.tuple []) = decide (L = []) := by
  cases L with
  | nil => simp [LD, PyData.eqv, PyData.eqvAll]
  | cons _ _ => simp [LD, PyData.eqv, PyData.eqvAll]
theorem lk_own {l : V} {m : Str} (h : ¬ m = "own_pairs") : ([("own_pairs", l)] : List (Str × V)).lookup m = none := (lk2 h).trans lk0
theorem exd {H H' : Hp} {d : Addr} (e : Ex H H') : Ex (del H d) (del H' d) := del_mono e
section
variable {P : Program} {w : World} {K : PySem.W.Frag} {mg : Str → Option Value} {base : Heap}
def sp_Ages_table (K : PySem.W.Frag) (m b : Nat) : Sp := fun vs H Q _ => ∃ (p wa ru l d dx t : Addr) (c : Chain) (a : Int) (F : Nat → V) (kvs : List (List Key × V)) (L : List Mark), vs = [.ref p, .ref t] ∧ AgIs K H c a p wa ru l d dx F kvs ∧ H t = some (.tup (lv L)) ∧ L ∈ allL ∧ L.length ≤ m ∧ kvs.length + b ≤ 1000 ∧
  ∀ q H' kvs', Ex (del H d) (del H' d) → H' d = some (.dT kvs') → KeptOk (del H' d) c a kvs' → kvs'.length ≤ kvs.length + b → H' q = some (.lst (ivs c.n (age a c L))) → Q (.ref q) H'
def sp_Ages_walked (K : PySem.W.Frag) (m b : Nat) : Sp := sp_Ages_table K m b
def sp_Ages_settled (K : PySem.W.Frag) (m b : Nat) : Sp := fun vs H Q _ => ∃ (p wa ru l d dx t : Addr) (c : Chain) (a : Int) (F : Nat → V) (kvs : List (List Key × V)) (k : Nat) (L : List Mark), vs = [.ref p, .ref t, .int (k : Nat)] ∧ AgIs K H c a p wa ru l d dx F kvs ∧ k < c.n ∧ H t = some (.tup (lv L)) ∧ L ∈ allL ∧ L.length ≤ m ∧ kvs.length + b ≤ 1000 ∧
  ∀ H' kvs', Ex (del H d) (del H' d) → H' d = some (.dT kvs') → KeptOk (del H' d) c a kvs' → kvs'.length ≤ kvs.length + b → Q (.int (setl a c L k)) H'
theorem c_Ages_settled (T : Top K mg) {m b lw : Nat} (h7 : 7 ≤ lw) (hT : Met P w K mg base lw (cAges K) "table" (sp_Ages_table K m b) []) : Met P w K mg base (lw + 1) (cAges K) "settled" (sp_Ages_settled K (m + 1) b) [] := by
  refine mkMet T.k_Ages.cl T.m_Ages_settled sc_Ages_settled (fun _ _ _ _ _ _ us hl => match us, hl with | [_, _, _], _ => rfl) (fun vs H Q E h => by (obtain ⟨_, _, _, _, _, _, _, _, _, _, _, _, _, rfl, _⟩ := h; rfl)) (fun f cdv A outer s H vs Q E hr h => ?_)
  obtain ⟨p, wa, ru, l, d, dx, t, c, a, F, kvs, k, L, rfl, hA, hk, ht, hL, hm, hb, kk⟩ := h
  refine ⟨_, (pss_cons (ps_if (pt_val (pe_mt (c_Ages_is_told T) hr (by omega) (pv 0) (pa_cons (pv 1) (pa_cons (pv 2) pa_nil)))) (pss_one (ps_ret (pe_mt0 (c_Stretches_greatest T) hr (by omega) (pe_ix ix_list (pe_fld (pv 0) rfl) (pv 2) (fun _ _ => rfl))))) pss_nil)
    (pss_cons (ps_set (i := 3) sc_Ages_settled.nd rfl (Or.inl rfl) (pe_mt (c_Ages_nearest T) hr (by omega) (pv 0) (pa_cons (pv 1) (pa_cons (pv 2) pa_nil))))
    (pss_cons (ps_if (pt_cmpR op_isN (pv 3) pe_non (nomark _)) (pss_one (ps_ret (pe_un un_neg pe_int))) pss_nil)
    (pss_cons (ps_set (i := 4) sc_Ages_settled.nd rfl (Or.inl rfl) (pe_mt (c_Ages_rest_of T) hr (by omega) (pv 0) (pa_cons (pv 1) (pa_cons (pv 2) pa_nil))))
    (pss_cons (ps_if (PW.pt (pw_or (pt_val (pe_c (c_makes T) hr (by omega) (by rfl) (pa_cons (ix_own (c_Way_getitem T) hr (by omega) T.gi_Way (pe_fld (pv 0) rfl) (pv 2)) pa_nil))) (pw_or1 (pt_cmpR (op_eqD hr.units) (pv 4) (pe_tup pa_nil) (nomark _))))) (pss_one (ps_ret (pv 3))) pss_nil)
    (pss_cons (ps_set (i := 5) sc_Ages_settled.nd rfl (Or.inl rfl) (pe_mt (c_Ages_arriving T) hr (by omega) (pv 0) (pa_cons (pe_mt hT hr (by omega) (pv 0) (pa_cons (pv 4) pa_nil)) (pa_cons (pv 2) pa_nil))))
    (pss_one (ps_ret (pe_ifExp (PW.pt (pw_or (pt_cmpR op_isN (pv 5) pe_non (nomark _)) (pw_or1 (pt_cmpR op_gt (pv 5) (pv 3) (nomark _))))) (pv 3) (pv 5)))))))))), ?_⟩
  have ok := hA.wy'.1
  have hdt : t ≠ d := ne_of ht hA.kp (by intro z; cases z)
  refine ⟨_, rfl, p, dx, _, rfl, hA.ob', lkN (by decide +kernel) (by decide +kernel) (by decide +kernel) (by decide +kernel), _, rfl, _, rfl, p, wa, ru, l, d, dx, t, c, a, F, kvs, k, L, rfl, hA, hk, ht, ?_⟩
  by_cases told : (c.d k).isRead = true ∧ Mark.R ∈ L
  · rw [told.1, decide_eq_true told.2]
    refine ⟨_, rfl, iteT ?_⟩
    obtain ⟨mm, hF, hS⟩ := hA.rs k hk
    have hS' := hS.ext (del_ex (D := d))
    obtain ⟨dm, lm, xm, hm1, _⟩ := hS'.fld
    refine ⟨_, rfl, p, _, dx, _, _, rfl, hA.ob', T.k_Ages.cl, T.na_Ages_read_ages, lkA, _, rfl, l, _, _, _, rfl, rfl, SqL.of (del_ex _ _ hA.ra), atI_nat (v := F k) (by simp [hk]), mm, dm, _, hF, hm1, lk_own (by decide +kernel), mm, _, by rw [hF]; rfl, hS', fun H1 e1 => ?_⟩
    have := kk H1 kvs (exd e1) (e1 _ _ hA.kp) (hA.kk.ext (exd e1)) (by omega)
    unfold setl at this
    rw [if_neg (by intro z; exact z.2 told), age_told ok hA.a1 hL hk told.1 told.2] at this
    unfold oB
    rw [if_pos told.1]
    exact this
  · have hf : ((c.d k).isRead && decide (Mark.R ∈ L)) = false := by
      cases h1 : (c.d k).isRead with
      | false => rfl
      | true =>
        have : ¬ Mark.R ∈ L := fun z => told ⟨h1, z⟩
        rw [decide_eq_false this]; rfl
    rw [hf]
    refine ⟨_, rfl, iteF ?_⟩
    refine ⟨_, rfl, p, dx, _, rfl, hA.ob', lkN (by decide +kernel) (by decide +kernel) (by decide +kernel) (by decide +kernel), _, rfl, _, rfl, p, wa, ru, l, d, dx, t, c, a, F, kvs, k, L, rfl, hA, hk, ht, hL, fun H1 e1 => ?_⟩
    have hA1 := hA.ext e1
    by_cases q : nearL (c.d k) L = []
    · have e : nearV (nearL (c.d k) L) = .non := if_pos q
      rw [e]
      refine ⟨_, rfl, rfl, _, rfl, iteT ?_⟩
      have := kk H1 kvs (exd e1) (e1 _ _ hA.kp) (hA.kk.ext (exd e1)) (by omega)
      unfold setl at this
      rw [if_pos ⟨q, told⟩] at this
      exact ⟨_, rfl, this⟩
    · have e : nearV (nearL (c.d k) L) = .int (minL (nearL (c.d k) L)) := if_neg q
      rw [e]
      refine ⟨_, rfl, rfl, _, rfl, iteF ?_⟩
      refine ⟨_, rfl, p, dx, _, rfl, hA1.ob', lkN (by decide +kernel) (by decide +kernel) (by decide +kernel) (by decide +kernel), _, rfl, _, rfl, p, wa, ru, l, d, dx, t, c, a, F, kvs, k, L, rfl, hA1, hk, e1 _ _ ht, hL, fun rt H2 e2 hrt => ?_⟩
      have e12 := e1.trans e2
      have hA2 := hA1.ext e2
      obtain ⟨dw, fw, how⟩ := hA2.wy'.ins
      have fin : ∀ H', Ex H H' → age a c L k = minL (nearL (c.d k) L) → Q (.int (minL (nearL (c.d k) L))) H' := fun H' e h => by
        have := kk H' kvs (exd e) (e _ _ hA.kp) (hA.kk.ext (exd e)) (by omega)
        unfold setl at this
        rw [if_neg (by intro z; exact q z.1), h] at this
        exact this
      refine ⟨_, rfl, p, _, dx, _, _, rfl, hA2.ob', T.k_Ages.cl, T.na_Ages_way, lk1 rfl, _, rfl, wa, dw, fw, rfl, how, wa, c, k, rfl, hA2.wy', hk, fun n hn => ?_⟩
      refine ⟨n, c.d k, rfl, hn, ok.bk k hk, fun H3 e3 => ?_⟩
      have hA3 := hA2.ext e3
      cases hmk : (c.d k).maker with
      | true =>
        refine ⟨_, rfl, iteT ?_⟩
        have hk0 : k = 0 := by
          rcases Nat.eq_zero_or_pos k with z | z
          · exact z
          · rw [ok.nm k z hk] at hmk; cases hmk
        subst hk0
        exact ⟨_, rfl, fin H3 (e12.trans e3) (age_maker ok hL)⟩
      | false =>
        have hk0 : k ≠ 0 := fun z => by rw [z, ok.mk0] at hmk; cases hmk
        obtain ⟨j, rfl⟩ : ∃ j, k = j + 1 := ⟨k - 1, by omega⟩
        refine ⟨_, rfl, iteF ?_⟩
        refine ⟨_, rfl, Nat.zero_le _, fun u hu0 => ?_⟩
        obtain ⟨H4, q_, e4, h4⟩ := new_ex (o := .tup []) hu0
        rw [← q_]; clear q_
        have hrt4 := e4 _ _ (e3 _ _ hrt)
        refine ⟨_, .tuple [], LD_dp hrt4, .tup (SqT.of h4) .nil, LD_sh _, shT0, ?_⟩
        rw [LD_eq0]
        refine ⟨_, rfl, ?_⟩
        have e34 := e3.trans e4
        by_cases q2 : restL (c.d (j + 1)) L = []
        · refine iteDT q2 ?_
          exact ⟨_, rfl, fin H4 (e12.trans e34) (age_all ok hL hk q2)⟩
        · refine iteDF q2 ?_
          have hA4 := hA3.ext e4
          have hlt := rest_lt hL _ q
          refine ⟨_, rfl, p, dx, _, rfl, hA4.ob', lkN (by decide +kernel) (by decide +kernel) (by decide +kernel) (by decide +kernel), _, rfl, p, dx, _, rfl, hA4.ob', lkN (by decide +kernel) (by decide +kernel) (by decide +kernel) (by decide +kernel), _, rfl, p, wa, ru, l, d, dx, rt, c, a, F, kvs, _, rfl, hA4, hrt4, rest_all hL _ q2, by omega, hb, fun tq H5 kvs5 x5 k5 o5 l5 t5 => ?_⟩
          have hA5 := hA4.step x5 k5 o5
          refine ⟨_, rfl, p, wa, ru, l, d, dx, tq, c, a, F, kvs5, j + 1, _, rfl, hA5, hk, t5, fun i hi => by have := age_nn (a := a) ok (rest_all hL _ q2) hi; omega, fun H6 e6 => ?_⟩
          have hnn := age_nn (a := a) ok (rest_all hL (c.d (j + 1)) q2) (show j < c.n by omega)
          have harr : arr c (age a c (restL (c.d (j + 1)) L)) (j + 1) = age a c (restL (c.d (j + 1)) L) j + c.t j := by
            simp only [arr]
            rw [if_neg (by omega)]
          rw [harr]
          have hfin := kk H6 kvs5 (((exd (e12.trans e34)).trans x5).trans (exd e6)) (e6 _ _ k5) (o5.ext (exd e6)) l5
          unfold setl at hfin
          rw [if_neg (by intro z; exact q z.1), age_some ok hL hk q q2] at hfin
          refine ⟨_, rfl, rfl, _, rfl, iteF ?_⟩
          refine ⟨_, rfl, _, rfl, _, _, rfl, rfl, _, rfl, ?_⟩
          by_cases q3 : age a c (restL (c.d (j + 1)) L) j + c.t j > minL (nearL (c.d (j + 1)) L)
          · refine iteDT q3 ⟨_, rfl, ?_⟩
            rw [if_pos q3] at hfin
            exact hfin
          · refine iteDF q3 ⟨_, rfl, ?_⟩
            rw [if_neg q3] at hfin
            exact hfin
theorem c_Ages_table (T : Top K mg) {m b lw : Nat} (hW : Met P w K mg base lw (cAges K) "walked" (sp_Ages_walked K m b) []) : Met P w K mg base (lw + 1) (cAges K) "table" (sp_Ages_table K m (b + 1)) [] := by
  refine mkMet T.k_Ages.cl T.m_Ages_table sc_Ages_table (fun _ _ _ _ _ _ us hl => match us, hl with | [_, _], _ => rfl) (fun vs H Q E h => by (obtain ⟨_, _, _, _, _, _, _, _, _, _, _, _, rfl, _⟩ := h; rfl)) (fun f cdv A outer s H vs Q E hr h => ?_)
  obtain ⟨p, wa, ru, l, d, dx, t, c, a, F, kvs, L, rfl, hA, ht, hL, hm, hb, kk⟩ := h
  have hu := hu_of hr
  refine ⟨_, (pss_cons (ps_if (pt_cmp (pc_dnotin hu (pv 1) (pe_fld (pv 0) rfl))) (pss_one (ps_dput hu (pe_fld (pv 0) rfl) (pv 1) (pe_mt hW hr (by omega) (pv 0) (pa_cons (pv 1) pa_nil)) rfl)) pss_nil)
    (pss_one (ps_ret (pe_dget hu (pe_fld (pv 0) rfl) (pv 1) (fun _ _ => rfl))))), ?_⟩
  have hdt : t ≠ d := ne_of ht hA.kp (by intro z; cases z)
  refine ⟨_, rfl, _, rfl, p, _, dx, _, _, rfl, hA.ob', T.k_Ages.cl, T.na_Ages_kept, lkK, d, _, rfl, DGet.t (k := lk L) hA.kp (by rw [lk_kV]; exact ht), _, rfl, ?_⟩
  cases hv : valV kvs (lk L) with
  | some v =>
    obtain ⟨q, rfl, hq⟩ := hA.kk L v hv
    refine iteF ?_
    refine ⟨_, rfl, p, _, dx, _, _, rfl, hA.ob', T.k_Ages.cl, T.na_Ages_kept, lkK, _, rfl, d, _, rfl, ?_, kk q H kvs (Evl.Ex.refl _) hA.kp hA.kk (by omega) (del_ex _ _ hq)⟩
    rw [← hv]
    exact DGet.t (k := lk L) hA.kp (by rw [lk_kV]; exact ht)
  | none =>
    refine iteT ?_
    refine ⟨_, rfl, p, dx, _, rfl, hA.ob', lkN (by decide +kernel) (by decide +kernel) (by decide +kernel) (by decide +kernel), _, rfl, p, wa, ru, l, d, dx, t, c, a, F, kvs, L, rfl, hA, ht, hL, hm, by omega, fun q H1 kvs1 x1 k1 o1 l1 hq1 => ?_⟩
    have hA1 := hA.step x1 k1 o1
    have ht1 : H1 t = some (.tup (lv L)) := del_ex _ _ (x1 _ _ (del_of hdt ht))
    have hqd : q ≠ d := ne_of hq1 k1 (by intro z; cases z)
    refine ⟨_, rfl, p, _, dx, _, _, rfl, hA1.ob', T.k_Ages.cl, T.na_Ages_kept, lkK, _, rfl, d, _, rfl, DPut.t (k := lk L) k1 (by rw [lk_kV]; exact ht1) (szt (by omega)), ?_⟩
    obtain ⟨H2, q2_, h2⟩ : ∃ H2, H2 = upd H1 d (.dT (putK kvs1 (lk L) (.ref q))) ∧ H2 d = some (.dT (putK kvs1 (lk L) (.ref q))) := ⟨_, rfl, upd_same⟩
    rw [← q2_]
    have x2 : del H2 d = del H1 d := by rw [q2_, del_upd]
    have o2 : KeptOk (del H2 d) c a (putK kvs1 (lk L) (.ref q)) := by
      intro L' v hv'
      rw [valV_put] at hv'
      by_cases z : lk L' = lk L
      · rw [if_pos z] at hv'
        cases hv'
        rw [lk_inj z, x2]
        exact ⟨q, rfl, del_of hqd hq1⟩
      · rw [if_neg z] at hv'
        rw [x2]
        exact o1 L' v hv'
    have hA2 := hA1.step (H' := H2) (by rw [x2]; exact Evl.Ex.refl _) h2 o2
    have ht2 : H2 t = some (.tup (lv L)) := by rw [q2_, upd_ne hdt]; exact ht1
    have hq2 : H2 q = some (.lst (ivs c.n (age a c L))) := by rw [q2_, upd_ne hqd]; exact hq1
    have hlen := length_putK kvs1 (lk L) (.ref q)
    refine ⟨_, rfl, p, _, dx, _, _, rfl, hA2.ob', T.k_Ages.cl, T.na_Ages_kept, lkK, _, rfl, d, .ref q, rfl, ?_, kk q H2 _ (by rw [x2]; exact x1) h2 o2 (by omega) hq2⟩
    have := DGet.t (k := lk L) h2 (by rw [lk_kV]; exact ht2)
    rw [valV_put, if_pos rfl] at this
    exact this
end
end Ag
set_option maxHeartbeats 4000000
/-! Ages: walked. -/
namespace Ag
open PySem PySem.Spec PyProof.Rows L2
open C8 (Cal Met Mak pe_c pe_mt pe_mt0 pe_mk pe_gc)
open Evl (Ex)
theorem ex_del2 {G H' : Hp} {D : Addr} (e : Ex G H') (hD : G D = none) : Ex G (del H' D) := fun a o h => del_of (fun z => by rw [z, hD] at h; cases h) (e _ _ h)
theorem del_none {H : Hp} {d D : Addr} (h : H D = none) : del H d D = none := by
  unfold del
  split
  · rfl
  · exact h
theorem exd_mut {H H4 : Hp} {d D : Addr} {o : HO} (e : Ex (del H d) (del H4 d)) (hD : H D = none) : Ex (del H d) (del (upd H4 D o) d) := by
  intro x u h
  have nD : x ≠ D := fun z => by rw [z, del_none hD] at h; cases h
  have h1 := e _ _ h
  have nd : x ≠ d := fun z => by unfold del at h1; rw [if_pos z] at h1; cases h1
  refine del_of nd ?_
  rw [upd_ne nD]
  exact del_ex _ _ h1
theorem del2_upd {H4 : Hp} {d D : Addr} {o : HO} : del (del (upd H4 D o) d) D = del (del H4 d) D := by
  funext x
  unfold del
  by_cases q : x = D
  · rw [if_pos q, if_pos q]
  · rw [if_neg q, if_neg q]
    by_cases q2 : x = d
    · rw [if_pos q2, if_pos q2]
    · rw [if_neg q2, if_neg q2, upd_ne q]
theorem ivs_succ {n : Nat} {f : Nat → Int} : ivs (n + 1) f = ivs n f ++ [.int (f n)] := rng_succ
theorem ivs_set {n k : Nat} {g : Nat → Int} {v : Int} : (ivs n g).set k (.int v) = ivs n fun j => if j = k then v else g j := by
  unfold ivs
  rw [rng_set]
  apply List.map_congr_left
  intro j _
  by_cases qj : j = k
  · simp [qj]
  · simp [qj]
theorem ivs_congr {n : Nat} {f g : Nat → Int} (h : ∀ j, j < n → f j = g j) : ivs n f = ivs n g := by
  unfold ivs
  apply List.map_congr_left
  intro j hj
  rw [h j (by simpa using hj)]
section
variable {P : Program} {w : World} {K : PySem.W.Frag} {mg : Str → Option Value} {base : Heap}
theorem c_Ages_walked (T : Top K mg) {m b lw : Nat} (h7 : 7 ≤ lw) (hS : Met P w K mg base lw (cAges K) "settled" (sp_Ages_settled K m b) []) : Met P w K mg base (lw + 1) (cAges K) "walked" (sp_Ages_walked K m (12 * b)) [] := by
  refine mkMet T.k_Ages.cl T.m_Ages_walked sc_Ages_walked (fun _ _ _ _ _ _ us hl => match us, hl with | [_, _], _ => rfl) (fun vs H Q E h => by (obtain ⟨_, _, _, _, _, _, _, _, _, _, _, _, rfl, _⟩ := h; rfl)) (fun f cdv A outer s H vs Q E hr h => ?_)
  obtain ⟨p, wa, ru, l, d, dx, t, c, a, F, kvs, L, rfl, hA, ht, hL, hm, hb, kk⟩ := h
  refine ⟨_, (pss_cons (ps_set (i := 2) sc_Ages_walked.nd rfl (Or.inl rfl) (pe_callB (call_lenI (c_Way_len T) hr (by omega)) (by rfl) T.n_len (by decide +kernel) (pa_cons (pe_fld (pv 0) rfl) pa_nil)))
    (pss_cons (ps_set (i := 3) sc_Ages_walked.nd rfl (Or.inr rfl) (pe_lc (own := [("node", 4)]) (g := gName 4) (tt := tYes) rfl sc_Ages_walked.nd (pi_range1 (by rfl) T.n_range (pa_cons (pv 2) pa_nil)) (blkOk_by (N := N_Ages_walked) (sc := L2.defScope s_Ages_walked) (by decide +kernel)) (fun _ _ _ _ _ => (pg_name (i := 4) sc_Ages_walked.nd rfl (by first | exact Or.inl rfl | exact Or.inr rfl))) (fun _ _ _ _ _ => pts_nil) (fun _ _ _ _ _ => (pe_mt hS hr (by omega) (pv 0) (pa_cons (pv 1) (pa_cons (pv 4) pa_nil))))))
    (pss_cons (ps_setLc (i := 5) (own := [("node", 4)]) (g := gName 4) rfl sc_Ages_walked.nd rfl rfl (sw_true rfl rfl rfl (by decide +kernel)) (pi_range1 (by rfl) T.n_range (pa_cons (pv 2) pa_nil)) (blkOk_by (N := N_Ages_walked) (sc := L2.defScope s_Ages_walked) (by decide +kernel)) (fun _ _ _ _ _ => (pg_name (i := 4) sc_Ages_walked.nd rfl (by first | exact Or.inl rfl | exact Or.inr rfl))) (fun _ _ _ _ _ => (pts_one (pt_cmpR op_eq (pe_ix (ixLK (K := K)) (pv 3) (pv 4) (fun _ _ => rfl)) (pe_un un_neg pe_int) (nomark _)))) (fun _ _ _ _ _ => (pv 4)))
    (pss_cons (ps_for PassesOwn.never rfl (pi_range1 (by rfl) T.n_range (pa_cons (pe_op op_add (pe_op op_mul pe_int (pv 2)) pe_int) pa_nil)) (pg_name (i := 6) sc_Ages_walked.nd rfl (by first | exact Or.inl rfl | exact Or.inr rfl))
    (pss_one (ps_for PassesOwn.never rfl (pi_list (pv 5)) (pg_name (i := 4) sc_Ages_walked.nd rfl (by first | exact Or.inl rfl | exact Or.inr rfl))
    (pss_cons (ps_set (i := 7) sc_Ages_walked.nd rfl (Or.inl rfl) (pe_mt (c_Ages_arriving T) hr (by omega) (pv 0) (pa_cons (pv 3) (pa_cons (pv 4) pa_nil))))
    (pss_one (ps_if (pt_val (pe_c (c_is_more T) hr (by omega) (by rfl) (pa_cons (pv 7) (pa_cons (pe_ix ix_list (pv 3) (pv 4) (fun _ _ => rfl)) pa_nil)))) (pss_one (ps_asg (pe_ifExp (pt_cmpR op_gt (pv 6) (pv 2) (nomark _)) pe_non (pv 7)) (pg_sub (pv 3) (pv 4) set_list))) pss_nil))))))
    (pss_one (ps_ret (pv 3))))))), ?_⟩
  have ok := hA.wy'.1
  have hle := ok.le
  have hpos := ok.pos
  have hdt : t ≠ d := ne_of ht hA.kp (by intro z; cases z)
  obtain ⟨dw, fw, how⟩ := hA.wy'.ins
  refine ⟨_, rfl, p, _, dx, _, _, rfl, hA.ob', T.k_Ages.cl, T.na_Ages_way, lk1 rfl, wa, dw, fw, rfl, how, wa, c, rfl, hA.wy', _, rfl, ⟨by omega, by omega⟩, ?_⟩
  refine ⟨_, rfl, _, rfl, by omega, by omega, fun D hD => ?_⟩
  have nDd : D ≠ d := (ne_fr hA.kp hD).symm
  refine lc_it (walk_range (lo := 0) (n := c.n)) (fun i H' => ∃ kvs', Ex (del H d) (del H' d) ∧ H' d = some (.dT kvs') ∧ KeptOk (del (del H' d) D) c a kvs' ∧ kvs'.length ≤ kvs.length + i * b ∧ H' D = some (.lst (ivs i (setl a c L))))
    ⟨kvs, exd (Evl.Ex.new hD), by rw [upd_ne nDd.symm]; exact hA.kp, hA.kk.ext (ex_del2 (exd (Evl.Ex.new hD)) (del_none hD)), by omega, upd_same⟩ (fun _ _ _ _ => trivial) ?_ ?_
  · rintro i x H1 H2 hi ⟨kvs1, x1, k1, o1, l1, h1D⟩ ⟨rfl, hx⟩
    obtain rfl : x = V.int (i : Nat) := hx.trans (congrArg V.int (Int.zero_add _))
    have hA1 := hA.step x1 k1 (o1.ext del_ex)
    have ht1 : H2 t = some (.tup (lv L)) := del_ex _ _ (x1 _ _ (del_of hdt ht))
    have hmul : (i + 1) * b ≤ 12 * b := Nat.mul_le_mul_right b (by omega)
    have hsm : (i + 1) * b = i * b + b := Nat.succ_mul i b
    refine ⟨rfl, _, rfl, p, dx, _, rfl, hA1.ob', lkN (by decide +kernel) (by decide +kernel) (by decide +kernel) (by decide +kernel), _, rfl, _, rfl, p, wa, ru, l, d, dx, t, c, a, F, kvs1, i, L, rfl, hA1, hi, ht1, hL, hm, by omega, fun H4 kvs4 x4 k4 o4 l4 => ?_⟩
    have h4D : H4 D = some (.lst (ivs i (setl a c L))) := del_ex _ _ (x4 _ _ (del_of nDd h1D))
    refine ⟨_, h4D, szt (by rw [ivs_len]; omega), kvs4, exd_mut (x1.trans x4) hD, by rw [upd_ne nDd.symm]; exact k4, ?_, by omega, by rw [upd_same, ivs_succ]⟩
    rw [del2_upd]
    intro L' v hv
    obtain ⟨t', e', h'⟩ := o4 L' v hv
    refine ⟨t', e', del_of (fun z => ?_) h'⟩
    have := del_ex _ _ h'
    rw [z, h4D] at this
    have h2 := congrArg List.length (HO.lst.inj (Option.some.inj this))
    rw [ivs_len, ivs_len] at h2
    omega
  rintro H1 ⟨kvs2, x1, k1, o1, l1, h1D⟩
  have hnb : c.n * b ≤ 12 * b := Nat.mul_le_mul_right b (by omega)
  refine ⟨_, rfl, _, rfl, by omega, by omega, fun S hS0 => ?_⟩
  have nSD : S ≠ D := (ne_fr h1D hS0).symm
  have nSd : S ≠ d := (ne_fr k1 hS0).symm
  refine lc_filt (walk_range (lo := 0) (n := c.n)) (fun i => decide (setl a c L i = -1)) (fun i => .int (i : Nat)) hS0 (by omega) (fun _ _ => trivial) ?_ ?_
  · rintro i x H2 H3 hi e ⟨rfl, hx⟩ R S' g1 g2
    obtain rfl : x = V.int (i : Nat) := hx.trans (congrArg V.int (Int.zero_add _))
    refine ⟨rfl, _, rfl, _, rfl, D, _, _, _, rfl, rfl, SqL.of (e _ _ h1D), atI_nat (ivs_at hi), _, rfl, rfl, _, rfl, ?_⟩
    by_cases q : setl a c L i = -1
    · exact iteDT (by rw [q]) ⟨_, rfl, g1 (by simp [q]) _ (Evl.Ex.refl _)⟩
    · exact iteDF (neI q) (g2 (by simp [q]) _ (Evl.Ex.refl _))
  intro H2 e2 hSl
  have setl_age : ∀ j, ¬ setl a c L j = -1 → setl a c L j = age a c L j := by
    intro j q
    unfold setl at q ⊢
    split at q
    · exact absurd rfl q
    · rename_i z
      rw [if_neg z]
  have pass_of : ∀ j, j < c.n → setl a c L j = -1 → nearL (c.d j) L = [] ∧ ¬ ((c.d j).isRead = true ∧ Mark.R ∈ L) := by
    intro j hj q
    by_cases z : nearL (c.d j) L = [] ∧ ¬ ((c.d j).isRead = true ∧ Mark.R ∈ L)
    · exact z
    · unfold setl at q
      rw [if_neg z] at q
      have := age_nn (a := a) ok hL hj
      omega
  -- what stays the same from now on
  let B : Hp → Prop := fun H' => Ex (del H d) (del H' d) ∧ H' d = some (.dT kvs2) ∧ KeptOk (del (del H' d) D) c a kvs2 ∧ H' S = some (.lst (((List.range c.n).filter fun i => decide (setl a c L i = -1)).map fun i => .int (i : Nat)))
  have Bext : ∀ {H' H'' : Hp}, Ex H' H'' → B H' → B H'' := fun e z => ⟨z.1.trans (exd e), e _ _ z.2.1, z.2.2.1.ext (del_mono (exd e)), e _ _ z.2.2.2⟩
  have Bmut : ∀ {H' : Hp} {o : HO}, B H' → B (upd H' D o) := fun z => ⟨exd_mut z.1 hD, by rw [upd_ne nDd.symm]; exact z.2.1, by rw [del2_upd]; exact z.2.2.1, by rw [upd_ne nSD]; exact z.2.2.2⟩
  have Bag : ∀ {H' : Hp}, B H' → AgIs K H' c a p wa ru l d dx F kvs2 := fun z => hA.step z.1 z.2.1 (z.2.2.1.ext del_ex)
  have hB2 : B H2 := ⟨x1.trans (exd e2), e2 _ _ k1, o1.ext (del_mono (exd e2)), hSl⟩
  refine ⟨_, rfl, _, _, rfl, rfl, .inl ⟨by decide, by decide⟩, _, _, rfl, rfl, _, rfl, by omega, by omega, ?_⟩
  refine for_it (walk_range (lo := 0) (n := (2 * ((c.n : Nat) : Int) + 1).toNat)) (fun i σ H' => ∃ u4 u6 u7, σ = [some (.ref p), some (.ref t), some (.int (c.n : Nat)), some (.ref D), u4, some (.ref S), u6, u7] ∧ B H' ∧ ∃ g, H' D = some (.lst (ivs c.n g)) ∧ (∀ j, j < c.n → g j = age a c L j ∨ (g j = -1 ∧ setl a c L j = -1)) ∧ (0 < i → ∀ j, j < c.n → g j = age a c L j))
    ⟨none, none, none, rfl, hB2, _, e2 _ _ h1D, fun j hj => ?_, fun z => absurd z (Nat.lt_irrefl _)⟩ (fun _ _ _ _ _ => trivial) ?_ ?_
  · by_cases q : setl a c L j = -1
    · exact .inr ⟨q, q⟩
    · exact .inl (setl_age j q)
  · rintro i x σ H3 H4 hi ⟨u4, u6, u7, rfl, hB, g, hg, hgo, hgi⟩ ⟨rfl, hx⟩
    obtain rfl : x = V.int (i : Nat) := hx.trans (congrArg V.int (Int.zero_add _))
    refine ⟨_, rfl, S, rfl, ⟨_, SqL.of hB.2.2.2⟩, ?_⟩
    refine for_it (walk_list (K := K) (a := S) (xs := ((List.range c.n).filter fun i => decide (setl a c L i = -1)).map fun i => .int (i : Nat))) (fun i' σ H' => ∃ u4 u7, σ = [some (.ref p), some (.ref t), some (.int (c.n : Nat)), some (.ref D), u4, some (.ref S), some (.int (i : Nat)), u7] ∧ B H' ∧ ∃ g, H' D = some (.lst (ivs c.n g)) ∧ (∀ j, j < c.n → g j = age a c L j ∨ (g j = -1 ∧ setl a c L j = -1)) ∧
      (∀ j, j < c.n → setl a c L j = -1 → (∀ i'', i' ≤ i'' → ((List.range c.n).filter fun i => decide (setl a c L i = -1))[i'']? ≠ some j) → g j = age a c L j) ∧ (0 < i → ∀ j, j < c.n → g j = age a c L j))
      ⟨_, _, rfl, hB, g, hg, hgo, fun j hj hs hno => ?_, hgi⟩ (fun _ _ _ _ ⟨_, _, _, z, _⟩ => SqL.of z.2.2.2) ?_ ?_
    · exfalso
      have : j ∈ (List.range c.n).filter fun i => decide (setl a c L i = -1) := by simp [hj, hs]
      obtain ⟨i', hi'⟩ := List.mem_iff_getElem?.mp this
      exact hno i' (Nat.zero_le _) hi'
    · rintro i' x σ H5 H6 hi' ⟨u4, u7, rfl, hB, g, hg, hgo, hgp, hgi⟩ ⟨rfl, hx⟩
      obtain ⟨k, hk, rfl⟩ : ∃ k, ((List.range c.n).filter fun i => decide (setl a c L i = -1))[i']? = some k ∧ V.int (k : Nat) = x := by
        rw [List.getElem?_map] at hx
        cases hq : ((List.range c.n).filter fun i => decide (setl a c L i = -1))[i']? with
        | none => rw [hq] at hx; cases hx
        | some k => rw [hq] at hx; exact ⟨k, rfl, Option.some.inj hx⟩
      have hmem := List.mem_of_getElem? hk
      obtain ⟨hkn, hkp⟩ : k < c.n ∧ setl a c L k = -1 := by simpa using hmem
      obtain ⟨pn, pt⟩ := pass_of k hkn hkp
      have hk0 : k ≠ 0 := fun z => by
        rw [z] at pn
        exact near_maker hL ok.mk0 pn
      obtain ⟨j, rfl⟩ : ∃ j, k = j + 1 := ⟨k - 1, by omega⟩
      have hjn : j < c.n := by omega
      have hgj : g j = age a c L j := by
        by_cases z : setl a c L j = -1
        · refine hgp j hjn z fun i'' h1 h2 => ?_
          have := filt_le hk h2 h1
          omega
        · rcases hgo j hjn with y | y
          · exact y
          · exact absurd y.2 z
      have hnn := age_nn (a := a) ok hL hjn
      have hnk := age_nn (a := a) ok hL hkn
      have hage := age_none (a := a) ok hL hkn pn pt
      have harr : arr c g (j + 1) = age a c L (j + 1) := by
        simp only [arr]
        rw [if_neg (by omega), hgj, hage]
      have hAg := Bag hB
      refine ⟨_, rfl, p, dx, _, rfl, hAg.ob', lkN (by decide +kernel) (by decide +kernel) (by decide +kernel) (by decide +kernel), _, rfl, _, rfl, p, wa, ru, l, d, dx, D, c, a, F, kvs2, j + 1, g, rfl, hAg, hkn, hg, fun i hi => ?_, fun H7 e7 => ?_⟩
      · rcases hgo i hi with y | y
        · have := age_nn (a := a) ok hL hi; omega
        · omega
      rw [harr]
      have hB7 := Bext e7 hB
      have hg7 := e7 _ _ hg
      refine ⟨_, rfl, _, rfl, _, rfl, D, _, _, _, rfl, rfl, SqL.of hg7, atI_nat (ivs_at hkn), _, _, rfl, ?_⟩
      refine ⟨_, rfl, ?_⟩
      by_cases q : age a c L (j + 1) > g (j + 1)
      · refine iteDT q ?_
        have gm : g (j + 1) = -1 := by
          rcases hgo _ hkn with y | y
          · omega
          · exact y.1
        have hi0 : i = 0 := by
          rcases Nat.eq_zero_or_pos i with z | z
          · exact z
          · have := hgi z _ hkn; omega
        subst hi0
        have hix : ixN (ivs c.n g).length ((j + 1 : Nat) : Int) = some (j + 1) := by rw [ivs_len]; exact ixN_at hkn
        refine ⟨_, rfl, _, rfl, _, _, rfl, rfl, _, rfl, iteDF (show ¬ (((0 : Nat) : Int) > (c.n : Nat)) by omega) ?_⟩
        refine ⟨_, rfl, _, rfl, _, rfl, D, _, _, j + 1, rfl, rfl, hg7, hix, ?_⟩
        refine ⟨_, _, rfl, Bmut hB7, _, by rw [upd_same, ivs_set], fun i hi => ?_, fun i hi hs hno => ?_, fun z => absurd z (Nat.lt_irrefl _)⟩
        · by_cases z : i = j + 1
          · subst z; simp
          · simpa [z] using hgo i hi
        · by_cases z : i = j + 1
          · subst z; simp
          · simp only [z, if_false]
            exact hgp i hi hs fun i'' h1 h2 => by
              rcases Nat.lt_or_eq_of_le h1 with y | y
              · exact hno i'' (by omega) h2
              · subst y; rw [hk] at h2; exact z (Option.some.inj h2).symm
      · refine iteDF q ?_
        have gm : g (j + 1) = age a c L (j + 1) := by
          rcases hgo _ hkn with y | y
          · exact y
          · omega
        refine ⟨_, _, rfl, hB7, g, hg7, hgo, fun i hi hs hno => ?_, hgi⟩
        by_cases z : i = j + 1
        · subst z; exact gm
        · exact hgp i hi hs fun i'' h1 h2 => by
            rcases Nat.lt_or_eq_of_le h1 with y | y
            · exact hno i'' (by omega) h2
            · subst y; rw [hk] at h2; exact z (Option.some.inj h2).symm
    · rintro σ H5 ⟨u4, u7, rfl, hB, g, hg, hgo, hgp, hgi⟩
      refine ⟨_, _, _, rfl, hB, g, hg, hgo, fun _ j hj => ?_⟩
      by_cases z : setl a c L j = -1
      · refine hgp j hj z fun i'' h1 h2 => ?_
        have h3 := (List.getElem?_eq_some_iff.mp h2).1
        rw [List.length_map] at h1
        omega
      · rcases hgo j hj with y | y
        · exact y
        · exact absurd y.2 z
  · rintro σ H3 ⟨u4, u6, u7, rfl, hB, g, hg, hgo, hgi⟩
    refine ⟨_, rfl, kk D H3 kvs2 hB.1 hB.2.1 (hB.2.2.1.ext del_ex) (by omega) ?_⟩
    rw [hg]
    congr 2
    exact ivs_congr fun j hj => hgi (by omega) j hj
end
end Ag
set_option maxHeartbeats 4000000
/-! Ages: the making; the table at all looks. -/
namespace Ag
open PySem PySem.Spec PyProof.Rows L2
open C8 (Cal Met Mak pe_c pe_mt pe_mt0 pe_mk pe_gc)
open Evl (Ex)
theorem StrAt.dl {K : PySem.W.Frag} {H : Hp} {x m C dx : Addr} {fs : List (Str × V)} {o : Option Int} (hx : H x = some (.ins C dx fs)) (hf : fs.length ≠ 1) (h : StrAt K H m o) : StrAt K (del H x) m o := by
  obtain ⟨dm, l, h1, h2⟩ := h
  have nm : m ≠ x := fun z => by
    rw [z, hx] at h1
    injection h1 with h1
    injection h1 with _ _ h1
    rw [h1] at hf
    exact hf rfl
  refine ⟨dm, l, del_of nm h1, ?_⟩
  cases o with
  | none => exact del_of (ne_of h2 hx (by intro z; cases z)) h2
  | some n =>
    obtain ⟨t, a, b⟩ := h2
    exact ⟨t, del_of (ne_of a hx (by intro z; cases z)) a, del_of (ne_of b hx (by intro z; cases z)) b⟩
section
variable {P : Program} {w : World} {K : PySem.W.Frag} {mg : Str → Option Value} {base : Heap}
def sp_Ages_init (K : PySem.W.Frag) : Sp := fun vs H Q _ => ∃ (x wa ru dx : Addr) (c : Chain) (a : Int) (H0 : Hp), vs = [.ref x, .ref wa, .ref ru] ∧ H x = some (.ins (cAges K) dx []) ∧ Ex H0 H ∧ H0 x = none ∧ WayAt K H0 wa c ∧ RuleAt K H0 ru a ∧ 1 ≤ a ∧ a ≤ 2000 ∧
  ∀ l d F H', Ex H0 H' → H0 d = none → AgIs K H' c a x wa ru l d dx F [] → Q .non H'
theorem c_Ages_init (T : Top K mg) : Mak P w K mg base 8 "Ages" (cAges K) (sp_Ages_init K) [] := by
  refine mkMak T.g_Ages T.i_Ages sc_Ages_init (fun _ _ _ _ _ _ us hl => match us, hl with | [_, _, _], _ => rfl) (fun vs H Q E h => by (obtain ⟨_, _, _, _, _, _, _, rfl, _⟩ := h; rfl)) (fun f cdv A outer s H vs Q E hr h => ?_)
  obtain ⟨x, wa, ru, dx, c, a, H0, rfl, hx, e0, n0, hw, hq, a1, a2, kk⟩ := h
  refine ⟨_, (pss_cons (ps_fld (pv 0) (pv 1) rfl)
    (pss_cons (ps_fld (pv 0) (pv 2) rfl)
    (pss_cons (ps_fld (pv 0) (pe_c (c_all_ages T) hr (by decide) (by rfl) (pa_cons (pv 1) (pa_cons (pv 2) pa_nil))) rfl)
    (pss_one (ps_fld (pv 0) pe_dnewT rfl))))), ?_⟩
  refine ⟨_, rfl, _, rfl, x, _, dx, _, rfl, hx, T.k_Ages.cl, T.na_Ages_way, (by show 0 < 1000; decide), ?_⟩
  refine ⟨_, rfl, _, rfl, x, _, dx, _, rfl, upd_same, T.k_Ages.cl, T.na_Ages_rule, (by show 1 < 1000; decide), ?_⟩
  rw [upd_upd, pf0, pf2 (by decide +kernel), pf0]
  obtain ⟨H1, q_, e1, h1, f1⟩ := mut_ex (o := .ins (cAges K) dx [("way", .ref wa), ("rule", .ref ru)]) e0 n0
  rw [← q_]; clear q_
  refine ⟨_, rfl, _, rfl, wa, ru, c, a, rfl, hw.ext e1, hq.ext e1, a1, a2, fun l F H2 e2 hl h2 hF => ?_⟩
  have hx2 := e2 _ _ h1
  refine ⟨_, rfl, x, _, dx, _, rfl, hx2, T.k_Ages.cl, T.na_Ages_read_ages, (by show 2 < 1000; decide), fun d hd => ?_⟩
  rw [pf2 (by decide +kernel), pf2 (by decide +kernel), pf0] at hd ⊢
  have e02 := e1.trans e2
  obtain ⟨H3, q3, h3⟩ : ∃ H3, H3 = upd H2 x (.ins (cAges K) dx [("way", .ref wa), ("rule", .ref ru), ("read_ages", .ref l)]) ∧ H3 x = some (.ins (cAges K) dx [("way", .ref wa), ("rule", .ref ru), ("read_ages", .ref l)]) := ⟨_, rfl, upd_same⟩
  rw [← q3] at hd ⊢
  have ndx : d ≠ x := (ne_fr h3 hd).symm
  have hd2 : H2 d = none := by rw [q3, upd_ne ndx] at hd; exact hd
  refine ⟨_, rfl, x, _, dx, _, rfl, by rw [upd_ne ndx.symm]; exact h3, T.k_Ages.cl, T.na_Ages_kept, (by show 3 < 1000; decide), ?_⟩
  rw [pf2 (by decide +kernel), pf2 (by decide +kernel), pf2 (by decide +kernel), pf0]
  obtain ⟨H4, q4, h4⟩ : ∃ H4, H4 = upd (upd H3 d (.dT [])) x (.ins (cAges K) dx [("way", .ref wa), ("rule", .ref ru), ("read_ages", .ref l), ("kept", .ref d)]) ∧ H4 x = some (.ins (cAges K) dx [("way", .ref wa), ("rule", .ref ru), ("read_ages", .ref l), ("kept", .ref d)]) := ⟨_, rfl, upd_same⟩
  rw [← q4]
  -- what H2 holds beside x stands
  have keep : Ex (del H2 x) (del H4 d) := by
    intro y o h
    have ny : y ≠ x := fun z => by unfold del at h; rw [if_pos z] at h; cases h
    have hy := del_ex _ _ h
    have nd : y ≠ d := ne_fr hy hd2
    refine del_of nd ?_
    rw [q4, upd_ne ny, upd_ne nd, q3, upd_ne ny]
    exact hy
  have d0 : H0 d = none := fr_of e02 hd2
  have e04 : Ex H0 H4 := by
    intro y o h
    have ny : y ≠ x := ne_fr h n0
    have nd : y ≠ d := ne_fr h d0
    rw [q4, upd_ne ny, upd_ne nd, q3, upd_ne ny]
    exact e02 _ _ h
  have e04d : Ex H0 (del H4 d) := ex_del2 e04 d0
  refine kk l d F H4 e04 d0 ⟨del_of ndx.symm h4, hw.ext e04d, hq.ext e04d, keep _ _ (del_of (ne_of h2 hx2 (by intro z; cases z)) h2), fun i hi => ?_, ?_, fun L v hv => ?_, a1, a2⟩
  · obtain ⟨m, h5, h6⟩ := hF i hi
    exact ⟨m, h5, (h6.dl hx2 (by simp)).ext keep⟩
  · rw [q4, upd_ne ndx, upd_same]
  · rw [valV_nil] at hv; cases hv
/-- the table at all looks of one, two, three marks -/
theorem tab0 (T : Top K mg) : Met P w K mg base 8 (cAges K) "table" (sp_Ages_table K 0 0) [] := by
  refine mkMet T.k_Ages.cl T.m_Ages_table sc_Ages_table (fun _ _ _ _ _ _ us hl => match us, hl with | [_, _], _ => rfl) (fun vs H Q E h => by (obtain ⟨_, _, _, _, _, _, _, _, _, _, _, _, rfl, _⟩ := h; rfl)) (fun f cdv A outer s H vs Q E hr h => ?_)
  obtain ⟨p, wa, ru, l, d, dx, t, c, a, F, kvs, L, rfl, hA, ht, hL, hm, _⟩ := h
  have := (allL_len hL).2
  omega
theorem tab1 (T : Top K mg) : Met P w K mg base 11 (cAges K) "table" (sp_Ages_table K 1 1) [] := c_Ages_table T (c_Ages_walked T (by decide) (c_Ages_settled T (by decide) (tab0 T)))
theorem tab2 (T : Top K mg) : Met P w K mg base 14 (cAges K) "table" (sp_Ages_table K 2 13) [] := c_Ages_table T (c_Ages_walked T (by decide) (c_Ages_settled T (by decide) (tab1 T)))
theorem tab3 (T : Top K mg) : Met P w K mg base 17 (cAges K) "table" (sp_Ages_table K 3 157) [] := c_Ages_table T (c_Ages_walked T (by decide) (c_Ages_settled T (by decide) (tab2 T)))
end
end Ag
set_option maxHeartbeats 4000000
/-! Least ages. -/
namespace Ag
open PySem PySem.Spec PyProof.Rows L2
open C8 (Cal Met Mak pe_c pe_mt pe_mt0 pe_mk pe_gc)
open Evl (Ex)
theorem one_all (m : Mark) : [m] ∈ allL := by cases m <;> simp [allL]
theorem near1 (d : Deed) (m : Mark) : nearL d [m] = (match setA d m with | none => [] | some b => [b]) := by
  unfold nearL
  cases h : setA d m <;> simp [List.filterMap_cons, h]
theorem rest1 (d : Deed) (m : Mark) : restL d [m] = (match setA d m with | none => [m] | some _ => []) := by
  unfold restL
  cases h : setA d m <;> simp [h]
theorem age1_set {a : Int} {c : Chain} (ok : c.Ok) {m : Mark} {k : Nat} {b : Int} (hk : k < c.n) (h : setA (c.d k) m = some b) : age a c [m] k = b := by
  have hn : nearL (c.d k) [m] = [b] := by rw [near1, h]
  cases k with
  | zero => rw [age_maker ok (one_all m), hn]; rfl
  | succ j => rw [age_all ok (one_all m) hk (by rw [rest1, h]), hn]; rfl
theorem age1_none {a : Int} {c : Chain} (ok : c.Ok) {m : Mark} {k : Nat} (hk : k < c.n) (h : setA (c.d k) m = none) (ht : ¬ ((c.d k).isRead = true ∧ m = .R)) : ∃ j, k = j + 1 ∧ age a c [m] k = age a c [m] j + c.t j := by
  have hn : nearL (c.d k) [m] = [] := by rw [near1, h]
  cases k with
  | zero => exact absurd hn (near_maker (one_all m) ok.mk0)
  | succ j => exact ⟨j, rfl, age_none ok (one_all m) hk hn (fun z => ht ⟨z.1, by have := z.2; simp at this; exact this.symm⟩)⟩
/-- what one_least begins with -/
def h0 (a : Int) (c : Chain) (m : Mark) (k : Nat) : V := if (c.d k).isRead = true ∧ m = .R then .int (rN a c k : Nat) else ((setA (c.d k) m).map V.int).getD .non
theorem h0_cases {a : Int} {c : Chain} (ok : c.Ok) (a1 : 1 ≤ a) {m : Mark} {k : Nat} (hk : k < c.n) : h0 a c m k = .int (age a c [m] k) ∨ (h0 a c m k = .non ∧ ∃ j, k = j + 1 ∧ age a c [m] k = age a c [m] j + c.t j) := by
  unfold h0
  by_cases z : (c.d k).isRead = true ∧ m = .R
  · rw [if_pos z, age_told ok a1 (one_all m) hk z.1 (by rw [z.2]; simp)]
    exact .inl rfl
  · rw [if_neg z]
    cases h : setA (c.d k) m with
    | some b => rw [age1_set ok hk h]; exact .inl rfl
    | none => exact .inr ⟨rfl, age1_none ok hk h z⟩
def wvs (n : Nat) (g : Nat → V) : List V := (List.range n).map g
theorem wvs_len (n : Nat) (f : Nat → V) : (wvs n f).length = n := by simp [wvs]
theorem wvs_at {n : Nat} {f : Nat → V} {k : Nat} (h : k < n) : (wvs n f)[k]? = some (f k) := by simp [wvs, h]
theorem wvs_succ {n : Nat} {f : Nat → V} : wvs (n + 1) f = wvs n f ++ [f n] := rng_succ
theorem wvs_set {n k : Nat} {g : Nat → V} {v : V} : (wvs n g).set k v = wvs n fun j => if j = k then v else g j := rng_set
theorem mark_read (m : Mark) : (m.s = "read") ↔ m = .R := by
  constructor
  · intro h; exact Mark.s_inj (m' := .R) h
  · intro h; rw [h]; rfl
section
variable {P : Program} {w : World} {K : PySem.W.Frag} {mg : Str → Option Value} {base : Heap}
def sp_one_least (K : PySem.W.Frag) : Sp := fun vs H Q _ => ∃ (p q ra : Addr) (c : Chain) (a : Int) (m : Mark) (F : Nat → V), vs = [.ref p, .ref q, .str m.s, .ref ra] ∧ WayAt K H p c ∧ RuleAt K H q a ∧ 1 ≤ a ∧ a ≤ 2000 ∧ H ra = some (.lst (wvs c.n F)) ∧ (∀ i, i < c.n → ∃ mm, F i = .ref mm ∧ StrAt K H mm (oI (oB a c i))) ∧
  ∀ l H', Ex H H' → H l = none → H' l = some (.lst (ivs c.n (age a c [m]))) → Q (.ref l) H'
theorem c_one_least (T : Top K mg) : Cal P w K mg base 7 "one_least" (sp_one_least K) [] := by
  refine mkCal T.d_one_least sc_one_least (fun _ _ _ _ _ _ us hl => match us, hl with | [_, _, _, _], _ => rfl) (fun vs H Q E h => by (obtain ⟨_, _, _, _, _, _, _, rfl, _⟩ := h; rfl)) (fun f cdv A outer s H vs Q E hr h => ?_)
  obtain ⟨p, q, ra, c, a, m, F, rfl, hw, hq, a1, a2, hra, hF, kk⟩ := h
  have hu := hu_of hr
  refine ⟨_, (pss_cons (ps_set (i := 4) sc_one_least.nd rfl (Or.inr rfl) (pe_lst pa_nil))
    (pss_cons (ps_for PassesOwn.never rfl (pi_range1 (by rfl) T.n_range (pa_cons (pe_callB (call_lenI (c_Way_len T) hr (by decide)) (by rfl) T.n_len (by decide +kernel) (pa_cons (pv 0) pa_nil)) pa_nil)) (pg_name (i := 5) sc_one_least.nd rfl (by first | exact Or.inl rfl | exact Or.inr rfl))
    (pss_one (ps_if (PW.pt (pw_and (pt_cmpR op_eq (pe_pr (c_Rule_word T) hr (by decide) (pv 1)) pe_str (nomark _)) (pw_and (pt_cmpR op_eq (pe_ix ix_tup (ix_own (c_Way_getitem T) hr (by decide) T.gi_Way (pv 0) (pv 5)) pe_int (fun _ _ => rfl)) pe_str (nomark _)) (pw_and1 (pt_cmpR op_eq (pv 2) pe_str (nomark _)))))) (pss_one (ps_expr (pe_bm PySem.F.plainAttrs_list PySem.F.slot_list_append PySem.F.type_list_append mt_append (pv 4) (pa_cons (pe_mt0 (c_Stretches_least T) hr (by decide) (pe_ix ix_list (pv 3) (pv 5) (fun _ _ => rfl))) pa_nil)))) (pss_one (ps_expr (pe_bm PySem.F.plainAttrs_list PySem.F.slot_list_append PySem.F.type_list_append mt_append (pv 4) (pa_cons (pe_dget2 hu (pe_c (c_surely_set T) hr (by decide) (by rfl) (pa_cons (pv 0) (pa_cons (pv 1) (pa_cons (pv 5) pa_nil)))) (pv 2) pe_non ⟨rfl, rfl, rfl, rfl⟩) pa_nil)))))))
    (pss_cons (ps_setLc (i := 6) (own := [("node", 5)]) (g := gName 5) rfl sc_one_least.nd rfl rfl (sw_true rfl rfl rfl (by decide +kernel)) (pi_range1 (by rfl) T.n_range (pa_cons (pe_callB (call_lenI (c_Way_len T) hr (by decide)) (by rfl) T.n_len (by decide +kernel) (pa_cons (pv 0) pa_nil)) pa_nil)) (blkOk_by (N := N_one_least) (sc := L2.defScope s_one_least) (by decide +kernel)) (fun _ _ _ _ _ => (pg_name (i := 5) sc_one_least.nd rfl (by first | exact Or.inl rfl | exact Or.inr rfl))) (fun _ _ _ _ _ => (pts_one (pt_cmpR op_isN (pe_ix (ixLK (K := K)) (pv 4) (pv 5) (fun _ _ => rfl)) pe_non (nomark _)))) (fun _ _ _ _ _ => (pv 5)))
    (pss_cons (ps_for PassesOwn.never rfl (pi_range1 (by rfl) T.n_range (pa_cons (pe_callB (call_lenI (c_Way_len T) hr (by decide)) (by rfl) T.n_len (by decide +kernel) (pa_cons (pv 0) pa_nil)) pa_nil)) (pg_name (i := 7) sc_one_least.nd rfl (by first | exact Or.inl rfl | exact Or.inr rfl))
    (pss_one (ps_for PassesOwn.never rfl (pi_list (pv 6)) (pg_name (i := 5) sc_one_least.nd rfl (by first | exact Or.inl rfl | exact Or.inr rfl))
    (pss_one (ps_for PassesOwn.never rfl (pi_list (pe_mt (c_Way_into T) hr (by decide) (pv 0) (pa_cons (pv 5) pa_nil))) (pg_tup rfl (pgs_cons (pg_name (i := 8) sc_one_least.nd rfl (by first | exact Or.inl rfl | exact Or.inr rfl)) (pgs_cons (pg_name (i := 9) sc_one_least.nd rfl (by first | exact Or.inl rfl | exact Or.inr rfl)) (pgs_cons (pg_name (i := 10) sc_one_least.nd rfl (by first | exact Or.inl rfl | exact Or.inr rfl)) (pgs_cons (pg_name (i := 11) sc_one_least.nd rfl (by first | exact Or.inl rfl | exact Or.inr rfl)) (pgs_cons (pg_name (i := 12) sc_one_least.nd rfl (by first | exact Or.inl rfl | exact Or.inr rfl)) pgs_nil))))))
    (pss_one (ps_if (PW.pt (pw_and (pt_cmpR op_notN (pe_ix ix_list (pv 4) (pv 8) (fun _ _ => rfl)) pe_non (nomark _)) (pw_and1 (PW.pt (pw_or (pt_cmpR op_isN (pe_ix ix_list (pv 4) (pv 5) (fun _ _ => rfl)) pe_non (nomark _)) (pw_or1 (pt_cmpR op_lt (pe_op op_add (pe_ix ix_list (pv 4) (pv 8) (fun _ _ => rfl)) (pv 10)) (pe_ix ix_list (pv 4) (pv 5) (fun _ _ => rfl)) (nomark _)))))))) (pss_one (ps_asg (pe_op op_add (pe_ix ix_list (pv 4) (pv 8) (fun _ _ => rfl)) (pv 10)) (pg_sub (pv 4) (pv 5) set_list))) pss_nil)))))))
    (pss_one (ps_ret (pv 4))))))), ?_⟩
  have ok := hw.1
  have hle := ok.le
  obtain ⟨dx, fs, ho⟩ := hw.ins
  obtain ⟨dq, fq, hoq⟩ := hq.ins
  refine ⟨Nat.zero_le _, fun l hl => ?_⟩
  have e1 : Ex H (upd H l (.lst [])) := Evl.Ex.new hl
  refine ⟨_, rfl, p, dx, fs, rfl, e1 _ _ ho, p, c, rfl, hw.ext e1, _, rfl, ⟨by omega, by omega⟩, _, rfl, by omega, by omega, ?_⟩
  refine for_it (walk_range (lo := 0) (n := c.n)) (fun i σ H' => ∃ u, σ = [some (.ref p), some (.ref q), some (.str m.s), some (.ref ra), some (.ref l), u, none, none, none, none, none, none, none] ∧ Ex H H' ∧ H' l = some (.lst (wvs i (h0 a c m))))
    ⟨none, rfl, e1, upd_same⟩ (fun _ _ _ _ _ => trivial) ?_ ?_
  · rintro i x σ H1 H2 hi ⟨u, rfl, e, h1l⟩ ⟨rfl, hx⟩
    obtain rfl : x = V.int (i : Nat) := hx.trans (congrArg V.int (Int.zero_add _))
    have hw1 := hw.ext e
    have hq1 := hq.ext e
    refine ⟨_, rfl, q, dq, fq, rfl, e _ _ hoq, q, a, rfl, hq1, rfl, _, rfl, iteT ?_⟩
    refine ⟨_, rfl, _, rfl, p, dx, fs, rfl, e _ _ ho, p, c, i, rfl, hw1, hi, fun t ht => ?_⟩
    refine ⟨t, _, _, _, rfl, rfl, SqT.of ht, (c.d i).hd, rfl, _, rfl, ?_⟩
    have other : ¬ ((c.d i).isRead = true ∧ m = .R) → ∀ H3, Ex H2 H3 → Ex H (upd H3 l (.lst (wvs i (h0 a c m) ++ [((setA (c.d i) m).map V.int).getD .non]))) ∧ upd H3 l (.lst (wvs i (h0 a c m) ++ [((setA (c.d i) m).map V.int).getD .non])) l = some (.lst (wvs (i + 1) (h0 a c m))) := by
      intro z H3 e3
      refine ⟨Evl.Ex.mut (e.trans e3) hl, ?_⟩
      have e4 : ((setA (c.d i) m).map V.int).getD .non = h0 a c m i := by unfold h0; rw [if_neg z]
      rw [upd_same, wvs_succ, e4]
    cases hp : (c.d i).isRead with
    | true =>
      refine iteDT (by rw [word_read hp]) ?_
      refine ⟨_, rfl, rfl, _, rfl, ?_⟩
      by_cases hm : m = .R
      · refine iteDT (by rw [hm]; rfl) ?_
        obtain ⟨mm, hFi, hS⟩ := hF i hi
        have hS' := hS.ext e
        obtain ⟨dm, lm, xm, hm1, _⟩ := hS'.fld
        refine ⟨_, rfl, .inl ⟨rfl, _, SqL.of h1l⟩, _, rfl, _, rfl, ra, _, _, _, rfl, rfl, SqL.of (e _ _ hra), atI_nat (wvs_at hi), mm, dm, _, hFi, hm1, lk_own (by decide +kernel), mm, _, (by rw [hFi]; rfl), hS', fun H3 e3 => ?_⟩
        refine ⟨l, _, _, rfl, rfl, e3 _ _ h1l, szt (by rw [wvs_len]; omega), ?_⟩
        refine ⟨_, rfl, Evl.Ex.mut (e.trans e3) hl, ?_⟩
        have e4 : oV (oI (oB a c i)) = h0 a c m i := by
          unfold h0 oB
          rw [if_pos hp, if_pos ⟨hp, hm⟩]
          rfl
        rw [upd_same, wvs_succ, e4]
      · refine iteDF (neS (fun z => hm ((mark_read m).mp z))) ?_
        refine ⟨_, rfl, .inl ⟨rfl, _, SqL.of h1l⟩, _, rfl, _, rfl, _, rfl, p, q, c, a, i, rfl, hw1, hq1, hi, fun s H3 e3 hs h3 => ?_⟩
        refine ⟨s, rfl, .inl ⟨_, .inl h3⟩, _, rfl, _, dg_set h3 m, l, _, _, rfl, rfl, e3 _ _ h1l, szt (by rw [wvs_len]; omega), ?_⟩
        exact ⟨_, rfl, other (fun z => hm z.2) H3 e3⟩
    | false =>
      refine iteDF (neS (word_nread hp)) ?_
      refine ⟨_, rfl, .inl ⟨rfl, _, SqL.of h1l⟩, _, rfl, _, rfl, _, rfl, p, q, c, a, i, rfl, hw1, hq1, hi, fun s H3 e3 hs h3 => ?_⟩
      refine ⟨s, rfl, .inl ⟨_, .inl h3⟩, _, rfl, _, dg_set h3 m, l, _, _, rfl, rfl, e3 _ _ h1l, szt (by rw [wvs_len]; omega), ?_⟩
      exact ⟨_, rfl, other (fun z => by rw [hp] at z; cases z.1) H3 e3⟩
  rintro σ H1 ⟨u, rfl, e, h1l⟩
  refine ⟨_, rfl, p, dx, fs, rfl, e _ _ ho, p, c, rfl, hw.ext e, _, rfl, ⟨by omega, by omega⟩, _, rfl, by omega, by omega, fun S hS0 => ?_⟩
  have nSl : S ≠ l := (ne_fr h1l hS0).symm
  refine lc_filt (walk_range (lo := 0) (n := c.n)) (fun i => decide (h0 a c m i = .non)) (fun i => .int (i : Nat)) hS0 (by omega) (fun _ _ => trivial) ?_ ?_
  · rintro i x H2 H3 hi e' ⟨rfl, hx⟩ R S' g1 g2
    obtain rfl : x = V.int (i : Nat) := hx.trans (congrArg V.int (Int.zero_add _))
    refine ⟨rfl, _, rfl, _, rfl, l, _, _, _, rfl, rfl, SqL.of (e' _ _ h1l), atI_nat (wvs_at hi), rfl, _, rfl, ?_⟩
    by_cases z : h0 a c m i = .non
    · exact iteDT z ⟨_, rfl, g1 (by simp [z]) _ (Evl.Ex.refl _)⟩
    · exact iteDF z (g2 (by simp [z]) _ (Evl.Ex.refl _))
  intro H2 e2 hSl
  let B : Hp → Prop := fun H' => Ex H H' ∧ H' S = some (.lst (((List.range c.n).filter fun i => decide (h0 a c m i = .non)).map fun i => .int (i : Nat)))
  have Bext : ∀ {H' H'' : Hp}, Ex H' H'' → B H' → B H'' := fun e z => ⟨z.1.trans e, e _ _ z.2⟩
  have Bmut : ∀ {H' : Hp} {o : HO}, B H' → B (upd H' l o) := fun z => ⟨Evl.Ex.mut z.1 hl, by rw [upd_ne nSl]; exact z.2⟩
  have hB2 : B H2 := ⟨e.trans e2, hSl⟩
  have ee2 := e.trans e2
  refine ⟨_, rfl, p, dx, fs, rfl, ee2 _ _ ho, p, c, rfl, hw.ext ee2, _, rfl, ⟨by omega, by omega⟩, _, rfl, by omega, by omega, ?_⟩
  refine for_it (walk_range (lo := 0) (n := c.n)) (fun i σ H' => ∃ u5 u7 u8 u9 u10 u11 u12, σ = [some (.ref p), some (.ref q), some (.str m.s), some (.ref ra), some (.ref l), u5, some (.ref S), u7, u8, u9, u10, u11, u12] ∧ B H' ∧ ∃ g, H' l = some (.lst (wvs c.n g)) ∧ (∀ j, j < c.n → g j = .int (age a c [m] j) ∨ (g j = .non ∧ h0 a c m j = .non)) ∧ (0 < i → ∀ j, j < c.n → g j = .int (age a c [m] j)))
    ⟨_, _, _, _, _, _, _, rfl, hB2, _, e2 _ _ h1l, fun j hj => ?_, fun z => absurd z (Nat.lt_irrefl _)⟩ (fun _ _ _ _ _ => trivial) ?_ ?_
  · rcases h0_cases ok a1 (m := m) hj with z | z
    · exact .inl z
    · exact .inr ⟨z.1, z.1⟩
  · rintro i x σ H3 H4 hi ⟨u5, u7, u8, u9, u10, u11, u12, rfl, hB, g, hg, hgo, hgi⟩ ⟨rfl, hx⟩
    obtain rfl : x = V.int (i : Nat) := hx.trans (congrArg V.int (Int.zero_add _))
    refine ⟨_, rfl, S, rfl, ⟨_, SqL.of hB.2⟩, ?_⟩
    refine for_it (walk_list (K := K) (a := S) (xs := ((List.range c.n).filter fun i => decide (h0 a c m i = .non)).map fun i => .int (i : Nat))) (fun i' σ H' => ∃ u5 u8 u9 u10 u11 u12, σ = [some (.ref p), some (.ref q), some (.str m.s), some (.ref ra), some (.ref l), u5, some (.ref S), some (.int (i : Nat)), u8, u9, u10, u11, u12] ∧ B H' ∧ ∃ g, H' l = some (.lst (wvs c.n g)) ∧ (∀ j, j < c.n → g j = .int (age a c [m] j) ∨ (g j = .non ∧ h0 a c m j = .non)) ∧
      (∀ j, j < c.n → h0 a c m j = .non → (∀ i'', i' ≤ i'' → ((List.range c.n).filter fun i => decide (h0 a c m i = .non))[i'']? ≠ some j) → g j = .int (age a c [m] j)) ∧ (0 < i → ∀ j, j < c.n → g j = .int (age a c [m] j)))
      ⟨_, _, _, _, _, _, rfl, hB, g, hg, hgo, fun j hj hs hno => ?_, hgi⟩ (fun _ _ _ _ ⟨_, _, _, _, _, _, _, z, _⟩ => SqL.of z.2) ?_ ?_
    · exfalso
      have : j ∈ (List.range c.n).filter fun i => decide (h0 a c m i = .non) := by simp [hj, hs]
      obtain ⟨i', hi'⟩ := List.mem_iff_getElem?.mp this
      exact hno i' (Nat.zero_le _) hi'
    · rintro i' x σ H5 H6 hi' ⟨u5, u8, u9, u10, u11, u12, rfl, hB, g, hg, hgo, hgp, hgi⟩ ⟨rfl, hx⟩
      obtain ⟨k, hk, rfl⟩ : ∃ k, ((List.range c.n).filter fun i => decide (h0 a c m i = .non))[i']? = some k ∧ V.int (k : Nat) = x := by
        rw [List.getElem?_map] at hx
        cases hq : ((List.range c.n).filter fun i => decide (h0 a c m i = .non))[i']? with
        | none => rw [hq] at hx; cases hx
        | some k => rw [hq] at hx; exact ⟨k, rfl, Option.some.inj hx⟩
      have hmem := List.mem_of_getElem? hk
      obtain ⟨hkn, hkp⟩ : k < c.n ∧ h0 a c m k = .non := by simpa using hmem
      obtain ⟨j, rfl, hage⟩ : ∃ j, k = j + 1 ∧ age a c [m] k = age a c [m] j + c.t j := by
        rcases h0_cases ok a1 (m := m) hkn with z | z
        · rw [hkp] at z; cases z
        · exact z.2
      have hjn : j < c.n := by omega
      have hgj : g j = .int (age a c [m] j) := by
        rcases hgo j hjn with y | y
        · exact y
        · refine hgp j hjn y.2 fun i'' h1 h2 => ?_
          have := filt_le hk h2 h1
          omega
      obtain ⟨dw, fw, how, hfw⟩ := (hw.ext hB.1).ob2
      refine ⟨_, rfl, p, dw, fw, rfl, how, hfw _ (by decide +kernel) (by decide +kernel), _, rfl, p, c, j + 1, rfl, hw.ext hB.1, hkn, fun l' xs H7 e7 hl' h7 hx' => ?_⟩
      obtain ⟨ar, rfl, har⟩ : ∃ ar, xs = [.ref ar] ∧ H7 ar = some (.tup (av c j)) := by
        rcases hx' with ⟨z, _⟩ | ⟨j', ar, z, h2, h3⟩
        · omega
        · obtain rfl : j = j' := by omega
          exact ⟨ar, h2, h3⟩
      have hB7 := Bext e7 hB
      have hg7 := e7 _ _ hg
      have nl'l : l' ≠ l := (ne_fr hg hl').symm
      have nar : ar ≠ l := ne_of har hg7 (by intro z; cases z)
      -- the state behind this node
      have nxt : ∃ g' : Nat → V, g' (j + 1) = .int (age a c [m] (j + 1)) ∧ ∀ i, i ≠ j + 1 → g' i = g i := ⟨fun i => if i = j + 1 then .int (age a c [m] (j + 1)) else g i, by simp, fun i hi => by simp [hi]⟩
      have wrap : ∀ (g' : Nat → V), g' (j + 1) = .int (age a c [m] (j + 1)) → (∀ i, i ≠ j + 1 → g' i = g i) → (∀ j, j < c.n → g' j = .int (age a c [m] j) ∨ (g' j = .non ∧ h0 a c m j = .non)) ∧
        (∀ j, j < c.n → h0 a c m j = .non → (∀ i'', i' + 1 ≤ i'' → ((List.range c.n).filter fun i => decide (h0 a c m i = .non))[i'']? ≠ some j) → g' j = .int (age a c [m] j)) ∧ (0 < i → ∀ j, j < c.n → g' j = .int (age a c [m] j)) := by
        intro g' h1 h2
        refine ⟨fun i hi => ?_, fun i hi hs hno => ?_, fun hi0 i hi => ?_⟩
        · by_cases z : i = j + 1
          · rw [z]; exact .inl h1
          · rw [h2 i z]; exact hgo i hi
        · by_cases z : i = j + 1
          · rw [z]; exact h1
          · rw [h2 i z]
            exact hgp i hi hs fun i'' h1 h2 => by
              rcases Nat.lt_or_eq_of_le h1 with y | y
              · exact hno i'' (by omega) h2
              · subst y; rw [hk] at h2; exact z (Option.some.inj h2).symm
        · by_cases z : i = j + 1
          · rw [z]; exact h1
          · rw [h2 i z]; exact hgi hi0 i hi
      refine ⟨l', rfl, ⟨_, SqL.of h7⟩, for_it (walk_list (K := K) (a := l') (xs := [.ref ar])) (fun i'' σ H' => ∃ u8 u9 u10 u11 u12, σ = [some (.ref p), some (.ref q), some (.str m.s), some (.ref ra), some (.ref l), some (.int ((j + 1 : Nat) : Int)), some (.ref S), some (.int (i : Nat)), u8, u9, u10, u11, u12] ∧ B H' ∧ H' l' = some (.lst [.ref ar]) ∧ ∃ g', H' l = some (.lst (wvs c.n g')) ∧ (if i'' = 0 then H' = H7 ∧ g' = g else g' (j + 1) = .int (age a c [m] (j + 1)) ∧ ∀ i, i ≠ j + 1 → g' i = g i))
        ⟨_, _, _, _, _, rfl, hB7, h7, g, hg7, by rw [if_pos rfl]; exact ⟨rfl, rfl⟩⟩ (fun _ _ _ _ ⟨_, _, _, _, _, _, _, z, _⟩ => SqL.of z) ?_ ?_⟩
      · rintro i'' x σ H8 H9 hi'' ⟨u8, u9, u10, u11, u12, rfl, _, _, g', _, hst⟩ ⟨rfl, hx⟩
        obtain rfl : i'' = 0 := by
          have : i'' < 1 := hi''
          omega
        rw [if_pos rfl] at hst
        obtain ⟨rfl, rfl⟩ := hst
        obtain rfl : V.ref ar = x := by simpa using hx
        refine ⟨ar, _, rfl, SqT.of har, rfl, _, _, rfl, _, _, rfl, _, _, rfl, _, _, rfl, _, _, rfl, rfl, ?_⟩
        have gj7 : atI (wvs c.n g') ((j : Nat) : Int) = some (.int (age a c [m] j)) := by rw [← hgj]; exact atI_nat (wvs_at hjn)
        have gk7 : atI (wvs c.n g') ((j + 1 : Nat) : Int) = some (g' (j + 1)) := atI_nat (wvs_at hkn)
        refine ⟨_, rfl, _, rfl, l, _, _, _, rfl, rfl, SqL.of hg7, gj7, rfl, _, rfl, iteT ?_⟩
        refine ⟨_, rfl, _, rfl, l, _, _, _, rfl, rfl, SqL.of hg7, gk7, rfl, _, rfl, ?_⟩
        rcases hgo _ hkn with y | y
        · rw [y]
          refine iteDF (by intro z; cases z) ?_
          refine ⟨_, rfl, _, rfl, l, _, _, _, rfl, rfl, SqL.of hg7, gj7, _, rfl, _, _, rfl, rfl, _, rfl, _, rfl, l, _, _, _, rfl, rfl, SqL.of hg7, gk7, _, _, rfl, y, _, rfl, ?_⟩
          refine iteDF (by omega) ?_
          refine ⟨_, _, _, _, _, rfl, hB7, h7, g', hg7, ?_⟩
          rw [if_neg (by omega)]
          exact ⟨y, fun _ _ => rfl⟩
        · refine iteDT y.1 ?_
          have hix : ixN (wvs c.n g').length ((j + 1 : Nat) : Int) = some (j + 1) := by rw [wvs_len]; exact ixN_at hkn
          refine ⟨_, rfl, _, rfl, l, _, _, _, rfl, rfl, SqL.of hg7, gj7, _, rfl, _, _, rfl, rfl, _, rfl, _, rfl, l, _, _, j + 1, rfl, rfl, hg7, hix, ?_⟩
          refine ⟨_, _, _, _, _, rfl, Bmut hB7, by rw [upd_ne nl'l]; exact h7, _, by rw [upd_same, wvs_set], ?_⟩
          rw [if_neg (by omega)]
          exact ⟨by simp [hage], fun i hi => by simp [hi]⟩
      · rintro σ H8 ⟨u8, u9, u10, u11, u12, rfl, hB8, _, g', hg', hst⟩
        rw [if_neg (by simp)] at hst
        obtain ⟨w1, w2, w3⟩ := wrap g' hst.1 hst.2
        exact ⟨_, _, _, _, _, _, rfl, hB8, g', hg', w1, w2, w3⟩
    · rintro σ H5 ⟨u5, u8, u9, u10, u11, u12, rfl, hB, g, hg, hgo, hgp, hgi⟩
      refine ⟨_, _, _, _, _, _, _, rfl, hB, g, hg, hgo, fun _ j hj => ?_⟩
      rcases hgo j hj with y | y
      · exact y
      · refine hgp j hj y.2 fun i'' h1 h2 => ?_
        have h3 := (List.getElem?_eq_some_iff.mp h2).1
        rw [List.length_map] at h1
        omega
  · rintro σ H3 ⟨u5, u7, u8, u9, u10, u11, u12, rfl, hB, g, hg, hgo, hgi⟩
    refine ⟨_, rfl, kk l H3 hB.1 hl ?_⟩
    rw [hg]
    congr 2
    unfold wvs ivs
    apply List.map_congr_left
    intro j hj
    exact hgi (by have := ok.pos; omega) j (by simpa using hj)
end
end Ag
set_option maxHeartbeats 4000000
/-! Least and greatest ages. -/
namespace Ag
open PySem PySem.Spec PyProof.Rows L2
open C8 (Cal Met Mak pe_c pe_mt pe_mt0 pe_mk pe_gc)
open Evl (Ex)
theorem age1 (a : Int) (c : Chain) (m : Mark) (k : Nat) : age a c [m] k = Mark.of (life a c k) m := rfl
theorem getD_map {α β : Type} (f : α → β) (L : List α) (x : α) : (List.range L.length).map (fun i => f (L.getD i x)) = L.map f := by
  have := congrArg (List.map f) (rng_getD L x)
  rw [List.map_map] at this
  exact this
section
variable {P : Program} {w : World} {K : PySem.W.Frag} {mg : Str → Option Value} {base : Heap}
def sp_least_table (K : PySem.W.Frag) : Sp := fun vs H Q _ => ∃ (p q t : Addr) (c : Chain) (a : Int) (L : List Mark), vs = [.ref p, .ref q, .ref t] ∧ WayAt K H p c ∧ RuleAt K H q a ∧ 1 ≤ a ∧ a ≤ 2000 ∧ H t = some (.tup (lv L)) ∧ L ∈ allL ∧
  ∀ l H', Ex H H' → H l = none → H' l = some (.lst (ivs c.n (age a c L))) → Q (.ref l) H'
theorem c_least_table (T : Top K mg) : Cal P w K mg base 8 "least_table" (sp_least_table K) [] := by
  refine mkCal T.d_least_table sc_least_table (fun _ _ _ _ _ _ us hl => match us, hl with | [_, _, _], _ => rfl) (fun vs H Q E h => by (obtain ⟨_, _, _, _, _, _, rfl, _⟩ := h; rfl)) (fun f cdv A outer s H vs Q E hr h => ?_)
  obtain ⟨p, q, t, c, a, L, rfl, hw, hq, a1, a2, ht, hL, kk⟩ := h
  refine ⟨_, (pss_cons (ps_set (i := 3) sc_least_table.nd rfl (Or.inr rfl) (pe_c (c_all_ages T) hr (by decide) (by rfl) (pa_cons (pv 0) (pa_cons (pv 1) pa_nil))))
    (pss_cons (ps_set (i := 4) sc_least_table.nd rfl (Or.inr rfl) (pe_lc (own := [("mark", 5)]) (g := gName 5) (tt := tYes) rfl sc_least_table.nd (pi_tup (pv 2)) (blkOk_by (N := N_least_table) (sc := L2.defScope s_least_table) (by decide +kernel)) (fun _ _ _ _ _ => (pg_name (i := 5) sc_least_table.nd rfl (by first | exact Or.inl rfl | exact Or.inr rfl))) (fun _ _ _ _ _ => pts_nil) (fun _ _ _ _ _ => (pe_c (c_one_least T) hr (by decide) (by rfl) (pa_cons (pv 0) (pa_cons (pv 1) (pa_cons (pv 5) (pa_cons (pv 3) pa_nil))))))))
    (pss_one (ps_ret (pe_lc (own := [("node", 7)]) (g := gName 7) (tt := tYes) rfl sc_least_table.nd (pi_range1 (by rfl) T.n_range (pa_cons (pe_callB (call_lenI (c_Way_len T) hr (by decide)) (by rfl) T.n_len (by decide +kernel) (pa_cons (pv 0) pa_nil)) pa_nil)) (blkOk_by (N := N_least_table) (sc := L2.defScope s_least_table) (by decide +kernel)) (fun _ _ _ _ _ => (pg_name (i := 7) sc_least_table.nd rfl (by first | exact Or.inl rfl | exact Or.inr rfl))) (fun _ _ _ _ _ => pts_nil) (fun _ _ _ _ _ => (pe_callB (crMinK (K := K) rfl) (by rfl) T.n_min (by decide +kernel) (pa_cons (pe_lc (own := [("table", 6)]) (g := gName 6) (tt := tYes) rfl sc_least_table.nd (piLK (K := K) (pv 4)) (blkOk_by (N := N_least_table) (sc := relS _ (L2.defScope s_least_table)) (by decide +kernel)) (fun _ _ _ _ _ => (pg_name (i := 6) sc_least_table.nd rfl (by first | exact Or.inl rfl | exact Or.inr rfl))) (fun _ _ _ _ _ => pts_nil) (fun _ _ _ _ _ => (pe_callTy call_int1 (by rfl) T.n_int (by decide +kernel) (pa_cons (pe_ix (ixLK (K := K)) (pv 6) (pv 7) (fun _ _ => rfl)) pa_nil)))) pa_nil)))))))), ?_⟩
  have ok := hw.1
  have hle := ok.le
  have hLl := allL_len hL
  refine ⟨_, rfl, _, rfl, p, q, c, a, rfl, hw, hq, a1, a2, fun ra F H1 e1 hra0 hra hF => ?_⟩
  refine ⟨_, rfl, t, rfl, ⟨_, SqT.of (e1 _ _ ht)⟩, fun D hD => ?_⟩
  refine lc_rel (walk_tup (K := K) (a := t) (xs := lv L)) (fun i H v => ∃ l, v = .ref l ∧ H l = some (.lst (ivs c.n (age a c [L.getD i .R])))) (fun i H H' v e z => let ⟨l, x, y⟩ := z; ⟨l, x, e _ _ y⟩) hD (by rw [lv_len]; omega) (fun H e => (e1.trans e).seqT (SqT.of ht)) ?_ ?_
  · rintro i x H2 H3 hi e ⟨acc, hacc⟩ ⟨rfl, hx⟩ R hR
    obtain ⟨rfl, hi'⟩ := lv_at hx
    have e1e := e1.trans e
    refine ⟨rfl, _, rfl, _, rfl, _, rfl, _, rfl, p, q, ra, c, a, L.getD i .R, F, rfl, hw.ext e1e, hq.ext e1e, a1, a2, e _ _ hra, fun i hi => let ⟨m, x, y⟩ := hF i hi; ⟨m, x, y.ext e⟩, fun l H4 e4 hl h4 => ?_⟩
    exact hR _ _ e4 ⟨l, rfl, del_of (ne_fr hacc hl).symm h4⟩
  intro H2 G e2 hG hP
  rw [lv_len] at hG hP
  have e12 := e1.trans e2
  obtain ⟨dx, fs, ho⟩ := hw.ins
  refine ⟨_, rfl, p, dx, fs, rfl, e12 _ _ ho, p, c, rfl, hw.ext e12, _, rfl, ⟨by omega, by omega⟩, _, rfl, by omega, by omega, fun B hB => ?_⟩
  refine lc_map (walk_range (lo := 0) (n := c.n)) (fun i => .int (age a c L i)) hB (by omega) (fun _ _ => trivial) ?_ ?_
  · rintro i x H3 H4 hi e ⟨rfl, hx⟩ R hR
    obtain rfl : x = V.int (i : Nat) := hx.trans (congrArg V.int (Int.zero_add _))
    refine ⟨rfl, ?_⟩
    refine ⟨_, rfl, D, rfl, ⟨_, SqL.of (e _ _ hG)⟩, fun C hC => ?_⟩
    have hGl : ((List.range L.length).map G).length = L.length := by simp
    refine lc_map (walk_list (K := K) (a := D) (xs := (List.range L.length).map G)) (fun j => .int (age a c [L.getD j .R] i)) hC (by omega) (fun H e' => e'.seqL (SqL.of (e _ _ hG))) ?_ ?_
    · rintro j y H5 H6 hj e5 ⟨rfl, hy⟩ R' hR'
      have hj' : j < L.length := by rw [hGl] at hj; exact hj
      obtain ⟨l, hl1, hl2⟩ := hP j hj'
      have hy' : y = .ref l := by
        have : ((List.range L.length).map G)[j]? = some (G j) := by simp [hj']
        rw [this] at hy
        rw [← hl1]
        exact (Option.some.inj hy).symm
      subst hy'
      have hl3 := e5 _ _ (e _ _ (del_ex _ _ hl2))
      refine ⟨rfl, _, rfl, _, rfl, l, _, _, _, rfl, rfl, SqL.of hl3, atI_nat (ivs_at hi), .inl ⟨_, rfl, hR' _ (Evl.Ex.refl _)⟩⟩
    · intro H5 e5 h5
      rw [hGl] at h5
      have hE : (List.range L.length).map (fun j => V.int (age a c [L.getD j .R] i)) = (L.map fun m => Mark.of (life a c i) m).map V.int := by
        rw [getD_map (fun m => V.int (age a c [m] i)) L .R, List.map_map]
        rfl
      rw [hE] at h5
      refine ⟨C, _, rfl, SqL.of h5, by rw [List.length_map]; omega, fun m h1 h2 => ?_⟩
      rw [minL_uni h1 h2]
      exact hR _ e5
  · intro H3 e3 h3
    exact kk B H3 (e12.trans e3) (fr_of e12 hB) h3
def sp_check_looks (K : PySem.W.Frag) : Sp := fun vs H Q _ => ∃ (p q t : Addr) (c : Chain) (a : Int) (L : List Mark) (k : Nat), vs = [.ref p, .ref q, .ref t, .int (k : Nat)] ∧ WayAt K H p c ∧ RuleAt K H q a ∧ H t = some (.tup (lv L)) ∧ L ∈ allL ∧ k < c.n ∧ ∀ H', Ex H H' → Q .non H'
theorem c_check_looks (T : Top K mg) : Cal P w K mg base 4 "check_looks" (sp_check_looks K) [] := by
  refine mkCal T.d_check_looks sc_check_looks (fun _ _ _ _ _ _ us hl => match us, hl with | [_, _, _, _], _ => rfl) (fun vs H Q E h => by (obtain ⟨_, _, _, _, _, _, _, rfl, _⟩ := h; rfl)) (fun f cdv A outer s H vs Q E hr h => ?_)
  obtain ⟨p, q, t, c, a, L, k, rfl, hw, hq, ht, hL, hk, kk⟩ := h
  refine ⟨_, (pss_cons (ps_expr (pe_c (c_check_way T) hr (by decide) (by rfl) (pa_cons (pv 0) pa_nil)))
    (pss_cons (ps_expr (pe_c (c_check_rule T) hr (by decide) (by rfl) (pa_cons (pv 1) pa_nil)))
    (pss_cons (ps_if (pt_not (pt_val (pe_c (c_is_looks T) hr (by decide) (by rfl) (pa_cons (pv 2) pa_nil)))) (pss_one ps_never) pss_nil)
    (pss_one (ps_expr (pe_c (c_check_node T) hr (by decide) (by rfl) (pa_cons (pv 0) (pa_cons (pv 3) pa_nil)))))))), ?_⟩
  refine ⟨_, rfl, p, c, rfl, hw, _, rfl, q, a, rfl, hq, _, rfl, t, L, rfl, ht, hL, fun H1 e1 => ?_⟩
  refine ⟨_, rfl, iteF ?_⟩
  exact ⟨_, rfl, _, rfl, p, c, k, rfl, hw.ext e1, hk, kk _ e1⟩
def sp_age (K : PySem.W.Frag) : Sp := fun vs H Q _ => ∃ (p q t : Addr) (c : Chain) (a : Int) (L : List Mark) (k : Nat), vs = [.ref p, .ref q, .ref t, .int (k : Nat)] ∧ WayAt K H p c ∧ RuleAt K H q a ∧ 1 ≤ a ∧ a ≤ 2000 ∧ H t = some (.tup (lv L)) ∧ L ∈ allL ∧ k < c.n ∧ ∀ H', Ex H H' → Q (.int (age a c L k)) H'
theorem c_greatest_age (T : Top K mg) : Cal P w K mg base 18 "greatest_age" (sp_age K) [] := by
  refine mkCal T.d_greatest_age sc_greatest_age (fun _ _ _ _ _ _ us hl => match us, hl with | [_, _, _, _], _ => rfl) (fun vs H Q E h => by (obtain ⟨_, _, _, _, _, _, _, rfl, _⟩ := h; rfl)) (fun f cdv A outer s H vs Q E hr h => ?_)
  obtain ⟨p, q, t, c, a, L, k, rfl, hw, hq, a1, a2, ht, hL, hk, kk⟩ := h
  refine ⟨_, (pss_cons (ps_expr (pe_c (c_check_looks T) hr (by omega) (by rfl) (pa_cons (pv 0) (pa_cons (pv 1) (pa_cons (pv 2) (pa_cons (pv 3) pa_nil))))))
    (pss_one (ps_ret (pe_ix ix_list (pe_mt (tab3 T) hr (by omega) (pe_mk (c_Ages_init T) hr (by omega) (by rfl) (pa_cons (pv 0) (pa_cons (pv 1) pa_nil))) (pa_cons (pv 2) pa_nil)) (pv 3) (fun _ _ => rfl))))), ?_⟩
  refine ⟨_, rfl, _, rfl, _, rfl, _, rfl, p, q, t, c, a, L, k, rfl, hw, hq, ht, hL, hk, fun H1 e1 => ?_⟩
  refine ⟨_, rfl, _, rfl, fun x dx hx hdx nx => ?_⟩
  have hdx' : H1 dx = none := hdx
  have e2 : Ex H1 (upd (upd H1 dx (.own x)) x (.ins (cAges K) dx [])) := Evl.Ex.mut (Evl.Ex.new hdx) hx
  refine ⟨x, p, q, dx, c, a, H1, rfl, upd_same, e2, hx, hw.ext e1, hq.ext e1, a1, a2, fun l d F H2 e3 hd hA => ⟨rfl, ?_⟩⟩
  have ht2 : H2 t = some (.tup (lv L)) := e3 _ _ (e1 _ _ ht)
  refine ⟨x, dx, _, rfl, hA.ob', lkN (by decide +kernel) (by decide +kernel) (by decide +kernel) (by decide +kernel), _, rfl, x, p, q, l, d, dx, t, c, a, F, [], L, rfl, hA, ht2, hL, (allL_len hL).1, by decide, fun r H3 kvs3 x3 k3 o3 l3 h3 => ?_⟩
  have e13 : Ex H1 H3 := fun y o h => del_ex _ _ (x3 _ _ (del_of (ne_fr h hd) (e3 _ _ h)))
  exact ⟨_, rfl, r, _, _, _, rfl, rfl, SqL.of h3, atI_nat (ivs_at hk), kk _ (e1.trans e13)⟩
theorem c_least_age (T : Top K mg) : Cal P w K mg base 9 "least_age" (sp_age K) [] := by
  refine mkCal T.d_least_age sc_least_age (fun _ _ _ _ _ _ us hl => match us, hl with | [_, _, _, _], _ => rfl) (fun vs H Q E h => by (obtain ⟨_, _, _, _, _, _, _, rfl, _⟩ := h; rfl)) (fun f cdv A outer s H vs Q E hr h => ?_)
  obtain ⟨p, q, t, c, a, L, k, rfl, hw, hq, a1, a2, ht, hL, hk, kk⟩ := h
  refine ⟨_, (pss_cons (ps_expr (pe_c (c_check_looks T) hr (by decide) (by rfl) (pa_cons (pv 0) (pa_cons (pv 1) (pa_cons (pv 2) (pa_cons (pv 3) pa_nil))))))
    (pss_one (ps_ret (pe_ix ix_list (pe_c (c_least_table T) hr (by decide) (by rfl) (pa_cons (pv 0) (pa_cons (pv 1) (pa_cons (pv 2) pa_nil)))) (pv 3) (fun _ _ => rfl))))), ?_⟩
  refine ⟨_, rfl, _, rfl, _, rfl, _, rfl, p, q, t, c, a, L, k, rfl, hw, hq, ht, hL, hk, fun H1 e1 => ?_⟩
  refine ⟨_, rfl, _, rfl, _, rfl, p, q, t, c, a, L, rfl, hw.ext e1, hq.ext e1, a1, a2, e1 _ _ ht, hL, fun l H2 e2 hl h2 => ?_⟩
  exact ⟨_, rfl, l, _, _, _, rfl, rfl, SqL.of h2, atI_nat (ivs_at hk), kk _ (e1.trans e2)⟩
end
end Ag
set_option maxHeartbeats 4000000
/-! Books. -/
namespace Ag
open PySem PySem.Spec PyProof.Rows L2
open C8 (Cal Met Mak pe_c pe_mt pe_mt0 pe_mk pe_gc)
open Evl (Ex)
abbrev partsL : List Str := ["bound", "looks", "how", "day", "grain", "spares", "late", "again", "period"]
def valsL (B : Int) (t : Addr) : List V := [.int B, .ref t, .str "above", .int 1, .int 1, .bl false, .int 0, .bl true, .int 1]
def bkv (B : Int) (t : Addr) : List (Key × V) := [(Sum.inr "bound", .int B), (Sum.inr "looks", .ref t), (Sum.inr "how", .str "above"), (Sum.inr "day", .int 1), (Sum.inr "grain", .int 1), (Sum.inr "spares", .bl false), (Sum.inr "late", .int 0), (Sum.inr "again", .bl true), (Sum.inr "period", .int 1)]
theorem ninth {i : Nat} {x : Str} (h : partsL[i]? = some x) : i < 9 := (List.getElem?_eq_some_iff.mp h).1
theorem bk_val {B : Int} {t : Addr} {i : Nat} {x : Str} (h : partsL[i]? = some x) : ∃ v, (valsL B t)[i]? = some v ∧ valV (bkv B t) (Sum.inr x) = some v := by
  have h9 := ninth h
  match i, h9, h with
  | 0, _, h => cases h; exact ⟨_, rfl, rfl⟩
  | 1, _, h => cases h; exact ⟨_, rfl, rfl⟩
  | 2, _, h => cases h; exact ⟨_, rfl, rfl⟩
  | 3, _, h => cases h; exact ⟨_, rfl, rfl⟩
  | 4, _, h => cases h; exact ⟨_, rfl, rfl⟩
  | 5, _, h => cases h; exact ⟨_, rfl, rfl⟩
  | 6, _, h => cases h; exact ⟨_, rfl, rfl⟩
  | 7, _, h => cases h; exact ⟨_, rfl, rfl⟩
  | 8, _, h => cases h; exact ⟨_, rfl, rfl⟩
structure BookAt (K : PySem.W.Frag) (H : Hp) (p : Addr) (B : Int) (t : Addr) (L : List Mark) : Prop where
  ob : ∃ dx d, H p = some (.ins (cBook K) dx [("own_parts", .ref d)]) ∧ H d = some (.dK (bkv B t))
  lt : H t = some (.tup (lv L))
  mem : L ∈ allL
theorem BookAt.ext {K : PySem.W.Frag} {H H' : Hp} {p : Addr} {B : Int} {t : Addr} {L : List Mark} (e : Ex H H') (h : BookAt K H p B t L) : BookAt K H' p B t L := let ⟨dx, d, a, b⟩ := h.ob; ⟨⟨dx, d, e _ _ a, e _ _ b⟩, e _ _ h.lt, h.mem⟩
theorem lk_op {l : V} {m : Str} (h : ¬ m = "own_parts") : ([("own_parts", l)] : List (Str × V)).lookup m = none := (lk2 h).trans lk0
section
variable {P : Program} {w : World} {K : PySem.W.Frag} {mg : Str → Option Value} {base : Heap}
def sp_is_value : Sp := fun vs H Q _ => ∃ (B : Int) (t : Addr) (L : List Mark) (i : Nat) (x : Str) (v : V), vs = [.str x, v] ∧ partsL[i]? = some x ∧ (valsL B t)[i]? = some v ∧ 0 ≤ B ∧ B ≤ 1000000000000 ∧ H t = some (.tup (lv L)) ∧ L ∈ allL ∧ ∀ H', Ex H H' → Q (.bl true) H'
theorem c_is_value (T : Top K mg) : Cal P w K mg base 4 "is_value" sp_is_value [] := by
  refine mkCal T.d_is_value sc_is_value (fun _ _ _ _ _ _ us hl => match us, hl with | [_, _], _ => rfl) (fun vs H Q E h => by (obtain ⟨_, _, _, _, _, _, rfl, _⟩ := h; rfl)) (fun f cdv A outer s H vs Q E hr h => ?_)
  obtain ⟨B, t, L, i, x, v, rfl, hx, hv, B0, B1, ht, hL, k⟩ := h
  refine ⟨_, (pss_cons (ps_if (pt_cmpR op_eq (pv 0) pe_str (nomark _)) (pss_one (ps_ret (pe_c (c_is_between T) hr (by decide) (by rfl) (pa_cons (pv 1) (pa_cons pe_int (pa_cons (pe_gc (by rfl) T.v_LARGEST_BOUND) pa_nil)))))) pss_nil)
    (pss_cons (ps_if (pt_cmpR op_eq (pv 0) pe_str (nomark _)) (pss_one (ps_ret (pe_c (c_is_looks T) hr (by decide) (by rfl) (pa_cons (pv 1) pa_nil)))) pss_nil)
    (pss_cons (ps_if (pt_cmpR op_eq (pv 0) pe_str (nomark _)) (pss_one (ps_ret (pe_c (c_is_part_of T) hr (by decide) (by rfl) (pa_cons (pv 1) (pa_cons (pe_tup (pa_cons pe_str (pa_cons pe_str pa_nil))) pa_nil))))) pss_nil)
    (pss_cons (ps_if (pt_cmpR op_in_seq (pv 0) (pe_tup (pa_cons pe_str (pa_cons pe_str pa_nil))) (by rfl)) (pss_one (ps_ret (pe_c (c_is_time T) hr (by decide) (by rfl) (pa_cons (pv 1) pa_nil)))) pss_nil)
    (pss_cons (ps_if (pt_cmpR op_eq (pv 0) pe_str (nomark _)) (pss_one (ps_ret (pe_c (c_is_between T) hr (by decide) (by rfl) (pa_cons (pv 1) (pa_cons pe_int (pa_cons (pe_gc (by rfl) T.v_LARGEST_GRAIN) pa_nil)))))) pss_nil)
    (pss_cons (ps_if (pt_cmpR op_eq (pv 0) pe_str (nomark _)) (pss_one (ps_ret (pe_c (c_is_between T) hr (by decide) (by rfl) (pa_cons (pv 1) (pa_cons pe_int (pa_cons (pe_gc (by rfl) T.v_LATEST) pa_nil)))))) pss_nil)
    (pss_one (ps_ret (pe_callB call_isi (by rfl) T.n_isinstance (by decide +kernel) (pa_cons (pv 1) (pa_cons (pe_bltn (v := .ty "bool") (by rfl) T.n_bool (by decide +kernel) rfl) pa_nil))))))))))), ?_⟩
  have h9 := ninth hx
  match i, h9, hx, hv with
  | 0, _, hx, hv =>
    cases hx; cases hv
    refine ⟨_, rfl, rfl, _, rfl, iteDT rfl ?_⟩
    refine ⟨_, rfl, _, _, _, rfl, ?_⟩
    rw [decide_eq_true B0, decide_eq_true B1]
    exact k _ (Evl.Ex.refl _)
  | 1, _, hx, hv =>
    cases hx; cases hv
    refine ⟨_, rfl, rfl, _, rfl, iteDF (neS (by decide +kernel)) ?_⟩
    refine ⟨_, rfl, rfl, _, rfl, iteDT rfl ?_⟩
    exact ⟨_, rfl, t, L, rfl, ht, hL, fun H1 e1 => k _ e1⟩
  | 2, _, hx, hv =>
    cases hx; cases hv
    refine ⟨_, rfl, rfl, _, rfl, iteDF (neS (by decide +kernel)) ?_⟩
    refine ⟨_, rfl, rfl, _, rfl, iteDF (neS (by decide +kernel)) ?_⟩
    refine ⟨_, rfl, rfl, _, rfl, iteDT rfl ?_⟩
    refine ⟨_, rfl, szl (by simp), fun m hm => ?_⟩
    obtain ⟨H1, q_, e1, h1⟩ := new_ex (o := .tup [.str "above", .str "from"]) hm
    rw [← q_]; clear q_
    exact ⟨_, m, ["above", "from"], rfl, SqT.of h1, by decide +kernel, k _ e1⟩
  | 3, _, hx, hv =>
    cases hx; cases hv
    refine ⟨_, rfl, rfl, _, rfl, iteDF (neS (by decide +kernel)) ?_⟩
    refine ⟨_, rfl, rfl, _, rfl, iteDF (neS (by decide +kernel)) ?_⟩
    refine ⟨_, rfl, rfl, _, rfl, iteDF (neS (by decide +kernel)) ?_⟩
    refine ⟨_, rfl, szl (by simp), fun m hm => ?_⟩
    obtain ⟨H1, q_, e1, h1⟩ := new_ex (o := .tup [.str "day", .str "period"]) hm
    rw [← q_]; clear q_
    refine ⟨_, _, rfl, .inr (SqT.of h1), rfl, rfl, ?_⟩
    rw [show inV (.str "day") [.str "day", .str "period"] = true from by decide +kernel]
    refine ⟨_, rfl, iteT ?_⟩
    refine ⟨_, rfl, _, rfl, ?_⟩
    rw [decide_eq_true (show (1 : Int) ≤ 1 by decide), decide_eq_true (show (1 : Int) ≤ 1000000000 by decide)]
    exact k _ e1
  | 4, _, hx, hv =>
    cases hx; cases hv
    refine ⟨_, rfl, rfl, _, rfl, iteDF (neS (by decide +kernel)) ?_⟩
    refine ⟨_, rfl, rfl, _, rfl, iteDF (neS (by decide +kernel)) ?_⟩
    refine ⟨_, rfl, rfl, _, rfl, iteDF (neS (by decide +kernel)) ?_⟩
    refine ⟨_, rfl, szl (by simp), fun m hm => ?_⟩
    obtain ⟨H1, q_, e1, h1⟩ := new_ex (o := .tup [.str "day", .str "period"]) hm
    rw [← q_]; clear q_
    refine ⟨_, _, rfl, .inr (SqT.of h1), rfl, rfl, ?_⟩
    rw [show inV (.str "grain") [.str "day", .str "period"] = false from by decide +kernel]
    refine ⟨_, rfl, iteF ?_⟩
    refine ⟨_, rfl, rfl, _, rfl, iteDT rfl ?_⟩
    refine ⟨_, rfl, _, _, _, rfl, ?_⟩
    rw [decide_eq_true (show (1 : Int) ≤ 1 by decide), decide_eq_true (show (1 : Int) ≤ 1000000 by decide)]
    exact k _ e1
  | 5, _, hx, hv =>
    cases hx; cases hv
    refine ⟨_, rfl, rfl, _, rfl, iteDF (neS (by decide +kernel)) ?_⟩
    refine ⟨_, rfl, rfl, _, rfl, iteDF (neS (by decide +kernel)) ?_⟩
    refine ⟨_, rfl, rfl, _, rfl, iteDF (neS (by decide +kernel)) ?_⟩
    refine ⟨_, rfl, szl (by simp), fun m hm => ?_⟩
    obtain ⟨H1, q_, e1, h1⟩ := new_ex (o := .tup [.str "day", .str "period"]) hm
    rw [← q_]; clear q_
    refine ⟨_, _, rfl, .inr (SqT.of h1), rfl, rfl, ?_⟩
    rw [show inV (.str "spares") [.str "day", .str "period"] = false from by decide +kernel]
    refine ⟨_, rfl, iteF ?_⟩
    refine ⟨_, rfl, rfl, _, rfl, iteDF (neS (by decide +kernel)) ?_⟩
    refine ⟨_, rfl, rfl, _, rfl, iteDF (neS (by decide +kernel)) ?_⟩
    exact ⟨_, rfl, _, _, _, _, true, rfl, .ty _, .base (.bl _), kit_ty (by decide +kernel), k _ e1⟩
  | 6, _, hx, hv =>
    cases hx; cases hv
    refine ⟨_, rfl, rfl, _, rfl, iteDF (neS (by decide +kernel)) ?_⟩
    refine ⟨_, rfl, rfl, _, rfl, iteDF (neS (by decide +kernel)) ?_⟩
    refine ⟨_, rfl, rfl, _, rfl, iteDF (neS (by decide +kernel)) ?_⟩
    refine ⟨_, rfl, szl (by simp), fun m hm => ?_⟩
    obtain ⟨H1, q_, e1, h1⟩ := new_ex (o := .tup [.str "day", .str "period"]) hm
    rw [← q_]; clear q_
    refine ⟨_, _, rfl, .inr (SqT.of h1), rfl, rfl, ?_⟩
    rw [show inV (.str "late") [.str "day", .str "period"] = false from by decide +kernel]
    refine ⟨_, rfl, iteF ?_⟩
    refine ⟨_, rfl, rfl, _, rfl, iteDF (neS (by decide +kernel)) ?_⟩
    refine ⟨_, rfl, rfl, _, rfl, iteDT rfl ?_⟩
    refine ⟨_, rfl, _, _, _, rfl, ?_⟩
    rw [decide_eq_true (show (0 : Int) ≤ 0 by decide), decide_eq_true (show (0 : Int) ≤ 1000000000 by decide)]
    exact k _ e1
  | 7, _, hx, hv =>
    cases hx; cases hv
    refine ⟨_, rfl, rfl, _, rfl, iteDF (neS (by decide +kernel)) ?_⟩
    refine ⟨_, rfl, rfl, _, rfl, iteDF (neS (by decide +kernel)) ?_⟩
    refine ⟨_, rfl, rfl, _, rfl, iteDF (neS (by decide +kernel)) ?_⟩
    refine ⟨_, rfl, szl (by simp), fun m hm => ?_⟩
    obtain ⟨H1, q_, e1, h1⟩ := new_ex (o := .tup [.str "day", .str "period"]) hm
    rw [← q_]; clear q_
    refine ⟨_, _, rfl, .inr (SqT.of h1), rfl, rfl, ?_⟩
    rw [show inV (.str "again") [.str "day", .str "period"] = false from by decide +kernel]
    refine ⟨_, rfl, iteF ?_⟩
    refine ⟨_, rfl, rfl, _, rfl, iteDF (neS (by decide +kernel)) ?_⟩
    refine ⟨_, rfl, rfl, _, rfl, iteDF (neS (by decide +kernel)) ?_⟩
    exact ⟨_, rfl, _, _, _, _, true, rfl, .ty _, .base (.bl _), kit_ty (by decide +kernel), k _ e1⟩
  | 8, _, hx, hv =>
    cases hx; cases hv
    refine ⟨_, rfl, rfl, _, rfl, iteDF (neS (by decide +kernel)) ?_⟩
    refine ⟨_, rfl, rfl, _, rfl, iteDF (neS (by decide +kernel)) ?_⟩
    refine ⟨_, rfl, rfl, _, rfl, iteDF (neS (by decide +kernel)) ?_⟩
    refine ⟨_, rfl, szl (by simp), fun m hm => ?_⟩
    obtain ⟨H1, q_, e1, h1⟩ := new_ex (o := .tup [.str "day", .str "period"]) hm
    rw [← q_]; clear q_
    refine ⟨_, _, rfl, .inr (SqT.of h1), rfl, rfl, ?_⟩
    rw [show inV (.str "period") [.str "day", .str "period"] = true from by decide +kernel]
    refine ⟨_, rfl, iteT ?_⟩
    refine ⟨_, rfl, _, rfl, ?_⟩
    rw [decide_eq_true (show (1 : Int) ≤ 1 by decide), decide_eq_true (show (1 : Int) ≤ 1000000000 by decide)]
    exact k _ e1
def sp_check_parts : Sp := fun vs H Q _ => ∃ (d : Addr) (B : Int) (t : Addr) (L : List Mark), vs = [.ref d] ∧ H d = some (.dK (bkv B t)) ∧ 0 ≤ B ∧ B ≤ 1000000000000 ∧ H t = some (.tup (lv L)) ∧ L ∈ allL ∧ ∀ H', Ex H H' → Q .non H'
theorem c_check_parts (T : Top K mg) : Cal P w K mg base 5 "check_parts" sp_check_parts [] := by
  refine mkCal T.d_check_parts sc_check_parts (fun _ _ _ _ _ _ us hl => match us, hl with | [_], _ => rfl) (fun vs H Q E h => by (obtain ⟨_, _, _, _, rfl, _⟩ := h; rfl)) (fun f cdv A outer s H vs Q E hr h => ?_)
  obtain ⟨d, B, t, L, rfl, hd, B0, B1, ht, hL, k⟩ := h
  have hu := hu_of hr
  refine ⟨_, (pss_one (ps_for PassesOwn.never rfl (pi_tup (pe_glob (v := .ref (aPARTS K)) (by rfl) T.t_PARTS rfl)) (pg_name (i := 1) sc_check_parts.nd rfl (by first | exact Or.inl rfl | exact Or.inr rfl))
    (pss_one (ps_if (pt_not (pt_val (pe_c (c_is_value T) hr (by decide) (by rfl) (pa_cons (pv 1) (pa_cons (pe_dget hu (pv 0) (pv 1) (fun _ _ => rfl)) pa_nil))))) (pss_one ps_never) pss_nil)))), ?_⟩
  refine ⟨_, rfl, ⟨_, T.q_PARTS _⟩, for_it (walk_tup (K := K) (a := aPARTS K) (xs := partsL.map V.str)) (fun i σ H' => ∃ u, σ = [some (.ref d), u] ∧ Ex H H') ⟨none, rfl, Evl.Ex.refl _⟩ (fun i σ H' _ _ => T.q_PARTS _) ?_ ?_⟩
  · rintro i y σ H1 H2 hi ⟨u, rfl, e⟩ ⟨rfl, hy⟩
    obtain ⟨x, hx, rfl⟩ : ∃ x, partsL[i]? = some x ∧ V.str x = y := by
      rw [List.getElem?_map] at hy
      cases q : partsL[i]? with
      | none => rw [q] at hy; cases hy
      | some x => rw [q] at hy; exact ⟨x, rfl, Option.some.inj hy⟩
    obtain ⟨v, hv, hvv⟩ := bk_val (B := B) (t := t) hx
    have dg := DGet.k (k := Sum.inr x) (e _ _ hd)
    rw [hvv] at dg
    refine ⟨_, rfl, _, rfl, _, rfl, d, v, rfl, dg, B, t, L, i, x, v, rfl, hx, hv, B0, B1, e _ _ ht, hL, fun H3 e3 => ?_⟩
    exact ⟨_, rfl, iteF ⟨_, rfl, e.trans e3⟩⟩
  · rintro σ H1 ⟨u, rfl, e⟩
    exact k _ e
def sp_Book_init (K : PySem.W.Frag) : Sp := fun vs H Q _ => ∃ (x t dx : Addr) (B : Int) (L : List Mark) (H0 : Hp), vs = [.ref x, .int B, .ref t, .str "above", .int 1, .int 1, .bl false, .int 0, .bl true, .int 1] ∧ H x = some (.ins (cBook K) dx []) ∧ Ex H0 H ∧ H0 x = none ∧
  0 ≤ B ∧ B ≤ 1000000000000 ∧ H0 t = some (.tup (lv L)) ∧ L ∈ allL ∧ ∀ H', Ex H0 H' → BookAt K H' x B t L → Q .non H'
theorem mgA (B : Int) (t : Addr) : mergeK [] [(Sum.inr ("bound" : Str), V.int B), (Sum.inr ("looks" : Str), .ref t), (Sum.inr ("how" : Str), .str "above"), (Sum.inr ("day" : Str), .int 1), (Sum.inr ("grain" : Str), .int 1), (Sum.inr ("spares" : Str), .bl false)] =
  ([(Sum.inr "bound", V.int B), (Sum.inr "looks", .ref t), (Sum.inr "how", .str "above"), (Sum.inr "day", .int 1), (Sum.inr "grain", .int 1), (Sum.inr "spares", .bl false)] : List (Key × V)) := rfl
theorem mgB : mergeK [] [(Sum.inr ("late" : Str), V.int 0), (Sum.inr ("again" : Str), .bl true), (Sum.inr ("period" : Str), .int 1)] = ([(Sum.inr "late", V.int 0), (Sum.inr "again", .bl true), (Sum.inr "period", .int 1)] : List (Key × V)) := rfl
theorem mgC (B : Int) (t : Addr) : mergeK [(Sum.inr ("bound" : Str), V.int B), (Sum.inr ("looks" : Str), .ref t), (Sum.inr ("how" : Str), .str "above"), (Sum.inr ("day" : Str), .int 1), (Sum.inr ("grain" : Str), .int 1), (Sum.inr ("spares" : Str), .bl false)]
  [(Sum.inr ("late" : Str), V.int 0), (Sum.inr ("again" : Str), .bl true), (Sum.inr ("period" : Str), .int 1)] = bkv B t := rfl
theorem c_Book_init (T : Top K mg) : MakB P w K mg base 6 "Book" (cBook K) ["bound", "looks"] [.str "above", .int 1, .int 1, .bl false, .int 0, .bl true, .int 1] (sp_Book_init K) := by
  obtain ⟨f, fd, F, M⟩ := T.i_Book
  obtain ⟨mv, hb⟩ := F.kbinds0 (ps := ["self", "bound", "looks", "how", "day", "grain", "spares", "late", "again", "period"]) 1 ["bound", "looks"] [("how", .str "above"), ("day", .int 1), ("grain", .int 1), ("spares", .bl false), ("late", .int 0), ("again", .bl true), ("period", .int 1)] (fun us mv ws => us ++ ws ++ mv) (by intro z; cases z) (fun q hq => List.mem_cons_of_mem _ hq)
    (fun r1 r2 r3 => (r1.append r3).append r2)
    (fun D doc pm an cdv ct us mv ws h1 h2 h3 => by
      match us, mv, ws, h1, h2, h3 with
      | [a], [m1, m2, m3, m4, m5, m6, m7], [b1, b2], _, _, _ =>
        repeat (refine ⟨_, _, _, _, _, _, rfl, rfl, ?_⟩)
        rfl)
  refine ⟨f, fd, _, mv, M, T.g_Book, fnOk_of F sc_Book_init (fun vs H Q E h => by (obtain ⟨_, _, _, _, _, _, rfl, _⟩ := h; rfl)) (fun f cdv A outer s H vs Q E hr h => ?_), hb⟩
  obtain ⟨x, t, dx, B, L, H0, rfl, hx, e0, n0, B0, B1, ht, hL, k⟩ := h
  refine ⟨_, (pss_cons (ps_set (i := 10) sc_Book_init.nd rfl (Or.inl rfl) (pe_disp (pps_cons pe_str (pv 1) (pps_cons pe_str (pv 2) (pps_cons pe_str (pv 3) (pps_cons pe_str (pv 4) (pps_cons pe_str (pv 5) (pps_cons pe_str (pv 6) pps_nil)))))) (by rfl) (by rfl) (fun z => by cases z) (by decide)))
    (pss_cons (ps_expr (pe_bm PySem.F.plainAttrs_dict PySem.F.slot_dict_update PySem.F.type_dict_update mt_update (pv 10) (pa_cons (pe_disp (pps_cons pe_str (pv 7) (pps_cons pe_str (pv 8) (pps_cons pe_str (pv 9) pps_nil))) (by rfl) (by rfl) (fun z => by cases z) (by decide)) pa_nil)))
    (pss_cons (ps_expr (pe_c (c_check_parts T) hr (by decide) (by rfl) (pa_cons (pv 10) pa_nil)))
    (pss_one (ps_fld (pv 0) (pv 10) rfl))))), ?_⟩
  intro p hp
  have hp0 := hp
  refine ⟨_, rfl, _, rfl, _, rfl, _, rfl, _, rfl, _, rfl, upd_same, [(Sum.inr "bound", .int B), (Sum.inr "looks", .ref t), (Sum.inr "how", .str "above"), (Sum.inr "day", .int 1), (Sum.inr "grain", .int 1), (Sum.inr "spares", .bl false)], rfl, (by simp), ?_⟩
  rw [upd_upd, mgA]
  obtain ⟨H1, q_, e1, h1⟩ := new_ex (o := .dK [(Sum.inr "bound", .int B), (Sum.inr "looks", .ref t), (Sum.inr "how", .str "above"), (Sum.inr "day", .int 1), (Sum.inr "grain", .int 1), (Sum.inr "spares", .bl false)]) hp
  rw [← q_]; clear q_
  refine ⟨_, rfl, .inr (.inr (.inl ⟨rfl, .inl ⟨_, h1⟩⟩)), fun q hq => ?_⟩
  refine ⟨_, rfl, _, rfl, _, rfl, upd_same, [(Sum.inr "late", .int 0), (Sum.inr "again", .bl true), (Sum.inr "period", .int 1)], rfl, (by simp), ?_⟩
  have npq : p ≠ q := ne_fr h1 hq
  rw [upd_upd, mgB]
  refine ⟨p, q, _, _, rfl, rfl, by rw [upd_ne npq]; exact h1, upd_same, npq, szl (by simp), ?_⟩
  rw [mgC]
  have p0 : H p = none := hp0
  obtain ⟨H2, q2, h2⟩ : ∃ H2, H2 = upd (upd H1 q (.dK [(Sum.inr "late", .int 0), (Sum.inr "again", .bl true), (Sum.inr "period", .int 1)])) p (.dK (bkv B t)) ∧ H2 p = some (.dK (bkv B t)) := ⟨_, rfl, upd_same⟩
  rw [← q2]
  have e2 : Ex H H2 := by
    rw [q2]
    exact Evl.Ex.mut (e1.trans (Evl.Ex.new hq)) p0
  have e02 := e0.trans e2
  refine ⟨_, rfl, p, B, t, L, rfl, h2, B0, B1, e02 _ _ ht, hL, fun H3 e3 => ?_⟩
  have e03 := e02.trans e3
  have hx3 := e3 _ _ (e2 _ _ hx)
  refine ⟨_, rfl, _, rfl, x, _, dx, _, rfl, hx3, T.k_Book.cl, T.na_Book_own_parts, (by show 0 < 1000; decide), ?_⟩
  rw [pf0]
  obtain ⟨H4, q_, e4, h4, f4⟩ := mut_ex (o := .ins (cBook K) dx [("own_parts", .ref p)]) e03 n0
  rw [← q_]; clear q_
  have hp3 := e3 _ _ h2
  exact k H4 e4 ⟨⟨dx, p, h4, by rw [f4 _ (ne_of hp3 hx3 (by intro z; cases z))]; exact hp3⟩, e4 _ _ ht, hL⟩
end
end Ag
set_option maxHeartbeats 4000000
/-! Books: what is read; seen ages, stays. -/
namespace Ag
open PySem PySem.Spec PyProof.Rows L2
open C8 (Cal Met Mak pe_c pe_mt pe_mt0 pe_mk pe_gc)
open Evl (Ex)
section
variable {P : Program} {w : World} {K : PySem.W.Frag} {mg : Str → Option Value} {base : Heap}
theorem BookAt.ins {H : Hp} {p : Addr} {B : Int} {t : Addr} {L : List Mark} (h : BookAt K H p B t L) : ∃ dx fs, H p = some (.ins (cBook K) dx fs) ∧ ∀ m : Str, ¬ m = "own_parts" → fs.lookup m = none := let ⟨dx, d, a, _⟩ := h.ob; ⟨dx, _, a, fun m hm => lk_op hm⟩
theorem BookAt.dl {H : Hp} {p d : Addr} {B : Int} {t : Addr} {L : List Mark} {kvs : List (List Key × V)} (hd : H d = some (.dT kvs)) (h : BookAt K H p B t L) : BookAt K (del H d) p B t L := by
  obtain ⟨⟨dx, e, a, b⟩, lt, mem⟩ := h
  exact ⟨⟨dx, e, del_of (ne_of a hd (by intro z; cases z)) a, del_of (ne_of b hd (by intro z; cases z)) b⟩, del_of (ne_of lt hd (by intro z; cases z)) lt, mem⟩
def sp_Book_bound (K : PySem.W.Frag) : Sp := fun vs H Q _ => ∃ (p : Addr) (B : Int) (t : Addr) (L : List Mark), vs = [.ref p] ∧ BookAt K H p B t L ∧ Q (.int B) H
theorem c_Book_bound (T : Top K mg) : Prp P w K mg base 1 (cBook K) "bound" (sp_Book_bound K) := by
  refine mkPrp T.k_Book.cl T.p_Book_bound sc_Book_bound (fun _ _ _ _ _ _ us hl => match us, hl with | [_], _ => rfl) (fun vs H Q E h => by (obtain ⟨_, _, _, _, rfl, _⟩ := h; rfl)) (fun f cdv A outer s H vs Q E hr h => ?_)
  obtain ⟨p, B, t, L, rfl, ⟨⟨dx, d, ob, hd⟩, _, _⟩, k⟩ := h
  have hu := hu_of hr
  refine ⟨_, (pss_one (ps_ret (pe_dget hu (pe_fld (pv 0) rfl) pe_str (fun _ _ => rfl)))), ?_⟩
  exact ⟨_, rfl, p, _, dx, _, _, rfl, ob, T.k_Book.cl, T.na_Book_own_parts, lk1 rfl, d, _, rfl, (show DGet H d (.str "bound") (some (.int B)) from DGet.k (k := Sum.inr "bound") hd), k⟩
def sp_Book_looks (K : PySem.W.Frag) : Sp := fun vs H Q _ => ∃ (p : Addr) (B : Int) (t : Addr) (L : List Mark), vs = [.ref p] ∧ BookAt K H p B t L ∧ Q (.ref t) H
theorem c_Book_looks (T : Top K mg) : Prp P w K mg base 1 (cBook K) "looks" (sp_Book_looks K) := by
  refine mkPrp T.k_Book.cl T.p_Book_looks sc_Book_looks (fun _ _ _ _ _ _ us hl => match us, hl with | [_], _ => rfl) (fun vs H Q E h => by (obtain ⟨_, _, _, _, rfl, _⟩ := h; rfl)) (fun f cdv A outer s H vs Q E hr h => ?_)
  obtain ⟨p, B, t, L, rfl, ⟨⟨dx, d, ob, hd⟩, _, _⟩, k⟩ := h
  have hu := hu_of hr
  refine ⟨_, (pss_one (ps_ret (pe_dget hu (pe_fld (pv 0) rfl) pe_str (fun _ _ => rfl)))), ?_⟩
  exact ⟨_, rfl, p, _, dx, _, _, rfl, ob, T.k_Book.cl, T.na_Book_own_parts, lk1 rfl, d, _, rfl, (show DGet H d (.str "looks") (some (.ref t)) from DGet.k (k := Sum.inr "looks") hd), k⟩
def sp_Book_how (K : PySem.W.Frag) : Sp := fun vs H Q _ => ∃ (p : Addr) (B : Int) (t : Addr) (L : List Mark), vs = [.ref p] ∧ BookAt K H p B t L ∧ Q (.str "above") H
theorem c_Book_how (T : Top K mg) : Prp P w K mg base 1 (cBook K) "how" (sp_Book_how K) := by
  refine mkPrp T.k_Book.cl T.p_Book_how sc_Book_how (fun _ _ _ _ _ _ us hl => match us, hl with | [_], _ => rfl) (fun vs H Q E h => by (obtain ⟨_, _, _, _, rfl, _⟩ := h; rfl)) (fun f cdv A outer s H vs Q E hr h => ?_)
  obtain ⟨p, B, t, L, rfl, ⟨⟨dx, d, ob, hd⟩, _, _⟩, k⟩ := h
  have hu := hu_of hr
  refine ⟨_, (pss_one (ps_ret (pe_dget hu (pe_fld (pv 0) rfl) pe_str (fun _ _ => rfl)))), ?_⟩
  exact ⟨_, rfl, p, _, dx, _, _, rfl, ob, T.k_Book.cl, T.na_Book_own_parts, lk1 rfl, d, _, rfl, (show DGet H d (.str "how") (some (.str "above")) from DGet.k (k := Sum.inr "how") hd), k⟩
def sp_Book_day (K : PySem.W.Frag) : Sp := fun vs H Q _ => ∃ (p : Addr) (B : Int) (t : Addr) (L : List Mark), vs = [.ref p] ∧ BookAt K H p B t L ∧ Q (.int 1) H
theorem c_Book_day (T : Top K mg) : Prp P w K mg base 1 (cBook K) "day" (sp_Book_day K) := by
  refine mkPrp T.k_Book.cl T.p_Book_day sc_Book_day (fun _ _ _ _ _ _ us hl => match us, hl with | [_], _ => rfl) (fun vs H Q E h => by (obtain ⟨_, _, _, _, rfl, _⟩ := h; rfl)) (fun f cdv A outer s H vs Q E hr h => ?_)
  obtain ⟨p, B, t, L, rfl, ⟨⟨dx, d, ob, hd⟩, _, _⟩, k⟩ := h
  have hu := hu_of hr
  refine ⟨_, (pss_one (ps_ret (pe_dget hu (pe_fld (pv 0) rfl) pe_str (fun _ _ => rfl)))), ?_⟩
  exact ⟨_, rfl, p, _, dx, _, _, rfl, ob, T.k_Book.cl, T.na_Book_own_parts, lk1 rfl, d, _, rfl, (show DGet H d (.str "day") (some (.int 1)) from DGet.k (k := Sum.inr "day") hd), k⟩
def sp_Book_grain (K : PySem.W.Frag) : Sp := fun vs H Q _ => ∃ (p : Addr) (B : Int) (t : Addr) (L : List Mark), vs = [.ref p] ∧ BookAt K H p B t L ∧ Q (.int 1) H
theorem c_Book_grain (T : Top K mg) : Prp P w K mg base 1 (cBook K) "grain" (sp_Book_grain K) := by
  refine mkPrp T.k_Book.cl T.p_Book_grain sc_Book_grain (fun _ _ _ _ _ _ us hl => match us, hl with | [_], _ => rfl) (fun vs H Q E h => by (obtain ⟨_, _, _, _, rfl, _⟩ := h; rfl)) (fun f cdv A outer s H vs Q E hr h => ?_)
  obtain ⟨p, B, t, L, rfl, ⟨⟨dx, d, ob, hd⟩, _, _⟩, k⟩ := h
  have hu := hu_of hr
  refine ⟨_, (pss_one (ps_ret (pe_dget hu (pe_fld (pv 0) rfl) pe_str (fun _ _ => rfl)))), ?_⟩
  exact ⟨_, rfl, p, _, dx, _, _, rfl, ob, T.k_Book.cl, T.na_Book_own_parts, lk1 rfl, d, _, rfl, (show DGet H d (.str "grain") (some (.int 1)) from DGet.k (k := Sum.inr "grain") hd), k⟩
def sp_Book_spares (K : PySem.W.Frag) : Sp := fun vs H Q _ => ∃ (p : Addr) (B : Int) (t : Addr) (L : List Mark), vs = [.ref p] ∧ BookAt K H p B t L ∧ Q (.bl false) H
theorem c_Book_spares (T : Top K mg) : Prp P w K mg base 1 (cBook K) "spares" (sp_Book_spares K) := by
  refine mkPrp T.k_Book.cl T.p_Book_spares sc_Book_spares (fun _ _ _ _ _ _ us hl => match us, hl with | [_], _ => rfl) (fun vs H Q E h => by (obtain ⟨_, _, _, _, rfl, _⟩ := h; rfl)) (fun f cdv A outer s H vs Q E hr h => ?_)
  obtain ⟨p, B, t, L, rfl, ⟨⟨dx, d, ob, hd⟩, _, _⟩, k⟩ := h
  have hu := hu_of hr
  refine ⟨_, (pss_one (ps_ret (pe_dget hu (pe_fld (pv 0) rfl) pe_str (fun _ _ => rfl)))), ?_⟩
  exact ⟨_, rfl, p, _, dx, _, _, rfl, ob, T.k_Book.cl, T.na_Book_own_parts, lk1 rfl, d, _, rfl, (show DGet H d (.str "spares") (some (.bl false)) from DGet.k (k := Sum.inr "spares") hd), k⟩
def sp_Book_late (K : PySem.W.Frag) : Sp := fun vs H Q _ => ∃ (p : Addr) (B : Int) (t : Addr) (L : List Mark), vs = [.ref p] ∧ BookAt K H p B t L ∧ Q (.int 0) H
theorem c_Book_late (T : Top K mg) : Prp P w K mg base 1 (cBook K) "late" (sp_Book_late K) := by
  refine mkPrp T.k_Book.cl T.p_Book_late sc_Book_late (fun _ _ _ _ _ _ us hl => match us, hl with | [_], _ => rfl) (fun vs H Q E h => by (obtain ⟨_, _, _, _, rfl, _⟩ := h; rfl)) (fun f cdv A outer s H vs Q E hr h => ?_)
  obtain ⟨p, B, t, L, rfl, ⟨⟨dx, d, ob, hd⟩, _, _⟩, k⟩ := h
  have hu := hu_of hr
  refine ⟨_, (pss_one (ps_ret (pe_dget hu (pe_fld (pv 0) rfl) pe_str (fun _ _ => rfl)))), ?_⟩
  exact ⟨_, rfl, p, _, dx, _, _, rfl, ob, T.k_Book.cl, T.na_Book_own_parts, lk1 rfl, d, _, rfl, (show DGet H d (.str "late") (some (.int 0)) from DGet.k (k := Sum.inr "late") hd), k⟩
def sp_Book_again (K : PySem.W.Frag) : Sp := fun vs H Q _ => ∃ (p : Addr) (B : Int) (t : Addr) (L : List Mark), vs = [.ref p] ∧ BookAt K H p B t L ∧ Q (.bl true) H
theorem c_Book_again (T : Top K mg) : Prp P w K mg base 1 (cBook K) "again" (sp_Book_again K) := by
  refine mkPrp T.k_Book.cl T.p_Book_again sc_Book_again (fun _ _ _ _ _ _ us hl => match us, hl with | [_], _ => rfl) (fun vs H Q E h => by (obtain ⟨_, _, _, _, rfl, _⟩ := h; rfl)) (fun f cdv A outer s H vs Q E hr h => ?_)
  obtain ⟨p, B, t, L, rfl, ⟨⟨dx, d, ob, hd⟩, _, _⟩, k⟩ := h
  have hu := hu_of hr
  refine ⟨_, (pss_one (ps_ret (pe_dget hu (pe_fld (pv 0) rfl) pe_str (fun _ _ => rfl)))), ?_⟩
  exact ⟨_, rfl, p, _, dx, _, _, rfl, ob, T.k_Book.cl, T.na_Book_own_parts, lk1 rfl, d, _, rfl, (show DGet H d (.str "again") (some (.bl true)) from DGet.k (k := Sum.inr "again") hd), k⟩
def sp_Book_period (K : PySem.W.Frag) : Sp := fun vs H Q _ => ∃ (p : Addr) (B : Int) (t : Addr) (L : List Mark), vs = [.ref p] ∧ BookAt K H p B t L ∧ Q (.int 1) H
theorem c_Book_period (T : Top K mg) : Prp P w K mg base 1 (cBook K) "period" (sp_Book_period K) := by
  refine mkPrp T.k_Book.cl T.p_Book_period sc_Book_period (fun _ _ _ _ _ _ us hl => match us, hl with | [_], _ => rfl) (fun vs H Q E h => by (obtain ⟨_, _, _, _, rfl, _⟩ := h; rfl)) (fun f cdv A outer s H vs Q E hr h => ?_)
  obtain ⟨p, B, t, L, rfl, ⟨⟨dx, d, ob, hd⟩, _, _⟩, k⟩ := h
  have hu := hu_of hr
  refine ⟨_, (pss_one (ps_ret (pe_dget hu (pe_fld (pv 0) rfl) pe_str (fun _ _ => rfl)))), ?_⟩
  exact ⟨_, rfl, p, _, dx, _, _, rfl, ob, T.k_Book.cl, T.na_Book_own_parts, lk1 rfl, d, _, rfl, (show DGet H d (.str "period") (some (.int 1)) from DGet.k (k := Sum.inr "period") hd), k⟩
def sp_Book_threshold (K : PySem.W.Frag) : Sp := fun vs H Q _ => ∃ (p : Addr) (B : Int) (t : Addr) (L : List Mark), vs = [.ref p] ∧ BookAt K H p B t L ∧ Q (.int (B + 1)) H
theorem c_Book_threshold (T : Top K mg) : Met P w K mg base 3 (cBook K) "threshold" (sp_Book_threshold K) [] := by
  refine mkMet T.k_Book.cl T.m_Book_threshold sc_Book_threshold (fun _ _ _ _ _ _ us hl => match us, hl with | [_], _ => rfl) (fun vs H Q E h => by (obtain ⟨_, _, _, _, rfl, _⟩ := h; rfl)) (fun f cdv A outer s H vs Q E hr h => ?_)
  obtain ⟨p, B, t, L, rfl, hB, k⟩ := h
  refine ⟨_, (pss_one (ps_ret (pe_op op_mul (pe_op op_add (pe_pr (c_Book_bound T) hr (by decide) (pv 0)) (pe_callTy call_int1 (by rfl) T.n_int (by decide +kernel) (pa_cons (pe_cmpR op_eq (pe_pr (c_Book_how T) hr (by decide) (pv 0)) pe_str (nomark _)) pa_nil))) (pe_pr (c_Book_day T) hr (by decide) (pv 0))))), ?_⟩
  obtain ⟨dx, fs, ho, _⟩ := hB.ins
  refine ⟨_, rfl, p, dx, fs, rfl, ho, p, B, t, L, rfl, hB, _, rfl, p, dx, fs, rfl, ho, p, B, t, L, rfl, hB, rfl, .inr ⟨_, rfl, _, _, rfl, rfl, _, rfl, p, dx, fs, rfl, ho, p, B, t, L, rfl, hB, _, _, rfl, rfl, .inr ⟨by decide, by decide⟩, ?_⟩⟩
  show Q (.int ((B + (if decide (V.str "above" = V.str "above") = true then 1 else 0)) * 1)) H
  rw [decide_eq_true rfl, if_pos rfl, Int.mul_one]
  exact k
def sp_check_book (K : PySem.W.Frag) : Sp := fun vs H Q _ => ∃ (p : Addr) (B : Int) (t : Addr) (L : List Mark), vs = [.ref p] ∧ BookAt K H p B t L ∧ Q .non H
theorem c_check_book (T : Top K mg) : Cal P w K mg base 1 "check_book" (sp_check_book K) [] := by
  refine mkCal T.d_check_book sc_check_book (fun _ _ _ _ _ _ us hl => match us, hl with | [_], _ => rfl) (fun vs H Q E h => by (obtain ⟨_, _, _, _, rfl, _⟩ := h; rfl)) (fun f cdv A outer s H vs Q E hr h => ?_)
  obtain ⟨p, B, t, L, rfl, hB, k⟩ := h
  refine ⟨_, (pss_one (ps_if (pt_not (pt_val (pe_callB (C8.call_isC T.k_Book) (by rfl) T.n_isinstance (by decide +kernel) (pa_cons (pv 0) (pa_cons (pe_glob (v := .ref (cBook K)) (by rfl) T.g_Book rfl) pa_nil))))) (pss_one ps_never) pss_nil)), ?_⟩
  obtain ⟨dx, fs, ho, _⟩ := hB.ins
  exact ⟨_, rfl, _, _, _, rfl, ho, _, rfl, iteF k⟩
def sp_check_all (K : PySem.W.Frag) : Sp := fun vs H Q _ => ∃ (p q r : Addr) (c : Chain) (a : Int) (B : Int) (t : Addr) (L : List Mark), vs = [.ref p, .ref q, .ref r] ∧ WayAt K H p c ∧ RuleAt K H q a ∧ BookAt K H r B t L ∧ Q .non H
theorem c_check_all (T : Top K mg) : Cal P w K mg base 2 "check_all" (sp_check_all K) [] := by
  refine mkCal T.d_check_all sc_check_all (fun _ _ _ _ _ _ us hl => match us, hl with | [_, _, _], _ => rfl) (fun vs H Q E h => by (obtain ⟨_, _, _, _, _, _, _, _, rfl, _⟩ := h; rfl)) (fun f cdv A outer s H vs Q E hr h => ?_)
  obtain ⟨p, q, r, c, a, B, t, L, rfl, hw, hq, hB, k⟩ := h
  refine ⟨_, (pss_cons (ps_expr (pe_c (c_check_way T) hr (by decide) (by rfl) (pa_cons (pv 0) pa_nil)))
    (pss_cons (ps_expr (pe_c (c_check_rule T) hr (by decide) (by rfl) (pa_cons (pv 1) pa_nil)))
    (pss_one (ps_expr (pe_c (c_check_book T) hr (by decide) (by rfl) (pa_cons (pv 2) pa_nil)))))), ?_⟩
  exact ⟨_, rfl, p, c, rfl, hw, _, rfl, q, a, rfl, hq, _, rfl, r, B, t, L, rfl, hB, k⟩
def sp_counts (K : PySem.W.Frag) : Sp := fun vs H Q _ => ∃ (p ar : Addr) (B : Int) (t : Addr) (L : List Mark) (c : Chain) (k : Nat), vs = [.ref p, .ref ar] ∧ BookAt K H p B t L ∧ H ar = some (.tup (av c k)) ∧ Q (.bl true) H
theorem c_counts (T : Top K mg) : Cal P w K mg base 3 "counts" (sp_counts K) [] := by
  refine mkCal T.d_counts sc_counts (fun _ _ _ _ _ _ us hl => match us, hl with | [_, _], _ => rfl) (fun vs H Q E h => by (obtain ⟨_, _, _, _, _, _, _, rfl, _⟩ := h; rfl)) (fun f cdv A outer s H vs Q E hr h => ?_)
  obtain ⟨p, ar, B, t, L, c, k, rfl, hB, ha, kk⟩ := h
  refine ⟨_, (pss_cons (ps_set (i := 2) sc_counts.nd rfl (Or.inl rfl) (pe_ix ix_tup (pv 1) pe_int (fun _ _ => rfl)))
    (pss_cons (ps_if (pt_cmpR op_eq (pv 2) pe_str (nomark _)) (pss_one (ps_ret (pe_and (pe_cmpR op_gt (pe_pr (c_Book_late T) hr (by decide) (pv 0)) pe_int (nomark _)) (pe_one (pe_not (pe_pr (c_Book_again T) hr (by decide) (pv 0))))))) pss_nil)
    (pss_one (ps_ret (pe_or (pe_cmpR op_eq (pv 2) pe_str (nomark _)) (pe_one (pe_not (pe_pr (c_Book_spares T) hr (by decide) (pv 0))))))))), ?_⟩
  refine ⟨_, rfl, ar, _, _, _, rfl, rfl, SqT.of ha, rfl, ?_⟩
  refine ⟨_, rfl, rfl, _, rfl, iteDF (neS e_anew) ?_⟩
  exact ⟨_, rfl, rfl, true, rfl, iteT kk⟩
def seenV (a : Int) (c : Chain) (L : List Mark) : Nat → Int
  | 0 => -1
  | j + 1 => if age a c L j + c.t j - 1 > seenV a c L j then age a c L j + c.t j - 1 else seenV a c L j
def oldV (a : Int) (c : Chain) (L : List Mark) : Nat → Int
  | 0 => -1
  | j + 1 => if age a c L j > oldV a c L j then age a c L j else oldV a c L j
def sp_seen_most (K : PySem.W.Frag) : Sp := fun vs H Q _ => ∃ (p wa ru l d dx bk : Addr) (c : Chain) (a : Int) (F : Nat → V) (B : Int) (t : Addr) (L : List Mark), vs = [.ref wa, .ref bk, .ref p] ∧ AgIs K H c a p wa ru l d dx F [] ∧ BookAt K H bk B t L ∧
  ∀ H', Ex (del H d) (del H' d) → Q (.int (seenV a c L (c.n - 1))) H'
theorem c_seen_most (T : Top K mg) : Cal P w K mg base 18 "seen_most" (sp_seen_most K) [] := by
  refine mkCal T.d_seen_most sc_seen_most (fun _ _ _ _ _ _ us hl => match us, hl with | [_, _, _], _ => rfl) (fun vs H Q E h => by (obtain ⟨_, _, _, _, _, _, _, _, _, _, _, _, _, rfl, _⟩ := h; rfl)) (fun f cdv A outer s H vs Q E hr h => ?_)
  obtain ⟨p, wa, ru, l, d, dx, bk, c, a, F, B, t, L, rfl, hA, hB, kk⟩ := h
  refine ⟨_, (pss_cons (ps_set (i := 3) sc_seen_most.nd rfl (Or.inl rfl) (pe_mt (tab3 T) hr (by omega) (pv 2) (pa_cons (pe_pr (c_Book_looks T) hr (by omega) (pv 1)) pa_nil)))
    (pss_cons (ps_set (i := 4) sc_seen_most.nd rfl (Or.inl rfl) (pe_un un_neg pe_int))
    (pss_cons (ps_for PassesOwn.never rfl (pi_list (pe_mt0 (c_Way_arrows T) hr (by omega) (pv 0))) (pg_name (i := 5) sc_seen_most.nd rfl (by first | exact Or.inl rfl | exact Or.inr rfl))
    (pss_one (ps_if (pt_val (pe_c (c_counts T) hr (by omega) (by rfl) (pa_cons (pv 1) (pa_cons (pv 5) pa_nil)))) (pss_cons (ps_par (i := 6) (j := 7) rfl sc_seen_most.nd rfl rfl (by omega) rfl rfl (pa_cons (pe_ix ix_list (pv 3) (pe_ix ix_tup (pv 5) pe_int (fun _ _ => rfl)) (fun _ _ => rfl)) (pa_cons (pe_ix ix_tup (pv 5) pe_int (fun _ _ => rfl)) pa_nil)) (by rfl))
    (pss_cons (ps_set (i := 8) sc_seen_most.nd rfl (Or.inl rfl) (pe_ifExp (PW.pt (pw_or (pt_cmpR op_isN (pv 6) pe_non (nomark _)) (pw_or1 (pt_cmpR op_isN (pv 7) pe_non (nomark _))))) pe_non (pe_op op_sub (pe_op op_add (pe_op op_sub (pe_op op_add (pv 6) (pv 7)) pe_int) (pe_pr (c_Book_grain T) hr (by omega) (pv 1))) pe_int)))
    (pss_one (ps_set (i := 4) sc_seen_most.nd rfl (Or.inl rfl) (pe_ifExp (pt_val (pe_c (c_is_more T) hr (by omega) (by rfl) (pa_cons (pv 8) (pa_cons (pv 4) pa_nil)))) (pv 8) (pv 4)))))) pss_nil)))
    (pss_one (ps_ret (pv 4)))))), ?_⟩
  have ok := hA.wy'.1
  obtain ⟨db, fb, hob, _⟩ := hB.ins
  refine ⟨_, rfl, p, dx, _, rfl, hA.ob', lkN (by decide +kernel) (by decide +kernel) (by decide +kernel) (by decide +kernel), _, rfl, bk, db, fb, rfl, hob, bk, B, t, L, rfl, hB, p, wa, ru, l, d, dx, t, c, a, F, [], L, rfl, hA, hB.lt, hB.mem, (allL_len hB.mem).1, by decide, fun q H1 kvs1 x1 k1 o1 l1 hq => ?_⟩
  have hA1 := hA.step x1 k1 o1
  have hB1 : BookAt K H1 bk B t L := ((hB.dl hA.kp).ext x1).ext del_ex
  refine ⟨_, rfl, ?_⟩
  obtain ⟨dw, fw, how, hfw⟩ := hA1.wy'.ob2
  refine ⟨_, rfl, wa, dw, fw, rfl, how, hfw _ (by decide +kernel) (by decide +kernel), wa, c, rfl, hA1.wy', fun la ar H2 e2 hl h2 har => ?_⟩
  have hB2 := hB1.ext e2
  obtain ⟨db, fb, hob, _⟩ := hB2.ins
  have hq2 := e2 _ _ hq
  have hlen : (rvs (c.n - 1) ar).length = c.n - 1 := rvs_len _ _
  refine ⟨la, rfl, ⟨_, SqL.of h2⟩, for_it (walk_list (K := K) (a := la) (xs := rvs (c.n - 1) ar)) (fun i σ H' => ∃ v u5 u6 u7 u8, σ = [some (.ref wa), some (.ref bk), some (.ref p), some (.ref q), some (.int v), u5, u6, u7, u8] ∧ H' = H2 ∧ v = seenV a c L i)
    ⟨_, _, _, _, _, rfl, rfl, rfl⟩ (fun _ _ _ _ ⟨_, _, _, _, _, _, z, _⟩ => by rw [z]; exact SqL.of h2) ?_ ?_⟩
  · rintro i x σ H3 H4 hi ⟨v, u5, u6, u7, u8, rfl, rfl, hv⟩ ⟨rfl, hx⟩
    have hi' : i < c.n - 1 := by rw [hlen] at hi; exact hi
    obtain rfl : V.ref (ar i) = x := Option.some.inj ((rvs_at hi').symm.trans hx)
    have ha := e2 _ _ (har i (by omega))
    refine ⟨_, rfl, _, rfl, bk, ar i, B, t, L, c, i, rfl, hB2, ha, _, rfl, iteT ?_⟩
    refine ⟨_, rfl, _, rfl, ar i, _, _, _, rfl, rfl, SqT.of ha, rfl, q, _, _, _, rfl, rfl, SqL.of hq2, atI_nat (ivs_at (by omega)), _, rfl, ar i, _, _, _, rfl, rfl, SqT.of ha, rfl, _, _, rfl, ?_⟩
    refine ⟨_, rfl, rfl, _, rfl, iteF ?_⟩
    refine ⟨_, rfl, rfl, _, rfl, iteF ?_⟩
    refine ⟨_, rfl, _, rfl, _, _, rfl, rfl, _, _, rfl, rfl, _, rfl, bk, db, fb, rfl, hob, bk, B, t, L, rfl, hB2, _, _, rfl, rfl, _, _, rfl, rfl, ?_⟩
    have e : age a c L i + c.t i - 1 + 1 - 1 = age a c L i + c.t i - 1 := by omega
    dsimp only
    rw [e]
    refine ⟨_, rfl, _, rfl, _, _, rfl, ?_⟩
    by_cases q1 : age a c L i + c.t i - 1 > v
    · refine ⟨_, rfl, iteDT q1 ⟨_, rfl, _, _, _, _, _, rfl, rfl, ?_⟩⟩
      subst hv
      simp only [seenV, q1, if_true]
    · refine ⟨_, rfl, iteDF q1 ⟨_, rfl, _, _, _, _, _, rfl, rfl, ?_⟩⟩
      subst hv
      simp only [seenV, q1, if_false]
  · rintro σ H3 ⟨v, u5, u6, u7, u8, rfl, rfl, hv⟩
    rw [hlen] at hv
    subst hv
    refine ⟨_, rfl, ?_⟩
    exact kk _ (x1.trans (exd e2))
def sp_greatest_seen (K : PySem.W.Frag) : Sp := fun vs H Q _ => ∃ (p q r : Addr) (c : Chain) (a : Int) (B : Int) (t : Addr) (L : List Mark), vs = [.ref p, .ref q, .ref r] ∧ WayAt K H p c ∧ RuleAt K H q a ∧ 1 ≤ a ∧ a ≤ 2000 ∧ BookAt K H r B t L ∧
  ∀ H', Ex H H' → Q (.int (seenV a c L (c.n - 1))) H'
theorem c_greatest_seen (T : Top K mg) : Cal P w K mg base 19 "greatest_seen" (sp_greatest_seen K) [] := by
  refine mkCal T.d_greatest_seen sc_greatest_seen (fun _ _ _ _ _ _ us hl => match us, hl with | [_, _, _], _ => rfl) (fun vs H Q E h => by (obtain ⟨_, _, _, _, _, _, _, _, rfl, _⟩ := h; rfl)) (fun f cdv A outer s H vs Q E hr h => ?_)
  obtain ⟨p, q, r, c, a, B, t, L, rfl, hw, hq, a1, a2, hB, kk⟩ := h
  refine ⟨_, (pss_cons (ps_expr (pe_c (c_check_all T) hr (by decide) (by rfl) (pa_cons (pv 0) (pa_cons (pv 1) (pa_cons (pv 2) pa_nil)))))
    (pss_one (ps_ret (pe_c (c_seen_most T) hr (by decide) (by rfl) (pa_cons (pv 0) (pa_cons (pv 2) (pa_cons (pe_mk (c_Ages_init T) hr (by decide) (by rfl) (pa_cons (pv 0) (pa_cons (pv 1) pa_nil))) pa_nil))))))), ?_⟩
  refine ⟨_, rfl, _, rfl, _, rfl, p, q, r, c, a, B, t, L, rfl, hw, hq, hB, ?_⟩
  refine ⟨_, rfl, _, rfl, _, rfl, _, rfl, fun x dx hx hdx nx => ?_⟩
  have e2 : Ex H (upd (upd H dx (.own x)) x (.ins (cAges K) dx [])) := Evl.Ex.mut (Evl.Ex.new hdx) hx
  refine ⟨x, p, q, dx, c, a, H, rfl, upd_same, e2, hx, hw, hq, a1, a2, fun l d F H2 e3 hd hA => ⟨rfl, ?_⟩⟩
  refine ⟨x, p, q, l, d, dx, r, c, a, F, B, t, L, rfl, hA, hB.ext e3, fun H3 x3 => ?_⟩
  exact kk _ (fun y o h => del_ex _ _ (x3 _ _ (del_of (ne_fr h hd) (e3 _ _ h))))
def sp_until (K : PySem.W.Frag) : Sp := fun vs H Q _ => ∃ (p : Addr) (x : Int) (B : Int) (t : Addr) (L : List Mark), vs = [.ref p, .int x] ∧ BookAt K H p B t L ∧ Q (.int (if B + 1 - x > 0 then B + 1 - x else 0)) H
theorem c_until (T : Top K mg) : Cal P w K mg base 4 "until" (sp_until K) [] := by
  refine mkCal T.d_until sc_until (fun _ _ _ _ _ _ us hl => match us, hl with | [_, _], _ => rfl) (fun vs H Q E h => by (obtain ⟨_, _, _, _, _, rfl, _⟩ := h; rfl)) (fun f cdv A outer s H vs Q E hr h => ?_)
  obtain ⟨p, x, B, t, L, rfl, hB, k⟩ := h
  refine ⟨_, (pss_cons (ps_set (i := 2) sc_until.nd rfl (Or.inl rfl) (pe_op op_sub (pe_mt0 (c_Book_threshold T) hr (by decide) (pv 0)) (pv 1)))
    (pss_one (ps_ret (pe_ifExp (pt_cmpR op_gt (pv 2) pe_int (nomark _)) (pv 2) pe_int)))), ?_⟩
  obtain ⟨dx, fs, ho, hfs⟩ := hB.ins
  refine ⟨_, rfl, p, dx, fs, rfl, ho, hfs _ (by decide +kernel), p, B, t, L, rfl, hB, _, rfl, _, _, rfl, rfl, ?_⟩
  refine ⟨_, rfl, _, _, rfl, rfl, _, rfl, ?_⟩
  by_cases q : B + 1 - x > 0
  · refine iteDT q ⟨_, rfl, ?_⟩
    rw [if_pos q] at k
    exact k
  · refine iteDF q ?_
    rw [if_neg q] at k
    exact k
end
end Ag
set_option maxHeartbeats 4000000
/-! Stays. -/
namespace Ag
open PySem PySem.Spec PyProof.Rows L2
open C8 (Cal Met Mak pe_c pe_mt pe_mt0 pe_mk pe_gc)
open Evl (Ex)
def untl (B x : Int) : Int := if B + 1 - x > 0 then B + 1 - x else 0
def agesL (a : Int) (c : Chain) (L : List Mark) : List Int := (List.range c.n).map (age a c L)
theorem ivs_ages (a : Int) (c : Chain) (L : List Mark) : ivs c.n (age a c L) = (agesL a c L).map V.int := by
  unfold ivs agesL
  rw [List.map_map]
  rfl
section
variable {P : Program} {w : World} {K : PySem.W.Frag} {mg : Str → Option Value} {base : Heap}
def sp_stay (K : PySem.W.Frag) : Sp := fun vs H Q _ => ∃ (p q r : Addr) (c : Chain) (a : Int) (B : Int) (t : Addr) (L : List Mark), vs = [.ref p, .ref q, .ref r] ∧ WayAt K H p c ∧ RuleAt K H q a ∧ 1 ≤ a ∧ a ≤ 2000 ∧ BookAt K H r B t L ∧
  ∀ z H', Ex H H' → H' z = some (.tup [.int (untl B (oldV a c L c.n)), .int (untl B (minL (agesL a c L)))]) → Q (.ref z) H'
theorem c_stay (T : Top K mg) : Cal P w K mg base 19 "stay" (sp_stay K) [] := by
  refine mkCal T.d_stay sc_stay (fun _ _ _ _ _ _ us hl => match us, hl with | [_, _, _], _ => rfl) (fun vs H Q E h => by (obtain ⟨_, _, _, _, _, _, _, _, rfl, _⟩ := h; rfl)) (fun f cdv A outer s H vs Q E hr h => ?_)
  obtain ⟨p, q, r, c, a, B, t, L, rfl, hw, hq, a1, a2, hB, kk⟩ := h
  refine ⟨_, (pss_cons (ps_expr (pe_c (c_check_all T) hr (by omega) (by rfl) (pa_cons (pv 0) (pa_cons (pv 1) (pa_cons (pv 2) pa_nil)))))
    (pss_cons (ps_set (i := 3) sc_stay.nd rfl (Or.inl rfl) (pe_un un_neg pe_int))
    (pss_cons (ps_for PassesOwn.never rfl (pi_list (pe_mt (tab3 T) hr (by omega) (pe_mk (c_Ages_init T) hr (by omega) (by rfl) (pa_cons (pv 0) (pa_cons (pv 1) pa_nil))) (pa_cons (pe_pr (c_Book_looks T) hr (by omega) (pv 2)) pa_nil))) (pg_name (i := 4) sc_stay.nd rfl (by first | exact Or.inl rfl | exact Or.inr rfl))
    (pss_one (ps_set (i := 3) sc_stay.nd rfl (Or.inl rfl) (pe_ifExp (pt_val (pe_c (c_is_more T) hr (by omega) (by rfl) (pa_cons (pv 4) (pa_cons (pv 3) pa_nil)))) (pv 4) (pv 3)))))
    (pss_cons (ps_set (i := 5) sc_stay.nd rfl (Or.inl rfl) (pe_callB (cr_min rfl) (by rfl) T.n_min (by decide +kernel) (pa_cons (pe_lc (own := [("age", 4)]) (g := gName 4) (tt := tYes) rfl sc_stay.nd (pi_list (pe_c (c_least_table T) hr (by omega) (by rfl) (pa_cons (pv 0) (pa_cons (pv 1) (pa_cons (pe_pr (c_Book_looks T) hr (by omega) (pv 2)) pa_nil))))) (blkOk_by (N := N_stay) (sc := L2.defScope s_stay) (by decide +kernel)) (fun _ _ _ _ _ => (pg_name (i := 4) sc_stay.nd rfl (by first | exact Or.inl rfl | exact Or.inr rfl))) (fun _ _ _ _ _ => pts_nil) (fun _ _ _ _ _ => (pe_callTy call_int1 (by rfl) T.n_int (by decide +kernel) (pa_cons (pv 4) pa_nil)))) pa_nil)))
    (pss_cons (ps_set (i := 6) sc_stay.nd rfl (Or.inl rfl) (pe_ifExp (pt_cmpR op_isN (pv 3) pe_non (nomark _)) pe_int (pe_c (c_until T) hr (by omega) (by rfl) (pa_cons (pv 2) (pa_cons (pe_op op_sub (pe_op op_add (pv 3) (pe_pr (c_Book_grain T) hr (by omega) (pv 2))) pe_int) pa_nil)))))
    (pss_one (ps_ret (pe_tup (pa_cons (pv 6) (pa_cons (pe_op op_add (pe_op op_sub (pe_op op_add (pe_c (c_until T) hr (by omega) (by rfl) (pa_cons (pv 2) (pa_cons (pv 5) pa_nil))) (pe_pr (c_Book_period T) hr (by omega) (pv 2))) pe_int) (pe_pr (c_Book_late T) hr (by omega) (pv 2))) pa_nil)))))))))), ?_⟩
  have ok := hw.1
  have hle := ok.le
  have hpos := ok.pos
  obtain ⟨db, fb, hob, _⟩ := hB.ins
  refine ⟨_, rfl, _, rfl, _, rfl, p, q, r, c, a, B, t, L, rfl, hw, hq, hB, ?_⟩
  refine ⟨_, rfl, ?_⟩
  refine ⟨_, rfl, _, rfl, fun x dx hx hdx nx => ?_⟩
  have e2 : Ex H (upd (upd H dx (.own x)) x (.ins (cAges K) dx [])) := Evl.Ex.mut (Evl.Ex.new hdx) hx
  refine ⟨x, p, q, dx, c, a, H, rfl, upd_same, e2, hx, hw, hq, a1, a2, fun l d F H2 e3 hd hA => ⟨rfl, ?_⟩⟩
  have hB2 := hB.ext e3
  refine ⟨x, dx, _, rfl, hA.ob', lkN (by decide +kernel) (by decide +kernel) (by decide +kernel) (by decide +kernel), _, rfl, r, db, fb, rfl, e3 _ _ hob, r, B, t, L, rfl, hB2, x, p, q, l, d, dx, t, c, a, F, [], L, rfl, hA, hB2.lt, hB2.mem, (allL_len hB.mem).1, by decide, fun tq H3 kvs3 x3 k3 o3 l3 h3 => ?_⟩
  have e13 : Ex H H3 := fun y o h => del_ex _ _ (x3 _ _ (del_of (ne_fr h hd) (e3 _ _ h)))
  have hlen : (ivs c.n (age a c L)).length = c.n := ivs_len _ _
  refine ⟨tq, rfl, ⟨_, SqL.of h3⟩, for_it (walk_list (K := K) (a := tq) (xs := ivs c.n (age a c L))) (fun i σ H' => ∃ v u4, σ = [some (.ref p), some (.ref q), some (.ref r), some (.int v), u4, none, none] ∧ H' = H3 ∧ v = oldV a c L i)
    ⟨_, _, rfl, rfl, rfl⟩ (fun _ _ _ _ ⟨_, _, _, z, _⟩ => by rw [z]; exact SqL.of h3) ?_ ?_⟩
  · rintro i y σ H4 H5 hi ⟨v, u4, rfl, rfl, hv⟩ ⟨rfl, hy⟩
    have hi' : i < c.n := by rw [hlen] at hi; exact hi
    obtain rfl : V.int (age a c L i) = y := Option.some.inj ((ivs_at hi').symm.trans hy)
    refine ⟨_, rfl, _, rfl, _, _, rfl, ?_⟩
    by_cases q1 : age a c L i > v
    · refine ⟨_, rfl, iteDT q1 ⟨_, rfl, _, _, rfl, rfl, ?_⟩⟩
      subst hv
      simp only [oldV, q1, if_true]
    · refine ⟨_, rfl, iteDF q1 ⟨_, rfl, _, _, rfl, rfl, ?_⟩⟩
      subst hv
      simp only [oldV, q1, if_false]
  rintro σ H4 ⟨v, u4, rfl, rfl, hv⟩
  rw [hlen] at hv
  subst hv
  have hB3 := hB.ext e13
  refine ⟨_, rfl, _, rfl, _, rfl, r, db, fb, rfl, e13 _ _ hob, r, B, t, L, rfl, hB3, p, q, t, c, a, L, rfl, hw.ext e13, hq.ext e13, a1, a2, hB3.lt, hB.mem, fun lt H5 e5 hl h5 => ?_⟩
  refine ⟨lt, rfl, ⟨_, SqL.of h5⟩, fun D hD => ?_⟩
  refine lc_map (walk_list (K := K) (a := lt) (xs := ivs c.n (age a c L))) (fun i => .int (age a c L i)) hD (by omega) (fun H e => e.seqL (SqL.of h5)) ?_ ?_
  · rintro i y H6 H7 hi e ⟨rfl, hy⟩ R hR
    have hi' : i < c.n := by rw [hlen] at hi; exact hi
    obtain rfl : V.int (age a c L i) = y := Option.some.inj ((ivs_at hi').symm.trans hy)
    exact ⟨rfl, _, rfl, .inl ⟨_, rfl, hR _ (Evl.Ex.refl _)⟩⟩
  intro H6 e6 h6
  rw [hlen] at h6
  have h6' : H6 D = some (.lst ((agesL a c L).map V.int)) := by rw [h6, ← ivs_ages]; rfl
  have hal : (agesL a c L).length = c.n := by simp [agesL]
  refine ⟨D, agesL a c L, rfl, SqL.of h6', by omega, fun m h1 h2 => ?_⟩
  rw [minL_uni h1 h2]
  have e16 := e13.trans (e5.trans e6)
  have hB6 := hB.ext e16
  have hob6 := e16 _ _ hob
  refine ⟨_, rfl, rfl, _, rfl, iteF ?_⟩
  refine ⟨_, rfl, _, rfl, _, rfl, r, db, fb, rfl, hob6, r, B, t, L, rfl, hB6, _, _, rfl, rfl, _, _, rfl, rfl, r, _, B, t, L, rfl, hB6, ?_⟩
  have eo : oldV a c L c.n + 1 - 1 = oldV a c L c.n := by omega
  rw [eo]
  refine ⟨_, rfl, _, rfl, _, rfl, r, _, B, t, L, rfl, hB6, _, rfl, r, db, fb, rfl, hob6, r, B, t, L, rfl, hB6, _, _, rfl, rfl, _, _, rfl, rfl, _, rfl, r, db, fb, rfl, hob6, r, B, t, L, rfl, hB6, _, _, rfl, rfl, szl (by simp), fun z hz => ?_⟩
  have ey : (if B + 1 - minL (agesL a c L) > 0 then B + 1 - minL (agesL a c L) else 0) + 1 - 1 + 0 = untl B (minL (agesL a c L)) := by
    unfold untl; omega
  dsimp only
  rw [ey]
  exact kk z _ (e16.trans (Evl.Ex.new hz)) upd_same
end
end Ag
set_option maxHeartbeats 4000000
/-! The law's own helpers: draws. -/
namespace Ag
open PySem PySem.Spec PyProof.Rows L2
open C8 (Cal Met Mak pe_c pe_mt pe_mt0 pe_mk pe_gc)
open Evl (Ex)
section
variable {P : Program} {w : World} {K : PySem.W.Frag} {mg : Str → Option Value} {base : Heap}
def sp_law_source (K : PySem.W.Frag) : Sp := fun vs H Q _ => ∃ (sc : Addr) (ns : List Int) (i : Nat), vs = [.ref sc, .int (i : Nat)] ∧ SqL K H sc (ns.map V.int) ∧ ∀ S x y H', Ex H H' → H S = none → H' S = some (.lst [.int x, .int y]) → Q (.ref S) H'
theorem c_law_source (T : Top K mg) : Cal P w K mg base 1 "_law_source" (sp_law_source K) [] := by
  refine mkCal T.d_law_source sc_law_source (fun _ _ _ _ _ _ us hl => match us, hl with | [_, _], _ => rfl) (fun vs H Q E h => by (obtain ⟨_, _, _, rfl, _⟩ := h; rfl)) (fun f cdv A outer s H vs Q E hr h => ?_)
  obtain ⟨sc, ns, i, rfl, hs, kk⟩ := h
  refine ⟨_, (pss_cons (ps_set (i := 2) sc_law_source.nd rfl (Or.inl rfl) pe_int)
    (pss_cons (ps_if (pt_cmpR op_lt (pv 1) (pe_callB call_len_seq (by rfl) T.n_len (by decide +kernel) (pa_cons (pv 0) pa_nil)) (nomark _)) (pss_one (ps_set (i := 2) sc_law_source.nd rfl (Or.inl rfl) (pe_ix ix_list (pv 0) (pv 1) (fun _ _ => rfl)))) pss_nil)
    (pss_cons (ps_set (i := 3) sc_law_source.nd rfl (Or.inl rfl) (pe_callB call_abs (by rfl) T.n_abs (by decide +kernel) (pa_cons (pv 2) pa_nil)))
    (pss_cons (ps_set (i := 4) sc_law_source.nd rfl (Or.inl rfl) (pe_op op_mod (pe_callTy call_int1 (by rfl) T.n_int (by decide +kernel) (pa_cons (pe_op op_add (pe_op op_add (pe_op op_mul (pe_op op_mod (pe_callTy call_int1 (by rfl) T.n_int (by decide +kernel) (pa_cons (pv 3) pa_nil)) pe_int) pe_int) (pe_op op_mul pe_int (pv 1))) pe_int) pa_nil)) pe_int))
    (pss_cons (ps_if (pt_cmpR op_lt (pv 3) (pe_op op_pow pe_int pe_int) (nomark _)) (pss_one (ps_set (i := 3) sc_law_source.nd rfl (Or.inl rfl) pe_int)) pss_nil)
    (pss_one (ps_ret (pe_lst (pa_cons (pv 3) (pa_cons (pv 4) pa_nil)))))))))), ?_⟩
  refine ⟨_, rfl, _, rfl, sc, _, rfl, .inl hs, _, _, rfl, rfl, _, rfl, ?_⟩
  by_cases q : ((i : Nat) : Int) < ((ns.map V.int).length : Nat)
  · have hi : i < ns.length := by rw [List.length_map] at q; omega
    refine iteDT q ?_
    refine ⟨_, rfl, _, rfl, sc, _, _, _, rfl, rfl, hs, atI_nat (j := i) (v := .int (ns.getD i 0)) (by simp [hi]), ?_⟩
    refine ⟨_, rfl, _, rfl, ?_⟩
    refine ⟨_, rfl, .inl ⟨_, rfl, _, _, rfl, rfl, (by show (0 : Int) < 2147483629; decide), _, _, rfl, rfl, .inr ⟨by decide, by decide⟩, _, rfl, _, _, rfl, rfl, .inl ⟨by decide, by decide⟩, _, _, rfl, rfl, _, _, rfl, rfl, .inl ⟨_, rfl, _, _, rfl, rfl, (by show (0 : Int) < 2147483647; decide), ?_⟩⟩⟩
    refine ⟨_, rfl, _, _, rfl, rfl, ⟨by decide, by decide, by decide⟩, _, _, rfl, rfl, _, rfl, ?_⟩
    refine ite2 (fun _ => ?_) (fun _ => ?_)
    · exact ⟨_, rfl, _, rfl, szl (by simp), fun S hS => kk S _ _ _ (Evl.Ex.new hS) hS upd_same⟩
    · exact ⟨_, rfl, _, rfl, szl (by simp), fun S hS => kk S _ _ _ (Evl.Ex.new hS) hS upd_same⟩
  · refine iteDF q ?_
    refine ⟨_, rfl, _, rfl, ?_⟩
    refine ⟨_, rfl, .inl ⟨_, rfl, _, _, rfl, rfl, (by show (0 : Int) < 2147483629; decide), _, _, rfl, rfl, .inr ⟨by decide, by decide⟩, _, rfl, _, _, rfl, rfl, .inl ⟨by decide, by decide⟩, _, _, rfl, rfl, _, _, rfl, rfl, .inl ⟨_, rfl, _, _, rfl, rfl, (by show (0 : Int) < 2147483647; decide), ?_⟩⟩⟩
    refine ⟨_, rfl, _, _, rfl, rfl, ⟨by decide, by decide, by decide⟩, _, _, rfl, rfl, _, rfl, ?_⟩
    refine ite2 (fun _ => ?_) (fun _ => ?_)
    · exact ⟨_, rfl, _, rfl, szl (by simp), fun S hS => kk S _ _ _ (Evl.Ex.new hS) hS upd_same⟩
    · exact ⟨_, rfl, _, rfl, szl (by simp), fun S hS => kk S _ _ _ (Evl.Ex.new hS) hS upd_same⟩
def sp_law_draw : Sp := fun vs H Q _ => ∃ (S : Addr) (x y n : Int), vs = [.ref S, .int n] ∧ H S = some (.lst [.int x, .int y]) ∧ 0 < n ∧ n < 1073741824 ∧ ∀ d x' y', 0 ≤ d → d < n → Q (.int d) (upd H S (.lst [.int x', .int y']))
theorem c_law_draw (T : Top K mg) : Cal P w K mg base 1 "_law_draw" sp_law_draw [] := by
  refine mkCal T.d_law_draw sc_law_draw (fun _ _ _ _ _ _ us hl => match us, hl with | [_, _], _ => rfl) (fun vs H Q E h => by (obtain ⟨_, _, _, _, rfl, _⟩ := h; rfl)) (fun f cdv A outer s H vs Q E hr h => ?_)
  obtain ⟨S, x, y, n, rfl, hS, hn, hn2, kk⟩ := h
  refine ⟨_, (pss_cons (ps_if (pt_cmpR op_gt (pe_ix ix_list (pv 0) pe_int (fun _ _ => rfl)) pe_int (nomark _)) (pss_cons (ps_set (i := 2) sc_law_draw.nd rfl (Or.inl rfl) (pe_op op_mod (pe_callTy call_int1 (by rfl) T.n_int (by decide +kernel) (pa_cons (pe_ix ix_list (pv 0) pe_int (fun _ _ => rfl)) pa_nil)) (pv 1)))
    (pss_cons (ps_asg (pe_op op_fdiv (pe_ix ix_list (pv 0) pe_int (fun _ _ => rfl)) (pv 1)) (pg_sub (pv 0) pe_int set_list))
    (pss_one (ps_ret (pv 2))))) pss_nil)
    (pss_cons (ps_asg (pe_op op_mod (pe_callTy call_int1 (by rfl) T.n_int (by decide +kernel) (pa_cons (pe_op op_add (pe_op op_mul (pe_ix ix_list (pv 0) pe_int (fun _ _ => rfl)) pe_int) pe_int) pa_nil)) pe_int) (pg_sub (pv 0) pe_int set_list))
    (pss_cons (ps_set (i := 3) sc_law_draw.nd rfl (Or.inl rfl) (pe_op op_fdiv (pe_op op_mod (pe_callTy call_int1 (by rfl) T.n_int (by decide +kernel) (pa_cons (pe_op op_mul (pe_ix ix_list (pv 0) pe_int (fun _ _ => rfl)) (pe_ix ix_list (pv 0) pe_int (fun _ _ => rfl))) pa_nil)) pe_int) pe_int))
    (pss_cons (ps_if (pt_cmpR op_gt (pv 1) (pe_op op_pow pe_int pe_int) (nomark _)) (pss_cons (ps_asg (pe_op op_mod (pe_callTy call_int1 (by rfl) T.n_int (by decide +kernel) (pa_cons (pe_op op_add (pe_op op_mul (pe_ix ix_list (pv 0) pe_int (fun _ _ => rfl)) pe_int) pe_int) pa_nil)) pe_int) (pg_sub (pv 0) pe_int set_list))
    (pss_one (ps_set (i := 3) sc_law_draw.nd rfl (Or.inl rfl) (pe_op op_add (pe_op op_mul (pv 3) pe_int) (pe_op op_fdiv (pe_op op_mod (pe_callTy call_int1 (by rfl) T.n_int (by decide +kernel) (pa_cons (pe_op op_mul (pe_ix ix_list (pv 0) pe_int (fun _ _ => rfl)) (pe_ix ix_list (pv 0) pe_int (fun _ _ => rfl))) pa_nil)) pe_int) pe_int))))) pss_nil)
    (pss_one (ps_ret (pe_op op_mod (pe_callTy call_int1 (by rfl) T.n_int (by decide +kernel) (pa_cons (pv 3) pa_nil)) (pv 1)))))))), ?_⟩
  refine ⟨_, rfl, S, _, _, _, rfl, rfl, SqL.of hS, rfl, _, _, rfl, rfl, _, rfl, ?_⟩
  by_cases q : x > 0
  · refine iteDT q ?_
    refine ⟨_, rfl, S, _, _, _, rfl, rfl, SqL.of hS, rfl, .inl ⟨_, rfl, _, rfl, _, _, rfl, rfl, hn, ?_⟩⟩
    refine ⟨_, rfl, S, _, _, _, rfl, rfl, SqL.of hS, rfl, _, rfl, _, _, rfl, rfl, ⟨hn, hn2⟩, _, rfl, S, _, _, 0, rfl, rfl, hS, rfl, ?_⟩
    exact ⟨_, rfl, kk _ _ _ (Int.emod_nonneg _ (by omega)) (Int.emod_lt_of_pos _ hn)⟩
  · refine iteDF q ?_
    refine ⟨_, rfl, S, _, _, _, rfl, rfl, SqL.of hS, rfl, _, _, rfl, rfl, .inr ⟨by decide, by decide⟩, _, _, rfl, rfl, .inl ⟨_, rfl, _, _, rfl, rfl, (by show (0 : Int) < 2147483647; decide), ?_⟩⟩
    have b0 : 0 ≤ (y * 48271 + 11) % 2147483647 := Int.emod_nonneg _ (by decide)
    have b1 : (y * 48271 + 11) % 2147483647 < 2147483647 := Int.emod_lt_of_pos _ (by decide)
    generalize hy1 : (y * 48271 + 11) % 2147483647 = y1 at b0 b1
    refine ⟨_, rfl, S, _, _, 1, rfl, rfl, hS, rfl, ?_⟩
    obtain ⟨H1, q1, h1⟩ : ∃ H1, H1 = upd H S (.lst ([V.int x, V.int y].set 1 (.int ((y * 48271 + 11) % 2147483647)))) ∧ H1 S = some (.lst [.int x, .int y1]) := ⟨_, rfl, by rw [upd_same, hy1]; rfl⟩
    dsimp only
    rw [← q1]
    refine ⟨_, rfl, S, _, _, _, rfl, rfl, SqL.of h1, rfl, _, rfl, S, _, _, _, rfl, rfl, SqL.of h1, rfl, _, _, rfl, rfl, .inl ⟨by omega, by omega⟩, .inl ⟨_, rfl, _, _, rfl, rfl, (by show (0 : Int) < 2147483629; decide), _, _, rfl, rfl, ⟨by decide, by decide⟩, ?_⟩⟩
    refine ⟨_, rfl, _, _, rfl, rfl, ⟨by decide, by decide, by decide⟩, _, _, rfl, rfl, _, rfl, ?_⟩
    refine ite2 (fun _ => ?_) (fun _ => ?_)
    · refine ⟨_, rfl, S, _, _, _, rfl, rfl, SqL.of h1, rfl, _, _, rfl, rfl, .inr ⟨by decide, by decide⟩, _, _, rfl, rfl, .inl ⟨_, rfl, _, _, rfl, rfl, (by show (0 : Int) < 2147483647; decide), ?_⟩⟩
      have b2 : 0 ≤ (y1 * 39373 + 17) % 2147483647 := Int.emod_nonneg _ (by decide)
      have b3 : (y1 * 39373 + 17) % 2147483647 < 2147483647 := Int.emod_lt_of_pos _ (by decide)
      generalize hy2 : (y1 * 39373 + 17) % 2147483647 = y2 at b2 b3
      refine ⟨_, rfl, S, _, _, 1, rfl, rfl, h1, rfl, ?_⟩
      obtain ⟨H2, q2, h2⟩ : ∃ H2, H2 = upd H1 S (.lst ([V.int x, V.int y1].set 1 (.int ((y1 * 39373 + 17) % 2147483647)))) ∧ H2 S = some (.lst [.int x, .int y2]) := ⟨_, rfl, by rw [upd_same, hy2]; rfl⟩
      dsimp only
      rw [← q2]
      refine ⟨_, rfl, _, _, rfl, rfl, .inr ⟨by decide, by decide⟩, _, rfl, S, _, _, _, rfl, rfl, SqL.of h2, rfl, _, rfl, S, _, _, _, rfl, rfl, SqL.of h2, rfl, _, _, rfl, rfl, .inl ⟨by omega, by omega⟩, .inl ⟨_, rfl, _, _, rfl, rfl, (by show (0 : Int) < 2147483629; decide), _, _, rfl, rfl, ⟨by decide, by decide⟩, _, _, rfl, rfl, ?_⟩⟩
      refine ⟨_, rfl, .inl ⟨_, rfl, _, rfl, _, _, rfl, rfl, hn, ?_⟩⟩
      rw [q2, q1, upd_upd]
      exact kk _ _ _ (Int.emod_nonneg _ (by omega)) (Int.emod_lt_of_pos _ hn)
    · refine ⟨_, rfl, .inl ⟨_, rfl, _, rfl, _, _, rfl, rfl, hn, ?_⟩⟩
      rw [q1]
      exact kk _ _ _ (Int.emod_nonneg _ (by omega)) (Int.emod_lt_of_pos _ hn)
def sp_law_pick : Sp := fun vs H Q _ => ∃ (S it : Addr) (x y : Int) (xs : List V), vs = [.ref S, .ref it] ∧ H S = some (.lst [.int x, .int y]) ∧ H it = some (.lst xs) ∧ it ≠ S ∧ 0 < xs.length ∧ xs.length ≤ 1000 ∧ ∀ (j : Nat) (v : V) (x' y' : Int), xs[j]? = some v → Q v (upd H S (.lst [.int x', .int y']))
theorem c_law_pick (T : Top K mg) : Cal P w K mg base 2 "_law_pick" sp_law_pick [] := by
  refine mkCal T.d_law_pick sc_law_pick (fun _ _ _ _ _ _ us hl => match us, hl with | [_, _], _ => rfl) (fun vs H Q E h => by (obtain ⟨_, _, _, _, _, rfl, _⟩ := h; rfl)) (fun f cdv A outer s H vs Q E hr h => ?_)
  obtain ⟨S, it, x, y, xs, rfl, hS, hi, ne, h0, h1, kk⟩ := h
  refine ⟨_, (pss_one (ps_ret (pe_ix ix_list (pv 1) (pe_c (c_law_draw T) hr (by decide) (by rfl) (pa_cons (pv 0) (pa_cons (pe_callB call_len_seq (by rfl) T.n_len (by decide +kernel) (pa_cons (pv 1) pa_nil)) pa_nil))) (fun _ _ => rfl)))), ?_⟩
  refine ⟨_, rfl, _, rfl, _, rfl, it, _, rfl, .inl (SqL.of hi), S, x, y, _, rfl, hS, by omega, by omega, fun d x' y' d0 d1 => ?_⟩
  obtain ⟨j, rfl⟩ : ∃ j : Nat, d = (j : Nat) := ⟨d.toNat, by omega⟩
  have hj : j < xs.length := by omega
  have hx : xs[j]? = some xs[j] := by simp [hj]
  exact ⟨it, xs, _, _, rfl, rfl, SqL.of (by rw [upd_ne ne]; exact hi), atI_nat hx, kk j _ x' y' hx⟩
end
end Ag
set_option maxHeartbeats 4000000
/-! The law's own helpers: one life. -/
namespace Ag
open PySem PySem.Spec PyProof.Rows L2
open C8 (Cal Met Mak pe_c pe_mt pe_mt0 pe_mk pe_gc)
open Evl (Ex)
/-- the marks as a dict, at T behind the life's begin -/
def mkD (T : Int) (m : M3) : List (Key × V) := [(Sum.inr "read", .int (T - m.r)), (Sum.inr "written", .int (T - m.w)), (Sum.inr "changed", .int (T - m.c))]
def putS (at' : Int) (old : List (Key × V)) (S : List (Str × Int)) : List (Key × V) := S.foldl (fun acc p => putK acc (Sum.inr p.1) (.int (at' - p.2))) old
theorem putS_take {at' : Int} {old : List (Key × V)} {S : List (Str × Int)} {i : Nat} {p : Str × Int} (h : S[i]? = some p) : putS at' old (S.take (i + 1)) = putK (putS at' old (S.take i)) (Sum.inr p.1) (.int (at' - p.2)) := by
  unfold putS
  rw [List.take_add_one, h, List.foldl_append]
  rfl
theorem putS_len (at' : Int) (old : List (Key × V)) : ∀ S : List (Str × Int), (putS at' old S).length ≤ old.length + S.length := by
  intro S
  induction S generalizing old with
  | nil => exact Nat.le_refl _
  | cons p S ih =>
    have h1 := ih (putK old (Sum.inr p.1) (.int (at' - p.2)))
    have h2 := length_putK old (Sum.inr p.1) (.int (at' - p.2))
    have h3 : putS at' old (p :: S) = putS at' (putK old (Sum.inr p.1) (.int (at' - p.2))) S := rfl
    rw [h3, List.length_cons]
    omega
def SOk (S : List (Str × Int)) : Prop := S.length ≤ 3 ∧ ∀ (i : Nat) (p : Str × Int), S[i]? = some p → valV (dkv S) (Sum.inr p.1) = some (.int p.2)
theorem sok3 (x y z : Int) : SOk [("read", x), ("written", y), ("changed", z)] := ⟨by simp, fun i p h => by
  match i, h with
  | 0, h => cases h; rfl
  | 1, h => cases h; rfl
  | 2, h => cases h; rfl
  | i + 3, h => simp at h⟩
theorem sok2 (y z : Int) : SOk [("written", y), ("changed", z)] := ⟨by simp, fun i p h => by
  match i, h with
  | 0, h => cases h; rfl
  | 1, h => cases h; rfl
  | i + 2, h => simp at h⟩
theorem sok1 (x : Str) (y : Int) : SOk [(x, y)] := ⟨by simp, fun i p h => by
  match i, h with
  | 0, h => cases h; exact valV_pos rfl
  | i + 1, h => simp at h⟩
theorem backs_ok (d : Deed) : SOk (backsM d) := by
  cases d with
  | make => exact sok3 _ _ _
  | touch => exact sok3 _ _ _
  | unpack b => exact sok3 _ _ _
  | setback b => exact sok3 _ _ _
  | write => exact sok2 _ _
  | rename => exact sok1 _ _
  | read => exact ⟨by simp [backsM], fun i p h => by simp [backsM] at h⟩
/-- what the deed's dict is in the law's life -/
def setS (a : Int) (D : Deed) (t : Int) (m : M3) : List (Str × Int) := if D.isRead = true ∧ (m.w ≤ m.r ∨ m.c ≤ m.r ∨ a ≤ m.r + t) then [("read", 0)] else backsM D
theorem setS_ok (a : Int) (D : Deed) (t : Int) (m : M3) : SOk (setS a D t m) := by
  unfold setS
  split
  · exact sok1 _ _
  · exact backs_ok D
theorem put_step (a T t : Int) (D : Deed) (m : M3) : putS (T + t) (mkD T m) (setS a D t m) = mkD (T + t) (stepM a D t m) := by
  have er : T + t - (m.r + t) = T - m.r := by omega
  have ew : T + t - (m.w + t) = T - m.w := by omega
  have ec : T + t - (m.c + t) = T - m.c := by omega
  have e0 : ∀ x : Int, x - 0 = x := fun x => by omega
  cases D with
  | make => rfl
  | touch => rfl
  | unpack b => rfl
  | setback b => rfl
  | write => unfold mkD stepM; rw [er]; rfl
  | rename => unfold mkD stepM; rw [er, ew]; rfl
  | read =>
    unfold setS
    by_cases q : m.w ≤ m.r ∨ m.c ≤ m.r ∨ a ≤ m.r + t
    · rw [if_pos ⟨rfl, q⟩]
      unfold stepM
      simp only [q, if_true]
      unfold mkD
      rw [ew, ec]
      rfl
    · rw [if_neg (fun z => q z.2)]
      unfold stepM
      simp only [q, if_false]
      unfold mkD
      rw [er, ew, ec]
      rfl
theorem put_first (a : Int) (D : Deed) (h : D.maker = true) : putS 0 [] (backsM D) = mkD 0 (stepM a D 0 ⟨0, 0, 0⟩) := by
  cases D <;> first | rfl | simp [Deed.maker] at h
section
variable {P : Program} {w : World} {K : PySem.W.Frag} {mg : Str → Option Value} {base : Heap}
def sp_law_backs : Sp := fun vs H Q _ => ∃ (t : Addr) (d : Deed), vs = [.ref t] ∧ H t = some (.tup d.vs) ∧ d.ok ∧ ∀ p H', Ex H H' → H p = none → H' p = some (.dK (dkv (backsM d))) → Q (.ref p) H'
theorem c_law_backs (T : Top K mg) : Cal P w K mg base 1 "_law_backs" sp_law_backs [] := by
  refine mkCal T.d_law_backs sc_law_backs (fun _ _ _ _ _ _ us hl => match us, hl with | [_], _ => rfl) (fun vs H Q E h => by (obtain ⟨_, _, rfl, _⟩ := h; rfl)) (fun f cdv A outer s H vs Q E hr h => ?_)
  obtain ⟨t, d, rfl, ht, ok, k⟩ := h
  refine ⟨_, (pss_cons (ps_if (pt_cmpR op_in_seq (pe_ix ix_tup (pv 0) pe_int (fun _ _ => rfl)) (pe_tup (pa_cons pe_str (pa_cons pe_str pa_nil))) (by rfl)) (pss_one (ps_ret (pe_disp (pps_cons pe_str pe_int (pps_cons pe_str pe_int (pps_cons pe_str pe_int pps_nil))) (by rfl) (by rfl) (fun z => by cases z) (by decide)))) pss_nil)
    (pss_cons (ps_if (pt_cmpR op_eq (pe_ix ix_tup (pv 0) pe_int (fun _ _ => rfl)) pe_str (nomark _)) (pss_one (ps_ret (pe_disp (pps_cons pe_str pe_int (pps_cons pe_str (pe_ix ix_tup (pv 0) pe_int (fun _ _ => rfl)) (pps_cons pe_str pe_int pps_nil))) (by rfl) (by rfl) (fun z => by cases z) (by decide)))) pss_nil)
    (pss_cons (ps_if (pt_cmpR op_eq (pe_ix ix_tup (pv 0) pe_int (fun _ _ => rfl)) pe_str (nomark _)) (pss_one (ps_ret (pe_disp (pps_cons pe_str (pe_ix ix_tup (pv 0) pe_int (fun _ _ => rfl)) (pps_cons pe_str (pe_ix ix_tup (pv 0) pe_int (fun _ _ => rfl)) (pps_cons pe_str pe_int pps_nil))) (by rfl) (by rfl) (fun z => by cases z) (by decide)))) pss_nil)
    (pss_cons (ps_if (pt_cmpR op_eq (pe_ix ix_tup (pv 0) pe_int (fun _ _ => rfl)) pe_str (nomark _)) (pss_one (ps_ret (pe_disp (pps_cons pe_str pe_int (pps_cons pe_str pe_int pps_nil)) (by rfl) (by rfl) (fun z => by cases z) (by decide)))) pss_nil)
    (pss_one (ps_ret (pe_ifExp (pt_cmpR op_eq (pe_ix ix_tup (pv 0) pe_int (fun _ _ => rfl)) pe_str (nomark _)) (pe_disp (pps_cons pe_str pe_int pps_nil) (by rfl) (by rfl) (fun z => by cases z) (by decide)) pe_dnewK))))))), ?_⟩
  refine ⟨_, rfl, t, _, _, _, rfl, rfl, SqT.of ht, d.hd, szl (by simp), fun m2 hm2 => ?_⟩
  obtain ⟨H2, q_, e2, h2⟩ := new_ex (o := .tup [.str "make", .str "touch"]) hm2
  rw [← q_]; clear q_
  have e12 := e2
  have ht2 := e12 _ _ ht
  have kk : ∀ p H', Ex H2 H' → H2 p = none → H' p = some (.dK (dkv (backsM d))) → Q (.ref p) H' := fun p H' e hp h => k p H' (e12.trans e) (fr_of e12 hp) h
  refine ⟨_, _, rfl, .inr (SqT.of h2), rfl, rfl, ?_⟩
  rw [w_mt]
  cases d with
  | make =>
    refine ⟨_, rfl, iteT fun p hp => ?_⟩
    refine ⟨upd_same, [(Sum.inr "read", .int 0), (Sum.inr "written", .int 0), (Sum.inr "changed", .int 0)], rfl, (by simp), ?_⟩
    exact disp_end hp (mg3 _ _ _) kk
  | touch =>
    refine ⟨_, rfl, iteT fun p hp => ?_⟩
    refine ⟨upd_same, [(Sum.inr "read", .int 0), (Sum.inr "written", .int 0), (Sum.inr "changed", .int 0)], rfl, (by simp), ?_⟩
    exact disp_end hp (mg3 _ _ _) kk
  | unpack b =>
    refine ⟨_, rfl, iteF ?_⟩
    refine ⟨_, rfl, t, _, _, _, rfl, rfl, SqT.of ht2, rfl, rfl, _, rfl, iteDT rfl fun p hp => ?_⟩
    have ht3 : upd H2 p (.dK []) t = some (.tup (Deed.unpack b).vs) := Evl.Ex.new hp _ _ ht2
    refine ⟨_, rfl, t, _, _, _, rfl, rfl, SqT.of ht3, rfl, upd_same, [(Sum.inr "read", .int 0), (Sum.inr "written", .int b), (Sum.inr "changed", .int 0)], rfl, (by simp), ?_⟩
    exact disp_end hp (mg3 _ _ _) kk
  | setback b =>
    refine ⟨_, rfl, iteF ?_⟩
    refine ⟨_, rfl, t, _, _, _, rfl, rfl, SqT.of ht2, rfl, rfl, _, rfl, iteDF (Deed.word_ne (d := .setback b) (show ¬ (("setback" : Str) = "unpack") by decide +kernel)) ?_⟩
    refine ⟨_, rfl, t, _, _, _, rfl, rfl, SqT.of ht2, rfl, rfl, _, rfl, iteDT rfl fun p hp => ?_⟩
    have ht3 : upd H2 p (.dK []) t = some (.tup (Deed.setback b).vs) := Evl.Ex.new hp _ _ ht2
    refine ⟨_, rfl, t, _, _, _, rfl, rfl, SqT.of ht3, rfl, _, rfl, t, _, _, _, rfl, rfl, SqT.of ht3, rfl, upd_same, [(Sum.inr "read", .int b), (Sum.inr "written", .int b), (Sum.inr "changed", .int 0)], rfl, (by simp), ?_⟩
    exact disp_end hp (mg3 _ _ _) kk
  | write =>
    refine ⟨_, rfl, iteF ?_⟩
    refine ⟨_, rfl, t, _, _, _, rfl, rfl, SqT.of ht2, rfl, rfl, _, rfl, iteDF (Deed.word_ne (d := .write) (by decide +kernel)) ?_⟩
    refine ⟨_, rfl, t, _, _, _, rfl, rfl, SqT.of ht2, rfl, rfl, _, rfl, iteDF (Deed.word_ne (d := .write) (by decide +kernel)) ?_⟩
    refine ⟨_, rfl, t, _, _, _, rfl, rfl, SqT.of ht2, rfl, rfl, _, rfl, iteDT rfl fun p hp => ?_⟩
    refine ⟨upd_same, [(Sum.inr "written", .int 0), (Sum.inr "changed", .int 0)], rfl, (by simp), ?_⟩
    exact disp_end hp (mg2 _ _) kk
  | rename =>
    refine ⟨_, rfl, iteF ?_⟩
    refine ⟨_, rfl, t, _, _, _, rfl, rfl, SqT.of ht2, rfl, rfl, _, rfl, iteDF (Deed.word_ne (d := .rename) (by decide +kernel)) ?_⟩
    refine ⟨_, rfl, t, _, _, _, rfl, rfl, SqT.of ht2, rfl, rfl, _, rfl, iteDF (Deed.word_ne (d := .rename) (by decide +kernel)) ?_⟩
    refine ⟨_, rfl, t, _, _, _, rfl, rfl, SqT.of ht2, rfl, rfl, _, rfl, iteDF (Deed.word_ne (d := .rename) (by decide +kernel)) ?_⟩
    refine ⟨_, rfl, t, _, _, _, rfl, rfl, SqT.of ht2, rfl, rfl, _, rfl, iteDT rfl fun p hp => ?_⟩
    refine ⟨upd_same, [(Sum.inr "changed", .int 0)], rfl, (by simp), ?_⟩
    exact disp_end hp (mg1 _) kk
  | read =>
    refine ⟨_, rfl, iteF ?_⟩
    refine ⟨_, rfl, t, _, _, _, rfl, rfl, SqT.of ht2, rfl, rfl, _, rfl, iteDF (Deed.word_ne (d := .read) (by decide +kernel)) ?_⟩
    refine ⟨_, rfl, t, _, _, _, rfl, rfl, SqT.of ht2, rfl, rfl, _, rfl, iteDF (Deed.word_ne (d := .read) (by decide +kernel)) ?_⟩
    refine ⟨_, rfl, t, _, _, _, rfl, rfl, SqT.of ht2, rfl, rfl, _, rfl, iteDF (Deed.word_ne (d := .read) (by decide +kernel)) ?_⟩
    refine ⟨_, rfl, t, _, _, _, rfl, rfl, SqT.of ht2, rfl, rfl, _, rfl, iteDF (Deed.word_ne (d := .read) (by decide +kernel)) fun p hp => ?_⟩
    exact kk p _ (Evl.Ex.new hp) hp upd_same
def sp_law_sets : Sp := fun vs H Q _ => ∃ (d row : Addr) (T t a : Int) (m : M3), vs = [.ref d, .ref row, .int (T + t)] ∧ H d = some (.dK (mkD T m)) ∧ H row = some (.tup [.str "seldom", .int a]) ∧ Q (.bl (decide (m.w ≤ m.r ∨ m.c ≤ m.r ∨ a ≤ m.r + t))) H
theorem c_law_sets (T : Top K mg) : Cal P w K mg base 1 "_law_sets" sp_law_sets [] := by
  refine mkCal T.d_law_sets sc_law_sets (fun _ _ _ _ _ _ us hl => match us, hl with | [_, _, _], _ => rfl) (fun vs H Q E h => by (obtain ⟨_, _, _, _, _, _, rfl, _⟩ := h; rfl)) (fun f cdv A outer s H vs Q E hr h => ?_)
  obtain ⟨d, row, T0, t, a, m, rfl, hd, hrow, k⟩ := h
  have hu := hu_of hr
  refine ⟨_, (pss_cons (ps_if (pt_cmpR op_ne (pe_ix ix_tup (pv 1) pe_int (fun _ _ => rfl)) pe_str (nomark _)) (pss_one (ps_ret (pe_cmpR op_eq (pe_ix ix_tup (pv 1) pe_int (fun _ _ => rfl)) pe_str (nomark _)))) pss_nil)
    (pss_one (ps_ret (pe_or (pe_cmpR op_le (pe_dget hu (pv 0) pe_str (fun _ _ => rfl)) (pe_dget hu (pv 0) pe_str (fun _ _ => rfl)) (nomark _)) (pe_or (pe_cmpR op_le (pe_dget hu (pv 0) pe_str (fun _ _ => rfl)) (pe_dget hu (pv 0) pe_str (fun _ _ => rfl)) (nomark _)) (pe_one (pe_cmpR op_ge (pe_op op_sub (pv 2) (pe_dget hu (pv 0) pe_str (fun _ _ => rfl))) (pe_ix ix_tup (pv 1) pe_int (fun _ _ => rfl)) (nomark _)))))))), ?_⟩
  have gr : DGet H d (.str "read") (some (.int (T0 - m.r))) := DGet.k (k := Sum.inr "read") hd
  have gw : DGet H d (.str "written") (some (.int (T0 - m.w))) := DGet.k (k := Sum.inr "written") hd
  have gc : DGet H d (.str "changed") (some (.int (T0 - m.c))) := DGet.k (k := Sum.inr "changed") hd
  refine ⟨_, rfl, row, _, _, _, rfl, rfl, SqT.of hrow, rfl, rfl, _, rfl, iteNS rfl ?_⟩
  refine ⟨_, rfl, d, _, rfl, gr, _, rfl, d, _, rfl, gw, _, _, rfl, rfl, ?_⟩
  dsimp only
  by_cases h1 : m.w ≤ m.r
  · rw [decide_eq_true (show T0 - m.r ≤ T0 - m.w by omega)]
    rw [decide_eq_true (show m.w ≤ m.r ∨ m.c ≤ m.r ∨ a ≤ m.r + t from .inl h1)] at k
    exact ⟨true, rfl, iteT k⟩
  · rw [decide_eq_false (show ¬ T0 - m.r ≤ T0 - m.w by omega)]
    refine ⟨false, rfl, iteF ?_⟩
    refine ⟨_, rfl, d, _, rfl, gr, _, rfl, d, _, rfl, gc, _, _, rfl, rfl, ?_⟩
    dsimp only
    by_cases h2 : m.c ≤ m.r
    · rw [decide_eq_true (show T0 - m.r ≤ T0 - m.c by omega)]
      rw [decide_eq_true (show m.w ≤ m.r ∨ m.c ≤ m.r ∨ a ≤ m.r + t from .inr (.inl h2))] at k
      exact ⟨true, rfl, iteT k⟩
    · rw [decide_eq_false (show ¬ T0 - m.r ≤ T0 - m.c by omega)]
      refine ⟨false, rfl, iteF ?_⟩
      refine ⟨_, rfl, _, rfl, d, _, rfl, gr, _, _, rfl, rfl, _, rfl, row, _, _, _, rfl, rfl, SqT.of hrow, rfl, _, _, rfl, rfl, ?_⟩
      dsimp only
      have e : decide (T0 + t - (T0 - m.r) ≥ a) = decide (m.w ≤ m.r ∨ m.c ≤ m.r ∨ a ≤ m.r + t) := by
        by_cases h3 : a ≤ m.r + t
        · rw [decide_eq_true (show m.w ≤ m.r ∨ m.c ≤ m.r ∨ a ≤ m.r + t from .inr (.inr h3)), decide_eq_true]; omega
        · rw [decide_eq_false (show ¬ (m.w ≤ m.r ∨ m.c ≤ m.r ∨ a ≤ m.r + t) by omega), decide_eq_false]; omega
      rw [e]
      exact k
def sp_law_done : Sp := fun vs H Q _ => ∃ (d row dd : Addr) (D : Deed) (at' a : Int) (old res : List (Key × V)), vs = [.ref d, .ref row, .ref dd, .int at'] ∧ H d = some (.dK old) ∧ H row = some (.tup [.str "seldom", .int a]) ∧ H dd = some (.tup D.vs) ∧ D.ok ∧
  ((old = [] ∧ D.maker = true ∧ at' = 0 ∧ res = mkD 0 (stepM a D 0 ⟨0, 0, 0⟩)) ∨ (∃ T t m, old = mkD T m ∧ at' = T + t ∧ res = mkD (T + t) (stepM a D t m))) ∧ ∀ p H', Ex H H' → H p = none → H' p = some (.dK res) → Q (.ref p) H'
theorem c_law_done (T : Top K mg) : Cal P w K mg base 2 "_law_done" sp_law_done [] := by
  refine mkCal T.d_law_done sc_law_done (fun _ _ _ _ _ _ us hl => match us, hl with | [_, _, _, _], _ => rfl) (fun vs H Q E h => by (obtain ⟨_, _, _, _, _, _, _, _, rfl, _⟩ := h; rfl)) (fun f cdv A outer s H vs Q E hr h => ?_)
  obtain ⟨d, row, dd, D, at', a, old, res, rfl, hd, hrow, hdd, ok, hc, kk⟩ := h
  have hu := hu_of hr
  refine ⟨_, (pss_cons (ps_set (i := 4) sc_law_done.nd rfl (Or.inl rfl) (pe_callTy call_dictD (by rfl) T.n_dict (by decide +kernel) (pa_cons (pv 0) pa_nil)))
    (pss_cons (ps_set (i := 5) sc_law_done.nd rfl (Or.inl rfl) (pe_c (c_law_backs T) hr (by decide) (by rfl) (pa_cons (pv 2) pa_nil)))
    (pss_cons (ps_if (PW.pt (pw_and (pt_cmpR op_eq (pe_ix ix_tup (pv 2) pe_int (fun _ _ => rfl)) pe_str (nomark _)) (pw_and1 (pt_val (pe_c (c_law_sets T) hr (by decide) (by rfl) (pa_cons (pv 0) (pa_cons (pv 1) (pa_cons (pv 3) pa_nil)))))))) (pss_one (ps_set (i := 5) sc_law_done.nd rfl (Or.inl rfl) (pe_disp (pps_cons pe_str pe_int pps_nil) (by rfl) (by rfl) (fun z => by cases z) (by decide)))) pss_nil)
    (pss_cons (ps_lock (ps_for PassesOwn.never rfl (pi_keys (pv 5)) (pg_name (i := 6) sc_law_done.nd rfl (by first | exact Or.inl rfl | exact Or.inr rfl))
    (pss_one (ps_dput hu (pv 4) (pv 6) (pe_op op_sub (pv 3) (pe_dget hu (pv 5) (pv 6) (fun _ _ => rfl))) rfl))))
    (pss_one (ps_ret (pv 4))))))), ?_⟩
  refine ⟨_, rfl, d, old, rfl, .inl hd, fun p hp => ?_⟩
  obtain ⟨H1, q_, e1, h1⟩ := new_ex (o := .dK old) hp
  rw [← q_]; clear q_
  refine ⟨_, rfl, dd, D, rfl, e1 _ _ hdd, ok, fun s H2 e2 hs h2 => ?_⟩
  have e12 := e1.trans e2
  have hp2 := e2 _ _ h1
  have old3 : old.length ≤ 3 := by
    rcases hc with ⟨z, _⟩ | ⟨T0, t, m, z, _⟩
    · rw [z]; exact Nat.zero_le _
    · rw [z]; exact Nat.le_refl _
  refine ⟨_, rfl, dd, _, _, _, rfl, rfl, SqT.of (e12 _ _ hdd), D.hd, rfl, _, rfl, ?_⟩
  have plain : ∀ SS, SS = backsM D → SOk SS ∧ (¬ (D.isRead = true ∧ ∃ T t m, old = mkD T m ∧ at' = T + t ∧ (m.w ≤ m.r ∨ m.c ≤ m.r ∨ a ≤ m.r + t)) → putS at' old SS = res) := by
    rintro SS rfl
    refine ⟨backs_ok D, fun hno => ?_⟩
    rcases hc with ⟨z1, z2, z3, z4⟩ | ⟨T0, t, m, z1, z2, z3⟩
    · rw [z1, z3, z4, put_first a D z2]
    · rw [z1, z2, z3, ← put_step a T0 t D m]
      unfold setS
      rw [if_neg (fun z => hno ⟨z.1, T0, t, m, z1, z2, z.2⟩)]
  cases hp' : D.isRead with
  | false =>
    refine iteDF (neS (word_nread hp')) ?_
    obtain ⟨SS, hSS⟩ : ∃ SS, SS = backsM D := ⟨_, rfl⟩
    rw [← hSS] at h2
    obtain ⟨hS, hres⟩ := plain SS hSS
    have hres := hres (fun z => by rw [hp'] at z; cases z.1)
    have e03 := e12
    have hp3 := hp2
    have s30 : H s = none := fr_of e1 hs
    have nps : p ≠ s := ne_fr h1 hs
    refine ⟨s, _, h2, trivial, fun od => ?_⟩
    refine ⟨_, rfl, s, od, rfl, .inl ⟨dkv SS, upd_same, ?_⟩⟩
    have eF : Ex H (upd H2 s (.frz od (.dK (dkv SS)))) := Evl.Ex.mut e03 s30
    have hSl : (dkv SS).length = SS.length := by simp [dkv]
    refine for_it (walk_keys (d := s) (o := od) (kvs := dkv SS)) (fun i σ H' => ∃ u, σ = [some (.ref d), some (.ref row), some (.ref dd), some (.int at'), some (.ref p), some (.ref s), u] ∧ Ex H H' ∧ H' s = some (.frz od (.dK (dkv SS))) ∧ H' p = some (.dK (putS at' old (SS.take i))))
      ⟨none, rfl, eF, upd_same, by rw [upd_ne nps]; exact hp3⟩ (fun i σ H' _ ⟨_, _, _, z, _⟩ => z) ?_ ?_
    · rintro i x σ H4 H5 hi ⟨u, rfl, e4, z1, z2⟩ ⟨rfl, kx, vx, hkx, rfl⟩
      obtain ⟨q, hq, rfl, rfl⟩ : ∃ q, SS[i]? = some q ∧ Sum.inr q.1 = kx ∧ V.int q.2 = vx := by
        unfold dkv at hkx
        rw [List.getElem?_map] at hkx
        cases z : SS[i]? with
        | none => rw [z] at hkx; cases hkx
        | some q => rw [z] at hkx; have := Option.some.inj hkx; exact ⟨q, rfl, congrArg Prod.fst this, congrArg Prod.snd this⟩
      have dg : DGet H5 s (kV (Sum.inr q.1)) (some (.int q.2)) := by
        rw [← hS.2 i q hq]
        exact .inl ⟨_, _, .inr ⟨od, z1⟩, rfl, rfl⟩
      have hlen : (putS at' old (SS.take i)).length < sizeLine := by
        have := putS_len at' old (SS.take i)
        have h2 : (SS.take i).length ≤ SS.length := by rw [List.length_take]; exact Nat.min_le_right _ _
        have h3 := hS.1
        exact szt (by omega)
      refine ⟨_, rfl, _, rfl, _, rfl, s, _, rfl, dg, _, _, rfl, rfl, _, rfl, _, rfl, p, _, rfl, DPut.k (k := Sum.inr q.1) z2 hlen, ?_⟩
      refine ⟨_, rfl, Evl.Ex.mut e4 hp, by rw [upd_ne nps.symm]; exact z1, ?_⟩
      rw [upd_same, putS_take hq]
    · rintro σ H4 ⟨u, rfl, e4, z1, z2⟩
      refine ⟨z1, ?_⟩
      rw [hSl, List.take_length, hres] at z2
      refine ⟨_, rfl, kk p _ (Evl.Ex.mut e4 s30) hp (by rw [upd_ne nps]; exact z2)⟩
  | true =>
    refine iteDT (by rw [word_read hp']) ?_
    obtain ⟨T0, t, m, z1, z2, z3⟩ : ∃ T t m, old = mkD T m ∧ at' = T + t ∧ res = mkD (T + t) (stepM a D t m) := by
      rcases hc with ⟨_, z, _⟩ | z
      · rw [isRead_eq hp'] at z; cases z
      · exact z
    refine ⟨_, rfl, _, rfl, _, rfl, d, row, T0, t, a, m, by rw [z2]; rfl, by rw [← z1]; exact e12 _ _ hd, e12 _ _ hrow, ?_⟩
    by_cases q0 : m.w ≤ m.r ∨ m.c ≤ m.r ∨ a ≤ m.r + t
    · rw [decide_eq_true q0]
      refine ⟨_, rfl, iteT fun s3 hs3 => ?_⟩
      refine ⟨upd_same, [(Sum.inr "read", .int 0)], rfl, by decide, ?_⟩
      rw [upd_upd, mgr]
      have s30 : H s3 = none := fr_of e12 hs3
      have nps0 : p ≠ s3 := ne_fr hp2 hs3
      obtain ⟨H3, q3, e3, h3⟩ := new_ex (o := .dK (dkv [("read", 0)])) hs3
      rw [← q3]
      have e03 := e12.trans e3
      have hp3 := e3 _ _ hp2
      obtain ⟨SS, hSS⟩ : ∃ SS, SS = ([("read", 0)] : List (Str × Int)) := ⟨_, rfl⟩
      rw [← hSS] at h3
      have hS : SOk SS := by rw [hSS]; exact sok1 _ _
      have hres : putS at' old SS = res := by
        rw [hSS, z1, z2, z3, ← put_step a T0 t D m]
        unfold setS
        rw [if_pos ⟨hp', q0⟩]
      have nps : p ≠ s3 := nps0
      refine ⟨s3, _, h3, trivial, fun od => ?_⟩
      refine ⟨_, rfl, s3, od, rfl, .inl ⟨dkv SS, upd_same, ?_⟩⟩
      have eF : Ex H (upd H3 s3 (.frz od (.dK (dkv SS)))) := Evl.Ex.mut e03 s30
      have hSl : (dkv SS).length = SS.length := by simp [dkv]
      refine for_it (walk_keys (d := s3) (o := od) (kvs := dkv SS)) (fun i σ H' => ∃ u, σ = [some (.ref d), some (.ref row), some (.ref dd), some (.int at'), some (.ref p), some (.ref s3), u] ∧ Ex H H' ∧ H' s3 = some (.frz od (.dK (dkv SS))) ∧ H' p = some (.dK (putS at' old (SS.take i))))
        ⟨none, rfl, eF, upd_same, by rw [upd_ne nps]; exact hp3⟩ (fun i σ H' _ ⟨_, _, _, z, _⟩ => z) ?_ ?_
      · rintro i x σ H4 H5 hi ⟨u, rfl, e4, z1, z2⟩ ⟨rfl, kx, vx, hkx, rfl⟩
        obtain ⟨q, hq, rfl, rfl⟩ : ∃ q, SS[i]? = some q ∧ Sum.inr q.1 = kx ∧ V.int q.2 = vx := by
          unfold dkv at hkx
          rw [List.getElem?_map] at hkx
          cases z : SS[i]? with
          | none => rw [z] at hkx; cases hkx
          | some q => rw [z] at hkx; have := Option.some.inj hkx; exact ⟨q, rfl, congrArg Prod.fst this, congrArg Prod.snd this⟩
        have dg : DGet H5 s3 (kV (Sum.inr q.1)) (some (.int q.2)) := by
          rw [← hS.2 i q hq]
          exact .inl ⟨_, _, .inr ⟨od, z1⟩, rfl, rfl⟩
        have hlen : (putS at' old (SS.take i)).length < sizeLine := by
          have := putS_len at' old (SS.take i)
          have h2 : (SS.take i).length ≤ SS.length := by rw [List.length_take]; exact Nat.min_le_right _ _
          have h3 := hS.1
          exact szt (by omega)
        refine ⟨_, rfl, _, rfl, _, rfl, s3, _, rfl, dg, _, _, rfl, rfl, _, rfl, _, rfl, p, _, rfl, DPut.k (k := Sum.inr q.1) z2 hlen, ?_⟩
        refine ⟨_, rfl, Evl.Ex.mut e4 hp, by rw [upd_ne nps.symm]; exact z1, ?_⟩
        rw [upd_same, putS_take hq]
      · rintro σ H4 ⟨u, rfl, e4, z1, z2⟩
        refine ⟨z1, ?_⟩
        rw [hSl, List.take_length, hres] at z2
        refine ⟨_, rfl, kk p _ (Evl.Ex.mut e4 s30) hp (by rw [upd_ne nps]; exact z2)⟩
    · rw [decide_eq_false q0]
      refine ⟨_, rfl, iteF ?_⟩
      obtain ⟨SS, hSS⟩ : ∃ SS, SS = backsM D := ⟨_, rfl⟩
      rw [← hSS] at h2
      obtain ⟨hS, hres⟩ := plain SS hSS
      have hres := hres (by
        rintro ⟨_, T1, t1, m1, y1, y2, y3⟩
        have h4 : mkD T0 m = mkD T1 m1 := z1.symm.trans y1
        simp [mkD] at h4
        obtain ⟨h5, h6, h7⟩ := h4
        omega)
      have e03 := e12
      have hp3 := hp2
      have s30 : H s = none := fr_of e1 hs
      have nps : p ≠ s := ne_fr h1 hs
      refine ⟨s, _, h2, trivial, fun od => ?_⟩
      refine ⟨_, rfl, s, od, rfl, .inl ⟨dkv SS, upd_same, ?_⟩⟩
      have eF : Ex H (upd H2 s (.frz od (.dK (dkv SS)))) := Evl.Ex.mut e03 s30
      have hSl : (dkv SS).length = SS.length := by simp [dkv]
      refine for_it (walk_keys (d := s) (o := od) (kvs := dkv SS)) (fun i σ H' => ∃ u, σ = [some (.ref d), some (.ref row), some (.ref dd), some (.int at'), some (.ref p), some (.ref s), u] ∧ Ex H H' ∧ H' s = some (.frz od (.dK (dkv SS))) ∧ H' p = some (.dK (putS at' old (SS.take i))))
        ⟨none, rfl, eF, upd_same, by rw [upd_ne nps]; exact hp3⟩ (fun i σ H' _ ⟨_, _, _, z, _⟩ => z) ?_ ?_
      · rintro i x σ H4 H5 hi ⟨u, rfl, e4, z1, z2⟩ ⟨rfl, kx, vx, hkx, rfl⟩
        obtain ⟨q, hq, rfl, rfl⟩ : ∃ q, SS[i]? = some q ∧ Sum.inr q.1 = kx ∧ V.int q.2 = vx := by
          unfold dkv at hkx
          rw [List.getElem?_map] at hkx
          cases z : SS[i]? with
          | none => rw [z] at hkx; cases hkx
          | some q => rw [z] at hkx; have := Option.some.inj hkx; exact ⟨q, rfl, congrArg Prod.fst this, congrArg Prod.snd this⟩
        have dg : DGet H5 s (kV (Sum.inr q.1)) (some (.int q.2)) := by
          rw [← hS.2 i q hq]
          exact .inl ⟨_, _, .inr ⟨od, z1⟩, rfl, rfl⟩
        have hlen : (putS at' old (SS.take i)).length < sizeLine := by
          have := putS_len at' old (SS.take i)
          have h2 : (SS.take i).length ≤ SS.length := by rw [List.length_take]; exact Nat.min_le_right _ _
          have h3 := hS.1
          exact szt (by omega)
        refine ⟨_, rfl, _, rfl, _, rfl, s, _, rfl, dg, _, _, rfl, rfl, _, rfl, _, rfl, p, _, rfl, DPut.k (k := Sum.inr q.1) z2 hlen, ?_⟩
        refine ⟨_, rfl, Evl.Ex.mut e4 hp, by rw [upd_ne nps.symm]; exact z1, ?_⟩
        rw [upd_same, putS_take hq]
      · rintro σ H4 ⟨u, rfl, e4, z1, z2⟩
        refine ⟨z1, ?_⟩
        rw [hSl, List.take_length, hres] at z2
        refine ⟨_, rfl, kk p _ (Evl.Ex.mut e4 s30) hp (by rw [upd_ne nps]; exact z2)⟩
end
end Ag
set_option maxHeartbeats 4000000
/-! The law's own helpers: the chain drawn. -/
namespace Ag
open PySem PySem.Spec PyProof.Rows L2
open C8 (Cal Met Mak pe_c pe_mt pe_mt0 pe_mk pe_gc)
open Evl (Ex)
theorem rvs_snoc {n : Nat} {F : Nat → Addr} {q : Addr} : rvs (n + 1) (fun k => if k = n then q else F k) = rvs n F ++ [.ref q] := by
  unfold rvs
  rw [rng_succ]
  congr 1
  · apply List.map_congr_left
    intro k hk
    have : k < n := by simpa using hk
    have : ¬ k = n := by omega
    simp [this]
  · simp
theorem ivs_snoc {n : Nat} {F : Nat → Int} {q : Int} : ivs (n + 1) (fun k => if k = n then q else F k) = ivs n F ++ [.int q] := by
  unfold ivs
  rw [rng_succ]
  congr 1
  · apply List.map_congr_left
    intro k hk
    have : k < n := by simpa using hk
    have : ¬ k = n := by omega
    simp [this]
  · simp
/-- all but the source stands; the source is one -/
structure FrS (H H' : Hp) (S : Addr) : Prop where
  e : Ex (del H S) (del H' S)
  s : ∃ x y, H' S = some (.lst [.int x, .int y])
theorem FrS.trans {H H' H'' : Hp} {S : Addr} (a : FrS H H' S) (b : FrS H' H'' S) : FrS H H'' S := ⟨a.e.trans b.e, b.s⟩
theorem FrS.grow {H H' H'' : Hp} {S : Addr} (a : FrS H H' S) (e : Ex H' H'') : FrS H H'' S := ⟨a.e.trans (exd e), let ⟨x, y, h⟩ := a.s; ⟨x, y, e _ _ h⟩⟩
theorem FrS.draw {H H' : Hp} {S : Addr} (a : FrS H H' S) (x y : Int) : FrS H (upd H' S (.lst [.int x, .int y])) S := ⟨by rw [del_upd]; exact a.e, x, y, upd_same⟩
theorem FrS.refl {H : Hp} {S : Addr} {x y : Int} (h : H S = some (.lst [.int x, .int y])) : FrS H H S := ⟨Evl.Ex.refl _, x, y, h⟩
theorem FrS.mut {H H' : Hp} {S D : Addr} {o : HO} (a : FrS H H' S) (hD : H D = none) (n : D ≠ S) : FrS H (upd H' D o) S := ⟨exd_mut a.e hD, let ⟨x, y, h⟩ := a.s; ⟨x, y, by rw [upd_ne n.symm]; exact h⟩⟩
theorem FrS.keep {H H' : Hp} {S t : Addr} {o : HO} (a : FrS H H' S) (n : t ≠ S) (h : H t = some o) : H' t = some o := del_ex _ _ (a.e _ _ (del_of n h))
section
variable {P : Program} {w : World} {K : PySem.W.Frag} {mg : Str → Option Value} {base : Heap}
def sp_law_deed (mk : Bool) : Sp := fun vs H Q _ => ∃ (S : Addr) (x y b : Int), vs = [.ref S, .int b] ∧ H S = some (.lst [.int x, .int y]) ∧ 0 < b ∧ b ≤ 100 ∧ ∀ (t : Addr) (H' : Hp) (D : Deed), D.maker = mk → D.ok → FrS H H' S → H' t = some (.tup D.vs) → Q (.ref t) H'
theorem c_law_maker (T : Top K mg) : Cal P w K mg base 3 "_law_maker" (sp_law_deed true) [] := by
  refine mkCal T.d_law_maker sc_law_maker (fun _ _ _ _ _ _ us hl => match us, hl with | [_, _], _ => rfl) (fun vs H Q E h => by (obtain ⟨_, _, _, _, rfl, _⟩ := h; rfl)) (fun f cdv A outer s H vs Q E hr h => ?_)
  obtain ⟨S, x, y, b, rfl, hS, b0, b1, kk⟩ := h
  refine ⟨_, (pss_one (ps_ret (pe_c (c_law_pick T) hr (by decide) (by rfl) (pa_cons (pv 0) (pa_cons (pe_lst (pa_cons (pe_tup (pa_cons pe_str pa_nil)) (pa_cons (pe_tup (pa_cons pe_str pa_nil)) (pa_cons (pe_tup (pa_cons pe_str (pa_cons (pe_op op_add pe_int (pe_c (c_law_draw T) hr (by decide) (by rfl) (pa_cons (pv 0) (pa_cons (pv 1) pa_nil)))) pa_nil))) pa_nil)))) pa_nil))))), ?_⟩
  refine ⟨_, rfl, szl (by simp), fun t1 g1 => ?_⟩
  obtain ⟨H1, q_, e1, h1⟩ := new_ex (o := .tup [.str "make"]) g1
  rw [← q_]; clear q_
  refine ⟨szl (by simp), fun t2 g2 => ?_⟩
  obtain ⟨H2, q_, e2, h2⟩ := new_ex (o := .tup [.str "make"]) g2
  rw [← q_]; clear q_
  have hS2 := e2 _ _ (e1 _ _ hS)
  refine ⟨_, rfl, _, rfl, S, x, y, b, rfl, hS2, b0, by omega, fun d x' y' d0 d1 => ?_⟩
  have F3 := (((FrS.refl hS).grow e1).grow e2).draw x' y'
  have h13 : upd H2 S (.lst [.int x', .int y']) t1 = some (.tup (Deed.vs .make)) := by rw [upd_ne (ne_of (e2 _ _ h1) hS2 (by intro z; cases z))]; exact e2 _ _ h1
  have h23 : upd H2 S (.lst [.int x', .int y']) t2 = some (.tup (Deed.vs .make)) := by rw [upd_ne (ne_of h2 hS2 (by intro z; cases z))]; exact h2
  refine ⟨_, _, rfl, rfl, szl (by simp), fun t3 g3 => ?_⟩
  have hS3 : upd H2 S (.lst [.int x', .int y']) S = some (.lst [.int x', .int y']) := upd_same
  generalize upd H2 S (.lst [.int x', .int y']) = H3 at *
  obtain ⟨H4, q_, e4, h4⟩ := new_ex (o := .tup [.str "unpack", .int (1 + d)]) g3
  rw [← q_]; clear q_
  refine ⟨szl (by simp), fun it gi => ?_⟩
  obtain ⟨H5, q_, e5, h5⟩ := new_ex (o := .lst [.ref t1, .ref t2, .ref t3]) gi
  rw [← q_]; clear q_
  have hS5 := e5 _ _ (e4 _ _ hS3)
  have F5 := (F3.grow e4).grow e5
  refine ⟨S, it, x', y', _, rfl, hS5, h5, ne_of h5 hS5 (by intro z; cases z), by simp, by simp, fun j v x'' y'' hv => ?_⟩
  have F6 := F5.draw x'' y''
  have keep : ∀ t (D : Deed), H5 t = some (.tup D.vs) → upd H5 S (.lst [.int x'', .int y'']) t = some (.tup D.vs) := fun t D h => by rw [upd_ne (ne_of h hS5 (by intro z; cases z))]; exact h
  match j, hv with
  | 0, hv => cases hv; exact kk t1 _ .make rfl trivial F6 (keep _ _ (e5 _ _ (e4 _ _ h13)))
  | 1, hv => cases hv; exact kk t2 _ .make rfl trivial F6 (keep _ _ (e5 _ _ (e4 _ _ h23)))
  | 2, hv => cases hv; exact kk t3 _ (.unpack (1 + d)) rfl ⟨by omega, by omega⟩ F6 (keep _ _ (e5 _ _ h4))
  | j + 3, hv => simp at hv
theorem c_law_user (T : Top K mg) : Cal P w K mg base 3 "_law_user" (sp_law_deed false) [] := by
  refine mkCal T.d_law_user sc_law_user (fun _ _ _ _ _ _ us hl => match us, hl with | [_, _], _ => rfl) (fun vs H Q E h => by (obtain ⟨_, _, _, _, rfl, _⟩ := h; rfl)) (fun f cdv A outer s H vs Q E hr h => ?_)
  obtain ⟨S, x, y, b, rfl, hS, b0, b1, kk⟩ := h
  refine ⟨_, (pss_one (ps_ret (pe_c (c_law_pick T) hr (by decide) (by rfl) (pa_cons (pv 0) (pa_cons (pe_lst (pa_cons (pe_tup (pa_cons pe_str pa_nil)) (pa_cons (pe_tup (pa_cons pe_str pa_nil)) (pa_cons (pe_tup (pa_cons pe_str pa_nil)) (pa_cons (pe_tup (pa_cons pe_str pa_nil)) (pa_cons (pe_tup (pa_cons pe_str pa_nil)) (pa_cons (pe_tup (pa_cons pe_str pa_nil)) (pa_cons (pe_tup (pa_cons pe_str (pa_cons (pe_op op_add pe_int (pe_c (c_law_draw T) hr (by decide) (by rfl) (pa_cons (pv 0) (pa_cons (pv 1) pa_nil)))) pa_nil))) pa_nil)))))))) pa_nil))))), ?_⟩
  refine ⟨_, rfl, szl (by simp), fun t1 g1 => ?_⟩
  obtain ⟨H1, q_, e1, h1⟩ := new_ex (o := .tup [.str "read"]) g1
  rw [← q_]; clear q_
  refine ⟨szl (by simp), fun t2 g2 => ?_⟩
  obtain ⟨H2, q_, e2, h2⟩ := new_ex (o := .tup [.str "read"]) g2
  rw [← q_]; clear q_
  refine ⟨szl (by simp), fun t3 g3 => ?_⟩
  obtain ⟨H3, q_, e3, h3⟩ := new_ex (o := .tup [.str "read"]) g3
  rw [← q_]; clear q_
  refine ⟨szl (by simp), fun t4 g4 => ?_⟩
  obtain ⟨H4, q_, e4, h4⟩ := new_ex (o := .tup [.str "write"]) g4
  rw [← q_]; clear q_
  refine ⟨szl (by simp), fun t5 g5 => ?_⟩
  obtain ⟨H5, q_, e5, h5⟩ := new_ex (o := .tup [.str "rename"]) g5
  rw [← q_]; clear q_
  refine ⟨szl (by simp), fun t6 g6 => ?_⟩
  obtain ⟨H6, q_, e6, h6⟩ := new_ex (o := .tup [.str "touch"]) g6
  rw [← q_]; clear q_
  have h56 := e6 _ _ h5
  have h46 := e6 _ _ (e5 _ _ h4)
  have e46 := (e4.trans e5).trans e6
  have h36 := e46 _ _ h3
  have h26 := e46 _ _ (e3 _ _ h2)
  have h16 := e46 _ _ (e3 _ _ (e2 _ _ h1))
  have e16 := ((e1.trans e2).trans e3).trans e46
  have hS6 := e16 _ _ hS
  refine ⟨_, rfl, _, rfl, S, x, y, b, rfl, hS6, b0, by omega, fun d x' y' d0 d1 => ?_⟩
  have F7 := ((FrS.refl hS).grow e16).draw x' y'
  have kp : ∀ t (D : Deed), H6 t = some (.tup D.vs) → upd H6 S (.lst [.int x', .int y']) t = some (.tup D.vs) := fun t D h => by rw [upd_ne (ne_of h hS6 (by intro z; cases z))]; exact h
  have h17 := kp _ .read h16
  have h27 := kp _ .read h26
  have h37 := kp _ .read h36
  have h47 := kp _ .write h46
  have h57 := kp _ .rename h56
  have h67 := kp _ .touch h6
  refine ⟨_, _, rfl, rfl, szl (by simp), fun t7 g7 => ?_⟩
  have hS7 : upd H6 S (.lst [.int x', .int y']) S = some (.lst [.int x', .int y']) := upd_same
  clear kp
  generalize upd H6 S (.lst [.int x', .int y']) = H7 at *
  obtain ⟨H8, q_, e8, h8⟩ := new_ex (o := .tup [.str "setback", .int (1 + d)]) g7
  rw [← q_]; clear q_
  refine ⟨szl (by simp), fun it gi => ?_⟩
  obtain ⟨H9, q_, e9, h9⟩ := new_ex (o := .lst [.ref t1, .ref t2, .ref t3, .ref t4, .ref t5, .ref t6, .ref t7]) gi
  rw [← q_]; clear q_
  have hS9 := e9 _ _ (e8 _ _ hS7)
  have F9 := (F7.grow e8).grow e9
  have e89 := e8.trans e9
  refine ⟨S, it, x', y', _, rfl, hS9, h9, ne_of h9 hS9 (by intro z; cases z), by simp, by simp, fun j v x'' y'' hv => ?_⟩
  have Fz := F9.draw x'' y''
  have keep : ∀ t (D : Deed), H9 t = some (.tup D.vs) → upd H9 S (.lst [.int x'', .int y'']) t = some (.tup D.vs) := fun t D h => by rw [upd_ne (ne_of h hS9 (by intro z; cases z))]; exact h
  match j, hv with
  | 0, hv => cases hv; exact kk t1 _ .read rfl trivial Fz (keep _ _ (e89 _ _ h17))
  | 1, hv => cases hv; exact kk t2 _ .read rfl trivial Fz (keep _ _ (e89 _ _ h27))
  | 2, hv => cases hv; exact kk t3 _ .read rfl trivial Fz (keep _ _ (e89 _ _ h37))
  | 3, hv => cases hv; exact kk t4 _ .write rfl trivial Fz (keep _ _ (e89 _ _ h47))
  | 4, hv => cases hv; exact kk t5 _ .rename rfl trivial Fz (keep _ _ (e89 _ _ h57))
  | 5, hv => cases hv; exact kk t6 _ .touch rfl trivial Fz (keep _ _ (e89 _ _ h67))
  | 6, hv => cases hv; exact kk t7 _ (.setback (1 + d)) rfl ⟨by omega, by omega⟩ Fz (keep _ _ (e9 _ _ h8))
  | j + 7, hv => simp at hv
end
end Ag
set_option maxHeartbeats 4000000
/-! The law's own helpers: the chain, its lives. -/
namespace Ag
open PySem PySem.Spec PyProof.Rows L2
open C8 (Cal Met Mak pe_c pe_mt pe_mt0 pe_mk pe_gc)
open Evl (Ex)
def Tm (c : Chain) : Nat → Int
  | 0 => 0
  | k + 1 => Tm c k + c.t k
structure DueAt (H : Hp) (c : Chain) (a : Int) (n : Nat) (l : Addr) (pr mk : Nat → Addr) : Prop where
  l_ : H l = some (.lst (rvs n pr))
  p_ : ∀ k, k < n → H (pr k) = some (.lst [.ref (mk k), .int (Tm c k)])
  m_ : ∀ k, k < n → H (mk k) = some (.dK (mkD (Tm c k) (life a c k)))
theorem DueAt.ext {H H' : Hp} {c : Chain} {a : Int} {n : Nat} {l : Addr} {pr mk : Nat → Addr} (e : Ex H H') (h : DueAt H c a n l pr mk) : DueAt H' c a n l pr mk := ⟨e _ _ h.l_, fun k hk => e _ _ (h.p_ k hk), fun k hk => e _ _ (h.m_ k hk)⟩
section
variable {P : Program} {w : World} {K : PySem.W.Frag} {mg : Str → Option Value} {base : Heap}
def sp_law_lives : Sp := fun vs H Q _ => ∃ (ln lt row : Addr) (c : Chain) (a : Int) (nr : Nat → Addr), vs = [.ref ln, .ref lt, .ref row] ∧ c.Ok ∧ NodesAt H c ln nr ∧ H lt = some (.lst (ivs (c.n - 1) c.t)) ∧ H row = some (.tup [.str "seldom", .int a]) ∧
  ∀ l pr mk H', Ex H H' → DueAt H' c a c.n l pr mk → Q (.ref l) H'
theorem c_law_lives (T : Top K mg) : Cal P w K mg base 3 "_law_lives" sp_law_lives [] := by
  refine mkCal T.d_law_lives sc_law_lives (fun _ _ _ _ _ _ us hl => match us, hl with | [_, _, _], _ => rfl) (fun vs H Q E h => by (obtain ⟨_, _, _, _, _, _, rfl, _⟩ := h; rfl)) (fun f cdv A outer s H vs Q E hr h => ?_)
  obtain ⟨ln, lt, row, c, a, nr, rfl, ok, hn, ht, hrow, kk⟩ := h
  refine ⟨_, (pss_cons (ps_par (i := 3) (j := 4) rfl sc_law_lives.nd rfl rfl (by decide) rfl rfl (pa_cons pe_int (pa_cons (pe_c (c_law_done T) hr (by decide) (by rfl) (pa_cons pe_dnewK (pa_cons (pv 2) (pa_cons (pe_ix ix_list (pv 0) pe_int (fun _ _ => rfl)) (pa_cons pe_int pa_nil))))) pa_nil)) (by rfl))
    (pss_cons (ps_set (i := 5) sc_law_lives.nd rfl (Or.inl rfl) (pe_lst (pa_cons (pe_lst (pa_cons (pv 4) (pa_cons (pv 3) pa_nil))) pa_nil)))
    (pss_cons (ps_for PassesOwn.never rfl (pi_range1 (by rfl) T.n_range (pa_cons (pe_callB call_len_seq (by rfl) T.n_len (by decide +kernel) (pa_cons (pv 1) pa_nil)) pa_nil)) (pg_name (i := 6) sc_law_lives.nd rfl (by first | exact Or.inl rfl | exact Or.inr rfl))
    (pss_cons (ps_set (i := 3) sc_law_lives.nd rfl (Or.inl rfl) (pe_op op_add (pv 3) (pe_ix ix_list (pv 1) (pv 6) (fun _ _ => rfl))))
    (pss_cons (ps_set (i := 4) sc_law_lives.nd rfl (Or.inl rfl) (pe_c (c_law_done T) hr (by decide) (by rfl) (pa_cons (pv 4) (pa_cons (pv 2) (pa_cons (pe_ix ix_list (pv 0) (pe_op op_add (pv 6) pe_int) (fun _ _ => rfl)) (pa_cons (pv 3) pa_nil))))))
    (pss_one (ps_expr (pe_bm PySem.F.plainAttrs_list PySem.F.slot_list_append PySem.F.type_list_append mt_append (pv 5) (pa_cons (pe_lst (pa_cons (pv 4) (pa_cons (pv 3) pa_nil))) pa_nil)))))))
    (pss_one (ps_ret (pv 5)))))), ?_⟩
  have hle := ok.le
  have hpos := ok.pos
  intro e0 he
  obtain ⟨H1, q_, e1, h1⟩ := new_ex (o := .dK []) he
  rw [← q_]; clear q_
  have hn1 := hn.ext e1
  refine ⟨_, rfl, _, rfl, ln, _, _, _, rfl, rfl, SqL.of hn1.nl, atI_nat (j := 0) (rvs_at hpos), e0, row, nr 0, c.d 0, 0, a, [], _, rfl, h1, e1 _ _ hrow, hn1.nd 0 hpos, ok.bk 0 hpos, .inl ⟨rfl, ok.mk0, rfl, rfl⟩, fun mk0 H2 e2 hm0 h2 => ⟨_, _, rfl, ?_⟩⟩
  refine ⟨_, rfl, _, rfl, szl (by simp), fun pr0 hp0 => ?_⟩
  obtain ⟨H3, q_, e3, h3⟩ := new_ex (o := .lst [.ref mk0, .int 0]) hp0
  rw [← q_]; clear q_
  refine ⟨szl (by simp), fun l hl => ?_⟩
  have l_ne : pr0 ≠ l := ne_fr h3 hl
  obtain ⟨H4, q_, e4, h4⟩ := new_ex (o := .lst [.ref pr0]) hl
  rw [← q_]; clear q_
  have e04 := ((e1.trans e2).trans e3).trans e4
  have hl0 : H l = none := fr_of ((e1.trans e2).trans e3) hl
  have hlen : (ivs (c.n - 1) c.t).length = c.n - 1 := ivs_len _ _
  refine ⟨_, rfl, lt, _, rfl, .inl (SqL.of (e04 _ _ ht)), ?_⟩
  rw [hlen]
  refine ⟨_, rfl, by omega, by omega, ?_⟩
  refine for_it (walk_range (lo := 0) (n := c.n - 1)) (fun i σ H' => ∃ u mc, ∃ pr mk : Nat → Addr, σ = [some (.ref ln), some (.ref lt), some (.ref row), some (.int (Tm c i)), some (.ref mc), some (.ref l), u] ∧ mc = mk i ∧ Ex H H' ∧ DueAt H' c a (i + 1) l pr mk ∧ ∀ k, k < i + 1 → pr k ≠ l)
    ⟨none, mk0, fun _ => pr0, fun _ => mk0, rfl, rfl, e04, ⟨h4, fun k hk => ?_, fun k hk => ?_⟩, fun k _ => l_ne⟩ (fun _ _ _ _ _ => trivial) ?_ ?_
  · obtain rfl : k = 0 := by omega
    exact e4 _ _ h3
  · obtain rfl : k = 0 := by omega
    exact e4 _ _ (e3 _ _ h2)
  · rintro i x σ H5 H6 hi ⟨u, mc, pr, mk, rfl, hmc, e, hD, hne⟩ ⟨rfl, hx⟩
    obtain rfl : x = V.int (i : Nat) := hx.trans (congrArg V.int (Int.zero_add _))
    subst hmc
    refine ⟨_, rfl, _, rfl, _, rfl, lt, _, _, _, rfl, rfl, SqL.of (e _ _ ht), atI_nat (ivs_at hi), _, _, rfl, rfl, ?_⟩
    have hnn := hn.ext e
    refine ⟨_, rfl, _, rfl, _, rfl, _, rfl, _, _, rfl, rfl, ln, _, _, _, rfl, rfl, SqL.of hnn.nl, atI_succ (by omega), _, rfl, mk i, row, nr (i + 1), c.d (i + 1), Tm c i + c.t i, a, _, _, rfl, hD.m_ i (by omega), e _ _ hrow, hnn.nd _ (by omega), ok.bk _ (by omega), .inr ⟨Tm c i, c.t i, life a c i, rfl, rfl, rfl⟩, fun mk' H7 e7 hm' h7 => ?_⟩
    have hD7 := hD.ext e7
    refine ⟨_, rfl, .inl ⟨rfl, _, SqL.of hD7.l_⟩, _, rfl, _, rfl, szl (by simp), fun pr' hp' => ?_⟩
    have npl : pr' ≠ l := (ne_fr hD7.l_ hp').symm
    obtain ⟨H8, q_, e8, h8⟩ := new_ex (o := .lst [.ref mk', .int (Tm c i + c.t i)]) hp'
    rw [← q_]; clear q_
    have hD8 := hD7.ext e8
    have eA := (e.trans e7).trans e8
    have hm8 := e8 _ _ h7
    refine ⟨l, _, _, rfl, rfl, hD8.l_, szt (by rw [rvs_len]; omega), ?_⟩
    obtain ⟨H9, q_, e9, h9, f9⟩ := mut_ex (o := .lst (rvs (i + 1) pr ++ [.ref pr'])) eA hl0
    rw [← q_]; clear q_
    have nml : mk' ≠ l := ne_of hm8 hD8.l_ (by intro z; cases z)
    refine ⟨_, mk', fun k => if k = i + 1 then pr' else pr k, fun k => if k = i + 1 then mk' else mk k, rfl, ?_, e9, ⟨by rw [h9, rvs_snoc], fun k hk => ?_, fun k hk => ?_⟩, fun k hk => ?_⟩
    · simp only [if_true]
    · by_cases q : k = i + 1
      · subst q
        simp only [if_true]
        rw [f9 _ npl]
        exact h8
      · simp only [q, if_false]
        rw [f9 _ (hne k (by omega))]
        exact hD8.p_ k (by omega)
    · by_cases q : k = i + 1
      · subst q
        simp only [if_true]
        rw [f9 _ nml]
        exact hm8
      · simp only [q, if_false]
        rw [f9 _ (ne_of (hD8.m_ k (by omega)) hD8.l_ (by intro z; cases z))]
        exact hD8.m_ k (by omega)
    · by_cases q : k = i + 1
      · simp only [q, if_true]
        exact npl
      · simp only [q, if_false]
        exact hne k (by omega)
  · rintro σ H5 ⟨u, mc, pr, mk, rfl, hmc, e, hD, hne⟩
    have e1 : c.n - 1 + 1 = c.n := by omega
    rw [e1] at hD
    exact ⟨_, rfl, kk l pr mk H5 e hD⟩
end
end Ag
set_option maxHeartbeats 4000000
/-! The law's own helpers: the chain. -/
namespace Ag
open PySem PySem.Spec PyProof.Rows L2
open C8 (Cal Met Mak pe_c pe_mt pe_mt0 pe_mk pe_gc)
open Evl (Ex)
section
variable {P : Program} {w : World} {K : PySem.W.Frag} {mg : Str → Option Value} {base : Heap}
/-- what stands of the chain while it is drawn: i arrows, i + 1 nodes -/
structure Drawn (H : Hp) (S l1 l2 : Addr) (i : Nat) (nr : Nat → Addr) (D : Nat → Deed) (t : Nat → Int) : Prop where
  n_ : H l1 = some (.lst (rvs (i + 1) nr))
  t_ : H l2 = some (.lst (ivs i t))
  d_ : ∀ k, k < i + 1 → H (nr k) = some (.tup (D k).vs)
  ok : ∀ k, k < i + 1 → (D k).ok
  m0 : (D 0).maker = true
  nm : ∀ k, 0 < k → k < i + 1 → (D k).maker = false
  tm : ∀ k, k < i → 1 ≤ t k ∧ t k ≤ 100000000
theorem Drawn.ext {H H' : Hp} {S l1 l2 : Addr} {i : Nat} {nr : Nat → Addr} {D : Nat → Deed} {t : Nat → Int} (e : Ex H H') (h : Drawn H S l1 l2 i nr D t) : Drawn H' S l1 l2 i nr D t :=
  ⟨e _ _ h.n_, e _ _ h.t_, fun k hk => e _ _ (h.d_ k hk), h.ok, h.m0, h.nm, h.tm⟩
theorem Drawn.frs {H H' : Hp} {S l1 l2 : Addr} {i : Nat} {nr : Nat → Addr} {D : Nat → Deed} {t : Nat → Int} (hS : ∃ x y, H S = some (.lst [.int x, .int y])) (n1 : l1 ≠ S) (n2 : l2 ≠ S) (F : FrS H H' S) (h : Drawn H S l1 l2 i nr D t) : Drawn H' S l1 l2 i nr D t := by
  obtain ⟨x, y, hS⟩ := hS
  exact ⟨F.keep n1 h.n_, F.keep n2 h.t_, fun k hk => F.keep (ne_of (h.d_ k hk) hS (by intro z; cases z)) (h.d_ k hk), h.ok, h.m0, h.nm, h.tm⟩
theorem FrS.ofDraw {H : Hp} {S : Addr} {x y x' y' : Int} : FrS H (upd H S (.lst [.int x', .int y'])) S := ⟨by rw [del_upd]; exact Evl.Ex.refl _, x', y', upd_same⟩
def sp_law_chain : Sp := fun vs H Q _ => ∃ (S : Addr) (x y : Int), vs = [.ref S] ∧ H S = some (.lst [.int x, .int y]) ∧
  ∀ (r ln lt : Addr) (c : Chain) (nr : Nat → Addr) (H' : Hp), c.Ok → FrS H H' S → NodesAt (del H' S) c ln nr → del H' S lt = some (.lst (ivs (c.n - 1) c.t)) → del H' S r = some (.lst [.ref ln, .ref lt]) → Q (.ref r) H'
theorem c_law_chain (T : Top K mg) : Cal P w K mg base 4 "_law_chain" sp_law_chain [] := by
  refine mkCal T.d_law_chain sc_law_chain (fun _ _ _ _ _ _ us hl => match us, hl with | [_], _ => rfl) (fun vs H Q E h => by (obtain ⟨_, _, _, rfl, _⟩ := h; rfl)) (fun f cdv A outer s H vs Q E hr h => ?_)
  obtain ⟨S, x, y, rfl, hS, kk⟩ := h
  refine ⟨_, (pss_cons (ps_par (i := 1) (j := 2) rfl sc_law_chain.nd rfl rfl (by decide) rfl rfl (pa_cons (pe_lst (pa_cons (pe_c (c_law_maker T) hr (by decide) (by rfl) (pa_cons (pv 0) (pa_cons pe_int pa_nil))) pa_nil)) (pa_cons (pe_lst pa_nil) pa_nil)) (by rfl))
    (pss_cons (ps_for PassesOwn.never rfl (pi_range1 (by rfl) T.n_range (pa_cons (pe_c (c_law_draw T) hr (by decide) (by rfl) (pa_cons (pv 0) (pa_cons pe_int pa_nil))) pa_nil)) (pg_name (i := 3) sc_law_chain.nd rfl (by first | exact Or.inl rfl | exact Or.inr rfl))
    (pss_cons (ps_expr (pe_bm PySem.F.plainAttrs_list PySem.F.slot_list_append PySem.F.type_list_append mt_append (pv 2) (pa_cons (pe_op op_add pe_int (pe_c (c_law_draw T) hr (by decide) (by rfl) (pa_cons (pv 0) (pa_cons (pe_ix ix_list (pe_lst (pa_cons pe_int (pa_cons pe_int (pa_cons pe_int (pa_cons (pe_op op_pow pe_int pe_int) pa_nil))))) (pe_c (c_law_draw T) hr (by decide) (by rfl) (pa_cons (pv 0) (pa_cons pe_int pa_nil))) (fun _ _ => rfl)) pa_nil)))) pa_nil)))
    (pss_one (ps_expr (pe_bm PySem.F.plainAttrs_list PySem.F.slot_list_append PySem.F.type_list_append mt_append (pv 1) (pa_cons (pe_ifExp (pt_cmpR op_gt (pe_c (c_law_draw T) hr (by decide) (by rfl) (pa_cons (pv 0) (pa_cons pe_int pa_nil))) pe_int (nomark _)) (pe_tup (pa_cons pe_str pa_nil)) (pe_c (c_law_user T) hr (by decide) (by rfl) (pa_cons (pv 0) (pa_cons pe_int pa_nil)))) pa_nil))))))
    (pss_one (ps_ret (pe_lst (pa_cons (pv 1) (pa_cons (pv 2) pa_nil))))))), ?_⟩
  refine ⟨_, rfl, S, x, y, 100, rfl, hS, by decide, by decide, fun t0 H1 D0 hm0 ok0 F1 ht0 => ⟨szl (by simp), fun l1 hl1 => ?_⟩⟩
  obtain ⟨x1, y1, hS1⟩ := F1.s
  have n1 : l1 ≠ S := (ne_fr hS1 hl1).symm
  have l10 : del H S l1 = none := fr_of F1.e (del_none hl1)
  have l10' : H l1 = none := by
    cases q : H l1 with
    | none => rfl
    | some o => rw [del_of n1 q] at l10; cases l10
  obtain ⟨H2, q_, e2, h2⟩ := new_ex (o := .lst [.ref t0]) hl1
  rw [← q_]; clear q_
  refine ⟨Nat.zero_le _, fun l2 hl2 => ?_⟩
  have F2 := F1.grow e2
  have hS2 := e2 _ _ hS1
  have n2 : l2 ≠ S := (ne_fr hS2 hl2).symm
  have n12 : l1 ≠ l2 := ne_fr h2 hl2
  have l20' : H l2 = none := by
    have l20 : del H S l2 = none := fr_of F2.e (del_none hl2)
    cases q : H l2 with
    | none => rfl
    | some o => rw [del_of n2 q] at l20; cases l20
  obtain ⟨H3, q_, e3, h3⟩ := new_ex (o := .lst []) hl2
  rw [← q_]; clear q_
  have F3 := F2.grow e3
  have hS3 := e3 _ _ hS2
  refine ⟨_, _, rfl, ?_⟩
  have hDr : Drawn H3 S l1 l2 0 (fun _ => t0) (fun _ => D0) (fun _ => 0) := ⟨e3 _ _ h2, h3, fun k hk => e3 _ _ (e2 _ _ ht0), fun _ _ => ok0, hm0, fun k h1 h2 => by omega, fun k hk => by omega⟩
  refine ⟨_, rfl, S, x1, y1, 11, rfl, hS3, by decide, by decide, fun d x2 y2 d0 d1 => ?_⟩
  have F4 := F3.trans (FrS.ofDraw (x := x1) (y := y1) (x' := x2) (y' := y2))
  have hDr4 := hDr.frs ⟨_, _, hS3⟩ n1 n2 (FrS.ofDraw (x := x1) (y := y1) (x' := x2) (y' := y2))
  generalize upd H3 S (.lst [.int x2, .int y2]) = H4 at *
  refine ⟨_, rfl, by omega, by omega, ?_⟩
  refine for_it (walk_range (lo := 0) (n := d.toNat)) (fun i σ H' => ∃ u, σ = [some (.ref S), some (.ref l1), some (.ref l2), u] ∧ FrS H H' S ∧ ∃ nr D t, Drawn H' S l1 l2 i nr D t)
    ⟨none, rfl, F4, _, _, _, hDr4⟩ (fun _ _ _ _ _ => trivial) ?_ ?_
  · rintro i v σ H5 H6 hi ⟨u, rfl, F5, nr, D, t, hD⟩ ⟨rfl, hx⟩
    obtain ⟨x5, y5, hS5⟩ := F5.s
    refine ⟨_, rfl, .inl ⟨rfl, _, SqL.of hD.t_⟩, ?_⟩
    refine ⟨_, rfl, _, _, rfl, rfl, ⟨by decide, by decide, by decide⟩, szl (by simp), fun li hli => ?_⟩
    obtain ⟨H7, q_, e7, h7⟩ := new_ex (o := .lst [.int 4, .int 9, .int 500, .int (10 ^ (8 : Int).toNat)]) hli
    rw [← q_]; clear q_
    have hS7 := e7 _ _ hS5
    have nli : li ≠ S := (ne_fr hS5 hli).symm
    refine ⟨_, rfl, S, x5, y5, 4, rfl, hS7, by decide, by decide, fun q x8 y8 q0 q1 => ?_⟩
    have F8 := (F5.grow e7).trans (FrS.ofDraw (x := x5) (y := y5) (x' := x8) (y' := y8))
    have hD8 := (hD.ext e7).frs ⟨_, _, hS7⟩ n1 n2 (FrS.ofDraw (x := x5) (y := y5) (x' := x8) (y' := y8))
    have h78 : upd H7 S (.lst [.int x8, .int y8]) li = some (.lst [.int 4, .int 9, .int 500, .int (10 ^ (8 : Int).toNat)]) := by rw [upd_ne nli]; exact h7
    have hS8 : upd H7 S (.lst [.int x8, .int y8]) S = some (.lst [.int x8, .int y8]) := upd_same
    generalize upd H7 S (.lst [.int x8, .int y8]) = H8 at *
    obtain ⟨am, ham, am0, am1⟩ : ∃ am : Int, atI [V.int 4, V.int 9, V.int 500, V.int (10 ^ (8 : Int).toNat)] q = some (.int am) ∧ 0 < am ∧ am ≤ 100000000 := by
      have : q = 0 ∨ q = 1 ∨ q = 2 ∨ q = 3 := by omega
      rcases this with rfl | rfl | rfl | rfl
      · exact ⟨4, rfl, by decide, by decide⟩
      · exact ⟨9, rfl, by decide, by decide⟩
      · exact ⟨500, rfl, by decide, by decide⟩
      · exact ⟨10 ^ (8 : Int).toNat, rfl, by decide, by decide⟩
    refine ⟨li, _, _, _, rfl, rfl, SqL.of h78, ham, S, x8, y8, am, rfl, hS8, am0, by omega, fun tt x9 y9 t0' t1' => ?_⟩
    have F9 := F8.trans (FrS.ofDraw (x := x8) (y := y8) (x' := x9) (y' := y9))
    have hD9 := hD8.frs ⟨_, _, hS8⟩ n1 n2 (FrS.ofDraw (x := x8) (y := y8) (x' := x9) (y' := y9))
    have hS9 : upd H8 S (.lst [.int x9, .int y9]) S = some (.lst [.int x9, .int y9]) := upd_same
    generalize upd H8 S (.lst [.int x9, .int y9]) = H9 at *
    refine ⟨_, _, rfl, rfl, l2, _, _, rfl, rfl, hD9.t_, szt (by rw [ivs_len]; omega), ?_⟩
    -- the times are one more
    have F10 := F9.mut (o := .lst (ivs i t ++ [.int (1 + tt)])) l20' n2
    have hn10 : upd H9 l2 (.lst (ivs i t ++ [.int (1 + tt)])) l1 = some (.lst (rvs (i + 1) nr)) := by rw [upd_ne n12]; exact hD9.n_
    have ht10 : upd H9 l2 (.lst (ivs i t ++ [.int (1 + tt)])) l2 = some (.lst (ivs (i + 1) (fun k => if k = i then 1 + tt else t k))) := by rw [upd_same, ivs_snoc]
    have hd10 : ∀ k, k < i + 1 → upd H9 l2 (.lst (ivs i t ++ [.int (1 + tt)])) (nr k) = some (.tup (D k).vs) := fun k hk => by rw [upd_ne (ne_of (hD9.d_ k hk) hD9.t_ (by intro z; cases z))]; exact hD9.d_ k hk
    dsimp only
    generalize upd H9 l2 (.lst (ivs i t ++ [.int (1 + tt)])) = H10 at *
    obtain ⟨x10, y10, hS10⟩ := F10.s
    refine ⟨_, rfl, .inl ⟨rfl, _, SqL.of hn10⟩, ?_⟩
    refine ⟨_, rfl, S, x10, y10, 4, rfl, hS10, by decide, by decide, fun z x11 y11 z0 z1 => ?_⟩
    have F11 := F10.trans (FrS.ofDraw (x := x10) (y := y10) (x' := x11) (y' := y11))
    have hS11 : upd H10 S (.lst [.int x11, .int y11]) S = some (.lst [.int x11, .int y11]) := upd_same
    have hn11 : upd H10 S (.lst [.int x11, .int y11]) l1 = some (.lst (rvs (i + 1) nr)) := by rw [upd_ne n1]; exact hn10
    have ht11 : upd H10 S (.lst [.int x11, .int y11]) l2 = some (.lst (ivs (i + 1) (fun k => if k = i then 1 + tt else t k))) := by rw [upd_ne n2]; exact ht10
    have hd11 : ∀ k, k < i + 1 → upd H10 S (.lst [.int x11, .int y11]) (nr k) = some (.tup (D k).vs) := fun k hk => by rw [upd_ne (ne_of (hd10 k hk) hS10 (by intro z; cases z))]; exact hd10 k hk
    generalize upd H10 S (.lst [.int x11, .int y11]) = H11 at *
    -- the node is one more
    have fin : ∀ (tn : Addr) (Dn : Deed) (H12 : Hp), Dn.maker = false → Dn.ok → FrS H11 H12 S → H12 tn = some (.tup Dn.vs) → FrS H (upd H12 l1 (.lst (rvs (i + 1) nr ++ [.ref tn]))) S ∧ ∃ nr' D' t', Drawn (upd H12 l1 (.lst (rvs (i + 1) nr ++ [.ref tn]))) S l1 l2 (i + 1) nr' D' t' := by
      intro tn Dn H12 hm hok F12 hn12
      have k1 := F12.keep n1 hn11
      have k2 := F12.keep n2 ht11
      have hlt : ∀ {k : Addr} {Dk : Deed}, H12 k = some (.tup Dk.vs) → k ≠ l1 := fun h => ne_of h k1 (by intro z; cases z)
      refine ⟨(F11.trans F12).mut l10' n1, fun k => if k = i + 1 then tn else nr k, fun k => if k = i + 1 then Dn else D k, fun k => if k = i then 1 + tt else t k, ⟨by rw [upd_same, rvs_snoc], by rw [upd_ne n12.symm]; exact k2, fun k hk => ?_, fun k hk => ?_, ?_, fun k h1 h2 => ?_, fun k hk => ?_⟩⟩
      · by_cases q : k = i + 1
        · subst q
          simp only [if_true]
          rw [upd_ne (hlt hn12)]
          exact hn12
        · simp only [q, if_false]
          have h := F12.keep (ne_of (hd11 k (by omega)) hS11 (by intro z; cases z)) (hd11 k (by omega))
          rw [upd_ne (hlt h)]
          exact h
      · by_cases q : k = i + 1
        · simp only [q, if_true]; exact hok
        · simp only [q, if_false]; exact hD.ok k (by omega)
      · have : ¬ 0 = i + 1 := by omega
        simp only [this, if_false]
        exact hD.m0
      · by_cases q : k = i + 1
        · simp only [q, if_true]; exact hm
        · simp only [q, if_false]; exact hD.nm k h1 (by omega)
      · by_cases q : k = i
        · simp only [q, if_true]; omega
        · simp only [q, if_false]; exact hD.tm k (by omega)
    refine ⟨_, _, rfl, rfl, _, rfl, ite2 (fun _ => ?_) (fun _ => ?_)⟩
    · refine ⟨szl (by simp), fun tn htn => ?_⟩
      obtain ⟨H12, q_, e12, h12⟩ := new_ex (o := .tup [.str "read"]) htn
      rw [← q_]; clear q_
      have F12 : FrS H11 H12 S := ⟨exd e12, _, _, e12 _ _ hS11⟩
      exact ⟨l1, _, _, rfl, rfl, F12.keep n1 hn11, szt (by rw [rvs_len]; omega), ⟨_, rfl, fin tn .read H12 rfl trivial F12 h12⟩⟩
    · refine ⟨_, rfl, S, x11, y11, 50, rfl, hS11, by decide, by decide, fun tn H12 Dn hm hok F12 h12 => ?_⟩
      exact ⟨l1, _, _, rfl, rfl, F12.keep n1 hn11, szt (by rw [rvs_len]; omega), ⟨_, rfl, fin tn Dn H12 hm hok F12 h12⟩⟩
  · rintro σ H5 ⟨u, rfl, F5, nr, D, t, hD⟩
    refine ⟨_, rfl, _, rfl, szl (by simp), fun r hr => ?_⟩
    obtain ⟨x5, y5, hS5⟩ := F5.s
    have nr' : r ≠ S := (ne_fr hS5 hr).symm
    obtain ⟨H6, q_, e6, h6⟩ := new_ex (o := .lst [.ref l1, .ref l2]) hr
    rw [← q_]; clear q_
    have hD6 := hD.ext e6
    have hS6 := e6 _ _ hS5
    refine kk r l1 l2 ⟨d.toNat + 1, D, t⟩ nr H6 ⟨by show 1 ≤ d.toNat + 1; omega, by show d.toNat + 1 ≤ 11; omega, hD.m0, fun k h1 h2 => hD.nm k h1 h2, fun k hk => hD.ok k hk, fun k hk => hD.tm k (Nat.lt_of_succ_lt_succ hk)⟩ (F5.grow e6) ⟨del_of n1 hD6.n_, fun k hk => del_of (ne_of (hD6.d_ k hk) hS6 (by intro z; cases z)) (hD6.d_ k hk)⟩ (del_of n2 hD6.t_) (del_of nr' h6)
end
end Ag
set_option maxHeartbeats 4000000
/-! The law. -/
namespace Ag
open PySem PySem.Spec PyProof.Rows L2
open C8 (Cal Met Mak pe_c pe_mt pe_mt0 pe_mk pe_gc)
open Evl (Ex)
theorem oldV_ge {a : Int} {c : Chain} {L : List Mark} : ∀ {n j : Nat}, j < n → age a c L j ≤ oldV a c L n
  | 0, _, h => absurd h (Nat.not_lt_zero _)
  | n + 1, j, h => by
    simp only [oldV]
    rcases Nat.lt_or_eq_of_le (Nat.le_of_lt_succ h) with q | q
    · have := oldV_ge (a := a) (c := c) (L := L) q
      split <;> omega
    · subst q
      split <;> omega
theorem oldV_mem {a : Int} {c : Chain} {L : List Mark} : ∀ n : Nat, oldV a c L n = -1 ∨ ∃ j, j < n ∧ oldV a c L n = age a c L j
  | 0 => .inl rfl
  | n + 1 => by
    simp only [oldV]
    split
    · exact .inr ⟨n, Nat.lt_succ_self n, rfl⟩
    · rcases oldV_mem (a := a) (c := c) (L := L) n with z | ⟨j, h1, h2⟩
      · exact .inl z
      · exact .inr ⟨j, by omega, h2⟩
theorem old_uni {a : Int} {c : Chain} {L : List Mark} (ok : c.Ok) (hL : L ∈ allL) {m : Int} (h1 : m ∈ agesL a c L) (h2 : ∀ y, y ∈ agesL a c L → y ≤ m) : m = oldV a c L c.n := by
  obtain ⟨j, hj, rfl⟩ := List.mem_map.mp h1
  have hj' : j < c.n := by simpa using hj
  have g1 := oldV_ge (a := a) (c := c) (L := L) hj'
  rcases oldV_mem (a := a) (c := c) (L := L) c.n with z | ⟨i, hi, z⟩
  · have := age_nn (a := a) ok hL hj'
    omega
  · have := h2 (age a c L i) (List.mem_map.mpr ⟨i, by simpa using hi, rfl⟩)
    omega
theorem old_le {a : Int} {c : Chain} {L : List Mark} (ok : c.Ok) (a2 : a ≤ 2000) (hL : L ∈ allL) : oldV a c L c.n ≤ 2000000000 := by
  rcases oldV_mem (a := a) (c := c) (L := L) c.n with z | ⟨i, hi, z⟩
  · omega
  · have h1 := age_le ok a2 hL hi
    have h2 := ok.le
    omega
theorem min_le {a : Int} {c : Chain} {L : List Mark} (ok : c.Ok) (a2 : a ≤ 2000) (hL : L ∈ allL) : minL (agesL a c L) ≤ 2000000000 := by
  have hp := ok.pos
  have h : age a c L 0 ∈ agesL a c L := List.mem_map.mpr ⟨0, List.mem_range.mpr (by omega), rfl⟩
  have h1 := minL_le h
  have h2 := age_le ok a2 hL hp
  omega
theorem untl_eq {B x : Int} (h : x ≤ B) : untl B x = B + 1 - x := by unfold untl; rw [if_pos (by omega)]
theorem deed_read (d : Deed) : PyData.eqv (.tuple (deedD d)) (.tuple [.str "read"]) = d.isRead := by
  have e : ∀ x y : Str, (x == y) = decide (x = y) := fun x y => by
    by_cases h : x = y
    · subst h; simp
    · simp [h]
  cases d with
  | unpack b => simp [deedD, PyData.eqv, PyData.eqvAll, Deed.isRead]
  | setback b => simp [deedD, PyData.eqv, PyData.eqvAll, Deed.isRead]
  | make => simp only [deedD, PyData.eqv, PyData.eqvAll, Deed.isRead, Deed.word, Bool.and_true]; rw [e, decide_eq_false (by decide +kernel)]
  | read => simp only [deedD, PyData.eqv, PyData.eqvAll, Deed.isRead, Deed.word, Bool.and_true]; rw [e, decide_eq_true rfl]
  | write => simp only [deedD, PyData.eqv, PyData.eqvAll, Deed.isRead, Deed.word, Bool.and_true]; rw [e, decide_eq_false (by decide +kernel)]
  | rename => simp only [deedD, PyData.eqv, PyData.eqvAll, Deed.isRead, Deed.word, Bool.and_true]; rw [e, decide_eq_false (by decide +kernel)]
  | touch => simp only [deedD, PyData.eqv, PyData.eqvAll, Deed.isRead, Deed.word, Bool.and_true]; rw [e, decide_eq_false (by decide +kernel)]
def groups : List (List Mark) := [[.R], [.W], [.C], [.R, .W], [.R, .C], [.R, .W, .C]]
theorem groups_all {L : List Mark} (h : L ∈ groups) : L ∈ allL := by
  revert h
  simp only [groups, allL, List.mem_cons, List.not_mem_nil, or_false]
  intro h
  rcases h with rfl | rfl | rfl | rfl | rfl | rfl <;> simp
theorem dg_mk {H : Hp} {d : Addr} {T0 : Int} {M : M3} (h : H d = some (.dK (mkD T0 M))) (m : Mark) : DGet H d (.str m.s) (some (.int (T0 - Mark.of M m))) := by
  have := DGet.k (k := Sum.inr m.s) h
  have e : valV (mkD T0 M) (Sum.inr m.s) = some (.int (T0 - Mark.of M m)) := by cases m <;> rfl
  rw [e] at this
  exact this
theorem two_sh (x y : Int) : SeqAt.shaped (.list [.int x, .int y]) = true := sh_of (by simp [PyData.canLay0, PyData.canLayAll0]) (by simp [PyData.depth, PyData.depthAll])
theorem twoT_sh (x y : Int) : SeqAt.shaped (.tuple [.int x, .int y]) = true := sh_of (by simp [PyData.canLay0, PyData.canLayAll0]) (by simp [PyData.depth, PyData.depthAll])
theorem two_eq (x y : Int) : PyData.eqv (.list [.int x, .int y]) (.list [.int x, .int y]) = true := by simp [PyData.eqv, PyData.eqvAll]
theorem twoT_eq (x y : Int) : PyData.eqv (.tuple [.int x, .int y]) (.tuple [.int x, .int y]) = true := by simp [PyData.eqv, PyData.eqvAll]
def unref : V → Addr
  | .ref t => t
  | _ => 0
end Ag
set_option maxHeartbeats 4000000
/-! The law. -/
namespace Ag
open PySem PySem.Spec PyProof.Rows L2
open C8 (Cal Met Mak pe_c pe_mt pe_mt0 pe_mk pe_gc)
open Evl (Ex)
section
variable {P : Program} {w : World} {K : PySem.W.Frag} {mg : Str → Option Value} {base : Heap}
def sp_law (K : PySem.W.Frag) : Sp := fun vs H Q _ => ∃ (sc : Addr) (ns : List Int), vs = [.ref sc] ∧ SqL K H sc (ns.map V.int) ∧ ∀ H', Q (.bl true) H'
theorem law_body (T : Top K mg) : BodyOk P w K mg base "law" s_law N_law 19 (sp_law K) := by
  intro f cdv A outer s H vs Q E hr h
  obtain ⟨sc, ns, rfl, hsc, kk⟩ := h
  have hu := hu_of hr
  refine ⟨_, (pss_cons (ps_for PassesOwn.never rfl (pi_range1 (by rfl) T.n_range (pa_cons (pe_callB (call_max2 rfl) (by rfl) T.n_max (by decide +kernel) (pa_cons pe_int (pa_cons (pe_callB (call_min2 rfl) (by rfl) T.n_min (by decide +kernel) (pa_cons (pe_callB call_len_seq (by rfl) T.n_len (by decide +kernel) (pa_cons (pv 0) pa_nil)) (pa_cons pe_int pa_nil))) pa_nil))) pa_nil)) (pg_name (i := 1) sc_law.nd rfl (by first | exact Or.inl rfl | exact Or.inr rfl))
    (pss_cons (ps_set (i := 2) sc_law.nd rfl (Or.inl rfl) (pe_c (c_law_source T) hr (by decide) (by rfl) (pa_cons (pv 0) (pa_cons (pv 1) pa_nil))))
    (pss_cons (ps_asg (pe_c (c_law_chain T) hr (by decide) (by rfl) (pa_cons (pv 2) pa_nil)) (pg_unl rfl (pgs_cons (pg_name (i := 3) sc_law.nd rfl (by first | exact Or.inl rfl | exact Or.inr rfl)) (pgs_cons (pg_name (i := 4) sc_law.nd rfl (by first | exact Or.inl rfl | exact Or.inr rfl)) pgs_nil))))
    (pss_cons (ps_set (i := 5) sc_law.nd rfl (Or.inl rfl) (pe_tup (pa_cons pe_str (pa_cons (pe_op op_add pe_int (pe_c (c_law_draw T) hr (by decide) (by rfl) (pa_cons (pv 2) (pa_cons (pe_ix ix_list (pe_lst (pa_cons pe_int (pa_cons pe_int pa_nil))) (pe_c (c_law_draw T) hr (by decide) (by rfl) (pa_cons (pv 2) (pa_cons pe_int pa_nil))) (fun _ _ => rfl)) pa_nil)))) pa_nil))))
    (pss_cons (ps_set (i := 6) sc_law.nd rfl (Or.inl rfl) (pe_mk (c_Way_init T) hr (by decide) (by rfl) (pa_cons (pv 3) (pa_cons (pe_lc (own := [("k", 7)]) (g := gName 7) (tt := tYes) rfl sc_law.nd (pi_range1 (by rfl) T.n_range (pa_cons (pe_callB call_len_seq (by rfl) T.n_len (by decide +kernel) (pa_cons (pv 4) pa_nil)) pa_nil)) (blkOk_by (N := N_law) (sc := L2.defScope s_law) (by decide +kernel)) (fun _ _ _ _ _ => (pg_name (i := 7) sc_law.nd rfl (by first | exact Or.inl rfl | exact Or.inr rfl))) (fun _ _ _ _ _ => pts_nil) (fun _ _ _ _ _ => (pe_tup (pa_cons (pv 7) (pa_cons (pe_op op_add (pv 7) pe_int) (pa_cons (pe_ix (ixLK (K := K)) (pv 4) (pv 7) (fun _ _ => rfl)) (pa_cons (pe_ix (ixLK (K := K)) (pv 4) (pv 7) (fun _ _ => rfl)) pa_nil))))))) pa_nil))))
    (pss_cons (ps_par (i := 8) (j := 9) rfl sc_law.nd rfl rfl (by decide) rfl rfl (pa_cons (pe_st (c_Rule_seldom T) hr (by decide) (pe_glob (v := .ref (cRule K)) (by rfl) T.g_Rule rfl) (pa_cons (pe_ix ix_tup (pv 5) pe_int (fun _ _ => rfl)) pa_nil)) (pa_cons (pe_c (c_law_lives T) hr (by decide) (by rfl) (pa_cons (pv 3) (pa_cons (pv 4) (pa_cons (pv 5) pa_nil)))) pa_nil)) (by rfl))
    (pss_one (ps_for PassesOwn.never rfl (pi_list (pe_lst (pa_cons (pe_tup (pa_cons pe_str pa_nil)) (pa_cons (pe_tup (pa_cons pe_str pa_nil)) (pa_cons (pe_tup (pa_cons pe_str pa_nil)) (pa_cons (pe_tup (pa_cons pe_str (pa_cons pe_str pa_nil))) (pa_cons (pe_tup (pa_cons pe_str (pa_cons pe_str pa_nil))) (pa_cons (pe_tup (pa_cons pe_str (pa_cons pe_str (pa_cons pe_str pa_nil)))) pa_nil)))))))) (pg_name (i := 10) sc_law.nd rfl (by first | exact Or.inl rfl | exact Or.inr rfl))
    (pss_cons (ps_setLc (i := 11) (own := [("marks", 13), ("at", 14)]) (tt := tYes) rfl sc_law.nd rfl rfl (sw_true rfl rfl rfl (by decide +kernel)) (pi_list (pv 9)) (blkOk_by (N := N_law) (sc := L2.defScope s_law) (by decide +kernel)) (fun _ _ _ _ _ => (pg_unlK (K := K) (n := 2) rfl (pgs_cons (pg_name (i := 13) sc_law.nd rfl (by first | exact Or.inl rfl | exact Or.inr rfl)) (pgs_cons (pg_name (i := 14) sc_law.nd rfl (by first | exact Or.inl rfl | exact Or.inr rfl)) pgs_nil)))) (fun _ _ _ _ _ => pts_nil) (fun _ _ _ _ _ => (pe_callB (crMinK (K := K) rfl) (by rfl) T.n_min (by decide +kernel) (pa_cons (pe_lc (own := [("mark", 12)]) (g := gName 12) (tt := tYes) rfl sc_law.nd (piTK (K := K) (pv 10)) (blkOk_by (N := N_law) (sc := relS _ (L2.defScope s_law)) (by decide +kernel)) (fun _ _ _ _ _ => (pg_name (i := 12) sc_law.nd rfl (by first | exact Or.inl rfl | exact Or.inr rfl))) (fun _ _ _ _ _ => pts_nil) (fun _ _ _ _ _ => (pe_callTy call_int1 (by rfl) T.n_int (by decide +kernel) (pa_cons (pe_op op_sub (pv 14) (pe_dget hu (pv 13) (pv 12) (fun _ _ => rfl))) pa_nil)))) pa_nil))))
    (pss_cons (ps_for PassesOwn.never rfl (pi_range1 (by rfl) T.n_range (pa_cons (pe_callB call_len_seq (by rfl) T.n_len (by decide +kernel) (pa_cons (pv 3) pa_nil)) pa_nil)) (pg_name (i := 15) sc_law.nd rfl (by first | exact Or.inl rfl | exact Or.inr rfl))
    (pss_cons (ps_if (pt_cmpR (op_neD hr.units) (pe_lst (pa_cons (pe_c (c_greatest_age T) hr (by decide) (by rfl) (pa_cons (pv 6) (pa_cons (pv 8) (pa_cons (pv 10) (pa_cons (pv 15) pa_nil))))) (pa_cons (pe_c (c_least_age T) hr (by decide) (by rfl) (pa_cons (pv 6) (pa_cons (pv 8) (pa_cons (pv 10) (pa_cons (pv 15) pa_nil))))) pa_nil))) (pe_lst (pa_cons (pe_ix ix_list (pv 11) (pv 15) (fun _ _ => rfl)) (pa_cons (pe_ix ix_list (pv 11) (pv 15) (fun _ _ => rfl)) pa_nil))) (nomark _)) (pss_one (ps_ret pe_bl)) pss_nil)
    (pss_cons (ps_asg (pe_ix ix_list (pv 9) (pv 15) (fun _ _ => rfl)) (pg_unl rfl (pgs_cons (pg_name (i := 13) sc_law.nd rfl (by first | exact Or.inl rfl | exact Or.inr rfl)) (pgs_cons (pg_name (i := 14) sc_law.nd rfl (by first | exact Or.inl rfl | exact Or.inr rfl)) pgs_nil))))
    (pss_cons (ps_set (i := 16) sc_law.nd rfl (Or.inl rfl) (pe_st (c_Stretches_one T) hr (by decide) (pe_glob (v := .ref (cStretches K)) (by rfl) T.g_Stretches rfl) (pa_cons (pe_op op_sub (pv 14) (pe_dget hu (pv 13) pe_str (fun _ _ => rfl))) pa_nil)))
    (pss_one (ps_if (PW.pt (pw_and (pt_cmpR (op_eqD hr.units) (pe_ix ix_list (pv 3) (pv 15) (fun _ _ => rfl)) (pe_tup (pa_cons pe_str pa_nil)) (nomark _)) (pw_and1 (pt_cmpR (op_neI (c_Stretches_eq T) hr (by decide) T.ne_Stretches T.k_Stretches.hm) (pe_c (c_ages_of_read T) hr (by decide) (by rfl) (pa_cons (pv 6) (pa_cons (pv 8) (pa_cons (pv 15) pa_nil)))) (pv 16) (nomark _))))) (pss_one (ps_ret pe_bl)) pss_nil))))))
    (pss_cons (ps_set (i := 17) sc_law.nd rfl (Or.inl rfl) (pe_un un_neg pe_int))
    (pss_cons (ps_for PassesOwn.never rfl (pi_range1 (by rfl) T.n_range (pa_cons (pe_callB call_len_seq (by rfl) T.n_len (by decide +kernel) (pa_cons (pv 4) pa_nil)) pa_nil)) (pg_name (i := 7) sc_law.nd rfl (by first | exact Or.inl rfl | exact Or.inr rfl))
    (pss_one (ps_set (i := 17) sc_law.nd rfl (Or.inl rfl) (pe_callB (call_max2 rfl) (by rfl) T.n_max (by decide +kernel) (pa_cons (pe_callTy call_int1 (by rfl) T.n_int (by decide +kernel) (pa_cons (pv 17) pa_nil)) (pa_cons (pe_callTy call_int1 (by rfl) T.n_int (by decide +kernel) (pa_cons (pe_op op_sub (pe_op op_add (pe_ix ix_list (pv 11) (pv 7) (fun _ _ => rfl)) (pe_ix ix_list (pv 4) (pv 7) (fun _ _ => rfl))) pe_int) pa_nil)) pa_nil))))))
    (pss_cons (ps_set (i := 18) sc_law.nd rfl (Or.inl rfl) (pe_mkB (c_Book_init T) hr (by decide) (by rfl) (pk_cons (pe_op op_pow pe_int pe_int) (pk_cons (pv 10) pk_nil))))
    (pss_cons (ps_if (pt_cmpR op_ne (pe_c (c_greatest_seen T) hr (by decide) (by rfl) (pa_cons (pv 6) (pa_cons (pv 8) (pa_cons (pv 18) pa_nil)))) (pv 17) (nomark _)) (pss_one (ps_ret pe_bl)) pss_nil)
    (pss_cons (ps_par (i := 19) (j := 20) rfl sc_law.nd rfl rfl (by decide) rfl rfl (pa_cons (pe_callB (cr_max rfl) (by rfl) T.n_max (by decide +kernel) (pa_cons (pe_lc (own := [("age", 21)]) (g := gName 21) (tt := tYes) rfl sc_law.nd (pi_list (pv 11)) (blkOk_by (N := N_law) (sc := L2.defScope s_law) (by decide +kernel)) (fun _ _ _ _ _ => (pg_name (i := 21) sc_law.nd rfl (by first | exact Or.inl rfl | exact Or.inr rfl))) (fun _ _ _ _ _ => pts_nil) (fun _ _ _ _ _ => (pe_callTy call_int1 (by rfl) T.n_int (by decide +kernel) (pa_cons (pv 21) pa_nil)))) pa_nil)) (pa_cons (pe_callB (cr_min rfl) (by rfl) T.n_min (by decide +kernel) (pa_cons (pe_lc (own := [("age", 21)]) (g := gName 21) (tt := tYes) rfl sc_law.nd (pi_list (pv 11)) (blkOk_by (N := N_law) (sc := L2.defScope s_law) (by decide +kernel)) (fun _ _ _ _ _ => (pg_name (i := 21) sc_law.nd rfl (by first | exact Or.inl rfl | exact Or.inr rfl))) (fun _ _ _ _ _ => pts_nil) (fun _ _ _ _ _ => (pe_callTy call_int1 (by rfl) T.n_int (by decide +kernel) (pa_cons (pv 21) pa_nil)))) pa_nil)) pa_nil)) (by rfl))
    (pss_one (ps_if (pt_cmpR (op_neD hr.units) (pe_c (c_stay T) hr (by decide) (by rfl) (pa_cons (pv 6) (pa_cons (pv 8) (pa_cons (pv 18) pa_nil)))) (pe_tup (pa_cons (pe_op op_sub (pe_op op_add (pe_op op_pow pe_int pe_int) pe_int) (pv 19)) (pa_cons (pe_op op_sub (pe_op op_add (pe_op op_pow pe_int pe_int) pe_int) (pv 20)) pa_nil))) (nomark _)) (pss_one (ps_ret pe_bl)) pss_nil)))))))))))))))))
    (pss_one (ps_ret pe_bl))), ?_⟩
  refine ⟨_, rfl, sc, _, rfl, .inl hsc, _, _, rfl, _, _, rfl, _, rfl, ?_⟩
  refine ⟨by (repeat' split) <;> omega, by (repeat' split) <;> omega, ?_⟩
  refine for_it (walk_range (lo := 0)) (fun i σ H' => ∃ u1 u2 u3 u4 u5 u6 u7 u8 u9 u10 u11 u12 u13 u14 u15 u16 u17 u18 u19 u20 u21, σ = [some (.ref sc), u1, u2, u3, u4, u5, u6, u7, u8, u9, u10, u11, u12, u13, u14, u15, u16, u17, u18, u19, u20, u21] ∧ Ex H H')
    ⟨_, _, _, _, _, _, _, _, _, _, _, _, _, _, _, _, _, _, _, _, _, rfl, Evl.Ex.refl _⟩ (fun _ _ _ _ _ => trivial) ?_ ?_
  · rintro i v σ H1 H1' hi ⟨u1, u2, u3, u4, u5, u6, u7, u8, u9, u10, u11, u12, u13, u14, u15, u16, u17, u18, u19, u20, u21, rfl, e1⟩ ⟨rfl, hx⟩
    obtain rfl : v = V.int (i : Nat) := hx.trans (congrArg V.int (Int.zero_add _))
    refine ⟨_, rfl, _, rfl, sc, ns, i, rfl, e1.seqL hsc, fun S x y H2 e2 hS0 hS => ?_⟩
    refine ⟨_, rfl, S, x, y, rfl, hS, fun r ln lt c nr H3 ok F3 hn hlt hr3 => ?_⟩
    obtain ⟨x3, y3, hS3⟩ := F3.s
    refine ⟨r, _, rfl, SqL.of (del_ex _ _ hr3), rfl, _, _, rfl, _, _, rfl, rfl, ?_⟩
    refine ⟨_, rfl, szl (by simp), fun li hli => ?_⟩
    have nli : li ≠ S := (ne_fr hS3 hli).symm
    have liN : del H3 S li = none := del_none hli
    obtain ⟨H4, q_, e4, h4⟩ := new_ex (o := .lst [.int 9, .int 400]) hli
    rw [← q_]; clear q_
    have hS4 := e4 _ _ hS3
    refine ⟨_, rfl, S, x3, y3, 2, rfl, hS4, by decide, by decide, fun q x5 y5 q0 q1 => ?_⟩
    have F5 := (F3.grow e4).trans (FrS.ofDraw (x := x3) (y := y3) (x' := x5) (y' := y5))
    have E5 : Ex (del H3 S) (del (upd H4 S (.lst [.int x5, .int y5])) S) := by rw [del_upd]; exact exd e4
    have h5 : upd H4 S (.lst [.int x5, .int y5]) li = some (.lst [.int 9, .int 400]) := by rw [upd_ne nli]; exact h4
    have hS5 : upd H4 S (.lst [.int x5, .int y5]) S = some (.lst [.int x5, .int y5]) := upd_same
    generalize upd H4 S (.lst [.int x5, .int y5]) = H5 at *
    obtain ⟨am, ham, am0, am1⟩ : ∃ am : Int, atI [V.int 9, V.int 400] q = some (.int am) ∧ 0 < am ∧ am ≤ 400 := by
      have : q = 0 ∨ q = 1 := by omega
      rcases this with rfl | rfl
      · exact ⟨9, rfl, by decide, by decide⟩
      · exact ⟨400, rfl, by decide, by decide⟩
    refine ⟨li, _, _, _, rfl, rfl, SqL.of h5, ham, S, x5, y5, am, rfl, hS5, am0, by omega, fun d x6 y6 d0 d1 => ?_⟩
    have F6 := F5.trans (FrS.ofDraw (x := x5) (y := y5) (x' := x6) (y' := y6))
    have E6 : Ex (del H3 S) (del (upd H5 S (.lst [.int x6, .int y6])) S) := by rw [del_upd]; exact E5
    generalize upd H5 S (.lst [.int x6, .int y6]) = H6 at *
    refine ⟨_, _, rfl, rfl, szl (by simp), fun row hrow0 => ?_⟩
    obtain ⟨H7, q_, e7, hrow⟩ := new_ex (o := .tup [.str "seldom", .int (1 + d)]) hrow0
    rw [← q_]; clear q_
    obtain ⟨a, ha⟩ : ∃ a, a = 1 + d := ⟨_, rfl⟩
    have a1 : 1 ≤ a := by omega
    have a2 : a ≤ 2000 := by omega
    rw [← ha] at hrow
    -- from here on nothing that stands is written again
    have hn7 : NodesAt H7 c ln nr := ((hn.ext E6).ext del_ex).ext e7
    have hlt7 : H7 lt = some (.lst (ivs (c.n - 1) c.t)) := e7 _ _ (del_ex _ _ (E6 _ _ hlt))
    have e17 : Ex H1' H7 := by
      intro b o h
      have nb : b ≠ S := fun z => by rw [z, hS0] at h; cases h
      have h2 := e2 _ _ h
      exact e7 _ _ (del_ex _ _ (F6.e _ _ (del_of nb h2)))
    have eb : Ex H H7 := e1.trans e17
    clear E6 E5 F6 F5 h5 hS5 hS4 h4 e4 hS3 hn hlt hr3 F3 hS
    have hle := ok.le
    have hpos := ok.pos
    have hlen : (ivs (c.n - 1) c.t).length = c.n - 1 := ivs_len _ _
    refine ⟨_, rfl, _, rfl, lt, _, rfl, .inl (SqL.of hlt7), ?_⟩
    rw [hlen]
    refine ⟨_, rfl, by omega, by omega, fun D hD => ?_⟩
    refine lc_rel (walk_range (lo := 0) (n := c.n - 1)) (fun j H v => ∃ t, v = .ref t ∧ H t = some (.tup (av4 c j))) (fun j H H' v e z => let ⟨t, a, b⟩ := z; ⟨t, a, e _ _ b⟩) hD (by omega) (fun _ _ => trivial) ?_ ?_
    · rintro j v H8 H9 hj e8 ⟨acc, hacc⟩ ⟨rfl, hx⟩ R hR
      obtain rfl : v = V.int (j : Nat) := hx.trans (congrArg V.int (Int.zero_add _))
      have hl8 := e8 _ _ hlt7
      refine ⟨rfl, _, rfl, _, rfl, _, _, rfl, rfl, _, rfl, _, rfl, lt, _, _, _, rfl, rfl, SqL.of hl8, atI_nat (ivs_at hj), _, rfl, _, rfl, lt, _, _, _, rfl, rfl, SqL.of hl8, atI_nat (ivs_at hj), szl (by simp), fun p hp => ?_⟩
      exact hR _ _ (Evl.Ex.new hp) ⟨p, rfl, del_of (ne_fr hacc hp).symm upd_same⟩
    intro H8 F e8 hF hPF
    intro wa dxw hwa0 hdxw nxw
    have e9 : Ex H8 (upd (upd H8 dxw (.own wa)) wa (.ins (cWay K) dxw [])) := Evl.Ex.mut (Evl.Ex.new hdxw) hwa0
    have hAr : ArrAt H8 c (c.n - 1) D (fun k => unref (F k)) (av4 c) := by
      refine ⟨?_, fun k hk => ?_⟩
      · rw [hF]
        congr 2
        apply List.map_congr_left
        intro k hk
        obtain ⟨t, h1, h2⟩ := hPF k (by simpa using hk)
        show F k = V.ref (unref (F k))
        rw [h1]
        rfl
      · obtain ⟨t, h1, h2⟩ := hPF k hk
        show H8 (unref (F k)) = _
        rw [h1]
        exact del_ex _ _ h2
    refine ⟨wa, ln, D, dxw, c, nr, fun k => unref (F k), H8, rfl, upd_same, e9, hwa0, ok, (hn7.ext e8).ext e9, hAr.ext e9, fun H10 e10 hW => ⟨rfl, ?_⟩⟩
    have e710 := e8.trans e10
    refine ⟨_, rfl, row, _, _, _, rfl, rfl, SqT.of (e710 _ _ hrow), rfl, a, rfl, a1, a2, fun ru H11 e11 hru0 hR => ?_⟩
    have e711 := e710.trans e11
    refine ⟨_, rfl, _, rfl, _, rfl, ln, lt, row, c, a, nr, rfl, ok, hn7.ext e711, e711 _ _ hlt7, e711 _ _ hrow, fun du pr mk H12 e12 hD12 => ⟨_, _, rfl, ?_⟩⟩
    have e712 := e711.trans e12
    have hw := hW.ext (e11.trans e12)
    have hq := hR.ext e12
    have hnn := hn7.ext e712
    have hlt12 := e712 _ _ hlt7
    have eb12 := eb.trans e712
    clear hR hW hAr hPF hF e9 hn7 hlt7 hrow e17 e7
    refine ⟨szl (by simp), fun t1 g1 => ?_⟩
    obtain ⟨G1, q_, f1, k1⟩ := new_ex (o := .tup [.str "read"]) g1
    rw [← q_]; clear q_
    refine ⟨szl (by simp), fun t2 g2 => ?_⟩
    obtain ⟨G2, q_, f2, k2⟩ := new_ex (o := .tup [.str "written"]) g2
    rw [← q_]; clear q_
    refine ⟨szl (by simp), fun t3 g3 => ?_⟩
    obtain ⟨G3, q_, f3, k3⟩ := new_ex (o := .tup [.str "changed"]) g3
    rw [← q_]; clear q_
    refine ⟨szl (by simp), fun t4 g4 => ?_⟩
    obtain ⟨G4, q_, f4, k4⟩ := new_ex (o := .tup [.str "read", .str "written"]) g4
    rw [← q_]; clear q_
    refine ⟨szl (by simp), fun t5 g5 => ?_⟩
    obtain ⟨G5, q_, f5, k5⟩ := new_ex (o := .tup [.str "read", .str "changed"]) g5
    rw [← q_]; clear q_
    refine ⟨szl (by simp), fun t6 g6 => ?_⟩
    obtain ⟨G6, q_, f6, k6⟩ := new_ex (o := .tup [.str "read", .str "written", .str "changed"]) g6
    rw [← q_]; clear q_
    refine ⟨szl (by simp), fun gl g7 => ?_⟩
    obtain ⟨G7, q_, f7, k7⟩ := new_ex (o := .lst [.ref t1, .ref t2, .ref t3, .ref t4, .ref t5, .ref t6]) g7
    rw [← q_]; clear q_
    have f67 := f6.trans f7
    have f57 := f5.trans f67
    have f47 := f4.trans f57
    have f37 := f3.trans f47
    have f27 := f2.trans f37
    have hTups : TupsAt G7 [.ref t1, .ref t2, .ref t3, .ref t4, .ref t5, .ref t6] (groups.map lv) :=
      ⟨⟨t1, rfl, f27 _ _ k1⟩, ⟨t2, rfl, f37 _ _ k2⟩, ⟨t3, rfl, f47 _ _ k3⟩, ⟨t4, rfl, f57 _ _ k4⟩, ⟨t5, rfl, f67 _ _ k5⟩, ⟨t6, rfl, f7 _ _ k6⟩, trivial⟩
    have f17 := f1.trans f27
    have hw := hw.ext f17
    have hq := hq.ext f17
    have hnn := hnn.ext f17
    have hlt := f17 _ _ hlt12
    have hD := hD12.ext f17
    have ebG := eb12.trans f17
    clear hlt12 hD12 eb12 f1 f2 f3 f4 f5 f6 f67 f57 f47 f37 f27 k1 k2 k3 k4 k5 k6
    refine ⟨gl, rfl, ⟨_, SqL.of k7⟩, for_it (walk_list (K := K) (a := gl) (xs := [.ref t1, .ref t2, .ref t3, .ref t4, .ref t5, .ref t6])) (fun gi σ H' => ∃ u7 u10 u11 u12 u13 u14 u15 u16 u17 u18 u19 u20 u21, σ = [some (.ref sc), some (.int (i : Nat)), some (.ref S), some (.ref ln), some (.ref lt), some (.ref row), some (.ref wa), u7, some (.ref ru), some (.ref du), u10, u11, u12, u13, u14, u15, u16, u17, u18, u19, u20, u21] ∧ Ex G7 H')
      ⟨_, _, _, _, _, _, _, _, _, _, _, _, _, rfl, Evl.Ex.refl _⟩ (fun _ _ _ _ ⟨_, _, _, _, _, _, _, _, _, _, _, _, _, _, z⟩ => z.seqL (SqL.of k7)) ?_ ?_⟩
    · rintro gi v σ J1 J1' hgi ⟨u7, u10, u11, u12, u13, u14, u15, u16, u17, u18, u19, u20, u21, rfl, eJ⟩ ⟨rfl, hx⟩
      obtain ⟨t, Lv, rfl, hLv, ht0⟩ := hTups.get hx
      obtain ⟨L, hLg, rfl⟩ := List.mem_map.mp (List.mem_of_getElem? hLv)
      have hL := groups_all hLg
      have ht := eJ _ _ ht0
      have hwJ := hw.ext eJ
      have hqJ := hq.ext eJ
      have hnJ := hnn.ext eJ
      have hltJ := eJ _ _ hlt
      have hDJ := hD.ext eJ
      have hLl := allL_len hL
      -- the ages of these looks
      have hdl : (rvs c.n pr).length = c.n := rvs_len _ _
      refine ⟨_, rfl, du, rfl, ⟨_, SqL.of hDJ.l_⟩, fun A hA => ?_⟩
      refine lc_map (walk_list (K := K) (a := du) (xs := rvs c.n pr)) (fun j => .int (age a c L j)) hA (by omega) (fun H e => e.seqL (SqL.of hDJ.l_)) ?_ ?_
      · rintro j v J2 J3 hj e ⟨rfl, hx⟩ R hR'
        have hj' : j < c.n := by rw [hdl] at hj; exact hj
        obtain rfl : V.ref (pr j) = v := Option.some.inj ((rvs_at hj').symm.trans hx)
        have hD2 := hDJ.ext e
        refine ⟨pr j, _, rfl, SqL.of (hD2.p_ j hj'), rfl, _, _, rfl, _, _, rfl, rfl, ⟨rfl, ?_⟩⟩
        refine ⟨_, rfl, t, rfl, ⟨_, SqT.of (e _ _ ht)⟩, fun C hC => ?_⟩
        refine lc_map (walk_tup (K := K) (a := t) (xs := lv L)) (fun m => .int (Mark.of (life a c j) (L.getD m .R))) hC (by rw [lv_len]; omega) (fun H e' => (e.trans e').seqT (SqT.of ht)) ?_ ?_
        · rintro m v J4 J5 hm e4 ⟨rfl, hx⟩ R2 hR2
          obtain ⟨rfl, hm'⟩ := lv_at hx
          have dg := dg_mk (e4 _ _ (hD2.m_ j hj')) (L.getD m .R)
          refine ⟨rfl, ?_⟩
          refine ⟨_, rfl, _, rfl, _, rfl, mk j, _, rfl, dg, _, _, rfl, rfl, .inl ⟨_, rfl, ?_⟩⟩
          have e5 : Tm c j - (Tm c j - Mark.of (life a c j) (L.getD m .R)) = Mark.of (life a c j) (L.getD m .R) := by omega
          rw [e5]
          exact hR2 _ (Evl.Ex.refl _)
        · intro J4 e4 h4
          rw [lv_len] at h4
          have hE : (List.range L.length).map (fun m => V.int (Mark.of (life a c j) (L.getD m .R))) = (L.map (Mark.of (life a c j))).map V.int := by
            rw [getD_map (fun m => V.int (Mark.of (life a c j) m)) L .R, List.map_map]
            rfl
          rw [hE] at h4
          refine ⟨C, _, rfl, SqL.of h4, by rw [List.length_map]; omega, fun m h1 h2 => ?_⟩
          rw [minL_uni h1 h2]
          exact hR' _ e4
      intro J2 eJ2 hA2
      rw [hdl] at hA2
      have hA2' : J2 A = some (.lst (ivs c.n (age a c L))) := hA2
      clear hA2
      have hw2 := hwJ.ext eJ2
      have hq2 := hqJ.ext eJ2
      have hn2 := hnJ.ext eJ2
      have hlt2 := eJ2 _ _ hltJ
      have hD2 := hDJ.ext eJ2
      have ht2 := eJ2 _ _ ht
      have eb2 := eJ.trans eJ2
      clear hwJ hqJ hnJ hltJ hDJ ht
      have hnl : (rvs c.n nr).length = c.n := rvs_len _ _
      refine ⟨_, rfl, ln, _, rfl, .inl (SqL.of hn2.nl), ?_⟩
      rw [hnl]
      refine ⟨_, rfl, by omega, by omega, ?_⟩
      refine for_it (walk_range (lo := 0) (n := c.n)) (fun k σ H' => ∃ u13 u14 u15 u16, σ = [some (.ref sc), some (.int (i : Nat)), some (.ref S), some (.ref ln), some (.ref lt), some (.ref row), some (.ref wa), u7, some (.ref ru), some (.ref du), some (.ref t), some (.ref A), u12, u13, u14, u15, u16, u17, u18, u19, u20, u21] ∧ Ex J2 H')
        ⟨_, _, _, _, rfl, Evl.Ex.refl _⟩ (fun _ _ _ _ _ => trivial) ?_ ?_
      · rintro k v σ M1 M1' hk ⟨u13, u14, u15, u16, rfl, eM⟩ ⟨rfl, hx⟩
        obtain rfl : v = V.int (k : Nat) := hx.trans (congrArg V.int (Int.zero_add _))
        have hA1 := eM _ _ hA2'
        refine ⟨_, rfl, _, rfl, _, rfl, _, rfl, wa, ru, t, c, a, L, k, rfl, hw2.ext eM, hq2.ext eM, a1, a2, eM _ _ ht2, hL, hk, fun M2 eM2 => ?_⟩
        have e2' := eM.trans eM2
        refine ⟨_, rfl, _, rfl, _, rfl, _, rfl, wa, ru, t, c, a, L, k, rfl, hw2.ext e2', hq2.ext e2', a1, a2, e2' _ _ ht2, hL, hk, fun M3 eM3 => ⟨szl (by simp), fun l1 gl1 => ?_⟩⟩
        have e3' := e2'.trans eM3
        obtain ⟨M4, q_, eM4, hl1⟩ := new_ex (o := .lst [.int (age a c L k), .int (age a c L k)]) gl1
        rw [← q_]; clear q_
        have e4' := e3'.trans eM4
        refine ⟨_, rfl, _, rfl, A, _, _, _, rfl, rfl, SqL.of (e4' _ _ hA2'), atI_nat (ivs_at hk), _, rfl, _, rfl, A, _, _, _, rfl, rfl, SqL.of (e4' _ _ hA2'), atI_nat (ivs_at hk), szl (by simp), fun l2 gl2 => ?_⟩
        obtain ⟨M5, q_, eM5, hl2⟩ := new_ex (o := .lst [.int (age a c L k), .int (age a c L k)]) gl2
        rw [← q_]; clear q_
        refine ⟨_, _, .lst (SqL.of (eM5 _ _ hl1)) (.cons (.int _) (.cons (.int _) .nil)), .lst (SqL.of hl2) (.cons (.int _) (.cons (.int _) .nil)), two_sh _ _, two_sh _ _, ?_⟩
        rw [two_eq]
        refine ⟨_, rfl, iteF ?_⟩
        have e5' := e4'.trans eM5
        have hD5 := hD2.ext e5'
        refine ⟨_, rfl, _, rfl, du, _, _, _, rfl, rfl, SqL.of hD5.l_, atI_nat (rvs_at hk), ?_⟩
        refine ⟨pr k, _, rfl, SqL.of (hD5.p_ k hk), rfl, _, _, rfl, _, _, rfl, rfl, ?_⟩
        have dgr : DGet M5 (mk k) (.str "read") (some (.int (Tm c k - (life a c k).r))) := dg_mk (hD5.m_ k hk) .R
        have hnn0 := (life_nn (a := a) ok k hk).1
        have er : Tm c k - (Tm c k - (life a c k).r) = (life a c k).r := by omega
        refine ⟨_, rfl, _, rfl, mk k, _, rfl, dgr, _, _, rfl, rfl, Tm c k - (Tm c k - (life a c k).r), rfl, by omega, fun on M6 eM6 hon hs6 => ?_⟩
        rw [er] at hs6
        have e6' := e5'.trans eM6
        have hS6 := hs6.ext dif_ex
        have hn6 := hn2.ext e6'
        refine ⟨_, rfl, _, rfl, ln, _, _, _, rfl, rfl, SqL.of hn6.nl, atI_nat (rvs_at hk), szl (by simp), fun tt gt => ?_⟩
        obtain ⟨M7, q_, eM7, htt⟩ := new_ex (o := .tup [.str "read"]) gt
        rw [← q_]; clear q_
        have e7' := e6'.trans eM7
        refine ⟨_, _, deed_dp (eM7 _ _ (hn6.nd k hk)), .tup (SqT.of htt) (.cons (.str _) .nil), deed_sh _, LD_sh [.R], ?_⟩
        rw [deed_read]
        refine ⟨_, rfl, ?_⟩
        have fin : ∀ (H' : Hp), Ex M7 H' → ∃ u13 u14 u15 u16, ([some (.ref sc), some (.int (i : Nat)), some (.ref S), some (.ref ln), some (.ref lt), some (.ref row), some (.ref wa), u7, some (.ref ru), some (.ref du), some (.ref t), some (.ref A), u12, some (.ref (mk k)), some (.int (Tm c k)), some (.int (k : Nat)), some (.ref on), u17, u18, u19, u20, u21] : L2.St) = [some (.ref sc), some (.int (i : Nat)), some (.ref S), some (.ref ln), some (.ref lt), some (.ref row), some (.ref wa), u7, some (.ref ru), some (.ref du), some (.ref t), some (.ref A), u12, u13, u14, u15, u16, u17, u18, u19, u20, u21] ∧ Ex J2 H' := fun H' e => ⟨_, _, _, _, rfl, e7'.trans e⟩
        cases hrd : (c.d k).isRead with
        | false => exact iteF (fin _ (Evl.Ex.refl _))
        | true =>
          refine iteT ?_
          have hS7 := hS6.ext eM7
          refine ⟨_, rfl, _, rfl, _, rfl, wa, ru, c, a, k, rfl, hw2.ext e7', hq2.ext e7', a1, a2, hk, hrd, fun l' M8 eM8 hl' hs8 => ?_⟩
          have hS8 := hs8.ext dif_ex
          have hSo := hS7.ext eM8
          obtain ⟨da, la, xa, p1, _⟩ := hS8.fld
          obtain ⟨db, lb, xb, p2, _⟩ := hSo.fld
          have en : (some ((rN a c k : Nat) : Int) : Option Int) = some (life a c k).r := by
            congr 1
            unfold rN
            omega
          refine ⟨_, rfl, l', on, da, db, _, _, rfl, rfl, p1, p2, l', on, _, _, rfl, hS8, hSo, ⟨_, rfl, ?_⟩⟩
          rw [decide_eq_true en]
          exact ⟨_, rfl, iteF (fin _ eM8)⟩
      rintro σ M1 ⟨u13, u14, u15, u16, rfl, eM⟩
      have hw3 := hw2.ext eM
      have hq3 := hq2.ext eM
      have hlt3 := eM _ _ hlt2
      have hA3 := eM _ _ hA2'
      have ht3 := eM _ _ ht2
      have eb3 := eb2.trans eM
      clear hw2 hq2 hlt2 hA2' ht2 hD2 hn2
      refine ⟨_, rfl, ?_⟩
      refine ⟨_, rfl, lt, _, rfl, .inl (SqL.of hlt3), ?_⟩
      rw [hlen]
      refine ⟨_, rfl, by omega, by omega, ?_⟩
      refine for_it (walk_range (lo := 0) (n := c.n - 1)) (fun k σ H' => ∃ u7 w', σ = [some (.ref sc), some (.int (i : Nat)), some (.ref S), some (.ref ln), some (.ref lt), some (.ref row), some (.ref wa), u7, some (.ref ru), some (.ref du), some (.ref t), some (.ref A), u12, u13, u14, u15, u16, some (.int w'), u18, u19, u20, u21] ∧ H' = M1 ∧ w' = seenV a c L k)
        ⟨_, _, rfl, rfl, rfl⟩ (fun _ _ _ _ _ => trivial) ?_ ?_
      · rintro k v σ M2 M3 hk ⟨u7, w', rfl, rfl, hw'⟩ ⟨rfl, hx⟩
        obtain rfl : v = V.int (k : Nat) := hx.trans (congrArg V.int (Int.zero_add _))
        subst hw'
        refine ⟨_, rfl, .inl ⟨_, rfl, _, rfl, _, rfl, A, _, _, _, rfl, rfl, SqL.of hA3, atI_nat (ivs_at (by omega)), _, rfl, _, rfl, lt, _, _, _, rfl, rfl, SqL.of hlt3, atI_nat (ivs_at hk), _, _, rfl, rfl, _, _, rfl, rfl, .inl ⟨_, rfl, _, _, rfl, ?_⟩⟩⟩
        exact ⟨_, _, rfl, rfl, rfl⟩
      rintro σ M2 ⟨u7, w', rfl, rfl, hw'⟩
      subst hw'
      refine ⟨_, _, rfl, rfl, ⟨by decide, by decide, by decide⟩, _, rfl, rfl, rfl, fun bk dxb hb0 hdxb nxb => ?_⟩
      have eB : Ex M2 (upd (upd M2 dxb (.own bk)) bk (.ins (cBook K) dxb [])) := Evl.Ex.mut (Evl.Ex.new hdxb) hb0
      refine ⟨bk, t, dxb, (10 : Int) ^ (10 : Int).toNat, L, M2, rfl, upd_same, eB, hb0, by decide, by decide, ht3, hL, fun N1 eN1 hB => ⟨rfl, ?_⟩⟩
      refine ⟨_, rfl, _, rfl, _, rfl, wa, ru, bk, c, a, _, t, L, rfl, hw3.ext eN1, hq3.ext eN1, a1, a2, hB, fun N2 eN2 => ?_⟩
      refine ⟨_, rfl, rfl, _, rfl, iteNS rfl ?_⟩
      have e12 := eN1.trans eN2
      have hal : (agesL a c L).length = c.n := by simp [agesL]
      have hlen' : (ivs c.n (age a c L)).length = c.n := ivs_len _ _
      refine ⟨_, rfl, A, rfl, ⟨_, SqL.of (e12 _ _ hA3)⟩, fun D1 hD1 => ?_⟩
      refine lc_map (walk_list (K := K) (a := A) (xs := ivs c.n (age a c L))) (fun j => .int (age a c L j)) hD1 (by omega) (fun H e => e.seqL (SqL.of (e12 _ _ hA3))) ?_ ?_
      · rintro j v N3 N4 hj e ⟨rfl, hx⟩ R hR'
        have hj' : j < c.n := by rw [hlen'] at hj; exact hj
        obtain rfl : V.int (age a c L j) = v := Option.some.inj ((ivs_at hj').symm.trans hx)
        exact ⟨rfl, _, rfl, .inl ⟨_, rfl, hR' _ (Evl.Ex.refl _)⟩⟩
      intro N3 eN3 hN3
      rw [hlen'] at hN3
      have hN3' : N3 D1 = some (.lst ((agesL a c L).map V.int)) := by rw [hN3, ← ivs_ages]; rfl
      have e13 := e12.trans eN3
      refine ⟨D1, agesL a c L, rfl, SqL.of hN3', by omega, fun m h1 h2 => ?_⟩
      rw [old_uni ok hL h1 h2]
      refine ⟨_, rfl, A, rfl, ⟨_, SqL.of (e13 _ _ hA3)⟩, fun D2 hD2' => ?_⟩
      refine lc_map (walk_list (K := K) (a := A) (xs := ivs c.n (age a c L))) (fun j => .int (age a c L j)) hD2' (by omega) (fun H e => e.seqL (SqL.of (e13 _ _ hA3))) ?_ ?_
      · rintro j v N4 N5 hj e ⟨rfl, hx⟩ R hR'
        have hj' : j < c.n := by rw [hlen'] at hj; exact hj
        obtain rfl : V.int (age a c L j) = v := Option.some.inj ((ivs_at hj').symm.trans hx)
        exact ⟨rfl, _, rfl, .inl ⟨_, rfl, hR' _ (Evl.Ex.refl _)⟩⟩
      intro N4 eN4 hN4
      rw [hlen'] at hN4
      have hN4' : N4 D2 = some (.lst ((agesL a c L).map V.int)) := by rw [hN4, ← ivs_ages]; rfl
      have e14 := e13.trans eN4
      refine ⟨D2, agesL a c L, rfl, SqL.of hN4', by omega, fun m2 h3 h4 => ?_⟩
      rw [minL_uni h3 h4]
      refine ⟨_, _, rfl, ?_⟩
      have hB4 := hB.ext ((eN2.trans eN3).trans eN4)
      refine ⟨_, rfl, _, rfl, _, rfl, wa, ru, bk, c, a, _, t, L, rfl, hw3.ext e14, hq3.ext e14, a1, a2, hB4, fun z N5 eN5 hz => ?_⟩
      have b1 := old_le ok a2 hL
      have b2 := min_le ok a2 hL
      have b3 : (2000000000 : Int) ≤ (10 : Int) ^ (10 : Int).toNat := by decide
      rw [untl_eq (Int.le_trans b1 b3), untl_eq (Int.le_trans b2 b3)] at hz
      refine ⟨_, _, rfl, rfl, ⟨by decide, by decide, by decide⟩, _, _, rfl, rfl, _, rfl, _, _, rfl, rfl, _, _, rfl, rfl, ⟨by decide, by decide, by decide⟩, _, _, rfl, rfl, _, rfl, _, _, rfl, rfl, szl (by simp), fun y' hy => ?_⟩
      obtain ⟨N6, q_, eN6, hy6⟩ := new_ex (o := .tup [.int ((10 : Int) ^ (10 : Int).toNat + 1 - oldV a c L c.n), .int ((10 : Int) ^ (10 : Int).toNat + 1 - minL (agesL a c L))]) hy
      rw [← q_]; clear q_
      refine ⟨_, _, .tup (SqT.of (eN6 _ _ hz)) (.cons (.int _) (.cons (.int _) .nil)), .tup (SqT.of hy6) (.cons (.int _) (.cons (.int _) .nil)), twoT_sh _ _, twoT_sh _ _, ?_⟩
      rw [twoT_eq]
      refine ⟨_, rfl, iteF ?_⟩
      exact ⟨_, _, _, _, _, _, _, _, _, _, _, _, _, rfl, ((eb3.trans e14).trans eN5).trans eN6⟩
    · rintro σ J1 ⟨u7, u10, u11, u12, u13, u14, u15, u16, u17, u18, u19, u20, u21, rfl, eJ⟩
      exact ⟨_, _, _, _, _, _, _, _, _, _, _, _, _, _, _, _, _, _, _, _, _, rfl, ebG.trans eJ⟩
  · rintro σ H1 ⟨u1, u2, u3, u4, u5, u6, u7, u8, u9, u10, u11, u12, u13, u14, u15, u16, u17, u18, u19, u20, u21, rfl, e1⟩
    exact kk _
end
end Ag
set_option maxHeartbeats 0
/-! The statement. -/
open PySem PySem.W PySem.Calls PyProof.Rows
theorem PySem.Challenge.cw_agedfiles_k63_whole_chains_of_seldom_rea_holds : PySem.Challenge.rw_agedfiles_k63_whole_chains_of_seldom_rea.Holds := by
  w_on; o_law
  refine HandSHeadRun.head_any (r := OpenLaw.row PySem.Challenge.rw_agedfiles_k63_whole_chains_of_seldom_rea) (q := view (OpenLaw.row PySem.Challenge.rw_agedfiles_k63_whole_chains_of_seldom_rea).prog [106]) (H := Ag.hk) (ob := Ag.ob) (M := 20000) (loose := Ag.names) (d := HandSHeadRun.topDef (OpenLaw.row PySem.Challenge.rw_agedfiles_k63_whole_chains_of_seldom_rea).prog 106) (kwd := []) Ag.ob_eq
    (by kernel_rfl) (fun s => by kernel_rfl) Ag.run (by kernel_rfl) (by kernel_rfl) (by kernel_rfl) (by rfl) (by first | assumption | decide +kernel) (by decide +kernel) ⟨rfl, rfl, rfl, rfl, rfl, by decide +kernel⟩ ?hw ?hc
  case hw => w_witness2
  case hc =>
    refine L2.walk_ofE (l := PySem.Challenge.rw_agedfiles_k63_whole_chains_of_seldom_rea) (n := 63) (k := 20) (x := "script") (CX := C8.CX0) rfl (by decide) (by kernel_rfl) ⟨rfl, by decide, by decide⟩ ?F (fun _ _ _ _ z => z)
    intro w mg fa h Y G hmg0
    obtain ⟨K, KX, c⟩ := Y
    have hmg : mg ("law" : PySem.Str) = some (.ref fa) := by
      have e : (HandSHeadRun.topDef (OpenLaw.row PySem.Challenge.rw_agedfiles_k63_whole_chains_of_seldom_rea).prog 106).name = ("law" : PySem.Str) := by kernel_rfl
      rw [← e]
      exact hmg0
    have T := Ag.top_of KX G c
    obtain ⟨f, fd, F, g⟩ := T.d_law
    have e := g.symm.trans hmg
    cases e
    have b := L2.FunD.bindsA (ps := ["script"]) F fun _ _ _ _ _ _ us hl => match us, hl with | [_], _ => rfl
    exact ⟨K, fd, Ag.sp_law K, KX, fun s v => b s [v] rfl, fun H a ns hl _ hS => ⟨a, ns, rfl, hS, fun _ => rfl⟩, fun base _ _ => Ag.fnOk_of F Ag.sc_law (fun vs H Q E h => by (obtain ⟨_, _, rfl, _⟩ := h; rfl)) (Ag.law_body T)⟩
