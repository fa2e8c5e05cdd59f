import PyProof.Rows.All
import Wide.All
import OpenK.AllK
import Wide.FinOn
import KE.KStateDown
import HandS.ForMost
import HandS.Exc
import HandS.Strs
import HandS.SetFor
import HandS.TupAny
import HandS.OwnEq
import HandS.IsInst
import HandS.Property
import HandS.SortInts
import HandS.Star
import HandS.Defaults
import HandS.Wide
import HandS.Head2
import HandS.HeadEnd
import HandS.HeadHook2
import HandS.Codes
import HandS.NoneIn
import PySem.Challenge.RW_keysfewest_k02_rights_algebra
set_option Elab.async false
set_option linter.all false
set_option maxRecDepth 100000
set_option maxHeartbeats 4000000
/-! Own rules: operators, in, len, == and truth by the text's own methods; set(list). -/
namespace Ow
open PySem PySem.Spec PyProof.Rows L2
section
variable {X : Cx} {pins : List (Addr × Obj)} {σ : L2.St} {s' : Shared} {Q : VK} {u : Value}
theorem relNI {v : V} (r : RelV v u) : u ≠ .notImplemented := by
  rintro rfl
  cases v
  · cases (r : Value.notImplemented = Value.none)
  · cases (r : Value.notImplemented = Value.bool _)
  · obtain ⟨_, e⟩ := (r : ∃ t, Value.notImplemented = Value.int _ t); cases e
  · obtain ⟨_, e⟩ := (r : ∃ t, Value.notImplemented = Value.str _ t); cases e
  · obtain ⟨_, e⟩ := (r : ∃ t, Value.notImplemented = Value.bytes _ t); cases e
  · obtain ⟨_, e⟩ := (r : ∃ t, Value.notImplemented = Value.float _ t); cases e
  · cases (r : Value.notImplemented = Value.ref _)
  · cases (r : Value.notImplemented = Value.type _)
theorem backOf {R : Value → Shared → Prop} (h : u ≠ .notImplemented) (q : R u s') : PySem.W.CmpBack R u s' := by
  cases u <;> first | exact absurd rfl h | exact q
theorem epBack (h : EP X pins σ Q u s') : PySem.W.CmpBack (EP X pins σ Q) u s' := by
  obtain ⟨v, H', I, r, q⟩ := h
  exact backOf (relNI r) ⟨v, H', I, r, q⟩
end
section
variable {X : Cx} {CX : CXT} {k : Nat} {C f : Addr} {fd : FuncData} {ps : List Str} {sp : Sp} {E : XK}
/-- a op b, both of the class at C: the promise of the class's own def -/
def rOwn (C : Addr) (sp : Sp) (E : XK) : R2 := fun x y H Q => ∃ a b dx dy fs gs, x = .ref a ∧ y = .ref b ∧ H a = some (.ins C dx fs) ∧ H b = some (.ins C dy gs) ∧ sp [.ref a, .ref b] H Q E
theorem op_own {op : Operator} (F : FnOk X.prog X.w X.K X.mg X.base CX k f fd ps sp) (hr : Room k X.A) (hb : Binds X.K fd ps []) (hx : Passes CX X E) (hc : PySem.W.selfFirst X.K C = true)
    (hs : PySem.W.findIn X.K (.ref C) (PySem.dunder op.info.2) = some (some (.ref f))) (hf : PySem.W.isFn X.K (.ref f) = true) : OpR X (binaryOp op) (rOwn C sp E) := by
  intro pins s σ H x y v u Q I rx ry h
  obtain ⟨a, b, dx, dy, fs, gs, rfl, rfl, ha, hb', q⟩ := h
  cases rx
  cases ry
  obtain ⟨mA, J, _⟩ := ins_get I.hok ha
  obtain ⟨mB, J', _⟩ := ins_get I.hok hb'
  obtain ⟨oa, J, _⟩ := J.look
  obtain ⟨ob, J', _⟩ := J'.look
  obtain ⟨m, hF⟩ := I.fr
  refine PySem.W.binop_K hF I.ok.mod.kin J J'.type hc hs hf ?_
  exact wpAny_mono (run_fn (us := [.ref a, .ref b]) (vs := [.ref a, .ref b]) F hr hb .nil hx I (.cons rfl (.cons rfl .nil)) q) (fun _ _ z => epBack z) fun _ _ z => z
/-- x in o, o of the class at C with its own __contains__ -/
def rOwnIn (C : Addr) (neg : Bool) (sp : Sp) (E : XK) : R2 := fun x y H Q => ∃ b dy gs, y = .ref b ∧ H b = some (.ins C dy gs) ∧ sp [.ref b, x] H (fun v H' => ∃ c, v = .bl c ∧ Q (.bl (if neg then !c else c)) H') E
theorem op_ownIn (F : FnOk X.prog X.w X.K X.mg X.base CX k f fd ps sp) (hr : Room k X.A) (hb : Binds X.K fd ps []) (hx : Passes CX X E)
    (hs : PySem.W.findIn X.K (.ref C) "__contains__" = some (some (.ref f))) (hf : PySem.W.isFn X.K (.ref f) = true) : OpR X (compareOp .In) (rOwnIn C false sp E) := by
  intro pins s σ H x y v u Q I rx ry h
  obtain ⟨b, dy, gs, rfl, hb', q⟩ := h
  cases ry
  obtain ⟨mB, J', _⟩ := ins_get I.hok hb'
  obtain ⟨ob, J', _⟩ := J'.look
  obtain ⟨m, hF⟩ := I.fr
  refine PySem.W.in_K hF I.ok.mod.kin J' hs hf (wpAny_mono (run_fn (us := [.ref b, v]) (vs := [.ref b, x]) F hr hb .nil hx I (.cons rfl (.cons rx .nil)) q) (fun r s' z => ?_) fun _ _ z => z)
  obtain ⟨w, H', I', rw', c, rfl, q'⟩ := z
  cases rw'
  exact wpAny_truthy_bool ⟨.bl c, H', I', rfl, q'⟩
theorem op_ownNotIn (F : FnOk X.prog X.w X.K X.mg X.base CX k f fd ps sp) (hr : Room k X.A) (hb : Binds X.K fd ps []) (hx : Passes CX X E)
    (hs : PySem.W.findIn X.K (.ref C) "__contains__" = some (some (.ref f))) (hf : PySem.W.isFn X.K (.ref f) = true) : OpR X (compareOp .NotIn) (rOwnIn C true sp E) := by
  intro pins s σ H x y v u Q I rx ry h
  obtain ⟨b, dy, gs, rfl, hb', q⟩ := h
  cases ry
  obtain ⟨mB, J', _⟩ := ins_get I.hok hb'
  obtain ⟨ob, J', _⟩ := J'.look
  obtain ⟨m, hF⟩ := I.fr
  refine PySem.W.notIn_K hF I.ok.mod.kin J' hs hf (wpAny_mono (run_fn (us := [.ref b, v]) (vs := [.ref b, x]) F hr hb .nil hx I (.cons rfl (.cons rx .nil)) q) (fun r s' z => ?_) fun _ _ z => z)
  obtain ⟨w, H', I', rw', c, rfl, q'⟩ := z
  cases rw'
  exact wpAny_truthy_bool ⟨.bl (!c), H', I', rfl, q'⟩
/-- a def called below the body, at one unit more -/
theorem run_in1 {pins : List (Addr × Obj)} {σ : L2.St} {H : Hp} {s : Shared} {Q : VK} {us : List Value} {vs : List V} (F : FnOk X.prog X.w X.K X.mg X.base CX k f fd ps sp) (hr : Room (k + 1) X.A) (hb : Binds X.K fd ps []) (hx : Passes CX X E)
    (I : Inv X pins σ H s) (r : Vals vs us) (h : sp vs H Q E) : wpAny (model X.prog X.w) X.A.in1 (call (.ref f) us) (EP X pins σ Q) X.xe s := by
  have hl : (us ++ []).length = ps.length := by rw [List.append_nil, ← r.length]; exact F.len _ _ _ _ h
  have hbs := hb s us I.kIn hl
  rw [List.append_nil] at hbs
  refine wpAny_call (codeAny_mono (F.run X.A.in1 X.stack s H ⟨us, []⟩ us vs Q E hr.in1 I.env0.in1 hbs r h) fun r s' hq => ?_)
  cases r with
  | error e => exact hx pins σ H s e s' I hq
  | ok fl =>
    cases fl with
    | ret u => exact I.after hq
    | next => exact False.elim hq
    | brk => exact False.elim hq
    | cont => exact False.elim hq
/-- len(o) by the class's own __len__ -/
def rOwnLen (C : Addr) (sp : Sp) (E : XK) : List V → Hp → VK → Prop := fun xs H Q => ∃ a dx fs, xs = [.ref a] ∧ H a = some (.ins C dx fs) ∧ sp [.ref a] H (fun v H' => ∃ n : Nat, v = .int n ∧ n < 2 ^ 63 ∧ Q (.int n) H') E
theorem call_ownLen (F : FnOk X.prog X.w X.K X.mg X.base CX k f fd ps sp) (hr : Room (k + 1) X.A) (hb : Binds X.K fd ps []) (hx : Passes CX X E)
    (hs : PySem.W.findIn X.K (.ref C) "__len__" = some (some (.ref f))) (hf : PySem.W.isFn X.K (.ref f) = true) : CallR X (.builtin "len") (rOwnLen C sp E) := by
  intro pins s σ H xs us Q I r h
  obtain ⟨a, dx, fs, rfl, ha, q⟩ := h
  rw [Vals.ref1 r]
  obtain ⟨mA, J, _⟩ := ins_get I.hok ha
  obtain ⟨oa, J, _⟩ := J.look
  obtain ⟨m, hF⟩ := I.fr
  refine PySem.W.len_K hF I.ok.mod.kin J hs hf (wpAny_mono (run_in1 (us := [.ref a]) (vs := [.ref a]) F hr hb hx I (.cons rfl .nil) q) (fun v s' z => ?_) fun _ _ z => z)
  obtain ⟨w, H', I', rw', n, rfl, hn, q'⟩ := z
  obtain ⟨t, rfl⟩ := rw'
  exact ⟨⟨by omega, by omega⟩, ⟨.int n, H', I'.tok _, ⟨_, rfl⟩, q'⟩⟩
/-- a == b, a of the class at C with its own __eq__, b of a class or type that is no subclass of it -/
def rOwnEq (C : Addr) (sp : Sp) (E : XK) : R2 := fun x y H Q => ∃ a b dx dy fs gs, x = .ref a ∧ y = .ref b ∧ H a = some (.ins C dx fs) ∧ H b = some (.ins C dy gs) ∧ sp [.ref a, .ref b] H Q E
theorem op_ownEq (F : FnOk X.prog X.w X.K X.mg X.base CX k f fd ps sp) (hr : Room k X.A) (hb : Binds X.K fd ps []) (hx : Passes CX X E)
    (hs : PySem.W.findIn X.K (.ref C) "__eq__" = some (some (.ref f))) (hf : PySem.W.isFn X.K (.ref f) = true) : OpR X (compareOp .Eq) (rOwnEq C sp E) := by
  intro pins s σ H x y v u Q I rx ry h
  obtain ⟨a, b, dx, dy, fs, gs, rfl, rfl, ha, hb', q⟩ := h
  cases rx
  cases ry
  obtain ⟨mA, J, _⟩ := ins_get I.hok ha
  obtain ⟨mB, J', _⟩ := ins_get I.hok hb'
  obtain ⟨oa, J, _⟩ := J.look
  obtain ⟨ob, J', _⟩ := J'.look
  obtain ⟨m, hF⟩ := I.fr
  show wpAny (model X.prog X.w) X.A (richCompare .Eq (.ref a) (.ref b)) (EP X pins σ Q) X.xe s
  refine PySem.W.cmp_K (op := .Eq) (tb := .ref C) hr.units0 hF I.ok.mod.kin J J'.type (by simp [PySem.W.notFirst]) hs hf ?_
  exact wpAny_mono (run_fn (us := [.ref a, .ref b]) (vs := [.ref a, .ref b]) F hr hb .nil hx I (.cons rfl (.cons rfl .nil)) q) (fun _ _ z => epBack z) fun _ _ z => z
end
end Ow

/-! set(list) of hin, its members told -/
namespace Ow
open PySem PySem.Spec PyProof.Rows L2
/-- the new set as an object -/
abbrev emptySet (w : World) : Obj := { cls := .type "set", dict := none, data := .set #[] 0 (.fresh 0 0 (!w.params.followText "set-order")) }
section
variable {P : Program} {w : World} {A : Around} {E : Value → Shared → Prop} {s : Shared}
theorem set_of_list {l : Addr} {its : Array Value} (ns : List Int) {Q : Value → Shared → Prop} (hh : A.handled = none) (hl : s.heap.IsList l its) (hin : IntsAre its.toList ns) (few : ns.length + 1 < scanBound)
    (h : ∀ (hp : Heap) (tk c : Nat), SetR w hp s.heap.objs.size (fun j => decide (j ∈ ns)) c → c ≤ ns.length → (∀ b o, s.heap.get? b = some o → hp.get? b = some o) → Q (.ref s.heap.objs.size) { s with heap := hp, toks := tk }) :
    wpAny (model P w) A (call (.type "set") [.ref l]) Q E s := by
  have sz : its.size = ns.length := by simpa using IntsAre.length hin
  have a0 := F.called_set.mro
  obtain ⟨cc, ctl, a1⟩ := a0
  have a2 := F.called_set.made
  have a3 := F.called_set.sub
  have a4 := F.called_set.notType
  have a5 := F.called_set.canCreate
  have a6 := F.typeCall_set_1 (.ref l)
  refine wpAny_call (codeAny_of_tree ?_)
  refine wpAny_pure ⟨Code.quiet_builtin _ (by decide +kernel), codeAny_builtin F.entry_type_call ?_⟩
  rw [Around.under_plain (weight_type_call_type "set" [.ref l] []) rfl]
  repeat (any_goals (first | assumption | wp_step))
  refine codeAny_mono (code_set_led1 (.ref l) (E := E) (Q₁ := fun ob s1 => ob = .ref s.heap.objs.size ∧ s1 = { s with heap := s.heap.push (emptySet w) }) ⟨rfl, rfl⟩) fun r1 s1 g1 => ?_
  cases r1 with
  | error er => exact g1
  | ok f1 =>
    cases f1 with
    | next => exact g1.elim
    | brk => exact g1.elim
    | cont => exact g1.elim
    | ret ob =>
      obtain ⟨rfl, rfl⟩ := g1
      have at0 : (s.heap.push (emptySet w)).get? s.heap.objs.size = some (emptySet w) := Heap.get?_push_size _ rfl
      have ty0 : Shared.TypeIs { s with heap := s.heap.push (emptySet w) } (.ref s.heap.objs.size) "set" := ⟨_, at0, rfl⟩
      have b1 := F.called_set.init.lookup
      have b2 := F.called_set.init.bind (.ref s.heap.objs.size)
      repeat (any_goals (first | assumption | wp_step))
      refine codeAny_mono (codeAny_call_builtin (R := wants (fun r s2 => r = .none ∧ ∃ hp tk c, s2 = { s with heap := hp, toks := tk } ∧ SetR w hp s.heap.objs.size (fun j => decide (j ∈ ns)) c ∧ c ≤ ns.length ∧ ∀ b o, s.heap.get? b = some o → hp.get? b = some o) E)
        F.called_set.init.plain F.entry_set_init (check_set_init_1 ty0 ?_)) fun r2 s2 g2 => ?_
      · obtain ⟨⟨oc, od, odt, osl⟩, hol, hcl, nl, hdl⟩ := hl
        dsimp only at hcl hdl
        subst hcl hdl
        have c1 : (s.heap.push (emptySet w)).get? l = some { cls := .type "list", dict := od, data := .seq its nl, slots := osl } := Heap.get?_push_of_some _ hol
        have c2 := F.sub_list_set
        have c3 := F.sub_list_frozenset
        have c4 : (Value.type "list" == Value.type "dict") = false := by decide
        have c5 : (s.heap.push (emptySet w)).IsList l its := ⟨_, c1, rfl, nl, rfl⟩
        unfold Builtin.«set.__init__» noKeywords Builtin.Frozenset.updateFrom
        generalize hgen : pyIter = gen
        wp_walk
        subst hgen
        refine wpAny_pyIter_list c5 (wpAny_bind (wpAny_runValue ?_))
        have lt : l < s.heap.objs.size := Heap.lt_size hol
        have hh3 : A.in1.in1.in1.handled = none := by simp [hh]
        have zz : (s.heap.push (emptySet w)).objs.size = s.heap.objs.size + 1 := Heap.size_push ..
        have n1 : l ≠ (s.heap.push (emptySet w)).objs.size := fun e => absurd (Nat.lt_succ_of_lt lt) (by rw [e, zz]; exact Nat.lt_irrefl _)
        have n2 : s.heap.objs.size ∉ [(s.heap.push (emptySet w)).objs.size, l] := fun hm => by
          rcases List.mem_cons.mp hm with e | e
          · rw [zz] at e; exact absurd e (Nat.ne_of_lt (Nat.lt_succ_self _))
          · exact absurd lt (by rw [← List.mem_singleton.mp e]; exact Nat.lt_irrefl _)
        have vals : ∀ (i : Nat) (v : Value), its[i]? = some v → ∃ k t, ns[i]? = some k ∧ v = .int k t := fun i v hv => by
          have hi : i < ns.length := by rw [← sz]; exact (Array.getElem?_eq_some_iff.mp hv).1
          obtain ⟨t, e⟩ := IntsAre.int_at hin i v (by rw [Array.getElem?_toList]; exact hv)
          exact ⟨ns[i], t, List.getElem?_eq_getElem hi, by rw [e]; simp [List.getD_eq_getElem?_getD, hi]⟩
        refine set_update_ints ((Walks.list hh3 _ l n1 its).toS) s.heap.objs.size n2 ns sz few vals (its.size - 0) 0 _ (by omega) (Nat.zero_le _) ⟨⟨_, Heap.get?_push_size _ rfl, rfl, rfl⟩, c5.push _⟩ ⟨0, Nat.le_refl 0, setR_new_at (Heap.get?_push_of_some _ at0)⟩ ?_
        intro s3 c m3 hc3 S3
        obtain ⟨hp3, g3, d3, t3, o3⟩ := s3
        obtain rfl : g3 = s.gens := m3.gens
        obtain rfl : d3 = s.drawn := m3.drawn
        obtain rfl : o3 = s.os := m3.os
        refine wpAny_pure (wpAny_pure ⟨rfl, hp3, t3, c, rfl, S3, by omega, fun b o e => ?_⟩)
        have lb : b < s.heap.objs.size := Heap.lt_size e
        have nb : b ∉ [s.heap.objs.size, (s.heap.push (emptySet w)).objs.size] := fun hm => by
          rcases List.mem_cons.mp hm with e | e
          · exact absurd lb (by rw [e]; exact Nat.lt_irrefl _)
          · rw [List.mem_singleton.mp e, zz] at lb; exact absurd lb (Nat.not_lt_of_lt (Nat.lt_succ_self _))
        exact m3.heap b o nb (Heap.get?_push_of_some _ (Heap.get?_push_of_some _ e))
      · cases r2 with
        | error er => exact g2
        | ok f2 =>
          cases f2 with
          | next => exact g2.elim
          | brk => exact g2.elim
          | cont => exact g2.elim
          | ret v2 =>
            obtain ⟨rfl, hp, tk, c, rfl, S2, hc2, k2⟩ := g2
            repeat (any_goals (first | assumption | wp_step))
            exact h _ _ _ S2 hc2 k2
end
/-- set(xs), xs a list or a tuple of hin, fewer than 4000 -/
def rSetOf (K : PySem.W.Frag) (w : World) : List V → Hp → VK → Prop := fun xs H Q => ∃ (l : Addr) (ns : List Int), xs = [.ref l] ∧ (SqL K H l (ns.map V.int) ∨ SqT K H l (ns.map V.int)) ∧ ns.length ≤ 4000 ∧
  ∀ p c, H p = none → c ≤ ns.length → Q (.ref p) (upd H p (SetO w p (fun j => decide (j ∈ ns)) c))
section
variable {X : Cx}
theorem intsOf : ∀ {ns : List Int} {us : List Value}, Vals (ns.map V.int) us → IntsAre us ns
  | [], _, .nil => .nil
  | n :: ns, _, .cons r t => by
    obtain ⟨k, rfl⟩ := r
    exact .cons n k (intsOf t)
theorem cr_setL (hc : X.calm = true) : CallR X (.type "set") (rSetOf X.K X.w) := by
  intro pins s σ H xs us Q I r h
  obtain ⟨l, ns, rfl, hq, few, q⟩ := h
  rw [Vals.ref1 r]
  have lay : ∀ (hp : Heap) (tk c : Nat), SetR X.w hp s.heap.objs.size (fun j => decide (j ∈ ns)) c → c ≤ ns.length → (∀ b o, s.heap.get? b = some o → hp.get? b = some o) → EP X pins σ Q (.ref s.heap.objs.size) { s with heap := hp, toks := tk } :=
    fun hp tk c S hc k => ⟨.ref s.heap.objs.size, _, I.laid (t' := tk) k (Nat.le_refl _) (setO_new S), rfl, q _ c (I.hok.fresh (Nat.le_refl _)) hc⟩
  rcases hq with hq | hq
  · obtain ⟨its, r2, pl, _⟩ := I.list hq
    exact set_of_list ns (I.ok.hd hc) pl.isList (by simpa using intsOf r2) (by unfold scanBound; omega) lay
  · obtain ⟨its, r2, pl, _⟩ := I.tuple hq
    exact call_set_tupI ns (I.ok.hd hc) pl (by simpa using intsOf r2) (by unfold scanBound; omega) lay
end
end Ow

/-! defs, methods and classes by their names; the head's facts with one more Bool -/
namespace Ow
open PySem PySem.Spec PyProof.Rows L2
section
variable (P : Program) (w : World) (K : PySem.W.Frag) (mg : Str → Option Value) (base : Heap) (CX : CXT) (k : Nat)
/-- the module's name x is a def that keeps sp -/
def Glob (x : Str) (ps : List Str) (sp : Sp) : Prop := ∃ f fd, mg x = some (.ref f) ∧ PySem.W.keepIn K (.ref f) = true ∧ Binds K fd ps [] ∧ FnOk P w K mg base CX k f fd ps sp
/-- the class at C (the module's name x) is made by an __init__ that keeps sp; dvs fill up -/
def Maker (x : Str) (C : Addr) (ps : List Str) (dvs : List V) (sp : Sp) : Prop := ∃ f fd ds, mg x = some (.ref C) ∧ Mk K C f ∧ Binds K fd ps ds ∧ Vals dvs ds ∧ FnOk P w K mg base CX k f fd ps sp
/-- the class at C has the method m, which keeps sp -/
def Dun (C : Addr) (m : Str) (ps : List Str) (sp : Sp) : Prop := ∃ f fd, PySem.W.findIn K (.ref C) m = some (some (.ref f)) ∧ PySem.W.isFn K (.ref f) = true ∧ PySem.W.keepIn K (.ref f) = true ∧ Binds K fd ps [] ∧ FnOk P w K mg base CX k f fd ps sp
end
section
variable {X : Cx} {CX : CXT} {k : Nat} {C : Addr} {ps : List Str} {sp : Sp} {dvs : List V} {E : XK} {x m : Str} {p pos apos : Pos} {e o : Expr} {es : List Expr} {ta : TE} {t : TA}
theorem pe_g (G : Glob X.prog X.w X.K X.mg X.base CX k x ps sp) (hr : Room k X.A) (hx : Passes CX X E) (ha : PA X (e :: es) t) (hg : Gl X x := by rfl) (hdb : (x == ("__debug__" : Str)) = false := by decide)
    (he : starEach (e :: es) X.env = (false, eval e X.env) :: starEach es X.env := by rfl) (hpl : (backTo pos (starEach es X.env)).any (·.1) = false := by rfl) : PE X (.Call (.Name x p) (e :: es) [] pos) (tCall sp [] E t) := by
  obtain ⟨f, fd, hm, hk, hb, F⟩ := G
  exact pe_call F hr hg hm hk hb .nil hx ha hdb he hpl
theorem pe_g0 (G : Glob X.prog X.w X.K X.mg X.base CX k x ps sp) (hr : Room k X.A) (hx : Passes CX X E) (hg : Gl X x := by rfl) (hdb : (x == ("__debug__" : Str)) = false := by decide) : PE X (.Call (.Name x p) [] [] pos) (tCall sp [] E tNil) := by
  obtain ⟨f, fd, hm, hk, hb, F⟩ := G
  exact pe_call0 F hr hg hm hk hb .nil hx hdb
theorem pe_mk (G : Maker X.prog X.w X.K X.mg X.base CX k x C ps dvs sp) (hr : Room (k + 1) X.A) (hx : Passes CX X E) (ha : PA X (e :: es) t) (hg : Gl X x := by rfl) (hdb : (x == ("__debug__" : Str)) = false := by decide)
    (he : starEach (e :: es) X.env = (false, eval e X.env) :: starEach es X.env := by rfl) (hpl : (backTo pos (starEach es X.env)).any (·.1) = false := by rfl) : PE X (.Call (.Name x p) (e :: es) [] pos) (tMake C sp dvs E t) := by
  obtain ⟨f, fd, ds, hm, M, hb, hd, F⟩ := G
  exact pe_make M F hr hg hm hb hd hx ha hdb he hpl
theorem pe_mk0 (G : Maker X.prog X.w X.K X.mg X.base CX k x C ps dvs sp) (hr : Room (k + 1) X.A) (hx : Passes CX X E) (hg : Gl X x := by rfl) (hdb : (x == ("__debug__" : Str)) = false := by decide) : PE X (.Call (.Name x p) [] [] pos) (tMake C sp dvs E tNil) := by
  obtain ⟨f, fd, ds, hm, M, hb, hd, F⟩ := G
  exact pe_make0 M F hr hg hm hb hd hx hdb
theorem od_bin {op : Operator} (G : Dun X.prog X.w X.K X.mg X.base CX k C m ps sp) (hr : Room k X.A) (hx : Passes CX X E) (hc : PySem.W.selfFirst X.K C = true) (hm : PySem.dunder op.info.2 = m) : OpR X (binaryOp op) (rOwn C sp E) := by
  obtain ⟨f, fd, hs, hf, hk, hb, F⟩ := G
  exact op_own F hr hb hx hc (by rw [hm]; exact hs) hf
theorem od_in (G : Dun X.prog X.w X.K X.mg X.base CX k C "__contains__" ps sp) (hr : Room k X.A) (hx : Passes CX X E) : OpR X (compareOp .In) (rOwnIn C false sp E) := by
  obtain ⟨f, fd, hs, hf, hk, hb, F⟩ := G
  exact op_ownIn F hr hb hx hs hf
theorem od_notIn (G : Dun X.prog X.w X.K X.mg X.base CX k C "__contains__" ps sp) (hr : Room k X.A) (hx : Passes CX X E) : OpR X (compareOp .NotIn) (rOwnIn C true sp E) := by
  obtain ⟨f, fd, hs, hf, hk, hb, F⟩ := G
  exact op_ownNotIn F hr hb hx hs hf
theorem od_eq (G : Dun X.prog X.w X.K X.mg X.base CX k C "__eq__" ps sp) (hr : Room k X.A) (hx : Passes CX X E) : OpR X (compareOp .Eq) (rOwnEq C sp E) := by
  obtain ⟨f, fd, hs, hf, hk, hb, F⟩ := G
  exact op_ownEq F hr hb hx hs hf
theorem od_len (G : Dun X.prog X.w X.K X.mg X.base CX k C "__len__" ps sp) (hr : Room (k + 1) X.A) (hx : Passes CX X E) : CallR X (.builtin "len") (rOwnLen C sp E) := by
  obtain ⟨f, fd, hs, hf, hk, hb, F⟩ := G
  exact call_ownLen F hr hb hx hs hf
/-- o.m(e, ..) -/
theorem pe_m {pl : Sem Bool} (he : PE X o ta) (c : Cls X.K C) (G : Dun X.prog X.w X.K X.mg X.base CX k C m ps sp) (hr : Room k X.A) (hx : Passes CX X E) (ha : PA X (e :: es) t)
    (hst : starEach (e :: es) X.env = (false, eval e X.env) :: starEach es X.env := by rfl) (hpl : (backTo pos (starEach es X.env)).any (·.1) = false := by rfl)
    (ht : eval (.Call (.Attribute o m apos) (e :: es) [] pos) X.env = (do
      let ov ← eval o X.env
      standAt apos.atName
      let (f, first) ← holding [ov] (getMethod ov m pl)
      callWith pos f first (backTo pos (starEach (e :: es) X.env)) (backToKw pos (keywordEach [] X.env))) := by rfl) : PE X (.Call (.Attribute o m apos) (e :: es) [] pos) (tMeth C m sp [] E ta t) := by
  obtain ⟨f, fd, hs, hf, hk, hb, F⟩ := G
  exact pe_meth (pl := pl) he c ⟨hs, hf, hk⟩ F hr hb .nil hx ha hst hpl ht
theorem pe_m0 {pl : Sem Bool} (he : PE X o ta) (c : Cls X.K C) (G : Dun X.prog X.w X.K X.mg X.base CX k C m ps sp) (hr : Room k X.A) (hx : Passes CX X E)
    (ht : eval (.Call (.Attribute o m apos) [] [] pos) X.env = (do
      let ov ← eval o X.env
      standAt apos.atName
      let (f, first) ← holding [ov] (getMethod ov m pl)
      callWith pos f first (backTo pos (starEach [] X.env)) (backToKw pos (keywordEach [] X.env))) := by rfl) : PE X (.Call (.Attribute o m apos) [] [] pos) (tMeth C m sp [] E ta tNil) := by
  obtain ⟨f, fd, hs, hf, hk, hb, F⟩ := G
  exact pe_meth0 (pl := pl) he c ⟨hs, hf, hk⟩ F hr hb .nil hx ht
end
end Ow
/-! the Hook: HeadHook2's with a Bool of one's own over the written part -/
namespace Ow
open PySem PySem.Spec PyProof.Rows L2
def obsM (n : Nat) (fa : List He.Fa) (fn : List He.DefD) (ex : PySem.W.Frag → Bool) (g : Addr → Option Obj) : He.AlD × Bool :=
  (He.obsD fa fn (He.frG g (He.asD g n)), ex (He.frG g (He.asD g n)))
def hookM (n : Nat) (fa : List He.Fa) (fn : List He.DefD) (ex : PySem.W.Frag → Bool) : PySem.W.Hook where
  α := He.AlD × Bool
  obs := fun s => obsM n fa fn ex s.heap.get?
  val := fun _ => (He.valD fn, true)
  says := fun _ h => ∃ K : PySem.W.Frag, K.In h ∧ He.SaysD fa fn K ∧ ex K = true
  of := fun _ _ e => ⟨_, He.frG_in, congrArg Prod.fst e, congrArg Prod.snd e⟩
  keeps := fun _ _ _ ⟨K, hK, c⟩ k => ⟨K, PySem.W.Frag.In.keeps hK k, c⟩
theorem obsM_eq {n : Nat} {fa : List He.Fa} {fn : List He.DefD} {ex : PySem.W.Frag → Bool} {g : Addr → Option Obj} {s : Shared} (h : ∀ a, g a = s.heap.get? a) : obsM n fa fn ex g = (hookM n fa fn ex).obs s := by
  obtain rfl : g = s.heap.get? := funext h
  rfl
end Ow

/-! data compared: ints, lists and tuples of ints, lists of those; isinstance of an own instance -/
namespace Ow
open PySem PySem.Spec PyProof.Rows L2
theorem dp_ints {K : PySem.W.Frag} {H : Hp} : ∀ ns : List Int, DpAll K H (ns.map V.int) (ns.map PyData.int)
  | [] => .nil
  | n :: ns => .cons (.int n) (dp_ints ns)
theorem eqv_ints : ∀ ns ms : List Int, PyData.eqvAll (ns.map PyData.int) (ms.map PyData.int) = decide (ns = ms)
  | [], [] => by simp [PyData.eqvAll]
  | [], _ :: _ => by simp [PyData.eqvAll]
  | _ :: _, [] => by simp [PyData.eqvAll]
  | n :: ns, m :: ms => by
    simp only [List.map_cons, PyData.eqvAll, eqv_ints ns ms, PyData.eqv]
    by_cases h1 : n = m <;> by_cases h2 : ns = ms <;> simp [h1, h2]
theorem lay_ints : ∀ ns : List Int, PyData.canLayAll0 (ns.map PyData.int) = true
  | [] => by simp [PyData.canLayAll0]
  | n :: ns => by simp [PyData.canLayAll0, PyData.canLay0, lay_ints ns]
theorem depth_ints : ∀ ns : List Int, PyData.depthAll (ns.map PyData.int) ≤ 1
  | [] => by simp [PyData.depthAll]
  | n :: ns => by
    have := depth_ints ns
    simp [PyData.depthAll, PyData.depth]
    omega
theorem sh_list (ns : List Int) : SeqAt.shaped (.list (ns.map PyData.int)) = true := by
  have := depth_ints ns
  simp [SeqAt.shaped, PyData.canLay0, lay_ints, PyData.depth]
  omega
theorem sh_tup (ns : List Int) : SeqAt.shaped (.tuple (ns.map PyData.int)) = true := by
  have := depth_ints ns
  simp [SeqAt.shaped, PyData.canLay0, lay_ints, PyData.depth]
  omega
/-- lists of ints at the addresses -/
def Rows (K : PySem.W.Frag) (H : Hp) (as : List V) (nss : List (List Int)) : Prop := DpAll K H as (nss.map fun ns => .list (ns.map PyData.int))
theorem eqv_rows : ∀ ns ms : List (List Int), PyData.eqvAll (ns.map fun n => .list (n.map PyData.int)) (ms.map fun n => .list (n.map PyData.int)) = decide (ns = ms)
  | [], [] => by simp [PyData.eqvAll]
  | [], _ :: _ => by simp [PyData.eqvAll]
  | _ :: _, [] => by simp [PyData.eqvAll]
  | n :: ns, m :: ms => by
    simp only [List.map_cons, PyData.eqvAll, eqv_rows ns ms, PyData.eqv, eqv_ints]
    by_cases h1 : n = m <;> by_cases h2 : ns = ms <;> simp [h1, h2]
theorem lay_rows : ∀ ns : List (List Int), PyData.canLayAll0 (ns.map fun n => .list (n.map PyData.int)) = true
  | [] => by simp [PyData.canLayAll0]
  | n :: ns => by simp [PyData.canLayAll0, PyData.canLay0, lay_ints, lay_rows ns]
theorem depth_rows : ∀ ns : List (List Int), PyData.depthAll (ns.map fun n => .list (n.map PyData.int)) ≤ 2
  | [] => by simp [PyData.depthAll]
  | n :: ns => by
    have h1 := depth_rows ns
    have h2 := depth_ints n
    simp [PyData.depthAll, PyData.depth]
    omega
theorem sh_rows (ns : List (List Int)) : SeqAt.shaped (.list (ns.map fun n => .list (n.map PyData.int))) = true := by
  have := depth_rows ns
  simp [SeqAt.shaped, PyData.canLay0, lay_rows, PyData.depth]
  omega
/-- two lists, two tuples of ints compared -/
theorem eqd_list {K : PySem.W.Frag} {H : Hp} {a b : Addr} {ns ms : List Int} {Q : VK} (ha : SqL K H a (ns.map V.int)) (hb : SqL K H b (ms.map V.int)) (q : Q (.bl (decide (ns = ms))) H) : rEqD K (.ref a) (.ref b) H Q :=
  ⟨_, _, .lst ha (dp_ints ns), .lst hb (dp_ints ms), sh_list ns, sh_list ms, by rw [PyData.eqv, eqv_ints]; exact q⟩
theorem ned_list {K : PySem.W.Frag} {H : Hp} {a b : Addr} {ns ms : List Int} {Q : VK} (ha : SqL K H a (ns.map V.int)) (hb : SqL K H b (ms.map V.int)) (q : Q (.bl (!decide (ns = ms))) H) : rNeD K (.ref a) (.ref b) H Q :=
  ⟨_, _, .lst ha (dp_ints ns), .lst hb (dp_ints ms), sh_list ns, sh_list ms, by rw [PyData.eqv, eqv_ints]; exact q⟩
theorem eqd_tup {K : PySem.W.Frag} {H : Hp} {a b : Addr} {ns ms : List Int} {Q : VK} (ha : SqT K H a (ns.map V.int)) (hb : SqT K H b (ms.map V.int)) (q : Q (.bl (decide (ns = ms))) H) : rEqD K (.ref a) (.ref b) H Q :=
  ⟨_, _, .tup ha (dp_ints ns), .tup hb (dp_ints ms), sh_tup ns, sh_tup ms, by rw [PyData.eqv, eqv_ints]; exact q⟩
theorem ned_tup {K : PySem.W.Frag} {H : Hp} {a b : Addr} {ns ms : List Int} {Q : VK} (ha : SqT K H a (ns.map V.int)) (hb : SqT K H b (ms.map V.int)) (q : Q (.bl (!decide (ns = ms))) H) : rNeD K (.ref a) (.ref b) H Q :=
  ⟨_, _, .tup ha (dp_ints ns), .tup hb (dp_ints ms), sh_tup ns, sh_tup ms, by rw [PyData.eqv, eqv_ints]; exact q⟩
theorem eqd_rows {K : PySem.W.Frag} {H : Hp} {a b : Addr} {as bs : List V} {ns ms : List (List Int)} {Q : VK} (ha : SqL K H a as) (hb : SqL K H b bs) (ra : Rows K H as ns) (rb : Rows K H bs ms) (q : Q (.bl (decide (ns = ms))) H) : rEqD K (.ref a) (.ref b) H Q :=
  ⟨_, _, .lst ha ra, .lst hb rb, sh_rows ns, sh_rows ms, by rw [PyData.eqv, eqv_rows]; exact q⟩
/-- what isinstance asks of an own class -/
structure IsiC (K : PySem.W.Frag) (C : Addr) : Prop where
  c : PySem.W.findIn K (.ref C) "__class__" = some (some (.builtin "object.__class__"))
  g : PySem.W.specialIn K (.builtin "object.__class__") "__get__" = some (some (.builtin "getset_descriptor.__get__"))
  t : PySem.W.takesIn K (.builtin "object.__class__") = some true
  m : PySem.W.mroIn K C (.type "object") = some true
  y : PySem.W.kitOne K (.ref C) (.ref C) = some true
def isiB (K : PySem.W.Frag) (C : Addr) : Bool := He.eqO (PySem.W.findIn K (.ref C) "__class__") (some (some (.builtin "object.__class__"))) && (He.eqO (PySem.W.specialIn K (.builtin "object.__class__") "__get__") (some (some (.builtin "getset_descriptor.__get__"))) &&
  (decide (PySem.W.takesIn K (.builtin "object.__class__") = some true) && (decide (PySem.W.mroIn K C (.type "object") = some true) && decide (PySem.W.kitOne K (.ref C) (.ref C) = some true))))
theorem isiB_ok {K : PySem.W.Frag} {C : Addr} (h : isiB K C = true) : IsiC K C := by
  obtain ⟨h1, h⟩ := He.ba h
  obtain ⟨h2, h⟩ := He.ba h
  obtain ⟨h3, h⟩ := He.ba h
  obtain ⟨h4, h5⟩ := He.ba h
  exact ⟨He.eqO_ok h1, He.eqO_ok h2, of_decide_eq_true h3, of_decide_eq_true h4, of_decide_eq_true h5⟩
theorem IsiC.ty {K : PySem.W.Frag} {C a dx : Addr} {fs : List (Str × V)} {H : Hp} (i : IsiC K C) (cl : Cls K C) (h : H a = some (.ins C dx fs)) : TyX K H (.ref a) (.ref C) := .base (.ins h cl i.c i.g i.t i.m)
theorem SqT.of' {K : PySem.W.Frag} {H : Hp} {a : Addr} {xs : List V} (h : H a = some (.tup xs)) : SqT K H a xs := SqT.of h
/-- what was tracked is as it was -/
theorem ext_upd {H : Hp} {p : Addr} {o : HO} (h : H p = none) : Ext H (upd H p o) := Ext.upd h
theorem Ext.same {H H' : Hp} (e : Ext H H') : Same H H' := e
theorem Ext.free {H H' : Hp} (e : Ext H H') {l : Addr} (h : H' l = none) : H l = none := Same.free e h
end Ow

/-! sets of keys as functions; their lists -/
namespace Ow
open PySem PySem.Spec PyProof.Rows L2
/-- the keys of S from 0 to 15, ascending -/
def ks (S : Int → Bool) : List Int := ((List.range 16).map fun n : Nat => (n : Int)).filter S
theorem mem_ks {S : Int → Bool} {k : Int} : k ∈ ks S ↔ (0 ≤ k ∧ k < 16) ∧ S k = true := by
  unfold ks
  rw [List.mem_filter, List.mem_map]
  constructor
  · rintro ⟨⟨n, hn, rfl⟩, h⟩
    have := List.mem_range.mp hn
    exact ⟨⟨by omega, by omega⟩, h⟩
  · rintro ⟨⟨h0, h1⟩, h⟩
    exact ⟨⟨k.toNat, List.mem_range.mpr (by omega), by omega⟩, h⟩
theorem up_sorted (n : Nat) : ((List.range n).map fun n : Nat => (n : Int)).Pairwise (· < ·) := by
  rw [List.pairwise_map]
  exact List.Pairwise.imp (fun h => by omega) List.pairwise_lt_range
theorem ks_sorted (S : Int → Bool) : (ks S).Pairwise (· < ·) := (up_sorted 16).filter _
theorem ks_len (S : Int → Bool) : (ks S).length ≤ 16 := by
  unfold ks
  exact Nat.le_trans (List.length_filter_le _ _) (by simp)
theorem ks_congr {S T : Int → Bool} (h : ∀ k, 0 ≤ k → k < 16 → S k = T k) : ks S = ks T := by
  unfold ks
  refine List.filter_congr fun k hk => ?_
  obtain ⟨n, hn, rfl⟩ := List.mem_map.mp hk
  have := List.mem_range.mp hn
  exact h _ (by omega) (by omega)
theorem ks_inj {S T : Int → Bool} (h : ks S = ks T) (k : Int) (h0 : 0 ≤ k) (h1 : k < 16) : S k = T k := by
  have a := mem_ks (S := S) (k := k)
  have b := mem_ks (S := T) (k := k)
  rw [h] at a
  have c := a.symm.trans b
  cases hS : S k <;> cases hT : T k <;> simp_all
/-- a strictly ascending list is told by its members -/
theorem asc_uniq : ∀ {ns ms : List Int}, ns.Pairwise (· < ·) → ms.Pairwise (· < ·) → (∀ k, k ∈ ns ↔ k ∈ ms) → ns = ms
  | [], [], _, _, _ => rfl
  | [], m :: ms, _, _, h => absurd ((h m).mpr List.mem_cons_self) (by simp)
  | n :: ns, [], _, _, h => absurd ((h n).mp List.mem_cons_self) (by simp)
  | n :: ns, m :: ms, hn, hm, h => by
    have ⟨an, hn'⟩ := List.pairwise_cons.mp hn
    have ⟨am, hm'⟩ := List.pairwise_cons.mp hm
    have e : n = m := by
      have h1 := (h n).mp List.mem_cons_self
      have h2 := (h m).mpr List.mem_cons_self
      rcases List.mem_cons.mp h1 with e | e
      · exact e
      · rcases List.mem_cons.mp h2 with e2 | e2
        · exact e2.symm
        · have := am _ e; have := an _ e2; omega
    subst e
    have r : ∀ k, k ∈ ns ↔ k ∈ ms := fun k => by
      constructor
      · intro hk
        have := an _ hk
        rcases List.mem_cons.mp ((h k).mp (List.mem_cons_of_mem _ hk)) with e | e
        · omega
        · exact e
      · intro hk
        have := am _ hk
        rcases List.mem_cons.mp ((h k).mpr (List.mem_cons_of_mem _ hk)) with e | e
        · omega
        · exact e
    rw [asc_uniq hn' hm' r]
theorem ks_uniq {ns : List Int} {S : Int → Bool} (h : ns.Pairwise (· < ·)) (m : ∀ k, k ∈ ns ↔ (0 ≤ k ∧ k < 16) ∧ S k = true) : ns = ks S :=
  asc_uniq h (ks_sorted S) fun k => (m k).trans mem_ks.symm
theorem inV_ints (k : Int) : ∀ ns : List Int, inV (.int k) (ns.map V.int) = decide (k ∈ ns)
  | [] => by simp [inV]
  | n :: ns => by
    have ih := inV_ints k ns
    unfold inV at ih ⊢
    rw [List.map_cons, List.any_cons, ih]
    have e : eqV (.int n) (.int k) = decide (k = n) := by
      by_cases h : k = n
      · subst h; simp [eqV]
      · have : ¬ n = k := fun z => h z.symm
        simp [eqV, h, this]
    rw [e]
    by_cases h : k = n <;> simp [h]
theorem flat_ints : ∀ ns : List Int, (ns.map V.int).all flatV = true
  | [] => rfl
  | n :: ns => by rw [List.map_cons, List.all_cons, flat_ints ns]; rfl
/-- x in xs for ints -/
theorem in_ints {K : PySem.W.Frag} {H : Hp} {a : Addr} {ns : List Int} {k : Int} {neg : Bool} {Q : VK} (h : SqL K H a (ns.map V.int) ∨ SqT K H a (ns.map V.int)) (q : Q (.bl (if neg then !decide (k ∈ ns) else decide (k ∈ ns))) H) : rIn K neg (.int k) (.ref a) H Q :=
  ⟨a, _, rfl, h, rfl, flat_ints ns, by rw [inV_ints]; exact q⟩
/-- the rights S stand at p, an instance of the class at C -/
def RtAt (C : Addr) (H : Hp) (p : Addr) (S : Int → Bool) : Prop := ∃ dx t, H p = some (.ins C dx [("numbers", .ref t)]) ∧ H t = some (.tup ((ks S).map V.int))
theorem RtAt.ext {C p : Addr} {H H' : Hp} {S : Int → Bool} (r : RtAt C H p S) (e : Ext H H') : RtAt C H' p S := let ⟨dx, t, h1, h2⟩ := r; ⟨dx, t, e _ _ h1, e _ _ h2⟩
theorem RtAt.congr {C p : Addr} {H : Hp} {S T : Int → Bool} (r : RtAt C H p S) (h : ∀ k, 0 ≤ k → k < 16 → S k = T k) : RtAt C H p T := let ⟨dx, t, h1, h2⟩ := r; ⟨dx, t, h1, by rw [← ks_congr h]; exact h2⟩
/-- is_key(number) -/
def spIsKey : Sp := fun vs H Q _ => ∃ n : Int, vs = [.int n] ∧ Q (.bl (decide (0 ≤ n ∧ n ≤ 15))) H
/-- __init__ of rights, no wrong key given -/
def spInit (K : PySem.W.Frag) (C : Addr) : Sp := fun vs H Q _ => ∃ (p dx a : Addr) (ns : List Int), vs = [.ref p, .ref a] ∧ H p = some (.ins C dx []) ∧ (SqL K H a (ns.map V.int) ∨ SqT K H a (ns.map V.int)) ∧ ns.length < 64 ∧ (∀ n ∈ ns, 0 ≤ n ∧ n ≤ 15) ∧
  ∀ H', RtAt C H' p (fun j => decide (j ∈ ns)) → (∀ b o, H b = some o → b ≠ p → H' b = some o) → Q .non H'
/-- Rights(xs) -/
theorem mkRt {K : PySem.W.Frag} {C a : Addr} {H : Hp} {ns : List Int} {Q : VK} {E : XK} (hs : SqL K H a (ns.map V.int) ∨ SqT K H a (ns.map V.int)) (hl : ns.length < 64) (hb : ∀ n ∈ ns, 0 ≤ n ∧ n ≤ 15)
    (k : ∀ x H2, Ext H H2 → H x = none → RtAt C H2 x (fun j => decide (j ∈ ns)) → Q (.ref x) H2) (x dx : Addr) (nx : H x = none) (ndx : H dx = none) (ne : dx ≠ x) :
    spInit K C [.ref x, .ref a] (upd (upd H dx (.own x)) x (.ins C dx [])) (fun v H2 => v = .non ∧ Q (.ref x) H2) E := by
  have e0 : Ext H (upd (upd H dx (.own x)) x (.ins C dx [])) := (Ext.upd ndx).trans (Ext.upd (by rw [upd_ne (Ne.symm ne)]; exact nx))
  refine ⟨x, dx, a, ns, rfl, upd_same, hs.imp (fun h => h.ext e0) (fun h => h.ext e0), hl, hb, fun H' r kp => ⟨rfl, k x H' (fun b o e => kp b o (e0 b o e) (ne_of_none e nx)) nx r⟩⟩
/-- a binary operator of rights, by keys -/
def spBin (C : Addr) (g : Bool → Bool → Bool) : Sp := fun vs H Q _ => ∃ (a b : Addr) (S T : Int → Bool), vs = [.ref a, .ref b] ∧ RtAt C H a S ∧ RtAt C H b T ∧ ∀ x H', Ext H H' → H x = none → RtAt C H' x (fun k => g (S k) (T k)) → Q (.ref x) H'
/-- key in rights -/
def spHas (C : Addr) : Sp := fun vs H Q _ => ∃ (a : Addr) (S : Int → Bool) (k : Int), vs = [.ref a, .int k] ∧ RtAt C H a S ∧ Q (.bl (decide (k ∈ ks S))) H
/-- len(rights) -/
def spLen (C : Addr) : Sp := fun vs H Q _ => ∃ (a : Addr) (S : Int → Bool), vs = [.ref a] ∧ RtAt C H a S ∧ Q (.int ((ks S).length : Nat)) H
/-- rights == rights -/
def spEqR (C : Addr) : Sp := fun vs H Q _ => ∃ (a b : Addr) (S T : Int → Bool), vs = [.ref a, .ref b] ∧ RtAt C H a S ∧ RtAt C H b T ∧ Q (.bl (decide (ks S = ks T))) H
theorem lk1 {f : Str} {v : V} : List.lookup f [(f, v)] = some v := by simp [List.lookup]
theorem few16 {n : Nat} (h : n ≤ 1000) : n ≤ sizeLine := Nat.le_of_lt (small1000 h)
end Ow

/-! the layer's rules with the written part and the world told by letters (a comprehension's block asks for readings that do not hang on its own context) -/
namespace Ow
open PySem PySem.Spec PyProof.Rows L2
def rLenK (K : PySem.W.Frag) : List V → Hp → VK → Prop := fun xs H Q => ∃ x n, xs = [x] ∧ LenV K x H n ∧ Q (.int (n : Nat)) H
def rListK (K : PySem.W.Frag) : List V → Hp → VK → Prop := fun xs H Q => ∃ p ys, xs = [.ref p] ∧ (SqL K H p ys ∨ SqT K H p ys) ∧ ∀ l, H l = none → Q (.ref l) (upd H l (.lst ys))
def rTupleK (K : PySem.W.Frag) : List V → Hp → VK → Prop := fun xs H Q => ∃ p ys, xs = [.ref p] ∧ ((SqL K H p ys ∧ ∀ l, H l = none → Q (.ref l) (upd H l (.tup ys))) ∨ (SqT K H p ys ∧ Q (.ref p) H))
def tTruK (K : PySem.W.Frag) (ta : TE) : TT := fun σ H Q => ta σ H fun x H' => ∃ k, TruV K x H' k ∧ Q k H'
section
variable {X : Cx} {K : PySem.W.Frag} {w : World}
theorem kin (h : X.K = K := by rfl) : OpR X (compareOp .In) (rIn K false) := h ▸ op_in_seq
theorem knotin (h : X.K = K := by rfl) : OpR X (compareOp .NotIn) (rIn K true) := h ▸ op_notIn_seq
theorem kixl (h : X.K = K := by rfl) : IxR X (rIxL K) := h ▸ ix_list
theorem kixt (h : X.K = K := by rfl) : IxR X (rIxT K) := h ▸ ix_tup
theorem ksll (h : X.K = K := by rfl) : SlR X (rSlL K) := h ▸ sl_list
theorem kslt (h : X.K = K := by rfl) : SlR X (rSlT K) := h ▸ sl_tup
theorem klen (h : X.K = K := by rfl) : CallR X (.builtin "len") (rLenK K) := by subst h; exact call_len
theorem klist (h : X.K = K := by rfl) : CallR X (.type "list") (rListK K) := by subst h; exact call_list_of
theorem ktuple (h : X.K = K := by rfl) : CallR X (.type "tuple") (rTupleK K) := by subst h; exact call_tuple_of
theorem kisi (h : X.K = K := by rfl) : CallR X (.builtin "isinstance") (rIsi K) := by subst h; exact call_isi
theorem keqd (hu : X.A.units + 64 < cLine) (h : X.K = K := by rfl) : OpR X (compareOp .Eq) (rEqD K) := by subst h; exact op_eqD hu
theorem kned (hu : X.A.units + 64 < cLine) (h : X.K = K := by rfl) : OpR X (compareOp .NotEq) (rNeD K) := by subst h; exact op_neD hu
theorem kcat (h : X.K = K := by rfl) : OpR X (binaryOp .Add) (rCatA K) := by subst h; exact op_catA
theorem kset (hc : X.calm = true) (h : X.K = K := by rfl) (hw : X.w = w := by rfl) : CallR X (.type "set") (rSetOf K w) := by subst h; subst hw; exact cr_setL hc
theorem ksorted (hc : X.calm = true) (hw : X.w = w := by rfl) : CallR X (.builtin "sorted") (rSortedSet w) := by subst hw; exact cr_sortedSet hc
theorem ksortI (h : X.K = K := by rfl) : CallR X (.builtin "sorted") (rSortedI K) := by subst h; exact cr_sortedI
theorem kpl {tg l : Expr} {tl : TE} (hl : PE X l tl) (h : X.K = K := by rfl) : PI X tg l (iList K tl) := by subst h; exact pi_list hl
theorem kpt {tg l : Expr} {tl : TE} (hl : PE X l tl) (h : X.K = K := by rfl) : PI X tg l (iTup K tl) := by subst h; exact pi_tup hl
theorem kfld {e : Expr} {f : Str} {pos : Pos} {ta : TE} (he : PE X e ta) (hb : attributeBase e f X.env (eval e X.env) = eval e X.env := by rfl) (h : X.K = K := by rfl) : PE X (.Attribute e f pos) (tFld K ta f) := by subst h; exact pe_fld he hb
theorem ktru {a : Expr} {ta : TE} (ha : PE X a ta) (he : ∀ whole, isTrue a X.env whole = (do let v ← whole; standAt a.pos; holding [v] (truthy v)) := by intro _; rfl) (h : X.K = K := by rfl) : PT X a (tTruK K ta) := by subst h; exact pt_truth ha he
theorem kbm0 {o : Expr} {to : TE} {name : Str} {apos cpos : Pos} {T id : String} {r : V → List V → Hp → VK → Prop} (pa : PlainAttrs T) (slot : Slot T name id) (hty : typeOf (.builtin id) = pure (.type "method_descriptor")) (hm : MtR X id r) (ho : PE X o to)
    (hbase : attributeBase o name X.env (eval o X.env) = eval o X.env := by rfl) (hline : (apos.endLine == cpos.line) = true := by rfl) (h : X.K = K := by rfl) : PE X (.Call (.Attribute o name apos) [] [] cpos) (tBM0 K T r to) := by
  subst h; exact pe_bm0 pa slot hty hm ho hbase hline
theorem kbm {o e : Expr} {es : List Expr} {to : TE} {t : TA} {name : Str} {apos cpos : Pos} {T id : String} {r : V → List V → Hp → VK → Prop} (pa : PlainAttrs T) (slot : Slot T name id) (hty : typeOf (.builtin id) = pure (.type "method_descriptor")) (hm : MtR X id r) (ho : PE X o to) (ha : PA X (e :: es) t)
    (hbase : attributeBase o name X.env (eval o X.env) = eval o X.env := by rfl)
    (hfew : ((backTo cpos (starEach (e :: es) X.env)).all (fun x => !x.1) && (backToKw cpos (keywordEach [] X.env)).all (fun x => x.1.isSome)
      && decide ((e :: es).length + ([] : List Keyword).length + (if ([] : List Keyword).isEmpty then 0 else 1) < 30)) = true := by rfl)
    (hline : (apos.endLine == cpos.line) = true := by rfl) (hs : starEach (e :: es) X.env = (false, eval e X.env) :: starEach es X.env := by rfl) (hplain : (backTo cpos (starEach es X.env)).any (·.1) = false := by rfl) (h : X.K = K := by rfl) :
    PE X (.Call (.Attribute o name apos) (e :: es) [] cpos) (tBM K T r to t) := by
  subst h; exact pe_bm pa slot hty hm ho ha hbase hfew hline hs hplain
end
end Ow
namespace Ow
open PySem PySem.Spec PyProof.Rows L2
section
variable {X : Cx} {K : PySem.W.Frag} {w : World}
theorem ksum (hc : X.calm = true) (h : X.K = K := by rfl) : CallR X (.builtin "sum") (rSum K) := by subst h; exact cr_sum hc
theorem kany (hc : X.calm = true) (h : X.K = K := by rfl) : CallR X (.builtin "any") (rAny K) := by subst h; exact cr_any hc
theorem kall (hc : X.calm = true) (h : X.K = K := by rfl) : CallR X (.builtin "all") (rAll K) := by subst h; exact cr_all hc
theorem kgtup {es : List Expr} {k : Nat} {t : TGs} {n : Nat} {pos : Pos} (hc : X.calm = true) (hs : PGs X es t) (hn : (assignEach es X.env).length = n := by rfl) (hst : (assignEach es X.env).findIdx? (·.1) = none := by rfl) (h : X.K = K := by rfl) : PG X (.Tuple es k pos) (gTup K n t) := by subst h; exact pg_tup hc hs hn hst
end
end Ow

/-! comprehensions whose turns leave the heap as it is: [h x for x in xs if f x] over a list, a tuple, a range -/
namespace Ow
open PySem PySem.Spec PyProof.Rows L2
theorem wipe_back (σ : L2.St) (i : Nat) (x : Option V) : wipe ((wipe σ [i]).set i x) [i] = wipe σ [i] := by
  show ((σ.set i none).set i x).set i none = σ.set i none
  rw [List.set_set, List.set_set]
section
variable {K : PySem.W.Frag} {i D a : Addr} {σ : L2.St} {H : Hp} {tt : TT} {te : TE} {Qd : Hp → Prop}
/-- the list made behind the first j items -/
def outOf {α : Type} (L : List α) (f : α → Bool) (hv : α → V) (j : Nat) : List V := ((L.take j).filter f).map hv
theorem outOf_len {α : Type} {L : List α} {f : α → Bool} {hv : α → V} {j : Nat} (h : L.length ≤ 1000) : (outOf L f hv j).length < sizeLine := by
  unfold outOf
  rw [List.length_map]
  exact small1000 (Nat.le_trans (List.length_filter_le _ _) (Nat.le_trans (by rw [List.length_take]; omega) h))
theorem outOf_yes {α : Type} {L : List α} {f : α → Bool} {hv : α → V} {j : Nat} {z : α} (h : L[j]? = some z) (c : f z = true) : outOf L f hv (j + 1) = outOf L f hv j ++ [hv z] := by
  unfold outOf
  rw [List.take_add_one, h, List.filter_append, List.map_append]
  simp [c]
theorem outOf_no {α : Type} {L : List α} {f : α → Bool} {hv : α → V} {j : Nat} {z : α} (h : L[j]? = some z) (c : f z = false) : outOf L f hv (j + 1) = outOf L f hv j := by
  unfold outOf
  rw [List.take_add_one, h, List.filter_append]
  simp [c]
theorem outOf_all {α : Type} (L : List α) (f : α → Bool) (hv : α → V) : outOf L f hv L.length = (L.filter f).map hv := by
  unfold outOf
  rw [List.take_length]
/-- one turn -/
theorem turnF {α : Type} {L : List α} {f : α → Bool} {hv vv : α → V} {j : Nat} {z : α} (hD : H D = none) (hl : L.length ≤ 1000) (hz : L[j]? = some z)
    (ht : ∀ (z : α) (H' : Hp) (R : Bool → Hp → Prop), z ∈ L → Ext H H' → R (f z) H' → tt ((wipe σ [i]).set i (some (vv z))) H' R)
    (he : ∀ (z : α) (H' : Hp) (R : VK), z ∈ L → Ext H H' → R (hv z) H' → te ((wipe σ [i]).set i (some (vv z))) H' R) :
    gName i (vv z) (wipe σ [i]) (upd H D (.lst (outOf L f hv j))) fun σ2 H2 => wipe σ2 [i] = wipe σ [i] ∧ tt σ2 H2 fun b H3 =>
      if b = true then te σ2 H3 fun y H4 => ∃ acc, H4 D = some (.lst acc) ∧ acc.length < sizeLine ∧ upd H4 D (.lst (acc ++ [y])) = upd H D (.lst (outOf L f hv (j + 1))) else H3 = upd H D (.lst (outOf L f hv (j + 1))) := by
  have hm := List.mem_of_getElem? hz
  refine ⟨wipe_back σ i _, ht z _ _ hm (Ext.upd hD) ?_⟩
  cases c : f z with
  | true =>
    refine iteT (he z _ _ hm (Ext.upd hD) ⟨_, upd_same, outOf_len hl, ?_⟩)
    rw [upd_upd, outOf_yes hz c]
  | false =>
    refine iteF ?_
    rw [outOf_no hz c]
theorem mapGet {α : Type} {L : List α} {vv : α → V} {j : Nat} {y : V} (h : (L.map vv)[j]? = some y) : ∃ z, L[j]? = some z ∧ y = vv z := by
  rw [List.getElem?_map] at h
  cases e : L[j]? with
  | none => rw [e] at h; cases h
  | some z => rw [e] at h; exact ⟨z, rfl, (Option.some.inj h).symm⟩
theorem compT {α : Type} (L : List α) (vv : α → V) (f : α → Bool) (hv : α → V) (hs : SqT K H a (L.map vv)) (hD : H D = none) (hl : L.length ≤ 1000)
    (ht : ∀ (z : α) (H' : Hp) (R : Bool → Hp → Prop), z ∈ L → Ext H H' → R (f z) H' → tt ((wipe σ [i]).set i (some (vv z))) H' R)
    (he : ∀ (z : α) (H' : Hp) (R : VK), z ∈ L → Ext H H' → R (hv z) H' → te ((wipe σ [i]).set i (some (vv z))) H' R) (q : Qd (upd H D (.lst ((L.filter f).map hv)))) :
    ∃ W : Nat → Nat → Hp → Prop, (∃ m, W 0 m (upd H D (.lst []))) ∧ ∀ j m H, W j m H →
      ((Itt K a).stop j H ∧ Qd H) ∨ ((Itt K a).go j H ∧ ∃ Nx : Hp → Prop, (∀ H', Nx H' → ∃ m', m' < m ∧ W (j + 1) m' H') ∧ ∀ x H', (Itt K a).yld j H x H' → gName i x (wipe σ [i]) H' fun σ2 H2 => wipe σ2 [i] = wipe σ [i] ∧ tt σ2 H2 fun b H3 =>
        if b = true then te σ2 H3 fun y H4 => ∃ acc, H4 D = some (.lst acc) ∧ acc.length < sizeLine ∧ Nx (upd H4 D (.lst (acc ++ [y]))) else Nx H3) := by
  refine lc_tup (K := K) (a := a) (xs := L.map vv) (fun j H' => H' = upd H D (.lst (outOf L f hv j))) rfl (fun j H' _ e => by rw [e]; exact hs.ext (Ext.upd hD)) ?_ ?_
  · rintro j y H' hj rfl
    obtain ⟨z, hz, rfl⟩ := mapGet hj
    exact turnF hD hl hz ht he
  · rintro H' rfl
    rw [List.length_map, outOf_all]
    exact q
theorem compL {α : Type} (L : List α) (vv : α → V) (f : α → Bool) (hv : α → V) (hs : SqL K H a (L.map vv)) (hD : H D = none) (hl : L.length ≤ 1000)
    (ht : ∀ (z : α) (H' : Hp) (R : Bool → Hp → Prop), z ∈ L → Ext H H' → R (f z) H' → tt ((wipe σ [i]).set i (some (vv z))) H' R)
    (he : ∀ (z : α) (H' : Hp) (R : VK), z ∈ L → Ext H H' → R (hv z) H' → te ((wipe σ [i]).set i (some (vv z))) H' R) (q : Qd (upd H D (.lst ((L.filter f).map hv)))) :
    ∃ W : Nat → Nat → Hp → Prop, (∃ m, W 0 m (upd H D (.lst []))) ∧ ∀ j m H, W j m H →
      ((Itl K a).stop j H ∧ Qd H) ∨ ((Itl K a).go j H ∧ ∃ Nx : Hp → Prop, (∀ H', Nx H' → ∃ m', m' < m ∧ W (j + 1) m' H') ∧ ∀ x H', (Itl K a).yld j H x H' → gName i x (wipe σ [i]) H' fun σ2 H2 => wipe σ2 [i] = wipe σ [i] ∧ tt σ2 H2 fun b H3 =>
        if b = true then te σ2 H3 fun y H4 => ∃ acc, H4 D = some (.lst acc) ∧ acc.length < sizeLine ∧ Nx (upd H4 D (.lst (acc ++ [y]))) else Nx H3) := by
  refine lc_list (K := K) (a := a) (xs := L.map vv) (fun j H' => H' = upd H D (.lst (outOf L f hv j))) rfl (fun j H' _ e => by rw [e]; exact hs.ext (Ext.upd hD)) ?_ ?_
  · rintro j y H' hj rfl
    obtain ⟨z, hz, rfl⟩ := mapGet hj
    exact turnF hD hl hz ht he
  · rintro H' rfl
    rw [List.length_map, outOf_all]
    exact q
/-- lo, lo + 1, .. -/
def upL (lo : Int) (n : Nat) : List Int := (List.range n).map fun j : Nat => lo + (j : Int)
theorem upL_at {lo : Int} {n j : Nat} (h : j < n) : (upL lo n)[j]? = some (lo + (j : Int)) := by
  unfold upL
  rw [List.getElem?_map, List.getElem?_range h]
  rfl
theorem upL_len (lo : Int) (n : Nat) : (upL lo n).length = n := by simp [upL]
theorem compR (lo : Int) (n : Nat) (f : Int → Bool) (hv : Int → V) (hD : H D = none) (hl : n ≤ 1000)
    (ht : ∀ (z : Int) (H' : Hp) (R : Bool → Hp → Prop), z ∈ upL lo n → Ext H H' → R (f z) H' → tt ((wipe σ [i]).set i (some (.int z))) H' R)
    (he : ∀ (z : Int) (H' : Hp) (R : VK), z ∈ upL lo n → Ext H H' → R (hv z) H' → te ((wipe σ [i]).set i (some (.int z))) H' R) (q : Qd (upd H D (.lst (((upL lo n).filter f).map hv)))) :
    ∃ W : Nat → Nat → Hp → Prop, (∃ m, W 0 m (upd H D (.lst []))) ∧ ∀ j m H, W j m H →
      ((Itr lo n).stop j H ∧ Qd H) ∨ ((Itr lo n).go j H ∧ ∃ Nx : Hp → Prop, (∀ H', Nx H' → ∃ m', m' < m ∧ W (j + 1) m' H') ∧ ∀ x H', (Itr lo n).yld j H x H' → gName i x (wipe σ [i]) H' fun σ2 H2 => wipe σ2 [i] = wipe σ [i] ∧ tt σ2 H2 fun b H3 =>
        if b = true then te σ2 H3 fun y H4 => ∃ acc, H4 D = some (.lst acc) ∧ acc.length < sizeLine ∧ Nx (upd H4 D (.lst (acc ++ [y]))) else Nx H3) := by
  refine lc_range (lo := lo) (n := n) (fun j H' => H' = upd H D (.lst (outOf (upL lo n) f hv j))) rfl ?_ ?_
  · rintro j H' hj rfl
    exact turnF (vv := V.int) hD (by rw [upL_len]; exact hl) (upL_at hj) ht he
  · rintro H' rfl
    have e := outOf_all (upL lo n) f hv
    rw [upL_len] at e
    rw [e]
    exact q
theorem noTest {i : Nat} {σ : L2.St} {H : Hp} {α : Type} {vv : α → V} {L : List α} : ∀ (z : α) (H' : Hp) (R : Bool → Hp → Prop), z ∈ L → Ext H H' → R ((fun _ => true) z) H' → tYes ((wipe σ [i]).set i (some (vv z))) H' R := fun _ _ _ _ _ q => q
theorem filterAll {α : Type} (L : List α) : L.filter (fun _ => true) = L := List.filter_eq_self.mpr fun _ _ => rfl
end
theorem pz {j : Int} (h : 0 < j) : 0 < j := h
theorem Paired.at {α β : Type} {F : α → β → Prop} : ∀ {xs : List α} {ys : List β} {i : Nat} {x : α}, Paired F xs ys → xs[i]? = some x → ∃ y, ys[i]? = some y ∧ F x y
  | _, _, _, _, .nil, e => by simp at e
  | _, _, 0, _, .cons r _, e => by simp at e; subst e; exact ⟨_, rfl, r⟩
  | _, _, i + 1, x, .cons _ t, e => by
    obtain ⟨u, h1, h2⟩ := Paired.at (i := i) (x := x) t (by simpa using e)
    exact ⟨u, by simpa using h1, h2⟩
/-- rights stay where a list is written -/
theorem RtAt.put {C p l : Addr} {H : Hp} {S : Int → Bool} {xs ys : List V} (r : RtAt C H p S) (h : H l = some (.lst xs)) : RtAt C (upd H l (.lst ys)) p S := by
  obtain ⟨dx, t, h1, h2⟩ := r
  exact ⟨dx, t, by rw [upd_ne (ne_of h1 h (by intro z; cases z))]; exact h1, by rw [upd_ne (ne_of h2 h (by intro z; cases z))]; exact h2⟩
/-- a list of ints is no list that begins with an object -/
theorem ints_refs {ns : List Int} {a : Addr} {r : List V} (h : HO.lst (ns.map V.int) = HO.lst (.ref a :: r)) : False := by
  injection h with h
  cases ns with
  | nil => cases h
  | cons n ns => injection h with h _; cases h
theorem RtAt.ob {C p : Addr} {H : Hp} {S : Int → Bool} (r : RtAt C H p S) : ∃ dx fs, H p = some (.ins C dx fs) := let ⟨dx, _, h, _⟩ := r; ⟨dx, _, h⟩
/-- a op b of two rights -/
theorem rtBin {C a b : Addr} {H : Hp} {S T : Int → Bool} {g : Bool → Bool → Bool} {Q : VK} {E : XK} (ra : RtAt C H a S) (rb : RtAt C H b T) (k : ∀ x H', Ext H H' → H x = none → RtAt C H' x (fun k => g (S k) (T k)) → Q (.ref x) H') : rOwn C (spBin C g) E (.ref a) (.ref b) H Q := by
  obtain ⟨dx, fs, ha⟩ := ra.ob
  obtain ⟨dy, gs, hb⟩ := rb.ob
  exact ⟨a, b, dx, dy, fs, gs, rfl, rfl, ha, hb, a, b, S, T, rfl, ra, rb, k⟩
theorem rtEq {C a b : Addr} {H : Hp} {S T : Int → Bool} {Q : VK} {E : XK} (ra : RtAt C H a S) (rb : RtAt C H b T) (k : Q (.bl (decide (ks S = ks T))) H) : rOwnEq C (spEqR C) E (.ref a) (.ref b) H Q := by
  obtain ⟨dx, fs, ha⟩ := ra.ob
  obtain ⟨dy, gs, hb⟩ := rb.ob
  exact ⟨a, b, dx, dy, fs, gs, rfl, rfl, ha, hb, a, b, S, T, rfl, ra, rb, k⟩
/-- Rights(xs), the new object at x -/
theorem mkRx {K : PySem.W.Frag} {C a : Addr} {H : Hp} {ns : List Int} {R : VK} {E : XK} (hs : SqL K H a (ns.map V.int) ∨ SqT K H a (ns.map V.int)) (hl : ns.length < 64) (hb : ∀ n ∈ ns, 0 ≤ n ∧ n ≤ 15) {x dx : Addr} (nx : H x = none) (ndx : H dx = none) (ne : dx ≠ x)
    (k : ∀ H2, Ext H H2 → RtAt C H2 x (fun j => decide (j ∈ ns)) → R .non H2) : spInit K C [.ref x, .ref a] (upd (upd H dx (.own x)) x (.ins C dx [])) R E := by
  have e0 : Ext H (upd (upd H dx (.own x)) x (.ins C dx [])) := (Ext.upd ndx).trans (Ext.upd (by rw [upd_ne (Ne.symm ne)]; exact nx))
  exact ⟨x, dx, a, ns, rfl, upd_same, hs.imp (fun h => h.ext e0) (fun h => h.ext e0), hl, hb, fun H' r kp => k H' (fun b o e => kp b o (e0 b o e) (ne_of_none e nx)) r⟩
/-- tuple(sorted(set(xs))) of a list of keys -/
theorem sortedSet {K : PySem.W.Frag} {w : World} {H : Hp} {a : Addr} {ns : List Int} {Q : VK} (hs : SqL K H a (ns.map V.int)) (hl : ns.length < 64) (hb : ∀ n ∈ ns, 0 ≤ n ∧ n ≤ 15)
    (k : ∀ t H', Ext H H' → SqT K H' t ((ks fun j => decide (j ∈ ns)).map V.int) → Q (.ref t) H') : rSetOf K w [.ref a] H fun x H1 => rSortedSet w [x] H1 fun y H2 => rTupleK K [y] H2 Q := by
  refine ⟨a, ns, rfl, .inl hs, by omega, fun q c hq hc => ⟨q, _, _, rfl, upd_same, by omega, fun ms m hso hmem hlen hm => ⟨m, _, rfl, .inl ⟨SqL.of upd_same, fun t ht => ?_⟩⟩⟩⟩
  have em : ms = ks fun j => decide (j ∈ ns) := ks_uniq hso fun j => by
    rw [hmem j]
    constructor
    · intro z
      have := hb j (of_decide_eq_true z)
      exact ⟨⟨this.1, by omega⟩, z⟩
    · exact fun z => z.2
  refine k t _ ((Ext.upd hq).trans ((Ext.upd hm).trans (Ext.upd ht))) ?_
  rw [← em]
  exact SqT.of upd_same
theorem sortedKs {ns ms : List Int} (hso : ms.Pairwise (· < ·)) (hmem : ∀ k : Int, k ∈ ms ↔ decide (k ∈ ns) = true) (hb : ∀ n ∈ ns, 0 ≤ n ∧ n ≤ 15) : ms = ks fun j => decide (j ∈ ns) := ks_uniq hso fun j => by
  rw [hmem j]
  constructor
  · intro z
    have := hb j (of_decide_eq_true z)
    exact ⟨⟨this.1, by omega⟩, z⟩
  · exact fun z => z.2
end Ow

/-! the laws' draws: a state in a list -/
namespace Ow
open PySem PySem.Spec PyProof.Rows L2
/-- the state of the draws at st: the script's copy at c, at most b draws made -/
def StAt (H : Hp) (st c : Addr) (b : Nat) : Prop := ∃ (i cur n : Int) (ns : List Int), H st = some (.lst [.ref c, .int i, .int cur, .int n]) ∧ H c = some (.lst (ns.map V.int)) ∧ 1 ≤ i ∧ 0 ≤ n ∧ n ≤ (b : Int)
/-- all but the state is as it was -/
def Keep (st : Addr) (H H' : Hp) : Prop := ∀ x o, x ≠ st → H x = some o → H' x = some o
theorem Keep.rfl' {st : Addr} {H : Hp} : Keep st H H := fun _ _ _ h => h
theorem Keep.trans {st : Addr} {H H1 H2 : Hp} (a : Keep st H H1) (b : Keep st H1 H2) : Keep st H H2 := fun x o n h => b x o n (a x o n h)
theorem Keep.of {st : Addr} {H H' : Hp} (e : Ext H H') : Keep st H H' := fun x o _ h => e x o h
theorem Keep.upd {st p : Addr} {H : Hp} {o : HO} (h : H p = none) : Keep st H (upd H p o) := Keep.of (Ext.upd h)
theorem StAt.ext {H H' : Hp} {st c : Addr} {b : Nat} (s : StAt H st c b) (e : Ext H H') : StAt H' st c b := let ⟨i, cur, n, ns, h1, h2, r⟩ := s; ⟨i, cur, n, ns, e _ _ h1, e _ _ h2, r⟩
theorem StAt.mono {H : Hp} {st c : Addr} {b b' : Nat} (s : StAt H st c b) (h : b ≤ b') : StAt H st c b' := let ⟨i, cur, n, ns, h1, h2, h3, h4, h5⟩ := s; ⟨i, cur, n, ns, h1, h2, h3, h4, by omega⟩
theorem StAt.here {H : Hp} {st c : Addr} {b : Nat} (s : StAt H st c b) : ∃ o, H st = some o := let ⟨_, _, _, _, h, _⟩ := s; ⟨_, h⟩
theorem Keep.free {st c : Addr} {b : Nat} {H H' : Hp} (k : Keep st H H') (s : StAt H' st c b) {x : Addr} (h : H' x = none) : H x = none := by
  by_cases e : x = st
  · subst e
    obtain ⟨o, ho⟩ := s.here
    rw [ho] at h; cases h
  · cases q : H x with
    | none => rfl
    | some o => rw [k x o e q] at h; cases h
/-- a list of ints is not the state -/
theorem StAt.ints {H : Hp} {st c a : Addr} {b : Nat} {ns : List Int} (s : StAt H st c b) (h : H a = some (.lst (ns.map V.int))) : a ≠ st := by
  obtain ⟨i, cur, n, ms, h1, _⟩ := s
  exact ne_of h h1 fun z => ints_refs z
theorem RtAt.keep {C p st c : Addr} {b : Nat} {H H' : Hp} {S : Int → Bool} (r : RtAt C H p S) (s : StAt H st c b) (k : Keep st H H') : RtAt C H' p S := by
  obtain ⟨dx, t, h1, h2⟩ := r
  obtain ⟨i, cur, n, ms, hs, _⟩ := s
  exact ⟨dx, t, k _ _ (ne_of h1 hs (by intro z; cases z)) h1, k _ _ (ne_of h2 hs (by intro z; cases z)) h2⟩
theorem SqL.keep {K : PySem.W.Frag} {H H' : Hp} {st a : Addr} {xs : List V} (h : SqL K H a xs) (n : a ≠ st) (k : Keep st H H') : SqL K H' a xs := by
  rcases h with (h | ⟨o, h⟩) | h
  · exact .inl (.inl (k _ _ n h))
  · exact .inl (.inr ⟨o, k _ _ n h⟩)
  · exact .inr h
def spStart (K : PySem.W.Frag) : Sp := fun vs H Q _ => ∃ (a : Addr) (ns : List Int), vs = [.ref a] ∧ SqL K H a (ns.map V.int) ∧ ns.length ≤ 63 ∧ ∀ st c H', Ext H H' → H st = none → H c = none → StAt H' st c 0 → Q (.ref st) H'
def spDraw : Sp := fun vs H Q _ => ∃ (st c : Addr) (b : Nat) (m : Int), vs = [.ref st, .int m] ∧ StAt H st c b ∧ b ≤ 1000000 ∧ 0 < m ∧ m < 1073741824 ∧ ∀ (d : Int) (H' : Hp), 0 ≤ d → d < m → StAt H' st c (b + 1) → Keep st H H' → Q (.int d) H'
def spSome : Sp := fun vs H Q _ => ∃ (st c : Addr) (b : Nat) (m : Int), vs = [.ref st, .int m] ∧ StAt H st c b ∧ b ≤ 900000 ∧ 0 ≤ m ∧ m ≤ 40 ∧
  ∀ (p : Addr) (ns : List Int) (H' : Hp), (ns.length : Int) ≤ m → (∀ n ∈ ns, 0 ≤ n ∧ n ≤ 15) → StAt H' st c (b + 41) → Keep st H H' → H p = none → H' p = some (.lst (ns.map V.int)) → Q (.ref p) H'
end Ow

/-! small readings: or, and, != of truth values; key in rights; comprehensions that lay a list a turn -/
namespace Ow
open PySem PySem.Spec PyProof.Rows L2
section
variable {σ : L2.St} {H : Hp} {Q : VK} {i j : Nat} {a b : Bool}
theorem orV (hi : σ[i]? = some (some (.bl a))) (hj : σ[j]? = some (some (.bl b))) (q : Q (.bl (a || b)) H) : tOrV (tVar i) (tVar j) σ H Q := by
  refine ⟨_, hi, a, rfl, ?_⟩
  cases a with
  | true => exact iteT q
  | false => exact iteF ⟨_, hj, q⟩
theorem andV (hi : σ[i]? = some (some (.bl a))) (hj : σ[j]? = some (some (.bl b))) (q : Q (.bl (a && b)) H) : tAndV (tVar i) (tVar j) σ H Q := by
  refine ⟨_, hi, a, rfl, ?_⟩
  cases a with
  | false => exact iteF q
  | true => exact iteT ⟨_, hj, q⟩
theorem andNotV (hi : σ[i]? = some (some (.bl a))) (hj : σ[j]? = some (some (.bl b))) (q : Q (.bl (a && !b)) H) : tAndV (tVar i) (tNotV (tVar j)) σ H Q := by
  refine ⟨_, hi, a, rfl, ?_⟩
  cases a with
  | false => exact iteF q
  | true => exact iteT ⟨_, hj, b, rfl, q⟩
theorem neB (q : Q (.bl (a != b)) H) : rNe (.bl a) (.bl b) H Q := by
  refine ⟨rfl, ?_⟩
  have e : (!decide (V.bl a = V.bl b)) = (a != b) := by cases a <;> cases b <;> simp
  rw [e]
  exact q
end
theorem neSame {a b : Bool} (h : a = b) : (a != b) = false := by subst h; cases a <;> rfl
theorem has_ks {S : Int → Bool} {k : Int} (h0 : 0 ≤ k) (h1 : k < 16) : decide (k ∈ ks S) = S k := by rw [Bool.eq_iff_iff, decide_eq_true_iff, mem_ks]; simp [h0, h1]
theorem rtIn {C b : Addr} {H : Hp} {S : Int → Bool} {k : Int} {neg : Bool} {Q : VK} {E : XK} (r : RtAt C H b S) (q : Q (.bl (if neg then !decide (k ∈ ks S) else decide (k ∈ ks S))) H) : rOwnIn C neg (spHas C) E (.int k) (.ref b) H Q := by
  obtain ⟨dx, fs, hb⟩ := r.ob
  exact ⟨b, dx, fs, rfl, hb, b, S, k, rfl, r, _, rfl, q⟩
/-- the rights' within -/
def wi (S T : Int → Bool) : Bool := (ks S).all fun k => decide (k ∈ ks T)
def spWithin (C : Addr) : Sp := fun vs H Q _ => ∃ (a b : Addr) (S T : Int → Bool), vs = [.ref a, .ref b] ∧ RtAt C H a S ∧ RtAt C H b T ∧ ∀ H', Ext H H' → Q (.bl (wi S T)) H'
theorem wi_iff {S T : Int → Bool} : wi S T = true ↔ ∀ k, 0 ≤ k → k < 16 → S k = true → T k = true := by
  unfold wi
  rw [List.all_eq_true]
  constructor
  · intro h k h0 h1 hk
    have := h k (mem_ks.mpr ⟨⟨h0, h1⟩, hk⟩)
    exact (mem_ks.mp (of_decide_eq_true this)).2
  · intro h k hk
    obtain ⟨⟨h0, h1⟩, z⟩ := mem_ks.mp hk
    exact decide_eq_true (mem_ks.mpr ⟨⟨h0, h1⟩, h k h0 h1 z⟩)
/-- an empty tuple of the written part -/
def emptyT (K : PySem.W.Frag) (a : Addr) : Bool := match K.lookup a with
  | some ⟨.type c, _, .seq its _, _⟩ => decide (c = "tuple") && its.isEmpty
  | _ => false
theorem emptyT_ok {K : PySem.W.Frag} {a : Addr} (h : emptyT K a = true) (H : Hp) : SqT K H a [] := by
  unfold emptyT at h
  cases q : K.lookup a with
  | none => rw [q] at h; cases h
  | some o =>
    obtain ⟨oc, od, dt, sl⟩ := o
    rw [q] at h
    cases oc with
    | type c =>
      cases dt with
      | seq its n =>
        obtain ⟨h1, h2⟩ := He.ba h
        have e : its = #[] := Array.isEmpty_iff.mp h2
        subst e
        exact .inr ⟨_, #[], n, q, congrArg Value.type (of_decide_eq_true h1), rfl, by simp, .nil⟩
      | _ => cases h
    | _ => cases dt <;> cases h
section
variable {K : PySem.W.Frag} {i D a : Addr} {σ : L2.St} {H : Hp} {te : TE} {Qd : Hp → Prop}
/-- lists of ints at the addresses, none of them D -/
def RowsD (G : Hp) (D : Addr) : List V → List (List Int) → Prop := Paired fun v ns => ∃ b, v = V.ref b ∧ b ≠ D ∧ G b = some (.lst (ns.map V.int))
theorem RowsD.rows {G : Hp} {ls : List V} {nss : List (List Int)} (r : RowsD G D ls nss) : Rows K G ls nss := by
  induction r with
  | nil => exact .nil
  | cons h _ ih => obtain ⟨b, rfl, _, hb⟩ := h; exact .cons (.lst (SqL.of hb) (dp_ints _)) ih
theorem compRows {xs : List V} {nss : List (List Int)} (hlen : xs.length = nss.length) (hs : SqL K H a xs) (hD : H D = none) (few : xs.length ≤ 1000)
    (he : ∀ (j : Nat) (x : V) (ns : List Int) (H' : Hp) (R : VK), xs[j]? = some x → nss[j]? = some ns → Ext H H' → (∀ l H4, Ext H' H4 → H' l = none → H4 l = some (.lst (ns.map V.int)) → R (.ref l) H4) → te ((wipe σ [i]).set i (some x)) H' R)
    (q : ∀ G ls, Ext H G → G D = some (.lst ls) → Rows K G ls nss → Qd G) :
    ∃ W : Nat → Nat → Hp → Prop, (∃ m, W 0 m (upd H D (.lst []))) ∧ ∀ j m H, W j m H →
      ((Itl K a).stop j H ∧ Qd H) ∨ ((Itl K a).go j H ∧ ∃ Nx : Hp → Prop, (∀ H', Nx H' → ∃ m', m' < m ∧ W (j + 1) m' H') ∧ ∀ x H', (Itl K a).yld j H x H' → gName i x (wipe σ [i]) H' fun σ2 H2 => wipe σ2 [i] = wipe σ [i] ∧ tYes σ2 H2 fun b H3 =>
        if b = true then te σ2 H3 fun y H4 => ∃ acc, H4 D = some (.lst acc) ∧ acc.length < sizeLine ∧ Nx (upd H4 D (.lst (acc ++ [y]))) else Nx H3) := by
  refine lc_list (K := K) (a := a) (xs := xs) (fun j G => ∃ ls : List V, G D = some (.lst ls) ∧ ls.length = j ∧ Ext H G ∧ RowsD G D ls (nss.take j)) ⟨[], upd_same, rfl, Ext.upd hD, by rw [List.take_zero]; exact .nil⟩ (fun j G _ ⟨_, _, _, e, _⟩ => hs.ext e) ?_ ?_
  · rintro j x G hj ⟨ls, g1, g2, e, pr⟩
    have jl := (List.getElem?_eq_some_iff.mp hj).1
    have hn : nss[j]? = some nss[j] := List.getElem?_eq_getElem (by omega)
    refine ⟨wipe_back σ i _, he j x _ G _ hj hn e fun l H4 e4 nl hl => ?_⟩
    have nDl : D ≠ l := ne_of_none g1 nl
    refine ⟨ls, e4 _ _ g1, small1000 (by omega), ls ++ [.ref l], upd_same, by rw [List.length_append, g2]; rfl, fun b o hb => ?_, ?_⟩
    · rw [upd_ne (ne_of_none hb hD)]
      exact e4 _ _ (e b o hb)
    · have tk : nss.take (j + 1) = nss.take j ++ [nss[j]] := by rw [List.take_add_one, hn]; rfl
      rw [tk]
      exact Paired.snoc (Paired.mapP pr fun v T ⟨b, h1, h2, h3⟩ => ⟨b, h1, h2, by rw [upd_ne h2]; exact e4 _ _ h3⟩) ⟨l, rfl, nDl.symm, by rw [upd_ne nDl.symm]; exact hl⟩
  · rintro G ⟨ls, g1, g2, e, pr⟩
    rw [hlen, List.take_length] at pr
    exact q G ls e g1 pr.rows
end
theorem dp_bools {K : PySem.W.Frag} {H : Hp} : ∀ bs : List Bool, DpAll K H (bs.map V.bl) (bs.map PyData.bool)
  | [] => .nil
  | b :: bs => .cons (.bl b) (dp_bools bs)
theorem eqv_bools : ∀ ns ms : List Bool, PyData.eqvAll (ns.map PyData.bool) (ms.map PyData.bool) = decide (ns = ms)
  | [], [] => by simp [PyData.eqvAll]
  | [], _ :: _ => by simp [PyData.eqvAll]
  | _ :: _, [] => by simp [PyData.eqvAll]
  | n :: ns, m :: ms => by
    simp only [List.map_cons, PyData.eqvAll, eqv_bools ns ms, PyData.eqv]
    by_cases h1 : n = m <;> by_cases h2 : ns = ms <;> simp [h1, h2]
theorem lay_bools : ∀ ns : List Bool, PyData.canLayAll0 (ns.map PyData.bool) = true
  | [] => by simp [PyData.canLayAll0]
  | n :: ns => by simp [PyData.canLayAll0, PyData.canLay0, lay_bools ns]
theorem depth_bools : ∀ ns : List Bool, PyData.depthAll (ns.map PyData.bool) ≤ 1
  | [] => by simp [PyData.depthAll]
  | n :: ns => by
    have := depth_bools ns
    simp [PyData.depthAll, PyData.depth]
    omega
theorem sh_bools (ns : List Bool) : SeqAt.shaped (.list (ns.map PyData.bool)) = true := by
  have := depth_bools ns
  simp [SeqAt.shaped, PyData.canLay0, lay_bools, PyData.depth]
  omega
theorem ned_bools {K : PySem.W.Frag} {H : Hp} {a b : Addr} {ns ms : List Bool} {Q : VK} (ha : SqL K H a (ns.map V.bl)) (hb : SqL K H b (ms.map V.bl)) (q : Q (.bl (!decide (ns = ms))) H) : rNeD K (.ref a) (.ref b) H Q :=
  ⟨_, _, .lst ha (dp_bools ns), .lst hb (dp_bools ms), sh_bools ns, sh_bools ms, by rw [PyData.eqv, eqv_bools]; exact q⟩
end Ow
namespace Ow
open PySem PySem.Spec PyProof.Rows L2
theorem iteFf {c : Bool} {A B : Prop} (hc : c = false) (h : B) : if c = true then A else B := by rw [hc]; exact iteF h
theorem iteTt {c : Bool} {A B : Prop} (hc : c = true) (h : A) : if c = true then A else B := by rw [hc]; exact iteT h
theorem lkW {v : V} : List.lookup ("within" : Str) [(("numbers" : Str), v)] = none := by
  have h : (("within" : Str) == ("numbers" : Str)) = false := by decide +kernel
  simp [List.lookup, h]
theorem notSame {α : Type} [DecidableEq α] {a b : α} (h : a = b) : (!decide (a = b)) = false := by rw [decide_eq_true h]; rfl
theorem up16 (f : Int → Bool) : (upL 0 16).filter f = ks f := by
  have e : upL 0 16 = (List.range 16).map fun n : Nat => (n : Int) := List.map_congr_left fun n _ => by omega
  rw [e]
  rfl
def spTold (C : Addr) : Sp := fun vs H Q _ => ∃ (a : Addr) (S : Int → Bool), vs = [.ref a] ∧ RtAt C H a S ∧ ∀ p, H p = none → Q (.ref p) (upd H p (.lst ((ks S).map V.int)))
/-- all of ns is in ms -/
theorem wi_lists {ns ms : List Int} (hn : ∀ n ∈ ns, 0 ≤ n ∧ n ≤ 15) : wi (fun j => decide (j ∈ ns)) (fun j => decide (j ∈ ms)) = decide (ns.filter (fun z => !decide (z ∈ ms)) = []) := by
  rw [Bool.eq_iff_iff, wi_iff, decide_eq_true_iff, List.filter_eq_nil_iff]
  constructor
  · intro h k hk
    have b := hn k hk
    have := h k b.1 (by omega) (decide_eq_true hk)
    simpa using this
  · intro h k h0 h1 hk
    have := h k (of_decide_eq_true hk)
    simpa using this
theorem wi_refl (S : Int → Bool) : wi S S = true := wi_iff.mpr fun _ _ _ h => h
theorem wi_none (S : Int → Bool) : wi (fun j => decide (j ∈ ([] : List Int))) S = true := wi_iff.mpr fun k _ _ h => by simp at h
theorem wi_eq {S T : Int → Bool} : decide (ks S = ks T) = (wi S T && wi T S) := by
  rw [Bool.eq_iff_iff, decide_eq_true_iff, Bool.and_eq_true, wi_iff, wi_iff]
  constructor
  · intro h
    exact ⟨fun k h0 h1 z => by rw [← ks_inj h k h0 h1]; exact z, fun k h0 h1 z => by rw [ks_inj h k h0 h1]; exact z⟩
  · rintro ⟨h, g⟩
    refine ks_congr fun k h0 h1 => ?_
    have a := h k h0 h1
    have b := g k h0 h1
    cases hS : S k <;> cases hT : T k <;> simp_all
mutual
theorem Dp.ext {K : PySem.W.Frag} {H H' : Hp} (e : Ext H H') : ∀ {d : PyData} {v : V}, Dp K H v d → Dp K H' v d
  | .none, _, .non => .non
  | .bool _, _, .bl b => .bl b
  | .int _, _, .int i => .int i
  | .str _, _, .str x => .str x
  | .list _, _, .lst h a => .lst (h.ext e) (DpAll.ext e a)
  | .tuple _, _, .tup h a => .tup (h.ext e) (DpAll.ext e a)
theorem DpAll.ext {K : PySem.W.Frag} {H H' : Hp} (e : Ext H H') : ∀ {ds : List PyData} {vs : List V}, DpAll K H vs ds → DpAll K H' vs ds
  | [], _, .nil => .nil
  | _ :: _, _, .cons h t => .cons (Dp.ext e h) (DpAll.ext e t)
end
theorem Rows.ext {K : PySem.W.Frag} {H H' : Hp} {ls : List V} {nss : List (List Int)} (r : Rows K H ls nss) (e : Ext H H') : Rows K H' ls nss := DpAll.ext e r
end Ow

namespace K02
open PySem PySem.Spec PyProof.Rows L2 Ow
def top (i : Nat) : Stmt := PySem.Challenge.pw_keysfewest_k02_rights_algebra.main.body.getD i (.Pass ⟨0, 0, 0, 0⟩)
abbrev Sis_key : Stmt := top 6
abbrev SRights_init : Stmt := inClass (top 7) 0
abbrev SRights_within : Stmt := inClass (top 7) 3
abbrev SRights_or : Stmt := inClass (top 7) 4
abbrev SRights_and : Stmt := inClass (top 7) 5
abbrev SRights_sub : Stmt := inClass (top 7) 6
abbrev SRights_xor : Stmt := inClass (top 7) 7
abbrev SRights_contains : Stmt := inClass (top 7) 8
abbrev SRights_len : Stmt := inClass (top 7) 9
abbrev SRights_eq : Stmt := inClass (top 7) 10
abbrev S_law_start : Stmt := top 9
abbrev S_law_draw : Stmt := top 10
abbrev S_law_some : Stmt := top 11
abbrev S_law_told : Stmt := top 12
abbrev Slaw : Stmt := top 13
theorem scis_key : FnScope ["number"] ["number"] (defScope Sis_key) := ⟨rfl, rfl, rfl, by decide +kernel, rfl, by decide +kernel, by decide +kernel⟩
theorem scRights_init : FnScope ["self", "numbers", "given", "number"] ["self", "numbers"] (defScope SRights_init) := ⟨rfl, rfl, rfl, by decide +kernel, rfl, by decide +kernel, by decide +kernel⟩
theorem scRights_within : FnScope ["self", "other", "number"] ["self", "other"] (defScope SRights_within) := ⟨rfl, rfl, rfl, by decide +kernel, rfl, by decide +kernel, by decide +kernel⟩
theorem scRights_or : FnScope ["self", "other"] ["self", "other"] (defScope SRights_or) := ⟨rfl, rfl, rfl, by decide +kernel, rfl, by decide +kernel, by decide +kernel⟩
theorem scRights_and : FnScope ["self", "other", "number"] ["self", "other"] (defScope SRights_and) := ⟨rfl, rfl, rfl, by decide +kernel, rfl, by decide +kernel, by decide +kernel⟩
theorem scRights_sub : FnScope ["self", "other", "number"] ["self", "other"] (defScope SRights_sub) := ⟨rfl, rfl, rfl, by decide +kernel, rfl, by decide +kernel, by decide +kernel⟩
theorem scRights_xor : FnScope ["self", "other", "both", "number"] ["self", "other"] (defScope SRights_xor) := ⟨rfl, rfl, rfl, by decide +kernel, rfl, by decide +kernel, by decide +kernel⟩
theorem scRights_contains : FnScope ["self", "number"] ["self", "number"] (defScope SRights_contains) := ⟨rfl, rfl, rfl, by decide +kernel, rfl, by decide +kernel, by decide +kernel⟩
theorem scRights_len : FnScope ["self"] ["self"] (defScope SRights_len) := ⟨rfl, rfl, rfl, by decide +kernel, rfl, by decide +kernel, by decide +kernel⟩
theorem scRights_eq : FnScope ["self", "other"] ["self", "other"] (defScope SRights_eq) := ⟨rfl, rfl, rfl, by decide +kernel, rfl, by decide +kernel, by decide +kernel⟩
theorem sc_law_start : FnScope ["_law_script", "_law_first"] ["_law_script"] (defScope S_law_start) := ⟨rfl, rfl, rfl, by decide +kernel, rfl, by decide +kernel, by decide +kernel⟩
theorem sc_law_draw : FnScope ["_law_state", "_law_many", "_law_drawn", "_law_seed", "_law_mixed"] ["_law_state", "_law_many"] (defScope S_law_draw) := ⟨rfl, rfl, rfl, by decide +kernel, rfl, by decide +kernel, by decide +kernel⟩
theorem sc_law_some : FnScope ["_law_state", "_law_most", "_law_found", "_law_k"] ["_law_state", "_law_most"] (defScope S_law_some) := ⟨rfl, rfl, rfl, by decide +kernel, rfl, by decide +kernel, by decide +kernel⟩
theorem sc_law_told : FnScope ["_law_rights", "_law_key"] ["_law_rights"] (defScope S_law_told) := ⟨rfl, rfl, rfl, by decide +kernel, rfl, by decide +kernel, by decide +kernel⟩
theorem sclaw : FnScope ["_law_script", "_law_state", "_law_sets", "_law_one", "_law_two", "_law_three", "_law_key", "_law_first", "_law_second", "_law_inside", "_law_outside", "_law_told_here", "_law_k", "_law_numbers", "_law_rights"] ["_law_script"] (defScope Slaw) := ⟨rfl, rfl, rfl, by decide +kernel, rfl, by decide +kernel, by decide +kernel⟩
def dis_key : He.DefD := ⟨("is_key", none), "is_key", "is_key", defArgs Sis_key, defBody Sis_key, defScope Sis_key, [], []⟩
def dRights_init : He.DefD := ⟨("Rights", some "__init__"), "__init__", "Rights.__init__", defArgs SRights_init, defBody SRights_init, defScope SRights_init, [(.adr (He.dflAt ("Rights", some "__init__") 0))], []⟩
def dRights_within : He.DefD := ⟨("Rights", some "within"), "within", "Rights.within", defArgs SRights_within, defBody SRights_within, defScope SRights_within, [], []⟩
def dRights_or : He.DefD := ⟨("Rights", some "__or__"), "__or__", "Rights.__or__", defArgs SRights_or, defBody SRights_or, defScope SRights_or, [], []⟩
def dRights_and : He.DefD := ⟨("Rights", some "__and__"), "__and__", "Rights.__and__", defArgs SRights_and, defBody SRights_and, defScope SRights_and, [], []⟩
def dRights_sub : He.DefD := ⟨("Rights", some "__sub__"), "__sub__", "Rights.__sub__", defArgs SRights_sub, defBody SRights_sub, defScope SRights_sub, [], []⟩
def dRights_xor : He.DefD := ⟨("Rights", some "__xor__"), "__xor__", "Rights.__xor__", defArgs SRights_xor, defBody SRights_xor, defScope SRights_xor, [], []⟩
def dRights_contains : He.DefD := ⟨("Rights", some "__contains__"), "__contains__", "Rights.__contains__", defArgs SRights_contains, defBody SRights_contains, defScope SRights_contains, [], []⟩
def dRights_len : He.DefD := ⟨("Rights", some "__len__"), "__len__", "Rights.__len__", defArgs SRights_len, defBody SRights_len, defScope SRights_len, [], []⟩
def dRights_eq : He.DefD := ⟨("Rights", some "__eq__"), "__eq__", "Rights.__eq__", defArgs SRights_eq, defBody SRights_eq, defScope SRights_eq, [], []⟩
def d_law_start : He.DefD := ⟨("_law_start", none), "_law_start", "_law_start", defArgs S_law_start, defBody S_law_start, defScope S_law_start, [], []⟩
def d_law_draw : He.DefD := ⟨("_law_draw", none), "_law_draw", "_law_draw", defArgs S_law_draw, defBody S_law_draw, defScope S_law_draw, [], []⟩
def d_law_some : He.DefD := ⟨("_law_some", none), "_law_some", "_law_some", defArgs S_law_some, defBody S_law_some, defScope S_law_some, [], []⟩
def d_law_told : He.DefD := ⟨("_law_told", none), "_law_told", "_law_told", defArgs S_law_told, defBody S_law_told, defScope S_law_told, [], []⟩
def dlaw : He.DefD := ⟨("law", none), "law", "law", defArgs Slaw, defBody Slaw, defScope Slaw, [], []⟩
def fn : List He.DefD := [dis_key, dRights_init, dRights_within, dRights_or, dRights_and, dRights_sub, dRights_xor, dRights_contains, dRights_len, dRights_eq, d_law_start, d_law_draw, d_law_some, d_law_told, dlaw]
def fa : List He.Fa := [.glo "is_key", .glo "_law_start", .glo "_law_draw", .glo "_law_some", .glo "_law_told", .glo "law", .glo "Rights", .cls "Rights", .mkr "Rights", .noat "Rights" "numbers", .meth "Rights" "__or__", .meth "Rights" "__and__", .meth "Rights" "__sub__", .meth "Rights" "__xor__", .meth "Rights" "__contains__", .meth "Rights" "__len__", .meth "Rights" "__eq__", .meth "Rights" "within", .int "MOST" 15, .free "all", .free "bool", .free "int", .free "isinstance", .free "len", .free "list", .free "range", .free "set", .free "sorted", .free "tuple"]
def ex : PySem.W.Frag → Bool := fun K => (Ow.isiB K (He.ga K "Rights") && PySem.W.selfFirst K (He.ga K "Rights")) && Ow.emptyT K (He.dflAt ("Rights", some "__init__") 0 K)
def loose : List PySem.Str := ["_wall", "FewError", "BadKey", "MOST", "is_key", "Rights", "_law_start", "_law_draw", "_law_some", "_law_told"]
abbrev R : PySem.W.OpenRow := PySem.W.OpenLaw.row PySem.Challenge.rw_keysfewest_k02_rights_algebra
abbrev hk : PySem.W.Hook := Ow.hookM 6 fa fn ex
def ob (s : PySem.W.SharedT) : He.AlD × Bool := Ow.obsM 6 fa fn ex (HandSHeadRun.getT s)
theorem ob_eq (s : PySem.W.SharedT) : ob s = hk.obs s.abs := Ow.obsM_eq (HandSHeadRun.getT_eq s)
theorem run (w : World) : HandSHeadRun.RunEq R (PySem.W.view R.prog [13]) hk ob 3000 loose w := by
  intro os
  kernel_rfl
structure Txt (K : PySem.W.Frag) (mg : Str → Option Value) : Prop where
  z_all : mg "all" = none
  z_bool : mg "bool" = none
  z_int : mg "int" = none
  z_isinstance : mg "isinstance" = none
  z_len : mg "len" = none
  z_list : mg "list" = none
  z_range : mg "range" = none
  z_set : mg "set" = none
  z_sorted : mg "sorted" = none
  z_tuple : mg "tuple" = none
  g_Rights : mg "Rights" = some (.ref (He.ga K "Rights"))
  cl_Rights : Cls K (He.ga K "Rights")
  mk_Rights : Mk K (He.ga K "Rights") (He.ma K (He.ga K "Rights") "__init__")
  na_Rights_numbers : NoAttr K (He.ga K "Rights") "numbers"
  m_Rights_or : Meth K (He.ga K "Rights") "__or__" (He.ma K (He.ga K "Rights") "__or__")
  m_Rights_and : Meth K (He.ga K "Rights") "__and__" (He.ma K (He.ga K "Rights") "__and__")
  m_Rights_sub : Meth K (He.ga K "Rights") "__sub__" (He.ma K (He.ga K "Rights") "__sub__")
  m_Rights_xor : Meth K (He.ga K "Rights") "__xor__" (He.ma K (He.ga K "Rights") "__xor__")
  m_Rights_contains : Meth K (He.ga K "Rights") "__contains__" (He.ma K (He.ga K "Rights") "__contains__")
  m_Rights_len : Meth K (He.ga K "Rights") "__len__" (He.ma K (He.ga K "Rights") "__len__")
  m_Rights_eq : Meth K (He.ga K "Rights") "__eq__" (He.ma K (He.ga K "Rights") "__eq__")
  m_Rights_within : Meth K (He.ga K "Rights") "within" (He.ma K (He.ga K "Rights") "within")
  c_MOST : ∃ t, mg "MOST" = some (.int 15 t)
  i_Rights : Ow.IsiC K (He.ga K "Rights")
  sf_Rights : PySem.W.selfFirst K (He.ga K "Rights") = true
  e_Rights : ∀ H, SqT K H (He.dflAt ("Rights", some "__init__") 0 K) []
end K02

namespace K02
open PySem PySem.Spec PyProof.Rows L2 Ow
section
variable {P : Program} {w : World} {K : PySem.W.Frag} {mg : Str → Option Value} {base : Heap}
theorem ok_is_key {f : Addr} {fd : FuncData} (F : FunD K "is_key" "is_key" (defArgs Sis_key) (defBody Sis_key) (defScope Sis_key) [] [] f fd) (T : Txt K mg)  : FnOk P w K mg base CX0 1 f fd ["number"] (Ow.spIsKey) := by
  obtain ⟨_, gMOST⟩ := T.c_MOST
  refine F.ok scis_key (fun vs H Q E h => ?_) (fun cdv A outer s H vs Q E hr h => ?_)
  · obtain ⟨n, rfl, _⟩ := h
    rfl
  · obtain ⟨n, rfl, q⟩ := h
    refine ⟨_, PSs.nox (pss_one (ps_ret (pe_chain op_le op_le pe_int (pv 0) (pe_glob (v := .int 15) rfl gMOST ⟨_, rfl⟩)))), ?_⟩
    refine ⟨_, rfl, _, _, rfl, rfl, _, rfl, ?_⟩
    by_cases c : (0 : Int) ≤ n
    · rw [if_pos (by simpa using c)]
      refine ⟨_, _, rfl, rfl, ?_⟩
      have e : decide (n ≤ 15) = decide (0 ≤ n ∧ n ≤ 15) := by simp [c]
      show Q (.bl (decide (n ≤ 15))) H
      rw [e]
      exact q
    · rw [if_neg (by simpa using c)]
      have e : false = decide (0 ≤ n ∧ n ≤ 15) := by simp [c]
      rw [e]
      exact q

theorem ok_Rights_init {f : Addr} {fd : FuncData} (F : FunD K "__init__" "Rights.__init__" (defArgs SRights_init) (defBody SRights_init) (defScope SRights_init) [He.Dv.v K (.adr (He.dflAt ("Rights", some "__init__") 0))] [] f fd) (T : Txt K mg) (Gis_key : Ow.Glob P w K mg base CX0 1 "is_key" ["number"] Ow.spIsKey) : FnOk P w K mg base CX0 2 f fd ["self", "numbers"] (Ow.spInit K (He.ga K "Rights")) := by
  refine F.ok scRights_init (fun vs H Q E h => ?_) (fun cdv A outer s H vs Q E hr h => ?_)
  · obtain ⟨p, dx, a, ns, rfl, _⟩ := h
    rfl
  · obtain ⟨p, dx, a, ns, rfl, hp, hs, hl, hb, k⟩ := h
    refine ⟨_, PSs.nox (pss_cons (ps_set (i := 2) scRights_init.nd rfl (by first | exact Or.inl rfl | exact Or.inr rfl) (pe_callTy (klist (K := K)) (by rfl) T.z_list (by decide +kernel) (pa_cons (pv 1) pa_nil)))
      (pss_cons (ps_for PassesOwn.never rfl (kpl (K := K) (pv 2)) (pg_name (i := 3) scRights_init.nd rfl (by first | exact Or.inl rfl | exact Or.inr rfl))
       (pss_one (ps_if (pt_not (pt_val (pe_g Gis_key (hr.mono (by decide)) pass0 (pa_cons (pv 3) pa_nil)))) (pss_one (ps_never)) pss_nil)))
      (pss_one (ps_fld (pv 0) (pe_callTy (ktuple (K := K)) (by rfl) T.z_tuple (by decide +kernel) (pa_cons (pe_callB (ksorted (w := w) rfl) (by rfl) T.z_sorted (by decide +kernel) (pa_cons (pe_callTy (kset (K := K) (w := w) rfl) (by rfl) T.z_set boot_set (pa_cons (pv 2) pa_nil)) pa_nil)) pa_nil)) rfl)))), ?_⟩
    -- given = list(numbers)
    refine ⟨_, rfl, a, _, rfl, hs, fun l hl0 => ?_⟩
    have npl : p ≠ l := ne_of_none hp hl0
    -- for number in given
    refine ⟨_, rfl, l, rfl, ⟨_, SqL.of upd_same⟩, for_list (K := K) (a := l) (xs := ns.map V.int) (fun i σ H' => ∃ v, σ = [some (.ref p), some (.ref a), some (.ref l), v] ∧ H' = upd H l (.lst (ns.map V.int)))
      ⟨none, rfl, rfl⟩ (fun i σ H' _ ⟨_, _, e⟩ => by rw [e]; exact SqL.of upd_same) ?_ ?_⟩
    · rintro i y σ H' hi ⟨v, rfl, rfl⟩
      obtain ⟨z, hz, rfl⟩ : ∃ z, z ∈ ns ∧ y = V.int z := by
        have := List.mem_of_getElem? hi
        obtain ⟨z, h1, h2⟩ := List.mem_map.mp this
        exact ⟨z, h1, h2.symm⟩
      have e : decide (0 ≤ z ∧ z ≤ 15) = true := decide_eq_true (hb z hz)
      refine ⟨_, rfl, z, rfl, _, rfl, ?_⟩
      rw [e]
      exact iteF ⟨_, rfl, rfl⟩
    · rintro σ H' ⟨v, rfl, rfl⟩
      -- self.numbers = tuple(sorted(set(given)))
      refine ⟨_, rfl, l, ns, rfl, .inl (SqL.of upd_same), by omega, fun q c hq hc => ?_⟩
      have npq : p ≠ q := ne_of_none (H := upd H l (.lst (ns.map V.int))) (by rw [upd_ne npl]; exact hp) hq
      refine ⟨q, _, _, rfl, upd_same, by omega, fun ms m hso hmem hlen hm => ?_⟩
      have npm : p ≠ m := ne_of_none (H := upd (upd H l (.lst (ns.map V.int))) q _) (by rw [upd_ne npq, upd_ne npl]; exact hp) hm
      refine ⟨m, _, rfl, .inl ⟨SqL.of upd_same, fun t ht => ?_⟩⟩
      have npt : p ≠ t := ne_of_none (H := upd (upd (upd H l (.lst (ns.map V.int))) q _) m _) (by rw [upd_ne npm, upd_ne npq, upd_ne npl]; exact hp) ht
      refine ⟨_, rfl, p, _, dx, [], rfl, by rw [upd_ne npt, upd_ne npm, upd_ne npq, upd_ne npl]; exact hp, T.cl_Rights, T.na_Rights_numbers, by show 0 < 1000; decide, ?_⟩
      have em : ms = Ow.ks fun j => decide (j ∈ ns) := Ow.ks_uniq hso fun j => by
        rw [hmem j]
        constructor
        · intro z
          have := hb j (of_decide_eq_true z)
          exact ⟨⟨this.1, by omega⟩, z⟩
        · exact fun z => z.2
      refine k _ ⟨dx, t, upd_same, by rw [upd_ne npt.symm, ← em]; exact upd_same⟩ fun b o e hbp => ?_
      have e1 : upd H l (.lst (ns.map V.int)) b = some o := by rw [upd_ne (ne_of_none e hl0)]; exact e
      have e2 := Ext.upd (o := SetO w q (fun j => decide (j ∈ ns)) c) hq b o e1
      have e3 := Ext.upd (o := .lst (ms.map V.int)) hm b o e2
      have e4 := Ext.upd (o := .tup (ms.map V.int)) ht b o e3
      rw [upd_ne hbp]
      exact e4

theorem ok_Rights_or {f : Addr} {fd : FuncData} (F : FunD K "__or__" "Rights.__or__" (defArgs SRights_or) (defBody SRights_or) (defScope SRights_or) [] [] f fd) (T : Txt K mg) (GRights : Ow.Maker P w K mg base CX0 2 "Rights" (He.ga K "Rights") ["self", "numbers"] [] (Ow.spInit K (He.ga K "Rights"))) : FnOk P w K mg base CX0 4 f fd ["self", "other"] (Ow.spBin (He.ga K "Rights") (· || ·)) := by
  refine F.ok scRights_or (fun vs H Q E h => ?_) (fun cdv A outer s H vs Q E hr h => ?_)
  · obtain ⟨a, b, S, T', rfl, _⟩ := h
    rfl
  · obtain ⟨a, b, S, S2, rfl, ra, rb, k⟩ := h
    obtain ⟨dx, t, ha, ht⟩ := id ra
    obtain ⟨dy, u, hb, hu⟩ := id rb
    have l1 := Ow.ks_len S
    have l2 := Ow.ks_len S2
    refine ⟨_, PSs.nox (pss_one (ps_ret (pe_mk GRights (hr.mono (by decide)) pass0 (pa_cons (pe_op (kcat (K := K)) (kfld (K := K) (pv 0)) (kfld (K := K) (pv 1))) pa_nil)))), ?_⟩
    have cat : ∀ (Q : VK), (∀ p H', Ext H H' → SqT K H' p ((Ow.ks S ++ Ow.ks S2).map V.int) → Q (.ref p) H') → tOp (rCatA K) (tFld K (tVar 0) "numbers") (tFld K (tVar 1) "numbers") (start ["self", "other"] [.ref a, .ref b]) H Q := fun Q kq => by
      refine ⟨_, rfl, a, _, dx, _, _, rfl, ha, T.cl_Rights, T.na_Rights_numbers, Ow.lk1, _, rfl, b, _, dy, _, _, rfl, hb, T.cl_Rights, T.na_Rights_numbers, Ow.lk1, t, u, _, _, rfl, rfl, SqT.of ht, SqT.of hu, by simp only [List.length_map]; exact Ow.few16 (by omega), fun z => ?_, fun _ z => ?_, fun _ _ p hp => ?_⟩
      · refine kq _ _ Ext.rfl' ?_
        rw [List.map_append, z]
        exact SqT.of hu
      · refine kq _ _ Ext.rfl' ?_
        rw [List.map_append, z, List.append_nil]
        exact SqT.of ht
      · refine kq _ _ (Ext.upd hp) ?_
        rw [List.map_append]
        exact SqT.of upd_same
    refine cat _ fun p H' e hp => Ow.mkRt (.inr hp) (by rw [List.length_append]; omega) (fun n hn => ?_) (fun x H2 e2 nx r => k x H2 (e.trans e2) (Ow.Ext.free e nx) (r.congr fun j h0 h1 => ?_))
    · rcases List.mem_append.mp hn with z | z
      · have := (Ow.mem_ks.mp z).1; omega
      · have := (Ow.mem_ks.mp z).1; omega
    · rw [Bool.eq_iff_iff, decide_eq_true_iff, List.mem_append, Ow.mem_ks, Ow.mem_ks, Bool.or_eq_true]
      simp [h0, h1]

theorem ok_Rights_and {f : Addr} {fd : FuncData} (F : FunD K "__and__" "Rights.__and__" (defArgs SRights_and) (defBody SRights_and) (defScope SRights_and) [] [] f fd) (T : Txt K mg) (GRights : Ow.Maker P w K mg base CX0 2 "Rights" (He.ga K "Rights") ["self", "numbers"] [] (Ow.spInit K (He.ga K "Rights"))) : FnOk P w K mg base CX0 4 f fd ["self", "other"] (Ow.spBin (He.ga K "Rights") (· && ·)) := by
  refine F.ok scRights_and (fun vs H Q E h => ?_) (fun cdv A outer s H vs Q E hr h => ?_)
  · obtain ⟨a, b, S, T', rfl, _⟩ := h
    rfl
  · obtain ⟨a, b, S, S2, rfl, ra, rb, k⟩ := h
    obtain ⟨dx, t, ha, ht⟩ := id ra
    obtain ⟨dy, u, hb, hu⟩ := id rb
    have l1 := Ow.ks_len S
    have l2 := Ow.ks_len S2
    refine ⟨_, PSs.nox (pss_one (ps_ret (pe_mk GRights (hr.mono (by decide)) pass0 (pa_cons (pe_lc (own := [("number", 2)]) rfl scRights_and.nd (kpt (K := K) (kfld (K := K) (pv 0))) (blkOk_by (own := [("number", 2)]) (N := ["self", "other", "number"]) (sc := defScope SRights_and) (by decide +kernel)) (fun _ _ _ _ _ => by exact pg_name (i := 2) scRights_and.nd rfl (by first | exact Or.inl rfl | exact Or.inr rfl)) (fun _ _ _ _ _ => by exact pts_one (pt_cmpR (kin (K := K)) (pv 2) (kfld (K := K) (pv 1)) (by rfl))) (fun _ _ _ _ _ => by exact (pv 2))) pa_nil)))), ?_⟩
    refine ⟨_, rfl, a, _, dx, _, _, rfl, ha, T.cl_Rights, T.na_Rights_numbers, Ow.lk1, t, rfl, ⟨_, SqT.of ht⟩, fun D hD => ?_⟩
    refine compT (Ow.ks S) V.int (fun j => decide (j ∈ Ow.ks S2)) V.int (SqT.of ht) hD (by omega) (fun z H' R _ e q => ?_) (fun z H' R _ e q => ⟨_, rfl, q⟩) ?_
    · exact ⟨_, rfl, _, rfl, b, _, dy, _, _, rfl, e _ _ hb, T.cl_Rights, T.na_Rights_numbers, Ow.lk1, Ow.in_ints (.inr (SqT.of (e _ _ hu))) ⟨_, rfl, q⟩⟩
    · refine Ow.mkRt (ns := (Ow.ks S).filter fun j => decide (j ∈ Ow.ks S2)) (.inl (SqL.of upd_same)) ?_ ?_ ?_
      · exact Nat.lt_of_le_of_lt (List.length_filter_le _ _) (by omega)
      · intro n hn
        have := (Ow.mem_ks.mp (List.mem_filter.mp hn).1).1
        omega
      · intro x H2 e2 nx r
        refine k x H2 ((Ext.upd hD).trans e2) (Ow.Ext.free (Ext.upd hD) nx) (r.congr fun j h0 h1 => ?_)
        rw [Bool.eq_iff_iff, decide_eq_true_iff, List.mem_filter, Ow.mem_ks]
        rw [decide_eq_true_iff, Ow.mem_ks]
        simp [h0, h1]

theorem ok_Rights_sub {f : Addr} {fd : FuncData} (F : FunD K "__sub__" "Rights.__sub__" (defArgs SRights_sub) (defBody SRights_sub) (defScope SRights_sub) [] [] f fd) (T : Txt K mg) (GRights : Ow.Maker P w K mg base CX0 2 "Rights" (He.ga K "Rights") ["self", "numbers"] [] (Ow.spInit K (He.ga K "Rights"))) : FnOk P w K mg base CX0 4 f fd ["self", "other"] (Ow.spBin (He.ga K "Rights") (fun a b => a && !b)) := by
  refine F.ok scRights_sub (fun vs H Q E h => ?_) (fun cdv A outer s H vs Q E hr h => ?_)
  · obtain ⟨a, b, S, T', rfl, _⟩ := h
    rfl
  · obtain ⟨a, b, S, S2, rfl, ra, rb, k⟩ := h
    obtain ⟨dx, t, ha, ht⟩ := id ra
    obtain ⟨dy, u, hb, hu⟩ := id rb
    have l1 := Ow.ks_len S
    have l2 := Ow.ks_len S2
    refine ⟨_, PSs.nox (pss_one (ps_ret (pe_mk GRights (hr.mono (by decide)) pass0 (pa_cons (pe_lc (own := [("number", 2)]) rfl scRights_sub.nd (kpt (K := K) (kfld (K := K) (pv 0))) (blkOk_by (own := [("number", 2)]) (N := ["self", "other", "number"]) (sc := defScope SRights_sub) (by decide +kernel)) (fun _ _ _ _ _ => by exact pg_name (i := 2) scRights_sub.nd rfl (by first | exact Or.inl rfl | exact Or.inr rfl)) (fun _ _ _ _ _ => by exact pts_one (pt_cmpR (knotin (K := K)) (pv 2) (kfld (K := K) (pv 1)) (by rfl))) (fun _ _ _ _ _ => by exact (pv 2))) pa_nil)))), ?_⟩
    refine ⟨_, rfl, a, _, dx, _, _, rfl, ha, T.cl_Rights, T.na_Rights_numbers, Ow.lk1, t, rfl, ⟨_, SqT.of ht⟩, fun D hD => ?_⟩
    refine compT (Ow.ks S) V.int (fun j => !decide (j ∈ Ow.ks S2)) V.int (SqT.of ht) hD (by omega) (fun z H' R _ e q => ?_) (fun z H' R _ e q => ⟨_, rfl, q⟩) ?_
    · exact ⟨_, rfl, _, rfl, b, _, dy, _, _, rfl, e _ _ hb, T.cl_Rights, T.na_Rights_numbers, Ow.lk1, Ow.in_ints (.inr (SqT.of (e _ _ hu))) ⟨_, rfl, q⟩⟩
    · refine Ow.mkRt (ns := (Ow.ks S).filter fun j => !decide (j ∈ Ow.ks S2)) (.inl (SqL.of upd_same)) ?_ ?_ ?_
      · exact Nat.lt_of_le_of_lt (List.length_filter_le _ _) (by omega)
      · intro n hn
        have := (Ow.mem_ks.mp (List.mem_filter.mp hn).1).1
        omega
      · intro x H2 e2 nx r
        refine k x H2 ((Ext.upd hD).trans e2) (Ow.Ext.free (Ext.upd hD) nx) (r.congr fun j h0 h1 => ?_)
        rw [Bool.eq_iff_iff, decide_eq_true_iff, List.mem_filter, Ow.mem_ks]
        rw [Bool.not_eq_true', decide_eq_false_iff_not, Ow.mem_ks]
        simp [h0, h1]

theorem ok_Rights_xor {f : Addr} {fd : FuncData} (F : FunD K "__xor__" "Rights.__xor__" (defArgs SRights_xor) (defBody SRights_xor) (defScope SRights_xor) [] [] f fd) (T : Txt K mg) (GRights : Ow.Maker P w K mg base CX0 2 "Rights" (He.ga K "Rights") ["self", "numbers"] [] (Ow.spInit K (He.ga K "Rights"))) : FnOk P w K mg base CX0 4 f fd ["self", "other"] (Ow.spBin (He.ga K "Rights") (fun a b => a != b)) := by
  refine F.ok scRights_xor (fun vs H Q E h => ?_) (fun cdv A outer s H vs Q E hr h => ?_)
  · obtain ⟨a, b, S, T', rfl, _⟩ := h
    rfl
  · obtain ⟨a, b, S, S2, rfl, ra, rb, k⟩ := h
    obtain ⟨dx, t, ha, ht⟩ := id ra
    obtain ⟨dy, u, hb, hu⟩ := id rb
    have l1 := Ow.ks_len S
    have l2 := Ow.ks_len S2
    refine ⟨_, PSs.nox (pss_cons (ps_set (i := 2) scRights_xor.nd rfl (by first | exact Or.inl rfl | exact Or.inr rfl) (pe_op (kcat (K := K)) (kfld (K := K) (pv 0)) (kfld (K := K) (pv 1))))
      (pss_one (ps_ret (pe_mk GRights (hr.mono (by decide)) pass0 (pa_cons (pe_lc (own := [("number", 3)]) rfl scRights_xor.nd (kpt (K := K) (pv 2)) (blkOk_by (own := [("number", 3)]) (N := ["self", "other", "both", "number"]) (sc := defScope SRights_xor) (by decide +kernel)) (fun _ _ _ _ _ => by exact pg_name (i := 3) scRights_xor.nd rfl (by first | exact Or.inl rfl | exact Or.inr rfl)) (fun _ _ _ _ _ => by exact pts_one (pt_cmpR op_ne (pe_cmpR (kin (K := K)) (pv 3) (kfld (K := K) (pv 0)) (by rfl)) (pe_cmpR (kin (K := K)) (pv 3) (kfld (K := K) (pv 1)) (by rfl)) (nomark _))) (fun _ _ _ _ _ => by exact (pv 3))) pa_nil))))), ?_⟩
    have cat : ∀ (Q : VK), (∀ p H', Ext H H' → SqT K H' p ((Ow.ks S ++ Ow.ks S2).map V.int) → Q (.ref p) H') → tOp (rCatA K) (tFld K (tVar 0) "numbers") (tFld K (tVar 1) "numbers") (start ["self", "other", "both", "number"] [.ref a, .ref b]) H Q := fun Q kq => by
      refine ⟨_, rfl, a, _, dx, _, _, rfl, ha, T.cl_Rights, T.na_Rights_numbers, Ow.lk1, _, rfl, b, _, dy, _, _, rfl, hb, T.cl_Rights, T.na_Rights_numbers, Ow.lk1, t, u, _, _, rfl, rfl, SqT.of ht, SqT.of hu, by simp only [List.length_map]; exact Ow.few16 (by omega), fun z => ?_, fun _ z => ?_, fun _ _ p hp => ?_⟩
      · refine kq _ _ Ext.rfl' ?_
        rw [List.map_append, z]
        exact SqT.of hu
      · refine kq _ _ Ext.rfl' ?_
        rw [List.map_append, z, List.append_nil]
        exact SqT.of ht
      · refine kq _ _ (Ext.upd hp) ?_
        rw [List.map_append]
        exact SqT.of upd_same
    refine cat _ fun p H1 e1 hp => ?_
    have few : (Ow.ks S ++ Ow.ks S2).length ≤ 32 := by rw [List.length_append]; omega
    refine ⟨_, rfl, p, rfl, ⟨_, hp⟩, fun D hD => ?_⟩
    refine compT (Ow.ks S ++ Ow.ks S2) V.int (fun j => decide (j ∈ Ow.ks S) != decide (j ∈ Ow.ks S2)) V.int hp hD (by omega) (fun z H' R _ e q => ?_) (fun z H' R _ e q => ⟨_, rfl, q⟩) ?_
    · refine ⟨_, rfl, _, rfl, a, _, dx, _, _, rfl, e _ _ (e1 _ _ ha), T.cl_Rights, T.na_Rights_numbers, Ow.lk1, Ow.in_ints (.inr (SqT.of (e _ _ (e1 _ _ ht)))) ?_⟩
      refine ⟨_, rfl, _, rfl, b, _, dy, _, _, rfl, e _ _ (e1 _ _ hb), T.cl_Rights, T.na_Rights_numbers, Ow.lk1, Ow.in_ints (.inr (SqT.of (e _ _ (e1 _ _ hu)))) ⟨rfl, _, rfl, ?_⟩⟩
      have en : (!decide (V.bl (decide (z ∈ Ow.ks S)) = V.bl (decide (z ∈ Ow.ks S2)))) = (decide (z ∈ Ow.ks S) != decide (z ∈ Ow.ks S2)) := by
        cases decide (z ∈ Ow.ks S) <;> cases decide (z ∈ Ow.ks S2) <;> simp
      show R (!decide (V.bl (decide (z ∈ Ow.ks S)) = V.bl (decide (z ∈ Ow.ks S2)))) H'
      rw [en]
      exact q
    · refine Ow.mkRt (ns := (Ow.ks S ++ Ow.ks S2).filter fun j => decide (j ∈ Ow.ks S) != decide (j ∈ Ow.ks S2)) (.inl (SqL.of upd_same)) ?_ ?_ ?_
      · exact Nat.lt_of_le_of_lt (List.length_filter_le _ _) (by omega)
      · intro n hn
        rcases List.mem_append.mp (List.mem_filter.mp hn).1 with z | z
        · have := (Ow.mem_ks.mp z).1; omega
        · have := (Ow.mem_ks.mp z).1; omega
      · intro x H2 e2 nx r
        refine k x H2 (e1.trans ((Ext.upd hD).trans e2)) (Ow.Ext.free (e1.trans (Ext.upd hD)) nx) (r.congr fun j h0 h1 => ?_)
        have m1 : decide (j ∈ Ow.ks S) = S j := by rw [Bool.eq_iff_iff, decide_eq_true_iff, Ow.mem_ks]; simp [h0, h1]
        have m2 : decide (j ∈ Ow.ks S2) = S2 j := by rw [Bool.eq_iff_iff, decide_eq_true_iff, Ow.mem_ks]; simp [h0, h1]
        rw [Bool.eq_iff_iff, decide_eq_true_iff, List.mem_filter, List.mem_append, m1, m2, Ow.mem_ks, Ow.mem_ks]
        cases S j <;> cases S2 j <;> simp [h0, h1]

theorem ok_Rights_contains {f : Addr} {fd : FuncData} (F : FunD K "__contains__" "Rights.__contains__" (defArgs SRights_contains) (defBody SRights_contains) (defScope SRights_contains) [] [] f fd) (T : Txt K mg)  : FnOk P w K mg base CX0 1 f fd ["self", "number"] (Ow.spHas (He.ga K "Rights")) := by
  refine F.ok scRights_contains (fun vs H Q E h => ?_) (fun cdv A outer s H vs Q E hr h => ?_)
  · obtain ⟨a, S, n, rfl, _⟩ := h
    rfl
  · obtain ⟨a, S, n, rfl, ra, q⟩ := h
    obtain ⟨dx, t, ha, ht⟩ := id ra
    refine ⟨_, PSs.nox (pss_one (ps_ret (pe_cmpR (kin (K := K)) (pv 1) (kfld (K := K) (pv 0)) (by rfl)))), ?_⟩
    exact ⟨_, rfl, _, rfl, a, _, dx, _, _, rfl, ha, T.cl_Rights, T.na_Rights_numbers, Ow.lk1, Ow.in_ints (.inr (SqT.of ht)) q⟩

theorem ok_Rights_len {f : Addr} {fd : FuncData} (F : FunD K "__len__" "Rights.__len__" (defArgs SRights_len) (defBody SRights_len) (defScope SRights_len) [] [] f fd) (T : Txt K mg)  : FnOk P w K mg base CX0 1 f fd ["self"] (Ow.spLen (He.ga K "Rights")) := by
  refine F.ok scRights_len (fun vs H Q E h => ?_) (fun cdv A outer s H vs Q E hr h => ?_)
  · obtain ⟨a, S, rfl, _⟩ := h
    rfl
  · obtain ⟨a, S, rfl, ra, q⟩ := h
    obtain ⟨dx, t, ha, ht⟩ := id ra
    refine ⟨_, PSs.nox (pss_one (ps_ret (pe_callB (klen (K := K)) (by rfl) T.z_len PySem.boot_len (pa_cons (kfld (K := K) (pv 0)) pa_nil)))), ?_⟩
    exact ⟨_, rfl, a, _, dx, _, _, rfl, ha, T.cl_Rights, T.na_Rights_numbers, Ow.lk1, _, _, rfl, .inr ⟨_, SqT.of ht, by rw [List.length_map]⟩, q⟩

theorem ok_Rights_within {f : Addr} {fd : FuncData} (F : FunD K "within" "Rights.within" (defArgs SRights_within) (defBody SRights_within) (defScope SRights_within) [] [] f fd) (T : Txt K mg)  : FnOk P w K mg base CX0 1 f fd ["self", "other"] (Ow.spWithin (He.ga K "Rights")) := by
  refine F.ok scRights_within (fun vs H Q E h => ?_) (fun cdv A outer s H vs Q E hr h => ?_)
  · obtain ⟨a, b, S, T', rfl, _⟩ := h
    rfl
  · obtain ⟨a, b, S, S2, rfl, ra, rb, k⟩ := h
    obtain ⟨dx, t, ha, ht⟩ := id ra
    obtain ⟨dy, u, hb, hu⟩ := id rb
    have l1 := Ow.ks_len S
    refine ⟨_, PSs.nox (pss_one (ps_ret (pe_callB (kall (K := K) rfl) (by rfl) T.z_all (by decide +kernel) (pa_cons (pe_lc (own := [("number", 2)]) rfl scRights_within.nd (kpt (K := K) (kfld (K := K) (pv 0))) (blkOk_by (own := [("number", 2)]) (N := ["self", "other", "number"]) (sc := defScope SRights_within) (by decide +kernel)) (fun _ _ _ _ _ => by exact pg_name (i := 2) scRights_within.nd rfl (by first | exact Or.inl rfl | exact Or.inr rfl)) (fun _ _ _ _ _ => by exact pts_nil) (fun _ _ _ _ _ => by exact (pe_cmpR (kin (K := K)) (pv 2) (kfld (K := K) (pv 1)) (by rfl)))) pa_nil)))), ?_⟩
    refine ⟨_, rfl, a, _, dx, _, _, rfl, ha, T.cl_Rights, T.na_Rights_numbers, Ow.lk1, t, rfl, ⟨_, SqT.of ht⟩, fun D hD => ?_⟩
    refine compT (Ow.ks S) V.int (fun _ => true) (fun z => V.bl (decide (z ∈ Ow.ks S2))) (SqT.of ht) hD (by omega) (fun z H' R _ e q => q) (fun z H' R _ e q => ?_) ?_
    · exact ⟨_, rfl, _, rfl, b, _, dy, _, _, rfl, e _ _ hb, T.cl_Rights, T.na_Rights_numbers, Ow.lk1, Ow.in_ints (.inr (SqT.of (e _ _ hu))) q⟩
    · rw [filterAll]
      refine ⟨D, (Ow.ks S).map fun z => decide (z ∈ Ow.ks S2), rfl, SqL.of (by rw [upd_same, List.map_map]; rfl), ?_⟩
      have e : ((Ow.ks S).map fun z => decide (z ∈ Ow.ks S2)).all id = Ow.wi S S2 := by unfold Ow.wi; rw [List.all_map]; rfl
      rw [e]
      exact k _ (Ext.upd hD)

theorem ok_Rights_eq {f : Addr} {fd : FuncData} (F : FunD K "__eq__" "Rights.__eq__" (defArgs SRights_eq) (defBody SRights_eq) (defScope SRights_eq) [] [] f fd) (T : Txt K mg)  : FnOk P w K mg base CX0 1 f fd ["self", "other"] (Ow.spEqR (He.ga K "Rights")) := by
  refine F.ok scRights_eq (fun vs H Q E h => ?_) (fun cdv A outer s H vs Q E hr h => ?_)
  · obtain ⟨a, b, S, T', rfl, _⟩ := h
    rfl
  · obtain ⟨a, b, S, S2, rfl, ra, rb, q⟩ := h
    obtain ⟨dx, t, ha, ht⟩ := id ra
    obtain ⟨dy, u, hb, hu⟩ := id rb
    refine ⟨_, PSs.nox (pss_one (ps_ret (pe_and (pe_callB (kisi (K := K)) (by rfl) T.z_isinstance (by decide +kernel) (pa_cons (pv 1) (pa_cons (pe_glob (v := .ref (He.ga K "Rights")) rfl T.g_Rights rfl) pa_nil))) (pe_one (pe_cmpR (keqd (K := K) hr.units) (kfld (K := K) (pv 0)) (kfld (K := K) (pv 1)) (nomark _)))))), ?_⟩
    refine ⟨_, rfl, _, _, _, _, true, rfl, .own _, T.i_Rights.ty T.cl_Rights hb, T.i_Rights.y, _, rfl, iteT ?_⟩
    exact ⟨_, rfl, a, _, dx, _, _, rfl, ha, T.cl_Rights, T.na_Rights_numbers, Ow.lk1, _, rfl, b, _, dy, _, _, rfl, hb, T.cl_Rights, T.na_Rights_numbers, Ow.lk1, Ow.eqd_tup (SqT.of ht) (SqT.of hu) q⟩
theorem ok__law_start {f : Addr} {fd : FuncData} (F : FunD K "_law_start" "_law_start" (defArgs S_law_start) (defBody S_law_start) (defScope S_law_start) [] [] f fd) (T : Txt K mg)  : FnOk P w K mg base CX0 1 f fd ["_law_script"] (Ow.spStart K) := by
  refine F.ok sc_law_start (fun vs H Q E h => ?_) (fun cdv A outer s H vs Q E hr h => ?_)
  · obtain ⟨a, ns, rfl, _⟩ := h
    rfl
  · obtain ⟨a, ns, rfl, hs, hl, k⟩ := h
    refine ⟨_, PSs.nox (pss_cons (ps_set (i := 1) sc_law_start.nd rfl (by first | exact Or.inl rfl | exact Or.inr rfl) pe_int)
      (C8.pss_cut (ps_if (pt_cmpR op_gt (pe_callB (klen (K := K)) (by rfl) T.z_len PySem.boot_len (pa_cons (pv 0) pa_nil)) pe_int (nomark _)) (pss_one (ps_set (i := 1) sc_law_start.nd rfl (by first | exact Or.inl rfl | exact Or.inr rfl) (pe_ix (kixl (K := K)) (pv 0) pe_int (fun _ _ => rfl)))) pss_nil)
      (pss_one (ps_ret (pe_lst (pa_cons (pe_callTy (klist (K := K)) (by rfl) T.z_list (by decide +kernel) (pa_cons (pv 0) pa_nil)) (pa_cons pe_int (pa_cons (pv 1) (pa_cons pe_int pa_nil))))))))), ?_⟩
    refine ⟨fun σ' H' => H' = H ∧ ∃ z : Int, σ' = [some (.ref a), some (.int z)], ?_, ?_⟩
    · refine ⟨_, rfl, _, _, rfl, .inl ⟨_, hs, rfl⟩, _, _, rfl, rfl, _, rfl, ite2 (fun c => ?_) (fun _ => ⟨rfl, 0, rfl⟩)⟩
      have c' : 0 < ns.length := by
        have := of_decide_eq_true c
        rw [List.length_map] at this
        omega
      refine ⟨_, rfl, a, _, _, .int ns[0], rfl, rfl, hs, ?_, rfl, ns[0], rfl⟩
      refine at_of (j := 0) rfl ?_
      rw [List.getElem?_map, List.getElem?_eq_getElem c']
      rfl
    rintro σ' H' ⟨rfl, z, rfl⟩
    refine ⟨_, rfl, a, _, rfl, .inl hs, fun c nc => ⟨_, rfl, (by show 4 ≤ sizeLine; decide), fun st nst => ?_⟩⟩
    have e1 := Ext.upd (o := .lst (ns.map V.int)) nc
    have e2 := Ext.upd (o := .lst [.ref c, .int 1, .int z, .int 0]) nst
    exact k st c _ (e1.trans e2) (Ow.Ext.free e1 nst) nc ⟨1, z, 0, ns, upd_same, e2 _ _ upd_same, by decide, by decide, by decide⟩
theorem ok__law_draw {f : Addr} {fd : FuncData} (F : FunD K "_law_draw" "_law_draw" (defArgs S_law_draw) (defBody S_law_draw) (defScope S_law_draw) [] [] f fd) (T : Txt K mg)  : FnOk P w K mg base CX0 1 f fd ["_law_state", "_law_many"] (Ow.spDraw) := by
  refine F.ok sc_law_draw (fun vs H Q E h => ?_) (fun cdv A outer s H vs Q E hr h => ?_)
  · obtain ⟨st, c, b, m, rfl, _⟩ := h
    rfl
  · obtain ⟨st, c, b, m, rfl, hst, hb, m0, m1, k⟩ := h
    obtain ⟨i, cur, n, ns, h1, h2, hi, hn0, hn1⟩ := id hst
    have ncs : c ≠ st := hst.ints h2
    refine ⟨_, PSs.nox (pss_cons (ps_if (pt_cmpR op_ge (pe_ix (kixl (K := K)) (pv 0) pe_int (fun _ _ => rfl)) (pe_op op_pow pe_int pe_int) (nomark _)) (pss_cons (ps_set (i := 2) sc_law_draw.nd rfl (by first | exact Or.inl rfl | exact Or.inr rfl) (pe_op op_mod (pe_callTy call_int1 (by rfl) T.z_int (by decide +kernel) (pa_cons (pe_ix (kixl (K := K)) (pv 0) pe_int (fun _ _ => rfl)) pa_nil)) (pv 1)))
        (pss_cons (ps_asg (pe_op op_fdiv (pe_ix (kixl (K := K)) (pv 0) pe_int (fun _ _ => rfl)) (pv 1)) (pg_sub (pv 0) pe_int set_list))
        (pss_one (ps_ret (pv 2))))) pss_nil)
      (pss_cons (ps_asg (pe_op op_add (pe_ix (kixl (K := K)) (pv 0) pe_int (fun _ _ => rfl)) pe_int) (pg_sub (pv 0) pe_int set_list))
      (pss_cons (ps_set (i := 3) sc_law_draw.nd rfl (by first | exact Or.inl rfl | exact Or.inr rfl) (pe_op op_add (pe_op op_add (pe_op op_mod (pe_callTy call_int1 (by rfl) T.z_int (by decide +kernel) (pa_cons (pe_ix (kixl (K := K)) (pv 0) pe_int (fun _ _ => rfl)) pa_nil)) pe_int) (pe_op op_mul pe_int (pe_ix (kixl (K := K)) (pv 0) pe_int (fun _ _ => rfl)))) pe_int))
      (pss_cons (ps_set (i := 4) sc_law_draw.nd rfl (by first | exact Or.inl rfl | exact Or.inr rfl) (pe_op op_mod (pe_op op_pow (pv 3) pe_int) pe_int))
      (C8.pss_cut (ps_if (pt_cmpR op_lt (pe_ix (kixl (K := K)) (pv 0) pe_int (fun _ _ => rfl)) (pe_callB (klen (K := K)) (by rfl) T.z_len PySem.boot_len (pa_cons (pe_ix (kixl (K := K)) (pv 0) pe_int (fun _ _ => rfl)) pa_nil)) (nomark _)) (pss_cons (ps_asg (pe_ix (kixl (K := K)) (pe_ix (kixl (K := K)) (pv 0) pe_int (fun _ _ => rfl)) (pe_ix (kixl (K := K)) (pv 0) pe_int (fun _ _ => rfl)) (fun _ _ => rfl)) (pg_sub (pv 0) pe_int set_list))
        (pss_one (ps_asg (pe_op op_add (pe_ix (kixl (K := K)) (pv 0) pe_int (fun _ _ => rfl)) pe_int) (pg_sub (pv 0) pe_int set_list)))) pss_nil)
      (pss_one (ps_ret (pe_op op_mod (pe_op op_fdiv (pe_callTy call_int1 (by rfl) T.z_int (by decide +kernel) (pa_cons (pv 4) pa_nil)) pe_int) (pv 1))))))))), ?_⟩
    have put : ∀ (i' cur' n' : Int), 1 ≤ i' → 0 ≤ n' → n' ≤ (b : Int) + 1 → Ow.StAt (upd H st (.lst [.ref c, .int i', .int cur', .int n'])) st c (b + 1) ∧ Ow.Keep st H (upd H st (.lst [.ref c, .int i', .int cur', .int n'])) := fun i' cur' n' a1 a2 a3 =>
      ⟨⟨i', cur', n', ns, upd_same, by rw [upd_ne ncs]; exact h2, a1, a2, by omega⟩, fun x o nx hx => by rw [upd_ne nx]; exact hx⟩
    refine ⟨_, rfl, st, _, _, _, rfl, rfl, SqL.of h1, rfl, _, _, rfl, rfl, ⟨by decide, by decide, by decide⟩, _, _, rfl, rfl, _, rfl, ite2 (fun big => ?_) (fun big => ?_)⟩
    · refine ⟨_, rfl, st, _, _, _, rfl, rfl, SqL.of h1, rfl, .inl ⟨_, rfl, _, rfl, _, _, rfl, rfl, m0, ?_⟩⟩
      refine ⟨_, rfl, st, _, _, _, rfl, rfl, SqL.of h1, rfl, _, rfl, _, _, rfl, rfl, ⟨m0, m1⟩, _, rfl, st, _, _, 2, rfl, rfl, h1, rfl, ?_⟩
      obtain ⟨p1, p2⟩ := put i (cur / m) n hi hn0 (by omega)
      exact ⟨_, rfl, k _ _ (Int.emod_nonneg _ (by omega)) (Int.emod_lt_of_pos _ m0) p1 p2⟩
    · refine ⟨_, rfl, st, _, _, _, rfl, rfl, SqL.of h1, rfl, _, _, rfl, rfl, _, rfl, st, _, _, 3, rfl, rfl, h1, rfl, ?_⟩
      refine ⟨_, rfl, st, _, _, _, rfl, rfl, SqL.of upd_same, rfl, .inl ⟨_, rfl, _, _, rfl, rfl, pz (by decide), ?_⟩⟩
      refine ⟨_, rfl, st, _, _, _, rfl, rfl, SqL.of upd_same, rfl, _, _, rfl, rfl, .inl ⟨by decide, by decide⟩, _, _, rfl, rfl, _, _, rfl, rfl, ?_⟩
      have q0 : 0 ≤ cur % 1000000007 := Int.emod_nonneg _ (by decide)
      have q1 : cur % 1000000007 < 1000000007 := Int.emod_lt_of_pos _ (by decide)
      refine ⟨_, rfl, _, _, rfl, rfl, ⟨by decide, by decide, ?_⟩, _, _, rfl, rfl, pz (by decide), ?_⟩
      · show (cur % 1000000007 + 69621 * (n + 1) + 48271).natAbs < 2 ^ 64
        omega
      have fin : ∀ H', (∃ i' cur', H' = upd H st (.lst [.ref c, .int i', .int cur', .int (n + 1)]) ∧ 1 ≤ i') → Q (.int ((cur % 1000000007 + 69621 * (n + 1) + 48271) ^ (17 : Int).toNat % 170141183460469231731687303715884105727 / 64 % m)) H' := by
        rintro H' ⟨i', cur', rfl, a1⟩
        obtain ⟨p1, p2⟩ := put i' cur' (n + 1) a1 (by omega) (by omega)
        exact k _ _ (Int.emod_nonneg _ (by omega)) (Int.emod_lt_of_pos _ m0) p1 p2
      refine ⟨fun σ' H' => (∃ d v, σ' = [some (.ref st), some (.int m), d, v, some (.int ((cur % 1000000007 + 69621 * (n + 1) + 48271) ^ (17 : Int).toNat % 170141183460469231731687303715884105727))]) ∧ ∃ i' cur', H' = upd H st (.lst [.ref c, .int i', .int cur', .int (n + 1)]) ∧ 1 ≤ i', ?_, ?_⟩
      · have hc : upd H st (.lst [.ref c, .int i, .int cur, .int (n + 1)]) c = some (.lst (ns.map V.int)) := by rw [upd_ne ncs]; exact h2
        refine ⟨_, rfl, st, _, _, _, rfl, rfl, SqL.of upd_same, rfl, _, rfl, st, _, _, _, rfl, rfl, SqL.of upd_same, rfl, _, _, rfl, .inl ⟨_, SqL.of hc, rfl⟩, _, _, rfl, rfl, _, rfl, ite2 (fun lt => ?_) (fun _ => ⟨⟨_, _, rfl⟩, i, cur, rfl, hi⟩)⟩
        have lt' : i.toNat < ns.length := by
          have := of_decide_eq_true lt
          rw [List.length_map] at this
          omega
        have hat : atI (ns.map V.int) i = some (.int ns[i.toNat]) := by
          refine at_of (j := i.toNat) (by omega) ?_
          rw [List.getElem?_map, List.getElem?_eq_getElem lt']
          rfl
        refine ⟨_, rfl, st, _, _, _, rfl, rfl, SqL.of upd_same, rfl, _, rfl, st, _, _, _, rfl, rfl, SqL.of upd_same, rfl, c, _, _, _, rfl, rfl, SqL.of hc, hat, _, rfl, st, _, _, 2, rfl, rfl, upd_same, rfl, ?_⟩
        refine ⟨_, rfl, st, _, _, _, rfl, rfl, SqL.of upd_same, rfl, _, _, rfl, rfl, _, rfl, st, _, _, 1, rfl, rfl, upd_same, rfl, ?_⟩
        exact ⟨⟨_, _, rfl⟩, i + 1, _, by rw [upd_upd, upd_upd]; rfl, by omega⟩
      rintro σ' H' ⟨⟨d, v, rfl⟩, hH⟩
      exact ⟨_, rfl, .inl ⟨_, rfl, _, _, rfl, rfl, ⟨by decide, by decide⟩, _, rfl, _, _, rfl, rfl, m0, fin H' hH⟩⟩
theorem ok__law_some {f : Addr} {fd : FuncData} (F : FunD K "_law_some" "_law_some" (defArgs S_law_some) (defBody S_law_some) (defScope S_law_some) [] [] f fd) (T : Txt K mg) (G_law_draw : Ow.Glob P w K mg base CX0 1 "_law_draw" ["_law_state", "_law_many"] Ow.spDraw) : FnOk P w K mg base CX0 2 f fd ["_law_state", "_law_most"] (Ow.spSome) := by
  refine F.ok sc_law_some (fun vs H Q E h => ?_) (fun cdv A outer s H vs Q E hr h => ?_)
  · obtain ⟨st, c, b, m, rfl, _⟩ := h
    rfl
  · obtain ⟨st, c, b, m, rfl, hst, hb, m0, m1, k⟩ := h
    refine ⟨_, PSs.nox (pss_cons (ps_set (i := 2) sc_law_some.nd rfl (by first | exact Or.inl rfl | exact Or.inr rfl) (pe_lst pa_nil))
      (pss_cons (ps_for PassesOwn.never rfl (pi_range1 rfl T.z_range (pa_cons (pe_g G_law_draw (hr.mono (by decide)) pass0 (pa_cons (pv 0) (pa_cons (pe_op op_add (pv 1) pe_int) pa_nil))) pa_nil)) (pg_name (i := 3) sc_law_some.nd rfl (by first | exact Or.inl rfl | exact Or.inr rfl))
       (pss_one (ps_expr (kbm (K := K) PySem.F.plainAttrs_list PySem.F.slot_list_append PySem.F.type_list_append mt_append (pv 2) (pa_cons (pe_g G_law_draw (hr.mono (by decide)) pass0 (pa_cons (pv 0) (pa_cons pe_int pa_nil))) pa_nil)))))
      (pss_one (ps_ret (pv 2))))), ?_⟩
    refine ⟨(by show 0 ≤ sizeLine; decide), fun p np => ?_⟩
    have s1 := hst.ext (Ext.upd (o := .lst []) np)
    have nps : p ≠ st := fun e => by obtain ⟨o, ho⟩ := hst.here; rw [← e, np] at ho; cases ho
    refine ⟨_, rfl, _, rfl, _, _, rfl, rfl, st, c, b, m + 1, rfl, s1, by omega, by omega, by omega, fun d H1 d0 d1 s2 k1 => ?_⟩
    refine ⟨d, rfl, by omega, by omega, for_range (lo := 0) (n := d.toNat) (fun i σ H' => ∃ (v : Option V) (ns : List Int), σ = [some (.ref st), some (.int m), some (.ref p), v] ∧ ns.length = i ∧ (∀ n ∈ ns, 0 ≤ n ∧ n ≤ 15) ∧ Ow.StAt H' st c (b + 1 + i) ∧ Ow.Keep st H H' ∧ H' p = some (.lst (ns.map V.int)))
      ⟨none, [], rfl, rfl, (fun n h => by cases h), s2, (Ow.Keep.upd np).trans k1, k1 _ _ nps upd_same⟩ ?_ ?_⟩
    · rintro i σ H' hi ⟨v, ns, rfl, hl, hr15, s3, k3, hp⟩
      refine ⟨_, rfl, .inl ⟨rfl, _, SqL.of hp⟩, _, rfl, st, c, b + 1 + i, 16, rfl, s3, by omega, by decide, by decide, fun z H2 z0 z1 s4 k4 => ?_⟩
      have hp2 := k4 _ _ nps hp
      refine ⟨p, _, _, rfl, rfl, hp2, small1000 (by rw [List.length_map]; omega), _, ns ++ [z], rfl, by rw [List.length_append, hl]; rfl, ?_, ?_, ?_, by rw [upd_same, List.map_append]; rfl⟩
      · intro n hn
        rcases List.mem_append.mp hn with hn | hn
        · exact hr15 n hn
        · rw [List.mem_singleton.mp hn]; omega
      · obtain ⟨i', cur, n', ms, q1, q2, q3⟩ := s4
        have ncp : c ≠ p := fun e => by
          obtain ⟨_, _, _, ms0, w1, w2, _⟩ := hst
          rw [← e, w2] at np; cases np
        exact ⟨i', cur, n', ms, by rw [upd_ne (Ne.symm nps)]; exact q1, by rw [upd_ne ncp]; exact q2, q3⟩
      · intro x o nx hx
        have xp : x ≠ p := ne_of_none hx np
        rw [upd_ne xp]
        exact k4 _ _ nx (k3 _ _ nx hx)
    · rintro σ H' ⟨v, ns, rfl, hl, hr15, s3, k3, hp⟩
      exact ⟨_, rfl, k p ns H' (by omega) hr15 (s3.mono (by omega)) k3 np hp⟩
end
end K02

namespace K02
open PySem PySem.Spec PyProof.Rows L2 Ow

structure S2 (C : Addr) (H : Hp) (ds p1 p2 p3 r1 r2 r3 : Addr) (n1 n2 n3 : List Int) : Prop where
  d : H ds = some (.lst [.ref p1, .ref p2, .ref p3])
  l1 : H p1 = some (.lst (n1.map V.int))
  l2 : H p2 = some (.lst (n2.map V.int))
  l3 : H p3 = some (.lst (n3.map V.int))
  t1 : RtAt C H r1 fun j => decide (j ∈ n1)
  t2 : RtAt C H r2 fun j => decide (j ∈ n2)
  t3 : RtAt C H r3 fun j => decide (j ∈ n3)
theorem S2.ext {C : Addr} {H H' : Hp} {ds p1 p2 p3 r1 r2 r3 : Addr} {n1 n2 n3 : List Int} (s : S2 C H ds p1 p2 p3 r1 r2 r3 n1 n2 n3) (e : Ext H H') : S2 C H' ds p1 p2 p3 r1 r2 r3 n1 n2 n3 :=
  ⟨e _ _ s.d, e _ _ s.l1, e _ _ s.l2, e _ _ s.l3, s.t1.ext e, s.t2.ext e, s.t3.ext e⟩
def spLaw (K : PySem.W.Frag) : Sp := fun vs H Q _ => ∃ (a : Addr) (ns : List Int), vs = [.ref a] ∧ SqL K H a (ns.map V.int) ∧ ns.length ≤ 63 ∧ ∀ H', Q (.bl true) H'
/-- the drawn lists behind j turns -/
def Drawn (H : Hp) (D : Addr) (ps : List (Addr × List Int)) : Prop := ∀ x ∈ ps, x.1 ≠ D ∧ H x.1 = some (.lst (x.2.map V.int)) ∧ x.2.length ≤ 8 ∧ ∀ n ∈ x.2, 0 ≤ n ∧ n ≤ 15
theorem three {α : Type} : ∀ {l : List α}, l.length = 3 → ∃ a b c, l = [a, b, c]
  | [a, b, c], _ => ⟨a, b, c, rfl⟩
section
variable {P : Program} {w : World} {K : PySem.W.Frag} {mg : Str → Option Value} {base : Heap}
theorem ok__law_told {f : Addr} {fd : FuncData} (F : FunD K "_law_told" "_law_told" (defArgs S_law_told) (defBody S_law_told) (defScope S_law_told) [] [] f fd) (T : Txt K mg) (GR_contains : Ow.Dun P w K mg base CX0 1 (He.ga K "Rights") "__contains__" ["self", "number"] (Ow.spHas (He.ga K "Rights"))) : FnOk P w K mg base CX0 2 f fd ["_law_rights"] (Ow.spTold (He.ga K "Rights")) := by
  refine F.ok sc_law_told (fun vs H Q E h => ?_) (fun cdv A outer s H vs Q E hr h => ?_)
  · obtain ⟨a, S, rfl, _⟩ := h
    rfl
  · obtain ⟨a, S, rfl, ra, k⟩ := h
    refine ⟨_, PSs.nox (pss_one (ps_ret (pe_lc (own := [("_law_key", 1)]) rfl sc_law_told.nd (pi_range1 rfl T.z_range (pa_cons pe_int pa_nil)) (blkOk_by (own := [("_law_key", 1)]) (N := ["_law_rights", "_law_key"]) (sc := defScope S_law_told) (by decide +kernel)) (fun _ _ _ _ _ => by exact pg_name (i := 1) sc_law_told.nd rfl (by first | exact Or.inl rfl | exact Or.inr rfl)) (fun _ _ _ _ _ => by exact pts_one (pt_cmpR (Ow.od_in GR_contains (hr.mono (by decide)) pass0) (pv 1) (pv 0) (by rfl))) (fun _ _ _ _ _ => by exact (pv 1))))), ?_⟩
    refine ⟨_, rfl, by decide, by decide, fun D hD => compR 0 16 (fun z => decide (z ∈ ks S)) V.int hD (by decide) (fun z H' R _ e q => ?_) (fun z H' R _ e q => ⟨_, rfl, q⟩) ?_⟩
    · exact ⟨_, rfl, _, rfl, rtIn (ra.ext e) ⟨_, rfl, q⟩⟩
    · rw [up16, ks_congr (T := S) fun k h0 h1 => has_ks h0 h1]
      exact k D hD
theorem ok_law {f : Addr} {fd : FuncData} (F : FunD K "law" "law" (defArgs Slaw) (defBody Slaw) (defScope Slaw) [] [] f fd) (T : Txt K mg) (G_law_start : Ow.Glob P w K mg base CX0 1 "_law_start" ["_law_script"] (Ow.spStart K)) (G_law_some : Ow.Glob P w K mg base CX0 2 "_law_some" ["_law_state", "_law_most"] Ow.spSome) (G_law_told : Ow.Glob P w K mg base CX0 2 "_law_told" ["_law_rights"] (Ow.spTold (He.ga K "Rights"))) (GRights : Ow.Maker P w K mg base CX0 2 "Rights" (He.ga K "Rights") ["self", "numbers"] [] (Ow.spInit K (He.ga K "Rights"))) (GRights0 : Ow.Maker P w K mg base CX0 2 "Rights" (He.ga K "Rights") ["self", "numbers"] [.ref (He.dflAt ("Rights", some "__init__") 0 K)] (Ow.spInit K (He.ga K "Rights"))) (GR_or : Ow.Dun P w K mg base CX0 4 (He.ga K "Rights") "__or__" ["self", "other"] (Ow.spBin (He.ga K "Rights") (· || ·))) (GR_and : Ow.Dun P w K mg base CX0 4 (He.ga K "Rights") "__and__" ["self", "other"] (Ow.spBin (He.ga K "Rights") (· && ·))) (GR_sub : Ow.Dun P w K mg base CX0 4 (He.ga K "Rights") "__sub__" ["self", "other"] (Ow.spBin (He.ga K "Rights") (fun a b => a && !b))) (GR_xor : Ow.Dun P w K mg base CX0 4 (He.ga K "Rights") "__xor__" ["self", "other"] (Ow.spBin (He.ga K "Rights") (fun a b => a != b))) (GR_contains : Ow.Dun P w K mg base CX0 1 (He.ga K "Rights") "__contains__" ["self", "number"] (Ow.spHas (He.ga K "Rights"))) (GR_eq : Ow.Dun P w K mg base CX0 1 (He.ga K "Rights") "__eq__" ["self", "other"] (Ow.spEqR (He.ga K "Rights"))) (GR_within : Ow.Dun P w K mg base CX0 1 (He.ga K "Rights") "within" ["self", "other"] (Ow.spWithin (He.ga K "Rights"))) : FnOk P w K mg base CX0 8 f fd ["_law_script"] (spLaw K) := by
  refine F.ok sclaw (fun vs H Q E h => ?_) (fun cdv A outer s H vs Q E hr h => ?_)
  · obtain ⟨a, ns, rfl, _⟩ := h
    rfl
  · obtain ⟨a, ns, rfl, hS, hlen, k⟩ := h
    refine ⟨_, PSs.nox (pss_cons (ps_set (i := 1) sclaw.nd rfl (by first | exact Or.inl rfl | exact Or.inr rfl) (pe_g G_law_start (hr.mono (by decide)) pass0 (pa_cons (pv 0) pa_nil)))
      (pss_cons (ps_set (i := 2) sclaw.nd rfl (by first | exact Or.inl rfl | exact Or.inr rfl) (pe_lc (own := [("_law_k", 12)]) rfl sclaw.nd (pi_range1 rfl T.z_range (pa_cons pe_int pa_nil)) (blkOk_by (own := [("_law_k", 12)]) (N := ["_law_script", "_law_state", "_law_sets", "_law_one", "_law_two", "_law_three", "_law_key", "_law_first", "_law_second", "_law_inside", "_law_outside", "_law_told_here", "_law_k", "_law_numbers", "_law_rights"]) (sc := defScope Slaw) (by decide +kernel)) (fun _ _ _ _ _ => by exact pg_name (i := 12) sclaw.nd rfl (by first | exact Or.inl rfl | exact Or.inr rfl)) (fun _ _ _ _ _ => by exact pts_nil) (fun _ _ _ _ _ => by exact (pe_g G_law_some (hr.mono (by decide)) pass0 (pa_cons (pv 1) (pa_cons pe_int pa_nil))))))
      (pss_cons (ps_asg (pe_lc (own := [("_law_numbers", 13)]) rfl sclaw.nd (kpl (K := K) (pv 2)) (blkOk_by (own := [("_law_numbers", 13)]) (N := ["_law_script", "_law_state", "_law_sets", "_law_one", "_law_two", "_law_three", "_law_key", "_law_first", "_law_second", "_law_inside", "_law_outside", "_law_told_here", "_law_k", "_law_numbers", "_law_rights"]) (sc := defScope Slaw) (by decide +kernel)) (fun _ _ _ _ _ => by exact pg_name (i := 13) sclaw.nd rfl (by first | exact Or.inl rfl | exact Or.inr rfl)) (fun _ _ _ _ _ => by exact pts_nil) (fun _ _ _ _ _ => by exact (pe_mk GRights (hr.mono (by decide)) pass0 (pa_cons (pv 13) pa_nil)))) (pg_unl rfl (pgs_cons (pg_name (i := 3) sclaw.nd rfl (by first | exact Or.inl rfl | exact Or.inr rfl)) (pgs_cons (pg_name (i := 4) sclaw.nd rfl (by first | exact Or.inl rfl | exact Or.inr rfl)) (pgs_cons (pg_name (i := 5) sclaw.nd rfl (by first | exact Or.inl rfl | exact Or.inr rfl)) pgs_nil)))))
      (pss_cons (ps_for PassesOwn.never rfl (pi_range1 rfl T.z_range (pa_cons pe_int pa_nil)) (pg_name (i := 6) sclaw.nd rfl (by first | exact Or.inl rfl | exact Or.inr rfl))
       (pss_cons (ps_set (i := 7) sclaw.nd rfl (by first | exact Or.inl rfl | exact Or.inr rfl) (pe_cmpR (kin (K := K)) (pv 6) (pe_ix (kixl (K := K)) (pv 2) pe_int (fun _ _ => rfl)) (by rfl)))
        (pss_cons (ps_set (i := 8) sclaw.nd rfl (by first | exact Or.inl rfl | exact Or.inr rfl) (pe_cmpR (kin (K := K)) (pv 6) (pe_ix (kixl (K := K)) (pv 2) pe_int (fun _ _ => rfl)) (by rfl)))
        (C8.pss_cut (ps_if (PW.pt (pw_or (pt_cmpR op_ne (pe_cmpR (Ow.od_in GR_contains (hr.mono (by decide)) pass0) (pv 6) (pe_op (Ow.od_bin GR_or (hr.mono (by decide)) pass0 T.sf_Rights (by decide +kernel)) (pv 3) (pv 4)) (by rfl)) (pe_or (pv 7) (pe_one (pv 8))) (nomark _)) (pw_or1 (pt_cmpR op_ne (pe_cmpR (Ow.od_in GR_contains (hr.mono (by decide)) pass0) (pv 6) (pe_op (Ow.od_bin GR_and (hr.mono (by decide)) pass0 T.sf_Rights (by decide +kernel)) (pv 3) (pv 4)) (by rfl)) (pe_and (pv 7) (pe_one (pv 8))) (nomark _))))) (pss_one (ps_ret pe_bl)) pss_nil)
        (pss_one (ps_if (PW.pt (pw_or (pt_cmpR op_ne (pe_cmpR (Ow.od_in GR_contains (hr.mono (by decide)) pass0) (pv 6) (pe_op (Ow.od_bin GR_sub (hr.mono (by decide)) pass0 T.sf_Rights (by decide +kernel)) (pv 3) (pv 4)) (by rfl)) (pe_and (pv 7) (pe_one (pe_not (pv 8)))) (nomark _)) (pw_or1 (pt_cmpR op_ne (pe_cmpR (Ow.od_in GR_contains (hr.mono (by decide)) pass0) (pv 6) (pe_op (Ow.od_bin GR_xor (hr.mono (by decide)) pass0 T.sf_Rights (by decide +kernel)) (pv 3) (pv 4)) (by rfl)) (pe_cmpR op_ne (pv 7) (pv 8) (nomark _)) (nomark _))))) (pss_one (ps_ret pe_bl)) pss_nil))))))
      (pss_cons (ps_set (i := 9) sclaw.nd rfl (by first | exact Or.inl rfl | exact Or.inr rfl) (pe_cmpR (keqd (K := K) hr.units) (pe_lc (own := [("_law_key", 6)]) rfl sclaw.nd (kpl (K := K) (pe_ix (kixl (K := K)) (pv 2) pe_int (fun _ _ => rfl))) (blkOk_by (own := [("_law_key", 6)]) (N := ["_law_script", "_law_state", "_law_sets", "_law_one", "_law_two", "_law_three", "_law_key", "_law_first", "_law_second", "_law_inside", "_law_outside", "_law_told_here", "_law_k", "_law_numbers", "_law_rights"]) (sc := defScope Slaw) (by decide +kernel)) (fun _ _ _ _ _ => by exact pg_name (i := 6) sclaw.nd rfl (by first | exact Or.inl rfl | exact Or.inr rfl)) (fun _ _ _ _ _ => by exact pts_one (pt_cmpR (knotin (K := K)) (pv 6) (pe_ix (kixl (K := K)) (pv 2) pe_int (fun _ _ => rfl)) (by rfl))) (fun _ _ _ _ _ => by exact (pv 6))) (pe_lst pa_nil) (nomark _)))
      (pss_cons (ps_set (i := 10) sclaw.nd rfl (by first | exact Or.inl rfl | exact Or.inr rfl) (pe_cmpR (keqd (K := K) hr.units) (pe_lc (own := [("_law_key", 6)]) rfl sclaw.nd (kpl (K := K) (pe_ix (kixl (K := K)) (pv 2) pe_int (fun _ _ => rfl))) (blkOk_by (own := [("_law_key", 6)]) (N := ["_law_script", "_law_state", "_law_sets", "_law_one", "_law_two", "_law_three", "_law_key", "_law_first", "_law_second", "_law_inside", "_law_outside", "_law_told_here", "_law_k", "_law_numbers", "_law_rights"]) (sc := defScope Slaw) (by decide +kernel)) (fun _ _ _ _ _ => by exact pg_name (i := 6) sclaw.nd rfl (by first | exact Or.inl rfl | exact Or.inr rfl)) (fun _ _ _ _ _ => by exact pts_one (pt_cmpR (knotin (K := K)) (pv 6) (pe_ix (kixl (K := K)) (pv 2) pe_int (fun _ _ => rfl)) (by rfl))) (fun _ _ _ _ _ => by exact (pv 6))) (pe_lst pa_nil) (nomark _)))
      (pss_cons (ps_set (i := 11) sclaw.nd rfl (by first | exact Or.inl rfl | exact Or.inr rfl) (pe_lst (pa_cons (pe_m (pv 3) T.cl_Rights GR_within (hr.mono (by decide)) pass0 (pa_cons (pv 4) pa_nil)) (pa_cons (pe_m (pv 4) T.cl_Rights GR_within (hr.mono (by decide)) pass0 (pa_cons (pv 3) pa_nil)) (pa_cons (pe_m (pv 3) T.cl_Rights GR_within (hr.mono (by decide)) pass0 (pa_cons (pv 3) pa_nil)) (pa_cons (pe_m (pe_mk0 GRights0 (hr.mono (by decide)) pass0) T.cl_Rights GR_within (hr.mono (by decide)) pass0 (pa_cons (pv 3) pa_nil)) pa_nil))))))
      (C8.pss_cut (ps_if (PW.pt (pw_or (pt_cmpR (kned (K := K) hr.units) (pv 11) (pe_lst (pa_cons (pv 9) (pa_cons (pv 10) (pa_cons pe_bl (pa_cons pe_bl pa_nil))))) (nomark _)) (pw_or1 (pt_cmpR op_ne (pe_cmpR (Ow.od_eq GR_eq (hr.mono (by decide)) pass0) (pv 3) (pv 4) (nomark _)) (pe_and (pv 9) (pe_one (pv 10))) (nomark _))))) (pss_one (ps_ret pe_bl)) pss_nil)
      (pss_cons (ps_if (pt_not (pt_val (pe_callB (kisi (K := K)) (by rfl) T.z_isinstance (by decide +kernel) (pa_cons (pe_ix (kixl (K := K)) (pv 11) pe_int (fun _ _ => rfl)) (pa_cons (pe_bltn (v := .ty "bool") (by rfl) T.z_bool (by decide +kernel) rfl) pa_nil))))) (pss_one (ps_ret pe_bl)) pss_nil)
      (pss_cons (ps_if (pt_not (pt_cmpR (Ow.od_eq GR_eq (hr.mono (by decide)) pass0) (pe_op (Ow.od_bin GR_and (hr.mono (by decide)) pass0 T.sf_Rights (by decide +kernel)) (pe_op (Ow.od_bin GR_or (hr.mono (by decide)) pass0 T.sf_Rights (by decide +kernel)) (pv 3) (pv 4)) (pv 5)) (pe_op (Ow.od_bin GR_or (hr.mono (by decide)) pass0 T.sf_Rights (by decide +kernel)) (pe_op (Ow.od_bin GR_and (hr.mono (by decide)) pass0 T.sf_Rights (by decide +kernel)) (pv 3) (pv 5)) (pe_op (Ow.od_bin GR_and (hr.mono (by decide)) pass0 T.sf_Rights (by decide +kernel)) (pv 4) (pv 5))) (nomark _))) (pss_one (ps_ret pe_bl)) pss_nil)
      (C8.pss_cut (ps_if (PW.pt (pw_or (pt_not (pt_cmpR (Ow.od_eq GR_eq (hr.mono (by decide)) pass0) (pe_op (Ow.od_bin GR_sub (hr.mono (by decide)) pass0 T.sf_Rights (by decide +kernel)) (pe_op (Ow.od_bin GR_sub (hr.mono (by decide)) pass0 T.sf_Rights (by decide +kernel)) (pv 3) (pv 4)) (pv 5)) (pe_op (Ow.od_bin GR_sub (hr.mono (by decide)) pass0 T.sf_Rights (by decide +kernel)) (pv 3) (pe_op (Ow.od_bin GR_or (hr.mono (by decide)) pass0 T.sf_Rights (by decide +kernel)) (pv 4) (pv 5))) (nomark _))) (pw_or1 (pt_not (pt_cmpR (Ow.od_eq GR_eq (hr.mono (by decide)) pass0) (pe_op (Ow.od_bin GR_xor (hr.mono (by decide)) pass0 T.sf_Rights (by decide +kernel)) (pe_op (Ow.od_bin GR_xor (hr.mono (by decide)) pass0 T.sf_Rights (by decide +kernel)) (pv 3) (pv 4)) (pv 5)) (pe_op (Ow.od_bin GR_xor (hr.mono (by decide)) pass0 T.sf_Rights (by decide +kernel)) (pv 3) (pe_op (Ow.od_bin GR_xor (hr.mono (by decide)) pass0 T.sf_Rights (by decide +kernel)) (pv 4) (pv 5))) (nomark _)))))) (pss_one (ps_ret pe_bl)) pss_nil)
      (C8.pss_cut (ps_if (PW.pt (pw_or (pt_not (pt_cmpR (Ow.od_eq GR_eq (hr.mono (by decide)) pass0) (pe_op (Ow.od_bin GR_xor (hr.mono (by decide)) pass0 T.sf_Rights (by decide +kernel)) (pv 3) (pv 4)) (pe_op (Ow.od_bin GR_sub (hr.mono (by decide)) pass0 T.sf_Rights (by decide +kernel)) (pe_op (Ow.od_bin GR_or (hr.mono (by decide)) pass0 T.sf_Rights (by decide +kernel)) (pv 3) (pv 4)) (pe_op (Ow.od_bin GR_and (hr.mono (by decide)) pass0 T.sf_Rights (by decide +kernel)) (pv 3) (pv 4))) (nomark _))) (pw_or1 (pt_cmpR (kned (K := K) hr.units) (kfld (K := K) (pe_op (Ow.od_bin GR_sub (hr.mono (by decide)) pass0 T.sf_Rights (by decide +kernel)) (pv 3) (pv 3))) (pe_tup pa_nil) (nomark _))))) (pss_one (ps_ret pe_bl)) pss_nil)
      (pss_one (ps_ret (pe_cmpR (keqd (K := K) hr.units) (pe_lc (own := [("_law_rights", 14)]) rfl sclaw.nd (kpl (K := K) (pe_lst (pa_cons (pv 3) (pa_cons (pv 4) (pa_cons (pv 5) pa_nil))))) (blkOk_by (own := [("_law_rights", 14)]) (N := ["_law_script", "_law_state", "_law_sets", "_law_one", "_law_two", "_law_three", "_law_key", "_law_first", "_law_second", "_law_inside", "_law_outside", "_law_told_here", "_law_k", "_law_numbers", "_law_rights"]) (sc := defScope Slaw) (by decide +kernel)) (fun _ _ _ _ _ => by exact pg_name (i := 14) sclaw.nd rfl (by first | exact Or.inl rfl | exact Or.inr rfl)) (fun _ _ _ _ _ => by exact pts_nil) (fun _ _ _ _ _ => by exact (pe_g G_law_told (hr.mono (by decide)) pass0 (pa_cons (pv 14) pa_nil)))) (pe_lc (own := [("_law_numbers", 13)]) rfl sclaw.nd (kpl (K := K) (pv 2)) (blkOk_by (own := [("_law_numbers", 13)]) (N := ["_law_script", "_law_state", "_law_sets", "_law_one", "_law_two", "_law_three", "_law_key", "_law_first", "_law_second", "_law_inside", "_law_outside", "_law_told_here", "_law_k", "_law_numbers", "_law_rights"]) (sc := defScope Slaw) (by decide +kernel)) (fun _ _ _ _ _ => by exact pg_name (i := 13) sclaw.nd rfl (by first | exact Or.inl rfl | exact Or.inr rfl)) (fun _ _ _ _ _ => by exact pts_nil) (fun _ _ _ _ _ => by exact (pe_callB (ksorted (w := w) rfl) (by rfl) T.z_sorted (by decide +kernel) (pa_cons (pe_callTy (kset (K := K) (w := w) rfl) (by rfl) T.z_set boot_set (pa_cons (pv 13) pa_nil)) pa_nil)))) (nomark _)))))))))))))))), ?_⟩
    refine ⟨_, rfl, a, ns, rfl, hS, hlen, fun st c H1 e1 nst nc s1 => ?_⟩
    -- sets
    refine ⟨_, rfl, by decide, by decide, fun D hD => lc_range (lo := 0) (n := 3) (fun j G => ∃ ps : List (Addr × List Int), ps.length = j ∧ G D = some (.lst (ps.map fun x => V.ref x.1)) ∧ StAt G st c (41 * j) ∧ Drawn G D ps)
      ⟨[], rfl, upd_same, s1.ext (Ext.upd hD), fun x h => by cases h⟩ ?_ ?_⟩
    · rintro j G hj ⟨ps, hl, hd, s2, dr⟩
      refine ⟨rfl, _, rfl, st, c, 41 * j, 8, rfl, s2, by omega, by decide, by decide, fun p ms G2 hm1 hm2 s3 k3 np hp => ?_⟩
      have nDst : D ≠ st := fun e => by
        obtain ⟨i, cur, n, zs, w1, w2, _⟩ := s1
        rw [e, w1] at hD; cases hD
      have npD : p ≠ D := fun e => by rw [e, hd] at np; cases np
      refine ⟨_, k3 _ _ nDst hd, small1000 (by rw [List.length_map]; omega), ps ++ [(p, ms)], by rw [List.length_append, hl]; rfl, by rw [upd_same, List.map_append]; rfl, ?_, ?_⟩
      · obtain ⟨i, cur, n, zs, q1, q2, q3⟩ := s3
        have ncD : c ≠ D := fun e => by
          obtain ⟨_, _, _, _, _, w2, _⟩ := s1
          rw [← e, w2] at hD; cases hD
        exact ⟨i, cur, n, zs, by rw [upd_ne nDst.symm]; exact q1, by rw [upd_ne ncD]; exact q2, q3⟩
      · intro x hx
        rcases List.mem_append.mp hx with hx | hx
        · obtain ⟨d1, d2, d3⟩ := dr x hx
          exact ⟨d1, by rw [upd_ne d1]; exact k3 _ _ (s2.ints d2) d2, d3⟩
        · rw [List.mem_singleton.mp hx]
          exact ⟨npD, by rw [upd_ne npD]; exact hp, by show ms.length ≤ 8; omega, hm2⟩
    rintro G ⟨ps, hl, hd, s2, dr⟩
    obtain ⟨⟨p1, n1⟩, ⟨p2, n2⟩, ⟨p3, n3⟩, rfl⟩ := three hl
    obtain ⟨_, l1, b1, c1⟩ := dr (p1, n1) (by simp)
    obtain ⟨_, l2, b2, c2⟩ := dr (p2, n2) (by simp)
    obtain ⟨_, l3, b3, c3⟩ := dr (p3, n3) (by simp)
    dsimp only at l1 b1 c1 l2 b2 c2 l3 b3 c3
    -- one, two, three
    refine ⟨_, rfl, D, rfl, ⟨_, SqL.of hd⟩, fun D2 hD2 => lc_list (K := K) (a := D) (xs := [.ref p1, .ref p2, .ref p3]) (fun j G2 => ∃ xs : List V, G2 D2 = some (.lst xs) ∧ xs.length = j ∧ Ext G G2 ∧ Paired (fun v (ns : List Int) => ∃ r, v = V.ref r ∧ RtAt (He.ga K "Rights") G2 r fun z => decide (z ∈ ns)) xs ([n1, n2, n3].take j))
      ⟨[], upd_same, rfl, Ext.upd hD2, .nil⟩ (fun j G2 _ ⟨_, _, _, e, _⟩ => SqL.of (e _ _ hd)) ?_ ?_⟩
    · rintro j x G2 hj ⟨xs, g1, g2, e, pr⟩
      obtain ⟨p, ms, hx, hms, hl, b, cc⟩ : ∃ (p : Addr) (ms : List Int), x = .ref p ∧ [n1, n2, n3][j]? = some ms ∧ G p = some (.lst (ms.map V.int)) ∧ ms.length ≤ 8 ∧ ∀ n ∈ ms, 0 ≤ n ∧ n ≤ 15 := by
        match j, hj with
        | 0, hj => exact ⟨p1, n1, (Option.some.inj hj).symm, rfl, l1, b1, c1⟩
        | 1, hj => exact ⟨p2, n2, (Option.some.inj hj).symm, rfl, l2, b2, c2⟩
        | 2, hj => exact ⟨p3, n3, (Option.some.inj hj).symm, rfl, l3, b3, c3⟩
        | j + 3, hj => simp at hj
      subst hx
      have jl := (List.getElem?_eq_some_iff.mp hms).1
      refine ⟨rfl, _, rfl, fun r dx nr ndx ne => mkRx (.inl (SqL.of (e _ _ hl))) (by omega) cc nr ndx ne fun G3 e3 rt => ⟨rfl, ?_⟩⟩
      have gD2 := e3 _ _ g1
      refine ⟨xs, gD2, small1000 (by simp at jl; omega), xs ++ [.ref r], upd_same, by rw [List.length_append, g2]; rfl, fun b o hb => ?_, ?_⟩
      · rw [upd_ne (ne_of_none hb hD2)]
        exact e3 _ _ (e b o hb)
      · have tk : [n1, n2, n3].take (j + 1) = [n1, n2, n3].take j ++ [ms] := by rw [List.take_add_one, hms]; rfl
        rw [tk]
        exact Paired.snoc (Paired.mapP pr fun v ns ⟨r, h1, h2⟩ => ⟨r, h1, (h2.ext e3).put gD2⟩) ⟨r, rfl, rt.put gD2⟩
    rintro G2 ⟨xs, g1, g2, e2, pr⟩
    obtain ⟨x1, x2, x3, rfl⟩ := three g2
    obtain ⟨r1, r2, r3, rfl, rfl, rfl, t1, t2, t3⟩ : ∃ r1 r2 r3, x1 = V.ref r1 ∧ x2 = V.ref r2 ∧ x3 = V.ref r3 ∧ RtAt (He.ga K "Rights") G2 r1 (fun z => decide (z ∈ n1)) ∧ RtAt (He.ga K "Rights") G2 r2 (fun z => decide (z ∈ n2)) ∧ RtAt (He.ga K "Rights") G2 r3 (fun z => decide (z ∈ n3)) := by
      cases pr with
      | cons h1 pr =>
        cases pr with
        | cons h2 pr =>
          cases pr with
          | cons h3 pr =>
            obtain ⟨r1, a1, a2⟩ := h1
            obtain ⟨r2, a3, a4⟩ := h2
            obtain ⟨r3, a5, a6⟩ := h3
            exact ⟨r1, r2, r3, a1, a3, a5, a2, a4, a6⟩
    have S : S2 (He.ga K "Rights") G2 D p1 p2 p3 r1 r2 r3 n1 n2 n3 := ⟨e2 _ _ hd, e2 _ _ l1, e2 _ _ l2, e2 _ _ l3, t1, t2, t3⟩
    refine ⟨D2, _, rfl, SqL.of g1, rfl, _, _, rfl, _, _, rfl, _, _, rfl, rfl, ?_⟩
    clear pr e2 t1 t2 t3 l1 l2 l3 hd g1 s2 dr
    -- for key in range(16)
    refine ⟨_, rfl, by decide, by decide, for_range (lo := 0) (n := 16) (fun i σ G => ∃ v6 v7 v8 : Option V, σ = [some (.ref a), some (.ref st), some (.ref D), some (.ref r1), some (.ref r2), some (.ref r3), v6, v7, v8, none, none, none, none, none, none] ∧ S2 (He.ga K "Rights") G D p1 p2 p3 r1 r2 r3 n1 n2 n3)
      ⟨none, none, none, rfl, S⟩ ?_ ?_⟩
    · rintro i σ G hi ⟨v6, v7, v8, rfl, S⟩
      have h0 : (0 : Int) ≤ 0 + (i : Int) := by omega
      have h1 : (0 : Int) + (i : Int) < 16 := by omega
      refine ⟨_, rfl, _, rfl, D, _, _, _, rfl, rfl, SqL.of S.d, rfl, in_ints (.inl (SqL.of S.l1)) ?_⟩
      refine ⟨_, rfl, _, rfl, D, _, _, _, rfl, rfl, SqL.of S.d, rfl, in_ints (.inl (SqL.of S.l2)) ?_⟩
      refine ⟨fun σ' G' => σ' = [some (.ref a), some (.ref st), some (.ref D), some (.ref r1), some (.ref r2), some (.ref r3), some (.int (0 + (i : Int))), some (.bl (decide ((0 + (i : Int)) ∈ n1))), some (.bl (decide ((0 + (i : Int)) ∈ n2))), none, none, none, none, none, none] ∧ Ext G G', ?_, ?_⟩
      · refine ⟨_, rfl, _, rfl, _, rfl, rtBin S.t1 S.t2 fun x G1 f1 _ q1 => rtIn q1 (orV rfl rfl (neB ⟨_, rfl, iteFf (neSame (has_ks h0 h1)) ?_⟩))⟩
        exact ⟨_, rfl, _, rfl, _, rfl, rtBin (S.t1.ext f1) (S.t2.ext f1) fun x G3 f2 _ q2 => rtIn q2 (andV rfl rfl (neB ⟨_, rfl, iteFf (neSame (has_ks h0 h1)) ⟨rfl, f1.trans f2⟩⟩))⟩
      rintro σ' G' ⟨rfl, eG⟩
      have S := S.ext eG
      refine ⟨_, rfl, _, rfl, _, rfl, rtBin S.t1 S.t2 fun x G1 f1 _ q1 => rtIn q1 (andNotV rfl rfl (neB ⟨_, rfl, iteFf (neSame (has_ks h0 h1)) ?_⟩))⟩
      exact ⟨_, rfl, _, rfl, _, rfl, rtBin (S.t1.ext f1) (S.t2.ext f1) fun x G3 f2 _ q2 => rtIn q2 ⟨_, rfl, _, rfl, neB (neB ⟨_, rfl, iteFf (neSame (has_ks h0 h1)) ⟨_, _, _, rfl, S.ext (f1.trans f2)⟩⟩)⟩⟩
    rintro σ G ⟨v6, v7, v8, rfl, S⟩
    have fil : ∀ xs ys : List Int, xs.length ≤ 8 → xs.length ≤ 1000 := fun xs ys h => by omega
    -- inside
    refine ⟨_, rfl, D, _, _, _, rfl, rfl, SqL.of S.d, rfl, p1, rfl, ⟨_, SqL.of S.l1⟩, fun E1 hE1 => compL n1 V.int (fun z => !decide (z ∈ n2)) V.int (SqL.of S.l1) hE1 (by omega) (fun z H' R _ e q => ⟨_, rfl, _, rfl, D, _, _, _, rfl, rfl, SqL.of (e _ _ S.d), rfl, in_ints (.inl (SqL.of (e _ _ S.l2))) ⟨_, rfl, q⟩⟩) (fun z H' R _ e q => ⟨_, rfl, q⟩) ?_⟩
    refine ⟨(by show 0 ≤ sizeLine; decide), fun E2 hE2 => eqd_list (SqL.of (Ext.upd hE2 _ _ upd_same)) (SqL.of upd_same : SqL K _ E2 (([] : List Int).map V.int)) ?_⟩
    have S := S.ext ((Ext.upd (o := .lst ((n1.filter fun z => !decide (z ∈ n2)).map V.int)) hE1).trans (Ext.upd (o := .lst []) hE2))
    generalize upd (upd G E1 (.lst ((n1.filter fun z => !decide (z ∈ n2)).map V.int))) E2 (.lst []) = G3 at *
    refine ⟨_, rfl, D, _, _, _, rfl, rfl, SqL.of S.d, rfl, p2, rfl, ⟨_, SqL.of S.l2⟩, fun E1 hE1 => compL n2 V.int (fun z => !decide (z ∈ n1)) V.int (SqL.of S.l2) hE1 (by omega) (fun z H' R _ e q => ⟨_, rfl, _, rfl, D, _, _, _, rfl, rfl, SqL.of (e _ _ S.d), rfl, in_ints (.inl (SqL.of (e _ _ S.l1))) ⟨_, rfl, q⟩⟩) (fun z H' R _ e q => ⟨_, rfl, q⟩) ?_⟩
    refine ⟨(by show 0 ≤ sizeLine; decide), fun E2 hE2 => eqd_list (SqL.of (Ext.upd hE2 _ _ upd_same)) (SqL.of upd_same : SqL K _ E2 (([] : List Int).map V.int)) ?_⟩
    have S := S.ext ((Ext.upd (o := .lst ((n2.filter fun z => !decide (z ∈ n1)).map V.int)) hE1).trans (Ext.upd (o := .lst []) hE2))
    generalize upd (upd G3 E1 (.lst ((n2.filter fun z => !decide (z ∈ n1)).map V.int))) E2 (.lst []) = G4 at *
    rw [← wi_lists c1, ← wi_lists c2]
    -- told_here
    obtain ⟨dx1, fs1, ob1⟩ := id S.t1
    obtain ⟨dx2, fs2, ob2⟩ := id S.t2
    refine ⟨_, rfl, r1, dx1, _, rfl, ob1.1, lkW, _, rfl, r1, r2, _, _, rfl, S.t1, S.t2, fun G5 e5 => ?_⟩
    have S := S.ext e5
    refine ⟨_, rfl, r2, dx2, _, rfl, e5 _ _ ob2.1, lkW, _, rfl, r2, r1, _, _, rfl, S.t2, S.t1, fun G6 e6 => ?_⟩
    have S := S.ext e6
    refine ⟨_, rfl, r1, dx1, _, rfl, e6 _ _ (e5 _ _ ob1.1), lkW, _, rfl, r1, r1, _, _, rfl, S.t1, S.t1, fun G7 e7 => ?_⟩
    have S := S.ext e7
    refine fun r0 dx0 nr0 ndx0 ne0 => mkRx (ns := []) (.inr (T.e_Rights _)) (by decide) (by decide) nr0 ndx0 ne0 fun G8 e8 rt0 => ⟨rfl, ?_⟩
    have S := S.ext e8
    obtain ⟨dx3, fs3, ob3⟩ := id rt0
    refine ⟨r0, dx3, _, rfl, ob3.1, lkW, _, rfl, r0, r1, _, _, rfl, rt0, S.t1, fun G9 e9 => ?_⟩
    have S := S.ext e9
    refine ⟨(by show 4 ≤ sizeLine; decide), fun tl ntl => ?_⟩
    have S := S.ext (Ext.upd (o := .lst [V.bl (wi (fun j => decide (j ∈ n1)) fun j => decide (j ∈ n2)), .bl (wi (fun j => decide (j ∈ n2)) fun j => decide (j ∈ n1)), .bl (wi (fun j => decide (j ∈ n1)) fun j => decide (j ∈ n1)), .bl (wi (fun j => decide (j ∈ ([] : List Int))) fun j => decide (j ∈ n1))]) ntl)
    have htl := upd_same (H := G9) (a := tl) (o := .lst [V.bl (wi (fun j => decide (j ∈ n1)) fun j => decide (j ∈ n2)), .bl (wi (fun j => decide (j ∈ n2)) fun j => decide (j ∈ n1)), .bl (wi (fun j => decide (j ∈ n1)) fun j => decide (j ∈ n1)), .bl (wi (fun j => decide (j ∈ ([] : List Int))) fun j => decide (j ∈ n1))])
    generalize upd G9 tl _ = GA at *
    clear ob1 ob2 ob3 e5 e6 e7 e8 e9
    refine ⟨fun σ' G' => σ' = [some (.ref a), some (.ref st), some (.ref D), some (.ref r1), some (.ref r2), some (.ref r3), v6, v7, v8, some (.bl (wi (fun j => decide (j ∈ n1)) fun j => decide (j ∈ n2))), some (.bl (wi (fun j => decide (j ∈ n2)) fun j => decide (j ∈ n1))), some (.ref tl), none, none, none] ∧ Ext GA G', ?_, ?_⟩
    · refine ⟨_, rfl, _, rfl, _, rfl, (by show 4 ≤ sizeLine; decide), fun l2 nl2 => ?_⟩
      refine ned_bools (ns := [wi (fun j => decide (j ∈ n1)) fun j => decide (j ∈ n2), wi (fun j => decide (j ∈ n2)) fun j => decide (j ∈ n1), wi (fun j => decide (j ∈ n1)) fun j => decide (j ∈ n1), wi (fun j => decide (j ∈ ([] : List Int))) fun j => decide (j ∈ n1)]) (ms := [wi (fun j => decide (j ∈ n1)) fun j => decide (j ∈ n2), wi (fun j => decide (j ∈ n2)) fun j => decide (j ∈ n1), true, true]) (SqL.of (Ext.upd nl2 _ _ htl)) (SqL.of upd_same) ⟨_, rfl, iteFf (notSame (by rw [wi_refl, wi_none])) ?_⟩
      have S := S.ext (Ext.upd (o := .lst [V.bl (wi (fun j => decide (j ∈ n1)) fun j => decide (j ∈ n2)), .bl (wi (fun j => decide (j ∈ n2)) fun j => decide (j ∈ n1)), .bl true, .bl true]) nl2)
      exact ⟨_, rfl, _, rfl, rtEq S.t1 S.t2 (andV rfl rfl (neB ⟨_, rfl, iteFf (neSame wi_eq) ⟨rfl, Ext.upd nl2⟩⟩))⟩
    rintro σ' GB ⟨rfl, eB⟩
    have S := S.ext eB
    refine ⟨_, rfl, tl, _, _, _, rfl, rfl, SqL.of (eB _ _ htl), rfl, _, _, _, _, true, rfl, .ty _, .base (.bl _), kit_ty (by decide +kernel), _, rfl, iteF ?_⟩
    -- (a or b) and c
    refine ⟨_, rfl, _, rfl, rtBin S.t1 S.t2 fun y1 J1 f1 _ q1 => ⟨_, rfl, rtBin q1 (S.t3.ext f1) fun y2 J2 f2 _ q2 => ?_⟩⟩
    have S := S.ext (f1.trans f2)
    refine ⟨_, rfl, _, rfl, rtBin S.t1 S.t3 fun y3 J3 f3 _ q3 => ⟨_, rfl, _, rfl, rtBin (S.t2.ext f3) (S.t3.ext f3) fun y4 J4 f4 _ q4 => rtBin (q3.ext f4) q4 fun y5 J5 f5 _ q5 => rtEq (q2.ext (f3.trans (f4.trans f5))) q5 ⟨_, rfl, iteFf (notSame (ks_congr fun z _ _ => ?_)) ?_⟩⟩⟩
    · show ((decide (z ∈ n1) || decide (z ∈ n2)) && decide (z ∈ n3)) = ((decide (z ∈ n1) && decide (z ∈ n3)) || (decide (z ∈ n2) && decide (z ∈ n3)))
      cases decide (z ∈ n1) <;> cases decide (z ∈ n2) <;> cases decide (z ∈ n3) <;> rfl
    have S := S.ext (f3.trans (f4.trans f5))
    clear q1 q2 q3 q4 q5 f1 f2 f3 f4 f5
    -- a - b - c, (a ^ b) ^ c
    refine ⟨fun σ' G' => σ' = [some (.ref a), some (.ref st), some (.ref D), some (.ref r1), some (.ref r2), some (.ref r3), v6, v7, v8, some (.bl (wi (fun j => decide (j ∈ n1)) fun j => decide (j ∈ n2))), some (.bl (wi (fun j => decide (j ∈ n2)) fun j => decide (j ∈ n1))), some (.ref tl), none, none, none] ∧ Ext J5 G', ?_, ?_⟩
    · refine ⟨_, rfl, _, rfl, rtBin S.t1 S.t2 fun y1 J1 f1 _ q1 => ⟨_, rfl, rtBin q1 (S.t3.ext f1) fun y2 J2 f2 _ q2 => ?_⟩⟩
      have S := S.ext (f1.trans f2)
      refine ⟨_, rfl, _, rfl, _, rfl, rtBin S.t2 S.t3 fun y3 J3 f3 _ q3 => rtBin (S.t1.ext f3) q3 fun y4 J4 f4 _ q4 => rtEq (q2.ext (f3.trans f4)) q4 ⟨_, rfl, iteFf (notSame (ks_congr fun z _ _ => ?_)) ?_⟩⟩
      · show ((decide (z ∈ n1) && !decide (z ∈ n2)) && !decide (z ∈ n3)) = (decide (z ∈ n1) && !(decide (z ∈ n2) || decide (z ∈ n3)))
        cases decide (z ∈ n1) <;> cases decide (z ∈ n2) <;> cases decide (z ∈ n3) <;> rfl
      have S := S.ext (f3.trans f4)
      refine ⟨_, rfl, _, rfl, rtBin S.t1 S.t2 fun z1 L1 g1 _ w1 => ⟨_, rfl, rtBin w1 (S.t3.ext g1) fun z2 L2 g2 _ w2 => ?_⟩⟩
      have S := S.ext (g1.trans g2)
      refine ⟨_, rfl, _, rfl, _, rfl, rtBin S.t2 S.t3 fun z3 L3 g3 _ w3 => rtBin (S.t1.ext g3) w3 fun z4 L4 g4 _ w4 => rtEq (w2.ext (g3.trans g4)) w4 ⟨_, rfl, iteFf (notSame (ks_congr fun z _ _ => ?_)) ⟨rfl, (f1.trans (f2.trans (f3.trans f4))).trans (g1.trans (g2.trans (g3.trans g4)))⟩⟩⟩
      show ((decide (z ∈ n1) != decide (z ∈ n2)) != decide (z ∈ n3)) = (decide (z ∈ n1) != (decide (z ∈ n2) != decide (z ∈ n3)))
      cases decide (z ∈ n1) <;> cases decide (z ∈ n2) <;> cases decide (z ∈ n3) <;> rfl
    rintro σ' GC ⟨rfl, eC⟩
    have S := S.ext eC
    refine ⟨fun σ' G' => σ' = [some (.ref a), some (.ref st), some (.ref D), some (.ref r1), some (.ref r2), some (.ref r3), v6, v7, v8, some (.bl (wi (fun j => decide (j ∈ n1)) fun j => decide (j ∈ n2))), some (.bl (wi (fun j => decide (j ∈ n2)) fun j => decide (j ∈ n1))), some (.ref tl), none, none, none] ∧ Ext GC G', ?_, ?_⟩
    · refine ⟨_, rfl, _, rfl, rtBin S.t1 S.t2 fun y1 J1 f1 _ q1 => ?_⟩
      have S := S.ext f1
      refine ⟨_, rfl, _, rfl, rtBin S.t1 S.t2 fun y2 J2 f2 _ q2 => ⟨_, rfl, _, rfl, rtBin (S.t1.ext f2) (S.t2.ext f2) fun y3 J3 f3 _ q3 => rtBin (q2.ext f3) q3 fun y4 J4 f4 _ q4 => rtEq (q1.ext (f2.trans (f3.trans f4))) q4 ⟨_, rfl, iteFf (notSame (ks_congr fun z _ _ => ?_)) ?_⟩⟩⟩
      · show (decide (z ∈ n1) != decide (z ∈ n2)) = ((decide (z ∈ n1) || decide (z ∈ n2)) && !(decide (z ∈ n1) && decide (z ∈ n2)))
        cases decide (z ∈ n1) <;> cases decide (z ∈ n2) <;> rfl
      have S := S.ext (f2.trans (f3.trans f4))
      refine ⟨_, rfl, _, rfl, rtBin S.t1 S.t1 fun y5 J5 f5 _ q5 => ?_⟩
      obtain ⟨dx5, t5, o5, h5⟩ := q5
      refine ⟨y5, _, dx5, _, _, rfl, o5, T.cl_Rights, T.na_Rights_numbers, lk1, (by show 0 ≤ sizeLine; decide), fun l nl => ned_tup (SqT.of (Ext.upd nl _ _ h5)) (SqT.of upd_same : SqT K _ l (([] : List Int).map V.int)) ⟨_, rfl, iteFf (notSame ?_) ⟨rfl, f1.trans (f2.trans (f3.trans (f4.trans (f5.trans (Ext.upd nl)))))⟩⟩⟩
      refine List.eq_nil_iff_forall_not_mem.mpr fun z hz => ?_
      have := (mem_ks.mp hz).2
      simp at this
    rintro σ' GD ⟨rfl, eD⟩
    have S := S.ext eD
    -- the last row
    refine ⟨_, rfl, _, rfl, _, rfl, (by show 3 ≤ sizeLine; decide), fun l3 nl3 => ⟨l3, rfl, ⟨_, SqL.of upd_same⟩, fun F1 nF1 => ?_⟩⟩
    have S := S.ext (Ext.upd (o := .lst [V.ref r1, .ref r2, .ref r3]) nl3)
    refine compRows (xs := [.ref r1, .ref r2, .ref r3]) (nss := [ks fun j => decide (j ∈ n1), ks fun j => decide (j ∈ n2), ks fun j => decide (j ∈ n3)]) rfl (SqL.of upd_same) nF1 (by show 3 ≤ 1000; decide) (fun j x ms H' R hx hm e q => ?_) fun GE ls eE hF rows => ?_
    · obtain ⟨r, U, rfl, rU, rfl⟩ : ∃ r U, x = V.ref r ∧ RtAt (He.ga K "Rights") H' r U ∧ ms = ks U := by
        match j, hx, hm with
        | 0, hx, hm => exact ⟨r1, _, (Option.some.inj hx).symm, S.t1.ext e, (Option.some.inj hm).symm⟩
        | 1, hx, hm => exact ⟨r2, _, (Option.some.inj hx).symm, S.t2.ext e, (Option.some.inj hm).symm⟩
        | 2, hx, hm => exact ⟨r3, _, (Option.some.inj hx).symm, S.t3.ext e, (Option.some.inj hm).symm⟩
        | j + 3, hx, hm => simp at hx
      exact ⟨_, rfl, r, U, rfl, rU, fun p np => q p _ (Ext.upd np) np upd_same⟩
    have S := S.ext eE
    refine ⟨_, rfl, D, rfl, ⟨_, SqL.of S.d⟩, fun F2 nF2 => compRows (xs := [.ref p1, .ref p2, .ref p3]) (nss := [ks fun j => decide (j ∈ n1), ks fun j => decide (j ∈ n2), ks fun j => decide (j ∈ n3)]) rfl (SqL.of S.d) nF2 (by show 3 ≤ 1000; decide) (fun j x ms H' R hx hm e q => ?_) fun GF ls2 eF hF2 rows2 => ?_⟩
    · obtain ⟨p, zs, rfl, hp, rfl, bz, cz⟩ : ∃ (p : Addr) (zs : List Int), x = V.ref p ∧ H' p = some (.lst (zs.map V.int)) ∧ ms = (ks fun j => decide (j ∈ zs)) ∧ zs.length ≤ 8 ∧ ∀ n ∈ zs, 0 ≤ n ∧ n ≤ 15 := by
        match j, hx, hm with
        | 0, hx, hm => exact ⟨p1, n1, (Option.some.inj hx).symm, e _ _ S.l1, (Option.some.inj hm).symm, b1, c1⟩
        | 1, hx, hm => exact ⟨p2, n2, (Option.some.inj hx).symm, e _ _ S.l2, (Option.some.inj hm).symm, b2, c2⟩
        | 2, hx, hm => exact ⟨p3, n3, (Option.some.inj hx).symm, e _ _ S.l3, (Option.some.inj hm).symm, b3, c3⟩
        | j + 3, hx, hm => simp at hx
      refine ⟨_, rfl, p, zs, rfl, .inl (SqL.of hp), by omega, fun qs cs hq hc => ⟨qs, _, _, rfl, upd_same, by omega, fun ms' m hso hmem hlen2 hm2 => ?_⟩⟩
      rw [← sortedKs hso hmem cz] at q
      exact q m _ ((Ext.upd hq).trans (Ext.upd hm2)) (Ow.Ext.free (Ext.upd hq) hm2) upd_same
    have rows1 : Rows K GF ls [ks fun j => decide (j ∈ n1), ks fun j => decide (j ∈ n2), ks fun j => decide (j ∈ n3)] := rows.ext eF
    refine eqd_rows (SqL.of (eF _ _ hF)) (SqL.of hF2) rows1 rows2 ?_
    rw [decide_eq_true rfl]
    exact k GF
end
end K02

namespace K02
open PySem PySem.Spec PyProof.Rows L2 Ow
theorem facts {P : Program} {w : World} {K : PySem.W.Frag} {h : Heap} {mg : Str → Option Value} {f : Addr} (X : K.In h) (G : h.Ns mainGlobals mg) (hfa : mg ("law" : Str) = some (.ref f)) (c : He.SaysD fa fn K) (cx : ex K = true) :
    ∃ fd : FuncData, (∀ (s : Shared) (v : Value), BindsTo s fd ⟨[v], []⟩ [("_law_script", v)]) ∧ ∀ base : Heap, K.In base → base.Ns mainGlobals mg → FnOk P w K mg base CX0 8 f fd ["_law_script"] (spLaw K) := by
  have T : Txt K mg :=
    { z_all := He.free_ok X G (c.fact 19 (f := .free "all") rfl),
      z_bool := He.free_ok X G (c.fact 20 (f := .free "bool") rfl),
      z_int := He.free_ok X G (c.fact 21 (f := .free "int") rfl),
      z_isinstance := He.free_ok X G (c.fact 22 (f := .free "isinstance") rfl),
      z_len := He.free_ok X G (c.fact 23 (f := .free "len") rfl),
      z_list := He.free_ok X G (c.fact 24 (f := .free "list") rfl),
      z_range := He.free_ok X G (c.fact 25 (f := .free "range") rfl),
      z_set := He.free_ok X G (c.fact 26 (f := .free "set") rfl),
      z_sorted := He.free_ok X G (c.fact 27 (f := .free "sorted") rfl),
      z_tuple := He.free_ok X G (c.fact 28 (f := .free "tuple") rfl),
      g_Rights := He.glo_ok X G (c.fact 6 (f := .glo "Rights") rfl),
      cl_Rights := He.cls_ok (c.fact 7 (f := .cls "Rights") rfl),
      mk_Rights := He.mkr_ok (c.fact 8 (f := .mkr "Rights") rfl),
      na_Rights_numbers := He.noat_ok (c.fact 9 (f := .noat "Rights" "numbers") rfl),
      m_Rights_or := He.meth_ok (c.fact 10 (f := .meth "Rights" "__or__") rfl),
      m_Rights_and := He.meth_ok (c.fact 11 (f := .meth "Rights" "__and__") rfl),
      m_Rights_sub := He.meth_ok (c.fact 12 (f := .meth "Rights" "__sub__") rfl),
      m_Rights_xor := He.meth_ok (c.fact 13 (f := .meth "Rights" "__xor__") rfl),
      m_Rights_contains := He.meth_ok (c.fact 14 (f := .meth "Rights" "__contains__") rfl),
      m_Rights_len := He.meth_ok (c.fact 15 (f := .meth "Rights" "__len__") rfl),
      m_Rights_eq := He.meth_ok (c.fact 16 (f := .meth "Rights" "__eq__") rfl),
      m_Rights_within := He.meth_ok (c.fact 17 (f := .meth "Rights" "within") rfl),
      c_MOST := He.int_ok X G (c.fact 18 (f := .int "MOST" 15) rfl),
      i_Rights := Ow.isiB_ok (He.ba (He.ba cx).1).1,
      sf_Rights := (He.ba (He.ba cx).1).2,
      e_Rights := Ow.emptyT_ok (He.ba cx).2 }
  obtain ⟨fdis_key, Fis_key⟩ := c.def_ 0 (d := dis_key) rfl
  obtain ⟨fdRights_init, FRights_init⟩ := c.def_ 1 (d := dRights_init) rfl
  obtain ⟨fdRights_within, FRights_within⟩ := c.def_ 2 (d := dRights_within) rfl
  obtain ⟨fdRights_or, FRights_or⟩ := c.def_ 3 (d := dRights_or) rfl
  obtain ⟨fdRights_and, FRights_and⟩ := c.def_ 4 (d := dRights_and) rfl
  obtain ⟨fdRights_sub, FRights_sub⟩ := c.def_ 5 (d := dRights_sub) rfl
  obtain ⟨fdRights_xor, FRights_xor⟩ := c.def_ 6 (d := dRights_xor) rfl
  obtain ⟨fdRights_contains, FRights_contains⟩ := c.def_ 7 (d := dRights_contains) rfl
  obtain ⟨fdRights_len, FRights_len⟩ := c.def_ 8 (d := dRights_len) rfl
  obtain ⟨fdRights_eq, FRights_eq⟩ := c.def_ 9 (d := dRights_eq) rfl
  obtain ⟨fd_law_start, F_law_start⟩ := c.def_ 10 (d := d_law_start) rfl
  obtain ⟨fd_law_draw, F_law_draw⟩ := c.def_ 11 (d := d_law_draw) rfl
  obtain ⟨fd_law_some, F_law_some⟩ := c.def_ 12 (d := d_law_some) rfl
  obtain ⟨fd_law_told, F_law_told⟩ := c.def_ 13 (d := d_law_told) rfl
  obtain ⟨fdlaw, Flaw⟩ := c.def_ 14 (d := dlaw) rfl
  have el := hfa.symm.trans (He.glo_ok X G (c.fact 5 (f := .glo "law") rfl))
  cases el
  have bl := FunD.bindsA (ps := ["_law_script"]) Flaw (fun _ _ _ _ _ _ us hl => match us, hl with | [_], _ => rfl)
  refine ⟨fdlaw, fun s v => bl s [v] rfl, fun base _ _ => ?_⟩
  have Gis_key : Ow.Glob P w K mg base CX0 1 "is_key" ["number"] Ow.spIsKey := ⟨_, _, He.glo_ok X G (c.fact 0 (f := .glo "is_key") rfl), Fis_key.kp, Fis_key.bindsN (ps := ["number"]) (fun _ _ _ _ _ _ us hl => match us, hl with | [_], _ => rfl), ok_is_key Fis_key T ⟩
  obtain ⟨dsI, vdI, bdI⟩ := FRights_init.binds1 (ps := ["self", "numbers"]) 2 1 (by intro z; cases z) rfl (fun _ _ _ _ _ _ _ us its hu hi => match us, its, hu, hi with | [_, _], [_], _, _ => ⟨_, rfl, rfl⟩)
  have GRights : Ow.Maker P w K mg base CX0 2 "Rights" (He.ga K "Rights") ["self", "numbers"] [] (Ow.spInit K (He.ga K "Rights")) := ⟨_, _, dsI, T.g_Rights, T.mk_Rights, bdI, vdI, ok_Rights_init FRights_init T Gis_key⟩
  obtain ⟨dsJ, vdJ, bdJ⟩ := FRights_init.binds1 (ps := ["self", "numbers"]) 1 0 (by intro z; cases z) rfl (fun _ _ _ _ _ _ _ us its hu hi => match us, its, hu, hi with | [_], [_], _, _ => ⟨_, rfl, rfl⟩)
  have GRights0 : Ow.Maker P w K mg base CX0 2 "Rights" (He.ga K "Rights") ["self", "numbers"] [.ref (He.dflAt ("Rights", some "__init__") 0 K)] (Ow.spInit K (He.ga K "Rights")) := ⟨_, _, dsJ, T.g_Rights, T.mk_Rights, bdJ, vdJ, ok_Rights_init FRights_init T Gis_key⟩
  have GR_or : Ow.Dun P w K mg base CX0 4 (He.ga K "Rights") "__or__" ["self", "other"] (Ow.spBin (He.ga K "Rights") (· || ·)) := ⟨_, _, T.m_Rights_or.1, T.m_Rights_or.2, T.m_Rights_or.3, FRights_or.bindsN (ps := ["self", "other"]) (fun _ _ _ _ _ _ us hl => match us, hl with | [_, _], _ => rfl), ok_Rights_or FRights_or T GRights⟩
  have GR_and : Ow.Dun P w K mg base CX0 4 (He.ga K "Rights") "__and__" ["self", "other"] (Ow.spBin (He.ga K "Rights") (· && ·)) := ⟨_, _, T.m_Rights_and.1, T.m_Rights_and.2, T.m_Rights_and.3, FRights_and.bindsN (ps := ["self", "other"]) (fun _ _ _ _ _ _ us hl => match us, hl with | [_, _], _ => rfl), ok_Rights_and FRights_and T GRights⟩
  have GR_sub : Ow.Dun P w K mg base CX0 4 (He.ga K "Rights") "__sub__" ["self", "other"] (Ow.spBin (He.ga K "Rights") (fun a b => a && !b)) := ⟨_, _, T.m_Rights_sub.1, T.m_Rights_sub.2, T.m_Rights_sub.3, FRights_sub.bindsN (ps := ["self", "other"]) (fun _ _ _ _ _ _ us hl => match us, hl with | [_, _], _ => rfl), ok_Rights_sub FRights_sub T GRights⟩
  have GR_xor : Ow.Dun P w K mg base CX0 4 (He.ga K "Rights") "__xor__" ["self", "other"] (Ow.spBin (He.ga K "Rights") (fun a b => a != b)) := ⟨_, _, T.m_Rights_xor.1, T.m_Rights_xor.2, T.m_Rights_xor.3, FRights_xor.bindsN (ps := ["self", "other"]) (fun _ _ _ _ _ _ us hl => match us, hl with | [_, _], _ => rfl), ok_Rights_xor FRights_xor T GRights⟩
  have GR_contains : Ow.Dun P w K mg base CX0 1 (He.ga K "Rights") "__contains__" ["self", "number"] (Ow.spHas (He.ga K "Rights")) := ⟨_, _, T.m_Rights_contains.1, T.m_Rights_contains.2, T.m_Rights_contains.3, FRights_contains.bindsN (ps := ["self", "number"]) (fun _ _ _ _ _ _ us hl => match us, hl with | [_, _], _ => rfl), ok_Rights_contains FRights_contains T ⟩
  have GR_len : Ow.Dun P w K mg base CX0 1 (He.ga K "Rights") "__len__" ["self"] (Ow.spLen (He.ga K "Rights")) := ⟨_, _, T.m_Rights_len.1, T.m_Rights_len.2, T.m_Rights_len.3, FRights_len.bindsN (ps := ["self"]) (fun _ _ _ _ _ _ us hl => match us, hl with | [_], _ => rfl), ok_Rights_len FRights_len T ⟩
  have GR_eq : Ow.Dun P w K mg base CX0 1 (He.ga K "Rights") "__eq__" ["self", "other"] (Ow.spEqR (He.ga K "Rights")) := ⟨_, _, T.m_Rights_eq.1, T.m_Rights_eq.2, T.m_Rights_eq.3, FRights_eq.bindsN (ps := ["self", "other"]) (fun _ _ _ _ _ _ us hl => match us, hl with | [_, _], _ => rfl), ok_Rights_eq FRights_eq T ⟩
  have GR_within : Ow.Dun P w K mg base CX0 1 (He.ga K "Rights") "within" ["self", "other"] (Ow.spWithin (He.ga K "Rights")) := ⟨_, _, T.m_Rights_within.1, T.m_Rights_within.2, T.m_Rights_within.3, FRights_within.bindsN (ps := ["self", "other"]) (fun _ _ _ _ _ _ us hl => match us, hl with | [_, _], _ => rfl), ok_Rights_within FRights_within T ⟩
  have G_law_start : Ow.Glob P w K mg base CX0 1 "_law_start" ["_law_script"] (Ow.spStart K) := ⟨_, _, He.glo_ok X G (c.fact 1 (f := .glo "_law_start") rfl), F_law_start.kp, F_law_start.bindsN (ps := ["_law_script"]) (fun _ _ _ _ _ _ us hl => match us, hl with | [_], _ => rfl), ok__law_start F_law_start T ⟩
  have G_law_draw : Ow.Glob P w K mg base CX0 1 "_law_draw" ["_law_state", "_law_many"] Ow.spDraw := ⟨_, _, He.glo_ok X G (c.fact 2 (f := .glo "_law_draw") rfl), F_law_draw.kp, F_law_draw.bindsN (ps := ["_law_state", "_law_many"]) (fun _ _ _ _ _ _ us hl => match us, hl with | [_, _], _ => rfl), ok__law_draw F_law_draw T ⟩
  have G_law_some : Ow.Glob P w K mg base CX0 2 "_law_some" ["_law_state", "_law_most"] Ow.spSome := ⟨_, _, He.glo_ok X G (c.fact 3 (f := .glo "_law_some") rfl), F_law_some.kp, F_law_some.bindsN (ps := ["_law_state", "_law_most"]) (fun _ _ _ _ _ _ us hl => match us, hl with | [_, _], _ => rfl), ok__law_some F_law_some T G_law_draw⟩
  have G_law_told : Ow.Glob P w K mg base CX0 2 "_law_told" ["_law_rights"] (Ow.spTold (He.ga K "Rights")) := ⟨_, _, He.glo_ok X G (c.fact 4 (f := .glo "_law_told") rfl), F_law_told.kp, F_law_told.bindsN (ps := ["_law_rights"]) (fun _ _ _ _ _ _ us hl => match us, hl with | [_], _ => rfl), ok__law_told F_law_told T GR_contains⟩
  exact ok_law Flaw T G_law_start G_law_some G_law_told GRights GRights0 GR_or GR_and GR_sub GR_xor GR_contains GR_eq GR_within
end K02
open PySem PySem.W PySem.Calls PyProof.Rows
set_option maxRecDepth 100000 in
set_option maxHeartbeats 0 in
theorem PySem.Challenge.cw_keysfewest_k02_rights_algebra_holds : PySem.Challenge.rw_keysfewest_k02_rights_algebra.Holds := by
  w_on; o_law
  refine HandSHeadRun.head_any (r := OpenLaw.row PySem.Challenge.rw_keysfewest_k02_rights_algebra) (q := view (OpenLaw.row PySem.Challenge.rw_keysfewest_k02_rights_algebra).prog [13]) (H := K02.hk) (ob := K02.ob) (M := 3000) (loose := K02.loose) (d := HandSHeadRun.topDef (OpenLaw.row PySem.Challenge.rw_keysfewest_k02_rights_algebra).prog 13) (kwd := []) K02.ob_eq
    (by kernel_rfl) (fun s => by kernel_rfl) K02.run (by kernel_rfl) (by kernel_rfl) (by kernel_rfl) (by rfl) (by first | assumption | decide +kernel) (by decide +kernel) ⟨rfl, rfl, rfl, rfl, rfl, by decide +kernel⟩ ?hw ?hc
  case hw => w_witness2
  case hc =>
    refine L2.walk_ofE (l := PySem.Challenge.rw_keysfewest_k02_rights_algebra) (n := 63) (k := 8) (x := "_law_script") (CX := L2.CX0) rfl (by decide) (by kernel_rfl) ⟨rfl, by decide, by decide⟩ ?F (fun _ _ _ _ z => z)
    intro w mg fa h Y G hmg0
    obtain ⟨K, KX, c, cx⟩ := Y
    have hmg : mg ("law" : PySem.Str) = some (.ref fa) := by
      have e : (HandSHeadRun.topDef (OpenLaw.row PySem.Challenge.rw_keysfewest_k02_rights_algebra).prog 13).name = ("law" : PySem.Str) := by kernel_rfl
      rw [← e]
      exact hmg0
    obtain ⟨fd, hb, hF⟩ := K02.facts (P := (PySem.Challenge.rw_keysfewest_k02_rights_algebra).prog) (w := w) KX G hmg c cx
    exact ⟨K, fd, K02.spLaw K, KX, hb, fun H a ns hl _ hS => ⟨a, ns, rfl, hS, hl, fun _ => rfl⟩, hF⟩
