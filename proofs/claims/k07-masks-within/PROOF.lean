import PyProof.Rows.All
import Wide.All
import OpenK.AllK
import Wide.FinOn
import KE.KStateDown
import HandS.ForMost
import HandS.Exc
import HandS.Strs
import HandS.SetFor
import HandS.TupAny
import HandS.OwnEq
import HandS.IsInst
import HandS.Property
import HandS.SortInts
import HandS.Star
import HandS.Defaults
import HandS.Wide
import HandS.Head2
import HandS.HeadEnd
import HandS.HeadHook2
import HandS.Codes
import HandS.NoneIn
import HandS.ClsMeth
import HandS.Style
import PySem.Challenge.RW_keysfewest_k07_masks_within
set_option Elab.async false
set_option linter.all false
set_option maxRecDepth 100000
set_option maxHeartbeats 4000000
/-! Own rules: operators, in, len, == and truth by the text's own methods; set(list). -/
namespace Ow
open PySem PySem.Spec PyProof.Rows L2
section
variable {X : Cx} {pins : List (Addr × Obj)} {σ : L2.St} {s' : Shared} {Q : VK} {u : Value}
theorem relNI {v : V} (r : RelV v u) : u ≠ .notImplemented := by
  rintro rfl
  cases v
  · cases (r : Value.notImplemented = Value.none)
  · cases (r : Value.notImplemented = Value.bool _)
  · obtain ⟨_, e⟩ := (r : ∃ t, Value.notImplemented = Value.int _ t); cases e
  · obtain ⟨_, e⟩ := (r : ∃ t, Value.notImplemented = Value.str _ t); cases e
  · obtain ⟨_, e⟩ := (r : ∃ t, Value.notImplemented = Value.bytes _ t); cases e
  · obtain ⟨_, e⟩ := (r : ∃ t, Value.notImplemented = Value.float _ t); cases e
  · cases (r : Value.notImplemented = Value.ref _)
  · cases (r : Value.notImplemented = Value.type _)
theorem backOf {R : Value → Shared → Prop} (h : u ≠ .notImplemented) (q : R u s') : PySem.W.CmpBack R u s' := by
  cases u <;> first | exact absurd rfl h | exact q
theorem epBack (h : EP X pins σ Q u s') : PySem.W.CmpBack (EP X pins σ Q) u s' := by
  obtain ⟨v, H', I, r, q⟩ := h
  exact backOf (relNI r) ⟨v, H', I, r, q⟩
end
section
variable {X : Cx} {CX : CXT} {k : Nat} {C f : Addr} {fd : FuncData} {ps : List Str} {sp : Sp} {E : XK}
/-- a op b, both of the class at C: the promise of the class's own def -/
def rOwn (C : Addr) (sp : Sp) (E : XK) : R2 := fun x y H Q => ∃ a b dx dy fs gs, x = .ref a ∧ y = .ref b ∧ H a = some (.ins C dx fs) ∧ H b = some (.ins C dy gs) ∧ sp [.ref a, .ref b] H Q E
theorem op_own {op : Operator} (F : FnOk X.prog X.w X.K X.mg X.base CX k f fd ps sp) (hr : Room k X.A) (hb : Binds X.K fd ps []) (hx : Passes CX X E) (hc : PySem.W.selfFirst X.K C = true)
    (hs : PySem.W.findIn X.K (.ref C) (PySem.dunder op.info.2) = some (some (.ref f))) (hf : PySem.W.isFn X.K (.ref f) = true) : OpR X (binaryOp op) (rOwn C sp E) := by
  intro pins s σ H x y v u Q I rx ry h
  obtain ⟨a, b, dx, dy, fs, gs, rfl, rfl, ha, hb', q⟩ := h
  cases rx
  cases ry
  obtain ⟨mA, J, _⟩ := ins_get I.hok ha
  obtain ⟨mB, J', _⟩ := ins_get I.hok hb'
  obtain ⟨oa, J, _⟩ := J.look
  obtain ⟨ob, J', _⟩ := J'.look
  obtain ⟨m, hF⟩ := I.fr
  refine PySem.W.binop_K hF I.ok.mod.kin J J'.type hc hs hf ?_
  exact wpAny_mono (run_fn (us := [.ref a, .ref b]) (vs := [.ref a, .ref b]) F hr hb .nil hx I (.cons rfl (.cons rfl .nil)) q) (fun _ _ z => epBack z) fun _ _ z => z
/-- x in o, o of the class at C with its own __contains__ -/
def rOwnIn (C : Addr) (neg : Bool) (sp : Sp) (E : XK) : R2 := fun x y H Q => ∃ b dy gs, y = .ref b ∧ H b = some (.ins C dy gs) ∧ sp [.ref b, x] H (fun v H' => ∃ c, v = .bl c ∧ Q (.bl (if neg then !c else c)) H') E
theorem op_ownIn (F : FnOk X.prog X.w X.K X.mg X.base CX k f fd ps sp) (hr : Room k X.A) (hb : Binds X.K fd ps []) (hx : Passes CX X E)
    (hs : PySem.W.findIn X.K (.ref C) "__contains__" = some (some (.ref f))) (hf : PySem.W.isFn X.K (.ref f) = true) : OpR X (compareOp .In) (rOwnIn C false sp E) := by
  intro pins s σ H x y v u Q I rx ry h
  obtain ⟨b, dy, gs, rfl, hb', q⟩ := h
  cases ry
  obtain ⟨mB, J', _⟩ := ins_get I.hok hb'
  obtain ⟨ob, J', _⟩ := J'.look
  obtain ⟨m, hF⟩ := I.fr
  refine PySem.W.in_K hF I.ok.mod.kin J' hs hf (wpAny_mono (run_fn (us := [.ref b, v]) (vs := [.ref b, x]) F hr hb .nil hx I (.cons rfl (.cons rx .nil)) q) (fun r s' z => ?_) fun _ _ z => z)
  obtain ⟨w, H', I', rw', c, rfl, q'⟩ := z
  cases rw'
  exact wpAny_truthy_bool ⟨.bl c, H', I', rfl, q'⟩
theorem op_ownNotIn (F : FnOk X.prog X.w X.K X.mg X.base CX k f fd ps sp) (hr : Room k X.A) (hb : Binds X.K fd ps []) (hx : Passes CX X E)
    (hs : PySem.W.findIn X.K (.ref C) "__contains__" = some (some (.ref f))) (hf : PySem.W.isFn X.K (.ref f) = true) : OpR X (compareOp .NotIn) (rOwnIn C true sp E) := by
  intro pins s σ H x y v u Q I rx ry h
  obtain ⟨b, dy, gs, rfl, hb', q⟩ := h
  cases ry
  obtain ⟨mB, J', _⟩ := ins_get I.hok hb'
  obtain ⟨ob, J', _⟩ := J'.look
  obtain ⟨m, hF⟩ := I.fr
  refine PySem.W.notIn_K hF I.ok.mod.kin J' hs hf (wpAny_mono (run_fn (us := [.ref b, v]) (vs := [.ref b, x]) F hr hb .nil hx I (.cons rfl (.cons rx .nil)) q) (fun r s' z => ?_) fun _ _ z => z)
  obtain ⟨w, H', I', rw', c, rfl, q'⟩ := z
  cases rw'
  exact wpAny_truthy_bool ⟨.bl (!c), H', I', rfl, q'⟩
/-- a def called below the body, at one unit more -/
theorem run_in1 {pins : List (Addr × Obj)} {σ : L2.St} {H : Hp} {s : Shared} {Q : VK} {us : List Value} {vs : List V} (F : FnOk X.prog X.w X.K X.mg X.base CX k f fd ps sp) (hr : Room (k + 1) X.A) (hb : Binds X.K fd ps []) (hx : Passes CX X E)
    (I : Inv X pins σ H s) (r : Vals vs us) (h : sp vs H Q E) : wpAny (model X.prog X.w) X.A.in1 (call (.ref f) us) (EP X pins σ Q) X.xe s := by
  have hl : (us ++ []).length = ps.length := by rw [List.append_nil, ← r.length]; exact F.len _ _ _ _ h
  have hbs := hb s us I.kIn hl
  rw [List.append_nil] at hbs
  refine wpAny_call (codeAny_mono (F.run X.A.in1 X.stack s H ⟨us, []⟩ us vs Q E hr.in1 I.env0.in1 hbs r h) fun r s' hq => ?_)
  cases r with
  | error e => exact hx pins σ H s e s' I hq
  | ok fl =>
    cases fl with
    | ret u => exact I.after hq
    | next => exact False.elim hq
    | brk => exact False.elim hq
    | cont => exact False.elim hq
/-- len(o) by the class's own __len__ -/
def rOwnLen (C : Addr) (sp : Sp) (E : XK) : List V → Hp → VK → Prop := fun xs H Q => ∃ a dx fs, xs = [.ref a] ∧ H a = some (.ins C dx fs) ∧ sp [.ref a] H (fun v H' => ∃ n : Nat, v = .int n ∧ n < 2 ^ 63 ∧ Q (.int n) H') E
theorem call_ownLen (F : FnOk X.prog X.w X.K X.mg X.base CX k f fd ps sp) (hr : Room (k + 1) X.A) (hb : Binds X.K fd ps []) (hx : Passes CX X E)
    (hs : PySem.W.findIn X.K (.ref C) "__len__" = some (some (.ref f))) (hf : PySem.W.isFn X.K (.ref f) = true) : CallR X (.builtin "len") (rOwnLen C sp E) := by
  intro pins s σ H xs us Q I r h
  obtain ⟨a, dx, fs, rfl, ha, q⟩ := h
  rw [Vals.ref1 r]
  obtain ⟨mA, J, _⟩ := ins_get I.hok ha
  obtain ⟨oa, J, _⟩ := J.look
  obtain ⟨m, hF⟩ := I.fr
  refine PySem.W.len_K hF I.ok.mod.kin J hs hf (wpAny_mono (run_in1 (us := [.ref a]) (vs := [.ref a]) F hr hb hx I (.cons rfl .nil) q) (fun v s' z => ?_) fun _ _ z => z)
  obtain ⟨w, H', I', rw', n, rfl, hn, q'⟩ := z
  obtain ⟨t, rfl⟩ := rw'
  exact ⟨⟨by omega, by omega⟩, ⟨.int n, H', I'.tok _, ⟨_, rfl⟩, q'⟩⟩
/-- a == b, a of the class at C with its own __eq__, b of a class or type that is no subclass of it -/
def rOwnEq (C : Addr) (sp : Sp) (E : XK) : R2 := fun x y H Q => ∃ a b dx dy fs gs, x = .ref a ∧ y = .ref b ∧ H a = some (.ins C dx fs) ∧ H b = some (.ins C dy gs) ∧ sp [.ref a, .ref b] H Q E
theorem op_ownEq (F : FnOk X.prog X.w X.K X.mg X.base CX k f fd ps sp) (hr : Room k X.A) (hb : Binds X.K fd ps []) (hx : Passes CX X E)
    (hs : PySem.W.findIn X.K (.ref C) "__eq__" = some (some (.ref f))) (hf : PySem.W.isFn X.K (.ref f) = true) : OpR X (compareOp .Eq) (rOwnEq C sp E) := by
  intro pins s σ H x y v u Q I rx ry h
  obtain ⟨a, b, dx, dy, fs, gs, rfl, rfl, ha, hb', q⟩ := h
  cases rx
  cases ry
  obtain ⟨mA, J, _⟩ := ins_get I.hok ha
  obtain ⟨mB, J', _⟩ := ins_get I.hok hb'
  obtain ⟨oa, J, _⟩ := J.look
  obtain ⟨ob, J', _⟩ := J'.look
  obtain ⟨m, hF⟩ := I.fr
  show wpAny (model X.prog X.w) X.A (richCompare .Eq (.ref a) (.ref b)) (EP X pins σ Q) X.xe s
  refine PySem.W.cmp_K (op := .Eq) (tb := .ref C) hr.units0 hF I.ok.mod.kin J J'.type (by simp [PySem.W.notFirst]) hs hf ?_
  exact wpAny_mono (run_fn (us := [.ref a, .ref b]) (vs := [.ref a, .ref b]) F hr hb .nil hx I (.cons rfl (.cons rfl .nil)) q) (fun _ _ z => epBack z) fun _ _ z => z
end
end Ow

/-! set(list) of hin, its members told -/
namespace Ow
open PySem PySem.Spec PyProof.Rows L2
/-- the new set as an object -/
abbrev emptySet (w : World) : Obj := { cls := .type "set", dict := none, data := .set #[] 0 (.fresh 0 0 (!w.params.followText "set-order")) }
section
variable {P : Program} {w : World} {A : Around} {E : Value → Shared → Prop} {s : Shared}
theorem set_of_list {l : Addr} {its : Array Value} (ns : List Int) {Q : Value → Shared → Prop} (hh : A.handled = none) (hl : s.heap.IsList l its) (hin : IntsAre its.toList ns) (few : ns.length + 1 < scanBound)
    (h : ∀ (hp : Heap) (tk c : Nat), SetR w hp s.heap.objs.size (fun j => decide (j ∈ ns)) c → c ≤ ns.length → (∀ b o, s.heap.get? b = some o → hp.get? b = some o) → Q (.ref s.heap.objs.size) { s with heap := hp, toks := tk }) :
    wpAny (model P w) A (call (.type "set") [.ref l]) Q E s := by
  have sz : its.size = ns.length := by simpa using IntsAre.length hin
  have a0 := F.called_set.mro
  obtain ⟨cc, ctl, a1⟩ := a0
  have a2 := F.called_set.made
  have a3 := F.called_set.sub
  have a4 := F.called_set.notType
  have a5 := F.called_set.canCreate
  have a6 := F.typeCall_set_1 (.ref l)
  refine wpAny_call (codeAny_of_tree ?_)
  refine wpAny_pure ⟨Code.quiet_builtin _ (by decide +kernel), codeAny_builtin F.entry_type_call ?_⟩
  rw [Around.under_plain (weight_type_call_type "set" [.ref l] []) rfl]
  repeat (any_goals (first | assumption | wp_step))
  refine codeAny_mono (code_set_led1 (.ref l) (E := E) (Q₁ := fun ob s1 => ob = .ref s.heap.objs.size ∧ s1 = { s with heap := s.heap.push (emptySet w) }) ⟨rfl, rfl⟩) fun r1 s1 g1 => ?_
  cases r1 with
  | error er => exact g1
  | ok f1 =>
    cases f1 with
    | next => exact g1.elim
    | brk => exact g1.elim
    | cont => exact g1.elim
    | ret ob =>
      obtain ⟨rfl, rfl⟩ := g1
      have at0 : (s.heap.push (emptySet w)).get? s.heap.objs.size = some (emptySet w) := Heap.get?_push_size _ rfl
      have ty0 : Shared.TypeIs { s with heap := s.heap.push (emptySet w) } (.ref s.heap.objs.size) "set" := ⟨_, at0, rfl⟩
      have b1 := F.called_set.init.lookup
      have b2 := F.called_set.init.bind (.ref s.heap.objs.size)
      repeat (any_goals (first | assumption | wp_step))
      refine codeAny_mono (codeAny_call_builtin (R := wants (fun r s2 => r = .none ∧ ∃ hp tk c, s2 = { s with heap := hp, toks := tk } ∧ SetR w hp s.heap.objs.size (fun j => decide (j ∈ ns)) c ∧ c ≤ ns.length ∧ ∀ b o, s.heap.get? b = some o → hp.get? b = some o) E)
        F.called_set.init.plain F.entry_set_init (check_set_init_1 ty0 ?_)) fun r2 s2 g2 => ?_
      · obtain ⟨⟨oc, od, odt, osl⟩, hol, hcl, nl, hdl⟩ := hl
        dsimp only at hcl hdl
        subst hcl hdl
        have c1 : (s.heap.push (emptySet w)).get? l = some { cls := .type "list", dict := od, data := .seq its nl, slots := osl } := Heap.get?_push_of_some _ hol
        have c2 := F.sub_list_set
        have c3 := F.sub_list_frozenset
        have c4 : (Value.type "list" == Value.type "dict") = false := by decide
        have c5 : (s.heap.push (emptySet w)).IsList l its := ⟨_, c1, rfl, nl, rfl⟩
        unfold Builtin.«set.__init__» noKeywords Builtin.Frozenset.updateFrom
        generalize hgen : pyIter = gen
        wp_walk
        subst hgen
        refine wpAny_pyIter_list c5 (wpAny_bind (wpAny_runValue ?_))
        have lt : l < s.heap.objs.size := Heap.lt_size hol
        have hh3 : A.in1.in1.in1.handled = none := by simp [hh]
        have zz : (s.heap.push (emptySet w)).objs.size = s.heap.objs.size + 1 := Heap.size_push ..
        have n1 : l ≠ (s.heap.push (emptySet w)).objs.size := fun e => absurd (Nat.lt_succ_of_lt lt) (by rw [e, zz]; exact Nat.lt_irrefl _)
        have n2 : s.heap.objs.size ∉ [(s.heap.push (emptySet w)).objs.size, l] := fun hm => by
          rcases List.mem_cons.mp hm with e | e
          · rw [zz] at e; exact absurd e (Nat.ne_of_lt (Nat.lt_succ_self _))
          · exact absurd lt (by rw [← List.mem_singleton.mp e]; exact Nat.lt_irrefl _)
        have vals : ∀ (i : Nat) (v : Value), its[i]? = some v → ∃ k t, ns[i]? = some k ∧ v = .int k t := fun i v hv => by
          have hi : i < ns.length := by rw [← sz]; exact (Array.getElem?_eq_some_iff.mp hv).1
          obtain ⟨t, e⟩ := IntsAre.int_at hin i v (by rw [Array.getElem?_toList]; exact hv)
          exact ⟨ns[i], t, List.getElem?_eq_getElem hi, by rw [e]; simp [List.getD_eq_getElem?_getD, hi]⟩
        refine set_update_ints ((Walks.list hh3 _ l n1 its).toS) s.heap.objs.size n2 ns sz few vals (its.size - 0) 0 _ (by omega) (Nat.zero_le _) ⟨⟨_, Heap.get?_push_size _ rfl, rfl, rfl⟩, c5.push _⟩ ⟨0, Nat.le_refl 0, setR_new_at (Heap.get?_push_of_some _ at0)⟩ ?_
        intro s3 c m3 hc3 S3
        obtain ⟨hp3, g3, d3, t3, o3⟩ := s3
        obtain rfl : g3 = s.gens := m3.gens
        obtain rfl : d3 = s.drawn := m3.drawn
        obtain rfl : o3 = s.os := m3.os
        refine wpAny_pure (wpAny_pure ⟨rfl, hp3, t3, c, rfl, S3, by omega, fun b o e => ?_⟩)
        have lb : b < s.heap.objs.size := Heap.lt_size e
        have nb : b ∉ [s.heap.objs.size, (s.heap.push (emptySet w)).objs.size] := fun hm => by
          rcases List.mem_cons.mp hm with e | e
          · exact absurd lb (by rw [e]; exact Nat.lt_irrefl _)
          · rw [List.mem_singleton.mp e, zz] at lb; exact absurd lb (Nat.not_lt_of_lt (Nat.lt_succ_self _))
        exact m3.heap b o nb (Heap.get?_push_of_some _ (Heap.get?_push_of_some _ e))
      · cases r2 with
        | error er => exact g2
        | ok f2 =>
          cases f2 with
          | next => exact g2.elim
          | brk => exact g2.elim
          | cont => exact g2.elim
          | ret v2 =>
            obtain ⟨rfl, hp, tk, c, rfl, S2, hc2, k2⟩ := g2
            repeat (any_goals (first | assumption | wp_step))
            exact h _ _ _ S2 hc2 k2
end
/-- set(xs), xs a list or a tuple of hin, fewer than 4000 -/
def rSetOf (K : PySem.W.Frag) (w : World) : List V → Hp → VK → Prop := fun xs H Q => ∃ (l : Addr) (ns : List Int), xs = [.ref l] ∧ (SqL K H l (ns.map V.int) ∨ SqT K H l (ns.map V.int)) ∧ ns.length ≤ 4000 ∧
  ∀ p c, H p = none → c ≤ ns.length → Q (.ref p) (upd H p (SetO w p (fun j => decide (j ∈ ns)) c))
section
variable {X : Cx}
theorem intsOf : ∀ {ns : List Int} {us : List Value}, Vals (ns.map V.int) us → IntsAre us ns
  | [], _, .nil => .nil
  | n :: ns, _, .cons r t => by
    obtain ⟨k, rfl⟩ := r
    exact .cons n k (intsOf t)
theorem cr_setL (hc : X.calm = true) : CallR X (.type "set") (rSetOf X.K X.w) := by
  intro pins s σ H xs us Q I r h
  obtain ⟨l, ns, rfl, hq, few, q⟩ := h
  rw [Vals.ref1 r]
  have lay : ∀ (hp : Heap) (tk c : Nat), SetR X.w hp s.heap.objs.size (fun j => decide (j ∈ ns)) c → c ≤ ns.length → (∀ b o, s.heap.get? b = some o → hp.get? b = some o) → EP X pins σ Q (.ref s.heap.objs.size) { s with heap := hp, toks := tk } :=
    fun hp tk c S hc k => ⟨.ref s.heap.objs.size, _, I.laid (t' := tk) k (Nat.le_refl _) (setO_new S), rfl, q _ c (I.hok.fresh (Nat.le_refl _)) hc⟩
  rcases hq with hq | hq
  · obtain ⟨its, r2, pl, _⟩ := I.list hq
    exact set_of_list ns (I.ok.hd hc) pl.isList (by simpa using intsOf r2) (by unfold scanBound; omega) lay
  · obtain ⟨its, r2, pl, _⟩ := I.tuple hq
    exact call_set_tupI ns (I.ok.hd hc) pl (by simpa using intsOf r2) (by unfold scanBound; omega) lay
end
end Ow

/-! defs, methods and classes by their names; the head's facts with one more Bool -/
namespace Ow
open PySem PySem.Spec PyProof.Rows L2
section
variable (P : Program) (w : World) (K : PySem.W.Frag) (mg : Str → Option Value) (base : Heap) (CX : CXT) (k : Nat)
/-- the module's name x is a def that keeps sp -/
def Glob (x : Str) (ps : List Str) (sp : Sp) : Prop := ∃ f fd, mg x = some (.ref f) ∧ PySem.W.keepIn K (.ref f) = true ∧ Binds K fd ps [] ∧ FnOk P w K mg base CX k f fd ps sp
/-- the class at C (the module's name x) is made by an __init__ that keeps sp; dvs fill up -/
def Maker (x : Str) (C : Addr) (ps : List Str) (dvs : List V) (sp : Sp) : Prop := ∃ f fd ds, mg x = some (.ref C) ∧ Mk K C f ∧ Binds K fd ps ds ∧ Vals dvs ds ∧ FnOk P w K mg base CX k f fd ps sp
/-- the class at C has the method m, which keeps sp -/
def Dun (C : Addr) (m : Str) (ps : List Str) (sp : Sp) : Prop := ∃ f fd, PySem.W.findIn K (.ref C) m = some (some (.ref f)) ∧ PySem.W.isFn K (.ref f) = true ∧ PySem.W.keepIn K (.ref f) = true ∧ Binds K fd ps [] ∧ FnOk P w K mg base CX k f fd ps sp
end
section
variable {X : Cx} {CX : CXT} {k : Nat} {C : Addr} {ps : List Str} {sp : Sp} {dvs : List V} {E : XK} {x m : Str} {p pos apos : Pos} {e o : Expr} {es : List Expr} {ta : TE} {t : TA}
theorem pe_g (G : Glob X.prog X.w X.K X.mg X.base CX k x ps sp) (hr : Room k X.A) (hx : Passes CX X E) (ha : PA X (e :: es) t) (hg : Gl X x := by rfl) (hdb : (x == ("__debug__" : Str)) = false := by decide)
    (he : starEach (e :: es) X.env = (false, eval e X.env) :: starEach es X.env := by rfl) (hpl : (backTo pos (starEach es X.env)).any (·.1) = false := by rfl) : PE X (.Call (.Name x p) (e :: es) [] pos) (tCall sp [] E t) := by
  obtain ⟨f, fd, hm, hk, hb, F⟩ := G
  exact pe_call F hr hg hm hk hb .nil hx ha hdb he hpl
theorem pe_g0 (G : Glob X.prog X.w X.K X.mg X.base CX k x ps sp) (hr : Room k X.A) (hx : Passes CX X E) (hg : Gl X x := by rfl) (hdb : (x == ("__debug__" : Str)) = false := by decide) : PE X (.Call (.Name x p) [] [] pos) (tCall sp [] E tNil) := by
  obtain ⟨f, fd, hm, hk, hb, F⟩ := G
  exact pe_call0 F hr hg hm hk hb .nil hx hdb
theorem pe_mk (G : Maker X.prog X.w X.K X.mg X.base CX k x C ps dvs sp) (hr : Room (k + 1) X.A) (hx : Passes CX X E) (ha : PA X (e :: es) t) (hg : Gl X x := by rfl) (hdb : (x == ("__debug__" : Str)) = false := by decide)
    (he : starEach (e :: es) X.env = (false, eval e X.env) :: starEach es X.env := by rfl) (hpl : (backTo pos (starEach es X.env)).any (·.1) = false := by rfl) : PE X (.Call (.Name x p) (e :: es) [] pos) (tMake C sp dvs E t) := by
  obtain ⟨f, fd, ds, hm, M, hb, hd, F⟩ := G
  exact pe_make M F hr hg hm hb hd hx ha hdb he hpl
theorem pe_mk0 (G : Maker X.prog X.w X.K X.mg X.base CX k x C ps dvs sp) (hr : Room (k + 1) X.A) (hx : Passes CX X E) (hg : Gl X x := by rfl) (hdb : (x == ("__debug__" : Str)) = false := by decide) : PE X (.Call (.Name x p) [] [] pos) (tMake C sp dvs E tNil) := by
  obtain ⟨f, fd, ds, hm, M, hb, hd, F⟩ := G
  exact pe_make0 M F hr hg hm hb hd hx hdb
theorem od_bin {op : Operator} (G : Dun X.prog X.w X.K X.mg X.base CX k C m ps sp) (hr : Room k X.A) (hx : Passes CX X E) (hc : PySem.W.selfFirst X.K C = true) (hm : PySem.dunder op.info.2 = m) : OpR X (binaryOp op) (rOwn C sp E) := by
  obtain ⟨f, fd, hs, hf, hk, hb, F⟩ := G
  exact op_own F hr hb hx hc (by rw [hm]; exact hs) hf
theorem od_in (G : Dun X.prog X.w X.K X.mg X.base CX k C "__contains__" ps sp) (hr : Room k X.A) (hx : Passes CX X E) : OpR X (compareOp .In) (rOwnIn C false sp E) := by
  obtain ⟨f, fd, hs, hf, hk, hb, F⟩ := G
  exact op_ownIn F hr hb hx hs hf
theorem od_notIn (G : Dun X.prog X.w X.K X.mg X.base CX k C "__contains__" ps sp) (hr : Room k X.A) (hx : Passes CX X E) : OpR X (compareOp .NotIn) (rOwnIn C true sp E) := by
  obtain ⟨f, fd, hs, hf, hk, hb, F⟩ := G
  exact op_ownNotIn F hr hb hx hs hf
theorem od_eq (G : Dun X.prog X.w X.K X.mg X.base CX k C "__eq__" ps sp) (hr : Room k X.A) (hx : Passes CX X E) : OpR X (compareOp .Eq) (rOwnEq C sp E) := by
  obtain ⟨f, fd, hs, hf, hk, hb, F⟩ := G
  exact op_ownEq F hr hb hx hs hf
theorem od_len (G : Dun X.prog X.w X.K X.mg X.base CX k C "__len__" ps sp) (hr : Room (k + 1) X.A) (hx : Passes CX X E) : CallR X (.builtin "len") (rOwnLen C sp E) := by
  obtain ⟨f, fd, hs, hf, hk, hb, F⟩ := G
  exact call_ownLen F hr hb hx hs hf
/-- o.m(e, ..) -/
theorem pe_m {pl : Sem Bool} (he : PE X o ta) (c : Cls X.K C) (G : Dun X.prog X.w X.K X.mg X.base CX k C m ps sp) (hr : Room k X.A) (hx : Passes CX X E) (ha : PA X (e :: es) t)
    (hst : starEach (e :: es) X.env = (false, eval e X.env) :: starEach es X.env := by rfl) (hpl : (backTo pos (starEach es X.env)).any (·.1) = false := by rfl)
    (ht : eval (.Call (.Attribute o m apos) (e :: es) [] pos) X.env = (do
      let ov ← eval o X.env
      standAt apos.atName
      let (f, first) ← holding [ov] (getMethod ov m pl)
      callWith pos f first (backTo pos (starEach (e :: es) X.env)) (backToKw pos (keywordEach [] X.env))) := by rfl) : PE X (.Call (.Attribute o m apos) (e :: es) [] pos) (tMeth C m sp [] E ta t) := by
  obtain ⟨f, fd, hs, hf, hk, hb, F⟩ := G
  exact pe_meth (pl := pl) he c ⟨hs, hf, hk⟩ F hr hb .nil hx ha hst hpl ht
theorem pe_m0 {pl : Sem Bool} (he : PE X o ta) (c : Cls X.K C) (G : Dun X.prog X.w X.K X.mg X.base CX k C m ps sp) (hr : Room k X.A) (hx : Passes CX X E)
    (ht : eval (.Call (.Attribute o m apos) [] [] pos) X.env = (do
      let ov ← eval o X.env
      standAt apos.atName
      let (f, first) ← holding [ov] (getMethod ov m pl)
      callWith pos f first (backTo pos (starEach [] X.env)) (backToKw pos (keywordEach [] X.env))) := by rfl) : PE X (.Call (.Attribute o m apos) [] [] pos) (tMeth C m sp [] E ta tNil) := by
  obtain ⟨f, fd, hs, hf, hk, hb, F⟩ := G
  exact pe_meth0 (pl := pl) he c ⟨hs, hf, hk⟩ F hr hb .nil hx ht
end
end Ow
/-! the Hook: HeadHook2's with a Bool of one's own over the written part -/
namespace Ow
open PySem PySem.Spec PyProof.Rows L2
def obsM (n : Nat) (fa : List He.Fa) (fn : List He.DefD) (ex : PySem.W.Frag → Bool) (g : Addr → Option Obj) : He.AlD × Bool :=
  (He.obsD fa fn (He.frG g (He.asD g n)), ex (He.frG g (He.asD g n)))
def hookM (n : Nat) (fa : List He.Fa) (fn : List He.DefD) (ex : PySem.W.Frag → Bool) : PySem.W.Hook where
  α := He.AlD × Bool
  obs := fun s => obsM n fa fn ex s.heap.get?
  val := fun _ => (He.valD fn, true)
  says := fun _ h => ∃ K : PySem.W.Frag, K.In h ∧ He.SaysD fa fn K ∧ ex K = true
  of := fun _ _ e => ⟨_, He.frG_in, congrArg Prod.fst e, congrArg Prod.snd e⟩
  keeps := fun _ _ _ ⟨K, hK, c⟩ k => ⟨K, PySem.W.Frag.In.keeps hK k, c⟩
theorem obsM_eq {n : Nat} {fa : List He.Fa} {fn : List He.DefD} {ex : PySem.W.Frag → Bool} {g : Addr → Option Obj} {s : Shared} (h : ∀ a, g a = s.heap.get? a) : obsM n fa fn ex g = (hookM n fa fn ex).obs s := by
  obtain rfl : g = s.heap.get? := funext h
  rfl
end Ow

/-! data compared: ints, lists and tuples of ints, lists of those; isinstance of an own instance -/
namespace Ow
open PySem PySem.Spec PyProof.Rows L2
theorem dp_ints {K : PySem.W.Frag} {H : Hp} : ∀ ns : List Int, DpAll K H (ns.map V.int) (ns.map PyData.int)
  | [] => .nil
  | n :: ns => .cons (.int n) (dp_ints ns)
theorem eqv_ints : ∀ ns ms : List Int, PyData.eqvAll (ns.map PyData.int) (ms.map PyData.int) = decide (ns = ms)
  | [], [] => by simp [PyData.eqvAll]
  | [], _ :: _ => by simp [PyData.eqvAll]
  | _ :: _, [] => by simp [PyData.eqvAll]
  | n :: ns, m :: ms => by
    simp only [List.map_cons, PyData.eqvAll, eqv_ints ns ms, PyData.eqv]
    by_cases h1 : n = m <;> by_cases h2 : ns = ms <;> simp [h1, h2]
theorem lay_ints : ∀ ns : List Int, PyData.canLayAll0 (ns.map PyData.int) = true
  | [] => by simp [PyData.canLayAll0]
  | n :: ns => by simp [PyData.canLayAll0, PyData.canLay0, lay_ints ns]
theorem depth_ints : ∀ ns : List Int, PyData.depthAll (ns.map PyData.int) ≤ 1
  | [] => by simp [PyData.depthAll]
  | n :: ns => by
    have := depth_ints ns
    simp [PyData.depthAll, PyData.depth]
    omega
theorem sh_list (ns : List Int) : SeqAt.shaped (.list (ns.map PyData.int)) = true := by
  have := depth_ints ns
  simp [SeqAt.shaped, PyData.canLay0, lay_ints, PyData.depth]
  omega
theorem sh_tup (ns : List Int) : SeqAt.shaped (.tuple (ns.map PyData.int)) = true := by
  have := depth_ints ns
  simp [SeqAt.shaped, PyData.canLay0, lay_ints, PyData.depth]
  omega
/-- lists of ints at the addresses -/
def Rows (K : PySem.W.Frag) (H : Hp) (as : List V) (nss : List (List Int)) : Prop := DpAll K H as (nss.map fun ns => .list (ns.map PyData.int))
theorem eqv_rows : ∀ ns ms : List (List Int), PyData.eqvAll (ns.map fun n => .list (n.map PyData.int)) (ms.map fun n => .list (n.map PyData.int)) = decide (ns = ms)
  | [], [] => by simp [PyData.eqvAll]
  | [], _ :: _ => by simp [PyData.eqvAll]
  | _ :: _, [] => by simp [PyData.eqvAll]
  | n :: ns, m :: ms => by
    simp only [List.map_cons, PyData.eqvAll, eqv_rows ns ms, PyData.eqv, eqv_ints]
    by_cases h1 : n = m <;> by_cases h2 : ns = ms <;> simp [h1, h2]
theorem lay_rows : ∀ ns : List (List Int), PyData.canLayAll0 (ns.map fun n => .list (n.map PyData.int)) = true
  | [] => by simp [PyData.canLayAll0]
  | n :: ns => by simp [PyData.canLayAll0, PyData.canLay0, lay_ints, lay_rows ns]
theorem depth_rows : ∀ ns : List (List Int), PyData.depthAll (ns.map fun n => .list (n.map PyData.int)) ≤ 2
  | [] => by simp [PyData.depthAll]
  | n :: ns => by
    have h1 := depth_rows ns
    have h2 := depth_ints n
    simp [PyData.depthAll, PyData.depth]
    omega
theorem sh_rows (ns : List (List Int)) : SeqAt.shaped (.list (ns.map fun n => .list (n.map PyData.int))) = true := by
  have := depth_rows ns
  simp [SeqAt.shaped, PyData.canLay0, lay_rows, PyData.depth]
  omega
/-- two lists, two tuples of ints compared -/
theorem eqd_list {K : PySem.W.Frag} {H : Hp} {a b : Addr} {ns ms : List Int} {Q : VK} (ha : SqL K H a (ns.map V.int)) (hb : SqL K H b (ms.map V.int)) (q : Q (.bl (decide (ns = ms))) H) : rEqD K (.ref a) (.ref b) H Q :=
  ⟨_, _, .lst ha (dp_ints ns), .lst hb (dp_ints ms), sh_list ns, sh_list ms, by rw [PyData.eqv, eqv_ints]; exact q⟩
theorem ned_list {K : PySem.W.Frag} {H : Hp} {a b : Addr} {ns ms : List Int} {Q : VK} (ha : SqL K H a (ns.map V.int)) (hb : SqL K H b (ms.map V.int)) (q : Q (.bl (!decide (ns = ms))) H) : rNeD K (.ref a) (.ref b) H Q :=
  ⟨_, _, .lst ha (dp_ints ns), .lst hb (dp_ints ms), sh_list ns, sh_list ms, by rw [PyData.eqv, eqv_ints]; exact q⟩
theorem eqd_tup {K : PySem.W.Frag} {H : Hp} {a b : Addr} {ns ms : List Int} {Q : VK} (ha : SqT K H a (ns.map V.int)) (hb : SqT K H b (ms.map V.int)) (q : Q (.bl (decide (ns = ms))) H) : rEqD K (.ref a) (.ref b) H Q :=
  ⟨_, _, .tup ha (dp_ints ns), .tup hb (dp_ints ms), sh_tup ns, sh_tup ms, by rw [PyData.eqv, eqv_ints]; exact q⟩
theorem ned_tup {K : PySem.W.Frag} {H : Hp} {a b : Addr} {ns ms : List Int} {Q : VK} (ha : SqT K H a (ns.map V.int)) (hb : SqT K H b (ms.map V.int)) (q : Q (.bl (!decide (ns = ms))) H) : rNeD K (.ref a) (.ref b) H Q :=
  ⟨_, _, .tup ha (dp_ints ns), .tup hb (dp_ints ms), sh_tup ns, sh_tup ms, by rw [PyData.eqv, eqv_ints]; exact q⟩
theorem eqd_rows {K : PySem.W.Frag} {H : Hp} {a b : Addr} {as bs : List V} {ns ms : List (List Int)} {Q : VK} (ha : SqL K H a as) (hb : SqL K H b bs) (ra : Rows K H as ns) (rb : Rows K H bs ms) (q : Q (.bl (decide (ns = ms))) H) : rEqD K (.ref a) (.ref b) H Q :=
  ⟨_, _, .lst ha ra, .lst hb rb, sh_rows ns, sh_rows ms, by rw [PyData.eqv, eqv_rows]; exact q⟩
/-- what isinstance asks of an own class -/
structure IsiC (K : PySem.W.Frag) (C : Addr) : Prop where
  c : PySem.W.findIn K (.ref C) "__class__" = some (some (.builtin "object.__class__"))
  g : PySem.W.specialIn K (.builtin "object.__class__") "__get__" = some (some (.builtin "getset_descriptor.__get__"))
  t : PySem.W.takesIn K (.builtin "object.__class__") = some true
  m : PySem.W.mroIn K C (.type "object") = some true
  y : PySem.W.kitOne K (.ref C) (.ref C) = some true
def isiB (K : PySem.W.Frag) (C : Addr) : Bool := He.eqO (PySem.W.findIn K (.ref C) "__class__") (some (some (.builtin "object.__class__"))) && (He.eqO (PySem.W.specialIn K (.builtin "object.__class__") "__get__") (some (some (.builtin "getset_descriptor.__get__"))) &&
  (decide (PySem.W.takesIn K (.builtin "object.__class__") = some true) && (decide (PySem.W.mroIn K C (.type "object") = some true) && decide (PySem.W.kitOne K (.ref C) (.ref C) = some true))))
theorem isiB_ok {K : PySem.W.Frag} {C : Addr} (h : isiB K C = true) : IsiC K C := by
  obtain ⟨h1, h⟩ := He.ba h
  obtain ⟨h2, h⟩ := He.ba h
  obtain ⟨h3, h⟩ := He.ba h
  obtain ⟨h4, h5⟩ := He.ba h
  exact ⟨He.eqO_ok h1, He.eqO_ok h2, of_decide_eq_true h3, of_decide_eq_true h4, of_decide_eq_true h5⟩
theorem IsiC.ty {K : PySem.W.Frag} {C a dx : Addr} {fs : List (Str × V)} {H : Hp} (i : IsiC K C) (cl : Cls K C) (h : H a = some (.ins C dx fs)) : TyX K H (.ref a) (.ref C) := .base (.ins h cl i.c i.g i.t i.m)
theorem SqT.of' {K : PySem.W.Frag} {H : Hp} {a : Addr} {xs : List V} (h : H a = some (.tup xs)) : SqT K H a xs := SqT.of h
/-- what was tracked is as it was -/
theorem ext_upd {H : Hp} {p : Addr} {o : HO} (h : H p = none) : Ext H (upd H p o) := Ext.upd h
theorem Ext.same {H H' : Hp} (e : Ext H H') : Same H H' := e
theorem Ext.free {H H' : Hp} (e : Ext H H') {l : Addr} (h : H' l = none) : H l = none := Same.free e h
end Ow

/-! sets of keys as functions; their lists -/
namespace Ow
open PySem PySem.Spec PyProof.Rows L2
/-- the keys of S from 0 to 15, ascending -/
def ks (S : Int → Bool) : List Int := ((List.range 16).map fun n : Nat => (n : Int)).filter S
theorem mem_ks {S : Int → Bool} {k : Int} : k ∈ ks S ↔ (0 ≤ k ∧ k < 16) ∧ S k = true := by
  unfold ks
  rw [List.mem_filter, List.mem_map]
  constructor
  · rintro ⟨⟨n, hn, rfl⟩, h⟩
    have := List.mem_range.mp hn
    exact ⟨⟨by omega, by omega⟩, h⟩
  · rintro ⟨⟨h0, h1⟩, h⟩
    exact ⟨⟨k.toNat, List.mem_range.mpr (by omega), by omega⟩, h⟩
theorem up_sorted (n : Nat) : ((List.range n).map fun n : Nat => (n : Int)).Pairwise (· < ·) := by
  rw [List.pairwise_map]
  exact List.Pairwise.imp (fun h => by omega) List.pairwise_lt_range
theorem ks_sorted (S : Int → Bool) : (ks S).Pairwise (· < ·) := (up_sorted 16).filter _
theorem ks_len (S : Int → Bool) : (ks S).length ≤ 16 := by
  unfold ks
  exact Nat.le_trans (List.length_filter_le _ _) (by simp)
theorem ks_congr {S T : Int → Bool} (h : ∀ k, 0 ≤ k → k < 16 → S k = T k) : ks S = ks T := by
  unfold ks
  refine List.filter_congr fun k hk => ?_
  obtain ⟨n, hn, rfl⟩ := List.mem_map.mp hk
  have := List.mem_range.mp hn
  exact h _ (by omega) (by omega)
theorem ks_inj {S T : Int → Bool} (h : ks S = ks T) (k : Int) (h0 : 0 ≤ k) (h1 : k < 16) : S k = T k := by
  have a := mem_ks (S := S) (k := k)
  have b := mem_ks (S := T) (k := k)
  rw [h] at a
  have c := a.symm.trans b
  cases hS : S k <;> cases hT : T k <;> simp_all
/-- a strictly ascending list is told by its members -/
theorem asc_uniq : ∀ {ns ms : List Int}, ns.Pairwise (· < ·) → ms.Pairwise (· < ·) → (∀ k, k ∈ ns ↔ k ∈ ms) → ns = ms
  | [], [], _, _, _ => rfl
  | [], m :: ms, _, _, h => absurd ((h m).mpr List.mem_cons_self) (by simp)
  | n :: ns, [], _, _, h => absurd ((h n).mp List.mem_cons_self) (by simp)
  | n :: ns, m :: ms, hn, hm, h => by
    have ⟨an, hn'⟩ := List.pairwise_cons.mp hn
    have ⟨am, hm'⟩ := List.pairwise_cons.mp hm
    have e : n = m := by
      have h1 := (h n).mp List.mem_cons_self
      have h2 := (h m).mpr List.mem_cons_self
      rcases List.mem_cons.mp h1 with e | e
      · exact e
      · rcases List.mem_cons.mp h2 with e2 | e2
        · exact e2.symm
        · have := am _ e; have := an _ e2; omega
    subst e
    have r : ∀ k, k ∈ ns ↔ k ∈ ms := fun k => by
      constructor
      · intro hk
        have := an _ hk
        rcases List.mem_cons.mp ((h k).mp (List.mem_cons_of_mem _ hk)) with e | e
        · omega
        · exact e
      · intro hk
        have := am _ hk
        rcases List.mem_cons.mp ((h k).mpr (List.mem_cons_of_mem _ hk)) with e | e
        · omega
        · exact e
    rw [asc_uniq hn' hm' r]
theorem ks_uniq {ns : List Int} {S : Int → Bool} (h : ns.Pairwise (· < ·)) (m : ∀ k, k ∈ ns ↔ (0 ≤ k ∧ k < 16) ∧ S k = true) : ns = ks S :=
  asc_uniq h (ks_sorted S) fun k => (m k).trans mem_ks.symm
theorem inV_ints (k : Int) : ∀ ns : List Int, inV (.int k) (ns.map V.int) = decide (k ∈ ns)
  | [] => by simp [inV]
  | n :: ns => by
    have ih := inV_ints k ns
    unfold inV at ih ⊢
    rw [List.map_cons, List.any_cons, ih]
    have e : eqV (.int n) (.int k) = decide (k = n) := by
      by_cases h : k = n
      · subst h; simp [eqV]
      · have : ¬ n = k := fun z => h z.symm
        simp [eqV, h, this]
    rw [e]
    by_cases h : k = n <;> simp [h]
theorem flat_ints : ∀ ns : List Int, (ns.map V.int).all flatV = true
  | [] => rfl
  | n :: ns => by rw [List.map_cons, List.all_cons, flat_ints ns]; rfl
/-- x in xs for ints -/
theorem in_ints {K : PySem.W.Frag} {H : Hp} {a : Addr} {ns : List Int} {k : Int} {neg : Bool} {Q : VK} (h : SqL K H a (ns.map V.int) ∨ SqT K H a (ns.map V.int)) (q : Q (.bl (if neg then !decide (k ∈ ns) else decide (k ∈ ns))) H) : rIn K neg (.int k) (.ref a) H Q :=
  ⟨a, _, rfl, h, rfl, flat_ints ns, by rw [inV_ints]; exact q⟩
/-- the rights S stand at p, an instance of the class at C -/
def RtAt (C : Addr) (H : Hp) (p : Addr) (S : Int → Bool) : Prop := ∃ dx t, H p = some (.ins C dx [("numbers", .ref t)]) ∧ H t = some (.tup ((ks S).map V.int))
theorem RtAt.ext {C p : Addr} {H H' : Hp} {S : Int → Bool} (r : RtAt C H p S) (e : Ext H H') : RtAt C H' p S := let ⟨dx, t, h1, h2⟩ := r; ⟨dx, t, e _ _ h1, e _ _ h2⟩
theorem RtAt.congr {C p : Addr} {H : Hp} {S T : Int → Bool} (r : RtAt C H p S) (h : ∀ k, 0 ≤ k → k < 16 → S k = T k) : RtAt C H p T := let ⟨dx, t, h1, h2⟩ := r; ⟨dx, t, h1, by rw [← ks_congr h]; exact h2⟩
/-- is_key(number) -/
def spIsKey : Sp := fun vs H Q _ => ∃ n : Int, vs = [.int n] ∧ Q (.bl (decide (0 ≤ n ∧ n ≤ 15))) H
/-- __init__ of rights, no wrong key given -/
def spInit (K : PySem.W.Frag) (C : Addr) : Sp := fun vs H Q _ => ∃ (p dx a : Addr) (ns : List Int), vs = [.ref p, .ref a] ∧ H p = some (.ins C dx []) ∧ (SqL K H a (ns.map V.int) ∨ SqT K H a (ns.map V.int)) ∧ ns.length < 64 ∧ (∀ n ∈ ns, 0 ≤ n ∧ n ≤ 15) ∧
  ∀ H', RtAt C H' p (fun j => decide (j ∈ ns)) → (∀ b o, H b = some o → b ≠ p → H' b = some o) → Q .non H'
/-- Rights(xs) -/
theorem mkRt {K : PySem.W.Frag} {C a : Addr} {H : Hp} {ns : List Int} {Q : VK} {E : XK} (hs : SqL K H a (ns.map V.int) ∨ SqT K H a (ns.map V.int)) (hl : ns.length < 64) (hb : ∀ n ∈ ns, 0 ≤ n ∧ n ≤ 15)
    (k : ∀ x H2, Ext H H2 → H x = none → RtAt C H2 x (fun j => decide (j ∈ ns)) → Q (.ref x) H2) (x dx : Addr) (nx : H x = none) (ndx : H dx = none) (ne : dx ≠ x) :
    spInit K C [.ref x, .ref a] (upd (upd H dx (.own x)) x (.ins C dx [])) (fun v H2 => v = .non ∧ Q (.ref x) H2) E := by
  have e0 : Ext H (upd (upd H dx (.own x)) x (.ins C dx [])) := (Ext.upd ndx).trans (Ext.upd (by rw [upd_ne (Ne.symm ne)]; exact nx))
  refine ⟨x, dx, a, ns, rfl, upd_same, hs.imp (fun h => h.ext e0) (fun h => h.ext e0), hl, hb, fun H' r kp => ⟨rfl, k x H' (fun b o e => kp b o (e0 b o e) (ne_of_none e nx)) nx r⟩⟩
/-- a binary operator of rights, by keys -/
def spBin (C : Addr) (g : Bool → Bool → Bool) : Sp := fun vs H Q _ => ∃ (a b : Addr) (S T : Int → Bool), vs = [.ref a, .ref b] ∧ RtAt C H a S ∧ RtAt C H b T ∧ ∀ x H', Ext H H' → H x = none → RtAt C H' x (fun k => g (S k) (T k)) → Q (.ref x) H'
/-- key in rights -/
def spHas (C : Addr) : Sp := fun vs H Q _ => ∃ (a : Addr) (S : Int → Bool) (k : Int), vs = [.ref a, .int k] ∧ RtAt C H a S ∧ Q (.bl (decide (k ∈ ks S))) H
/-- len(rights) -/
def spLen (C : Addr) : Sp := fun vs H Q _ => ∃ (a : Addr) (S : Int → Bool), vs = [.ref a] ∧ RtAt C H a S ∧ Q (.int ((ks S).length : Nat)) H
/-- rights == rights -/
def spEqR (C : Addr) : Sp := fun vs H Q _ => ∃ (a b : Addr) (S T : Int → Bool), vs = [.ref a, .ref b] ∧ RtAt C H a S ∧ RtAt C H b T ∧ Q (.bl (decide (ks S = ks T))) H
theorem lk1 {f : Str} {v : V} : List.lookup f [(f, v)] = some v := by simp [List.lookup]
theorem few16 {n : Nat} (h : n ≤ 1000) : n ≤ sizeLine := Nat.le_of_lt (small1000 h)
end Ow

/-! the layer's rules with the written part and the world told by letters (a comprehension's block asks for readings that do not hang on its own context) -/
namespace Ow
open PySem PySem.Spec PyProof.Rows L2
def rLenK (K : PySem.W.Frag) : List V → Hp → VK → Prop := fun xs H Q => ∃ x n, xs = [x] ∧ LenV K x H n ∧ Q (.int (n : Nat)) H
def rListK (K : PySem.W.Frag) : List V → Hp → VK → Prop := fun xs H Q => ∃ p ys, xs = [.ref p] ∧ (SqL K H p ys ∨ SqT K H p ys) ∧ ∀ l, H l = none → Q (.ref l) (upd H l (.lst ys))
def rTupleK (K : PySem.W.Frag) : List V → Hp → VK → Prop := fun xs H Q => ∃ p ys, xs = [.ref p] ∧ ((SqL K H p ys ∧ ∀ l, H l = none → Q (.ref l) (upd H l (.tup ys))) ∨ (SqT K H p ys ∧ Q (.ref p) H))
def tTruK (K : PySem.W.Frag) (ta : TE) : TT := fun σ H Q => ta σ H fun x H' => ∃ k, TruV K x H' k ∧ Q k H'
section
variable {X : Cx} {K : PySem.W.Frag} {w : World}
theorem kin (h : X.K = K := by rfl) : OpR X (compareOp .In) (rIn K false) := h ▸ op_in_seq
theorem knotin (h : X.K = K := by rfl) : OpR X (compareOp .NotIn) (rIn K true) := h ▸ op_notIn_seq
theorem kixl (h : X.K = K := by rfl) : IxR X (rIxL K) := h ▸ ix_list
theorem kixt (h : X.K = K := by rfl) : IxR X (rIxT K) := h ▸ ix_tup
theorem ksll (h : X.K = K := by rfl) : SlR X (rSlL K) := h ▸ sl_list
theorem kslt (h : X.K = K := by rfl) : SlR X (rSlT K) := h ▸ sl_tup
theorem klen (h : X.K = K := by rfl) : CallR X (.builtin "len") (rLenK K) := by subst h; exact call_len
theorem klist (h : X.K = K := by rfl) : CallR X (.type "list") (rListK K) := by subst h; exact call_list_of
theorem ktuple (h : X.K = K := by rfl) : CallR X (.type "tuple") (rTupleK K) := by subst h; exact call_tuple_of
theorem kisi (h : X.K = K := by rfl) : CallR X (.builtin "isinstance") (rIsi K) := by subst h; exact call_isi
theorem keqd (hu : X.A.units + 64 < cLine) (h : X.K = K := by rfl) : OpR X (compareOp .Eq) (rEqD K) := by subst h; exact op_eqD hu
theorem kned (hu : X.A.units + 64 < cLine) (h : X.K = K := by rfl) : OpR X (compareOp .NotEq) (rNeD K) := by subst h; exact op_neD hu
theorem kcat (h : X.K = K := by rfl) : OpR X (binaryOp .Add) (rCatA K) := by subst h; exact op_catA
theorem kset (hc : X.calm = true) (h : X.K = K := by rfl) (hw : X.w = w := by rfl) : CallR X (.type "set") (rSetOf K w) := by subst h; subst hw; exact cr_setL hc
theorem ksorted (hc : X.calm = true) (hw : X.w = w := by rfl) : CallR X (.builtin "sorted") (rSortedSet w) := by subst hw; exact cr_sortedSet hc
theorem ksortI (h : X.K = K := by rfl) : CallR X (.builtin "sorted") (rSortedI K) := by subst h; exact cr_sortedI
theorem kpl {tg l : Expr} {tl : TE} (hl : PE X l tl) (h : X.K = K := by rfl) : PI X tg l (iList K tl) := by subst h; exact pi_list hl
theorem kpt {tg l : Expr} {tl : TE} (hl : PE X l tl) (h : X.K = K := by rfl) : PI X tg l (iTup K tl) := by subst h; exact pi_tup hl
theorem kfld {e : Expr} {f : Str} {pos : Pos} {ta : TE} (he : PE X e ta) (hb : attributeBase e f X.env (eval e X.env) = eval e X.env := by rfl) (h : X.K = K := by rfl) : PE X (.Attribute e f pos) (tFld K ta f) := by subst h; exact pe_fld he hb
theorem ktru {a : Expr} {ta : TE} (ha : PE X a ta) (he : ∀ whole, isTrue a X.env whole = (do let v ← whole; standAt a.pos; holding [v] (truthy v)) := by intro _; rfl) (h : X.K = K := by rfl) : PT X a (tTruK K ta) := by subst h; exact pt_truth ha he
theorem kbm0 {o : Expr} {to : TE} {name : Str} {apos cpos : Pos} {T id : String} {r : V → List V → Hp → VK → Prop} (pa : PlainAttrs T) (slot : Slot T name id) (hty : typeOf (.builtin id) = pure (.type "method_descriptor")) (hm : MtR X id r) (ho : PE X o to)
    (hbase : attributeBase o name X.env (eval o X.env) = eval o X.env := by rfl) (hline : (apos.endLine == cpos.line) = true := by rfl) (h : X.K = K := by rfl) : PE X (.Call (.Attribute o name apos) [] [] cpos) (tBM0 K T r to) := by
  subst h; exact pe_bm0 pa slot hty hm ho hbase hline
theorem kbm {o e : Expr} {es : List Expr} {to : TE} {t : TA} {name : Str} {apos cpos : Pos} {T id : String} {r : V → List V → Hp → VK → Prop} (pa : PlainAttrs T) (slot : Slot T name id) (hty : typeOf (.builtin id) = pure (.type "method_descriptor")) (hm : MtR X id r) (ho : PE X o to) (ha : PA X (e :: es) t)
    (hbase : attributeBase o name X.env (eval o X.env) = eval o X.env := by rfl)
    (hfew : ((backTo cpos (starEach (e :: es) X.env)).all (fun x => !x.1) && (backToKw cpos (keywordEach [] X.env)).all (fun x => x.1.isSome)
      && decide ((e :: es).length + ([] : List Keyword).length + (if ([] : List Keyword).isEmpty then 0 else 1) < 30)) = true := by rfl)
    (hline : (apos.endLine == cpos.line) = true := by rfl) (hs : starEach (e :: es) X.env = (false, eval e X.env) :: starEach es X.env := by rfl) (hplain : (backTo cpos (starEach es X.env)).any (·.1) = false := by rfl) (h : X.K = K := by rfl) :
    PE X (.Call (.Attribute o name apos) (e :: es) [] cpos) (tBM K T r to t) := by
  subst h; exact pe_bm pa slot hty hm ho ha hbase hfew hline hs hplain
end
end Ow
namespace Ow
open PySem PySem.Spec PyProof.Rows L2
section
variable {X : Cx} {K : PySem.W.Frag} {w : World}
theorem ksum (hc : X.calm = true) (h : X.K = K := by rfl) : CallR X (.builtin "sum") (rSum K) := by subst h; exact cr_sum hc
theorem kany (hc : X.calm = true) (h : X.K = K := by rfl) : CallR X (.builtin "any") (rAny K) := by subst h; exact cr_any hc
theorem kall (hc : X.calm = true) (h : X.K = K := by rfl) : CallR X (.builtin "all") (rAll K) := by subst h; exact cr_all hc
theorem kgtup {es : List Expr} {k : Nat} {t : TGs} {n : Nat} {pos : Pos} (hc : X.calm = true) (hs : PGs X es t) (hn : (assignEach es X.env).length = n := by rfl) (hst : (assignEach es X.env).findIdx? (·.1) = none := by rfl) (h : X.K = K := by rfl) : PG X (.Tuple es k pos) (gTup K n t) := by subst h; exact pg_tup hc hs hn hst
end
end Ow

/-! comprehensions whose turns leave the heap as it is: [h x for x in xs if f x] over a list, a tuple, a range -/
namespace Ow
open PySem PySem.Spec PyProof.Rows L2
theorem wipe_back (σ : L2.St) (i : Nat) (x : Option V) : wipe ((wipe σ [i]).set i x) [i] = wipe σ [i] := by
  show ((σ.set i none).set i x).set i none = σ.set i none
  rw [List.set_set, List.set_set]
section
variable {K : PySem.W.Frag} {i D a : Addr} {σ : L2.St} {H : Hp} {tt : TT} {te : TE} {Qd : Hp → Prop}
/-- the list made behind the first j items -/
def outOf {α : Type} (L : List α) (f : α → Bool) (hv : α → V) (j : Nat) : List V := ((L.take j).filter f).map hv
theorem outOf_len {α : Type} {L : List α} {f : α → Bool} {hv : α → V} {j : Nat} (h : L.length ≤ 1000) : (outOf L f hv j).length < sizeLine := by
  unfold outOf
  rw [List.length_map]
  exact small1000 (Nat.le_trans (List.length_filter_le _ _) (Nat.le_trans (by rw [List.length_take]; omega) h))
theorem outOf_yes {α : Type} {L : List α} {f : α → Bool} {hv : α → V} {j : Nat} {z : α} (h : L[j]? = some z) (c : f z = true) : outOf L f hv (j + 1) = outOf L f hv j ++ [hv z] := by
  unfold outOf
  rw [List.take_add_one, h, List.filter_append, List.map_append]
  simp [c]
theorem outOf_no {α : Type} {L : List α} {f : α → Bool} {hv : α → V} {j : Nat} {z : α} (h : L[j]? = some z) (c : f z = false) : outOf L f hv (j + 1) = outOf L f hv j := by
  unfold outOf
  rw [List.take_add_one, h, List.filter_append]
  simp [c]
theorem outOf_all {α : Type} (L : List α) (f : α → Bool) (hv : α → V) : outOf L f hv L.length = (L.filter f).map hv := by
  unfold outOf
  rw [List.take_length]
/-- one turn -/
theorem turnF {α : Type} {L : List α} {f : α → Bool} {hv vv : α → V} {j : Nat} {z : α} (hD : H D = none) (hl : L.length ≤ 1000) (hz : L[j]? = some z)
    (ht : ∀ (z : α) (H' : Hp) (R : Bool → Hp → Prop), z ∈ L → Ext H H' → R (f z) H' → tt ((wipe σ [i]).set i (some (vv z))) H' R)
    (he : ∀ (z : α) (H' : Hp) (R : VK), z ∈ L → Ext H H' → R (hv z) H' → te ((wipe σ [i]).set i (some (vv z))) H' R) :
    gName i (vv z) (wipe σ [i]) (upd H D (.lst (outOf L f hv j))) fun σ2 H2 => wipe σ2 [i] = wipe σ [i] ∧ tt σ2 H2 fun b H3 =>
      if b = true then te σ2 H3 fun y H4 => ∃ acc, H4 D = some (.lst acc) ∧ acc.length < sizeLine ∧ upd H4 D (.lst (acc ++ [y])) = upd H D (.lst (outOf L f hv (j + 1))) else H3 = upd H D (.lst (outOf L f hv (j + 1))) := by
  have hm := List.mem_of_getElem? hz
  refine ⟨wipe_back σ i _, ht z _ _ hm (Ext.upd hD) ?_⟩
  cases c : f z with
  | true =>
    refine iteT (he z _ _ hm (Ext.upd hD) ⟨_, upd_same, outOf_len hl, ?_⟩)
    rw [upd_upd, outOf_yes hz c]
  | false =>
    refine iteF ?_
    rw [outOf_no hz c]
theorem mapGet {α : Type} {L : List α} {vv : α → V} {j : Nat} {y : V} (h : (L.map vv)[j]? = some y) : ∃ z, L[j]? = some z ∧ y = vv z := by
  rw [List.getElem?_map] at h
  cases e : L[j]? with
  | none => rw [e] at h; cases h
  | some z => rw [e] at h; exact ⟨z, rfl, (Option.some.inj h).symm⟩
theorem compT {α : Type} (L : List α) (vv : α → V) (f : α → Bool) (hv : α → V) (hs : SqT K H a (L.map vv)) (hD : H D = none) (hl : L.length ≤ 1000)
    (ht : ∀ (z : α) (H' : Hp) (R : Bool → Hp → Prop), z ∈ L → Ext H H' → R (f z) H' → tt ((wipe σ [i]).set i (some (vv z))) H' R)
    (he : ∀ (z : α) (H' : Hp) (R : VK), z ∈ L → Ext H H' → R (hv z) H' → te ((wipe σ [i]).set i (some (vv z))) H' R) (q : Qd (upd H D (.lst ((L.filter f).map hv)))) :
    ∃ W : Nat → Nat → Hp → Prop, (∃ m, W 0 m (upd H D (.lst []))) ∧ ∀ j m H, W j m H →
      ((Itt K a).stop j H ∧ Qd H) ∨ ((Itt K a).go j H ∧ ∃ Nx : Hp → Prop, (∀ H', Nx H' → ∃ m', m' < m ∧ W (j + 1) m' H') ∧ ∀ x H', (Itt K a).yld j H x H' → gName i x (wipe σ [i]) H' fun σ2 H2 => wipe σ2 [i] = wipe σ [i] ∧ tt σ2 H2 fun b H3 =>
        if b = true then te σ2 H3 fun y H4 => ∃ acc, H4 D = some (.lst acc) ∧ acc.length < sizeLine ∧ Nx (upd H4 D (.lst (acc ++ [y]))) else Nx H3) := by
  refine lc_tup (K := K) (a := a) (xs := L.map vv) (fun j H' => H' = upd H D (.lst (outOf L f hv j))) rfl (fun j H' _ e => by rw [e]; exact hs.ext (Ext.upd hD)) ?_ ?_
  · rintro j y H' hj rfl
    obtain ⟨z, hz, rfl⟩ := mapGet hj
    exact turnF hD hl hz ht he
  · rintro H' rfl
    rw [List.length_map, outOf_all]
    exact q
theorem compL {α : Type} (L : List α) (vv : α → V) (f : α → Bool) (hv : α → V) (hs : SqL K H a (L.map vv)) (hD : H D = none) (hl : L.length ≤ 1000)
    (ht : ∀ (z : α) (H' : Hp) (R : Bool → Hp → Prop), z ∈ L → Ext H H' → R (f z) H' → tt ((wipe σ [i]).set i (some (vv z))) H' R)
    (he : ∀ (z : α) (H' : Hp) (R : VK), z ∈ L → Ext H H' → R (hv z) H' → te ((wipe σ [i]).set i (some (vv z))) H' R) (q : Qd (upd H D (.lst ((L.filter f).map hv)))) :
    ∃ W : Nat → Nat → Hp → Prop, (∃ m, W 0 m (upd H D (.lst []))) ∧ ∀ j m H, W j m H →
      ((Itl K a).stop j H ∧ Qd H) ∨ ((Itl K a).go j H ∧ ∃ Nx : Hp → Prop, (∀ H', Nx H' → ∃ m', m' < m ∧ W (j + 1) m' H') ∧ ∀ x H', (Itl K a).yld j H x H' → gName i x (wipe σ [i]) H' fun σ2 H2 => wipe σ2 [i] = wipe σ [i] ∧ tt σ2 H2 fun b H3 =>
        if b = true then te σ2 H3 fun y H4 => ∃ acc, H4 D = some (.lst acc) ∧ acc.length < sizeLine ∧ Nx (upd H4 D (.lst (acc ++ [y]))) else Nx H3) := by
  refine lc_list (K := K) (a := a) (xs := L.map vv) (fun j H' => H' = upd H D (.lst (outOf L f hv j))) rfl (fun j H' _ e => by rw [e]; exact hs.ext (Ext.upd hD)) ?_ ?_
  · rintro j y H' hj rfl
    obtain ⟨z, hz, rfl⟩ := mapGet hj
    exact turnF hD hl hz ht he
  · rintro H' rfl
    rw [List.length_map, outOf_all]
    exact q
/-- lo, lo + 1, .. -/
def upL (lo : Int) (n : Nat) : List Int := (List.range n).map fun j : Nat => lo + (j : Int)
theorem upL_at {lo : Int} {n j : Nat} (h : j < n) : (upL lo n)[j]? = some (lo + (j : Int)) := by
  unfold upL
  rw [List.getElem?_map, List.getElem?_range h]
  rfl
theorem upL_len (lo : Int) (n : Nat) : (upL lo n).length = n := by simp [upL]
theorem compR (lo : Int) (n : Nat) (f : Int → Bool) (hv : Int → V) (hD : H D = none) (hl : n ≤ 1000)
    (ht : ∀ (z : Int) (H' : Hp) (R : Bool → Hp → Prop), z ∈ upL lo n → Ext H H' → R (f z) H' → tt ((wipe σ [i]).set i (some (.int z))) H' R)
    (he : ∀ (z : Int) (H' : Hp) (R : VK), z ∈ upL lo n → Ext H H' → R (hv z) H' → te ((wipe σ [i]).set i (some (.int z))) H' R) (q : Qd (upd H D (.lst (((upL lo n).filter f).map hv)))) :
    ∃ W : Nat → Nat → Hp → Prop, (∃ m, W 0 m (upd H D (.lst []))) ∧ ∀ j m H, W j m H →
      ((Itr lo n).stop j H ∧ Qd H) ∨ ((Itr lo n).go j H ∧ ∃ Nx : Hp → Prop, (∀ H', Nx H' → ∃ m', m' < m ∧ W (j + 1) m' H') ∧ ∀ x H', (Itr lo n).yld j H x H' → gName i x (wipe σ [i]) H' fun σ2 H2 => wipe σ2 [i] = wipe σ [i] ∧ tt σ2 H2 fun b H3 =>
        if b = true then te σ2 H3 fun y H4 => ∃ acc, H4 D = some (.lst acc) ∧ acc.length < sizeLine ∧ Nx (upd H4 D (.lst (acc ++ [y]))) else Nx H3) := by
  refine lc_range (lo := lo) (n := n) (fun j H' => H' = upd H D (.lst (outOf (upL lo n) f hv j))) rfl ?_ ?_
  · rintro j H' hj rfl
    exact turnF (vv := V.int) hD (by rw [upL_len]; exact hl) (upL_at hj) ht he
  · rintro H' rfl
    have e := outOf_all (upL lo n) f hv
    rw [upL_len] at e
    rw [e]
    exact q
theorem noTest {i : Nat} {σ : L2.St} {H : Hp} {α : Type} {vv : α → V} {L : List α} : ∀ (z : α) (H' : Hp) (R : Bool → Hp → Prop), z ∈ L → Ext H H' → R ((fun _ => true) z) H' → tYes ((wipe σ [i]).set i (some (vv z))) H' R := fun _ _ _ _ _ q => q
theorem filterAll {α : Type} (L : List α) : L.filter (fun _ => true) = L := List.filter_eq_self.mpr fun _ _ => rfl
end
theorem pz {j : Int} (h : 0 < j) : 0 < j := h
theorem Paired.at {α β : Type} {F : α → β → Prop} : ∀ {xs : List α} {ys : List β} {i : Nat} {x : α}, Paired F xs ys → xs[i]? = some x → ∃ y, ys[i]? = some y ∧ F x y
  | _, _, _, _, .nil, e => by simp at e
  | _, _, 0, _, .cons r _, e => by simp at e; subst e; exact ⟨_, rfl, r⟩
  | _, _, i + 1, x, .cons _ t, e => by
    obtain ⟨u, h1, h2⟩ := Paired.at (i := i) (x := x) t (by simpa using e)
    exact ⟨u, by simpa using h1, h2⟩
/-- rights stay where a list is written -/
theorem RtAt.put {C p l : Addr} {H : Hp} {S : Int → Bool} {xs ys : List V} (r : RtAt C H p S) (h : H l = some (.lst xs)) : RtAt C (upd H l (.lst ys)) p S := by
  obtain ⟨dx, t, h1, h2⟩ := r
  exact ⟨dx, t, by rw [upd_ne (ne_of h1 h (by intro z; cases z))]; exact h1, by rw [upd_ne (ne_of h2 h (by intro z; cases z))]; exact h2⟩
/-- a list of ints is no list that begins with an object -/
theorem ints_refs {ns : List Int} {a : Addr} {r : List V} (h : HO.lst (ns.map V.int) = HO.lst (.ref a :: r)) : False := by
  injection h with h
  cases ns with
  | nil => cases h
  | cons n ns => injection h with h _; cases h
theorem RtAt.ob {C p : Addr} {H : Hp} {S : Int → Bool} (r : RtAt C H p S) : ∃ dx fs, H p = some (.ins C dx fs) := let ⟨dx, _, h, _⟩ := r; ⟨dx, _, h⟩
/-- a op b of two rights -/
theorem rtBin {C a b : Addr} {H : Hp} {S T : Int → Bool} {g : Bool → Bool → Bool} {Q : VK} {E : XK} (ra : RtAt C H a S) (rb : RtAt C H b T) (k : ∀ x H', Ext H H' → H x = none → RtAt C H' x (fun k => g (S k) (T k)) → Q (.ref x) H') : rOwn C (spBin C g) E (.ref a) (.ref b) H Q := by
  obtain ⟨dx, fs, ha⟩ := ra.ob
  obtain ⟨dy, gs, hb⟩ := rb.ob
  exact ⟨a, b, dx, dy, fs, gs, rfl, rfl, ha, hb, a, b, S, T, rfl, ra, rb, k⟩
theorem rtEq {C a b : Addr} {H : Hp} {S T : Int → Bool} {Q : VK} {E : XK} (ra : RtAt C H a S) (rb : RtAt C H b T) (k : Q (.bl (decide (ks S = ks T))) H) : rOwnEq C (spEqR C) E (.ref a) (.ref b) H Q := by
  obtain ⟨dx, fs, ha⟩ := ra.ob
  obtain ⟨dy, gs, hb⟩ := rb.ob
  exact ⟨a, b, dx, dy, fs, gs, rfl, rfl, ha, hb, a, b, S, T, rfl, ra, rb, k⟩
/-- Rights(xs), the new object at x -/
theorem mkRx {K : PySem.W.Frag} {C a : Addr} {H : Hp} {ns : List Int} {R : VK} {E : XK} (hs : SqL K H a (ns.map V.int) ∨ SqT K H a (ns.map V.int)) (hl : ns.length < 64) (hb : ∀ n ∈ ns, 0 ≤ n ∧ n ≤ 15) {x dx : Addr} (nx : H x = none) (ndx : H dx = none) (ne : dx ≠ x)
    (k : ∀ H2, Ext H H2 → RtAt C H2 x (fun j => decide (j ∈ ns)) → R .non H2) : spInit K C [.ref x, .ref a] (upd (upd H dx (.own x)) x (.ins C dx [])) R E := by
  have e0 : Ext H (upd (upd H dx (.own x)) x (.ins C dx [])) := (Ext.upd ndx).trans (Ext.upd (by rw [upd_ne (Ne.symm ne)]; exact nx))
  exact ⟨x, dx, a, ns, rfl, upd_same, hs.imp (fun h => h.ext e0) (fun h => h.ext e0), hl, hb, fun H' r kp => k H' (fun b o e => kp b o (e0 b o e) (ne_of_none e nx)) r⟩
/-- tuple(sorted(set(xs))) of a list of keys -/
theorem sortedSet {K : PySem.W.Frag} {w : World} {H : Hp} {a : Addr} {ns : List Int} {Q : VK} (hs : SqL K H a (ns.map V.int)) (hl : ns.length < 64) (hb : ∀ n ∈ ns, 0 ≤ n ∧ n ≤ 15)
    (k : ∀ t H', Ext H H' → SqT K H' t ((ks fun j => decide (j ∈ ns)).map V.int) → Q (.ref t) H') : rSetOf K w [.ref a] H fun x H1 => rSortedSet w [x] H1 fun y H2 => rTupleK K [y] H2 Q := by
  refine ⟨a, ns, rfl, .inl hs, by omega, fun q c hq hc => ⟨q, _, _, rfl, upd_same, by omega, fun ms m hso hmem hlen hm => ⟨m, _, rfl, .inl ⟨SqL.of upd_same, fun t ht => ?_⟩⟩⟩⟩
  have em : ms = ks fun j => decide (j ∈ ns) := ks_uniq hso fun j => by
    rw [hmem j]
    constructor
    · intro z
      have := hb j (of_decide_eq_true z)
      exact ⟨⟨this.1, by omega⟩, z⟩
    · exact fun z => z.2
  refine k t _ ((Ext.upd hq).trans ((Ext.upd hm).trans (Ext.upd ht))) ?_
  rw [← em]
  exact SqT.of upd_same
theorem sortedKs {ns ms : List Int} (hso : ms.Pairwise (· < ·)) (hmem : ∀ k : Int, k ∈ ms ↔ decide (k ∈ ns) = true) (hb : ∀ n ∈ ns, 0 ≤ n ∧ n ≤ 15) : ms = ks fun j => decide (j ∈ ns) := ks_uniq hso fun j => by
  rw [hmem j]
  constructor
  · intro z
    have := hb j (of_decide_eq_true z)
    exact ⟨⟨this.1, by omega⟩, z⟩
  · exact fun z => z.2
end Ow

/-! the laws' draws: a state in a list -/
namespace Ow
open PySem PySem.Spec PyProof.Rows L2
/-- the state of the draws at st: the script's copy at c, at most b draws made -/
def StAt (H : Hp) (st c : Addr) (b : Nat) : Prop := ∃ (i cur n : Int) (ns : List Int), H st = some (.lst [.ref c, .int i, .int cur, .int n]) ∧ H c = some (.lst (ns.map V.int)) ∧ 1 ≤ i ∧ 0 ≤ n ∧ n ≤ (b : Int)
/-- all but the state is as it was -/
def Keep (st : Addr) (H H' : Hp) : Prop := ∀ x o, x ≠ st → H x = some o → H' x = some o
theorem Keep.rfl' {st : Addr} {H : Hp} : Keep st H H := fun _ _ _ h => h
theorem Keep.trans {st : Addr} {H H1 H2 : Hp} (a : Keep st H H1) (b : Keep st H1 H2) : Keep st H H2 := fun x o n h => b x o n (a x o n h)
theorem Keep.of {st : Addr} {H H' : Hp} (e : Ext H H') : Keep st H H' := fun x o _ h => e x o h
theorem Keep.upd {st p : Addr} {H : Hp} {o : HO} (h : H p = none) : Keep st H (upd H p o) := Keep.of (Ext.upd h)
theorem StAt.ext {H H' : Hp} {st c : Addr} {b : Nat} (s : StAt H st c b) (e : Ext H H') : StAt H' st c b := let ⟨i, cur, n, ns, h1, h2, r⟩ := s; ⟨i, cur, n, ns, e _ _ h1, e _ _ h2, r⟩
theorem StAt.mono {H : Hp} {st c : Addr} {b b' : Nat} (s : StAt H st c b) (h : b ≤ b') : StAt H st c b' := let ⟨i, cur, n, ns, h1, h2, h3, h4, h5⟩ := s; ⟨i, cur, n, ns, h1, h2, h3, h4, by omega⟩
theorem StAt.here {H : Hp} {st c : Addr} {b : Nat} (s : StAt H st c b) : ∃ o, H st = some o := let ⟨_, _, _, _, h, _⟩ := s; ⟨_, h⟩
theorem Keep.free {st c : Addr} {b : Nat} {H H' : Hp} (k : Keep st H H') (s : StAt H' st c b) {x : Addr} (h : H' x = none) : H x = none := by
  by_cases e : x = st
  · subst e
    obtain ⟨o, ho⟩ := s.here
    rw [ho] at h; cases h
  · cases q : H x with
    | none => rfl
    | some o => rw [k x o e q] at h; cases h
/-- a list of ints is not the state -/
theorem StAt.ints {H : Hp} {st c a : Addr} {b : Nat} {ns : List Int} (s : StAt H st c b) (h : H a = some (.lst (ns.map V.int))) : a ≠ st := by
  obtain ⟨i, cur, n, ms, h1, _⟩ := s
  exact ne_of h h1 fun z => ints_refs z
theorem RtAt.keep {C p st c : Addr} {b : Nat} {H H' : Hp} {S : Int → Bool} (r : RtAt C H p S) (s : StAt H st c b) (k : Keep st H H') : RtAt C H' p S := by
  obtain ⟨dx, t, h1, h2⟩ := r
  obtain ⟨i, cur, n, ms, hs, _⟩ := s
  exact ⟨dx, t, k _ _ (ne_of h1 hs (by intro z; cases z)) h1, k _ _ (ne_of h2 hs (by intro z; cases z)) h2⟩
theorem SqL.keep {K : PySem.W.Frag} {H H' : Hp} {st a : Addr} {xs : List V} (h : SqL K H a xs) (n : a ≠ st) (k : Keep st H H') : SqL K H' a xs := by
  rcases h with (h | ⟨o, h⟩) | h
  · exact .inl (.inl (k _ _ n h))
  · exact .inl (.inr ⟨o, k _ _ n h⟩)
  · exact .inr h
def spStart (K : PySem.W.Frag) : Sp := fun vs H Q _ => ∃ (a : Addr) (ns : List Int), vs = [.ref a] ∧ SqL K H a (ns.map V.int) ∧ ns.length ≤ 63 ∧ ∀ st c H', Ext H H' → H st = none → H c = none → StAt H' st c 0 → Q (.ref st) H'
def spDraw : Sp := fun vs H Q _ => ∃ (st c : Addr) (b : Nat) (m : Int), vs = [.ref st, .int m] ∧ StAt H st c b ∧ b ≤ 1000000 ∧ 0 < m ∧ m < 1073741824 ∧ ∀ (d : Int) (H' : Hp), 0 ≤ d → d < m → StAt H' st c (b + 1) → Keep st H H' → Q (.int d) H'
def spSome : Sp := fun vs H Q _ => ∃ (st c : Addr) (b : Nat) (m : Int), vs = [.ref st, .int m] ∧ StAt H st c b ∧ b ≤ 900000 ∧ 0 ≤ m ∧ m ≤ 40 ∧
  ∀ (p : Addr) (ns : List Int) (H' : Hp), (ns.length : Int) ≤ m → (∀ n ∈ ns, 0 ≤ n ∧ n ≤ 15) → StAt H' st c (b + 41) → Keep st H H' → H p = none → H' p = some (.lst (ns.map V.int)) → Q (.ref p) H'
end Ow

/-! small readings: or, and, != of truth values; key in rights; comprehensions that lay a list a turn -/
namespace Ow
open PySem PySem.Spec PyProof.Rows L2
section
variable {σ : L2.St} {H : Hp} {Q : VK} {i j : Nat} {a b : Bool}
theorem orV (hi : σ[i]? = some (some (.bl a))) (hj : σ[j]? = some (some (.bl b))) (q : Q (.bl (a || b)) H) : tOrV (tVar i) (tVar j) σ H Q := by
  refine ⟨_, hi, a, rfl, ?_⟩
  cases a with
  | true => exact iteT q
  | false => exact iteF ⟨_, hj, q⟩
theorem andV (hi : σ[i]? = some (some (.bl a))) (hj : σ[j]? = some (some (.bl b))) (q : Q (.bl (a && b)) H) : tAndV (tVar i) (tVar j) σ H Q := by
  refine ⟨_, hi, a, rfl, ?_⟩
  cases a with
  | false => exact iteF q
  | true => exact iteT ⟨_, hj, q⟩
theorem andNotV (hi : σ[i]? = some (some (.bl a))) (hj : σ[j]? = some (some (.bl b))) (q : Q (.bl (a && !b)) H) : tAndV (tVar i) (tNotV (tVar j)) σ H Q := by
  refine ⟨_, hi, a, rfl, ?_⟩
  cases a with
  | false => exact iteF q
  | true => exact iteT ⟨_, hj, b, rfl, q⟩
theorem neB (q : Q (.bl (a != b)) H) : rNe (.bl a) (.bl b) H Q := by
  refine ⟨rfl, ?_⟩
  have e : (!decide (V.bl a = V.bl b)) = (a != b) := by cases a <;> cases b <;> simp
  rw [e]
  exact q
end
theorem neSame {a b : Bool} (h : a = b) : (a != b) = false := by subst h; cases a <;> rfl
theorem has_ks {S : Int → Bool} {k : Int} (h0 : 0 ≤ k) (h1 : k < 16) : decide (k ∈ ks S) = S k := by rw [Bool.eq_iff_iff, decide_eq_true_iff, mem_ks]; simp [h0, h1]
theorem rtIn {C b : Addr} {H : Hp} {S : Int → Bool} {k : Int} {neg : Bool} {Q : VK} {E : XK} (r : RtAt C H b S) (q : Q (.bl (if neg then !decide (k ∈ ks S) else decide (k ∈ ks S))) H) : rOwnIn C neg (spHas C) E (.int k) (.ref b) H Q := by
  obtain ⟨dx, fs, hb⟩ := r.ob
  exact ⟨b, dx, fs, rfl, hb, b, S, k, rfl, r, _, rfl, q⟩
/-- the rights' within -/
def wi (S T : Int → Bool) : Bool := (ks S).all fun k => decide (k ∈ ks T)
def spWithin (C : Addr) : Sp := fun vs H Q _ => ∃ (a b : Addr) (S T : Int → Bool), vs = [.ref a, .ref b] ∧ RtAt C H a S ∧ RtAt C H b T ∧ ∀ H', Ext H H' → Q (.bl (wi S T)) H'
theorem wi_iff {S T : Int → Bool} : wi S T = true ↔ ∀ k, 0 ≤ k → k < 16 → S k = true → T k = true := by
  unfold wi
  rw [List.all_eq_true]
  constructor
  · intro h k h0 h1 hk
    have := h k (mem_ks.mpr ⟨⟨h0, h1⟩, hk⟩)
    exact (mem_ks.mp (of_decide_eq_true this)).2
  · intro h k hk
    obtain ⟨⟨h0, h1⟩, z⟩ := mem_ks.mp hk
    exact decide_eq_true (mem_ks.mpr ⟨⟨h0, h1⟩, h k h0 h1 z⟩)
/-- an empty tuple of the written part -/
def emptyT (K : PySem.W.Frag) (a : Addr) : Bool := match K.lookup a with
  | some ⟨.type c, _, .seq its _, _⟩ => decide (c = "tuple") && its.isEmpty
  | _ => false
theorem emptyT_ok {K : PySem.W.Frag} {a : Addr} (h : emptyT K a = true) (H : Hp) : SqT K H a [] := by
  unfold emptyT at h
  cases q : K.lookup a with
  | none => rw [q] at h; cases h
  | some o =>
    obtain ⟨oc, od, dt, sl⟩ := o
    rw [q] at h
    cases oc with
    | type c =>
      cases dt with
      | seq its n =>
        obtain ⟨h1, h2⟩ := He.ba h
        have e : its = #[] := Array.isEmpty_iff.mp h2
        subst e
        exact .inr ⟨_, #[], n, q, congrArg Value.type (of_decide_eq_true h1), rfl, by simp, .nil⟩
      | _ => cases h
    | _ => cases dt <;> cases h
section
variable {K : PySem.W.Frag} {i D a : Addr} {σ : L2.St} {H : Hp} {te : TE} {Qd : Hp → Prop}
/-- lists of ints at the addresses, none of them D -/
def RowsD (G : Hp) (D : Addr) : List V → List (List Int) → Prop := Paired fun v ns => ∃ b, v = V.ref b ∧ b ≠ D ∧ G b = some (.lst (ns.map V.int))
theorem RowsD.rows {G : Hp} {ls : List V} {nss : List (List Int)} (r : RowsD G D ls nss) : Rows K G ls nss := by
  induction r with
  | nil => exact .nil
  | cons h _ ih => obtain ⟨b, rfl, _, hb⟩ := h; exact .cons (.lst (SqL.of hb) (dp_ints _)) ih
theorem compRows {xs : List V} {nss : List (List Int)} (hlen : xs.length = nss.length) (hs : SqL K H a xs) (hD : H D = none) (few : xs.length ≤ 1000)
    (he : ∀ (j : Nat) (x : V) (ns : List Int) (H' : Hp) (R : VK), xs[j]? = some x → nss[j]? = some ns → Ext H H' → (∀ l H4, Ext H' H4 → H' l = none → H4 l = some (.lst (ns.map V.int)) → R (.ref l) H4) → te ((wipe σ [i]).set i (some x)) H' R)
    (q : ∀ G ls, Ext H G → G D = some (.lst ls) → Rows K G ls nss → Qd G) :
    ∃ W : Nat → Nat → Hp → Prop, (∃ m, W 0 m (upd H D (.lst []))) ∧ ∀ j m H, W j m H →
      ((Itl K a).stop j H ∧ Qd H) ∨ ((Itl K a).go j H ∧ ∃ Nx : Hp → Prop, (∀ H', Nx H' → ∃ m', m' < m ∧ W (j + 1) m' H') ∧ ∀ x H', (Itl K a).yld j H x H' → gName i x (wipe σ [i]) H' fun σ2 H2 => wipe σ2 [i] = wipe σ [i] ∧ tYes σ2 H2 fun b H3 =>
        if b = true then te σ2 H3 fun y H4 => ∃ acc, H4 D = some (.lst acc) ∧ acc.length < sizeLine ∧ Nx (upd H4 D (.lst (acc ++ [y]))) else Nx H3) := by
  refine lc_list (K := K) (a := a) (xs := xs) (fun j G => ∃ ls : List V, G D = some (.lst ls) ∧ ls.length = j ∧ Ext H G ∧ RowsD G D ls (nss.take j)) ⟨[], upd_same, rfl, Ext.upd hD, by rw [List.take_zero]; exact .nil⟩ (fun j G _ ⟨_, _, _, e, _⟩ => hs.ext e) ?_ ?_
  · rintro j x G hj ⟨ls, g1, g2, e, pr⟩
    have jl := (List.getElem?_eq_some_iff.mp hj).1
    have hn : nss[j]? = some nss[j] := List.getElem?_eq_getElem (by omega)
    refine ⟨wipe_back σ i _, he j x _ G _ hj hn e fun l H4 e4 nl hl => ?_⟩
    have nDl : D ≠ l := ne_of_none g1 nl
    refine ⟨ls, e4 _ _ g1, small1000 (by omega), ls ++ [.ref l], upd_same, by rw [List.length_append, g2]; rfl, fun b o hb => ?_, ?_⟩
    · rw [upd_ne (ne_of_none hb hD)]
      exact e4 _ _ (e b o hb)
    · have tk : nss.take (j + 1) = nss.take j ++ [nss[j]] := by rw [List.take_add_one, hn]; rfl
      rw [tk]
      exact Paired.snoc (Paired.mapP pr fun v T ⟨b, h1, h2, h3⟩ => ⟨b, h1, h2, by rw [upd_ne h2]; exact e4 _ _ h3⟩) ⟨l, rfl, nDl.symm, by rw [upd_ne nDl.symm]; exact hl⟩
  · rintro G ⟨ls, g1, g2, e, pr⟩
    rw [hlen, List.take_length] at pr
    exact q G ls e g1 pr.rows
end
theorem dp_bools {K : PySem.W.Frag} {H : Hp} : ∀ bs : List Bool, DpAll K H (bs.map V.bl) (bs.map PyData.bool)
  | [] => .nil
  | b :: bs => .cons (.bl b) (dp_bools bs)
theorem eqv_bools : ∀ ns ms : List Bool, PyData.eqvAll (ns.map PyData.bool) (ms.map PyData.bool) = decide (ns = ms)
  | [], [] => by simp [PyData.eqvAll]
  | [], _ :: _ => by simp [PyData.eqvAll]
  | _ :: _, [] => by simp [PyData.eqvAll]
  | n :: ns, m :: ms => by
    simp only [List.map_cons, PyData.eqvAll, eqv_bools ns ms, PyData.eqv]
    by_cases h1 : n = m <;> by_cases h2 : ns = ms <;> simp [h1, h2]
theorem lay_bools : ∀ ns : List Bool, PyData.canLayAll0 (ns.map PyData.bool) = true
  | [] => by simp [PyData.canLayAll0]
  | n :: ns => by simp [PyData.canLayAll0, PyData.canLay0, lay_bools ns]
theorem depth_bools : ∀ ns : List Bool, PyData.depthAll (ns.map PyData.bool) ≤ 1
  | [] => by simp [PyData.depthAll]
  | n :: ns => by
    have := depth_bools ns
    simp [PyData.depthAll, PyData.depth]
    omega
theorem sh_bools (ns : List Bool) : SeqAt.shaped (.list (ns.map PyData.bool)) = true := by
  have := depth_bools ns
  simp [SeqAt.shaped, PyData.canLay0, lay_bools, PyData.depth]
  omega
theorem ned_bools {K : PySem.W.Frag} {H : Hp} {a b : Addr} {ns ms : List Bool} {Q : VK} (ha : SqL K H a (ns.map V.bl)) (hb : SqL K H b (ms.map V.bl)) (q : Q (.bl (!decide (ns = ms))) H) : rNeD K (.ref a) (.ref b) H Q :=
  ⟨_, _, .lst ha (dp_bools ns), .lst hb (dp_bools ms), sh_bools ns, sh_bools ms, by rw [PyData.eqv, eqv_bools]; exact q⟩
end Ow
namespace Ow
open PySem PySem.Spec PyProof.Rows L2
theorem iteFf {c : Bool} {A B : Prop} (hc : c = false) (h : B) : if c = true then A else B := by rw [hc]; exact iteF h
theorem iteTt {c : Bool} {A B : Prop} (hc : c = true) (h : A) : if c = true then A else B := by rw [hc]; exact iteT h
theorem lkW {v : V} : List.lookup ("within" : Str) [(("numbers" : Str), v)] = none := by
  have h : (("within" : Str) == ("numbers" : Str)) = false := by decide +kernel
  simp [List.lookup, h]
theorem notSame {α : Type} [DecidableEq α] {a b : α} (h : a = b) : (!decide (a = b)) = false := by rw [decide_eq_true h]; rfl
theorem up16 (f : Int → Bool) : (upL 0 16).filter f = ks f := by
  have e : upL 0 16 = (List.range 16).map fun n : Nat => (n : Int) := List.map_congr_left fun n _ => by omega
  rw [e]
  rfl
def spTold (C : Addr) : Sp := fun vs H Q _ => ∃ (a : Addr) (S : Int → Bool), vs = [.ref a] ∧ RtAt C H a S ∧ ∀ p, H p = none → Q (.ref p) (upd H p (.lst ((ks S).map V.int)))
/-- all of ns is in ms -/
theorem wi_lists {ns ms : List Int} (hn : ∀ n ∈ ns, 0 ≤ n ∧ n ≤ 15) : wi (fun j => decide (j ∈ ns)) (fun j => decide (j ∈ ms)) = decide (ns.filter (fun z => !decide (z ∈ ms)) = []) := by
  rw [Bool.eq_iff_iff, wi_iff, decide_eq_true_iff, List.filter_eq_nil_iff]
  constructor
  · intro h k hk
    have b := hn k hk
    have := h k b.1 (by omega) (decide_eq_true hk)
    simpa using this
  · intro h k h0 h1 hk
    have := h k (of_decide_eq_true hk)
    simpa using this
theorem wi_refl (S : Int → Bool) : wi S S = true := wi_iff.mpr fun _ _ _ h => h
theorem wi_none (S : Int → Bool) : wi (fun j => decide (j ∈ ([] : List Int))) S = true := wi_iff.mpr fun k _ _ h => by simp at h
theorem wi_eq {S T : Int → Bool} : decide (ks S = ks T) = (wi S T && wi T S) := by
  rw [Bool.eq_iff_iff, decide_eq_true_iff, Bool.and_eq_true, wi_iff, wi_iff]
  constructor
  · intro h
    exact ⟨fun k h0 h1 z => by rw [← ks_inj h k h0 h1]; exact z, fun k h0 h1 z => by rw [ks_inj h k h0 h1]; exact z⟩
  · rintro ⟨h, g⟩
    refine ks_congr fun k h0 h1 => ?_
    have a := h k h0 h1
    have b := g k h0 h1
    cases hS : S k <;> cases hT : T k <;> simp_all
mutual
theorem Dp.ext {K : PySem.W.Frag} {H H' : Hp} (e : Ext H H') : ∀ {d : PyData} {v : V}, Dp K H v d → Dp K H' v d
  | .none, _, .non => .non
  | .bool _, _, .bl b => .bl b
  | .int _, _, .int i => .int i
  | .str _, _, .str x => .str x
  | .list _, _, .lst h a => .lst (h.ext e) (DpAll.ext e a)
  | .tuple _, _, .tup h a => .tup (h.ext e) (DpAll.ext e a)
theorem DpAll.ext {K : PySem.W.Frag} {H H' : Hp} (e : Ext H H') : ∀ {ds : List PyData} {vs : List V}, DpAll K H vs ds → DpAll K H' vs ds
  | [], _, .nil => .nil
  | _ :: _, _, .cons h t => .cons (Dp.ext e h) (DpAll.ext e t)
end
theorem Rows.ext {K : PySem.W.Frag} {H H' : Hp} {ls : List V} {nss : List (List Int)} (r : Rows K H ls nss) (e : Ext H H') : Rows K H' ls nss := DpAll.ext e r
end Ow

/-! static methods, instances called, == of own instances and None -/
namespace Ow
open PySem PySem.Spec PyProof.Rows L2
/-- C.m is a staticmethod of the def at g -/
structure StatM (K : PySem.W.Frag) (C : Addr) (m : Str) (g : Addr) : Prop where
  rd : PySem.W.readsIn K C (.type "type") = true
  ga : PySem.W.specialIn K (.ref C) "__getattribute__" = some (some (.builtin "type.__getattribute__"))
  at_ : PySem.W.findCls K (.ref C) (.type "type") m = some (.get (.builtin "staticmethod.__get__") (.ref (He.ma K C m)) .none (.ref C))
  sm : ∃ rest, PySem.W.recIn K (He.ma K C m) "staticmethod" = some (.ref g :: rest)
/-- the def inside the static method's record -/
def smF (K : PySem.W.Frag) (C : Addr) (m : Str) : Addr := match PySem.W.recIn K (He.ma K C m) "staticmethod" with
  | some (.ref f :: _) => f
  | _ => 0
def statB (K : PySem.W.Frag) (C : Addr) (m : Str) : Bool := PySem.W.readsIn K C (.type "type") && (He.eqO (PySem.W.specialIn K (.ref C) "__getattribute__") (some (some (.builtin "type.__getattribute__"))) &&
  ((match PySem.W.findCls K (.ref C) (.type "type") m with
    | some (.get (.builtin g) (.ref p) .none (.ref D)) => decide (g = "staticmethod.__get__") && (decide (p = He.ma K C m) && decide (D = C))
    | _ => false) && (match PySem.W.recIn K (He.ma K C m) "staticmethod" with
    | some (.ref _ :: _) => true
    | _ => false)))
theorem statB_ok {K : PySem.W.Frag} {C : Addr} {m : Str} (h : statB K C m = true) : StatM K C m (smF K C m) := by
  obtain ⟨h1, h⟩ := He.ba h
  obtain ⟨h2, h⟩ := He.ba h
  obtain ⟨h3, h4⟩ := He.ba h
  refine ⟨h1, He.eqO_ok h2, ?_, ?_⟩
  · clear h4
    split at h3
    · rename_i g p D e
      obtain ⟨k1, k⟩ := He.ba h3
      obtain ⟨k2, k3⟩ := He.ba k
      rw [e, of_decide_eq_true k1, of_decide_eq_true k2, of_decide_eq_true k3]
    · cases h3
  · unfold smF
    split at h4
    · rename_i f r e
      exact ⟨r, by rw [e]⟩
    · cases h4
/-- what the static method promises -/
def Stat (P : Program) (w : World) (K : PySem.W.Frag) (mg : Str → Option Value) (base : Heap) (CX : CXT) (k : Nat) (C : Addr) (m : Str) (ps : List Str) (sp : Sp) : Prop :=
  ∃ g fd, StatM K C m g ∧ PySem.W.keepIn K (.ref g) = true ∧ Binds K fd ps [] ∧ FnOk P w K mg base CX k g fd ps sp
def tStat (C : Addr) (sp : Sp) (E : XK) (ta : TE) (t : TA) : TE := fun σ H Q => ta σ H fun x H1 => x = .ref C ∧ t σ H1 fun vs H2 => sp vs H2 Q E
section
variable {X : Cx} {CX : CXT} {k : Nat} {C : Addr} {ps : List Str} {sp : Sp} {E : XK} {m : Str} {p pos apos : Pos} {e o fe : Expr} {es : List Expr} {ta tf : TE} {t : TA} {pl : Sem Bool}
theorem pe_stat (he : PE X o ta) (G : Stat X.prog X.w X.K X.mg X.base CX k C m ps sp) (hr : Room k X.A) (hx : Passes CX X E) (ha : PA X (e :: es) t)
    (hst : starEach (e :: es) X.env = (false, eval e X.env) :: starEach es X.env := by rfl) (hpl : (backTo pos (starEach es X.env)).any (·.1) = false := by rfl)
    (ht : eval (.Call (.Attribute o m apos) (e :: es) [] pos) X.env = (do
      let ov ← eval o X.env
      standAt apos.atName
      let (f, first) ← holding [ov] (getMethod ov m pl)
      callWith pos f first (backTo pos (starEach (e :: es) X.env)) (backToKw pos (keywordEach [] X.env))) := by rfl) : PE X (.Call (.Attribute o m apos) (e :: es) [] pos) (tStat C sp E ta t) := by
  obtain ⟨g, fd, S, hk, hb, F⟩ := G
  obtain ⟨rest, hrec⟩ := S.sm
  refine ⟨fun pins s σ H Q I h => PySem.W.methodCall_KW (pl := pl) (thn (he.run pins s σ H _ I h) fun u s1 ⟨x, H1, I1, rx, ex, q⟩ => ?_) ht⟩
  subst ex
  obtain rfl : u = Value.ref C := rx
  have I2 := I1.tok (s1.toks + 1)
  refine PySem.W.method_cls I1.kIn S.ga (PySem.W.cls_bind I1.kIn S.rd S.at_ (wpAny_call (PySem.W.sm_get (s := { s1 with toks := s1.toks + 1 }) I1.kIn hrec (PySem.W.handed_on rfl ?_))))
  refine PySem.W.callWith_K (first := []) (h₀ := X.base) I.ok.mod.kin hk (thn (ha.run pos pins _ σ H1 _ I2 q) fun us s2 ⟨vs, H2, I3, r, q2⟩ => ⟨I3.kIn, ?_⟩) hst hpl
  exact run_fn (us := us) (vs := vs) F hr hb .nil hx I3 r (by rw [List.append_nil]; exact q2)
theorem pe_stat0 (he : PE X o ta) (G : Stat X.prog X.w X.K X.mg X.base CX k C m ps sp) (hr : Room k X.A) (hx : Passes CX X E)
    (ht : eval (.Call (.Attribute o m apos) [] [] pos) X.env = (do
      let ov ← eval o X.env
      standAt apos.atName
      let (f, first) ← holding [ov] (getMethod ov m pl)
      callWith pos f first (backTo pos (starEach [] X.env)) (backToKw pos (keywordEach [] X.env))) := by rfl) : PE X (.Call (.Attribute o m apos) [] [] pos) (tStat C sp E ta tNil) := by
  obtain ⟨g, fd, S, hk, hb, F⟩ := G
  obtain ⟨rest, hrec⟩ := S.sm
  refine ⟨fun pins s σ H Q I h => PySem.W.methodCall_KW (pl := pl) (thn (he.run pins s σ H _ I h) fun u s1 ⟨x, H1, I1, rx, ex, q⟩ => ?_) ht⟩
  subst ex
  obtain rfl : u = Value.ref C := rx
  have I2 := I1.tok (s1.toks + 1)
  refine PySem.W.method_cls I1.kIn S.ga (PySem.W.cls_bind I1.kIn S.rd S.at_ (wpAny_call (PySem.W.sm_get (s := { s1 with toks := s1.toks + 1 }) I1.kIn hrec (PySem.W.handed_on rfl ?_))))
  exact PySem.W.callWith_K0 (first := []) I2.kIn hk (run_fn (us := []) (vs := []) F hr hb .nil hx I2 .nil q)
/-- f(e, ..), f an instance of the class at C with its own __call__ -/
def tInst (C : Addr) (sp : Sp) (E : XK) (tf : TE) (t : TA) : TE := fun σ H Q => tf σ H fun y H1 => ∃ a, y = V.ref a ∧ t σ H1 fun vs H2 => ((∃ dx vs, SlX.Slt H2 a C dx vs) ∨ ∃ dx fs, H2 a = some (.ins C dx fs)) ∧ sp (V.ref a :: vs) H2 Q E
theorem pe_inst (hf : PE X fe tf) (G : Dun X.prog X.w X.K X.mg X.base CX k C "__call__" ps sp) (hfi : ∀ g, PySem.W.findIn X.K (.ref C) "__call__" = some (some (.ref g)) → PySem.W.fnIn X.K g = true) (hr : Room k X.A) (hx : Passes CX X E) (ha : PA X (e :: es) t)
    (ht : eval (.Call fe (e :: es) [] pos) X.env = (do callWith pos (← eval fe X.env) [] (backTo pos (starEach (e :: es) X.env)) (backToKw pos (keywordEach [] X.env))) := by rfl)
    (he : starEach (e :: es) X.env = (false, eval e X.env) :: starEach es X.env := by rfl) (hpl : (backTo pos (starEach es X.env)).any (·.1) = false := by rfl) : PE X (.Call fe (e :: es) [] pos) (tInst C sp E tf t) := by
  obtain ⟨g, fd, hs, hfn, hk, hb, F⟩ := G
  have R : FnR X.prog X.w X.K X.mg X.base CX k g sp := (F.raw hb .nil).imp fun vs H Q E z => by rw [List.append_nil]; exact z
  exact StX.pe_callO (g := g) (C := C) hf ⟨hs, hfn, hfi g hs⟩ R hr hx ha ht he hpl
/-- x == y, each None or an instance of the class at C -/
def rOptEq (C : Addr) (sp : Sp) (E : XK) : R2 := fun x y H Q => (x = .non ∧ y = .non ∧ Q (.bl true) H) ∨ (∃ a dx fs, x = .ref a ∧ H a = some (.ins C dx fs) ∧ (y = .non ∨ ∃ b dy gs, y = .ref b ∧ H b = some (.ins C dy gs)) ∧ sp [x, y] H Q E) ∨
  ∃ b dy gs, x = .non ∧ y = .ref b ∧ H b = some (.ins C dy gs) ∧ sp [y, x] H Q E
theorem od_optEq (G : Dun X.prog X.w X.K X.mg X.base CX k C "__eq__" ps sp) (hr : Room k X.A) (hx : Passes CX X E) (hn : PySem.W.notFirst X.K C (.type "NoneType") = true) (hn2 : PySem.W.subIn X.K (.ref C) (.type "NoneType") = some false) : OpR X (compareOp .Eq) (rOptEq C sp E) := by
  obtain ⟨f, fd, hs, hf, hk, hb, F⟩ := G
  intro pins s σ H x y v u Q I rx ry h
  obtain ⟨m, hF⟩ := I.fr
  show wpAny (model X.prog X.w) X.A (richCompare .Eq v u) (EP X pins σ Q) X.xe s
  rcases h with ⟨rfl, rfl, q⟩ | ⟨a, dx, fs, rfl, ha, hy, q⟩ | ⟨b, dy, gs, rfl, rfl, hb', q⟩
  · exact op_eqD hr.units pins s σ H .non .non v u Q I rx ry ⟨.none, .none, .non, .non, by decide, by decide, q⟩
  · obtain ⟨mA, J, _⟩ := ins_get I.hok ha
    obtain ⟨oa, J, _⟩ := J.look
    cases rx
    rcases hy with rfl | ⟨b, dy, gs, rfl, hb'⟩
    · cases ry
      refine PySem.W.cmp_K (op := .Eq) (tb := .type "NoneType") hr.units0 hF I.ok.mod.kin J (PySem.W.Looks.of_pure rfl) hn hs hf ?_
      exact wpAny_mono (run_fn (us := [.ref a, .none]) (vs := [.ref a, .non]) F hr hb .nil hx I (.cons rfl (.cons rfl .nil)) q) (fun _ _ z => epBack z) fun _ _ z => z
    · cases ry
      obtain ⟨mB, J', _⟩ := ins_get I.hok hb'
      obtain ⟨ob, J', _⟩ := J'.look
      refine PySem.W.cmp_K (op := .Eq) (tb := .ref C) hr.units0 hF I.ok.mod.kin J J'.type (by simp [PySem.W.notFirst]) hs hf ?_
      exact wpAny_mono (run_fn (us := [.ref a, .ref b]) (vs := [.ref a, .ref b]) F hr hb .nil hx I (.cons rfl (.cons rfl .nil)) q) (fun _ _ z => epBack z) fun _ _ z => z
  · obtain ⟨mB, J', _⟩ := ins_get I.hok hb'
    obtain ⟨ob, J', _⟩ := J'.look
    cases rx
    cases ry
    have K1 := I.kIn
    have one : wpAny (model X.prog X.w) X.A (tryCompare (.ref b) (cmpInfo .Eq).2.2 .none) (fun r s' => ∃ z, r = some z ∧ EP X pins σ Q z s') X.xe s := by
      unfold tryCompare
      refine wpAny_bind (PySem.W.ifBound_K K1 J' hs hf (wpAny_mono (run_fn (us := [.ref b, .none]) (vs := [.ref b, .non]) F hr hb .nil hx I (.cons rfl (.cons rfl .nil)) q) (fun z s' hz => ?_) fun _ _ e => e))
      have hz' := epBack hz
      cases z <;> first | exact hz'.elim | exact wpAny_pure ⟨_, rfl, hz'⟩
    have tn : s.TypeIs Value.none "NoneType" := rfl
    rcases hi : cmpInfo CmpOp.Eq with ⟨sym, f1, r1⟩
    have h1 := PySem.F.slot_NoneType_eq
    rw [hi] at h1 one
    simp only [richCompare, hi, tn.oneThing_none]
    refine wpAny_holding (wpAny_bind (wpAny_cRoomFor_or (.inr hr.units0) ?_))
    refine wpAny_bind (wpAny_typeOf tn (wpAny_bind (J'.type.here ?_)))
    have ne : (Value.type "NoneType" != Value.ref C) = true := rfl
    simp only [ne, if_true]
    refine wpAny_bind ((PySem.W.looks_subIn K1 hn2).here ?_)
    simp only [Bool.false_eq_true, if_false, Bool.not_false, if_true]
    refine wpAny_bind (m := tryCompare Value.none _ (.ref b)) (wpAny_tryCompare_declines tn h1 (call_gives PySem.F.slot_NoneType_eq rfl PySem.F.entry_NoneType_eq (PySem.F.args_NoneType_eq_2 _ _) (PySem.SeqAt.NoneType___eq___none_ref_0 b) ⟨rfl, ?_⟩))
    refine wpAny_bind (wpAny_mono one (fun r s' z => ?_) fun _ _ z => z)
    obtain ⟨z, rfl, hq⟩ := z
    exact wpAny_pure hq
end
end Ow

/-! masks: a floor and a roof, both sets of keys; the whole roof is None -/
namespace Ow
open PySem PySem.Spec PyProof.Rows L2
abbrev KS := Int → Bool
/-- alike on the keys -/
def Al (S T : KS) : Prop := ∀ k, 0 ≤ k → k < 16 → S k = T k
theorem Al.refl (S : KS) : Al S S := fun _ _ _ => rfl
theorem Al.ks {S T : KS} (h : Al S T) : Ow.ks S = Ow.ks T := ks_congr h
theorem Al.symm {S T : KS} (h : Al S T) : Al T S := fun k a b => (h k a b).symm
theorem Al.trans {S T U : KS} (h : Al S T) (g : Al T U) : Al S U := fun k a b => (h k a b).trans (g k a b)
theorem al_iff {S T : KS} : Ow.ks S = Ow.ks T ↔ Al S T := ⟨fun h k a b => ks_inj h k a b, fun h => h.ks⟩
def full (R : KS) : Prop := (ks R).length = 16
theorem full_iff {R : KS} : full R ↔ ∀ k, 0 ≤ k → k < 16 → R k = true := by
  have l : ((List.range 16).map fun n : Nat => (n : Int)).length = 16 := by simp
  have z := List.length_filter_eq_length_iff (p := R) (l := (List.range 16).map fun n : Nat => (n : Int))
  rw [l] at z
  refine z.trans ?_
  constructor
  · intro h k h0 h1
    exact h k (List.mem_map.mpr ⟨k.toNat, List.mem_range.mpr (by omega), by omega⟩)
  · intro h k hk
    obtain ⟨n, hn, rfl⟩ := List.mem_map.mp hk
    have := List.mem_range.mp hn
    exact h _ (by omega) (by omega)
theorem full.al {R T : KS} (h : full R) (a : Al R T) : full T := full_iff.mpr fun k h0 h1 => (a k h0 h1) ▸ full_iff.mp h k h0 h1
/-- a roof as it is given: None or rights -/
def OptAt (C : Addr) (H : Hp) (v : V) : Option KS → Prop
  | none => v = .non
  | some R => ∃ r, v = .ref r ∧ RtAt C H r R
def roofF : Option KS → KS
  | none => fun _ => true
  | some R => R
theorem OptAt.ext {C : Addr} {H H' : Hp} {v : V} {o : Option KS} (h : OptAt C H v o) (e : Ext H H') : OptAt C H' v o := by
  cases o with
  | none => exact h
  | some R => obtain ⟨r, h1, h2⟩ := h; exact ⟨r, h1, h2.ext e⟩
/-- a roof as a mask keeps it -/
def RoofAt (C : Addr) (H : Hp) (v : V) (R : KS) : Prop := (full R ∧ v = .non) ∨ (¬ full R ∧ ∃ r, v = .ref r ∧ RtAt C H r R)
theorem RoofAt.ext {C : Addr} {H H' : Hp} {v : V} {R : KS} (h : RoofAt C H v R) (e : Ext H H') : RoofAt C H' v R := h.imp (fun z => z) fun ⟨n, r, h1, h2⟩ => ⟨n, r, h1, h2.ext e⟩
theorem RoofAt.congr {C : Addr} {H : Hp} {v : V} {R T : KS} (h : RoofAt C H v R) (a : Al R T) : RoofAt C H v T := h.imp (fun z => ⟨z.1.al a, z.2⟩) fun ⟨n, r, h1, h2⟩ => ⟨fun f => n (f.al a.symm), r, h1, h2.congr a⟩
theorem RoofAt.opt {C : Addr} {H : Hp} {v : V} {R : KS} (h : RoofAt C H v R) : ∃ o, OptAt C H v o ∧ Al (roofF o) R := by
  rcases h with ⟨f, rfl⟩ | ⟨_, h⟩
  · exact ⟨none, rfl, fun k h0 h1 => (full_iff.mp f k h0 h1).symm⟩
  · exact ⟨some R, h, Al.refl R⟩
/-- a mask stands at p -/
def MkAt (CM C : Addr) (H : Hp) (p : Addr) (F R : KS) : Prop := ∃ dx fl rv, H p = some (.ins CM dx [("floor", .ref fl), ("roof", rv)]) ∧ RtAt C H fl F ∧ RoofAt C H rv R
theorem MkAt.ext {CM C p : Addr} {H H' : Hp} {F R : KS} (h : MkAt CM C H p F R) (e : Ext H H') : MkAt CM C H' p F R := let ⟨dx, fl, rv, h1, h2, h3⟩ := h; ⟨dx, fl, rv, e _ _ h1, h2.ext e, h3.ext e⟩
theorem MkAt.congr {CM C p : Addr} {H : Hp} {F R F' R' : KS} (h : MkAt CM C H p F R) (a : Al F F') (b : Al R R') : MkAt CM C H p F' R' := let ⟨dx, fl, rv, h1, h2, h3⟩ := h; ⟨dx, fl, rv, h1, h2.congr a, h3.congr b⟩
theorem MkAt.ob {CM C p : Addr} {H : Hp} {F R : KS} (h : MkAt CM C H p F R) : ∃ dx fs, H p = some (.ins CM dx fs) := let ⟨dx, _, _, h, _⟩ := h; ⟨dx, _, h⟩
/-- what a mask with floor F and roof R makes of S -/
def maskT (F R S : KS) : KS := fun k => (S k && R k) || F k
def spJoined (C : Addr) : Sp := fun vs H Q _ => ∃ (a : Addr) (v : V) (S : KS) (o : Option KS), vs = [.ref a, v] ∧ RtAt C H a S ∧ OptAt C H v o ∧ ∀ rv H', Ext H H' → RoofAt C H' rv (fun k => S k || roofF o k) → Q rv H'
def spCommon (C : Addr) : Sp := fun vs H Q _ => ∃ (u v : V) (o1 o2 : Option KS), vs = [u, v] ∧ OptAt C H u o1 ∧ OptAt C H v o2 ∧ ∀ rv o H', Ext H H' → OptAt C H' rv o → (∀ k, roofF o k = (roofF o1 k && roofF o2 k)) → Q rv H'
def spMasked (C : Addr) : Sp := fun vs H Q _ => ∃ (f r : Addr) (v : V) (F S : KS) (o : Option KS), vs = [.ref f, v, .ref r] ∧ RtAt C H f F ∧ OptAt C H v o ∧ RtAt C H r S ∧ ∀ x H', Ext H H' → H x = none → RtAt C H' x (maskT F (roofF o) S) → Q (.ref x) H'
def spMInit (CM C : Addr) : Sp := fun vs H Q _ => ∃ (p dx f : Addr) (v : V) (F : KS) (o : Option KS), vs = [.ref p, .ref f, v] ∧ H p = some (.ins CM dx []) ∧ RtAt C H f F ∧ OptAt C H v o ∧
  ∀ H', MkAt CM C H' p F (fun k => F k || roofF o k) → (∀ b o, H b = some o → b ≠ p → H' b = some o) → Q .non H'
/-- rights stay where a new instance is told -/
theorem RtAt.ne {C p a : Addr} {H : Hp} {S : KS} {o : HO} (h : RtAt C H a S) (hp : H p = none) : RtAt C (upd H p o) a S := h.ext (Ext.upd hp)
theorem OptAt.mk {C : Addr} {H H' : Hp} {v : V} {o : Option KS} (h : OptAt C H v o) (k : ∀ a S, RtAt C H a S → RtAt C H' a S) : OptAt C H' v o := by
  cases o with
  | none => exact h
  | some R => obtain ⟨r, h1, h2⟩ := h; exact ⟨r, h1, k _ _ h2⟩
/-- Mask(floor, roof), the new object at x -/
theorem mkMx {CM C f : Addr} {v : V} {H : Hp} {F : KS} {o : Option KS} {R : VK} {E : XK} (hf : RtAt C H f F) (ho : OptAt C H v o) {x dx : Addr} (nx : H x = none) (ndx : H dx = none) (ne : dx ≠ x)
    (k : ∀ H2, Ext H H2 → MkAt CM C H2 x F (fun k => F k || roofF o k) → R .non H2) : spMInit CM C [.ref x, .ref f, v] (upd (upd H dx (.own x)) x (.ins CM dx [])) R E := by
  have e0 : Ext H (upd (upd H dx (.own x)) x (.ins CM dx [])) := (Ext.upd ndx).trans (Ext.upd (by rw [upd_ne (Ne.symm ne)]; exact nx))
  exact ⟨x, dx, f, v, F, o, rfl, upd_same, hf.ext e0, ho.ext e0, fun H' r kp => k H' (fun b o e => kp b o (e0 b o e) (ne_of_none e nx)) r⟩
def spKeep (CM C : Addr) : Sp := fun vs H Q _ => vs = [] ∧ ∀ x H', Ext H H' → MkAt CM C H' x (fun _ => false) (fun _ => true) → Q (.ref x) H'
def spOnly (CM C : Addr) : Sp := fun vs H Q _ => ∃ (r : Addr) (S : KS), vs = [.ref r] ∧ RtAt C H r S ∧ ∀ x H', Ext H H' → MkAt CM C H' x (fun _ => false) S → Q (.ref x) H'
def spAdding (CM C : Addr) : Sp := fun vs H Q _ => ∃ (r : Addr) (S : KS), vs = [.ref r] ∧ RtAt C H r S ∧ ∀ x H', Ext H H' → MkAt CM C H' x S (fun _ => true) → Q (.ref x) H'
def spSetting (CM C : Addr) : Sp := fun vs H Q _ => ∃ (r : Addr) (S : KS), vs = [.ref r] ∧ RtAt C H r S ∧ ∀ x H', Ext H H' → MkAt CM C H' x S S → Q (.ref x) H'
def spTurn (CM C : Addr) : Sp := fun vs H Q _ => ∃ (p r : Addr) (F R S : KS), vs = [.ref p, .ref r] ∧ MkAt CM C H p F R ∧ RtAt C H r S ∧ ∀ x H', Ext H H' → RtAt C H' x (maskT F R S) → Q (.ref x) H'
def spLeaves (CM C : Addr) : Sp := fun vs H Q _ => ∃ (p : Addr) (F R : KS) (k : Int), vs = [.ref p, .int k] ∧ MkAt CM C H p F R ∧ 0 ≤ k ∧ k < 16 ∧ Q (.bl (R k)) H
def spMul (CM C : Addr) : Sp := fun vs H Q _ => ∃ (p q : Addr) (F R F2 R2 : KS), vs = [.ref p, .ref q] ∧ MkAt CM C H p F R ∧ MkAt CM C H q F2 R2 ∧ ∀ x H', Ext H H' → MkAt CM C H' x (maskT F2 R2 F) (fun k => maskT F2 R2 F k || (R k && R2 k)) → Q (.ref x) H'
def spMEq (CM C : Addr) : Sp := fun vs H Q _ => ∃ (p q : Addr) (F R F2 R2 : KS), vs = [.ref p, .ref q] ∧ MkAt CM C H p F R ∧ MkAt CM C H q F2 R2 ∧ Q (.bl (decide (ks F = ks F2) && decide (ks R = ks R2))) H
def spMWithin (CM C : Addr) : Sp := fun vs H Q _ => ∃ (p q : Addr) (F R F2 R2 : KS), vs = [.ref p, .ref q] ∧ MkAt CM C H p F R ∧ MkAt CM C H q F2 R2 ∧ ∀ H', Ext H H' → Q (.bl (wi F F2 && wi R R2)) H'
/-- rights == rights or None -/
def spEqO (C : Addr) : Sp := fun vs H Q _ => ∃ (a : Addr) (S : KS) (v : V) (o : Option KS), vs = [.ref a, v] ∧ RtAt C H a S ∧ OptAt C H v o ∧ Q (.bl (match o with | none => false | some T => decide (ks S = ks T))) H
theorem lk2 {f g : Str} {v w : V} (h : (g == f) = false) : List.lookup g [(f, v), (g, w)] = some w := by simp [List.lookup, h]
theorem lkR {v w : V} : List.lookup ("roof" : Str) [(("floor" : Str), v), (("roof" : Str), w)] = some w := lk2 (by decide +kernel)
theorem lkF {v w : V} : List.lookup ("floor" : Str) [(("floor" : Str), v), (("roof" : Str), w)] = some v := by simp [List.lookup]
theorem mkBin {CM C p q : Addr} {H : Hp} {F R F2 R2 : KS} {Q : VK} {E : XK} (hp : MkAt CM C H p F R) (hq : MkAt CM C H q F2 R2) (k : ∀ x H', Ext H H' → MkAt CM C H' x (maskT F2 R2 F) (fun k => maskT F2 R2 F k || (R k && R2 k)) → Q (.ref x) H') : rOwn CM (spMul CM C) E (.ref p) (.ref q) H Q := by
  obtain ⟨dx, fs, ha⟩ := hp.ob
  obtain ⟨dy, gs, hb⟩ := hq.ob
  exact ⟨p, q, dx, dy, fs, gs, rfl, rfl, ha, hb, p, q, F, R, F2, R2, rfl, hp, hq, k⟩
theorem mkEq {CM C p q : Addr} {H : Hp} {F R F2 R2 : KS} {Q : VK} {E : XK} (hp : MkAt CM C H p F R) (hq : MkAt CM C H q F2 R2) (k : Q (.bl (decide (ks F = ks F2) && decide (ks R = ks R2))) H) : rOwnEq CM (spMEq CM C) E (.ref p) (.ref q) H Q := by
  obtain ⟨dx, fs, ha⟩ := hp.ob
  obtain ⟨dy, gs, hb⟩ := hq.ob
  exact ⟨p, q, dx, dy, fs, gs, rfl, rfl, ha, hb, p, q, F, R, F2, R2, rfl, hp, hq, k⟩
/-- the law's own parts of a mask: [floor, roof or None] as lists -/
def OptL (H : Hp) (v : V) : Option (List Int) → Prop
  | none => v = .non
  | some ns => ∃ a, v = .ref a ∧ H a = some (.lst (ns.map V.int))
def PartAt (H : Hp) (q : Addr) (bs : List Int) (rs : Option (List Int)) : Prop := ∃ b v, H q = some (.lst [.ref b, v]) ∧ H b = some (.lst (bs.map V.int)) ∧ OptL H v rs
def InK (ns : List Int) : Prop := ns.length ≤ 40 ∧ ∀ n ∈ ns, 0 ≤ n ∧ n ≤ 15
def InKO : Option (List Int) → Prop
  | none => True
  | some ns => InK ns
/-- as a set; None is all -/
def setO : Option (List Int) → KS
  | none => fun _ => true
  | some ns => fun k => decide (k ∈ ns)
theorem OptL.ext {H H' : Hp} {v : V} {o : Option (List Int)} (h : OptL H v o) (e : Ext H H') : OptL H' v o := by
  cases o with
  | none => exact h
  | some R => obtain ⟨r, h1, h2⟩ := h; exact ⟨r, h1, e _ _ h2⟩
theorem PartAt.ext {H H' : Hp} {q : Addr} {bs : List Int} {rs : Option (List Int)} (h : PartAt H q bs rs) (e : Ext H H') : PartAt H' q bs rs := let ⟨b, v, h1, h2, h3⟩ := h; ⟨b, v, e _ _ h1, e _ _ h2, h3.ext e⟩
/-- parts stay where the state is written -/
theorem PartAt.keep {H H' : Hp} {q st c : Addr} {n : Nat} {bs : List Int} {rs : Option (List Int)} (h : PartAt H q bs rs) (s : StAt H st c n) (k : Keep st H H') : PartAt H' q bs rs := by
  obtain ⟨b, v, h1, h2, h3⟩ := h
  have nq : q ≠ st := by
    obtain ⟨i, cur, n, ms, hs, _⟩ := s
    exact ne_of h1 hs (by intro z; injection z with z; cases z)
  refine ⟨b, v, k _ _ nq h1, k _ _ (s.ints h2) h2, ?_⟩
  cases rs with
  | none => exact h3
  | some R => obtain ⟨r, e1, e2⟩ := h3; exact ⟨r, e1, k _ _ (s.ints e2) e2⟩
def spMade (CM C : Addr) : Sp := fun vs H Q _ => ∃ (q : Addr) (bs : List Int) (rs : Option (List Int)), vs = [.ref q] ∧ PartAt H q bs rs ∧ InK bs ∧ InKO rs ∧ ∀ x H', Ext H H' → MkAt CM C H' x (fun k => decide (k ∈ bs)) (fun k => decide (k ∈ bs) || setO rs k) → Q (.ref x) H'
/-- the law's own turning -/
def turnedL (bs : List Int) (rs : Option (List Int)) (hs : List Int) : List Int := ks fun k => (decide (k ∈ hs) && setO rs k) || decide (k ∈ bs)
def spTurned (K : PySem.W.Frag) : Sp := fun vs H Q _ => ∃ (q h : Addr) (bs hs : List Int) (rs : Option (List Int)), vs = [.ref q, .ref h] ∧ PartAt H q bs rs ∧ SqL K H h (hs.map V.int) ∧ hs.length ≤ 1000 ∧ InK bs ∧ InKO rs ∧
  ∀ p H', Ext H H' → H p = none → H' p = some (.lst ((turnedL bs rs hs).map V.int)) → Q (.ref p) H'
end Ow
namespace Ow
open PySem PySem.Spec PyProof.Rows L2
def spParts : Sp := fun vs H Q _ => ∃ (st c : Addr) (b : Nat), vs = [.ref st] ∧ StAt H st c b ∧ b ≤ 800000 ∧ ∀ (q : Addr) (bs : List Int) (rs : Option (List Int)) (H' : Hp), InK bs → InKO rs → StAt H' st c (b + 100) → Keep st H H' → PartAt H' q bs rs → H q = none → Q (.ref q) H'
/-- a roof told: None or a tuple -/
def RoofT (K : PySem.W.Frag) (H : Hp) (v : V) (R : KS) : Prop := (full R ∧ v = .non) ∨ (¬ full R ∧ ∃ t, v = .ref t ∧ SqT K H t ((ks R).map V.int))
theorem RoofT.ext {K : PySem.W.Frag} {H H' : Hp} {v : V} {R : KS} (h : RoofT K H v R) (e : Ext H H') : RoofT K H' v R := h.imp (fun z => z) fun ⟨n, t, h1, h2⟩ => ⟨n, t, h1, h2.ext e⟩
theorem roofDp {K : PySem.W.Frag} {H : Hp} {v : V} {R : KS} (h : RoofT K H v R) : ∃ d, Dp K H v d ∧ SeqAt.shaped d = true ∧ ((full R ∧ d = .none) ∨ (¬ full R ∧ d = .tuple ((ks R).map PyData.int))) := by
  rcases h with ⟨f, rfl⟩ | ⟨n, t, rfl, ht⟩
  · exact ⟨.none, .non, by decide, .inl ⟨f, rfl⟩⟩
  · exact ⟨_, .tup ht (dp_ints _), sh_tup _, .inr ⟨n, rfl⟩⟩
theorem roofEqv {R T : KS} {d e : PyData} (hd : (full R ∧ d = .none) ∨ (¬ full R ∧ d = .tuple ((ks R).map PyData.int))) (he : (full T ∧ e = .none) ∨ (¬ full T ∧ e = .tuple ((ks T).map PyData.int))) : PyData.eqv d e = decide (ks R = ks T) := by
  rcases hd with ⟨f, rfl⟩ | ⟨f, rfl⟩
  · rcases he with ⟨g, rfl⟩ | ⟨g, rfl⟩
    · rw [decide_eq_true (al_iff.mpr fun k h0 h1 => by rw [full_iff.mp f k h0 h1, full_iff.mp g k h0 h1])]
      rfl
    · rw [decide_eq_false fun z => g (f.al (al_iff.mp z))]
      simp [PyData.eqv]
  · rcases he with ⟨g, rfl⟩ | ⟨g, rfl⟩
    · rw [decide_eq_false fun z => f (g.al (al_iff.mp z).symm)]
      simp [PyData.eqv]
    · rw [PyData.eqv, eqv_ints]
theorem ned_roof {K : PySem.W.Frag} {H : Hp} {u v : V} {R T : KS} {Q : VK} (h1 : RoofT K H u R) (h2 : RoofT K H v T) (q : Q (.bl (!decide (ks R = ks T))) H) : rNeD K u v H Q := by
  obtain ⟨d, a1, a2, a3⟩ := roofDp h1
  obtain ⟨e, b1, b2, b3⟩ := roofDp h2
  exact ⟨d, e, a1, b1, a2, b2, by rw [roofEqv a3 b3]; exact q⟩
theorem eqd_roof {K : PySem.W.Frag} {H : Hp} {u v : V} {R T : KS} {Q : VK} (h1 : RoofT K H u R) (h2 : RoofT K H v T) (q : Q (.bl (decide (ks R = ks T))) H) : rEqD K u v H Q := by
  obtain ⟨d, a1, a2, a3⟩ := roofDp h1
  obtain ⟨e, b1, b2, b3⟩ := roofDp h2
  exact ⟨d, e, a1, b1, a2, b2, by rw [roofEqv a3 b3]; exact q⟩
def roofOf (bs : List Int) (rs : Option (List Int)) : KS := fun k => decide (k ∈ bs) || setO rs k
def spRoof (K : PySem.W.Frag) : Sp := fun vs H Q _ => ∃ (q : Addr) (bs : List Int) (rs : Option (List Int)), vs = [.ref q] ∧ PartAt H q bs rs ∧ ∀ v H', Ext H H' → RoofT K H' v (roofOf bs rs) → Q v H'
def spToldRoof (K : PySem.W.Frag) (CM C : Addr) : Sp := fun vs H Q _ => ∃ (p : Addr) (F R : KS), vs = [.ref p] ∧ MkAt CM C H p F R ∧ ∀ v, RoofT K H v R → Q v H
/-- lists of ints told by their list -/
def RowsK (H : Hp) : List V → List (List Int) → Prop := Paired fun v ns => ∃ a, v = V.ref a ∧ H a = some (.lst (ns.map V.int)) ∧ InK ns
theorem RowsK.ext {H H' : Hp} {ls : List V} {nss : List (List Int)} (r : RowsK H ls nss) (e : Ext H H') : RowsK H' ls nss := Paired.mapP r fun _ _ ⟨a, h1, h2, h3⟩ => ⟨a, h1, e _ _ h2, h3⟩
theorem RowsK.append {H : Hp} : ∀ {l1 l2 : List V} {n1 n2 : List (List Int)}, RowsK H l1 n1 → RowsK H l2 n2 → RowsK H (l1 ++ l2) (n1 ++ n2)
  | _, _, _, _, .nil, s => s
  | _, _, _, _, .cons r t, s => .cons r (RowsK.append t s)
theorem RowsK.reverse {H : Hp} : ∀ {ls : List V} {nss : List (List Int)}, RowsK H ls nss → RowsK H ls.reverse nss.reverse
  | _, _, .nil => .nil
  | _, _, .cons r t => by
    rw [List.reverse_cons, List.reverse_cons]
    exact RowsK.append (RowsK.reverse t) (.cons r .nil)
theorem InK.set {ns : List Int} (h : InK ns) : ns.length < 64 := Nat.lt_of_le_of_lt h.1 (by decide)
/-- what is asked of a mask and its parts -/
structure Fits (CM C : Addr) (H : Hp) (p q : Addr) (bs : List Int) (rs : Option (List Int)) : Prop where
  ex : ∃ F R, MkAt CM C H p F R ∧ Al F (fun k => decide (k ∈ bs)) ∧ Al R (roofOf bs rs)
  pt : PartAt H q bs rs
  ib : InK bs
  ir : InKO rs
theorem Fits.ext {CM C : Addr} {H H' : Hp} {p q : Addr} {bs : List Int} {rs : Option (List Int)} (f : Fits CM C H p q bs rs) (e : Ext H H') : Fits CM C H' p q bs rs := ⟨let ⟨F, R, a, b, c⟩ := f.ex; ⟨F, R, a.ext e, b, c⟩, f.pt.ext e, f.ib, f.ir⟩
/-- a mask turned by the law's own words -/
theorem turned_eq {bs hs : List Int} {rs : Option (List Int)} {F R : KS} (a : Al F fun k => decide (k ∈ bs)) (b : Al R (roofOf bs rs)) : ks (maskT F R fun k => decide (k ∈ hs)) = turnedL bs rs hs := ks_congr fun k h0 h1 => by
  unfold maskT
  rw [a k h0 h1, b k h0 h1]
  unfold roofOf
  dsimp only
  cases decide (k ∈ hs) <;> cases setO rs k <;> cases decide (k ∈ bs) <;> rfl
theorem lkL {v w : V} : List.lookup ("leaves" : Str) [(("floor" : Str), v), (("roof" : Str), w)] = none := by
  have h1 : (("leaves" : Str) == ("floor" : Str)) = false := by decide +kernel
  have h2 : (("leaves" : Str) == ("roof" : Str)) = false := by decide +kernel
  simp [List.lookup, h1, h2]
/-- the parts drawn: new objects alone -/
def spPartsD : Sp := fun vs H Q _ => ∃ (st c : Addr) (b : Nat), vs = [.ref st] ∧ StAt H st c b ∧ b ≤ 800000 ∧ ∀ (q : Addr) (bs : List Int) (rs : Option (List Int)) (H' : Hp), InK bs → InKO rs → StAt H' st c (b + 100) → Keep st H H' → PartAt H' q bs rs → H q = none → (∀ D o, (∃ u, H D = some u) → PartAt (upd H' D o) q bs rs) → Q (.ref q) H'
theorem PartAt.off {H H' : Hp} {q b : Addr} {v : V} {bs : List Int} {rs : Option (List Int)} (h1 : H' q = some (.lst [.ref b, v])) (h2 : H' b = some (.lst (bs.map V.int))) (h3 : OptL H' v rs) (n1 : H q = none) (n2 : H b = none) (n3 : ∀ a, v = .ref a → H a = none) (D : Addr) (o : HO) (hD : ∃ u, H D = some u) : PartAt (upd H' D o) q bs rs := by
  obtain ⟨u, hu⟩ := hD
  have ne : ∀ x, H x = none → x ≠ D := fun x hx e => by rw [e, hu] at hx; cases hx
  refine ⟨b, v, by rw [upd_ne (ne q n1)]; exact h1, by rw [upd_ne (ne b n2)]; exact h2, ?_⟩
  cases rs with
  | none => exact h3
  | some ns => obtain ⟨a, e1, e2⟩ := h3; exact ⟨a, e1, by rw [upd_ne (ne a (n3 a e1))]; exact e2⟩
theorem MkAt.put {CM C p l : Addr} {H : Hp} {F R : KS} {xs ys : List V} (r : MkAt CM C H p F R) (h : H l = some (.lst xs)) : MkAt CM C (upd H l (.lst ys)) p F R := by
  obtain ⟨dx, fl, rv, h1, h2, h3⟩ := r
  exact ⟨dx, fl, rv, by rw [upd_ne (ne_of h1 h (by intro z; cases z))]; exact h1, h2.put h, h3.imp (fun z => z) fun ⟨n, r, c1, c2⟩ => ⟨n, r, c1, c2.put h⟩⟩
theorem MkAt.keep {CM C p st c : Addr} {b : Nat} {H H' : Hp} {F R : KS} (r : MkAt CM C H p F R) (s : StAt H st c b) (k : Keep st H H') : MkAt CM C H' p F R := by
  obtain ⟨dx, fl, rv, h1, h2, h3⟩ := r
  have np : p ≠ st := by
    obtain ⟨i, cur, n, ms, hs, _⟩ := s
    exact ne_of h1 hs (by intro z; cases z)
  exact ⟨dx, fl, rv, k _ _ np h1, h2.keep s k, h3.imp (fun z => z) fun ⟨n, r, c1, c2⟩ => ⟨n, r, c1, c2.keep s k⟩⟩
theorem ks_filter {S T : KS} : (ks S).filter T = ks fun k => S k && T k := by
  unfold ks
  rw [List.filter_filter]
  refine List.filter_congr fun k _ => ?_
  exact Bool.and_comm _ _
theorem has_turned {bs hs : List Int} {rs : Option (List Int)} {k : Int} (h0 : 0 ≤ k) (h1 : k < 16) : decide (k ∈ turnedL bs rs hs) = ((decide (k ∈ hs) && setO rs k) || decide (k ∈ bs)) := has_ks h0 h1
theorem turned_in (bs hs : List Int) (rs : Option (List Int)) : InK (turnedL bs rs hs) := ⟨Nat.le_trans (ks_len _) (by decide), fun n hn => by have := (mem_ks.mp hn).1; omega⟩
end Ow
namespace Ow
open PySem PySem.Spec PyProof.Rows L2
/-- parts[1] is None or key in parts[0] or key in parts[1] -/
theorem roofTest {K : PySem.W.Frag} {i j : Nat} {σ : L2.St} {H : Hp} {q : Addr} {bs : List Int} {rs : Option (List Int)} {z : Int} {R : Bool → Hp → Prop} (hi : σ[i]? = some (some (.ref q))) (hj : σ[j]? = some (some (.int z))) (pt : PartAt H q bs rs) (r : R (roofOf bs rs z) H) :
    tOr (tTest (tOp (fun x y H Q => y = .non ∧ Q (.bl (decide (x = .non))) H) (tOp (rIxL K) (tVar i) (tC (.int 1))) (tC .non))) (tOr (tTest (tOp (rIn K false) (tVar j) (tOp (rIxL K) (tVar i) (tC (.int 0))))) (tTest (tOp (rIn K false) (tVar j) (tOp (rIxL K) (tVar i) (tC (.int 1)))))) σ H R := by
  obtain ⟨b, v, h1, h2, h3⟩ := pt
  refine ⟨_, hi, q, _, _, v, rfl, rfl, SqL.of h1, rfl, rfl, _, rfl, ?_⟩
  cases rs with
  | none =>
    obtain rfl : v = .non := h3
    have e : roofOf bs none z = true := by simp [roofOf, setO]
    rw [e] at r
    exact iteT r
  | some ns =>
    obtain ⟨a, rfl, ha⟩ := h3
    refine iteF ⟨_, hj, _, hi, q, _, _, _, rfl, rfl, SqL.of h1, rfl, in_ints (.inl (SqL.of h2)) ⟨_, rfl, ?_⟩⟩
    unfold roofOf at r
    cases c1 : decide (z ∈ bs) with
    | true => rw [c1, Bool.true_or] at r; exact iteT r
    | false => rw [c1, Bool.false_or] at r; exact iteF ⟨_, hj, _, hi, q, _, _, _, rfl, rfl, SqL.of h1, rfl, in_ints (.inl (SqL.of ha)) ⟨_, rfl, r⟩⟩
end Ow

/-! the head's facts: defs that stand elsewhere than under a global's or a method's name (in a static method's record) -/
namespace Ow
open PySem PySem.Spec PyProof.Rows L2
structure DefA where
  at_ : PySem.W.Frag → Addr
  name : Str
  qual : Str
  params : Arguments
  body : List Stmt
  scope : Scope
def fnA (K : PySem.W.Frag) (a : Addr) : He.FnW := match K.lookup a with
  | some ⟨_, _, .func fd, _⟩ => some (fd.name, fd.qualname, fd.params, fd.body, fd.scope, fd.globals, fd.closure, fd.builtins)
  | _ => none
def DefA.val (d : DefA) : He.FnW := some (d.name, d.qual, d.params, .stmts d.body, d.scope, mainGlobals, [], builtinsNs)
def DefA.ok (K : PySem.W.Frag) (d : DefA) : Bool := PySem.W.keepIn K (.ref (d.at_ K)) && (match K.lookup (d.at_ K) with
  | some ⟨_, _, .func fd, _⟩ => PySem.W.codeIn K fd.code d.qual && He.dflB K fd.defaults []
  | _ => false)
theorem DefA.funD {K : PySem.W.Frag} {d : DefA} (e : fnA K (d.at_ K) = d.val) (c : d.ok K = true) : ∃ fd, FunD K d.name d.qual d.params d.body d.scope [] [] (d.at_ K) fd := by
  obtain ⟨kp, c2⟩ := He.ba c
  unfold fnA at e
  generalize hq : K.lookup (d.at_ K) = q at c2 e
  match q, hq, c2, e with
  | none, _, c2, _ => cases c2
  | some ⟨oc, od, .func ⟨n1, n2, n3, n4, n5, n6, n7, n8, n9, n10, n11, n12, n13, n14, n15⟩, osl⟩, hq, c2, e =>
    have e2 : (some (n1, n2, n3, n4, n5, n6, n7, n15) : He.FnW) = some (d.name, d.qual, d.params, .stmts d.body, d.scope, mainGlobals, [], builtinsNs) := e
    simp only [Option.some.injEq, Prod.mk.injEq] at e2
    obtain ⟨h1, h2, h3, h4, h5, h6, h7, h8⟩ := e2
    subst h1 h2 h3 h4 h5 h6 h7 h8
    obtain ⟨k1, k3⟩ := He.ba (show (PySem.W.codeIn K n13 d.qual && He.dflB K n8 []) = true from c2)
    exact ⟨_, ⟨oc, od, n8, n9, n10, n11, n12, n13, n14, osl, rfl, hq, k1, He.dflB_ok k3, .inl rfl⟩, kp⟩
/-- what the globals and the statics reach -/
def asN (g : Addr → Option Obj) : Nat → List Addr
  | 0 => [mainGlobals, cStatics]
  | n + 1 => He.growD g (asN g n)
def obsN (n : Nat) (fa : List He.Fa) (fn : List He.DefD) (fs : List DefA) (ex : PySem.W.Frag → Bool) (g : Addr → Option Obj) : (He.AlD × Bool) × (Bool × List He.FnW) :=
  let K := He.frG g (asN g n)
  ((He.obsD fa fn K, ex K), (fs.all fun d => d.ok K, fs.map fun d => fnA K (d.at_ K)))
structure SaysN (fa : List He.Fa) (fn : List He.DefD) (fs : List DefA) (ex : PySem.W.Frag → Bool) (K : PySem.W.Frag) : Prop where
  d : He.SaysD fa fn K
  x : ex K = true
  o : (fs.all fun d => d.ok K) = true
  f : (fs.map fun d => fnA K (d.at_ K)) = fs.map DefA.val
theorem SaysN.def_ {fa : List He.Fa} {fn : List He.DefD} {fs : List DefA} {ex : PySem.W.Frag → Bool} {K : PySem.W.Frag} (c : SaysN fa fn fs ex K) (i : Nat) {d : DefA} (h : fs[i]? = some d := by rfl) : ∃ fd, FunD K d.name d.qual d.params d.body d.scope [] [] (d.at_ K) fd := by
  have e2 : (fs.map fun d => fnA K (d.at_ K))[i]? = (fs.map DefA.val)[i]? := by rw [c.f]
  rw [List.getElem?_map, List.getElem?_map, h] at e2
  exact DefA.funD (Option.some.inj e2) (List.all_eq_true.mp c.o d (List.mem_of_getElem? h))
def hookN (n : Nat) (fa : List He.Fa) (fn : List He.DefD) (fs : List DefA) (ex : PySem.W.Frag → Bool) : PySem.W.Hook where
  α := (He.AlD × Bool) × (Bool × List He.FnW)
  obs := fun s => obsN n fa fn fs ex s.heap.get?
  val := fun _ => ((He.valD fn, true), (true, fs.map DefA.val))
  says := fun _ h => ∃ K : PySem.W.Frag, K.In h ∧ SaysN fa fn fs ex K
  of := fun _ s e => ⟨He.frG s.heap.get? (asN s.heap.get? n), He.frG_in, ⟨congrArg (fun z : (He.AlD × Bool) × (Bool × List He.FnW) => z.1.1) e, congrArg (fun z : (He.AlD × Bool) × (Bool × List He.FnW) => z.1.2) e, congrArg (fun z : (He.AlD × Bool) × (Bool × List He.FnW) => z.2.1) e, congrArg (fun z : (He.AlD × Bool) × (Bool × List He.FnW) => z.2.2) e⟩⟩
  keeps := fun _ _ _ ⟨K, hK, c⟩ k => ⟨K, PySem.W.Frag.In.keeps hK k, c⟩
theorem obsN_eq {n : Nat} {fa : List He.Fa} {fn : List He.DefD} {fs : List DefA} {ex : PySem.W.Frag → Bool} {g : Addr → Option Obj} {s : Shared} (h : ∀ a, g a = s.heap.get? a) : obsN n fa fn fs ex g = (hookN n fa fn fs ex).obs s := by
  obtain rfl : g = s.heap.get? := funext h
  rfl
theorem fnInOf {K : PySem.W.Frag} {C : Addr} {m : Str} (h : PySem.W.fnIn K (He.ma K C m) = true) (g : Addr) (hg : PySem.W.findIn K (.ref C) m = some (some (.ref g))) : PySem.W.fnIn K g = true := by
  have e : He.ma K C m = g := by unfold He.ma; rw [hg]
  rw [← e]
  exact h
end Ow

/-! == and != of own instances of two classes; != by object.__ne__ -/
namespace Ow
open PySem PySem.Spec PyProof.Rows L2
section
variable {prog : Program} {w : World} {A : Around} {E : Value → Shared → Prop} {s : Shared} {K : PySem.W.Frag} {x C L f : Addr} {h₀ : Heap} {m : Str → Option Value} {ox : Obj} {od : Option Obj} {b tb : Value}
theorem ne_bound {Q : Option Value → Shared → Prop} (X : K.In s.heap) (I : PySem.W.InstAt s.heap x ox C od) (hs : PySem.W.findIn K (.ref C) "__ne__" = some (some (.builtin "object.__ne__")))
    (h : wpAny (model prog w) A (call (.builtin "object.__ne__") [.ref x, b]) (fun v => Q (some v)) E s) : wpAny (model prog w) A (callSpecialIfBound? (.ref x) "__ne__" [b]) Q E s := by
  simp only [callSpecialIfBound?, bindSpecialIfBound?]
  refine wpAny_holding (wpAny_bind (wpAny_bind (wpAny_bind (I.type.here ((PySem.W.looks_findIn X hs).here ?_)))))
  simp only [PySem.F.slot_object_ne.bind]
  refine wpAny_bind (wpAny_askSetting (wpAny_ite ?_))
  have fin : wpAny (model prog w) A (call (.builtin "object.__ne__") ([.ref x] ++ [b]) >>= fun v => pure (some v)) Q E s := wpAny_bind (wpAny_mono h (fun v s' h' => wpAny_pure h') fun _ _ h' => h')
  split
  · exact wpAny_bind (wpAny_pure (wpAny_pure (by exact fin)))
  · exact wpAny_tryCatch (wpAny_bind (wpAny_pure (wpAny_pure (by exact fin))))
open Builtin in
theorem ne_call {Q : Value → Shared → Prop} (hu : A.in1.units < cLine) (X : K.In s.heap) (I : PySem.W.InstAt s.heap x ox C od) (hm : PySem.W.mroIn K C (.type "object") = some true) (hs : PySem.W.findIn K (.ref C) "__eq__" = some (some (.ref f))) (hf : PySem.W.isFn K (.ref f) = true)
    (h : wpAny (model prog w) A.in1 (call (.ref f) [.ref x, b]) (fun v s' => ∃ c, v = .bool c ∧ Q (.bool (!c)) s') E s) : wpAny (model prog w) A (call (.builtin "object.__ne__") [.ref x, b]) Q E s := by
  refine wpAny_call (codeAny_call_builtin PySem.F.slot_object_ne.plain PySem.F.cmpEntry_ne (PySem.W.check_slot (i := "object.__ne__") (owner := "object") (n := "__ne__") (by decide +kernel) (by decide +kernel) (I.type.andThen (PySem.W.looks_mroIn X hm)) (PySem.F.cmpArgs_ne _ _) ?_))
  unfold Builtin.«object.__ne__»
  refine wpAny_bind (m := slotArgs "__ne__" 1 _) (wpAny_pure ?_)
  refine wpAny_bind (m := cRoomFor _ _) (wpAny_cRoomFor hu ?_)
  refine wpAny_bind (m := callSpecialIfBound? (.ref x) (Str.ofString "__eq__") _) (PySem.W.ifBound_K X I hs hf (wpAny_mono h (fun r s' hq => ?_) fun _ _ y => y))
  obtain ⟨c, rfl, q⟩ := hq
  exact wpAny_bind (m := truthy (.bool c)) (wpAny_truthy_bool (wpAny_pure q))
theorem ne_K {Q : Value → Shared → Prop} (hu : A.units < cLine) (hu1 : A.in1.units < cLine) (F : Fr h₀ L s.heap m) (X₀ : K.In h₀) (I : PySem.W.InstAt s.heap x ox C od) (hb : PySem.W.Looks (model prog w) s.heap (typeOf b) tb) (hn : PySem.W.notFirst K C tb = true)
    (hne : PySem.W.findIn K (.ref C) "__ne__" = some (some (.builtin "object.__ne__"))) (hm : PySem.W.mroIn K C (.type "object") = some true)
    (hs : PySem.W.findIn K (.ref C) "__eq__" = some (some (.ref f))) (hf : PySem.W.isFn K (.ref f) = true)
    (h : wpAny (model prog w) A.in1 (call (.ref f) [.ref x, b]) (fun v s' => ∃ c, v = .bool c ∧ Q (.bool (!c)) s') E s) : wpAny (model prog w) A (richCompare .NotEq (.ref x) b) Q E s := by
  have X := X₀.keeps F.keep
  have one : wpAny (model prog w) A (tryCompare (.ref x) (cmpInfo .NotEq).2.1 b) (fun r s' => ∃ v, r = some v ∧ Q v s') E s := by
    unfold tryCompare
    refine wpAny_bind (ne_bound X I hne (ne_call hu1 X I hm hs hf (wpAny_mono h (fun v s' hv => ?_) fun _ _ e => e)))
    obtain ⟨c, rfl, q⟩ := hv
    exact ⟨c, rfl, wpAny_pure ⟨_, rfl, q⟩⟩
  unfold richCompare
  simp only [oneThing_ref]
  refine wpAny_holding (wpAny_bind (wpAny_cRoomFor hu ?_))
  refine wpAny_bind (I.type.here (wpAny_bind (hb.here ?_)))
  split
  · rename_i q
    have e : PySem.W.subIn K tb (.ref C) = some false := by
      rcases Bool.or_eq_true_iff.mp hn with e | e
      · rw [beq_iff_eq.mp e] at q; simp at q
      · exact beq_iff_eq.mp e
    refine wpAny_bind ((PySem.W.looks_subIn X e).here ?_)
    simp only [Bool.false_eq_true, if_false]
    refine wpAny_bind (wpAny_mono one (fun r s' z => ?_) fun _ _ e => e)
    obtain ⟨v, rfl, hq⟩ := z
    exact wpAny_pure hq
  · refine wpAny_bind (wpAny_pure ?_)
    simp only [Bool.false_eq_true, if_false]
    refine wpAny_bind (wpAny_mono one (fun r s' z => ?_) fun _ _ e => e)
    obtain ⟨v, rfl, hq⟩ := z
    exact wpAny_pure hq
end
section
variable {X : Cx} {CX : CXT} {E : XK} {k : Nat} {C D : Addr} {ps : List Str} {sp : Sp}
/-- a == b, a of the class at C, b of the class at D -/
def rEqI (C D : Addr) (sp : Sp) (E : XK) : R2 := fun x y H Q => ∃ a b dx dy fs gs, x = .ref a ∧ y = .ref b ∧ H a = some (.ins C dx fs) ∧ H b = some (.ins D dy gs) ∧ sp [.ref a, .ref b] H Q E
theorem od_eqD (G : Dun X.prog X.w X.K X.mg X.base CX k C "__eq__" ps sp) (hr : Room k X.A) (hx : Passes CX X E) (hn : PySem.W.notFirst X.K C (.ref D) = true) : OpR X (compareOp .Eq) (rEqI C D sp E) := by
  obtain ⟨f, fd, hs, hf, hk, hb, F⟩ := G
  intro pins s σ H x y v u Q I rx ry h
  obtain ⟨m, hF⟩ := I.fr
  obtain ⟨a, b, dx, dy, fs, gs, rfl, rfl, ha, hb', q⟩ := h
  cases rx
  cases ry
  obtain ⟨mA, J, _⟩ := ins_get I.hok ha
  obtain ⟨oa, J, _⟩ := J.look
  obtain ⟨mB, J', _⟩ := ins_get I.hok hb'
  obtain ⟨ob, J', _⟩ := J'.look
  show wpAny (model X.prog X.w) X.A (richCompare .Eq (.ref a) (.ref b)) (EP X pins σ Q) X.xe s
  refine PySem.W.cmp_K (op := .Eq) (tb := .ref D) hr.units0 hF I.ok.mod.kin J J'.type hn hs hf ?_
  exact wpAny_mono (run_fn (us := [.ref a, .ref b]) (vs := [.ref a, .ref b]) F hr hb .nil hx I (.cons rfl (.cons rfl .nil)) q) (fun _ _ z => epBack z) fun _ _ z => z
/-- a != b by object.__ne__ -/
def rNeI (C D : Addr) (sp : Sp) (E : XK) : R2 := fun x y H Q => ∃ a b dx dy fs gs, x = .ref a ∧ y = .ref b ∧ H a = some (.ins C dx fs) ∧ H b = some (.ins D dy gs) ∧ sp [.ref a, .ref b] H (fun v H' => ∃ c, v = .bl c ∧ Q (.bl (!c)) H') E
theorem od_neD (G : Dun X.prog X.w X.K X.mg X.base CX k C "__eq__" ps sp) (hr : Room (k + 1) X.A) (hx : Passes CX X E) (hn : PySem.W.notFirst X.K C (.ref D) = true)
    (hne : PySem.W.findIn X.K (.ref C) "__ne__" = some (some (.builtin "object.__ne__"))) (hm : PySem.W.mroIn X.K C (.type "object") = some true) : OpR X (compareOp .NotEq) (rNeI C D sp E) := by
  obtain ⟨f, fd, hs, hf, hk, hb, F⟩ := G
  intro pins s σ H x y v u Q I rx ry h
  obtain ⟨m, hF⟩ := I.fr
  obtain ⟨a, b, dx, dy, fs, gs, rfl, rfl, ha, hb', q⟩ := h
  cases rx
  cases ry
  obtain ⟨mA, J, _⟩ := ins_get I.hok ha
  obtain ⟨oa, J, _⟩ := J.look
  obtain ⟨mB, J', _⟩ := ins_get I.hok hb'
  obtain ⟨ob, J', _⟩ := J'.look
  show wpAny (model X.prog X.w) X.A (richCompare .NotEq (.ref a) (.ref b)) (EP X pins σ Q) X.xe s
  refine ne_K (tb := .ref D) hr.units0 (hr.in1).units0 hF I.ok.mod.kin J J'.type hn hne hm hs hf ?_
  refine wpAny_mono (run_in1 (us := [.ref a, .ref b]) (vs := [.ref a, .ref b]) F hr hb hx I (.cons rfl (.cons rfl .nil)) q) (fun v s' z => ?_) fun _ _ z => z
  obtain ⟨w, H', I', rw', c, rfl, q'⟩ := z
  obtain rfl : v = .bool c := rw'
  exact ⟨c, rfl, .bl (!c), H', I', rfl, q'⟩
/-- the facts for != as a Bool -/
def neB2 (K : PySem.W.Frag) (C : Addr) : Bool := decide (PySem.W.findIn K (.ref C) "__ne__" = some (some (.builtin "object.__ne__"))) && decide (PySem.W.mroIn K C (.type "object") = some true)
structure NeC (K : PySem.W.Frag) (C : Addr) : Prop where
  ne : PySem.W.findIn K (.ref C) "__ne__" = some (some (.builtin "object.__ne__"))
  ob : PySem.W.mroIn K C (.type "object") = some true
theorem neB2_ok {K : PySem.W.Frag} {C : Addr} (h : neB2 K C = true) : NeC K C := by
  obtain ⟨a, b⟩ := Bool.and_eq_true_iff.mp h
  exact ⟨of_decide_eq_true a, of_decide_eq_true b⟩
end
theorem nfSelf (K : PySem.W.Frag) (C : Addr) : PySem.W.notFirst K C (.ref C) = true := by simp [PySem.W.notFirst]
/-- a Mask is no Rights -/
def spMEqN (CM C : Addr) : Sp := fun vs H Q _ => ∃ (p q : Addr) (F R S : KS), vs = [.ref p, .ref q] ∧ MkAt CM C H p F R ∧ RtAt C H q S ∧ Q (.bl false) H
def InS (ns : List Int) : Prop := ns.length ≤ 16 ∧ ∀ n ∈ ns, 0 ≤ n ∧ n ≤ 15
def InSO : Option (List Int) → Prop
  | none => True
  | some ns => InS ns
theorem InS.k {ns : List Int} (h : InS ns) : InK ns := ⟨Nat.le_trans h.1 (by decide), h.2⟩
theorem InSO.k {o : Option (List Int)} (h : InSO o) : InKO o := by
  cases o with
  | none => trivial
  | some ns => exact InS.k h
def spPartsS : Sp := fun vs H Q _ => ∃ (st c : Addr) (b : Nat), vs = [.ref st] ∧ StAt H st c b ∧ b ≤ 800000 ∧ ∀ (q : Addr) (bs : List Int) (rs : Option (List Int)) (H' : Hp), InS bs → InSO rs → StAt H' st c (b + 100) → Keep st H H' → PartAt H' q bs rs → H q = none → Q (.ref q) H'
/-- masks and parts stay where the state is written -/
theorem neMk {CM C p q : Addr} {H : Hp} {F R F2 R2 : KS} {Q : VK} {E : XK} (hp : MkAt CM C H p F R) (hq : MkAt CM C H q F2 R2) (k : Q (.bl (!(decide (ks F = ks F2) && decide (ks R = ks R2)))) H) : rNeI CM CM (spMEq CM C) E (.ref p) (.ref q) H Q := by
  obtain ⟨dx, fs, ha⟩ := hp.ob
  obtain ⟨dy, gs, hb⟩ := hq.ob
  exact ⟨p, q, dx, dy, fs, gs, rfl, rfl, ha, hb, p, q, F, R, F2, R2, rfl, hp, hq, _, rfl, k⟩
theorem eqN {CM C p q : Addr} {H : Hp} {F R S : KS} {Q : VK} {E : XK} (hp : MkAt CM C H p F R) (hq : RtAt C H q S) (k : Q (.bl false) H) : rEqI CM C (spMEqN CM C) E (.ref p) (.ref q) H Q := by
  obtain ⟨dx, fs, ha⟩ := hp.ob
  obtain ⟨dy, t, hb, _⟩ := id hq
  exact ⟨p, q, dx, dy, fs, _, rfl, rfl, ha, hb, p, q, F, R, S, rfl, hp, hq, k⟩
theorem neN {CM C p q : Addr} {H : Hp} {F R S : KS} {Q : VK} {E : XK} (hp : MkAt CM C H p F R) (hq : RtAt C H q S) (k : Q (.bl true) H) : rNeI CM C (spMEqN CM C) E (.ref p) (.ref q) H Q := by
  obtain ⟨dx, fs, ha⟩ := hp.ob
  obtain ⟨dy, t, hb, _⟩ := id hq
  exact ⟨p, q, dx, dy, fs, _, rfl, rfl, ha, hb, p, q, F, R, S, rfl, hp, hq, false, rfl, k⟩
theorem lkWM {v w : V} : List.lookup ("within" : Str) [(("floor" : Str), v), (("roof" : Str), w)] = none := by
  have h1 : (("within" : Str) == ("floor" : Str)) = false := by decide +kernel
  have h2 : (("within" : Str) == ("roof" : Str)) = false := by decide +kernel
  simp [List.lookup, h1, h2]
end Ow

namespace K07
open PySem PySem.Spec PyProof.Rows L2 Ow
def top (i : Nat) : Stmt := PySem.Challenge.pw_keysfewest_k07_masks_within.main.body.getD i (.Pass ⟨0, 0, 0, 0⟩)
abbrev Sis_key : Stmt := top 6
abbrev SRights_init : Stmt := inClass (top 7) 0
abbrev SRights_within : Stmt := inClass (top 7) 3
abbrev SRights_or : Stmt := inClass (top 7) 4
abbrev SRights_eq : Stmt := inClass (top 7) 10
abbrev Sjoined_roof : Stmt := top 9
abbrev SMask_init : Stmt := inClass (top 12) 0
abbrev SMask_keep : Stmt := inClass (top 12) 1
abbrev SMask_only : Stmt := inClass (top 12) 2
abbrev SMask_adding : Stmt := inClass (top 12) 3
abbrev SMask_within : Stmt := inClass (top 12) 7
abbrev SMask_eq : Stmt := inClass (top 12) 9
abbrev S_law_start : Stmt := top 14
abbrev S_law_draw : Stmt := top 15
abbrev S_law_some : Stmt := top 16
abbrev S_law_parts : Stmt := top 17
abbrev S_law_made : Stmt := top 18
abbrev S_law_turned : Stmt := top 19
abbrev S_law_moved : Stmt := top 20
abbrev S_law_outs : Stmt := top 21
abbrev Slaw : Stmt := top 22
theorem scis_key : FnScope ["number"] ["number"] (defScope Sis_key) := ⟨rfl, rfl, rfl, by decide +kernel, rfl, by decide +kernel, by decide +kernel⟩
theorem scRights_init : FnScope ["self", "numbers", "given", "number"] ["self", "numbers"] (defScope SRights_init) := ⟨rfl, rfl, rfl, by decide +kernel, rfl, by decide +kernel, by decide +kernel⟩
theorem scRights_within : FnScope ["self", "other", "number"] ["self", "other"] (defScope SRights_within) := ⟨rfl, rfl, rfl, by decide +kernel, rfl, by decide +kernel, by decide +kernel⟩
theorem scRights_or : FnScope ["self", "other"] ["self", "other"] (defScope SRights_or) := ⟨rfl, rfl, rfl, by decide +kernel, rfl, by decide +kernel, by decide +kernel⟩
theorem scRights_eq : FnScope ["self", "other"] ["self", "other"] (defScope SRights_eq) := ⟨rfl, rfl, rfl, by decide +kernel, rfl, by decide +kernel, by decide +kernel⟩
theorem scjoined_roof : FnScope ["first", "second", "both"] ["first", "second"] (defScope Sjoined_roof) := ⟨rfl, rfl, rfl, by decide +kernel, rfl, by decide +kernel, by decide +kernel⟩
theorem scMask_init : FnScope ["self", "floor", "roof"] ["self", "floor", "roof"] (defScope SMask_init) := ⟨rfl, rfl, rfl, by decide +kernel, rfl, by decide +kernel, by decide +kernel⟩
theorem scMask_keep : FnScope [] [] (defScope SMask_keep) := ⟨rfl, rfl, rfl, by decide +kernel, rfl, by decide +kernel, by decide +kernel⟩
theorem scMask_only : FnScope ["rights"] ["rights"] (defScope SMask_only) := ⟨rfl, rfl, rfl, by decide +kernel, rfl, by decide +kernel, by decide +kernel⟩
theorem scMask_adding : FnScope ["rights"] ["rights"] (defScope SMask_adding) := ⟨rfl, rfl, rfl, by decide +kernel, rfl, by decide +kernel, by decide +kernel⟩
theorem scMask_within : FnScope ["self", "other"] ["self", "other"] (defScope SMask_within) := ⟨rfl, rfl, rfl, by decide +kernel, rfl, by decide +kernel, by decide +kernel⟩
theorem scMask_eq : FnScope ["self", "other"] ["self", "other"] (defScope SMask_eq) := ⟨rfl, rfl, rfl, by decide +kernel, rfl, by decide +kernel, by decide +kernel⟩
theorem sc_law_start : FnScope ["_law_script", "_law_first"] ["_law_script"] (defScope S_law_start) := ⟨rfl, rfl, rfl, by decide +kernel, rfl, by decide +kernel, by decide +kernel⟩
theorem sc_law_draw : FnScope ["_law_state", "_law_many", "_law_drawn", "_law_seed", "_law_mixed"] ["_law_state", "_law_many"] (defScope S_law_draw) := ⟨rfl, rfl, rfl, by decide +kernel, rfl, by decide +kernel, by decide +kernel⟩
theorem sc_law_some : FnScope ["_law_state", "_law_most", "_law_found", "_law_k"] ["_law_state", "_law_most"] (defScope S_law_some) := ⟨rfl, rfl, rfl, by decide +kernel, rfl, by decide +kernel, by decide +kernel⟩
theorem sc_law_parts : FnScope ["_law_state", "_law_kind", "_law_base", "_law_key"] ["_law_state"] (defScope S_law_parts) := ⟨rfl, rfl, rfl, by decide +kernel, rfl, by decide +kernel, by decide +kernel⟩
theorem sc_law_made : FnScope ["_law_parts_here"] ["_law_parts_here"] (defScope S_law_made) := ⟨rfl, rfl, rfl, by decide +kernel, rfl, by decide +kernel, by decide +kernel⟩
theorem sc_law_turned : FnScope ["_law_parts_here", "_law_held", "_law_kept", "_law_key"] ["_law_parts_here", "_law_held"] (defScope S_law_turned) := ⟨rfl, rfl, rfl, by decide +kernel, rfl, by decide +kernel, by decide +kernel⟩
theorem sc_law_moved : FnScope ["_law_state", "_law_part", "_law_kind", "_law_key", "_law_base", "_law_roof", "_law_one"] ["_law_state", "_law_part"] (defScope S_law_moved) := ⟨rfl, rfl, rfl, by decide +kernel, rfl, by decide +kernel, by decide +kernel⟩
theorem sc_law_outs : FnScope ["_law_parts_here", "_law_key"] ["_law_parts_here", "_law_key"] (defScope S_law_outs) := ⟨rfl, rfl, rfl, by decide +kernel, rfl, by decide +kernel, by decide +kernel⟩
theorem sclaw : FnScope ["_law_script", "_law_state", "_law_one", "_law_two", "_law_first", "_law_second", "_law_outs_here", "_law_less", "_law_more", "_law_told", "_law_every", "_law_key", "_law_pair"] ["_law_script"] (defScope Slaw) := ⟨rfl, rfl, rfl, by decide +kernel, rfl, by decide +kernel, by decide +kernel⟩
def dis_key : He.DefD := ⟨("is_key", none), "is_key", "is_key", defArgs Sis_key, defBody Sis_key, defScope Sis_key, [], []⟩
def dRights_init : He.DefD := ⟨("Rights", some "__init__"), "__init__", "Rights.__init__", defArgs SRights_init, defBody SRights_init, defScope SRights_init, [(.adr (He.dflAt ("Rights", some "__init__") 0))], []⟩
def dRights_within : He.DefD := ⟨("Rights", some "within"), "within", "Rights.within", defArgs SRights_within, defBody SRights_within, defScope SRights_within, [], []⟩
def dRights_or : He.DefD := ⟨("Rights", some "__or__"), "__or__", "Rights.__or__", defArgs SRights_or, defBody SRights_or, defScope SRights_or, [], []⟩
def dRights_eq : He.DefD := ⟨("Rights", some "__eq__"), "__eq__", "Rights.__eq__", defArgs SRights_eq, defBody SRights_eq, defScope SRights_eq, [], []⟩
def djoined_roof : He.DefD := ⟨("joined_roof", none), "joined_roof", "joined_roof", defArgs Sjoined_roof, defBody Sjoined_roof, defScope Sjoined_roof, [], []⟩
def dMask_init : He.DefD := ⟨("Mask", some "__init__"), "__init__", "Mask.__init__", defArgs SMask_init, defBody SMask_init, defScope SMask_init, [.non], []⟩
def dMask_within : He.DefD := ⟨("Mask", some "within"), "within", "Mask.within", defArgs SMask_within, defBody SMask_within, defScope SMask_within, [], []⟩
def dMask_eq : He.DefD := ⟨("Mask", some "__eq__"), "__eq__", "Mask.__eq__", defArgs SMask_eq, defBody SMask_eq, defScope SMask_eq, [], []⟩
def d_law_start : He.DefD := ⟨("_law_start", none), "_law_start", "_law_start", defArgs S_law_start, defBody S_law_start, defScope S_law_start, [], []⟩
def d_law_draw : He.DefD := ⟨("_law_draw", none), "_law_draw", "_law_draw", defArgs S_law_draw, defBody S_law_draw, defScope S_law_draw, [], []⟩
def d_law_some : He.DefD := ⟨("_law_some", none), "_law_some", "_law_some", defArgs S_law_some, defBody S_law_some, defScope S_law_some, [], []⟩
def d_law_parts : He.DefD := ⟨("_law_parts", none), "_law_parts", "_law_parts", defArgs S_law_parts, defBody S_law_parts, defScope S_law_parts, [], []⟩
def d_law_made : He.DefD := ⟨("_law_made", none), "_law_made", "_law_made", defArgs S_law_made, defBody S_law_made, defScope S_law_made, [], []⟩
def d_law_turned : He.DefD := ⟨("_law_turned", none), "_law_turned", "_law_turned", defArgs S_law_turned, defBody S_law_turned, defScope S_law_turned, [], []⟩
def d_law_moved : He.DefD := ⟨("_law_moved", none), "_law_moved", "_law_moved", defArgs S_law_moved, defBody S_law_moved, defScope S_law_moved, [], []⟩
def d_law_outs : He.DefD := ⟨("_law_outs", none), "_law_outs", "_law_outs", defArgs S_law_outs, defBody S_law_outs, defScope S_law_outs, [], []⟩
def dlaw : He.DefD := ⟨("law", none), "law", "law", defArgs Slaw, defBody Slaw, defScope Slaw, [], []⟩
def dMask_keep : Ow.DefA := ⟨fun K => Ow.smF K (He.ga K "Mask") "keep", "keep", "Mask.keep", defArgs SMask_keep, defBody SMask_keep, defScope SMask_keep⟩
def dMask_only : Ow.DefA := ⟨fun K => Ow.smF K (He.ga K "Mask") "only", "only", "Mask.only", defArgs SMask_only, defBody SMask_only, defScope SMask_only⟩
def dMask_adding : Ow.DefA := ⟨fun K => Ow.smF K (He.ga K "Mask") "adding", "adding", "Mask.adding", defArgs SMask_adding, defBody SMask_adding, defScope SMask_adding⟩
def fs : List Ow.DefA := [dMask_keep, dMask_only, dMask_adding]
def fn : List He.DefD := [dis_key, dRights_init, dRights_within, dRights_or, dRights_eq, djoined_roof, dMask_init, dMask_within, dMask_eq, d_law_start, d_law_draw, d_law_some, d_law_parts, d_law_made, d_law_turned, d_law_moved, d_law_outs, dlaw]
def fa : List He.Fa := [.glo "is_key", .glo "joined_roof", .glo "_law_start", .glo "_law_draw", .glo "_law_some", .glo "_law_parts", .glo "_law_made", .glo "_law_turned", .glo "_law_moved", .glo "_law_outs", .glo "law", .glo "Rights", .cls "Rights", .mkr "Rights", .glo "Mask", .cls "Mask", .mkr "Mask", .noat "Rights" "numbers", .noat "Mask" "floor", .noat "Mask" "roof", .meth "Rights" "__or__", .meth "Rights" "__eq__", .meth "Rights" "within", .meth "Mask" "within", .meth "Mask" "__eq__", .int "MOST" 15, .free "all", .free "bool", .free "int", .free "isinstance", .free "len", .free "list", .free "range", .free "set", .free "sorted", .free "tuple"]
def ex : PySem.W.Frag → Bool := fun K => Ow.isiB K (He.ga K "Rights") && (PySem.W.selfFirst K (He.ga K "Rights") && (Ow.emptyT K (He.dflAt ("Rights", some "__init__") 0 K) && (Ow.isiB K (He.ga K "Mask") && (PySem.W.selfFirst K (He.ga K "Mask") && (PySem.W.notFirst K (He.ga K "Rights") (.type "NoneType") && (decide (PySem.W.subIn K (.ref (He.ga K "Rights")) (.type "NoneType") = some false) && (decide (PySem.W.kitOne K (.type "NoneType") (.ref (He.ga K "Rights")) = some false) && (PySem.W.notFirst K (He.ga K "Mask") (.ref (He.ga K "Rights")) && (decide (PySem.W.kitOne K (.ref (He.ga K "Rights")) (.ref (He.ga K "Mask")) = some false) && (Ow.neB2 K (He.ga K "Mask") && (Ow.statB K (He.ga K "Mask") "keep" && (Ow.statB K (He.ga K "Mask") "only" && (Ow.statB K (He.ga K "Mask") "adding")))))))))))))
def loose : List PySem.Str := ["_wall", "FewError", "BadKey", "MOST", "is_key", "Rights", "joined_roof", "common_roof", "masked", "Mask", "_law_start", "_law_draw", "_law_some", "_law_parts", "_law_made", "_law_turned", "_law_moved", "_law_outs"]
abbrev R : PySem.W.OpenRow := PySem.W.OpenLaw.row PySem.Challenge.rw_keysfewest_k07_masks_within
abbrev hk : PySem.W.Hook := Ow.hookN 6 fa fn fs ex
def ob (s : PySem.W.SharedT) : (He.AlD × Bool) × (Bool × List He.FnW) := Ow.obsN 6 fa fn fs ex (HandSHeadRun.getT s)
theorem ob_eq (s : PySem.W.SharedT) : ob s = hk.obs s.abs := Ow.obsN_eq (HandSHeadRun.getT_eq s)
theorem run (w : World) : HandSHeadRun.RunEq R (PySem.W.view R.prog [22]) hk ob 4000 loose w := by
  intro os
  kernel_rfl
structure Txt (K : PySem.W.Frag) (mg : Str → Option Value) : Prop where
  z_all : mg "all" = none
  z_bool : mg "bool" = none
  z_int : mg "int" = none
  z_isinstance : mg "isinstance" = none
  z_len : mg "len" = none
  z_list : mg "list" = none
  z_range : mg "range" = none
  z_set : mg "set" = none
  z_sorted : mg "sorted" = none
  z_tuple : mg "tuple" = none
  g_Rights : mg "Rights" = some (.ref (He.ga K "Rights"))
  cl_Rights : Cls K (He.ga K "Rights")
  mk_Rights : Mk K (He.ga K "Rights") (He.ma K (He.ga K "Rights") "__init__")
  g_Mask : mg "Mask" = some (.ref (He.ga K "Mask"))
  cl_Mask : Cls K (He.ga K "Mask")
  mk_Mask : Mk K (He.ga K "Mask") (He.ma K (He.ga K "Mask") "__init__")
  na_Rights_numbers : NoAttr K (He.ga K "Rights") "numbers"
  na_Mask_floor : NoAttr K (He.ga K "Mask") "floor"
  na_Mask_roof : NoAttr K (He.ga K "Mask") "roof"
  m_Rights_or : Meth K (He.ga K "Rights") "__or__" (He.ma K (He.ga K "Rights") "__or__")
  m_Rights_eq : Meth K (He.ga K "Rights") "__eq__" (He.ma K (He.ga K "Rights") "__eq__")
  m_Rights_within : Meth K (He.ga K "Rights") "within" (He.ma K (He.ga K "Rights") "within")
  m_Mask_within : Meth K (He.ga K "Mask") "within" (He.ma K (He.ga K "Mask") "within")
  m_Mask_eq : Meth K (He.ga K "Mask") "__eq__" (He.ma K (He.ga K "Mask") "__eq__")
  c_MOST : ∃ t, mg "MOST" = some (.int 15 t)
  i_Rights : Ow.IsiC K (He.ga K "Rights")
  sf_Rights : PySem.W.selfFirst K (He.ga K "Rights") = true
  e_Rights : ∀ H, SqT K H (He.dflAt ("Rights", some "__init__") 0 K) []
  i_Mask : Ow.IsiC K (He.ga K "Mask")
  sf_Mask : PySem.W.selfFirst K (He.ga K "Mask") = true
  n1_Rights : PySem.W.notFirst K (He.ga K "Rights") (.type "NoneType") = true
  n2_Rights : PySem.W.subIn K (.ref (He.ga K "Rights")) (.type "NoneType") = some false
  n3_Rights : PySem.W.kitOne K (.type "NoneType") (.ref (He.ga K "Rights")) = some false
  nf_MR : PySem.W.notFirst K (He.ga K "Mask") (.ref (He.ga K "Rights")) = true
  n4_MR : PySem.W.kitOne K (.ref (He.ga K "Rights")) (.ref (He.ga K "Mask")) = some false
  ne_Mask : Ow.NeC K (He.ga K "Mask")
  s_keep : Ow.StatM K (He.ga K "Mask") "keep" (Ow.smF K (He.ga K "Mask") "keep")
  s_only : Ow.StatM K (He.ga K "Mask") "only" (Ow.smF K (He.ga K "Mask") "only")
  s_adding : Ow.StatM K (He.ga K "Mask") "adding" (Ow.smF K (He.ga K "Mask") "adding")
end K07

namespace K07
open PySem PySem.Spec PyProof.Rows L2 Ow
section
variable {P : Program} {w : World} {K : PySem.W.Frag} {mg : Str → Option Value} {base : Heap}
theorem ok_is_key {f : Addr} {fd : FuncData} (F : FunD K "is_key" "is_key" (defArgs Sis_key) (defBody Sis_key) (defScope Sis_key) [] [] f fd) (T : Txt K mg)  : FnOk P w K mg base CX0 1 f fd ["number"] (Ow.spIsKey) := by
  obtain ⟨_, gMOST⟩ := T.c_MOST
  refine F.ok scis_key (fun vs H Q E h => ?_) (fun cdv A outer s H vs Q E hr h => ?_)
  · obtain ⟨n, rfl, _⟩ := h
    rfl
  · obtain ⟨n, rfl, q⟩ := h
    refine ⟨_, PSs.nox (pss_one (ps_ret (pe_chain op_le op_le pe_int (pv 0) (pe_glob (v := .int 15) rfl gMOST ⟨_, rfl⟩)))), ?_⟩
    refine ⟨_, rfl, _, _, rfl, rfl, _, rfl, ?_⟩
    by_cases c : (0 : Int) ≤ n
    · rw [if_pos (by simpa using c)]
      refine ⟨_, _, rfl, rfl, ?_⟩
      have e : decide (n ≤ 15) = decide (0 ≤ n ∧ n ≤ 15) := by simp [c]
      show Q (.bl (decide (n ≤ 15))) H
      rw [e]
      exact q
    · rw [if_neg (by simpa using c)]
      have e : false = decide (0 ≤ n ∧ n ≤ 15) := by simp [c]
      rw [e]
      exact q

theorem ok_Rights_init {f : Addr} {fd : FuncData} (F : FunD K "__init__" "Rights.__init__" (defArgs SRights_init) (defBody SRights_init) (defScope SRights_init) [He.Dv.v K (.adr (He.dflAt ("Rights", some "__init__") 0))] [] f fd) (T : Txt K mg) (Gis_key : Ow.Glob P w K mg base CX0 1 "is_key" ["number"] Ow.spIsKey) : FnOk P w K mg base CX0 2 f fd ["self", "numbers"] (Ow.spInit K (He.ga K "Rights")) := by
  refine F.ok scRights_init (fun vs H Q E h => ?_) (fun cdv A outer s H vs Q E hr h => ?_)
  · obtain ⟨p, dx, a, ns, rfl, _⟩ := h
    rfl
  · obtain ⟨p, dx, a, ns, rfl, hp, hs, hl, hb, k⟩ := h
    refine ⟨_, PSs.nox (pss_cons (ps_set (i := 2) scRights_init.nd rfl (by first | exact Or.inl rfl | exact Or.inr rfl) (pe_callTy (klist (K := K)) (by rfl) T.z_list (by decide +kernel) (pa_cons (pv 1) pa_nil)))
      (pss_cons (ps_for PassesOwn.never rfl (kpl (K := K) (pv 2)) (pg_name (i := 3) scRights_init.nd rfl (by first | exact Or.inl rfl | exact Or.inr rfl))
       (pss_one (ps_if (pt_not (pt_val (pe_g Gis_key (hr.mono (by decide)) pass0 (pa_cons (pv 3) pa_nil)))) (pss_one (ps_never)) pss_nil)))
      (pss_one (ps_fld (pv 0) (pe_callTy (ktuple (K := K)) (by rfl) T.z_tuple (by decide +kernel) (pa_cons (pe_callB (ksorted (w := w) rfl) (by rfl) T.z_sorted (by decide +kernel) (pa_cons (pe_callTy (kset (K := K) (w := w) rfl) (by rfl) T.z_set boot_set (pa_cons (pv 2) pa_nil)) pa_nil)) pa_nil)) rfl)))), ?_⟩
    -- given = list(numbers)
    refine ⟨_, rfl, a, _, rfl, hs, fun l hl0 => ?_⟩
    have npl : p ≠ l := ne_of_none hp hl0
    -- for number in given
    refine ⟨_, rfl, l, rfl, ⟨_, SqL.of upd_same⟩, for_list (K := K) (a := l) (xs := ns.map V.int) (fun i σ H' => ∃ v, σ = [some (.ref p), some (.ref a), some (.ref l), v] ∧ H' = upd H l (.lst (ns.map V.int)))
      ⟨none, rfl, rfl⟩ (fun i σ H' _ ⟨_, _, e⟩ => by rw [e]; exact SqL.of upd_same) ?_ ?_⟩
    · rintro i y σ H' hi ⟨v, rfl, rfl⟩
      obtain ⟨z, hz, rfl⟩ : ∃ z, z ∈ ns ∧ y = V.int z := by
        have := List.mem_of_getElem? hi
        obtain ⟨z, h1, h2⟩ := List.mem_map.mp this
        exact ⟨z, h1, h2.symm⟩
      have e : decide (0 ≤ z ∧ z ≤ 15) = true := decide_eq_true (hb z hz)
      refine ⟨_, rfl, z, rfl, _, rfl, ?_⟩
      rw [e]
      exact iteF ⟨_, rfl, rfl⟩
    · rintro σ H' ⟨v, rfl, rfl⟩
      -- self.numbers = tuple(sorted(set(given)))
      refine ⟨_, rfl, l, ns, rfl, .inl (SqL.of upd_same), by omega, fun q c hq hc => ?_⟩
      have npq : p ≠ q := ne_of_none (H := upd H l (.lst (ns.map V.int))) (by rw [upd_ne npl]; exact hp) hq
      refine ⟨q, _, _, rfl, upd_same, by omega, fun ms m hso hmem hlen hm => ?_⟩
      have npm : p ≠ m := ne_of_none (H := upd (upd H l (.lst (ns.map V.int))) q _) (by rw [upd_ne npq, upd_ne npl]; exact hp) hm
      refine ⟨m, _, rfl, .inl ⟨SqL.of upd_same, fun t ht => ?_⟩⟩
      have npt : p ≠ t := ne_of_none (H := upd (upd (upd H l (.lst (ns.map V.int))) q _) m _) (by rw [upd_ne npm, upd_ne npq, upd_ne npl]; exact hp) ht
      refine ⟨_, rfl, p, _, dx, [], rfl, by rw [upd_ne npt, upd_ne npm, upd_ne npq, upd_ne npl]; exact hp, T.cl_Rights, T.na_Rights_numbers, by show 0 < 1000; decide, ?_⟩
      have em : ms = Ow.ks fun j => decide (j ∈ ns) := Ow.ks_uniq hso fun j => by
        rw [hmem j]
        constructor
        · intro z
          have := hb j (of_decide_eq_true z)
          exact ⟨⟨this.1, by omega⟩, z⟩
        · exact fun z => z.2
      refine k _ ⟨dx, t, upd_same, by rw [upd_ne npt.symm, ← em]; exact upd_same⟩ fun b o e hbp => ?_
      have e1 : upd H l (.lst (ns.map V.int)) b = some o := by rw [upd_ne (ne_of_none e hl0)]; exact e
      have e2 := Ext.upd (o := SetO w q (fun j => decide (j ∈ ns)) c) hq b o e1
      have e3 := Ext.upd (o := .lst (ms.map V.int)) hm b o e2
      have e4 := Ext.upd (o := .tup (ms.map V.int)) ht b o e3
      rw [upd_ne hbp]
      exact e4

theorem ok_Rights_or {f : Addr} {fd : FuncData} (F : FunD K "__or__" "Rights.__or__" (defArgs SRights_or) (defBody SRights_or) (defScope SRights_or) [] [] f fd) (T : Txt K mg) (GRights : Ow.Maker P w K mg base CX0 2 "Rights" (He.ga K "Rights") ["self", "numbers"] [] (Ow.spInit K (He.ga K "Rights"))) : FnOk P w K mg base CX0 4 f fd ["self", "other"] (Ow.spBin (He.ga K "Rights") (· || ·)) := by
  refine F.ok scRights_or (fun vs H Q E h => ?_) (fun cdv A outer s H vs Q E hr h => ?_)
  · obtain ⟨a, b, S, T', rfl, _⟩ := h
    rfl
  · obtain ⟨a, b, S, S2, rfl, ra, rb, k⟩ := h
    obtain ⟨dx, t, ha, ht⟩ := id ra
    obtain ⟨dy, u, hb, hu⟩ := id rb
    have l1 := Ow.ks_len S
    have l2 := Ow.ks_len S2
    refine ⟨_, PSs.nox (pss_one (ps_ret (pe_mk GRights (hr.mono (by decide)) pass0 (pa_cons (pe_op (kcat (K := K)) (kfld (K := K) (pv 0)) (kfld (K := K) (pv 1))) pa_nil)))), ?_⟩
    have cat : ∀ (Q : VK), (∀ p H', Ext H H' → SqT K H' p ((Ow.ks S ++ Ow.ks S2).map V.int) → Q (.ref p) H') → tOp (rCatA K) (tFld K (tVar 0) "numbers") (tFld K (tVar 1) "numbers") (start ["self", "other"] [.ref a, .ref b]) H Q := fun Q kq => by
      refine ⟨_, rfl, a, _, dx, _, _, rfl, ha, T.cl_Rights, T.na_Rights_numbers, Ow.lk1, _, rfl, b, _, dy, _, _, rfl, hb, T.cl_Rights, T.na_Rights_numbers, Ow.lk1, t, u, _, _, rfl, rfl, SqT.of ht, SqT.of hu, by simp only [List.length_map]; exact Ow.few16 (by omega), fun z => ?_, fun _ z => ?_, fun _ _ p hp => ?_⟩
      · refine kq _ _ Ext.rfl' ?_
        rw [List.map_append, z]
        exact SqT.of hu
      · refine kq _ _ Ext.rfl' ?_
        rw [List.map_append, z, List.append_nil]
        exact SqT.of ht
      · refine kq _ _ (Ext.upd hp) ?_
        rw [List.map_append]
        exact SqT.of upd_same
    refine cat _ fun p H' e hp => Ow.mkRt (.inr hp) (by rw [List.length_append]; omega) (fun n hn => ?_) (fun x H2 e2 nx r => k x H2 (e.trans e2) (Ow.Ext.free e nx) (r.congr fun j h0 h1 => ?_))
    · rcases List.mem_append.mp hn with z | z
      · have := (Ow.mem_ks.mp z).1; omega
      · have := (Ow.mem_ks.mp z).1; omega
    · rw [Bool.eq_iff_iff, decide_eq_true_iff, List.mem_append, Ow.mem_ks, Ow.mem_ks, Bool.or_eq_true]
      simp [h0, h1]

theorem ok_Rights_within {f : Addr} {fd : FuncData} (F : FunD K "within" "Rights.within" (defArgs SRights_within) (defBody SRights_within) (defScope SRights_within) [] [] f fd) (T : Txt K mg)  : FnOk P w K mg base CX0 1 f fd ["self", "other"] (Ow.spWithin (He.ga K "Rights")) := by
  refine F.ok scRights_within (fun vs H Q E h => ?_) (fun cdv A outer s H vs Q E hr h => ?_)
  · obtain ⟨a, b, S, T', rfl, _⟩ := h
    rfl
  · obtain ⟨a, b, S, S2, rfl, ra, rb, k⟩ := h
    obtain ⟨dx, t, ha, ht⟩ := id ra
    obtain ⟨dy, u, hb, hu⟩ := id rb
    have l1 := Ow.ks_len S
    refine ⟨_, PSs.nox (pss_one (ps_ret (pe_callB (kall (K := K) rfl) (by rfl) T.z_all (by decide +kernel) (pa_cons (pe_lc (own := [("number", 2)]) rfl scRights_within.nd (kpt (K := K) (kfld (K := K) (pv 0))) (blkOk_by (own := [("number", 2)]) (N := ["self", "other", "number"]) (sc := defScope SRights_within) (by decide +kernel)) (fun _ _ _ _ _ => by exact pg_name (i := 2) scRights_within.nd rfl (by first | exact Or.inl rfl | exact Or.inr rfl)) (fun _ _ _ _ _ => by exact pts_nil) (fun _ _ _ _ _ => by exact (pe_cmpR (kin (K := K)) (pv 2) (kfld (K := K) (pv 1)) (by rfl)))) pa_nil)))), ?_⟩
    refine ⟨_, rfl, a, _, dx, _, _, rfl, ha, T.cl_Rights, T.na_Rights_numbers, Ow.lk1, t, rfl, ⟨_, SqT.of ht⟩, fun D hD => ?_⟩
    refine compT (Ow.ks S) V.int (fun _ => true) (fun z => V.bl (decide (z ∈ Ow.ks S2))) (SqT.of ht) hD (by omega) (fun z H' R _ e q => q) (fun z H' R _ e q => ?_) ?_
    · exact ⟨_, rfl, _, rfl, b, _, dy, _, _, rfl, e _ _ hb, T.cl_Rights, T.na_Rights_numbers, Ow.lk1, Ow.in_ints (.inr (SqT.of (e _ _ hu))) q⟩
    · rw [filterAll]
      refine ⟨D, (Ow.ks S).map fun z => decide (z ∈ Ow.ks S2), rfl, SqL.of (by rw [upd_same, List.map_map]; rfl), ?_⟩
      have e : ((Ow.ks S).map fun z => decide (z ∈ Ow.ks S2)).all id = Ow.wi S S2 := by unfold Ow.wi; rw [List.all_map]; rfl
      rw [e]
      exact k _ (Ext.upd hD)

theorem ok_Rights_eq {f : Addr} {fd : FuncData} (F : FunD K "__eq__" "Rights.__eq__" (defArgs SRights_eq) (defBody SRights_eq) (defScope SRights_eq) [] [] f fd) (T : Txt K mg)  : FnOk P w K mg base CX0 1 f fd ["self", "other"] (Ow.spEqR (He.ga K "Rights")) := by
  refine F.ok scRights_eq (fun vs H Q E h => ?_) (fun cdv A outer s H vs Q E hr h => ?_)
  · obtain ⟨a, b, S, T', rfl, _⟩ := h
    rfl
  · obtain ⟨a, b, S, S2, rfl, ra, rb, q⟩ := h
    obtain ⟨dx, t, ha, ht⟩ := id ra
    obtain ⟨dy, u, hb, hu⟩ := id rb
    refine ⟨_, PSs.nox (pss_one (ps_ret (pe_and (pe_callB (kisi (K := K)) (by rfl) T.z_isinstance (by decide +kernel) (pa_cons (pv 1) (pa_cons (pe_glob (v := .ref (He.ga K "Rights")) rfl T.g_Rights rfl) pa_nil))) (pe_one (pe_cmpR (keqd (K := K) hr.units) (kfld (K := K) (pv 0)) (kfld (K := K) (pv 1)) (nomark _)))))), ?_⟩
    refine ⟨_, rfl, _, _, _, _, true, rfl, .own _, T.i_Rights.ty T.cl_Rights hb, T.i_Rights.y, _, rfl, iteT ?_⟩
    exact ⟨_, rfl, a, _, dx, _, _, rfl, ha, T.cl_Rights, T.na_Rights_numbers, Ow.lk1, _, rfl, b, _, dy, _, _, rfl, hb, T.cl_Rights, T.na_Rights_numbers, Ow.lk1, Ow.eqd_tup (SqT.of ht) (SqT.of hu) q⟩
theorem ok__law_start {f : Addr} {fd : FuncData} (F : FunD K "_law_start" "_law_start" (defArgs S_law_start) (defBody S_law_start) (defScope S_law_start) [] [] f fd) (T : Txt K mg)  : FnOk P w K mg base CX0 1 f fd ["_law_script"] (Ow.spStart K) := by
  refine F.ok sc_law_start (fun vs H Q E h => ?_) (fun cdv A outer s H vs Q E hr h => ?_)
  · obtain ⟨a, ns, rfl, _⟩ := h
    rfl
  · obtain ⟨a, ns, rfl, hs, hl, k⟩ := h
    refine ⟨_, PSs.nox (pss_cons (ps_set (i := 1) sc_law_start.nd rfl (by first | exact Or.inl rfl | exact Or.inr rfl) pe_int)
      (C8.pss_cut (ps_if (pt_cmpR op_gt (pe_callB (klen (K := K)) (by rfl) T.z_len PySem.boot_len (pa_cons (pv 0) pa_nil)) pe_int (nomark _)) (pss_one (ps_set (i := 1) sc_law_start.nd rfl (by first | exact Or.inl rfl | exact Or.inr rfl) (pe_ix (kixl (K := K)) (pv 0) pe_int (fun _ _ => rfl)))) pss_nil)
      (pss_one (ps_ret (pe_lst (pa_cons (pe_callTy (klist (K := K)) (by rfl) T.z_list (by decide +kernel) (pa_cons (pv 0) pa_nil)) (pa_cons pe_int (pa_cons (pv 1) (pa_cons pe_int pa_nil))))))))), ?_⟩
    refine ⟨fun σ' H' => H' = H ∧ ∃ z : Int, σ' = [some (.ref a), some (.int z)], ?_, ?_⟩
    · refine ⟨_, rfl, _, _, rfl, .inl ⟨_, hs, rfl⟩, _, _, rfl, rfl, _, rfl, ite2 (fun c => ?_) (fun _ => ⟨rfl, 0, rfl⟩)⟩
      have c' : 0 < ns.length := by
        have := of_decide_eq_true c
        rw [List.length_map] at this
        omega
      refine ⟨_, rfl, a, _, _, .int ns[0], rfl, rfl, hs, ?_, rfl, ns[0], rfl⟩
      refine at_of (j := 0) rfl ?_
      rw [List.getElem?_map, List.getElem?_eq_getElem c']
      rfl
    rintro σ' H' ⟨rfl, z, rfl⟩
    refine ⟨_, rfl, a, _, rfl, .inl hs, fun c nc => ⟨_, rfl, (by show 4 ≤ sizeLine; decide), fun st nst => ?_⟩⟩
    have e1 := Ext.upd (o := .lst (ns.map V.int)) nc
    have e2 := Ext.upd (o := .lst [.ref c, .int 1, .int z, .int 0]) nst
    exact k st c _ (e1.trans e2) (Ow.Ext.free e1 nst) nc ⟨1, z, 0, ns, upd_same, e2 _ _ upd_same, by decide, by decide, by decide⟩
theorem ok__law_draw {f : Addr} {fd : FuncData} (F : FunD K "_law_draw" "_law_draw" (defArgs S_law_draw) (defBody S_law_draw) (defScope S_law_draw) [] [] f fd) (T : Txt K mg)  : FnOk P w K mg base CX0 1 f fd ["_law_state", "_law_many"] (Ow.spDraw) := by
  refine F.ok sc_law_draw (fun vs H Q E h => ?_) (fun cdv A outer s H vs Q E hr h => ?_)
  · obtain ⟨st, c, b, m, rfl, _⟩ := h
    rfl
  · obtain ⟨st, c, b, m, rfl, hst, hb, m0, m1, k⟩ := h
    obtain ⟨i, cur, n, ns, h1, h2, hi, hn0, hn1⟩ := id hst
    have ncs : c ≠ st := hst.ints h2
    refine ⟨_, PSs.nox (pss_cons (ps_if (pt_cmpR op_ge (pe_ix (kixl (K := K)) (pv 0) pe_int (fun _ _ => rfl)) (pe_op op_pow pe_int pe_int) (nomark _)) (pss_cons (ps_set (i := 2) sc_law_draw.nd rfl (by first | exact Or.inl rfl | exact Or.inr rfl) (pe_op op_mod (pe_callTy call_int1 (by rfl) T.z_int (by decide +kernel) (pa_cons (pe_ix (kixl (K := K)) (pv 0) pe_int (fun _ _ => rfl)) pa_nil)) (pv 1)))
        (pss_cons (ps_asg (pe_op op_fdiv (pe_ix (kixl (K := K)) (pv 0) pe_int (fun _ _ => rfl)) (pv 1)) (pg_sub (pv 0) pe_int set_list))
        (pss_one (ps_ret (pv 2))))) pss_nil)
      (pss_cons (ps_asg (pe_op op_add (pe_ix (kixl (K := K)) (pv 0) pe_int (fun _ _ => rfl)) pe_int) (pg_sub (pv 0) pe_int set_list))
      (pss_cons (ps_set (i := 3) sc_law_draw.nd rfl (by first | exact Or.inl rfl | exact Or.inr rfl) (pe_op op_add (pe_op op_add (pe_op op_mod (pe_callTy call_int1 (by rfl) T.z_int (by decide +kernel) (pa_cons (pe_ix (kixl (K := K)) (pv 0) pe_int (fun _ _ => rfl)) pa_nil)) pe_int) (pe_op op_mul pe_int (pe_ix (kixl (K := K)) (pv 0) pe_int (fun _ _ => rfl)))) pe_int))
      (pss_cons (ps_set (i := 4) sc_law_draw.nd rfl (by first | exact Or.inl rfl | exact Or.inr rfl) (pe_op op_mod (pe_op op_pow (pv 3) pe_int) pe_int))
      (C8.pss_cut (ps_if (pt_cmpR op_lt (pe_ix (kixl (K := K)) (pv 0) pe_int (fun _ _ => rfl)) (pe_callB (klen (K := K)) (by rfl) T.z_len PySem.boot_len (pa_cons (pe_ix (kixl (K := K)) (pv 0) pe_int (fun _ _ => rfl)) pa_nil)) (nomark _)) (pss_cons (ps_asg (pe_ix (kixl (K := K)) (pe_ix (kixl (K := K)) (pv 0) pe_int (fun _ _ => rfl)) (pe_ix (kixl (K := K)) (pv 0) pe_int (fun _ _ => rfl)) (fun _ _ => rfl)) (pg_sub (pv 0) pe_int set_list))
        (pss_one (ps_asg (pe_op op_add (pe_ix (kixl (K := K)) (pv 0) pe_int (fun _ _ => rfl)) pe_int) (pg_sub (pv 0) pe_int set_list)))) pss_nil)
      (pss_one (ps_ret (pe_op op_mod (pe_op op_fdiv (pe_callTy call_int1 (by rfl) T.z_int (by decide +kernel) (pa_cons (pv 4) pa_nil)) pe_int) (pv 1))))))))), ?_⟩
    have put : ∀ (i' cur' n' : Int), 1 ≤ i' → 0 ≤ n' → n' ≤ (b : Int) + 1 → Ow.StAt (upd H st (.lst [.ref c, .int i', .int cur', .int n'])) st c (b + 1) ∧ Ow.Keep st H (upd H st (.lst [.ref c, .int i', .int cur', .int n'])) := fun i' cur' n' a1 a2 a3 =>
      ⟨⟨i', cur', n', ns, upd_same, by rw [upd_ne ncs]; exact h2, a1, a2, by omega⟩, fun x o nx hx => by rw [upd_ne nx]; exact hx⟩
    refine ⟨_, rfl, st, _, _, _, rfl, rfl, SqL.of h1, rfl, _, _, rfl, rfl, ⟨by decide, by decide, by decide⟩, _, _, rfl, rfl, _, rfl, ite2 (fun big => ?_) (fun big => ?_)⟩
    · refine ⟨_, rfl, st, _, _, _, rfl, rfl, SqL.of h1, rfl, .inl ⟨_, rfl, _, rfl, _, _, rfl, rfl, m0, ?_⟩⟩
      refine ⟨_, rfl, st, _, _, _, rfl, rfl, SqL.of h1, rfl, _, rfl, _, _, rfl, rfl, ⟨m0, m1⟩, _, rfl, st, _, _, 2, rfl, rfl, h1, rfl, ?_⟩
      obtain ⟨p1, p2⟩ := put i (cur / m) n hi hn0 (by omega)
      exact ⟨_, rfl, k _ _ (Int.emod_nonneg _ (by omega)) (Int.emod_lt_of_pos _ m0) p1 p2⟩
    · refine ⟨_, rfl, st, _, _, _, rfl, rfl, SqL.of h1, rfl, _, _, rfl, rfl, _, rfl, st, _, _, 3, rfl, rfl, h1, rfl, ?_⟩
      refine ⟨_, rfl, st, _, _, _, rfl, rfl, SqL.of upd_same, rfl, .inl ⟨_, rfl, _, _, rfl, rfl, pz (by decide), ?_⟩⟩
      refine ⟨_, rfl, st, _, _, _, rfl, rfl, SqL.of upd_same, rfl, _, _, rfl, rfl, .inl ⟨by decide, by decide⟩, _, _, rfl, rfl, _, _, rfl, rfl, ?_⟩
      have q0 : 0 ≤ cur % 1000000007 := Int.emod_nonneg _ (by decide)
      have q1 : cur % 1000000007 < 1000000007 := Int.emod_lt_of_pos _ (by decide)
      refine ⟨_, rfl, _, _, rfl, rfl, ⟨by decide, by decide, ?_⟩, _, _, rfl, rfl, pz (by decide), ?_⟩
      · show (cur % 1000000007 + 69621 * (n + 1) + 48271).natAbs < 2 ^ 64
        omega
      have fin : ∀ H', (∃ i' cur', H' = upd H st (.lst [.ref c, .int i', .int cur', .int (n + 1)]) ∧ 1 ≤ i') → Q (.int ((cur % 1000000007 + 69621 * (n + 1) + 48271) ^ (17 : Int).toNat % 170141183460469231731687303715884105727 / 64 % m)) H' := by
        rintro H' ⟨i', cur', rfl, a1⟩
        obtain ⟨p1, p2⟩ := put i' cur' (n + 1) a1 (by omega) (by omega)
        exact k _ _ (Int.emod_nonneg _ (by omega)) (Int.emod_lt_of_pos _ m0) p1 p2
      refine ⟨fun σ' H' => (∃ d v, σ' = [some (.ref st), some (.int m), d, v, some (.int ((cur % 1000000007 + 69621 * (n + 1) + 48271) ^ (17 : Int).toNat % 170141183460469231731687303715884105727))]) ∧ ∃ i' cur', H' = upd H st (.lst [.ref c, .int i', .int cur', .int (n + 1)]) ∧ 1 ≤ i', ?_, ?_⟩
      · have hc : upd H st (.lst [.ref c, .int i, .int cur, .int (n + 1)]) c = some (.lst (ns.map V.int)) := by rw [upd_ne ncs]; exact h2
        refine ⟨_, rfl, st, _, _, _, rfl, rfl, SqL.of upd_same, rfl, _, rfl, st, _, _, _, rfl, rfl, SqL.of upd_same, rfl, _, _, rfl, .inl ⟨_, SqL.of hc, rfl⟩, _, _, rfl, rfl, _, rfl, ite2 (fun lt => ?_) (fun _ => ⟨⟨_, _, rfl⟩, i, cur, rfl, hi⟩)⟩
        have lt' : i.toNat < ns.length := by
          have := of_decide_eq_true lt
          rw [List.length_map] at this
          omega
        have hat : atI (ns.map V.int) i = some (.int ns[i.toNat]) := by
          refine at_of (j := i.toNat) (by omega) ?_
          rw [List.getElem?_map, List.getElem?_eq_getElem lt']
          rfl
        refine ⟨_, rfl, st, _, _, _, rfl, rfl, SqL.of upd_same, rfl, _, rfl, st, _, _, _, rfl, rfl, SqL.of upd_same, rfl, c, _, _, _, rfl, rfl, SqL.of hc, hat, _, rfl, st, _, _, 2, rfl, rfl, upd_same, rfl, ?_⟩
        refine ⟨_, rfl, st, _, _, _, rfl, rfl, SqL.of upd_same, rfl, _, _, rfl, rfl, _, rfl, st, _, _, 1, rfl, rfl, upd_same, rfl, ?_⟩
        exact ⟨⟨_, _, rfl⟩, i + 1, _, by rw [upd_upd, upd_upd]; rfl, by omega⟩
      rintro σ' H' ⟨⟨d, v, rfl⟩, hH⟩
      exact ⟨_, rfl, .inl ⟨_, rfl, _, _, rfl, rfl, ⟨by decide, by decide⟩, _, rfl, _, _, rfl, rfl, m0, fin H' hH⟩⟩
theorem ok__law_some {f : Addr} {fd : FuncData} (F : FunD K "_law_some" "_law_some" (defArgs S_law_some) (defBody S_law_some) (defScope S_law_some) [] [] f fd) (T : Txt K mg) (G_law_draw : Ow.Glob P w K mg base CX0 1 "_law_draw" ["_law_state", "_law_many"] Ow.spDraw) : FnOk P w K mg base CX0 2 f fd ["_law_state", "_law_most"] (Ow.spSome) := by
  refine F.ok sc_law_some (fun vs H Q E h => ?_) (fun cdv A outer s H vs Q E hr h => ?_)
  · obtain ⟨st, c, b, m, rfl, _⟩ := h
    rfl
  · obtain ⟨st, c, b, m, rfl, hst, hb, m0, m1, k⟩ := h
    refine ⟨_, PSs.nox (pss_cons (ps_set (i := 2) sc_law_some.nd rfl (by first | exact Or.inl rfl | exact Or.inr rfl) (pe_lst pa_nil))
      (pss_cons (ps_for PassesOwn.never rfl (pi_range1 rfl T.z_range (pa_cons (pe_g G_law_draw (hr.mono (by decide)) pass0 (pa_cons (pv 0) (pa_cons (pe_op op_add (pv 1) pe_int) pa_nil))) pa_nil)) (pg_name (i := 3) sc_law_some.nd rfl (by first | exact Or.inl rfl | exact Or.inr rfl))
       (pss_one (ps_expr (kbm (K := K) PySem.F.plainAttrs_list PySem.F.slot_list_append PySem.F.type_list_append mt_append (pv 2) (pa_cons (pe_g G_law_draw (hr.mono (by decide)) pass0 (pa_cons (pv 0) (pa_cons pe_int pa_nil))) pa_nil)))))
      (pss_one (ps_ret (pv 2))))), ?_⟩
    refine ⟨(by show 0 ≤ sizeLine; decide), fun p np => ?_⟩
    have s1 := hst.ext (Ext.upd (o := .lst []) np)
    have nps : p ≠ st := fun e => by obtain ⟨o, ho⟩ := hst.here; rw [← e, np] at ho; cases ho
    refine ⟨_, rfl, _, rfl, _, _, rfl, rfl, st, c, b, m + 1, rfl, s1, by omega, by omega, by omega, fun d H1 d0 d1 s2 k1 => ?_⟩
    refine ⟨d, rfl, by omega, by omega, for_range (lo := 0) (n := d.toNat) (fun i σ H' => ∃ (v : Option V) (ns : List Int), σ = [some (.ref st), some (.int m), some (.ref p), v] ∧ ns.length = i ∧ (∀ n ∈ ns, 0 ≤ n ∧ n ≤ 15) ∧ Ow.StAt H' st c (b + 1 + i) ∧ Ow.Keep st H H' ∧ H' p = some (.lst (ns.map V.int)))
      ⟨none, [], rfl, rfl, (fun n h => by cases h), s2, (Ow.Keep.upd np).trans k1, k1 _ _ nps upd_same⟩ ?_ ?_⟩
    · rintro i σ H' hi ⟨v, ns, rfl, hl, hr15, s3, k3, hp⟩
      refine ⟨_, rfl, .inl ⟨rfl, _, SqL.of hp⟩, _, rfl, st, c, b + 1 + i, 16, rfl, s3, by omega, by decide, by decide, fun z H2 z0 z1 s4 k4 => ?_⟩
      have hp2 := k4 _ _ nps hp
      refine ⟨p, _, _, rfl, rfl, hp2, small1000 (by rw [List.length_map]; omega), _, ns ++ [z], rfl, by rw [List.length_append, hl]; rfl, ?_, ?_, ?_, by rw [upd_same, List.map_append]; rfl⟩
      · intro n hn
        rcases List.mem_append.mp hn with hn | hn
        · exact hr15 n hn
        · rw [List.mem_singleton.mp hn]; omega
      · obtain ⟨i', cur, n', ms, q1, q2, q3⟩ := s4
        have ncp : c ≠ p := fun e => by
          obtain ⟨_, _, _, ms0, w1, w2, _⟩ := hst
          rw [← e, w2] at np; cases np
        exact ⟨i', cur, n', ms, by rw [upd_ne (Ne.symm nps)]; exact q1, by rw [upd_ne ncp]; exact q2, q3⟩
      · intro x o nx hx
        have xp : x ≠ p := ne_of_none hx np
        rw [upd_ne xp]
        exact k4 _ _ nx (k3 _ _ nx hx)
    · rintro σ H' ⟨v, ns, rfl, hl, hr15, s3, k3, hp⟩
      exact ⟨_, rfl, k p ns H' (by omega) hr15 (s3.mono (by omega)) k3 np hp⟩
end
end K07

namespace K07
open PySem PySem.Spec PyProof.Rows L2 Ow
section
variable {P : Program} {w : World} {K : PySem.W.Frag} {mg : Str → Option Value} {base : Heap}
theorem ok_Rights_eqO {f : Addr} {fd : FuncData} (F : FunD K "__eq__" "Rights.__eq__" (defArgs SRights_eq) (defBody SRights_eq) (defScope SRights_eq) [] [] f fd) (T : Txt K mg)  : FnOk P w K mg base CX0 1 f fd ["self", "other"] (Ow.spEqO (He.ga K "Rights")) := by
  refine F.ok scRights_eq (fun vs H Q E h => ?_) (fun cdv A outer s H vs Q E hr h => ?_)
  · obtain ⟨a, S, v, o, rfl, _⟩ := h
    rfl
  · obtain ⟨a, S, v, o, rfl, ra, ho, q⟩ := h
    obtain ⟨dx, t, ha, ht⟩ := id ra
    refine ⟨_, PSs.nox (pss_one (ps_ret (pe_and (pe_callB (kisi (K := K)) (by rfl) T.z_isinstance (by decide +kernel) (pa_cons (pv 1) (pa_cons (pe_glob (v := .ref (He.ga K "Rights")) rfl T.g_Rights rfl) pa_nil))) (pe_one (pe_cmpR (keqd (K := K) hr.units) (kfld (K := K) (pv 0)) (kfld (K := K) (pv 1)) (nomark _)))))), ?_⟩
    cases o with
    | none =>
      obtain rfl : v = .non := ho
      exact ⟨_, rfl, _, _, _, _, false, rfl, .own _, .base .non, T.n3_Rights, _, rfl, iteF q⟩
    | some S2 =>
      obtain ⟨b, rfl, rb⟩ := ho
      obtain ⟨dy, u, hb, hu⟩ := id rb
      refine ⟨_, rfl, _, _, _, _, true, rfl, .own _, T.i_Rights.ty T.cl_Rights hb, T.i_Rights.y, _, rfl, iteT ?_⟩
      exact ⟨_, rfl, a, _, dx, _, _, rfl, ha, T.cl_Rights, T.na_Rights_numbers, Ow.lk1, _, rfl, b, _, dy, _, _, rfl, hb, T.cl_Rights, T.na_Rights_numbers, Ow.lk1, Ow.eqd_tup (SqT.of ht) (SqT.of hu) q⟩
theorem ok_joined_roof {f : Addr} {fd : FuncData} (F : FunD K "joined_roof" "joined_roof" (defArgs Sjoined_roof) (defBody Sjoined_roof) (defScope Sjoined_roof) [] [] f fd) (T : Txt K mg) (GR_or : Ow.Dun P w K mg base CX0 4 (He.ga K "Rights") "__or__" ["self", "other"] (Ow.spBin (He.ga K "Rights") (· || ·))) : FnOk P w K mg base CX0 5 f fd ["first", "second"] (Ow.spJoined (He.ga K "Rights")) := by
  refine F.ok scjoined_roof (fun vs H Q E h => ?_) (fun cdv A outer s H vs Q E hr h => ?_)
  · obtain ⟨a, v, S, o, rfl, _⟩ := h
    rfl
  · obtain ⟨a, v, S, o, rfl, ra, ho, k⟩ := h
    obtain ⟨_, gMOST⟩ := T.c_MOST
    refine ⟨_, PSs.nox (C8.pss_cut (ps_if (PW.pt (pw_or (pt_cmpR op_isN (pv 0) pe_non (nomark _)) (pw_or1 (pt_cmpR op_isN (pv 1) pe_non (nomark _))))) (pss_one (ps_ret pe_non)) pss_nil)
      (pss_cons (ps_set (i := 2) scjoined_roof.nd rfl (by first | exact Or.inl rfl | exact Or.inr rfl) (pe_op (Ow.od_bin GR_or (hr.mono (by decide)) pass0 T.sf_Rights (by decide +kernel)) (pv 0) (pv 1)))
      (pss_one (ps_ret (pe_ifExp (pt_cmpR op_eq (pe_callB (klen (K := K)) (by rfl) T.z_len PySem.boot_len (pa_cons (kfld (K := K) (pv 2)) pa_nil)) (pe_op op_add (pe_glob (v := .int 15) rfl gMOST ⟨_, rfl⟩) pe_int) (nomark _)) pe_non (pv 2)))))), ?_⟩
    refine ⟨fun σ' H' => σ' = [some (.ref a), some v, none] ∧ H' = H ∧ v ≠ .non, ?_, ?_⟩
    · refine ⟨_, rfl, rfl, _, rfl, iteF ⟨_, rfl, rfl, _, rfl, ite2 (fun c => ?_) (fun c => ⟨rfl, rfl, fun e => c (decide_eq_true e)⟩)⟩⟩
      have e : v = .non := of_decide_eq_true c
      cases o with
      | none => exact k _ H Ext.rfl' (.inl ⟨Ow.full_iff.mpr fun z _ _ => by simp [Ow.roofF], rfl⟩)
      | some R => obtain ⟨r, e2, _⟩ := ho; rw [e] at e2; cases e2
    rintro σ' H' ⟨rfl, rfl, nv⟩
    cases o with
    | none => exact absurd ho nv
    | some R =>
      obtain ⟨r, rfl, rr⟩ := ho
      refine ⟨_, rfl, _, rfl, rtBin ra rr fun x H1 e1 _ rx => ?_⟩
      obtain ⟨dx, t, hx, ht⟩ := id rx
      refine ⟨_, rfl, x, _, dx, _, _, rfl, hx, T.cl_Rights, T.na_Rights_numbers, lk1, _, _, rfl, .inr ⟨_, SqT.of ht, rfl⟩, _, _, rfl, rfl, rfl, _, rfl, ite2 (fun c => ?_) (fun c => ?_)⟩
      · have f : Ow.full fun k => S k || R k := by
          have z : (((ks fun k => S k || R k).map V.int).length : Int) = 15 + 1 := by simpa using c
          rw [List.length_map] at z
          unfold Ow.full
          omega
        exact k _ H1 e1 (.inl ⟨f, rfl⟩)
      · have f : ¬ Ow.full fun k => S k || R k := fun f => c (by
          unfold Ow.full at f
          rw [List.length_map, f]
          rfl)
        exact ⟨_, rfl, k _ H1 e1 (.inr ⟨f, x, rfl, rx⟩)⟩
theorem ok_Mask_init {f : Addr} {fd : FuncData} (F : FunD K "__init__" "Mask.__init__" (defArgs SMask_init) (defBody SMask_init) (defScope SMask_init) [He.Dv.v K .non] [] f fd) (T : Txt K mg) (Gjoined_roof : Ow.Glob P w K mg base CX0 5 "joined_roof" ["first", "second"] (Ow.spJoined (He.ga K "Rights"))) : FnOk P w K mg base CX0 6 f fd ["self", "floor", "roof"] (Ow.spMInit (He.ga K "Mask") (He.ga K "Rights")) := by
  refine F.ok scMask_init (fun vs H Q E h => ?_) (fun cdv A outer s H vs Q E hr h => ?_)
  · obtain ⟨p, dx, f', v, F', o, rfl, _⟩ := h
    rfl
  · obtain ⟨p, dx, f', v, F', o, rfl, hp, rf, ho, k⟩ := h
    refine ⟨_, PSs.nox (pss_cons (ps_fld (pv 0) (pv 1) rfl)
      (pss_one (ps_fld (pv 0) (pe_g Gjoined_roof (hr.mono (by decide)) pass0 (pa_cons (pv 1) (pa_cons (pv 2) pa_nil))) rfl))), ?_⟩
    refine ⟨_, rfl, _, rfl, p, _, dx, [], rfl, hp, T.cl_Mask, T.na_Mask_floor, by show 0 < 1000; decide, ?_⟩
    have kp : ∀ a S, Ow.RtAt (He.ga K "Rights") H a S → ∀ o, Ow.RtAt (He.ga K "Rights") (upd H p (.ins (He.ga K "Mask") dx o)) a S := fun a S ⟨dy, t, h1, h2⟩ o => by
      have n1 : a ≠ p := ne_of h1 hp (by intro z; injection z with _ _ z; cases z)
      have n2 : t ≠ p := ne_of h2 hp (by intro z; cases z)
      exact ⟨dy, t, by rw [upd_ne n1]; exact h1, by rw [upd_ne n2]; exact h2⟩
    refine ⟨_, rfl, _, rfl, f', v, F', o, rfl, kp _ _ rf _, ho.mk fun a S z => kp a S z _, fun rv H1 e1 hr1 => ?_⟩
    have hp1 := e1 _ _ upd_same
    refine ⟨_, rfl, p, _, dx, _, rfl, hp1, T.cl_Mask, T.na_Mask_roof, by show 1 < 1000; decide, ?_⟩
    have kp1 : ∀ a S, Ow.RtAt (He.ga K "Rights") H1 a S → ∀ o, Ow.RtAt (He.ga K "Rights") (upd H1 p (.ins (He.ga K "Mask") dx o)) a S := fun a S ⟨dy, t, h1, h2⟩ o => by
      have n1 : a ≠ p := ne_of h1 hp1 (by intro z; injection z with _ _ z; injection z with z _; injection z with z _; revert z; decide +kernel)
      have n2 : t ≠ p := ne_of h2 hp1 (by intro z; cases z)
      exact ⟨dy, t, by rw [upd_ne n1]; exact h1, by rw [upd_ne n2]; exact h2⟩
    have fl : (("floor" : Str) = "roof") = False := by simp; decide +kernel
    have pf : putF "roof" rv (putF "floor" (.ref f') []) = ([("floor", .ref f'), ("roof", rv)] : List (Str × V)) := by
      show (if ("floor" : Str) = "roof" then _ else (("floor" : Str), V.ref f') :: putF "roof" rv []) = _
      rw [if_neg (by rw [fl]; exact id)]
      rfl
    refine k _ ⟨dx, f', rv, by rw [upd_same, pf], ?_, ?_⟩ fun b o e hb => ?_
    · exact kp1 _ _ ((kp _ _ rf _).ext e1) _
    · rcases hr1 with z | ⟨n, r, h1, h2⟩
      · exact .inl z
      · exact .inr ⟨n, r, h1, kp1 _ _ h2 _⟩
    · rw [upd_ne hb]
      refine e1 _ _ ?_
      rw [upd_ne hb]
      exact e
theorem ok_Mask_keep {f : Addr} {fd : FuncData} (F : FunD K "keep" "Mask.keep" (defArgs SMask_keep) (defBody SMask_keep) (defScope SMask_keep) [] [] f fd) (T : Txt K mg) (GRights0 : Ow.Maker P w K mg base CX0 2 "Rights" (He.ga K "Rights") ["self", "numbers"] [.ref (He.dflAt ("Rights", some "__init__") 0 K)] (Ow.spInit K (He.ga K "Rights"))) (GMask1 : Ow.Maker P w K mg base CX0 6 "Mask" (He.ga K "Mask") ["self", "floor", "roof"] [.non] (Ow.spMInit (He.ga K "Mask") (He.ga K "Rights"))) : FnOk P w K mg base CX0 8 f fd [] (Ow.spKeep (He.ga K "Mask") (He.ga K "Rights")) := by
  refine F.ok scMask_keep (fun vs H Q E h => ?_) (fun cdv A outer s H vs Q E hr h => ?_)
  · obtain ⟨rfl, _⟩ := h
    rfl
  · obtain ⟨rfl, k⟩ := h
    refine ⟨_, PSs.nox (pss_one (ps_ret (pe_mk GMask1 (hr.mono (by decide)) pass0 (pa_cons (pe_mk0 GRights0 (hr.mono (by decide)) pass0) pa_nil)))), ?_⟩
    refine fun r dr nr ndr ne => mkRx (ns := []) (.inr (T.e_Rights _)) (by decide) (by decide) nr ndr ne fun H1 e1 rr => ⟨rfl, ?_⟩
    refine fun x dx nx ndx ne2 => mkMx (o := none) rr rfl nx ndx ne2 fun H2 e2 mx => ⟨rfl, k x H2 (e1.trans e2) (mx.congr (fun z _ _ => by simp) fun z _ _ => by simp [Ow.roofF])⟩
theorem ok_Mask_only {f : Addr} {fd : FuncData} (F : FunD K "only" "Mask.only" (defArgs SMask_only) (defBody SMask_only) (defScope SMask_only) [] [] f fd) (T : Txt K mg) (GRights0 : Ow.Maker P w K mg base CX0 2 "Rights" (He.ga K "Rights") ["self", "numbers"] [.ref (He.dflAt ("Rights", some "__init__") 0 K)] (Ow.spInit K (He.ga K "Rights"))) (GMask : Ow.Maker P w K mg base CX0 6 "Mask" (He.ga K "Mask") ["self", "floor", "roof"] [] (Ow.spMInit (He.ga K "Mask") (He.ga K "Rights"))) : FnOk P w K mg base CX0 8 f fd ["rights"] (Ow.spOnly (He.ga K "Mask") (He.ga K "Rights")) := by
  refine F.ok scMask_only (fun vs H Q E h => ?_) (fun cdv A outer s H vs Q E hr h => ?_)
  · obtain ⟨r, S, rfl, _⟩ := h
    rfl
  · obtain ⟨r, S, rfl, hS, k⟩ := h
    refine ⟨_, PSs.nox (pss_one (ps_ret (pe_mk GMask (hr.mono (by decide)) pass0 (pa_cons (pe_mk0 GRights0 (hr.mono (by decide)) pass0) (pa_cons (pv 0) pa_nil))))), ?_⟩
    refine fun r0 dr nr ndr ne => mkRx (ns := []) (.inr (T.e_Rights _)) (by decide) (by decide) nr ndr ne fun H1 e1 rr => ⟨rfl, ?_⟩
    exact ⟨_, rfl, fun x dx nx ndx ne2 => mkMx (o := some S) rr ⟨r, rfl, hS.ext e1⟩ nx ndx ne2 fun H2 e2 mx => ⟨rfl, k x H2 (e1.trans e2) (mx.congr (fun z _ _ => by simp) fun z _ _ => by simp [Ow.roofF])⟩⟩
theorem ok_Mask_adding {f : Addr} {fd : FuncData} (F : FunD K "adding" "Mask.adding" (defArgs SMask_adding) (defBody SMask_adding) (defScope SMask_adding) [] [] f fd) (T : Txt K mg) (GMask1 : Ow.Maker P w K mg base CX0 6 "Mask" (He.ga K "Mask") ["self", "floor", "roof"] [.non] (Ow.spMInit (He.ga K "Mask") (He.ga K "Rights"))) : FnOk P w K mg base CX0 8 f fd ["rights"] (Ow.spAdding (He.ga K "Mask") (He.ga K "Rights")) := by
  refine F.ok scMask_adding (fun vs H Q E h => ?_) (fun cdv A outer s H vs Q E hr h => ?_)
  · obtain ⟨r, S, rfl, _⟩ := h
    rfl
  · obtain ⟨r, S, rfl, hS, k⟩ := h
    refine ⟨_, PSs.nox (pss_one (ps_ret (pe_mk GMask1 (hr.mono (by decide)) pass0 (pa_cons (pv 0) pa_nil)))), ?_⟩
    exact ⟨_, rfl, fun x dx nx ndx ne2 => mkMx (o := none) hS rfl nx ndx ne2 fun H2 e2 mx => ⟨rfl, k x H2 e2 (mx.congr (fun z _ _ => rfl) fun z _ _ => by simp [Ow.roofF])⟩⟩
theorem ok_Mask_eq {f : Addr} {fd : FuncData} (F : FunD K "__eq__" "Mask.__eq__" (defArgs SMask_eq) (defBody SMask_eq) (defScope SMask_eq) [] [] f fd) (T : Txt K mg) (GR_eq : Ow.Dun P w K mg base CX0 1 (He.ga K "Rights") "__eq__" ["self", "other"] (Ow.spEqR (He.ga K "Rights"))) (GR_eqO : Ow.Dun P w K mg base CX0 1 (He.ga K "Rights") "__eq__" ["self", "other"] (Ow.spEqO (He.ga K "Rights"))) : FnOk P w K mg base CX0 3 f fd ["self", "other"] (Ow.spMEq (He.ga K "Mask") (He.ga K "Rights")) := by
  refine F.ok scMask_eq (fun vs H Q E h => ?_) (fun cdv A outer s H vs Q E hr h => ?_)
  · obtain ⟨p, q, F', R, F2, R2, rfl, _⟩ := h
    rfl
  · obtain ⟨p, q, F', R, F2, R2, rfl, h1, h2, k⟩ := h
    obtain ⟨dx, fl, rv, hp, hf, ho⟩ := id h1
    obtain ⟨dy, fl2, rv2, hq, hf2, ho2⟩ := id h2
    refine ⟨_, PSs.nox (pss_one (ps_ret (pe_and (pe_callB (kisi (K := K)) (by rfl) T.z_isinstance (by decide +kernel) (pa_cons (pv 1) (pa_cons (pe_glob (v := .ref (He.ga K "Mask")) rfl T.g_Mask rfl) pa_nil))) (pe_and (pe_cmpR (Ow.od_eq GR_eq (hr.mono (by decide)) pass0) (kfld (K := K) (pv 0)) (kfld (K := K) (pv 1)) (nomark _)) (pe_one (pe_cmpR (Ow.od_optEq GR_eqO (hr.mono (by decide)) pass0 T.n1_Rights T.n2_Rights) (kfld (K := K) (pv 0)) (kfld (K := K) (pv 1)) (nomark _))))))), ?_⟩
    refine ⟨_, rfl, _, _, _, _, true, rfl, .own _, T.i_Mask.ty T.cl_Mask hq, T.i_Mask.y, _, rfl, iteT ?_⟩
    refine ⟨_, rfl, p, _, dx, _, _, rfl, hp, T.cl_Mask, T.na_Mask_floor, lkF, _, rfl, q, _, dy, _, _, rfl, hq, T.cl_Mask, T.na_Mask_floor, lkF, rtEq hf hf2 ⟨_, rfl, ?_⟩⟩
    cases c : decide (ks F' = ks F2) with
    | false => rw [c, Bool.false_and] at k; exact iteF k
    | true =>
      rw [c, Bool.true_and] at k
      refine iteT ⟨_, rfl, p, _, dx, _, _, rfl, hp, T.cl_Mask, T.na_Mask_roof, lkR, _, rfl, q, _, dy, _, _, rfl, hq, T.cl_Mask, T.na_Mask_roof, lkR, ?_⟩
      rcases ho with ⟨f1, rfl⟩ | ⟨n1, r, rfl, hr1⟩
      · rcases ho2 with ⟨f2, rfl⟩ | ⟨n2, r2, rfl, hr2⟩
        · refine .inl ⟨rfl, rfl, ?_⟩
          rw [decide_eq_true (Ow.al_iff.mpr fun z z0 z1 => by rw [Ow.full_iff.mp f1 z z0 z1, Ow.full_iff.mp f2 z z0 z1])] at k
          exact k
        · obtain ⟨dz, _, o2, _⟩ := id hr2
          rw [decide_eq_false fun e => n2 (f1.al (Ow.al_iff.mp e))] at k
          exact .inr (.inr ⟨r2, dz, _, rfl, rfl, o2, r2, R2, _, none, rfl, hr2, rfl, k⟩)
      · obtain ⟨dz, _, o1, _⟩ := id hr1
        rcases ho2 with ⟨f2, rfl⟩ | ⟨n2, r2, rfl, hr2⟩
        · rw [decide_eq_false fun e => n1 (f2.al (Ow.al_iff.mp e).symm)] at k
          exact .inr (.inl ⟨r, dz, _, rfl, o1, .inl rfl, r, R, _, none, rfl, hr1, rfl, k⟩)
        · obtain ⟨dw, _, o2, _⟩ := id hr2
          exact .inr (.inl ⟨r, dz, _, rfl, o1, .inr ⟨r2, dw, _, rfl, o2⟩, r, R, _, some R2, rfl, hr1, ⟨r2, rfl, hr2⟩, k⟩)
theorem ok_Mask_eqN {f : Addr} {fd : FuncData} (F : FunD K "__eq__" "Mask.__eq__" (defArgs SMask_eq) (defBody SMask_eq) (defScope SMask_eq) [] [] f fd) (T : Txt K mg) (GR_eq : Ow.Dun P w K mg base CX0 1 (He.ga K "Rights") "__eq__" ["self", "other"] (Ow.spEqR (He.ga K "Rights"))) (GR_eqO : Ow.Dun P w K mg base CX0 1 (He.ga K "Rights") "__eq__" ["self", "other"] (Ow.spEqO (He.ga K "Rights"))) : FnOk P w K mg base CX0 3 f fd ["self", "other"] (Ow.spMEqN (He.ga K "Mask") (He.ga K "Rights")) := by
  refine F.ok scMask_eq (fun vs H Q E h => ?_) (fun cdv A outer s H vs Q E hr h => ?_)
  · obtain ⟨p, q, F', R, S, rfl, _⟩ := h
    rfl
  · obtain ⟨p, q, F', R, S, rfl, h1, h2, k⟩ := h
    obtain ⟨dy, t, hq, ht⟩ := id h2
    refine ⟨_, PSs.nox (pss_one (ps_ret (pe_and (pe_callB (kisi (K := K)) (by rfl) T.z_isinstance (by decide +kernel) (pa_cons (pv 1) (pa_cons (pe_glob (v := .ref (He.ga K "Mask")) rfl T.g_Mask rfl) pa_nil))) (pe_and (pe_cmpR (Ow.od_eq GR_eq (hr.mono (by decide)) pass0) (kfld (K := K) (pv 0)) (kfld (K := K) (pv 1)) (nomark _)) (pe_one (pe_cmpR (Ow.od_optEq GR_eqO (hr.mono (by decide)) pass0 T.n1_Rights T.n2_Rights) (kfld (K := K) (pv 0)) (kfld (K := K) (pv 1)) (nomark _))))))), ?_⟩
    exact ⟨_, rfl, _, _, _, _, false, rfl, .own _, T.i_Rights.ty T.cl_Rights hq, T.n4_MR, _, rfl, iteF k⟩
theorem ok_Mask_within {f : Addr} {fd : FuncData} (F : FunD K "within" "Mask.within" (defArgs SMask_within) (defBody SMask_within) (defScope SMask_within) [] [] f fd) (T : Txt K mg) (GR_within : Ow.Dun P w K mg base CX0 1 (He.ga K "Rights") "within" ["self", "other"] (Ow.spWithin (He.ga K "Rights"))) : FnOk P w K mg base CX0 3 f fd ["self", "other"] (Ow.spMWithin (He.ga K "Mask") (He.ga K "Rights")) := by
  refine F.ok scMask_within (fun vs H Q E h => ?_) (fun cdv A outer s H vs Q E hr h => ?_)
  · obtain ⟨p, q, F', R, F2, R2, rfl, _⟩ := h
    rfl
  · obtain ⟨p, q, F', R, F2, R2, rfl, h1, h2, k⟩ := h
    obtain ⟨dx, fl, rv, hp, hf, ho⟩ := id h1
    obtain ⟨dy, fl2, rv2, hq, hf2, ho2⟩ := id h2
    refine ⟨_, PSs.nox (pss_cons (ps_if (pt_not (pt_val (pe_m (kfld (K := K) (pv 0)) T.cl_Rights GR_within (hr.mono (by decide)) pass0 (pa_cons (kfld (K := K) (pv 1)) pa_nil)))) (pss_one (ps_ret pe_bl)) pss_nil)
      (pss_cons (ps_if (pt_cmpR op_isN (kfld (K := K) (pv 1)) pe_non (nomark _)) (pss_one (ps_ret pe_bl)) pss_nil)
      (pss_one (ps_ret (pe_and (pe_cmpR op_notN (kfld (K := K) (pv 0)) pe_non (nomark _)) (pe_one (pe_m (kfld (K := K) (pv 0)) T.cl_Rights GR_within (hr.mono (by decide)) pass0 (pa_cons (kfld (K := K) (pv 1)) pa_nil)))))))), ?_⟩
    obtain ⟨df, _, of, _⟩ := id hf
    refine ⟨_, rfl, p, _, dx, _, _, rfl, hp, T.cl_Mask, T.na_Mask_floor, lkF, fl, df, _, rfl, of, lkW, _, rfl, q, _, dy, _, _, rfl, hq, T.cl_Mask, T.na_Mask_floor, lkF, fl, fl2, F', F2, rfl, hf, hf2, fun H1 e1 => ⟨_, rfl, ?_⟩⟩
    cases c : wi F' F2 with
    | false =>
      rw [c] at k
      exact iteT (k H1 e1)
    | true =>
      rw [c] at k
      refine iteF ⟨_, rfl, q, _, dy, _, _, rfl, e1 _ _ hq, T.cl_Mask, T.na_Mask_roof, lkR, rfl, _, rfl, ?_⟩
      rcases ho2 with ⟨f2, rfl⟩ | ⟨n2, r2, rfl, hr2⟩
      · have : wi R R2 = true := wi_iff.mpr fun z z0 z1 _ => Ow.full_iff.mp f2 z z0 z1
        rw [this] at k
        exact iteT (k H1 e1)
      · refine iteF ⟨_, rfl, p, _, dx, _, _, rfl, e1 _ _ hp, T.cl_Mask, T.na_Mask_roof, lkR, rfl, _, rfl, ?_⟩
        rcases ho with ⟨f1, rfl⟩ | ⟨n1, r, rfl, hr1⟩
        · have : wi R R2 = false := by
            cases z : wi R R2 with
            | false => rfl
            | true => exact absurd (Ow.full_iff.mpr fun y y0 y1 => wi_iff.mp z y y0 y1 (Ow.full_iff.mp f1 y y0 y1)) n2
          rw [this] at k
          exact iteF (k H1 e1)
        · obtain ⟨dz, _, o1, _⟩ := id hr1
          exact iteT ⟨_, rfl, p, _, dx, _, _, rfl, e1 _ _ hp, T.cl_Mask, T.na_Mask_roof, lkR, r, dz, _, rfl, e1 _ _ o1, lkW, _, rfl, q, _, dy, _, _, rfl, e1 _ _ hq, T.cl_Mask, T.na_Mask_roof, lkR, r, r2, R, R2, rfl, hr1.ext e1, hr2.ext e1, fun H2 e2 => k H2 (e1.trans e2)⟩
theorem ok__law_made {f : Addr} {fd : FuncData} (F : FunD K "_law_made" "_law_made" (defArgs S_law_made) (defBody S_law_made) (defScope S_law_made) [] [] f fd) (T : Txt K mg) (GRights : Ow.Maker P w K mg base CX0 2 "Rights" (He.ga K "Rights") ["self", "numbers"] [] (Ow.spInit K (He.ga K "Rights"))) (GMask : Ow.Maker P w K mg base CX0 6 "Mask" (He.ga K "Mask") ["self", "floor", "roof"] [] (Ow.spMInit (He.ga K "Mask") (He.ga K "Rights"))) (GMask1 : Ow.Maker P w K mg base CX0 6 "Mask" (He.ga K "Mask") ["self", "floor", "roof"] [.non] (Ow.spMInit (He.ga K "Mask") (He.ga K "Rights"))) : FnOk P w K mg base CX0 8 f fd ["_law_parts_here"] (Ow.spMade (He.ga K "Mask") (He.ga K "Rights")) := by
  refine F.ok sc_law_made (fun vs H Q E h => ?_) (fun cdv A outer s H vs Q E hr h => ?_)
  · obtain ⟨q, bs, rs, rfl, _⟩ := h
    rfl
  · obtain ⟨q, bs, rs, rfl, hq, ib, ir, k⟩ := h
    obtain ⟨b, v, h1, h2, h3⟩ := hq
    refine ⟨_, PSs.nox (pss_cons (ps_if (pt_cmpR op_isN (pe_ix (kixl (K := K)) (pv 0) pe_int (fun _ _ => rfl)) pe_non (nomark _)) (pss_one (ps_ret (pe_mk GMask1 (hr.mono (by decide)) pass0 (pa_cons (pe_mk GRights (hr.mono (by decide)) pass0 (pa_cons (pe_ix (kixl (K := K)) (pv 0) pe_int (fun _ _ => rfl)) pa_nil)) pa_nil)))) pss_nil)
      (pss_one (ps_ret (pe_mk GMask (hr.mono (by decide)) pass0 (pa_cons (pe_mk GRights (hr.mono (by decide)) pass0 (pa_cons (pe_ix (kixl (K := K)) (pv 0) pe_int (fun _ _ => rfl)) pa_nil)) (pa_cons (pe_mk GRights (hr.mono (by decide)) pass0 (pa_cons (pe_ix (kixl (K := K)) (pv 0) pe_int (fun _ _ => rfl)) pa_nil)) pa_nil)))))), ?_⟩
    have lb := ib.1
    refine ⟨_, rfl, q, _, _, v, rfl, rfl, SqL.of h1, rfl, rfl, _, rfl, ?_⟩
    cases rs with
    | none =>
      obtain rfl : v = .non := h3
      refine iteT ⟨_, rfl, q, _, _, _, rfl, rfl, SqL.of h1, rfl, fun r dr nr ndr ne => mkRx (.inl (SqL.of h2)) (by omega) ib.2 nr ndr ne fun H1 e1 rr => ⟨rfl, ?_⟩⟩
      exact fun x dx nx ndx ne2 => mkMx (o := none) rr rfl nx ndx ne2 fun H2 e2 mx => ⟨rfl, k x H2 (e1.trans e2) mx⟩
    | some ns =>
      obtain ⟨a, rfl, ha⟩ := h3
      have ln := ir.1
      refine iteF ⟨_, rfl, q, _, _, _, rfl, rfl, SqL.of h1, rfl, fun r dr nr ndr ne => mkRx (.inl (SqL.of h2)) (by omega) ib.2 nr ndr ne fun H1 e1 rr => ⟨rfl, ?_⟩⟩
      refine ⟨_, rfl, q, _, _, _, rfl, rfl, SqL.of (e1 _ _ h1), rfl, fun r2 dr2 nr2 ndr2 ne2 => mkRx (.inl (SqL.of (e1 _ _ ha))) (by omega) ir.2 nr2 ndr2 ne2 fun H2 e2 rr2 => ⟨rfl, ?_⟩⟩
      exact fun x dx nx ndx ne3 => mkMx (o := some _) (rr.ext e2) ⟨r2, rfl, rr2⟩ nx ndx ne3 fun H3 e3 mx => ⟨rfl, k x H3 (e1.trans (e2.trans e3)) mx⟩
theorem ok__law_turned {f : Addr} {fd : FuncData} (F : FunD K "_law_turned" "_law_turned" (defArgs S_law_turned) (defBody S_law_turned) (defScope S_law_turned) [] [] f fd) (T : Txt K mg)  : FnOk P w K mg base CX0 1 f fd ["_law_parts_here", "_law_held"] (Ow.spTurned K) := by
  refine F.ok sc_law_turned (fun vs H Q E h => ?_) (fun cdv A outer s H vs Q E hr h => ?_)
  · obtain ⟨q, h', bs, hs, rs, rfl, _⟩ := h
    rfl
  · obtain ⟨q, h', bs, hs, rs, rfl, hq, hh, lh, ib, ir, k⟩ := h
    obtain ⟨b, v, h1, h2, h3⟩ := hq
    refine ⟨_, PSs.nox (pss_cons (ps_set (i := 2) sc_law_turned.nd rfl (by first | exact Or.inl rfl | exact Or.inr rfl) (pe_lc (own := [("_law_key", 3)]) rfl sc_law_turned.nd (kpl (K := K) (pv 1)) (blkOk_by (own := [("_law_key", 3)]) (N := ["_law_parts_here", "_law_held", "_law_kept", "_law_key"]) (sc := defScope S_law_turned) (by decide +kernel)) (fun _ _ _ _ _ => by exact pg_name (i := 3) sc_law_turned.nd rfl (by first | exact Or.inl rfl | exact Or.inr rfl)) (fun _ _ _ _ _ => by exact pts_one (PW.pt (pw_or (pt_cmpR op_isN (pe_ix (kixl (K := K)) (pv 0) pe_int (fun _ _ => rfl)) pe_non (nomark _)) (pw_or1 (pt_cmpR (kin (K := K)) (pv 3) (pe_ix (kixl (K := K)) (pv 0) pe_int (fun _ _ => rfl)) (by rfl)))))) (fun _ _ _ _ _ => by exact (pv 3))))
      (pss_one (ps_ret (pe_lc (own := [("_law_key", 3)]) rfl sc_law_turned.nd (pi_range1 rfl T.z_range (pa_cons pe_int pa_nil)) (blkOk_by (own := [("_law_key", 3)]) (N := ["_law_parts_here", "_law_held", "_law_kept", "_law_key"]) (sc := defScope S_law_turned) (by decide +kernel)) (fun _ _ _ _ _ => by exact pg_name (i := 3) sc_law_turned.nd rfl (by first | exact Or.inl rfl | exact Or.inr rfl)) (fun _ _ _ _ _ => by exact pts_one (PW.pt (pw_or (pt_cmpR (kin (K := K)) (pv 3) (pv 2) (by rfl)) (pw_or1 (pt_cmpR (kin (K := K)) (pv 3) (pe_ix (kixl (K := K)) (pv 0) pe_int (fun _ _ => rfl)) (by rfl)))))) (fun _ _ _ _ _ => by exact (pv 3)))))), ?_⟩
    refine ⟨_, rfl, h', rfl, ⟨_, hh⟩, fun D hD => compL hs V.int (Ow.setO rs) V.int hh hD lh (fun z H' R _ e qq => ?_) (fun z H' R _ e qq => ⟨_, rfl, qq⟩) ?_⟩
    · refine ⟨_, rfl, q, _, _, v, rfl, rfl, SqL.of (e _ _ h1), rfl, rfl, _, rfl, ?_⟩
      cases rs with
      | none =>
        obtain rfl : v = .non := h3
        exact iteT qq
      | some ns =>
        obtain ⟨a, rfl, ha⟩ := h3
        exact iteF ⟨_, rfl, _, rfl, q, _, _, _, rfl, rfl, SqL.of (e _ _ h1), rfl, in_ints (.inl (SqL.of (e _ _ ha))) ⟨_, rfl, qq⟩⟩
    have e1 := Ext.upd (o := .lst ((hs.filter (Ow.setO rs)).map V.int)) hD
    refine ⟨_, rfl, by decide, by decide, fun D2 hD2 => compR 0 16 (fun z => decide (z ∈ hs.filter (Ow.setO rs)) || decide (z ∈ bs)) V.int hD2 (by decide) (fun z H' R _ e qq => ?_) (fun z H' R _ e qq => ⟨_, rfl, qq⟩) ?_⟩
    · refine ⟨_, rfl, _, rfl, in_ints (.inl (SqL.of (e _ _ upd_same))) ⟨_, rfl, ?_⟩⟩
      cases c1 : decide (z ∈ hs.filter (Ow.setO rs)) with
      | true => rw [c1, Bool.true_or] at qq; exact iteT qq
      | false => rw [c1, Bool.false_or] at qq; exact iteF ⟨_, rfl, _, rfl, q, _, _, _, rfl, rfl, SqL.of (e _ _ (e1 _ _ h1)), rfl, in_ints (.inl (SqL.of (e _ _ (e1 _ _ h2)))) ⟨_, rfl, qq⟩⟩
    · refine k D2 _ (e1.trans (Ext.upd hD2)) (Ow.Ext.free e1 hD2) ?_
      rw [upd_same, up16]
      have : ks (fun z => decide (z ∈ hs.filter (Ow.setO rs)) || decide (z ∈ bs)) = Ow.turnedL bs rs hs := ks_congr fun z _ _ => by
        have m : decide (z ∈ hs.filter (Ow.setO rs)) = (decide (z ∈ hs) && Ow.setO rs z) := by rw [Bool.eq_iff_iff, decide_eq_true_iff, List.mem_filter, Bool.and_eq_true, decide_eq_true_iff]
        rw [m]
      rw [this]
theorem ok__law_parts {f : Addr} {fd : FuncData} (F : FunD K "_law_parts" "_law_parts" (defArgs S_law_parts) (defBody S_law_parts) (defScope S_law_parts) [] [] f fd) (T : Txt K mg) (G_law_draw : Ow.Glob P w K mg base CX0 1 "_law_draw" ["_law_state", "_law_many"] Ow.spDraw) (G_law_some : Ow.Glob P w K mg base CX0 2 "_law_some" ["_law_state", "_law_most"] Ow.spSome) : FnOk P w K mg base CX0 3 f fd ["_law_state"] (Ow.spPartsS) := by
  refine F.ok sc_law_parts (fun vs H Q E h => ?_) (fun cdv A outer s H vs Q E hr h => ?_)
  · obtain ⟨st, c, b, rfl, _⟩ := h
    rfl
  · obtain ⟨st, c, b, rfl, hst, hb, k⟩ := h
    refine ⟨_, PSs.nox (pss_cons (ps_set (i := 1) sc_law_parts.nd rfl (by first | exact Or.inl rfl | exact Or.inr rfl) (pe_g G_law_draw (hr.mono (by decide)) pass0 (pa_cons (pv 0) (pa_cons pe_int pa_nil))))
      (pss_cons (ps_set (i := 2) sc_law_parts.nd rfl (by first | exact Or.inl rfl | exact Or.inr rfl) (pe_g G_law_some (hr.mono (by decide)) pass0 (pa_cons (pv 0) (pa_cons pe_int pa_nil))))
      (pss_cons (ps_if (pt_cmpR op_lt (pv 1) pe_int (nomark _)) (pss_one (ps_ret (pe_lst (pa_cons (pv 2) (pa_cons pe_non pa_nil))))) pss_nil)
      (pss_cons (ps_if (pt_cmpR op_eq (pv 1) pe_int (nomark _)) (pss_one (ps_ret (pe_lst (pa_cons (pv 2) (pa_cons (pe_lc (own := [("_law_key", 3)]) rfl sc_law_parts.nd (pi_range1 rfl T.z_range (pa_cons pe_int pa_nil)) (blkOk_by (own := [("_law_key", 3)]) (N := ["_law_state", "_law_kind", "_law_base", "_law_key"]) (sc := defScope S_law_parts) (by decide +kernel)) (fun _ _ _ _ _ => by exact pg_name (i := 3) sc_law_parts.nd rfl (by first | exact Or.inl rfl | exact Or.inr rfl)) (fun _ _ _ _ _ => by exact pts_one (PW.pt (pw_and (pt_cmpR (knotin (K := K)) (pv 3) (pv 2) (by rfl)) (pw_and1 (pt_cmpR op_gt (pe_g G_law_draw (hr.mono (by decide)) pass0 (pa_cons (pv 0) (pa_cons pe_int pa_nil))) pe_int (nomark _)))))) (fun _ _ _ _ _ => by exact (pv 3))) pa_nil))))) pss_nil)
      (pss_one (ps_ret (pe_lst (pa_cons (pv 2) (pa_cons (pe_g G_law_some (hr.mono (by decide)) pass0 (pa_cons (pv 0) (pa_cons pe_int pa_nil))) pa_nil))))))))), ?_⟩
    refine ⟨_, rfl, st, c, b, 8, rfl, hst, by omega, by decide, by decide, fun kd H1 kd0 kd1 s1 k1 => ?_⟩
    refine ⟨_, rfl, st, c, b + 1, 6, rfl, s1, by omega, by decide, by decide, fun pb bs H2 lb ib s2 k2 npb hpb => ?_⟩
    have k12 := k1.trans k2
    have nps : pb ≠ st := s2.ints hpb
    have IB : Ow.InS bs := ⟨by omega, ib⟩
    refine ⟨_, rfl, _, _, rfl, rfl, _, rfl, ite2 (fun _ => ?_) (fun _ => ?_)⟩
    · refine ⟨_, rfl, (by show 2 ≤ sizeLine; decide), fun q nq => ?_⟩
      have e3 := Ext.upd (o := .lst [.ref pb, .non]) nq
      exact k q bs none _ IB trivial ((s2.ext e3).mono (by omega)) (k12.trans (Ow.Keep.of e3)) ⟨pb, .non, upd_same, e3 _ _ hpb, rfl⟩ (k12.free s2 nq)
    refine ⟨_, rfl, rfl, _, rfl, ite2 (fun _ => ?_) (fun _ => ?_)⟩
    · refine ⟨_, rfl, _, rfl, by decide, by decide, fun D hD => lc_range (lo := 0) (n := 16) (fun j G => ∃ ns : List Int, ns.length ≤ j ∧ (∀ n ∈ ns, 0 ≤ n ∧ n ≤ 15) ∧ G D = some (.lst (ns.map V.int)) ∧ Ow.StAt G st c (b + 50 + j) ∧ Ow.Keep st H2 G)
        ⟨[], Nat.le_refl _, (fun n h => by cases h), upd_same, (s2.ext (Ext.upd hD)).mono (by omega), Ow.Keep.upd hD⟩ ?_ ?_⟩
      · rintro j G hj ⟨ns, l1, i1, hd, s3, k3⟩
        have nDs : D ≠ st := s3.ints hd
        refine ⟨rfl, _, rfl, _, rfl, in_ints (.inl (SqL.of (k3 _ _ nps hpb))) ⟨_, rfl, ?_⟩⟩
        cases c1 : decide (0 + (j : Int) ∈ bs) with
        | true => exact iteF (iteF ⟨ns, by omega, i1, hd, s3.mono (by omega), k3⟩)
        | false =>
          refine iteT ⟨_, rfl, st, c, b + 50 + j, 8, rfl, s3, by omega, by decide, by decide, fun d G2 _ _ s4 k4 => ?_⟩
          have hd2 := k4 _ _ nDs hd
          refine ⟨_, _, rfl, rfl, _, rfl, ite2 (fun _ => ?_) (fun _ => ⟨ns, by omega, i1, hd2, s4.mono (by omega), k3.trans k4⟩)⟩
          refine ⟨_, rfl, _, hd2, small1000 (by rw [List.length_map]; omega), ns ++ [0 + (j : Int)], by rw [List.length_append]; show ns.length + 1 ≤ j + 1; omega, ?_, by rw [upd_same, List.map_append]; rfl, ?_, ?_⟩
          · intro n hn
            rcases List.mem_append.mp hn with hn | hn
            · exact i1 n hn
            · rw [List.mem_singleton.mp hn]; omega
          · obtain ⟨i', cur, n', ms, q1, q2, q3, q4, q5⟩ := s4
            have ncD : c ≠ D := fun e => by
              obtain ⟨_, _, _, ms0, w1, w2, _⟩ := s2
              rw [← e, w2] at hD; cases hD
            exact ⟨i', cur, n', ms, by rw [upd_ne (Ne.symm nDs)]; exact q1, by rw [upd_ne ncD]; exact q2, q3, q4, by omega⟩
          · intro x o nx hx
            rw [upd_ne (ne_of_none hx hD)]
            exact k4 _ _ nx (k3 _ _ nx hx)
      · rintro G ⟨ns, l1, i1, hd, s3, k3⟩
        refine ⟨(by show 2 ≤ sizeLine; decide), fun q nq => ?_⟩
        have e3 := Ext.upd (o := .lst [.ref pb, .ref D]) nq
        exact k q bs (some ns) _ IB ⟨by omega, i1⟩ ((s3.ext e3).mono (by omega)) (k12.trans (k3.trans (Ow.Keep.of e3))) ⟨pb, .ref D, upd_same, e3 _ _ (k3 _ _ nps hpb), D, rfl, e3 _ _ hd⟩ ((k12.trans k3).free s3 nq)
    · refine ⟨_, rfl, _, rfl, st, c, b + 42, 12, rfl, s2, by omega, by decide, by decide, fun pr ns H3 ln inn s3 k3 npr hpr => ?_⟩
      refine ⟨(by show 2 ≤ sizeLine; decide), fun q nq => ?_⟩
      have e3 := Ext.upd (o := .lst [.ref pb, .ref pr]) nq
      exact k q bs (some ns) _ IB ⟨by omega, inn⟩ ((s3.ext e3).mono (by omega)) (k12.trans (k3.trans (Ow.Keep.of e3))) ⟨pb, .ref pr, upd_same, e3 _ _ (k3 _ _ nps hpb), pr, rfl, e3 _ _ hpr⟩ ((k12.trans k3).free s3 nq)
end
end K07

namespace K07
open PySem PySem.Spec PyProof.Rows L2 Ow

def spMoved : Sp := fun vs H Q _ => ∃ (st c q : Addr) (b : Nat) (bs : List Int) (rs : Option (List Int)), vs = [.ref st, .ref q] ∧ StAt H st c b ∧ b ≤ 800000 ∧ PartAt H q bs rs ∧ InS bs ∧ InSO rs ∧
  ∀ (q2 : Addr) (b2 : List Int) (r2 : Option (List Int)) (H' : Hp), InK b2 → InKO r2 → StAt H' st c (b + 2) → Keep st H H' → PartAt H' q2 b2 r2 → Q (.ref q2) H'
def spOuts : Sp := fun vs H Q _ => ∃ (q : Addr) (bs : List Int) (rs : Option (List Int)) (k : Int), vs = [.ref q, .int k] ∧ PartAt H q bs rs ∧ InK bs ∧ InKO rs ∧ 0 ≤ k ∧ k < 16 ∧
  ∀ p H', Ext H H' → H p = none → H' p = some (.lst [.bl (decide (k ∈ bs)), .bl (roofOf bs rs k)]) → Q (.ref p) H'
def spLaw (K : PySem.W.Frag) : Sp := fun vs H Q _ => ∃ (a : Addr) (ns : List Int), vs = [.ref a] ∧ SqL K H a (ns.map V.int) ∧ ns.length ≤ 63 ∧ ∀ H', Q (.bl true) H'
theorem OptL.keep {H H' : Hp} {v : V} {st c : Addr} {n : Nat} {o : Option (List Int)} (h : OptL H v o) (s : StAt H st c n) (k : Keep st H H') : OptL H' v o := by
  cases o with
  | none => exact h
  | some R => obtain ⟨r, h1, h2⟩ := h; exact ⟨r, h1, k _ _ (s.ints h2) h2⟩
/-- one row of the outs -/
structure Ot where
  q : Addr
  u : Addr
  v : Addr
  a : Bool
  b : Bool
  c : Bool
  d : Bool
structure OtAt (H : Hp) (x : Ot) : Prop where
  q : H x.q = some (.lst [.ref x.u, .ref x.v])
  u : H x.u = some (.lst [.bl x.a, .bl x.b])
  v : H x.v = some (.lst [.bl x.c, .bl x.d])
theorem OtAt.ext {H H' : Hp} {x : Ot} (o : OtAt H x) (e : Ext H H') : OtAt H' x := ⟨e _ _ o.q, e _ _ o.u, e _ _ o.v⟩
def Ot.dat (x : Ot) : PyData := .list [.list [.bool x.a, .bool x.b], .list [.bool x.c, .bool x.d]]
theorem OtAt.dp {K : PySem.W.Frag} {H : Hp} {x : Ot} (o : OtAt H x) : Dp K H (.ref x.q) x.dat := .lst (SqL.of o.q) (.cons (.lst (SqL.of o.u) (dp_bools [x.a, x.b])) (.cons (.lst (SqL.of o.v) (dp_bools [x.c, x.d])) .nil))
theorem ot_dps {K : PySem.W.Frag} {H : Hp} : ∀ {L : List Ot}, (∀ x ∈ L, OtAt H x) → DpAll K H (L.map fun x => V.ref x.q) (L.map Ot.dat)
  | [], _ => .nil
  | x :: L, h => .cons (h x (List.mem_cons_self)).dp (ot_dps fun y hy => h y (List.mem_cons_of_mem _ hy))
theorem ot_lay : ∀ L : List Ot, PyData.canLayAll0 (L.map Ot.dat) = true
  | [] => by simp [PyData.canLayAll0]
  | x :: L => by simp [PyData.canLayAll0, PyData.canLay0, Ot.dat, ot_lay L]
theorem ot_depth : ∀ L : List Ot, PyData.depthAll (L.map Ot.dat) ≤ 3
  | [] => by simp [PyData.depthAll]
  | x :: L => by
    have := ot_depth L
    simp [PyData.depthAll, PyData.depth, Ot.dat]
    omega
theorem ot_sh (L : List Ot) : SeqAt.shaped (.list (L.map Ot.dat)) = true := by
  have := ot_depth L
  simp [SeqAt.shaped, PyData.canLay0, ot_lay, PyData.depth]
  omega
theorem eqd_outs {K : PySem.W.Frag} {H : Hp} {a b : Addr} {L : List Ot} {Q : VK} (ha : SqL K H a (L.map fun x => V.ref x.q)) (ok : ∀ x ∈ L, OtAt H x) (hb : SqL K H b []) (q : Q (.bl (decide (L = []))) H) : L2.rEqD K (.ref a) (.ref b) H Q :=
  ⟨_, .list [], .lst ha (ot_dps ok), .lst hb .nil, ot_sh L, by decide, by
    have : PyData.eqv (.list (L.map Ot.dat)) (.list []) = decide (L = []) := by
      cases L with
      | nil => simp [PyData.eqv, PyData.eqvAll]
      | cons x L => simp [PyData.eqv, PyData.eqvAll]
    rw [this]; exact q⟩
/-- no row is out of the other's -/
def offL (x : Ot) : Bool := (x.a && !x.c) || (x.b && !x.d)
def offM (x : Ot) : Bool := (x.c && !x.a) || (x.d && !x.b)
theorem offs {L : List Ot} {F R F2 R2 : KS} (eq : L.map (fun x => (x.a, x.b, x.c, x.d)) = (upL 0 16).map fun k => (F k, R k, F2 k, R2 k)) : decide (L.filter offL = []) = (wi F F2 && wi R R2) ∧ decide (L.filter offM = []) = (wi F2 F && wi R2 R) := by
  have h1 : ∀ x ∈ L, ∃ k, 0 ≤ k ∧ k < 16 ∧ (x.a, x.b, x.c, x.d) = (F k, R k, F2 k, R2 k) := fun x hx => by
    have : (x.a, x.b, x.c, x.d) ∈ (upL 0 16).map fun k => (F k, R k, F2 k, R2 k) := by rw [← eq]; exact List.mem_map.mpr ⟨x, hx, rfl⟩
    obtain ⟨k, hk, e⟩ := List.mem_map.mp this
    obtain ⟨j, hj, rfl⟩ := List.mem_map.mp hk
    have := List.mem_range.mp hj
    exact ⟨_, by omega, by omega, e.symm⟩
  have h2 : ∀ k, 0 ≤ k → k < 16 → ∃ x ∈ L, (x.a, x.b, x.c, x.d) = (F k, R k, F2 k, R2 k) := fun k k0 k1 => by
    have : (F k, R k, F2 k, R2 k) ∈ L.map fun x => (x.a, x.b, x.c, x.d) := by
      rw [eq]
      exact List.mem_map.mpr ⟨k, List.mem_map.mpr ⟨k.toNat, List.mem_range.mpr (by omega), by omega⟩, rfl⟩
    obtain ⟨x, hx, e⟩ := List.mem_map.mp this
    exact ⟨x, hx, e⟩
  refine ⟨?_, ?_⟩
  · rw [Bool.eq_iff_iff, decide_eq_true_iff, Bool.and_eq_true, wi_iff, wi_iff, List.filter_eq_nil_iff]
    refine ⟨fun h => ⟨fun k k0 k1 t => ?_, fun k k0 k1 t => ?_⟩, fun ⟨a1, a2⟩ x hx => ?_⟩
    · obtain ⟨x, hx, e⟩ := h2 k k0 k1
      injection e with e1 e; injection e with e2 e; injection e with e3 e4
      have := h x hx
      unfold offL at this
      rw [e1, e3, t] at this
      cases z : F2 k with
      | true => rfl
      | false => rw [z] at this; simp at this
    · obtain ⟨x, hx, e⟩ := h2 k k0 k1
      injection e with e1 e; injection e with e2 e; injection e with e3 e4
      have := h x hx
      unfold offL at this
      rw [e2, e4, t] at this
      cases z : R2 k with
      | true => rfl
      | false => rw [z] at this; simp at this
    · obtain ⟨k, k0, k1, e⟩ := h1 x hx
      injection e with e1 e; injection e with e2 e; injection e with e3 e4
      have b1 := a1 k k0 k1
      have b2 := a2 k k0 k1
      unfold offL
      rw [e1, e2, e3, e4]
      revert b1 b2
      cases F k <;> cases F2 k <;> cases R k <;> cases R2 k <;> simp
  · rw [Bool.eq_iff_iff, decide_eq_true_iff, Bool.and_eq_true, wi_iff, wi_iff, List.filter_eq_nil_iff]
    refine ⟨fun h => ⟨fun k k0 k1 t => ?_, fun k k0 k1 t => ?_⟩, fun ⟨a1, a2⟩ x hx => ?_⟩
    · obtain ⟨x, hx, e⟩ := h2 k k0 k1
      injection e with e1 e; injection e with e2 e; injection e with e3 e4
      have := h x hx
      unfold offM at this
      rw [e1, e3, t] at this
      cases z : F k with
      | true => rfl
      | false => rw [z] at this; simp at this
    · obtain ⟨x, hx, e⟩ := h2 k k0 k1
      injection e with e1 e; injection e with e2 e; injection e with e3 e4
      have := h x hx
      unfold offM at this
      rw [e2, e4, t] at this
      cases z : R k with
      | true => rfl
      | false => rw [z] at this; simp at this
    · obtain ⟨k, k0, k1, e⟩ := h1 x hx
      injection e with e1 e; injection e with e2 e; injection e with e3 e4
      have b1 := a1 k k0 k1
      have b2 := a2 k k0 k1
      unfold offM
      rw [e1, e2, e3, e4]
      revert b1 b2
      cases F k <;> cases F2 k <;> cases R k <;> cases R2 k <;> simp
theorem outs0 {bs : List Int} {rs : Option (List Int)} {k : Int} (h0 : 0 ≤ k) (h1 : k < 16) : decide (k ∈ turnedL bs rs []) = decide (k ∈ bs) := by
  unfold turnedL
  rw [has_ks h0 h1]
  simp
theorem outs1 {bs : List Int} {rs : Option (List Int)} {k : Int} (h0 : 0 ≤ k) (h1 : k < 16) : decide (k ∈ turnedL bs rs [k]) = roofOf bs rs k := by
  unfold turnedL roofOf
  rw [has_ks h0 h1]
  simp [Bool.or_comm]
section
variable {P : Program} {w : World} {K : PySem.W.Frag} {mg : Str → Option Value} {base : Heap}
theorem ok__law_moved {f : Addr} {fd : FuncData} (F : FunD K "_law_moved" "_law_moved" (defArgs S_law_moved) (defBody S_law_moved) (defScope S_law_moved) [] [] f fd) (T : Txt K mg) (G_law_draw : Ow.Glob P w K mg base CX0 1 "_law_draw" ["_law_state", "_law_many"] Ow.spDraw) : FnOk P w K mg base CX0 2 f fd ["_law_state", "_law_part"] (spMoved) := by
  refine F.ok sc_law_moved (fun vs H Q E h => ?_) (fun cdv A outer s H vs Q E hr h => ?_)
  · obtain ⟨st, c, q, b, bs, rs, rfl, _⟩ := h
    rfl
  · obtain ⟨st, c, q, b, bs, rs, rfl, hst, hb, hq, ib, ir, k⟩ := h
    refine ⟨_, PSs.nox (pss_cons (ps_set (i := 2) sc_law_moved.nd rfl (by first | exact Or.inl rfl | exact Or.inr rfl) (pe_g G_law_draw (hr.mono (by decide)) pass0 (pa_cons (pv 0) (pa_cons pe_int pa_nil))))
      (pss_cons (ps_set (i := 3) sc_law_moved.nd rfl (by first | exact Or.inl rfl | exact Or.inr rfl) (pe_g G_law_draw (hr.mono (by decide)) pass0 (pa_cons (pv 0) (pa_cons pe_int pa_nil))))
      (pss_cons (ps_set (i := 4) sc_law_moved.nd rfl (by first | exact Or.inl rfl | exact Or.inr rfl) (pe_callTy (klist (K := K)) (by rfl) T.z_list (by decide +kernel) (pa_cons (pe_ix (kixl (K := K)) (pv 1) pe_int (fun _ _ => rfl)) pa_nil)))
      (pss_cons (ps_set (i := 5) sc_law_moved.nd rfl (by first | exact Or.inl rfl | exact Or.inr rfl) (pe_ix (kixl (K := K)) (pv 1) pe_int (fun _ _ => rfl)))
      (C8.pss_cut (ps_if (pt_cmpR op_eq (pv 2) pe_int (nomark _)) (pss_one (ps_expr (kbm (K := K) PySem.F.plainAttrs_list PySem.F.slot_list_append PySem.F.type_list_append mt_append (pv 4) (pa_cons (pv 3) pa_nil)))) pss_nil)
      (C8.pss_cut (ps_if (pt_cmpR op_eq (pv 2) pe_int (nomark _)) (pss_one (ps_setLc (i := 4) (own := [("_law_one", 6)]) rfl sc_law_moved.nd rfl rfl (sw_true rfl rfl rfl (by decide +kernel)) (kpl (K := K) (pv 4)) (blkOk_by (own := [("_law_one", 6)]) (N := ["_law_state", "_law_part", "_law_kind", "_law_key", "_law_base", "_law_roof", "_law_one"]) (sc := defScope S_law_moved) (by decide +kernel)) (fun _ _ _ _ _ => by exact pg_name (i := 6) sc_law_moved.nd rfl (by first | exact Or.inl rfl | exact Or.inr rfl)) (fun _ _ _ _ _ => by exact pts_one (pt_cmpR op_ne (pv 6) (pv 3) (nomark _))) (fun _ _ _ _ _ => by exact (pv 6)))) pss_nil)
      (C8.pss_cut (ps_if (PW.pt (pw_and (pt_cmpR op_eq (pv 2) pe_int (nomark _)) (pw_and1 (pt_cmpR op_notN (pv 5) pe_non (nomark _))))) (pss_one (ps_set (i := 5) sc_law_moved.nd rfl (by first | exact Or.inl rfl | exact Or.inr rfl) (pe_op op_cat (pv 5) (pe_lst (pa_cons (pv 3) pa_nil))))) pss_nil)
      (C8.pss_cut (ps_if (PW.pt (pw_and (pt_cmpR op_eq (pv 2) pe_int (nomark _)) (pw_and1 (pt_cmpR op_notN (pv 5) pe_non (nomark _))))) (pss_one (ps_setLc (i := 5) (own := [("_law_one", 6)]) rfl sc_law_moved.nd rfl rfl (sw_true rfl rfl rfl (by decide +kernel)) (kpl (K := K) (pv 5)) (blkOk_by (own := [("_law_one", 6)]) (N := ["_law_state", "_law_part", "_law_kind", "_law_key", "_law_base", "_law_roof", "_law_one"]) (sc := defScope S_law_moved) (by decide +kernel)) (fun _ _ _ _ _ => by exact pg_name (i := 6) sc_law_moved.nd rfl (by first | exact Or.inl rfl | exact Or.inr rfl)) (fun _ _ _ _ _ => by exact pts_one (pt_cmpR op_ne (pv 6) (pv 3) (nomark _))) (fun _ _ _ _ _ => by exact (pv 6)))) pss_nil)
      (C8.pss_cut (ps_if (PW.pt (pw_and (pt_cmpR op_eq (pv 2) pe_int (nomark _)) (pw_and1 (pt_cmpR op_notN (pv 5) pe_non (nomark _))))) (pss_one (ps_set (i := 5) sc_law_moved.nd rfl (by first | exact Or.inl rfl | exact Or.inr rfl) (pe_op op_cat (pv 4) (pe_revL (pv 5))))) pss_nil)
      (pss_one (ps_ret (pe_lst (pa_cons (pv 4) (pa_cons (pv 5) pa_nil)))))))))))))), ?_⟩
    refine ⟨_, rfl, st, c, b, 5, rfl, hst, by omega, by decide, by decide, fun kd H1 kd0 kd1 s1 k1 => ?_⟩
    refine ⟨_, rfl, st, c, b + 1, 16, rfl, s1, by omega, by decide, by decide, fun key H2 y0 y1 s2 k2 => ?_⟩
    have k12 := k1.trans k2
    obtain ⟨pb, v, h1, h2, h3⟩ := hq.keep hst k12
    have lb := ib.1
    refine ⟨_, rfl, q, _, _, _, rfl, rfl, SqL.of h1, rfl, pb, bs.map V.int, rfl, .inl (SqL.of h2), fun B nB => ?_⟩
    have e3 := Ext.upd (o := .lst (bs.map V.int)) nB
    have nBq : B ≠ st := fun e => by obtain ⟨o, ho⟩ := s2.here; rw [e, ho] at nB; cases nB
    refine ⟨_, rfl, q, _, _, v, rfl, rfl, SqL.of (e3 _ _ h1), rfl, ?_⟩
    -- kind 0
    refine ⟨fun σ' G => ∃ bs' : List Int, σ' = [some (.ref st), some (.ref q), some (.int kd), some (.int key), some (.ref B), some v, none] ∧ Ext H2 G ∧ G B = some (.lst (bs'.map V.int)) ∧ bs'.length ≤ 17 ∧ (∀ n ∈ bs', 0 ≤ n ∧ n ≤ 15), ?_, ?_⟩
    · refine ⟨_, rfl, rfl, _, rfl, ite2 (fun _ => ?_) (fun _ => ⟨bs, rfl, e3, upd_same, by omega, ib.2⟩)⟩
      refine ⟨_, rfl, .inl ⟨rfl, _, SqL.of upd_same⟩, _, rfl, B, _, _, rfl, rfl, upd_same, small1000 (by rw [List.length_map]; omega), bs ++ [key], rfl, ?_, by rw [upd_same, List.map_append]; rfl, by rw [List.length_append]; show bs.length + 1 ≤ 17; omega, fun n hn => ?_⟩
      · rw [upd_upd]
        exact Ext.upd nB
      · rcases List.mem_append.mp hn with hn | hn
        · exact ib.2 n hn
        · rw [List.mem_singleton.mp hn]; omega
    rintro σ' G ⟨bs1, rfl, e4, hB, l1, i1⟩
    -- kind 1
    refine ⟨fun σ' G2 => ∃ (B2 : Addr) (bs' : List Int), σ' = [some (.ref st), some (.ref q), some (.int kd), some (.int key), some (.ref B2), some v, none] ∧ Ext H2 G2 ∧ G2 B2 = some (.lst (bs'.map V.int)) ∧ bs'.length ≤ 17 ∧ (∀ n ∈ bs', 0 ≤ n ∧ n ≤ 15), ?_, ?_⟩
    · refine ⟨_, rfl, rfl, _, rfl, ite2 (fun _ => ?_) (fun _ => ⟨B, bs1, rfl, e4, hB, l1, i1⟩)⟩
      refine ⟨_, rfl, B, rfl, ⟨_, SqL.of hB⟩, fun D hD => compL bs1 V.int (fun z => !decide (V.int z = V.int key)) V.int (SqL.of hB) hD (by omega) (fun z H' R _ e qq => ?_) (fun z H' R _ e qq => ⟨_, rfl, qq⟩) ?_⟩
      · exact ⟨_, rfl, _, rfl, rfl, _, rfl, qq⟩
      · have := List.length_filter_le (fun z => !decide (V.int z = V.int key)) bs1
        exact ⟨D, _, rfl, e4.trans (Ext.upd hD), upd_same, by omega, fun n hn => i1 n (List.mem_filter.mp hn).1⟩
    rintro σ' G2 ⟨B2, bs2, rfl, e5, hB2, l2, i2⟩
    clear hB l1 i1 e4
    have lr : ∀ ns, rs = some ns → ns.length ≤ 16 ∧ ∀ n ∈ ns, 0 ≤ n ∧ n ≤ 15 := fun ns e => by rw [e] at ir; exact ir
    -- kind 2
    refine ⟨fun σ' G2 => ∃ (u : V) (r2 : Option (List Int)), σ' = [some (.ref st), some (.ref q), some (.int kd), some (.int key), some (.ref B2), some u, none] ∧ Ext H2 G2 ∧ G2 B2 = some (.lst (bs2.map V.int)) ∧ OptL G2 u r2 ∧ ∀ ns, r2 = some ns → ns.length ≤ 17 ∧ ∀ n ∈ ns, 0 ≤ n ∧ n ≤ 15, ?_, ?_⟩
    · have no : ∃ (u : V) (r2 : Option (List Int)), ([some (.ref st), some (.ref q), some (.int kd), some (.int key), some (.ref B2), some v, none] : L2.St) = [some (.ref st), some (.ref q), some (.int kd), some (.int key), some (.ref B2), some u, none] ∧ Ext H2 G2 ∧ G2 B2 = some (.lst (bs2.map V.int)) ∧ OptL G2 u r2 ∧ ∀ ns, r2 = some ns → ns.length ≤ 17 ∧ ∀ n ∈ ns, 0 ≤ n ∧ n ≤ 15 := ⟨v, rs, rfl, e5, hB2, h3.ext e5, fun ns e => ⟨Nat.le_succ_of_le (lr ns e).1, (lr ns e).2⟩⟩
      refine ⟨_, rfl, rfl, _, rfl, ite2 (fun _ => ?_) (fun _ => iteF no)⟩
      cases rs with
      | none =>
        obtain rfl : v = .non := h3
        exact ⟨_, rfl, rfl, _, rfl, iteF no⟩
      | some ns =>
        obtain ⟨a, rfl, ha⟩ := id h3
        refine ⟨_, rfl, rfl, _, rfl, iteT ⟨_, rfl, _, rfl, (by show 1 ≤ sizeLine; decide), fun l nl => ?_⟩⟩
        have ha2 := (e5.trans (Ext.upd (o := .lst [.int key]) nl)) _ _ ha
        have ll := (lr ns rfl).1
        refine ⟨a, l, _, _, rfl, rfl, ha2, upd_same, Nat.le_trans (m := 1000) (by rw [List.length_map]; show ns.length + 1 ≤ 1000; omega) (by decide), fun p np => ⟨_, some (ns ++ [key]), rfl, e5.trans ((Ext.upd nl).trans (Ext.upd np)), ((Ext.upd nl).trans (Ext.upd np)) _ _ hB2, ⟨p, rfl, by rw [upd_same, List.map_append]; rfl⟩, fun ns' e => ?_⟩⟩
        injection e with e
        subst e
        refine ⟨by rw [List.length_append]; show ns.length + 1 ≤ 17; omega, fun n hn => ?_⟩
        rcases List.mem_append.mp hn with hn | hn
        · exact (lr ns rfl).2 n hn
        · rw [List.mem_singleton.mp hn]; omega
    clear lr e5 hB2 ir h3
    rintro σ' G3 ⟨u, r2, rfl, e5, hB2, h3, lr⟩
    -- kind 3
    refine ⟨fun σ' G2 => ∃ (u : V) (r2 : Option (List Int)), σ' = [some (.ref st), some (.ref q), some (.int kd), some (.int key), some (.ref B2), some u, none] ∧ Ext H2 G2 ∧ G2 B2 = some (.lst (bs2.map V.int)) ∧ OptL G2 u r2 ∧ ∀ ns, r2 = some ns → ns.length ≤ 17 ∧ ∀ n ∈ ns, 0 ≤ n ∧ n ≤ 15, ?_, ?_⟩
    · have no : ∃ (u' : V) (r2 : Option (List Int)), ([some (.ref st), some (.ref q), some (.int kd), some (.int key), some (.ref B2), some u, none] : L2.St) = [some (.ref st), some (.ref q), some (.int kd), some (.int key), some (.ref B2), some u', none] ∧ Ext H2 G3 ∧ G3 B2 = some (.lst (bs2.map V.int)) ∧ OptL G3 u' r2 ∧ ∀ ns, r2 = some ns → ns.length ≤ 17 ∧ ∀ n ∈ ns, 0 ≤ n ∧ n ≤ 15 := ⟨u, r2, rfl, e5, hB2, h3, lr⟩
      refine ⟨_, rfl, rfl, _, rfl, ite2 (fun _ => ?_) (fun _ => iteF no)⟩
      cases r2 with
      | none =>
        obtain rfl : u = .non := h3
        exact ⟨_, rfl, rfl, _, rfl, iteF no⟩
      | some ns =>
        obtain ⟨a, rfl, ha⟩ := id h3
        have ll := (lr ns rfl).1
        refine ⟨_, rfl, rfl, _, rfl, iteT ⟨_, rfl, a, rfl, ⟨_, SqL.of ha⟩, fun D hD => compL ns V.int (fun z => !decide (V.int z = V.int key)) V.int (SqL.of ha) hD (by omega) (fun z H' R _ e qq => ?_) (fun z H' R _ e qq => ⟨_, rfl, qq⟩) ?_⟩⟩
        · exact ⟨_, rfl, _, rfl, rfl, _, rfl, qq⟩
        · have := List.length_filter_le (fun z => !decide (V.int z = V.int key)) ns
          refine ⟨_, some _, rfl, e5.trans (Ext.upd hD), Ext.upd hD _ _ hB2, ⟨D, rfl, upd_same⟩, fun ns' e => ?_⟩
          injection e with e
          subst e
          exact ⟨by omega, fun n hn => (lr ns rfl).2 n (List.mem_filter.mp hn).1⟩
    clear lr e5 hB2 h3
    rintro σ' G4 ⟨u, r2, rfl, e5, hB2, h3, lr⟩
    -- kind 4
    refine ⟨fun σ' G2 => ∃ (u : V) (r2 : Option (List Int)), σ' = [some (.ref st), some (.ref q), some (.int kd), some (.int key), some (.ref B2), some u, none] ∧ Ext H2 G2 ∧ G2 B2 = some (.lst (bs2.map V.int)) ∧ OptL G2 u r2 ∧ ∀ ns, r2 = some ns → ns.length ≤ 34 ∧ ∀ n ∈ ns, 0 ≤ n ∧ n ≤ 15, ?_, ?_⟩
    · have no : ∃ (u' : V) (r2 : Option (List Int)), ([some (.ref st), some (.ref q), some (.int kd), some (.int key), some (.ref B2), some u, none] : L2.St) = [some (.ref st), some (.ref q), some (.int kd), some (.int key), some (.ref B2), some u', none] ∧ Ext H2 G4 ∧ G4 B2 = some (.lst (bs2.map V.int)) ∧ OptL G4 u' r2 ∧ ∀ ns, r2 = some ns → ns.length ≤ 34 ∧ ∀ n ∈ ns, 0 ≤ n ∧ n ≤ 15 := ⟨u, r2, rfl, e5, hB2, h3, fun ns e => ⟨Nat.le_trans (lr ns e).1 (by decide), (lr ns e).2⟩⟩
      refine ⟨_, rfl, rfl, _, rfl, ite2 (fun _ => ?_) (fun _ => iteF no)⟩
      cases r2 with
      | none =>
        obtain rfl : u = .non := h3
        exact ⟨_, rfl, rfl, _, rfl, iteF no⟩
      | some ns =>
        obtain ⟨a, rfl, ha⟩ := id h3
        have ll := (lr ns rfl).1
        refine ⟨_, rfl, rfl, _, rfl, iteT ⟨_, rfl, _, rfl, a, _, rfl, SqL.of ha, fun l nl => ?_⟩⟩
        refine ⟨B2, l, _, _, rfl, rfl, Ext.upd nl _ _ hB2, upd_same, Nat.le_trans (m := 1000) (by rw [List.length_reverse, List.length_map, List.length_map]; omega) (by decide), fun p np => ⟨_, some (bs2 ++ ns.reverse), rfl, e5.trans ((Ext.upd nl).trans (Ext.upd np)), ((Ext.upd nl).trans (Ext.upd np)) _ _ hB2, ⟨p, rfl, by rw [upd_same, List.map_append, List.map_reverse]⟩, fun ns' e => ?_⟩⟩
        injection e with e
        subst e
        refine ⟨by rw [List.length_append, List.length_reverse]; omega, fun n hn => ?_⟩
        rcases List.mem_append.mp hn with hn | hn
        · exact i2 n hn
        · exact (lr ns rfl).2 n (List.mem_reverse.mp hn)
    clear lr e5 hB2 h3
    rintro σ' G5 ⟨u, r2, rfl, e5, hB2, h3, lr⟩
    refine ⟨_, rfl, _, rfl, (by show 2 ≤ sizeLine; decide), fun q2 nq => ?_⟩
    have e6 := Ext.upd (o := .lst [.ref B2, u]) nq
    refine k q2 bs2 r2 _ ⟨by omega, i2⟩ ?_ (s2.ext (e5.trans e6)) (k12.trans (Ow.Keep.of (e5.trans e6))) ⟨B2, u, upd_same, e6 _ _ hB2, h3.ext e6⟩
    cases r2 with
    | none => trivial
    | some ns => exact ⟨by have := (lr ns rfl).1; omega, (lr ns rfl).2⟩
theorem ok__law_outs {f : Addr} {fd : FuncData} (F : FunD K "_law_outs" "_law_outs" (defArgs S_law_outs) (defBody S_law_outs) (defScope S_law_outs) [] [] f fd) (T : Txt K mg) (G_law_turned : Ow.Glob P w K mg base CX0 1 "_law_turned" ["_law_parts_here", "_law_held"] (Ow.spTurned K)) : FnOk P w K mg base CX0 2 f fd ["_law_parts_here", "_law_key"] (spOuts) := by
  refine F.ok sc_law_outs (fun vs H Q E h => ?_) (fun cdv A outer s H vs Q E hr h => ?_)
  · obtain ⟨q, bs, rs, n, rfl, _⟩ := h
    rfl
  · obtain ⟨q, bs, rs, n, rfl, hq, ib, ir, n0, n1, k⟩ := h
    refine ⟨_, PSs.nox (pss_one (ps_ret (pe_lst (pa_cons (pe_cmpR (kin (K := K)) (pv 1) (pe_g G_law_turned (hr.mono (by decide)) pass0 (pa_cons (pv 0) (pa_cons (pe_lst pa_nil) pa_nil))) (by rfl)) (pa_cons (pe_cmpR (kin (K := K)) (pv 1) (pe_g G_law_turned (hr.mono (by decide)) pass0 (pa_cons (pv 0) (pa_cons (pe_lst (pa_cons (pv 1) pa_nil)) pa_nil))) (by rfl)) pa_nil))))), ?_⟩
    refine ⟨_, rfl, _, rfl, (by show 0 ≤ sizeLine; decide), fun l nl => ?_⟩
    have e1 := Ext.upd (o := .lst []) nl
    refine ⟨q, l, bs, [], rs, rfl, hq.ext e1, SqL.of upd_same, by decide, ib, ir, fun p1 H1 e2 np1 hp1 => in_ints (.inl (SqL.of hp1)) ?_⟩
    refine ⟨_, rfl, _, rfl, _, rfl, (by show 1 ≤ sizeLine; decide), fun l2 nl2 => ?_⟩
    have e3 := Ext.upd (o := .lst [.int n]) nl2
    refine ⟨q, l2, bs, [n], rs, rfl, hq.ext (e1.trans (e2.trans e3)), SqL.of upd_same, by show 1 ≤ 1000; decide, ib, ir, fun p2 H2 e4 np2 hp2 => in_ints (.inl (SqL.of hp2)) ?_⟩
    refine ⟨(by show 2 ≤ sizeLine; decide), fun p np => ?_⟩
    have e5 := e1.trans (e2.trans (e3.trans e4))
    rw [outs0 n0 n1, outs1 n0 n1]
    exact k p _ (e5.trans (Ext.upd np)) (Ow.Ext.free e5 np) upd_same
end
end K07

namespace K07
open PySem PySem.Spec PyProof.Rows L2 Ow
section
variable {P : Program} {w : World} {K : PySem.W.Frag} {mg : Str → Option Value} {base : Heap}
theorem ok_law {f : Addr} {fd : FuncData} (F : FunD K "law" "law" (defArgs Slaw) (defBody Slaw) (defScope Slaw) [] [] f fd) (T : Txt K mg) (G_law_start : Ow.Glob P w K mg base CX0 1 "_law_start" ["_law_script"] (Ow.spStart K)) (G_law_draw : Ow.Glob P w K mg base CX0 1 "_law_draw" ["_law_state", "_law_many"] Ow.spDraw) (G_law_parts : Ow.Glob P w K mg base CX0 3 "_law_parts" ["_law_state"] Ow.spPartsS) (G_law_made : Ow.Glob P w K mg base CX0 8 "_law_made" ["_law_parts_here"] (Ow.spMade (He.ga K "Mask") (He.ga K "Rights"))) (G_law_moved : Ow.Glob P w K mg base CX0 2 "_law_moved" ["_law_state", "_law_part"] spMoved) (G_law_outs : Ow.Glob P w K mg base CX0 2 "_law_outs" ["_law_parts_here", "_law_key"] spOuts) (GRights : Ow.Maker P w K mg base CX0 2 "Rights" (He.ga K "Rights") ["self", "numbers"] [] (Ow.spInit K (He.ga K "Rights"))) (GRights0 : Ow.Maker P w K mg base CX0 2 "Rights" (He.ga K "Rights") ["self", "numbers"] [.ref (He.dflAt ("Rights", some "__init__") 0 K)] (Ow.spInit K (He.ga K "Rights"))) (GMask : Ow.Maker P w K mg base CX0 6 "Mask" (He.ga K "Mask") ["self", "floor", "roof"] [] (Ow.spMInit (He.ga K "Mask") (He.ga K "Rights"))) (GS_keep : Ow.Stat P w K mg base CX0 8 (He.ga K "Mask") "keep" [] (Ow.spKeep (He.ga K "Mask") (He.ga K "Rights"))) (GS_only : Ow.Stat P w K mg base CX0 8 (He.ga K "Mask") "only" ["rights"] (Ow.spOnly (He.ga K "Mask") (He.ga K "Rights"))) (GS_adding : Ow.Stat P w K mg base CX0 8 (He.ga K "Mask") "adding" ["rights"] (Ow.spAdding (He.ga K "Mask") (He.ga K "Rights"))) (GM_eq : Ow.Dun P w K mg base CX0 3 (He.ga K "Mask") "__eq__" ["self", "other"] (Ow.spMEq (He.ga K "Mask") (He.ga K "Rights"))) (GM_eqN : Ow.Dun P w K mg base CX0 3 (He.ga K "Mask") "__eq__" ["self", "other"] (Ow.spMEqN (He.ga K "Mask") (He.ga K "Rights"))) (GM_within : Ow.Dun P w K mg base CX0 3 (He.ga K "Mask") "within" ["self", "other"] (Ow.spMWithin (He.ga K "Mask") (He.ga K "Rights"))) : FnOk P w K mg base CX0 12 f fd ["_law_script"] (spLaw K) := by
  refine F.ok sclaw (fun vs H Q E h => ?_) (fun cdv A outer s H vs Q E hr h => ?_)
  · obtain ⟨a, ns, rfl, _⟩ := h
    rfl
  · obtain ⟨a, ns, rfl, hS, hlen, k⟩ := h
    refine ⟨_, PSs.nox (pss_cons (ps_set (i := 1) sclaw.nd rfl (by first | exact Or.inl rfl | exact Or.inr rfl) (pe_g G_law_start (hr.mono (by decide)) pass0 (pa_cons (pv 0) pa_nil)))
      (pss_cons (ps_set (i := 2) sclaw.nd rfl (by first | exact Or.inl rfl | exact Or.inr rfl) (pe_g G_law_parts (hr.mono (by decide)) pass0 (pa_cons (pv 1) pa_nil)))
      (pss_cons (ps_set (i := 3) sclaw.nd rfl (by first | exact Or.inl rfl | exact Or.inr rfl) (pe_g G_law_parts (hr.mono (by decide)) pass0 (pa_cons (pv 1) pa_nil)))
      (C8.pss_cut (ps_if (pt_cmpR op_eq (pe_g G_law_draw (hr.mono (by decide)) pass0 (pa_cons (pv 1) (pa_cons pe_int pa_nil))) pe_int (nomark _)) (pss_one (ps_set (i := 3) sclaw.nd rfl (by first | exact Or.inl rfl | exact Or.inr rfl) (pe_g G_law_moved (hr.mono (by decide)) pass0 (pa_cons (pv 1) (pa_cons (pv 2) pa_nil))))) pss_nil)
      (pss_cons (ps_set (i := 4) sclaw.nd rfl (by first | exact Or.inl rfl | exact Or.inr rfl) (pe_g G_law_made (hr.mono (by decide)) pass0 (pa_cons (pv 2) pa_nil)))
      (pss_cons (ps_set (i := 5) sclaw.nd rfl (by first | exact Or.inl rfl | exact Or.inr rfl) (pe_g G_law_made (hr.mono (by decide)) pass0 (pa_cons (pv 3) pa_nil)))
      (pss_cons (ps_setLc (i := 6) (own := [("_law_key", 11)]) rfl sclaw.nd rfl rfl (sw_true rfl rfl rfl (by decide +kernel)) (pi_range1 rfl T.z_range (pa_cons pe_int pa_nil)) (blkOk_by (own := [("_law_key", 11)]) (N := ["_law_script", "_law_state", "_law_one", "_law_two", "_law_first", "_law_second", "_law_outs_here", "_law_less", "_law_more", "_law_told", "_law_every", "_law_key", "_law_pair"]) (sc := defScope Slaw) (by decide +kernel)) (fun _ _ _ _ _ => by exact pg_name (i := 11) sclaw.nd rfl (by first | exact Or.inl rfl | exact Or.inr rfl)) (fun _ _ _ _ _ => by exact pts_nil) (fun _ _ _ _ _ => by exact (pe_lst (pa_cons (pe_g G_law_outs (hr.mono (by decide)) pass0 (pa_cons (pv 2) (pa_cons (pv 11) pa_nil))) (pa_cons (pe_g G_law_outs (hr.mono (by decide)) pass0 (pa_cons (pv 3) (pa_cons (pv 11) pa_nil))) pa_nil)))))
      (pss_cons (ps_set (i := 7) sclaw.nd rfl (by first | exact Or.inl rfl | exact Or.inr rfl) (pe_cmpR (keqd (K := K) hr.units) (pe_lc (own := [("_law_pair", 12)]) rfl sclaw.nd (kpl (K := K) (pv 6)) (blkOk_by (own := [("_law_pair", 12)]) (N := ["_law_script", "_law_state", "_law_one", "_law_two", "_law_first", "_law_second", "_law_outs_here", "_law_less", "_law_more", "_law_told", "_law_every", "_law_key", "_law_pair"]) (sc := defScope Slaw) (by decide +kernel)) (fun _ _ _ _ _ => by exact pg_name (i := 12) sclaw.nd rfl (by first | exact Or.inl rfl | exact Or.inr rfl)) (fun _ _ _ _ _ => by exact pts_one (PW.pt (pw_or (PW.pt (pw_and (pt_val (pe_ix (kixl (K := K)) (pe_ix (kixl (K := K)) (pv 12) pe_int (fun _ _ => rfl)) pe_int (fun _ _ => rfl))) (pw_and1 (pt_not (pt_val (pe_ix (kixl (K := K)) (pe_ix (kixl (K := K)) (pv 12) pe_int (fun _ _ => rfl)) pe_int (fun _ _ => rfl))))))) (pw_or1 (PW.pt (pw_and (pt_val (pe_ix (kixl (K := K)) (pe_ix (kixl (K := K)) (pv 12) pe_int (fun _ _ => rfl)) pe_int (fun _ _ => rfl))) (pw_and1 (pt_not (pt_val (pe_ix (kixl (K := K)) (pe_ix (kixl (K := K)) (pv 12) pe_int (fun _ _ => rfl)) pe_int (fun _ _ => rfl))))))))))) (fun _ _ _ _ _ => by exact (pv 12))) (pe_lst pa_nil) (nomark _)))
      (pss_cons (ps_set (i := 8) sclaw.nd rfl (by first | exact Or.inl rfl | exact Or.inr rfl) (pe_cmpR (keqd (K := K) hr.units) (pe_lc (own := [("_law_pair", 12)]) rfl sclaw.nd (kpl (K := K) (pv 6)) (blkOk_by (own := [("_law_pair", 12)]) (N := ["_law_script", "_law_state", "_law_one", "_law_two", "_law_first", "_law_second", "_law_outs_here", "_law_less", "_law_more", "_law_told", "_law_every", "_law_key", "_law_pair"]) (sc := defScope Slaw) (by decide +kernel)) (fun _ _ _ _ _ => by exact pg_name (i := 12) sclaw.nd rfl (by first | exact Or.inl rfl | exact Or.inr rfl)) (fun _ _ _ _ _ => by exact pts_one (PW.pt (pw_or (PW.pt (pw_and (pt_val (pe_ix (kixl (K := K)) (pe_ix (kixl (K := K)) (pv 12) pe_int (fun _ _ => rfl)) pe_int (fun _ _ => rfl))) (pw_and1 (pt_not (pt_val (pe_ix (kixl (K := K)) (pe_ix (kixl (K := K)) (pv 12) pe_int (fun _ _ => rfl)) pe_int (fun _ _ => rfl))))))) (pw_or1 (PW.pt (pw_and (pt_val (pe_ix (kixl (K := K)) (pe_ix (kixl (K := K)) (pv 12) pe_int (fun _ _ => rfl)) pe_int (fun _ _ => rfl))) (pw_and1 (pt_not (pt_val (pe_ix (kixl (K := K)) (pe_ix (kixl (K := K)) (pv 12) pe_int (fun _ _ => rfl)) pe_int (fun _ _ => rfl))))))))))) (fun _ _ _ _ _ => by exact (pv 12))) (pe_lst pa_nil) (nomark _)))
      (pss_cons (ps_set (i := 9) sclaw.nd rfl (by first | exact Or.inl rfl | exact Or.inr rfl) (pe_lst (pa_cons (pe_m (pv 4) T.cl_Mask GM_within (hr.mono (by decide)) pass0 (pa_cons (pv 5) pa_nil)) (pa_cons (pe_m (pv 5) T.cl_Mask GM_within (hr.mono (by decide)) pass0 (pa_cons (pv 4) pa_nil)) (pa_cons (pe_cmpR (Ow.od_eq GM_eq (hr.mono (by decide)) pass0) (pv 4) (pv 5) (nomark _)) (pa_cons (pe_cmpR (Ow.od_neD GM_eq (hr.mono (by decide)) pass0 (Ow.nfSelf _ _) T.ne_Mask.ne T.ne_Mask.ob) (pv 4) (pv 5) (nomark _)) pa_nil))))))
      (C8.pss_cut (ps_if (pt_cmpR (kned (K := K) hr.units) (pv 9) (pe_lst (pa_cons (pv 7) (pa_cons (pv 8) (pa_cons (pe_and (pv 7) (pe_one (pv 8))) (pa_cons (pe_not (pe_and (pv 7) (pe_one (pv 8)))) pa_nil))))) (nomark _)) (pss_one (ps_ret pe_bl)) pss_nil)
      (C8.pss_cut (ps_if (PW.pt (pw_or (pt_not (pt_val (pe_callB (kisi (K := K)) (by rfl) T.z_isinstance (by decide +kernel) (pa_cons (pe_ix (kixl (K := K)) (pv 9) pe_int (fun _ _ => rfl)) (pa_cons (pe_bltn (v := .ty "bool") (by rfl) T.z_bool (by decide +kernel) rfl) pa_nil))))) (pw_or (pt_not (pt_val (pe_m (pv 4) T.cl_Mask GM_within (hr.mono (by decide)) pass0 (pa_cons (pv 4) pa_nil)))) (pw_or1 (pt_not (pt_cmpR (Ow.od_eq GM_eq (hr.mono (by decide)) pass0) (pv 4) (pe_g G_law_made (hr.mono (by decide)) pass0 (pa_cons (pv 2) pa_nil)) (nomark _))))))) (pss_one (ps_ret pe_bl)) pss_nil)
      (pss_cons (ps_set (i := 10) sclaw.nd rfl (by first | exact Or.inl rfl | exact Or.inr rfl) (pe_mk GRights (hr.mono (by decide)) pass0 (pa_cons (pe_lc (own := [("_law_key", 11)]) rfl sclaw.nd (pi_range1 rfl T.z_range (pa_cons pe_int pa_nil)) (blkOk_by (own := [("_law_key", 11)]) (N := ["_law_script", "_law_state", "_law_one", "_law_two", "_law_first", "_law_second", "_law_outs_here", "_law_less", "_law_more", "_law_told", "_law_every", "_law_key", "_law_pair"]) (sc := defScope Slaw) (by decide +kernel)) (fun _ _ _ _ _ => by exact pg_name (i := 11) sclaw.nd rfl (by first | exact Or.inl rfl | exact Or.inr rfl)) (fun _ _ _ _ _ => by exact pts_nil) (fun _ _ _ _ _ => by exact (pv 11))) pa_nil)))
      (C8.pss_cut (ps_if (PW.pt (pw_or (pt_not (pt_val (pe_m (pe_stat (pe_glob (v := .ref (He.ga K "Mask")) rfl T.g_Mask rfl) GS_only (hr.mono (by decide)) pass0 (pa_cons (pe_mk0 GRights0 (hr.mono (by decide)) pass0) pa_nil)) T.cl_Mask GM_within (hr.mono (by decide)) pass0 (pa_cons (pv 4) pa_nil)))) (pw_or1 (pt_not (pt_val (pe_m (pv 5) T.cl_Mask GM_within (hr.mono (by decide)) pass0 (pa_cons (pe_stat (pe_glob (v := .ref (He.ga K "Mask")) rfl T.g_Mask rfl) GS_adding (hr.mono (by decide)) pass0 (pa_cons (pv 10) pa_nil)) pa_nil))))))) (pss_one (ps_ret pe_bl)) pss_nil)
      (C8.pss_cut (ps_if (PW.pt (pw_or (pt_cmpR (Ow.od_eqD GM_eqN (hr.mono (by decide)) pass0 T.nf_MR) (pv 4) (kfld (K := K) (pv 4)) (nomark _)) (pw_or1 (pt_not (pt_cmpR (Ow.od_neD GM_eqN (hr.mono (by decide)) pass0 T.nf_MR T.ne_Mask.ne T.ne_Mask.ob) (pv 4) (pv 10) (nomark _)))))) (pss_one (ps_ret pe_bl)) pss_nil)
      (pss_one (ps_ret (pe_cmpR (Ow.od_eq GM_eq (hr.mono (by decide)) pass0) (pe_mk GMask (hr.mono (by decide)) pass0 (pa_cons (pe_mk0 GRights0 (hr.mono (by decide)) pass0) (pa_cons (pv 10) pa_nil))) (pe_stat0 (pe_glob (v := .ref (He.ga K "Mask")) rfl T.g_Mask rfl) GS_keep (hr.mono (by decide)) pass0) (nomark _))))))))))))))))))), ?_⟩
    refine ⟨_, rfl, a, ns, rfl, hS, hlen, fun st c H1 e1 nst nc t1 => ?_⟩
    refine ⟨_, rfl, st, c, 0, rfl, t1, by decide, fun q1 b1 s1 H2 ib1 ir1 t2 k2 p1 _ => ?_⟩
    refine ⟨_, rfl, st, c, 100, rfl, t2, by decide, fun q2 b2 s2 H3 ib2 ir2 t3 k3 p2 _ => ?_⟩
    have p1 := p1.keep t2 k3
    refine ⟨fun σ' G => ∃ (q2 : Addr) (b2 : List Int) (s2 : Option (List Int)), σ' = [some (.ref a), some (.ref st), some (.ref q1), some (.ref q2), none, none, none, none, none, none, none, none, none] ∧ PartAt G q1 b1 s1 ∧ PartAt G q2 b2 s2 ∧ InK b2 ∧ InKO s2, ?_, ?_⟩
    · refine ⟨_, rfl, st, c, 200, 2, rfl, t3, by decide, by decide, by decide, fun d H4 _ _ t4 k4 => ⟨rfl, _, rfl, ite2 (fun _ => ?_) (fun _ => ⟨q2, b2, s2, rfl, p1.keep t3 k4, p2.keep t3 k4, ib2.k, ir2.k⟩)⟩⟩
      refine ⟨_, rfl, _, rfl, st, c, q1, 201, b1, s1, rfl, t4, by decide, p1.keep t3 k4, ib1, ir1, fun q3 b3 s3 H5 ib3 ir3 t5 k5 p3 => ⟨q3, b3, s3, rfl, (p1.keep t3 k4).keep t4 k5, p3, ib3, ir3⟩⟩
    clear p2 ib2 ir2 p1 t3 k3 t2 k2 t1 e1 nst nc
    rintro σ' G ⟨q2, b2, s2, rfl, p1, p2, ib2, ir2⟩
    replace ib1 := ib1.k
    replace ir1 := ir1.k
    refine ⟨_, rfl, q1, b1, s1, rfl, p1, ib1, ir1, fun x1 G1 f1 m1 => ?_⟩
    refine ⟨_, rfl, q2, b2, s2, rfl, p2.ext f1, ib2, ir2, fun x2 G2 f2 m2 => ?_⟩
    replace m1 := m1.ext f2
    replace p1 := p1.ext (f1.trans f2)
    replace p2 := p2.ext (f1.trans f2)
    -- the outs
    refine ⟨_, rfl, by decide, by decide, fun D hD => lc_range (lo := 0) (n := 16) (fun j G => ∃ L : List Ot, L.length = j ∧ G D = some (.lst (L.map fun x => V.ref x.q)) ∧ Ext G2 G ∧ (∀ x ∈ L, OtAt G x ∧ x.q ≠ D ∧ x.u ≠ D ∧ x.v ≠ D) ∧ L.map (fun x => (x.a, x.b, x.c, x.d)) = (upL 0 j).map fun k => (decide (k ∈ b1), roofOf b1 s1 k, decide (k ∈ b2), roofOf b2 s2 k))
      ⟨[], rfl, upd_same, Ext.upd hD, (fun x h => by cases h), rfl⟩ ?_ ?_⟩
    · rintro j G hj ⟨L, hl, hd, e, ok, eq⟩
      have j0 : (0 : Int) ≤ 0 + (j : Int) := by omega
      have j1 : (0 : Int) + (j : Int) < 16 := by omega
      refine ⟨rfl, _, rfl, _, rfl, q1, b1, s1, 0 + (j : Int), rfl, p1.ext e, ib1, ir1, j0, j1, fun u G3 f3 nu hu => ?_⟩
      refine ⟨_, rfl, _, rfl, q2, b2, s2, 0 + (j : Int), rfl, p2.ext (e.trans f3), ib2, ir2, j0, j1, fun v G4 f4 nv hv => ⟨(by show 2 ≤ sizeLine; decide), fun q nq => ?_⟩⟩
      have f5 := Ext.upd (o := .lst [.ref u, .ref v]) nq
      have ff := f3.trans (f4.trans f5)
      have nDu : u ≠ D := Ne.symm (ne_of_none hd nu)
      have nDv : v ≠ D := Ne.symm (ne_of_none (f3 _ _ hd) nv)
      have nDq : q ≠ D := Ne.symm (ne_of_none ((f3.trans f4) _ _ hd) nq)
      refine ⟨_, ff _ _ hd, small1000 (by rw [List.length_map]; omega), L ++ [⟨q, u, v, decide (0 + (j : Int) ∈ b1), roofOf b1 s1 (0 + (j : Int)), decide (0 + (j : Int) ∈ b2), roofOf b2 s2 (0 + (j : Int))⟩], by rw [List.length_append, hl]; rfl, by rw [upd_same, List.map_append]; rfl, fun y o hy => ?_, fun x hx => ?_, ?_⟩
      · rw [upd_ne (ne_of_none hy hD)]
        exact ff _ _ (e _ _ hy)
      · rcases List.mem_append.mp hx with hx | hx
        · obtain ⟨o, n1, n2, n3⟩ := ok x hx
          have o := o.ext ff
          exact ⟨⟨by rw [upd_ne n1]; exact o.q, by rw [upd_ne n2]; exact o.u, by rw [upd_ne n3]; exact o.v⟩, n1, n2, n3⟩
        · rw [List.mem_singleton.mp hx]
          exact ⟨⟨by rw [upd_ne nDq]; exact upd_same, by rw [upd_ne nDu]; exact (f4.trans f5) _ _ hu, by rw [upd_ne nDv]; exact f5 _ _ hv⟩, nDq, nDu, nDv⟩
      · rw [List.map_append, eq]
        show _ = (upL 0 (j + 1)).map _
        unfold upL
        rw [List.range_succ, List.map_append, List.map_append]
        rfl
    rintro G ⟨L, hl, hd, e, ok, eq⟩
    obtain ⟨le, mo⟩ := offs eq
    replace m1 := m1.ext e
    replace m2 := m2.ext e
    replace p1 := p1.ext e
    -- less
    refine ⟨_, rfl, D, rfl, ⟨_, SqL.of hd⟩, fun D2 hD2 => compL L (fun x => V.ref x.q) offL (fun x => V.ref x.q) (SqL.of hd) hD2 (by omega) (fun z H' R hz f qq => ?_) (fun z H' R _ f qq => ⟨_, rfl, qq⟩) ?_⟩
    · have o := (ok z hz).1.ext f
      unfold offL at qq
      refine ⟨_, rfl, z.q, _, _, _, rfl, rfl, SqL.of o.q, rfl, z.u, _, _, _, rfl, rfl, SqL.of o.u, rfl, _, rfl, ?_⟩
      cases ha : z.a with
      | false =>
        rw [ha, Bool.false_and, Bool.false_or] at qq
        refine iteF (iteF ?_)
        refine ⟨_, rfl, z.q, _, _, _, rfl, rfl, SqL.of o.q, rfl, z.u, _, _, _, rfl, rfl, SqL.of o.u, rfl, _, rfl, ?_⟩
        cases hb : z.b with
        | false => rw [hb] at qq; exact iteF qq
        | true => rw [hb] at qq; exact iteT ⟨_, rfl, z.q, _, _, _, rfl, rfl, SqL.of o.q, rfl, z.v, _, _, _, rfl, rfl, SqL.of o.v, rfl, _, rfl, qq⟩
      | true =>
        refine iteT ⟨_, rfl, z.q, _, _, _, rfl, rfl, SqL.of o.q, rfl, z.v, _, _, _, rfl, rfl, SqL.of o.v, rfl, _, rfl, ?_⟩
        cases hc : z.c with
        | false => rw [ha, hc] at qq; exact iteT qq
        | true =>
          rw [ha, hc, Bool.not_true, Bool.and_false, Bool.false_or] at qq
          refine iteF ?_
          refine ⟨_, rfl, z.q, _, _, _, rfl, rfl, SqL.of o.q, rfl, z.u, _, _, _, rfl, rfl, SqL.of o.u, rfl, _, rfl, ?_⟩
          cases hb : z.b with
          | false => rw [hb] at qq; exact iteF qq
          | true => rw [hb] at qq; exact iteT ⟨_, rfl, z.q, _, _, _, rfl, rfl, SqL.of o.q, rfl, z.v, _, _, _, rfl, rfl, SqL.of o.v, rfl, _, rfl, qq⟩
    have oks : ∀ (t : Ot → Bool) (H' : Hp), Ext G H' → ∀ x ∈ L.filter t, OtAt H' x := fun t H' f x hx => (ok x (List.mem_filter.mp hx).1).1.ext f
    have f1' := Ext.upd (o := .lst ((L.filter offL).map fun x => V.ref x.q)) hD2
    refine ⟨(by show 0 ≤ sizeLine; decide), fun l nl => eqd_outs (SqL.of (Ext.upd nl _ _ upd_same)) (oks offL _ (f1'.trans (Ext.upd nl))) (SqL.of upd_same) ?_⟩
    rw [le]
    generalize hG3 : upd (upd G D2 _) l _ = G3 at *
    have g3 : Ext G G3 := by rw [← hG3]; exact f1'.trans (Ext.upd nl)
    replace hd := g3 _ _ hd
    -- more
    refine ⟨_, rfl, D, rfl, ⟨_, SqL.of hd⟩, fun D3 hD3 => compL L (fun x => V.ref x.q) offM (fun x => V.ref x.q) (SqL.of hd) hD3 (by omega) (fun z H' R hz f qq => ?_) (fun z H' R _ f qq => ⟨_, rfl, qq⟩) ?_⟩
    · have o := (ok z hz).1.ext (g3.trans f)
      unfold offM at qq
      refine ⟨_, rfl, z.q, _, _, _, rfl, rfl, SqL.of o.q, rfl, z.v, _, _, _, rfl, rfl, SqL.of o.v, rfl, _, rfl, ?_⟩
      cases hc : z.c with
      | false =>
        rw [hc, Bool.false_and, Bool.false_or] at qq
        refine iteF (iteF ?_)
        refine ⟨_, rfl, z.q, _, _, _, rfl, rfl, SqL.of o.q, rfl, z.v, _, _, _, rfl, rfl, SqL.of o.v, rfl, _, rfl, ?_⟩
        cases hd : z.d with
        | false => rw [hd] at qq; exact iteF qq
        | true => rw [hd] at qq; exact iteT ⟨_, rfl, z.q, _, _, _, rfl, rfl, SqL.of o.q, rfl, z.u, _, _, _, rfl, rfl, SqL.of o.u, rfl, _, rfl, qq⟩
      | true =>
        refine iteT ⟨_, rfl, z.q, _, _, _, rfl, rfl, SqL.of o.q, rfl, z.u, _, _, _, rfl, rfl, SqL.of o.u, rfl, _, rfl, ?_⟩
        cases ha : z.a with
        | false => rw [hc, ha] at qq; exact iteT qq
        | true =>
          rw [hc, ha, Bool.not_true, Bool.and_false, Bool.false_or] at qq
          refine iteF ?_
          refine ⟨_, rfl, z.q, _, _, _, rfl, rfl, SqL.of o.q, rfl, z.v, _, _, _, rfl, rfl, SqL.of o.v, rfl, _, rfl, ?_⟩
          cases hd : z.d with
          | false => rw [hd] at qq; exact iteF qq
          | true => rw [hd] at qq; exact iteT ⟨_, rfl, z.q, _, _, _, rfl, rfl, SqL.of o.q, rfl, z.u, _, _, _, rfl, rfl, SqL.of o.u, rfl, _, rfl, qq⟩
    have f3' := Ext.upd (o := .lst ((L.filter offM).map fun x => V.ref x.q)) hD3
    refine ⟨(by show 0 ≤ sizeLine; decide), fun l2 nl2 => eqd_outs (SqL.of (Ext.upd nl2 _ _ upd_same)) (oks offM _ (g3.trans (f3'.trans (Ext.upd nl2)))) (SqL.of upd_same) ?_⟩
    rw [mo]
    generalize hG4 : upd (upd G3 D3 _) l2 _ = G4 at *
    have g4 : Ext G G4 := by rw [← hG4]; exact g3.trans (f3'.trans (Ext.upd nl2))
    replace m1 := m1.ext g4
    replace m2 := m2.ext g4
    replace p1 := p1.ext g4
    clear hG3 hG4 f1' f3' oks hd g3 ok eq le mo
    obtain ⟨dx1, fl1, rv1, hx1, hf1, ho1⟩ := id m1
    obtain ⟨dx2, fl2, rv2, hx2, hf2, ho2⟩ := id m2
    -- told
    refine ⟨_, rfl, x1, dx1, _, rfl, hx1, lkWM, _, rfl, x1, x2, _, _, _, _, rfl, m1, m2, fun G5 g5 => ?_⟩
    refine ⟨_, rfl, x2, dx2, _, rfl, g5 _ _ hx2, lkWM, _, rfl, x2, x1, _, _, _, _, rfl, m2.ext g5, m1.ext g5, fun G6 g6 => ?_⟩
    have g56 := g5.trans g6
    refine ⟨_, rfl, _, rfl, mkEq (m1.ext g56) (m2.ext g56) ⟨_, rfl, _, rfl, neMk (m1.ext g56) (m2.ext g56) ⟨(by show 4 ≤ sizeLine; decide), fun tl ntl => ?_⟩⟩⟩
    have same : ((decide (ks (fun k => decide (k ∈ b1)) = ks fun k => decide (k ∈ b2))) && decide (ks (fun k => decide (k ∈ b1) || setO s1 k) = ks fun k => decide (k ∈ b2) || setO s2 k)) = ((wi (fun k => decide (k ∈ b1)) (fun k => decide (k ∈ b2)) && wi (fun k => decide (k ∈ b1) || setO s1 k) fun k => decide (k ∈ b2) || setO s2 k) && (wi (fun k => decide (k ∈ b2)) (fun k => decide (k ∈ b1)) && wi (fun k => decide (k ∈ b2) || setO s2 k) fun k => decide (k ∈ b1) || setO s1 k)) := by
      rw [wi_eq, wi_eq]
      cases wi (fun k => decide (k ∈ b1)) (fun k => decide (k ∈ b2)) <;> cases wi (fun k => decide (k ∈ b2)) (fun k => decide (k ∈ b1)) <;> cases wi (fun k => decide (k ∈ b1) || setO s1 k) (fun k => decide (k ∈ b2) || setO s2 k) <;> simp
    rw [same]
    have g7 := fun o => g56.trans (Ext.upd (o := o) ntl)
    refine ⟨fun σ' G => (∃ u0 u1 u2 u4 u5, σ' = [some (.ref a), some (.ref st), some (.ref q1), some (.ref q2), some (.ref x1), some (.ref x2), u0, u1, u2, some (.ref tl), u4, u5, none]) ∧ Ext G4 G ∧ ∃ a1 a2 a3 a4, G tl = some (.lst [.bl a1, a2, a3, a4]), ?_, ?_⟩
    · refine ⟨_, rfl, _, rfl, _, rfl, andV rfl rfl (andV rfl rfl ⟨_, rfl, (by show 4 ≤ sizeLine; decide), fun t2 nt2 => ?_⟩)⟩
      refine ned_bools (ns := [_, _, _, _]) (ms := [_, _, _, _]) (SqL.of (Ext.upd nt2 _ _ upd_same)) (SqL.of upd_same) ⟨_, rfl, iteFf (notSame rfl) ?_⟩
      exact ⟨⟨_, _, _, _, _, rfl⟩, (g7 _).trans (Ext.upd nt2), _, _, _, _, Ext.upd nt2 _ _ upd_same⟩
    clear same g7 g56 g5 g6
    rintro σ' G8 ⟨⟨u0, u1, u2, u4, u5, rfl⟩, g8, a1, a2, a3, a4, htl⟩
    replace m1 := m1.ext g8
    replace m2 := m2.ext g8
    replace p1 := p1.ext g8
    replace hx1 := g8 _ _ hx1
    replace hx2 := g8 _ _ hx2
    replace hf1 := hf1.ext g8
    -- a bool; within itself; the same made anew
    refine ⟨fun σ' G => σ' = [some (.ref a), some (.ref st), some (.ref q1), some (.ref q2), some (.ref x1), some (.ref x2), u0, u1, u2, some (.ref tl), u4, u5, none] ∧ Ext G8 G, ?_, ?_⟩
    · refine ⟨_, rfl, tl, _, _, _, rfl, rfl, SqL.of htl, rfl, _, _, _, _, true, rfl, .ty "bool", .base (.bl _), rfl, _, rfl, iteF ?_⟩
      refine ⟨_, rfl, x1, dx1, _, rfl, hx1, lkWM, _, rfl, x1, x1, _, _, _, _, rfl, m1, m1, fun G9 g9 => ⟨_, rfl, iteFf (by rw [wi_refl, wi_refl]; rfl) ?_⟩⟩
      refine ⟨_, rfl, _, rfl, q1, b1, s1, rfl, p1.ext g9, ib1, ir1, fun x3 G10 g10 m3 => mkEq (m1.ext (g9.trans g10)) m3 ⟨_, rfl, iteFf (by simp) ⟨rfl, g9.trans g10⟩⟩⟩
    rintro σ' G9 ⟨rfl, g9⟩
    -- every key
    refine ⟨_, rfl, by decide, by decide, fun D' hD' => compR 0 16 (fun _ => true) V.int hD' (by decide) noTest (fun z H' R _ e qq => ⟨_, rfl, qq⟩) ?_⟩
    rw [up16]
    refine fun r dr nr ndr ne => mkRx (.inl (SqL.of upd_same)) (Nat.lt_of_le_of_lt (ks_len _) (by decide)) (fun n hn => by have := (mem_ks.mp hn).1; omega) nr ndr ne fun G10 g10 rr => ⟨rfl, ?_⟩
    have rr : RtAt (He.ga K "Rights") G10 r fun _ => true := rr.congr fun z z0 z1 => by rw [has_ks z0 z1]
    have g11 := g9.trans ((Ext.upd hD').trans g10)
    replace m1 := m1.ext g11
    replace m2 := m2.ext g11
    replace hx1 := g11 _ _ hx1
    replace hx2 := g11 _ _ hx2
    replace hf1 := hf1.ext g11
    clear g11 g9 g10 hD' nr ndr ne p1 htl
    -- the least and the most
    refine ⟨fun σ' G => σ' = [some (.ref a), some (.ref st), some (.ref q1), some (.ref q2), some (.ref x1), some (.ref x2), u0, u1, u2, some (.ref tl), some (.ref r), u5, none] ∧ Ext G10 G, ?_, ?_⟩
    · refine ⟨rfl, fun r0 dr0 nr0 ndr0 ne0 => mkRx (ns := []) (.inr (T.e_Rights _)) (by decide) (by decide) nr0 ndr0 ne0 fun H1 e1 rr0 => ⟨rfl, ?_⟩⟩
      refine ⟨_, _, rfl, rr0, fun x H2 e2 mx => ?_⟩
      obtain ⟨dx, fl, rv, hx, _, _⟩ := id mx
      have e12 := e1.trans e2
      refine ⟨x, dx, _, rfl, hx, lkWM, _, rfl, x, x1, _, _, _, _, rfl, mx, m1.ext e12, fun H3 e3 => ⟨_, rfl, iteFf (by rw [wi_iff.mpr (fun z _ _ h => by simp at h), wi_iff.mpr (fun z _ _ h => by simp at h)]; rfl) ?_⟩⟩
      have e13 := e12.trans e3
      refine ⟨_, rfl, x2, dx2, _, rfl, e13 _ _ hx2, lkWM, rfl, _, rfl, r, _, rfl, rr.ext e13, fun y H4 e4 my => ?_⟩
      exact ⟨x2, y, _, _, _, _, rfl, (m2.ext e13).ext e4, my, fun H5 e5 => ⟨_, rfl, iteFf (by rw [wi_iff.mpr (fun z _ _ h => rfl), wi_iff.mpr (fun z _ _ h => rfl)]; rfl) ⟨rfl, e13.trans (e4.trans e5)⟩⟩⟩
    rintro σ' G11 ⟨rfl, g11⟩
    refine ⟨fun σ' G => σ' = [some (.ref a), some (.ref st), some (.ref q1), some (.ref q2), some (.ref x1), some (.ref x2), u0, u1, u2, some (.ref tl), some (.ref r), u5, none] ∧ Ext G10 G, ?_, ?_⟩
    · refine ⟨_, rfl, _, rfl, x1, _, dx1, _, _, rfl, g11 _ _ hx1, T.cl_Mask, T.na_Mask_floor, lkF, eqN (m1.ext g11) (hf1.ext g11) ⟨_, rfl, iteF ?_⟩⟩
      exact ⟨_, rfl, _, rfl, neN (m1.ext g11) (rr.ext g11) ⟨_, rfl, iteF ⟨rfl, g11⟩⟩⟩
    rintro σ' G12 ⟨rfl, g12⟩
    refine fun r0 dr0 nr0 ndr0 ne0 => mkRx (ns := []) (.inr (T.e_Rights _)) (by decide) (by decide) nr0 ndr0 ne0 fun H1 e1 rr0 => ⟨rfl, ?_⟩
    refine ⟨_, rfl, fun x dx nx ndx ne2 => mkMx (o := some _) rr0 ⟨r, rfl, rr.ext (g12.trans e1)⟩ nx ndx ne2 fun H2 e2 mx => ⟨rfl, rfl, rfl, fun y H3 e3 my => mkEq (mx.ext e3) my ?_⟩⟩
    have h1 : Al (fun k => decide (k ∈ ([] : List Int))) fun _ => false := fun k _ _ => by simp
    have h2 : Al (fun k => decide (k ∈ ([] : List Int)) || roofF (some fun _ => true) k) fun _ => true := fun k _ _ => by simp [roofF]
    rw [decide_eq_true h1.ks, decide_eq_true h2.ks]
    exact k H3
end
end K07

namespace K07
open PySem PySem.Spec PyProof.Rows L2 Ow
theorem facts {P : Program} {w : World} {K : PySem.W.Frag} {h : Heap} {mg : Str → Option Value} {f : Addr} (X : K.In h) (G : h.Ns mainGlobals mg) (hfa : mg ("law" : Str) = some (.ref f)) (c0 : Ow.SaysN fa fn fs ex K) :
    ∃ fd : FuncData, (∀ (s : Shared) (v : Value), BindsTo s fd ⟨[v], []⟩ [("_law_script", v)]) ∧ ∀ base : Heap, K.In base → base.Ns mainGlobals mg → FnOk P w K mg base CX0 12 f fd ["_law_script"] (spLaw K) := by
  have c := c0.d
  have cx := c0.x
  have T : Txt K mg :=
    { z_all := He.free_ok X G (c.fact 26 (f := .free "all") rfl),
      z_bool := He.free_ok X G (c.fact 27 (f := .free "bool") rfl),
      z_int := He.free_ok X G (c.fact 28 (f := .free "int") rfl),
      z_isinstance := He.free_ok X G (c.fact 29 (f := .free "isinstance") rfl),
      z_len := He.free_ok X G (c.fact 30 (f := .free "len") rfl),
      z_list := He.free_ok X G (c.fact 31 (f := .free "list") rfl),
      z_range := He.free_ok X G (c.fact 32 (f := .free "range") rfl),
      z_set := He.free_ok X G (c.fact 33 (f := .free "set") rfl),
      z_sorted := He.free_ok X G (c.fact 34 (f := .free "sorted") rfl),
      z_tuple := He.free_ok X G (c.fact 35 (f := .free "tuple") rfl),
      g_Rights := He.glo_ok X G (c.fact 11 (f := .glo "Rights") rfl),
      cl_Rights := He.cls_ok (c.fact 12 (f := .cls "Rights") rfl),
      mk_Rights := He.mkr_ok (c.fact 13 (f := .mkr "Rights") rfl),
      g_Mask := He.glo_ok X G (c.fact 14 (f := .glo "Mask") rfl),
      cl_Mask := He.cls_ok (c.fact 15 (f := .cls "Mask") rfl),
      mk_Mask := He.mkr_ok (c.fact 16 (f := .mkr "Mask") rfl),
      na_Rights_numbers := He.noat_ok (c.fact 17 (f := .noat "Rights" "numbers") rfl),
      na_Mask_floor := He.noat_ok (c.fact 18 (f := .noat "Mask" "floor") rfl),
      na_Mask_roof := He.noat_ok (c.fact 19 (f := .noat "Mask" "roof") rfl),
      m_Rights_or := He.meth_ok (c.fact 20 (f := .meth "Rights" "__or__") rfl),
      m_Rights_eq := He.meth_ok (c.fact 21 (f := .meth "Rights" "__eq__") rfl),
      m_Rights_within := He.meth_ok (c.fact 22 (f := .meth "Rights" "within") rfl),
      m_Mask_within := He.meth_ok (c.fact 23 (f := .meth "Mask" "within") rfl),
      m_Mask_eq := He.meth_ok (c.fact 24 (f := .meth "Mask" "__eq__") rfl),
      c_MOST := He.int_ok X G (c.fact 25 (f := .int "MOST" 15) rfl),
      i_Rights := Ow.isiB_ok (He.ba cx).1,
      sf_Rights := (He.ba (He.ba cx).2).1,
      e_Rights := Ow.emptyT_ok (He.ba (He.ba (He.ba cx).2).2).1,
      i_Mask := Ow.isiB_ok (He.ba (He.ba (He.ba (He.ba cx).2).2).2).1,
      sf_Mask := (He.ba (He.ba (He.ba (He.ba (He.ba cx).2).2).2).2).1,
      n1_Rights := (He.ba (He.ba (He.ba (He.ba (He.ba (He.ba cx).2).2).2).2).2).1,
      n2_Rights := of_decide_eq_true (He.ba (He.ba (He.ba (He.ba (He.ba (He.ba (He.ba cx).2).2).2).2).2).2).1,
      n3_Rights := of_decide_eq_true (He.ba (He.ba (He.ba (He.ba (He.ba (He.ba (He.ba (He.ba cx).2).2).2).2).2).2).2).1,
      nf_MR := (He.ba (He.ba (He.ba (He.ba (He.ba (He.ba (He.ba (He.ba (He.ba cx).2).2).2).2).2).2).2).2).1,
      n4_MR := of_decide_eq_true (He.ba (He.ba (He.ba (He.ba (He.ba (He.ba (He.ba (He.ba (He.ba (He.ba cx).2).2).2).2).2).2).2).2).2).1,
      ne_Mask := Ow.neB2_ok (He.ba (He.ba (He.ba (He.ba (He.ba (He.ba (He.ba (He.ba (He.ba (He.ba (He.ba cx).2).2).2).2).2).2).2).2).2).2).1,
      s_keep := Ow.statB_ok (He.ba (He.ba (He.ba (He.ba (He.ba (He.ba (He.ba (He.ba (He.ba (He.ba (He.ba (He.ba cx).2).2).2).2).2).2).2).2).2).2).2).1,
      s_only := Ow.statB_ok (He.ba (He.ba (He.ba (He.ba (He.ba (He.ba (He.ba (He.ba (He.ba (He.ba (He.ba (He.ba (He.ba cx).2).2).2).2).2).2).2).2).2).2).2).2).1,
      s_adding := Ow.statB_ok (He.ba (He.ba (He.ba (He.ba (He.ba (He.ba (He.ba (He.ba (He.ba (He.ba (He.ba (He.ba (He.ba cx).2).2).2).2).2).2).2).2).2).2).2).2).2 }
  obtain ⟨fdis_key, Fis_key⟩ := c.def_ 0 (d := dis_key) rfl
  obtain ⟨fdRights_init, FRights_init⟩ := c.def_ 1 (d := dRights_init) rfl
  obtain ⟨fdRights_within, FRights_within⟩ := c.def_ 2 (d := dRights_within) rfl
  obtain ⟨fdRights_or, FRights_or⟩ := c.def_ 3 (d := dRights_or) rfl
  obtain ⟨fdRights_eq, FRights_eq⟩ := c.def_ 4 (d := dRights_eq) rfl
  obtain ⟨fdjoined_roof, Fjoined_roof⟩ := c.def_ 5 (d := djoined_roof) rfl
  obtain ⟨fdMask_init, FMask_init⟩ := c.def_ 6 (d := dMask_init) rfl
  obtain ⟨fdMask_within, FMask_within⟩ := c.def_ 7 (d := dMask_within) rfl
  obtain ⟨fdMask_eq, FMask_eq⟩ := c.def_ 8 (d := dMask_eq) rfl
  obtain ⟨fd_law_start, F_law_start⟩ := c.def_ 9 (d := d_law_start) rfl
  obtain ⟨fd_law_draw, F_law_draw⟩ := c.def_ 10 (d := d_law_draw) rfl
  obtain ⟨fd_law_some, F_law_some⟩ := c.def_ 11 (d := d_law_some) rfl
  obtain ⟨fd_law_parts, F_law_parts⟩ := c.def_ 12 (d := d_law_parts) rfl
  obtain ⟨fd_law_made, F_law_made⟩ := c.def_ 13 (d := d_law_made) rfl
  obtain ⟨fd_law_turned, F_law_turned⟩ := c.def_ 14 (d := d_law_turned) rfl
  obtain ⟨fd_law_moved, F_law_moved⟩ := c.def_ 15 (d := d_law_moved) rfl
  obtain ⟨fd_law_outs, F_law_outs⟩ := c.def_ 16 (d := d_law_outs) rfl
  obtain ⟨fdlaw, Flaw⟩ := c.def_ 17 (d := dlaw) rfl
  obtain ⟨fdMask_keep, FMask_keep⟩ := c0.def_ 0 (d := dMask_keep) rfl
  obtain ⟨fdMask_only, FMask_only⟩ := c0.def_ 1 (d := dMask_only) rfl
  obtain ⟨fdMask_adding, FMask_adding⟩ := c0.def_ 2 (d := dMask_adding) rfl
  have el := hfa.symm.trans (He.glo_ok X G (c.fact 10 (f := .glo "law") rfl))
  cases el
  have bl := FunD.bindsA (ps := ["_law_script"]) Flaw (fun _ _ _ _ _ _ us hl => match us, hl with | [_], _ => rfl)
  refine ⟨fdlaw, fun s v => bl s [v] rfl, fun base _ _ => ?_⟩
  have Gis_key : Ow.Glob P w K mg base CX0 1 "is_key" ["number"] Ow.spIsKey := ⟨_, _, He.glo_ok X G (c.fact 0 (f := .glo "is_key") rfl), Fis_key.kp, Fis_key.bindsN (ps := ["number"]) (fun _ _ _ _ _ _ us hl => match us, hl with | [_], _ => rfl), ok_is_key Fis_key T ⟩
  obtain ⟨dsI, vdI, bdI⟩ := FRights_init.binds1 (ps := ["self", "numbers"]) 2 1 (by intro z; cases z) rfl (fun _ _ _ _ _ _ _ us its hu hi => match us, its, hu, hi with | [_, _], [_], _, _ => ⟨_, rfl, rfl⟩)
  have GRights : Ow.Maker P w K mg base CX0 2 "Rights" (He.ga K "Rights") ["self", "numbers"] [] (Ow.spInit K (He.ga K "Rights")) := ⟨_, _, dsI, T.g_Rights, T.mk_Rights, bdI, vdI, ok_Rights_init FRights_init T Gis_key⟩
  obtain ⟨dsJ, vdJ, bdJ⟩ := FRights_init.binds1 (ps := ["self", "numbers"]) 1 0 (by intro z; cases z) rfl (fun _ _ _ _ _ _ _ us its hu hi => match us, its, hu, hi with | [_], [_], _, _ => ⟨_, rfl, rfl⟩)
  have GRights0 : Ow.Maker P w K mg base CX0 2 "Rights" (He.ga K "Rights") ["self", "numbers"] [.ref (He.dflAt ("Rights", some "__init__") 0 K)] (Ow.spInit K (He.ga K "Rights")) := ⟨_, _, dsJ, T.g_Rights, T.mk_Rights, bdJ, vdJ, ok_Rights_init FRights_init T Gis_key⟩
  have GR_or : Ow.Dun P w K mg base CX0 4 (He.ga K "Rights") "__or__" ["self", "other"] (Ow.spBin (He.ga K "Rights") (· || ·)) := ⟨_, _, T.m_Rights_or.1, T.m_Rights_or.2, T.m_Rights_or.3, FRights_or.bindsN (ps := ["self", "other"]) (fun _ _ _ _ _ _ us hl => match us, hl with | [_, _], _ => rfl), ok_Rights_or FRights_or T GRights⟩
  have GR_eq : Ow.Dun P w K mg base CX0 1 (He.ga K "Rights") "__eq__" ["self", "other"] (Ow.spEqR (He.ga K "Rights")) := ⟨_, _, T.m_Rights_eq.1, T.m_Rights_eq.2, T.m_Rights_eq.3, FRights_eq.bindsN (ps := ["self", "other"]) (fun _ _ _ _ _ _ us hl => match us, hl with | [_, _], _ => rfl), ok_Rights_eq FRights_eq T ⟩
  have GR_within : Ow.Dun P w K mg base CX0 1 (He.ga K "Rights") "within" ["self", "other"] (Ow.spWithin (He.ga K "Rights")) := ⟨_, _, T.m_Rights_within.1, T.m_Rights_within.2, T.m_Rights_within.3, FRights_within.bindsN (ps := ["self", "other"]) (fun _ _ _ _ _ _ us hl => match us, hl with | [_, _], _ => rfl), ok_Rights_within FRights_within T ⟩
  have G_law_start : Ow.Glob P w K mg base CX0 1 "_law_start" ["_law_script"] (Ow.spStart K) := ⟨_, _, He.glo_ok X G (c.fact 2 (f := .glo "_law_start") rfl), F_law_start.kp, F_law_start.bindsN (ps := ["_law_script"]) (fun _ _ _ _ _ _ us hl => match us, hl with | [_], _ => rfl), ok__law_start F_law_start T ⟩
  have G_law_draw : Ow.Glob P w K mg base CX0 1 "_law_draw" ["_law_state", "_law_many"] Ow.spDraw := ⟨_, _, He.glo_ok X G (c.fact 3 (f := .glo "_law_draw") rfl), F_law_draw.kp, F_law_draw.bindsN (ps := ["_law_state", "_law_many"]) (fun _ _ _ _ _ _ us hl => match us, hl with | [_, _], _ => rfl), ok__law_draw F_law_draw T ⟩
  have G_law_some : Ow.Glob P w K mg base CX0 2 "_law_some" ["_law_state", "_law_most"] Ow.spSome := ⟨_, _, He.glo_ok X G (c.fact 4 (f := .glo "_law_some") rfl), F_law_some.kp, F_law_some.bindsN (ps := ["_law_state", "_law_most"]) (fun _ _ _ _ _ _ us hl => match us, hl with | [_, _], _ => rfl), ok__law_some F_law_some T G_law_draw⟩
  have GR_eqO : Ow.Dun P w K mg base CX0 1 (He.ga K "Rights") "__eq__" ["self", "other"] (Ow.spEqO (He.ga K "Rights")) := ⟨_, _, T.m_Rights_eq.1, T.m_Rights_eq.2, T.m_Rights_eq.3, FRights_eq.bindsN (ps := ["self", "other"]) (fun _ _ _ _ _ _ us hl => match us, hl with | [_, _], _ => rfl), ok_Rights_eqO FRights_eq T⟩
  have Gjoined_roof : Ow.Glob P w K mg base CX0 5 "joined_roof" ["first", "second"] (Ow.spJoined (He.ga K "Rights")) := ⟨_, _, He.glo_ok X G (c.fact 1 (f := .glo "joined_roof") rfl), Fjoined_roof.kp, Fjoined_roof.bindsN (ps := ["first", "second"]) (fun _ _ _ _ _ _ us hl => match us, hl with | [_, _], _ => rfl), ok_joined_roof Fjoined_roof T GR_or⟩
  obtain ⟨dsM, vdM, bdM⟩ := FMask_init.binds1 (ps := ["self", "floor", "roof"]) 3 1 (by intro z; cases z) rfl (fun _ _ _ _ _ _ _ us its hu hi => match us, its, hu, hi with | [_, _, _], [_], _, _ => ⟨_, rfl, rfl⟩)
  have GMask : Ow.Maker P w K mg base CX0 6 "Mask" (He.ga K "Mask") ["self", "floor", "roof"] [] (Ow.spMInit (He.ga K "Mask") (He.ga K "Rights")) := ⟨_, _, dsM, T.g_Mask, T.mk_Mask, bdM, vdM, ok_Mask_init FMask_init T Gjoined_roof⟩
  obtain ⟨dsM1, vdM1, bdM1⟩ := FMask_init.binds1 (ps := ["self", "floor", "roof"]) 2 0 (by intro z; cases z) rfl (fun _ _ _ _ _ _ _ us its hu hi => match us, its, hu, hi with | [_, _], [_], _, _ => ⟨_, rfl, rfl⟩)
  have GMask1 : Ow.Maker P w K mg base CX0 6 "Mask" (He.ga K "Mask") ["self", "floor", "roof"] [.non] (Ow.spMInit (He.ga K "Mask") (He.ga K "Rights")) := ⟨_, _, dsM1, T.g_Mask, T.mk_Mask, bdM1, vdM1, ok_Mask_init FMask_init T Gjoined_roof⟩
  have GS_keep : Ow.Stat P w K mg base CX0 8 (He.ga K "Mask") "keep" [] (Ow.spKeep (He.ga K "Mask") (He.ga K "Rights")) := ⟨_, _, T.s_keep, FMask_keep.kp, FMask_keep.bindsN (ps := []) (fun _ _ _ _ _ _ us hl => match us, hl with | [], _ => rfl), ok_Mask_keep FMask_keep T GRights0 GMask1⟩
  have GS_only : Ow.Stat P w K mg base CX0 8 (He.ga K "Mask") "only" ["rights"] (Ow.spOnly (He.ga K "Mask") (He.ga K "Rights")) := ⟨_, _, T.s_only, FMask_only.kp, FMask_only.bindsN (ps := ["rights"]) (fun _ _ _ _ _ _ us hl => match us, hl with | [_], _ => rfl), ok_Mask_only FMask_only T GRights0 GMask⟩
  have GS_adding : Ow.Stat P w K mg base CX0 8 (He.ga K "Mask") "adding" ["rights"] (Ow.spAdding (He.ga K "Mask") (He.ga K "Rights")) := ⟨_, _, T.s_adding, FMask_adding.kp, FMask_adding.bindsN (ps := ["rights"]) (fun _ _ _ _ _ _ us hl => match us, hl with | [_], _ => rfl), ok_Mask_adding FMask_adding T GMask1⟩
  have GM_eq : Ow.Dun P w K mg base CX0 3 (He.ga K "Mask") "__eq__" ["self", "other"] (Ow.spMEq (He.ga K "Mask") (He.ga K "Rights")) := ⟨_, _, T.m_Mask_eq.1, T.m_Mask_eq.2, T.m_Mask_eq.3, FMask_eq.bindsN (ps := ["self", "other"]) (fun _ _ _ _ _ _ us hl => match us, hl with | [_, _], _ => rfl), ok_Mask_eq FMask_eq T GR_eq GR_eqO⟩
  have GM_within : Ow.Dun P w K mg base CX0 3 (He.ga K "Mask") "within" ["self", "other"] (Ow.spMWithin (He.ga K "Mask") (He.ga K "Rights")) := ⟨_, _, T.m_Mask_within.1, T.m_Mask_within.2, T.m_Mask_within.3, FMask_within.bindsN (ps := ["self", "other"]) (fun _ _ _ _ _ _ us hl => match us, hl with | [_, _], _ => rfl), ok_Mask_within FMask_within T GR_within⟩
  have GM_eqN : Ow.Dun P w K mg base CX0 3 (He.ga K "Mask") "__eq__" ["self", "other"] (Ow.spMEqN (He.ga K "Mask") (He.ga K "Rights")) := ⟨_, _, T.m_Mask_eq.1, T.m_Mask_eq.2, T.m_Mask_eq.3, FMask_eq.bindsN (ps := ["self", "other"]) (fun _ _ _ _ _ _ us hl => match us, hl with | [_, _], _ => rfl), ok_Mask_eqN FMask_eq T GR_eq GR_eqO⟩
  have G_law_made : Ow.Glob P w K mg base CX0 8 "_law_made" ["_law_parts_here"] (Ow.spMade (He.ga K "Mask") (He.ga K "Rights")) := ⟨_, _, He.glo_ok X G (c.fact 6 (f := .glo "_law_made") rfl), F_law_made.kp, F_law_made.bindsN (ps := ["_law_parts_here"]) (fun _ _ _ _ _ _ us hl => match us, hl with | [_], _ => rfl), ok__law_made F_law_made T GRights GMask GMask1⟩
  have G_law_turned : Ow.Glob P w K mg base CX0 1 "_law_turned" ["_law_parts_here", "_law_held"] (Ow.spTurned K) := ⟨_, _, He.glo_ok X G (c.fact 7 (f := .glo "_law_turned") rfl), F_law_turned.kp, F_law_turned.bindsN (ps := ["_law_parts_here", "_law_held"]) (fun _ _ _ _ _ _ us hl => match us, hl with | [_, _], _ => rfl), ok__law_turned F_law_turned T ⟩
  have G_law_parts : Ow.Glob P w K mg base CX0 3 "_law_parts" ["_law_state"] Ow.spPartsS := ⟨_, _, He.glo_ok X G (c.fact 5 (f := .glo "_law_parts") rfl), F_law_parts.kp, F_law_parts.bindsN (ps := ["_law_state"]) (fun _ _ _ _ _ _ us hl => match us, hl with | [_], _ => rfl), ok__law_parts F_law_parts T G_law_draw G_law_some⟩
  have G_law_moved : Ow.Glob P w K mg base CX0 2 "_law_moved" ["_law_state", "_law_part"] spMoved := ⟨_, _, He.glo_ok X G (c.fact 8 (f := .glo "_law_moved") rfl), F_law_moved.kp, F_law_moved.bindsN (ps := ["_law_state", "_law_part"]) (fun _ _ _ _ _ _ us hl => match us, hl with | [_, _], _ => rfl), ok__law_moved F_law_moved T G_law_draw⟩
  have G_law_outs : Ow.Glob P w K mg base CX0 2 "_law_outs" ["_law_parts_here", "_law_key"] spOuts := ⟨_, _, He.glo_ok X G (c.fact 9 (f := .glo "_law_outs") rfl), F_law_outs.kp, F_law_outs.bindsN (ps := ["_law_parts_here", "_law_key"]) (fun _ _ _ _ _ _ us hl => match us, hl with | [_, _], _ => rfl), ok__law_outs F_law_outs T G_law_turned⟩
  exact ok_law Flaw T G_law_start G_law_draw G_law_parts G_law_made G_law_moved G_law_outs GRights GRights0 GMask GS_keep GS_only GS_adding GM_eq GM_eqN GM_within
end K07
open PySem PySem.W PySem.Calls PyProof.Rows
set_option maxRecDepth 100000 in
set_option maxHeartbeats 0 in
theorem PySem.Challenge.cw_keysfewest_k07_masks_within_holds : PySem.Challenge.rw_keysfewest_k07_masks_within.Holds := by
  w_on; o_law
  refine HandSHeadRun.head_any (r := OpenLaw.row PySem.Challenge.rw_keysfewest_k07_masks_within) (q := view (OpenLaw.row PySem.Challenge.rw_keysfewest_k07_masks_within).prog [22]) (H := K07.hk) (ob := K07.ob) (M := 4000) (loose := K07.loose) (d := HandSHeadRun.topDef (OpenLaw.row PySem.Challenge.rw_keysfewest_k07_masks_within).prog 22) (kwd := []) K07.ob_eq
    (by kernel_rfl) (fun s => by kernel_rfl) K07.run (by kernel_rfl) (by kernel_rfl) (by kernel_rfl) (by rfl) (by first | assumption | decide +kernel) (by decide +kernel) ⟨rfl, rfl, rfl, rfl, rfl, by decide +kernel⟩ ?hw ?hc
  case hw => w_witness2
  case hc =>
    refine L2.walk_ofE (l := PySem.Challenge.rw_keysfewest_k07_masks_within) (n := 63) (k := 12) (x := "_law_script") (CX := L2.CX0) rfl (by decide) (by kernel_rfl) ⟨rfl, by decide, by decide⟩ ?F (fun _ _ _ _ z => z)
    intro w mg fa h Y G hmg0
    obtain ⟨K, KX, c⟩ := Y
    have hmg : mg ("law" : PySem.Str) = some (.ref fa) := by
      have e : (HandSHeadRun.topDef (OpenLaw.row PySem.Challenge.rw_keysfewest_k07_masks_within).prog 22).name = ("law" : PySem.Str) := by kernel_rfl
      rw [← e]
      exact hmg0
    obtain ⟨fd, hb, hF⟩ := K07.facts (P := (PySem.Challenge.rw_keysfewest_k07_masks_within).prog) (w := w) KX G hmg c
    exact ⟨K, fd, K07.spLaw K, KX, hb, fun H a ns hl _ hS => ⟨a, ns, rfl, hS, hl, fun _ => rfl⟩, hF⟩
