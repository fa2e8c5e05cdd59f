import PyProof.Rows.All
import Wide.All
import OpenK.AllK
import Wide.FinOn
import KE.KStateDown
import HandS.ForMost
import HandS.Exc
import HandS.Strs
import HandS.SetFor
import HandS.TupAny
import HandS.OwnEq
import HandS.IsInst
import HandS.Property
import HandS.SortInts
import HandS.Star
import HandS.Defaults
import HandS.Wide
import HandS.Head2
import HandS.HeadEnd
import HandS.HeadHook2
import HandS.Codes
import PySem.Challenge.RW_keysfewest_k04_whole_rights_fold
set_option Elab.async false
set_option linter.all false
set_option maxRecDepth 100000
set_option maxHeartbeats 4000000
/-! Own rules: operators, in, len, == and truth by the text's own methods; set(list). -/
namespace Ow
open PySem PySem.Spec PyProof.Rows L2
section
variable {X : Cx} {pins : List (Addr × Obj)} {σ : L2.St} {s' : Shared} {Q : VK} {u : Value}
theorem relNI {v : V} (r : RelV v u) : u ≠ .notImplemented := by
  rintro rfl
  cases v
  · cases (r : Value.notImplemented = Value.none)
  · cases (r : Value.notImplemented = Value.bool _)
  · obtain ⟨_, e⟩ := (r : ∃ t, Value.notImplemented = Value.int _ t); cases e
  · obtain ⟨_, e⟩ := (r : ∃ t, Value.notImplemented = Value.str _ t); cases e
  · obtain ⟨_, e⟩ := (r : ∃ t, Value.notImplemented = Value.bytes _ t); cases e
  · obtain ⟨_, e⟩ := (r : ∃ t, Value.notImplemented = Value.float _ t); cases e
  · cases (r : Value.notImplemented = Value.ref _)
  · cases (r : Value.notImplemented = Value.type _)
theorem backOf {R : Value → Shared → Prop} (h : u ≠ .notImplemented) (q : R u s') : PySem.W.CmpBack R u s' := by
  cases u <;> first | exact absurd rfl h | exact q
theorem epBack (h : EP X pins σ Q u s') : PySem.W.CmpBack (EP X pins σ Q) u s' := by
  obtain ⟨v, H', I, r, q⟩ := h
  exact backOf (relNI r) ⟨v, H', I, r, q⟩
end
section
variable {X : Cx} {CX : CXT} {k : Nat} {C f : Addr} {fd : FuncData} {ps : List Str} {sp : Sp} {E : XK}
/-- a op b, both of the class at C: the promise of the class's own def -/
def rOwn (C : Addr) (sp : Sp) (E : XK) : R2 := fun x y H Q => ∃ a b dx dy fs gs, x = .ref a ∧ y = .ref b ∧ H a = some (.ins C dx fs) ∧ H b = some (.ins C dy gs) ∧ sp [.ref a, .ref b] H Q E
theorem op_own {op : Operator} (F : FnOk X.prog X.w X.K X.mg X.base CX k f fd ps sp) (hr : Room k X.A) (hb : Binds X.K fd ps []) (hx : Passes CX X E) (hc : PySem.W.selfFirst X.K C = true)
    (hs : PySem.W.findIn X.K (.ref C) (PySem.dunder op.info.2) = some (some (.ref f))) (hf : PySem.W.isFn X.K (.ref f) = true) : OpR X (binaryOp op) (rOwn C sp E) := by
  intro pins s σ H x y v u Q I rx ry h
  obtain ⟨a, b, dx, dy, fs, gs, rfl, rfl, ha, hb', q⟩ := h
  cases rx
  cases ry
  obtain ⟨mA, J, _⟩ := ins_get I.hok ha
  obtain ⟨mB, J', _⟩ := ins_get I.hok hb'
  obtain ⟨oa, J, _⟩ := J.look
  obtain ⟨ob, J', _⟩ := J'.look
  obtain ⟨m, hF⟩ := I.fr
  refine PySem.W.binop_K hF I.ok.mod.kin J J'.type hc hs hf ?_
  exact wpAny_mono (run_fn (us := [.ref a, .ref b]) (vs := [.ref a, .ref b]) F hr hb .nil hx I (.cons rfl (.cons rfl .nil)) q) (fun _ _ z => epBack z) fun _ _ z => z
/-- x in o, o of the class at C with its own __contains__ -/
def rOwnIn (C : Addr) (neg : Bool) (sp : Sp) (E : XK) : R2 := fun x y H Q => ∃ b dy gs, y = .ref b ∧ H b = some (.ins C dy gs) ∧ sp [.ref b, x] H (fun v H' => ∃ c, v = .bl c ∧ Q (.bl (if neg then !c else c)) H') E
theorem op_ownIn (F : FnOk X.prog X.w X.K X.mg X.base CX k f fd ps sp) (hr : Room k X.A) (hb : Binds X.K fd ps []) (hx : Passes CX X E)
    (hs : PySem.W.findIn X.K (.ref C) "__contains__" = some (some (.ref f))) (hf : PySem.W.isFn X.K (.ref f) = true) : OpR X (compareOp .In) (rOwnIn C false sp E) := by
  intro pins s σ H x y v u Q I rx ry h
  obtain ⟨b, dy, gs, rfl, hb', q⟩ := h
  cases ry
  obtain ⟨mB, J', _⟩ := ins_get I.hok hb'
  obtain ⟨ob, J', _⟩ := J'.look
  obtain ⟨m, hF⟩ := I.fr
  refine PySem.W.in_K hF I.ok.mod.kin J' hs hf (wpAny_mono (run_fn (us := [.ref b, v]) (vs := [.ref b, x]) F hr hb .nil hx I (.cons rfl (.cons rx .nil)) q) (fun r s' z => ?_) fun _ _ z => z)
  obtain ⟨w, H', I', rw', c, rfl, q'⟩ := z
  cases rw'
  exact wpAny_truthy_bool ⟨.bl c, H', I', rfl, q'⟩
theorem op_ownNotIn (F : FnOk X.prog X.w X.K X.mg X.base CX k f fd ps sp) (hr : Room k X.A) (hb : Binds X.K fd ps []) (hx : Passes CX X E)
    (hs : PySem.W.findIn X.K (.ref C) "__contains__" = some (some (.ref f))) (hf : PySem.W.isFn X.K (.ref f) = true) : OpR X (compareOp .NotIn) (rOwnIn C true sp E) := by
  intro pins s σ H x y v u Q I rx ry h
  obtain ⟨b, dy, gs, rfl, hb', q⟩ := h
  cases ry
  obtain ⟨mB, J', _⟩ := ins_get I.hok hb'
  obtain ⟨ob, J', _⟩ := J'.look
  obtain ⟨m, hF⟩ := I.fr
  refine PySem.W.notIn_K hF I.ok.mod.kin J' hs hf (wpAny_mono (run_fn (us := [.ref b, v]) (vs := [.ref b, x]) F hr hb .nil hx I (.cons rfl (.cons rx .nil)) q) (fun r s' z => ?_) fun _ _ z => z)
  obtain ⟨w, H', I', rw', c, rfl, q'⟩ := z
  cases rw'
  exact wpAny_truthy_bool ⟨.bl (!c), H', I', rfl, q'⟩
/-- a def called below the body, at one unit more -/
theorem run_in1 {pins : List (Addr × Obj)} {σ : L2.St} {H : Hp} {s : Shared} {Q : VK} {us : List Value} {vs : List V} (F : FnOk X.prog X.w X.K X.mg X.base CX k f fd ps sp) (hr : Room (k + 1) X.A) (hb : Binds X.K fd ps []) (hx : Passes CX X E)
    (I : Inv X pins σ H s) (r : Vals vs us) (h : sp vs H Q E) : wpAny (model X.prog X.w) X.A.in1 (call (.ref f) us) (EP X pins σ Q) X.xe s := by
  have hl : (us ++ []).length = ps.length := by rw [List.append_nil, ← r.length]; exact F.len _ _ _ _ h
  have hbs := hb s us I.kIn hl
  rw [List.append_nil] at hbs
  refine wpAny_call (codeAny_mono (F.run X.A.in1 X.stack s H ⟨us, []⟩ us vs Q E hr.in1 I.env0.in1 hbs r h) fun r s' hq => ?_)
  cases r with
  | error e => exact hx pins σ H s e s' I hq
  | ok fl =>
    cases fl with
    | ret u => exact I.after hq
    | next => exact False.elim hq
    | brk => exact False.elim hq
    | cont => exact False.elim hq
/-- len(o) by the class's own __len__ -/
def rOwnLen (C : Addr) (sp : Sp) (E : XK) : List V → Hp → VK → Prop := fun xs H Q => ∃ a dx fs, xs = [.ref a] ∧ H a = some (.ins C dx fs) ∧ sp [.ref a] H (fun v H' => ∃ n : Nat, v = .int n ∧ n < 2 ^ 63 ∧ Q (.int n) H') E
theorem call_ownLen (F : FnOk X.prog X.w X.K X.mg X.base CX k f fd ps sp) (hr : Room (k + 1) X.A) (hb : Binds X.K fd ps []) (hx : Passes CX X E)
    (hs : PySem.W.findIn X.K (.ref C) "__len__" = some (some (.ref f))) (hf : PySem.W.isFn X.K (.ref f) = true) : CallR X (.builtin "len") (rOwnLen C sp E) := by
  intro pins s σ H xs us Q I r h
  obtain ⟨a, dx, fs, rfl, ha, q⟩ := h
  rw [Vals.ref1 r]
  obtain ⟨mA, J, _⟩ := ins_get I.hok ha
  obtain ⟨oa, J, _⟩ := J.look
  obtain ⟨m, hF⟩ := I.fr
  refine PySem.W.len_K hF I.ok.mod.kin J hs hf (wpAny_mono (run_in1 (us := [.ref a]) (vs := [.ref a]) F hr hb hx I (.cons rfl .nil) q) (fun v s' z => ?_) fun _ _ z => z)
  obtain ⟨w, H', I', rw', n, rfl, hn, q'⟩ := z
  obtain ⟨t, rfl⟩ := rw'
  exact ⟨⟨by omega, by omega⟩, ⟨.int n, H', I'.tok _, ⟨_, rfl⟩, q'⟩⟩
/-- a == b, a of the class at C with its own __eq__, b of a class or type that is no subclass of it -/
def rOwnEq (C : Addr) (sp : Sp) (E : XK) : R2 := fun x y H Q => ∃ a b dx dy fs gs, x = .ref a ∧ y = .ref b ∧ H a = some (.ins C dx fs) ∧ H b = some (.ins C dy gs) ∧ sp [.ref a, .ref b] H Q E
theorem op_ownEq (F : FnOk X.prog X.w X.K X.mg X.base CX k f fd ps sp) (hr : Room k X.A) (hb : Binds X.K fd ps []) (hx : Passes CX X E)
    (hs : PySem.W.findIn X.K (.ref C) "__eq__" = some (some (.ref f))) (hf : PySem.W.isFn X.K (.ref f) = true) : OpR X (compareOp .Eq) (rOwnEq C sp E) := by
  intro pins s σ H x y v u Q I rx ry h
  obtain ⟨a, b, dx, dy, fs, gs, rfl, rfl, ha, hb', q⟩ := h
  cases rx
  cases ry
  obtain ⟨mA, J, _⟩ := ins_get I.hok ha
  obtain ⟨mB, J', _⟩ := ins_get I.hok hb'
  obtain ⟨oa, J, _⟩ := J.look
  obtain ⟨ob, J', _⟩ := J'.look
  obtain ⟨m, hF⟩ := I.fr
  show wpAny (model X.prog X.w) X.A (richCompare .Eq (.ref a) (.ref b)) (EP X pins σ Q) X.xe s
  refine PySem.W.cmp_K (op := .Eq) (tb := .ref C) hr.units0 hF I.ok.mod.kin J J'.type (by simp [PySem.W.notFirst]) hs hf ?_
  exact wpAny_mono (run_fn (us := [.ref a, .ref b]) (vs := [.ref a, .ref b]) F hr hb .nil hx I (.cons rfl (.cons rfl .nil)) q) (fun _ _ z => epBack z) fun _ _ z => z
end
end Ow

/-! set(list) of hin, its members told -/
namespace Ow
open PySem PySem.Spec PyProof.Rows L2
/-- the new set as an object -/
abbrev emptySet (w : World) : Obj := { cls := .type "set", dict := none, data := .set #[] 0 (.fresh 0 0 (!w.params.followText "set-order")) }
section
variable {P : Program} {w : World} {A : Around} {E : Value → Shared → Prop} {s : Shared}
theorem set_of_list {l : Addr} {its : Array Value} (ns : List Int) {Q : Value → Shared → Prop} (hh : A.handled = none) (hl : s.heap.IsList l its) (hin : IntsAre its.toList ns) (few : ns.length + 1 < scanBound)
    (h : ∀ (hp : Heap) (tk c : Nat), SetR w hp s.heap.objs.size (fun j => decide (j ∈ ns)) c → c ≤ ns.length → (∀ b o, s.heap.get? b = some o → hp.get? b = some o) → Q (.ref s.heap.objs.size) { s with heap := hp, toks := tk }) :
    wpAny (model P w) A (call (.type "set") [.ref l]) Q E s := by
  have sz : its.size = ns.length := by simpa using IntsAre.length hin
  have a0 := F.called_set.mro
  obtain ⟨cc, ctl, a1⟩ := a0
  have a2 := F.called_set.made
  have a3 := F.called_set.sub
  have a4 := F.called_set.notType
  have a5 := F.called_set.canCreate
  have a6 := F.typeCall_set_1 (.ref l)
  refine wpAny_call (codeAny_of_tree ?_)
  refine wpAny_pure ⟨Code.quiet_builtin _ (by decide +kernel), codeAny_builtin F.entry_type_call ?_⟩
  rw [Around.under_plain (weight_type_call_type "set" [.ref l] []) rfl]
  repeat (any_goals (first | assumption | wp_step))
  refine codeAny_mono (code_set_led1 (.ref l) (E := E) (Q₁ := fun ob s1 => ob = .ref s.heap.objs.size ∧ s1 = { s with heap := s.heap.push (emptySet w) }) ⟨rfl, rfl⟩) fun r1 s1 g1 => ?_
  cases r1 with
  | error er => exact g1
  | ok f1 =>
    cases f1 with
    | next => exact g1.elim
    | brk => exact g1.elim
    | cont => exact g1.elim
    | ret ob =>
      obtain ⟨rfl, rfl⟩ := g1
      have at0 : (s.heap.push (emptySet w)).get? s.heap.objs.size = some (emptySet w) := Heap.get?_push_size _ rfl
      have ty0 : Shared.TypeIs { s with heap := s.heap.push (emptySet w) } (.ref s.heap.objs.size) "set" := ⟨_, at0, rfl⟩
      have b1 := F.called_set.init.lookup
      have b2 := F.called_set.init.bind (.ref s.heap.objs.size)
      repeat (any_goals (first | assumption | wp_step))
      refine codeAny_mono (codeAny_call_builtin (R := wants (fun r s2 => r = .none ∧ ∃ hp tk c, s2 = { s with heap := hp, toks := tk } ∧ SetR w hp s.heap.objs.size (fun j => decide (j ∈ ns)) c ∧ c ≤ ns.length ∧ ∀ b o, s.heap.get? b = some o → hp.get? b = some o) E)
        F.called_set.init.plain F.entry_set_init (check_set_init_1 ty0 ?_)) fun r2 s2 g2 => ?_
      · obtain ⟨⟨oc, od, odt, osl⟩, hol, hcl, nl, hdl⟩ := hl
        dsimp only at hcl hdl
        subst hcl hdl
        have c1 : (s.heap.push (emptySet w)).get? l = some { cls := .type "list", dict := od, data := .seq its nl, slots := osl } := Heap.get?_push_of_some _ hol
        have c2 := F.sub_list_set
        have c3 := F.sub_list_frozenset
        have c4 : (Value.type "list" == Value.type "dict") = false := by decide
        have c5 : (s.heap.push (emptySet w)).IsList l its := ⟨_, c1, rfl, nl, rfl⟩
        unfold Builtin.«set.__init__» noKeywords Builtin.Frozenset.updateFrom
        generalize hgen : pyIter = gen
        wp_walk
        subst hgen
        refine wpAny_pyIter_list c5 (wpAny_bind (wpAny_runValue ?_))
        have lt : l < s.heap.objs.size := Heap.lt_size hol
        have hh3 : A.in1.in1.in1.handled = none := by simp [hh]
        have zz : (s.heap.push (emptySet w)).objs.size = s.heap.objs.size + 1 := Heap.size_push ..
        have n1 : l ≠ (s.heap.push (emptySet w)).objs.size := fun e => absurd (Nat.lt_succ_of_lt lt) (by rw [e, zz]; exact Nat.lt_irrefl _)
        have n2 : s.heap.objs.size ∉ [(s.heap.push (emptySet w)).objs.size, l] := fun hm => by
          rcases List.mem_cons.mp hm with e | e
          · rw [zz] at e; exact absurd e (Nat.ne_of_lt (Nat.lt_succ_self _))
          · exact absurd lt (by rw [← List.mem_singleton.mp e]; exact Nat.lt_irrefl _)
        have vals : ∀ (i : Nat) (v : Value), its[i]? = some v → ∃ k t, ns[i]? = some k ∧ v = .int k t := fun i v hv => by
          have hi : i < ns.length := by rw [← sz]; exact (Array.getElem?_eq_some_iff.mp hv).1
          obtain ⟨t, e⟩ := IntsAre.int_at hin i v (by rw [Array.getElem?_toList]; exact hv)
          exact ⟨ns[i], t, List.getElem?_eq_getElem hi, by rw [e]; simp [List.getD_eq_getElem?_getD, hi]⟩
        refine set_update_ints ((Walks.list hh3 _ l n1 its).toS) s.heap.objs.size n2 ns sz few vals (its.size - 0) 0 _ (by omega) (Nat.zero_le _) ⟨⟨_, Heap.get?_push_size _ rfl, rfl, rfl⟩, c5.push _⟩ ⟨0, Nat.le_refl 0, setR_new_at (Heap.get?_push_of_some _ at0)⟩ ?_
        intro s3 c m3 hc3 S3
        obtain ⟨hp3, g3, d3, t3, o3⟩ := s3
        obtain rfl : g3 = s.gens := m3.gens
        obtain rfl : d3 = s.drawn := m3.drawn
        obtain rfl : o3 = s.os := m3.os
        refine wpAny_pure (wpAny_pure ⟨rfl, hp3, t3, c, rfl, S3, by omega, fun b o e => ?_⟩)
        have lb : b < s.heap.objs.size := Heap.lt_size e
        have nb : b ∉ [s.heap.objs.size, (s.heap.push (emptySet w)).objs.size] := fun hm => by
          rcases List.mem_cons.mp hm with e | e
          · exact absurd lb (by rw [e]; exact Nat.lt_irrefl _)
          · rw [List.mem_singleton.mp e, zz] at lb; exact absurd lb (Nat.not_lt_of_lt (Nat.lt_succ_self _))
        exact m3.heap b o nb (Heap.get?_push_of_some _ (Heap.get?_push_of_some _ e))
      · cases r2 with
        | error er => exact g2
        | ok f2 =>
          cases f2 with
          | next => exact g2.elim
          | brk => exact g2.elim
          | cont => exact g2.elim
          | ret v2 =>
            obtain ⟨rfl, hp, tk, c, rfl, S2, hc2, k2⟩ := g2
            repeat (any_goals (first | assumption | wp_step))
            exact h _ _ _ S2 hc2 k2
end
/-- set(xs), xs a list or a tuple of hin, fewer than 4000 -/
def rSetOf (K : PySem.W.Frag) (w : World) : List V → Hp → VK → Prop := fun xs H Q => ∃ (l : Addr) (ns : List Int), xs = [.ref l] ∧ (SqL K H l (ns.map V.int) ∨ SqT K H l (ns.map V.int)) ∧ ns.length ≤ 4000 ∧
  ∀ p c, H p = none → c ≤ ns.length → Q (.ref p) (upd H p (SetO w p (fun j => decide (j ∈ ns)) c))
section
variable {X : Cx}
theorem intsOf : ∀ {ns : List Int} {us : List Value}, Vals (ns.map V.int) us → IntsAre us ns
  | [], _, .nil => .nil
  | n :: ns, _, .cons r t => by
    obtain ⟨k, rfl⟩ := r
    exact .cons n k (intsOf t)
theorem cr_setL (hc : X.calm = true) : CallR X (.type "set") (rSetOf X.K X.w) := by
  intro pins s σ H xs us Q I r h
  obtain ⟨l, ns, rfl, hq, few, q⟩ := h
  rw [Vals.ref1 r]
  have lay : ∀ (hp : Heap) (tk c : Nat), SetR X.w hp s.heap.objs.size (fun j => decide (j ∈ ns)) c → c ≤ ns.length → (∀ b o, s.heap.get? b = some o → hp.get? b = some o) → EP X pins σ Q (.ref s.heap.objs.size) { s with heap := hp, toks := tk } :=
    fun hp tk c S hc k => ⟨.ref s.heap.objs.size, _, I.laid (t' := tk) k (Nat.le_refl _) (setO_new S), rfl, q _ c (I.hok.fresh (Nat.le_refl _)) hc⟩
  rcases hq with hq | hq
  · obtain ⟨its, r2, pl, _⟩ := I.list hq
    exact set_of_list ns (I.ok.hd hc) pl.isList (by simpa using intsOf r2) (by unfold scanBound; omega) lay
  · obtain ⟨its, r2, pl, _⟩ := I.tuple hq
    exact call_set_tupI ns (I.ok.hd hc) pl (by simpa using intsOf r2) (by unfold scanBound; omega) lay
end
end Ow

/-! defs, methods and classes by their names; the head's facts with one more Bool -/
namespace Ow
open PySem PySem.Spec PyProof.Rows L2
section
variable (P : Program) (w : World) (K : PySem.W.Frag) (mg : Str → Option Value) (base : Heap) (CX : CXT) (k : Nat)
/-- the module's name x is a def that keeps sp -/
def Glob (x : Str) (ps : List Str) (sp : Sp) : Prop := ∃ f fd, mg x = some (.ref f) ∧ PySem.W.keepIn K (.ref f) = true ∧ Binds K fd ps [] ∧ FnOk P w K mg base CX k f fd ps sp
/-- the class at C (the module's name x) is made by an __init__ that keeps sp; dvs fill up -/
def Maker (x : Str) (C : Addr) (ps : List Str) (dvs : List V) (sp : Sp) : Prop := ∃ f fd ds, mg x = some (.ref C) ∧ Mk K C f ∧ Binds K fd ps ds ∧ Vals dvs ds ∧ FnOk P w K mg base CX k f fd ps sp
/-- the class at C has the method m, which keeps sp -/
def Dun (C : Addr) (m : Str) (ps : List Str) (sp : Sp) : Prop := ∃ f fd, PySem.W.findIn K (.ref C) m = some (some (.ref f)) ∧ PySem.W.isFn K (.ref f) = true ∧ PySem.W.keepIn K (.ref f) = true ∧ Binds K fd ps [] ∧ FnOk P w K mg base CX k f fd ps sp
end
section
variable {X : Cx} {CX : CXT} {k : Nat} {C : Addr} {ps : List Str} {sp : Sp} {dvs : List V} {E : XK} {x m : Str} {p pos apos : Pos} {e o : Expr} {es : List Expr} {ta : TE} {t : TA}
theorem pe_g (G : Glob X.prog X.w X.K X.mg X.base CX k x ps sp) (hr : Room k X.A) (hx : Passes CX X E) (ha : PA X (e :: es) t) (hg : Gl X x := by rfl) (hdb : (x == ("__debug__" : Str)) = false := by decide)
    (he : starEach (e :: es) X.env = (false, eval e X.env) :: starEach es X.env := by rfl) (hpl : (backTo pos (starEach es X.env)).any (·.1) = false := by rfl) : PE X (.Call (.Name x p) (e :: es) [] pos) (tCall sp [] E t) := by
  obtain ⟨f, fd, hm, hk, hb, F⟩ := G
  exact pe_call F hr hg hm hk hb .nil hx ha hdb he hpl
theorem pe_g0 (G : Glob X.prog X.w X.K X.mg X.base CX k x ps sp) (hr : Room k X.A) (hx : Passes CX X E) (hg : Gl X x := by rfl) (hdb : (x == ("__debug__" : Str)) = false := by decide) : PE X (.Call (.Name x p) [] [] pos) (tCall sp [] E tNil) := by
  obtain ⟨f, fd, hm, hk, hb, F⟩ := G
  exact pe_call0 F hr hg hm hk hb .nil hx hdb
theorem pe_mk (G : Maker X.prog X.w X.K X.mg X.base CX k x C ps dvs sp) (hr : Room (k + 1) X.A) (hx : Passes CX X E) (ha : PA X (e :: es) t) (hg : Gl X x := by rfl) (hdb : (x == ("__debug__" : Str)) = false := by decide)
    (he : starEach (e :: es) X.env = (false, eval e X.env) :: starEach es X.env := by rfl) (hpl : (backTo pos (starEach es X.env)).any (·.1) = false := by rfl) : PE X (.Call (.Name x p) (e :: es) [] pos) (tMake C sp dvs E t) := by
  obtain ⟨f, fd, ds, hm, M, hb, hd, F⟩ := G
  exact pe_make M F hr hg hm hb hd hx ha hdb he hpl
theorem pe_mk0 (G : Maker X.prog X.w X.K X.mg X.base CX k x C ps dvs sp) (hr : Room (k + 1) X.A) (hx : Passes CX X E) (hg : Gl X x := by rfl) (hdb : (x == ("__debug__" : Str)) = false := by decide) : PE X (.Call (.Name x p) [] [] pos) (tMake C sp dvs E tNil) := by
  obtain ⟨f, fd, ds, hm, M, hb, hd, F⟩ := G
  exact pe_make0 M F hr hg hm hb hd hx hdb
theorem od_bin {op : Operator} (G : Dun X.prog X.w X.K X.mg X.base CX k C m ps sp) (hr : Room k X.A) (hx : Passes CX X E) (hc : PySem.W.selfFirst X.K C = true) (hm : PySem.dunder op.info.2 = m) : OpR X (binaryOp op) (rOwn C sp E) := by
  obtain ⟨f, fd, hs, hf, hk, hb, F⟩ := G
  exact op_own F hr hb hx hc (by rw [hm]; exact hs) hf
theorem od_in (G : Dun X.prog X.w X.K X.mg X.base CX k C "__contains__" ps sp) (hr : Room k X.A) (hx : Passes CX X E) : OpR X (compareOp .In) (rOwnIn C false sp E) := by
  obtain ⟨f, fd, hs, hf, hk, hb, F⟩ := G
  exact op_ownIn F hr hb hx hs hf
theorem od_notIn (G : Dun X.prog X.w X.K X.mg X.base CX k C "__contains__" ps sp) (hr : Room k X.A) (hx : Passes CX X E) : OpR X (compareOp .NotIn) (rOwnIn C true sp E) := by
  obtain ⟨f, fd, hs, hf, hk, hb, F⟩ := G
  exact op_ownNotIn F hr hb hx hs hf
theorem od_eq (G : Dun X.prog X.w X.K X.mg X.base CX k C "__eq__" ps sp) (hr : Room k X.A) (hx : Passes CX X E) : OpR X (compareOp .Eq) (rOwnEq C sp E) := by
  obtain ⟨f, fd, hs, hf, hk, hb, F⟩ := G
  exact op_ownEq F hr hb hx hs hf
theorem od_len (G : Dun X.prog X.w X.K X.mg X.base CX k C "__len__" ps sp) (hr : Room (k + 1) X.A) (hx : Passes CX X E) : CallR X (.builtin "len") (rOwnLen C sp E) := by
  obtain ⟨f, fd, hs, hf, hk, hb, F⟩ := G
  exact call_ownLen F hr hb hx hs hf
/-- o.m(e, ..) -/
theorem pe_m {pl : Sem Bool} (he : PE X o ta) (c : Cls X.K C) (G : Dun X.prog X.w X.K X.mg X.base CX k C m ps sp) (hr : Room k X.A) (hx : Passes CX X E) (ha : PA X (e :: es) t)
    (hst : starEach (e :: es) X.env = (false, eval e X.env) :: starEach es X.env := by rfl) (hpl : (backTo pos (starEach es X.env)).any (·.1) = false := by rfl)
    (ht : eval (.Call (.Attribute o m apos) (e :: es) [] pos) X.env = (do
      let ov ← eval o X.env
      standAt apos.atName
      let (f, first) ← holding [ov] (getMethod ov m pl)
      callWith pos f first (backTo pos (starEach (e :: es) X.env)) (backToKw pos (keywordEach [] X.env))) := by rfl) : PE X (.Call (.Attribute o m apos) (e :: es) [] pos) (tMeth C m sp [] E ta t) := by
  obtain ⟨f, fd, hs, hf, hk, hb, F⟩ := G
  exact pe_meth (pl := pl) he c ⟨hs, hf, hk⟩ F hr hb .nil hx ha hst hpl ht
theorem pe_m0 {pl : Sem Bool} (he : PE X o ta) (c : Cls X.K C) (G : Dun X.prog X.w X.K X.mg X.base CX k C m ps sp) (hr : Room k X.A) (hx : Passes CX X E)
    (ht : eval (.Call (.Attribute o m apos) [] [] pos) X.env = (do
      let ov ← eval o X.env
      standAt apos.atName
      let (f, first) ← holding [ov] (getMethod ov m pl)
      callWith pos f first (backTo pos (starEach [] X.env)) (backToKw pos (keywordEach [] X.env))) := by rfl) : PE X (.Call (.Attribute o m apos) [] [] pos) (tMeth C m sp [] E ta tNil) := by
  obtain ⟨f, fd, hs, hf, hk, hb, F⟩ := G
  exact pe_meth0 (pl := pl) he c ⟨hs, hf, hk⟩ F hr hb .nil hx ht
end
end Ow
/-! the Hook: HeadHook2's with a Bool of one's own over the written part -/
namespace Ow
open PySem PySem.Spec PyProof.Rows L2
def obsM (n : Nat) (fa : List He.Fa) (fn : List He.DefD) (ex : PySem.W.Frag → Bool) (g : Addr → Option Obj) : He.AlD × Bool :=
  (He.obsD fa fn (He.frG g (He.asD g n)), ex (He.frG g (He.asD g n)))
def hookM (n : Nat) (fa : List He.Fa) (fn : List He.DefD) (ex : PySem.W.Frag → Bool) : PySem.W.Hook where
  α := He.AlD × Bool
  obs := fun s => obsM n fa fn ex s.heap.get?
  val := fun _ => (He.valD fn, true)
  says := fun _ h => ∃ K : PySem.W.Frag, K.In h ∧ He.SaysD fa fn K ∧ ex K = true
  of := fun _ _ e => ⟨_, He.frG_in, congrArg Prod.fst e, congrArg Prod.snd e⟩
  keeps := fun _ _ _ ⟨K, hK, c⟩ k => ⟨K, PySem.W.Frag.In.keeps hK k, c⟩
theorem obsM_eq {n : Nat} {fa : List He.Fa} {fn : List He.DefD} {ex : PySem.W.Frag → Bool} {g : Addr → Option Obj} {s : Shared} (h : ∀ a, g a = s.heap.get? a) : obsM n fa fn ex g = (hookM n fa fn ex).obs s := by
  obtain rfl : g = s.heap.get? := funext h
  rfl
end Ow

/-! data compared: ints, lists and tuples of ints, lists of those; isinstance of an own instance -/
namespace Ow
open PySem PySem.Spec PyProof.Rows L2
theorem dp_ints {K : PySem.W.Frag} {H : Hp} : ∀ ns : List Int, DpAll K H (ns.map V.int) (ns.map PyData.int)
  | [] => .nil
  | n :: ns => .cons (.int n) (dp_ints ns)
theorem eqv_ints : ∀ ns ms : List Int, PyData.eqvAll (ns.map PyData.int) (ms.map PyData.int) = decide (ns = ms)
  | [], [] => by simp [PyData.eqvAll]
  | [], _ :: _ => by simp [PyData.eqvAll]
  | _ :: _, [] => by simp [PyData.eqvAll]
  | n :: ns, m :: ms => by
    simp only [List.map_cons, PyData.eqvAll, eqv_ints ns ms, PyData.eqv]
    by_cases h1 : n = m <;> by_cases h2 : ns = ms <;> simp [h1, h2]
theorem lay_ints : ∀ ns : List Int, PyData.canLayAll0 (ns.map PyData.int) = true
  | [] => by simp [PyData.canLayAll0]
  | n :: ns => by simp [PyData.canLayAll0, PyData.canLay0, lay_ints ns]
theorem depth_ints : ∀ ns : List Int, PyData.depthAll (ns.map PyData.int) ≤ 1
  | [] => by simp [PyData.depthAll]
  | n :: ns => by
    have := depth_ints ns
    simp [PyData.depthAll, PyData.depth]
    omega
theorem sh_list (ns : List Int) : SeqAt.shaped (.list (ns.map PyData.int)) = true := by
  have := depth_ints ns
  simp [SeqAt.shaped, PyData.canLay0, lay_ints, PyData.depth]
  omega
theorem sh_tup (ns : List Int) : SeqAt.shaped (.tuple (ns.map PyData.int)) = true := by
  have := depth_ints ns
  simp [SeqAt.shaped, PyData.canLay0, lay_ints, PyData.depth]
  omega
/-- lists of ints at the addresses -/
def Rows (K : PySem.W.Frag) (H : Hp) (as : List V) (nss : List (List Int)) : Prop := DpAll K H as (nss.map fun ns => .list (ns.map PyData.int))
theorem eqv_rows : ∀ ns ms : List (List Int), PyData.eqvAll (ns.map fun n => .list (n.map PyData.int)) (ms.map fun n => .list (n.map PyData.int)) = decide (ns = ms)
  | [], [] => by simp [PyData.eqvAll]
  | [], _ :: _ => by simp [PyData.eqvAll]
  | _ :: _, [] => by simp [PyData.eqvAll]
  | n :: ns, m :: ms => by
    simp only [List.map_cons, PyData.eqvAll, eqv_rows ns ms, PyData.eqv, eqv_ints]
    by_cases h1 : n = m <;> by_cases h2 : ns = ms <;> simp [h1, h2]
theorem lay_rows : ∀ ns : List (List Int), PyData.canLayAll0 (ns.map fun n => .list (n.map PyData.int)) = true
  | [] => by simp [PyData.canLayAll0]
  | n :: ns => by simp [PyData.canLayAll0, PyData.canLay0, lay_ints, lay_rows ns]
theorem depth_rows : ∀ ns : List (List Int), PyData.depthAll (ns.map fun n => .list (n.map PyData.int)) ≤ 2
  | [] => by simp [PyData.depthAll]
  | n :: ns => by
    have h1 := depth_rows ns
    have h2 := depth_ints n
    simp [PyData.depthAll, PyData.depth]
    omega
theorem sh_rows (ns : List (List Int)) : SeqAt.shaped (.list (ns.map fun n => .list (n.map PyData.int))) = true := by
  have := depth_rows ns
  simp [SeqAt.shaped, PyData.canLay0, lay_rows, PyData.depth]
  omega
/-- two lists, two tuples of ints compared -/
theorem eqd_list {K : PySem.W.Frag} {H : Hp} {a b : Addr} {ns ms : List Int} {Q : VK} (ha : SqL K H a (ns.map V.int)) (hb : SqL K H b (ms.map V.int)) (q : Q (.bl (decide (ns = ms))) H) : rEqD K (.ref a) (.ref b) H Q :=
  ⟨_, _, .lst ha (dp_ints ns), .lst hb (dp_ints ms), sh_list ns, sh_list ms, by rw [PyData.eqv, eqv_ints]; exact q⟩
theorem ned_list {K : PySem.W.Frag} {H : Hp} {a b : Addr} {ns ms : List Int} {Q : VK} (ha : SqL K H a (ns.map V.int)) (hb : SqL K H b (ms.map V.int)) (q : Q (.bl (!decide (ns = ms))) H) : rNeD K (.ref a) (.ref b) H Q :=
  ⟨_, _, .lst ha (dp_ints ns), .lst hb (dp_ints ms), sh_list ns, sh_list ms, by rw [PyData.eqv, eqv_ints]; exact q⟩
theorem eqd_tup {K : PySem.W.Frag} {H : Hp} {a b : Addr} {ns ms : List Int} {Q : VK} (ha : SqT K H a (ns.map V.int)) (hb : SqT K H b (ms.map V.int)) (q : Q (.bl (decide (ns = ms))) H) : rEqD K (.ref a) (.ref b) H Q :=
  ⟨_, _, .tup ha (dp_ints ns), .tup hb (dp_ints ms), sh_tup ns, sh_tup ms, by rw [PyData.eqv, eqv_ints]; exact q⟩
theorem ned_tup {K : PySem.W.Frag} {H : Hp} {a b : Addr} {ns ms : List Int} {Q : VK} (ha : SqT K H a (ns.map V.int)) (hb : SqT K H b (ms.map V.int)) (q : Q (.bl (!decide (ns = ms))) H) : rNeD K (.ref a) (.ref b) H Q :=
  ⟨_, _, .tup ha (dp_ints ns), .tup hb (dp_ints ms), sh_tup ns, sh_tup ms, by rw [PyData.eqv, eqv_ints]; exact q⟩
theorem eqd_rows {K : PySem.W.Frag} {H : Hp} {a b : Addr} {as bs : List V} {ns ms : List (List Int)} {Q : VK} (ha : SqL K H a as) (hb : SqL K H b bs) (ra : Rows K H as ns) (rb : Rows K H bs ms) (q : Q (.bl (decide (ns = ms))) H) : rEqD K (.ref a) (.ref b) H Q :=
  ⟨_, _, .lst ha ra, .lst hb rb, sh_rows ns, sh_rows ms, by rw [PyData.eqv, eqv_rows]; exact q⟩
/-- what isinstance asks of an own class -/
structure IsiC (K : PySem.W.Frag) (C : Addr) : Prop where
  c : PySem.W.findIn K (.ref C) "__class__" = some (some (.builtin "object.__class__"))
  g : PySem.W.specialIn K (.builtin "object.__class__") "__get__" = some (some (.builtin "getset_descriptor.__get__"))
  t : PySem.W.takesIn K (.builtin "object.__class__") = some true
  m : PySem.W.mroIn K C (.type "object") = some true
  y : PySem.W.kitOne K (.ref C) (.ref C) = some true
def isiB (K : PySem.W.Frag) (C : Addr) : Bool := He.eqO (PySem.W.findIn K (.ref C) "__class__") (some (some (.builtin "object.__class__"))) && (He.eqO (PySem.W.specialIn K (.builtin "object.__class__") "__get__") (some (some (.builtin "getset_descriptor.__get__"))) &&
  (decide (PySem.W.takesIn K (.builtin "object.__class__") = some true) && (decide (PySem.W.mroIn K C (.type "object") = some true) && decide (PySem.W.kitOne K (.ref C) (.ref C) = some true))))
theorem isiB_ok {K : PySem.W.Frag} {C : Addr} (h : isiB K C = true) : IsiC K C := by
  obtain ⟨h1, h⟩ := He.ba h
  obtain ⟨h2, h⟩ := He.ba h
  obtain ⟨h3, h⟩ := He.ba h
  obtain ⟨h4, h5⟩ := He.ba h
  exact ⟨He.eqO_ok h1, He.eqO_ok h2, of_decide_eq_true h3, of_decide_eq_true h4, of_decide_eq_true h5⟩
theorem IsiC.ty {K : PySem.W.Frag} {C a dx : Addr} {fs : List (Str × V)} {H : Hp} (i : IsiC K C) (cl : Cls K C) (h : H a = some (.ins C dx fs)) : TyX K H (.ref a) (.ref C) := .base (.ins h cl i.c i.g i.t i.m)
theorem SqT.of' {K : PySem.W.Frag} {H : Hp} {a : Addr} {xs : List V} (h : H a = some (.tup xs)) : SqT K H a xs := SqT.of h
/-- what was tracked is as it was -/
theorem ext_upd {H : Hp} {p : Addr} {o : HO} (h : H p = none) : Ext H (upd H p o) := Ext.upd h
theorem Ext.same {H H' : Hp} (e : Ext H H') : Same H H' := e
theorem Ext.free {H H' : Hp} (e : Ext H H') {l : Addr} (h : H' l = none) : H l = none := Same.free e h
end Ow

/-! sets of keys as functions; their lists -/
namespace Ow
open PySem PySem.Spec PyProof.Rows L2
/-- the keys of S from 0 to 15, ascending -/
def ks (S : Int → Bool) : List Int := ((List.range 16).map fun n : Nat => (n : Int)).filter S
theorem mem_ks {S : Int → Bool} {k : Int} : k ∈ ks S ↔ (0 ≤ k ∧ k < 16) ∧ S k = true := by
  unfold ks
  rw [List.mem_filter, List.mem_map]
  constructor
  · rintro ⟨⟨n, hn, rfl⟩, h⟩
    have := List.mem_range.mp hn
    exact ⟨⟨by omega, by omega⟩, h⟩
  · rintro ⟨⟨h0, h1⟩, h⟩
    exact ⟨⟨k.toNat, List.mem_range.mpr (by omega), by omega⟩, h⟩
theorem up_sorted (n : Nat) : ((List.range n).map fun n : Nat => (n : Int)).Pairwise (· < ·) := by
  rw [List.pairwise_map]
  exact List.Pairwise.imp (fun h => by omega) List.pairwise_lt_range
theorem ks_sorted (S : Int → Bool) : (ks S).Pairwise (· < ·) := (up_sorted 16).filter _
theorem ks_len (S : Int → Bool) : (ks S).length ≤ 16 := by
  unfold ks
  exact Nat.le_trans (List.length_filter_le _ _) (by simp)
theorem ks_congr {S T : Int → Bool} (h : ∀ k, 0 ≤ k → k < 16 → S k = T k) : ks S = ks T := by
  unfold ks
  refine List.filter_congr fun k hk => ?_
  obtain ⟨n, hn, rfl⟩ := List.mem_map.mp hk
  have := List.mem_range.mp hn
  exact h _ (by omega) (by omega)
theorem ks_inj {S T : Int → Bool} (h : ks S = ks T) (k : Int) (h0 : 0 ≤ k) (h1 : k < 16) : S k = T k := by
  have a := mem_ks (S := S) (k := k)
  have b := mem_ks (S := T) (k := k)
  rw [h] at a
  have c := a.symm.trans b
  cases hS : S k <;> cases hT : T k <;> simp_all
/-- a strictly ascending list is told by its members -/
theorem asc_uniq : ∀ {ns ms : List Int}, ns.Pairwise (· < ·) → ms.Pairwise (· < ·) → (∀ k, k ∈ ns ↔ k ∈ ms) → ns = ms
  | [], [], _, _, _ => rfl
  | [], m :: ms, _, _, h => absurd ((h m).mpr List.mem_cons_self) (by simp)
  | n :: ns, [], _, _, h => absurd ((h n).mp List.mem_cons_self) (by simp)
  | n :: ns, m :: ms, hn, hm, h => by
    have ⟨an, hn'⟩ := List.pairwise_cons.mp hn
    have ⟨am, hm'⟩ := List.pairwise_cons.mp hm
    have e : n = m := by
      have h1 := (h n).mp List.mem_cons_self
      have h2 := (h m).mpr List.mem_cons_self
      rcases List.mem_cons.mp h1 with e | e
      · exact e
      · rcases List.mem_cons.mp h2 with e2 | e2
        · exact e2.symm
        · have := am _ e; have := an _ e2; omega
    subst e
    have r : ∀ k, k ∈ ns ↔ k ∈ ms := fun k => by
      constructor
      · intro hk
        have := an _ hk
        rcases List.mem_cons.mp ((h k).mp (List.mem_cons_of_mem _ hk)) with e | e
        · omega
        · exact e
      · intro hk
        have := am _ hk
        rcases List.mem_cons.mp ((h k).mpr (List.mem_cons_of_mem _ hk)) with e | e
        · omega
        · exact e
    rw [asc_uniq hn' hm' r]
theorem ks_uniq {ns : List Int} {S : Int → Bool} (h : ns.Pairwise (· < ·)) (m : ∀ k, k ∈ ns ↔ (0 ≤ k ∧ k < 16) ∧ S k = true) : ns = ks S :=
  asc_uniq h (ks_sorted S) fun k => (m k).trans mem_ks.symm
theorem inV_ints (k : Int) : ∀ ns : List Int, inV (.int k) (ns.map V.int) = decide (k ∈ ns)
  | [] => by simp [inV]
  | n :: ns => by
    have ih := inV_ints k ns
    unfold inV at ih ⊢
    rw [List.map_cons, List.any_cons, ih]
    have e : eqV (.int n) (.int k) = decide (k = n) := by
      by_cases h : k = n
      · subst h; simp [eqV]
      · have : ¬ n = k := fun z => h z.symm
        simp [eqV, h, this]
    rw [e]
    by_cases h : k = n <;> simp [h]
theorem flat_ints : ∀ ns : List Int, (ns.map V.int).all flatV = true
  | [] => rfl
  | n :: ns => by rw [List.map_cons, List.all_cons, flat_ints ns]; rfl
/-- x in xs for ints -/
theorem in_ints {K : PySem.W.Frag} {H : Hp} {a : Addr} {ns : List Int} {k : Int} {neg : Bool} {Q : VK} (h : SqL K H a (ns.map V.int) ∨ SqT K H a (ns.map V.int)) (q : Q (.bl (if neg then !decide (k ∈ ns) else decide (k ∈ ns))) H) : rIn K neg (.int k) (.ref a) H Q :=
  ⟨a, _, rfl, h, rfl, flat_ints ns, by rw [inV_ints]; exact q⟩
/-- the rights S stand at p, an instance of the class at C -/
def RtAt (C : Addr) (H : Hp) (p : Addr) (S : Int → Bool) : Prop := ∃ dx t, H p = some (.ins C dx [("numbers", .ref t)]) ∧ H t = some (.tup ((ks S).map V.int))
theorem RtAt.ext {C p : Addr} {H H' : Hp} {S : Int → Bool} (r : RtAt C H p S) (e : Ext H H') : RtAt C H' p S := let ⟨dx, t, h1, h2⟩ := r; ⟨dx, t, e _ _ h1, e _ _ h2⟩
theorem RtAt.congr {C p : Addr} {H : Hp} {S T : Int → Bool} (r : RtAt C H p S) (h : ∀ k, 0 ≤ k → k < 16 → S k = T k) : RtAt C H p T := let ⟨dx, t, h1, h2⟩ := r; ⟨dx, t, h1, by rw [← ks_congr h]; exact h2⟩
/-- is_key(number) -/
def spIsKey : Sp := fun vs H Q _ => ∃ n : Int, vs = [.int n] ∧ Q (.bl (decide (0 ≤ n ∧ n ≤ 15))) H
/-- __init__ of rights, no wrong key given -/
def spInit (K : PySem.W.Frag) (C : Addr) : Sp := fun vs H Q _ => ∃ (p dx a : Addr) (ns : List Int), vs = [.ref p, .ref a] ∧ H p = some (.ins C dx []) ∧ (SqL K H a (ns.map V.int) ∨ SqT K H a (ns.map V.int)) ∧ ns.length < 64 ∧ (∀ n ∈ ns, 0 ≤ n ∧ n ≤ 15) ∧
  ∀ H', RtAt C H' p (fun j => decide (j ∈ ns)) → (∀ b o, H b = some o → b ≠ p → H' b = some o) → Q .non H'
/-- Rights(xs) -/
theorem mkRt {K : PySem.W.Frag} {C a : Addr} {H : Hp} {ns : List Int} {Q : VK} {E : XK} (hs : SqL K H a (ns.map V.int) ∨ SqT K H a (ns.map V.int)) (hl : ns.length < 64) (hb : ∀ n ∈ ns, 0 ≤ n ∧ n ≤ 15)
    (k : ∀ x H2, Ext H H2 → H x = none → RtAt C H2 x (fun j => decide (j ∈ ns)) → Q (.ref x) H2) (x dx : Addr) (nx : H x = none) (ndx : H dx = none) (ne : dx ≠ x) :
    spInit K C [.ref x, .ref a] (upd (upd H dx (.own x)) x (.ins C dx [])) (fun v H2 => v = .non ∧ Q (.ref x) H2) E := by
  have e0 : Ext H (upd (upd H dx (.own x)) x (.ins C dx [])) := (Ext.upd ndx).trans (Ext.upd (by rw [upd_ne (Ne.symm ne)]; exact nx))
  refine ⟨x, dx, a, ns, rfl, upd_same, hs.imp (fun h => h.ext e0) (fun h => h.ext e0), hl, hb, fun H' r kp => ⟨rfl, k x H' (fun b o e => kp b o (e0 b o e) (ne_of_none e nx)) nx r⟩⟩
/-- a binary operator of rights, by keys -/
def spBin (C : Addr) (g : Bool → Bool → Bool) : Sp := fun vs H Q _ => ∃ (a b : Addr) (S T : Int → Bool), vs = [.ref a, .ref b] ∧ RtAt C H a S ∧ RtAt C H b T ∧ ∀ x H', Ext H H' → H x = none → RtAt C H' x (fun k => g (S k) (T k)) → Q (.ref x) H'
/-- key in rights -/
def spHas (C : Addr) : Sp := fun vs H Q _ => ∃ (a : Addr) (S : Int → Bool) (k : Int), vs = [.ref a, .int k] ∧ RtAt C H a S ∧ Q (.bl (decide (k ∈ ks S))) H
/-- len(rights) -/
def spLen (C : Addr) : Sp := fun vs H Q _ => ∃ (a : Addr) (S : Int → Bool), vs = [.ref a] ∧ RtAt C H a S ∧ Q (.int ((ks S).length : Nat)) H
/-- rights == rights -/
def spEqR (C : Addr) : Sp := fun vs H Q _ => ∃ (a b : Addr) (S T : Int → Bool), vs = [.ref a, .ref b] ∧ RtAt C H a S ∧ RtAt C H b T ∧ Q (.bl (decide (ks S = ks T))) H
theorem lk1 {f : Str} {v : V} : List.lookup f [(f, v)] = some v := by simp [List.lookup]
theorem few16 {n : Nat} (h : n ≤ 1000) : n ≤ sizeLine := Nat.le_of_lt (small1000 h)
end Ow

/-! the layer's rules with the written part and the world told by letters (a comprehension's block asks for readings that do not hang on its own context) -/
namespace Ow
open PySem PySem.Spec PyProof.Rows L2
def rLenK (K : PySem.W.Frag) : List V → Hp → VK → Prop := fun xs H Q => ∃ x n, xs = [x] ∧ LenV K x H n ∧ Q (.int (n : Nat)) H
def rListK (K : PySem.W.Frag) : List V → Hp → VK → Prop := fun xs H Q => ∃ p ys, xs = [.ref p] ∧ (SqL K H p ys ∨ SqT K H p ys) ∧ ∀ l, H l = none → Q (.ref l) (upd H l (.lst ys))
def rTupleK (K : PySem.W.Frag) : List V → Hp → VK → Prop := fun xs H Q => ∃ p ys, xs = [.ref p] ∧ ((SqL K H p ys ∧ ∀ l, H l = none → Q (.ref l) (upd H l (.tup ys))) ∨ (SqT K H p ys ∧ Q (.ref p) H))
def tTruK (K : PySem.W.Frag) (ta : TE) : TT := fun σ H Q => ta σ H fun x H' => ∃ k, TruV K x H' k ∧ Q k H'
section
variable {X : Cx} {K : PySem.W.Frag} {w : World}
theorem kin (h : X.K = K := by rfl) : OpR X (compareOp .In) (rIn K false) := h ▸ op_in_seq
theorem knotin (h : X.K = K := by rfl) : OpR X (compareOp .NotIn) (rIn K true) := h ▸ op_notIn_seq
theorem kixl (h : X.K = K := by rfl) : IxR X (rIxL K) := h ▸ ix_list
theorem kixt (h : X.K = K := by rfl) : IxR X (rIxT K) := h ▸ ix_tup
theorem ksll (h : X.K = K := by rfl) : SlR X (rSlL K) := h ▸ sl_list
theorem kslt (h : X.K = K := by rfl) : SlR X (rSlT K) := h ▸ sl_tup
theorem klen (h : X.K = K := by rfl) : CallR X (.builtin "len") (rLenK K) := by subst h; exact call_len
theorem klist (h : X.K = K := by rfl) : CallR X (.type "list") (rListK K) := by subst h; exact call_list_of
theorem ktuple (h : X.K = K := by rfl) : CallR X (.type "tuple") (rTupleK K) := by subst h; exact call_tuple_of
theorem kisi (h : X.K = K := by rfl) : CallR X (.builtin "isinstance") (rIsi K) := by subst h; exact call_isi
theorem keqd (hu : X.A.units + 64 < cLine) (h : X.K = K := by rfl) : OpR X (compareOp .Eq) (rEqD K) := by subst h; exact op_eqD hu
theorem kned (hu : X.A.units + 64 < cLine) (h : X.K = K := by rfl) : OpR X (compareOp .NotEq) (rNeD K) := by subst h; exact op_neD hu
theorem kcat (h : X.K = K := by rfl) : OpR X (binaryOp .Add) (rCatA K) := by subst h; exact op_catA
theorem kset (hc : X.calm = true) (h : X.K = K := by rfl) (hw : X.w = w := by rfl) : CallR X (.type "set") (rSetOf K w) := by subst h; subst hw; exact cr_setL hc
theorem ksorted (hc : X.calm = true) (hw : X.w = w := by rfl) : CallR X (.builtin "sorted") (rSortedSet w) := by subst hw; exact cr_sortedSet hc
theorem ksortI (h : X.K = K := by rfl) : CallR X (.builtin "sorted") (rSortedI K) := by subst h; exact cr_sortedI
theorem kpl {tg l : Expr} {tl : TE} (hl : PE X l tl) (h : X.K = K := by rfl) : PI X tg l (iList K tl) := by subst h; exact pi_list hl
theorem kpt {tg l : Expr} {tl : TE} (hl : PE X l tl) (h : X.K = K := by rfl) : PI X tg l (iTup K tl) := by subst h; exact pi_tup hl
theorem kfld {e : Expr} {f : Str} {pos : Pos} {ta : TE} (he : PE X e ta) (hb : attributeBase e f X.env (eval e X.env) = eval e X.env := by rfl) (h : X.K = K := by rfl) : PE X (.Attribute e f pos) (tFld K ta f) := by subst h; exact pe_fld he hb
theorem ktru {a : Expr} {ta : TE} (ha : PE X a ta) (he : ∀ whole, isTrue a X.env whole = (do let v ← whole; standAt a.pos; holding [v] (truthy v)) := by intro _; rfl) (h : X.K = K := by rfl) : PT X a (tTruK K ta) := by subst h; exact pt_truth ha he
theorem kbm0 {o : Expr} {to : TE} {name : Str} {apos cpos : Pos} {T id : String} {r : V → List V → Hp → VK → Prop} (pa : PlainAttrs T) (slot : Slot T name id) (hty : typeOf (.builtin id) = pure (.type "method_descriptor")) (hm : MtR X id r) (ho : PE X o to)
    (hbase : attributeBase o name X.env (eval o X.env) = eval o X.env := by rfl) (hline : (apos.endLine == cpos.line) = true := by rfl) (h : X.K = K := by rfl) : PE X (.Call (.Attribute o name apos) [] [] cpos) (tBM0 K T r to) := by
  subst h; exact pe_bm0 pa slot hty hm ho hbase hline
theorem kbm {o e : Expr} {es : List Expr} {to : TE} {t : TA} {name : Str} {apos cpos : Pos} {T id : String} {r : V → List V → Hp → VK → Prop} (pa : PlainAttrs T) (slot : Slot T name id) (hty : typeOf (.builtin id) = pure (.type "method_descriptor")) (hm : MtR X id r) (ho : PE X o to) (ha : PA X (e :: es) t)
    (hbase : attributeBase o name X.env (eval o X.env) = eval o X.env := by rfl)
    (hfew : ((backTo cpos (starEach (e :: es) X.env)).all (fun x => !x.1) && (backToKw cpos (keywordEach [] X.env)).all (fun x => x.1.isSome)
      && decide ((e :: es).length + ([] : List Keyword).length + (if ([] : List Keyword).isEmpty then 0 else 1) < 30)) = true := by rfl)
    (hline : (apos.endLine == cpos.line) = true := by rfl) (hs : starEach (e :: es) X.env = (false, eval e X.env) :: starEach es X.env := by rfl) (hplain : (backTo cpos (starEach es X.env)).any (·.1) = false := by rfl) (h : X.K = K := by rfl) :
    PE X (.Call (.Attribute o name apos) (e :: es) [] cpos) (tBM K T r to t) := by
  subst h; exact pe_bm pa slot hty hm ho ha hbase hfew hline hs hplain
end
end Ow
namespace Ow
open PySem PySem.Spec PyProof.Rows L2
section
variable {X : Cx} {K : PySem.W.Frag} {w : World}
theorem ksum (hc : X.calm = true) (h : X.K = K := by rfl) : CallR X (.builtin "sum") (rSum K) := by subst h; exact cr_sum hc
theorem kany (hc : X.calm = true) (h : X.K = K := by rfl) : CallR X (.builtin "any") (rAny K) := by subst h; exact cr_any hc
theorem kall (hc : X.calm = true) (h : X.K = K := by rfl) : CallR X (.builtin "all") (rAll K) := by subst h; exact cr_all hc
theorem kgtup {es : List Expr} {k : Nat} {t : TGs} {n : Nat} {pos : Pos} (hc : X.calm = true) (hs : PGs X es t) (hn : (assignEach es X.env).length = n := by rfl) (hst : (assignEach es X.env).findIdx? (·.1) = none := by rfl) (h : X.K = K := by rfl) : PG X (.Tuple es k pos) (gTup K n t) := by subst h; exact pg_tup hc hs hn hst
end
end Ow

/-! comprehensions whose turns leave the heap as it is: [h x for x in xs if f x] over a list, a tuple, a range -/
namespace Ow
open PySem PySem.Spec PyProof.Rows L2
theorem wipe_back (σ : L2.St) (i : Nat) (x : Option V) : wipe ((wipe σ [i]).set i x) [i] = wipe σ [i] := by
  show ((σ.set i none).set i x).set i none = σ.set i none
  rw [List.set_set, List.set_set]
section
variable {K : PySem.W.Frag} {i D a : Addr} {σ : L2.St} {H : Hp} {tt : TT} {te : TE} {Qd : Hp → Prop}
/-- the list made behind the first j items -/
def outOf {α : Type} (L : List α) (f : α → Bool) (hv : α → V) (j : Nat) : List V := ((L.take j).filter f).map hv
theorem outOf_len {α : Type} {L : List α} {f : α → Bool} {hv : α → V} {j : Nat} (h : L.length ≤ 1000) : (outOf L f hv j).length < sizeLine := by
  unfold outOf
  rw [List.length_map]
  exact small1000 (Nat.le_trans (List.length_filter_le _ _) (Nat.le_trans (by rw [List.length_take]; omega) h))
theorem outOf_yes {α : Type} {L : List α} {f : α → Bool} {hv : α → V} {j : Nat} {z : α} (h : L[j]? = some z) (c : f z = true) : outOf L f hv (j + 1) = outOf L f hv j ++ [hv z] := by
  unfold outOf
  rw [List.take_add_one, h, List.filter_append, List.map_append]
  simp [c]
theorem outOf_no {α : Type} {L : List α} {f : α → Bool} {hv : α → V} {j : Nat} {z : α} (h : L[j]? = some z) (c : f z = false) : outOf L f hv (j + 1) = outOf L f hv j := by
  unfold outOf
  rw [List.take_add_one, h, List.filter_append]
  simp [c]
theorem outOf_all {α : Type} (L : List α) (f : α → Bool) (hv : α → V) : outOf L f hv L.length = (L.filter f).map hv := by
  unfold outOf
  rw [List.take_length]
/-- one turn -/
theorem turnF {α : Type} {L : List α} {f : α → Bool} {hv vv : α → V} {j : Nat} {z : α} (hD : H D = none) (hl : L.length ≤ 1000) (hz : L[j]? = some z)
    (ht : ∀ (z : α) (H' : Hp) (R : Bool → Hp → Prop), z ∈ L → Ext H H' → R (f z) H' → tt ((wipe σ [i]).set i (some (vv z))) H' R)
    (he : ∀ (z : α) (H' : Hp) (R : VK), z ∈ L → Ext H H' → R (hv z) H' → te ((wipe σ [i]).set i (some (vv z))) H' R) :
    gName i (vv z) (wipe σ [i]) (upd H D (.lst (outOf L f hv j))) fun σ2 H2 => wipe σ2 [i] = wipe σ [i] ∧ tt σ2 H2 fun b H3 =>
      if b = true then te σ2 H3 fun y H4 => ∃ acc, H4 D = some (.lst acc) ∧ acc.length < sizeLine ∧ upd H4 D (.lst (acc ++ [y])) = upd H D (.lst (outOf L f hv (j + 1))) else H3 = upd H D (.lst (outOf L f hv (j + 1))) := by
  have hm := List.mem_of_getElem? hz
  refine ⟨wipe_back σ i _, ht z _ _ hm (Ext.upd hD) ?_⟩
  cases c : f z with
  | true =>
    refine iteT (he z _ _ hm (Ext.upd hD) ⟨_, upd_same, outOf_len hl, ?_⟩)
    rw [upd_upd, outOf_yes hz c]
  | false =>
    refine iteF ?_
    rw [outOf_no hz c]
theorem mapGet {α : Type} {L : List α} {vv : α → V} {j : Nat} {y : V} (h : (L.map vv)[j]? = some y) : ∃ z, L[j]? = some z ∧ y = vv z := by
  rw [List.getElem?_map] at h
  cases e : L[j]? with
  | none => rw [e] at h; cases h
  | some z => rw [e] at h; exact ⟨z, rfl, (Option.some.inj h).symm⟩
theorem compT {α : Type} (L : List α) (vv : α → V) (f : α → Bool) (hv : α → V) (hs : SqT K H a (L.map vv)) (hD : H D = none) (hl : L.length ≤ 1000)
    (ht : ∀ (z : α) (H' : Hp) (R : Bool → Hp → Prop), z ∈ L → Ext H H' → R (f z) H' → tt ((wipe σ [i]).set i (some (vv z))) H' R)
    (he : ∀ (z : α) (H' : Hp) (R : VK), z ∈ L → Ext H H' → R (hv z) H' → te ((wipe σ [i]).set i (some (vv z))) H' R) (q : Qd (upd H D (.lst ((L.filter f).map hv)))) :
    ∃ W : Nat → Nat → Hp → Prop, (∃ m, W 0 m (upd H D (.lst []))) ∧ ∀ j m H, W j m H →
      ((Itt K a).stop j H ∧ Qd H) ∨ ((Itt K a).go j H ∧ ∃ Nx : Hp → Prop, (∀ H', Nx H' → ∃ m', m' < m ∧ W (j + 1) m' H') ∧ ∀ x H', (Itt K a).yld j H x H' → gName i x (wipe σ [i]) H' fun σ2 H2 => wipe σ2 [i] = wipe σ [i] ∧ tt σ2 H2 fun b H3 =>
        if b = true then te σ2 H3 fun y H4 => ∃ acc, H4 D = some (.lst acc) ∧ acc.length < sizeLine ∧ Nx (upd H4 D (.lst (acc ++ [y]))) else Nx H3) := by
  refine lc_tup (K := K) (a := a) (xs := L.map vv) (fun j H' => H' = upd H D (.lst (outOf L f hv j))) rfl (fun j H' _ e => by rw [e]; exact hs.ext (Ext.upd hD)) ?_ ?_
  · rintro j y H' hj rfl
    obtain ⟨z, hz, rfl⟩ := mapGet hj
    exact turnF hD hl hz ht he
  · rintro H' rfl
    rw [List.length_map, outOf_all]
    exact q
theorem compL {α : Type} (L : List α) (vv : α → V) (f : α → Bool) (hv : α → V) (hs : SqL K H a (L.map vv)) (hD : H D = none) (hl : L.length ≤ 1000)
    (ht : ∀ (z : α) (H' : Hp) (R : Bool → Hp → Prop), z ∈ L → Ext H H' → R (f z) H' → tt ((wipe σ [i]).set i (some (vv z))) H' R)
    (he : ∀ (z : α) (H' : Hp) (R : VK), z ∈ L → Ext H H' → R (hv z) H' → te ((wipe σ [i]).set i (some (vv z))) H' R) (q : Qd (upd H D (.lst ((L.filter f).map hv)))) :
    ∃ W : Nat → Nat → Hp → Prop, (∃ m, W 0 m (upd H D (.lst []))) ∧ ∀ j m H, W j m H →
      ((Itl K a).stop j H ∧ Qd H) ∨ ((Itl K a).go j H ∧ ∃ Nx : Hp → Prop, (∀ H', Nx H' → ∃ m', m' < m ∧ W (j + 1) m' H') ∧ ∀ x H', (Itl K a).yld j H x H' → gName i x (wipe σ [i]) H' fun σ2 H2 => wipe σ2 [i] = wipe σ [i] ∧ tt σ2 H2 fun b H3 =>
        if b = true then te σ2 H3 fun y H4 => ∃ acc, H4 D = some (.lst acc) ∧ acc.length < sizeLine ∧ Nx (upd H4 D (.lst (acc ++ [y]))) else Nx H3) := by
  refine lc_list (K := K) (a := a) (xs := L.map vv) (fun j H' => H' = upd H D (.lst (outOf L f hv j))) rfl (fun j H' _ e => by rw [e]; exact hs.ext (Ext.upd hD)) ?_ ?_
  · rintro j y H' hj rfl
    obtain ⟨z, hz, rfl⟩ := mapGet hj
    exact turnF hD hl hz ht he
  · rintro H' rfl
    rw [List.length_map, outOf_all]
    exact q
/-- lo, lo + 1, .. -/
def upL (lo : Int) (n : Nat) : List Int := (List.range n).map fun j : Nat => lo + (j : Int)
theorem upL_at {lo : Int} {n j : Nat} (h : j < n) : (upL lo n)[j]? = some (lo + (j : Int)) := by
  unfold upL
  rw [List.getElem?_map, List.getElem?_range h]
  rfl
theorem upL_len (lo : Int) (n : Nat) : (upL lo n).length = n := by simp [upL]
theorem compR (lo : Int) (n : Nat) (f : Int → Bool) (hv : Int → V) (hD : H D = none) (hl : n ≤ 1000)
    (ht : ∀ (z : Int) (H' : Hp) (R : Bool → Hp → Prop), z ∈ upL lo n → Ext H H' → R (f z) H' → tt ((wipe σ [i]).set i (some (.int z))) H' R)
    (he : ∀ (z : Int) (H' : Hp) (R : VK), z ∈ upL lo n → Ext H H' → R (hv z) H' → te ((wipe σ [i]).set i (some (.int z))) H' R) (q : Qd (upd H D (.lst (((upL lo n).filter f).map hv)))) :
    ∃ W : Nat → Nat → Hp → Prop, (∃ m, W 0 m (upd H D (.lst []))) ∧ ∀ j m H, W j m H →
      ((Itr lo n).stop j H ∧ Qd H) ∨ ((Itr lo n).go j H ∧ ∃ Nx : Hp → Prop, (∀ H', Nx H' → ∃ m', m' < m ∧ W (j + 1) m' H') ∧ ∀ x H', (Itr lo n).yld j H x H' → gName i x (wipe σ [i]) H' fun σ2 H2 => wipe σ2 [i] = wipe σ [i] ∧ tt σ2 H2 fun b H3 =>
        if b = true then te σ2 H3 fun y H4 => ∃ acc, H4 D = some (.lst acc) ∧ acc.length < sizeLine ∧ Nx (upd H4 D (.lst (acc ++ [y]))) else Nx H3) := by
  refine lc_range (lo := lo) (n := n) (fun j H' => H' = upd H D (.lst (outOf (upL lo n) f hv j))) rfl ?_ ?_
  · rintro j H' hj rfl
    exact turnF (vv := V.int) hD (by rw [upL_len]; exact hl) (upL_at hj) ht he
  · rintro H' rfl
    have e := outOf_all (upL lo n) f hv
    rw [upL_len] at e
    rw [e]
    exact q
theorem noTest {i : Nat} {σ : L2.St} {H : Hp} {α : Type} {vv : α → V} {L : List α} : ∀ (z : α) (H' : Hp) (R : Bool → Hp → Prop), z ∈ L → Ext H H' → R ((fun _ => true) z) H' → tYes ((wipe σ [i]).set i (some (vv z))) H' R := fun _ _ _ _ _ q => q
theorem filterAll {α : Type} (L : List α) : L.filter (fun _ => true) = L := List.filter_eq_self.mpr fun _ _ => rfl
end
theorem pz {j : Int} (h : 0 < j) : 0 < j := h
theorem Paired.at {α β : Type} {F : α → β → Prop} : ∀ {xs : List α} {ys : List β} {i : Nat} {x : α}, Paired F xs ys → xs[i]? = some x → ∃ y, ys[i]? = some y ∧ F x y
  | _, _, _, _, .nil, e => by simp at e
  | _, _, 0, _, .cons r _, e => by simp at e; subst e; exact ⟨_, rfl, r⟩
  | _, _, i + 1, x, .cons _ t, e => by
    obtain ⟨u, h1, h2⟩ := Paired.at (i := i) (x := x) t (by simpa using e)
    exact ⟨u, by simpa using h1, h2⟩
/-- rights stay where a list is written -/
theorem RtAt.put {C p l : Addr} {H : Hp} {S : Int → Bool} {xs ys : List V} (r : RtAt C H p S) (h : H l = some (.lst xs)) : RtAt C (upd H l (.lst ys)) p S := by
  obtain ⟨dx, t, h1, h2⟩ := r
  exact ⟨dx, t, by rw [upd_ne (ne_of h1 h (by intro z; cases z))]; exact h1, by rw [upd_ne (ne_of h2 h (by intro z; cases z))]; exact h2⟩
/-- a list of ints is no list that begins with an object -/
theorem ints_refs {ns : List Int} {a : Addr} {r : List V} (h : HO.lst (ns.map V.int) = HO.lst (.ref a :: r)) : False := by
  injection h with h
  cases ns with
  | nil => cases h
  | cons n ns => injection h with h _; cases h
theorem RtAt.ob {C p : Addr} {H : Hp} {S : Int → Bool} (r : RtAt C H p S) : ∃ dx fs, H p = some (.ins C dx fs) := let ⟨dx, _, h, _⟩ := r; ⟨dx, _, h⟩
/-- a op b of two rights -/
theorem rtBin {C a b : Addr} {H : Hp} {S T : Int → Bool} {g : Bool → Bool → Bool} {Q : VK} {E : XK} (ra : RtAt C H a S) (rb : RtAt C H b T) (k : ∀ x H', Ext H H' → H x = none → RtAt C H' x (fun k => g (S k) (T k)) → Q (.ref x) H') : rOwn C (spBin C g) E (.ref a) (.ref b) H Q := by
  obtain ⟨dx, fs, ha⟩ := ra.ob
  obtain ⟨dy, gs, hb⟩ := rb.ob
  exact ⟨a, b, dx, dy, fs, gs, rfl, rfl, ha, hb, a, b, S, T, rfl, ra, rb, k⟩
theorem rtEq {C a b : Addr} {H : Hp} {S T : Int → Bool} {Q : VK} {E : XK} (ra : RtAt C H a S) (rb : RtAt C H b T) (k : Q (.bl (decide (ks S = ks T))) H) : rOwnEq C (spEqR C) E (.ref a) (.ref b) H Q := by
  obtain ⟨dx, fs, ha⟩ := ra.ob
  obtain ⟨dy, gs, hb⟩ := rb.ob
  exact ⟨a, b, dx, dy, fs, gs, rfl, rfl, ha, hb, a, b, S, T, rfl, ra, rb, k⟩
/-- Rights(xs), the new object at x -/
theorem mkRx {K : PySem.W.Frag} {C a : Addr} {H : Hp} {ns : List Int} {R : VK} {E : XK} (hs : SqL K H a (ns.map V.int) ∨ SqT K H a (ns.map V.int)) (hl : ns.length < 64) (hb : ∀ n ∈ ns, 0 ≤ n ∧ n ≤ 15) {x dx : Addr} (nx : H x = none) (ndx : H dx = none) (ne : dx ≠ x)
    (k : ∀ H2, Ext H H2 → RtAt C H2 x (fun j => decide (j ∈ ns)) → R .non H2) : spInit K C [.ref x, .ref a] (upd (upd H dx (.own x)) x (.ins C dx [])) R E := by
  have e0 : Ext H (upd (upd H dx (.own x)) x (.ins C dx [])) := (Ext.upd ndx).trans (Ext.upd (by rw [upd_ne (Ne.symm ne)]; exact nx))
  exact ⟨x, dx, a, ns, rfl, upd_same, hs.imp (fun h => h.ext e0) (fun h => h.ext e0), hl, hb, fun H' r kp => k H' (fun b o e => kp b o (e0 b o e) (ne_of_none e nx)) r⟩
/-- tuple(sorted(set(xs))) of a list of keys -/
theorem sortedSet {K : PySem.W.Frag} {w : World} {H : Hp} {a : Addr} {ns : List Int} {Q : VK} (hs : SqL K H a (ns.map V.int)) (hl : ns.length < 64) (hb : ∀ n ∈ ns, 0 ≤ n ∧ n ≤ 15)
    (k : ∀ t H', Ext H H' → SqT K H' t ((ks fun j => decide (j ∈ ns)).map V.int) → Q (.ref t) H') : rSetOf K w [.ref a] H fun x H1 => rSortedSet w [x] H1 fun y H2 => rTupleK K [y] H2 Q := by
  refine ⟨a, ns, rfl, .inl hs, by omega, fun q c hq hc => ⟨q, _, _, rfl, upd_same, by omega, fun ms m hso hmem hlen hm => ⟨m, _, rfl, .inl ⟨SqL.of upd_same, fun t ht => ?_⟩⟩⟩⟩
  have em : ms = ks fun j => decide (j ∈ ns) := ks_uniq hso fun j => by
    rw [hmem j]
    constructor
    · intro z
      have := hb j (of_decide_eq_true z)
      exact ⟨⟨this.1, by omega⟩, z⟩
    · exact fun z => z.2
  refine k t _ ((Ext.upd hq).trans ((Ext.upd hm).trans (Ext.upd ht))) ?_
  rw [← em]
  exact SqT.of upd_same
theorem sortedKs {ns ms : List Int} (hso : ms.Pairwise (· < ·)) (hmem : ∀ k : Int, k ∈ ms ↔ decide (k ∈ ns) = true) (hb : ∀ n ∈ ns, 0 ≤ n ∧ n ≤ 15) : ms = ks fun j => decide (j ∈ ns) := ks_uniq hso fun j => by
  rw [hmem j]
  constructor
  · intro z
    have := hb j (of_decide_eq_true z)
    exact ⟨⟨this.1, by omega⟩, z⟩
  · exact fun z => z.2
end Ow

namespace K04
open PySem PySem.Spec PyProof.Rows L2 Ow
def top (i : Nat) : Stmt := PySem.Challenge.pw_keysfewest_k04_whole_rights_fold.main.body.getD i (.Pass ⟨0, 0, 0, 0⟩)
abbrev Sis_key : Stmt := top 6
abbrev SRights_init : Stmt := inClass (top 7) 0
abbrev SRights_or : Stmt := inClass (top 7) 4
abbrev SRights_and : Stmt := inClass (top 7) 5
abbrev SRights_sub : Stmt := inClass (top 7) 6
abbrev SRights_xor : Stmt := inClass (top 7) 7
abbrev SRights_contains : Stmt := inClass (top 7) 8
abbrev SRights_len : Stmt := inClass (top 7) 9
abbrev SRights_eq : Stmt := inClass (top 7) 10
abbrev S_law_mix : Stmt := top 9
abbrev S_law_keys : Stmt := top 10
abbrev S_law_step : Stmt := top 11
abbrev Slaw : Stmt := top 12
theorem scis_key : FnScope ["number"] ["number"] (defScope Sis_key) := ⟨rfl, rfl, rfl, by decide +kernel, rfl, by decide +kernel, by decide +kernel⟩
theorem scRights_init : FnScope ["self", "numbers", "given", "number"] ["self", "numbers"] (defScope SRights_init) := ⟨rfl, rfl, rfl, by decide +kernel, rfl, by decide +kernel, by decide +kernel⟩
theorem scRights_or : FnScope ["self", "other"] ["self", "other"] (defScope SRights_or) := ⟨rfl, rfl, rfl, by decide +kernel, rfl, by decide +kernel, by decide +kernel⟩
theorem scRights_and : FnScope ["self", "other", "number"] ["self", "other"] (defScope SRights_and) := ⟨rfl, rfl, rfl, by decide +kernel, rfl, by decide +kernel, by decide +kernel⟩
theorem scRights_sub : FnScope ["self", "other", "number"] ["self", "other"] (defScope SRights_sub) := ⟨rfl, rfl, rfl, by decide +kernel, rfl, by decide +kernel, by decide +kernel⟩
theorem scRights_xor : FnScope ["self", "other", "both", "number"] ["self", "other"] (defScope SRights_xor) := ⟨rfl, rfl, rfl, by decide +kernel, rfl, by decide +kernel, by decide +kernel⟩
theorem scRights_contains : FnScope ["self", "number"] ["self", "number"] (defScope SRights_contains) := ⟨rfl, rfl, rfl, by decide +kernel, rfl, by decide +kernel, by decide +kernel⟩
theorem scRights_len : FnScope ["self"] ["self"] (defScope SRights_len) := ⟨rfl, rfl, rfl, by decide +kernel, rfl, by decide +kernel, by decide +kernel⟩
theorem scRights_eq : FnScope ["self", "other"] ["self", "other"] (defScope SRights_eq) := ⟨rfl, rfl, rfl, by decide +kernel, rfl, by decide +kernel, by decide +kernel⟩
theorem sc_law_mix : FnScope ["_law_cell", "_law_spot", "_law_number", "_law_k", "_law_seed"] ["_law_cell", "_law_spot"] (defScope S_law_mix) := ⟨rfl, rfl, rfl, by decide +kernel, rfl, by decide +kernel, by decide +kernel⟩
theorem sc_law_keys : FnScope ["_law_cell", "_law_k"] ["_law_cell"] (defScope S_law_keys) := ⟨rfl, rfl, rfl, by decide +kernel, rfl, by decide +kernel, by decide +kernel⟩
theorem sc_law_step : FnScope ["_law_held", "_law_keys_here", "_law_kind", "_law_key"] ["_law_held", "_law_keys_here", "_law_kind"] (defScope S_law_step) := ⟨rfl, rfl, rfl, by decide +kernel, rfl, by decide +kernel, by decide +kernel⟩
theorem sclaw : FnScope ["_law_script", "_law_held", "_law_rights", "_law_told", "_law_dues", "_law_cell", "_law_kind", "_law_keys_here", "_law_other", "_law_later", "_law_one"] ["_law_script"] (defScope Slaw) := ⟨rfl, rfl, rfl, by decide +kernel, rfl, by decide +kernel, by decide +kernel⟩
def dis_key : He.DefD := ⟨("is_key", none), "is_key", "is_key", defArgs Sis_key, defBody Sis_key, defScope Sis_key, [], []⟩
def dRights_init : He.DefD := ⟨("Rights", some "__init__"), "__init__", "Rights.__init__", defArgs SRights_init, defBody SRights_init, defScope SRights_init, [(.adr (He.dflAt ("Rights", some "__init__") 0))], []⟩
def dRights_or : He.DefD := ⟨("Rights", some "__or__"), "__or__", "Rights.__or__", defArgs SRights_or, defBody SRights_or, defScope SRights_or, [], []⟩
def dRights_and : He.DefD := ⟨("Rights", some "__and__"), "__and__", "Rights.__and__", defArgs SRights_and, defBody SRights_and, defScope SRights_and, [], []⟩
def dRights_sub : He.DefD := ⟨("Rights", some "__sub__"), "__sub__", "Rights.__sub__", defArgs SRights_sub, defBody SRights_sub, defScope SRights_sub, [], []⟩
def dRights_xor : He.DefD := ⟨("Rights", some "__xor__"), "__xor__", "Rights.__xor__", defArgs SRights_xor, defBody SRights_xor, defScope SRights_xor, [], []⟩
def dRights_contains : He.DefD := ⟨("Rights", some "__contains__"), "__contains__", "Rights.__contains__", defArgs SRights_contains, defBody SRights_contains, defScope SRights_contains, [], []⟩
def dRights_len : He.DefD := ⟨("Rights", some "__len__"), "__len__", "Rights.__len__", defArgs SRights_len, defBody SRights_len, defScope SRights_len, [], []⟩
def dRights_eq : He.DefD := ⟨("Rights", some "__eq__"), "__eq__", "Rights.__eq__", defArgs SRights_eq, defBody SRights_eq, defScope SRights_eq, [], []⟩
def d_law_mix : He.DefD := ⟨("_law_mix", none), "_law_mix", "_law_mix", defArgs S_law_mix, defBody S_law_mix, defScope S_law_mix, [], []⟩
def d_law_keys : He.DefD := ⟨("_law_keys", none), "_law_keys", "_law_keys", defArgs S_law_keys, defBody S_law_keys, defScope S_law_keys, [], []⟩
def d_law_step : He.DefD := ⟨("_law_step", none), "_law_step", "_law_step", defArgs S_law_step, defBody S_law_step, defScope S_law_step, [], []⟩
def dlaw : He.DefD := ⟨("law", none), "law", "law", defArgs Slaw, defBody Slaw, defScope Slaw, [], []⟩
def fn : List He.DefD := [dis_key, dRights_init, dRights_or, dRights_and, dRights_sub, dRights_xor, dRights_contains, dRights_len, dRights_eq, d_law_mix, d_law_keys, d_law_step, dlaw]
def fa : List He.Fa := [.glo "is_key", .glo "_law_mix", .glo "_law_keys", .glo "_law_step", .glo "law", .glo "Rights", .cls "Rights", .mkr "Rights", .noat "Rights" "numbers", .meth "Rights" "__or__", .meth "Rights" "__and__", .meth "Rights" "__sub__", .meth "Rights" "__xor__", .meth "Rights" "__contains__", .meth "Rights" "__len__", .meth "Rights" "__eq__", .int "MOST" 15, .free "int", .free "isinstance", .free "len", .free "list", .free "range", .free "set", .free "sorted", .free "tuple"]
def ex : PySem.W.Frag → Bool := fun K => Ow.isiB K (He.ga K "Rights") && PySem.W.selfFirst K (He.ga K "Rights")
def loose : List PySem.Str := ["_wall", "FewError", "BadKey", "MOST", "is_key", "Rights", "_law_mix", "_law_keys", "_law_step"]
abbrev R : PySem.W.OpenRow := PySem.W.OpenLaw.row PySem.Challenge.rw_keysfewest_k04_whole_rights_fold
abbrev hk : PySem.W.Hook := Ow.hookM 4 fa fn ex
def ob (s : PySem.W.SharedT) : He.AlD × Bool := Ow.obsM 4 fa fn ex (HandSHeadRun.getT s)
theorem ob_eq (s : PySem.W.SharedT) : ob s = hk.obs s.abs := Ow.obsM_eq (HandSHeadRun.getT_eq s)
theorem run (w : World) : HandSHeadRun.RunEq R (PySem.W.view R.prog [12]) hk ob 3000 loose w := by
  intro os
  kernel_rfl
structure Txt (K : PySem.W.Frag) (mg : Str → Option Value) : Prop where
  z_int : mg "int" = none
  z_isinstance : mg "isinstance" = none
  z_len : mg "len" = none
  z_list : mg "list" = none
  z_range : mg "range" = none
  z_set : mg "set" = none
  z_sorted : mg "sorted" = none
  z_tuple : mg "tuple" = none
  g_Rights : mg "Rights" = some (.ref (He.ga K "Rights"))
  cl_Rights : Cls K (He.ga K "Rights")
  mk_Rights : Mk K (He.ga K "Rights") (He.ma K (He.ga K "Rights") "__init__")
  na_Rights_numbers : NoAttr K (He.ga K "Rights") "numbers"
  m_Rights_or : Meth K (He.ga K "Rights") "__or__" (He.ma K (He.ga K "Rights") "__or__")
  m_Rights_and : Meth K (He.ga K "Rights") "__and__" (He.ma K (He.ga K "Rights") "__and__")
  m_Rights_sub : Meth K (He.ga K "Rights") "__sub__" (He.ma K (He.ga K "Rights") "__sub__")
  m_Rights_xor : Meth K (He.ga K "Rights") "__xor__" (He.ma K (He.ga K "Rights") "__xor__")
  m_Rights_contains : Meth K (He.ga K "Rights") "__contains__" (He.ma K (He.ga K "Rights") "__contains__")
  m_Rights_len : Meth K (He.ga K "Rights") "__len__" (He.ma K (He.ga K "Rights") "__len__")
  m_Rights_eq : Meth K (He.ga K "Rights") "__eq__" (He.ma K (He.ga K "Rights") "__eq__")
  c_MOST : ∃ t, mg "MOST" = some (.int 15 t)
  i_Rights : Ow.IsiC K (He.ga K "Rights")
  sf_Rights : PySem.W.selfFirst K (He.ga K "Rights") = true
end K04

namespace K04
open PySem PySem.Spec PyProof.Rows L2 Ow
section
variable {P : Program} {w : World} {K : PySem.W.Frag} {mg : Str → Option Value} {base : Heap}
theorem ok_is_key {f : Addr} {fd : FuncData} (F : FunD K "is_key" "is_key" (defArgs Sis_key) (defBody Sis_key) (defScope Sis_key) [] [] f fd) (T : Txt K mg)  : FnOk P w K mg base CX0 1 f fd ["number"] (Ow.spIsKey) := by
  obtain ⟨_, gMOST⟩ := T.c_MOST
  refine F.ok scis_key (fun vs H Q E h => ?_) (fun cdv A outer s H vs Q E hr h => ?_)
  · obtain ⟨n, rfl, _⟩ := h
    rfl
  · obtain ⟨n, rfl, q⟩ := h
    refine ⟨_, PSs.nox (pss_one (ps_ret (pe_chain op_le op_le pe_int (pv 0) (pe_glob (v := .int 15) rfl gMOST ⟨_, rfl⟩)))), ?_⟩
    refine ⟨_, rfl, _, _, rfl, rfl, _, rfl, ?_⟩
    by_cases c : (0 : Int) ≤ n
    · rw [if_pos (by simpa using c)]
      refine ⟨_, _, rfl, rfl, ?_⟩
      have e : decide (n ≤ 15) = decide (0 ≤ n ∧ n ≤ 15) := by simp [c]
      show Q (.bl (decide (n ≤ 15))) H
      rw [e]
      exact q
    · rw [if_neg (by simpa using c)]
      have e : false = decide (0 ≤ n ∧ n ≤ 15) := by simp [c]
      rw [e]
      exact q

theorem ok_Rights_init {f : Addr} {fd : FuncData} (F : FunD K "__init__" "Rights.__init__" (defArgs SRights_init) (defBody SRights_init) (defScope SRights_init) [He.Dv.v K (.adr (He.dflAt ("Rights", some "__init__") 0))] [] f fd) (T : Txt K mg) (Gis_key : Ow.Glob P w K mg base CX0 1 "is_key" ["number"] Ow.spIsKey) : FnOk P w K mg base CX0 2 f fd ["self", "numbers"] (Ow.spInit K (He.ga K "Rights")) := by
  refine F.ok scRights_init (fun vs H Q E h => ?_) (fun cdv A outer s H vs Q E hr h => ?_)
  · obtain ⟨p, dx, a, ns, rfl, _⟩ := h
    rfl
  · obtain ⟨p, dx, a, ns, rfl, hp, hs, hl, hb, k⟩ := h
    refine ⟨_, PSs.nox (pss_cons (ps_set (i := 2) scRights_init.nd rfl (by first | exact Or.inl rfl | exact Or.inr rfl) (pe_callTy (klist (K := K)) (by rfl) T.z_list (by decide +kernel) (pa_cons (pv 1) pa_nil)))
      (pss_cons (ps_for PassesOwn.never rfl (kpl (K := K) (pv 2)) (pg_name (i := 3) scRights_init.nd rfl (by first | exact Or.inl rfl | exact Or.inr rfl))
       (pss_one (ps_if (pt_not (pt_val (pe_g Gis_key (hr.mono (by decide)) pass0 (pa_cons (pv 3) pa_nil)))) (pss_one (ps_never)) pss_nil)))
      (pss_one (ps_fld (pv 0) (pe_callTy (ktuple (K := K)) (by rfl) T.z_tuple (by decide +kernel) (pa_cons (pe_callB (ksorted (w := w) rfl) (by rfl) T.z_sorted (by decide +kernel) (pa_cons (pe_callTy (kset (K := K) (w := w) rfl) (by rfl) T.z_set boot_set (pa_cons (pv 2) pa_nil)) pa_nil)) pa_nil)) rfl)))), ?_⟩
    -- given = list(numbers)
    refine ⟨_, rfl, a, _, rfl, hs, fun l hl0 => ?_⟩
    have npl : p ≠ l := ne_of_none hp hl0
    -- for number in given
    refine ⟨_, rfl, l, rfl, ⟨_, SqL.of upd_same⟩, for_list (K := K) (a := l) (xs := ns.map V.int) (fun i σ H' => ∃ v, σ = [some (.ref p), some (.ref a), some (.ref l), v] ∧ H' = upd H l (.lst (ns.map V.int)))
      ⟨none, rfl, rfl⟩ (fun i σ H' _ ⟨_, _, e⟩ => by rw [e]; exact SqL.of upd_same) ?_ ?_⟩
    · rintro i y σ H' hi ⟨v, rfl, rfl⟩
      obtain ⟨z, hz, rfl⟩ : ∃ z, z ∈ ns ∧ y = V.int z := by
        have := List.mem_of_getElem? hi
        obtain ⟨z, h1, h2⟩ := List.mem_map.mp this
        exact ⟨z, h1, h2.symm⟩
      have e : decide (0 ≤ z ∧ z ≤ 15) = true := decide_eq_true (hb z hz)
      refine ⟨_, rfl, z, rfl, _, rfl, ?_⟩
      rw [e]
      exact iteF ⟨_, rfl, rfl⟩
    · rintro σ H' ⟨v, rfl, rfl⟩
      -- self.numbers = tuple(sorted(set(given)))
      refine ⟨_, rfl, l, ns, rfl, .inl (SqL.of upd_same), by omega, fun q c hq hc => ?_⟩
      have npq : p ≠ q := ne_of_none (H := upd H l (.lst (ns.map V.int))) (by rw [upd_ne npl]; exact hp) hq
      refine ⟨q, _, _, rfl, upd_same, by omega, fun ms m hso hmem hlen hm => ?_⟩
      have npm : p ≠ m := ne_of_none (H := upd (upd H l (.lst (ns.map V.int))) q _) (by rw [upd_ne npq, upd_ne npl]; exact hp) hm
      refine ⟨m, _, rfl, .inl ⟨SqL.of upd_same, fun t ht => ?_⟩⟩
      have npt : p ≠ t := ne_of_none (H := upd (upd (upd H l (.lst (ns.map V.int))) q _) m _) (by rw [upd_ne npm, upd_ne npq, upd_ne npl]; exact hp) ht
      refine ⟨_, rfl, p, _, dx, [], rfl, by rw [upd_ne npt, upd_ne npm, upd_ne npq, upd_ne npl]; exact hp, T.cl_Rights, T.na_Rights_numbers, by show 0 < 1000; decide, ?_⟩
      have em : ms = Ow.ks fun j => decide (j ∈ ns) := Ow.ks_uniq hso fun j => by
        rw [hmem j]
        constructor
        · intro z
          have := hb j (of_decide_eq_true z)
          exact ⟨⟨this.1, by omega⟩, z⟩
        · exact fun z => z.2
      refine k _ ⟨dx, t, upd_same, by rw [upd_ne npt.symm, ← em]; exact upd_same⟩ fun b o e hbp => ?_
      have e1 : upd H l (.lst (ns.map V.int)) b = some o := by rw [upd_ne (ne_of_none e hl0)]; exact e
      have e2 := Ext.upd (o := SetO w q (fun j => decide (j ∈ ns)) c) hq b o e1
      have e3 := Ext.upd (o := .lst (ms.map V.int)) hm b o e2
      have e4 := Ext.upd (o := .tup (ms.map V.int)) ht b o e3
      rw [upd_ne hbp]
      exact e4

theorem ok_Rights_or {f : Addr} {fd : FuncData} (F : FunD K "__or__" "Rights.__or__" (defArgs SRights_or) (defBody SRights_or) (defScope SRights_or) [] [] f fd) (T : Txt K mg) (GRights : Ow.Maker P w K mg base CX0 2 "Rights" (He.ga K "Rights") ["self", "numbers"] [] (Ow.spInit K (He.ga K "Rights"))) : FnOk P w K mg base CX0 4 f fd ["self", "other"] (Ow.spBin (He.ga K "Rights") (· || ·)) := by
  refine F.ok scRights_or (fun vs H Q E h => ?_) (fun cdv A outer s H vs Q E hr h => ?_)
  · obtain ⟨a, b, S, T', rfl, _⟩ := h
    rfl
  · obtain ⟨a, b, S, S2, rfl, ra, rb, k⟩ := h
    obtain ⟨dx, t, ha, ht⟩ := id ra
    obtain ⟨dy, u, hb, hu⟩ := id rb
    have l1 := Ow.ks_len S
    have l2 := Ow.ks_len S2
    refine ⟨_, PSs.nox (pss_one (ps_ret (pe_mk GRights (hr.mono (by decide)) pass0 (pa_cons (pe_op (kcat (K := K)) (kfld (K := K) (pv 0)) (kfld (K := K) (pv 1))) pa_nil)))), ?_⟩
    have cat : ∀ (Q : VK), (∀ p H', Ext H H' → SqT K H' p ((Ow.ks S ++ Ow.ks S2).map V.int) → Q (.ref p) H') → tOp (rCatA K) (tFld K (tVar 0) "numbers") (tFld K (tVar 1) "numbers") (start ["self", "other"] [.ref a, .ref b]) H Q := fun Q kq => by
      refine ⟨_, rfl, a, _, dx, _, _, rfl, ha, T.cl_Rights, T.na_Rights_numbers, Ow.lk1, _, rfl, b, _, dy, _, _, rfl, hb, T.cl_Rights, T.na_Rights_numbers, Ow.lk1, t, u, _, _, rfl, rfl, SqT.of ht, SqT.of hu, by simp only [List.length_map]; exact Ow.few16 (by omega), fun z => ?_, fun _ z => ?_, fun _ _ p hp => ?_⟩
      · refine kq _ _ Ext.rfl' ?_
        rw [List.map_append, z]
        exact SqT.of hu
      · refine kq _ _ Ext.rfl' ?_
        rw [List.map_append, z, List.append_nil]
        exact SqT.of ht
      · refine kq _ _ (Ext.upd hp) ?_
        rw [List.map_append]
        exact SqT.of upd_same
    refine cat _ fun p H' e hp => Ow.mkRt (.inr hp) (by rw [List.length_append]; omega) (fun n hn => ?_) (fun x H2 e2 nx r => k x H2 (e.trans e2) (Ow.Ext.free e nx) (r.congr fun j h0 h1 => ?_))
    · rcases List.mem_append.mp hn with z | z
      · have := (Ow.mem_ks.mp z).1; omega
      · have := (Ow.mem_ks.mp z).1; omega
    · rw [Bool.eq_iff_iff, decide_eq_true_iff, List.mem_append, Ow.mem_ks, Ow.mem_ks, Bool.or_eq_true]
      simp [h0, h1]

theorem ok_Rights_and {f : Addr} {fd : FuncData} (F : FunD K "__and__" "Rights.__and__" (defArgs SRights_and) (defBody SRights_and) (defScope SRights_and) [] [] f fd) (T : Txt K mg) (GRights : Ow.Maker P w K mg base CX0 2 "Rights" (He.ga K "Rights") ["self", "numbers"] [] (Ow.spInit K (He.ga K "Rights"))) : FnOk P w K mg base CX0 4 f fd ["self", "other"] (Ow.spBin (He.ga K "Rights") (· && ·)) := by
  refine F.ok scRights_and (fun vs H Q E h => ?_) (fun cdv A outer s H vs Q E hr h => ?_)
  · obtain ⟨a, b, S, T', rfl, _⟩ := h
    rfl
  · obtain ⟨a, b, S, S2, rfl, ra, rb, k⟩ := h
    obtain ⟨dx, t, ha, ht⟩ := id ra
    obtain ⟨dy, u, hb, hu⟩ := id rb
    have l1 := Ow.ks_len S
    have l2 := Ow.ks_len S2
    refine ⟨_, PSs.nox (pss_one (ps_ret (pe_mk GRights (hr.mono (by decide)) pass0 (pa_cons (pe_lc (own := [("number", 2)]) rfl scRights_and.nd (kpt (K := K) (kfld (K := K) (pv 0))) (blkOk_by (own := [("number", 2)]) (N := ["self", "other", "number"]) (sc := defScope SRights_and) (by decide +kernel)) (fun _ _ _ _ _ => by exact pg_name (i := 2) scRights_and.nd rfl (by first | exact Or.inl rfl | exact Or.inr rfl)) (fun _ _ _ _ _ => by exact pts_one (pt_cmpR (kin (K := K)) (pv 2) (kfld (K := K) (pv 1)) (by rfl))) (fun _ _ _ _ _ => by exact (pv 2))) pa_nil)))), ?_⟩
    refine ⟨_, rfl, a, _, dx, _, _, rfl, ha, T.cl_Rights, T.na_Rights_numbers, Ow.lk1, t, rfl, ⟨_, SqT.of ht⟩, fun D hD => ?_⟩
    refine compT (Ow.ks S) V.int (fun j => decide (j ∈ Ow.ks S2)) V.int (SqT.of ht) hD (by omega) (fun z H' R _ e q => ?_) (fun z H' R _ e q => ⟨_, rfl, q⟩) ?_
    · exact ⟨_, rfl, _, rfl, b, _, dy, _, _, rfl, e _ _ hb, T.cl_Rights, T.na_Rights_numbers, Ow.lk1, Ow.in_ints (.inr (SqT.of (e _ _ hu))) ⟨_, rfl, q⟩⟩
    · refine Ow.mkRt (ns := (Ow.ks S).filter fun j => decide (j ∈ Ow.ks S2)) (.inl (SqL.of upd_same)) ?_ ?_ ?_
      · exact Nat.lt_of_le_of_lt (List.length_filter_le _ _) (by omega)
      · intro n hn
        have := (Ow.mem_ks.mp (List.mem_filter.mp hn).1).1
        omega
      · intro x H2 e2 nx r
        refine k x H2 ((Ext.upd hD).trans e2) (Ow.Ext.free (Ext.upd hD) nx) (r.congr fun j h0 h1 => ?_)
        rw [Bool.eq_iff_iff, decide_eq_true_iff, List.mem_filter, Ow.mem_ks]
        rw [decide_eq_true_iff, Ow.mem_ks]
        simp [h0, h1]

theorem ok_Rights_sub {f : Addr} {fd : FuncData} (F : FunD K "__sub__" "Rights.__sub__" (defArgs SRights_sub) (defBody SRights_sub) (defScope SRights_sub) [] [] f fd) (T : Txt K mg) (GRights : Ow.Maker P w K mg base CX0 2 "Rights" (He.ga K "Rights") ["self", "numbers"] [] (Ow.spInit K (He.ga K "Rights"))) : FnOk P w K mg base CX0 4 f fd ["self", "other"] (Ow.spBin (He.ga K "Rights") (fun a b => a && !b)) := by
  refine F.ok scRights_sub (fun vs H Q E h => ?_) (fun cdv A outer s H vs Q E hr h => ?_)
  · obtain ⟨a, b, S, T', rfl, _⟩ := h
    rfl
  · obtain ⟨a, b, S, S2, rfl, ra, rb, k⟩ := h
    obtain ⟨dx, t, ha, ht⟩ := id ra
    obtain ⟨dy, u, hb, hu⟩ := id rb
    have l1 := Ow.ks_len S
    have l2 := Ow.ks_len S2
    refine ⟨_, PSs.nox (pss_one (ps_ret (pe_mk GRights (hr.mono (by decide)) pass0 (pa_cons (pe_lc (own := [("number", 2)]) rfl scRights_sub.nd (kpt (K := K) (kfld (K := K) (pv 0))) (blkOk_by (own := [("number", 2)]) (N := ["self", "other", "number"]) (sc := defScope SRights_sub) (by decide +kernel)) (fun _ _ _ _ _ => by exact pg_name (i := 2) scRights_sub.nd rfl (by first | exact Or.inl rfl | exact Or.inr rfl)) (fun _ _ _ _ _ => by exact pts_one (pt_cmpR (knotin (K := K)) (pv 2) (kfld (K := K) (pv 1)) (by rfl))) (fun _ _ _ _ _ => by exact (pv 2))) pa_nil)))), ?_⟩
    refine ⟨_, rfl, a, _, dx, _, _, rfl, ha, T.cl_Rights, T.na_Rights_numbers, Ow.lk1, t, rfl, ⟨_, SqT.of ht⟩, fun D hD => ?_⟩
    refine compT (Ow.ks S) V.int (fun j => !decide (j ∈ Ow.ks S2)) V.int (SqT.of ht) hD (by omega) (fun z H' R _ e q => ?_) (fun z H' R _ e q => ⟨_, rfl, q⟩) ?_
    · exact ⟨_, rfl, _, rfl, b, _, dy, _, _, rfl, e _ _ hb, T.cl_Rights, T.na_Rights_numbers, Ow.lk1, Ow.in_ints (.inr (SqT.of (e _ _ hu))) ⟨_, rfl, q⟩⟩
    · refine Ow.mkRt (ns := (Ow.ks S).filter fun j => !decide (j ∈ Ow.ks S2)) (.inl (SqL.of upd_same)) ?_ ?_ ?_
      · exact Nat.lt_of_le_of_lt (List.length_filter_le _ _) (by omega)
      · intro n hn
        have := (Ow.mem_ks.mp (List.mem_filter.mp hn).1).1
        omega
      · intro x H2 e2 nx r
        refine k x H2 ((Ext.upd hD).trans e2) (Ow.Ext.free (Ext.upd hD) nx) (r.congr fun j h0 h1 => ?_)
        rw [Bool.eq_iff_iff, decide_eq_true_iff, List.mem_filter, Ow.mem_ks]
        rw [Bool.not_eq_true', decide_eq_false_iff_not, Ow.mem_ks]
        simp [h0, h1]

theorem ok_Rights_xor {f : Addr} {fd : FuncData} (F : FunD K "__xor__" "Rights.__xor__" (defArgs SRights_xor) (defBody SRights_xor) (defScope SRights_xor) [] [] f fd) (T : Txt K mg) (GRights : Ow.Maker P w K mg base CX0 2 "Rights" (He.ga K "Rights") ["self", "numbers"] [] (Ow.spInit K (He.ga K "Rights"))) : FnOk P w K mg base CX0 4 f fd ["self", "other"] (Ow.spBin (He.ga K "Rights") (fun a b => a != b)) := by
  refine F.ok scRights_xor (fun vs H Q E h => ?_) (fun cdv A outer s H vs Q E hr h => ?_)
  · obtain ⟨a, b, S, T', rfl, _⟩ := h
    rfl
  · obtain ⟨a, b, S, S2, rfl, ra, rb, k⟩ := h
    obtain ⟨dx, t, ha, ht⟩ := id ra
    obtain ⟨dy, u, hb, hu⟩ := id rb
    have l1 := Ow.ks_len S
    have l2 := Ow.ks_len S2
    refine ⟨_, PSs.nox (pss_cons (ps_set (i := 2) scRights_xor.nd rfl (by first | exact Or.inl rfl | exact Or.inr rfl) (pe_op (kcat (K := K)) (kfld (K := K) (pv 0)) (kfld (K := K) (pv 1))))
      (pss_one (ps_ret (pe_mk GRights (hr.mono (by decide)) pass0 (pa_cons (pe_lc (own := [("number", 3)]) rfl scRights_xor.nd (kpt (K := K) (pv 2)) (blkOk_by (own := [("number", 3)]) (N := ["self", "other", "both", "number"]) (sc := defScope SRights_xor) (by decide +kernel)) (fun _ _ _ _ _ => by exact pg_name (i := 3) scRights_xor.nd rfl (by first | exact Or.inl rfl | exact Or.inr rfl)) (fun _ _ _ _ _ => by exact pts_one (pt_cmpR op_ne (pe_cmpR (kin (K := K)) (pv 3) (kfld (K := K) (pv 0)) (by rfl)) (pe_cmpR (kin (K := K)) (pv 3) (kfld (K := K) (pv 1)) (by rfl)) (nomark _))) (fun _ _ _ _ _ => by exact (pv 3))) pa_nil))))), ?_⟩
    have cat : ∀ (Q : VK), (∀ p H', Ext H H' → SqT K H' p ((Ow.ks S ++ Ow.ks S2).map V.int) → Q (.ref p) H') → tOp (rCatA K) (tFld K (tVar 0) "numbers") (tFld K (tVar 1) "numbers") (start ["self", "other", "both", "number"] [.ref a, .ref b]) H Q := fun Q kq => by
      refine ⟨_, rfl, a, _, dx, _, _, rfl, ha, T.cl_Rights, T.na_Rights_numbers, Ow.lk1, _, rfl, b, _, dy, _, _, rfl, hb, T.cl_Rights, T.na_Rights_numbers, Ow.lk1, t, u, _, _, rfl, rfl, SqT.of ht, SqT.of hu, by simp only [List.length_map]; exact Ow.few16 (by omega), fun z => ?_, fun _ z => ?_, fun _ _ p hp => ?_⟩
      · refine kq _ _ Ext.rfl' ?_
        rw [List.map_append, z]
        exact SqT.of hu
      · refine kq _ _ Ext.rfl' ?_
        rw [List.map_append, z, List.append_nil]
        exact SqT.of ht
      · refine kq _ _ (Ext.upd hp) ?_
        rw [List.map_append]
        exact SqT.of upd_same
    refine cat _ fun p H1 e1 hp => ?_
    have few : (Ow.ks S ++ Ow.ks S2).length ≤ 32 := by rw [List.length_append]; omega
    refine ⟨_, rfl, p, rfl, ⟨_, hp⟩, fun D hD => ?_⟩
    refine compT (Ow.ks S ++ Ow.ks S2) V.int (fun j => decide (j ∈ Ow.ks S) != decide (j ∈ Ow.ks S2)) V.int hp hD (by omega) (fun z H' R _ e q => ?_) (fun z H' R _ e q => ⟨_, rfl, q⟩) ?_
    · refine ⟨_, rfl, _, rfl, a, _, dx, _, _, rfl, e _ _ (e1 _ _ ha), T.cl_Rights, T.na_Rights_numbers, Ow.lk1, Ow.in_ints (.inr (SqT.of (e _ _ (e1 _ _ ht)))) ?_⟩
      refine ⟨_, rfl, _, rfl, b, _, dy, _, _, rfl, e _ _ (e1 _ _ hb), T.cl_Rights, T.na_Rights_numbers, Ow.lk1, Ow.in_ints (.inr (SqT.of (e _ _ (e1 _ _ hu)))) ⟨rfl, _, rfl, ?_⟩⟩
      have en : (!decide (V.bl (decide (z ∈ Ow.ks S)) = V.bl (decide (z ∈ Ow.ks S2)))) = (decide (z ∈ Ow.ks S) != decide (z ∈ Ow.ks S2)) := by
        cases decide (z ∈ Ow.ks S) <;> cases decide (z ∈ Ow.ks S2) <;> simp
      show R (!decide (V.bl (decide (z ∈ Ow.ks S)) = V.bl (decide (z ∈ Ow.ks S2)))) H'
      rw [en]
      exact q
    · refine Ow.mkRt (ns := (Ow.ks S ++ Ow.ks S2).filter fun j => decide (j ∈ Ow.ks S) != decide (j ∈ Ow.ks S2)) (.inl (SqL.of upd_same)) ?_ ?_ ?_
      · exact Nat.lt_of_le_of_lt (List.length_filter_le _ _) (by omega)
      · intro n hn
        rcases List.mem_append.mp (List.mem_filter.mp hn).1 with z | z
        · have := (Ow.mem_ks.mp z).1; omega
        · have := (Ow.mem_ks.mp z).1; omega
      · intro x H2 e2 nx r
        refine k x H2 (e1.trans ((Ext.upd hD).trans e2)) (Ow.Ext.free (e1.trans (Ext.upd hD)) nx) (r.congr fun j h0 h1 => ?_)
        have m1 : decide (j ∈ Ow.ks S) = S j := by rw [Bool.eq_iff_iff, decide_eq_true_iff, Ow.mem_ks]; simp [h0, h1]
        have m2 : decide (j ∈ Ow.ks S2) = S2 j := by rw [Bool.eq_iff_iff, decide_eq_true_iff, Ow.mem_ks]; simp [h0, h1]
        rw [Bool.eq_iff_iff, decide_eq_true_iff, List.mem_filter, List.mem_append, m1, m2, Ow.mem_ks, Ow.mem_ks]
        cases S j <;> cases S2 j <;> simp [h0, h1]

theorem ok_Rights_contains {f : Addr} {fd : FuncData} (F : FunD K "__contains__" "Rights.__contains__" (defArgs SRights_contains) (defBody SRights_contains) (defScope SRights_contains) [] [] f fd) (T : Txt K mg)  : FnOk P w K mg base CX0 1 f fd ["self", "number"] (Ow.spHas (He.ga K "Rights")) := by
  refine F.ok scRights_contains (fun vs H Q E h => ?_) (fun cdv A outer s H vs Q E hr h => ?_)
  · obtain ⟨a, S, n, rfl, _⟩ := h
    rfl
  · obtain ⟨a, S, n, rfl, ra, q⟩ := h
    obtain ⟨dx, t, ha, ht⟩ := id ra
    refine ⟨_, PSs.nox (pss_one (ps_ret (pe_cmpR (kin (K := K)) (pv 1) (kfld (K := K) (pv 0)) (by rfl)))), ?_⟩
    exact ⟨_, rfl, _, rfl, a, _, dx, _, _, rfl, ha, T.cl_Rights, T.na_Rights_numbers, Ow.lk1, Ow.in_ints (.inr (SqT.of ht)) q⟩

theorem ok_Rights_len {f : Addr} {fd : FuncData} (F : FunD K "__len__" "Rights.__len__" (defArgs SRights_len) (defBody SRights_len) (defScope SRights_len) [] [] f fd) (T : Txt K mg)  : FnOk P w K mg base CX0 1 f fd ["self"] (Ow.spLen (He.ga K "Rights")) := by
  refine F.ok scRights_len (fun vs H Q E h => ?_) (fun cdv A outer s H vs Q E hr h => ?_)
  · obtain ⟨a, S, rfl, _⟩ := h
    rfl
  · obtain ⟨a, S, rfl, ra, q⟩ := h
    obtain ⟨dx, t, ha, ht⟩ := id ra
    refine ⟨_, PSs.nox (pss_one (ps_ret (pe_callB (klen (K := K)) (by rfl) T.z_len PySem.boot_len (pa_cons (kfld (K := K) (pv 0)) pa_nil)))), ?_⟩
    exact ⟨_, rfl, a, _, dx, _, _, rfl, ha, T.cl_Rights, T.na_Rights_numbers, Ow.lk1, _, _, rfl, .inr ⟨_, SqT.of ht, by rw [List.length_map]⟩, q⟩

theorem ok_Rights_eq {f : Addr} {fd : FuncData} (F : FunD K "__eq__" "Rights.__eq__" (defArgs SRights_eq) (defBody SRights_eq) (defScope SRights_eq) [] [] f fd) (T : Txt K mg)  : FnOk P w K mg base CX0 1 f fd ["self", "other"] (Ow.spEqR (He.ga K "Rights")) := by
  refine F.ok scRights_eq (fun vs H Q E h => ?_) (fun cdv A outer s H vs Q E hr h => ?_)
  · obtain ⟨a, b, S, T', rfl, _⟩ := h
    rfl
  · obtain ⟨a, b, S, S2, rfl, ra, rb, q⟩ := h
    obtain ⟨dx, t, ha, ht⟩ := id ra
    obtain ⟨dy, u, hb, hu⟩ := id rb
    refine ⟨_, PSs.nox (pss_one (ps_ret (pe_and (pe_callB (kisi (K := K)) (by rfl) T.z_isinstance (by decide +kernel) (pa_cons (pv 1) (pa_cons (pe_glob (v := .ref (He.ga K "Rights")) rfl T.g_Rights rfl) pa_nil))) (pe_one (pe_cmpR (keqd (K := K) hr.units) (kfld (K := K) (pv 0)) (kfld (K := K) (pv 1)) (nomark _)))))), ?_⟩
    refine ⟨_, rfl, _, _, _, _, true, rfl, .own _, T.i_Rights.ty T.cl_Rights hb, T.i_Rights.y, _, rfl, iteT ?_⟩
    exact ⟨_, rfl, a, _, dx, _, _, rfl, ha, T.cl_Rights, T.na_Rights_numbers, Ow.lk1, _, rfl, b, _, dy, _, _, rfl, hb, T.cl_Rights, T.na_Rights_numbers, Ow.lk1, Ow.eqd_tup (SqT.of ht) (SqT.of hu) q⟩
end
end K04

namespace K04
open PySem PySem.Spec PyProof.Rows L2 Ow

/-! the law's own reckoning -/
def halved : Nat → Int → Int
  | 0, c => c
  | n + 1, c => halved n c / 97
def mixF (c s : Int) : Int := if (10 : Int) ^ 18 ≤ c then halved s.toNat c % 97 else ((c % 1000000007 + 69621 * s + 48271) ^ 17 % 170141183460469231731687303715884105727) / 64 % 97
theorem mix_lo (c s : Int) : 0 ≤ mixF c s := by
  unfold mixF
  split <;> exact Int.emod_nonneg _ (by decide)
theorem mix_hi (c s : Int) : mixF c s < 97 := by
  unfold mixF
  split <;> exact Int.emod_lt_of_pos _ (by decide)
def keysF (c : Int) : List Int := (upL 0 (mixF c 1 % 7).toNat).map fun k => mixF c (k + 2) % 16
theorem keys_len (c : Int) : (keysF c).length ≤ 6 := by
  unfold keysF
  rw [List.length_map, upL_len]
  omega
theorem keys_in (c n : Int) (h : n ∈ keysF c) : 0 ≤ n ∧ n ≤ 15 := by
  unfold keysF at h
  obtain ⟨k, _, rfl⟩ := List.mem_map.mp h
  omega
def spMix : Sp := fun vs H Q _ => ∃ c s : Int, vs = [.int c, .int s] ∧ 0 ≤ s ∧ s ≤ 1000 ∧ Q (.int (mixF c s)) H
def spKeys : Sp := fun vs H Q _ => ∃ c : Int, vs = [.int c] ∧ ∀ p, H p = none → Q (.ref p) (upd H p (.lst ((keysF c).map V.int)))
/-- the four steps by keys -/
def stepF (kind : Int) (a b : Bool) : Bool := if kind = 0 then a || b else if kind = 1 then a && b else if kind = 2 then a && !b else a != b
def spStep (K : PySem.W.Frag) : Sp := fun vs H Q _ => ∃ (h q : Addr) (hs ns : List Int) (kind : Int), vs = [.ref h, .ref q, .int kind] ∧ SqL K H h (hs.map V.int) ∧ SqL K H q (ns.map V.int) ∧
  ∀ p, H p = none → Q (.ref p) (upd H p (.lst ((ks fun k => stepF kind (decide (k ∈ hs)) (decide (k ∈ ns))).map V.int)))
theorem up16 (f : Int → Bool) : (upL 0 16).filter f = ks f := by
  have e : upL 0 16 = (List.range 16).map fun n : Nat => (n : Int) := List.map_congr_left fun n _ => by omega
  rw [e]
  rfl
section
variable {P : Program} {w : World} {K : PySem.W.Frag} {mg : Str → Option Value} {base : Heap}
theorem ok__law_mix {f : Addr} {fd : FuncData} (F : FunD K "_law_mix" "_law_mix" (defArgs S_law_mix) (defBody S_law_mix) (defScope S_law_mix) [] [] f fd) (T : Txt K mg)  : FnOk P w K mg base CX0 1 f fd ["_law_cell", "_law_spot"] (spMix) := by
  refine F.ok sc_law_mix (fun vs H Q E h => ?_) (fun cdv A outer s H vs Q E hr h => ?_)
  · obtain ⟨c, s', rfl, _⟩ := h
    rfl
  · obtain ⟨c, s', rfl, h0, h1, q⟩ := h
    refine ⟨_, PSs.nox (pss_cons (ps_if (pt_cmpR op_ge (pv 0) (pe_op op_pow pe_int pe_int) (nomark _)) (pss_cons (ps_set (i := 2) sc_law_mix.nd rfl (by first | exact Or.inl rfl | exact Or.inr rfl) (pe_callTy call_int1 (by rfl) T.z_int (by decide +kernel) (pa_cons (pv 0) pa_nil)))
        (pss_cons (ps_for PassesOwn.never rfl (pi_range1 rfl T.z_range (pa_cons (pv 1) pa_nil)) (pg_name (i := 3) sc_law_mix.nd rfl (by first | exact Or.inl rfl | exact Or.inr rfl))
         (pss_one (ps_set (i := 2) sc_law_mix.nd rfl (by first | exact Or.inl rfl | exact Or.inr rfl) (pe_op op_fdiv (pv 2) pe_int))))
        (pss_one (ps_ret (pe_op op_mod (pe_callTy call_int1 (by rfl) T.z_int (by decide +kernel) (pa_cons (pv 2) pa_nil)) pe_int))))) pss_nil)
      (pss_cons (ps_set (i := 4) sc_law_mix.nd rfl (by first | exact Or.inl rfl | exact Or.inr rfl) (pe_op op_add (pe_op op_add (pe_op op_mod (pe_callTy call_int1 (by rfl) T.z_int (by decide +kernel) (pa_cons (pv 0) pa_nil)) pe_int) (pe_op op_mul pe_int (pv 1))) pe_int))
      (pss_one (ps_ret (pe_op op_mod (pe_op op_fdiv (pe_callTy call_int1 (by rfl) T.z_int (by decide +kernel) (pa_cons (pe_op op_mod (pe_op op_pow (pv 4) pe_int) pe_int) pa_nil)) pe_int) pe_int))))), ?_⟩
    refine ⟨_, rfl, _, _, rfl, rfl, ⟨by decide, by decide, by decide⟩, _, _, rfl, rfl, _, rfl, ite2 (fun big => ?_) (fun big => ?_)⟩
    · replace big : (10 : Int) ^ 18 ≤ c := of_decide_eq_true big
      refine ⟨_, rfl, .inl ⟨_, rfl, ?_⟩⟩
      refine ⟨_, rfl, _, rfl, by omega, by omega, for_range (lo := 0) (n := s'.toNat) (fun i σ H' => ∃ v, σ = [some (.int c), some (.int s'), some (.int (halved i c)), v, none] ∧ H' = H) ⟨none, rfl, rfl⟩ ?_ ?_⟩
      · rintro i σ H' hi ⟨v, rfl, rfl⟩
        refine ⟨_, rfl, _, _, rfl, rfl, ⟨by decide, by decide⟩, _, rfl, rfl⟩
      · rintro σ H' ⟨v, rfl, rfl⟩
        refine ⟨_, rfl, .inl ⟨_, rfl, ?_⟩⟩
        refine ⟨_, _, rfl, rfl, pz (by decide), ?_⟩
        have e : mixF c s' = halved s'.toNat c % 97 := by unfold mixF; rw [if_pos big]
        rw [e] at q
        exact q
    · replace big : ¬ (10 : Int) ^ 18 ≤ c := fun z => big (decide_eq_true z)
      refine ⟨_, rfl, .inl ⟨_, rfl, _, _, rfl, rfl, pz (by decide), ?_⟩⟩
      refine ⟨_, rfl, _, _, rfl, rfl, .inl ⟨by decide, by decide⟩, _, _, rfl, rfl, _, _, rfl, rfl, ?_⟩
      have m0 : 0 ≤ c % 1000000007 := Int.emod_nonneg _ (by decide)
      have m1 : c % 1000000007 < 1000000007 := Int.emod_lt_of_pos _ (by decide)
      refine ⟨_, rfl, _, _, rfl, rfl, ⟨by decide, by decide, ?_⟩, _, _, rfl, rfl, pz (by decide), .inl ⟨_, rfl, ?_⟩⟩
      · show (c % 1000000007 + 69621 * s' + 48271).natAbs < 2 ^ 64
        omega
      · refine ⟨_, _, rfl, rfl, ⟨by decide, by decide⟩, _, _, rfl, rfl, pz (by decide), ?_⟩
        have e : mixF c s' = ((c % 1000000007 + 69621 * s' + 48271) ^ 17 % 170141183460469231731687303715884105727) / 64 % 97 := by unfold mixF; rw [if_neg big]
        rw [e] at q
        exact q
theorem ok__law_keys {f : Addr} {fd : FuncData} (F : FunD K "_law_keys" "_law_keys" (defArgs S_law_keys) (defBody S_law_keys) (defScope S_law_keys) [] [] f fd) (T : Txt K mg) (G_law_mix : Ow.Glob P w K mg base CX0 1 "_law_mix" ["_law_cell", "_law_spot"] spMix) : FnOk P w K mg base CX0 2 f fd ["_law_cell"] (spKeys) := by
  refine F.ok sc_law_keys (fun vs H Q E h => ?_) (fun cdv A outer s H vs Q E hr h => ?_)
  · obtain ⟨c, rfl, _⟩ := h
    rfl
  · obtain ⟨c, rfl, k⟩ := h
    refine ⟨_, PSs.nox (pss_one (ps_ret (pe_lc (own := [("_law_k", 1)]) rfl sc_law_keys.nd (pi_range1 rfl T.z_range (pa_cons (pe_op op_mod (pe_g G_law_mix (hr.mono (by decide)) pass0 (pa_cons (pv 0) (pa_cons pe_int pa_nil))) pe_int) pa_nil)) (blkOk_by (own := [("_law_k", 1)]) (N := ["_law_cell", "_law_k"]) (sc := defScope S_law_keys) (by decide +kernel)) (fun _ _ _ _ _ => by exact pg_name (i := 1) sc_law_keys.nd rfl (by first | exact Or.inl rfl | exact Or.inr rfl)) (fun _ _ _ _ _ => by exact pts_nil) (fun _ _ _ _ _ => by exact (pe_op op_mod (pe_g G_law_mix (hr.mono (by decide)) pass0 (pa_cons (pv 0) (pa_cons (pe_op op_add (pv 1) pe_int) pa_nil))) pe_int))))), ?_⟩
    have a0 := mix_lo c 1
    have a1 := mix_hi c 1
    refine ⟨_, rfl, c, 1, rfl, by decide, by decide, _, _, rfl, rfl, pz (by decide), _, rfl, by show -(2 ^ 62) ≤ mixF c 1 % 7; omega, by show mixF c 1 % 7 < 2 ^ 62; omega, fun D hD => ?_⟩
    refine compR 0 (mixF c 1 % 7).toNat (fun _ => true) (fun k => V.int (mixF c (k + 2) % 16)) hD (by omega) (fun _ _ _ _ _ q => q) (fun z H' R hz e q => ?_) ?_
    · have hz' : 0 ≤ z ∧ z < 7 := by
        unfold upL at hz
        obtain ⟨j, hj, rfl⟩ := List.mem_map.mp hz
        have := List.mem_range.mp hj
        omega
      exact ⟨_, rfl, _, rfl, _, _, rfl, rfl, c, z + 2, rfl, by omega, by omega, _, _, rfl, rfl, pz (by decide), q⟩
    · rw [filterAll]
      have e : (upL 0 (mixF c 1 % 7).toNat).map (fun k => V.int (mixF c (k + 2) % 16)) = (keysF c).map V.int := by
        unfold keysF
        rw [List.map_map]
        rfl
      rw [e]
      exact k D hD
theorem ok__law_step {f : Addr} {fd : FuncData} (F : FunD K "_law_step" "_law_step" (defArgs S_law_step) (defBody S_law_step) (defScope S_law_step) [] [] f fd) (T : Txt K mg)  : FnOk P w K mg base CX0 1 f fd ["_law_held", "_law_keys_here", "_law_kind"] (spStep K) := by
  refine F.ok sc_law_step (fun vs H Q E h => ?_) (fun cdv A outer s H vs Q E hr h => ?_)
  · obtain ⟨h, q, hs, ns, kind, rfl, _⟩ := h
    rfl
  · obtain ⟨h, q, hs, ns, kind, rfl, sh, sq, k⟩ := h
    refine ⟨_, PSs.nox (pss_cons (ps_if (pt_cmpR op_eq (pv 2) pe_int (nomark _)) (pss_one (ps_ret (pe_lc (own := [("_law_key", 3)]) rfl sc_law_step.nd (pi_range1 rfl T.z_range (pa_cons pe_int pa_nil)) (blkOk_by (own := [("_law_key", 3)]) (N := ["_law_held", "_law_keys_here", "_law_kind", "_law_key"]) (sc := defScope S_law_step) (by decide +kernel)) (fun _ _ _ _ _ => by exact pg_name (i := 3) sc_law_step.nd rfl (by first | exact Or.inl rfl | exact Or.inr rfl)) (fun _ _ _ _ _ => by exact pts_one (PW.pt (pw_or (pt_cmpR (kin (K := K)) (pv 3) (pv 0) (by rfl)) (pw_or1 (pt_cmpR (kin (K := K)) (pv 3) (pv 1) (by rfl)))))) (fun _ _ _ _ _ => by exact (pv 3))))) pss_nil)
      (pss_cons (ps_if (pt_cmpR op_eq (pv 2) pe_int (nomark _)) (pss_one (ps_ret (pe_lc (own := [("_law_key", 3)]) rfl sc_law_step.nd (pi_range1 rfl T.z_range (pa_cons pe_int pa_nil)) (blkOk_by (own := [("_law_key", 3)]) (N := ["_law_held", "_law_keys_here", "_law_kind", "_law_key"]) (sc := defScope S_law_step) (by decide +kernel)) (fun _ _ _ _ _ => by exact pg_name (i := 3) sc_law_step.nd rfl (by first | exact Or.inl rfl | exact Or.inr rfl)) (fun _ _ _ _ _ => by exact pts_one (PW.pt (pw_and (pt_cmpR (kin (K := K)) (pv 3) (pv 0) (by rfl)) (pw_and1 (pt_cmpR (kin (K := K)) (pv 3) (pv 1) (by rfl)))))) (fun _ _ _ _ _ => by exact (pv 3))))) pss_nil)
      (pss_cons (ps_if (pt_cmpR op_eq (pv 2) pe_int (nomark _)) (pss_one (ps_ret (pe_lc (own := [("_law_key", 3)]) rfl sc_law_step.nd (pi_range1 rfl T.z_range (pa_cons pe_int pa_nil)) (blkOk_by (own := [("_law_key", 3)]) (N := ["_law_held", "_law_keys_here", "_law_kind", "_law_key"]) (sc := defScope S_law_step) (by decide +kernel)) (fun _ _ _ _ _ => by exact pg_name (i := 3) sc_law_step.nd rfl (by first | exact Or.inl rfl | exact Or.inr rfl)) (fun _ _ _ _ _ => by exact pts_one (PW.pt (pw_and (pt_cmpR (kin (K := K)) (pv 3) (pv 0) (by rfl)) (pw_and1 (pt_cmpR (knotin (K := K)) (pv 3) (pv 1) (by rfl)))))) (fun _ _ _ _ _ => by exact (pv 3))))) pss_nil)
      (pss_one (ps_ret (pe_lc (own := [("_law_key", 3)]) rfl sc_law_step.nd (pi_range1 rfl T.z_range (pa_cons pe_int pa_nil)) (blkOk_by (own := [("_law_key", 3)]) (N := ["_law_held", "_law_keys_here", "_law_kind", "_law_key"]) (sc := defScope S_law_step) (by decide +kernel)) (fun _ _ _ _ _ => by exact pg_name (i := 3) sc_law_step.nd rfl (by first | exact Or.inl rfl | exact Or.inr rfl)) (fun _ _ _ _ _ => by exact pts_one (pt_cmpR op_ne (pe_cmpR (kin (K := K)) (pv 3) (pv 0) (by rfl)) (pe_cmpR (kin (K := K)) (pv 3) (pv 1) (by rfl)) (nomark _))) (fun _ _ _ _ _ => by exact (pv 3)))))))), ?_⟩
    have fin : ∀ (D : Addr) (f : Int → Bool), H D = none → (∀ a b : Bool, stepF kind a b = stepF kind a b) → (∀ z, f z = stepF kind (decide (z ∈ hs)) (decide (z ∈ ns))) → Q (.ref D) (upd H D (.lst (((upL 0 16).filter f).map V.int))) := fun D f hD _ e => by
      rw [up16, ks_congr fun z _ _ => e z]
      exact k D hD
    refine ⟨_, rfl, rfl, _, rfl, ite2 (fun c => ?_) (fun c => ?_)⟩
    · have ck : kind = 0 := by simpa using c
      refine ⟨_, rfl, by decide, by decide, fun D hD => compR 0 16 (fun z => decide (z ∈ hs) || decide (z ∈ ns)) V.int hD (by decide) (fun z H' R _ e q => ?_) (fun z H' R _ e q => ⟨_, rfl, q⟩) (fin D _ hD (fun _ _ => rfl) fun z => by rw [ck]; rfl)⟩
      refine ⟨_, rfl, _, rfl, in_ints (.inl (sh.ext e)) ⟨_, rfl, ?_⟩⟩
      cases c1 : decide (z ∈ hs) with
      | true => rw [c1, Bool.true_or] at q; exact iteT q
      | false => rw [c1, Bool.false_or] at q; exact iteF ⟨_, rfl, _, rfl, in_ints (.inl (sq.ext e)) ⟨_, rfl, q⟩⟩
    have k0 : ¬ kind = 0 := by simpa using c
    refine ⟨_, rfl, rfl, _, rfl, ite2 (fun c => ?_) (fun c => ?_)⟩
    · have ck : kind = 1 := by simpa using c
      refine ⟨_, rfl, by decide, by decide, fun D hD => compR 0 16 (fun z => decide (z ∈ hs) && decide (z ∈ ns)) V.int hD (by decide) (fun z H' R _ e q => ?_) (fun z H' R _ e q => ⟨_, rfl, q⟩) (fin D _ hD (fun _ _ => rfl) fun z => by rw [ck]; rfl)⟩
      refine ⟨_, rfl, _, rfl, in_ints (.inl (sh.ext e)) ⟨_, rfl, ?_⟩⟩
      cases c1 : decide (z ∈ hs) with
      | false => rw [c1, Bool.false_and] at q; exact iteF q
      | true => rw [c1, Bool.true_and] at q; exact iteT ⟨_, rfl, _, rfl, in_ints (.inl (sq.ext e)) ⟨_, rfl, q⟩⟩
    have k1 : ¬ kind = 1 := by simpa using c
    refine ⟨_, rfl, rfl, _, rfl, ite2 (fun c => ?_) (fun c => ?_)⟩
    · have ck : kind = 2 := by simpa using c
      refine ⟨_, rfl, by decide, by decide, fun D hD => compR 0 16 (fun z => decide (z ∈ hs) && !decide (z ∈ ns)) V.int hD (by decide) (fun z H' R _ e q => ?_) (fun z H' R _ e q => ⟨_, rfl, q⟩) (fin D _ hD (fun _ _ => rfl) fun z => by rw [ck]; rfl)⟩
      refine ⟨_, rfl, _, rfl, in_ints (.inl (sh.ext e)) ⟨_, rfl, ?_⟩⟩
      cases c1 : decide (z ∈ hs) with
      | false => rw [c1, Bool.false_and] at q; exact iteF q
      | true => rw [c1, Bool.true_and] at q; exact iteT ⟨_, rfl, _, rfl, in_ints (.inl (sq.ext e)) ⟨_, rfl, q⟩⟩
    have k2 : ¬ kind = 2 := by simpa using c
    refine ⟨_, rfl, by decide, by decide, fun D hD => compR 0 16 (fun z => decide (z ∈ hs) != decide (z ∈ ns)) V.int hD (by decide) (fun z H' R _ e q => ?_) (fun z H' R _ e q => ⟨_, rfl, q⟩) (fin D _ hD (fun _ _ => rfl) fun z => by unfold stepF; rw [if_neg k0, if_neg k1, if_neg k2])⟩
    refine ⟨_, rfl, _, rfl, in_ints (.inl (sh.ext e)) ⟨_, rfl, _, rfl, in_ints (.inl (sq.ext e)) ⟨rfl, _, rfl, ?_⟩⟩⟩
    have en : (!decide (V.bl (decide (z ∈ hs)) = V.bl (decide (z ∈ ns)))) = (decide (z ∈ hs) != decide (z ∈ ns)) := by
      cases decide (z ∈ hs) <;> cases decide (z ∈ ns) <;> simp
    show R (!decide (V.bl (decide (z ∈ hs)) = V.bl (decide (z ∈ ns)))) H'
    rw [en]
    exact q
end
end K04

namespace K04
open PySem PySem.Spec PyProof.Rows L2 Ow

/-- the objects told: rights at the addresses, and the lists beside -/
def Told (C : Addr) (H : Hp) : List V → List (Int → Bool) → Prop := Paired fun v S => ∃ a, v = V.ref a ∧ RtAt C H a S
def Dues (H : Hp) : List V → List (Int → Bool) → Prop := Paired fun v S => ∃ a, v = V.ref a ∧ H a = some (.lst ((ks S).map V.int))
structure I4 (C : Addr) (H : Hp) (p ta da rp hp : Addr) (xs : List V) (S : Int → Bool) (vs ds : List V) (Ss : List (Int → Bool)) : Prop where
  rt : RtAt C H rp S
  hl : H hp = some (.lst ((ks S).map V.int))
  lt : H ta = some (.lst vs)
  ld : H da = some (.lst ds)
  td : Told C H vs Ss
  du : Dues H ds Ss
  ne : ta ≠ da
  vr : ∃ a r, vs = .ref a :: r
  dr : ∃ a r, ds = .ref a :: r
  lp : H p = some (.lst xs)
  n1 : p ≠ ta
  n2 : p ≠ da
theorem I4.ext {C : Addr} {H H' : Hp} {p ta da rp hp : Addr} {xs : List V} {S : Int → Bool} {vs ds : List V} {Ss : List (Int → Bool)} (i : I4 C H p ta da rp hp xs S vs ds Ss) (e : Ext H H') : I4 C H' p ta da rp hp xs S vs ds Ss :=
  ⟨i.rt.ext e, e _ _ i.hl, e _ _ i.lt, e _ _ i.ld, Paired.mapP i.td fun _ _ ⟨a, h1, h2⟩ => ⟨a, h1, h2.ext e⟩, Paired.mapP i.du fun _ _ ⟨a, h1, h2⟩ => ⟨a, h1, e _ _ h2⟩, i.ne, i.vr, i.dr, e _ _ i.lp, i.n1, i.n2⟩
theorem I4.step {C : Addr} {H : Hp} {p ta da rp hp r' h' : Addr} {xs : List V} {S S' : Int → Bool} {vs ds : List V} {Ss : List (Int → Bool)} (i : I4 C H p ta da rp hp xs S vs ds Ss) (hr : RtAt C H r' S') (hh : H h' = some (.lst ((ks S').map V.int))) :
    I4 C (upd (upd H ta (.lst (vs ++ [.ref r']))) da (.lst (ds ++ [.ref h']))) p ta da r' h' xs S' (vs ++ [.ref r']) (ds ++ [.ref h']) (Ss ++ [S']) := by
  obtain ⟨a, r, ev⟩ := id i.vr
  obtain ⟨b, q, ed⟩ := id i.dr
  have ld' : upd H ta (.lst (vs ++ [.ref r'])) da = some (.lst ds) := by rw [upd_ne i.ne.symm]; exact i.ld
  have keepR : ∀ x T, RtAt C H x T → RtAt C (upd (upd H ta (.lst (vs ++ [.ref r']))) da (.lst (ds ++ [.ref h']))) x T := fun x T h => (h.put i.lt).put ld'
  have keepL : ∀ x T, H x = some (.lst ((ks T).map V.int)) → upd (upd H ta (.lst (vs ++ [.ref r']))) da (.lst (ds ++ [.ref h'])) x = some (.lst ((ks T).map V.int)) := fun x T h => by
    have x1 : x ≠ ta := ne_of h i.lt (by rw [ev]; exact fun z => ints_refs z)
    have x2 : x ≠ da := ne_of h i.ld (by rw [ed]; exact fun z => ints_refs z)
    rw [upd_ne x2, upd_ne x1]
    exact h
  refine ⟨keepR _ _ hr, keepL _ _ hh, by rw [upd_ne i.ne, upd_same], upd_same, ?_, ?_, i.ne, ⟨a, r ++ [.ref r'], by rw [ev]; rfl⟩, ⟨b, q ++ [.ref h'], by rw [ed]; rfl⟩, by rw [upd_ne i.n2, upd_ne i.n1]; exact i.lp, i.n1, i.n2⟩
  · exact Paired.snoc (Paired.mapP i.td fun _ _ ⟨a, h1, h2⟩ => ⟨a, h1, keepR _ _ h2⟩) ⟨r', rfl, keepR _ _ hr⟩
  · exact Paired.snoc (Paired.mapP i.du fun _ _ ⟨a, h1, h2⟩ => ⟨a, h1, keepL _ _ h2⟩) ⟨h', rfl, keepL _ _ hh⟩
theorem pick6 (m : Int) (h0 : 0 ≤ m) (h1 : m < 6) : ∃ kd : Int, (0 ≤ kd ∧ kd ≤ 3) ∧ atI ([.int 0, .int 3, .int 1, .int 3, .int 2, .int 0] : List V) m = some (.int kd) := by
  have : m = 0 ∨ m = 1 ∨ m = 2 ∨ m = 3 ∨ m = 4 ∨ m = 5 := by omega
  rcases this with rfl | rfl | rfl | rfl | rfl | rfl
  · exact ⟨0, by decide, rfl⟩
  · exact ⟨3, by decide, rfl⟩
  · exact ⟨1, by decide, rfl⟩
  · exact ⟨3, by decide, rfl⟩
  · exact ⟨2, by decide, rfl⟩
  · exact ⟨0, by decide, rfl⟩
theorem pick4 {C : Addr} {H : Hp} {S T : Int → Bool} {x1 x2 x3 x4 : Addr} (kd : Int) (h : 0 ≤ kd ∧ kd ≤ 3) (r1 : RtAt C H x1 fun k => (S k || T k)) (r2 : RtAt C H x2 fun k => (S k && T k)) (r3 : RtAt C H x3 fun k => (S k && !T k)) (r4 : RtAt C H x4 fun k => (S k != T k)) :
    ∃ lt, atI ([.ref x1, .ref x2, .ref x3, .ref x4] : List V) kd = some (.ref lt) ∧ RtAt C H lt fun k => stepF kd (S k) (T k) := by
  have : kd = 0 ∨ kd = 1 ∨ kd = 2 ∨ kd = 3 := by omega
  rcases this with rfl | rfl | rfl | rfl
  · exact ⟨x1, rfl, r1⟩
  · exact ⟨x2, rfl, r2⟩
  · exact ⟨x3, rfl, r3⟩
  · exact ⟨x4, rfl, r4⟩
def spLaw (K : PySem.W.Frag) : Sp := fun vs H Q _ => ∃ (a : Addr) (ns : List Int), vs = [.ref a] ∧ SqL K H a (ns.map V.int) ∧ ns.length ≤ 63 ∧ ∀ H', Q (.bl true) H'
section
variable {P : Program} {w : World} {K : PySem.W.Frag} {mg : Str → Option Value} {base : Heap}
theorem ok_law {f : Addr} {fd : FuncData} (F : FunD K "law" "law" (defArgs Slaw) (defBody Slaw) (defScope Slaw) [] [] f fd) (T : Txt K mg) (G_law_mix : Ow.Glob P w K mg base CX0 1 "_law_mix" ["_law_cell", "_law_spot"] spMix) (G_law_keys : Ow.Glob P w K mg base CX0 2 "_law_keys" ["_law_cell"] spKeys) (G_law_step : Ow.Glob P w K mg base CX0 1 "_law_step" ["_law_held", "_law_keys_here", "_law_kind"] (spStep K)) (GRights : Ow.Maker P w K mg base CX0 2 "Rights" (He.ga K "Rights") ["self", "numbers"] [] (Ow.spInit K (He.ga K "Rights"))) (GR_or : Ow.Dun P w K mg base CX0 4 (He.ga K "Rights") "__or__" ["self", "other"] (Ow.spBin (He.ga K "Rights") (· || ·))) (GR_and : Ow.Dun P w K mg base CX0 4 (He.ga K "Rights") "__and__" ["self", "other"] (Ow.spBin (He.ga K "Rights") (· && ·))) (GR_sub : Ow.Dun P w K mg base CX0 4 (He.ga K "Rights") "__sub__" ["self", "other"] (Ow.spBin (He.ga K "Rights") (fun a b => a && !b))) (GR_xor : Ow.Dun P w K mg base CX0 4 (He.ga K "Rights") "__xor__" ["self", "other"] (Ow.spBin (He.ga K "Rights") (fun a b => a != b))) (GR_eq : Ow.Dun P w K mg base CX0 1 (He.ga K "Rights") "__eq__" ["self", "other"] (Ow.spEqR (He.ga K "Rights"))) : FnOk P w K mg base CX0 8 f fd ["_law_script"] (spLaw K) := by
  refine F.ok sclaw (fun vs H Q E h => ?_) (fun cdv A outer s H vs Q E hr h => ?_)
  · obtain ⟨a, ns, rfl, _⟩ := h
    rfl
  · obtain ⟨a, ns, rfl, hS, hlen, k⟩ := h
    refine ⟨_, PSs.nox (pss_cons (ps_set (i := 1) sclaw.nd rfl (by first | exact Or.inl rfl | exact Or.inr rfl) (pe_lst (pa_cons pe_int (pa_cons pe_int (pa_cons pe_int pa_nil)))))
      (pss_cons (ps_set (i := 2) sclaw.nd rfl (by first | exact Or.inl rfl | exact Or.inr rfl) (pe_mk GRights (hr.mono (by decide)) pass0 (pa_cons (pv 1) pa_nil)))
      (pss_cons (ps_set (i := 3) sclaw.nd rfl (by first | exact Or.inl rfl | exact Or.inr rfl) (pe_lst (pa_cons (pv 2) pa_nil)))
      (pss_cons (ps_set (i := 4) sclaw.nd rfl (by first | exact Or.inl rfl | exact Or.inr rfl) (pe_lst (pa_cons (pv 1) pa_nil)))
      (pss_cons (ps_for PassesOwn.never rfl (kpl (K := K) (pe_slice (ksll (K := K)) (pv 0) po_none (po_some pe_int))) (pg_name (i := 5) sclaw.nd rfl (by first | exact Or.inl rfl | exact Or.inr rfl))
       (pss_cons (ps_set (i := 6) sclaw.nd rfl (by first | exact Or.inl rfl | exact Or.inr rfl) (pe_ix (kixl (K := K)) (pe_lst (pa_cons pe_int (pa_cons pe_int (pa_cons pe_int (pa_cons pe_int (pa_cons pe_int (pa_cons pe_int pa_nil))))))) (pe_op op_mod (pe_g G_law_mix (hr.mono (by decide)) pass0 (pa_cons (pv 5) (pa_cons pe_int pa_nil))) pe_int) (fun _ _ => rfl)))
        (pss_cons (ps_set (i := 7) sclaw.nd rfl (by first | exact Or.inl rfl | exact Or.inr rfl) (pe_g G_law_keys (hr.mono (by decide)) pass0 (pa_cons (pv 5) pa_nil)))
        (pss_cons (ps_set (i := 8) sclaw.nd rfl (by first | exact Or.inl rfl | exact Or.inr rfl) (pe_mk GRights (hr.mono (by decide)) pass0 (pa_cons (pv 7) pa_nil)))
        (pss_cons (ps_set (i := 1) sclaw.nd rfl (by first | exact Or.inl rfl | exact Or.inr rfl) (pe_g G_law_step (hr.mono (by decide)) pass0 (pa_cons (pv 1) (pa_cons (pv 7) (pa_cons (pv 6) pa_nil)))))
        (pss_cons (ps_set (i := 9) sclaw.nd rfl (by first | exact Or.inl rfl | exact Or.inr rfl) (pe_ix (kixl (K := K)) (pe_lst (pa_cons (pe_op (Ow.od_bin GR_or (hr.mono (by decide)) pass0 T.sf_Rights (by decide +kernel)) (pv 2) (pv 8)) (pa_cons (pe_op (Ow.od_bin GR_and (hr.mono (by decide)) pass0 T.sf_Rights (by decide +kernel)) (pv 2) (pv 8)) (pa_cons (pe_op (Ow.od_bin GR_sub (hr.mono (by decide)) pass0 T.sf_Rights (by decide +kernel)) (pv 2) (pv 8)) (pa_cons (pe_op (Ow.od_bin GR_xor (hr.mono (by decide)) pass0 T.sf_Rights (by decide +kernel)) (pv 2) (pv 8)) pa_nil))))) (pv 6) (fun _ _ => rfl)))
        (C8.pss_cut (ps_if (PW.pt (pw_and (pt_cmpR op_eq (pv 6) pe_int (nomark _)) (pw_and1 (pt_not (pt_cmpR (Ow.od_eq GR_eq (hr.mono (by decide)) pass0) (pe_op (Ow.od_bin GR_xor (hr.mono (by decide)) pass0 T.sf_Rights (by decide +kernel)) (pv 9) (pv 8)) (pv 2) (nomark _)))))) (pss_one (ps_ret pe_bl)) pss_nil)
        (C8.pss_cut (ps_if (PW.pt (pw_or (pt_cmpR (kned (K := K) hr.units) (pe_callTy (klist (K := K)) (by rfl) T.z_list (by decide +kernel) (pa_cons (kfld (K := K) (pv 9)) pa_nil)) (pv 1) (nomark _)) (pw_or1 (pt_cmpR (kned (K := K) hr.units) (kfld (K := K) (pv 8)) (pe_callTy (ktuple (K := K)) (by rfl) T.z_tuple (by decide +kernel) (pa_cons (pe_callB (ksorted (w := w) rfl) (by rfl) T.z_sorted (by decide +kernel) (pa_cons (pe_callTy (kset (K := K) (w := w) rfl) (by rfl) T.z_set boot_set (pa_cons (pv 7) pa_nil)) pa_nil)) pa_nil)) (nomark _))))) (pss_one (ps_ret pe_bl)) pss_nil)
        (pss_cons (ps_set (i := 2) sclaw.nd rfl (by first | exact Or.inl rfl | exact Or.inr rfl) (pv 9))
        (pss_cons (ps_expr (kbm (K := K) PySem.F.plainAttrs_list PySem.F.slot_list_append PySem.F.type_list_append mt_append (pv 3) (pa_cons (pv 2) pa_nil)))
        (pss_one (ps_expr (kbm (K := K) PySem.F.plainAttrs_list PySem.F.slot_list_append PySem.F.type_list_append mt_append (pv 4) (pa_cons (pv 1) pa_nil))))))))))))))
      (pss_one (ps_ret (pe_cmpR (keqd (K := K) hr.units) (pe_lc (own := [("_law_one", 10)]) rfl sclaw.nd (kpl (K := K) (pv 3)) (blkOk_by (own := [("_law_one", 10)]) (N := ["_law_script", "_law_held", "_law_rights", "_law_told", "_law_dues", "_law_cell", "_law_kind", "_law_keys_here", "_law_other", "_law_later", "_law_one"]) (sc := defScope Slaw) (by decide +kernel)) (fun _ _ _ _ _ => by exact pg_name (i := 10) sclaw.nd rfl (by first | exact Or.inl rfl | exact Or.inr rfl)) (fun _ _ _ _ _ => by exact pts_nil) (fun _ _ _ _ _ => by exact (pe_callTy (klist (K := K)) (by rfl) T.z_list (by decide +kernel) (pa_cons (kfld (K := K) (pv 10)) pa_nil)))) (pv 4) (nomark _))))))))), ?_⟩
    -- held, rights, told, dues
    refine ⟨(by show 3 ≤ sizeLine; decide), fun h0 nh0 => ?_⟩
    have s0 : SqL K (upd H h0 (.lst [.int 1, .int 4, .int 15])) h0 (([1, 4, 15] : List Int).map V.int) := SqL.of upd_same
    refine ⟨_, rfl, fun r0 dx0 nr0 ndx0 ne0 => mkRx (.inl s0) (by decide) (by decide) nr0 ndx0 ne0 fun H1 e1 rt0 => ⟨rfl, ?_⟩⟩
    refine ⟨_, rfl, (by show 1 ≤ sizeLine; decide), fun ta nta => ?_⟩
    refine ⟨_, rfl, (by show 1 ≤ sizeLine; decide), fun da nda => ?_⟩
    have e2 := Ext.upd (o := .lst [V.ref r0]) nta
    have e3 := Ext.upd (o := .lst [V.ref h0]) nda
    have s3 := ((Ext.upd nh0 : Ext H (upd H h0 (.lst [.int 1, .int 4, .int 15]))).trans e1).trans (e2.trans e3)
    have k0 : ks (fun j => decide (j ∈ [(1 : Int), 4, 15])) = [1, 4, 15] := by decide
    have hda : ta ≠ da := ne_of_none upd_same nda
    -- for cell in script[:63]
    refine ⟨_, rfl, _, rfl, a, _, rfl, hS.ext s3, fun p np => ⟨p, rfl, ⟨_, SqL.of upd_same⟩, for_list (K := K) (a := p) (xs := cutV (ns.map V.int) none (some 63))
      (fun i σ H' => ∃ (S : Int → Bool) (rp hp : Addr) (vs ds : List V) (Ss : List (Int → Bool)) (c1 c2 c3 c4 c5 : Option V), σ = [some (.ref a), some (.ref hp), some (.ref rp), some (.ref ta), some (.ref da), c1, c2, c3, c4, c5, none] ∧
        I4 (He.ga K "Rights") H' p ta da rp hp (cutV (ns.map V.int) none (some 63)) S vs ds Ss ∧ vs.length ≤ i + 1 ∧ ds.length ≤ i + 1) ?h0 (fun i σ H' _ ⟨_, _, _, _, _, _, _, _, _, _, _, _, I, _⟩ => SqL.of I.lp) ?hs ?hd⟩⟩
    case h0 =>
      have e4 := Ext.upd (o := .lst (cutV (ns.map V.int) none (some 63))) np
      have lh0 : H1 h0 = some (.lst [V.int 1, .int 4, .int 15]) := e1 _ _ upd_same
      refine ⟨_, r0, h0, [.ref r0], [.ref h0], [fun j => decide (j ∈ [(1 : Int), 4, 15])], none, none, none, none, none, rfl, ⟨rt0.ext (e2.trans (e3.trans e4)), ?_, e4 _ _ (e3 _ _ upd_same), e4 _ _ upd_same, .cons ⟨r0, rfl, rt0.ext (e2.trans (e3.trans e4))⟩ .nil, .cons ⟨h0, rfl, ?_⟩ .nil, hda, ⟨_, _, rfl⟩, ⟨_, _, rfl⟩, upd_same, (ne_of_none (e3 _ _ upd_same) np).symm, (ne_of_none upd_same np).symm⟩, Nat.le_refl _, Nat.le_refl _⟩
      · rw [k0]; exact e4 _ _ (e3 _ _ (e2 _ _ lh0))
      · rw [k0]; exact e4 _ _ (e3 _ _ (e2 _ _ lh0))
    case hd =>
      rintro σ H' ⟨S, rp, hp, vs, ds, Ss, c1, c2, c3, c4, c5, rfl, I, hv, hd⟩
      have few : vs.length ≤ 1000 := by
        have : (cutV (ns.map V.int) none (some 63)).length ≤ 63 := by
          unfold cutV
          rw [List.length_take, List.length_drop, List.length_map]
          omega
        omega
      -- [list(one.numbers) for one in told] == dues
      refine ⟨_, rfl, ta, rfl, ⟨_, SqL.of I.lt⟩, fun D hD => lc_list (K := K) (a := ta) (xs := vs) (fun j G => ∃ ls : List V, G D = some (.lst ls) ∧ ls.length = j ∧ Ext H' G ∧ Paired (fun v (T : Int → Bool) => ∃ b, v = V.ref b ∧ b ≠ D ∧ G b = some (.lst ((ks T).map V.int))) ls (Ss.take j))
        ⟨[], upd_same, rfl, Ext.upd hD, by rw [List.take_zero]; exact .nil⟩ (fun j G _ ⟨_, _, _, e, _⟩ => SqL.of (e _ _ I.lt)) ?_ ?_⟩
      · rintro j y G hj ⟨ls, g1, g2, e, pr⟩
        obtain ⟨T', hT, r, rfl, rr⟩ := Paired.at I.td hj
        have jl := (List.getElem?_eq_some_iff.mp hj).1
        obtain ⟨dxr, t, hr1, ht⟩ := rr.ext e
        refine ⟨rfl, _, rfl, r, _, dxr, _, _, rfl, hr1, T.cl_Rights, T.na_Rights_numbers, lk1, t, _, rfl, .inr (SqT.of ht), fun l nl => ?_⟩
        have nDl : D ≠ l := ne_of_none g1 nl
        refine ⟨ls, by rw [upd_ne nDl]; exact g1, small1000 (by omega), ls ++ [.ref l], upd_same, by rw [List.length_append, g2]; rfl, ?_, ?_⟩
        · intro b o hb
          have bD : b ≠ D := ne_of_none hb hD
          rw [upd_ne bD, upd_ne (ne_of_none (e b o hb) nl)]
          exact e b o hb
        · have tk : Ss.take (j + 1) = Ss.take j ++ [T'] := by rw [List.take_add_one, hT]; rfl
          rw [tk]
          refine Paired.snoc (Paired.mapP pr fun v T ⟨b, h1, h2, h3⟩ => ⟨b, h1, h2, by rw [upd_ne h2, upd_ne (ne_of_none h3 nl)]; exact h3⟩) ⟨l, rfl, nDl.symm, by rw [upd_ne nDl.symm]; exact upd_same⟩
      · rintro G ⟨ls, g1, g2, e, pr⟩
        have lv : vs.length = Ss.length := Paired.length I.td
        rw [lv, List.take_length] at pr
        have rA : Rows K G ls (Ss.map ks) := by
          have : ∀ (ls : List V) (Ss : List (Int → Bool)), Paired (fun v (T : Int → Bool) => ∃ b, v = V.ref b ∧ b ≠ D ∧ G b = some (.lst ((ks T).map V.int))) ls Ss → Rows K G ls (Ss.map ks) := fun ls Ss pr => by
            induction pr with
            | nil => exact .nil
            | cons h _ ih => obtain ⟨b, rfl, _, hb⟩ := h; exact .cons (.lst (SqL.of hb) (dp_ints _)) ih
          exact this ls Ss pr
        have rB : Rows K G ds (Ss.map ks) := by
          have : ∀ (ls : List V) (Ss : List (Int → Bool)), Dues H' ls Ss → Rows K G ls (Ss.map ks) := fun ls Ss pr => by
            induction pr with
            | nil => exact .nil
            | cons h _ ih => obtain ⟨b, rfl, hb⟩ := h; exact .cons (.lst (SqL.of (e _ _ hb)) (dp_ints _)) ih
          exact this ds Ss I.du
        refine ⟨_, rfl, eqd_rows (SqL.of g1) (SqL.of (e _ _ I.ld)) rA rB ?_⟩
        rw [decide_eq_true rfl]
        exact k G
    case hs =>
      rintro i y σ H' hi ⟨S, rp, hp, vs, ds, Ss, c1, c2, c3, c4, c5, rfl, I, hv, hd⟩
      have il : i < 63 := by
        have l1 := (List.getElem?_eq_some_iff.mp hi).1
        unfold cutV at l1
        rw [List.length_take, List.length_drop, List.length_map] at l1
        omega
      obtain ⟨c, rfl⟩ : ∃ c, y = V.int c := by
        have hm := List.mem_of_getElem? hi
        unfold cutV at hm
        obtain ⟨c, _, e⟩ := List.mem_map.mp (List.mem_of_mem_drop (List.mem_of_mem_take hm))
        exact ⟨c, e.symm⟩
      -- kind
      obtain ⟨kd, hk, hat⟩ := pick6 (mixF c 0 % 6) (Int.emod_nonneg _ (by decide)) (Int.emod_lt_of_pos _ (by decide))
      refine ⟨(by show 6 ≤ sizeLine; decide), fun l1 n1 => ⟨_, rfl, c, 0, rfl, by decide, by decide, _, _, rfl, rfl, pz (by decide), l1, _, _, _, rfl, rfl, SqL.of upd_same, hat, ?_⟩⟩
      -- keys, other
      refine ⟨_, rfl, c, rfl, fun q nq => ?_⟩
      refine ⟨_, rfl, fun o dxo no ndxo neo => mkRx (ns := keysF c) (.inl (SqL.of upd_same)) (by have := keys_len c; omega) (keys_in c) no ndxo neo fun H1 e1 ro => ⟨rfl, ?_⟩⟩
      have x1 := (Ext.upd (o := .lst [.int 0, .int 3, .int 1, .int 3, .int 2, .int 0]) n1 : Ext H' _)
      have x2 := Ext.upd (o := .lst ((keysF c).map V.int)) nq
      have I1 := I.ext (x1.trans (x2.trans e1))
      have lq : H1 q = some (.lst ((keysF c).map V.int)) := e1 _ _ upd_same
      -- held
      refine ⟨_, rfl, _, rfl, _, rfl, hp, q, ks S, keysF c, kd, rfl, SqL.of I1.hl, SqL.of lq, fun h' nh' => ?_⟩
      have x3 := Ext.upd (o := .lst ((ks fun k => stepF kd (decide (k ∈ ks S)) (decide (k ∈ keysF c))).map V.int)) nh'
      have I2 := I1.ext x3
      have ro2 := ro.ext x3
      have lh' : (upd H1 h' (.lst ((ks fun k => stepF kd (decide (k ∈ ks S)) (decide (k ∈ keysF c))).map V.int))) h' = some (.lst ((ks fun k => stepF kd (S k) (decide (k ∈ keysF c))).map V.int)) := by
        rw [upd_same, ks_congr (S := fun k => stepF kd (decide (k ∈ ks S)) (decide (k ∈ keysF c))) (T := fun k => stepF kd (S k) (decide (k ∈ keysF c))) fun z z0 z1 => ?_]
        have : decide (z ∈ ks S) = S z := by rw [Bool.eq_iff_iff, decide_eq_true_iff, mem_ks]; simp [z0, z1]
        rw [this]
      generalize upd H1 h' (.lst ((ks fun k => stepF kd (decide (k ∈ ks S)) (decide (k ∈ keysF c))).map V.int)) = H2 at *
      -- later
      refine ⟨_, rfl, _, rfl, rtBin I2.rt ro2 fun y1 H3 e3 _ r1 => ?_⟩
      refine ⟨_, rfl, _, rfl, rtBin (I2.rt.ext e3) (ro2.ext e3) fun y2 H4 e4 _ r2 => ?_⟩
      have e4' := e3.trans e4
      refine ⟨_, rfl, _, rfl, rtBin (I2.rt.ext e4') (ro2.ext e4') fun y3 H5 e5 _ r3 => ?_⟩
      have e5' := e4'.trans e5
      refine ⟨_, rfl, _, rfl, rtBin (I2.rt.ext e5') (ro2.ext e5') fun y4 H6 e6 _ r4 => ?_⟩
      have e6' := e5'.trans e6
      obtain ⟨lt, hat2, rlt⟩ := pick4 kd hk (r1.ext (e4.trans (e5.trans e6))) (r2.ext (e5.trans e6)) (r3.ext e6) r4
      refine ⟨(by show 4 ≤ sizeLine; decide), fun l2 n2 => ⟨_, rfl, l2, _, _, _, rfl, rfl, SqL.of upd_same, hat2, ?_⟩⟩
      have x6 := Ext.upd (o := .lst [V.ref y1, .ref y2, .ref y3, .ref y4]) n2
      have I6 := I2.ext (e6'.trans x6)
      have ro6 := ro2.ext (e6'.trans x6)
      have rl6 := rlt.ext x6
      have lh6 := x6 _ _ (e6' _ _ lh')
      have lq6 := x6 _ _ (e6' _ _ (x3 _ _ lq))
      generalize upd H6 l2 (.lst [V.ref y1, .ref y2, .ref y3, .ref y4]) = H7 at *
      -- if kind == 3 and not later ^ other == rights
      refine ⟨fun σ' G => σ' = [some (.ref a), some (.ref h'), some (.ref rp), some (.ref ta), some (.ref da), some (.int c), some (.int kd), some (.ref q), some (.ref o), some (.ref lt), none] ∧ Ext H7 G, ?_, ?_⟩
      · refine ⟨_, rfl, rfl, _, rfl, ite2 (fun c3 => ?_) (fun _ => iteF ⟨rfl, Ext.rfl'⟩)⟩
        have k3 : kd = 3 := by simpa using c3
        refine ⟨_, rfl, _, rfl, rtBin rl6 ro6 fun z H8 e8 _ rz => ⟨_, rfl, rtEq rz (I6.rt.ext e8) ⟨_, rfl, ?_⟩⟩⟩
        have same : ks (fun k => (stepF kd (S k) (decide (k ∈ keysF c)) != decide (k ∈ keysF c))) = ks S := ks_congr fun z _ _ => by
          rw [k3]
          show ((S z != decide (z ∈ keysF c)) != decide (z ∈ keysF c)) = S z
          cases S z <;> cases decide (z ∈ keysF c) <;> rfl
        rw [decide_eq_true same]
        exact iteF ⟨rfl, e8⟩
      rintro σ' G ⟨rfl, eG⟩
      have I7 := I6.ext eG
      have rl7 := rl6.ext eG
      have ro7 := ro6.ext eG
      have lh7 := eG _ _ lh6
      have lq7 := eG _ _ lq6
      -- if list(later.numbers) != held or other.numbers != tuple(sorted(set(keys)))
      refine ⟨fun σ' G' => σ' = [some (.ref a), some (.ref h'), some (.ref rp), some (.ref ta), some (.ref da), some (.int c), some (.int kd), some (.ref q), some (.ref o), some (.ref lt), none] ∧ Ext G G', ?_, ?_⟩
      · obtain ⟨dx1, t, hr1, ht⟩ := id rl7
        refine ⟨_, rfl, lt, _, dx1, _, _, rfl, hr1, T.cl_Rights, T.na_Rights_numbers, lk1, t, _, rfl, .inr (SqT.of ht), fun l nl => ?_⟩
        have x7 := Ext.upd (o := .lst ((ks fun k => stepF kd (S k) (decide (k ∈ keysF c))).map V.int)) nl
        refine ⟨_, rfl, ned_list (SqL.of upd_same) (SqL.of (x7 _ _ lh7)) ⟨_, rfl, ?_⟩⟩
        rw [decide_eq_true rfl]
        obtain ⟨dx2, t2, hr2, ht2⟩ := ro7.ext x7
        have kl := keys_len c
        refine iteF ⟨_, rfl, o, _, dx2, _, _, rfl, hr2, T.cl_Rights, T.na_Rights_numbers, lk1, _, rfl, q, keysF c, rfl, .inl (SqL.of (x7 _ _ lq7)), by omega, fun qs cs hq hc => ⟨qs, _, _, rfl, upd_same, by omega, fun ms m hso hmem hlen hm => ⟨m, _, rfl, .inl ⟨SqL.of upd_same, fun t3 nt3 => ?_⟩⟩⟩⟩
        have e9 := (Ext.upd (o := SetO w qs (fun j => decide (j ∈ keysF c)) cs) hq).trans ((Ext.upd (o := .lst (ms.map V.int)) hm).trans (Ext.upd (o := .tup (ms.map V.int)) nt3))
        refine ned_tup ((SqT.of ht2 : SqT K _ t2 _).ext e9) (SqT.of upd_same) ⟨_, rfl, ?_⟩
        rw [decide_eq_true (sortedKs hso hmem (keys_in c)).symm]
        exact iteF ⟨rfl, x7.trans e9⟩
      rintro σ' G' ⟨rfl, eG'⟩
      have I8 := I7.ext eG'
      -- rights = later; told.append(rights); dues.append(held)
      refine ⟨_, rfl, _, rfl, .inl ⟨rfl, _, SqL.of I8.lt⟩, _, rfl, ta, _, _, rfl, rfl, I8.lt, small1000 (by omega), ?_⟩
      have ld8 : upd G' ta (.lst (vs ++ [.ref lt])) da = some (.lst ds) := by rw [upd_ne I8.ne.symm]; exact I8.ld
      refine ⟨_, rfl, .inl ⟨rfl, _, SqL.of ld8⟩, _, rfl, da, _, _, rfl, rfl, ld8, small1000 (by omega), ?_⟩
      exact ⟨_, lt, h', _, _, _, _, _, _, _, _, rfl, I8.step (rl7.ext eG') (eG' _ _ lh7), by rw [List.length_append]; show vs.length + 1 ≤ i + 1 + 1; omega, by rw [List.length_append]; show ds.length + 1 ≤ i + 1 + 1; omega⟩
end
end K04

namespace K04
open PySem PySem.Spec PyProof.Rows L2 Ow
theorem facts {P : Program} {w : World} {K : PySem.W.Frag} {h : Heap} {mg : Str → Option Value} {f : Addr} (X : K.In h) (G : h.Ns mainGlobals mg) (hfa : mg ("law" : Str) = some (.ref f)) (c : He.SaysD fa fn K) (cx : ex K = true) :
    ∃ fd : FuncData, (∀ (s : Shared) (v : Value), BindsTo s fd ⟨[v], []⟩ [("_law_script", v)]) ∧ ∀ base : Heap, K.In base → base.Ns mainGlobals mg → FnOk P w K mg base CX0 8 f fd ["_law_script"] (spLaw K) := by
  have T : Txt K mg :=
    { z_int := He.free_ok X G (c.fact 17 (f := .free "int") rfl),
      z_isinstance := He.free_ok X G (c.fact 18 (f := .free "isinstance") rfl),
      z_len := He.free_ok X G (c.fact 19 (f := .free "len") rfl),
      z_list := He.free_ok X G (c.fact 20 (f := .free "list") rfl),
      z_range := He.free_ok X G (c.fact 21 (f := .free "range") rfl),
      z_set := He.free_ok X G (c.fact 22 (f := .free "set") rfl),
      z_sorted := He.free_ok X G (c.fact 23 (f := .free "sorted") rfl),
      z_tuple := He.free_ok X G (c.fact 24 (f := .free "tuple") rfl),
      g_Rights := He.glo_ok X G (c.fact 5 (f := .glo "Rights") rfl),
      cl_Rights := He.cls_ok (c.fact 6 (f := .cls "Rights") rfl),
      mk_Rights := He.mkr_ok (c.fact 7 (f := .mkr "Rights") rfl),
      na_Rights_numbers := He.noat_ok (c.fact 8 (f := .noat "Rights" "numbers") rfl),
      m_Rights_or := He.meth_ok (c.fact 9 (f := .meth "Rights" "__or__") rfl),
      m_Rights_and := He.meth_ok (c.fact 10 (f := .meth "Rights" "__and__") rfl),
      m_Rights_sub := He.meth_ok (c.fact 11 (f := .meth "Rights" "__sub__") rfl),
      m_Rights_xor := He.meth_ok (c.fact 12 (f := .meth "Rights" "__xor__") rfl),
      m_Rights_contains := He.meth_ok (c.fact 13 (f := .meth "Rights" "__contains__") rfl),
      m_Rights_len := He.meth_ok (c.fact 14 (f := .meth "Rights" "__len__") rfl),
      m_Rights_eq := He.meth_ok (c.fact 15 (f := .meth "Rights" "__eq__") rfl),
      c_MOST := He.int_ok X G (c.fact 16 (f := .int "MOST" 15) rfl),
      i_Rights := Ow.isiB_ok (He.ba cx).1,
      sf_Rights := (He.ba cx).2 }
  obtain ⟨fdis_key, Fis_key⟩ := c.def_ 0 (d := dis_key) rfl
  obtain ⟨fdRights_init, FRights_init⟩ := c.def_ 1 (d := dRights_init) rfl
  obtain ⟨fdRights_or, FRights_or⟩ := c.def_ 2 (d := dRights_or) rfl
  obtain ⟨fdRights_and, FRights_and⟩ := c.def_ 3 (d := dRights_and) rfl
  obtain ⟨fdRights_sub, FRights_sub⟩ := c.def_ 4 (d := dRights_sub) rfl
  obtain ⟨fdRights_xor, FRights_xor⟩ := c.def_ 5 (d := dRights_xor) rfl
  obtain ⟨fdRights_contains, FRights_contains⟩ := c.def_ 6 (d := dRights_contains) rfl
  obtain ⟨fdRights_len, FRights_len⟩ := c.def_ 7 (d := dRights_len) rfl
  obtain ⟨fdRights_eq, FRights_eq⟩ := c.def_ 8 (d := dRights_eq) rfl
  obtain ⟨fd_law_mix, F_law_mix⟩ := c.def_ 9 (d := d_law_mix) rfl
  obtain ⟨fd_law_keys, F_law_keys⟩ := c.def_ 10 (d := d_law_keys) rfl
  obtain ⟨fd_law_step, F_law_step⟩ := c.def_ 11 (d := d_law_step) rfl
  obtain ⟨fdlaw, Flaw⟩ := c.def_ 12 (d := dlaw) rfl
  have el := hfa.symm.trans (He.glo_ok X G (c.fact 4 (f := .glo "law") rfl))
  cases el
  have bl := FunD.bindsA (ps := ["_law_script"]) Flaw (fun _ _ _ _ _ _ us hl => match us, hl with | [_], _ => rfl)
  refine ⟨fdlaw, fun s v => bl s [v] rfl, fun base _ _ => ?_⟩
  have Gis_key : Ow.Glob P w K mg base CX0 1 "is_key" ["number"] Ow.spIsKey := ⟨_, _, He.glo_ok X G (c.fact 0 (f := .glo "is_key") rfl), Fis_key.kp, Fis_key.bindsN (ps := ["number"]) (fun _ _ _ _ _ _ us hl => match us, hl with | [_], _ => rfl), ok_is_key Fis_key T ⟩
  obtain ⟨dsI, vdI, bdI⟩ := FRights_init.binds1 (ps := ["self", "numbers"]) 2 1 (by intro z; cases z) rfl (fun _ _ _ _ _ _ _ us its hu hi => match us, its, hu, hi with | [_, _], [_], _, _ => ⟨_, rfl, rfl⟩)
  have GRights : Ow.Maker P w K mg base CX0 2 "Rights" (He.ga K "Rights") ["self", "numbers"] [] (Ow.spInit K (He.ga K "Rights")) := ⟨_, _, dsI, T.g_Rights, T.mk_Rights, bdI, vdI, ok_Rights_init FRights_init T Gis_key⟩
  have GR_or : Ow.Dun P w K mg base CX0 4 (He.ga K "Rights") "__or__" ["self", "other"] (Ow.spBin (He.ga K "Rights") (· || ·)) := ⟨_, _, T.m_Rights_or.1, T.m_Rights_or.2, T.m_Rights_or.3, FRights_or.bindsN (ps := ["self", "other"]) (fun _ _ _ _ _ _ us hl => match us, hl with | [_, _], _ => rfl), ok_Rights_or FRights_or T GRights⟩
  have GR_and : Ow.Dun P w K mg base CX0 4 (He.ga K "Rights") "__and__" ["self", "other"] (Ow.spBin (He.ga K "Rights") (· && ·)) := ⟨_, _, T.m_Rights_and.1, T.m_Rights_and.2, T.m_Rights_and.3, FRights_and.bindsN (ps := ["self", "other"]) (fun _ _ _ _ _ _ us hl => match us, hl with | [_, _], _ => rfl), ok_Rights_and FRights_and T GRights⟩
  have GR_sub : Ow.Dun P w K mg base CX0 4 (He.ga K "Rights") "__sub__" ["self", "other"] (Ow.spBin (He.ga K "Rights") (fun a b => a && !b)) := ⟨_, _, T.m_Rights_sub.1, T.m_Rights_sub.2, T.m_Rights_sub.3, FRights_sub.bindsN (ps := ["self", "other"]) (fun _ _ _ _ _ _ us hl => match us, hl with | [_, _], _ => rfl), ok_Rights_sub FRights_sub T GRights⟩
  have GR_xor : Ow.Dun P w K mg base CX0 4 (He.ga K "Rights") "__xor__" ["self", "other"] (Ow.spBin (He.ga K "Rights") (fun a b => a != b)) := ⟨_, _, T.m_Rights_xor.1, T.m_Rights_xor.2, T.m_Rights_xor.3, FRights_xor.bindsN (ps := ["self", "other"]) (fun _ _ _ _ _ _ us hl => match us, hl with | [_, _], _ => rfl), ok_Rights_xor FRights_xor T GRights⟩
  have GR_contains : Ow.Dun P w K mg base CX0 1 (He.ga K "Rights") "__contains__" ["self", "number"] (Ow.spHas (He.ga K "Rights")) := ⟨_, _, T.m_Rights_contains.1, T.m_Rights_contains.2, T.m_Rights_contains.3, FRights_contains.bindsN (ps := ["self", "number"]) (fun _ _ _ _ _ _ us hl => match us, hl with | [_, _], _ => rfl), ok_Rights_contains FRights_contains T ⟩
  have GR_len : Ow.Dun P w K mg base CX0 1 (He.ga K "Rights") "__len__" ["self"] (Ow.spLen (He.ga K "Rights")) := ⟨_, _, T.m_Rights_len.1, T.m_Rights_len.2, T.m_Rights_len.3, FRights_len.bindsN (ps := ["self"]) (fun _ _ _ _ _ _ us hl => match us, hl with | [_], _ => rfl), ok_Rights_len FRights_len T ⟩
  have GR_eq : Ow.Dun P w K mg base CX0 1 (He.ga K "Rights") "__eq__" ["self", "other"] (Ow.spEqR (He.ga K "Rights")) := ⟨_, _, T.m_Rights_eq.1, T.m_Rights_eq.2, T.m_Rights_eq.3, FRights_eq.bindsN (ps := ["self", "other"]) (fun _ _ _ _ _ _ us hl => match us, hl with | [_, _], _ => rfl), ok_Rights_eq FRights_eq T ⟩
  have G_law_mix : Ow.Glob P w K mg base CX0 1 "_law_mix" ["_law_cell", "_law_spot"] spMix := ⟨_, _, He.glo_ok X G (c.fact 1 (f := .glo "_law_mix") rfl), F_law_mix.kp, F_law_mix.bindsN (ps := ["_law_cell", "_law_spot"]) (fun _ _ _ _ _ _ us hl => match us, hl with | [_, _], _ => rfl), ok__law_mix F_law_mix T ⟩
  have G_law_keys : Ow.Glob P w K mg base CX0 2 "_law_keys" ["_law_cell"] spKeys := ⟨_, _, He.glo_ok X G (c.fact 2 (f := .glo "_law_keys") rfl), F_law_keys.kp, F_law_keys.bindsN (ps := ["_law_cell"]) (fun _ _ _ _ _ _ us hl => match us, hl with | [_], _ => rfl), ok__law_keys F_law_keys T G_law_mix⟩
  have G_law_step : Ow.Glob P w K mg base CX0 1 "_law_step" ["_law_held", "_law_keys_here", "_law_kind"] (spStep K) := ⟨_, _, He.glo_ok X G (c.fact 3 (f := .glo "_law_step") rfl), F_law_step.kp, F_law_step.bindsN (ps := ["_law_held", "_law_keys_here", "_law_kind"]) (fun _ _ _ _ _ _ us hl => match us, hl with | [_, _, _], _ => rfl), ok__law_step F_law_step T ⟩
  exact ok_law Flaw T G_law_mix G_law_keys G_law_step GRights GR_or GR_and GR_sub GR_xor GR_eq
end K04
open PySem PySem.W PySem.Calls PyProof.Rows
set_option maxRecDepth 100000 in
set_option maxHeartbeats 0 in
theorem PySem.Challenge.cw_keysfewest_k04_whole_rights_fold_holds : PySem.Challenge.rw_keysfewest_k04_whole_rights_fold.Holds := by
  w_on; o_law
  refine HandSHeadRun.head_any (r := OpenLaw.row PySem.Challenge.rw_keysfewest_k04_whole_rights_fold) (q := view (OpenLaw.row PySem.Challenge.rw_keysfewest_k04_whole_rights_fold).prog [12]) (H := K04.hk) (ob := K04.ob) (M := 3000) (loose := K04.loose) (d := HandSHeadRun.topDef (OpenLaw.row PySem.Challenge.rw_keysfewest_k04_whole_rights_fold).prog 12) (kwd := []) K04.ob_eq
    (by kernel_rfl) (fun s => by kernel_rfl) K04.run (by kernel_rfl) (by kernel_rfl) (by kernel_rfl) (by rfl) (by first | assumption | decide +kernel) (by decide +kernel) ⟨rfl, rfl, rfl, rfl, rfl, by decide +kernel⟩ ?hw ?hc
  case hw => w_witness2
  case hc =>
    refine L2.walk_ofE (l := PySem.Challenge.rw_keysfewest_k04_whole_rights_fold) (n := 63) (k := 8) (x := "_law_script") (CX := L2.CX0) rfl (by decide) (by kernel_rfl) ⟨rfl, by decide, by decide⟩ ?F (fun _ _ _ _ z => z)
    intro w mg fa h Y G hmg0
    obtain ⟨K, KX, c, cx⟩ := Y
    have hmg : mg ("law" : PySem.Str) = some (.ref fa) := by
      have e : (HandSHeadRun.topDef (OpenLaw.row PySem.Challenge.rw_keysfewest_k04_whole_rights_fold).prog 12).name = ("law" : PySem.Str) := by kernel_rfl
      rw [← e]
      exact hmg0
    obtain ⟨fd, hb, hF⟩ := K04.facts (P := (PySem.Challenge.rw_keysfewest_k04_whole_rights_fold).prog) (w := w) KX G hmg c cx
    exact ⟨K, fd, K04.spLaw K, KX, hb, fun H a ns hl _ hS => ⟨a, ns, rfl, hS, hl, fun _ => rfl⟩, hF⟩
