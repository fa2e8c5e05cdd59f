import PyProof.Rows.All
import Wide.All
import OpenK.AllK
import Wide.FinOn
import KE.KStateDown
import HandS.ForMost
import HandS.Exc
import HandS.Strs
import HandS.SetFor
import HandS.TupAny
import HandS.OwnEq
import HandS.IsInst
import HandS.Property
import HandS.SortInts
import HandS.Star
import HandS.Defaults
import HandS.Wide
import HandS.Head2
import HandS.HeadEnd
import HandS.HeadHook2
import HandS.Codes
import HandS.NoneIn
import HandS.ClsMeth
import HandS.Style
import HandS.ExcInit
import HandS.AnyAll
import HandS.Flow
import HandS.CallSlots
import HandS.Text
import HandS.ExcField
import HandS.ExcIs
import HandS.WideBits
import KE.BitLaws
import OpenK.KOps
import PyProof.Rows.Range3
import HandS.GenList
import PyProof.CollectWalk
import PyProof.TupleOfGen
import HandS.HeadHook3
import HandS.EndTab
import HandS.MakeKwOnly
import HandS.Dict
import HandS.RevRange
import HandS.Conv
import HandS.Deep
import PySem.Challenge.RW_keysfewest_k11_catchers
set_option Elab.async false
set_option linter.all false
set_option maxRecDepth 100000
set_option maxHeartbeats 4000000
/-! Own rules: operators, in, len, == and truth by the text's own methods; set(list). -/
namespace Ow
open PySem PySem.Spec PyProof.Rows L2
section
variable {X : Cx} {pins : List (Addr × Obj)} {σ : L2.St} {s' : Shared} {Q : VK} {u : Value}
theorem relNI {v : V} (r : RelV v u) : u ≠ .notImplemented := by
  rintro rfl
  cases v
  · cases (r : Value.notImplemented = Value.none)
  · cases (r : Value.notImplemented = Value.bool _)
  · obtain ⟨_, e⟩ := (r : ∃ t, Value.notImplemented = Value.int _ t); cases e
  · obtain ⟨_, e⟩ := (r : ∃ t, Value.notImplemented = Value.str _ t); cases e
  · obtain ⟨_, e⟩ := (r : ∃ t, Value.notImplemented = Value.bytes _ t); cases e
  · obtain ⟨_, e⟩ := (r : ∃ t, Value.notImplemented = Value.float _ t); cases e
  · cases (r : Value.notImplemented = Value.ref _)
  · cases (r : Value.notImplemented = Value.type _)
theorem backOf {R : Value → Shared → Prop} (h : u ≠ .notImplemented) (q : R u s') : PySem.W.CmpBack R u s' := by
  cases u <;> first | exact absurd rfl h | exact q
theorem epBack (h : EP X pins σ Q u s') : PySem.W.CmpBack (EP X pins σ Q) u s' := by
  obtain ⟨v, H', I, r, q⟩ := h
  exact backOf (relNI r) ⟨v, H', I, r, q⟩
end
section
variable {X : Cx} {CX : CXT} {k : Nat} {C f : Addr} {fd : FuncData} {ps : List Str} {sp : Sp} {E : XK}
/-- a op b, both of the class at C: the promise of the class's own def -/
def rOwn (C : Addr) (sp : Sp) (E : XK) : R2 := fun x y H Q => ∃ a b dx dy fs gs, x = .ref a ∧ y = .ref b ∧ H a = some (.ins C dx fs) ∧ H b = some (.ins C dy gs) ∧ sp [.ref a, .ref b] H Q E
theorem op_own {op : Operator} (F : FnOk X.prog X.w X.K X.mg X.base CX k f fd ps sp) (hr : Room k X.A) (hb : Binds X.K fd ps []) (hx : Passes CX X E) (hc : PySem.W.selfFirst X.K C = true)
    (hs : PySem.W.findIn X.K (.ref C) (PySem.dunder op.info.2) = some (some (.ref f))) (hf : PySem.W.isFn X.K (.ref f) = true) : OpR X (binaryOp op) (rOwn C sp E) := by
  intro pins s σ H x y v u Q I rx ry h
  obtain ⟨a, b, dx, dy, fs, gs, rfl, rfl, ha, hb', q⟩ := h
  cases rx
  cases ry
  obtain ⟨mA, J, _⟩ := ins_get I.hok ha
  obtain ⟨mB, J', _⟩ := ins_get I.hok hb'
  obtain ⟨oa, J, _⟩ := J.look
  obtain ⟨ob, J', _⟩ := J'.look
  obtain ⟨m, hF⟩ := I.fr
  refine PySem.W.binop_K hF I.ok.mod.kin J J'.type hc hs hf ?_
  exact wpAny_mono (run_fn (us := [.ref a, .ref b]) (vs := [.ref a, .ref b]) F hr hb .nil hx I (.cons rfl (.cons rfl .nil)) q) (fun _ _ z => epBack z) fun _ _ z => z
/-- x in o, o of the class at C with its own __contains__ -/
def rOwnIn (C : Addr) (neg : Bool) (sp : Sp) (E : XK) : R2 := fun x y H Q => ∃ b dy gs, y = .ref b ∧ H b = some (.ins C dy gs) ∧ sp [.ref b, x] H (fun v H' => ∃ c, v = .bl c ∧ Q (.bl (if neg then !c else c)) H') E
theorem op_ownIn (F : FnOk X.prog X.w X.K X.mg X.base CX k f fd ps sp) (hr : Room k X.A) (hb : Binds X.K fd ps []) (hx : Passes CX X E)
    (hs : PySem.W.findIn X.K (.ref C) "__contains__" = some (some (.ref f))) (hf : PySem.W.isFn X.K (.ref f) = true) : OpR X (compareOp .In) (rOwnIn C false sp E) := by
  intro pins s σ H x y v u Q I rx ry h
  obtain ⟨b, dy, gs, rfl, hb', q⟩ := h
  cases ry
  obtain ⟨mB, J', _⟩ := ins_get I.hok hb'
  obtain ⟨ob, J', _⟩ := J'.look
  obtain ⟨m, hF⟩ := I.fr
  refine PySem.W.in_K hF I.ok.mod.kin J' hs hf (wpAny_mono (run_fn (us := [.ref b, v]) (vs := [.ref b, x]) F hr hb .nil hx I (.cons rfl (.cons rx .nil)) q) (fun r s' z => ?_) fun _ _ z => z)
  obtain ⟨w, H', I', rw', c, rfl, q'⟩ := z
  cases rw'
  exact wpAny_truthy_bool ⟨.bl c, H', I', rfl, q'⟩
theorem op_ownNotIn (F : FnOk X.prog X.w X.K X.mg X.base CX k f fd ps sp) (hr : Room k X.A) (hb : Binds X.K fd ps []) (hx : Passes CX X E)
    (hs : PySem.W.findIn X.K (.ref C) "__contains__" = some (some (.ref f))) (hf : PySem.W.isFn X.K (.ref f) = true) : OpR X (compareOp .NotIn) (rOwnIn C true sp E) := by
  intro pins s σ H x y v u Q I rx ry h
  obtain ⟨b, dy, gs, rfl, hb', q⟩ := h
  cases ry
  obtain ⟨mB, J', _⟩ := ins_get I.hok hb'
  obtain ⟨ob, J', _⟩ := J'.look
  obtain ⟨m, hF⟩ := I.fr
  refine PySem.W.notIn_K hF I.ok.mod.kin J' hs hf (wpAny_mono (run_fn (us := [.ref b, v]) (vs := [.ref b, x]) F hr hb .nil hx I (.cons rfl (.cons rx .nil)) q) (fun r s' z => ?_) fun _ _ z => z)
  obtain ⟨w, H', I', rw', c, rfl, q'⟩ := z
  cases rw'
  exact wpAny_truthy_bool ⟨.bl (!c), H', I', rfl, q'⟩
/-- a def called below the body, at one unit more -/
theorem run_in1 {pins : List (Addr × Obj)} {σ : L2.St} {H : Hp} {s : Shared} {Q : VK} {us : List Value} {vs : List V} (F : FnOk X.prog X.w X.K X.mg X.base CX k f fd ps sp) (hr : Room (k + 1) X.A) (hb : Binds X.K fd ps []) (hx : Passes CX X E)
    (I : Inv X pins σ H s) (r : Vals vs us) (h : sp vs H Q E) : wpAny (model X.prog X.w) X.A.in1 (call (.ref f) us) (EP X pins σ Q) X.xe s := by
  have hl : (us ++ []).length = ps.length := by rw [List.append_nil, ← r.length]; exact F.len _ _ _ _ h
  have hbs := hb s us I.kIn hl
  rw [List.append_nil] at hbs
  refine wpAny_call (codeAny_mono (F.run X.A.in1 X.stack s H ⟨us, []⟩ us vs Q E hr.in1 I.env0.in1 hbs r h) fun r s' hq => ?_)
  cases r with
  | error e => exact hx pins σ H s e s' I hq
  | ok fl =>
    cases fl with
    | ret u => exact I.after hq
    | next => exact False.elim hq
    | brk => exact False.elim hq
    | cont => exact False.elim hq
/-- len(o) by the class's own __len__ -/
def rOwnLen (C : Addr) (sp : Sp) (E : XK) : List V → Hp → VK → Prop := fun xs H Q => ∃ a dx fs, xs = [.ref a] ∧ H a = some (.ins C dx fs) ∧ sp [.ref a] H (fun v H' => ∃ n : Nat, v = .int n ∧ n < 2 ^ 63 ∧ Q (.int n) H') E
theorem call_ownLen (F : FnOk X.prog X.w X.K X.mg X.base CX k f fd ps sp) (hr : Room (k + 1) X.A) (hb : Binds X.K fd ps []) (hx : Passes CX X E)
    (hs : PySem.W.findIn X.K (.ref C) "__len__" = some (some (.ref f))) (hf : PySem.W.isFn X.K (.ref f) = true) : CallR X (.builtin "len") (rOwnLen C sp E) := by
  intro pins s σ H xs us Q I r h
  obtain ⟨a, dx, fs, rfl, ha, q⟩ := h
  rw [Vals.ref1 r]
  obtain ⟨mA, J, _⟩ := ins_get I.hok ha
  obtain ⟨oa, J, _⟩ := J.look
  obtain ⟨m, hF⟩ := I.fr
  refine PySem.W.len_K hF I.ok.mod.kin J hs hf (wpAny_mono (run_in1 (us := [.ref a]) (vs := [.ref a]) F hr hb hx I (.cons rfl .nil) q) (fun v s' z => ?_) fun _ _ z => z)
  obtain ⟨w, H', I', rw', n, rfl, hn, q'⟩ := z
  obtain ⟨t, rfl⟩ := rw'
  exact ⟨⟨by omega, by omega⟩, ⟨.int n, H', I'.tok _, ⟨_, rfl⟩, q'⟩⟩
/-- a == b, a of the class at C with its own __eq__, b of a class or type that is no subclass of it -/
def rOwnEq (C : Addr) (sp : Sp) (E : XK) : R2 := fun x y H Q => ∃ a b dx dy fs gs, x = .ref a ∧ y = .ref b ∧ H a = some (.ins C dx fs) ∧ H b = some (.ins C dy gs) ∧ sp [.ref a, .ref b] H Q E
theorem op_ownEq (F : FnOk X.prog X.w X.K X.mg X.base CX k f fd ps sp) (hr : Room k X.A) (hb : Binds X.K fd ps []) (hx : Passes CX X E)
    (hs : PySem.W.findIn X.K (.ref C) "__eq__" = some (some (.ref f))) (hf : PySem.W.isFn X.K (.ref f) = true) : OpR X (compareOp .Eq) (rOwnEq C sp E) := by
  intro pins s σ H x y v u Q I rx ry h
  obtain ⟨a, b, dx, dy, fs, gs, rfl, rfl, ha, hb', q⟩ := h
  cases rx
  cases ry
  obtain ⟨mA, J, _⟩ := ins_get I.hok ha
  obtain ⟨mB, J', _⟩ := ins_get I.hok hb'
  obtain ⟨oa, J, _⟩ := J.look
  obtain ⟨ob, J', _⟩ := J'.look
  obtain ⟨m, hF⟩ := I.fr
  show wpAny (model X.prog X.w) X.A (richCompare .Eq (.ref a) (.ref b)) (EP X pins σ Q) X.xe s
  refine PySem.W.cmp_K (op := .Eq) (tb := .ref C) hr.units0 hF I.ok.mod.kin J J'.type (by simp [PySem.W.notFirst]) hs hf ?_
  exact wpAny_mono (run_fn (us := [.ref a, .ref b]) (vs := [.ref a, .ref b]) F hr hb .nil hx I (.cons rfl (.cons rfl .nil)) q) (fun _ _ z => epBack z) fun _ _ z => z
end
end Ow

/-! set(list) of hin, its members told -/
namespace Ow
open PySem PySem.Spec PyProof.Rows L2
/-- the new set as an object -/
abbrev emptySet (w : World) : Obj := { cls := .type "set", dict := none, data := .set #[] 0 (.fresh 0 0 (!w.params.followText "set-order")) }
section
variable {P : Program} {w : World} {A : Around} {E : Value → Shared → Prop} {s : Shared}
theorem set_of_list {l : Addr} {its : Array Value} (ns : List Int) {Q : Value → Shared → Prop} (hh : A.handled = none) (hl : s.heap.IsList l its) (hin : IntsAre its.toList ns) (few : ns.length + 1 < scanBound)
    (h : ∀ (hp : Heap) (tk c : Nat), SetR w hp s.heap.objs.size (fun j => decide (j ∈ ns)) c → c ≤ ns.length → (∀ b o, s.heap.get? b = some o → hp.get? b = some o) → Q (.ref s.heap.objs.size) { s with heap := hp, toks := tk }) :
    wpAny (model P w) A (call (.type "set") [.ref l]) Q E s := by
  have sz : its.size = ns.length := by simpa using IntsAre.length hin
  have a0 := F.called_set.mro
  obtain ⟨cc, ctl, a1⟩ := a0
  have a2 := F.called_set.made
  have a3 := F.called_set.sub
  have a4 := F.called_set.notType
  have a5 := F.called_set.canCreate
  have a6 := F.typeCall_set_1 (.ref l)
  refine wpAny_call (codeAny_of_tree ?_)
  refine wpAny_pure ⟨Code.quiet_builtin _ (by decide +kernel), codeAny_builtin F.entry_type_call ?_⟩
  rw [Around.under_plain (weight_type_call_type "set" [.ref l] []) rfl]
  repeat (any_goals (first | assumption | wp_step))
  refine codeAny_mono (code_set_led1 (.ref l) (E := E) (Q₁ := fun ob s1 => ob = .ref s.heap.objs.size ∧ s1 = { s with heap := s.heap.push (emptySet w) }) ⟨rfl, rfl⟩) fun r1 s1 g1 => ?_
  cases r1 with
  | error er => exact g1
  | ok f1 =>
    cases f1 with
    | next => exact g1.elim
    | brk => exact g1.elim
    | cont => exact g1.elim
    | ret ob =>
      obtain ⟨rfl, rfl⟩ := g1
      have at0 : (s.heap.push (emptySet w)).get? s.heap.objs.size = some (emptySet w) := Heap.get?_push_size _ rfl
      have ty0 : Shared.TypeIs { s with heap := s.heap.push (emptySet w) } (.ref s.heap.objs.size) "set" := ⟨_, at0, rfl⟩
      have b1 := F.called_set.init.lookup
      have b2 := F.called_set.init.bind (.ref s.heap.objs.size)
      repeat (any_goals (first | assumption | wp_step))
      refine codeAny_mono (codeAny_call_builtin (R := wants (fun r s2 => r = .none ∧ ∃ hp tk c, s2 = { s with heap := hp, toks := tk } ∧ SetR w hp s.heap.objs.size (fun j => decide (j ∈ ns)) c ∧ c ≤ ns.length ∧ ∀ b o, s.heap.get? b = some o → hp.get? b = some o) E)
        F.called_set.init.plain F.entry_set_init (check_set_init_1 ty0 ?_)) fun r2 s2 g2 => ?_
      · obtain ⟨⟨oc, od, odt, osl⟩, hol, hcl, nl, hdl⟩ := hl
        dsimp only at hcl hdl
        subst hcl hdl
        have c1 : (s.heap.push (emptySet w)).get? l = some { cls := .type "list", dict := od, data := .seq its nl, slots := osl } := Heap.get?_push_of_some _ hol
        have c2 := F.sub_list_set
        have c3 := F.sub_list_frozenset
        have c4 : (Value.type "list" == Value.type "dict") = false := by decide
        have c5 : (s.heap.push (emptySet w)).IsList l its := ⟨_, c1, rfl, nl, rfl⟩
        unfold Builtin.«set.__init__» noKeywords Builtin.Frozenset.updateFrom
        generalize hgen : pyIter = gen
        wp_walk
        subst hgen
        refine wpAny_pyIter_list c5 (wpAny_bind (wpAny_runValue ?_))
        have lt : l < s.heap.objs.size := Heap.lt_size hol
        have hh3 : A.in1.in1.in1.handled = none := by simp [hh]
        have zz : (s.heap.push (emptySet w)).objs.size = s.heap.objs.size + 1 := Heap.size_push ..
        have n1 : l ≠ (s.heap.push (emptySet w)).objs.size := fun e => absurd (Nat.lt_succ_of_lt lt) (by rw [e, zz]; exact Nat.lt_irrefl _)
        have n2 : s.heap.objs.size ∉ [(s.heap.push (emptySet w)).objs.size, l] := fun hm => by
          rcases List.mem_cons.mp hm with e | e
          · rw [zz] at e; exact absurd e (Nat.ne_of_lt (Nat.lt_succ_self _))
          · exact absurd lt (by rw [← List.mem_singleton.mp e]; exact Nat.lt_irrefl _)
        have vals : ∀ (i : Nat) (v : Value), its[i]? = some v → ∃ k t, ns[i]? = some k ∧ v = .int k t := fun i v hv => by
          have hi : i < ns.length := by rw [← sz]; exact (Array.getElem?_eq_some_iff.mp hv).1
          obtain ⟨t, e⟩ := IntsAre.int_at hin i v (by rw [Array.getElem?_toList]; exact hv)
          exact ⟨ns[i], t, List.getElem?_eq_getElem hi, by rw [e]; simp [List.getD_eq_getElem?_getD, hi]⟩
        refine set_update_ints ((Walks.list hh3 _ l n1 its).toS) s.heap.objs.size n2 ns sz few vals (its.size - 0) 0 _ (by omega) (Nat.zero_le _) ⟨⟨_, Heap.get?_push_size _ rfl, rfl, rfl⟩, c5.push _⟩ ⟨0, Nat.le_refl 0, setR_new_at (Heap.get?_push_of_some _ at0)⟩ ?_
        intro s3 c m3 hc3 S3
        obtain ⟨hp3, g3, d3, t3, o3⟩ := s3
        obtain rfl : g3 = s.gens := m3.gens
        obtain rfl : d3 = s.drawn := m3.drawn
        obtain rfl : o3 = s.os := m3.os
        refine wpAny_pure (wpAny_pure ⟨rfl, hp3, t3, c, rfl, S3, by omega, fun b o e => ?_⟩)
        have lb : b < s.heap.objs.size := Heap.lt_size e
        have nb : b ∉ [s.heap.objs.size, (s.heap.push (emptySet w)).objs.size] := fun hm => by
          rcases List.mem_cons.mp hm with e | e
          · exact absurd lb (by rw [e]; exact Nat.lt_irrefl _)
          · rw [List.mem_singleton.mp e, zz] at lb; exact absurd lb (Nat.not_lt_of_lt (Nat.lt_succ_self _))
        exact m3.heap b o nb (Heap.get?_push_of_some _ (Heap.get?_push_of_some _ e))
      · cases r2 with
        | error er => exact g2
        | ok f2 =>
          cases f2 with
          | next => exact g2.elim
          | brk => exact g2.elim
          | cont => exact g2.elim
          | ret v2 =>
            obtain ⟨rfl, hp, tk, c, rfl, S2, hc2, k2⟩ := g2
            repeat (any_goals (first | assumption | wp_step))
            exact h _ _ _ S2 hc2 k2
end
/-- set(xs), xs a list or a tuple of hin, fewer than 4000 -/
def rSetOf (K : PySem.W.Frag) (w : World) : List V → Hp → VK → Prop := fun xs H Q => ∃ (l : Addr) (ns : List Int), xs = [.ref l] ∧ (SqL K H l (ns.map V.int) ∨ SqT K H l (ns.map V.int)) ∧ ns.length ≤ 4000 ∧
  ∀ p c, H p = none → c ≤ ns.length → Q (.ref p) (upd H p (SetO w p (fun j => decide (j ∈ ns)) c))
section
variable {X : Cx}
theorem intsOf : ∀ {ns : List Int} {us : List Value}, Vals (ns.map V.int) us → IntsAre us ns
  | [], _, .nil => .nil
  | n :: ns, _, .cons r t => by
    obtain ⟨k, rfl⟩ := r
    exact .cons n k (intsOf t)
theorem cr_setL (hc : X.calm = true) : CallR X (.type "set") (rSetOf X.K X.w) := by
  intro pins s σ H xs us Q I r h
  obtain ⟨l, ns, rfl, hq, few, q⟩ := h
  rw [Vals.ref1 r]
  have lay : ∀ (hp : Heap) (tk c : Nat), SetR X.w hp s.heap.objs.size (fun j => decide (j ∈ ns)) c → c ≤ ns.length → (∀ b o, s.heap.get? b = some o → hp.get? b = some o) → EP X pins σ Q (.ref s.heap.objs.size) { s with heap := hp, toks := tk } :=
    fun hp tk c S hc k => ⟨.ref s.heap.objs.size, _, I.laid (t' := tk) k (Nat.le_refl _) (setO_new S), rfl, q _ c (I.hok.fresh (Nat.le_refl _)) hc⟩
  rcases hq with hq | hq
  · obtain ⟨its, r2, pl, _⟩ := I.list hq
    exact set_of_list ns (I.ok.hd hc) pl.isList (by simpa using intsOf r2) (by unfold scanBound; omega) lay
  · obtain ⟨its, r2, pl, _⟩ := I.tuple hq
    exact call_set_tupI ns (I.ok.hd hc) pl (by simpa using intsOf r2) (by unfold scanBound; omega) lay
end
end Ow

/-! defs, methods and classes by their names; the head's facts with one more Bool -/
namespace Ow
open PySem PySem.Spec PyProof.Rows L2
section
variable (P : Program) (w : World) (K : PySem.W.Frag) (mg : Str → Option Value) (base : Heap) (CX : CXT) (k : Nat)
/-- the module's name x is a def that keeps sp -/
def Glob (x : Str) (ps : List Str) (sp : Sp) : Prop := ∃ f fd, mg x = some (.ref f) ∧ PySem.W.keepIn K (.ref f) = true ∧ Binds K fd ps [] ∧ FnOk P w K mg base CX k f fd ps sp
/-- the class at C (the module's name x) is made by an __init__ that keeps sp; dvs fill up -/
def Maker (x : Str) (C : Addr) (ps : List Str) (dvs : List V) (sp : Sp) : Prop := ∃ f fd ds, mg x = some (.ref C) ∧ Mk K C f ∧ Binds K fd ps ds ∧ Vals dvs ds ∧ FnOk P w K mg base CX k f fd ps sp
/-- the class at C has the method m, which keeps sp -/
def Dun (C : Addr) (m : Str) (ps : List Str) (sp : Sp) : Prop := ∃ f fd, PySem.W.findIn K (.ref C) m = some (some (.ref f)) ∧ PySem.W.isFn K (.ref f) = true ∧ PySem.W.keepIn K (.ref f) = true ∧ Binds K fd ps [] ∧ FnOk P w K mg base CX k f fd ps sp
end
section
variable {X : Cx} {CX : CXT} {k : Nat} {C : Addr} {ps : List Str} {sp : Sp} {dvs : List V} {E : XK} {x m : Str} {p pos apos : Pos} {e o : Expr} {es : List Expr} {ta : TE} {t : TA}
theorem pe_g (G : Glob X.prog X.w X.K X.mg X.base CX k x ps sp) (hr : Room k X.A) (hx : Passes CX X E) (ha : PA X (e :: es) t) (hg : Gl X x := by rfl) (hdb : (x == ("__debug__" : Str)) = false := by decide)
    (he : starEach (e :: es) X.env = (false, eval e X.env) :: starEach es X.env := by rfl) (hpl : (backTo pos (starEach es X.env)).any (·.1) = false := by rfl) : PE X (.Call (.Name x p) (e :: es) [] pos) (tCall sp [] E t) := by
  obtain ⟨f, fd, hm, hk, hb, F⟩ := G
  exact pe_call F hr hg hm hk hb .nil hx ha hdb he hpl
theorem pe_g0 (G : Glob X.prog X.w X.K X.mg X.base CX k x ps sp) (hr : Room k X.A) (hx : Passes CX X E) (hg : Gl X x := by rfl) (hdb : (x == ("__debug__" : Str)) = false := by decide) : PE X (.Call (.Name x p) [] [] pos) (tCall sp [] E tNil) := by
  obtain ⟨f, fd, hm, hk, hb, F⟩ := G
  exact pe_call0 F hr hg hm hk hb .nil hx hdb
theorem pe_mk (G : Maker X.prog X.w X.K X.mg X.base CX k x C ps dvs sp) (hr : Room (k + 1) X.A) (hx : Passes CX X E) (ha : PA X (e :: es) t) (hg : Gl X x := by rfl) (hdb : (x == ("__debug__" : Str)) = false := by decide)
    (he : starEach (e :: es) X.env = (false, eval e X.env) :: starEach es X.env := by rfl) (hpl : (backTo pos (starEach es X.env)).any (·.1) = false := by rfl) : PE X (.Call (.Name x p) (e :: es) [] pos) (tMake C sp dvs E t) := by
  obtain ⟨f, fd, ds, hm, M, hb, hd, F⟩ := G
  exact pe_make M F hr hg hm hb hd hx ha hdb he hpl
theorem pe_mk0 (G : Maker X.prog X.w X.K X.mg X.base CX k x C ps dvs sp) (hr : Room (k + 1) X.A) (hx : Passes CX X E) (hg : Gl X x := by rfl) (hdb : (x == ("__debug__" : Str)) = false := by decide) : PE X (.Call (.Name x p) [] [] pos) (tMake C sp dvs E tNil) := by
  obtain ⟨f, fd, ds, hm, M, hb, hd, F⟩ := G
  exact pe_make0 M F hr hg hm hb hd hx hdb
theorem od_bin {op : Operator} (G : Dun X.prog X.w X.K X.mg X.base CX k C m ps sp) (hr : Room k X.A) (hx : Passes CX X E) (hc : PySem.W.selfFirst X.K C = true) (hm : PySem.dunder op.info.2 = m) : OpR X (binaryOp op) (rOwn C sp E) := by
  obtain ⟨f, fd, hs, hf, hk, hb, F⟩ := G
  exact op_own F hr hb hx hc (by rw [hm]; exact hs) hf
theorem od_in (G : Dun X.prog X.w X.K X.mg X.base CX k C "__contains__" ps sp) (hr : Room k X.A) (hx : Passes CX X E) : OpR X (compareOp .In) (rOwnIn C false sp E) := by
  obtain ⟨f, fd, hs, hf, hk, hb, F⟩ := G
  exact op_ownIn F hr hb hx hs hf
theorem od_notIn (G : Dun X.prog X.w X.K X.mg X.base CX k C "__contains__" ps sp) (hr : Room k X.A) (hx : Passes CX X E) : OpR X (compareOp .NotIn) (rOwnIn C true sp E) := by
  obtain ⟨f, fd, hs, hf, hk, hb, F⟩ := G
  exact op_ownNotIn F hr hb hx hs hf
theorem od_eq (G : Dun X.prog X.w X.K X.mg X.base CX k C "__eq__" ps sp) (hr : Room k X.A) (hx : Passes CX X E) : OpR X (compareOp .Eq) (rOwnEq C sp E) := by
  obtain ⟨f, fd, hs, hf, hk, hb, F⟩ := G
  exact op_ownEq F hr hb hx hs hf
theorem od_len (G : Dun X.prog X.w X.K X.mg X.base CX k C "__len__" ps sp) (hr : Room (k + 1) X.A) (hx : Passes CX X E) : CallR X (.builtin "len") (rOwnLen C sp E) := by
  obtain ⟨f, fd, hs, hf, hk, hb, F⟩ := G
  exact call_ownLen F hr hb hx hs hf
/-- o.m(e, ..) -/
theorem pe_m {pl : Sem Bool} (he : PE X o ta) (c : Cls X.K C) (G : Dun X.prog X.w X.K X.mg X.base CX k C m ps sp) (hr : Room k X.A) (hx : Passes CX X E) (ha : PA X (e :: es) t)
    (hst : starEach (e :: es) X.env = (false, eval e X.env) :: starEach es X.env := by rfl) (hpl : (backTo pos (starEach es X.env)).any (·.1) = false := by rfl)
    (ht : eval (.Call (.Attribute o m apos) (e :: es) [] pos) X.env = (do
      let ov ← eval o X.env
      standAt apos.atName
      let (f, first) ← holding [ov] (getMethod ov m pl)
      callWith pos f first (backTo pos (starEach (e :: es) X.env)) (backToKw pos (keywordEach [] X.env))) := by rfl) : PE X (.Call (.Attribute o m apos) (e :: es) [] pos) (tMeth C m sp [] E ta t) := by
  obtain ⟨f, fd, hs, hf, hk, hb, F⟩ := G
  exact pe_meth (pl := pl) he c ⟨hs, hf, hk⟩ F hr hb .nil hx ha hst hpl ht
theorem pe_m0 {pl : Sem Bool} (he : PE X o ta) (c : Cls X.K C) (G : Dun X.prog X.w X.K X.mg X.base CX k C m ps sp) (hr : Room k X.A) (hx : Passes CX X E)
    (ht : eval (.Call (.Attribute o m apos) [] [] pos) X.env = (do
      let ov ← eval o X.env
      standAt apos.atName
      let (f, first) ← holding [ov] (getMethod ov m pl)
      callWith pos f first (backTo pos (starEach [] X.env)) (backToKw pos (keywordEach [] X.env))) := by rfl) : PE X (.Call (.Attribute o m apos) [] [] pos) (tMeth C m sp [] E ta tNil) := by
  obtain ⟨f, fd, hs, hf, hk, hb, F⟩ := G
  exact pe_meth0 (pl := pl) he c ⟨hs, hf, hk⟩ F hr hb .nil hx ht
end
end Ow
/-! the Hook: HeadHook2's with a Bool of one's own over the written part -/
namespace Ow
open PySem PySem.Spec PyProof.Rows L2
def obsM (n : Nat) (fa : List He.Fa) (fn : List He.DefD) (ex : PySem.W.Frag → Bool) (g : Addr → Option Obj) : He.AlD × Bool :=
  (He.obsD fa fn (He.frG g (He.asD g n)), ex (He.frG g (He.asD g n)))
def hookM (n : Nat) (fa : List He.Fa) (fn : List He.DefD) (ex : PySem.W.Frag → Bool) : PySem.W.Hook where
  α := He.AlD × Bool
  obs := fun s => obsM n fa fn ex s.heap.get?
  val := fun _ => (He.valD fn, true)
  says := fun _ h => ∃ K : PySem.W.Frag, K.In h ∧ He.SaysD fa fn K ∧ ex K = true
  of := fun _ _ e => ⟨_, He.frG_in, congrArg Prod.fst e, congrArg Prod.snd e⟩
  keeps := fun _ _ _ ⟨K, hK, c⟩ k => ⟨K, PySem.W.Frag.In.keeps hK k, c⟩
theorem obsM_eq {n : Nat} {fa : List He.Fa} {fn : List He.DefD} {ex : PySem.W.Frag → Bool} {g : Addr → Option Obj} {s : Shared} (h : ∀ a, g a = s.heap.get? a) : obsM n fa fn ex g = (hookM n fa fn ex).obs s := by
  obtain rfl : g = s.heap.get? := funext h
  rfl
end Ow

/-! data compared: ints, lists and tuples of ints, lists of those; isinstance of an own instance -/
namespace Ow
open PySem PySem.Spec PyProof.Rows L2
theorem dp_ints {K : PySem.W.Frag} {H : Hp} : ∀ ns : List Int, DpAll K H (ns.map V.int) (ns.map PyData.int)
  | [] => .nil
  | n :: ns => .cons (.int n) (dp_ints ns)
theorem eqv_ints : ∀ ns ms : List Int, PyData.eqvAll (ns.map PyData.int) (ms.map PyData.int) = decide (ns = ms)
  | [], [] => by simp [PyData.eqvAll]
  | [], _ :: _ => by simp [PyData.eqvAll]
  | _ :: _, [] => by simp [PyData.eqvAll]
  | n :: ns, m :: ms => by
    simp only [List.map_cons, PyData.eqvAll, eqv_ints ns ms, PyData.eqv]
    by_cases h1 : n = m <;> by_cases h2 : ns = ms <;> simp [h1, h2]
theorem lay_ints : ∀ ns : List Int, PyData.canLayAll0 (ns.map PyData.int) = true
  | [] => by simp [PyData.canLayAll0]
  | n :: ns => by simp [PyData.canLayAll0, PyData.canLay0, lay_ints ns]
theorem depth_ints : ∀ ns : List Int, PyData.depthAll (ns.map PyData.int) ≤ 1
  | [] => by simp [PyData.depthAll]
  | n :: ns => by
    have := depth_ints ns
    simp [PyData.depthAll, PyData.depth]
    omega
theorem sh_list (ns : List Int) : SeqAt.shaped (.list (ns.map PyData.int)) = true := by
  have := depth_ints ns
  simp [SeqAt.shaped, PyData.canLay0, lay_ints, PyData.depth]
  omega
theorem sh_tup (ns : List Int) : SeqAt.shaped (.tuple (ns.map PyData.int)) = true := by
  have := depth_ints ns
  simp [SeqAt.shaped, PyData.canLay0, lay_ints, PyData.depth]
  omega
/-- lists of ints at the addresses -/
def Rows (K : PySem.W.Frag) (H : Hp) (as : List V) (nss : List (List Int)) : Prop := DpAll K H as (nss.map fun ns => .list (ns.map PyData.int))
theorem eqv_rows : ∀ ns ms : List (List Int), PyData.eqvAll (ns.map fun n => .list (n.map PyData.int)) (ms.map fun n => .list (n.map PyData.int)) = decide (ns = ms)
  | [], [] => by simp [PyData.eqvAll]
  | [], _ :: _ => by simp [PyData.eqvAll]
  | _ :: _, [] => by simp [PyData.eqvAll]
  | n :: ns, m :: ms => by
    simp only [List.map_cons, PyData.eqvAll, eqv_rows ns ms, PyData.eqv, eqv_ints]
    by_cases h1 : n = m <;> by_cases h2 : ns = ms <;> simp [h1, h2]
theorem lay_rows : ∀ ns : List (List Int), PyData.canLayAll0 (ns.map fun n => .list (n.map PyData.int)) = true
  | [] => by simp [PyData.canLayAll0]
  | n :: ns => by simp [PyData.canLayAll0, PyData.canLay0, lay_ints, lay_rows ns]
theorem depth_rows : ∀ ns : List (List Int), PyData.depthAll (ns.map fun n => .list (n.map PyData.int)) ≤ 2
  | [] => by simp [PyData.depthAll]
  | n :: ns => by
    have h1 := depth_rows ns
    have h2 := depth_ints n
    simp [PyData.depthAll, PyData.depth]
    omega
theorem sh_rows (ns : List (List Int)) : SeqAt.shaped (.list (ns.map fun n => .list (n.map PyData.int))) = true := by
  have := depth_rows ns
  simp [SeqAt.shaped, PyData.canLay0, lay_rows, PyData.depth]
  omega
/-- two lists, two tuples of ints compared -/
theorem eqd_list {K : PySem.W.Frag} {H : Hp} {a b : Addr} {ns ms : List Int} {Q : VK} (ha : SqL K H a (ns.map V.int)) (hb : SqL K H b (ms.map V.int)) (q : Q (.bl (decide (ns = ms))) H) : rEqD K (.ref a) (.ref b) H Q :=
  ⟨_, _, .lst ha (dp_ints ns), .lst hb (dp_ints ms), sh_list ns, sh_list ms, by rw [PyData.eqv, eqv_ints]; exact q⟩
theorem ned_list {K : PySem.W.Frag} {H : Hp} {a b : Addr} {ns ms : List Int} {Q : VK} (ha : SqL K H a (ns.map V.int)) (hb : SqL K H b (ms.map V.int)) (q : Q (.bl (!decide (ns = ms))) H) : rNeD K (.ref a) (.ref b) H Q :=
  ⟨_, _, .lst ha (dp_ints ns), .lst hb (dp_ints ms), sh_list ns, sh_list ms, by rw [PyData.eqv, eqv_ints]; exact q⟩
theorem eqd_tup {K : PySem.W.Frag} {H : Hp} {a b : Addr} {ns ms : List Int} {Q : VK} (ha : SqT K H a (ns.map V.int)) (hb : SqT K H b (ms.map V.int)) (q : Q (.bl (decide (ns = ms))) H) : rEqD K (.ref a) (.ref b) H Q :=
  ⟨_, _, .tup ha (dp_ints ns), .tup hb (dp_ints ms), sh_tup ns, sh_tup ms, by rw [PyData.eqv, eqv_ints]; exact q⟩
theorem ned_tup {K : PySem.W.Frag} {H : Hp} {a b : Addr} {ns ms : List Int} {Q : VK} (ha : SqT K H a (ns.map V.int)) (hb : SqT K H b (ms.map V.int)) (q : Q (.bl (!decide (ns = ms))) H) : rNeD K (.ref a) (.ref b) H Q :=
  ⟨_, _, .tup ha (dp_ints ns), .tup hb (dp_ints ms), sh_tup ns, sh_tup ms, by rw [PyData.eqv, eqv_ints]; exact q⟩
theorem eqd_rows {K : PySem.W.Frag} {H : Hp} {a b : Addr} {as bs : List V} {ns ms : List (List Int)} {Q : VK} (ha : SqL K H a as) (hb : SqL K H b bs) (ra : Rows K H as ns) (rb : Rows K H bs ms) (q : Q (.bl (decide (ns = ms))) H) : rEqD K (.ref a) (.ref b) H Q :=
  ⟨_, _, .lst ha ra, .lst hb rb, sh_rows ns, sh_rows ms, by rw [PyData.eqv, eqv_rows]; exact q⟩
/-- what isinstance asks of an own class -/
structure IsiC (K : PySem.W.Frag) (C : Addr) : Prop where
  c : PySem.W.findIn K (.ref C) "__class__" = some (some (.builtin "object.__class__"))
  g : PySem.W.specialIn K (.builtin "object.__class__") "__get__" = some (some (.builtin "getset_descriptor.__get__"))
  t : PySem.W.takesIn K (.builtin "object.__class__") = some true
  m : PySem.W.mroIn K C (.type "object") = some true
  y : PySem.W.kitOne K (.ref C) (.ref C) = some true
def isiB (K : PySem.W.Frag) (C : Addr) : Bool := He.eqO (PySem.W.findIn K (.ref C) "__class__") (some (some (.builtin "object.__class__"))) && (He.eqO (PySem.W.specialIn K (.builtin "object.__class__") "__get__") (some (some (.builtin "getset_descriptor.__get__"))) &&
  (decide (PySem.W.takesIn K (.builtin "object.__class__") = some true) && (decide (PySem.W.mroIn K C (.type "object") = some true) && decide (PySem.W.kitOne K (.ref C) (.ref C) = some true))))
theorem isiB_ok {K : PySem.W.Frag} {C : Addr} (h : isiB K C = true) : IsiC K C := by
  obtain ⟨h1, h⟩ := He.ba h
  obtain ⟨h2, h⟩ := He.ba h
  obtain ⟨h3, h⟩ := He.ba h
  obtain ⟨h4, h5⟩ := He.ba h
  exact ⟨He.eqO_ok h1, He.eqO_ok h2, of_decide_eq_true h3, of_decide_eq_true h4, of_decide_eq_true h5⟩
theorem IsiC.ty {K : PySem.W.Frag} {C a dx : Addr} {fs : List (Str × V)} {H : Hp} (i : IsiC K C) (cl : Cls K C) (h : H a = some (.ins C dx fs)) : TyX K H (.ref a) (.ref C) := .base (.ins h cl i.c i.g i.t i.m)
theorem SqT.of' {K : PySem.W.Frag} {H : Hp} {a : Addr} {xs : List V} (h : H a = some (.tup xs)) : SqT K H a xs := SqT.of h
/-- what was tracked is as it was -/
theorem ext_upd {H : Hp} {p : Addr} {o : HO} (h : H p = none) : Ext H (upd H p o) := Ext.upd h
theorem Ext.same {H H' : Hp} (e : Ext H H') : Same H H' := e
theorem Ext.free {H H' : Hp} (e : Ext H H') {l : Addr} (h : H' l = none) : H l = none := Same.free e h
end Ow

/-! sets of keys as functions; their lists -/
namespace Ow
open PySem PySem.Spec PyProof.Rows L2
/-- the keys of S from 0 to 15, ascending -/
def ks (S : Int → Bool) : List Int := ((List.range 16).map fun n : Nat => (n : Int)).filter S
theorem mem_ks {S : Int → Bool} {k : Int} : k ∈ ks S ↔ (0 ≤ k ∧ k < 16) ∧ S k = true := by
  unfold ks
  rw [List.mem_filter, List.mem_map]
  constructor
  · rintro ⟨⟨n, hn, rfl⟩, h⟩
    have := List.mem_range.mp hn
    exact ⟨⟨by omega, by omega⟩, h⟩
  · rintro ⟨⟨h0, h1⟩, h⟩
    exact ⟨⟨k.toNat, List.mem_range.mpr (by omega), by omega⟩, h⟩
theorem up_sorted (n : Nat) : ((List.range n).map fun n : Nat => (n : Int)).Pairwise (· < ·) := by
  rw [List.pairwise_map]
  exact List.Pairwise.imp (fun h => by omega) List.pairwise_lt_range
theorem ks_sorted (S : Int → Bool) : (ks S).Pairwise (· < ·) := (up_sorted 16).filter _
theorem ks_len (S : Int → Bool) : (ks S).length ≤ 16 := by
  unfold ks
  exact Nat.le_trans (List.length_filter_le _ _) (by simp)
theorem ks_congr {S T : Int → Bool} (h : ∀ k, 0 ≤ k → k < 16 → S k = T k) : ks S = ks T := by
  unfold ks
  refine List.filter_congr fun k hk => ?_
  obtain ⟨n, hn, rfl⟩ := List.mem_map.mp hk
  have := List.mem_range.mp hn
  exact h _ (by omega) (by omega)
theorem ks_inj {S T : Int → Bool} (h : ks S = ks T) (k : Int) (h0 : 0 ≤ k) (h1 : k < 16) : S k = T k := by
  have a := mem_ks (S := S) (k := k)
  have b := mem_ks (S := T) (k := k)
  rw [h] at a
  have c := a.symm.trans b
  cases hS : S k <;> cases hT : T k <;> simp_all
/-- a strictly ascending list is told by its members -/
theorem asc_uniq : ∀ {ns ms : List Int}, ns.Pairwise (· < ·) → ms.Pairwise (· < ·) → (∀ k, k ∈ ns ↔ k ∈ ms) → ns = ms
  | [], [], _, _, _ => rfl
  | [], m :: ms, _, _, h => absurd ((h m).mpr List.mem_cons_self) (by simp)
  | n :: ns, [], _, _, h => absurd ((h n).mp List.mem_cons_self) (by simp)
  | n :: ns, m :: ms, hn, hm, h => by
    have ⟨an, hn'⟩ := List.pairwise_cons.mp hn
    have ⟨am, hm'⟩ := List.pairwise_cons.mp hm
    have e : n = m := by
      have h1 := (h n).mp List.mem_cons_self
      have h2 := (h m).mpr List.mem_cons_self
      rcases List.mem_cons.mp h1 with e | e
      · exact e
      · rcases List.mem_cons.mp h2 with e2 | e2
        · exact e2.symm
        · have := am _ e; have := an _ e2; omega
    subst e
    have r : ∀ k, k ∈ ns ↔ k ∈ ms := fun k => by
      constructor
      · intro hk
        have := an _ hk
        rcases List.mem_cons.mp ((h k).mp (List.mem_cons_of_mem _ hk)) with e | e
        · omega
        · exact e
      · intro hk
        have := am _ hk
        rcases List.mem_cons.mp ((h k).mpr (List.mem_cons_of_mem _ hk)) with e | e
        · omega
        · exact e
    rw [asc_uniq hn' hm' r]
theorem ks_uniq {ns : List Int} {S : Int → Bool} (h : ns.Pairwise (· < ·)) (m : ∀ k, k ∈ ns ↔ (0 ≤ k ∧ k < 16) ∧ S k = true) : ns = ks S :=
  asc_uniq h (ks_sorted S) fun k => (m k).trans mem_ks.symm
theorem inV_ints (k : Int) : ∀ ns : List Int, inV (.int k) (ns.map V.int) = decide (k ∈ ns)
  | [] => by simp [inV]
  | n :: ns => by
    have ih := inV_ints k ns
    unfold inV at ih ⊢
    rw [List.map_cons, List.any_cons, ih]
    have e : eqV (.int n) (.int k) = decide (k = n) := by
      by_cases h : k = n
      · subst h; simp [eqV]
      · have : ¬ n = k := fun z => h z.symm
        simp [eqV, h, this]
    rw [e]
    by_cases h : k = n <;> simp [h]
theorem flat_ints : ∀ ns : List Int, (ns.map V.int).all flatV = true
  | [] => rfl
  | n :: ns => by rw [List.map_cons, List.all_cons, flat_ints ns]; rfl
/-- x in xs for ints -/
theorem in_ints {K : PySem.W.Frag} {H : Hp} {a : Addr} {ns : List Int} {k : Int} {neg : Bool} {Q : VK} (h : SqL K H a (ns.map V.int) ∨ SqT K H a (ns.map V.int)) (q : Q (.bl (if neg then !decide (k ∈ ns) else decide (k ∈ ns))) H) : rIn K neg (.int k) (.ref a) H Q :=
  ⟨a, _, rfl, h, rfl, flat_ints ns, by rw [inV_ints]; exact q⟩
/-- the rights S stand at p, an instance of the class at C -/
def RtAt (C : Addr) (H : Hp) (p : Addr) (S : Int → Bool) : Prop := ∃ dx t, H p = some (.ins C dx [("numbers", .ref t)]) ∧ H t = some (.tup ((ks S).map V.int))
theorem RtAt.ext {C p : Addr} {H H' : Hp} {S : Int → Bool} (r : RtAt C H p S) (e : Ext H H') : RtAt C H' p S := let ⟨dx, t, h1, h2⟩ := r; ⟨dx, t, e _ _ h1, e _ _ h2⟩
theorem RtAt.congr {C p : Addr} {H : Hp} {S T : Int → Bool} (r : RtAt C H p S) (h : ∀ k, 0 ≤ k → k < 16 → S k = T k) : RtAt C H p T := let ⟨dx, t, h1, h2⟩ := r; ⟨dx, t, h1, by rw [← ks_congr h]; exact h2⟩
/-- is_key(number) -/
def spIsKey : Sp := fun vs H Q _ => ∃ n : Int, vs = [.int n] ∧ Q (.bl (decide (0 ≤ n ∧ n ≤ 15))) H
/-- __init__ of rights, no wrong key given -/
def spInit (K : PySem.W.Frag) (C : Addr) : Sp := fun vs H Q _ => ∃ (p dx a : Addr) (ns : List Int), vs = [.ref p, .ref a] ∧ H p = some (.ins C dx []) ∧ (SqL K H a (ns.map V.int) ∨ SqT K H a (ns.map V.int)) ∧ ns.length < 64 ∧ (∀ n ∈ ns, 0 ≤ n ∧ n ≤ 15) ∧
  ∀ H', RtAt C H' p (fun j => decide (j ∈ ns)) → (∀ b o, H b = some o → b ≠ p → H' b = some o) → Q .non H'
/-- Rights(xs) -/
theorem mkRt {K : PySem.W.Frag} {C a : Addr} {H : Hp} {ns : List Int} {Q : VK} {E : XK} (hs : SqL K H a (ns.map V.int) ∨ SqT K H a (ns.map V.int)) (hl : ns.length < 64) (hb : ∀ n ∈ ns, 0 ≤ n ∧ n ≤ 15)
    (k : ∀ x H2, Ext H H2 → H x = none → RtAt C H2 x (fun j => decide (j ∈ ns)) → Q (.ref x) H2) (x dx : Addr) (nx : H x = none) (ndx : H dx = none) (ne : dx ≠ x) :
    spInit K C [.ref x, .ref a] (upd (upd H dx (.own x)) x (.ins C dx [])) (fun v H2 => v = .non ∧ Q (.ref x) H2) E := by
  have e0 : Ext H (upd (upd H dx (.own x)) x (.ins C dx [])) := (Ext.upd ndx).trans (Ext.upd (by rw [upd_ne (Ne.symm ne)]; exact nx))
  refine ⟨x, dx, a, ns, rfl, upd_same, hs.imp (fun h => h.ext e0) (fun h => h.ext e0), hl, hb, fun H' r kp => ⟨rfl, k x H' (fun b o e => kp b o (e0 b o e) (ne_of_none e nx)) nx r⟩⟩
/-- a binary operator of rights, by keys -/
def spBin (C : Addr) (g : Bool → Bool → Bool) : Sp := fun vs H Q _ => ∃ (a b : Addr) (S T : Int → Bool), vs = [.ref a, .ref b] ∧ RtAt C H a S ∧ RtAt C H b T ∧ ∀ x H', Ext H H' → H x = none → RtAt C H' x (fun k => g (S k) (T k)) → Q (.ref x) H'
/-- key in rights -/
def spHas (C : Addr) : Sp := fun vs H Q _ => ∃ (a : Addr) (S : Int → Bool) (k : Int), vs = [.ref a, .int k] ∧ RtAt C H a S ∧ Q (.bl (decide (k ∈ ks S))) H
/-- len(rights) -/
def spLen (C : Addr) : Sp := fun vs H Q _ => ∃ (a : Addr) (S : Int → Bool), vs = [.ref a] ∧ RtAt C H a S ∧ Q (.int ((ks S).length : Nat)) H
/-- rights == rights -/
def spEqR (C : Addr) : Sp := fun vs H Q _ => ∃ (a b : Addr) (S T : Int → Bool), vs = [.ref a, .ref b] ∧ RtAt C H a S ∧ RtAt C H b T ∧ Q (.bl (decide (ks S = ks T))) H
theorem lk1 {f : Str} {v : V} : List.lookup f [(f, v)] = some v := by simp [List.lookup]
theorem few16 {n : Nat} (h : n ≤ 1000) : n ≤ sizeLine := Nat.le_of_lt (small1000 h)
end Ow

/-! the layer's rules with the written part and the world told by letters (a comprehension's block asks for readings that do not hang on its own context) -/
namespace Ow
open PySem PySem.Spec PyProof.Rows L2
def rLenK (K : PySem.W.Frag) : List V → Hp → VK → Prop := fun xs H Q => ∃ x n, xs = [x] ∧ LenV K x H n ∧ Q (.int (n : Nat)) H
def rListK (K : PySem.W.Frag) : List V → Hp → VK → Prop := fun xs H Q => ∃ p ys, xs = [.ref p] ∧ (SqL K H p ys ∨ SqT K H p ys) ∧ ∀ l, H l = none → Q (.ref l) (upd H l (.lst ys))
def rTupleK (K : PySem.W.Frag) : List V → Hp → VK → Prop := fun xs H Q => ∃ p ys, xs = [.ref p] ∧ ((SqL K H p ys ∧ ∀ l, H l = none → Q (.ref l) (upd H l (.tup ys))) ∨ (SqT K H p ys ∧ Q (.ref p) H))
def tTruK (K : PySem.W.Frag) (ta : TE) : TT := fun σ H Q => ta σ H fun x H' => ∃ k, TruV K x H' k ∧ Q k H'
section
variable {X : Cx} {K : PySem.W.Frag} {w : World}
theorem kin (h : X.K = K := by rfl) : OpR X (compareOp .In) (rIn K false) := h ▸ op_in_seq
theorem knotin (h : X.K = K := by rfl) : OpR X (compareOp .NotIn) (rIn K true) := h ▸ op_notIn_seq
theorem kixl (h : X.K = K := by rfl) : IxR X (rIxL K) := h ▸ ix_list
theorem kixt (h : X.K = K := by rfl) : IxR X (rIxT K) := h ▸ ix_tup
theorem ksll (h : X.K = K := by rfl) : SlR X (rSlL K) := h ▸ sl_list
theorem kslt (h : X.K = K := by rfl) : SlR X (rSlT K) := h ▸ sl_tup
theorem klen (h : X.K = K := by rfl) : CallR X (.builtin "len") (rLenK K) := by subst h; exact call_len
theorem klist (h : X.K = K := by rfl) : CallR X (.type "list") (rListK K) := by subst h; exact call_list_of
theorem ktuple (h : X.K = K := by rfl) : CallR X (.type "tuple") (rTupleK K) := by subst h; exact call_tuple_of
theorem kisi (h : X.K = K := by rfl) : CallR X (.builtin "isinstance") (rIsi K) := by subst h; exact call_isi
theorem keqd (hu : X.A.units + 64 < cLine) (h : X.K = K := by rfl) : OpR X (compareOp .Eq) (rEqD K) := by subst h; exact op_eqD hu
theorem kned (hu : X.A.units + 64 < cLine) (h : X.K = K := by rfl) : OpR X (compareOp .NotEq) (rNeD K) := by subst h; exact op_neD hu
theorem kcat (h : X.K = K := by rfl) : OpR X (binaryOp .Add) (rCatA K) := by subst h; exact op_catA
theorem kset (hc : X.calm = true) (h : X.K = K := by rfl) (hw : X.w = w := by rfl) : CallR X (.type "set") (rSetOf K w) := by subst h; subst hw; exact cr_setL hc
theorem ksorted (hc : X.calm = true) (hw : X.w = w := by rfl) : CallR X (.builtin "sorted") (rSortedSet w) := by subst hw; exact cr_sortedSet hc
theorem ksortI (h : X.K = K := by rfl) : CallR X (.builtin "sorted") (rSortedI K) := by subst h; exact cr_sortedI
theorem kpl {tg l : Expr} {tl : TE} (hl : PE X l tl) (h : X.K = K := by rfl) : PI X tg l (iList K tl) := by subst h; exact pi_list hl
theorem kpt {tg l : Expr} {tl : TE} (hl : PE X l tl) (h : X.K = K := by rfl) : PI X tg l (iTup K tl) := by subst h; exact pi_tup hl
theorem kfld {e : Expr} {f : Str} {pos : Pos} {ta : TE} (he : PE X e ta) (hb : attributeBase e f X.env (eval e X.env) = eval e X.env := by rfl) (h : X.K = K := by rfl) : PE X (.Attribute e f pos) (tFld K ta f) := by subst h; exact pe_fld he hb
theorem ktru {a : Expr} {ta : TE} (ha : PE X a ta) (he : ∀ whole, isTrue a X.env whole = (do let v ← whole; standAt a.pos; holding [v] (truthy v)) := by intro _; rfl) (h : X.K = K := by rfl) : PT X a (tTruK K ta) := by subst h; exact pt_truth ha he
theorem kbm0 {o : Expr} {to : TE} {name : Str} {apos cpos : Pos} {T id : String} {r : V → List V → Hp → VK → Prop} (pa : PlainAttrs T) (slot : Slot T name id) (hty : typeOf (.builtin id) = pure (.type "method_descriptor")) (hm : MtR X id r) (ho : PE X o to)
    (hbase : attributeBase o name X.env (eval o X.env) = eval o X.env := by rfl) (hline : (apos.endLine == cpos.line) = true := by rfl) (h : X.K = K := by rfl) : PE X (.Call (.Attribute o name apos) [] [] cpos) (tBM0 K T r to) := by
  subst h; exact pe_bm0 pa slot hty hm ho hbase hline
theorem kbm {o e : Expr} {es : List Expr} {to : TE} {t : TA} {name : Str} {apos cpos : Pos} {T id : String} {r : V → List V → Hp → VK → Prop} (pa : PlainAttrs T) (slot : Slot T name id) (hty : typeOf (.builtin id) = pure (.type "method_descriptor")) (hm : MtR X id r) (ho : PE X o to) (ha : PA X (e :: es) t)
    (hbase : attributeBase o name X.env (eval o X.env) = eval o X.env := by rfl)
    (hfew : ((backTo cpos (starEach (e :: es) X.env)).all (fun x => !x.1) && (backToKw cpos (keywordEach [] X.env)).all (fun x => x.1.isSome)
      && decide ((e :: es).length + ([] : List Keyword).length + (if ([] : List Keyword).isEmpty then 0 else 1) < 30)) = true := by rfl)
    (hline : (apos.endLine == cpos.line) = true := by rfl) (hs : starEach (e :: es) X.env = (false, eval e X.env) :: starEach es X.env := by rfl) (hplain : (backTo cpos (starEach es X.env)).any (·.1) = false := by rfl) (h : X.K = K := by rfl) :
    PE X (.Call (.Attribute o name apos) (e :: es) [] cpos) (tBM K T r to t) := by
  subst h; exact pe_bm pa slot hty hm ho ha hbase hfew hline hs hplain
end
end Ow
namespace Ow
open PySem PySem.Spec PyProof.Rows L2
section
variable {X : Cx} {K : PySem.W.Frag} {w : World}
theorem ksum (hc : X.calm = true) (h : X.K = K := by rfl) : CallR X (.builtin "sum") (rSum K) := by subst h; exact cr_sum hc
theorem kany (hc : X.calm = true) (h : X.K = K := by rfl) : CallR X (.builtin "any") (rAny K) := by subst h; exact cr_any hc
theorem kall (hc : X.calm = true) (h : X.K = K := by rfl) : CallR X (.builtin "all") (rAll K) := by subst h; exact cr_all hc
theorem kgtup {es : List Expr} {k : Nat} {t : TGs} {n : Nat} {pos : Pos} (hc : X.calm = true) (hs : PGs X es t) (hn : (assignEach es X.env).length = n := by rfl) (hst : (assignEach es X.env).findIdx? (·.1) = none := by rfl) (h : X.K = K := by rfl) : PG X (.Tuple es k pos) (gTup K n t) := by subst h; exact pg_tup hc hs hn hst
end
end Ow

/-! comprehensions whose turns leave the heap as it is: [h x for x in xs if f x] over a list, a tuple, a range -/
namespace Ow
open PySem PySem.Spec PyProof.Rows L2
theorem wipe_back (σ : L2.St) (i : Nat) (x : Option V) : wipe ((wipe σ [i]).set i x) [i] = wipe σ [i] := by
  show ((σ.set i none).set i x).set i none = σ.set i none
  rw [List.set_set, List.set_set]
section
variable {K : PySem.W.Frag} {i D a : Addr} {σ : L2.St} {H : Hp} {tt : TT} {te : TE} {Qd : Hp → Prop}
/-- the list made behind the first j items -/
def outOf {α : Type} (L : List α) (f : α → Bool) (hv : α → V) (j : Nat) : List V := ((L.take j).filter f).map hv
theorem outOf_len {α : Type} {L : List α} {f : α → Bool} {hv : α → V} {j : Nat} (h : L.length ≤ 1000) : (outOf L f hv j).length < sizeLine := by
  unfold outOf
  rw [List.length_map]
  exact small1000 (Nat.le_trans (List.length_filter_le _ _) (Nat.le_trans (by rw [List.length_take]; omega) h))
theorem outOf_yes {α : Type} {L : List α} {f : α → Bool} {hv : α → V} {j : Nat} {z : α} (h : L[j]? = some z) (c : f z = true) : outOf L f hv (j + 1) = outOf L f hv j ++ [hv z] := by
  unfold outOf
  rw [List.take_add_one, h, List.filter_append, List.map_append]
  simp [c]
theorem outOf_no {α : Type} {L : List α} {f : α → Bool} {hv : α → V} {j : Nat} {z : α} (h : L[j]? = some z) (c : f z = false) : outOf L f hv (j + 1) = outOf L f hv j := by
  unfold outOf
  rw [List.take_add_one, h, List.filter_append]
  simp [c]
theorem outOf_all {α : Type} (L : List α) (f : α → Bool) (hv : α → V) : outOf L f hv L.length = (L.filter f).map hv := by
  unfold outOf
  rw [List.take_length]
/-- one turn -/
theorem turnF {α : Type} {L : List α} {f : α → Bool} {hv vv : α → V} {j : Nat} {z : α} (hD : H D = none) (hl : L.length ≤ 1000) (hz : L[j]? = some z)
    (ht : ∀ (z : α) (H' : Hp) (R : Bool → Hp → Prop), z ∈ L → Ext H H' → R (f z) H' → tt ((wipe σ [i]).set i (some (vv z))) H' R)
    (he : ∀ (z : α) (H' : Hp) (R : VK), z ∈ L → Ext H H' → R (hv z) H' → te ((wipe σ [i]).set i (some (vv z))) H' R) :
    gName i (vv z) (wipe σ [i]) (upd H D (.lst (outOf L f hv j))) fun σ2 H2 => wipe σ2 [i] = wipe σ [i] ∧ tt σ2 H2 fun b H3 =>
      if b = true then te σ2 H3 fun y H4 => ∃ acc, H4 D = some (.lst acc) ∧ acc.length < sizeLine ∧ upd H4 D (.lst (acc ++ [y])) = upd H D (.lst (outOf L f hv (j + 1))) else H3 = upd H D (.lst (outOf L f hv (j + 1))) := by
  have hm := List.mem_of_getElem? hz
  refine ⟨wipe_back σ i _, ht z _ _ hm (Ext.upd hD) ?_⟩
  cases c : f z with
  | true =>
    refine iteT (he z _ _ hm (Ext.upd hD) ⟨_, upd_same, outOf_len hl, ?_⟩)
    rw [upd_upd, outOf_yes hz c]
  | false =>
    refine iteF ?_
    rw [outOf_no hz c]
theorem mapGet {α : Type} {L : List α} {vv : α → V} {j : Nat} {y : V} (h : (L.map vv)[j]? = some y) : ∃ z, L[j]? = some z ∧ y = vv z := by
  rw [List.getElem?_map] at h
  cases e : L[j]? with
  | none => rw [e] at h; cases h
  | some z => rw [e] at h; exact ⟨z, rfl, (Option.some.inj h).symm⟩
theorem compT {α : Type} (L : List α) (vv : α → V) (f : α → Bool) (hv : α → V) (hs : SqT K H a (L.map vv)) (hD : H D = none) (hl : L.length ≤ 1000)
    (ht : ∀ (z : α) (H' : Hp) (R : Bool → Hp → Prop), z ∈ L → Ext H H' → R (f z) H' → tt ((wipe σ [i]).set i (some (vv z))) H' R)
    (he : ∀ (z : α) (H' : Hp) (R : VK), z ∈ L → Ext H H' → R (hv z) H' → te ((wipe σ [i]).set i (some (vv z))) H' R) (q : Qd (upd H D (.lst ((L.filter f).map hv)))) :
    ∃ W : Nat → Nat → Hp → Prop, (∃ m, W 0 m (upd H D (.lst []))) ∧ ∀ j m H, W j m H →
      ((Itt K a).stop j H ∧ Qd H) ∨ ((Itt K a).go j H ∧ ∃ Nx : Hp → Prop, (∀ H', Nx H' → ∃ m', m' < m ∧ W (j + 1) m' H') ∧ ∀ x H', (Itt K a).yld j H x H' → gName i x (wipe σ [i]) H' fun σ2 H2 => wipe σ2 [i] = wipe σ [i] ∧ tt σ2 H2 fun b H3 =>
        if b = true then te σ2 H3 fun y H4 => ∃ acc, H4 D = some (.lst acc) ∧ acc.length < sizeLine ∧ Nx (upd H4 D (.lst (acc ++ [y]))) else Nx H3) := by
  refine lc_tup (K := K) (a := a) (xs := L.map vv) (fun j H' => H' = upd H D (.lst (outOf L f hv j))) rfl (fun j H' _ e => by rw [e]; exact hs.ext (Ext.upd hD)) ?_ ?_
  · rintro j y H' hj rfl
    obtain ⟨z, hz, rfl⟩ := mapGet hj
    exact turnF hD hl hz ht he
  · rintro H' rfl
    rw [List.length_map, outOf_all]
    exact q
theorem compL {α : Type} (L : List α) (vv : α → V) (f : α → Bool) (hv : α → V) (hs : SqL K H a (L.map vv)) (hD : H D = none) (hl : L.length ≤ 1000)
    (ht : ∀ (z : α) (H' : Hp) (R : Bool → Hp → Prop), z ∈ L → Ext H H' → R (f z) H' → tt ((wipe σ [i]).set i (some (vv z))) H' R)
    (he : ∀ (z : α) (H' : Hp) (R : VK), z ∈ L → Ext H H' → R (hv z) H' → te ((wipe σ [i]).set i (some (vv z))) H' R) (q : Qd (upd H D (.lst ((L.filter f).map hv)))) :
    ∃ W : Nat → Nat → Hp → Prop, (∃ m, W 0 m (upd H D (.lst []))) ∧ ∀ j m H, W j m H →
      ((Itl K a).stop j H ∧ Qd H) ∨ ((Itl K a).go j H ∧ ∃ Nx : Hp → Prop, (∀ H', Nx H' → ∃ m', m' < m ∧ W (j + 1) m' H') ∧ ∀ x H', (Itl K a).yld j H x H' → gName i x (wipe σ [i]) H' fun σ2 H2 => wipe σ2 [i] = wipe σ [i] ∧ tt σ2 H2 fun b H3 =>
        if b = true then te σ2 H3 fun y H4 => ∃ acc, H4 D = some (.lst acc) ∧ acc.length < sizeLine ∧ Nx (upd H4 D (.lst (acc ++ [y]))) else Nx H3) := by
  refine lc_list (K := K) (a := a) (xs := L.map vv) (fun j H' => H' = upd H D (.lst (outOf L f hv j))) rfl (fun j H' _ e => by rw [e]; exact hs.ext (Ext.upd hD)) ?_ ?_
  · rintro j y H' hj rfl
    obtain ⟨z, hz, rfl⟩ := mapGet hj
    exact turnF hD hl hz ht he
  · rintro H' rfl
    rw [List.length_map, outOf_all]
    exact q
/-- lo, lo + 1, .. -/
def upL (lo : Int) (n : Nat) : List Int := (List.range n).map fun j : Nat => lo + (j : Int)
theorem upL_at {lo : Int} {n j : Nat} (h : j < n) : (upL lo n)[j]? = some (lo + (j : Int)) := by
  unfold upL
  rw [List.getElem?_map, List.getElem?_range h]
  rfl
theorem upL_len (lo : Int) (n : Nat) : (upL lo n).length = n := by simp [upL]
theorem compR (lo : Int) (n : Nat) (f : Int → Bool) (hv : Int → V) (hD : H D = none) (hl : n ≤ 1000)
    (ht : ∀ (z : Int) (H' : Hp) (R : Bool → Hp → Prop), z ∈ upL lo n → Ext H H' → R (f z) H' → tt ((wipe σ [i]).set i (some (.int z))) H' R)
    (he : ∀ (z : Int) (H' : Hp) (R : VK), z ∈ upL lo n → Ext H H' → R (hv z) H' → te ((wipe σ [i]).set i (some (.int z))) H' R) (q : Qd (upd H D (.lst (((upL lo n).filter f).map hv)))) :
    ∃ W : Nat → Nat → Hp → Prop, (∃ m, W 0 m (upd H D (.lst []))) ∧ ∀ j m H, W j m H →
      ((Itr lo n).stop j H ∧ Qd H) ∨ ((Itr lo n).go j H ∧ ∃ Nx : Hp → Prop, (∀ H', Nx H' → ∃ m', m' < m ∧ W (j + 1) m' H') ∧ ∀ x H', (Itr lo n).yld j H x H' → gName i x (wipe σ [i]) H' fun σ2 H2 => wipe σ2 [i] = wipe σ [i] ∧ tt σ2 H2 fun b H3 =>
        if b = true then te σ2 H3 fun y H4 => ∃ acc, H4 D = some (.lst acc) ∧ acc.length < sizeLine ∧ Nx (upd H4 D (.lst (acc ++ [y]))) else Nx H3) := by
  refine lc_range (lo := lo) (n := n) (fun j H' => H' = upd H D (.lst (outOf (upL lo n) f hv j))) rfl ?_ ?_
  · rintro j H' hj rfl
    exact turnF (vv := V.int) hD (by rw [upL_len]; exact hl) (upL_at hj) ht he
  · rintro H' rfl
    have e := outOf_all (upL lo n) f hv
    rw [upL_len] at e
    rw [e]
    exact q
theorem noTest {i : Nat} {σ : L2.St} {H : Hp} {α : Type} {vv : α → V} {L : List α} : ∀ (z : α) (H' : Hp) (R : Bool → Hp → Prop), z ∈ L → Ext H H' → R ((fun _ => true) z) H' → tYes ((wipe σ [i]).set i (some (vv z))) H' R := fun _ _ _ _ _ q => q
theorem filterAll {α : Type} (L : List α) : L.filter (fun _ => true) = L := List.filter_eq_self.mpr fun _ _ => rfl
end
theorem pz {j : Int} (h : 0 < j) : 0 < j := h
theorem Paired.at {α β : Type} {F : α → β → Prop} : ∀ {xs : List α} {ys : List β} {i : Nat} {x : α}, Paired F xs ys → xs[i]? = some x → ∃ y, ys[i]? = some y ∧ F x y
  | _, _, _, _, .nil, e => by simp at e
  | _, _, 0, _, .cons r _, e => by simp at e; subst e; exact ⟨_, rfl, r⟩
  | _, _, i + 1, x, .cons _ t, e => by
    obtain ⟨u, h1, h2⟩ := Paired.at (i := i) (x := x) t (by simpa using e)
    exact ⟨u, by simpa using h1, h2⟩
/-- rights stay where a list is written -/
theorem RtAt.put {C p l : Addr} {H : Hp} {S : Int → Bool} {xs ys : List V} (r : RtAt C H p S) (h : H l = some (.lst xs)) : RtAt C (upd H l (.lst ys)) p S := by
  obtain ⟨dx, t, h1, h2⟩ := r
  exact ⟨dx, t, by rw [upd_ne (ne_of h1 h (by intro z; cases z))]; exact h1, by rw [upd_ne (ne_of h2 h (by intro z; cases z))]; exact h2⟩
/-- a list of ints is no list that begins with an object -/
theorem ints_refs {ns : List Int} {a : Addr} {r : List V} (h : HO.lst (ns.map V.int) = HO.lst (.ref a :: r)) : False := by
  injection h with h
  cases ns with
  | nil => cases h
  | cons n ns => injection h with h _; cases h
theorem RtAt.ob {C p : Addr} {H : Hp} {S : Int → Bool} (r : RtAt C H p S) : ∃ dx fs, H p = some (.ins C dx fs) := let ⟨dx, _, h, _⟩ := r; ⟨dx, _, h⟩
/-- a op b of two rights -/
theorem rtBin {C a b : Addr} {H : Hp} {S T : Int → Bool} {g : Bool → Bool → Bool} {Q : VK} {E : XK} (ra : RtAt C H a S) (rb : RtAt C H b T) (k : ∀ x H', Ext H H' → H x = none → RtAt C H' x (fun k => g (S k) (T k)) → Q (.ref x) H') : rOwn C (spBin C g) E (.ref a) (.ref b) H Q := by
  obtain ⟨dx, fs, ha⟩ := ra.ob
  obtain ⟨dy, gs, hb⟩ := rb.ob
  exact ⟨a, b, dx, dy, fs, gs, rfl, rfl, ha, hb, a, b, S, T, rfl, ra, rb, k⟩
theorem rtEq {C a b : Addr} {H : Hp} {S T : Int → Bool} {Q : VK} {E : XK} (ra : RtAt C H a S) (rb : RtAt C H b T) (k : Q (.bl (decide (ks S = ks T))) H) : rOwnEq C (spEqR C) E (.ref a) (.ref b) H Q := by
  obtain ⟨dx, fs, ha⟩ := ra.ob
  obtain ⟨dy, gs, hb⟩ := rb.ob
  exact ⟨a, b, dx, dy, fs, gs, rfl, rfl, ha, hb, a, b, S, T, rfl, ra, rb, k⟩
/-- Rights(xs), the new object at x -/
theorem mkRx {K : PySem.W.Frag} {C a : Addr} {H : Hp} {ns : List Int} {R : VK} {E : XK} (hs : SqL K H a (ns.map V.int) ∨ SqT K H a (ns.map V.int)) (hl : ns.length < 64) (hb : ∀ n ∈ ns, 0 ≤ n ∧ n ≤ 15) {x dx : Addr} (nx : H x = none) (ndx : H dx = none) (ne : dx ≠ x)
    (k : ∀ H2, Ext H H2 → RtAt C H2 x (fun j => decide (j ∈ ns)) → R .non H2) : spInit K C [.ref x, .ref a] (upd (upd H dx (.own x)) x (.ins C dx [])) R E := by
  have e0 : Ext H (upd (upd H dx (.own x)) x (.ins C dx [])) := (Ext.upd ndx).trans (Ext.upd (by rw [upd_ne (Ne.symm ne)]; exact nx))
  exact ⟨x, dx, a, ns, rfl, upd_same, hs.imp (fun h => h.ext e0) (fun h => h.ext e0), hl, hb, fun H' r kp => k H' (fun b o e => kp b o (e0 b o e) (ne_of_none e nx)) r⟩
/-- tuple(sorted(set(xs))) of a list of keys -/
theorem sortedSet {K : PySem.W.Frag} {w : World} {H : Hp} {a : Addr} {ns : List Int} {Q : VK} (hs : SqL K H a (ns.map V.int)) (hl : ns.length < 64) (hb : ∀ n ∈ ns, 0 ≤ n ∧ n ≤ 15)
    (k : ∀ t H', Ext H H' → SqT K H' t ((ks fun j => decide (j ∈ ns)).map V.int) → Q (.ref t) H') : rSetOf K w [.ref a] H fun x H1 => rSortedSet w [x] H1 fun y H2 => rTupleK K [y] H2 Q := by
  refine ⟨a, ns, rfl, .inl hs, by omega, fun q c hq hc => ⟨q, _, _, rfl, upd_same, by omega, fun ms m hso hmem hlen hm => ⟨m, _, rfl, .inl ⟨SqL.of upd_same, fun t ht => ?_⟩⟩⟩⟩
  have em : ms = ks fun j => decide (j ∈ ns) := ks_uniq hso fun j => by
    rw [hmem j]
    constructor
    · intro z
      have := hb j (of_decide_eq_true z)
      exact ⟨⟨this.1, by omega⟩, z⟩
    · exact fun z => z.2
  refine k t _ ((Ext.upd hq).trans ((Ext.upd hm).trans (Ext.upd ht))) ?_
  rw [← em]
  exact SqT.of upd_same
theorem sortedKs {ns ms : List Int} (hso : ms.Pairwise (· < ·)) (hmem : ∀ k : Int, k ∈ ms ↔ decide (k ∈ ns) = true) (hb : ∀ n ∈ ns, 0 ≤ n ∧ n ≤ 15) : ms = ks fun j => decide (j ∈ ns) := ks_uniq hso fun j => by
  rw [hmem j]
  constructor
  · intro z
    have := hb j (of_decide_eq_true z)
    exact ⟨⟨this.1, by omega⟩, z⟩
  · exact fun z => z.2
end Ow

/-! the laws' draws: a state in a list -/
namespace Ow
open PySem PySem.Spec PyProof.Rows L2
/-- the state of the draws at st: the script's copy at c, at most b draws made -/
def StAt (H : Hp) (st c : Addr) (b : Nat) : Prop := ∃ (i cur n : Int) (ns : List Int), H st = some (.lst [.ref c, .int i, .int cur, .int n]) ∧ H c = some (.lst (ns.map V.int)) ∧ 1 ≤ i ∧ 0 ≤ n ∧ n ≤ (b : Int)
/-- all but the state is as it was -/
def Keep (st : Addr) (H H' : Hp) : Prop := ∀ x o, x ≠ st → H x = some o → H' x = some o
theorem Keep.rfl' {st : Addr} {H : Hp} : Keep st H H := fun _ _ _ h => h
theorem Keep.trans {st : Addr} {H H1 H2 : Hp} (a : Keep st H H1) (b : Keep st H1 H2) : Keep st H H2 := fun x o n h => b x o n (a x o n h)
theorem Keep.of {st : Addr} {H H' : Hp} (e : Ext H H') : Keep st H H' := fun x o _ h => e x o h
theorem Keep.upd {st p : Addr} {H : Hp} {o : HO} (h : H p = none) : Keep st H (upd H p o) := Keep.of (Ext.upd h)
theorem StAt.ext {H H' : Hp} {st c : Addr} {b : Nat} (s : StAt H st c b) (e : Ext H H') : StAt H' st c b := let ⟨i, cur, n, ns, h1, h2, r⟩ := s; ⟨i, cur, n, ns, e _ _ h1, e _ _ h2, r⟩
theorem StAt.mono {H : Hp} {st c : Addr} {b b' : Nat} (s : StAt H st c b) (h : b ≤ b') : StAt H st c b' := let ⟨i, cur, n, ns, h1, h2, h3, h4, h5⟩ := s; ⟨i, cur, n, ns, h1, h2, h3, h4, by omega⟩
theorem StAt.here {H : Hp} {st c : Addr} {b : Nat} (s : StAt H st c b) : ∃ o, H st = some o := let ⟨_, _, _, _, h, _⟩ := s; ⟨_, h⟩
theorem Keep.free {st c : Addr} {b : Nat} {H H' : Hp} (k : Keep st H H') (s : StAt H' st c b) {x : Addr} (h : H' x = none) : H x = none := by
  by_cases e : x = st
  · subst e
    obtain ⟨o, ho⟩ := s.here
    rw [ho] at h; cases h
  · cases q : H x with
    | none => rfl
    | some o => rw [k x o e q] at h; cases h
/-- a list of ints is not the state -/
theorem StAt.ints {H : Hp} {st c a : Addr} {b : Nat} {ns : List Int} (s : StAt H st c b) (h : H a = some (.lst (ns.map V.int))) : a ≠ st := by
  obtain ⟨i, cur, n, ms, h1, _⟩ := s
  exact ne_of h h1 fun z => ints_refs z
theorem RtAt.keep {C p st c : Addr} {b : Nat} {H H' : Hp} {S : Int → Bool} (r : RtAt C H p S) (s : StAt H st c b) (k : Keep st H H') : RtAt C H' p S := by
  obtain ⟨dx, t, h1, h2⟩ := r
  obtain ⟨i, cur, n, ms, hs, _⟩ := s
  exact ⟨dx, t, k _ _ (ne_of h1 hs (by intro z; cases z)) h1, k _ _ (ne_of h2 hs (by intro z; cases z)) h2⟩
theorem SqL.keep {K : PySem.W.Frag} {H H' : Hp} {st a : Addr} {xs : List V} (h : SqL K H a xs) (n : a ≠ st) (k : Keep st H H') : SqL K H' a xs := by
  rcases h with (h | ⟨o, h⟩) | h
  · exact .inl (.inl (k _ _ n h))
  · exact .inl (.inr ⟨o, k _ _ n h⟩)
  · exact .inr h
def spStart (K : PySem.W.Frag) : Sp := fun vs H Q _ => ∃ (a : Addr) (ns : List Int), vs = [.ref a] ∧ SqL K H a (ns.map V.int) ∧ ns.length ≤ 63 ∧ ∀ st c H', Ext H H' → H st = none → H c = none → StAt H' st c 0 → Q (.ref st) H'
def spDraw : Sp := fun vs H Q _ => ∃ (st c : Addr) (b : Nat) (m : Int), vs = [.ref st, .int m] ∧ StAt H st c b ∧ b ≤ 1000000 ∧ 0 < m ∧ m < 1073741824 ∧ ∀ (d : Int) (H' : Hp), 0 ≤ d → d < m → StAt H' st c (b + 1) → Keep st H H' → Q (.int d) H'
def spSome : Sp := fun vs H Q _ => ∃ (st c : Addr) (b : Nat) (m : Int), vs = [.ref st, .int m] ∧ StAt H st c b ∧ b ≤ 900000 ∧ 0 ≤ m ∧ m ≤ 40 ∧
  ∀ (p : Addr) (ns : List Int) (H' : Hp), (ns.length : Int) ≤ m → (∀ n ∈ ns, 0 ≤ n ∧ n ≤ 15) → StAt H' st c (b + 41) → Keep st H H' → H p = none → H' p = some (.lst (ns.map V.int)) → Q (.ref p) H'
end Ow

/-! small readings: or, and, != of truth values; key in rights; comprehensions that lay a list a turn -/
namespace Ow
open PySem PySem.Spec PyProof.Rows L2
section
variable {σ : L2.St} {H : Hp} {Q : VK} {i j : Nat} {a b : Bool}
theorem orV (hi : σ[i]? = some (some (.bl a))) (hj : σ[j]? = some (some (.bl b))) (q : Q (.bl (a || b)) H) : tOrV (tVar i) (tVar j) σ H Q := by
  refine ⟨_, hi, a, rfl, ?_⟩
  cases a with
  | true => exact iteT q
  | false => exact iteF ⟨_, hj, q⟩
theorem andV (hi : σ[i]? = some (some (.bl a))) (hj : σ[j]? = some (some (.bl b))) (q : Q (.bl (a && b)) H) : tAndV (tVar i) (tVar j) σ H Q := by
  refine ⟨_, hi, a, rfl, ?_⟩
  cases a with
  | false => exact iteF q
  | true => exact iteT ⟨_, hj, q⟩
theorem andNotV (hi : σ[i]? = some (some (.bl a))) (hj : σ[j]? = some (some (.bl b))) (q : Q (.bl (a && !b)) H) : tAndV (tVar i) (tNotV (tVar j)) σ H Q := by
  refine ⟨_, hi, a, rfl, ?_⟩
  cases a with
  | false => exact iteF q
  | true => exact iteT ⟨_, hj, b, rfl, q⟩
theorem neB (q : Q (.bl (a != b)) H) : rNe (.bl a) (.bl b) H Q := by
  refine ⟨rfl, ?_⟩
  have e : (!decide (V.bl a = V.bl b)) = (a != b) := by cases a <;> cases b <;> simp
  rw [e]
  exact q
end
theorem neSame {a b : Bool} (h : a = b) : (a != b) = false := by subst h; cases a <;> rfl
theorem has_ks {S : Int → Bool} {k : Int} (h0 : 0 ≤ k) (h1 : k < 16) : decide (k ∈ ks S) = S k := by rw [Bool.eq_iff_iff, decide_eq_true_iff, mem_ks]; simp [h0, h1]
theorem rtIn {C b : Addr} {H : Hp} {S : Int → Bool} {k : Int} {neg : Bool} {Q : VK} {E : XK} (r : RtAt C H b S) (q : Q (.bl (if neg then !decide (k ∈ ks S) else decide (k ∈ ks S))) H) : rOwnIn C neg (spHas C) E (.int k) (.ref b) H Q := by
  obtain ⟨dx, fs, hb⟩ := r.ob
  exact ⟨b, dx, fs, rfl, hb, b, S, k, rfl, r, _, rfl, q⟩
/-- the rights' within -/
def wi (S T : Int → Bool) : Bool := (ks S).all fun k => decide (k ∈ ks T)
def spWithin (C : Addr) : Sp := fun vs H Q _ => ∃ (a b : Addr) (S T : Int → Bool), vs = [.ref a, .ref b] ∧ RtAt C H a S ∧ RtAt C H b T ∧ ∀ H', Ext H H' → Q (.bl (wi S T)) H'
theorem wi_iff {S T : Int → Bool} : wi S T = true ↔ ∀ k, 0 ≤ k → k < 16 → S k = true → T k = true := by
  unfold wi
  rw [List.all_eq_true]
  constructor
  · intro h k h0 h1 hk
    have := h k (mem_ks.mpr ⟨⟨h0, h1⟩, hk⟩)
    exact (mem_ks.mp (of_decide_eq_true this)).2
  · intro h k hk
    obtain ⟨⟨h0, h1⟩, z⟩ := mem_ks.mp hk
    exact decide_eq_true (mem_ks.mpr ⟨⟨h0, h1⟩, h k h0 h1 z⟩)
/-- an empty tuple of the written part -/
def emptyT (K : PySem.W.Frag) (a : Addr) : Bool := match K.lookup a with
  | some ⟨.type c, _, .seq its _, _⟩ => decide (c = "tuple") && its.isEmpty
  | _ => false
theorem emptyT_ok {K : PySem.W.Frag} {a : Addr} (h : emptyT K a = true) (H : Hp) : SqT K H a [] := by
  unfold emptyT at h
  cases q : K.lookup a with
  | none => rw [q] at h; cases h
  | some o =>
    obtain ⟨oc, od, dt, sl⟩ := o
    rw [q] at h
    cases oc with
    | type c =>
      cases dt with
      | seq its n =>
        obtain ⟨h1, h2⟩ := He.ba h
        have e : its = #[] := Array.isEmpty_iff.mp h2
        subst e
        exact .inr ⟨_, #[], n, q, congrArg Value.type (of_decide_eq_true h1), rfl, by simp, .nil⟩
      | _ => cases h
    | _ => cases dt <;> cases h
section
variable {K : PySem.W.Frag} {i D a : Addr} {σ : L2.St} {H : Hp} {te : TE} {Qd : Hp → Prop}
/-- lists of ints at the addresses, none of them D -/
def RowsD (G : Hp) (D : Addr) : List V → List (List Int) → Prop := Paired fun v ns => ∃ b, v = V.ref b ∧ b ≠ D ∧ G b = some (.lst (ns.map V.int))
theorem RowsD.rows {G : Hp} {ls : List V} {nss : List (List Int)} (r : RowsD G D ls nss) : Rows K G ls nss := by
  induction r with
  | nil => exact .nil
  | cons h _ ih => obtain ⟨b, rfl, _, hb⟩ := h; exact .cons (.lst (SqL.of hb) (dp_ints _)) ih
theorem compRows {xs : List V} {nss : List (List Int)} (hlen : xs.length = nss.length) (hs : SqL K H a xs) (hD : H D = none) (few : xs.length ≤ 1000)
    (he : ∀ (j : Nat) (x : V) (ns : List Int) (H' : Hp) (R : VK), xs[j]? = some x → nss[j]? = some ns → Ext H H' → (∀ l H4, Ext H' H4 → H' l = none → H4 l = some (.lst (ns.map V.int)) → R (.ref l) H4) → te ((wipe σ [i]).set i (some x)) H' R)
    (q : ∀ G ls, Ext H G → G D = some (.lst ls) → Rows K G ls nss → Qd G) :
    ∃ W : Nat → Nat → Hp → Prop, (∃ m, W 0 m (upd H D (.lst []))) ∧ ∀ j m H, W j m H →
      ((Itl K a).stop j H ∧ Qd H) ∨ ((Itl K a).go j H ∧ ∃ Nx : Hp → Prop, (∀ H', Nx H' → ∃ m', m' < m ∧ W (j + 1) m' H') ∧ ∀ x H', (Itl K a).yld j H x H' → gName i x (wipe σ [i]) H' fun σ2 H2 => wipe σ2 [i] = wipe σ [i] ∧ tYes σ2 H2 fun b H3 =>
        if b = true then te σ2 H3 fun y H4 => ∃ acc, H4 D = some (.lst acc) ∧ acc.length < sizeLine ∧ Nx (upd H4 D (.lst (acc ++ [y]))) else Nx H3) := by
  refine lc_list (K := K) (a := a) (xs := xs) (fun j G => ∃ ls : List V, G D = some (.lst ls) ∧ ls.length = j ∧ Ext H G ∧ RowsD G D ls (nss.take j)) ⟨[], upd_same, rfl, Ext.upd hD, by rw [List.take_zero]; exact .nil⟩ (fun j G _ ⟨_, _, _, e, _⟩ => hs.ext e) ?_ ?_
  · rintro j x G hj ⟨ls, g1, g2, e, pr⟩
    have jl := (List.getElem?_eq_some_iff.mp hj).1
    have hn : nss[j]? = some nss[j] := List.getElem?_eq_getElem (by omega)
    refine ⟨wipe_back σ i _, he j x _ G _ hj hn e fun l H4 e4 nl hl => ?_⟩
    have nDl : D ≠ l := ne_of_none g1 nl
    refine ⟨ls, e4 _ _ g1, small1000 (by omega), ls ++ [.ref l], upd_same, by rw [List.length_append, g2]; rfl, fun b o hb => ?_, ?_⟩
    · rw [upd_ne (ne_of_none hb hD)]
      exact e4 _ _ (e b o hb)
    · have tk : nss.take (j + 1) = nss.take j ++ [nss[j]] := by rw [List.take_add_one, hn]; rfl
      rw [tk]
      exact Paired.snoc (Paired.mapP pr fun v T ⟨b, h1, h2, h3⟩ => ⟨b, h1, h2, by rw [upd_ne h2]; exact e4 _ _ h3⟩) ⟨l, rfl, nDl.symm, by rw [upd_ne nDl.symm]; exact hl⟩
  · rintro G ⟨ls, g1, g2, e, pr⟩
    rw [hlen, List.take_length] at pr
    exact q G ls e g1 pr.rows
end
theorem dp_bools {K : PySem.W.Frag} {H : Hp} : ∀ bs : List Bool, DpAll K H (bs.map V.bl) (bs.map PyData.bool)
  | [] => .nil
  | b :: bs => .cons (.bl b) (dp_bools bs)
theorem eqv_bools : ∀ ns ms : List Bool, PyData.eqvAll (ns.map PyData.bool) (ms.map PyData.bool) = decide (ns = ms)
  | [], [] => by simp [PyData.eqvAll]
  | [], _ :: _ => by simp [PyData.eqvAll]
  | _ :: _, [] => by simp [PyData.eqvAll]
  | n :: ns, m :: ms => by
    simp only [List.map_cons, PyData.eqvAll, eqv_bools ns ms, PyData.eqv]
    by_cases h1 : n = m <;> by_cases h2 : ns = ms <;> simp [h1, h2]
theorem lay_bools : ∀ ns : List Bool, PyData.canLayAll0 (ns.map PyData.bool) = true
  | [] => by simp [PyData.canLayAll0]
  | n :: ns => by simp [PyData.canLayAll0, PyData.canLay0, lay_bools ns]
theorem depth_bools : ∀ ns : List Bool, PyData.depthAll (ns.map PyData.bool) ≤ 1
  | [] => by simp [PyData.depthAll]
  | n :: ns => by
    have := depth_bools ns
    simp [PyData.depthAll, PyData.depth]
    omega
theorem sh_bools (ns : List Bool) : SeqAt.shaped (.list (ns.map PyData.bool)) = true := by
  have := depth_bools ns
  simp [SeqAt.shaped, PyData.canLay0, lay_bools, PyData.depth]
  omega
theorem ned_bools {K : PySem.W.Frag} {H : Hp} {a b : Addr} {ns ms : List Bool} {Q : VK} (ha : SqL K H a (ns.map V.bl)) (hb : SqL K H b (ms.map V.bl)) (q : Q (.bl (!decide (ns = ms))) H) : rNeD K (.ref a) (.ref b) H Q :=
  ⟨_, _, .lst ha (dp_bools ns), .lst hb (dp_bools ms), sh_bools ns, sh_bools ms, by rw [PyData.eqv, eqv_bools]; exact q⟩
end Ow
namespace Ow
open PySem PySem.Spec PyProof.Rows L2
theorem iteFf {c : Bool} {A B : Prop} (hc : c = false) (h : B) : if c = true then A else B := by rw [hc]; exact iteF h
theorem iteTt {c : Bool} {A B : Prop} (hc : c = true) (h : A) : if c = true then A else B := by rw [hc]; exact iteT h
theorem lkW {v : V} : List.lookup ("within" : Str) [(("numbers" : Str), v)] = none := by
  have h : (("within" : Str) == ("numbers" : Str)) = false := by decide +kernel
  simp [List.lookup, h]
theorem notSame {α : Type} [DecidableEq α] {a b : α} (h : a = b) : (!decide (a = b)) = false := by rw [decide_eq_true h]; rfl
theorem up16 (f : Int → Bool) : (upL 0 16).filter f = ks f := by
  have e : upL 0 16 = (List.range 16).map fun n : Nat => (n : Int) := List.map_congr_left fun n _ => by omega
  rw [e]
  rfl
def spTold (C : Addr) : Sp := fun vs H Q _ => ∃ (a : Addr) (S : Int → Bool), vs = [.ref a] ∧ RtAt C H a S ∧ ∀ p, H p = none → Q (.ref p) (upd H p (.lst ((ks S).map V.int)))
/-- all of ns is in ms -/
theorem wi_lists {ns ms : List Int} (hn : ∀ n ∈ ns, 0 ≤ n ∧ n ≤ 15) : wi (fun j => decide (j ∈ ns)) (fun j => decide (j ∈ ms)) = decide (ns.filter (fun z => !decide (z ∈ ms)) = []) := by
  rw [Bool.eq_iff_iff, wi_iff, decide_eq_true_iff, List.filter_eq_nil_iff]
  constructor
  · intro h k hk
    have b := hn k hk
    have := h k b.1 (by omega) (decide_eq_true hk)
    simpa using this
  · intro h k h0 h1 hk
    have := h k (of_decide_eq_true hk)
    simpa using this
theorem wi_refl (S : Int → Bool) : wi S S = true := wi_iff.mpr fun _ _ _ h => h
theorem wi_none (S : Int → Bool) : wi (fun j => decide (j ∈ ([] : List Int))) S = true := wi_iff.mpr fun k _ _ h => by simp at h
theorem wi_eq {S T : Int → Bool} : decide (ks S = ks T) = (wi S T && wi T S) := by
  rw [Bool.eq_iff_iff, decide_eq_true_iff, Bool.and_eq_true, wi_iff, wi_iff]
  constructor
  · intro h
    exact ⟨fun k h0 h1 z => by rw [← ks_inj h k h0 h1]; exact z, fun k h0 h1 z => by rw [ks_inj h k h0 h1]; exact z⟩
  · rintro ⟨h, g⟩
    refine ks_congr fun k h0 h1 => ?_
    have a := h k h0 h1
    have b := g k h0 h1
    cases hS : S k <;> cases hT : T k <;> simp_all
mutual
theorem Dp.ext {K : PySem.W.Frag} {H H' : Hp} (e : Ext H H') : ∀ {d : PyData} {v : V}, Dp K H v d → Dp K H' v d
  | .none, _, .non => .non
  | .bool _, _, .bl b => .bl b
  | .int _, _, .int i => .int i
  | .str _, _, .str x => .str x
  | .list _, _, .lst h a => .lst (h.ext e) (DpAll.ext e a)
  | .tuple _, _, .tup h a => .tup (h.ext e) (DpAll.ext e a)
theorem DpAll.ext {K : PySem.W.Frag} {H H' : Hp} (e : Ext H H') : ∀ {ds : List PyData} {vs : List V}, DpAll K H vs ds → DpAll K H' vs ds
  | [], _, .nil => .nil
  | _ :: _, _, .cons h t => .cons (Dp.ext e h) (DpAll.ext e t)
end
theorem Rows.ext {K : PySem.W.Frag} {H H' : Hp} {ls : List V} {nss : List (List Int)} (r : Rows K H ls nss) (e : Ext H H') : Rows K H' ls nss := DpAll.ext e r
end Ow

/-! static methods, instances called, == of own instances and None -/
namespace Ow
open PySem PySem.Spec PyProof.Rows L2
/-- C.m is a staticmethod of the def at g -/
structure StatM (K : PySem.W.Frag) (C : Addr) (m : Str) (g : Addr) : Prop where
  rd : PySem.W.readsIn K C (.type "type") = true
  ga : PySem.W.specialIn K (.ref C) "__getattribute__" = some (some (.builtin "type.__getattribute__"))
  at_ : PySem.W.findCls K (.ref C) (.type "type") m = some (.get (.builtin "staticmethod.__get__") (.ref (He.ma K C m)) .none (.ref C))
  sm : ∃ rest, PySem.W.recIn K (He.ma K C m) "staticmethod" = some (.ref g :: rest)
/-- the def inside the static method's record -/
def smF (K : PySem.W.Frag) (C : Addr) (m : Str) : Addr := match PySem.W.recIn K (He.ma K C m) "staticmethod" with
  | some (.ref f :: _) => f
  | _ => 0
def statB (K : PySem.W.Frag) (C : Addr) (m : Str) : Bool := PySem.W.readsIn K C (.type "type") && (He.eqO (PySem.W.specialIn K (.ref C) "__getattribute__") (some (some (.builtin "type.__getattribute__"))) &&
  ((match PySem.W.findCls K (.ref C) (.type "type") m with
    | some (.get (.builtin g) (.ref p) .none (.ref D)) => decide (g = "staticmethod.__get__") && (decide (p = He.ma K C m) && decide (D = C))
    | _ => false) && (match PySem.W.recIn K (He.ma K C m) "staticmethod" with
    | some (.ref _ :: _) => true
    | _ => false)))
theorem statB_ok {K : PySem.W.Frag} {C : Addr} {m : Str} (h : statB K C m = true) : StatM K C m (smF K C m) := by
  obtain ⟨h1, h⟩ := He.ba h
  obtain ⟨h2, h⟩ := He.ba h
  obtain ⟨h3, h4⟩ := He.ba h
  refine ⟨h1, He.eqO_ok h2, ?_, ?_⟩
  · clear h4
    split at h3
    · rename_i g p D e
      obtain ⟨k1, k⟩ := He.ba h3
      obtain ⟨k2, k3⟩ := He.ba k
      rw [e, of_decide_eq_true k1, of_decide_eq_true k2, of_decide_eq_true k3]
    · cases h3
  · unfold smF
    split at h4
    · rename_i f r e
      exact ⟨r, by rw [e]⟩
    · cases h4
/-- what the static method promises -/
def Stat (P : Program) (w : World) (K : PySem.W.Frag) (mg : Str → Option Value) (base : Heap) (CX : CXT) (k : Nat) (C : Addr) (m : Str) (ps : List Str) (sp : Sp) : Prop :=
  ∃ g fd, StatM K C m g ∧ PySem.W.keepIn K (.ref g) = true ∧ Binds K fd ps [] ∧ FnOk P w K mg base CX k g fd ps sp
def tStat (C : Addr) (sp : Sp) (E : XK) (ta : TE) (t : TA) : TE := fun σ H Q => ta σ H fun x H1 => x = .ref C ∧ t σ H1 fun vs H2 => sp vs H2 Q E
section
variable {X : Cx} {CX : CXT} {k : Nat} {C : Addr} {ps : List Str} {sp : Sp} {E : XK} {m : Str} {p pos apos : Pos} {e o fe : Expr} {es : List Expr} {ta tf : TE} {t : TA} {pl : Sem Bool}
theorem pe_stat (he : PE X o ta) (G : Stat X.prog X.w X.K X.mg X.base CX k C m ps sp) (hr : Room k X.A) (hx : Passes CX X E) (ha : PA X (e :: es) t)
    (hst : starEach (e :: es) X.env = (false, eval e X.env) :: starEach es X.env := by rfl) (hpl : (backTo pos (starEach es X.env)).any (·.1) = false := by rfl)
    (ht : eval (.Call (.Attribute o m apos) (e :: es) [] pos) X.env = (do
      let ov ← eval o X.env
      standAt apos.atName
      let (f, first) ← holding [ov] (getMethod ov m pl)
      callWith pos f first (backTo pos (starEach (e :: es) X.env)) (backToKw pos (keywordEach [] X.env))) := by rfl) : PE X (.Call (.Attribute o m apos) (e :: es) [] pos) (tStat C sp E ta t) := by
  obtain ⟨g, fd, S, hk, hb, F⟩ := G
  obtain ⟨rest, hrec⟩ := S.sm
  refine ⟨fun pins s σ H Q I h => PySem.W.methodCall_KW (pl := pl) (thn (he.run pins s σ H _ I h) fun u s1 ⟨x, H1, I1, rx, ex, q⟩ => ?_) ht⟩
  subst ex
  obtain rfl : u = Value.ref C := rx
  have I2 := I1.tok (s1.toks + 1)
  refine PySem.W.method_cls I1.kIn S.ga (PySem.W.cls_bind I1.kIn S.rd S.at_ (wpAny_call (PySem.W.sm_get (s := { s1 with toks := s1.toks + 1 }) I1.kIn hrec (PySem.W.handed_on rfl ?_))))
  refine PySem.W.callWith_K (first := []) (h₀ := X.base) I.ok.mod.kin hk (thn (ha.run pos pins _ σ H1 _ I2 q) fun us s2 ⟨vs, H2, I3, r, q2⟩ => ⟨I3.kIn, ?_⟩) hst hpl
  exact run_fn (us := us) (vs := vs) F hr hb .nil hx I3 r (by rw [List.append_nil]; exact q2)
theorem pe_stat0 (he : PE X o ta) (G : Stat X.prog X.w X.K X.mg X.base CX k C m ps sp) (hr : Room k X.A) (hx : Passes CX X E)
    (ht : eval (.Call (.Attribute o m apos) [] [] pos) X.env = (do
      let ov ← eval o X.env
      standAt apos.atName
      let (f, first) ← holding [ov] (getMethod ov m pl)
      callWith pos f first (backTo pos (starEach [] X.env)) (backToKw pos (keywordEach [] X.env))) := by rfl) : PE X (.Call (.Attribute o m apos) [] [] pos) (tStat C sp E ta tNil) := by
  obtain ⟨g, fd, S, hk, hb, F⟩ := G
  obtain ⟨rest, hrec⟩ := S.sm
  refine ⟨fun pins s σ H Q I h => PySem.W.methodCall_KW (pl := pl) (thn (he.run pins s σ H _ I h) fun u s1 ⟨x, H1, I1, rx, ex, q⟩ => ?_) ht⟩
  subst ex
  obtain rfl : u = Value.ref C := rx
  have I2 := I1.tok (s1.toks + 1)
  refine PySem.W.method_cls I1.kIn S.ga (PySem.W.cls_bind I1.kIn S.rd S.at_ (wpAny_call (PySem.W.sm_get (s := { s1 with toks := s1.toks + 1 }) I1.kIn hrec (PySem.W.handed_on rfl ?_))))
  exact PySem.W.callWith_K0 (first := []) I2.kIn hk (run_fn (us := []) (vs := []) F hr hb .nil hx I2 .nil q)
/-- f(e, ..), f an instance of the class at C with its own __call__ -/
def tInst (C : Addr) (sp : Sp) (E : XK) (tf : TE) (t : TA) : TE := fun σ H Q => tf σ H fun y H1 => ∃ a, y = V.ref a ∧ t σ H1 fun vs H2 => ((∃ dx vs, SlX.Slt H2 a C dx vs) ∨ ∃ dx fs, H2 a = some (.ins C dx fs)) ∧ sp (V.ref a :: vs) H2 Q E
theorem pe_inst (hf : PE X fe tf) (G : Dun X.prog X.w X.K X.mg X.base CX k C "__call__" ps sp) (hfi : ∀ g, PySem.W.findIn X.K (.ref C) "__call__" = some (some (.ref g)) → PySem.W.fnIn X.K g = true) (hr : Room k X.A) (hx : Passes CX X E) (ha : PA X (e :: es) t)
    (ht : eval (.Call fe (e :: es) [] pos) X.env = (do callWith pos (← eval fe X.env) [] (backTo pos (starEach (e :: es) X.env)) (backToKw pos (keywordEach [] X.env))) := by rfl)
    (he : starEach (e :: es) X.env = (false, eval e X.env) :: starEach es X.env := by rfl) (hpl : (backTo pos (starEach es X.env)).any (·.1) = false := by rfl) : PE X (.Call fe (e :: es) [] pos) (tInst C sp E tf t) := by
  obtain ⟨g, fd, hs, hfn, hk, hb, F⟩ := G
  have R : FnR X.prog X.w X.K X.mg X.base CX k g sp := (F.raw hb .nil).imp fun vs H Q E z => by rw [List.append_nil]; exact z
  exact StX.pe_callO (g := g) (C := C) hf ⟨hs, hfn, hfi g hs⟩ R hr hx ha ht he hpl
/-- x == y, each None or an instance of the class at C -/
def rOptEq (C : Addr) (sp : Sp) (E : XK) : R2 := fun x y H Q => (x = .non ∧ y = .non ∧ Q (.bl true) H) ∨ (∃ a dx fs, x = .ref a ∧ H a = some (.ins C dx fs) ∧ (y = .non ∨ ∃ b dy gs, y = .ref b ∧ H b = some (.ins C dy gs)) ∧ sp [x, y] H Q E) ∨
  ∃ b dy gs, x = .non ∧ y = .ref b ∧ H b = some (.ins C dy gs) ∧ sp [y, x] H Q E
theorem od_optEq (G : Dun X.prog X.w X.K X.mg X.base CX k C "__eq__" ps sp) (hr : Room k X.A) (hx : Passes CX X E) (hn : PySem.W.notFirst X.K C (.type "NoneType") = true) (hn2 : PySem.W.subIn X.K (.ref C) (.type "NoneType") = some false) : OpR X (compareOp .Eq) (rOptEq C sp E) := by
  obtain ⟨f, fd, hs, hf, hk, hb, F⟩ := G
  intro pins s σ H x y v u Q I rx ry h
  obtain ⟨m, hF⟩ := I.fr
  show wpAny (model X.prog X.w) X.A (richCompare .Eq v u) (EP X pins σ Q) X.xe s
  rcases h with ⟨rfl, rfl, q⟩ | ⟨a, dx, fs, rfl, ha, hy, q⟩ | ⟨b, dy, gs, rfl, rfl, hb', q⟩
  · exact op_eqD hr.units pins s σ H .non .non v u Q I rx ry ⟨.none, .none, .non, .non, by decide, by decide, q⟩
  · obtain ⟨mA, J, _⟩ := ins_get I.hok ha
    obtain ⟨oa, J, _⟩ := J.look
    cases rx
    rcases hy with rfl | ⟨b, dy, gs, rfl, hb'⟩
    · cases ry
      refine PySem.W.cmp_K (op := .Eq) (tb := .type "NoneType") hr.units0 hF I.ok.mod.kin J (PySem.W.Looks.of_pure rfl) hn hs hf ?_
      exact wpAny_mono (run_fn (us := [.ref a, .none]) (vs := [.ref a, .non]) F hr hb .nil hx I (.cons rfl (.cons rfl .nil)) q) (fun _ _ z => epBack z) fun _ _ z => z
    · cases ry
      obtain ⟨mB, J', _⟩ := ins_get I.hok hb'
      obtain ⟨ob, J', _⟩ := J'.look
      refine PySem.W.cmp_K (op := .Eq) (tb := .ref C) hr.units0 hF I.ok.mod.kin J J'.type (by simp [PySem.W.notFirst]) hs hf ?_
      exact wpAny_mono (run_fn (us := [.ref a, .ref b]) (vs := [.ref a, .ref b]) F hr hb .nil hx I (.cons rfl (.cons rfl .nil)) q) (fun _ _ z => epBack z) fun _ _ z => z
  · obtain ⟨mB, J', _⟩ := ins_get I.hok hb'
    obtain ⟨ob, J', _⟩ := J'.look
    cases rx
    cases ry
    have K1 := I.kIn
    have one : wpAny (model X.prog X.w) X.A (tryCompare (.ref b) (cmpInfo .Eq).2.2 .none) (fun r s' => ∃ z, r = some z ∧ EP X pins σ Q z s') X.xe s := by
      unfold tryCompare
      refine wpAny_bind (PySem.W.ifBound_K K1 J' hs hf (wpAny_mono (run_fn (us := [.ref b, .none]) (vs := [.ref b, .non]) F hr hb .nil hx I (.cons rfl (.cons rfl .nil)) q) (fun z s' hz => ?_) fun _ _ e => e))
      have hz' := epBack hz
      cases z <;> first | exact hz'.elim | exact wpAny_pure ⟨_, rfl, hz'⟩
    have tn : s.TypeIs Value.none "NoneType" := rfl
    rcases hi : cmpInfo CmpOp.Eq with ⟨sym, f1, r1⟩
    have h1 := PySem.F.slot_NoneType_eq
    rw [hi] at h1 one
    simp only [richCompare, hi, tn.oneThing_none]
    refine wpAny_holding (wpAny_bind (wpAny_cRoomFor_or (.inr hr.units0) ?_))
    refine wpAny_bind (wpAny_typeOf tn (wpAny_bind (J'.type.here ?_)))
    have ne : (Value.type "NoneType" != Value.ref C) = true := rfl
    simp only [ne, if_true]
    refine wpAny_bind ((PySem.W.looks_subIn K1 hn2).here ?_)
    simp only [Bool.false_eq_true, if_false, Bool.not_false, if_true]
    refine wpAny_bind (m := tryCompare Value.none _ (.ref b)) (wpAny_tryCompare_declines tn h1 (call_gives PySem.F.slot_NoneType_eq rfl PySem.F.entry_NoneType_eq (PySem.F.args_NoneType_eq_2 _ _) (PySem.SeqAt.NoneType___eq___none_ref_0 b) ⟨rfl, ?_⟩))
    refine wpAny_bind (wpAny_mono one (fun r s' z => ?_) fun _ _ z => z)
    obtain ⟨z, rfl, hq⟩ := z
    exact wpAny_pure hq
end
end Ow

/-! masks: a floor and a roof, both sets of keys; the whole roof is None -/
namespace Ow
open PySem PySem.Spec PyProof.Rows L2
abbrev KS := Int → Bool
/-- alike on the keys -/
def Al (S T : KS) : Prop := ∀ k, 0 ≤ k → k < 16 → S k = T k
theorem Al.refl (S : KS) : Al S S := fun _ _ _ => rfl
theorem Al.ks {S T : KS} (h : Al S T) : Ow.ks S = Ow.ks T := ks_congr h
theorem Al.symm {S T : KS} (h : Al S T) : Al T S := fun k a b => (h k a b).symm
theorem Al.trans {S T U : KS} (h : Al S T) (g : Al T U) : Al S U := fun k a b => (h k a b).trans (g k a b)
theorem al_iff {S T : KS} : Ow.ks S = Ow.ks T ↔ Al S T := ⟨fun h k a b => ks_inj h k a b, fun h => h.ks⟩
def full (R : KS) : Prop := (ks R).length = 16
theorem full_iff {R : KS} : full R ↔ ∀ k, 0 ≤ k → k < 16 → R k = true := by
  have l : ((List.range 16).map fun n : Nat => (n : Int)).length = 16 := by simp
  have z := List.length_filter_eq_length_iff (p := R) (l := (List.range 16).map fun n : Nat => (n : Int))
  rw [l] at z
  refine z.trans ?_
  constructor
  · intro h k h0 h1
    exact h k (List.mem_map.mpr ⟨k.toNat, List.mem_range.mpr (by omega), by omega⟩)
  · intro h k hk
    obtain ⟨n, hn, rfl⟩ := List.mem_map.mp hk
    have := List.mem_range.mp hn
    exact h _ (by omega) (by omega)
theorem full.al {R T : KS} (h : full R) (a : Al R T) : full T := full_iff.mpr fun k h0 h1 => (a k h0 h1) ▸ full_iff.mp h k h0 h1
/-- a roof as it is given: None or rights -/
def OptAt (C : Addr) (H : Hp) (v : V) : Option KS → Prop
  | none => v = .non
  | some R => ∃ r, v = .ref r ∧ RtAt C H r R
def roofF : Option KS → KS
  | none => fun _ => true
  | some R => R
theorem OptAt.ext {C : Addr} {H H' : Hp} {v : V} {o : Option KS} (h : OptAt C H v o) (e : Ext H H') : OptAt C H' v o := by
  cases o with
  | none => exact h
  | some R => obtain ⟨r, h1, h2⟩ := h; exact ⟨r, h1, h2.ext e⟩
/-- a roof as a mask keeps it -/
def RoofAt (C : Addr) (H : Hp) (v : V) (R : KS) : Prop := (full R ∧ v = .non) ∨ (¬ full R ∧ ∃ r, v = .ref r ∧ RtAt C H r R)
theorem RoofAt.ext {C : Addr} {H H' : Hp} {v : V} {R : KS} (h : RoofAt C H v R) (e : Ext H H') : RoofAt C H' v R := h.imp (fun z => z) fun ⟨n, r, h1, h2⟩ => ⟨n, r, h1, h2.ext e⟩
theorem RoofAt.congr {C : Addr} {H : Hp} {v : V} {R T : KS} (h : RoofAt C H v R) (a : Al R T) : RoofAt C H v T := h.imp (fun z => ⟨z.1.al a, z.2⟩) fun ⟨n, r, h1, h2⟩ => ⟨fun f => n (f.al a.symm), r, h1, h2.congr a⟩
theorem RoofAt.opt {C : Addr} {H : Hp} {v : V} {R : KS} (h : RoofAt C H v R) : ∃ o, OptAt C H v o ∧ Al (roofF o) R := by
  rcases h with ⟨f, rfl⟩ | ⟨_, h⟩
  · exact ⟨none, rfl, fun k h0 h1 => (full_iff.mp f k h0 h1).symm⟩
  · exact ⟨some R, h, Al.refl R⟩
/-- a mask stands at p -/
def MkAt (CM C : Addr) (H : Hp) (p : Addr) (F R : KS) : Prop := ∃ dx fl rv, H p = some (.ins CM dx [("floor", .ref fl), ("roof", rv)]) ∧ RtAt C H fl F ∧ RoofAt C H rv R
theorem MkAt.ext {CM C p : Addr} {H H' : Hp} {F R : KS} (h : MkAt CM C H p F R) (e : Ext H H') : MkAt CM C H' p F R := let ⟨dx, fl, rv, h1, h2, h3⟩ := h; ⟨dx, fl, rv, e _ _ h1, h2.ext e, h3.ext e⟩
theorem MkAt.congr {CM C p : Addr} {H : Hp} {F R F' R' : KS} (h : MkAt CM C H p F R) (a : Al F F') (b : Al R R') : MkAt CM C H p F' R' := let ⟨dx, fl, rv, h1, h2, h3⟩ := h; ⟨dx, fl, rv, h1, h2.congr a, h3.congr b⟩
theorem MkAt.ob {CM C p : Addr} {H : Hp} {F R : KS} (h : MkAt CM C H p F R) : ∃ dx fs, H p = some (.ins CM dx fs) := let ⟨dx, _, _, h, _⟩ := h; ⟨dx, _, h⟩
/-- what a mask with floor F and roof R makes of S -/
def maskT (F R S : KS) : KS := fun k => (S k && R k) || F k
def spJoined (C : Addr) : Sp := fun vs H Q _ => ∃ (a : Addr) (v : V) (S : KS) (o : Option KS), vs = [.ref a, v] ∧ RtAt C H a S ∧ OptAt C H v o ∧ ∀ rv H', Ext H H' → RoofAt C H' rv (fun k => S k || roofF o k) → Q rv H'
def spCommon (C : Addr) : Sp := fun vs H Q _ => ∃ (u v : V) (o1 o2 : Option KS), vs = [u, v] ∧ OptAt C H u o1 ∧ OptAt C H v o2 ∧ ∀ rv o H', Ext H H' → OptAt C H' rv o → (∀ k, roofF o k = (roofF o1 k && roofF o2 k)) → Q rv H'
def spMasked (C : Addr) : Sp := fun vs H Q _ => ∃ (f r : Addr) (v : V) (F S : KS) (o : Option KS), vs = [.ref f, v, .ref r] ∧ RtAt C H f F ∧ OptAt C H v o ∧ RtAt C H r S ∧ ∀ x H', Ext H H' → H x = none → RtAt C H' x (maskT F (roofF o) S) → Q (.ref x) H'
def spMInit (CM C : Addr) : Sp := fun vs H Q _ => ∃ (p dx f : Addr) (v : V) (F : KS) (o : Option KS), vs = [.ref p, .ref f, v] ∧ H p = some (.ins CM dx []) ∧ RtAt C H f F ∧ OptAt C H v o ∧
  ∀ H', MkAt CM C H' p F (fun k => F k || roofF o k) → (∀ b o, H b = some o → b ≠ p → H' b = some o) → Q .non H'
/-- rights stay where a new instance is told -/
theorem RtAt.ne {C p a : Addr} {H : Hp} {S : KS} {o : HO} (h : RtAt C H a S) (hp : H p = none) : RtAt C (upd H p o) a S := h.ext (Ext.upd hp)
theorem OptAt.mk {C : Addr} {H H' : Hp} {v : V} {o : Option KS} (h : OptAt C H v o) (k : ∀ a S, RtAt C H a S → RtAt C H' a S) : OptAt C H' v o := by
  cases o with
  | none => exact h
  | some R => obtain ⟨r, h1, h2⟩ := h; exact ⟨r, h1, k _ _ h2⟩
/-- Mask(floor, roof), the new object at x -/
theorem mkMx {CM C f : Addr} {v : V} {H : Hp} {F : KS} {o : Option KS} {R : VK} {E : XK} (hf : RtAt C H f F) (ho : OptAt C H v o) {x dx : Addr} (nx : H x = none) (ndx : H dx = none) (ne : dx ≠ x)
    (k : ∀ H2, Ext H H2 → MkAt CM C H2 x F (fun k => F k || roofF o k) → R .non H2) : spMInit CM C [.ref x, .ref f, v] (upd (upd H dx (.own x)) x (.ins CM dx [])) R E := by
  have e0 : Ext H (upd (upd H dx (.own x)) x (.ins CM dx [])) := (Ext.upd ndx).trans (Ext.upd (by rw [upd_ne (Ne.symm ne)]; exact nx))
  exact ⟨x, dx, f, v, F, o, rfl, upd_same, hf.ext e0, ho.ext e0, fun H' r kp => k H' (fun b o e => kp b o (e0 b o e) (ne_of_none e nx)) r⟩
def spKeep (CM C : Addr) : Sp := fun vs H Q _ => vs = [] ∧ ∀ x H', Ext H H' → MkAt CM C H' x (fun _ => false) (fun _ => true) → Q (.ref x) H'
def spOnly (CM C : Addr) : Sp := fun vs H Q _ => ∃ (r : Addr) (S : KS), vs = [.ref r] ∧ RtAt C H r S ∧ ∀ x H', Ext H H' → MkAt CM C H' x (fun _ => false) S → Q (.ref x) H'
def spAdding (CM C : Addr) : Sp := fun vs H Q _ => ∃ (r : Addr) (S : KS), vs = [.ref r] ∧ RtAt C H r S ∧ ∀ x H', Ext H H' → MkAt CM C H' x S (fun _ => true) → Q (.ref x) H'
def spSetting (CM C : Addr) : Sp := fun vs H Q _ => ∃ (r : Addr) (S : KS), vs = [.ref r] ∧ RtAt C H r S ∧ ∀ x H', Ext H H' → MkAt CM C H' x S S → Q (.ref x) H'
def spTurn (CM C : Addr) : Sp := fun vs H Q _ => ∃ (p r : Addr) (F R S : KS), vs = [.ref p, .ref r] ∧ MkAt CM C H p F R ∧ RtAt C H r S ∧ ∀ x H', Ext H H' → RtAt C H' x (maskT F R S) → Q (.ref x) H'
def spLeaves (CM C : Addr) : Sp := fun vs H Q _ => ∃ (p : Addr) (F R : KS) (k : Int), vs = [.ref p, .int k] ∧ MkAt CM C H p F R ∧ 0 ≤ k ∧ k < 16 ∧ Q (.bl (R k)) H
def spMul (CM C : Addr) : Sp := fun vs H Q _ => ∃ (p q : Addr) (F R F2 R2 : KS), vs = [.ref p, .ref q] ∧ MkAt CM C H p F R ∧ MkAt CM C H q F2 R2 ∧ ∀ x H', Ext H H' → MkAt CM C H' x (maskT F2 R2 F) (fun k => maskT F2 R2 F k || (R k && R2 k)) → Q (.ref x) H'
def spMEq (CM C : Addr) : Sp := fun vs H Q _ => ∃ (p q : Addr) (F R F2 R2 : KS), vs = [.ref p, .ref q] ∧ MkAt CM C H p F R ∧ MkAt CM C H q F2 R2 ∧ Q (.bl (decide (ks F = ks F2) && decide (ks R = ks R2))) H
def spMWithin (CM C : Addr) : Sp := fun vs H Q _ => ∃ (p q : Addr) (F R F2 R2 : KS), vs = [.ref p, .ref q] ∧ MkAt CM C H p F R ∧ MkAt CM C H q F2 R2 ∧ ∀ H', Ext H H' → Q (.bl (wi F F2 && wi R R2)) H'
/-- rights == rights or None -/
def spEqO (C : Addr) : Sp := fun vs H Q _ => ∃ (a : Addr) (S : KS) (v : V) (o : Option KS), vs = [.ref a, v] ∧ RtAt C H a S ∧ OptAt C H v o ∧ Q (.bl (match o with | none => false | some T => decide (ks S = ks T))) H
theorem lk2 {f g : Str} {v w : V} (h : (g == f) = false) : List.lookup g [(f, v), (g, w)] = some w := by simp [List.lookup, h]
theorem lkR {v w : V} : List.lookup ("roof" : Str) [(("floor" : Str), v), (("roof" : Str), w)] = some w := lk2 (by decide +kernel)
theorem lkF {v w : V} : List.lookup ("floor" : Str) [(("floor" : Str), v), (("roof" : Str), w)] = some v := by simp [List.lookup]
theorem mkBin {CM C p q : Addr} {H : Hp} {F R F2 R2 : KS} {Q : VK} {E : XK} (hp : MkAt CM C H p F R) (hq : MkAt CM C H q F2 R2) (k : ∀ x H', Ext H H' → MkAt CM C H' x (maskT F2 R2 F) (fun k => maskT F2 R2 F k || (R k && R2 k)) → Q (.ref x) H') : rOwn CM (spMul CM C) E (.ref p) (.ref q) H Q := by
  obtain ⟨dx, fs, ha⟩ := hp.ob
  obtain ⟨dy, gs, hb⟩ := hq.ob
  exact ⟨p, q, dx, dy, fs, gs, rfl, rfl, ha, hb, p, q, F, R, F2, R2, rfl, hp, hq, k⟩
theorem mkEq {CM C p q : Addr} {H : Hp} {F R F2 R2 : KS} {Q : VK} {E : XK} (hp : MkAt CM C H p F R) (hq : MkAt CM C H q F2 R2) (k : Q (.bl (decide (ks F = ks F2) && decide (ks R = ks R2))) H) : rOwnEq CM (spMEq CM C) E (.ref p) (.ref q) H Q := by
  obtain ⟨dx, fs, ha⟩ := hp.ob
  obtain ⟨dy, gs, hb⟩ := hq.ob
  exact ⟨p, q, dx, dy, fs, gs, rfl, rfl, ha, hb, p, q, F, R, F2, R2, rfl, hp, hq, k⟩
/-- the law's own parts of a mask: [floor, roof or None] as lists -/
def OptL (H : Hp) (v : V) : Option (List Int) → Prop
  | none => v = .non
  | some ns => ∃ a, v = .ref a ∧ H a = some (.lst (ns.map V.int))
def PartAt (H : Hp) (q : Addr) (bs : List Int) (rs : Option (List Int)) : Prop := ∃ b v, H q = some (.lst [.ref b, v]) ∧ H b = some (.lst (bs.map V.int)) ∧ OptL H v rs
def InK (ns : List Int) : Prop := ns.length ≤ 40 ∧ ∀ n ∈ ns, 0 ≤ n ∧ n ≤ 15
def InKO : Option (List Int) → Prop
  | none => True
  | some ns => InK ns
/-- as a set; None is all -/
def setO : Option (List Int) → KS
  | none => fun _ => true
  | some ns => fun k => decide (k ∈ ns)
theorem OptL.ext {H H' : Hp} {v : V} {o : Option (List Int)} (h : OptL H v o) (e : Ext H H') : OptL H' v o := by
  cases o with
  | none => exact h
  | some R => obtain ⟨r, h1, h2⟩ := h; exact ⟨r, h1, e _ _ h2⟩
theorem PartAt.ext {H H' : Hp} {q : Addr} {bs : List Int} {rs : Option (List Int)} (h : PartAt H q bs rs) (e : Ext H H') : PartAt H' q bs rs := let ⟨b, v, h1, h2, h3⟩ := h; ⟨b, v, e _ _ h1, e _ _ h2, h3.ext e⟩
/-- parts stay where the state is written -/
theorem PartAt.keep {H H' : Hp} {q st c : Addr} {n : Nat} {bs : List Int} {rs : Option (List Int)} (h : PartAt H q bs rs) (s : StAt H st c n) (k : Keep st H H') : PartAt H' q bs rs := by
  obtain ⟨b, v, h1, h2, h3⟩ := h
  have nq : q ≠ st := by
    obtain ⟨i, cur, n, ms, hs, _⟩ := s
    exact ne_of h1 hs (by intro z; injection z with z; cases z)
  refine ⟨b, v, k _ _ nq h1, k _ _ (s.ints h2) h2, ?_⟩
  cases rs with
  | none => exact h3
  | some R => obtain ⟨r, e1, e2⟩ := h3; exact ⟨r, e1, k _ _ (s.ints e2) e2⟩
def spMade (CM C : Addr) : Sp := fun vs H Q _ => ∃ (q : Addr) (bs : List Int) (rs : Option (List Int)), vs = [.ref q] ∧ PartAt H q bs rs ∧ InK bs ∧ InKO rs ∧ ∀ x H', Ext H H' → MkAt CM C H' x (fun k => decide (k ∈ bs)) (fun k => decide (k ∈ bs) || setO rs k) → Q (.ref x) H'
/-- the law's own turning -/
def turnedL (bs : List Int) (rs : Option (List Int)) (hs : List Int) : List Int := ks fun k => (decide (k ∈ hs) && setO rs k) || decide (k ∈ bs)
def spTurned (K : PySem.W.Frag) : Sp := fun vs H Q _ => ∃ (q h : Addr) (bs hs : List Int) (rs : Option (List Int)), vs = [.ref q, .ref h] ∧ PartAt H q bs rs ∧ SqL K H h (hs.map V.int) ∧ hs.length ≤ 1000 ∧ InK bs ∧ InKO rs ∧
  ∀ p H', Ext H H' → H p = none → H' p = some (.lst ((turnedL bs rs hs).map V.int)) → Q (.ref p) H'
end Ow
namespace Ow
open PySem PySem.Spec PyProof.Rows L2
def spParts : Sp := fun vs H Q _ => ∃ (st c : Addr) (b : Nat), vs = [.ref st] ∧ StAt H st c b ∧ b ≤ 800000 ∧ ∀ (q : Addr) (bs : List Int) (rs : Option (List Int)) (H' : Hp), InK bs → InKO rs → StAt H' st c (b + 100) → Keep st H H' → PartAt H' q bs rs → H q = none → Q (.ref q) H'
/-- a roof told: None or a tuple -/
def RoofT (K : PySem.W.Frag) (H : Hp) (v : V) (R : KS) : Prop := (full R ∧ v = .non) ∨ (¬ full R ∧ ∃ t, v = .ref t ∧ SqT K H t ((ks R).map V.int))
theorem RoofT.ext {K : PySem.W.Frag} {H H' : Hp} {v : V} {R : KS} (h : RoofT K H v R) (e : Ext H H') : RoofT K H' v R := h.imp (fun z => z) fun ⟨n, t, h1, h2⟩ => ⟨n, t, h1, h2.ext e⟩
theorem roofDp {K : PySem.W.Frag} {H : Hp} {v : V} {R : KS} (h : RoofT K H v R) : ∃ d, Dp K H v d ∧ SeqAt.shaped d = true ∧ ((full R ∧ d = .none) ∨ (¬ full R ∧ d = .tuple ((ks R).map PyData.int))) := by
  rcases h with ⟨f, rfl⟩ | ⟨n, t, rfl, ht⟩
  · exact ⟨.none, .non, by decide, .inl ⟨f, rfl⟩⟩
  · exact ⟨_, .tup ht (dp_ints _), sh_tup _, .inr ⟨n, rfl⟩⟩
theorem roofEqv {R T : KS} {d e : PyData} (hd : (full R ∧ d = .none) ∨ (¬ full R ∧ d = .tuple ((ks R).map PyData.int))) (he : (full T ∧ e = .none) ∨ (¬ full T ∧ e = .tuple ((ks T).map PyData.int))) : PyData.eqv d e = decide (ks R = ks T) := by
  rcases hd with ⟨f, rfl⟩ | ⟨f, rfl⟩
  · rcases he with ⟨g, rfl⟩ | ⟨g, rfl⟩
    · rw [decide_eq_true (al_iff.mpr fun k h0 h1 => by rw [full_iff.mp f k h0 h1, full_iff.mp g k h0 h1])]
      rfl
    · rw [decide_eq_false fun z => g (f.al (al_iff.mp z))]
      simp [PyData.eqv]
  · rcases he with ⟨g, rfl⟩ | ⟨g, rfl⟩
    · rw [decide_eq_false fun z => f (g.al (al_iff.mp z).symm)]
      simp [PyData.eqv]
    · rw [PyData.eqv, eqv_ints]
theorem ned_roof {K : PySem.W.Frag} {H : Hp} {u v : V} {R T : KS} {Q : VK} (h1 : RoofT K H u R) (h2 : RoofT K H v T) (q : Q (.bl (!decide (ks R = ks T))) H) : rNeD K u v H Q := by
  obtain ⟨d, a1, a2, a3⟩ := roofDp h1
  obtain ⟨e, b1, b2, b3⟩ := roofDp h2
  exact ⟨d, e, a1, b1, a2, b2, by rw [roofEqv a3 b3]; exact q⟩
theorem eqd_roof {K : PySem.W.Frag} {H : Hp} {u v : V} {R T : KS} {Q : VK} (h1 : RoofT K H u R) (h2 : RoofT K H v T) (q : Q (.bl (decide (ks R = ks T))) H) : rEqD K u v H Q := by
  obtain ⟨d, a1, a2, a3⟩ := roofDp h1
  obtain ⟨e, b1, b2, b3⟩ := roofDp h2
  exact ⟨d, e, a1, b1, a2, b2, by rw [roofEqv a3 b3]; exact q⟩
def roofOf (bs : List Int) (rs : Option (List Int)) : KS := fun k => decide (k ∈ bs) || setO rs k
def spRoof (K : PySem.W.Frag) : Sp := fun vs H Q _ => ∃ (q : Addr) (bs : List Int) (rs : Option (List Int)), vs = [.ref q] ∧ PartAt H q bs rs ∧ ∀ v H', Ext H H' → RoofT K H' v (roofOf bs rs) → Q v H'
def spToldRoof (K : PySem.W.Frag) (CM C : Addr) : Sp := fun vs H Q _ => ∃ (p : Addr) (F R : KS), vs = [.ref p] ∧ MkAt CM C H p F R ∧ ∀ v, RoofT K H v R → Q v H
/-- lists of ints told by their list -/
def RowsK (H : Hp) : List V → List (List Int) → Prop := Paired fun v ns => ∃ a, v = V.ref a ∧ H a = some (.lst (ns.map V.int)) ∧ InK ns
theorem RowsK.ext {H H' : Hp} {ls : List V} {nss : List (List Int)} (r : RowsK H ls nss) (e : Ext H H') : RowsK H' ls nss := Paired.mapP r fun _ _ ⟨a, h1, h2, h3⟩ => ⟨a, h1, e _ _ h2, h3⟩
theorem RowsK.append {H : Hp} : ∀ {l1 l2 : List V} {n1 n2 : List (List Int)}, RowsK H l1 n1 → RowsK H l2 n2 → RowsK H (l1 ++ l2) (n1 ++ n2)
  | _, _, _, _, .nil, s => s
  | _, _, _, _, .cons r t, s => .cons r (RowsK.append t s)
theorem RowsK.reverse {H : Hp} : ∀ {ls : List V} {nss : List (List Int)}, RowsK H ls nss → RowsK H ls.reverse nss.reverse
  | _, _, .nil => .nil
  | _, _, .cons r t => by
    rw [List.reverse_cons, List.reverse_cons]
    exact RowsK.append (RowsK.reverse t) (.cons r .nil)
theorem InK.set {ns : List Int} (h : InK ns) : ns.length < 64 := Nat.lt_of_le_of_lt h.1 (by decide)
/-- what is asked of a mask and its parts -/
structure Fits (CM C : Addr) (H : Hp) (p q : Addr) (bs : List Int) (rs : Option (List Int)) : Prop where
  ex : ∃ F R, MkAt CM C H p F R ∧ Al F (fun k => decide (k ∈ bs)) ∧ Al R (roofOf bs rs)
  pt : PartAt H q bs rs
  ib : InK bs
  ir : InKO rs
theorem Fits.ext {CM C : Addr} {H H' : Hp} {p q : Addr} {bs : List Int} {rs : Option (List Int)} (f : Fits CM C H p q bs rs) (e : Ext H H') : Fits CM C H' p q bs rs := ⟨let ⟨F, R, a, b, c⟩ := f.ex; ⟨F, R, a.ext e, b, c⟩, f.pt.ext e, f.ib, f.ir⟩
/-- a mask turned by the law's own words -/
theorem turned_eq {bs hs : List Int} {rs : Option (List Int)} {F R : KS} (a : Al F fun k => decide (k ∈ bs)) (b : Al R (roofOf bs rs)) : ks (maskT F R fun k => decide (k ∈ hs)) = turnedL bs rs hs := ks_congr fun k h0 h1 => by
  unfold maskT
  rw [a k h0 h1, b k h0 h1]
  unfold roofOf
  dsimp only
  cases decide (k ∈ hs) <;> cases setO rs k <;> cases decide (k ∈ bs) <;> rfl
theorem lkL {v w : V} : List.lookup ("leaves" : Str) [(("floor" : Str), v), (("roof" : Str), w)] = none := by
  have h1 : (("leaves" : Str) == ("floor" : Str)) = false := by decide +kernel
  have h2 : (("leaves" : Str) == ("roof" : Str)) = false := by decide +kernel
  simp [List.lookup, h1, h2]
/-- the parts drawn: new objects alone -/
def spPartsD : Sp := fun vs H Q _ => ∃ (st c : Addr) (b : Nat), vs = [.ref st] ∧ StAt H st c b ∧ b ≤ 800000 ∧ ∀ (q : Addr) (bs : List Int) (rs : Option (List Int)) (H' : Hp), InK bs → InKO rs → StAt H' st c (b + 100) → Keep st H H' → PartAt H' q bs rs → H q = none → (∀ D o, (∃ u, H D = some u) → PartAt (upd H' D o) q bs rs) → Q (.ref q) H'
theorem PartAt.off {H H' : Hp} {q b : Addr} {v : V} {bs : List Int} {rs : Option (List Int)} (h1 : H' q = some (.lst [.ref b, v])) (h2 : H' b = some (.lst (bs.map V.int))) (h3 : OptL H' v rs) (n1 : H q = none) (n2 : H b = none) (n3 : ∀ a, v = .ref a → H a = none) (D : Addr) (o : HO) (hD : ∃ u, H D = some u) : PartAt (upd H' D o) q bs rs := by
  obtain ⟨u, hu⟩ := hD
  have ne : ∀ x, H x = none → x ≠ D := fun x hx e => by rw [e, hu] at hx; cases hx
  refine ⟨b, v, by rw [upd_ne (ne q n1)]; exact h1, by rw [upd_ne (ne b n2)]; exact h2, ?_⟩
  cases rs with
  | none => exact h3
  | some ns => obtain ⟨a, e1, e2⟩ := h3; exact ⟨a, e1, by rw [upd_ne (ne a (n3 a e1))]; exact e2⟩
theorem MkAt.put {CM C p l : Addr} {H : Hp} {F R : KS} {xs ys : List V} (r : MkAt CM C H p F R) (h : H l = some (.lst xs)) : MkAt CM C (upd H l (.lst ys)) p F R := by
  obtain ⟨dx, fl, rv, h1, h2, h3⟩ := r
  exact ⟨dx, fl, rv, by rw [upd_ne (ne_of h1 h (by intro z; cases z))]; exact h1, h2.put h, h3.imp (fun z => z) fun ⟨n, r, c1, c2⟩ => ⟨n, r, c1, c2.put h⟩⟩
theorem MkAt.keep {CM C p st c : Addr} {b : Nat} {H H' : Hp} {F R : KS} (r : MkAt CM C H p F R) (s : StAt H st c b) (k : Keep st H H') : MkAt CM C H' p F R := by
  obtain ⟨dx, fl, rv, h1, h2, h3⟩ := r
  have np : p ≠ st := by
    obtain ⟨i, cur, n, ms, hs, _⟩ := s
    exact ne_of h1 hs (by intro z; cases z)
  exact ⟨dx, fl, rv, k _ _ np h1, h2.keep s k, h3.imp (fun z => z) fun ⟨n, r, c1, c2⟩ => ⟨n, r, c1, c2.keep s k⟩⟩
theorem ks_filter {S T : KS} : (ks S).filter T = ks fun k => S k && T k := by
  unfold ks
  rw [List.filter_filter]
  refine List.filter_congr fun k _ => ?_
  exact Bool.and_comm _ _
theorem has_turned {bs hs : List Int} {rs : Option (List Int)} {k : Int} (h0 : 0 ≤ k) (h1 : k < 16) : decide (k ∈ turnedL bs rs hs) = ((decide (k ∈ hs) && setO rs k) || decide (k ∈ bs)) := has_ks h0 h1
theorem turned_in (bs hs : List Int) (rs : Option (List Int)) : InK (turnedL bs rs hs) := ⟨Nat.le_trans (ks_len _) (by decide), fun n hn => by have := (mem_ks.mp hn).1; omega⟩
end Ow
namespace Ow
open PySem PySem.Spec PyProof.Rows L2
/-- parts[1] is None or key in parts[0] or key in parts[1] -/
theorem roofTest {K : PySem.W.Frag} {i j : Nat} {σ : L2.St} {H : Hp} {q : Addr} {bs : List Int} {rs : Option (List Int)} {z : Int} {R : Bool → Hp → Prop} (hi : σ[i]? = some (some (.ref q))) (hj : σ[j]? = some (some (.int z))) (pt : PartAt H q bs rs) (r : R (roofOf bs rs z) H) :
    tOr (tTest (tOp (fun x y H Q => y = .non ∧ Q (.bl (decide (x = .non))) H) (tOp (rIxL K) (tVar i) (tC (.int 1))) (tC .non))) (tOr (tTest (tOp (rIn K false) (tVar j) (tOp (rIxL K) (tVar i) (tC (.int 0))))) (tTest (tOp (rIn K false) (tVar j) (tOp (rIxL K) (tVar i) (tC (.int 1)))))) σ H R := by
  obtain ⟨b, v, h1, h2, h3⟩ := pt
  refine ⟨_, hi, q, _, _, v, rfl, rfl, SqL.of h1, rfl, rfl, _, rfl, ?_⟩
  cases rs with
  | none =>
    obtain rfl : v = .non := h3
    have e : roofOf bs none z = true := by simp [roofOf, setO]
    rw [e] at r
    exact iteT r
  | some ns =>
    obtain ⟨a, rfl, ha⟩ := h3
    refine iteF ⟨_, hj, _, hi, q, _, _, _, rfl, rfl, SqL.of h1, rfl, in_ints (.inl (SqL.of h2)) ⟨_, rfl, ?_⟩⟩
    unfold roofOf at r
    cases c1 : decide (z ∈ bs) with
    | true => rw [c1, Bool.true_or] at r; exact iteT r
    | false => rw [c1, Bool.false_or] at r; exact iteF ⟨_, hj, _, hi, q, _, _, _, rfl, rfl, SqL.of h1, rfl, in_ints (.inl (SqL.of ha)) ⟨_, rfl, r⟩⟩
end Ow

/-! the head's facts: defs that stand elsewhere than under a global's or a method's name (in a static method's record) -/
namespace Ow
open PySem PySem.Spec PyProof.Rows L2
structure DefA where
  at_ : PySem.W.Frag → Addr
  name : Str
  qual : Str
  params : Arguments
  body : List Stmt
  scope : Scope
def fnA (K : PySem.W.Frag) (a : Addr) : He.FnW := match K.lookup a with
  | some ⟨_, _, .func fd, _⟩ => some (fd.name, fd.qualname, fd.params, fd.body, fd.scope, fd.globals, fd.closure, fd.builtins)
  | _ => none
def DefA.val (d : DefA) : He.FnW := some (d.name, d.qual, d.params, .stmts d.body, d.scope, mainGlobals, [], builtinsNs)
def DefA.ok (K : PySem.W.Frag) (d : DefA) : Bool := PySem.W.keepIn K (.ref (d.at_ K)) && (match K.lookup (d.at_ K) with
  | some ⟨_, _, .func fd, _⟩ => PySem.W.codeIn K fd.code d.qual && He.dflB K fd.defaults []
  | _ => false)
theorem DefA.funD {K : PySem.W.Frag} {d : DefA} (e : fnA K (d.at_ K) = d.val) (c : d.ok K = true) : ∃ fd, FunD K d.name d.qual d.params d.body d.scope [] [] (d.at_ K) fd := by
  obtain ⟨kp, c2⟩ := He.ba c
  unfold fnA at e
  generalize hq : K.lookup (d.at_ K) = q at c2 e
  match q, hq, c2, e with
  | none, _, c2, _ => cases c2
  | some ⟨oc, od, .func ⟨n1, n2, n3, n4, n5, n6, n7, n8, n9, n10, n11, n12, n13, n14, n15⟩, osl⟩, hq, c2, e =>
    have e2 : (some (n1, n2, n3, n4, n5, n6, n7, n15) : He.FnW) = some (d.name, d.qual, d.params, .stmts d.body, d.scope, mainGlobals, [], builtinsNs) := e
    simp only [Option.some.injEq, Prod.mk.injEq] at e2
    obtain ⟨h1, h2, h3, h4, h5, h6, h7, h8⟩ := e2
    subst h1 h2 h3 h4 h5 h6 h7 h8
    obtain ⟨k1, k3⟩ := He.ba (show (PySem.W.codeIn K n13 d.qual && He.dflB K n8 []) = true from c2)
    exact ⟨_, ⟨oc, od, n8, n9, n10, n11, n12, n13, n14, osl, rfl, hq, k1, He.dflB_ok k3, .inl rfl⟩, kp⟩
/-- what the globals and the statics reach -/
def asN (g : Addr → Option Obj) : Nat → List Addr
  | 0 => [mainGlobals, cStatics]
  | n + 1 => He.growD g (asN g n)
def obsN (n : Nat) (fa : List He.Fa) (fn : List He.DefD) (fs : List DefA) (ex : PySem.W.Frag → Bool) (g : Addr → Option Obj) : (He.AlD × Bool) × (Bool × List He.FnW) :=
  let K := He.frG g (asN g n)
  ((He.obsD fa fn K, ex K), (fs.all fun d => d.ok K, fs.map fun d => fnA K (d.at_ K)))
structure SaysN (fa : List He.Fa) (fn : List He.DefD) (fs : List DefA) (ex : PySem.W.Frag → Bool) (K : PySem.W.Frag) : Prop where
  d : He.SaysD fa fn K
  x : ex K = true
  o : (fs.all fun d => d.ok K) = true
  f : (fs.map fun d => fnA K (d.at_ K)) = fs.map DefA.val
theorem SaysN.def_ {fa : List He.Fa} {fn : List He.DefD} {fs : List DefA} {ex : PySem.W.Frag → Bool} {K : PySem.W.Frag} (c : SaysN fa fn fs ex K) (i : Nat) {d : DefA} (h : fs[i]? = some d := by rfl) : ∃ fd, FunD K d.name d.qual d.params d.body d.scope [] [] (d.at_ K) fd := by
  have e2 : (fs.map fun d => fnA K (d.at_ K))[i]? = (fs.map DefA.val)[i]? := by rw [c.f]
  rw [List.getElem?_map, List.getElem?_map, h] at e2
  exact DefA.funD (Option.some.inj e2) (List.all_eq_true.mp c.o d (List.mem_of_getElem? h))
def hookN (n : Nat) (fa : List He.Fa) (fn : List He.DefD) (fs : List DefA) (ex : PySem.W.Frag → Bool) : PySem.W.Hook where
  α := (He.AlD × Bool) × (Bool × List He.FnW)
  obs := fun s => obsN n fa fn fs ex s.heap.get?
  val := fun _ => ((He.valD fn, true), (true, fs.map DefA.val))
  says := fun _ h => ∃ K : PySem.W.Frag, K.In h ∧ SaysN fa fn fs ex K
  of := fun _ s e => ⟨He.frG s.heap.get? (asN s.heap.get? n), He.frG_in, ⟨congrArg (fun z : (He.AlD × Bool) × (Bool × List He.FnW) => z.1.1) e, congrArg (fun z : (He.AlD × Bool) × (Bool × List He.FnW) => z.1.2) e, congrArg (fun z : (He.AlD × Bool) × (Bool × List He.FnW) => z.2.1) e, congrArg (fun z : (He.AlD × Bool) × (Bool × List He.FnW) => z.2.2) e⟩⟩
  keeps := fun _ _ _ ⟨K, hK, c⟩ k => ⟨K, PySem.W.Frag.In.keeps hK k, c⟩
theorem obsN_eq {n : Nat} {fa : List He.Fa} {fn : List He.DefD} {fs : List DefA} {ex : PySem.W.Frag → Bool} {g : Addr → Option Obj} {s : Shared} (h : ∀ a, g a = s.heap.get? a) : obsN n fa fn fs ex g = (hookN n fa fn fs ex).obs s := by
  obtain rfl : g = s.heap.get? := funext h
  rfl
theorem fnInOf {K : PySem.W.Frag} {C : Addr} {m : Str} (h : PySem.W.fnIn K (He.ma K C m) = true) (g : Addr) (hg : PySem.W.findIn K (.ref C) m = some (some (.ref g))) : PySem.W.fnIn K g = true := by
  have e : He.ma K C m = g := by unfold He.ma; rw [hg]
  rw [← e]
  exact h
end Ow

/-! == and != of own instances of two classes; != by object.__ne__ -/
namespace Ow
open PySem PySem.Spec PyProof.Rows L2
section
variable {prog : Program} {w : World} {A : Around} {E : Value → Shared → Prop} {s : Shared} {K : PySem.W.Frag} {x C L f : Addr} {h₀ : Heap} {m : Str → Option Value} {ox : Obj} {od : Option Obj} {b tb : Value}
theorem ne_bound {Q : Option Value → Shared → Prop} (X : K.In s.heap) (I : PySem.W.InstAt s.heap x ox C od) (hs : PySem.W.findIn K (.ref C) "__ne__" = some (some (.builtin "object.__ne__")))
    (h : wpAny (model prog w) A (call (.builtin "object.__ne__") [.ref x, b]) (fun v => Q (some v)) E s) : wpAny (model prog w) A (callSpecialIfBound? (.ref x) "__ne__" [b]) Q E s := by
  simp only [callSpecialIfBound?, bindSpecialIfBound?]
  refine wpAny_holding (wpAny_bind (wpAny_bind (wpAny_bind (I.type.here ((PySem.W.looks_findIn X hs).here ?_)))))
  simp only [PySem.F.slot_object_ne.bind]
  refine wpAny_bind (wpAny_askSetting (wpAny_ite ?_))
  have fin : wpAny (model prog w) A (call (.builtin "object.__ne__") ([.ref x] ++ [b]) >>= fun v => pure (some v)) Q E s := wpAny_bind (wpAny_mono h (fun v s' h' => wpAny_pure h') fun _ _ h' => h')
  split
  · exact wpAny_bind (wpAny_pure (wpAny_pure (by exact fin)))
  · exact wpAny_tryCatch (wpAny_bind (wpAny_pure (wpAny_pure (by exact fin))))
open Builtin in
theorem ne_call {Q : Value → Shared → Prop} (hu : A.in1.units < cLine) (X : K.In s.heap) (I : PySem.W.InstAt s.heap x ox C od) (hm : PySem.W.mroIn K C (.type "object") = some true) (hs : PySem.W.findIn K (.ref C) "__eq__" = some (some (.ref f))) (hf : PySem.W.isFn K (.ref f) = true)
    (h : wpAny (model prog w) A.in1 (call (.ref f) [.ref x, b]) (fun v s' => ∃ c, v = .bool c ∧ Q (.bool (!c)) s') E s) : wpAny (model prog w) A (call (.builtin "object.__ne__") [.ref x, b]) Q E s := by
  refine wpAny_call (codeAny_call_builtin PySem.F.slot_object_ne.plain PySem.F.cmpEntry_ne (PySem.W.check_slot (i := "object.__ne__") (owner := "object") (n := "__ne__") (by decide +kernel) (by decide +kernel) (I.type.andThen (PySem.W.looks_mroIn X hm)) (PySem.F.cmpArgs_ne _ _) ?_))
  unfold Builtin.«object.__ne__»
  refine wpAny_bind (m := slotArgs "__ne__" 1 _) (wpAny_pure ?_)
  refine wpAny_bind (m := cRoomFor _ _) (wpAny_cRoomFor hu ?_)
  refine wpAny_bind (m := callSpecialIfBound? (.ref x) (Str.ofString "__eq__") _) (PySem.W.ifBound_K X I hs hf (wpAny_mono h (fun r s' hq => ?_) fun _ _ y => y))
  obtain ⟨c, rfl, q⟩ := hq
  exact wpAny_bind (m := truthy (.bool c)) (wpAny_truthy_bool (wpAny_pure q))
theorem ne_K {Q : Value → Shared → Prop} (hu : A.units < cLine) (hu1 : A.in1.units < cLine) (F : Fr h₀ L s.heap m) (X₀ : K.In h₀) (I : PySem.W.InstAt s.heap x ox C od) (hb : PySem.W.Looks (model prog w) s.heap (typeOf b) tb) (hn : PySem.W.notFirst K C tb = true)
    (hne : PySem.W.findIn K (.ref C) "__ne__" = some (some (.builtin "object.__ne__"))) (hm : PySem.W.mroIn K C (.type "object") = some true)
    (hs : PySem.W.findIn K (.ref C) "__eq__" = some (some (.ref f))) (hf : PySem.W.isFn K (.ref f) = true)
    (h : wpAny (model prog w) A.in1 (call (.ref f) [.ref x, b]) (fun v s' => ∃ c, v = .bool c ∧ Q (.bool (!c)) s') E s) : wpAny (model prog w) A (richCompare .NotEq (.ref x) b) Q E s := by
  have X := X₀.keeps F.keep
  have one : wpAny (model prog w) A (tryCompare (.ref x) (cmpInfo .NotEq).2.1 b) (fun r s' => ∃ v, r = some v ∧ Q v s') E s := by
    unfold tryCompare
    refine wpAny_bind (ne_bound X I hne (ne_call hu1 X I hm hs hf (wpAny_mono h (fun v s' hv => ?_) fun _ _ e => e)))
    obtain ⟨c, rfl, q⟩ := hv
    exact ⟨c, rfl, wpAny_pure ⟨_, rfl, q⟩⟩
  unfold richCompare
  simp only [oneThing_ref]
  refine wpAny_holding (wpAny_bind (wpAny_cRoomFor hu ?_))
  refine wpAny_bind (I.type.here (wpAny_bind (hb.here ?_)))
  split
  · rename_i q
    have e : PySem.W.subIn K tb (.ref C) = some false := by
      rcases Bool.or_eq_true_iff.mp hn with e | e
      · rw [beq_iff_eq.mp e] at q; simp at q
      · exact beq_iff_eq.mp e
    refine wpAny_bind ((PySem.W.looks_subIn X e).here ?_)
    simp only [Bool.false_eq_true, if_false]
    refine wpAny_bind (wpAny_mono one (fun r s' z => ?_) fun _ _ e => e)
    obtain ⟨v, rfl, hq⟩ := z
    exact wpAny_pure hq
  · refine wpAny_bind (wpAny_pure ?_)
    simp only [Bool.false_eq_true, if_false]
    refine wpAny_bind (wpAny_mono one (fun r s' z => ?_) fun _ _ e => e)
    obtain ⟨v, rfl, hq⟩ := z
    exact wpAny_pure hq
end
section
variable {X : Cx} {CX : CXT} {E : XK} {k : Nat} {C D : Addr} {ps : List Str} {sp : Sp}
/-- a == b, a of the class at C, b of the class at D -/
def rEqI (C D : Addr) (sp : Sp) (E : XK) : R2 := fun x y H Q => ∃ a b dx dy fs gs, x = .ref a ∧ y = .ref b ∧ H a = some (.ins C dx fs) ∧ H b = some (.ins D dy gs) ∧ sp [.ref a, .ref b] H Q E
theorem od_eqD (G : Dun X.prog X.w X.K X.mg X.base CX k C "__eq__" ps sp) (hr : Room k X.A) (hx : Passes CX X E) (hn : PySem.W.notFirst X.K C (.ref D) = true) : OpR X (compareOp .Eq) (rEqI C D sp E) := by
  obtain ⟨f, fd, hs, hf, hk, hb, F⟩ := G
  intro pins s σ H x y v u Q I rx ry h
  obtain ⟨m, hF⟩ := I.fr
  obtain ⟨a, b, dx, dy, fs, gs, rfl, rfl, ha, hb', q⟩ := h
  cases rx
  cases ry
  obtain ⟨mA, J, _⟩ := ins_get I.hok ha
  obtain ⟨oa, J, _⟩ := J.look
  obtain ⟨mB, J', _⟩ := ins_get I.hok hb'
  obtain ⟨ob, J', _⟩ := J'.look
  show wpAny (model X.prog X.w) X.A (richCompare .Eq (.ref a) (.ref b)) (EP X pins σ Q) X.xe s
  refine PySem.W.cmp_K (op := .Eq) (tb := .ref D) hr.units0 hF I.ok.mod.kin J J'.type hn hs hf ?_
  exact wpAny_mono (run_fn (us := [.ref a, .ref b]) (vs := [.ref a, .ref b]) F hr hb .nil hx I (.cons rfl (.cons rfl .nil)) q) (fun _ _ z => epBack z) fun _ _ z => z
/-- a != b by object.__ne__ -/
def rNeI (C D : Addr) (sp : Sp) (E : XK) : R2 := fun x y H Q => ∃ a b dx dy fs gs, x = .ref a ∧ y = .ref b ∧ H a = some (.ins C dx fs) ∧ H b = some (.ins D dy gs) ∧ sp [.ref a, .ref b] H (fun v H' => ∃ c, v = .bl c ∧ Q (.bl (!c)) H') E
theorem od_neD (G : Dun X.prog X.w X.K X.mg X.base CX k C "__eq__" ps sp) (hr : Room (k + 1) X.A) (hx : Passes CX X E) (hn : PySem.W.notFirst X.K C (.ref D) = true)
    (hne : PySem.W.findIn X.K (.ref C) "__ne__" = some (some (.builtin "object.__ne__"))) (hm : PySem.W.mroIn X.K C (.type "object") = some true) : OpR X (compareOp .NotEq) (rNeI C D sp E) := by
  obtain ⟨f, fd, hs, hf, hk, hb, F⟩ := G
  intro pins s σ H x y v u Q I rx ry h
  obtain ⟨m, hF⟩ := I.fr
  obtain ⟨a, b, dx, dy, fs, gs, rfl, rfl, ha, hb', q⟩ := h
  cases rx
  cases ry
  obtain ⟨mA, J, _⟩ := ins_get I.hok ha
  obtain ⟨oa, J, _⟩ := J.look
  obtain ⟨mB, J', _⟩ := ins_get I.hok hb'
  obtain ⟨ob, J', _⟩ := J'.look
  show wpAny (model X.prog X.w) X.A (richCompare .NotEq (.ref a) (.ref b)) (EP X pins σ Q) X.xe s
  refine ne_K (tb := .ref D) hr.units0 (hr.in1).units0 hF I.ok.mod.kin J J'.type hn hne hm hs hf ?_
  refine wpAny_mono (run_in1 (us := [.ref a, .ref b]) (vs := [.ref a, .ref b]) F hr hb hx I (.cons rfl (.cons rfl .nil)) q) (fun v s' z => ?_) fun _ _ z => z
  obtain ⟨w, H', I', rw', c, rfl, q'⟩ := z
  obtain rfl : v = .bool c := rw'
  exact ⟨c, rfl, .bl (!c), H', I', rfl, q'⟩
/-- the facts for != as a Bool -/
def neB2 (K : PySem.W.Frag) (C : Addr) : Bool := decide (PySem.W.findIn K (.ref C) "__ne__" = some (some (.builtin "object.__ne__"))) && decide (PySem.W.mroIn K C (.type "object") = some true)
structure NeC (K : PySem.W.Frag) (C : Addr) : Prop where
  ne : PySem.W.findIn K (.ref C) "__ne__" = some (some (.builtin "object.__ne__"))
  ob : PySem.W.mroIn K C (.type "object") = some true
theorem neB2_ok {K : PySem.W.Frag} {C : Addr} (h : neB2 K C = true) : NeC K C := by
  obtain ⟨a, b⟩ := Bool.and_eq_true_iff.mp h
  exact ⟨of_decide_eq_true a, of_decide_eq_true b⟩
end
theorem nfSelf (K : PySem.W.Frag) (C : Addr) : PySem.W.notFirst K C (.ref C) = true := by simp [PySem.W.notFirst]
/-- a Mask is no Rights -/
def spMEqN (CM C : Addr) : Sp := fun vs H Q _ => ∃ (p q : Addr) (F R S : KS), vs = [.ref p, .ref q] ∧ MkAt CM C H p F R ∧ RtAt C H q S ∧ Q (.bl false) H
def InS (ns : List Int) : Prop := ns.length ≤ 16 ∧ ∀ n ∈ ns, 0 ≤ n ∧ n ≤ 15
def InSO : Option (List Int) → Prop
  | none => True
  | some ns => InS ns
theorem InS.k {ns : List Int} (h : InS ns) : InK ns := ⟨Nat.le_trans h.1 (by decide), h.2⟩
theorem InSO.k {o : Option (List Int)} (h : InSO o) : InKO o := by
  cases o with
  | none => trivial
  | some ns => exact InS.k h
def spPartsS : Sp := fun vs H Q _ => ∃ (st c : Addr) (b : Nat), vs = [.ref st] ∧ StAt H st c b ∧ b ≤ 800000 ∧ ∀ (q : Addr) (bs : List Int) (rs : Option (List Int)) (H' : Hp), InS bs → InSO rs → StAt H' st c (b + 100) → Keep st H H' → PartAt H' q bs rs → H q = none → Q (.ref q) H'
/-- masks and parts stay where the state is written -/
theorem neMk {CM C p q : Addr} {H : Hp} {F R F2 R2 : KS} {Q : VK} {E : XK} (hp : MkAt CM C H p F R) (hq : MkAt CM C H q F2 R2) (k : Q (.bl (!(decide (ks F = ks F2) && decide (ks R = ks R2)))) H) : rNeI CM CM (spMEq CM C) E (.ref p) (.ref q) H Q := by
  obtain ⟨dx, fs, ha⟩ := hp.ob
  obtain ⟨dy, gs, hb⟩ := hq.ob
  exact ⟨p, q, dx, dy, fs, gs, rfl, rfl, ha, hb, p, q, F, R, F2, R2, rfl, hp, hq, _, rfl, k⟩
theorem eqN {CM C p q : Addr} {H : Hp} {F R S : KS} {Q : VK} {E : XK} (hp : MkAt CM C H p F R) (hq : RtAt C H q S) (k : Q (.bl false) H) : rEqI CM C (spMEqN CM C) E (.ref p) (.ref q) H Q := by
  obtain ⟨dx, fs, ha⟩ := hp.ob
  obtain ⟨dy, t, hb, _⟩ := id hq
  exact ⟨p, q, dx, dy, fs, _, rfl, rfl, ha, hb, p, q, F, R, S, rfl, hp, hq, k⟩
theorem neN {CM C p q : Addr} {H : Hp} {F R S : KS} {Q : VK} {E : XK} (hp : MkAt CM C H p F R) (hq : RtAt C H q S) (k : Q (.bl true) H) : rNeI CM C (spMEqN CM C) E (.ref p) (.ref q) H Q := by
  obtain ⟨dx, fs, ha⟩ := hp.ob
  obtain ⟨dy, t, hb, _⟩ := id hq
  exact ⟨p, q, dx, dy, fs, _, rfl, rfl, ha, hb, p, q, F, R, S, rfl, hp, hq, false, rfl, k⟩
theorem lkWM {v w : V} : List.lookup ("within" : Str) [(("floor" : Str), v), (("roof" : Str), w)] = none := by
  have h1 : (("within" : Str) == ("floor" : Str)) = false := by decide +kernel
  have h2 : (("within" : Str) == ("roof" : Str)) = false := by decide +kernel
  simp [List.lookup, h1, h2]
end Ow

/-! The value layer: data without addresses, a store of the things that change, what stands for what. -/
namespace Vl
open PySem PySem.Spec PyProof.Rows L2
/-- data; mut k: the k-th thing of the store -/
inductive D where
  | non | bl (b : Bool) | int (i : Int) | str (x : Str) | ty (n : String) | fn (n : Str)
  | tup (xs : List D) | lst (xs : List D) | ins (C : Str) (ns : List Str) (xs : List D) | dct (ks : List D) (xs : List D)
  | ob (k : Nat)
  /-- the law's own script: read only -/
  | scr (ns : List Int)
  /-- an exception of an own class -/
  | exc (C : Str) (ns : List Str) (xs : List D)
  /-- a dict of the store that is walked -/
  | dcz (ks : List D) (xs : List D)
  /-- a dict whose keys are tuples -/
  | dtt (ks : List D) (xs : List D)
/-- the things that may change: lst, ins, dct -/
abbrev Sto := List D
abbrev Env := List (Option D)
mutual
def mapMut (g : Nat → Option D) : D → Option D
  | .ob k => g k
  | .tup xs => (mapMuts g xs).map .tup
  | .lst xs => (mapMuts g xs).map .lst
  | .ins C ns xs => (mapMuts g xs).map (.ins C ns)
  | .dct ks xs => (mapMuts g xs).map (.dct ks)
  | .non => some .non
  | .bl b => some (.bl b)
  | .int i => some (.int i)
  | .str x => some (.str x)
  | .ty n => some (.ty n)
  | .fn n => some (.fn n)
  | .scr ns => some (.scr ns)
  | .exc C ns xs => (mapMuts g xs).map (.exc C ns)
  | .dcz ks xs => (mapMuts g xs).map (.dcz ks)
  | .dtt ks xs => (mapMuts g xs).map (.dtt ks)
def mapMuts (g : Nat → Option D) : List D → Option (List D)
  | [] => some []
  | x :: xs => match mapMut g x with
    | some a => (mapMuts g xs).map (a :: ·)
    | none => none
end
mutual
def muts : D → List Nat
  | .ob k => [k]
  | .tup xs => mutsL xs
  | .lst xs => mutsL xs
  | .ins _ _ xs => mutsL xs
  | .dct _ xs => mutsL xs
  | .non => []
  | .bl _ => []
  | .int _ => []
  | .str _ => []
  | .ty _ => []
  | .fn _ => []
  | .scr _ => []
  | .exc _ _ xs => mutsL xs
  | .dcz _ xs => mutsL xs
  | .dtt _ xs => mutsL xs
def mutsL : List D → List Nat
  | [] => []
  | x :: xs => muts x ++ mutsL xs
end
mutual
theorem mapMut_id (g : Nat → Option D) : ∀ d : D, (∀ k ∈ muts d, g k = some (.ob k)) → mapMut g d = some d
  | .ob k, h => by unfold mapMut; exact h k (by simp [muts])
  | .tup xs, h => by unfold mapMut; rw [mapMuts_id g xs (by simpa [muts] using h)]; rfl
  | .lst xs, h => by unfold mapMut; rw [mapMuts_id g xs (by simpa [muts] using h)]; rfl
  | .ins C ns xs, h => by unfold mapMut; rw [mapMuts_id g xs (by simpa [muts] using h)]; rfl
  | .dct ks xs, h => by unfold mapMut; rw [mapMuts_id g xs (by simpa [muts] using h)]; rfl
  | .non, _ => rfl
  | .bl _, _ => rfl
  | .int _, _ => rfl
  | .str _, _ => rfl
  | .ty _, _ => rfl
  | .fn _, _ => rfl
  | .scr _, _ => rfl
  | .exc C ns xs, h => by unfold mapMut; rw [mapMuts_id g xs (by simpa [muts] using h)]; rfl
  | .dcz ks xs, h => by unfold mapMut; rw [mapMuts_id g xs (by simpa [muts] using h)]; rfl
  | .dtt ks xs, h => by unfold mapMut; rw [mapMuts_id g xs (by simpa [muts] using h)]; rfl
theorem mapMuts_id (g : Nat → Option D) : ∀ xs : List D, (∀ k ∈ mutsL xs, g k = some (.ob k)) → mapMuts g xs = some xs
  | [], _ => rfl
  | x :: xs, h => by
    unfold mapMuts
    rw [mapMut_id g x fun k hk => h k (by simp [mutsL, hk]), mapMuts_id g xs fun k hk => h k (by simp [mutsL, hk])]
    rfl
end
/-- nothing of the store in it -/
def Pu (d : D) : Prop := muts d = []
def PuL (ds : List D) : Prop := mutsL ds = []
theorem Pu.map {d : D} (h : Pu d) (g : Nat → Option D) : mapMut g d = some d := mapMut_id g d fun k hk => by rw [h] at hk; cases hk
theorem PuL.map {ds : List D} (h : PuL ds) (g : Nat → Option D) : mapMuts g ds = some ds := mapMuts_id g ds fun k hk => by rw [h] at hk; cases hk
/-! ### what stands for what -/
def keyD : Key → D
  | .inl i => .int i
  | .inr x => .str x
/-- the address of a def: a global one, or a class's method -/
def fnAd (K : PySem.W.Frag) (f : Str) : Option Str → Addr
  | none => He.ga K f
  | some m => He.ma K (He.ga K f) m
/-- the code object of the function at f -/
def coAd (K : PySem.W.Frag) (f : Addr) : Addr := match K.lookup f with
  | some ⟨_, _, .func fd, _⟩ => (match fd.code with | .ref c => c | _ => 0)
  | _ => 0
/-- its table -/
def taAd (K : PySem.W.Frag) (f : Addr) : Addr := match K.lookup (coAd K f) with
  | some ⟨_, _, .fields vs, _⟩ => (match (vs[11]? : Option Value) with | some (.ref p) => p | _ => 0)
  | _ => 0
/-- code objects of the written part whose table is not in it -/
def codesOf (K : PySem.W.Frag) : List (Addr × Addr) := K.filterMap fun p => match p.2 with
  | ⟨.type t, _, .fields vs, _⟩ => bif t == "code" then (match (vs[11]? : Option Value) with | some (.ref q) => bif (K.lookup q).isNone then some (p.1, q) else none | _ => none) else none
  | _ => none
/-- no table of code objects -/
def NoT (o : HO) : Prop := ∀ ps, o ≠ .tbl ps
section
variable (K : PySem.W.Frag) (φ : Addr → Prop) (ρ : List Addr) (H : Hp)
mutual
inductive VIs : V → D → Prop
  | non : VIs .non .non
  | bl (b : Bool) : VIs (.bl b) (.bl b)
  | int (i : Int) : VIs (.int i) (.int i)
  | str (x : Str) : VIs (.str x) (.str x)
  | ty (n : String) : VIs (.ty n) (.ty n)
  | fn (n : Str) : VIs (.ref (He.ga K n)) (.fn n)
  | obj {a : Addr} {d : D} : At a d → ¬ φ a → VIs (.ref a) d
  | scrF {a : Addr} {ns : List Int} : Rd H a (.lst (ns.map V.int)) → ¬ φ a → VIs (.ref a) (.scr ns)
  | scrW {a : Addr} {ns : List Int} : (∃ (o : Obj) (its : Array Value) (n : Nat), K.lookup a = some o ∧ o.cls = .type "list" ∧ o.dict = none ∧ o.data = .seq its n ∧ its.size ≤ sizeLine ∧ Vals (ns.map V.int) its.toList) → VIs (.ref a) (.scr ns)
  | wrT {a : Addr} {vs : List V} {ds : List D} : (∃ (o : Obj) (its : Array Value) (n : Nat), K.lookup a = some o ∧ o.cls = .type "tuple" ∧ o.data = .seq its n ∧ its.size ≤ sizeLine ∧ Vals vs its.toList) → VsIs vs ds → VIs (.ref a) (.tup ds)
  | ob {k : Nat} {a : Addr} : ρ[k]? = some a → VIs (.ref a) (.ob k)
inductive VsIs : List V → List D → Prop
  | nil : VsIs [] []
  | cons {v : V} {d : D} {vs : List V} {ds : List D} : VIs v d → VsIs vs ds → VsIs (v :: vs) (d :: ds)
inductive At : Addr → D → Prop
  | lst {a : Addr} {vs : List V} {ds : List D} : H a = some (.lst vs) → VsIs vs ds → At a (.lst ds)
  | tup {a : Addr} {vs : List V} {ds : List D} : H a = some (.tup vs) → VsIs vs ds → At a (.tup ds)
  | ins {a dx : Addr} {C : Str} {ns : List Str} {vs : List V} {ds : List D} : H a = some (.ins (He.ga K C) dx (ns.zip vs)) → ns.length = vs.length → VsIs vs ds → At a (.ins C ns ds)
  | dK {a : Addr} {kvs : List (Key × V)} {ds : List D} : H a = some (.dK kvs) → VsIs (kvs.map (·.2)) ds → At a (.dct (kvs.map fun p => keyD p.1) ds)
  | dT {a : Addr} {kvs : List (List Key × V)} {ds : List D} : H a = some (.dT kvs) → VsIs (kvs.map (·.2)) ds → At a (.dtt (kvs.map fun p => .tup (p.1.map keyD)) ds)
  | exc {a dx : Addr} {C : Str} {ns : List Str} {vs : List V} {ds : List D} : H a = some (exo a (He.ga K C) (some dx)) → H dx = some (exd dx (ns.zip vs)) → ¬ φ dx → ns.length = vs.length → VsIs vs ds → At a (.exc C ns ds)
  | exc0 {a : Addr} {C : Str} : H a = some (exo a (He.ga K C) none) → At a (.exc C [] [])
  | dZ {a : Addr} {o : Obj} {kvs : List (Key × V)} {ds : List D} : H a = some (.frz o (.dK kvs)) → VsIs (kvs.map (·.2)) ds → At a (.dcz (kvs.map fun p => keyD p.1) ds)
end
end
section
variable {K : PySem.W.Frag} {φ φ' : Addr → Prop} {ρ ρ' : List Addr} {H H' : Hp}
/-- the same, or both tables -/
def Sm (o o' : HO) : Prop := o' = o ∨ ∃ ps ps', o = .tbl ps ∧ o' = .tbl ps'
theorem Sm.trans {a b c : HO} (x : Sm a b) (y : Sm b c) : Sm a c := by
  rcases x with rfl | ⟨p, q, rfl, rfl⟩
  · exact y
  · rcases y with rfl | ⟨p', q', e, rfl⟩
    · exact .inr ⟨p, q, rfl, rfl⟩
    · exact .inr ⟨p, q', rfl, rfl⟩
/-- not of the store, or walked -/
def Hd (ρ : List Addr) (x : Addr) (o : HO) : Prop := x ∉ ρ ∨ ∃ q u, o = .frz q u
theorem Hd.sm {ρ ρ' : List Addr} {x : Addr} {o o' : HO} (h : Hd ρ x o) (s : Sm o o') (k : x ∉ ρ → x ∉ ρ') : Hd ρ' x o' := by
  rcases h with h | ⟨q, u, rfl⟩
  · exact .inl (k h)
  · rcases s with rfl | ⟨_, _, e, _⟩
    · exact .inr ⟨q, u, rfl⟩
    · cases e
def Kp (ρ : List Addr) (H H' : Hp) : Prop := ∀ x o, Hd ρ x o → H x = some o → ∃ o', H' x = some o' ∧ Sm o o'
theorem Kp.frz {ρ : List Addr} {H H' : Hp} (k : Kp ρ H H') {x : Addr} {q : Obj} {u : HO} (h : H x = some (.frz q u)) : H' x = some (.frz q u) := by
  obtain ⟨o', h1, h2⟩ := k x _ (.inr ⟨q, u, rfl⟩) h
  rcases h2 with e | ⟨_, _, e, _⟩
  · rw [h1, e]
  · cases e
theorem Kp.no (k : Kp ρ H H') {x : Addr} {o : HO} (hx : x ∉ ρ) (n : NoT o) (h : H x = some o) : H' x = some o := by
  obtain ⟨o', h1, h2⟩ := k x o (.inl hx) h
  rcases h2 with e | ⟨p, q, e, _⟩
  · rw [h1, e]
  · exact absurd e (n p)
theorem Kp.of (h : ∀ x o, Hd ρ x o → H x = some o → H' x = some o) : Kp ρ H H' := fun x o hx e => ⟨o, h x o hx e, .inl rfl⟩
/-- the way of a value from one state to another: the store's places by g -/
structure Way (φ φ' : Addr → Prop) (ρ ρ' : List Addr) (H H' : Hp) (g : Nat → Option D) : Prop where
  free : ∀ a, ¬ φ a → (∃ o, H a = some o) → ¬ φ' a
  keep : ∀ a o, ¬ φ a → NoT o → H a = some o → H' a = some o
  go : ∀ k a d, ρ[k]? = some a → g k = some d → VIs K φ' ρ' H' (.ref a) d
mutual
theorem VIs.way {g : Nat → Option D} (w : Way (K := K) φ φ' ρ ρ' H H' g) : ∀ {v : V} {d d' : D}, VIs K φ ρ H v d → mapMut g d = some d' → VIs K φ' ρ' H' v d'
  | _, _, d', .non, e => by cases e; exact .non
  | _, _, d', .bl b, e => by cases e; exact .bl b
  | _, _, d', .int b, e => by cases e; exact .int b
  | _, _, d', .str b, e => by cases e; exact .str b
  | _, _, d', .ty b, e => by cases e; exact .ty b
  | _, _, d', .fn b, e => by cases e; exact .fn b
  | _, _, d', .obj h n, e => by
    obtain ⟨o, ho, h'⟩ := At.way w h (fun o no ho => w.keep _ o n no ho) e
    exact .obj h' (w.free _ n ⟨o, ho⟩)
  | _, _, d', .scrF h n, e => by
    cases e
    rcases h with h | ⟨o, h⟩
    · exact .scrF (.inl (w.keep _ _ n (fun _ z => nomatch z) h)) (w.free _ n ⟨_, h⟩)
    · exact .scrF (.inr ⟨o, w.keep _ _ n (fun _ z => nomatch z) h⟩) (w.free _ n ⟨_, h⟩)
  | _, _, d', .scrW h, e => by cases e; exact .scrW h
  | _, _, d', .wrT h t, e => by
    unfold mapMut at e
    cases q : mapMuts g _ with
    | none => rw [q] at e; cases e
    | some ds' => rw [q] at e; cases e; exact .wrT h (VsIs.way w t q)
  | _, _, d', .ob h, e => w.go _ _ _ h e
theorem VsIs.way {g : Nat → Option D} (w : Way (K := K) φ φ' ρ ρ' H H' g) : ∀ {vs : List V} {ds ds' : List D}, VsIs K φ ρ H vs ds → mapMuts g ds = some ds' → VsIs K φ' ρ' H' vs ds'
  | _, _, _, .nil, e => by cases e; exact .nil
  | _, _, ds', .cons h t, e => by
    unfold mapMuts at e
    cases q : mapMut g _ with
    | none => rw [q] at e; cases e
    | some d' =>
      rw [q] at e
      cases r : mapMuts g _ with
      | none => rw [r] at e; cases e
      | some es => rw [r] at e; cases e; exact .cons (VIs.way w h q) (VsIs.way w t r)
theorem At.way {g : Nat → Option D} (w : Way (K := K) φ φ' ρ ρ' H H' g) : ∀ {a : Addr} {d d' : D}, At K φ ρ H a d → (∀ o, NoT o → H a = some o → H' a = some o) → mapMut g d = some d' → ∃ o, H a = some o ∧ At K φ' ρ' H' a d'
  | _, _, d', .lst h t, n, e => by
    unfold mapMut at e
    cases q : mapMuts g _ with
    | none => rw [q] at e; cases e
    | some ds' => rw [q] at e; cases e; exact ⟨_, h, .lst (n _ (fun _ z => nomatch z) h) (VsIs.way w t q)⟩
  | _, _, d', .tup h t, n, e => by
    unfold mapMut at e
    cases q : mapMuts g _ with
    | none => rw [q] at e; cases e
    | some ds' => rw [q] at e; cases e; exact ⟨_, h, .tup (n _ (fun _ z => nomatch z) h) (VsIs.way w t q)⟩
  | _, _, d', .ins h l t, n, e => by
    unfold mapMut at e
    cases q : mapMuts g _ with
    | none => rw [q] at e; cases e
    | some ds' => rw [q] at e; cases e; exact ⟨_, h, .ins (n _ (fun _ z => nomatch z) h) l (VsIs.way w t q)⟩
  | _, _, d', .dK h t, n, e => by
    unfold mapMut at e
    cases q : mapMuts g _ with
    | none => rw [q] at e; cases e
    | some ds' => rw [q] at e; cases e; exact ⟨_, h, .dK (n _ (fun _ z => nomatch z) h) (VsIs.way w t q)⟩
  | _, _, d', .dT h t, n, e => by
    unfold mapMut at e
    cases q : mapMuts g _ with
    | none => rw [q] at e; cases e
    | some ds' => rw [q] at e; cases e; exact ⟨_, h, .dT (n _ (fun _ z => nomatch z) h) (VsIs.way w t q)⟩
  | _, _, d', .exc h hd nf l t, n, e => by
    unfold mapMut at e
    cases q : mapMuts g _ with
    | none => rw [q] at e; cases e
    | some ds' => rw [q] at e; cases e; exact ⟨_, h, .exc (n _ (fun _ z => nomatch z) h) (w.keep _ _ nf (fun _ z => nomatch z) hd) (w.free _ nf ⟨_, hd⟩) l (VsIs.way w t q)⟩
  | _, _, d', .exc0 h, n, e => by
    unfold mapMut mapMuts at e
    cases e
    exact ⟨_, h, .exc0 (n _ (fun _ z => nomatch z) h)⟩
  | _, _, d', .dZ h t, n, e => by
    unfold mapMut at e
    cases q : mapMuts g _ with
    | none => rw [q] at e; cases e
    | some ds' => rw [q] at e; cases e; exact ⟨_, h, .dZ (n _ (fun _ z => nomatch z) h) (VsIs.way w t q)⟩
end
end
end Vl

/-! states, outcomes, canonical readings -/
namespace Vl
open PySem PySem.Spec PyProof.Rows L2
structure Ex where
  C : Str
  ns : List Str
  xs : List D
inductive O (α : Type) where
  | bad | ok (a : α) (μ : Sto) | exc (x : Ex) (μ : Sto)
abbrev M (α : Type) := Sto → O α
def M.bind {α β : Type} (m : M α) (f : α → M β) : M β := fun μ => match m μ with
  | .bad => .bad
  | .exc x μ' => .exc x μ'
  | .ok a μ' => f a μ'
def M.pure {α : Type} (a : α) : M α := fun μ => .ok a μ
def M.fail {α : Type} : M α := fun _ => .bad
section
variable (K : PySem.W.Frag)
structure Rep (φ : Addr → Prop) (ρ : List Addr) (μ : Sto) (H : Hp) : Prop where
  nd : ρ.Nodup
  sub : ∀ a ∈ ρ, φ a
  al : ∀ a, φ a → ∃ o, H a = some o
  ok : Paired (At K φ ρ H) ρ μ
  tb : ∀ c ∈ codesOf K, GxR.TabG H c.2
structure Later (φ : Addr → Prop) (ρ : List Addr) (H : Hp) (φ' : Addr → Prop) (ρ' : List Addr) (μ' : Sto) (H' : Hp) : Prop where
  ps : ∃ ps, ρ' = ρ ++ ps ∧ (∀ p ∈ ps, H p = none) ∧ ∀ a, φ' a ↔ φ a ∨ a ∈ ps
  kp : Kp ρ H H'
  rep : Rep K φ' ρ' μ' H'
def OptIs (φ : Addr → Prop) (ρ : List Addr) (H : Hp) : Option V → Option D → Prop
  | _, none => True
  | some v, some d => VIs K φ ρ H v d
  | none, some _ => False
abbrev EnvIs (φ : Addr → Prop) (ρ : List Addr) (H : Hp) : L2.St → Env → Prop := Paired (OptIs K φ ρ H)
/-- an exception in the air: its class, its dict -/
def XIs (φ : Addr → Prop) (ρ : List Addr) (H : Hp) (cls : Value) (dd : Option Addr) (x : Ex) : Prop := cls = .ref (He.ga K x.C) ∧ ∃ d vs, dd = some d ∧ H d = some (.xd (x.ns.zip vs)) ∧ x.ns.length = vs.length ∧ VsIs K φ ρ H vs x.xs
def Post {α β : Type} (R : (Addr → Prop) → List Addr → Hp → β → α → Prop) (φ : Addr → Prop) (ρ : List Addr) (H : Hp) (Q : β → Hp → Prop) (W : XK) : O α → Prop
  | .bad => False
  | .ok d μ' => ∀ φ' ρ' v H', Later K φ ρ H φ' ρ' μ' H' → R φ' ρ' H' v d → Q v H'
  | .exc x μ' => ∀ φ' ρ' H' cls dd, Later K φ ρ H φ' ρ' μ' H' → XIs K φ' ρ' H' cls dd x → W cls dd H'
abbrev RB : (Addr → Prop) → List Addr → Hp → Bool → Bool → Prop := fun _ _ _ b c => b = c
/-- the reading of an expression by its function -/
def tE (W : L2.St → XK) (f : Env → M D) : TE := fun σ H Q => ∃ φ ρ Γ μ, EnvIs K φ ρ H σ Γ ∧ Rep K φ ρ μ H ∧ Post K (VIs K) φ ρ H Q (W σ) (f Γ μ)
def tT (W : L2.St → XK) (f : Env → M Bool) : TT := fun σ H Q => ∃ φ ρ Γ μ, EnvIs K φ ρ H σ Γ ∧ Rep K φ ρ μ H ∧ Post K RB φ ρ H Q (W σ) (f Γ μ)
def tA (W : L2.St → XK) (f : Env → M (List D)) : TA := fun σ H Q => ∃ φ ρ Γ μ, EnvIs K φ ρ H σ Γ ∧ Rep K φ ρ μ H ∧ Post K (VsIs K) φ ρ H Q (W σ) (f Γ μ)
inductive Fl where
  | nx (Γ : Env) | rt (d : D) | bk (Γ : Env) | ct (Γ : Env) | ex (x : Ex) (Γ : Env)
def PostS (φ : Addr → Prop) (ρ : List Addr) (H : Hp) (E : Ends) (W : L2.St → XK) : O Fl → Prop
  | .bad => False
  | .ok (.nx Γ) μ' => ∀ φ' ρ' σ' H', Later K φ ρ H φ' ρ' μ' H' → EnvIs K φ' ρ' H' σ' Γ → E.nx σ' H'
  | .ok (.bk Γ) μ' => ∀ φ' ρ' σ' H', Later K φ ρ H φ' ρ' μ' H' → EnvIs K φ' ρ' H' σ' Γ → E.bk σ' H'
  | .ok (.ct Γ) μ' => ∀ φ' ρ' σ' H', Later K φ ρ H φ' ρ' μ' H' → EnvIs K φ' ρ' H' σ' Γ → E.ct σ' H'
  | .ok (.rt d) μ' => ∀ φ' ρ' v H', Later K φ ρ H φ' ρ' μ' H' → VIs K φ' ρ' H' v d → E.rt v H'
  | .ok (.ex x Γ) μ' => ∀ φ' ρ' σ' H' cls dd, Later K φ ρ H φ' ρ' μ' H' → EnvIs K φ' ρ' H' σ' Γ → XIs K φ' ρ' H' cls dd x → W σ' cls dd H'
  | .exc _ _ => False
def tS (W : L2.St → XK) (F : Env → M Fl) : TS := fun E σ H => ∃ φ ρ Γ μ, EnvIs K φ ρ H σ Γ ∧ Rep K φ ρ μ H ∧ PostS K φ ρ H E W (F Γ μ)
end
section
variable {K : PySem.W.Frag} {φ φ' φ'' : Addr → Prop} {ρ ρ' ρ'' : List Addr} {μ μ' μ'' : Sto} {H H' H'' : Hp}
theorem Kp.rfl' : Kp ρ H H := .of fun _ _ _ h => h
theorem At.noT {a : Addr} {d : D} {o : HO} (h : At K φ ρ H a d) (e : H a = some o) : NoT o := by
  cases h with
  | lst h _ => rw [h] at e; cases e; exact fun _ z => nomatch z
  | tup h _ => rw [h] at e; cases e; exact fun _ z => nomatch z
  | ins h _ _ => rw [h] at e; cases e; exact fun _ z => nomatch z
  | dK h _ => rw [h] at e; cases e; exact fun _ z => nomatch z
  | dT h _ => rw [h] at e; cases e; exact fun _ z => nomatch z
  | exc h _ _ _ _ => rw [h] at e; cases e; exact fun _ z => nomatch z
  | exc0 h => rw [h] at e; cases e; exact fun _ z => nomatch z
  | dZ h _ => rw [h] at e; cases e; exact fun _ z => nomatch z
/-- no thing of the store is a table -/
theorem Rep.noTab (r : Rep K φ ρ μ H) {a : Addr} (ha : a ∈ ρ) {c : Addr × Addr} (hc : c ∈ codesOf K) : a ≠ c.2 := fun z => by
  obtain ⟨ps, h1, _⟩ := r.tb c hc
  have all : ∀ {xs : List Addr} {ys : List D}, Paired (At K φ ρ H) xs ys → a ∈ xs → ∃ d, At K φ ρ H a d := by
    intro xs ys p
    induction p with
    | nil => intro h; cases h
    | cons x t ih =>
      intro h
      rcases List.mem_cons.mp h with h | h
      · exact ⟨_, h ▸ x⟩
      · exact ih h
  obtain ⟨d, hd⟩ := all r.ok ha
  rw [← z] at h1
  exact hd.noT h1 ps rfl
theorem tab_upd (t : ∀ c ∈ codesOf K, GxR.TabG H c.2) {q : Addr} {o : HO} (h : ∀ ps, H q ≠ some (.tbl ps)) : ∀ c ∈ codesOf K, GxR.TabG (upd H q o) c.2 := fun c hc => by
  obtain ⟨ps, h1, h2⟩ := t c hc
  exact ⟨ps, by rw [upd_ne (fun z => h ps (by rw [← z]; exact h1))]; exact h1, h2⟩
theorem Later.refl (r : Rep K φ ρ μ H) : Later K φ ρ H φ ρ μ H := ⟨⟨[], by simp, by simp, by simp⟩, .rfl', r⟩
theorem Later.trans (a : Later K φ ρ H φ' ρ' μ' H') (b : Later K φ' ρ' H' φ'' ρ'' μ'' H'') : Later K φ ρ H φ'' ρ'' μ'' H'' := by
  obtain ⟨ps, e1, n1, f1⟩ := a.ps
  obtain ⟨qs, e2, n2, f2⟩ := b.ps
  have keep : Kp ρ H H'' := fun x o hx hh => by
    obtain ⟨o1, h1, s1⟩ := a.kp x o hx hh
    obtain ⟨o2, h2, s2⟩ := b.kp x o1 (hx.sm s1 fun hx hm => by
      rw [e1] at hm
      rcases List.mem_append.mp hm with hm | hm
      · exact hx hm
      · rw [n1 x hm] at hh; cases hh) h1
    exact ⟨o2, h2, s1.trans s2⟩
  refine ⟨⟨ps ++ qs, by rw [e2, e1, List.append_assoc], fun p hp => ?_, fun x => ?_⟩, keep, b.rep⟩
  · rcases List.mem_append.mp hp with hp | hp
    · exact n1 p hp
    · cases q : H p with
      | none => rfl
      | some o =>
        by_cases hx : p ∈ ρ
        · have := b.rep.nd
          rw [e2, e1] at this
          exact absurd rfl ((List.nodup_append.mp this).2.2 p (List.mem_append_left _ hx) p hp)
        · obtain ⟨o', this, _⟩ := a.kp p o (.inl hx) q
          rw [n2 p hp] at this; cases this
  · rw [f2, f1, List.mem_append]
    constructor
    · rintro ((h | h) | h)
      · exact .inl h
      · exact .inr (.inl h)
      · exact .inr (.inr h)
    · rintro (h | h | h)
      · exact .inl (.inl h)
      · exact .inl (.inr h)
      · exact .inr h
theorem Later.way (r : Rep K φ ρ μ H) (l : Later K φ ρ H φ' ρ' μ' H') : Way (K := K) φ φ' ρ ρ' H H' fun k => some (.ob k) := by
  obtain ⟨ps, e1, n1, f1⟩ := l.ps
  refine ⟨fun a n ⟨o, ho⟩ z => ?_, fun a o n nt h => l.kp.no (fun hm => n (r.sub a hm)) nt h, fun k a d h e => ?_⟩
  · rcases (f1 a).mp z with z | z
    · exact n z
    · rw [n1 a z] at ho; cases ho
  · cases e
    refine .ob ?_
    rw [e1, List.getElem?_append_left (List.getElem?_eq_some_iff.mp h).1]
    exact h
theorem Later.val (r : Rep K φ ρ μ H) (l : Later K φ ρ H φ' ρ' μ' H') {v : V} {d : D} (h : VIs K φ ρ H v d) : VIs K φ' ρ' H' v d := h.way (l.way r) (mapMut_id _ _ fun _ _ => rfl)
theorem Later.vals (r : Rep K φ ρ μ H) (l : Later K φ ρ H φ' ρ' μ' H') {v : List V} {d : List D} (h : VsIs K φ ρ H v d) : VsIs K φ' ρ' H' v d := h.way (l.way r) (mapMuts_id _ _ fun _ _ => rfl)
theorem Later.env (r : Rep K φ ρ μ H) (l : Later K φ ρ H φ' ρ' μ' H') {σ : L2.St} {Γ : Env} (h : EnvIs K φ ρ H σ Γ) : EnvIs K φ' ρ' H' σ Γ := Paired.mapP h fun v d q => by
  cases d with
  | none => cases v <;> trivial
  | some d => cases v with
    | none => exact q
    | some v => exact l.val r q
theorem Post.later {α β : Type} {R : (Addr → Prop) → List Addr → Hp → β → α → Prop} {Q : β → Hp → Prop} {W : XK} {o : O α} (p : Post K R φ ρ H Q W o) (l : Later K φ ρ H φ' ρ' μ' H') : Post K R φ' ρ' H' Q W o := by
  cases o with
  | bad => exact p
  | ok d m => exact fun φ2 ρ2 v H2 l2 h => p φ2 ρ2 v H2 (l.trans l2) h
  | exc x m => exact fun φ2 ρ2 H2 c d l2 h => p φ2 ρ2 H2 c d (l.trans l2) h
theorem PostS.later {E : Ends} {W : L2.St → XK} {o : O Fl} (p : PostS K φ ρ H E W o) (l : Later K φ ρ H φ' ρ' μ' H') : PostS K φ' ρ' H' E W o := by
  cases o with
  | bad => exact p
  | ok d m => cases d with
    | nx Γ => exact fun φ2 ρ2 v H2 l2 h => p φ2 ρ2 v H2 (l.trans l2) h
    | bk Γ => exact fun φ2 ρ2 v H2 l2 h => p φ2 ρ2 v H2 (l.trans l2) h
    | ct Γ => exact fun φ2 ρ2 v H2 l2 h => p φ2 ρ2 v H2 (l.trans l2) h
    | rt Γ => exact fun φ2 ρ2 v H2 l2 h => p φ2 ρ2 v H2 (l.trans l2) h
    | ex x Γ => exact fun φ2 ρ2 σ2 H2 c d l2 h => p φ2 ρ2 σ2 H2 c d (l.trans l2) h
  | exc x m => exact p
end
end Vl

/-! steps; new things; changes of the store -/
namespace Vl
open PySem PySem.Spec PyProof.Rows L2
section
variable {X : Cx} {e : Expr}
theorem _root_.L2.PE.vimp {t t' : TE} (h : PE X e t) (k : ∀ σ H Q, t' σ H Q → t σ H Q) : PE X e t' := ⟨fun pins s σ H Q I q => h.run pins s σ H Q I (k σ H Q q)⟩
theorem _root_.L2.PT.vimp {t t' : TT} (h : PT X e t) (k : ∀ σ H Q, t' σ H Q → t σ H Q) : PT X e t' := ⟨fun pins s σ H Q I q => h.run pins s σ H Q I (k σ H Q q)⟩
theorem _root_.L2.PW.vimp {t t' : TT} (h : PW X e t) (k : ∀ σ H Q, t' σ H Q → t σ H Q) : PW X e t' := ⟨fun wh pins s σ H Q I q => h.run wh pins s σ H Q I (k σ H Q q)⟩
theorem _root_.L2.PA.vimp {es : List Expr} {t t' : TA} (h : PA X es t) (k : ∀ σ H Q, t' σ H Q → t σ H Q) : PA X es t' := ⟨fun ps pins s σ H Q I q => h.run ps pins s σ H Q I (k σ H Q q)⟩
theorem _root_.L2.PS.vimp {st : Stmt} {t t' : TS} (h : PS X st t) (k : ∀ E σ H, t' E σ H → t E σ H) : PS X st t' := ⟨fun pins s σ H E I q => h.run pins s σ H E I (k E σ H q)⟩
theorem _root_.L2.PSs.vimp {st : List Stmt} {t t' : TS} (h : PSs X st t) (k : ∀ E σ H, t' E σ H → t E σ H) : PSs X st t' := ⟨fun pins s σ H E I q => h.run pins s σ H E I (k E σ H q)⟩
theorem OpR.or' {f : Value → Value → Sem Value} {r r' : R2} (h : OpR X f r) (h' : OpR X f r') : OpR X f (fun x y H Q => r x y H Q ∨ r' x y H Q) := fun pins s σ H x y v u Q I rx ry q => q.elim (fun q => h pins s σ H x y v u Q I rx ry q) fun q => h' pins s σ H x y v u Q I rx ry q
end
section
variable {K : PySem.W.Frag} {φ φ' : Addr → Prop} {ρ ρ' : List Addr} {μ μ' : Sto} {H H' : Hp} {σ : L2.St} {Γ : Env} {W : L2.St → XK}
/-! ### one part read, the rest behind it -/
theorem stepE {α β : Type} {R : (Addr → Prop) → List Addr → Hp → β → α → Prop} {Q : β → Hp → Prop} {Q1 : VK} {f : Env → M D} {g : D → M α} (he : EnvIs K φ ρ H σ Γ) (hr : Rep K φ ρ μ H) (p : Post K R φ ρ H Q (W σ) (M.bind (f Γ) g μ))
    (nx : ∀ {d μ1 φ1 ρ1 v H1}, Later K φ ρ H φ1 ρ1 μ1 H1 → EnvIs K φ1 ρ1 H1 σ Γ → VIs K φ1 ρ1 H1 v d → Post K R φ1 ρ1 H1 Q (W σ) (g d μ1) → Q1 v H1) : tE K W f σ H Q1 := by
  refine ⟨φ, ρ, Γ, μ, he, hr, ?_⟩
  unfold M.bind at p
  cases e : f Γ μ with
  | bad => rw [e] at p; exact p
  | exc x m => rw [e] at p; exact p
  | ok d m => rw [e] at p; exact fun φ1 ρ1 v H1 l h => nx l (l.env hr he) h (Post.later p l)
theorem stepA {α β : Type} {R : (Addr → Prop) → List Addr → Hp → β → α → Prop} {Q : β → Hp → Prop} {Q1 : List V → Hp → Prop} {f : Env → M (List D)} {g : List D → M α} (he : EnvIs K φ ρ H σ Γ) (hr : Rep K φ ρ μ H) (p : Post K R φ ρ H Q (W σ) (M.bind (f Γ) g μ))
    (nx : ∀ {d μ1 φ1 ρ1 v H1}, Later K φ ρ H φ1 ρ1 μ1 H1 → EnvIs K φ1 ρ1 H1 σ Γ → VsIs K φ1 ρ1 H1 v d → Post K R φ1 ρ1 H1 Q (W σ) (g d μ1) → Q1 v H1) : tA K W f σ H Q1 := by
  refine ⟨φ, ρ, Γ, μ, he, hr, ?_⟩
  unfold M.bind at p
  cases e : f Γ μ with
  | bad => rw [e] at p; exact p
  | exc x m => rw [e] at p; exact p
  | ok d m => rw [e] at p; exact fun φ1 ρ1 v H1 l h => nx l (l.env hr he) h (Post.later p l)
theorem stepT {α β : Type} {R : (Addr → Prop) → List Addr → Hp → β → α → Prop} {Q : β → Hp → Prop} {Q1 : Bool → Hp → Prop} {f : Env → M Bool} {g : Bool → M α} (he : EnvIs K φ ρ H σ Γ) (hr : Rep K φ ρ μ H) (p : Post K R φ ρ H Q (W σ) (M.bind (f Γ) g μ))
    (nx : ∀ {d μ1 φ1 ρ1 H1}, Later K φ ρ H φ1 ρ1 μ1 H1 → EnvIs K φ1 ρ1 H1 σ Γ → Post K R φ1 ρ1 H1 Q (W σ) (g d μ1) → Q1 d H1) : tT K W f σ H Q1 := by
  refine ⟨φ, ρ, Γ, μ, he, hr, ?_⟩
  unfold M.bind at p
  cases e : f Γ μ with
  | bad => rw [e] at p; exact p
  | exc x m => rw [e] at p; exact p
  | ok d m => rw [e] at p; exact fun φ1 ρ1 v H1 l h => by cases h; exact nx l (l.env hr he) (Post.later p l)
/-! ### ends -/
theorem Post.val {d : D} {v : V} {Q : VK} {W : XK} (r : Rep K φ ρ μ H) (p : Post K (VIs K) φ ρ H Q W (.ok d μ)) (h : VIs K φ ρ H v d) : Q v H := p φ ρ v H (Later.refl r) h
theorem Post.bool {b : Bool} {Q : Bool → Hp → Prop} {W : XK} (r : Rep K φ ρ μ H) (p : Post K RB φ ρ H Q W (.ok b μ)) : Q b H := p φ ρ b H (Later.refl r) rfl
theorem Rep.nfree (r : Rep K φ ρ μ H) {q : Addr} (h : H q = none) : ¬ φ q := fun z => by
  obtain ⟨o, ho⟩ := r.al q z
  rw [ho] at h; cases h
theorem kp_upd {q : Addr} {o : HO} (h : H q = none) : Kp ρ H (upd H q o) := .of fun x u _ hx => by rw [upd_ne (ne_of_none hx h)]; exact hx
/-- contents move where the things themselves stay -/
theorem At.move (r : Rep K φ ρ μ H) (w : Way (K := K) φ φ' ρ ρ' H H' fun k => some (.ob k)) {a : Addr} {d : D} (h : At K φ ρ H a d) (e : H' a = H a) : At K φ' ρ' H' a d := by
  obtain ⟨_, _, h'⟩ := At.way w h (fun o _ ho => by rw [e]; exact ho) (mapMut_id _ _ fun _ _ => rfl)
  exact h'
theorem way_fresh (r : Rep K φ ρ μ H) {q : Addr} {o : HO} (h : H q = none) : Way (K := K) φ φ ρ ρ H (upd H q o) fun k => some (.ob k) :=
  ⟨fun _ n _ => n, fun a u _ _ hu => by rw [upd_ne (ne_of_none hu h)]; exact hu, fun k a d hk e => by cases e; exact .ob hk⟩
theorem Paired.memL {α β : Type} {F : α → β → Prop} : ∀ {xs : List α} {ys : List β}, Paired F xs ys → ∀ {G : α → β → Prop}, (∀ x y, x ∈ xs → F x y → G x y) → Paired G xs ys
  | _, _, .nil, _, _ => .nil
  | _, _, .cons r t, _, h => .cons (h _ _ List.mem_cons_self r) (Paired.memL t fun x y hx => h x y (List.mem_cons_of_mem _ hx))
theorem Rep.fresh (r : Rep K φ ρ μ H) {q : Addr} {o : HO} (h : H q = none) : Rep K φ ρ μ (upd H q o) := by
  refine ⟨r.nd, r.sub, fun a z => ?_, ?_, tab_upd r.tb fun ps z => by rw [h] at z; cases z⟩
  · obtain ⟨u, hu⟩ := r.al a z
    exact ⟨u, by rw [upd_ne (ne_of_none hu h)]; exact hu⟩
  · refine Paired.memL r.ok fun a d ha hd => At.move r (way_fresh r h) hd ?_
    obtain ⟨u, hu⟩ := r.al a (r.sub a ha)
    rw [upd_ne (ne_of_none hu h)]
theorem Later.fresh (r : Rep K φ ρ μ H) {q : Addr} {o : HO} (h : H q = none) : Later K φ ρ H φ ρ μ (upd H q o) := ⟨⟨[], by simp, by simp, by simp⟩, kp_upd h, r.fresh h⟩
/-- a new thing that changes no more -/
theorem Post.newF {d : D} {q : Addr} {o : HO} {Q : VK} {W : XK} (r : Rep K φ ρ μ H) (p : Post K (VIs K) φ ρ H Q W (.ok d μ)) (h : H q = none) (a : At K φ ρ (upd H q o) q d) : Q (.ref q) (upd H q o) := p φ ρ _ _ (Later.fresh r h) (.obj a (r.nfree h))
theorem VsIs.fresh (r : Rep K φ ρ μ H) {q : Addr} {o : HO} (h : H q = none) {vs : List V} {ds : List D} (t : VsIs K φ ρ H vs ds) : VsIs K φ ρ (upd H q o) vs ds := (Later.fresh r h).vals r t
theorem Post.tup {ds : List D} {vs : List V} {q : Addr} {Q : VK} {W : XK} (r : Rep K φ ρ μ H) (p : Post K (VIs K) φ ρ H Q W (.ok (.tup ds) μ)) (t : VsIs K φ ρ H vs ds) (h : H q = none) : Q (.ref q) (upd H q (.tup vs)) := p.newF r h (.tup upd_same (t.fresh r h))
theorem Post.lst {ds : List D} {vs : List V} {q : Addr} {Q : VK} {W : XK} (r : Rep K φ ρ μ H) (p : Post K (VIs K) φ ρ H Q W (.ok (.lst ds) μ)) (t : VsIs K φ ρ H vs ds) (h : H q = none) : Q (.ref q) (upd H q (.lst vs)) := p.newF r h (.lst upd_same (t.fresh r h))
/-- a new thing of the store -/
theorem Later.alloc (r : Rep K φ ρ μ H) {q : Addr} {o : HO} {d : D} (h : H q = none) (a : At K (fun x => φ x ∨ x ∈ [q]) (ρ ++ [q]) (upd H q o) q d) : Later K φ ρ H (fun x => φ x ∨ x ∈ [q]) (ρ ++ [q]) (μ ++ [d]) (upd H q o) := by
  have nq : q ∉ ρ := fun z => r.nfree h (r.sub q z)
  have w : Way (K := K) φ (fun x => φ x ∨ x ∈ [q]) ρ (ρ ++ [q]) H (upd H q o) fun k => some (.ob k) := ⟨fun x n ⟨u, hu⟩ z => z.elim n fun z => ne_of_none hu h (List.mem_singleton.mp z), fun x u _ _ hu => by rw [upd_ne (ne_of_none hu h)]; exact hu, fun k x d hk e => by
    cases e
    exact .ob (by rw [List.getElem?_append_left (List.getElem?_eq_some_iff.mp hk).1]; exact hk)⟩
  refine ⟨⟨[q], rfl, fun p hp => by rw [List.mem_singleton.mp hp]; exact h, fun _ => .rfl⟩, kp_upd h, ⟨?_, ?_, ?_, ?_, tab_upd r.tb fun ps z => by rw [h] at z; cases z⟩⟩
  · exact List.nodup_append.mpr ⟨r.nd, by simp, fun x hx y hy => by rw [List.mem_singleton.mp hy]; exact fun z => nq (z ▸ hx)⟩
  · intro x hx
    rcases List.mem_append.mp hx with hx | hx
    · exact .inl (r.sub x hx)
    · exact .inr hx
  · rintro x (z | z)
    · obtain ⟨u, hu⟩ := r.al x z
      exact ⟨u, by rw [upd_ne (ne_of_none hu h)]; exact hu⟩
    · rw [List.mem_singleton.mp z]; exact ⟨_, upd_same⟩
  · refine Paired.snoc (Paired.memL r.ok fun x d hx hd => At.move r w hd ?_) a
    obtain ⟨u, hu⟩ := r.al x (r.sub x hx)
    rw [upd_ne (ne_of_none hu h)]
theorem Rep.lens (r : Rep K φ ρ μ H) : ρ.length = μ.length := Paired.length r.ok
theorem Post.lstM {ds : List D} {vs : List V} {q : Addr} {Q : VK} {W : XK} (r : Rep K φ ρ μ H) (p : Post K (VIs K) φ ρ H Q W (.ok (.ob μ.length) (μ ++ [.lst ds]))) (t : VsIs K φ ρ H vs ds) (h : H q = none) : Q (.ref q) (upd H q (.lst vs)) := by
  have w : Way (K := K) φ (fun x => φ x ∨ x ∈ [q]) ρ (ρ ++ [q]) H (upd H q (.lst vs)) fun k => some (.ob k) := ⟨fun x n ⟨u, hu⟩ z => z.elim n fun z => ne_of_none hu h (List.mem_singleton.mp z), fun x u _ _ hu => by rw [upd_ne (ne_of_none hu h)]; exact hu, fun k x d hk e => by
    cases e
    exact .ob (by rw [List.getElem?_append_left (List.getElem?_eq_some_iff.mp hk).1]; exact hk)⟩
  exact p _ _ _ _ (Later.alloc r h (.lst upd_same (t.way w (mapMuts_id _ _ fun _ _ => rfl)))) (.ob (by rw [← r.lens]; simp))
theorem Paired.setAt {α β : Type} {F : α → β → Prop} : ∀ {xs : List α} {ys : List β} {k : Nat} {x : α} {y : β}, Paired F xs ys → xs[k]? = some x → F x y → Paired F xs (ys.set k y)
  | _, _, _, _, _, .nil, e, _ => by simp at e
  | _, _, 0, _, _, .cons _ t, e, h => by simp at e; subst e; exact .cons h t
  | _, _, k + 1, _, _, .cons r t, e, h => .cons r (Paired.setAt t (by simpa using e) h)
/-- a thing of the store is written -/
theorem Rep.put (r : Rep K φ ρ μ H) {k : Nat} {q : Addr} {o : HO} {d : D} (hk : ρ[k]? = some q) (a : At K φ ρ (upd H q o) q d) (nf : ∀ o u, H q ≠ some (.frz o u)) : Later K φ ρ H φ ρ (μ.set k d) (upd H q o) := by
  have hq : q ∈ ρ := List.mem_of_getElem? hk
  have w : Way (K := K) φ φ ρ ρ H (upd H q o) fun k => some (.ob k) := ⟨fun _ n _ => n, fun x u n _ hu => by rw [upd_ne (fun (z : x = q) => n (by rw [z]; exact r.sub q hq))]; exact hu, fun k a d hk e => by cases e; exact .ob hk⟩
  refine ⟨⟨[], by simp, by simp, by simp⟩, .of fun x u hx hu => by rw [upd_ne (fun (z : x = q) => hx.elim (fun hx => hx (by rw [z]; exact hq)) fun ⟨o1, u1, e⟩ => nf o1 u1 (by rw [← z, ← e]; exact hu))]; exact hu, ⟨r.nd, r.sub, fun x z => ?_, ?_, fun c hc => ?_⟩⟩
  · by_cases e : x = q
    · exact ⟨o, by rw [e]; exact upd_same⟩
    · obtain ⟨u, hu⟩ := r.al x z
      exact ⟨u, by rw [upd_ne e]; exact hu⟩
  · -- pointwise
    have all : ∀ {xs : List Addr} {ys : List D} {j : Nat}, Paired (At K φ ρ H) xs ys → xs.Nodup → xs[j]? = some q → Paired (At K φ ρ (upd H q o)) xs (ys.set j d) := by
      intro xs ys j p nd hj
      induction p generalizing j with
      | nil => simp at hj
      | @cons x y xs ys h1 h2 ih =>
        have ⟨n1, n2⟩ := List.nodup_cons.mp nd
        cases j with
        | zero =>
          simp at hj
          subst hj
          refine .cons a (Paired.memL h2 fun z e hz he => At.move r w he (upd_ne fun t => n1 (t ▸ hz)))
        | succ j =>
          have hj' : xs[j]? = some q := by simpa using hj
          refine .cons (At.move r w h1 (upd_ne fun t => ?_)) (ih n2 hj')
          exact n1 (t ▸ List.mem_of_getElem? hj')
    exact all r.ok r.nd hk
  · obtain ⟨ps, h1, h2⟩ := r.tb c hc
    exact ⟨ps, by rw [upd_ne (Ne.symm (r.noTab hq hc))]; exact h1, h2⟩
/-! ### looking -/
def look (μ : Sto) : D → D
  | .ob k => (μ[k]?).getD .non
  | d => d
theorem Rep.at (r : Rep K φ ρ μ H) {k : Nat} {a : Addr} {d : D} (hk : ρ[k]? = some a) (hd : μ[k]? = some d) : At K φ ρ H a d := by
  obtain ⟨y, h1, h2⟩ := Ow.Paired.at r.ok hk
  rw [hd] at h1
  cases h1
  exact h2
/-- a thing that is looked at: the address and what stands there -/
theorem VIs.lookL (r : Rep K φ ρ μ H) {v : V} {d : D} {xs : List D} (h : VIs K φ ρ H v d) (e : look μ d = .lst xs) : ∃ a vs, v = .ref a ∧ SqL K H a vs ∧ VsIs K φ ρ H vs xs := by
  cases h with
  | obj h n => cases h with
    | lst h t => cases e; exact ⟨_, _, rfl, SqL.of h, t⟩
    | _ => cases e
  | @ob k a h =>
    have e : (μ[k]?).getD .non = .lst xs := e
    cases q : μ[k]? with
    | none => rw [q] at e; cases e
    | some d =>
      rw [q] at e
      have e : d = .lst xs := e
      subst e
      cases r.at h q with
      | lst h t => exact ⟨_, _, rfl, SqL.of h, t⟩
  | _ => cases e
theorem VIs.lookR (r : Rep K φ ρ μ H) {v : V} {d : D} {xs : List D} (h : VIs K φ ρ H v d) (e : look μ d = .lst xs) : ∃ a vs, v = .ref a ∧ Rd H a (.lst vs) ∧ VsIs K φ ρ H vs xs := by
  cases h with
  | obj h n => cases h with
    | lst h t => cases e; exact ⟨_, _, rfl, .inl h, t⟩
    | _ => cases e
  | @ob k a h =>
    have e : (μ[k]?).getD .non = .lst xs := e
    cases q : μ[k]? with
    | none => rw [q] at e; cases e
    | some d =>
      rw [q] at e
      have e : d = .lst xs := e
      subst e
      cases r.at h q with
      | lst h t => exact ⟨_, _, rfl, .inl h, t⟩
  | _ => cases e
theorem VIs.scrE {v : V} {ns : List Int} (h : VIs K φ ρ H v (.scr ns)) : ∃ a, v = .ref a ∧ SqL K H a (ns.map V.int) := by
  cases h with
  | obj h n => cases h
  | scrF h n => exact ⟨_, rfl, .inl h⟩
  | scrW h => exact ⟨_, rfl, .inr h⟩
theorem scr_is : ∀ ns : List Int, VsIs K φ ρ H (ns.map V.int) (ns.map D.int)
  | [] => .nil
  | n :: ns => .cons (.int n) (scr_is ns)
/-- a list that is read -/
def rdL (μ : Sto) (d : D) : Option (List D) := match d with
  | .scr ns => some (ns.map .int)
  | d => match look μ d with
    | .lst xs => some xs
    | _ => none
theorem VIs.rdL (r : Rep K φ ρ μ H) {v : V} {d : D} {xs : List D} (h : VIs K φ ρ H v d) (e : Vl.rdL μ d = some xs) : ∃ a vs, v = .ref a ∧ SqL K H a vs ∧ VsIs K φ ρ H vs xs := by
  by_cases c : ∃ ns, d = .scr ns
  · obtain ⟨ns, rfl⟩ := c
    cases e
    obtain ⟨a, h1, h2⟩ := h.scrE
    exact ⟨a, _, h1, h2, scr_is ns⟩
  · have e : (match look μ d with | .lst xs => some xs | _ => none) = some xs := by
      cases d <;> first | exact e | exact absurd ⟨_, rfl⟩ c
    cases q : look μ d <;> rw [q] at e <;> cases e
    exact h.lookL r q
theorem VIs.tupE {v : V} {xs : List D} (h : VIs K φ ρ H v (.tup xs)) : ∃ a vs, v = .ref a ∧ SqT K H a vs ∧ VsIs K φ ρ H vs xs := by
  cases h with
  | obj h n => cases h with
    | tup h t => exact ⟨_, _, rfl, SqT.of h, t⟩
  | wrT h t => exact ⟨_, _, rfl, .inr h, t⟩
theorem VsIs.length {vs : List V} {ds : List D} : ∀ (_ : VsIs K φ ρ H vs ds), vs.length = ds.length
  | .nil => rfl
  | .cons _ t => by simp [VsIs.length t]
theorem VsIs.at : ∀ {vs : List V} {ds : List D} {i : Nat} {d : D}, VsIs K φ ρ H vs ds → ds[i]? = some d → ∃ v, vs[i]? = some v ∧ VIs K φ ρ H v d
  | _, _, _, _, .nil, e => by simp at e
  | _, _, 0, _, .cons h t, e => by simp at e; subst e; exact ⟨_, rfl, h⟩
  | _, _, i + 1, _, .cons h t, e => by
    obtain ⟨v, h1, h2⟩ := VsIs.at (i := i) t (by simpa using e)
    exact ⟨v, by simpa using h1, h2⟩
theorem VsIs.append : ∀ {vs us : List V} {ds es : List D}, VsIs K φ ρ H vs ds → VsIs K φ ρ H us es → VsIs K φ ρ H (vs ++ us) (ds ++ es)
  | _, _, _, _, .nil, s => s
  | _, _, _, _, .cons h t, s => .cons h (VsIs.append t s)
theorem VsIs.take : ∀ {vs : List V} {ds : List D} (n : Nat), VsIs K φ ρ H vs ds → VsIs K φ ρ H (vs.take n) (ds.take n)
  | _, _, 0, _ => .nil
  | _, _, _ + 1, .nil => .nil
  | _, _, n + 1, .cons h t => .cons h (VsIs.take n t)
theorem VsIs.drop : ∀ {vs : List V} {ds : List D} (n : Nat), VsIs K φ ρ H vs ds → VsIs K φ ρ H (vs.drop n) (ds.drop n)
  | _, _, 0, h => h
  | _, _, _ + 1, .nil => .nil
  | _, _, n + 1, .cons _ t => VsIs.drop n t
theorem VsIs.set {v : V} {d : D} (h : VIs K φ ρ H v d) : ∀ {vs : List V} {ds : List D} (i : Nat), VsIs K φ ρ H vs ds → VsIs K φ ρ H (vs.set i v) (ds.set i d)
  | _, _, _, .nil => .nil
  | _, _, 0, .cons _ t => .cons h t
  | _, _, i + 1, .cons q t => .cons q (VsIs.set h i t)
theorem VsIs.reverse : ∀ {vs : List V} {ds : List D}, VsIs K φ ρ H vs ds → VsIs K φ ρ H vs.reverse ds.reverse
  | _, _, .nil => .nil
  | _, _, .cons h t => by rw [List.reverse_cons, List.reverse_cons]; exact VsIs.append (VsIs.reverse t) (.cons h .nil)
theorem EnvIs.at {σ : L2.St} {Γ : Env} {i : Nat} {d : D} (h : EnvIs K φ ρ H σ Γ) (e : Γ[i]? = some (some d)) : ∃ v, σ[i]? = some (some v) ∧ VIs K φ ρ H v d := by
  have rev : ∀ {σ : L2.St} {Γ : Env} {i : Nat}, EnvIs K φ ρ H σ Γ → Γ[i]? = some (some d) → ∃ v, σ[i]? = some (some v) ∧ VIs K φ ρ H v d := by
    intro σ Γ i h
    induction h generalizing i with
    | nil => intro e; simp at e
    | @cons o x os xs h1 h2 ih =>
      intro e
      cases i with
      | zero =>
        simp at e
        subst e
        cases o with
        | none => exact h1.elim
        | some v => exact ⟨v, rfl, h1⟩
      | succ i =>
        obtain ⟨v, a, b⟩ := ih (i := i) (by simpa using e)
        exact ⟨v, by simpa using a, b⟩
  exact rev h e
theorem EnvIs.set {σ : L2.St} {Γ : Env} {v : V} {d : D} (h : EnvIs K φ ρ H σ Γ) (x : VIs K φ ρ H v d) (i : Nat) : EnvIs K φ ρ H (σ.set i (some v)) (Γ.set i (some d)) := by
  induction h generalizing i with
  | nil => exact .nil
  | cons h1 h2 ih => cases i with
    | zero => exact .cons x h2
    | succ i => exact .cons h1 (ih i)
theorem EnvIs.setN {σ : L2.St} {Γ : Env} {o : Option V} (h : EnvIs K φ ρ H σ Γ) (i : Nat) : EnvIs K φ ρ H (σ.set i o) (Γ.set i none) := by
  induction h generalizing i with
  | nil => exact .nil
  | cons h1 h2 ih => cases i with
    | zero => exact .cons (by cases o <;> trivial) h2
    | succ i => exact .cons h1 (ih i)
end
end Vl

/-! What expressions and statements compute: plain functions. -/
namespace Vl
open PySem PySem.Spec PyProof.Rows L2
abbrev EF := Env → M D
abbrev TF := Env → M Bool
abbrev AF := Env → M (List D)
abbrev SF := Env → M Fl
def many : Nat := 1000000
theorem many_line {n : Nat} (h : n ≤ many) : n < sizeLine := Nat.lt_of_le_of_lt h (by decide)
def M.get {α : Type} (f : Sto → M α) : M α := fun μ => f μ μ
def M.opt {α : Type} : Option α → M α
  | some a => M.pure a
  | none => M.fail
def M.guard {α : Type} (c : Bool) (m : M α) : M α := bif c then m else M.fail
/-! expressions -/
def eVar (i : Nat) : EF := fun Γ => match Γ[i]? with
  | some (some d) => M.pure d
  | _ => M.fail
def eC (d : D) : EF := fun _ => M.pure d
def eBin (g : D → D → M D) (a b : EF) : EF := fun Γ => M.bind (a Γ) fun x => M.bind (b Γ) fun y => g x y
def eUn (g : D → M D) (a : EF) : EF := fun Γ => M.bind (a Γ) g
def aNil : AF := fun _ => M.pure []
def aCons (a : EF) (r : AF) : AF := fun Γ => M.bind (a Γ) fun x => M.bind (r Γ) fun xs => M.pure (x :: xs)
def eTup (r : AF) : EF := fun Γ => M.bind (r Γ) fun xs => M.guard (decide (xs.length ≤ many)) (M.pure (.tup xs))
/-- a new list: one that changes (m) or not -/
def newL (m : Bool) (xs : List D) : M D := M.guard (decide (xs.length ≤ many)) fun μ => bif m then .ok (.ob μ.length) (μ ++ [.lst xs]) else .ok (.lst xs) μ
def eLst (m : Bool) (r : AF) : EF := fun Γ => M.bind (r Γ) (newL m)
def eCall (f : List D → M D) (r : AF) : EF := fun Γ => M.bind (r Γ) f
def eM (g : D → List D → M D) (o : EF) (r : AF) : EF := fun Γ => M.bind (o Γ) fun x => M.bind (r Γ) fun xs => g x xs
/-! tests -/
def truthD (μ : Sto) (d : D) : Option Bool := match look μ d with
  | .scr ns => some (!ns.isEmpty)
  | .non => some false
  | .bl b => some b
  | .int i => some (i != 0)
  | .str x => bif decide (x.length ≤ many) then some ((x.length : Int) != 0) else none
  | .lst xs => some (!xs.isEmpty)
  | .tup xs => some (!xs.isEmpty)
  | _ => none
def truth (d : D) : M Bool := M.get fun μ => M.opt (truthD μ d)
def tB (a : EF) : TF := fun Γ => M.bind (a Γ) fun x => match x with
  | .bl b => M.pure b
  | _ => M.fail
def tTr (a : EF) : TF := fun Γ => M.bind (a Γ) truth
def tNo (a : TF) : TF := fun Γ => M.bind (a Γ) fun b => M.pure (!b)
def tAnd (a b : TF) : TF := fun Γ => M.bind (a Γ) fun x => bif x then b Γ else M.pure false
def tOr (a b : TF) : TF := fun Γ => M.bind (a Γ) fun x => bif x then M.pure true else b Γ
def eIf (t : TF) (a b : EF) : EF := fun Γ => M.bind (t Γ) fun x => bif x then a Γ else b Γ
def eAnd (a b : EF) : EF := fun Γ => M.bind (a Γ) fun x => M.bind (truth x) fun t => bif t then b Γ else M.pure x
def eOr (a b : EF) : EF := fun Γ => M.bind (a Γ) fun x => M.bind (truth x) fun t => bif t then M.pure x else b Γ
def eNot (a : EF) : EF := fun Γ => M.bind (a Γ) fun x => M.bind (truth x) fun t => M.pure (.bl (!t))
/-! operators on data -/
def intOp (c : Int → Int → Bool) (g : Int → Int → D) : D → D → M D
  | .int a, .int b => M.guard (c a b) (M.pure (g a b))
  | _, _ => M.fail
/-- the first that answers -/
def alt {α : Type} (a b : M α) : M α := fun μ => match a μ with
  | .bad => b μ
  | o => o
def strOp (c : Str → Str → Bool) (g : Str → Str → D) : D → D → M D
  | .str a, .str b => M.guard (c a b) (M.pure (g a b))
  | _, _ => M.fail
def addT : D → D → M D
  | .tup a, .tup b => M.guard (decide (a.length + b.length ≤ many)) (M.pure (.tup (a ++ b)))
  | _, _ => M.fail
/-- lists that stand by themselves (tracked): a new one of both -/
def addL (m : Bool) (x y : D) : M D := M.get fun μ => match look μ x, look μ y with
  | .lst a, .lst b => newL m (a ++ b)
  | _, _ => M.fail
def isN : D → Bool
  | .non => true
  | _ => false
def atD (xs : List D) (i : Int) : M D := M.opt (atI xs i)
def ixD (x y : D) : M D := M.get fun μ => match look μ x, y with
  | .lst xs, .int i => atD xs i
  | .scr ns, .int i => atD (ns.map .int) i
  | .tup xs, .int i => atD xs i
  | .str z, .int i => M.guard (decide (z.length ≤ many)) (M.opt ((atI z.cps.toList i).map fun c => .str ⟨#[c]⟩))
  | _, _ => M.fail
def cutD {α : Type} (xs : List α) (lo hi : Option Int) : List α := (xs.drop (HT.sIx xs.length 0 lo)).take (HT.sIx xs.length xs.length hi - HT.sIx xs.length 0 lo)
abbrev OF := Env → M (Option Int)
def oNo : OF := fun _ => M.pure none
def oSome (a : EF) : OF := fun Γ => M.bind (a Γ) fun x => match x with
  | .int i => M.pure (some i)
  | _ => M.fail
def slD (m : Bool) (x : D) (lo hi : Option Int) : M D := match x with
  | .tup xs => M.pure (.tup (cutD xs lo hi))
  | .str z => M.guard (decide (z.length ≤ many)) (M.pure (.str (cutS z lo hi)))
  | x => M.get fun μ => match rdL μ x with
    | some xs => newL m (cutD xs lo hi)
    | none => M.fail
def eSl (m : Bool) (a : EF) (l h : OF) : EF := fun Γ => M.bind (a Γ) fun x => M.bind (l Γ) fun i => M.bind (h Γ) fun j => slD m x i j
/-! data compared -/
mutual
def toPy : D → Option PyData
  | .non => some .none
  | .bl b => some (.bool b)
  | .int i => some (.int i)
  | .str x => some (.str x)
  | .tup xs => (toPys xs).map .tuple
  | .lst xs => (toPys xs).map .list
  | _ => none
def toPys : List D → Option (List PyData)
  | [] => some []
  | x :: xs => match toPy x with
    | some a => (toPys xs).map (a :: ·)
    | none => none
end
/-- what hangs on the store put in -/
def deep (μ : Sto) : Nat → D → Option D
  | 0, _ => none
  | n + 1, d => mapMut (fun k => (μ[k]?).bind (deep μ n)) d
def eqO (μ : Sto) (x y : D) : Option Bool := do
  let x ← deep μ 20 x
  let y ← deep μ 20 y
  let a ← toPy x
  let b ← toPy y
  bif SeqAt.shaped a && SeqAt.shaped b then some (PyData.eqv a b) else none
def eqD (x y : D) : M Bool := M.get fun μ => M.opt (eqO μ x y)
def bE (g : D → D → M Bool) (n : Bool) : D → D → M D := fun x y => M.bind (g x y) fun b => M.pure (.bl (if n then !b else b))
/-! statements -/
def sSeq (a b : SF) : SF := fun Γ => M.bind (a Γ) fun f => match f with
  | .nx Γ' => b Γ'
  | f => M.pure f
/-- an expression's exception becomes the statement's -/
def up {α : Type} (Γ : Env) (m : M α) (k : α → M Fl) : M Fl := fun μ => match m μ with
  | .bad => .bad
  | .exc x μ' => .ok (.ex x Γ) μ'
  | .ok a μ' => k a μ'
def sNx : SF := fun Γ => M.pure (.nx Γ)
def sBk : SF := fun Γ => M.pure (.bk Γ)
def sCt : SF := fun Γ => M.pure (.ct Γ)
def sRet (a : EF) : SF := fun Γ => up Γ (a Γ) fun d => M.pure (.rt d)
def sRetN : SF := fun _ => M.pure (.rt .non)
def sEx (a : EF) : SF := fun Γ => up Γ (a Γ) fun _ => M.pure (.nx Γ)
def sIf (t : TF) (a b : SF) : SF := fun Γ => up Γ (t Γ) fun c => bif c then a Γ else b Γ
abbrev GF := D → Env → M Env
def gN (i : Nat) : GF := fun d Γ => M.pure (Γ.set i (some d))
def gNil : List D → Env → M Env
  | [], Γ => M.pure Γ
  | _, _ => M.fail
def gCons (g : GF) (r : List D → Env → M Env) : List D → Env → M Env
  | [], _ => M.fail
  | d :: ds, Γ => M.bind (g d Γ) (r ds)
def gTup (n : Nat) (r : List D → Env → M Env) : GF := fun d Γ => match d with
  | .tup xs => M.guard (xs.length == n) (r xs Γ)
  | _ => M.fail
def sAsg (a : EF) (g : GF) : SF := fun Γ => up Γ (a Γ) fun d => up Γ (g d Γ) fun Γ' => M.pure (.nx Γ')
/-! walks -/
inductive Wk where
  /-- items that stand still -/
  | fix (xs : List D)
  /-- the list at the store's place k -/
  | sto (k : Nat)
  /-- lo, lo + 1, .. -/
  | rng (lo : Int) (n : Nat)
abbrev IF := Env → M Wk
def wkD (d : D) : M Wk := M.get fun μ => match d with
  | .lst xs => M.pure (.fix xs)
  | .scr ns => M.pure (.fix (ns.map .int))
  | .tup xs => M.pure (.fix xs)
  | .ob k => match μ[k]? with
    | some (.lst _) => M.pure (.sto k)
    | _ => M.fail
  | _ => M.fail
def iSeq (a : EF) : IF := fun Γ => M.bind (a Γ) wkD
def okRng (i j : Int) : Bool := decide (-(2 ^ 62) ≤ i) && (decide (i < 2 ^ 62) && (decide (-(2 ^ 62) ≤ j) && decide (j < 2 ^ 62)))
def rng1D (xs : List D) : M Wk := match xs with
  | [.int j] => M.guard (okRng 0 j) (M.pure (.rng 0 j.toNat))
  | _ => M.fail
def rng2D (xs : List D) : M Wk := match xs with
  | [.int i, .int j] => M.guard (okRng i j) (M.pure (.rng i (j - i).toNat))
  | _ => M.fail
def iRng (g : List D → M Wk) (r : AF) : IF := fun Γ => M.bind (r Γ) g
/-- a loop over items that stand still -/
def forL (body : D → Env → M Fl) : List D → Env → M Fl
  | [], Γ => M.pure (.nx Γ)
  | x :: xs, Γ => M.bind (body x Γ) fun f => match f with
    | .nx Γ' => forL body xs Γ'
    | .ct Γ' => forL body xs Γ'
    | .bk Γ' => M.pure (.nx Γ')
    | f => M.pure f
/-- over a list of the store, from place i on, m turns at most -/
def forS (body : D → Env → M Fl) (k : Nat) : Nat → Nat → Env → M Fl
  | 0, _, _ => M.fail
  | m + 1, i, Γ => M.get fun μ => match μ[k]? with
    | some (.lst xs) => match xs[i]? with
      | none => M.pure (.nx Γ)
      | some x => M.bind (body x Γ) fun f => match f with
        | .nx Γ' => forS body k m (i + 1) Γ'
        | .ct Γ' => forS body k m (i + 1) Γ'
        | .bk Γ' => M.pure (.nx Γ')
        | f => M.pure f
    | _ => M.fail
def rngL (lo : Int) (n : Nat) : List D := (List.range n).map fun j : Nat => .int (lo + (j : Int))
def forW (body : D → Env → M Fl) (w : Wk) (Γ : Env) : M Fl := match w with
  | .fix xs => forL body xs Γ
  | .rng lo n => forL body (rngL lo n) Γ
  | .sto k => M.get fun μ => match μ[k]? with
    | some (.lst xs) => forS body k (xs.length + 1) 0 Γ
    | _ => M.fail
def sFor (it : IF) (g : GF) (b : SF) : SF := fun Γ => up Γ (it Γ) fun w => forW (fun x Γ => up Γ (g x Γ) b) w Γ
/-- a while of at most n turns -/
def whileN (t : TF) (b : SF) : Nat → Env → M Fl
  | 0, _ => M.fail
  | n + 1, Γ => up Γ (t Γ) fun c => bif c then M.bind (b Γ) (fun f => match f with
    | .nx Γ' => whileN t b n Γ'
    | .ct Γ' => whileN t b n Γ'
    | .bk Γ' => M.pure (.nx Γ')
    | f => M.pure f) else M.pure (.nx Γ)
def sWhile (n : Nat) (t : TF) (b : SF) : SF := whileN t b n
/-! comprehensions -/
def wipeD (Γ : Env) : List Nat → Env
  | [] => Γ
  | v :: vs => (wipeD Γ vs).set v none
def lcL (body : D → M (Option D)) : List D → List D → M (List D)
  | [], acc => M.pure acc
  | x :: xs, acc => M.bind (body x) fun o => match o with
    | some d => M.guard (decide (acc.length < many)) (lcL body xs (acc ++ [d]))
    | none => lcL body xs acc
def lcS (body : D → M (Option D)) (k : Nat) : Nat → Nat → List D → M (List D)
  | 0, _, _ => M.fail
  | m + 1, i, acc => M.get fun μ => match μ[k]? with
    | some (.lst xs) => match xs[i]? with
      | none => M.pure acc
      | some x => M.bind (body x) fun o => match o with
        | some d => M.guard (decide (acc.length < many)) (lcS body k m (i + 1) (acc ++ [d]))
        | none => lcS body k m (i + 1) acc
    | _ => M.fail
def lcW (body : D → M (Option D)) (w : Wk) (acc : List D) : M (List D) := match w with
  | .fix xs => lcL body xs acc
  | .rng lo n => lcL body (rngL lo n) acc
  | .sto k => M.get fun μ => match μ[k]? with
    | some (.lst xs) => lcS body k (xs.length + 1) 0 acc
    | _ => M.fail
def tYesF : TF := fun _ => M.pure true
/-- nothing is raised within -/
def calmM {α : Type} (m : M α) : M α := fun μ => match m μ with
  | .exc _ _ => .bad
  | o => o
def lcB (vs : List Nat) (g : GF) (t : TF) (e : EF) (Γ : Env) (x : D) : M (Option D) := M.bind (g x (wipeD Γ vs)) fun Γ2 => M.bind (calmM (t Γ2)) fun b => bif b then M.bind (calmM (e Γ2)) fun d => M.pure (some d) else M.pure none
def eLc (m : Bool) (vs : List Nat) (it : IF) (g : GF) (t : TF) (e : EF) : EF := fun Γ => M.bind (it Γ) fun w => M.bind (lcW (lcB vs g t e Γ) w []) (newL m)
end Vl

namespace Vl
open PySem PySem.Spec PyProof.Rows L2
section
variable {K : PySem.W.Frag} {φ : Addr → Prop} {ρ : List Addr} {μ μ' : Sto} {H : Hp}
theorem guard_post {α β : Type} {R : (Addr → Prop) → List Addr → Hp → β → α → Prop} {Q : β → Hp → Prop} {W : XK} {c : Bool} {m : M α} (p : Post K R φ ρ H Q W (M.guard c m μ)) : c = true ∧ Post K R φ ρ H Q W (m μ) := by
  cases c with
  | false => exact p.elim
  | true => exact ⟨rfl, p⟩
theorem opt_post {α β : Type} {R : (Addr → Prop) → List Addr → Hp → β → α → Prop} {Q : β → Hp → Prop} {W : XK} {o : Option α} (p : Post K R φ ρ H Q W (M.opt o μ)) : ∃ a, o = some a ∧ Post K R φ ρ H Q W (.ok a μ) := by
  cases o with
  | none => exact p.elim
  | some a => exact ⟨a, rfl, p⟩
/-- an operator's reading by its function -/
def OpF (K : PySem.W.Frag) (r : R2) (g : D → D → M D) : Prop := ∀ {φ : Addr → Prop} {ρ : List Addr} {μ : Sto} {H : Hp} {v w : V} {x y : D} {Q : VK} {W : XK}, Rep K φ ρ μ H → VIs K φ ρ H v x → VIs K φ ρ H w y → Post K (VIs K) φ ρ H Q W (g x y μ) → r v w H Q
def UnF (K : PySem.W.Frag) (r : V → Hp → VK → Prop) (g : D → M D) : Prop := ∀ {φ : Addr → Prop} {ρ : List Addr} {μ : Sto} {H : Hp} {v : V} {x : D} {Q : VK} {W : XK}, Rep K φ ρ μ H → VIs K φ ρ H v x → Post K (VIs K) φ ρ H Q W (g x μ) → r v H Q
def CaF (K : PySem.W.Frag) (r : List V → Hp → VK → Prop) (g : List D → M D) : Prop := ∀ {φ : Addr → Prop} {ρ : List Addr} {μ : Sto} {H : Hp} {v : List V} {x : List D} {Q : VK} {W : XK}, Rep K φ ρ μ H → VsIs K φ ρ H v x → Post K (VIs K) φ ρ H Q W (g x μ) → r v H Q
theorem OpF.or {r r' : R2} {g g' : D → D → M D} (h : OpF K r g) (h' : OpF K r' g') : OpF K (fun x y H Q => r x y H Q ∨ r' x y H Q) (fun x y => alt (g x y) (g' x y)) := by
  intro φ ρ μ H v w x y Q W hr hv hw p
  have p : Post K (VIs K) φ ρ H Q W (alt (g x y) (g' x y) μ) := p
  unfold alt at p
  cases e : g x y μ with
  | bad => rw [e] at p; exact .inr (h' hr hv hw p)
  | ok d m => rw [e] at p; exact .inl (h hr hv hw (by rw [e]; exact p))
  | exc d m => rw [e] at p; exact .inl (h hr hv hw (by rw [e]; exact p))
theorem CaF.or {r r' : List V → Hp → VK → Prop} {g g' : List D → M D} (h : CaF K r g) (h' : CaF K r' g') : CaF K (fun x H Q => r x H Q ∨ r' x H Q) (fun x => alt (g x) (g' x)) := by
  intro φ ρ μ H v x Q W hr hv p
  have p : Post K (VIs K) φ ρ H Q W (alt (g x) (g' x) μ) := p
  unfold alt at p
  cases e : g x μ with
  | bad => rw [e] at p; exact .inr (h' hr hv p)
  | ok d m => rw [e] at p; exact .inl (h hr hv (by rw [e]; exact p))
  | exc d m => rw [e] at p; exact .inl (h hr hv (by rw [e]; exact p))
theorem CallR.or' {X : Cx} {f : Value} {r r' : List V → Hp → VK → Prop} (h : CallR X f r) (h' : CallR X f r') : CallR X f (fun x H Q => r x H Q ∨ r' x H Q) := fun pins s σ H xs us Q I rx q => q.elim (fun q => h pins s σ H xs us Q I rx q) fun q => h' pins s σ H xs us Q I rx q
theorem VIs.intE {v : V} {i : Int} (h : VIs K φ ρ H v (.int i)) : v = .int i := by
  cases h with
  | int => rfl
  | obj h n => cases h
theorem VIs.strE {v : V} {i : Str} (h : VIs K φ ρ H v (.str i)) : v = .str i := by
  cases h with
  | str => rfl
  | obj h n => cases h
theorem VIs.blE {v : V} {i : Bool} (h : VIs K φ ρ H v (.bl i)) : v = .bl i := by
  cases h with
  | bl => rfl
  | obj h n => cases h
theorem VIs.nonE {v : V} (h : VIs K φ ρ H v .non) : v = .non := by
  cases h with
  | non => rfl
  | obj h n => cases h
theorem intOp_inv {c : Int → Int → Bool} {g : Int → Int → D} {x y : D} {α : Type} {Q : VK} {W : XK} (p : Post K (VIs K) φ ρ H Q W (intOp c g x y μ)) : ∃ i j, x = .int i ∧ y = .int j ∧ c i j = true ∧ Post K (VIs K) φ ρ H Q W (.ok (g i j) μ) := by
  cases x <;> first | exact p.elim | skip
  cases y <;> first | exact p.elim | skip
  obtain ⟨a, b⟩ := guard_post p
  exact ⟨_, _, rfl, rfl, a, b⟩
theorem strOp_inv {c : Str → Str → Bool} {g : Str → Str → D} {x y : D} {Q : VK} {W : XK} (p : Post K (VIs K) φ ρ H Q W (strOp c g x y μ)) : ∃ i j, x = .str i ∧ y = .str j ∧ c i j = true ∧ Post K (VIs K) φ ρ H Q W (.ok (g i j) μ) := by
  cases x <;> first | exact p.elim | skip
  cases y <;> first | exact p.elim | skip
  obtain ⟨a, b⟩ := guard_post p
  exact ⟨_, _, rfl, rfl, a, b⟩
theorem of_rI {C : Int → Int → Prop} {c : Int → Int → Bool} {g : Int → Int → Int} (hc : ∀ i j, c i j = true → C i j) : OpF K (rI C fun i j => .int (g i j)) (intOp c fun i j => .int (g i j)) := by
  intro φ ρ μ H v w x y Q W hr hv hw p
  obtain ⟨i, j, rfl, rfl, h, q⟩ := intOp_inv (α := Unit) p
  exact ⟨i, j, hv.intE, hw.intE, hc i j h, q.val hr (.int _)⟩
theorem of_rI0 {g : Int → Int → Int} : OpF K (rI0 fun i j => .int (g i j)) (intOp (fun _ _ => true) fun i j => .int (g i j)) := by
  intro φ ρ μ H v w x y Q W hr hv hw p
  obtain ⟨i, j, rfl, rfl, h, q⟩ := intOp_inv (α := Unit) p
  exact ⟨i, j, hv.intE, hw.intE, q.val hr (.int _)⟩
theorem of_rB0 {g : Int → Int → Bool} : OpF K (rI0 fun i j => .bl (g i j)) (intOp (fun _ _ => true) fun i j => .bl (g i j)) := by
  intro φ ρ μ H v w x y Q W hr hv hw p
  obtain ⟨i, j, rfl, rfl, h, q⟩ := intOp_inv (α := Unit) p
  exact ⟨i, j, hv.intE, hw.intE, q.val hr (.bl _)⟩
end
/-! ### the rules -/
section
variable {X : Cx} {K : PySem.W.Frag} {W : L2.St → XK} {a b c e : Expr} {es : List Expr} {pos : Pos} {fa fb : EF} {r : AF} {ta tb : TF}
theorem fVar (i : Nat) {x : Str} {pos : Pos} (hN : X.N[i]? = some x := by rfl) (hv : Vis X.env.scope x := by first | exact Or.inl rfl | exact Or.inr (Or.inl rfl) | exact Or.inr (Or.inr rfl)) (hd : (x == ("__debug__" : Str)) = false := by decide)
    (hcd : (x == ("__classdict__" : Str)) = false := by decide) : PE X (.Name x pos) (tE K W (eVar i)) := (pe_var hN hv hd hcd).vimp fun σ H Q ⟨φ, ρ, Γ, μ, he, hr, p⟩ => by
  have p : Post K (VIs K) φ ρ H Q (W σ) ((match Γ[i]? with | some (some d) => M.pure d | _ => M.fail) μ) := p
  cases e : Γ[i]? with
  | none => rw [e] at p; exact p.elim
  | some o => cases o with
    | none => rw [e] at p; exact p.elim
    | some d =>
      rw [e] at p
      obtain ⟨v, h1, h2⟩ := he.at e
      exact ⟨v, h1, Post.val hr p h2⟩
theorem fC {e : Expr} {v : V} {d : D} (h : PE X e (tC v)) (hd : ∀ φ ρ H, VIs K φ ρ H v d) : PE X e (tE K W (eC d)) := h.vimp fun σ H Q ⟨φ, ρ, Γ, μ, he, hr, p⟩ => Post.val hr p (hd _ _ _)
theorem fInt {i : Int} {j pos} : PE X (.Constant (.int i) j pos) (tE K W (eC (.int i))) := fC pe_int fun _ _ _ => .int i
theorem fBl {b : Bool} {j pos} : PE X (.Constant (.bool b) j pos) (tE K W (eC (.bl b))) := fC pe_bl fun _ _ _ => .bl b
theorem fNon {j pos} : PE X (.Constant .none j pos) (tE K W (eC .non)) := fC pe_non fun _ _ _ => .non
theorem fStr {x : Str} {j pos} : PE X (.Constant (.str x) j pos) (tE K W (eC (.str x))) := fC pe_str fun _ _ _ => .str x
theorem fGlob {x : Str} (hm : X.mg x = some (.ref (He.ga K x))) (hg : Gl X x := by rfl) (hd : (x == ("__debug__" : Str)) = false := by decide) : PE X (.Name x pos) (tE K W (eC (.fn x))) := fC (pe_glob (v := .ref (He.ga K x)) hg hm rfl hd) fun _ _ _ => .fn x
theorem fBin {op : Operator} {rr : R2} {g : D → D → M D} (ho : OpR X (binaryOp op) rr) (hf : OpF K rr g) (ha : PE X a (tE K W fa)) (hb : PE X b (tE K W fb)) : PE X (.BinOp a op b pos) (tE K W (eBin g fa fb)) := (pe_op ho ha hb).vimp fun σ H Q ⟨φ, ρ, Γ, μ, he, hr, p⟩ =>
  stepE he hr p fun l1 he h1 p => stepE he l1.rep p fun l2 he h2 p => hf l2.rep (l2.val l1.rep h1) h2 p
theorem fUn {op : UnaryOp} {rr : V → Hp → VK → Prop} {g : D → M D} (ho : UnR X (unaryOp op) rr) (hf : UnF K rr g) (ha : PE X a (tE K W fa)) : PE X (.UnaryOp op a pos) (tE K W (eUn g fa)) := (pe_un ho ha).vimp fun σ H Q ⟨φ, ρ, Γ, μ, he, hr, p⟩ =>
  stepE he hr p fun l1 he h1 p => hf l1.rep h1 p
theorem fCmp {op : CmpOp} {rr : R2} {g : D → D → M D} (ho : OpR X (compareOp op) rr) (hf : OpF K rr g) (ha : PE X a (tE K W fa)) (hb : PE X b (tE K W fb)) (hm : behindInMarks op b = false := by rfl) : PE X (.Compare a [op] [b] pos) (tE K W (eBin g fa fb)) := (pe_cmpR ho ha hb hm).vimp fun σ H Q ⟨φ, ρ, Γ, μ, he, hr, p⟩ =>
  stepE he hr p fun l1 he h1 p => stepE he l1.rep p fun l2 he h2 p => hf l2.rep (l2.val l1.rep h1) h2 p
def eCh (g g' : D → D → M D) (a b c : EF) : EF := fun Γ => M.bind (a Γ) fun x => M.bind (b Γ) fun y => M.bind (g x y) fun z => match z with
  | .bl true => M.bind (c Γ) fun w => g' y w
  | .bl false => M.pure (.bl false)
  | _ => M.fail
theorem aNilF : PA X [] (tA K W aNil) := pa_nil.vimp fun σ H Q ⟨φ, ρ, Γ, μ, he, hr, p⟩ => p _ _ _ _ (Later.refl hr) .nil
theorem aConsF (ha : PE X e (tE K W fa)) (hb : PA X es (tA K W r)) (hs : starEach (e :: es) X.env = (false, eval e X.env) :: starEach es X.env := by rfl) : PA X (e :: es) (tA K W (aCons fa r)) := (pa_cons ha hb hs).vimp fun σ H Q ⟨φ, ρ, Γ, μ, he, hr, p⟩ =>
  stepE he hr p fun l1 he h1 p => stepA he l1.rep p fun l2 he h2 p => p _ _ _ _ (Later.refl l2.rep) (.cons (l2.val l1.rep h1) h2)
theorem fTup {x1} (h : PA X es (tA K W r)) : PE X (.Tuple es x1 pos) (tE K W (eTup r)) := (pe_tup h).vimp fun σ H Q ⟨φ, ρ, Γ, μ, he, hr, p⟩ =>
  stepA he hr p fun l1 he h1 p => by
    obtain ⟨c, p⟩ := guard_post p
    have c := of_decide_eq_true c
    exact ⟨by rw [h1.length]; exact Nat.le_of_lt (many_line c), fun q hq => Post.tup l1.rep p h1 hq⟩
theorem newL_post {φ : Addr → Prop} {ρ : List Addr} {μ : Sto} {H : Hp} {m : Bool} {xs : List D} {vs : List V} {Q : VK} {W : XK} (hr : Rep K φ ρ μ H) (h : VsIs K φ ρ H vs xs) (p : Post K (VIs K) φ ρ H Q W (newL m xs μ)) : vs.length ≤ sizeLine ∧ ∀ q, H q = none → Q (.ref q) (upd H q (.lst vs)) := by
  obtain ⟨c, p⟩ := guard_post p
  have c := of_decide_eq_true c
  refine ⟨by rw [h.length]; exact Nat.le_of_lt (many_line c), fun q hq => ?_⟩
  cases m with
  | true => exact Post.lstM hr p h hq
  | false => exact Post.lst hr p h hq
theorem fLst {m : Bool} (h : PA X es (tA K W r)) : PE X (.List es pos) (tE K W (eLst m r)) := (pe_lst h).vimp fun σ H Q ⟨φ, ρ, Γ, μ, he, hr, p⟩ => stepA he hr p fun l1 he h1 p => newL_post l1.rep h1 p
/-! tests -/
theorem fTB (h : PE X e (tE K W fa)) (he : ∀ whole, isTrue e X.env whole = (do let v ← whole; standAt e.pos; holding [v] (truthy v)) := by intro _; rfl) : PT X e (tT K W (Vl.tB fa)) := (pt_val h he).vimp fun σ H Q ⟨φ, ρ, Γ, μ, he, hr, p⟩ =>
  stepE he hr p fun {d _ _ _ _ _} l1 he h1 p => by
    cases d <;> first | exact p.elim | skip
    exact ⟨_, h1.blE, p.bool l1.rep⟩
theorem truth_at {φ : Addr → Prop} {ρ : List Addr} {H : Hp} {a : Addr} {d : D} {t : Bool} (h : At K φ ρ H a d) (e : truthD [] d = some t) : TruV K (.ref a) H t := by
  cases h with
  | lst h1 h2 => cases e; exact .inl ⟨_, SqL.of h1, by cases h2 <;> rfl⟩
  | tup h1 h2 => cases e; exact .inr (.inl ⟨_, SqT.of h1, by cases h2 <;> rfl⟩)
  | ins h1 h2 h3 => cases e
  | dK h1 h2 => cases e
  | dT h1 h2 => cases e
  | exc h1 h2 h3 h4 h5 => cases e
  | exc0 h1 => cases e
  | dZ h1 h2 => cases e
theorem truth_ok {φ : Addr → Prop} {ρ : List Addr} {μ : Sto} {H : Hp} {v : V} {d : D} {t : Bool} (hr : Rep K φ ρ μ H) (h : VIs K φ ρ H v d) (e : truthD μ d = some t) : TruV K v H t := by
  cases h with
  | non => cases e; rfl
  | bl b => cases e; rfl
  | int i => cases e; rfl
  | str x =>
    have e : (bif decide (x.length ≤ many) then some ((x.length : Int) != 0) else none) = some t := e
    cases c : decide (x.length ≤ many) with
    | false => rw [c] at e; cases e
    | true => rw [c] at e; cases e; exact ⟨Nat.le_of_lt (many_line (of_decide_eq_true c)), rfl⟩
  | ty n => cases e
  | fn n => cases e
  | obj h n => exact truth_at h (by cases h <;> exact e)
  | scrF h n => cases e; exact .inl ⟨_, .inl h, by rw [List.isEmpty_map]⟩
  | scrW h => cases e; exact .inl ⟨_, .inr h, by rw [List.isEmpty_map]⟩
  | wrT h t => cases e; exact .inr (.inl ⟨_, .inr h, by cases t <;> rfl⟩)
  | @ob k a h =>
    cases q : μ[k]? with
    | none =>
      have z : look μ (.ob k) = .non := by show (μ[k]?).getD .non = _; rw [q]; rfl
      obtain ⟨d, hd, hat⟩ := Ow.Paired.at hr.ok h
      rw [q] at hd; cases hd
    | some d =>
      have z : look μ (.ob k) = d := by show (μ[k]?).getD .non = _; rw [q]; rfl
      have hat := hr.at h q
      unfold truthD at e
      rw [z] at e
      exact truth_at hat (by cases hat <;> exact e)
theorem truth_post {α β : Type} {R : (Addr → Prop) → List Addr → Hp → β → α → Prop} {Q : β → Hp → Prop} {W : XK} {φ : Addr → Prop} {ρ : List Addr} {μ : Sto} {H : Hp} {v : V} {d : D} {k : Bool → M α} (hr : Rep K φ ρ μ H) (h : VIs K φ ρ H v d) (p : Post K R φ ρ H Q W (M.bind (truth d) k μ)) : ∃ t, TruV K v H t ∧ Post K R φ ρ H Q W (k t μ) := by
  have p : Post K R φ ρ H Q W (M.bind (fun _ => M.opt (truthD μ d) μ) k μ) := p
  cases e : truthD μ d with
  | none => rw [e] at p; exact p.elim
  | some t => rw [e] at p; exact ⟨t, truth_ok hr h e, p⟩
theorem fTr (h : PE X e (tE K W fa)) (he : ∀ whole, isTrue e X.env whole = (do let v ← whole; standAt e.pos; holding [v] (truthy v)) := by intro _; rfl) (hK : X.K = K := by rfl) : PT X e (tT K W (tTr fa)) := by
  subst hK
  refine (pt_truth h he).vimp fun σ H Q ⟨φ, ρ, Γ, μ, he, hr, p⟩ => stepE he hr p fun {d μ1 φ1 ρ1 v H1} l1 he h1 p => ?_
  have p : Post X.K RB φ1 ρ1 H1 Q (W σ) (M.opt (truthD μ1 d) μ1) := p
  obtain ⟨t, e, p⟩ := opt_post p
  exact ⟨t, truth_ok l1.rep h1 e, p.bool l1.rep⟩
theorem fNo (h : PT X a (tT K W ta)) : PT X (.UnaryOp .Not a pos) (tT K W (tNo ta)) := (pt_not h).vimp fun σ H Q ⟨φ, ρ, Γ, μ, he, hr, p⟩ => stepT he hr p fun l1 he p => p.bool l1.rep
theorem wAnd1 (ha : PT X a (tT K W ta)) : PW X (.BoolOp .And [a] pos) (tT K W ta) := pw_and1 ha
theorem wOr1 (ha : PT X a (tT K W ta)) : PW X (.BoolOp .Or [a] pos) (tT K W ta) := pw_or1 ha
theorem wAnd {rest : List Expr} (ha : PT X a (tT K W ta)) (hb : PW X (.BoolOp .And (b :: rest) pos) (tT K W tb)) : PW X (.BoolOp .And (a :: b :: rest) pos) (tT K W (Vl.tAnd ta tb)) := (pw_and ha hb).vimp fun σ H Q ⟨φ, ρ, Γ, μ, he, hr, p⟩ =>
  stepT he hr p fun {d _ _ _ _} l1 he p => by
    cases d with
    | true => exact iteT ⟨_, _, _, _, he, l1.rep, p⟩
    | false => exact iteF (p.bool l1.rep)
theorem wOr {rest : List Expr} (ha : PT X a (tT K W ta)) (hb : PW X (.BoolOp .Or (b :: rest) pos) (tT K W tb)) : PW X (.BoolOp .Or (a :: b :: rest) pos) (tT K W (Vl.tOr ta tb)) := (pw_or ha hb).vimp fun σ H Q ⟨φ, ρ, Γ, μ, he, hr, p⟩ =>
  stepT he hr p fun {d _ _ _ _} l1 he p => by
    cases d with
    | true => exact iteT (p.bool l1.rep)
    | false => exact iteF ⟨_, _, _, _, he, l1.rep, p⟩
theorem fIf (hc : PT X c (tT K W ta)) (ha : PE X a (tE K W fa)) (hb : PE X b (tE K W fb)) : PE X (.IfExp c a b pos) (tE K W (eIf ta fa fb)) := (pe_ifExp hc ha hb).vimp fun σ H Q ⟨φ, ρ, Γ, μ, he, hr, p⟩ =>
  stepT he hr p fun {d _ _ _ _} l1 he p => by
    cases d with
    | true => exact iteT ⟨_, _, _, _, he, l1.rep, p⟩
    | false => exact iteF ⟨_, _, _, _, he, l1.rep, p⟩
theorem fOne {op} (h : PE X a (tE K W fa)) : PE X (.BoolOp op [a] pos) (tE K W fa) := pe_one h
theorem fAnd {rest : List Expr} (ha : PE X a (tE K W fa)) (hb : PE X (.BoolOp .And (b :: rest) pos) (tE K W fb)) (hK : X.K = K := by rfl) : PE X (.BoolOp .And (a :: b :: rest) pos) (tE K W (eAnd fa fb)) := by
  subst hK
  refine (pe_andT ha hb).vimp fun σ H Q ⟨φ, ρ, Γ, μ, he, hr, p⟩ => stepE he hr p fun l1 he h1 p => ?_
  obtain ⟨t, ht, p⟩ := truth_post l1.rep h1 p
  refine ⟨t, ht, ?_⟩
  cases t with
  | true => exact iteT ⟨_, _, _, _, he, l1.rep, p⟩
  | false => exact iteF (Post.val l1.rep p h1)
theorem fOr {rest : List Expr} (ha : PE X a (tE K W fa)) (hb : PE X (.BoolOp .Or (b :: rest) pos) (tE K W fb)) (hK : X.K = K := by rfl) : PE X (.BoolOp .Or (a :: b :: rest) pos) (tE K W (eOr fa fb)) := by
  subst hK
  refine (pe_orT ha hb).vimp fun σ H Q ⟨φ, ρ, Γ, μ, he, hr, p⟩ => stepE he hr p fun l1 he h1 p => ?_
  obtain ⟨t, ht, p⟩ := truth_post l1.rep h1 p
  refine ⟨t, ht, ?_⟩
  cases t with
  | true => exact iteT (Post.val l1.rep p h1)
  | false => exact iteF ⟨_, _, _, _, he, l1.rep, p⟩
theorem fNot (ha : PE X a (tE K W fa)) (hK : X.K = K := by rfl) : PE X (.UnaryOp .Not a pos) (tE K W (eNot fa)) := by
  subst hK
  refine (pe_notT ha).vimp fun σ H Q ⟨φ, ρ, Γ, μ, he, hr, p⟩ => stepE he hr p fun l1 he h1 p => ?_
  obtain ⟨t, ht, p⟩ := truth_post l1.rep h1 p
  exact ⟨t, ht, Post.val l1.rep p (.bl _)⟩
/-- a comparison as a test -/
theorem fTC {op : CmpOp} {rr : R2} {g : D → D → M D} (ho : OpR X (compareOp op) rr) (hf : OpF K rr g) (ha : PE X a (tE K W fa)) (hb : PE X b (tE K W fb)) (hm : behindInMarks op b = false := by rfl) : PT X (.Compare a [op] [b] pos) (tT K W (Vl.tB (eBin g fa fb))) := (pt_cmpR ho ha hb hm).vimp fun σ H Q ⟨φ, ρ, Γ, μ, he, hr, p⟩ => by
  have p : Post K RB φ ρ H Q (W σ) (M.bind (eBin g fa fb Γ) (fun x => match x with | .bl b => M.pure b | _ => M.fail) μ) := p
  have z : tE K W (eBin g fa fb) σ H (fun x H' => ∃ k, x = .bl k ∧ Q k H') := stepE he hr p fun {d _ _ _ _ _} l he h p => by
    cases d <;> first | exact p.elim | skip
    exact ⟨_, h.blE, p.bool l.rep⟩
  obtain ⟨φ, ρ, Γ, μ, he, hr, p⟩ := z
  exact stepE he hr p fun l1 he h1 p => stepE he l1.rep p fun l2 he h2 p => hf l2.rep (l2.val l1.rep h1) h2 p
end
end Vl

namespace Vl
open PySem PySem.Spec PyProof.Rows L2
section
variable (K : PySem.W.Frag)
def PostG (φ : Addr → Prop) (ρ : List Addr) (H : Hp) (Q : L2.St → Hp → Prop) : O Env → Prop
  | .ok Γ μ' => ∀ φ' ρ' σ' H', Later K φ ρ H φ' ρ' μ' H' → EnvIs K φ' ρ' H' σ' Γ → Q σ' H'
  | _ => False
/-- a target's reading by its function -/
def tG (g : GF) : TG := fun v σ H Q => ∃ φ ρ Γ μ d, EnvIs K φ ρ H σ Γ ∧ Rep K φ ρ μ H ∧ VIs K φ ρ H v d ∧ PostG K φ ρ H Q (g d Γ μ)
def tGs (g : List D → Env → M Env) : TGs := fun vs σ H Q => ∃ φ ρ Γ μ ds, EnvIs K φ ρ H σ Γ ∧ Rep K φ ρ μ H ∧ VsIs K φ ρ H vs ds ∧ PostG K φ ρ H Q (g ds Γ μ)
end
theorem _root_.L2.PG.vimp {X : Cx} {e : Expr} {t t' : TG} (h : PG X e t) (k : ∀ v σ H Q, t' v σ H Q → t v σ H Q) : PG X e t' := ⟨fun pins s σ H v u Q I r q => h.run pins s σ H v u Q I r (k v σ H Q q)⟩
theorem _root_.L2.PGs.vimp {X : Cx} {e : List Expr} {t t' : TGs} (h : PGs X e t) (k : ∀ v σ H Q, t' v σ H Q → t v σ H Q) : PGs X e t' := ⟨fun pins s σ H v u Q I r q => h.run pins s σ H v u Q I r (k v σ H Q q)⟩
theorem _root_.L2.PI.vimp {X : Cx} {tg e : Expr} {t t' : TI} (h : PI X tg e t) (k : ∀ σ H Q, t' σ H Q → t σ H Q) : PI X tg e t' := ⟨fun pins s σ H Q I q => h.run pins s σ H Q I (k σ H Q q)⟩
section
variable {K : PySem.W.Frag} {φ φ' : Addr → Prop} {ρ ρ' : List Addr} {μ μ' : Sto} {H H' : Hp} {σ : L2.St} {Γ : Env} {W : L2.St → XK} {E : Ends}
theorem PostG.later {Q : L2.St → Hp → Prop} {o : O Env} (p : PostG K φ ρ H Q o) (l : Later K φ ρ H φ' ρ' μ' H') : PostG K φ' ρ' H' Q o := by
  cases o with
  | bad => exact p
  | ok d m => exact fun φ2 ρ2 v H2 l2 h => p φ2 ρ2 v H2 (l.trans l2) h
  | exc x m => exact p
theorem stepS {f : EF} {g : D → M Fl} {Q1 : VK} (he : EnvIs K φ ρ H σ Γ) (hr : Rep K φ ρ μ H) (p : PostS K φ ρ H E W (up Γ (f Γ) g μ))
    (nx : ∀ {d μ1 φ1 ρ1 v H1}, Later K φ ρ H φ1 ρ1 μ1 H1 → EnvIs K φ1 ρ1 H1 σ Γ → VIs K φ1 ρ1 H1 v d → PostS K φ1 ρ1 H1 E W (g d μ1) → Q1 v H1) : tE K W f σ H Q1 := by
  refine ⟨φ, ρ, Γ, μ, he, hr, ?_⟩
  unfold up at p
  cases e : f Γ μ with
  | bad => rw [e] at p; exact p
  | exc x m => rw [e] at p; exact fun φ1 ρ1 H1 c d l h => p φ1 ρ1 σ H1 c d l (l.env hr he) h
  | ok d m => rw [e] at p; exact fun φ1 ρ1 v H1 l h => nx l (l.env hr he) h (PostS.later p l)
theorem stepST {f : TF} {g : Bool → M Fl} {Q1 : Bool → Hp → Prop} (he : EnvIs K φ ρ H σ Γ) (hr : Rep K φ ρ μ H) (p : PostS K φ ρ H E W (up Γ (f Γ) g μ))
    (nx : ∀ {d μ1 φ1 ρ1 H1}, Later K φ ρ H φ1 ρ1 μ1 H1 → EnvIs K φ1 ρ1 H1 σ Γ → PostS K φ1 ρ1 H1 E W (g d μ1) → Q1 d H1) : tT K W f σ H Q1 := by
  refine ⟨φ, ρ, Γ, μ, he, hr, ?_⟩
  unfold up at p
  cases e : f Γ μ with
  | bad => rw [e] at p; exact p
  | exc x m => rw [e] at p; exact fun φ1 ρ1 H1 c d l h => p φ1 ρ1 σ H1 c d l (l.env hr he) h
  | ok d m => rw [e] at p; exact fun φ1 ρ1 v H1 l h => by cases h; exact nx l (l.env hr he) (PostS.later p l)
/-- a target's own outcome: it never raises -/
def noX {α : Type} : O α → Bool
  | .exc _ _ => false
  | _ => true
end
section
variable {X : Cx} {K : PySem.W.Frag} {W : L2.St → XK} {a b c e o : Expr} {es : List Expr} {st : Stmt} {ss : List Stmt} {pos : Pos} {fa fb : EF} {ta tb : TF} {F G : SF} {g : GF}
theorem ssNil : PSs X [] (tS K W sNx) := pss_nil.vimp fun E σ H ⟨φ, ρ, Γ, μ, he, hr, p⟩ => p _ _ _ _ (Later.refl hr) he
theorem sPass : PS X (.Pass pos) (tS K W sNx) := ps_pass.vimp fun E σ H ⟨φ, ρ, Γ, μ, he, hr, p⟩ => p _ _ _ _ (Later.refl hr) he
theorem sBreak : PS X (.Break pos) (tS K W sBk) := ps_break.vimp fun E σ H ⟨φ, ρ, Γ, μ, he, hr, p⟩ => p _ _ _ _ (Later.refl hr) he
theorem sCont : PS X (.Continue pos) (tS K W sCt) := ps_continue.vimp fun E σ H ⟨φ, ρ, Γ, μ, he, hr, p⟩ => p _ _ _ _ (Later.refl hr) he
theorem ssOne (h : PS X st (tS K W F)) : PSs X [st] (tS K W F) := pss_one h
theorem ssCons (h : PS X st (tS K W F)) (t : PSs X ss (tS K W G)) : PSs X (st :: ss) (tS K W (sSeq F G)) := (pss_cons h t).vimp fun E σ H ⟨φ, ρ, Γ, μ, he, hr, p⟩ => by
  refine ⟨φ, ρ, Γ, μ, he, hr, ?_⟩
  have p : PostS K φ ρ H E W (M.bind (F Γ) (fun f => match f with | .nx Γ' => G Γ' | f => M.pure f) μ) := p
  unfold M.bind at p
  cases e : F Γ μ with
  | bad => rw [e] at p; exact p
  | exc x m => rw [e] at p; exact p
  | ok f m =>
    rw [e] at p
    cases f with
    | nx Γ' => exact fun φ1 ρ1 σ1 H1 l h => ⟨φ1, ρ1, Γ', m, h, l.rep, PostS.later p l⟩
    | rt d => exact p
    | bk d => exact p
    | ct d => exact p
    | ex x d => exact p
theorem sRetF (h : PE X e (tE K W fa)) : PS X (.Return (some e) pos) (tS K W (sRet fa)) := (ps_ret h).vimp fun E σ H ⟨φ, ρ, Γ, μ, he, hr, p⟩ => stepS he hr p fun l he h p => p _ _ _ _ (Later.refl l.rep) h
theorem sRetNF : PS X (.Return none pos) (tS K W sRetN) := ps_retN.vimp fun E σ H ⟨φ, ρ, Γ, μ, he, hr, p⟩ => p _ _ _ _ (Later.refl hr) .non
theorem sExF (h : PE X e (tE K W fa)) (hs : swapsWith e none pos.line X.env = pure false := by rfl) : PS X (.Expr e pos) (tS K W (sEx fa)) := (ps_expr h hs).vimp fun E σ H ⟨φ, ρ, Γ, μ, he, hr, p⟩ => stepS he hr p fun l he h p => p _ _ _ _ (Later.refl l.rep) he
theorem sDoc {x j pos pos'} : PS X (.Expr (.Constant (.str x) j pos) pos') (tS K W sNx) := ps_doc.vimp fun E σ H ⟨φ, ρ, Γ, μ, he, hr, p⟩ => p _ _ _ _ (Later.refl hr) he
theorem sIfF {xs ys : List Stmt} (h : PT X c (tT K W ta)) (hx : PSs X xs (tS K W F)) (hy : PSs X ys (tS K W G)) : PS X (.If c xs ys pos) (tS K W (sIf ta F G)) := (ps_if h hx hy).vimp fun E σ H ⟨φ, ρ, Γ, μ, he, hr, p⟩ => stepST he hr p fun {d _ _ _ _} l he p => by
  cases d with
  | true => exact iteT ⟨_, _, _, _, he, l.rep, p⟩
  | false => exact iteF ⟨_, _, _, _, he, l.rep, p⟩
/-! targets -/
theorem gNF {i : Nat} {x : Str} (hN : X.N.Nodup) (hi : X.N[i]? = some x := by rfl) (hx : Loc X.env.scope x := by first | exact Or.inl rfl | exact Or.inr rfl) (hf : X.fn x = true ∨ X.env.scope.names.lookup x = some .local := by first | exact .inl rfl | exact .inr rfl) : PG X (.Name x pos) (tG K (gN i)) := (pg_name hN hi hx hf).vimp fun v σ H Q ⟨φ, ρ, Γ, μ, d, he, hr, h, p⟩ => p _ _ _ _ (Later.refl hr) (he.set h i)
theorem gNilF : PGs X [] (tGs K Vl.gNil) := pgs_nil.vimp fun v σ H Q ⟨φ, ρ, Γ, μ, d, he, hr, h, p⟩ => by
  cases h with
  | nil => exact ⟨rfl, p _ _ _ _ (Later.refl hr) he⟩
  | cons _ _ => exact p.elim
theorem gConsF {r : List D → Env → M Env} (h1 : PG X e (tG K g)) (h2 : PGs X es (tGs K r)) (hs : (assignEach (e :: es) X.env).map (·.2) = assign e X.env :: (assignEach es X.env).map (·.2) := by rfl) : PGs X (e :: es) (tGs K (Vl.gCons g r)) := (pgs_cons h1 h2 hs).vimp fun v σ H Q ⟨φ, ρ, Γ, μ, d, he, hr, h, p⟩ => by
  cases h with
  | nil => exact p.elim
  | @cons v d vs ds h t =>
    refine ⟨_, _, rfl, φ, ρ, Γ, μ, d, he, hr, h, ?_⟩
    have p : PostG K φ ρ H Q (M.bind (g d Γ) (r ds) μ) := p
    unfold M.bind at p
    cases e : g d Γ μ with
    | bad => rw [e] at p; exact p
    | exc x m => rw [e] at p; exact p
    | ok Γ' m => rw [e] at p; exact fun φ1 ρ1 σ1 H1 l h => ⟨φ1, ρ1, Γ', m, ds, h, l.rep, l.vals hr t, p.later l⟩
theorem gTupF {k n : Nat} {r : List D → Env → M Env} (hs : PGs X es (tGs K r)) (hc : X.calm = true := by rfl) (hn : (assignEach es X.env).length = n := by rfl) (hst : (assignEach es X.env).findIdx? (·.1) = none := by rfl) (hK : X.K = K := by rfl) : PG X (.Tuple es k pos) (tG K (Vl.gTup n r)) := by
  subst hK
  refine (pg_tup hc hs hn hst).vimp fun v σ H Q ⟨φ, ρ, Γ, μ, d, he, hr, h, p⟩ => ?_
  cases d <;> first | exact p.elim | skip
  rename_i xs
  obtain ⟨a, vs, e, q, t⟩ := h.tupE
  have p : PostG X.K φ ρ H Q (M.guard (xs.length == n) (r xs Γ) μ) := p
  cases c : xs.length == n with
  | false => rw [c] at p; exact p.elim
  | true => rw [c] at p; exact ⟨a, vs, e, q, by rw [t.length]; exact beq_iff_eq.mp c, φ, ρ, Γ, μ, xs, he, hr, t, p⟩
theorem sAsgF (h : PE X e (tE K W fa)) (hg : PG X a (tG K g)) (nox : ∀ d Γ μ, noX (g d Γ μ) = true := by intro _ _ _; rfl) (hs : swapsWithSole [a] e pos.line X.env = pure false := by rfl) (hw : swappedStores [a] e X.env = pure none := by rfl)
    (h1 : (assignEach [a] X.env).map (·.2) = [assign a X.env] := by rfl) : PS X (.Assign [a] e pos) (tS K W (sAsg fa g)) := (ps_asg h hg hs hw h1).vimp fun E σ H ⟨φ, ρ, Γ, μ, he, hr, p⟩ => stepS he hr p fun {d μ1 φ1 ρ1 v H1} l he h p => by
  refine ⟨_, _, _, _, _, he, l.rep, h, ?_⟩
  unfold up at p
  have nx := nox d Γ μ1
  cases e : g d Γ μ1 with
  | bad => rw [e] at p; exact p
  | exc x m => rw [e] at nx; cases nx
  | ok d m => rw [e] at p; exact p
/-- x = e (also a comprehension's own way) -/
theorem sSetF {i : Nat} {x : Str} {pos' : Pos} (hN : X.N.Nodup) (h : PE X e (tE K W fa)) (hi : X.N[i]? = some x := by rfl) (hx : Loc X.env.scope x := by first | exact Or.inl rfl | exact Or.inr rfl) (hs : swapsWith e (some (.Name x pos')) pos.line X.env = pure false := by rfl) (hf : X.fn x = true ∨ X.env.scope.names.lookup x = some .local := by first | exact .inl rfl | exact .inr rfl) :
    PS X (.Assign [.Name x pos'] e pos) (tS K W (sAsg fa (gN i))) := (ps_set hN hi hx h hs hf).vimp fun E σ H ⟨φ, ρ, Γ, μ, he, hr, p⟩ => stepS he hr p fun {d _ _ _ v _} l he h p => p _ _ _ _ (Later.refl l.rep) (he.set h i)
/-! walks -/
/-- what a walk yields at turn i, by the store: none: not served; some none: it stops -/
def itm (μ : Sto) : Wk → Nat → Option (Option D)
  | .fix xs, i => some xs[i]?
  | .rng lo n, i => some (if i < n then some (.int (lo + (i : Int))) else none)
  | .sto k, i => match μ[k]? with
    | some (.lst xs) => some xs[i]?
    | _ => none
/-- the iterator J walks as w tells, wherever Z stands -/
structure Wks (K : PySem.W.Frag) (J : It) (w : Wk) (Z : (Addr → Prop) → List Addr → Hp → Prop) : Prop where
  mono : ∀ {φ ρ μ H φ' ρ' μ' H'}, Rep K φ ρ μ H → Z φ ρ H → Later K φ ρ H φ' ρ' μ' H' → Z φ' ρ' H'
  stop : ∀ {φ ρ μ H i}, Rep K φ ρ μ H → Z φ ρ H → itm μ w i = some none → J.stop i H
  way : ∀ {φ φ' : Addr → Prop} {ρ : List Addr} {H H' : Hp}, Z φ ρ H → Way (K := K) φ φ' ρ ρ H H' (fun k => some (.ob k)) → Z φ' ρ H'
  go : ∀ {φ ρ μ H i d}, Rep K φ ρ μ H → Z φ ρ H → itm μ w i = some (some d) → J.go i H ∧ ∀ x H', J.yld i H x H' → Later K φ ρ H φ ρ μ H' ∧ VIs K φ ρ H' x d
/-- a walk's reading by its function -/
def tI (K : PySem.W.Frag) (W : L2.St → XK) (f : IF) : TI := fun σ H R => ∃ φ ρ Γ μ, EnvIs K φ ρ H σ Γ ∧ Rep K φ ρ μ H ∧ (match f Γ μ with
  | .bad => False
  | .exc x μ' => ∀ φ' ρ' H' cls dd, Later K φ ρ H φ' ρ' μ' H' → XIs K φ' ρ' H' cls dd x → W σ cls dd H'
  | .ok w μ' => ∀ φ' ρ' J H' Z, Later K φ ρ H φ' ρ' μ' H' → Wks K J w Z → Z φ' ρ' H' → R J H')
theorem itm_fix_lt {μ : Sto} {xs : List D} {i : Nat} {d : D} (h : itm μ (.fix xs) i = some (some d)) : xs[i]? = some d := Option.some.inj h
theorem PI.or' {tg : Expr} {t t' : TI} (h : PI X tg e t) (h' : PI X tg e t') : PI X tg e (fun σ H R => t σ H R ∨ t' σ H R) := ⟨fun pins s σ H R I q => q.elim (fun q => h.run pins s σ H R I q) fun q => h'.run pins s σ H R I q⟩
theorem lookOb {μ : Sto} {k : Nat} {xs : List D} (h : μ[k]? = some (.lst xs)) : look μ (.ob k) = .lst xs := by show (μ[k]?).getD .non = _; rw [h]; rfl
theorem wks_list {a : Addr} {xs : List D} : Wks K (Itl K a) (.fix xs) fun φ ρ H => VIs K φ ρ H (.ref a) (.lst xs) where
  mono := fun hr h l => l.val hr h
  way := fun h w => VIs.way w h (mapMut_id _ _ fun _ _ => rfl)
  stop := fun {φ ρ μ H i} hr h e => by
    obtain ⟨b, vs, e1, q, t⟩ := h.lookL hr (μ := μ) rfl
    cases e1
    exact ⟨vs, q, by rw [t.length]; exact List.getElem?_eq_none_iff.mp (Option.some.inj e)⟩
  go := fun {φ ρ μ H i d} hr h e => by
    obtain ⟨b, vs, e1, q, t⟩ := h.lookL hr (μ := μ) rfl
    cases e1
    obtain ⟨v, h1, h2⟩ := t.at (Option.some.inj e)
    refine ⟨⟨vs, v, q, h1⟩, fun x H' ⟨e2, hx⟩ => ?_⟩
    subst e2
    have hx := hx vs q
    rw [h1] at hx
    cases hx
    exact ⟨Later.refl hr, h2⟩
theorem wks_scr {a : Addr} {ns : List Int} : Wks K (Itl K a) (.fix (ns.map .int)) fun φ ρ H => VIs K φ ρ H (.ref a) (.scr ns) where
  mono := fun hr h l => l.val hr h
  way := fun h w => VIs.way w h rfl
  stop := fun {φ ρ μ H i} hr h e => by
    obtain ⟨b, e1, q⟩ := h.scrE
    cases e1
    exact ⟨_, q, by
      have := List.getElem?_eq_none_iff.mp (Option.some.inj e)
      simpa using this⟩
  go := fun {φ ρ μ H i d} hr h e => by
    obtain ⟨b, e1, q⟩ := h.scrE
    cases e1
    obtain ⟨v, h1, h2⟩ := (scr_is (K := K) (φ := φ) (ρ := ρ) (H := H) ns).at (Option.some.inj e)
    refine ⟨⟨_, v, q, h1⟩, fun x H' ⟨e2, hx⟩ => ?_⟩
    subst e2
    have hx := hx _ q
    rw [h1] at hx
    cases hx
    exact ⟨Later.refl hr, h2⟩
theorem wks_tup {a : Addr} {xs : List D} : Wks K (Itt K a) (.fix xs) fun φ ρ H => VIs K φ ρ H (.ref a) (.tup xs) where
  mono := fun hr h l => l.val hr h
  way := fun h w => VIs.way w h (mapMut_id _ _ fun _ _ => rfl)
  stop := fun {φ ρ μ H i} hr h e => by
    obtain ⟨b, vs, e1, q, t⟩ := h.tupE
    cases e1
    exact ⟨vs, q, by rw [t.length]; exact List.getElem?_eq_none_iff.mp (Option.some.inj e)⟩
  go := fun {φ ρ μ H i d} hr h e => by
    obtain ⟨b, vs, e1, q, t⟩ := h.tupE
    cases e1
    obtain ⟨v, h1, h2⟩ := t.at (Option.some.inj e)
    refine ⟨⟨vs, v, q, h1⟩, fun x H' ⟨e2, hx⟩ => ?_⟩
    subst e2
    have hx := hx vs q
    rw [h1] at hx
    cases hx
    exact ⟨Later.refl hr, h2⟩
theorem itm_sto {μ : Sto} {k i : Nat} {o : Option D} (h : itm μ (.sto k) i = some o) : ∃ xs, μ[k]? = some (.lst xs) ∧ xs[i]? = o := by
  have h : (match μ[k]? with | some (.lst xs) => some xs[i]? | _ => none) = some o := h
  cases q : μ[k]? with
  | none => rw [q] at h; cases h
  | some d =>
    rw [q] at h
    cases d <;> first | cases h; done | skip
    exact ⟨_, rfl, Option.some.inj h⟩
theorem wks_sto {a : Addr} {k : Nat} : Wks K (Itl K a) (.sto k) fun φ ρ H => VIs K φ ρ H (.ref a) (.ob k) where
  mono := fun hr h l => l.val hr h
  way := fun h w => VIs.way w h (mapMut_id _ _ fun _ _ => rfl)
  stop := fun {φ ρ μ H i} hr h e => by
    obtain ⟨xs, e0, e⟩ := itm_sto e
    obtain ⟨b, vs, e1, q, t⟩ := h.lookL hr (lookOb e0)
    cases e1
    exact ⟨vs, q, by rw [t.length]; exact List.getElem?_eq_none_iff.mp e⟩
  go := fun {φ ρ μ H i d} hr h e => by
    obtain ⟨xs, e0, e⟩ := itm_sto e
    obtain ⟨b, vs, e1, q, t⟩ := h.lookL hr (lookOb e0)
    cases e1
    obtain ⟨v, h1, h2⟩ := t.at e
    refine ⟨⟨vs, v, q, h1⟩, fun x H' ⟨e2, hx⟩ => ?_⟩
    subst e2
    have hx := hx vs q
    rw [h1] at hx
    cases hx
    exact ⟨Later.refl hr, h2⟩
theorem wks_rng {lo : Int} {n : Nat} : Wks K (Itr lo n) (.rng lo n) fun _ _ _ => True where
  mono := fun _ _ _ => trivial
  way := fun _ _ => trivial
  stop := fun {φ ρ μ H i} hr h e => by
    by_cases c : i < n
    · simp [itm, c] at e
    · exact Nat.le_of_not_lt c
  go := fun {φ ρ μ H i d} hr h e => by
    by_cases c : i < n
    · simp [itm, c] at e
      subst e
      refine ⟨c, fun x H' ⟨e2, hx⟩ => ?_⟩
      subst e2 hx
      exact ⟨Later.refl hr, .int _⟩
    · simp [itm, c] at e
/-- for x in a list or a tuple -/
theorem iSeqF {tg : Expr} (h : PE X e (tE K W fa)) (hK : X.K = K := by rfl) : PI X tg e (tI K W (iSeq fa)) := by
  subst hK
  refine (PI.or' (pi_list h) (pi_tup h)).vimp fun σ H R ⟨φ, ρ, Γ, μ, he, hr, p⟩ => ?_
  have p : (match M.bind (fa Γ) wkD μ with
    | .bad => False
    | .exc x μ' => ∀ φ' ρ' H' cls dd, Later X.K φ ρ H φ' ρ' μ' H' → XIs X.K φ' ρ' H' cls dd x → W σ cls dd H'
    | .ok w μ' => ∀ φ' ρ' J H' Z, Later X.K φ ρ H φ' ρ' μ' H' → Wks X.K J w Z → Z φ' ρ' H' → R J H') := p
  unfold M.bind at p
  cases q : fa Γ μ with
  | bad => rw [q] at p; exact p.elim
  | exc x m => rw [q] at p; exact .inl ⟨φ, ρ, Γ, μ, he, hr, by rw [q]; exact p⟩
  | ok d m =>
    rw [q] at p
    cases d with
    | lst xs =>
      refine .inl ⟨φ, ρ, Γ, μ, he, hr, ?_⟩
      rw [q]
      intro φ1 ρ1 v H1 l h1
      obtain ⟨a, vs, e1, sq, t⟩ := h1.lookL l.rep (μ := m) rfl
      subst e1
      exact ⟨a, rfl, ⟨vs, sq⟩, p _ _ _ _ _ l wks_list h1⟩
    | scr ns =>
      refine .inl ⟨φ, ρ, Γ, μ, he, hr, ?_⟩
      rw [q]
      intro φ1 ρ1 v H1 l h1
      obtain ⟨a, e1, sq⟩ := h1.scrE
      subst e1
      exact ⟨a, rfl, ⟨_, sq⟩, p _ _ _ _ _ l wks_scr h1⟩
    | tup xs =>
      refine .inr ⟨φ, ρ, Γ, μ, he, hr, ?_⟩
      rw [q]
      intro φ1 ρ1 v H1 l h1
      obtain ⟨a, vs, e1, sq, t⟩ := h1.tupE
      subst e1
      exact ⟨a, rfl, ⟨vs, sq⟩, p _ _ _ _ _ l wks_tup h1⟩
    | ob k =>
      refine .inl ⟨φ, ρ, Γ, μ, he, hr, ?_⟩
      rw [q]
      intro φ1 ρ1 v H1 l h1
      have p : (match (match m[k]? with
        | some (.lst _) => M.pure (Wk.sto k)
        | _ => M.fail) m with
        | .bad => False
        | .exc x μ' => ∀ φ' ρ' H' cls dd, Later X.K φ ρ H φ' ρ' μ' H' → XIs X.K φ' ρ' H' cls dd x → W σ cls dd H'
        | .ok w μ' => ∀ φ' ρ' J H' Z, Later X.K φ ρ H φ' ρ' μ' H' → Wks X.K J w Z → Z φ' ρ' H' → R J H') := p
      cases e0 : m[k]? with
      | none => rw [e0] at p; exact p.elim
      | some d =>
        rw [e0] at p
        cases d <;> first | exact p.elim | skip
        obtain ⟨a, vs, e1, sq, t⟩ := h1.lookL l.rep (lookOb e0)
        subst e1
        exact ⟨a, rfl, ⟨vs, sq⟩, p _ _ _ _ _ l wks_sto h1⟩
    | _ => exact p.elim
theorem okRng_iff {i j : Int} (h : okRng i j = true) : -(2 ^ 62) ≤ i ∧ i < 2 ^ 62 ∧ -(2 ^ 62) ≤ j ∧ j < 2 ^ 62 := by
  unfold okRng at h
  simp only [Bool.and_eq_true, decide_eq_true_eq] at h
  exact h
def Ok1 {α : Type} (P : α → Sto → Prop) : O α → Prop
  | .ok w μ' => P w μ'
  | _ => False
theorem rng_core {K : PySem.W.Frag} {W : L2.St → XK} {r : AF} {g : List D → M Wk} {σ : L2.St} {H : Hp} {R : It → Hp → Prop} {Q1 : List V → Hp → Prop} (h : tI K W (iRng g r) σ H R)
    (k : ∀ {φ ρ μ H vs xs} {P : Wk → Sto → Prop}, VsIs K φ ρ H vs xs → Ok1 P (g xs μ) → (∀ lo n, P (.rng lo n) μ → R (Itr lo n) H) → Q1 vs H) (nx : ∀ xs μ, noX (g xs μ) = true) (sm : ∀ xs μ w μ', g xs μ = .ok w μ' → μ' = μ) : tA K W r σ H Q1 := by
  obtain ⟨φ, ρ, Γ, μ, he, hr, p⟩ := h
  have p : (match M.bind (r Γ) g μ with
    | .bad => False
    | .exc x μ' => ∀ φ' ρ' H' cls dd, Later K φ ρ H φ' ρ' μ' H' → XIs K φ' ρ' H' cls dd x → W σ cls dd H'
    | .ok w μ' => ∀ φ' ρ' J H' Z, Later K φ ρ H φ' ρ' μ' H' → Wks K J w Z → Z φ' ρ' H' → R J H') := p
  unfold M.bind at p
  refine ⟨φ, ρ, Γ, μ, he, hr, ?_⟩
  cases q : r Γ μ with
  | bad => rw [q] at p; exact p.elim
  | exc x m => rw [q] at p; exact p
  | ok xs m =>
    rw [q] at p
    intro φ1 ρ1 v H1 l h1
    have n1 := nx xs m
    have s1 := sm xs m
    have p : (match g xs m with
      | .bad => False
      | .exc x μ' => ∀ φ' ρ' H' cls dd, Later K φ ρ H φ' ρ' μ' H' → XIs K φ' ρ' H' cls dd x → W σ cls dd H'
      | .ok w μ' => ∀ φ' ρ' J H' Z, Later K φ ρ H φ' ρ' μ' H' → Wks K J w Z → Z φ' ρ' H' → R J H') := p
    refine k (μ := m) (P := fun w μ' => ∀ φ' ρ' J H' Z, Later K φ ρ H φ' ρ' μ' H' → Wks K J w Z → Z φ' ρ' H' → R J H') h1 ?_ fun lo n z => z _ _ _ _ _ l wks_rng trivial
    cases e : g xs m with
    | bad => rw [e] at p; exact p
    | exc x μ' => rw [e] at n1; cases n1
    | ok w μ' => rw [e] at p; exact p
theorem guard_ok {α : Type} {c : Bool} {a : α} {μ : Sto} {P : α → Sto → Prop} (h : Ok1 P (M.guard c (M.pure a) μ)) : c = true ∧ P a μ := by
  cases c with
  | false => exact h.elim
  | true => exact ⟨rfl, h⟩
theorem guard_same {α : Type} {c : Bool} {a w : α} {μ μ' : Sto} (h : M.guard c (M.pure a) μ = .ok w μ') : μ' = μ := by
  cases c with
  | false => cases h
  | true => cases h; rfl
theorem rng1_nx : ∀ xs μ, noX (rng1D xs μ) = true := fun xs μ => by
  unfold rng1D
  split
  · unfold M.guard; cases okRng 0 _ <;> rfl
  · rfl
theorem rng2_nx : ∀ xs μ, noX (rng2D xs μ) = true := fun xs μ => by
  unfold rng2D
  split
  · unfold M.guard; cases okRng _ _ <;> rfl
  · rfl
theorem iRng1F {tg : Expr} {r : AF} {p : Pos} (hm : X.mg "range" = none) (ha : PA X [a] (tA K W r)) (hg : Gl X "range" := by rfl) (hs : starEach [a] X.env = [(false, eval a X.env)] := by rfl) : PI X tg (.Call (.Name "range" p) [a] [] pos) (tI K W (iRng rng1D r)) := by
  refine (pi_range1 hg hm ha hs).vimp fun σ H R h => rng_core h (fun {φ ρ μ H vs xs P} h1 h2 h3 => ?_) rng1_nx fun xs μ w μ' e => ?_
  · match h1, h2 with
    | .nil, h2 => exact h2.elim
    | .cons (d := d) v .nil, h2 =>
      cases d <;> first | exact h2.elim | skip
      rename_i j
      obtain ⟨c, q⟩ := guard_ok (c := okRng 0 j) (a := Wk.rng 0 j.toNat) (P := P) h2
      obtain ⟨_, _, c1, c2⟩ := okRng_iff c
      exact ⟨_, by rw [v.intE], c1, c2, h3 _ _ q⟩
    | .cons (d := d) v (.cons _ _), h2 => cases d <;> exact h2.elim
  · unfold rng1D at e
    split at e
    · exact guard_same e
    · cases e
theorem iRng2F {tg : Expr} {r : AF} {p : Pos} (hm : X.mg "range" = none) (ha : PA X [a, b] (tA K W r)) (hg : Gl X "range" := by rfl) (hs : starEach [a, b] X.env = [(false, eval a X.env), (false, eval b X.env)] := by rfl) (hs2 : starEach [b] X.env = [(false, eval b X.env)] := by rfl) : PI X tg (.Call (.Name "range" p) [a, b] [] pos) (tI K W (iRng rng2D r)) := by
  refine (pi_range2 hg hm ha hs hs2).vimp fun σ H R h => rng_core h (fun {φ ρ μ H vs xs P} h1 h2 h3 => ?_) rng2_nx fun xs μ w μ' e => ?_
  · match h1, h2 with
    | .nil, h2 => exact h2.elim
    | .cons (d := d) v .nil, h2 => cases d <;> exact h2.elim
    | .cons (d := d) v (.cons (d := d2) v2 .nil), h2 =>
      cases d <;> first | exact h2.elim | skip
      cases d2 <;> first | exact h2.elim | skip
      rename_i i j
      obtain ⟨c, q⟩ := guard_ok (c := okRng i j) (a := Wk.rng i (j - i).toNat) (P := P) h2
      exact ⟨_, _, by rw [v.intE, v2.intE], okRng_iff c, h3 _ _ q⟩
    | .cons (d := d) v (.cons (d := d2) v2 (.cons _ _)), h2 =>
      cases d <;> first | exact h2.elim | skip
      cases d2 <;> exact h2.elim
  · unfold rng2D at e
    split at e
    · exact guard_same e
    · cases e
/-! loops -/
/-- the loop from turn i on -/
structure LoopIs (w : Wk) (body : D → Env → M Fl) (n : Nat) (L : Nat → Env → M Fl) : Prop where
  bad : ∀ i Γ μ, itm μ w i = none → L i Γ μ = .bad
  done : ∀ i Γ μ, itm μ w i = some none → L i Γ μ = .ok (.nx Γ) μ ∨ L i Γ μ = .bad
  step : ∀ i Γ μ d, itm μ w i = some (some d) → L i Γ μ = .bad ∨ (i < n ∧ L i Γ μ = M.bind (body d Γ) (fun f => match f with
    | .nx Γ' => L (i + 1) Γ'
    | .ct Γ' => L (i + 1) Γ'
    | .bk Γ' => M.pure (.nx Γ')
    | f => M.pure f) μ)
theorem for_core {w : Wk} {n : Nat} {L : Nat → Env → M Fl} {J : It} {Z : (Addr → Prop) → List Addr → Hp → Prop} {E : Ends} {φ : Addr → Prop} {ρ : List Addr} {Γ : Env} {μ : Sto} {σ : L2.St} {H : Hp} (nox : ∀ d Γ μ, noX (g d Γ μ) = true)
    (hL : LoopIs w (fun x Γ => up Γ (g x Γ) F) n L) (hJ : Wks K J w Z) (hz : Z φ ρ H) (he : EnvIs K φ ρ H σ Γ) (hr : Rep K φ ρ μ H) (p : PostS K φ ρ H E W (L 0 Γ μ)) :
    ∃ Wv : Nat → Nat → L2.St → Hp → Prop, (∃ m, Wv 0 m σ H) ∧ ∀ i m σ H, Wv i m σ H →
  (J.stop i H ∧ E.nx σ H) ∨ (J.go i H ∧ ∃ N : L2.St → Hp → Prop, (∀ σ' H', N σ' H' → ∃ m', m' < m ∧ Wv (i + 1) m' σ' H') ∧ ∀ x H', J.yld i H x H' → tG K g x σ H' fun σ2 H2 => tS K W F { E with nx := N, ct := N, bk := E.nx } σ2 H2) := by
  refine ⟨fun i m σ H => m + i = n + 1 ∧ ∃ φ ρ Γ μ, EnvIs K φ ρ H σ Γ ∧ Rep K φ ρ μ H ∧ Z φ ρ H ∧ PostS K φ ρ H E W (L i Γ μ), ⟨n + 1, rfl, φ, ρ, Γ, μ, he, hr, hz, p⟩, ?_⟩
  rintro i m σ H ⟨hm, φ, ρ, Γ, μ, he, hr, hz, p⟩
  cases e : itm μ w i with
  | none => rw [hL.bad i Γ μ e] at p; exact p.elim
  | some o => cases o with
    | none =>
      rcases hL.done i Γ μ e with e1 | e1
      · rw [e1] at p
        exact .inl ⟨hJ.stop hr hz e, p _ _ _ _ (Later.refl hr) he⟩
      · rw [e1] at p; exact p.elim
    | some d =>
      rcases hL.step i Γ μ d e with e1 | ⟨lt, e1⟩
      · rw [e1] at p; exact p.elim
      · obtain ⟨h1, h2⟩ := hJ.go hr hz e
        rw [e1] at p
        refine .inr ⟨h1, fun σ' H' => ∃ φ ρ Γ μ, EnvIs K φ ρ H' σ' Γ ∧ Rep K φ ρ μ H' ∧ Z φ ρ H' ∧ PostS K φ ρ H' E W (L (i + 1) Γ μ), fun σ' H' q => ⟨m - 1, by omega, by omega, q⟩, fun x H' hy => ?_⟩
        obtain ⟨l1, v1⟩ := h2 x H' hy
        have p1 := PostS.later p l1
        have he1 := l1.env hr he
        have hz1 := hJ.mono hr hz l1
        refine ⟨φ, ρ, Γ, μ, d, he1, l1.rep, v1, ?_⟩
        have nx := nox d Γ μ
        unfold M.bind up at p1
        cases q : g d Γ μ with
        | bad => rw [q] at p1; exact p1.elim
        | exc x m => rw [q] at nx; cases nx
        | ok Γ1 μ1 =>
          rw [q] at p1
          intro φ2 ρ2 σ2 H2 l2 he2
          refine ⟨φ2, ρ2, Γ1, μ1, he2, l2.rep, ?_⟩
          have p2 := PostS.later p1 l2
          have hz2 := hJ.mono l1.rep hz1 l2
          dsimp only at p2
          cases q2 : F Γ1 μ1 with
          | bad => rw [q2] at p2; exact p2.elim
          | exc x m => rw [q2] at p2; exact p2.elim
          | ok f μ2 =>
            rw [q2] at p2
            cases f with
            | nx Γ' => exact fun φ3 ρ3 σ3 H3 l3 he3 => ⟨φ3, ρ3, Γ', μ2, he3, l3.rep, hJ.mono l2.rep hz2 l3, PostS.later p2 l3⟩
            | ct Γ' => exact fun φ3 ρ3 σ3 H3 l3 he3 => ⟨φ3, ρ3, Γ', μ2, he3, l3.rep, hJ.mono l2.rep hz2 l3, PostS.later p2 l3⟩
            | bk Γ' => exact p2
            | rt d => exact p2
            | ex x d => exact p2
theorem loop_fix (body : D → Env → M Fl) (xs : List D) : LoopIs (.fix xs) body xs.length fun i => forL body (xs.drop i) where
  bad := fun i Γ μ e => by cases e
  done := fun i Γ μ e => by
    have : xs.length ≤ i := List.getElem?_eq_none_iff.mp (Option.some.inj e)
    rw [List.drop_eq_nil_of_le this]
    exact .inl rfl
  step := fun i Γ μ d e => by
    have h := Option.some.inj e
    have lt := (List.getElem?_eq_some_iff.mp h).1
    refine .inr ⟨lt, ?_⟩
    have : xs.drop i = d :: xs.drop (i + 1) := by
      rw [List.drop_eq_getElem_cons lt]
      rw [List.getElem?_eq_getElem lt] at h
      rw [Option.some.inj h]
    rw [this]
    rfl
theorem rngL_at {lo : Int} {n i : Nat} (h : i < n) : (rngL lo n)[i]? = some (.int (lo + (i : Int))) := by
  unfold rngL
  rw [List.getElem?_map, List.getElem?_range h]
  rfl
theorem rngL_len {lo : Int} {n : Nat} : (rngL lo n).length = n := by simp [rngL]
theorem loop_rng (body : D → Env → M Fl) (lo : Int) (n : Nat) : LoopIs (.rng lo n) body n fun i => forL body ((rngL lo n).drop i) where
  bad := fun i Γ μ e => by cases e
  done := fun i Γ μ e => by
    have : n ≤ i := by
      by_cases c : i < n
      · simp [itm, c] at e
      · exact Nat.le_of_not_lt c
    rw [List.drop_eq_nil_of_le (by rw [rngL_len]; exact this)]
    exact .inl rfl
  step := fun i Γ μ d e => by
    by_cases c : i < n
    · refine .inr ⟨c, ?_⟩
      simp [itm, c] at e
      subst e
      have h := rngL_at (lo := lo) c
      have lt : i < (rngL lo n).length := by rw [rngL_len]; exact c
      have : (rngL lo n).drop i = .int (lo + (i : Int)) :: (rngL lo n).drop (i + 1) := by
        rw [List.drop_eq_getElem_cons lt]
        rw [List.getElem?_eq_getElem lt] at h
        rw [Option.some.inj h]
      rw [this]
      rfl
    · simp [itm, c] at e
theorem loop_sto (body : D → Env → M Fl) (k n : Nat) : LoopIs (.sto k) body n fun i => forS body k (n - i) i where
  bad := fun i Γ μ e => by
    cases q : n - i with
    | zero => rfl
    | succ m =>
      have e : (match μ[k]? with | some (.lst xs) => some xs[i]? | _ => none) = none := e
      show (match μ[k]? with
        | some (.lst xs) => (match xs[i]? with
          | none => M.pure (Fl.nx Γ)
          | some x => M.bind (body x Γ) _)
        | _ => M.fail) μ = O.bad
      cases r : μ[k]? with
      | none => rfl
      | some d =>
        rw [r] at e
        cases d <;> first | rfl | cases e
  done := fun i Γ μ e => by
    obtain ⟨xs, e0, e⟩ := itm_sto e
    cases q : n - i with
    | zero => exact .inr rfl
    | succ m =>
      refine .inl ?_
      show (match μ[k]? with
        | some (.lst xs) => (match xs[i]? with
          | none => M.pure (Fl.nx Γ)
          | some x => M.bind (body x Γ) _)
        | _ => M.fail) μ = O.ok (Fl.nx Γ) μ
      rw [e0]
      dsimp only
      rw [e]
      rfl
  step := fun i Γ μ d e => by
    obtain ⟨xs, e0, e⟩ := itm_sto e
    cases q : n - i with
    | zero => exact .inl rfl
    | succ m =>
      refine .inr ⟨by omega, ?_⟩
      have e2 : n - (i + 1) = m := by omega
      show (match μ[k]? with
        | some (.lst xs) => (match xs[i]? with
          | none => M.pure (Fl.nx Γ)
          | some x => M.bind (body x Γ) _)
        | _ => M.fail) μ = _
      rw [e0]
      dsimp only
      rw [e, e2]
      all_goals rfl
theorem sForF {tg iter : Expr} {it : IF} {body : List Stmt} (hp : PassesOwn (model X.prog X.w) X.A X.env X.xe) (hi : PI X tg iter (tI K W it)) (hg : PG X tg (tG K g)) (hb : PSs X body (tS K W F)) (nox : ∀ d Γ μ, noX (g d Γ μ) = true := by intro _ _ _; rfl) (hc : X.calm = true := by rfl)
    (hs : ∀ x, foldedSetIterable iter X.env x = pure x := by intro _; rfl) : PS X (.For tg iter body [] pos) (tS K W (sFor it g F)) := (ps_for hp hc hi hg hb hs).vimp fun E σ H ⟨φ, ρ, Γ, μ, he, hr, p⟩ => by
  refine ⟨φ, ρ, Γ, μ, he, hr, ?_⟩
  have p : PostS K φ ρ H E W (up Γ (it Γ) (fun w => forW (fun x Γ => up Γ (g x Γ) F) w Γ) μ) := p
  unfold up at p
  cases q : it Γ μ with
  | bad => rw [q] at p; exact p
  | exc x m => rw [q] at p; exact fun φ1 ρ1 H1 c d l h => p φ1 ρ1 σ H1 c d l (l.env hr he) h
  | ok w m =>
    rw [q] at p
    intro φ1 ρ1 J H1 Z l hJ hz
    have p := PostS.later p l
    have he := l.env hr he
    cases w with
    | fix xs => exact for_core nox (loop_fix _ xs) hJ hz he l.rep (by exact p)
    | rng lo n => exact for_core nox (loop_rng _ lo n) hJ hz he l.rep (by exact p)
    | sto k =>
      have p : PostS K φ1 ρ1 H1 E W ((match m[k]? with
        | some (.lst xs) => forS (fun x Γ => up Γ (g x Γ) F) k (xs.length + 1) 0 Γ
        | _ => M.fail) m) := p
      cases e0 : m[k]? with
      | none => rw [e0] at p; exact p.elim
      | some d =>
        rw [e0] at p
        cases d <;> first | exact p.elim | skip
        rename_i xs
        exact for_core nox (loop_sto _ k (xs.length + 1)) hJ hz he l.rep (by exact p)
theorem sWhileF {body : List Stmt} {n : Nat} (hp : PassesOwn (model X.prog X.w) X.A X.env X.xe) (hc : PT X c (tT K W ta)) (hb : PSs X body (tS K W F)) : PS X (.While c body [] pos) (tS K W (sWhile n ta F)) := (ps_while hp hc hb).vimp fun E σ H ⟨φ, ρ, Γ, μ, he, hr, p⟩ => by
  refine ⟨fun m σ H => ∃ φ ρ Γ μ, EnvIs K φ ρ H σ Γ ∧ Rep K φ ρ μ H ∧ PostS K φ ρ H E W (whileN ta F m Γ μ), ⟨n, φ, ρ, Γ, μ, he, hr, p⟩, ?_⟩
  rintro m σ H ⟨φ, ρ, Γ, μ, he, hr, p⟩
  cases m with
  | zero => exact p.elim
  | succ m =>
    refine stepST he hr p fun {d μ1 φ1 ρ1 H1} l he p => ?_
    cases d with
    | false => exact iteF (p _ _ _ _ (Later.refl l.rep) he)
    | true =>
      refine iteT ⟨fun σ H => ∃ φ ρ Γ μ, EnvIs K φ ρ H σ Γ ∧ Rep K φ ρ μ H ∧ PostS K φ ρ H E W (whileN ta F m Γ μ), fun σ' H' q => ⟨m, Nat.lt_succ_self m, q⟩, φ1, ρ1, Γ, μ1, he, l.rep, ?_⟩
      have p : PostS K φ1 ρ1 H1 E W (M.bind (F Γ) (fun f => match f with
        | .nx Γ' => whileN ta F m Γ'
        | .ct Γ' => whileN ta F m Γ'
        | .bk Γ' => M.pure (.nx Γ')
        | f => M.pure f) μ1) := p
      unfold M.bind at p
      cases q2 : F Γ μ1 with
      | bad => rw [q2] at p; exact p.elim
      | exc x m => rw [q2] at p; exact p.elim
      | ok f μ2 =>
        rw [q2] at p
        cases f with
        | nx Γ' => exact fun φ3 ρ3 σ3 H3 l3 he3 => ⟨φ3, ρ3, Γ', μ2, he3, l3.rep, PostS.later p l3⟩
        | ct Γ' => exact fun φ3 ρ3 σ3 H3 l3 he3 => ⟨φ3, ρ3, Γ', μ2, he3, l3.rep, PostS.later p l3⟩
        | bk Γ' => exact p
        | rt d => exact p
        | ex x d => exact p
end
end Vl

namespace Vl
open PySem PySem.Spec PyProof.Rows L2
/-- nothing is wished of an exception -/
abbrev W0 : L2.St → XK := fun _ _ _ _ => False
section
variable {K : PySem.W.Frag}
def TgOk (K : PySem.W.Frag) (vs : List Nat) (t : TG) (g : GF) : Prop := ∀ {φ : Addr → Prop} {ρ : List Addr} {μ : Sto} {H : Hp} {v : V} {d : D} {σ : L2.St} {Γ Γ' : Env} {μ' : Sto} {Q : L2.St → Hp → Prop}, EnvIs K φ ρ H σ Γ → Rep K φ ρ μ H → VIs K φ ρ H v d → g d Γ μ = .ok Γ' μ' → (μ' = μ → ∀ σ', EnvIs K φ ρ H σ' Γ' → wipe σ' vs = wipe σ vs → Q σ' H) → t v σ H Q
def TgsOk (K : PySem.W.Frag) (vs : List Nat) (t : TGs) (g : List D → Env → M Env) : Prop := ∀ {φ : Addr → Prop} {ρ : List Addr} {μ : Sto} {H : Hp} {v : List V} {d : List D} {σ : L2.St} {Γ Γ' : Env} {μ' : Sto} {Q : L2.St → Hp → Prop}, EnvIs K φ ρ H σ Γ → Rep K φ ρ μ H → VsIs K φ ρ H v d → g d Γ μ = .ok Γ' μ' → (μ' = μ → ∀ σ', EnvIs K φ ρ H σ' Γ' → wipe σ' vs = wipe σ vs → Q σ' H) → t v σ H Q
theorem wipe_set {i : Nat} {o : Option V} : ∀ {vs : List Nat} (σ : L2.St), i ∈ vs → wipe (σ.set i o) vs = wipe σ vs
  | [], _, h => by cases h
  | v :: vs, σ, h => by
    unfold wipe
    by_cases e : i ∈ vs
    · rw [wipe_set σ e]
    · have : i = v := by rcases List.mem_cons.mp h with h | h; exact h; exact absurd h e
      subst this
      -- the others do not touch i
      have : ∀ (us : List Nat) (τ : L2.St), wipe (τ.set i o) us = (wipe τ us).set i o ∨ i ∈ us := by
        intro us
        induction us with
        | nil => intro τ; exact .inl rfl
        | cons u us ih =>
          intro τ
          by_cases c : i = u
          · exact .inr (c ▸ List.mem_cons_self)
          · rcases ih τ with h | h
            · left
              show (wipe (τ.set i o) us).set u none = ((wipe τ us).set u none).set i o
              rw [h, List.set_comm _ _ c]
            · exact .inr (List.mem_cons_of_mem _ h)
      rcases this vs σ with h | h
      · rw [h, List.set_set]
      · exact absurd h e
theorem tgN {vs : List Nat} {i : Nat} (h : i ∈ vs) : TgOk K vs (gName i) (gN i) := by
  intro φ ρ μ H v d σ Γ Γ' μ' Q he hr hv e k
  cases e
  exact k rfl _ (he.set hv i) (wipe_set σ h)
theorem tgNil {vs : List Nat} : TgsOk K vs L2.gNil Vl.gNil := by
  intro φ ρ μ H v d σ Γ Γ' μ' Q he hr hv e k
  cases hv with
  | nil => cases e; exact ⟨rfl, k rfl _ he rfl⟩
  | cons _ _ => cases e
theorem tgCons {vs : List Nat} {t : TG} {g : GF} {u : TGs} {r : List D → Env → M Env} (h1 : TgOk K vs t g) (h2 : TgsOk K vs u r) (sm : ∀ d Γ μ Γ' μ', g d Γ μ = .ok Γ' μ' → μ' = μ) : TgsOk K vs (L2.gCons t u) (Vl.gCons g r) := by
  intro φ ρ μ H v d σ Γ Γ' μ' Q he hr hv e k
  cases hv with
  | nil => cases e
  | @cons v d vs ds h t =>
    have e2 : M.bind (g d Γ) (r ds) μ = .ok Γ' μ' := e
    unfold M.bind at e2
    cases q : g d Γ μ with
    | bad => rw [q] at e2; cases e2
    | exc x m => rw [q] at e2; cases e2
    | ok Γ1 μ1 =>
      rw [q] at e2
      have em := sm _ _ _ _ _ q
      subst em
      exact ⟨_, _, rfl, h1 he hr h q fun _ σ1 he1 w1 => h2 he1 hr t e2 fun m2 σ2 he2 w2 => k m2 σ2 he2 (w2.trans w1)⟩
theorem tgTup {vs : List Nat} {n : Nat} {u : TGs} {r : List D → Env → M Env} (h : TgsOk K vs u r) : TgOk K vs (L2.gTup K n u) (Vl.gTup n r) := by
  intro φ ρ μ H v d σ Γ Γ' μ' Q he hr hv e k
  cases d <;> first | cases e; done | skip
  rename_i xs
  obtain ⟨a, us, e1, q, t⟩ := hv.tupE
  have e : M.guard (xs.length == n) (r xs Γ) μ = .ok Γ' μ' := e
  cases c : xs.length == n with
  | false => rw [c] at e; cases e
  | true => rw [c] at e; exact ⟨a, us, e1, q, by rw [t.length]; exact beq_iff_eq.mp c, h he hr t e k⟩
theorem gN_same (i : Nat) : ∀ d Γ μ Γ' μ', gN i d Γ μ = .ok Γ' μ' → μ' = μ := fun d Γ μ Γ' μ' e => by cases e; rfl
theorem EnvIs.wipe {φ : Addr → Prop} {ρ : List Addr} {H : Hp} {σ : L2.St} {Γ : Env} (h : EnvIs K φ ρ H σ Γ) : ∀ vs : List Nat, EnvIs K φ ρ H (L2.wipe σ vs) (wipeD Γ vs)
  | [] => h
  | v :: vs => EnvIs.setN (EnvIs.wipe h vs) v
theorem wipe_idem (σ : L2.St) : ∀ vs : List Nat, L2.wipe (L2.wipe σ vs) vs = L2.wipe σ vs := by
  have out : ∀ (vs us : List Nat) (τ : L2.St), (∀ i ∈ vs, i ∈ us) → L2.wipe (L2.wipe τ vs) us = L2.wipe τ us := by
    intro vs
    induction vs with
    | nil => intro us τ _; rfl
    | cons v vs ih =>
      intro us τ h
      show L2.wipe ((L2.wipe τ vs).set v none) us = _
      rw [wipe_set _ (h v List.mem_cons_self)]
      exact ih us τ fun i hi => h i (List.mem_cons_of_mem _ hi)
  exact fun vs => out vs vs σ fun _ h => h
theorem bind_assoc {α β γ : Type} (m : M α) (f : α → M β) (g : β → M γ) (μ : Sto) : M.bind (M.bind m f) g μ = M.bind m (fun a => M.bind (f a) g) μ := by
  unfold M.bind
  cases m μ <;> rfl
theorem bind_congr {α β : Type} {m m' : M α} {f : α → M β} {μ : Sto} (h : m μ = m' μ) : M.bind m f μ = M.bind m' f μ := by unfold M.bind; rw [h]
theorem bind_ok {α β : Type} {m : M α} {f : α → M β} {μ μ' : Sto} {a : α} (h : m μ = .ok a μ') : M.bind m f μ = f a μ' := by unfold M.bind; rw [h]
theorem bind_bad {α β : Type} {m : M α} {f : α → M β} {μ : Sto} (h : m μ = .bad) : M.bind m f μ = .bad := by unfold M.bind; rw [h]
theorem calm_ok {α : Type} {m : M α} {μ μ' : Sto} {a : α} (h : m μ = .ok a μ') : calmM m μ = .ok a μ' := by unfold calmM; rw [h]
theorem calm_bad {α : Type} {m : M α} {μ : Sto} (h : m μ = .bad) : calmM m μ = .bad := by unfold calmM; rw [h]
theorem calm_exc {α : Type} {m : M α} {μ μ' : Sto} {x : Ex} (h : m μ = .exc x μ') : calmM m μ = .bad := by unfold calmM; rw [h]
/-! ### the new list of a comprehension: nobody holds it -/
def with1 (φ : Addr → Prop) (ps : List Addr) (dl : Addr) : Addr → Prop := fun a => (φ a ∨ a ∈ ps) ∨ a = dl
theorem Rep.less {φ : Addr → Prop} {ρ : List Addr} {μ : Sto} {H : Hp} {dl : Addr} (r : Rep K (fun a => φ a ∨ a = dl) ρ μ H) (n : dl ∉ ρ) : Rep K φ ρ μ H ∧ Way (K := K) (fun a => φ a ∨ a = dl) φ ρ ρ H H fun k => some (.ob k) := by
  have w : Way (K := K) (fun a => φ a ∨ a = dl) φ ρ ρ H H fun k => some (.ob k) := ⟨fun a h _ z => h (.inl z), fun _ _ _ _ h => h, fun k a d hk e => by cases e; exact .ob hk⟩
  exact ⟨⟨r.nd, fun a ha => (r.sub a ha).elim (fun z => z) fun z => absurd ha (z ▸ n), fun a z => r.al a (.inl z), Paired.memL r.ok fun a d _ hd => At.move r w hd rfl, r.tb⟩, w⟩
/-- the comprehension's loop from turn i on -/
structure LcIs (w : Wk) (body : D → M (Option D)) (n : Nat) (L : Nat → List D → M (List D)) : Prop where
  bad : ∀ i acc μ, itm μ w i = none → L i acc μ = .bad
  done : ∀ i acc μ, itm μ w i = some none → L i acc μ = .ok acc μ ∨ L i acc μ = .bad
  step : ∀ i acc μ d, itm μ w i = some (some d) → L i acc μ = .bad ∨ (i < n ∧ L i acc μ = M.bind (body d) (fun o => match o with
    | some x => M.guard (decide (acc.length < many)) (L (i + 1) (acc ++ [x]))
    | none => L (i + 1) acc) μ)
theorem lc_main {w : Wk} {n : Nat} {L : Nat → List D → M (List D)} {J : It} {Z : (Addr → Prop) → List Addr → Hp → Prop} {Q : VK} {W : XK} {φ : Addr → Prop} {ρ : List Addr} {Γ : Env} {μ : Sto} {σ : L2.St} {H : Hp} {vs : List Nat} {tg : TG} {g : GF} {t : TF} {e : EF} {mm : Bool} {dl : Addr}
    (ht : TgOk K vs tg g) (nox : ∀ d Γ μ, noX (g d Γ μ) = true) (hL : LcIs w (lcB vs g t e Γ) n L) (hJ : Wks K J w Z) (hz : Z φ ρ H) (he : EnvIs K φ ρ H σ Γ) (hr : Rep K φ ρ μ H) (hD : H dl = none) (p : Post K (VIs K) φ ρ H Q W (M.bind (L 0 []) (newL mm) μ))
    :
    ∃ Wv : Nat → Nat → Hp → Prop, (∃ m, Wv 0 m (upd H dl (.lst []))) ∧ ∀ i m H, Wv i m H →
      (J.stop i H ∧ Q (.ref dl) H) ∨ (J.go i H ∧ ∃ Nx : Hp → Prop, (∀ H', Nx H' → ∃ m', m' < m ∧ Wv (i + 1) m' H') ∧ ∀ x H', J.yld i H x H' → tg x (wipe σ vs) H' fun σ2 H2 => wipe σ2 vs = wipe σ vs ∧ tT K W0 t σ2 H2 fun b H3 =>
        if b = true then tE K W0 e σ2 H3 fun y H4 => ∃ acc, H4 dl = some (.lst acc) ∧ acc.length < sizeLine ∧ Nx (upd H4 dl (.lst (acc ++ [y]))) else Nx H3) := by
  have nphi : ¬ φ dl := hr.nfree hD
  have wU : ∀ {o : HO}, Way (K := K) φ (with1 φ [] dl) ρ ρ H (upd H dl o) fun k => some (.ob k) := fun {o} => ⟨fun a n ⟨u, hu⟩ z => z.elim (fun z => z.elim n fun z => nomatch z) fun z => ne_of_none hu hD z, fun a u _ _ hu => by rw [upd_ne (ne_of_none hu hD)]; exact hu, fun k a d hk e => by cases e; exact .ob hk⟩
  -- a state in the loop
  let Sta : Nat → Hp → Prop := fun i G => ∃ (ps : List Addr) (μ : Sto) (acc : List D) (us : List V), (∀ q ∈ ps, H q = none) ∧ dl ∉ ps ∧ Kp ρ H G ∧ Rep K (with1 φ ps dl) (ρ ++ ps) μ G ∧ Z (with1 φ ps dl) (ρ ++ ps) G ∧ EnvIs K (with1 φ ps dl) (ρ ++ ps) G σ Γ ∧
    G dl = some (.lst us) ∧ VsIs K (with1 φ ps dl) (ρ ++ ps) G us acc ∧ Post K (VIs K) φ ρ H Q W (M.bind (L i acc) (newL mm) μ)
  have nD : dl ∉ ρ := fun z => nphi (hr.sub dl z)
  refine ⟨fun i m G => m + i = n + 1 ∧ Sta i G, ⟨n + 1, rfl, [], μ, [], [], by simp, by simp, kp_upd hD, ?_, ?_, ?_, upd_same, .nil, p⟩, ?_⟩
  · rw [List.append_nil]
    refine ⟨hr.nd, fun a ha => .inl (.inl (hr.sub a ha)), ?_, ?_, tab_upd hr.tb fun ps z => by rw [hD] at z; cases z⟩
    · rintro a ((z | z) | z)
      · obtain ⟨u, hu⟩ := hr.al a z
        exact ⟨u, by rw [upd_ne (ne_of_none hu hD)]; exact hu⟩
      · cases z
      · rw [z]; exact ⟨_, upd_same⟩
    · refine Paired.memL hr.ok fun a d ha hd => At.move hr wU hd ?_
      obtain ⟨u, hu⟩ := hr.al a (hr.sub a ha)
      rw [upd_ne (ne_of_none hu hD)]
  · rw [List.append_nil]; exact hJ.way hz wU
  · rw [List.append_nil]
    exact Paired.mapP he fun v d q => by
      cases d with
      | none => cases v <;> trivial
      | some d => cases v with
        | none => exact q
        | some v => exact VIs.way wU q (mapMut_id _ _ fun _ _ => rfl)
  rintro i m G ⟨hm, ps, μ, acc, us, hps, nps, kp, rep, hz, he, hd, hv, p⟩
  -- a later state of the loop's inside
  have next : ∀ {φ' ρ' μ' G'}, Later K (with1 φ ps dl) (ρ ++ ps) G φ' ρ' μ' G' → ∃ qs, φ' = with1 φ (ps ++ qs) dl ∧ ρ' = ρ ++ (ps ++ qs) ∧ (∀ q ∈ ps ++ qs, H q = none) ∧ dl ∉ ps ++ qs ∧ Kp ρ H G' ∧ G' dl = some (.lst us) := by
    intro φ' ρ' μ' G' l
    obtain ⟨qs, e1, n1, f1⟩ := l.ps
    have nq : dl ∉ qs := fun z => by rw [n1 dl z] at hd; cases hd
    refine ⟨qs, ?_, by rw [e1, List.append_assoc], ?_, fun z => (List.mem_append.mp z).elim nps nq, fun x o hx hh => ?_, l.kp.no (fun z => (List.mem_append.mp z).elim nD nps) (fun _ z => nomatch z) hd⟩
    · funext a
      refine propext ((f1 a).trans ?_)
      unfold with1
      rw [List.mem_append]
      constructor
      · rintro (((h | h) | h) | h)
        · exact .inl (.inl h)
        · exact .inl (.inr (.inl h))
        · exact .inr h
        · exact .inl (.inr (.inr h))
      · rintro ((h | h | h) | h)
        · exact .inl (.inl (.inl h))
        · exact .inl (.inl (.inr h))
        · exact .inr h
        · exact .inl (.inr h)
    · intro q hq
      rcases List.mem_append.mp hq with hq | hq
      · exact hps q hq
      · cases c : H q with
        | none => rfl
        | some o =>
          by_cases hx : q ∈ ρ
          · obtain ⟨u, hu⟩ := rep.al q (rep.sub q (List.mem_append_left _ hx))
            rw [n1 q hq] at hu; cases hu
          · obtain ⟨o', this, _⟩ := kp q o (.inl hx) c
            rw [n1 q hq] at this; cases this
    · obtain ⟨o1, h1, s1⟩ := kp x o hx hh
      obtain ⟨o2, h2, s2⟩ := l.kp x o1 (hx.sm s1 fun hx z => (List.mem_append.mp z).elim hx fun z => by rw [hps x z] at hh; cases hh) h1
      exact ⟨o2, h2, s1.trans s2⟩
  cases ei : itm μ w i with
  | none =>
    unfold M.bind at p
    rw [hL.bad i acc μ ei] at p; exact p.elim
  | some o => cases o with
    | none =>
      rcases hL.done i acc μ ei with e1 | e1
      · unfold M.bind at p
        rw [e1] at p
        have p : Post K (VIs K) φ ρ H Q W (newL mm acc μ) := p
        obtain ⟨c, p⟩ := guard_post p
        refine .inl ⟨hJ.stop rep hz ei, ?_⟩
        have nr : dl ∉ ρ ++ ps := fun z => (List.mem_append.mp z).elim nD nps
        obtain ⟨rep2, w2⟩ := Rep.less (φ := fun a => φ a ∨ a ∈ ps) rep nr
        have nD2 : ¬ (φ dl ∨ dl ∈ ps) := fun z => z.elim nphi nps
        cases mm with
        | false => exact p _ _ _ _ ⟨⟨ps, rfl, hps, fun _ => .rfl⟩, kp, rep2⟩ (.obj (.lst hd (hv.way w2 (mapMuts_id _ _ fun _ _ => rfl))) nD2)
        | true =>
          have w3 : Way (K := K) (with1 φ ps dl) (with1 φ ps dl) (ρ ++ ps) (ρ ++ (ps ++ [dl])) G G fun k => some (.ob k) := ⟨fun _ n _ => n, fun _ _ _ _ h => h, fun k a d hk e => by
            cases e
            refine .ob ?_
            rw [← List.append_assoc, List.getElem?_append_left (List.getElem?_eq_some_iff.mp hk).1]
            exact hk⟩
          have l : Later K φ ρ H (with1 φ ps dl) (ρ ++ (ps ++ [dl])) (μ ++ [.lst acc]) G := by
            refine ⟨⟨ps ++ [dl], rfl, fun q hq => ?_, fun a => ?_⟩, kp, ⟨?_, fun a ha => ?_, rep.al, ?_, rep.tb⟩⟩
            · rcases List.mem_append.mp hq with hq | hq
              · exact hps q hq
              · rw [List.mem_singleton.mp hq]; exact hD
            · unfold with1
              rw [List.mem_append, List.mem_singleton, or_assoc]
            · rw [← List.append_assoc]
              exact List.nodup_append.mpr ⟨rep.nd, by simp, fun x hx y hy => by rw [List.mem_singleton.mp hy]; exact fun z => nr (z ▸ hx)⟩
            · rw [← List.append_assoc] at ha
              rcases List.mem_append.mp ha with ha | ha
              · exact rep.sub a ha
              · exact .inr (List.mem_singleton.mp ha)
            · rw [← List.append_assoc]
              refine Paired.snoc (Paired.memL rep.ok fun a d _ h => ?_) ?_
              · have := At.move rep w3 h rfl
                rw [← List.append_assoc] at this
                exact this
              · have := hv.way w3 (mapMuts_id _ _ fun _ _ => rfl)
                rw [← List.append_assoc] at this
                exact .lst hd this
          refine p _ _ _ _ l (.ob ?_)
          rw [← rep.lens, ← List.append_assoc]
          simp
      · unfold M.bind at p
        rw [e1] at p; exact p.elim
    | some d =>
      rcases hL.step i acc μ d ei with e1 | ⟨lt, e1⟩
      · unfold M.bind at p
        rw [e1] at p; exact p.elim
      · obtain ⟨h1, h2⟩ := hJ.go rep hz ei
        refine .inr ⟨h1, Sta (i + 1), fun H' q => ⟨m - 1, by omega, by omega, q⟩, fun x H' hy => ?_⟩
        obtain ⟨l1, v1⟩ := h2 x H' hy
        have pp : Post K (VIs K) φ ρ H Q W (M.bind (M.bind (lcB vs g t e Γ d) (fun o => match o with
          | some x => M.guard (decide (acc.length < many)) (L (i + 1) (acc ++ [x]))
          | none => L (i + 1) acc)) (newL mm) μ) := by
          have z : M.bind (L i acc) (newL mm) μ = M.bind (M.bind (lcB vs g t e Γ d) (fun o => match o with
            | some x => M.guard (decide (acc.length < many)) (L (i + 1) (acc ++ [x]))
            | none => L (i + 1) acc)) (newL mm) μ := by
            exact bind_congr e1
          rw [← z]; exact p
        have he1 := (l1.env rep he).wipe vs
        unfold lcB at pp
        rw [bind_assoc, bind_assoc] at pp
        have nx := nox d (wipeD Γ vs) μ
        cases qg : g d (wipeD Γ vs) μ with
        | bad => rw [bind_bad qg] at pp; exact pp.elim
        | exc x m => rw [qg] at nx; cases nx
        | ok Γ1 μ1 =>
          rw [bind_ok qg, bind_assoc] at pp
          refine ht he1 l1.rep v1 qg fun sm σ2 he2 w2 => ⟨by rw [w2]; exact wipe_idem σ vs, ?_⟩
          subst sm
          refine ⟨_, _, Γ1, μ1, he2, l1.rep, ?_⟩
          cases qt : t Γ1 μ1 with
          | bad => rw [bind_bad (calm_bad qt)] at pp; exact pp.elim
          | exc x m => rw [bind_bad (calm_exc qt)] at pp; exact pp.elim
          | ok b μ2 =>
            rw [bind_ok (calm_ok qt)] at pp
            intro φ2 ρ2 b' H2 l2 eb
            have eb : b' = b := eb
            subst eb
            have l12 := l1.trans l2
            cases b' with
            | false =>
              refine iteF ?_
              obtain ⟨qs, e1, e2, c1, c2, c3, c4⟩ := next l12
              subst e1 e2
              exact ⟨ps ++ qs, μ2, acc, us, c1, c2, c3, l12.rep, hJ.mono rep hz l12, l12.env rep he, c4, l12.vals rep hv, pp⟩
            | true =>
              refine iteT ⟨_, _, Γ1, μ2, l2.env l1.rep he2, l2.rep, ?_⟩
              have pp : Post K (VIs K) φ ρ H Q W (M.bind (M.bind (M.bind (calmM (e Γ1)) fun d => M.pure (some d)) (fun o => match o with
                | some x => M.guard (decide (acc.length < many)) (L (i + 1) (acc ++ [x]))
                | none => L (i + 1) acc)) (newL mm) μ2) := by rw [bind_assoc]; exact pp
              rw [bind_assoc, bind_assoc] at pp
              cases qe : e Γ1 μ2 with
              | bad => rw [bind_bad (calm_bad qe)] at pp; exact pp.elim
              | exc x m => rw [bind_bad (calm_exc qe)] at pp; exact pp.elim
              | ok y0 μ3 =>
                rw [bind_ok (calm_ok qe)] at pp
                intro φ3 ρ3 y H3 l3 vy
                have l13 := l12.trans l3
                obtain ⟨qs, e1, e2, c1, c2, c3, c4⟩ := next l13
                have he3 := l13.env rep he
                have hv3 := l13.vals rep hv
                have hz3 := hJ.mono rep hz l13
                have rep3 := l13.rep
                subst e1 e2
                have pp : Post K (VIs K) φ ρ H Q W (M.bind (M.guard (decide (acc.length < many)) (L (i + 1) (acc ++ [y0]))) (newL mm) μ3) := pp
                cases c : decide (acc.length < many) with
                | false => rw [c] at pp; exact pp.elim
                | true =>
                  rw [c] at pp
                  have lt2 := of_decide_eq_true c
                  have nd3 : dl ∉ ρ ++ (ps ++ qs) := fun z => (List.mem_append.mp z).elim nD c2
                  have wP : Way (K := K) (with1 φ (ps ++ qs) dl) (with1 φ (ps ++ qs) dl) (ρ ++ (ps ++ qs)) (ρ ++ (ps ++ qs)) H3 (upd H3 dl (.lst (us ++ [y]))) fun k => some (.ob k) := ⟨fun _ n _ => n, fun a u n _ hu => by rw [upd_ne (fun z => n (.inr z))]; exact hu, fun k a d hk e => by cases e; exact .ob hk⟩
                  refine ⟨us, c4, by rw [hv3.length]; exact many_line (Nat.le_of_lt lt2), ps ++ qs, μ3, acc ++ [y0], us ++ [y], c1, c2, fun x o hx hh => ?_, ⟨rep3.nd, rep3.sub, fun a z => ?_, Paired.memL rep3.ok fun a d ha hd => At.move rep3 wP hd (upd_ne fun z => nd3 (z ▸ ha)), tab_upd rep3.tb fun ps z => by rw [c4] at z; cases z⟩, hJ.way hz3 wP, ?_, upd_same, ?_, pp⟩
                  · obtain ⟨o', h1, s1⟩ := c3 x o hx hh
                    exact ⟨o', by rw [upd_ne (ne_of_none hh hD)]; exact h1, s1⟩
                  · by_cases ea : a = dl
                    · exact ⟨_, by rw [ea]; exact upd_same⟩
                    · obtain ⟨u, hu⟩ := rep3.al a z
                      exact ⟨u, by rw [upd_ne ea]; exact hu⟩
                  · exact Paired.mapP he3 fun v d q => by
                      cases d with
                      | none => cases v <;> trivial
                      | some d => cases v with
                        | none => exact q
                        | some v => exact VIs.way wP q (mapMut_id _ _ fun _ _ => rfl)
                  · exact VsIs.way wP (hv3.append (.cons vy .nil)) (mapMuts_id _ _ fun _ _ => rfl)
theorem lcis_fix (body : D → M (Option D)) (xs : List D) : LcIs (.fix xs) body xs.length fun i => lcL body (xs.drop i) where
  bad := fun i acc μ e => by cases e
  done := fun i acc μ e => by
    have : xs.length ≤ i := List.getElem?_eq_none_iff.mp (Option.some.inj e)
    rw [List.drop_eq_nil_of_le this]
    exact .inl rfl
  step := fun i acc μ d e => by
    have h := Option.some.inj e
    have lt := (List.getElem?_eq_some_iff.mp h).1
    refine .inr ⟨lt, ?_⟩
    have : xs.drop i = d :: xs.drop (i + 1) := by
      rw [List.drop_eq_getElem_cons lt]
      rw [List.getElem?_eq_getElem lt] at h
      rw [Option.some.inj h]
    rw [this]
    rfl
theorem lcis_rng (body : D → M (Option D)) (lo : Int) (n : Nat) : LcIs (.rng lo n) body n fun i => lcL body ((rngL lo n).drop i) where
  bad := fun i acc μ e => by cases e
  done := fun i acc μ e => by
    have : n ≤ i := by
      by_cases c : i < n
      · simp [itm, c] at e
      · exact Nat.le_of_not_lt c
    rw [List.drop_eq_nil_of_le (by rw [rngL_len]; exact this)]
    exact .inl rfl
  step := fun i acc μ d e => by
    by_cases c : i < n
    · refine .inr ⟨c, ?_⟩
      simp [itm, c] at e
      subst e
      have h := rngL_at (lo := lo) c
      have lt : i < (rngL lo n).length := by rw [rngL_len]; exact c
      have : (rngL lo n).drop i = .int (lo + (i : Int)) :: (rngL lo n).drop (i + 1) := by
        rw [List.drop_eq_getElem_cons lt]
        rw [List.getElem?_eq_getElem lt] at h
        rw [Option.some.inj h]
      rw [this]
      rfl
    · simp [itm, c] at e
theorem lcis_sto (body : D → M (Option D)) (k n : Nat) : LcIs (.sto k) body n fun i => lcS body k (n - i) i where
  bad := fun i acc μ e => by
    cases q : n - i with
    | zero => rfl
    | succ m =>
      have e : (match μ[k]? with | some (.lst xs) => some xs[i]? | _ => none) = none := e
      show (match μ[k]? with
        | some (.lst xs) => (match xs[i]? with
          | none => M.pure acc
          | some x => M.bind (body x) _)
        | _ => M.fail) μ = O.bad
      cases r : μ[k]? with
      | none => rfl
      | some d =>
        rw [r] at e
        cases d <;> first | rfl | cases e
  done := fun i acc μ e => by
    obtain ⟨xs, e0, e⟩ := itm_sto e
    cases q : n - i with
    | zero => exact .inr rfl
    | succ m =>
      refine .inl ?_
      show (match μ[k]? with
        | some (.lst xs) => (match xs[i]? with
          | none => M.pure acc
          | some x => M.bind (body x) _)
        | _ => M.fail) μ = O.ok acc μ
      rw [e0]
      dsimp only
      rw [e]
      rfl
  step := fun i acc μ d e => by
    obtain ⟨xs, e0, e⟩ := itm_sto e
    cases q : n - i with
    | zero => exact .inl rfl
    | succ m =>
      refine .inr ⟨by omega, ?_⟩
      have e2 : n - (i + 1) = m := by omega
      show (match μ[k]? with
        | some (.lst xs) => (match xs[i]? with
          | none => M.pure acc
          | some x => M.bind (body x) _)
        | _ => M.fail) μ = _
      rw [e0]
      dsimp only
      rw [e, e2]
      all_goals rfl
theorem tLc_of {W : L2.St → XK} {it : IF} {tg : TG} {g : GF} {t : TF} {e : EF} {vs : List Nat} {mm : Bool} {σ : L2.St} {H : Hp} {Q : VK} (ht : TgOk K vs tg g) (nox : ∀ d Γ μ, noX (g d Γ μ) = true) (h : tE K W (eLc mm vs it g t e) σ H Q) : tLc (tI K W it) tg (tT K W0 t) (tE K W0 e) vs σ H Q := by
  obtain ⟨φ, ρ, Γ, μ, he, hr, p⟩ := h
  refine ⟨φ, ρ, Γ, μ, he, hr, ?_⟩
  have p : Post K (VIs K) φ ρ H Q (W σ) (M.bind (it Γ) (fun w => M.bind (lcW (lcB vs g t e Γ) w []) (newL mm)) μ) := p
  cases q : it Γ μ with
  | bad => rw [bind_bad q] at p; exact p
  | exc x m =>
    unfold M.bind at p
    rw [q] at p; exact p
  | ok w m =>
    rw [bind_ok q] at p
    intro φ1 ρ1 J H1 Z l hJ hz D hD
    have p := Post.later p l
    have he := l.env hr he
    cases w with
    | fix xs => exact lc_main ht nox (lcis_fix _ xs) hJ hz he l.rep hD p
    | rng lo n => exact lc_main ht nox (lcis_rng _ lo n) hJ hz he l.rep hD p
    | sto k =>
      have p : Post K (VIs K) φ1 ρ1 H1 Q (W σ) (M.bind (fun μ => (match μ[k]? with
        | some (.lst xs) => lcS (lcB vs g t e Γ) k (xs.length + 1) 0 []
        | _ => M.fail) μ) (newL mm) m) := p
      cases e0 : m[k]? with
      | none =>
        unfold M.bind at p
        dsimp only at p
        rw [e0] at p; exact p.elim
      | some d =>
        cases d
        case lst xs =>
          refine lc_main (mm := mm) (W := W σ) ht nox (lcis_sto _ k (xs.length + 1)) hJ hz he l.rep hD ?_
          have z : M.bind (fun μ => (match μ[k]? with
            | some (.lst xs) => lcS (lcB vs g t e Γ) k (xs.length + 1) 0 []
            | _ => M.fail) μ) (newL mm) m = M.bind (lcS (lcB vs g t e Γ) k (xs.length + 1) 0 []) (newL mm) m := bind_congr (by rw [e0])
          rw [z] at p
          exact p
        all_goals
          unfold M.bind at p
          dsimp only at p
          rw [e0] at p
          exact p.elim
end
section
variable {X : Cx} {K : PySem.W.Frag} {W : L2.St → XK} {elt tg iter : Expr} {ifs : List Expr} {scope : Scope} {own : List (Str × Nat)} {pos spos py : Pos} {it : IF} {tr : TG} {g : GF} {t : TF} {fe : EF} {m : Bool}
theorem fLc (hN : X.N.Nodup) (hi : PI X tg iter (tI K W it)) (ok : BlkOk X.N X.env.scope scope own)
    (hg : ∀ (s : Shared) (H : Hp) (C : Addr) (cl : List (Str × Addr)) (fp : List Addr), PG (X.blk s H scope (compEnvC scope cl C X.env) fp) tg tr) (hto : TgOk K (own.map (·.2)) tr g)
    (ht : ∀ (s : Shared) (H : Hp) (C : Addr) (cl : List (Str × Addr)) (fp : List Addr), PTs (X.blk s H scope (compEnvC scope cl C X.env) fp) ifs (tT K W0 t))
    (he : ∀ (s : Shared) (H : Hp) (C : Addr) (cl : List (Str × Addr)) (fp : List Addr), PE (X.blk s H scope (compEnvC scope cl C X.env) fp) elt (tE K W0 fe)) (nox : ∀ d Γ μ, noX (g d Γ μ) = true) (hs : ∀ x, foldedSetIterable iter X.env x = pure x := by intro _; rfl) (hc : X.calm = true := by rfl) :
    PE X (.ListComp elt [⟨tg, iter, ifs, 0⟩] scope pos) (tE K W (eLc m (own.map (·.2)) it g t fe)) := (pe_lc hc hN hi ok hg ht he hs).vimp fun σ H Q h => tLc_of hto nox h
theorem sSetLc {i : Nat} {y : Str} (hN : X.N.Nodup) (hsw : swapsWith (.ListComp elt [⟨tg, iter, ifs, 0⟩] scope pos) (some (.Name y py)) spos.line X.env = pure true) (hi : PI X tg iter (tI K W it)) (ok : BlkOk X.N X.env.scope scope own)
    (hg : ∀ (s : Shared) (H : Hp) (C : Addr) (cl : List (Str × Addr)) (fp : List Addr), PG (X.blk s H scope (compEnvC scope cl C X.env) fp) tg tr) (hto : TgOk K (own.map (·.2)) tr g)
    (ht : ∀ (s : Shared) (H : Hp) (C : Addr) (cl : List (Str × Addr)) (fp : List Addr), PTs (X.blk s H scope (compEnvC scope cl C X.env) fp) ifs (tT K W0 t))
    (he : ∀ (s : Shared) (H : Hp) (C : Addr) (cl : List (Str × Addr)) (fp : List Addr), PE (X.blk s H scope (compEnvC scope cl C X.env) fp) elt (tE K W0 fe)) (nox : ∀ d Γ μ, noX (g d Γ μ) = true) (hy : X.N[i]? = some y := by rfl) (hyl : X.env.scope.names.lookup y = some .local := by rfl) (hs : ∀ x, foldedSetIterable iter X.env x = pure x := by intro _; rfl) (hc : X.calm = true := by rfl) :
    PS X (.Assign [.Name y py] (.ListComp elt [⟨tg, iter, ifs, 0⟩] scope pos) spos) (tS K W (sAsg (eLc m (own.map (·.2)) it g t fe) (gN i))) := (ps_setLc hc hN hy hyl hsw hi ok hg ht he hs).vimp fun E σ H ⟨φ, ρ, Γ, μ, he, hr, p⟩ =>
  tLc_of (mm := m) hto nox (stepS he hr p fun l he h p => p _ _ _ _ (Later.refl l.rep) (he.set h i))
theorem tsNil : PTs X [] (tT K W0 tYesF) := ⟨fun pins s σ H Q I ⟨φ, ρ, Γ, μ, he, hr, p⟩ => pts_nil.run pins s σ H Q I (Post.bool hr p)⟩
theorem tsOne {c : Expr} (h : PT X c (tT K W0 t)) : PTs X [c] (tT K W0 t) := pts_one h
end
end Vl

/-! defs: what they compute, how they are called -/
namespace Vl
open PySem PySem.Spec PyProof.Rows L2
def idx? : List Nat → Nat → Option Nat
  | [], _ => none
  | a :: r, k => bif a == k then some 0 else (idx? r k).map (· + 1)
/-- what hangs on the places, breadth first -/
def reach (μ : Sto) : Nat → List Nat → List Nat → List Nat
  | 0, _, seen => seen
  | _ + 1, [], seen => seen
  | n + 1, k :: todo, seen => bif (idx? seen k).isSome then reach μ n todo seen else reach μ n (todo ++ muts ((μ[k]?).getD .non)) (seen ++ [k])
def getAll (μ : Sto) : List Nat → Option (List D)
  | [] => some []
  | k :: ks => match μ[k]? with
    | some d => (getAll μ ks).map (d :: ·)
    | none => none
/-- the things that were handed out, written back -/
def wb (ks : List Nat) (os : List D) : Nat → Sto → Sto
  | _, [] => []
  | n, d :: μ => (match idx? ks n with
    | some i => os.getD i d
    | none => d) :: wb ks os (n + 1) μ
def backN (ks : List Nat) (n : Nat) (i : Nat) : Option D := some (.ob (bif i < ks.length then ks.getD i 0 else n + (i - ks.length)))
def callV (n : Nat) (f : List D → M D) (ds : List D) : M D := M.guard (ds.length == n) fun μ =>
  let ks := reach μ 1000 (mutsL ds) []
  let g := fun k => (idx? ks k).map D.ob
  match mapMuts g ds with
  | none => .bad
  | some ds' => match (getAll μ ks).bind (mapMuts g) with
    | none => .bad
    | some μ' => match f ds' μ' with
      | .bad => .bad
      | .ok d μ1 => match mapMut (backN ks μ.length) d, mapMuts (backN ks μ.length) μ1 with
        | some d', some os => .ok d' (wb ks os 0 μ ++ os.drop ks.length)
        | _, _ => .bad
      | .exc x μ1 => match mapMuts (backN ks μ.length) x.xs, mapMuts (backN ks μ.length) μ1 with
        | some xs, some os => .exc ⟨x.C, x.ns, xs⟩ (wb ks os 0 μ ++ os.drop ks.length)
        | _, _ => .bad
/-- what the def made by itself, as things that change no more -/
def fz (b : Nat) (μ : Sto) : Nat → Nat → Option D
  | 0, k => bif k < b then some (.ob k) else none
  | n + 1, k => bif k < b then some (.ob k) else (μ[k]?).bind (mapMut (fz b μ n))
def finish (keep : Bool) (b : Nat) (d : D) (μ : Sto) : O D := bif keep then .ok d μ else match mapMut (fz b μ 20) d, mapMuts (fz b μ 20) (μ.take b) with
  | some d', some μ' => .ok d' μ'
  | _, _ => .bad
def finishX (keep : Bool) (b : Nat) (x : Ex) (μ : Sto) : O D := bif keep then .exc x μ else match mapMuts (fz b μ 20) x.xs, mapMuts (fz b μ 20) (μ.take b) with
  | some xs, some μ' => .exc ⟨x.C, x.ns, xs⟩ μ'
  | _, _ => .bad
def env0 (N : Nat) (ds : List D) : Env := ds.map some ++ List.replicate (N - ds.length) none
def funF (keep : Bool) (N : Nat) (body : SF) (ds : List D) : M D := fun μ => match body (env0 N ds) μ with
  | .ok (.rt d) μ1 => finish keep μ.length d μ1
  | .ok (.nx _) μ1 => finish keep μ.length .non μ1
  | .ok (.ex x _) μ1 => finishX keep μ.length x μ1
  | _ => .bad
/-- a def's promise by its function -/
def spF (K : PySem.W.Frag) (n : Nat) (f : List D → M D) : Sp := fun vs H Q E => vs.length = n ∧ ∃ φ ρ ds μ, VsIs K φ ρ H vs ds ∧ Rep K φ ρ μ H ∧ Post K (VIs K) φ ρ H Q E (f ds μ)
section
variable {K : PySem.W.Frag} {φ φ' φ1 : Addr → Prop} {ρ ρ' ρ1 : List Addr} {μ μ' μ1 : Sto} {H H' H1 : Hp}
theorem idx_some : ∀ {ks : List Nat} {k i : Nat}, idx? ks k = some i → ks[i]? = some k
  | [], _, _, e => by cases e
  | a :: r, k, i, e => by
    unfold idx? at e
    cases c : a == k with
    | true => rw [c] at e; cases e; rw [beq_iff_eq.mp c]; rfl
    | false =>
      rw [c] at e
      cases q : idx? r k with
      | none => rw [q] at e; cases e
      | some j => rw [q] at e; cases e; simpa using idx_some q
theorem idx_none : ∀ {ks : List Nat} {k : Nat}, idx? ks k = none → k ∉ ks
  | [], _, _ => by simp
  | a :: r, k, e => by
    unfold idx? at e
    cases c : a == k with
    | true => rw [c] at e; cases e
    | false =>
      rw [c] at e
      cases q : idx? r k with
      | some j => rw [q] at e; cases e
      | none => simp only [List.mem_cons, not_or]; exact ⟨fun z => by simp [z] at c, idx_none q⟩
theorem reach_nd (μ : Sto) : ∀ (n : Nat) (todo seen : List Nat), seen.Nodup → (reach μ n todo seen).Nodup
  | 0, _, _, h => h
  | _ + 1, [], _, h => h
  | n + 1, k :: todo, seen, h => by
    unfold reach
    cases q : idx? seen k with
    | some i => exact reach_nd μ n todo seen h
    | none => exact reach_nd μ n _ _ (List.nodup_append.mpr ⟨h, by simp, fun x hx y hy => by rw [List.mem_singleton.mp hy]; exact fun z => idx_none q (z ▸ hx)⟩)
theorem getAll_at (μ : Sto) : ∀ {ks : List Nat} {os : List D}, getAll μ ks = some os → Paired (fun k d => μ[k]? = some d) ks os
  | [], _, e => by cases e; exact .nil
  | k :: ks, os, e => by
    unfold getAll at e
    cases q : μ[k]? with
    | none => rw [q] at e; cases e
    | some d =>
      rw [q] at e
      cases r : getAll μ ks with
      | none => rw [r] at e; cases e
      | some ds => rw [r] at e; cases e; exact .cons q (getAll_at μ r)
theorem mapMuts_at {g : Nat → Option D} : ∀ {xs ys : List D}, mapMuts g xs = some ys → Paired (fun x y => mapMut g x = some y) xs ys
  | [], _, e => by cases e; exact .nil
  | x :: xs, ys, e => by
    unfold mapMuts at e
    cases q : mapMut g x with
    | none => rw [q] at e; cases e
    | some a =>
      rw [q] at e
      cases r : mapMuts g xs with
      | none => rw [r] at e; cases e
      | some b => rw [r] at e; cases e; exact .cons q (mapMuts_at r)
theorem Paired.comp {α β γ : Type} {F : α → β → Prop} {G : β → γ → Prop} : ∀ {xs : List α} {ys : List β} {zs : List γ}, Paired F xs ys → Paired G ys zs → Paired (fun a c => ∃ b, F a b ∧ G b c) xs zs
  | _, _, _, .nil, .nil => .nil
  | _, _, _, .cons a t, .cons b u => .cons ⟨_, a, b⟩ (Paired.comp t u)
theorem Paired.mapL {α β γ : Type} {F : α → β → Prop} {h : γ → α} : ∀ {xs : List γ} {ys : List β}, Paired (fun c b => F (h c) b) xs ys → Paired F (xs.map h) ys
  | _, _, .nil => .nil
  | _, _, .cons a t => .cons a (Paired.mapL t)
/-- the callee's places -/
def sel (ρ : List Addr) (ks : List Nat) : List Addr := ks.map fun k => ρ.getD k 0
theorem sel_at {ks : List Nat} {i k : Nat} {a : Addr} (h : ks[i]? = some k) (hk : ρ[k]? = some a) : (sel ρ ks)[i]? = some a := by
  unfold sel
  rw [List.getElem?_map, h]
  show some (ρ.getD k 0) = some a
  rw [List.getD_eq_getElem?_getD, hk]
  rfl
theorem wayIn (hr : Rep K φ ρ μ H) (ks : List Nat) : Way (K := K) φ φ ρ (sel ρ ks) H H fun k => (idx? ks k).map D.ob := ⟨fun _ n _ => n, fun _ _ _ _ h => h, fun k a d hk e => by
  cases q : idx? ks k with
  | none => rw [q] at e; cases e
  | some i => rw [q] at e; cases e; exact .ob (sel_at (idx_some q) hk)⟩
theorem Rep.get (hr : Rep K φ ρ μ H) {k : Nat} {d : D} (h : μ[k]? = some d) : ∃ a, ρ[k]? = some a ∧ At K φ ρ H a d := by
  have lt := (List.getElem?_eq_some_iff.mp h).1
  rw [← hr.lens] at lt
  have e := List.getElem?_eq_getElem lt
  exact ⟨_, e, hr.at e h⟩
theorem repIn (hr : Rep K φ ρ μ H) {ks : List Nat} (nd : ks.Nodup) {os μ' : List D} (e1 : getAll μ ks = some os) (e2 : mapMuts (fun k => (idx? ks k).map D.ob) os = some μ') : Rep K φ (sel ρ ks) μ' H := by
  have all := getAll_at μ e1
  have inr : ∀ k ∈ ks, ∃ a, ρ[k]? = some a := by
    intro k hk
    have : ∀ {ks : List Nat} {os : List D}, Paired (fun k d => μ[k]? = some d) ks os → k ∈ ks → ∃ d, μ[k]? = some d := by
      intro ks os p
      induction p with
      | nil => intro h; cases h
      | cons a t ih =>
        intro h
        rcases List.mem_cons.mp h with h | h
        · exact ⟨_, h ▸ a⟩
        · exact ih h
    obtain ⟨d, hd⟩ := this all hk
    obtain ⟨a, ha, _⟩ := hr.get hd
    exact ⟨a, ha⟩
  refine ⟨?_, fun a ha => ?_, hr.al, ?_, hr.tb⟩
  · unfold sel
    have inj : ∀ x ∈ ks, ∀ y ∈ ks, ρ.getD x 0 = ρ.getD y 0 → x = y := by
      intro x hx y hy e
      obtain ⟨a, ha⟩ := inr x hx
      obtain ⟨b, hb⟩ := inr y hy
      have e2 : a = b := by simpa [List.getD_eq_getElem?_getD, ha, hb] using e
      subst e2
      have ⟨l1, q1⟩ := List.getElem?_eq_some_iff.mp ha
      have ⟨l2, q2⟩ := List.getElem?_eq_some_iff.mp hb
      exact (List.getElem?_inj l1 hr.nd).mp (ha.trans hb.symm)
    have : ∀ {l : List Nat}, l.Nodup → (∀ x ∈ l, x ∈ ks) → (l.map fun k => ρ.getD k 0).Nodup := by
      intro l
      induction l with
      | nil => intro _ _; exact List.nodup_nil
      | cons x l ih =>
        intro n h
        have ⟨n1, n2⟩ := List.nodup_cons.mp n
        rw [List.map_cons]
        refine List.nodup_cons.mpr ⟨fun z => ?_, ih n2 fun y hy => h y (List.mem_cons_of_mem _ hy)⟩
        obtain ⟨y, hy, e⟩ := List.mem_map.mp z
        exact n1 (inj y (h y (List.mem_cons_of_mem _ hy)) x (h x List.mem_cons_self) e ▸ hy)
    exact this nd fun _ h => h
  · unfold sel at ha
    obtain ⟨k, hk, rfl⟩ := List.mem_map.mp ha
    obtain ⟨a, h⟩ := inr k hk
    rw [List.getD_eq_getElem?_getD, h]
    exact hr.sub a (List.mem_of_getElem? h)
  · have both := Paired.comp all (mapMuts_at e2)
    refine Paired.mapL (Paired.mapP both fun k d ⟨o, h1, h2⟩ => ?_)
    obtain ⟨a, ha, hat⟩ := hr.get h1
    have e : ρ.getD k 0 = a := by rw [List.getD_eq_getElem?_getD, ha]; rfl
    show At K φ (sel ρ ks) H (ρ.getD k 0) d
    rw [e]
    obtain ⟨_, _, h'⟩ := At.way (wayIn hr ks) hat (fun o _ ho => ho) h2
    exact h'
theorem wb_at (ks : List Nat) (os : List D) : ∀ (n : Nat) (μ : Sto) (k : Nat), (wb ks os n μ)[k]? = (μ[k]?).map fun d => match idx? ks (n + k) with
    | some i => os.getD i d
    | none => d
  | n, [], k => by simp [wb]
  | n, d :: μ, 0 => by simp [wb]
  | n, d :: μ, k + 1 => by
    have := wb_at ks os (n + 1) μ k
    rw [show n + 1 + k = n + (k + 1) by omega] at this
    simpa [wb] using this
theorem wb_len (ks : List Nat) (os : List D) : ∀ (n : Nat) (μ : Sto), (wb ks os n μ).length = μ.length
  | n, [] => rfl
  | n, d :: μ => by simp [wb, wb_len ks os (n + 1) μ]
theorem Paired.of_at {α β : Type} {F : α → β → Prop} : ∀ {xs : List α} {ys : List β}, xs.length = ys.length → (∀ (i : Nat) x y, xs[i]? = some x → ys[i]? = some y → F x y) → Paired F xs ys
  | [], [], _, _ => .nil
  | [], _ :: _, h, _ => by cases h
  | _ :: _, [], h, _ => by cases h
  | x :: xs, y :: ys, h, k => .cons (k 0 x y rfl rfl) (Paired.of_at (by simpa using h) fun i a b ha hb => k (i + 1) a b (by simpa using ha) (by simpa using hb))
/-- behind the call: the caller's state -/
theorem backTo' (hr : Rep K φ ρ μ H) {ks : List Nat} (nd : ks.Nodup) {os : List D} (e1 : getAll μ ks = some os) (l : Later K φ (sel ρ ks) H φ1 ρ1 μ1 H1) {os' : List D} (eo : mapMuts (backN ks μ.length) μ1 = some os') :
    ∃ ps, Later K φ ρ H φ1 (ρ ++ ps) (wb ks os' 0 μ ++ os'.drop ks.length) H1 ∧ Way (K := K) φ1 φ1 ρ1 (ρ ++ ps) H1 H1 (backN ks μ.length) := by
  obtain ⟨ps, p1, p2, p3⟩ := l.ps
  have all := getAll_at μ e1
  have inr : ∀ i k, ks[i]? = some k → ∃ a, ρ[k]? = some a := fun i k hk => by
    obtain ⟨d, _, hd⟩ := Ow.Paired.at all hk
    obtain ⟨a, ha, _⟩ := hr.get hd
    exact ⟨a, ha⟩
  have sl : (sel ρ ks).length = ks.length := by simp [sel]
  have sub : ∀ a ∈ sel ρ ks, a ∈ ρ := fun a ha => by
    unfold sel at ha
    obtain ⟨k, hk, rfl⟩ := List.mem_map.mp ha
    obtain ⟨i, hi⟩ := List.getElem?_of_mem hk
    obtain ⟨a, h⟩ := inr i k hi
    rw [List.getD_eq_getElem?_getD, h]
    exact List.mem_of_getElem? h
  have wB : Way (K := K) φ1 φ1 ρ1 (ρ ++ ps) H1 H1 (backN ks μ.length) := ⟨fun _ n _ => n, fun _ _ _ _ h => h, fun i a d hi e => by
    unfold backN at e
    cases e
    refine .ob ?_
    rw [p1] at hi
    by_cases c : i < ks.length
    · have hi' : (sel ρ ks)[i]? = some a := by rw [List.getElem?_append_left (by rw [sl]; exact c)] at hi; exact hi
      have hk : ks[i]? = some ks[i] := List.getElem?_eq_getElem c
      obtain ⟨b, hb⟩ := inr i _ hk
      have := sel_at hk hb
      rw [hi'] at this
      cases this
      have : (bif decide (i < ks.length) then ks.getD i 0 else μ.length + (i - ks.length)) = ks[i] := by
        rw [decide_eq_true c]
        show ks.getD i 0 = _
        rw [List.getD_eq_getElem?_getD, hk]; rfl
      rw [this, List.getElem?_append_left (List.getElem?_eq_some_iff.mp hb).1]
      exact hb
    · have : (bif decide (i < ks.length) then ks.getD i 0 else μ.length + (i - ks.length)) = ρ.length + (i - ks.length) := by
        rw [decide_eq_false c, hr.lens]; rfl
      rw [this, List.getElem?_append_right (by omega)]
      rw [List.getElem?_append_right (by rw [sl]; omega), sl] at hi
      rw [show ρ.length + (i - ks.length) - ρ.length = i - ks.length by omega]
      exact hi⟩
  have disj : ∀ x ∈ ρ, x ∉ ps := fun x hx z => by
    obtain ⟨u, hu⟩ := hr.al x (hr.sub x hx)
    rw [p2 x z] at hu; cases hu
  have ndp : ps.Nodup := by
    have := l.rep.nd
    rw [p1] at this
    exact (List.nodup_append.mp this).2.1
  have l1 : ρ1.length = ks.length + ps.length := by rw [p1, List.length_append, sl]
  have lo : os'.length = ρ1.length := by rw [l.rep.lens]; exact (Paired.length (mapMuts_at eo)).symm
  have mm := mapMuts_at eo
  -- what stands at a place of the callee
  have cal : ∀ {i : Nat} {a : Addr} {d : D}, ρ1[i]? = some a → os'[i]? = some d → At K φ1 (ρ ++ ps) H1 a d := by
    intro i a d ha hd
    obtain ⟨d0, hd0, hat⟩ := Ow.Paired.at l.rep.ok ha
    obtain ⟨d1, hd1, em⟩ := Ow.Paired.at mm hd0
    rw [hd] at hd1
    cases hd1
    obtain ⟨_, _, h'⟩ := At.way wB hat (fun o _ ho => ho) em
    exact h'
  have wN : Way (K := K) φ φ1 ρ (ρ ++ ps) H H1 fun k => some (.ob k) := by
    refine ⟨fun a n ⟨o, ho⟩ z => ?_, fun a o n nt h => l.kp.no (fun z => n (hr.sub a (sub a z))) nt h, fun k a d hk e => ?_⟩
    · rcases (p3 a).mp z with z | z
      · exact n z
      · rw [p2 a z] at ho; cases ho
    · cases e
      exact .ob (by rw [List.getElem?_append_left (List.getElem?_eq_some_iff.mp hk).1]; exact hk)
  refine ⟨ps, ⟨⟨ps, rfl, p2, p3⟩, fun x o hx hh => l.kp x o (hx.imp (fun hx z => hx (sub x z)) id) hh, ⟨?_, fun a ha => ?_, l.rep.al, ?_, l.rep.tb⟩⟩, wB⟩
  · exact List.nodup_append.mpr ⟨hr.nd, ndp, fun x hx y hy z => disj x hx (z ▸ hy)⟩
  · rcases List.mem_append.mp ha with ha | ha
    · exact (p3 a).mpr (.inl (hr.sub a ha))
    · exact (p3 a).mpr (.inr ha)
  · refine Paired.of_at (by rw [List.length_append, List.length_append, wb_len, List.length_drop, lo, l1, ← hr.lens]; omega) fun k a d ha hd => ?_
    by_cases c : k < ρ.length
    · rw [List.getElem?_append_left c] at ha
      rw [List.getElem?_append_left (by rw [wb_len, ← hr.lens]; exact c), wb_at] at hd
      cases q : μ[k]? with
      | none => rw [q] at hd; cases hd
      | some d0 =>
        rw [q, Nat.zero_add] at hd
        cases r : idx? ks k with
        | none =>
          rw [r] at hd
          cases hd
          have na : a ∉ sel ρ ks := fun z => by
            unfold sel at z
            obtain ⟨k', hk', e⟩ := List.mem_map.mp z
            obtain ⟨i, hi⟩ := List.getElem?_of_mem hk'
            obtain ⟨b, hb⟩ := inr i k' hi
            rw [List.getD_eq_getElem?_getD, hb] at e
            cases e
            have := (List.getElem?_inj c hr.nd).mp (ha.trans hb.symm)
            subst this
            exact idx_none r hk'
          obtain ⟨u, hu⟩ := hr.al a (hr.sub a (List.mem_of_getElem? ha))
          exact At.move hr wN (hr.at ha q) (by rw [hu]; exact l.kp.no na ((hr.at ha q).noT hu) hu)
        | some i =>
          rw [r] at hd
          have hi := idx_some r
          have li := (List.getElem?_eq_some_iff.mp hi).1
          have h1 : ρ1[i]? = some a := by
            rw [p1, List.getElem?_append_left (by rw [sl]; exact li)]
            exact sel_at hi ha
          have lo' : i < os'.length := by rw [lo, l1]; omega
          have hd' : os'[i]? = some d := by
            rw [List.getElem?_eq_getElem lo']
            have hd : some (os'.getD i d0) = some d := hd
            rw [List.getD_eq_getElem?_getD, List.getElem?_eq_getElem lo'] at hd
            exact hd
          exact cal h1 hd'
    · rw [List.getElem?_append_right (by omega)] at ha
      rw [List.getElem?_append_right (by rw [wb_len, ← hr.lens]; omega), wb_len, ← hr.lens, List.getElem?_drop] at hd
      refine cal (i := ks.length + (k - ρ.length)) ?_ hd
      rw [p1, List.getElem?_append_right (by rw [sl]; omega), sl, show ks.length + (k - ρ.length) - ks.length = k - ρ.length by omega]
      exact ha
/-- f(..): the callee's promise from the caller's state -/
theorem callV_ok {n : Nat} {f : List D → M D} {ds : List D} {vs : List V} {Q : VK} {E : XK} (hr : Rep K φ ρ μ H) (hv : VsIs K φ ρ H vs ds) (p : Post K (VIs K) φ ρ H Q E (callV n f ds μ)) : spF K n f vs H Q E := by
  obtain ⟨c, p⟩ := guard_post p
  refine ⟨by rw [hv.length]; exact beq_iff_eq.mp c, ?_⟩
  dsimp only at p
  generalize hks : reach μ 1000 (mutsL ds) [] = ks at p
  have nd : ks.Nodup := by rw [← hks]; exact reach_nd μ _ _ _ List.nodup_nil
  cases e0 : mapMuts (fun k => (idx? ks k).map D.ob) ds with
  | none => rw [e0] at p; exact p.elim
  | some ds' =>
    rw [e0] at p
    dsimp only at p
    cases e1 : getAll μ ks with
    | none => rw [e1] at p; exact p.elim
    | some os =>
      rw [e1] at p
      dsimp only [Option.bind_some] at p
      cases e2 : mapMuts (fun k => (idx? ks k).map D.ob) os with
      | none => rw [e2] at p; exact p.elim
      | some μ' =>
        rw [e2] at p
        dsimp only at p
        refine ⟨φ, sel ρ ks, ds', μ', VsIs.way (wayIn hr ks) hv e0, repIn hr nd e1 e2, ?_⟩
        cases q : f ds' μ' with
        | bad => rw [q] at p; exact p
        | ok d μ1 =>
          rw [q] at p
          dsimp only at p
          cases r1 : mapMut (backN ks μ.length) d with
          | none => rw [r1] at p; exact p.elim
          | some d' =>
            rw [r1] at p
            cases r2 : mapMuts (backN ks μ.length) μ1 with
            | none => rw [r2] at p; exact p.elim
            | some os' =>
              rw [r2] at p
              intro φ1 ρ1 v H1 l h
              obtain ⟨ps, l2, w2⟩ := backTo' hr nd e1 l r2
              exact p _ _ _ _ l2 (VIs.way w2 h r1)
        | exc x μ1 =>
          rw [q] at p
          dsimp only at p
          cases r1 : mapMuts (backN ks μ.length) x.xs with
          | none => rw [r1] at p; exact p.elim
          | some xs =>
            rw [r1] at p
            cases r2 : mapMuts (backN ks μ.length) μ1 with
            | none => rw [r2] at p; exact p.elim
            | some os' =>
              rw [r2] at p
              intro φ1 ρ1 H1 cls dd l h
              obtain ⟨ps, l2, w2⟩ := backTo' hr nd e1 l r2
              obtain ⟨h1, d, vs, h2, h3, h4, h5⟩ := h
              exact p _ _ _ _ _ l2 ⟨h1, d, vs, h2, h3, h4, VsIs.way w2 h5 r1⟩
/-! ### a def's end -/
theorem wayFz (hr : Rep K φ ρ μ H) (l : Later K φ ρ H φ1 ρ1 μ1 H1) (n : Nat) : Way (K := K) φ1 φ ρ1 ρ H1 H1 (fz μ.length μ1 n) := by
  obtain ⟨ps, p1, p2, p3⟩ := l.ps
  have low : ∀ {k : Nat} {a : Addr}, ρ1[k]? = some a → k < μ.length → VIs K φ ρ H1 (.ref a) (.ob k) := fun {k a} hk c => by
    refine .ob ?_
    rw [p1, List.getElem?_append_left (by rw [hr.lens]; exact c)] at hk
    exact hk
  induction n with
  | zero =>
    refine ⟨fun a n _ z => n ((p3 a).mpr (.inl z)), fun _ _ _ _ h => h, fun k a d hk e => ?_⟩
    have e : (bif decide (k < μ.length) then some (D.ob k) else none) = some d := e
    by_cases c : k < μ.length
    · rw [decide_eq_true c] at e; cases e; exact low hk c
    · rw [decide_eq_false c] at e; cases e
  | succ n ih =>
    refine ⟨fun a n _ z => n ((p3 a).mpr (.inl z)), fun _ _ _ _ h => h, fun k a d hk e => ?_⟩
    have e : (bif decide (k < μ.length) then some (D.ob k) else (μ1[k]?).bind (mapMut (fz μ.length μ1 n))) = some d := e
    by_cases c : k < μ.length
    · rw [decide_eq_true c] at e; cases e; exact low hk c
    · rw [decide_eq_false c] at e
      have e : (μ1[k]?).bind (mapMut (fz μ.length μ1 n)) = some d := e
      cases q : μ1[k]? with
      | none => rw [q] at e; cases e
      | some d0 =>
        rw [q] at e
        have e : mapMut (fz μ.length μ1 n) d0 = some d := e
        obtain ⟨_, _, h'⟩ := At.way ih (l.rep.at hk q) (fun o _ ho => ho) e
        refine .obj h' fun z => ?_
        have : a ∈ ps := by
          rw [p1, List.getElem?_append_right (by rw [hr.lens]; omega)] at hk
          exact List.mem_of_getElem? hk
        obtain ⟨u, hu⟩ := hr.al a z
        rw [p2 a this] at hu; cases hu
theorem laterFz (hr : Rep K φ ρ μ H) (l : Later K φ ρ H φ1 ρ1 μ1 H1) {μ2 : List D} (e : mapMuts (fz μ.length μ1 20) (μ1.take μ.length) = some μ2) : Later K φ ρ H φ ρ μ2 H1 := by
  obtain ⟨ps, p1, p2, p3⟩ := l.ps
  refine ⟨⟨[], by simp, by simp, by simp⟩, l.kp, ⟨hr.nd, hr.sub, fun a z => l.rep.al a ((p3 a).mpr (.inl z)), ?_, l.rep.tb⟩⟩
  have mm := mapMuts_at e
  have ll : ρ1.length = μ1.length := l.rep.lens
  have lr : ρ.length = μ.length := hr.lens
  have l1 : ρ1.length = ρ.length + ps.length := by rw [p1, List.length_append]
  have ml : μ2.length = μ.length := by rw [← Paired.length mm, List.length_take]; omega
  refine Paired.of_at (by rw [ml, lr]) fun k a d ha hd => ?_
  have c : k < μ.length := by rw [← lr]; exact (List.getElem?_eq_some_iff.mp ha).1
  have h1 : ρ1[k]? = some a := by rw [p1, List.getElem?_append_left (by rw [lr]; exact c)]; exact ha
  obtain ⟨d0, hd0, hat⟩ := Ow.Paired.at l.rep.ok h1
  have hd1 : (μ1.take μ.length)[k]? = some d0 := by rw [List.getElem?_take_of_lt c]; exact hd0
  obtain ⟨d1, hd2, em⟩ := Ow.Paired.at mm hd1
  rw [hd] at hd2
  cases hd2
  obtain ⟨_, _, h'⟩ := At.way (wayFz hr l 20) hat (fun o _ ho => ho) em
  exact h'
theorem finish_ok {keep : Bool} {d : D} {v : V} {Q : VK} {E : XK} (hr : Rep K φ ρ μ H) (l : Later K φ ρ H φ1 ρ1 μ1 H1) (h : VIs K φ1 ρ1 H1 v d) (p : Post K (VIs K) φ ρ H Q E (finish keep μ.length d μ1)) : Q v H1 := by
  unfold finish at p
  cases keep with
  | true => exact p _ _ _ _ l h
  | false =>
    have p : Post K (VIs K) φ ρ H Q E (match mapMut (fz μ.length μ1 20) d, mapMuts (fz μ.length μ1 20) (μ1.take μ.length) with
      | some d', some μ' => .ok d' μ'
      | _, _ => .bad) := p
    cases r1 : mapMut (fz μ.length μ1 20) d with
    | none => rw [r1] at p; exact p.elim
    | some d' =>
      rw [r1] at p
      cases r2 : mapMuts (fz μ.length μ1 20) (μ1.take μ.length) with
      | none => rw [r2] at p; exact p.elim
      | some μ2 =>
        rw [r2] at p
        exact p _ _ _ _ (laterFz hr l r2) (VIs.way (wayFz hr l 20) h r1)
theorem finishX_ok {keep : Bool} {x : Ex} {cls : Value} {dd : Option Addr} {Q : VK} {E : XK} (hr : Rep K φ ρ μ H) (l : Later K φ ρ H φ1 ρ1 μ1 H1) (h : XIs K φ1 ρ1 H1 cls dd x) (p : Post K (VIs K) φ ρ H Q E (finishX keep μ.length x μ1)) : E cls dd H1 := by
  unfold finishX at p
  cases keep with
  | true => exact p _ _ _ _ _ l h
  | false =>
    have p : Post K (VIs K) φ ρ H Q E (match mapMuts (fz μ.length μ1 20) x.xs, mapMuts (fz μ.length μ1 20) (μ1.take μ.length) with
      | some xs, some μ' => .exc ⟨x.C, x.ns, xs⟩ μ'
      | _, _ => .bad) := p
    cases r1 : mapMuts (fz μ.length μ1 20) x.xs with
    | none => rw [r1] at p; exact p.elim
    | some xs =>
      rw [r1] at p
      cases r2 : mapMuts (fz μ.length μ1 20) (μ1.take μ.length) with
      | none => rw [r2] at p; exact p.elim
      | some μ2 =>
        rw [r2] at p
        obtain ⟨h1, d, vs, h2, h3, h4, h5⟩ := h
        exact p _ _ _ _ _ (laterFz hr l r2) ⟨h1, d, vs, h2, h3, h4, VsIs.way (wayFz hr l 20) h5 r1⟩
theorem env0_is {N : List Str} {vs : List V} {ds : List D} (h : VsIs K φ ρ H vs ds) : EnvIs K φ ρ H (L2.start N vs) (env0 N.length ds) := by
  unfold L2.start env0
  rw [← h.length]
  have rep : ∀ n, EnvIs K φ ρ H (List.replicate n none) (List.replicate n none) := by
    intro n
    induction n with
    | zero => exact .nil
    | succ n ih => exact .cons trivial ih
  have app : ∀ {vs : List V} {ds : List D} {σ : L2.St} {Γ : Env}, VsIs K φ ρ H vs ds → EnvIs K φ ρ H σ Γ → EnvIs K φ ρ H (vs.map some ++ σ) (ds.map some ++ Γ) := by
    intro vs
    induction vs with
    | nil => intro ds σ Γ h e; cases h; exact e
    | cons v vs ih => intro ds σ Γ h e; cases h with
      | cons h t => exact .cons h (ih t e)
  exact app h (rep _)
end
section
variable {P : Program} {w : World} {K : PySem.W.Frag} {mg : Str → Option Value} {base : Heap} {x qual : Str} {params : Arguments} {body : List Stmt} {scope : Scope} {dvs : List V} {kws : List (Str × V)} {f : Addr} {fd : FuncData}
/-- THE RULE for a def: its body's function -/
theorem fun_ok {N ps : List Str} {k a NN : Nat} {b : SF} {keep : Bool} (F : FunD K x qual params body scope dvs kws f fd) (S : FnScope N ps scope)
    (hb : ∀ (cdv : Value) (A : Around) (outer : List PySem.Env) (s : Shared) (H : Hp) (E : XK), Room k (A.deeper (envOfC qual scope s.heap.objs.size f cdv)) → PSs (cxOf (L2.CX P w) P w K mg base N qual scope f cdv A outer s H E) body (tS K (fun _ => E) b)) (ha : ps.length = a := by rfl) (hN : N.length = NN := by rfl) :
    FnOk P w K mg base (L2.CX P w) (k + 1) f fd ps (spF K a (funF keep NN b)) := by
  subst ha hN
  refine F.ok S (fun vs H Q E h => h.1) fun cdv A outer s H vs Q E hr h => ⟨_, hb cdv A outer s H E hr, ?_⟩
  obtain ⟨_, φ, ρ, ds, μ, hv, hrep, p⟩ := h
  refine ⟨φ, ρ, env0 N.length ds, μ, env0_is hv, hrep, ?_⟩
  unfold funF at p
  cases q : b (env0 N.length ds) μ with
  | bad => rw [q] at p; exact p
  | exc x m => rw [q] at p; exact p
  | ok fl m =>
    rw [q] at p
    cases fl with
    | nx Γ => exact fun φ1 ρ1 σ1 H1 l _ => finish_ok hrep l .non p
    | rt d => exact fun φ1 ρ1 v H1 l h => finish_ok hrep l h p
    | bk Γ => exact p.elim
    | ct Γ => exact p.elim
    | ex x Γ => exact fun φ1 ρ1 σ1 H1 cls dd l _ h => finishX_ok hrep l h p
end
/-! ### calls -/
abbrev wx (W : L2.St → XK) : WX := fun c d σ H => W σ c d H
theorem takesE {X : Cx} {E : XK} (hs : X.stack = X.env :: X.outer := by rfl) (hf : X.env.frame = some X.env.locals := by rfl) (hex : X.ex = [] := by rfl) {E₁ : Value → Shared → Prop}
    (hx : X.xe = fun e s' => wpAny (model X.prog X.w) X.A (leaving X.env e) (fun _ s'' => L2.CX X.prog X.w X.outer X.H_0 X.s_0 E e s'') E₁ s' := by rfl) : Takes X (wx fun _ => E) := takes_of hs hf hex hx
theorem takes0' {X : Cx} : Takes X (wx W0) := fun u s' ⟨_, _, _, _, _, _, _, _, _, _, _, _, _, _, _, _, h⟩ => h.elim
section
variable {X : Cx} {K : PySem.W.Frag} {W : L2.St → XK} {k : Nat} {x m : Str} {ps : List Str} {f : List D → M D} {e : Expr} {es : List Expr} {p pos : Pos} {r : AF}
theorem fCall {n : Nat} (G : Ow.Glob X.prog X.w X.K X.mg X.base (L2.CX X.prog X.w) k x ps (spF K n f)) (hr : Room k X.A) (tk : Takes X (wx W)) (ha : PA X (e :: es) (tA K W r)) (hg : Gl X x := by rfl) (hdb : (x == ("__debug__" : Str)) = false := by decide)
    (he : starEach (e :: es) X.env = (false, eval e X.env) :: starEach es X.env := by rfl) (hpl : (backTo pos (starEach es X.env)).any (·.1) = false := by rfl) : PE X (.Call (.Name x p) (e :: es) [] pos) (tE K W (eCall (callV n f) r)) := by
  obtain ⟨fa, fd, hm, hk, hb, F⟩ := G
  refine (pe_callSD (E := W) (dvs := []) F hr hg hm hk hb .nil (fun σ => passAt tk σ) ha hdb he hpl).vimp fun σ H Q ⟨φ, ρ, Γ, μ, he, hr, p⟩ => stepA he hr p fun l he h p => ?_
  rw [List.append_nil]
  exact callV_ok l.rep h p
end
end Vl

/-! calls of classes and methods; fields -/
namespace Vl
open PySem PySem.Spec PyProof.Rows L2
def makeV (C : Str) (n : Nat) (f : List D → M D) (keep : Bool) (dv : List D) (ds : List D) : M D := fun μ => match callV n f (.ob μ.length :: (ds ++ dv)) (μ ++ [.ins C [] []]) with
  | .ok .non μ2 => finish keep μ.length (.ob μ.length) μ2
  | .exc x μ2 => finishX keep μ.length x μ2
  | _ => .bad
/-- o.m(..), o of the class C -/
def methV (C m : Str) (n : Nat) (f : List D → M D) (dv : List D) (x : D) (ds : List D) : M D := fun μ => match look μ x with
  | .ins C' ns _ => M.guard (C' == C && !ns.contains m) (callV n f (x :: (ds ++ dv))) μ
  | _ => .bad
/-- values that stand for data anywhere -/
def Const (K : PySem.W.Frag) (vs : List V) (ds : List D) : Prop := ∀ φ ρ H, VsIs K φ ρ H vs ds
theorem Const.nil {K : PySem.W.Frag} : Const K [] [] := fun _ _ _ => .nil
section
variable {K : PySem.W.Frag} {φ : Addr → Prop} {ρ : List Addr} {μ : Sto} {H : Hp}
theorem makeV_ok {C : Str} {n : Nat} {f : List D → M D} {keep : Bool} {dv ds : List D} {vs dvs : List V} {Q : VK} {E : XK} (hr : Rep K φ ρ μ H) (hv : VsIs K φ ρ H vs ds) (hd : Const K dvs dv) (p : Post K (VIs K) φ ρ H Q E (makeV C n f keep dv ds μ)) :
    ∀ x dx, H x = none → H dx = none → dx ≠ x → spF K n f (.ref x :: (vs ++ dvs)) (upd (upd H dx (.own x)) x (.ins (He.ga K C) dx [])) (fun v H2 => v = .non ∧ Q (.ref x) H2) E := by
  intro x dx hx hdx ne
  have l1 : Later K φ ρ H φ ρ μ (upd H dx (.own x)) := Later.fresh hr hdx
  have hx1 : upd H dx (.own x) x = none := by rw [upd_ne (Ne.symm ne)]; exact hx
  have l2 := Later.alloc (o := .ins (He.ga K C) dx []) (d := .ins C [] []) l1.rep hx1 (.ins (ns := []) (vs := []) upd_same rfl .nil)
  have l := l1.trans l2
  have hself : VIs K (fun z => φ z ∨ z ∈ [x]) (ρ ++ [x]) (upd (upd H dx (.own x)) x (.ins (He.ga K C) dx [])) (.ref x) (.ob μ.length) := .ob (by rw [← hr.lens]; simp)
  refine callV_ok (ds := .ob μ.length :: (ds ++ dv)) l.rep (.cons hself ((l.vals hr hv).append (hd _ _ _))) ?_
  have p : Post K (VIs K) φ ρ H Q E (match callV n f (.ob μ.length :: (ds ++ dv)) (μ ++ [.ins C [] []]) with
    | .ok .non μ2 => finish keep μ.length (.ob μ.length) μ2
    | .exc x μ2 => finishX keep μ.length x μ2
    | _ => .bad) := p
  cases q : callV n f (.ob μ.length :: (ds ++ dv)) (μ ++ [.ins C [] []]) with
  | bad => rw [q] at p; exact p
  | exc y μ2 => rw [q] at p; exact fun φ2 ρ2 H2 cls dd l3 h => finishX_ok hr (l.trans l3) h p
  | ok d μ2 =>
    rw [q] at p
    cases d <;> first | exact p.elim | skip
    exact fun φ2 ρ2 v H2 l3 h => ⟨h.nonE, finish_ok hr (l.trans l3) (l3.val l.rep hself) p⟩
theorem VIs.lookI (r : Rep K φ ρ μ H) {v : V} {d : D} {C : Str} {ns : List Str} {xs : List D} (h : VIs K φ ρ H v d) (e : look μ d = .ins C ns xs) : ∃ a dx vs, v = .ref a ∧ H a = some (.ins (He.ga K C) dx (ns.zip vs)) ∧ ns.length = vs.length ∧ VsIs K φ ρ H vs xs := by
  cases h with
  | obj h n => cases h with
    | ins h l t => cases e; exact ⟨_, _, _, rfl, h, l, t⟩
    | _ => cases e
  | @ob k a h =>
    have e : (μ[k]?).getD .non = .ins C ns xs := e
    cases q : μ[k]? with
    | none => rw [q] at e; cases e
    | some d =>
      rw [q] at e
      have e : d = .ins C ns xs := e
      subst e
      cases r.at h q with
      | ins h l t => exact ⟨_, _, _, rfl, h, l, t⟩
  | _ => cases e
theorem zip_none {ns : List Str} {m : Str} : ∀ {vs : List V}, ns.contains m = false → (ns.zip vs).lookup m = none := by
  induction ns with
  | nil => intro vs _; rfl
  | cons n ns ih =>
    intro vs h
    cases vs with
    | nil => rfl
    | cons v vs =>
      have h2 : (m == n) = false ∧ ns.contains m = false := by simpa [List.contains_cons, Bool.or_eq_false_iff] using h
      rw [List.zip_cons_cons, List.lookup_cons, h2.1]
      exact ih h2.2
theorem methV_ok {C m : Str} {n : Nat} {f : List D → M D} {dv ds : List D} {x : D} {v : V} {vs dvs : List V} {Q : VK} {E : XK} (hr : Rep K φ ρ μ H) (hx : VIs K φ ρ H v x) (hv : VsIs K φ ρ H vs ds) (hd : Const K dvs dv) (p : Post K (VIs K) φ ρ H Q E (methV C m n f dv x ds μ)) :
    spF K n f (v :: (vs ++ dvs)) H Q E := by
  unfold methV at p
  cases q : look μ x <;> rw [q] at p <;> first | exact p.elim | skip
  obtain ⟨c, p⟩ := guard_post p
  exact callV_ok hr (.cons hx (hv.append (hd _ _ _))) p
end
section
variable {X : Cx} {CX : CXT} {k : Nat} {C : Addr} {ps : List Str} {sp : Sp} {dvs : List V} {E : L2.St → XK} {x m : Str} {p pos apos : Pos} {e o : Expr} {es : List Expr} {ta : TE} {t : TA}
/-- a class called: what its __init__ may let out is wished for at the slots -/
theorem runMk {pins : List (Addr × Obj)} {σ : L2.St} {H : Hp} {s : Shared} {Q : VK} {us : List Value} {vs : List V} (G : Ow.Maker X.prog X.w X.K X.mg X.base CX k x C ps dvs sp) (hr : Room (k + 1) X.A) (hx : PassesAt CX X σ (E σ)) (I : Inv X pins σ H s) (r : Vals vs us)
    (h : ∀ x dx, H x = none → H dx = none → dx ≠ x → sp (.ref x :: (vs ++ dvs)) (upd (upd H dx (.own x)) x (.ins C dx [])) (fun v H2 => v = .non ∧ Q (.ref x) H2) (E σ)) : wpAny (model X.prog X.w) X.A (call (.ref C) us) (EP X pins σ Q) X.xe s := by
  obtain ⟨f, fd, ds, _, M, hb, hd, F⟩ := G
  have big : s.heap.objs.size ≠ s.heap.objs.size + 1 := by omega
  have q0 := h _ _ (I.hok.fresh (by omega : s.heap.objs.size ≤ s.heap.objs.size + 1)) (I.hok.fresh (by omega : s.heap.objs.size ≤ s.heap.objs.size)) big
  have J : Inv X pins σ _ _ := Inv.made (C := C) I
  have rr : Vals (V.ref (s.heap.objs.size + 1) :: (vs ++ dvs)) (.ref (s.heap.objs.size + 1) :: (us ++ ds)) := .cons rfl (r.append hd)
  have ln : (Value.ref (s.heap.objs.size + 1) :: us ++ ds).length = ps.length := rr.length.symm.trans (F.len _ _ _ _ q0)
  have run := F.run _ X.stack _ _ ⟨.ref (s.heap.objs.size + 1) :: us, []⟩ _ _ _ (E σ) (hr.make C us []) (J.env0.make C us []) (hb _ _ J.kIn ln) rr q0
  refine wpAny_call (make_map (f := f) I.kIn M.makes M.init (beq_iff_eq.mp M.fn) (codeAny_mono run fun z s' hz => ?_))
  match z, hz with
  | .error e, hz => exact hx pins _ _ e s' J hz
  | .ok (.ret u), hz =>
    obtain ⟨v, G', J', rv, rfl, q3⟩ := J.after hz
    exact ⟨rv, .ref (s.heap.objs.size + 1), G', J', rfl, q3⟩
  | .ok .next, hz => exact hz.elim
  | .ok .brk, hz => exact hz.elim
  | .ok .cont, hz => exact hz.elim
def tMkS (C : Addr) (sp : Sp) (dvs : List V) (E : L2.St → XK) (t : TA) : TE := fun σ H Q => t σ H fun vs H1 => ∀ x dx, H1 x = none → H1 dx = none → dx ≠ x → sp (.ref x :: (vs ++ dvs)) (upd (upd H1 dx (.own x)) x (.ins C dx [])) (fun v H2 => v = .non ∧ Q (.ref x) H2) (E σ)
theorem peMk (G : Ow.Maker X.prog X.w X.K X.mg X.base CX k x C ps dvs sp) (hr : Room (k + 1) X.A) (hx : ∀ σ, PassesAt CX X σ (E σ)) (ha : PA X (e :: es) t) (hg : Gl X x := by rfl) (hdb : (x == ("__debug__" : Str)) = false := by decide)
    (he : starEach (e :: es) X.env = (false, eval e X.env) :: starEach es X.env := by rfl) (hpl : (backTo pos (starEach es X.env)).any (·.1) = false := by rfl) : PE X (.Call (.Name x p) (e :: es) [] pos) (tMkS C sp dvs E t) := by
  have G' := G
  obtain ⟨f, fd, ds, hm, M, _⟩ := G
  exact ⟨fun pins s σ H Q I h => wpAny_Call_Name_kw (ld_glob I hg hm (PySem.W.callWith_K (h₀ := X.base) I.ok.mod.kin M.kp (thn (ha.run pos pins s σ H _ I h) fun us s1 ⟨vs, H1, I1, r, q⟩ => ⟨I1.kIn, runMk (E := E) G' hr (hx σ) I1 r q⟩) he hpl) hdb)⟩
theorem peMk0 (G : Ow.Maker X.prog X.w X.K X.mg X.base CX k x C ps dvs sp) (hr : Room (k + 1) X.A) (hx : ∀ σ, PassesAt CX X σ (E σ)) (hg : Gl X x := by rfl) (hdb : (x == ("__debug__" : Str)) = false := by decide) : PE X (.Call (.Name x p) [] [] pos) (tMkS C sp dvs E tNil) := by
  have G' := G
  obtain ⟨f, fd, ds, hm, M, _⟩ := G
  exact ⟨fun pins s σ H Q I h => wpAny_Call_Name_kw (ld_glob I hg hm (PySem.W.callWith_K0 I.kIn M.kp (runMk (us := []) (vs := []) (E := E) G' hr (hx σ) I .nil h)) hdb)⟩
def tMeS (C : Addr) (m : Str) (sp : Sp) (dvs : List V) (E : L2.St → XK) (ta : TE) (t : TA) : TE := fun σ H Q => ta σ H fun x H1 => ∃ a dx fs, x = .ref a ∧ H1 a = some (.ins C dx fs) ∧ fs.lookup m = none ∧ t σ H1 fun vs H2 => sp (x :: (vs ++ dvs)) H2 Q (E σ)
/-- a method, defaults filled up -/
def DunD (P : Program) (w : World) (K : PySem.W.Frag) (mg : Str → Option Value) (base : Heap) (CX : CXT) (k : Nat) (C : Addr) (m : Str) (ps : List Str) (dvs : List V) (sp : Sp) : Prop := ∃ f fd ds, Meth K C m f ∧ Binds K fd ps ds ∧ Vals dvs ds ∧ FnOk P w K mg base CX k f fd ps sp
theorem peMe {pl : Sem Bool} (he : PE X o ta) (c : Cls X.K C) (G : DunD X.prog X.w X.K X.mg X.base CX k C m ps dvs sp) (hr : Room k X.A) (hx : ∀ σ, PassesAt CX X σ (E σ)) (ha : PA X (e :: es) t)
    (hst : starEach (e :: es) X.env = (false, eval e X.env) :: starEach es X.env := by rfl) (hpl : (backTo pos (starEach es X.env)).any (·.1) = false := by rfl)
    (ht : eval (.Call (.Attribute o m apos) (e :: es) [] pos) X.env = (eval o X.env >>= fun ov => standAt apos.atName >>= fun _ => holding [ov] (getMethod ov m pl) >>= fun z => callWith pos z.1 z.2 (backTo pos (starEach (e :: es) X.env)) (backToKw pos (keywordEach [] X.env))) := by rfl) :
    PE X (.Call (.Attribute o m apos) (e :: es) [] pos) (tMeS C m sp dvs E ta t) := by
  obtain ⟨f, fd, ds, hm, hb, hd, F⟩ := G
  refine ⟨fun pins s σ H Q I h => PySem.W.methodCall_KW (pl := pl) (thn (he.run pins s σ H _ I h) fun u s1 ⟨x, H1, I1, rx, a, dx, fs, ex, ea, l, q⟩ => ?_) ht⟩
  subst ex
  obtain rfl : u = .ref a := rx
  exact getmeth_ok I1 ea c hm l (PySem.W.callWith_K (first := [.ref a]) (h₀ := X.base) I.ok.mod.kin hm.kp (thn (ha.run pos pins s1 σ H1 _ I1 q) fun us s2 ⟨vs, H2, I2, r, q2⟩ => ⟨I2.kIn, run_fnSD (E := E) (us := .ref a :: us) (vs := .ref a :: vs) F hr hb hd (hx σ) I2 (.cons rfl r) q2⟩) hst hpl)
theorem peMe0 {pl : Sem Bool} (he : PE X o ta) (c : Cls X.K C) (G : DunD X.prog X.w X.K X.mg X.base CX k C m ps dvs sp) (hr : Room k X.A) (hx : ∀ σ, PassesAt CX X σ (E σ))
    (ht : eval (.Call (.Attribute o m apos) [] [] pos) X.env = (eval o X.env >>= fun ov => standAt apos.atName >>= fun _ => holding [ov] (getMethod ov m pl) >>= fun z => callWith pos z.1 z.2 (backTo pos (starEach [] X.env)) (backToKw pos (keywordEach [] X.env))) := by rfl) :
    PE X (.Call (.Attribute o m apos) [] [] pos) (tMeS C m sp dvs E ta tNil) := by
  obtain ⟨f, fd, ds, hm, hb, hd, F⟩ := G
  refine ⟨fun pins s σ H Q I h => PySem.W.methodCall_KW (pl := pl) (thn (he.run pins s σ H _ I h) fun u s1 ⟨x, H1, I1, rx, a, dx, fs, ex, ea, l, q⟩ => ?_) ht⟩
  subst ex
  obtain rfl : u = .ref a := rx
  exact getmeth_ok I1 ea c hm l (PySem.W.callWith_K0 (first := [.ref a]) I1.kIn hm.kp (run_fnSD (E := E) (us := [.ref a]) (vs := [.ref a]) F hr hb hd (hx σ) I1 (.cons rfl .nil) q))
end
section
variable {X : Cx} {K : PySem.W.Frag} {W : L2.St → XK} {k n : Nat} {x m C : Str} {ps : List Str} {dvs : List V} {dv : List D} {f : List D → M D} {e o : Expr} {es : List Expr} {p pos apos : Pos} {r : AF} {fo fa : EF}
theorem fCall0 (G : Ow.Glob X.prog X.w X.K X.mg X.base (L2.CX X.prog X.w) k x ps (spF K n f)) (hr : Room k X.A) (tk : Takes X (wx W)) (hg : Gl X x := by rfl) (hdb : (x == ("__debug__" : Str)) = false := by decide) : PE X (.Call (.Name x p) [] [] pos) (tE K W (eCall (callV n f) aNil)) := by
  obtain ⟨fa, fd, hm, hk, hb, F⟩ := G
  refine ⟨fun pins s σ H Q I h => ?_⟩
  obtain ⟨φ, ρ, Γ, μ, he, hrep, q⟩ := h
  have q2 := callV_ok (vs := []) (E := W σ) hrep .nil q
  exact wpAny_Call_Name_kw (ld_glob I hg hm (PySem.W.callWith_K0 I.kIn hk (run_fnSD (E := W) (us := []) (vs := []) (dvs := []) F hr hb .nil (passAt tk σ) I .nil q2)) hdb)
theorem fMake {keep : Bool} (G : Ow.Maker X.prog X.w X.K X.mg X.base (L2.CX X.prog X.w) k C (He.ga K C) ps dvs (spF K n f)) (hd : Const K dvs dv) (hr : Room (k + 1) X.A) (tk : Takes X (wx W)) (ha : PA X (e :: es) (tA K W r)) (hg : Gl X C := by rfl) (hdb : (C == ("__debug__" : Str)) = false := by decide)
    (he : starEach (e :: es) X.env = (false, eval e X.env) :: starEach es X.env := by rfl) (hpl : (backTo pos (starEach es X.env)).any (·.1) = false := by rfl) : PE X (.Call (.Name C p) (e :: es) [] pos) (tE K W (eCall (makeV C n f keep dv) r)) :=
  (peMk (E := W) G hr (fun σ => passAt tk σ) ha hg hdb he hpl).vimp fun σ H Q ⟨φ, ρ, Γ, μ, he, hr, p⟩ => stepA he hr p fun l he h p => makeV_ok l.rep h hd p
theorem fMake0 {keep : Bool} (G : Ow.Maker X.prog X.w X.K X.mg X.base (L2.CX X.prog X.w) k C (He.ga K C) ps dvs (spF K n f)) (hd : Const K dvs dv) (hr : Room (k + 1) X.A) (tk : Takes X (wx W)) (hg : Gl X C := by rfl) (hdb : (C == ("__debug__" : Str)) = false := by decide) : PE X (.Call (.Name C p) [] [] pos) (tE K W (eCall (makeV C n f keep dv) aNil)) :=
  (peMk0 (E := W) G hr (fun σ => passAt tk σ) hg hdb).vimp fun σ H Q ⟨φ, ρ, Γ, μ, he, hr, p⟩ => makeV_ok (vs := []) hr .nil hd p
theorem methV_cls {φ : Addr → Prop} {ρ : List Addr} {μ : Sto} {H : Hp} {xd : D} {v : V} {ds : List D} {Q : VK} {E : XK} (hr : Rep K φ ρ μ H) (hx : VIs K φ ρ H v xd) (p : Post K (VIs K) φ ρ H Q E (methV C m n f dv xd ds μ)) : ∃ a dx fs, v = .ref a ∧ H a = some (.ins (He.ga K C) dx fs) ∧ fs.lookup m = none := by
  unfold methV at p
  cases q : look μ xd <;> rw [q] at p <;> first | exact p.elim | skip
  obtain ⟨c, _⟩ := guard_post p
  obtain ⟨c1, c2⟩ := Bool.and_eq_true_iff.mp c
  have e1 := beq_iff_eq.mp c1
  subst e1
  obtain ⟨a, dx, vs, h1, h2, h3, h4⟩ := hx.lookI hr q
  exact ⟨a, dx, _, h1, h2, zip_none (by simpa using c2)⟩
end
end Vl

/-! operators, subscripts, built-ins, fields -/
namespace Vl
open PySem PySem.Spec PyProof.Rows L2
def clsIs (C m : Str) (x : D) : M Unit := fun μ => match look μ x with
  | .ins C' ns _ => M.guard (C' == C && !ns.contains m) (M.pure ()) μ
  | _ => .bad
def eMeth (C m : Str) (n : Nat) (f : List D → M D) (dv : List D) (o : EF) (r : AF) : EF := fun Γ => M.bind (o Γ) fun x => M.bind (clsIs C m x) fun _ => M.bind (r Γ) fun ds => callV n f (x :: (ds ++ dv))
def eAlt (a b : EF) : EF := fun Γ => alt (a Γ) (b Γ)
/-- a operator of the class C -/
def ownB (C : Str) (f : List D → M D) (x y : D) : M D := fun μ => match look μ x, look μ y with
  | .ins C1 _ _, .ins C2 _ _ => M.guard (C1 == C && C2 == C) (calmM (callV 2 f [x, y])) μ
  | _, _ => .bad
/-- == where the right one may be None too -/
def ownEqO (C : Str) (f : List D → M D) (x y : D) : M D := fun μ => match look μ x, look μ y with
  | .ins C1 _ _, .ins C2 _ _ => M.guard (C1 == C && C2 == C) (calmM (callV 2 f [x, y])) μ
  | .ins C1 _ _, .non => M.guard (C1 == C && isN y) (calmM (callV 2 f [x, y])) μ
  | .non, .ins C2 _ _ => M.guard (C2 == C && isN x) (calmM (callV 2 f [y, x])) μ
  | .non, .non => M.guard (isN x && isN y) (M.pure (.bl true)) μ
  | _, _ => .bad
def ownIn (C : Str) (neg : Bool) (f : List D → M D) (x y : D) : M D := fun μ => match look μ y with
  | .ins C2 _ _ => M.guard (C2 == C) (M.bind (calmM (callV 2 f [y, x])) fun b => match b with
    | .bl c => M.pure (.bl (if neg then !c else c))
    | _ => M.fail) μ
  | _ => .bad
def eInst (C : Str) (n : Nat) (f : List D → M D) (o : EF) (r : AF) : EF := fun Γ => M.bind (o Γ) fun x => M.bind (clsIs C "__call__" x) fun _ => M.bind (r Γ) fun ds => M.bind (clsIs C "__call__" x) fun _ => calmM (callV n f (x :: ds))
def lk (f : Str) : List Str → List D → Option D
  | n :: ns, x :: xs => bif n == f then some x else lk f ns xs
  | _, _ => none
def fldD (Cs : List Str) (f : Str) (x : D) : M D := M.get fun μ => match look μ x with
  | .ins C ns xs => M.guard (Cs.contains C) (M.opt (lk f ns xs))
  | _ => M.fail
def eFld (Cs : List Str) (f : Str) (o : EF) : EF := fun Γ => M.bind (o Γ) (fldD Cs f)
def putD (f : Str) (y : D) : List Str → List D → List Str × List D
  | n :: ns, x :: xs => bif n == f then (n :: ns, y :: xs) else let r := putD f y ns xs; (n :: r.1, x :: r.2)
  | _, _ => ([f], [y])
def setFld (Cs : List Str) (f : Str) (o y : D) : M Unit := fun μ => match o with
  | .ob k => match μ[k]? with
    | some (.ins C ns xs) => M.guard (Cs.contains C && decide (ns.length < 1000)) (fun μ => .ok () (μ.set k (.ins C (putD f y ns xs).1 (putD f y ns xs).2))) μ
    | _ => .bad
  | _ => .bad
def sFldD (Cs : List Str) (f : Str) (o v : EF) : SF := fun Γ => up Γ (v Γ) fun y => up Γ (o Γ) fun x => up Γ (setFld Cs f x y) fun _ => M.pure (.nx Γ)
def lenD (xs : List D) : M D := match xs with
  | [x] => M.get fun μ => match look μ x with
    | .lst ys => M.pure (.int (ys.length : Nat))
    | .scr ys => M.pure (.int (ys.length : Nat))
    | .tup ys => M.pure (.int (ys.length : Nat))
    | .str z => M.guard (decide (z.length ≤ many)) (M.pure (.int (z.length : Nat)))
    | _ => M.fail
  | _ => M.fail
def seqD (μ : Sto) (x : D) : Option (List D) := match look μ x with
  | .scr ns => some (ns.map .int)
  | .lst ys => some ys
  | .tup ys => some ys
  | _ => none
def listD (m : Bool) (xs : List D) : M D := match xs with
  | [x] => M.get fun μ => match seqD μ x with
    | some ys => newL m ys
    | none => M.fail
  | _ => M.fail
def tupleD (xs : List D) : M D := match xs with
  | [.tup ys] => M.pure (.tup ys)
  | [x] => M.get fun μ => match look μ x with
    | .lst ys => M.pure (.tup ys)
    | _ => M.fail
  | _ => M.fail
def intD (xs : List D) : M D := match xs with
  | [.int i] => M.pure (.int i)
  | [.bl b] => M.pure (.int (if b then 1 else 0))
  | _ => M.fail
def intsD : List D → Option (List Int)
  | [] => some []
  | .int i :: r => (intsD r).map (i :: ·)
  | _ => none
def blsD : List D → Option (List Bool)
  | [] => some []
  | .bl i :: r => (blsD r).map (i :: ·)
  | _ => none
/-- put in order, each once -/
def insU (i : Int) : List Int → List Int
  | [] => [i]
  | j :: r => if i < j then i :: j :: r else if i = j then j :: r else j :: insU i r
def sortU (ns : List Int) : List Int := ns.foldr insU []
/-- sorted(set(xs)) of ints -/
def sortSetD (xs : List D) : M D := match xs with
  | [x] => M.get fun μ => match seqD μ x with
    | some ys => M.bind (M.opt (intsD ys)) fun ns => M.guard (decide (ns.length < 64)) (newL false ((sortU ns).map .int))
    | none => M.fail
  | _ => M.fail
def allD (xs : List D) : M D := match xs with
  | [x] => M.get fun μ => match look μ x with
    | .lst ys => M.bind (M.opt (blsD ys)) fun bs => M.pure (.bl (bs.all id))
    | _ => M.fail
  | _ => M.fail
def anyD (xs : List D) : M D := match xs with
  | [x] => M.get fun μ => match look μ x with
    | .lst ys => M.bind (M.opt (blsD ys)) fun bs => M.pure (.bl (bs.any id))
    | _ => M.fail
  | _ => M.fail
def sumD (xs : List D) : M D := match xs with
  | [x] => M.get fun μ => match look μ x with
    | .lst ys => M.bind (M.opt (intsD ys)) fun ns => M.pure (.int ns.sum)
    | _ => M.fail
  | _ => M.fail
def flatD : D → Bool
  | .non => true
  | .bl _ => true
  | .int _ => true
  | .str _ => true
  | _ => false
def eqF : D → D → Bool
  | .non, .non => true
  | .bl a, .bl b => a == b
  | .bl a, .int b => (if a then 1 else 0) == b
  | .int a, .bl b => a == (if b then 1 else 0)
  | .int a, .int b => a == b
  | .str a, .str b => a == b
  | _, _ => false
/-- x in xs, flat things -/
def inF (neg : Bool) (x y : D) : M D := M.get fun μ => match seqD μ y with
  | some ys => M.guard (flatD x && ys.all flatD) (M.pure (D.bl (if neg then !ys.any (fun z => eqF z x) else ys.any fun z => eqF z x)))
  | none => M.fail
def revD (m : Bool) (x : D) : M D := M.get fun μ => match look μ x with
  | .lst ys => newL m ys.reverse
  | _ => M.fail
section
variable {K : PySem.W.Frag} {φ : Addr → Prop} {ρ : List Addr} {μ : Sto} {H : Hp}
theorem calm_post {α β : Type} {R : (Addr → Prop) → List Addr → Hp → β → α → Prop} {Q : β → Hp → Prop} {W W' : XK} {m : M α} (p : Post K R φ ρ H Q W (calmM m μ)) : Post K R φ ρ H Q W' (m μ) := by
  unfold calmM at p
  cases q : m μ with
  | bad => rw [q] at p; exact p
  | exc x μ' => rw [q] at p; exact p.elim
  | ok a μ' => rw [q] at p; exact p
theorem bindOpt {α β γ : Type} {R : (Addr → Prop) → List Addr → Hp → β → α → Prop} {Q : β → Hp → Prop} {W : XK} {o : Option γ} {k : γ → M α} (p : Post K R φ ρ H Q W (M.bind (M.opt o) k μ)) : ∃ a, o = some a ∧ Post K R φ ρ H Q W (k a μ) := by
  cases o with
  | none => exact p.elim
  | some a => exact ⟨a, rfl, p⟩
theorem VIs.lookT (r : Rep K φ ρ μ H) {v : V} {d : D} {xs : List D} (h : VIs K φ ρ H v d) (e : look μ d = .tup xs) : ∃ a vs, v = .ref a ∧ SqT K H a vs ∧ VsIs K φ ρ H vs xs := by
  cases h with
  | obj h n => cases h with
    | tup h t => cases e; exact ⟨_, _, rfl, SqT.of h, t⟩
    | _ => cases e
  | wrT h t => cases e; exact ⟨_, _, rfl, .inr h, t⟩
  | @ob k a h =>
    have e : (μ[k]?).getD .non = .tup xs := e
    cases q : μ[k]? with
    | none => rw [q] at e; cases e
    | some d =>
      rw [q] at e
      have e : d = .tup xs := e
      subst e
      cases r.at h q with
      | tup h t => exact ⟨_, _, rfl, SqT.of h, t⟩
  | _ => cases e
/-- the script is no thing of the store -/
theorem VIs.lookScr (r : Rep K φ ρ μ H) {v : V} {d : D} {ns : List Int} (h : VIs K φ ρ H v d) (e : look μ d = .scr ns) : d = .scr ns := by
  cases h with
  | @ob k a h =>
    have e : (μ[k]?).getD .non = .scr ns := e
    cases q : μ[k]? with
    | none => rw [q] at e; cases e
    | some d =>
      rw [q] at e
      have e : d = .scr ns := e
      subst e
      cases r.at h q
  | obj h n => cases h <;> cases e
  | _ => first | exact e | cases e
theorem VIs.seq (r : Rep K φ ρ μ H) {v : V} {d : D} {ys : List D} (h : VIs K φ ρ H v d) (e : seqD μ d = some ys) : ∃ a vs, v = .ref a ∧ (SqL K H a vs ∨ SqT K H a vs) ∧ VsIs K φ ρ H vs ys := by
  unfold seqD at e
  cases q : look μ d <;> rw [q] at e <;> first | cases e; done | skip
  · cases e
    obtain ⟨a, vs, e1, e2, e3⟩ := h.lookT r q
    exact ⟨a, vs, e1, .inr e2, e3⟩
  · cases e
    obtain ⟨a, vs, e1, e2, e3⟩ := h.lookL r q
    exact ⟨a, vs, e1, .inl e2, e3⟩
  · cases e
    have := h.lookScr r q
    subst this
    obtain ⟨a, h1, h2⟩ := h.scrE
    exact ⟨a, _, h1, .inl h2, scr_is _⟩
/-- flat things are themselves -/
theorem VIs.flat {v : V} {d : D} (h : VIs K φ ρ H v d) (f : flatD d = true) : flatV v = true := by
  cases h <;> first | rfl | cases f | skip
  rename_i h
  cases h <;> cases f
theorem VsIs.flat : ∀ {vs : List V} {ds : List D}, VsIs K φ ρ H vs ds → ds.all flatD = true → vs.all flatV = true
  | _, _, .nil, _ => rfl
  | _, _, .cons h t, e => by
    rw [List.all_cons, Bool.and_eq_true] at e
    rw [List.all_cons, h.flat e.1, VsIs.flat t e.2]
    rfl
theorem eqF_eqV {v w : V} {x y : D} (h : VIs K φ ρ H v x) (k : VIs K φ ρ H w y) (fx : flatD x = true) (fy : flatD y = true) : eqV v w = eqF x y := by
  cases x <;> first | cases fx; done | skip
  all_goals cases y <;> first | cases fy; done | skip
  all_goals first | rw [h.nonE] | rw [h.blE] | rw [h.intE] | rw [h.strE]
  all_goals first | rw [k.nonE] | rw [k.blE] | rw [k.intE] | rw [k.strE]
  all_goals rfl
theorem inV_any {w : V} {y : D} (k : VIs K φ ρ H w y) (fy : flatD y = true) : ∀ {vs : List V} {ds : List D}, VsIs K φ ρ H vs ds → ds.all flatD = true → inV w vs = ds.any fun z => eqF z y
  | _, _, .nil, _ => rfl
  | _, _, .cons h t, e => by
    rw [List.all_cons, Bool.and_eq_true] at e
    have ih := inV_any k fy t e.2
    unfold inV at ih ⊢
    rw [List.any_cons, List.any_cons, ih, eqF_eqV h k e.1 fy]
theorem of_rIn {neg : Bool} : OpF K (rIn K neg) (inF neg) := by
  intro φ ρ μ H v w x y Q W hr hv hw p
  have p : Post K (VIs K) φ ρ H Q W ((match seqD μ y with
    | some ys => M.guard (flatD x && ys.all flatD) (M.pure (D.bl (if neg then !ys.any (fun z => eqF z x) else ys.any fun z => eqF z x)))
    | none => M.fail) μ) := p
  cases q : seqD μ y with
  | none => rw [q] at p; exact p.elim
  | some ys =>
    rw [q] at p
    obtain ⟨c, p⟩ := guard_post p
    obtain ⟨c1, c2⟩ := Bool.and_eq_true_iff.mp c
    obtain ⟨a, vs, e1, e2, e3⟩ := hw.seq hr q
    refine ⟨a, vs, e1, e2, hv.flat c1, e3.flat c2, ?_⟩
    rw [inV_any hv c1 e3 c2]
    exact Post.val hr p (.bl _)
theorem VsIs.one {vs : List V} {x : D} (h : VsIs K φ ρ H vs [x]) : ∃ v, vs = [v] ∧ VIs K φ ρ H v x := by
  cases h with
  | cons h t => cases t; exact ⟨_, rfl, h⟩
/-- one argument -/
theorem one_arg {f : List D → M D} {g : D → M D} {xs : List D} (hf : ∀ x, f [x] = g x) (h0 : f [] = M.fail) (h2 : ∀ x y r, f (x :: y :: r) = M.fail) {Q : VK} {W : XK} (p : Post K (VIs K) φ ρ H Q W (f xs μ)) : ∃ x, xs = [x] ∧ Post K (VIs K) φ ρ H Q W (g x μ) := by
  match xs, p with
  | [], p => rw [h0] at p; exact p.elim
  | [x], p => rw [hf] at p; exact ⟨x, rfl, p⟩
  | x :: y :: r, p => rw [h2] at p; exact p.elim
theorem of_len : CaF K (Ow.rLenK K) lenD := by
  intro φ ρ μ H vs xs Q W hr hv p
  match xs, hv, p with
  | [], hv, p => exact p.elim
  | _ :: _ :: _, hv, p => exact p.elim
  | [x], hv, p =>
    obtain ⟨v, rfl, h⟩ := hv.one
    have p : Post K (VIs K) φ ρ H Q W ((match look μ x with
      | .lst ys => M.pure (D.int (ys.length : Nat))
      | .scr ys => M.pure (D.int (ys.length : Nat))
      | .tup ys => M.pure (D.int (ys.length : Nat))
      | .str z => M.guard (decide (z.length ≤ many)) (M.pure (D.int (z.length : Nat)))
      | _ => M.fail) μ) := p
    cases q : look μ x <;> rw [q] at p <;> first | exact p.elim | skip
    · -- str
      obtain ⟨c, pp⟩ := guard_post p
      have : x = .str ‹Str› := by
        cases h with
        | @ob k a h =>
          exfalso
          have q : (μ[k]?).getD .non = .str _ := q
          cases r1 : μ[k]? with
          | none => rw [r1] at q; cases q
          | some d0 =>
            rw [r1] at q
            have q : d0 = .str _ := q
            subst q
            cases hr.at h r1
        | obj h n => cases h <;> cases q
        | _ => first | exact q | cases q
      subst this
      rw [h.strE]
      exact ⟨_, _, rfl, ⟨Nat.le_of_lt (many_line (of_decide_eq_true c)), rfl⟩, Post.val hr pp (.int _)⟩
    · obtain ⟨a, us, e1, e2, e3⟩ := h.lookT hr q
      exact ⟨_, _, rfl, by rw [e1]; exact .inr ⟨us, e2, rfl⟩, Post.val hr p (by rw [e3.length]; exact .int _)⟩
    · obtain ⟨a, us, e1, e2, e3⟩ := h.lookL hr q
      exact ⟨_, _, rfl, by rw [e1]; exact .inl ⟨us, e2, rfl⟩, Post.val hr p (by rw [e3.length]; exact .int _)⟩
    · have := h.lookScr hr q
      subst this
      obtain ⟨a, h1, h2⟩ := h.scrE
      exact ⟨_, _, rfl, by rw [h1]; exact .inl ⟨_, h2, rfl⟩, Post.val hr p (by rw [List.length_map]; exact .int _)⟩
theorem of_list {m : Bool} : CaF K (Ow.rListK K) (listD m) := by
  intro φ ρ μ H vs xs Q W hr hv p
  match xs, hv, p with
  | [], hv, p => exact p.elim
  | _ :: _ :: _, hv, p => exact p.elim
  | [x], hv, p =>
    obtain ⟨v, rfl, h⟩ := hv.one
    have p : Post K (VIs K) φ ρ H Q W ((match seqD μ x with
      | some ys => newL m ys
      | none => M.fail) μ) := p
    cases q : seqD μ x with
    | none => rw [q] at p; exact p.elim
    | some ys =>
      rw [q] at p
      obtain ⟨a, us, e1, e2, e3⟩ := h.seq hr q
      exact ⟨a, us, by rw [e1], e2, (newL_post hr e3 p).2⟩
theorem of_tuple : CaF K (Ow.rTupleK K) tupleD := by
  intro φ ρ μ H vs xs Q W hr hv p
  match xs, hv, p with
  | [], hv, p => exact p.elim
  | x :: _ :: _, hv, p => cases x <;> exact p.elim
  | [x], hv, p =>
    obtain ⟨v, rfl, h⟩ := hv.one
    by_cases c : ∃ ys, x = .tup ys
    · obtain ⟨ys, rfl⟩ := c
      obtain ⟨a, us, e1, e2, e3⟩ := h.tupE
      exact ⟨a, us, by rw [e1], .inr ⟨e2, Post.val hr p (by rw [← e1]; exact h)⟩⟩
    · have p : Post K (VIs K) φ ρ H Q W ((match look μ x with
        | .lst ys => M.pure (D.tup ys)
        | _ => M.fail) μ) := by
        cases x <;> first | exact p | exact absurd ⟨_, rfl⟩ c
      cases q : look μ x <;> rw [q] at p <;> first | exact p.elim | skip
      obtain ⟨a, us, e1, e2, e3⟩ := h.lookL hr q
      exact ⟨a, us, by rw [e1], .inl ⟨e2, fun l hl => Post.tup hr p e3 hl⟩⟩
theorem of_int : CaF K (fun xs H Q => (∃ i, xs = [.int i] ∧ Q (.int i) H) ∨ ∃ k, xs = [.bl k] ∧ Q (.int (if k then 1 else 0)) H) intD := by
  intro φ ρ μ H vs xs Q W hr hv p
  match xs, hv, p with
  | [], hv, p => exact p.elim
  | x :: _ :: _, hv, p => cases x <;> exact p.elim
  | [x], hv, p =>
    obtain ⟨v, rfl, h⟩ := hv.one
    cases x <;> first | exact p.elim | skip
    · exact .inr ⟨_, by rw [h.blE], Post.val hr p (.int _)⟩
    · exact .inl ⟨_, by rw [h.intE], Post.val hr p (.int _)⟩
theorem ints_of : ∀ {vs : List V} {ds : List D} {ns : List Int}, VsIs K φ ρ H vs ds → intsD ds = some ns → vs = ns.map V.int
  | _, _, _, .nil, e => by cases e; rfl
  | _, _, ns, .cons (d := d) h t, e => by
    cases d <;> first | cases e; done | skip
    rename_i i
    have e : (intsD _).map (i :: ·) = some ns := e
    cases q : intsD ‹List D› with
    | none => rw [q] at e; cases e
    | some ms => rw [q] at e; cases e; rw [h.intE, ints_of t q]; rfl
theorem bls_of : ∀ {vs : List V} {ds : List D} {ns : List Bool}, VsIs K φ ρ H vs ds → blsD ds = some ns → vs = ns.map V.bl
  | _, _, _, .nil, e => by cases e; rfl
  | _, _, ns, .cons (d := d) h t, e => by
    cases d <;> first | cases e; done | skip
    rename_i i
    have e : (blsD _).map (i :: ·) = some ns := e
    cases q : blsD ‹List D› with
    | none => rw [q] at e; cases e
    | some ms => rw [q] at e; cases e; rw [h.blE, bls_of t q]; rfl
theorem ints_is : ∀ ns : List Int, VsIs K φ ρ H (ns.map V.int) (ns.map D.int)
  | [] => .nil
  | n :: ns => .cons (.int n) (ints_is ns)
theorem mem_insU {i k : Int} : ∀ {r : List Int}, k ∈ insU i r ↔ k = i ∨ k ∈ r
  | [] => by simp [insU]
  | j :: r => by
    unfold insU
    by_cases c : i < j
    · rw [if_pos c]; simp
    · rw [if_neg c]
      by_cases d : i = j
      · rw [if_pos d, d]; simp
      · rw [if_neg d, List.mem_cons, List.mem_cons, mem_insU]
        constructor
        · rintro (h | h | h)
          · exact .inr (.inl h)
          · exact .inl h
          · exact .inr (.inr h)
        · rintro (h | h | h)
          · exact .inr (.inl h)
          · exact .inl h
          · exact .inr (.inr h)
theorem insU_asc {i : Int} : ∀ {r : List Int}, r.Pairwise (· < ·) → (insU i r).Pairwise (· < ·)
  | [], _ => by simp [insU]
  | j :: r, h => by
    have ⟨a, b⟩ := List.pairwise_cons.mp h
    unfold insU
    by_cases c : i < j
    · rw [if_pos c]
      exact List.pairwise_cons.mpr ⟨fun k hk => by
        rcases List.mem_cons.mp hk with e | e
        · omega
        · have := a k e; omega, h⟩
    · rw [if_neg c]
      by_cases d : i = j
      · rw [if_pos d]; exact h
      · rw [if_neg d]
        exact List.pairwise_cons.mpr ⟨fun k hk => by
          rcases mem_insU.mp hk with e | e
          · omega
          · exact a k e, insU_asc b⟩
theorem mem_sortU {k : Int} : ∀ {ns : List Int}, k ∈ sortU ns ↔ k ∈ ns
  | [] => by simp [sortU]
  | n :: ns => by
    show k ∈ insU n (sortU ns) ↔ _
    rw [mem_insU, mem_sortU, List.mem_cons]
theorem sortU_asc : ∀ ns : List Int, (sortU ns).Pairwise (· < ·)
  | [] => .nil
  | n :: ns => insU_asc (sortU_asc ns)
theorem sortU_uniq {ns ms : List Int} (h : ms.Pairwise (· < ·)) (m : ∀ k, k ∈ ms ↔ k ∈ ns) : ms = sortU ns := Ow.asc_uniq h (sortU_asc ns) fun k => (m k).trans mem_sortU.symm
/-- sorted(set(xs)) -/
theorem sortSet_ok {w : World} {vs : List V} {xs : List D} {Q : VK} {W : XK} (hr : Rep K φ ρ μ H) (hv : VsIs K φ ρ H vs xs) (p : Post K (VIs K) φ ρ H Q W (sortSetD xs μ)) : Ow.rSetOf K w vs H fun x H1 => rSortedSet w [x] H1 Q := by
  match xs, hv, p with
  | [], hv, p => exact p.elim
  | _ :: _ :: _, hv, p => exact p.elim
  | [x], hv, p =>
    obtain ⟨v, rfl, h⟩ := hv.one
    have p : Post K (VIs K) φ ρ H Q W ((match seqD μ x with
      | some ys => M.bind (M.opt (intsD ys)) fun ns => M.guard (decide (ns.length < 64)) (newL false ((sortU ns).map D.int))
      | none => M.fail) μ) := p
    cases q : seqD μ x with
    | none => rw [q] at p; exact p.elim
    | some ys =>
      rw [q] at p
      obtain ⟨a, us, rfl, e2, e3⟩ := h.seq hr q
      obtain ⟨ns, q2, p⟩ := bindOpt p
      obtain ⟨c, p⟩ := guard_post p
      have c := of_decide_eq_true c
      have e4 := ints_of e3 q2
      subst e4
      refine ⟨a, ns, rfl, e2, by omega, fun s n hs hn => ⟨s, _, _, rfl, upd_same, by omega, fun ms t h1 h2 h3 ht => ?_⟩⟩
      have em : ms = sortU ns := sortU_uniq h1 fun k => (h2 k).trans decide_eq_true_iff
      subst em
      have l := Later.fresh (o := SetO w s (fun j => decide (j ∈ ns)) n) hr hs
      exact (newL_post l.rep (ints_is _) (Post.later p l)).2 t ht
theorem of_all : CaF K (rAll K) allD := by
  intro φ ρ μ H vs xs Q W hr hv p
  match xs, hv, p with
  | [], hv, p => exact p.elim
  | _ :: _ :: _, hv, p => exact p.elim
  | [x], hv, p =>
    obtain ⟨v, rfl, h⟩ := hv.one
    have p : Post K (VIs K) φ ρ H Q W ((match look μ x with
      | .lst ys => M.bind (M.opt (blsD ys)) fun bs => M.pure (D.bl (bs.all id))
      | _ => M.fail) μ) := p
    cases q : look μ x <;> rw [q] at p <;> first | exact p.elim | skip
    rename_i ys
    obtain ⟨a, us, rfl, e2, e3⟩ := h.lookL hr q
    obtain ⟨bs, q2, p⟩ := bindOpt p
    exact ⟨a, bs, rfl, by rw [← bls_of e3 q2]; exact e2, Post.val hr p (.bl _)⟩
theorem of_any : CaF K (rAny K) anyD := by
  intro φ ρ μ H vs xs Q W hr hv p
  match xs, hv, p with
  | [], hv, p => exact p.elim
  | _ :: _ :: _, hv, p => exact p.elim
  | [x], hv, p =>
    obtain ⟨v, rfl, h⟩ := hv.one
    have p : Post K (VIs K) φ ρ H Q W ((match look μ x with
      | .lst ys => M.bind (M.opt (blsD ys)) fun bs => M.pure (D.bl (bs.any id))
      | _ => M.fail) μ) := p
    cases q : look μ x <;> rw [q] at p <;> first | exact p.elim | skip
    rename_i ys
    obtain ⟨a, us, rfl, e2, e3⟩ := h.lookL hr q
    obtain ⟨bs, q2, p⟩ := bindOpt p
    exact ⟨a, bs, rfl, by rw [← bls_of e3 q2]; exact e2, Post.val hr p (.bl _)⟩
theorem of_sum : CaF K (rSum K) sumD := by
  intro φ ρ μ H vs xs Q W hr hv p
  match xs, hv, p with
  | [], hv, p => exact p.elim
  | _ :: _ :: _, hv, p => exact p.elim
  | [x], hv, p =>
    obtain ⟨v, rfl, h⟩ := hv.one
    have p : Post K (VIs K) φ ρ H Q W ((match look μ x with
      | .lst ys => M.bind (M.opt (intsD ys)) fun bs => M.pure (D.int bs.sum)
      | _ => M.fail) μ) := p
    cases q : look μ x <;> rw [q] at p <;> first | exact p.elim | skip
    rename_i ys
    obtain ⟨a, us, rfl, e2, e3⟩ := h.lookL hr q
    obtain ⟨bs, q2, p⟩ := bindOpt p
    exact ⟨a, bs, rfl, by rw [← ints_of e3 q2]; exact e2, Post.val hr p (.int _)⟩
/-- items by their number -/
theorem atD_ok {vs : List V} {xs : List D} {i : Int} {d : D} (h : VsIs K φ ρ H vs xs) (e : atI xs i = some d) : ∃ v, atI vs i = some v ∧ VIs K φ ρ H v d := by
  unfold atI at e ⊢
  rw [h.length]
  cases q : ixN xs.length i with
  | none => rw [q] at e; cases e
  | some j => rw [q] at e; exact h.at e
theorem strLook {x : D} {v : V} {z : Str} (hr : Rep K φ ρ μ H) (h : VIs K φ ρ H v x) (q : look μ x = .str z) : v = .str z := by
  cases h with
  | @ob k a h =>
    exfalso
    have q : (μ[k]?).getD .non = .str _ := q
    cases r1 : μ[k]? with
    | none => rw [r1] at q; cases q
    | some d0 =>
      rw [r1] at q
      have q : d0 = .str _ := q
      subst q
      cases hr.at h r1
  | obj h n => cases h <;> cases q
  | _ => cases q; try rfl
theorem of_rIx : OpF K (rIx K) ixD := by
  intro φ ρ μ H v w x y Q W hr hv hw p
  have p : Post K (VIs K) φ ρ H Q W ((match look μ x, y with
    | .lst xs, .int i => atD xs i
    | .scr ns, .int i => atD (ns.map D.int) i
    | .tup xs, .int i => atD xs i
    | .str z, .int i => M.guard (decide (z.length ≤ many)) (M.opt ((atI z.cps.toList i).map fun c => D.str ⟨#[c]⟩))
    | _, _ => M.fail) μ) := p
  cases q : look μ x <;> rw [q] at p <;> cases y <;> first | exact p.elim | skip
  · rename_i z i _
    obtain ⟨c, p⟩ := guard_post p
    obtain ⟨d, e, p⟩ := opt_post p
    cases q2 : atI z.cps.toList i with
    | none => rw [q2] at e; cases e
    | some cc => rw [q2] at e; cases e; exact .inr (.inr ⟨z, i, cc, strLook hr hv q, hw.intE, Nat.le_of_lt (many_line (of_decide_eq_true c)), q2, Post.val hr p (.str _)⟩)
  · rename_i zs i _
    obtain ⟨a, us, e1, e2, e3⟩ := hv.lookT hr q
    obtain ⟨d, e, p⟩ := opt_post p
    obtain ⟨u, h1, h2⟩ := atD_ok e3 e
    exact .inr (.inl ⟨a, us, i, u, e1, hw.intE, e2, h1, Post.val hr p h2⟩)
  · rename_i zs i _
    obtain ⟨a, us, e1, e2, e3⟩ := hv.lookL hr q
    obtain ⟨d, e, p⟩ := opt_post p
    obtain ⟨u, h1, h2⟩ := atD_ok e3 e
    exact .inl ⟨a, us, i, u, e1, hw.intE, e2, h1, Post.val hr p h2⟩
  · rename_i zs i _
    have := hv.lookScr hr q
    subst this
    obtain ⟨a, e1, e2⟩ := hv.scrE
    obtain ⟨d, e, pp⟩ := opt_post p
    obtain ⟨u, h1, h2⟩ := atD_ok (scr_is (K := K) (φ := φ) (ρ := ρ) (H := H) zs) e
    exact .inl ⟨a, _, i, u, e1, hw.intE, e2, h1, Post.val hr pp h2⟩
theorem cut_is {vs : List V} {xs : List D} {lo hi : Option Int} (h : VsIs K φ ρ H vs xs) : VsIs K φ ρ H (cutV vs lo hi) (cutD xs lo hi) := by
  unfold cutV cutD
  rw [h.length]
  exact (h.drop _).take _
/-- own operators -/
theorem of_own {C : Str} {f : List D → M D} : OpF K (Ow.rOwn (He.ga K C) (spF K 2 f) (fun _ _ _ => False)) (ownB C f) := by
  intro φ ρ μ H v w x y Q W hr hv hw p
  unfold ownB at p
  cases q : look μ x <;> rw [q] at p <;> first | (cases look μ y <;> exact p.elim) | skip
  cases q2 : look μ y <;> rw [q2] at p <;> first | exact p.elim | skip
  obtain ⟨c, pp⟩ := guard_post p
  obtain ⟨c1, c2⟩ := Bool.and_eq_true_iff.mp c
  have c1 := beq_iff_eq.mp c1
  have c2 := beq_iff_eq.mp c2
  subst c1 c2
  obtain ⟨a, dx, us, e1, e2, e3, e4⟩ := hv.lookI hr q
  obtain ⟨b, dy, ws, g1, g2, g3, g4⟩ := hw.lookI hr q2
  refine ⟨a, b, dx, dy, _, _, e1, g1, e2, g2, ?_⟩
  rw [← e1, ← g1]
  exact callV_ok hr (.cons hv (.cons hw .nil)) (calm_post pp)
theorem of_ownEq {C : Str} {f : List D → M D} : OpF K (Ow.rOwnEq (He.ga K C) (spF K 2 f) (fun _ _ _ => False)) (ownB C f) := by
  intro φ ρ μ H v w x y Q W hr hv hw p
  obtain ⟨a, b, dx, dy, fs, gs, h1, h2, h3, h4, h5⟩ := of_own (K := K) hr hv hw p
  exact ⟨a, b, dx, dy, fs, gs, h1, h2, h3, h4, h5⟩
theorem of_ownIn {C : Str} {neg : Bool} {f : List D → M D} : OpF K (Ow.rOwnIn (He.ga K C) neg (spF K 2 f) (fun _ _ _ => False)) (ownIn C neg f) := by
  intro φ ρ μ H v w x y Q W hr hv hw p
  unfold ownIn at p
  cases q : look μ y <;> rw [q] at p <;> first | exact p.elim | skip
  obtain ⟨c, pp⟩ := guard_post p
  have c1 := beq_iff_eq.mp c
  subst c1
  obtain ⟨b, dy, ws, g1, g2, g3, g4⟩ := hw.lookI hr q
  refine ⟨b, dy, _, g1, g2, ?_⟩
  rw [← g1]
  refine callV_ok hr (.cons hw (.cons hv .nil)) ?_
  cases r : callV 2 f [y, x] μ with
  | bad => rw [bind_bad (calm_bad r)] at pp; exact pp
  | exc z m => rw [bind_bad (calm_exc r)] at pp; exact pp.elim
  | ok d m =>
    rw [bind_ok (calm_ok r)] at pp
    cases d <;> first | exact pp.elim | skip
    exact fun φ1 ρ1 u H1 l h => ⟨_, h.blE, pp _ _ _ _ l (.bl _)⟩
theorem of_optEq {C : Str} {f : List D → M D} : OpF K (Ow.rOptEq (He.ga K C) (spF K 2 f) (fun _ _ _ => False)) (ownEqO C f) := by
  intro φ ρ μ H v w x y Q W hr hv hw p
  unfold ownEqO at p
  have isn : ∀ {d : D}, isN d = true → d = .non := fun {d} h => by cases d <;> first | rfl | cases h
  cases q : look μ x <;> rw [q] at p <;> cases q2 : look μ y <;> rw [q2] at p <;> first | exact p.elim | skip
  · obtain ⟨c, pp⟩ := guard_post p
    obtain ⟨c1, c2⟩ := Bool.and_eq_true_iff.mp c
    have c1 := isn c1
    have c2 := isn c2
    subst c1 c2
    exact .inl ⟨hv.nonE, hw.nonE, Post.val hr pp (.bl _)⟩
  · obtain ⟨c, pp⟩ := guard_post p
    obtain ⟨c1, c2⟩ := Bool.and_eq_true_iff.mp c
    have c1 := beq_iff_eq.mp c1
    have c2 := isn c2
    subst c1 c2
    obtain ⟨b, dy, ws, g1, g2, g3, g4⟩ := hw.lookI hr q2
    refine .inr (.inr ⟨b, dy, _, hv.nonE, g1, g2, ?_⟩)
    exact callV_ok hr (.cons hw (.cons hv .nil)) (calm_post pp)
  · obtain ⟨c, pp⟩ := guard_post p
    obtain ⟨c1, c2⟩ := Bool.and_eq_true_iff.mp c
    have c1 := beq_iff_eq.mp c1
    have c2 := isn c2
    subst c1 c2
    obtain ⟨a, dx, us, e1, e2, e3, e4⟩ := hv.lookI hr q
    refine .inr (.inl ⟨a, dx, _, e1, e2, .inl hw.nonE, ?_⟩)
    exact callV_ok hr (.cons hv (.cons hw .nil)) (calm_post pp)
  · obtain ⟨c, pp⟩ := guard_post p
    obtain ⟨c1, c2⟩ := Bool.and_eq_true_iff.mp c
    have c1 := beq_iff_eq.mp c1
    have c2 := beq_iff_eq.mp c2
    subst c1 c2
    obtain ⟨a, dx, us, e1, e2, e3, e4⟩ := hv.lookI hr q
    obtain ⟨b, dy, ws, g1, g2, g3, g4⟩ := hw.lookI hr q2
    refine .inr (.inl ⟨a, dx, _, e1, e2, .inr ⟨b, dy, _, g1, g2⟩, ?_⟩)
    exact callV_ok hr (.cons hv (.cons hw .nil)) (calm_post pp)
theorem lk_lookup {f : Str} : ∀ {ns : List Str} {vs : List V} {xs : List D} {d : D}, ns.length = vs.length → VsIs K φ ρ H vs xs → lk f ns xs = some d → ∃ v, (ns.zip vs).lookup f = some v ∧ VIs K φ ρ H v d
  | [], _, _, _, _, _, e => by cases e
  | n :: ns, [], _, _, l, _, _ => by cases l
  | n :: ns, v :: vs, _, d, l, .cons (d := x) h t, e => by
    unfold lk at e
    rw [List.zip_cons_cons, List.lookup_cons]
    cases c : n == f with
    | true =>
      rw [c] at e
      cases e
      have : (f == n) = true := by rw [beq_iff_eq] at c ⊢; exact c.symm
      rw [this]
      exact ⟨v, rfl, h⟩
    | false =>
      rw [c] at e
      have : (f == n) = false := by rw [beq_eq_false_iff_ne] at c ⊢; exact fun z => c z.symm
      rw [this]
      exact lk_lookup (by simpa using l) t e
theorem putD_putF {f : Str} {y : D} {w : V} (hw : VIs K φ ρ H w y) : ∀ {ns : List Str} {vs : List V} {xs : List D}, ns.length = vs.length → VsIs K φ ρ H vs xs → ∃ us, putF f w (ns.zip vs) = (putD f y ns xs).1.zip us ∧ (putD f y ns xs).1.length = us.length ∧ VsIs K φ ρ H us (putD f y ns xs).2
  | [], [], _, _, .nil => ⟨[w], rfl, rfl, .cons hw .nil⟩
  | [], _ :: _, _, l, _ => by cases l
  | n :: ns, [], _, l, _ => by cases l
  | n :: ns, v :: vs, _, l, .cons (d := x) (ds := xs) h t => by
    unfold putD
    rw [List.zip_cons_cons]
    unfold putF
    cases c : n == f with
    | true =>
      have e := beq_iff_eq.mp c
      rw [if_pos e]
      exact ⟨w :: vs, rfl, l, .cons hw t⟩
    | false =>
      have e := beq_eq_false_iff_ne.mp c
      rw [if_neg e]
      obtain ⟨us, h1, h2, h3⟩ := putD_putF hw (ns := ns) (vs := vs) (xs := xs) (by simpa using l) t
      exact ⟨v :: us, by rw [h1]; rfl, by simpa using h2, .cons h h3⟩
end
section
variable {X : Cx} {K : PySem.W.Frag} {W : L2.St → XK} {a b e o : Expr} {es : List Expr} {p pos pos' : Pos} {r : AF} {fa fb fo : EF} {x f : Str} {Cs : List Str}
theorem passF {P : Program} {w : World} (hP : X.prog = P := by rfl) (hw : X.w = w := by rfl) : Passes (L2.CX P w) X (fun _ _ _ => False) := fun _ _ _ _ _ _ _ ⟨_, _, _, _, _, _, _, _, _, _, _, _, h⟩ => h.elim
/-- a built-in function by its name -/
theorem fB {id : String} {rr : List V → Hp → VK → Prop} {g : List D → M D} (hc : CallR X (.builtin id) rr) (hf : CaF K rr g) (hm : X.mg x = none) (ha : PA X (e :: es) (tA K W r)) (hg : Gl X x := by rfl) (hv : bootBuiltins x = some (.builtin id) := by decide +kernel) (hn : x ≠ "__name__" := by decide) (hdb : (x == ("__debug__" : Str)) = false := by decide)
    (he : starEach (e :: es) X.env = (false, eval e X.env) :: starEach es X.env := by rfl) (hpl : (backTo pos (starEach es X.env)).any (·.1) = false := by rfl) : PE X (.Call (.Name x p) (e :: es) [] pos) (tE K W (eCall g r)) :=
  (pe_callB hc hg hm hv ha hn hdb he hpl).vimp fun σ H Q ⟨φ, ρ, Γ, μ, he, hr, p⟩ => stepA he hr p fun l he h p => hf l.rep h p
theorem fTy {id : String} {rr : List V → Hp → VK → Prop} {g : List D → M D} (hc : CallR X (.type id) rr) (hf : CaF K rr g) (hm : X.mg x = none) (ha : PA X (e :: es) (tA K W r)) (hg : Gl X x := by rfl) (hv : bootBuiltins x = some (.type id) := by decide +kernel) (hn : x ≠ "__name__" := by decide) (hdb : (x == ("__debug__" : Str)) = false := by decide)
    (he : starEach (e :: es) X.env = (false, eval e X.env) :: starEach es X.env := by rfl) (hpl : (backTo pos (starEach es X.env)).any (·.1) = false := by rfl) : PE X (.Call (.Name x p) (e :: es) [] pos) (tE K W (eCall g r)) :=
  (pe_callTy hc hg hm hv ha hn hdb he hpl).vimp fun σ H Q ⟨φ, ρ, Γ, μ, he, hr, p⟩ => stepA he hr p fun l he h p => hf l.rep h p
/-- sorted(set(e)) -/
theorem fSortSet {p1 p2 q1 q2 : Pos} (hs : X.mg "sorted" = none) (ht : X.mg "set" = none) (ha : PA X [e] (tA K W r)) (hK : X.K = K := by rfl) (hc : X.calm = true := by rfl) (g1 : Gl X "sorted" := by rfl) (g2 : Gl X "set" := by rfl)
    (he : starEach [e] X.env = (false, eval e X.env) :: starEach [] X.env := by rfl) : PE X (.Call (.Name "sorted" p1) [.Call (.Name "set" p2) [e] [] q2] [] q1) (tE K W (eCall sortSetD r)) := by
  subst hK
  refine (pe_callB (cr_sortedSet hc) g1 hs (by decide +kernel) (pa_cons (pe_callTy (Ow.cr_setL hc) g2 ht (by decide +kernel) ha (he := he)) pa_nil)).vimp fun σ H Q ⟨φ, ρ, Γ, μ, he, hr, p⟩ => ?_
  exact stepA he hr p fun l he h p => sortSet_ok l.rep h p
theorem setFld_inv {d y : D} {μ μ' : Sto} {u : Unit} (h : setFld Cs f d y μ = .ok u μ') : ∃ k C ns xs, d = .ob k ∧ μ[k]? = some (.ins C ns xs) ∧ Cs.contains C = true ∧ ns.length < 1000 ∧ μ' = μ.set k (.ins C (putD f y ns xs).1 (putD f y ns xs).2) := by
  unfold setFld at h
  split at h
  · rename_i k
    split at h
    · rename_i C ns xs q
      cases c : Cs.contains C && decide (ns.length < 1000) with
      | false => rw [c] at h; cases h
      | true =>
        rw [c] at h
        obtain ⟨c1, c2⟩ := Bool.and_eq_true_iff.mp c
        cases h
        exact ⟨k, C, ns, xs, rfl, q, c1, of_decide_eq_true c2, rfl⟩
    · cases h
  · cases h
theorem setFld_nox {d y : D} {μ : Sto} (z : Ex) (m : Sto) : setFld Cs f d y μ ≠ .exc z m := by
  intro h
  unfold setFld at h
  split at h
  · split at h
    · unfold M.guard at h
      cases c : Cs.contains _ && decide (_ < 1000) with
      | false => rw [c] at h; cases h
      | true => rw [c] at h; cases h
    · cases h
  · cases h
theorem PlainIx.ok (h : ∀ o i, subscripted b false o i = operate [o, i] (getItem o i)) : PlainIx b := h
theorem fIx (ha : PE X a (tE K W fa)) (hb : PE X b (tE K W fb)) (hK : X.K = K := by rfl) (hs : PlainIx b := by intro _ _; rfl) : PE X (.Subscript a b pos) (tE K W (eBin ixD fa fb)) := by
  subst hK
  exact (pe_ix ix_seq ha hb hs).vimp fun σ H Q ⟨φ, ρ, Γ, μ, he, hr, p⟩ => stepE he hr p fun l1 he h1 p => stepE he l1.rep p fun l2 he h2 p => of_rIx l2.rep (l2.val l1.rep h1) h2 p
theorem fFld (hC : ∀ C ∈ Cs, Cls K (He.ga K C) ∧ NoAttr K (He.ga K C) f) (ho : PE X o (tE K W fo)) (hb : attributeBase o f X.env (eval o X.env) = eval o X.env := by rfl) (hK : X.K = K := by rfl) : PE X (.Attribute o f pos) (tE K W (eFld Cs f fo)) := by
  subst hK
  refine (pe_fld ho hb).vimp fun σ H Q ⟨φ, ρ, Γ, μ, he, hr, p⟩ => stepE he hr p fun {d μ1 φ1 ρ1 v H1} l1 he h1 p => ?_
  have p : Post X.K (VIs X.K) φ1 ρ1 H1 Q (W σ) ((match look μ1 d with
    | .ins C ns xs => M.guard (Cs.contains C) (M.opt (lk f ns xs))
    | _ => M.fail) μ1) := p
  cases q : look μ1 d <;> rw [q] at p <;> first | exact p.elim | skip
  obtain ⟨c, p⟩ := guard_post p
  obtain ⟨y, e, p⟩ := opt_post p
  obtain ⟨a, dx, vs, e1, e2, e3, e4⟩ := h1.lookI l1.rep q
  obtain ⟨u, u1, u2⟩ := lk_lookup e3 e4 e
  have hc := hC _ (List.contains_iff_mem.mp c)
  exact ⟨a, _, dx, _, u, e1, e2, hc.1, hc.2, u1, Post.val l1.rep p u2⟩
theorem sFldF (hC : ∀ C ∈ Cs, Cls K (He.ga K C) ∧ NoAttr K (He.ga K C) f) (ho : PE X o (tE K W fo)) (hv : PE X a (tE K W fa)) (hs : swapsWith a (some (.Attribute o f pos')) pos.line X.env = pure false := by rfl) (hK : X.K = K := by rfl) : PS X (.Assign [.Attribute o f pos'] a pos) (tS K W (sFldD Cs f fo fa)) := by
  subst hK
  refine (ps_fld ho hv hs).vimp fun E σ H ⟨φ, ρ, Γ, μ, he, hr, p⟩ => stepS he hr p fun {y μ1 φ1 ρ1 w H1} l1 he h1 p => stepS he l1.rep p fun {d μ2 φ2 ρ2 v H2} l2 he h2 p => ?_
  have hw := l2.val l1.rep h1
  unfold up at p
  cases q0 : setFld Cs f d y μ2 with
  | bad => rw [q0] at p; exact p.elim
  | exc z m => exact absurd q0 (setFld_nox _ _)
  | ok u m =>
    rw [q0] at p
    have p : PostS X.K φ2 ρ2 H2 E W (.ok (.nx Γ) m) := p
    obtain ⟨k, C, ns, xs, rfl, q, c1, c2, rfl⟩ := setFld_inv q0
    have hc := hC _ (List.contains_iff_mem.mp c1)
    have go : ∀ {v : V}, VIs X.K φ2 ρ2 H2 v (.ob k) → ∃ a C dx fs, v = .ref a ∧ H2 a = some (.ins C dx fs) ∧ Cls X.K C ∧ NoAttr X.K C f ∧ fs.length < 1000 ∧ E.nx σ (upd H2 a (.ins C dx (putF f w fs))) := by
      intro v h2
      cases h2 with
      | obj h n => cases h
      | @ob _ b hb =>
        cases l2.rep.at hb q with
        | @ins _ dx _ _ vs _ e2 e3 e4 =>
          refine ⟨b, _, dx, _, rfl, e2, hc.1, hc.2, by rw [List.length_zip]; omega, ?_⟩
          have bin : b ∈ ρ2 := List.mem_of_getElem? hb
          have w : Way (K := X.K) φ2 φ2 ρ2 ρ2 H2 (upd H2 b (.ins (He.ga X.K C) dx (putF f w (ns.zip vs)))) fun k => some (.ob k) := ⟨fun _ n _ => n, fun z u n _ hu => by rw [upd_ne (fun (e : z = b) => n (by rw [e]; exact l2.rep.sub b bin))]; exact hu, fun k a d hk e => by cases e; exact .ob hk⟩
          obtain ⟨us, u1, u2, u3⟩ := putD_putF hw e3 e4 (f := f)
          have l3 := l2.rep.put hb (.ins (ns := (putD f y ns xs).1) (vs := us) (by rw [← u1]; exact upd_same) u2 (u3.way w (mapMuts_id _ _ fun _ _ => rfl))) (fun o u z => by rw [e2] at z; cases z)
          exact p _ _ _ _ l3 (l3.env l2.rep he)
    exact go h2
end
end Vl

/-! methods, static methods, instances called, slices, list methods, isinstance, data compared -/
namespace Vl
open PySem PySem.Spec PyProof.Rows L2
def appendD (o : D) (xs : List D) : M D := fun μ => match o, xs with
  | .ob k, [y] => match μ[k]? with
    | some (.lst ys) => M.guard (decide (ys.length < many)) (fun μ => .ok .non (μ.set k (.lst (ys ++ [y])))) μ
    | _ => .bad
  | _, _ => .bad
def isListD (x : D) : M Unit := fun μ => match look μ x with
  | .lst _ => .ok () μ
  | _ => .bad
/-- a list's method -/
def eLM (g : D → List D → M D) (o : EF) (r : AF) : EF := fun Γ => M.bind (o Γ) fun x => M.bind (isListD x) fun _ => M.bind (r Γ) fun xs => g x xs
/-- the kind of a thing, for isinstance -/
def kindD (μ : Sto) (x : D) : Option D := match look μ x with
  | .non => some (.ty "NoneType")
  | .bl _ => some (.ty "bool")
  | .int _ => some (.ty "int")
  | .str _ => some (.ty "str")
  | .lst _ => some (.ty "list")
  | .tup _ => some (.ty "tuple")
  | .ins C _ _ => some (.fn C)
  | _ => none
/-- isinstance by a table: kind, class, answer -/
def isiD (tab : List (D × D × Bool)) (eqk : D → D → Bool) (xs : List D) : M D := match xs with
  | [x, c] => M.get fun μ => match kindD μ x with
    | some k => M.opt ((tab.find? fun z => eqk z.1 k && eqk z.2.1 c).map fun z => .bl z.2.2)
    | none => M.fail
  | _ => M.fail
def eqK : D → D → Bool
  | .ty a, .ty b => a == b
  | .fn a, .fn b => a == b
  | _, _ => false
theorem eqK_ok {x y : D} (h : eqK x y = true) : x = y := by
  cases x <;> cases y <;> first | cases h; done | skip
  · rw [beq_iff_eq.mp h]
  · rw [beq_iff_eq.mp h]
/-- a kind or a class as the model's value -/
def kV (K : PySem.W.Frag) : D → Value
  | .ty n => .type n
  | .fn C => .ref (He.ga K C)
  | _ => .none
section
variable {K : PySem.W.Frag} {φ : Addr → Prop} {ρ : List Addr} {μ : Sto} {H : Hp}
theorem rep_put {k : Nat} {b : Addr} {o u0 : HO} {d : D} (hr : Rep K φ ρ μ H) (hb : ρ[k]? = some b) (hu : H b = some u0) (nf : ∀ o u, u0 ≠ .frz o u) (h : ∀ {H'}, Way (K := K) φ φ ρ ρ H H' (fun k => some (.ob k)) → H' b = some o → At K φ ρ H' b d) : Later K φ ρ H φ ρ (μ.set k d) (upd H b o) := by
  have bin : b ∈ ρ := List.mem_of_getElem? hb
  exact hr.put hb (h ⟨fun _ n _ => n, fun z u n _ hu => by rw [upd_ne (fun (e : z = b) => n (by rw [e]; exact hr.sub b bin))]; exact hu, fun k a d hk e => by cases e; exact .ob hk⟩ upd_same) (fun o u z => by rw [hu] at z; cases z; exact nf o u rfl)
theorem of_append {v : V} {vs : List V} {x : D} {xs : List D} {Q : VK} {W : XK} (hr : Rep K φ ρ μ H) (hx : VIs K φ ρ H v x) (hv : VsIs K φ ρ H vs xs) (p : Post K (VIs K) φ ρ H Q W (appendD x xs μ)) : rAppend v vs H Q := by
  unfold appendD at p
  split at p
  · rename_i k y
    split at p
    · rename_i ys q
      obtain ⟨c, pp⟩ := guard_post p
      have c := of_decide_eq_true c
      obtain ⟨w, rfl, hw⟩ := hv.one
      cases hx with
      | obj h n => cases h
      | @ob _ b hb =>
        cases hr.at hb q with
        | @lst _ us _ e1 e2 =>
          refine ⟨b, us, w, rfl, rfl, e1, by rw [e2.length]; exact many_line (Nat.le_of_lt c), ?_⟩
          exact pp _ _ _ _ (rep_put hr hb e1 (fun _ _ z => nomatch z) fun w h => .lst h ((e2.append (.cons hw .nil)).way w (mapMuts_id _ _ fun _ _ => rfl))) .non
    · exact p.elim
  · exact p.elim
theorem isList_post {α β : Type} {R : (Addr → Prop) → List Addr → Hp → β → α → Prop} {Q : β → Hp → Prop} {W : XK} {v : V} {x : D} {k : Unit → M α} (hr : Rep K φ ρ μ H) (hx : VIs K φ ρ H v x) (p : Post K R φ ρ H Q W (M.bind (isListD x) k μ)) : tyV K "list" v H ∧ Post K R φ ρ H Q W (k () μ) := by
  unfold M.bind isListD at p
  cases q : look μ x <;> rw [q] at p <;> first | exact p.elim | skip
  obtain ⟨a, vs, rfl, e2, e3⟩ := hx.lookL hr q
  refine ⟨?_, p⟩
  exact .inl ⟨rfl, vs, e2⟩
theorem clsIs_post {α β : Type} {R : (Addr → Prop) → List Addr → Hp → β → α → Prop} {Q : β → Hp → Prop} {W : XK} {v : V} {x : D} {C m : Str} {k : Unit → M α} (hr : Rep K φ ρ μ H) (hx : VIs K φ ρ H v x) (p : Post K R φ ρ H Q W (M.bind (clsIs C m x) k μ)) : (∃ a dx fs, v = .ref a ∧ H a = some (.ins (He.ga K C) dx fs) ∧ fs.lookup m = none) ∧ Post K R φ ρ H Q W (k () μ) := by
  unfold M.bind clsIs at p
  cases q : look μ x <;> rw [q] at p <;> first | exact p.elim | skip
  rename_i C' ns xs
  dsimp only at p
  cases c : C' == C && !ns.contains m with
  | false => rw [c] at p; exact p.elim
  | true =>
    rw [c] at p
    obtain ⟨c1, c2⟩ := Bool.and_eq_true_iff.mp c
    have c1 := beq_iff_eq.mp c1
    obtain ⟨a, dx, vs, h1, h2, h3, h4⟩ := hx.lookI hr q
    exact ⟨⟨a, dx, _, h1, by rw [← c1]; exact h2, zip_none (by simpa using c2)⟩, p⟩
theorem kind_ty {v : V} {x k : D} (hr : Rep K φ ρ μ H) (hx : VIs K φ ρ H v x) (e : kindD μ x = some k) (hC : ∀ C, k = .fn C → Ow.IsiC K (He.ga K C) ∧ Cls K (He.ga K C)) : TyX K H v (kV K k) := by
  unfold kindD at e
  cases q : look μ x <;> rw [q] at e <;> cases e
  · have : x = .non := by
      cases hx with
      | @ob k a h =>
        obtain ⟨d, hd, hat⟩ := Ow.Paired.at hr.ok h
        have q : (μ[k]?).getD .non = .non := q
        rw [hd] at q
        have q : d = .non := q
        subst q
        cases hat
      | obj h n => cases h <;> cases q
      | _ => first | rfl | cases q
    subst this
    rw [hx.nonE]
    exact .base .non
  · have : ∀ b, look μ x = .bl b → v = .bl b := fun b q => by
      cases hx with
      | @ob k a h =>
        obtain ⟨d, hd, hat⟩ := Ow.Paired.at hr.ok h
        have q : (μ[k]?).getD .non = .bl b := q
        rw [hd] at q
        have q : d = .bl b := q
        subst q
        cases hat
      | obj h n => cases h <;> cases q
      | _ => first | (cases q; rfl) | cases q
    rw [this _ q]
    exact .base (.bl _)
  · have : ∀ b, look μ x = .int b → v = .int b := fun b q => by
      cases hx with
      | @ob k a h =>
        obtain ⟨d, hd, hat⟩ := Ow.Paired.at hr.ok h
        have q : (μ[k]?).getD .non = .int b := q
        rw [hd] at q
        have q : d = .int b := q
        subst q
        cases hat
      | obj h n => cases h <;> cases q
      | _ => first | (cases q; rfl) | cases q
    rw [this _ q]
    exact .base (.int _)
  · rw [strLook hr hx q]
    exact .base (.str _)
  · obtain ⟨a, vs, rfl, e2, e3⟩ := hx.lookT hr q
    rcases e2 with (e2 | ⟨o, e2⟩) | ⟨o, its, n, e2, e4, _⟩
    · exact .base (.tup e2)
    · exact .fTuple e2
    · exact .kTuple e2 e4
  · obtain ⟨a, vs, rfl, e2, e3⟩ := hx.lookL hr q
    rcases e2 with (e2 | ⟨o, e2⟩) | ⟨o, its, n, e2, e4, _⟩
    · exact .base (.lst e2)
    · exact .base (.frz e2)
    · exact .kList e2 e4
  · obtain ⟨a, dx, vs, rfl, h2, h3, h4⟩ := hx.lookI hr q
    obtain ⟨i, c⟩ := hC _ rfl
    exact i.ty c h2
/-- what a table of isinstance's answers must keep -/
def IsiT (K : PySem.W.Frag) (tab : List (D × D × Bool)) : Prop := ∀ z ∈ tab, PySem.W.kitOne K (kV K z.1) (kV K z.2.1) = some z.2.2 ∧ ∀ C, z.1 = .fn C → Ow.IsiC K (He.ga K C) ∧ Cls K (He.ga K C)
theorem of_isi {tab : List (D × D × Bool)} (hT : IsiT K tab) : CaF K (rIsi K) (isiD tab eqK) := by
  intro φ ρ μ H vs xs Q W hr hv p
  match xs, hv, p with
  | [], hv, p => exact p.elim
  | [_], hv, p => exact p.elim
  | _ :: _ :: _ :: _, hv, p => exact p.elim
  | [x, c], .cons (v := v) hx (.cons (v := u) hc .nil), p =>
    have p : Post K (VIs K) φ ρ H Q W ((match kindD μ x with
      | some k => M.opt ((tab.find? fun z : D × D × Bool => eqK z.1 k && eqK z.2.1 c).map fun z : D × D × Bool => D.bl z.2.2)
      | none => M.fail) μ) := p
    cases q : kindD μ x with
    | none => rw [q] at p; exact p.elim
    | some k =>
      rw [q] at p
      obtain ⟨d, e, p⟩ := opt_post p
      cases q2 : tab.find? fun z => eqK z.1 k && eqK z.2.1 c with
      | none => rw [q2] at e; cases e
      | some z =>
        rw [q2] at e
        cases e
        have hz := List.find?_some q2
        obtain ⟨z1, z2⟩ := Bool.and_eq_true_iff.mp hz
        have e1 := eqK_ok z1
        have e2 := eqK_ok z2
        obtain ⟨t1, t2⟩ := hT z (List.mem_of_find?_eq_some q2)
        rw [e1, e2] at t1
        have cv : ClsV u (kV K c) := by
          rw [e2] at z2
          cases c <;> first | cases z2; done | skip
          · cases hc with
            | ty n => exact .ty _
            | obj h n => cases h
          · cases hc with
            | fn n => exact .own _
            | obj h n => cases h
        exact ⟨v, u, _, _, _, rfl, cv, kind_ty hr hx q fun C hC => t2 C (e1.trans hC), t1, Post.val hr p (.bl _)⟩
/-! data compared -/
theorem deep_way (hr : Rep K φ ρ μ H) (n : Nat) : Way (K := K) φ (fun _ => False) ρ [] H H fun k => (μ[k]?).bind (deep μ n) := by
  induction n with
  | zero => exact ⟨fun _ _ _ z => z, fun _ _ _ _ h => h, fun k a d hk e => by cases q : μ[k]? <;> rw [q] at e <;> cases e⟩
  | succ n ih =>
    refine ⟨fun _ _ _ z => z, fun _ _ _ _ h => h, fun k a d hk e => ?_⟩
    cases q : μ[k]? with
    | none => rw [q] at e; cases e
    | some d0 =>
      rw [q] at e
      have e : mapMut (fun k => (μ[k]?).bind (deep μ n)) d0 = some d := e
      obtain ⟨_, _, h'⟩ := At.way ih (hr.at hk q) (fun o _ ho => ho) e
      exact .obj h' fun z => z
theorem deep_is (hr : Rep K φ ρ μ H) {n : Nat} {v : V} {x y : D} (h : VIs K φ ρ H v x) (e : deep μ n x = some y) : VIs K (fun _ => False) [] H v y := by
  cases n with
  | zero => cases e
  | succ n => exact h.way (deep_way hr n) e
mutual
theorem VIs.dp : ∀ {v : V} {d : D} {a : PyData}, VIs K φ ρ H v d → toPy d = some a → Dp K H v a
  | _, _, _, .non, e => by cases e; exact .non
  | _, _, _, .bl b, e => by cases e; exact .bl b
  | _, _, _, .int b, e => by cases e; exact .int b
  | _, _, _, .str b, e => by cases e; exact .str b
  | _, _, _, .ty b, e => by cases e
  | _, _, _, .fn b, e => by cases e
  | _, _, _, .obj (.lst h t) n, e => by
    unfold toPy at e
    cases q : toPys _ with
    | none => rw [q] at e; cases e
    | some as => rw [q] at e; cases e; exact .lst (SqL.of h) (VsIs.dp t q)
  | _, _, _, .obj (.tup h t) n, e => by
    unfold toPy at e
    cases q : toPys _ with
    | none => rw [q] at e; cases e
    | some as => rw [q] at e; cases e; exact .tup (SqT.of h) (VsIs.dp t q)
  | _, _, _, .obj (.ins h l t) n, e => by cases e
  | _, _, _, .obj (.dK h t) n, e => by cases e
  | _, _, _, .obj (.dT h t) n, e => by cases e
  | _, _, _, .scrF h n, e => by cases e
  | _, _, _, .scrW h, e => by cases e
  | _, _, _, .wrT h t, e => by
    unfold toPy at e
    cases q : toPys _ with
    | none => rw [q] at e; cases e
    | some as => rw [q] at e; cases e; exact .tup (.inr h) (VsIs.dp t q)
  | _, _, _, .ob h, e => by cases e
theorem VsIs.dp : ∀ {vs : List V} {ds : List D} {as : List PyData}, VsIs K φ ρ H vs ds → toPys ds = some as → DpAll K H vs as
  | _, _, _, .nil, e => by cases e; exact .nil
  | _, _, _, .cons h t, e => by
    unfold toPys at e
    cases q : toPy _ with
    | none => rw [q] at e; cases e
    | some a =>
      rw [q] at e
      cases q2 : toPys _ with
      | none => rw [q2] at e; cases e
      | some as => rw [q2] at e; cases e; exact .cons (VIs.dp h q) (VsIs.dp t q2)
end
theorem eqD_inv {x y : D} {b : Bool} (h : eqO μ x y = some b) : ∃ x1 y1 a1 b1, deep μ 20 x = some x1 ∧ deep μ 20 y = some y1 ∧ toPy x1 = some a1 ∧ toPy y1 = some b1 ∧ SeqAt.shaped a1 = true ∧ SeqAt.shaped b1 = true ∧ b = PyData.eqv a1 b1 := by
  unfold eqO at h
  cases q1 : deep μ 20 x with
  | none => rw [q1] at h; cases h
  | some x1 =>
    rw [q1] at h
    cases q2 : deep μ 20 y with
    | none => rw [q2] at h; cases h
    | some y1 =>
      rw [q2] at h
      cases q3 : toPy x1 with
      | none => simp [q3] at h
      | some a1 =>
        cases q4 : toPy y1 with
        | none => simp [q3, q4] at h
        | some b1 =>
          simp only [q3, q4, Option.bind_eq_bind, Option.bind_some] at h
          cases c : SeqAt.shaped a1 && SeqAt.shaped b1 with
          | false => rw [c] at h; cases h
          | true =>
            rw [c] at h
            obtain ⟨c1, c2⟩ := Bool.and_eq_true_iff.mp c
            exact ⟨x1, y1, a1, b1, rfl, rfl, q3, q4, c1, c2, (Option.some.inj h).symm⟩
theorem eqD_post {x y : D} {k : Bool → M D} {Q : VK} {W : XK} (p : Post K (VIs K) φ ρ H Q W (M.bind (eqD x y) k μ)) : ∃ b, eqO μ x y = some b ∧ Post K (VIs K) φ ρ H Q W (k b μ) := by
  have e : eqD x y μ = M.opt (eqO μ x y) μ := rfl
  cases q : eqO μ x y with
  | none =>
    rw [q] at e
    have e : eqD x y μ = .bad := e
    rw [bind_bad e] at p
    exact p.elim
  | some b =>
    rw [q] at e
    have e : eqD x y μ = .ok b μ := e
    rw [bind_ok e] at p
    exact ⟨b, rfl, p⟩
theorem of_eqD : OpF K (rEqD K) (bE eqD false) := by
  intro φ ρ μ H v w x y Q W hr hv hw p
  obtain ⟨b, e, p⟩ := eqD_post p
  obtain ⟨x1, y1, a1, b1, h1, h2, h3, h4, h5, h6, rfl⟩ := eqD_inv e
  exact ⟨a1, b1, (deep_is hr hv h1).dp h3, (deep_is hr hw h2).dp h4, h5, h6, Post.val hr p (.bl _)⟩
theorem of_neD : OpF K (rNeD K) (bE eqD true) := by
  intro φ ρ μ H v w x y Q W hr hv hw p
  obtain ⟨b, e, p⟩ := eqD_post p
  obtain ⟨x1, y1, a1, b1, h1, h2, h3, h4, h5, h6, rfl⟩ := eqD_inv e
  exact ⟨a1, b1, (deep_is hr hv h1).dp h3, (deep_is hr hw h2).dp h4, h5, h6, Post.val hr p (.bl _)⟩
end
end Vl

namespace Vl
open PySem PySem.Spec PyProof.Rows L2
section
variable {X : Cx} {K : PySem.W.Frag} {W : L2.St → XK} {k n : Nat} {m C x : Str} {ps : List Str} {dvs : List V} {dv : List D} {f : List D → M D} {a b c e o fe : Expr} {es : List Expr} {p pos apos : Pos} {r : AF} {fo fa fb fc : EF} {F : SF}
theorem fMeth {pl : Sem Bool} (cl : Cls K (He.ga K C)) (G : DunD X.prog X.w X.K X.mg X.base (L2.CX X.prog X.w) k (He.ga K C) m ps dvs (spF K n f)) (hd : Const K dvs dv) (hr : Room k X.A) (tk : Takes X (wx W)) (ho : PE X o (tE K W fo)) (ha : PA X (e :: es) (tA K W r)) (hK : X.K = K := by rfl)
    (hst : starEach (e :: es) X.env = (false, eval e X.env) :: starEach es X.env := by rfl) (hpl : (backTo pos (starEach es X.env)).any (·.1) = false := by rfl)
    (ht : eval (.Call (.Attribute o m apos) (e :: es) [] pos) X.env = (eval o X.env >>= fun ov => standAt apos.atName >>= fun _ => holding [ov] (getMethod ov m pl) >>= fun z => callWith pos z.1 z.2 (backTo pos (starEach (e :: es) X.env)) (backToKw pos (keywordEach [] X.env))) := by rfl) :
    PE X (.Call (.Attribute o m apos) (e :: es) [] pos) (tE K W (eMeth C m n f dv fo r)) := by
  subst hK
  refine (peMe (pl := pl) (E := W) ho cl G hr (fun σ => passAt tk σ) ha hst hpl ht).vimp fun σ H Q ⟨φ, ρ, Γ, μ, he, hr, p⟩ => stepE he hr p fun l1 he h1 p => ?_
  obtain ⟨⟨a, dx, fs, e1, e2, e3⟩, p⟩ := clsIs_post l1.rep h1 p
  exact ⟨a, dx, fs, e1, e2, e3, stepA he l1.rep p fun l2 he h2 p => callV_ok l2.rep (.cons (l2.val l1.rep h1) (h2.append (hd _ _ _))) p⟩
theorem fMeth0 {pl : Sem Bool} (cl : Cls K (He.ga K C)) (G : DunD X.prog X.w X.K X.mg X.base (L2.CX X.prog X.w) k (He.ga K C) m ps dvs (spF K n f)) (hd : Const K dvs dv) (hr : Room k X.A) (tk : Takes X (wx W)) (ho : PE X o (tE K W fo)) (hK : X.K = K := by rfl)
    (ht : eval (.Call (.Attribute o m apos) [] [] pos) X.env = (eval o X.env >>= fun ov => standAt apos.atName >>= fun _ => holding [ov] (getMethod ov m pl) >>= fun z => callWith pos z.1 z.2 (backTo pos (starEach [] X.env)) (backToKw pos (keywordEach [] X.env))) := by rfl) :
    PE X (.Call (.Attribute o m apos) [] [] pos) (tE K W (eMeth C m n f dv fo aNil)) := by
  subst hK
  refine (peMe0 (pl := pl) (E := W) ho cl G hr (fun σ => passAt tk σ) ht).vimp fun σ H Q ⟨φ, ρ, Γ, μ, he, hr, p⟩ => stepE he hr p fun l1 he h1 p => ?_
  obtain ⟨⟨a, dx, fs, e1, e2, e3⟩, p⟩ := clsIs_post l1.rep h1 p
  exact ⟨a, dx, fs, e1, e2, e3, callV_ok (vs := _ :: ([] ++ dvs)) l1.rep (.cons h1 (hd _ _ _)) p⟩
theorem fAlt (h : PE X e (tE K W fa)) (h' : PE X e (tE K W fb)) : PE X e (tE K W (eAlt fa fb)) := ⟨fun pins s σ H Q I ⟨φ, ρ, Γ, μ, he, hr, p⟩ => by
  have p : Post K (VIs K) φ ρ H Q (W σ) (alt (fa Γ) (fb Γ) μ) := p
  unfold alt at p
  cases q : fa Γ μ with
  | bad => rw [q] at p; exact h'.run pins s σ H Q I ⟨φ, ρ, Γ, μ, he, hr, p⟩
  | ok d m => rw [q] at p; exact h.run pins s σ H Q I ⟨φ, ρ, Γ, μ, he, hr, by rw [q]; exact p⟩
  | exc d m => rw [q] at p; exact h.run pins s σ H Q I ⟨φ, ρ, Γ, μ, he, hr, by rw [q]; exact p⟩⟩
/-- C.m(..), a static method (nothing is raised) -/
def eStat (n : Nat) (f : List D → M D) (r : AF) : EF := fun Γ => M.bind (r Γ) fun ds => calmM (callV n f ds)
theorem fStat {pl : Sem Bool} {p0 : Pos} (G : Ow.Stat X.prog X.w X.K X.mg X.base (L2.CX X.prog X.w) k (He.ga K C) m ps (spF K n f)) (hr : Room k X.A) (hm : X.mg C = some (.ref (He.ga K C))) (ha : PA X (e :: es) (tA K W r)) (hg : Gl X C := by rfl) (hd : (C == ("__debug__" : Str)) = false := by decide)
    (hst : starEach (e :: es) X.env = (false, eval e X.env) :: starEach es X.env := by rfl) (hpl : (backTo pos (starEach es X.env)).any (·.1) = false := by rfl)
    (ht : eval (.Call (.Attribute (.Name C p0) m apos) (e :: es) [] pos) X.env = (eval (.Name C p0) X.env >>= fun ov => standAt apos.atName >>= fun _ => holding [ov] (getMethod ov m pl) >>= fun z => callWith pos z.1 z.2 (backTo pos (starEach (e :: es) X.env)) (backToKw pos (keywordEach [] X.env))) := by rfl) :
    PE X (.Call (.Attribute (.Name C p0) m apos) (e :: es) [] pos) (tE K W (eStat n f r)) :=
  (Ow.pe_stat (pl := pl) (pe_glob (v := .ref (He.ga K C)) hg hm rfl hd) G hr passF ha hst hpl ht).vimp fun σ H Q ⟨φ, ρ, Γ, μ, he, hr, p⟩ => ⟨rfl, stepA he hr p fun l he h p => callV_ok l.rep h (calm_post p)⟩
theorem fStat0 {pl : Sem Bool} {p0 : Pos} (G : Ow.Stat X.prog X.w X.K X.mg X.base (L2.CX X.prog X.w) k (He.ga K C) m ps (spF K n f)) (hr : Room k X.A) (hm : X.mg C = some (.ref (He.ga K C))) (hg : Gl X C := by rfl) (hd : (C == ("__debug__" : Str)) = false := by decide)
    (ht : eval (.Call (.Attribute (.Name C p0) m apos) [] [] pos) X.env = (eval (.Name C p0) X.env >>= fun ov => standAt apos.atName >>= fun _ => holding [ov] (getMethod ov m pl) >>= fun z => callWith pos z.1 z.2 (backTo pos (starEach [] X.env)) (backToKw pos (keywordEach [] X.env))) := by rfl) :
    PE X (.Call (.Attribute (.Name C p0) m apos) [] [] pos) (tE K W (eStat n f aNil)) :=
  (Ow.pe_stat0 (pl := pl) (pe_glob (v := .ref (He.ga K C)) hg hm rfl hd) G hr passF ht).vimp fun σ H Q ⟨φ, ρ, Γ, μ, he, hr, p⟩ => ⟨rfl, callV_ok (vs := []) hr .nil (calm_post p)⟩
/-- o(..), an instance called -/
theorem fInst (G : Ow.Dun X.prog X.w X.K X.mg X.base (L2.CX X.prog X.w) k (He.ga K C) "__call__" ps (spF K n f)) (hfi : ∀ g, PySem.W.findIn X.K (.ref (He.ga K C)) "__call__" = some (some (.ref g)) → PySem.W.fnIn X.K g = true) (hr : Room k X.A) (ho : PE X fe (tE K W fo)) (ha : PA X (e :: es) (tA K W r))
    (ht : eval (.Call fe (e :: es) [] pos) X.env = (do callWith pos (← eval fe X.env) [] (backTo pos (starEach (e :: es) X.env)) (backToKw pos (keywordEach [] X.env))) := by rfl)
    (he : starEach (e :: es) X.env = (false, eval e X.env) :: starEach es X.env := by rfl) (hpl : (backTo pos (starEach es X.env)).any (·.1) = false := by rfl) : PE X (.Call fe (e :: es) [] pos) (tE K W (eInst C n f fo r)) :=
  (Ow.pe_inst ho G hfi hr passF ha ht he hpl).vimp fun σ H Q ⟨φ, ρ, Γ, μ, he, hr, p⟩ => stepE he hr p fun l1 he h1 p => by
    obtain ⟨⟨a, dx, fs, e1, e2, e3⟩, p⟩ := clsIs_post l1.rep h1 p
    refine ⟨a, e1, stepA he l1.rep p fun l2 he h2 p => ?_⟩
    obtain ⟨⟨a', dx', fs', g1, g2, g3⟩, p⟩ := clsIs_post l2.rep (l2.val l1.rep h1) p
    rw [e1] at g1
    cases g1
    refine ⟨.inr ⟨dx', fs', g2⟩, ?_⟩
    rw [← e1]
    exact callV_ok l2.rep (.cons (l2.val l1.rep h1) h2) (calm_post p)
/-! slices -/
theorem oNoF : PO X none tNoPart := po_none
theorem slT_is {φ : Addr → Prop} {ρ : List Addr} {μ : Sto} {H : Hp} {v : V} {xs : List D} {lo hi : Option Int} {Q : VK} {W : XK} (hr : Rep K φ ρ μ H) (h : VIs K φ ρ H v (.tup xs)) (pp : Post K (VIs K) φ ρ H Q W (.ok (.tup (cutD xs lo hi)) μ)) : rSlA K v lo hi H Q := by
  obtain ⟨a, us, e1, e2, e3⟩ := h.tupE
  refine ⟨a, us, e1, e2, fun hw => ?_, fun _ q hq => Post.tup hr pp (cut_is e3) hq⟩
  have : cutD xs lo hi = xs := by
    unfold cutD
    rw [e3.length] at hw
    rw [hw.1, hw.2]
    simp
  rw [this] at pp
  rw [← e1]
  exact Post.val hr pp h
/-- a slice's reading, whatever is cut -/
def rSlAny (K : PySem.W.Frag) : V → Option Int → Option Int → Hp → VK → Prop := fun x lo hi H Q => rSlL K x lo hi H Q ∨ rSlA K x lo hi H Q ∨ rSlS x lo hi H Q
theorem sl_any : SlR X (rSlAny X.K) := fun pins s σ H x v vl vu lo hi sl Q I rx hs pl pu h => by
  rcases h with h | h | h
  · exact sl_list pins s σ H x v vl vu lo hi sl Q I rx hs pl pu h
  · exact sl_tupA pins s σ H x v vl vu lo hi sl Q I rx hs pl pu h
  · exact sl_str pins s σ H x v vl vu lo hi sl Q I rx hs pl pu h
theorem slD_ok {φ : Addr → Prop} {ρ : List Addr} {μ : Sto} {H : Hp} {v : V} {x : D} {mm : Bool} {lo hi : Option Int} {Q : VK} {W : XK} (hr : Rep K φ ρ μ H) (h : VIs K φ ρ H v x) (p : Post K (VIs K) φ ρ H Q W (slD mm x lo hi μ)) : rSlAny K v lo hi H Q := by
  have rest : Post K (VIs K) φ ρ H Q W ((match rdL μ x with | some xs => newL mm (cutD xs lo hi) | none => M.fail) μ) → rSlAny K v lo hi H Q := fun p => by
    cases q : rdL μ x <;> rw [q] at p <;> first | exact p.elim | skip
    obtain ⟨a, us, e1, e2, e3⟩ := h.rdL hr q
    exact .inl ⟨a, us, e1, e2, (newL_post hr (cut_is e3) p).2⟩
  cases x
  case tup xs => exact .inr (.inl (slT_is hr h p))
  case str z =>
    obtain ⟨c, pp⟩ := guard_post p
    exact .inr (.inr ⟨_, h.strE, Nat.le_of_lt (many_line (of_decide_eq_true c)), Post.val hr pp (.str _)⟩)
  all_goals exact rest p
/-- a part of a slice -/
def tO (K : PySem.W.Frag) (W : L2.St → XK) (f : OF) : TO := fun σ H Q => ∃ φ ρ Γ μ, EnvIs K φ ρ H σ Γ ∧ Rep K φ ρ μ H ∧ Post K (fun _ _ _ (b c : Option Int) => b = c) φ ρ H Q (W σ) (f Γ μ)
theorem stepO {φ : Addr → Prop} {ρ : List Addr} {μ : Sto} {H : Hp} {σ : L2.St} {Γ : Env} {α β : Type} {R : (Addr → Prop) → List Addr → Hp → β → α → Prop} {Q : β → Hp → Prop} {Q1 : Option Int → Hp → Prop} {f : OF} {g : Option Int → M α} (he : EnvIs K φ ρ H σ Γ) (hr : Rep K φ ρ μ H) (p : Post K R φ ρ H Q (W σ) (M.bind (f Γ) g μ))
    (nx : ∀ {d μ1 φ1 ρ1 H1}, Later K φ ρ H φ1 ρ1 μ1 H1 → EnvIs K φ1 ρ1 H1 σ Γ → Post K R φ1 ρ1 H1 Q (W σ) (g d μ1) → Q1 d H1) : tO K W f σ H Q1 := by
  refine ⟨φ, ρ, Γ, μ, he, hr, ?_⟩
  unfold M.bind at p
  cases e : f Γ μ with
  | bad => rw [e] at p; exact p
  | exc x m => rw [e] at p; exact p
  | ok d m => rw [e] at p; exact fun φ1 ρ1 v H1 l h => by cases h; exact nx l (l.env hr he) (Post.later p l)
theorem poNo : PO X none (tO K W oNo) := ⟨fun pins s σ H Q I ⟨φ, ρ, Γ, μ, he, hr, p⟩ => po_none.run pins s σ H Q I (p _ _ _ _ (Later.refl hr) rfl)⟩
theorem poSome (h : PE X e (tE K W fa)) : PO X (some e) (tO K W (oSome fa)) := ⟨fun pins s σ H Q I ⟨φ, ρ, Γ, μ, he, hr, p⟩ => (po_some h).run pins s σ H Q I (stepE he hr p fun {d _ _ _ _ _} l he h p => by
  cases d <;> first | exact p.elim | skip
  exact ⟨_, h.intE, p _ _ _ _ (Later.refl l.rep) rfl⟩)⟩
theorem fSl {mm : Bool} {lo hi : Option Expr} {fl fh : OF} {p2 : Pos} (ha : PE X a (tE K W fa)) (hl : PO X lo (tO K W fl)) (hh : PO X hi (tO K W fh)) (hK : X.K = K := by rfl) : PE X (.Subscript a (.Slice lo hi none p2) pos) (tE K W (eSl mm fa fl fh)) := by
  subst hK
  exact (pe_slice sl_any ha hl hh).vimp fun σ H Q ⟨φ, ρ, Γ, μ, he, hr, p⟩ => stepE he hr p fun l1 he h1 p => stepO he l1.rep p fun l2 he p => stepO he l2.rep p fun l3 he p => slD_ok l3.rep (l3.val l2.rep (l2.val l1.rep h1)) p
theorem fRev {mm : Bool} {kk : Nat} {p1 p2 p3 : Pos} (ha : PE X a (tE K W fa)) (hK : X.K = K := by rfl) : PE X (.Subscript a (.Slice none none (some (.UnaryOp .USub (.Constant (.int 1) kk p1) p2)) p3) pos) (tE K W (eUn (revD mm) fa)) := by
  subst hK
  refine (pe_revL ha).vimp fun σ H Q ⟨φ, ρ, Γ, μ, he, hr, p⟩ => stepE he hr p fun {d μ1 φ1 ρ1 v H1} l1 he h1 p => ?_
  have p : Post X.K (VIs X.K) φ1 ρ1 H1 Q (W σ) ((match look μ1 d with
    | .lst ys => newL mm ys.reverse
    | _ => M.fail) μ1) := p
  cases q : look μ1 d <;> rw [q] at p <;> first | exact p.elim | skip
  obtain ⟨b, us, e1, e2, e3⟩ := h1.lookL l1.rep q
  exact ⟨b, us, e1, e2, (newL_post l1.rep e3.reverse p).2⟩
/-! list methods -/
theorem fAppend {cpos : Pos} (ho : PE X o (tE K W fo)) (ha : PA X (e :: es) (tA K W r)) (hK : X.K = K := by rfl) (hbase : attributeBase o "append" X.env (eval o X.env) = eval o X.env := by rfl)
    (hfew : ((backTo cpos (starEach (e :: es) X.env)).all (fun x => !x.1) && (backToKw cpos (keywordEach [] X.env)).all (fun x => x.1.isSome) && decide ((e :: es).length + ([] : List Keyword).length + (if ([] : List Keyword).isEmpty then 0 else 1) < 30)) = true := by rfl)
    (hline : (apos.endLine == cpos.line) = true := by rfl) (hs : starEach (e :: es) X.env = (false, eval e X.env) :: starEach es X.env := by rfl) (hplain : (backTo cpos (starEach es X.env)).any (·.1) = false := by rfl) :
    PE X (.Call (.Attribute o "append" apos) (e :: es) [] cpos) (tE K W (eLM appendD fo r)) := by
  subst hK
  refine (pe_bm PySem.F.plainAttrs_list PySem.F.slot_list_append PySem.F.type_list_append mt_append ho ha hbase hfew hline hs hplain).vimp fun σ H Q ⟨φ, ρ, Γ, μ, he, hr, p⟩ => stepE he hr p fun l1 he h1 p => ?_
  obtain ⟨t, p⟩ := isList_post l1.rep h1 p
  exact ⟨t, stepA he l1.rep p fun l2 he h2 p => of_append l2.rep (l2.val l1.rep h1) h2 p⟩
/-! chains, isinstance -/
theorem fChain {op op' : CmpOp} {rr rr' : R2} {g g' : D → D → M D} (ho : OpR X (compareOp op) rr) (hf : OpF K rr g) (ho' : OpR X (compareOp op') rr') (hf' : OpF K rr' g') (ha : PE X a (tE K W fa)) (hb : PE X b (tE K W fb)) (hc : PE X c (tE K W fc))
    (hm : lastMarks [op, op'] [b, c] = false := by with_unfolding_all rfl) : PE X (.Compare a [op, op'] [b, c] pos) (tE K W (eCh g g' fa fb fc)) := by
  refine (pe_chain ho ho' ha hb hc hm).vimp fun σ H Q ⟨φ, ρ, Γ, μ, he, hr, p⟩ => stepE he hr p fun {dx μ1 φ1 ρ1 v H1} l1 he h1 p => stepE he l1.rep p fun {dy μ2 φ2 ρ2 u H2} l2 he h2 p => hf (W := W σ) l2.rep (l2.val l1.rep h1) h2 ?_
  have p : Post K (VIs K) φ2 ρ2 H2 Q (W σ) (M.bind (g dx dy) (fun z => match z with
    | .bl true => M.bind (fc Γ) fun w => g' dy w
    | .bl false => M.pure (.bl false)
    | _ => M.fail) μ2) := p
  cases q : g dx dy μ2 with
  | bad => rw [bind_bad q] at p; exact p
  | exc z m => unfold M.bind at p; rw [q] at p; exact p
  | ok d m =>
    rw [bind_ok q] at p
    intro φ3 ρ3 z H3 l3 h3
    cases d <;> first | exact p.elim | skip
    rename_i bb
    refine ⟨bb, h3.blE, ?_⟩
    have p3 := Post.later p l3
    cases bb with
    | false => exact iteF (Post.val l3.rep p3 (.bl _))
    | true => exact iteT (stepE (l3.env l2.rep he) l3.rep p3 fun l4 he h4 p => hf' l4.rep (l4.val l3.rep (l3.val l2.rep h2)) h4 p)
/-- never reached -/
theorem sNever {st : Stmt} : PS X st (tS K W fun _ => M.fail) := ⟨fun _ _ _ _ _ _ ⟨_, _, _, _, _, _, p⟩ => p.elim⟩
end
/-! the operators' rules, whatever kind stands there -/
section
variable {X : Cx} {K : PySem.W.Frag}
def addD (m : Bool) : D → D → M D := fun x y => alt (intOp (fun _ _ => true) (fun i j => .int (i + j)) x y) (alt (strOp (fun i j => decide (i.length + j.length ≤ many)) (fun i j => .str (i ++ j)) x y) (alt (addT x y) (addL m x y)))
theorem of_addS : OpF K (fun x y H Q => ∃ i j, x = .str i ∧ y = .str j ∧ i.length + j.length ≤ sizeLine ∧ Q (.str (i ++ j)) H) (strOp (fun i j => decide (i.length + j.length ≤ many)) (fun i j => .str (i ++ j))) := by
  intro φ ρ μ H v w x y Q W hr hv hw p
  obtain ⟨i, j, rfl, rfl, c, q⟩ := strOp_inv p
  exact ⟨i, j, hv.strE, hw.strE, Nat.le_of_lt (many_line (of_decide_eq_true c)), Post.val hr q (.str _)⟩
theorem of_addT : OpF K (rCatA K) addT := by
  intro φ ρ μ H v w x y Q W hr hv hw p
  cases x <;> first | exact p.elim | skip
  cases y <;> first | exact p.elim | skip
  rename_i xs ys
  obtain ⟨c, pp⟩ := guard_post p
  obtain ⟨a, us, e1, e2, e3⟩ := hv.tupE
  obtain ⟨b, ws, g1, g2, g3⟩ := hw.tupE
  refine ⟨a, b, us, ws, e1, g1, e2, g2, by rw [e3.length, g3.length]; exact Nat.le_of_lt (many_line (of_decide_eq_true c)), fun z => ?_, fun _ z => ?_, fun _ _ q hq => Post.tup hr pp (e3.append g3) hq⟩
  · subst z
    cases e3
    rw [← g1]
    exact Post.val hr pp hw
  · subst z
    cases g3
    rw [List.append_nil] at pp
    rw [← e1]
    exact Post.val hr pp hv
/-- list + list, locked ones too -/
def rCatR : R2 := fun x y H Q => ∃ l b xs zs, x = .ref l ∧ y = .ref b ∧ Rd H l (.lst xs) ∧ Rd H b (.lst zs) ∧ xs.length + zs.length ≤ sizeLine ∧ ∀ p, H p = none → Q (.ref p) (upd H p (.lst (xs ++ zs)))
theorem op_catR : OpR X (binaryOp .Add) rCatR := by
  intro pins s σ H x y v u Q I rx ry h
  obtain ⟨l, b, xs, zs, rfl, rfl, h1, h2, hz, q⟩ := h
  obtain rfl : v = .ref l := rx
  obtain rfl : u = .ref b := ry
  obtain ⟨_, its, n, r, e⟩ := h1.ok I.hok
  obtain ⟨_, jts, n2, r2, e2⟩ := h2.ok I.hok
  have l1 := r.length
  have l2 := r2.length
  refine PySem.P.add_list e e2 ?_ (by simp only [List.size_toArray]; omega)
  have ea : its.toArray ++ jts.toArray = (its ++ jts).toArray := List.append_toArray ..
  rw [ea]
  exact ⟨.ref s.heap.objs.size, _, I.lnew (t' := s.toks) (Vals.append r r2) (by simp only [List.length_append]; omega), rfl, q _ I.fresh⟩
theorem of_addL {m : Bool} : OpF K rCatR (addL m) := by
  intro φ ρ μ H v w x y Q W hr hv hw p
  have p : Post K (VIs K) φ ρ H Q W ((match look μ x, look μ y with
    | .lst a, .lst b => newL m (a ++ b)
    | _, _ => M.fail) μ) := p
  cases q : look μ x <;> rw [q] at p <;> first | (cases look μ y <;> exact p.elim) | skip
  cases q2 : look μ y <;> rw [q2] at p <;> first | exact p.elim | skip
  obtain ⟨a, us, e1, e2, e3⟩ := hv.lookR hr q
  obtain ⟨b, ws, g1, g2, g3⟩ := hw.lookR hr q2
  have := newL_post hr (e3.append g3) p
  exact ⟨a, b, us, ws, e1, g1, e2, g2, by rw [← List.length_append]; exact this.1, this.2⟩
theorem opAdd (hK : X.K = K := by rfl) : OpR X (binaryOp .Add) (fun x y H Q => rI0 (fun i j => .int (i + j)) x y H Q ∨ ((∃ i j, x = .str i ∧ y = .str j ∧ i.length + j.length ≤ sizeLine ∧ Q (.str (i ++ j)) H) ∨ (rCatA K x y H Q ∨ rCatR x y H Q))) := by
  subst hK
  exact OpR.or' op_add (OpR.or' op_add_str (OpR.or' op_catA op_catR))
theorem ofAdd {m : Bool} : OpF K (fun x y H Q => rI0 (fun i j => .int (i + j)) x y H Q ∨ ((∃ i j, x = .str i ∧ y = .str j ∧ i.length + j.length ≤ sizeLine ∧ Q (.str (i ++ j)) H) ∨ (rCatA K x y H Q ∨ rCatR x y H Q))) (addD m) := OpF.or of_rI0 (OpF.or of_addS (OpF.or of_addT of_addL))
/-! numbers -/
def mulC (i j : Int) : Bool := (decide (-(2 ^ 64) < i) && decide (i < 2 ^ 64)) || (decide (-(2 ^ 64) < j) && decide (j < 2 ^ 64))
theorem mulC_ok {i j : Int} (h : mulC i j = true) : CMul i j := by
  unfold mulC at h
  simp only [Bool.or_eq_true, Bool.and_eq_true, decide_eq_true_eq] at h
  exact h
def divC (_ j : Int) : Bool := decide (0 < j) && decide (j < 1073741824)
theorem divC_ok {i j : Int} (h : divC i j = true) : CDiv i j := by
  unfold divC at h
  simp only [Bool.and_eq_true, decide_eq_true_eq] at h
  exact h
def powC (i j : Int) : Bool := decide (0 ≤ j) && (decide (j ≤ 1000000) && decide (i.natAbs < 2 ^ 64))
theorem powC_ok {i j : Int} (h : powC i j = true) : CPow i j := by
  unfold powC at h
  simp only [Bool.and_eq_true, decide_eq_true_eq] at h
  exact h
def subD : D → D → M D := intOp (fun _ _ => true) fun i j => .int (i - j)
def mulD : D → D → M D := intOp mulC fun i j => .int (i * j)
def fdivD : D → D → M D := intOp divC fun i j => .int (i / j)
def modD : D → D → M D := intOp (fun _ j => decide (0 < j)) fun i j => .int (i % j)
def powD : D → D → M D := intOp powC fun i j => .int (i ^ j.toNat)
def shlD : D → D → M D := intOp powC fun i j => .int (i * 2 ^ j.toNat)
def shrD : D → D → M D := intOp (fun _ j => decide (0 ≤ j)) fun i j => .int (i / 2 ^ j.toNat)
def andD : D → D → M D := intOp (fun _ _ => true) fun i j => .int (Builtin.bitAnd i j)
theorem ofSub : OpF K (rI0 fun i j => .int (i - j)) subD := of_rI0
theorem ofMul : OpF K (rI CMul fun i j => .int (i * j)) mulD := of_rI fun _ _ h => mulC_ok h
theorem ofFdiv : OpF K (rI CDiv fun i j => .int (i / j)) fdivD := of_rI fun _ _ h => divC_ok h
theorem ofMod : OpF K (rI (fun _ j => 0 < j) fun i j => .int (i % j)) modD := of_rI fun _ _ h => of_decide_eq_true h
theorem ofPow : OpF K (rI CPow fun i j => .int (i ^ j.toNat)) powD := of_rI fun _ _ h => powC_ok h
theorem ofShl : OpF K (rI CPow fun i j => .int (i * 2 ^ j.toNat)) shlD := of_rI fun _ _ h => powC_ok h
theorem ofShr : OpF K (rI (fun _ j => 0 ≤ j) fun i j => .int (i / 2 ^ j.toNat)) shrD := of_rI fun _ _ h => of_decide_eq_true h
theorem ofAnd : OpF K (rI0 fun i j => .int (Builtin.bitAnd i j)) andD := of_rI0
def negD : D → M D
  | .int i => M.pure (.int (-i))
  | _ => M.fail
theorem ofNeg : UnF K (rU fun i => .int (-i)) negD := by
  intro φ ρ μ H v x Q W hr hv p
  cases x <;> first | exact p.elim | skip
  exact ⟨_, hv.intE, Post.val hr p (.int _)⟩
def ltD : D → D → M D := intOp (fun _ _ => true) fun i j => .bl (decide (i < j))
def leD : D → D → M D := intOp (fun _ _ => true) fun i j => .bl (decide (i ≤ j))
def gtD : D → D → M D := intOp (fun _ _ => true) fun i j => .bl (decide (j < i))
def geD : D → D → M D := intOp (fun _ _ => true) fun i j => .bl (decide (j ≤ i))
theorem ofLt : OpF K (rI0 fun i j => .bl (decide (i < j))) ltD := of_rB0
theorem ofLe : OpF K (rI0 fun i j => .bl (decide (i ≤ j))) leD := of_rB0
theorem ofGt : OpF K (rI0 fun i j => .bl (decide (j < i))) gtD := of_rB0
theorem ofGe : OpF K (rI0 fun i j => .bl (decide (j ≤ i))) geD := of_rB0
/-- is None -/
def isND (neg : Bool) : D → D → M D
  | x, .non => M.get fun μ => match look μ x with
    | .non => M.guard (isN x) (M.pure (.bl (!neg)))
    | _ => M.pure (.bl neg)
  | _, _ => M.fail
theorem isN_ok {φ : Addr → Prop} {ρ : List Addr} {μ : Sto} {H : Hp} {v : V} {x : D} {neg : Bool} {Q : VK} {W : XK} (hr : Rep K φ ρ μ H) (hv : VIs K φ ρ H v x) (p : Post K (VIs K) φ ρ H Q W ((match look μ x with
    | .non => M.guard (isN x) (M.pure (D.bl (!neg)))
    | _ => M.pure (D.bl neg)) μ)) : Q (.bl (if neg then !decide (v = .non) else decide (v = .non))) H := by
  by_cases c : v = .non
  · subst c
    have : x = .non := by
      cases hv with
      | non => rfl
    subst this
    have p : Post K (VIs K) φ ρ H Q W (.ok (.bl (!neg)) μ) := p
    have e : (if neg = true then !decide (V.non = V.non) else decide (V.non = V.non)) = !neg := by cases neg <;> simp
    rw [e]
    exact Post.val hr p (.bl _)
  · have nx : isN x = false := by
      cases x <;> first | rfl | exact absurd hv.nonE c
    have p : Post K (VIs K) φ ρ H Q W (.ok (.bl neg) μ) := by
      cases q : look μ x <;> rw [q] at p <;> first | exact p | skip
      rw [nx] at p
      exact p.elim
    have e : (if neg = true then !decide (v = .non) else decide (v = .non)) = neg := by cases neg <;> simp [c]
    rw [e]
    exact Post.val hr p (.bl _)
theorem ofIs : OpF K (fun x y H Q => y = .non ∧ Q (.bl (decide (x = .non))) H) (isND false) := by
  intro φ ρ μ H v w x y Q W hr hv hw p
  cases y <;> first | (cases x <;> exact p.elim) | skip
  have p : Post K (VIs K) φ ρ H Q W ((match look μ x with
    | .non => M.guard (isN x) (M.pure (D.bl (!false)))
    | _ => M.pure (D.bl false)) μ) := p
  exact ⟨hw.nonE, by simpa using isN_ok (neg := false) hr hv p⟩
theorem ofIsNot : OpF K (fun x y H Q => y = .non ∧ Q (.bl (!decide (x = .non))) H) (isND true) := by
  intro φ ρ μ H v w x y Q W hr hv hw p
  cases y <;> first | (cases x <;> exact p.elim) | skip
  have p : Post K (VIs K) φ ρ H Q W ((match look μ x with
    | .non => M.guard (isN x) (M.pure (D.bl (!true)))
    | _ => M.pure (D.bl true)) μ) := p
  exact ⟨hw.nonE, by simpa using isN_ok (neg := true) hr hv p⟩
end
end Vl

namespace Vl
open PySem PySem.Spec PyProof.Rows L2
theorem nox_gN (i : Nat) : ∀ d Γ μ, noX (gN i d Γ μ) = true := fun _ _ _ => rfl
theorem nox_nil : ∀ d Γ μ, noX (Vl.gNil d Γ μ) = true := fun d Γ μ => by cases d <;> rfl
theorem nox_cons {g : GF} {r : List D → Env → M Env} (h : ∀ d Γ μ, noX (g d Γ μ) = true) (k : ∀ d Γ μ, noX (r d Γ μ) = true) : ∀ d Γ μ, noX (Vl.gCons g r d Γ μ) = true := fun d Γ μ => by
  cases d with
  | nil => rfl
  | cons x xs =>
    show noX (M.bind (g x Γ) (r xs) μ) = true
    have := h x Γ μ
    cases q : g x Γ μ with
    | bad => rw [bind_bad q]; rfl
    | exc y m => rw [q] at this; cases this
    | ok a m => rw [bind_ok q]; exact k xs a m
theorem nox_tup {n : Nat} {r : List D → Env → M Env} (k : ∀ d Γ μ, noX (r d Γ μ) = true) : ∀ d Γ μ, noX (Vl.gTup n r d Γ μ) = true := fun d Γ μ => by
  cases d <;> first | rfl | skip
  rename_i xs
  show noX (M.guard (xs.length == n) (r xs Γ) μ) = true
  cases xs.length == n with
  | false => rfl
  | true => exact k xs Γ μ
def putL (x i v : D) : M Unit := fun μ => match x, i with
  | .ob k, .int i => match μ[k]? with
    | some (.lst xs) => match ixN xs.length i with
      | some j => .ok () (μ.set k (.lst (xs.set j v)))
      | none => .bad
    | _ => .bad
  | _, _ => .bad
def sPut (o i e : EF) : SF := fun Γ => up Γ (e Γ) fun v => up Γ (o Γ) fun x => up Γ (i Γ) fun j => up Γ (putL x j v) fun _ => M.pure (.nx Γ)
def sAug (i : Nat) (g : D → D → M D) (e : EF) : SF := fun Γ => up Γ (eVar i Γ) fun x => up Γ (e Γ) fun y => up Γ (g x y) fun z => M.pure (.nx (Γ.set i (some z)))
def addI : D → D → M D := intOp (fun _ _ => true) fun i j => .int (i + j)
def ownLen (C : Str) (f : List D → M D) (xs : List D) : M D := match xs with
  | [x] => fun μ => match look μ x with
    | .ins C2 _ _ => M.guard (C2 == C) (M.bind (calmM (callV 1 f [x])) fun b => match b with
      | .int n => M.guard (decide (0 ≤ n) && decide (n < 9223372036854775808)) (M.pure (.int n))
      | _ => M.fail) μ
    | _ => .bad
  | _ => M.fail
section
variable {K : PySem.W.Frag} {φ : Addr → Prop} {ρ : List Addr} {μ : Sto} {H : Hp}
theorem of_ownLen {C : Str} {f : List D → M D} : CaF K (Ow.rOwnLen (He.ga K C) (spF K 1 f) (fun _ _ _ => False)) (ownLen C f) := by
  intro φ ρ μ H vs xs Q W hr hv p
  match xs, hv, p with
  | [], hv, p => exact p.elim
  | _ :: _ :: _, hv, p => exact p.elim
  | [x], hv, p =>
    obtain ⟨v, rfl, h⟩ := hv.one
    unfold ownLen at p
    dsimp only at p
    cases q : look μ x <;> rw [q] at p <;> first | exact p.elim | skip
    obtain ⟨c, pp⟩ := guard_post p
    have c1 := beq_iff_eq.mp c
    subst c1
    obtain ⟨b, dy, ws, g1, g2, g3, g4⟩ := h.lookI hr q
    refine ⟨b, dy, _, by rw [g1], g2, ?_⟩
    rw [← g1]
    refine callV_ok hr (.cons h .nil) ?_
    cases r : callV 1 f [x] μ with
    | bad => rw [bind_bad (calm_bad r)] at pp; exact pp
    | exc z m => rw [bind_bad (calm_exc r)] at pp; exact pp.elim
    | ok d m =>
      rw [bind_ok (calm_ok r)] at pp
      cases d <;> first | exact pp.elim | skip
      rename_i i
      have pp : Post K (VIs K) φ ρ H Q W (M.guard (decide (0 ≤ i) && decide (i < 9223372036854775808)) (M.pure (D.int i)) m) := pp
      obtain ⟨c, pp⟩ := guard_post pp
      obtain ⟨c1, c2⟩ := Bool.and_eq_true_iff.mp c
      have c1 := of_decide_eq_true c1
      have c2 := of_decide_eq_true c2
      obtain ⟨n, rfl⟩ := Int.eq_ofNat_of_zero_le c1
      exact fun φ1 ρ1 u H1 l h => ⟨n, h.intE, by have : (n : Int) < 9223372036854775808 := c2; omega, pp _ _ _ _ l (.int _)⟩
end
section
variable {X : Cx} {K : PySem.W.Frag} {W : L2.St → XK} {a b c e o ie : Expr} {pos pos' tpos : Pos} {fa fb fc fo fi : EF} {x : Str}
theorem fConI {i : Int} (h : ∃ t, X.mg x = some (.int i t)) (hg : Gl X x := by rfl) (hd : (x == ("__debug__" : Str)) = false := by decide) : PE X (.Name x pos) (tE K W (eC (.int i))) := by
  obtain ⟨t, h⟩ := h
  exact fC (pe_glob (v := .int i) hg h ⟨t, rfl⟩ hd) fun _ _ _ => .int i
theorem chain_imp {rr rr' : R2} {g g' : D → D → M D} (hf : OpF K rr g) (hf' : OpF K rr' g') {σ : L2.St} {H : Hp} {Q : VK} (h : tE K W (eCh g g' fa fb fc) σ H Q) : tChain rr rr' (tE K W fa) (tE K W fb) (tE K W fc) σ H Q := by
  obtain ⟨φ, ρ, Γ, μ, he, hr, p⟩ := h
  refine stepE he hr p fun {dx μ1 φ1 ρ1 v H1} l1 he h1 p => stepE he l1.rep p fun {dy μ2 φ2 ρ2 u H2} l2 he h2 p => hf (W := W σ) l2.rep (l2.val l1.rep h1) h2 ?_
  have p : Post K (VIs K) φ2 ρ2 H2 Q (W σ) (M.bind (g dx dy) (fun z => match z with
    | .bl true => M.bind (fc Γ) fun w => g' dy w
    | .bl false => M.pure (.bl false)
    | _ => M.fail) μ2) := p
  cases q : g dx dy μ2 with
  | bad => rw [bind_bad q] at p; exact p
  | exc z m => unfold M.bind at p; rw [q] at p; exact p
  | ok d m =>
    rw [bind_ok q] at p
    intro φ3 ρ3 z H3 l3 h3
    cases d <;> first | exact p.elim | skip
    rename_i bb
    refine ⟨bb, h3.blE, ?_⟩
    have p3 := Post.later p l3
    cases bb with
    | false => exact iteF (Post.val l3.rep p3 (.bl _))
    | true => exact iteT (stepE (l3.env l2.rep he) l3.rep p3 fun l4 he h4 p => hf' l4.rep (l4.val l3.rep (l3.val l2.rep h2)) h4 p)
theorem fChainT {op op' : CmpOp} {rr rr' : R2} {g g' : D → D → M D} (ho : OpR X (compareOp op) rr) (hf : OpF K rr g) (ho' : OpR X (compareOp op') rr') (hf' : OpF K rr' g') (ha : PE X a (tE K W fa)) (hb : PE X b (tE K W fb)) (hc : PE X c (tE K W fc))
    (hm : lastMarks [op, op'] [b, c] = false := by with_unfolding_all rfl) : PT X (.Compare a [op, op'] [b, c] pos) (tT K W (Vl.tB (eCh g g' fa fb fc))) :=
  (pt_chain ho ho' ha hb hc hm).vimp fun σ H Q ⟨φ, ρ, Γ, μ, he, hr, p⟩ => chain_imp hf hf' (stepE he hr p fun {d _ _ _ _ _} l he h p => by
    cases d <;> first | exact p.elim | skip
    exact ⟨_, h.blE, p.bool l.rep⟩)
theorem putL_inv {x i v : D} {μ μ' : Sto} {u : Unit} (h : putL x i v μ = .ok u μ') : ∃ k ii xs j, x = .ob k ∧ i = .int ii ∧ μ[k]? = some (.lst xs) ∧ ixN xs.length ii = some j ∧ μ' = μ.set k (.lst (xs.set j v)) := by
  unfold putL at h
  split at h
  · rename_i k ii
    split at h
    · rename_i xs q
      split at h
      · rename_i j q2
        cases h
        exact ⟨k, ii, xs, j, rfl, rfl, q, q2, rfl⟩
      · cases h
    · cases h
  · cases h
theorem putL_nox {x i v : D} {μ : Sto} (z : Ex) (m : Sto) : putL x i v μ ≠ .exc z m := by
  intro h
  unfold putL at h
  split at h
  · split at h
    · split at h <;> cases h
    · cases h
  · cases h
theorem sPutF (ho : PE X o (tE K W fo)) (hi : PE X ie (tE K W fi)) (he : PE X e (tE K W fa))
    (ha : ∀ v, assign (.Subscript o ie pos') X.env v = (do
      let ov ← holding [v] (eval o X.env)
      let iv ← holding [v, ov] (eval ie X.env)
      standAt pos'
      holding [v, ov, iv] (setItem ov iv v)
      release [v, ov, iv] []) := by intro _; rfl)
    (hs : swapsWithSole [.Subscript o ie pos'] e pos.line X.env = pure false := by rfl) (hw : swappedStores [.Subscript o ie pos'] e X.env = pure none := by rfl)
    (h1 : (assignEach [.Subscript o ie pos'] X.env).map (·.2) = [assign (.Subscript o ie pos') X.env] := by rfl) : PS X (.Assign [.Subscript o ie pos'] e pos) (tS K W (sPut fo fi fa)) := by
  refine (ps_asg he (pg_sub ho hi set_list ha) hs hw h1).vimp fun E σ H ⟨φ, ρ, Γ, μ, he, hr, p⟩ => stepS he hr p fun {v μ1 φ1 ρ1 vv H1} l1 he h1 p => stepS he l1.rep p fun {x μ2 φ2 ρ2 xv H2} l2 he h2 p => stepS he l2.rep p fun {i μ3 φ3 ρ3 iv H3} l3 he h3 p => ?_
  have hv := l3.val l2.rep (l2.val l1.rep h1)
  have hx := l3.val l2.rep h2
  unfold up at p
  cases q0 : putL x i v μ3 with
  | bad => rw [q0] at p; exact p.elim
  | exc z m => exact absurd q0 (putL_nox _ _)
  | ok u m =>
    rw [q0] at p
    have p : PostS K φ3 ρ3 H3 E W (.ok (.nx Γ) m) := p
    obtain ⟨k, ii, xs, j, rfl, rfl, q, q2, rfl⟩ := putL_inv q0
    have go : ∀ {xv : V}, VIs K φ3 ρ3 H3 xv (.ob k) → rSetL xv iv vv H3 fun H3 => E.nx σ H3 := by
      intro xv hx
      cases hx with
      | obj h n => cases h
      | @ob _ b hb =>
        cases l3.rep.at hb q with
        | @lst _ us _ e1 e2 =>
          refine ⟨b, us, ii, j, rfl, h3.intE, e1, by rw [e2.length]; exact q2, ?_⟩
          have l4 := rep_put (d := .lst (xs.set j v)) l3.rep hb e1 (fun _ _ z => nomatch z) fun w h => .lst h ((e2.set hv j).way w (mapMuts_id _ _ fun _ _ => rfl))
          exact p _ _ _ _ l4 (l4.env l3.rep he)
    exact go hx
theorem ofIpAdd {φ : Addr → Prop} {ρ : List Addr} {μ : Sto} {H : Hp} {v w : V} {x y : D} {Q : VK} {W : XK} (hr : Rep K φ ρ μ H) (hv : VIs K φ ρ H v x) (hw : VIs K φ ρ H w y) (p : Post K (VIs K) φ ρ H Q W (addI x y μ)) : ipI (fun i j => i + j) v w H Q := by
  obtain ⟨i, j, rfl, rfl, h, q⟩ := intOp_inv (α := Unit) p
  exact ⟨i, j, hv.intE, hw.intE, Post.val hr q (.int _)⟩
theorem ofIpSub {φ : Addr → Prop} {ρ : List Addr} {μ : Sto} {H : Hp} {v w : V} {x y : D} {Q : VK} {W : XK} (hr : Rep K φ ρ μ H) (hv : VIs K φ ρ H v x) (hw : VIs K φ ρ H w y) (p : Post K (VIs K) φ ρ H Q W (subD x y μ)) : ipI (fun i j => i - j) v w H Q := by
  obtain ⟨i, j, rfl, rfl, h, q⟩ := intOp_inv (α := Unit) p
  exact ⟨i, j, hv.intE, hw.intE, Post.val hr q (.int _)⟩
theorem sAugF {i : Nat} {op : Operator} {ti : TIp} {g : D → D → M D} (hN : X.N.Nodup) (ho : PIp X op ti) (hf : ∀ {φ : Addr → Prop} {ρ : List Addr} {μ : Sto} {H : Hp} {v w : V} {x y : D} {Q : VK} {W : XK}, Rep K φ ρ μ H → VIs K φ ρ H v x → VIs K φ ρ H w y → Post K (VIs K) φ ρ H Q W (g x y μ) → ti v w H Q)
    (he : PE X e (tE K W fa)) (hi : X.N[i]? = some x := by rfl) (hx : Loc X.env.scope x := by first | exact Or.inl rfl | exact Or.inr rfl) (hff : X.fn x = true ∨ X.env.scope.names.lookup x = some .local := by first | exact .inl rfl | exact .inr rfl) : PS X (.AugAssign (.Name x pos') op e pos) (tS K W (sAug i g fa)) := by
  refine (ps_aug hN hi hx he ho hff).vimp fun E σ H ⟨φ, ρ, Γ, μ, he, hr, p⟩ => ?_
  have p : PostS K φ ρ H E W (up Γ (eVar i Γ) (fun x => up Γ (fa Γ) fun y => up Γ (g x y) fun z => M.pure (.nx (Γ.set i (some z)))) μ) := p
  unfold eVar at p
  cases q : Γ[i]? with
  | none => unfold up at p; rw [q] at p; exact p.elim
  | some od => cases od with
    | none => unfold up at p; rw [q] at p; exact p.elim
    | some d =>
      obtain ⟨v, h1, h2⟩ := he.at q
      refine ⟨v, h1, ?_⟩
      have p : PostS K φ ρ H E W (up Γ (fa Γ) (fun y => up Γ (g d y) fun z => M.pure (.nx (Γ.set i (some z)))) μ) := by
        unfold up at p ⊢
        rw [q] at p
        exact p
      refine stepS he hr p fun {y μ1 φ1 ρ1 w H1} l1 he h3 p => ?_
      refine hf (W := fun _ _ _ => True) l1.rep (l1.val hr h2) h3 ?_
      unfold up at p
      cases q2 : g d y μ1 with
      | bad => rw [q2] at p; exact p
      | exc z m => exact fun _ _ _ _ _ _ _ => trivial
      | ok z m => rw [q2] at p; exact fun φ2 ρ2 u H2 l2 h4 => p _ _ _ _ l2 ((l2.env l1.rep he).set h4 i)
end
/-- a def that is out of turns -/
theorem FnOk.bad {P : Program} {w : World} {K : PySem.W.Frag} {mg : Str → Option Value} {base : Heap} {CX : CXT} {k : Nat} {f : Addr} {fd : FuncData} {ps : List Str} : FnOk P w K mg base CX k f fd ps (spF K ps.length fun _ _ => .bad) := ⟨fun _ _ _ _ h => h.1, fun _ _ _ _ _ _ _ _ _ _ _ _ _ ⟨_, _, _, _, _, _, _, p⟩ => p.elim⟩
/-- the empty tuple of the written part -/
theorem tup0 {K : PySem.W.Frag} {φ : Addr → Prop} {ρ : List Addr} {H : Hp} {a : Addr} (h : ∀ H, SqT K H a []) : VIs K φ ρ H (.ref a) (.tup []) := by
  rcases h (fun _ => none) with (h | ⟨o, h⟩) | h
  · cases h
  · cases h
  · exact .wrT h .nil
/-- a def that lets nothing out -/
theorem FnOk.still {P : Program} {w : World} {K : PySem.W.Frag} {mg : Str → Option Value} {base : Heap} {k : Nat} {f : Addr} {fd : FuncData} {ps : List Str} {sp sp' : Sp} (F : FnOk P w K mg base (L2.CX P w) k f fd ps sp) (h : ∀ vs H Q E, sp' vs H Q E → sp vs H Q (fun _ _ _ => False)) : FnOk P w K mg base L2.CX0 k f fd ps sp' :=
  ⟨fun vs H Q E z => F.len _ _ _ _ (h vs H Q E z), fun A outer s H args us vs Q E hr he hb hv hs => codeAny_mono (F.run A outer s H args us vs Q _ hr he hb hv (h _ _ _ _ hs)) fun r s' z => by
    match r, z with
    | .ok (.ret u), z => exact z
    | .ok .next, z => exact z
    | .ok .brk, z => exact z
    | .ok .cont, z => exact z
    | .error e, ⟨_, _, _, _, _, _, _, _, _, _, _, _, z⟩ => exact z.elim⟩
end Vl

/-! reckoning with what defs compute -/
namespace Vl
open PySem PySem.Spec PyProof.Rows L2
section
variable {α β : Type} {Γ : Env} {μ : Sto}
@[simp] theorem x_bind_ok {m : α} {f : α → M β} {μ0 : Sto} : M.bind (fun _ => O.ok m μ0) f μ = f m μ0 := rfl
@[simp] theorem x_bind (m : M α) (f : α → M β) : M.bind m f μ = match m μ with | .bad => .bad | .exc x μ' => .exc x μ' | .ok a μ' => f a μ' := rfl
@[simp] theorem x_pure (a : α) : M.pure a μ = .ok a μ := rfl
@[simp] theorem x_fail : (M.fail : M α) μ = .bad := rfl
@[simp] theorem x_get (f : Sto → M α) : M.get f μ = f μ μ := rfl
@[simp] theorem x_some (a : α) : M.opt (some a) μ = .ok a μ := rfl
@[simp] theorem x_none : M.opt (none : Option α) μ = .bad := rfl
@[simp] theorem x_guardT (m : M α) : M.guard true m μ = m μ := rfl
@[simp] theorem x_guardF (m : M α) : M.guard false m μ = .bad := rfl
@[simp] theorem x_var (i : Nat) : eVar i Γ = match Γ[i]? with | some (some d) => M.pure d | _ => M.fail := rfl
@[simp] theorem x_c (d : D) : eC d Γ μ = .ok d μ := rfl
@[simp] theorem x_bin (g : D → D → M D) (a b : EF) : eBin g a b Γ = M.bind (a Γ) fun x => M.bind (b Γ) fun y => g x y := rfl
@[simp] theorem x_un (g : D → M D) (a : EF) : eUn g a Γ = M.bind (a Γ) g := rfl
@[simp] theorem x_anil : aNil Γ μ = .ok [] μ := rfl
@[simp] theorem x_acons (a : EF) (r : AF) : aCons a r Γ = M.bind (a Γ) fun x => M.bind (r Γ) fun xs => M.pure (x :: xs) := rfl
@[simp] theorem x_tup (r : AF) : eTup r Γ = M.bind (r Γ) fun xs => M.guard (decide (xs.length ≤ many)) (M.pure (.tup xs)) := rfl
@[simp] theorem x_lst (m : Bool) (r : AF) : eLst m r Γ = M.bind (r Γ) (newL m) := rfl
@[simp] theorem x_call (f : List D → M D) (r : AF) : eCall f r Γ = M.bind (r Γ) f := rfl
@[simp] theorem x_truth (d : D) : truth d μ = M.opt (truthD μ d) μ := rfl
@[simp] theorem x_tB (a : EF) : Vl.tB a Γ = M.bind (a Γ) fun x => match x with | .bl b => M.pure b | _ => M.fail := rfl
@[simp] theorem x_tTr (a : EF) : tTr a Γ = M.bind (a Γ) truth := rfl
@[simp] theorem x_tNo (a : TF) : tNo a Γ = M.bind (a Γ) fun b => M.pure (!b) := rfl
@[simp] theorem x_tAnd (a b : TF) : Vl.tAnd a b Γ = M.bind (a Γ) fun x => bif x then b Γ else M.pure false := rfl
@[simp] theorem x_tOr (a b : TF) : Vl.tOr a b Γ = M.bind (a Γ) fun x => bif x then M.pure true else b Γ := rfl
@[simp] theorem x_if (t : TF) (a b : EF) : eIf t a b Γ = M.bind (t Γ) fun x => bif x then a Γ else b Γ := rfl
@[simp] theorem x_and (a b : EF) : eAnd a b Γ = M.bind (a Γ) fun x => M.bind (truth x) fun t => bif t then b Γ else M.pure x := rfl
@[simp] theorem x_or (a b : EF) : eOr a b Γ = M.bind (a Γ) fun x => M.bind (truth x) fun t => bif t then M.pure x else b Γ := rfl
@[simp] theorem x_not (a : EF) : eNot a Γ = M.bind (a Γ) fun x => M.bind (truth x) fun t => M.pure (.bl (!t)) := rfl
@[simp] theorem x_intOp (c : Int → Int → Bool) (g : Int → Int → D) (i j : Int) : intOp c g (.int i) (.int j) = M.guard (c i j) (M.pure (g i j)) := rfl
@[simp] theorem x_alt (a b : M α) : alt a b μ = match a μ with | .bad => b μ | o => o := rfl
@[simp] theorem x_ch (g g' : D → D → M D) (a b c : EF) : eCh g g' a b c Γ = M.bind (a Γ) fun x => M.bind (b Γ) fun y => M.bind (g x y) fun z => match z with | .bl true => M.bind (c Γ) fun w => g' y w | .bl false => M.pure (.bl false) | _ => M.fail := rfl
@[simp] theorem x_seq (a b : SF) : sSeq a b Γ = M.bind (a Γ) fun f => match f with | .nx Γ' => b Γ' | f => M.pure f := rfl
@[simp] theorem x_up (m : M α) (k : α → M Fl) : up Γ m k μ = match m μ with | .bad => .bad | .exc x μ' => .ok (.ex x Γ) μ' | .ok a μ' => k a μ' := rfl
@[simp] theorem x_nx : sNx Γ μ = .ok (.nx Γ) μ := rfl
@[simp] theorem x_ret (a : EF) : sRet a Γ = up Γ (a Γ) fun d => M.pure (.rt d) := rfl
@[simp] theorem x_ex (a : EF) : sEx a Γ = up Γ (a Γ) fun _ => M.pure (.nx Γ) := rfl
@[simp] theorem x_sif (t : TF) (a b : SF) : sIf t a b Γ = up Γ (t Γ) fun c => bif c then a Γ else b Γ := rfl
@[simp] theorem x_gN (i : Nat) (d : D) : gN i d Γ μ = .ok (Γ.set i (some d)) μ := rfl
@[simp] theorem x_asg (a : EF) (g : GF) : sAsg a g Γ = up Γ (a Γ) fun d => up Γ (g d Γ) fun Γ' => M.pure (.nx Γ') := rfl
@[simp] theorem x_iseq (a : EF) : iSeq a Γ = M.bind (a Γ) wkD := rfl
@[simp] theorem x_irng (g : List D → M Wk) (r : AF) : iRng g r Γ = M.bind (r Γ) g := rfl
@[simp] theorem x_for (it : IF) (g : GF) (b : SF) : sFor it g b Γ = up Γ (it Γ) fun w => forW (fun x Γ => up Γ (g x Γ) b) w Γ := rfl
@[simp] theorem x_wkL (xs : List D) : wkD (.lst xs) μ = .ok (.fix xs) μ := rfl
@[simp] theorem x_wkT (xs : List D) : wkD (.tup xs) μ = .ok (.fix xs) μ := rfl
@[simp] theorem x_wkS (ns : List Int) : wkD (.scr ns) μ = .ok (.fix (ns.map .int)) μ := rfl
@[simp] theorem x_forF (b : D → Env → M Fl) (xs : List D) : forW b (.fix xs) Γ = forL b xs Γ := rfl
@[simp] theorem x_forR (b : D → Env → M Fl) (lo : Int) (n : Nat) : forW b (.rng lo n) Γ = forL b (rngL lo n) Γ := rfl
@[simp] theorem x_for0 (b : D → Env → M Fl) : forL b [] Γ μ = .ok (.nx Γ) μ := rfl
@[simp] theorem x_lc (m : Bool) (vs : List Nat) (it : IF) (g : GF) (t : TF) (e : EF) : eLc m vs it g t e Γ = M.bind (it Γ) fun w => M.bind (lcW (lcB vs g t e Γ) w []) (newL m) := rfl
@[simp] theorem x_lcF (b : D → M (Option D)) (xs acc : List D) : lcW b (.fix xs) acc = lcL b xs acc := rfl
@[simp] theorem x_lcR (b : D → M (Option D)) (lo : Int) (n : Nat) (acc : List D) : lcW b (.rng lo n) acc = lcL b (rngL lo n) acc := rfl
@[simp] theorem x_look_ins (C : Str) (ns : List Str) (xs : List D) : look μ (.ins C ns xs) = .ins C ns xs := rfl
@[simp] theorem x_look_lst (xs : List D) : look μ (.lst xs) = .lst xs := rfl
@[simp] theorem x_look_tup (xs : List D) : look μ (.tup xs) = .tup xs := rfl
@[simp] theorem x_look_ob (k : Nat) : look μ (.ob k) = (μ[k]?).getD .non := rfl
@[simp] theorem x_look_int (i : Int) : look μ (.int i) = .int i := rfl
@[simp] theorem x_look_bl (i : Bool) : look μ (.bl i) = .bl i := rfl
@[simp] theorem x_look_str (i : Str) : look μ (.str i) = .str i := rfl
@[simp] theorem x_look_non : look μ .non = .non := rfl
@[simp] theorem x_look_scr (ns : List Int) : look μ (.scr ns) = .scr ns := rfl
@[simp] theorem x_fld (Cs : List Str) (f : Str) (o : EF) : eFld Cs f o Γ = M.bind (o Γ) (fldD Cs f) := rfl
@[simp] theorem x_calm (m : M α) : calmM m μ = match m μ with | .exc _ _ => .bad | o => o := rfl
/-- fewer things than the bound -/
@[simp] theorem x_newF (xs : List D) (h : xs.length ≤ many) : newL false xs μ = .ok (.lst xs) μ := by unfold newL; rw [decide_eq_true h]; rfl
end
/-! ### comprehensions over things that stand still -/
theorem lcL_map {b : D → M (Option D)} {μ : Sto} {α : Type} (g : α → D) (h : α → Option D) : ∀ (xs : List α) (acc : List D), acc.length + xs.length ≤ many → (∀ x ∈ xs, b (g x) μ = .ok (h x) μ) → lcL b (xs.map g) acc μ = .ok (acc ++ xs.filterMap h) μ
  | [], acc, _, _ => by simp [lcL]
  | x :: xs, acc, l, k => by
    have hx := k x List.mem_cons_self
    have ih := fun acc l => lcL_map g h xs acc l fun y hy => k y (List.mem_cons_of_mem _ hy)
    show M.bind (b (g x)) _ μ = _
    rw [bind_ok hx]
    cases q : h x with
    | none =>
      dsimp only
      rw [ih acc (by simp only [List.length_cons] at l; omega), List.filterMap_cons_none q]
    | some d =>
      dsimp only
      have lt : acc.length < many := by simp only [List.length_cons] at l; omega
      rw [decide_eq_true lt, x_guardT, ih (acc ++ [d]) (by simp only [List.length_cons, List.length_append, List.length_nil] at l ⊢; omega), List.filterMap_cons_some q]
      simp
theorem rngL_map (lo : Int) (n : Nat) : rngL lo n = ((List.range n).map fun j : Nat => lo + (j : Int)).map .int := by unfold rngL; rw [List.map_map]; rfl
/-! ### calls that touch nothing -/
theorem reach_nil (μ : Sto) (n : Nat) (s : List Nat) : reach μ n [] s = s := by cases n <;> rfl
theorem wb_nil (os : List D) : ∀ (n : Nat) (μ : Sto), wb [] os n μ = μ
  | _, [] => rfl
  | n, d :: μ => by show d :: wb [] os (n + 1) μ = _; rw [wb_nil]
theorem callV_pu {n : Nat} {f : List D → M D} {ds : List D} {d : D} {μ : Sto} (hl : ds.length = n) (hp : PuL ds) (hf : f ds [] = .ok d []) (hd : Pu d) : callV n f ds μ = .ok d μ := by
  unfold callV
  have e : (ds.length == n) = true := beq_iff_eq.mpr hl
  rw [e, x_guardT]
  have e2 : mutsL ds = [] := hp
  dsimp only
  rw [e2, reach_nil, hp.map]
  dsimp only [getAll, Option.bind_some, mapMuts]
  rw [hf]
  dsimp only
  rw [hd.map]
  dsimp only [mapMuts]
  rw [wb_nil]
  simp
/-- the store's things hang together -/
def Wf (μ : Sto) : Prop := ∀ k ∈ mutsL μ, k < μ.length
theorem Wf.nil : Wf [] := fun k h => by cases h
theorem mutsL_append : ∀ xs ys : List D, mutsL (xs ++ ys) = mutsL xs ++ mutsL ys
  | [], ys => rfl
  | x :: xs, ys => by simp [mutsL, mutsL_append xs ys]
theorem idx_one (k : Nat) : idx? [k] k = some 0 := by simp [idx?]
theorem idx_ne {k j : Nat} (h : k ≠ j) : idx? [k] j = none := by
  have e : (k == j) = false := beq_eq_false_iff_ne.mpr h
  simp [idx?, e]
theorem wb_last (o : D) : ∀ (μ : Sto) (n : Nat) (d : D), wb [n + μ.length] [o] n (μ ++ [d]) = μ ++ [o]
  | [], n, d => by simp [wb, idx?]
  | x :: μ, n, d => by
    have h : n + (x :: μ).length ≠ n := by simp
    show (match idx? [n + (x :: μ).length] n with | some i => [o].getD i x | none => x) :: wb [n + (x :: μ).length] [o] (n + 1) (μ ++ [d]) = _
    rw [idx_ne h]
    have e : n + (x :: μ).length = n + 1 + μ.length := by simp; omega
    rw [e, wb_last o μ (n + 1) d]
    rfl
theorem makeV_pu {C : Str} {n : Nat} {f : List D → M D} {dv ds : List D} {o : D} {μ : Sto} (hl : (ds ++ dv).length + 1 = n) (hp : PuL (ds ++ dv)) (hf : f (.ob 0 :: (ds ++ dv)) [.ins C [] []] = .ok .non [o]) (ho : Pu o) (hw : Wf μ) : makeV C n f false dv ds μ = .ok o μ := by
  have call : callV n f (.ob μ.length :: (ds ++ dv)) (μ ++ [.ins C [] []]) = .ok .non (μ ++ [o]) := by
    unfold callV
    have e : ((D.ob μ.length :: (ds ++ dv)).length == n) = true := beq_iff_eq.mpr (by rw [List.length_cons]; exact hl)
    rw [e, x_guardT]
    have e2 : mutsL (.ob μ.length :: (ds ++ dv)) = [μ.length] := by
      show muts (.ob μ.length) ++ mutsL (ds ++ dv) = _
      rw [show mutsL (ds ++ dv) = [] from hp]
      rfl
    have at0 : (μ ++ [D.ins C [] []])[μ.length]? = some (.ins C [] []) := by simp
    have e3 : reach (μ ++ [.ins C [] []]) 1000 [μ.length] [] = [μ.length] := by
      show (bif (idx? [] μ.length).isSome then _ else reach (μ ++ [D.ins C [] []]) 999 ([] ++ muts (((μ ++ [D.ins C [] []])[μ.length]?).getD .non)) ([] ++ [μ.length])) = _
      rw [at0]
      exact reach_nil _ _ _
    dsimp only
    rw [e2, e3]
    have e4 : mapMuts (fun k => (idx? [μ.length] k).map D.ob) (.ob μ.length :: (ds ++ dv)) = some (.ob 0 :: (ds ++ dv)) := by
      unfold mapMuts mapMut
      rw [idx_one, hp.map]
      rfl
    rw [e4]
    dsimp only [getAll]
    rw [at0]
    dsimp only [Option.map_some, Option.bind_some]
    have e5 : mapMuts (fun k => (idx? [μ.length] k).map D.ob) [D.ins C [] []] = some [.ins C [] []] := rfl
    rw [e5]
    dsimp only
    rw [hf]
    dsimp only
    have e6 : mapMut (backN [μ.length] (μ ++ [D.ins C [] []]).length) .non = some .non := rfl
    have e7 : mapMuts (backN [μ.length] (μ ++ [D.ins C [] []]).length) [o] = some [o] := PuL.map (show PuL [o] from by show muts o ++ [] = []; rw [show muts o = [] from ho]; rfl) _
    rw [e6, e7]
    dsimp only
    have := wb_last o μ 0 (.ins C [] [])
    rw [Nat.zero_add] at this
    rw [this]
    simp
  unfold makeV
  rw [call]
  dsimp only
  unfold finish
  have at1 : (μ ++ [o])[μ.length]? = some o := by simp
  have f1 : mapMut (fz μ.length (μ ++ [o]) 20) (.ob μ.length) = some o := by
    show fz μ.length (μ ++ [o]) 20 μ.length = some o
    show (bif decide (μ.length < μ.length) then some (D.ob μ.length) else ((μ ++ [o])[μ.length]?).bind (mapMut (fz μ.length (μ ++ [o]) 19))) = some o
    rw [decide_eq_false (Nat.lt_irrefl _), at1]
    exact ho.map _
  have f2 : mapMuts (fz μ.length (μ ++ [o]) 20) ((μ ++ [o]).take μ.length) = some μ := by
    rw [List.take_left]
    refine mapMuts_id _ _ fun k hk => ?_
    show (bif decide (k < μ.length) then some (D.ob k) else _) = _
    rw [decide_eq_true (hw k hk)]
    rfl
  rw [f1, f2]
  rfl
/-- a def that makes nothing that stays -/
theorem funF_rt {N : Nat} {b : SF} {ds : List D} {d : D} (h : ∃ μ1, b (env0 N ds) [] = .ok (.rt d) μ1) (hd : Pu d) : funF false N b ds [] = .ok d [] := by
  obtain ⟨μ1, h⟩ := h
  unfold funF
  rw [h]
  dsimp only
  unfold finish
  rw [hd.map]
  rfl
/-! ### loops by what stays true -/
theorem forL_inv {b : D → Env → M Fl} {xs : List D} (I : Nat → Env → Sto → Prop) (step : ∀ i x Γ μ, xs[i]? = some x → I i Γ μ → ∃ Γ' μ', (b x Γ μ = .ok (.nx Γ') μ' ∨ b x Γ μ = .ok (.ct Γ') μ') ∧ I (i + 1) Γ' μ') {Γ : Env} {μ : Sto} (h : I 0 Γ μ) : ∃ Γ' μ', forL b xs Γ μ = .ok (.nx Γ') μ' ∧ I xs.length Γ' μ' := by
  induction xs generalizing I Γ μ with
  | nil => exact ⟨Γ, μ, rfl, h⟩
  | cons x xs ih =>
    obtain ⟨Γ1, μ1, e, h1⟩ := step 0 x Γ μ rfl h
    obtain ⟨Γ2, μ2, e2, h2⟩ := ih (fun i => I (i + 1)) (fun i y Γ μ hy hi => step (i + 1) y Γ μ (by simpa using hy) hi) h1
    refine ⟨Γ2, μ2, ?_, h2⟩
    show M.bind (b x Γ) _ μ = _
    rcases e with e | e
    · rw [bind_ok e]; exact e2
    · rw [bind_ok e]; exact e2
@[simp] theorem puInts (ns : List Int) : mutsL (ns.map D.int) = [] := by
  induction ns with
  | nil => rfl
  | cons n ns ih => show muts (.int n) ++ mutsL (ns.map D.int) = []; rw [ih]; rfl
@[simp] theorem intsD_map (ns : List Int) : intsD (ns.map D.int) = some ns := by
  induction ns with
  | nil => rfl
  | cons n ns ih => show (intsD (ns.map D.int)).map (n :: ·) = _; rw [ih]; rfl
@[simp] theorem blsD_map (ns : List Bool) : blsD (ns.map D.bl) = some ns := by
  induction ns with
  | nil => rfl
  | cons n ns ih => show (blsD (ns.map D.bl)).map (n :: ·) = _; rw [ih]; rfl
theorem inF_ints (k : Int) (ns : List Int) : ((ns.map D.int).any fun z => eqF z (.int k)) = decide (k ∈ ns) := by
  induction ns with
  | nil => rfl
  | cons n ns ih =>
    rw [List.map_cons, List.any_cons, ih]
    show ((n == k) || decide (k ∈ ns)) = _
    by_cases c : n = k
    · subst c; simp
    · have : ¬ k = n := fun z => c z.symm
      simp [c, this]
theorem flat_intsD (ns : List Int) : (ns.map D.int).all flatD = true := by
  induction ns with
  | nil => rfl
  | cons n ns ih => rw [List.map_cons, List.all_cons, ih]; rfl
theorem inF_list {k : Int} {ns : List Int} {μ : Sto} {neg : Bool} {y : D} (h : seqD μ y = some (ns.map D.int)) : inF neg (.int k) y μ = .ok (.bl (if neg then !decide (k ∈ ns) else decide (k ∈ ns))) μ := by
  show (match seqD μ y with | some ys => M.guard (flatD (.int k) && ys.all flatD) (M.pure (D.bl (if neg then !ys.any (fun z => eqF z (.int k)) else ys.any fun z => eqF z (.int k)))) | none => M.fail) μ = _
  rw [h]
  dsimp only
  rw [flat_intsD, inF_ints]
  rfl
end Vl

/-! own operators on things that stand still; data compared -/
namespace Vl
open PySem PySem.Spec PyProof.Rows L2
theorem puL1 {x : D} (h : Pu x) : PuL [x] := by show muts x ++ [] = []; rw [show muts x = [] from h]; rfl
theorem puL2 {x y : D} (h : Pu x) (k : Pu y) : PuL [x, y] := by show muts x ++ (muts y ++ []) = []; rw [show muts x = [] from h, show muts y = [] from k]; rfl
theorem puL3 {x y z : D} (h : Pu x) (k : Pu y) (l : Pu z) : PuL [x, y, z] := by show muts x ++ (muts y ++ (muts z ++ [])) = []; rw [show muts x = [] from h, show muts y = [] from k, show muts z = [] from l]; rfl
theorem puL0 : PuL [] := rfl
theorem puInt (i : Int) : Pu (.int i) := rfl
theorem puBl (i : Bool) : Pu (.bl i) := rfl
theorem puNon : Pu .non := rfl
theorem puLstI (ns : List Int) : Pu (.lst (ns.map D.int)) := puInts ns
theorem puTupI (ns : List Int) : Pu (.tup (ns.map D.int)) := puInts ns
theorem puLst {xs : List D} (h : PuL xs) : Pu (.lst xs) := h
theorem puTup {xs : List D} (h : PuL xs) : Pu (.tup xs) := h
theorem puIns {C : Str} {ns : List Str} {xs : List D} (h : PuL xs) : Pu (.ins C ns xs) := h
theorem puAll : ∀ {xs : List D}, (∀ x ∈ xs, Pu x) → PuL xs
  | [], _ => rfl
  | x :: xs, h => by show muts x ++ mutsL xs = []; rw [show muts x = [] from h x List.mem_cons_self, show mutsL xs = [] from puAll fun y hy => h y (List.mem_cons_of_mem _ hy)]; rfl
theorem puMap {α : Type} (f : α → D) (h : ∀ x, Pu (f x)) (xs : List α) : PuL (xs.map f) := puAll fun y hy => by obtain ⟨x, _, rfl⟩ := List.mem_map.mp hy; exact h x
section
variable {μ : Sto} {C : Str} {f : List D → M D} {x y d : D}
theorem ownB_pu {n1 n2 : List Str} {xs ys : List D} (hx : PuL xs) (hy : PuL ys) (hf : f [.ins C n1 xs, .ins C n2 ys] [] = .ok d []) (hd : Pu d) : ownB C f (.ins C n1 xs) (.ins C n2 ys) μ = .ok d μ := by
  show M.guard (C == C && C == C) (calmM (callV 2 f [.ins C n1 xs, .ins C n2 ys])) μ = _
  have e : (C == C && C == C) = true := by simp
  rw [e, x_guardT, x_calm, callV_pu (n := 2) rfl (puL2 (puIns hx) (puIns hy)) hf hd]
theorem ownEq_pu {n1 n2 : List Str} {xs ys : List D} (hx : PuL xs) (hy : PuL ys) (hf : f [.ins C n1 xs, .ins C n2 ys] [] = .ok d []) (hd : Pu d) : ownEqO C f (.ins C n1 xs) (.ins C n2 ys) μ = .ok d μ := by
  show M.guard (C == C && C == C) (calmM (callV 2 f [.ins C n1 xs, .ins C n2 ys])) μ = _
  have e : (C == C && C == C) = true := by simp
  rw [e, x_guardT, x_calm, callV_pu (n := 2) rfl (puL2 (puIns hx) (puIns hy)) hf hd]
theorem ownEq_puN {n1 : List Str} {xs : List D} (hx : PuL xs) (hf : f [.ins C n1 xs, .non] [] = .ok d []) (hd : Pu d) : ownEqO C f (.ins C n1 xs) .non μ = .ok d μ := by
  show M.guard (C == C && true) (calmM (callV 2 f [.ins C n1 xs, .non])) μ = _
  have e : (C == C && true) = true := by simp
  rw [e, x_guardT, x_calm, callV_pu (n := 2) rfl (puL2 (puIns hx) puNon) hf hd]
theorem ownEq_Npu {n1 : List Str} {xs : List D} (hx : PuL xs) (hf : f [.ins C n1 xs, .non] [] = .ok d []) (hd : Pu d) : ownEqO C f .non (.ins C n1 xs) μ = .ok d μ := by
  show M.guard (C == C && true) (calmM (callV 2 f [.ins C n1 xs, .non])) μ = _
  have e : (C == C && true) = true := by simp
  rw [e, x_guardT, x_calm, callV_pu (n := 2) rfl (puL2 (puIns hx) puNon) hf hd]
theorem ownEq_NN : ownEqO C f .non .non μ = .ok (.bl true) μ := rfl
theorem ownLen_pu {n1 : List Str} {xs : List D} {n : Nat} (hx : PuL xs) (hf : f [.ins C n1 xs] [] = .ok (D.int n) []) (hn : n < 9223372036854775808) : ownLen C f [.ins C n1 xs] μ = .ok (D.int n) μ := by
  show M.guard (C == C) (M.bind (calmM (callV 1 f [.ins C n1 xs])) fun b => match b with
      | D.int n => M.guard (decide (0 ≤ n) && decide (n < 9223372036854775808)) (M.pure (D.int n))
      | _ => M.fail) μ = _
  have e : (C == C) = true := by simp
  have e1 : decide ((0 : Int) ≤ (n : Int)) = true := decide_eq_true (by omega)
  have e2 : decide ((n : Int) < 9223372036854775808) = true := decide_eq_true (by omega)
  rw [e, x_guardT, x_bind, x_calm, callV_pu (n := 1) rfl (puL1 (puIns hx)) hf rfl]
  dsimp only
  rw [e1, e2]
  rfl
theorem ownIn_pu {n1 : List Str} {xs : List D} {neg b : Bool} (hy : Pu y) (hx : PuL xs) (hf : f [.ins C n1 xs, y] [] = .ok (.bl b) []) : ownIn C neg f y (.ins C n1 xs) μ = .ok (.bl (if neg then !b else b)) μ := by
  show M.guard (C == C) (M.bind (calmM (callV 2 f [.ins C n1 xs, y])) fun b => match b with
    | D.bl c => M.pure (D.bl (if neg then !c else c))
    | _ => M.fail) μ = _
  have e : (C == C) = true := by simp
  rw [e, x_guardT, x_bind, x_calm, callV_pu (n := 2) rfl (puL2 (puIns hx) hy) hf rfl]
  rfl
end
/-! ### data compared -/
theorem deep_pu {d : D} (h : Pu d) (μ : Sto) (n : Nat) : deep μ (n + 1) d = some d := h.map _
@[simp] theorem toPys_ints (ns : List Int) : toPys (ns.map D.int) = some (ns.map PyData.int) := by
  induction ns with
  | nil => rfl
  | cons n ns ih => show (toPys (ns.map D.int)).map (PyData.int n :: ·) = _; rw [ih]; rfl
theorem eqD_py {x y : D} {a b : PyData} {μ : Sto} (hx : Pu x) (hy : Pu y) (ex : toPy x = some a) (ey : toPy y = some b) (sa : SeqAt.shaped a = true) (sb : SeqAt.shaped b = true) : eqD x y μ = .ok (PyData.eqv a b) μ := by
  have e : eqO μ x y = some (PyData.eqv a b) := by
    show (deep μ 20 x).bind (fun x => (deep μ 20 y).bind fun y => (toPy x).bind fun a => (toPy y).bind fun b => bif SeqAt.shaped a && SeqAt.shaped b then some (PyData.eqv a b) else none) = _
    rw [deep_pu hx, deep_pu hy]
    dsimp only [Option.bind_some]
    rw [ex, ey]
    dsimp only [Option.bind_some]
    rw [sa, sb]
    rfl
  show M.opt (eqO μ x y) μ = _
  rw [e]
  rfl
theorem eqD_tupI (ns ms : List Int) (μ : Sto) : eqD (.tup (ns.map D.int)) (.tup (ms.map D.int)) μ = .ok (decide (ns = ms)) μ := by
  rw [eqD_py (a := .tuple (ns.map PyData.int)) (b := .tuple (ms.map PyData.int)) (puTupI ns) (puTupI ms) (by show (toPys _).map _ = _; rw [toPys_ints]; rfl) (by show (toPys _).map _ = _; rw [toPys_ints]; rfl) (Ow.sh_tup _) (Ow.sh_tup _)]
  rw [PyData.eqv, Ow.eqv_ints]
theorem eqD_lstI (ns ms : List Int) (μ : Sto) : eqD (.lst (ns.map D.int)) (.lst (ms.map D.int)) μ = .ok (decide (ns = ms)) μ := by
  rw [eqD_py (a := .list (ns.map PyData.int)) (b := .list (ms.map PyData.int)) (puLstI ns) (puLstI ms) (by show (toPys _).map _ = _; rw [toPys_ints]; rfl) (by show (toPys _).map _ = _; rw [toPys_ints]; rfl) (Ow.sh_list _) (Ow.sh_list _)]
  rw [PyData.eqv, Ow.eqv_ints]
theorem eqD_int (n m : Int) (μ : Sto) : eqD (.int n) (.int m) μ = .ok (decide (n = m)) μ := by
  rw [eqD_py (a := .int n) (b := .int m) (puInt n) (puInt m) rfl rfl rfl rfl]
  congr 1
  done
theorem eqD_badL {x y : D} {μ : Sto} (hx : Pu x) (ex : toPy x = none) : eqD x y μ = .bad := by
  have e : eqO μ x y = none := by
    show (deep μ 20 x).bind (fun x => (deep μ 20 y).bind fun y => (toPy x).bind fun a => (toPy y).bind fun b => bif SeqAt.shaped a && SeqAt.shaped b then some (PyData.eqv a b) else none) = _
    rw [deep_pu hx]
    dsimp only [Option.bind_some]
    rw [ex]
    cases deep μ 20 y <;> rfl
  show M.opt (eqO μ x y) μ = _
  rw [e]
  rfl
theorem eqD_badR {x y : D} {μ : Sto} (hy : Pu y) (ey : toPy y = none) : eqD x y μ = .bad := by
  have e : eqO μ x y = none := by
    show (deep μ 20 x).bind (fun x => (deep μ 20 y).bind fun y => (toPy x).bind fun a => (toPy y).bind fun b => bif SeqAt.shaped a && SeqAt.shaped b then some (PyData.eqv a b) else none) = _
    rw [deep_pu hy]
    cases deep μ 20 x with
    | none => rfl
    | some z =>
      dsimp only [Option.bind_some]
      rw [ey]
      cases toPy z <;> rfl
  show M.opt (eqO μ x y) μ = _
  rw [e]
  rfl
theorem blsD_fun {α : Type} (g : α → Bool) (xs : List α) : blsD (xs.map fun k => D.bl (g k)) = some (xs.map g) := by
  have e : (xs.map fun k => D.bl (g k)) = (xs.map g).map D.bl := by rw [List.map_map]; rfl
  rw [e, blsD_map]
theorem allD_fun {α : Type} (g : α → Bool) (xs : List α) (μ : Sto) : allD [.lst (xs.map fun k => D.bl (g k))] μ = .ok (.bl (xs.all g)) μ := by
  show M.bind (M.opt (blsD (xs.map fun k => D.bl (g k)))) (fun bs => M.pure (D.bl (bs.all id))) μ = _
  rw [blsD_fun, x_bind, x_some]
  show O.ok (D.bl ((xs.map g).all id)) μ = _
  rw [List.all_map]
  rfl
theorem anyD_fun {α : Type} (g : α → Bool) (xs : List α) (μ : Sto) : anyD [.lst (xs.map fun k => D.bl (g k))] μ = .ok (.bl (xs.any g)) μ := by
  show M.bind (M.opt (blsD (xs.map fun k => D.bl (g k)))) (fun bs => M.pure (D.bl (bs.any id))) μ = _
  rw [blsD_fun, x_bind, x_some]
  show O.ok (D.bl ((xs.map g).any id)) μ = _
  rw [List.any_map]
  rfl
theorem addD_tup {m : Bool} {xs ys : List D} {μ : Sto} (h : xs.length + ys.length ≤ many) : addD m (.tup xs) (.tup ys) μ = .ok (.tup (xs ++ ys)) μ := by
  have e : addT (.tup xs) (.tup ys) μ = .ok (.tup (xs ++ ys)) μ := by
    show M.guard (decide (xs.length + ys.length ≤ many)) (M.pure (D.tup (xs ++ ys))) μ = _
    rw [decide_eq_true h]
    rfl
  show alt (addT (.tup xs) (.tup ys)) (addL m (.tup xs) (.tup ys)) μ = _
  rw [x_alt, e]
theorem addD_lst {xs ys : List D} {μ : Sto} (h : xs.length + ys.length ≤ many) : addD false (.lst xs) (.lst ys) μ = .ok (.lst (xs ++ ys)) μ := by
  have e : addL false (.lst xs) (.lst ys) μ = .ok (.lst (xs ++ ys)) μ := x_newF _ (by rw [List.length_append]; exact h)
  exact e
@[simp] theorem addD_int {m : Bool} (i j : Int) (μ : Sto) : addD m (.int i) (.int j) μ = .ok (.int (i + j)) μ := rfl
theorem fmMap {α β : Type} (f : α → β) (xs : List α) : xs.filterMap (fun x => some (f x)) = xs.map f := by rw [← List.filterMap_eq_map]; rfl
theorem fmIf {α β : Type} (p : α → Bool) (f : α → β) (xs : List α) : xs.filterMap (fun x => bif p x then some (f x) else none) = (xs.filter p).map f := by
  induction xs with
  | nil => rfl
  | cons x xs ih => cases h : p x <;> simp [h, ih]
end Vl

/-! what must hold after: reckoning towards a goal -/
namespace Vl
open PySem PySem.Spec PyProof.Rows L2
inductive Wp {α : Type} : O α → (α → Sto → Prop) → (Ex → Sto → Prop) → Prop
  | ok {a : α} {μ : Sto} {Q : α → Sto → Prop} {X : Ex → Sto → Prop} : Q a μ → Wp (.ok a μ) Q X
  | exc {x : Ex} {μ : Sto} {Q : α → Sto → Prop} {X : Ex → Sto → Prop} : X x μ → Wp (.exc x μ) Q X
section
variable {α β : Type} {Γ : Env} {μ : Sto} {Q : α → Sto → Prop} {X : Ex → Sto → Prop}
theorem w_congr {o o' : O α} (h : o = o') : Wp o Q X = Wp o' Q X := by rw [h]
@[simp] theorem w_ok (a : α) : Wp (.ok a μ) Q X = Q a μ := propext ⟨fun h => by cases h; assumption, .ok⟩
@[simp] theorem w_exc (x : Ex) : Wp (.exc x μ : O α) Q X = X x μ := propext ⟨fun h => by cases h; assumption, .exc⟩
theorem w_bad : Wp (.bad : O α) Q X = False := propext (Iff.intro (fun h => by cases h) False.elim)
theorem Wp.of {o : O α} {a : α} {μ' : Sto} (h : o = .ok a μ') (q : Q a μ') : Wp o Q X := by rw [h]; first | exact .ok q | exact .exc q
theorem Wp.ofx {o : O α} {x : Ex} {μ' : Sto} (h : o = .exc x μ') (q : X x μ') : Wp o Q X := by rw [h]; first | exact .ok q | exact .exc q
theorem Wp.imp {o : O α} {Q' : α → Sto → Prop} {X' : Ex → Sto → Prop} (h : Wp o Q' X') (q : ∀ a m, Q' a m → Q a m) (x : ∀ a m, X' a m → X a m) : Wp o Q X := by
  cases o with
  | bad => cases h
  | ok a m => rw [w_ok] at h ⊢; exact q _ _ h
  | exc a m => rw [w_exc] at h ⊢; exact x _ _ h
@[simp ↓] theorem w_bind (m : M β) (f : β → M α) : Wp (M.bind m f μ) Q X = Wp (m μ) (fun a μ => Wp (f a μ) Q X) X := by
  show Wp (match m μ with | .bad => .bad | .exc x μ' => .exc x μ' | .ok a μ' => f a μ') Q X = _
  cases m μ <;> simp only [w_ok, w_exc, w_bad]
@[simp ↓] theorem w_up {Q : Fl → Sto → Prop} (m : M β) (k : β → M Fl) : Wp (up Γ m k μ) Q X = Wp (m μ) (fun a μ => Wp (k a μ) Q X) (fun x μ => Q (.ex x Γ) μ) := by
  show Wp (match m μ with | .bad => .bad | .exc x μ' => .ok (.ex x Γ) μ' | .ok a μ' => k a μ') Q X = _
  cases m μ <;> simp only [w_ok, w_exc, w_bad]
@[simp ↓] theorem w_alt (a b : M α) : Wp (alt a b μ) Q X = (match a μ with | .bad => Wp (b μ) Q X | o => Wp o Q X) := by
  show Wp (match a μ with | .bad => b μ | o => o) Q X = _
  cases a μ <;> simp only [w_ok, w_exc, w_bad]
end
def Cd (c : Bool) (p q : Prop) : Prop := bif c then p else q
theorem cd_congr {c c' : Bool} {p q : Prop} (h : c = c') : Cd c p q = Cd c' p q := by rw [h]
@[simp] theorem cd_t (p q : Prop) : Cd true p q = p := propext Iff.rfl
@[simp] theorem cd_f (p q : Prop) : Cd false p q = q := propext Iff.rfl
def Nx (f : Fl) (k : Env → Prop) (r : Fl → Prop) : Prop := match f with
  | .nx Γ => k Γ
  | f => r f
theorem nx_congr {f f' : Fl} {k : Env → Prop} {r : Fl → Prop} (h : f = f') : Nx f k r = Nx f' k r := by rw [h]
@[simp] theorem nx_nx (Γ : Env) (k : Env → Prop) (r : Fl → Prop) : Nx (.nx Γ) k r = k Γ := propext Iff.rfl
@[simp] theorem nx_rt (d : D) (k : Env → Prop) (r : Fl → Prop) : Nx (.rt d) k r = r (.rt d) := propext Iff.rfl
@[simp] theorem nx_bk (Γ : Env) (k : Env → Prop) (r : Fl → Prop) : Nx (.bk Γ) k r = r (.bk Γ) := propext Iff.rfl
@[simp] theorem nx_ct (Γ : Env) (k : Env → Prop) (r : Fl → Prop) : Nx (.ct Γ) k r = r (.ct Γ) := propext Iff.rfl
@[simp] theorem nx_ex (x : Ex) (Γ : Env) (k : Env → Prop) (r : Fl → Prop) : Nx (.ex x Γ) k r = r (.ex x Γ) := propext Iff.rfl
def Tb (d : D) (k : Bool → Prop) : Prop := match d with
  | .bl b => k b
  | _ => False
theorem tb_congr {f f' : D} {k : Bool → Prop} (h : f = f') : Tb f k = Tb f' k := by rw [h]
@[simp] theorem tb_bl (b : Bool) (k : Bool → Prop) : Tb (.bl b) k = k b := propext Iff.rfl
section
variable {Γ : Env} {μ : Sto} {Q : D → Sto → Prop} {X : Ex → Sto → Prop} {B : Bool → Sto → Prop} {A : List D → Sto → Prop} {S : Fl → Sto → Prop}
@[simp ↓] theorem w_bin (g : D → D → M D) (a b : EF) : Wp (eBin g a b Γ μ) Q X = Wp (a Γ μ) (fun x μ => Wp (b Γ μ) (fun y μ => Wp (g x y μ) Q X) X) X := by simp only [x_bin, w_bind]
@[simp ↓] theorem w_un (g : D → M D) (a : EF) : Wp (eUn g a Γ μ) Q X = Wp (a Γ μ) (fun x μ => Wp (g x μ) Q X) X := by simp only [x_un, w_bind]
@[simp ↓] theorem w_acons (a : EF) (r : AF) : Wp (aCons a r Γ μ) A X = Wp (a Γ μ) (fun x μ => Wp (r Γ μ) (fun xs μ => A (x :: xs) μ) X) X := by simp only [x_acons, w_bind] <;> simp only [x_pure, w_ok]
@[simp ↓] theorem w_tup (r : AF) : Wp (eTup r Γ μ) Q X = Wp (r Γ μ) (fun xs μ => Wp (M.guard (decide (xs.length ≤ many)) (M.pure (.tup xs)) μ) Q X) X := by simp only [x_tup, w_bind]
@[simp ↓] theorem w_lst (m : Bool) (r : AF) : Wp (eLst m r Γ μ) Q X = Wp (r Γ μ) (fun xs μ => Wp (newL m xs μ) Q X) X := by simp only [x_lst, w_bind]
@[simp ↓] theorem w_call (f : List D → M D) (r : AF) : Wp (eCall f r Γ μ) Q X = Wp (r Γ μ) (fun xs μ => Wp (f xs μ) Q X) X := by simp only [x_call, w_bind]
@[simp ↓] theorem w_tB (a : EF) : Wp (Vl.tB a Γ μ) B X = Wp (a Γ μ) (fun x μ => Tb x fun b => B b μ) X := by
  simp only [x_tB, w_bind]
  congr 1
  funext x m
  cases x <;> first | rfl | (simp only [cd_t, cd_f, cond_true, cond_false, x_pure, x_fail, w_ok, w_exc, w_bad]; done) | (simp only [cd_t, cd_f, cond_true, cond_false, x_pure, x_fail, w_ok, w_exc, w_bad]; rfl)
@[simp ↓] theorem w_tTr (a : EF) : Wp (tTr a Γ μ) B X = Wp (a Γ μ) (fun x μ => Wp (truth x μ) B X) X := by simp only [x_tTr, w_bind]
@[simp ↓] theorem w_tNo (a : TF) : Wp (tNo a Γ μ) B X = Wp (a Γ μ) (fun x μ => B (!x) μ) X := by simp only [x_tNo, w_bind] <;> simp only [x_pure, w_ok]
@[simp ↓] theorem w_tAnd (a b : TF) : Wp (Vl.tAnd a b Γ μ) B X = Wp (a Γ μ) (fun x μ => Cd x (Wp (b Γ μ) B X) (B false μ)) X := by
  simp only [x_tAnd, w_bind]
  congr 1
  funext x m
  cases x <;> first | rfl | (simp only [cd_t, cd_f, cond_true, cond_false, x_pure, x_fail, w_ok, w_exc, w_bad]; done) | (simp only [cd_t, cd_f, cond_true, cond_false, x_pure, x_fail, w_ok, w_exc, w_bad]; rfl)
@[simp ↓] theorem w_tOr (a b : TF) : Wp (Vl.tOr a b Γ μ) B X = Wp (a Γ μ) (fun x μ => Cd x (B true μ) (Wp (b Γ μ) B X)) X := by
  simp only [x_tOr, w_bind]
  congr 1
  funext x m
  cases x <;> first | rfl | (simp only [cd_t, cd_f, cond_true, cond_false, x_pure, x_fail, w_ok, w_exc, w_bad]; done) | (simp only [cd_t, cd_f, cond_true, cond_false, x_pure, x_fail, w_ok, w_exc, w_bad]; rfl)
@[simp ↓] theorem w_if (t : TF) (a b : EF) : Wp (eIf t a b Γ μ) Q X = Wp (t Γ μ) (fun x μ => Cd x (Wp (a Γ μ) Q X) (Wp (b Γ μ) Q X)) X := by
  simp only [x_if, w_bind]
  congr 1
  funext x m
  cases x <;> first | rfl | (simp only [cd_t, cd_f, cond_true, cond_false, x_pure, x_fail, w_ok, w_exc, w_bad]; done) | (simp only [cd_t, cd_f, cond_true, cond_false, x_pure, x_fail, w_ok, w_exc, w_bad]; rfl)
@[simp ↓] theorem w_and (a b : EF) : Wp (eAnd a b Γ μ) Q X = Wp (a Γ μ) (fun x μ => Wp (truth x μ) (fun t μ => Cd t (Wp (b Γ μ) Q X) (Q x μ)) X) X := by
  simp only [x_and, w_bind]
  congr 1
  funext x m
  congr 1
  funext t m
  cases t <;> first | rfl | (simp only [cd_t, cd_f, cond_true, cond_false, x_pure, x_fail, w_ok, w_exc, w_bad]; done) | (simp only [cd_t, cd_f, cond_true, cond_false, x_pure, x_fail, w_ok, w_exc, w_bad]; rfl)
@[simp ↓] theorem w_or (a b : EF) : Wp (eOr a b Γ μ) Q X = Wp (a Γ μ) (fun x μ => Wp (truth x μ) (fun t μ => Cd t (Q x μ) (Wp (b Γ μ) Q X)) X) X := by
  simp only [x_or, w_bind]
  congr 1
  funext x m
  congr 1
  funext t m
  cases t <;> first | rfl | (simp only [cd_t, cd_f, cond_true, cond_false, x_pure, x_fail, w_ok, w_exc, w_bad]; done) | (simp only [cd_t, cd_f, cond_true, cond_false, x_pure, x_fail, w_ok, w_exc, w_bad]; rfl)
@[simp ↓] theorem w_not (a : EF) : Wp (eNot a Γ μ) Q X = Wp (a Γ μ) (fun x μ => Wp (truth x μ) (fun t μ => Q (.bl (!t)) μ) X) X := by simp only [x_not, w_bind] <;> simp only [x_pure, w_ok]
@[simp ↓] theorem w_ealt (a b : EF) : Wp (eAlt a b Γ μ) Q X = (match a Γ μ with | .bad => Wp (b Γ μ) Q X | o => Wp o Q X) := by
  show Wp (alt (a Γ) (b Γ) μ) Q X = _
  rw [w_alt]
  cases a Γ μ <;> first | rfl | (simp only [cd_t, cd_f, cond_true, cond_false, x_pure, x_fail, w_ok, w_exc, w_bad]; done)
@[simp ↓] theorem w_seq (a b : SF) : Wp (sSeq a b Γ μ) S X = Wp (a Γ μ) (fun f μ => Nx f (fun Γ' => Wp (b Γ' μ) S X) fun f => S f μ) X := by
  simp only [x_seq, w_bind]
  congr 1
  funext x m
  cases x <;> first | rfl | (simp only [cd_t, cd_f, cond_true, cond_false, x_pure, x_fail, w_ok, w_exc, w_bad]; done) | (simp only [cd_t, cd_f, cond_true, cond_false, x_pure, x_fail, w_ok, w_exc, w_bad]; rfl)
@[simp ↓] theorem w_ret (a : EF) : Wp (sRet a Γ μ) S X = Wp (a Γ μ) (fun d μ => S (.rt d) μ) (fun x μ => S (.ex x Γ) μ) := by simp only [x_ret, w_up] <;> simp only [x_pure, w_ok]
@[simp ↓] theorem w_ex (a : EF) : Wp (sEx a Γ μ) S X = Wp (a Γ μ) (fun d μ => S (.nx Γ) μ) (fun x μ => S (.ex x Γ) μ) := by simp only [x_ex, w_up] <;> simp only [x_pure, w_ok]
@[simp ↓] theorem w_sif (t : TF) (a b : SF) : Wp (sIf t a b Γ μ) S X = Wp (t Γ μ) (fun c μ => Cd c (Wp (a Γ μ) S X) (Wp (b Γ μ) S X)) (fun x μ => S (.ex x Γ) μ) := by
  simp only [x_sif, w_up]
  congr 1
  funext x m
  cases x <;> first | rfl | (simp only [cd_t, cd_f, cond_true, cond_false, x_pure, x_fail, w_ok, w_exc, w_bad]; done) | (simp only [cd_t, cd_f, cond_true, cond_false, x_pure, x_fail, w_ok, w_exc, w_bad]; rfl)
@[simp ↓] theorem w_asg (a : EF) (g : GF) : Wp (sAsg a g Γ μ) S X = Wp (a Γ μ) (fun d μ => Wp (g d Γ μ) (fun Γ' μ => S (.nx Γ') μ) (fun x μ => S (.ex x Γ) μ)) (fun x μ => S (.ex x Γ) μ) := by simp only [x_asg, w_up] <;> simp only [x_pure, w_ok]
@[simp ↓] theorem w_for (it : IF) (g : GF) (b : SF) : Wp (sFor it g b Γ μ) S X = Wp (it Γ μ) (fun w μ => Wp (forW (fun x Γ => up Γ (g x Γ) b) w Γ μ) S X) (fun x μ => S (.ex x Γ) μ) := by simp only [x_for, w_up]
@[simp ↓] theorem w_iseq {S : Wk → Sto → Prop} (a : EF) : Wp (iSeq a Γ μ) S X = Wp (a Γ μ) (fun x μ => Wp (wkD x μ) S X) X := by simp only [x_iseq, w_bind]
@[simp ↓] theorem w_irng {S : Wk → Sto → Prop} (g : List D → M Wk) (r : AF) : Wp (iRng g r Γ μ) S X = Wp (r Γ μ) (fun x μ => Wp (g x μ) S X) X := by simp only [x_irng, w_bind]
@[simp ↓] theorem w_lc (m : Bool) (vs : List Nat) (it : IF) (g : GF) (t : TF) (e : EF) : Wp (eLc m vs it g t e Γ μ) Q X = Wp (it Γ μ) (fun w μ => Wp (lcW (lcB vs g t e Γ) w [] μ) (fun xs μ => Wp (newL m xs μ) Q X) X) X := by simp only [x_lc, w_bind]
@[simp ↓] theorem w_fld (Cs : List Str) (f : Str) (o : EF) : Wp (eFld Cs f o Γ μ) Q X = Wp (o Γ μ) (fun x μ => Wp (fldD Cs f x μ) Q X) X := by simp only [x_fld, w_bind]
@[simp ↓] theorem w_sl (m : Bool) (a : EF) (l h : OF) : Wp (eSl m a l h Γ μ) Q X = Wp (a Γ μ) (fun x μ => Wp (l Γ μ) (fun i μ => Wp (h Γ μ) (fun j μ => Wp (slD m x i j μ) Q X) X) X) X := by
  show Wp (M.bind (a Γ) (fun x => M.bind (l Γ) fun i => M.bind (h Γ) fun j => slD m x i j) μ) Q X = _
  simp only [w_bind]
@[simp] theorem w_oNo : oNo Γ μ = .ok none μ := rfl
@[simp ↓] theorem w_oSome {S : Option Int → Sto → Prop} (a : EF) : Wp (oSome a Γ μ) S X = Wp (a Γ μ) (fun x μ => Wp ((match x with | .int i => M.pure (some i) | _ => M.fail) μ) S X) X := by
  show Wp (M.bind (a Γ) _ μ) S X = _
  simp only [w_bind]
  all_goals rfl
@[simp ↓] theorem w_stat (n : Nat) (f : List D → M D) (r : AF) : Wp (eStat n f r Γ μ) Q X = Wp (r Γ μ) (fun ds μ => Wp (calmM (callV n f ds) μ) Q X) X := by
  show Wp (M.bind (r Γ) (fun ds => calmM (callV n f ds)) μ) Q X = _
  simp only [w_bind]
@[simp ↓] theorem w_meth (C m : Str) (n : Nat) (f : List D → M D) (dv : List D) (o : EF) (r : AF) : Wp (eMeth C m n f dv o r Γ μ) Q X = Wp (o Γ μ) (fun x μ => Wp (clsIs C m x μ) (fun _ μ => Wp (r Γ μ) (fun ds μ => Wp (callV n f (x :: (ds ++ dv)) μ) Q X) X) X) X := by
  show Wp (M.bind (o Γ) (fun x => M.bind (clsIs C m x) fun _ => M.bind (r Γ) fun ds => callV n f (x :: (ds ++ dv))) μ) Q X = _
  simp only [w_bind]
@[simp ↓] theorem w_inst (C : Str) (n : Nat) (f : List D → M D) (o : EF) (r : AF) : Wp (eInst C n f o r Γ μ) Q X = Wp (o Γ μ) (fun x μ => Wp (clsIs C "__call__" x μ) (fun _ μ => Wp (r Γ μ) (fun ds μ => Wp (clsIs C "__call__" x μ) (fun _ μ => Wp (calmM (callV n f (x :: ds)) μ) Q X) X) X) X) X := by
  show Wp (M.bind (o Γ) (fun x => M.bind (clsIs C "__call__" x) fun _ => M.bind (r Γ) fun ds => M.bind (clsIs C "__call__" x) fun _ => calmM (callV n f (x :: ds))) μ) Q X = _
  simp only [w_bind]
/-- a row of statements, the rest out of sight -/
theorem seq_gen {a b : SF} (h : ∀ B : SF, B = b → Wp (a Γ μ) (fun f μ => Nx f (fun Γ' => Wp (B Γ' μ) S X) fun f => S f μ) X) : Wp (sSeq a b Γ μ) S X := by rw [w_seq]; exact h b rfl
theorem for_gen {it : IF} {g : GF} {b : SF} (h : ∀ B : SF, B = b → Wp (it Γ μ) (fun w μ => Wp (forW (fun x Γ => up Γ (g x Γ) B) w Γ μ) S X) (fun x μ => S (.ex x Γ) μ)) : Wp (sFor it g b Γ μ) S X := by rw [w_for]; exact h b rfl
theorem if_gen {t : TF} {a b : SF} (h : ∀ A B : SF, A = a → B = b → Wp (t Γ μ) (fun c μ => Cd c (Wp (A Γ μ) S X) (Wp (B Γ μ) S X)) (fun x μ => S (.ex x Γ) μ)) : Wp (sIf t a b Γ μ) S X := by rw [w_sif]; exact h a b rfl rfl
/-! loops, comprehensions -/
theorem rng_at {lo : Int} {n i : Nat} {x : D} (h : (rngL lo n)[i]? = some x) : x = .int (lo + (i : Int)) ∧ i < n := by
  unfold rngL at h
  rw [List.getElem?_map] at h
  obtain ⟨k, hk, rfl⟩ := Option.map_eq_some_iff.mp h
  obtain ⟨hl, hk⟩ := List.getElem?_eq_some_iff.mp hk
  rw [List.getElem_range] at hk
  subst hk
  rw [List.length_range] at hl
  exact ⟨rfl, hl⟩
@[simp] theorem rng_len (lo : Int) (n : Nat) : (rngL lo n).length = n := by simp [rngL]
theorem map_at {α : Type} {g : α → D} {xs : List α} {i : Nat} {x : D} (h : (xs.map g)[i]? = some x) : ∃ y, xs[i]? = some y ∧ x = g y := by
  rw [List.getElem?_map] at h
  obtain ⟨k, hk, e⟩ := Option.map_eq_some_iff.mp h
  exact ⟨k, hk, e.symm⟩
theorem w_forL {b : D → Env → M Fl} {xs : List D} (I : Nat → Env → Sto → Prop) (h : I 0 Γ μ) (step : ∀ i x Γ μ, xs[i]? = some x → I i Γ μ → Wp (b x Γ μ) (fun f μ => match f with | .nx Γ' => I (i + 1) Γ' μ | .ct Γ' => I (i + 1) Γ' μ | _ => False) (fun _ _ => False)) (k : ∀ Γ μ, I xs.length Γ μ → S (.nx Γ) μ) : Wp (forL b xs Γ μ) S X := by
  obtain ⟨Γ', μ', e, q⟩ := forL_inv (b := b) I (fun i x Γ μ hx hi => by
    have z := step i x Γ μ hx hi
    cases q : b x Γ μ with
    | bad => rw [q] at z; cases z
    | exc _ _ => rw [q, w_exc] at z; cases z
    | ok f μ' =>
      rw [q, w_ok] at z
      cases f with
      | nx Γ' => exact ⟨Γ', μ', .inl rfl, z⟩
      | ct Γ' => exact ⟨Γ', μ', .inr rfl, z⟩
      | bk _ => cases z
      | rt _ => cases z
      | ex _ _ => cases z) h
  rw [e]
  exact .ok (k _ _ q)
theorem w_lcL {α : Type} {b : D → M (Option D)} (g : α → D) (f : α → D) (xs : List α) (l : xs.length ≤ many) (hb : ∀ x ∈ xs, Wp (b (g x) μ) (fun r m => r = some (f x) ∧ m = μ) (fun _ _ => False)) (k : A (xs.map f) μ) : Wp (lcL b (xs.map g) [] μ) A X := by
  rw [lcL_map g (fun x => some (f x)) xs [] (by simpa using l) (fun x hx => by
    have z := hb x hx
    cases q : b (g x) μ with
    | bad => rw [q] at z; cases z
    | exc _ _ => rw [q, w_exc] at z; cases z
    | ok r m => rw [q, w_ok] at z; obtain ⟨rfl, rfl⟩ := z; rfl), fmMap]
  exact .ok k
theorem w_lcF {α : Type} {b : D → M (Option D)} (g : α → D) (p : α → Bool) (f : α → D) (xs : List α) (l : xs.length ≤ many) (hb : ∀ x ∈ xs, Wp (b (g x) μ) (fun r m => r = (bif p x then some (f x) else none) ∧ m = μ) (fun _ _ => False)) (k : A ((xs.filter p).map f) μ) : Wp (lcL b (xs.map g) [] μ) A X := by
  rw [lcL_map g (fun x => bif p x then some (f x) else none) xs [] (by simpa using l) (fun x hx => by
    have z := hb x hx
    cases q : b (g x) μ with
    | bad => rw [q] at z; cases z
    | exc _ _ => rw [q, w_exc] at z; cases z
    | ok r m => rw [q, w_ok] at z; obtain ⟨rfl, rfl⟩ := z; rfl), fmIf]
  exact .ok k
theorem w_lcI {α : Type} {b : D → M (Option D)} (g : α → D) (f : α → Int) (xs : List α) (l : xs.length ≤ many) (hb : ∀ x ∈ xs, Wp (b (g x) μ) (fun r m => r = some (.int (f x)) ∧ m = μ) (fun _ _ => False)) (k : A ((xs.map f).map D.int) μ) : Wp (lcL b (xs.map g) [] μ) A X := by
  refine w_lcL g (fun x => .int (f x)) xs l hb ?_
  rw [List.map_map] at k
  exact k
theorem w_lcFI {α : Type} {b : D → M (Option D)} (g : α → D) (p : α → Bool) (f : α → Int) (xs : List α) (l : xs.length ≤ many) (hb : ∀ x ∈ xs, Wp (b (g x) μ) (fun r m => r = (bif p x then some (.int (f x)) else none) ∧ m = μ) (fun _ _ => False)) (k : A (((xs.filter p).map f).map D.int) μ) : Wp (lcL b (xs.map g) [] μ) A X := by
  refine w_lcF g p (fun x => .int (f x)) xs l hb ?_
  rw [List.map_map] at k
  exact k
theorem lcBW {vs : List Nat} {g : GF} {t : TF} {e : EF} {x : D} {R : Option D → Sto → Prop} : Wp (lcB vs g t e Γ x μ) R X = Wp (g x (wipeD Γ vs) μ) (fun Γ2 μ => Wp (calmM (t Γ2) μ) (fun b μ => Wp ((bif b then M.bind (calmM (e Γ2)) fun d => M.pure (some d) else M.pure none) μ) R X) X) X := by
  unfold lcB
  simp only [w_bind]
@[simp] theorem w_yes : tYesF Γ μ = .ok true μ := rfl
theorem w_calm {α : Type} {m : M α} {R : α → Sto → Prop} (h : Wp (m μ) R fun _ _ => False) : Wp (calmM m μ) R X := by
  rw [x_calm]
  cases q : m μ with
  | bad => rw [q] at h; cases h
  | exc _ _ => rw [q, w_exc] at h; cases h
  | ok a m' => rw [q, w_ok] at h; exact .ok h
/-- a body of a comprehension that touches nothing -/
theorem w_body {vs : List Nat} {i : Nat} {t : TF} {e : EF} {x y : D} {p : Bool} (ht : Wp (t ((wipeD Γ vs).set i (some x)) μ) (fun b m => b = p ∧ m = μ) fun _ _ => False) (he : p = true → Wp (e ((wipeD Γ vs).set i (some x)) μ) (fun d m => d = y ∧ m = μ) fun _ _ => False) : Wp (lcB vs (gN i) t e Γ x μ) (fun r m => r = (bif p then some y else none) ∧ m = μ) fun _ _ => False := by
  rw [lcBW, x_gN, w_ok]
  refine w_calm (ht.imp (fun b m h => ?_) fun _ _ h => h)
  obtain ⟨rfl, rfl⟩ := h
  cases b with
  | false => exact .ok ⟨rfl, rfl⟩
  | true =>
    show Wp (M.bind _ _ _) _ _
    rw [w_bind]
    refine w_calm ((he rfl).imp (fun d m h => ?_) fun _ _ h => h)
    obtain ⟨rfl, rfl⟩ := h
    exact .ok ⟨rfl, rfl⟩
theorem w_body1 {vs : List Nat} {i : Nat} {e : EF} {x y : D} (he : Wp (e ((wipeD Γ vs).set i (some x)) μ) (fun d m => d = y ∧ m = μ) fun _ _ => False) : Wp (lcB vs (gN i) tYesF e Γ x μ) (fun r m => r = some y ∧ m = μ) fun _ _ => False := w_body (p := true) (.ok ⟨rfl, rfl⟩) fun _ => he
/-- a def, by its body -/
theorem fun_wp {N : Nat} {b : SF} {ds : List D} {d : D} (hd : Pu d) (h : Wp (b (env0 N ds) []) (fun f _ => f = .rt d) fun _ _ => False) : funF false N b ds [] = .ok d [] := by
  cases q : b (env0 N ds) [] with
  | bad => rw [q] at h; cases h
  | exc _ _ => rw [q, w_exc] at h; cases h
  | ok f m => rw [q, w_ok] at h; cases h; exact funF_rt ⟨m, q⟩ hd
end
theorem w_new {xs : List D} {μ : Sto} {Q : D → Sto → Prop} {X : Ex → Sto → Prop} (h : xs.length ≤ many) (k : Q (.lst xs) μ) : Wp (newL false xs μ) Q X := by rw [x_newF _ h]; exact .ok k
theorem few {n : Nat} (h : n ≤ 1000) : n ≤ many := by unfold many; omega
/-! numbers -/
theorem okRng_ok {i j : Int} (h0 : -4611686018427387904 ≤ i) (h1 : i < 4611686018427387904) (h2 : -4611686018427387904 ≤ j) (h3 : j < 4611686018427387904) : okRng i j = true := by
  unfold okRng
  rw [decide_eq_true (show -(2 ^ 62) ≤ i by omega), decide_eq_true (show i < 2 ^ 62 by omega), decide_eq_true (show -(2 ^ 62) ≤ j by omega), decide_eq_true (show j < 2 ^ 62 by omega)]
  rfl
theorem rng1_ok {j : Int} {μ : Sto} (h2 : -4611686018427387904 ≤ j) (h3 : j < 4611686018427387904) : rng1D [.int j] μ = .ok (.rng 0 j.toNat) μ := by
  show M.guard (okRng 0 j) (M.pure (Wk.rng 0 j.toNat)) μ = _
  rw [okRng_ok (by decide) (by decide) h2 h3]
  rfl
theorem rng2_ok {i j : Int} {μ : Sto} (h0 : -4611686018427387904 ≤ i) (h1 : i < 4611686018427387904) (h2 : -4611686018427387904 ≤ j) (h3 : j < 4611686018427387904) : rng2D [.int i, .int j] μ = .ok (.rng i (j - i).toNat) μ := by
  show M.guard (okRng i j) (M.pure (Wk.rng i (j - i).toNat)) μ = _
  rw [okRng_ok h0 h1 h2 h3]
  rfl
@[simp] theorem sub_ok (i j : Int) (μ : Sto) : subD (.int i) (.int j) μ = .ok (.int (i - j)) μ := rfl
@[simp] theorem lt_ok (i j : Int) (μ : Sto) : ltD (.int i) (.int j) μ = .ok (.bl (decide (i < j))) μ := rfl
@[simp] theorem le_ok (i j : Int) (μ : Sto) : leD (.int i) (.int j) μ = .ok (.bl (decide (i ≤ j))) μ := rfl
@[simp] theorem gt_ok (i j : Int) (μ : Sto) : gtD (.int i) (.int j) μ = .ok (.bl (decide (j < i))) μ := rfl
@[simp] theorem ge_ok (i j : Int) (μ : Sto) : geD (.int i) (.int j) μ = .ok (.bl (decide (j ≤ i))) μ := rfl
@[simp] theorem int_ok (i : Int) (μ : Sto) : intD [.int i] μ = .ok (.int i) μ := rfl
@[simp] theorem neg_ok (i : Int) (μ : Sto) : negD (.int i) μ = .ok (.int (-i)) μ := rfl
theorem mod_ok {i j : Int} {μ : Sto} (h : 0 < j) : modD (.int i) (.int j) μ = .ok (.int (i % j)) μ := by
  show M.guard (decide (0 < j)) (M.pure (D.int (i % j))) μ = _
  rw [decide_eq_true h]
  rfl
theorem fdiv_ok {i j : Int} {μ : Sto} (h : 0 < j) (k : j < 1073741824) : fdivD (.int i) (.int j) μ = .ok (.int (i / j)) μ := by
  show M.guard (decide (0 < j) && decide (j < 1073741824)) (M.pure (D.int (i / j))) μ = _
  rw [decide_eq_true h, decide_eq_true k]
  rfl
theorem mul_ok {i j : Int} {μ : Sto} (h : -18446744073709551616 < i) (k : i < 18446744073709551616) : mulD (.int i) (.int j) μ = .ok (.int (i * j)) μ := by
  show M.guard (mulC i j) (M.pure (D.int (i * j))) μ = _
  unfold mulC
  rw [decide_eq_true (show -(2 ^ 64) < i by omega), decide_eq_true (show i < 2 ^ 64 by omega)]
  rfl
theorem pow_ok {i j : Int} {μ : Sto} (h0 : 0 ≤ j) (h1 : j ≤ 1000000) (h2 : -18446744073709551616 < i) (h3 : i < 18446744073709551616) : powD (.int i) (.int j) μ = .ok (.int (i ^ j.toNat)) μ := by
  show M.guard (powC i j) (M.pure (D.int (i ^ j.toNat))) μ = _
  unfold powC
  rw [decide_eq_true h0, decide_eq_true h1, decide_eq_true (show i.natAbs < 2 ^ 64 by omega)]
  rfl
/-! slices, places -/
theorem cut_take {α : Type} (xs : List α) {k : Int} (h : 0 ≤ k) : cutD xs none (some k) = xs.take k.toNat := by
  unfold cutD
  rw [HT.sIx_none]
  have e : HT.sIx xs.length xs.length (some k) = min k.toNat xs.length := by
    have := HT.sIx_nat xs.length xs.length k.toNat
    rw [show ((k.toNat : Nat) : Int) = k by omega] at this
    exact this
  rw [e, List.drop_zero, Nat.sub_zero]
  by_cases c : k.toNat ≤ xs.length
  · rw [Nat.min_eq_left c]
  · rw [Nat.min_eq_right (by omega), List.take_length, List.take_of_length_le (by omega)]
theorem cut_drop {α : Type} (xs : List α) {k : Int} (h : 0 ≤ k) : cutD xs (some k) none = xs.drop k.toNat := by
  unfold cutD
  rw [HT.sIx_none]
  have e : HT.sIx xs.length 0 (some k) = min k.toNat xs.length := by
    have := HT.sIx_nat xs.length 0 k.toNat
    rw [show ((k.toNat : Nat) : Int) = k by omega] at this
    exact this
  rw [e]
  by_cases c : k.toNat ≤ xs.length
  · rw [Nat.min_eq_left c, List.take_of_length_le (by rw [List.length_drop]; omega)]
  · rw [Nat.min_eq_right (by omega), List.drop_eq_nil_of_le (by omega), List.drop_eq_nil_of_le (by omega)]
    simp
theorem cut_len {α : Type} (xs : List α) (lo hi : Option Int) : (cutD xs lo hi).length ≤ xs.length := by
  unfold cutD
  rw [List.length_take, List.length_drop]
  omega
theorem slL {xs : List D} {lo hi : Option Int} {μ : Sto} (h : xs.length ≤ many) : slD false (.lst xs) lo hi μ = .ok (.lst (cutD xs lo hi)) μ := x_newF _ (Nat.le_trans (cut_len xs lo hi) h)
theorem slScr {ns : List Int} {lo hi : Option Int} {μ : Sto} (h : ns.length ≤ many) : slD false (.scr ns) lo hi μ = .ok (.lst (cutD (ns.map D.int) lo hi)) μ := x_newF _ (Nat.le_trans (cut_len _ lo hi) (by rw [List.length_map]; exact h))
theorem at_nat {α : Type} {xs : List α} {i : Int} {x : α} (h0 : 0 ≤ i) (h : xs[i.toNat]? = some x) : atI xs i = some x := by
  have l := (List.getElem?_eq_some_iff.mp h).1
  unfold atI
  have e : ixN xs.length i = some i.toNat := by
    unfold ixN
    rw [if_pos h0, if_pos (by omega)]
  rw [e]
  exact h
theorem at_neg {α : Type} {xs : List α} {i : Int} {x : α} (h0 : i < 0) (h1 : 0 ≤ i + xs.length) (h : xs[(i + xs.length).toNat]? = some x) : atI xs i = some x := by
  unfold atI
  have e : ixN xs.length i = some (i + xs.length).toNat := by
    unfold ixN
    rw [if_neg (by omega), if_pos (by omega)]
  rw [e]
  exact h
theorem ixL {xs : List D} {i : Int} {x : D} {μ : Sto} (h : atI xs i = some x) : ixD (.lst xs) (.int i) μ = .ok x μ := by
  show M.opt (atI xs i) μ = _
  rw [h]
  rfl
theorem ixS {ns : List Int} {i : Int} {x : D} {μ : Sto} (h : atI (ns.map D.int) i = some x) : ixD (.scr ns) (.int i) μ = .ok x μ := by
  show M.opt (atI (ns.map D.int) i) μ = _
  rw [h]
  rfl
end Vl

/-! exceptions of own classes: made, raised, caught -/
namespace Vl
open PySem PySem.Spec PyProof.Rows L2
/-- C.__init__ is ValueError.__init__ -/
structure VeI (K : PySem.W.Frag) (C : Addr) : Prop where
  rd : PySem.W.readsIn K C (.type "type") = true
  ga : PySem.W.specialIn K (.ref C) "__getattribute__" = some (some (.builtin "type.__getattribute__"))
  at_ : PySem.W.findCls K (.ref C) (.type "type") "__init__" = some (.val (.builtin "ValueError.__init__"))
section
variable {X : Cx} {o e : Expr} {es : List Expr} {to te : TE} {ta : TA} {p2 pos : Pos}
theorem pe_vei {C : Addr} {pl : Sem Bool} (ho : PE X o to) (G : VeI X.K C) (ha : PA X (e :: es) ta)
    (hc : eval (.Call (.Attribute o "__init__" p2) (e :: es) [] pos) X.env = (do
      let ov ← eval o X.env
      standAt p2.atName
      let (f, first) ← holding [ov] (getMethod ov "__init__" pl)
      callWith pos f first (backTo pos (starEach (e :: es) X.env)) (backToKw pos (keywordEach [] X.env))) := by rfl)
    (he : starEach (e :: es) X.env = (false, eval e X.env) :: starEach es X.env := by rfl) (hpl : (backTo pos (starEach es X.env)).any (·.1) = false := by rfl) :
    PE X (.Call (.Attribute o "__init__" p2) (e :: es) [] pos) (fun σ H Q => to σ H fun x H1 => x = .ref C ∧ tVeI X.K ta σ H1 Q) := by
  refine ⟨fun pins s σ H Q I h => PySem.W.methodCall_KW (pl := pl) (thn (ho.run pins s σ H _ I h) fun u s1 ⟨x, H1, I1, rx, ex, q⟩ => ?_) hc⟩
  subst ex
  obtain rfl : u = Value.ref C := rx
  have I2 := I1.tok (s1.toks + 1)
  refine PySem.W.method_cls I1.kIn G.ga (PySem.W.cls_value I1.kIn G.rd G.at_ (by decide +kernel) ?_)
  show wpAny _ _ (callWith pos (Value.builtin "ValueError.__init__") [] (backTo pos (starEach (e :: es) X.env)) []) _ _ _
  refine PyProof.Rows.callWith_method1 (thn (ha.run pos pins _ σ H1 _ I2 q) fun us s1 ⟨vs, H2, I3, r1, a, D, ws, ev, hl, T, ea, q⟩ => ?_) he hpl
  subst ev
  cases r1 with
  | @cons _ u0 _ ur ra rw' =>
    obtain rfl : u0 = Value.ref a := ra
    have hlen : ur.length ≤ sizeLine := by
      rw [← Paired.length rw', sizeLine_eq]
      omega
    exact oinit_ok T I3 ea hlen fun s' J => ⟨.non, H2, J, rfl, q⟩
end
/-- __init__ of an exception with one field -/
def spX1 (C : Addr) (f : Str) : Sp := fun vs H Q _ => ∃ (a : Addr) (y : V), vs = [.ref a, y] ∧ H a = some (exo a C none) ∧ ∀ dx, H dx = none → dx ≠ a → Q .non (upd (upd H dx (exd dx [(f, y)])) a (exo a C (some dx)))
/-- the own exception class C, its one field f -/
def Xc1 (P : Program) (w : World) (K : PySem.W.Frag) (mg : Str → Option Value) (base : Heap) (k : Nat) (C f : Str) (ps : List Str) : Prop :=
  ∃ fI fd, OexC K (He.ga K C) ∧ PySem.W.findIn K (.ref (He.ga K C)) "__init__" = some (some (.ref fI)) ∧ PySem.W.typeIn K (.ref fI) = some (.type "function") ∧ Binds K fd ps [] ∧ mg C = some (.ref (He.ga K C)) ∧ FnOk P w K mg base (L2.CX P w) k fI fd ps (spX1 (He.ga K C) f)
def sRs (C f : Str) (a : EF) : SF := fun Γ => up Γ (a Γ) fun d => M.pure (.ex ⟨C, [f], [d]⟩ Γ)
section
variable {X : Cx} {K : PySem.W.Frag} {W : L2.St → XK} {e : Expr} {fa : EF} {p pos pos' : Pos}
theorem fRaise1 {C f : Str} {k : Nat} {ps : List Str} (G : Xc1 X.prog X.w X.K X.mg X.base k C f ps) (hr : Room (k + 1) X.A) (tk : Takes X (wx W)) (hx : Passes (L2.CX X.prog X.w) X (fun _ _ _ => False)) (he : PE X e (tE K W fa)) (hc : X.calm = true := by rfl) (hg : Gl X C := by rfl) (hdb : (C == ("__debug__" : Str)) = false := by decide)
    (hs : starEach [e] X.env = (false, eval e X.env) :: starEach [] X.env := by rfl) (hpl : (backTo pos (starEach [] X.env)).any (·.1) = false := by rfl) (hK : X.K = K := by rfl) :
    PS X (.Raise (some (.Call (.Name C p) [e] [] pos)) none pos') (tS K W (sRs C f fa)) := by
  subst hK
  obtain ⟨fI, fd, T, iC, tI, hb, hm, F⟩ := G
  refine (ps_raise hc tk (pmk_oex (dvs := []) T iC tI F hr hb .nil hx hg hm (pa_cons he pa_nil hs) hdb hs hpl)).vimp fun E σ H ⟨φ, ρ, Γ, μ, he, hr, p⟩ => stepS he hr p fun {d μ1 φ1 ρ1 y H1} l he h p => ?_
  refine ⟨by simp, fun a na => ⟨a, y, rfl, upd_same, fun dx n ne => ⟨rfl, dx, _, upd_same, by rw [upd_ne ne]; exact upd_same, ?_, ?_⟩⟩⟩
  · rw [upd_ne ne] at n
    exact n
  have n1 : H1 dx = none := by rw [upd_ne ne] at n; exact n
  have eq : upd (del (upd (upd (upd H1 a (exo a (He.ga X.K C) none)) dx (exd dx [(f, y)])) a (exo a (He.ga X.K C) (some dx))) a) dx (.xd [(f, y)]) = upd H1 dx (.xd [(f, y)]) := by
    funext b
    by_cases hb : b = dx
    · subst hb; rw [upd_same, upd_same]
    · rw [upd_ne hb, upd_ne hb]
      by_cases ha : b = a
      · subst ha; rw [del_same, na]
      · rw [del_ne ha, upd_ne ha, upd_ne hb, upd_ne ha]
  rw [eq]
  have l2 := Later.fresh (o := .xd [(f, y)]) l.rep n1
  exact p _ _ _ _ _ _ l2 (l2.env l.rep he) ⟨rfl, dx, [y], rfl, upd_same, rfl, .cons (l2.val l.rep h) .nil⟩
end
end Vl

namespace Vl
open PySem PySem.Spec PySem.Calls PyProof.Rows PySem.W
section
variable {pr : Program} {wd : World} {Ar : Around} {Er : Value → Shared → Prop} {K : Frag} {xa Dc : Addr} {oo od : Obj}
/-- x.__class__ of an exception that has a dict -/
theorem clsAsk {Q : Option Value → Shared → Prop} {st : Shared} (C : L2.ExcC K Dc) (kin : K.In st.heap) (J : InstAt st.heap xa oo Dc (some od)) (q : Q (some (.ref Dc)) { st with toks := st.toks + 1 }) : wpAny (model pr wd) Ar (getAttr? (.ref xa) "__class__") Q Er st := by
  have fnd : findObj K Dc (some od) "__class__" = some (.bind (.builtin "getset_descriptor.__get__") (.builtin "object.__class__")) := findObj_data (by obtain ⟨cd, hc, _⟩ := any_some C.hd; rw [hc]; rfl) C.ha C.hn C.ht
  obtain ⟨hh, gg, dd, tt, oss⟩ := st
  have K0 := J.type (M := model pr wd)
  have K1 := looks_findIn (M := model pr wd) kin C.hg
  have K2 := looks_findIn (M := model pr wd) kin C.hk
  have K3 := looks_find (M := model pr wd) kin J fnd
  have isE : Looks (model pr wd) hh (isInstance (.ref xa) (.type "BaseException")) true := K0.andThen (looks_subIn kin C.hs)
  have b2 : (Value.builtin "BaseException.__getattribute__" == .builtin "object.__getattribute__") = false := by decide +kernel
  have b1 : (onTheHeap (.ref Dc) && Value.builtin "BaseException.__getattribute__" == .builtin "object.__getattribute__") = false := by rw [b2]; rfl
  unfold getAttr? getAttrBy? getAttrBy
  refine wpAny_bind (wpAny_mkText (wpAny_bind (wpAny_attempt (wpAny_holding (wpAny_bind (K0.at (wpAny_bind (K1.at ?_))))))))
  show wpAny _ _ (if (onTheHeap (.ref Dc) && Value.builtin "BaseException.__getattribute__" == .builtin "object.__getattribute__") = true then _ else _) _ _ _
  rw [b1, if_neg Bool.false_ne_true]
  unfold getAttrByItsOwn hookBefore
  refine wpAny_bind ?_
  rw [if_pos (show onTheHeap (.ref Dc) = true from rfl)]
  refine K2.at ?_
  refine wpAny_bind (wpAny_attempt (wpAny_holding ?_))
  unfold callGetattribute
  rw [show (false && onTheHeap (.builtin "BaseException.__getattribute__")) = false from rfl, if_neg Bool.false_ne_true]
  unfold boundAndCalled
  rw [PySem.F.excAttr_ValueError.ga.bind (.ref xa)]
  refine wpAny_bind (wpAny_pure ?_)
  show wpAny _ _ (call (.builtin "BaseException.__getattribute__") [.ref xa, .str "__class__" tt]) _ _ _
  refine wpAny_call (codeAny_call_builtin PySem.F.excAttr_ValueError.ga.plain (PySem.F.entry_bexc_ga) ?_)
  refine @check_slot (model pr wd) _ _ ⟨hh, gg, dd, tt + 1, oss⟩ "BaseException.__getattribute__" "BaseException" "__getattribute__" (.ref xa) [.str "__class__" tt] [] _ (by decide +kernel) (by decide +kernel) isE (PySem.F.args_bexc_ga (.ref xa) (.str "__class__" tt)) ?_
  unfold Builtin.«object.__getattribute__»
  refine wpAny_bind (wpAny_of_eq (a := ((Value.ref xa : Value), [Value.str "__class__" tt])) (by first | rfl | (simp only [slotArgs]; rfl)) ?_)
  refine wpAny_bind (wpAny_pure (wpAny_bind (K0.at (wpAny_bind (K3.at ?_)))))
  show wpAny _ _ (holding [Value.builtin "object.__class__"] (call (.builtin "getset_descriptor.__get__") [.builtin "object.__class__", .ref xa, .ref Dc]) >>= ret) _ _ _
  refine wpAny_bind (wpAny_holding (wpAny_call (class_get (s := ⟨hh, gg, dd, tt + 1, oss⟩) (ox := oo) (od := some od) kin J C.hm ?_)))
  refine wpAny_pure ?_
  show wpAny _ _ (handedOut (.ref Dc)) _ _ _
  rw [handedOut_of (v := .ref Dc) rfl]
  first
    | exact wpAny_pure (wpAny_pure q)
    | exact wpAny_pure q
    | exact wpAny_pure (wpAny_bind (wpAny_pure (wpAny_pure q)))
theorem kitD (C : L2.ExcC K Dc) : KitX K (.ref xa) (.ref Dc) (fun h => ∃ od, InstAt h xa oo Dc (some od)) where
  ty := fun _ _ _ ⟨_, J⟩ => J.type
  it := fun _ _ kin _ => by
    obtain ⟨cdD, hcD, _⟩ := any_some C.hd
    unfold clsIn at hcD
    split at hcD
    · rename_i c' d' cd' sl' ho
      intro Ar Qr Er sr kr q
      unfold isType loadHead
      exact wpAny_bind (wpAny_loadPart (kr _ _ (kin _ _ ho)) (wpAny_pure q))
    · cases hcD
  ne := fun h tp dd its n sl kin htp => by
    obtain ⟨cdD, hcD, _⟩ := any_some C.hd
    refine Bool.eq_false_iff.mpr fun q => ?_
    have e : Dc = tp := Value.ref.inj (beq_iff_eq.mp q)
    subst e
    unfold clsIn at hcD
    split at hcD
    · rename_i c' d' cd' sl' ho
      exact absurd ((kin _ _ ho).symm.trans htp) (fun z => by cases z)
    · cases hcD
  ca := fun kin ⟨_, J⟩ k => clsAsk C kin J k
end
end Vl
namespace Vl
open PySem PySem.Spec PyProof.Rows L2
/-- isinstance(e, c), e the caught exception with its dict -/
def rIsX (K : PySem.W.Frag) (a : Addr) (cls : Value) (d : Option Addr) : List V → Hp → VK → Prop := fun xs H Q => ∃ (C : Addr) (c : V) (cv : Value) (b : Bool) (dd : Addr) (fs : List (Str × V)), cls = .ref C ∧ d = some dd ∧ H dd = some (.xd fs) ∧ ExcC K C ∧ xs = [.ref a, c] ∧ (∀ u, RelV c u → u = cv) ∧ PySem.W.kitOne K (.ref C) cv = some b ∧ Q (.bl b) H
theorem call_isX {X : Cx} {a : Addr} {oe : Obj} {cls : Value} {d : Option Addr} {pn : List (Addr × Obj)} (hz : Zc cls d oe) (hf : ∃ vs, oe.data = .fields vs) : CallR (X.suite a ((a, oe) :: pn)) (.builtin "isinstance") (rIsX X.K a cls d) := by
  intro pins s σ H xs us Q I r h
  obtain ⟨C, c, cv, b, dd, fs, rfl, rfl, hx, EC, rfl, hcv, e, q⟩ := h
  cases r with
  | cons rx rr =>
    cases rr with
    | cons rt rr =>
      cases rr
      cases rx
      have ec := hcv _ rt
      subst ec
      obtain ⟨ha, _⟩ := I.pin (a, oe) (List.mem_append.mpr (.inl List.mem_cons_self))
      obtain ⟨vs, hd⟩ := hf
      have ox : ObjOk X.prog X.w H s.heap dd (.xd fs) := I.hok dd _ hx
      obtain ⟨mA, hns, hr⟩ := ox
      obtain ⟨od, ho, hl⟩ := lookIn_ns hns
      have J : PySem.W.InstAt s.heap a oe C (some od) := ⟨ha, hz.1, by unfold PySem.W.notCls; rw [hd] <;> rfl, by rw [hz.2]; exact ho⟩
      exact PySem.W.kia_one (kitD EC) I.kIn ⟨od, J⟩ e (fun z => nomatch z) fun tk => ⟨.bl b, H, I.kept (t' := tk) fun _ _ z => z, rfl, q⟩
end Vl
namespace Vl
open PySem PySem.Spec PyProof.Rows L2
/-- in an except suite: what is read of the exception in slot i -/
def tX0 (K : PySem.W.Frag) (i : Nat) (a : Addr) (cls : Value) (d : Option Addr) (g : Ex → Option D) : TE := fun σ H Q => ∃ φ ρ μ x r, Rep K φ ρ μ H ∧ XIs K φ ρ H cls d x ∧ σ[i]? = some (some (.ref a)) ∧ g x = some r ∧ ∀ v, VIs K φ ρ H v r → Q v H
def tXA (K : PySem.W.Frag) (i : Nat) (a : Addr) (cls : Value) (d : Option Addr) (g : Ex → Option (List D)) : TA := fun σ H Q => ∃ φ ρ μ x r, Rep K φ ρ μ H ∧ XIs K φ ρ H cls d x ∧ σ[i]? = some (some (.ref a)) ∧ g x = some r ∧ ∀ v, VsIs K φ ρ H v r → Q v H
def tX (K : PySem.W.Frag) (i : Nat) (a : Addr) (cls : Value) (d : Option Addr) (g : Ex → Option D) : TE := fun σ H Q => ∃ φ ρ μ x r, Rep K φ ρ μ H ∧ XIs K φ ρ H cls d x ∧ σ[i]? = some (some (.ref a)) ∧ g x = some r ∧ ∀ φ' ρ' v H', Later K φ ρ H φ' ρ' μ H' → VIs K φ' ρ' H' v r → Q v H'
abbrev XG := Ex → Option D
def xC (d : D) : XG := fun _ => some d
def xF (C f : Str) : XG := fun x => bif x.C == C then lk f x.ns x.xs else none
def xI (tab : List (Str × Bool)) : XG := fun x => (tab.lookup x.C).map .bl
def xNil : Ex → Option (List D) := fun _ => some []
def xCons (g : XG) (r : Ex → Option (List D)) : Ex → Option (List D) := fun x => match g x, r x with
  | some d, some ds => some (d :: ds)
  | _, _ => none
def xT (r : Ex → Option (List D)) : XG := fun x => (r x).bind fun ds => bif decide (ds.length ≤ many) then some (.tup ds) else none
section
variable {X : Cx} {i : Nat} {a : Addr} {oe : Obj} {cls : Value} {d : Option Addr} {pn : List (Addr × Obj)} {e : Expr} {es : List Expr} {pos p : Pos}
theorem sxC {v : V} {r : D} (h : PE (X.suite a ((a, oe) :: pn)) e (tC v)) (hv : ∀ φ ρ H, VIs X.K φ ρ H v r) : PE (X.suite a ((a, oe) :: pn)) e (tX0 X.K i a cls d (xC r)) := h.vimp fun σ H Q ⟨φ, ρ, μ, x, r', hr, hx, hs, e, q⟩ => by
  cases e
  exact q v (hv _ _ _)
theorem sxF {C f n : Str} {np : Pos} (T : XfC X.K (He.ga X.K C)) (hno : PySem.W.findIn X.K (.ref (He.ga X.K C)) f = some none) (hz : Zc cls d oe) (hf : ∃ vs, oe.data = .fields vs) (hn : PE (X.suite a ((a, oe) :: pn)) (.Name n np) (tVar i)) (hb : attributeBase (.Name n np) f X.env (eval (.Name n np) X.env) = eval (.Name n np) X.env := by rfl) :
    PE (X.suite a ((a, oe) :: pn)) (.Attribute (.Name n np) f pos) (tX0 X.K i a cls d (xF C f)) := (pe_xf T hno hz hf hn hb).vimp fun σ H Q ⟨φ, ρ, μ, x, r, hr, hx, hs, e, q⟩ => by
  unfold xF at e
  cases c : x.C == C with
  | false => rw [c] at e; cases e
  | true =>
    rw [c] at e
    obtain ⟨h1, dd, vs, h2, h3, h4, h5⟩ := hx
    obtain ⟨v, l, hv⟩ := lk_lookup h4 h5 e
    rw [beq_iff_eq.mp c] at h1
    exact ⟨_, hs, rfl, h1, dd, _, v, h2, h3, l, q v hv⟩
theorem sxI {tab : List (Str × Bool)} {n : Str} {np ip : Pos} {ec : Expr} {vc : V} {cv : Value} (ht : ∀ C b, tab.lookup C = some b → ExcC X.K (He.ga X.K C) ∧ PySem.W.kitOne X.K (.ref (He.ga X.K C)) cv = some b) (hcv : ∀ u, RelV vc u → u = cv) (hz : Zc cls d oe) (hf : ∃ vs, oe.data = .fields vs)
    (hn : PE (X.suite a ((a, oe) :: pn)) (.Name n np) (tVar i)) (hc : PE (X.suite a ((a, oe) :: pn)) ec (tC vc)) (hg : Gl (X.suite a ((a, oe) :: pn)) "isinstance") (hm : X.mg "isinstance" = none) (hs : starEach [.Name n np, ec] X.env = (false, eval (.Name n np) X.env) :: starEach [ec] X.env := by rfl) (hs2 : starEach [ec] X.env = (false, eval ec X.env) :: starEach [] X.env := by rfl) (hpl : (backTo pos (starEach [ec] X.env)).any (·.1) = false := by rfl) :
    PE (X.suite a ((a, oe) :: pn)) (.Call (.Name "isinstance" ip) [.Name n np, ec] [] pos) (tX0 X.K i a cls d (xI tab)) := by
  refine (pe_callB (call_isX (X := X) (pn := pn) hz hf) hg hm (by first | rfl | decide +kernel) (pa_cons hn (pa_cons hc pa_nil hs2) hs) (he := hs) (hpl := hpl)).vimp fun σ H Q ⟨φ, ρ, μ, x, r, hr, hx, hs, e, q⟩ => ?_
  unfold xI at e
  obtain ⟨b, hb, rfl⟩ := Option.map_eq_some_iff.mp e
  obtain ⟨h1, dd, vs, h2, h3, h4, h5⟩ := hx
  obtain ⟨k1, k2⟩ := ht _ _ hb
  exact ⟨_, hs, _, vc, cv, b, dd, _, h1, h2, h3, k1, rfl, hcv, k2, q _ (.bl b)⟩
theorem sxNil : PA (X.suite a ((a, oe) :: pn)) [] (tXA X.K i a cls d xNil) := pa_nil.vimp fun σ H Q ⟨φ, ρ, μ, x, r, hr, hx, hs, e, q⟩ => by
  cases e
  exact q [] .nil
theorem sxCons {g : XG} {r : Ex → Option (List D)} (h : PE (X.suite a ((a, oe) :: pn)) e (tX0 X.K i a cls d g)) (t : PA (X.suite a ((a, oe) :: pn)) es (tXA X.K i a cls d r)) (hs : starEach (e :: es) X.env = (false, eval e X.env) :: starEach es X.env := by rfl) :
    PA (X.suite a ((a, oe) :: pn)) (e :: es) (tXA X.K i a cls d (xCons g r)) := (pa_cons h t hs).vimp fun σ H Q ⟨φ, ρ, μ, x, z, hr, hx, hs, e, q⟩ => by
  unfold xCons at e
  cases e1 : g x with
  | none => rw [e1] at e; cases e
  | some y =>
    cases e2 : r x with
    | none => rw [e1, e2] at e; cases e
    | some ys =>
      rw [e1, e2] at e
      cases e
      exact ⟨φ, ρ, μ, x, y, hr, hx, hs, e1, fun v hv => ⟨φ, ρ, μ, x, ys, hr, hx, hs, e2, fun vs hvs => q _ (.cons hv hvs)⟩⟩
theorem sxT {r : Ex → Option (List D)} {c : Nat} (t : PA (X.suite a ((a, oe) :: pn)) es (tXA X.K i a cls d r)) : PE (X.suite a ((a, oe) :: pn)) (.Tuple es c pos) (tX X.K i a cls d (xT r)) := (pe_tup t).vimp fun σ H Q ⟨φ, ρ, μ, x, z, hr, hx, hs, e, q⟩ => by
  unfold xT at e
  cases e2 : r x with
  | none => rw [e2] at e; cases e
  | some ys =>
    rw [e2] at e
    cases c : decide (ys.length ≤ many) with
    | false => rw [Option.bind_some, c] at e; cases e
    | true =>
      rw [Option.bind_some, c] at e
      cases e
      have c := of_decide_eq_true c
      refine ⟨φ, ρ, μ, x, ys, hr, hx, hs, e2, fun vs hvs => ⟨by rw [hvs.length]; exact Nat.le_trans c (by rw [sizeLine_eq]; decide), fun pp n => ?_⟩⟩
      exact q _ _ _ _ (Later.fresh hr n) (.obj (.tup upd_same (hvs.fresh hr n)) (hr.nfree n))
theorem sx1 {g : XG} (h : PE (X.suite a ((a, oe) :: pn)) e (tX0 X.K i a cls d g)) : PE (X.suite a ((a, oe) :: pn)) e (tX X.K i a cls d g) := h.vimp fun σ H Q ⟨φ, ρ, μ, x, z, hr, hx, hs, e, q⟩ => ⟨φ, ρ, μ, x, z, hr, hx, hs, e, fun v hv => q _ _ _ _ (Later.refl hr) hv⟩
end
end Vl
namespace Vl
open PySem PySem.Spec PyProof.Rows L2
/-- the suite `v = e` of an except clause: slot i the exception's, slot j v's -/
def tsX (K : PySem.W.Frag) (i j : Nat) (g : XG) (a : Addr) (cls : Value) (d : Option Addr) : TS := fun D σ H => ∃ φ ρ μ Γ x r, Rep K φ ρ μ H ∧ EnvIs K φ ρ H σ Γ ∧ XIs K φ ρ H cls d x ∧ σ[i]? = some (some (.ref a)) ∧ g x = some r ∧ ∀ φ' ρ' σ' H', Later K φ ρ H φ' ρ' μ H' → EnvIs K φ' ρ' H' σ' (Γ.set j (some r)) → D.nx σ' H'
def sTry (cat : List (Str × Bool)) (i j : Nat) (g : XG) (b : SF) : SF := fun Γ μ => match b Γ μ with
  | .ok (.ex x Γ1) μ1 => match cat.lookup x.C with
    | some true => match (bif decide (i < Γ1.length) then g x else none) with
      | some r => .ok (.nx (((Γ1.set i none).set j (some r)).set i none)) μ1
      | none => .bad
    | some false => .ok (.ex x Γ1) μ1
    | none => .bad
  | o => o
section
variable {X : Cx} {i j : Nat} {a : Addr} {oe : Obj} {cls : Value} {d : Option Addr} {pn : List (Addr × Obj)} {e : Expr} {es : List Expr} {pos pos' np vp : Pos} {K : PySem.W.Frag} {W : L2.St → XK}
theorem sxAsg {g : XG} {v : Str} (h : PE (X.suite a ((a, oe) :: pn)) e (tX X.K i a cls d g)) (hg : PG (X.suite a ((a, oe) :: pn)) (.Name v vp) (gName j)) (hs : swapsWithSole [.Name v vp] e pos.line X.env = pure false := by rfl) (hw : swappedStores [.Name v vp] e X.env = pure none := by rfl) (h1 : (assignEach [.Name v vp] X.env).map (·.2) = [assign (.Name v vp) X.env] := by rfl) :
    PSs (X.suite a ((a, oe) :: pn)) [.Assign [.Name v vp] e pos] (tsX X.K i j g a cls d) := by
  refine (pss_one (ps_asg h hg hs hw h1)).vimp fun D σ H ⟨φ, ρ, μ, Γ, x, r, hr, he, hx, hsl, e, q⟩ => ⟨φ, ρ, μ, x, r, hr, hx, hsl, e, fun φ' ρ' v H' l hv => ?_⟩
  exact q _ _ _ _ l ((l.env hr he).set hv j)
theorem fTry {x n : Str} {c : Value} {cat : List (Str × Bool)} {g : XG} {b : SF} {body suite : List Stmt} {b₀ : Stmt} (hN : X.N.Nodup) (hcN : Names X x c) (tk : Takes X (wx W)) (hcat : ∀ C bb, cat.lookup C = some bb → PySem.W.exmOne X.K (.ref (He.ga X.K C)) c = some bb)
    (hb : ∀ (W : L2.St → XK) (pn : List (Addr × Obj)) (xe : Value → Shared → Prop), Takes (X.tr pn xe) (wx W) → PassesOwn (model X.prog X.w) X.A X.env xe → PSs (X.tr pn xe) body (tS X.K W b))
    (hsu : ∀ (a : Addr) (oe : Obj) (cls : Value) (d : Option Addr) (pn : List (Addr × Obj)), Zc cls d oe → (∃ vs, oe.data = .fields vs) → PSs (X.suite a ((a, oe) :: pn)) (b₀ :: suite) (tsX X.K i j g a cls d))
    (hi : X.N[i]? = some n := by rfl) (hln : X.env.kindOf n = some .local := by rfl) (hs : X.stack = X.env :: X.outer := by rfl) (hf : X.env.frame = some X.env.locals := by rfl) (hK : X.K = K := by rfl) :
    PS X (.Try body [.ExceptHandler (some (.Name x np)) (some n) (b₀ :: suite) pos'] [] [] pos) (tS K W (sTry cat i j g b)) := by
  subst hK
  refine (ps_try_as (tb := fun W' => tS X.K (fun σ c d H => W' c d σ H) b) hs hf hN hi hln hcN tk (fun W' pn xe t po => hb (fun σ c d H => W' c d σ H) pn xe t po) hsu).vimp fun D σ H ⟨φ, ρ, Γ, μ, he, hr, p⟩ => ⟨φ, ρ, Γ, μ, he, hr, ?_⟩
  unfold sTry at p
  cases q : b Γ μ with
  | bad => rw [q] at p; exact p
  | exc x m => rw [q] at p; exact p
  | ok fl m =>
    rw [q] at p
    cases fl with
    | nx Γ1 => exact p
    | rt d => exact p
    | bk Γ1 => exact p
    | ct Γ1 => exact p
    | ex x Γ1 =>
      dsimp only at p
      intro φ1 ρ1 σ1 H1 cls dd l he1 hx
      have hc := hx.1
      cases q1 : cat.lookup x.C with
      | none => rw [q1] at p; exact p.elim
      | some bb =>
        have ex := hcat _ _ q1
        rw [← hc] at ex
        cases bb with
        | false =>
          rw [q1] at p
          exact ⟨false, ex, (fun z => by cases z), fun _ => p _ _ _ _ _ _ l he1 hx⟩
        | true =>
          rw [q1] at p
          dsimp only at p
          refine ⟨true, ex, fun _ a na => ?_, fun z => by cases z⟩
          cases il : decide (i < Γ1.length) with
          | false => rw [il] at p; exact p.elim
          | true =>
          rw [il] at p
          have p : PostS X.K φ ρ H D W (match g x with
            | some r => .ok (.nx (((Γ1.set i none).set j (some r)).set i none)) m
            | none => .bad) := p
          cases q2 : g x with
          | none => rw [q2] at p; exact p.elim
          | some r =>
            rw [q2] at p
            have il : i < σ1.length := by rw [he1.length]; exact of_decide_eq_true il
            refine ⟨φ1, ρ1, m, Γ1.set i none, x, r, l.rep, he1.setN i, hx, by rw [List.getElem?_set_self il], q2, fun φ' ρ' σ' H' l' he' => ?_⟩
            exact p _ _ _ _ (l.trans l') (he'.setN i)
end
end Vl
namespace Vl
open PySem PySem.Spec PyProof.Rows L2
section
variable {X : Cx} {K : PySem.W.Frag} {W : L2.St → XK} {k n : Nat} {C m : Str} {ps : List Str} {f : List D → M D} {e : Expr} {es : List Expr} {pos apos : Pos} {r : AF}
/-- C.m(..), a static method that may raise -/
theorem fStatX {pl : Sem Bool} {p0 : Pos} (G : Ow.Stat X.prog X.w X.K X.mg X.base (L2.CX X.prog X.w) k (He.ga K C) m ps (spF K n f)) (hr : Room k X.A) (hm : X.mg C = some (.ref (He.ga K C))) (tk : Takes X (wx W)) (ha : PA X (e :: es) (tA K W r)) (hg : Gl X C := by rfl) (hd : (C == ("__debug__" : Str)) = false := by decide)
    (hst : starEach (e :: es) X.env = (false, eval e X.env) :: starEach es X.env := by rfl) (hpl : (backTo pos (starEach es X.env)).any (·.1) = false := by rfl)
    (ht : eval (.Call (.Attribute (.Name C p0) m apos) (e :: es) [] pos) X.env = (eval (.Name C p0) X.env >>= fun ov => standAt apos.atName >>= fun _ => holding [ov] (getMethod ov m pl) >>= fun z => callWith pos z.1 z.2 (backTo pos (starEach (e :: es) X.env)) (backToKw pos (keywordEach [] X.env))) := by rfl) :
    PE X (.Call (.Attribute (.Name C p0) m apos) (e :: es) [] pos) (tE K W (eCall (callV n f) r)) := by
  obtain ⟨g, fd, S, hk, hb, F⟩ := G
  obtain ⟨rest, hrec⟩ := S.sm
  have he0 : PE X (.Name C p0) (tC (.ref (He.ga K C))) := pe_glob hg hm rfl hd
  refine ⟨fun pins s σ H Q I ⟨φ, ρ, Γ, μ, he, hre, p⟩ => PySem.W.methodCall_KW (pl := pl) (thn (he0.run pins s σ H (fun v H1 => v = .ref (He.ga K C) ∧ H1 = H) I ⟨rfl, rfl⟩) fun u s1 ⟨x, H1, I1, rx, ex, eh⟩ => ?_) ht⟩
  subst ex eh
  obtain rfl : u = Value.ref (He.ga K C) := rx
  have I2 := I1.tok (s1.toks + 1)
  refine PySem.W.method_cls I1.kIn S.ga (PySem.W.cls_bind I1.kIn S.rd S.at_ (wpAny_call (PySem.W.sm_get (s := { s1 with toks := s1.toks + 1 }) I1.kIn hrec (PySem.W.handed_on (by rfl) ?_))))
  have q : tA K W r σ H1 fun vs H2 => spF K n f vs H2 Q (W σ) := stepA he hre p fun l he h p => callV_ok l.rep h p
  refine PySem.W.callWith_K (first := []) (h₀ := X.base) I.ok.mod.kin hk (thn (ha.run pos pins _ σ H1 _ I2 q) fun us s2 ⟨vs, H2, I3, rv, q2⟩ => ⟨I3.kIn, ?_⟩) hst hpl
  exact run_fnS (us := us) (vs := vs) (E := W) F hr hb (passAt tk σ) I3 rv q2
end
end Vl
namespace Vl
open PySem PySem.Spec PyProof.Rows L2
/-- o.m, a property of the class C (nothing is raised) -/
def eProp (C m : Str) (f : List D → M D) (o : EF) : EF := fun Γ => M.bind (o Γ) fun x => M.bind (clsIs C m x) fun _ => calmM (callV 1 f [x])
/-- what the property promises -/
def Prp (P : Program) (w : World) (K : PySem.W.Frag) (mg : Str → Option Value) (base : Heap) (k : Nat) (C : Addr) (m : Str) (sp : Sp) : Prop :=
  ∃ p g fd ps, PropOf K C m p g ∧ Binds K fd ps [] ∧ FnOk P w K mg base (L2.CX P w) k g fd ps sp
section
variable {X : Cx} {K : PySem.W.Frag} {W : L2.St → XK} {k : Nat} {C m : Str} {f : List D → M D} {e : Expr} {pos : Pos} {fo : EF}
theorem fProp (G : Prp X.prog X.w X.K X.mg X.base k (He.ga K C) m (spF K 1 f)) (hr : Room (k + 1) X.A) (c : Cls X.K (He.ga K C)) (ho : PE X e (tE K W fo)) (hab : attributeBase e m X.env (eval e X.env) = eval e X.env := by rfl) : PE X (.Attribute e m pos) (tE K W (eProp C m f fo)) := by
  obtain ⟨p, g, fd, ps, hp, hb, F⟩ := G
  refine (pe_prop (dvs := []) (E := fun _ _ _ => False) ho c hp F hr hb .nil passF hab).vimp fun σ H Q ⟨φ, ρ, Γ, μ, he, hr, p⟩ => stepE he hr p fun l1 he h1 p => ?_
  obtain ⟨⟨a, dx, fs, e1, e2, e3⟩, p⟩ := clsIs_post l1.rep h1 p
  refine ⟨a, dx, fs, e1, e2, ?_⟩
  rw [← e1]
  exact callV_ok l1.rep (.cons h1 .nil) (calm_post p)
end
end Vl

/-! checks of own exception classes -/
namespace Vl
open PySem PySem.Spec PyProof.Rows L2
def oexO (K : PySem.W.Frag) (C : Addr) : Bool := match K.lookup C with
  | some ⟨.type "type", _, .cls cd, sl⟩ => (match cd.mro, sl.toList with
    | .ref E :: bm, [_, _, _, _, some (.builtin nn), _] => E == C && (nn == "ValueError.__new__" && (!cd.hasDel && (cd.hasDict && PySem.HandSPX.refsVE bm)))
    | _, _ => false)
  | _ => false
def oexB (K : PySem.W.Frag) (C : Addr) : Bool := oexO K C && (decide (PySem.W.findIn K (.ref C) "__setattr__" = some (some (.builtin "object.__setattr__"))) && (decide (PySem.W.subIn K (.ref C) (.type "BaseException") = some true) && (decide (PySem.W.typeIn K (.ref C) = some (.type "type")) && PySem.W.keepIn K (.ref C))))
theorem oexB_ok {K : PySem.W.Frag} {C : Addr} (h : oexB K C = true) : OexC K C := by
  obtain ⟨h0, h⟩ := He.ba h
  obtain ⟨h1, h⟩ := He.ba h
  obtain ⟨h2, h⟩ := He.ba h
  obtain ⟨h3, h4⟩ := He.ba h
  refine ⟨?_, of_decide_eq_true h1, of_decide_eq_true h2, of_decide_eq_true h3, h4⟩
  unfold oexO at h0
  split at h0
  · rename_i dd cd sl ho
    split at h0
    · rename_i E bm k0 k1 k2 k3 nn k5 hm hs
      simp only [Bool.and_eq_true, beq_iff_eq, Bool.not_eq_true'] at h0
      obtain ⟨rfl, rfl, hdel, hdi, hbm⟩ := h0
      obtain ⟨nm, bs, mro, ns, qn, hd, sn, sub, ab, col, del⟩ := cd
      dsimp only at hm hdel hdi
      subst hm hdel hdi
      have es : sl = #[k0, k1, k2, k3, some (.builtin "ValueError.__new__"), k5] := by
        obtain ⟨l⟩ := sl
        simp only at hs
        rw [hs]
      subst es
      exact ⟨nm, qn, ns, bs, bm, sn, sub, ab, col, dd, k0, k1, k2, k3, k5, ho, hbm⟩
    · cases h0
  · cases h0
def veiB (K : PySem.W.Frag) (C : Addr) : Bool := PySem.W.readsIn K C (.type "type") && (He.eqO (PySem.W.specialIn K (.ref C) "__getattribute__") (some (some (.builtin "type.__getattribute__"))) && (match PySem.W.findCls K (.ref C) (.type "type") "__init__" with
  | some (.val (.builtin n)) => n == "ValueError.__init__"
  | _ => false))
theorem veiB_ok {K : PySem.W.Frag} {C : Addr} (h : veiB K C = true) : VeI K C := by
  obtain ⟨h1, h⟩ := He.ba h
  obtain ⟨h2, h3⟩ := He.ba h
  refine ⟨h1, He.eqO_ok h2, ?_⟩
  split at h3
  · rename_i n e
    rw [e, beq_iff_eq.mp h3]
  · cases h3
def excB (K : PySem.W.Frag) (D : Addr) : Bool := decide (PySem.W.findIn K (.ref D) "__getattribute__" = some (some (.builtin "BaseException.__getattribute__"))) && (decide (PySem.W.findIn K (.ref D) "__getattr__" = some none) && (decide (PySem.W.subIn K (.ref D) (.type "BaseException") = some true) && (PySem.W.hasDictIn K D && (decide (PySem.W.findIn K (.ref D) "__class__" = some (some (.builtin "object.__class__"))) &&
  (decide (PySem.W.specialIn K (.builtin "object.__class__") "__get__" = some (some (.builtin "getset_descriptor.__get__"))) && (decide (PySem.W.takesIn K (.builtin "object.__class__") = some true) && decide (PySem.W.mroIn K D (.type "object") = some true)))))))
theorem excB_ok {K : PySem.W.Frag} {D : Addr} (h : excB K D = true) : ExcC K D := by
  obtain ⟨h1, h⟩ := He.ba h
  obtain ⟨h2, h⟩ := He.ba h
  obtain ⟨h3, h⟩ := He.ba h
  obtain ⟨h4, h⟩ := He.ba h
  obtain ⟨h5, h⟩ := He.ba h
  obtain ⟨h6, h⟩ := He.ba h
  obtain ⟨h7, h8⟩ := He.ba h
  exact ⟨of_decide_eq_true h1, of_decide_eq_true h2, of_decide_eq_true h3, h4, of_decide_eq_true h5, of_decide_eq_true h6, of_decide_eq_true h7, of_decide_eq_true h8⟩
/-- a property's getter -/
def prF (K : PySem.W.Frag) (C : Addr) (m : Str) : Addr := match PySem.W.recIn K (He.ma K C m) "property" with
  | some (.ref f :: _) => f
  | _ => 0
def prB (K : PySem.W.Frag) (C : Addr) (m : Str) : Bool := decide (PySem.W.findIn K (.ref C) m = some (some (.ref (He.ma K C m)))) && (decide (PySem.W.specialIn K (.ref (He.ma K C m)) "__get__" = some (some (.builtin "property.__get__"))) && (decide (PySem.W.takesIn K (.ref (He.ma K C m)) = some true) && (match PySem.W.recIn K (He.ma K C m) "property" with
  | some (.ref _ :: _) => true
  | _ => false)))
theorem prB_ok {K : PySem.W.Frag} {C : Addr} {m : Str} (h : prB K C m = true) : PropOf K C m (He.ma K C m) (prF K C m) := by
  obtain ⟨h1, h⟩ := He.ba h
  obtain ⟨h2, h⟩ := He.ba h
  obtain ⟨h3, h4⟩ := He.ba h
  refine ⟨of_decide_eq_true h1, of_decide_eq_true h2, of_decide_eq_true h3, ?_⟩
  unfold prF
  split at h4
  · rename_i f r e
    exact ⟨r, by rw [e]⟩
  · cases h4
theorem lookup_all {P : Str → Bool → Prop} : ∀ {tab : List (Str × Bool)}, (∀ z ∈ tab, P z.1 z.2) → ∀ C b, tab.lookup C = some b → P C b
  | [], _, _, _, e => by cases e
  | (D, d) :: tab, h, C, b, e => by
    unfold List.lookup at e
    cases c : C == D with
    | true =>
      rw [c] at e
      cases e
      rw [beq_iff_eq.mp c]
      exact h (D, d) List.mem_cons_self
    | false =>
      rw [c] at e
      exact lookup_all (fun z hz => h z (List.mem_cons_of_mem _ hz)) C b e
/-- i.bit_length() -/
def bitsD : D → M D
  | .int i => M.pure (.int (Builtin.Int.intBits i : Nat))
  | _ => M.fail
theorem fBits {X : Cx} {K : PySem.W.Frag} {W : L2.St → XK} {o : Expr} {fo : EF} {apos pos : Pos} (ho : PE X o (tE K W fo)) (hbase : attributeBase o "bit_length" X.env (eval o X.env) = eval o X.env := by rfl) (hline : (apos.endLine == pos.line) = true := by rfl) : PE X (.Call (.Attribute o "bit_length" apos) [] [] pos) (tE K W (eUn bitsD fo)) :=
  (pe_bits ho hbase hline).vimp fun σ H Q ⟨φ, ρ, Γ, μ, he, hr, p⟩ => stepE he hr p fun {d μ1 φ1 ρ1 v H1} l he h p => by
    cases d <;> first | exact p.elim | skip
    rename_i i
    have e := h.intE
    subst e
    exact ⟨i, rfl, p.val l.rep (.int _)⟩
end Vl

/-! calls that change one thing of the store -/
namespace Vl
open PySem PySem.Spec PyProof.Rows L2
theorem idx_other {k j : Nat} (h : k ≠ j) : idx? [k] j = none := idx_ne h
theorem wb_set (o : D) : ∀ (μ : Sto) (n k : Nat), n ≤ k → wb [k] [o] n μ = μ.set (k - n) o
  | [], n, k, _ => by simp [wb]
  | x :: μ, n, k, h => by
    show (match idx? [k] n with | some i => [o].getD i x | none => x) :: wb [k] [o] (n + 1) μ = _
    by_cases c : k = n
    · subst c
      rw [idx_one, Nat.sub_self]
      have e : ∀ (m : Nat) (ν : Sto), k < m → wb [k] [o] m ν = ν := by
        intro m ν
        induction ν generalizing m with
        | nil => intro _; rfl
        | cons y ν ih =>
          intro hm
          show (match idx? [k] m with | some i => [o].getD i y | none => y) :: wb [k] [o] (m + 1) ν = _
          rw [idx_ne (by omega), ih (m + 1) (by omega)]
      rw [e (k + 1) μ (by omega)]
      rfl
    · rw [idx_ne c, wb_set o μ (n + 1) k (by omega)]
      have e : k - n = (k - (n + 1)) + 1 := by omega
      rw [e]
      rfl
theorem callV_ob {n k : Nat} {f : List D → M D} {ds : List D} {d o o' : D} {μ : Sto} (hl : ds.length + 1 = n) (hk : μ[k]? = some o) (ho : Pu o) (hp : PuL ds) (hf : f (.ob 0 :: ds) [o] = .ok d [o']) (hd : Pu d) (ho' : Pu o') : callV n f (.ob k :: ds) μ = .ok d (μ.set k o') := by
  unfold callV
  have e : ((D.ob k :: ds).length == n) = true := beq_iff_eq.mpr (by rw [List.length_cons]; exact hl)
  rw [e, x_guardT]
  have e2 : mutsL (.ob k :: ds) = [k] := by
    show muts (.ob k) ++ mutsL ds = _
    rw [show mutsL ds = [] from hp]
    rfl
  have e3 : reach μ 1000 [k] [] = [k] := by
    show (bif (idx? [] k).isSome then _ else reach μ 999 ([] ++ muts ((μ[k]?).getD .non)) ([] ++ [k])) = _
    rw [hk]
    show reach μ 999 ([] ++ muts o) [k] = _
    rw [show muts o = [] from ho]
    exact reach_nil _ _ _
  dsimp only
  rw [e2, e3]
  have e4 : mapMuts (fun j => (idx? [k] j).map D.ob) (.ob k :: ds) = some (.ob 0 :: ds) := by
    unfold mapMuts mapMut
    rw [idx_one, hp.map]
    rfl
  rw [e4]
  dsimp only [getAll]
  rw [hk]
  dsimp only [Option.map_some, Option.bind_some]
  rw [PuL.map (puL1 ho)]
  dsimp only
  rw [hf]
  dsimp only
  rw [hd.map, PuL.map (puL1 ho')]
  dsimp only
  rw [wb_set o' μ 0 k (Nat.zero_le _)]
  simp
/-- a def that changes its first thing -/
theorem fun_wpS {N : Nat} {b : SF} {ds : List D} {d o o' : D} (hd : Pu d) (ho : Pu o') (h : Wp (b (env0 N ds) [o]) (fun f m => f = .rt d ∧ ∃ r, m = o' :: r) fun _ _ => False) : funF false N b ds [o] = .ok d [o'] := by
  cases q : b (env0 N ds) [o] with
  | bad => rw [q] at h; cases h
  | exc _ _ => rw [q, w_exc] at h; cases h
  | ok f m =>
    rw [q, w_ok] at h
    obtain ⟨rfl, r, rfl⟩ := h
    unfold funF
    rw [q]
    dsimp only
    unfold Vl.finish
    have e : mapMuts (fz [o].length (o' :: r) 20) ((o' :: r).take [o].length) = some [o'] := PuL.map (puL1 ho) _
    rw [hd.map, e]
    rfl
@[simp ↓] theorem w_put {S : Fl → Sto → Prop} {X : Ex → Sto → Prop} {Γ : Env} {μ : Sto} (o i e : EF) : Wp (sPut o i e Γ μ) S X = Wp (e Γ μ) (fun v μ => Wp (o Γ μ) (fun x μ => Wp (i Γ μ) (fun j μ => Wp (putL x j v μ) (fun _ μ => S (.nx Γ) μ) (fun x μ => S (.ex x Γ) μ)) (fun x μ => S (.ex x Γ) μ)) (fun x μ => S (.ex x Γ) μ)) (fun x μ => S (.ex x Γ) μ) := by
  show Wp (up Γ (e Γ) (fun v => up Γ (o Γ) fun x => up Γ (i Γ) fun j => up Γ (putL x j v) fun _ => M.pure (.nx Γ)) μ) S X = _
  simp only [w_up, x_pure, w_ok]
/-! the law's state of draws -/
def stD (ns : List Int) (i cur n : Int) : D := .lst [.lst (ns.map D.int), .int i, .int cur, .int n]
theorem stPu (ns : List Int) (i cur n : Int) : Pu (stD ns i cur n) := by
  show mutsL (ns.map D.int) ++ [] = []
  rw [puInts]
  rfl
section
variable {ns : List Int} {i cur n : Int} {r : Sto}
@[simp] theorem st0 : ixD (.ob 0) (.int 0) (stD ns i cur n :: r) = .ok (.lst (ns.map D.int)) (stD ns i cur n :: r) := rfl
@[simp] theorem st1 : ixD (.ob 0) (.int 1) (stD ns i cur n :: r) = .ok (.int i) (stD ns i cur n :: r) := rfl
@[simp] theorem st2 : ixD (.ob 0) (.int 2) (stD ns i cur n :: r) = .ok (.int cur) (stD ns i cur n :: r) := rfl
@[simp] theorem st3 : ixD (.ob 0) (.int 3) (stD ns i cur n :: r) = .ok (.int n) (stD ns i cur n :: r) := rfl
@[simp] theorem sp1 {v : Int} : putL (.ob 0) (.int 1) (.int v) (stD ns i cur n :: r) = .ok () (stD ns v cur n :: r) := rfl
@[simp] theorem sp2 {v : Int} : putL (.ob 0) (.int 2) (.int v) (stD ns i cur n :: r) = .ok () (stD ns i v n :: r) := rfl
@[simp] theorem sp3 {v : Int} : putL (.ob 0) (.int 3) (.int v) (stD ns i cur n :: r) = .ok () (stD ns i cur v :: r) := rfl
end
end Vl

/-! exceptions, loops that are left, plain data compared, the state of draws out of sight -/
namespace Vl
open PySem PySem.Spec PyProof.Rows L2
theorem callV_px {n : Nat} {f : List D → M D} {ds : List D} {x : Ex} {μ : Sto} (hl : ds.length = n) (hp : PuL ds) (hf : f ds [] = .exc x []) (hx : PuL x.xs) : callV n f ds μ = .exc x μ := by
  unfold callV
  have e : (ds.length == n) = true := beq_iff_eq.mpr hl
  rw [e, x_guardT]
  have e2 : mutsL ds = [] := hp
  dsimp only
  rw [e2, reach_nil, hp.map]
  dsimp only [getAll, Option.bind_some, mapMuts]
  rw [hf]
  dsimp only
  rw [hx.map]
  dsimp only [mapMuts]
  rw [wb_nil]
  simp
theorem makeV_px {C : Str} {n : Nat} {f : List D → M D} {dv ds : List D} {x : Ex} {o : D} {μ : Sto} (hl : (ds ++ dv).length + 1 = n) (hp : PuL (ds ++ dv)) (hf : f (.ob 0 :: (ds ++ dv)) [.ins C [] []] = .exc x [o]) (hx : PuL x.xs) (ho : Pu o) (hw : Wf μ) : makeV C n f false dv ds μ = .exc x μ := by
  have call : callV n f (.ob μ.length :: (ds ++ dv)) (μ ++ [.ins C [] []]) = .exc x (μ ++ [o]) := by
    unfold callV
    have e : ((D.ob μ.length :: (ds ++ dv)).length == n) = true := beq_iff_eq.mpr (by rw [List.length_cons]; exact hl)
    rw [e, x_guardT]
    have e2 : mutsL (.ob μ.length :: (ds ++ dv)) = [μ.length] := by
      show muts (.ob μ.length) ++ mutsL (ds ++ dv) = _
      rw [show mutsL (ds ++ dv) = [] from hp]
      rfl
    have at0 : (μ ++ [D.ins C [] []])[μ.length]? = some (.ins C [] []) := by simp
    have e3 : reach (μ ++ [.ins C [] []]) 1000 [μ.length] [] = [μ.length] := by
      show (bif (idx? [] μ.length).isSome then _ else reach (μ ++ [D.ins C [] []]) 999 ([] ++ muts (((μ ++ [D.ins C [] []])[μ.length]?).getD .non)) ([] ++ [μ.length])) = _
      rw [at0]
      exact reach_nil _ _ _
    dsimp only
    rw [e2, e3]
    have e4 : mapMuts (fun k => (idx? [μ.length] k).map D.ob) (.ob μ.length :: (ds ++ dv)) = some (.ob 0 :: (ds ++ dv)) := by
      unfold mapMuts mapMut
      rw [idx_one, hp.map]
      rfl
    rw [e4]
    dsimp only [getAll]
    rw [at0]
    dsimp only [Option.map_some, Option.bind_some]
    have e5 : mapMuts (fun k => (idx? [μ.length] k).map D.ob) [D.ins C [] []] = some [.ins C [] []] := rfl
    rw [e5]
    dsimp only
    rw [hf]
    dsimp only
    have e7 : mapMuts (backN [μ.length] (μ ++ [D.ins C [] []]).length) [o] = some [o] := PuL.map (puL1 ho) _
    rw [hx.map, e7]
    dsimp only
    have := wb_last o μ 0 (.ins C [] [])
    rw [Nat.zero_add] at this
    rw [this]
    simp
  unfold makeV
  rw [call]
  dsimp only
  unfold finishX
  have f2 : mapMuts (fz μ.length (μ ++ [o]) 20) ((μ ++ [o]).take μ.length) = some μ := by
    rw [List.take_left]
    refine mapMuts_id _ _ fun k hk => ?_
    show (bif decide (k < μ.length) then some (D.ob k) else _) = _
    rw [decide_eq_true (hw k hk)]
    rfl
  rw [hx.map, f2]
  rfl
/-- a def that raises, by its body -/
theorem fun_wpX {N : Nat} {b : SF} {ds : List D} {x : Ex} (hx : PuL x.xs) (h : Wp (b (env0 N ds) []) (fun f _ => ∃ Γ, f = .ex x Γ) fun _ _ => False) : funF false N b ds [] = .exc x [] := by
  cases q : b (env0 N ds) [] with
  | bad => rw [q] at h; cases h
  | exc _ _ => rw [q, w_exc] at h; cases h
  | ok f m =>
    rw [q, w_ok] at h
    obtain ⟨Γ, rfl⟩ := h
    unfold funF
    rw [q]
    dsimp only
    unfold Vl.finishX
    rw [hx.map]
    rfl
/-- the same, with one thing in the store -/
theorem fun_wpSX {N : Nat} {b : SF} {ds : List D} {x : Ex} {o o' : D} (hx : PuL x.xs) (ho : Pu o') (h : Wp (b (env0 N ds) [o]) (fun f m => (∃ Γ, f = .ex x Γ) ∧ ∃ r, m = o' :: r) fun _ _ => False) : funF false N b ds [o] = .exc x [o'] := by
  cases q : b (env0 N ds) [o] with
  | bad => rw [q] at h; cases h
  | exc _ _ => rw [q, w_exc] at h; cases h
  | ok f m =>
    rw [q, w_ok] at h
    obtain ⟨⟨Γ, rfl⟩, r, rfl⟩ := h
    unfold funF
    rw [q]
    dsimp only
    unfold Vl.finishX
    have e : mapMuts (fz [o].length (o' :: r) 20) ((o' :: r).take [o].length) = some [o'] := PuL.map (puL1 ho) _
    rw [hx.map, e]
    rfl
/-- a def that ends without a value, its first thing changed -/
theorem fun_wpN {N : Nat} {b : SF} {ds : List D} {o o' : D} (ho : Pu o') (h : Wp (b (env0 N ds) [o]) (fun f m => (∃ Γ, f = .nx Γ) ∧ ∃ r, m = o' :: r) fun _ _ => False) : funF false N b ds [o] = .ok .non [o'] := by
  cases q : b (env0 N ds) [o] with
  | bad => rw [q] at h; cases h
  | exc _ _ => rw [q, w_exc] at h; cases h
  | ok f m =>
    rw [q, w_ok] at h
    obtain ⟨⟨Γ, rfl⟩, r, rfl⟩ := h
    unfold funF
    rw [q]
    dsimp only
    unfold Vl.finish
    have e : mapMuts (fz [o].length (o' :: r) 20) ((o' :: r).take [o].length) = some [o'] := PuL.map (puL1 ho) _
    rw [puNon.map, e]
    rfl
/-- what a def on a state gives, out of sight -/
def Out (P : D → D → Prop) (f : Fl) (m : Sto) : Prop := ∃ d o' r, f = .rt d ∧ m = o' :: r ∧ Pu d ∧ Pu o' ∧ P d o'
theorem Out.rt {P : D → D → Prop} {d o' : D} {r : Sto} (hd : Pu d) (ho : Pu o') (h : P d o') : Out P (.rt d) (o' :: r) := ⟨d, o', r, rfl, rfl, hd, ho, h⟩
theorem fun_wpE {N : Nat} {b : SF} {ds : List D} {o : D} (P : D → D → Prop) (h : Wp (b (env0 N ds) [o]) (Out P) fun _ _ => False) : ∃ d o', P d o' ∧ Pu d ∧ Pu o' ∧ funF false N b ds [o] = .ok d [o'] := by
  cases q : b (env0 N ds) [o] with
  | bad => rw [q] at h; cases h
  | exc _ _ => rw [q, w_exc] at h; cases h
  | ok f m =>
    rw [q, w_ok] at h
    obtain ⟨d, o', r, rfl, rfl, hd, ho, hp⟩ := h
    refine ⟨d, o', hp, hd, ho, ?_⟩
    unfold funF
    rw [q]
    dsimp only
    unfold Vl.finish
    have e : mapMuts (fz [o].length (o' :: r) 20) ((o' :: r).take [o].length) = some [o'] := PuL.map (puL1 ho) _
    rw [hd.map, e]
    rfl
theorem two_pow_le {k m : Nat} (h : k ≤ m) : (2 : Int) ^ k ≤ 2 ^ m := by
  have := Nat.pow_le_pow_right (n := 2) (by decide) h
  have e : ∀ j : Nat, (((2 : Nat) ^ j : Nat) : Int) = (2 : Int) ^ j := fun j => by rw [Int.natCast_pow]; rfl
  rw [← e, ← e]
  exact Int.ofNat_le.mpr this
theorem two_pow_pos (k : Nat) : (0 : Int) < 2 ^ k := by
  have := two_pow_le (Nat.zero_le k)
  simp at this
  omega
section
variable {Γ : Env} {μ : Sto} {S : Fl → Sto → Prop} {Q : D → Sto → Prop} {X : Ex → Sto → Prop}
@[simp ↓] theorem w_rs (C f : Str) (a : EF) : Wp (sRs C f a Γ μ) S X = Wp (a Γ μ) (fun d μ => S (.ex ⟨C, [f], [d]⟩ Γ) μ) (fun x μ => S (.ex x Γ) μ) := by
  show Wp (up Γ (a Γ) (fun d => M.pure (.ex ⟨C, [f], [d]⟩ Γ)) μ) S X = _
  simp only [w_up, x_pure, w_ok]
/-- what a try makes of its body's end -/
def Tr (cat : List (Str × Bool)) (i j : Nat) (g : XG) (f : Fl) (S : Fl → Prop) : Prop := match f with
  | .ex x Γ1 => match cat.lookup x.C with
    | some true => match (bif decide (i < Γ1.length) then g x else none) with
      | some r => S (.nx (((Γ1.set i none).set j (some r)).set i none))
      | none => False
    | some false => S (.ex x Γ1)
    | none => False
  | f => S f
theorem tr_congr {cat : List (Str × Bool)} {i j : Nat} {g : XG} {f f' : Fl} {S : Fl → Prop} (h : f = f') : Tr cat i j g f S = Tr cat i j g f' S := by rw [h]
section
variable (cat : List (Str × Bool)) (i j : Nat) (g : XG) (T : Fl → Prop) (Γ' : Env)
@[simp] theorem tr_nx : Tr cat i j g (.nx Γ') T = T (.nx Γ') := propext Iff.rfl
@[simp] theorem tr_rt (d : D) : Tr cat i j g (.rt d) T = T (.rt d) := propext Iff.rfl
@[simp] theorem tr_bk : Tr cat i j g (.bk Γ') T = T (.bk Γ') := propext Iff.rfl
@[simp] theorem tr_ct : Tr cat i j g (.ct Γ') T = T (.ct Γ') := propext Iff.rfl
end
theorem tr_take {cat : List (Str × Bool)} {i j : Nat} {g : XG} {T : Fl → Prop} {x : Ex} {Γ1 : Env} {r : D} (h : cat.lookup x.C = some true) (l : i < Γ1.length) (e : g x = some r) (k : T (.nx (((Γ1.set i none).set j (some r)).set i none))) : Tr cat i j g (.ex x Γ1) T := by
  show (match cat.lookup x.C with
    | some true => match (bif decide (i < Γ1.length) then g x else none) with
      | some r => T (.nx (((Γ1.set i none).set j (some r)).set i none))
      | none => False
    | some false => T (.ex x Γ1)
    | none => False)
  rw [h, decide_eq_true l]
  dsimp only [cond]
  rw [e]
  exact k
theorem tr_pass {cat : List (Str × Bool)} {i j : Nat} {g : XG} {T : Fl → Prop} {x : Ex} {Γ1 : Env} (h : cat.lookup x.C = some false) (k : T (.ex x Γ1)) : Tr cat i j g (.ex x Γ1) T := by
  show (match cat.lookup x.C with
    | some true => match (bif decide (i < Γ1.length) then g x else none) with
      | some r => T (.nx (((Γ1.set i none).set j (some r)).set i none))
      | none => False
    | some false => T (.ex x Γ1)
    | none => False)
  rw [h]
  exact k
@[simp ↓] theorem w_try (cat : List (Str × Bool)) (i j : Nat) (g : XG) (b : SF) : Wp (sTry cat i j g b Γ μ) S X = Wp (b Γ μ) (fun f μ => Tr cat i j g f fun f => S f μ) X := by
  unfold sTry
  cases b Γ μ with
  | bad => simp only [w_bad]
  | exc _ _ => simp only [w_exc]
  | ok f m =>
    cases f with
    | nx _ => simp only [w_ok, tr_nx]
    | ct _ => simp only [w_ok, tr_ct]
    | bk _ => simp only [w_ok, tr_bk]
    | rt _ => simp only [w_ok, tr_rt]
    | ex x Γ1 =>
      simp only [w_ok]
      show Wp (match cat.lookup x.C with
        | some true => match (bif decide (i < Γ1.length) then g x else none) with
          | some r => .ok (.nx (((Γ1.set i none).set j (some r)).set i none)) m
          | none => .bad
        | some false => .ok (.ex x Γ1) m
        | none => .bad) S X = (match cat.lookup x.C with
      | some true => match (bif decide (i < Γ1.length) then g x else none) with
        | some r => S (.nx (((Γ1.set i none).set j (some r)).set i none)) m
        | none => False
      | some false => S (.ex x Γ1) m
      | none => False)
      cases cat.lookup x.C with
      | none => simp only [w_bad]
      | some c =>
        cases c with
        | false => simp only [w_ok]
        | true =>
          dsimp only
          cases (bif decide (i < Γ1.length) then g x else none) <;> simp only [w_ok, w_bad]
@[simp ↓] theorem w_prop (C m : Str) (f : List D → M D) (o : EF) : Wp (eProp C m f o Γ μ) Q X = Wp (o Γ μ) (fun x μ => Wp (clsIs C m x μ) (fun _ μ => Wp (calmM (callV 1 f [x]) μ) Q X) X) X := by
  show Wp (M.bind (o Γ) (fun x => M.bind (clsIs C m x) fun _ => calmM (callV 1 f [x])) μ) Q X = _
  simp only [w_bind]
@[simp ↓] theorem w_sfld (Cs : List Str) (f : Str) (o v : EF) : Wp (sFldD Cs f o v Γ μ) S X = Wp (v Γ μ) (fun y μ => Wp (o Γ μ) (fun x μ => Wp (setFld Cs f x y μ) (fun _ μ => S (.nx Γ) μ) (fun x μ => S (.ex x Γ) μ)) (fun x μ => S (.ex x Γ) μ)) (fun x μ => S (.ex x Γ) μ) := by
  show Wp (up Γ (v Γ) (fun y => up Γ (o Γ) fun x => up Γ (setFld Cs f x y) fun _ => M.pure (.nx Γ)) μ) S X = _
  simp only [w_up, x_pure, w_ok]
/-- a loop, left or not -/
def LoopK (f : Fl) (k : Env → Prop) (S : Fl → Prop) : Prop := match f with
  | .nx Γ => k Γ
  | .ct Γ => k Γ
  | .bk Γ => S (.nx Γ)
  | f => S f
theorem lk_congr {f f' : Fl} {k : Env → Prop} {S : Fl → Prop} (h : f = f') : LoopK f k S = LoopK f' k S := by rw [h]
section
variable (k : Env → Prop) (T : Fl → Prop) (Γ' : Env)
@[simp] theorem lk_nx : LoopK (.nx Γ') k T = k Γ' := propext Iff.rfl
@[simp] theorem lk_ct : LoopK (.ct Γ') k T = k Γ' := propext Iff.rfl
@[simp] theorem lk_bk : LoopK (.bk Γ') k T = T (.nx Γ') := propext Iff.rfl
@[simp] theorem lk_rt (d : D) : LoopK (.rt d) k T = T (.rt d) := propext Iff.rfl
@[simp] theorem lk_ex (x : Ex) : LoopK (.ex x Γ') k T = T (.ex x Γ') := propext Iff.rfl
end
theorem w_forC (b : D → Env → M Fl) (x : D) (xs : List D) : Wp (forL b (x :: xs) Γ μ) S X = Wp (b x Γ μ) (fun f μ => LoopK f (fun Γ' => Wp (forL b xs Γ' μ) S X) fun f => S f μ) X := by
  show Wp (M.bind (b x Γ) _ μ) S X = _
  rw [w_bind]
  refine congrArg (fun z => Wp (b x Γ μ) z X) (funext fun f => funext fun m => ?_)
  cases f <;> first | rfl | (simp only [x_pure, w_ok]; rfl)
theorem w_forG {b : D → Env → M Fl} {xs : List D} (I : Nat → Env → Sto → Prop) (h : I 0 Γ μ) (step : ∀ i x Γ μ, xs[i]? = some x → I i Γ μ → Wp (b x Γ μ) (fun f μ => LoopK f (fun Γ' => I (i + 1) Γ' μ) fun f => S f μ) X) (k : ∀ Γ μ, I xs.length Γ μ → S (.nx Γ) μ) : Wp (forL b xs Γ μ) S X := by
  induction xs generalizing I Γ μ with
  | nil => exact .ok (k _ _ h)
  | cons x xs ih =>
    rw [w_forC]
    refine (step 0 x Γ μ rfl h).imp (fun f m hf => ?_) fun _ _ h => h
    have go : ∀ Γ', I 1 Γ' m → Wp (forL b xs Γ' m) S X := fun Γ' h1 => ih (fun i => I (i + 1)) h1 (fun i y Γ μ hy hi => step (i + 1) y Γ μ (by simpa using hy) hi) k
    cases f with
    | nx Γ' => exact go _ hf
    | ct Γ' => exact go _ hf
    | bk _ => exact hf
    | rt _ => exact hf
    | ex _ _ => exact hf
end
@[simp] theorem many0 : (0 ≤ many) = True := eq_true (few (by decide))
@[simp] theorem many1 : (1 ≤ many) = True := eq_true (few (by decide))
@[simp] theorem many2 : (2 ≤ many) = True := eq_true (few (by decide))
@[simp] theorem many3 : (3 ≤ many) = True := eq_true (few (by decide))
@[simp] theorem many4 : (4 ≤ many) = True := eq_true (few (by decide))
@[simp] theorem many5 : (5 ≤ many) = True := eq_true (few (by decide))
@[simp] theorem many6 : (6 ≤ many) = True := eq_true (few (by decide))
@[simp] theorem many7 : (7 ≤ many) = True := eq_true (few (by decide))
@[simp] theorem many8 : (8 ≤ many) = True := eq_true (few (by decide))
@[simp] theorem many9 : (9 ≤ many) = True := eq_true (few (by decide))
@[simp] theorem many10 : (10 ≤ many) = True := eq_true (few (by decide))
@[simp] theorem many11 : (11 ≤ many) = True := eq_true (few (by decide))
@[simp] theorem many12 : (12 ≤ many) = True := eq_true (few (by decide))
@[simp] theorem x_guardP {α : Type} (m : M α) (μ : Sto) : M.guard (decide True) m μ = m μ := rfl
/-! numbers from 0 on -/
def upI (n : Nat) : List Int := (List.range n).map fun j : Nat => (j : Int)
theorem rng_up (n : Nat) : rngL 0 n = (upI n).map D.int := by
  rw [rngL_map]
  unfold upI
  congr 1
  refine List.map_congr_left fun j _ => ?_
  omega
@[simp] theorem up_len (n : Nat) : (upI n).length = n := by simp [upI]
theorem mem_up {n : Nat} {k : Int} : k ∈ upI n ↔ 0 ≤ k ∧ k < n := by
  unfold upI
  rw [List.mem_map]
  constructor
  · rintro ⟨j, hj, rfl⟩
    have := List.mem_range.mp hj
    omega
  · rintro ⟨h0, h1⟩
    exact ⟨k.toNat, List.mem_range.mpr (by omega), by omega⟩
theorem up_asc (n : Nat) : (upI n).Pairwise (· < ·) := by
  unfold upI
  rw [List.pairwise_map]
  exact List.pairwise_lt_range.imp fun h => by omega
theorem up_succ (n : Nat) : upI (n + 1) = upI n ++ [(n : Int)] := by
  unfold upI
  rw [List.range_succ, List.map_append]
  rfl
/-! plain data compared -/
/-- data of a depth: none, bools, numbers, texts, tuples, lists -/
inductive Pl : Nat → D → Prop
  | non {n : Nat} : Pl n .non
  | bl {n : Nat} (b : Bool) : Pl n (.bl b)
  | int {n : Nat} (i : Int) : Pl n (.int i)
  | str {n : Nat} {x : Str} : PyData.strOk x = true → Pl n (.str x)
  | tup {n : Nat} {xs : List D} : (∀ x ∈ xs, Pl n x) → Pl (n + 1) (.tup xs)
  | lst {n : Nat} {xs : List D} : (∀ x ∈ xs, Pl n x) → Pl (n + 1) (.lst xs)
theorem pys_pl {n : Nat} : ∀ {xs : List D}, (∀ x ∈ xs, Pu x ∧ ∃ a, toPy x = some a ∧ a.canLay0 = true ∧ a.depth ≤ n) → PuL xs ∧ ∃ as, toPys xs = some as ∧ PyData.canLayAll0 as = true ∧ PyData.depthAll as ≤ n
  | [], _ => ⟨rfl, [], rfl, by simp [PyData.canLayAll0], by simp [PyData.depthAll]⟩
  | x :: xs, h => by
    obtain ⟨hx, a, e, c, d⟩ := h x List.mem_cons_self
    obtain ⟨hs, as, e', c', d'⟩ := pys_pl fun y hy => h y (List.mem_cons_of_mem _ hy)
    refine ⟨?_, a :: as, ?_, ?_, ?_⟩
    · show muts x ++ mutsL xs = []
      rw [show muts x = [] from hx, show mutsL xs = [] from hs]
      rfl
    · unfold toPys
      rw [e, e']
      rfl
    · simp [PyData.canLayAll0, c, c']
    · simp only [PyData.depthAll]
      omega
theorem Pl.py {n : Nat} {d : D} (h : Pl n d) : Pu d ∧ ∃ a, toPy d = some a ∧ a.canLay0 = true ∧ a.depth ≤ n := by
  induction h with
  | non => exact ⟨rfl, _, rfl, by simp [PyData.canLay0], by simp [PyData.depth]⟩
  | bl b => exact ⟨rfl, _, rfl, by simp [PyData.canLay0], by simp [PyData.depth]⟩
  | int b => exact ⟨rfl, _, rfl, by simp [PyData.canLay0], by simp [PyData.depth]⟩
  | str hx => exact ⟨rfl, _, rfl, by simpa [PyData.canLay0] using hx, by simp [PyData.depth]⟩
  | tup _ ih =>
    obtain ⟨hs, as, e, c, d⟩ := pys_pl ih
    exact ⟨hs, .tuple as, by unfold toPy; rw [e]; rfl, by simpa [PyData.canLay0] using c, by simp only [PyData.depth]; omega⟩
  | lst _ ih =>
    obtain ⟨hs, as, e, c, d⟩ := pys_pl ih
    exact ⟨hs, .list as, by unfold toPy; rw [e]; rfl, by simpa [PyData.canLay0] using c, by simp only [PyData.depth]; omega⟩
theorem Pl.pu {n : Nat} {d : D} (h : Pl n d) : Pu d := h.py.1
theorem eqD_self {n : Nat} {d : D} (h : Pl n d) (hn : n ≤ 64 := by decide) (μ : Sto) : eqD d d μ = .ok true μ := by
  obtain ⟨hp, a, e, c, k⟩ := h.py
  have s : SeqAt.shaped a = true := by unfold SeqAt.shaped; rw [c, decide_eq_true (by omega)]; rfl
  rw [eqD_py hp hp e e s s, SeqAt.eqv_refl a c]
theorem plTup {n : Nat} {xs : List D} (h : ∀ x ∈ xs, Pl n x) : Pl (n + 1) (.tup xs) := .tup h
theorem plInts (n : Nat) (ns : List Int) : ∀ x ∈ ns.map D.int, Pl n x := fun x hx => by
  obtain ⟨k, _, rfl⟩ := List.mem_map.mp hx
  exact .int k
theorem plAll {n : Nat} {xs : List D} : (∀ x ∈ xs, Pl n x) ↔ match xs with | [] => True | x :: r => Pl n x ∧ ∀ y ∈ r, Pl n y := by
  cases xs with
  | nil => simp
  | cons x r => simp
/-! texts compared -/
theorem eqD_str {x y : Str} (hx : PyData.strOk x = true) (hy : PyData.strOk y = true) (μ : Sto) : eqD (.str x) (.str y) μ = .ok (PyData.eqv (.str x) (.str y)) μ :=
  eqD_py rfl rfl rfl rfl (by simp [SeqAt.shaped, PyData.canLay0, PyData.depth, hx]) (by simp [SeqAt.shaped, PyData.canLay0, PyData.depth, hy])
/-! the state of draws out of sight -/
def StO (c : Int) (o : D) : Prop := ∃ ns i cur k, o = stD ns i cur k ∧ 0 ≤ i ∧ 0 ≤ k ∧ k ≤ c
theorem StO.pu {c : Int} {o : D} (h : StO c o) : Pu o := by
  obtain ⟨ns, i, cur, k, rfl, _⟩ := h
  exact stPu _ _ _ _
theorem StO.le {c c' : Int} {o : D} (h : StO c o) (l : c ≤ c') : StO c' o := by
  obtain ⟨ns, i, cur, k, rfl, a, b, d⟩ := h
  exact ⟨ns, i, cur, k, rfl, a, b, by omega⟩
theorem StO.first (ns : List Int) (x : Int) : StO 0 (stD ns 1 x 0) := ⟨ns, 1, x, 0, rfl, by omega, by omega, by omega⟩
/-- the call of a def on the state -/
theorem w_callS {n : Nat} {f : List D → M D} {ds : List D} {o : D} {r : Sto} {Q : D → Sto → Prop} {X : Ex → Sto → Prop} (P : D → D → Prop) (hf : ∃ d o', P d o' ∧ Pu d ∧ Pu o' ∧ f (.ob 0 :: ds) [o] = .ok d [o']) (hl : ds.length + 1 = n) (ho : Pu o) (hp : PuL ds) (k : ∀ d o', P d o' → Q d (o' :: r)) : Wp (callV n f (.ob 0 :: ds) (o :: r)) Q X := by
  obtain ⟨d, o', p, hd, ho', e⟩ := hf
  have h := callV_ob (n := n) (k := 0) (μ := o :: r) hl rfl ho hp e hd ho'
  rw [h]
  exact .ok (k d o' p)
end Vl

/-! own instances as truth values, != and == with a tuple; list.insert -/
namespace Ow
open PySem PySem.Spec PyProof.Rows L2
section
variable {prog : Program} {w : World} {A : Around} {E : Value → Shared → Prop} {s : Shared} {K : PySem.W.Frag} {x C L f : Addr} {h₀ : Heap} {m : Str → Option Value} {ox : Obj} {od : Option Obj}
theorem truthy_KL {Q : Bool → Shared → Prop} (F : Fr h₀ L s.heap m) (X₀ : K.In h₀) (I : PySem.W.InstAt s.heap x ox C od) (hb : PySem.W.findIn K (.ref C) "__bool__" = some none) (hs : PySem.W.findIn K (.ref C) "__len__" = some (some (.ref f))) (hf : PySem.W.isFn K (.ref f) = true)
    (h : wpAny (model prog w) A.in1 (call (.ref f) [.ref x]) (PySem.W.LenBack fun v s' => ∃ n t, v = .int n t ∧ Q (n != 0) s') E s) : wpAny (model prog w) A (truthy (.ref x)) Q E s := by
  have X := X₀.keeps F.keep
  unfold truthy
  refine wpAny_bind (m := callSpecial? (.ref x) (Str.ofString "__bool__")) (wpAny_bind (wpAny_bind (I.type.here ((PySem.W.looks_findIn X hb).here (wpAny_pure ?_)))))
  refine wpAny_bind (wpAny_bind (I.type.here ((PySem.W.looks_findIn X hs).here ?_)))
  show wpAny _ _ (if (some (Value.ref f)).isNone = true then _ else _) _ _ _
  rw [if_neg (by simp)]
  have key : wpAny (model prog w) A (runValue (.builtin "len" ⟨[.ref x], []⟩)) (fun r s' => ∃ n t, r = .int n t ∧ Q (n != 0) s') E s := by
    refine wpAny_runValue (codeAny_builtin entry_len ?_)
    rw [Around.under_plainId plain_len _]
    refine wpAny_mono (Q := fun fin s' => ∃ r, fin = .done (.ret r) ∧ ∃ n t, r = .int n t ∧ Q (n != 0) s') ?_ (fun fin s' h' => by obtain ⟨r, rfl, hq⟩ := h'; exact hq) fun _ _ e => e
    unfold Builtin.«len»
    refine wpAny_bind (m := oneArg "len" _) (wpAny_pure ?_)
    refine wpAny_bind (m := callSpecial? (.ref x) (Str.ofString "__len__")) (PySem.W.special_fn X I hs (beq_iff_eq.mp hf) (wpAny_mono h (fun r s' hr => ?_) fun _ _ y => y))
    cases r <;> first | exact hr.elim | skip
    rename_i n u
    obtain ⟨⟨h0, h1⟩, hq⟩ := hr
    refine wpAny_bind (wpAny_holding (wpAny_pure ?_))
    refine wpAny_bind (wpAny_letGo ?_)
    show wpAny _ _ (if n < 0 then _ else _) _ _ _
    rw [if_neg (by omega)]
    show wpAny _ _ (if n ≥ 2 ^ 63 then _ else _) _ _ _
    rw [if_neg (by omega)]
    exact wpAny_bind (wpAny_mkInt (wpAny_pure ⟨_, rfl, hq⟩))
  refine wpAny_bind (wpAny_mono key (fun r s' h' => ?_) fun _ _ e => e)
  obtain ⟨n, t, rfl, hq⟩ := h'
  exact wpAny_pure hq
end
section
variable {X : Cx} {CX : CXT} {k : Nat} {C f : Addr} {fd : FuncData} {ps : List Str} {sp : Sp} {E : XK} {pos : Pos} {a : Expr} {ta : TE}
/-- a def called somewhere below the body -/
theorem run_at {A : Around} {pins : List (Addr × Obj)} {σ : L2.St} {H : Hp} {s : Shared} {Q : VK} {us : List Value} {vs : List V} (F : FnOk X.prog X.w X.K X.mg X.base CX k f fd ps sp) (hr : Room k A) (e0 : Env0 X.prog X.w X.K X.mg X.base A X.stack s H) (hb : Binds X.K fd ps []) (hx : Passes CX X E)
    (I : Inv X pins σ H s) (r : Vals vs us) (h : sp vs H Q E) : wpAny (model X.prog X.w) A (call (.ref f) us) (EP X pins σ Q) X.xe s := by
  have hl : (us ++ []).length = ps.length := by rw [List.append_nil, ← r.length]; exact F.len _ _ _ _ h
  have hbs := hb s us I.kIn hl
  rw [List.append_nil] at hbs
  refine wpAny_call (codeAny_mono (F.run A X.stack s H ⟨us, []⟩ us vs Q E hr e0 hbs r h) fun r s' hq => ?_)
  cases r with
  | error e => exact hx pins σ H s e s' I hq
  | ok fl =>
    cases fl with
    | ret u => exact I.after hq
    | next => exact False.elim hq
    | brk => exact False.elim hq
    | cont => exact False.elim hq
/-- the truth of o by the class's own __len__ -/
def tOwnT (C : Addr) (sp : Sp) (E : XK) (a : Addr) (H : Hp) (Q : Bool → Hp → Prop) : Prop := ∃ dx fs, H a = some (.ins C dx fs) ∧ sp [.ref a] H (fun v H' => ∃ n : Nat, v = .int n ∧ n < 2 ^ 63 ∧ Q ((n : Int) != 0) H') E
theorem own_truth {A : Around} {pins : List (Addr × Obj)} {σ : L2.St} {H : Hp} {s : Shared} {Q : Bool → Hp → Prop} {b : Addr} (G : Dun X.prog X.w X.K X.mg X.base CX k C "__len__" ps sp) (hr : Room (k + 1) A) (e0 : Env0 X.prog X.w X.K X.mg X.base A X.stack s H) (hx : Passes CX X E) (hnb : PySem.W.findIn X.K (.ref C) "__bool__" = some none)
    (I : Inv X pins σ H s) (h : tOwnT C sp E b H Q) : wpAny (model X.prog X.w) A (truthy (.ref b)) (fun c s' => ∃ H', Inv X pins σ H' s' ∧ Q c H') X.xe s := by
  obtain ⟨f, fd, hs, hf, hk, hb, F⟩ := G
  obtain ⟨dx, fs, ha, q⟩ := h
  obtain ⟨mA, J, _⟩ := ins_get I.hok ha
  obtain ⟨oa, J, _⟩ := J.look
  obtain ⟨m, hF⟩ := I.fr
  refine truthy_KL hF I.ok.mod.kin J hnb hs hf (wpAny_mono (run_at (us := [.ref b]) (vs := [.ref b]) F hr.in1 e0.in1 hb hx I (.cons rfl .nil) q) (fun v s' z => ?_) fun _ _ z => z)
  obtain ⟨w, H', I', rw', n, rfl, hn, q'⟩ := z
  obtain ⟨t, rfl⟩ := rw'
  exact ⟨⟨by omega, by omega⟩, (n : Int), _, rfl, H', I'.tok _, q'⟩
/-- not o -/
def tNotO (C : Addr) (sp : Sp) (E : XK) (ta : TE) : TE := fun σ H Q => ta σ H fun v H1 => ∃ b, v = V.ref b ∧ tOwnT C sp E b H1 fun c H2 => Q (.bl (!c)) H2
theorem pe_notO (G : Dun X.prog X.w X.K X.mg X.base CX k C "__len__" ps sp) (hr : Room (k + 1) X.A) (hx : Passes CX X E) (hnb : PySem.W.findIn X.K (.ref C) "__bool__" = some none) (ha : PE X a ta) : PE X (.UnaryOp .Not a pos) (tNotO C sp E ta) := by
  refine ⟨fun pins s σ H Q I h => ?_⟩
  refine UnaryOp_ (thn (ha.run pins s σ H _ I h) fun v s1 ⟨x, H1, I1, r1, q1⟩ => ?_)
  obtain ⟨b, rfl, q1⟩ := q1
  obtain rfl : v = .ref b := r1
  exact not_of (thn (own_truth G hr I1.env0 hx hnb I1 q1) fun c s2 ⟨H2, I2, q2⟩ => ⟨.bl (!c), H2, I2, rfl, q2⟩)
/-- bool(o) -/
def rOwnBool (C : Addr) (sp : Sp) (E : XK) : List V → Hp → VK → Prop := fun xs H Q => ∃ a, xs = [.ref a] ∧ tOwnT C sp E a H fun c H' => Q (.bl c) H'
theorem od_bool (G : Dun X.prog X.w X.K X.mg X.base CX k C "__len__" ps sp) (hr : Room (k + 3) X.A) (hx : Passes CX X E) (hnb : PySem.W.findIn X.K (.ref C) "__bool__" = some none) : CallR X (.type "bool") (rOwnBool C sp E) := by
  intro pins s σ H xs us Q I r h
  obtain ⟨a, rfl, q⟩ := h
  rw [Vals.ref1 r]
  refine callType_newIn (S := fun A' R s' => A' = X.A.in1 ∧ s' = s ∧ (∀ c s2, (∃ H', Inv X pins σ H' s2 ∧ Q (.bl c) H') → R (.ok (.ret (.bool c))) s2) ∧ (∀ e s2, X.xe e s2 → R (.error e) s2)) F.called_bool F.newNe_bool (F.typeCall_bool_1 _) (F.newCall_bool_1 _) (fun obj => F.args_object_init_2 obj _) F.entry_bool_new ?_ ⟨rfl, rfl, fun c s2 ⟨H', I', q'⟩ => ⟨rfl, .bl c, H', I', rfl, q'⟩, fun e s2 h => h⟩
  intro A' R s' ⟨hA, hs, ok, er⟩
  subst hA hs
  have f1 := F.conv_sub_bool
  have tr := own_truth G (hr.in1).in1 I.env0.in1.in1 hx hnb I q
  unfold Builtin.«bool.__new__»
  repeat (any_goals (first | assumption | (with_reducible refine wpAny_bind (wpAny_mono tr (fun c s2 hz => ?_) fun e s2 hz => er e s2 hz)) | wp_step))
  all_goals exact ok c s2 hz
/-- o == a tuple, by the class's own __eq__ -/
def rEqTup (C : Addr) (sp : Sp) (E : XK) : R2 := fun x y H Q => ∃ a b dx fs vs, x = .ref a ∧ y = .ref b ∧ H a = some (.ins C dx fs) ∧ SqT X.K H b vs ∧ sp [x, y] H Q E
theorem od_eqTup (G : Dun X.prog X.w X.K X.mg X.base CX k C "__eq__" ps sp) (hr : Room k X.A) (hx : Passes CX X E) (hn : PySem.W.notFirst X.K C (.type "tuple") = true) : OpR X (compareOp .Eq) (rEqTup (X := X) C sp E) := by
  obtain ⟨f, fd, hs, hf, hk, hb, F⟩ := G
  intro pins s σ H x y v u Q I rx ry h
  obtain ⟨m, hF⟩ := I.fr
  obtain ⟨a, b, dx, fs, vs, rfl, rfl, ha, hy, q⟩ := h
  obtain ⟨mA, J, _⟩ := ins_get I.hok ha
  obtain ⟨oa, J, _⟩ := J.look
  cases rx
  cases ry
  obtain ⟨its, _, ⟨o, ho, hc, _⟩, _⟩ := I.tuple hy
  show wpAny (model X.prog X.w) X.A (richCompare .Eq (.ref a) (.ref b)) (EP X pins σ Q) X.xe s
  refine PySem.W.cmp_K (op := .Eq) (tb := .type "tuple") hr.units0 hF I.ok.mod.kin J (hc ▸ (PySem.W.Looks.ld ho).andThen .now) hn hs hf ?_
  exact wpAny_mono (run_fn (us := [.ref a, .ref b]) (vs := [.ref a, .ref b]) F hr hb .nil hx I (.cons rfl (.cons rfl .nil)) q) (fun _ _ z => epBack z) fun _ _ z => z
end
end Ow
namespace Vl
open PySem PySem.Spec PyProof.Rows L2
def insertD (o : D) (xs : List D) : M D := fun μ => match o, xs with
  | .ob k, [.int i, y] => match μ[k]? with
    | some (.lst ys) => M.guard (decide (ys.length < many) && (decide (0 ≤ i) && decide (i < 4611686018427387904))) (fun μ => .ok .non (μ.set k (.lst (ys.take i.toNat ++ [y] ++ ys.drop i.toNat)))) μ
    | _ => .bad
  | _, _ => .bad
def ownNe (C : Str) (f : List D → M D) (x y : D) : M D := fun μ => match look μ x, look μ y with
  | .ins C1 _ _, .ins C2 _ _ => M.guard (C1 == C && C2 == C) (M.bind (calmM (callV 2 f [x, y])) fun b => match b with
    | .bl c => M.pure (.bl (!c))
    | _ => M.fail) μ
  | _, _ => .bad
def ownEqT (C : Str) (f : List D → M D) (x y : D) : M D := fun μ => match look μ x, look μ y with
  | .ins C1 _ _, .tup _ => M.guard (C1 == C) (calmM (callV 2 f [x, y])) μ
  | _, _ => .bad
/-- the truth by the own __len__, turned by s -/
def ownTr (s : Bool → Bool) (C : Str) (f : List D → M D) (x : D) : M D := fun μ => match look μ x with
  | .ins C1 _ _ => M.guard (C1 == C) (M.bind (calmM (callV 1 f [x])) fun b => match b with
    | .int n => M.guard (decide (0 ≤ n) && decide (n < 9223372036854775808)) (M.pure (.bl (s (n != 0))))
    | _ => M.fail) μ
  | _ => .bad
def ownBool (C : Str) (f : List D → M D) (xs : List D) : M D := match xs with
  | [x] => ownTr id C f x
  | _ => M.fail
section
variable {K : PySem.W.Frag} {φ : Addr → Prop} {ρ : List Addr} {μ : Sto} {H : Hp}
theorem of_insert {v : V} {vs : List V} {x : D} {xs : List D} {Q : VK} {W : XK} (hr : Rep K φ ρ μ H) (hx : VIs K φ ρ H v x) (hv : VsIs K φ ρ H vs xs) (p : Post K (VIs K) φ ρ H Q W (insertD x xs μ)) : ∃ (l : Addr) (xs : List V) (i : Int) (y : V), v = .ref l ∧ vs = [.int i, y] ∧ H l = some (.lst xs) ∧ xs.length < sizeLine ∧ 0 ≤ i ∧ i < 2 ^ 63 ∧ Q .non (upd H l (.lst (xs.take i.toNat ++ [y] ++ xs.drop i.toNat))) := by
  unfold insertD at p
  split at p
  · rename_i k i y
    split at p
    · rename_i ys q
      obtain ⟨c, pp⟩ := guard_post p
      obtain ⟨c0, c⟩ := Bool.and_eq_true_iff.mp c
      obtain ⟨c1, c2⟩ := Bool.and_eq_true_iff.mp c
      have c0 := of_decide_eq_true c0
      have c1 := of_decide_eq_true c1
      have c2 := of_decide_eq_true c2
      cases hv with
      | cons hi hv =>
        obtain ⟨w, rfl, hw⟩ := hv.one
        have hi := hi.intE
        subst hi
        cases hx with
        | obj h n => cases h
        | @ob _ b hb =>
          cases hr.at hb q with
          | @lst _ us _ e1 e2 =>
            refine ⟨b, us, i, w, rfl, rfl, e1, ?_, c1, by omega, ?_⟩
            · have := many_line (Nat.le_of_lt c0)
              rw [e2.length]
              exact this
            · exact pp _ _ _ _ (rep_put hr hb e1 (fun _ _ z => nomatch z) fun w h => .lst h ((((e2.take i.toNat).append (.cons hw .nil)).append (e2.drop i.toNat)).way w (mapMuts_id _ _ fun _ _ => rfl))) .non
    · exact p.elim
  · exact p.elim
theorem of_ownNe {C : Str} {f : List D → M D} : OpF K (Ow.rNeI (He.ga K C) (He.ga K C) (spF K 2 f) (fun _ _ _ => False)) (ownNe C f) := by
  intro φ ρ μ H v w x y Q W hr hv hw p
  unfold ownNe at p
  cases q : look μ x <;> rw [q] at p <;> first | (cases look μ y <;> exact p.elim) | skip
  cases q2 : look μ y <;> rw [q2] at p <;> first | exact p.elim | skip
  obtain ⟨c, pp⟩ := guard_post p
  obtain ⟨c1, c2⟩ := Bool.and_eq_true_iff.mp c
  have c1 := beq_iff_eq.mp c1
  have c2 := beq_iff_eq.mp c2
  subst c1 c2
  obtain ⟨a, dx, us, e1, e2, e3, e4⟩ := hv.lookI hr q
  obtain ⟨b, dy, ws, g1, g2, g3, g4⟩ := hw.lookI hr q2
  refine ⟨a, b, dx, dy, _, _, e1, g1, e2, g2, ?_⟩
  rw [← e1, ← g1]
  refine callV_ok hr (.cons hv (.cons hw .nil)) ?_
  cases r : callV 2 f [x, y] μ with
  | bad => rw [bind_bad (calm_bad r)] at pp; exact pp
  | exc z m => rw [bind_bad (calm_exc r)] at pp; exact pp.elim
  | ok d m =>
    rw [bind_ok (calm_ok r)] at pp
    cases d <;> first | exact pp.elim | skip
    exact fun φ1 ρ1 u H1 l h => ⟨_, h.blE, pp _ _ _ _ l (.bl _)⟩
theorem ownTr_ok {s : Bool → Bool} {C : Str} {f : List D → M D} {v : V} {x : D} {Q : VK} {W : XK} (hr : Rep K φ ρ μ H) (h : VIs K φ ρ H v x) (p : Post K (VIs K) φ ρ H Q W (ownTr s C f x μ)) : ∃ a, v = .ref a ∧ Ow.tOwnT (He.ga K C) (spF K 1 f) (fun _ _ _ => False) a H fun c H1 => Q (.bl (s c)) H1 := by
  unfold ownTr at p
  cases q : look μ x <;> rw [q] at p <;> first | exact p.elim | skip
  obtain ⟨c, pp⟩ := guard_post p
  have c1 := beq_iff_eq.mp c
  subst c1
  obtain ⟨b, dy, ws, g1, g2, g3, g4⟩ := h.lookI hr q
  refine ⟨b, g1, dy, _, g2, ?_⟩
  rw [← g1]
  refine callV_ok hr (.cons h .nil) ?_
  cases r : callV 1 f [x] μ with
  | bad => rw [bind_bad (calm_bad r)] at pp; exact pp
  | exc z m => rw [bind_bad (calm_exc r)] at pp; exact pp.elim
  | ok d m =>
    rw [bind_ok (calm_ok r)] at pp
    cases d <;> first | exact pp.elim | skip
    rename_i n
    obtain ⟨cc, pp⟩ := guard_post pp
    obtain ⟨c1, c2⟩ := Bool.and_eq_true_iff.mp cc
    have c1 := of_decide_eq_true c1
    have c2 := of_decide_eq_true c2
    have en : ((n.toNat : Nat) : Int) = n := by omega
    exact fun φ1 ρ1 u H1 l h => ⟨n.toNat, by rw [en]; exact h.intE, by omega, by rw [en]; exact pp _ _ _ _ l (.bl _)⟩
theorem of_ownBool {C : Str} {f : List D → M D} : CaF K (Ow.rOwnBool (He.ga K C) (spF K 1 f) (fun _ _ _ => False)) (ownBool C f) := by
  intro φ ρ μ H vs xs Q W hr hv p
  match xs, hv, p with
  | [], hv, p => exact p.elim
  | _ :: _ :: _, hv, p => exact p.elim
  | [x], hv, p =>
    obtain ⟨v, rfl, h⟩ := hv.one
    obtain ⟨a, rfl, z⟩ := ownTr_ok (s := id) hr h p
    exact ⟨a, rfl, z⟩
theorem of_eqTup {X : Cx} {C : Str} {f : List D → M D} (hK : X.K = K := by rfl) : OpF K (Ow.rEqTup (X := X) (He.ga K C) (spF K 2 f) (fun _ _ _ => False)) (ownEqT C f) := by
  subst hK
  intro φ ρ μ H v w x y Q W hr hv hw p
  unfold ownEqT at p
  cases q : look μ x <;> rw [q] at p <;> first | (cases look μ y <;> exact p.elim) | skip
  cases q2 : look μ y <;> rw [q2] at p <;> first | exact p.elim | skip
  obtain ⟨c, pp⟩ := guard_post p
  have c1 := beq_iff_eq.mp c
  subst c1
  obtain ⟨a, dx, us, e1, e2, e3, e4⟩ := hv.lookI hr q
  obtain ⟨b, ws, g1, g2, g3⟩ := hw.lookT hr q2
  exact ⟨a, b, dx, _, ws, e1, g1, e2, g2, callV_ok hr (.cons hv (.cons hw .nil)) (calm_post pp)⟩
end
section
variable {X : Cx} {K : PySem.W.Frag} {W : L2.St → XK} {k n : Nat} {C : Str} {ps : List Str} {f : List D → M D} {a e o : Expr} {es : List Expr} {p pos apos : Pos} {r : AF} {fo fa : EF}
theorem fNotO (G : Ow.Dun X.prog X.w X.K X.mg X.base (L2.CX X.prog X.w) k (He.ga K C) "__len__" ps (spF K 1 f)) (hr : Room (k + 1) X.A) (hnb : PySem.W.findIn X.K (.ref (He.ga K C)) "__bool__" = some none) (ha : PE X a (tE K W fa)) (hK : X.K = K := by rfl) : PE X (.UnaryOp .Not a pos) (tE K W (eUn (ownTr (fun c => !c) C f) fa)) := by
  subst hK
  refine (Ow.pe_notO G hr passF hnb ha).vimp fun σ H Q ⟨φ, ρ, Γ, μ, he, hr, p⟩ => stepE he hr p fun l1 he h1 p => ?_
  exact ownTr_ok l1.rep h1 p
theorem fInsert {cpos : Pos} (ho : PE X o (tE K W fo)) (ha : PA X (e :: es) (tA K W r)) (hK : X.K = K := by rfl) (hbase : attributeBase o "insert" X.env (eval o X.env) = eval o X.env := by rfl)
    (hfew : ((backTo cpos (starEach (e :: es) X.env)).all (fun x => !x.1) && (backToKw cpos (keywordEach [] X.env)).all (fun x => x.1.isSome) && decide ((e :: es).length + ([] : List Keyword).length + (if ([] : List Keyword).isEmpty then 0 else 1) < 30)) = true := by rfl)
    (hline : (apos.endLine == cpos.line) = true := by rfl) (hs : starEach (e :: es) X.env = (false, eval e X.env) :: starEach es X.env := by rfl) (hplain : (backTo cpos (starEach es X.env)).any (·.1) = false := by rfl) :
    PE X (.Call (.Attribute o "insert" apos) (e :: es) [] cpos) (tE K W (eLM insertD fo r)) := by
  subst hK
  refine (pe_bm PySem.F.plainAttrs_list PySem.F.slot_list_insert PySem.F.type_list_insert mt_insert ho ha hbase hfew hline hs hplain).vimp fun σ H Q ⟨φ, ρ, Γ, μ, he, hr, p⟩ => stepE he hr p fun l1 he h1 p => ?_
  obtain ⟨t, p⟩ := isList_post l1.rep h1 p
  exact ⟨t, stepA he l1.rep p fun l2 he h2 p => of_insert l2.rep (l2.val l1.rep h1) h2 p⟩
end
end Vl

/-! comprehensions that draw, lists of the store -/
namespace Vl
open PySem PySem.Spec PyProof.Rows L2
theorem wfPu {μ : Sto} (h : PuL μ) : Wf μ := fun k hk => by rw [show mutsL μ = [] from h] at hk; cases hk
section
variable {Γ : Env} {μ : Sto} {X : Ex → Sto → Prop}
theorem w_lcG0 {b : D → M (Option D)} {A : List D → Sto → Prop} : ∀ {xs : List D} {acc : List D} {μ : Sto} (I : Nat → List D → Sto → Prop), acc.length + xs.length ≤ many → I 0 acc μ → (∀ i x a μ, xs[i]? = some x → I i a μ → Wp (b x μ) (fun r μ => I (i + 1) (a ++ r.toList) μ) X) → (∀ a μ, I xs.length a μ → A a μ) → Wp (lcL b xs acc μ) A X
  | [], acc, μ, I, _, h, _, k => .ok (k _ _ h)
  | x :: xs, acc, μ, I, l, h, step, k => by
    show Wp (M.bind (b x) _ μ) A X
    rw [w_bind]
    refine (step 0 x acc μ rfl h).imp (fun r m hr => ?_) fun _ _ h => h
    have go : ∀ acc', acc'.length + xs.length ≤ many → I 1 acc' m → Wp (lcL b xs acc' m) A X := fun acc' l' h1 => w_lcG0 (fun i => I (i + 1)) l' h1 (fun i y a μ hy hi => step (i + 1) y a μ (by simpa using hy) hi) k
    cases r with
    | none =>
      refine go acc (by simp only [List.length_cons] at l; omega) ?_
      simpa using hr
    | some d =>
      dsimp only
      have lt : acc.length < many := by simp only [List.length_cons] at l; omega
      rw [decide_eq_true lt, x_guardT]
      exact go (acc ++ [d]) (by simp only [List.length_cons, List.length_append, List.length_nil] at l ⊢; omega) hr
theorem w_lcG {b : D → M (Option D)} {A : List D → Sto → Prop} {xs : List D} (I : Nat → List D → Sto → Prop) (l : xs.length ≤ many) (h : I 0 [] μ) (step : ∀ i x a μ, xs[i]? = some x → I i a μ → Wp (b x μ) (fun r μ => I (i + 1) (a ++ r.toList) μ) X) (k : ∀ a μ, I xs.length a μ → A a μ) : Wp (lcL b xs [] μ) A X := w_lcG0 I (by simpa using l) h step k
/-- the body of a comprehension, whatever it does -/
theorem w_bodyG {vs : List Nat} {i : Nat} {t : TF} {e : EF} {x : D} {R : Option D → Sto → Prop} (h : Wp (t ((wipeD Γ vs).set i (some x)) μ) (fun b m => Cd b (Wp (e ((wipeD Γ vs).set i (some x)) m) (fun d m => R (some d) m) fun _ _ => False) (R none m)) fun _ _ => False) : Wp (lcB vs (gN i) t e Γ x μ) R X := by
  rw [lcBW, x_gN, w_ok]
  refine w_calm (h.imp (fun b m h => ?_) fun _ _ h => h)
  cases b with
  | false => exact .ok h
  | true =>
    show Wp (M.bind _ _ _) _ _
    rw [w_bind]
    exact w_calm (Wp.imp h (fun d m h => .ok h) fun _ _ h => h)
@[simp ↓] theorem w_lm (g : D → List D → M D) (o : EF) (r : AF) {Q : D → Sto → Prop} : Wp (eLM g o r Γ μ) Q X = Wp (o Γ μ) (fun x μ => Wp (isListD x μ) (fun _ μ => Wp (r Γ μ) (fun xs μ => Wp (g x xs μ) Q X) X) X) X := by
  show Wp (M.bind (o Γ) (fun x => M.bind (isListD x) fun _ => M.bind (r Γ) fun xs => g x xs) μ) Q X = _
  simp only [w_bind]
end
theorem isList_ob {k : Nat} {ys : List D} {μ : Sto} (h : μ[k]? = some (.lst ys)) : isListD (.ob k) μ = .ok () μ := by
  unfold isListD
  rw [x_look_ob, h]
  rfl
theorem append_ob {k : Nat} {ys : List D} {y : D} {μ : Sto} (h : μ[k]? = some (.lst ys)) (l : ys.length < 1000) : appendD (.ob k) [y] μ = .ok .non (μ.set k (.lst (ys ++ [y]))) := by
  show (match μ[k]? with | some (.lst ys) => M.guard (decide (ys.length < many)) (fun μ => O.ok D.non (μ.set k (.lst (ys ++ [y])))) μ | _ => .bad) = _
  rw [h]
  dsimp only
  rw [decide_eq_true (show ys.length < many by unfold many; omega)]
  rfl
theorem insert_ob {k : Nat} {ys : List D} {y : D} {i : Int} {μ : Sto} (h : μ[k]? = some (.lst ys)) (l : ys.length < 1000) (h0 : 0 ≤ i) (h1 : i < 4611686018427387904) : insertD (.ob k) [.int i, y] μ = .ok .non (μ.set k (.lst (ys.take i.toNat ++ [y] ++ ys.drop i.toNat))) := by
  show (match μ[k]? with | some (.lst ys) => M.guard (decide (ys.length < many) && (decide (0 ≤ i) && decide (i < 4611686018427387904))) (fun μ => O.ok D.non (μ.set k (.lst (ys.take i.toNat ++ [y] ++ ys.drop i.toNat)))) μ | _ => .bad) = _
  rw [h]
  dsimp only
  rw [decide_eq_true (show ys.length < many by unfold many; omega), decide_eq_true h0, decide_eq_true h1]
  rfl
theorem len_ob {k : Nat} {ys : List D} {μ : Sto} (h : μ[k]? = some (.lst ys)) : lenD [.ob k] μ = .ok (.int (ys.length : Nat)) μ := by
  show (match look μ (.ob k) with | .lst ys => M.pure (D.int (ys.length : Nat)) | .scr ys => M.pure (.int (ys.length : Nat)) | .tup ys => M.pure (.int (ys.length : Nat)) | .str z => M.guard (decide (z.length ≤ many)) (M.pure (.int (z.length : Nat))) | _ => M.fail) μ = _
  rw [x_look_ob, h]
  rfl
theorem eqD_obL {k : Nat} {x y : D} {μ : Sto} (h : μ[k]? = some x) (hx : Pu x) (hy : Pu y) : eqD (.ob k) y μ = eqD x y μ := by
  have e : eqO μ (.ob k) y = eqO μ x y := by
    show (deep μ 20 (.ob k)).bind (fun x => (deep μ 20 y).bind fun y => (toPy x).bind fun a => (toPy y).bind fun b => bif SeqAt.shaped a && SeqAt.shaped b then some (PyData.eqv a b) else none) = (deep μ 20 x).bind (fun x => (deep μ 20 y).bind fun y => (toPy x).bind fun a => (toPy y).bind fun b => bif SeqAt.shaped a && SeqAt.shaped b then some (PyData.eqv a b) else none)
    have d1 : deep μ 20 (.ob k) = some x := by
      show (μ[k]?).bind (deep μ 19) = _
      rw [h]
      exact deep_pu hx μ 18
    rw [d1, deep_pu hx μ 19]
  show M.opt (eqO μ (.ob k) y) μ = M.opt (eqO μ x y) μ
  rw [e]
/-- C(xs), xs a list of the store -/
theorem makeV_two {C : Str} {f : List D → M D} {o x r : D} (hf : f [.ob 0, .ob 1] [.ins C [] [], x] = .ok .non [r, x]) (ho : Pu o) (hx : Pu x) (hr : Pu r) : makeV C 2 f false [] [.ob 1] [o, x] = .ok r [o, x] := by
  have call : callV 2 f [.ob 2, .ob 1] [o, x, .ins C [] []] = .ok .non [o, x, r] := by
    unfold callV
    rw [show ([D.ob 2, .ob 1].length == 2) = true from rfl, x_guardT]
    have e3 : reach [o, x, .ins C [] []] 1000 (mutsL [.ob 2, .ob 1]) [] = [2, 1] := by
      show reach [o, x, .ins C [] []] 998 (([] ++ muts x)) [2, 1] = _
      rw [show muts x = [] from hx]
      rfl
    dsimp only
    rw [e3]
    have e4 : mapMuts (fun k => (idx? [2, 1] k).map D.ob) [.ob 2, .ob 1] = some [.ob 0, .ob 1] := rfl
    rw [e4]
    dsimp only
    have e5 : (getAll [o, x, .ins C [] []] [2, 1]).bind (mapMuts fun k => (idx? [2, 1] k).map D.ob) = some [.ins C [] [], x] := by
      show mapMuts _ [.ins C [] [], x] = _
      exact PuL.map (puL2 (x := .ins C [] []) rfl hx) _
    rw [e5]
    dsimp only
    rw [hf]
    dsimp only
    have e7 : mapMuts (backN [2, 1] [o, x, D.ins C [] []].length) [r, x] = some [r, x] := PuL.map (puL2 hr hx) _
    rw [puNon.map, e7]
    rfl
  show (match callV 2 f [.ob 2, .ob 1] [o, x, .ins C [] []] with | .ok .non μ2 => finish false 2 (.ob 2) μ2 | .exc x μ2 => finishX false 2 x μ2 | _ => .bad) = _
  rw [call]
  dsimp only
  unfold finish
  have f1 : mapMut (fz 2 [o, x, r] 20) (.ob 2) = some r := hr.map _
  have f2 : mapMuts (fz 2 [o, x, r] 20) ([o, x, r].take 2) = some [o, x] := PuL.map (puL2 ho hx) _
  rw [f1, f2]
  rfl
/-- what a def gives that hands out a list of the store -/
def OutM (P : D → D → Prop) (f : Fl) (m : Sto) : Prop := ∃ d o' x r k, f = .rt (.ob (k + 1)) ∧ m = o' :: r ∧ r[k]? = some x ∧ d = x ∧ Pu d ∧ Pu o' ∧ P d o'
theorem OutM.rt {P : D → D → Prop} {x o' : D} {r : Sto} {k : Nat} (h : r[k]? = some x) (hd : Pu x) (ho : Pu o') (hp : P x o') : OutM P (.rt (.ob (k + 1))) (o' :: r) := ⟨x, o', x, r, k, rfl, rfl, h, rfl, hd, ho, hp⟩
theorem fun_wpM {N : Nat} {b : SF} {ds : List D} {o : D} (P : D → D → Prop) (h : Wp (b (env0 N ds) [o]) (OutM P) fun _ _ => False) : ∃ d o', P d o' ∧ Pu d ∧ Pu o' ∧ funF false N b ds [o] = .ok d [o'] := by
  cases q : b (env0 N ds) [o] with
  | bad => rw [q] at h; cases h
  | exc _ _ => rw [q, w_exc] at h; cases h
  | ok f m =>
    rw [q, w_ok] at h
    obtain ⟨d, o', x, r, k, rfl, rfl, hx, rfl, hd, ho, hp⟩ := h
    refine ⟨d, o', hp, hd, ho, ?_⟩
    unfold funF
    rw [q]
    dsimp only
    unfold Vl.finish
    have e : mapMuts (fz [o].length (o' :: r) 20) ((o' :: r).take [o].length) = some [o'] := PuL.map (puL1 ho) _
    have e2 : mapMut (fz [o].length (o' :: r) 20) (.ob (k + 1)) = some d := by
      show (bif decide (k + 1 < 1) then some (D.ob (k + 1)) else ((o' :: r)[k + 1]?).bind (mapMut (fz 1 (o' :: r) 19))) = _
      rw [decide_eq_false (by omega), List.getElem?_cons_succ, hx]
      exact hd.map _
    rw [e, e2]
    rfl
end Vl

/-! exceptions of own classes as values -/
namespace Vl
open PySem PySem.Spec PyProof.Rows L2
section
variable {prog : Program} {w : World} {A : Around} {R : Result → Shared → Prop} {h : Heap} {g : Array GenState} {d : Drawn} {t : Nat} {os : OsState} {B newId initId : String} {bmB : List Value} {C N : Addr} {nma q : Str} {bs bm : List Value} {hdct : Bool} {sn : List Str} {sub : List Value} {ab : Bool} {col : Option Bool} {dd : Option Addr} {k0 k1 k2 k3 k5 : Option Value}
def excD (C : Addr) (dx : Option Addr) (t0 : Addr) : Obj := { cls := .ref C, dict := dx, data := .fields #[.ref t0, .none, .none, .none, .bool false, .none] }
theorem init_baseD (F : ExcBaseFacts B newId initId bmB) (hT : ∀ X : String, bm.contains (.type X) = bmB.contains (.type X)) {ea t0 : Addr} {dx : Option Addr} {rest : List Value}
    (hC : h.get? C = some (excClassObj nma q C N bs bm hdct sn sub ab col dd k0 k1 k2 k3 k5 newId)) (he : h.get? ea = some (excD C dx t0)) (hrest : rest.length ≤ sizeLine)
    (hqa : ∀ h' t1, (∀ b o, b ≠ ea → h.get? b = some o → h'.get? b = some o) → h'.get? ea = some (excD C dx t1) → R (.ok (.ret .none)) ⟨h', g, d, t, os⟩) :
    codeAny (model prog w) A (.call (.builtin initId) ⟨.ref ea :: rest, []⟩) R ⟨h, g, d, t, os⟩ := by
  unfold excD at he hqa
  refine codeAny_call_builtin F.init.plain F.initEntry (HandSPX.check_init_own F hT hC he rfl ?_)
  wp_walk
  refine hqa _ h.objs.size (fun b o hb hoa => ?_) ?_
  · rw [Heap.get?_update_other _ _ (Ne.symm hb)]
    exact Heap.get?_push_of_some _ hoa
  · rw [Heap.get?_update_self _ (Heap.get?_push_of_some _ he) rfl]
    rfl
end
section
variable {X : Cx} {pns : List (Addr × Obj)} {σ : L2.St} {H : Hp} {s : Shared} {A : Around} {E : Value → Shared → Prop} {a C : Addr}
theorem oinit_any {d : Option Addr} {as_ : List Value} {Q : Value → Shared → Prop} (T : OexC X.K C) (I : Inv X pns σ H s) (e : H a = some (exo a C d)) (hl : as_.length ≤ sizeLine) (h : ∀ s', Inv X pns σ H s' → Q .none s') :
    wpAny (model X.prog X.w) A (call (.builtin "ValueError.__init__") (.ref a :: as_)) Q E s := by
  obtain ⟨nma, q, N, bs, bm, sn, sub, ab, col, dd, k0, k1, k2, k3, k5, hC, hbm⟩ := T.cls
  obtain ⟨t1, hoa⟩ := exo_at I.hok e
  obtain ⟨hh0, g, d', t, os⟩ := s
  refine wpAny_call (init_baseD F.excBase_ValueError (fun Y => PySem.HandSPX.refsVE_contains Y bm hbm) (I.kIn _ _ hC) hoa hl fun h' t2 k hx => ?_)
  have J := I.write (t' := t) (x := a) (e := a) (o := exo a C d) (by rw [e]; exact True.intro) (.inl rfl) k ⟨_, hx⟩ (exo_ok hx)
  have eu : upd H a (exo a C d) = H := by
    funext b
    by_cases hb : b = a
    · rw [hb, upd_same, e]
    · rw [upd_ne hb]
  rw [eu] at J
  exact h _ J
end
def tVeA (K : PySem.W.Frag) (ta : TA) : TE := fun σ H Q => ta σ H fun vs H1 => ∃ (a C : Addr) (d : Option Addr) (ws : List V), vs = .ref a :: ws ∧ ws.length ≤ 1000 ∧ OexC K C ∧ H1 a = some (exo a C d) ∧ Q .non H1
section
variable {X : Cx} {o e : Expr} {es : List Expr} {to te : TE} {ta : TA} {p p2 pos : Pos}
theorem pe_veiA {C : Addr} {pl : Sem Bool} (hoa : PE X o to) (G : VeI X.K C) (ha : PA X (e :: es) ta)
    (hc : eval (.Call (.Attribute o "__init__" p2) (e :: es) [] pos) X.env = (do
      let ov ← eval o X.env
      standAt p2.atName
      let (f, first) ← holding [ov] (getMethod ov "__init__" pl)
      callWith pos f first (backTo pos (starEach (e :: es) X.env)) (backToKw pos (keywordEach [] X.env))) := by rfl)
    (he : starEach (e :: es) X.env = (false, eval e X.env) :: starEach es X.env := by rfl) (hpl : (backTo pos (starEach es X.env)).any (·.1) = false := by rfl) :
    PE X (.Call (.Attribute o "__init__" p2) (e :: es) [] pos) (fun σ H Q => to σ H fun x H1 => x = .ref C ∧ tVeA X.K ta σ H1 Q) := by
  refine ⟨fun pns s σ H Q I h => PySem.W.methodCall_KW (pl := pl) (thn (hoa.run pns s σ H _ I h) fun u s1 ⟨x, H1, Ia, rx, ex, q⟩ => ?_) hc⟩
  subst ex
  obtain rfl : u = Value.ref C := rx
  have Ib := Ia.tok (s1.toks + 1)
  refine PySem.W.method_cls Ia.kIn G.ga (PySem.W.cls_value Ia.kIn G.rd G.at_ (by decide +kernel) ?_)
  show wpAny _ _ (callWith pos (Value.builtin "ValueError.__init__") [] (backTo pos (starEach (e :: es) X.env)) []) _ _ _
  refine PyProof.Rows.callWith_method1 (thn (ha.run pos pns _ σ H1 _ Ib q) fun as_ s1 ⟨vs, H2, I3, r1, a, D, d, ws, ev, hl, T, ea, q⟩ => ?_) he hpl
  subst ev
  cases r1 with
  | @cons _ uy _ uz ry rzz =>
    obtain rfl : uy = Value.ref a := ry
    have hln : uz.length ≤ sizeLine := by
      rw [← Paired.length rzz, sizeLine_eq]
      omega
    exact oinit_any T I3 ea hln fun s' J => ⟨.non, H2, J, rfl, q⟩
/-- C(e, ..) as a value -/
def tMkV (C : Addr) (sp : Sp) (ta : TA) : TE := fun σ H Q => ta σ H fun vs H1 => vs.length ≤ 1000 ∧ ∀ a, H1 a = none → sp (.ref a :: vs) (upd H1 a (exo a C none)) (fun v H2 => v = .non ∧ Q (.ref a) H2) (fun _ _ _ => False)
variable {CX : CXT} {x : Str} {C fI : Addr} {k : Nat} {fd : FuncData} {ps : List Str} {sp : Sp}
theorem run_mkV {pns : List (Addr × Obj)} {σ : L2.St} {H1 : Hp} {s1 : Shared} {as_ : List Value} {vs : List V} {Q : VK} (T : OexC X.K C) (iC : PySem.W.findIn X.K (.ref C) "__init__" = some (some (.ref fI))) (tI : PySem.W.typeIn X.K (.ref fI) = some (.type "function"))
    (F1 : FnOk X.prog X.w X.K X.mg X.base CX k fI fd ps sp) (hr : Room (k + 1) X.A) (hb : Binds X.K fd ps []) (hx : Passes CX X (fun _ _ _ => False)) (Ia : Inv X pns σ H1 s1) (r1 : Vals vs as_) (hz : vs.length ≤ 1000)
    (q1 : ∀ a, H1 a = none → sp (.ref a :: vs) (upd H1 a (exo a C none)) (fun v H2 => v = .non ∧ Q (.ref a) H2) (fun _ _ _ => False)) : wpAny (model X.prog X.w) X.A (call (.ref C) as_) (EP X pns σ Q) X.xe s1 := by
  obtain ⟨nma, q, N, bs, bm, sn, sub, ab, col, dd, k0, k1, k2, k3, k5, hC, hbm⟩ := T.cls
  obtain ⟨hh0, g, dra, tka, os⟩ := s1
  have hza : hh0.objs.size ≤ hh0.objs.size + 1 := Nat.le_succ _
  have hna : H1 (hh0.objs.size + 1) = none := Ia.hok.fresh hza
  have hqa := q1 (hh0.objs.size + 1) hna
  have kka : ∀ b o, hh0.get? b = some o → ((hh0.push (PySem.W.kdv_tup as_)).push (PySem.HandSPX.excO C hh0.objs.size)).get? b = some o := fun b o e => Heap.get?_push_of_some _ (Heap.get?_push_of_some _ e)
  have hga : ((hh0.push (PySem.W.kdv_tup as_)).push (PySem.HandSPX.excO C hh0.objs.size)).get? (hh0.objs.size + 1) = some (PySem.HandSPX.excO C hh0.objs.size) := by heap_get
  have Ib : Inv X pns σ (upd H1 (hh0.objs.size + 1) (exo (hh0.objs.size + 1) C none)) ⟨(hh0.push (PySem.W.kdv_tup as_)).push (PySem.HandSPX.excO C hh0.objs.size), g, dra, tka, os⟩ :=
    Ia.laid (t' := tka) (a := hh0.objs.size + 1) (o := exo (hh0.objs.size + 1) C none) (h' := (hh0.push (PySem.W.kdv_tup as_)).push (PySem.HandSPX.excO C hh0.objs.size)) kka hza (exo_ok hga)
  have rb : Vals (V.ref (hh0.objs.size + 1) :: vs) (Value.ref (hh0.objs.size + 1) :: as_) := .cons rfl r1
  have hl : (Value.ref (hh0.objs.size + 1) :: as_ ++ []).length = ps.length := by
    have e := rb.length
    rw [F1.len _ _ _ _ hqa] at e
    rw [List.append_nil]
    exact e.symm
  have hua : as_.length ≤ sizeLine := by
    rw [← Paired.length r1, sizeLine_eq]
    omega
  have hbs := hb ⟨(hh0.push (PySem.W.kdv_tup as_)).push (PySem.HandSPX.excO C hh0.objs.size), g, dra, tka, os⟩ (Value.ref (hh0.objs.size + 1) :: as_) Ib.kIn hl
  rw [List.append_nil] at hbs
  refine wpAny_call (PySem.HandSPX.call_own F.excBase_ValueError (fun Y => PySem.HandSPX.refsVE_contains Y bm hbm) (Ia.kIn _ _ hC) (PySem.W.looks_findIn Ia.kIn iC) (fun self => PySem.W.bind_fn Ia.kIn self tI) hua
    (codeAny_mono (F1.run _ X.stack _ _ ⟨Value.ref (hh0.objs.size + 1) :: as_, []⟩ (Value.ref (hh0.objs.size + 1) :: as_) _ _ (fun _ _ _ => False) (hr.make C as_ []) (Ib.env0.make C as_ []) hbs rb hqa) fun r s' hq' => ?_))
  cases r with
  | error era => exact hx pns σ _ _ era s' Ib hq'
  | ok fla =>
    cases fla with
    | ret u =>
      obtain ⟨v, H', I3, rv, ev, q3⟩ := Ib.after hq'
      subst ev
      exact ⟨rv, ⟨V.ref (hh0.objs.size + 1), H', I3, rfl, q3⟩⟩
    | next => exact False.elim hq'
    | brk => exact False.elim hq'
    | cont => exact False.elim hq'
theorem pe_mkV (T : OexC X.K C) (iC : PySem.W.findIn X.K (.ref C) "__init__" = some (some (.ref fI))) (tI : PySem.W.typeIn X.K (.ref fI) = some (.type "function"))
    (F1 : FnOk X.prog X.w X.K X.mg X.base CX k fI fd ps sp) (hr : Room (k + 1) X.A) (hb : Binds X.K fd ps []) (hx : Passes CX X (fun _ _ _ => False)) (hg : Gl X x) (hm : X.mg x = some (.ref C)) (ha : PA X (e :: es) ta)
    (hdb : (x == ("__debug__" : Str)) = false := by decide) (he : starEach (e :: es) X.env = (false, eval e X.env) :: starEach es X.env := by rfl) (hpl : (backTo pos (starEach es X.env)).any (·.1) = false := by rfl) :
    PE X (.Call (.Name x p) (e :: es) [] pos) (tMkV C sp ta) := by
  refine ⟨fun pns s σ H Q I h => ?_⟩
  refine wpAny_Call_Name_kw (ld_glob I hg hm ?_ hdb)
  refine PySem.W.callWith_K (h₀ := X.base) I.ok.mod.kin T.kC (thn (ha.run pos pns s σ H _ I h) fun as_ s1 ⟨vs, H1, Ia, r1, hz, q1⟩ => ⟨Ia.kIn, ?_⟩) he hpl
  exact run_mkV T iC tI F1 hr hb hx Ia r1 hz q1
theorem pe_mkV0 (T : OexC X.K C) (iC : PySem.W.findIn X.K (.ref C) "__init__" = some (some (.ref fI))) (tI : PySem.W.typeIn X.K (.ref fI) = some (.type "function"))
    (F1 : FnOk X.prog X.w X.K X.mg X.base CX k fI fd ps sp) (hr : Room (k + 1) X.A) (hb : Binds X.K fd ps []) (hx : Passes CX X (fun _ _ _ => False)) (hg : Gl X x) (hm : X.mg x = some (.ref C))
    (hdb : (x == ("__debug__" : Str)) = false := by decide) :
    PE X (.Call (.Name x p) [] [] pos) (tMkV C sp tNil) := by
  refine ⟨fun pns s σ H Q I h => ?_⟩
  obtain ⟨hz, q1⟩ := h
  refine wpAny_Call_Name_kw (ld_glob I hg hm ?_ hdb)
  refine PySem.W.callWith_K0 (first := []) I.kIn T.kC ?_
  exact run_mkV (as_ := []) (vs := []) T iC tI F1 hr hb hx I .nil (by decide) q1
/-- o.f, o an exception held as a value -/
def tXfv (K : PySem.W.Frag) (f : Str) (te : TE) : TE := fun σ H Q => te σ H fun x H1 => ∃ (a C dx : Addr) (fs : List (Str × V)) (v : V), x = .ref a ∧ H1 a = some (exo a C (some dx)) ∧ H1 dx = some (exd dx fs) ∧ XfC K C ∧ PySem.W.findIn K (.ref C) f = some none ∧ fs.lookup f = some v ∧ Q v H1
theorem pe_xfv {n : Str} (he : PE X e te) (hb : attributeBase e n X.env (eval e X.env) = eval e X.env := by rfl) : PE X (.Attribute e n pos) (tXfv X.K n te) := by
  refine ⟨fun pns s σ H Q I h => ?_⟩
  refine attr_of hb (thn (he.run pns s σ H _ I h) fun u s1 hh => ?_)
  obtain ⟨x, H1, Ia, rx, a, C, dx, fs, v, ex, ea, ed, T, hno, l, q⟩ := hh
  subst ex
  obtain rfl : u = Value.ref a := rx
  obtain ⟨t1, ha⟩ := exo_at Ia.hok ea
  obtain ⟨mA, hnsa, hr⟩ := exd_at Ia.hok ed
  obtain ⟨oda, hoa, hl⟩ := lookIn_ns hnsa
  obtain ⟨u, hu, ru⟩ := RelO.some_of (v := v) (o := mA n) (by rw [← l]; exact hr n)
  have J : PySem.W.InstAt s1.heap a _ C (some oda) := ⟨ha, rfl, rfl, hoa⟩
  exact HandSPX.exc_get Ia.kIn J T.ga T.gg T.exC (PySem.W.findObj_own T.hdC hno rfl (by rw [hl, hu])) (handed_of ru) ⟨v, H1, Ia.tok _, ru, q⟩
/-- isinstance(o, c), o an exception held as a value -/
def rIsV (K : PySem.W.Frag) : List V → Hp → VK → Prop := fun xs H Q => ∃ (a C : Addr) (d : Option Addr) (c : V) (cv : Value) (b : Bool), H a = some (exo a C d) ∧ (∀ dx, d = some dx → ∃ fs, H dx = some (exd dx fs)) ∧ ExcC K C ∧ xs = [.ref a, c] ∧ (∀ u, RelV c u → u = cv) ∧ PySem.W.kitOne K (.ref C) cv = some b ∧ Q (.bl b) H
theorem call_isV : CallR X (.builtin "isinstance") (rIsV X.K) := by
  intro pns s σ H xs as_ Q I r h
  obtain ⟨a, C, d, c, cv, b, hx, hd, EC, rfl, hcv, e, q⟩ := h
  cases r with
  | cons rx rr =>
    cases rr with
    | cons rt rr =>
      cases rr
      cases rx
      have ec := hcv _ rt
      subst ec
      obtain ⟨t1, ha⟩ := exo_at I.hok hx
      cases d with
      | none =>
        have J : PySem.W.InstAt s.heap a _ C none := ⟨ha, rfl, rfl, trivial⟩
        exact PySem.W.kia_one (PySem.W.handS_kitx_exc EC.hg EC.hk EC.hs EC.hd EC.ha EC.hn EC.ht EC.hm) I.kIn J e (fun z => nomatch z) fun tka => ⟨.bl b, H, I.kept (t' := tka) fun _ _ z => z, rfl, q⟩
      | some dx =>
        obtain ⟨fs, hdx⟩ := hd dx rfl
        obtain ⟨mA, hnsa, hr⟩ := exd_at I.hok hdx
        obtain ⟨oda, hoa, hl⟩ := lookIn_ns hnsa
        have J : PySem.W.InstAt s.heap a _ C (some oda) := ⟨ha, rfl, rfl, hoa⟩
        exact PySem.W.kia_one (kitD EC) I.kIn ⟨oda, J⟩ e (fun z => nomatch z) fun tka => ⟨.bl b, H, I.kept (t' := tka) fun _ _ z => z, rfl, q⟩
end
end Vl

/-! exceptions as values: what is computed -/
namespace Vl
open PySem PySem.Spec PyProof.Rows L2
/-- __init__ of an exception that keeps its arguments in the fields fs -/
def spXs (C : Addr) (fs : List Str) : Sp := fun vs H Q _ => ∃ (a : Addr) (ys : List V), vs = .ref a :: ys ∧ ys.length = fs.length ∧ H a = some (exo a C none) ∧ (fs = [] → Q .non H) ∧
  (fs ≠ [] → ∀ dx H', H dx = none → dx ≠ a → H' a = some (exo a C (some dx)) → H' dx = some (exd dx (fs.zip ys).reverse) → (∀ b, b ≠ a → b ≠ dx → H' b = H b) → Q .non H')
def Xcs (P : Program) (w : World) (K : PySem.W.Frag) (mg : Str → Option Value) (base : Heap) (k : Nat) (C : Str) (fs ps : List Str) : Prop :=
  ∃ fI fd, OexC K (He.ga K C) ∧ PySem.W.findIn K (.ref (He.ga K C)) "__init__" = some (some (.ref fI)) ∧ PySem.W.typeIn K (.ref fI) = some (.type "function") ∧ Binds K fd ps [] ∧ mg C = some (.ref (He.ga K C)) ∧ FnOk P w K mg base (L2.CX P w) k fI fd ps (spXs (He.ga K C) fs)
def makeX (C : Str) (fs : List Str) (ds : List D) : M D := M.guard (ds.length == fs.length && decide (ds.length ≤ 1000)) (M.pure (.exc C fs.reverse ds.reverse))
def fldX (Cs : List Str) (f : Str) (x : D) : M D := match x with
  | .exc C ns xs => M.guard (Cs.contains C) (M.opt (lk f ns xs))
  | _ => M.fail
def isiX (cls : List Str) (base : Str) (bt : String) (xs : List D) : M D := match xs with
  | [.exc C _ _, .fn c] => M.guard (cls.contains C && (c == base || cls.contains c)) (M.pure (.bl (c == C || c == base)))
  | [.exc C _ _, .ty t] => M.guard (cls.contains C && t == bt) (M.pure (.bl true))
  | _ => M.fail
def minD (xs : List D) : M D := match xs with
  | [.int i, .int j] => M.pure (.int (if j < i then j else i))
  | _ => M.fail
def maxD (xs : List D) : M D := match xs with
  | [.int i, .int j] => M.pure (.int (if j > i then j else i))
  | _ => M.fail
section
variable {K : PySem.W.Frag} {φ : Addr → Prop} {ρ : List Addr} {μ : Sto} {H : Hp}
theorem mkx_post {C : Str} {fs : List Str} {vs : List V} {ds : List D} {Q : VK} {W : XK} (hr : Rep K φ ρ μ H) (hv : VsIs K φ ρ H vs ds) (p : Post K (VIs K) φ ρ H Q W (makeX C fs ds μ)) :
    vs.length ≤ 1000 ∧ ∀ a, H a = none → spXs (He.ga K C) fs (.ref a :: vs) (upd H a (exo a (He.ga K C) none)) (fun v H2 => v = .non ∧ Q (.ref a) H2) (fun _ _ _ => False) := by
  obtain ⟨c, p⟩ := guard_post p
  obtain ⟨c1, c2⟩ := Bool.and_eq_true_iff.mp c
  have c1 := beq_iff_eq.mp c1
  have c2 := of_decide_eq_true c2
  have lv := hv.length
  refine ⟨by omega, fun a ha => ⟨a, vs, rfl, by omega, upd_same, fun e => ⟨rfl, ?_⟩, fun ne dx H' hdx nda h1 h2 h3 => ⟨rfl, ?_⟩⟩⟩
  · subst e
    have e2 : ds = [] := List.length_eq_zero_iff.mp c1
    subst e2
    exact Post.newF hr p ha (.exc0 upd_same)
  · rw [upd_ne nda] at hdx
    have eH : H' = upd (upd H dx (exd dx (fs.zip vs).reverse)) a (exo a (He.ga K C) (some dx)) := by
      funext b
      by_cases ba : b = a
      · rw [ba, upd_same, h1]
      · by_cases bd : b = dx
        · rw [bd, upd_ne nda, upd_same, h2]
        · rw [h3 b ba bd, upd_ne ba, upd_ne ba, upd_ne bd]
    have ha2 : upd H dx (exd dx (fs.zip vs).reverse) a = none := by rw [upd_ne (Ne.symm nda)]; exact ha
    have l1 : Later K φ ρ H φ ρ μ (upd H dx (exd dx (fs.zip vs).reverse)) := Later.fresh hr hdx
    have l2 : Later K φ ρ H φ ρ μ H' := by rw [eH]; exact l1.trans (Later.fresh l1.rep ha2)
    have ez : (fs.zip vs).reverse = fs.reverse.zip vs.reverse := by
      rw [List.zip_eq_zipWith, List.zip_eq_zipWith, List.reverse_zipWith (by omega)]
    rw [ez] at h2
    exact p φ ρ _ _ l2 (.obj (.exc h1 h2 (hr.nfree hdx) (by rw [List.length_reverse, List.length_reverse]; omega) ((l2.vals hr hv).reverse)) (hr.nfree ha))
theorem excE {v : V} {C : Str} {ns : List Str} {xs : List D} (h : VIs K φ ρ H v (.exc C ns xs)) : (∃ a dx vs, v = .ref a ∧ H a = some (exo a (He.ga K C) (some dx)) ∧ H dx = some (exd dx (ns.zip vs)) ∧ ns.length = vs.length ∧ VsIs K φ ρ H vs xs) ∨ ∃ a, v = .ref a ∧ ns = [] ∧ H a = some (exo a (He.ga K C) none) := by
  cases h with
  | obj h n => cases h with
    | exc h1 h2 h3 h4 h5 => exact .inl ⟨_, _, _, rfl, h1, h2, h4, h5⟩
    | exc0 h1 => exact .inr ⟨_, rfl, rfl, h1⟩
theorem of_min : CaF K (fun xs H Q => ∃ i j, xs = [.int i, .int j] ∧ Q (.int (if j < i then j else i)) H) minD := by
  intro φ ρ μ H vs xs Q W hr hv p
  unfold minD at p
  split at p
  · cases hv with
    | cons h1 hv =>
      obtain ⟨v, rfl, h2⟩ := hv.one
      rw [h1.intE, h2.intE]
      exact ⟨_, _, rfl, Post.val hr p (.int _)⟩
  · exact p.elim
theorem of_max : CaF K (fun xs H Q => ∃ i j, xs = [.int i, .int j] ∧ Q (.int (if j > i then j else i)) H) maxD := by
  intro φ ρ μ H vs xs Q W hr hv p
  unfold maxD at p
  split at p
  · cases hv with
    | cons h1 hv =>
      obtain ⟨v, rfl, h2⟩ := hv.one
      rw [h1.intE, h2.intE]
      exact ⟨_, _, rfl, Post.val hr p (.int _)⟩
  · exact p.elim
/-- what the classes say, for isinstance -/
def IsX (K : PySem.W.Frag) (cls : List Str) (base : Str) (bt : String) : Prop := ∀ C ∈ cls, ExcC K (He.ga K C) ∧ (∀ c ∈ base :: cls, PySem.W.kitOne K (.ref (He.ga K C)) (.ref (He.ga K c)) = some (c == C || c == base)) ∧ PySem.W.kitOne K (.ref (He.ga K C)) (.type bt) = some true
def isXB (K : PySem.W.Frag) (cls : List Str) (base : Str) (bt : String) : Bool := cls.all fun C => excB K (He.ga K C) && ((base :: cls).all (fun c => decide (PySem.W.kitOne K (.ref (He.ga K C)) (.ref (He.ga K c)) = some (c == C || c == base))) && decide (PySem.W.kitOne K (.ref (He.ga K C)) (.type bt) = some true))
theorem isXB_ok {cls : List Str} {base : Str} {bt : String} (h : isXB K cls base bt = true) : IsX K cls base bt := fun C hC => by
  obtain ⟨h1, h2⟩ := Bool.and_eq_true_iff.mp (List.all_eq_true.mp h C hC)
  obtain ⟨h2, h3⟩ := Bool.and_eq_true_iff.mp h2
  exact ⟨excB_ok h1, fun c hc => of_decide_eq_true (List.all_eq_true.mp h2 c hc), of_decide_eq_true h3⟩
theorem of_isX {cls : List Str} {base : Str} {bt : String} (T : IsX K cls base bt) : CaF K (rIsV K) (isiX cls base bt) := by
  intro φ ρ μ H vs xs Q W hr hv p
  unfold isiX at p
  have get : ∀ {v : V} {C : Str} {ns : List Str} {ys : List D}, VIs K φ ρ H v (.exc C ns ys) → ∃ a d, v = .ref a ∧ H a = some (exo a (He.ga K C) d) ∧ ∀ dx, d = some dx → ∃ fs, H dx = some (exd dx fs) := fun h => by
    rcases excE h with ⟨a, dx, vs, e, h1, h2, _, _⟩ | ⟨a, e, _, h1⟩
    · exact ⟨a, some dx, e, h1, fun z hz => by cases hz; exact ⟨_, h2⟩⟩
    · exact ⟨a, none, e, h1, fun z hz => by cases hz⟩
  split at p
  · rename_i C ns ys c
    cases hv with
    | cons h1 hv =>
      obtain ⟨v, rfl, h2⟩ := hv.one
      obtain ⟨cc, pp⟩ := guard_post p
      obtain ⟨c1, c2⟩ := Bool.and_eq_true_iff.mp cc
      have c1 : C ∈ cls := List.contains_iff_mem.mp c1
      have c2 : c ∈ base :: cls := by
        rcases Bool.or_eq_true_iff.mp c2 with z | z
        · exact List.mem_cons.mpr (.inl (beq_iff_eq.mp z))
        · exact List.mem_cons.mpr (.inr (List.contains_iff_mem.mp z))
      obtain ⟨a, d, rfl, g1, g2⟩ := get h1
      obtain ⟨T1, T2, T3⟩ := T C c1
      have ev : v = .ref (He.ga K c) := by
        cases h2 with
        | fn n => rfl
        | obj h n => cases h
      exact ⟨a, _, d, _, _, _, g1, g2, T1, rfl, fun u r => by rw [ev] at r; exact r, T2 c c2, Post.val hr pp (.bl _)⟩
  · rename_i C ns ys t
    cases hv with
    | cons h1 hv =>
      obtain ⟨v, rfl, h2⟩ := hv.one
      obtain ⟨cc, pp⟩ := guard_post p
      obtain ⟨c1, c2⟩ := Bool.and_eq_true_iff.mp cc
      have c1 : C ∈ cls := List.contains_iff_mem.mp c1
      have c2 := beq_iff_eq.mp c2
      subst c2
      obtain ⟨a, d, rfl, g1, g2⟩ := get h1
      obtain ⟨T1, T2, T3⟩ := T C c1
      have ev : v = .ty t := by
        cases h2 with
        | ty n => rfl
        | obj h n => cases h
      exact ⟨a, _, d, _, _, _, g1, g2, T1, rfl, fun u r => by rw [ev] at r; exact r, T3, Post.val hr pp (.bl _)⟩
  · exact p.elim
end
section
variable {X : Cx} {K : PySem.W.Frag} {W : L2.St → XK} {k : Nat} {e o : Expr} {es : List Expr} {p pos : Pos} {r : AF} {fo : EF} {C f : Str} {fs ps : List Str}
theorem fMakeX (G : Xcs X.prog X.w X.K X.mg X.base k C fs ps) (hr : Room (k + 1) X.A) (ha : PA X (e :: es) (tA K W r)) (hg : Gl X C := by rfl) (hK : X.K = K := by rfl) (hdb : (C == ("__debug__" : Str)) = false := by decide)
    (hs : starEach (e :: es) X.env = (false, eval e X.env) :: starEach es X.env := by rfl) (hpl : (backTo pos (starEach es X.env)).any (·.1) = false := by rfl) : PE X (.Call (.Name C p) (e :: es) [] pos) (tE K W (eCall (makeX C fs) r)) := by
  subst hK
  obtain ⟨fI, fd, T, iC, tI, hb, hm, F⟩ := G
  refine (pe_mkV T iC tI F hr hb passF hg hm ha hdb hs hpl).vimp fun σ H Q ⟨φ, ρ, Γ, μ, he, hr, p⟩ => stepA he hr p fun l1 he h1 p => mkx_post l1.rep h1 p
theorem fMakeX0 (G : Xcs X.prog X.w X.K X.mg X.base k C fs ps) (hr : Room (k + 1) X.A) (hg : Gl X C := by rfl) (hK : X.K = K := by rfl) (hdb : (C == ("__debug__" : Str)) = false := by decide) : PE X (.Call (.Name C p) [] [] pos) (tE K W (eCall (makeX C fs) aNil)) := by
  subst hK
  obtain ⟨fI, fd, T, iC, tI, hb, hm, F⟩ := G
  refine (pe_mkV0 T iC tI F hr hb passF hg hm hdb).vimp fun σ H Q ⟨φ, ρ, Γ, μ, he, hr, p⟩ => ?_
  exact mkx_post (vs := []) (ds := []) hr .nil p
theorem fFldX {Cs : List Str} (T : ∀ C ∈ Cs, XfC X.K (He.ga X.K C) ∧ PySem.W.findIn X.K (.ref (He.ga X.K C)) f = some none) (ho : PE X o (tE K W fo)) (hK : X.K = K := by rfl) (hb : attributeBase o f X.env (eval o X.env) = eval o X.env := by rfl) : PE X (.Attribute o f pos) (tE K W (eUn (fldX Cs f) fo)) := by
  subst hK
  refine (pe_xfv ho hb).vimp fun σ H Q ⟨φ, ρ, Γ, μ, he, hr, p⟩ => stepE he hr p fun {d μ1 φ1 ρ1 v H1} l1 he h1 p => ?_
  cases d <;> first | exact p.elim | skip
  rename_i C ns xs
  obtain ⟨c, p⟩ := guard_post p
  have c : C ∈ Cs := List.contains_iff_mem.mp c
  obtain ⟨d, e, p⟩ := opt_post p
  rcases excE h1 with ⟨a, dx, vs, ev, g1, g2, g3, g4⟩ | ⟨a, ev, en, _⟩
  · obtain ⟨u, hu, hd⟩ := lk_lookup g3 g4 e
    exact ⟨a, _, dx, _, u, ev, g1, g2, (T C c).1, (T C c).2, hu, Post.val l1.rep p hd⟩
  · subst en
    cases e
end
end Vl

/-! generator expressions that tuple() eats: the generator's frame -/
namespace Gx
open PySem PySem.Spec PyProof.Rows L2 GenW
structure GxOk (N : List Str) (sc scope : Scope) (own : List (Str × Nat)) : Prop where
  kind : scope.kind = .function
  co : scope.isCoroutine = false
  cell : ∀ y ∈ scope.names, y.2 ≠ .cell
  dot : scope.names.lookup (".0" : Str) = some NameKind.local
  ix : ∀ p ∈ own, N[p.2]? = some p.1
  free : ∀ y ∈ scope.names, y.2 = .free → sc.names.lookup y.1 = some .cell ∨ sc.names.lookup y.1 = some .free
  own : ∀ y ∈ scope.names, y.2 = .local → y.1 ∈ own.map (·.1) ∨ y.1 ∉ N
abbrev gEnv (X : Cx) (scope : Scope) (L : Addr) (code : Value) : PySem.Env := genEnv scope (cloFrom X.env.cells scope.names []) L code builtinsNs X.env
/-- the context of the generator's code: made at s, woken under A -/
def gCx (X : Cx) (A : Around) (s : Shared) (H : Hp) (scope : Scope) (code : Value) (fp : List Addr) (pn : List (Addr × Obj)) : Cx where
  prog := X.prog
  w := X.w
  K := X.K
  mg := X.mg
  base := X.base
  A := A.deeper (gEnv X scope s.heap.objs.size code)
  N := X.N
  s_0 := s
  H_0 := H
  env := gEnv X scope s.heap.objs.size code
  outer := X.stack
  stack := gEnv X scope s.heap.objs.size code :: X.stack
  ex := fp
  fn := fun _ => false
  calm := true
  pn := pn
  xe := fun _ _ => False
section
variable {X : Cx} {pins : List (Addr × Obj)} {σ : L2.St} {H : Hp} {s : Shared}
theorem gx_start {A : Around} {scope : Scope} {own : List (Str × Nat)} {code : Value} {fp : List Addr} {s2 : Shared} {pn pins' : List (Addr × Obj)} {m : Str → Option Value} (I : Inv X pins σ H s) (ok : GxOk X.N X.env.scope scope own) (hN : X.N.Nodup) (hd : A.handled = none) (hfr : A.frames = some X.stack)
    (hfp : ∀ b ∈ fp, FpOk X pins H b ∧ b < s.heap.objs.size) (hns : s2.heap.Ns s.heap.objs.size m) (kp : ∀ b o, s.heap.get? b = some o → s2.heap.get? b = some o) (hos : s2.os = s.os) (hb : AllBare s2.gens)
    (hp : ∀ p ∈ pn ++ pins', s2.heap.get? p.1 = some p.2 ∧ s.heap.objs.size < p.1 ∧ ∀ v, p.2.data ≠ .cell v) :
    Inv (gCx X A s H scope code fp pn) pins' (wipe σ (own.map (·.2))) H s2 := by
  have hfree : ∀ y ∈ scope.names, y.2 = .free → ∃ c, X.env.cells.lookup y.1 = some c := fun y hy e => by
    rcases ok.free y hy e with k | k
    · exact I.ok.has _ (.inl k)
    · exact I.ok.has _ (.inr k)
  have cm : ∀ {y c}, (cloFrom X.env.cells scope.names []).lookup y = some c → X.env.cells.lookup y = some c := fun {y c} e => by
    rcases cloFrom_mem (PySem.mem_of_lookup e) with hm | ⟨h1, h2⟩
    · cases hm
    · obtain ⟨c1, hc⟩ := hfree _ h1 rfl
      have hc : X.env.cells.lookup y = some c1 := hc
      have e2 : c = c1 := by
        rw [h2, hc] <;> rfl
      rw [e2]
      exact hc
  have look : ∀ {y}, scope.names.lookup y = some .free → ∃ c, (cloFrom X.env.cells scope.names []).lookup y = some c := fun {y} hl => by
    have hy : (y, NameKind.free) ∈ scope.names := PySem.mem_of_lookup hl
    exact mem_lookup (cloFrom_has (cells := X.env.cells) (acc := []) hy)
  have clt : ∀ {y c}, X.env.cells.lookup y = some c → c < s.heap.objs.size := fun {y c} e => by
    obtain ⟨v, z⟩ := I.cell y c e
    exact z.lt
  have nofr : ∀ f, s.heap.objs.size ≤ f → f ∉ frs X.stack := fun f hf z => by
    rcases List.mem_cons.mp (I.stkSub _ z) with e | e
    · have h1 := I.lt
      rw [← e] at h1
      exact Nat.lt_irrefl _ (Nat.lt_of_lt_of_le h1 hf)
    · exact I.nofs hf e
  have okB : (gCx X A s H scope code fp pn).Ok := by
    refine ⟨I.ok.mod, ok.kind, I.ok.glob, rfl, Nat.le_refl _, fun y z c e1 e2 => I.ok.inj y z c (cm e1) (cm e2), fun y hy => ?_, fun y c z _ => ?_, fun _ => hd, Around.frames_deeper hfr, .inr ⟨rfl, rfl⟩,
      fun b hb => ⟨Nat.ne_of_lt (hfp b hb).2, fun y c e => (hfp b hb).1.2.2.2.2.1 y c (cm e)⟩, I.bs, Nat.le_trans I.ok.bsz I.sz, fun b o e hb => ?_, fun b hb z => ?_, I.stack, I.stkFree⟩
    · have hy : scope.names.lookup y = some .cell ∨ scope.names.lookup y = some .free := hy
      rcases hy with hy | hy
      · exact absurd rfl (ok.cell _ (PySem.mem_of_lookup hy))
      · exact look hy
    · have z : false = true := z
      cases z
    · rcases (hfp b hb).1.2.2.2.1 with z | z
      · exact I.ok.noex b o e z
      · exact absurd (Nat.lt_of_lt_of_le (Heap.lt_size e) (Nat.le_trans I.ok.bsz z)) (Nat.lt_irrefl _)
    · rcases List.mem_cons.mp (I.stkSub b z) with z | z
      · exact (hfp b hb).1.2.1 z
      · exact (hfp b hb).1.2.2.1 z
  refine ⟨okB, hos, hb, Un.kept kp, ⟨_, hns, fun i y v e1 e2 e3 => ?_⟩, fun y c e => ?_, I.hok.fresh (Nat.le_refl _), fun y c e => I.freeC y c (cm e), fun q hq => ?_, I.hok.kept kp, by rw [wipe_length]; exact I.len⟩
  · obtain ⟨e2, hne⟩ := wipe_some e2
    have e3 : Vis scope y := e3
    rcases e3 with k | k | k
    · rcases ok.own _ (PySem.mem_of_lookup k) rfl with e' | e'
      · obtain ⟨p, hp, hpy⟩ := List.mem_map.mp e'
        have e3 := ok.ix p hp
        have : p.1 = y := hpy
        rw [this] at e3
        exact absurd (List.mem_map.mpr ⟨p, hp, nodup_ix hN e3 e1⟩) hne
      · exact absurd (List.mem_of_getElem? e1) e'
    · exact absurd rfl (ok.cell _ (PySem.mem_of_lookup k))
    · obtain ⟨m, hn, hl⟩ := I.loc
      have hvis : Vis X.env.scope y := (ok.free _ (PySem.mem_of_lookup k) rfl).elim (fun k => .inr (.inl k)) (fun k => .inr (.inr k))
      obtain ⟨w', r, q⟩ := hl i y v e1 e2 hvis
      obtain ⟨c2, h2⟩ := look k
      refine ⟨w', r, .inr ⟨.inr k, c2, h2, ?_⟩⟩
      have c1 := cm h2
      rcases q with ⟨k', _⟩ | ⟨_, c3, e', z⟩
      · have k' : X.env.scope.names.lookup y = some .local := k'
        rcases ok.free _ (PySem.mem_of_lookup k) rfl with k2 | k2 <;> rw [show X.env.scope.names.lookup y = _ from k2] at k' <;> cases k'
      · rw [c1] at e'
        cases e'
        exact z.keeps kp
  · obtain ⟨w', z⟩ := I.cell y c (cm e)
    exact ⟨w', z.keeps kp⟩
  · obtain ⟨h1, h2, h3⟩ := hp q hq
    exact ⟨h1, I.hok.fresh (Nat.le_of_lt h2), Nat.ne_of_gt h2, nofr _ (Nat.le_of_lt h2), h3⟩
theorem over_gx {A : Around} {elt : Expr} {gs : List Comprehension} {scope : Scope} {pos : Pos} {it acc : Value} {env : PySem.Env} : A.over (.compLoop (.GeneratorExp elt gs scope pos) 0 it acc env) [] = A.deeper env := by
  first
    | rfl
    | (obtain ⟨hd, d, fr, gs, u⟩ := A; simp [Around.over, Around.deeper, marksOver, frameCount, unitsOf, envsOf, guardsOf, pushEnvs, pushGuards, Code.envs, Code.env?, Code.isFrame, Code.guards, Code.isGuard, Code.weight, Code.frames, Code.isCreation, Code.isCaller, Code.cUnits])
theorem over_gx0 {A : Around} {elt : Expr} {gs : List Comprehension} {scope : Scope} {pos : Pos} {it acc : Value} {env : PySem.Env} : A.over (.compStart (.GeneratorExp elt gs scope pos) 0 it acc env) [] = A.deeper env := by
  first
    | rfl
    | (obtain ⟨hd, d, fr, gs, u⟩ := A; simp [Around.over, Around.deeper, marksOver, frameCount, unitsOf, envsOf, guardsOf, pushEnvs, pushGuards, Code.envs, Code.env?, Code.isFrame, Code.guards, Code.isGuard, Code.weight, Code.frames, Code.isCreation, Code.isCaller, Code.cUnits])
end
end Gx

/-! generator expressions: the run -/
namespace Gx
open PySem PySem.Spec PyProof.Rows L2 GenW
/-- the turns of a generator expression: ys is out so far -/
def gTurns (J : It) (Q : List V → Hp → Prop) (σ : L2.St) (vs : List Nat) (g : TG) (tt : TT) (te : TE) (W : Nat → Nat → List V → Hp → Prop) : Prop := ∀ i m ys H, W i m ys H →
  (J.stop i H ∧ Q ys H) ∨ (J.go i H ∧ ∃ Nx : List V → Hp → Prop, (∀ ys' H', Nx ys' H' → ∃ m', m' < m ∧ W (i + 1) m' ys' H') ∧ ∀ x H', J.yld i H x H' → g x (wipe σ vs) H' fun σ2 H2 => wipe σ2 vs = wipe σ vs ∧ tt σ2 H2 fun b H3 =>
    if b = true then te σ2 H3 fun y H4 => ys.length < sizeLine ∧ Nx (ys ++ [y]) H4 else Nx ys H3)
section
variable {X : Cx} {σ : L2.St} {H : Hp} {s : Shared}
theorem gx_loop {A : Around} {scope : Scope} {own : List (Str × Nat)} {code : Value} {fp : List Addr} {a g S it : Addr} {go : Obj} {nm qn : Value} {tg iter elt : Expr} {ifs : List Expr} {pos : Pos} {J : It} {tn : Nat → Heap → Prop} {gg : TG} {tt : TT} {te : TE} {Q : List V → Hp → Prop} {E : XK} {W : Nat → Nat → List V → Hp → Prop}
    (h1 : go.cls = .type "generator") (h2 : go.data = .fields #[.int g 0, nm, qn]) (h3 : go.slots = #[]) (hco : scope.isCoroutine = false)
    (T : Turn X.prog X.w X.K tg J fp it tn) (pg : PG (gCx X A s H scope code fp [(a, go)]) tg gg) (pt : PTs (gCx X A s H scope code fp [(a, go)]) ifs tt) (pe : PE (gCx X A s H scope code fp [(a, go)]) elt te)
    (turn : gTurns J Q σ (own.map (·.2)) gg tt te W) (hS : S ∉ fp) (ha : a ∉ fp) (hSa : S ≠ a) (hAp : Apart (gCx X A s H scope code fp [(a, go)]) S) :
    ∀ (m n : Nat) (ys : List V) (i : Nat) (H' : Hp) (s₀ s1 : Shared), n + ys.length = sizeLine → W i m ys H' → GI (gCx X A s H scope code fp [(a, go)]) S [] ys (wipe σ (own.map (·.2))) H' s1 → tn i s1.heap → (∀ b ∈ fp, H' b = none) →
      Seg (model X.prog X.w) A (REnd X.prog X.w X.stack H s fp S a g Q E) (YItem s S a g) n s₀ (.compLoop (.GeneratorExp elt [⟨tg, iter, ifs, 0⟩] scope pos) 0 (.ref it) .none (gEnv X scope s.heap.objs.size code))
        ((model X.prog X.w).den (.compLoop (.GeneratorExp elt [⟨tg, iter, ifs, 0⟩] scope pos) 0 (.ref it) .none (gEnv X scope s.heap.objs.size code))) [] s1 := by
  have isG : ∀ {ip : List (Addr × Obj)} {σ' : L2.St} {H' : Hp} {s' : Shared}, Inv (gCx X A s H scope code fp [(a, go)]) ip σ' H' s' → s'.heap.IsGen a g := fun {ip σ' H' s'} I => ⟨go, nm, qn, (I.pin (a, go) (List.mem_append_left _ (List.mem_singleton.mpr rfl))).1, h1, h2, h3⟩
  have stat : ∀ {acc : Array Value} {c : Nat} {σ' : L2.St} {H' : Hp} {s' : Shared}, Inv (gCx X A s H scope code fp [(a, go)]) [(S, lstObj acc c)] σ' H' s' → (∀ b ∈ fp, H' b = none) → ∀ b ∈ fp, FpOk (gCx X A s H scope code fp [(a, go)]) [(S, lstObj acc c)] H' b := fun {acc c σ' H' s'} I' hn b hb =>
    ⟨hn b hb, (I'.ok.exf b hb).1, I'.ok.exfs b hb, .inl hb, fun x c e => (I'.ok.exf b hb).2 x c e, fun p hp z => by
      rcases List.mem_append.mp hp with q | q
      · rw [List.mem_singleton.mp q] at z
        have z : a = b := z
        exact ha (by rw [z]; exact hb)
      · rw [List.mem_singleton.mp q] at z
        have z : S = b := z
        exact hS (by rw [z]; exact hb)⟩
  intro m
  induction m using Nat.strongRecOn with
  | ind m ih =>
    intro n ys i H5 s₀ s5 hn w5 hI st5 n5
    obtain ⟨acc, cc, r5, I5⟩ := hI
    have hlen : acc.size = ys.length := by
      have e1 := r5.length
      have e2 : acc.toList.length = acc.size := by simp
      omega
    show Seg _ A _ _ _ s₀ _ ((compTurn (.GeneratorExp elt [⟨tg, iter, ifs, 0⟩] scope pos) 0 (.ref it) .none (gEnv X scope s.heap.objs.size code)).onRaise (leaving (gEnv X scope s.heap.objs.size code))) [] s5
    rw [compTurn_gen, Sem.onRaise_eq_wrap]
    refine seg_bind_wrap (wpAny_standAt ?_)
    rcases turn i m ys H5 w5 with ⟨stop, qq⟩ | ⟨goi, Nx, hNx, step⟩
    · have td := T.done (gCx X A s H scope code fp [(a, go)]) rfl rfl rfl rfl i _ s5 _ H5 (fun _ _ => False) I5 (stat I5 n5) st5 stop
      refine seg_bind_wrap ?_
      rw [over_gx]
      refine thnF td fun r s6 ⟨hr, I6⟩ => ?_
      subst hr
      obtain ⟨e1, e2, _⟩ := I6.pin (S, lstObj acc cc) (List.mem_append_right _ List.mem_cons_self)
      exact seg_end (.ok .next) (.inl ⟨.inr rfl, H5, ys, acc, cc, I6.os, I6.bare, I6.base, I6.hok, e2, e1, r5, by omega, qq⟩)
    · have ti := T.item (gCx X A s H scope code fp [(a, go)]) rfl rfl rfl rfl i _ s5 _ H5 (fun _ _ => False) I5 (stat I5 n5) st5 goi
      refine seg_bind_wrap ?_
      rw [over_gx]
      refine thnF ti fun r s6 ⟨u, hr, h6⟩ => ?_
      subst hr
      refine seg_bind_wrap ?_
      rw [over_gx]
      refine thnF h6 fun _ s7 ⟨x, H7, I7, r7, y7, st7, n7⟩ => ?_
      have I7' := I7.pinned (stat I7 n7) (T.obj _ _ st7)
      refine seg_bind_wrap ?_
      rw [over_gx]
      refine thnF (pg.run _ s7 _ H7 x u _ I7' r7 (step x H7 y7)) fun _ s8 ⟨σ8, H8, I8, hw8, q8⟩ => ?_
      refine seg_bind_wrap ?_
      rw [over_gx]
      refine thnF (pt.run _ s8 σ8 H8 _ I8 q8) fun b s9 ⟨H9, I9, q9⟩ => ?_
      have hip : ∀ p ∈ pinsAt fp s7.heap, p.1 ≠ S := fun p hp z => hS (z ▸ (of_pinsAt hp).1)
      -- the turn's end
      have fin : ∀ {n' : Nat} {ys' : List V} {s₀' s' : Shared} {H' : Hp}, n' + ys'.length = sizeLine → GI (gCx X A s H scope code fp [(a, go)]) S (pinsAt fp s7.heap) ys' σ8 H' s' → Nx ys' H' →
          Seg (model X.prog X.w) A (REnd X.prog X.w X.stack H s fp S a g Q E) (YItem s S a g) n' s₀' (.compLoop (.GeneratorExp elt [⟨tg, iter, ifs, 0⟩] scope pos) 0 (.ref it) .none (gEnv X scope s.heap.objs.size code))
            ((model X.prog X.w).den (.compLoop (.GeneratorExp elt [⟨tg, iter, ifs, 0⟩] scope pos) 0 (.ref it) .none (gEnv X scope s.heap.objs.size code))) [] s' := fun {n' ys' s₀' s' H'} hn' hI' nx => by
        obtain ⟨m', hm, w'⟩ := hNx ys' H' nx
        obtain ⟨acc', cc', r', I'⟩ := hI'
        have pin' : ∀ b ∈ fp, ∀ o, s7.heap.get? b = some o → s'.heap.get? b = some o ∧ H' b = none := fun b hb o e =>
          let z := I'.pin (b, o) (List.mem_append_right _ (List.mem_cons_of_mem _ (mem_pinsAt hb e)))
          ⟨z.1, z.2.1⟩
        have hl : (wipe σ (own.map (·.2))).length = σ8.length := by rw [← hw8, wipe_length]
        refine ih m' hm n' ys' (i + 1) H' s₀' s' hn' w' ⟨acc', cc', r', ((Inv.unpinned (pins := [(S, lstObj acc' cc')]) I')).weak hl fun j v e => ?_⟩ (T.keep _ _ _ st7 fun b hb o e => (pin' b hb o e).1) fun b hb => ?_
        · rw [← hw8] at e
          exact (wipe_some e).1
        · obtain ⟨o, e, _⟩ := T.obj _ _ st7 b hb
          exact (pin' b hb o e).2
      cases b with
      | false =>
        simp only [Bool.false_eq_true, if_false] at q9 ⊢
        exact seg_again rfl (fin hn ⟨acc, cc, r5, I9⟩ q9)
      | true =>
        simp only [if_true] at q9 ⊢
        have hy : ∀ v, yieldOut (gEnv X scope s.heap.objs.size code) v = yieldValue v := fun v => by simp only [yieldOut, gEnv, genEnv, hco, Bool.false_eq_true, if_false]
        simp only [hy]
        rw [Sem.bind_eq_wrap', Sem.bind_eq_wrap', Sem.wrap_wrap, Sem.wrap_wrap]
        refine seg_wrap ?_
        rw [over_gx]
        refine thnF (pe.run _ s9 σ8 H9 _ I9 q9) fun z s10 ⟨yv, H10, I10, r10, hz10, nx⟩ => ?_
        obtain ⟨k, hk⟩ : ∃ k, n = k + 1 := ⟨n - 1, by omega⟩
        subst hk
        obtain ⟨e1, _, _⟩ := I10.pin (S, lstObj acc cc) (List.mem_append_right _ List.mem_cons_self)
        have hG10 : GI (gCx X A s H scope code fp [(a, go)]) S (pinsAt fp s7.heap) ys σ8 H10 s10 := ⟨acc, cc, r5, I10⟩
        refine seg_at (seg_yield rfl rfl rfl ⟨I10.os, I10.bare, I10.nolimit, isG I10, ⟨acc, cc, e1, by omega⟩, fun s' z' => ?_⟩)
        refine seg_again rfl (fin (by rw [List.length_append, List.length_singleton]; omega) (hG10.woken (fun p hp => ?_) hip hAp r10 z') nx)
        rw [List.mem_singleton.mp hp]
        exact Ne.symm hSa
end
end Gx

/-! generator expressions: made, and eaten by tuple() -/
namespace Gx
open PySem PySem.Spec PyProof.Rows L2 GenW
abbrev EN : XK := fun _ _ _ => False
def tgGx (P : Addr) (wi : TI) (g : TG) (tt : TT) (te : TE) (vs : List Nat) : TGen := fun σ H cont => wi σ H fun J H1 => GxR.TabG H1 P ∧ ∀ H2, GxR.Tabbed P H1 H2 → ∃ W : Nat → Nat → List V → Hp → Prop, (∃ m, W 0 m [] H2) ∧ gTurns J cont σ vs g tt te W
section
variable {X : Cx}
theorem pgen_gx {c P : Addr} {k : Nat} {tg iter elt : Expr} {ifs : List Expr} {scope : Scope} {own : List (Str × Nat)} {pos : Pos} {wi : TI} {g : TG} {tt : TT} {te : TE} (hN : X.N.Nodup) (TB : GxR.TabB X.base X.mg c P) (hcode : X.env.code = .ref c) (hroom : X.A.depth < recursionLimit) (hi : PI X tg iter wi) (ok : GxOk X.N X.env.scope scope own)
    (hg : ∀ (A : Around) (s : Shared) (H : Hp) (code : Value) (fp : List Addr) (pn : List (Addr × Obj)), Room k (A.deeper (gEnv X scope s.heap.objs.size code)) → PG (gCx X A s H scope code fp pn) tg g)
    (ht : ∀ (A : Around) (s : Shared) (H : Hp) (code : Value) (fp : List Addr) (pn : List (Addr × Obj)), Room k (A.deeper (gEnv X scope s.heap.objs.size code)) → PTs (gCx X A s H scope code fp pn) ifs tt)
    (he : ∀ (A : Around) (s : Shared) (H : Hp) (code : Value) (fp : List Addr) (pn : List (Addr × Obj)), Room k (A.deeper (gEnv X scope s.heap.objs.size code)) → PE (gCx X A s H scope code fp pn) elt te) (hs : ∀ v, genFold iter X.env v = pure v) :
    PGen X (k + 1) (.GeneratorExp elt [⟨tg, iter, ifs, 0⟩] scope pos) (tgGx P wi g tt te (own.map (·.2))) EN := by
  refine ⟨fun pins s σ H cont I h => ?_⟩
  have hfree : ∀ y ∈ scope.names, y.2 = .free → ∃ c, X.env.cells.lookup y.1 = some c := fun y hy e => by
    rcases ok.free y hy e with k | k
    · exact I.ok.has _ (.inl k)
    · exact I.ok.has _ (.inr k)
  refine wpAny_GeneratorExp_make ok.co (closure_ok hfree) ok.cell ok.dot ok.kind hroom ?_ hs
  refine thn (hi.run pins s σ H _ I h) fun xv s1 hx => thn hx fun itv s2 h2 => ?_
  obtain ⟨it, fp, tn, J, H1, e, I2, T, st2, f2, ⟨ps, hP, hts⟩, q⟩ := h2
  subst e
  refine ⟨I2.nolimit, ?_⟩
  have hPs : s2.heap.get? P = some { cls := .none, data := .fields ps } := I2.hok P _ hP
  have cd : PySem.W.CodeHd s2.heap c P := TB.code.keeps fun b u e => I2.bk b u e
  have nP : ∀ b ∈ fp, b ≠ P := fun b hb z => by
    have q := (f2 b hb).1
    rw [z, hP] at q
    cases q
  have szf : ∀ b ∈ fp, b < s2.heap.objs.size := fun b hb => by
    obtain ⟨o, e, _⟩ := T.obj _ _ st2 b hb
    exact Heap.lt_size e
  have main : ∀ (code : Value) (h3 : Heap) (tk : Nat) (ps' : Array Value), Heap.ExtBut P s2.heap h3 → s2.heap.objs.size ≤ h3.objs.size → h3.get? P = some { cls := .none, data := .fields ps' } → (∃ more, ps' = ps ++ more) → TriplesOk ps'.toList →
      wpAny (model X.prog X.w) X.A (builtinsFor X.env.globals X.env.builtins) (fun bi s₄ => ∀ h', h'.Ns s₄.heap.objs.size (fun y => if y = ".0" then some (.ref it) else none) → Heap.SameBut s₄.heap.objs.size (s₄.heap.push { cls := .type "frame", data := .dict #[] }) h' →
          ∃ H1 sc ex, Inv X pins σ H1 sc ∧ ExOk X pins ex ∧ GMade X.prog X.w (k + 1) X.stack H1 sc ex cont EN (.ref h'.objs.size) { s₄ with
            gens := s₄.gens.push (.fresh (.compStart (.GeneratorExp elt [⟨tg, iter, ifs, 0⟩] scope pos) 0 (.ref it) .none (genEnv scope (cloFrom X.env.cells scope.names []) s₄.heap.objs.size code bi X.env))),
            toks := s₄.toks + 1 + 1 + 1,
            heap := h'.push { cls := .type "generator", data := .fields #[.int s₄.gens.size 0, .str "<genexpr>" (s₄.toks + 1), .str (X.env.qual ++ "<genexpr>") (s₄.toks + 1 + 1)] } }) X.xe { s2 with heap := h3, toks := tk } := by
    intro code h3 tk ps' hx hsz hP3 hmore ht3
    obtain ⟨more, em⟩ := hmore
    obtain ⟨bm, ob, e1, e2, e3, e4, e5, e6, e7, e8⟩ := TB.bm
    have I4 : Inv X pins σ (upd H1 P (.tbl (ps ++ more))) { s2 with heap := h3, toks := tk } := GxR.inv_tab (g' := s2.gens) (d' := s2.drawn) I2 hP (fun b o hb e => hx b o hb e) (by rw [← em]; exact hP3) I2.bare
    generalize hs4 : ({ s2 with heap := h3, toks := tk } : Shared) = s4 at I4 ⊢
    have h4 : s4.heap = h3 := by rw [← hs4]
    refine wpAny_builtinsFor (m := X.mg) (by rw [I4.ok.glob]; exact I4.mod.glob.keeps I4.bk) e1 e2 (I4.bk _ _ e5) e6 e7 e8 ?_
    intro h' hns hsb
    have tabd : GxR.Tabbed P H1 (upd H1 P (.tbl (ps ++ more))) := ⟨⟨_, upd_same, by rw [← em]; exact ht3⟩, fun b hb => upd_ne hb⟩
    obtain ⟨W, ⟨m0, w0⟩, turn⟩ := q _ tabd
    have f4 : ∀ b ∈ fp, FpOk X pins (upd H1 P (.tbl (ps ++ more))) b ∧ b < s4.heap.objs.size := fun b hb => ⟨⟨by rw [upd_ne (nP b hb)]; exact (f2 b hb).1, (f2 b hb).2⟩, by rw [h4]; exact Nat.lt_of_lt_of_le (szf b hb) hsz⟩
    have st4 : tn 0 s4.heap := T.keep _ _ _ st2 fun b hb o e => by rw [h4]; exact hx b o (nP b hb) e
    have sz' : h'.objs.size = s4.heap.objs.size + 1 := by rw [hsb.1, Heap.size_push]
    have kp' : ∀ b o, s4.heap.get? b = some o → h'.get? b = some o := fun b o e => hsb.extBut b o (Nat.ne_of_lt (Heap.lt_size e)) (Heap.get?_push_of_some _ e)
    generalize hgo : ({ cls := .type "generator", data := .fields #[.int s4.gens.size 0, .str "<genexpr>" (s4.toks + 1), .str (X.env.qual ++ "<genexpr>") (s4.toks + 1 + 1)] } : Obj) = go
    have g1 : go.cls = .type "generator" := by rw [← hgo]
    have g2 : go.data = .fields #[.int s4.gens.size 0, .str "<genexpr>" (s4.toks + 1), .str (X.env.qual ++ "<genexpr>") (s4.toks + 1 + 1)] := by rw [← hgo]
    have g3 : go.slots = #[] := by rw [← hgo]
    have g4 : (h'.push go).get? h'.objs.size = some go := Heap.get?_push_size _ (by rw [← hgo]; rfl)
    refine ⟨_, s4, fp, I4, fun b hb => ⟨(f2 b hb).2.2.2.1, (f2 b hb).2.1, (f2 b hb).2.2.2.2.1, (f2 b hb).2.2.2.2.2⟩, h'.objs.size, s4.gens.size, _, rfl, by rw [sz']; exact Nat.le_succ _, by show _ < (h'.push go).objs.size; rw [Heap.size_push]; exact Nat.lt_succ_self _,
      ⟨go, _, _, g4, g1, g2, g3⟩, Array.getElem?_push_size .., rfl, I4.bare.push rfl, I4.nolimit.keeps fun b o e => Heap.get?_push_of_some _ (kp' b o e), fun b o e => Heap.get?_push_of_some _ (kp' b o e), ?_⟩
    intro Aw Sx s5 hrw hfr hSx hk5 hSo hos hba
    obtain ⟨cS, heS⟩ := hSo
    have hSx' : h'.objs.size < Sx := by
      have hSx' : (h'.push go).objs.size ≤ Sx := hSx
      rw [Heap.size_push] at hSx'
      exact hSx'
    have hSx2 : s4.heap.objs.size < Sx := by
      have e9 : s4.heap.objs.size < h'.objs.size := by rw [sz']; exact Nat.lt_succ_self _
      exact Nat.lt_trans e9 hSx'
    have hea : s5.heap.get? h'.objs.size = some go := hk5 _ _ g4
    have J5 : Inv (gCx X Aw s4 (upd H1 P (.tbl (ps ++ more))) scope code fp [(h'.objs.size, go)]) [(Sx, lstObj #[] cS)] (wipe σ (own.map (·.2))) (upd H1 P (.tbl (ps ++ more))) s5 := by
      refine gx_start I4 ok hN hrw.hd hfr f4 (hns.keeps fun b o e => hk5 b o (Heap.get?_push_of_some _ e)) (fun b o e => hk5 b o (Heap.get?_push_of_some _ (kp' b o e))) hos hba fun p hp => ?_
      rcases List.mem_append.mp hp with z | z
      · rw [List.mem_singleton.mp z]
        exact ⟨hea, by show s4.heap.objs.size < h'.objs.size; rw [sz']; exact Nat.lt_succ_self _, fun v q => by have q : go.data = .cell v := q; rw [g2] at q; cases q⟩
      · rw [List.mem_singleton.mp z]
        exact ⟨heS, hSx2, fun v q => by cases q⟩
    have hd := hrw.deeper (gEnv X scope s4.heap.objs.size code)
    have hAp : Apart (gCx X Aw s4 (upd H1 P (.tbl (ps ++ more))) scope code fp [(h'.objs.size, go)]) Sx := by
      refine ⟨Nat.le_of_lt hSx2, Nat.ne_of_gt hSx2, fun y c' e z => ?_⟩
      have e2 : (cloFrom X.env.cells scope.names []).lookup y = some c' := e
      obtain ⟨v, z2⟩ := J5.cell y c' e2
      have hc : X.env.cells.lookup y = some c' := by
        rcases cloFrom_mem (PySem.mem_of_lookup e2) with hm | ⟨h1, h2⟩
        · cases hm
        · obtain ⟨c1, hc⟩ := hfree _ h1 rfl
          have hc : X.env.cells.lookup y = some c1 := hc
          rw [h2, hc] <;> rfl
      obtain ⟨v, z3⟩ := I4.cell y c' hc
      have := z3.lt
      rw [z] at this
      exact absurd (Nat.lt_trans this hSx2) (Nat.lt_irrefl _)
    have loop := gx_loop (E := EN) (iter := iter) (pos := pos) g1 g2 g3 ok.co T (hg Aw s4 _ code fp [(h'.objs.size, go)] hd) (ht Aw s4 _ code fp _ hd) (he Aw s4 _ code fp _ hd) turn (S := Sx) (fun z => absurd (Nat.lt_trans (f4 _ z).2 hSx2) (Nat.lt_irrefl _))
      (fun z => absurd (f4 _ z).2 (by rw [sz']; exact Nat.not_lt_of_le (Nat.le_succ _))) (Nat.ne_of_gt hSx') hAp m0 sizeLine [] 0 _ s5 s5 (Nat.add_zero _) w0 ⟨#[], cS, .nil, J5⟩ (T.keep _ _ _ st4 fun b hb o e => hk5 b o (Heap.get?_push_of_some _ (kp' b o e))) fun b hb => (f4 b hb).1.1
    show Seg _ Aw _ _ _ s5 _ ((compStart (.GeneratorExp elt [⟨tg, iter, ifs, 0⟩] scope pos) 0 (.ref it) .none (gEnv X scope s4.heap.objs.size code)).onRaise (leaving (gEnv X scope s4.heap.objs.size code))) [] s5
    unfold compStart
    rw [Sem.onRaise_eq_wrap]
    show Seg _ Aw _ _ _ s5 _ ((ask >>= _).wrap _ _ _ _) [] s5
    refine seg_bind_wrap (wpAny_askSetting ?_)
    have st5 : tn 0 s5.heap := T.keep _ _ _ st4 fun b hb o e => hk5 b o (Heap.get?_push_of_some _ (kp' b o e))
    split
    · exact seg_again rfl loop
    · first
        | exact seg_bind_wrap (wpAny_rule (seg_bind_wrap (wpAny_standAt (seg_bind_wrap (T.self _ 0 s5 _ _ st5 (seg_again rfl loop))))))
        | (refine seg_bind_wrap (wpAny_rule ?_); show Seg _ Aw _ _ _ s5 _ ((standAt iter.pos >>= _).wrap _ _ _ _) [] s5; exact seg_bind_wrap (wpAny_standAt (seg_bind_wrap (T.self _ 0 s5 _ _ st5 (seg_again rfl loop)))))
  cases hf : codeAmong pos ps.toList with
  | none =>
    refine wpAny_genexprCodeX hcode (cd.code hPs hts) (cd.tab hPs) hf fun c' h' tk hx hge hlt hco' _ htab' _ => ?_
    obtain ⟨o1, vs, f1, tf, fl, tg, inF, tx, tt, op, _, _, _, _, _, _, _, _, _, htr, _⟩ := hco'
    exact main _ h' tk _ hx (Nat.le_trans hge (Nat.le_of_lt hlt)) htab'.2 ⟨_, rfl⟩ htr
  | some cv =>
    refine wpAny_genexprCode_hit hcode (cd.code hPs hts) hf ?_
    exact main cv s2.heap s2.toks ps (Heap.ExtBut.refl _ _) (Nat.le_refl _) hPs ⟨#[], by simp⟩ hts
end
end Gx

/-! tuple() of a generator -/
namespace Gx
open PySem PySem.Spec PyProof.Rows L2 GenW
theorem collect_gm {P : Program} {w : World} {outer : List PySem.Env} {H : Hp} {sc s : Shared} {ex : List Addr} {Q : List V → Hp → Prop} {A : Around} {k : Nat} {u : Value} {Q' : List Value → Shared → Prop} {E : Value → Shared → Prop}
    (hr : Room (k + 2) A) (hfr : A.frames = some outer) (h : GMade P w k outer H sc ex Q EN u s)
    (hQ : ∀ (s' : Shared) (acc : Array Value) (H' : Hp) (ys : List V), Vals ys acc.toList → ys.length ≤ sizeLine → s'.os = sc.os → AllBare s'.gens → Un (frs outer) ex H H' sc.heap s'.heap → HOk P w H' s'.heap → s.heap.objs.size ≤ s'.heap.objs.size → Q ys H' → Q' acc.toList s') :
    wpAny (model P w) A (collect u) Q' E s := by
  obtain ⟨a, g, c, rfl, ha1, ha2, hg, hgs, hos, hb, hl, hkp, wake⟩ := h
  have hSa : s.heap.objs.size ≠ a := Nat.ne_of_gt ha2
  have hcl : cStatics < s.heap.objs.size := let ⟨_, hn, _⟩ := hl; hn.lt
  have hSc : s.heap.objs.size ≠ cStatics := Nat.ne_of_gt hcl
  have up : ∀ (h : Heap) (f : Obj → Obj), (∀ b o, s.heap.get? b = some o → h.get? b = some o) → ∀ b o, s.heap.get? b = some o → (h.update s.heap.objs.size f).get? b = some o := fun h f q b o e =>
    (Heap.get?_update_other _ _ (Ne.symm (Nat.ne_of_lt (Heap.lt_size e)))).trans (q b o e)
  have k1 : ∀ b o, s.heap.get? b = some o → (s.heap.push { cls := .type "list", data := .seq ([] : List Value).toArray }).get? b = some o := fun b o e => Heap.get?_push_of_some _ e
  have gty : ∀ {h : Heap}, (∀ b o, s.heap.get? b = some o → h.get? b = some o) → h.IsGen a g := fun {h} q => hg.keeps q
  unfold collect
  refine wpAny_bind (wpAny_runValue (codeAny_builtin F.entry_proto_collect ?_))
  rw [Around.under_plainId F.plain_proto_collect _]
  show wpAny _ A.in1 (newList [] >>= fun l => again (.builtin "list.__iadd__" ⟨[l, .ref a], []⟩)) _ _ s
  refine wpAny_bind (wpAny_newObj_type ?_)
  refine wpAny_pure ⟨plainId_quiet F.plain_list_iadd _, codeAny_builtin F.entry_list_iadd ?_⟩
  rw [Around.under_plainId F.plain_list_iadd _]
  show wpAny _ A.in1 (Builtin.List.listExtendWith (.ref s.heap.objs.size) (.ref a) (.ref s.heap.objs.size)) _ _ _
  unfold Builtin.List.listExtendWith
  refine wpAny_bind (wpAny_typeOf (Heap.IsGen.typeIs (s := { s with heap := _ }) (gty k1)) ?_)
  have h1 : Builtin.List.listSameRef (.ref s.heap.objs.size) (.ref a) = false := by simp [Builtin.List.listSameRef, hSa]
  have h2 : (Value.type "generator" == Value.type "list") = false := by decide
  have h3 : (Value.type "generator" == Value.type "tuple") = false := by decide
  simp only [h1, h2, h3, Bool.or_false, Bool.false_eq_true, if_false]
  refine wpAny_bind (wpAny_pyIter_gen (s := { s with heap := _ }) (gty k1) ?_)
  refine wpAny_bind (wpAny_holding ?_)
  unfold Builtin.List.listLengthHint
  refine wpAny_bind (wpAny_specialOf (Heap.IsGen.typeIs (s := { s with heap := _ }) (gty k1)) F.gen_no_len ?_)
  show wpAny _ A.in1 (specialOf (Value.ref a) (Str.ofString "__length_hint__") >>= _) _ _ _
  refine wpAny_bind (wpAny_specialOf (Heap.IsGen.typeIs (s := { s with heap := _ }) (gty k1)) F.gen_no_hint ?_)
  refine wpAny_pure ?_
  show wpAny _ A.in1 (rule "list.extend.makes-room" >>= fun _ => Builtin.List.listTouch (.ref s.heap.objs.size) >>= fun _ =>
    again (.builtin "list.extend.loop" ⟨[.ref s.heap.objs.size, .ref a, .ref s.heap.objs.size], []⟩)) _ _ _
  refine wpAny_bind (wpAny_rule ?_)
  have hS₁ : (s.heap.push { cls := .type "list", data := .seq ([] : List Value).toArray }).get? s.heap.objs.size = some { cls := .type "list", data := .seq ([] : List Value).toArray } := Heap.get?_push_size _ rfl
  refine wpAny_bind ?_
  show wpAny _ A.in1 (updateSeq s.heap.objs.size (·.push .none) >>= fun _ => updateSeq s.heap.objs.size (·.pop)) _ _ _
  refine wpAny_bind (wpAny_updateSeq hS₁ rfl ?_)
  have hS₂ := Heap.get?_update_self (Obj.mapSeq (·.push Value.none)) hS₁ rfl
  refine wpAny_updateSeq hS₂ rfl ?_
  have hS₃ := Heap.get?_update_self (Obj.mapSeq (·.pop)) hS₂ rfl
  have k4 := up _ (Obj.mapSeq (·.pop)) (up _ (Obj.mapSeq (·.push Value.none)) k1)
  refine wpAny_pure ⟨plainId_quiet F.plain_extend_loop _, ?_⟩
  refine drain (P := P) (w := w) (outer := outer) (H := H) (sc := sc) (ex := ex) (Q := Q) (EX := EN) (A := A) (g := g) hr.hd (by have := hr.dp; omega) hSa hSc
    (fun s' acc c H' ys q1 q2 q3 q4 q5 q6 q7 q8 q9 => ?_) (fun e s' hc => ?_)
    sizeLine _ (gty k4) (hl.keeps k4) ⟨_, hgs, rfl, ?_⟩
  · show wpAny _ A (load s.heap.objs.size >>= _) _ _ s'
    refine wpAny_bind (wpAny_load q1 ?_)
    exact wpAny_pure (hQ s' acc H' ys q2 q3 q4 q5 q6 q7 (Nat.le_of_lt (Heap.lt_size q1)) q9)
  · obtain ⟨_, _, _, _, _, _, _, _, _, _, _, _, hW⟩ := hc
    exact hW.elim
  · refine wake _ _ _ ⟨hr.hd, ?_, ?_⟩ hfr (Nat.le_refl _) k4 ⟨_, hS₃⟩ hos (allBare_setGen (s := { s with heap := _ }) hb rfl)
    · have := hr.dp
      show A.depth + 3 * k + 5 < _
      omega
    · have := hr.un
      show A.units + 1 + 1 + 16 * k + 200 < _
      omega
section
variable {P : Program} {w : World} {A : Around} {E : Value → Shared → Prop} {outer : List PySem.Env} {H : Hp} {sc s : Shared} {ex : List Addr} {Q : List V → Hp → Prop} {k : Nat} {u : Value}
theorem code_tuple_gm {Q₁ : Value → Shared → Prop} (hr : Room (k + 3) A) (hfr : A.frames = some outer) (h : GMade P w k outer H sc ex Q EN u s)
    (hQ : ∀ (s' : Shared) (acc : Array Value) (H' : Hp) (ys : List V), Vals ys acc.toList → ys.length ≤ sizeLine → s'.os = sc.os → AllBare s'.gens → Un (frs outer) ex H H' sc.heap s'.heap → HOk P w H' s'.heap → s.heap.objs.size ≤ s'.heap.objs.size → Q ys H' → Q₁ (.ref s'.heap.objs.size) { s' with heap := s'.heap.push { cls := .type "tuple", data := .seq acc } }) :
    codeAny (model P w) A (.call (.builtin "tuple.__new__") ⟨[.type "tuple", u], []⟩) (wants Q₁ E) s := by
  obtain ⟨a, g, c, rfl, ha1, ha2, hg, _⟩ := id h
  refine codeAny_of_tree ?_
  show wpAny _ A.in1 (do checkBuiltinCall "tuple.__new__" ⟨[.type "tuple", .ref a], []⟩; again (.builtin "tuple.__new__" ⟨[.type "tuple", .ref a], []⟩)) _ _ s
  refine wpAny_bind (wpAny_of_eq (F.newCall_tuple_1 _) (wpAny_pure ⟨plainId_quiet F.plain_tuple_new _, codeAny_builtin F.entry_tuple_new ?_⟩))
  rw [Around.under_plainId F.plain_tuple_new _]
  have hsub := sub_tuple_self
  have hinit := init_tuple_lookup
  have hmh := madeHere_tuple
  have hTI : s.TypeIs (.ref a) "generator" := hg.typeIs
  wp_walk using wpAny_typeOf hTI, collect_gm (A := A.in1) hr.in1 hfr h
  intro s' acc H' ys q1 q2 q3 q4 q5 q6 q7 q8
  show wpAny _ _ (Builtin.Tuple.tupleExact acc.toList.toArray >>= fun v => ret v) _ _ _
  unfold Builtin.Tuple.tupleExact
  have hlen : acc.size = ys.length := by
    have e1 := q1.length
    have e2 : acc.toList.length = acc.size := by simp
    omega
  refine wpAny_bind (wpAny_newObj_type ?_ (by show acc.toList.toArray.size ≤ sizeLine; simp only [Array.toArray_toList]; rw [hlen]; exact q2))
  refine wpAny_pure ?_
  have e : acc.toList.toArray = acc := by simp
  rw [e]
  exact hQ s' acc H' ys q1 q2 q3 q4 q5 q6 q7 q8
theorem call_tuple_gm {Q' : Value → Shared → Prop} (hr : Room (k + 4) A) (hfr : A.frames = some outer) (h : GMade P w k outer H sc ex Q EN u s)
    (hQ : ∀ (s' : Shared) (acc : Array Value) (H' : Hp) (ys : List V), Vals ys acc.toList → ys.length ≤ sizeLine → s'.os = sc.os → AllBare s'.gens → Un (frs outer) ex H H' sc.heap s'.heap → HOk P w H' s'.heap → s.heap.objs.size ≤ s'.heap.objs.size → Q ys H' → Q' (.ref s'.heap.objs.size) { s' with heap := s'.heap.push { cls := .type "tuple", data := .seq acc } }) :
    wpAny (model P w) A (call (.type "tuple") [u]) Q' E s := by
  refine callType_codes (Q₁ := fun obj s₁ => s₁.TypeIs obj "tuple" ∧ Q' obj s₁) F.called_tuple (F.typeCall_tuple_1 _) F.entry_object_init
    (code_tuple_gm hr.in1 hfr h fun s' acc H' ys q1 q2 q3 q4 q5 q6 q7 q8 => ⟨⟨_, Heap.get?_push_size _ rfl, rfl⟩, hQ s' acc H' ys q1 q2 q3 q4 q5 q6 q7 q8⟩) fun obj s₁ h₁ => ?_
  exact ⟨h₁.1, F.args_object_init_2 obj _, object_init_meets F.called_tuple.init.lookup F.called_tuple.made (by decide) P w A.in1 _ s₁ ⟨h₁.1, rfl, h₁.2⟩⟩
end
section
variable {X : Cx} {k : Nat} {p pos : Pos}
def tTupG (tg : TGen) : TE := fun σ H Q => tg σ H fun out H2 => ∀ q, H2 q = none → Q (.ref q) (upd H2 q (.tup out))
theorem pe_tupG {e : Expr} {tg : TGen} {nm : Str} (h : PGen X k e tg EN) (hr : Room (k + 4) X.A) (hg : Gl X nm) (hmg : X.mg nm = none) (hv : bootBuiltins nm = some (.type "tuple")) (hnm : nm ≠ "__name__" := by decide) (hdb : (nm == ("__debug__" : Str)) = false := by decide)
    (he : starEach [e] X.env = (false, eval e X.env) :: starEach [] X.env := by rfl) : PE X (.Call (.Name nm p) [e] [] pos) (tTupG tg) := by
  refine ⟨fun pins s σ H Q I hq => ?_⟩
  refine wpAny_Call_Name_kw (ld_blt I hg hmg hv ?_ hnm hdb)
  refine PyProof.Rows.callWith_type1 ?_ he rfl
  rw [he]
  show wpAny _ _ (spliced ((false, eval e X.env) :: backTo pos (starEach [] X.env))) _ _ s
  refine Calls.spliced_cons (thn (h.run pins s σ H _ I hq) fun u s1 ⟨H1, sc, ex, I1, hex, hG⟩ => ?_)
  refine Calls.spliced_nil ?_
  have hsz : sc.heap.objs.size ≤ s1.heap.objs.size := by
    obtain ⟨a, g, c, _, h1, h2, _⟩ := hG
    exact Nat.le_trans h1 (Nat.le_of_lt h2)
  refine call_tuple_gm hr I1.ok.frames hG fun s' acc H' ys q1 q2 q3 q4 q5 q6 q7 q8 => ?_
  have I2 : Inv X pins σ H' s' := I1.call' (ch := ex) q3 q5 q6 q4 hex
  have hn : H' s'.heap.objs.size = none := q6.fresh (Nat.le_refl _)
  have I3 : Inv X pins σ (upd H' s'.heap.objs.size (.tup ys)) { s' with heap := s'.heap.push { cls := .type "tuple", data := .seq acc } } :=
    I2.laid (t' := s'.toks) (fun b o e => Heap.get?_push_of_some _ e) (Nat.le_refl _) ⟨q2, acc.toList, q1, ⟨_, Heap.get?_push_size _ rfl, rfl, ⟨0, by simp⟩⟩⟩
  exact ⟨.ref s'.heap.objs.size, _, I3, rfl, q8 _ hn⟩
end
end Gx

/-! tuple(generator expression): the value layer's rule -/
namespace Vl
open PySem PySem.Spec PyProof.Rows L2
def mkT (xs : List D) : M D := M.guard (decide (xs.length ≤ many)) (M.pure (.tup xs))
/-- tuple(e for .. in it if t) -/
def eGen (vs : List Nat) (it : IF) (g : GF) (t : TF) (e : EF) : EF := fun Γ => M.bind (it Γ) fun w => M.bind (lcW (lcB vs g t e Γ) w []) mkT
section
variable {K : PySem.W.Frag}
theorem gx_main {w : Wk} {n : Nat} {L : Nat → List D → M (List D)} {J : It} {Z : (Addr → Prop) → List Addr → Hp → Prop} {Q : VK} {W : XK} {φ : Addr → Prop} {ρ : List Addr} {Γ : Env} {μ : Sto} {σ : L2.St} {H : Hp} {vs : List Nat} {tg : TG} {g : GF} {t : TF} {e : EF}
    (ht : TgOk K vs tg g) (nox : ∀ d Γ μ, noX (g d Γ μ) = true) (hL : LcIs w (lcB vs g t e Γ) n L) (hJ : Wks K J w Z) (hz : Z φ ρ H) (he : EnvIs K φ ρ H σ Γ) (hr : Rep K φ ρ μ H) (p : Post K (VIs K) φ ρ H Q W (M.bind (L 0 []) mkT μ)) :
    ∃ Wv : Nat → Nat → List V → Hp → Prop, (∃ m, Wv 0 m [] H) ∧ Gx.gTurns J (fun out H2 => ∀ q, H2 q = none → Q (.ref q) (upd H2 q (.tup out))) σ vs tg (tT K W0 t) (tE K W0 e) Wv := by
  let Sta : Nat → List V → Hp → Prop := fun i ys G => ∃ (φ : Addr → Prop) (ρ : List Addr) (μ : Sto) (acc : List D), Rep K φ ρ μ G ∧ Z φ ρ G ∧ EnvIs K φ ρ G σ Γ ∧ VsIs K φ ρ G ys acc ∧ Post K (VIs K) φ ρ G Q W (M.bind (L i acc) mkT μ)
  refine ⟨fun i m ys G => m + i = n + 1 ∧ Sta i ys G, ⟨n + 1, rfl, φ, ρ, μ, [], hr, hz, he, .nil, p⟩, ?_⟩
  rintro i m ys G ⟨hm, φ, ρ, μ, acc, rep, hz, he, hv, p⟩
  cases ei : itm μ w i with
  | none =>
    unfold M.bind at p
    rw [hL.bad i acc μ ei] at p; exact p.elim
  | some o => cases o with
    | none =>
      rcases hL.done i acc μ ei with e1 | e1
      · unfold M.bind at p
        rw [e1] at p
        have p : Post K (VIs K) φ ρ G Q W (mkT acc μ) := p
        obtain ⟨c, p⟩ := guard_post p
        exact .inl ⟨hJ.stop rep hz ei, fun q hq => Post.tup rep p hv hq⟩
      · unfold M.bind at p
        rw [e1] at p; exact p.elim
    | some d =>
      rcases hL.step i acc μ d ei with e1 | ⟨lt, e1⟩
      · unfold M.bind at p
        rw [e1] at p; exact p.elim
      · obtain ⟨h1, h2⟩ := hJ.go rep hz ei
        refine .inr ⟨h1, Sta (i + 1), fun ys' H' q => ⟨m - 1, by omega, by omega, q⟩, fun x H' hy => ?_⟩
        obtain ⟨l1, v1⟩ := h2 x H' hy
        have pp : Post K (VIs K) φ ρ G Q W (M.bind (M.bind (lcB vs g t e Γ d) (fun o => match o with
          | some x => M.guard (decide (acc.length < many)) (L (i + 1) (acc ++ [x]))
          | none => L (i + 1) acc)) mkT μ) := by
          have z : M.bind (L i acc) mkT μ = M.bind (M.bind (lcB vs g t e Γ d) (fun o => match o with
            | some x => M.guard (decide (acc.length < many)) (L (i + 1) (acc ++ [x]))
            | none => L (i + 1) acc)) mkT μ := by
            exact bind_congr e1
          rw [← z]; exact p
        have he1 := (l1.env rep he).wipe vs
        unfold lcB at pp
        rw [bind_assoc, bind_assoc] at pp
        have nx := nox d (wipeD Γ vs) μ
        cases qg : g d (wipeD Γ vs) μ with
        | bad => rw [bind_bad qg] at pp; exact pp.elim
        | exc x m => rw [qg] at nx; cases nx
        | ok Γ1 μ1 =>
          rw [bind_ok qg, bind_assoc] at pp
          refine ht he1 l1.rep v1 qg fun sm σ2 he2 w2 => ⟨by rw [w2]; exact wipe_idem σ vs, ?_⟩
          subst sm
          refine ⟨_, _, Γ1, μ1, he2, l1.rep, ?_⟩
          cases qt : t Γ1 μ1 with
          | bad => rw [bind_bad (calm_bad qt)] at pp; exact pp.elim
          | exc x m => rw [bind_bad (calm_exc qt)] at pp; exact pp.elim
          | ok b μ2 =>
            rw [bind_ok (calm_ok qt)] at pp
            intro φ2 ρ2 b' H2 l2 eb
            have eb : b' = b := eb
            subst eb
            have l12 := l1.trans l2
            cases b' with
            | false =>
              refine iteF ?_
              exact ⟨φ2, ρ2, μ2, acc, l12.rep, hJ.mono rep hz l12, l12.env rep he, l12.vals rep hv, Post.later pp l12⟩
            | true =>
              refine iteT ⟨_, _, Γ1, μ2, l2.env l1.rep he2, l2.rep, ?_⟩
              have pp : Post K (VIs K) φ ρ G Q W (M.bind (M.bind (M.bind (calmM (e Γ1)) fun d => M.pure (some d)) (fun o => match o with
                | some x => M.guard (decide (acc.length < many)) (L (i + 1) (acc ++ [x]))
                | none => L (i + 1) acc)) mkT μ2) := by rw [bind_assoc]; exact pp
              rw [bind_assoc, bind_assoc] at pp
              cases qe : e Γ1 μ2 with
              | bad => rw [bind_bad (calm_bad qe)] at pp; exact pp.elim
              | exc x m => rw [bind_bad (calm_exc qe)] at pp; exact pp.elim
              | ok y0 μ3 =>
                rw [bind_ok (calm_ok qe)] at pp
                intro φ3 ρ3 y H3 l3 vy
                have l13 := l12.trans l3
                have pp : Post K (VIs K) φ ρ G Q W (M.bind (M.guard (decide (acc.length < many)) (L (i + 1) (acc ++ [y0]))) mkT μ3) := pp
                cases c : decide (acc.length < many) with
                | false => rw [c] at pp; exact pp.elim
                | true =>
                  rw [c] at pp
                  have lt2 := of_decide_eq_true c
                  exact ⟨by rw [hv.length]; exact many_line (Nat.le_of_lt lt2), φ3, ρ3, μ3, acc ++ [y0], l13.rep, hJ.mono rep hz l13, l13.env rep he, (l13.vals rep hv).append (.cons vy .nil), Post.later pp l13⟩
theorem Later.tab {φ : Addr → Prop} {ρ : List Addr} {μ : Sto} {H H2 : Hp} {c : Addr × Addr} (hc : c ∈ codesOf K) (r : Rep K φ ρ μ H) (t : GxR.Tabbed c.2 H H2) : Later K φ ρ H φ ρ μ H2 := by
  obtain ⟨ps, h1, h2⟩ := r.tb c hc
  obtain ⟨⟨ps2, g1, g2⟩, g3⟩ := t
  have w : Way (K := K) φ φ ρ ρ H H2 fun k => some (.ob k) := ⟨fun _ n _ => n, fun a o _ nt ho => by rw [g3 a (fun z => by rw [z, h1] at ho; cases ho; exact nt ps rfl)]; exact ho, fun k a d hk e => by cases e; exact .ob hk⟩
  refine ⟨⟨[], by simp, by simp, by simp⟩, fun x o hx hh => ?_, ⟨r.nd, r.sub, fun a z => ?_, Paired.memL r.ok fun a d ha hd => At.move r w hd (g3 a (r.noTab ha hc)), fun c' hc' => ?_⟩⟩
  · by_cases hb : x = c.2
    · rw [hb, h1] at hh
      cases hh
      exact ⟨_, by rw [hb]; exact g1, .inr ⟨_, _, rfl, rfl⟩⟩
    · exact ⟨o, by rw [g3 x hb]; exact hh, .inl rfl⟩
  · by_cases hb : a = c.2
    · exact ⟨_, by rw [hb]; exact g1⟩
    · obtain ⟨o, ho⟩ := r.al a z
      exact ⟨o, by rw [g3 a hb]; exact ho⟩
  · by_cases hb : c'.2 = c.2
    · rw [hb]; exact ⟨ps2, g1, g2⟩
    · obtain ⟨q, q1, q2⟩ := r.tb c' hc'
      exact ⟨q, by rw [g3 _ hb]; exact q1, q2⟩
theorem tGx_of {W : L2.St → XK} {c : Addr × Addr} {it : IF} {tg : TG} {g : GF} {t : TF} {e : EF} {vs : List Nat} {σ : L2.St} {H : Hp} {Q : VK} (hc : c ∈ codesOf K) (ht : TgOk K vs tg g) (nox : ∀ d Γ μ, noX (g d Γ μ) = true) (h : tE K W (eGen vs it g t e) σ H Q) :
    Gx.tTupG (Gx.tgGx c.2 (tI K W it) tg (tT K W0 t) (tE K W0 e) vs) σ H Q := by
  obtain ⟨φ, ρ, Γ, μ, he, hr, p⟩ := h
  refine ⟨φ, ρ, Γ, μ, he, hr, ?_⟩
  unfold eGen at p
  cases q : it Γ μ with
  | bad => rw [bind_bad q] at p; exact p
  | exc x m =>
    unfold M.bind at p
    rw [q] at p; exact p
  | ok w m1 =>
    rw [bind_ok q] at p
    intro φ1 ρ1 J H1 Z l hJ hz
    have p3 := Post.later p l
    have he := l.env hr he
    refine ⟨l.rep.tb c hc, fun H2 hT => ?_⟩
    have l2 := Later.tab hc l.rep hT
    have he2 := l2.env l.rep he
    have p := Post.later p3 l2
    have hz2 := hJ.mono l.rep hz l2
    cases w with
    | fix xs => exact gx_main ht nox (lcis_fix _ xs) hJ hz2 he2 l2.rep p
    | rng lo n => exact gx_main ht nox (lcis_rng _ lo n) hJ hz2 he2 l2.rep p
    | sto j =>
      have p : Post K (VIs K) φ1 ρ1 H2 Q (W σ) (M.bind (fun μ => (match μ[j]? with
        | some (.lst xs) => lcS (lcB vs g t e Γ) j (xs.length + 1) 0 []
        | _ => M.fail) μ) mkT m1) := p
      cases e0 : m1[j]? with
      | none =>
        unfold M.bind at p
        dsimp only at p
        rw [e0] at p; exact p.elim
      | some d =>
        cases d
        case lst xs =>
          refine gx_main (W := W σ) ht nox (lcis_sto _ j (xs.length + 1)) hJ hz2 he2 l2.rep ?_
          have z : M.bind (fun μ => (match μ[j]? with
            | some (.lst xs) => lcS (lcB vs g t e Γ) j (xs.length + 1) 0 []
            | _ => M.fail) μ) mkT m1 = M.bind (lcS (lcB vs g t e Γ) j (xs.length + 1) 0 []) mkT m1 := bind_congr (by rw [e0])
          rw [z] at p
          exact p
        all_goals
          unfold M.bind at p
          dsimp only at p
          rw [e0] at p
          exact p.elim
end
section
variable {X : Cx} {K : PySem.W.Frag} {W : L2.St → XK} {elt tg iter : Expr} {ifs : List Expr} {scope : Scope} {own : List (Str × Nat)} {pos gpos p : Pos} {it : IF} {tr : TG} {g : GF} {t : TF} {fe : EF} {k : Nat} {f : Addr}
theorem fGen (hN : X.N.Nodup) (TB : GxR.TabB X.base X.mg (coAd K f) (taAd K f) ∧ (coAd K f, taAd K f) ∈ codesOf K) (hcode : X.env.code = .ref (coAd K f)) (hr : Room (k + 5) X.A) (hmg : X.mg "tuple" = none) (hi : PI X tg iter (tI K W it)) (ok : Gx.GxOk X.N X.env.scope scope own)
    (hg : ∀ (A : Around) (s : Shared) (H : Hp) (code : Value) (fp : List Addr) (pn : List (Addr × Obj)), Room k (A.deeper (Gx.gEnv X scope s.heap.objs.size code)) → PG (Gx.gCx X A s H scope code fp pn) tg tr) (hto : TgOk K (own.map (·.2)) tr g)
    (ht : ∀ (A : Around) (s : Shared) (H : Hp) (code : Value) (fp : List Addr) (pn : List (Addr × Obj)), Room k (A.deeper (Gx.gEnv X scope s.heap.objs.size code)) → PTs (Gx.gCx X A s H scope code fp pn) ifs (tT K W0 t))
    (he : ∀ (A : Around) (s : Shared) (H : Hp) (code : Value) (fp : List Addr) (pn : List (Addr × Obj)), Room k (A.deeper (Gx.gEnv X scope s.heap.objs.size code)) → PE (Gx.gCx X A s H scope code fp pn) elt (tE K W0 fe)) (nox : ∀ d Γ μ, noX (g d Γ μ) = true)
    (hs : ∀ v, genFold iter X.env v = pure v := by intro _; rfl) (hgl : Gl X "tuple" := by rfl) :
    PE X (.Call (.Name "tuple" p) [.GeneratorExp elt [⟨tg, iter, ifs, 0⟩] scope gpos] [] pos) (tE K W (eGen (own.map (·.2)) it g t fe)) :=
  (Gx.pe_tupG (k := k + 1) (Gx.pgen_gx hN TB.1 hcode hr.depth hi ok hg ht he hs) hr hgl hmg rfl).vimp fun σ H Q h => tGx_of TB.2 hto nox h
end
end Vl

/-! the head's facts with tables of code objects and dicts of the top -/
namespace Vl
open PySem PySem.Spec PyProof.Rows L2
/-- no empty table of code objects -/
def noTab (g : Addr → Option Obj) (a : Addr) : Bool := match g a with
  | some ⟨.none, _, .fields vs, _⟩ => !vs.isEmpty
  | _ => true
def KG (n : Nat) (g : Addr → Option Obj) : PySem.W.Frag := He.frG g ((Ow.asN g n).filter (noTab g))
/-- the code object at c tells the table P -/
def codB (K : PySem.W.Frag) (c P : Addr) : Bool := match K.lookup c with
  | some ⟨.type t, _, .fields vs, _⟩ => decide (t = "code") && (match (vs[11]? : Option Value) with | some (.ref p) => p == P | _ => false) && (match (vs.getD 18 .none : Value) with | .str _ _ => true | _ => false) && (match (vs.getD 7 .none : Value) with | .int _ _ => true | _ => false) &&
      (match (vs.getD 9 .none : Value) with | .bool _ => true | _ => false) && (match (vs.getD 10 .none : Value) with | .int _ _ => true | _ => false) && !(c == P)
  | _ => false
theorem codB_ok {K : PySem.W.Frag} {c P : Addr} {h : Heap} (X : K.In h) (e : codB K c P = true) : PySem.W.CodeHd h c P := by
  unfold codB at e
  cases q : K.lookup c with
  | none => rw [q] at e; cases e
  | some o =>
    obtain ⟨oc, od, dt, osl⟩ := o
    rw [q] at e
    cases oc with
    | type t =>
      cases dt with
      | fields vs =>
        simp only [Bool.and_eq_true, decide_eq_true_eq, Bool.not_eq_true'] at e
        obtain ⟨⟨⟨⟨⟨⟨e1, e2⟩, e3⟩, e4⟩, e5⟩, e6⟩, e7⟩ := e
        have h11 : vs[11]? = some (.ref P) := by
          cases z : (vs[11]? : Option Value) with
          | none => rw [z] at e2; cases e2
          | some v =>
            rw [z] at e2
            cases v <;> first | cases e2; done | skip
            have := eq_of_beq e2
            rw [this]
        cases z3 : (vs.getD 18 .none : Value) <;> rw [z3] at e3 <;> first | cases e3; done | skip
        cases z4 : (vs.getD 7 .none : Value) <;> rw [z4] at e4 <;> first | cases e4; done | skip
        cases z5 : (vs.getD 9 .none : Value) <;> rw [z5] at e5 <;> first | cases e5; done | skip
        cases z6 : (vs.getD 10 .none : Value) <;> rw [z6] at e6 <;> first | cases e6; done | skip
        refine ⟨_, vs, _, _, _, _, _, _, _, X c _ q, congrArg Value.type e1, rfl, h11, ?_, z3, z4, z5, z6, fun z => ?_⟩
        · rw [Array.getD_eq_getD_getElem?, h11]; rfl
        · rw [z] at e7
          simp at e7
      | _ => cases e
    | _ => cases dt <;> cases e
abbrev AlG : Type := ((He.AlD × Bool) × (Bool × List He.FnW)) × ((Bool × Bool) × List (Option (List (Option (Str × Int)))))
abbrev CT : Type := Str × Option Str
def ctB (g : Addr → Option Obj) (K : PySem.W.Frag) (c : Addr × Addr) : Bool := (match g c.2 with
  | some ⟨.none, none, .fields vs, sl⟩ => vs.isEmpty && sl.isEmpty
  | _ => false) && ((K.lookup c.2).isNone && codB K c.1 c.2)
structure CtIn (h : Heap) (K : PySem.W.Frag) (c : Addr × Addr) : Prop where
  at_ : h.get? c.2 = some { cls := .none, data := .fields #[] }
  no : K.lookup c.2 = none
  code : PySem.W.CodeHd h c.1 c.2
theorem ctB_ok {g : Addr → Option Obj} {h : Heap} {K : PySem.W.Frag} {c : Addr × Addr} (X : K.In h) (hg : g = h.get?) (e : ctB g K c = true) : CtIn h K c := by
  subst hg
  obtain ⟨e1, e2⟩ := He.ba e
  obtain ⟨e3, e4⟩ := He.ba e2
  refine ⟨?_, Option.isNone_iff_eq_none.mp e3, codB_ok X e4⟩
  cases q : h.get? c.2 with
  | none => rw [q] at e1; cases e1
  | some o =>
    obtain ⟨oc, od, dt, osl⟩ := o
    rw [q] at e1
    cases oc with
    | none =>
      cases od with
      | none =>
        cases dt with
        | fields vs =>
          obtain ⟨a, b⟩ := He.ba (show (vs.isEmpty && osl.isEmpty) = true from e1)
          have a := Array.isEmpty_iff.mp a
          have b := Array.isEmpty_iff.mp b
          subst a b
          rfl
        | _ => cases e1
      | some _ => cases dt <;> cases e1
    | _ => cases od <;> cases dt <;> cases e1
def inB (K : PySem.W.Frag) (c : CT) : Bool := (codesOf K).any fun p => p.1 == coAd K (fnAd K c.1 c.2) && p.2 == taAd K (fnAd K c.1 c.2)
theorem inB_ok {K : PySem.W.Frag} {c : CT} (h : inB K c = true) : (coAd K (fnAd K c.1 c.2), taAd K (fnAd K c.1 c.2)) ∈ codesOf K := by
  obtain ⟨p, hp, e⟩ := List.any_eq_true.mp h
  obtain ⟨e1, e2⟩ := He.ba e
  have e1 := eq_of_beq e1
  have e2 := eq_of_beq e2
  rw [← e1, ← e2]; exact hp
def obsG (n : Nat) (fa : List He.Fa) (fn : List He.DefD) (fs : List Ow.DefA) (ex : PySem.W.Frag → Bool) (cts : List CT) (ts : List He.Tab) (g : Addr → Option Obj) : AlG :=
  let K := KG n g
  (((He.obsD fa fn K, ex K), (fs.all fun d => d.ok K, fs.map fun d => Ow.fnA K (d.at_ K))), (((codesOf K).all fun c => ctB g K c, cts.all fun c => inB K c), ts.map fun t => He.dicW K (t.1 K)))
structure SaysG (fa : List He.Fa) (fn : List He.DefD) (fs : List Ow.DefA) (ex : PySem.W.Frag → Bool) (cts : List CT) (ts : List He.Tab) (w : World) (h : Heap) (K : PySem.W.Frag) : Prop where
  n : Ow.SaysN fa fn fs ex K
  c : ∀ c ∈ codesOf K, CtIn h K c
  m : ∀ c ∈ cts, (coAd K (fnAd K c.1 c.2), taAd K (fnAd K c.1 c.2)) ∈ codesOf K
  t : ts.map (fun t => He.dicW K (t.1 K)) = ts.map fun t => some (He.keysIn w.params t.2)
theorem SaysG.tab {fa : List He.Fa} {fn : List He.DefD} {fs : List Ow.DefA} {ex : PySem.W.Frag → Bool} {cts : List CT} {ts : List He.Tab} {w : World} {h : Heap} {K : PySem.W.Frag} (c : SaysG fa fn fs ex cts ts w h K) (i : Nat) {t : He.Tab} (hi : ts[i]? = some t := by rfl) : ∃ es n, KDict K w (t.1 K) es n := by
  have e2 : (ts.map fun t => He.dicW K (t.1 K))[i]? = (ts.map fun t => some (He.keysIn w.params t.2))[i]? := by rw [c.t]
  rw [List.getElem?_map, List.getElem?_map, hi] at e2
  exact He.dicW_ok (Option.some.inj e2)
def valG (fn : List He.DefD) (fs : List Ow.DefA) (ts : List He.Tab) (w : World) : AlG := (((He.valD fn, true), (true, fs.map Ow.DefA.val)), ((true, true), ts.map fun t => some (He.keysIn w.params t.2)))
def hookG (n : Nat) (fa : List He.Fa) (fn : List He.DefD) (fs : List Ow.DefA) (ex : PySem.W.Frag → Bool) (cts : List CT) (ts : List He.Tab) : PySem.W.Hook where
  α := AlG
  obs := fun s => obsG n fa fn fs ex cts ts s.heap.get?
  val := fun w => valG fn fs ts w
  says := fun w h => ∃ K : PySem.W.Frag, K.In h ∧ SaysG fa fn fs ex cts ts w h K
  of := fun w s e => by
    have KI : (KG n s.heap.get?).In s.heap := He.frG_in
    have c1 := congrArg (fun z : AlG => z.1.1.1) e
    have c2 := congrArg (fun z : AlG => z.1.1.2) e
    have c3 := congrArg (fun z : AlG => z.1.2.1) e
    have c4 := congrArg (fun z : AlG => z.1.2.2) e
    have c5 := congrArg (fun z : AlG => z.2.1.1) e
    have c6 := congrArg (fun z : AlG => z.2.1.2) e
    have c7 := congrArg (fun z : AlG => z.2.2) e
    exact ⟨KG n s.heap.get?, KI, ⟨c1, c2, c3, c4⟩, fun c hc => ctB_ok KI rfl (List.all_eq_true.mp c5 c hc), fun c hc => inB_ok (List.all_eq_true.mp c6 c hc), c7⟩
  keeps := fun w h h' ⟨K, hK, c⟩ k => ⟨K, PySem.W.Frag.In.keeps hK k, c.n, fun x hx => ⟨k _ _ (c.c x hx).at_, (c.c x hx).no, (c.c x hx).code.keeps k⟩, c.m, c.t⟩
theorem obsG_eq {n : Nat} {fa : List He.Fa} {fn : List He.DefD} {fs : List Ow.DefA} {ex : PySem.W.Frag → Bool} {cts : List CT} {ts : List He.Tab} {g : Addr → Option Obj} {s : Shared} (h : ∀ a, g a = s.heap.get? a) : obsG n fa fn fs ex cts ts g = (hookG n fa fn fs ex cts ts).obs s := by
  obtain rfl : g = s.heap.get? := funext h
  rfl
/-! ### the end -/
theorem walk_ofG {l : PySem.W.OpenLaw} {n k : Nat} {q : Program} {loose : List Str} {XP : (Str → Option Value) → Heap → Prop} {YP : World → Heap → Prop} {d : DefRec} {CX : CXT} {x : Str}
    (hn : l.most = some n) (hn2 : n ≤ sizeLine) (hdf : d.params.defaults = []) (hr : Room k callerA)
    (F : ∀ (w : World) (mg : Str → Option Value) (fa : Addr) (h : Heap), YP w h → h.Ns mainGlobals mg → mg d.name = some (.ref fa) →
      ∃ (K : PySem.W.Frag) (fd : FuncData) (cs : List (Addr × Addr)) (sp : Sp), K.In h ∧ (∀ p ∈ cs, h.get? p.2 = some { cls := .none, data := .fields #[] }) ∧ (∀ p ∈ cs, K.lookup p.2 = none) ∧ (∀ p ∈ cs, PySem.W.CodeHd h p.1 p.2) ∧ (∀ (s : Shared) (u : Value), BindsTo s fd ⟨[u], []⟩ [(x, u)]) ∧
        (∀ (H : Hp) (a : Addr) (ns : List Int), ns.length ≤ n → (∀ p ∈ cs, H p.2 = some (.tbl #[])) → SqL K H a (ns.map V.int) → sp [.ref a] H (fun v _ => v = .bl true) fun _ _ _ => False) ∧
        ∀ base : Heap, K.In base → base.Ns mainGlobals mg → (∀ p ∈ cs, LamX.TabB base mg p.1 p.2) → FnOk l.prog w K mg base CX k fa fd [x] sp)
    (hCX : ∀ (H : Hp) (s : Shared) (e : Value) (s' : Shared), CX [] H s (fun _ _ _ => False) e s' → False) :
    PySem.W.WalkO q loose XP YP l.row.toRowW d [] (fun f vs => PySem.call f vs) := by
  refine Att.attach_callB hn hdf fun w s₀ s₁ mg mb fa o pm cd doc a vs ns G Y ho hd hcd hmg hobj hints hlen hbits hg => ?_
  obtain ⟨K, fd, cs, sp, KX, hT, nT, C, hb, hsp, hF⟩ := F w mg fa _ Y G.T.g hmg
  exact LamX.law_callTs KX G.T.g G.T.b G.T.builtins G.T.nolimit hg hT nT C G.T.bmain hobj hints (Nat.le_trans hlen hn2) hr hF hb (fun H hH hS => hsp H a ns hlen hH hS) fun H e s' => hCX H s₁ e s'
def spLawG (K : PySem.W.Frag) : Sp := fun vs H Q _ => ∃ (a : Addr) (ns : List Int), vs = [.ref a] ∧ SqL K H a (ns.map V.int) ∧ ns.length ≤ 63 ∧ (∀ c ∈ codesOf K, H c.2 = some (.tbl #[])) ∧ ∀ H', Q (.bl true) H'
theorem law_ofG {P : Program} {w : World} {K : PySem.W.Frag} {mg : Str → Option Value} {base : Heap} {k : Nat} {f : Addr} {fd : FuncData} {ps : List Str} {g : List D → M D} (F : FnOk P w K mg base (L2.CX P w) k f fd ps (spF K 1 g)) (h : ∀ ns : List Int, ns.length ≤ 63 → ∃ μ, g [.scr ns] [] = .ok (.bl true) μ) : FnOk P w K mg base L2.CX0 k f fd ps (spLawG K) := by
  refine FnOk.still F fun vs H Q E ⟨a, ns, e, hS, hl, hT, q⟩ => ?_
  subst e
  obtain ⟨μ, e⟩ := h ns hl
  have r : Rep K (fun _ => False) [] [] H := ⟨List.nodup_nil, (by intro _ h; cases h), (by intro _ h; cases h), .nil, fun c hc => ⟨_, hT c hc, trivial⟩⟩
  refine ⟨rfl, fun _ => False, [], [.scr ns], [], .cons ?_ .nil, r, ?_⟩
  · rcases hS with hS | hS
    · exact .scrF hS fun z => z
    · exact .scrW hS
  · rw [e]
    exact fun φ' ρ' v H' l h => by rw [h.blE]; exact q H'
theorem tabB_of {base : Heap} {mg : Str → Option Value} {c P : Addr} (t : LamX.TabB base mg c P) : GxR.TabB base mg c P := ⟨t.code, t.bm, t.gP⟩
section
variable {P : Program} {w : World} {K : PySem.W.Frag} {mg : Str → Option Value} {base : Heap} {x qual : Str} {params : Arguments} {body : List Stmt} {scope : Scope} {dvs : List V} {kws : List (Str × V)} {f : Addr} {fd : FuncData}
/-- fun_ok with the code object known -/
theorem fun_okT {N ps : List Str} {k a NN : Nat} {b : SF} {keep : Bool} (F : FunD K x qual params body scope dvs kws f fd) (S : FnScope N ps scope)
    (hb : ∀ (cdv : Value) (A : Around) (outer : List PySem.Env) (s : Shared) (H : Hp) (E : XK), cdv = .ref (coAd K f) → Room k (A.deeper (envOfC qual scope s.heap.objs.size f cdv)) → PSs (cxOf (L2.CX P w) P w K mg base N qual scope f cdv A outer s H E) body (tS K (fun _ => E) b)) (ha : ps.length = a := by rfl) (hN : N.length = NN := by rfl) :
    FnOk P w K mg base (L2.CX P w) (k + 1) f fd ps (spF K a (funF keep NN b)) := by
  subst ha hN
  obtain ⟨oc, od, dV, kV, doc, pm, an, cdv, ct, osl, rfl, lk, hcd, _, _⟩ := F.ex
  have hc : cdv = .ref (coAd K f) := by
    unfold coAd
    rw [lk]
    clear F lk
    cases cdv <;> first | rfl | (unfold PySem.W.codeIn at hcd; cases hcd)
  refine fn_of lk hcd S (fun vs H Q E h => h.1) fun A outer s H vs Q E hr h => ⟨_, hb cdv A outer s H E hc hr, ?_⟩
  obtain ⟨_, φ, ρ, ds, μ, hv, hrep, p⟩ := h
  refine ⟨φ, ρ, env0 N.length ds, μ, env0_is hv, hrep, ?_⟩
  unfold funF at p
  cases q : b (env0 N.length ds) μ with
  | bad => rw [q] at p; exact p
  | exc x m => rw [q] at p; exact p
  | ok fl m =>
    rw [q] at p
    cases fl with
    | nx Γ => exact fun φ1 ρ1 σ1 H1 l _ => finish_ok hrep l .non p
    | rt d => exact fun φ1 ρ1 v H1 l h => finish_ok hrep l h p
    | bk Γ => exact p.elim
    | ct Γ => exact p.elim
    | ex x Γ => exact fun φ1 ρ1 σ1 H1 cls dd l _ h => finishX_ok hrep l h p
end
end Vl

/-! classes called with keywords; dicts and tuples of the top -/
namespace Vl
open PySem PySem.Spec PyProof.Rows L2
/-- the parameters' order: a keyword's value (inl), a lacking one's default (inr) -/
def gPick {α : Type} (mv ws : List α) : Nat ⊕ Nat → List α
  | .inl j => (ws[j]?).toList
  | .inr j => (mv[j]?).toList
def gMix (l : List (Nat ⊕ Nat)) {α : Type} (us mv ws : List α) : List α := us ++ l.flatMap (gPick mv ws)
theorem vals_opt {vs : List V} {us : List Value} (r : Vals vs us) (j : Nat) : Vals (vs[j]?).toList (us[j]?).toList := by
  cases e : vs[j]? with
  | none =>
    have h1 : us[j]? = none := by
      rw [List.getElem?_eq_none_iff] at e ⊢
      rw [← r.length]; exact e
    rw [h1]; exact .nil
  | some v =>
    obtain ⟨u, h1, h2⟩ := r.get e
    rw [h1]
    exact .cons h2 .nil
theorem gMix_rel {l : List (Nat ⊕ Nat)} {vs mz zs : List V} {us mv ws : List Value} (r1 : Vals vs us) (r2 : Vals mz mv) (r3 : Vals zs ws) : Vals (gMix l vs mz zs) (gMix l us mv ws) := by
  refine r1.append ?_
  induction l with
  | nil => exact .nil
  | cons x l ih =>
    rw [List.flatMap_cons, List.flatMap_cons]
    refine Vals.append ?_ ih
    cases x with
    | inl j => exact vals_opt r3 j
    | inr j => exact vals_opt r2 j
section
variable {K : PySem.W.Frag} {φ : Addr → Prop} {ρ : List Addr} {H : Hp}
theorem vsis_opt {vs : List V} {us : List D} (r : VsIs K φ ρ H vs us) (j : Nat) : VsIs K φ ρ H (vs[j]?).toList (us[j]?).toList := by
  cases e : us[j]? with
  | none =>
    have h1 : vs[j]? = none := by
      rw [List.getElem?_eq_none_iff] at e ⊢
      rw [r.length]; exact e
    rw [h1]; exact .nil
  | some v =>
    obtain ⟨u, h1, h2⟩ := r.at e
    rw [h1]
    exact .cons h2 .nil
theorem gMix_is {l : List (Nat ⊕ Nat)} {vs mz zs : List V} {us mv ws : List D} (r1 : VsIs K φ ρ H vs us) (r2 : VsIs K φ ρ H mz mv) (r3 : VsIs K φ ρ H zs ws) : VsIs K φ ρ H (gMix l vs mz zs) (gMix l us mv ws) := by
  refine r1.append ?_
  induction l with
  | nil => exact .nil
  | cons x l ih =>
    rw [List.flatMap_cons, List.flatMap_cons]
    refine VsIs.append ?_ ih
    cases x with
    | inl j => exact vsis_opt r3 j
    | inr j => exact vsis_opt r2 j
end
/-- a class called with the keywords ks -/
def MakerK (P : Program) (w : World) (K : PySem.W.Frag) (mg : Str → Option Value) (base : Heap) (CX : CXT) (k : Nat) (x : Str) (C : Addr) (n : Nat) (ks ps : List Str) (l : List (Nat ⊕ Nat)) (mz : List V) (sp : Sp) : Prop :=
  ∃ (f : Addr) (fd : FuncData) (g : List Value → List Value → List Value), mg x = some (.ref C) ∧ Mk K C f ∧ KBn K fd ps (n + 1) ks g (fun vs zs => gMix l vs mz zs) ∧ FnOk P w K mg base CX k f fd ps sp
section
variable {X : Cx} {CX : CXT} {k n : Nat} {C : Addr} {ps ks : List Str} {sp : Sp} {l : List (Nat ⊕ Nat)} {mz : List V} {E : L2.St → XK} {x m : Str} {p pos apos : Pos} {e o : Expr} {es : List Expr} {kws : List Keyword} {t tk : TA}
theorem runMkK {pins : List (Addr × Obj)} {σ : L2.St} {H : Hp} {s : Shared} {Q : VK} {us ws : List Value} {vs zs : List V} (G : MakerK X.prog X.w X.K X.mg X.base CX k x C n ks ps l mz sp) (hr : Room (k + 1) X.A) (hx : PassesAt CX X σ (E σ)) (I : Inv X pins σ H s) (r : Vals vs us) (rz : Vals zs ws) (l1 : vs.length = n) (l2 : zs.length = ks.length)
    (h : ∀ x dx, H x = none → H dx = none → dx ≠ x → sp (gMix l (.ref x :: vs) mz zs) (upd (upd H dx (.own x)) x (.ins C dx [])) (fun v H2 => v = .non ∧ Q (.ref x) H2) (E σ)) : wpAny (model X.prog X.w) X.A (call (.ref C) us (ks.zip ws)) (EP X pins σ Q) X.xe s := by
  obtain ⟨f, fd, g, _, M, hb, F⟩ := G
  have hq := h (s.heap.objs.size + 1) s.heap.objs.size (I.hok.fresh (Nat.le_succ _)) (I.hok.fresh (Nat.le_refl _)) (Nat.ne_of_lt (Nat.lt_succ_self _))
  have I2 := Inv.made (C := C) I
  have r1 : Vals (V.ref (s.heap.objs.size + 1) :: vs) (Value.ref (s.heap.objs.size + 1) :: us) := .cons rfl r
  have r2 := hb.rel r1 rz
  have n1 : (Value.ref (s.heap.objs.size + 1) :: us).length = n + 1 := by
    rw [List.length_cons, ← r.length, l1]
  refine wpAny_call (make_map (f := f) I.kIn M.makes M.init (beq_iff_eq.mp M.fn) (codeAny_mono (F.run _ X.stack _ _ ⟨Value.ref (s.heap.objs.size + 1) :: us, ks.zip ws⟩ (g (Value.ref (s.heap.objs.size + 1) :: us) ws) _ _ (E σ) (hr.make C us (ks.zip ws))
    (I2.env0.make C us (ks.zip ws)) (hb.to _ (Value.ref (s.heap.objs.size + 1) :: us) ws I2.kIn n1 (rz.length.symm.trans l2)) r2 hq) fun z s' hz => ?_))
  match z, hz with
  | .error e, hz => exact hx pins _ _ e s' I2 hz
  | .ok (.ret u), hz =>
    obtain ⟨v, G', J', rv, rfl, q3⟩ := I2.after hz
    exact ⟨rv, .ref (s.heap.objs.size + 1), G', J', rfl, q3⟩
  | .ok .next, hz => exact hz.elim
  | .ok .brk, hz => exact hz.elim
  | .ok .cont, hz => exact hz.elim
def tMkK (C : Addr) (n m : Nat) (sp : Sp) (l : List (Nat ⊕ Nat)) (mz : List V) (E : L2.St → XK) (t tk : TA) : TE := fun σ H Q => t σ H fun vs H1 => tk σ H1 fun zs H2 => vs.length = n ∧ zs.length = m ∧ ∀ x dx, H2 x = none → H2 dx = none → dx ≠ x →
  sp (gMix l (.ref x :: vs) mz zs) (upd (upd H2 dx (.own x)) x (.ins C dx [])) (fun v H3 => v = .non ∧ Q (.ref x) H3) (E σ)
theorem peMkK (G : MakerK X.prog X.w X.K X.mg X.base CX k x C n ks ps l mz sp) (hr : Room (k + 1) X.A) (hx : ∀ σ, PassesAt CX X σ (E σ)) (ha : PA X (e :: es) t) (hkw : PK X kws tk) (hg : Gl X x := by rfl)
    (hall : (backToKw pos (keywordEach kws X.env)).all (·.1.isSome) = true := by rfl) (hks : (backToKw pos (keywordEach kws X.env)).filterMap (·.1) = ks := by rfl) (hdb : (x == ("__debug__" : Str)) = false := by decide)
    (he : starEach (e :: es) X.env = (false, eval e X.env) :: starEach es X.env := by rfl) (hpl : ((backTo pos (starEach (e :: es) X.env)).any (·.1) || (backToKw pos (keywordEach kws X.env)).any (·.1.isNone)) = false := by rfl) :
    PE X (.Call (.Name x p) (e :: es) kws pos) (tMkK C n ks.length sp l mz E t tk) := by
  have G' := G
  obtain ⟨f, fd, g, hm, M, _⟩ := G
  refine ⟨fun pins s σ H Q I h => ?_⟩
  refine wpAny_Call_Name_kw (ld_glob I hg hm ?_ hdb)
  refine PySem.W.callWith_KW (h₀ := X.base) I.ok.mod.kin M.kp hall (thn (ha.run pos pins s σ H _ I h) fun us s1 ⟨vs, H1, I1, r, q⟩ => ?_) hpl he
  refine thn (hkw.run pos pins s1 σ H1 _ I1 q) fun ws s2 ⟨zs, H2, I2, rz, l1, l2, q2⟩ => ⟨I2.kIn, ?_⟩
  rw [hks]
  exact runMkK (E := E) G' hr (hx σ) I2 r rz l1 l2 q2
end
/-- C(.., k = v, ..) -/
def eMakeK (n m : Nat) (mk : List D → M D) (l : List (Nat ⊕ Nat)) (dv : List D) (r rk : AF) : EF := fun Γ => M.bind (r Γ) fun ds => M.bind (rk Γ) fun zs => M.guard (decide (ds.length = n) && decide (zs.length = m)) (mk (gMix l ds dv zs))
section
variable {X : Cx} {K : PySem.W.Frag} {W : L2.St → XK} {k n j : Nat} {x m C : Str} {ps ks : List Str} {mz : List V} {dv : List D} {l : List (Nat ⊕ Nat)} {f : List D → M D} {e o : Expr} {es : List Expr} {kws : List Keyword} {p pos apos kpos : Pos} {r rk : AF} {fo fa : EF}
theorem kNilF : PK X [] (tA K W aNil) := ⟨fun ps pins s σ H Q I ⟨φ, ρ, Γ, μ, he, hr, p⟩ => (pk_nil (X := X)).run ps pins s σ H Q I (p _ _ _ _ (Later.refl hr) .nil)⟩
theorem kConsF {nm : Option Str} (ha : PE X e (tE K W fa)) (hb : PK X kws (tA K W rk)) : PK X (⟨nm, e, kpos⟩ :: kws) (tA K W (aCons fa rk)) := ⟨fun ps pins s σ H Q I ⟨φ, ρ, Γ, μ, he, hr, p⟩ => (pk_cons (nm := nm) (kpos := kpos) ha hb).run ps pins s σ H Q I
  (stepE he hr p fun l1 he h1 p => stepA he l1.rep p fun l2 he h2 p => p _ _ _ _ (Later.refl l2.rep) (.cons (l2.val l1.rep h1) h2))⟩
theorem fMakeK {keep : Bool} (G : MakerK X.prog X.w X.K X.mg X.base (L2.CX X.prog X.w) k C (He.ga K C) j ks ps l mz (spF K n f)) (hd : Const K mz dv) (hr : Room (k + 1) X.A) (tk : Takes X (wx W)) (ha : PA X (e :: es) (tA K W r)) (hkw : PK X kws (tA K W rk)) (hg : Gl X C := by rfl)
    (hall : (backToKw pos (keywordEach kws X.env)).all (·.1.isSome) = true := by rfl) (hks : (backToKw pos (keywordEach kws X.env)).filterMap (·.1) = ks := by rfl) (hdb : (C == ("__debug__" : Str)) = false := by decide)
    (he : starEach (e :: es) X.env = (false, eval e X.env) :: starEach es X.env := by rfl) (hpl : ((backTo pos (starEach (e :: es) X.env)).any (·.1) || (backToKw pos (keywordEach kws X.env)).any (·.1.isNone)) = false := by rfl) :
    PE X (.Call (.Name C p) (e :: es) kws pos) (tE K W (eMakeK j ks.length (makeV C n f keep []) l dv r rk)) :=
  (peMkK (E := W) G hr (fun σ => passAt tk σ) ha hkw hg hall hks hdb he hpl).vimp fun σ H Q ⟨φ, ρ, Γ, μ, he, hr, p⟩ => stepA he hr p fun l1 he h1 p => stepA he l1.rep p fun l2 he h2 p => by
    obtain ⟨c, p2⟩ := guard_post p
    obtain ⟨c1, c2⟩ := Bool.and_eq_true_iff.mp c
    have c1 := of_decide_eq_true c1
    have c2 := of_decide_eq_true c2
    have hv1 := l2.vals l1.rep h1
    refine ⟨by rw [h1.length]; exact c1, by rw [h2.length]; exact c2, fun x dx hx hdx ne => ?_⟩
    have z := makeV_ok (dvs := []) l2.rep (gMix_is (l := l) hv1 (hd _ _ _) h2) Const.nil p2 x dx hx hdx ne
    rw [List.append_nil] at z
    exact z
end
/-! ### dicts of the top with text keys and whole numbers -/
def dkvB : List DictEntry → List (Str × Int) → Bool
  | [], [] => true
  | e :: r, q :: kvs => ((match e.key with | .str y _ => decide (y = q.1) | _ => false) && (match e.val with | .int j _ => decide (j = q.2) | _ => false)) && dkvB r kvs
  | _, _ => false
def dicB (K : PySem.W.Frag) (a : Addr) (kvs : List (Str × Int)) : Bool := match K.lookup a with
  | some ⟨_, _, .dict es _, _⟩ => dkvB es.toList kvs
  | _ => false
theorem dkv_find {z : Str} : ∀ {es : List DictEntry} {kvs : List (Str × Int)}, dkvB es kvs = true → (match kvs.lookup z with
    | some i => ∃ e t, es.find? (·.key.isStr z) = some e ∧ e.val = .int i t
    | none => es.find? (·.key.isStr z) = none) ∧ es.any (·.refKey) = false
  | [], [], _ => ⟨rfl, rfl⟩
  | [], _ :: _, h => by cases h
  | _ :: _, [], h => by cases h
  | e :: r, (x, i) :: kvs, h => by
    obtain ⟨h1, h2⟩ := He.ba h
    obtain ⟨h3, h4⟩ := He.ba h1
    obtain ⟨ih1, ih2⟩ := dkv_find (z := z) h2
    cases ek : e.key <;> rw [ek] at h3 <;> first | cases h3; done | skip
    rename_i y t
    have h3 : y = x := of_decide_eq_true h3
    subst h3
    cases ev : e.val <;> rw [ev] at h4 <;> first | cases h4; done | skip
    rename_i j u
    have h4 : j = i := of_decide_eq_true h4
    subst h4
    have hs : e.key.isStr z = (y == z) := by rw [ek]; rfl
    refine ⟨?_, ?_⟩
    · rw [List.lookup_cons, List.find?_cons]
      by_cases c : z = y
      · subst c
        have q1 : (z == z) = true := beq_self_eq_true z
        rw [q1] at hs ⊢
        rw [hs]
        exact ⟨e, u, rfl, ev⟩
      · have q1 : (z == y) = false := beq_eq_false_iff_ne.mpr c
        have q2 : (y == z) = false := beq_eq_false_iff_ne.mpr (Ne.symm c)
        rw [q1]
        rw [q2] at hs
        rw [hs]
        exact ih1
    · rw [List.any_cons, ih2, Bool.or_false]
      unfold DictEntry.refKey
      rw [ek]
theorem dicB_ok {K : PySem.W.Frag} {a : Addr} {kvs : List (Str × Int)} (h : dicB K a kvs = true) (z : Str) : ∃ r, PySem.W.nsIn K a z = some r ∧ (match kvs.lookup z with | some i => ∃ t, r = some (.int i t) | none => r = none) := by
  unfold dicB at h
  unfold PySem.W.nsIn
  cases q : K.lookup a with
  | none => rw [q] at h; cases h
  | some o =>
    obtain ⟨oc, od, dt, osl⟩ := o
    rw [q] at h
    cases dt <;> first | cases h; done | skip
    rename_i es n
    obtain ⟨h1, h2⟩ := dkv_find (z := z) (show dkvB es.toList kvs = true from h)
    dsimp only
    cases l : kvs.lookup z with
    | none =>
      rw [l] at h1
      rw [h1, h2]
      exact ⟨none, rfl, rfl⟩
    | some i =>
      rw [l] at h1
      obtain ⟨e, t, e1, e2⟩ := h1
      rw [e1]
      exact ⟨some e.val, rfl, t, by rw [e2]⟩
def tKGet (K : PySem.W.Frag) (kvs : List (Str × Int)) (ty : TE) : TE := fun σ H Q => ty σ H fun y H2 => ∃ z : Str, y = .str z ∧ Q (match kvs.lookup z with | some i => .int i | none => .non) H2
def eKGet (kvs : List (Str × Int)) (a : EF) : EF := fun Γ => M.bind (a Γ) fun d => match d with
  | .str z => M.pure (match kvs.lookup z with | some i => .int i | none => .non)
  | _ => M.fail
section
variable {X : Cx} {o e f : Expr} {apos cpos : Pos} {td ty tx : TE} {d : Addr} {es : Array DictEntry} {n : Nat} {kvs : List (Str × Int)}
theorem pe_kget (D : KDict X.K X.w d es n) (hk : dicB X.K d kvs = true) (ho : PE X o (tC (.ref d))) (he : PE X e ty) (m : M1 X o "get" apos e cpos) : PE X (.Call (.Attribute o "get" apos) [e] [] cpos) (tKGet X.K kvs ty) := by
  refine ⟨fun pins s σ H Q I h => ?_⟩
  refine wpAny_Call_method m.base m.few m.line PySem.F.plainAttrs_dict PySem.F.slot_dict_get PySem.F.type_dict_get (thn (ho.run pins s σ H (fun v H1 => v = .ref d ∧ H1 = H) I ⟨rfl, rfl⟩) fun u s1 ⟨x, H1, I1, rx, ex, eh⟩ => ?_)
  subst ex eh
  obtain rfl : u = Value.ref d := rx
  refine ⟨kd_type D I1, fun b q => ?_, ?_⟩
  · cases q
    exact ⟨_, I1.kIn _ _ D.at_, rfl⟩
  rw [m.trees]
  refine Calls.callWith_builtin rfl (Calls.evalArgs_plain (Calls.spliced_cons (thn (he.run pins s1 σ H1 _ I1 h) fun iv s2 ⟨y, H2, I2, ry, z, ey, q2⟩ => Calls.spliced_nil ?_)))
  subst ey
  obtain ⟨t, rfl⟩ := ry
  obtain ⟨r, e1, e2⟩ := dicB_ok hk z
  refine call_meetsIn PySem.F.slot_dict_get (kd_type D I2) PySem.F.entry_dict_get (PySem.F.args_dict_get_2 _ _) (meets_dict_get (strKind X.prog X.w) d (PySem.strKind_is X.prog X.w z t) D.low) ⟨_, PySem.W.mapOf_K (prog := X.prog) I2.kIn D.at_ D.lit, ?_⟩
  rw [PySem.W.find_K D.at_ e1]
  refine ⟨_, H2, I2.tok _, ?_, q2⟩
  cases l : kvs.lookup z with
  | none => rw [l] at e2; rw [e2]; exact rfl
  | some i => rw [l] at e2; obtain ⟨t, e2⟩ := e2; rw [e2]; exact ⟨t, rfl⟩
end
section
variable {X : Cx} {K : PySem.W.Frag} {W : L2.St → XK} {e : Expr} {fa : EF} {x : Str} {p apos cpos : Pos} {kvs : List (Str × Int)}
/-- D.get(e), D a dict of the top -/
theorem fKGet (DD : ∃ es n, KDict K X.w (He.ga K x) es n) (hk : dicB K (He.ga K x) kvs = true) (hm : X.mg x = some (.ref (He.ga K x))) (he : PE X e (tE K W fa)) (m : M1 X (.Name x p) "get" apos e cpos) (hg : Gl X x := by rfl) (hd : (x == ("__debug__" : Str)) = false := by decide) (hK : X.K = K := by rfl) :
    PE X (.Call (.Attribute (.Name x p) "get" apos) [e] [] cpos) (tE K W (eKGet kvs fa)) := by
  subst hK
  obtain ⟨es, n, DD⟩ := DD
  refine (pe_kget DD hk (pe_glob (v := .ref (He.ga X.K x)) hg hm rfl hd) he m).vimp fun σ H Q ⟨φ, ρ, Γ, μ, he, hr, p⟩ => stepE he hr p fun {d _ _ _ _ _} l1 he h1 p => ?_
  cases d <;> first | exact p.elim | skip
  rename_i z
  refine ⟨z, h1.strE, ?_⟩
  have p : Post X.K (VIs X.K) _ _ _ Q (W σ) (M.pure (match kvs.lookup z with | some i => D.int i | none => .non) _) := p
  cases l : kvs.lookup z with
  | none => rw [l] at p; exact Post.val l1.rep p .non
  | some i => rw [l] at p; exact Post.val l1.rep p (.int i)
/-- a tuple of texts of the top -/
def strsB (K : PySem.W.Frag) (a : Addr) (xs : List Str) : Bool := match K.lookup a with
  | some ⟨.type c, _, .seq its _, _⟩ => decide (c = "tuple") && (decide (its.size ≤ sizeLine) && He.relAll (xs.map V.str) its.toList)
  | _ => false
theorem strs_is {φ : Addr → Prop} {ρ : List Addr} {H : Hp} : ∀ xs : List Str, VsIs K φ ρ H (xs.map V.str) (xs.map D.str)
  | [] => .nil
  | x :: xs => .cons (.str x) (strs_is xs)
theorem strsB_ok {a : Addr} {xs : List Str} (h : strsB K a xs = true) (φ : Addr → Prop) (ρ : List Addr) (H : Hp) : VIs K φ ρ H (.ref a) (.tup (xs.map D.str)) := by
  unfold strsB at h
  cases q : K.lookup a with
  | none => rw [q] at h; cases h
  | some o =>
    obtain ⟨oc, od, dt, osl⟩ := o
    rw [q] at h
    cases oc with
    | type c =>
      cases dt with
      | seq its n =>
        obtain ⟨h1, h2⟩ := He.ba (show (decide (c = "tuple") && (decide (its.size ≤ sizeLine) && He.relAll (xs.map V.str) its.toList)) = true from h)
        obtain ⟨h3, h4⟩ := He.ba h2
        exact .wrT ⟨_, its, n, q, congrArg Value.type (of_decide_eq_true h1), rfl, of_decide_eq_true h3, He.relAll_ok h4⟩ (strs_is xs)
      | _ => cases h
    | _ => cases dt <;> cases h
theorem fConT {xs : List Str} (hk : strsB K (He.ga K x) xs = true) (hm : X.mg x = some (.ref (He.ga K x))) (hg : Gl X x := by rfl) (hd : (x == ("__debug__" : Str)) = false := by decide) : PE X (.Name x p) (tE K W (eC (.tup (xs.map D.str)))) := fC (pe_glob (v := .ref (He.ga K x)) hg hm rfl hd) fun φ ρ H => strsB_ok hk φ ρ H
end
end Vl

namespace Gx
open PySem PySem.Spec PyProof.Rows L2
def gxC (N : List Str) (sc scope : Scope) (own : List (Str × Nat)) : Bool :=
  (match scope.kind with | .function => true | _ => false) && !scope.isCoroutine && decide (scope.names.lookup (".0" : Str) = some .local) && (own.all fun p => decide (N[p.2]? = some p.1)) &&
    (scope.names.all fun y => match y.2 with
      | .free => (match sc.names.lookup y.1 with | some .cell => true | some .free => true | _ => false)
      | .local => decide (y.1 ∈ own.map (·.1)) || decide (y.1 ∉ N)
      | .cell => false
      | _ => true)
theorem gxOk_by {N : List Str} {sc scope : Scope} {own : List (Str × Nat)} (h : gxC N sc scope own = true) : GxOk N sc scope own := by
  unfold gxC at h
  simp only [Bool.and_eq_true, List.all_eq_true, decide_eq_true_eq, Bool.not_eq_true'] at h
  obtain ⟨⟨⟨⟨h1, h2⟩, h0⟩, h3⟩, h4⟩ := h
  refine ⟨?_, h2, fun y hy e => ?_, h0, h3, fun y hy e => ?_, fun y hy e => ?_⟩
  · split at h1
    · assumption
    · cases h1
  · have q := h4 y hy
    simp only [e] at q
    cases q
  · have q := h4 y hy
    simp only [e] at q
    split at q <;> first | exact .inl (by assumption) | exact .inr (by assumption) | cases q
  · have q := h4 y hy
    simp only [e, Bool.or_eq_true, decide_eq_true_eq] at q
    exact q
end Gx
namespace Vl
open PySem PySem.Spec PyProof.Rows L2
/-- a keyword-only parameter's default, if it is an object -/
def kwAt (f : Str × Option Str) (x : Str) (K : PySem.W.Frag) : Addr := match K.lookup (He.fAd K f) with
  | some ⟨_, _, .func fd, _⟩ => (match fd.kwdefaults with
    | .ref D => (match PySem.W.nsIn K D x with
      | some (some (.ref a)) => a
      | _ => 0)
    | _ => 0)
  | _ => 0
def gLst (n : Nat) (r : List D → Env → M Env) : GF := fun d Γ => M.get fun μ => match rdL μ d with
  | some xs => M.guard (xs.length == n) (r xs Γ)
  | none => M.fail
section
variable {X : Cx} {K : PySem.W.Frag} {es : List Expr} {pos : Pos}
theorem gLstF {k n : Nat} {r : List D → Env → M Env} (hs : PGs X es (tGs K r)) (hc : X.calm = true := by rfl) (hn : (assignEach es X.env).length = n := by rfl) (hst : (assignEach es X.env).findIdx? (·.1) = none := by rfl) (hK : X.K = K := by rfl) : PG X (.Tuple es k pos) (tG K (Vl.gLst n r)) := by
  subst hK
  refine (pg_lst hc hs hn hst).vimp fun v σ H Q ⟨φ, ρ, Γ, μ, d, he, hr, h, p⟩ => ?_
  have p : PostG X.K φ ρ H Q ((match rdL μ d with | some xs => M.guard (xs.length == n) (r xs Γ) | none => M.fail) μ) := p
  cases e0 : rdL μ d with
  | none => rw [e0] at p; exact p.elim
  | some xs =>
    rw [e0] at p
    obtain ⟨a, vs, e, q, t⟩ := h.rdL hr e0
    have p : PostG X.K φ ρ H Q (M.guard (xs.length == n) (r xs Γ) μ) := p
    cases c : xs.length == n with
    | false => rw [c] at p; exact p.elim
    | true => rw [c] at p; exact ⟨a, vs, e, q, by rw [t.length]; exact beq_iff_eq.mp c, φ, ρ, Γ, μ, xs, he, hr, t, p⟩
theorem nox_lst {n : Nat} {r : List D → Env → M Env} (k : ∀ d Γ μ, noX (r d Γ μ) = true) : ∀ d Γ μ, noX (Vl.gLst n r d Γ μ) = true := fun d Γ μ => by
  show noX ((match rdL μ d with | some xs => M.guard (xs.length == n) (r xs Γ) | none => M.fail) μ) = true
  cases rdL μ d with
  | none => rfl
  | some xs =>
    show noX (M.guard (xs.length == n) (r xs Γ) μ) = true
    cases xs.length == n with
    | false => rfl
    | true => exact k xs Γ μ
end
end Vl

/-! defs that draw: what they give, out of sight; loops and comprehensions that draw -/
namespace Vl
open PySem PySem.Spec PyProof.Rows L2
/-- a def on the state of draws: at most K draws, what it gives keeps P -/
def Drw (f : List D → M D) (as : List D) (K : Int) (P : D → Prop) : Prop := ∀ c o, StO c o → c + K ≤ 1000000 → ∃ d o', P d ∧ Pu d ∧ StO (c + K) o' ∧ f (.ob 0 :: as) [o] = .ok d [o']
/-- the end of its body -/
def OutD (P : D → Prop) (c : Int) (f : Fl) (m : Sto) : Prop := ∃ d' d o' r, f = .rt d' ∧ m = o' :: r ∧ mapMut (fz 1 m 20) d' = some d ∧ P d ∧ Pu d ∧ StO c o'
theorem OutD.rt {P : D → Prop} {c c' : Int} {d o' : D} {r : Sto} (h : P d) (hp : Pu d) (hs : StO c' o') (l : c' ≤ c) : OutD P c (.rt d) (o' :: r) := ⟨d, d, o', r, rfl, rfl, hp.map _, h, hp, hs.le l⟩
theorem OutD.ob {P : D → Prop} {c c' : Int} {d o' : D} {r : Sto} {k : Nat} (e : r[k]? = some d) (h : P d) (hp : Pu d) (hs : StO c' o') (l : c' ≤ c) : OutD P c (.rt (.ob (k + 1))) (o' :: r) := by
  refine ⟨.ob (k + 1), d, o', r, rfl, rfl, ?_, h, hp, hs.le l⟩
  show (bif decide (k + 1 < 1) then some (D.ob (k + 1)) else ((o' :: r)[k + 1]?).bind (mapMut (fz 1 (o' :: r) 19))) = _
  rw [decide_eq_false (by omega), List.getElem?_cons_succ, e]
  exact hp.map _
theorem drw_of {N : Nat} {b : SF} {as : List D} {K : Int} {P : D → Prop} (h : ∀ c o, StO c o → c + K ≤ 1000000 → Wp (b (env0 N (.ob 0 :: as)) [o]) (OutD P (c + K)) fun _ _ => False) : Drw (funF false N b) as K P := by
  intro c o hs hc
  have h := h c o hs hc
  cases q : b (env0 N (.ob 0 :: as)) [o] with
  | bad => rw [q] at h; cases h
  | exc _ _ => rw [q, w_exc] at h; cases h
  | ok f m =>
    rw [q, w_ok] at h
    obtain ⟨d', d, o', r, rfl, rfl, e, hp, pd, hs'⟩ := h
    refine ⟨d, o', hp, pd, hs', ?_⟩
    unfold funF
    rw [q]
    dsimp only
    unfold Vl.finish
    have e1 : mapMuts (fz [o].length (o' :: r) 20) ((o' :: r).take [o].length) = some [o'] := PuL.map (puL1 hs'.pu) _
    have e2 : mapMut (fz [o].length (o' :: r) 20) d' = some d := e
    rw [e1, e2]
    rfl
/-- its call -/
theorem w_drw {f : List D → M D} {as : List D} {K : Int} {P : D → Prop} {n : Nat} {c : Int} {o : D} {r : Sto} {Q : D → Sto → Prop} {X : Ex → Sto → Prop} (h : Drw f as K P) (hs : StO c o) (hc : c + K ≤ 1000000) (hl : as.length + 1 = n) (hp : PuL as) (k : ∀ d o', P d → Pu d → StO (c + K) o' → Q d (o' :: r)) : Wp (callV n f (.ob 0 :: as) (o :: r)) Q X := by
  obtain ⟨d, o', p, pd, hs', e⟩ := h c o hs hc
  exact w_callS (fun d o' => P d ∧ Pu d ∧ StO (c + K) o') ⟨d, o', ⟨p, pd, hs'⟩, pd, hs'.pu, e⟩ hl hs.pu hp (by rintro d o' ⟨p, pd, h⟩; exact k d o' p pd h)
theorem Drw.imp {f : List D → M D} {as : List D} {K : Int} {P P' : D → Prop} (h : Drw f as K P) (i : ∀ d, P d → P' d) : Drw f as K P' := fun c o hs hc => by
  obtain ⟨d, o', p, pd, hs', e⟩ := h c o hs hc
  exact ⟨d, o', i d p, pd, hs', e⟩
/-- one of a few -/
theorem ix_pick {xs : List D} {i : Int} (h0 : 0 ≤ i) (h1 : i < xs.length) : ∃ d ∈ xs, ∀ μ, ixD (.lst xs) (.int i) μ = .ok d μ := by
  have l : i.toNat < xs.length := by omega
  exact ⟨xs[i.toNat], List.getElem_mem l, fun μ => ixL (at_nat h0 (List.getElem?_eq_getElem l))⟩
theorem ix_pickT {xs : List D} {i : Int} (h0 : 0 ≤ i) (h1 : i < xs.length) : ∃ d ∈ xs, ∀ μ, ixD (.tup xs) (.int i) μ = .ok d μ := by
  have l : i.toNat < xs.length := by omega
  refine ⟨xs[i.toNat], List.getElem_mem l, fun μ => ?_⟩
  show M.opt (atI xs i) μ = _
  rw [at_nat h0 (List.getElem?_eq_getElem l)]
  rfl
section
variable {Γ : Env} {X : Ex → Sto → Prop}
/-- a turn that appends one thing -/
def OutA (P : D → Prop) (G : Env → Prop) (acc : List D) (c : Int) (f : Fl) (μ : Sto) : Prop := ∃ Γ' o' d, f = .nx Γ' ∧ μ = [o', .lst (acc ++ [d])] ∧ P d ∧ G Γ' ∧ StO c o'
theorem OutA.mk {P : D → Prop} {G : Env → Prop} {acc : List D} {c c' : Int} {Γ' : Env} {o' d : D} (h : P d) (g : G Γ') (hs : StO c' o') (l : c' ≤ c) : OutA P G acc c (.nx Γ') [o', .lst (acc ++ [d])] := ⟨Γ', o', d, rfl, rfl, h, g, hs.le l⟩
/-- a turn of a comprehension that draws -/
def OutQ (P : D → Prop) (r : Sto) (c : Int) (q : Option D) (μ : Sto) : Prop := ∃ o', μ = o' :: r ∧ (∀ d, q = some d → P d) ∧ StO c o'
theorem OutQ.some {P : D → Prop} {r : Sto} {c c' : Int} {o' d : D} (h : P d) (hs : StO c' o') (l : c' ≤ c) : OutQ P r c (Option.some d) (o' :: r) := ⟨o', rfl, fun e he => by cases he; exact h, hs.le l⟩
theorem OutQ.none {P : D → Prop} {r : Sto} {c c' : Int} {o' : D} (hs : StO c' o') (l : c' ≤ c) : OutQ P r c Option.none (o' :: r) := ⟨o', rfl, (fun e he => by cases he), hs.le l⟩
/-- for .. : xs.append(E), E drawn -/
theorem w_forApp {b : D → Env → M Fl} {xs : List D} {S : Fl → Sto → Prop} {c : Int} {o : D} (K : Int) (P : D → Prop) (G : Env → Prop) (hs : StO c o) (h0 : G Γ)
    (step : ∀ (i : Nat) x Γ o acc, xs[i]? = some x → G Γ → StO (c + K * i) o → acc.length = i → Wp (b x Γ [o, .lst acc]) (OutA P G acc (c + K * i + K)) fun _ _ => False)
    (k : ∀ Γ o acc, G Γ → StO (c + K * xs.length) o → acc.length = xs.length → (∀ d ∈ acc, P d) → S (.nx Γ) [o, .lst acc]) : Wp (forL b xs Γ [o, .lst []]) S X := by
  refine w_forG (fun i Γ μ => ∃ o acc, μ = [o, .lst acc] ∧ G Γ ∧ StO (c + K * i) o ∧ acc.length = i ∧ ∀ d ∈ acc, P d) ⟨o, [], rfl, h0, by simpa using hs, rfl, fun d h => by cases h⟩ ?_ ?_
  · rintro i x Γ μ hx ⟨o, acc, rfl, hg, hs, hl, ha⟩
    refine (step i x Γ o acc hx hg hs hl).imp (fun f m h => ?_) fun _ _ h => h.elim
    obtain ⟨Γ', o', d, rfl, rfl, hd, hg', hs'⟩ := h
    rw [lk_nx]
    refine ⟨o', _, rfl, hg', hs'.le ?_, by simp [hl], fun e he => ?_⟩
    · rw [Int.natCast_add, Int.mul_add]
      simp
      omega
    · rcases List.mem_append.mp he with he | he
      · exact ha e he
      · rw [List.mem_singleton.mp he]; exact hd
  · rintro Γ μ ⟨o, acc, rfl, hg, hs, hl, ha⟩
    exact k Γ o acc hg hs hl ha
/-- a comprehension that draws -/
theorem w_lcDrw {b : D → M (Option D)} {xs : List D} {A : List D → Sto → Prop} {c : Int} {o : D} {r : Sto} (K : Int) (P : D → Prop) (hl : xs.length ≤ many) (hs : StO c o)
    (step : ∀ (i : Nat) x o, xs[i]? = some x → StO (c + K * i) o → Wp (b x (o :: r)) (OutQ P r (c + K * i + K)) fun _ _ => False)
    (k : ∀ o ds, StO (c + K * xs.length) o → ds.length ≤ xs.length → (∀ d ∈ ds, P d) → A ds (o :: r)) : Wp (lcL b xs [] (o :: r)) A X := by
  refine w_lcG (fun i a μ => ∃ o, μ = o :: r ∧ StO (c + K * i) o ∧ a.length ≤ i ∧ ∀ d ∈ a, P d) hl ⟨o, rfl, by simpa using hs, Nat.le_refl _, fun d h => by cases h⟩ ?_ ?_
  · rintro i x a μ hx ⟨o, rfl, hs, hl, ha⟩
    refine (step i x o hx hs).imp (fun q m h => ?_) fun _ _ h => h.elim
    obtain ⟨o', rfl, hd, hs'⟩ := h
    refine ⟨o', rfl, hs'.le ?_, ?_, fun e he => ?_⟩
    · rw [Int.natCast_add, Int.mul_add]
      simp
      omega
    · cases q <;> simp <;> omega
    · rcases List.mem_append.mp he with he | he
      · exact ha e he
      · cases q with
        | none => cases he
        | some d => simp at he; subst he; exact hd e rfl
  · rintro a μ ⟨o, rfl, hs, hl, ha⟩
    exact k o a hs hl ha
end
/-! generator expressions, makers with keywords -/
section
variable {Γ : Env} {μ : Sto} {Q : D → Sto → Prop} {X : Ex → Sto → Prop}
@[simp ↓] theorem w_gen (vs : List Nat) (it : IF) (g : GF) (t : TF) (e : EF) : Wp (eGen vs it g t e Γ μ) Q X = Wp (it Γ μ) (fun w μ => Wp (lcW (lcB vs g t e Γ) w [] μ) (fun xs μ => Wp (mkT xs μ) Q X) X) X := by
  show Wp (M.bind (it Γ) (fun w => M.bind (lcW (lcB vs g t e Γ) w []) mkT) μ) Q X = _
  simp only [w_bind]
@[simp ↓] theorem w_makeK (n m : Nat) (mk : List D → M D) (l : List (Nat ⊕ Nat)) (dv : List D) (r rk : AF) : Wp (eMakeK n m mk l dv r rk Γ μ) Q X = Wp (r Γ μ) (fun ds μ => Wp (rk Γ μ) (fun zs μ => Wp (M.guard (decide (ds.length = n) && decide (zs.length = m)) (mk (gMix l ds dv zs)) μ) Q X) X) X := by
  show Wp (M.bind (r Γ) (fun ds => M.bind (rk Γ) fun zs => M.guard (decide (ds.length = n) && decide (zs.length = m)) (mk (gMix l ds dv zs))) μ) Q X = _
  simp only [w_bind]
theorem mkT_ok {xs : List D} (h : xs.length ≤ many) : mkT xs μ = .ok (.tup xs) μ := by
  unfold mkT
  rw [decide_eq_true h]
  rfl
@[simp ↓] theorem w_kget (kvs : List (Str × Int)) (a : EF) : Wp (eKGet kvs a Γ μ) Q X = Wp (a Γ μ) (fun d μ => Wp ((match d with | .str z => M.pure (match kvs.lookup z with | some i => D.int i | none => D.non) | _ => M.fail) μ) Q X) X := by
  show Wp (M.bind (a Γ) _ μ) Q X = _
  simp only [w_bind]
  all_goals rfl
end
/-! walks over a list of the store -/
section
variable {Γ : Env} {μ : Sto} {S : Fl → Sto → Prop} {X : Ex → Sto → Prop}
theorem w_forS0 {b : D → Env → M Fl} {k : Nat} {xs : List D} (I : Nat → Env → Sto → Prop) (hk : ∀ i Γ μ, I i Γ μ → μ[k]? = some (.lst xs))
    (step : ∀ i x Γ μ, xs[i]? = some x → I i Γ μ → Wp (b x Γ μ) (fun f μ => LoopK f (fun Γ' => I (i + 1) Γ' μ) fun f => S f μ) X) (fin : ∀ Γ μ, I xs.length Γ μ → S (.nx Γ) μ) : ∀ (m i : Nat) (Γ : Env) (μ : Sto), m + i = xs.length + 1 → i ≤ xs.length → I i Γ μ → Wp (forS b k m i Γ μ) S X
  | 0, i, Γ, μ, e, l, _ => by omega
  | m + 1, i, Γ, μ, e, l, h => by
    have hx := hk i Γ μ h
    show Wp ((match μ[k]? with
      | some (.lst xs) => match xs[i]? with
        | none => M.pure (Fl.nx Γ)
        | some x => M.bind (b x Γ) fun f => match f with
          | .nx Γ' => forS b k m (i + 1) Γ'
          | .ct Γ' => forS b k m (i + 1) Γ'
          | .bk Γ' => M.pure (Fl.nx Γ')
          | f => M.pure f
      | _ => M.fail) μ) S X
    rw [hx]
    dsimp only
    cases q : xs[i]? with
    | none =>
      have : xs.length ≤ i := List.getElem?_eq_none_iff.mp q
      have e2 : i = xs.length := by omega
      subst e2
      exact .ok (fin _ _ h)
    | some x =>
      have lt := (List.getElem?_eq_some_iff.mp q).1
      dsimp only
      rw [w_bind]
      refine (step i x Γ μ q h).imp (fun f m' hf => ?_) fun _ _ h => h
      cases f with
      | nx Γ' => exact w_forS0 I hk step fin m (i + 1) Γ' m' (by omega) (by omega) hf
      | ct Γ' => exact w_forS0 I hk step fin m (i + 1) Γ' m' (by omega) (by omega) hf
      | bk _ => exact .ok hf
      | rt _ => exact .ok hf
      | ex _ _ => exact .ok hf
theorem w_forSt {b : D → Env → M Fl} {k : Nat} {xs : List D} (I : Nat → Env → Sto → Prop) (hk : ∀ i Γ μ, I i Γ μ → μ[k]? = some (.lst xs)) (h : I 0 Γ μ)
    (step : ∀ i x Γ μ, xs[i]? = some x → I i Γ μ → Wp (b x Γ μ) (fun f μ => LoopK f (fun Γ' => I (i + 1) Γ' μ) fun f => S f μ) X) (fin : ∀ Γ μ, I xs.length Γ μ → S (.nx Γ) μ) : Wp (forW b (.sto k) Γ μ) S X := by
  show Wp ((match μ[k]? with | some (.lst xs) => forS b k (xs.length + 1) 0 Γ | _ => M.fail) μ) S X
  rw [hk 0 Γ μ h]
  exact w_forS0 I hk step fin _ 0 Γ μ (by omega) (by omega) h
theorem w_lcS0 {b : D → M (Option D)} {k : Nat} {xs : List D} {A : List D → Sto → Prop} (I : Nat → List D → Sto → Prop) (hk : ∀ i a μ, I i a μ → μ[k]? = some (.lst xs)) (hm : xs.length ≤ many) (hl : ∀ i a μ, I i a μ → a.length ≤ i)
    (step : ∀ i x a μ, xs[i]? = some x → I i a μ → Wp (b x μ) (fun r μ => I (i + 1) (a ++ r.toList) μ) X) (fin : ∀ a μ, I xs.length a μ → A a μ) : ∀ (m i : Nat) (a : List D) (μ : Sto), m + i = xs.length + 1 → i ≤ xs.length → I i a μ → Wp (lcS b k m i a μ) A X
  | 0, i, a, μ, e, l, _ => by omega
  | m + 1, i, a, μ, e, l, h => by
    have hx := hk i a μ h
    show Wp ((match μ[k]? with
      | some (.lst xs) => match xs[i]? with
        | none => M.pure a
        | some x => M.bind (b x) fun o => match o with
          | some d => M.guard (decide (a.length < many)) (lcS b k m (i + 1) (a ++ [d]))
          | none => lcS b k m (i + 1) a
      | _ => M.fail) μ) A X
    rw [hx]
    dsimp only
    cases q : xs[i]? with
    | none =>
      have : xs.length ≤ i := List.getElem?_eq_none_iff.mp q
      have e2 : i = xs.length := by omega
      subst e2
      exact .ok (fin _ _ h)
    | some x =>
      have lt := (List.getElem?_eq_some_iff.mp q).1
      have la := hl i a μ h
      dsimp only
      rw [w_bind]
      refine (step i x a μ q h).imp (fun r m' hr => ?_) fun _ _ h => h
      cases r with
      | none => exact w_lcS0 I hk hm hl step fin m (i + 1) a m' (by omega) (by omega) (by simpa using hr)
      | some d =>
        dsimp only
        rw [decide_eq_true (show a.length < many by omega), x_guardT]
        exact w_lcS0 I hk hm hl step fin m (i + 1) _ m' (by omega) (by omega) hr
theorem w_lcSt {b : D → M (Option D)} {k : Nat} {xs : List D} {A : List D → Sto → Prop} (I : Nat → List D → Sto → Prop) (hk : ∀ i a μ, I i a μ → μ[k]? = some (.lst xs)) (hm : xs.length ≤ many) (hl : ∀ i a μ, I i a μ → a.length ≤ i) (h : I 0 [] μ)
    (step : ∀ i x a μ, xs[i]? = some x → I i a μ → Wp (b x μ) (fun r μ => I (i + 1) (a ++ r.toList) μ) X) (fin : ∀ a μ, I xs.length a μ → A a μ) : Wp (lcW b (.sto k) [] μ) A X := by
  show Wp ((match μ[k]? with | some (.lst xs) => lcS b k (xs.length + 1) 0 [] | _ => M.fail) μ) A X
  rw [hk 0 [] μ h]
  exact w_lcS0 I hk hm hl step fin _ 0 [] μ (by omega) (by omega) h
@[simp] theorem x_wkOb (k : Nat) (xs : List D) (h : μ[k]? = some (.lst xs)) : wkD (.ob k) μ = .ok (.sto k) μ := by
  unfold wkD
  rw [x_get]
  simp [h]
end
/-- a call whose things are plain -/
theorem callV_cells {n : Nat} {f : List D → M D} {ds ds' : List D} {d : D} {μ : Sto} {ks : List Nat} {os os' : List D} (hl : ds.length = n) (hr : reach μ 1000 (mutsL ds) [] = ks) (hd1 : mapMuts (fun k => (idx? ks k).map D.ob) ds = some ds') (hg : getAll μ ks = some os) (hos : PuL os) (hf : f ds' os = .ok d os') (hd : Pu d) (hos' : PuL os') (len : os'.length ≤ ks.length) : callV n f ds μ = .ok d (wb ks os' 0 μ) := by
  unfold callV
  rw [show (ds.length == n) = true from beq_iff_eq.mpr hl, x_guardT]
  dsimp only
  rw [hr, hd1]
  dsimp only
  rw [hg, Option.bind_some, hos.map]
  dsimp only
  rw [hf]
  dsimp only
  rw [hd.map, hos'.map]
  dsimp only
  rw [List.drop_eq_nil_of_le len, List.append_nil]
/-! walks over things that stand for others -/
section
variable {Γ : Env} {μ : Sto} {X : Ex → Sto → Prop} {F : D → D → Prop}
theorem w_lcPair0 {b : D → M (Option D)} {A : List D → Sto → Prop} : ∀ {xs ys acc : List D}, Paired F xs ys → acc.length + ys.length ≤ many → (∀ x y, F x y → Wp (b y μ) (fun r m => r = some x ∧ m = μ) fun _ _ => False) → A (acc ++ xs) μ → Wp (lcL b ys acc μ) A X
  | [], [], acc, .nil, _, _, k => .ok (by simpa using k)
  | x :: xs, y :: ys, acc, .cons h t, l, hb, k => by
    show Wp (M.bind (b y) _ μ) A X
    rw [w_bind]
    refine (hb x y h).imp (fun r m hr => ?_) fun _ _ h => h.elim
    obtain ⟨rfl, em⟩ := hr
    rw [em]
    dsimp only
    simp only [List.length_cons] at l
    rw [decide_eq_true (show acc.length < many by omega), x_guardT]
    exact w_lcPair0 t (by simp; omega) hb (by simpa using k)
theorem w_lcPair {b : D → M (Option D)} {A : List D → Sto → Prop} {xs ys : List D} (hp : Paired F xs ys) (l : ys.length ≤ many) (hb : ∀ x y, F x y → Wp (b y μ) (fun r m => r = some x ∧ m = μ) fun _ _ => False) (k : A xs μ) : Wp (lcL b ys [] μ) A X := w_lcPair0 hp (by simpa using l) hb (by simpa using k)
theorem w_forPair0 {b : D → Env → M Fl} {S : Fl → Sto → Prop} (I : List D → Env → Sto → Prop) {ws : List D} : ∀ {xs ys pre : List D} {Γ : Env} {μ : Sto}, Paired F xs ys → pre ++ xs = ws → I pre Γ μ → (∀ pre x y Γ μ, F x y → pre.length < ws.length → I pre Γ μ → Wp (b y Γ μ) (fun f μ => LoopK f (fun Γ' => I (pre ++ [x]) Γ' μ) fun f => S f μ) X) → (∀ Γ μ, I ws Γ μ → S (.nx Γ) μ) → Wp (forL b ys Γ μ) S X
  | [], [], pre, Γ, μ, .nil, e, h, _, k => .ok (k _ _ (by rw [← e]; simpa using h))
  | x :: xs, y :: ys, pre, Γ, μ, .cons hf t, e, h, step, k => by
    rw [w_forC]
    refine (step pre x y Γ μ hf (by rw [← e]; simp) h).imp (fun f m hf => ?_) fun _ _ h => h
    have go : ∀ Γ', I (pre ++ [x]) Γ' m → Wp (forL b ys Γ' m) S X := fun Γ' h1 => w_forPair0 I t (by rw [← e]; simp) h1 step k
    cases f with
    | nx Γ' => exact go _ hf
    | ct Γ' => exact go _ hf
    | bk _ => exact hf
    | rt _ => exact hf
    | ex _ _ => exact hf
theorem w_forPair {b : D → Env → M Fl} {S : Fl → Sto → Prop} {xs ys : List D} (I : List D → Env → Sto → Prop) (hp : Paired F xs ys) (h : I [] Γ μ) (step : ∀ pre x y Γ μ, F x y → pre.length < xs.length → I pre Γ μ → Wp (b y Γ μ) (fun f μ => LoopK f (fun Γ' => I (pre ++ [x]) Γ' μ) fun f => S f μ) X) (k : ∀ Γ μ, I xs Γ μ → S (.nx Γ) μ) : Wp (forL b ys Γ μ) S X := w_forPair0 I hp rfl h step k
theorem Paired.atR {α β : Type} {F : α → β → Prop} : ∀ {xs : List α} {ys : List β} {i : Nat} {y : β}, Paired F xs ys → ys[i]? = some y → ∃ x, xs[i]? = some x ∧ F x y
  | _, _, _, _, .nil, e => by simp at e
  | _, _, 0, _, .cons h t, e => by simp at e; subst e; exact ⟨_, rfl, h⟩
  | _, _, i + 1, _, .cons h t, e => by
    obtain ⟨x, h1, h2⟩ := Paired.atR (i := i) t (by simpa using e)
    exact ⟨x, by simpa using h1, h2⟩
theorem w_forPairS {b : D → Env → M Fl} {S : Fl → Sto → Prop} {k0 : Nat} {xs ys : List D} (I : List D → Env → Sto → Prop) (hk : ∀ p Γ μ, I p Γ μ → μ[k0]? = some (.lst ys)) (hp : Paired F xs ys) (h : I [] Γ μ) (step : ∀ pre x y Γ μ, F x y → pre.length < xs.length → I pre Γ μ → Wp (b y Γ μ) (fun f μ => LoopK f (fun Γ' => I (pre ++ [x]) Γ' μ) fun f => S f μ) X) (k : ∀ Γ μ, I xs Γ μ → S (.nx Γ) μ) : Wp (forW b (.sto k0) Γ μ) S X := by
  have hl : xs.length = ys.length := Paired.length hp
  refine w_forSt (xs := ys) (fun i Γ μ => i ≤ xs.length ∧ I (xs.take i) Γ μ) (fun i Γ μ h => hk _ _ _ h.2) ⟨by omega, by simpa using h⟩ (fun i y Γ μ hy hi => ?_) fun Γ μ h => k Γ μ (by have := h.2; rwa [← hl, List.take_length] at this)
  obtain ⟨x, hx, hf⟩ := Paired.atR hp hy
  have lt := (List.getElem?_eq_some_iff.mp hx).1
  refine (step (xs.take i) x y Γ μ hf (by rw [List.length_take]; omega) hi.2).imp (fun f m hf => ?_) fun _ _ h => h
  have e : xs.take i ++ [x] = xs.take (i + 1) := by
    rw [List.take_add_one, hx]
    rfl
  rw [e] at hf
  cases f with
  | nx Γ' => exact ⟨by omega, hf⟩
  | ct Γ' => exact ⟨by omega, hf⟩
  | bk _ => exact hf
  | rt _ => exact hf
  | ex _ _ => exact hf
end
/-! freezing -/
theorem frz_ob1 {o x : D} (hx : Pu x) : mapMut (fz 1 [o, x] 20) (.ob 1) = some x := by
  show (bif decide (1 < 1) then some (D.ob 1) else (([o, x] : Sto)[1]?).bind (mapMut (fz 1 [o, x] 19))) = _
  exact hx.map _
theorem mm_nil {g : Nat → Option D} : mapMuts g [] = some [] := rfl
theorem mm_cons {g : Nat → Option D} {x x' : D} {xs xs' : List D} (h : mapMut g x = some x') (t : mapMuts g xs = some xs') : mapMuts g (x :: xs) = some (x' :: xs') := by
  unfold mapMuts
  rw [h, t]
  rfl
theorem mm_lst {g : Nat → Option D} {xs xs' : List D} (t : mapMuts g xs = some xs') : mapMut g (.lst xs) = some (.lst xs') := by
  unfold mapMut
  rw [t]
  rfl
/-! makers and calls on plain cells -/
theorem callV_new {n : Nat} {f : List D → M D} {ds : List D} {x : D} {μ : Sto} (hl : ds.length = n) (hp : PuL ds) (hf : f ds [] = .ok (.ob 0) [x]) (hx : Pu x) : callV n f ds μ = .ok (.ob μ.length) (μ ++ [x]) := by
  unfold callV
  rw [show (ds.length == n) = true from beq_iff_eq.mpr hl, x_guardT]
  have e2 : mutsL ds = [] := hp
  dsimp only
  rw [e2, reach_nil, hp.map]
  dsimp only [getAll, Option.bind_some, mapMuts]
  rw [hf]
  dsimp only
  have e3 : mapMut (backN [] μ.length) (.ob 0) = some (.ob μ.length) := rfl
  rw [e3, PuL.map (puL1 hx)]
  dsimp only
  rw [wb_nil]
  rfl
theorem makeV_cells {C : Str} {n : Nat} {f : List D → M D} {dv ds ds' : List D} {o : D} {μ : Sto} {ks : List Nat} {os os' : List D} (hl : (ds ++ dv).length + 1 = n) (hr : reach (μ ++ [.ins C [] []]) 1000 (mutsL (.ob μ.length :: (ds ++ dv))) [] = ks) (hd : mapMuts (fun k => (idx? ks k).map D.ob) (.ob μ.length :: (ds ++ dv)) = some ds') (hg : getAll (μ ++ [.ins C [] []]) ks = some os) (hos : PuL os) (hf : f ds' os = .ok .non os') (hos' : PuL os') (len : os'.length ≤ ks.length) (hwb : wb ks os' 0 (μ ++ [.ins C [] []]) = μ ++ [o]) (ho : Pu o) (hμ : PuL μ) : makeV C n f false dv ds μ = .ok o μ := by
  have call := callV_cells (n := n) (f := f) (ds := .ob μ.length :: (ds ++ dv)) (μ := μ ++ [.ins C [] []]) (by simpa using hl) hr hd hg hos hf puNon hos' len
  unfold makeV
  rw [call, hwb]
  dsimp only
  unfold Vl.finish
  have f1 : mapMut (fz μ.length (μ ++ [o]) 20) (.ob μ.length) = some o := by
    show (bif decide (μ.length < μ.length) then some (D.ob μ.length) else ((μ ++ [o])[μ.length]?).bind (mapMut (fz μ.length (μ ++ [o]) 19))) = _
    rw [decide_eq_false (by omega)]
    simp
    exact ho.map _
  have f2 : mapMuts (fz μ.length (μ ++ [o]) 20) ((μ ++ [o]).take μ.length) = some μ := by
    rw [List.take_left]
    exact hμ.map _
  simp only [cond_false, f1, f2]
section
variable {Γ : Env} {μ : Sto} {X : Ex → Sto → Prop} {A : List D → Sto → Prop}
theorem w_lc0 (b : D → M (Option D)) (acc : List D) : Wp (lcL b [] acc μ) A X = A acc μ := by
  show Wp (M.pure acc μ) A X = _
  rw [x_pure, w_ok]
theorem w_lcC (b : D → M (Option D)) (x : D) (xs acc : List D) (l : acc.length < 1000) : Wp (lcL b (x :: xs) acc μ) A X = Wp (b x μ) (fun r μ => Wp (lcL b xs (acc ++ r.toList) μ) A X) X := by
  show Wp (M.bind (b x) _ μ) A X = _
  rw [w_bind]
  refine congrArg (fun z => Wp (b x μ) z X) (funext fun r => funext fun m => ?_)
  cases r with
  | none => simp
  | some d =>
    dsimp only
    rw [decide_eq_true (show acc.length < many by unfold many; omega), x_guardT]
    rfl
end
theorem look_lst (xs : List D) (μ : Sto) : rdL μ (.lst xs) = some xs := rfl
/-! data compared by a program -/
mutual
def beqD : D → D → Bool
  | .non, .non => true
  | .bl a, .bl b => a == b
  | .int a, .int b => a == b
  | .str a, .str b => a == b
  | .tup xs, .tup ys => beqL xs ys
  | .lst xs, .lst ys => beqL xs ys
  | _, _ => false
def beqL : List D → List D → Bool
  | [], [] => true
  | x :: xs, y :: ys => beqD x y && beqL xs ys
  | _, _ => false
end
mutual
theorem beqD_ok : ∀ {x y : D}, beqD x y = true → x = y := fun {x y} h => by
  cases x <;> cases y <;> first | (simp [beqD] at h; done) | skip
  case non.non => rfl
  case bl.bl a b => rw [show a = b from by simpa [beqD] using h]
  case int.int a b => rw [show a = b from by simpa [beqD] using h]
  case str.str a b => rw [show a = b from by simpa [beqD] using h]
  case tup.tup xs ys => rw [beqL_ok (xs := xs) (ys := ys) (by simpa [beqD] using h)]
  case lst.lst xs ys => rw [beqL_ok (xs := xs) (ys := ys) (by simpa [beqD] using h)]
theorem beqL_ok : ∀ {xs ys : List D}, beqL xs ys = true → xs = ys
  | [], [], _ => rfl
  | x :: xs, y :: ys, h => by
    simp only [beqL, Bool.and_eq_true] at h
    rw [beqD_ok h.1, beqL_ok h.2]
  | [], _ :: _, h => by simp [beqL] at h
  | _ :: _, [], h => by simp [beqL] at h
end
def okB (o : O D) (d : D) : Bool := match o with
  | .ok x [] => beqD x d
  | _ => false
theorem okB_ok {o : O D} {d : D} (h : okB o d = true) : o = .ok d [] := by
  unfold okB at h
  split at h
  · rw [beqD_ok h]
  · cases h
theorem eqD_lst_nil {n : Nat} {xs : List D} (h : Pl n (.lst xs)) (hx : xs ≠ []) (hn : n ≤ 64 := by decide) (μ : Sto) : eqD (.lst xs) (.lst []) μ = .ok false μ := by
  obtain ⟨hp, a, e, c, k⟩ := h.py
  have s : SeqAt.shaped a = true := by unfold SeqAt.shaped; rw [c, decide_eq_true (by omega)]; rfl
  rw [eqD_py hp (y := .lst []) rfl e rfl s (by rfl)]
  have ea : ∃ as, a = .list as ∧ as ≠ [] := by
    unfold toPy at e
    cases q : toPys xs with
    | none => rw [q] at e; cases e
    | some as =>
      rw [q] at e
      cases e
      refine ⟨as, rfl, fun z => hx ?_⟩
      subst z
      cases xs with
      | nil => rfl
      | cons x xs =>
        unfold toPys at q
        revert q
        cases toPy x with
        | none => intro q; cases q
        | some y => cases toPys xs <;> intro q <;> simp at q
  obtain ⟨as, rfl, ha⟩ := ea
  cases as with
  | nil => exact absurd rfl ha
  | cons b bs => rfl
/-- a def without a value on plain cells -/
theorem fun_wpC {N : Nat} {b : SF} {ds os os' : List D} (ho : PuL os') (len : os'.length = os.length) (h : Wp (b (env0 N ds) os) (fun f m => (∃ Γ, f = .nx Γ) ∧ m = os') fun _ _ => False) : funF false N b ds os = .ok .non os' := by
  cases q : b (env0 N ds) os with
  | bad => rw [q] at h; cases h
  | exc _ _ => rw [q, w_exc] at h; cases h
  | ok f m =>
    rw [q, w_ok] at h
    obtain ⟨⟨Γ, rfl⟩, rfl⟩ := h
    unfold funF
    rw [q]
    dsimp only
    unfold Vl.finish
    rw [puNon.map, ← len, List.take_length, ho.map]
    rfl
/-- a def with a value on plain cells -/
theorem fun_wpR {N : Nat} {b : SF} {ds os os' : List D} {d : D} (hd : Pu d) (ho : PuL os') (len : os'.length = os.length) (h : Wp (b (env0 N ds) os) (fun f m => f = .rt d ∧ ∃ r, m = os' ++ r) fun _ _ => False) : funF false N b ds os = .ok d os' := by
  cases q : b (env0 N ds) os with
  | bad => rw [q] at h; cases h
  | exc _ _ => rw [q, w_exc] at h; cases h
  | ok f m =>
    rw [q, w_ok] at h
    obtain ⟨rfl, r, rfl⟩ := h
    unfold funF
    rw [q]
    dsimp only
    unfold Vl.finish
    rw [hd.map, ← len, List.take_left, ho.map]
    rfl
theorem idx_not : ∀ {ks : List Nat} {k : Nat}, k ∉ ks → idx? ks k = none
  | [], _, _ => rfl
  | a :: r, k, h => by
    have h1 : a ≠ k := fun z => h (z ▸ List.mem_cons_self)
    have h2 := idx_not (ks := r) (k := k) fun z => h (List.mem_cons_of_mem _ z)
    have h3 : (a == k) = false := by simpa using h1
    simp [idx?, h3, h2]
theorem reach_flat (μ : Sto) : ∀ (n : Nat) (todo seen : List Nat), todo.length ≤ n → (∀ k ∈ todo, muts ((μ[k]?).getD .non) = []) → (seen ++ todo).Nodup → reach μ n todo seen = seen ++ todo
  | 0, [], seen, _, _, _ => by simp [reach]
  | 0, _ :: _, _, h, _, _ => by simp at h
  | n + 1, [], seen, _, _, _ => by simp [reach]
  | n + 1, k :: todo, seen, h, hm, nd => by
    have hk : k ∉ seen := fun z => (List.nodup_append.mp nd).2.2 k z k List.mem_cons_self rfl
    show (bif (idx? seen k).isSome then _ else reach μ n (todo ++ muts ((μ[k]?).getD .non)) (seen ++ [k])) = _
    rw [idx_not hk, hm k List.mem_cons_self, List.append_nil]
    show reach μ n todo (seen ++ [k]) = _
    rw [reach_flat μ n todo (seen ++ [k]) (by simp at h; omega) (fun j hj => hm j (List.mem_cons_of_mem _ hj)) (by simpa using nd)]
    simp
/-- all cells plain -/
theorem reach_pu {μ : Sto} {todo : List Nat} (hμ : PuL μ) (nd : todo.Nodup) (l : todo.length ≤ 1000) : reach μ 1000 todo [] = todo := by
  have := reach_flat μ 1000 todo [] l (fun k _ => by
    cases q : μ[k]? with
    | none => rfl
    | some d =>
      have : ∀ {xs : List D} {d : D}, PuL xs → d ∈ xs → muts d = [] := by
        intro xs
        induction xs with
        | nil => intro d _ h; cases h
        | cons y ys ih =>
          intro d hp hd
          have hp : muts y ++ mutsL ys = [] := hp
          rcases List.mem_cons.mp hd with rfl | hd
          · exact (List.append_eq_nil_iff.mp hp).1
          · exact ih (List.append_eq_nil_iff.mp hp).2 hd
      exact this hμ (List.mem_of_getElem? q)) (by simpa using nd)
  simpa using this
end Vl

/-! more methods of lists; a text of the top; a try with several handlers -/
namespace Vl
open PySem PySem.Spec PyProof.Rows L2
def extendD (o : D) (xs : List D) : M D := fun μ => match o, xs with
  | .ob k, [y] => match μ[k]?, look μ y with
    | some (.lst ys), .lst zs => M.guard (decide (ys.length + zs.length ≤ many)) (fun μ => O.ok D.non (μ.set k (.lst (ys ++ zs)))) μ
    | _, _ => .bad
  | _, _ => .bad
def clearD (o : D) (xs : List D) : M D := fun μ => match o, xs with
  | .ob k, [] => match μ[k]? with
    | some (.lst _) => .ok .non (μ.set k (.lst []))
    | _ => .bad
  | _, _ => .bad
def reverseD (o : D) (xs : List D) : M D := fun μ => match o, xs with
  | .ob k, [] => match μ[k]? with
    | some (.lst ys) => .ok .non (μ.set k (.lst ys.reverse))
    | _ => .bad
  | _, _ => .bad
def popD (o : D) (xs : List D) : M D := fun μ => match o, xs with
  | .ob k, [] => match μ[k]? with
    | some (.lst ys) => match ys[ys.length - 1]? with
      | some y => .ok y (μ.set k (.lst ys.dropLast))
      | none => .bad
    | _ => .bad
  | _, _ => .bad
section
variable {K : PySem.W.Frag} {φ : Addr → Prop} {ρ : List Addr} {μ : Sto} {H : Hp}
theorem VIs.lookH (r : Rep K φ ρ μ H) {v : V} {d : D} {xs : List D} (h : VIs K φ ρ H v d) (e : look μ d = .lst xs) : ∃ a vs, v = .ref a ∧ H a = some (.lst vs) ∧ VsIs K φ ρ H vs xs := by
  cases h with
  | obj h n => cases h with
    | lst h t => cases e; exact ⟨_, _, rfl, h, t⟩
    | _ => cases e
  | @ob k a h =>
    have e : (μ[k]?).getD .non = .lst xs := e
    cases q : μ[k]? with
    | none => rw [q] at e; cases e
    | some d =>
      rw [q] at e
      have e : d = .lst xs := e
      subst e
      cases r.at h q with
      | lst h t => exact ⟨_, _, rfl, h, t⟩
  | _ => cases e
theorem of_extend {v : V} {vs : List V} {x : D} {xs : List D} {Q : VK} {W : XK} (hr : Rep K φ ρ μ H) (hx : VIs K φ ρ H v x) (hv : VsIs K φ ρ H vs xs) (p : Post K (VIs K) φ ρ H Q W (extendD x xs μ)) : rExtend v vs H Q := by
  unfold extendD at p
  split at p
  · rename_i k y
    split at p
    · rename_i ys zs q q2
      obtain ⟨c, pp⟩ := guard_post p
      have c := of_decide_eq_true c
      obtain ⟨w, rfl, hw⟩ := hv.one
      obtain ⟨b2, ws, rfl, hb2, tw⟩ := hw.lookH hr q2
      cases hx with
      | obj h n => cases h
      | @ob _ b hb =>
        cases hr.at hb q with
        | @lst _ us _ e1 e2 =>
          refine ⟨b, b2, us, ws, rfl, rfl, e1, hb2, by rw [e2.length, tw.length]; exact Nat.le_of_lt (many_line c), ?_⟩
          exact pp _ _ _ _ (rep_put hr hb e1 (fun _ _ z => nomatch z) fun w h => .lst h ((e2.append tw).way w (mapMuts_id _ _ fun _ _ => rfl))) .non
    · exact p.elim
  · exact p.elim
theorem of_clear {v : V} {vs : List V} {x : D} {xs : List D} {Q : VK} {W : XK} (hr : Rep K φ ρ μ H) (hx : VIs K φ ρ H v x) (hv : VsIs K φ ρ H vs xs) (p : Post K (VIs K) φ ρ H Q W (clearD x xs μ)) : rClear v vs H Q := by
  unfold clearD at p
  split at p
  · rename_i k
    split at p
    · rename_i ys q
      cases hv
      cases hx with
      | obj h n => cases h
      | @ob _ b hb =>
        cases hr.at hb q with
        | @lst _ us _ e1 e2 => exact ⟨b, us, rfl, rfl, e1, p _ _ _ _ (rep_put hr hb e1 (fun _ _ z => nomatch z) fun w h => .lst h .nil) .non⟩
    · exact p.elim
  · exact p.elim
theorem of_reverse {v : V} {vs : List V} {x : D} {xs : List D} {Q : VK} {W : XK} (hr : Rep K φ ρ μ H) (hx : VIs K φ ρ H v x) (hv : VsIs K φ ρ H vs xs) (p : Post K (VIs K) φ ρ H Q W (reverseD x xs μ)) : rReverse v vs H Q := by
  unfold reverseD at p
  split at p
  · rename_i k
    split at p
    · rename_i ys q
      cases hv
      cases hx with
      | obj h n => cases h
      | @ob _ b hb =>
        cases hr.at hb q with
        | @lst _ us _ e1 e2 => exact ⟨b, us, rfl, rfl, e1, p _ _ _ _ (rep_put hr hb e1 (fun _ _ z => nomatch z) fun w h => .lst h (e2.reverse.way w (mapMuts_id _ _ fun _ _ => rfl))) .non⟩
    · exact p.elim
  · exact p.elim
theorem VsIs.dropLast : ∀ {vs : List V} {ds : List D}, VsIs K φ ρ H vs ds → VsIs K φ ρ H vs.dropLast ds.dropLast := fun {vs ds} h => by
  rw [List.dropLast_eq_take, List.dropLast_eq_take, h.length]
  exact h.take _
theorem of_pop {v : V} {vs : List V} {x : D} {xs : List D} {Q : VK} {W : XK} (hr : Rep K φ ρ μ H) (hx : VIs K φ ρ H v x) (hv : VsIs K φ ρ H vs xs) (p : Post K (VIs K) φ ρ H Q W (popD x xs μ)) : rPop v vs H Q := by
  unfold popD at p
  split at p
  · rename_i k
    split at p
    · rename_i ys q
      split at p
      · rename_i y hy
        cases hv
        cases hx with
        | obj h n => cases h
        | @ob _ b hb =>
          cases hr.at hb q with
          | @lst _ us _ e1 e2 =>
            obtain ⟨u, hu, iu⟩ := e2.at hy
            have l := rep_put (d := .lst ys.dropLast) (o := .lst us.dropLast) hr hb e1 (fun _ _ z => nomatch z) fun w h => .lst h (e2.dropLast.way w (mapMuts_id _ _ fun _ _ => rfl))
            exact ⟨b, us, u, rfl, rfl, e1, by rw [e2.length]; exact hu, p _ _ _ _ l (l.val hr iu)⟩
      · exact p.elim
    · exact p.elim
  · exact p.elim
end
section
variable {X : Cx} {K : PySem.W.Frag} {W : L2.St → XK} {o e : Expr} {es : List Expr} {apos : Pos} {fo : EF} {r : AF}
theorem fExtend {cpos : Pos} (ho : PE X o (tE K W fo)) (ha : PA X (e :: es) (tA K W r)) (hK : X.K = K := by rfl) (hbase : attributeBase o "extend" X.env (eval o X.env) = eval o X.env := by rfl)
    (hfew : ((backTo cpos (starEach (e :: es) X.env)).all (fun x => !x.1) && (backToKw cpos (keywordEach [] X.env)).all (fun x => x.1.isSome) && decide ((e :: es).length + ([] : List Keyword).length + (if ([] : List Keyword).isEmpty then 0 else 1) < 30)) = true := by rfl)
    (hline : (apos.endLine == cpos.line) = true := by rfl) (hs : starEach (e :: es) X.env = (false, eval e X.env) :: starEach es X.env := by rfl) (hplain : (backTo cpos (starEach es X.env)).any (·.1) = false := by rfl) :
    PE X (.Call (.Attribute o "extend" apos) (e :: es) [] cpos) (tE K W (eLM extendD fo r)) := by
  subst hK
  refine (pe_bm PySem.F.plainAttrs_list PySem.F.slot_list_extend PySem.F.type_list_extend mt_extend ho ha hbase hfew hline hs hplain).vimp fun σ H Q ⟨φ, ρ, Γ, μ, he, hr, p⟩ => stepE he hr p fun l1 he h1 p => ?_
  obtain ⟨t, p⟩ := isList_post l1.rep h1 p
  exact ⟨t, stepA he l1.rep p fun l2 he h2 p => of_extend l2.rep (l2.val l1.rep h1) h2 p⟩
theorem bm0 {name : Str} {id : String} {rr : V → List V → Hp → VK → Prop} {g : D → List D → M D} {cpos : Pos} (slot : Slot "list" name id) (hty : typeOf (.builtin id) = pure (.type "method_descriptor")) (hm : MtR X id rr)
    (hf : ∀ {φ : Addr → Prop} {ρ : List Addr} {μ : Sto} {H : Hp} {v : V} {x : D} {Q : VK} {W : XK}, Rep K φ ρ μ H → VIs K φ ρ H v x → Post K (VIs K) φ ρ H Q W (g x [] μ) → rr v [] H Q) (ho : PE X o (tE K W fo)) (hK : X.K = K)
    (hbase : attributeBase o name X.env (eval o X.env) = eval o X.env) (hline : (apos.endLine == cpos.line) = true) : PE X (.Call (.Attribute o name apos) [] [] cpos) (tE K W (eLM g fo aNil)) := by
  subst hK
  refine (pe_bm0 PySem.F.plainAttrs_list slot hty hm ho hbase hline).vimp fun σ H Q ⟨φ, ρ, Γ, μ, he, hr, p⟩ => stepE he hr p fun l1 he h1 p => ?_
  obtain ⟨t, p⟩ := isList_post l1.rep h1 p
  exact ⟨t, hf l1.rep h1 p⟩
theorem fClear {cpos : Pos} (ho : PE X o (tE K W fo)) (hK : X.K = K := by rfl) (hbase : attributeBase o "clear" X.env (eval o X.env) = eval o X.env := by rfl) (hline : (apos.endLine == cpos.line) = true := by rfl) : PE X (.Call (.Attribute o "clear" apos) [] [] cpos) (tE K W (eLM clearD fo aNil)) := bm0 PySem.F.slot_list_clear PySem.F.type_list_clear mt_clear (fun hr hx p => of_clear hr hx .nil p) ho hK hbase hline
theorem fReverse {cpos : Pos} (ho : PE X o (tE K W fo)) (hK : X.K = K := by rfl) (hbase : attributeBase o "reverse" X.env (eval o X.env) = eval o X.env := by rfl) (hline : (apos.endLine == cpos.line) = true := by rfl) : PE X (.Call (.Attribute o "reverse" apos) [] [] cpos) (tE K W (eLM reverseD fo aNil)) := bm0 PySem.F.slot_list_reverse PySem.F.type_list_reverse mt_reverse (fun hr hx p => of_reverse hr hx .nil p) ho hK hbase hline
theorem fPop {cpos : Pos} (ho : PE X o (tE K W fo)) (hK : X.K = K := by rfl) (hbase : attributeBase o "pop" X.env (eval o X.env) = eval o X.env := by rfl) (hline : (apos.endLine == cpos.line) = true := by rfl) : PE X (.Call (.Attribute o "pop" apos) [] [] cpos) (tE K W (eLM popD fo aNil)) := bm0 PySem.F.slot_list_pop PySem.F.type_list_pop mt_pop (fun hr hx p => of_pop hr hx .nil p) ho hK hbase hline
end
/-- a text of the top -/
theorem fConS {X : Cx} {K : PySem.W.Frag} {W : L2.St → XK} {x z : Str} {pos : Pos} (h : ∃ t, X.mg x = some (.str z t)) (hg : Gl X x := by rfl) (hd : (x == ("__debug__" : Str)) = false := by decide) : PE X (.Name x pos) (tE K W (eC (.str z))) := by
  obtain ⟨t, h⟩ := h
  exact fC (pe_glob (v := .str z) hg h ⟨t, rfl⟩ hd) fun _ _ _ => .str z
end Vl

/-! dicts of ints and texts -/
namespace Vl
open PySem PySem.Spec PyProof.Rows L2
/-- a key -/
def keyO : D → Option Key
  | .int i => some (.inl i)
  | .str x => some (.inr x)
  | _ => none
def keyB (k : D) (a : D) : Bool := match k, a with
  | .int i, .int j => decide (j = i)
  | .str i, .str j => decide (j = i)
  | _, _ => false
def getO (k : D) : List D → List D → Option D
  | a :: ks, x :: xs => bif keyB k a then some x else getO k ks xs
  | _, _ => none
def setO (k v : D) : List D → List D → List D
  | a :: ks, x :: xs => (bif keyB k a then v else x) :: setO k v ks xs
  | _, _ => []
def dropK (k : D) : List D → List D → List D
  | a :: ks, x :: xs => bif keyB k a then dropK k ks xs else a :: dropK k ks xs
  | _, _ => []
def dropX (k : D) : List D → List D → List D
  | a :: ks, x :: xs => bif keyB k a then dropX k ks xs else x :: dropX k ks xs
  | _, _ => []
def putO (k v : D) (ks xs : List D) : D := bif ks.any (keyB k) then .dct ks (setO k v ks xs) else .dct (ks ++ [k]) (xs ++ [v])
/-- a dict that is read -/
def dctO : D → Option (List D × List D)
  | .dct ks xs => some (ks, xs)
  | .dcz ks xs => some (ks, xs)
  | _ => none
def dictD (μ : Sto) (x : D) : Option (List D × List D) := dctO (look μ x)
def dgetD (x y : D) : M D := fun μ => match dictD μ x, keyO y with
  | some (ks, xs), some _ => M.opt (getO y ks xs) μ
  | _, _ => .bad
def dinD (neg : Bool) (y x : D) : M D := fun μ => match dictD μ x, keyO y with
  | some (ks, xs), some _ => .ok (.bl (if neg then !(getO y ks xs).isSome else (getO y ks xs).isSome)) μ
  | _, _ => .bad
def dputD (x y v : D) : M Unit := fun μ => match x, keyO y with
  | .ob k, some _ => match μ[k]? with
    | some (.dct ks xs) => M.guard (decide (xs.length < many)) (fun μ => O.ok () (μ.set k (putO y v ks xs))) μ
    | _ => .bad
  | _, _ => .bad
def sDPut (o i e : EF) : SF := fun Γ => up Γ (e Γ) fun v => up Γ (o Γ) fun x => up Γ (i Γ) fun j => up Γ (dputD x j v) fun _ => M.pure (.nx Γ)
/-- {} -/
def eDNew : EF := fun _ μ => .ok (.ob μ.length) (μ ++ [.dct [] []])
def isDctD (x : D) : M Unit := fun μ => match dictD μ x with
  | some _ => .ok () μ
  | none => .bad
def eDGet1 (a b : EF) : EF := fun Γ => M.bind (a Γ) fun x => M.bind (isDctD x) fun _ => M.bind (b Γ) fun y => fun μ => match dictD μ x, keyO y with
  | some (ks, xs), some _ => .ok ((getO y ks xs).getD .non) μ
  | _, _ => .bad
def eDGet2 (a b c : EF) : EF := fun Γ => M.bind (a Γ) fun x => M.bind (isDctD x) fun _ => M.bind (b Γ) fun y => M.bind (c Γ) fun z => fun μ => match dictD μ x, keyO y with
  | some (ks, xs), some _ => .ok ((getO y ks xs).getD z) μ
  | _, _ => .bad
def dpopD (x y z : D) : M D := fun μ => match x, keyO y with
  | .ob k, some _ => match μ[k]? with
    | some (.dct ks xs) => match getO y ks xs with
      | some d => .ok d (μ.set k (.dct (dropK y ks xs) (dropX y ks xs)))
      | none => .ok z μ
    | _ => .bad
  | _, _ => .bad
def eDPop2 (a b c : EF) : EF := fun Γ => M.bind (a Γ) fun x => M.bind (isDctD x) fun _ => M.bind (b Γ) fun y => M.bind (c Γ) fun z => dpopD x y z
section
variable {K : PySem.W.Frag} {φ : Addr → Prop} {ρ : List Addr} {μ : Sto} {H : Hp}
theorem keyB_ok {k : D} {κ p : Key} (h : keyO k = some κ) : keyB k (keyD p) = decide (p = κ) := by
  cases k with
  | int i =>
    cases h
    cases p with
    | inl j => show decide (j = i) = decide (Sum.inl j = Sum.inl i); simp
    | inr j => show false = decide (Sum.inr j = Sum.inl i); simp
  | str i =>
    cases h
    cases p with
    | inl j => show false = decide (Sum.inl j = Sum.inr i); simp
    | inr j => show decide (j = i) = decide (Sum.inr j = Sum.inr i); simp
  | _ => cases h
theorem VIs.key {v : V} {d : D} {κ : Key} (h : VIs K φ ρ H v d) (e : keyO d = some κ) : v = L2.kV κ := by
  cases d <;> cases e
  · rw [h.intE]; rfl
  · rw [h.strE]; rfl
theorem keyD_of {d : D} {κ : Key} (e : keyO d = some κ) : keyD κ = d := by cases d <;> cases e <;> rfl
theorem get_is {k : D} {κ : Key} (e : keyO k = some κ) : ∀ {kvs : List (Key × V)} {xs : List D}, VsIs K φ ρ H (kvs.map (·.2)) xs → (∀ d, getO k (kvs.map fun p => keyD p.1) xs = some d → ∃ v, valV kvs κ = some v ∧ VIs K φ ρ H v d) ∧ (getO k (kvs.map fun p => keyD p.1) xs = none → valV kvs κ = none)
  | [], _, .nil => ⟨fun d h => (by cases h), fun _ => rfl⟩
  | p :: kvs, x :: xs, .cons h t => by
    have ih := get_is e t
    show (∀ d, (bif keyB k (keyD p.1) then some x else getO k (kvs.map fun p => keyD p.1) xs) = some d → _) ∧ ((bif keyB k (keyD p.1) then some x else getO k (kvs.map fun p => keyD p.1) xs) = none → _)
    rw [keyB_ok e]
    by_cases c : p.1 = κ
    · rw [decide_eq_true c, valV_pos c]
      exact ⟨fun d z => by cases z; exact ⟨_, rfl, h⟩, fun z => by cases z⟩
    · rw [decide_eq_false c, valV_neg c]
      exact ih
theorem VIs.dict (r : Rep K φ ρ μ H) {v : V} {d : D} {ks xs : List D} (h : VIs K φ ρ H v d) (e : dictD μ d = some (ks, xs)) : ∃ a kvs, v = .ref a ∧ Rd H a (.dK kvs) ∧ ks = kvs.map (fun p => keyD p.1) ∧ VsIs K φ ρ H (kvs.map (·.2)) xs := by
  have at_ : ∀ {a : Addr} {d : D}, At K φ ρ H a d → dctO d = some (ks, xs) → ∃ kvs, Rd H a (.dK kvs) ∧ ks = kvs.map (fun p => keyD p.1) ∧ VsIs K φ ρ H (kvs.map (·.2)) xs := by
    intro a d h e
    cases h with
    | dK h t => cases e; exact ⟨_, .inl h, rfl, t⟩
    | dZ h t => cases e; exact ⟨_, .inr ⟨_, h⟩, rfl, t⟩
    | _ => cases e
  unfold dictD at e
  cases h with
  | obj h n =>
    have e2 : look μ d = d := by cases h <;> rfl
    rw [e2] at e
    obtain ⟨kvs, h1, h2, h3⟩ := at_ h e
    exact ⟨_, kvs, rfl, h1, h2, h3⟩
  | @ob k a h =>
    have z : look μ (.ob k) = (μ[k]?).getD .non := rfl
    rw [z] at e
    cases q : μ[k]? with
    | none => rw [q] at e; cases e
    | some d =>
      rw [q] at e
      obtain ⟨kvs, h1, h2, h3⟩ := at_ (r.at h q) e
      exact ⟨_, kvs, rfl, h1, h2, h3⟩
  | _ => cases e
theorem dget_inv {x y : D} {Q : VK} {W : XK} {v w : V} (hr : Rep K φ ρ μ H) (hx : VIs K φ ρ H v x) (hy : VIs K φ ρ H w y) (p : Post K (VIs K) φ ρ H Q W (dgetD x y μ)) : ∃ a u, v = .ref a ∧ DGet H a w (some u) ∧ Q u H := by
  unfold dgetD at p
  split at p
  · rename_i ks xs κ e1 e2
    obtain ⟨d, e3, p2⟩ := opt_post p
    obtain ⟨a, kvs, rfl, h1, e5, h3⟩ := hx.dict hr e1
    rw [e5] at e3
    obtain ⟨u, h4, h5⟩ := (get_is e2 h3).1 d e3
    exact ⟨a, u, rfl, .inl ⟨kvs, κ, h1, hy.key e2, h4.symm⟩, Post.val hr p2 h5⟩
  · exact p.elim
theorem vals_set {k : D} {κ : Key} {v : V} {d : D} (e : keyO k = some κ) (hv : VIs K φ ρ H v d) : ∀ {kvs : List (Key × V)} {xs : List D}, VsIs K φ ρ H (kvs.map (·.2)) xs → VsIs K φ ρ H ((kvs.map fun kv => if kv.1 = κ then (kv.1, v) else kv).map (·.2)) (setO k d (kvs.map fun p => keyD p.1) xs)
  | [], _, .nil => .nil
  | p :: kvs, x :: xs, .cons h t => by
    show VsIs K φ ρ H ((if p.1 = κ then (p.1, v) else p).2 :: _) ((bif keyB k (keyD p.1) then d else x) :: _)
    rw [keyB_ok e]
    refine .cons ?_ (vals_set e hv t)
    by_cases c : p.1 = κ
    · rw [decide_eq_true c, if_pos c]; exact hv
    · rw [decide_eq_false c, if_neg c]; exact h
theorem any_key {k : D} {κ : Key} (e : keyO k = some κ) (kvs : List (Key × V)) : (kvs.map fun p => keyD p.1).any (keyB k) = kvs.any fun kv => decide (kv.1 = κ) := by
  rw [List.any_map]
  exact congrArg (fun f => kvs.any f) (funext fun p => keyB_ok e)
theorem At.put {a : Addr} {k d : D} {κ : Key} {v : V} {kvs : List (Key × V)} {xs : List D} (e : keyO k = some κ) (hv : VIs K φ ρ H v d) (t : VsIs K φ ρ H (kvs.map (·.2)) xs) (h : H a = some (.dK (putK kvs κ v))) : At K φ ρ H a (putO k d (kvs.map fun p => keyD p.1) xs) := by
  unfold putO
  rw [any_key e]
  unfold putK at h
  cases c : kvs.any fun kv => decide (kv.1 = κ) with
  | true =>
    rw [c, if_pos rfl] at h
    have e2 : (kvs.map fun p => keyD p.1) = (kvs.map fun kv => if kv.1 = κ then (kv.1, v) else kv).map fun p => keyD p.1 := by
      rw [List.map_map]
      refine List.map_congr_left fun p _ => ?_
      show keyD p.1 = keyD (if p.1 = κ then (p.1, v) else p).1
      by_cases c : p.1 = κ
      · rw [if_pos c]
      · rw [if_neg c]
    have t2 := vals_set e hv t
    show At K φ ρ H a (.dct (kvs.map fun p => keyD p.1) (setO k d (kvs.map fun p => keyD p.1) xs))
    generalize setO k d (kvs.map fun p => keyD p.1) xs = ys at t2
    rw [e2]
    exact .dK h t2
  | false =>
    rw [c, if_neg (by decide)] at h
    show At K φ ρ H a (.dct ((kvs.map fun p => keyD p.1) ++ [k]) (xs ++ [d]))
    have e2 : (kvs.map fun p => keyD p.1) ++ [k] = (kvs ++ [(κ, v)]).map fun p => keyD p.1 := by
      rw [List.map_append, ← keyD_of e]
      rfl
    rw [e2]
    refine .dK h ?_
    rw [List.map_append]
    exact t.append (.cons hv .nil)
theorem dput_inv {x y v : D} {μ μ' : Sto} {u : Unit} (h : dputD x y v μ = .ok u μ') : ∃ k κ ks xs, x = .ob k ∧ keyO y = some κ ∧ μ[k]? = some (.dct ks xs) ∧ xs.length < many ∧ μ' = μ.set k (putO y v ks xs) := by
  unfold dputD at h
  split at h
  · rename_i k κ e
    split at h
    · rename_i ks xs q
      by_cases c : xs.length < many
      · rw [decide_eq_true c] at h
        cases h
        exact ⟨k, κ, ks, xs, rfl, e, q, c, rfl⟩
      · rw [decide_eq_false c] at h
        cases h
    · cases h
  · cases h
theorem dput_nox {x y v : D} {μ : Sto} (z : Ex) (m : Sto) : dputD x y v μ ≠ .exc z m := by
  intro h
  unfold dputD at h
  split at h
  · split at h
    · rename_i ks xs q
      by_cases c : xs.length < many
      · rw [decide_eq_true c] at h
        cases h
      · rw [decide_eq_false c] at h
        cases h
    · cases h
  · cases h
theorem dput_ok {x y d : D} {u : Unit} {m : Sto} {v w z : V} (hr : Rep K φ ρ μ H) (hx : VIs K φ ρ H v x) (hy : VIs K φ ρ H w y) (hz : VIs K φ ρ H z d) (q0 : dputD x y d μ = .ok u m) : ∃ a H2, v = .ref a ∧ DPut H a w z H2 ∧ Later K φ ρ H φ ρ m H2 := by
  obtain ⟨k, κ, ks, xs, rfl, e, q, c, rfl⟩ := dput_inv q0
  have go : ∀ {v : V}, VIs K φ ρ H v (.ob k) → ∃ a H2, v = .ref a ∧ DPut H a w z H2 ∧ Later K φ ρ H φ ρ (μ.set k (putO y d ks xs)) H2 := by
    intro v hx
    cases hx with
    | obj h n => cases h
    | @ob _ b hb =>
      have at_ := hr.at hb q
      generalize ed : D.dct ks xs = dd at at_
      cases at_ with
      | @dK _ kvs _ h t =>
        cases ed
        have ew := hy.key e
        subst ew
        have l : kvs.length < sizeLine := by
          have := t.length
          rw [List.length_map] at this
          rw [this]
          exact many_line (Nat.le_of_lt c)
        refine ⟨b, _, rfl, DPut.k h l, ?_⟩
        exact rep_put hr hb h (fun _ _ z => nomatch z) fun w h => At.put e (hz.way w (mapMut_id _ _ fun _ _ => rfl)) (t.way w (mapMuts_id _ _ fun _ _ => rfl)) h
      | _ => cases ed
  exact go hx
theorem Post.newM {d : D} {o : HO} {Q : VK} {W : XK} {q : Addr} (hr : Rep K φ ρ μ H) (p : Post K (VIs K) φ ρ H Q W (.ok (.ob μ.length) (μ ++ [d]))) (h : H q = none) (a : ∀ {φ' : Addr → Prop} {ρ' : List Addr} {H' : Hp}, Way (K := K) φ φ' ρ ρ' H H' (fun k => some (.ob k)) → H' q = some o → At K φ' ρ' H' q d) : Q (.ref q) (upd H q o) := by
  have w : Way (K := K) φ (fun x => φ x ∨ x ∈ [q]) ρ (ρ ++ [q]) H (upd H q o) fun k => some (.ob k) := ⟨fun x n ⟨u, hu⟩ z => z.elim n fun z => ne_of_none hu h (List.mem_singleton.mp z), fun x u _ _ hu => by rw [upd_ne (ne_of_none hu h)]; exact hu, fun k x d hk e => by
    cases e
    exact .ob (by rw [List.getElem?_append_left (List.getElem?_eq_some_iff.mp hk).1]; exact hk)⟩
  exact p _ _ _ _ (Later.alloc hr h (a w upd_same)) (.ob (by rw [← hr.lens]; simp))
theorem isDct_post {α β : Type} {R : (Addr → Prop) → List Addr → Hp → β → α → Prop} {Q : β → Hp → Prop} {W : XK} {v : V} {x : D} {k : Unit → M α} (hr : Rep K φ ρ μ H) (hx : VIs K φ ρ H v x) (p : Post K R φ ρ H Q W (M.bind (isDctD x) k μ)) : ∃ a, v = .ref a ∧ IsD H a ∧ Post K R φ ρ H Q W (k () μ) := by
  unfold M.bind isDctD at p
  cases q : dictD μ x with
  | none => rw [q] at p; exact p.elim
  | some z =>
    rw [q] at p
    obtain ⟨a, kvs, rfl, h1, _⟩ := hx.dict hr (ks := z.1) (xs := z.2) q
    exact ⟨a, rfl, .inl ⟨kvs, h1⟩, p⟩
theorem VIs.dictO (r : Rep K φ ρ μ H) {v w : V} {d y : D} {κ : Key} {ks xs : List D} (h : VIs K φ ρ H v d) (e : dictD μ d = some (ks, xs)) (hy : VIs K φ ρ H w y) (ey : keyO y = some κ) : ∃ a o, v = .ref a ∧ DGet H a w o ∧ (∀ d, getO y ks xs = some d → ∃ u, o = some u ∧ VIs K φ ρ H u d) ∧ (getO y ks xs = none → o = none) := by
  obtain ⟨a, kvs, rfl, h1, rfl, h3⟩ := h.dict r e
  exact ⟨a, _, rfl, .inl ⟨kvs, κ, h1, hy.key ey, rfl⟩, (get_is ey h3).1, (get_is ey h3).2⟩
theorem drop_is {k : D} {κ : Key} (e : keyO k = some κ) : ∀ {kvs : List (Key × V)} {xs : List D}, VsIs K φ ρ H (kvs.map (·.2)) xs → dropK k (kvs.map fun p => keyD p.1) xs = (L2.dropK kvs κ).map (fun p => keyD p.1) ∧ VsIs K φ ρ H ((L2.dropK kvs κ).map (·.2)) (dropX k (kvs.map fun p => keyD p.1) xs)
  | [], _, .nil => ⟨rfl, .nil⟩
  | p :: kvs, x :: xs, .cons h t => by
    obtain ⟨i1, i2⟩ := drop_is e t
    show (bif keyB k (keyD p.1) then dropK k (kvs.map fun p => keyD p.1) xs else keyD p.1 :: dropK k (kvs.map fun p => keyD p.1) xs) = _ ∧ VsIs K φ ρ H _ (bif keyB k (keyD p.1) then dropX k (kvs.map fun p => keyD p.1) xs else x :: dropX k (kvs.map fun p => keyD p.1) xs)
    rw [keyB_ok e]
    by_cases c : p.1 = κ
    · have e3 : L2.dropK (p :: kvs) κ = L2.dropK kvs κ := by unfold L2.dropK; rw [List.filter_cons_of_neg (by simp [c])]
      rw [decide_eq_true c, e3]
      exact ⟨i1, i2⟩
    · have e3 : L2.dropK (p :: kvs) κ = p :: L2.dropK kvs κ := by unfold L2.dropK; rw [List.filter_cons_of_pos (by simp [c])]
      rw [decide_eq_false c, e3]
      exact ⟨by show keyD p.1 :: _ = keyD p.1 :: _; rw [i1], .cons h i2⟩
end
section
variable {X : Cx} {K : PySem.W.Frag} {W : L2.St → XK} {o i e f : Expr} {pos pos' apos cpos : Pos} {fo fi fa fc : EF}
theorem fDNew (hK : X.K = K := by rfl) : PE X (.Dict [] [] pos) (tE K W eDNew) := by
  subst hK
  exact pe_dnewK.vimp fun σ H Q ⟨φ, ρ, Γ, μ, he, hr, p⟩ q hq => Post.newM hr p hq fun w h => .dK (kvs := []) h .nil
theorem fDGet (hu : X.A.units + 1 < cLine) (ho : PE X o (tE K W fo)) (hi : PE X i (tE K W fi)) (hs : NoSl i := by intro _ _; rfl) : PE X (.Subscript o i pos) (tE K W (eBin dgetD fo fi)) :=
  (pe_dget hu ho hi hs).vimp fun σ H Q ⟨φ, ρ, Γ, μ, he, hr, p⟩ => stepE he hr p fun l1 he h1 p => stepE he l1.rep p fun l2 he h2 p => dget_inv l2.rep (l2.val l1.rep h1) h2 p
theorem din_ok {neg : Bool} {φ : Addr → Prop} {ρ : List Addr} {μ : Sto} {H : Hp} {v w : V} {x y : D} {Q : VK} {W : XK} (hr : Rep K φ ρ μ H) (hy : VIs K φ ρ H w y) (hx : VIs K φ ρ H v x) (p : Post K (VIs K) φ ρ H Q W (dinD neg y x μ)) : ∃ a o, v = .ref a ∧ DGet H a w o ∧ Q (.bl (if neg then !o.isSome else o.isSome)) H := by
  unfold dinD at p
  split at p
  · rename_i ks xs κ e1 e2
    obtain ⟨a, o, rfl, h1, h2, h3⟩ := hx.dictO hr e1 hy e2
    refine ⟨a, o, rfl, h1, ?_⟩
    have es : o.isSome = (getO y ks xs).isSome := by
      cases q : getO y ks xs with
      | none => rw [h3 q]; rfl
      | some d => obtain ⟨u, rfl, _⟩ := h2 d q; rfl
    rw [es]
    exact Post.val hr p (.bl _)
  · exact p.elim
theorem fDIn (hu : X.A.units + 1 < cLine) (hi : PE X i (tE K W fi)) (ho : PE X o (tE K W fo)) (hm : behindInMarks .In o = false := by rfl) : PE X (.Compare i [.In] [o] pos) (tE K W (eBin (dinD false) fi fo)) :=
  (pe_cmp (pc_din hu hi ho) hm).vimp fun σ H Q ⟨φ, ρ, Γ, μ, he, hr, p⟩ => stepE he hr p fun l1 he h1 p => stepE he l1.rep p fun l2 he h2 p => din_ok (neg := false) l2.rep (l2.val l1.rep h1) h2 p
theorem fDNotIn (hu : X.A.units + 1 < cLine) (hi : PE X i (tE K W fi)) (ho : PE X o (tE K W fo)) (hm : behindInMarks .NotIn o = false := by rfl) : PE X (.Compare i [.NotIn] [o] pos) (tE K W (eBin (dinD true) fi fo)) :=
  (pe_cmp (pc_dnotin hu hi ho) hm).vimp fun σ H Q ⟨φ, ρ, Γ, μ, he, hr, p⟩ => stepE he hr p fun l1 he h1 p => stepE he l1.rep p fun l2 he h2 p => din_ok (neg := true) l2.rep (l2.val l1.rep h1) h2 p
theorem sDPutF (hu : X.A.units + 1 < cLine) (ho : PE X o (tE K W fo)) (hi : PE X i (tE K W fi)) (he : PE X e (tE K W fa)) (hs : swapsWith e (some (.Subscript o i pos')) pos.line X.env = pure false := by rfl) : PS X (.Assign [.Subscript o i pos'] e pos) (tS K W (sDPut fo fi fa)) := by
  refine (ps_dput hu ho hi he hs).vimp fun E σ H ⟨φ, ρ, Γ, μ, he, hr, p⟩ => stepS he hr p fun {v μ1 φ1 ρ1 vv H1} l1 he h1 p => stepS he l1.rep p fun {x μ2 φ2 ρ2 xv H2} l2 he h2 p => stepS he l2.rep p fun {i μ3 φ3 ρ3 iv H3} l3 he h3 p => ?_
  have hv := l3.val l2.rep (l2.val l1.rep h1)
  have hx := l3.val l2.rep h2
  unfold up at p
  cases q0 : dputD x i v μ3 with
  | bad => rw [q0] at p; exact p.elim
  | exc z m => exact absurd q0 (dput_nox _ _)
  | ok u m =>
    rw [q0] at p
    have p : PostS K φ3 ρ3 H3 E W (.ok (.nx Γ) m) := p
    obtain ⟨a, H4, rfl, h4, l4⟩ := dput_ok l3.rep hx h3 hv q0
    exact ⟨a, H4, rfl, h4, p _ _ _ _ l4 (l4.env l3.rep he)⟩
theorem fDGet1 (hu : X.A.units + 1 < cLine) (ho : PE X o (tE K W fo)) (hi : PE X e (tE K W fi)) (m : M1 X o "get" apos e cpos) : PE X (.Call (.Attribute o "get" apos) [e] [] cpos) (tE K W (eDGet1 fo fi)) := by
  refine (pe_dget1 hu ho hi m).vimp fun σ H Q ⟨φ, ρ, Γ, μ, he, hr, p⟩ => stepE he hr p fun l1 he h1 p => ?_
  obtain ⟨a, rfl, hd, p⟩ := isDct_post l1.rep h1 p
  refine ⟨a, rfl, hd, stepE he l1.rep p fun {d2 m2 _ _ _ _} l2 he h2 p => ?_⟩
  split at p
  · rename_i ks xs κ e1 e2
    obtain ⟨b, o, eb, g1, g2, g3⟩ := (l2.val l1.rep h1).dictO l2.rep e1 h2 e2
    cases eb
    refine ⟨o, g1, Post.val l2.rep p ?_⟩
    cases q : getO d2 ks xs with
    | none => rw [g3 q]; exact .non
    | some d => obtain ⟨u, rfl, hu⟩ := g2 d q; exact hu
  · exact p.elim
theorem fDGet2 (hu : X.A.units + 1 < cLine) (ho : PE X o (tE K W fo)) (hi : PE X e (tE K W fi)) (hf : PE X f (tE K W fc)) (m : M2 X o "get" apos e f cpos) : PE X (.Call (.Attribute o "get" apos) [e, f] [] cpos) (tE K W (eDGet2 fo fi fc)) := by
  refine (pe_dget2 hu ho hi hf m).vimp fun σ H Q ⟨φ, ρ, Γ, μ, he, hr, p⟩ => stepE he hr p fun l1 he h1 p => ?_
  obtain ⟨a, rfl, hd, p⟩ := isDct_post l1.rep h1 p
  refine ⟨a, rfl, hd, stepE he l1.rep p fun {d2 m2 _ _ _ _} l2 he h2 p => stepE he l2.rep p fun {d3 m3 _ _ _ _} l3 he h3 p => ?_⟩
  split at p
  · rename_i ks xs κ e1 e2
    obtain ⟨b, o, eb, g1, g2, g3⟩ := (l3.val l2.rep (l2.val l1.rep h1)).dictO l3.rep e1 (l3.val l2.rep h2) e2
    cases eb
    refine ⟨o, g1, Post.val l3.rep p ?_⟩
    cases q : getO d2 ks xs with
    | none => rw [g3 q]; exact h3
    | some d => obtain ⟨u, rfl, hu⟩ := g2 d q; exact hu
  · exact p.elim
theorem fDPop2 (ho : PE X o (tE K W fo)) (hi : PE X e (tE K W fi)) (hf : PE X f (tE K W fc)) (m : M2 X o "pop" apos e f cpos) : PE X (.Call (.Attribute o "pop" apos) [e, f] [] cpos) (tE K W (eDPop2 fo fi fc)) := by
  refine (pe_dpop2 ho hi hf m).vimp fun σ H Q ⟨φ, ρ, Γ, μ, he, hr, p⟩ => stepE he hr p fun {d1 m1 _ _ _ _} l1 he1 h1 p1 => ?_
  obtain ⟨a, ea, hd, p2⟩ := isDct_post l1.rep h1 p1
  refine ⟨a, ea, hd, stepE he1 l1.rep p2 fun {d2 m2 _ _ _ _} l2 he2 h2 p3 => stepE he2 l2.rep p3 fun {d3 m3 φ3 ρ3 z3 H3} l3 he3 h3 p4 => ?_⟩
  have hx := l3.val l2.rep (l2.val l1.rep h1)
  have hy := l3.val l2.rep h2
  rw [ea] at hx
  clear p p1 p2 p3
  unfold dpopD at p4
  cases d1 <;> first | exact p4.elim | skip
  cases e : keyO d2 <;> rw [e] at p4 <;> first | exact p4.elim | skip
  rename_i k κ
  dsimp only at p4
  cases q : m3[k]? with
  | none => rw [q] at p4; exact p4.elim
  | some dd0 =>
    rw [q] at p4
    cases dd0 <;> first | exact p4.elim | skip
    · rename_i ks xs
      dsimp only at p4
      cases hx with
      | obj h n => cases h
      | @ob _ b hb =>
        have at_ := l3.rep.at hb q
        generalize ed : D.dct ks xs = dd at at_
        cases at_ with
        | @dK _ kvs _ h t =>
          cases ed
          have ew := hy.key e
          subst ew
          have gi := get_is e t
          refine ⟨kvs, κ, h, rfl, fun v hv => ?_, fun hn => ?_⟩
          · cases g : getO d2 (kvs.map fun p => keyD p.1) xs with
            | none => rw [gi.2 g] at hv; cases hv
            | some d =>
              obtain ⟨u, h5, h6⟩ := gi.1 d g
              rw [h5] at hv
              cases hv
              rw [g] at p4
              have l4 := rep_put (d := .dct (dropK d2 (kvs.map fun p => keyD p.1) xs) (dropX d2 (kvs.map fun p => keyD p.1) xs)) (o := .dK (L2.dropK kvs κ)) l3.rep hb h (fun _ _ z => nomatch z) fun w h => by
                obtain ⟨i1, i2⟩ := drop_is e t
                rw [i1]
                exact .dK h (i2.way w (mapMuts_id _ _ fun _ _ => rfl))
              exact p4 _ _ _ _ l4 (l4.val l3.rep h6)
          · cases g : getO d2 (kvs.map fun p => keyD p.1) xs with
            | none => rw [g] at p4; exact Post.val l3.rep p4 h3
            | some d =>
              obtain ⟨u, h5, h6⟩ := gi.1 d g
              rw [h5] at hn
              cases hn
        | _ => cases ed
end
/-! for k in reversed(range(n)) -/
def revL (j : Int) : List D := (List.range j.toNat).map fun i : Nat => D.int (j - 1 - (i : Int))
def iRev (a : EF) : IF := fun Γ => M.bind (a Γ) fun x => match x with
  | .int j => M.guard (okRng 0 j) (M.pure (.fix (revL j)))
  | _ => M.fail
theorem revL_at {j : Int} {i : Nat} : (revL j)[i]? = if i < j.toNat then some (.int (j - 1 - (i : Int))) else none := by
  unfold revL
  rw [List.getElem?_map]
  by_cases c : i < j.toNat
  · rw [List.getElem?_range c, if_pos c]; rfl
  · rw [List.getElem?_eq_none (by rw [List.length_range]; omega), if_neg c]; rfl
theorem wks_rev {K : PySem.W.Frag} {j : Int} : Wks K (Itc (0 + (((j - 0).toNat : Nat) : Int) - 1) (-1) (j - 0).toNat) (.fix (revL j)) fun _ _ _ => True where
  mono := fun _ _ _ => trivial
  way := fun _ _ => trivial
  stop := fun {φ ρ μ H i} hr h e => by
    have e : (revL j)[i]? = none := Option.some.inj e
    rw [revL_at] at e
    show (j - 0).toNat ≤ i
    by_cases c : i < j.toNat
    · rw [if_pos c] at e; cases e
    · rw [Int.sub_zero]; omega
  go := fun {φ ρ μ H i d} hr h e => by
    have e : (revL j)[i]? = some d := Option.some.inj e
    rw [revL_at] at e
    by_cases c : i < j.toNat
    · rw [if_pos c] at e
      cases e
      refine ⟨by show i < (j - 0).toNat; rw [Int.sub_zero]; exact c, fun x H' ⟨e2, hx⟩ => ?_⟩
      subst e2 hx
      refine ⟨Later.refl hr, ?_⟩
      have : 0 + (((j - 0).toNat : Nat) : Int) - 1 + (i : Nat) * (-1) = j - 1 - (i : Int) := by rw [Int.sub_zero]; omega
      rw [this]
      exact .int _
    · rw [if_neg c] at e; cases e
theorem iRevF {X : Cx} {K : PySem.W.Frag} {W : L2.St → XK} {tg a : Expr} {fa : EF} {p p2 pos pos2 : Pos} (hm : X.mg "reversed" = none) (hm2 : X.mg "range" = none) (ha : PE X a (tE K W fa)) (hg : Gl X "reversed" := by rfl) (hg2 : Gl X "range" := by rfl)
    (na : starEach [a] X.env = (false, eval a X.env) :: starEach [] X.env := by rfl) (hs : starEach [.Call (.Name "range" p2) [a] [] pos2] X.env = (false, eval (.Call (.Name "range" p2) [a] [] pos2) X.env) :: starEach [] X.env := by rfl) :
    PI X tg (.Call (.Name "reversed" p) [.Call (.Name "range" p2) [a] [] pos2] [] pos) (tI K W (iRev fa)) := by
  refine (pi_revR hg hm (prg_1 hg2 hm2 ha na) hs).vimp fun σ H R ⟨φ, ρ, Γ, μ, he, hr, p⟩ => ?_
  have p : (match M.bind (fa Γ) (fun x => match x with
    | .int j => M.guard (okRng 0 j) (M.pure (Wk.fix (revL j)))
    | _ => M.fail) μ with
    | .bad => False
    | .exc x μ' => ∀ φ' ρ' H' cls dd, Later K φ ρ H φ' ρ' μ' H' → XIs K φ' ρ' H' cls dd x → W σ cls dd H'
    | .ok w μ' => ∀ φ' ρ' J H' Z, Later K φ ρ H φ' ρ' μ' H' → Wks K J w Z → Z φ' ρ' H' → R J H') := p
  refine ⟨φ, ρ, Γ, μ, he, hr, ?_⟩
  unfold M.bind at p
  cases q : fa Γ μ with
  | bad => rw [q] at p; exact p.elim
  | exc x m => rw [q] at p; exact p
  | ok d m =>
    rw [q] at p
    intro φ1 ρ1 v H1 l h1
    cases d <;> first | exact p.elim | skip
    rename_i j
    cases c : okRng 0 j with
    | false =>
      dsimp only at p
      rw [c] at p
      exact p.elim
    | true =>
      dsimp only at p
      rw [c] at p
      obtain ⟨c1, c2, c3, c4⟩ := okRng_iff c
      exact ⟨j, h1.intE, c1, c2, c3, c4, p _ _ _ _ _ l wks_rev trivial⟩
end Vl
namespace Vl
open PySem PySem.Spec PyProof.Rows L2
/-! xs * k -/
def mulL (m : Bool) (x y : D) : M D := M.get fun μ => match look μ x, y with
  | .lst xs, .int k => M.guard (decide (-9223372036854775808 ≤ k) && (decide (k < 9223372036854775808) && decide (xs.length * k.toNat ≤ many))) (newL m (List.replicate k.toNat xs).flatten)
  | _, _ => M.fail
theorem VsIs.rep {K : PySem.W.Frag} {φ : Addr → Prop} {ρ : List Addr} {H : Hp} {vs : List V} {ds : List D} (h : VsIs K φ ρ H vs ds) : ∀ n : Nat, VsIs K φ ρ H (List.replicate n vs).flatten (List.replicate n ds).flatten
  | 0 => .nil
  | n + 1 => by
    rw [List.replicate_succ, List.replicate_succ, List.flatten_cons, List.flatten_cons]
    exact h.append (VsIs.rep h n)
theorem of_rRep {K : PySem.W.Frag} {m : Bool} : OpF K rRep (mulL m) := by
  intro φ ρ μ H v w x y Q W hr hv hw p
  unfold mulL at p
  have p : Post K (VIs K) φ ρ H Q W ((match look μ x, y with
    | .lst xs, .int k => M.guard (decide (-9223372036854775808 ≤ k) && (decide (k < 9223372036854775808) && decide (xs.length * k.toNat ≤ many))) (newL m (List.replicate k.toNat xs).flatten)
    | _, _ => M.fail) μ) := p
  cases q : look μ x <;> rw [q] at p <;> first | exact p.elim | skip
  rename_i xs
  by_cases cy : ∃ k, y = .int k
  case neg => cases y <;> first | exact p.elim | exact absurd ⟨_, rfl⟩ cy
  obtain ⟨k, rfl⟩ := cy
  obtain ⟨c, p⟩ := guard_post p
  simp only [Bool.and_eq_true, decide_eq_true_eq] at c
  obtain ⟨a, vs, rfl, h1, t⟩ := hv.lookH hr q
  obtain ⟨_, q2⟩ := newL_post hr (t.rep k.toNat) p
  exact ⟨a, k, vs, rfl, hw.intE, h1, by omega, by omega, by rw [t.length]; exact Nat.le_of_lt (many_line c.2.2), q2⟩
end Vl

/-! data in a list or a tuple, by what it is -/
namespace Vl
open PySem PySem.Spec PyProof.Rows L2
def dpItems : PyData → Option (List PyData)
  | .list ds => some ds
  | .tuple ds => some ds
  | _ => none
def rInDp (K : PySem.W.Frag) (neg : Bool) : R2 := fun x y H Q => ∃ d e ds, Dp K H x d ∧ Dp K H y e ∧ dpItems e = some ds ∧ SeqAt.shaped d = true ∧ SeqAt.shaped e = true ∧ Q (.bl (if neg then !ds.any fun z => PyData.eqv z d else ds.any fun z => PyData.eqv z d)) H
theorem kinDp {X : Cx} {K : PySem.W.Frag} (hu : X.A.units + 65 < cLine) (hK : X.K = K := by rfl) : OpR X (compareOp .In) (rInDp K false) := by
  subst hK
  intro pins s σ H x y v u Q I rx ry h
  obtain ⟨d, e, ds, hd, he, ed, sd, se, q⟩ := h
  obtain ⟨as, r1⟩ := Dp.reads I d x v hd rx
  obtain ⟨bs, r2⟩ := Dp.reads I e y u he ry
  cases e <;> cases ed
  · exact SeqAt.in_list_reads r2 r1 (SeqAt.canLay_of_shaped se) (SeqAt.canLay_of_shaped sd) (room_in_shaped sd hu) ⟨.bl _, H, I, rfl, q⟩
  · exact SeqAt.in_tuple_reads r2 r1 (SeqAt.canLay_of_shaped se) (SeqAt.canLay_of_shaped sd) (room_in_shaped sd hu) ⟨.bl _, H, I, rfl, q⟩
theorem knotinDp {X : Cx} {K : PySem.W.Frag} (hu : X.A.units + 65 < cLine) (hK : X.K = K := by rfl) : OpR X (compareOp .NotIn) (rInDp K true) := by
  subst hK
  intro pins s σ H x y v u Q I rx ry h
  obtain ⟨d, e, ds, hd, he, ed, sd, se, q⟩ := h
  obtain ⟨as, r1⟩ := Dp.reads I d x v hd rx
  obtain ⟨bs, r2⟩ := Dp.reads I e y u he ry
  cases e <;> cases ed
  · exact SeqAt.notIn_list_reads r2 r1 (SeqAt.canLay_of_shaped se) (SeqAt.canLay_of_shaped sd) (room_in_shaped sd hu) ⟨.bl _, H, I, rfl, q⟩
  · exact SeqAt.notIn_tuple_reads r2 r1 (SeqAt.canLay_of_shaped se) (SeqAt.canLay_of_shaped sd) (room_in_shaped sd hu) ⟨.bl _, H, I, rfl, q⟩
def pyAt (μ : Sto) (x : D) : Option PyData := match deep μ 20 x with
  | some y => match toPy y with
    | some a => bif SeqAt.shaped a then some a else none
    | none => none
  | none => none
def inDp (neg : Bool) (x y : D) : M D := fun μ => match pyAt μ x, (pyAt μ y).bind dpItems with
  | some d, some ds => .ok (.bl (if neg then !ds.any fun z => PyData.eqv z d else ds.any fun z => PyData.eqv z d)) μ
  | _, _ => .bad
section
variable {K : PySem.W.Frag} {φ : Addr → Prop} {ρ : List Addr} {μ : Sto} {H : Hp}
theorem pyAt_ok (hr : Rep K φ ρ μ H) {v : V} {x : D} {a : PyData} (h : VIs K φ ρ H v x) (e : pyAt μ x = some a) : Dp K H v a ∧ SeqAt.shaped a = true := by
  unfold pyAt at e
  cases q : deep μ 20 x with
  | none => rw [q] at e; cases e
  | some y =>
    rw [q] at e
    dsimp only at e
    cases q2 : toPy y with
    | none => rw [q2] at e; cases e
    | some b =>
      rw [q2] at e
      dsimp only at e
      cases c : SeqAt.shaped b with
      | false => rw [c] at e; cases e
      | true => rw [c] at e; cases e; exact ⟨(deep_is hr h q).dp q2, c⟩
theorem of_inDp {neg : Bool} : OpF K (rInDp K neg) (inDp neg) := by
  intro φ ρ μ H v w x y Q W hr hv hw p
  unfold inDp at p
  cases q : pyAt μ x with
  | none => rw [q] at p; exact p.elim
  | some d =>
    rw [q] at p
    cases q2 : pyAt μ y with
    | none => rw [q2] at p; exact p.elim
    | some e =>
      rw [q2] at p
      have p : Post K (VIs K) φ ρ H Q W (match some d, dpItems e with
        | some d, some ds => O.ok (.bl (if neg then !ds.any fun z => PyData.eqv z d else ds.any fun z => PyData.eqv z d)) μ
        | _, _ => .bad) := p
      cases q3 : dpItems e with
      | none => rw [q3] at p; exact p.elim
      | some ds =>
        rw [q3] at p
        obtain ⟨h1, h2⟩ := pyAt_ok hr hv q
        obtain ⟨h3, h4⟩ := pyAt_ok hr hw q2
        exact ⟨d, e, ds, h1, h3, q3, h2, h4, Post.val hr p (.bl _)⟩
end
theorem hu65 {A : Around} {k : Nat} (hr : Room k A) : A.units + 65 < cLine := by have := hr.un; omega
end Vl

/-! reckoning: loops by what is done, dicts of ints by what they hold -/
namespace Vl
open PySem PySem.Spec PyProof.Rows L2
section
variable {Γ : Env} {μ : Sto} {X : Ex → Sto → Prop} {α : Type}
theorem w_forM0 {b : D → Env → M Fl} {S : Fl → Sto → Prop} (g : α → D) {rs : List α} (I : List α → Env → Sto → Prop)
    (step : ∀ pre x post Γ μ, rs = pre ++ x :: post → I pre Γ μ → Wp (b (g x) Γ μ) (fun f μ => LoopK f (fun Γ' => I (pre ++ [x]) Γ' μ) fun f => S f μ) X) (k : ∀ Γ μ, I rs Γ μ → S (.nx Γ) μ) :
    ∀ (post pre : List α) (Γ : Env) (μ : Sto), rs = pre ++ post → I pre Γ μ → Wp (forL b (post.map g) Γ μ) S X
  | [], pre, Γ, μ, e, h => by
    rw [List.append_nil] at e
    subst e
    exact .ok (k _ _ h)
  | x :: post, pre, Γ, μ, e, h => by
    rw [List.map_cons, w_forC]
    refine (step pre x post Γ μ e h).imp (fun f m hf => ?_) fun _ _ h => h
    have go : ∀ Γ', I (pre ++ [x]) Γ' m → Wp (forL b (post.map g) Γ' m) S X := fun Γ' h1 => w_forM0 g I step k post _ Γ' m (by rw [e]; simp) h1
    cases f with
    | nx Γ' => exact go _ hf
    | ct Γ' => exact go _ hf
    | bk _ => exact hf
    | rt _ => exact hf
    | ex _ _ => exact hf
theorem w_forM {b : D → Env → M Fl} {S : Fl → Sto → Prop} (g : α → D) {rs : List α} (I : List α → Env → Sto → Prop) (h : I [] Γ μ)
    (step : ∀ pre x post Γ μ, rs = pre ++ x :: post → I pre Γ μ → Wp (b (g x) Γ μ) (fun f μ => LoopK f (fun Γ' => I (pre ++ [x]) Γ' μ) fun f => S f μ) X) (k : ∀ Γ μ, I rs Γ μ → S (.nx Γ) μ) : Wp (forL b (rs.map g) Γ μ) S X :=
  w_forM0 g I step k rs [] Γ μ rfl h
/-- a comprehension, by what is done -/
theorem w_lcM0 {b : D → M (Option D)} {A : List D → Sto → Prop} (g f : α → D) : ∀ (xs : List α) (acc : List D), acc.length + xs.length ≤ many → (∀ x ∈ xs, Wp (b (g x) μ) (fun r m => r = some (f x) ∧ m = μ) fun _ _ => False) → A (acc ++ xs.map f) μ → Wp (lcL b (xs.map g) acc μ) A X
  | [], acc, _, _, k => .ok (by simpa using k)
  | x :: xs, acc, l, hb, k => by
    show Wp (M.bind (b (g x)) _ μ) A X
    rw [w_bind]
    refine (hb x List.mem_cons_self).imp (fun r m hr => ?_) fun _ _ h => h.elim
    obtain ⟨rfl, em⟩ := hr
    rw [em]
    dsimp only
    simp only [List.length_cons] at l
    rw [decide_eq_true (show acc.length < many by omega), x_guardT]
    exact w_lcM0 g f xs _ (by simp; omega) (fun y hy => hb y (List.mem_cons_of_mem _ hy)) (by simpa using k)
theorem w_lcM {b : D → M (Option D)} {A : List D → Sto → Prop} (g f : α → D) (xs : List α) (l : xs.length ≤ many) (hb : ∀ x ∈ xs, Wp (b (g x) μ) (fun r m => r = some (f x) ∧ m = μ) fun _ _ => False) (k : A (xs.map f) μ) : Wp (lcL b (xs.map g) [] μ) A X :=
  w_lcM0 g f xs [] (by simpa using l) hb (by simpa using k)
@[simp ↓] theorem w_irev {S : Wk → Sto → Prop} (a : EF) : Wp (iRev a Γ μ) S X = Wp (a Γ μ) (fun x μ => Wp ((match x with | .int j => M.guard (okRng 0 j) (M.pure (Wk.fix (revL j))) | _ => M.fail) μ) S X) X := by
  show Wp (M.bind (a Γ) _ μ) S X = _
  simp only [w_bind]
  all_goals rfl
theorem rev_ok {j : Int} (h : -4611686018427387904 ≤ j) (k : j < 4611686018427387904) : M.guard (okRng 0 j) (M.pure (Wk.fix (revL j))) μ = .ok (.fix (revL j)) μ := by
  rw [okRng_ok (by decide) (by decide) h k]
  rfl
@[simp ↓] theorem w_aug {S : Fl → Sto → Prop} (i : Nat) (g : D → D → M D) (e : EF) : Wp (sAug i g e Γ μ) S X = Wp (eVar i Γ μ) (fun x μ => Wp (e Γ μ) (fun y μ => Wp (g x y μ) (fun z μ => S (.nx (Γ.set i (some z))) μ) (fun x μ => S (.ex x Γ) μ)) (fun x μ => S (.ex x Γ) μ)) (fun x μ => S (.ex x Γ) μ) := by
  show Wp (up Γ (eVar i Γ) _ μ) S X = _
  simp only [w_up] <;> simp only [x_pure, w_ok]
@[simp] theorem addI_ok (i j : Int) : addI (.int i) (.int j) μ = .ok (.int (i + j)) μ := rfl
@[simp ↓] theorem w_dput {S : Fl → Sto → Prop} (o i e : EF) : Wp (sDPut o i e Γ μ) S X = Wp (e Γ μ) (fun v μ => Wp (o Γ μ) (fun x μ => Wp (i Γ μ) (fun j μ => Wp (dputD x j v μ) (fun _ μ => S (.nx Γ) μ) (fun x μ => S (.ex x Γ) μ)) (fun x μ => S (.ex x Γ) μ)) (fun x μ => S (.ex x Γ) μ)) (fun x μ => S (.ex x Γ) μ) := by
  show Wp (up Γ (e Γ) _ μ) S X = _
  simp only [w_up] <;> simp only [x_pure, w_ok]
@[simp] theorem x_dnew : eDNew Γ μ = .ok (.ob μ.length) (μ ++ [.dct [] []]) := rfl
end
/-! dicts of ints -/
def updF (f : Int → Option D) (i : Int) (v : D) : Int → Option D := fun j => if j = i then some v else f j
structure DkIs (d : D) (f : Int → Option D) (n : Nat) : Prop where
  ex : ∃ ks xs, d = .dct ks xs ∧ ks.length = xs.length ∧ xs.length ≤ n ∧ PuL xs ∧ ∀ i, getO (.int i) ks xs = f i
theorem DkIs.pu {d : D} {f : Int → Option D} {n : Nat} (h : DkIs d f n) : Pu d := by
  obtain ⟨ks, xs, rfl, _, _, hp, _⟩ := h.ex
  exact hp
theorem DkIs.mono {d : D} {f : Int → Option D} {n m : Nat} (h : DkIs d f n) (l : n ≤ m) : DkIs d f m := by
  obtain ⟨ks, xs, rfl, h1, h2, hp, h3⟩ := h.ex
  exact ⟨ks, xs, rfl, h1, by omega, hp, h3⟩
theorem dk_new : DkIs (.dct [] []) (fun _ => none) 0 := ⟨[], [], rfl, rfl, Nat.le_refl _, rfl, fun _ => rfl⟩
theorem dk_get {μ : Sto} {k n : Nat} {d v : D} {f : Int → Option D} {i : Int} (h : DkIs d f n) (hk : μ[k]? = some d) (e : f i = some v) : dgetD (.ob k) (.int i) μ = .ok v μ := by
  obtain ⟨ks, xs, rfl, h1, h2, hp, h3⟩ := h.ex
  have z : dictD μ (.ob k) = some (ks, xs) := by
    unfold dictD
    rw [x_look_ob, hk]
    rfl
  unfold dgetD
  rw [z]
  show M.opt (getO (.int i) ks xs) μ = _
  rw [h3, e]
  rfl
theorem keyB_int (i j : Int) : keyB (.int i) (.int j) = decide (j = i) := rfl
theorem getO_none {i : Int} : ∀ {ks xs : List D}, ks.length = xs.length → (ks.any (keyB (.int i)) = false ↔ getO (.int i) ks xs = none)
  | [], [], _ => ⟨fun _ => rfl, fun _ => rfl⟩
  | k :: ks, x :: xs, h => by
    have ih := getO_none (i := i) (ks := ks) (xs := xs) (by simpa using h)
    show (keyB (.int i) k || ks.any (keyB (.int i))) = false ↔ (bif keyB (.int i) k then some x else getO (.int i) ks xs) = none
    cases keyB (.int i) k with
    | true => simp
    | false => simpa using ih
theorem getO_snoc {i j : Int} {v : D} : ∀ {ks xs : List D}, ks.length = xs.length → getO (.int j) ks xs = none → getO (.int i) (ks ++ [.int j]) (xs ++ [v]) = if i = j then some v else getO (.int i) ks xs
  | [], [], _, _ => by
    show (bif keyB (.int i) (.int j) then some v else none) = _
    rw [keyB_int]
    by_cases c : i = j
    · rw [if_pos c, decide_eq_true c.symm]; rfl
    · rw [if_neg c, decide_eq_false (Ne.symm c)]; rfl
  | k :: ks, x :: xs, h, e => by
    have e : (bif keyB (.int j) k then some x else getO (.int j) ks xs) = none := e
    show (bif keyB (.int i) k then some x else getO (.int i) (ks ++ [.int j]) (xs ++ [v])) = if i = j then some v else (bif keyB (.int i) k then some x else getO (.int i) ks xs)
    cases c : keyB (.int j) k with
    | true => rw [c] at e; cases e
    | false =>
      rw [c] at e
      rw [getO_snoc (by simpa using h) e]
      by_cases q : i = j
      · subst q
        rw [c, if_pos rfl, if_pos rfl]
        rfl
      · rw [if_neg q, if_neg q]
theorem getO_set {i j : Int} {v : D} : ∀ {ks xs : List D}, ks.length = xs.length → (getO (.int j) ks xs).isSome = true → getO (.int i) ks (setO (.int j) v ks xs) = if i = j then some v else getO (.int i) ks xs
  | [], [], _, e => by cases e
  | k :: ks, x :: xs, h, e => by
    have e : (bif keyB (.int j) k then some x else getO (.int j) ks xs).isSome = true := e
    show (bif keyB (.int i) k then some (bif keyB (.int j) k then v else x) else getO (.int i) ks (setO (.int j) v ks xs)) = if i = j then some v else (bif keyB (.int i) k then some x else getO (.int i) ks xs)
    have far : ∀ (ks xs : List D), ks.length = xs.length → i ≠ j → getO (.int i) ks (setO (.int j) v ks xs) = getO (.int i) ks xs := by
      intro ks
      induction ks with
      | nil => intro xs h n; cases xs <;> rfl
      | cons k ks ih =>
        intro xs h n
        cases xs with
        | nil => rfl
        | cons x xs =>
          show (bif keyB (.int i) k then some (bif keyB (.int j) k then v else x) else getO (.int i) ks (setO (.int j) v ks xs)) = bif keyB (.int i) k then some x else getO (.int i) ks xs
          rw [ih xs (by simpa using h) n]
          cases c : keyB (.int i) k with
          | false => rfl
          | true =>
            have : keyB (.int j) k = false := by
              cases k <;> first | rfl | skip
              rename_i z
              rw [keyB_int] at c ⊢
              have := of_decide_eq_true c
              exact decide_eq_false fun q => n (by rw [← this, q])
            rw [this]
            rfl
    by_cases q : i = j
    · subst q
      rw [if_pos rfl]
      cases c : keyB (.int i) k with
      | true => rfl
      | false =>
        rw [c] at e
        show getO (.int i) ks (setO (.int i) v ks xs) = _
        rw [getO_set (by simpa using h) e, if_pos rfl]
    · rw [if_neg q]
      have := far (k :: ks) (x :: xs) h q
      exact this
theorem setO_len {j : D} {v : D} : ∀ {ks xs : List D}, ks.length = xs.length → (setO j v ks xs).length = xs.length
  | [], [], _ => rfl
  | k :: ks, x :: xs, h => by
    show (setO j v ks xs).length + 1 = _
    rw [setO_len (by simpa using h)]
    rfl
theorem setO_pu {j : D} {v : D} (hv : Pu v) : ∀ {ks xs : List D}, PuL xs → PuL (setO j v ks xs)
  | [], _, _ => rfl
  | _ :: _, [], _ => rfl
  | k :: ks, x :: xs, h => by
    have h : muts x ++ mutsL xs = [] := h
    obtain ⟨h1, h2⟩ := List.append_eq_nil_iff.mp h
    show muts (bif keyB j k then v else x) ++ mutsL (setO j v ks xs) = []
    rw [show mutsL (setO j v ks xs) = [] from setO_pu hv h2]
    cases keyB j k
    · show muts x ++ [] = []; rw [h1]; rfl
    · show muts v ++ [] = []; rw [show muts v = [] from hv]; rfl
theorem puL_app {xs ys : List D} (h : PuL xs) (k : PuL ys) : PuL (xs ++ ys) := by
  induction xs with
  | nil => exact k
  | cons x xs ih =>
    have h : muts x ++ mutsL xs = [] := h
    obtain ⟨h1, h2⟩ := List.append_eq_nil_iff.mp h
    show muts x ++ mutsL (xs ++ ys) = []
    rw [h1, ih h2]
    rfl
theorem dk_put {μ : Sto} {k n : Nat} {d v : D} {f : Int → Option D} (h : DkIs d f n) (hk : μ[k]? = some d) (hn : n < 1000000) (i : Int) (hv : Pu v) : ∃ d', dputD (.ob k) (.int i) v μ = .ok () (μ.set k d') ∧ DkIs d' (updF f i v) (n + 1) := by
  obtain ⟨ks, xs, rfl, h1, h2, hp, h3⟩ := h.ex
  refine ⟨putO (.int i) v ks xs, ?_, ?_⟩
  · show (match μ[k]? with
      | some (.dct ks xs) => M.guard (decide (xs.length < many)) (fun μ => O.ok () (μ.set k (putO (.int i) v ks xs))) μ
      | _ => .bad) = _
    rw [hk]
    show M.guard (decide (xs.length < many)) _ μ = _
    rw [decide_eq_true (show xs.length < many by unfold many; omega)]
    rfl
  · unfold putO
    cases c : ks.any (keyB (.int i)) with
    | true =>
      refine ⟨ks, setO (.int i) v ks xs, rfl, by rw [setO_len h1, h1], by rw [setO_len h1]; omega, setO_pu hv hp, fun j => ?_⟩
      rw [getO_set h1, h3]
      · unfold updF; rfl
      · cases q : getO (.int i) ks xs with
        | some _ => rfl
        | none => rw [(getO_none h1).mpr q] at c; cases c
    | false =>
      refine ⟨ks ++ [.int i], xs ++ [v], rfl, by simp [h1], by simp; omega, puL_app hp (puL1 hv), fun j => ?_⟩
      rw [getO_snoc h1 ((getO_none h1).mp c), h3]
      unfold updF
      rfl
end Vl
namespace Vl
open PySem PySem.Spec PyProof.Rows L2
/-! a def's end, what it made frozen -/
def Fz (b : Nat) (m : Sto) (d' d : D) : Prop := mapMut (fz b m 20) d' = some d
theorem Fz.pu {b : Nat} {m : Sto} {d : D} (h : Pu d) : Fz b m d d := h.map _
theorem Fz.ob {b k : Nat} {m : Sto} {d : D} (l : b ≤ k) (e : m[k]? = some d) (h : Pu d) : Fz b m (.ob k) d := by
  show (bif decide (k < b) then some (D.ob k) else (m[k]?).bind (mapMut (fz b m 19))) = _
  rw [decide_eq_false (by omega), e]
  exact h.map _
theorem fun_wpZ {N : Nat} {b : SF} {ds os os' : List D} {d : D} (ho : PuL os') (len : os'.length = os.length) (h : Wp (b (env0 N ds) os) (fun f m => ∃ d' r, f = .rt d' ∧ m = os' ++ r ∧ Fz os.length m d' d) fun _ _ => False) : funF false N b ds os = .ok d os' := by
  cases q : b (env0 N ds) os with
  | bad => rw [q] at h; cases h
  | exc _ _ => rw [q, w_exc] at h; cases h
  | ok f m =>
    rw [q, w_ok] at h
    obtain ⟨d', r, rfl, rfl, hz⟩ := h
    unfold funF
    rw [q]
    dsimp only
    unfold Vl.finish
    have hz : mapMut (fz os.length (os' ++ r) 20) d' = some d := hz
    have ht : (os' ++ r).take os.length = os' := by rw [← len, List.take_left]
    rw [hz, ht, ho.map]
    rfl
/-- without a value -/
theorem fun_wpC' {N : Nat} {b : SF} {ds os os' : List D} (ho : PuL os') (len : os'.length = os.length) (h : Wp (b (env0 N ds) os) (fun f m => (∃ Γ, f = .nx Γ) ∧ ∃ r, m = os' ++ r) fun _ _ => False) : funF false N b ds os = .ok .non os' := by
  cases q : b (env0 N ds) os with
  | bad => rw [q] at h; cases h
  | exc _ _ => rw [q, w_exc] at h; cases h
  | ok f m =>
    rw [q, w_ok] at h
    obtain ⟨⟨Γ, rfl⟩, r, rfl⟩ := h
    unfold funF
    rw [q]
    dsimp only
    unfold Vl.finish
    have hz : mapMut (fz os.length (os' ++ r) 20) .non = some .non := rfl
    have ht : (os' ++ r).take os.length = os' := by rw [← len, List.take_left]
    rw [hz, ht, ho.map]
    rfl
end Vl
namespace Vl
/-! tables written over -/
def ovE (es : List (Int × D)) (f : Int → Option D) : Int → Option D := fun t => match es.lookup t with
  | some d => some d
  | none => f t
theorem ovE_nil (f : Int → Option D) : ovE [] f = f := rfl
theorem lookup_app (t : Int) : ∀ (xs ys : List (Int × D)), (xs ++ ys).lookup t = match xs.lookup t with | some d => some d | none => ys.lookup t
  | [], ys => rfl
  | (k, d) :: xs, ys => by
    rw [List.cons_append, List.lookup_cons, List.lookup_cons]
    cases t == k with
    | true => rfl
    | false => exact lookup_app t xs ys
theorem ovE_app (xs ys : List (Int × D)) (f : Int → Option D) : ovE (xs ++ ys) f = ovE xs (ovE ys f) := by
  funext t
  unfold ovE
  rw [lookup_app]
  cases xs.lookup t <;> rfl
theorem ovE_one (i : Int) (v : D) (f : Int → Option D) : ovE [(i, v)] f = updF f i v := by
  funext t
  unfold ovE updF
  rw [List.lookup_cons]
  by_cases c : t = i
  · rw [if_pos c, beq_iff_eq.mpr c]
  · rw [if_neg c, beq_eq_false_iff_ne.mpr c]
    rfl
theorem lookup_mem {t : Int} {d : D} : ∀ {xs : List (Int × D)}, xs.lookup t = some d → (t, d) ∈ xs
  | (k, e) :: xs, h => by
    rw [List.lookup_cons] at h
    cases c : t == k with
    | true => rw [c] at h; cases h; rw [beq_iff_eq.mp c]; exact List.mem_cons_self
    | false => rw [c] at h; exact List.mem_cons_of_mem _ (lookup_mem h)
theorem ovE_comm {xs ys : List (Int × D)} (h : ∀ p ∈ xs, ∀ q ∈ ys, p.1 ≠ q.1) (f : Int → Option D) : ovE xs (ovE ys f) = ovE ys (ovE xs f) := by
  funext t
  unfold ovE
  cases a : xs.lookup t with
  | none => cases b : ys.lookup t <;> rfl
  | some d => cases b : ys.lookup t with
    | none => rfl
    | some e => exact ((h (t, d) (lookup_mem a) (t, e) (lookup_mem b)) rfl).elim
theorem lookup_nodup {t : Int} {d : D} : ∀ {xs : List (Int × D)}, (xs.map (·.1)).Nodup → (t, d) ∈ xs → xs.lookup t = some d
  | (k, e) :: xs, nd, h => by
    rw [List.map_cons] at nd
    obtain ⟨n1, n2⟩ := List.nodup_cons.mp nd
    rw [List.lookup_cons]
    rcases List.mem_cons.mp h with h | h
    · cases h
      simp
    · rw [beq_eq_false_iff_ne.mpr fun z => n1 (by rw [← z]; exact List.mem_map.mpr ⟨_, h, rfl⟩)]
      exact lookup_nodup n2 h
end Vl
namespace Vl
/-- one that is there -/
theorem dk_set {μ : Sto} {k n : Nat} {d v w : D} {f : Int → Option D} (h : DkIs d f n) (hk : μ[k]? = some d) (hn : n < 1000000) (i : Int) (hi : f i = some w) (hv : Pu v) : ∃ d', dputD (.ob k) (.int i) v μ = .ok () (μ.set k d') ∧ DkIs d' (updF f i v) n := by
  obtain ⟨ks, xs, rfl, h1, h2, hp, h3⟩ := h.ex
  refine ⟨putO (.int i) v ks xs, ?_, ?_⟩
  · show (match μ[k]? with
      | some (.dct ks xs) => M.guard (decide (xs.length < many)) (fun μ => O.ok () (μ.set k (putO (.int i) v ks xs))) μ
      | _ => .bad) = _
    rw [hk]
    show M.guard (decide (xs.length < many)) _ μ = _
    rw [decide_eq_true (show xs.length < many by unfold many; omega)]
    rfl
  · have c : ks.any (keyB (.int i)) = true := by
      cases c : ks.any (keyB (.int i)) with
      | true => rfl
      | false => rw [← h3, (getO_none h1).mp c] at hi; cases hi
    unfold putO
    rw [c]
    refine ⟨ks, setO (.int i) v ks xs, rfl, by rw [setO_len h1, h1], by rw [setO_len h1]; exact h2, setO_pu hv hp, fun j => ?_⟩
    rw [getO_set h1, h3]
    · unfold updF; rfl
    · rw [h3, hi]; rfl
end Vl

/-! sorted(set(xs)) of ints, up to 4000 of them -/
namespace Ow
open PySem PySem.Spec PyProof.Rows L2 Srt
section
variable {P : Program} {w : World} {A : Around} {E : Value → Shared → Prop} {s : Shared} {a : Addr}
theorem sortedSetL {S : Int → Bool} {n : Nat} {Q : Value → Shared → Prop} (R : SetR w s.heap a S n) (hh : A.handled = none) (h4 : n ≤ 4000)
    (hQ : ∀ s' p (out : Array Value) (c : Nat) (ns : List Int), (∀ b o, s.heap.get? b = some o → s'.heap.get? b = some o) → s'.gens = s.gens → s'.os = s.os → s.heap.objs.size ≤ p →
      s'.heap.get? p = some (seqObj "list" out c) → IntsAre out.toList ns → ns.Pairwise (· < ·) → (∀ k, k ∈ ns ↔ S k = true) → ns.length = n → Q (.ref p) s') :
    wpAny (model P w) A (call (.builtin "sorted") [.ref a]) Q E s := by
  obtain ⟨ob, es, ep, tb, ho, hex, hd, good, nd, mem, hb, hf, hn, hr, hl⟩ := R
  refine Calls.call_function_entry kind_sorted plain_sorted entry_sorted (args_sorted1 _) ?_
  unfold Builtin.«sorted»
  refine wpAny_bind (m := checkCount "sorted" 1 1 _) (wpAny_pure ?_)
  refine wpAny_bind ?_
  refine collect_set (A := A.in1) hh ⟨ob, ho, hex.1, hd⟩ hf hb hr hl fun s1 vs k1 hz g1 o1 pm => ?_
  have len : vs.length = n := by
    rw [pm.length_eq, List.length_map, Array.length_toList]
    exact hn
  have allI : IntsAre vs (vs.map Builtin.Re.reRawOf) := L2.ints_of vs fun v hv => by
    obtain ⟨e, he, q⟩ := List.mem_map.mp (pm.mem_iff.mp hv)
    obtain ⟨k, tk, h1, _⟩ := good e he
    exact ⟨k, tk, q ▸ h1⟩
  have pk : (vs.map Builtin.Re.reRawOf).Perm (es.toList.map L2.keyOf) := by
    have := pm.map Builtin.Re.reRawOf
    rwa [List.map_map] at this
  have fits : vs.length ≤ sizeLine := by
    rw [len, sizeLine_eq]
    omega
  refine wpAny_bind (wpAny_newList ?_ fits)
  have hoL : (s1.heap.push (seqObj "list" vs.toArray 0)).get? s1.heap.objs.size = some (seqObj "list" vs.toArray 0) := Heap.get?_push_size _ rfl
  refine wpAny_bind (wpAny_holding (wpAny_call_entry slot_list_sort ⟨_, hoL, rfl⟩ entry_list_sort ?_ (args_list_sort _)))
  refine SrtO.list_sort_ord SrtO.swo_int hoL fits (fun h2 => SrtO.ints_sortable allI h2) fun out so sb => ⟨_, rfl, ?_⟩
  obtain ⟨i1, i2, i3⟩ := SrtO.ints_out allI so sb
  obtain ⟨c, hc⟩ := sortedHeap_at (vs := vs) (out := out.toArray) hoL
  have pn := i2.trans pk
  refine wpAny_pure ⟨_, rfl, ?_⟩
  refine hQ _ s1.heap.objs.size out.toArray c (out.map SrtO.iv) (fun b u e => ?_) g1 o1 hz hc (by simpa using i1) (L2.lt_of_le_nodup _ i3 (pn.nodup_iff.mpr nd)) (fun k => ?_) ?_
  · have q := k1 b u e
    have lt := Heap.lt_size q
    show (sortedHeap (s1.heap.push (seqObj "list" vs.toArray 0)) s1.heap.objs.size vs out.toArray).get? b = some u
    rw [sortedHeap_old (Nat.ne_of_lt lt) (by rw [size_push']; exact Nat.lt_succ_of_lt lt)]
    exact Heap.get?_push_of_some _ q
  · rw [pn.mem_iff, ← mem k]
  · rw [pn.length_eq, List.length_map, Array.length_toList]
    exact hn
end
def rSortedL (w : World) : List V → Hp → VK → Prop := fun vs H Q => ∃ (a : Addr) (S : Int → Bool) (n : Nat), vs = [V.ref a] ∧ H a = some (SetO w a S n) ∧ n ≤ 4000 ∧
  ∀ (ns : List Int) (p : Addr), ns.Pairwise (· < ·) → (∀ k : Int, k ∈ ns ↔ S k = true) → ns.length = n → H p = none → Q (.ref p) (upd H p (.lst (ns.map V.int)))
theorem cr_sortedL {X : Cx} (hc : X.calm = true) : CallR X (.builtin "sorted") (rSortedL X.w) := by
  intro pins s σ H vs us Q I r ⟨a, S, n, e, ha, h4, q⟩
  subst e
  rw [Vals.ref1 r]
  refine sortedSetL (setO_get I ha) (I.ok.hd hc) h4 fun z p out c ns k g o hp hg hi hs hm hl => ?_
  have few : (ns.map V.int).length ≤ sizeLine := by
    rw [List.length_map, hl, sizeLine_eq]
    omega
  have free : H p = none := I.hok.fresh hp
  have J : Inv X pins σ (upd H p (.lst (ns.map V.int))) { s with heap := z.heap, gens := z.gens, drawn := z.drawn, toks := z.toks } := by
    refine I.call (ch := []) (Un.laid k hp free) (I.hok.laid k hp ⟨few, out.toList, c, vals_of_ints hi, hg⟩) ?_ fun _ q => nomatch q
    rw [g]
    exact I.bare
  refine ⟨.ref p, upd H p (.lst (ns.map V.int)), ?_, rfl, q ns p hs hm hl free⟩
  cases z
  cases s
  cases o
  exact J
end Ow
namespace Vl
open PySem PySem.Spec PyProof.Rows L2
def sortSetL (xs : List D) : M D := match xs with
  | [x] => M.get fun μ => match seqD μ x with
    | some ys => M.bind (M.opt (intsD ys)) fun ns => M.guard (decide (ns.length ≤ 4000)) (newL false ((sortU ns).map .int))
    | none => M.fail
  | _ => M.fail
theorem sortSetL_ok {K : PySem.W.Frag} {φ : Addr → Prop} {ρ : List Addr} {μ : Sto} {H : Hp} {w : World} {vs : List V} {xs : List D} {Q : VK} {W : XK} (hr : Rep K φ ρ μ H) (hv : VsIs K φ ρ H vs xs) (p : Post K (VIs K) φ ρ H Q W (sortSetL xs μ)) : Ow.rSetOf K w vs H fun x H1 => Ow.rSortedL w [x] H1 Q := by
  match xs, hv, p with
  | [], hv, p => exact p.elim
  | _ :: _ :: _, hv, p => exact p.elim
  | [x], hv, p =>
    obtain ⟨v, rfl, h⟩ := hv.one
    have p : Post K (VIs K) φ ρ H Q W ((match seqD μ x with
      | some ys => M.bind (M.opt (intsD ys)) fun ns => M.guard (decide (ns.length ≤ 4000)) (newL false ((sortU ns).map D.int))
      | none => M.fail) μ) := p
    cases q : seqD μ x with
    | none => rw [q] at p; exact p.elim
    | some ys =>
      rw [q] at p
      obtain ⟨a, us, rfl, e2, e3⟩ := h.seq hr q
      obtain ⟨ns, q2, p⟩ := bindOpt p
      obtain ⟨c, p⟩ := guard_post p
      have c := of_decide_eq_true c
      have e4 := ints_of e3 q2
      subst e4
      refine ⟨a, ns, rfl, e2, by omega, fun s n hs hn => ⟨s, _, _, rfl, upd_same, by omega, fun ms t h1 h2 h3 ht => ?_⟩⟩
      have em : ms = sortU ns := sortU_uniq h1 fun k => (h2 k).trans decide_eq_true_iff
      subst em
      have l := Later.fresh (o := SetO w s (fun j => decide (j ∈ ns)) n) hr hs
      exact (newL_post l.rep (ints_is _) (Post.later p l)).2 t ht
theorem fSortSetL {X : Cx} {K : PySem.W.Frag} {W : L2.St → XK} {e : Expr} {r : AF} {p1 p2 q1 q2 : Pos} (hs : X.mg "sorted" = none) (ht : X.mg "set" = none) (ha : PA X [e] (tA K W r)) (hK : X.K = K := by rfl) (hc : X.calm = true := by rfl) (g1 : Gl X "sorted" := by rfl) (g2 : Gl X "set" := by rfl)
    (he : starEach [e] X.env = (false, eval e X.env) :: starEach [] X.env := by rfl) : PE X (.Call (.Name "sorted" p1) [.Call (.Name "set" p2) [e] [] q2] [] q1) (tE K W (eCall sortSetL r)) := by
  subst hK
  refine (pe_callB (Ow.cr_sortedL hc) g1 hs (by decide +kernel) (pa_cons (pe_callTy (Ow.cr_setL hc) g2 ht (by decide +kernel) ha (he := he)) pa_nil)).vimp fun σ H Q ⟨φ, ρ, Γ, μ, he, hr, p⟩ => ?_
  exact stepA he hr p fun l he h p => sortSetL_ok l.rep h p
/-! reckoning -/
theorem sortU_len (ns : List Int) : (sortU ns).length ≤ ns.length := by
  have ins : ∀ (i : Int) (r : List Int), (insU i r).length ≤ r.length + 1 := by
    intro i r
    induction r with
    | nil => exact Nat.le_refl _
    | cons j r ih =>
      unfold insU
      split
      · simp
      · split
        · simp
        · simp only [List.length_cons]; omega
  induction ns with
  | nil => exact Nat.le_refl _
  | cons n ns ih =>
    show (insU n (sortU ns)).length ≤ _
    have := ins n (sortU ns)
    simp only [List.length_cons]
    omega
theorem sortSetL_is {x : D} {ns : List Int} {μ : Sto} (h : seqD μ x = some (ns.map D.int)) (l : ns.length ≤ 4000) : sortSetL [x] μ = .ok (.lst ((sortU ns).map D.int)) μ := by
  show (match seqD μ x with
      | some ys => M.bind (M.opt (intsD ys)) fun ns => M.guard (decide (ns.length ≤ 4000)) (newL false ((sortU ns).map D.int))
      | none => M.fail) μ = _
  rw [h]
  show M.bind (M.opt (intsD (ns.map D.int))) _ μ = _
  rw [intsD_map]
  show M.guard (decide (ns.length ≤ 4000)) _ μ = _
  rw [decide_eq_true l, x_guardT]
  exact x_newF _ (by rw [List.length_map]; exact Nat.le_trans (sortU_len ns) (by unfold many; omega))
end Vl

namespace K11
open PySem PySem.Spec PyProof.Rows L2 Vl
def top (i : Nat) : Stmt := PySem.Challenge.pw_keysfewest_k11_catchers.main.body.getD i (.Pass ⟨0, 0, 0, 0⟩)
abbrev Ssize : Stmt := top 5
abbrev Ssimple : Stmt := top 6
abbrev Sunion : Stmt := top 7
abbrev Sopening : Stmt := top 8
abbrev Slay_block : Stmt := top 9
abbrev Slay : Stmt := top 10
abbrev SLayout_init : Stmt := inClass (top 11) 0
abbrev Scheck_place : Stmt := top 12
abbrev Scatchers : Stmt := top 13
abbrev S_law_start : Stmt := top 15
abbrev S_law_draw : Stmt := top 16
abbrev S_law_simple : Stmt := top 17
abbrev S_law_rows : Stmt := top 18
abbrev S_law_listed : Stmt := top 19
abbrev S_law_add : Stmt := top 20
abbrev S_law_row_tokens : Stmt := top 21
abbrev S_law_item : Stmt := top 22
abbrev S_law_plain : Stmt := top 23
abbrev S_law_web : Stmt := top 24
abbrev S_law_wrapped : Stmt := top 25
abbrev Slaw : Stmt := top 26
abbrev SNoPlace_init : Stmt := inClass (top 2) 0
theorem scsize : FnScope ["rows"] ["rows"] (defScope Ssize) := ⟨rfl, rfl, rfl, by decide +kernel, rfl, by decide +kernel, by decide +kernel⟩
theorem sxsimple : FnScope ["rows", "found", "statement", "inner"] ["rows"] (defScope Ssimple) := ⟨rfl, rfl, rfl, by decide +kernel, rfl, by decide +kernel, by decide +kernel⟩
theorem scunion : FnScope ["first", "second"] ["first", "second"] (defScope Sunion) := ⟨rfl, rfl, rfl, by decide +kernel, rfl, by decide +kernel, by decide +kernel⟩
theorem scopening : FnScope ["rows", "at", "found", "statement", "first", "passed", "second", "other"] ["rows", "at"] (defScope Sopening) := ⟨rfl, rfl, rfl, by decide +kernel, rfl, by decide +kernel, by decide +kernel⟩
theorem sclay_block : FnScope ["statement", "at", "after", "caught", "table", "second_at", "first", "around", "landing"] ["statement", "at", "after", "caught", "table"] (defScope Slay_block) := ⟨rfl, rfl, rfl, by decide +kernel, rfl, by decide +kernel, by decide +kernel⟩
theorem sclay : FnScope ["rows", "at", "after", "caught", "table", "starts", "statement", "first", "k", "ends"] ["rows", "at", "after", "caught", "table"] (defScope Slay) := ⟨rfl, rfl, rfl, by decide +kernel, rfl, by decide +kernel, by decide +kernel⟩
theorem scLayout_init : FnScope ["self", "rows", "table", "at"] ["self", "rows"] (defScope SLayout_init) := ⟨rfl, rfl, rfl, by decide +kernel, rfl, by decide +kernel, by decide +kernel⟩
theorem sccheck_place : FnScope ["layout", "place"] ["layout", "place"] (defScope Scheck_place) := ⟨rfl, rfl, rfl, by decide +kernel, rfl, by decide +kernel, by decide +kernel⟩
theorem sccatchers : FnScope ["rows", "place", "layout"] ["rows", "place"] (defScope Scatchers) := ⟨rfl, rfl, rfl, by decide +kernel, rfl, by decide +kernel, by decide +kernel⟩
theorem sc_law_start : FnScope ["_law_script", "_law_first"] ["_law_script"] (defScope S_law_start) := ⟨rfl, rfl, rfl, by decide +kernel, rfl, by decide +kernel, by decide +kernel⟩
theorem sc_law_draw : FnScope ["_law_state", "_law_many", "_law_drawn", "_law_seed", "_law_mixed"] ["_law_state", "_law_many"] (defScope S_law_draw) := ⟨rfl, rfl, rfl, by decide +kernel, rfl, by decide +kernel, by decide +kernel⟩
theorem sc_law_simple : FnScope ["_law_state", "_law_kind", "_law_part", "_law_key", "_law_name"] ["_law_state"] (defScope S_law_simple) := ⟨rfl, rfl, rfl, by decide +kernel, rfl, by decide +kernel, by decide +kernel⟩
theorem sc_law_rows : FnScope ["_law_state", "_law_deep", "_law_found", "_law_k", "_law_kind"] ["_law_state", "_law_deep"] (defScope S_law_rows) := ⟨rfl, rfl, rfl, by decide +kernel, rfl, by decide +kernel, by decide +kernel⟩
theorem sc_law_listed : FnScope ["_law_rows_here", "_law_found", "_law_phrase", "_law_inner"] ["_law_rows_here"] (defScope S_law_listed) := ⟨rfl, rfl, rfl, by decide +kernel, rfl, by decide +kernel, by decide +kernel⟩
theorem sc_law_add : FnScope ["_law_table", "_law_ones", "_law_twos", "_law_one"] ["_law_table", "_law_ones", "_law_twos"] (defScope S_law_add) := ⟨rfl, rfl, rfl, by decide +kernel, rfl, by decide +kernel, by decide +kernel⟩
theorem sc_law_row_tokens : FnScope ["_law_rows_here", "_law_at", "_law_guard", "_law_table", "_law_caught", "_law_marks", "_law_found", "_law_phrase", "_law_item_here", "_law_lasts"] ["_law_rows_here", "_law_at", "_law_guard", "_law_table", "_law_caught", "_law_marks"] (defScope S_law_row_tokens) := ⟨rfl, rfl, rfl, by decide +kernel, rfl, by decide +kernel, by decide +kernel⟩
theorem sc_law_item : FnScope ["_law_phrase", "_law_at", "_law_guard", "_law_table", "_law_caught", "_law_marks", "_law_sign", "_law_one", "_law_two"] ["_law_phrase", "_law_at", "_law_guard", "_law_table", "_law_caught", "_law_marks"] (defScope S_law_item) := ⟨rfl, rfl, rfl, by decide +kernel, rfl, by decide +kernel, by decide +kernel⟩
theorem sc_law_plain : FnScope ["_law_table", "_law_tokens", "_law_found", "_law_token"] ["_law_table", "_law_tokens"] (defScope S_law_plain) := ⟨rfl, rfl, rfl, by decide +kernel, rfl, by decide +kernel, by decide +kernel⟩
theorem sc_law_web : FnScope ["_law_rows_here", "_law_table", "_law_caught", "_law_marks", "_law_whole", "_law_end", "_law_begin", "_law_follow", "_law_landing", "_law_simple_rows", "_law_at"] ["_law_rows_here"] (defScope S_law_web) := ⟨rfl, rfl, rfl, by decide +kernel, rfl, by decide +kernel, by decide +kernel⟩
theorem sc_law_wrapped : FnScope ["_law_state", "_law_rows_here", "_law_kind", "_law_other"] ["_law_state", "_law_rows_here"] (defScope S_law_wrapped) := ⟨rfl, rfl, rfl, by decide +kernel, rfl, by decide +kernel, by decide +kernel⟩
theorem sclaw : FnScope ["_law_script", "_law_state", "_law_turn", "_law_rows_here", "_law_landing", "_law_told", "_law_place", "_law_one"] ["_law_script"] (defScope Slaw) := ⟨rfl, rfl, rfl, by decide +kernel, rfl, by decide +kernel, by decide +kernel⟩
theorem scNoPlace_init : FnScope ["self", "place"] ["self", "place"] (defScope SNoPlace_init) := ⟨rfl, rfl, rfl, by decide +kernel, rfl, by decide +kernel, by decide +kernel⟩
def dsize : He.DefD := ⟨("size", none), "size", "size", defArgs Ssize, defBody Ssize, defScope Ssize, [], []⟩
def dsimple : He.DefD := ⟨("simple", none), "simple", "simple", defArgs Ssimple, defBody Ssimple, defScope Ssimple, [], []⟩
def dunion : He.DefD := ⟨("union", none), "union", "union", defArgs Sunion, defBody Sunion, defScope Sunion, [], []⟩
def dopening : He.DefD := ⟨("opening", none), "opening", "opening", defArgs Sopening, defBody Sopening, defScope Sopening, [], []⟩
def dlay_block : He.DefD := ⟨("lay_block", none), "lay_block", "lay_block", defArgs Slay_block, defBody Slay_block, defScope Slay_block, [], []⟩
def dlay : He.DefD := ⟨("lay", none), "lay", "lay", defArgs Slay, defBody Slay, defScope Slay, [], []⟩
def dLayout_init : He.DefD := ⟨("Layout", some "__init__"), "__init__", "Layout.__init__", defArgs SLayout_init, defBody SLayout_init, defScope SLayout_init, [], []⟩
def dcheck_place : He.DefD := ⟨("check_place", none), "check_place", "check_place", defArgs Scheck_place, defBody Scheck_place, defScope Scheck_place, [], []⟩
def dcatchers : He.DefD := ⟨("catchers", none), "catchers", "catchers", defArgs Scatchers, defBody Scatchers, defScope Scatchers, [], []⟩
def d_law_start : He.DefD := ⟨("_law_start", none), "_law_start", "_law_start", defArgs S_law_start, defBody S_law_start, defScope S_law_start, [], []⟩
def d_law_draw : He.DefD := ⟨("_law_draw", none), "_law_draw", "_law_draw", defArgs S_law_draw, defBody S_law_draw, defScope S_law_draw, [], []⟩
def d_law_simple : He.DefD := ⟨("_law_simple", none), "_law_simple", "_law_simple", defArgs S_law_simple, defBody S_law_simple, defScope S_law_simple, [], []⟩
def d_law_rows : He.DefD := ⟨("_law_rows", none), "_law_rows", "_law_rows", defArgs S_law_rows, defBody S_law_rows, defScope S_law_rows, [], []⟩
def d_law_listed : He.DefD := ⟨("_law_listed", none), "_law_listed", "_law_listed", defArgs S_law_listed, defBody S_law_listed, defScope S_law_listed, [], []⟩
def d_law_add : He.DefD := ⟨("_law_add", none), "_law_add", "_law_add", defArgs S_law_add, defBody S_law_add, defScope S_law_add, [], []⟩
def d_law_row_tokens : He.DefD := ⟨("_law_row_tokens", none), "_law_row_tokens", "_law_row_tokens", defArgs S_law_row_tokens, defBody S_law_row_tokens, defScope S_law_row_tokens, [], []⟩
def d_law_item : He.DefD := ⟨("_law_item", none), "_law_item", "_law_item", defArgs S_law_item, defBody S_law_item, defScope S_law_item, [], []⟩
def d_law_plain : He.DefD := ⟨("_law_plain", none), "_law_plain", "_law_plain", defArgs S_law_plain, defBody S_law_plain, defScope S_law_plain, [], []⟩
def d_law_web : He.DefD := ⟨("_law_web", none), "_law_web", "_law_web", defArgs S_law_web, defBody S_law_web, defScope S_law_web, [], []⟩
def d_law_wrapped : He.DefD := ⟨("_law_wrapped", none), "_law_wrapped", "_law_wrapped", defArgs S_law_wrapped, defBody S_law_wrapped, defScope S_law_wrapped, [], []⟩
def dlaw : He.DefD := ⟨("law", none), "law", "law", defArgs Slaw, defBody Slaw, defScope Slaw, [], []⟩
def dNoPlace_init : He.DefD := ⟨("NoPlace", some "__init__"), "__init__", "NoPlace.__init__", defArgs SNoPlace_init, defBody SNoPlace_init, defScope SNoPlace_init, [], []⟩
def fs : List Ow.DefA := []
def fn : List He.DefD := [dsize, dsimple, dunion, dopening, dlay_block, dlay, dLayout_init, dcheck_place, dcatchers, d_law_start, d_law_draw, d_law_simple, d_law_rows, d_law_listed, d_law_add, d_law_row_tokens, d_law_item, d_law_plain, d_law_web, d_law_wrapped, dlaw, dNoPlace_init]
def fa : List He.Fa := [.glo "size", .glo "simple", .glo "union", .glo "opening", .glo "lay_block", .glo "lay", .glo "check_place", .glo "catchers", .glo "_law_start", .glo "_law_draw", .glo "_law_simple", .glo "_law_rows", .glo "_law_listed", .glo "_law_add", .glo "_law_row_tokens", .glo "_law_item", .glo "_law_plain", .glo "_law_web", .glo "_law_wrapped", .glo "law", .glo "Layout", .cls "Layout", .mkr "Layout", .glo "BLOCKS", .glo "FewError", .glo "NoPlace", .noat "Layout" "catchers", .noat "Layout" "end", .noat "Layout" "firsts", .noat "Layout" "followers", .noat "Layout" "statements", .free "int", .free "isinstance", .free "len", .free "list", .free "range", .free "reversed", .free "set", .free "sorted", .free "tuple"]
def ex : PySem.W.Frag → Bool := fun K => Ow.isiB K (He.ga K "Layout") && (decide (PySem.W.kitOne K (.type "NoneType") (.type "tuple") = some false) && (decide (PySem.W.kitOne K (.type "bool") (.type "tuple") = some false) && (decide (PySem.W.kitOne K (.type "int") (.type "tuple") = some false) && (decide (PySem.W.kitOne K (.type "str") (.type "tuple") = some false) && (decide (PySem.W.kitOne K (.type "list") (.type "tuple") = some false) && (decide (PySem.W.kitOne K (.type "tuple") (.type "tuple") = some true) && (decide (PySem.W.kitOne K (.ref (He.ga K "Layout")) (.type "tuple") = some false) && (oexB K (He.ga K "NoPlace") && (xfB K (He.ga K "NoPlace") && (excB K (He.ga K "NoPlace") && (decide (PySem.W.findIn K (.ref (He.ga K "NoPlace")) "__init__" = some (some (.ref (He.ma K (He.ga K "NoPlace") "__init__")))) && (decide (PySem.W.typeIn K (.ref (He.ma K (He.ga K "NoPlace") "__init__")) = some (.type "function")) && (decide (PySem.W.findIn K (.ref (He.ga K "NoPlace")) "place" = some none) && (veiB K (He.ga K "FewError") && (strsB K (He.ga K "BLOCKS") [(Str.ofString "either"), (Str.ofString "repeat"), (Str.ofString "guard")])))))))))))))))
def loose : List PySem.Str := [("FewError" : PySem.Str), ("NoPlace" : PySem.Str), ("BLOCKS" : PySem.Str), ("size" : PySem.Str), ("simple" : PySem.Str), ("union" : PySem.Str), ("opening" : PySem.Str), ("lay_block" : PySem.Str), ("lay" : PySem.Str), ("Layout" : PySem.Str), ("check_place" : PySem.Str), ("catchers" : PySem.Str), ("_law_start" : PySem.Str), ("_law_draw" : PySem.Str), ("_law_simple" : PySem.Str), ("_law_rows" : PySem.Str), ("_law_listed" : PySem.Str), ("_law_add" : PySem.Str), ("_law_row_tokens" : PySem.Str), ("_law_item" : PySem.Str), ("_law_plain" : PySem.Str), ("_law_web" : PySem.Str), ("_law_wrapped" : PySem.Str)]
abbrev R : PySem.W.OpenRow := PySem.W.OpenLaw.row PySem.Challenge.rw_keysfewest_k11_catchers
def cts : List Vl.CT := [("Layout", (some "__init__"))]
def ts : List He.Tab := []
abbrev hk : PySem.W.Hook := Vl.hookG 6 fa fn fs ex cts ts
def ob (s : PySem.W.SharedT) : Vl.AlG := Vl.obsG 6 fa fn fs ex cts ts (HandSHeadRun.getT s)
theorem ob_eq (s : PySem.W.SharedT) : ob s = hk.obs s.abs := Vl.obsG_eq (HandSHeadRun.getT_eq s)
theorem run (w : World) : HandSHeadRun.RunEq R (PySem.W.view R.prog [26]) hk ob 12000 loose w := by
  intro os
  kernel_rfl
structure Txt (K : PySem.W.Frag) (mg : Str → Option Value) : Prop where
  z_int : mg "int" = none
  z_isinstance : mg "isinstance" = none
  z_len : mg "len" = none
  z_list : mg "list" = none
  z_range : mg "range" = none
  z_reversed : mg "reversed" = none
  z_set : mg "set" = none
  z_sorted : mg "sorted" = none
  z_tuple : mg "tuple" = none
  g_Layout : mg "Layout" = some (.ref (He.ga K "Layout"))
  cl_Layout : Cls K (He.ga K "Layout")
  mk_Layout : Mk K (He.ga K "Layout") (He.ma K (He.ga K "Layout") "__init__")
  g_BLOCKS : mg "BLOCKS" = some (.ref (He.ga K "BLOCKS"))
  g_FewError : mg "FewError" = some (.ref (He.ga K "FewError"))
  g_NoPlace : mg "NoPlace" = some (.ref (He.ga K "NoPlace"))
  na_Layout_catchers : NoAttr K (He.ga K "Layout") "catchers"
  na_Layout_end : NoAttr K (He.ga K "Layout") "end"
  na_Layout_firsts : NoAttr K (He.ga K "Layout") "firsts"
  na_Layout_followers : NoAttr K (He.ga K "Layout") "followers"
  na_Layout_statements : NoAttr K (He.ga K "Layout") "statements"
  i_Layout : Ow.IsiC K (He.ga K "Layout")
  is0 : PySem.W.kitOne K (.type "NoneType") (.type "tuple") = some false
  is1 : PySem.W.kitOne K (.type "bool") (.type "tuple") = some false
  is2 : PySem.W.kitOne K (.type "int") (.type "tuple") = some false
  is3 : PySem.W.kitOne K (.type "str") (.type "tuple") = some false
  is4 : PySem.W.kitOne K (.type "list") (.type "tuple") = some false
  is5 : PySem.W.kitOne K (.type "tuple") (.type "tuple") = some true
  is6 : PySem.W.kitOne K (.ref (He.ga K "Layout")) (.type "tuple") = some false
  ox_NoPlace : OexC K (He.ga K "NoPlace")
  xf_NoPlace : XfC K (He.ga K "NoPlace")
  xe_NoPlace : ExcC K (He.ga K "NoPlace")
  xi_NoPlace : PySem.W.findIn K (.ref (He.ga K "NoPlace")) "__init__" = some (some (.ref (He.ma K (He.ga K "NoPlace") "__init__")))
  xt_NoPlace : PySem.W.typeIn K (.ref (He.ma K (He.ga K "NoPlace") "__init__")) = some (.type "function")
  xno_NoPlace_place : PySem.W.findIn K (.ref (He.ga K "NoPlace")) "place" = some none
  vi_FewError : VeI K (He.ga K "FewError")
  kt_BLOCKS : strsB K (He.ga K "BLOCKS") [(Str.ofString "either"), (Str.ofString "repeat"), (Str.ofString "guard")] = true
theorem n_catchers {K : PySem.W.Frag} {mg : Str → Option Value} (T : Txt K mg) : ∀ C ∈ [(Str.ofString "Layout")], Cls K (He.ga K C) ∧ NoAttr K (He.ga K C) (Str.ofString "catchers") := by
  intro C hC
  simp only [List.mem_cons, List.not_mem_nil, or_false] at hC
  rcases hC with rfl
  · exact ⟨T.cl_Layout, T.na_Layout_catchers⟩
theorem n_end {K : PySem.W.Frag} {mg : Str → Option Value} (T : Txt K mg) : ∀ C ∈ [(Str.ofString "Layout")], Cls K (He.ga K C) ∧ NoAttr K (He.ga K C) (Str.ofString "end") := by
  intro C hC
  simp only [List.mem_cons, List.not_mem_nil, or_false] at hC
  rcases hC with rfl
  · exact ⟨T.cl_Layout, T.na_Layout_end⟩
theorem n_firsts {K : PySem.W.Frag} {mg : Str → Option Value} (T : Txt K mg) : ∀ C ∈ [(Str.ofString "Layout")], Cls K (He.ga K C) ∧ NoAttr K (He.ga K C) (Str.ofString "firsts") := by
  intro C hC
  simp only [List.mem_cons, List.not_mem_nil, or_false] at hC
  rcases hC with rfl
  · exact ⟨T.cl_Layout, T.na_Layout_firsts⟩
theorem n_followers {K : PySem.W.Frag} {mg : Str → Option Value} (T : Txt K mg) : ∀ C ∈ [(Str.ofString "Layout")], Cls K (He.ga K C) ∧ NoAttr K (He.ga K C) (Str.ofString "followers") := by
  intro C hC
  simp only [List.mem_cons, List.not_mem_nil, or_false] at hC
  rcases hC with rfl
  · exact ⟨T.cl_Layout, T.na_Layout_followers⟩
theorem n_statements {K : PySem.W.Frag} {mg : Str → Option Value} (T : Txt K mg) : ∀ C ∈ [(Str.ofString "Layout")], Cls K (He.ga K C) ∧ NoAttr K (He.ga K C) (Str.ofString "statements") := by
  intro C hC
  simp only [List.mem_cons, List.not_mem_nil, or_false] at hC
  rcases hC with rfl
  · exact ⟨T.cl_Layout, T.na_Layout_statements⟩
def isiTab : List (D × D × Bool) := [(.ty "NoneType", .ty "tuple", false), (.ty "bool", .ty "tuple", false), (.ty "int", .ty "tuple", false), (.ty "str", .ty "tuple", false), (.ty "list", .ty "tuple", false), (.ty "tuple", .ty "tuple", true), (.fn (Str.ofString "Layout"), .ty "tuple", false)]
theorem isi_ok {K : PySem.W.Frag} {mg : Str → Option Value} (T : Txt K mg) : IsiT K isiTab := by
  intro z hz
  simp only [isiTab, List.mem_cons, List.not_mem_nil, or_false] at hz
  rcases hz with rfl | rfl | rfl | rfl | rfl | rfl | rfl
  · exact ⟨T.is0, fun C e => by cases e⟩
  · exact ⟨T.is1, fun C e => by cases e⟩
  · exact ⟨T.is2, fun C e => by cases e⟩
  · exact ⟨T.is3, fun C e => by cases e⟩
  · exact ⟨T.is4, fun C e => by cases e⟩
  · exact ⟨T.is5, fun C e => by cases e⟩
  · exact ⟨T.is6, fun C e => by cases e; exact ⟨T.i_Layout, T.cl_Layout⟩⟩
end K11

namespace K11
open PySem PySem.Spec PyProof.Rows L2 Vl
inductive Fid where
  | fsize
  | fsimple
  | funion
  | fopening
  | flay_block
  | flay
  | fLayout_init
  | fcheck_place
  | fcatchers
  | f_law_start
  | f_law_draw
  | f_law_simple
  | f_law_rows
  | f_law_listed
  | f_law_add
  | f_law_row_tokens
  | f_law_item
  | f_law_plain
  | f_law_web
  | f_law_wrapped
  | flaw
def bsize (c : Fid → List D → M D) : SF :=
    (sRet (eCall lenD (aCons (eCall (callV 1 (c .fsimple)) (aCons (eVar 0) aNil)) aNil)))
def bsimple (c : Fid → List D → M D) : SF :=
    (sSeq (sAsg (eLst true aNil) (gN 1))
      (sSeq (sFor (iSeq (eVar 0)) (gN 2) (sIf (Vl.tB (eBin (inF false) (eBin ixD (eVar 2) (eC (.int 0))) (eC (.tup ([(Str.ofString "either"), (Str.ofString "repeat"), (Str.ofString "guard")].map D.str))))) (sFor (iSeq (eSl false (eVar 2) (oSome (eC (.int 1))) oNo)) (gN 3) (sEx (eLM extendD (eVar 1) (aCons (eCall (callV 1 (c .fsimple)) (aCons (eVar 3) aNil)) aNil)))) (sEx (eLM appendD (eVar 1) (aCons (eVar 2) aNil)))))
      (sRet (eVar 1))))
def bunion (c : Fid → List D → M D) : SF :=
    (sRet (eCall tupleD (aCons (eCall sortSetL (aCons (eBin (addD false) (eVar 0) (eVar 1)) aNil)) aNil)))
def bopening (c : Fid → List D → M D) : SF :=
    (sSeq (sAsg (eTup aNil) (gN 2))
      (sSeq (sFor (iSeq (eVar 0)) (gN 3) (sSeq (sIf (Vl.tB (eBin (inF true) (eBin ixD (eVar 3) (eC (.int 0))) (eC (.tup ([(Str.ofString "either"), (Str.ofString "repeat"), (Str.ofString "guard")].map D.str))))) (sRet (eTup (aCons (eCall (callV 2 (c .funion)) (aCons (eVar 2) (aCons (eTup (aCons (eVar 1) aNil)) aNil))) (aCons (eC (.bl false)) aNil)))) sNx)
      (sSeq (sAsg (eCall (callV 2 (c .fopening)) (aCons (eBin ixD (eVar 3) (eC (.int 1))) (aCons (eVar 1) aNil))) (Vl.gTup 2 (Vl.gCons (gN 4) (Vl.gCons (gN 5) Vl.gNil))))
      (sSeq (sIf (Vl.tB (eBin (bE eqD false) (eBin ixD (eVar 3) (eC (.int 0))) (eC (.str (Str.ofString "either"))))) (sSeq (sAsg (eCall (callV 2 (c .fopening)) (aCons (eBin ixD (eVar 3) (eC (.int 2))) (aCons (eBin (addD false) (eVar 1) (eCall (callV 1 (c .fsize)) (aCons (eBin ixD (eVar 3) (eC (.int 1))) aNil))) aNil))) (Vl.gTup 2 (Vl.gCons (gN 6) (Vl.gCons (gN 7) Vl.gNil))))
      (sSeq (sAsg (eCall (callV 2 (c .funion)) (aCons (eVar 4) (aCons (eVar 6) aNil))) (gN 4))
      (sAsg ((eOr (eVar 5) (eVar 7))) (gN 5)))) sNx)
      (sSeq (sAsg (eCall (callV 2 (c .funion)) (aCons (eVar 2) (aCons (eVar 4) aNil))) (gN 2))
      (sSeq (sIf (tNo ((Vl.tOr (tTr (eVar 5)) (Vl.tB (eBin (bE eqD false) (eBin ixD (eVar 3) (eC (.int 0))) (eC (.str (Str.ofString "repeat")))))))) (sRet (eTup (aCons (eVar 2) (aCons (eC (.bl false)) aNil)))) sNx)
      (sAug 1 addI (eCall (callV 1 (c .fsize)) (aCons (eLst false (aCons (eVar 3) aNil)) aNil)))))))))
      (sRet (eTup (aCons (eVar 2) (aCons (eC (.bl true)) aNil))))))
def blay_block (c : Fid → List D → M D) : SF :=
    (sSeq (sAsg (eBin (addD false) (eVar 1) (eCall (callV 1 (c .fsize)) (aCons (eBin ixD (eVar 0) (eC (.int 1))) aNil))) (gN 5))
      (sSeq (sIf (Vl.tB (eBin (bE eqD false) (eBin ixD (eVar 0) (eC (.int 0))) (eC (.str (Str.ofString "either"))))) (sSeq (sAsg (eCall (callV 5 (c .flay)) (aCons (eBin ixD (eVar 0) (eC (.int 1))) (aCons (eVar 1) (aCons (eVar 2) (aCons (eVar 3) (aCons (eVar 4) aNil)))))) (gN 6))
      (sRet (eCall (callV 2 (c .funion)) (aCons (eVar 6) (aCons (eCall (callV 5 (c .flay)) (aCons (eBin ixD (eVar 0) (eC (.int 2))) (aCons (eVar 5) (aCons (eVar 2) (aCons (eVar 3) (aCons (eVar 4) aNil)))))) aNil))))) sNx)
      (sSeq (sIf (Vl.tB (eBin (bE eqD false) (eBin ixD (eVar 0) (eC (.int 0))) (eC (.str (Str.ofString "repeat"))))) (sSeq (sAsg (eCall (callV 2 (c .funion)) (aCons (eBin ixD (eCall (callV 2 (c .fopening)) (aCons (eBin ixD (eVar 0) (eC (.int 1))) (aCons (eVar 1) aNil))) (eC (.int 0))) (aCons (eVar 2) aNil))) (gN 7))
      (sSeq (sEx (eCall (callV 5 (c .flay)) (aCons (eBin ixD (eVar 0) (eC (.int 1))) (aCons (eVar 1) (aCons (eVar 7) (aCons (eVar 3) (aCons (eVar 4) aNil)))))))
      (sRet (eVar 7)))) sNx)
      (sSeq (sAsg (eCall (callV 5 (c .flay)) (aCons (eBin ixD (eVar 0) (eC (.int 2))) (aCons (eVar 5) (aCons (eVar 2) (aCons (eVar 3) (aCons (eVar 4) aNil)))))) (gN 8))
      (sRet (eCall (callV 5 (c .flay)) (aCons (eBin ixD (eVar 0) (eC (.int 1))) (aCons (eVar 1) (aCons (eVar 2) (aCons (eVar 8) (aCons (eVar 4) aNil)))))))))))
def blay (c : Fid → List D → M D) : SF :=
    (sSeq (sAsg (eLst true aNil) (gN 5))
      (sSeq (sFor (iSeq (eVar 0)) (gN 6) (sSeq (sEx (eLM appendD (eVar 5) (aCons (eVar 1) aNil)))
      (sAug 1 addI (eCall (callV 1 (c .fsize)) (aCons (eLst false (aCons (eVar 6) aNil)) aNil)))))
      (sSeq (sAsg (eVar 2) (gN 7))
      (sSeq (sFor (iRev (eCall lenD (aCons (eVar 0) aNil))) (gN 8) (sSeq (sAsg (eBin ixD (eVar 0) (eVar 8)) (gN 6))
      (sIf (Vl.tB (eBin (inF false) (eBin ixD (eVar 6) (eC (.int 0))) (eC (.tup ([(Str.ofString "either"), (Str.ofString "repeat"), (Str.ofString "guard")].map D.str))))) (sAsg (eCall (callV 5 (c .flay_block)) (aCons (eVar 6) (aCons (eBin ixD (eVar 5) (eVar 8)) (aCons (eVar 7) (aCons (eVar 3) (aCons (eVar 4) aNil)))))) (gN 7)) (sSeq (sAsg (eBin (inF false) (eBin ixD (eVar 6) (eC (.int 0))) (eTup (aCons (eC (.str (Str.ofString "return"))) (aCons (eC (.str (Str.ofString "fault"))) aNil)))) (gN 9))
      (sSeq (sDPut (eVar 4) (eBin ixD (eVar 5) (eVar 8)) (eTup (aCons (eVar 6) (aCons (eIf (tTr (eVar 9)) (eTup aNil) (eVar 7)) (aCons (eVar 3) aNil)))))
      (sAsg (eTup (aCons (eBin ixD (eVar 5) (eVar 8)) aNil)) (gN 7)))))))
      (sRet (eVar 7))))))
def bLayout_init (c : Fid → List D → M D) : SF :=
    (sSeq (sAsg eDNew (gN 2))
      (sSeq (sFldD [(Str.ofString "Layout")] (Str.ofString "end") (eVar 0) (eCall (callV 1 (c .fsize)) (aCons (eVar 1) aNil)))
      (sSeq (sFldD [(Str.ofString "Layout")] (Str.ofString "firsts") (eVar 0) (eCall (callV 5 (c .flay)) (aCons (eVar 1) (aCons (eC (.int 0)) (aCons (eTup (aCons (eFld [(Str.ofString "Layout")] (Str.ofString "end") (eVar 0)) aNil)) (aCons (eTup aNil) (aCons (eVar 2) aNil)))))))
      (sSeq (sFldD [(Str.ofString "Layout")] (Str.ofString "statements") (eVar 0) (eGen [3] (iRng rng1D (aCons (eFld [(Str.ofString "Layout")] (Str.ofString "end") (eVar 0)) aNil)) (gN 3) tYesF (eBin ixD (eBin dgetD (eVar 2) (eVar 3)) (eC (.int 0)))))
      (sSeq (sFldD [(Str.ofString "Layout")] (Str.ofString "followers") (eVar 0) (eGen [3] (iRng rng1D (aCons (eFld [(Str.ofString "Layout")] (Str.ofString "end") (eVar 0)) aNil)) (gN 3) tYesF (eBin ixD (eBin dgetD (eVar 2) (eVar 3)) (eC (.int 1)))))
      (sFldD [(Str.ofString "Layout")] (Str.ofString "catchers") (eVar 0) (eGen [3] (iRng rng1D (aCons (eFld [(Str.ofString "Layout")] (Str.ofString "end") (eVar 0)) aNil)) (gN 3) tYesF (eBin ixD (eBin dgetD (eVar 2) (eVar 3)) (eC (.int 2))))))))))
def bcheck_place (c : Fid → List D → M D) : SF :=
    (sIf (tNo (Vl.tB (eCh leD ltD (eC (.int 0)) (eVar 1) (eFld [(Str.ofString "Layout")] (Str.ofString "end") (eVar 0))))) (sRs (Str.ofString "NoPlace") (Str.ofString "place") (eVar 1)) sNx)
def bcatchers (c : Fid → List D → M D) : SF :=
    (sSeq (sAsg (eCall (makeV (Str.ofString "Layout") 2 (c .fLayout_init) false []) (aCons (eVar 0) aNil)) (gN 2))
      (sSeq (sEx (eCall (callV 2 (c .fcheck_place)) (aCons (eVar 2) (aCons (eVar 1) aNil))))
      (sRet (eBin ixD (eFld [(Str.ofString "Layout")] (Str.ofString "catchers") (eVar 2)) (eVar 1)))))
def b_law_start (c : Fid → List D → M D) : SF :=
    (sSeq (sAsg (eC (.int 0)) (gN 1))
      (sSeq (sIf (Vl.tB (eBin gtD (eCall lenD (aCons (eVar 0) aNil)) (eC (.int 0)))) (sAsg (eBin ixD (eVar 0) (eC (.int 0))) (gN 1)) sNx)
      (sRet (eLst true (aCons (eCall (listD false) (aCons (eVar 0) aNil)) (aCons (eC (.int 1)) (aCons (eVar 1) (aCons (eC (.int 0)) aNil))))))))
def b_law_draw (c : Fid → List D → M D) : SF :=
    (sSeq (sIf (Vl.tB (eBin geD (eBin ixD (eVar 0) (eC (.int 2))) (eBin powD (eC (.int 10)) (eC (.int 18))))) (sSeq (sAsg (eBin modD (eCall intD (aCons (eBin ixD (eVar 0) (eC (.int 2))) aNil)) (eVar 1)) (gN 2))
      (sSeq (sPut (eVar 0) (eC (.int 2)) (eBin fdivD (eBin ixD (eVar 0) (eC (.int 2))) (eVar 1)))
      (sRet (eVar 2)))) sNx)
      (sSeq (sPut (eVar 0) (eC (.int 3)) (eBin (addD false) (eBin ixD (eVar 0) (eC (.int 3))) (eC (.int 1))))
      (sSeq (sAsg (eBin (addD false) (eBin (addD false) (eBin modD (eCall intD (aCons (eBin ixD (eVar 0) (eC (.int 2))) aNil)) (eC (.int 1000000007))) (eBin mulD (eC (.int 69621)) (eBin ixD (eVar 0) (eC (.int 3))))) (eC (.int 48271))) (gN 3))
      (sSeq (sAsg (eBin modD (eBin powD (eVar 3) (eC (.int 17))) (eC (.int 170141183460469231731687303715884105727))) (gN 4))
      (sSeq (sIf (Vl.tB (eBin ltD (eBin ixD (eVar 0) (eC (.int 1))) (eCall lenD (aCons (eBin ixD (eVar 0) (eC (.int 0))) aNil)))) (sSeq (sPut (eVar 0) (eC (.int 2)) (eBin ixD (eBin ixD (eVar 0) (eC (.int 0))) (eBin ixD (eVar 0) (eC (.int 1)))))
      (sPut (eVar 0) (eC (.int 1)) (eBin (addD false) (eBin ixD (eVar 0) (eC (.int 1))) (eC (.int 1))))) sNx)
      (sRet (eBin modD (eBin fdivD (eCall intD (aCons (eVar 4) aNil)) (eC (.int 64))) (eVar 1))))))))
def b_law_simple (c : Fid → List D → M D) : SF :=
    (sSeq (sAsg (eCall (callV 2 (c .f_law_draw)) (aCons (eVar 0) (aCons (eC (.int 10)) aNil))) (gN 1))
      (sSeq (sAsg (eBin ixD (eLst false (aCons (eC (.str (Str.ofString "heap"))) (aCons (eC (.str (Str.ofString "safe"))) (aCons (eC (.str (Str.ofString "aa"))) aNil)))) (eCall (callV 2 (c .f_law_draw)) (aCons (eVar 0) (aCons (eC (.int 3)) aNil)))) (gN 2))
      (sSeq (sAsg (eCall (callV 2 (c .f_law_draw)) (aCons (eVar 0) (aCons (eC (.int 3)) aNil))) (gN 3))
      (sSeq (sAsg (eBin ixD (eLst false (aCons (eC (.str (Str.ofString "main"))) (aCons (eC (.str (Str.ofString "f"))) (aCons (eC (.str (Str.ofString "g_1"))) aNil)))) (eCall (callV 2 (c .f_law_draw)) (aCons (eVar 0) (aCons (eC (.int 3)) aNil)))) (gN 4))
      (sSeq (sIf (Vl.tB (eBin ltD (eVar 1) (eC (.int 2)))) (sRet (eBin ixD (eLst false (aCons (eTup (aCons (eC (.str (Str.ofString "fault"))) aNil)) (aCons (eTup (aCons (eC (.str (Str.ofString "return"))) aNil)) aNil))) (eVar 1))) sNx)
      (sSeq (sIf (Vl.tB (eBin ltD (eVar 1) (eC (.int 4)))) (sRet (eTup (aCons (eC (.str (Str.ofString "call"))) (aCons (eVar 4) aNil)))) sNx)
      (sSeq (sIf (Vl.tB (eBin (bE eqD false) (eVar 1) (eC (.int 4)))) (sRet (eTup (aCons (eC (.str (Str.ofString "give"))) (aCons (eVar 2) (aCons (eVar 3) (aCons (eBin ixD (eLst false (aCons (eC (.str (Str.ofString "none"))) (aCons (eC (.str (Str.ofString "here"))) (aCons (eC (.str (Str.ofString "frames"))) (aCons (eC (.str (Str.ofString "all"))) aNil))))) (eCall (callV 2 (c .f_law_draw)) (aCons (eVar 0) (aCons (eC (.int 4)) aNil)))) aNil)))))) sNx)
      (sSeq (sIf (Vl.tB (eBin ltD (eVar 1) (eC (.int 7)))) (sRet (eBin ixD (eLst false (aCons (eTup (aCons (eC (.str (Str.ofString "touch"))) (aCons (eVar 2) aNil))) (aCons (eTup (aCons (eC (.str (Str.ofString "strip"))) (aCons (eVar 2) aNil))) aNil))) (eBin subD (eVar 1) (eC (.int 5))))) sNx)
      (sRet (eBin ixD (eLst false (aCons (eTup (aCons (eC (.str (Str.ofString "unlock"))) (aCons (eVar 3) aNil))) (aCons (eTup (aCons (eC (.str (Str.ofString "lock"))) (aCons (eVar 3) aNil))) (aCons (eTup (aCons (eC (.str (Str.ofString "unlock"))) (aCons (eVar 3) aNil))) aNil)))) (eBin subD (eVar 1) (eC (.int 7)))))))))))))
def b_law_rows (c : Fid → List D → M D) : SF :=
    (sSeq (sAsg (eLst true aNil) (gN 2))
      (sSeq (sFor (iRng rng1D (aCons (eCall (callV 2 (c .f_law_draw)) (aCons (eVar 0) (aCons (eC (.int 3)) aNil))) aNil)) (gN 3) (sSeq (sAsg (eCall (callV 2 (c .f_law_draw)) (aCons (eVar 0) (aCons (eC (.int 8)) aNil))) (gN 4))
      (sIf ((Vl.tOr (Vl.tB (eBin ltD (eVar 4) (eC (.int 5)))) (Vl.tB (eBin (bE eqD false) (eVar 1) (eC (.int 0)))))) (sEx (eLM appendD (eVar 2) (aCons (eCall (callV 1 (c .f_law_simple)) (aCons (eVar 0) aNil)) aNil))) (sIf (Vl.tB (eBin (bE eqD false) (eVar 4) (eC (.int 5)))) (sEx (eLM appendD (eVar 2) (aCons (eTup (aCons (eC (.str (Str.ofString "either"))) (aCons (eCall (callV 2 (c .f_law_rows)) (aCons (eVar 0) (aCons (eBin subD (eVar 1) (eC (.int 1))) aNil))) (aCons (eCall (callV 2 (c .f_law_rows)) (aCons (eVar 0) (aCons (eBin subD (eVar 1) (eC (.int 1))) aNil))) aNil)))) aNil))) (sIf (Vl.tB (eBin (bE eqD false) (eVar 4) (eC (.int 6)))) (sEx (eLM appendD (eVar 2) (aCons (eTup (aCons (eC (.str (Str.ofString "repeat"))) (aCons (eCall (callV 2 (c .f_law_rows)) (aCons (eVar 0) (aCons (eBin subD (eVar 1) (eC (.int 1))) aNil))) aNil))) aNil))) (sEx (eLM appendD (eVar 2) (aCons (eTup (aCons (eC (.str (Str.ofString "guard"))) (aCons (eCall (callV 2 (c .f_law_rows)) (aCons (eVar 0) (aCons (eBin subD (eVar 1) (eC (.int 1))) aNil))) (aCons (eCall (callV 2 (c .f_law_rows)) (aCons (eVar 0) (aCons (eBin subD (eVar 1) (eC (.int 1))) aNil))) aNil)))) aNil))))))))
      (sRet (eCall tupleD (aCons (eVar 2) aNil)))))
def b_law_listed (c : Fid → List D → M D) : SF :=
    (sSeq (sAsg (eLst true aNil) (gN 1))
      (sSeq (sFor (iSeq (eVar 0)) (gN 2) (sIf (Vl.tB (eBin (inF false) (eBin ixD (eVar 2) (eC (.int 0))) (eTup (aCons (eC (.str (Str.ofString "either"))) (aCons (eC (.str (Str.ofString "repeat"))) (aCons (eC (.str (Str.ofString "guard"))) aNil)))))) (sFor (iSeq (eSl false (eVar 2) (oSome (eC (.int 1))) oNo)) (gN 3) (sAsg (eBin (addD true) (eVar 1) (eCall (callV 1 (c .f_law_listed)) (aCons (eVar 3) aNil))) (gN 1))) (sEx (eLM appendD (eVar 1) (aCons (eVar 2) aNil)))))
      (sRet (eVar 1))))
def b_law_add (c : Fid → List D → M D) : SF :=
    (sFor (iSeq (eVar 1)) (gN 3) (sDPut (eVar 0) (eVar 3) (eBin (addD false) (eBin dgetD (eVar 0) (eVar 3)) (eVar 2))))
def b_law_row_tokens (c : Fid → List D → M D) : SF :=
    (sSeq (sAsg (eLst true (aCons (eC (.bl true)) (aCons (eLst false aNil) (aCons (eLst false aNil) (aCons (eVar 1) aNil))))) (gN 6))
      (sSeq (sFor (iSeq (eVar 0)) (gN 7) (sSeq (sAsg (eCall (callV 6 (c .f_law_item)) (aCons (eVar 7) (aCons (eBin ixD (eVar 6) (eC (.int 3))) (aCons (eVar 2) (aCons (eVar 3) (aCons (eVar 4) (aCons (eVar 5) aNil))))))) (gN 8))
      (sSeq (sEx (eCall (callV 3 (c .f_law_add)) (aCons (eVar 3) (aCons (eBin ixD (eVar 6) (eC (.int 2))) (aCons (eBin ixD (eVar 8) (eC (.int 1))) aNil)))))
      (sSeq (sIf (tTr (eBin ixD (eVar 6) (eC (.int 0)))) (sPut (eVar 6) (eC (.int 1)) (eBin (addD false) (eBin ixD (eVar 6) (eC (.int 1))) (eBin ixD (eVar 8) (eC (.int 1))))) sNx)
      (sSeq (sAsg (eBin ixD (eVar 8) (eC (.int 2))) (gN 9))
      (sSeq (sIf (tTr (eBin ixD (eVar 8) (eC (.int 0)))) (sAsg (eBin (addD false) (eBin ixD (eVar 6) (eC (.int 2))) (eVar 9)) (gN 9)) sNx)
      (sAsg (eLst true (aCons ((eAnd (eBin ixD (eVar 6) (eC (.int 0))) (eBin ixD (eVar 8) (eC (.int 0))))) (aCons (eBin ixD (eVar 6) (eC (.int 1))) (aCons (eVar 9) (aCons (eBin ixD (eVar 8) (eC (.int 3))) aNil))))) (gN 6))))))))
      (sRet (eVar 6))))
def b_law_item (c : Fid → List D → M D) : SF :=
    (sSeq (sIf (Vl.tB (eBin (inF true) (eBin ixD (eVar 0) (eC (.int 0))) (eTup (aCons (eC (.str (Str.ofString "either"))) (aCons (eC (.str (Str.ofString "repeat"))) (aCons (eC (.str (Str.ofString "guard"))) aNil)))))) (sSeq (sDPut (eVar 3) (eVar 1) (eLst false aNil))
      (sSeq (sDPut (eVar 4) (eVar 1) (eVar 2))
      (sRet (eLst false (aCons (eC (.bl false)) (aCons (eLst false (aCons (eVar 1) aNil)) (aCons (eLst false (aCons (eVar 1) aNil)) (aCons (eBin (addD false) (eVar 1) (eC (.int 1))) aNil)))))))) sNx)
      (sSeq (sIf (Vl.tB (eBin (bE eqD false) (eBin ixD (eVar 0) (eC (.int 0))) (eC (.str (Str.ofString "guard"))))) (sSeq (sAsg (eBin subD (eUn negD (eC (.int 1))) (eCall lenD (aCons (eVar 5) aNil))) (gN 6))
      (sSeq (sDPut (eVar 3) (eVar 6) (eLst false aNil))
      (sSeq (sEx (eLM appendD (eVar 5) (aCons (eLst false aNil) aNil)))
      (sSeq (sAsg (eCall (callV 6 (c .f_law_row_tokens)) (aCons (eBin ixD (eVar 0) (eC (.int 1))) (aCons (eVar 1) (aCons (eVar 6) (aCons (eVar 3) (aCons (eVar 4) (aCons (eVar 5) aNil))))))) (gN 7))
      (sSeq (sAsg (eCall (callV 6 (c .f_law_row_tokens)) (aCons (eBin ixD (eVar 0) (eC (.int 2))) (aCons (eBin ixD (eVar 7) (eC (.int 3))) (aCons (eVar 2) (aCons (eVar 3) (aCons (eVar 4) (aCons (eVar 5) aNil))))))) (gN 8))
      (sSeq (sEx (eCall (callV 3 (c .f_law_add)) (aCons (eVar 3) (aCons (eBin ixD (eVar 8) (eC (.int 2))) (aCons (eLst false (aCons (eVar 6) aNil)) aNil)))))
      (sSeq (sPut (eVar 5) (eBin subD (eUn negD (eC (.int 1))) (eVar 6)) (eBin (addD false) (eBin ixD (eVar 8) (eC (.int 1))) (eBin (mulL false) (eLst false (aCons (eVar 6) aNil)) (eCall intD (aCons (eBin ixD (eVar 8) (eC (.int 0))) aNil)))))
      (sRet (eLst false (aCons (eBin ixD (eVar 7) (eC (.int 0))) (aCons (eBin ixD (eVar 7) (eC (.int 1))) (aCons (eBin (addD false) (eBin ixD (eVar 7) (eC (.int 2))) (eLst false (aCons (eVar 6) aNil))) (aCons (eBin ixD (eVar 8) (eC (.int 3))) aNil))))))))))))) sNx)
      (sSeq (sAsg (eCall (callV 6 (c .f_law_row_tokens)) (aCons (eBin ixD (eVar 0) (eC (.int 1))) (aCons (eVar 1) (aCons (eVar 2) (aCons (eVar 3) (aCons (eVar 4) (aCons (eVar 5) aNil))))))) (gN 7))
      (sSeq (sIf (Vl.tB (eBin (bE eqD false) (eBin ixD (eVar 0) (eC (.int 0))) (eC (.str (Str.ofString "repeat"))))) (sSeq (sEx (eCall (callV 3 (c .f_law_add)) (aCons (eVar 3) (aCons (eBin ixD (eVar 7) (eC (.int 2))) (aCons (eBin ixD (eVar 7) (eC (.int 1))) aNil)))))
      (sRet (eLst false (aCons (eC (.bl true)) (aCons (eBin ixD (eVar 7) (eC (.int 1))) (aCons (eBin ixD (eVar 7) (eC (.int 2))) (aCons (eBin ixD (eVar 7) (eC (.int 3))) aNil))))))) sNx)
      (sSeq (sAsg (eCall (callV 6 (c .f_law_row_tokens)) (aCons (eBin ixD (eVar 0) (eC (.int 2))) (aCons (eBin ixD (eVar 7) (eC (.int 3))) (aCons (eVar 2) (aCons (eVar 3) (aCons (eVar 4) (aCons (eVar 5) aNil))))))) (gN 8))
      (sRet (eLst false (aCons ((eOr (eBin ixD (eVar 7) (eC (.int 0))) (eBin ixD (eVar 8) (eC (.int 0))))) (aCons (eBin (addD false) (eBin ixD (eVar 7) (eC (.int 1))) (eBin ixD (eVar 8) (eC (.int 1)))) (aCons (eBin (addD false) (eBin ixD (eVar 7) (eC (.int 2))) (eBin ixD (eVar 8) (eC (.int 2)))) (aCons (eBin ixD (eVar 8) (eC (.int 3))) aNil)))))))))))
def b_law_plain (c : Fid → List D → M D) : SF :=
    (sSeq (sAsg (eLst true aNil) (gN 2))
      (sSeq (sFor (iSeq (eVar 1)) (gN 3) (sIf (Vl.tB (eBin ltD (eVar 3) (eC (.int 0)))) (sAsg (eBin (addD true) (eVar 2) (eCall (callV 2 (c .f_law_plain)) (aCons (eVar 0) (aCons (eBin dgetD (eVar 0) (eVar 3)) aNil)))) (gN 2)) (sEx (eLM appendD (eVar 2) (aCons (eVar 3) aNil)))))
      (sRet (eCall sortSetL (aCons (eVar 2) aNil)))))
def b_law_web (c : Fid → List D → M D) : SF :=
    (sSeq (sAsg eDNew (gN 1))
      (sSeq (sAsg eDNew (gN 2))
      (sSeq (sAsg (eLst true aNil) (gN 3))
      (sSeq (sAsg (eCall (callV 6 (c .f_law_row_tokens)) (aCons (eVar 0) (aCons (eC (.int 0)) (aCons (eC (.int 0)) (aCons (eVar 1) (aCons (eVar 2) (aCons (eVar 3) aNil))))))) (gN 4))
      (sSeq (sAsg (eBin ixD (eVar 4) (eC (.int 3))) (gN 5))
      (sSeq (sEx (eCall (callV 3 (c .f_law_add)) (aCons (eVar 1) (aCons (eBin ixD (eVar 4) (eC (.int 2))) (aCons (eLst false (aCons (eVar 5) aNil)) aNil)))))
      (sSeq (sAsg (eCall (callV 2 (c .f_law_plain)) (aCons (eVar 1) (aCons (eBin (addD false) (eBin ixD (eVar 4) (eC (.int 1))) (eBin (mulL false) (eLst false (aCons (eVar 5) aNil)) (eCall intD (aCons (eBin ixD (eVar 4) (eC (.int 0))) aNil)))) aNil))) (gN 6))
      (sSeq (sAsg (eLst true aNil) (gN 7))
      (sSeq (sAsg (eLst true aNil) (gN 8))
      (sSeq (sAsg (eCall (callV 1 (c .f_law_listed)) (aCons (eVar 0) aNil)) (gN 9))
      (sSeq (sFor (iRng rng1D (aCons (eVar 5) aNil)) (gN 10) (sSeq (sEx (eLM appendD (eVar 7) (aCons (eCall (callV 2 (c .f_law_plain)) (aCons (eVar 1) (aCons (eBin dgetD (eVar 1) (eVar 10)) aNil))) aNil)))
      (sSeq (sIf (Vl.tB (eBin (inDp false) (eBin ixD (eVar 9) (eVar 10)) (eTup (aCons (eTup (aCons (eC (.str (Str.ofString "return"))) aNil)) (aCons (eTup (aCons (eC (.str (Str.ofString "fault"))) aNil)) aNil))))) (sPut (eVar 7) (eVar 10) (eLst false aNil)) sNx)
      (sIf (Vl.tB (eBin (bE eqD false) (eBin dgetD (eVar 2) (eVar 10)) (eC (.int 0)))) (sEx (eLM appendD (eVar 8) (aCons (eLst false aNil) aNil))) (sEx (eLM appendD (eVar 8) (aCons (eCall (callV 2 (c .f_law_plain)) (aCons (eVar 1) (aCons (eBin ixD (eVar 3) (eBin subD (eUn negD (eC (.int 1))) (eBin dgetD (eVar 2) (eVar 10)))) aNil))) aNil)))))))
      (sRet (eLst false (aCons (eVar 6) (aCons (eVar 7) (aCons (eVar 8) aNil))))))))))))))))
def b_law_wrapped (c : Fid → List D → M D) : SF :=
    (sSeq (sAsg (eCall (callV 2 (c .f_law_draw)) (aCons (eVar 0) (aCons (eC (.int 6)) aNil))) (gN 2))
      (sSeq (sAsg (eCall (callV 2 (c .f_law_rows)) (aCons (eVar 0) (aCons (eC (.int 1)) aNil))) (gN 3))
      (sSeq (sIf (Vl.tB (eBin (bE eqD false) (eVar 2) (eC (.int 0)))) (sRet (eTup (aCons (eTup (aCons (eC (.str (Str.ofString "guard"))) (aCons (eVar 1) (aCons (eVar 3) aNil)))) aNil))) sNx)
      (sSeq (sIf (Vl.tB (eBin (bE eqD false) (eVar 2) (eC (.int 1)))) (sRet (eTup (aCons (eTup (aCons (eC (.str (Str.ofString "repeat"))) (aCons (eTup (aCons (eTup (aCons (eC (.str (Str.ofString "guard"))) (aCons (eVar 1) (aCons (eVar 3) aNil)))) aNil)) aNil))) aNil))) sNx)
      (sSeq (sIf (Vl.tB (eBin (bE eqD false) (eVar 2) (eC (.int 2)))) (sRet (eTup (aCons (eTup (aCons (eC (.str (Str.ofString "guard"))) (aCons (eVar 3) (aCons (eVar 1) aNil)))) (aCons (eCall (callV 1 (c .f_law_simple)) (aCons (eVar 0) aNil)) aNil)))) sNx)
      (sRet (eVar 1)))))))
def blaw (c : Fid → List D → M D) : SF :=
    (sSeq (sAsg (eCall (callV 1 (c .f_law_start)) (aCons (eVar 0) aNil)) (gN 1))
      (sSeq (sFor (iRng rng1D (aCons (eC (.int 2)) aNil)) (gN 2) (sSeq (sAsg (eCall (callV 2 (c .f_law_wrapped)) (aCons (eVar 1) (aCons (eBin (addD false) (eCall (callV 2 (c .f_law_rows)) (aCons (eVar 1) (aCons (eC (.int 2)) aNil))) (eCall (callV 2 (c .f_law_rows)) (aCons (eVar 1) (aCons (eC (.int 1)) aNil)))) aNil))) (gN 3))
      (sSeq (sAsg (eBin ixD (eCall (callV 1 (c .f_law_web)) (aCons (eVar 3) aNil)) (eC (.int 2))) (gN 4))
      (sSeq (sAsg (eLc false [6] (iRng rng1D (aCons (eCall lenD (aCons (eVar 4) aNil)) aNil)) (gN 6) tYesF (eCall (callV 2 (c .fcatchers)) (aCons (eVar 3) (aCons (eVar 6) aNil)))) (gN 5))
      (sIf ((Vl.tOr (Vl.tB (eBin (bE eqD true) (eVar 5) (eLc false [7] (iSeq (eVar 4)) (gN 7) tYesF (eCall tupleD (aCons (eVar 7) aNil))))) (Vl.tB (eBin gtD (eCall lenD (aCons (eLc false [7] (iSeq (eVar 5)) (gN 7) (tNo (tTr (eCall (isiD isiTab eqK) (aCons (eVar 7) (aCons (eC (.ty "tuple")) aNil))))) (eVar 7)) aNil)) (eC (.int 0)))))) (sRet (eC (.bl false))) sNx)))))
      (sRet (eC (.bl true)))))
def bodyOf (c : Fid → List D → M D) : Fid → List D → M D
  | .fsize => funF false 1 (bsize c)
  | .fsimple => funF false 4 (bsimple c)
  | .funion => funF false 2 (bunion c)
  | .fopening => funF false 8 (bopening c)
  | .flay_block => funF false 9 (blay_block c)
  | .flay => funF false 10 (blay c)
  | .fLayout_init => funF false 4 (bLayout_init c)
  | .fcheck_place => funF false 2 (bcheck_place c)
  | .fcatchers => funF false 3 (bcatchers c)
  | .f_law_start => funF true 2 (b_law_start c)
  | .f_law_draw => funF false 5 (b_law_draw c)
  | .f_law_simple => funF false 5 (b_law_simple c)
  | .f_law_rows => funF false 5 (b_law_rows c)
  | .f_law_listed => funF false 4 (b_law_listed c)
  | .f_law_add => funF false 4 (b_law_add c)
  | .f_law_row_tokens => funF false 10 (b_law_row_tokens c)
  | .f_law_item => funF false 9 (b_law_item c)
  | .f_law_plain => funF false 4 (b_law_plain c)
  | .f_law_web => funF false 11 (b_law_web c)
  | .f_law_wrapped => funF false 4 (b_law_wrapped c)
  | .flaw => funF false 8 (blaw c)
def Fn : Nat → Fid → List D → M D
  | 0 => fun _ _ _ => .bad
  | n + 1 => bodyOf (Fn n)
theorem d_size (n : Nat) : Fn (n + 1) .fsize = funF false 1 (bsize (Fn n)) := rfl
theorem d_simple (n : Nat) : Fn (n + 1) .fsimple = funF false 4 (bsimple (Fn n)) := rfl
theorem d_union (n : Nat) : Fn (n + 1) .funion = funF false 2 (bunion (Fn n)) := rfl
theorem d_opening (n : Nat) : Fn (n + 1) .fopening = funF false 8 (bopening (Fn n)) := rfl
theorem d_lay_block (n : Nat) : Fn (n + 1) .flay_block = funF false 9 (blay_block (Fn n)) := rfl
theorem d_lay (n : Nat) : Fn (n + 1) .flay = funF false 10 (blay (Fn n)) := rfl
theorem d_Layout_init (n : Nat) : Fn (n + 1) .fLayout_init = funF false 4 (bLayout_init (Fn n)) := rfl
theorem d_check_place (n : Nat) : Fn (n + 1) .fcheck_place = funF false 2 (bcheck_place (Fn n)) := rfl
theorem d_catchers (n : Nat) : Fn (n + 1) .fcatchers = funF false 3 (bcatchers (Fn n)) := rfl
theorem d__law_start (n : Nat) : Fn (n + 1) .f_law_start = funF true 2 (b_law_start (Fn n)) := rfl
theorem d__law_draw (n : Nat) : Fn (n + 1) .f_law_draw = funF false 5 (b_law_draw (Fn n)) := rfl
theorem d__law_simple (n : Nat) : Fn (n + 1) .f_law_simple = funF false 5 (b_law_simple (Fn n)) := rfl
theorem d__law_rows (n : Nat) : Fn (n + 1) .f_law_rows = funF false 5 (b_law_rows (Fn n)) := rfl
theorem d__law_listed (n : Nat) : Fn (n + 1) .f_law_listed = funF false 4 (b_law_listed (Fn n)) := rfl
theorem d__law_add (n : Nat) : Fn (n + 1) .f_law_add = funF false 4 (b_law_add (Fn n)) := rfl
theorem d__law_row_tokens (n : Nat) : Fn (n + 1) .f_law_row_tokens = funF false 10 (b_law_row_tokens (Fn n)) := rfl
theorem d__law_item (n : Nat) : Fn (n + 1) .f_law_item = funF false 9 (b_law_item (Fn n)) := rfl
theorem d__law_plain (n : Nat) : Fn (n + 1) .f_law_plain = funF false 4 (b_law_plain (Fn n)) := rfl
theorem d__law_web (n : Nat) : Fn (n + 1) .f_law_web = funF false 11 (b_law_web (Fn n)) := rfl
theorem d__law_wrapped (n : Nat) : Fn (n + 1) .f_law_wrapped = funF false 4 (b_law_wrapped (Fn n)) := rfl
theorem d_law (n : Nat) : Fn (n + 1) .flaw = funF false 8 (blaw (Fn n)) := rfl
end K11

namespace K11
open PySem PySem.Spec PyProof.Rows L2 Vl
structure Lib (P : Program) (w : World) (K : PySem.W.Frag) (mg : Str → Option Value) (base : Heap) (n : Nat) : Prop where
  g_size : Ow.Glob P w K mg base (L2.CX P w) (8 * n + 2) "size" ["rows"] (spF K 1 (Fn n .fsize))
  g_simple : Ow.Glob P w K mg base (L2.CX P w) (8 * n + 2) "simple" ["rows"] (spF K 1 (Fn n .fsimple))
  g_union : Ow.Glob P w K mg base (L2.CX P w) (8 * n + 2) "union" ["first", "second"] (spF K 2 (Fn n .funion))
  g_opening : Ow.Glob P w K mg base (L2.CX P w) (8 * n + 2) "opening" ["rows", "at"] (spF K 2 (Fn n .fopening))
  g_lay_block : Ow.Glob P w K mg base (L2.CX P w) (8 * n + 2) "lay_block" ["statement", "at", "after", "caught", "table"] (spF K 5 (Fn n .flay_block))
  g_lay : Ow.Glob P w K mg base (L2.CX P w) (8 * n + 2) "lay" ["rows", "at", "after", "caught", "table"] (spF K 5 (Fn n .flay))
  k_Layout0 : Ow.Maker P w K mg base (L2.CX P w) (8 * n + 2) "Layout" (He.ga K "Layout") ["self", "rows"] [] (spF K 2 (Fn n .fLayout_init))
  g_check_place : Ow.Glob P w K mg base (L2.CX P w) (8 * n + 2) "check_place" ["layout", "place"] (spF K 2 (Fn n .fcheck_place))
  g_catchers : Ow.Glob P w K mg base (L2.CX P w) (8 * n + 2) "catchers" ["rows", "place"] (spF K 2 (Fn n .fcatchers))
  g__law_start : Ow.Glob P w K mg base (L2.CX P w) (8 * n + 2) "_law_start" ["_law_script"] (spF K 1 (Fn n .f_law_start))
  g__law_draw : Ow.Glob P w K mg base (L2.CX P w) (8 * n + 2) "_law_draw" ["_law_state", "_law_many"] (spF K 2 (Fn n .f_law_draw))
  g__law_simple : Ow.Glob P w K mg base (L2.CX P w) (8 * n + 2) "_law_simple" ["_law_state"] (spF K 1 (Fn n .f_law_simple))
  g__law_rows : Ow.Glob P w K mg base (L2.CX P w) (8 * n + 2) "_law_rows" ["_law_state", "_law_deep"] (spF K 2 (Fn n .f_law_rows))
  g__law_listed : Ow.Glob P w K mg base (L2.CX P w) (8 * n + 2) "_law_listed" ["_law_rows_here"] (spF K 1 (Fn n .f_law_listed))
  g__law_add : Ow.Glob P w K mg base (L2.CX P w) (8 * n + 2) "_law_add" ["_law_table", "_law_ones", "_law_twos"] (spF K 3 (Fn n .f_law_add))
  g__law_row_tokens : Ow.Glob P w K mg base (L2.CX P w) (8 * n + 2) "_law_row_tokens" ["_law_rows_here", "_law_at", "_law_guard", "_law_table", "_law_caught", "_law_marks"] (spF K 6 (Fn n .f_law_row_tokens))
  g__law_item : Ow.Glob P w K mg base (L2.CX P w) (8 * n + 2) "_law_item" ["_law_phrase", "_law_at", "_law_guard", "_law_table", "_law_caught", "_law_marks"] (spF K 6 (Fn n .f_law_item))
  g__law_plain : Ow.Glob P w K mg base (L2.CX P w) (8 * n + 2) "_law_plain" ["_law_table", "_law_tokens"] (spF K 2 (Fn n .f_law_plain))
  g__law_web : Ow.Glob P w K mg base (L2.CX P w) (8 * n + 2) "_law_web" ["_law_rows_here"] (spF K 1 (Fn n .f_law_web))
  g__law_wrapped : Ow.Glob P w K mg base (L2.CX P w) (8 * n + 2) "_law_wrapped" ["_law_state", "_law_rows_here"] (spF K 2 (Fn n .f_law_wrapped))
  g_law : Ow.Glob P w K mg base (L2.CX P w) (8 * n + 2) "law" ["_law_script"] (spF K 1 (Fn n .flaw))
  x_NoPlace : Xc1 P w K mg base 1 "NoPlace" "place" ["self", "place"]
  tb_Layout_init : GxR.TabB base mg (coAd K (He.ma K (He.ga K "Layout") "__init__")) (taAd K (He.ma K (He.ga K "Layout") "__init__")) ∧ (coAd K (He.ma K (He.ga K "Layout") "__init__"), taAd K (He.ma K (He.ga K "Layout") "__init__")) ∈ codesOf K
section
variable {P : Program} {w : World} {K : PySem.W.Frag} {mg : Str → Option Value} {base : Heap}
theorem okx_NoPlace {f : Addr} {fd : FuncData} (F : FunD K "__init__" "NoPlace.__init__" (defArgs SNoPlace_init) (defBody SNoPlace_init) (defScope SNoPlace_init) [] [] f fd) (T : Txt K mg) : FnOk P w K mg base (L2.CX P w) 1 f fd ["self", "place"] (spX1 (He.ga K "NoPlace") "place") := by
  refine F.ok scNoPlace_init (fun vs H Q E h => ?_) (fun cdv A outer s H vs Q E hr h => ?_)
  · obtain ⟨a, y, rfl, _⟩ := h
    rfl
  · obtain ⟨a, y, rfl, ha, q⟩ := h
    refine ⟨_, pss_cons (ps_expr (pe_vei (pe_glob (v := .ref (He.ga K "FewError")) (by rfl) T.g_FewError rfl) T.vi_FewError (pa_cons (pe_var (i := 0) rfl (Or.inl rfl)) (pa_cons pe_str pa_nil)))) (pss_one (ps_ost (pe_var (i := 0) rfl (Or.inl rfl)) (pe_var (i := 1) rfl (Or.inl rfl)))), ?_⟩
    exact ⟨rfl, _, rfl, a, _, _, rfl, by decide, T.ox_NoPlace, ha, _, rfl, _, rfl, a, _, rfl, T.ox_NoPlace, T.xno_NoPlace_place, .inl ⟨ha, fun dx n ne => q dx n ne⟩⟩
theorem ok_size {n : Nat} {f : Addr} {fd : FuncData} (F : FunD K "size" "size" (defArgs Ssize) (defBody Ssize) (defScope Ssize) [] [] f fd) (T : Txt K mg) (L : Lib P w K mg base n) : FnOk P w K mg base (L2.CX P w) (8 * n + 10) f fd ["rows"] (spF K 1 (Fn (n + 1) .fsize)) :=
  fun_ok (k := 8 * n + 9) (keep := false) (b := bsize (Fn n)) F scsize fun cdv A outer s H E hr =>
      (ssOne (sRetF (fB (Ow.klen (K := K)) of_len T.z_len (aConsF (fCall L.g_simple (hr.mono (by omega)) takesE (aConsF (fVar 0) aNilF)) aNilF))))
theorem ok_simple {n : Nat} {f : Addr} {fd : FuncData} (F : FunD K "simple" "simple" (defArgs Ssimple) (defBody Ssimple) (defScope Ssimple) [] [] f fd) (T : Txt K mg) (L : Lib P w K mg base n) : FnOk P w K mg base (L2.CX P w) (8 * n + 10) f fd ["rows"] (spF K 1 (Fn (n + 1) .fsimple)) :=
  fun_ok (k := 8 * n + 9) (keep := false) (b := bsimple (Fn n)) F sxsimple fun cdv A outer s H E hr =>
      (ssCons (sSetF sxsimple.nd (fLst aNilF))
      (ssCons (sForF (passes_of rfl) (iSeqF (fVar 0)) (gNF sxsimple.nd) (ssOne (sIfF (fTC (Ow.kin (K := K)) of_rIn (fIx (fVar 2) fInt) (fConT T.kt_BLOCKS T.g_BLOCKS)) (ssOne (sForF (passes_of rfl) (iSeqF (fSl (fVar 2) (poSome fInt) poNo)) (gNF sxsimple.nd) (ssOne (sExF (fExtend (fVar 1) (aConsF (fCall L.g_simple (hr.mono (by omega)) takesE (aConsF (fVar 3) aNilF)) aNilF)))) (nox_gN _))) (ssOne (sExF (fAppend (fVar 1) (aConsF (fVar 2) aNilF)))))) (nox_gN _))
      (ssOne (sRetF (fVar 1)))))
theorem ok_union {n : Nat} {f : Addr} {fd : FuncData} (F : FunD K "union" "union" (defArgs Sunion) (defBody Sunion) (defScope Sunion) [] [] f fd) (T : Txt K mg) (L : Lib P w K mg base n) : FnOk P w K mg base (L2.CX P w) (8 * n + 10) f fd ["first", "second"] (spF K 2 (Fn (n + 1) .funion)) :=
  fun_ok (k := 8 * n + 9) (keep := false) (b := bunion (Fn n)) F scunion fun cdv A outer s H E hr =>
      (ssOne (sRetF (fTy (Ow.ktuple (K := K)) of_tuple T.z_tuple (aConsF (fSortSetL T.z_sorted T.z_set (aConsF (fBin opAdd ofAdd (fVar 0) (fVar 1)) aNilF)) aNilF))))
theorem ok_opening {n : Nat} {f : Addr} {fd : FuncData} (F : FunD K "opening" "opening" (defArgs Sopening) (defBody Sopening) (defScope Sopening) [] [] f fd) (T : Txt K mg) (L : Lib P w K mg base n) : FnOk P w K mg base (L2.CX P w) (8 * n + 10) f fd ["rows", "at"] (spF K 2 (Fn (n + 1) .fopening)) :=
  fun_ok (k := 8 * n + 9) (keep := false) (b := bopening (Fn n)) F scopening fun cdv A outer s H E hr =>
      (ssCons (sSetF scopening.nd (fTup aNilF))
      (ssCons (sForF (passes_of rfl) (iSeqF (fVar 0)) (gNF scopening.nd) (ssCons (sIfF (fTC (Ow.knotin (K := K)) of_rIn (fIx (fVar 3) fInt) (fConT T.kt_BLOCKS T.g_BLOCKS)) (ssOne (sRetF (fTup (aConsF (fCall L.g_union (hr.mono (by omega)) takesE (aConsF (fVar 2) (aConsF (fTup (aConsF (fVar 1) aNilF)) aNilF))) (aConsF fBl aNilF))))) ssNil)
      (ssCons (sAsgF (fCall L.g_opening (hr.mono (by omega)) takesE (aConsF (fIx (fVar 3) fInt) (aConsF (fVar 1) aNilF))) (gTupF (gConsF (gNF scopening.nd) (gConsF (gNF scopening.nd) gNilF))) (nox_tup (nox_cons (nox_gN _) (nox_cons (nox_gN _) nox_nil))))
      (ssCons (sIfF (fTC (Ow.keqd (K := K) hr.units) of_eqD (fIx (fVar 3) fInt) fStr) (ssCons (sAsgF (fCall L.g_opening (hr.mono (by omega)) takesE (aConsF (fIx (fVar 3) fInt) (aConsF (fBin opAdd ofAdd (fVar 1) (fCall L.g_size (hr.mono (by omega)) takesE (aConsF (fIx (fVar 3) fInt) aNilF))) aNilF))) (gTupF (gConsF (gNF scopening.nd) (gConsF (gNF scopening.nd) gNilF))) (nox_tup (nox_cons (nox_gN _) (nox_cons (nox_gN _) nox_nil))))
      (ssCons (sSetF scopening.nd (fCall L.g_union (hr.mono (by omega)) takesE (aConsF (fVar 4) (aConsF (fVar 6) aNilF))))
      (ssOne (sSetF scopening.nd ((fOr (fVar 5) (fOne (fVar 7)))))))) ssNil)
      (ssCons (sSetF scopening.nd (fCall L.g_union (hr.mono (by omega)) takesE (aConsF (fVar 2) (aConsF (fVar 4) aNilF))))
      (ssCons (sIfF (fNo (PW.pt (wOr (fTr (fVar 5)) (wOr1 (fTC (Ow.keqd (K := K) hr.units) of_eqD (fIx (fVar 3) fInt) fStr))))) (ssOne (sRetF (fTup (aConsF (fVar 2) (aConsF fBl aNilF))))) ssNil)
      (ssOne (sAugF (i := 1) scopening.nd ip_add ofIpAdd (fCall L.g_size (hr.mono (by omega)) takesE (aConsF (fLst (aConsF (fVar 3) aNilF)) aNilF))))))))) (nox_gN _))
      (ssOne (sRetF (fTup (aConsF (fVar 2) (aConsF fBl aNilF)))))))
theorem ok_lay_block {n : Nat} {f : Addr} {fd : FuncData} (F : FunD K "lay_block" "lay_block" (defArgs Slay_block) (defBody Slay_block) (defScope Slay_block) [] [] f fd) (T : Txt K mg) (L : Lib P w K mg base n) : FnOk P w K mg base (L2.CX P w) (8 * n + 10) f fd ["statement", "at", "after", "caught", "table"] (spF K 5 (Fn (n + 1) .flay_block)) :=
  fun_ok (k := 8 * n + 9) (keep := false) (b := blay_block (Fn n)) F sclay_block fun cdv A outer s H E hr =>
      (ssCons (sSetF sclay_block.nd (fBin opAdd ofAdd (fVar 1) (fCall L.g_size (hr.mono (by omega)) takesE (aConsF (fIx (fVar 0) fInt) aNilF))))
      (ssCons (sIfF (fTC (Ow.keqd (K := K) hr.units) of_eqD (fIx (fVar 0) fInt) fStr) (ssCons (sSetF sclay_block.nd (fCall L.g_lay (hr.mono (by omega)) takesE (aConsF (fIx (fVar 0) fInt) (aConsF (fVar 1) (aConsF (fVar 2) (aConsF (fVar 3) (aConsF (fVar 4) aNilF)))))))
      (ssOne (sRetF (fCall L.g_union (hr.mono (by omega)) takesE (aConsF (fVar 6) (aConsF (fCall L.g_lay (hr.mono (by omega)) takesE (aConsF (fIx (fVar 0) fInt) (aConsF (fVar 5) (aConsF (fVar 2) (aConsF (fVar 3) (aConsF (fVar 4) aNilF)))))) aNilF)))))) ssNil)
      (ssCons (sIfF (fTC (Ow.keqd (K := K) hr.units) of_eqD (fIx (fVar 0) fInt) fStr) (ssCons (sSetF sclay_block.nd (fCall L.g_union (hr.mono (by omega)) takesE (aConsF (fIx (fCall L.g_opening (hr.mono (by omega)) takesE (aConsF (fIx (fVar 0) fInt) (aConsF (fVar 1) aNilF))) fInt) (aConsF (fVar 2) aNilF))))
      (ssCons (sExF (fCall L.g_lay (hr.mono (by omega)) takesE (aConsF (fIx (fVar 0) fInt) (aConsF (fVar 1) (aConsF (fVar 7) (aConsF (fVar 3) (aConsF (fVar 4) aNilF)))))))
      (ssOne (sRetF (fVar 7))))) ssNil)
      (ssCons (sSetF sclay_block.nd (fCall L.g_lay (hr.mono (by omega)) takesE (aConsF (fIx (fVar 0) fInt) (aConsF (fVar 5) (aConsF (fVar 2) (aConsF (fVar 3) (aConsF (fVar 4) aNilF)))))))
      (ssOne (sRetF (fCall L.g_lay (hr.mono (by omega)) takesE (aConsF (fIx (fVar 0) fInt) (aConsF (fVar 1) (aConsF (fVar 2) (aConsF (fVar 8) (aConsF (fVar 4) aNilF))))))))))))
theorem ok_lay {n : Nat} {f : Addr} {fd : FuncData} (F : FunD K "lay" "lay" (defArgs Slay) (defBody Slay) (defScope Slay) [] [] f fd) (T : Txt K mg) (L : Lib P w K mg base n) : FnOk P w K mg base (L2.CX P w) (8 * n + 10) f fd ["rows", "at", "after", "caught", "table"] (spF K 5 (Fn (n + 1) .flay)) :=
  fun_ok (k := 8 * n + 9) (keep := false) (b := blay (Fn n)) F sclay fun cdv A outer s H E hr =>
      (ssCons (sSetF sclay.nd (fLst aNilF))
      (ssCons (sForF (passes_of rfl) (iSeqF (fVar 0)) (gNF sclay.nd) (ssCons (sExF (fAppend (fVar 5) (aConsF (fVar 1) aNilF)))
      (ssOne (sAugF (i := 1) sclay.nd ip_add ofIpAdd (fCall L.g_size (hr.mono (by omega)) takesE (aConsF (fLst (aConsF (fVar 6) aNilF)) aNilF))))) (nox_gN _))
      (ssCons (sSetF sclay.nd (fVar 2))
      (ssCons (sForF (passes_of rfl) (iRevF T.z_reversed T.z_range (fB (Ow.klen (K := K)) of_len T.z_len (aConsF (fVar 0) aNilF))) (gNF sclay.nd) (ssCons (sSetF sclay.nd (fIx (fVar 0) (fVar 8)))
      (ssOne (sIfF (fTC (Ow.kin (K := K)) of_rIn (fIx (fVar 6) fInt) (fConT T.kt_BLOCKS T.g_BLOCKS)) (ssOne (sSetF sclay.nd (fCall L.g_lay_block (hr.mono (by omega)) takesE (aConsF (fVar 6) (aConsF (fIx (fVar 5) (fVar 8)) (aConsF (fVar 7) (aConsF (fVar 3) (aConsF (fVar 4) aNilF)))))))) (ssCons (sSetF sclay.nd (fCmp (Ow.kin (K := K)) of_rIn (fIx (fVar 6) fInt) (fTup (aConsF fStr (aConsF fStr aNilF)))))
      (ssCons (sDPutF (hu_of hr) (fVar 4) (fIx (fVar 5) (fVar 8)) (fTup (aConsF (fVar 6) (aConsF (fIf (fTr (fVar 9)) (fTup aNilF) (fVar 7)) (aConsF (fVar 3) aNilF)))))
      (ssOne (sSetF sclay.nd (fTup (aConsF (fIx (fVar 5) (fVar 8)) aNilF))))))))) (nox_gN _))
      (ssOne (sRetF (fVar 7)))))))
theorem ok_Layout_init {n : Nat} {fd : FuncData} (F : FunD K "__init__" "Layout.__init__" (defArgs SLayout_init) (defBody SLayout_init) (defScope SLayout_init) [] [] (He.ma K (He.ga K "Layout") "__init__") fd) (T : Txt K mg) (L : Lib P w K mg base n) : FnOk P w K mg base (L2.CX P w) (8 * n + 10) (He.ma K (He.ga K "Layout") "__init__") fd ["self", "rows"] (spF K 2 (Fn (n + 1) .fLayout_init)) :=
  fun_okT (k := 8 * n + 9) (keep := false) (b := bLayout_init (Fn n)) F scLayout_init fun cdv A outer s H E hcd hr =>
      (ssCons (sSetF scLayout_init.nd fDNew)
      (ssCons (sFldF (n_end T) (fVar 0) (fCall L.g_size (hr.mono (by omega)) takesE (aConsF (fVar 1) aNilF)))
      (ssCons (sFldF (n_firsts T) (fVar 0) (fCall L.g_lay (hr.mono (by omega)) takesE (aConsF (fVar 1) (aConsF fInt (aConsF (fTup (aConsF (fFld (n_end T) (fVar 0)) aNilF)) (aConsF (fTup aNilF) (aConsF (fVar 2) aNilF)))))))
      (ssCons (sFldF (n_statements T) (fVar 0) (fGen (k := 8 * n + 4) (own := [("at", 3)]) scLayout_init.nd L.tb_Layout_init hcd (hr.mono (by omega)) T.z_tuple (iRng1F T.z_range (aConsF (fFld (n_end T) (fVar 0)) aNilF)) (Gx.gxOk_by (own := [("at", 3)]) (N := ["self", "rows", "table", "at"]) (sc := defScope SLayout_init) (by decide +kernel)) (fun _ _ _ _ _ _ hr => by exact pg_name (i := 3) scLayout_init.nd rfl (Or.inl rfl)) (tgN (i := 3) (by decide)) (fun _ _ _ _ _ _ hr => by exact tsNil) (fun _ _ _ _ _ _ hr => by exact (fIx (fDGet (hu_of hr) (fVar 2) (fVar 3)) fInt)) (nox_gN _)))
      (ssCons (sFldF (n_followers T) (fVar 0) (fGen (k := 8 * n + 4) (own := [("at", 3)]) scLayout_init.nd L.tb_Layout_init hcd (hr.mono (by omega)) T.z_tuple (iRng1F T.z_range (aConsF (fFld (n_end T) (fVar 0)) aNilF)) (Gx.gxOk_by (own := [("at", 3)]) (N := ["self", "rows", "table", "at"]) (sc := defScope SLayout_init) (by decide +kernel)) (fun _ _ _ _ _ _ hr => by exact pg_name (i := 3) scLayout_init.nd rfl (Or.inl rfl)) (tgN (i := 3) (by decide)) (fun _ _ _ _ _ _ hr => by exact tsNil) (fun _ _ _ _ _ _ hr => by exact (fIx (fDGet (hu_of hr) (fVar 2) (fVar 3)) fInt)) (nox_gN _)))
      (ssOne (sFldF (n_catchers T) (fVar 0) (fGen (k := 8 * n + 4) (own := [("at", 3)]) scLayout_init.nd L.tb_Layout_init hcd (hr.mono (by omega)) T.z_tuple (iRng1F T.z_range (aConsF (fFld (n_end T) (fVar 0)) aNilF)) (Gx.gxOk_by (own := [("at", 3)]) (N := ["self", "rows", "table", "at"]) (sc := defScope SLayout_init) (by decide +kernel)) (fun _ _ _ _ _ _ hr => by exact pg_name (i := 3) scLayout_init.nd rfl (Or.inl rfl)) (tgN (i := 3) (by decide)) (fun _ _ _ _ _ _ hr => by exact tsNil) (fun _ _ _ _ _ _ hr => by exact (fIx (fDGet (hu_of hr) (fVar 2) (fVar 3)) fInt)) (nox_gN _)))))))))
theorem ok_check_place {n : Nat} {f : Addr} {fd : FuncData} (F : FunD K "check_place" "check_place" (defArgs Scheck_place) (defBody Scheck_place) (defScope Scheck_place) [] [] f fd) (T : Txt K mg) (L : Lib P w K mg base n) : FnOk P w K mg base (L2.CX P w) (8 * n + 10) f fd ["layout", "place"] (spF K 2 (Fn (n + 1) .fcheck_place)) :=
  fun_ok (k := 8 * n + 9) (keep := false) (b := bcheck_place (Fn n)) F sccheck_place fun cdv A outer s H E hr =>
      (ssOne (sIfF (fNo (fChainT op_le ofLe op_lt ofLt fInt (fVar 1) (fFld (n_end T) (fVar 0)))) (ssOne (fRaise1 L.x_NoPlace (hr.mono (by omega)) takesE passF (fVar 1))) ssNil))
theorem ok_catchers {n : Nat} {f : Addr} {fd : FuncData} (F : FunD K "catchers" "catchers" (defArgs Scatchers) (defBody Scatchers) (defScope Scatchers) [] [] f fd) (T : Txt K mg) (L : Lib P w K mg base n) : FnOk P w K mg base (L2.CX P w) (8 * n + 10) f fd ["rows", "place"] (spF K 2 (Fn (n + 1) .fcatchers)) :=
  fun_ok (k := 8 * n + 9) (keep := false) (b := bcatchers (Fn n)) F sccatchers fun cdv A outer s H E hr =>
      (ssCons (sSetF sccatchers.nd (fMake L.k_Layout0 Const.nil (hr.mono (by omega)) takesE (aConsF (fVar 0) aNilF)))
      (ssCons (sExF (fCall L.g_check_place (hr.mono (by omega)) takesE (aConsF (fVar 2) (aConsF (fVar 1) aNilF))))
      (ssOne (sRetF (fIx (fFld (n_catchers T) (fVar 2)) (fVar 1))))))
theorem ok__law_start {n : Nat} {f : Addr} {fd : FuncData} (F : FunD K "_law_start" "_law_start" (defArgs S_law_start) (defBody S_law_start) (defScope S_law_start) [] [] f fd) (T : Txt K mg) (L : Lib P w K mg base n) : FnOk P w K mg base (L2.CX P w) (8 * n + 10) f fd ["_law_script"] (spF K 1 (Fn (n + 1) .f_law_start)) :=
  fun_ok (k := 8 * n + 9) (keep := true) (b := b_law_start (Fn n)) F sc_law_start fun cdv A outer s H E hr =>
      (ssCons (sSetF sc_law_start.nd fInt)
      (ssCons (sIfF (fTC op_gt ofGt (fB (Ow.klen (K := K)) of_len T.z_len (aConsF (fVar 0) aNilF)) fInt) (ssOne (sSetF sc_law_start.nd (fIx (fVar 0) fInt))) ssNil)
      (ssOne (sRetF (fLst (aConsF (fTy (Ow.klist (K := K)) of_list T.z_list (aConsF (fVar 0) aNilF)) (aConsF fInt (aConsF (fVar 1) (aConsF fInt aNilF)))))))))
theorem ok__law_draw {n : Nat} {f : Addr} {fd : FuncData} (F : FunD K "_law_draw" "_law_draw" (defArgs S_law_draw) (defBody S_law_draw) (defScope S_law_draw) [] [] f fd) (T : Txt K mg) (L : Lib P w K mg base n) : FnOk P w K mg base (L2.CX P w) (8 * n + 10) f fd ["_law_state", "_law_many"] (spF K 2 (Fn (n + 1) .f_law_draw)) :=
  fun_ok (k := 8 * n + 9) (keep := false) (b := b_law_draw (Fn n)) F sc_law_draw fun cdv A outer s H E hr =>
      (ssCons (sIfF (fTC op_ge ofGe (fIx (fVar 0) fInt) (fBin op_pow ofPow fInt fInt)) (ssCons (sSetF sc_law_draw.nd (fBin op_mod ofMod (fTy call_int1 of_int T.z_int (aConsF (fIx (fVar 0) fInt) aNilF)) (fVar 1)))
      (ssCons (sPutF (fVar 0) fInt (fBin op_fdiv ofFdiv (fIx (fVar 0) fInt) (fVar 1)))
      (ssOne (sRetF (fVar 2))))) ssNil)
      (ssCons (sPutF (fVar 0) fInt (fBin opAdd ofAdd (fIx (fVar 0) fInt) fInt))
      (ssCons (sSetF sc_law_draw.nd (fBin opAdd ofAdd (fBin opAdd ofAdd (fBin op_mod ofMod (fTy call_int1 of_int T.z_int (aConsF (fIx (fVar 0) fInt) aNilF)) fInt) (fBin op_mul ofMul fInt (fIx (fVar 0) fInt))) fInt))
      (ssCons (sSetF sc_law_draw.nd (fBin op_mod ofMod (fBin op_pow ofPow (fVar 3) fInt) fInt))
      (ssCons (sIfF (fTC op_lt ofLt (fIx (fVar 0) fInt) (fB (Ow.klen (K := K)) of_len T.z_len (aConsF (fIx (fVar 0) fInt) aNilF))) (ssCons (sPutF (fVar 0) fInt (fIx (fIx (fVar 0) fInt) (fIx (fVar 0) fInt)))
      (ssOne (sPutF (fVar 0) fInt (fBin opAdd ofAdd (fIx (fVar 0) fInt) fInt)))) ssNil)
      (ssOne (sRetF (fBin op_mod ofMod (fBin op_fdiv ofFdiv (fTy call_int1 of_int T.z_int (aConsF (fVar 4) aNilF)) fInt) (fVar 1)))))))))
theorem ok__law_simple {n : Nat} {f : Addr} {fd : FuncData} (F : FunD K "_law_simple" "_law_simple" (defArgs S_law_simple) (defBody S_law_simple) (defScope S_law_simple) [] [] f fd) (T : Txt K mg) (L : Lib P w K mg base n) : FnOk P w K mg base (L2.CX P w) (8 * n + 10) f fd ["_law_state"] (spF K 1 (Fn (n + 1) .f_law_simple)) :=
  fun_ok (k := 8 * n + 9) (keep := false) (b := b_law_simple (Fn n)) F sc_law_simple fun cdv A outer s H E hr =>
      (ssCons (sSetF sc_law_simple.nd (fCall L.g__law_draw (hr.mono (by omega)) takesE (aConsF (fVar 0) (aConsF fInt aNilF))))
      (ssCons (sSetF sc_law_simple.nd (fIx (fLst (aConsF fStr (aConsF fStr (aConsF fStr aNilF)))) (fCall L.g__law_draw (hr.mono (by omega)) takesE (aConsF (fVar 0) (aConsF fInt aNilF)))))
      (ssCons (sSetF sc_law_simple.nd (fCall L.g__law_draw (hr.mono (by omega)) takesE (aConsF (fVar 0) (aConsF fInt aNilF))))
      (ssCons (sSetF sc_law_simple.nd (fIx (fLst (aConsF fStr (aConsF fStr (aConsF fStr aNilF)))) (fCall L.g__law_draw (hr.mono (by omega)) takesE (aConsF (fVar 0) (aConsF fInt aNilF)))))
      (ssCons (sIfF (fTC op_lt ofLt (fVar 1) fInt) (ssOne (sRetF (fIx (fLst (aConsF (fTup (aConsF fStr aNilF)) (aConsF (fTup (aConsF fStr aNilF)) aNilF))) (fVar 1)))) ssNil)
      (ssCons (sIfF (fTC op_lt ofLt (fVar 1) fInt) (ssOne (sRetF (fTup (aConsF fStr (aConsF (fVar 4) aNilF))))) ssNil)
      (ssCons (sIfF (fTC (Ow.keqd (K := K) hr.units) of_eqD (fVar 1) fInt) (ssOne (sRetF (fTup (aConsF fStr (aConsF (fVar 2) (aConsF (fVar 3) (aConsF (fIx (fLst (aConsF fStr (aConsF fStr (aConsF fStr (aConsF fStr aNilF))))) (fCall L.g__law_draw (hr.mono (by omega)) takesE (aConsF (fVar 0) (aConsF fInt aNilF)))) aNilF))))))) ssNil)
      (ssCons (sIfF (fTC op_lt ofLt (fVar 1) fInt) (ssOne (sRetF (fIx (fLst (aConsF (fTup (aConsF fStr (aConsF (fVar 2) aNilF))) (aConsF (fTup (aConsF fStr (aConsF (fVar 2) aNilF))) aNilF))) (fBin op_sub ofSub (fVar 1) fInt)))) ssNil)
      (ssOne (sRetF (fIx (fLst (aConsF (fTup (aConsF fStr (aConsF (fVar 3) aNilF))) (aConsF (fTup (aConsF fStr (aConsF (fVar 3) aNilF))) (aConsF (fTup (aConsF fStr (aConsF (fVar 3) aNilF))) aNilF)))) (fBin op_sub ofSub (fVar 1) fInt))))))))))))
theorem ok__law_rows {n : Nat} {f : Addr} {fd : FuncData} (F : FunD K "_law_rows" "_law_rows" (defArgs S_law_rows) (defBody S_law_rows) (defScope S_law_rows) [] [] f fd) (T : Txt K mg) (L : Lib P w K mg base n) : FnOk P w K mg base (L2.CX P w) (8 * n + 10) f fd ["_law_state", "_law_deep"] (spF K 2 (Fn (n + 1) .f_law_rows)) :=
  fun_ok (k := 8 * n + 9) (keep := false) (b := b_law_rows (Fn n)) F sc_law_rows fun cdv A outer s H E hr =>
      (ssCons (sSetF sc_law_rows.nd (fLst aNilF))
      (ssCons (sForF (passes_of rfl) (iRng1F T.z_range (aConsF (fCall L.g__law_draw (hr.mono (by omega)) takesE (aConsF (fVar 0) (aConsF fInt aNilF))) aNilF)) (gNF sc_law_rows.nd) (ssCons (sSetF sc_law_rows.nd (fCall L.g__law_draw (hr.mono (by omega)) takesE (aConsF (fVar 0) (aConsF fInt aNilF))))
      (ssOne (sIfF (PW.pt (wOr (fTC op_lt ofLt (fVar 4) fInt) (wOr1 (fTC (Ow.keqd (K := K) hr.units) of_eqD (fVar 1) fInt)))) (ssOne (sExF (fAppend (fVar 2) (aConsF (fCall L.g__law_simple (hr.mono (by omega)) takesE (aConsF (fVar 0) aNilF)) aNilF)))) (ssOne (sIfF (fTC (Ow.keqd (K := K) hr.units) of_eqD (fVar 4) fInt) (ssOne (sExF (fAppend (fVar 2) (aConsF (fTup (aConsF fStr (aConsF (fCall L.g__law_rows (hr.mono (by omega)) takesE (aConsF (fVar 0) (aConsF (fBin op_sub ofSub (fVar 1) fInt) aNilF))) (aConsF (fCall L.g__law_rows (hr.mono (by omega)) takesE (aConsF (fVar 0) (aConsF (fBin op_sub ofSub (fVar 1) fInt) aNilF))) aNilF)))) aNilF)))) (ssOne (sIfF (fTC (Ow.keqd (K := K) hr.units) of_eqD (fVar 4) fInt) (ssOne (sExF (fAppend (fVar 2) (aConsF (fTup (aConsF fStr (aConsF (fCall L.g__law_rows (hr.mono (by omega)) takesE (aConsF (fVar 0) (aConsF (fBin op_sub ofSub (fVar 1) fInt) aNilF))) aNilF))) aNilF)))) (ssOne (sExF (fAppend (fVar 2) (aConsF (fTup (aConsF fStr (aConsF (fCall L.g__law_rows (hr.mono (by omega)) takesE (aConsF (fVar 0) (aConsF (fBin op_sub ofSub (fVar 1) fInt) aNilF))) (aConsF (fCall L.g__law_rows (hr.mono (by omega)) takesE (aConsF (fVar 0) (aConsF (fBin op_sub ofSub (fVar 1) fInt) aNilF))) aNilF)))) aNilF))))))))))) (nox_gN _))
      (ssOne (sRetF (fTy (Ow.ktuple (K := K)) of_tuple T.z_tuple (aConsF (fVar 2) aNilF))))))
theorem ok__law_listed {n : Nat} {f : Addr} {fd : FuncData} (F : FunD K "_law_listed" "_law_listed" (defArgs S_law_listed) (defBody S_law_listed) (defScope S_law_listed) [] [] f fd) (T : Txt K mg) (L : Lib P w K mg base n) : FnOk P w K mg base (L2.CX P w) (8 * n + 10) f fd ["_law_rows_here"] (spF K 1 (Fn (n + 1) .f_law_listed)) :=
  fun_ok (k := 8 * n + 9) (keep := false) (b := b_law_listed (Fn n)) F sc_law_listed fun cdv A outer s H E hr =>
      (ssCons (sSetF sc_law_listed.nd (fLst aNilF))
      (ssCons (sForF (passes_of rfl) (iSeqF (fVar 0)) (gNF sc_law_listed.nd) (ssOne (sIfF (fTC (Ow.kin (K := K)) of_rIn (fIx (fVar 2) fInt) (fTup (aConsF fStr (aConsF fStr (aConsF fStr aNilF))))) (ssOne (sForF (passes_of rfl) (iSeqF (fSl (fVar 2) (poSome fInt) poNo)) (gNF sc_law_listed.nd) (ssOne (sSetF sc_law_listed.nd (fBin opAdd ofAdd (fVar 1) (fCall L.g__law_listed (hr.mono (by omega)) takesE (aConsF (fVar 3) aNilF))))) (nox_gN _))) (ssOne (sExF (fAppend (fVar 1) (aConsF (fVar 2) aNilF)))))) (nox_gN _))
      (ssOne (sRetF (fVar 1)))))
theorem ok__law_add {n : Nat} {f : Addr} {fd : FuncData} (F : FunD K "_law_add" "_law_add" (defArgs S_law_add) (defBody S_law_add) (defScope S_law_add) [] [] f fd) (T : Txt K mg) (L : Lib P w K mg base n) : FnOk P w K mg base (L2.CX P w) (8 * n + 10) f fd ["_law_table", "_law_ones", "_law_twos"] (spF K 3 (Fn (n + 1) .f_law_add)) :=
  fun_ok (k := 8 * n + 9) (keep := false) (b := b_law_add (Fn n)) F sc_law_add fun cdv A outer s H E hr =>
      (ssOne (sForF (passes_of rfl) (iSeqF (fVar 1)) (gNF sc_law_add.nd) (ssOne (sDPutF (hu_of hr) (fVar 0) (fVar 3) (fBin opAdd ofAdd (fDGet (hu_of hr) (fVar 0) (fVar 3)) (fVar 2)))) (nox_gN _)))
theorem ok__law_row_tokens {n : Nat} {f : Addr} {fd : FuncData} (F : FunD K "_law_row_tokens" "_law_row_tokens" (defArgs S_law_row_tokens) (defBody S_law_row_tokens) (defScope S_law_row_tokens) [] [] f fd) (T : Txt K mg) (L : Lib P w K mg base n) : FnOk P w K mg base (L2.CX P w) (8 * n + 10) f fd ["_law_rows_here", "_law_at", "_law_guard", "_law_table", "_law_caught", "_law_marks"] (spF K 6 (Fn (n + 1) .f_law_row_tokens)) :=
  fun_ok (k := 8 * n + 9) (keep := false) (b := b_law_row_tokens (Fn n)) F sc_law_row_tokens fun cdv A outer s H E hr =>
      (ssCons (sSetF sc_law_row_tokens.nd (fLst (aConsF fBl (aConsF (fLst aNilF) (aConsF (fLst aNilF) (aConsF (fVar 1) aNilF))))))
      (ssCons (sForF (passes_of rfl) (iSeqF (fVar 0)) (gNF sc_law_row_tokens.nd) (ssCons (sSetF sc_law_row_tokens.nd (fCall L.g__law_item (hr.mono (by omega)) takesE (aConsF (fVar 7) (aConsF (fIx (fVar 6) fInt) (aConsF (fVar 2) (aConsF (fVar 3) (aConsF (fVar 4) (aConsF (fVar 5) aNilF))))))))
      (ssCons (sExF (fCall L.g__law_add (hr.mono (by omega)) takesE (aConsF (fVar 3) (aConsF (fIx (fVar 6) fInt) (aConsF (fIx (fVar 8) fInt) aNilF)))))
      (ssCons (sIfF (fTr (fIx (fVar 6) fInt)) (ssOne (sPutF (fVar 6) fInt (fBin opAdd ofAdd (fIx (fVar 6) fInt) (fIx (fVar 8) fInt)))) ssNil)
      (ssCons (sSetF sc_law_row_tokens.nd (fIx (fVar 8) fInt))
      (ssCons (sIfF (fTr (fIx (fVar 8) fInt)) (ssOne (sSetF sc_law_row_tokens.nd (fBin opAdd ofAdd (fIx (fVar 6) fInt) (fVar 9)))) ssNil)
      (ssOne (sSetF sc_law_row_tokens.nd (fLst (aConsF ((fAnd (fIx (fVar 6) fInt) (fOne (fIx (fVar 8) fInt)))) (aConsF (fIx (fVar 6) fInt) (aConsF (fVar 9) (aConsF (fIx (fVar 8) fInt) aNilF)))))))))))) (nox_gN _))
      (ssOne (sRetF (fVar 6)))))
theorem ok__law_item {n : Nat} {f : Addr} {fd : FuncData} (F : FunD K "_law_item" "_law_item" (defArgs S_law_item) (defBody S_law_item) (defScope S_law_item) [] [] f fd) (T : Txt K mg) (L : Lib P w K mg base n) : FnOk P w K mg base (L2.CX P w) (8 * n + 10) f fd ["_law_phrase", "_law_at", "_law_guard", "_law_table", "_law_caught", "_law_marks"] (spF K 6 (Fn (n + 1) .f_law_item)) :=
  fun_ok (k := 8 * n + 9) (keep := false) (b := b_law_item (Fn n)) F sc_law_item fun cdv A outer s H E hr =>
      (ssCons (sIfF (fTC (Ow.knotin (K := K)) of_rIn (fIx (fVar 0) fInt) (fTup (aConsF fStr (aConsF fStr (aConsF fStr aNilF))))) (ssCons (sDPutF (hu_of hr) (fVar 3) (fVar 1) (fLst aNilF))
      (ssCons (sDPutF (hu_of hr) (fVar 4) (fVar 1) (fVar 2))
      (ssOne (sRetF (fLst (aConsF fBl (aConsF (fLst (aConsF (fVar 1) aNilF)) (aConsF (fLst (aConsF (fVar 1) aNilF)) (aConsF (fBin opAdd ofAdd (fVar 1) fInt) aNilF))))))))) ssNil)
      (ssCons (sIfF (fTC (Ow.keqd (K := K) hr.units) of_eqD (fIx (fVar 0) fInt) fStr) (ssCons (sSetF sc_law_item.nd (fBin op_sub ofSub (fUn un_neg ofNeg fInt) (fB (Ow.klen (K := K)) of_len T.z_len (aConsF (fVar 5) aNilF))))
      (ssCons (sDPutF (hu_of hr) (fVar 3) (fVar 6) (fLst aNilF))
      (ssCons (sExF (fAppend (fVar 5) (aConsF (fLst aNilF) aNilF)))
      (ssCons (sSetF sc_law_item.nd (fCall L.g__law_row_tokens (hr.mono (by omega)) takesE (aConsF (fIx (fVar 0) fInt) (aConsF (fVar 1) (aConsF (fVar 6) (aConsF (fVar 3) (aConsF (fVar 4) (aConsF (fVar 5) aNilF))))))))
      (ssCons (sSetF sc_law_item.nd (fCall L.g__law_row_tokens (hr.mono (by omega)) takesE (aConsF (fIx (fVar 0) fInt) (aConsF (fIx (fVar 7) fInt) (aConsF (fVar 2) (aConsF (fVar 3) (aConsF (fVar 4) (aConsF (fVar 5) aNilF))))))))
      (ssCons (sExF (fCall L.g__law_add (hr.mono (by omega)) takesE (aConsF (fVar 3) (aConsF (fIx (fVar 8) fInt) (aConsF (fLst (aConsF (fVar 6) aNilF)) aNilF)))))
      (ssCons (sPutF (fVar 5) (fBin op_sub ofSub (fUn un_neg ofNeg fInt) (fVar 6)) (fBin opAdd ofAdd (fIx (fVar 8) fInt) (fBin op_rep of_rRep (fLst (aConsF (fVar 6) aNilF)) (fTy call_int1 of_int T.z_int (aConsF (fIx (fVar 8) fInt) aNilF)))))
      (ssOne (sRetF (fLst (aConsF (fIx (fVar 7) fInt) (aConsF (fIx (fVar 7) fInt) (aConsF (fBin opAdd ofAdd (fIx (fVar 7) fInt) (fLst (aConsF (fVar 6) aNilF))) (aConsF (fIx (fVar 8) fInt) aNilF)))))))))))))) ssNil)
      (ssCons (sSetF sc_law_item.nd (fCall L.g__law_row_tokens (hr.mono (by omega)) takesE (aConsF (fIx (fVar 0) fInt) (aConsF (fVar 1) (aConsF (fVar 2) (aConsF (fVar 3) (aConsF (fVar 4) (aConsF (fVar 5) aNilF))))))))
      (ssCons (sIfF (fTC (Ow.keqd (K := K) hr.units) of_eqD (fIx (fVar 0) fInt) fStr) (ssCons (sExF (fCall L.g__law_add (hr.mono (by omega)) takesE (aConsF (fVar 3) (aConsF (fIx (fVar 7) fInt) (aConsF (fIx (fVar 7) fInt) aNilF)))))
      (ssOne (sRetF (fLst (aConsF fBl (aConsF (fIx (fVar 7) fInt) (aConsF (fIx (fVar 7) fInt) (aConsF (fIx (fVar 7) fInt) aNilF)))))))) ssNil)
      (ssCons (sSetF sc_law_item.nd (fCall L.g__law_row_tokens (hr.mono (by omega)) takesE (aConsF (fIx (fVar 0) fInt) (aConsF (fIx (fVar 7) fInt) (aConsF (fVar 2) (aConsF (fVar 3) (aConsF (fVar 4) (aConsF (fVar 5) aNilF))))))))
      (ssOne (sRetF (fLst (aConsF ((fOr (fIx (fVar 7) fInt) (fOne (fIx (fVar 8) fInt)))) (aConsF (fBin opAdd ofAdd (fIx (fVar 7) fInt) (fIx (fVar 8) fInt)) (aConsF (fBin opAdd ofAdd (fIx (fVar 7) fInt) (fIx (fVar 8) fInt)) (aConsF (fIx (fVar 8) fInt) aNilF))))))))))))
theorem ok__law_plain {n : Nat} {f : Addr} {fd : FuncData} (F : FunD K "_law_plain" "_law_plain" (defArgs S_law_plain) (defBody S_law_plain) (defScope S_law_plain) [] [] f fd) (T : Txt K mg) (L : Lib P w K mg base n) : FnOk P w K mg base (L2.CX P w) (8 * n + 10) f fd ["_law_table", "_law_tokens"] (spF K 2 (Fn (n + 1) .f_law_plain)) :=
  fun_ok (k := 8 * n + 9) (keep := false) (b := b_law_plain (Fn n)) F sc_law_plain fun cdv A outer s H E hr =>
      (ssCons (sSetF sc_law_plain.nd (fLst aNilF))
      (ssCons (sForF (passes_of rfl) (iSeqF (fVar 1)) (gNF sc_law_plain.nd) (ssOne (sIfF (fTC op_lt ofLt (fVar 3) fInt) (ssOne (sSetF sc_law_plain.nd (fBin opAdd ofAdd (fVar 2) (fCall L.g__law_plain (hr.mono (by omega)) takesE (aConsF (fVar 0) (aConsF (fDGet (hu_of hr) (fVar 0) (fVar 3)) aNilF)))))) (ssOne (sExF (fAppend (fVar 2) (aConsF (fVar 3) aNilF)))))) (nox_gN _))
      (ssOne (sRetF (fSortSetL T.z_sorted T.z_set (aConsF (fVar 2) aNilF))))))
theorem ok__law_web {n : Nat} {f : Addr} {fd : FuncData} (F : FunD K "_law_web" "_law_web" (defArgs S_law_web) (defBody S_law_web) (defScope S_law_web) [] [] f fd) (T : Txt K mg) (L : Lib P w K mg base n) : FnOk P w K mg base (L2.CX P w) (8 * n + 10) f fd ["_law_rows_here"] (spF K 1 (Fn (n + 1) .f_law_web)) :=
  fun_ok (k := 8 * n + 9) (keep := false) (b := b_law_web (Fn n)) F sc_law_web fun cdv A outer s H E hr =>
      (ssCons (sSetF sc_law_web.nd fDNew)
      (ssCons (sSetF sc_law_web.nd fDNew)
      (ssCons (sSetF sc_law_web.nd (fLst aNilF))
      (ssCons (sSetF sc_law_web.nd (fCall L.g__law_row_tokens (hr.mono (by omega)) takesE (aConsF (fVar 0) (aConsF fInt (aConsF fInt (aConsF (fVar 1) (aConsF (fVar 2) (aConsF (fVar 3) aNilF))))))))
      (ssCons (sSetF sc_law_web.nd (fIx (fVar 4) fInt))
      (ssCons (sExF (fCall L.g__law_add (hr.mono (by omega)) takesE (aConsF (fVar 1) (aConsF (fIx (fVar 4) fInt) (aConsF (fLst (aConsF (fVar 5) aNilF)) aNilF)))))
      (ssCons (sSetF sc_law_web.nd (fCall L.g__law_plain (hr.mono (by omega)) takesE (aConsF (fVar 1) (aConsF (fBin opAdd ofAdd (fIx (fVar 4) fInt) (fBin op_rep of_rRep (fLst (aConsF (fVar 5) aNilF)) (fTy call_int1 of_int T.z_int (aConsF (fIx (fVar 4) fInt) aNilF)))) aNilF))))
      (ssCons (sSetF sc_law_web.nd (fLst aNilF))
      (ssCons (sSetF sc_law_web.nd (fLst aNilF))
      (ssCons (sSetF sc_law_web.nd (fCall L.g__law_listed (hr.mono (by omega)) takesE (aConsF (fVar 0) aNilF)))
      (ssCons (sForF (passes_of rfl) (iRng1F T.z_range (aConsF (fVar 5) aNilF)) (gNF sc_law_web.nd) (ssCons (sExF (fAppend (fVar 7) (aConsF (fCall L.g__law_plain (hr.mono (by omega)) takesE (aConsF (fVar 1) (aConsF (fDGet (hu_of hr) (fVar 1) (fVar 10)) aNilF))) aNilF)))
      (ssCons (sIfF (fTC (kinDp (hu65 hr)) of_inDp (fIx (fVar 9) (fVar 10)) (fTup (aConsF (fTup (aConsF fStr aNilF)) (aConsF (fTup (aConsF fStr aNilF)) aNilF)))) (ssOne (sPutF (fVar 7) (fVar 10) (fLst aNilF))) ssNil)
      (ssOne (sIfF (fTC (Ow.keqd (K := K) hr.units) of_eqD (fDGet (hu_of hr) (fVar 2) (fVar 10)) fInt) (ssOne (sExF (fAppend (fVar 8) (aConsF (fLst aNilF) aNilF)))) (ssOne (sExF (fAppend (fVar 8) (aConsF (fCall L.g__law_plain (hr.mono (by omega)) takesE (aConsF (fVar 1) (aConsF (fIx (fVar 3) (fBin op_sub ofSub (fUn un_neg ofNeg fInt) (fDGet (hu_of hr) (fVar 2) (fVar 10)))) aNilF))) aNilF)))))))) (nox_gN _))
      (ssOne (sRetF (fLst (aConsF (fVar 6) (aConsF (fVar 7) (aConsF (fVar 8) aNilF)))))))))))))))))
theorem ok__law_wrapped {n : Nat} {f : Addr} {fd : FuncData} (F : FunD K "_law_wrapped" "_law_wrapped" (defArgs S_law_wrapped) (defBody S_law_wrapped) (defScope S_law_wrapped) [] [] f fd) (T : Txt K mg) (L : Lib P w K mg base n) : FnOk P w K mg base (L2.CX P w) (8 * n + 10) f fd ["_law_state", "_law_rows_here"] (spF K 2 (Fn (n + 1) .f_law_wrapped)) :=
  fun_ok (k := 8 * n + 9) (keep := false) (b := b_law_wrapped (Fn n)) F sc_law_wrapped fun cdv A outer s H E hr =>
      (ssCons (sSetF sc_law_wrapped.nd (fCall L.g__law_draw (hr.mono (by omega)) takesE (aConsF (fVar 0) (aConsF fInt aNilF))))
      (ssCons (sSetF sc_law_wrapped.nd (fCall L.g__law_rows (hr.mono (by omega)) takesE (aConsF (fVar 0) (aConsF fInt aNilF))))
      (ssCons (sIfF (fTC (Ow.keqd (K := K) hr.units) of_eqD (fVar 2) fInt) (ssOne (sRetF (fTup (aConsF (fTup (aConsF fStr (aConsF (fVar 1) (aConsF (fVar 3) aNilF)))) aNilF)))) ssNil)
      (ssCons (sIfF (fTC (Ow.keqd (K := K) hr.units) of_eqD (fVar 2) fInt) (ssOne (sRetF (fTup (aConsF (fTup (aConsF fStr (aConsF (fTup (aConsF (fTup (aConsF fStr (aConsF (fVar 1) (aConsF (fVar 3) aNilF)))) aNilF)) aNilF))) aNilF)))) ssNil)
      (ssCons (sIfF (fTC (Ow.keqd (K := K) hr.units) of_eqD (fVar 2) fInt) (ssOne (sRetF (fTup (aConsF (fTup (aConsF fStr (aConsF (fVar 3) (aConsF (fVar 1) aNilF)))) (aConsF (fCall L.g__law_simple (hr.mono (by omega)) takesE (aConsF (fVar 0) aNilF)) aNilF))))) ssNil)
      (ssOne (sRetF (fVar 1))))))))
theorem ok_law {n : Nat} {f : Addr} {fd : FuncData} (F : FunD K "law" "law" (defArgs Slaw) (defBody Slaw) (defScope Slaw) [] [] f fd) (T : Txt K mg) (L : Lib P w K mg base n) : FnOk P w K mg base (L2.CX P w) (8 * n + 10) f fd ["_law_script"] (spF K 1 (Fn (n + 1) .flaw)) :=
  fun_ok (k := 8 * n + 9) (keep := false) (b := blaw (Fn n)) F sclaw fun cdv A outer s H E hr =>
      (ssCons (sSetF sclaw.nd (fCall L.g__law_start (hr.mono (by omega)) takesE (aConsF (fVar 0) aNilF)))
      (ssCons (sForF (passes_of rfl) (iRng1F T.z_range (aConsF fInt aNilF)) (gNF sclaw.nd) (ssCons (sSetF sclaw.nd (fCall L.g__law_wrapped (hr.mono (by omega)) takesE (aConsF (fVar 1) (aConsF (fBin opAdd ofAdd (fCall L.g__law_rows (hr.mono (by omega)) takesE (aConsF (fVar 1) (aConsF fInt aNilF))) (fCall L.g__law_rows (hr.mono (by omega)) takesE (aConsF (fVar 1) (aConsF fInt aNilF)))) aNilF))))
      (ssCons (sSetF sclaw.nd (fIx (fCall L.g__law_web (hr.mono (by omega)) takesE (aConsF (fVar 3) aNilF)) fInt))
      (ssCons (sSetLc (i := 5) (own := [("_law_place", 6)]) sclaw.nd (sw_true rfl rfl rfl (by decide +kernel)) (iRng1F T.z_range (aConsF (fB (Ow.klen (K := K)) of_len T.z_len (aConsF (fVar 4) aNilF)) aNilF)) (blkOk_by (own := [("_law_place", 6)]) (N := ["_law_script", "_law_state", "_law_turn", "_law_rows_here", "_law_landing", "_law_told", "_law_place", "_law_one"]) (sc := defScope Slaw) (by decide +kernel)) (fun _ _ _ _ _ => by exact pg_name (i := 6) sclaw.nd rfl (Or.inl rfl)) (tgN (i := 6) (by decide)) (fun _ _ _ _ _ => by exact tsNil) (fun _ _ _ _ _ => by exact (fCall L.g_catchers (hr.mono (by omega)) takes0' (aConsF (fVar 3) (aConsF (fVar 6) aNilF)))) (nox_gN _))
      (ssOne (sIfF (PW.pt (wOr (fTC (Ow.kned (K := K) hr.units) of_neD (fVar 5) (fLc (own := [("_law_one", 7)]) sclaw.nd (iSeqF (fVar 4)) (blkOk_by (own := [("_law_one", 7)]) (N := ["_law_script", "_law_state", "_law_turn", "_law_rows_here", "_law_landing", "_law_told", "_law_place", "_law_one"]) (sc := defScope Slaw) (by decide +kernel)) (fun _ _ _ _ _ => by exact pg_name (i := 7) sclaw.nd rfl (Or.inl rfl)) (tgN (i := 7) (by decide)) (fun _ _ _ _ _ => by exact tsNil) (fun _ _ _ _ _ => by exact (fTy (Ow.ktuple (K := K)) of_tuple T.z_tuple (aConsF (fVar 7) aNilF))) (nox_gN _))) (wOr1 (fTC op_gt ofGt (fB (Ow.klen (K := K)) of_len T.z_len (aConsF (fLc (own := [("_law_one", 7)]) sclaw.nd (iSeqF (fVar 5)) (blkOk_by (own := [("_law_one", 7)]) (N := ["_law_script", "_law_state", "_law_turn", "_law_rows_here", "_law_landing", "_law_told", "_law_place", "_law_one"]) (sc := defScope Slaw) (by decide +kernel)) (fun _ _ _ _ _ => by exact pg_name (i := 7) sclaw.nd rfl (Or.inl rfl)) (tgN (i := 7) (by decide)) (fun _ _ _ _ _ => by exact tsOne (fNo (fTr (fB (Ow.kisi (K := K)) (of_isi (isi_ok T)) T.z_isinstance (aConsF (fVar 7) (aConsF (fC (pe_bltn (v := .ty "tuple") (by rfl) T.z_tuple (by decide +kernel) rfl) (fun _ _ _ => .ty _)) aNilF)))))) (fun _ _ _ _ _ => by exact (fVar 7)) (nox_gN _)) aNilF)) fInt)))) (ssOne (sRetF fBl)) ssNil))))) (nox_gN _))
      (ssOne (sRetF fBl))))
end
end K11

namespace K11
open PySem PySem.Spec PyProof.Rows L2 Vl

theorem t_law_draw (n : Nat) {m : Int} (h1 : 1 ≤ m) (h2 : m < 1073741824) (ns : List Int) {i : Int} (cur : Int) {c : Int} (hi : 0 ≤ i) (c0 : 0 ≤ c) (c1 : c ≤ 1000000) : ∃ r i' cur' c', 0 ≤ r ∧ r < m ∧ 0 ≤ i' ∧ 0 ≤ c' ∧ c' ≤ c + 1 ∧ Fn (n + 1) .f_law_draw [.ob 0, .int m] [stD ns i cur c] = .ok (.int r) [stD ns i' cur' c'] := by
  have m0 : 0 < m := by omega
  have p : ∀ μ, powD (.int 10) (.int 18) μ = .ok (.int 1000000000000000000) μ := fun μ => pow_ok (by decide) (by decide) (by decide) (by decide)
  by_cases big : (1000000000000000000 : Int) ≤ cur
  · refine ⟨cur % m, i, cur / m, c, Int.emod_nonneg _ (by omega), Int.emod_lt_of_pos _ m0, hi, c0, by omega, ?_⟩
    rw [d__law_draw]
    refine fun_wpS rfl (stPu _ _ _ _) ?_
    unfold b_law_draw
    refine seq_gen fun B hB => ?_
    refine if_gen fun P1 P2 h1' h2' => ?_
    simp [env0, p, decide_eq_true big]
    subst h1'
    refine seq_gen fun B2 hB2 => ?_
    simp [mod_ok m0]
    subst hB2
    refine seq_gen fun B2 hB2 => ?_
    simp [fdiv_ok m0 h2]
    subst hB2
    simp
  · have e0 := Int.emod_nonneg cur (b := 1000000007) (by decide)
    have e1 := Int.emod_lt_of_pos cur (b := 1000000007) (by decide)
    have q : ∀ μ, powD (.int (cur % 1000000007 + 69621 * (c + 1) + 48271)) (.int 17) μ = .ok (.int ((cur % 1000000007 + 69621 * (c + 1) + 48271) ^ 17)) μ := fun μ => pow_ok (by decide) (by decide) (by omega) (by omega)
    by_cases lt : i < (ns.length : Int)
    · obtain ⟨v, hv⟩ : ∃ v, ns[i.toNat]? = some v := ⟨ns[i.toNat]'(by omega), List.getElem?_eq_getElem (by omega)⟩
      have ix : ∀ μ, ixD (.lst (ns.map D.int)) (.int i) μ = .ok (.int v) μ := fun μ => ixL (at_nat hi (by rw [List.getElem?_map, hv]; rfl))
      refine ⟨((cur % 1000000007 + 69621 * (c + 1) + 48271) ^ 17 % 170141183460469231731687303715884105727) / 64 % m, i + 1, v, c + 1, Int.emod_nonneg _ (by omega), Int.emod_lt_of_pos _ m0, by omega, by omega, by omega, ?_⟩
      rw [d__law_draw]
      refine fun_wpS rfl (stPu _ _ _ _) ?_
      unfold b_law_draw
      refine seq_gen fun B hB => ?_
      simp [env0, p, decide_eq_false big]
      subst hB
      refine seq_gen fun B hB => ?_
      simp
      subst hB
      refine seq_gen fun B hB => ?_
      simp [mod_ok, mul_ok]
      subst hB
      refine seq_gen fun B hB => ?_
      simp [q, mod_ok]
      subst hB
      refine seq_gen fun B hB => ?_
      simp [lenD, lt, ix]
      subst hB
      simp [fdiv_ok, mod_ok m0]
    · refine ⟨((cur % 1000000007 + 69621 * (c + 1) + 48271) ^ 17 % 170141183460469231731687303715884105727) / 64 % m, i, cur, c + 1, Int.emod_nonneg _ (by omega), Int.emod_lt_of_pos _ m0, by omega, by omega, by omega, ?_⟩
      rw [d__law_draw]
      refine fun_wpS rfl (stPu _ _ _ _) ?_
      unfold b_law_draw
      refine seq_gen fun B hB => ?_
      simp [env0, p, decide_eq_false big]
      subst hB
      refine seq_gen fun B hB => ?_
      simp
      subst hB
      refine seq_gen fun B hB => ?_
      simp [mod_ok, mul_ok]
      subst hB
      refine seq_gen fun B hB => ?_
      simp [q, mod_ok]
      subst hB
      refine seq_gen fun B hB => ?_
      simp [lenD, lt]
      subst hB
      simp [fdiv_ok, mod_ok m0]

theorem w_draw (n : Nat) {m : Int} (h1 : 1 ≤ m) (h2 : m < 1073741824) {c : Int} {o : D} {r : Sto} {Q : D → Sto → Prop} {X : Ex → Sto → Prop} (hs : StO c o) (hc : c ≤ 1000000) (k : ∀ i o', 0 ≤ i → i < m → StO (c + 1) o' → Q (.int i) (o' :: r)) : Wp (callV 2 (Fn (n + 1) .f_law_draw) [.ob 0, .int m] (o :: r)) Q X := by
  obtain ⟨ns, i, cur, j, rfl, i0, j0, j1⟩ := hs
  obtain ⟨v, i', cur', c', v0, v1, hi, c0, c1, e⟩ := t_law_draw n h1 h2 ns cur i0 j0 (by omega)
  exact w_callS (fun d o' => ∃ v, d = .int v ∧ 0 ≤ v ∧ v < m ∧ StO (c + 1) o') ⟨_, _, ⟨v, rfl, v0, v1, ns, i', cur', c', rfl, hi, c0, by omega⟩, rfl, stPu _ _ _ _, e⟩ rfl (stPu _ _ _ _) rfl (by rintro d o' ⟨v, rfl, v0, v1, h⟩; exact k v o' v0 v1 h)
theorem t_law_start (n : Nat) {ns : List Int} (h : ns.length ≤ 63) : ∃ o, StO 0 o ∧ ∀ μ, callV 1 (Fn (n + 1) .f_law_start) [.scr ns] μ = .ok (.ob μ.length) (μ ++ [o]) := by
  have hn : ∀ μ, newL false (ns.map D.int) μ = .ok (.lst (ns.map D.int)) μ := fun μ => x_newF _ (by rw [List.length_map]; exact few (by omega))
  have e : ∃ x, b_law_start (Fn n) (env0 2 [.scr ns]) [] = .ok (.rt (.ob 0)) [stD ns 1 x 0] := by
    cases ns with
    | nil => exact ⟨0, rfl⟩
    | cons y ns =>
      refine ⟨y, ?_⟩
      have l : listD false [.scr (y :: ns)] [] = .ok (.lst ((y :: ns).map D.int)) [] := hn []
      have ix : ixD (.scr (y :: ns)) (.int 0) [] = .ok (.int y) [] := ixS (at_nat (by decide) rfl)
      have gt : (0 : Int) < ((y :: ns).length : Nat) := by simp
      unfold b_law_start
      simp only [env0, x_seq, x_bind, x_asg, x_up, x_c, x_gN, x_pure, x_sif, x_tB, x_bin, x_call, x_acons, x_var, x_anil, x_alt]
      simp [lenD, gt, ix, l]
      rfl
  obtain ⟨x, e⟩ := e
  refine ⟨_, StO.first ns x, fun μ => ?_⟩
  have f : Fn (n + 1) .f_law_start [.scr ns] [] = .ok (.ob 0) [stD ns 1 x 0] := by
    rw [d__law_start]
    unfold funF
    rw [e]
    rfl
  unfold callV
  have e1 : ([D.scr ns].length == 1) = true := rfl
  rw [e1, x_guardT]
  have e2 : mutsL [D.scr ns] = [] := rfl
  dsimp only
  rw [e2, reach_nil, PuL.map (ds := [D.scr ns]) rfl]
  dsimp only [getAll, Option.bind_some, mapMuts]
  rw [f]
  dsimp only
  have e3 : mapMut (backN [] μ.length) (.ob 0) = some (.ob μ.length) := rfl
  have e4 : mapMuts (backN [] μ.length) [stD ns 1 x 0] = some [stD ns 1 x 0] := PuL.map (puL1 (stPu _ _ _ _)) _
  rw [e3, e4]
  dsimp only
  rw [wb_nil]
  rfl
end K11

namespace K11
open PySem PySem.Spec PyProof.Rows L2 Vl

theorem eqI (n m : Int) (μ : Sto) : bE eqD false (.int n) (.int m) μ = .ok (.bl (decide (n = m))) μ := by
  simp [bE, eqD_int]
inductive IsPart : D → Prop
  | heap : IsPart (.str (Str.ofString "heap"))
  | safe : IsPart (.str (Str.ofString "safe"))
  | aa : IsPart (.str (Str.ofString "aa"))
inductive IsName : D → Prop
  | main : IsName (.str (Str.ofString "main"))
  | f : IsName (.str (Str.ofString "f"))
  | g : IsName (.str (Str.ofString "g_1"))
inductive IsWord : D → Prop
  | none : IsWord (.str (Str.ofString "none"))
  | here : IsWord (.str (Str.ofString "here"))
  | frames : IsWord (.str (Str.ofString "frames"))
  | all : IsWord (.str (Str.ofString "all"))
def IsKey (d : D) : Prop := ∃ k : Int, d = .int k ∧ 0 ≤ k ∧ k < 3
theorem IsPart.pl {d : D} (h : IsPart d) (n : Nat) : Pl n d := by cases h <;> exact .str (by decide +kernel)
theorem IsName.pl {d : D} (h : IsName d) (n : Nat) : Pl n d := by cases h <;> exact .str (by decide +kernel)
theorem IsWord.pl {d : D} (h : IsWord d) (n : Nat) : Pl n d := by cases h <;> exact .str (by decide +kernel)
theorem IsKey.pl {d : D} (h : IsKey d) (n : Nat) : Pl n d := by obtain ⟨k, rfl, _⟩ := h; exact .int k
inductive Sim : D → Prop
  | fault : Sim (.tup [.str (Str.ofString "fault")])
  | ret : Sim (.tup [.str (Str.ofString "return")])
  | call {d : D} : IsName d → Sim (.tup [.str (Str.ofString "call"), d])
  | give {p k w : D} : IsPart p → IsKey k → IsWord w → Sim (.tup [.str (Str.ofString "give"), p, k, w])
  | touch {p : D} : IsPart p → Sim (.tup [.str (Str.ofString "touch"), p])
  | strip {p : D} : IsPart p → Sim (.tup [.str (Str.ofString "strip"), p])
  | unlock {k : D} : IsKey k → Sim (.tup [.str (Str.ofString "unlock"), k])
  | lock {k : D} : IsKey k → Sim (.tup [.str (Str.ofString "lock"), k])
theorem Sim.pl {d : D} (h : Sim d) (n : Nat) : Pl (n + 1) d := by
  have s : ∀ x : String, PyData.strOk (Str.ofString x) = true → Pl n (.str (Str.ofString x)) := fun x h => .str h
  cases h with
  | fault => exact .tup (by simp only [List.mem_cons, List.not_mem_nil, or_false]; rintro x rfl; exact s _ (by decide +kernel))
  | ret => exact .tup (by simp only [List.mem_cons, List.not_mem_nil, or_false]; rintro x rfl; exact s _ (by decide +kernel))
  | call h => exact .tup (by simp only [List.mem_cons, List.not_mem_nil, or_false]; rintro x (rfl | rfl); exact s _ (by decide +kernel); exact h.pl n)
  | give a b c => exact .tup (by simp only [List.mem_cons, List.not_mem_nil, or_false]; rintro x (rfl | rfl | rfl | rfl); exact s _ (by decide +kernel); exact a.pl n; exact b.pl n; exact c.pl n)
  | touch h => exact .tup (by simp only [List.mem_cons, List.not_mem_nil, or_false]; rintro x (rfl | rfl); exact s _ (by decide +kernel); exact h.pl n)
  | strip h => exact .tup (by simp only [List.mem_cons, List.not_mem_nil, or_false]; rintro x (rfl | rfl); exact s _ (by decide +kernel); exact h.pl n)
  | unlock h => exact .tup (by simp only [List.mem_cons, List.not_mem_nil, or_false]; rintro x (rfl | rfl); exact s _ (by decide +kernel); exact h.pl n)
  | lock h => exact .tup (by simp only [List.mem_cons, List.not_mem_nil, or_false]; rintro x (rfl | rfl); exact s _ (by decide +kernel); exact h.pl n)
theorem pickPart {i : Int} (h0 : 0 ≤ i) (h1 : i < 3) : ∃ d, IsPart d ∧ ∀ μ, ixD (.lst [.str (Str.ofString "heap"), .str (Str.ofString "safe"), .str (Str.ofString "aa")]) (.int i) μ = .ok d μ := by
  obtain ⟨d, hd, e⟩ := ix_pick (xs := [.str (Str.ofString "heap"), .str (Str.ofString "safe"), .str (Str.ofString "aa")]) h0 h1
  simp only [List.mem_cons, List.not_mem_nil, or_false] at hd
  rcases hd with rfl | rfl | rfl
  · exact ⟨_, .heap, e⟩
  · exact ⟨_, .safe, e⟩
  · exact ⟨_, .aa, e⟩
theorem pickName {i : Int} (h0 : 0 ≤ i) (h1 : i < 3) : ∃ d, IsName d ∧ ∀ μ, ixD (.lst [.str (Str.ofString "main"), .str (Str.ofString "f"), .str (Str.ofString "g_1")]) (.int i) μ = .ok d μ := by
  obtain ⟨d, hd, e⟩ := ix_pick (xs := [.str (Str.ofString "main"), .str (Str.ofString "f"), .str (Str.ofString "g_1")]) h0 h1
  simp only [List.mem_cons, List.not_mem_nil, or_false] at hd
  rcases hd with rfl | rfl | rfl
  · exact ⟨_, .main, e⟩
  · exact ⟨_, .f, e⟩
  · exact ⟨_, .g, e⟩
theorem pickWord {i : Int} (h0 : 0 ≤ i) (h1 : i < 4) : ∃ d, IsWord d ∧ ∀ μ, ixD (.lst [.str (Str.ofString "none"), .str (Str.ofString "here"), .str (Str.ofString "frames"), .str (Str.ofString "all")]) (.int i) μ = .ok d μ := by
  obtain ⟨d, hd, e⟩ := ix_pick (xs := [.str (Str.ofString "none"), .str (Str.ofString "here"), .str (Str.ofString "frames"), .str (Str.ofString "all")]) h0 h1
  simp only [List.mem_cons, List.not_mem_nil, or_false] at hd
  rcases hd with rfl | rfl | rfl | rfl
  · exact ⟨_, .none, e⟩
  · exact ⟨_, .here, e⟩
  · exact ⟨_, .frames, e⟩
  · exact ⟨_, .all, e⟩

theorem t_law_simple (n : Nat) : Drw (Fn (n + 2) .f_law_simple) [] 5 Sim := by
  rw [d__law_simple]
  refine drw_of fun c o hs hc => ?_
  unfold b_law_simple
  refine seq_gen fun B hB => ?_
  simp [env0]
  refine w_draw n (by decide) (by decide) hs (by omega) fun kd o1 k0 k1 s1 => ?_
  try simp
  subst hB
  refine seq_gen fun B hB => ?_
  simp
  refine w_draw n (by decide) (by decide) s1 (by omega) fun i1 o2 i10 i11 s2 => ?_
  obtain ⟨p, hp, e1⟩ := pickPart i10 i11
  simp [e1]
  subst hB
  refine seq_gen fun B hB => ?_
  simp
  refine w_draw n (by decide) (by decide) s2 (by omega) fun ky o3 y0 y1 s3 => ?_
  try simp
  subst hB
  refine seq_gen fun B hB => ?_
  simp
  refine w_draw n (by decide) (by decide) s3 (by omega) fun i2 o4 i20 i21 s4 => ?_
  obtain ⟨f, hf, e2⟩ := pickName i20 i21
  simp [e2]
  subst hB
  have hk : IsKey (.int ky) := ⟨ky, rfl, y0, y1⟩
  have fin : ∀ {d : D}, Sim d → OutD Sim (c + 5) (.rt d) [o4] := fun h => .rt h (h.pl 0).pu s4 (by omega)
  refine seq_gen fun B hB => ?_
  have ck : kd < 2 ∨ (2 ≤ kd ∧ kd < 4) ∨ kd = 4 ∨ (5 ≤ kd ∧ kd < 7) ∨ 7 ≤ kd := by omega
  rcases ck with c2 | c4 | c5 | c7 | c8
  · obtain ⟨d, hd, e⟩ := ix_pick (xs := [.tup [.str (Str.ofString "fault")], .tup [.str (Str.ofString "return")]]) k0 c2
    simp [c2, e]
    simp only [List.mem_cons, List.not_mem_nil, or_false] at hd
    rcases hd with rfl | rfl
    · exact fin .fault
    · exact fin .ret
  · simp [show ¬ kd < 2 by omega]
    subst hB
    refine seq_gen fun B hB => ?_
    simp [c4.2]
    exact fin (.call hf)
  · subst c5
    simp
    subst hB
    refine seq_gen fun B hB => ?_
    simp
    subst hB
    refine seq_gen fun B hB => ?_
    simp [eqI]
    refine w_draw n (by decide) (by decide) s4 (by omega) fun i3 o5 i30 i31 s5 => ?_
    obtain ⟨w, hw, e3⟩ := pickWord i30 i31
    simp [e3]
    exact .rt (.give hp hk hw) ((Sim.give hp hk hw).pl 0).pu s5 (by omega)
  · simp [show ¬ kd < 2 by omega]
    subst hB
    refine seq_gen fun B hB => ?_
    simp [show ¬ kd < 4 by omega]
    subst hB
    refine seq_gen fun B hB => ?_
    simp [eqI, show ¬ kd = 4 by omega]
    subst hB
    refine seq_gen fun B hB => ?_
    obtain ⟨d, hd, e⟩ := ix_pick (xs := [.tup [.str (Str.ofString "touch"), p], .tup [.str (Str.ofString "strip"), p]]) (i := kd - 5) (by omega) (by simp; omega)
    simp [c7.2, e]
    simp only [List.mem_cons, List.not_mem_nil, or_false] at hd
    rcases hd with rfl | rfl
    · exact fin (.touch hp)
    · exact fin (.strip hp)
  · simp [show ¬ kd < 2 by omega]
    subst hB
    refine seq_gen fun B hB => ?_
    simp [show ¬ kd < 4 by omega]
    subst hB
    refine seq_gen fun B hB => ?_
    simp [eqI, show ¬ kd = 4 by omega]
    subst hB
    refine seq_gen fun B hB => ?_
    simp [show ¬ kd < 7 by omega]
    subst hB
    obtain ⟨d, hd, e⟩ := ix_pick (xs := [.tup [.str (Str.ofString "unlock"), .int ky], .tup [.str (Str.ofString "lock"), .int ky], .tup [.str (Str.ofString "unlock"), .int ky]]) (i := kd - 7) (by omega) (by simp; omega)
    simp [e]
    simp only [List.mem_cons, List.not_mem_nil, or_false] at hd
    rcases hd with rfl | rfl | rfl
    · exact fin (.unlock hk)
    · exact fin (.lock hk)
    · exact fin (.unlock hk)

/-- a block's word and its number of rows -/
inductive Blk : Str → Nat → Prop
  | either : Blk (Str.ofString "either") 2
  | rep : Blk (Str.ofString "repeat") 1
  | guard : Blk (Str.ofString "guard") 2
/-- a statement and its loose form -/
def LoS (R : D → D → Prop) (x x' : D) : Prop := (Sim x ∧ x' = x) ∨ ∃ w k rs rs', Blk w k ∧ rs.length = k ∧ x = .tup (.str w :: rs) ∧ x' = .tup (.str w :: rs') ∧ Paired R rs rs'
/-- rows, blocks of at most so many levels, and their loose form -/
def LoB : Nat → D → D → Prop
  | 0 => fun _ _ => False
  | n + 1 => fun d d' => ∃ xs xs', d = .tup xs ∧ (d' = .tup xs' ∨ d' = .lst xs') ∧ xs.length ≤ 3 ∧ Paired (LoS (LoB n)) xs xs'
theorem Paired.diag {α : Type} {F : α → α → Prop} : ∀ {xs : List α}, (∀ x ∈ xs, F x x) → Paired F xs xs
  | [], _ => .nil
  | x :: xs, h => .cons (h x List.mem_cons_self) (Paired.diag fun y hy => h y (List.mem_cons_of_mem _ hy))
theorem Paired.left {α β : Type} {F : α → β → Prop} {P : α → Prop} (h : ∀ x y, F x y → P x) : ∀ {xs : List α} {ys : List β}, Paired F xs ys → ∀ x ∈ xs, P x
  | _, _, .nil, x, hx => by cases hx
  | _, _, .cons a t, x, hx => by
    rcases List.mem_cons.mp hx with rfl | hx
    · exact h _ _ a
    · exact Paired.left h t x hx
theorem Paired.right {α β : Type} {F : α → β → Prop} {P : β → Prop} (h : ∀ x y, F x y → P y) : ∀ {xs : List α} {ys : List β}, Paired F xs ys → ∀ x ∈ ys, P x
  | _, _, .nil, x, hx => by cases hx
  | _, _, .cons a t, x, hx => by
    rcases List.mem_cons.mp hx with rfl | hx
    · exact h _ _ a
    · exact Paired.right h t x hx
theorem Blk.ok {w : Str} {k : Nat} (h : Blk w k) : PyData.strOk w = true := by cases h <;> decide +kernel
theorem LoB.pl : ∀ (n : Nat) {d d' : D}, LoB n d d' → Pl (2 * n) d ∧ Pl (2 * n) d'
  | 0, _, _, h => h.elim
  | n + 1, d, d', h => by
    obtain ⟨xs, xs', rfl, hd', hl, hp⟩ := h
    have st : ∀ x x', LoS (LoB n) x x' → Pl (2 * n + 1) x ∧ Pl (2 * n + 1) x' := fun x x' h => by
      rcases h with ⟨h, rfl⟩ | ⟨w, k, rs, rs', hw, hl, rfl, rfl, hr⟩
      · exact ⟨h.pl _, h.pl _⟩
      · refine ⟨.tup fun y hy => ?_, .tup fun y hy => ?_⟩
        · rcases List.mem_cons.mp hy with rfl | hy
          · exact .str hw.ok
          · exact Paired.left (P := Pl (2 * n)) (fun a b h => (LoB.pl n h).1) hr y hy
        · rcases List.mem_cons.mp hy with rfl | hy
          · exact .str hw.ok
          · exact Paired.right (P := Pl (2 * n)) (fun a b h => (LoB.pl n h).2) hr y hy
    have h1 : ∀ x ∈ xs, Pl (2 * n + 1) x := Paired.left (fun a b h => (st a b h).1) hp
    have h2 : ∀ x ∈ xs', Pl (2 * n + 1) x := Paired.right (fun a b h => (st a b h).2) hp
    rw [show 2 * (n + 1) = 2 * n + 1 + 1 by omega]
    refine ⟨.tup h1, ?_⟩
    rcases hd' with rfl | rfl
    · exact .tup h2
    · exact .lst h2
theorem tuple_ob {k : Nat} {ys : List D} {μ : Sto} (h : μ[k]? = some (.lst ys)) : tupleD [.ob k] μ = .ok (.tup ys) μ := by
  show (match look μ (.ob k) with | .lst ys => M.pure (D.tup ys) | _ => M.fail) μ = _
  rw [x_look_ob, h]
  rfl
def stepK : Nat → Int
  | 0 => 6
  | m + 1 => 1 + 2 * (2 + 3 * stepK m)
def rowsK (m : Nat) : Int := 2 + 3 * stepK m
theorem stepK_pos : ∀ m, 6 ≤ stepK m
  | 0 => by decide
  | m + 1 => by have := stepK_pos m; unfold stepK; omega
theorem mulK {a : Int} {j : Nat} (h : 0 ≤ a) (hj : j ≤ 3) : a * (j : Int) ≤ a * 3 := Int.mul_le_mul_of_nonneg_left (by omega) h
theorem LoB.diag {n : Nat} {acc : List D} (hl : acc.length ≤ 3) (h : ∀ d ∈ acc, LoS (LoB n) d d) : LoB (n + 1) (.tup acc) (.tup acc) := ⟨acc, acc, rfl, .inl rfl, hl, Paired.diag h⟩
theorem LoS.one {R : D → D → Prop} {w : Str} {a : D} (hw : Blk w 1) (h : R a a) : LoS R (.tup [.str w, a]) (.tup [.str w, a]) := .inr ⟨w, 1, [a], [a], hw, rfl, rfl, rfl, .cons h .nil⟩
theorem LoS.two {R : D → D → Prop} {w : Str} {a b : D} (hw : Blk w 2) (h : R a a) (k : R b b) : LoS R (.tup [.str w, a, b]) (.tup [.str w, a, b]) := .inr ⟨w, 2, [a, b], [a, b], hw, rfl, rfl, rfl, .cons h (.cons k .nil)⟩
theorem app_ob1 {o : D} {ys : List D} {y : D} (l : ys.length < 1000) : appendD (.ob 1) [y] [o, .lst ys] = .ok .non [o, .lst (ys ++ [y])] := append_ob (k := 1) (μ := [o, .lst ys]) rfl l
theorem isl_ob1 {o : D} {ys : List D} : isListD (.ob 1) [o, .lst ys] = .ok () [o, .lst ys] := isList_ob (k := 1) (μ := [o, .lst ys]) rfl
theorem newL1 (o : D) : newL true [] [o] = .ok (.ob 1) [o, .lst []] := by
  unfold newL
  rw [decide_eq_true (show ([] : List D).length ≤ many from few (by decide))]
  rfl

theorem t_law_rows (n : Nat) : ∀ m : Nat, Drw (Fn (n + m + 3) .f_law_rows) [.int (m : Nat)] (rowsK m) (fun d => LoB (m + 1) d d)
  | 0 => by
    rw [show n + 0 + 3 = n + 2 + 1 from rfl, d__law_rows]
    refine drw_of fun c o hs hc => ?_
    have hK : rowsK 0 = 20 := rfl
    rw [hK] at hc ⊢
    unfold b_law_rows
    refine seq_gen fun B hB => ?_
    simp [env0, newL1]
    subst hB
    refine seq_gen fun B hB => ?_
    refine for_gen fun F hF => ?_
    simp
    refine w_draw (n + 1) (by decide) (by decide) hs (by omega) fun j o1 j0 j1 s1 => ?_
    have rg := rng1_ok (j := j) (μ := [o1, .lst []]) (by omega) (by omega)
    simp [rg]
    obtain ⟨G, hG⟩ : ∃ G : Vl.Env → Prop, ∀ Γ, G Γ ↔ ∃ z3 z4, Γ = [some (.ob 0), some (.int 0), some (.ob 1), z3, z4] := ⟨_, fun _ => Iff.rfl⟩
    refine w_forApp 6 (fun d => LoS (LoB 0) d d) G s1 ((hG _).mpr ⟨_, _, rfl⟩) ?_ ?_
    · intro i x Γ o acc hx h so ha
      obtain ⟨z3, z4, rfl⟩ := (hG _).mp h
      obtain ⟨rfl, hi⟩ := rng_at hx
      rw [w_up, x_gN, w_ok]
      subst hF
      refine seq_gen fun B1 hB1 => ?_
      simp
      refine w_draw (n + 1) (by decide) (by decide) so (by omega) fun kd o2 k0 k1 s2 => ?_
      try simp
      subst hB1
      simp [eqI, isl_ob1]
      cases decide (kd < 5) <;> simp
      · refine w_drw (t_law_simple n) s2 (by omega) rfl rfl fun d o3 hd pd s3 => ?_
        rw [app_ob1 (by omega), w_ok]
        exact .mk (.inl ⟨hd, rfl⟩) ((hG _).mpr ⟨_, _, rfl⟩) s3 (by omega)
      · refine w_drw (t_law_simple n) s2 (by omega) rfl rfl fun d o3 hd pd s3 => ?_
        rw [app_ob1 (by omega), w_ok]
        exact .mk (.inl ⟨hd, rfl⟩) ((hG _).mpr ⟨_, _, rfl⟩) s3 (by omega)
    · intro Γ o acc h so ha hp
      obtain ⟨z3, z4, rfl⟩ := (hG _).mp h
      rw [rng_len] at so ha
      rw [nx_nx]
      subst hB
      have tp : tupleD [.ob 1] [o, .lst acc] = .ok (.tup acc) [o, .lst acc] := tuple_ob rfl
      simp [tp]
      have lb : LoB 1 (.tup acc) (.tup acc) := LoB.diag (by omega) hp
      exact .rt lb (LoB.pl 1 lb).1.pu so (by omega)
  | m + 1 => by
    have ih := t_law_rows n m
    rw [show n + (m + 1) + 3 = n + m + 3 + 1 from rfl, d__law_rows]
    refine drw_of fun c o hs hc => ?_
    have hK : rowsK (m + 1) = 2 + 3 * (1 + 2 * rowsK m) := rfl
    have hk := stepK_pos m
    have hK' : rowsK m = 2 + 3 * stepK m := rfl
    rw [hK] at hc ⊢
    unfold b_law_rows
    refine seq_gen fun B hB => ?_
    simp [env0, newL1]
    subst hB
    refine seq_gen fun B hB => ?_
    refine for_gen fun F hF => ?_
    simp
    refine w_draw (n + m + 2) (by decide) (by decide) hs (by omega) fun j o1 j0 j1 s1 => ?_
    have rg := rng1_ok (j := j) (μ := [o1, .lst []]) (by omega) (by omega)
    simp [rg]
    obtain ⟨G, hG⟩ : ∃ G : Vl.Env → Prop, ∀ Γ, G Γ ↔ ∃ z3 z4, Γ = [some (.ob 0), some (.int ((m : Int) + 1)), some (.ob 1), z3, z4] := ⟨_, fun _ => Iff.rfl⟩
    have jj : j.toNat ≤ 3 := by omega
    have mk := mulK (a := 1 + 2 * rowsK m) (by omega) jj
    refine w_forApp (1 + 2 * rowsK m) (fun d => LoS (LoB (m + 1)) d d) G s1 ((hG _).mpr ⟨_, _, rfl⟩) ?_ ?_
    · intro i x Γ o acc hx h so ha
      obtain ⟨z3, z4, rfl⟩ := (hG _).mp h
      obtain ⟨rfl, hi⟩ := rng_at hx
      have mi := mulK (a := 1 + 2 * rowsK m) (j := i) (by omega) (by omega)
      have mi2 : (1 + 2 * rowsK m) * (i : Int) ≤ (1 + 2 * rowsK m) * 2 := Int.mul_le_mul_of_nonneg_left (by omega) (by omega)
      generalize (1 + 2 * rowsK m) * (i : Int) = ck at so mi mi2 ⊢
      rw [w_up, x_gN, w_ok]
      subst hF
      refine seq_gen fun B1 hB1 => ?_
      simp
      refine w_draw (n + m + 2) (by decide) (by decide) so (by omega) fun kd o2 k0 k1 s2 => ?_
      try simp
      subst hB1
      have e0 : ¬ ((m : Int) + 1 = 0) := by omega
      have sub1 : (m : Int) + 1 - 1 = m := by omega
      simp [eqI, isl_ob1, e0]
      have ck3 : kd < 5 ∨ kd = 5 ∨ kd = 6 ∨ kd = 7 := by omega
      rcases ck3 with c5 | rfl | rfl | rfl
      · simp [c5]
        refine w_drw (t_law_simple (n + m + 1)) s2 (by omega) rfl rfl fun d o3 hd pd s3 => ?_
        rw [app_ob1 (by omega), w_ok]
        exact .mk (.inl ⟨hd, rfl⟩) ((hG _).mpr ⟨_, _, rfl⟩) s3 (by omega)
      · simp
        refine w_drw ih s2 (by omega) rfl rfl fun d o3 hd pd s3 => ?_
        refine w_drw ih s3 (by omega) rfl rfl fun d' o4 hd' pd' s4 => ?_
        try simp
        rw [app_ob1 (by omega), w_ok]
        exact .mk (LoS.two .either hd hd') ((hG _).mpr ⟨_, _, rfl⟩) s4 (by omega)
      · simp
        refine w_drw ih s2 (by omega) rfl rfl fun d o3 hd pd s3 => ?_
        try simp
        rw [app_ob1 (by omega), w_ok]
        exact .mk (LoS.one .rep hd) ((hG _).mpr ⟨_, _, rfl⟩) s3 (by omega)
      · simp
        refine w_drw ih s2 (by omega) rfl rfl fun d o3 hd pd s3 => ?_
        refine w_drw ih s3 (by omega) rfl rfl fun d' o4 hd' pd' s4 => ?_
        try simp
        rw [app_ob1 (by omega), w_ok]
        exact .mk (LoS.two .guard hd hd') ((hG _).mpr ⟨_, _, rfl⟩) s4 (by omega)
    · intro Γ o acc h so ha hp
      obtain ⟨z3, z4, rfl⟩ := (hG _).mp h
      rw [rng_len] at so ha
      rw [nx_nx]
      subst hB
      have tp : tupleD [.ob 1] [o, .lst acc] = .ok (.tup acc) [o, .lst acc] := tuple_ob rfl
      simp [tp]
      have lb : LoB (m + 2) (.tup acc) (.tup acc) := LoB.diag (by omega) hp
      exact .rt lb (LoB.pl (m + 2) lb).1.pu so (by omega)
end K11

/-! bodies as trees: places, firsts, what follows, by the law's tokens and by the program's way -/
namespace Pl
inductive Sx (α : Type) where
  | sim (x : α)
  | eit (a b : List (Sx α))
  | rep (a : List (Sx α))
  | grd (a b : List (Sx α))
variable {α : Type}
mutual
def sz : Sx α → Nat
  | .sim _ => 1
  | .eit a b => szs a + szs b
  | .rep a => szs a
  | .grd a b => szs a + szs b
def szs : List (Sx α) → Nat
  | [] => 0
  | s :: r => sz s + szs r
end
mutual
def flt : Sx α → List α
  | .sim x => [x]
  | .eit a b => flts a ++ flts b
  | .rep a => flts a
  | .grd a b => flts a ++ flts b
def flts : List (Sx α) → List α
  | [] => []
  | s :: r => flt s ++ flts r
end
mutual
def nul : Sx α → Bool
  | .sim _ => false
  | .eit a b => nuls a || nuls b
  | .rep _ => true
  | .grd a _ => nuls a
def nuls : List (Sx α) → Bool
  | [] => true
  | s :: r => nul s && nuls r
end
mutual
def fst : Sx α → Int → List Int
  | .sim _, at_ => [at_]
  | .eit a b, at_ => fsts a at_ ++ fsts b (at_ + szs a)
  | .rep a, at_ => fsts a at_
  | .grd a _, at_ => fsts a at_
def fsts : List (Sx α) → Int → List Int
  | [], _ => []
  | s :: r, at_ => fst s at_ ++ if nul s then fsts r (at_ + sz s) else []
end
mutual
/-- guards in it -/
def gd : Sx α → Nat
  | .sim _ => 0
  | .eit a b => gds a + gds b
  | .rep a => gds a
  | .grd a b => 1 + gds a + gds b
def gds : List (Sx α) → Nat
  | [] => 0
  | s :: r => gd s + gds r
end
abbrev sgn (k : Nat) : Int := -1 - (k : Int)
mutual
/-- last tokens -/
def lst : Sx α → Int → Nat → List Int
  | .sim _, at_, _ => [at_]
  | .eit a b, at_, k => lsts a at_ k ++ lsts b (at_ + szs a) (k + gds a)
  | .rep a, at_, k => lsts a at_ k
  | .grd a _, at_, k => lsts a at_ (k + 1) ++ [sgn k]
def lsts : List (Sx α) → Int → Nat → List Int
  | [], _, _ => []
  | s :: r, at_, k => (if nuls r then lst s at_ k else []) ++ lsts r (at_ + sz s) (k + gd s)
end
/-- what follows rows, then Z -/
def aft (r : List (Sx α)) (at_ : Int) (Z : List Int) : List Int := fsts r at_ ++ if nuls r then Z else []
mutual
/-- the law's table: token, what follows; Z: what the context adds behind the lasts -/
def tf : Sx α → Int → Nat → List Int → List (Int × List Int)
  | .sim _, at_, _, Z => [(at_, Z)]
  | .eit a b, at_, k, Z => tfs a at_ k Z ++ tfs b (at_ + szs a) (k + gds a) Z
  | .rep a, at_, k, Z => tfs a at_ k (fsts a at_ ++ Z)
  | .grd a b, at_, k, Z => (sgn k, Z) :: (tfs a at_ (k + 1) Z ++ tfs b (at_ + szs a) (k + 1 + gds a) [sgn k])
def tfs : List (Sx α) → Int → Nat → List Int → List (Int × List Int)
  | [], _, _, _ => []
  | s :: r, at_, k, Z => tf s at_ k (aft r (at_ + sz s) Z) ++ tfs r (at_ + sz s) (k + gd s) Z
end
/-- a place: its tokens, statement, followers, guard, catchers -/
structure En (α : Type) where
  at_ : Int
  Z : List Int
  x : α
  A : List Int
  g : Int
  C : List Int
mutual
def en : Sx α → Int → Nat → List Int → List Int → Int → List Int → List (En α)
  | .sim x, at_, _, Z, A, g, C => [⟨at_, Z, x, A, g, C⟩]
  | .eit a b, at_, k, Z, A, g, C => ens a at_ k Z A g C ++ ens b (at_ + szs a) (k + gds a) Z A g C
  | .rep a, at_, k, Z, A, g, C => ens a at_ k (fsts a at_ ++ Z) (fsts a at_ ++ A) g C
  | .grd a b, at_, k, Z, A, g, C => ens a at_ (k + 1) Z A (sgn k) (aft b (at_ + szs a) A) ++ ens b (at_ + szs a) (k + 1 + gds a) [sgn k] A g C
def ens : List (Sx α) → Int → Nat → List Int → List Int → Int → List Int → List (En α)
  | [], _, _, _, _, _, _ => []
  | s :: r, at_, k, Z, A, g, C => en s at_ k (aft r (at_ + sz s) Z) (aft r (at_ + sz s) A) g C ++ ens r (at_ + sz s) (k + gd s) Z A g C
end
mutual
/-- the guards' marks, in the order of their signs -/
def mk : Sx α → Int → Nat → List (List Int)
  | .sim _, _, _ => []
  | .eit a b, at_, k => mks a at_ k ++ mks b (at_ + szs a) (k + gds a)
  | .rep a, at_, k => mks a at_ k
  | .grd a b, at_, k => aft b (at_ + szs a) [sgn k] :: (mks a at_ (k + 1) ++ mks b (at_ + szs a) (k + 1 + gds a))
def mks : List (Sx α) → Int → Nat → List (List Int)
  | [], _, _ => []
  | s :: r, at_, k => mk s at_ k ++ mks r (at_ + sz s) (k + gd s)
end
mutual
/-- the guards of the places -/
def ct : Sx α → Nat → Int → List Int
  | .sim _, _, g => [g]
  | .eit a b, k, g => cts a k g ++ cts b (k + gds a) g
  | .rep a, k, g => cts a k g
  | .grd a b, k, g => cts a (k + 1) (sgn k) ++ cts b (k + 1 + gds a) g
def cts : List (Sx α) → Nat → Int → List Int
  | [], _, _ => []
  | s :: r, k, g => ct s k g ++ cts r (k + gd s) g
end
mutual
theorem fst_ge : ∀ (s : Sx α) (at_ : Int), ∀ p ∈ fst s at_, at_ ≤ p ∧ p < at_ + sz s
  | .sim _, at_, p, h => by simp [fst] at h; simp [sz]; omega
  | .eit a b, at_, p, h => by
    simp only [fst, List.mem_append] at h
    simp only [sz]
    rcases h with h | h
    · have := fsts_ge a at_ p h; omega
    · have := fsts_ge b _ p h; omega
  | .rep a, at_, p, h => by
    have := fsts_ge a at_ p (by simpa [fst] using h); simp only [sz]; omega
  | .grd a b, at_, p, h => by
    have := fsts_ge a at_ p (by simpa [fst] using h); simp only [sz]; omega
theorem fsts_ge : ∀ (r : List (Sx α)) (at_ : Int), ∀ p ∈ fsts r at_, at_ ≤ p ∧ p < at_ + szs r
  | [], at_, p, h => by simp [fsts] at h
  | s :: r, at_, p, h => by
    simp only [fsts, List.mem_append] at h
    simp only [szs]
    rcases h with h | h
    · have := fst_ge s at_ p h; omega
    · cases c : nul s with
      | false => simp [c] at h
      | true => have := fsts_ge r _ p (by simpa [c] using h); omega
end
mutual
theorem flt_len : ∀ s : Sx α, (flt s).length = sz s
  | .sim _ => rfl
  | .eit a b => by simp [flt, sz, flts_len a, flts_len b]
  | .rep a => by simp [flt, sz, flts_len a]
  | .grd a b => by simp [flt, sz, flts_len a, flts_len b]
theorem flts_len : ∀ s : List (Sx α), (flts s).length = szs s
  | [] => rfl
  | s :: r => by simp [flts, szs, flt_len s, flts_len r]
end
mutual
theorem en_x : ∀ (s : Sx α) at_ k Z A g C, (en s at_ k Z A g C).map En.x = flt s
  | .sim _, _, _, _, _, _, _ => rfl
  | .eit a b, _, _, _, _, _, _ => by simp [en, flt, ens_x a, ens_x b]
  | .rep a, _, _, _, _, _, _ => by simp [en, flt, ens_x a]
  | .grd a b, _, _, _, _, _, _ => by simp [en, flt, ens_x a, ens_x b]
theorem ens_x : ∀ (s : List (Sx α)) at_ k Z A g C, (ens s at_ k Z A g C).map En.x = flts s
  | [], _, _, _, _, _, _ => rfl
  | s :: r, _, _, _, _, _, _ => by simp [ens, flts, en_x s, ens_x r]
end
mutual
theorem en_g : ∀ (s : Sx α) at_ k Z A g C, (en s at_ k Z A g C).map En.g = ct s k g
  | .sim _, _, _, _, _, _, _ => rfl
  | .eit a b, _, _, _, _, _, _ => by simp [en, ct, ens_g a, ens_g b]
  | .rep a, _, _, _, _, _, _ => by simp [en, ct, ens_g a]
  | .grd a b, _, _, _, _, _, _ => by simp [en, ct, ens_g a, ens_g b]
theorem ens_g : ∀ (s : List (Sx α)) at_ k Z A g C, (ens s at_ k Z A g C).map En.g = cts s k g
  | [], _, _, _, _, _, _ => rfl
  | s :: r, _, _, _, _, _, _ => by simp [ens, cts, en_g s, ens_g r]
end
theorem ens_len (s : List (Sx α)) (at_ k Z A g C) : (ens s at_ k Z A g C).length = szs s := by
  rw [← flts_len s, ← ens_x s at_ k Z A g C, List.length_map]
mutual
/-- places stand in order -/
theorem en_at : ∀ (s : Sx α) at_ k Z A g C, (en s at_ k Z A g C).map En.at_ = (List.range (sz s)).map fun i : Nat => at_ + (i : Int)
  | .sim _, at_, _, _, _, _, _ => by simp [en, sz, List.range_succ]
  | .eit a b, at_, _, _, _, _, _ => by
    simp only [en, sz, List.map_append, ens_at a, ens_at b, List.range_add, List.map_map]
    congr 1
    exact List.map_congr_left fun i _ => by simp; omega
  | .rep a, _, _, _, _, _, _ => by simp only [en, sz, ens_at a]
  | .grd a b, at_, _, _, _, _, _ => by
    simp only [en, sz, List.map_append, ens_at a, ens_at b, List.range_add, List.map_map]
    congr 1
    exact List.map_congr_left fun i _ => by simp; omega
theorem ens_at : ∀ (s : List (Sx α)) at_ k Z A g C, (ens s at_ k Z A g C).map En.at_ = (List.range (szs s)).map fun i : Nat => at_ + (i : Int)
  | [], _, _, _, _, _, _ => rfl
  | s :: r, at_, _, _, _, _, _ => by
    simp only [ens, szs, List.map_append, en_at s, ens_at r, List.range_add, List.map_map]
    congr 1
    exact List.map_congr_left fun i _ => by simp; omega
end
mutual
theorem mk_len : ∀ (s : Sx α) at_ k, (mk s at_ k).length = gd s
  | .sim _, _, _ => rfl
  | .eit a b, _, _ => by simp [mk, gd, mks_len a, mks_len b]
  | .rep a, _, _ => by simp [mk, gd, mks_len a]
  | .grd a b, _, _ => by simp [mk, gd, mks_len a, mks_len b]; omega
theorem mks_len : ∀ (s : List (Sx α)) at_ k, (mks s at_ k).length = gds s
  | [], _, _ => rfl
  | s :: r, _, _ => by simp [mks, gds, mk_len s, mks_len r]
end
/-- the tokens: places and signs, each in its range -/
def InR (at_ : Int) (n : Nat) (k m : Nat) (t : Int) : Prop := (at_ ≤ t ∧ t < at_ + n) ∨ (t ≤ sgn k ∧ sgn (k + m) < t)
mutual
theorem tf_in : ∀ (s : Sx α) at_ k Z, ∀ p ∈ tf s at_ k Z, InR at_ (sz s) k (gd s) p.1
  | .sim _, at_, k, Z, p, h => by simp [tf] at h; subst h; exact .inl ⟨by simp, by simp only [sz]; omega⟩
  | .eit a b, at_, k, Z, p, h => by
    simp only [tf, List.mem_append] at h
    rcases h with h | h
    · have := tfs_in a _ _ _ p h; simp only [InR, sz, gd, sgn] at this ⊢; omega
    · have := tfs_in b _ _ _ p h; simp only [InR, sz, gd, sgn] at this ⊢; omega
  | .rep a, at_, k, Z, p, h => by
    have := tfs_in a _ _ _ p (by simpa [tf] using h); simp only [InR, sz, gd, sgn] at this ⊢; omega
  | .grd a b, at_, k, Z, p, h => by
    simp only [tf, List.mem_cons, List.mem_append] at h
    rcases h with rfl | h | h
    · simp only [InR, gd, sgn]; omega
    · have := tfs_in a _ _ _ p h; simp only [InR, sz, gd, sgn] at this ⊢; omega
    · have := tfs_in b _ _ _ p h; simp only [InR, sz, gd, sgn] at this ⊢; omega
theorem tfs_in : ∀ (s : List (Sx α)) at_ k Z, ∀ p ∈ tfs s at_ k Z, InR at_ (szs s) k (gds s) p.1
  | [], at_, k, Z, p, h => by simp [tfs] at h
  | s :: r, at_, k, Z, p, h => by
    simp only [tfs, List.mem_append] at h
    rcases h with h | h
    · have := tf_in s _ _ _ p h; simp only [InR, szs, gds, sgn] at this ⊢; omega
    · have := tfs_in r _ _ _ p h; simp only [InR, szs, gds, sgn] at this ⊢; omega
end
mutual
theorem lst_in : ∀ (s : Sx α) at_ k, ∀ p ∈ lst s at_ k, InR at_ (sz s) k (gd s) p
  | .sim _, at_, k, p, h => by simp [lst] at h; subst h; exact .inl ⟨by simp, by simp only [sz]; omega⟩
  | .eit a b, at_, k, p, h => by
    simp only [lst, List.mem_append] at h
    rcases h with h | h
    · have := lsts_in a _ _ p h; simp only [InR, sz, gd, sgn] at this ⊢; omega
    · have := lsts_in b _ _ p h; simp only [InR, sz, gd, sgn] at this ⊢; omega
  | .rep a, at_, k, p, h => by
    have := lsts_in a _ _ p (by simpa [lst] using h); simp only [InR, sz, gd, sgn] at this ⊢; omega
  | .grd a b, at_, k, p, h => by
    simp only [lst, List.mem_append, List.mem_singleton] at h
    rcases h with h | rfl
    · have := lsts_in a _ _ p h; simp only [InR, sz, gd, sgn] at this ⊢; omega
    · simp only [InR, gd, sgn]; omega
theorem lsts_in : ∀ (s : List (Sx α)) at_ k, ∀ p ∈ lsts s at_ k, InR at_ (szs s) k (gds s) p
  | [], at_, k, p, h => by simp [lsts] at h
  | s :: r, at_, k, p, h => by
    simp only [lsts, List.mem_append] at h
    rcases h with h | h
    · cases c : nuls r with
      | false => simp [c] at h
      | true => have := lst_in s at_ k p (by simpa [c] using h); simp only [InR, szs, gds, sgn] at this ⊢; omega
    · have := lsts_in r _ _ p h; simp only [InR, szs, gds, sgn] at this ⊢; omega
end
theorem InR.apart {a a' : Int} {n n' k m k' m' : Nat} {t : Int} (h : InR a n k m t) (h' : InR a' n' k' m' t) (ha : a + n ≤ a' ∨ a' + n' ≤ a) (hk : k + m ≤ k' ∨ k' + m' ≤ k) (h0 : 0 ≤ a) (h1 : 0 ≤ a') : False := by
  unfold InR sgn at h h'
  omega
/-- behind the lasts -/
def addE (ls : List Int) (Z : List Int) (p : Int × List Int) : Int × List Int := if p.1 ∈ ls then (p.1, p.2 ++ Z) else p
theorem addE_map_off {ls Z : List Int} {xs : List (Int × List Int)} (h : ∀ p ∈ xs, p.1 ∉ ls) : xs.map (addE ls Z) = xs := by
  conv => rhs; rw [← List.map_id xs]
  exact List.map_congr_left fun p hp => by unfold addE; rw [if_neg (h p hp)]; rfl
theorem addE_app {l1 l2 Z : List Int} {xs : List (Int × List Int)} (h : ∀ p ∈ xs, p.1 ∉ l2) : xs.map (addE (l1 ++ l2) Z) = xs.map (addE l1 Z) := List.map_congr_left fun p hp => by
  unfold addE
  have := h p hp
  by_cases c : p.1 ∈ l1
  · rw [if_pos (List.mem_append_left _ c), if_pos c]
  · rw [if_neg (by simp [c, this]), if_neg c]
theorem addE_app' {l1 l2 Z : List Int} {xs : List (Int × List Int)} (h : ∀ p ∈ xs, p.1 ∉ l1) : xs.map (addE (l1 ++ l2) Z) = xs.map (addE l2 Z) := List.map_congr_left fun p hp => by
  unfold addE
  have := h p hp
  by_cases c : p.1 ∈ l2
  · rw [if_pos (List.mem_append_right _ c), if_pos c]
  · rw [if_neg (by simp [c, this]), if_neg c]
theorem aft_add (r : List (Sx α)) (at_ : Int) (Z Z' : List Int) : aft r at_ (Z ++ Z') = aft r at_ Z ++ if nuls r then Z' else [] := by
  unfold aft
  cases nuls r <;> simp
mutual
theorem tf_add : ∀ (s : Sx α) (at_ : Int) (k : Nat) (Z Z' : List Int), 0 ≤ at_ → (tf s at_ k Z).map (addE (lst s at_ k) Z') = tf s at_ k (Z ++ Z')
  | .sim _, at_, k, Z, Z', _ => by simp [tf, lst, addE]
  | .eit a b, at_, k, Z, Z', h0 => by
    have ia := tfs_in a at_ k Z
    have ib := tfs_in b (at_ + szs a) (k + gds a) Z
    have la := lsts_in a at_ k
    have lb := lsts_in b (at_ + szs a) (k + gds a)
    simp only [tf, lst, List.map_append]
    rw [addE_app (fun p hp hq => (ia p hp).apart (lb _ hq) (by omega) (by omega) (by omega) (by omega)), addE_app' (fun p hp hq => (ib p hp).apart (la _ hq) (by omega) (by omega) (by omega) (by omega)), tfs_add a _ _ _ _ h0, tfs_add b _ _ _ _ (by omega)]
  | .rep a, at_, k, Z, Z', h0 => by
    simp only [tf, lst]
    rw [tfs_add a _ _ _ _ h0, List.append_assoc]
  | .grd a b, at_, k, Z, Z', h0 => by
    have ia := tfs_in a at_ (k + 1) Z
    have ib := tfs_in b (at_ + szs a) (k + 1 + gds a) [sgn k]
    have la := lsts_in a at_ (k + 1)
    simp only [tf, lst, List.map_cons, List.map_append]
    rw [addE_app (xs := tfs a at_ (k + 1) Z) (fun p hp hq => by
      have := ia p hp
      simp only [List.mem_singleton] at hq
      simp only [InR, sgn] at this hq
      omega), tfs_add a _ _ _ _ h0, addE_map_off (xs := tfs b (at_ + szs a) (k + 1 + gds a) [sgn k]) (fun p hp hq => by
      rcases List.mem_append.mp hq with hq | hq
      · exact (ib p hp).apart (la _ hq) (by omega) (by omega) (by omega) (by omega)
      · have := ib p hp
        simp only [List.mem_singleton] at hq
        simp only [InR, sgn] at this hq
        omega)]
    congr 1
    unfold addE
    rw [if_pos (by simp)]
theorem tfs_add : ∀ (s : List (Sx α)) (at_ : Int) (k : Nat) (Z Z' : List Int), 0 ≤ at_ → (tfs s at_ k Z).map (addE (lsts s at_ k) Z') = tfs s at_ k (Z ++ Z')
  | [], _, _, _, _, _ => rfl
  | s :: r, at_, k, Z, Z', h0 => by
    have is := tf_in s at_ k (aft r (at_ + sz s) Z)
    have ir := tfs_in r (at_ + sz s) (k + gd s) Z
    have ls := lst_in s at_ k
    have lr := lsts_in r (at_ + sz s) (k + gd s)
    simp only [tfs, lsts, List.map_append]
    rw [addE_app (xs := tf s _ _ _) (fun p hp hq => (is p hp).apart (lr _ hq) (by omega) (by omega) (by omega) (by omega)), addE_app' (xs := tfs r _ _ _) (fun p hp hq => by
      cases c : nuls r with
      | false => simp [c] at hq
      | true => exact (ir p hp).apart (ls _ (by simpa [c] using hq)) (by omega) (by omega) (by omega) (by omega)), tfs_add r _ _ _ _ (by omega), aft_add]
    cases c : nuls r with
    | false =>
      rw [addE_map_off (fun p hp hq => by simp at hq)]
      simp
    | true =>
      simp only [if_true]
      rw [tf_add s _ _ _ _ h0]
end
/-- one statement more -/
theorem szs_snoc (s : Sx α) : ∀ r : List (Sx α), szs (r ++ [s]) = szs r + sz s
  | [] => by simp [szs]
  | t :: r => by simp only [List.cons_append, szs, szs_snoc s r]; omega
theorem gds_snoc (s : Sx α) : ∀ r : List (Sx α), gds (r ++ [s]) = gds r + gd s
  | [] => by simp [gds]
  | t :: r => by simp only [List.cons_append, gds, gds_snoc s r]; omega
theorem nuls_snoc (s : Sx α) : ∀ r : List (Sx α), nuls (r ++ [s]) = (nuls r && nul s)
  | [] => by simp [nuls]
  | t :: r => by simp only [List.cons_append, nuls, nuls_snoc s r, Bool.and_assoc]
theorem flts_snoc (s : Sx α) : ∀ r : List (Sx α), flts (r ++ [s]) = flts r ++ flt s
  | [] => by simp [flts]
  | t :: r => by simp only [List.cons_append, flts, flts_snoc s r, List.append_assoc]
theorem fsts_snoc (s : Sx α) : ∀ (r : List (Sx α)) (at_ : Int), fsts (r ++ [s]) at_ = fsts r at_ ++ if nuls r then fst s (at_ + szs r) else []
  | [], at_ => by cases c : nul s <;> simp [fsts, nuls, szs, c]
  | t :: r, at_ => by
    simp only [List.cons_append, fsts, nuls, szs, fsts_snoc s r]
    have e : at_ + ((sz t + szs r : Nat) : Int) = at_ + sz t + szs r := by omega
    rw [e]
    rcases Bool.eq_false_or_eq_true (nul t) with c | c <;> simp [c]
theorem aft_snoc (s : Sx α) (r : List (Sx α)) (at_ : Int) (Z : List Int) : aft (r ++ [s]) at_ Z = aft r at_ (fst s (at_ + szs r) ++ if nul s then Z else []) := by
  unfold aft
  rw [fsts_snoc, nuls_snoc]
  cases nuls r <;> cases nul s <;> simp
theorem lsts_snoc (s : Sx α) : ∀ (r : List (Sx α)) (at_ : Int) (k : Nat), lsts (r ++ [s]) at_ k = (if nul s then lsts r at_ k else []) ++ lst s (at_ + szs r) (k + gds r)
  | [], at_, k => by cases c : nul s <;> simp [lsts, nuls, szs, gds, c]
  | t :: r, at_, k => by
    simp only [List.cons_append, lsts, nuls_snoc, szs, gds, lsts_snoc s r]
    have e : at_ + ((sz t + szs r : Nat) : Int) = at_ + sz t + szs r := by omega
    rw [e, Nat.add_assoc]
    cases nul s <;> cases nuls r <;> simp
theorem tfs_snoc (s : Sx α) : ∀ (r : List (Sx α)) (at_ : Int) (k : Nat) (Z : List Int), tfs (r ++ [s]) at_ k Z = tfs r at_ k (fst s (at_ + szs r) ++ if nul s then Z else []) ++ tf s (at_ + szs r) (k + gds r) Z
  | [], at_, k, Z => by simp [tfs, aft, fsts, nuls, szs, gds]
  | t :: r, at_, k, Z => by
    simp only [List.cons_append, tfs, szs, gds, tfs_snoc s r, aft_snoc]
    have e : at_ + ((sz t + szs r : Nat) : Int) = at_ + sz t + szs r := by omega
    rw [e, Nat.add_assoc, List.append_assoc]
theorem mks_snoc (s : Sx α) : ∀ (r : List (Sx α)) (at_ : Int) (k : Nat), mks (r ++ [s]) at_ k = mks r at_ k ++ mk s (at_ + szs r) (k + gds r)
  | [], at_, k => by simp [mks, szs, gds]
  | t :: r, at_, k => by
    simp only [List.cons_append, mks, szs, gds, mks_snoc s r]
    have e : at_ + ((sz t + szs r : Nat) : Int) = at_ + sz t + szs r := by omega
    rw [e, Nat.add_assoc, List.append_assoc]
theorem cts_snoc (s : Sx α) : ∀ (r : List (Sx α)) (k : Nat) (g : Int), cts (r ++ [s]) k g = cts r k g ++ ct s (k + gds r) g
  | [], k, g => by simp [cts, gds]
  | t :: r, k, g => by simp only [List.cons_append, cts, gds, cts_snoc s r, Nat.add_assoc, List.append_assoc]
end Pl

/-! what tokens stand for -/
namespace Pl
open Vl (sortU mem_sortU sortU_asc sortU_uniq)
theorem sortU_congr {a b : List Int} (h : ∀ k, k ∈ a ↔ k ∈ b) : sortU a = sortU b := sortU_uniq (sortU_asc a) fun k => by rw [mem_sortU]; exact h k
theorem sortU_r (a b : List Int) : sortU (a ++ sortU b) = sortU (a ++ b) := sortU_congr fun k => by simp [mem_sortU]
theorem sortU_l (a b : List Int) : sortU (sortU a ++ b) = sortU (a ++ b) := sortU_congr fun k => by simp [mem_sortU]
theorem sortU_lr (a b : List Int) : sortU (sortU a ++ sortU b) = sortU (a ++ b) := sortU_congr fun k => by simp [mem_sortU]
theorem sortU_sort (a : List Int) : sortU (sortU a) = sortU a := sortU_congr fun k => by simp [mem_sortU]
theorem sortU_asc_id {a : List Int} (h : a.Pairwise (· < ·)) : sortU a = a := (sortU_uniq h fun k => Iff.rfl).symm
/-- the tokens one by one -/
def plc (f : Int → Option (List Int)) : List Int → Option (List Int)
  | [] => some []
  | t :: ts => match (if t < 0 then f t else some [t]), plc f ts with
    | some a, some b => some (a ++ b)
    | _, _ => none
def pl (T : Int → Option (List Int)) : Nat → List Int → Option (List Int)
  | 0, _ => none
  | n + 1, ts => (plc (fun t => (T t).bind (pl T n)) ts).map sortU
theorem plc_app {f : Int → Option (List Int)} : ∀ {xs ys a b : List Int}, plc f xs = some a → plc f ys = some b → plc f (xs ++ ys) = some (a ++ b)
  | [], ys, a, b, h, k => by cases h; exact k
  | t :: xs, ys, a, b, h, k => by
    unfold plc at h
    split at h
    · rename_i a1 b1 e1 e2
      cases h
      show (match (if t < 0 then f t else some [t]), plc f (xs ++ ys) with
        | some a, some b => some (a ++ b)
        | _, _ => none) = _
      rw [e1, plc_app e2 k]
      simp
    · cases h
theorem plc_nn {f : Int → Option (List Int)} : ∀ {xs : List Int}, (∀ x ∈ xs, 0 ≤ x) → plc f xs = some xs
  | [], _ => rfl
  | t :: xs, h => by
    unfold plc
    rw [if_neg (by have := h t List.mem_cons_self; omega), plc_nn fun x hx => h x (List.mem_cons_of_mem _ hx)]
    rfl
theorem plc_mono {f g : Int → Option (List Int)} (h : ∀ t a, f t = some a → g t = some a) : ∀ {xs a : List Int}, plc f xs = some a → plc g xs = some a
  | [], _, e => e
  | t :: xs, a, e => by
    unfold plc at e ⊢
    split at e
    · rename_i a1 b1 e1 e2
      have e3 : (if t < 0 then g t else some [t]) = some a1 := by
        by_cases c : t < 0
        · rw [if_pos c] at e1 ⊢; exact h _ _ e1
        · rw [if_neg c] at e1 ⊢; exact e1
      rw [e3, plc_mono h e2]
      exact e
    · cases e
theorem pl_mono {T : Int → Option (List Int)} : ∀ {n : Nat} {ts a : List Int}, pl T n ts = some a → pl T (n + 1) ts = some a
  | 0, _, _, h => by cases h
  | n + 1, ts, a, h => by
    obtain ⟨b, hb, e⟩ := Option.map_eq_some_iff.mp h
    show (plc (fun t => (T t).bind (pl T (n + 1))) ts).map sortU = _
    rw [plc_mono (fun t a h => ?_) hb]
    · exact congrArg some e
    · obtain ⟨z, hz, h⟩ := Option.bind_eq_some_iff.mp h
      show (T t).bind (pl T (n + 1)) = _
      rw [hz]
      exact pl_mono h
def Rs (T : Int → Option (List Int)) (n : Nat) (Z A : List Int) : Prop := pl T n Z = some (sortU A)
variable {T : Int → Option (List Int)}
theorem Rs.mono {n m : Nat} {Z A : List Int} (h : Rs T n Z A) (l : n ≤ m) : Rs T m Z A := by
  induction l with
  | refl => exact h
  | step _ ih => exact pl_mono ih
theorem Rs.nn {n : Nat} {xs : List Int} (h : ∀ x ∈ xs, 0 ≤ x) : Rs T (n + 1) xs xs := by
  show (plc _ xs).map sortU = _
  rw [plc_nn h]
  rfl
theorem Rs.front {n : Nat} {F Z A : List Int} (h : ∀ x ∈ F, 0 ≤ x) (r : Rs T (n + 1) Z A) : Rs T (n + 1) (F ++ Z) (F ++ A) := by
  obtain ⟨b, hb, e⟩ := Option.map_eq_some_iff.mp (r : (plc _ Z).map sortU = _)
  show (plc _ (F ++ Z)).map sortU = _
  rw [plc_app (plc_nn h) hb]
  show some (sortU (F ++ b)) = _
  rw [← sortU_r F b, e, sortU_r]
theorem Rs.sign {n k : Nat} {Z A : List Int} (h : T (sgn k) = some Z) (r : Rs T n Z A) : Rs T (n + 1) [sgn k] A := by
  show (plc (fun t => (T t).bind (pl T n)) [sgn k]).map sortU = _
  unfold plc plc
  rw [if_pos (by show -1 - (k : Int) < 0; omega), h, Option.bind_some, r]
  show some (sortU (sortU A ++ [])) = _
  rw [sortU_l, List.append_nil]
theorem Rs.aft {α : Type} {n : Nat} {Z A : List Int} (b : List (Sx α)) {at_ : Int} (h : 0 ≤ at_) (r : Rs T (n + 1) Z A) : Rs T (n + 1) (aft b at_ Z) (aft b at_ A) := by
  unfold Pl.aft
  refine Rs.front (fun x hx => by have := fsts_ge b at_ x hx; omega) ?_
  cases nuls b
  · exact Rs.nn (by simp)
  · exact r
mutual
/-- second rows of guards within second rows -/
def dp {α : Type} : Sx α → Nat
  | .sim _ => 0
  | .eit a b => max (dps a) (dps b)
  | .rep a => dps a
  | .grd a b => max (dps a) (1 + dps b)
def dps {α : Type} : List (Sx α) → Nat
  | [] => 0
  | s :: r => max (dp s) (dps r)
end
/-- a guard's sign and where its faults land -/
def Ck (T : Int → Option (List Int)) (M : List (List Int)) (N : Nat) (g : Int) (C : List Int) : Prop := (g = 0 ∧ C = []) ∨ ∃ k m, g = sgn k ∧ M[k]? = some m ∧ Rs T N m C
def Good {α : Type} (T : Int → Option (List Int)) (M : List (List Int)) (N : Nat) (e : En α) : Prop := T e.at_ = some e.Z ∧ Rs T N e.Z e.A ∧ Ck T M N e.g e.C
def Mks (M : List (List Int)) (k : Nat) (xs : List (List Int)) : Prop := ∀ i m, xs[i]? = some m → M[k + i]? = some m
theorem Mks.left {M : List (List Int)} {k : Nat} {xs ys : List (List Int)} (h : Mks M k (xs ++ ys)) : Mks M k xs := fun i m e => h i m (by rw [List.getElem?_append_left (List.getElem?_eq_some_iff.mp e).1]; exact e)
theorem Mks.right {M : List (List Int)} {k : Nat} {xs ys : List (List Int)} (h : Mks M k (xs ++ ys)) : Mks M (k + xs.length) ys := fun i m e => by
  rw [Nat.add_assoc]
  exact h _ m (by rw [List.getElem?_append_right (by omega), Nat.add_sub_cancel_left]; exact e)
theorem Mks.tail {M : List (List Int)} {k : Nat} {x : List Int} {xs : List (List Int)} (h : Mks M k (x :: xs)) : M[k]? = some x ∧ Mks M (k + 1) xs := ⟨h 0 x rfl, fun i m e => by rw [show k + 1 + i = k + (i + 1) by omega]; exact h (i + 1) m (by simpa using e)⟩
section
variable {α : Type} {M : List (List Int)} {N : Nat}
mutual
theorem en_ok : ∀ (s : Sx α) (at_ : Int) (k : Nat) (Z A : List Int) (g : Int) (C : List Int) (n : Nat), 0 ≤ at_ → n + 1 + dp s ≤ N → (∀ p ∈ tf s at_ k Z, T p.1 = some p.2) → Mks M k (mk s at_ k) → Rs T (n + 1) Z A → Ck T M N g C → ∀ e ∈ en s at_ k Z A g C, Good T M N e
  | .sim x, at_, k, Z, A, g, C, n, h0, hn, ht, hm, hr, hc => by
    intro e he
    simp only [en, List.mem_singleton] at he
    subst he
    exact ⟨ht (at_, Z) (by simp [tf]), hr.mono (by omega), hc⟩
  | .eit a b, at_, k, Z, A, g, C, n, h0, hn, ht, hm, hr, hc => by
    intro e he
    simp only [en, List.mem_append] at he
    simp only [dp] at hn
    simp only [mk] at hm
    rcases he with he | he
    · exact ens_ok a at_ k Z A g C n h0 (by omega) (fun p hp => ht p (by simp [tf, hp])) hm.left hr hc e he
    · exact ens_ok b _ _ Z A g C n (by omega) (by omega) (fun p hp => ht p (by simp [tf, hp])) (by have := hm.right; rw [mks_len] at this; exact this) hr hc e he
  | .rep a, at_, k, Z, A, g, C, n, h0, hn, ht, hm, hr, hc => by
    intro e he
    simp only [en] at he
    simp only [dp] at hn
    simp only [mk] at hm
    exact ens_ok a at_ k _ _ g C n h0 (by omega) (fun p hp => ht p (by simpa [tf] using hp)) hm (hr.front fun x hx => by have := fsts_ge a at_ x hx; omega) hc e he
  | .grd a b, at_, k, Z, A, g, C, n, h0, hn, ht, hm, hr, hc => by
    intro e he
    simp only [en, List.mem_append] at he
    simp only [dp] at hn
    simp only [mk] at hm
    have hs : Rs T (n + 2) [sgn k] A := Rs.sign (ht (sgn k, Z) (by simp [tf])) hr
    obtain ⟨m0, m1⟩ := hm.tail
    rcases he with he | he
    · refine ens_ok a at_ (k + 1) Z A _ _ n h0 (by omega) (fun p hp => ht p (by simp [tf, hp])) m1.left hr (.inr ⟨k, _, rfl, m0, ?_⟩) e he
      exact (hs.aft b (by omega)).mono (by omega)
    · exact ens_ok b _ _ [sgn k] A g C (n + 1) (by omega) (by omega) (fun p hp => ht p (by simp [tf, hp])) (by have := m1.right; rw [mks_len] at this; exact this) hs hc e he
theorem ens_ok : ∀ (r : List (Sx α)) (at_ : Int) (k : Nat) (Z A : List Int) (g : Int) (C : List Int) (n : Nat), 0 ≤ at_ → n + 1 + dps r ≤ N → (∀ p ∈ tfs r at_ k Z, T p.1 = some p.2) → Mks M k (mks r at_ k) → Rs T (n + 1) Z A → Ck T M N g C → ∀ e ∈ ens r at_ k Z A g C, Good T M N e
  | [], _, _, _, _, _, _, _, _, _, _, _, _, _ => by intro e he; simp [ens] at he
  | s :: r, at_, k, Z, A, g, C, n, h0, hn, ht, hm, hr, hc => by
    intro e he
    simp only [ens, List.mem_append] at he
    simp only [dps] at hn
    simp only [mks] at hm
    rcases he with he | he
    · exact en_ok s at_ k _ _ g C n h0 (by omega) (fun p hp => ht p (by simp [tfs, hp])) hm.left (hr.aft r (by omega)) hc e he
    · exact ens_ok r _ _ Z A g C n (by omega) (by omega) (fun p hp => ht p (by simp [tfs, hp])) (by have := hm.right; rw [mk_len] at this; exact this) hr hc e he
end
end
end Pl

namespace K11
open PySem PySem.Spec PyProof.Rows L2 Vl

open Pl (Sx)
open Pl (szs sz flt flts nul nuls fst fsts gd gds aft)

mutual
def sd : Sx D → D
  | .sim x => x
  | .eit a b => .tup [.str (Str.ofString "either"), .tup (rds a), .tup (rds b)]
  | .rep a => .tup [.str (Str.ofString "repeat"), .tup (rds a)]
  | .grd a b => .tup [.str (Str.ofString "guard"), .tup (rds a), .tup (rds b)]
def rds : List (Sx D) → List D
  | [] => []
  | s :: r => sd s :: rds r
end
theorem rds_map : ∀ r : List (Sx D), rds r = r.map sd
  | [] => rfl
  | s :: r => by rw [rds, rds_map r]; rfl
abbrev rd (r : List (Sx D)) : D := .tup (r.map sd)
theorem sd_eit (a b : List (Sx D)) : sd (.eit a b) = .tup [.str (Str.ofString "either"), rd a, rd b] := by rw [sd, rds_map, rds_map]
theorem sd_rep (a : List (Sx D)) : sd (.rep a) = .tup [.str (Str.ofString "repeat"), rd a] := by rw [sd, rds_map]
theorem sd_grd (a b : List (Sx D)) : sd (.grd a b) = .tup [.str (Str.ofString "guard"), rd a, rd b] := by rw [sd, rds_map, rds_map]
def WS (R : List (Sx D) → Prop) : Sx D → Prop
  | .sim x => Sim x
  | .eit a b => R a ∧ R b
  | .rep a => R a
  | .grd a b => R a ∧ R b
def WR : Nat → List (Sx D) → Prop
  | 0 => fun _ => False
  | n + 1 => fun r => r.length ≤ 6 ∧ ∀ s ∈ r, WS (WR n) s
theorem Paired.self {F : D → D → Prop} : ∀ {xs : List D}, Paired F xs xs → ∀ x ∈ xs, F x x
  | [], _, x, hx => by cases hx
  | y :: xs, .cons h t, x, hx => by
    rcases List.mem_cons.mp hx with rfl | hx
    · exact h
    · exact Paired.self t x hx
theorem list_ex {P : D → Sx D → Prop} : ∀ {xs : List D}, (∀ x ∈ xs, ∃ s, sd s = x ∧ P x s) → ∃ r : List (Sx D), r.map sd = xs ∧ ∀ s ∈ r, ∃ x, P x s
  | [], _ => ⟨[], rfl, fun s h => by cases h⟩
  | x :: xs, h => by
    obtain ⟨s, e, hp⟩ := h x List.mem_cons_self
    obtain ⟨r, er, hr⟩ := list_ex (P := P) (xs := xs) fun y hy => h y (List.mem_cons_of_mem _ hy)
    refine ⟨s :: r, by rw [List.map_cons, e, er], fun t ht => ?_⟩
    rcases List.mem_cons.mp ht with rfl | ht
    · exact ⟨x, hp⟩
    · exact hr t ht
def c3 : Nat → Nat
  | 0 => 0
  | n + 1 => 3 * max 1 (2 * c3 n)
theorem sum_le {f : Sx D → Nat} {g : List (Sx D) → Nat} (g0 : g [] = 0) (g1 : ∀ s r, g (s :: r) = f s + g r) {m : Nat} : ∀ {r : List (Sx D)}, (∀ s ∈ r, f s ≤ m) → g r ≤ r.length * m
  | [], _ => by rw [g0]; omega
  | s :: r, h => by
    have := h s List.mem_cons_self
    have ih := sum_le (f := f) (g := g) g0 g1 (m := m) (r := r) fun t ht => h t (List.mem_cons_of_mem _ ht)
    rw [g1, List.length_cons, Nat.succ_mul]
    omega
/-- what is drawn is such a tree -/
theorem LoB.tree : ∀ (n : Nat) {d : D}, LoB n d d → ∃ r, d = rd r ∧ WR n r ∧ r.length ≤ 3 ∧ szs r ≤ c3 n
  | 0, _, h => h.elim
  | n + 1, d, h => by
    obtain ⟨xs, xs', rfl, hd', hl, hp⟩ := h
    have e : xs' = xs := by
      rcases hd' with h | h
      · cases h; rfl
      · cases h
    subst e
    obtain ⟨r, er, hr⟩ := list_ex (P := fun _ s => WS (WR n) s ∧ sz s ≤ max 1 (2 * c3 n)) (xs := xs') fun x hx => by
      rcases Paired.self hp x hx with ⟨hs, _⟩ | ⟨w, k, rs, rs', hw, hk, rfl, e, hr⟩
      · exact ⟨.sim x, rfl, hs, by simp only [sz]; omega⟩
      · cases e
        have tr := fun y hy => LoB.tree n (Paired.self hr y hy)
        cases hw with
        | either =>
          match rs, hk, tr with
          | [a, b], _, tr =>
            obtain ⟨ra, rfl, wa, _, za⟩ := tr a (by simp)
            obtain ⟨rb, rfl, wb, _, zb⟩ := tr b (by simp)
            exact ⟨.eit ra rb, sd_eit _ _, ⟨wa, wb⟩, by simp only [sz]; omega⟩
        | rep =>
          match rs, hk, tr with
          | [a], _, tr =>
            obtain ⟨ra, rfl, wa, _, za⟩ := tr a (by simp)
            exact ⟨.rep ra, sd_rep _, wa, by simp only [sz]; omega⟩
        | guard =>
          match rs, hk, tr with
          | [a, b], _, tr =>
            obtain ⟨ra, rfl, wa, _, za⟩ := tr a (by simp)
            obtain ⟨rb, rfl, wb, _, zb⟩ := tr b (by simp)
            exact ⟨.grd ra rb, sd_grd _ _, ⟨wa, wb⟩, by simp only [sz]; omega⟩
    have l3 : r.length ≤ 3 := by
      have := congrArg List.length er
      rw [List.length_map] at this
      omega
    refine ⟨r, by show D.tup xs' = D.tup (r.map sd); rw [er], ⟨by omega, fun s hs => (hr s hs).elim fun _ h => h.1⟩, l3, ?_⟩
    have h1 := sum_le (f := sz) (g := szs) rfl (fun _ _ => rfl) (m := max 1 (2 * c3 n)) (r := r) fun s hs => (hr s hs).elim fun _ h => h.2
    have h2 : r.length * max 1 (2 * c3 n) ≤ 3 * max 1 (2 * c3 n) := Nat.mul_le_mul_right _ l3
    show szs r ≤ 3 * max 1 (2 * c3 n)
    omega
theorem WR.pl : ∀ (n : Nat) {r : List (Sx D)}, WR n r → (∀ x ∈ r.map sd, Pl (2 * n - 1) x) ∧ Pl (2 * n) (rd r)
  | 0, _, h => h.elim
  | n + 1, r, h => by
    have st : ∀ x ∈ r.map sd, Pl (2 * n + 1) x := by
      intro x hx
      obtain ⟨s, hs, rfl⟩ := List.mem_map.mp hx
      have w := h.2 s hs
      have str : ∀ x : String, PyData.strOk (Str.ofString x) = true → Pl (2 * n) (.str (Str.ofString x)) := fun x h => .str h
      cases s with
      | sim x => exact (show Sim x from w).pl _
      | eit a b =>
        rw [sd_eit]
        exact .tup (by simp only [List.mem_cons, List.not_mem_nil, or_false]; rintro y (rfl | rfl | rfl); exact str _ (by decide +kernel); exact (WR.pl n w.1).2; exact (WR.pl n w.2).2)
      | rep a =>
        rw [sd_rep]
        exact .tup (by simp only [List.mem_cons, List.not_mem_nil, or_false]; rintro y (rfl | rfl); exact str _ (by decide +kernel); exact (WR.pl n w).2)
      | grd a b =>
        rw [sd_grd]
        exact .tup (by simp only [List.mem_cons, List.not_mem_nil, or_false]; rintro y (rfl | rfl | rfl); exact str _ (by decide +kernel); exact (WR.pl n w.1).2; exact (WR.pl n w.2).2)
    exact ⟨st, by rw [show 2 * (n + 1) = 2 * n + 1 + 1 by omega]; exact .tup st⟩
theorem WR.pu {n : Nat} {r : List (Sx D)} (h : WR n r) : PuL (r.map sd) := (WR.pl n h).2.pu
theorem WR.pus {n : Nat} {r : List (Sx D)} (h : WR n r) {s : Sx D} (hs : s ∈ r) : Pu (sd s) := ((WR.pl n h).1 _ (List.mem_map.mpr ⟨s, hs, rfl⟩)).pu
/-- how much of it -/
def capN : Nat → Nat
  | 0 => 0
  | n + 1 => 6 * (2 * capN n + 1)
theorem WR.caps : ∀ (n : Nat) {r : List (Sx D)}, WR n r → szs r ≤ capN n ∧ gds r ≤ capN n ∧ Pl.dps r ≤ n
  | 0, _, h => h.elim
  | n + 1, r, h => by
    have one : ∀ s ∈ r, sz s ≤ 2 * capN n + 1 ∧ gd s ≤ 2 * capN n + 1 ∧ Pl.dp s ≤ n + 1 := by
      intro s hs
      have w := h.2 s hs
      cases s with
      | sim x => simp only [sz, gd, Pl.dp]; omega
      | eit a b =>
        have ha := WR.caps n w.1
        have hb := WR.caps n w.2
        simp only [sz, gd, Pl.dp]; omega
      | rep a =>
        have ha := WR.caps n (show WR n a from w)
        simp only [sz, gd, Pl.dp]; omega
      | grd a b =>
        have ha := WR.caps n w.1
        have hb := WR.caps n w.2
        simp only [sz, gd, Pl.dp]; omega
    have h1 := sum_le (f := sz) (g := szs) rfl (fun _ _ => rfl) (m := 2 * capN n + 1) (r := r) fun s hs => (one s hs).1
    have h2 := sum_le (f := gd) (g := gds) rfl (fun _ _ => rfl) (m := 2 * capN n + 1) (r := r) fun s hs => (one s hs).2.1
    have m2 : r.length * (2 * capN n + 1) ≤ 6 * (2 * capN n + 1) := Nat.mul_le_mul_right _ h.1
    have e : capN (n + 1) = 6 * (2 * capN n + 1) := rfl
    refine ⟨by omega, by omega, ?_⟩
    have : ∀ {r : List (Sx D)}, (∀ s ∈ r, Pl.dp s ≤ n + 1) → Pl.dps r ≤ n + 1 := by
      intro r
      induction r with
      | nil => intro _; simp [Pl.dps]
      | cons s r ih =>
        intro h
        have := h s List.mem_cons_self
        have := ih fun t ht => h t (List.mem_cons_of_mem _ ht)
        simp only [Pl.dps]
        omega
    exact this fun s hs => (one s hs).2.2
theorem cap_le {n : Nat} (h : n ≤ 5) : capN n ≤ 171366 := by
  match n, h with
  | 0, _ => decide
  | 1, _ => decide
  | 2, _ => decide
  | 3, _ => decide
  | 4, _ => decide
  | 5, _ => decide
/-- heads of statements -/
abbrev BLS : D := .tup [.str (Str.ofString "either"), .str (Str.ofString "repeat"), .str (Str.ofString "guard")]
def endW (w : Str) : Bool := w == Str.ofString "return" || w == Str.ofString "fault"
def endD : D → Bool
  | .tup (.str w :: _) => endW w
  | _ => false
theorem Sim.head {x : D} (h : Sim x) : ∃ w rs, x = .tup (.str w :: rs) ∧ rs.length ≤ 3 ∧ (∀ μ, inF false (.str w) BLS μ = .ok (.bl false) μ) ∧ (∀ μ, inF true (.str w) BLS μ = .ok (.bl true) μ) ∧ (∀ μ, inF false (.str w) (.tup [.str (Str.ofString "return"), .str (Str.ofString "fault")]) μ = .ok (.bl (endW w)) μ) := by
  cases h <;> exact ⟨_, _, rfl, by simp, fun _ => rfl, fun _ => rfl, fun _ => rfl⟩
theorem ixT0 (x : D) (xs : List D) (μ : Sto) : ixD (.tup (x :: xs)) (.int 0) μ = .ok x μ := by
  show M.opt (atI (x :: xs) 0) μ = _
  rw [at_nat (by decide) (x := x) rfl]
  rfl
theorem ixT1 (x y : D) (xs : List D) (μ : Sto) : ixD (.tup (x :: y :: xs)) (.int 1) μ = .ok y μ := by
  show M.opt (atI (x :: y :: xs) 1) μ = _
  rw [at_nat (by decide) (x := y) rfl]
  rfl
theorem ixT2 (x y z : D) (xs : List D) (μ : Sto) : ixD (.tup (x :: y :: z :: xs)) (.int 2) μ = .ok z μ := by
  show M.opt (atI (x :: y :: z :: xs) 2) μ = _
  rw [at_nat (by decide) (x := z) rfl]
  rfl
theorem sl1 (x : D) (xs : List D) (μ : Sto) : slD false (.tup (x :: xs)) (some 1) none μ = .ok (.tup xs) μ := by
  show O.ok (D.tup (Vl.cutD (x :: xs) (some 1) none)) μ = _
  rw [cut_drop _ (by decide)]
  rfl
theorem app_ob0 {ys : List D} {y : D} (l : ys.length < 1000) : appendD (.ob 0) [y] [.lst ys] = .ok .non [.lst (ys ++ [y])] := append_ob (k := 0) (μ := [.lst ys]) rfl l
theorem isl_ob0 {ys : List D} {μ : Sto} : isListD (.ob 0) (.lst ys :: μ) = .ok () (.lst ys :: μ) := isList_ob (k := 0) rfl
theorem app0 {ys : List D} {y : D} {μ : Sto} (l : ys.length < 1000000) : appendD (.ob 0) [y] (.lst ys :: μ) = .ok .non (.lst (ys ++ [y]) :: μ) := by
  show M.guard (decide (ys.length < many)) _ _ = _
  rw [decide_eq_true (show ys.length < many by unfold many; omega)]
  rfl
theorem ext0 {ys zs : List D} {μ : Sto} (l : ys.length + zs.length ≤ 1000000) : extendD (.ob 0) [.lst zs] (.lst ys :: μ) = .ok .non (.lst (ys ++ zs) :: μ) := by
  show M.guard (decide (ys.length + zs.length ≤ many)) _ _ = _
  rw [decide_eq_true (show ys.length + zs.length ≤ many by unfold many; omega)]
  rfl
theorem newL0 : newL true [] [] = .ok (.ob 0) [.lst []] := by
  unfold newL
  rw [decide_eq_true (show ([] : List D).length ≤ many from Vl.few (by decide))]
  rfl
end K11

namespace K11
open PySem PySem.Spec PyProof.Rows L2 Vl

open Pl (Sx)
open Pl (szs sz flt flts nul nuls fst fsts gd gds aft)

theorem eqStr {x y : Str} (hx : PyData.strOk x = true) (hy : PyData.strOk y = true) (μ : Sto) : bE eqD false (.str x) (.str y) μ = .ok (.bl (x == y)) μ := by
  have := eqD_py (x := .str x) (y := .str y) (μ := μ) rfl rfl rfl rfl (by simp [SeqAt.shaped, PyData.canLay0, PyData.depth, hx]) (by simp [SeqAt.shaped, PyData.canLay0, PyData.depth, hy])
  simp [bE, this, PyData.eqv]
theorem eq_ee (μ : Sto) : bE eqD false (.str (Str.ofString "either")) (.str (Str.ofString "either")) μ = .ok (.bl true) μ := by rw [eqStr (by decide +kernel) (by decide +kernel)]; rfl
theorem eq_re (μ : Sto) : bE eqD false (.str (Str.ofString "repeat")) (.str (Str.ofString "either")) μ = .ok (.bl false) μ := by rw [eqStr (by decide +kernel) (by decide +kernel)]; rfl
theorem eq_ge (μ : Sto) : bE eqD false (.str (Str.ofString "guard")) (.str (Str.ofString "either")) μ = .ok (.bl false) μ := by rw [eqStr (by decide +kernel) (by decide +kernel)]; rfl
theorem eq_er (μ : Sto) : bE eqD false (.str (Str.ofString "either")) (.str (Str.ofString "repeat")) μ = .ok (.bl false) μ := by rw [eqStr (by decide +kernel) (by decide +kernel)]; rfl
theorem eq_rr (μ : Sto) : bE eqD false (.str (Str.ofString "repeat")) (.str (Str.ofString "repeat")) μ = .ok (.bl true) μ := by rw [eqStr (by decide +kernel) (by decide +kernel)]; rfl
theorem eq_gr (μ : Sto) : bE eqD false (.str (Str.ofString "guard")) (.str (Str.ofString "repeat")) μ = .ok (.bl false) μ := by rw [eqStr (by decide +kernel) (by decide +kernel)]; rfl
theorem eq_eg (μ : Sto) : bE eqD false (.str (Str.ofString "either")) (.str (Str.ofString "guard")) μ = .ok (.bl false) μ := by rw [eqStr (by decide +kernel) (by decide +kernel)]; rfl
theorem eq_rg (μ : Sto) : bE eqD false (.str (Str.ofString "repeat")) (.str (Str.ofString "guard")) μ = .ok (.bl false) μ := by rw [eqStr (by decide +kernel) (by decide +kernel)]; rfl
theorem eq_gg (μ : Sto) : bE eqD false (.str (Str.ofString "guard")) (.str (Str.ofString "guard")) μ = .ok (.bl true) μ := by rw [eqStr (by decide +kernel) (by decide +kernel)]; rfl
theorem ixTn (xs : List D) (k : Nat) {x : D} (h : xs[k]? = some x) (μ : Sto) : ixD (.tup xs) (.int k) μ = .ok x μ := by
  show M.opt (atI xs k) μ = _
  rw [at_nat (by omega) (x := x) (by simpa using h)]
  rfl
theorem inB_e (μ : Sto) : inF false (.str (Str.ofString "either")) BLS μ = .ok (.bl true) μ := rfl
theorem inB_r (μ : Sto) : inF false (.str (Str.ofString "repeat")) BLS μ = .ok (.bl true) μ := rfl
theorem inB_g (μ : Sto) : inF false (.str (Str.ofString "guard")) BLS μ = .ok (.bl true) μ := rfl
theorem ninB_e (μ : Sto) : inF true (.str (Str.ofString "either")) BLS μ = .ok (.bl false) μ := rfl
theorem ninB_r (μ : Sto) : inF true (.str (Str.ofString "repeat")) BLS μ = .ok (.bl false) μ := rfl
theorem ninB_g (μ : Sto) : inF true (.str (Str.ofString "guard")) BLS μ = .ok (.bl false) μ := rfl
/-- a row, a tuple or a list -/
def IsRow (r : List (Sx D)) (d : D) : Prop := d = .tup (r.map sd) ∨ d = .lst (r.map sd)
theorem IsRow.wk {r : List (Sx D)} {d : D} (h : IsRow r d) (μ : Sto) : wkD d μ = .ok (.fix (r.map sd)) μ := by rcases h with rfl | rfl <;> rfl
theorem IsRow.pu {r : List (Sx D)} {d : D} (h : IsRow r d) (k : PuL (r.map sd)) : Pu d := by rcases h with rfl | rfl <;> exact k
theorem Sim.puD {x : D} (h : Sim x) : Pu x := (h.pl 0).pu
theorem flt_pu : ∀ (n : Nat) {r : List (Sx D)}, WR n r → ∀ x ∈ flts r, Sim x
  | 0, _, h => h.elim
  | n + 1, r, h => by
    have ih := fun {r} => flt_pu n (r := r)
    have one : ∀ s, WS (WR n) s → ∀ x ∈ flt s, Sim x := by
      intro s w x hx
      cases s with
      | sim y => simp only [flt, List.mem_singleton] at hx; subst hx; exact w
      | eit a b => simp only [flt, List.mem_append] at hx; exact hx.elim (ih w.1 x) (ih w.2 x)
      | rep a => simp only [flt] at hx; exact ih w x hx
      | grd a b => simp only [flt, List.mem_append] at hx; exact hx.elim (ih w.1 x) (ih w.2 x)
    have all : ∀ {r : List (Sx D)}, (∀ s ∈ r, WS (WR n) s) → ∀ x ∈ flts r, Sim x := by
      intro r
      induction r with
      | nil => intro _ x hx; simp [flts] at hx
      | cons s r ih =>
        intro h x hx
        simp only [flts, List.mem_append] at hx
        exact hx.elim (one s (h s List.mem_cons_self) x) (ih (fun t ht => h t (List.mem_cons_of_mem _ ht)) x)
    exact all h.2
theorem flts_pu {n : Nat} {r : List (Sx D)} (h : WR n r) : PuL (flts r) := puAll fun x hx => (flt_pu n h x hx).puD
/-- simple: the statements in the order of the text -/
theorem t_simple (n : Nat) : ∀ (m : Nat), m ≤ 5 → ∀ {r : List (Sx D)} {d : D}, WR m r → IsRow r d → Fn (n + m) .fsimple [d] [] = .ok (.lst (flts r)) []
  | 0, _, _, _, h, _ => h.elim
  | m + 1, hm, r, d, h, hd => by
    have ih := fun {r d} => t_simple n m (by omega) (r := r) (d := d)
    rw [show n + (m + 1) = n + m + 1 from rfl, d_simple]
    have pu := flts_pu h
    have cp := WR.caps (m + 1) h
    have cl := cap_le hm
    refine fun_wpZ puL0 rfl ?_
    unfold bsimple
    refine seq_gen fun B hB => ?_
    simp [env0, newL0]
    subst hB
    refine seq_gen fun B hB => ?_
    refine for_gen fun F hF => ?_
    simp [hd.wk]
    obtain ⟨J, hJ⟩ : ∃ J : List (Sx D) → Vl.Env → Sto → Prop, ∀ pre Γ μ, J pre Γ μ ↔ ∃ z2 z3, μ = [.lst (flts pre)] ∧ Γ = [some d, some (.ob 0), z2, z3] := ⟨_, fun _ _ _ => Iff.rfl⟩
    refine w_forM sd J ((hJ _ _ _).mpr ⟨_, _, rfl, rfl⟩) ?_ ?_
    · intro pre x post Γ μ er h0
      obtain ⟨z2, z3, rfl, rfl⟩ := (hJ _ _ _).mp h0
      rw [w_up, x_gN, w_ok]
      subst hF
      have w := h.2 x (by rw [er]; simp)
      have ln : (flts pre).length + (flt x).length ≤ szs r := by
        rw [er, Pl.flts_len, Pl.flt_len]
        have : ∀ p : List (Sx D), szs (p ++ x :: post) = szs p + sz x + szs post := by
          intro p
          induction p with
          | nil => simp [szs]
          | cons t p ih => simp only [List.cons_append, szs, ih]; omega
        rw [this]
        omega
      have call : ∀ {a : List (Sx D)} {μ : Sto}, WR m a → callV 1 (Fn (n + m) .fsimple) [rd a] μ = .ok (.lst (flts a)) μ := fun w => callV_pu rfl (puL1 (WR.pl m w).2.pu) (ih w (.inl rfl)) (puLst (flts_pu w))
      cases x with
      | sim y =>
        obtain ⟨w1, rs, e, l3, h1, h2, h3⟩ := (show Sim y from w).head
        simp only [sd]
        subst e
        simp [ixT0, h1, isl_ob0, app0 (show (flts pre).length < 1000000 by omega)]
        exact (hJ _ _ _).mpr ⟨_, _, by rw [Pl.flts_snoc]; rfl, rfl⟩
      | eit a b =>
        rw [sd_eit]
        simp only [flt, List.length_append] at ln
        simp [ixT0, inB_e, sl1]
        rw [w_forC]
        simp [isl_ob0, call w.1, ext0 (show (flts pre).length + (flts a).length ≤ 1000000 by omega)]
        rw [w_forC]
        simp [isl_ob0, call w.2, ext0 (ys := flts pre ++ flts a) (zs := flts b) (by simp; omega)]
        exact (hJ _ _ _).mpr ⟨_, _, by rw [Pl.flts_snoc]; simp [flt], rfl⟩
      | rep a =>
        rw [sd_rep]
        simp only [flt] at ln
        simp [ixT0, inB_r, sl1]
        rw [w_forC]
        simp [isl_ob0, call w, ext0 (show (flts pre).length + (flts a).length ≤ 1000000 by omega)]
        exact (hJ _ _ _).mpr ⟨_, _, by rw [Pl.flts_snoc]; simp [flt], rfl⟩
      | grd a b =>
        rw [sd_grd]
        simp only [flt, List.length_append] at ln
        simp [ixT0, inB_g, sl1]
        rw [w_forC]
        simp [isl_ob0, call w.1, ext0 (show (flts pre).length + (flts a).length ≤ 1000000 by omega)]
        rw [w_forC]
        simp [isl_ob0, call w.2, ext0 (ys := flts pre ++ flts a) (zs := flts b) (by simp; omega)]
        exact (hJ _ _ _).mpr ⟨_, _, by rw [Pl.flts_snoc]; simp [flt], rfl⟩
    · intro Γ μ h0
      obtain ⟨z2, z3, rfl, rfl⟩ := (hJ _ _ _).mp h0
      rw [nx_nx]
      subst hB
      simp
      exact Fz.ob (Nat.zero_le _) rfl (puLst pu)
end K11

namespace Pl
variable {α : Type}
theorem szs_mid (x : Sx α) (post : List (Sx α)) : ∀ pre : List (Sx α), szs (pre ++ x :: post) = szs pre + sz x + szs post
  | [] => by simp [szs]
  | t :: pre => by simp only [List.cons_append, szs, szs_mid x post pre]; omega
theorem gds_mid (x : Sx α) (post : List (Sx α)) : ∀ pre : List (Sx α), gds (pre ++ x :: post) = gds pre + gd x + gds post
  | [] => by simp [gds]
  | t :: pre => by simp only [List.cons_append, gds, gds_mid x post pre]; omega
theorem fsts_mid {x : Sx α} {post : List (Sx α)} (hx : nul x = false) : ∀ {pre : List (Sx α)} (at_ : Int), nuls pre = true → fsts (pre ++ x :: post) at_ = fsts pre at_ ++ fst x (at_ + szs pre)
  | [], at_, _ => by simp [fsts, hx, szs]
  | t :: pre, at_, h => by
    simp only [nuls, Bool.and_eq_true] at h
    simp only [List.cons_append, fsts, szs, h.1, fsts_mid hx (at_ + sz t) h.2]
    have e : at_ + ((sz t + szs pre : Nat) : Int) = at_ + sz t + szs pre := by omega
    rw [e]
    simp
theorem nuls_mid {x : Sx α} {post : List (Sx α)} (hx : nul x = false) : ∀ {pre : List (Sx α)}, nuls (pre ++ x :: post) = false
  | [] => by simp [nuls, hx]
  | t :: pre => by simp only [List.cons_append, nuls, nuls_mid hx, Bool.and_false]
mutual
theorem fst_len : ∀ (s : Sx α) (at_ : Int), (fst s at_).length ≤ sz s
  | .sim _, _ => Nat.le_refl _
  | .eit a b, at_ => by simp only [fst, sz, List.length_append]; have := fsts_len a at_; have := fsts_len b (at_ + szs a); omega
  | .rep a, at_ => by simp only [fst, sz]; exact fsts_len a at_
  | .grd a b, at_ => by simp only [fst, sz]; have := fsts_len a at_; omega
theorem fsts_len : ∀ (r : List (Sx α)) (at_ : Int), (fsts r at_).length ≤ szs r
  | [], _ => Nat.le_refl _
  | s :: r, at_ => by
    simp only [fsts, szs, List.length_append]
    have := fst_len s at_
    have := fsts_len r (at_ + sz s)
    cases nul s <;> simp <;> omega
end
theorem aft_len (r : List (Sx α)) (at_ : Int) (Z : List Int) : (aft r at_ Z).length ≤ szs r + Z.length := by
  unfold aft
  have := fsts_len r at_
  rw [List.length_append]
  cases nuls r <;> simp <;> omega
end Pl

namespace K11
open PySem PySem.Spec PyProof.Rows L2 Vl

open Pl (Sx)
open Pl (szs sz flt flts nul nuls fst fsts gd gds aft)

theorem t_size (n : Nat) {m : Nat} (hm : m ≤ 5) {r : List (Sx D)} {d : D} (h : WR m r) (hd : IsRow r d) : Fn (n + m + 1) .fsize [d] [] = .ok (.int (szs r)) [] := by
  rw [d_size]
  refine fun_wp (puInt _) ?_
  have call : callV 1 (Fn (n + m) .fsimple) [d] [] = .ok (.lst (flts r)) [] := callV_pu rfl (puL1 (hd.pu (WR.pu h))) (t_simple n m hm h hd) (puLst (flts_pu h))
  unfold bsize
  simp [env0, call, lenD, Pl.flts_len]
theorem c_size {N m : Nat} (hN : m + 1 ≤ N) (hm : m ≤ 5) {r : List (Sx D)} {d : D} (h : WR m r) (hd : IsRow r d) (μ : Sto) : callV 1 (Fn N .fsize) [d] μ = .ok (.int (szs r)) μ := by
  obtain ⟨n, rfl⟩ : ∃ n, N = n + m + 1 := ⟨N - m - 1, by omega⟩
  exact callV_pu rfl (puL1 (hd.pu (WR.pu h))) (t_size n hm h hd) (puInt _)
theorem WR.one {m : Nat} {r : List (Sx D)} (h : WR m r) {s : Sx D} (hs : s ∈ r) : WR m [s] := by
  cases m with
  | zero => exact h.elim
  | succ m => exact ⟨by simp, fun t ht => by rw [List.mem_singleton.mp ht]; exact h.2 s hs⟩
theorem c_size1 {N m : Nat} (hN : m + 1 ≤ N) (hm : m ≤ 5) {r : List (Sx D)} (h : WR m r) {s : Sx D} (hs : s ∈ r) (μ : Sto) : callV 1 (Fn N .fsize) [.lst [sd s]] μ = .ok (.int (sz s)) μ := by
  have := c_size hN hm (WR.one h hs) (d := .lst [sd s]) (.inr rfl) μ
  rw [this]
  simp [szs]
abbrev ti (A : List Int) : D := .tup (A.map .int)
theorem t_union (n : Nat) {A B : List Int} (h : A.length + B.length ≤ 4000) : Fn (n + 1) .funion [ti A, ti B] [] = .ok (ti (Vl.sortU (A ++ B))) [] := by
  rw [d_union]
  refine fun_wp (puTupI _) ?_
  have ad : addD false (ti A) (ti B) [] = .ok (ti (A ++ B)) [] := by
    have := addD_tup (m := false) (xs := A.map D.int) (ys := B.map D.int) (μ := []) (by simp; unfold many; omega)
    rw [this]
    show _ = O.ok (D.tup ((A ++ B).map D.int)) []
    rw [List.map_append]
  have so : sortSetL [ti (A ++ B)] [] = .ok (.lst ((Vl.sortU (A ++ B)).map D.int)) [] := sortSetL_is rfl (by simp; omega)
  unfold bunion
  simp [env0, ad, so, tupleD]
theorem c_union {N : Nat} (hN : 1 ≤ N) {A B : List Int} (h : A.length + B.length ≤ 4000) (μ : Sto) : callV 2 (Fn N .funion) [ti A, ti B] μ = .ok (ti (Vl.sortU (A ++ B))) μ := by
  obtain ⟨n, rfl⟩ : ∃ n, N = n + 1 := ⟨N - 1, by omega⟩
  exact callV_pu rfl (puL2 (puTupI _) (puTupI _)) (t_union n h) (puTupI _)
theorem szs_in {x : Sx D} {r : List (Sx D)} (h : x ∈ r) : sz x ≤ szs r := by
  obtain ⟨pre, post, rfl⟩ := List.append_of_mem h
  rw [Pl.szs_mid]
  omega
/-- opening: the places that can be first, and whether the rows may be passed -/
theorem t_opening (n : Nat) : ∀ (m : Nat), m ≤ 5 → ∀ {r : List (Sx D)} (at_ : Int), WR m r → szs r ≤ 1500 → Fn (n + m + 2) .fopening [rd r, .int at_] [] = .ok (.tup [ti (Vl.sortU (fsts r at_)), .bl (nuls r)]) []
  | 0, _, _, _, h, _ => h.elim
  | m + 1, hm, r, at_, h, hz => by
    have ih := fun {r} => t_opening n m (by omega) (r := r)
    rw [show n + (m + 1) + 2 = n + m + 2 + 1 by omega, d_opening]
    refine fun_wp (puTup (puL2 (puTupI _) (puBl _))) ?_
    unfold bopening
    refine seq_gen fun B hB => ?_
    simp [env0]
    subst hB
    refine seq_gen fun B hB => ?_
    refine for_gen fun F hF => ?_
    simp
    obtain ⟨J, hJ⟩ : ∃ J : List (Sx D) → Vl.Env → Sto → Prop, ∀ pre Γ μ, J pre Γ μ ↔ nuls pre = true ∧ μ = [] ∧ ∃ z3 z4 z5 z6 z7, Γ = [some (rd r), some (.int (at_ + szs pre)), some (ti (Vl.sortU (fsts pre at_))), z3, z4, z5, z6, z7] := ⟨_, fun _ _ _ => Iff.rfl⟩
    refine w_forM sd J ((hJ _ _ _).mpr ⟨rfl, rfl, none, none, none, none, none, by simp [szs, fsts]; rfl⟩) ?_ ?_
    · intro pre x post Γ μ er h0
      obtain ⟨np, rfl, z3, z4, z5, z6, z7, rfl⟩ := (hJ _ _ _).mp h0
      rw [w_up, x_gN, w_ok]
      subst hF
      have xin : x ∈ r := by rw [er]; simp
      have w := h.2 x xin
      have zx := szs_in xin
      have s1 := c_size1 (N := n + m + 2) (by omega) hm h xin
      have s2 := fun {a : List (Sx D)} (w : WR m a) => c_size (N := n + m + 2) (by omega) (by omega) w (.inl rfl)
      have call : ∀ {a : List (Sx D)} {μ : Sto} (k : Int), WR m a → szs a ≤ 1500 → callV 2 (Fn (n + m + 2) .fopening) [rd a, .int k] μ = .ok (.tup [ti (Vl.sortU (fsts a k)), .bl (nuls a)]) μ := fun k w z => callV_pu rfl (puL2 (WR.pl m w).2.pu (puInt _)) (ih k w z) (puTup (puL2 (puTupI _) (puBl _)))
      have lp : (Vl.sortU (fsts pre at_)).length ≤ 1500 := by
        have := sortU_len (fsts pre at_)
        have := Pl.fsts_len pre at_
        have : szs r = szs pre + sz x + szs post := by rw [er, Pl.szs_mid]
        omega
      have un := fun {A B : List Int} (h : A.length + B.length ≤ 4000) => c_union (N := n + m + 2) (by omega) h
      have un1 : ∀ {A : List Int} {k : Int} {μ : Sto}, A.length + 1 ≤ 4000 → callV 2 (Fn (n + m + 2) .funion) [ti A, .tup [.int k]] μ = .ok (ti (Vl.sortU (A ++ [k]))) μ := fun {A k μ} h => un (A := A) (B := [k]) h μ
      refine seq_gen fun B1 hB1 => ?_
      cases x with
      | sim y =>
        obtain ⟨w1, rs, e, l3, h1, h2, h3⟩ := (show Sim y from w).head
        simp only [sd]
        subst e
        simp [ixT0, h2, un1 (A := Vl.sortU (fsts pre at_)) (by omega)]
        rw [Pl.sortU_l, er, Pl.fsts_mid (x := .sim _) rfl _ np, Pl.nuls_mid (x := .sim _) rfl]
        exact ⟨rfl, rfl⟩
      | eit a b =>
        rw [sd_eit] at s1 ⊢
        simp only [sz] at zx
        have la := Pl.fsts_len a (at_ + szs pre)
        have lb := Pl.fsts_len b (at_ + szs pre + szs a)
        have ua := sortU_len (fsts a (at_ + szs pre))
        have ub := sortU_len (fsts b (at_ + szs pre + szs a))
        simp [ixT0, ninB_e]
        subst hB1
        refine seq_gen fun B1 hB1 => ?_
        simp [ixT1, call _ w.1 (by omega), Vl.gTup, Vl.gCons, Vl.gNil]
        subst hB1
        refine seq_gen fun B1 hB1 => ?_
        simp [ixT0, eq_ee, ixT1, ixT2, s2 w.1, call _ w.2 (show szs b ≤ 1500 by omega), Vl.gTup, Vl.gCons, Vl.gNil, un (A := Vl.sortU (fsts a (at_ + szs pre))) (B := Vl.sortU (fsts b (at_ + szs pre + szs a))) (by omega), truthD]
        have l4 : (Vl.sortU (fsts pre at_)).length + (Vl.sortU (fst (.eit a b) (at_ + szs pre))).length ≤ 4000 := by
          have := sortU_len (fst (.eit a b) (at_ + szs pre))
          have := Pl.fst_len (.eit a b) (at_ + szs pre)
          simp only [sz] at this
          omega
        have e4 : Vl.sortU (Vl.sortU (fsts a (at_ + szs pre)) ++ Vl.sortU (fsts b (at_ + szs pre + szs a))) = Vl.sortU (fst (.eit a b) (at_ + szs pre)) := Pl.sortU_lr _ _
        rw [e4]
        have tail : ∀ (p : Bool) (z6 z7 : Option D), p = nul (.eit a b) → Wp (B1 [some (rd r), some (.int (at_ + szs pre)), some (ti (Vl.sortU (fsts pre at_))), some (.tup [.str (Str.ofString "either"), rd a, rd b]), some (ti (Vl.sortU (fst (.eit a b) (at_ + szs pre)))), some (.bl p), z6, z7] []) (fun f μ => LoopK f (fun Γ' => J (pre ++ [.eit a b]) Γ' μ) fun f => Nx f (fun Γ' => Wp (B Γ' μ) (fun f x => f = Fl.rt (.tup [ti (Vl.sortU (fsts r at_)), .bl (nuls r)])) fun _ _ => False) fun f => f = Fl.rt (.tup [ti (Vl.sortU (fsts r at_)), .bl (nuls r)])) fun _ _ => False := by
          intro p z6 z7 hp
          subst hB1
          refine seq_gen fun B1 hB1 => ?_
          simp [un l4]
          subst hB1
          refine seq_gen fun B1 hB1 => ?_
          simp [truthD, ixT0, eq_er]
          cases p with
          | false =>
            simp
            rw [Pl.sortU_lr, er, Pl.fsts_mid (x := .eit a b) hp.symm _ np, Pl.nuls_mid (x := .eit a b) hp.symm]
            exact ⟨rfl, rfl⟩
          | true =>
            subst hB1
            simp [s1]
            have e1 : at_ + ((szs (pre ++ [.eit a b]) : Nat) : Int) = at_ + szs pre + sz (.eit a b) := by rw [Pl.szs_snoc]; omega
            have e2 : Vl.sortU (fsts (pre ++ [.eit a b]) at_) = Vl.sortU (Vl.sortU (fsts pre at_) ++ Vl.sortU (fst (.eit a b) (at_ + szs pre))) := by rw [Pl.sortU_lr, Pl.fsts_snoc, np]; rfl
            refine (hJ _ _ _).mpr ⟨by rw [Pl.nuls_snoc, np, ← hp]; rfl, rfl, ?_⟩
            rw [e1, e2]
            exact ⟨_, _, _, _, _, rfl⟩
        cases c : nuls a with
        | true =>
          simp
          exact tail true _ _ (by simp [nul, c])
        | false =>
          simp
          exact tail (nuls b) _ _ (by simp [nul, c])
      | rep a =>
        rw [sd_rep] at s1 ⊢
        simp only [sz] at zx
        have la := Pl.fsts_len a (at_ + szs pre)
        have ua := sortU_len (fsts a (at_ + szs pre))
        simp [ixT0, ninB_r]
        subst hB1
        refine seq_gen fun B1 hB1 => ?_
        simp [ixT1, call _ w (show szs a ≤ 1500 by omega), Vl.gTup, Vl.gCons, Vl.gNil]
        subst hB1
        refine seq_gen fun B1 hB1 => ?_
        simp [ixT0, eq_re]
        have l4 : (Vl.sortU (fsts pre at_)).length + (Vl.sortU (fst (.rep a) (at_ + szs pre))).length ≤ 4000 := by
          have := sortU_len (fst (.rep a) (at_ + szs pre))
          have := Pl.fst_len (.rep a) (at_ + szs pre)
          simp only [sz] at this
          omega
        have tail : ∀ (p : Bool) (z6 z7 : Option D), Wp (B1 [some (rd r), some (.int (at_ + szs pre)), some (ti (Vl.sortU (fsts pre at_))), some (.tup [.str (Str.ofString "repeat"), rd a]), some (ti (Vl.sortU (fst (.rep a) (at_ + szs pre)))), some (.bl p), z6, z7] []) (fun f μ => LoopK f (fun Γ' => J (pre ++ [.rep a]) Γ' μ) fun f => Nx f (fun Γ' => Wp (B Γ' μ) (fun f x => f = Fl.rt (.tup [ti (Vl.sortU (fsts r at_)), .bl (nuls r)])) fun _ _ => False) fun f => f = Fl.rt (.tup [ti (Vl.sortU (fsts r at_)), .bl (nuls r)])) fun _ _ => False := by
          intro p z6 z7
          subst hB1
          refine seq_gen fun B1 hB1 => ?_
          simp [un l4]
          subst hB1
          refine seq_gen fun B1 hB1 => ?_
          have fin : Wp (B1 [some (rd r), some (.int (at_ + szs pre)), some (ti (Vl.sortU (Vl.sortU (fsts pre at_) ++ Vl.sortU (fst (.rep a) (at_ + szs pre))))), some (.tup [.str (Str.ofString "repeat"), rd a]), some (ti (Vl.sortU (fst (.rep a) (at_ + szs pre)))), some (.bl p), z6, z7] []) (fun f μ => LoopK f (fun Γ' => J (pre ++ [.rep a]) Γ' μ) fun f => Nx f (fun Γ' => Wp (B Γ' μ) (fun f x => f = Fl.rt (.tup [ti (Vl.sortU (fsts r at_)), .bl (nuls r)])) fun _ _ => False) fun f => f = Fl.rt (.tup [ti (Vl.sortU (fsts r at_)), .bl (nuls r)])) fun _ _ => False := by
            subst hB1
            simp [s1]
            have e1 : at_ + ((szs (pre ++ [.rep a]) : Nat) : Int) = at_ + szs pre + sz (.rep a) := by rw [Pl.szs_snoc]; omega
            have e2 : Vl.sortU (fsts (pre ++ [.rep a]) at_) = Vl.sortU (Vl.sortU (fsts pre at_) ++ Vl.sortU (fst (.rep a) (at_ + szs pre))) := by rw [Pl.sortU_lr, Pl.fsts_snoc, np]; rfl
            refine (hJ _ _ _).mpr ⟨by rw [Pl.nuls_snoc, np]; rfl, rfl, ?_⟩
            rw [e1, e2]
            exact ⟨_, _, _, _, _, rfl⟩
          cases p with
          | false => simpa [truthD, ixT0, eq_rr] using fin
          | true => simpa [truthD] using fin
        exact tail _ _ _
      | grd a b =>
        rw [sd_grd] at s1 ⊢
        simp only [sz] at zx
        have la := Pl.fsts_len a (at_ + szs pre)
        have ua := sortU_len (fsts a (at_ + szs pre))
        simp [ixT0, ninB_g]
        subst hB1
        refine seq_gen fun B1 hB1 => ?_
        simp [ixT1, call _ w.1 (show szs a ≤ 1500 by omega), Vl.gTup, Vl.gCons, Vl.gNil]
        subst hB1
        refine seq_gen fun B1 hB1 => ?_
        simp [ixT0, eq_ge]
        have l4 : (Vl.sortU (fsts pre at_)).length + (Vl.sortU (fst (.grd a b) (at_ + szs pre))).length ≤ 4000 := by
          have := sortU_len (fst (.grd a b) (at_ + szs pre))
          have := Pl.fst_len (.grd a b) (at_ + szs pre)
          simp only [sz] at this
          omega
        have tail : ∀ (p : Bool) (z6 z7 : Option D), p = nul (.grd a b) → Wp (B1 [some (rd r), some (.int (at_ + szs pre)), some (ti (Vl.sortU (fsts pre at_))), some (.tup [.str (Str.ofString "guard"), rd a, rd b]), some (ti (Vl.sortU (fst (.grd a b) (at_ + szs pre)))), some (.bl p), z6, z7] []) (fun f μ => LoopK f (fun Γ' => J (pre ++ [.grd a b]) Γ' μ) fun f => Nx f (fun Γ' => Wp (B Γ' μ) (fun f x => f = Fl.rt (.tup [ti (Vl.sortU (fsts r at_)), .bl (nuls r)])) fun _ _ => False) fun f => f = Fl.rt (.tup [ti (Vl.sortU (fsts r at_)), .bl (nuls r)])) fun _ _ => False := by
          intro p z6 z7 hp
          subst hB1
          refine seq_gen fun B1 hB1 => ?_
          simp [un l4]
          subst hB1
          refine seq_gen fun B1 hB1 => ?_
          simp [truthD, ixT0, eq_gr]
          cases p with
          | false =>
            simp
            rw [Pl.sortU_lr, er, Pl.fsts_mid (x := .grd a b) hp.symm _ np, Pl.nuls_mid (x := .grd a b) hp.symm]
            exact ⟨rfl, rfl⟩
          | true =>
            subst hB1
            simp [s1]
            have e1 : at_ + ((szs (pre ++ [.grd a b]) : Nat) : Int) = at_ + szs pre + sz (.grd a b) := by rw [Pl.szs_snoc]; omega
            have e2 : Vl.sortU (fsts (pre ++ [.grd a b]) at_) = Vl.sortU (Vl.sortU (fsts pre at_) ++ Vl.sortU (fst (.grd a b) (at_ + szs pre))) := by rw [Pl.sortU_lr, Pl.fsts_snoc, np]; rfl
            refine (hJ _ _ _).mpr ⟨by rw [Pl.nuls_snoc, np, ← hp]; rfl, rfl, ?_⟩
            rw [e1, e2]
            exact ⟨_, _, _, _, _, rfl⟩
        exact tail (nuls a) _ _ rfl
    · intro Γ μ h0
      obtain ⟨np, rfl, z3, z4, z5, z6, z7, rfl⟩ := (hJ _ _ _).mp h0
      rw [nx_nx]
      subst hB
      simp [np]
end K11

namespace Pl
variable {α : Type}
open Vl (sortU mem_sortU sortU_asc)
mutual
/-- places, as the program lays them -/
def pe : Sx α → Int → List Int → List Int → List (Int × α × List Int × List Int)
  | .sim x, at_, A, C => [(at_, x, A, C)]
  | .eit a b, at_, A, C => pes a at_ A C ++ pes b (at_ + szs a) A C
  | .rep a, at_, A, C => pes a at_ (fsts a at_ ++ A) C
  | .grd a b, at_, A, C => pes a at_ A (aft b (at_ + szs a) A) ++ pes b (at_ + szs a) A C
def pes : List (Sx α) → Int → List Int → List Int → List (Int × α × List Int × List Int)
  | [], _, _, _ => []
  | s :: r, at_, A, C => pe s at_ (aft r (at_ + sz s) A) C ++ pes r (at_ + sz s) A C
end
mutual
theorem en_pe : ∀ (s : Sx α) at_ k Z A g C, (en s at_ k Z A g C).map (fun e => (e.at_, e.x, e.A, e.C)) = pe s at_ A C
  | .sim _, _, _, _, _, _, _ => rfl
  | .eit a b, _, _, _, _, _, _ => by simp [en, pe, ens_pes a, ens_pes b]
  | .rep a, _, _, _, _, _, _ => by simp [en, pe, ens_pes a]
  | .grd a b, _, _, _, _, _, _ => by simp [en, pe, ens_pes a, ens_pes b]
theorem ens_pes : ∀ (s : List (Sx α)) at_ k Z A g C, (ens s at_ k Z A g C).map (fun e => (e.at_, e.x, e.A, e.C)) = pes s at_ A C
  | [], _, _, _, _, _, _ => rfl
  | s :: r, _, _, _, _, _, _ => by simp [ens, pes, en_pe s, ens_pes r]
end
theorem pes_at (r : List (Sx α)) (at_ : Int) (A C : List Int) : (pes r at_ A C).map (·.1) = (List.range (szs r)).map fun i : Nat => at_ + (i : Int) := by
  rw [← ens_pes r at_ 0 [] A 0 C, List.map_map, ← ens_at r at_ 0 [] A 0 C]
  rfl
theorem pes_in {r : List (Sx α)} {at_ : Int} {A C : List Int} {e : Int × α × List Int × List Int} (h : e ∈ pes r at_ A C) : at_ ≤ e.1 ∧ e.1 < at_ + szs r := by
  have : e.1 ∈ (pes r at_ A C).map (·.1) := List.mem_map.mpr ⟨e, h, rfl⟩
  rw [pes_at] at this
  obtain ⟨i, hi, e2⟩ := List.mem_map.mp this
  have := List.mem_range.mp hi
  omega
theorem asc_len : ∀ {l : List Int} {lo hi : Int}, l.Pairwise (· < ·) → (∀ p ∈ l, lo ≤ p ∧ p ≤ hi) → (l.length : Int) ≤ max 0 (hi - lo + 1)
  | [], _, _, _, _ => by simp; omega
  | x :: l, lo, hi, h, k => by
    obtain ⟨h1, h2⟩ := List.pairwise_cons.mp h
    have kx := k x List.mem_cons_self
    have := asc_len (lo := x + 1) (hi := hi) h2 fun p hp => ⟨by have := h1 p hp; omega, (k p (List.mem_cons_of_mem _ hp)).2⟩
    simp only [List.length_cons]
    omega
theorem sortU_range {A : List Int} {M : Int} (hM : 0 ≤ M) (h : ∀ p ∈ A, 0 ≤ p ∧ p ≤ M) : ((sortU A).length : Int) ≤ M + 1 := by
  have := asc_len (sortU_asc A) (lo := 0) (hi := M) fun p hp => h p (mem_sortU.mp hp)
  omega
theorem aft_in {r : List (Sx α)} {at_ : Int} {A : List Int} {M : Int} (h0 : 0 ≤ at_) (h1 : at_ + szs r ≤ M) (h : ∀ p ∈ A, 0 ≤ p ∧ p ≤ M) : ∀ p ∈ aft r at_ A, 0 ≤ p ∧ p ≤ M := by
  intro p hp
  unfold aft at hp
  rcases List.mem_append.mp hp with hp | hp
  · have := fsts_ge r at_ p hp; omega
  · cases c : nuls r with
    | false => rw [c] at hp; simp at hp
    | true => rw [c] at hp; exact h p (by simpa using hp)
end Pl
namespace Pl
theorem aft_cons {α : Type} (s : Sx α) (r : List (Sx α)) (at_ : Int) (A : List Int) : aft (s :: r) at_ A = fst s at_ ++ if nul s then aft r (at_ + sz s) A else [] := by
  unfold aft
  rcases Bool.eq_false_or_eq_true (nul s) with c | c <;> simp [fsts, nuls, c]
theorem snoc_of {α : Type} : ∀ {l : List α}, 1 ≤ l.length → ∃ p z, l = p ++ [z]
  | [], h => by simp at h
  | [x], _ => ⟨[], x, rfl⟩
  | x :: y :: l, _ => by
    obtain ⟨p, z, e⟩ := snoc_of (l := y :: l) (by simp)
    exact ⟨x :: p, z, by rw [e]; rfl⟩
end Pl

/-! calls that are handed the first things of the store, in order -/
namespace Vl
open PySem PySem.Spec PyProof.Rows L2
theorem idx_range {j k : Nat} (h : k < j) : idx? (List.range j) k = some k := by
  have go : ∀ (s : Nat) (l : List Nat), (∀ i, i < l.length → l[i]? = some (s + i)) → ∀ i, i < l.length → idx? l (s + i) = some i := by
    intro s l
    induction l generalizing s with
    | nil => intro _ i hi; simp at hi
    | cons a l ih =>
      intro h i hi
      have ha : a = s := by simpa using h 0 (by simp)
      subst ha
      unfold idx?
      cases i with
      | zero => simp
      | succ i =>
        rw [show (a == a + (i + 1)) = false from beq_eq_false_iff_ne.mpr (by omega)]
        have := ih (a + 1) (fun k hk => by have := h (k + 1) (by simpa using hk); rw [show a + 1 + k = a + (k + 1) by omega]; simpa using this) i (by simpa using hi)
        rw [show a + 1 + i = a + (i + 1) by omega] at this
        rw [this]
        rfl
  have := go 0 (List.range j) (fun i hi => by simp at hi; simp [hi]) k (by simpa using h)
  simpa using this
theorem idx_out {ks : List Nat} {k : Nat} (h : k ∉ ks) : idx? ks k = none := by
  induction ks with
  | nil => rfl
  | cons a r ih =>
    simp only [List.mem_cons, not_or] at h
    unfold idx?
    rw [show (a == k) = false from beq_eq_false_iff_ne.mpr (Ne.symm h.1), ih h.2]
    rfl
theorem reach_fr {μ : Sto} : ∀ (todo : List Nat) (n : Nat) (seen : List Nat), todo.length < n → (seen ++ todo).Nodup → (∀ k ∈ todo, muts ((μ[k]?).getD .non) = []) → reach μ n todo seen = seen ++ todo
  | [], n, seen, _, _, _ => by rw [reach_nil, List.append_nil]
  | k :: todo, 0, _, h, _, _ => by omega
  | k :: todo, n + 1, seen, h, nd, hp => by
    have nk : k ∉ seen := fun z => (List.nodup_append.mp nd).2.2 k z k List.mem_cons_self rfl
    unfold reach
    rw [idx_out nk, hp k List.mem_cons_self]
    show reach μ n (todo ++ []) (seen ++ [k]) = _
    rw [List.append_nil, reach_fr todo n (seen ++ [k]) (by simp at h; omega) (by simpa using nd) fun j hj => hp j (List.mem_cons_of_mem _ hj), List.append_assoc]
    rfl
theorem wb_off (ks : List Nat) (os : List D) : ∀ (n : Nat) (μ : Sto), (∀ k ∈ ks, k < n) → wb ks os n μ = μ
  | _, [], _ => rfl
  | n, d :: μ, h => by
    show (match idx? ks n with | some i => os.getD i d | none => d) :: wb ks os (n + 1) μ = _
    rw [idx_out (fun z => by have := h n z; omega), wb_off ks os (n + 1) μ fun k hk => by have := h k hk; omega]
theorem wb_front {j : Nat} : ∀ (n : Nat) (os os' : List D) (r : Sto), os.length = os'.length - n → os'.length = j → n ≤ j → wb (List.range j) os' n (os ++ r) = os'.drop n ++ r
  | n, [], os', r, h1, h2, h3 => by
    have e : n = j := by simp at h1; omega
    subst e
    rw [List.nil_append, wb_off _ _ _ _ (fun k hk => by simpa using hk), List.drop_eq_nil_of_le (by omega)]
    rfl
  | n, o :: os, os', r, h1, h2, h3 => by
    have lt : n < j := by simp at h1; omega
    show (match idx? (List.range j) n with | some i => os'.getD i o | none => o) :: wb (List.range j) os' (n + 1) (os ++ r) = _
    rw [idx_range lt, wb_front (n + 1) os os' r (by simp at h1; omega) h2 lt]
    dsimp only
    rw [List.getD_eq_getElem?_getD, List.getElem?_eq_getElem (by omega), Option.getD_some, ← List.cons_append, List.getElem_cons_drop]
theorem getAll_front {os : List D} {r : Sto} : ∀ (n : Nat) (ks : List Nat), ks = (List.range os.length).drop n → n ≤ os.length → getAll (os ++ r) ks = some (os.drop n)
  | n, [], h, l => by
    have := congrArg List.length h
    simp at this
    have e : n = os.length := by omega
    rw [e, List.drop_length]
    rfl
  | n, k :: ks, h, l => by
    have lt : n < os.length := by
      have := congrArg List.length h
      simp at this
      omega
    have e : (List.range os.length).drop n = n :: (List.range os.length).drop (n + 1) := by
      rw [← List.getElem_cons_drop (by simpa using lt)]
      simp
    rw [e] at h
    obtain ⟨h1, h2⟩ := List.cons.inj h
    have e2 : (os ++ r)[k]? = some os[n] := by rw [h1, List.getElem?_append_left lt, List.getElem?_eq_getElem lt]
    unfold getAll
    rw [e2, h2, getAll_front (n + 1) _ rfl lt]
    show some (os[n] :: os.drop (n + 1)) = _
    rw [List.getElem_cons_drop]
/-- the call -/
theorem callV_front {n : Nat} {f : List D → M D} {ds os os' : List D} {d : D} {r : Sto} (hl : ds.length = n) (hm : mutsL ds = List.range os.length) (hj : os.length < 1000) (ho : PuL os) (hf : f ds os = .ok d os') (hd : Pu d) (ho' : PuL os') (len : os'.length = os.length) : callV n f ds (os ++ r) = .ok d (os' ++ r) := by
  have hr : reach (os ++ r) 1000 (mutsL ds) [] = List.range os.length := by
    rw [hm, reach_fr _ _ _ (by simpa using hj) (by simpa using List.nodup_range) fun k hk => ?_, List.nil_append]
    have lt : k < os.length := by simpa using hk
    rw [List.getElem?_append_left lt, List.getElem?_eq_getElem lt, Option.getD_some]
    have : ∀ {xs : List D}, PuL xs → ∀ x ∈ xs, muts x = [] := by
      intro xs
      induction xs with
      | nil => intro _ x hx; cases hx
      | cons y xs ih =>
        intro h x hx
        have h : muts y ++ mutsL xs = [] := h
        obtain ⟨h1, h2⟩ := List.append_eq_nil_iff.mp h
        rcases List.mem_cons.mp hx with rfl | hx
        · exact h1
        · exact ih h2 x hx
    exact this ho _ (List.getElem_mem lt)
  have hmm : mapMuts (fun k => (idx? (List.range os.length) k).map D.ob) ds = some ds := mapMuts_id _ _ fun k hk => by
    rw [hm] at hk
    rw [idx_range (by simpa using hk)]
    rfl
  have hg : getAll (os ++ r) (List.range os.length) = some os := by
    have := getAll_front (os := os) (r := r) 0 (List.range os.length) (by simp) (by omega)
    simpa using this
  have := callV_cells (n := n) (f := f) (ds := ds) (μ := os ++ r) hl hr hmm hg ho hf hd ho' (by rw [List.length_range]; omega)
  rw [this]
  congr 1
  have := wb_front (j := os.length) 0 os os' r (by omega) len (by omega)
  simpa using this
end Vl
namespace Vl
open PySem PySem.Spec PyProof.Rows L2
theorem wp_ex {α τ : Type} {o : O α} {P : τ → α → Sto → Prop} (h : Wp o (fun a m => ∃ t, P t a m) fun _ _ => False) : ∃ t, Wp o (P t) fun _ _ => False := by
  cases h with
  | ok h => exact h.elim fun t h => ⟨t, .ok h⟩
  | exc h => exact h.elim
theorem range_get {α β : Type} (xs : List α) (g : α → β) (d : β) : (List.range xs.length).map (fun j => (xs[j]?).elim d g) = xs.map g := by
  apply List.ext_getElem
  · simp
  · intro i h1 h2
    simp only [List.length_map] at h2
    simp [List.getElem?_eq_getElem h2]
end Vl
namespace Vl
theorem wp_post {α : Type} {o : O α} {Q : α → Sto → Prop} {P : Prop} (h : Wp o Q fun _ _ => False) (k : ∀ a m, Q a m → P) : P := by
  cases h with
  | ok h => exact k _ _ h
  | exc h => exact h.elim
end Vl
namespace Vl
theorem callV_at {n k : Nat} {f : List D → M D} {ds ds' : List D} {d o o' : D} {μ : Sto} (hl : ds.length = n) (hm : mutsL ds = [k]) (hmap : mapMuts (fun j => (idx? [k] j).map D.ob) ds = some ds') (hk : μ[k]? = some o) (ho : Pu o) (hf : f ds' [o] = .ok d [o']) (hd : Pu d) (ho' : Pu o') : callV n f ds μ = .ok d (μ.set k o') := by
  have hr : reach μ 1000 (mutsL ds) [] = [k] := by
    rw [hm, reach_fr [k] 1000 [] (by simp) (by simp) fun j hj => ?_]
    · rfl
    · rw [List.mem_singleton.mp hj, hk]
      exact ho
  have hg : getAll μ [k] = some [o] := by
    unfold getAll
    rw [hk]
    rfl
  have := callV_cells (n := n) (f := f) hl hr hmap hg (puL1 ho) hf hd (puL1 ho') (by simp)
  rw [this, wb_set o' μ 0 k (by omega)]
  simp
end Vl

namespace K11
open PySem PySem.Spec PyProof.Rows L2 Vl

open Pl (Sx)
open Pl (szs sz flt flts nul nuls fst fsts gd gds aft)

open Vl (sortU ovE)
def entD (e : Int × D × List Int × List Int) : Int × D := (e.1, .tup [e.2.1, ti (if endD e.2.1 then [] else sortU e.2.2.1), ti (sortU e.2.2.2)])
abbrev pesD (r : List (Sx D)) (at_ : Int) (A C : List Int) : List (Int × D) := (Pl.pes r at_ A C).map entD
abbrev peD (s : Sx D) (at_ : Int) (A C : List Int) : List (Int × D) := (Pl.pe s at_ A C).map entD
theorem pesD_in {r : List (Sx D)} {at_ : Int} {A C : List Int} {p : Int × D} (h : p ∈ pesD r at_ A C) : at_ ≤ p.1 ∧ p.1 < at_ + szs r := by
  obtain ⟨e, he, rfl⟩ := List.mem_map.mp h
  exact Pl.pes_in he
def LayOk (N m : Nat) : Prop := ∀ (r : List (Sx D)) (at_ : Int) (A C : List Int) (tb : D) (f : Int → Option D) (cnt : Nat), WR m r → 0 ≤ at_ → at_ + szs r ≤ 1500 → (∀ p ∈ A, 0 ≤ p ∧ p ≤ 1500) → DkIs tb f cnt → cnt + szs r ≤ 100000 →
  ∃ tb', DkIs tb' (ovE (pesD r at_ A C) f) (cnt + szs r) ∧ Fn N .flay [rd r, .int at_, ti (sortU A), ti (sortU C), .ob 0] [tb] = .ok (ti (sortU (aft r at_ A))) [tb']
def BlkOk (N m : Nat) : Prop := ∀ (x : Sx D) (at_ : Int) (A C : List Int) (tb : D) (f : Int → Option D) (cnt : Nat), WS (WR m) x → (∀ y, x ≠ .sim y) → 0 ≤ at_ → at_ + sz x ≤ 1500 → (∀ p ∈ A, 0 ≤ p ∧ p ≤ 1500) → DkIs tb f cnt → cnt + sz x ≤ 100000 →
  ∃ tb', DkIs tb' (ovE (peD x at_ A C) f) (cnt + sz x) ∧ Fn N .flay_block [sd x, .int at_, ti (sortU A), ti (sortU C), .ob 0] [tb] = .ok (ti (sortU (fst x at_ ++ if nul x then A else []))) [tb']
theorem m5 {d1 d2 d3 d4 : D} (h1 : Pu d1) (h2 : Pu d2) (h3 : Pu d3) (h4 : Pu d4) : mutsL [d1, d2, d3, d4, .ob 0] = List.range 1 := by
  show muts d1 ++ (muts d2 ++ (muts d3 ++ (muts d4 ++ ([0] ++ [])))) = [0]
  rw [show muts d1 = [] from h1, show muts d2 = [] from h2, show muts d3 = [] from h3, show muts d4 = [] from h4]
  rfl
theorem c_lay {N m : Nat} (h : LayOk N m) {r : List (Sx D)} {at_ : Int} {A C : List Int} {tb : D} {f : Int → Option D} {cnt : Nat} (w : WR m r) (h0 : 0 ≤ at_) (h1 : at_ + szs r ≤ 1500) (hA : ∀ p ∈ A, 0 ≤ p ∧ p ≤ 1500) (hd : DkIs tb f cnt) (hc : cnt + szs r ≤ 100000) : ∃ tb', DkIs tb' (ovE (pesD r at_ A C) f) (cnt + szs r) ∧ ∀ μ, callV 5 (Fn N .flay) [rd r, .int at_, ti (sortU A), ti (sortU C), .ob 0] (tb :: μ) = .ok (ti (sortU (aft r at_ A))) (tb' :: μ) := by
  obtain ⟨tb', h', e⟩ := h r at_ A C tb f cnt w h0 h1 hA hd hc
  exact ⟨tb', h', fun μ => callV_front (os := [tb]) (os' := [tb']) rfl (m5 (WR.pl m w).2.pu (puInt _) (puTupI _) (puTupI _)) (by simp) (puL1 hd.pu) e (puTupI _) (puL1 h'.pu) rfl⟩
theorem c_layK {N m : Nat} (h : LayOk N m) {r : List (Sx D)} {at_ : Int} {A C : List Int} {tb : D} {f : Int → Option D} {cnt : Nat} (w : WR m r) (h0 : 0 ≤ at_) (h1 : at_ + szs r ≤ 1500) (hA : ∀ p ∈ A, 0 ≤ p ∧ p ≤ 1500) (hd : DkIs tb f cnt) (hc : cnt + szs r ≤ 100000) : ∃ tb', DkIs tb' (ovE (pesD r at_ A C) f) (cnt + szs r) ∧ ∀ (o : D) (μ : Sto), callV 5 (Fn N .flay) [rd r, .int at_, ti (sortU A), ti (sortU C), .ob 1] (o :: tb :: μ) = .ok (ti (sortU (aft r at_ A))) (o :: tb' :: μ) := by
  obtain ⟨tb', h', e⟩ := h r at_ A C tb f cnt w h0 h1 hA hd hc
  refine ⟨tb', h', fun o μ => ?_⟩
  have p1 := (WR.pl m w).2.pu
  refine callV_at (k := 1) rfl ?_ ?_ rfl hd.pu e (puTupI _) h'.pu
  · show muts (rd r) ++ ([] ++ (muts (ti (sortU A)) ++ (muts (ti (sortU C)) ++ ([1] ++ [])))) = [1]
    rw [show muts (rd r) = [] from p1, show muts (ti (sortU A)) = [] from puTupI _, show muts (ti (sortU C)) = [] from puTupI _]
    rfl
  · exact mm_cons (p1.map _) (mm_cons rfl (mm_cons ((puTupI _ : Pu (ti (sortU A))).map _) (mm_cons ((puTupI _ : Pu (ti (sortU C))).map _) (mm_cons rfl mm_nil))))
theorem c_blk {N m : Nat} (h : BlkOk N m) {x : Sx D} {at_ : Int} {A C : List Int} {tb : D} {f : Int → Option D} {cnt : Nat} (w : WS (WR m) x) (hp : Pu (sd x)) (hx : ∀ y, x ≠ .sim y) (h0 : 0 ≤ at_) (h1 : at_ + sz x ≤ 1500) (hA : ∀ p ∈ A, 0 ≤ p ∧ p ≤ 1500) (hd : DkIs tb f cnt) (hc : cnt + sz x ≤ 100000) : ∃ tb', DkIs tb' (ovE (peD x at_ A C) f) (cnt + sz x) ∧ ∀ μ, callV 5 (Fn N .flay_block) [sd x, .int at_, ti (sortU A), ti (sortU C), .ob 0] (tb :: μ) = .ok (ti (sortU (fst x at_ ++ if nul x then A else []))) (tb' :: μ) := by
  obtain ⟨tb', h', e⟩ := h x at_ A C tb f cnt w hx h0 h1 hA hd hc
  exact ⟨tb', h', fun μ => callV_front (os := [tb]) (os' := [tb']) rfl (m5 hp (puInt _) (puTupI _) (puTupI _)) (by simp) (puL1 hd.pu) e (puTupI _) (puL1 h'.pu) rfl⟩
theorem c_opening {N m : Nat} (hN : m + 2 ≤ N) (hm : m ≤ 5) {r : List (Sx D)} (at_ : Int) (w : WR m r) (hz : szs r ≤ 1500) (μ : Sto) : callV 2 (Fn N .fopening) [rd r, .int at_] μ = .ok (.tup [ti (sortU (fsts r at_)), .bl (nuls r)]) μ := by
  obtain ⟨n, rfl⟩ : ∃ n, N = n + m + 2 := ⟨N - m - 2, by omega⟩
  exact callV_pu rfl (puL2 (WR.pl m w).2.pu (puInt _)) (t_opening n m hm at_ w hz) (puTup (puL2 (puTupI _) (puBl _)))
theorem len_in {A : List Int} (h : ∀ p ∈ A, 0 ≤ p ∧ p ≤ 1500) : (sortU A).length ≤ 1501 := by
  have := Pl.sortU_range (M := 1500) (by decide) h
  omega
theorem blk_ok {N m : Nat} (hm : m ≤ 5) (hN : m + 2 ≤ N) (L : LayOk N m) : BlkOk (N + 1) m := by
  intro x at_ A C tb f cnt w nx h0 h1 hA hd hc
  rw [d_lay_block]
  have un := fun {A B : List Int} (h : A.length + B.length ≤ 4000) => c_union (N := N) (by omega) h
  cases x with
  | sim y => exact absurd rfl (nx y)
  | eit a b =>
    simp only [sz] at h1 hc
    have s2 := c_size (N := N) (by omega) hm w.1 (.inl rfl)
    obtain ⟨t1, d1, e1⟩ := c_lay L (C := C) w.1 h0 (by omega) hA hd (by omega)
    obtain ⟨t2, d2, e2⟩ := c_lay L (C := C) (at_ := at_ + szs a) w.2 (by omega) (by omega) hA d1 (by omega)
    have ia := len_in (Pl.aft_in (r := a) h0 (M := 1500) (by omega) hA)
    have ib := len_in (Pl.aft_in (r := b) (at_ := at_ + szs a) (M := 1500) (by omega) (by omega) hA)
    refine ⟨t2, ?_, ?_⟩
    · have q : ovE (peD (.eit a b) at_ A C) f = ovE (pesD b (at_ + szs a) A C) (ovE (pesD a at_ A C) f) := by
        rw [ovE_comm (fun p hp q hq => by have := pesD_in hp; have := pesD_in hq; omega), ← ovE_app]
        simp [peD, Pl.pe]
      rw [q]
      have q2 : cnt + sz (.eit a b) = cnt + szs a + szs b := by simp only [sz]; omega
      rw [q2]
      exact d2
    · refine fun_wpZ (puL1 d2.pu) rfl ?_
      unfold blay_block
      rw [sd_eit]
      refine seq_gen fun B hB => ?_
      simp [env0, ixT1, s2]
      subst hB
      refine seq_gen fun B hB => ?_
      simp [ixT0, eq_ee, ixT1, ixT2, e1, e2, un (A := sortU (aft a at_ A)) (B := sortU (aft b (at_ + szs a) A)) (by omega)]
      have q : sortU (sortU (aft a at_ A) ++ sortU (aft b (at_ + szs a) A)) = sortU (fst (.eit a b) at_ ++ if nul (.eit a b) = true then A else []) := by
        rw [Pl.sortU_lr]
        refine Pl.sortU_congr fun k => ?_
        rcases Bool.eq_false_or_eq_true (nuls a) with ca | ca <;> rcases Bool.eq_false_or_eq_true (nuls b) with cb | cb <;> by_cases h1 : k ∈ fsts a at_ <;> by_cases h2 : k ∈ fsts b (at_ + szs a) <;> by_cases h3 : k ∈ A <;> simp [aft, fst, nul, ca, cb, h1, h2, h3]
      rw [q]
      exact Fz.pu (puTupI _)
  | rep a =>
    simp only [sz] at h1 hc
    have w : WR m a := w
    have s2 := c_size (N := N) (by omega) hm w (.inl rfl)
    have op := c_opening (N := N) hN hm at_ w (by omega)
    have hA' : ∀ p ∈ fsts a at_ ++ A, 0 ≤ p ∧ p ≤ 1500 := fun p hp => by
      rcases List.mem_append.mp hp with hp | hp
      · have := Pl.fsts_ge a at_ p hp; omega
      · exact hA p hp
    obtain ⟨t1, d1, e1⟩ := c_lay L (C := C) w h0 (by omega) hA' hd (by omega)
    have ia := sortU_len (fsts a at_)
    have ib := Pl.fsts_len a at_
    have ic := len_in hA
    refine ⟨t1, ?_, ?_⟩
    · simp only [sz]
      exact d1
    · refine fun_wpZ (puL1 d1.pu) rfl ?_
      unfold blay_block
      rw [sd_rep]
      refine seq_gen fun B hB => ?_
      simp [env0, ixT1, s2]
      subst hB
      refine seq_gen fun B hB => ?_
      simp [ixT0, eq_re]
      subst hB
      refine seq_gen fun B hB => ?_
      simp [ixT0, eq_rr, ixT1, op, un (A := sortU (fsts a at_)) (B := sortU A) (by omega), Pl.sortU_lr, e1]
      have q : fst (.rep a) at_ ++ (if nul (.rep a) = true then A else []) = fsts a at_ ++ A := by simp [fst, nul]
      rw [q]
      exact Fz.pu (puTupI _)
  | grd a b =>
    simp only [sz] at h1 hc
    have s2 := c_size (N := N) (by omega) hm w.1 (.inl rfl)
    obtain ⟨t1, d1, e1⟩ := c_lay L (C := C) (at_ := at_ + szs a) w.2 (by omega) (by omega) hA hd (by omega)
    obtain ⟨t2, d2, e2⟩ := c_lay L (C := aft b (at_ + szs a) A) w.1 h0 (by omega) hA d1 (by omega)
    refine ⟨t2, ?_, ?_⟩
    · have q : ovE (peD (.grd a b) at_ A C) f = ovE (pesD a at_ A (aft b (at_ + szs a) A)) (ovE (pesD b (at_ + szs a) A C) f) := by
        rw [← ovE_app]
        simp [peD, Pl.pe]
      rw [q]
      have q2 : cnt + sz (.grd a b) = cnt + szs b + szs a := by simp only [sz]; omega
      rw [q2]
      exact d2
    · refine fun_wpZ (puL1 d2.pu) rfl ?_
      unfold blay_block
      rw [sd_grd]
      refine seq_gen fun B hB => ?_
      simp [env0, ixT1, s2]
      subst hB
      refine seq_gen fun B hB => ?_
      simp [ixT0, eq_ge]
      subst hB
      refine seq_gen fun B hB => ?_
      simp [ixT0, eq_gr]
      subst hB
      refine seq_gen fun B hB => ?_
      simp [ixT2, e1]
      subst hB
      simp [ixT1, e2]
      have q : fst (.grd a b) at_ ++ (if nul (.grd a b) = true then A else []) = aft a at_ A := by rcases Bool.eq_false_or_eq_true (nuls a) with ca | ca <;> simp [fst, nul, aft, ca]
      rw [q]
      exact Fz.pu (puTupI _)
end K11

namespace K11
open PySem PySem.Spec PyProof.Rows L2 Vl

open Pl (Sx)
open Pl (szs sz flt flts nul nuls fst fsts gd gds aft)

open Vl (sortU ovE)
def sts (at_ : Int) : List (Sx D) → List D
  | [] => []
  | s :: r => .int at_ :: sts (at_ + sz s) r
theorem sts_snoc (x : Sx D) : ∀ (pre : List (Sx D)) (at_ : Int), sts at_ (pre ++ [x]) = sts at_ pre ++ [.int (at_ + szs pre)]
  | [], at_ => by simp [sts, szs]
  | s :: pre, at_ => by
    simp only [List.cons_append, sts, szs, sts_snoc x pre]
    rw [show at_ + sz s + szs pre = at_ + ((sz s + szs pre : Nat) : Int) by omega]
theorem sts_len : ∀ (r : List (Sx D)) (at_ : Int), (sts at_ r).length = r.length
  | [], _ => rfl
  | s :: r, at_ => by simp [sts, sts_len r]
theorem sts_pu : ∀ (r : List (Sx D)) (at_ : Int), PuL (sts at_ r)
  | [], _ => rfl
  | s :: r, at_ => by
    show [] ++ mutsL (sts (at_ + sz s) r) = []
    rw [show mutsL (sts (at_ + sz s) r) = [] from sts_pu r _]
    rfl
theorem sts_at (x : Sx D) (post : List (Sx D)) : ∀ (pre : List (Sx D)) (at_ : Int), (sts at_ (pre ++ x :: post))[pre.length]? = some (.int (at_ + szs pre))
  | [], at_ => by simp [sts, szs]
  | s :: pre, at_ => by
    have := sts_at x post pre (at_ + sz s)
    simp only [List.cons_append, sts, szs, List.length_cons, List.getElem?_cons_succ, this]
    rw [show at_ + sz s + szs pre = at_ + ((sz s + szs pre : Nat) : Int) by omega]
theorem isl1 {o : D} {ys : List D} {μ : Sto} : isListD (.ob 1) (o :: .lst ys :: μ) = .ok () (o :: .lst ys :: μ) := isList_ob (k := 1) rfl
theorem app1 {o : D} {ys : List D} {y : D} {μ : Sto} (l : ys.length < 1000000) : appendD (.ob 1) [y] (o :: .lst ys :: μ) = .ok .non (o :: .lst (ys ++ [y]) :: μ) := by
  show M.guard (decide (ys.length < many)) _ _ = _
  rw [decide_eq_true (show ys.length < many by unfold many; omega)]
  rfl
theorem ix1 {o : D} {ys : List D} {μ : Sto} {k : Nat} {y : D} (h : ys[k]? = some y) : ixD (.ob 1) (.int k) (o :: .lst ys :: μ) = .ok y (o :: .lst ys :: μ) := by
  show M.opt (atI ys k) _ = _
  rw [at_nat (by omega) (x := y) (by simpa using h)]
  rfl
theorem lay_of {N m : Nat} (hm : m + 1 ≤ 5) (hN : m + 2 ≤ N) (B0 : BlkOk N m) : LayOk (N + 1) (m + 1) := by
  intro r at_ A C tb f cnt w h0 h1 hA hd hc
  rw [d_lay]
  have s1 := fun {x : Sx D} (hx : x ∈ r) => c_size1 (N := N) (by omega) hm w hx
  have lenr : r.length ≤ 6 := w.1
  have body : Wp (blay (Fn N) (env0 10 [rd r, .int at_, ti (sortU A), ti (sortU C), .ob 0]) [tb]) (fun f' μ => ∃ tb', f' = .rt (ti (sortU (aft r at_ A))) ∧ μ = [tb', .lst (sts at_ r)] ∧ DkIs tb' (ovE (pesD r at_ A C) f) (cnt + szs r)) fun _ _ => False := by
    unfold blay
    refine seq_gen fun B hB => ?_
    simp [env0, newL1]
    subst hB
    refine seq_gen fun B hB => ?_
    refine for_gen fun F hF => ?_
    simp
    obtain ⟨J, hJ⟩ : ∃ J : List (Sx D) → Vl.Env → Sto → Prop, ∀ pre Γ μ, J pre Γ μ ↔ μ = [tb, .lst (sts at_ pre)] ∧ ∃ z6, Γ = [some (rd r), some (.int (at_ + szs pre)), some (ti (sortU A)), some (ti (sortU C)), some (.ob 0), some (.ob 1), z6, none, none, none] := ⟨_, fun _ _ _ => Iff.rfl⟩
    refine w_forM sd J ((hJ _ _ _).mpr ⟨rfl, none, by simp [szs]⟩) ?_ ?_
    · intro pre x post Γ μ er h
      obtain ⟨rfl, z6, rfl⟩ := (hJ _ _ _).mp h
      rw [w_up, x_gN, w_ok]
      subst hF
      have xin : x ∈ r := by rw [er]; simp
      have lp : (sts at_ pre).length < 1000000 := by
        rw [sts_len]
        have := congrArg List.length er
        simp at this
        omega
      refine seq_gen fun B1 hB1 => ?_
      simp [isl1, app1 lp]
      subst hB1
      simp [s1 xin]
      refine (hJ _ _ _).mpr ⟨by rw [sts_snoc], ?_⟩
      have e1 : at_ + ((szs (pre ++ [x]) : Nat) : Int) = at_ + szs pre + sz x := by rw [Pl.szs_snoc]; omega
      rw [e1]
      exact ⟨_, rfl⟩
    · intro Γ μ h
      obtain ⟨rfl, z6, rfl⟩ := (hJ _ _ _).mp h
      rw [nx_nx]
      subst hB
      refine seq_gen fun B hB => ?_
      simp
      subst hB
      refine seq_gen fun B hB => ?_
      refine for_gen fun F hF => ?_
      have rv : ∀ μ, M.guard (okRng 0 ((r.length : Nat) : Int)) (M.pure (Wk.fix (revL ((r.length : Nat) : Int)))) μ = .ok (.fix (revL ((r.length : Nat) : Int))) μ := fun μ => rev_ok (by omega) (by omega)
      simp [lenD, rv]
      obtain ⟨J2, hJ2⟩ : ∃ J2 : Nat → Vl.Env → Sto → Prop, ∀ i Γ μ, J2 i Γ μ ↔ ∃ pre post tb' z6 z8 z9, r = pre ++ post ∧ post.length = i ∧ μ = [tb', .lst (sts at_ r)] ∧ DkIs tb' (ovE (pesD post (at_ + szs pre) A C) f) (cnt + szs post) ∧ Γ = [some (rd r), some (.int (at_ + szs r)), some (ti (sortU A)), some (ti (sortU C)), some (.ob 0), some (.ob 1), z6, some (ti (sortU (aft post (at_ + szs pre) A))), z8, z9] := ⟨_, fun _ _ _ => Iff.rfl⟩
      have rl : (revL ((r.length : Nat) : Int)).length = r.length := by unfold revL; simp
      refine w_forG J2 ((hJ2 _ _ _).mpr ⟨r, [], tb, z6, none, none, by simp, rfl, rfl, by simp only [Pl.pes, szs, List.map_nil, Vl.ovE_nil]; exact hd, by simp [aft, fsts, nuls]⟩) ?_ ?_
      · intro i x Γ μ hx h
        obtain ⟨pre0, post, t1, z6, z8, z9, er, hi, rfl, d1, rfl⟩ := (hJ2 _ _ _).mp h
        have hx : (revL ((r.length : Nat) : Int))[i]? = some x := hx
        rw [revL_at] at hx
        have lt : i < r.length := by
          by_cases c : i < ((r.length : Nat) : Int).toNat
          · omega
          · rw [if_neg c] at hx; cases hx
        rw [if_pos (by omega)] at hx
        cases hx
        obtain ⟨pre, s, rfl⟩ := Pl.snoc_of (l := pre0) (by have := congrArg List.length er; simp at this; omega)
        have er2 : r = pre ++ s :: post := by rw [er]; simp
        have ek : ((r.length : Nat) : Int) - 1 - (i : Int) = ((pre.length : Nat) : Int) := by
          have := congrArg List.length er2
          simp at this
          omega
        rw [ek]
        have sin : s ∈ r := by rw [er2]; simp
        have ws := w.2 s sin
        have ixr : ∀ μ, ixD (rd r) (.int ((pre.length : Nat) : Int)) μ = .ok (sd s) μ := fun μ => ixTn _ _ (by rw [List.getElem?_map, er2]; simp) μ
        have ixs : ∀ {o : D}, ixD (.ob 1) (.int ((pre.length : Nat) : Int)) [o, .lst (sts at_ r)] = .ok (.int (at_ + szs pre)) [o, .lst (sts at_ r)] := fun {o} => ix1 (by rw [er2]; exact sts_at s post pre at_)
        have zr : szs r = szs pre + sz s + szs post := by rw [er2, Pl.szs_mid]
        have e2 : at_ + ((szs (pre ++ [s]) : Nat) : Int) = at_ + szs pre + sz s := by rw [Pl.szs_snoc]; omega
        rw [e2] at d1 ⊢
        have hA2 := Pl.aft_in (r := post) (at_ := at_ + szs pre + sz s) (A := A) (M := 1500) (by omega) (by omega) hA
        rw [w_up, x_gN, w_ok]
        subst hF
        refine seq_gen fun B1 hB1 => ?_
        simp [ixr]
        subst hB1
        have pus := WR.pus w sin
        have fin : ∀ {t2 : D} {z6 z8 z9 : Option D}, DkIs t2 (ovE (pesD (s :: post) (at_ + szs pre) A C) f) (cnt + szs (s :: post)) → J2 (i + 1) [some (rd r), some (.int (at_ + szs r)), some (ti (sortU A)), some (ti (sortU C)), some (.ob 0), some (.ob 1), z6, some (ti (sortU (aft (s :: post) (at_ + szs pre) A))), z8, z9] [t2, .lst (sts at_ r)] := fun d2 => (hJ2 _ _ _).mpr ⟨pre, s :: post, _, _, _, _, er2, by simp [hi], rfl, d2, rfl⟩
        by_cases cs : ∃ y, s = .sim y
        · obtain ⟨y, rfl⟩ := cs
          obtain ⟨w1, rs, e, l3, h1', h2', h3'⟩ := (show Sim y from ws).head
          have ends : endD y = endW w1 := by rw [e]; rfl
          have fe : aft (.sim y :: post) (at_ + szs pre) A = [at_ + szs pre] := by simp [Pl.aft_cons, fst, nul]
          have ez : (sz (.sim y : Sx D)) = 1 := rfl
          obtain ⟨t2, q2, d2⟩ := dk_put (μ := [t1, .lst (sts at_ r)]) (k := 0) d1 rfl (by omega) (at_ + szs pre) (v := (entD (at_ + szs pre, y, aft post (at_ + szs pre + sz (.sim y : Sx D)) A, C)).2) (puTup (puL3 pus (puTupI _) (puTupI _)))
          simp only [sd] at pus
          simp only [sd]
          have q3 : dputD (.ob 0) (.int (at_ + szs pre)) (.tup [y, ti (if endW w1 then [] else sortU (aft post (at_ + szs pre + sz (.sim y : Sx D)) A)), ti (sortU C)]) [t1, .lst (sts at_ r)] = .ok () [t2, .lst (sts at_ r)] := by
            rw [← ends]
            exact q2
          have d3 : DkIs t2 (ovE (pesD (.sim y :: post) (at_ + szs pre) A C) f) (cnt + szs (.sim y :: post)) := by
            have : ovE (pesD (.sim y :: post) (at_ + szs pre) A C) f = updF (ovE (pesD post (at_ + szs pre + sz (.sim y : Sx D)) A C) f) (at_ + szs pre) (entD (at_ + szs pre, y, aft post (at_ + szs pre + sz (.sim y : Sx D)) A, C)).2 := by
              rw [← ovE_one, ← ovE_app]
              rfl
            rw [this, show cnt + szs (.sim y :: post) = cnt + szs post + 1 by simp only [szs, sz]; omega]
            exact d2
          have yix : ∀ μ, ixD y (.int 0) μ = .ok (.str w1) μ := fun μ => by rw [e]; exact ixT0 _ _ _
          have fin1 : ∀ {z6 z8 z9 : Option D}, J2 (i + 1) [some (rd r), some (.int (at_ + szs r)), some (ti (sortU A)), some (ti (sortU C)), some (.ob 0), some (.ob 1), z6, some (.tup [.int (at_ + szs pre)]), z8, z9] [t2, .lst (sts at_ r)] := by
            intro z6 z8 z9
            have := fin (z6 := z6) (z8 := z8) (z9 := z9) d3
            rw [fe] at this
            exact this
          cases he : endW w1 with
          | true =>
            have q4 : dputD (.ob 0) (.int (at_ + szs pre)) (.tup [y, .tup [], ti (sortU C)]) [t1, .lst (sts at_ r)] = .ok () [t2, .lst (sts at_ r)] := by
              rw [he] at q3
              exact q3
            rw [he] at h3'
            simp [yix, h1', h3', ixs, truthD, q4]
            exact fin1
          | false =>
            have q4 : dputD (.ob 0) (.int (at_ + szs pre)) (.tup [y, ti (sortU (aft post (at_ + szs pre + sz (.sim y : Sx D)) A)), ti (sortU C)]) [t1, .lst (sts at_ r)] = .ok () [t2, .lst (sts at_ r)] := by
              rw [he] at q3
              exact q3
            rw [he] at h3'
            simp [yix, h1', h3', ixs, truthD, q4]
            exact fin1
        · have nx : ∀ y, s ≠ .sim y := fun y hy => cs ⟨y, hy⟩
          obtain ⟨t2, d2, e5⟩ := c_blk B0 (A := aft post (at_ + szs pre + sz s) A) (C := C) (at_ := at_ + szs pre) ws pus nx (by omega) (by omega) hA2 d1 (by omega)
          have fe : fst s (at_ + szs pre) ++ (if nul s then aft post (at_ + szs pre + sz s) A else []) = aft (s :: post) (at_ + szs pre) A := (Pl.aft_cons s post _ A).symm
          rw [fe] at e5
          have d3 : DkIs t2 (ovE (pesD (s :: post) (at_ + szs pre) A C) f) (cnt + szs (s :: post)) := by
            have : ovE (pesD (s :: post) (at_ + szs pre) A C) f = ovE (peD s (at_ + szs pre) (aft post (at_ + szs pre + sz s) A) C) (ovE (pesD post (at_ + szs pre + sz s) A C) f) := by
              rw [← ovE_app, ← List.map_append]
              simp only [pesD, Pl.pes]
            rw [this, show cnt + szs (s :: post) = cnt + szs post + sz s by simp only [szs]; omega]
            exact d2
          have hb : ∃ w1 rs, sd s = .tup (.str w1 :: rs) ∧ ∀ μ, inF false (.str w1) BLS μ = .ok (.bl true) μ := by
            cases s with
            | sim y => exact absurd rfl (nx y)
            | eit a b => exact ⟨_, _, sd_eit a b, inB_e⟩
            | rep a => exact ⟨_, _, sd_rep a, inB_r⟩
            | grd a b => exact ⟨_, _, sd_grd a b, inB_g⟩
          obtain ⟨w1, rs, es, hin⟩ := hb
          have six : ∀ μ, ixD (sd s) (.int 0) μ = .ok (.str w1) μ := fun μ => by rw [es]; exact ixT0 _ _ _
          simp [six, hin, ixs, e5]
          exact fin d3
      · intro Γ μ h
        obtain ⟨pre, post, t1, z6, z8, z9, er, hi, rfl, d1, rfl⟩ := (hJ2 _ _ _).mp h
        have e0 : pre = [] := by
          have := congrArg List.length er
          simp at this
          rw [rl] at hi
          exact List.eq_nil_of_length_eq_zero (by omega)
        subst e0
        have er : r = post := er
        subst er
        rw [nx_nx]
        subst hB
        simp [szs] at d1 ⊢
        exact d1
  obtain ⟨tb', hb⟩ := wp_ex body
  have d2 : DkIs tb' (ovE (pesD r at_ A C) f) (cnt + szs r) := wp_post hb fun _ _ h => h.2.2
  exact ⟨tb', d2, fun_wpZ (puL1 d2.pu) rfl (hb.imp (fun f m h => ⟨_, [.lst (sts at_ r)], h.1, h.2.1, Fz.pu (puTupI _)⟩) fun _ _ h => h)⟩
theorem lay_ok : ∀ (m : Nat), m ≤ 5 → ∀ (N : Nat), 2 * m + 2 ≤ N → LayOk N m
  | 0, _, N, _ => fun r at_ A C tb f cnt w => w.elim
  | m + 1, hm, N, hN => by
    obtain ⟨k, rfl⟩ : ∃ k, N = k + 2 := ⟨N - 2, by omega⟩
    exact lay_of hm (by omega) (blk_ok (by omega) (by omega) (lay_ok m (by omega) k (by omega)))
end K11

namespace K11
open PySem PySem.Spec PyProof.Rows L2 Vl

open Pl (Sx)
open Pl (szs sz flt flts nul nuls fst fsts gd gds aft)

open Vl (sortU ovE)
abbrev entries (r : List (Sx D)) : List (Int × D × List Int × List Int) := Pl.pes r 0 [((szs r : Nat) : Int)] []
def folD (e : Int × D × List Int × List Int) : D := ti (if endD e.2.1 then [] else sortU e.2.2.1)
def catD (e : Int × D × List Int × List Int) : D := ti (sortU e.2.2.2)
def LO (r : List (Sx D)) : D := .ins (Str.ofString "Layout") [Str.ofString "end", Str.ofString "firsts", Str.ofString "statements", Str.ofString "followers", Str.ofString "catchers"] [.int ((szs r : Nat) : Int), ti (sortU (aft r 0 [((szs r : Nat) : Int)])), .tup ((entries r).map fun e => e.2.1), .tup ((entries r).map folD), .tup ((entries r).map catD)]
theorem ents_len (r : List (Sx D)) : (entries r).length = szs r := by
  have := congrArg List.length (Pl.pes_at r 0 [((szs r : Nat) : Int)] [])
  simpa using this
theorem ents_at {r : List (Sx D)} {j : Nat} (h : j < szs r) : ∃ e, (entries r)[j]? = some e ∧ e.1 = (j : Int) := by
  have l : j < (entries r).length := by rw [ents_len]; exact h
  refine ⟨_, List.getElem?_eq_getElem l, ?_⟩
  have := congrArg (fun xs => xs[j]?) (Pl.pes_at r 0 [((szs r : Nat) : Int)] [])
  simp [h, List.getElem?_eq_getElem l] at this
  exact this
theorem ents_nd (r : List (Sx D)) : (((entries r).map entD).map (·.1)).Nodup := by
  rw [List.map_map]
  have : (entries r).map ((fun x => x.1) ∘ entD) = (List.range (szs r)).map fun i : Nat => (0 : Int) + (i : Int) := Pl.pes_at r 0 _ _
  rw [this]
  refine List.Pairwise.map _ (fun a b h => ?_) List.nodup_range
  omega
theorem ents_get {r : List (Sx D)} {j : Nat} {e : Int × D × List Int × List Int} (h : (entries r)[j]? = some e) (e1 : e.1 = (j : Int)) : ovE ((entries r).map entD) (fun _ => none) (j : Int) = some (entD e).2 := by
  have : ((entries r).map entD).lookup (j : Int) = some (entD e).2 := lookup_nodup (ents_nd r) (by
    rw [← e1]
    exact List.mem_map.mpr ⟨e, List.mem_of_getElem? h, rfl⟩)
  unfold ovE
  rw [this]
theorem ents_pu {m : Nat} {r : List (Sx D)} (w : WR m r) : PuL ((entries r).map fun e => e.2.1) := by
  have : (entries r).map (fun e => e.2.1) = flts r := by
    unfold entries
    rw [← Pl.ens_x r 0 0 [] [((szs r : Nat) : Int)] 0 [], ← Pl.ens_pes r 0 0 [] [((szs r : Nat) : Int)] 0 [], List.map_map]
    rfl
  rw [this]
  exact flts_pu w
theorem LO_pu {m : Nat} {r : List (Sx D)} (w : WR m r) : Pu (LO r) := puIns (puAll (by
  simp only [List.mem_cons, List.not_mem_nil, or_false]
  rintro x (rfl | rfl | rfl | rfl | rfl)
  · exact puInt _
  · exact puTupI _
  · exact puTup (ents_pu w)
  · exact puTup (puMap folD (fun e => puTupI _) _)
  · exact puTup (puMap catD (fun e => puTupI _) _)))
theorem t_layout (N m : Nat) (hm : m ≤ 5) (hN : 2 * m + 2 ≤ N) {r : List (Sx D)} (w : WR m r) (hz : szs r ≤ 1500) : Fn (N + 1) .fLayout_init [.ob 0, rd r] [.ins (Str.ofString "Layout") [] []] = .ok .non [LO r] := by
  rw [d_Layout_init]
  refine fun_wpC' (puL1 (LO_pu w)) rfl ?_
  obtain ⟨tb, d1, e1⟩ := c_layK (lay_ok m hm N hN) (r := r) (at_ := 0) (A := [((szs r : Nat) : Int)]) (C := []) w (by decide) (by omega) (by simp; omega) dk_new (by omega)
  have s1 : ∀ (q : Sto) y, setFld [Str.ofString "Layout"] (Str.ofString "end") (.ob 0) y (.ins (Str.ofString "Layout") [] [] :: q) = .ok () (.ins (Str.ofString "Layout") [Str.ofString "end"] [y] :: q) := fun _ _ => rfl
  have s2 : ∀ (q : Sto) x y, setFld [Str.ofString "Layout"] (Str.ofString "firsts") (.ob 0) y (.ins (Str.ofString "Layout") [Str.ofString "end"] [x] :: q) = .ok () (.ins (Str.ofString "Layout") [Str.ofString "end", Str.ofString "firsts"] [x, y] :: q) := fun _ _ _ => rfl
  have s3 : ∀ (q : Sto) x x2 y, setFld [Str.ofString "Layout"] (Str.ofString "statements") (.ob 0) y (.ins (Str.ofString "Layout") [Str.ofString "end", Str.ofString "firsts"] [x, x2] :: q) = .ok () (.ins (Str.ofString "Layout") [Str.ofString "end", Str.ofString "firsts", Str.ofString "statements"] [x, x2, y] :: q) := fun _ _ _ _ => rfl
  have s4 : ∀ (q : Sto) x x2 x3 y, setFld [Str.ofString "Layout"] (Str.ofString "followers") (.ob 0) y (.ins (Str.ofString "Layout") [Str.ofString "end", Str.ofString "firsts", Str.ofString "statements"] [x, x2, x3] :: q) = .ok () (.ins (Str.ofString "Layout") [Str.ofString "end", Str.ofString "firsts", Str.ofString "statements", Str.ofString "followers"] [x, x2, x3, y] :: q) := fun _ _ _ _ _ => rfl
  have s5 : ∀ (q : Sto) x x2 x3 x4 y, setFld [Str.ofString "Layout"] (Str.ofString "catchers") (.ob 0) y (.ins (Str.ofString "Layout") [Str.ofString "end", Str.ofString "firsts", Str.ofString "statements", Str.ofString "followers"] [x, x2, x3, x4] :: q) = .ok () (.ins (Str.ofString "Layout") [Str.ofString "end", Str.ofString "firsts", Str.ofString "statements", Str.ofString "followers", Str.ofString "catchers"] [x, x2, x3, x4, y] :: q) := fun _ _ _ _ _ _ => rfl
  have fe : ∀ (q : Sto) ns x xs, fldD [Str.ofString "Layout"] (Str.ofString "end") (.ob 0) (.ins (Str.ofString "Layout") (Str.ofString "end" :: ns) (x :: xs) :: q) = .ok x (.ins (Str.ofString "Layout") (Str.ofString "end" :: ns) (x :: xs) :: q) := fun _ _ _ _ => rfl
  have sz1 := c_size (N := N) (by omega) hm w (.inl rfl)
  have rg : ∀ μ, rng1D [.int ((szs r : Nat) : Int)] μ = .ok (.rng 0 (szs r)) μ := fun μ => by
    have := rng1_ok (j := ((szs r : Nat) : Int)) (μ := μ) (by omega) (by omega)
    simpa using this
  have el := ents_len r
  unfold bLayout_init
  refine seq_gen fun B hB => ?_
  simp [env0]
  subst hB
  refine seq_gen fun B hB => ?_
  simp [sz1, s1]
  subst hB
  refine seq_gen fun B hB => ?_
  have e1' : ∀ (o : D) (μ : Sto), callV 5 (Fn N .flay) [rd r, .int 0, .tup [.int ((szs r : Nat) : Int)], .tup [], .ob 1] (o :: .dct [] [] :: μ) = .ok (ti (sortU (aft r 0 [((szs r : Nat) : Int)]))) (o :: tb :: μ) := e1
  simp [fe, e1', s2]
  subst hB
  have get : ∀ j < szs r, ∃ e, (entries r)[j]? = some e ∧ ∀ o, dgetD (.ob 1) (.int (j : Int)) [o, tb] = .ok (.tup [e.2.1, folD e, catD e]) [o, tb] := fun j hj => by
    obtain ⟨e, h1, h2⟩ := ents_at hj
    exact ⟨e, h1, fun o => dk_get (k := 1) d1 rfl (ents_get h1 h2)⟩
  have rgl : rngL 0 (szs r) = (List.range (szs r)).map fun j : Nat => D.int (0 + (j : Int)) := rfl
  have rge : ∀ g : Int × D × List Int × List Int → D, (List.range (szs r)).map (fun j => ((entries r)[j]?).elim .non g) = (entries r).map g := fun g => by
    have := range_get (entries r) g .non
    rw [el] at this
    exact this
  have fewM : ∀ g : Int × D × List Int × List Int → D, ((entries r).map g).length ≤ many := fun g => by rw [List.length_map, el]; unfold many; omega
  have fewL : (List.range (szs r)).length ≤ many := by rw [List.length_range]; unfold many; omega
  refine seq_gen fun B hB => ?_
  simp [fe, rg]
  rw [rgl]
  refine w_lcM (fun j : Nat => D.int (0 + (j : Int))) (fun j => ((entries r)[j]?).elim .non fun e => e.2.1) _ fewL (fun j hj => w_body1 ?_) ?_
  · obtain ⟨e, h1, h2⟩ := get j (List.mem_range.mp hj)
    simp [wipeD, h1, h2, ixT0]
  · rw [rge, mkT_ok (fewM _), w_ok]
    simp [s3]
    subst hB
    refine seq_gen fun B hB => ?_
    simp [fe, rg]
    rw [rgl]
    refine w_lcM (fun j : Nat => D.int (0 + (j : Int))) (fun j => ((entries r)[j]?).elim .non folD) _ fewL (fun j hj => w_body1 ?_) ?_
    · obtain ⟨e, h1, h2⟩ := get j (List.mem_range.mp hj)
      simp [wipeD, h1, h2, ixT1]
    · rw [rge, mkT_ok (fewM _), w_ok]
      simp [s4]
      subst hB
      simp [fe, rg]
      rw [rgl]
      refine w_lcM (fun j : Nat => D.int (0 + (j : Int))) (fun j => ((entries r)[j]?).elim .non catD) _ fewL (fun j hj => w_body1 ?_) ?_
      · obtain ⟨e, h1, h2⟩ := get j (List.mem_range.mp hj)
        simp [wipeD, h1, h2, ixT2]
      · rw [rge, mkT_ok (fewM _), w_ok]
        simp [s5]
        rfl
theorem c_layout {N m : Nat} (hm : m ≤ 5) (hN : 2 * m + 3 ≤ N) {r : List (Sx D)} (w : WR m r) (hz : szs r ≤ 1500) {μ : Sto} (hw : Wf μ) : makeV (Str.ofString "Layout") 2 (Fn N .fLayout_init) false [] [rd r] μ = .ok (LO r) μ := by
  obtain ⟨k, rfl⟩ : ∃ k, N = k + 1 := ⟨N - 1, by omega⟩
  exact makeV_pu rfl (puL1 (WR.pl m w).2.pu) (t_layout k m hm (by omega) w hz) (LO_pu w) hw
end K11

namespace K11
open PySem PySem.Spec PyProof.Rows L2 Vl

open Pl (Sx)
open Pl (szs sz flt flts nul nuls fst fsts gd gds aft)
open Vl (sortU ovE)
theorem c_simple {N m : Nat} (hN : m ≤ N) (hm : m ≤ 5) {r : List (Sx D)} {d : D} (h : WR m r) (hd : IsRow r d) (μ : Sto) : callV 1 (Fn N .fsimple) [d] μ = .ok (.lst (flts r)) μ := by
  obtain ⟨n, rfl⟩ : ∃ n, N = n + m := ⟨N - m, by omega⟩
  exact callV_pu rfl (puL1 (hd.pu (WR.pu h))) (t_simple n m hm h hd) (puLst (flts_pu h))
theorem lo_e (r : List (Sx D)) (μ : Sto) : fldD [Str.ofString "Layout"] (Str.ofString "end") (LO r) μ = .ok (.int ((szs r : Nat) : Int)) μ := rfl
theorem lo_c (r : List (Sx D)) (μ : Sto) : fldD [Str.ofString "Layout"] (Str.ofString "catchers") (LO r) μ = .ok (.tup ((entries r).map catD)) μ := rfl
theorem c_check {N m : Nat} (hN : 1 ≤ N) {r : List (Sx D)} (w : WR m r) {p : Int} (h : 0 ≤ p ∧ p < szs r) (μ : Sto) : callV 2 (Fn N .fcheck_place) [LO r, .int p] μ = .ok .non μ := by
  obtain ⟨n, rfl⟩ : ∃ n, N = n + 1 := ⟨N - 1, by omega⟩
  refine callV_pu rfl (puL2 (LO_pu w) (puInt _)) ?_ puNon
  rw [d_check_place]
  refine fun_wpC' puL0 rfl ?_
  unfold bcheck_place
  simp [env0, eCh, lo_e, h.1, h.2]
theorem c_catchers {N m : Nat} (hN : 2 * m + 4 ≤ N) (hm : m ≤ 5) {r : List (Sx D)} (w : WR m r) (hz : szs r ≤ 1500) {j : Nat} {e : Int × D × List Int × List Int} (he : (entries r)[j]? = some e) (μ : Sto) : callV 2 (Fn N .fcatchers) [rd r, .int (j : Int)] μ = .ok (catD e) μ := by
  obtain ⟨n, rfl⟩ : ∃ n, N = n + 1 := ⟨N - 1, by omega⟩
  refine callV_pu rfl (puL2 (WR.pl m w).2.pu (puInt _)) ?_ (puTupI _)
  have lt : j < szs r := by rw [← ents_len]; exact (List.getElem?_eq_some_iff.mp he).1
  rw [d_catchers]
  refine fun_wp (puTupI _) ?_
  unfold bcatchers
  refine seq_gen fun B hB => ?_
  simp [env0, c_layout (N := n) hm (by omega) w hz Wf.nil]
  subst hB
  refine seq_gen fun B hB => ?_
  simp [c_check (N := n) (by omega) w (p := (j : Int)) (by omega)]
  subst hB
  simp [lo_c, ixTn _ _ (show ((entries r).map catD)[j]? = some (catD e) by rw [List.getElem?_map, he]; rfl)]
end K11

namespace Pl
variable {α β : Type}
/-- written over -/
def ov (es : List (Int × β)) (F : Int → Option β) : Int → Option β := fun t => match es.lookup t with
  | some l => some l
  | none => F t
theorem lk_app (t : Int) : ∀ (xs ys : List (Int × β)), (xs ++ ys).lookup t = match xs.lookup t with | some d => some d | none => ys.lookup t
  | [], ys => rfl
  | (k, d) :: xs, ys => by
    rw [List.cons_append, List.lookup_cons, List.lookup_cons]
    cases t == k with
    | true => rfl
    | false => exact lk_app t xs ys
theorem ov_nil (F : Int → Option β) : ov [] F = F := rfl
theorem ov_app (xs ys : List (Int × β)) (F : Int → Option β) : ov (xs ++ ys) F = ov xs (ov ys F) := by
  funext t
  unfold ov
  rw [lk_app]
  cases xs.lookup t <;> rfl
theorem lk_mem {t : Int} {d : β} : ∀ {xs : List (Int × β)}, xs.lookup t = some d → (t, d) ∈ xs
  | (k, e) :: xs, h => by
    rw [List.lookup_cons] at h
    cases c : t == k with
    | true => rw [c] at h; cases h; rw [beq_iff_eq.mp c]; exact List.mem_cons_self
    | false => rw [c] at h; exact List.mem_cons_of_mem _ (lk_mem h)
theorem lk_none {t : Int} : ∀ {xs : List (Int × β)}, (∀ p ∈ xs, p.1 ≠ t) → xs.lookup t = none
  | [], _ => rfl
  | (k, e) :: xs, h => by
    rw [List.lookup_cons, beq_eq_false_iff_ne.mpr (Ne.symm (h _ List.mem_cons_self))]
    exact lk_none fun p hp => h p (List.mem_cons_of_mem _ hp)
theorem ov_comm {xs ys : List (Int × β)} (h : ∀ p ∈ xs, ∀ q ∈ ys, p.1 ≠ q.1) (F : Int → Option β) : ov xs (ov ys F) = ov ys (ov xs F) := by
  funext t
  unfold ov
  cases a : xs.lookup t with
  | none => cases b : ys.lookup t <;> rfl
  | some d => cases b : ys.lookup t with
    | none => rfl
    | some e => exact ((h (t, d) (lk_mem a) (t, e) (lk_mem b)) rfl).elim
theorem ov_off {xs : List (Int × β)} {F : Int → Option β} {t : Int} (h : ∀ p ∈ xs, p.1 ≠ t) : ov xs F t = F t := by
  unfold ov
  rw [lk_none h]
/-- behind some tokens -/
def addT (F : Int → Option (List Int)) (ones Z : List Int) : Int → Option (List Int) := fun t => if t ∈ ones then (F t).map (· ++ Z) else F t
theorem lk_addE {ones Z : List Int} {t : Int} : ∀ xs : List (Int × List Int), (xs.map (addE ones Z)).lookup t = if t ∈ ones then (xs.lookup t).map (· ++ Z) else xs.lookup t
  | [] => by simp
  | (k, l) :: xs => by
    have ih := lk_addE (ones := ones) (Z := Z) (t := t) xs
    rw [List.map_cons, List.lookup_cons]
    have e : addE ones Z (k, l) = (k, if k ∈ ones then l ++ Z else l) := by
      unfold addE
      by_cases c : k ∈ ones
      · simp [c]
      · simp [c]
    rw [e, List.lookup_cons]
    dsimp only
    cases c : t == k with
    | true =>
      have := beq_iff_eq.mp c
      subst this
      dsimp only
      by_cases q : t ∈ ones <;> simp [q]
    | false => exact ih
theorem addT_ov {ones Z : List Int} {xs : List (Int × List Int)} {F : Int → Option (List Int)} (h : ∀ t ∈ ones, F t = none) : addT (ov xs F) ones Z = ov (xs.map (addE ones Z)) F := by
  funext t
  unfold addT ov
  rw [lk_addE]
  by_cases c : t ∈ ones
  · rw [if_pos c, if_pos c]
    cases xs.lookup t with
    | some l => rfl
    | none => simp [h t c]
  · rw [if_neg c, if_neg c]
theorem addT_off {ones Z : List Int} {xs : List (Int × List Int)} {F : Int → Option (List Int)} (h : ∀ p ∈ xs, p.1 ∉ ones) : addT (ov xs F) ones Z = ov xs (addT F ones Z) := by
  funext t
  by_cases c : t ∈ ones
  · have n : xs.lookup t = none := lk_none fun p hp e => h p hp (by rw [e]; exact c)
    simp [addT, ov, c, n]
  · simp [addT, ov, c]
mutual
/-- the guards of the places -/
def cp : Sx α → Int → Nat → Int → List (Int × Int)
  | .sim _, at_, _, g => [(at_, g)]
  | .eit a b, at_, k, g => cps a at_ k g ++ cps b (at_ + szs a) (k + gds a) g
  | .rep a, at_, k, g => cps a at_ k g
  | .grd a b, at_, k, g => cps a at_ (k + 1) (sgn k) ++ cps b (at_ + szs a) (k + 1 + gds a) g
def cps : List (Sx α) → Int → Nat → Int → List (Int × Int)
  | [], _, _, _ => []
  | s :: r, at_, k, g => cp s at_ k g ++ cps r (at_ + sz s) (k + gd s) g
end
mutual
theorem en_cp : ∀ (s : Sx α) at_ k Z A g C, (en s at_ k Z A g C).map (fun e => (e.at_, e.g)) = cp s at_ k g
  | .sim _, _, _, _, _, _, _ => rfl
  | .eit a b, _, _, _, _, _, _ => by simp [en, cp, ens_cps a, ens_cps b]
  | .rep a, _, _, _, _, _, _ => by simp [en, cp, ens_cps a]
  | .grd a b, _, _, _, _, _, _ => by simp [en, cp, ens_cps a, ens_cps b]
theorem ens_cps : ∀ (s : List (Sx α)) at_ k Z A g C, (ens s at_ k Z A g C).map (fun e => (e.at_, e.g)) = cps s at_ k g
  | [], _, _, _, _, _, _ => rfl
  | s :: r, _, _, _, _, _, _ => by simp [ens, cps, en_cp s, ens_cps r]
end
theorem cps_in {r : List (Sx α)} {at_ : Int} {k : Nat} {g : Int} {e : Int × Int} (h : e ∈ cps r at_ k g) : at_ ≤ e.1 ∧ e.1 < at_ + szs r := by
  rw [← ens_cps r at_ k [] [] g []] at h
  have : e.1 ∈ (ens r at_ k [] [] g []).map En.at_ := by
    obtain ⟨x, hx, rfl⟩ := List.mem_map.mp h
    exact List.mem_map.mpr ⟨x, hx, rfl⟩
  rw [ens_at] at this
  obtain ⟨i, hi, e2⟩ := List.mem_map.mp this
  have := List.mem_range.mp hi
  omega
theorem cps_snoc (s : Sx α) : ∀ (r : List (Sx α)) (at_ : Int) (k : Nat) (g : Int), cps (r ++ [s]) at_ k g = cps r at_ k g ++ cp s (at_ + szs r) (k + gds r) g
  | [], at_, k, g => by simp [cps, szs, gds]
  | t :: r, at_, k, g => by
    simp only [List.cons_append, cps, szs, gds, cps_snoc s r]
    have e : at_ + ((sz t + szs r : Nat) : Int) = at_ + sz t + szs r := by omega
    rw [e, Nat.add_assoc, List.append_assoc]

mutual
theorem lst_nd : ∀ (s : Sx α) at_ k, 0 ≤ at_ → (lst s at_ k).Nodup
  | .sim _, _, _, _ => by simp [lst]
  | .eit a b, at_, k, h => by
    simp only [lst]
    refine List.nodup_append.mpr ⟨lsts_nd a _ _ h, lsts_nd b _ _ (by omega), fun x hx y hy e => ?_⟩
    subst e
    exact (lsts_in a _ _ x hx).apart (lsts_in b _ _ x hy) (by omega) (by omega) (by omega) (by omega)
  | .rep a, at_, k, h => by simp only [lst]; exact lsts_nd a _ _ h
  | .grd a b, at_, k, h => by
    simp only [lst]
    refine List.nodup_append.mpr ⟨lsts_nd a _ _ h, by simp, fun x hx y hy e => ?_⟩
    subst e
    have := lsts_in a _ _ x hx
    simp only [List.mem_singleton] at hy
    simp only [InR, sgn] at this hy
    omega
theorem lsts_nd : ∀ (s : List (Sx α)) at_ k, 0 ≤ at_ → (lsts s at_ k).Nodup
  | [], _, _, _ => by simp [lsts]
  | s :: r, at_, k, h => by
    simp only [lsts]
    refine List.nodup_append.mpr ⟨?_, lsts_nd r _ _ (by omega), fun x hx y hy e => ?_⟩
    · cases nuls r
      · simp
      · simpa using lst_nd s at_ k h
    · subst e
      cases c : nuls r with
      | false => simp [c] at hx
      | true => exact (lst_in s _ _ x (by simpa [c] using hx)).apart (lsts_in r _ _ x hy) (by omega) (by omega) (by omega) (by omega)
end
end Pl

/-! what tokens stand for, and how many are met -/
namespace Pl
open Vl (sortU mem_sortU sortU_asc)
variable {α : Type} {T : Int → Option (List Int)}
/-- with few met at each step -/
def plW (T : Int → Option (List Int)) : Nat → List Int → Option (List Int)
  | 0, _ => none
  | n + 1, ts => (plc (fun t => (T t).bind (plW T n)) ts).bind fun b => if b.length ≤ 4000 then some (sortU b) else none
theorem plW_mono {T : Int → Option (List Int)} : ∀ {n : Nat} {ts a : List Int}, plW T n ts = some a → plW T (n + 1) ts = some a
  | 0, _, _, h => by cases h
  | n + 1, ts, a, h => by
    obtain ⟨b, hb, e⟩ := Option.bind_eq_some_iff.mp h
    show (plc (fun t => (T t).bind (plW T (n + 1))) ts).bind _ = _
    rw [plc_mono (fun t a h => ?_) hb]
    · exact e
    · obtain ⟨z, hz, h⟩ := Option.bind_eq_some_iff.mp h
      show (T t).bind (plW T (n + 1)) = _
      rw [hz]
      exact plW_mono h
def RB (T : Int → Option (List Int)) (n : Nat) (Z A : List Int) (B : Nat) : Prop := ∃ b, plc (fun t => (T t).bind (plW T n)) Z = some b ∧ sortU b = sortU A ∧ b.length ≤ B
theorem RB.pl {n B : Nat} {Z A : List Int} (h : RB T n Z A B) (hB : B ≤ 4000) : plW T (n + 1) Z = some (sortU A) := by
  obtain ⟨b, h1, h2, h3⟩ := h
  show (plc _ Z).bind _ = _
  rw [h1, ← h2]
  show (if b.length ≤ 4000 then some (sortU b) else none) = _
  rw [if_pos (by omega)]
theorem RB.mono {n m B B' : Nat} {Z A : List Int} (h : RB T n Z A B) (l : n ≤ m) (lb : B ≤ B') : RB T m Z A B' := by
  obtain ⟨b, h1, h2, h3⟩ := h
  refine ⟨b, plc_mono (fun t a h => ?_) h1, h2, by omega⟩
  obtain ⟨z, hz, h⟩ := Option.bind_eq_some_iff.mp h
  show (T t).bind (plW T m) = _
  rw [hz]
  exact (show ∀ {n m : Nat}, n ≤ m → ∀ {ts a : List Int}, plW T n ts = some a → plW T m ts = some a from fun l => by
    induction l with
    | refl => exact fun h => h
    | step _ ih => exact fun h => plW_mono (ih h)) l h
theorem RB.nn {n B : Nat} {xs : List Int} (h : ∀ x ∈ xs, 0 ≤ x) (l : xs.length ≤ B) : RB T n xs xs B := ⟨xs, plc_nn h, rfl, l⟩
theorem RB.front {n B : Nat} {F Z A : List Int} (h : ∀ x ∈ F, 0 ≤ x) (r : RB T n Z A B) : RB T n (F ++ Z) (F ++ A) (F.length + B) := by
  obtain ⟨b, h1, h2, h3⟩ := r
  refine ⟨F ++ b, plc_app (plc_nn h) h1, ?_, by rw [List.length_append]; omega⟩
  rw [← sortU_r F b, h2, sortU_r]
theorem RB.sign {n k B S : Nat} {Z A : List Int} (h : T (sgn k) = some Z) (r : RB T n Z A B) (hB : B ≤ 4000) (hS : (sortU A).length ≤ S) : RB T (n + 1) [sgn k] A S := by
  refine ⟨sortU A, ?_, sortU_sort A, hS⟩
  unfold plc plc
  rw [if_pos (by show -1 - (k : Int) < 0; omega), h, Option.bind_some, r.pl hB]
  simp
theorem RB.aft {n B : Nat} {Z A : List Int} (b : List (Sx α)) {at_ : Int} (h : 0 ≤ at_) (r : RB T n Z A B) : RB T n (aft b at_ Z) (aft b at_ A) (szs b + B) := by
  have l := fsts_len b at_
  have f : ∀ x ∈ fsts b at_, 0 ≤ x := fun x hx => by have := fsts_ge b at_ x hx; omega
  unfold Pl.aft
  cases c : nuls b with
  | true => simpa using (RB.front f r).mono (Nat.le_refl n) (show (fsts b at_).length + B ≤ szs b + B by omega)
  | false => simpa using RB.nn (T := T) (n := n) (B := szs b + B) f (by omega)
mutual
/-- how many tokens the context adds to one at most -/
def bd : Sx α → Nat
  | .sim _ => 0
  | .eit a b => max (bds a) (bds b)
  | .rep a => szs a + bds a
  | .grd a b => max (bds a) (szs b + bds b)
def bds : List (Sx α) → Nat
  | [] => 0
  | s :: r => max (szs r + bd s) (bds r)
end
def CkB (T : Int → Option (List Int)) (M : List (List Int)) (N W : Nat) (g : Int) (C : List Int) : Prop := (g = 0 ∧ C = []) ∨ ∃ k m, g = sgn k ∧ M[k]? = some m ∧ RB T N m C W
def GoodB (T : Int → Option (List Int)) (M : List (List Int)) (N W : Nat) (e : En α) : Prop := T e.at_ = some e.Z ∧ RB T N e.Z e.A W ∧ CkB T M N W e.g e.C
section
variable {M : List (List Int)} {N W S : Nat}
theorem sortU_S {A : List Int} (h : ∀ p ∈ A, 0 ≤ p ∧ p + 1 ≤ S) : (sortU A).length ≤ S := by
  cases S with
  | zero =>
    cases A with
    | nil => simp [sortU]
    | cons x A => have := h x List.mem_cons_self; omega
  | succ S =>
    have := sortU_range (M := S) (by omega) (A := A) fun p hp => by have := h p hp; omega
    omega
mutual
theorem en_okB (hW : W ≤ 4000) : ∀ (s : Sx α) (at_ : Int) (k : Nat) (Z A : List Int) (g : Int) (C : List Int) (n B : Nat), 0 ≤ at_ → at_ + sz s + 1 ≤ S → (∀ p ∈ A, 0 ≤ p ∧ p + 1 ≤ S) → n + dp s ≤ N → B + bd s ≤ W → S + bd s ≤ W → (∀ p ∈ tf s at_ k Z, T p.1 = some p.2) → Mks M k (mk s at_ k) → RB T n Z A B → CkB T M N W g C → ∀ e ∈ en s at_ k Z A g C, GoodB T M N W e
  | .sim x, at_, k, Z, A, g, C, n, B, h0, h1, hA, hn, hB, hS, ht, hm, hr, hc => by
    intro e he
    simp only [en, List.mem_singleton] at he
    subst he
    simp only [dp] at hn
    simp only [bd] at hB
    exact ⟨ht (at_, Z) (by simp [tf]), hr.mono (by omega) (by omega), hc⟩
  | .eit a b, at_, k, Z, A, g, C, n, B, h0, h1, hA, hn, hB, hS, ht, hm, hr, hc => by
    intro e he
    simp only [en, List.mem_append] at he
    simp only [dp] at hn
    simp only [bd] at hB hS
    simp only [mk] at hm
    simp only [sz] at h1
    rcases he with he | he
    · exact ens_okB hW a at_ k Z A g C n B h0 (by omega) hA (by omega) (by omega) (by omega) (fun p hp => ht p (by simp [tf, hp])) hm.left hr hc e he
    · exact ens_okB hW b _ _ Z A g C n B (by omega) (by omega) hA (by omega) (by omega) (by omega) (fun p hp => ht p (by simp [tf, hp])) (by have := hm.right; rw [mks_len] at this; exact this) hr hc e he
  | .rep a, at_, k, Z, A, g, C, n, B, h0, h1, hA, hn, hB, hS, ht, hm, hr, hc => by
    intro e he
    simp only [en] at he
    simp only [dp] at hn
    simp only [bd] at hB hS
    simp only [mk] at hm
    simp only [sz] at h1
    have l := fsts_len a at_
    exact ens_okB hW a at_ k _ _ g C n (szs a + B) h0 (by omega) (fun p hp => by
      rcases List.mem_append.mp hp with hp | hp
      · have := fsts_ge a at_ p hp; omega
      · exact hA p hp) (by omega) (by omega) (by omega) (fun p hp => ht p (by simpa [tf] using hp)) hm ((hr.front fun x hx => by have := fsts_ge a at_ x hx; omega).mono (Nat.le_refl _) (by omega)) hc e he
  | .grd a b, at_, k, Z, A, g, C, n, B, h0, h1, hA, hn, hB, hS, ht, hm, hr, hc => by
    intro e he
    simp only [en, List.mem_append] at he
    simp only [dp] at hn
    simp only [bd] at hB hS
    simp only [mk] at hm
    simp only [sz] at h1
    have hs : RB T (n + 1) [sgn k] A S := RB.sign (ht (sgn k, Z) (by simp [tf])) hr (by omega) (sortU_S hA)
    obtain ⟨m0, m1⟩ := hm.tail
    rcases he with he | he
    · refine ens_okB hW a at_ (k + 1) Z A _ _ n B h0 (by omega) hA (by omega) (by omega) (by omega) (fun p hp => ht p (by simp [tf, hp])) m1.left hr (.inr ⟨k, _, rfl, m0, ?_⟩) e he
      exact (hs.aft b (by omega)).mono (by omega) (by omega)
    · exact ens_okB hW b _ _ [sgn k] A g C (n + 1) S (by omega) (by omega) hA (by omega) (by omega) (by omega) (fun p hp => ht p (by simp [tf, hp])) (by have := m1.right; rw [mks_len] at this; exact this) hs hc e he
theorem ens_okB (hW : W ≤ 4000) : ∀ (r : List (Sx α)) (at_ : Int) (k : Nat) (Z A : List Int) (g : Int) (C : List Int) (n B : Nat), 0 ≤ at_ → at_ + szs r + 1 ≤ S → (∀ p ∈ A, 0 ≤ p ∧ p + 1 ≤ S) → n + dps r ≤ N → B + bds r ≤ W → S + bds r ≤ W → (∀ p ∈ tfs r at_ k Z, T p.1 = some p.2) → Mks M k (mks r at_ k) → RB T n Z A B → CkB T M N W g C → ∀ e ∈ ens r at_ k Z A g C, GoodB T M N W e
  | [], _, _, _, _, _, _, _, _, _, _, _, _, _, _, _, _, _, _ => by intro e he; simp [ens] at he
  | s :: r, at_, k, Z, A, g, C, n, B, h0, h1, hA, hn, hB, hS, ht, hm, hr, hc => by
    intro e he
    simp only [ens, List.mem_append] at he
    simp only [dps] at hn
    simp only [bds] at hB hS
    simp only [mks] at hm
    simp only [szs] at h1
    rcases he with he | he
    · exact en_okB hW s at_ k _ _ g C n (szs r + B) h0 (by omega) (fun p hp => by
        have := aft_in (r := r) (at_ := at_ + sz s) (A := A) (M := (S : Int) - 1) (by omega) (by omega) (fun q hq => by have := hA q hq; omega) p hp
        omega) (by omega) (by omega) (by omega) (fun p hp => ht p (by simp [tfs, hp])) hm.left (hr.aft r (by omega)) hc e he
    · exact ens_okB hW r _ _ Z A g C n B (by omega) (by omega) hA (by omega) (by omega) (by omega) (fun p hp => ht p (by simp [tfs, hp])) (by have := hm.right; rw [mk_len] at this; exact this) hr hc e he
end
end

mutual
theorem tf_len : ∀ (s : Sx α) (at_ : Int) (k : Nat) (Z : List Int) (B : Nat), Z.length ≤ B → 1 ≤ B → ∀ p ∈ tf s at_ k Z, p.2.length ≤ B + bd s
  | .sim x, at_, k, Z, B, h, h1, p, hp => by simp only [tf, List.mem_singleton] at hp; subst hp; simp only [bd]; exact h
  | .eit a b, at_, k, Z, B, h, h1, p, hp => by
    simp only [tf, List.mem_append] at hp
    simp only [bd]
    rcases hp with hp | hp
    · have := tfs_len a _ _ Z B h h1 p hp; omega
    · have := tfs_len b _ _ Z B h h1 p hp; omega
  | .rep a, at_, k, Z, B, h, h1, p, hp => by
    have l := fsts_len a at_
    have := tfs_len a _ _ (fsts a at_ ++ Z) (szs a + B) (by rw [List.length_append]; omega) (by omega) p (by simpa [tf] using hp)
    simp only [bd]; omega
  | .grd a b, at_, k, Z, B, h, h1, p, hp => by
    simp only [tf, List.mem_cons, List.mem_append] at hp
    simp only [bd]
    rcases hp with rfl | hp | hp
    · show Z.length ≤ _; omega
    · have := tfs_len a _ _ Z B h h1 p hp; omega
    · have := tfs_len b _ _ [sgn k] B (by simpa using h1) h1 p hp; omega
theorem tfs_len : ∀ (r : List (Sx α)) (at_ : Int) (k : Nat) (Z : List Int) (B : Nat), Z.length ≤ B → 1 ≤ B → ∀ p ∈ tfs r at_ k Z, p.2.length ≤ B + bds r
  | [], _, _, _, _, _, _, p, hp => by simp [tfs] at hp
  | s :: r, at_, k, Z, B, h, h1, p, hp => by
    simp only [tfs, List.mem_append] at hp
    simp only [bds]
    rcases hp with hp | hp
    · have := tf_len s at_ k (aft r (at_ + sz s) Z) (szs r + B) (by have := aft_len r (at_ + sz s) Z; omega) (by omega) p hp; omega
    · have := tfs_len r _ _ Z B h h1 p hp; omega
end
end Pl

namespace K11
open PySem PySem.Spec PyProof.Rows L2 Vl

open Pl (Sx)
open Pl (szs sz flt flts nul nuls fst fsts gd gds aft)

open Vl (sortU ovE)
abbrev li (A : List Int) : D := .lst (A.map .int)
theorem addT_ob {k : Nat} {xs ys : List D} {μ : Sto} (h : μ[k]? = some (.lst xs)) (l : xs.length + ys.length ≤ 1000000) : addD true (.ob k) (.lst ys) μ = .ok (.ob μ.length) (μ ++ [.lst (xs ++ ys)]) := by
  have e : addL true (.ob k) (.lst ys) μ = .ok (.ob μ.length) (μ ++ [.lst (xs ++ ys)]) := by
    show (match look μ (.ob k), look μ (.lst ys) with
      | .lst xs, .lst ys => newL true (xs ++ ys)
      | _, _ => M.fail) μ = _
    rw [x_look_ob, h]
    show newL true (xs ++ ys) μ = _
    unfold newL
    rw [decide_eq_true (show (xs ++ ys).length ≤ many by rw [List.length_append]; unfold many; omega)]
    rfl
  show alt _ (alt _ (alt _ _)) μ = _
  simp only [x_alt]
  rw [show intOp (fun _ _ => true) (fun i j => .int (i + j)) (.ob k) (.lst ys) μ = .bad from rfl]
  dsimp only
  rw [show strOp (fun i j => decide (i.length + j.length ≤ many)) (fun i j => .str (i ++ j)) (.ob k) (.lst ys) μ = .bad from rfl]
  dsimp only
  rw [show addT (.ob k) (.lst ys) μ = .bad from rfl]
  exact e
theorem appK {k : Nat} {ys : List D} {y : D} {μ : Sto} (h : μ[k]? = some (.lst ys)) (l : ys.length < 1000000) : appendD (.ob k) [y] μ = .ok .non (μ.set k (.lst (ys ++ [y]))) := by
  show (match μ[k]? with
    | some (.lst ys) => M.guard (decide (ys.length < many)) (fun μ => O.ok D.non (μ.set k (.lst (ys ++ [y])))) μ
    | _ => .bad) = _
  rw [h]
  show M.guard (decide (ys.length < many)) _ μ = _
  rw [decide_eq_true (show ys.length < many by unfold many; omega)]
  rfl
theorem t_listed (n : Nat) : ∀ (m : Nat), m ≤ 5 → ∀ {r : List (Sx D)}, WR m r → Fn (n + m) .f_law_listed [rd r] [] = .ok (.lst (flts r)) []
  | 0, _, _, h => h.elim
  | m + 1, hm, r, h => by
    have ih := fun {r} => t_listed n m (by omega) (r := r)
    rw [show n + (m + 1) = n + m + 1 from rfl, d__law_listed]
    have pu := flts_pu h
    have cp := WR.caps (m + 1) h
    have cl := cap_le hm
    refine fun_wpZ puL0 rfl ?_
    unfold b_law_listed
    refine seq_gen fun B hB => ?_
    simp [env0, newL0]
    subst hB
    refine seq_gen fun B hB => ?_
    refine for_gen fun F hF => ?_
    simp
    obtain ⟨J, hJ⟩ : ∃ J : List (Sx D) → Vl.Env → Sto → Prop, ∀ pre Γ μ, J pre Γ μ ↔ ∃ k z2 z3, μ[k]? = some (.lst (flts pre)) ∧ Γ = [some (rd r), some (.ob k), z2, z3] := ⟨_, fun _ _ _ => Iff.rfl⟩
    refine w_forM sd J ((hJ _ _ _).mpr ⟨0, none, none, rfl, rfl⟩) ?_ ?_
    · intro pre x post Γ μ er h0
      obtain ⟨k, z2, z3, hk, rfl⟩ := (hJ _ _ _).mp h0
      rw [w_up, x_gN, w_ok]
      subst hF
      have w := h.2 x (by rw [er]; simp)
      have ln : (flts pre).length + (flt x).length ≤ szs r := by
        rw [er, Pl.szs_mid, Pl.flts_len, Pl.flt_len]
        omega
      have call : ∀ {a : List (Sx D)} {μ : Sto}, WR m a → callV 1 (Fn (n + m) .f_law_listed) [rd a] μ = .ok (.lst (flts a)) μ := fun w => callV_pu rfl (puL1 (WR.pl m w).2.pu) (ih w) (puLst (flts_pu w))
      have il : isListD (.ob k) μ = .ok () μ := isList_ob hk
      have lk : k < μ.length := (List.getElem?_eq_some_iff.mp hk).1
      cases x with
      | sim y =>
        obtain ⟨w1, rs, e, l3, h1, h2, h3⟩ := (show Sim y from w).head
        simp only [sd]
        subst e
        simp [ixT0, h1, il, appK hk (show (flts pre).length < 1000000 by omega)]
        exact (hJ _ _ _).mpr ⟨k, _, _, by rw [Pl.flts_snoc]; simp [lk, flt], rfl⟩
      | eit a b =>
        rw [sd_eit]
        simp only [flt, List.length_append] at ln
        simp [ixT0, inB_e, sl1]
        rw [w_forC]
        simp [call w.1, addT_ob hk (show (flts pre).length + (flts a).length ≤ 1000000 by omega)]
        rw [w_forC]
        have hk2 : (μ ++ [D.lst (flts pre ++ flts a)])[μ.length]? = some (.lst (flts pre ++ flts a)) := by simp
        simp [call w.2, addT_ob hk2 (ys := flts b) (by simp; omega)]
        exact (hJ _ _ _).mpr ⟨_, _, _, by rw [Pl.flts_snoc]; simp [flt], rfl⟩
      | rep a =>
        rw [sd_rep]
        simp only [flt] at ln
        simp [ixT0, inB_r, sl1]
        rw [w_forC]
        simp [call w, addT_ob hk (show (flts pre).length + (flts a).length ≤ 1000000 by omega)]
        exact (hJ _ _ _).mpr ⟨_, _, _, by rw [Pl.flts_snoc]; simp [flt], rfl⟩
      | grd a b =>
        rw [sd_grd]
        simp only [flt, List.length_append] at ln
        simp [ixT0, inB_g, sl1]
        rw [w_forC]
        simp [call w.1, addT_ob hk (show (flts pre).length + (flts a).length ≤ 1000000 by omega)]
        rw [w_forC]
        have hk2 : (μ ++ [D.lst (flts pre ++ flts a)])[μ.length]? = some (.lst (flts pre ++ flts a)) := by simp
        simp [call w.2, addT_ob hk2 (ys := flts b) (by simp; omega)]
        exact (hJ _ _ _).mpr ⟨_, _, _, by rw [Pl.flts_snoc]; simp [flt], rfl⟩
    · intro Γ μ h0
      obtain ⟨k, z2, z3, hk, rfl⟩ := (hJ _ _ _).mp h0
      rw [nx_nx]
      subst hB
      simp
      exact Fz.ob (Nat.zero_le _) hk (puLst pu)
theorem c_listed {N m : Nat} (hN : m ≤ N) (hm : m ≤ 5) {r : List (Sx D)} (h : WR m r) (μ : Sto) : callV 1 (Fn N .f_law_listed) [rd r] μ = .ok (.lst (flts r)) μ := by
  obtain ⟨n, rfl⟩ : ∃ n, N = n + m := ⟨N - m, by omega⟩
  exact callV_pu rfl (puL1 (WR.pl m h).2.pu) (t_listed n m hm h) (puLst (flts_pu h))
/-! the table of tokens -/
def Tk (d : D) (F : Int → Option (List Int)) (n : Nat) : Prop := DkIs d (fun t => (F t).map li) n
theorem Tk.get {d : D} {F : Int → Option (List Int)} {n k : Nat} {μ : Sto} {t : Int} {l : List Int} (h : Tk d F n) (hk : μ[k]? = some d) (e : F t = some l) : dgetD (.ob k) (.int t) μ = .ok (li l) μ := dk_get h hk (by rw [e]; rfl)
theorem updF_li (F : Int → Option (List Int)) (t : Int) (l : List Int) : updF (fun t => (F t).map li) t (li l) = fun s => (Pl.ov [(t, l)] F s).map li := by
  funext s
  unfold updF Pl.ov
  rw [List.lookup_cons]
  by_cases c : s = t
  · subst c; simp
  · rw [if_neg c, beq_eq_false_iff_ne.mpr c]; rfl
theorem Tk.new {d : D} {F : Int → Option (List Int)} {n k : Nat} {μ : Sto} (h : Tk d F n) (hk : μ[k]? = some d) (hn : n < 1000000) (t : Int) (l : List Int) : ∃ d', dputD (.ob k) (.int t) (li l) μ = .ok () (μ.set k d') ∧ Tk d' (Pl.ov [(t, l)] F) (n + 1) := by
  obtain ⟨d', h1, h2⟩ := dk_put h hk hn t (puLstI l)
  rw [updF_li] at h2
  exact ⟨d', h1, h2⟩
theorem addD_li {A B : List Int} (h : A.length + B.length ≤ 1000000) (μ : Sto) : addD false (li A) (li B) μ = .ok (li (A ++ B)) μ := by
  have := addD_lst (xs := A.map D.int) (ys := B.map D.int) (μ := μ) (by simp; unfold many; omega)
  rw [this, ← List.map_append]
theorem t_add (N : Nat) {tb : D} {F : Int → Option (List Int)} {n : Nat} {ones Z : List Int} (h : Tk tb F n) (hn : n < 1000000) (nd : ones.Nodup) (ho : ∀ t ∈ ones, ∃ l, F t = some l ∧ l.length + Z.length ≤ 1000000) : ∃ tb', Tk tb' (Pl.addT F ones Z) n ∧ Fn (N + 1) .f_law_add [.ob 0, li ones, li Z] [tb] = .ok .non [tb'] := by
  rw [d__law_add]
  have body : Wp (b_law_add (Fn N) (env0 4 [.ob 0, li ones, li Z]) [tb]) (fun f μ => ∃ tb', (∃ Γ, f = .nx Γ) ∧ μ = [tb'] ∧ Tk tb' (Pl.addT F ones Z) n) fun _ _ => False := by
    unfold b_law_add
    refine for_gen fun B hB => ?_
    simp [env0]
    obtain ⟨J, hJ⟩ : ∃ J : List Int → Vl.Env → Sto → Prop, ∀ pre Γ μ, J pre Γ μ ↔ ∃ tb' z3, μ = [tb'] ∧ Tk tb' (Pl.addT F pre Z) n ∧ Γ = [some (.ob 0), some (li ones), some (li Z), z3] := ⟨_, fun _ _ _ => Iff.rfl⟩
    refine w_forM D.int J ((hJ _ _ _).mpr ⟨tb, none, rfl, ?_, rfl⟩) ?_ ?_
    · have : Pl.addT F [] Z = F := by funext t; simp [Pl.addT]
      rw [this]
      exact h
    · intro pre x post Γ μ er h0
      obtain ⟨t1, z3, rfl, h1, rfl⟩ := (hJ _ _ _).mp h0
      rw [w_up, x_gN, w_ok]
      subst hB
      obtain ⟨l, hl, hz⟩ := ho x (by rw [er]; simp)
      have xp : x ∉ pre := by
        rw [er] at nd
        exact fun z => (List.nodup_append.mp nd).2.2 x z x List.mem_cons_self rfl
      have hx : Pl.addT F pre Z x = some l := by simp [Pl.addT, xp, hl]
      have g := h1.get (k := 0) (μ := [t1]) rfl hx
      obtain ⟨t2, q1, q2⟩ := dk_set (μ := [t1]) (k := 0) h1 rfl hn x (v := li (l ++ Z)) (w := li l) (by rw [hx]; rfl) (puLstI _)
      simp [g, addD_li hz, q1]
      refine (hJ _ _ _).mpr ⟨t2, _, rfl, ?_, rfl⟩
      have : (fun t => (Pl.addT F (pre ++ [x]) Z t).map li) = updF (fun t => (Pl.addT F pre Z t).map li) x (li (l ++ Z)) := by
        funext t
        unfold updF Pl.addT
        by_cases c : t = x
        · subst c
          simp [hl]
        · by_cases q : t ∈ pre <;> simp [q, c]
      unfold Tk
      rw [this]
      exact q2
    · intro Γ μ h0
      obtain ⟨t1, z3, rfl, h1, rfl⟩ := (hJ _ _ _).mp h0
      first | exact ⟨⟨_, rfl⟩, t1, rfl, h1⟩ | (simp; exact ⟨_, rfl, h1⟩)
  obtain ⟨tb', hb⟩ := wp_ex body
  have d2 : Tk tb' (Pl.addT F ones Z) n := wp_post hb fun _ _ h => h.2.2
  exact ⟨tb', d2, fun_wpC' (puL1 d2.pu) rfl (hb.imp (fun f m h => ⟨h.1, [], by rw [h.2.1]; rfl⟩) fun _ _ h => h)⟩
theorem c_add {N : Nat} (hN : 1 ≤ N) {tb : D} {F : Int → Option (List Int)} {n : Nat} {ones Z : List Int} (h : Tk tb F n) (hn : n < 1000000) (nd : ones.Nodup) (ho : ∀ t ∈ ones, ∃ l, F t = some l ∧ l.length + Z.length ≤ 1000000) : ∃ tb', Tk tb' (Pl.addT F ones Z) n ∧ ∀ μ, callV 3 (Fn N .f_law_add) [.ob 0, li ones, li Z] (tb :: μ) = .ok .non (tb' :: μ) := by
  obtain ⟨k, rfl⟩ : ∃ k, N = k + 1 := ⟨N - 1, by omega⟩
  obtain ⟨tb', h1, e⟩ := t_add k h hn nd ho
  refine ⟨tb', h1, fun μ => callV_front (os := [tb]) (os' := [tb']) rfl ?_ (by simp) (puL1 h.pu) e puNon (puL1 h1.pu) rfl⟩
  show [0] ++ (muts (li ones) ++ (muts (li Z) ++ [])) = [0]
  rw [show muts (li ones) = [] from puLstI _, show muts (li Z) = [] from puLstI _]
  rfl
end K11

namespace Pl
variable {α : Type}
mutual
theorem lst_len : ∀ (s : Sx α) (at_ : Int) (k : Nat), (lst s at_ k).length ≤ sz s + gd s
  | .sim _, _, _ => by simp [lst, sz]
  | .eit a b, at_, k => by simp only [lst, sz, gd, List.length_append]; have := lsts_len a at_ k; have := lsts_len b (at_ + szs a) (k + gds a); omega
  | .rep a, at_, k => by simp only [lst, sz, gd]; exact lsts_len a at_ k
  | .grd a b, at_, k => by simp only [lst, sz, gd, List.length_append, List.length_singleton]; have := lsts_len a at_ (k + 1); omega
theorem lsts_len : ∀ (r : List (Sx α)) (at_ : Int) (k : Nat), (lsts r at_ k).length ≤ szs r + gds r
  | [], _, _ => by simp [lsts]
  | s :: r, at_, k => by
    simp only [lsts, szs, gds, List.length_append]
    have := lst_len s at_ k
    have := lsts_len r (at_ + sz s) (k + gd s)
    cases nuls r <;> simp <;> omega
end
mutual
theorem lst_key : ∀ (s : Sx α) (at_ : Int) (k : Nat) (Z : List Int), ∀ t ∈ lst s at_ k, ∃ l, (t, l) ∈ tf s at_ k Z
  | .sim x, at_, k, Z, t, h => by simp only [lst, List.mem_singleton] at h; subst h; exact ⟨Z, by simp [tf]⟩
  | .eit a b, at_, k, Z, t, h => by
    simp only [lst, List.mem_append] at h
    rcases h with h | h
    · obtain ⟨l, hl⟩ := lsts_key a _ _ Z t h; exact ⟨l, by simp [tf, hl]⟩
    · obtain ⟨l, hl⟩ := lsts_key b _ _ Z t h; exact ⟨l, by simp [tf, hl]⟩
  | .rep a, at_, k, Z, t, h => by
    obtain ⟨l, hl⟩ := lsts_key a _ _ (fsts a at_ ++ Z) t (by simpa [lst] using h); exact ⟨l, by simpa [tf] using hl⟩
  | .grd a b, at_, k, Z, t, h => by
    simp only [lst, List.mem_append, List.mem_singleton] at h
    rcases h with h | h
    · obtain ⟨l, hl⟩ := lsts_key a _ _ Z t h; exact ⟨l, by simp [tf, hl]⟩
    · subst h; exact ⟨Z, by simp [tf]⟩
theorem lsts_key : ∀ (r : List (Sx α)) (at_ : Int) (k : Nat) (Z : List Int), ∀ t ∈ lsts r at_ k, ∃ l, (t, l) ∈ tfs r at_ k Z
  | [], _, _, _, t, h => by simp [lsts] at h
  | s :: r, at_, k, Z, t, h => by
    simp only [lsts, List.mem_append] at h
    rcases h with h | h
    · cases c : nuls r with
      | false => simp [c] at h
      | true => obtain ⟨l, hl⟩ := lst_key s _ _ (aft r (at_ + sz s) Z) t (by simpa [c] using h); exact ⟨l, by simp [tfs, hl]⟩
    · obtain ⟨l, hl⟩ := lsts_key r _ _ Z t h; exact ⟨l, by simp [tfs, hl]⟩
end
mutual
theorem tf_nd : ∀ (s : Sx α) at_ k Z, 0 ≤ at_ → ((tf s at_ k Z).map (·.1)).Nodup
  | .sim _, _, _, _, _ => by simp [tf]
  | .eit a b, at_, k, Z, h => by
    simp only [tf, List.map_append]
    refine List.nodup_append.mpr ⟨tfs_nd a _ _ _ h, tfs_nd b _ _ _ (by omega), fun x hx y hy e => ?_⟩
    obtain ⟨p, hp, rfl⟩ := List.mem_map.mp hx
    obtain ⟨q, hq, rfl⟩ := List.mem_map.mp hy
    have h1 := tfs_in a _ _ _ p hp
    rw [e] at h1
    exact h1.apart (tfs_in b _ _ _ q hq) (by omega) (by omega) (by omega) (by omega)
  | .rep a, at_, k, Z, h => by simp only [tf]; exact tfs_nd a _ _ _ h
  | .grd a b, at_, k, Z, h => by
    simp only [tf, List.map_append, List.map_cons]
    refine List.nodup_cons.mpr ⟨fun z => ?_, List.nodup_append.mpr ⟨tfs_nd a _ _ _ h, tfs_nd b _ _ _ (by omega), fun x hx y hy e => ?_⟩⟩
    · rcases List.mem_append.mp z with z | z
      · obtain ⟨p, hp, e⟩ := List.mem_map.mp z
        have := tfs_in a _ _ _ p hp
        simp only [InR, sgn] at this e
        omega
      · obtain ⟨p, hp, e⟩ := List.mem_map.mp z
        have := tfs_in b _ _ _ p hp
        simp only [InR, sgn] at this e
        omega
    · obtain ⟨p, hp, rfl⟩ := List.mem_map.mp hx
      obtain ⟨q, hq, rfl⟩ := List.mem_map.mp hy
      have h1 := tfs_in a _ _ _ p hp
      rw [e] at h1
      exact h1.apart (tfs_in b _ _ _ q hq) (by omega) (by omega) (by omega) (by omega)
theorem tfs_nd : ∀ (s : List (Sx α)) at_ k Z, 0 ≤ at_ → ((tfs s at_ k Z).map (·.1)).Nodup
  | [], _, _, _, _ => by simp [tfs]
  | s :: r, at_, k, Z, h => by
    simp only [tfs, List.map_append]
    refine List.nodup_append.mpr ⟨tf_nd s _ _ _ h, tfs_nd r _ _ _ (by omega), fun x hx y hy e => ?_⟩
    obtain ⟨p, hp, rfl⟩ := List.mem_map.mp hx
    obtain ⟨q, hq, rfl⟩ := List.mem_map.mp hy
    have h1 := tf_in s _ _ _ p hp
    rw [e] at h1
    exact h1.apart (tfs_in r _ _ _ q hq) (by omega) (by omega) (by omega) (by omega)
end
theorem lk_nd {β : Type} {t : Int} {d : β} : ∀ {xs : List (Int × β)}, (xs.map (·.1)).Nodup → (t, d) ∈ xs → xs.lookup t = some d
  | (k, e) :: xs, nd, h => by
    rw [List.map_cons] at nd
    obtain ⟨n1, n2⟩ := List.nodup_cons.mp nd
    rw [List.lookup_cons]
    rcases List.mem_cons.mp h with h | h
    · cases h
      simp
    · rw [beq_eq_false_iff_ne.mpr fun z => n1 (by rw [← z]; exact List.mem_map.mpr ⟨_, h, rfl⟩)]
      exact lk_nd n2 h
theorem ov_at {β : Type} {t : Int} {d : β} {xs : List (Int × β)} {F : Int → Option β} (nd : (xs.map (·.1)).Nodup) (h : (t, d) ∈ xs) : ov xs F t = some d := by
  unfold ov
  rw [lk_nd nd h]
end Pl
namespace Pl
theorem plc_cons {f : Int → Option (List Int)} {t : Int} {ts b : List Int} (h : plc f (t :: ts) = some b) : ∃ a b2, (if t < 0 then f t else some [t]) = some a ∧ plc f ts = some b2 ∧ b = a ++ b2 := by
  unfold plc at h
  split at h
  · rename_i a b2 e1 e2
    exact ⟨a, b2, e1, e2, (Option.some.inj h).symm⟩
  · cases h
theorem plc_split {f : Int → Option (List Int)} : ∀ {pre post b : List Int}, plc f (pre ++ post) = some b → ∃ b1 b2, plc f pre = some b1 ∧ plc f post = some b2 ∧ b = b1 ++ b2
  | [], post, b, h => ⟨[], b, rfl, h, rfl⟩
  | t :: pre, post, b, h => by
    obtain ⟨a, c, e1, e2, rfl⟩ := plc_cons (ts := pre ++ post) h
    obtain ⟨b1, b2, h1, h2, rfl⟩ := plc_split e2
    refine ⟨a ++ b1, b2, ?_, h2, by simp⟩
    unfold plc
    rw [e1, h1]
end Pl
namespace Pl
open Vl (sortU mem_sortU sortU_asc)
theorem ens_nd {α : Type} (r : List (Sx α)) (k : Nat) (Z A : List Int) (g : Int) (C : List Int) : (((ens r 0 k Z A g C).map (fun e => (e.at_, e.g))).map (·.1)).Nodup := by
  rw [List.map_map]
  have : (ens r 0 k Z A g C).map ((fun x => x.1) ∘ fun e => (e.at_, e.g)) = (List.range (szs r)).map fun i : Nat => (0 : Int) + (i : Int) := ens_at r 0 k Z A g C
  rw [this]
  exact List.Pairwise.map _ (fun a b h => by omega) List.nodup_range
theorem ens_get {α : Type} {r : List (Sx α)} {k : Nat} {Z A : List Int} {g : Int} {C : List Int} {j : Nat} (h : j < szs r) : ∃ e, (ens r 0 k Z A g C)[j]? = some e ∧ e.at_ = (j : Int) := by
  have l : j < (ens r 0 k Z A g C).length := by rw [ens_len]; exact h
  refine ⟨_, List.getElem?_eq_getElem l, ?_⟩
  have := congrArg (fun xs => xs[j]?) (ens_at r 0 k Z A g C)
  simp [h, List.getElem?_eq_getElem l] at this
  exact this
/-- the whole: each place good -/
theorem whole_ok {α : Type} {r : List (Sx α)} {N W : Nat} (hW : W ≤ 4000) (hd : dps r ≤ N) (hb : szs r + 1 + bds r ≤ W) : ∀ e ∈ ens r 0 0 [((szs r : Nat) : Int)] [((szs r : Nat) : Int)] 0 [], GoodB (ov (tfs r 0 0 [((szs r : Nat) : Int)]) fun _ => none) (mks r 0 0) N W e :=
  ens_okB (S := szs r + 1) hW r 0 0 _ _ 0 [] 0 1 (by omega) (by omega) (by simp) (by omega) (by omega) (by omega) (fun p hp => ov_at (tfs_nd r 0 0 _ (by omega)) hp) (fun i m h => by rw [Nat.zero_add]; exact h) (RB.nn (by simp) (by simp)) (.inl ⟨rfl, rfl⟩)
end Pl

namespace K11
open PySem PySem.Spec PyProof.Rows L2 Vl

open Pl (Sx)
open Pl (szs sz flt flts nul nuls fst fsts gd gds aft)

open _root_.Pl (lst lsts tf tfs cp cps mk mks ov addT sgn InR)
theorem WR.bds : ∀ (n : Nat) {r : List (Sx D)}, WR n r → Pl.bds r ≤ n * szs r
  | 0, _, h => h.elim
  | n + 1, r, h => by
    have one : ∀ s, WS (WR n) s → Pl.bd s ≤ (n + 1) * sz s := by
      intro s w
      have e : ∀ x : Nat, (n + 1) * x = n * x + x := fun x => Nat.succ_mul n x
      cases s with
      | sim x => simp [Pl.bd]
      | eit a b =>
        have ha := WR.bds n w.1
        have hb := WR.bds n w.2
        simp only [Pl.bd, sz, e, Nat.mul_add]; omega
      | rep a =>
        have ha := WR.bds n (show WR n a from w)
        simp only [Pl.bd, sz, e]; omega
      | grd a b =>
        have ha := WR.bds n w.1
        have hb := WR.bds n w.2
        simp only [Pl.bd, sz, e, Nat.mul_add]; omega
    have all : ∀ {r : List (Sx D)}, (∀ s ∈ r, WS (WR n) s) → Pl.bds r ≤ (n + 1) * szs r := by
      intro r
      induction r with
      | nil => intro _; simp [Pl.bds]
      | cons s r ih =>
        intro h
        have h1 := one s (h s List.mem_cons_self)
        have h2 := ih fun t ht => h t (List.mem_cons_of_mem _ ht)
        simp only [Pl.bds, szs, Nat.mul_add]
        have : szs r ≤ (n + 1) * szs r := Nat.le_mul_of_pos_left _ (by omega)
        omega
    exact all h.2
abbrev mlD (M : List (List Int)) : D := .lst (M.map li)
abbrev reD (b : Bool) (F L : List Int) (a : Int) : D := .lst [.bl b, li F, li L, .int a]
theorem mlPu (M : List (List Int)) : Pu (mlD M) := puLst (puMap li (fun l => puLstI l) M)
theorem rePu (b : Bool) (F L : List Int) (a : Int) : Pu (reD b F L a) := puLst (puAll (by
  simp only [List.mem_cons, List.not_mem_nil, or_false]
  rintro x (rfl | rfl | rfl | rfl)
  · exact puBl _
  · exact puLstI _
  · exact puLstI _
  · exact puInt _))
def Cc (d : D) (G : Int → Option Int) (n : Nat) : Prop := DkIs d (fun t => (G t).map .int) n
theorem Cc.new {d : D} {G : Int → Option Int} {n k : Nat} {μ : Sto} (h : Cc d G n) (hk : μ[k]? = some d) (hn : n < 1000000) (t : Int) (l : Int) : ∃ d', dputD (.ob k) (.int t) (.int l) μ = .ok () (μ.set k d') ∧ Cc d' (ov [(t, l)] G) (n + 1) := by
  obtain ⟨d', h1, h2⟩ := dk_put h hk hn t (puInt l)
  have : updF (fun t => (G t).map D.int) t (.int l) = fun s => (ov [(t, l)] G s).map D.int := by
    funext s
    unfold updF ov
    rw [List.lookup_cons]
    by_cases c : s = t
    · subst c; simp
    · rw [if_neg c, beq_eq_false_iff_ne.mpr c]; rfl
  rw [this] at h2
  exact ⟨d', h1, h2⟩
structure Fit (m : Nat) (r : List (Sx D)) (at_ : Int) (F : Int → Option (List Int)) (nt nc k : Nat) : Prop where
  w : WR m r
  h0 : 0 ≤ at_
  z : szs r ≤ 1500
  fr : ∀ t, InR at_ (szs r) k (gds r) t → F t = none
  n1 : nt + szs r + gds r ≤ 500000
  n2 : nc + szs r ≤ 500000
  n3 : k + gds r ≤ 500000
def TokOk (N m : Nat) : Prop := ∀ (r : List (Sx D)) (at_ g : Int) (F : Int → Option (List Int)) (G : Int → Option Int) (M : List (List Int)) (nt nc : Nat) (tb cb : D), Fit m r at_ F nt nc M.length → Tk tb F nt → Cc cb G nc →
  ∃ tb' cb', Tk tb' (ov (tfs r at_ M.length []) F) (nt + szs r + gds r) ∧ Cc cb' (ov (cps r at_ M.length g) G) (nc + szs r) ∧ Fn N .f_law_row_tokens [rd r, .int at_, .int g, .ob 0, .ob 1, .ob 2] [tb, cb, mlD M] = .ok (reD (nuls r) (fsts r at_) (lsts r at_ M.length) (at_ + szs r)) [tb', cb', mlD (M ++ mks r at_ M.length)]
structure FitI (m : Nat) (x : Sx D) (at_ : Int) (F : Int → Option (List Int)) (nt nc k : Nat) : Prop where
  w : WS (WR m) x
  p : Pu (sd x)
  h0 : 0 ≤ at_
  z : sz x ≤ 1500
  fr : ∀ t, InR at_ (sz x) k (gd x) t → F t = none
  n1 : nt + sz x + gd x ≤ 500000
  n2 : nc + sz x ≤ 500000
  n3 : k + gd x ≤ 500000
def ItmOk (N m : Nat) : Prop := ∀ (x : Sx D) (at_ g : Int) (F : Int → Option (List Int)) (G : Int → Option Int) (M : List (List Int)) (nt nc : Nat) (tb cb : D), FitI m x at_ F nt nc M.length → Tk tb F nt → Cc cb G nc →
  ∃ tb' cb', Tk tb' (ov (tf x at_ M.length []) F) (nt + sz x + gd x) ∧ Cc cb' (ov (cp x at_ M.length g) G) (nc + sz x) ∧ Fn N .f_law_item [sd x, .int at_, .int g, .ob 0, .ob 1, .ob 2] [tb, cb, mlD M] = .ok (reD (nul x) (fst x at_) (lst x at_ M.length) (at_ + sz x)) [tb', cb', mlD (M ++ mk x at_ M.length)]
theorem m6 {d1 d2 d3 : D} (h1 : Pu d1) (h2 : Pu d2) (h3 : Pu d3) : mutsL [d1, d2, d3, .ob 0, .ob 1, .ob 2] = List.range 3 := by
  show muts d1 ++ (muts d2 ++ (muts d3 ++ ([0] ++ ([1] ++ ([2] ++ []))))) = [0, 1, 2]
  rw [show muts d1 = [] from h1, show muts d2 = [] from h2, show muts d3 = [] from h3]
  rfl
theorem c_tok {N m : Nat} (h : TokOk N m) {r : List (Sx D)} {at_ g : Int} {F : Int → Option (List Int)} {G : Int → Option Int} {M : List (List Int)} {nt nc : Nat} {tb cb : D} (f : Fit m r at_ F nt nc M.length) (ht : Tk tb F nt) (hc : Cc cb G nc) : ∃ tb' cb', Tk tb' (ov (tfs r at_ M.length []) F) (nt + szs r + gds r) ∧ Cc cb' (ov (cps r at_ M.length g) G) (nc + szs r) ∧ ∀ q, callV 6 (Fn N .f_law_row_tokens) [rd r, .int at_, .int g, .ob 0, .ob 1, .ob 2] (tb :: cb :: mlD M :: q) = .ok (reD (nuls r) (fsts r at_) (lsts r at_ M.length) (at_ + szs r)) (tb' :: cb' :: mlD (M ++ mks r at_ M.length) :: q) := by
  obtain ⟨tb', cb', h1, h2, e⟩ := h r at_ g F G M nt nc tb cb f ht hc
  exact ⟨tb', cb', h1, h2, fun q => callV_front (os := [tb, cb, mlD M]) (os' := [tb', cb', _]) rfl (m6 (WR.pl m f.w).2.pu (puInt _) (puInt _)) (by simp) (puL3 ht.pu hc.pu (mlPu _)) e (rePu _ _ _ _) (puL3 h1.pu h2.pu (mlPu _)) rfl⟩
theorem c_itm {N m : Nat} (h : ItmOk N m) {x : Sx D} {at_ g : Int} {F : Int → Option (List Int)} {G : Int → Option Int} {M : List (List Int)} {nt nc : Nat} {tb cb : D} (f : FitI m x at_ F nt nc M.length) (ht : Tk tb F nt) (hc : Cc cb G nc) : ∃ tb' cb', Tk tb' (ov (tf x at_ M.length []) F) (nt + sz x + gd x) ∧ Cc cb' (ov (cp x at_ M.length g) G) (nc + sz x) ∧ ∀ q, callV 6 (Fn N .f_law_item) [sd x, .int at_, .int g, .ob 0, .ob 1, .ob 2] (tb :: cb :: mlD M :: q) = .ok (reD (nul x) (fst x at_) (lst x at_ M.length) (at_ + sz x)) (tb' :: cb' :: mlD (M ++ mk x at_ M.length) :: q) := by
  obtain ⟨tb', cb', h1, h2, e⟩ := h x at_ g F G M nt nc tb cb f ht hc
  exact ⟨tb', cb', h1, h2, fun q => callV_front (os := [tb, cb, mlD M]) (os' := [tb', cb', _]) rfl (m6 f.p (puInt _) (puInt _)) (by simp) (puL3 ht.pu hc.pu (mlPu _)) e (rePu _ _ _ _) (puL3 h1.pu h2.pu (mlPu _)) rfl⟩
theorem ixl0 (b c d e : D) (μ : Sto) : ixD (.lst [b, c, d, e]) (.int 0) μ = .ok b μ := rfl
theorem ixl1 (b c d e : D) (μ : Sto) : ixD (.lst [b, c, d, e]) (.int 1) μ = .ok c μ := rfl
theorem ixl2 (b c d e : D) (μ : Sto) : ixD (.lst [b, c, d, e]) (.int 2) μ = .ok d μ := rfl
theorem ixl3 (b c d e : D) (μ : Sto) : ixD (.lst [b, c, d, e]) (.int 3) μ = .ok e μ := rfl
/-- a list of four in the store -/
theorem ixk {μ : Sto} {k i : Nat} {xs : List D} {y : D} (h : μ[k]? = some (.lst xs)) (e : xs[i]? = some y) : ixD (.ob k) (.int (i : Int)) μ = .ok y μ := by
  unfold ixD
  rw [x_get, x_look_ob, h]
  show M.opt (atI xs (i : Int)) μ = _
  rw [at_nat (by omega) (x := y) (by simpa using e)]
  rfl
end K11

namespace K11
open PySem PySem.Spec PyProof.Rows L2 Vl

open Pl (Sx)
open Pl (szs sz flt flts nul nuls fst fsts gd gds aft)

open _root_.Pl (lst lsts tf tfs cp cps mk mks ov addT sgn InR)
theorem put1 {a b c x y z w v : D} {q : Sto} {k : Nat} (h : q[k]? = some (.lst [x, y, z, w])) : putL (.ob (k + 3)) (.int 1) v (a :: b :: c :: q) = .ok () (a :: b :: c :: q.set k (.lst [x, v, z, w])) := by
  show (match (a :: b :: c :: q)[k + 3]? with
    | some (.lst xs) => match ixN xs.length 1 with
      | some j => O.ok () ((a :: b :: c :: q).set (k + 3) (.lst (xs.set j v)))
      | none => .bad
    | _ => .bad) = _
  rw [show (a :: b :: c :: q)[k + 3]? = q[k]? by simp, h]
  rfl
theorem newL4 {a b c x y z w : D} {q : Sto} : newL true [x, y, z, w] (a :: b :: c :: q) = .ok (.ob (q.length + 3)) (a :: b :: c :: (q ++ [.lst [x, y, z, w]])) := rfl
theorem cp_one (x : Sx D) (at_ : Int) (k : Nat) (g : Int) : cp x at_ k g = cps [x] at_ k g := by simp [Pl.cps]
theorem tok_of {N m : Nat} (hm : m + 1 ≤ 5) (hN : 1 ≤ N) (I : ItmOk N m) : TokOk (N + 1) (m + 1) := by
  intro r at_ g F G M nt nc tb cb f ht hc
  have lenr : r.length ≤ 6 := f.w.1
  have zr := f.z
  have h0 := f.h0
  have n1 := f.n1
  have n2 := f.n2
  have n3 := f.n3
  have body : Wp (b_law_row_tokens (Fn N) (env0 10 [rd r, .int at_, .int g, .ob 0, .ob 1, .ob 2]) [tb, cb, mlD M]) (fun f' μ => ∃ z : D × D, (∃ k0 q, f' = .rt (.ob (k0 + 3)) ∧ q[k0]? = some (reD (nuls r) (fsts r at_) (lsts r at_ M.length) (at_ + szs r)) ∧ μ = z.1 :: z.2 :: mlD (M ++ mks r at_ M.length) :: q) ∧ Tk z.1 (ov (tfs r at_ M.length []) F) (nt + szs r + gds r) ∧ Cc z.2 (ov (cps r at_ M.length g) G) (nc + szs r)) fun _ _ => False := by
    unfold b_law_row_tokens
    refine seq_gen fun B hB => ?_
    simp [env0, newL4]
    subst hB
    refine seq_gen fun B hB => ?_
    refine for_gen fun B0 hB0 => ?_
    simp
    obtain ⟨J, hJ⟩ : ∃ J : List (Sx D) → Vl.Env → Sto → Prop, ∀ pre Γ μ, J pre Γ μ ↔ ∃ tb' cb' q k0 z7 z8 z9, Tk tb' (ov (tfs pre at_ M.length []) F) (nt + szs pre + gds pre) ∧ Cc cb' (ov (cps pre at_ M.length g) G) (nc + szs pre) ∧ μ = tb' :: cb' :: mlD (M ++ mks pre at_ M.length) :: q ∧ q[k0]? = some (reD (nuls pre) (fsts pre at_) (lsts pre at_ M.length) (at_ + szs pre)) ∧ Γ = [some (rd r), some (.int at_), some (.int g), some (.ob 0), some (.ob 1), some (.ob 2), some (.ob (k0 + 3)), z7, z8, z9] := ⟨_, fun _ _ _ => Iff.rfl⟩
    refine w_forM sd J ((hJ _ _ _).mpr ⟨tb, cb, [reD true [] [] at_], 0, none, none, none, ?_, ?_, ?_, ?_, rfl⟩) ?_ ?_
    · simpa [Pl.tfs, szs, gds, Pl.ov_nil] using ht
    · simpa [Pl.cps, szs, Pl.ov_nil] using hc
    · simp [Pl.mks]
    · simp [nuls, fsts, Pl.lsts, szs]
    · intro pre x post Γ μ er h
      obtain ⟨t1, c1, q, k0, z7, z8, z9, ht1, hc1, rfl, hq, rfl⟩ := (hJ _ _ _).mp h
      rw [w_up, x_gN, w_ok]
      have xin : x ∈ r := by rw [er]; simp
      have zz : szs r = szs pre + sz x + szs post := by rw [er, Pl.szs_mid]
      have gg : gds r = gds pre + gd x + gds post := by rw [er, Pl.gds_mid]
      have ml : (M ++ mks pre at_ M.length).length = M.length + gds pre := by rw [List.length_append, Pl.mks_len]
      have wpre : WR (m + 1) pre := ⟨by have := congrArg List.length er; simp at this; omega, fun s hs => f.w.2 s (by rw [er]; simp [hs])⟩
      have bp := WR.bds (m + 1) wpre
      have bp2 : (m + 1) * szs pre ≤ 5 * 1500 := Nat.mul_le_mul (by omega) (by omega)
      have inr : ∀ t, InR (at_ + szs pre) (sz x) (M.length + gds pre) (gd x) t → InR at_ (szs r) M.length (gds r) t := fun t h => by simp only [Pl.InR, Pl.sgn] at h ⊢; omega
      have fi : FitI m x (at_ + szs pre) (ov (tfs pre at_ M.length []) F) (nt + szs pre + gds pre) (nc + szs pre) (M ++ mks pre at_ M.length).length := by
        refine ⟨f.w.2 x xin, WR.pus f.w xin, by omega, by omega, ?_, by omega, by omega, by rw [ml]; omega⟩
        rw [ml]
        intro t h
        rw [Pl.ov_off fun p hp e => ?_, f.fr t (inr t h)]
        have h2 := Pl.tfs_in pre _ _ _ p hp
        rw [e] at h2
        exact h2.apart h (by omega) (by omega) (by omega) (by omega)
      obtain ⟨t2, c2, ht2, hc2, e2⟩ := c_itm I (g := g) fi ht1 hc1
      rw [ml] at ht2 hc2 e2
      obtain ⟨t3, ht3, e3⟩ := c_add (N := N) hN (ones := lsts pre at_ M.length) (Z := fst x (at_ + szs pre)) ht2 (by omega) (Pl.lsts_nd pre _ _ h0) (fun t ht => by
        obtain ⟨l, hl⟩ := Pl.lsts_key pre at_ M.length [] t ht
        refine ⟨l, ?_, ?_⟩
        · rw [Pl.ov_off fun p hp e => ?_, Pl.ov_at (Pl.tfs_nd pre _ _ _ h0) hl]
          have h2 := Pl.tf_in x _ _ _ p hp
          rw [e] at h2
          exact (Pl.lsts_in pre _ _ t ht).apart h2 (by omega) (by omega) (by omega) (by omega)
        · have := Pl.tfs_len pre at_ M.length [] 1 (by simp) (Nat.le_refl _) _ hl
          have := Pl.fst_len x (at_ + szs pre)
          dsimp only at *
          omega)
      have fE : Pl.addT (ov (tf x (at_ + szs pre) (M.length + gds pre) []) (ov (tfs pre at_ M.length []) F)) (lsts pre at_ M.length) (fst x (at_ + szs pre)) = ov (tfs (pre ++ [x]) at_ M.length []) F := by
        have dj : ∀ (Z : List Int), ∀ p ∈ tf x (at_ + szs pre) (M.length + gds pre) [], ∀ q ∈ tfs pre at_ M.length Z, p.1 ≠ q.1 := fun Z p hp q hq e => by
          have h1 := Pl.tf_in x _ _ _ p hp
          rw [e] at h1
          exact (Pl.tfs_in pre _ _ _ q hq).apart h1 (by omega) (by omega) (by omega) (by omega)
        rw [Pl.addT_off (fun p hp hq => (Pl.lsts_in pre _ _ _ hq).apart (Pl.tf_in x _ _ _ p hp) (by omega) (by omega) (by omega) (by omega)), Pl.addT_ov (fun t ht => f.fr t (by have := Pl.lsts_in pre _ _ t ht; simp only [Pl.InR, Pl.sgn] at this ⊢; omega)), Pl.tfs_add pre _ _ _ _ h0, Pl.ov_comm (dj _), ← Pl.ov_app, Pl.tfs_snoc]
        simp
      have cE : ov (cp x (at_ + szs pre) (M.length + gds pre) g) (ov (cps pre at_ M.length g) G) = ov (cps (pre ++ [x]) at_ M.length g) G := by
        rw [Pl.ov_comm (fun p hp q hq e => by
          rw [cp_one] at hp
          have h1 := Pl.cps_in hp
          have h2 := Pl.cps_in hq
          omega), ← Pl.ov_app, Pl.cps_snoc]
      rw [fE] at ht3
      rw [cE] at hc2
      have mE : M ++ mks pre at_ M.length ++ mk x (at_ + szs pre) (M.length + gds pre) = M ++ mks (pre ++ [x]) at_ M.length := by rw [Pl.mks_snoc, List.append_assoc]
      rw [mE] at e2
      have nE : nt + szs pre + gds pre + sz x + gd x = nt + szs (pre ++ [x]) + gds (pre ++ [x]) := by rw [Pl.szs_snoc, Pl.gds_snoc]; omega
      have nE2 : nc + szs pre + sz x = nc + szs (pre ++ [x]) := by rw [Pl.szs_snoc]; omega
      rw [nE] at ht3
      rw [nE2] at hc2
      have l1 : (fsts pre at_).length + (fst x (at_ + szs pre)).length ≤ 1000000 := by
        have := Pl.fsts_len pre at_
        have := Pl.fst_len x (at_ + szs pre)
        omega
      have l2 : (lsts pre at_ M.length).length + (lst x (at_ + szs pre) (M.length + gds pre)).length ≤ 1000000 := by
        have := Pl.lsts_len pre at_ M.length
        have := Pl.lst_len x (at_ + szs pre) (M.length + gds pre)
        omega
      have i0 : ∀ a b c, ixD (.ob (k0 + 3)) (.int 0) (a :: b :: c :: q) = .ok (.bl (nuls pre)) (a :: b :: c :: q) := fun a b c => ixk (i := 0) (by simpa using hq) rfl
      have i1 : ∀ a b c, ixD (.ob (k0 + 3)) (.int 1) (a :: b :: c :: q) = .ok (li (fsts pre at_)) (a :: b :: c :: q) := fun a b c => ixk (i := 1) (by simpa using hq) rfl
      have i2 : ∀ a b c, ixD (.ob (k0 + 3)) (.int 2) (a :: b :: c :: q) = .ok (li (lsts pre at_ M.length)) (a :: b :: c :: q) := fun a b c => ixk (i := 2) (by simpa using hq) rfl
      have i3 : ∀ a b c, ixD (.ob (k0 + 3)) (.int 3) (a :: b :: c :: q) = .ok (.int (at_ + szs pre)) (a :: b :: c :: q) := fun a b c => ixk (i := 3) (by simpa using hq) rfl
      have fin : ∀ (q' : Sto) {z7 z8 z9 : Option D} {b : Bool} {Fs Ls : List Int} {A : Int}, b = nuls (pre ++ [x]) → Fs = fsts (pre ++ [x]) at_ → Ls = lsts (pre ++ [x]) at_ M.length → A = at_ + szs (pre ++ [x]) → J (pre ++ [x]) [some (rd r), some (.int at_), some (.int g), some (.ob 0), some (.ob 1), some (.ob 2), some (.ob (q'.length + 3)), z7, z8, z9] (t3 :: c2 :: mlD (M ++ mks (pre ++ [x]) at_ M.length) :: (q' ++ [reD b Fs Ls A])) := by
        rintro q' z7 z8 z9 _ _ _ _ rfl rfl rfl rfl
        exact (hJ _ _ _).mpr ⟨t3, c2, _, q'.length, _, _, _, ht3, hc2, rfl, by simp, rfl⟩
      subst hB0
      refine seq_gen fun B1 hB1 => ?_
      simp [i3, e2]
      subst hB1
      refine seq_gen fun B1 hB1 => ?_
      simp [i2, ixl1, e3]
      subst hB1
      refine seq_gen fun B1 hB1 => ?_
      have eA : at_ + ↑(szs pre) + ↑(sz x) = at_ + ((szs (pre ++ [x]) : Nat) : Int) := by rw [Pl.szs_snoc]; omega
      have eN : (nuls pre && nul x) = nuls (pre ++ [x]) := (Pl.nuls_snoc x pre).symm
      have tail : ∀ {S : Fl → Sto → Prop} {X : Ex → Sto → Prop} (q : Sto) (z7 z9 : Option D), q[k0]? = some (reD (nuls pre) (fsts (pre ++ [x]) at_) (lsts pre at_ M.length) (at_ + szs pre)) →
          (∀ (q' : Sto) z7 z8 z9, S (.nx [some (rd r), some (.int at_), some (.int g), some (.ob 0), some (.ob 1), some (.ob 2), some (.ob (q'.length + 3)), z7, z8, z9]) (t3 :: c2 :: mlD (M ++ mks (pre ++ [x]) at_ M.length) :: (q' ++ [reD (nuls (pre ++ [x])) (fsts (pre ++ [x]) at_) (lsts (pre ++ [x]) at_ M.length) (at_ + szs (pre ++ [x]))]))) →
          Wp (B1 [some (rd r), some (.int at_), some (.int g), some (.ob 0), some (.ob 1), some (.ob 2), some (.ob (k0 + 3)), z7, some (reD (nul x) (fst x (at_ + szs pre)) (lst x (at_ + szs pre) (M.length + gds pre)) (at_ + szs pre + sz x)), z9] (t3 :: c2 :: mlD (M ++ mks (pre ++ [x]) at_ M.length) :: q)) S X := by
        intro S X q z7 z9 hq fin
        have i0 : ∀ a b c, ixD (.ob (k0 + 3)) (.int 0) (a :: b :: c :: q) = .ok (.bl (nuls pre)) (a :: b :: c :: q) := fun a b c => ixk (i := 0) (by simpa using hq) rfl
        have i1 : ∀ a b c, ixD (.ob (k0 + 3)) (.int 1) (a :: b :: c :: q) = .ok (li (fsts (pre ++ [x]) at_)) (a :: b :: c :: q) := fun a b c => ixk (i := 1) (by simpa using hq) rfl
        have i2 : ∀ a b c, ixD (.ob (k0 + 3)) (.int 2) (a :: b :: c :: q) = .ok (li (lsts pre at_ M.length)) (a :: b :: c :: q) := fun a b c => ixk (i := 2) (by simpa using hq) rfl
        subst hB1
        refine seq_gen fun B1 hB1 => ?_
        simp [ixl2]
        subst hB1
        refine seq_gen fun B1 hB1 => ?_
        have last : ∀ (z7 : Option D), Wp (B1 [some (rd r), some (.int at_), some (.int g), some (.ob 0), some (.ob 1), some (.ob 2), some (.ob (k0 + 3)), z7, some (reD (nul x) (fst x (at_ + szs pre)) (lst x (at_ + szs pre) (M.length + gds pre)) (at_ + szs pre + sz x)), some (li (lsts (pre ++ [x]) at_ M.length))] (t3 :: c2 :: mlD (M ++ mks (pre ++ [x]) at_ M.length) :: q)) S X := by
          intro z7
          subst hB1
          cases np : nuls pre with
          | true =>
            simp [i0, np, truthD, ixl0, i1, ixl3, newL4]
            have := fin q z7 (some (reD (nul x) (fst x (at_ + szs pre)) (lst x (at_ + szs pre) (M.length + gds pre)) (at_ + szs pre + sz x))) (some (li (lsts (pre ++ [x]) at_ M.length)))
            rw [← eN, np, ← eA] at this
            simpa using this
          | false =>
            simp [i0, np, truthD, ixl0, i1, ixl3, newL4]
            have := fin q z7 (some (reD (nul x) (fst x (at_ + szs pre)) (lst x (at_ + szs pre) (M.length + gds pre)) (at_ + szs pre + sz x))) (some (li (lsts (pre ++ [x]) at_ M.length)))
            rw [← eN, np, ← eA] at this
            simpa using this
        cases nx : nul x with
        | true =>
          simp [ixl0, nx, truthD, i2, addD_li l2]
          have := last z7
          rw [Pl.lsts_snoc, nx] at this
          simpa using this
        | false =>
          simp [ixl0, nx, truthD]
          have := last z7
          rw [Pl.lsts_snoc, nx] at this
          simpa using this
      have eF : fsts (pre ++ [x]) at_ = fsts pre at_ ++ if nuls pre = true then fst x (at_ + szs pre) else [] := Pl.fsts_snoc x pre at_
      cases np : nuls pre with
      | false =>
        simp [i0, np, truthD]
        refine tail q _ _ ?_ fun q' z7 z8 z9 => fin q' rfl rfl rfl rfl
        rw [eF, np, hq, np]
        simp
      | true =>
        simp [i0, np, truthD, i1, ixl1, addD_li l1, put1 hq]
        refine tail _ _ _ ?_ fun q' z7 z8 z9 => fin q' rfl rfl rfl rfl
        have lk : k0 < q.length := (List.getElem?_eq_some_iff.mp hq).1
        rw [eF, np]
        simp [lk]
    · intro Γ μ h
      obtain ⟨t1, c1, q, k0, z7, z8, z9, ht1, hc1, rfl, hq, rfl⟩ := (hJ _ _ _).mp h
      rw [nx_nx]
      subst hB
      simp
      exact ⟨t1, c1, ⟨q, hq, rfl, rfl, rfl⟩, ht1, hc1⟩
  obtain ⟨⟨t', c'⟩, hb⟩ := wp_ex body
  have h1 : Tk t' (ov (tfs r at_ M.length []) F) (nt + szs r + gds r) := wp_post hb fun _ _ h => h.2.1
  have h2 : Cc c' (ov (cps r at_ M.length g) G) (nc + szs r) := wp_post hb fun _ _ h => h.2.2
  refine ⟨t', c', h1, h2, ?_⟩
  rw [d__law_row_tokens]
  refine fun_wpZ (puL3 h1.pu h2.pu (mlPu _)) rfl (hb.imp (fun f m h => ?_) fun _ _ h => h)
  obtain ⟨⟨k0, q, rfl, hq, rfl⟩, _, _⟩ := h
  exact ⟨_, q, rfl, rfl, Fz.ob (by simp) (by simpa using hq) (rePu _ _ _ _)⟩
end K11

namespace K11
open PySem PySem.Spec PyProof.Rows L2 Vl

open Pl (Sx)
open Pl (szs sz flt flts nul nuls fst fsts gd gds aft)

open _root_.Pl (lst lsts tf tfs cp cps mk mks ov addT sgn InR)
theorem putK {a b v : D} {xs : List D} {q : Sto} {k : Nat} (h : k < xs.length) : putL (.ob 2) (.int (k : Int)) v (a :: b :: .lst xs :: q) = .ok () (a :: b :: .lst (xs.set k v) :: q) := by
  show (match ixN xs.length (k : Int) with
      | some j => O.ok () ((a :: b :: .lst xs :: q).set 2 (.lst (xs.set j v)))
      | none => .bad) = _
  have e : ixN xs.length (k : Int) = some k := by
    unfold ixN
    rw [if_pos (by omega), if_pos (by omega)]
    rfl
  rw [e]
  rfl
theorem int_t (μ : Sto) : intD [.bl true] μ = .ok (.int 1) μ := rfl
theorem int_f (μ : Sto) : intD [.bl false] μ = .ok (.int 0) μ := rfl
theorem mul_1 (t : Int) (μ : Sto) : mulL false (.lst [.int t]) (.int 1) μ = .ok (.lst [.int t]) μ := rfl
theorem mul_0 (t : Int) (μ : Sto) : mulL false (.lst [.int t]) (.int 0) μ = .ok (.lst []) μ := rfl
theorem mul_b (b : Bool) (t : Int) (μ : Sto) : mulL false (.lst [.int t]) (.int (if b then 1 else 0)) μ = .ok (li (if b then [t] else [])) μ := by cases b <;> rfl
theorem int_b (b : Bool) (μ : Sto) : intD [.bl b] μ = .ok (.int (if b then 1 else 0)) μ := rfl
theorem itm_of {N m : Nat} (hm : m ≤ 5) (hN : 1 ≤ N) (L : TokOk N m) : ItmOk (N + 1) m := by
  intro x at_ g F G M nt nc tb cb f ht hc
  have zx := f.z
  have h0 := f.h0
  have n1 := f.n1
  have n2 := f.n2
  have n3 := f.n3
  rw [d__law_item]
  cases x with
  | sim y =>
    obtain ⟨w1, rs, e, l3, h1, h2, h3⟩ := (show Sim y from f.w).head
    simp only [sz, gd] at zx n1 n2 n3
    obtain ⟨t2, q2, ht2⟩ := ht.new (μ := [tb, cb, mlD M]) (k := 0) rfl (by omega) at_ []
    obtain ⟨c2, r2, hc2⟩ := hc.new (μ := [t2, cb, mlD M]) (k := 1) rfl (by omega) at_ g
    refine ⟨t2, c2, ht2, hc2, ?_⟩
    refine fun_wpZ (puL3 ht2.pu hc2.pu (mlPu _)) rfl ?_
    unfold b_law_item
    refine seq_gen fun B hB => ?_
    simp only [sd]
    subst e
    have q3 : dputD (.ob 0) (.int at_) (.lst []) [tb, cb, mlD M] = .ok () [t2, cb, mlD M] := q2
    have r3 : dputD (.ob 1) (.int at_) (.int g) [t2, cb, mlD M] = .ok () [t2, c2, mlD M] := r2
    simp [env0, ixT0, h2, q3, r3]
    simp only [Pl.mk, nul, fst, Pl.lst, sz]
    exact ⟨trivial, Fz.pu (rePu false [at_] [at_] (at_ + 1))⟩
  | eit a b =>
    simp only [sz, gd] at zx n1 n2 n3
    obtain ⟨t1, c1, ht1, hc1, e1⟩ := c_tok L (r := a) (at_ := at_) (g := g) (M := M) ⟨f.w.1, h0, by omega, fun t h => f.fr t (by simp only [Pl.InR, Pl.sgn, sz, gd] at h ⊢; omega), by omega, by omega, by omega⟩ ht hc
    have ml : (M ++ mks a at_ M.length).length = M.length + gds a := by rw [List.length_append, Pl.mks_len]
    obtain ⟨t2, c2, ht2, hc2, e2⟩ := c_tok L (r := b) (at_ := at_ + szs a) (g := g) (M := M ++ mks a at_ M.length) ⟨f.w.2, by omega, by omega, fun t h => by
      rw [ml] at h
      rw [Pl.ov_off fun p hp e => ?_, f.fr t (by simp only [Pl.InR, Pl.sgn, sz, gd] at h ⊢; omega)]
      have h2 := Pl.tfs_in a _ _ _ p hp
      rw [e] at h2
      exact h2.apart h (by omega) (by omega) (by omega) (by omega), by omega, by omega, by rw [ml]; omega⟩ ht1 hc1
    rw [ml] at ht2 hc2 e2
    refine ⟨t2, c2, ?_, ?_, ?_⟩
    · have : ov (tf (.eit a b) at_ M.length []) F = ov (tfs b (at_ + szs a) (M.length + gds a) []) (ov (tfs a at_ M.length []) F) := by
        rw [Pl.ov_comm (fun p hp q hq e => by
          have h1 := Pl.tfs_in b _ _ _ p hp
          rw [e] at h1
          exact (Pl.tfs_in a _ _ _ q hq).apart h1 (by omega) (by omega) (by omega) (by omega)), ← Pl.ov_app]
        simp only [Pl.tf]
      rw [this, show nt + sz (.eit a b) + gd (.eit a b) = nt + szs a + gds a + szs b + gds b by simp only [sz, gd]; omega]
      exact ht2
    · have : ov (cp (.eit a b) at_ M.length g) G = ov (cps b (at_ + szs a) (M.length + gds a) g) (ov (cps a at_ M.length g) G) := by
        rw [Pl.ov_comm (fun p hp q hq e => by
          have h1 := Pl.cps_in hp
          have h2 := Pl.cps_in hq
          omega), ← Pl.ov_app]
        simp only [Pl.cp]
      rw [this, show nc + sz (.eit a b) = nc + szs a + szs b by simp only [sz]; omega]
      exact hc2
    · refine fun_wpZ (puL3 ht2.pu hc2.pu (mlPu _)) rfl ?_
      have lf : (fsts a at_).length + (fsts b (at_ + szs a)).length ≤ 1000000 := by
        have := Pl.fsts_len a at_
        have := Pl.fsts_len b (at_ + szs a)
        omega
      have ll : (lsts a at_ M.length).length + (lsts b (at_ + szs a) (M.length + gds a)).length ≤ 1000000 := by
        have := Pl.lsts_len a at_ M.length
        have := Pl.lsts_len b (at_ + szs a) (M.length + gds a)
        omega
      unfold b_law_item
      rw [sd_eit]
      refine seq_gen fun B hB => ?_
      refine if_gen fun A1 A2 hA1 hA2 => ?_
      simp [env0, ixT0, ninB_e]
      subst hA2
      rw [x_nx, w_ok, nx_nx]
      subst hB
      refine seq_gen fun B hB => ?_
      refine if_gen fun A1 A2 hA1 hA2 => ?_
      simp [ixT0, eq_eg]
      subst hA2
      rw [x_nx, w_ok, nx_nx]
      subst hB
      refine seq_gen fun B hB => ?_
      simp [ixT1, e1]
      subst hB
      refine seq_gen fun B hB => ?_
      refine if_gen fun A1 A2 hA1 hA2 => ?_
      simp [ixT0, eq_er]
      subst hA2
      rw [x_nx, w_ok, nx_nx]
      subst hB
      refine seq_gen fun B hB => ?_
      simp [ixT2, ixl3, e2]
      subst hB
      have mE : M ++ (mks a at_ M.length ++ mks b (at_ + szs a) (M.length + gds a)) = M ++ mk (.eit a b) at_ M.length := by simp only [Pl.mk]
      have eA : at_ + szs a + szs b = at_ + ((sz (.eit a b) : Nat) : Int) := by simp only [sz]; omega
      have mp : (mks a at_ M.length).map li ++ (mks b (at_ + szs a) (M.length + gds a)).map li = (mk (.eit a b) at_ M.length).map li := by simp only [Pl.mk, List.map_append]
      have eq : reD (nul (.eit a b)) (fst (.eit a b) at_) (lst (.eit a b) at_ M.length) (at_ + sz (.eit a b)) = reD (nuls a || nuls b) (fsts a at_ ++ fsts b (at_ + szs a)) (lsts a at_ M.length ++ lsts b (at_ + szs a) (M.length + gds a)) (at_ + szs a + szs b) := by
        rw [eA]
        simp only [nul, fst, Pl.lst]
      rw [eq]
      cases na : nuls a with
      | true =>
        simp [ixl0, ixl1, ixl2, ixl3, na, truthD, addD_li lf, addD_li ll]
        exact ⟨mp, Fz.pu (rePu _ _ _ _)⟩
      | false =>
        simp [ixl0, ixl1, ixl2, ixl3, na, truthD, addD_li lf, addD_li ll]
        exact ⟨mp, Fz.pu (rePu _ _ _ _)⟩
  | rep a =>
    have wa : WR m a := f.w
    simp only [sz, gd] at zx n1 n2 n3
    obtain ⟨t1, c1, ht1, hc1, e1⟩ := c_tok L (r := a) (at_ := at_) (g := g) (M := M) ⟨wa, h0, by omega, fun t h => f.fr t (by simp only [Pl.InR, Pl.sgn, sz, gd] at h ⊢; omega), by omega, by omega, by omega⟩ ht hc
    have ba := WR.bds m wa
    have ba2 : m * szs a ≤ 5 * 1500 := Nat.mul_le_mul (by omega) (by omega)
    obtain ⟨t2, ht2, e2⟩ := c_add (N := N) hN (ones := lsts a at_ M.length) (Z := fsts a at_) ht1 (by omega) (Pl.lsts_nd a _ _ h0) (fun t ht => by
      obtain ⟨l, hl⟩ := Pl.lsts_key a at_ M.length [] t ht
      refine ⟨l, Pl.ov_at (Pl.tfs_nd a _ _ _ h0) hl, ?_⟩
      have := Pl.tfs_len a at_ M.length [] 1 (by simp) (Nat.le_refl _) _ hl
      have := Pl.fsts_len a at_
      dsimp only at *
      omega)
    have fE : addT (ov (tfs a at_ M.length []) F) (lsts a at_ M.length) (fsts a at_) = ov (tf (.rep a) at_ M.length []) F := by
      rw [Pl.addT_ov (fun t ht => f.fr t (by have := Pl.lsts_in a _ _ t ht; simp only [Pl.InR, Pl.sgn, sz, gd] at this ⊢; omega)), Pl.tfs_add a _ _ _ _ h0]
      simp only [Pl.tf, List.nil_append, List.append_nil]
    rw [fE] at ht2
    refine ⟨t2, c1, ?_, ?_, ?_⟩
    · simp only [sz, gd]
      exact ht2
    · simp only [sz, Pl.cp]
      exact hc1
    · refine fun_wpZ (puL3 ht2.pu hc1.pu (mlPu _)) rfl ?_
      unfold b_law_item
      rw [sd_rep]
      refine seq_gen fun B hB => ?_
      refine if_gen fun A1 A2 hA1 hA2 => ?_
      simp [env0, ixT0, ninB_r]
      subst hA2
      rw [x_nx, w_ok, nx_nx]
      subst hB
      refine seq_gen fun B hB => ?_
      refine if_gen fun A1 A2 hA1 hA2 => ?_
      simp [ixT0, eq_rg]
      subst hA2
      rw [x_nx, w_ok, nx_nx]
      subst hB
      refine seq_gen fun B hB => ?_
      simp [ixT1, e1]
      subst hB
      refine seq_gen fun B hB => ?_
      refine if_gen fun A1 A2 hA1 hA2 => ?_
      simp [ixT0, eq_rr]
      subst hA1
      refine seq_gen fun B2 hB2 => ?_
      simp [ixl1, ixl2, e2]
      subst hB2
      simp [ixl1, ixl2, ixl3]
      simp only [Pl.mk, nul, fst, Pl.lst, sz]
      exact ⟨trivial, Fz.pu (rePu _ _ _ _)⟩
  | grd a b =>
    simp only [sz, gd] at zx n1 n2 n3
    have zA : sz (.grd a b) = szs a + szs b := by simp only [sz]
    have gA : gd (.grd a b) = 1 + gds a + gds b := by simp only [gd]
    have frs : ∀ t, InR at_ (szs a + szs b) M.length (1 + gds a + gds b) t → F t = none := fun t h => f.fr t (by rw [zA, gA]; exact h)
    obtain ⟨t0, q0, ht0⟩ := ht.new (μ := [tb, cb, mlD M]) (k := 0) rfl (by omega) (sgn M.length) []
    have ml1 : (M ++ [[]]).length = M.length + 1 := by simp
    obtain ⟨t1, c1, ht1, hc1, e1⟩ := c_tok L (r := a) (at_ := at_) (g := sgn M.length) (M := M ++ [[]]) ⟨f.w.1, h0, by omega, fun t h => by
      rw [ml1] at h
      rw [Pl.ov_off (fun p hp e => by
        simp only [List.mem_singleton] at hp
        subst hp
        simp only [Pl.InR, Pl.sgn] at h e
        omega)]
      exact frs t (by simp only [Pl.InR, Pl.sgn] at h ⊢; omega), by omega, by omega, by rw [ml1]; omega⟩ ht0 hc
    rw [ml1] at ht1 hc1 e1
    have ml2 : (M ++ [[]] ++ mks a at_ (M.length + 1)).length = M.length + 1 + gds a := by rw [List.length_append, ml1, Pl.mks_len]
    obtain ⟨t2, c2, ht2, hc2, e2⟩ := c_tok L (r := b) (at_ := at_ + szs a) (g := g) (M := M ++ [[]] ++ mks a at_ (M.length + 1)) ⟨f.w.2, by omega, by omega, fun t h => by
      rw [ml2] at h
      rw [Pl.ov_off (fun p hp e => by
        have h2 := Pl.tfs_in a _ _ _ p hp
        rw [e] at h2
        exact h2.apart h (by omega) (by omega) (by omega) (by omega)), Pl.ov_off (fun p hp e => by
        simp only [List.mem_singleton] at hp
        subst hp
        simp only [Pl.InR, Pl.sgn] at h e
        omega)]
      exact frs t (by simp only [Pl.InR, Pl.sgn] at h ⊢; omega), by omega, by omega, by rw [ml2]; omega⟩ ht1 hc1
    rw [ml2] at ht2 hc2 e2
    have nm : M ++ [[]] ++ mks a at_ (M.length + 1) = M ++ [] :: mks a at_ (M.length + 1) := by simp
    rw [nm] at e2
    have bb := WR.bds m f.w.2
    have bb2 : m * szs b ≤ 5 * 1500 := Nat.mul_le_mul (by omega) (by omega)
    obtain ⟨t3, ht3, e3⟩ := c_add (N := N) hN (ones := lsts b (at_ + szs a) (M.length + 1 + gds a)) (Z := [sgn M.length]) ht2 (by omega) (Pl.lsts_nd b _ _ (by omega)) (fun t ht => by
      obtain ⟨l, hl⟩ := Pl.lsts_key b (at_ + szs a) (M.length + 1 + gds a) [] t ht
      refine ⟨l, Pl.ov_at (Pl.tfs_nd b _ _ _ (by omega)) hl, ?_⟩
      have := Pl.tfs_len b (at_ + szs a) (M.length + 1 + gds a) [] 1 (by simp) (Nat.le_refl _) _ hl
      dsimp only at *
      simp only [List.length_singleton]
      omega)
    have fE : addT (ov (tfs b (at_ + szs a) (M.length + 1 + gds a) []) (ov (tfs a at_ (M.length + 1) []) (ov [(sgn M.length, [])] F))) (lsts b (at_ + szs a) (M.length + 1 + gds a)) [sgn M.length] = ov (tf (.grd a b) at_ M.length []) F := by
      rw [Pl.addT_ov (fun t ht => by
        have h1 := Pl.lsts_in b _ _ t ht
        rw [Pl.ov_off (fun p hp e => by
          have h2 := Pl.tfs_in a _ _ _ p hp
          rw [e] at h2
          exact h2.apart h1 (by omega) (by omega) (by omega) (by omega)), Pl.ov_off (fun p hp e => by
          simp only [List.mem_singleton] at hp
          subst hp
          simp only [Pl.InR, Pl.sgn] at h1 e
          omega)]
        exact frs t (by simp only [Pl.InR, Pl.sgn] at h1 ⊢; omega)), Pl.tfs_add b _ _ _ _ (by omega)]
      rw [Pl.ov_comm (xs := tfs a at_ (M.length + 1) []) (ys := [(sgn M.length, [])]) (fun p hp q hq e => by
          have h2 := Pl.tfs_in a _ _ _ p hp
          simp only [List.mem_singleton] at hq
          subst hq
          simp only [Pl.InR, Pl.sgn] at h2 e
          omega), Pl.ov_comm (xs := tfs b (at_ + szs a) (M.length + 1 + gds a) _) (ys := [(sgn M.length, [])]) (fun p hp q hq e => by
          have h2 := Pl.tfs_in b _ _ _ p hp
          simp only [List.mem_singleton] at hq
          subst hq
          simp only [Pl.InR, Pl.sgn] at h2 e
          omega), Pl.ov_comm (xs := tfs b (at_ + szs a) (M.length + 1 + gds a) _) (ys := tfs a at_ (M.length + 1) []) (fun p hp q hq e => by
          have h1 := Pl.tfs_in b _ _ _ p hp
          rw [e] at h1
          exact (Pl.tfs_in a _ _ _ q hq).apart h1 (by omega) (by omega) (by omega) (by omega)), ← Pl.ov_app, ← Pl.ov_app]
      simp only [Pl.tf, List.nil_append, List.cons_append]
    rw [fE] at ht3
    refine ⟨t3, c2, ?_, ?_, ?_⟩
    · rw [show nt + sz (.grd a b) + gd (.grd a b) = nt + 1 + szs a + gds a + szs b + gds b by rw [zA, gA]; omega]
      exact ht3
    · have : ov (cp (.grd a b) at_ M.length g) G = ov (cps b (at_ + szs a) (M.length + 1 + gds a) g) (ov (cps a at_ (M.length + 1) (sgn M.length)) G) := by
        rw [Pl.ov_comm (fun p hp q hq e => by
          have h1 := Pl.cps_in hp
          have h2 := Pl.cps_in hq
          omega), ← Pl.ov_app]
        simp only [Pl.cp]
      rw [this, show nc + sz (.grd a b) = nc + szs a + szs b by rw [zA]; omega]
      exact hc2
    · refine fun_wpZ (puL3 ht3.pu hc2.pu (mlPu _)) rfl ?_
      have lf : (fsts b (at_ + szs a)).length + 1 ≤ 1000000 := by
        have := Pl.fsts_len b (at_ + szs a)
        omega
      have ll : (lsts a at_ (M.length + 1)).length + 1 ≤ 1000000 := by
        have := Pl.lsts_len a at_ (M.length + 1)
        omega
      have q1 : dputD (.ob 0) (.int (sgn M.length)) (.lst []) [tb, cb, mlD M] = .ok () [t0, cb, mlD M] := q0
      have ln : ∀ x y, lenD [.ob 2] [x, y, mlD M] = .ok (.int ((M.length : Nat) : Int)) [x, y, mlD M] := fun x y => by
        show O.ok (D.int (((M.map li).length : Nat) : Int)) _ = _
        rw [List.length_map]
      have il : ∀ x y, isListD (.ob 2) [x, y, mlD M] = .ok () [x, y, mlD M] := fun x y => isList_ob (k := 2) rfl
      have ap : ∀ x y, appendD (.ob 2) [.lst []] [x, y, mlD M] = .ok .non [x, y, mlD (M ++ [[]])] := fun x y => by
        rw [appK (k := 2) (ys := M.map li) rfl (by rw [List.length_map]; omega)]
        show O.ok D.non [x, y, .lst (M.map li ++ [.lst []])] = O.ok D.non [x, y, .lst ((M ++ [[]]).map li)]
        rw [List.map_append]
        rfl
      have pk : ∀ x y (v : List Int), putL (.ob 2) (.int ((M.length : Nat) : Int)) (li v) [x, y, mlD (M ++ [] :: (mks a at_ (M.length + 1) ++ mks b (at_ + szs a) (M.length + 1 + gds a)))] = .ok () [x, y, mlD (M ++ (v :: (mks a at_ (M.length + 1) ++ mks b (at_ + szs a) (M.length + 1 + gds a))))] := fun x y v => by
        rw [putK (by simp)]
        show O.ok () [x, y, D.lst _] = O.ok () [x, y, D.lst _]
        congr 4
        rw [← List.map_set]
        simp [List.set_append]
      have nk : (-1 : Int) - sgn M.length = ((M.length : Nat) : Int) := by show (-1 : Int) - (-1 - (M.length : Int)) = _; omega
      unfold b_law_item
      rw [sd_grd]
      refine seq_gen fun B hB => ?_
      refine if_gen fun A1 A2 hA1 hA2 => ?_
      simp [env0, ixT0, ninB_g]
      subst hA2
      rw [x_nx, w_ok, nx_nx]
      subst hB
      refine seq_gen fun B hB => ?_
      refine if_gen fun A1 A2 hA1 hA2 => ?_
      simp [ixT0, eq_gg]
      subst hA1
      refine seq_gen fun B2 hB2 => ?_
      simp only [w_asg, w_bin, w_un, w_call, w_acons, x_c, w_ok, x_var, x_anil, neg_ok, List.getElem?_cons_succ, List.getElem?_cons_zero, x_pure, ln, sub_ok, x_gN]
      rw [nx_nx]
      simp only [List.set_cons_succ, List.set_cons_zero]
      rw [show (-1 - ((M.length : Nat) : Int)) = sgn M.length from rfl]
      generalize hsg : sgn M.length = sg at *
      subst hB2
      refine seq_gen fun B2 hB2 => ?_
      simp [q1]
      subst hB2
      refine seq_gen fun B2 hB2 => ?_
      simp [il, ap]
      subst hB2
      refine seq_gen fun B2 hB2 => ?_
      simp [ixT1, e1]
      subst hB2
      refine seq_gen fun B2 hB2 => ?_
      simp [ixT2, ixl3, e2]
      subst hB2
      refine seq_gen fun B2 hB2 => ?_
      have e4 : ∀ μ, callV 3 (Fn N .f_law_add) [.ob 0, li (lsts b (at_ + szs a) (M.length + 1 + gds a)), .lst [.int sg]] (t2 :: μ) = .ok .non (t3 :: μ) := e3
      simp [ixl2, e4]
      subst hB2
      have eA : at_ + szs a + szs b = at_ + ((sz (.grd a b) : Nat) : Int) := by rw [zA]; omega
      have eq : reD (nul (.grd a b)) (fst (.grd a b) at_) (lst (.grd a b) at_ M.length) (at_ + sz (.grd a b)) = reD (nuls a) (fsts a at_) (lsts a at_ (M.length + 1) ++ [sg]) (at_ + szs a + szs b) := by
        rw [eA]
        simp only [nul, fst, Pl.lst, hsg]
      rw [eq]
      have l2 : addD false (li (lsts a at_ (M.length + 1))) (.lst [.int sg]) = fun μ => .ok (li (lsts a at_ (M.length + 1) ++ [sg])) μ := funext fun μ => addD_li (B := [sg]) ll μ
      refine seq_gen fun B2 hB2 => ?_
      have mp : ∀ v, v = fsts b (at_ + szs a) ++ (if nuls b then [sg] else []) → li v :: ((mks a at_ (M.length + 1)).map li ++ (mks b (at_ + szs a) (M.length + 1 + gds a)).map li) = (mk (.grd a b) at_ M.length).map li := by
        rintro v rfl
        simp only [Pl.mk, aft, hsg, List.map_cons, List.map_append]
      cases nb : nuls b with
      | true =>
        have l1 : addD false (li (fsts b (at_ + szs a))) (.lst [.int sg]) = fun μ => .ok (li (fsts b (at_ + szs a) ++ [sg])) μ := funext fun μ => addD_li (B := [sg]) lf μ
        simp [ixl0, ixl1, nb, int_t, mul_1, l1, nk, pk]
        subst hB2
        simp [ixl0, ixl1, ixl2, ixl3, l2]
        exact ⟨mp _ (by rw [nb]; simp), Fz.pu (rePu _ _ _ _)⟩
      | false =>
        have l1 : addD false (li (fsts b (at_ + szs a))) (.lst []) = fun μ => .ok (li (fsts b (at_ + szs a))) μ := funext fun μ => by
          have := addD_li (A := fsts b (at_ + szs a)) (B := []) (by simp; omega) μ
          rw [List.append_nil] at this
          exact this
        simp [ixl0, ixl1, nb, int_f, mul_0, l1, nk, pk]
        subst hB2
        simp [ixl0, ixl1, ixl2, ixl3, l2]
        exact ⟨mp _ (by rw [nb]; simp), Fz.pu (rePu _ _ _ _)⟩
theorem tok_ok : ∀ (m : Nat), m ≤ 5 → ∀ (N : Nat), 2 * m + 1 ≤ N → TokOk N m
  | 0, _, N, _ => fun r at_ g F G M nt nc tb cb f => f.w.elim
  | m + 1, hm, N, hN => by
    obtain ⟨k, rfl⟩ : ∃ k, N = k + 2 := ⟨N - 2, by omega⟩
    exact tok_of hm (by omega) (itm_of (by omega) (by omega) (tok_ok m (by omega) k (by omega)))
end K11

namespace K11
open PySem PySem.Spec PyProof.Rows L2 Vl

open Pl (Sx)
open Pl (szs sz flt flts nul nuls fst fsts gd gds aft)

open _root_.Pl (lst lsts tf tfs cp cps mk mks ov addT sgn InR plc plW RB)
open Vl (sortU)
theorem t_plain (N : Nat) : ∀ (n : Nat) {F : Int → Option (List Int)} {tb : D} {nt : Nat} {ts out : List Int}, Tk tb F nt → plW F n ts = some out → Fn (N + n) .f_law_plain [.ob 0, li ts] [tb] = .ok (li out) [tb]
  | 0, _, _, _, _, _, _, h => by cases h
  | n + 1, F, tb, nt, ts, out, ht, h => by
    obtain ⟨b, hb, e⟩ := Option.bind_eq_some_iff.mp (show (plc (fun t => (F t).bind (plW F n)) ts).bind (fun b => if b.length ≤ 4000 then some (sortU b) else none) = some out from h)
    have hl : b.length ≤ 4000 := by
      by_cases c : b.length ≤ 4000
      · exact c
      · rw [if_neg c] at e; cases e
    rw [if_pos hl] at e
    cases e
    rw [show N + (n + 1) = N + n + 1 from rfl, d__law_plain]
    refine fun_wpZ (puL1 ht.pu) rfl ?_
    unfold b_law_plain
    refine seq_gen fun B hB => ?_
    simp [env0, newL1]
    subst hB
    refine seq_gen fun B hB => ?_
    refine for_gen fun B0 hB0 => ?_
    simp
    obtain ⟨J, hJ⟩ : ∃ J : List Int → Vl.Env → Sto → Prop, ∀ pre Γ μ, J pre Γ μ ↔ ∃ b1 k q z3, plc (fun t => (F t).bind (plW F n)) pre = some b1 ∧ μ = tb :: q ∧ q[k]? = some (li b1) ∧ Γ = [some (.ob 0), some (li ts), some (.ob (k + 1)), z3] := ⟨_, fun _ _ _ => Iff.rfl⟩
    refine w_forM D.int J ((hJ _ _ _).mpr ⟨[], 0, [.lst []], none, rfl, rfl, rfl, rfl⟩) ?_ ?_
    · intro pre x post Γ μ er h0
      obtain ⟨b1, k, q, z3, h1, rfl, hq, rfl⟩ := (hJ _ _ _).mp h0
      rw [w_up, x_gN, w_ok]
      subst hB0
      rw [er] at hb
      obtain ⟨b1', b2', g1, g2, g3⟩ := Pl.plc_split hb
      rw [h1] at g1
      cases g1
      obtain ⟨a, b3, g4, g5, rfl⟩ := Pl.plc_cons g2
      have hx : plc (fun t => (F t).bind (plW F n)) (pre ++ [x]) = some (b1 ++ a) := Pl.plc_app h1 (by unfold Pl.plc Pl.plc; rw [g4]; simp)
      have len : b1.length + a.length ≤ 4000 := by rw [g3] at hl; simp at hl; omega
      have hq2 : (tb :: q)[k + 1]? = some (.lst (b1.map D.int)) := by simpa using hq
      have lk : k < q.length := (List.getElem?_eq_some_iff.mp hq).1
      by_cases neg : x < 0
      · rw [if_pos neg] at g4
        obtain ⟨Z', e1, e2⟩ := Option.bind_eq_some_iff.mp g4
        have g := ht.get (k := 0) (μ := tb :: q) rfl e1
        have call : callV 2 (Fn (N + n) .f_law_plain) [.ob 0, li Z'] (tb :: q) = .ok (li a) (tb :: q) := callV_front (os := [tb]) (os' := [tb]) rfl (by
          show [0] ++ (muts (li Z') ++ []) = [0]
          rw [show muts (li Z') = [] from puLstI _]
          rfl) (by simp) (puL1 ht.pu) (t_plain N n ht e2) (puLstI _) (puL1 ht.pu) rfl
        simp [neg, g, call, addT_ob hq2 (ys := a.map D.int) (by simp; omega)]
        exact (hJ _ _ _).mpr ⟨b1 ++ a, q.length, q ++ [li (b1 ++ a)], _, hx, by simp, by simp, rfl⟩
      · rw [if_neg neg] at g4
        cases g4
        simp [neg, isList_ob hq2, appK hq2 (y := .int x) (by simp at len ⊢; omega)]
        exact (hJ _ _ _).mpr ⟨b1 ++ [x], k, q.set k (li (b1 ++ [x])), _, hx, by show _ = tb :: q.set k (.lst ((b1 ++ [x]).map D.int)); simp, by simp [lk], rfl⟩
    · intro Γ μ h0
      obtain ⟨b1, k, q, z3, h1, rfl, hq, rfl⟩ := (hJ _ _ _).mp h0
      rw [hb] at h1
      cases h1
      rw [nx_nx]
      subst hB
      have sq : seqD (tb :: q) (.ob (k + 1)) = some (b.map D.int) := by
        unfold seqD
        rw [x_look_ob, show (tb :: q)[k + 1]? = some (li b) by simpa using hq]
        rfl
      simp [sortSetL_is sq hl]
      exact Fz.pu (puLstI _)
theorem c_plain {N n : Nat} (hN : n ≤ N) {F : Int → Option (List Int)} {tb : D} {nt : Nat} {ts out : List Int} (ht : Tk tb F nt) (h : plW F n ts = some out) (q : Sto) : callV 2 (Fn N .f_law_plain) [.ob 0, li ts] (tb :: q) = .ok (li out) (tb :: q) := by
  obtain ⟨k, rfl⟩ : ∃ k, N = k + n := ⟨N - n, by omega⟩
  exact callV_front (os := [tb]) (os' := [tb]) rfl (by
    show [0] ++ (muts (li ts) ++ []) = [0]
    rw [show muts (li ts) = [] from puLstI _]
    rfl) (by simp) (puL1 ht.pu) (t_plain k n ht h) (puLstI _) (puL1 ht.pu) rfl
end K11

namespace K11
open PySem PySem.Spec PyProof.Rows L2 Vl

open Pl (Sx)
open Pl (szs sz flt flts nul nuls fst fsts gd gds aft)

open _root_.Pl (lst lsts tf tfs cp cps mk mks ov addT sgn InR plc plW RB)
open Vl (sortU)
abbrev ENDS : D := .tup [.tup [.str (Str.ofString "return")], .tup [.str (Str.ofString "fault")]]
theorem pyAt_pl {n : Nat} {y : D} (h : Pl n y) (hn : n ≤ 64) {a : PyData} (e : toPy y = some a) (μ : Sto) : pyAt μ y = some a := by
  obtain ⟨hp, a', e', c, k⟩ := h.py
  rw [e] at e'
  cases e'
  have s : SeqAt.shaped a = true := by unfold SeqAt.shaped; rw [c, decide_eq_true (by omega)]; rfl
  unfold pyAt
  rw [deep_pu hp]
  dsimp only
  rw [e]
  dsimp only
  rw [s]
  rfl
theorem ends_py (μ : Sto) : pyAt μ ENDS = some (.tuple [.tuple [.str (Str.ofString "return")], .tuple [.str (Str.ofString "fault")]]) := by
  refine pyAt_pl (n := 2) (.tup ?_) (by decide) rfl μ
  simp only [List.mem_cons, List.not_mem_nil, or_false]
  rintro x (rfl | rfl)
  · exact .tup (by simp only [List.mem_cons, List.not_mem_nil, or_false]; rintro x rfl; exact .str (by decide +kernel))
  · exact .tup (by simp only [List.mem_cons, List.not_mem_nil, or_false]; rintro x rfl; exact .str (by decide +kernel))
theorem Sim.inEnd {y : D} (h : Sim y) (μ : Sto) : inDp false y ENDS μ = .ok (.bl (endD y)) μ := by
  obtain ⟨_, a, e, _⟩ := (h.pl 0).py
  have p := pyAt_pl (h.pl 0) (by decide) e μ
  have go : ∀ b, ([.tuple [.str (Str.ofString "return")], .tuple [.str (Str.ofString "fault")]] : List PyData).any (fun z => PyData.eqv z a) = b → inDp false y ENDS μ = .ok (.bl b) μ := by
    intro b hb
    show (match pyAt μ y, (pyAt μ ENDS).bind dpItems with
      | some d, some ds => O.ok (D.bl (if false = true then !ds.any fun z => PyData.eqv z d else ds.any fun z => PyData.eqv z d)) μ
      | _, _ => .bad) = _
    rw [p, ends_py, ← hb]
    rfl
  refine go _ ?_
  cases h with
  | fault => cases e; decide +kernel
  | ret => cases e; decide +kernel
  | call h => cases h <;> (cases e; decide +kernel)
  | give a b c =>
    obtain ⟨k, rfl, _⟩ := b
    cases a <;> cases c <;> (cases e; rfl)
  | touch h => cases h <;> (cases e; decide +kernel)
  | strip h => cases h <;> (cases e; decide +kernel)
  | unlock h => obtain ⟨k, rfl, _⟩ := h; cases e; rfl
  | lock h => obtain ⟨k, rfl, _⟩ := h; cases e; rfl
abbrev enS (r : List (Sx D)) : List (Pl.En D) := Pl.ens r 0 0 [((szs r : Nat) : Int)] [((szs r : Nat) : Int)] 0 []
def folL (e : Pl.En D) : D := li (if endD e.x then [] else sortU e.A)
def lanL (e : Pl.En D) : D := li (sortU e.C)
def webD (r : List (Sx D)) : D := .lst [li (sortU (aft r 0 [((szs r : Nat) : Int)])), .lst ((enS r).map folL), .lst ((enS r).map lanL)]
theorem webPu (r : List (Sx D)) : Pu (webD r) := puLst (puL3 (puLstI _) (puLst (puMap folL (fun e => puLstI _) _)) (puLst (puMap lanL (fun e => puLstI _) _)))
theorem Cc.get {d : D} {F : Int → Option Int} {n k : Nat} {μ : Sto} {t l : Int} (h : Cc d F n) (hk : μ[k]? = some d) (e : F t = some l) : dgetD (.ob k) (.int t) μ = .ok (.int l) μ := dk_get h hk (by rw [e]; rfl)
def biI (b : Bool) : Int := if b then 1 else 0
def oneIf (b : Bool) (t : Int) : List Int := if b then [t] else []
theorem int_bi (b : Bool) (μ : Sto) : intD [.bl b] μ = .ok (.int (biI b)) μ := rfl
theorem mul_bi (b : Bool) (t : Int) (μ : Sto) : mulL false (.lst [.int t]) (.int (biI b)) μ = .ok (li (oneIf b t)) μ := by cases b <;> rfl
theorem aft_one (r : List (Sx D)) (at_ t : Int) : aft r at_ [t] = fsts r at_ ++ oneIf (nuls r) t := rfl
theorem range_pre {n : Nat} {pre post : List Nat} {x : Nat} (h : List.range n = pre ++ x :: post) : x = pre.length ∧ x < n := by
  have e : (List.range n)[pre.length]? = some x := by rw [h]; simp
  have l := (List.getElem?_eq_some_iff.mp e).1
  rw [List.length_range] at l
  rw [List.getElem?_range l] at e
  cases e
  exact ⟨rfl, l⟩
theorem putN {k n : Nat} {xs : List D} {v : D} {μ : Sto} (h : μ[k]? = some (.lst xs)) (l : n < xs.length) : putL (.ob k) (.int (n : Int)) v μ = .ok () (μ.set k (.lst (xs.set n v))) := by
  show (match μ[k]? with
    | some (.lst xs) => match ixN xs.length (n : Int) with
      | some j => O.ok () (μ.set k (.lst (xs.set j v)))
      | none => .bad
    | _ => .bad) = _
  rw [h]
  have e : ixN xs.length (n : Int) = some n := by
    unfold ixN
    rw [if_pos (by omega), if_pos (by omega)]
    rfl
  dsimp only
  rw [e]
theorem t_web {N m : Nat} (hm : m ≤ 5) (hN : 2 * m + 2 ≤ N) {r : List (Sx D)} (w : WR m r) (hz : szs r ≤ 1500) (hb : szs r + 1 + Pl.bds r ≤ 4000) : Fn (N + 1) .f_law_web [rd r] [] = .ok (webD r) [] := by
  rw [d__law_web]
  refine fun_wpZ puL0 rfl ?_
  have caps := WR.caps m w
  have cl := cap_le hm
  obtain ⟨t1, c1, ht1, hc1, e1⟩ := c_tok (tok_ok m hm N (by omega)) (r := r) (at_ := 0) (g := 0) (F := fun _ => none) (G := fun _ => none) (M := []) (nt := 0) (nc := 0) (tb := .dct [] []) (cb := .dct [] []) ⟨w, by decide, hz, fun _ _ => rfl, by omega, by omega, by simp; omega⟩ dk_new dk_new
  simp only [List.length_nil, List.nil_append, Nat.zero_add] at ht1 hc1 e1
  have bm := WR.bds m w
  obtain ⟨t2, ht2, e2⟩ := c_add (N := N) (by omega) (ones := lsts r 0 0) (Z := [((szs r : Nat) : Int)]) ht1 (by omega) (Pl.lsts_nd r _ _ (by decide)) (fun t ht => by
    obtain ⟨l, hl⟩ := Pl.lsts_key r 0 0 [] t ht
    refine ⟨l, Pl.ov_at (Pl.tfs_nd r _ _ _ (by decide)) hl, ?_⟩
    have := Pl.tfs_len r 0 0 [] 1 (by simp) (Nat.le_refl _) _ hl
    dsimp only at *
    simp only [List.length_singleton]
    omega)
  rw [Pl.addT_ov (fun _ _ => rfl), Pl.tfs_add r _ _ _ _ (by decide), List.nil_append] at ht2
  have good := Pl.whole_ok (r := r) (N := m) (W := 4000) (Nat.le_refl _) caps.2.2 hb
  have el : (enS r).length = szs r := Pl.ens_len r _ _ _ _ _ _
  have pb : plW (ov (tfs r 0 0 [((szs r : Nat) : Int)]) fun _ => none) (m + 1) (aft r 0 [((szs r : Nat) : Int)]) = some (sortU (aft r 0 [((szs r : Nat) : Int)])) := by
    refine RB.pl (B := 4000) (RB.nn (fun x hx => ?_) ?_) (Nat.le_refl _)
    · exact (Pl.aft_in (r := r) (at_ := 0) (A := [((szs r : Nat) : Int)]) (M := ((szs r : Nat) : Int)) (by decide) (by omega) (by simp) x hx).1
    · have := Pl.aft_len r 0 [((szs r : Nat) : Int)]
      simp only [List.length_singleton] at this
      omega
  have cb := c_plain (N := N) (by omega) ht2 pb
  have cpl : ∀ {Z A : List Int} (q : Sto), RB (ov (tfs r 0 0 [((szs r : Nat) : Int)]) fun _ => none) m Z A 4000 → callV 2 (Fn N .f_law_plain) [.ob 0, li Z] (t2 :: q) = .ok (li (sortU A)) (t2 :: q) := fun q h => c_plain (N := N) (by omega) ht2 (h.pl (Nat.le_refl _)) q
  have sm : ∀ q : Sto, callV 1 (Fn N .f_law_listed) [rd r] q = .ok (.lst (flts r)) q := c_listed (by omega) hm w
  unfold b_law_web
  refine seq_gen fun B hB => ?_
  simp [env0]
  subst hB
  refine seq_gen fun B hB => ?_
  simp
  subst hB
  refine seq_gen fun B hB => ?_
  have nl3 : ∀ a b, newL true [] [a, b] = .ok (.ob 2) [a, b, .lst []] := fun _ _ => rfl
  simp [nl3]
  subst hB
  refine seq_gen fun B hB => ?_
  have e1' : callV 6 (Fn N .f_law_row_tokens) [rd r, .int 0, .int 0, .ob 0, .ob 1, .ob 2] [.dct [] [], .dct [] [], .lst []] = .ok (reD (nuls r) (fsts r 0) (lsts r 0 0) (0 + szs r)) [t1, c1, mlD (mks r 0 0)] := e1 []
  simp [e1']
  subst hB
  refine seq_gen fun B hB => ?_
  simp [ixl3]
  subst hB
  refine seq_gen fun B hB => ?_
  have e2' : ∀ q, callV 3 (Fn N .f_law_add) [.ob 0, li (lsts r 0 0), .lst [.int ((szs r : Nat) : Int)]] (t1 :: q) = .ok .non (t2 :: q) := e2
  simp [ixl2, e2']
  subst hB
  refine seq_gen fun B hB => ?_
  have la : ((fsts r 0).length + (oneIf (nuls r) ((szs r : Nat) : Int)).length) ≤ 1000000 := by
    have := Pl.aft_len r 0 [((szs r : Nat) : Int)]
    rw [aft_one, List.length_append] at this
    simp only [List.length_singleton] at this
    omega
  simp only [aft_one] at cb
  simp [ixl0, ixl1, int_bi, mul_bi, addD_li la, cb]
  subst hB
  refine seq_gen fun B hB => ?_
  have nl4 : ∀ a b c, newL true [] [a, b, c] = .ok (.ob 3) [a, b, c, .lst []] := fun _ _ _ => rfl
  simp [nl4]
  subst hB
  refine seq_gen fun B hB => ?_
  have nl5 : ∀ a b c d, newL true [] [a, b, c, d] = .ok (.ob 4) [a, b, c, d, .lst []] := fun _ _ _ _ => rfl
  simp [nl5]
  subst hB
  refine seq_gen fun B hB => ?_
  simp [sm]
  subst hB
  refine seq_gen fun B hB => ?_
  refine for_gen fun F hF => ?_
  have rg : ∀ μ, rng1D [.int ((szs r : Nat) : Int)] μ = .ok (.rng 0 (szs r)) μ := fun μ => by
    have := rng1_ok (j := ((szs r : Nat) : Int)) (μ := μ) (by omega) (by omega)
    simpa using this
  simp [rg]
  rw [show rngL 0 (szs r) = (List.range (szs r)).map fun j : Nat => D.int (0 + (j : Int)) from rfl]
  obtain ⟨FL, hFL⟩ : ∃ FL, FL = (enS r).map folL := ⟨_, rfl⟩
  obtain ⟨LL, hLL⟩ : ∃ LL, LL = (enS r).map lanL := ⟨_, rfl⟩
  obtain ⟨J, hJ⟩ : ∃ J : List Nat → Vl.Env → Sto → Prop, ∀ pre Γ μ, J pre Γ μ ↔ ∃ z, μ = [t2, c1, mlD (mks r 0 0), .lst (FL.take pre.length), .lst (LL.take pre.length)] ∧ Γ = [some (rd r), some (.ob 0), some (.ob 1), some (.ob 2), some (reD (nuls r) (fsts r 0) (lsts r 0 0) ((szs r : Nat) : Int)), some (.int ((szs r : Nat) : Int)), some (li (sortU (fsts r 0 ++ oneIf (nuls r) ((szs r : Nat) : Int)))), some (.ob 3), some (.ob 4), some (.lst (flts r)), z] := ⟨_, fun _ _ _ => Iff.rfl⟩
  refine w_forM (fun j : Nat => D.int (0 + (j : Int))) J ((hJ _ _ _).mpr ⟨none, by simp, rfl⟩) ?_ ?_
  · intro pre j post Γ μ er h0
    obtain ⟨z, rfl, rfl⟩ := (hJ _ _ _).mp h0
    obtain ⟨ej, lt⟩ := range_pre er
    subst ej
    obtain ⟨e, he, ea⟩ := Pl.ens_get (k := 0) (Z := [((szs r : Nat) : Int)]) (A := [((szs r : Nat) : Int)]) (g := 0) (C := []) lt
    have lt2 : pre.length < (enS r).length := by rw [el]; exact lt
    obtain ⟨g1, g2, g3⟩ := good e (List.mem_of_getElem? he)
    have tkF : FL.take (pre.length + 1) = FL.take pre.length ++ [folL e] := by
      rw [List.take_add_one, hFL, List.getElem?_map, he]
      rfl
    have tkL : LL.take (pre.length + 1) = LL.take pre.length ++ [lanL e] := by
      rw [List.take_add_one, hLL, List.getElem?_map, he]
      rfl
    have lF : FL.length = szs r := by rw [hFL, List.length_map, el]
    have lL : LL.length = szs r := by rw [hLL, List.length_map, el]
    rw [ea] at g1
    have gt : ∀ q, dgetD (.ob 0) (.int (pre.length : Int)) (t2 :: q) = .ok (li e.Z) (t2 :: q) := fun q => ht2.get (k := 0) rfl g1
    have gc : ∀ q, dgetD (.ob 1) (.int (pre.length : Int)) (t2 :: c1 :: q) = .ok (.int e.g) (t2 :: c1 :: q) := fun q => hc1.get (k := 1) rfl (by
      rw [← Pl.ens_cps r 0 0 [((szs r : Nat) : Int)] [((szs r : Nat) : Int)] 0 []]
      exact Pl.ov_at (Pl.ens_nd r 0 _ _ 0 []) (by rw [← ea]; exact List.mem_map.mpr ⟨e, List.mem_of_getElem? he, rfl⟩))
    have pt := fun q => cpl q g2
    have xe : ∀ μ, ixD (.lst (flts r)) (.int (pre.length : Int)) μ = .ok e.x μ := fun μ => ixL (at_nat (by omega) (by
      rw [← Pl.ens_x r 0 0 [((szs r : Nat) : Int)] [((szs r : Nat) : Int)] 0 [], List.getElem?_map, Int.toNat_natCast, he]
      rfl))
    have se : Sim e.x := flt_pu m w e.x (by
      rw [← Pl.ens_x r 0 0 [((szs r : Nat) : Int)] [((szs r : Nat) : Int)] 0 []]
      exact List.mem_map.mpr ⟨e, List.mem_of_getElem? he, rfl⟩)
    rw [w_up, x_gN, w_ok]
    subst hF
    have e0 : (0 : Int) + (pre.length : Int) = (pre.length : Int) := by omega
    simp only [e0]
    have ln : (FL.take pre.length).length < 1000000 := by
      rw [List.length_take]
      omega
    refine seq_gen fun B1 hB1 => ?_
    have ap3 : ∀ v, appendD (.ob 3) [v] [t2, c1, mlD (mks r 0 0), .lst (FL.take pre.length), .lst (LL.take pre.length)] = .ok .non [t2, c1, mlD (mks r 0 0), .lst (FL.take pre.length ++ [v]), .lst (LL.take pre.length)] := fun v => appK (k := 3) rfl ln
    have il3 : isListD (.ob 3) [t2, c1, mlD (mks r 0 0), .lst (FL.take pre.length), .lst (LL.take pre.length)] = .ok () [t2, c1, mlD (mks r 0 0), .lst (FL.take pre.length), .lst (LL.take pre.length)] := isList_ob (k := 3) rfl
    simp [il3, gt, pt, ap3]
    subst hB1
    refine seq_gen fun B1 hB1 => ?_
    have lt3 : (FL.take pre.length).length = pre.length := by rw [List.length_take]; omega
    have put3 : ∀ v w, putL (.ob 3) (.int (pre.length : Int)) w [t2, c1, mlD (mks r 0 0), .lst (FL.take pre.length ++ [v]), .lst (LL.take pre.length)] = .ok () [t2, c1, mlD (mks r 0 0), .lst (FL.take pre.length ++ [w]), .lst (LL.take pre.length)] := fun v w => by
      rw [putN (k := 3) (xs := FL.take pre.length ++ [v]) rfl (by rw [List.length_append, lt3]; simp)]
      have : (FL.take pre.length ++ [v]).set pre.length w = FL.take pre.length ++ [w] := by
        rw [List.set_append, lt3]
        simp
      rw [this]
      rfl
    have second : ∀ {S : Fl → Sto → Prop} {X : Ex → Sto → Prop}, (∀ Γ μ, J (pre ++ [pre.length]) Γ μ → S (.nx Γ) μ) → Wp (B1 [some (rd r), some (.ob 0), some (.ob 1), some (.ob 2), some (reD (nuls r) (fsts r 0) (lsts r 0 0) ((szs r : Nat) : Int)), some (.int ((szs r : Nat) : Int)), some (li (sortU (fsts r 0 ++ oneIf (nuls r) ((szs r : Nat) : Int)))), some (.ob 3), some (.ob 4), some (.lst (flts r)), some (.int (pre.length : Int))] [t2, c1, mlD (mks r 0 0), .lst (FL.take pre.length ++ [folL e]), .lst (LL.take pre.length)]) S X := by
      intro S X fin
      have fin2 := fin [some (rd r), some (.ob 0), some (.ob 1), some (.ob 2), some (reD (nuls r) (fsts r 0) (lsts r 0 0) ((szs r : Nat) : Int)), some (.int ((szs r : Nat) : Int)), some (li (sortU (fsts r 0 ++ oneIf (nuls r) ((szs r : Nat) : Int)))), some (.ob 3), some (.ob 4), some (.lst (flts r)), some (.int (pre.length : Int))] [t2, c1, mlD (mks r 0 0), .lst (FL.take pre.length ++ [folL e]), .lst (LL.take pre.length ++ [lanL e])] ((hJ _ _ _).mpr ⟨_, by rw [List.length_append, List.length_singleton, tkF, tkL], rfl⟩)
      have ap4 : ∀ v, appendD (.ob 4) [v] [t2, c1, mlD (mks r 0 0), .lst (FL.take pre.length ++ [folL e]), .lst (LL.take pre.length)] = .ok .non [t2, c1, mlD (mks r 0 0), .lst (FL.take pre.length ++ [folL e]), .lst (LL.take pre.length ++ [v])] := fun v => appK (k := 4) rfl (by rw [List.length_take]; omega)
      have il4 : isListD (.ob 4) [t2, c1, mlD (mks r 0 0), .lst (FL.take pre.length ++ [folL e]), .lst (LL.take pre.length)] = .ok () [t2, c1, mlD (mks r 0 0), .lst (FL.take pre.length ++ [folL e]), .lst (LL.take pre.length)] := isList_ob (k := 4) rfl
      subst hB1
      rcases g3 with ⟨gz, gC⟩ | ⟨k, mm, gk, gm, gR⟩
      · have lz : lanL e = .lst [] := by unfold lanL; rw [gC]; rfl
        rw [lz] at fin2
        simp [gc, gz, eqI, il4, ap4]
        exact fin2
      · have gn : ¬ (sgn k = 0) := by show ¬ (-1 - (k : Int) = 0); omega
        have mi : ∀ q, ixD (.ob 2) (.int (-1 - sgn k)) (t2 :: c1 :: mlD (mks r 0 0) :: q) = .ok (li mm) (t2 :: c1 :: mlD (mks r 0 0) :: q) := fun q => by
          rw [show -1 - sgn k = (k : Int) by show -1 - (-1 - (k : Int)) = _; omega]
          exact ixk (k := 2) (xs := (mks r 0 0).map li) rfl (by rw [List.getElem?_map, gm]; rfl)
        have pm := fun q => cpl q gR
        have dk : decide (sgn k = 0) = false := decide_eq_false gn
        simp only [gk] at gc
        generalize sgn k = sg at *
        simp [gc, eqI, dk, gn, il4, mi, pm, ap4]
        exact fin2
    have cont : ∀ Γ μ, J (pre ++ [pre.length]) Γ μ → LoopK (.nx Γ) (fun Γ' => J (pre ++ [pre.length]) Γ' μ) (fun f => Nx f (fun Γ' => Wp (B Γ' μ) (fun f m => ∃ d', f = Fl.rt d' ∧ Fz 0 m d' (webD r)) fun _ _ => False) fun f => ∃ d', f = Fl.rt d' ∧ Fz 0 μ d' (webD r)) := fun Γ μ h => by rw [lk_nx]; exact h
    cases ed : endD e.x with
    | true =>
      have lf : folL e = .lst [] := by unfold folL; rw [ed]; rfl
      rw [lf] at second
      simp [xe, se.inEnd, ed, put3]
      exact second cont
    | false =>
      have lf : folL e = li (sortU e.A) := by unfold folL; rw [ed]; rfl
      rw [lf] at second
      simp [xe, se.inEnd, ed]
      exact second cont
  · intro Γ μ h0
    obtain ⟨z, rfl, rfl⟩ := (hJ _ _ _).mp h0
    rw [nx_nx]
    subst hB
    have t1F : FL.take (List.range (szs r)).length = FL := by rw [List.length_range, ← el, ← List.length_map (f := folL), ← hFL, List.take_length]
    have t1L : LL.take (List.range (szs r)).length = LL := by rw [List.length_range, ← el, ← List.length_map (f := lanL), ← hLL, List.take_length]
    rw [t1F, t1L]
    simp
    show Fz 0 _ _ (.lst [li (sortU (aft r 0 [((szs r : Nat) : Int)])), .lst ((enS r).map folL), .lst ((enS r).map lanL)])
    rw [← hFL, ← hLL]
    have pF : Pu (.lst FL) := by rw [hFL]; exact puLst (puMap folL (fun e => puLstI _) _)
    have pL : Pu (.lst LL) := by rw [hLL]; exact puLst (puMap lanL (fun e => puLstI _) _)
    exact mm_lst (mm_cons ((puLstI _ : Pu (li _)).map _) (mm_cons (Fz.ob (by omega) rfl pF) (mm_cons (Fz.ob (by omega) rfl pL) mm_nil)))
theorem c_web {N m : Nat} (hm : m ≤ 5) (hN : 2 * m + 3 ≤ N) {r : List (Sx D)} (w : WR m r) (hz : szs r ≤ 1500) (hb : szs r + 1 + Pl.bds r ≤ 4000) (μ : Sto) : callV 1 (Fn N .f_law_web) [rd r] μ = .ok (webD r) μ := by
  obtain ⟨k, rfl⟩ : ∃ k, N = k + 1 := ⟨N - 1, by omega⟩
  exact callV_pu rfl (puL1 (WR.pl m w).2.pu) (t_web hm (by omega) w hz hb) (webPu r)
end K11

namespace K11
open PySem PySem.Spec PyProof.Rows L2 Vl

open Pl (Sx)
open Pl (szs sz flt flts nul nuls fst fsts gd gds aft)

open Vl (sortU)
theorem plTi (A : List Int) : Pl 1 (ti A) := .tup fun x hx => by obtain ⟨i, _, rfl⟩ := List.mem_map.mp hx; exact .int i
def folT (e : Pl.En D) : D := ti (if endD e.x then [] else sortU e.A)
def lanT (e : Pl.En D) : D := ti (sortU e.C)
theorem ents_enS (r : List (Sx D)) : entries r = (enS r).map fun e => (e.at_, e.x, e.A, e.C) := (Pl.ens_pes r 0 0 [((szs r : Nat) : Int)] [((szs r : Nat) : Int)] 0 []).symm
theorem same_fol (r : List (Sx D)) : (entries r).map folD = (enS r).map folT := by
  rw [ents_enS, List.map_map]
  rfl
theorem same_cat (r : List (Sx D)) : (entries r).map catD = (enS r).map lanT := by
  rw [ents_enS, List.map_map]
  rfl
theorem enS_len (r : List (Sx D)) : (enS r).length = szs r := Pl.ens_len r _ _ _ _ _ _
theorem plFolT (r : List (Sx D)) : Pl 2 (.lst ((enS r).map folT)) := .lst fun x hx => by obtain ⟨e, _, rfl⟩ := List.mem_map.mp hx; exact plTi _
theorem plLanT (r : List (Sx D)) : Pl 2 (.lst ((enS r).map lanT)) := .lst fun x hx => by obtain ⟨e, _, rfl⟩ := List.mem_map.mp hx; exact plTi _
theorem WR.app {n : Nat} {a b : List (Sx D)} (ha : WR n a) (hb : WR n b) (l : a.length + b.length ≤ 6) : WR n (a ++ b) := by
  cases n with
  | zero => exact ha.elim
  | succ n =>
    refine ⟨by rw [List.length_append]; exact l, fun s hs => ?_⟩
    rcases List.mem_append.mp hs with h | h
    · exact ha.2 s h
    · exact hb.2 s h
theorem szs_app : ∀ a b : List (Sx D), szs (a ++ b) = szs a + szs b
  | [], b => by simp [szs]
  | s :: a, b => by simp only [List.cons_append, szs, szs_app a b]; omega
theorem add_rd {a b : List (Sx D)} (l : a.length + b.length ≤ 6) (μ : Sto) : addD false (rd a) (rd b) μ = .ok (rd (a ++ b)) μ := by
  have := addD_tup (m := false) (xs := a.map sd) (ys := b.map sd) (μ := μ) (by simp; unfold many; omega)
  rw [this, ← List.map_append]
theorem neSelf {n : Nat} {d : D} (h : Pl n d) (hn : n ≤ 64) (μ : Sto) : bE eqD true d d μ = .ok (.bl false) μ := by
  simp [bE, eqD_self h hn]

open Pl (Sx)
open Pl (szs sz flt flts nul nuls fst fsts gd gds aft)

theorem WR.up : ∀ (n : Nat) {r : List (Sx D)}, WR n r → WR (n + 1) r
  | 0, _, h => h.elim
  | n + 1, r, h => ⟨h.1, fun s hs => by
    have w := h.2 s hs
    cases s with
    | sim x => exact w
    | eit a b => exact ⟨WR.up n w.1, WR.up n w.2⟩
    | rep a => exact WR.up n (show WR n a from w)
    | grd a b => exact ⟨WR.up n w.1, WR.up n w.2⟩⟩
def BOD (d : D) : Prop := ∃ r, d = rd r ∧ WR 5 r ∧ szs r ≤ 145
theorem t_wrapped (n : Nat) {r : List (Sx D)} (w : WR 3 r) (hz : szs r ≤ 126) : Drw (Fn (n + 5) .f_law_wrapped) [rd r] 131 BOD := by
  have rows : Drw (Fn (n + 4) .f_law_rows) [.int 1] (rowsK 1) (fun d => LoB 2 d d) := t_law_rows n 1
  have hK : rowsK 1 = 125 := rfl
  rw [hK] at rows
  rw [show n + 5 = n + 4 + 1 from rfl, d__law_wrapped]
  refine drw_of fun c o hs hc => ?_
  unfold b_law_wrapped
  refine seq_gen fun B hB => ?_
  simp [env0]
  refine w_draw (n + 3) (by decide) (by decide) hs (by omega) fun kd o1 k0 k1 s1 => ?_
  try simp
  subst hB
  refine seq_gen fun B hB => ?_
  simp
  refine w_drw rows s1 (by omega) rfl rfl fun d o2 hd pd s2 => ?_
  obtain ⟨q, rfl, wq, lq, zq⟩ := LoB.tree 2 hd
  have zq : szs q ≤ 18 := zq
  have w4 := WR.up 3 w
  have q3 := WR.up 2 wq
  have pack : ∀ {r' : List (Sx D)} {o3 : D} {c' : Int}, WR 5 r' → szs r' ≤ 145 → StO c' o3 → c' ≤ c + 131 → OutD BOD (c + 131) (.rt (rd r')) [o3] := fun w z s l => .rt ⟨_, rfl, w, z⟩ (WR.pu w) s l
  have one : ∀ {n : Nat} {s : Sx D}, WS (WR n) s → WR (n + 1) [s] := fun h => ⟨by simp, fun t ht => by rw [List.mem_singleton.mp ht]; exact h⟩
  subst hB
  refine seq_gen fun B hB => ?_
  by_cases c0 : kd = 0
  · subst c0
    simp [eqI]
    have g : rd [.grd r q] = .tup [.tup [.str (Str.ofString "guard"), rd r, rd q]] := by rw [rd, List.map_cons, sd_grd]; rfl
    have := pack (r' := [.grd r q]) (WR.up 4 (one (n := 3) ⟨w, q3⟩)) (by simp only [szs, sz]; omega) s2 (by omega)
    rw [g] at this
    exact this
  · simp [eqI, c0]
    subst hB
    refine seq_gen fun B hB => ?_
    by_cases c1 : kd = 1
    · subst c1
      simp [eqI]
      have g : rd [.rep [.grd r q]] = .tup [.tup [.str (Str.ofString "repeat"), .tup [.tup [.str (Str.ofString "guard"), rd r, rd q]]]] := by rw [rd, List.map_cons, sd_rep, rd, List.map_cons, sd_grd]; rfl
      have := pack (r' := [.rep [.grd r q]]) (one (n := 4) (one (n := 3) ⟨w, q3⟩)) (by simp only [szs, sz]; omega) s2 (by omega)
      rw [g] at this
      exact this
    · simp [eqI, c1]
      subst hB
      refine seq_gen fun B hB => ?_
      by_cases c2 : kd = 2
      · subst c2
        simp [eqI]
        refine w_drw (t_law_simple (n + 2)) s2 (by omega) rfl rfl fun d o3 hd pd s3 => ?_
        have g : rd [.grd q r, .sim d] = .tup [.tup [.str (Str.ofString "guard"), rd q, rd r], d] := by rw [rd, List.map_cons, sd_grd]; rfl
        have := pack (r' := [.grd q r, .sim d]) (WR.up 4 (r := [.grd q r, .sim d]) ⟨by simp, fun t ht => by
          simp only [List.mem_cons, List.not_mem_nil, or_false] at ht
          rcases ht with rfl | rfl
          · exact ⟨q3, w⟩
          · exact hd⟩) (by simp only [szs, sz]; omega) s3 (by omega)
        rw [g] at this
        try simp
        exact this
      · simp [eqI, c2]
        subst hB
        simp
        exact pack (WR.up 4 (WR.up 3 w)) (by omega) s2 (by omega)

theorem law_true : ∀ ns : List Int, ns.length ≤ 63 → ∃ μ, Fn 24 .flaw [.scr ns] [] = .ok (.bl true) μ := by
  intro ns hns
  obtain ⟨o, s0, e0⟩ := t_law_start 22 hns
  have st : callV 1 (Fn 23 .f_law_start) [.scr ns] [] = .ok (.ob 0) [o] := e0 []
  have rows : Drw (Fn 23 .f_law_rows) [.int 2] (rowsK 2) (fun d => LoB 3 d d) := t_law_rows 18 2
  have rows1 : Drw (Fn 23 .f_law_rows) [.int 1] (rowsK 1) (fun d => LoB 2 d d) := t_law_rows 19 1
  have hK : rowsK 2 = 755 := rfl
  have hK1 : rowsK 1 = 125 := rfl
  rw [hK] at rows
  rw [hK1] at rows1
  refine ⟨[], ?_⟩
  rw [d_law]
  refine fun_wp (puBl _) ?_
  unfold blaw
  refine seq_gen fun B hB => ?_
  simp [env0, st]
  subst hB
  refine seq_gen fun B hB => ?_
  refine for_gen fun F hF => ?_
  have rg : ∀ μ, rng1D [.int 2] μ = .ok (.rng 0 2) μ := fun μ => rng1_ok (j := 2) (by omega) (by omega)
  simp [rg]
  rw [show rngL 0 2 = (List.range 2).map fun j : Nat => D.int (0 + (j : Int)) from rfl]
  obtain ⟨J, hJ⟩ : ∃ J : List Nat → Vl.Env → Sto → Prop, ∀ pre Γ μ, J pre Γ μ ↔ ∃ o z2 z3 z4 z5 z6 z7, μ = [o] ∧ StO (2000 * (pre.length : Int)) o ∧ Γ = [some (.scr ns), some (.ob 0), z2, z3, z4, z5, z6, z7] := ⟨_, fun _ _ _ => Iff.rfl⟩
  refine w_forM (fun j : Nat => D.int (0 + (j : Int))) J ((hJ _ _ _).mpr ⟨o, none, none, none, none, none, none, rfl, by simpa using s0, rfl⟩) ?_ ?_
  · intro pre j post Γ μ er h
    obtain ⟨o, z2, z3, z4, z5, z6, z7, rfl, so, rfl⟩ := (hJ _ _ _).mp h
    obtain ⟨ej, lt⟩ := range_pre er
    rw [w_up, x_gN, w_ok]
    subst hF
    refine seq_gen fun B1 hB1 => ?_
    simp
    refine w_drw rows so (by omega) rfl rfl fun d o1 hd pd s1 => ?_
    obtain ⟨r1, rfl, w1, l1, z1⟩ := LoB.tree 3 hd
    try simp
    refine w_drw rows1 s1 (by omega) rfl rfl fun d o2 hd pd s2 => ?_
    obtain ⟨r2, rfl, w2, l2, z2⟩ := LoB.tree 2 hd
    have ad := add_rd (a := r1) (b := r2) (by omega)
    have w := w1.app (WR.up 2 w2) (by omega)
    have zr : szs (r1 ++ r2) ≤ 126 := by
      rw [szs_app]
      have a : szs r1 ≤ 108 := z1
      have b : szs r2 ≤ 18 := z2
      omega
    rw [ad, w_ok]
    try simp only []
    try simp
    refine w_drw (t_wrapped 18 w zr) s2 (by omega) rfl (puL1 (WR.pu w)) fun d o3 hd pd s3 => ?_
    obtain ⟨r, rfl, w, zr⟩ := hd
    try simp only []
    have bm := WR.bds 5 w
    subst hB1
    refine seq_gen fun B1 hB1 => ?_
    have w2' : ∀ μ, ixD (webD r) (.int 2) μ = .ok (.lst ((enS r).map lanL)) μ := fun _ => rfl
    simp [c_web (N := 23) (by omega) (by omega) w (by omega) (by omega), w2']
    subst hB1
    have ln : ∀ μ, lenD [.lst ((enS r).map lanL)] μ = .ok (.int ((szs r : Nat) : Int)) μ := fun μ => by
      show O.ok (D.int ((((enS r).map lanL).length : Nat) : Int)) μ = _
      rw [List.length_map, enS_len]
    have rg : ∀ μ, rng1D [.int ((szs r : Nat) : Int)] μ = .ok (.rng 0 (szs r)) μ := fun μ => by
      have := rng1_ok (j := ((szs r : Nat) : Int)) (μ := μ) (by omega) (by omega)
      simpa using this
    have rgl : rngL 0 (szs r) = (List.range (szs r)).map fun j : Nat => D.int (0 + (j : Int)) := rfl
    have el := ents_len r
    have rge : ∀ g : Int × D × List Int × List Int → D, (List.range (szs r)).map (fun j => ((entries r)[j]?).elim .non g) = (entries r).map g := fun g => by
      have := range_get (entries r) g .non
      rw [el] at this
      exact this
    have fewL : (List.range (szs r)).length ≤ many := by rw [List.length_range]; unfold many; omega
    have fewE : ∀ g : Pl.En D → D, ((enS r).map g).length ≤ many := fun g => by rw [List.length_map, enS_len]; unfold many; omega
    have fewS : (enS r).length ≤ many := by rw [enS_len]; unfold many; omega
    refine seq_gen fun B1 hB1 => ?_
    simp [ln, rg]
    rw [rgl]
    refine w_lcM (fun j : Nat => D.int (0 + (j : Int))) (fun j => ((entries r)[j]?).elim .non catD) _ fewL (fun j hj => w_body1 ?_) ?_
    · obtain ⟨e, h1, h2⟩ := ents_at (List.mem_range.mp hj)
      simp [wipeD, h1, c_catchers (N := 23) (by omega) (by omega) w (by omega) h1]
    · rw [rge, same_cat]
      refine w_new (fewE _) ?_
      subst hB1
      simp
      refine w_lcM lanL lanT _ fewS (fun e he => w_body1 ?_) ?_
      · simp [lanL, lanT, wipeD, tupleD]
      · refine w_new (fewE _) ?_
        simp [neSelf (plLanT r) (by decide)]
        have isT : ∀ xs μ, isiD isiTab eqK [.tup xs, .ty "tuple"] μ = .ok (.bl true) μ := fun _ _ => rfl
        refine w_lcF lanT (fun _ => false) (fun e => lanT e) _ fewS (fun e he => w_body ?_ fun h => by cases h) ?_
        · simp [lanT, wipeD, isT, truthD]
        · rw [show (enS r).filter (fun _ => false) = [] by simp]
          refine w_new (by simp) ?_
          simp [lenD]
          refine (hJ _ _ _).mpr ⟨o3, _, _, _, _, _, _, rfl, s3.le ?_, rfl⟩
          simp
          omega
  · intro Γ μ h
    obtain ⟨o, z2, z3, z4, z5, z6, z7, rfl, so, rfl⟩ := (hJ _ _ _).mp h
    rw [nx_nx]
    subst hB
    simp
end K11

namespace K11
open PySem PySem.Spec PyProof.Rows L2 Vl
theorem facts {P : Program} {w : World} {K : PySem.W.Frag} {h : Heap} {mg : Str → Option Value} {f : Addr} (X : K.In h) (G : h.Ns mainGlobals mg) (hfa : mg ("law" : Str) = some (.ref f)) (c1 : SaysG fa fn fs ex cts ts w h K) :
    ∃ fd : FuncData, (∀ (s : Shared) (v : Value), BindsTo s fd ⟨[v], []⟩ [("_law_script", v)]) ∧ ∀ base : Heap, K.In base → base.Ns mainGlobals mg → (∀ p ∈ codesOf K, LamX.TabB base mg p.1 p.2) → FnOk P w K mg base CX0 194 f fd ["_law_script"] (spLawG K) := by
  have c0 := c1.n
  have c := c0.d
  have cx := c0.x
  have T : Txt K mg :=
    { z_int := He.free_ok X G (c.fact 31 (f := .free "int") rfl),
      z_isinstance := He.free_ok X G (c.fact 32 (f := .free "isinstance") rfl),
      z_len := He.free_ok X G (c.fact 33 (f := .free "len") rfl),
      z_list := He.free_ok X G (c.fact 34 (f := .free "list") rfl),
      z_range := He.free_ok X G (c.fact 35 (f := .free "range") rfl),
      z_reversed := He.free_ok X G (c.fact 36 (f := .free "reversed") rfl),
      z_set := He.free_ok X G (c.fact 37 (f := .free "set") rfl),
      z_sorted := He.free_ok X G (c.fact 38 (f := .free "sorted") rfl),
      z_tuple := He.free_ok X G (c.fact 39 (f := .free "tuple") rfl),
      g_Layout := He.glo_ok X G (c.fact 20 (f := .glo "Layout") rfl),
      cl_Layout := He.cls_ok (c.fact 21 (f := .cls "Layout") rfl),
      mk_Layout := He.mkr_ok (c.fact 22 (f := .mkr "Layout") rfl),
      g_BLOCKS := He.glo_ok X G (c.fact 23 (f := .glo "BLOCKS") rfl),
      g_FewError := He.glo_ok X G (c.fact 24 (f := .glo "FewError") rfl),
      g_NoPlace := He.glo_ok X G (c.fact 25 (f := .glo "NoPlace") rfl),
      na_Layout_catchers := He.noat_ok (c.fact 26 (f := .noat "Layout" "catchers") rfl),
      na_Layout_end := He.noat_ok (c.fact 27 (f := .noat "Layout" "end") rfl),
      na_Layout_firsts := He.noat_ok (c.fact 28 (f := .noat "Layout" "firsts") rfl),
      na_Layout_followers := He.noat_ok (c.fact 29 (f := .noat "Layout" "followers") rfl),
      na_Layout_statements := He.noat_ok (c.fact 30 (f := .noat "Layout" "statements") rfl),
      i_Layout := Ow.isiB_ok (He.ba cx).1,
      is0 := of_decide_eq_true (He.ba (He.ba cx).2).1,
      is1 := of_decide_eq_true (He.ba (He.ba (He.ba cx).2).2).1,
      is2 := of_decide_eq_true (He.ba (He.ba (He.ba (He.ba cx).2).2).2).1,
      is3 := of_decide_eq_true (He.ba (He.ba (He.ba (He.ba (He.ba cx).2).2).2).2).1,
      is4 := of_decide_eq_true (He.ba (He.ba (He.ba (He.ba (He.ba (He.ba cx).2).2).2).2).2).1,
      is5 := of_decide_eq_true (He.ba (He.ba (He.ba (He.ba (He.ba (He.ba (He.ba cx).2).2).2).2).2).2).1,
      is6 := of_decide_eq_true (He.ba (He.ba (He.ba (He.ba (He.ba (He.ba (He.ba (He.ba cx).2).2).2).2).2).2).2).1,
      ox_NoPlace := oexB_ok (He.ba (He.ba (He.ba (He.ba (He.ba (He.ba (He.ba (He.ba (He.ba cx).2).2).2).2).2).2).2).2).1,
      xf_NoPlace := xfB_ok (He.ba (He.ba (He.ba (He.ba (He.ba (He.ba (He.ba (He.ba (He.ba (He.ba cx).2).2).2).2).2).2).2).2).2).1,
      xe_NoPlace := excB_ok (He.ba (He.ba (He.ba (He.ba (He.ba (He.ba (He.ba (He.ba (He.ba (He.ba (He.ba cx).2).2).2).2).2).2).2).2).2).2).1,
      xi_NoPlace := of_decide_eq_true (He.ba (He.ba (He.ba (He.ba (He.ba (He.ba (He.ba (He.ba (He.ba (He.ba (He.ba (He.ba cx).2).2).2).2).2).2).2).2).2).2).2).1,
      xt_NoPlace := of_decide_eq_true (He.ba (He.ba (He.ba (He.ba (He.ba (He.ba (He.ba (He.ba (He.ba (He.ba (He.ba (He.ba (He.ba cx).2).2).2).2).2).2).2).2).2).2).2).2).1,
      xno_NoPlace_place := of_decide_eq_true (He.ba (He.ba (He.ba (He.ba (He.ba (He.ba (He.ba (He.ba (He.ba (He.ba (He.ba (He.ba (He.ba (He.ba cx).2).2).2).2).2).2).2).2).2).2).2).2).2).1,
      vi_FewError := veiB_ok (He.ba (He.ba (He.ba (He.ba (He.ba (He.ba (He.ba (He.ba (He.ba (He.ba (He.ba (He.ba (He.ba (He.ba (He.ba cx).2).2).2).2).2).2).2).2).2).2).2).2).2).2).1,
      kt_BLOCKS := (He.ba (He.ba (He.ba (He.ba (He.ba (He.ba (He.ba (He.ba (He.ba (He.ba (He.ba (He.ba (He.ba (He.ba (He.ba cx).2).2).2).2).2).2).2).2).2).2).2).2).2).2).2 }
  obtain ⟨fdsize, Fsize⟩ := c.def_ 0 (d := dsize) rfl
  obtain ⟨fdsimple, Fsimple⟩ := c.def_ 1 (d := dsimple) rfl
  obtain ⟨fdunion, Funion⟩ := c.def_ 2 (d := dunion) rfl
  obtain ⟨fdopening, Fopening⟩ := c.def_ 3 (d := dopening) rfl
  obtain ⟨fdlay_block, Flay_block⟩ := c.def_ 4 (d := dlay_block) rfl
  obtain ⟨fdlay, Flay⟩ := c.def_ 5 (d := dlay) rfl
  obtain ⟨fdLayout_init, FLayout_init⟩ := c.def_ 6 (d := dLayout_init) rfl
  obtain ⟨fdcheck_place, Fcheck_place⟩ := c.def_ 7 (d := dcheck_place) rfl
  obtain ⟨fdcatchers, Fcatchers⟩ := c.def_ 8 (d := dcatchers) rfl
  obtain ⟨fd_law_start, F_law_start⟩ := c.def_ 9 (d := d_law_start) rfl
  obtain ⟨fd_law_draw, F_law_draw⟩ := c.def_ 10 (d := d_law_draw) rfl
  obtain ⟨fd_law_simple, F_law_simple⟩ := c.def_ 11 (d := d_law_simple) rfl
  obtain ⟨fd_law_rows, F_law_rows⟩ := c.def_ 12 (d := d_law_rows) rfl
  obtain ⟨fd_law_listed, F_law_listed⟩ := c.def_ 13 (d := d_law_listed) rfl
  obtain ⟨fd_law_add, F_law_add⟩ := c.def_ 14 (d := d_law_add) rfl
  obtain ⟨fd_law_row_tokens, F_law_row_tokens⟩ := c.def_ 15 (d := d_law_row_tokens) rfl
  obtain ⟨fd_law_item, F_law_item⟩ := c.def_ 16 (d := d_law_item) rfl
  obtain ⟨fd_law_plain, F_law_plain⟩ := c.def_ 17 (d := d_law_plain) rfl
  obtain ⟨fd_law_web, F_law_web⟩ := c.def_ 18 (d := d_law_web) rfl
  obtain ⟨fd_law_wrapped, F_law_wrapped⟩ := c.def_ 19 (d := d_law_wrapped) rfl
  obtain ⟨fdlaw, Flaw⟩ := c.def_ 20 (d := dlaw) rfl
  obtain ⟨fdNoPlace_init, FNoPlace_init⟩ := c.def_ 21 (d := dNoPlace_init) rfl
  have el := hfa.symm.trans (He.glo_ok X G (c.fact 19 (f := .glo "law") rfl))
  cases el
  have bl := FunD.bindsA (ps := ["_law_script"]) Flaw (fun _ _ _ _ _ _ us hl => match us, hl with | [_], _ => rfl)
  refine ⟨fdlaw, fun s v => bl s [v] rfl, fun base _ _ hTB => ?_⟩
  have mk : ∀ n, FnOk P w K mg base (L2.CX P w) (8 * n + 2) (He.ga K "size") fdsize ["rows"] (spF K 1 (Fn n .fsize)) → FnOk P w K mg base (L2.CX P w) (8 * n + 2) (He.ga K "simple") fdsimple ["rows"] (spF K 1 (Fn n .fsimple)) → FnOk P w K mg base (L2.CX P w) (8 * n + 2) (He.ga K "union") fdunion ["first", "second"] (spF K 2 (Fn n .funion)) → FnOk P w K mg base (L2.CX P w) (8 * n + 2) (He.ga K "opening") fdopening ["rows", "at"] (spF K 2 (Fn n .fopening)) → FnOk P w K mg base (L2.CX P w) (8 * n + 2) (He.ga K "lay_block") fdlay_block ["statement", "at", "after", "caught", "table"] (spF K 5 (Fn n .flay_block)) → FnOk P w K mg base (L2.CX P w) (8 * n + 2) (He.ga K "lay") fdlay ["rows", "at", "after", "caught", "table"] (spF K 5 (Fn n .flay)) → FnOk P w K mg base (L2.CX P w) (8 * n + 2) (He.ma K (He.ga K "Layout") "__init__") fdLayout_init ["self", "rows"] (spF K 2 (Fn n .fLayout_init)) → FnOk P w K mg base (L2.CX P w) (8 * n + 2) (He.ga K "check_place") fdcheck_place ["layout", "place"] (spF K 2 (Fn n .fcheck_place)) → FnOk P w K mg base (L2.CX P w) (8 * n + 2) (He.ga K "catchers") fdcatchers ["rows", "place"] (spF K 2 (Fn n .fcatchers)) → FnOk P w K mg base (L2.CX P w) (8 * n + 2) (He.ga K "_law_start") fd_law_start ["_law_script"] (spF K 1 (Fn n .f_law_start)) → FnOk P w K mg base (L2.CX P w) (8 * n + 2) (He.ga K "_law_draw") fd_law_draw ["_law_state", "_law_many"] (spF K 2 (Fn n .f_law_draw)) → FnOk P w K mg base (L2.CX P w) (8 * n + 2) (He.ga K "_law_simple") fd_law_simple ["_law_state"] (spF K 1 (Fn n .f_law_simple)) → FnOk P w K mg base (L2.CX P w) (8 * n + 2) (He.ga K "_law_rows") fd_law_rows ["_law_state", "_law_deep"] (spF K 2 (Fn n .f_law_rows)) → FnOk P w K mg base (L2.CX P w) (8 * n + 2) (He.ga K "_law_listed") fd_law_listed ["_law_rows_here"] (spF K 1 (Fn n .f_law_listed)) → FnOk P w K mg base (L2.CX P w) (8 * n + 2) (He.ga K "_law_add") fd_law_add ["_law_table", "_law_ones", "_law_twos"] (spF K 3 (Fn n .f_law_add)) → FnOk P w K mg base (L2.CX P w) (8 * n + 2) (He.ga K "_law_row_tokens") fd_law_row_tokens ["_law_rows_here", "_law_at", "_law_guard", "_law_table", "_law_caught", "_law_marks"] (spF K 6 (Fn n .f_law_row_tokens)) → FnOk P w K mg base (L2.CX P w) (8 * n + 2) (He.ga K "_law_item") fd_law_item ["_law_phrase", "_law_at", "_law_guard", "_law_table", "_law_caught", "_law_marks"] (spF K 6 (Fn n .f_law_item)) → FnOk P w K mg base (L2.CX P w) (8 * n + 2) (He.ga K "_law_plain") fd_law_plain ["_law_table", "_law_tokens"] (spF K 2 (Fn n .f_law_plain)) → FnOk P w K mg base (L2.CX P w) (8 * n + 2) (He.ga K "_law_web") fd_law_web ["_law_rows_here"] (spF K 1 (Fn n .f_law_web)) → FnOk P w K mg base (L2.CX P w) (8 * n + 2) (He.ga K "_law_wrapped") fd_law_wrapped ["_law_state", "_law_rows_here"] (spF K 2 (Fn n .f_law_wrapped)) → FnOk P w K mg base (L2.CX P w) (8 * n + 2) (He.ga K "law") fdlaw ["_law_script"] (spF K 1 (Fn n .flaw)) → Lib P w K mg base n := fun n h0 h1 h2 h3 h4 h5 h6 h7 h8 h9 h10 h11 h12 h13 h14 h15 h16 h17 h18 h19 h20 =>
    { g_size := ⟨_, _, He.glo_ok X G (c.fact 0 (f := .glo "size") rfl), Fsize.kp, Fsize.bindsN (ps := ["rows"]) (fun _ _ _ _ _ _ us hl => match us, hl with | [_], _ => rfl), h0⟩,
      g_simple := ⟨_, _, He.glo_ok X G (c.fact 1 (f := .glo "simple") rfl), Fsimple.kp, Fsimple.bindsN (ps := ["rows"]) (fun _ _ _ _ _ _ us hl => match us, hl with | [_], _ => rfl), h1⟩,
      g_union := ⟨_, _, He.glo_ok X G (c.fact 2 (f := .glo "union") rfl), Funion.kp, Funion.bindsN (ps := ["first", "second"]) (fun _ _ _ _ _ _ us hl => match us, hl with | [_, _], _ => rfl), h2⟩,
      g_opening := ⟨_, _, He.glo_ok X G (c.fact 3 (f := .glo "opening") rfl), Fopening.kp, Fopening.bindsN (ps := ["rows", "at"]) (fun _ _ _ _ _ _ us hl => match us, hl with | [_, _], _ => rfl), h3⟩,
      g_lay_block := ⟨_, _, He.glo_ok X G (c.fact 4 (f := .glo "lay_block") rfl), Flay_block.kp, Flay_block.bindsN (ps := ["statement", "at", "after", "caught", "table"]) (fun _ _ _ _ _ _ us hl => match us, hl with | [_, _, _, _, _], _ => rfl), h4⟩,
      g_lay := ⟨_, _, He.glo_ok X G (c.fact 5 (f := .glo "lay") rfl), Flay.kp, Flay.bindsN (ps := ["rows", "at", "after", "caught", "table"]) (fun _ _ _ _ _ _ us hl => match us, hl with | [_, _, _, _, _], _ => rfl), h5⟩,
      k_Layout0 := ⟨_, _, [], T.g_Layout, T.mk_Layout, FLayout_init.bindsN (ps := ["self", "rows"]) (fun _ _ _ _ _ _ us hl => match us, hl with | [_, _], _ => rfl), .nil, h6⟩,
      g_check_place := ⟨_, _, He.glo_ok X G (c.fact 6 (f := .glo "check_place") rfl), Fcheck_place.kp, Fcheck_place.bindsN (ps := ["layout", "place"]) (fun _ _ _ _ _ _ us hl => match us, hl with | [_, _], _ => rfl), h7⟩,
      g_catchers := ⟨_, _, He.glo_ok X G (c.fact 7 (f := .glo "catchers") rfl), Fcatchers.kp, Fcatchers.bindsN (ps := ["rows", "place"]) (fun _ _ _ _ _ _ us hl => match us, hl with | [_, _], _ => rfl), h8⟩,
      g__law_start := ⟨_, _, He.glo_ok X G (c.fact 8 (f := .glo "_law_start") rfl), F_law_start.kp, F_law_start.bindsN (ps := ["_law_script"]) (fun _ _ _ _ _ _ us hl => match us, hl with | [_], _ => rfl), h9⟩,
      g__law_draw := ⟨_, _, He.glo_ok X G (c.fact 9 (f := .glo "_law_draw") rfl), F_law_draw.kp, F_law_draw.bindsN (ps := ["_law_state", "_law_many"]) (fun _ _ _ _ _ _ us hl => match us, hl with | [_, _], _ => rfl), h10⟩,
      g__law_simple := ⟨_, _, He.glo_ok X G (c.fact 10 (f := .glo "_law_simple") rfl), F_law_simple.kp, F_law_simple.bindsN (ps := ["_law_state"]) (fun _ _ _ _ _ _ us hl => match us, hl with | [_], _ => rfl), h11⟩,
      g__law_rows := ⟨_, _, He.glo_ok X G (c.fact 11 (f := .glo "_law_rows") rfl), F_law_rows.kp, F_law_rows.bindsN (ps := ["_law_state", "_law_deep"]) (fun _ _ _ _ _ _ us hl => match us, hl with | [_, _], _ => rfl), h12⟩,
      g__law_listed := ⟨_, _, He.glo_ok X G (c.fact 12 (f := .glo "_law_listed") rfl), F_law_listed.kp, F_law_listed.bindsN (ps := ["_law_rows_here"]) (fun _ _ _ _ _ _ us hl => match us, hl with | [_], _ => rfl), h13⟩,
      g__law_add := ⟨_, _, He.glo_ok X G (c.fact 13 (f := .glo "_law_add") rfl), F_law_add.kp, F_law_add.bindsN (ps := ["_law_table", "_law_ones", "_law_twos"]) (fun _ _ _ _ _ _ us hl => match us, hl with | [_, _, _], _ => rfl), h14⟩,
      g__law_row_tokens := ⟨_, _, He.glo_ok X G (c.fact 14 (f := .glo "_law_row_tokens") rfl), F_law_row_tokens.kp, F_law_row_tokens.bindsN (ps := ["_law_rows_here", "_law_at", "_law_guard", "_law_table", "_law_caught", "_law_marks"]) (fun _ _ _ _ _ _ us hl => match us, hl with | [_, _, _, _, _, _], _ => rfl), h15⟩,
      g__law_item := ⟨_, _, He.glo_ok X G (c.fact 15 (f := .glo "_law_item") rfl), F_law_item.kp, F_law_item.bindsN (ps := ["_law_phrase", "_law_at", "_law_guard", "_law_table", "_law_caught", "_law_marks"]) (fun _ _ _ _ _ _ us hl => match us, hl with | [_, _, _, _, _, _], _ => rfl), h16⟩,
      g__law_plain := ⟨_, _, He.glo_ok X G (c.fact 16 (f := .glo "_law_plain") rfl), F_law_plain.kp, F_law_plain.bindsN (ps := ["_law_table", "_law_tokens"]) (fun _ _ _ _ _ _ us hl => match us, hl with | [_, _], _ => rfl), h17⟩,
      g__law_web := ⟨_, _, He.glo_ok X G (c.fact 17 (f := .glo "_law_web") rfl), F_law_web.kp, F_law_web.bindsN (ps := ["_law_rows_here"]) (fun _ _ _ _ _ _ us hl => match us, hl with | [_], _ => rfl), h18⟩,
      g__law_wrapped := ⟨_, _, He.glo_ok X G (c.fact 18 (f := .glo "_law_wrapped") rfl), F_law_wrapped.kp, F_law_wrapped.bindsN (ps := ["_law_state", "_law_rows_here"]) (fun _ _ _ _ _ _ us hl => match us, hl with | [_, _], _ => rfl), h19⟩,
      g_law := ⟨_, _, He.glo_ok X G (c.fact 19 (f := .glo "law") rfl), Flaw.kp, Flaw.bindsN (ps := ["_law_script"]) (fun _ _ _ _ _ _ us hl => match us, hl with | [_], _ => rfl), h20⟩,
      x_NoPlace := ⟨_, _, T.ox_NoPlace, T.xi_NoPlace, T.xt_NoPlace, FNoPlace_init.bindsN (ps := ["self", "place"]) (fun _ _ _ _ _ _ us hl => match us, hl with | [_, _], _ => rfl), T.g_NoPlace, okx_NoPlace FNoPlace_init T⟩,
      tb_Layout_init := ⟨tabB_of (hTB _ (c1.m ("Layout", (some "__init__")) (by decide))), c1.m ("Layout", (some "__init__")) (by decide)⟩ }
  have lib : ∀ n, Lib P w K mg base n := fun n => Nat.rec (mk 0 FnOk.bad FnOk.bad FnOk.bad FnOk.bad FnOk.bad FnOk.bad FnOk.bad FnOk.bad FnOk.bad FnOk.bad FnOk.bad FnOk.bad FnOk.bad FnOk.bad FnOk.bad FnOk.bad FnOk.bad FnOk.bad FnOk.bad FnOk.bad FnOk.bad) (fun n L => mk (n + 1) (ok_size Fsize T L) (ok_simple Fsimple T L) (ok_union Funion T L) (ok_opening Fopening T L) (ok_lay_block Flay_block T L) (ok_lay Flay T L) (ok_Layout_init FLayout_init T L) (ok_check_place Fcheck_place T L) (ok_catchers Fcatchers T L) (ok__law_start F_law_start T L) (ok__law_draw F_law_draw T L) (ok__law_simple F_law_simple T L) (ok__law_rows F_law_rows T L) (ok__law_listed F_law_listed T L) (ok__law_add F_law_add T L) (ok__law_row_tokens F_law_row_tokens T L) (ok__law_item F_law_item T L) (ok__law_plain F_law_plain T L) (ok__law_web F_law_web T L) (ok__law_wrapped F_law_wrapped T L) (ok_law Flaw T L)) n
  exact law_ofG (ok_law Flaw T (lib 23)) law_true
end K11
open PySem PySem.W PySem.Calls PyProof.Rows
set_option maxRecDepth 100000 in
set_option maxHeartbeats 0 in
theorem PySem.Challenge.cw_keysfewest_k11_catchers_holds : PySem.Challenge.rw_keysfewest_k11_catchers.Holds := by
  w_on; o_law
  refine HandSHeadRun.head_any (r := OpenLaw.row PySem.Challenge.rw_keysfewest_k11_catchers) (q := view (OpenLaw.row PySem.Challenge.rw_keysfewest_k11_catchers).prog [26]) (H := K11.hk) (ob := K11.ob) (M := 12000) (loose := K11.loose) (d := HandSHeadRun.topDef (OpenLaw.row PySem.Challenge.rw_keysfewest_k11_catchers).prog 26) (kwd := []) K11.ob_eq
    (by kernel_rfl) (fun s => by kernel_rfl) K11.run (by kernel_rfl) (by kernel_rfl) (by kernel_rfl) (by rfl) (by first | assumption | decide +kernel) (by decide +kernel) ⟨rfl, rfl, rfl, rfl, rfl, by decide +kernel⟩ ?hw ?hc
  case hw => w_witness2
  case hc =>
    refine Vl.walk_ofG (l := PySem.Challenge.rw_keysfewest_k11_catchers) (n := 63) (k := 194) (x := "_law_script") (CX := L2.CX0) rfl (by decide) (by kernel_rfl) ⟨rfl, by decide, by decide⟩ ?F (fun _ _ _ _ z => z)
    intro w mg fa h Y G hmg0
    obtain ⟨K, KX, c⟩ := Y
    have hmg : mg ("law" : PySem.Str) = some (.ref fa) := by
      have e : (HandSHeadRun.topDef (OpenLaw.row PySem.Challenge.rw_keysfewest_k11_catchers).prog 26).name = ("law" : PySem.Str) := by kernel_rfl
      rw [← e]
      exact hmg0
    obtain ⟨fd, hb, hF⟩ := K11.facts (P := (PySem.Challenge.rw_keysfewest_k11_catchers).prog) (w := w) KX G hmg c
    exact ⟨K, fd, Vl.codesOf K, Vl.spLawG K, KX, fun p hp => (c.c p hp).at_, fun p hp => (c.c p hp).no, fun p hp => (c.c p hp).code, hb, fun H a ns hl hT hS => ⟨a, ns, rfl, hS, hl, hT, fun _ => rfl⟩, hF⟩
