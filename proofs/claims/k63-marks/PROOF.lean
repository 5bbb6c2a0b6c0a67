import PyProof.Rows.All
import Wide.All
import OpenK.AllK
import Wide.FinOn
import HandS.ForMost
import HandS.OwnEq
import HandS.IterVal
import HandS.Strs
import HandS.SetFor
import HandS.Rev
import HandS.ClsMeth
import HandS.Star
import HandS.IsInst
import HandS.Codes
import HandS.TupAny
import PySem.Challenge.RW_codefromcode_k63_marks_are_sets
set_option Elab.async false
set_option linter.all false
set_option maxRecDepth 100000
set_option maxHeartbeats 4000000
set_option Elab.async false
set_option linter.all false
set_option maxRecDepth 100000
set_option maxHeartbeats 4000000
/-! Special methods of own classes, as rules of the hand layer. -/
namespace L2.OwR
open PySem PySem.Spec PyProof.Rows

theorem kit_self {K : PySem.W.Frag} {C : Addr} : PySem.W.kitOne K (.ref C) (.ref C) = some true := by
  unfold PySem.W.kitOne
  rw [if_pos (by simp)]
/-- C.m is the def at f -/
structure Sm (K : PySem.W.Frag) (C : Addr) (m : Str) (f : Addr) : Prop where
  at_ : PySem.W.findIn K (.ref C) m = some (some (.ref f))
  fn : PySem.W.isFn K (.ref f) = true
section
variable {X : Cx} {cx : CXT} {n : Nat} {f C : Addr} {fd : FuncData} {ps : List Str} {sp : Sp} {E : XK}
/-- a def runs somewhere below the body -/
theorem run_sub {A1 : Around} {pins : List (Addr × Obj)} {σ : St} {H : Hp} {s : Shared} {Q : VK} {us : List Value} {vs : List V} (sb : Sub X n A1) (F : FnOk X.prog X.w X.K X.mg X.base cx n f fd ps sp) (b : Binds X.K fd ps [])
    (hx : Passes cx X E) (I : Inv X pins σ H s) (r : Vals vs us) (h : sp vs H Q E) : wpAny (model X.prog X.w) A1 (call (.ref f) us) (EP X pins σ Q) X.xe s := by
  have g := I.env0
  have g1 : Env0 X.prog X.w X.K X.mg X.base A1 X.stack s H := ⟨sb.fr.trans g.frames, g.mod, g.bs, g.bsz, g.funs, g.frf, g.hok, g.bare⟩
  have hb : BindsTo s fd ⟨us, []⟩ (ps.zip us) := by
    have z := b s us I.kIn (by rw [List.append_nil, ← r.length]; exact F.len _ _ _ _ h)
    rwa [List.append_nil] at z
  refine wpAny_call (codeAny_mono (F.run A1 X.stack s H ⟨us, []⟩ us vs Q E sb.room g1 hb r h) fun out s' z => ?_)
  match out, z with
  | .error e, z => exact hx pins σ H s e s' I z
  | .ok (.ret u), z => exact I.after z

end

section
variable {X : Cx} {cx : CXT} {n : Nat} {f C : Addr} {fd : FuncData} {ps : List Str} {sp : Sp} {E : XK}
/-- len(o) by an own method -/
def rLenO (C : Addr) (sp : Sp) (E : XK) : List V → Hp → VK → Prop := fun xs H Q => ∃ a dx fs, xs = [.ref a] ∧ H a = some (.ins C dx fs) ∧
  sp [.ref a] H (fun v H' => ∃ k : Int, v = .int k ∧ 0 ≤ k ∧ k < 2 ^ 63 ∧ Q (.int k) H') E
theorem lenO_at {A1 : Around} {pins : List (Addr × Obj)} {σ : St} {H : Hp} {s : Shared} {Q : VK} {a dx : Addr} {fs : List (Str × V)} (sb : Sub X n A1.in1) (S : Sm X.K C "__len__" f) (F : FnOk X.prog X.w X.K X.mg X.base cx n f fd ps sp) (b : Binds X.K fd ps []) (hx : Passes cx X E)
    (I : Inv X pins σ H s) (ha : H a = some (.ins C dx fs)) (h : sp [.ref a] H (fun v H' => ∃ k : Int, v = .int k ∧ 0 ≤ k ∧ k < 2 ^ 63 ∧ Q (.int k) H') E) :
    wpAny (model X.prog X.w) A1 (call (.builtin "len") [.ref a]) (EP X pins σ Q) X.xe s := by
  obtain ⟨mA, O, _⟩ := ins_get I.hok ha
  obtain ⟨od, J, _⟩ := O.look
  obtain ⟨m, hF⟩ := I.fr
  refine PySem.W.len_K hF I.ok.mod.kin J S.at_ S.fn (wpAny_mono (run_sub (us := [.ref a]) (vs := [.ref a]) sb F b hx I (.cons rfl .nil) h) (fun u s' z => ?_) fun _ _ z => z)
  obtain ⟨v, H', I', rv, k, rfl, h0, h1, q⟩ := z
  obtain ⟨t, rfl⟩ := rv
  exact ⟨⟨h0, h1⟩, .int k, H', I'.tok _, ⟨_, rfl⟩, q⟩
theorem cr_lenO (S : Sm X.K C "__len__" f) (F : FnOk X.prog X.w X.K X.mg X.base cx n f fd ps sp) (hr : Room (n + 1) X.A) (b : Binds X.K fd ps []) (hx : Passes cx X E) : CallR X (.builtin "len") (rLenO C sp E) := by
  intro pins s σ H xs us Q I r h
  obtain ⟨a, dx, fs, rfl, ha, h⟩ := h
  obtain rfl := Vals.ref1 r
  exact lenO_at ((Sub.mk hr rfl : Sub X (n + 1) X.A).in1) S F b hx I ha h

/-- x in o by an own method -/
def rInO (C : Addr) (sp : Sp) (E : XK) : R2 := fun x y H Q => ∃ a dx fs, y = .ref a ∧ H a = some (.ins C dx fs) ∧ sp [.ref a, x] H (fun v H' => ∃ k : Bool, v = .bl k ∧ Q (.bl k) H') E
theorem or_inO (S : Sm X.K C "__contains__" f) (F : FnOk X.prog X.w X.K X.mg X.base cx n f fd ps sp) (hr : Room n X.A) (b : Binds X.K fd ps []) (hx : Passes cx X E) : OpR X (compareOp .In) (rInO C sp E) := by
  intro pins s σ H x y v u Q I rx ry h
  obtain ⟨a, dx, fs, rfl, ha, h⟩ := h
  cases ry
  obtain ⟨mA, O, _⟩ := ins_get I.hok ha
  obtain ⟨od, J, _⟩ := O.look
  obtain ⟨m, hF⟩ := I.fr
  refine PySem.W.in_K hF I.ok.mod.kin J S.at_ S.fn (wpAny_mono (run_sub (us := [.ref a, v]) (vs := [.ref a, x]) ⟨hr, rfl⟩ F b hx I (.cons rfl (.cons rx .nil)) h) (fun u s' z => ?_) fun _ _ z => z)
  obtain ⟨w, H', I', rv, k, rfl, q⟩ := z
  cases rv
  exact wpAny_truthy_bool ⟨.bl k, H', I', rfl, q⟩

/-- a op b, both of the class at C, by its own method -/
def rBinO (C : Addr) (sp : Sp) (E : XK) : R2 := fun x y H Q => ∃ a dx fs c dy gs, x = .ref a ∧ y = .ref c ∧ H a = some (.ins C dx fs) ∧ H c = some (.ins C dy gs) ∧
  sp [.ref a, .ref c] H Q E
theorem rel_set {v : V} {u : Value} (r : RelV v u) : u ≠ .notImplemented := by
  intro e
  subst e
  cases v <;> first | (obtain ⟨t, q⟩ := r; exact nomatch q) | exact nomatch r
theorem back_of {M : Value → Shared → Prop} {u : Value} {s : Shared} (h : u ≠ .notImplemented) (q : M u s) : PySem.W.CmpBack M u s := by
  cases u <;> first | exact absurd rfl h | exact q
theorem or_binO {op : Operator} (S : Sm X.K C (PySem.dunder op.info.2) f) (sf : PySem.W.selfFirst X.K C = true) (F : FnOk X.prog X.w X.K X.mg X.base cx n f fd ps sp) (hr : Room n X.A) (b : Binds X.K fd ps []) (hx : Passes cx X E) : OpR X (binaryOp op) (rBinO C sp E) := by
  intro pins s σ H x y v u Q I rx ry h
  obtain ⟨a, dx, fs, c, dy, gs, rfl, rfl, ha, hc, h⟩ := h
  cases rx
  cases ry
  obtain ⟨mA, O, _⟩ := ins_get I.hok ha
  obtain ⟨od, J, _⟩ := O.look
  obtain ⟨mB, O', _⟩ := ins_get I.hok hc
  obtain ⟨od', J', _⟩ := O'.look
  obtain ⟨m, hF⟩ := I.fr
  refine PySem.W.binop_K hF I.ok.mod.kin J J'.type sf S.at_ S.fn (wpAny_mono (run_sub (us := [.ref a, .ref c]) (vs := [.ref a, .ref c]) ⟨hr, rfl⟩ F b hx I (.cons rfl (.cons rfl .nil)) h) (fun u s' z => ?_) fun _ _ z => z)
  obtain ⟨w, H', I', rv, q⟩ := z
  exact back_of (rel_set rv) ⟨w, H', I', rv, q⟩
theorem or_eqO (S : Sm X.K C "__eq__" f) (F : FnOk X.prog X.w X.K X.mg X.base cx n f fd ps sp) (hr : Room n X.A) (b : Binds X.K fd ps []) (hx : Passes cx X E) : OpR X (compareOp .Eq) (rBinO C sp E) := by
  intro pins s σ H x y v u Q I rx ry h
  obtain ⟨a, dx, fs, c, dy, gs, rfl, rfl, ha, hc, h⟩ := h
  cases rx
  cases ry
  obtain ⟨mA, O, _⟩ := ins_get I.hok ha
  obtain ⟨od, J, _⟩ := O.look
  obtain ⟨mB, O', _⟩ := ins_get I.hok hc
  obtain ⟨od', J', _⟩ := O'.look
  obtain ⟨m, hF⟩ := I.fr
  show wpAny (model X.prog X.w) X.A (richCompare .Eq (.ref a) (.ref c)) (EP X pins σ Q) X.xe s
  refine PySem.W.cmp_K (op := .Eq) (tb := .ref C) hr.units0 hF I.ok.mod.kin J J'.type (by simp [PySem.W.notFirst]) S.at_ S.fn (wpAny_mono (run_sub (us := [.ref a, .ref c]) (vs := [.ref a, .ref c]) ⟨hr, rfl⟩ F b hx I (.cons rfl (.cons rfl .nil)) h) (fun u s' z => ?_) fun _ _ z => z)
  obtain ⟨w, H', I', rv, q⟩ := z
  exact back_of (rel_set rv) ⟨w, H', I', rv, q⟩
end
/-- .. from which no exception comes -/
theorem run_sub0 {X : Cx} {n : Nat} {f : Addr} {fd : FuncData} {ps : List Str} {sp : Sp} {A1 : Around} {pins : List (Addr × Obj)} {σ : St} {H : Hp} {s : Shared} {Q : VK} {us : List Value} {vs : List V} {Ex : Value → Shared → Prop} (sb : Sub X n A1)
    (F : FnOk X.prog X.w X.K X.mg X.base CX0 n f fd ps sp) (b : Binds X.K fd ps []) (I : Inv X pins σ H s) (r : Vals vs us) (h : sp vs H Q E0) : wpAny (model X.prog X.w) A1 (call (.ref f) us) (EP X pins σ Q) Ex s := by
  have g := I.env0
  have g1 : Env0 X.prog X.w X.K X.mg X.base A1 X.stack s H := ⟨sb.fr.trans g.frames, g.mod, g.bs, g.bsz, g.funs, g.frf, g.hok, g.bare⟩
  have hb : BindsTo s fd ⟨us, []⟩ (ps.zip us) := by
    have z := b s us I.kIn (by rw [List.append_nil, ← r.length]; exact F.len _ _ _ _ h)
    rwa [List.append_nil] at z
  refine wpAny_call (codeAny_mono (F.run A1 X.stack s H ⟨us, []⟩ us vs Q E0 sb.room g1 hb r h) fun out s' z => ?_)
  match out, z with
  | .error e, z => exact z.elim
  | .ok (.ret u), z => exact I.after z
theorem lenO_at0 {X : Cx} {n : Nat} {f C : Addr} {fd : FuncData} {ps : List Str} {sp : Sp} {A1 : Around} {pins : List (Addr × Obj)} {σ : St} {H : Hp} {s : Shared} {Q : VK} {a dx : Addr} {fs : List (Str × V)} {Ex : Value → Shared → Prop} (sb : Sub X n A1.in1)
    (S : Sm X.K C "__len__" f) (F : FnOk X.prog X.w X.K X.mg X.base CX0 n f fd ps sp) (b : Binds X.K fd ps [])
    (I : Inv X pins σ H s) (ha : H a = some (.ins C dx fs)) (h : sp [.ref a] H (fun v H' => ∃ k : Int, v = .int k ∧ 0 ≤ k ∧ k < 2 ^ 63 ∧ Q (.int k) H') E0) :
    wpAny (model X.prog X.w) A1 (call (.builtin "len") [.ref a]) (EP X pins σ Q) Ex s := by
  obtain ⟨mA, O, _⟩ := ins_get I.hok ha
  obtain ⟨od, J, _⟩ := O.look
  obtain ⟨m, hF⟩ := I.fr
  refine PySem.W.len_K hF I.ok.mod.kin J S.at_ S.fn (wpAny_mono (run_sub0 (us := [.ref a]) (vs := [.ref a]) sb F b I (.cons rfl .nil) h) (fun u s' z => ?_) fun _ _ z => z)
  obtain ⟨v, H', I', rv, k, rfl, h0, h1, q⟩ := z
  obtain ⟨t, rfl⟩ := rv
  exact ⟨⟨h0, h1⟩, .int k, H', I'.tok _, ⟨_, rfl⟩, q⟩
end L2.OwR

set_option Elab.async false
set_option linter.all false
set_option maxRecDepth 100000
set_option maxHeartbeats 4000000
/-! iter of a tuple; list of an instance that walks a tuple. -/
namespace L2.OwR
open PySem PySem.Spec PyProof.Rows

/-- at it a walk over the tuple at t, not begun -/
def TiO (t it : Addr) : HO := .ext fun h => h.IsTupleIter it t 0
/-- at it something that was such a walk -/
def AnyO (it : Addr) : HO := .ext fun h => ∃ o, h.get? it = some o
theorem tiO_ok {P : Program} {w : World} {H : Hp} {h : Heap} {t it : Addr} (e : h.IsTupleIter it t 0) : ObjOk P w H h it (TiO t it) := by
  obtain ⟨o, ho, r⟩ := e
  exact ⟨⟨o, ho, r⟩, ⟨o, ho⟩, fun h1 h2 ⟨o', h1', r'⟩ k => ⟨o', k _ h1', r'⟩⟩
theorem anyO_ok {P : Program} {w : World} {H : Hp} {h : Heap} {it : Addr} {o : Obj} (e : h.get? it = some o) : ObjOk P w H h it (AnyO it) :=
  ⟨⟨o, e⟩, ⟨o, e⟩, fun h1 h2 ⟨o', h1'⟩ k => ⟨o', k _ h1'⟩⟩

section
variable {X : Cx}
/-- iter(t), t a tuple -/
def rIterT (K : PySem.W.Frag) : List V → Hp → VK → Prop := fun xs H Q => ∃ (t : Addr) (zs : List V), xs = [.ref t] ∧ SqT K H t zs ∧ ∀ it, H it = none → Q (.ref it) (upd H it (TiO t it))
theorem call_iterT : CallR X (.builtin "iter") (rIterT X.K) := by
  intro pins s σ H xs us Q I r h
  obtain ⟨t, zs, rfl, hq, q⟩ := h
  obtain rfl := Vals.ref1 r
  obtain ⟨its, rv, pt, hz⟩ := I.tuple hq
  have pl : s.heap.IsTuple t its.toArray := pt
  refine Calls.call_function_entry (by decide +kernel) (by decide +kernel) PySem.W.kdk_entry_iter (PySem.W.kdk_args_iter _) ?_
  unfold Builtin.«iter»
  refine wpAny_bind (m := someArgs "iter" 1 2 _) (wpAny_of_eq (a := [Value.ref t]) (by first | rfl | kernel_rfl!) ?_)
  show wpAny _ _ (pyIter (.ref t) >>= _) _ _ _
  refine wpAny_bind (wpAny_pyIter_tuple pl (wpAny_pure ⟨_, rfl, ?_⟩))
  exact ⟨.ref s.heap.objs.size, _, I.laid (t' := s.toks) (fun b u e => Heap.get?_push_of_some _ e) (Nat.le_refl _) (tiO_ok ⟨_, Heap.get?_push_size _ rfl, rfl, rfl⟩), rfl, q _ I.fresh⟩
end

section
variable {X : Cx} {pins : List (Addr × Obj)} {σ : St} {H : Hp} {s : Shared}
/-- a list and a walk have changed, nothing else -/
theorem walked_inv {it q t : Addr} {ys : List V} {its : List Value} {n : Nat} {h' : Heap} {tk : Nat} {oi : Obj} (I : Inv X pins σ H s) (hi : H it = some (TiO t it)) (hq : H q = some (.lst [])) (kp : ∀ b o, b ≠ it → b ≠ q → s.heap.get? b = some o → h'.get? b = some o)
    (hq' : h'.get? q = some { cls := .type "list", data := .seq its.toArray n }) (hi' : h'.get? it = some oi) (rv : Vals ys its) (hz : ys.length ≤ sizeLine) : Inv X pins σ (upd (upd H it (AnyO it)) q (.lst ys)) { s with heap := h', toks := tk } := by
  have niq : it ≠ q := ne_of hi hq fun z => nomatch z
  have fr : ∀ b, H b = none → b ≠ it ∧ b ≠ q := fun b n => ⟨fun z => by (rw [z, hi] at n; cases n), fun z => by (rw [z, hq] at n; cases n)⟩
  have oth : ∀ b u, b ≠ it → b ≠ q → H b = some u → (upd (upd H it (AnyO it)) q (.lst ys)) b = some u := fun b u h1 h2 e => by rw [upd_ne h2, upd_ne h1]; exact e
  have sep : ∀ b u, H b = some u → (∀ φ, u ≠ .ext φ) → (∀ zs, u ≠ .lst zs) → b ≠ it ∧ b ≠ q := fun b u e h1 h2 => ⟨fun z => by (rw [z, hi] at e; exact h1 _ (Option.some.inj e).symm), fun z => by (rw [z, hq] at e; exact h2 _ (Option.some.inj e).symm)⟩
  refine I.un ⟨fun b o e n _ _ => kp b o (fr b n).1 (fr b n).2 e, fun b o e n _ _ => ⟨o.slots, kp b o (fr b n).1 (fr b n).2 e⟩, fun b o _ n _ => ?_, fun b o e _ => ?_, fun b xs e => ?_, fun b o u e => ?_, fun b ps e => ⟨#[], ?_⟩⟩ fun b u e => ?_
  · rw [upd_ne (fr b n).2, upd_ne (fr b n).1]
    exact n
  · by_cases h1 : b = it
    · exact ⟨oi, by rw [h1]; exact hi'⟩
    · by_cases h2 : b = q
      · exact ⟨_, by rw [h2]; exact hq'⟩
      · exact ⟨o, kp b o h1 h2 e⟩
  · have z := sep b _ e (fun _ w => nomatch w) (fun _ w => nomatch w)
    exact oth b _ z.1 z.2 e
  · have z := sep b _ e (fun _ w => nomatch w) (fun _ w => nomatch w)
    exact oth b _ z.1 z.2 e
  · have z := sep b _ e (fun _ w => nomatch w) (fun _ w => nomatch w)
    rw [oth b _ z.1 z.2 e]
    simp
  · by_cases h2 : b = q
    · subst h2
      rw [upd_same] at e
      cases e
      exact ⟨hz, its, n, rv, hq'⟩
    · rw [upd_ne h2] at e
      by_cases h1 : b = it
      · subst h1
        rw [upd_same] at e
        cases e
        exact anyO_ok hi'
      · rw [upd_ne h1] at e
        refine (I.hok b u e).stay (fun c o hc z => ?_) (fun c z => ?_) fun c xs z => ?_
        · have z1 : c ≠ it ∧ c ≠ q := by
            rcases hc with hc | hc
            · rw [hc]; exact ⟨h1, h2⟩
            · exact sep c _ hc (fun _ w => nomatch w) (fun _ w => nomatch w)
          exact kp c o z1.1 z1.2 z
        · have w := sep c _ z (fun _ w => nomatch w) (fun _ w => nomatch w)
          exact oth c _ w.1 w.2 z
        · have w := sep c _ z (fun _ w => nomatch w) (fun _ w => nomatch w)
          exact oth c _ w.1 w.2 z
end

section
variable {prog : Program} {w : World} {A : Around} {E : Value → Shared → Prop} {s : Shared}
/-- a walk over a tuple that is at its end: nothing but its own record changes, and that one stays -/
theorem next_over {it t : Addr} {i : Nat} {zs : Array Value} {Q : Option Value → Shared → Prop} (calm : A.handled = none) (hi : s.heap.IsTupleIter it t i) (ht : s.heap.IsTuple t zs) (hx : zs[i]? = none)
    (hQ : ∀ h' o, (∀ b u, b ≠ it → s.heap.get? b = some u → h'.get? b = some u) → h'.get? it = some o → Q none { s with heap := h' }) : wpAny (model prog w) A (pyNext (.ref it)) Q E s := by
  have ⟨oi, e1, c1, d1⟩ := hi
  have ⟨ot, e2, _, nt, d2⟩ := ht
  have inner : wpAny (model prog w) A.in1 (Builtin.«tuple_iterator.__next__» ⟨[.ref it], []⟩) (fun fin s' => ∃ v, fin = .done (.ret v) ∧ False)
      (fun e s' => ∃ h' o, s' = { s with heap := h' } ∧ s'.TypeIs e "StopIteration" ∧ (∀ b u, b ≠ it → s.heap.get? b = some u → h'.get? b = some u) ∧ h'.get? it = some o) s := by
    show wpAny _ _ (field (.ref it) 0 >>= _) _ _ s
    refine wpAny_bind (wpAny_field e1 d1 (x := .ref t) rfl ?_)
    show wpAny _ _ (if (Value.ref t == Value.none) = true then _ else _) _ _ s
    rw [if_neg (show ¬ ((Value.ref t == Value.none) = true) from Bool.false_ne_true)]
    show wpAny _ _ (field (.ref it) 1 >>= _) _ _ s
    refine wpAny_bind (wpAny_field e1 d1 (x := .int i 0) rfl ?_)
    show wpAny _ _ (seqItems? (.ref t) >>= _) _ _ s
    refine wpAny_bind (wpAny_seqItems e2 d2 ?_)
    simp only [Int.toNat_natCast, hx]
    refine wpAny_bind (wpAny_rule (wpAny_bind (wpAny_setField e1 d1 (by simp) ?_)))
    show wpAny _ _ (newExc (.type "StopIteration") [] >>= _) _ _ _
    refine wpAny_bind ?_
    simp only [newExc, newTuple]
    refine wpAny_bind (wpAny_newObj_type ?_ (by size_fits))
    refine wpAny_bind (m := firstArgMember _ _) (wpAny_of_eq (a := Value.none) (by first | rfl | (simp only [firstArgMember]; rfl)) ?_)
    refine wpAny_newObj_type ?_ (by size_fits)
    simp only [raiseNew]
    refine wpAny_bind (wpAny_handled ?_)
    first | rw [show A.in1.handled = none from calm] | rw [calm]
    refine wpAny_bind (wpAny_pure (wpAny_throw ?_))
    refine ⟨_, _, rfl, ⟨_, Heap.get?_push_size _ rfl, rfl⟩, fun b u hb e => ?_, Heap.get?_push_of_some _ (Heap.get?_push_of_some _ (Heap.get?_update_self _ e1 (Obj.isFreed_of_fields (Obj.data_mapFields d1 _))))⟩
    exact ((Heap.SameBut.update ..).extBut.push _).push _ b u hb e
  unfold pyNext
  refine wpAny_bind (wpAny_attempt (wpAny_callSpecial?_slot (name := Str.ofString "__next__") hi.typeIs F.slot_tuple_iterator_next
    (wpAny_call_entry F.slot_tuple_iterator_next hi.typeIs F.entry_tuple_iterator_next (wpAny_mono inner (fun fin s' z => ?_) fun e s' z => ?_) (F.args_tuple_iterator_next_1 _))))
  · obtain ⟨v, _, z⟩ := z
    exact z.elim
  · obtain ⟨h', o, rfl, ty, k, ho⟩ := z
    refine wpAny_bind (wpAny_isInstance (T := "StopIteration") (b := true) ty isSubtype_stop ?_)
    exact wpAny_pure (hQ h' o k ho)

/-- a list that holds the first i items of the tuple takes the rest -/
theorem take_rest {it t q : Addr} {zs : Array Value} {R : Result → Shared → Prop} (calm : A.handled = none) (n1 : it ≠ q) (n2 : it ≠ t) (n3 : q ≠ t) (hz : zs.size ≤ sizeLine) : ∀ (k i : Nat) (s : Shared) (c : Nat), zs.size - i = k → i ≤ zs.size →
      s.heap.IsTupleIter it t i → s.heap.IsTuple t zs → s.heap.get? q = some { cls := .type "list", data := .seq (zs.toList.take i).toArray c } →
      (∀ h' o c', (∀ b u, b ≠ it → b ≠ q → s.heap.get? b = some u → h'.get? b = some u) → h'.get? it = some o → h'.get? q = some { cls := .type "list", data := .seq zs c' } → R (.ok (.ret .none)) { s with heap := h' }) →
      codeAny (model prog w) A (.builtin "list.extend.loop" ⟨[.ref q, .ref it, .none], []⟩) R s := by
  intro k
  induction k with
  | zero =>
    intro i s c hk hi h1 h2 h3 hR
    have ei : i = zs.size := by omega
    subst ei
    refine codeAny_builtin PySem.F.entry_extend_loop ?_
    rw [Around.under_plainId PySem.F.plain_extend_loop _]
    show wpAny _ A.in1 (pyNext (.ref it) >>= _) _ _ s
    refine wpAny_bind (next_over (A := A.in1) calm h1 h2 (by simp) fun h' o kp ho => wpAny_pure (hR h' o c (fun b u b1 _ e => kp b u b1 e) ho ?_))
    have e := kp q _ n1.symm h3
    rw [List.take_of_length_le (by simp)] at e
    simpa using e
  | succ k ih =>
    intro i s c hk hi h1 h2 h3 hR
    have lt : i < zs.size := by omega
    refine codeAny_builtin PySem.F.entry_extend_loop ?_
    rw [Around.under_plainId PySem.F.plain_extend_loop _]
    show wpAny _ A.in1 (pyNext (.ref it) >>= _) _ _ s
    refine wpAny_bind (wpAny_pyNext_tuple_item h1 h2 (x := zs[i]) (by simp [lt]) fun h' h1' sb => ?_)
    have h3' : h'.get? q = _ := (sb.2 q n1.symm).trans h3
    show wpAny _ A.in1 (updateSeq q (·.push zs[i]) >>= _) _ _ _
    have hsz : (zs.toList.take i).toArray.size = i := by simp; omega
    refine wpAny_bind (wpAny_updateSeq (s := { s with heap := h' }) h3' rfl (wpAny_pure ⟨plainId_quiet PySem.F.plain_extend_loop _, ?_⟩) (by rw [hsz]; omega) (by show ((zs.toList.take i).toArray.push zs[i]).size ≤ sizeLine + 1; rw [Array.size_push, hsz]; omega))
    have hu := PySem.IsL.update h3' (·.push zs[i])
    have e1 : (zs.toList.take i).toArray.push zs[i] = (zs.toList.take (i + 1)).toArray := by
      rw [List.take_add_one]
      simp [lt]
    rw [e1] at hu
    have keep : ∀ b u, b ≠ q → h'.get? b = some u → (h'.update q (Obj.mapSeq (·.push zs[i]))).get? b = some u := fun b u hb e => (Heap.get?_update_other h' _ (Ne.symm hb)).trans e
    obtain ⟨o1, ho1, r1⟩ := h1'
    obtain ⟨o2, ho2, r2⟩ := h2
    have ho2' : h'.get? t = some o2 := (sb.2 t n2.symm).trans ho2
    refine ih (i + 1) _ _ (by omega) lt ⟨o1, keep _ _ n1 ho1, r1⟩ ⟨o2, keep _ _ n3.symm ho2', r2⟩ hu fun h'' o c' kp ho hq => ?_
    exact hR h'' o c' (fun b u b1 b2 e => kp b u b1 b2 (keep b u b2 ((sb.2 b b1).trans e))) ho hq
end

/-- list(o): o's __iter__ walks the tuple at t, its __len__ tells that one's length -/
def rListO (K : PySem.W.Frag) (C : Addr) (spI spL : Sp) (EI : XK) : List V → Hp → VK → Prop := fun xs H Q => ∃ a dx fs t ys, xs = [.ref a] ∧ H a = some (.ins C dx fs) ∧ SqT K H t ys ∧
  (∀ H1 Q1, Same H H1 → (∀ it, H1 it = none → Q1 (.ref it) (upd H1 it (TiO t it))) → spI [.ref a] H1 Q1 EI) ∧
  (∀ (H1 : Hp) (Q1 : VK), Same H H1 → Q1 (.int ys.length) H1 → spL [.ref a] H1 Q1 E0) ∧
  ∀ q it, H q = none → H it = none → it ≠ q → Q (.ref q) (upd (upd H it (AnyO it)) q (.lst ys))
section
variable {X : Cx} {cI : CXT} {n : Nat} {fI fL C : Addr} {dI dL : FuncData} {pI pL : List Str} {spI spL : Sp} {EI : XK}
theorem call_listO (SI : Sm X.K C "__iter__" fI) (FI : FnOk X.prog X.w X.K X.mg X.base cI n fI dI pI spI) (bI : Binds X.K dI pI []) (xI : Passes cI X EI)
    (SL : Sm X.K C "__len__" fL) (FL : FnOk X.prog X.w X.K X.mg X.base CX0 n fL dL pL spL) (bL : Binds X.K dL pL []) (hr : Room (n + 3) X.A) (hc : X.calm = true) : CallR X (.type "list") (rListO X.K C spI spL EI) := by
  intro pins s σ H xs us Q I r h
  obtain ⟨a, dx, fs, t, ys, rfl, ha, ht, hI, hL, hQ⟩ := h
  obtain rfl := Vals.ref1 r
  have s3 : Sub X (n + 3) X.A := ⟨hr, rfl⟩
  have s1 : Sub X (n + 1) X.A.in1.in1 := s3.in1.in1
  have s0 : Sub X n X.A.in1.in1 := s1.mono (Nat.le_succ n)
  have s00 : Sub X n X.A.in1.in1.in1 := s1.in1
  refine callType_codes (Q₁ := fun obj s₁ => obj = .ref s.heap.objs.size ∧ s₁ = { s with heap := s.heap.push { cls := .type "list", data := .seq #[] } }) PySem.F.called_list (PySem.F.typeCall_list_1 _) PySem.F.entry_list_init
    (code_list_new _ ⟨rfl, rfl⟩) fun obj s₁ h₁ => ?_
  obtain ⟨rfl, rfl⟩ := h₁
  have hS : (s.heap.push { cls := .type "list", data := .seq #[] }).get? s.heap.objs.size = some { cls := .type "list", data := .seq #[] } := Heap.get?_push_size _ rfl
  refine ⟨⟨_, hS, rfl⟩, PySem.F.args_list_init_2 _ _, ?_⟩
  have fr : H s.heap.objs.size = none := I.fresh
  generalize hq0 : s.heap.objs.size = q at *
  have I1 : Inv X pins σ (upd H q (.lst [])) { s with heap := s.heap.push { cls := .type "list", data := .seq #[] } } := by
    have z := I.lnew (ys := []) (its := []) (t' := s.toks) .nil (Nat.zero_le _)
    rw [hq0] at z
    exact z
  show wpAny _ _ (do let old ← Builtin.List.listItems (.ref q); Builtin.List.listUpdate (.ref q) (fun _ => #[]); letGo old.toList.reverse; Builtin.List.listExtendWith (.ref q) (.ref a) .none) _ _ _
  refine wpAny_bind ?_
  unfold Builtin.List.listItems
  refine wpAny_bind (wpAny_seqItems hS rfl (wpAny_pure ?_))
  show wpAny _ _ (updateSeq q (fun _ => #[]) >>= fun _ => letGo (#[] : Array Value).toList.reverse >>= fun _ => Builtin.List.listExtendWith (.ref q) (.ref a) .none) _ _ _
  refine wpAny_bind (wpAny_updateSeq hS rfl ?_)
  have I2 := I1.lset (f := fun _ => #[]) (its := []) (its' := []) (ys := []) (t' := s.toks) upd_same hS rfl .nil (Nat.zero_le _)
  rw [upd_upd] at I2
  refine wpAny_bind (wpAny_letGo ?_)
  have e2 : Same H (upd H q (.lst [])) := fun b o e => by rw [upd_ne (ne_of_none e fr)]; exact e
  have ha2 := e2 a _ ha
  have hqa : q ≠ a := fun z => by rw [z, ha] at fr; exact nomatch fr
  obtain ⟨mA, O, _⟩ := ins_get I2.hok ha2
  obtain ⟨od, J, _⟩ := O.look
  obtain ⟨m0, hF⟩ := I2.fr
  unfold Builtin.List.listExtendWith
  refine wpAny_bind (J.type.here ?_)
  have n1 : Builtin.List.listSameRef (.ref q) (.ref a) = false := by simp [Builtin.List.listSameRef, hqa]
  have n2 : (Value.ref C == Value.type "list") = false := rfl
  have n3 : (Value.ref C == Value.type "tuple") = false := rfl
  simp only [n1, n2, n3, Bool.or_false, Bool.false_eq_true, if_false]
  refine wpAny_bind (PySem.W.owit_iter hF I2.ok.mod.kin J SI.at_ SI.fn (thn (run_sub (us := [.ref a]) (vs := [.ref a]) s0 FI bI xI I2 (.cons rfl .nil) (hI _ (fun v H1 => ∃ it, v = .ref it ∧ (upd H q (.lst [])) it = none ∧ H1 = upd (upd H q (.lst [])) it (TiO t it)) e2 fun it hit => ⟨it, rfl, hit, rfl⟩)) fun u s4 z => ?_))
  obtain ⟨v, H4, I4, rv, it, rfl, hit, rfl⟩ := z
  cases rv
  have hT := (I4.hok it _ upd_same).1
  obtain ⟨oi, hoi, hci, hdi⟩ := id hT
  refine wpAny_specialOf (T := "tuple_iterator") ⟨oi, hoi, hci⟩ PySem.F.slot_tuple_iterator_next.lookup ?_
  have e4 : Same H (upd (upd H q (.lst [])) it (TiO t it)) := fun b o e => by rw [upd_ne (ne_of_none (e2 b o e) hit)]; exact e2 b o e
  have ha4 := e4 a _ ha
  refine wpAny_bind (wpAny_holding ?_)
  obtain ⟨mA4, O4, _⟩ := ins_get I4.hok ha4
  obtain ⟨od4, J4, _⟩ := O4.look
  have hit0 : H it = none := e2.free hit
  have niq : it ≠ q := fun z => by rw [z, upd_same] at hit; exact nomatch hit
  have hz : ys.length ≤ sizeLine := (I.tuple ht).choose_spec.2.2
  have key : ∀ (s5 : Shared) , Inv X pins σ (upd (upd H q (.lst [])) it (TiO t it)) s5 → codeAny (model X.prog X.w) X.A.in1 (.builtin "list.extend.loop" ⟨[.ref q, .ref it, .none], []⟩)
      (wants (fun r s₂ => r = .none ∧ EP X pins σ Q (.ref q) s₂) X.xe) s5 := by
    intro s5 I5
    obtain ⟨its, rvs, pt, _⟩ := I5.tuple (SqT.ext ht e4)
    have hqt : (upd (upd H q (.lst [])) it (TiO t it)) q = some (.lst []) := by rw [upd_ne niq.symm, upd_same]
    obtain ⟨_, its0, k0, rv0, _, hq5⟩ := I5.lstM hqt
    cases rv0
    have hti : it ≠ t := fun z => by
      subst z
      obtain ⟨o1, ho1, hc1, _⟩ := pt
      obtain ⟨o2, ho2, hc2, _⟩ := (I5.hok it _ upd_same).1
      rw [ho1] at ho2
      cases ho2
      rw [hc1] at hc2
      exact absurd hc2 (by decide)
    have hqt' : q ≠ t := fun z => by
      subst z
      obtain ⟨o1, ho1, hc1, _⟩ := pt
      rw [hq5] at ho1
      cases ho1
      injection (show (Value.type "list" : Value) = Value.type "tuple" from hc1) with h0
      exact absurd h0 (by decide)
    have hlen := rvs.length
    have hIt5 := (I5.hok it _ upd_same).1
    refine take_rest (A := X.A.in1) (I.ok.hd hc) niq hti hqt' (by rw [List.size_toArray, ← hlen]; exact hz) _ 0 s5 k0 rfl (Nat.zero_le _) hIt5 pt hq5 fun h6 oi6 c6 kp hi6 hq6 => ?_
    have I6 := walked_inv (ys := ys) (its := its) (n := c6) (tk := s5.toks) I5 upd_same hqt kp hq6 hi6 rvs hz
    have eH : upd (upd (upd (upd H q (.lst [])) it (TiO t it)) it (AnyO it)) q (.lst ys) = upd (upd H it (AnyO it)) q (.lst ys) := by
      rw [upd_upd]
      funext b
      by_cases h1 : b = q
      · rw [h1, upd_same, upd_same]
      · by_cases h2 : b = it
        · rw [h2, upd_ne niq, upd_ne niq, upd_same, upd_same]
        · rw [upd_ne h1, upd_ne h1, upd_ne h2, upd_ne h2, upd_ne h1]
    rw [eH] at I6
    exact ⟨rfl, .ref q, _, I6, rfl, hQ q it fr hit0 niq⟩
  unfold Builtin.List.listLengthHint
  refine wpAny_bind (wpAny_bind (J4.type.here ((PySem.W.looks_findIn I4.kIn SL.at_).here ?_)))
  refine wpAny_bind (wpAny_rule ?_)
  refine wpAny_bind (wpAny_attempt ?_)
  refine wpAny_mono (lenO_at0 (A1 := X.A.in1.in1) (Q := fun v H2 => v = .int ys.length ∧ H2 = upd (upd H q (.lst [])) it (TiO t it)) (Ex := fun _ _ => False) s00 SL FL bL I4 ha4
    (hL _ _ e4 ⟨_, rfl, by omega, by have := sizeLine_eq; omega, rfl, rfl⟩)) (fun u s5 z => ?_) fun _ _ z => z.elim
  obtain ⟨v, H5, I5, rv, rfl, rfl⟩ := z
  obtain ⟨tk, rfl⟩ := rv
  refine wpAny_bind (wpAny_of_eq (a := some (ys.length : Int)) rfl ?_)
  dsimp only
  rw [if_neg (by rw [notLongL (by simpa using hz)]; exact Bool.false_ne_true)]
  refine wpAny_pure ?_
  refine wpAny_ite_split (fun _ => ?_) (fun _ => wpAny_pure ⟨plainId_quiet PySem.F.plain_extend_loop _, key s5 I5⟩)
  have hqt : (upd (upd H q (.lst [])) it (TiO t it)) q = some (.lst []) := by rw [upd_ne niq.symm, upd_same]
  obtain ⟨_, its0, k0, rv0, _, hq5⟩ := I5.lstM hqt
  cases rv0
  refine wpAny_bind (wpAny_rule (wpAny_bind ?_))
  show wpAny _ _ (updateSeq q (·.push .none) >>= fun _ => updateSeq q (·.pop)) _ _ _
  refine wpAny_bind (wpAny_updateSeq hq5 rfl ?_)
  have J1 := I5.lset (f := (·.push Value.none)) (its' := [Value.none]) (ys := [.non]) (t' := s5.toks) hqt hq5 (by simp) (.cons rfl .nil) (by rw [List.length_singleton, sizeLine_eq]; decide)
  obtain ⟨_, its1, k1, rv1, _, hq6⟩ := J1.lstM upd_same
  obtain ⟨u1, rfl, _⟩ := rv1.one
  refine wpAny_updateSeq hq6 rfl (wpAny_pure ⟨plainId_quiet PySem.F.plain_extend_loop _, key _ ?_⟩) (by show 1 ≤ sizeLine; rw [sizeLine_eq]; decide) (by show 0 ≤ sizeLine + 1; exact Nat.zero_le _)
  have J2 := J1.lset (f := (·.pop)) (its := [u1]) (its' := []) (ys := []) (t' := s5.toks) upd_same hq6 (by rfl) .nil (Nat.zero_le _)
  have eH : upd (upd (upd (upd H q (.lst [])) it (TiO t it)) q (.lst [.non])) q (.lst []) = upd (upd H q (.lst [])) it (TiO t it) := by
    rw [upd_upd]
    funext b
    by_cases h1 : b = q
    · rw [h1, upd_same, hqt]
    · rw [upd_ne h1]
  rw [eH] at J2
  exact J2
end
end L2.OwR

set_option Elab.async false
set_option linter.all false
set_option maxRecDepth 100000
set_option maxHeartbeats 8000000
/-! set(xs) of a list or a tuple of ints, as a tracked set. -/
namespace L2.OwR
open PySem PySem.Spec PyProof.Rows

section
variable {P : Program} {w : World} {A : Around} {E : Value → Shared → Prop} {s : Shared}
/-- an empty set as it is made -/
abbrev setObj (w : World) : Obj := { cls := .type "set", dict := none, data := .set #[] 0 (.fresh 0 0 (!w.params.followText "set-order")) }
/-- what set.__init__ does with a list of ints -/
theorem init_set_list {S l : Addr} {zs : Array Value} {ns : List Int} {Q : Value → Shared → Prop} (calm : A.handled = none) (hS : s.heap.get? S = some (setObj w)) (hl : s.heap.IsList l zs) (hi : IntsAre zs.toList ns) (hb : ns.length + 1 < scanBound)
    (hQ : ∀ (h' : Heap) (tk c : Nat), SetR w h' S (fun j => decide (j ∈ ns)) c → c ≤ ns.length → (∀ b o, b ≠ S → s.heap.get? b = some o → h'.get? b = some o) → Q .none { s with heap := h', toks := tk }) :
    wpAny (model P w) A.in1 (Builtin.«set.__init__» ⟨[.ref S, .ref l], []⟩) (GQ.FinOf P w A (wants Q E)) (fun e s' => wants Q E (.error e) s') s := by
  have hT : s.TypeIs (.ref S) "set" := ⟨_, hS, rfl⟩
  have hlen := IntsAre.length hi
  rw [Array.length_toList] at hlen
  obtain ⟨⟨oc, od, odat, osl⟩, hol, hcl, nl, hdl⟩ := id hl
  simp only at hcl hdl
  subst hcl hdl
  have q1 := F.sub_list_set
  have q2 := F.sub_list_frozenset
  have q3 : (Value.type "list" == Value.type "dict") = false := by decide
  unfold Builtin.«set.__init__» noKeywords Builtin.Frozenset.updateFrom
  generalize hPI : pyIter = PI
  wp_walk
  subst hPI
  refine wpAny_pyIter_list hl ?_
  refine wpAny_bind (wpAny_runValue ?_)
  generalize hI : s.heap.objs.size = I
  have lS : S < I := by rw [← hI]; exact Heap.lt_size hS
  have ll : l < I := by rw [← hI]; exact Heap.lt_size hol
  have n1 : l ≠ I := Nat.ne_of_lt ll
  have n2 : S ≠ I := Nat.ne_of_lt lS
  have n3 : S ≠ l := fun z => by
    subst z
    rw [hS] at hol
    exact absurd hol (by simp)
  have up : ∀ (o : Obj) b u, s.heap.get? b = some u → (s.heap.push o).get? b = some u := fun o b u e => Heap.get?_push_of_some _ e
  have val : ∀ (i : Nat) (v : Value), zs[i]? = some v → ∃ k t, ns[i]? = some k ∧ v = .int k t := fun i v hv => by
    have lt : i < ns.length := by rw [← hlen]; exact (Array.getElem?_eq_some_iff.mp hv).1
    obtain ⟨t, e⟩ := IntsAre.int_at hi i v (by rw [Array.getElem?_toList]; exact hv)
    exact ⟨ns[i], t, List.getElem?_eq_getElem lt, by rw [e, List.getD_eq_getElem?_getD, List.getElem?_eq_getElem lt]; rfl⟩
  refine set_update_ints ((Walks.list (A := A.in1.in1) calm I l n1 zs).toS) S (by simp [n2, n3]) ns hlen hb val zs.size 0 _ rfl (Nat.zero_le _)
    ⟨⟨_, by rw [← hI]; exact Heap.get?_push_size _ rfl, rfl, rfl⟩, hl.push _⟩ ⟨0, Nat.le_refl 0, setR_new_at (up _ _ _ hS)⟩ fun s' c mv hc R => ?_
  rw [Moved.eq_with mv]
  refine wpAny_pure ?_
  show wpAny _ _ (ret Value.none) _ _ _
  refine wpAny_pure (hQ s'.heap s'.toks c R (by omega) fun b o hb e => mv.heap b o ?_ (up _ _ _ e))
  have lb : b < I := by rw [← hI]; exact Heap.lt_size e
  simp only [List.mem_cons, List.not_mem_nil, or_false, not_or]
  exact ⟨hb, Nat.ne_of_lt lb⟩

/-- set(a): a new empty set, then what its __init__ does with a -/
theorem call_set_by {a : Value} {Q : Value → Shared → Prop} (hin : wpAny (model P w) A.in1.in1 (Builtin.«set.__init__» ⟨[.ref s.heap.objs.size, a], []⟩)
      (GQ.FinOf P w A.in1 (wants (fun r s₂ => r = .none ∧ Q (.ref s.heap.objs.size) s₂) E)) (fun e s' => wants (fun r s₂ => r = .none ∧ Q (.ref s.heap.objs.size) s₂) E (.error e) s') { s with heap := s.heap.push (setObj w) }) :
    wpAny (model P w) A (call (.type "set") [a]) Q E s := by
  obtain ⟨c, tl, g0⟩ := F.called_set.mro
  have g1 := F.called_set.made
  have g2 := F.called_set.sub
  have g3 := F.called_set.notType
  have g4 := F.called_set.canCreate
  have g5 := F.typeCall_set_1 a
  have g6 := F.called_set.init.lookup
  have g7 := F.called_set.init.bind (.ref s.heap.objs.size)
  have hS : (s.heap.push (setObj w)).get? s.heap.objs.size = some (setObj w) := Heap.get?_push_size _ rfl
  have hT : Shared.TypeIs { s with heap := s.heap.push (setObj w) } (.ref s.heap.objs.size) "set" := ⟨_, hS, rfl⟩
  refine wpAny_call (codeAny_of_tree ?_)
  show wpAny _ _ (callAny (.type "set") _) _ _ _
  refine wpAny_pure ⟨Code.quiet_builtin _ (by decide +kernel), codeAny_builtin F.entry_type_call ?_⟩
  rw [Around.under_plain (weight_type_call_type "set" [a] []) rfl]
  repeat (any_goals (first | assumption | wp_step))
  refine codeAny_mono (code_set_led1 a (E := E) (Q₁ := fun obj s₁ => obj = .ref s.heap.objs.size ∧ s₁ = { s with heap := s.heap.push (setObj w) }) ⟨rfl, rfl⟩) fun out s₁ z => ?_
  match out, z with
  | .error e, z => exact z
  | .ok (.ret obj), z =>
    obtain ⟨rfl, rfl⟩ := z
    repeat (any_goals (first | assumption | wp_step))
    refine codeAny_mono (codeAny_call_builtin F.called_set.init.plain F.entry_set_init (check_set_init_1 hT hin)) fun out2 s₂ z => ?_
    match out2, z with
    | .error e, z => exact z
    | .ok (.ret r), z =>
      obtain ⟨rfl, q⟩ := z
      repeat (any_goals (first | assumption | wp_step))
theorem call_set_listI {l : Addr} {zs : Array Value} {ns : List Int} {Q : Value → Shared → Prop} (calm : A.handled = none) (hl : s.heap.IsList l zs) (hi : IntsAre zs.toList ns) (hb : ns.length + 1 < scanBound)
    (hQ : ∀ (h' : Heap) (tk c : Nat), SetR w h' s.heap.objs.size (fun j => decide (j ∈ ns)) c → c ≤ ns.length → (∀ b o, s.heap.get? b = some o → h'.get? b = some o) → Q (.ref s.heap.objs.size) { s with heap := h', toks := tk }) :
    wpAny (model P w) A (call (.type "set") [.ref l]) Q E s := by
  have hS : (s.heap.push (setObj w)).get? s.heap.objs.size = some (setObj w) := Heap.get?_push_size _ rfl
  refine call_set_by (init_set_list (A := A.in1) (s := { s with heap := s.heap.push (setObj w) }) calm hS (hl.push _) hi hb fun h' tk c R hc kp => ⟨rfl, hQ h' tk c R hc fun b o e => ?_⟩)
  exact kp b o (Nat.ne_of_lt (Heap.lt_size e)) (Heap.get?_push_of_some _ e)
end

/-- set(xs), xs a list or a tuple of ints -/
def rSetI (K : PySem.W.Frag) (w : World) : List V → Hp → VK → Prop := fun vs H Q => ∃ (p : Addr) (ns : List Int), vs = [.ref p] ∧ (SqL K H p (ns.map V.int) ∨ SqT K H p (ns.map V.int)) ∧ ns.length ≤ 1000 ∧
  ∀ (q : Addr) (c : Nat), H q = none → c ≤ ns.length → Q (.ref q) (upd H q (SetO w q (fun j => decide (j ∈ ns)) c))
section
variable {X : Cx}
theorem cr_setI (hc : X.calm = true) : CallR X (.type "set") (rSetI X.K X.w) := by
  intro pins s σ H vs us Q I r h
  obtain ⟨p, ns, rfl, hp, hl, q⟩ := h
  obtain rfl := Vals.ref1 r
  have fin : ∀ (h' : Heap) (tk c : Nat), SetR X.w h' s.heap.objs.size (fun j => decide (j ∈ ns)) c → c ≤ ns.length → (∀ b o, s.heap.get? b = some o → h'.get? b = some o) → EP X pins σ Q (.ref s.heap.objs.size) { s with heap := h', toks := tk } :=
    fun h' tk c R hc' k => ⟨.ref s.heap.objs.size, _, I.laid k (Nat.le_refl _) (setO_new R), rfl, q _ c I.fresh hc'⟩
  rcases hp with hp | hp
  · obtain ⟨its, rv, pl, _⟩ := I.list hp
    exact call_set_listI (I.ok.hd hc) pl.isList (by simpa using Vals.ints rv) (by unfold scanBound; omega) fin
  · obtain ⟨its, rv, pl, _⟩ := I.tuple hp
    exact call_set_tupI ns (I.ok.hd hc) pl (by simpa using Vals.ints rv) (by unfold scanBound; omega) fin
end
end L2.OwR

set_option Elab.async false
set_option linter.all false
set_option maxRecDepth 100000
set_option maxHeartbeats 8000000
/-! list(reversed(x)), x a list or a tuple. -/
namespace L2.OwR
open PySem PySem.Spec PyProof.Rows

section
variable {P : Program} {w : World} {A : Around} {E : Value → Shared → Prop} {s : Shared}
/-- list(it), it something that is walked -/
theorem list_walk {it : Addr} {T : String} {n : Nat} {fp wr : List Addr} {Pv : Nat → Value → Prop} {St : Nat → Heap → Prop} {Q : Value → Shared → Prop} (W : Walks P w A.in1.in1 it fp wr n Pv St) (hn : n ≤ sizeLine)
    (ty : ∀ s1 : Shared, St 0 s1.heap → s1.TypeIs (.ref it) T) (old : ∀ b ∈ fp, b < s.heap.objs.size) (hit : it ∈ fp) (n1 : (Value.type T == Value.type "list") = false) (n2 : (Value.type T == Value.type "tuple") = false)
    (hint : ∀ (s1 : Shared) (Q1 : Bool → Shared → Prop) (E1 : Value → Shared → Prop), St 0 s1.heap → (∀ b tk, Q1 b { s1 with toks := tk }) → wpAny (model P w) A.in1.in1 (Builtin.List.listLengthHint (.ref it)) Q1 E1 s1)
    (st : St 0 s.heap) (hQ : ∀ (h' : Heap) (tk c : Nat) (acc : Array Value), (∀ b o, b ∉ wr → s.heap.get? b = some o → h'.get? b = some o) → ItemsOf Pv acc n →
      h'.get? s.heap.objs.size = some { cls := .type "list", dict := none, data := .seq acc c, slots := #[] } → Q (.ref s.heap.objs.size) { s with heap := h', toks := tk }) :
    wpAny (model P w) A (call (.type "list") [.ref it]) Q E s := by
  have up : ∀ (o : Obj) b u, s.heap.get? b = some u → (s.heap.push o).get? b = some u := fun o b u e => Heap.get?_push_of_some _ e
  refine callType_codes (Q₁ := fun obj s₁ => obj = .ref s.heap.objs.size ∧ s₁ = { s with heap := s.heap.push { cls := .type "list", data := .seq #[] } }) PySem.F.called_list (PySem.F.typeCall_list_1 _) PySem.F.entry_list_init
    (code_list_new _ ⟨rfl, rfl⟩) fun obj s₁ h₁ => ?_
  obtain ⟨rfl, rfl⟩ := h₁
  have hS : (s.heap.push { cls := .type "list", data := .seq #[] }).get? s.heap.objs.size = some { cls := .type "list", data := .seq #[] } := Heap.get?_push_size _ rfl
  refine ⟨⟨_, hS, rfl⟩, PySem.F.args_list_init_2 _ _, ?_⟩
  generalize hq0 : s.heap.objs.size = q at *
  have nfp : q ∉ fp := fun z => Nat.lt_irrefl _ (old q z)
  have nwr : ∀ b ∈ wr, b ≠ q := fun b hb z => nfp (by rw [← z]; exact W.sub b hb)
  have key : ∀ (h : Heap) (tk c : Nat), (∀ b u, b ≠ q → s.heap.get? b = some u → h.get? b = some u) → h.get? q = some { cls := .type "list", data := .seq #[] c } →
      codeAny (model P w) A.in1 (.builtin "list.extend.loop" ⟨[.ref q, .ref it, .none], []⟩) (wants (fun r s₂ => r = .none ∧ Q (.ref q) s₂) E) { s with heap := h, toks := tk } := by
    intro h tk c kp hq
    refine codeAny_extend_loopS W.toS hn q nfp .none n 0 { s with heap := h, toks := tk } #[] c rfl (Nat.zero_le _) (W.frame 0 _ _ st fun b hb o e => kp b o (fun z => nfp (by rw [← z]; exact hb)) e) hq (ItemsOf.nil _) fun s' acc c' mv hq' hacc => ?_
    rw [Moved.eq_with mv]
    exact ⟨rfl, hQ s'.heap s'.toks c' acc (fun b o hb e => by
      have nb : b ≠ q := fun z => absurd (Heap.lt_size e) (by rw [z, hq0]; exact Nat.lt_irrefl _)
      exact mv.heap b o (by simp only [List.mem_cons, not_or]; exact ⟨nb, hb⟩) (kp b o nb e)) hacc hq'⟩
  show wpAny _ _ (do let old ← Builtin.List.listItems (.ref q); Builtin.List.listUpdate (.ref q) (fun _ => #[]); letGo old.toList.reverse; Builtin.List.listExtendWith (.ref q) (.ref it) .none) _ _ _
  refine wpAny_bind ?_
  unfold Builtin.List.listItems
  refine wpAny_bind (wpAny_seqItems hS rfl (wpAny_pure ?_))
  show wpAny _ _ (updateSeq q (fun _ => #[]) >>= fun _ => letGo (#[] : Array Value).toList.reverse >>= fun _ => Builtin.List.listExtendWith (.ref q) (.ref it) .none) _ _ _
  refine wpAny_bind (wpAny_updateSeq hS rfl ?_)
  have hS2 := PySem.IsL.update hS (fun _ => #[])
  have k2 : ∀ b u, b ≠ q → s.heap.get? b = some u → ((s.heap.push { cls := .type "list", data := .seq #[] }).update q (Obj.mapSeq fun _ => #[])).get? b = some u := fun b u hb e => (Heap.get?_update_other _ _ (Ne.symm hb)).trans (up _ b u e)
  have st2 := W.frame 0 _ _ st fun b hb o e => k2 b o (fun z => nfp (by rw [← z]; exact hb)) e
  refine wpAny_bind (wpAny_letGo ?_)
  have nqi : q ≠ it := fun z => nfp (by rw [z]; exact hit)
  unfold Builtin.List.listExtendWith
  refine wpAny_bind (wpAny_typeOf (ty _ st2) ?_)
  have n0 : Builtin.List.listSameRef (.ref q) (.ref it) = false := by simp [Builtin.List.listSameRef, nqi]
  simp only [n0, n1, n2, Bool.or_false, Bool.false_eq_true, if_false]
  refine wpAny_bind (W.self 0 _ _ _ st2 ?_)
  refine wpAny_bind (wpAny_holding (hint _ _ _ st2 fun b tk => ?_))
  refine wpAny_ite_split (fun _ => ?_) (fun _ => wpAny_pure ⟨plainId_quiet PySem.F.plain_extend_loop _, key _ _ _ k2 hS2⟩)
  refine wpAny_bind (wpAny_rule (wpAny_bind ?_))
  show wpAny _ _ (updateSeq q (·.push .none) >>= fun _ => updateSeq q (·.pop)) _ _ _
  refine wpAny_bind (wpAny_updateSeq hS2 rfl ?_)
  have hS3 := PySem.IsL.update hS2 (·.push Value.none)
  refine wpAny_updateSeq hS3 rfl (wpAny_pure ⟨plainId_quiet PySem.F.plain_extend_loop _, ?_⟩) (by show 1 ≤ sizeLine; rw [sizeLine_eq]; decide) (by show 0 ≤ sizeLine + 1; exact Nat.zero_le _)
  have hS4 := PySem.IsL.update hS3 (·.pop)
  refine key _ _ _ (fun b u hb e => ?_) hS4
  exact (Heap.get?_update_other _ _ (Ne.symm hb)).trans ((Heap.get?_update_other _ _ (Ne.symm hb)).trans (k2 b u hb e))

/-- the hint of a reversed list, of a reversed tuple -/
theorem hint_rl {it l : Addr} {i : Int} {Q : Bool → Shared → Prop} (hi : s.heap.IsRevIter it l i) (hQ : ∀ b tk, Q b { s with toks := tk }) : wpAny (model P w) A (Builtin.List.listLengthHint (.ref it)) Q E s := by
  have hT := hi.typeIs
  unfold Builtin.List.listLengthHint
  refine wpAny_bind (wpAny_specialOf hT RT.nolen_lri ?_)
  show wpAny _ _ (specialOf (Value.ref it) (Str.ofString "__length_hint__") >>= _) _ _ _
  refine wpAny_bind (wpAny_specialOf hT RT.hint_lri ?_)
  generalize hid : ("list_reverseiterator.__length_hint__" : String) = id0
  wp_delta
  rw [show splitId id0 = some ("list_reverseiterator", "__length_hint__") from by subst hid; decide +kernel]
  subst hid
  refine wpAny_bind (wpAny_isInstance (b := true) hT (by rw [isSubtype_type]; kernel_rfl) ?_)
  exact wpAny_pure (hQ _ _)

theorem nolen_rt : typeLookup (.type "reversed") "__len__" = pure none := by rw [typeLookup_type, builtinLookup_eq_fast]; kernel_rfl
theorem slot_rt_hint : Slot "reversed" "__length_hint__" "reversed.__length_hint__" :=
  .of (owner := "reversed") (n := "__length_hint__") (by rw [typeLookup_type, builtinLookup_eq_fast]; kernel_rfl) (by decide +kernel) (by decide +kernel) (by decide +kernel)
    (by first | exact .inl (by decide +kernel) | exact .inr (by decide +kernel)) (by rw [isSubtype_type]; kernel_rfl)
theorem entry_rt_hint : entryFor table "reversed.__length_hint__" = some Builtin.«reversed.__length_hint__» := entryFor_of_tree (by kernel_rfl)
theorem args_rt_hint (a : Value) : argsOk "reversed.__length_hint__" ⟨[a], []⟩ := by
  unfold argsOk
  rw [signature?_of (id := "reversed.__length_hint__") (n := ['_', '_', 't', 'n', 'i', 'h', '_', 'h', 't', 'g', 'n', 'e', 'l', '_', '_']) (o := ['d', 'e', 's', 'r', 'e', 'v', 'e', 'r']) (by kernel_rfl) RT.owner_rt]
  kernel_rfl
theorem hint_rt {it t : Addr} {zs : Array Value} {Q : Bool → Shared → Prop} (hi : RT.IsRt s.heap it t ((zs.size : Int) - 1)) (ht : IsTup s.heap t zs) (hz : zs.size ≤ sizeLine) (hQ : ∀ b tk, Q b { s with toks := tk }) :
    wpAny (model P w) A (Builtin.List.listLengthHint (.ref it)) Q E s := by
  have hT := RT.IsRt.typeIs hi
  obtain ⟨o, ho, hc, hd⟩ := id hi
  have sz := sizeLine_eq
  unfold Builtin.List.listLengthHint
  refine wpAny_bind (wpAny_specialOf hT nolen_rt ?_)
  show wpAny _ _ (specialOf (Value.ref it) (Str.ofString "__length_hint__") >>= _) _ _ _
  refine wpAny_bind (wpAny_specialOf hT slot_rt_hint.lookup ?_)
  generalize hid : ("reversed.__length_hint__" : String) = id0
  wp_delta
  rw [show splitId id0 = some ("reversed", "__length_hint__") from by subst hid; decide +kernel]
  subst hid
  refine wpAny_bind (wpAny_isInstance (b := true) hT (by rw [isSubtype_type]; kernel_rfl) ?_)
  refine wpAny_ite_split (fun h => absurd h (by decide)) (fun _ => ?_)
  refine wpAny_ite_split (fun h => absurd h (by decide +kernel)) (fun _ => ?_)
  refine wpAny_bind (wpAny_rule ?_)
  rw [slot_rt_hint.bind]
  refine wpAny_bind (wpAny_pure ?_)
  dsimp only
  refine wpAny_bind (wpAny_attempt (wpAny_call_entry slot_rt_hint hT entry_rt_hint ?_ (args_rt_hint _)))
  unfold Builtin.«reversed.__length_hint__»
  refine wpAny_bind (wpAny_of_eq (a := Value.ref it) (by first | rfl | kernel_rfl!) ?_)
  dsimp only
  refine wpAny_bind (wpAny_field ho hd (x := .ref t) rfl ?_)
  rw [if_neg (show ¬ ((Value.ref t == Value.none) = true) from Bool.false_ne_true)]
  refine wpAny_bind (PyProof.Rows.len_tuple ht (by omega) ?_)
  refine wpAny_bind (wpAny_of_eq (a := some (zs.size : Int)) rfl ?_)
  dsimp only
  refine wpAny_bind (wpAny_field (s := { s with toks := s.toks + 1 + 1 }) ho hd (x := rawInt ((zs.size : Int) - 1)) rfl ?_)
  show wpAny _ _ (if (zs.size : Int) < (zs.size : Int) - 1 + 1 then _ else _) _ _ _
  rw [if_neg (by omega)]
  refine wpAny_bind (wpAny_mkInt (wpAny_pure ⟨_, rfl, ?_⟩))
  refine wpAny_bind (wpAny_of_eq (a := some ((zs.size : Int) - 1 + 1)) rfl ?_)
  dsimp only
  refine wpAny_ite_split (fun h => absurd h ?_) fun _ => ?_
  · simp [Builtin.List.listFitsIndex]
    omega
  refine wpAny_ite_split (fun h => absurd h (by omega)) fun _ => ?_
  refine wpAny_ite_split (fun h => absurd h ?_) fun _ => wpAny_pure (hQ _ _)
  rw [notLongL (by omega)]
  exact Bool.false_ne_true
theorem walks_rt (calm : A.handled = none) (it t : Addr) (hne : t ≠ it) (zs : Array Value) (hz : zs.size ≤ sizeLine) :
    Walks P w A it [it, t] [it] zs.size (fun i v => zs[zs.size - 1 - i]? = some v) (fun i h => i ≤ zs.size ∧ RT.IsRt h it t ((zs.size : Int) - 1 - (i : Int)) ∧ IsTup h t zs) where
  sub := fun b hb => by simp at hb; simp [hb]
  frame := fun i h h' st k => ⟨st.1, st.2.1.at fun o e => k it (by simp) o e, let ⟨o, ho, r⟩ := st.2.2; ⟨o, k t (by simp) o ho, r⟩⟩
  item := fun i s Q E hi st hQ => by
    have e : (zs.size : Int) - 1 - (i : Int) = ((zs.size - 1 - i : Nat) : Int) := by omega
    have h1 := st.2.1
    rw [e] at h1
    have hx : zs[zs.size - 1 - i]? = some (zs[zs.size - 1 - i]'(by omega)) := Array.getElem?_eq_getElem (by omega)
    refine RT.next_rt_item h1 st.2.2 hx hz fun h' h1' sb => hQ _ h' _ hx ⟨hi, ?_, ?_⟩ fun b o hb eo => (sb.2 b (by simpa using hb)).trans eo
    · rw [show (zs.size : Int) - 1 - ((i + 1 : Nat) : Int) = ((zs.size - 1 - i : Nat) : Int) - 1 by omega]
      exact h1'
    · obtain ⟨o, ho, r⟩ := st.2.2
      exact ⟨o, (sb.2 t hne).trans ho, r⟩
  done := fun s Q E st hQ => by
    have h1 := st.2.1
    rw [show (zs.size : Int) - 1 - (zs.size : Int) = -1 by omega] at h1
    exact RT.next_rt_end calm h1 fun h' eb => hQ h' _ fun b o hb eo => eb b o (by simpa using hb) eo
  self := fun i s Q E st hQ => RT.iter_rt st.2.1 hQ
end

/-- list(reversed(x)): a new list -/
def tListRev (K : PySem.W.Frag) (te : TE) : TE := fun σ H Q => te σ H fun v H1 => ∃ (a : Addr) (xs : List V), v = .ref a ∧ (SqL K H1 a xs ∨ SqT K H1 a xs) ∧ ∀ q, H1 q = none → Q (.ref q) (upd H1 q (.lst xs.reverse))
theorem x_listRev {K : PySem.W.Frag} {te : TE} {σ : St} {H : Hp} {Q : VK} (q : te σ H fun v H1 => ∃ (a : Addr) (xs : List V), v = .ref a ∧ (SqL K H1 a xs ∨ SqT K H1 a xs) ∧ ∀ q, H1 q = none → Q (.ref q) (upd H1 q (.lst xs.reverse))) : tListRev K te σ H Q := q
section
variable {X : Cx}
theorem pe_listRev {e : Expr} {te : TE} {p p2 pos pos2 : Pos} (hc : X.calm = true) (hg : Gl X "list") (hm : X.mg "list" = none) (hg2 : Gl X "reversed") (hm2 : X.mg "reversed" = none) (he : PE X e te)
    (hs : starEach [e] X.env = (false, eval e X.env) :: starEach [] X.env := by rfl)
    (hs2 : starEach [.Call (.Name "reversed" p2) [e] [] pos2] X.env = (false, eval (.Call (.Name "reversed" p2) [e] [] pos2) X.env) :: starEach [] X.env := by rfl) :
    PE X (.Call (.Name "list" p) [.Call (.Name "reversed" p2) [e] [] pos2] [] pos) (tListRev X.K te) := by
  refine ⟨fun pins s σ H Q I h => ?_⟩
  refine Call_ (ld_blt I hg hm boot_list (PyProof.Rows.callWith_type1 (args_cons (Call_ (ld_blt I hg2 hm2 PyProof.Rows.boot_reversed (PyProof.Rows.callWith_type1 (args_cons (thn (he.run pins s σ H _ I h) fun u s1 ⟨v, H1, I1, r1, q1⟩ => args_nil ?_) hs) hs rfl))) hs2) hs2 rfl))
  obtain ⟨a, xs, ev, hq, q⟩ := q1
  subst ev
  obtain rfl : u = Value.ref a := r1
  have fin : ∀ (its : List Value) (o : Obj) (tk0 : Nat), Vals xs its → xs.length ≤ sizeLine → ∀ (h' : Heap) (tk c : Nat) (acc : Array Value), (∀ b ob, b ∉ [s1.heap.objs.size] → (s1.heap.push o).get? b = some ob → h'.get? b = some ob) → ItemsOf (fun i v => its.toArray[its.toArray.size - 1 - i]? = some v) acc its.toArray.size →
      h'.get? (s1.heap.push o).objs.size = some { cls := .type "list", dict := none, data := .seq acc c, slots := #[] } → EP X pins σ Q (.ref (s1.heap.push o).objs.size) { s1 with heap := h', toks := tk } := by
    intro its o tk0 rv hz h' tk c acc kp hacc hq'
    have I2 : Inv X pins σ H1 { s1 with heap := s1.heap.push o } := I1.kept (t' := s1.toks) fun b u e => Heap.get?_push_of_some _ e
    have fr : H1 (s1.heap.push o).objs.size = none := I2.fresh
    refine ⟨.ref _, _, I1.laid (t' := tk) (a := (s1.heap.push o).objs.size) (o := .lst xs.reverse) (fun b u e => kp b u ?_ (Heap.get?_push_of_some _ e)) (by rw [Heap.size_push]; exact Nat.le_succ _) ⟨by rw [List.length_reverse]; exact hz, acc.toList, c, RT.vals_rev rv hacc, ?_⟩, rfl, q _ fr⟩
    · simp only [List.mem_singleton]
      exact Nat.ne_of_lt (Heap.lt_size e)
    · rw [Array.toArray_toList]
      exact hq'
  rcases hq with hq | hq
  · obtain ⟨its, rv, pl, hz⟩ := I1.list hq
    have hl := rv.length
    have pl' := pl.isList
    obtain ⟨ol, hol, _⟩ := id pl'
    have ne : a ≠ s1.heap.objs.size := Nat.ne_of_lt (Heap.lt_size hol)
    refine call_reversed_list pl' (args_nil ?_)
    have hn : its.toArray.size ≤ sizeLine := by rw [List.size_toArray, ← hl]; exact hz
    have W := Walks.listRev (prog := X.prog) (w := X.w) (A := X.A.in1.in1) (show X.A.in1.in1.handled = none from I1.ok.hd hc) s1.heap.objs.size a ne its.toArray
    refine list_walk (T := "list_reverseiterator") (s := { s1 with heap := s1.heap.push (revObj a ((its.toArray.size : Int) - 1)) }) W hn (fun s2 st => ?ty) ?old (by simp) (by decide) (by decide) (fun s2 Q1 E1 st k => ?hint) ?st (fin its _ s1.toks rv hz)
    case ty => exact st.2.1.typeIs
    case hint => exact hint_rl st.2.1 k
    case old =>
      intro b hb
      simp only [List.mem_cons, List.not_mem_nil, or_false] at hb
      have lt := Heap.lt_size hol
      rw [Heap.size_push]
      rcases hb with hb | hb
      · rw [hb]; exact Nat.lt_succ_self _
      · rw [hb]; exact Nat.lt_succ_of_lt lt
    case st =>
      refine ⟨Nat.zero_le _, ⟨_, Heap.get?_push_size _ rfl, rfl, ?_⟩, pl'.push _⟩
      simp
      rfl
  · obtain ⟨its, rv, pt, hz⟩ := I1.tuple hq
    have hl := rv.length
    obtain ⟨ol, hol, _⟩ := id pt
    have ne : a ≠ s1.heap.objs.size := Nat.ne_of_lt (Heap.lt_size hol)
    have hn : its.toArray.size ≤ sizeLine := by rw [List.size_toArray, ← hl]; exact hz
    have sz := sizeLine_eq
    refine RT.call_reversed_tup pt (fun A E Q k => PyProof.Rows.len_tuple pt (by omega) k) (args_nil ?_)
    have W := walks_rt (P := X.prog) (w := X.w) (A := X.A.in1.in1) (show X.A.in1.in1.handled = none from I1.ok.hd hc) s1.heap.objs.size a ne its.toArray hn
    refine list_walk (T := "reversed") (s := { s1 with heap := s1.heap.push (RT.rtObj a ((its.toArray.size : Int) - 1)), toks := s1.toks + 1 + 1 }) W hn (fun s2 st => ?ty) ?old (by simp) (by decide) (by decide) (fun s2 Q1 E1 st k => ?hint) ?st (fin its _ s1.toks rv hz)
    case ty => exact RT.IsRt.typeIs st.2.1
    case hint => exact hint_rt (by have z := st.2.1; simpa using z) st.2.2 hn k
    case old =>
      intro b hb
      simp only [List.mem_cons, List.not_mem_nil, or_false] at hb
      have lt := Heap.lt_size hol
      rw [Heap.size_push]
      rcases hb with hb | hb
      · rw [hb]; exact Nat.lt_succ_self _
      · rw [hb]; exact Nat.lt_succ_of_lt lt
    case st =>
      refine ⟨Nat.zero_le _, ⟨_, Heap.get?_push_size _ rfl, rfl, ?_⟩, pt.keeps fun b o e => Heap.get?_push_of_some _ e⟩
      simp
      rfl
end
end L2.OwR

set_option Elab.async false
set_option linter.all false
set_option maxRecDepth 100000
set_option maxHeartbeats 8000000
/-! C.m(..), m a staticmethod of the class at C. -/
namespace L2.OwR
open PySem PySem.Spec PyProof.Rows

structure SMet (K : PySem.W.Frag) (C : Addr) (mc : Value) (m : Str) (p g : Addr) : Prop where
  at_ : PySem.W.findCls K (.ref C) mc m = some (.get (.builtin "staticmethod.__get__") (.ref p) .none (.ref C))
  rc : ∃ rest, PySem.W.recIn K p "staticmethod" = some (.ref g :: rest)
  kp : PySem.W.keepIn K (.ref g) = true
def tSMeth (C : Addr) (sp : Sp) (E : XK) (ta : TE) (t : TA) : TE := fun σ H Q => ta σ H fun x H1 => x = .ref C ∧ t σ H1 fun vs H2 => sp vs H2 Q E
section
variable {X : Cx} {cx : CXT} {k : Nat} {C p g : Addr} {mc : Value} {sp : Sp} {E : XK} {o e : Expr} {es : List Expr} {m : Str} {pos apos : Pos} {ta : TE} {t : TA} {pl : Sem Bool}
theorem getsm {pins : List (Addr × Obj)} {σ : St} {H : Hp} {s : Shared} {A : Around} {E : Value → Shared → Prop} {Q : Value × List Value → Shared → Prop} (I : Inv X pins σ H s) (r : ClX.CRead X.K C mc) (c : SMet X.K C mc m p g)
    (h : ∀ s', Inv X pins σ H s' → Q (.ref g, []) s') : wpAny (model X.prog X.w) A (getMethod (.ref C) m pl) Q E s := by
  obtain ⟨rest, hp⟩ := c.rc
  refine PySem.W.method_cls I.kIn r.ga (PySem.W.cls_bind I.kIn r.rd c.at_ (wpAny_call (PySem.W.sm_get (s := { s with toks := s.toks + 1 }) I.kIn hp (PySem.W.handed_on rfl (h _ (I.tok _))))))
theorem pe_smeth (he : PE X o ta) (r : ClX.CRead X.K C mc) (c : SMet X.K C mc m p g) (F : FnR X.prog X.w X.K X.mg X.base cx k g sp) (hr : Room k X.A) (hx : Passes cx X E) (ha : PA X (e :: es) t)
    (hst : starEach (e :: es) X.env = (false, eval e X.env) :: starEach es X.env := by rfl) (hpl : (backTo pos (starEach es X.env)).any (·.1) = false := by rfl)
    (ht : eval (.Call (.Attribute o m apos) (e :: es) [] pos) X.env = (do
      let ov ← eval o X.env
      standAt apos.atName
      let (f, first) ← holding [ov] (getMethod ov m pl)
      callWith pos f first (backTo pos (starEach (e :: es) X.env)) (backToKw pos (keywordEach [] X.env))) := by rfl) :
    PE X (.Call (.Attribute o m apos) (e :: es) [] pos) (tSMeth C sp E ta t) := by
  refine ⟨fun pins s σ H Q I h => ?_⟩
  refine PySem.W.methodCall_KW (pl := pl) (thn (he.run pins s σ H _ I h) fun u s1 ⟨x, H1, I1, rx, ex, q⟩ => ?_) ht
  subst ex
  obtain rfl : u = Value.ref C := rx
  refine getsm I1 r c fun s2 I2 => ?_
  refine PySem.W.callWith_K (h₀ := X.base) I2.ok.mod.kin c.kp (thn (ha.run pos pins s2 σ H1 _ I2 q) fun us s3 ⟨vs, H2, I3, rv, q2⟩ => ⟨I3.kIn, ?_⟩) hst hpl
  exact wpAny_call (run_fnR F hr hx I3 rv q2)
theorem pe_smeth0 (he : PE X o ta) (r : ClX.CRead X.K C mc) (c : SMet X.K C mc m p g) (F : FnR X.prog X.w X.K X.mg X.base cx k g sp) (hr : Room k X.A) (hx : Passes cx X E)
    (ht : eval (.Call (.Attribute o m apos) [] [] pos) X.env = (do
      let ov ← eval o X.env
      standAt apos.atName
      let (f, first) ← holding [ov] (getMethod ov m pl)
      callWith pos f first (backTo pos (starEach [] X.env)) (backToKw pos (keywordEach [] X.env))) := by rfl) :
    PE X (.Call (.Attribute o m apos) [] [] pos) (tSMeth C sp E ta tNil) := by
  refine ⟨fun pins s σ H Q I h => ?_⟩
  refine PySem.W.methodCall_KW (pl := pl) (thn (he.run pins s σ H _ I h) fun u s1 ⟨x, H1, I1, rx, ex, q⟩ => ?_) ht
  subst ex
  obtain rfl : u = Value.ref C := rx
  refine getsm I1 r c fun s2 I2 => ?_
  exact PySem.W.callWith_K0 I2.kIn c.kp (wpAny_call (run_fnR (us := []) (vs := []) F hr hx I2 .nil q))
end
theorem x_smeth {C : Addr} {sp : Sp} {E : XK} {ta : TE} {t : TA} {σ : St} {H : Hp} {Q : VK} (q : ta σ H fun x H1 => x = .ref C ∧ t σ H1 fun vs H2 => sp vs H2 Q E) : tSMeth C sp E ta t σ H Q := q
section
variable {P : Program} {w : World} {K : PySem.W.Frag} {mg : Str → Option Value} {base : Heap}
/-- def f(*v) -/
theorem star_ok {x qual pv : Str} {st : Stmt} {f : Addr} {fd : FuncData} {N : List Str} {k : Nat} {sp : Sp} (F : Fun K x qual st f fd) (S : FnScope N [pv] (defScope st))
    (hb : ∀ (kV doc pm : Value) (an : Option Addr) (cdv ct : Value) (rest : List Value), bindArgs (PySem.W.fnOf x qual (defArgs st) (defBody st) (defScope st) .none kV doc pm an cdv ct) ⟨rest, []⟩ = (newTuple rest >>= fun t => pure [(pv, t)]))
    (hbody : ∀ (cdv : Value) (A : Around) (outer : List Env) (s : Shared) (H : Hp) (vs : List V) (Q : VK) (E : XK), Room k (A.deeper (envOfC qual (defScope st) s.heap.objs.size f cdv)) → sp vs H Q E →
      ∃ t, PSs (cxOf CX0 P w K mg base N qual (defScope st) f cdv A outer s H E).nox (defBody st) t ∧ t { nx := fun _ H' => Q .non H', rt := Q } (start N vs) H) :
    FnR P w K mg base CX0 (k + 1) f (fun vs H Q E => vs.length ≤ sizeLine ∧ ∀ p, H p = none → sp [.ref p] (upd H p (.tup vs)) Q E) := by
  obtain ⟨oc, od, kV, doc, pm, an, cdv, ct, osl, rfl, lk, hcd⟩ := F.ex
  have z := StX.fn_star (P := P) (w := w) (mg := mg) (base := base) (CX := CX0) (k := k) (sp := sp) (ps := []) (pv := pv) (N := N) lk hcd S StX.cxUp_none (fun us rest hl => ?_) fun A outer s H vs Q E hr hsp => ?_
  · intro A outer s H us vs Q E hr e0 r h
    exact z A outer s H us vs Q E hr e0 r ⟨[], vs, rfl, rfl, h.1, h.2⟩
  · cases us with
    | cons a b => cases hl
    | nil => exact hb kV doc pm an cdv ct rest
  · obtain ⟨t, h, q⟩ := hbody cdv A outer s H vs Q E hr hsp
    exact ⟨t, h.nox, q⟩
end
end L2.OwR

set_option Elab.async false
set_option linter.all false
/-! Ascending lists of ints as sets. -/
namespace Asc63
/-- ascending -/
abbrev Asc (xs : List Int) : Prop := xs.Pairwise (· < ·)
theorem asc_ext : ∀ {xs ys : List Int}, Asc xs → Asc ys → (∀ k, k ∈ xs ↔ k ∈ ys) → xs = ys
  | [], [], _, _, _ => rfl
  | [], y :: ys, _, _, h => absurd ((h y).2 List.mem_cons_self) List.not_mem_nil
  | x :: xs, [], _, _, h => absurd ((h x).1 List.mem_cons_self) List.not_mem_nil
  | x :: xs, y :: ys, a, b, h => by
    have a' := List.pairwise_cons.mp a
    have b' := List.pairwise_cons.mp b
    have e : x = y := by
      rcases List.mem_cons.mp ((h x).1 List.mem_cons_self) with e | m
      · exact e
      · rcases List.mem_cons.mp ((h y).2 List.mem_cons_self) with e | m'
        · exact e.symm
        · have h1 := b'.1 x m
          have h2 := a'.1 y m'
          omega
    subst e
    congr 1
    refine asc_ext a'.2 b'.2 fun k => ⟨fun m => ?_, fun m => ?_⟩
    · rcases List.mem_cons.mp ((h k).1 (List.mem_cons_of_mem _ m)) with e | m'
      · have := a'.1 k m
        omega
      · exact m'
    · rcases List.mem_cons.mp ((h k).2 (List.mem_cons_of_mem _ m)) with e | m'
      · have := b'.1 k m
        omega
      · exact m'
/-- put in its place -/
def ins (x : Int) : List Int → List Int
  | [] => [x]
  | y :: ys => if x < y then x :: y :: ys else if x = y then y :: ys else y :: ins x ys
theorem mem_ins {x k : Int} : ∀ {ys : List Int}, k ∈ ins x ys ↔ k = x ∨ k ∈ ys
  | [] => by simp [ins]
  | y :: ys => by
    unfold ins
    split
    · simp
    · split
      · rename_i e
        subst e
        simp
      · rw [List.mem_cons, mem_ins, List.mem_cons]
        constructor
        · rintro (h | h | h)
          · exact .inr (.inl h)
          · exact .inl h
          · exact .inr (.inr h)
        · rintro (h | h | h)
          · exact .inr (.inl h)
          · exact .inl h
          · exact .inr (.inr h)
theorem asc_ins {x : Int} : ∀ {ys : List Int}, Asc ys → Asc (ins x ys)
  | [], _ => List.pairwise_singleton ..
  | y :: ys, a => by
    have a' := List.pairwise_cons.mp a
    unfold ins
    split
    · rename_i h
      refine List.pairwise_cons.mpr ⟨fun k m => ?_, a⟩
      rcases List.mem_cons.mp m with e | m
      · omega
      · have := a'.1 k m
        omega
    · split
      · exact a
      · refine List.pairwise_cons.mpr ⟨fun k m => ?_, asc_ins a'.2⟩
        rcases mem_ins.mp m with e | m
        · omega
        · exact a'.1 k m
def canon (l : List Int) : List Int := l.foldr ins []
theorem mem_canon {k : Int} : ∀ {l : List Int}, k ∈ canon l ↔ k ∈ l
  | [] => by simp [canon]
  | x :: l => by
    show k ∈ ins x (canon l) ↔ _
    rw [mem_ins, mem_canon, List.mem_cons]
theorem asc_canon : ∀ (l : List Int), Asc (canon l)
  | [] => .nil
  | x :: l => asc_ins (asc_canon l)
theorem canon_of {xs l : List Int} (a : Asc xs) (h : ∀ k, k ∈ xs ↔ k ∈ l) : xs = canon l := asc_ext a (asc_canon l) fun k => (h k).trans mem_canon.symm
theorem canon_self {xs : List Int} (a : Asc xs) : canon xs = xs := (canon_of a fun _ => Iff.rfl).symm
theorem canon_congr {l l' : List Int} (h : ∀ k, k ∈ l ↔ k ∈ l') : canon l = canon l' := asc_ext (asc_canon l) (asc_canon l') fun k => mem_canon.trans ((h k).trans mem_canon.symm)
theorem ins_length (x : Int) : ∀ ys : List Int, (ins x ys).length ≤ ys.length + 1
  | [] => Nat.le_refl _
  | y :: ys => by
    unfold ins
    split
    · exact Nat.le_refl _
    · split
      · exact Nat.le_succ _
      · have := ins_length x ys
        rw [List.length_cons, List.length_cons]
        omega
theorem canon_length : ∀ l : List Int, (canon l).length ≤ l.length
  | [] => Nat.le_refl _
  | x :: l => by
    have h1 := ins_length x (canon l)
    have h2 := canon_length l
    show (ins x (canon l)).length ≤ l.length + 1
    omega
/-- those of the first that are not in the second -/
def less (xs ys : List Int) : List Int := xs.filter fun k => !decide (k ∈ ys)
theorem mem_less {xs ys : List Int} {k : Int} : k ∈ less xs ys ↔ k ∈ xs ∧ k ∉ ys := by
  unfold less
  rw [List.mem_filter]
  simp
theorem asc_less {xs ys : List Int} (a : Asc xs) : Asc (less xs ys) := a.filter _
theorem less_length (xs ys : List Int) : (less xs ys).length ≤ xs.length := List.length_filter_le ..
/-- the loop: what is not the last one again is kept -/
def keep (made : List Int) (x : Int) : List Int := if made.getLast? = some x then made else made ++ [x]
def walk (l : List Int) : List Int := l.foldl keep []
theorem walk_snoc (l : List Int) (x : Int) : walk (l ++ [x]) = keep (walk l) x := by
  unfold walk
  rw [List.foldl_append]
  rfl
theorem foldl_keep_len : ∀ (l m : List Int), (l.foldl keep m).length ≤ m.length + l.length
  | [], m => Nat.le_refl _
  | x :: l, m => by
    have h := foldl_keep_len l (keep m x)
    have h2 : (keep m x).length ≤ m.length + 1 := by
      unfold keep
      split
      · exact Nat.le_succ _
      · rw [List.length_append]
        exact Nat.le_refl _
    show (l.foldl keep (keep m x)).length ≤ m.length + (l.length + 1)
    omega
theorem walk_len (l : List Int) : (walk l).length ≤ l.length := by
  have h := foldl_keep_len l []
  rw [List.length_nil, Nat.zero_add] at h
  exact h
/-- what the loop has made of an ordered list -/
theorem walk_inv : ∀ (n : Nat) (l : List Int), l.length = n → l.Pairwise (· ≤ ·) → Asc (walk l) ∧ (∀ k, k ∈ walk l ↔ k ∈ l) ∧ (walk l).getLast? = l.getLast?
  | 0, l, e, _ => by
    have : l = [] := List.eq_nil_of_length_eq_zero e
    subst this
    exact ⟨.nil, fun _ => Iff.rfl, rfl⟩
  | n + 1, l, e, a => by
    have ne : l ≠ [] := fun z => by rw [z] at e; cases e
    have el := List.dropLast_concat_getLast ne
    generalize l.dropLast = r at el
    generalize l.getLast ne = x at el
    subst el
    have lr : r.length = n := by simpa using e
    have pr : r.Pairwise (· ≤ ·) := (List.pairwise_append.mp a).1
    have le : ∀ k ∈ r, k ≤ x := fun k m => (List.pairwise_append.mp a).2.2 k m x (by simp)
    obtain ⟨h1, h2, h3⟩ := walk_inv n r lr pr
    rw [walk_snoc]
    unfold keep
    by_cases hx : (walk r).getLast? = some x
    · rw [if_pos hx]
      have mx : x ∈ r := by
        rw [h3] at hx
        exact List.mem_of_getLast? hx
      refine ⟨h1, fun k => ?_, ?_⟩
      · rw [h2, List.mem_append, List.mem_singleton]
        exact ⟨.inl, fun z => z.elim id fun z => z ▸ mx⟩
      · rw [hx]
        simp
    · rw [if_neg hx]
      have nx : x ∉ walk r := fun m => by
        apply hx
        cases q : (walk r).getLast? with
        | none =>
          rw [List.getLast?_eq_none_iff] at q
          rw [q] at m
          exact absurd m List.not_mem_nil
        | some z =>
          have mz : z ∈ r := by
            rw [h3] at q
            exact List.mem_of_getLast? q
          have z1 := le z mz
          have z2 : x ≤ z := by
            have ne' : walk r ≠ [] := fun w => by rw [w] at q; cases q
            have q2 : (walk r).getLast ne' = z := by
              have := List.getLast?_eq_some_getLast ne'
              rw [q] at this
              exact (Option.some.inj this).symm
            have el2 := List.dropLast_concat_getLast ne'
            rw [q2] at el2
            rw [← el2] at m h1
            rcases List.mem_append.mp m with m | m
            · have := (List.pairwise_append.mp h1).2.2 x m z (by simp)
              omega
            · have : x = z := by simpa using m
              omega
          rw [show z = x by omega]
      refine ⟨?_, fun k => ?_, ?_⟩
      · refine List.pairwise_append.mpr ⟨h1, List.pairwise_singleton .., fun k mk z mz => ?_⟩
        have ez : z = x := by simpa using mz
        subst ez
        have l1 := le k ((h2 k).1 mk)
        have l2 : k ≠ z := fun w => nx (w ▸ mk)
        omega
      · rw [List.mem_append, h2, List.mem_append]
      · simp
theorem walk_canon {l l0 : List Int} (a : l.Pairwise (· ≤ ·)) (p : l.Perm l0) : walk l = canon l0 := by
  obtain ⟨h1, h2, _⟩ := walk_inv _ l rfl a
  exact canon_of h1 fun k => (h2 k).trans p.mem_iff
end Asc63

set_option Elab.async false
set_option linter.all false
set_option maxRecDepth 100000
set_option maxHeartbeats 4000000
/-! The readings step by step, each as a rule to refine by. -/
namespace L2.Au
open PySem PySem.Spec PyProof.Rows
section
variable {K : PySem.W.Frag} {σ : St} {H H1 H2 : Hp} {i : Nat} {v x y z : V} {ta tb te tv : TE} {Q : VK} {t u c : TT} {QB : Bool → Hp → Prop} {D : Ends} {ts us : TS} {a b p l d : Addr}
theorem x_var (h : σ[i]? = some (some v)) (q : Q v H) : tVar i σ H Q := ⟨v, h, q⟩
theorem x_c (q : Q v H) : tC v σ H Q := q
theorem x_op {r : R2} (q : ta σ H fun x H1 => tb σ H1 fun y H2 => r x y H2 Q) : tOp r ta tb σ H Q := q
theorem x_un {r : V → Hp → VK → Prop} (q : ta σ H fun x H1 => r x H1 Q) : tUn r ta σ H Q := q
theorem x_i0 {g : Int → Int → V} {m n : Int} (q : Q (g m n) H) : rI0 g (.int m) (.int n) H Q := ⟨m, n, rfl, rfl, q⟩
theorem x_i {C : Int → Int → Prop} {g : Int → Int → V} {m n : Int} (h : C m n) (q : Q (g m n) H) : rI C g (.int m) (.int n) H Q := ⟨m, n, rfl, rfl, h, q⟩
theorem x_u {g : Int → V} {m : Int} (q : Q (g m) H) : rU g (.int m) H Q := ⟨m, rfl, q⟩
theorem dec_int {m n : Int} : decide (V.int m = V.int n) = decide (m = n) := by
  by_cases h : m = n
  · rw [h, decide_eq_true rfl, decide_eq_true rfl]
  · rw [decide_eq_false h, decide_eq_false fun z => h (V.int.inj z)]
theorem dec_str {m n : Str} : decide (V.str m = V.str n) = decide (m = n) := by
  by_cases h : m = n
  · rw [h, decide_eq_true rfl, decide_eq_true rfl]
  · rw [decide_eq_false h, decide_eq_false fun z => h (V.str.inj z)]
theorem dec_bl {m n : Bool} : decide (V.bl m = V.bl n) = decide (m = n) := by
  by_cases h : m = n
  · rw [h, decide_eq_true rfl, decide_eq_true rfl]
  · rw [decide_eq_false h, decide_eq_false fun z => h (V.bl.inj z)]
theorem x_eqI {m n : Int} (q : Q (.bl (decide (m = n))) H) : rEq (.int m) (.int n) H Q := ⟨rfl, by rw [dec_int]; exact q⟩
theorem x_neI {m n : Int} (q : Q (.bl (!decide (m = n))) H) : rNe (.int m) (.int n) H Q := ⟨rfl, by rw [dec_int]; exact q⟩
theorem x_eqS {m n : Str} (q : Q (.bl (decide (m = n))) H) : rEq (.str m) (.str n) H Q := ⟨rfl, by rw [dec_str]; exact q⟩
theorem x_neS {m n : Str} (q : Q (.bl (!decide (m = n))) H) : rNe (.str m) (.str n) H Q := ⟨rfl, by rw [dec_str]; exact q⟩
theorem x_eqB {m n : Bool} (q : Q (.bl (decide (m = n))) H) : rEq (.bl m) (.bl n) H Q := ⟨rfl, by rw [dec_bl]; exact q⟩
theorem x_neB {m n : Bool} (q : Q (.bl (!decide (m = n))) H) : rNe (.bl m) (.bl n) H Q := ⟨rfl, by rw [dec_bl]; exact q⟩
theorem x_test (q : te σ H fun x H' => ∃ k, x = .bl k ∧ QB k H') : tTest te σ H QB := q
theorem x_tB (q : te σ H fun x H' => ∃ k, x = .bl k ∧ QB k H') : tB te σ H QB := q
theorem x_k {k : Bool} {R : Bool → Prop} (q : R k) : ∃ k', V.bl k = .bl k' ∧ R k' := ⟨k, rfl, q⟩
theorem x_not (q : t σ H fun c H1 => QB (!c) H1) : tNot t σ H QB := q
theorem x_and (q : t σ H fun c H1 => if c = true then u σ H1 QB else QB false H1) : tAnd t u σ H QB := q
theorem x_or (q : t σ H fun c H1 => if c = true then QB true H1 else u σ H1 QB) : tOr t u σ H QB := q
theorem x_andV (q : ta σ H fun x H1 => ∃ c, x = .bl c ∧ if c = true then tb σ H1 Q else Q (.bl false) H1) : tAndV ta tb σ H Q := q
theorem x_orV (q : ta σ H fun x H1 => ∃ c, x = .bl c ∧ if c = true then Q (.bl true) H1 else tb σ H1 Q) : tOrV ta tb σ H Q := q
theorem x_notV (q : ta σ H fun x H1 => ∃ c, x = .bl c ∧ Q (.bl (!c)) H1) : tNotV ta σ H Q := q
theorem x_if (q : t σ H fun c H1 => if c = true then ta σ H1 Q else tb σ H1 Q) : tIf t ta tb σ H Q := q
theorem x_ifT {A B : Prop} (q : A) : if true = true then A else B := by rw [if_pos rfl]; exact q
theorem x_ifF {A B : Prop} (q : B) : if false = true then A else B := by rw [if_neg Bool.false_ne_true]; exact q
theorem x_ifNT {A B : Prop} (q : B) : if (!true) = true then A else B := x_ifF q
theorem x_ifNF {A B : Prop} (q : A) : if (!false) = true then A else B := x_ifT q
theorem x_ifB {b : Bool} {A B : Prop} (h1 : b = true → A) (h2 : b = false → B) : if b = true then A else B := by
  cases b with
  | true => exact x_ifT (h1 rfl)
  | false => exact x_ifF (h2 rfl)
/-- a test on a proposition, both ways -/
theorem x_ifD {C : Prop} [Decidable C] {A B : Prop} (h1 : C → A) (h2 : ¬ C → B) : if decide C = true then A else B := by
  by_cases h : C
  · rw [decide_eq_true h]; exact x_ifT (h1 h)
  · rw [decide_eq_false h]; exact x_ifF (h2 h)
theorem x_ifN {C : Prop} [Decidable C] {A B : Prop} (h1 : ¬ C → A) (h2 : C → B) : if (!decide C) = true then A else B := by
  by_cases h : C
  · rw [decide_eq_true h]; exact x_ifF (h2 h)
  · rw [decide_eq_false h]; exact x_ifT (h1 h)
theorem x_nil {QA : List V → Hp → Prop} (q : QA [] H) : tNil σ H QA := q
theorem x_cons {QA : List V → Hp → Prop} {tr : TA} (q : ta σ H fun x H1 => tr σ H1 fun xs H2 => QA (x :: xs) H2) : tCons ta tr σ H QA := q
theorem x_cb {r : List V → Hp → VK → Prop} {tr : TA} (q : tr σ H fun vs H1 => r vs H1 Q) : tCB r tr σ H Q := q
theorem x_call {sp : Sp} {dvs : List V} {E : XK} {tr : TA} (q : tr σ H fun vs H1 => sp (vs ++ dvs) H1 Q E) : tCall sp dvs E tr σ H Q := q
theorem x_seq (q : ts { D with nx := us D } σ H) : tSeq ts us D σ H := q
theorem x_next (q : D.nx σ H) : tNext D σ H := q
theorem x_asg {g : TG} (q : te σ H fun x H1 => g x σ H1 D.nx) : tAsg te g D σ H := q
theorem x_name {QS : St → Hp → Prop} (q : QS (σ.set i (some v)) H) : gName i v σ H QS := q
theorem x_sub {to ti : TE} {tt : TSet} {QS : St → Hp → Prop} (q : to σ H fun o H1 => ti σ H1 fun i H2 => tt o i v H2 fun H3 => QS σ H3) : gSub to ti tt v σ H QS := q
theorem x_drop (q : te σ H fun _ H1 => D.nx σ H1) : tDrop te D σ H := q
theorem x_ret (q : te σ H D.rt) : tRet te D σ H := q
theorem x_retN (q : D.rt .non H) : tRetN D σ H := q
theorem x_ifS (q : c σ H fun b H1 => if b = true then ts D σ H1 else us D σ H1) : tIfS c ts us D σ H := q
theorem x_int {n : Int} (q : Q (.int n) H) : (∃ i, [V.int n] = [.int i] ∧ Q (.int i) H) ∨ ∃ k, [V.int n] = [.bl k] ∧ Q (.int (if k then 1 else 0)) H := .inl ⟨n, rfl, q⟩
/-- places -/
theorem x_ixL {xs : List V} {n : Int} (h : SqL K H p xs) (e : atI xs n = some v) (q : Q v H) : rIxL K (.ref p) (.int n) H Q := ⟨p, xs, n, v, rfl, rfl, h, e, q⟩
theorem x_ixT {xs : List V} {n : Int} (h : SqT K H p xs) (e : atI xs n = some v) (q : Q v H) : rIxT K (.ref p) (.int n) H Q := ⟨p, xs, n, v, rfl, rfl, h, e, q⟩
theorem x_len {xs : List V} (h : SqL K H p xs ∨ SqT K H p xs) (q : Q (.int xs.length) H) : ∃ p' ys, [V.ref p] = [.ref p'] ∧ (SqL K H p' ys ∨ SqT K H p' ys) ∧ Q (.int ys.length) H := ⟨p, xs, rfl, h, q⟩
theorem x_setL {xs : List V} {n : Int} {j : Nat} {QH : Hp → Prop} (h : H p = some (.lst xs)) (e : ixN xs.length n = some j) (q : QH (upd H p (.lst (xs.set j v)))) : rSetL (.ref p) (.int n) v H QH := ⟨p, xs, n, j, rfl, rfl, h, e, q⟩
theorem x_fld {f : Str} (q : ta σ H fun x H1 => ∃ a C dx fs v, x = .ref a ∧ H1 a = some (.ins C dx fs) ∧ Cls K C ∧ NoAttr K C f ∧ fs.lookup f = some v ∧ Q v H1) : tFld K ta f σ H Q := q
theorem x_sfld {f : Str} (q : tv σ H fun y H1 => ta σ H1 fun x H2 => ∃ a C dx fs, x = .ref a ∧ H2 a = some (.ins C dx fs) ∧ Cls K C ∧ NoAttr K C f ∧ fs.length < 1000 ∧ D.nx σ (upd H2 a (.ins C dx (putF f y fs)))) : sFld K ta tv f D σ H := q
theorem x_sl {r : V → Option Int → Option Int → Hp → VK → Prop} {tl th : TO} (q : ta σ H fun x H1 => tl σ H1 fun l H2 => th σ H2 fun u H3 => r x l u H3 Q) : tSl r ta tl th σ H Q := q
theorem x_noPart {QO : Option Int → Hp → Prop} (q : QO none H) : tNoPart σ H QO := q
theorem x_part {QO : Option Int → Hp → Prop} (q : ta σ H fun x H1 => ∃ i, x = .int i ∧ QO (some i) H1) : tPart ta σ H QO := q
theorem x_kI {n : Int} {R : Int → Prop} (q : R n) : ∃ i, V.int n = .int i ∧ R i := ⟨n, rfl, q⟩
theorem x_meth {C : Addr} {m : Str} {sp : Sp} {dvs : List V} {E : XK} {tr : TA} (q : ta σ H fun x H1 => ∃ a dx fs, x = .ref a ∧ H1 a = some (.ins C dx fs) ∧ fs.lookup m = none ∧ tr σ H1 fun vs H2 => sp (x :: (vs ++ dvs)) H2 Q E) : tMeth C m sp dvs E ta tr σ H Q := q
theorem x_make {C : Addr} {sp : Sp} {dvs : List V} {E : XK} {tr : TA} (q : tr σ H fun vs H1 => ∀ x dx, H1 x = none → H1 dx = none → dx ≠ x → sp (.ref x :: (vs ++ dvs)) (upd (upd H1 dx (.own x)) x (.ins C dx [])) (fun v H2 => v = .non ∧ Q (.ref x) H2) E) : tMake C sp dvs E tr σ H Q := q
theorem x_app {xs : List V} (h : H l = some (.lst xs)) (hl : xs.length < sizeLine) (q : Q .non (upd H l (.lst (xs ++ [v])))) : rAppend (.ref l) [v] H Q := ⟨l, xs, v, rfl, rfl, h, hl, q⟩
theorem x_bm {T : String} {r : V → List V → Hp → VK → Prop} {tr : TA} (q : te σ H fun x H1 => tyV K T x H1 ∧ tr σ H1 fun xs H2 => r x xs H2 Q) : tBM K T r te tr σ H Q := q
theorem ty_lst {xs : List V} (h : H l = some (.lst xs)) : tyV K "list" (.ref l) H := .inl ⟨rfl, xs, SqL.of h⟩
theorem x_for {wi : TI} {g : TG} {tb : TS} (q : wi σ H fun J H1 => ∃ W : Nat → Nat → St → Hp → Prop, (∃ m, W 0 m σ H1) ∧ ∀ i m σ H, W i m σ H →
    (J.stop i H ∧ D.nx σ H) ∨ (J.go i H ∧ ∃ N : St → Hp → Prop, (∀ σ' H', N σ' H' → ∃ m', m' < m ∧ W (i + 1) m' σ' H') ∧ ∀ x H', J.yld i H x H' → g x σ H' fun σ2 H2 => tb { D with nx := N, ct := N, bk := D.nx } σ2 H2)) : tFor wi g tb D σ H := q

theorem x_iR1 {tr : TA} {R : It → Hp → Prop} (q : tr σ H fun vs H1 => ∃ j : Int, vs = [.int j] ∧ -(2 ^ 62) ≤ j ∧ j < 2 ^ 62 ∧ R (Itr 0 j.toNat) H1) : iRng1 tr σ H R := q
theorem x_iL {R : It → Hp → Prop} (q : te σ H fun x H1 => ∃ a, x = .ref a ∧ (∃ xs, SqL K H1 a xs) ∧ R (Itl K a) H1) : iList K te σ H R := q
theorem x_iT {R : It → Hp → Prop} (q : te σ H fun x H1 => ∃ a, x = .ref a ∧ (∃ xs, SqT K H1 a xs) ∧ R (Itt K a) H1) : iTup K te σ H R := q
/-- a new object: all that stood stands as before -/
structure New (H : Hp) (p : Addr) (o : HO) (H' : Hp) : Prop where
  fr : H p = none
  at_ : H' p = some o
  same : Same H H'
theorem New.mk' {o : HO} (h : H p = none) : New H p o (upd H p o) := ⟨h, upd_same, fun b u e => by rw [upd_ne (ne_of_none e h)]; exact e⟩
theorem x_new {o : HO} {R : Addr → Hp → Prop} (q : ∀ p H2, New H1 p o H2 → R p H2) : ∀ p, H1 p = none → R p (upd H1 p o) := fun p hp => q p _ (.mk' hp)
/-- all but what stands at d stands as before -/
def Kp (d : Addr) (H H' : Hp) : Prop := ∀ b o, b ≠ d → H b = some o → H' b = some o
theorem Kp.upd' {o : HO} : Kp d H (upd H d o) := fun b u n e => by rw [upd_ne n]; exact e
theorem Kp.refl : Kp d H H := fun _ _ _ e => e
theorem Kp.trans (a : Kp d H H1) (b : Kp d H1 H2) : Kp d H H2 := fun c o n e => b c o n (a c o n e)
theorem kpS (a : Same H H1) : Kp d H H1 := fun c o _ e => a c o e
theorem Kp.same (a : Kp d H H1) (n : H d = none) : Same H H1 := fun c o e => a c o (ne_of_none e n) e
/-- over a change of what was made since -/
theorem Kp.mut (s : Kp d H H1) (k : Kp l H1 H2) (n : H l = none) : Kp d H H2 := fun b o nb e => k b o (ne_of_none e n) (s b o nb e)
theorem Kp.free (s : Kp d H H1) (nd : p ≠ d) (n : H1 p = none) : H p = none := by
  cases e : H p with
  | none => rfl
  | some o => rw [s p o nd e] at n; cases n
theorem sameU {o : HO} (a : Same H H1) (n : H d = none) : Same H (upd H1 d o) := fun c u e => by rw [upd_ne (ne_of_none e n)]; exact a c u e
theorem sameK (s : Same H H1) (k : Kp l H1 H2) (n : H l = none) : Same H H2 := fun b o e => k b o (ne_of_none e n) (s b o e)
/-- an item of a list of ints -/
theorem at_int {fs : List Int} {n : Int} (h0 : 0 ≤ n) (h1 : n < ((fs.map V.int).length : Int)) : ∃ x, x ∈ fs ∧ fs[n.toNat]? = some x ∧ atI (fs.map V.int) n = some (.int x) := by
  have lt : n.toNat < fs.length := by
    rw [List.length_map] at h1
    omega
  refine ⟨fs[n.toNat], List.getElem_mem lt, List.getElem?_eq_getElem lt, ?_⟩
  exact at_of (j := n.toNat) (by omega) (by rw [List.getElem?_map, List.getElem?_eq_getElem lt]; rfl)
theorem x_setM {xs : List V} {n : Int} {j : Nat} {QH : Hp → Prop} (h : H p = some (.lst xs)) (e : ixN xs.length n = some j) (q : ∀ H', Kp p H H' → H' p = some (.lst (xs.set j v)) → QH H') : rSetL (.ref p) (.int n) v H QH := x_setL h e (q _ Kp.upd' upd_same)
theorem x_appM {xs : List V} (h : H l = some (.lst xs)) (hl : xs.length < sizeLine) (q : ∀ H', Kp l H H' → H' l = some (.lst (xs ++ [v])) → Q .non H') : rAppend (.ref l) [v] H Q := x_app h hl (q _ Kp.upd' upd_same)
theorem New.ne {o u : HO} (h : New H p o H1) (e : H a = some u) : a ≠ p := ne_of_none e h.fr
end
/-- a word between a statement and what follows -/
theorem x_cut {t u : TS} {nx : St → Hp → Prop} {rt : VK} {bk ct : St → Hp → Prop} {σ : St} {H : Hp} (Mid : St → Hp → Prop) (h1 : t { nx := Mid, rt := rt, bk := bk, ct := ct } σ H) (h2 : ∀ σ' H', Mid σ' H' → u { nx := nx, rt := rt, bk := bk, ct := ct } σ' H') : C8.tCut t u { nx := nx, rt := rt, bk := bk, ct := ct } σ H := ⟨Mid, h1, h2⟩
/-! loops, the ends by their parts -/
section
variable {K : PySem.W.Frag} {nx : St → Hp → Prop} {rt : VK} {g : TG} {tb : TS} {σ : St} {H : Hp}
theorem e_range {lo : Int} {n : Nat} (Pv : Nat → St → Hp → Prop) (h0 : Pv 0 σ H)
    (hs : ∀ i σ H, i < n → Pv i σ H → g (.int (lo + i)) σ H fun σ2 H2 => tb { nx := Pv (i + 1), rt := rt, bk := nx, ct := Pv (i + 1) } σ2 H2) (hd : ∀ σ H, Pv n σ H → nx σ H) :
    ∃ W : Nat → Nat → St → Hp → Prop, (∃ m, W 0 m σ H) ∧ ∀ i m σ H, W i m σ H →
      ((Itr lo n).stop i H ∧ nx σ H) ∨ ((Itr lo n).go i H ∧ ∃ N : St → Hp → Prop, (∀ σ' H', N σ' H' → ∃ m', m' < m ∧ W (i + 1) m' σ' H') ∧ ∀ x H', (Itr lo n).yld i H x H' → g x σ H' fun σ2 H2 => tb { nx := N, rt := rt, bk := nx, ct := N } σ2 H2) :=
  for_range (D := { nx := nx, rt := rt, bk := nx, ct := nx }) Pv h0 hs hd
theorem e_list {a : Addr} {xs : List V} (Pv : Nat → St → Hp → Prop) (h0 : Pv 0 σ H) (hl : ∀ i σ H, i ≤ xs.length → Pv i σ H → SqL K H a xs)
    (hs : ∀ i x σ H, xs[i]? = some x → Pv i σ H → g x σ H fun σ2 H2 => tb { nx := Pv (i + 1), rt := rt, bk := nx, ct := Pv (i + 1) } σ2 H2) (hd : ∀ σ H, Pv xs.length σ H → nx σ H) :
    ∃ W : Nat → Nat → St → Hp → Prop, (∃ m, W 0 m σ H) ∧ ∀ i m σ H, W i m σ H →
      ((Itl K a).stop i H ∧ nx σ H) ∨ ((Itl K a).go i H ∧ ∃ N : St → Hp → Prop, (∀ σ' H', N σ' H' → ∃ m', m' < m ∧ W (i + 1) m' σ' H') ∧ ∀ x H', (Itl K a).yld i H x H' → g x σ H' fun σ2 H2 => tb { nx := N, rt := rt, bk := nx, ct := N } σ2 H2) :=
  for_list (D := { nx := nx, rt := rt, bk := nx, ct := nx }) Pv h0 hl hs hd
theorem e_tup {a : Addr} {xs : List V} (Pv : Nat → St → Hp → Prop) (h0 : Pv 0 σ H) (hl : ∀ i σ H, i ≤ xs.length → Pv i σ H → SqT K H a xs)
    (hs : ∀ i x σ H, xs[i]? = some x → Pv i σ H → g x σ H fun σ2 H2 => tb { nx := Pv (i + 1), rt := rt, bk := nx, ct := Pv (i + 1) } σ2 H2) (hd : ∀ σ H, Pv xs.length σ H → nx σ H) :
    ∃ W : Nat → Nat → St → Hp → Prop, (∃ m, W 0 m σ H) ∧ ∀ i m σ H, W i m σ H →
      ((Itt K a).stop i H ∧ nx σ H) ∨ ((Itt K a).go i H ∧ ∃ N : St → Hp → Prop, (∀ σ' H', N σ' H' → ∃ m', m' < m ∧ W (i + 1) m' σ' H') ∧ ∀ x H', (Itt K a).yld i H x H' → g x σ H' fun σ2 H2 => tb { nx := N, rt := rt, bk := nx, ct := N } σ2 H2) :=
  for_tup (D := { nx := nx, rt := rt, bk := nx, ct := nx }) Pv h0 hl hs hd
end
/-! what makes an object: the heap behind it is another letter -/
def tLstN (t : TA) : TE := fun σ H Q => t σ H fun xs H1 => xs.length ≤ sizeLine ∧ ∀ p H2, New H1 p (.lst xs) H2 → Q (.ref p) H2
def tTupN (t : TA) : TE := fun σ H Q => t σ H fun xs H1 => xs.length ≤ sizeLine ∧ ∀ p H2, New H1 p (.tup xs) H2 → Q (.ref p) H2
def rCatN (K : PySem.W.Frag) : R2 := fun x y H Q => ∃ l b xs zs, x = .ref l ∧ y = .ref b ∧ H l = some (.lst xs) ∧ H b = some (.lst zs) ∧ xs.length + zs.length ≤ sizeLine ∧ ∀ p H2, New H p (.lst (xs ++ zs)) H2 → Q (.ref p) H2
/-- the sum of two tuples: some tuple, perhaps one of them -/
def rCatTN (K : PySem.W.Frag) : R2 := fun x y H Q => ∃ a b xs ys, x = .ref a ∧ y = .ref b ∧ SqT K H a xs ∧ SqT K H b ys ∧ xs.length + ys.length ≤ sizeLine ∧ ∀ p H2, Same H H2 → SqT K H2 p (xs ++ ys) → Q (.ref p) H2
def rSlLN (K : PySem.W.Frag) : V → Option Int → Option Int → Hp → VK → Prop := fun x lo hi H Q => ∃ a xs, x = .ref a ∧ SqL K H a xs ∧ ∀ p H2, New H p (.lst (cutV xs lo hi)) H2 → Q (.ref p) H2
section
variable {X : Cx} {es : List Expr} {pos : Pos} {t : TA}
theorem pe_lstN (h : PA X es t) : PE X (.List es pos) (tLstN t) := by
  refine ⟨fun pins s σ H Q I hq => wpAny_List_spliced (thn (h.run pos pins s σ H _ I hq) fun us s1 z => ?_)⟩
  obtain ⟨xs, H1, I1, r, l, q⟩ := z
  exact ⟨by rw [← r.length]; exact l, .ref s1.heap.objs.size, _, I1.laid (o := .lst xs) (t' := s1.toks) (fun b u e => Heap.get?_push_of_some _ e) (Nat.le_refl _) ⟨l, us, 0, r, Heap.get?_push_size _ rfl⟩, rfl, q _ _ (.mk' I1.fresh)⟩
theorem pe_tupN {c} (h : PA X es t) : PE X (.Tuple es c pos) (tTupN t) := by
  refine ⟨fun pins s σ H Q I hq => wpAny_Tuple_spliced (thn (h.run pos pins s σ H _ I hq) fun us s1 z => ?_)⟩
  obtain ⟨xs, H1, I1, r, l, q⟩ := z
  exact ⟨by rw [← r.length]; exact l, .ref s1.heap.objs.size, _, I1.laid (o := .tup xs) (t' := s1.toks) (fun b u e => Heap.get?_push_of_some _ e) (Nat.le_refl _) ⟨l, us, r, ⟨_, Heap.get?_push_size _ rfl, rfl, _, rfl⟩⟩, rfl, q _ _ (.mk' I1.fresh)⟩
theorem op_catN : OpR X (binaryOp .Add) (rCatN X.K) := fun pins s σ H x y v u Q I rx ry ⟨l, b, xs, zs, h1, h2, h3, h4, h5, q⟩ => op_cat pins s σ H x y v u Q I rx ry ⟨l, b, xs, zs, h1, h2, h3, h4, h5, fun p hp => q p _ (.mk' hp)⟩
theorem sqt_new {K : PySem.W.Frag} {H H1 : Hp} {p : Addr} {xs : List V} (n : New H p (.tup xs) H1) : SqT K H1 p xs := SqT.of n.at_
theorem op_catTN : OpR X (binaryOp .Add) (rCatTN X.K) := fun pins s σ H x y v u Q I rx ry ⟨a, b, xs, ys, h1, h2, h3, h4, h5, q⟩ => op_catA pins s σ H x y v u Q I rx ry
  ⟨a, b, xs, ys, h1, h2, h3, h4, h5, fun e => q b H (Same.refl H) (by rw [e]; exact h4), fun _ e => q a H (Same.refl H) (by rw [e, List.append_nil]; exact h3), fun _ _ p hp => q p _ (New.mk' hp).same (SqT.of upd_same)⟩
theorem sl_listN : SlR X (rSlLN X.K) := fun pins s σ H x v vl vu lo hi sl Q I rx hs pl pu ⟨a, xs, h1, h2, q⟩ => sl_list pins s σ H x v vl vu lo hi sl Q I rx hs pl pu ⟨a, xs, h1, h2, fun p hp => q p _ (.mk' hp)⟩
end
section
variable {K : PySem.W.Frag} {σ : St} {H : Hp} {Q : VK} {tr : TA} {a b p : Addr} {xs ys : List V}
theorem x_lst (q : tr σ H fun xs H1 => xs.length ≤ sizeLine ∧ ∀ p H2, New H1 p (.lst xs) H2 → Q (.ref p) H2) : tLstN tr σ H Q := q
theorem x_tup (q : tr σ H fun xs H1 => xs.length ≤ sizeLine ∧ ∀ p H2, New H1 p (.tup xs) H2 → Q (.ref p) H2) : tTupN tr σ H Q := q
theorem x_cat (h1 : H a = some (.lst xs)) (h2 : H b = some (.lst ys)) (l : xs.length + ys.length ≤ sizeLine) (q : ∀ p H2, New H p (.lst (xs ++ ys)) H2 → Q (.ref p) H2) : rCatN K (.ref a) (.ref b) H Q := ⟨a, b, xs, ys, rfl, rfl, h1, h2, l, q⟩
theorem x_catT (h1 : SqT K H a xs) (h2 : SqT K H b ys) (l : xs.length + ys.length ≤ sizeLine) (q : ∀ p H2, Same H H2 → SqT K H2 p (xs ++ ys) → Q (.ref p) H2) : rCatTN K (.ref a) (.ref b) H Q := ⟨a, b, xs, ys, rfl, rfl, h1, h2, l, q⟩
end
/-! comprehensions whose turns only make objects -/
section
variable {K : PySem.W.Frag} {σ : St} {H : Hp} {Q : VK} {a : Addr} {vs : List V} {g : TG} {tt : TT} {te : TE} {ws : List Nat} {f : V → Bool} {m : V → V}
/-- what such a comprehension keeps -/
def LcI (H : Hp) (vs : List V) (f : V → Bool) (m : V → V) (D : Addr) (i : Nat) (H' : Hp) : Prop := Same H H' ∧ H' D = some (.lst (((vs.take i).filter f).map m))
theorem lc_step {i : Nat} {x : V} (h : vs[i]? = some x) : ((vs.take (i + 1)).filter f).map m = if f x = true then ((vs.take i).filter f).map m ++ [m x] else ((vs.take i).filter f).map m := by
  rw [List.take_add_one, h]
  simp only [Option.toList, List.filter_append, List.map_append]
  cases e : f x with
  | true =>
    rw [if_pos rfl, List.filter_cons, if_pos e]
    rfl
  | false =>
    rw [if_neg Bool.false_ne_true, List.filter_cons, if_neg (by rw [e]; exact Bool.false_ne_true)]
    exact List.append_nil _
theorem lc_turn {D : Addr} {i : Nat} {x : V} {H1 : Hp} (n : H D = none) (hl : vs.length ≤ 100000) (h : vs[i]? = some x) (p : LcI H vs f m D i H1)
    (hs : ∀ (R : V → Hp → Prop) (S : Hp → Prop), (f x = true → ∀ H4, Same H1 H4 → R (m x) H4) → (f x = false → ∀ H3, Same H1 H3 → S H3) → g x (wipe σ ws) H1 fun σ2 H2 => wipe σ2 ws = wipe σ ws ∧ tt σ2 H2 fun b H3 => if b = true then te σ2 H3 R else S H3) :
    g x (wipe σ ws) H1 fun σ2 H2 => wipe σ2 ws = wipe σ ws ∧ tt σ2 H2 fun b H3 =>
      if b = true then te σ2 H3 fun y H4 => ∃ acc, H4 D = some (.lst acc) ∧ acc.length < sizeLine ∧ LcI H vs f m D (i + 1) (upd H4 D (.lst (acc ++ [y]))) else LcI H vs f m D (i + 1) H3 := by
  refine hs _ _ (fun e H4 s => ⟨_, s _ _ p.2, ?_, sameU (p.1.trans s) n, ?_⟩) (fun e H3 s => ⟨p.1.trans s, ?_⟩)
  · have h1 : (((vs.take i).filter f).map m).length ≤ vs.length := by
      rw [List.length_map]
      exact Nat.le_trans (List.length_filter_le ..) (by rw [List.length_take]; exact Nat.min_le_right _ _)
    exact Nat.lt_of_le_of_lt (Nat.le_trans h1 hl) (by decide)
  · rw [upd_same, lc_step h, if_pos e]
  · rw [lc_step h, if_neg (by rw [e]; exact Bool.false_ne_true)]
    exact s _ _ p.2
def rLcT (K : PySem.W.Frag) (g : TG) (tt : TT) (te : TE) (ws : List Nat) (σ : St) (Q : VK) (a : Addr) (H : Hp) : Prop := ∀ D, H D = none → ∃ W : Nat → Nat → Hp → Prop, (∃ n, W 0 n (upd H D (.lst []))) ∧ ∀ i n H1, W i n H1 →
      ((Itt K a).stop i H1 ∧ Q (.ref D) H1) ∨ ((Itt K a).go i H1 ∧ ∃ Nx : Hp → Prop, (∀ H', Nx H' → ∃ n', n' < n ∧ W (i + 1) n' H') ∧ ∀ x H', (Itt K a).yld i H1 x H' → g x (wipe σ ws) H' fun σ2 H2 => wipe σ2 ws = wipe σ ws ∧ tt σ2 H2 fun b H3 =>
        if b = true then te σ2 H3 fun y H4 => ∃ acc, H4 D = some (.lst acc) ∧ acc.length < sizeLine ∧ Nx (upd H4 D (.lst (acc ++ [y]))) else Nx H3)
theorem e_lcT (f : V → Bool) (m : V → V) (hx : SqT K H a vs) (hl : vs.length ≤ 100000)
    (hs : ∀ (i : Nat) x H1, vs[i]? = some x → Same H H1 → ∀ (R : V → Hp → Prop) (S : Hp → Prop), (f x = true → ∀ H4, Same H1 H4 → R (m x) H4) → (f x = false → ∀ H3, Same H1 H3 → S H3) →
      g x (wipe σ ws) H1 fun σ2 H2 => wipe σ2 ws = wipe σ ws ∧ tt σ2 H2 fun b H3 => if b = true then te σ2 H3 R else S H3)
    (k : ∀ D H', New H D (.lst ((vs.filter f).map m)) H' → Q (.ref D) H') : rLcT K g tt te ws σ Q a H := fun D n =>
  lc_tup (xs := vs) (LcI H vs f m D) ⟨(New.mk' n).same, upd_same⟩ (fun i H1 _ p => SqT.ext hx p.1) (fun i x H1 h p => lc_turn n hl h p (hs i x H1 h p.1)) fun H1 p => k D H1 ⟨n, by have := p.2; rwa [List.take_length] at this, p.1⟩
def rLcL (K : PySem.W.Frag) (g : TG) (tt : TT) (te : TE) (ws : List Nat) (σ : St) (Q : VK) (a : Addr) (H : Hp) : Prop := ∀ D, H D = none → ∃ W : Nat → Nat → Hp → Prop, (∃ n, W 0 n (upd H D (.lst []))) ∧ ∀ i n H1, W i n H1 →
      ((Itl K a).stop i H1 ∧ Q (.ref D) H1) ∨ ((Itl K a).go i H1 ∧ ∃ Nx : Hp → Prop, (∀ H', Nx H' → ∃ n', n' < n ∧ W (i + 1) n' H') ∧ ∀ x H', (Itl K a).yld i H1 x H' → g x (wipe σ ws) H' fun σ2 H2 => wipe σ2 ws = wipe σ ws ∧ tt σ2 H2 fun b H3 =>
        if b = true then te σ2 H3 fun y H4 => ∃ acc, H4 D = some (.lst acc) ∧ acc.length < sizeLine ∧ Nx (upd H4 D (.lst (acc ++ [y]))) else Nx H3)
theorem e_lcL (f : V → Bool) (m : V → V) (hx : SqL K H a vs) (hl : vs.length ≤ 100000)
    (hs : ∀ (i : Nat) x H1, vs[i]? = some x → Same H H1 → ∀ (R : V → Hp → Prop) (S : Hp → Prop), (f x = true → ∀ H4, Same H1 H4 → R (m x) H4) → (f x = false → ∀ H3, Same H1 H3 → S H3) →
      g x (wipe σ ws) H1 fun σ2 H2 => wipe σ2 ws = wipe σ ws ∧ tt σ2 H2 fun b H3 => if b = true then te σ2 H3 R else S H3)
    (k : ∀ D H', New H D (.lst ((vs.filter f).map m)) H' → Q (.ref D) H') : rLcL K g tt te ws σ Q a H := fun D n =>
  lc_list (xs := vs) (LcI H vs f m D) ⟨(New.mk' n).same, upd_same⟩ (fun i H1 _ p => SqL.ext hx p.1) (fun i x H1 h p => lc_turn n hl h p (hs i x H1 h p.1)) fun H1 p => k D H1 ⟨n, by have := p.2; rwa [List.take_length] at this, p.1⟩
theorem x_lc {wi : TI} (q : wi σ H fun J H1 => ∀ D, H1 D = none → ∃ W : Nat → Nat → Hp → Prop, (∃ m, W 0 m (upd H1 D (.lst []))) ∧ ∀ i m H, W i m H →
  (J.stop i H ∧ Q (.ref D) H) ∨ (J.go i H ∧ ∃ Nx : Hp → Prop, (∀ H', Nx H' → ∃ m', m' < m ∧ W (i + 1) m' H') ∧ ∀ x H', J.yld i H x H' → g x (wipe σ ws) H' fun σ2 H2 => wipe σ2 ws = wipe σ ws ∧ tt σ2 H2 fun b H3 =>
    if b = true then te σ2 H3 fun y H4 => ∃ acc, H4 D = some (.lst acc) ∧ acc.length < sizeLine ∧ Nx (upd H4 D (.lst (acc ++ [y]))) else Nx H3)) : tLc wi g tt te ws σ H Q := q
theorem x_lcT {te0 : TE} (q : te0 σ H fun v H1 => ∃ a, v = .ref a ∧ (∃ xs, SqT K H1 a xs) ∧ rLcT K g tt te ws σ Q a H1) : tLc (iTup K te0) g tt te ws σ H Q := q
theorem x_lcL {te0 : TE} (q : te0 σ H fun v H1 => ∃ a, v = .ref a ∧ (∃ xs, SqL K H1 a xs) ∧ rLcL K g tt te ws σ Q a H1) : tLc (iList K te0) g tt te ws σ H Q := q
end
/-! the built-ins' readings, named -/
def rLenS (K : PySem.W.Frag) : List V → Hp → VK → Prop := fun xs H Q => ∃ p ys, xs = [.ref p] ∧ (SqL K H p ys ∨ SqT K H p ys) ∧ Q (.int ys.length) H
def rInt1 : List V → Hp → VK → Prop := fun xs H Q => (∃ i, xs = [.int i] ∧ Q (.int i) H) ∨ ∃ k, xs = [.bl k] ∧ Q (.int (if k then 1 else 0)) H
def rAbs : List V → Hp → VK → Prop := fun xs H Q => ∃ i, xs = [.int i] ∧ Q (.int (if i < 0 then -i else i)) H
def rMin2 : List V → Hp → VK → Prop := fun xs H Q => ∃ i j, xs = [.int i, .int j] ∧ Q (.int (if j < i then j else i)) H
def rMax2 : List V → Hp → VK → Prop := fun xs H Q => ∃ i j, xs = [.int i, .int j] ∧ Q (.int (if j > i then j else i)) H
def rListOf (K : PySem.W.Frag) : List V → Hp → VK → Prop := fun xs H Q => ∃ p ys, xs = [.ref p] ∧ (SqL K H p ys ∨ SqT K H p ys) ∧ ∀ l, H l = none → Q (.ref l) (upd H l (.lst ys))
def rTupOf (K : PySem.W.Frag) : List V → Hp → VK → Prop := fun xs H Q => ∃ p ys, xs = [.ref p] ∧ ((SqL K H p ys ∧ ∀ l, H l = none → Q (.ref l) (upd H l (.tup ys))) ∨ (SqT K H p ys ∧ Q (.ref p) H))
section
variable {X : Cx}
theorem call_lenS : CallR X (.builtin "len") (rLenS X.K) := call_len_seq
theorem call_intS : CallR X (.type "int") rInt1 := call_int1
theorem call_absS : CallR X (.builtin "abs") rAbs := call_abs
theorem call_minS (hc : X.calm = true) : CallR X (.builtin "min") rMin2 := call_min2 hc
theorem call_maxS (hc : X.calm = true) : CallR X (.builtin "max") rMax2 := call_max2 hc
theorem call_listS : CallR X (.type "list") (rListOf X.K) := call_list_of
theorem call_tupS : CallR X (.type "tuple") (rTupOf X.K) := call_tuple_of
end
section
variable {K : PySem.W.Frag} {H : Hp} {Q : VK} {p : Addr} {xs : List V}
theorem x_lenS (h : SqL K H p xs ∨ SqT K H p xs) (q : Q (.int xs.length) H) : rLenS K [.ref p] H Q := ⟨p, xs, rfl, h, q⟩
theorem x_intS {n : Int} (q : Q (.int n) H) : rInt1 [.int n] H Q := .inl ⟨n, rfl, q⟩
theorem x_absS {n : Int} (q : Q (.int (if n < 0 then -n else n)) H) : rAbs [.int n] H Q := ⟨n, rfl, q⟩
theorem x_minS {m n : Int} (q : Q (.int (if n < m then n else m)) H) : rMin2 [.int m, .int n] H Q := ⟨m, n, rfl, q⟩
theorem x_maxS {m n : Int} (q : Q (.int (if n > m then n else m)) H) : rMax2 [.int m, .int n] H Q := ⟨m, n, rfl, q⟩
theorem x_listS (h : SqL K H p xs ∨ SqT K H p xs) (q : ∀ l H', New H l (.lst xs) H' → Q (.ref l) H') : rListOf K [.ref p] H Q := ⟨p, xs, rfl, h, x_new q⟩
theorem x_tupL (h : SqL K H p xs) (q : ∀ l H', New H l (.tup xs) H' → Q (.ref l) H') : rTupOf K [.ref p] H Q := ⟨p, xs, rfl, .inl ⟨h, x_new q⟩⟩
theorem x_tupT (h : SqT K H p xs) (q : Q (.ref p) H) : rTupOf K [.ref p] H Q := ⟨p, xs, rfl, .inr ⟨h, q⟩⟩
end
/-! isinstance -/
section
variable {K : PySem.W.Frag} {H : Hp} {Q : VK} {p : Addr} {xs : List V}
theorem x_isi {x : V} {a b : String} {r : Bool} (ty : TyOf K H x (.type a)) (h : kitB a b = some r) (q : Q (.bl r) H) : rIsi K [x, .ty b] H Q := ⟨x, .ty b, .type a, .type b, r, rfl, .ty b, .base ty, kit_ty h, q⟩
theorem x_isiII {n : Int} (q : Q (.bl true) H) : rIsi K [.int n, .ty "int"] H Q := x_isi (.int n) (by decide +kernel) q
theorem x_isiIB {n : Int} (q : Q (.bl false) H) : rIsi K [.int n, .ty "bool"] H Q := x_isi (.int n) (by decide +kernel) q
theorem x_isiBB {n : Bool} (q : Q (.bl true) H) : rIsi K [.bl n, .ty "bool"] H Q := x_isi (.bl n) (by decide +kernel) q
theorem x_isiSS {n : Str} (q : Q (.bl true) H) : rIsi K [.str n, .ty "str"] H Q := x_isi (.str n) (by decide +kernel) q
theorem x_isiTT (h : H p = some (.tup xs)) (q : Q (.bl true) H) : rIsi K [.ref p, .ty "tuple"] H Q := x_isi (.tup h) (by decide +kernel) q
theorem x_isiLL (h : H p = some (.lst xs)) (q : Q (.bl true) H) : rIsi K [.ref p, .ty "list"] H Q := x_isi (.lst h) (by decide +kernel) q
end
/-! rules with the written part named -/
section
variable {X : Cx} {K : PySem.W.Frag}
theorem pe_fldK {e : Expr} {f : Str} {pos : Pos} {ta : TE} (he : PE X e ta) (hb : attributeBase e f X.env (eval e X.env) = eval e X.env := by rfl) (hK : X.K = K := by rfl) : PE X (.Attribute e f pos) (tFld K ta f) := by
  subst hK
  exact pe_fld he hb
theorem ps_fldK {e o : Expr} {f : Str} {p pos : Pos} {te to : TE} (ho : PE X o to) (he : PE X e te) (hs : swapsWith e (some (.Attribute o f p)) pos.line X.env = pure false := by rfl) (hK : X.K = K := by rfl) : PS X (.Assign [.Attribute o f p] e pos) (sFld K to te f) := by
  subst hK
  exact ps_fld ho he hs
theorem op_inK (hK : X.K = K := by rfl) : OpR X (compareOp .In) (rIn K false) := by subst hK; exact op_in_seq
theorem op_notInK (hK : X.K = K := by rfl) : OpR X (compareOp .NotIn) (rIn K true) := by subst hK; exact op_notIn_seq
theorem ix_listK (hK : X.K = K := by rfl) : IxR X (rIxL K) := by subst hK; exact ix_list
theorem ix_tupK (hK : X.K = K := by rfl) : IxR X (rIxT K) := by subst hK; exact ix_tup
theorem op_eqDK (hu : X.A.units + 64 < cLine) (hK : X.K = K := by rfl) : OpR X (compareOp .Eq) (rEqD K) := by subst hK; exact op_eqD hu
theorem op_neDK (hu : X.A.units + 64 < cLine) (hK : X.K = K := by rfl) : OpR X (compareOp .NotEq) (rNeD K) := by subst hK; exact op_neD hu
theorem op_catNK (hK : X.K = K := by rfl) : OpR X (binaryOp .Add) (rCatN K) := by subst hK; exact op_catN
theorem op_catTNK (hK : X.K = K := by rfl) : OpR X (binaryOp .Add) (rCatTN K) := by subst hK; exact op_catTN
theorem sl_listNK (hK : X.K = K := by rfl) : SlR X (rSlLN K) := by subst hK; exact sl_listN
theorem call_lenK (hK : X.K = K := by rfl) : CallR X (.builtin "len") (rLenS K) := by subst hK; exact call_lenS
theorem call_listK (hK : X.K = K := by rfl) : CallR X (.type "list") (rListOf K) := by subst hK; exact call_listS
theorem call_tupK (hK : X.K = K := by rfl) : CallR X (.type "tuple") (rTupOf K) := by subst hK; exact call_tupS
theorem pi_listK {tg e : Expr} {tl : TE} (he : PE X e tl) (hK : X.K = K := by rfl) : PI X tg e (iList K tl) := by subst hK; exact pi_list he
theorem pi_tupK {tg e : Expr} {tl : TE} (he : PE X e tl) (hK : X.K = K := by rfl) : PI X tg e (iTup K tl) := by subst hK; exact pi_tup he
theorem pe_truthK {a : Expr} {ta : TE} (ha : PE X a ta) (he : ∀ whole, isTrue a X.env whole = (do let v ← whole; standAt a.pos; holding [v] (truthy v)) := by intro _; rfl) (hK : X.K = K := by rfl) :
    PT X a (fun σ H Q => ta σ H fun x H' => ∃ k, TruV K x H' k ∧ Q k H') := by subst hK; exact pt_truth ha he
end
end L2.Au

set_option Elab.async false
set_option linter.all false
set_option maxRecDepth 100000
set_option maxHeartbeats 4000000
namespace K63
open PySem PySem.Spec PyProof.Rows L2 L2.Au Asc63
/-- the steps that need no thought -/
local macro_rules | `(tactic| walk_at "go") => `(tactic| ((repeat (first
  | ((with_reducible apply x_var); exact rfl)
  | (with_reducible refine x_c ?_)
  | (with_reducible refine x_op ?_)
  | (with_reducible refine x_un ?_)
  | (with_reducible refine x_i0 ?_)
  | (with_reducible refine x_u ?_)
  | (with_reducible refine x_eqI ?_)
  | (with_reducible refine x_neI ?_)
  | (with_reducible refine x_eqS ?_)
  | (with_reducible refine x_neS ?_)
  | (with_reducible refine x_eqB ?_)
  | (with_reducible refine x_neB ?_)
  | (with_reducible refine x_test ?_)
  | (with_reducible refine x_tB ?_)
  | (with_reducible refine x_k ?_)
  | (with_reducible refine x_not ?_)
  | (with_reducible refine x_and ?_)
  | (with_reducible refine x_or ?_)
  | (with_reducible refine x_andV ?_)
  | (with_reducible refine x_orV ?_)
  | (with_reducible refine x_notV ?_)
  | (with_reducible refine x_if ?_)
  | (with_reducible refine x_ifT ?_)
  | (with_reducible refine x_ifF ?_)
  | (with_reducible refine x_nil ?_)
  | (with_reducible refine x_cons ?_)
  | (with_reducible refine x_cb ?_)
  | (with_reducible refine x_call ?_)
  | (with_reducible refine x_seq ?_)
  | (with_reducible refine x_lcT ?_)
  | (with_reducible refine x_lcL ?_)
  | (with_reducible refine x_next ?_)
  | (with_reducible refine x_asg ?_)
  | (with_reducible refine x_name ?_)
  | (with_reducible refine x_sub ?_)
  | (with_reducible refine x_drop ?_)
  | (with_reducible refine x_ret ?_)
  | (with_reducible refine x_retN ?_)
  | (with_reducible refine x_ifS ?_)
  | (with_reducible refine x_intS ?_)
  | (with_reducible refine x_absS ?_)
  | (with_reducible refine x_minS ?_)
  | (with_reducible refine x_maxS ?_)
  | (with_reducible refine x_fld ?_)
  | (with_reducible refine x_bm ?_)
  | (with_reducible refine x_for ?_)
  | (with_reducible refine x_lc ?_)
  | (with_reducible refine x_ifNT ?_)
  | (with_reducible refine x_ifNF ?_)
  | (with_reducible refine x_sfld ?_)
  | (with_reducible refine x_make ?_)
  | (with_reducible refine x_meth ?_)
  | (with_reducible refine x_sl ?_)
  | (with_reducible refine x_noPart ?_)
  | (with_reducible refine x_part ?_)
  | (with_reducible refine x_kI ?_)
  | (with_reducible refine x_iR1 ?_)
  | (with_reducible refine x_iL ?_)
  | (with_reducible refine x_iT ?_)
  | (with_reducible refine x_lst ?_)
  | (with_reducible refine x_tup ?_)
  | (with_reducible refine OwR.x_smeth ?_)
  | (with_reducible refine OwR.x_listRev ?_)
  | (with_reducible refine x_isiII ?_)
  | (with_reducible refine x_isiIB ?_)
  | (with_reducible refine x_isiBB ?_)
  | (with_reducible refine x_isiSS ?_)
  | ((with_reducible apply x_ixL); (first | assumption | exact SqL.of (by assumption)); exact rfl)
  | ((with_reducible apply x_ixT); assumption; exact rfl)
  | ((with_reducible apply x_lenS); (first | assumption | exact Or.inl (SqL.of (by assumption)) | exact Or.inl (by assumption) | exact Or.inr (by assumption) | exact Or.inr (SqT.of (by assumption)))))); try dsimp only [List.set]))
local macro_rules | `(tactic| walk_at "st") => `(tactic| dsimp only [cxOf, L2.start, List.map, List.length, Nat.reduceAdd, Nat.reduceSub, List.replicate, List.cons_append, List.nil_append])
def topS (i : Nat) : Stmt := PySem.Challenge.pw_codefromcode_k63_marks_are_sets.main.body.getD i (.Pass ⟨0, 0, 0, 0⟩)
abbrev s_Marks__init : Stmt := inClass (topS 1) 0
abbrev s_Marks_of : Stmt := inClass (topS 1) 1
abbrev s_Marks__or : Stmt := inClass (topS 1) 2
abbrev s_Marks__sub : Stmt := inClass (topS 1) 3
abbrev s_Marks__eq : Stmt := inClass (topS 1) 4
abbrev s_Marks__len : Stmt := inClass (topS 1) 5
abbrev s_Marks__contains : Stmt := inClass (topS 1) 6
abbrev s_Marks__iter : Stmt := inClass (topS 1) 7
abbrev s_Marks_within : Stmt := inClass (topS 1) 8
abbrev s_law_draws : Stmt := topS 3
abbrev s_law_pick : Stmt := topS 4
abbrev s_law_lot : Stmt := topS 5
abbrev s_law_near : Stmt := topS 6
abbrev s_law_set : Stmt := topS 7
abbrev s_law_less : Stmt := topS 8
abbrev s_law_flag : Stmt := topS 9
abbrev s_law_is : Stmt := topS 10
abbrev s_law_pair : Stmt := topS 11
abbrev s_law_of : Stmt := topS 12
abbrev s_law_walked : Stmt := topS 13
abbrev s_law : Stmt := topS 14
theorem sc_Marks__init : FnScope ["self", "lines"] ["self", "lines"] (defScope s_Marks__init) := ⟨rfl, rfl, rfl, by decide +kernel, rfl, by decide +kernel, by decide +kernel⟩
theorem sc_Marks_of : FnScope ["lines"] ["lines"] (defScope s_Marks_of) := ⟨rfl, rfl, rfl, by decide +kernel, rfl, by decide +kernel, by decide +kernel⟩
theorem sc_Marks__or : FnScope ["self", "other"] ["self", "other"] (defScope s_Marks__or) := ⟨rfl, rfl, rfl, by decide +kernel, rfl, by decide +kernel, by decide +kernel⟩
theorem sc_Marks__sub : FnScope ["self", "other", "line"] ["self", "other"] (defScope s_Marks__sub) := ⟨rfl, rfl, rfl, by decide +kernel, rfl, by decide +kernel, by decide +kernel⟩
theorem sc_Marks__eq : FnScope ["self", "other"] ["self", "other"] (defScope s_Marks__eq) := ⟨rfl, rfl, rfl, by decide +kernel, rfl, by decide +kernel, by decide +kernel⟩
theorem sc_Marks__len : FnScope ["self"] ["self"] (defScope s_Marks__len) := ⟨rfl, rfl, rfl, by decide +kernel, rfl, by decide +kernel, by decide +kernel⟩
theorem sc_Marks__contains : FnScope ["self", "line"] ["self", "line"] (defScope s_Marks__contains) := ⟨rfl, rfl, rfl, by decide +kernel, rfl, by decide +kernel, by decide +kernel⟩
theorem sc_Marks__iter : FnScope ["self"] ["self"] (defScope s_Marks__iter) := ⟨rfl, rfl, rfl, by decide +kernel, rfl, by decide +kernel, by decide +kernel⟩
theorem sc_Marks_within : FnScope ["self", "other", "line"] ["self", "other"] (defScope s_Marks_within) := ⟨rfl, rfl, rfl, by decide +kernel, rfl, by decide +kernel, by decide +kernel⟩
theorem sc_law_draws : FnScope ["script", "feed", "seed", "at", "cell", "k"] ["script"] (defScope s_law_draws) := ⟨rfl, rfl, rfl, by decide +kernel, rfl, by decide +kernel, by decide +kernel⟩
theorem sc_law_pick : FnScope ["draws", "many", "at"] ["draws", "many"] (defScope s_law_pick) := ⟨rfl, rfl, rfl, by decide +kernel, rfl, by decide +kernel, by decide +kernel⟩
theorem sc_law_lot : FnScope ["draws", "many", "wide", "made", "k", "one"] ["draws"] (defScope s_law_lot) := ⟨rfl, rfl, rfl, by decide +kernel, rfl, by decide +kernel, by decide +kernel⟩
theorem sc_law_near : FnScope ["draws", "lot", "made", "at"] ["draws", "lot"] (defScope s_law_near) := ⟨rfl, rfl, rfl, by decide +kernel, rfl, by decide +kernel, by decide +kernel⟩
theorem sc_law_set : FnScope ["lot", "made", "one"] ["lot"] (defScope s_law_set) := ⟨rfl, rfl, rfl, by decide +kernel, rfl, by decide +kernel, by decide +kernel⟩
theorem sc_law_less : FnScope ["one", "two", "item"] ["one", "two"] (defScope s_law_less) := ⟨rfl, rfl, rfl, by decide +kernel, rfl, by decide +kernel, by decide +kernel⟩
theorem sc_law_flag : FnScope ["actual", "due"] ["actual", "due"] (defScope s_law_flag) := ⟨rfl, rfl, rfl, by decide +kernel, rfl, by decide +kernel, by decide +kernel⟩
theorem sc_law_is : FnScope ["marks", "due", "told", "walked", "at", "item"] ["marks", "due"] (defScope s_law_is) := ⟨rfl, rfl, rfl, by decide +kernel, rfl, by decide +kernel, by decide +kernel⟩
theorem sc_law_pair : FnScope ["first", "second", "one", "two"] ["first", "second", "one", "two"] (defScope s_law_pair) := ⟨rfl, rfl, rfl, by decide +kernel, rfl, by decide +kernel, by decide +kernel⟩
theorem sc_law_of : FnScope ["lot"] ["lot"] (defScope s_law_of) := ⟨rfl, rfl, rfl, by decide +kernel, rfl, by decide +kernel, by decide +kernel⟩
theorem sc_law_walked : FnScope ["marks", "lot", "item", "near"] ["marks", "lot"] (defScope s_law_walked) := ⟨rfl, rfl, rfl, by decide +kernel, rfl, by decide +kernel, by decide +kernel⟩
theorem sc_law : FnScope ["script", "draws", "lot", "other", "one", "two", "given", "first", "second", "again", "joined", "apart", "empty"] ["script"] (defScope s_law) := ⟨rfl, rfl, rfl, by decide +kernel, rfl, by decide +kernel, by decide +kernel⟩
structure Ctx (K : PySem.W.Frag) (mg : Str → Option Value) where
  f_Marks__init : Addr
  fd_Marks__init : FuncData
  F_Marks__init : Fun K "__init__" "Marks.__init__" s_Marks__init f_Marks__init fd_Marks__init
  b_Marks__init : Binds K fd_Marks__init ["self", "lines"] []
  f_Marks_of : Addr
  fd_Marks_of : FuncData
  F_Marks_of : Fun K "of" "Marks.of" s_Marks_of f_Marks_of fd_Marks_of
  f_Marks__or : Addr
  fd_Marks__or : FuncData
  F_Marks__or : Fun K "__or__" "Marks.__or__" s_Marks__or f_Marks__or fd_Marks__or
  b_Marks__or : Binds K fd_Marks__or ["self", "other"] []
  f_Marks__sub : Addr
  fd_Marks__sub : FuncData
  F_Marks__sub : Fun K "__sub__" "Marks.__sub__" s_Marks__sub f_Marks__sub fd_Marks__sub
  b_Marks__sub : Binds K fd_Marks__sub ["self", "other"] []
  f_Marks__eq : Addr
  fd_Marks__eq : FuncData
  F_Marks__eq : Fun K "__eq__" "Marks.__eq__" s_Marks__eq f_Marks__eq fd_Marks__eq
  b_Marks__eq : Binds K fd_Marks__eq ["self", "other"] []
  f_Marks__len : Addr
  fd_Marks__len : FuncData
  F_Marks__len : Fun K "__len__" "Marks.__len__" s_Marks__len f_Marks__len fd_Marks__len
  b_Marks__len : Binds K fd_Marks__len ["self"] []
  f_Marks__contains : Addr
  fd_Marks__contains : FuncData
  F_Marks__contains : Fun K "__contains__" "Marks.__contains__" s_Marks__contains f_Marks__contains fd_Marks__contains
  b_Marks__contains : Binds K fd_Marks__contains ["self", "line"] []
  f_Marks__iter : Addr
  fd_Marks__iter : FuncData
  F_Marks__iter : Fun K "__iter__" "Marks.__iter__" s_Marks__iter f_Marks__iter fd_Marks__iter
  b_Marks__iter : Binds K fd_Marks__iter ["self"] []
  f_Marks_within : Addr
  fd_Marks_within : FuncData
  F_Marks_within : Fun K "within" "Marks.within" s_Marks_within f_Marks_within fd_Marks_within
  b_Marks_within : Binds K fd_Marks_within ["self", "other"] []
  f_law_draws : Addr
  fd_law_draws : FuncData
  F_law_draws : Fun K "_law_draws" "_law_draws" s_law_draws f_law_draws fd_law_draws
  b_law_draws : Binds K fd_law_draws ["script"] []
  g_law_draws : mg "_law_draws" = some (.ref f_law_draws)
  f_law_pick : Addr
  fd_law_pick : FuncData
  F_law_pick : Fun K "_law_pick" "_law_pick" s_law_pick f_law_pick fd_law_pick
  b_law_pick : Binds K fd_law_pick ["draws", "many"] []
  g_law_pick : mg "_law_pick" = some (.ref f_law_pick)
  f_law_lot : Addr
  fd_law_lot : FuncData
  F_law_lot : Fun K "_law_lot" "_law_lot" s_law_lot f_law_lot fd_law_lot
  b_law_lot : Binds K fd_law_lot ["draws"] []
  g_law_lot : mg "_law_lot" = some (.ref f_law_lot)
  f_law_near : Addr
  fd_law_near : FuncData
  F_law_near : Fun K "_law_near" "_law_near" s_law_near f_law_near fd_law_near
  b_law_near : Binds K fd_law_near ["draws", "lot"] []
  g_law_near : mg "_law_near" = some (.ref f_law_near)
  f_law_set : Addr
  fd_law_set : FuncData
  F_law_set : Fun K "_law_set" "_law_set" s_law_set f_law_set fd_law_set
  b_law_set : Binds K fd_law_set ["lot"] []
  g_law_set : mg "_law_set" = some (.ref f_law_set)
  f_law_less : Addr
  fd_law_less : FuncData
  F_law_less : Fun K "_law_less" "_law_less" s_law_less f_law_less fd_law_less
  b_law_less : Binds K fd_law_less ["one", "two"] []
  g_law_less : mg "_law_less" = some (.ref f_law_less)
  f_law_flag : Addr
  fd_law_flag : FuncData
  F_law_flag : Fun K "_law_flag" "_law_flag" s_law_flag f_law_flag fd_law_flag
  b_law_flag : Binds K fd_law_flag ["actual", "due"] []
  g_law_flag : mg "_law_flag" = some (.ref f_law_flag)
  f_law_is : Addr
  fd_law_is : FuncData
  F_law_is : Fun K "_law_is" "_law_is" s_law_is f_law_is fd_law_is
  b_law_is : Binds K fd_law_is ["marks", "due"] []
  g_law_is : mg "_law_is" = some (.ref f_law_is)
  f_law_pair : Addr
  fd_law_pair : FuncData
  F_law_pair : Fun K "_law_pair" "_law_pair" s_law_pair f_law_pair fd_law_pair
  b_law_pair : Binds K fd_law_pair ["first", "second", "one", "two"] []
  g_law_pair : mg "_law_pair" = some (.ref f_law_pair)
  f_law_of : Addr
  fd_law_of : FuncData
  F_law_of : Fun K "_law_of" "_law_of" s_law_of f_law_of fd_law_of
  b_law_of : Binds K fd_law_of ["lot"] []
  g_law_of : mg "_law_of" = some (.ref f_law_of)
  f_law_walked : Addr
  fd_law_walked : FuncData
  F_law_walked : Fun K "_law_walked" "_law_walked" s_law_walked f_law_walked fd_law_walked
  b_law_walked : Binds K fd_law_walked ["marks", "lot"] []
  g_law_walked : mg "_law_walked" = some (.ref f_law_walked)
  f_law : Addr
  fd_law : FuncData
  F_law : Fun K "law" "law" s_law f_law fd_law
  b_law : Binds K fd_law ["script"] []
  g_law : mg "law" = some (.ref f_law)
  c_Marks : Addr
  g_Marks : mg "Marks" = some (.ref c_Marks)
  cl_Marks : Cls K c_Marks
  na_Marks_lines : NoAttr K c_Marks "lines"
  ic_Marks : C8.InsC K c_Marks
  sf_Marks : PySem.W.selfFirst K c_Marks = true
  m_Marks : Mk K c_Marks f_Marks__init
  mc_Marks : Value
  p_Marks_of : Addr
  cr_Marks : ClX.CRead K c_Marks mc_Marks
  sm_Marks_of : OwR.SMet K c_Marks mc_Marks "of" p_Marks_of f_Marks_of
  s_Marks__or : OwR.Sm K c_Marks "__or__" f_Marks__or
  s_Marks__sub : OwR.Sm K c_Marks "__sub__" f_Marks__sub
  s_Marks__eq : OwR.Sm K c_Marks "__eq__" f_Marks__eq
  s_Marks__len : OwR.Sm K c_Marks "__len__" f_Marks__len
  s_Marks__contains : OwR.Sm K c_Marks "__contains__" f_Marks__contains
  s_Marks__iter : OwR.Sm K c_Marks "__iter__" f_Marks__iter
  me_Marks_within : Meth K c_Marks "within" f_Marks_within
  z_abs : mg "abs" = none
  z_bool : mg "bool" = none
  z_int : mg "int" = none
  z_isinstance : mg "isinstance" = none
  z_iter : mg "iter" = none
  z_len : mg "len" = none
  z_list : mg "list" = none
  z_min : mg "min" = none
  z_range : mg "range" = none
  z_reversed : mg "reversed" = none
  z_set : mg "set" = none
  z_sorted : mg "sorted" = none
  z_tuple : mg "tuple" = none
end K63
set_option Elab.async false
set_option linter.all false
set_option maxRecDepth 100000
set_option maxHeartbeats 4000000
namespace K63
open PySem PySem.Spec PyProof.Rows L2 L2.Au Asc63
/-- the steps that need no thought -/
local macro_rules | `(tactic| walk_at "go") => `(tactic| ((repeat (first
  | ((with_reducible apply x_var); exact rfl)
  | (with_reducible refine x_c ?_)
  | (with_reducible refine x_op ?_)
  | (with_reducible refine x_un ?_)
  | (with_reducible refine x_i0 ?_)
  | (with_reducible refine x_u ?_)
  | (with_reducible refine x_eqI ?_)
  | (with_reducible refine x_neI ?_)
  | (with_reducible refine x_eqS ?_)
  | (with_reducible refine x_neS ?_)
  | (with_reducible refine x_eqB ?_)
  | (with_reducible refine x_neB ?_)
  | (with_reducible refine x_test ?_)
  | (with_reducible refine x_tB ?_)
  | (with_reducible refine x_k ?_)
  | (with_reducible refine x_not ?_)
  | (with_reducible refine x_and ?_)
  | (with_reducible refine x_or ?_)
  | (with_reducible refine x_andV ?_)
  | (with_reducible refine x_orV ?_)
  | (with_reducible refine x_notV ?_)
  | (with_reducible refine x_if ?_)
  | (with_reducible refine x_ifT ?_)
  | (with_reducible refine x_ifF ?_)
  | (with_reducible refine x_nil ?_)
  | (with_reducible refine x_cons ?_)
  | (with_reducible refine x_cb ?_)
  | (with_reducible refine x_call ?_)
  | (with_reducible refine x_seq ?_)
  | (with_reducible refine x_lcT ?_)
  | (with_reducible refine x_lcL ?_)
  | (with_reducible refine x_next ?_)
  | (with_reducible refine x_asg ?_)
  | (with_reducible refine x_name ?_)
  | (with_reducible refine x_sub ?_)
  | (with_reducible refine x_drop ?_)
  | (with_reducible refine x_ret ?_)
  | (with_reducible refine x_retN ?_)
  | (with_reducible refine x_ifS ?_)
  | (with_reducible refine x_intS ?_)
  | (with_reducible refine x_absS ?_)
  | (with_reducible refine x_minS ?_)
  | (with_reducible refine x_maxS ?_)
  | (with_reducible refine x_fld ?_)
  | (with_reducible refine x_bm ?_)
  | (with_reducible refine x_for ?_)
  | (with_reducible refine x_lc ?_)
  | (with_reducible refine x_ifNT ?_)
  | (with_reducible refine x_ifNF ?_)
  | (with_reducible refine x_sfld ?_)
  | (with_reducible refine x_make ?_)
  | (with_reducible refine x_meth ?_)
  | (with_reducible refine x_sl ?_)
  | (with_reducible refine x_noPart ?_)
  | (with_reducible refine x_part ?_)
  | (with_reducible refine x_kI ?_)
  | (with_reducible refine x_iR1 ?_)
  | (with_reducible refine x_iL ?_)
  | (with_reducible refine x_iT ?_)
  | (with_reducible refine x_lst ?_)
  | (with_reducible refine x_tup ?_)
  | (with_reducible refine OwR.x_smeth ?_)
  | (with_reducible refine OwR.x_listRev ?_)
  | (with_reducible refine x_isiII ?_)
  | (with_reducible refine x_isiIB ?_)
  | (with_reducible refine x_isiBB ?_)
  | (with_reducible refine x_isiSS ?_)
  | ((with_reducible apply x_ixL); (first | assumption | exact SqL.of (by assumption)); exact rfl)
  | ((with_reducible apply x_ixT); assumption; exact rfl)
  | ((with_reducible apply x_lenS); (first | assumption | exact Or.inl (SqL.of (by assumption)) | exact Or.inl (by assumption) | exact Or.inr (by assumption) | exact Or.inr (SqT.of (by assumption)))))); try dsimp only [List.set]))
local macro_rules | `(tactic| walk_at "st") => `(tactic| dsimp only [cxOf, L2.start, List.map, List.length, Nat.reduceAdd, Nat.reduceSub, List.replicate, List.cons_append, List.nil_append])
/-- the draws at d: a list of a place, the list of the digits, a seed -/
def Draws (H : Hp) (d f : Addr) : Prop := ∃ (at_ sd : Int) (fs : List Int), H d = some (.lst [.int at_, .ref f, .int sd]) ∧ H f = some (.lst (fs.map V.int)) ∧ f ≠ d ∧ 0 ≤ at_ ∧ (∀ x ∈ fs, 0 ≤ x) ∧ 0 ≤ sd ∧ sd ≤ 2147483647
def spPick : Sp := fun vs H Q _ => ∃ (d f : Addr) (n : Int), vs = [.ref d, .int n] ∧ Draws H d f ∧ 0 < n ∧ ∀ (r : Int) (H' : Hp), 0 ≤ r → r < n → Kp d H H' → Draws H' d f → Q (.int r) H'
section
variable {P : Program} {w : World} {K : PySem.W.Frag} {mg : Str → Option Value} {base : Heap}
theorem ok_law_pick (T : Ctx K mg) : FnOk P w K mg base CX0 1 T.f_law_pick T.fd_law_pick ["draws", "many"] spPick := by
  refine T.F_law_pick.ok sc_law_pick (fun vs H Q E h => ?_) (fun cdv A outer s H vs Q E hr h => ?_)
  · obtain ⟨d, f, n, rfl, _⟩ := h
    rfl
  · obtain ⟨d, f, n, rfl, ⟨at_, sd, fs, hd, hf, nf, a0, f0, s0, s1⟩, n0, k⟩ := h
    refine ⟨_, (pss_cons (ps_set (i := 2) sc_law_pick.nd rfl (Or.inl rfl) (pe_ix (Au.ix_listK (K := K)) (pv 0) pe_int (fun _ _ => rfl)))
        (pss_cons (ps_asg (pe_op op_add (pv 2) pe_int) (pg_sub (pv 0) pe_int set_list))
        (pss_cons (ps_if (pt_cmpR op_lt (pv 2) (pe_callB (Au.call_lenK (K := K)) (by rfl) T.z_len (by decide +kernel) (pa_cons (pe_ix (Au.ix_listK (K := K)) (pv 0) pe_int (fun _ _ => rfl)) pa_nil)) (by rfl)) (pss_one (ps_ret (pe_op op_mod (pe_callTy Au.call_intS (by rfl) T.z_int (by decide +kernel) (pa_cons (pe_ix (Au.ix_listK (K := K)) (pe_ix (Au.ix_listK (K := K)) (pv 0) pe_int (fun _ _ => rfl)) (pv 2) (fun _ _ => rfl)) pa_nil)) (pv 1)))) pss_nil)
        (pss_cons (ps_asg (pe_op op_mod (pe_callTy Au.call_intS (by rfl) T.z_int (by decide +kernel) (pa_cons (pe_op op_add (pe_op op_mul (pe_ix (Au.ix_listK (K := K)) (pv 0) pe_int (fun _ _ => rfl)) pe_int) pe_int) pa_nil)) pe_int) (pg_sub (pv 0) pe_int set_list))
        (pss_one (ps_ret (pe_op op_mod (pe_callTy Au.call_intS (by rfl) T.z_int (by decide +kernel) (pa_cons (pe_op op_fdiv (pe_ix (Au.ix_listK (K := K)) (pv 0) pe_int (fun _ _ => rfl)) pe_int) pa_nil)) (pv 1)))))))), ?_⟩
    walk_at "st"
    walk_at "go"
    refine x_setM (j := 0) hd rfl fun H1 k1 d1 => ?_
    dsimp only [List.set] at d1
    have f1 := k1 f _ nf hf
    walk_at "go"
    refine x_ifD (fun lt => ?_) (fun ge => ?_)
    · walk_at "go"
      obtain ⟨x, mx, _, ex⟩ := at_int a0 lt
      refine x_ixL (SqL.of f1) ex ?_
      walk_at "go"
      refine x_i n0 (k _ H1 (Int.emod_nonneg _ (by omega)) (Int.emod_lt_of_pos _ n0) k1 ⟨_, sd, fs, d1, f1, nf, by omega, f0, s0, s1⟩)
    · walk_at "go"
      refine x_i (.inl ⟨by omega, by omega⟩) ?_
      walk_at "go"
      refine x_i (by decide) ?_
      walk_at "go"
      refine x_setM (j := 2) d1 rfl fun H2 k2 d2 => ?_
      dsimp only [List.set] at d2
      walk_at "go"
      refine x_i ⟨by decide, by decide⟩ ?_
      walk_at "go"
      refine x_i n0 (k _ H2 (Int.emod_nonneg _ (by omega)) (Int.emod_lt_of_pos _ n0) (k1.trans k2) ⟨_, _, fs, d2, k2 f _ nf f1, nf, by omega, f0, Int.emod_nonneg _ (by decide), ?_⟩)
      have := Int.emod_lt_of_pos (sd * 48271 + 11) (show (0 : Int) < 2147483647 by decide)
      omega
end
end K63
set_option Elab.async false
set_option linter.all false
set_option maxRecDepth 100000
set_option maxHeartbeats 4000000
namespace K63
open PySem PySem.Spec PyProof.Rows L2 L2.Au Asc63
/-- the steps that need no thought -/
local macro_rules | `(tactic| walk_at "go") => `(tactic| ((repeat (first
  | ((with_reducible apply x_var); exact rfl)
  | (with_reducible refine x_c ?_)
  | (with_reducible refine x_op ?_)
  | (with_reducible refine x_un ?_)
  | (with_reducible refine x_i0 ?_)
  | (with_reducible refine x_u ?_)
  | (with_reducible refine x_eqI ?_)
  | (with_reducible refine x_neI ?_)
  | (with_reducible refine x_eqS ?_)
  | (with_reducible refine x_neS ?_)
  | (with_reducible refine x_eqB ?_)
  | (with_reducible refine x_neB ?_)
  | (with_reducible refine x_test ?_)
  | (with_reducible refine x_tB ?_)
  | (with_reducible refine x_k ?_)
  | (with_reducible refine x_not ?_)
  | (with_reducible refine x_and ?_)
  | (with_reducible refine x_or ?_)
  | (with_reducible refine x_andV ?_)
  | (with_reducible refine x_orV ?_)
  | (with_reducible refine x_notV ?_)
  | (with_reducible refine x_if ?_)
  | (with_reducible refine x_ifT ?_)
  | (with_reducible refine x_ifF ?_)
  | (with_reducible refine x_nil ?_)
  | (with_reducible refine x_cons ?_)
  | (with_reducible refine x_cb ?_)
  | (with_reducible refine x_call ?_)
  | (with_reducible refine x_seq ?_)
  | (with_reducible refine x_lcT ?_)
  | (with_reducible refine x_lcL ?_)
  | (with_reducible refine x_next ?_)
  | (with_reducible refine x_asg ?_)
  | (with_reducible refine x_name ?_)
  | (with_reducible refine x_sub ?_)
  | (with_reducible refine x_drop ?_)
  | (with_reducible refine x_ret ?_)
  | (with_reducible refine x_retN ?_)
  | (with_reducible refine x_ifS ?_)
  | (with_reducible refine x_intS ?_)
  | (with_reducible refine x_absS ?_)
  | (with_reducible refine x_minS ?_)
  | (with_reducible refine x_maxS ?_)
  | (with_reducible refine x_fld ?_)
  | (with_reducible refine x_bm ?_)
  | (with_reducible refine x_for ?_)
  | (with_reducible refine x_lc ?_)
  | (with_reducible refine x_ifNT ?_)
  | (with_reducible refine x_ifNF ?_)
  | (with_reducible refine x_sfld ?_)
  | (with_reducible refine x_make ?_)
  | (with_reducible refine x_meth ?_)
  | (with_reducible refine x_sl ?_)
  | (with_reducible refine x_noPart ?_)
  | (with_reducible refine x_part ?_)
  | (with_reducible refine x_kI ?_)
  | (with_reducible refine x_iR1 ?_)
  | (with_reducible refine x_iL ?_)
  | (with_reducible refine x_iT ?_)
  | (with_reducible refine x_lst ?_)
  | (with_reducible refine x_tup ?_)
  | (with_reducible refine OwR.x_smeth ?_)
  | (with_reducible refine OwR.x_listRev ?_)
  | (with_reducible refine x_isiII ?_)
  | (with_reducible refine x_isiIB ?_)
  | (with_reducible refine x_isiBB ?_)
  | (with_reducible refine x_isiSS ?_)
  | ((with_reducible apply x_ixL); (first | assumption | exact SqL.of (by assumption)); exact rfl)
  | ((with_reducible apply x_ixT); assumption; exact rfl)
  | ((with_reducible apply x_lenS); (first | assumption | exact Or.inl (SqL.of (by assumption)) | exact Or.inl (by assumption) | exact Or.inr (by assumption) | exact Or.inr (SqT.of (by assumption)))))); try dsimp only [List.set]))
local macro_rules | `(tactic| walk_at "st") => `(tactic| dsimp only [cxOf, L2.start, List.map, List.length, Nat.reduceAdd, Nat.reduceSub, List.replicate, List.cons_append, List.nil_append])
def spDraws (K : PySem.W.Frag) : Sp := fun vs H Q _ => ∃ (a : Addr) (ns : List Int), vs = [.ref a] ∧ SqL K H a (ns.map V.int) ∧ ns.length ≤ 63 ∧ ∀ (H' : Hp) (d f : Addr), Same H H' → H d = none → Draws H' d f → Q (.ref d) H'
section
variable {P : Program} {w : World} {K : PySem.W.Frag} {mg : Str → Option Value} {base : Heap}
theorem big_enough {n : Nat} (h : n ≤ 100000) : n < sizeLine := Nat.lt_of_le_of_lt h (by decide)
/-- what the draws' loop keeps -/
def DW (H : Hp) (a f : Addr) (m : Nat) (sd : Int) (y3 y4 y5 : Option V) (σ : L2.St) (H' : Hp) (fs : List Int) : Prop :=
  σ = [some (.ref a), some (.ref f), some (.int sd), y3, y4, y5] ∧ 0 ≤ sd ∧ sd ≤ 2147483646 ∧ Same H H' ∧ H' f = some (.lst (fs.map V.int)) ∧ (∀ x ∈ fs, 0 ≤ x) ∧ fs.length ≤ m
theorem ok_law_draws (T : Ctx K mg) : FnOk P w K mg base CX0 1 T.f_law_draws T.fd_law_draws ["script"] (spDraws K) := by
  refine T.F_law_draws.ok sc_law_draws (fun vs H Q E h => ?_) (fun cdv A outer s H vs Q E hr h => ?_)
  · obtain ⟨a, ns, rfl, _⟩ := h
    rfl
  · obtain ⟨a, ns, rfl, hS, hlen, k⟩ := h
    refine ⟨_, (pss_cons (ps_set (i := 1) sc_law_draws.nd rfl (Or.inl rfl) (Au.pe_lstN pa_nil))
        (pss_cons (ps_set (i := 2) sc_law_draws.nd rfl (Or.inl rfl) pe_int)
        (pss_cons (ps_for PassesOwn.never rfl (pi_range1 (by rfl) T.z_range (pa_cons (pe_callB (Au.call_minS rfl) (by rfl) T.z_min (by decide +kernel) (pa_cons (pe_callB (Au.call_lenK (K := K)) (by rfl) T.z_len (by decide +kernel) (pa_cons (pv 0) pa_nil)) (pa_cons pe_int pa_nil))) pa_nil)) (pg_name (i := 3) sc_law_draws.nd rfl (Or.inl rfl)) (pss_cons (ps_set (i := 4) sc_law_draws.nd rfl (Or.inl rfl) (pe_callB Au.call_absS (by rfl) T.z_abs (by decide +kernel) (pa_cons (pe_ix (Au.ix_listK (K := K)) (pv 0) (pv 3) (fun _ _ => rfl)) pa_nil)))
        (pss_cons (ps_set (i := 2) sc_law_draws.nd rfl (Or.inl rfl) (pe_op op_mod (pe_callTy Au.call_intS (by rfl) T.z_int (by decide +kernel) (pa_cons (pe_op op_add (pe_op op_add (pe_op op_mul (pv 2) pe_int) (pv 4)) (pv 3)) pa_nil)) pe_int))
        (pss_one (ps_if (pt_cmpR op_ge (pv 4) (pe_op op_pow pe_int pe_int) (by rfl)) (pss_one (ps_for PassesOwn.never rfl (pi_range1 (by rfl) T.z_range (pa_cons pe_int pa_nil)) (pg_name (i := 5) sc_law_draws.nd rfl (Or.inl rfl)) (pss_one (ps_if (pt_cmpR op_gt (pv 4) pe_int (by rfl)) (pss_cons (ps_expr (pe_bm PySem.F.plainAttrs_list PySem.F.slot_list_append PySem.F.type_list_append mt_append (pv 1) (pa_cons (pe_op op_mod (pe_callTy Au.call_intS (by rfl) T.z_int (by decide +kernel) (pa_cons (pv 4) pa_nil)) pe_int) pa_nil)))
        (pss_one (ps_set (i := 4) sc_law_draws.nd rfl (Or.inl rfl) (pe_op op_fdiv (pv 4) pe_int)))) pss_nil)))) (pss_cons (ps_expr (pe_bm PySem.F.plainAttrs_list PySem.F.slot_list_append PySem.F.type_list_append mt_append (pv 1) (pa_cons (pe_op op_mod (pe_op op_mod (pe_callTy Au.call_intS (by rfl) T.z_int (by decide +kernel) (pa_cons (pe_op op_add (pe_op op_mul (pv 4) pe_int) (pe_op op_mul (pv 3) pe_int)) pa_nil)) pe_int) pe_int) pa_nil)))
        (pss_one (ps_expr (pe_bm PySem.F.plainAttrs_list PySem.F.slot_list_append PySem.F.type_list_append mt_append (pv 1) (pa_cons (pe_op op_mod (pe_op op_fdiv (pe_op op_mod (pe_callTy Au.call_intS (by rfl) T.z_int (by decide +kernel) (pa_cons (pe_op op_add (pe_op op_mul (pv 4) pe_int) (pe_op op_mul (pv 3) pe_int)) pa_nil)) pe_int) pe_int) pe_int) pa_nil))))))))))
        (pss_one (ps_ret (Au.pe_lstN (pa_cons pe_int (pa_cons (pv 1) (pa_cons (pe_op op_add (pv 2) pe_int) pa_nil))))))))), ?_⟩
    walk_at "st"
    walk_at "go"
    refine ⟨Nat.zero_le _, fun f H1 n1 => ?_⟩
    have hS1 := n1.same.seq hS
    walk_at "go"
    have big : (10 : Int) ^ (18 : Int).toNat = 1000000000000000000 := by decide
    refine ⟨_, rfl, ?_, ?_, e_range (lo := 0) (n := _) (fun i σ H' => ∃ sd y3 y4 y5 fs, DW H a f (60 * i) sd y3 y4 y5 σ H' fs) ⟨7, none, none, none, [], rfl, by decide, by decide, n1.same, n1.at_, by simp, by simp⟩ (fun i σ H' hi p => ?_) (fun σ H' p => ?_)⟩
    · split <;> omega
    · split <;> omega
    · obtain ⟨sd, y3, y4, y5, fs, rfl, s0, s1, sm, hf, f0, fl⟩ := p
      have hS' := sm.seq hS
      have li : i < ns.length := by
        rw [List.length_map] at hi
        split at hi <;> omega
      have i63 : i < 63 := by omega
      walk_at "go"
      obtain ⟨x, mx, _, ex⟩ := at_int (fs := ns) (n := 0 + (i : Int)) (by omega) (by rw [List.length_map]; omega)
      refine x_ixL hS' ex ?_
      walk_at "go"
      obtain ⟨c, hc, c0⟩ : ∃ c : Int, (if x < 0 then -x else x) = c ∧ 0 ≤ c := ⟨_, rfl, by split <;> omega⟩
      rw [hc]
      refine x_i (.inl ⟨by omega, by omega⟩) ?_
      walk_at "go"
      refine x_i (by decide) ?_
      walk_at "go"
      obtain ⟨sd', hsd', s0', s1'⟩ : ∃ z : Int, (sd * 31 + c + (0 + (i : Int))) % 2147483647 = z ∧ 0 ≤ z ∧ z ≤ 2147483646 := ⟨_, rfl, Int.emod_nonneg _ (by decide), by have := Int.emod_lt_of_pos (sd * 31 + c + (0 + (i : Int))) (show (0 : Int) < 2147483647 by decide); omega⟩
      rw [hsd']
      refine x_i ⟨by decide, by decide, by decide⟩ ?_
      rw [big]
      walk_at "go"
      refine x_ifD (fun ge => ?_) (fun lt => ?_)
      · walk_at "go"
        refine ⟨_, rfl, by decide, by decide, e_range (lo := 0) (n := _) (fun j σ H2 => ∃ z y5 fs2, 0 ≤ z ∧ DW H a f (60 * i + j) sd' (some (.int (0 + (i : Int)))) (some (.int z)) y5 σ H2 fs2) ⟨c, y5, fs, c0, rfl, s0', s1', sm, hf, f0, by omega⟩ (fun j σ H2 hj p => ?_) (fun σ H2 p => ?_)⟩
        · obtain ⟨z, y5, fs2, z0, rfl, _, _, sm2, hf2, f02, fl2⟩ := p
          have j60 : j < 60 := hj
          walk_at "go"
          refine x_ifD (fun pos => ?_) (fun npos => ?_)
          · walk_at "go"
            refine ⟨ty_lst hf2, ?_⟩
            walk_at "go"
            refine x_i (by decide) ?_
            walk_at "go"
            refine x_appM hf2 (by rw [List.length_map]; exact big_enough (by omega)) fun H3 k3 f3 => ?_
            walk_at "go"
            refine x_i ⟨by decide, by decide⟩ ?_
            walk_at "go"
            refine ⟨z / 64, _, fs2 ++ [z % 64], Int.ediv_nonneg z0 (by decide), rfl, s0', s1', sameK sm2 k3 n1.fr, by rw [List.map_append]; exact f3, fun x m => ?_, by rw [List.length_append, List.length_singleton]; omega⟩
            rcases List.mem_append.mp m with m | m
            · exact f02 x m
            · rw [List.mem_singleton.mp m]
              exact Int.emod_nonneg _ (by decide)
          · walk_at "go"
            exact ⟨z, _, fs2, z0, rfl, s0', s1', sm2, hf2, f02, by omega⟩
        · obtain ⟨z, y5, fs2, z0, p⟩ := p
          exact ⟨sd', _, _, y5, fs2, p.1, p.2.1, p.2.2.1, p.2.2.2.1, p.2.2.2.2.1, p.2.2.2.2.2.1, by have := p.2.2.2.2.2.2; have e : (60 : Int).toNat = 60 := rfl; omega⟩
      · walk_at "go"
        refine ⟨ty_lst hf, ?_⟩
        walk_at "go"
        refine x_i (.inl ⟨by omega, by omega⟩) ?_
        walk_at "go"
        refine x_i (.inl ⟨by omega, by omega⟩) ?_
        walk_at "go"
        refine x_i (by decide) ?_
        walk_at "go"
        refine x_i (by decide) ?_
        walk_at "go"
        refine x_appM hf (by rw [List.length_map]; exact big_enough (by omega)) fun H3 k3 f3 => ?_
        walk_at "go"
        refine ⟨ty_lst f3, ?_⟩
        walk_at "go"
        refine x_i (.inl ⟨by omega, by omega⟩) ?_
        walk_at "go"
        refine x_i (.inl ⟨by omega, by omega⟩) ?_
        walk_at "go"
        refine x_i (by decide) ?_
        walk_at "go"
        refine x_i ⟨by decide, by decide⟩ ?_
        walk_at "go"
        refine x_i (by decide) ?_
        walk_at "go"
        refine x_appM f3 (by rw [List.length_append, List.length_map]; exact big_enough (by simp; omega)) fun H4 k4 f4 => ?_
        walk_at "go"
        refine ⟨sd', _, _, _, fs ++ [_] ++ [_], rfl, s0', s1', sameK (sameK sm k3 n1.fr) k4 n1.fr, by rw [List.map_append, List.map_append]; exact f4, fun x m => ?_, by simp; omega⟩
        rcases List.mem_append.mp m with m | m
        · rcases List.mem_append.mp m with m | m
          · exact f0 x m
          · rw [List.mem_singleton.mp m]
            exact Int.emod_nonneg _ (by decide)
        · rw [List.mem_singleton.mp m]
          exact Int.emod_nonneg _ (by decide)
    · obtain ⟨sd, y3, y4, y5, fs, rfl, s0, s1, sm, hf, f0, fl⟩ := p
      walk_at "go"
      refine ⟨by show 3 ≤ sizeLine; decide, fun d H3 n3 => ?_⟩
      walk_at "go"
      exact k H3 d f (sm.trans n3.same) (sm.free n3.fr) ⟨0, sd + 1, fs, n3.at_, n3.same _ _ hf, n3.ne hf, by decide, f0, by omega, by omega⟩
end
end K63
set_option Elab.async false
set_option linter.all false
set_option maxRecDepth 100000
set_option maxHeartbeats 4000000
namespace K63
open PySem PySem.Spec PyProof.Rows L2 L2.Au Asc63
/-- the steps that need no thought -/
local macro_rules | `(tactic| walk_at "go") => `(tactic| ((repeat (first
  | ((with_reducible apply x_var); exact rfl)
  | (with_reducible refine x_c ?_)
  | (with_reducible refine x_op ?_)
  | (with_reducible refine x_un ?_)
  | (with_reducible refine x_i0 ?_)
  | (with_reducible refine x_u ?_)
  | (with_reducible refine x_eqI ?_)
  | (with_reducible refine x_neI ?_)
  | (with_reducible refine x_eqS ?_)
  | (with_reducible refine x_neS ?_)
  | (with_reducible refine x_eqB ?_)
  | (with_reducible refine x_neB ?_)
  | (with_reducible refine x_test ?_)
  | (with_reducible refine x_tB ?_)
  | (with_reducible refine x_k ?_)
  | (with_reducible refine x_not ?_)
  | (with_reducible refine x_and ?_)
  | (with_reducible refine x_or ?_)
  | (with_reducible refine x_andV ?_)
  | (with_reducible refine x_orV ?_)
  | (with_reducible refine x_notV ?_)
  | (with_reducible refine x_if ?_)
  | (with_reducible refine x_ifT ?_)
  | (with_reducible refine x_ifF ?_)
  | (with_reducible refine x_nil ?_)
  | (with_reducible refine x_cons ?_)
  | (with_reducible refine x_cb ?_)
  | (with_reducible refine x_call ?_)
  | (with_reducible refine x_seq ?_)
  | (with_reducible refine x_lcT ?_)
  | (with_reducible refine x_lcL ?_)
  | (with_reducible refine x_next ?_)
  | (with_reducible refine x_asg ?_)
  | (with_reducible refine x_name ?_)
  | (with_reducible refine x_sub ?_)
  | (with_reducible refine x_drop ?_)
  | (with_reducible refine x_ret ?_)
  | (with_reducible refine x_retN ?_)
  | (with_reducible refine x_ifS ?_)
  | (with_reducible refine x_intS ?_)
  | (with_reducible refine x_absS ?_)
  | (with_reducible refine x_minS ?_)
  | (with_reducible refine x_maxS ?_)
  | (with_reducible refine x_fld ?_)
  | (with_reducible refine x_bm ?_)
  | (with_reducible refine x_for ?_)
  | (with_reducible refine x_lc ?_)
  | (with_reducible refine x_ifNT ?_)
  | (with_reducible refine x_ifNF ?_)
  | (with_reducible refine x_sfld ?_)
  | (with_reducible refine x_make ?_)
  | (with_reducible refine x_meth ?_)
  | (with_reducible refine x_sl ?_)
  | (with_reducible refine x_noPart ?_)
  | (with_reducible refine x_part ?_)
  | (with_reducible refine x_kI ?_)
  | (with_reducible refine x_iR1 ?_)
  | (with_reducible refine x_iL ?_)
  | (with_reducible refine x_iT ?_)
  | (with_reducible refine x_lst ?_)
  | (with_reducible refine x_tup ?_)
  | (with_reducible refine OwR.x_smeth ?_)
  | (with_reducible refine OwR.x_listRev ?_)
  | (with_reducible refine x_isiII ?_)
  | (with_reducible refine x_isiIB ?_)
  | (with_reducible refine x_isiBB ?_)
  | (with_reducible refine x_isiSS ?_)
  | ((with_reducible apply x_ixL); (first | assumption | exact SqL.of (by assumption)); exact rfl)
  | ((with_reducible apply x_ixT); assumption; exact rfl)
  | ((with_reducible apply x_lenS); (first | assumption | exact Or.inl (SqL.of (by assumption)) | exact Or.inl (by assumption) | exact Or.inr (by assumption) | exact Or.inr (SqT.of (by assumption)))))); try dsimp only [List.set]))
local macro_rules | `(tactic| walk_at "st") => `(tactic| dsimp only [cxOf, L2.start, List.map, List.length, Nat.reduceAdd, Nat.reduceSub, List.replicate, List.cons_append, List.nil_append])
def spLot : Sp := fun vs H Q _ => ∃ (d f : Addr), vs = [.ref d] ∧ Draws H d f ∧ ∀ (l : Addr) (ns : List Int) (H' : Hp), Kp d H H' → Draws H' d f → H l = none → H' l = some (.lst (ns.map V.int)) → (ns.length : Int) ∈ ([0, 1, 2, 3, 5, 8, 12, 30] : List Int) → Q (.ref l) H'
def spNear : Sp := fun vs H Q _ => ∃ (d f a : Addr) (xs : List Int), vs = [.ref d, .ref a] ∧ Draws H d f ∧ H a = some (.lst (xs.map V.int)) ∧ xs.length ≤ 1000 ∧ ∀ (l : Addr) (ns : List Int) (H' : Hp), Kp d H H' → Draws H' d f → H l = none → H' l = some (.lst (ns.map V.int)) → ns.length = xs.length → Q (.ref l) H'
theorem Draws.same {H H' : Hp} {d f : Addr} (D : Draws H d f) (s : Same H H') : Draws H' d f := by
  obtain ⟨at_, sd, fs, h1, h2, r⟩ := D
  exact ⟨at_, sd, fs, s _ _ h1, s _ _ h2, r⟩
theorem Draws.ne {H : Hp} {d f p : Addr} (D : Draws H d f) (n : H p = none) : d ≠ p ∧ f ≠ p := by
  obtain ⟨at_, sd, fs, h1, h2, _⟩ := D
  exact ⟨ne_of_none h1 n, ne_of_none h2 n⟩
/-- over a change of a list that was made since -/
theorem Draws.mut {H H' : Hp} {d f l : Addr} (D : Draws H d f) (n : d ≠ l ∧ f ≠ l) (k : Kp l H H') : Draws H' d f := by
  obtain ⟨at_, sd, fs, h1, h2, r⟩ := D
  exact ⟨at_, sd, fs, k _ _ n.1 h1, k _ _ n.2 h2, r⟩
section
variable {P : Program} {w : World} {K : PySem.W.Frag} {mg : Str → Option Value} {base : Heap}
/-- the lot's loop -/
def LW (H : Hp) (d f l : Addr) (m wd : Int) (y4 y5 : Option V) (σ : L2.St) (H' : Hp) (ys : List Int) : Prop :=
  σ = [some (.ref d), some (.int m), some (.int wd), some (.ref l), y4, y5] ∧ Kp d H H' ∧ Draws H' d f ∧ H' l = some (.lst (ys.map V.int))
theorem ok_law_lot (T : Ctx K mg) : FnOk P w K mg base CX0 2 T.f_law_lot T.fd_law_lot ["draws"] spLot := by
  refine T.F_law_lot.ok sc_law_lot (fun vs H Q E h => ?_) (fun cdv A outer s H vs Q E hr h => ?_)
  · obtain ⟨d, f, rfl, _⟩ := h
    rfl
  · obtain ⟨d, f, rfl, D, k⟩ := h
    refine ⟨_, (pss_cons (ps_set (i := 1) sc_law_lot.nd rfl (Or.inl rfl) (pe_ix (Au.ix_listK (K := K)) (Au.pe_lstN (pa_cons pe_int (pa_cons pe_int (pa_cons pe_int (pa_cons pe_int (pa_cons pe_int (pa_cons pe_int (pa_cons pe_int (pa_cons pe_int pa_nil))))))))) (pe_call (ok_law_pick T) (hr.mono (by decide)) (by rfl) T.g_law_pick T.F_law_pick.kp T.b_law_pick .nil pass0 (pa_cons (pv 0) (pa_cons pe_int pa_nil))) (fun _ _ => rfl)))
        (pss_cons (ps_set (i := 2) sc_law_lot.nd rfl (Or.inl rfl) (pe_call (ok_law_pick T) (hr.mono (by decide)) (by rfl) T.g_law_pick T.F_law_pick.kp T.b_law_pick .nil pass0 (pa_cons (pv 0) (pa_cons pe_int pa_nil))))
        (pss_cons (ps_set (i := 3) sc_law_lot.nd rfl (Or.inl rfl) (Au.pe_lstN pa_nil))
        (pss_cons (ps_for PassesOwn.never rfl (pi_range1 (by rfl) T.z_range (pa_cons (pv 1) pa_nil)) (pg_name (i := 4) sc_law_lot.nd rfl (Or.inl rfl)) (pss_cons (ps_set (i := 5) sc_law_lot.nd rfl (Or.inl rfl) (pe_call (ok_law_pick T) (hr.mono (by decide)) (by rfl) T.g_law_pick T.F_law_pick.kp T.b_law_pick .nil pass0 (pa_cons (pv 0) (pa_cons pe_int pa_nil))))
        (C8.pss_cut (ps_if (pt_cmpR op_eq (pv 2) pe_int (by rfl)) (pss_one (ps_set (i := 5) sc_law_lot.nd rfl (Or.inl rfl) (pe_op op_mod (pe_callTy Au.call_intS (by rfl) T.z_int (by decide +kernel) (pa_cons (pv 5) pa_nil)) pe_int))) pss_nil)
        (C8.pss_cut (ps_if (pt_cmpR op_eq (pv 2) pe_int (by rfl)) (pss_one (ps_set (i := 5) sc_law_lot.nd rfl (Or.inl rfl) (pe_op op_add (pe_op op_mul (pv 5) pe_int) (pe_call (ok_law_pick T) (hr.mono (by decide)) (by rfl) T.g_law_pick T.F_law_pick.kp T.b_law_pick .nil pass0 (pa_cons (pv 0) (pa_cons pe_int pa_nil)))))) pss_nil)
        (C8.pss_cut (ps_if (pt_cmpR op_eq (pv 2) pe_int (by rfl)) (pss_one (ps_set (i := 5) sc_law_lot.nd rfl (Or.inl rfl) (pe_op op_add (pe_op op_mul (pe_op op_sub (pv 5) pe_int) (pe_op op_pow pe_int pe_int)) (pe_call (ok_law_pick T) (hr.mono (by decide)) (by rfl) T.g_law_pick T.F_law_pick.kp T.b_law_pick .nil pass0 (pa_cons (pv 0) (pa_cons pe_int pa_nil)))))) pss_nil)
        (C8.pss_cut (ps_if (PW.pt (pw_and (Au.pe_truthK (K := K) (pv 3)) (pw_and1 (pt_cmpR op_eq (pe_call (ok_law_pick T) (hr.mono (by decide)) (by rfl) T.g_law_pick T.F_law_pick.kp T.b_law_pick .nil pass0 (pa_cons (pv 0) (pa_cons pe_int pa_nil))) pe_int (by rfl))))) (pss_one (ps_set (i := 5) sc_law_lot.nd rfl (Or.inl rfl) (pe_ix (Au.ix_listK (K := K)) (pv 3) (pe_call (ok_law_pick T) (hr.mono (by decide)) (by rfl) T.g_law_pick T.F_law_pick.kp T.b_law_pick .nil pass0 (pa_cons (pv 0) (pa_cons (pe_callB (Au.call_lenK (K := K)) (by rfl) T.z_len (by decide +kernel) (pa_cons (pv 3) pa_nil)) pa_nil))) (fun _ _ => rfl)))) pss_nil)
        (pss_one (ps_expr (pe_bm PySem.F.plainAttrs_list PySem.F.slot_list_append PySem.F.type_list_append mt_append (pv 3) (pa_cons (pv 5) pa_nil))))))))))
        (pss_one (ps_ret (pv 3))))))), ?_⟩
    walk_at "st"
    walk_at "go"
    refine ⟨by show 8 ≤ sizeLine; decide, fun p H1 n1 => ?_⟩
    walk_at "go"
    refine ⟨d, f, 8, rfl, D.same n1.same, by decide, fun r H2 r0 r8 k2 D2 => ?_⟩
    have hp := k2 p _ (D.ne n1.fr).1.symm n1.at_
    obtain ⟨m, em, mm⟩ : ∃ m : Int, atI ([.int 0, .int 1, .int 2, .int 3, .int 5, .int 8, .int 12, .int 30] : List V) r = some (.int m) ∧ m ∈ ([0, 1, 2, 3, 5, 8, 12, 30] : List Int) := by
      have : r = 0 ∨ r = 1 ∨ r = 2 ∨ r = 3 ∨ r = 4 ∨ r = 5 ∨ r = 6 ∨ r = 7 := by omega
      rcases this with rfl | rfl | rfl | rfl | rfl | rfl | rfl | rfl
      all_goals exact ⟨_, rfl, by decide⟩
    refine x_ixL (SqL.of hp) em ?_
    walk_at "go"
    refine ⟨d, f, 4, rfl, D2, by decide, fun wd H3 _ _ k3 D3 => ?_⟩
    walk_at "go"
    have k13 : Kp d H H3 := ((kpS n1.same).trans k2).trans k3
    refine ⟨Nat.zero_le _, fun l H4 n4 => ?_⟩
    have nl := D3.ne n4.fr
    have fl : H l = none := k13.free nl.1.symm n4.fr
    have m30 : 0 ≤ m ∧ m ≤ 30 := by
      simp only [List.mem_cons, List.not_mem_nil, or_false] at mm
      omega
    walk_at "go"
    refine ⟨_, rfl, by omega, by omega, e_range (lo := 0) (n := _) (fun i σ H' => ∃ ys y4 y5, LW H d f l m wd y4 y5 σ H' ys ∧ ys.length = i) ⟨[], none, none, ⟨rfl, k13.trans (kpS n4.same), D3.same n4.same, n4.at_⟩, rfl⟩ (fun i σ H' hi p => ?_) (fun σ H' p => ?_)⟩
    · obtain ⟨ys, y4, y5, ⟨rfl, kp, D5, hl⟩, el⟩ := p
      have i30 : i < 30 := by omega
      walk_at "go"
      refine ⟨d, f, 64, rfl, D5, by decide, fun one H5 o0 o64 k5 D6 => ?_⟩
      have hl5 := k5 l _ nl.1.symm hl
      walk_at "go"
      refine x_cut (fun σ' H' => ∃ z y4, LW H d f l m wd y4 (some (.int z)) σ' H' ys ∧ -1000 ≤ z ∧ z ≤ 1000) ?_ fun σ' H' p => ?_
      · walk_at "go"
        refine x_ifD (fun e => ?_) (fun e => ?_)
        · walk_at "go"
          refine x_i (by decide) ?_
          walk_at "go"
          exact ⟨_, _, ⟨rfl, kp.trans k5, D6, hl5⟩, by omega, by omega⟩
        · walk_at "go"
          exact ⟨one, _, ⟨rfl, kp.trans k5, D6, hl5⟩, by omega, by omega⟩
      obtain ⟨z, y4', ⟨rfl, kp6, D7, hl6⟩, z0, z1⟩ := p
      refine x_cut (fun σ' H' => ∃ z y4, LW H d f l m wd y4 (some (.int z)) σ' H' ys ∧ -100000 ≤ z ∧ z ≤ 100000) ?_ fun σ' H' p => ?_
      · walk_at "go"
        refine x_ifD (fun e => ?_) (fun e => ?_)
        · walk_at "go"
          refine x_i (.inl ⟨by omega, by omega⟩) ?_
          walk_at "go"
          refine ⟨d, f, 64, rfl, D7, by decide, fun r6 H6 _ _ k6 D8 => ?_⟩
          walk_at "go"
          exact ⟨_, _, ⟨rfl, kp6.trans k6, D8, k6 l _ nl.1.symm hl6⟩, by omega, by omega⟩
        · walk_at "go"
          exact ⟨z, _, ⟨rfl, kp6, D7, hl6⟩, by omega, by omega⟩
      obtain ⟨z2, y42, ⟨rfl, kp7, D9, hl7⟩, z20, z21⟩ := p
      refine x_cut (fun σ' H' => ∃ z y4, LW H d f l m wd y4 (some (.int z)) σ' H' ys) ?_ fun σ' H' p => ?_
      · walk_at "go"
        refine x_ifD (fun e => ?_) (fun e => ?_)
        · walk_at "go"
          refine x_i ⟨by decide, by decide, by decide⟩ ?_
          refine x_i (.inl ⟨by omega, by omega⟩) ?_
          walk_at "go"
          refine ⟨d, f, 64, rfl, D9, by decide, fun r6 H6 _ _ k6 D8 => ?_⟩
          walk_at "go"
          exact ⟨_, _, rfl, kp7.trans k6, D8, k6 l _ nl.1.symm hl7⟩
        · walk_at "go"
          exact ⟨z2, _, rfl, kp7, D9, hl7⟩
      obtain ⟨z3, y43, rfl, kp8, D10, hl8⟩ := p
      refine x_cut (fun σ' H' => ∃ z y4, LW H d f l m wd y4 (some (.int z)) σ' H' ys) ?_ fun σ' H' p => ?_
      · walk_at "go"
        refine ⟨_, .inl ⟨_, SqL.of hl8, rfl⟩, x_ifB (fun ne => ?_) (fun _ => ?_)⟩
        · walk_at "go"
          refine ⟨d, f, 4, rfl, D10, by decide, fun r6 H6 _ _ k6 D8 => ?_⟩
          walk_at "go"
          have hl9 := k6 l _ nl.1.symm hl8
          have n0 : 0 < ys.length := by
            cases ys with
            | nil => cases ne
            | cons x r => exact Nat.succ_pos _
          refine x_ifD (fun e => ?_) (fun e => ?_)
          · walk_at "go"
            refine ⟨d, f, _, rfl, D8, by rw [List.length_map]; omega, fun r7 H7 r70 r71 k7 D11 => ?_⟩
            have hl10 := k7 l _ nl.1.symm hl9
            obtain ⟨x, _, _, ex⟩ := at_int r70 r71
            refine x_ixL (SqL.of hl10) ex ?_
            walk_at "go"
            exact ⟨x, _, rfl, (kp8.trans k6).trans k7, D11, hl10⟩
          · walk_at "go"
            exact ⟨z3, _, rfl, kp8.trans k6, D8, hl9⟩
        · walk_at "go"
          exact ⟨z3, _, rfl, kp8, D10, hl8⟩
      obtain ⟨z4, y44, rfl, kp9, D11, hl9⟩ := p
      walk_at "go"
      refine ⟨ty_lst hl9, ?_⟩
      walk_at "go"
      refine x_appM hl9 (by rw [List.length_map]; exact big_enough (by omega)) fun H6 k6 hl10 => ?_
      walk_at "go"
      exact ⟨ys ++ [z4], _, _, ⟨rfl, kp9.mut k6 fl, D11.mut nl k6, by rw [List.map_append]; exact hl10⟩, by rw [List.length_append, List.length_singleton, el]⟩
    · obtain ⟨ys, y4, y5, ⟨rfl, kp, D5, hl⟩, el⟩ := p
      walk_at "go"
      refine k l ys H' kp D5 fl hl ?_
      rw [el, Int.toNat_of_nonneg m30.1]
      exact mm
theorem ok_law_near (T : Ctx K mg) : FnOk P w K mg base CX0 2 T.f_law_near T.fd_law_near ["draws", "lot"] spNear := by
  refine T.F_law_near.ok sc_law_near (fun vs H Q E h => ?_) (fun cdv A outer s H vs Q E hr h => ?_)
  · obtain ⟨d, f, a, xs, rfl, _⟩ := h
    rfl
  · obtain ⟨d, f, a, xs, rfl, D, ha, hx, k⟩ := h
    refine ⟨_, (pss_cons (ps_set (i := 2) sc_law_near.nd rfl (Or.inl rfl) (pe_callTy (Au.call_listK (K := K)) (by rfl) T.z_list (by decide +kernel) (pa_cons (pv 1) pa_nil)))
        (C8.pss_cut (ps_if (Au.pe_truthK (K := K) (pv 2)) (pss_cons (ps_set (i := 3) sc_law_near.nd rfl (Or.inl rfl) (pe_call (ok_law_pick T) (hr.mono (by decide)) (by rfl) T.g_law_pick T.F_law_pick.kp T.b_law_pick .nil pass0 (pa_cons (pv 0) (pa_cons (pe_callB (Au.call_lenK (K := K)) (by rfl) T.z_len (by decide +kernel) (pa_cons (pv 2) pa_nil)) pa_nil))))
        (pss_one (ps_asg (pe_op op_sub (pe_op op_add (pe_ix (Au.ix_listK (K := K)) (pv 2) (pv 3) (fun _ _ => rfl)) pe_int) (pe_op op_mul pe_int (pe_call (ok_law_pick T) (hr.mono (by decide)) (by rfl) T.g_law_pick T.F_law_pick.kp T.b_law_pick .nil pass0 (pa_cons (pv 0) (pa_cons pe_int pa_nil))))) (pg_sub (pv 2) (pv 3) set_list)))) pss_nil)
        (pss_one (ps_ret (pv 2))))), ?_⟩
    walk_at "st"
    walk_at "go"
    refine x_listS (.inl (SqL.of ha)) fun l H1 n1 => ?_
    have nl := D.ne n1.fr
    have hl1 := n1.at_
    walk_at "go"
    refine x_cut (fun σ' H' => ∃ (y3 : Option V) (ns : List Int), σ' = [some (.ref d), some (.ref a), some (.ref l), y3] ∧ Kp d H H' ∧ Draws H' d f ∧ H' l = some (.lst (ns.map V.int)) ∧ ns.length = xs.length) ?_ fun σ' H' p => ?_
    · walk_at "go"
      refine ⟨_, .inl ⟨_, SqL.of n1.at_, rfl⟩, x_ifB (fun ne => ?_) (fun _ => ?_)⟩
      · have n0 : 0 < xs.length := by
          cases xs with
          | nil => cases ne
          | cons x r => exact Nat.succ_pos _
        walk_at "go"
        refine ⟨d, f, _, rfl, D.same n1.same, by rw [List.length_map]; omega, fun r H2 r0 r1 k2 D2 => ?_⟩
        have hl2 := k2 l _ nl.1.symm n1.at_
        walk_at "go"
        obtain ⟨x, _, _, ex⟩ := at_int r0 r1
        refine x_ixL (SqL.of hl2) ex ?_
        walk_at "go"
        refine ⟨d, f, 2, rfl, D2, by decide, fun r3 H3 _ _ k3 D3 => ?_⟩
        have hl3 := k3 l _ nl.1.symm hl2
        walk_at "go"
        refine x_i (.inl ⟨by decide, by decide⟩) ?_
        walk_at "go"
        rw [List.length_map] at r1
        refine x_setM (j := r.toNat) hl3 ?_ fun H4 k4 hl4 => ?_
        · rw [List.length_map]
          unfold ixN
          rw [if_pos r0, if_pos r1]
        · refine ⟨_, xs.set r.toNat (x + 1 - 2 * r3), rfl, (((kpS n1.same).trans k2).trans k3).mut k4 n1.fr, D3.mut nl k4, ?_, by rw [List.length_set]⟩
          rw [← List.map_set] at hl4
          exact hl4
      · walk_at "go"
        exact ⟨_, xs, rfl, (kpS n1.same), D.same n1.same, n1.at_, rfl⟩
    obtain ⟨y3, ns, rfl, kp, D4, hl, el⟩ := p
    walk_at "go"
    exact k l ns H' kp D4 n1.fr hl el
end
end K63
set_option Elab.async false
set_option linter.all false
set_option maxRecDepth 100000
set_option maxHeartbeats 4000000
namespace K63
open PySem PySem.Spec PyProof.Rows L2 L2.Au Asc63
/-- the steps that need no thought -/
local macro_rules | `(tactic| walk_at "go") => `(tactic| ((repeat (first
  | ((with_reducible apply x_var); exact rfl)
  | (with_reducible refine x_c ?_)
  | (with_reducible refine x_op ?_)
  | (with_reducible refine x_un ?_)
  | (with_reducible refine x_i0 ?_)
  | (with_reducible refine x_u ?_)
  | (with_reducible refine x_eqI ?_)
  | (with_reducible refine x_neI ?_)
  | (with_reducible refine x_eqS ?_)
  | (with_reducible refine x_neS ?_)
  | (with_reducible refine x_eqB ?_)
  | (with_reducible refine x_neB ?_)
  | (with_reducible refine x_test ?_)
  | (with_reducible refine x_tB ?_)
  | (with_reducible refine x_k ?_)
  | (with_reducible refine x_not ?_)
  | (with_reducible refine x_and ?_)
  | (with_reducible refine x_or ?_)
  | (with_reducible refine x_andV ?_)
  | (with_reducible refine x_orV ?_)
  | (with_reducible refine x_notV ?_)
  | (with_reducible refine x_if ?_)
  | (with_reducible refine x_ifT ?_)
  | (with_reducible refine x_ifF ?_)
  | (with_reducible refine x_nil ?_)
  | (with_reducible refine x_cons ?_)
  | (with_reducible refine x_cb ?_)
  | (with_reducible refine x_call ?_)
  | (with_reducible refine x_seq ?_)
  | (with_reducible refine x_lcT ?_)
  | (with_reducible refine x_lcL ?_)
  | (with_reducible refine x_next ?_)
  | (with_reducible refine x_asg ?_)
  | (with_reducible refine x_name ?_)
  | (with_reducible refine x_sub ?_)
  | (with_reducible refine x_drop ?_)
  | (with_reducible refine x_ret ?_)
  | (with_reducible refine x_retN ?_)
  | (with_reducible refine x_ifS ?_)
  | (with_reducible refine x_intS ?_)
  | (with_reducible refine x_absS ?_)
  | (with_reducible refine x_minS ?_)
  | (with_reducible refine x_maxS ?_)
  | (with_reducible refine x_fld ?_)
  | (with_reducible refine x_bm ?_)
  | (with_reducible refine x_for ?_)
  | (with_reducible refine x_lc ?_)
  | (with_reducible refine x_ifNT ?_)
  | (with_reducible refine x_ifNF ?_)
  | (with_reducible refine x_sfld ?_)
  | (with_reducible refine x_make ?_)
  | (with_reducible refine x_meth ?_)
  | (with_reducible refine x_sl ?_)
  | (with_reducible refine x_noPart ?_)
  | (with_reducible refine x_part ?_)
  | (with_reducible refine x_kI ?_)
  | (with_reducible refine x_iR1 ?_)
  | (with_reducible refine x_iL ?_)
  | (with_reducible refine x_iT ?_)
  | (with_reducible refine x_lst ?_)
  | (with_reducible refine x_tup ?_)
  | (with_reducible refine OwR.x_smeth ?_)
  | (with_reducible refine OwR.x_listRev ?_)
  | (with_reducible refine x_isiII ?_)
  | (with_reducible refine x_isiIB ?_)
  | (with_reducible refine x_isiBB ?_)
  | (with_reducible refine x_isiSS ?_)
  | ((with_reducible apply x_ixL); (first | assumption | exact SqL.of (by assumption)); exact rfl)
  | ((with_reducible apply x_ixT); assumption; exact rfl)
  | ((with_reducible apply x_lenS); (first | assumption | exact Or.inl (SqL.of (by assumption)) | exact Or.inl (by assumption) | exact Or.inr (by assumption) | exact Or.inr (SqT.of (by assumption)))))); try dsimp only [List.set]))
local macro_rules | `(tactic| walk_at "st") => `(tactic| dsimp only [cxOf, L2.start, List.map, List.length, Nat.reduceAdd, Nat.reduceSub, List.replicate, List.cons_append, List.nil_append])
/-- a Marks' attributes -/
def mf (t : Addr) : List (Str × V) := putF "lines" (.ref t) []
theorem mf_lines (t : Addr) : (mf t).lookup ("lines" : Str) = some (.ref t) := by
  unfold mf
  rw [lookup_putF, if_pos rfl]
theorem mf_no (t : Addr) {m : Str} (h : ¬ m = "lines") : (mf t).lookup m = none := by
  unfold mf
  rw [lookup_putF, if_neg h]
  all_goals rfl
/-- at a a Marks of ms -/
def MarksAt (C : Addr) (H : Hp) (a : Addr) (ms : List Int) : Prop := ∃ dx t, H a = some (.ins C dx (mf t)) ∧ H t = some (.tup (ms.map V.int))
theorem MarksAt.same {C : Addr} {H H' : Hp} {a : Addr} {ms : List Int} (M : MarksAt C H a ms) (s : Same H H') : MarksAt C H' a ms := by
  obtain ⟨dx, t, h1, h2⟩ := M
  exact ⟨dx, t, s _ _ h1, s _ _ h2⟩
def spInit (K : PySem.W.Frag) (C : Addr) : Sp := fun vs H Q _ => ∃ (x dx p : Addr) (ns : List Int), vs = [.ref x, .ref p] ∧ H x = some (.ins C dx []) ∧ (SqL K H p (ns.map V.int) ∨ SqT K H p (ns.map V.int)) ∧ ns.length ≤ 63 ∧
  ∀ H' : Hp, (∀ b o, H b = some o → b ≠ x → H' b = some o) → MarksAt C H' x (canon ns) → Q .non H'
section
variable {P : Program} {w : World} {K : PySem.W.Frag} {mg : Str → Option Value} {base : Heap}
theorem ok_Marks__init (T : Ctx K mg) : FnOk P w K mg base CX0 1 T.f_Marks__init T.fd_Marks__init ["self", "lines"] (spInit K T.c_Marks) := by
  refine T.F_Marks__init.ok sc_Marks__init (fun vs H Q E h => ?_) (fun cdv A outer s H vs Q E hr h => ?_)
  · obtain ⟨x, dx, p, ns, rfl, _⟩ := h
    rfl
  · obtain ⟨x, dx, p, ns, rfl, hx, hp, hl, k⟩ := h
    refine ⟨_, (pss_one (Au.ps_fldK (K := K) (pv 0) (pe_callTy (Au.call_tupK (K := K)) (by rfl) T.z_tuple (by decide +kernel) (pa_cons (pe_callB (cr_sortedSet rfl) (by rfl) T.z_sorted (by decide +kernel) (pa_cons (pe_callTy (OwR.cr_setI rfl) (by rfl) T.z_set (by decide +kernel) (pa_cons (pv 1) pa_nil)) pa_nil)) pa_nil)))), ?_⟩
    walk_at "st"
    walk_at "go"
    refine ⟨p, ns, rfl, hp, by omega, fun q c hq hc => ?_⟩
    have n1 := New.mk' (o := SetO w q (fun j => decide (j ∈ ns)) c) hq
    generalize upd H q (SetO w q (fun j => decide (j ∈ ns)) c) = H1 at n1 ⊢
    walk_at "go"
    refine ⟨q, _, _, rfl, n1.at_, by omega, fun ms l a hm _ hl1 => ?_⟩
    have n2 := New.mk' (o := .lst (ms.map V.int)) hl1
    generalize upd H1 l (.lst (ms.map V.int)) = H2 at n2 ⊢
    walk_at "go"
    refine x_tupL (SqL.of n2.at_) fun t H3 n3 => ?_
    have s3 : Same H H3 := (n1.same.trans n2.same).trans n3.same
    have hx3 := s3 _ _ hx
    have ntx : t ≠ x := (ne_of_none hx ((n1.same.trans n2.same).free n3.fr)).symm
    walk_at "go"
    refine ⟨x, _, dx, [], rfl, hx3, T.cl_Marks, T.na_Marks_lines, by decide, k _ (fun b o e nb => by rw [upd_ne nb]; exact s3 _ _ e) ⟨dx, t, upd_same, ?_⟩⟩
    rw [upd_ne ntx, ← canon_of a fun k => (hm k).trans decide_eq_true_iff]
    exact n3.at_
/-- a new Marks by its making -/
theorem mk_marks {C : Addr} {H1 : Hp} {p : Addr} {ns : List Int} {Q : Addr → Hp → Prop} (hp : SqL K H1 p (ns.map V.int) ∨ SqT K H1 p (ns.map V.int)) (hl : ns.length ≤ 63) (k : ∀ x H', Same H1 H' → H1 x = none → MarksAt C H' x (canon ns) → Q x H') :
    ∀ x dx, H1 x = none → H1 dx = none → dx ≠ x → spInit K C (.ref x :: ([.ref p] ++ [])) (upd (upd H1 dx (.own x)) x (.ins C dx [])) (fun v H2 => v = .non ∧ Q x H2) E0 := by
  intro x dx hx hdx ne
  have s : Same H1 (upd (upd H1 dx (.own x)) x (.ins C dx [])) := fun b o e => by
    rw [upd_ne (ne_of_none e hx), upd_ne (ne_of_none e hdx)]
    exact e
  refine ⟨x, dx, p, ns, rfl, upd_same, hp.elim (fun h => .inl (s.seq h)) fun h => .inr (SqT.ext h s), hl, fun H' kp M => ⟨rfl, k x H' (fun b o e => kp b o (s b o e) (ne_of_none e hx)) hx M⟩⟩
def spOr (C : Addr) : Sp := fun vs H Q _ => ∃ (a b : Addr) (xs ys : List Int), vs = [.ref a, .ref b] ∧ MarksAt C H a xs ∧ MarksAt C H b ys ∧ xs.length + ys.length ≤ 63 ∧ ∀ x H', Same H H' → MarksAt C H' x (canon (xs ++ ys)) → Q (.ref x) H'
def spSub (C : Addr) : Sp := fun vs H Q _ => ∃ (a b : Addr) (xs ys : List Int), vs = [.ref a, .ref b] ∧ MarksAt C H a xs ∧ MarksAt C H b ys ∧ xs.length ≤ 63 ∧ ∀ x H', Same H H' → MarksAt C H' x (canon (less xs ys)) → Q (.ref x) H'
def spEq (C : Addr) : Sp := fun vs H Q _ => ∃ (a b : Addr) (xs ys : List Int), vs = [.ref a, .ref b] ∧ MarksAt C H a xs ∧ MarksAt C H b ys ∧ Q (.bl (decide (xs = ys))) H
def spLen (C : Addr) : Sp := fun vs H Q _ => ∃ (a : Addr) (xs : List Int), vs = [.ref a] ∧ MarksAt C H a xs ∧ Q (.int xs.length) H
def spIn (C : Addr) : Sp := fun vs H Q _ => ∃ (a : Addr) (xs : List Int) (n : Int), vs = [.ref a, .int n] ∧ MarksAt C H a xs ∧ Q (.bl (decide (n ∈ xs))) H
def spIter (C : Addr) : Sp := fun vs H Q _ => ∃ (a dx t : Addr) (xs : List Int), vs = [.ref a] ∧ H a = some (.ins C dx (mf t)) ∧ H t = some (.tup (xs.map V.int)) ∧ ∀ it, H it = none → Q (.ref it) (upd H it (OwR.TiO t it))
def spWithin (C : Addr) : Sp := fun vs H Q _ => ∃ (a b : Addr) (xs ys : List Int), vs = [.ref a, .ref b] ∧ MarksAt C H a xs ∧ MarksAt C H b ys ∧ Q (.bl (decide (less xs ys = []))) H
theorem ok_Marks__or (T : Ctx K mg) : FnOk P w K mg base CX0 3 T.f_Marks__or T.fd_Marks__or ["self", "other"] (spOr T.c_Marks) := by
  refine T.F_Marks__or.ok sc_Marks__or (fun vs H Q E h => ?_) (fun cdv A outer s H vs Q E hr h => ?_)
  · obtain ⟨a, b, xs, ys, rfl, _⟩ := h
    rfl
  · obtain ⟨a, b, xs, ys, rfl, ⟨dx, t, h1, h2⟩, ⟨dy, u, h3, h4⟩, hl, k⟩ := h
    refine ⟨_, (pss_cons (ps_if (pt_not (pt_val (pe_callB (C8.call_isC T.ic_Marks) (by rfl) T.z_isinstance (by decide +kernel) (pa_cons (pv 1) (pa_cons (pe_glob (v := .ref T.c_Marks) rfl T.g_Marks rfl) pa_nil))))) (pss_one ps_never) pss_nil)
        (pss_one (ps_ret (pe_make T.m_Marks (ok_Marks__init T) (hr.mono (by decide)) (by rfl) T.g_Marks T.b_Marks__init .nil pass0 (pa_cons (pe_op (Au.op_catTNK (K := K)) (Au.pe_fldK (K := K) (pv 0)) (Au.pe_fldK (K := K) (pv 1))) pa_nil))))), ?_⟩
    walk_at "st"
    walk_at "go"
    refine ⟨b, dy, _, rfl, h3, ?_⟩
    walk_at "go"
    refine ⟨a, _, dx, _, _, rfl, h1, T.cl_Marks, T.na_Marks_lines, mf_lines t, ?_⟩
    walk_at "go"
    refine ⟨b, _, dy, _, _, rfl, h3, T.cl_Marks, T.na_Marks_lines, mf_lines u, ?_⟩
    walk_at "go"
    refine x_catT (SqT.of h2) (SqT.of h4) (by rw [List.length_map, List.length_map]; exact Nat.le_of_lt (big_enough (by omega))) fun p H2 s2 hp => ?_
    rw [← List.map_append] at hp
    walk_at "go"
    exact mk_marks (.inr hp) (by rw [List.length_append]; exact hl) fun x H' s _ M => k x H' (s2.trans s) M
/-- the membership of an int -/
theorem in_ints (n : Int) (ys : List Int) : inV (.int n) (ys.map V.int) = decide (n ∈ ys) := by
  unfold inV
  induction ys with
  | nil => rfl
  | cons y r ih =>
    rw [List.map_cons, List.any_cons, ih]
    show ((y == n) || decide (n ∈ r)) = _
    by_cases h : y = n
    · subst h
      simp
    · have h' : ¬ n = y := fun z => h z.symm
      simp [h, h']
theorem flat_ints (ys : List Int) : (ys.map V.int).all flatV = true := by
  induction ys with
  | nil => rfl
  | cons y r ih => exact ih
theorem x_in {H : Hp} {Q : VK} {p : Addr} {ys : List Int} {n : Int} (h : SqL K H p (ys.map V.int) ∨ SqT K H p (ys.map V.int)) (q : Q (.bl (decide (n ∈ ys))) H) : rIn K false (.int n) (.ref p) H Q :=
  ⟨p, _, rfl, h, rfl, flat_ints ys, by rw [in_ints]; exact q⟩
theorem x_notin {H : Hp} {Q : VK} {p : Addr} {ys : List Int} {n : Int} (h : SqL K H p (ys.map V.int) ∨ SqT K H p (ys.map V.int)) (q : Q (.bl (!decide (n ∈ ys))) H) : rIn K true (.int n) (.ref p) H Q :=
  ⟨p, _, rfl, h, rfl, flat_ints ys, by rw [in_ints]; exact q⟩
theorem less_map (xs ys : List Int) : (((xs.map V.int).filter fun v => !inV v (ys.map V.int)).map fun v => v) = (less xs ys).map V.int := by
  unfold less
  induction xs with
  | nil => rfl
  | cons x r ih =>
    rw [List.map_cons, List.filter_cons, List.filter_cons, in_ints]
    split
    · rw [List.map_cons, List.map_cons, ih]
    · exact ih
theorem ok_Marks__sub (T : Ctx K mg) : FnOk P w K mg base CX0 3 T.f_Marks__sub T.fd_Marks__sub ["self", "other"] (spSub T.c_Marks) := by
  refine T.F_Marks__sub.ok sc_Marks__sub (fun vs H Q E h => ?_) (fun cdv A outer s H vs Q E hr h => ?_)
  · obtain ⟨a, b, xs, ys, rfl, _⟩ := h
    rfl
  · obtain ⟨a, b, xs, ys, rfl, ⟨dx, t, h1, h2⟩, ⟨dy, u, h3, h4⟩, hl, k⟩ := h
    refine ⟨_, (pss_cons (ps_if (pt_not (pt_val (pe_callB (C8.call_isC T.ic_Marks) (by rfl) T.z_isinstance (by decide +kernel) (pa_cons (pv 1) (pa_cons (pe_glob (v := .ref T.c_Marks) rfl T.g_Marks rfl) pa_nil))))) (pss_one ps_never) pss_nil)
        (pss_one (ps_ret (pe_make T.m_Marks (ok_Marks__init T) (hr.mono (by decide)) (by rfl) T.g_Marks T.b_Marks__init .nil pass0 (pa_cons (pe_lc (own := [("line", 2)]) rfl sc_Marks__sub.nd (Au.pi_tupK (K := K) (Au.pe_fldK (K := K) (pv 0))) (blkOk_by (own := [("line", 2)]) (N := ["self", "other", "line"]) (sc := defScope s_Marks__sub) (by decide +kernel)) (fun _ _ _ _ _ => pg_name (i := 2) sc_Marks__sub.nd rfl (Or.inl rfl)) (fun _ _ _ _ _ => (pts_one (pt_cmpR (Au.op_notInK (K := K)) (pv 2) (Au.pe_fldK (K := K) (pv 1)) (by rfl)))) (fun _ _ _ _ _ => (pv 2))) pa_nil))))), ?_⟩
    walk_at "st"
    walk_at "go"
    refine ⟨b, dy, _, rfl, h3, ?_⟩
    walk_at "go"
    refine ⟨a, _, dx, _, _, rfl, h1, T.cl_Marks, T.na_Marks_lines, mf_lines t, ?_⟩
    refine ⟨t, rfl, ⟨_, SqT.of h2⟩, ?_⟩
    refine e_lcT (fun v => !inV v (ys.map V.int)) (fun v => v) (SqT.of h2) (by rw [List.length_map]; omega) (fun i x H1 hi s R S hR hS => ?_) fun D H2 n2 => ?_
    · obtain ⟨z, rfl⟩ : ∃ z, x = V.int z := by
        rw [List.getElem?_map] at hi
        cases e : xs[i]? with
        | none => rw [e] at hi; cases hi
        | some z => rw [e] at hi; exact ⟨z, (Option.some.inj hi).symm⟩
      walk_at "go"
      refine ⟨rfl, ?_⟩
      walk_at "go"
      refine ⟨b, _, dy, _, _, rfl, s _ _ h3, T.cl_Marks, T.na_Marks_lines, mf_lines u, ?_⟩
      refine x_notin (.inr (SqT.of (s _ _ h4))) ?_
      rw [in_ints] at hR hS
      walk_at "go"
      refine x_ifB (fun e => ?_) (fun e => ?_)
      · walk_at "go"
        exact hR e _ (Same.refl _)
      · exact hS e _ (Same.refl _)
    · have e2 := less_map xs ys
      have n2' := n2.at_
      rw [e2] at n2'
      walk_at "go"
      exact mk_marks (.inl (SqL.of n2')) (Nat.le_trans (less_length xs ys) hl) fun x H' s _ M => k x H' (n2.same.trans s) M
end
end K63
set_option Elab.async false
set_option linter.all false
set_option maxRecDepth 100000
set_option maxHeartbeats 4000000
namespace K63
open PySem PySem.Spec PyProof.Rows L2 L2.Au Asc63
/-- the steps that need no thought -/
local macro_rules | `(tactic| walk_at "go") => `(tactic| ((repeat (first
  | ((with_reducible apply x_var); exact rfl)
  | (with_reducible refine x_c ?_)
  | (with_reducible refine x_op ?_)
  | (with_reducible refine x_un ?_)
  | (with_reducible refine x_i0 ?_)
  | (with_reducible refine x_u ?_)
  | (with_reducible refine x_eqI ?_)
  | (with_reducible refine x_neI ?_)
  | (with_reducible refine x_eqS ?_)
  | (with_reducible refine x_neS ?_)
  | (with_reducible refine x_eqB ?_)
  | (with_reducible refine x_neB ?_)
  | (with_reducible refine x_test ?_)
  | (with_reducible refine x_tB ?_)
  | (with_reducible refine x_k ?_)
  | (with_reducible refine x_not ?_)
  | (with_reducible refine x_and ?_)
  | (with_reducible refine x_or ?_)
  | (with_reducible refine x_andV ?_)
  | (with_reducible refine x_orV ?_)
  | (with_reducible refine x_notV ?_)
  | (with_reducible refine x_if ?_)
  | (with_reducible refine x_ifT ?_)
  | (with_reducible refine x_ifF ?_)
  | (with_reducible refine x_nil ?_)
  | (with_reducible refine x_cons ?_)
  | (with_reducible refine x_cb ?_)
  | (with_reducible refine x_call ?_)
  | (with_reducible refine x_seq ?_)
  | (with_reducible refine x_lcT ?_)
  | (with_reducible refine x_lcL ?_)
  | (with_reducible refine x_next ?_)
  | (with_reducible refine x_asg ?_)
  | (with_reducible refine x_name ?_)
  | (with_reducible refine x_sub ?_)
  | (with_reducible refine x_drop ?_)
  | (with_reducible refine x_ret ?_)
  | (with_reducible refine x_retN ?_)
  | (with_reducible refine x_ifS ?_)
  | (with_reducible refine x_intS ?_)
  | (with_reducible refine x_absS ?_)
  | (with_reducible refine x_minS ?_)
  | (with_reducible refine x_maxS ?_)
  | (with_reducible refine x_fld ?_)
  | (with_reducible refine x_bm ?_)
  | (with_reducible refine x_for ?_)
  | (with_reducible refine x_lc ?_)
  | (with_reducible refine x_ifNT ?_)
  | (with_reducible refine x_ifNF ?_)
  | (with_reducible refine x_sfld ?_)
  | (with_reducible refine x_make ?_)
  | (with_reducible refine x_meth ?_)
  | (with_reducible refine x_sl ?_)
  | (with_reducible refine x_noPart ?_)
  | (with_reducible refine x_part ?_)
  | (with_reducible refine x_kI ?_)
  | (with_reducible refine x_iR1 ?_)
  | (with_reducible refine x_iL ?_)
  | (with_reducible refine x_iT ?_)
  | (with_reducible refine x_lst ?_)
  | (with_reducible refine x_tup ?_)
  | (with_reducible refine OwR.x_smeth ?_)
  | (with_reducible refine OwR.x_listRev ?_)
  | (with_reducible refine x_isiII ?_)
  | (with_reducible refine x_isiIB ?_)
  | (with_reducible refine x_isiBB ?_)
  | (with_reducible refine x_isiSS ?_)
  | ((with_reducible apply x_ixL); (first | assumption | exact SqL.of (by assumption)); exact rfl)
  | ((with_reducible apply x_ixT); assumption; exact rfl)
  | ((with_reducible apply x_lenS); (first | assumption | exact Or.inl (SqL.of (by assumption)) | exact Or.inl (by assumption) | exact Or.inr (by assumption) | exact Or.inr (SqT.of (by assumption)))))); try dsimp only [List.set]))
local macro_rules | `(tactic| walk_at "st") => `(tactic| dsimp only [cxOf, L2.start, List.map, List.length, Nat.reduceAdd, Nat.reduceSub, List.replicate, List.cons_append, List.nil_append])
section
variable {P : Program} {w : World} {K : PySem.W.Frag} {mg : Str → Option Value} {base : Heap}
theorem int_at {xs : List Int} {i : Nat} {x : V} (h : (xs.map V.int)[i]? = some x) : ∃ z, xs[i]? = some z ∧ x = .int z := by
  rw [List.getElem?_map] at h
  cases e : xs[i]? with
  | none => rw [e] at h; cases h
  | some z => rw [e] at h; exact ⟨z, rfl, (Option.some.inj h).symm⟩
/-- == of tuples and lists of ints -/
theorem dpAll (H : Hp) : ∀ xs : List Int, DpAll K H (xs.map V.int) (xs.map PyData.int)
  | [] => .nil
  | x :: r => .cons (.int x) (dpAll H r)
theorem eqv_ints : ∀ xs ys : List Int, PyData.eqvAll (xs.map PyData.int) (ys.map PyData.int) = decide (xs = ys)
  | [], [] => rfl
  | [], y :: r => rfl
  | x :: r, [] => rfl
  | x :: r, y :: r' => by
    show (PyData.eqv (.int x) (.int y) && PyData.eqvAll (r.map PyData.int) (r'.map PyData.int)) = _
    rw [eqv_ints r r']
    show ((x == y) && decide (r = r')) = _
    by_cases h1 : x = y
    · subst h1
      by_cases h2 : r = r'
      · subst h2
        simp
      · simp [h2]
    · simp [h1]
theorem depth_ints : ∀ xs : List Int, PyData.depthAll (xs.map PyData.int) = 0
  | [] => rfl
  | x :: r => by
    show max (PyData.depth (.int x)) (PyData.depthAll (r.map PyData.int)) = 0
    rw [depth_ints r]
    rfl
theorem lay_ints : ∀ xs : List Int, PyData.canLayAll0 (xs.map PyData.int) = true
  | [] => rfl
  | x :: r => by
    show ((PyData.int x).canLay0 && PyData.canLayAll0 (r.map PyData.int)) = true
    rw [lay_ints r]
    rfl
theorem shaped_t (xs : List Int) : SeqAt.shaped (.tuple (xs.map PyData.int)) = true := by
  show (PyData.canLayAll0 (xs.map PyData.int) && decide (PyData.depthAll (xs.map PyData.int) + 1 ≤ 64)) = true
  rw [lay_ints, depth_ints]
  rfl
theorem shaped_l (xs : List Int) : SeqAt.shaped (.list (xs.map PyData.int)) = true := by
  show (PyData.canLayAll0 (xs.map PyData.int) && decide (PyData.depthAll (xs.map PyData.int) + 1 ≤ 64)) = true
  rw [lay_ints, depth_ints]
  rfl
theorem x_eqT {H : Hp} {Q : VK} {p q : Addr} {xs ys : List Int} (h1 : SqT K H p (xs.map V.int)) (h2 : SqT K H q (ys.map V.int)) (k : Q (.bl (decide (xs = ys))) H) : rEqD K (.ref p) (.ref q) H Q :=
  ⟨_, _, .tup h1 (dpAll H xs), .tup h2 (dpAll H ys), shaped_t xs, shaped_t ys, by show Q (.bl (PyData.eqvAll (xs.map PyData.int) (ys.map PyData.int))) H; rw [eqv_ints]; exact k⟩
theorem x_neL {H : Hp} {Q : VK} {p q : Addr} {xs ys : List Int} (h1 : SqL K H p (xs.map V.int)) (h2 : SqL K H q (ys.map V.int)) (k : Q (.bl (!decide (xs = ys))) H) : rNeD K (.ref p) (.ref q) H Q :=
  ⟨_, _, .lst h1 (dpAll H xs), .lst h2 (dpAll H ys), shaped_l xs, shaped_l ys, by show Q (.bl (!PyData.eqvAll (xs.map PyData.int) (ys.map PyData.int))) H; rw [eqv_ints]; exact k⟩
theorem ok_Marks__eq (T : Ctx K mg) : FnOk P w K mg base CX0 3 T.f_Marks__eq T.fd_Marks__eq ["self", "other"] (spEq T.c_Marks) := by
  refine T.F_Marks__eq.ok sc_Marks__eq (fun vs H Q E h => ?_) (fun cdv A outer s H vs Q E hr h => ?_)
  · obtain ⟨a, b, xs, ys, rfl, _⟩ := h
    rfl
  · obtain ⟨a, b, xs, ys, rfl, ⟨dx, t, h1, h2⟩, ⟨dy, u, h3, h4⟩, k⟩ := h
    refine ⟨_, (pss_cons (ps_if (pt_not (pt_val (pe_callB (C8.call_isC T.ic_Marks) (by rfl) T.z_isinstance (by decide +kernel) (pa_cons (pv 1) (pa_cons (pe_glob (v := .ref T.c_Marks) rfl T.g_Marks rfl) pa_nil))))) (pss_one (ps_ret pe_bl)) pss_nil)
        (pss_one (ps_ret (pe_cmpR (Au.op_eqDK (K := K) hr.units) (Au.pe_fldK (K := K) (pv 0)) (Au.pe_fldK (K := K) (pv 1)) (by rfl))))), ?_⟩
    walk_at "st"
    walk_at "go"
    refine ⟨b, dy, _, rfl, h3, ?_⟩
    walk_at "go"
    refine ⟨a, _, dx, _, _, rfl, h1, T.cl_Marks, T.na_Marks_lines, mf_lines t, ?_⟩
    walk_at "go"
    refine ⟨b, _, dy, _, _, rfl, h3, T.cl_Marks, T.na_Marks_lines, mf_lines u, ?_⟩
    exact x_eqT (SqT.of h2) (SqT.of h4) k
theorem ok_Marks__len (T : Ctx K mg) : FnOk P w K mg base CX0 1 T.f_Marks__len T.fd_Marks__len ["self"] (spLen T.c_Marks) := by
  refine T.F_Marks__len.ok sc_Marks__len (fun vs H Q E h => ?_) (fun cdv A outer s H vs Q E hr h => ?_)
  · obtain ⟨a, xs, rfl, _⟩ := h
    rfl
  · obtain ⟨a, xs, rfl, ⟨dx, t, h1, h2⟩, k⟩ := h
    refine ⟨_, (pss_one (ps_ret (pe_callB (Au.call_lenK (K := K)) (by rfl) T.z_len (by decide +kernel) (pa_cons (Au.pe_fldK (K := K) (pv 0)) pa_nil)))), ?_⟩
    walk_at "st"
    walk_at "go"
    refine ⟨a, _, dx, _, _, rfl, h1, T.cl_Marks, T.na_Marks_lines, mf_lines t, ?_⟩
    walk_at "go"
    rw [List.length_map]
    exact k
theorem ok_Marks__contains (T : Ctx K mg) : FnOk P w K mg base CX0 1 T.f_Marks__contains T.fd_Marks__contains ["self", "line"] (spIn T.c_Marks) := by
  refine T.F_Marks__contains.ok sc_Marks__contains (fun vs H Q E h => ?_) (fun cdv A outer s H vs Q E hr h => ?_)
  · obtain ⟨a, xs, n, rfl, _⟩ := h
    rfl
  · obtain ⟨a, xs, n, rfl, ⟨dx, t, h1, h2⟩, k⟩ := h
    refine ⟨_, (pss_one (ps_ret (pe_cmpR (Au.op_inK (K := K)) (pv 1) (Au.pe_fldK (K := K) (pv 0)) (by rfl)))), ?_⟩
    walk_at "st"
    walk_at "go"
    refine ⟨a, _, dx, _, _, rfl, h1, T.cl_Marks, T.na_Marks_lines, mf_lines t, ?_⟩
    exact x_in (.inr (SqT.of h2)) k
theorem ok_Marks__iter (T : Ctx K mg) : FnOk P w K mg base CX0 1 T.f_Marks__iter T.fd_Marks__iter ["self"] (spIter T.c_Marks) := by
  refine T.F_Marks__iter.ok sc_Marks__iter (fun vs H Q E h => ?_) (fun cdv A outer s H vs Q E hr h => ?_)
  · obtain ⟨a, dx, t, xs, rfl, _⟩ := h
    rfl
  · obtain ⟨a, dx, t, xs, rfl, h1, h2, k⟩ := h
    refine ⟨_, (pss_one (ps_ret (pe_callB OwR.call_iterT (by rfl) T.z_iter (by decide +kernel) (pa_cons (Au.pe_fldK (K := K) (pv 0)) pa_nil)))), ?_⟩
    walk_at "st"
    walk_at "go"
    refine ⟨a, _, dx, _, _, rfl, h1, T.cl_Marks, T.na_Marks_lines, mf_lines t, ?_⟩
    walk_at "go"
    exact ⟨t, _, rfl, SqT.of h2, fun it hi => k it hi⟩
theorem ok_Marks_within (T : Ctx K mg) : FnOk P w K mg base CX0 1 T.f_Marks_within T.fd_Marks_within ["self", "other"] (spWithin T.c_Marks) := by
  refine T.F_Marks_within.ok sc_Marks_within (fun vs H Q E h => ?_) (fun cdv A outer s H vs Q E hr h => ?_)
  · obtain ⟨a, b, xs, ys, rfl, _⟩ := h
    rfl
  · obtain ⟨a, b, xs, ys, rfl, ⟨dx, t, h1, h2⟩, ⟨dy, u, h3, h4⟩, k⟩ := h
    refine ⟨_, (pss_cons (ps_for PassesOwn.never rfl (Au.pi_tupK (K := K) (Au.pe_fldK (K := K) (pv 0))) (pg_name (i := 2) sc_Marks_within.nd rfl (Or.inl rfl)) (pss_one (ps_if (pt_cmpR (Au.op_notInK (K := K)) (pv 2) (Au.pe_fldK (K := K) (pv 1)) (by rfl)) (pss_one (ps_ret pe_bl)) pss_nil)))
        (pss_one (ps_ret pe_bl))), ?_⟩
    walk_at "st"
    walk_at "go"
    refine ⟨a, _, dx, _, _, rfl, h1, T.cl_Marks, T.na_Marks_lines, mf_lines t, ?_⟩
    refine ⟨t, rfl, ⟨_, SqT.of h2⟩, ?_⟩
    refine e_tup (xs := xs.map V.int) (fun i σ' H' => ∃ y, σ' = [some (.ref a), some (.ref b), y] ∧ H' = H ∧ less (xs.take i) ys = []) ⟨_, rfl, rfl, rfl⟩ (fun i σ' H' hi p => ?_) (fun i x σ' H' hi p => ?_) (fun σ' H' p => ?_)
    · obtain ⟨y, rfl, rfl, _⟩ := p
      exact SqT.of h2
    · obtain ⟨y, rfl, rfl, e⟩ := p
      obtain ⟨z, hz, rfl⟩ := int_at hi
      walk_at "go"
      refine ⟨b, _, dy, _, _, rfl, h3, T.cl_Marks, T.na_Marks_lines, mf_lines u, ?_⟩
      refine x_notin (.inr (SqT.of h4)) ?_
      walk_at "go"
      refine x_ifN (fun m => ?_) (fun m => ?_)
      · walk_at "go"
        rw [decide_eq_false (fun e0 => by have := mem_less.2 ⟨List.mem_of_getElem? hz, m⟩; rw [e0] at this; exact nomatch this)] at k
        exact k
      · walk_at "go"
        refine ⟨_, rfl, rfl, ?_⟩
        rw [List.take_add_one, hz]
        unfold less at e ⊢
        rw [List.filter_append, e]
        simp [m]
    · obtain ⟨y, rfl, rfl, e⟩ := p
      rw [List.length_map, List.take_length] at e
      rw [decide_eq_true e] at k
      walk_at "go"
      exact k
end
end K63
set_option Elab.async false
set_option linter.all false
set_option maxRecDepth 100000
set_option maxHeartbeats 4000000
namespace K63
open PySem PySem.Spec PyProof.Rows L2 L2.Au Asc63
/-- the steps that need no thought -/
local macro_rules | `(tactic| walk_at "go") => `(tactic| ((repeat (first
  | ((with_reducible apply x_var); exact rfl)
  | (with_reducible refine x_c ?_)
  | (with_reducible refine x_op ?_)
  | (with_reducible refine x_un ?_)
  | (with_reducible refine x_i0 ?_)
  | (with_reducible refine x_u ?_)
  | (with_reducible refine x_eqI ?_)
  | (with_reducible refine x_neI ?_)
  | (with_reducible refine x_eqS ?_)
  | (with_reducible refine x_neS ?_)
  | (with_reducible refine x_eqB ?_)
  | (with_reducible refine x_neB ?_)
  | (with_reducible refine x_test ?_)
  | (with_reducible refine x_tB ?_)
  | (with_reducible refine x_k ?_)
  | (with_reducible refine x_not ?_)
  | (with_reducible refine x_and ?_)
  | (with_reducible refine x_or ?_)
  | (with_reducible refine x_andV ?_)
  | (with_reducible refine x_orV ?_)
  | (with_reducible refine x_notV ?_)
  | (with_reducible refine x_if ?_)
  | (with_reducible refine x_ifT ?_)
  | (with_reducible refine x_ifF ?_)
  | (with_reducible refine x_nil ?_)
  | (with_reducible refine x_cons ?_)
  | (with_reducible refine x_cb ?_)
  | (with_reducible refine x_call ?_)
  | (with_reducible refine x_seq ?_)
  | (with_reducible refine x_lcT ?_)
  | (with_reducible refine x_lcL ?_)
  | (with_reducible refine x_next ?_)
  | (with_reducible refine x_asg ?_)
  | (with_reducible refine x_name ?_)
  | (with_reducible refine x_sub ?_)
  | (with_reducible refine x_drop ?_)
  | (with_reducible refine x_ret ?_)
  | (with_reducible refine x_retN ?_)
  | (with_reducible refine x_ifS ?_)
  | (with_reducible refine x_intS ?_)
  | (with_reducible refine x_absS ?_)
  | (with_reducible refine x_minS ?_)
  | (with_reducible refine x_maxS ?_)
  | (with_reducible refine x_fld ?_)
  | (with_reducible refine x_bm ?_)
  | (with_reducible refine x_for ?_)
  | (with_reducible refine x_lc ?_)
  | (with_reducible refine x_ifNT ?_)
  | (with_reducible refine x_ifNF ?_)
  | (with_reducible refine x_sfld ?_)
  | (with_reducible refine x_make ?_)
  | (with_reducible refine x_meth ?_)
  | (with_reducible refine x_sl ?_)
  | (with_reducible refine x_noPart ?_)
  | (with_reducible refine x_part ?_)
  | (with_reducible refine x_kI ?_)
  | (with_reducible refine x_iR1 ?_)
  | (with_reducible refine x_iL ?_)
  | (with_reducible refine x_iT ?_)
  | (with_reducible refine x_lst ?_)
  | (with_reducible refine x_tup ?_)
  | (with_reducible refine OwR.x_smeth ?_)
  | (with_reducible refine OwR.x_listRev ?_)
  | (with_reducible refine x_isiII ?_)
  | (with_reducible refine x_isiIB ?_)
  | (with_reducible refine x_isiBB ?_)
  | (with_reducible refine x_isiSS ?_)
  | ((with_reducible apply x_ixL); (first | assumption | exact SqL.of (by assumption)); exact rfl)
  | ((with_reducible apply x_ixT); assumption; exact rfl)
  | ((with_reducible apply x_lenS); (first | assumption | exact Or.inl (SqL.of (by assumption)) | exact Or.inl (by assumption) | exact Or.inr (by assumption) | exact Or.inr (SqT.of (by assumption)))))); try dsimp only [List.set]))
local macro_rules | `(tactic| walk_at "st") => `(tactic| dsimp only [cxOf, L2.start, List.map, List.length, Nat.reduceAdd, Nat.reduceSub, List.replicate, List.cons_append, List.nil_append])
def spOf0 (C : Addr) : Sp := fun vs H Q _ => ∃ (p : Addr) (ns : List Int), vs = [.ref p] ∧ H p = some (.tup (ns.map V.int)) ∧ ns.length ≤ 63 ∧ ∀ x H', Same H H' → MarksAt C H' x (canon ns) → Q (.ref x) H'
def spSet : Sp := fun vs H Q _ => ∃ (p : Addr) (ns : List Int), vs = [.ref p] ∧ H p = some (.lst (ns.map V.int)) ∧ ns.length ≤ 60 ∧ ∀ t H', Same H H' → H t = none → H' t = some (.tup ((canon ns).map V.int)) → Q (.ref t) H'
def spLess : Sp := fun vs H Q _ => ∃ (p q : Addr) (xs ys : List Int), vs = [.ref p, .ref q] ∧ H p = some (.tup (xs.map V.int)) ∧ H q = some (.tup (ys.map V.int)) ∧ xs.length ≤ 63 ∧ ∀ t H', Same H H' → H' t = some (.tup ((less xs ys).map V.int)) → Q (.ref t) H'
def spFlag : Sp := fun vs H Q _ => ∃ b : Bool, vs = [.bl b, .bl b] ∧ Q (.bl true) H
section
variable {P : Program} {w : World} {K : PySem.W.Frag} {mg : Str → Option Value} {base : Heap}
theorem at_last (L : List Int) (b : Int) : atI ((L ++ [b]).map V.int) (-1) = some (V.int b) := by
  unfold atI ixN
  rw [if_neg (by decide), List.length_map, List.length_append, List.length_singleton, if_pos (by omega)]
  show ((L ++ [b]).map V.int)[_]? = _
  rw [show (-1 + ((L.length + 1 : Nat) : Int)).toNat = L.length by omega, List.getElem?_map, List.getElem?_append_right (Nat.le_refl _), Nat.sub_self]
  rfl
theorem ok_Marks_of (T : Ctx K mg) : FnR P w K mg base CX0 3 T.f_Marks_of (fun vs H Q E => vs.length ≤ sizeLine ∧ ∀ p, H p = none → spOf0 T.c_Marks [.ref p] (upd H p (.tup vs)) Q E) := by
  refine OwR.star_ok (k := 2) (pv := "lines") T.F_Marks_of sc_Marks_of (fun _ _ _ _ _ _ rest => match rest with | [] => rfl | _ :: _ => rfl) (fun cdv A outer s H vs Q E hr h => ?_)
  obtain ⟨p, ns, rfl, hp, hl, k⟩ := h
  refine ⟨_, (pss_one (ps_ret (pe_make T.m_Marks (ok_Marks__init T) (hr.mono (by decide)) (by rfl) T.g_Marks T.b_Marks__init .nil pass0 (pa_cons (pv 0) pa_nil)))), ?_⟩
  walk_at "st"
  walk_at "go"
  exact mk_marks (.inr (SqT.of hp)) hl fun x H' s _ M => k x H' s M
theorem ok_law_set (T : Ctx K mg) : FnOk P w K mg base CX0 1 T.f_law_set T.fd_law_set ["lot"] spSet := by
  refine T.F_law_set.ok sc_law_set (fun vs H Q E h => ?_) (fun cdv A outer s H vs Q E hr h => ?_)
  · obtain ⟨p, ns, rfl, _⟩ := h
    rfl
  · obtain ⟨p, ns, rfl, hp, hl, k⟩ := h
    refine ⟨_, (pss_cons (ps_set (i := 1) sc_law_set.nd rfl (Or.inl rfl) (Au.pe_lstN pa_nil))
        (pss_cons (ps_for PassesOwn.never rfl (Au.pi_listK (K := K) (pe_callB cr_sorted (by rfl) T.z_sorted (by decide +kernel) (pa_cons (pv 0) pa_nil))) (pg_name (i := 2) sc_law_set.nd rfl (Or.inl rfl)) (pss_one (ps_if (PW.pt (pw_or (pt_not (Au.pe_truthK (K := K) (pv 1))) (pw_or1 (pt_cmpR op_ne (pe_ix (Au.ix_listK (K := K)) (pv 1) (pe_un un_neg pe_int) (fun _ _ => rfl)) (pv 2) (by rfl))))) (pss_one (ps_expr (pe_bm PySem.F.plainAttrs_list PySem.F.slot_list_append PySem.F.type_list_append mt_append (pv 1) (pa_cons (pv 2) pa_nil)))) pss_nil)))
        (pss_one (ps_ret (pe_callTy (Au.call_tupK (K := K)) (by rfl) T.z_tuple (by decide +kernel) (pa_cons (pv 1) pa_nil)))))), ?_⟩
    walk_at "st"
    walk_at "go"
    refine ⟨Nat.zero_le _, fun m H1 n1 => ?_⟩
    walk_at "go"
    refine ⟨p, ns, rfl, SqL.of (n1.same _ _ hp), by omega, fun ns' q pe od hq => ?_⟩
    have n2 := New.mk' (o := .lst (ns'.map V.int)) hq
    generalize upd H1 q (.lst (ns'.map V.int)) = H2 at n2 ⊢
    have nmq : m ≠ q := ne_of_none n1.at_ n2.fr
    refine ⟨q, rfl, ⟨_, SqL.of n2.at_⟩, ?_⟩
    refine e_list (xs := ns'.map V.int) (fun i σ' H' => ∃ y, σ' = [some (.ref p), some (.ref m), y] ∧ Same H H' ∧ H' q = some (.lst (ns'.map V.int)) ∧ H' m = some (.lst ((walk (ns'.take i)).map V.int))) ⟨_, rfl, n1.same.trans n2.same, n2.at_, n2.same _ _ n1.at_⟩ (fun i σ' H' hi p => ?_) (fun i x σ' H' hi p => ?_) (fun σ' H' p => ?_)
    · obtain ⟨y, rfl, _, hq', _⟩ := p
      exact SqL.of hq'
    · obtain ⟨y, rfl, sm, hq', hm⟩ := p
      obtain ⟨z, hz, rfl⟩ := int_at hi
      have e1 : walk (ns'.take (i + 1)) = keep (walk (ns'.take i)) z := by
        rw [List.take_add_one, hz]
        exact walk_snoc _ _
      have hW : (walk (ns'.take i)).length ≤ 60 := by
        have h1 := walk_len (ns'.take i)
        have h2 := pe.length_eq
        rw [List.length_take] at h1
        omega
      generalize walk (ns'.take i) = W at *
      walk_at "go"
      rcases List.eq_nil_or_concat W with e0 | ⟨L, b, e0⟩
      · subst e0
        refine ⟨false, .inl ⟨_, SqL.of hm, rfl⟩, ?_⟩
        walk_at "go"
        refine ⟨ty_lst hm, ?_⟩
        walk_at "go"
        refine x_appM hm (by decide +kernel) fun H3 k3 hm3 => ⟨_, rfl, sameK sm k3 n1.fr, k3 q _ nmq.symm hq', ?_⟩
        rw [e1]
        exact hm3
      · rw [List.concat_eq_append] at e0
        subst e0
        have ga : (L ++ [b]).getLast? = some b := by simp
        have gi : atI ((L ++ [b]).map V.int) (-1) = some (V.int b) := at_last L b
        refine ⟨true, .inl ⟨_, SqL.of hm, by simp⟩, ?_⟩
        walk_at "go"
        refine x_ixL (SqL.of hm) gi ?_
        walk_at "go"
        refine x_ifN (fun ne => ?_) (fun eq => ?_)
        · walk_at "go"
          refine ⟨ty_lst hm, ?_⟩
          walk_at "go"
          refine x_appM hm (by rw [List.length_map]; exact big_enough (by omega)) fun H3 k3 hm3 => ⟨_, rfl, sameK sm k3 n1.fr, k3 q _ nmq.symm hq', ?_⟩
          rw [e1]
          unfold keep
          rw [if_neg (by rw [ga]; exact fun z => ne (Option.some.inj z)), List.map_append]
          exact hm3
        · walk_at "go"
          refine ⟨_, rfl, sm, hq', ?_⟩
          rw [e1]
          unfold keep
          rw [if_pos (by rw [ga, eq])]
          exact hm
    · obtain ⟨y, rfl, sm, _, hm⟩ := p
      rw [List.length_map, List.take_length, walk_canon od pe] at hm
      walk_at "go"
      refine x_tupL (SqL.of hm) fun t H3 n3 => ?_
      exact k t H3 (sm.trans n3.same) (sm.free n3.fr) n3.at_
theorem ok_law_less (T : Ctx K mg) : FnOk P w K mg base CX0 1 T.f_law_less T.fd_law_less ["one", "two"] spLess := by
  refine T.F_law_less.ok sc_law_less (fun vs H Q E h => ?_) (fun cdv A outer s H vs Q E hr h => ?_)
  · obtain ⟨p, q, xs, ys, rfl, _⟩ := h
    rfl
  · obtain ⟨p, q, xs, ys, rfl, h2, h4, hl, k⟩ := h
    refine ⟨_, (pss_one (ps_ret (pe_callTy (Au.call_tupK (K := K)) (by rfl) T.z_tuple (by decide +kernel) (pa_cons (pe_lc (own := [("item", 2)]) rfl sc_law_less.nd (Au.pi_tupK (K := K) (pv 0)) (blkOk_by (own := [("item", 2)]) (N := ["one", "two", "item"]) (sc := defScope s_law_less) (by decide +kernel)) (fun _ _ _ _ _ => pg_name (i := 2) sc_law_less.nd rfl (Or.inl rfl)) (fun _ _ _ _ _ => (pts_one (pt_cmpR (Au.op_notInK (K := K)) (pv 2) (pv 1) (by rfl)))) (fun _ _ _ _ _ => (pv 2))) pa_nil)))), ?_⟩
    walk_at "st"
    walk_at "go"
    refine ⟨p, rfl, ⟨_, SqT.of h2⟩, ?_⟩
    refine e_lcT (fun v => !inV v (ys.map V.int)) (fun v => v) (SqT.of h2) (by rw [List.length_map]; omega) (fun i x H1 hi s R S hR hS => ?_) fun D H2 n2 => ?_
    · obtain ⟨z, _, rfl⟩ := int_at hi
      walk_at "go"
      refine ⟨rfl, ?_⟩
      walk_at "go"
      refine x_notin (.inr (SqT.of (s _ _ h4))) ?_
      rw [in_ints] at hR hS
      walk_at "go"
      refine x_ifB (fun e => ?_) (fun e => ?_)
      · walk_at "go"
        exact hR e _ (Same.refl _)
      · exact hS e _ (Same.refl _)
    · have n2' := n2.at_
      rw [less_map xs ys] at n2'
      walk_at "go"
      refine x_tupL (SqL.of n2') fun t H3 n3 => ?_
      exact k t H3 (n2.same.trans n3.same) n3.at_
theorem ok_law_flag (T : Ctx K mg) : FnOk P w K mg base CX0 1 T.f_law_flag T.fd_law_flag ["actual", "due"] spFlag := by
  refine T.F_law_flag.ok sc_law_flag (fun vs H Q E h => ?_) (fun cdv A outer s H vs Q E hr h => ?_)
  · obtain ⟨b, rfl, _⟩ := h
    rfl
  · obtain ⟨b, rfl, k⟩ := h
    refine ⟨_, (pss_one (ps_ret (pe_and (pe_callB call_isi (by rfl) T.z_isinstance (by decide +kernel) (pa_cons (pv 0) (pa_cons (pe_bltn (v := .ty "bool") rfl T.z_bool (by decide +kernel) rfl) pa_nil))) (pe_one (pe_cmpR op_eq (pv 0) (pv 1) (by rfl)))))), ?_⟩
    walk_at "st"
    walk_at "go"
    rw [decide_eq_true rfl]
    exact k
end
end K63
set_option Elab.async false
set_option linter.all false
set_option maxRecDepth 100000
set_option maxHeartbeats 4000000
namespace K63
open PySem PySem.Spec PyProof.Rows L2 L2.Au Asc63
/-- the steps that need no thought -/
local macro_rules | `(tactic| walk_at "go") => `(tactic| ((repeat (first
  | ((with_reducible apply x_var); exact rfl)
  | (with_reducible refine x_c ?_)
  | (with_reducible refine x_op ?_)
  | (with_reducible refine x_un ?_)
  | (with_reducible refine x_i0 ?_)
  | (with_reducible refine x_u ?_)
  | (with_reducible refine x_eqI ?_)
  | (with_reducible refine x_neI ?_)
  | (with_reducible refine x_eqS ?_)
  | (with_reducible refine x_neS ?_)
  | (with_reducible refine x_eqB ?_)
  | (with_reducible refine x_neB ?_)
  | (with_reducible refine x_test ?_)
  | (with_reducible refine x_tB ?_)
  | (with_reducible refine x_k ?_)
  | (with_reducible refine x_not ?_)
  | (with_reducible refine x_and ?_)
  | (with_reducible refine x_or ?_)
  | (with_reducible refine x_andV ?_)
  | (with_reducible refine x_orV ?_)
  | (with_reducible refine x_notV ?_)
  | (with_reducible refine x_if ?_)
  | (with_reducible refine x_ifT ?_)
  | (with_reducible refine x_ifF ?_)
  | (with_reducible refine x_nil ?_)
  | (with_reducible refine x_cons ?_)
  | (with_reducible refine x_cb ?_)
  | (with_reducible refine x_call ?_)
  | (with_reducible refine x_seq ?_)
  | (with_reducible refine x_lcT ?_)
  | (with_reducible refine x_lcL ?_)
  | (with_reducible refine x_next ?_)
  | (with_reducible refine x_asg ?_)
  | (with_reducible refine x_name ?_)
  | (with_reducible refine x_sub ?_)
  | (with_reducible refine x_drop ?_)
  | (with_reducible refine x_ret ?_)
  | (with_reducible refine x_retN ?_)
  | (with_reducible refine x_ifS ?_)
  | (with_reducible refine x_intS ?_)
  | (with_reducible refine x_absS ?_)
  | (with_reducible refine x_minS ?_)
  | (with_reducible refine x_maxS ?_)
  | (with_reducible refine x_fld ?_)
  | (with_reducible refine x_bm ?_)
  | (with_reducible refine x_for ?_)
  | (with_reducible refine x_lc ?_)
  | (with_reducible refine x_ifNT ?_)
  | (with_reducible refine x_ifNF ?_)
  | (with_reducible refine x_sfld ?_)
  | (with_reducible refine x_make ?_)
  | (with_reducible refine x_meth ?_)
  | (with_reducible refine x_sl ?_)
  | (with_reducible refine x_noPart ?_)
  | (with_reducible refine x_part ?_)
  | (with_reducible refine x_kI ?_)
  | (with_reducible refine x_iR1 ?_)
  | (with_reducible refine x_iL ?_)
  | (with_reducible refine x_iT ?_)
  | (with_reducible refine x_lst ?_)
  | (with_reducible refine x_tup ?_)
  | (with_reducible refine OwR.x_smeth ?_)
  | (with_reducible refine OwR.x_listRev ?_)
  | (with_reducible refine x_isiII ?_)
  | (with_reducible refine x_isiIB ?_)
  | (with_reducible refine x_isiBB ?_)
  | (with_reducible refine x_isiSS ?_)
  | ((with_reducible apply x_ixL); (first | assumption | exact SqL.of (by assumption)); exact rfl)
  | ((with_reducible apply x_ixT); assumption; exact rfl)
  | ((with_reducible apply x_lenS); (first | assumption | exact Or.inl (SqL.of (by assumption)) | exact Or.inl (by assumption) | exact Or.inr (by assumption) | exact Or.inr (SqT.of (by assumption)))))); try dsimp only [List.set]))
local macro_rules | `(tactic| walk_at "st") => `(tactic| dsimp only [cxOf, L2.start, List.map, List.length, Nat.reduceAdd, Nat.reduceSub, List.replicate, List.cons_append, List.nil_append])
def spIs (C : Addr) : Sp := fun vs H Q _ => ∃ (a p : Addr) (ms : List Int), vs = [.ref a, .ref p] ∧ MarksAt C H a ms ∧ H p = some (.tup (ms.map V.int)) ∧ ms.length ≤ 63 ∧ ∀ H', Same H H' → Q (.bl true) H'
def spPair (C : Addr) : Sp := fun vs H Q _ => ∃ (a b p q : Addr) (xs ys : List Int), vs = [.ref a, .ref b, .ref p, .ref q] ∧ MarksAt C H a xs ∧ MarksAt C H b ys ∧ H p = some (.tup (xs.map V.int)) ∧ H q = some (.tup (ys.map V.int)) ∧
  xs.length + ys.length ≤ 60 ∧ Asc xs ∧ Asc ys ∧ ∀ H', Same H H' → Q (.bl true) H'
def spOf (C : Addr) : Sp := fun vs H Q _ => ∃ (p : Addr) (ns : List Int), vs = [.ref p] ∧ H p = some (.lst (ns.map V.int)) ∧ (ns.length : Int) ∈ ([0, 1, 2, 3, 5, 8, 12, 30] : List Int) ∧ ∀ x H', Same H H' → MarksAt C H' x (canon (ns.take 8)) → Q (.ref x) H'
def spWalked (C : Addr) : Sp := fun vs H Q _ => ∃ (a p : Addr) (ms : List Int), vs = [.ref a, .ref p] ∧ MarksAt C H a ms ∧ H p = some (.tup (ms.map V.int)) ∧ ∀ H', Same H H' → Q (.bl true) H'
section
variable {P : Program} {w : World} {K : PySem.W.Frag} {mg : Str → Option Value} {base : Heap}
theorem ok_law_is (T : Ctx K mg) : FnOk P w K mg base CX0 5 T.f_law_is T.fd_law_is ["marks", "due"] (spIs T.c_Marks) := by
  refine T.F_law_is.ok sc_law_is (fun vs H Q E h => ?_) (fun cdv A outer s H vs Q E hr h => ?_)
  · obtain ⟨a, p, ms, rfl, _⟩ := h
    rfl
  · obtain ⟨a, p, ms, rfl, ⟨dx, t, h1, h2⟩, hp, hl, k⟩ := h
    refine ⟨_, (pss_cons (ps_if (PW.pt (pw_or (pt_not (pt_val (pe_callB (C8.call_isC T.ic_Marks) (by rfl) T.z_isinstance (by decide +kernel) (pa_cons (pv 0) (pa_cons (pe_glob (v := .ref T.c_Marks) rfl T.g_Marks rfl) pa_nil))))) (pw_or1 (pt_not (pt_val (pe_callB call_isi (by rfl) T.z_isinstance (by decide +kernel) (pa_cons (Au.pe_fldK (K := K) (pv 0)) (pa_cons (pe_bltn (v := .ty "tuple") rfl T.z_tuple (by decide +kernel) rfl) pa_nil)))))))) (pss_one (ps_ret pe_bl)) pss_nil)
        (pss_cons (ps_set (i := 2) sc_law_is.nd rfl (Or.inl rfl) (Au.pe_fldK (K := K) (pv 0)))
        (pss_cons (ps_set (i := 3) sc_law_is.nd rfl (Or.inl rfl) (pe_callTy (OwR.call_listO T.s_Marks__iter (ok_Marks__iter T) T.b_Marks__iter pass0 T.s_Marks__len (ok_Marks__len T) T.b_Marks__len (hr.mono (by decide)) rfl) (by rfl) T.z_list (by decide +kernel) (pa_cons (pv 0) pa_nil)))
        (pss_cons (ps_if (PW.pt (pw_or (pt_cmpR op_ne (pe_callB (Au.call_lenK (K := K)) (by rfl) T.z_len (by decide +kernel) (pa_cons (pv 2) pa_nil)) (pe_callB (Au.call_lenK (K := K)) (by rfl) T.z_len (by decide +kernel) (pa_cons (pv 1) pa_nil)) (by rfl)) (pw_or (pt_cmpR op_ne (pe_callB (Au.call_lenK (K := K)) (by rfl) T.z_len (by decide +kernel) (pa_cons (pv 3) pa_nil)) (pe_callB (Au.call_lenK (K := K)) (by rfl) T.z_len (by decide +kernel) (pa_cons (pv 1) pa_nil)) (by rfl)) (pw_or1 (pt_cmpR op_ne (pe_callB (OwR.cr_lenO T.s_Marks__len (ok_Marks__len T) (hr.mono (by decide)) T.b_Marks__len pass0) (by rfl) T.z_len (by decide +kernel) (pa_cons (pv 0) pa_nil)) (pe_callB (Au.call_lenK (K := K)) (by rfl) T.z_len (by decide +kernel) (pa_cons (pv 1) pa_nil)) (by rfl)))))) (pss_one (ps_ret pe_bl)) pss_nil)
        (pss_cons (ps_for PassesOwn.never rfl (pi_range1 (by rfl) T.z_range (pa_cons (pe_callB (Au.call_lenK (K := K)) (by rfl) T.z_len (by decide +kernel) (pa_cons (pv 1) pa_nil)) pa_nil)) (pg_name (i := 4) sc_law_is.nd rfl (Or.inl rfl)) (pss_one (ps_for PassesOwn.never rfl (Au.pi_listK (K := K) (Au.pe_lstN (pa_cons (pe_ix (Au.ix_tupK (K := K)) (pv 2) (pv 4) (fun _ _ => rfl)) (pa_cons (pe_ix (Au.ix_listK (K := K)) (pv 3) (pv 4) (fun _ _ => rfl)) pa_nil)))) (pg_name (i := 5) sc_law_is.nd rfl (Or.inl rfl)) (pss_one (ps_if (PW.pt (pw_or (pt_not (pt_val (pe_callB call_isi (by rfl) T.z_isinstance (by decide +kernel) (pa_cons (pv 5) (pa_cons (pe_bltn (v := .ty "int") rfl T.z_int (by decide +kernel) rfl) pa_nil))))) (pw_or (pt_val (pe_callB call_isi (by rfl) T.z_isinstance (by decide +kernel) (pa_cons (pv 5) (pa_cons (pe_bltn (v := .ty "bool") rfl T.z_bool (by decide +kernel) rfl) pa_nil)))) (pw_or1 (pt_cmpR op_ne (pv 5) (pe_ix (Au.ix_tupK (K := K)) (pv 1) (pv 4) (fun _ _ => rfl)) (by rfl)))))) (pss_one (ps_ret pe_bl)) pss_nil)))))
        (pss_one (ps_ret pe_bl))))))), ?_⟩
    walk_at "st"
    walk_at "go"
    refine ⟨a, dx, _, rfl, h1, ?_⟩
    walk_at "go"
    refine ⟨a, _, dx, _, _, rfl, h1, T.cl_Marks, T.na_Marks_lines, mf_lines t, ?_⟩
    walk_at "go"
    refine x_isiTT h2 ?_
    walk_at "go"
    refine ⟨a, _, dx, _, _, rfl, h1, T.cl_Marks, T.na_Marks_lines, mf_lines t, ?_⟩
    walk_at "go"
    refine ⟨a, dx, _, t, _, rfl, h1, SqT.of h2, fun H1 Q1 s1 k1 => ⟨a, dx, t, ms, rfl, s1 _ _ h1, s1 _ _ h2, k1⟩, fun H1 Q1 s1 k1 => ⟨a, ms, rfl, ⟨dx, t, s1 _ _ h1, s1 _ _ h2⟩, by rw [List.length_map] at k1; exact k1⟩, fun q it hq hit ne => ?_⟩
    have n1 := New.mk' (o := OwR.AnyO it) hit
    have hq1 : upd H it (OwR.AnyO it) q = none := by rw [upd_ne ne.symm]; exact hq
    have n2 := New.mk' (o := .lst (ms.map V.int)) hq1
    generalize upd (upd H it (OwR.AnyO it)) q (.lst (ms.map V.int)) = H2 at n2 ⊢
    have s2 := n1.same.trans n2.same
    generalize upd H it (OwR.AnyO it) = H1 at *
    have h1' := s2 _ _ h1
    have h2' := s2 _ _ h2
    have hp' := s2 _ _ hp
    have hq2 := n2.at_
    walk_at "go"
    rw [decide_eq_true rfl]
    walk_at "go"
    rw [decide_eq_true rfl]
    walk_at "go"
    refine ⟨a, dx, _, rfl, h1', ⟨a, ms, rfl, ⟨dx, t, h1', h2'⟩, (ms.length : Int), rfl, Int.natCast_nonneg _, by omega, ?_⟩⟩
    walk_at "go"
    rw [List.length_map, decide_eq_true rfl]
    walk_at "go"
    rw [List.length_map]
    refine ⟨_, rfl, by omega, by omega, ?_⟩
    rw [Int.toNat_natCast]
    refine e_range (n := ms.length) (fun i σ' H' => ∃ y4 y5, σ' = [some (.ref a), some (.ref p), some (.ref t), some (.ref q), y4, y5] ∧ Same H2 H') ⟨_, _, rfl, Same.refl _⟩ (fun i σ' H' hi p => ?_) (fun σ' H' p => ?_)
    · obtain ⟨y4, y5, rfl, s3⟩ := p
      have hz : ms[i]? = some ms[i] := List.getElem?_eq_getElem hi
      have ez : atI (ms.map V.int) (0 + (i : Int)) = some (V.int ms[i]) := at_of (j := i) (by omega) (by rw [List.getElem?_map, hz]; rfl)
      generalize ms[i] = z at ez
      have h2'' := s3 _ _ h2'
      have hp'' := s3 _ _ hp'
      have hq'' := s3 _ _ n2.at_
      walk_at "go"
      refine x_ixT (SqT.of h2'') ez ?_
      walk_at "go"
      refine x_ixL (SqL.of hq'') ez ?_
      walk_at "go"
      refine ⟨show 2 ≤ sizeLine by decide +kernel, fun l H4 n4 => ?_⟩
      refine ⟨l, rfl, ⟨_, SqL.of n4.at_⟩, ?_⟩
      refine e_list (xs := [.int z, .int z]) (fun i' σ' H' => ∃ y5, σ' = [some (.ref a), some (.ref p), some (.ref t), some (.ref q), some (.int (0 + (i : Int))), y5] ∧ H' = H4) ⟨_, rfl, rfl⟩ (fun i' σ' H' hi p => ?_) (fun i' x σ' H' hi p => ?_) (fun σ' H' p => ?_)
      · obtain ⟨y, rfl, rfl⟩ := p
        exact SqL.of n4.at_
      · obtain ⟨y, rfl, rfl⟩ := p
        have ex : x = .int z := by
          rcases i' with _ | _ | i'
          · exact (Option.some.inj hi).symm
          · exact (Option.some.inj hi).symm
          · cases hi
        subst ex
        walk_at "go"
        refine x_ixT (SqT.of (n4.same _ _ hp'')) ez ?_
        walk_at "go"
        rw [decide_eq_true rfl]
        walk_at "go"
        exact ⟨_, rfl, rfl⟩
      · obtain ⟨y, rfl, rfl⟩ := p
        exact ⟨_, _, rfl, s3.trans n4.same⟩
    · obtain ⟨y4, y5, rfl, s3⟩ := p
      walk_at "go"
      exact k H' (s2.trans s3)
end
end K63
set_option Elab.async false
set_option linter.all false
set_option maxRecDepth 100000
set_option maxHeartbeats 4000000
namespace K63
open PySem PySem.Spec PyProof.Rows L2 L2.Au Asc63
/-- the steps that need no thought -/
local macro_rules | `(tactic| walk_at "go") => `(tactic| ((repeat (first
  | ((with_reducible apply x_var); exact rfl)
  | (with_reducible refine x_c ?_)
  | (with_reducible refine x_op ?_)
  | (with_reducible refine x_un ?_)
  | (with_reducible refine x_i0 ?_)
  | (with_reducible refine x_u ?_)
  | (with_reducible refine x_eqI ?_)
  | (with_reducible refine x_neI ?_)
  | (with_reducible refine x_eqS ?_)
  | (with_reducible refine x_neS ?_)
  | (with_reducible refine x_eqB ?_)
  | (with_reducible refine x_neB ?_)
  | (with_reducible refine x_test ?_)
  | (with_reducible refine x_tB ?_)
  | (with_reducible refine x_k ?_)
  | (with_reducible refine x_not ?_)
  | (with_reducible refine x_and ?_)
  | (with_reducible refine x_or ?_)
  | (with_reducible refine x_andV ?_)
  | (with_reducible refine x_orV ?_)
  | (with_reducible refine x_notV ?_)
  | (with_reducible refine x_if ?_)
  | (with_reducible refine x_ifT ?_)
  | (with_reducible refine x_ifF ?_)
  | (with_reducible refine x_nil ?_)
  | (with_reducible refine x_cons ?_)
  | (with_reducible refine x_cb ?_)
  | (with_reducible refine x_call ?_)
  | (with_reducible refine x_seq ?_)
  | (with_reducible refine x_lcT ?_)
  | (with_reducible refine x_lcL ?_)
  | (with_reducible refine x_next ?_)
  | (with_reducible refine x_asg ?_)
  | (with_reducible refine x_name ?_)
  | (with_reducible refine x_sub ?_)
  | (with_reducible refine x_drop ?_)
  | (with_reducible refine x_ret ?_)
  | (with_reducible refine x_retN ?_)
  | (with_reducible refine x_ifS ?_)
  | (with_reducible refine x_intS ?_)
  | (with_reducible refine x_absS ?_)
  | (with_reducible refine x_minS ?_)
  | (with_reducible refine x_maxS ?_)
  | (with_reducible refine x_fld ?_)
  | (with_reducible refine x_bm ?_)
  | (with_reducible refine x_for ?_)
  | (with_reducible refine x_lc ?_)
  | (with_reducible refine x_ifNT ?_)
  | (with_reducible refine x_ifNF ?_)
  | (with_reducible refine x_sfld ?_)
  | (with_reducible refine x_make ?_)
  | (with_reducible refine x_meth ?_)
  | (with_reducible refine x_sl ?_)
  | (with_reducible refine x_noPart ?_)
  | (with_reducible refine x_part ?_)
  | (with_reducible refine x_kI ?_)
  | (with_reducible refine x_iR1 ?_)
  | (with_reducible refine x_iL ?_)
  | (with_reducible refine x_iT ?_)
  | (with_reducible refine x_lst ?_)
  | (with_reducible refine x_tup ?_)
  | (with_reducible refine OwR.x_smeth ?_)
  | (with_reducible refine OwR.x_listRev ?_)
  | (with_reducible refine x_isiII ?_)
  | (with_reducible refine x_isiIB ?_)
  | (with_reducible refine x_isiBB ?_)
  | (with_reducible refine x_isiSS ?_)
  | ((with_reducible apply x_ixL); (first | assumption | exact SqL.of (by assumption)); exact rfl)
  | ((with_reducible apply x_ixT); assumption; exact rfl)
  | ((with_reducible apply x_lenS); (first | assumption | exact Or.inl (SqL.of (by assumption)) | exact Or.inl (by assumption) | exact Or.inr (by assumption) | exact Or.inr (SqT.of (by assumption)))))); try dsimp only [List.set]))
local macro_rules | `(tactic| walk_at "st") => `(tactic| dsimp only [cxOf, L2.start, List.map, List.length, Nat.reduceAdd, Nat.reduceSub, List.replicate, List.cons_append, List.nil_append])
section
variable {P : Program} {w : World} {K : PySem.W.Frag} {mg : Str → Option Value} {base : Heap}
theorem ok_law_pair (T : Ctx K mg) : FnOk P w K mg base CX0 6 T.f_law_pair T.fd_law_pair ["first", "second", "one", "two"] (spPair T.c_Marks) := by
  refine T.F_law_pair.ok sc_law_pair (fun vs H Q E h => ?_) (fun cdv A outer s H vs Q E hr h => ?_)
  · obtain ⟨a, b, p, q, xs, ys, rfl, _⟩ := h
    rfl
  · obtain ⟨a, b, p, q, xs, ys, rfl, M1, M2, hp, hq, hl, ax, ay, k⟩ := h
    have hlx := less_length xs ys
    refine ⟨_, (pss_cons (ps_if (PW.pt (pw_or (pt_not (pt_val (pe_call (ok_law_is T) (hr.mono (by decide)) (by rfl) T.g_law_is T.F_law_is.kp T.b_law_is .nil pass0 (pa_cons (pe_op (OwR.or_binO T.s_Marks__or T.sf_Marks (ok_Marks__or T) (hr.mono (by decide)) T.b_Marks__or pass0) (pv 0) (pv 1)) (pa_cons (pe_call (ok_law_set T) (hr.mono (by decide)) (by rfl) T.g_law_set T.F_law_set.kp T.b_law_set .nil pass0 (pa_cons (pe_op (Au.op_catNK (K := K)) (pe_callTy (Au.call_listK (K := K)) (by rfl) T.z_list (by decide +kernel) (pa_cons (pv 2) pa_nil)) (pe_callTy (Au.call_listK (K := K)) (by rfl) T.z_list (by decide +kernel) (pa_cons (pv 3) pa_nil))) pa_nil)) pa_nil))))) (pw_or1 (pt_not (pt_val (pe_call (ok_law_is T) (hr.mono (by decide)) (by rfl) T.g_law_is T.F_law_is.kp T.b_law_is .nil pass0 (pa_cons (pe_op (OwR.or_binO T.s_Marks__sub T.sf_Marks (ok_Marks__sub T) (hr.mono (by decide)) T.b_Marks__sub pass0) (pv 0) (pv 1)) (pa_cons (pe_call (ok_law_less T) (hr.mono (by decide)) (by rfl) T.g_law_less T.F_law_less.kp T.b_law_less .nil pass0 (pa_cons (pv 2) (pa_cons (pv 3) pa_nil))) pa_nil)))))))) (pss_one (ps_ret pe_bl)) pss_nil)
        (pss_cons (ps_if (PW.pt (pw_or (pt_not (pt_val (pe_call (ok_law_flag T) (hr.mono (by decide)) (by rfl) T.g_law_flag T.F_law_flag.kp T.b_law_flag .nil pass0 (pa_cons (pe_cmpR (OwR.or_eqO T.s_Marks__eq (ok_Marks__eq T) (hr.mono (by decide)) T.b_Marks__eq pass0) (pv 0) (pv 1) (by rfl)) (pa_cons (pe_cmpR (Au.op_eqDK (K := K) hr.units) (pv 2) (pv 3) (by rfl)) pa_nil))))) (pw_or1 (pt_not (pt_val (pe_call (ok_law_flag T) (hr.mono (by decide)) (by rfl) T.g_law_flag T.F_law_flag.kp T.b_law_flag .nil pass0 (pa_cons (pe_meth (pv 0) T.cl_Marks T.me_Marks_within (ok_Marks_within T) (hr.mono (by decide)) T.b_Marks_within .nil pass0 (pa_cons (pv 1) pa_nil)) (pa_cons (pe_cmpR (Au.op_eqDK (K := K) hr.units) (pe_call (ok_law_less T) (hr.mono (by decide)) (by rfl) T.g_law_less T.F_law_less.kp T.b_law_less .nil pass0 (pa_cons (pv 2) (pa_cons (pv 3) pa_nil))) (Au.pe_tupN pa_nil) (by rfl)) pa_nil)))))))) (pss_one (ps_ret pe_bl)) pss_nil)
        (pss_one (ps_ret (pe_and (pe_call (ok_law_is T) (hr.mono (by decide)) (by rfl) T.g_law_is T.F_law_is.kp T.b_law_is .nil pass0 (pa_cons (pv 0) (pa_cons (pv 2) pa_nil))) (pe_one (pe_call (ok_law_is T) (hr.mono (by decide)) (by rfl) T.g_law_is T.F_law_is.kp T.b_law_is .nil pass0 (pa_cons (pv 1) (pa_cons (pv 3) pa_nil))))))))), ?_⟩
    walk_at "st"
    walk_at "go"
    obtain ⟨dx, t, h1, h2⟩ := id M1
    obtain ⟨dy, u, h3, h4⟩ := id M2
    refine ⟨a, dx, _, b, dy, _, rfl, rfl, h1, h3, a, b, xs, ys, rfl, M1, M2, by omega, fun x H1 s1 Mx => ?_⟩
    walk_at "go"
    refine x_listS (.inr (SqT.of (s1 _ _ hp))) fun l1 H2 n2 => ?_
    walk_at "go"
    refine x_listS (.inr (SqT.of ((s1.trans n2.same) _ _ hq))) fun l2 H3 n3 => ?_
    walk_at "go"
    refine x_cat (n3.same _ _ n2.at_) n3.at_ (by rw [List.length_map, List.length_map]; exact Nat.le_of_lt (big_enough (by omega))) fun c H4 n4 => ?_
    have nc := n4.at_
    rw [← List.map_append] at nc
    have cl := canon_length (xs ++ ys)
    rw [List.length_append] at cl
    walk_at "go"
    refine ⟨c, xs ++ ys, rfl, nc, by rw [List.length_append]; exact hl, fun e H5 s5 _ he => ?_⟩
    have s15 : Same H1 H5 := ((n2.same.trans n3.same).trans n4.same).trans s5
    walk_at "go"
    refine ⟨x, e, _, rfl, Mx.same s15, he, by omega, fun H6 s6 => ?_⟩
    have s06 : Same H H6 := (s1.trans s15).trans s6
    walk_at "go"
    refine ⟨a, dx, _, b, dy, _, rfl, rfl, s06 _ _ h1, s06 _ _ h3, a, b, xs, ys, rfl, M1.same s06, M2.same s06, by omega, fun x2 H7 s7 Mx2 => ?_⟩
    rw [canon_self (asc_less ax)] at Mx2
    have s07 := s06.trans s7
    walk_at "go"
    refine ⟨p, q, xs, ys, rfl, s07 _ _ hp, s07 _ _ hq, by omega, fun e2 H8 s8 he2 => ?_⟩
    walk_at "go"
    refine ⟨x2, e2, _, rfl, Mx2.same s8, he2, by omega, fun H9 s9 => ?_⟩
    have s09 := (s07.trans s8).trans s9
    walk_at "go"
    refine ⟨a, dx, _, b, dy, _, rfl, rfl, s09 _ _ h1, s09 _ _ h3, a, b, xs, ys, rfl, M1.same s09, M2.same s09, ?_⟩
    walk_at "go"
    refine x_eqT (SqT.of (s09 _ _ hp)) (SqT.of (s09 _ _ hq)) ?_
    walk_at "go"
    refine ⟨decide (xs = ys), rfl, ?_⟩
    walk_at "go"
    refine ⟨a, dx, _, rfl, s09 _ _ h1, mf_no t (by decide +kernel), ?_⟩
    walk_at "go"
    refine ⟨a, b, xs, ys, rfl, M1.same s09, M2.same s09, ?_⟩
    walk_at "go"
    refine ⟨p, q, xs, ys, rfl, s09 _ _ hp, s09 _ _ hq, by omega, fun e3 H10 s10 he3 => ?_⟩
    walk_at "go"
    refine ⟨Nat.zero_le _, fun e4 H11 n11 => ?_⟩
    walk_at "go"
    refine x_eqT (ys := []) (SqT.of (n11.same _ _ he3)) (SqT.of n11.at_) ?_
    walk_at "go"
    refine ⟨decide (less xs ys = []), rfl, ?_⟩
    have s011 := (s09.trans s10).trans n11.same
    walk_at "go"
    refine ⟨a, p, xs, rfl, M1.same s011, s011 _ _ hp, by omega, fun H12 s12 => ?_⟩
    walk_at "go"
    have s012 := s011.trans s12
    refine ⟨b, q, ys, rfl, M2.same s012, s012 _ _ hq, by omega, fun H13 s13 => ?_⟩
    exact k H13 (s012.trans s13)
theorem ok_law_of (T : Ctx K mg) : FnOk P w K mg base CX0 4 T.f_law_of T.fd_law_of ["lot"] (spOf T.c_Marks) := by
  refine T.F_law_of.ok sc_law_of (fun vs H Q E h => ?_) (fun cdv A outer s H vs Q E hr h => ?_)
  · obtain ⟨p, ns, rfl, _⟩ := h
    rfl
  · obtain ⟨p, ns, rfl, hp, hl, k⟩ := h
    refine ⟨_, (pss_cons (ps_if (pt_cmpR op_eq (pe_callB (Au.call_lenK (K := K)) (by rfl) T.z_len (by decide +kernel) (pa_cons (pv 0) pa_nil)) pe_int (by rfl)) (pss_one (ps_ret (OwR.pe_smeth0 (pe_glob (v := .ref T.c_Marks) rfl T.g_Marks rfl) T.cr_Marks T.sm_Marks_of (ok_Marks_of T) (hr.mono (by decide)) pass0))) pss_nil)
        (pss_cons (ps_if (pt_cmpR op_eq (pe_callB (Au.call_lenK (K := K)) (by rfl) T.z_len (by decide +kernel) (pa_cons (pv 0) pa_nil)) pe_int (by rfl)) (pss_one (ps_ret (OwR.pe_smeth (pe_glob (v := .ref T.c_Marks) rfl T.g_Marks rfl) T.cr_Marks T.sm_Marks_of (ok_Marks_of T) (hr.mono (by decide)) pass0 (pa_cons (pe_ix (Au.ix_listK (K := K)) (pv 0) pe_int (fun _ _ => rfl)) pa_nil)))) pss_nil)
        (pss_cons (ps_if (pt_cmpR op_eq (pe_callB (Au.call_lenK (K := K)) (by rfl) T.z_len (by decide +kernel) (pa_cons (pv 0) pa_nil)) pe_int (by rfl)) (pss_one (ps_ret (OwR.pe_smeth (pe_glob (v := .ref T.c_Marks) rfl T.g_Marks rfl) T.cr_Marks T.sm_Marks_of (ok_Marks_of T) (hr.mono (by decide)) pass0 (pa_cons (pe_ix (Au.ix_listK (K := K)) (pv 0) pe_int (fun _ _ => rfl)) (pa_cons (pe_ix (Au.ix_listK (K := K)) (pv 0) pe_int (fun _ _ => rfl)) pa_nil))))) pss_nil)
        (pss_cons (ps_if (pt_cmpR op_eq (pe_callB (Au.call_lenK (K := K)) (by rfl) T.z_len (by decide +kernel) (pa_cons (pv 0) pa_nil)) pe_int (by rfl)) (pss_one (ps_ret (OwR.pe_smeth (pe_glob (v := .ref T.c_Marks) rfl T.g_Marks rfl) T.cr_Marks T.sm_Marks_of (ok_Marks_of T) (hr.mono (by decide)) pass0 (pa_cons (pe_ix (Au.ix_listK (K := K)) (pv 0) pe_int (fun _ _ => rfl)) (pa_cons (pe_ix (Au.ix_listK (K := K)) (pv 0) pe_int (fun _ _ => rfl)) (pa_cons (pe_ix (Au.ix_listK (K := K)) (pv 0) pe_int (fun _ _ => rfl)) pa_nil)))))) pss_nil)
        (pss_cons (ps_if (pt_cmpR op_eq (pe_callB (Au.call_lenK (K := K)) (by rfl) T.z_len (by decide +kernel) (pa_cons (pv 0) pa_nil)) pe_int (by rfl)) (pss_one (ps_ret (OwR.pe_smeth (pe_glob (v := .ref T.c_Marks) rfl T.g_Marks rfl) T.cr_Marks T.sm_Marks_of (ok_Marks_of T) (hr.mono (by decide)) pass0 (pa_cons (pe_ix (Au.ix_listK (K := K)) (pv 0) pe_int (fun _ _ => rfl)) (pa_cons (pe_ix (Au.ix_listK (K := K)) (pv 0) pe_int (fun _ _ => rfl)) (pa_cons (pe_ix (Au.ix_listK (K := K)) (pv 0) pe_int (fun _ _ => rfl)) (pa_cons (pe_ix (Au.ix_listK (K := K)) (pv 0) pe_int (fun _ _ => rfl)) (pa_cons (pe_ix (Au.ix_listK (K := K)) (pv 0) pe_int (fun _ _ => rfl)) pa_nil)))))))) pss_nil)
        (pss_one (ps_ret (OwR.pe_smeth (pe_glob (v := .ref T.c_Marks) rfl T.g_Marks rfl) T.cr_Marks T.sm_Marks_of (ok_Marks_of T) (hr.mono (by decide)) pass0 (pa_cons (pe_ix (Au.ix_listK (K := K)) (pv 0) pe_int (fun _ _ => rfl)) (pa_cons (pe_ix (Au.ix_listK (K := K)) (pv 0) pe_int (fun _ _ => rfl)) (pa_cons (pe_ix (Au.ix_listK (K := K)) (pv 0) pe_int (fun _ _ => rfl)) (pa_cons (pe_ix (Au.ix_listK (K := K)) (pv 0) pe_int (fun _ _ => rfl)) (pa_cons (pe_ix (Au.ix_listK (K := K)) (pv 0) pe_int (fun _ _ => rfl)) (pa_cons (pe_ix (Au.ix_listK (K := K)) (pv 0) pe_int (fun _ _ => rfl)) (pa_cons (pe_ix (Au.ix_listK (K := K)) (pv 0) pe_int (fun _ _ => rfl)) (pa_cons (pe_ix (Au.ix_listK (K := K)) (pv 0) pe_int (fun _ _ => rfl)) pa_nil)))))))))))))))), ?_⟩
    walk_at "st"
    walk_at "go"
    rw [List.length_map]
    have sm : ∀ (vs : List V), vs.length ≤ 8 → vs.length ≤ sizeLine := fun vs h => Nat.le_of_lt (big_enough (by omega))
    refine x_ifD (fun e => ?_) (fun e => ?_)
    · obtain rfl : ns = [] := List.eq_nil_of_length_eq_zero (by omega)
      walk_at "go"
      refine ⟨rfl, ?_⟩
      walk_at "go"
      refine ⟨sm [] (by decide), fun t ht => ⟨t, [], rfl, upd_same, by decide, fun x H' s M => k x H' ((New.mk' ht).same.trans s) M⟩⟩
    walk_at "go"
    refine x_ifD (fun e => ?_) (fun e => ?_)
    · rw [List.length_map] at e
      obtain ⟨x1, rfl⟩ : ∃ x1, ns = [x1] := by
        match ns, (show ns.length = 1 by omega) with
        | [x1], _ => exact ⟨x1, rfl⟩
      walk_at "go"
      refine ⟨rfl, ?_⟩
      walk_at "go"
      refine ⟨sm [_] (by simp), fun t ht => ⟨t, [x1], rfl, upd_same, by simp, fun x H' s M => k x H' ((New.mk' ht).same.trans s) M⟩⟩
    rw [List.length_map] at *
    walk_at "go"
    refine x_ifD (fun e => ?_) (fun e => ?_)
    · rw [List.length_map] at e
      obtain ⟨x1, x2, rfl⟩ : ∃ x1 x2, ns = [x1, x2] := by
        match ns, (show ns.length = 2 by omega) with
        | [x1, x2], _ => exact ⟨x1, x2, rfl⟩
      walk_at "go"
      refine ⟨rfl, ?_⟩
      walk_at "go"
      refine ⟨sm [_, _] (by simp), fun t ht => ⟨t, [x1, x2], rfl, upd_same, by simp, fun x H' s M => k x H' ((New.mk' ht).same.trans s) M⟩⟩
    rw [List.length_map] at *
    walk_at "go"
    refine x_ifD (fun e => ?_) (fun e => ?_)
    · rw [List.length_map] at e
      obtain ⟨x1, x2, x3, rfl⟩ : ∃ x1 x2 x3, ns = [x1, x2, x3] := by
        match ns, (show ns.length = 3 by omega) with
        | [x1, x2, x3], _ => exact ⟨x1, x2, x3, rfl⟩
      walk_at "go"
      refine ⟨rfl, ?_⟩
      walk_at "go"
      refine ⟨sm [_, _, _] (by simp), fun t ht => ⟨t, [x1, x2, x3], rfl, upd_same, by simp, fun x H' s M => k x H' ((New.mk' ht).same.trans s) M⟩⟩
    rw [List.length_map] at *
    walk_at "go"
    refine x_ifD (fun e => ?_) (fun e => ?_)
    · rw [List.length_map] at e
      obtain ⟨x1, x2, x3, x4, x5, rfl⟩ : ∃ x1 x2 x3 x4 x5, ns = [x1, x2, x3, x4, x5] := by
        match ns, (show ns.length = 5 by omega) with
        | [x1, x2, x3, x4, x5], _ => exact ⟨x1, x2, x3, x4, x5, rfl⟩
      walk_at "go"
      refine ⟨rfl, ?_⟩
      walk_at "go"
      refine ⟨sm [_, _, _, _, _] (by simp), fun t ht => ⟨t, [x1, x2, x3, x4, x5], rfl, upd_same, by simp, fun x H' s M => k x H' ((New.mk' ht).same.trans s) M⟩⟩
    rw [List.length_map] at *
    walk_at "go"
    obtain ⟨x1, x2, x3, x4, x5, x6, x7, x8, r, rfl⟩ : ∃ x1 x2 x3 x4 x5 x6 x7 x8 r, ns = x1 :: x2 :: x3 :: x4 :: x5 :: x6 :: x7 :: x8 :: r := by
      match ns, (show 8 ≤ ns.length by simp only [List.mem_cons, List.not_mem_nil, or_false] at hl; omega) with
      | x1 :: x2 :: x3 :: x4 :: x5 :: x6 :: x7 :: x8 :: r, _ => exact ⟨x1, x2, x3, x4, x5, x6, x7, x8, r, rfl⟩
    refine ⟨rfl, ?_⟩
    walk_at "go"
    refine x_ixL (v := .int x1) (SqL.of hp) (at_of (j := 0) rfl rfl) ?_
    walk_at "go"
    refine x_ixL (v := .int x2) (SqL.of hp) (at_of (j := 1) rfl rfl) ?_
    walk_at "go"
    refine x_ixL (v := .int x3) (SqL.of hp) (at_of (j := 2) rfl rfl) ?_
    walk_at "go"
    refine x_ixL (v := .int x4) (SqL.of hp) (at_of (j := 3) rfl rfl) ?_
    walk_at "go"
    refine x_ixL (v := .int x5) (SqL.of hp) (at_of (j := 4) rfl rfl) ?_
    walk_at "go"
    refine x_ixL (v := .int x6) (SqL.of hp) (at_of (j := 5) rfl rfl) ?_
    walk_at "go"
    refine x_ixL (v := .int x7) (SqL.of hp) (at_of (j := 6) rfl rfl) ?_
    walk_at "go"
    refine x_ixL (v := .int x8) (SqL.of hp) (at_of (j := 7) rfl rfl) ?_
    walk_at "go"
    refine ⟨sm [_, _, _, _, _, _, _, _] (by simp), fun t ht => ⟨t, [x1, x2, x3, x4, x5, x6, x7, x8], rfl, upd_same, by simp, fun x H' s M => k x H' ((New.mk' ht).same.trans s) M⟩⟩
theorem ok_law_walked (T : Ctx K mg) : FnOk P w K mg base CX0 2 T.f_law_walked T.fd_law_walked ["marks", "lot"] (spWalked T.c_Marks) := by
  refine T.F_law_walked.ok sc_law_walked (fun vs H Q E h => ?_) (fun cdv A outer s H vs Q E hr h => ?_)
  · obtain ⟨a, p, ms, rfl, _⟩ := h
    rfl
  · obtain ⟨a, p, ms, rfl, ⟨dx, t, h1, h2⟩, hp, k⟩ := h
    refine ⟨_, (pss_cons (ps_for PassesOwn.never rfl (Au.pi_tupK (K := K) (pv 1)) (pg_name (i := 2) sc_law_walked.nd rfl (Or.inl rfl)) (pss_one (ps_for PassesOwn.never rfl (Au.pi_listK (K := K) (Au.pe_lstN (pa_cons (pe_op op_sub (pv 2) pe_int) (pa_cons (pv 2) (pa_cons (pe_op op_add (pv 2) pe_int) pa_nil))))) (pg_name (i := 3) sc_law_walked.nd rfl (Or.inl rfl)) (pss_one (ps_if (pt_cmpR op_ne (pe_cmpR (OwR.or_inO T.s_Marks__contains (ok_Marks__contains T) (hr.mono (by decide)) T.b_Marks__contains pass0) (pv 3) (pv 0) (by rfl)) (pe_cmpR (Au.op_inK (K := K)) (pv 3) (pv 1) (by rfl)) (by rfl)) (pss_one (ps_ret pe_bl)) pss_nil)))))
        (pss_one (ps_ret (pe_cmpR op_eq (pe_cmpR (OwR.or_inO T.s_Marks__contains (ok_Marks__contains T) (hr.mono (by decide)) T.b_Marks__contains pass0) pe_int (pv 0) (by rfl)) (pe_cmpR (Au.op_inK (K := K)) pe_int (pv 1) (by rfl)) (by rfl))))), ?_⟩
    walk_at "st"
    walk_at "go"
    refine ⟨p, rfl, ⟨_, SqT.of hp⟩, ?_⟩
    refine e_tup (xs := ms.map V.int) (fun i σ' H' => ∃ y2 y3, σ' = [some (.ref a), some (.ref p), y2, y3] ∧ Same H H') ⟨_, _, rfl, Same.refl _⟩ (fun i σ' H' hi p => ?_) (fun i x σ' H' hi p => ?_) (fun σ' H' p => ?_)
    · obtain ⟨y2, y3, rfl, s1⟩ := p
      exact SqT.of (s1 _ _ hp)
    · obtain ⟨y2, y3, rfl, s1⟩ := p
      obtain ⟨z, hz, rfl⟩ := int_at hi
      walk_at "go"
      refine ⟨show 3 ≤ sizeLine by decide +kernel, fun l H4 n4 => ?_⟩
      have s2 := s1.trans n4.same
      refine ⟨l, rfl, ⟨_, SqL.of n4.at_⟩, ?_⟩
      refine e_list (xs := [z - 1, z, z + 1].map V.int) (fun i' σ' H' => ∃ y3, σ' = [some (.ref a), some (.ref p), some (.int z), y3] ∧ H' = H4) ⟨_, rfl, rfl⟩ (fun i' σ' H' hi p => ?_) (fun i' x σ' H' hi p => ?_) (fun σ' H' p => ?_)
      · obtain ⟨y, rfl, rfl⟩ := p
        exact SqL.of n4.at_
      · obtain ⟨y, rfl, rfl⟩ := p
        obtain ⟨z', _, rfl⟩ := int_at hi
        walk_at "go"
        refine ⟨a, dx, _, rfl, s2 _ _ h1, a, ms, z', rfl, ⟨dx, t, s2 _ _ h1, s2 _ _ h2⟩, _, rfl, ?_⟩
        walk_at "go"
        refine x_in (.inr (SqT.of (s2 _ _ hp))) ?_
        walk_at "go"
        rw [decide_eq_true rfl]
        walk_at "go"
        exact ⟨_, rfl, rfl⟩
      · obtain ⟨y, rfl, rfl⟩ := p
        exact ⟨_, _, rfl, s2⟩
    · obtain ⟨y2, y3, rfl, s1⟩ := p
      walk_at "go"
      refine ⟨a, dx, _, rfl, s1 _ _ h1, a, ms, 5000, rfl, ⟨dx, t, s1 _ _ h1, s1 _ _ h2⟩, _, rfl, ?_⟩
      walk_at "go"
      refine x_in (.inr (SqT.of (s1 _ _ hp))) ?_
      walk_at "go"
      rw [decide_eq_true rfl]
      exact k H' s1
end
end K63
set_option Elab.async false
set_option linter.all false
set_option maxRecDepth 100000
set_option maxHeartbeats 4000000
namespace K63
open PySem PySem.Spec PyProof.Rows L2 L2.Au Asc63
/-- the steps that need no thought -/
local macro_rules | `(tactic| walk_at "go") => `(tactic| ((repeat (first
  | ((with_reducible apply x_var); exact rfl)
  | (with_reducible refine x_c ?_)
  | (with_reducible refine x_op ?_)
  | (with_reducible refine x_un ?_)
  | (with_reducible refine x_i0 ?_)
  | (with_reducible refine x_u ?_)
  | (with_reducible refine x_eqI ?_)
  | (with_reducible refine x_neI ?_)
  | (with_reducible refine x_eqS ?_)
  | (with_reducible refine x_neS ?_)
  | (with_reducible refine x_eqB ?_)
  | (with_reducible refine x_neB ?_)
  | (with_reducible refine x_test ?_)
  | (with_reducible refine x_tB ?_)
  | (with_reducible refine x_k ?_)
  | (with_reducible refine x_not ?_)
  | (with_reducible refine x_and ?_)
  | (with_reducible refine x_or ?_)
  | (with_reducible refine x_andV ?_)
  | (with_reducible refine x_orV ?_)
  | (with_reducible refine x_notV ?_)
  | (with_reducible refine x_if ?_)
  | (with_reducible refine x_ifT ?_)
  | (with_reducible refine x_ifF ?_)
  | (with_reducible refine x_nil ?_)
  | (with_reducible refine x_cons ?_)
  | (with_reducible refine x_cb ?_)
  | (with_reducible refine x_call ?_)
  | (with_reducible refine x_seq ?_)
  | (with_reducible refine x_lcT ?_)
  | (with_reducible refine x_lcL ?_)
  | (with_reducible refine x_next ?_)
  | (with_reducible refine x_asg ?_)
  | (with_reducible refine x_name ?_)
  | (with_reducible refine x_sub ?_)
  | (with_reducible refine x_drop ?_)
  | (with_reducible refine x_ret ?_)
  | (with_reducible refine x_retN ?_)
  | (with_reducible refine x_ifS ?_)
  | (with_reducible refine x_intS ?_)
  | (with_reducible refine x_absS ?_)
  | (with_reducible refine x_minS ?_)
  | (with_reducible refine x_maxS ?_)
  | (with_reducible refine x_fld ?_)
  | (with_reducible refine x_bm ?_)
  | (with_reducible refine x_for ?_)
  | (with_reducible refine x_lc ?_)
  | (with_reducible refine x_ifNT ?_)
  | (with_reducible refine x_ifNF ?_)
  | (with_reducible refine x_sfld ?_)
  | (with_reducible refine x_make ?_)
  | (with_reducible refine x_meth ?_)
  | (with_reducible refine x_sl ?_)
  | (with_reducible refine x_noPart ?_)
  | (with_reducible refine x_part ?_)
  | (with_reducible refine x_kI ?_)
  | (with_reducible refine x_iR1 ?_)
  | (with_reducible refine x_iL ?_)
  | (with_reducible refine x_iT ?_)
  | (with_reducible refine x_lst ?_)
  | (with_reducible refine x_tup ?_)
  | (with_reducible refine OwR.x_smeth ?_)
  | (with_reducible refine OwR.x_listRev ?_)
  | (with_reducible refine x_isiII ?_)
  | (with_reducible refine x_isiIB ?_)
  | (with_reducible refine x_isiBB ?_)
  | (with_reducible refine x_isiSS ?_)
  | ((with_reducible apply x_ixL); (first | assumption | exact SqL.of (by assumption)); exact rfl)
  | ((with_reducible apply x_ixT); assumption; exact rfl)
  | ((with_reducible apply x_lenS); (first | assumption | exact Or.inl (SqL.of (by assumption)) | exact Or.inl (by assumption) | exact Or.inr (by assumption) | exact Or.inr (SqT.of (by assumption)))))); try dsimp only [List.set]))
local macro_rules | `(tactic| walk_at "st") => `(tactic| dsimp only [cxOf, L2.start, List.map, List.length, Nat.reduceAdd, Nat.reduceSub, List.replicate, List.cons_append, List.nil_append])
def spLaw (K : PySem.W.Frag) : Sp := fun vs H Q _ => ∃ (a : Addr) (ns : List Int), vs = [.ref a] ∧ SqL K H a (ns.map V.int) ∧ ns.length ≤ 63 ∧ ∀ H', Q (.bl true) H'
/-- what the law has made -/
structure LB (C : Addr) (H : Hp) (m1 m2 t1 t2 l o : Addr) (xs ys : List Int) : Prop where
  M1 : MarksAt C H m1 (canon xs)
  M2 : MarksAt C H m2 (canon ys)
  h1 : H t1 = some (.tup ((canon xs).map V.int))
  h2 : H t2 = some (.tup ((canon ys).map V.int))
  hl : H l = some (.lst (xs.map V.int))
  ho : H o = some (.lst (ys.map V.int))
theorem LB.same {C : Addr} {H H' : Hp} {m1 m2 t1 t2 l o : Addr} {xs ys : List Int} (B : LB C H m1 m2 t1 t2 l o xs ys) (s : Same H H') : LB C H' m1 m2 t1 t2 l o xs ys :=
  ⟨B.M1.same s, B.M2.same s, s _ _ B.h1, s _ _ B.h2, s _ _ B.hl, s _ _ B.ho⟩
theorem canon_take (xs : List Int) : cutV (xs.map V.int) none (some 8) = (xs.take 8).map V.int := by
  show (List.drop 0 (xs.map V.int)).take (HT.sIx (xs.map V.int).length (xs.map V.int).length (some ((8 : Nat) : Int)) - 0) = _
  rw [List.drop_zero, HT.sIx_nat, List.map_take, Nat.sub_zero]
  by_cases h : 8 ≤ xs.length
  · rw [List.length_map, Nat.min_eq_left h]
  · rw [List.length_map, Nat.min_eq_right (by omega), List.take_of_length_le (by rw [List.length_map]; omega), List.take_of_length_le (by rw [List.length_map]; omega)]
theorem x_eqO {C : Addr} {H : Hp} {Q : VK} {a b : Addr} {xs ys : List Int} (M1 : MarksAt C H a xs) (M2 : MarksAt C H b ys) (q : Q (.bl (decide (xs = ys))) H) : OwR.rBinO C (spEq C) E0 (.ref a) (.ref b) H Q := by
  obtain ⟨dx, t, h1, h2⟩ := id M1
  obtain ⟨dy, u, h3, h4⟩ := id M2
  exact ⟨a, dx, _, b, dy, _, rfl, rfl, h1, h3, a, b, xs, ys, rfl, M1, M2, q⟩
theorem x_subO {C : Addr} {H : Hp} {Q : VK} {a b : Addr} {xs ys : List Int} (M1 : MarksAt C H a xs) (M2 : MarksAt C H b ys) (hl : xs.length ≤ 63) (q : ∀ x H', Same H H' → MarksAt C H' x (canon (less xs ys)) → Q (.ref x) H') : OwR.rBinO C (spSub C) E0 (.ref a) (.ref b) H Q := by
  obtain ⟨dx, t, h1, h2⟩ := id M1
  obtain ⟨dy, u, h3, h4⟩ := id M2
  exact ⟨a, dx, _, b, dy, _, rfl, rfl, h1, h3, a, b, xs, ys, rfl, M1, M2, hl, q⟩
theorem ne_tl {H : Hp} {b g : Addr} {vs zs : List V} (h1 : H b = some (.tup vs)) (h2 : H g = some (.lst zs)) : b ≠ g := fun e => by
  subst e
  rw [h1] at h2
  cases h2
theorem MarksAt.mut {C : Addr} {H H' : Hp} {g a : Addr} {ms : List Int} {zs : List V} (M : MarksAt C H a ms) (k : Kp g H H') (hg : H g = some (.lst zs)) : MarksAt C H' a ms := by
  obtain ⟨dx, t, h1, h2⟩ := M
  refine ⟨dx, t, k _ _ (fun e => ?_) h1, k _ _ (ne_tl h2 hg) h2⟩
  subst e
  rw [h1] at hg
  cases hg
theorem canon_app (xs ys : List Int) : canon (canon xs ++ canon ys) = canon (xs ++ ys) := canon_congr fun k => by simp [mem_canon]
theorem canon_rev (xs ys : List Int) : canon (xs.reverse ++ ys) = canon (xs ++ ys) := canon_congr fun k => by simp
theorem canon_rev1 (xs : List Int) : canon (canon xs).reverse = canon xs := canon_congr fun k => by simp [mem_canon]
theorem canon_less (xs ys : List Int) : canon (less (canon (xs ++ ys)) (canon ys)) = less (canon xs) (canon ys) :=
  asc_ext (asc_canon _) (asc_less (asc_canon _)) fun k => by
    rw [mem_canon, mem_less, mem_less, mem_canon, mem_canon, mem_canon, List.mem_append]
    constructor
    · rintro ⟨h1 | h1, h2⟩
      · exact ⟨h1, h2⟩
      · exact absurd h1 h2
    · rintro ⟨h1, h2⟩
      exact ⟨.inl h1, h2⟩
theorem canon_sub (xs ys : List Int) : (canon (xs ++ ys) = canon ys) ↔ less (canon xs) (canon ys) = [] := by
  constructor
  · intro e
    refine List.eq_nil_iff_forall_not_mem.2 fun k m => ?_
    have m' := mem_less.1 m
    have h1 : k ∈ canon (xs ++ ys) := mem_canon.2 (List.mem_append.2 (.inl (mem_canon.1 m'.1)))
    rw [e] at h1
    exact m'.2 h1
  · intro e
    refine asc_ext (asc_canon _) (asc_canon _) fun k => ?_
    rw [mem_canon, mem_canon, List.mem_append]
    refine ⟨fun h => h.elim (fun h => ?_) id, .inr⟩
    by_cases h2 : k ∈ ys
    · exact h2
    · have : k ∈ less (canon xs) (canon ys) := mem_less.2 ⟨mem_canon.2 h, fun z => h2 (mem_canon.1 z)⟩
      rw [e] at this
      exact nomatch this
section
variable {P : Program} {w : World} {K : PySem.W.Frag} {mg : Str → Option Value} {base : Heap}
theorem ok_law (T : Ctx K mg) : FnOk P w K mg base CX0 8 T.f_law T.fd_law ["script"] (spLaw K) := by
  refine T.F_law.ok sc_law (fun vs H Q E h => ?_) (fun cdv A outer s H vs Q E hr h => ?_)
  · obtain ⟨a, ns, rfl, _⟩ := h
    rfl
  · obtain ⟨a, ns, rfl, ha, hn, k⟩ := h
    refine ⟨_, (pss_cons (ps_set (i := 1) sc_law.nd rfl (Or.inl rfl) (pe_call (ok_law_draws T) (hr.mono (by decide)) (by rfl) T.g_law_draws T.F_law_draws.kp T.b_law_draws .nil pass0 (pa_cons (pv 0) pa_nil)))
        (pss_cons (ps_set (i := 2) sc_law.nd rfl (Or.inl rfl) (pe_call (ok_law_lot T) (hr.mono (by decide)) (by rfl) T.g_law_lot T.F_law_lot.kp T.b_law_lot .nil pass0 (pa_cons (pv 1) pa_nil)))
        (pss_cons (ps_set (i := 3) sc_law.nd rfl (Or.inl rfl) (pe_call (ok_law_lot T) (hr.mono (by decide)) (by rfl) T.g_law_lot T.F_law_lot.kp T.b_law_lot .nil pass0 (pa_cons (pv 1) pa_nil)))
        (C8.pss_cut (ps_if (pt_cmpR op_eq (pe_call (ok_law_pick T) (hr.mono (by decide)) (by rfl) T.g_law_pick T.F_law_pick.kp T.b_law_pick .nil pass0 (pa_cons (pv 1) (pa_cons pe_int pa_nil))) pe_int (by rfl)) (pss_one (ps_set (i := 3) sc_law.nd rfl (Or.inl rfl) (pe_call (ok_law_near T) (hr.mono (by decide)) (by rfl) T.g_law_near T.F_law_near.kp T.b_law_near .nil pass0 (pa_cons (pv 1) (pa_cons (pv 2) pa_nil))))) pss_nil)
        (pss_cons (ps_set (i := 4) sc_law.nd rfl (Or.inl rfl) (pe_call (ok_law_set T) (hr.mono (by decide)) (by rfl) T.g_law_set T.F_law_set.kp T.b_law_set .nil pass0 (pa_cons (pv 2) pa_nil)))
        (pss_cons (ps_set (i := 5) sc_law.nd rfl (Or.inl rfl) (pe_call (ok_law_set T) (hr.mono (by decide)) (by rfl) T.g_law_set T.F_law_set.kp T.b_law_set .nil pass0 (pa_cons (pv 3) pa_nil)))
        (pss_cons (ps_set (i := 6) sc_law.nd rfl (Or.inl rfl) (pe_callTy (Au.call_listK (K := K)) (by rfl) T.z_list (by decide +kernel) (pa_cons (pv 2) pa_nil)))
        (C8.pss_cut (ps_if (pt_cmpR op_eq (pe_call (ok_law_pick T) (hr.mono (by decide)) (by rfl) T.g_law_pick T.F_law_pick.kp T.b_law_pick .nil pass0 (pa_cons (pv 1) (pa_cons pe_int pa_nil))) pe_int (by rfl)) (pss_one (ps_set (i := 7) sc_law.nd rfl (Or.inl rfl) (pe_make T.m_Marks (ok_Marks__init T) (hr.mono (by decide)) (by rfl) T.g_Marks T.b_Marks__init .nil pass0 (pa_cons (pv 6) pa_nil)))) (pss_one (ps_set (i := 7) sc_law.nd rfl (Or.inl rfl) (pe_make T.m_Marks (ok_Marks__init T) (hr.mono (by decide)) (by rfl) T.g_Marks T.b_Marks__init .nil pass0 (pa_cons (pe_callTy (Au.call_tupK (K := K)) (by rfl) T.z_tuple (by decide +kernel) (pa_cons (pv 6) pa_nil)) pa_nil)))))
        (pss_cons (ps_set (i := 8) sc_law.nd rfl (Or.inl rfl) (pe_make T.m_Marks (ok_Marks__init T) (hr.mono (by decide)) (by rfl) T.g_Marks T.b_Marks__init .nil pass0 (pa_cons (pe_callTy (Au.call_listK (K := K)) (by rfl) T.z_list (by decide +kernel) (pa_cons (pv 3) pa_nil)) pa_nil)))
        (pss_cons (ps_if (pt_cmpR (Au.op_neDK (K := K) hr.units) (pv 6) (pv 2) (by rfl)) (pss_one (ps_ret pe_bl)) pss_nil)
        (pss_cons (ps_expr (pe_bm PySem.F.plainAttrs_list PySem.F.slot_list_append PySem.F.type_list_append mt_append (pv 6) (pa_cons pe_int pa_nil)))
        (pss_cons (ps_if (PW.pt (pw_or (pt_not (pt_val (pe_call (ok_law_pair T) (hr.mono (by decide)) (by rfl) T.g_law_pair T.F_law_pair.kp T.b_law_pair .nil pass0 (pa_cons (pv 7) (pa_cons (pv 8) (pa_cons (pv 4) (pa_cons (pv 5) pa_nil))))))) (pw_or (pt_not (pt_val (pe_call (ok_law_pair T) (hr.mono (by decide)) (by rfl) T.g_law_pair T.F_law_pair.kp T.b_law_pair .nil pass0 (pa_cons (pv 8) (pa_cons (pv 7) (pa_cons (pv 5) (pa_cons (pv 4) pa_nil))))))) (pw_or1 (pt_not (pt_val (pe_call (ok_law_pair T) (hr.mono (by decide)) (by rfl) T.g_law_pair T.F_law_pair.kp T.b_law_pair .nil pass0 (pa_cons (pv 7) (pa_cons (pv 7) (pa_cons (pv 4) (pa_cons (pv 4) pa_nil))))))))))) (pss_one (ps_ret pe_bl)) pss_nil)
        (pss_cons (ps_if (PW.pt (pw_or (pt_not (pt_val (pe_call (ok_law_walked T) (hr.mono (by decide)) (by rfl) T.g_law_walked T.F_law_walked.kp T.b_law_walked .nil pass0 (pa_cons (pv 7) (pa_cons (pv 4) pa_nil))))) (pw_or (pt_not (pt_val (pe_call (ok_law_walked T) (hr.mono (by decide)) (by rfl) T.g_law_walked T.F_law_walked.kp T.b_law_walked .nil pass0 (pa_cons (pv 8) (pa_cons (pv 5) pa_nil))))) (pw_or1 (pt_not (pt_val (pe_call (ok_law_is T) (hr.mono (by decide)) (by rfl) T.g_law_is T.F_law_is.kp T.b_law_is .nil pass0 (pa_cons (pe_call (ok_law_of T) (hr.mono (by decide)) (by rfl) T.g_law_of T.F_law_of.kp T.b_law_of .nil pass0 (pa_cons (pv 2) pa_nil)) (pa_cons (pe_call (ok_law_set T) (hr.mono (by decide)) (by rfl) T.g_law_set T.F_law_set.kp T.b_law_set .nil pass0 (pa_cons (pe_slice (Au.sl_listNK (K := K)) (pv 2) po_none (po_some pe_int)) pa_nil)) pa_nil))))))))) (pss_one (ps_ret pe_bl)) pss_nil)
        (pss_cons (ps_set (i := 9) sc_law.nd rfl (Or.inl rfl) (pe_make T.m_Marks (ok_Marks__init T) (hr.mono (by decide)) (by rfl) T.g_Marks T.b_Marks__init .nil pass0 (pa_cons (pe_op (Au.op_catNK (K := K)) (OwR.pe_listRev rfl (by rfl) T.z_list (by rfl) T.z_reversed (pv 2)) (pe_callTy (Au.call_listK (K := K)) (by rfl) T.z_list (by decide +kernel) (pa_cons (pv 3) pa_nil))) pa_nil)))
        (pss_cons (ps_set (i := 10) sc_law.nd rfl (Or.inl rfl) (pe_op (OwR.or_binO T.s_Marks__or T.sf_Marks (ok_Marks__or T) (hr.mono (by decide)) T.b_Marks__or pass0) (pv 7) (pv 8)))
        (pss_cons (ps_if (PW.pt (pw_or (pt_not (pt_val (pe_call (ok_law_flag T) (hr.mono (by decide)) (by rfl) T.g_law_flag T.F_law_flag.kp T.b_law_flag .nil pass0 (pa_cons (pe_cmpR (OwR.or_eqO T.s_Marks__eq (ok_Marks__eq T) (hr.mono (by decide)) T.b_Marks__eq pass0) (pv 10) (pv 9) (by rfl)) (pa_cons pe_bl pa_nil))))) (pw_or1 (pt_not (pt_val (pe_call (ok_law_flag T) (hr.mono (by decide)) (by rfl) T.g_law_flag T.F_law_flag.kp T.b_law_flag .nil pass0 (pa_cons (pe_cmpR (OwR.or_eqO T.s_Marks__eq (ok_Marks__eq T) (hr.mono (by decide)) T.b_Marks__eq pass0) (pe_make T.m_Marks (ok_Marks__init T) (hr.mono (by decide)) (by rfl) T.g_Marks T.b_Marks__init .nil pass0 (pa_cons (OwR.pe_listRev rfl (by rfl) T.z_list (by rfl) T.z_reversed (pv 4)) pa_nil)) (pv 7) (by rfl)) (pa_cons pe_bl pa_nil)))))))) (pss_one (ps_ret pe_bl)) pss_nil)
        (pss_cons (ps_set (i := 11) sc_law.nd rfl (Or.inl rfl) (pe_op (OwR.or_binO T.s_Marks__sub T.sf_Marks (ok_Marks__sub T) (hr.mono (by decide)) T.b_Marks__sub pass0) (pv 10) (pv 8)))
        (pss_cons (ps_if (PW.pt (pw_or (pt_not (pt_val (pe_call (ok_law_is T) (hr.mono (by decide)) (by rfl) T.g_law_is T.F_law_is.kp T.b_law_is .nil pass0 (pa_cons (pv 11) (pa_cons (pe_call (ok_law_less T) (hr.mono (by decide)) (by rfl) T.g_law_less T.F_law_less.kp T.b_law_less .nil pass0 (pa_cons (pv 4) (pa_cons (pv 5) pa_nil))) pa_nil))))) (pw_or1 (pt_not (pt_val (pe_call (ok_law_flag T) (hr.mono (by decide)) (by rfl) T.g_law_flag T.F_law_flag.kp T.b_law_flag .nil pass0 (pa_cons (pe_cmpR (OwR.or_eqO T.s_Marks__eq (ok_Marks__eq T) (hr.mono (by decide)) T.b_Marks__eq pass0) (pv 10) (pv 8) (by rfl)) (pa_cons (pe_cmpR (Au.op_eqDK (K := K) hr.units) (pe_call (ok_law_less T) (hr.mono (by decide)) (by rfl) T.g_law_less T.F_law_less.kp T.b_law_less .nil pass0 (pa_cons (pv 4) (pa_cons (pv 5) pa_nil))) (Au.pe_tupN pa_nil) (by rfl)) pa_nil)))))))) (pss_one (ps_ret pe_bl)) pss_nil)
        (pss_cons (ps_set (i := 12) sc_law.nd rfl (Or.inl rfl) (pe_make T.m_Marks (ok_Marks__init T) (hr.mono (by decide)) (by rfl) T.g_Marks T.b_Marks__init .nil pass0 (pa_cons (Au.pe_tupN pa_nil) pa_nil)))
        (pss_one (ps_ret (pe_and (pe_call (ok_law_pair T) (hr.mono (by decide)) (by rfl) T.g_law_pair T.F_law_pair.kp T.b_law_pair .nil pass0 (pa_cons (pv 12) (pa_cons (pv 7) (pa_cons (Au.pe_tupN pa_nil) (pa_cons (pv 4) pa_nil))))) (pe_and (pe_call (ok_law_pair T) (hr.mono (by decide)) (by rfl) T.g_law_pair T.F_law_pair.kp T.b_law_pair .nil pass0 (pa_cons (pv 7) (pa_cons (pv 12) (pa_cons (pv 4) (pa_cons (Au.pe_tupN pa_nil) pa_nil))))) (pe_one (pe_call (ok_law_is T) (hr.mono (by decide)) (by rfl) T.g_law_is T.F_law_is.kp T.b_law_is .nil pass0 (pa_cons (pv 10) (pa_cons (pe_call (ok_law_set T) (hr.mono (by decide)) (by rfl) T.g_law_set T.F_law_set.kp T.b_law_set .nil pass0 (pa_cons (pe_op (Au.op_catNK (K := K)) (pv 2) (pv 3)) pa_nil)) pa_nil))))))))))))))))))))))))))), ?_⟩
    walk_at "st"
    walk_at "go"
    refine ⟨a, ns, rfl, ha, hn, fun H1 d f s1 fd D => ?_⟩
    walk_at "go"
    refine ⟨d, f, rfl, D, fun l xs H2 k2 D2 fl hl ml => ?_⟩
    have nl := D.ne fl
    walk_at "go"
    refine ⟨d, f, rfl, D2, fun o ys H3 k3 D3 fo ho mo => ?_⟩
    have lx : xs.length ≤ 30 := by simp only [List.mem_cons, List.not_mem_nil, or_false] at ml; omega
    have ly : ys.length ≤ 30 := by simp only [List.mem_cons, List.not_mem_nil, or_false] at mo; omega
    have hl3 := k3 l _ nl.1.symm hl
    walk_at "go"
    refine x_cut (fun σ' H' => ∃ (o : Addr) (ys : List Int), σ' = [some (.ref a), some (.ref d), some (.ref l), some (.ref o), none, none, none, none, none, none, none, none, none] ∧ Draws H' d f ∧ H' l = some (.lst (xs.map V.int)) ∧ H' o = some (.lst (ys.map V.int)) ∧ o ≠ d ∧ ys.length ≤ 30) ?_ fun σ' H' p => ?_
    · walk_at "go"
      refine ⟨d, f, _, rfl, D3, by decide, fun r H4 _ _ k4 D4 => ?_⟩
      walk_at "go"
      have hl4 := k4 l _ nl.1.symm hl3
      refine x_ifD (fun e => ?_) (fun e => ?_)
      · walk_at "go"
        refine ⟨d, f, l, xs, rfl, D4, hl4, by omega, fun o' zs H5 k5 D5 fo' ho' lo' => ?_⟩
        walk_at "go"
        exact ⟨o', zs, rfl, D5, k5 l _ nl.1.symm hl4, ho', (D4.ne fo').1.symm, by omega⟩
      · walk_at "go"
        exact ⟨o, ys, rfl, D4, hl4, k4 o _ (D2.ne fo).1.symm ho, (D2.ne fo).1.symm, ly⟩
    clear ly mo ho fo k3 D3 hl3 hl
    obtain ⟨o, ys, rfl, D3, hl, ho, no, ly⟩ := p
    walk_at "go"
    refine ⟨l, xs, rfl, hl, by omega, fun t1 H4 s4 f4 h4 => ?_⟩
    walk_at "go"
    refine ⟨o, ys, rfl, s4 _ _ ho, by omega, fun t2 H5 s5 f5 h5 => ?_⟩
    walk_at "go"
    refine x_listS (.inl (SqL.of ((s4.trans s5) _ _ hl))) fun g H6 n6 => ?_
    walk_at "go"
    have s36 := (s4.trans s5).trans n6.same
    have D6 := D3.same s36
    refine x_cut (fun σ' H' => ∃ (m : Addr), σ' = [some (.ref a), some (.ref d), some (.ref l), some (.ref o), some (.ref t1), some (.ref t2), some (.ref g), some (.ref m), none, none, none, none, none] ∧ H' l = some (.lst (xs.map V.int)) ∧ H' o = some (.lst (ys.map V.int)) ∧
        H' t1 = some (.tup ((canon xs).map V.int)) ∧ H' t2 = some (.tup ((canon ys).map V.int)) ∧ H' g = some (.lst (xs.map V.int)) ∧ MarksAt T.c_Marks H' m (canon xs)) ?_ fun σ' H' p => ?_
    · walk_at "go"
      refine ⟨d, f, _, rfl, D6, by decide, fun r H7 _ _ k7 D7 => ?_⟩
      walk_at "go"
      have e1 := k7 l _ nl.1.symm (s36 _ _ hl)
      have e2 := k7 o _ no (s36 _ _ ho)
      have e3 := k7 t1 _ (D3.ne f4).1.symm ((s5.trans n6.same) _ _ h4)
      have e4 := k7 t2 _ ((D3.same s4).ne f5).1.symm (n6.same _ _ h5)
      have e5 := k7 g _ ((D3.same (s4.trans s5)).ne n6.fr).1.symm n6.at_
      refine x_ifD (fun e => ?_) (fun e => ?_)
      · walk_at "go"
        refine mk_marks (.inl (SqL.of e5)) (by omega) fun x H8 s8 _ M => ?_
        walk_at "go"
        exact ⟨x, rfl, s8 _ _ e1, s8 _ _ e2, s8 _ _ e3, s8 _ _ e4, s8 _ _ e5, M⟩
      · walk_at "go"
        refine x_tupL (SqL.of e5) fun t9 H9 n9 => ?_
        walk_at "go"
        refine mk_marks (.inr (SqT.of n9.at_)) (by omega) fun x H8 s8' _ M => ?_
        have s8 := n9.same.trans s8'
        walk_at "go"
        exact ⟨x, rfl, s8 _ _ e1, s8 _ _ e2, s8 _ _ e3, s8 _ _ e4, s8 _ _ e5, M⟩
    have ngl : g ≠ l := (ne_of_none ((s4.trans s5) _ _ hl) n6.fr).symm
    have ngo : g ≠ o := (ne_of_none ((s4.trans s5) _ _ ho) n6.fr).symm
    clear D6 s36 n6 h5 h4 s5 s4 f4 f5 hl ho D3 no
    obtain ⟨m1, rfl, hl, ho, h1, h2, hg, M1⟩ := p
    generalize H' = H0 at *
    walk_at "go"
    refine x_listS (.inl (SqL.of ho)) fun c H1 n1 => ?_
    walk_at "go"
    refine mk_marks (.inl (SqL.of n1.at_)) (by omega) fun m2 H2 s2' _ M2 => ?_
    have s2 := n1.same.trans s2'
    walk_at "go"
    refine x_neL (SqL.of (s2 _ _ hg)) (SqL.of (s2 _ _ hl)) ?_
    rw [decide_eq_true rfl]
    walk_at "go"
    refine ⟨ty_lst (s2 _ _ hg), ?_⟩
    walk_at "go"
    have ne_g : ∀ {b : Addr} {u : HO} {zs : List V}, H2 b = some u → u ≠ .lst zs → True := fun _ _ => trivial
    refine x_appM (s2 _ _ hg) (by rw [List.length_map]; exact big_enough (by omega)) fun H3 k3 _ => ?_
    have B : LB T.c_Marks H3 m1 m2 t1 t2 l o xs ys := ⟨(M1.same s2).mut k3 (s2 _ _ hg), M2.mut k3 (s2 _ _ hg), k3 _ _ (ne_tl (s2 _ _ h1) (s2 _ _ hg)) (s2 _ _ h1), k3 _ _ (ne_tl (s2 _ _ h2) (s2 _ _ hg)) (s2 _ _ h2), k3 _ _ ngl.symm (s2 _ _ hl), k3 _ _ ngo.symm (s2 _ _ ho)⟩
    have lX := canon_length xs
    have lY := canon_length ys
    clear ne_g k3 M2 s2 s2' n1 M1 hg h2 h1 ho hl
    walk_at "go"
    refine ⟨m1, m2, t1, t2, _, _, rfl, B.M1, B.M2, B.h1, B.h2, by omega, asc_canon _, asc_canon _, fun H4 s4 => ?_⟩
    replace B := B.same s4
    walk_at "go"
    refine ⟨m2, m1, t2, t1, _, _, rfl, B.M2, B.M1, B.h2, B.h1, by omega, asc_canon _, asc_canon _, fun H5 s5 => ?_⟩
    replace B := B.same s5
    walk_at "go"
    refine ⟨m1, m1, t1, t1, _, _, rfl, B.M1, B.M1, B.h1, B.h1, by omega, asc_canon _, asc_canon _, fun H6 s6 => ?_⟩
    replace B := B.same s6
    clear s4 s5 s6
    walk_at "go"
    refine ⟨m1, t1, _, rfl, B.M1, B.h1, fun H7 s7 => ?_⟩
    replace B := B.same s7
    walk_at "go"
    refine ⟨m2, t2, _, rfl, B.M2, B.h2, fun H8 s8 => ?_⟩
    replace B := B.same s8
    clear s7 s8
    walk_at "go"
    refine ⟨l, xs, rfl, B.hl, ml, fun x H9 s9 Mx => ?_⟩
    replace B := B.same s9
    walk_at "go"
    refine ⟨l, _, rfl, SqL.of B.hl, fun e H10 n10 => ?_⟩
    rw [canon_take] at n10
    have lT : (xs.take 8).length ≤ 8 := by rw [List.length_take]; exact Nat.min_le_left _ _
    have lT2 := canon_length (xs.take 8)
    walk_at "go"
    refine ⟨e, _, rfl, n10.at_, by omega, fun e2 H11 s11 _ he2 => ?_⟩
    walk_at "go"
    refine ⟨x, e2, _, rfl, Mx.same (n10.same.trans s11), he2, by omega, fun H12 s12 => ?_⟩
    replace B := B.same ((n10.same.trans s11).trans s12)
    clear he2 s12 s11 n10 Mx s9
    walk_at "go"
    refine ⟨l, _, rfl, .inl (SqL.of B.hl), fun q hq => ?_⟩
    have n13 := New.mk' (o := .lst (xs.map V.int).reverse) hq
    generalize upd H12 q (.lst (xs.map V.int).reverse) = H13 at n13 ⊢
    replace B := B.same n13.same
    walk_at "go"
    refine x_listS (.inl (SqL.of B.ho)) fun u H14 n14 => ?_
    walk_at "go"
    refine x_cat (n14.same _ _ n13.at_) n14.at_ (by rw [List.length_reverse, List.length_map, List.length_map]; exact Nat.le_of_lt (big_enough (by omega))) fun c2 H15 n15 => ?_
    have h15 := n15.at_
    rw [← List.map_reverse, ← List.map_append] at h15
    replace B := B.same (n14.same.trans n15.same)
    clear n13 n14 hq
    walk_at "go"
    refine mk_marks (.inl (SqL.of h15)) (by rw [List.length_append, List.length_reverse]; omega) fun m3 H16 s16 _ M3 => ?_
    rw [canon_rev] at M3
    replace B := B.same s16
    clear s16 h15 n15
    walk_at "go"
    obtain ⟨dx, t, g1, g2⟩ := id B.M1
    obtain ⟨dy, t', g3, g4⟩ := id B.M2
    refine ⟨m1, dx, _, m2, dy, _, rfl, rfl, g1, g3, m1, m2, _, _, rfl, B.M1, B.M2, by omega, fun m4 H17 s17 M4 => ?_⟩
    rw [canon_app] at M4
    replace B := B.same s17
    replace M3 := M3.same s17
    clear s17 g1 g2 g3 g4
    walk_at "go"
    refine x_eqO M4 M3 ?_
    walk_at "go"
    refine ⟨true, congrArg (fun b => [V.bl b, V.bl true]) (decide_eq_true rfl), ?_⟩
    walk_at "go"
    refine ⟨t1, _, rfl, .inr (SqT.of B.h1), fun q hq => ?_⟩
    have n18 := New.mk' (o := .lst ((canon xs).map V.int).reverse) hq
    generalize upd H17 q (.lst ((canon xs).map V.int).reverse) = H18 at n18 ⊢
    have h18 := n18.at_
    rw [← List.map_reverse] at h18
    replace B := B.same n18.same
    replace M4 := M4.same n18.same
    clear n18 hq
    walk_at "go"
    refine mk_marks (.inl (SqL.of h18)) (by rw [List.length_reverse]; omega) fun m5 H19 s19 _ M5 => ?_
    rw [canon_rev1] at M5
    replace B := B.same s19
    replace M4 := M4.same s19
    clear s19 h18
    walk_at "go"
    refine x_eqO M5 B.M1 ?_
    walk_at "go"
    refine ⟨true, congrArg (fun b => [V.bl b, V.bl true]) (decide_eq_true rfl), ?_⟩
    have lXY := canon_length (xs ++ ys)
    rw [List.length_append] at lXY
    walk_at "go"
    refine x_subO M4 B.M2 (by omega) fun m6 H20 s20 M6 => ?_
    rw [canon_less] at M6
    replace B := B.same s20
    replace M4 := M4.same s20
    clear s20 M5 M3
    have lL := less_length (canon xs) (canon ys)
    walk_at "go"
    refine ⟨t1, t2, _, _, rfl, B.h1, B.h2, by omega, fun e3 H21 s21 h21 => ?_⟩
    replace B := B.same s21
    replace M4 := M4.same s21
    walk_at "go"
    refine ⟨m6, e3, _, rfl, M6.same s21, h21, by omega, fun H22 s22 => ?_⟩
    replace B := B.same s22
    replace M4 := M4.same s22
    clear s22 s21 h21 M6
    walk_at "go"
    refine x_eqO M4 B.M2 ?_
    walk_at "go"
    refine ⟨t1, t2, _, _, rfl, B.h1, B.h2, by omega, fun e4 H23 s23 h23 => ?_⟩
    replace B := B.same s23
    replace M4 := M4.same s23
    walk_at "go"
    refine ⟨Nat.zero_le _, fun e5 H24 n24 => ?_⟩
    replace B := B.same n24.same
    replace M4 := M4.same n24.same
    walk_at "go"
    refine x_eqT (ys := []) (SqT.of (n24.same _ _ h23)) (SqT.of n24.at_) ?_
    walk_at "go"
    refine ⟨decide (less (canon xs) (canon ys) = []), congrArg (fun b => [V.bl b, V.bl (decide (less (canon xs) (canon ys) = []))]) (decide_eq_decide.2 (canon_sub xs ys)), ?_⟩
    clear n24 s23 h23
    walk_at "go"
    refine ⟨Nat.zero_le _, fun e6 H25 n25 => ?_⟩
    replace B := B.same n25.same
    replace M4 := M4.same n25.same
    walk_at "go"
    refine mk_marks (ns := []) (.inr (SqT.of n25.at_)) (by decide) fun m7 H26 s26 _ M7 => ?_
    replace B := B.same s26
    replace M4 := M4.same s26
    clear n25 s26
    walk_at "go"
    refine ⟨Nat.zero_le _, fun e7 H27 n27 => ?_⟩
    replace B := B.same n27.same
    replace M4 := M4.same n27.same
    replace M7 := M7.same n27.same
    walk_at "go"
    refine ⟨m7, m1, e7, t1, [], _, rfl, M7, B.M1, n27.at_, B.h1, by rw [List.length_nil]; omega, List.Pairwise.nil, asc_canon _, fun H28 s28 => ?_⟩
    replace B := B.same s28
    replace M4 := M4.same s28
    replace M7 := M7.same s28
    clear n27 s28
    walk_at "go"
    refine ⟨Nat.zero_le _, fun e8 H29 n29 => ?_⟩
    replace B := B.same n29.same
    replace M4 := M4.same n29.same
    replace M7 := M7.same n29.same
    walk_at "go"
    refine ⟨m1, m7, t1, e8, _, [], rfl, B.M1, M7, B.h1, n29.at_, by rw [List.length_nil]; omega, asc_canon _, List.Pairwise.nil, fun H30 s30 => ?_⟩
    replace B := B.same s30
    replace M4 := M4.same s30
    clear n29 s30
    walk_at "go"
    refine x_cat B.hl B.ho (by rw [List.length_map, List.length_map]; exact Nat.le_of_lt (big_enough (by omega))) fun e9 H31 n31 => ?_
    have h31 := n31.at_
    rw [← List.map_append] at h31
    walk_at "go"
    refine ⟨e9, _, rfl, h31, by rw [List.length_append]; omega, fun e10 H32 s32 _ h32 => ?_⟩
    walk_at "go"
    exact ⟨m4, e10, _, rfl, M4.same (n31.same.trans s32), h32, by omega, fun H33 _ => k H33⟩
end
end K63
set_option Elab.async false
set_option linter.all false
set_option maxRecDepth 100000
set_option maxHeartbeats 4000000
namespace K63
open PySem PySem.Spec PyProof.Rows L2 L2.Au Asc63
/-- the steps that need no thought -/
local macro_rules | `(tactic| walk_at "go") => `(tactic| ((repeat (first
  | ((with_reducible apply x_var); exact rfl)
  | (with_reducible refine x_c ?_)
  | (with_reducible refine x_op ?_)
  | (with_reducible refine x_un ?_)
  | (with_reducible refine x_i0 ?_)
  | (with_reducible refine x_u ?_)
  | (with_reducible refine x_eqI ?_)
  | (with_reducible refine x_neI ?_)
  | (with_reducible refine x_eqS ?_)
  | (with_reducible refine x_neS ?_)
  | (with_reducible refine x_eqB ?_)
  | (with_reducible refine x_neB ?_)
  | (with_reducible refine x_test ?_)
  | (with_reducible refine x_tB ?_)
  | (with_reducible refine x_k ?_)
  | (with_reducible refine x_not ?_)
  | (with_reducible refine x_and ?_)
  | (with_reducible refine x_or ?_)
  | (with_reducible refine x_andV ?_)
  | (with_reducible refine x_orV ?_)
  | (with_reducible refine x_notV ?_)
  | (with_reducible refine x_if ?_)
  | (with_reducible refine x_ifT ?_)
  | (with_reducible refine x_ifF ?_)
  | (with_reducible refine x_nil ?_)
  | (with_reducible refine x_cons ?_)
  | (with_reducible refine x_cb ?_)
  | (with_reducible refine x_call ?_)
  | (with_reducible refine x_seq ?_)
  | (with_reducible refine x_lcT ?_)
  | (with_reducible refine x_lcL ?_)
  | (with_reducible refine x_next ?_)
  | (with_reducible refine x_asg ?_)
  | (with_reducible refine x_name ?_)
  | (with_reducible refine x_sub ?_)
  | (with_reducible refine x_drop ?_)
  | (with_reducible refine x_ret ?_)
  | (with_reducible refine x_retN ?_)
  | (with_reducible refine x_ifS ?_)
  | (with_reducible refine x_intS ?_)
  | (with_reducible refine x_absS ?_)
  | (with_reducible refine x_minS ?_)
  | (with_reducible refine x_maxS ?_)
  | (with_reducible refine x_fld ?_)
  | (with_reducible refine x_bm ?_)
  | (with_reducible refine x_for ?_)
  | (with_reducible refine x_lc ?_)
  | (with_reducible refine x_ifNT ?_)
  | (with_reducible refine x_ifNF ?_)
  | (with_reducible refine x_sfld ?_)
  | (with_reducible refine x_make ?_)
  | (with_reducible refine x_meth ?_)
  | (with_reducible refine x_sl ?_)
  | (with_reducible refine x_noPart ?_)
  | (with_reducible refine x_part ?_)
  | (with_reducible refine x_kI ?_)
  | (with_reducible refine x_iR1 ?_)
  | (with_reducible refine x_iL ?_)
  | (with_reducible refine x_iT ?_)
  | (with_reducible refine x_lst ?_)
  | (with_reducible refine x_tup ?_)
  | (with_reducible refine OwR.x_smeth ?_)
  | (with_reducible refine OwR.x_listRev ?_)
  | (with_reducible refine x_isiII ?_)
  | (with_reducible refine x_isiIB ?_)
  | (with_reducible refine x_isiBB ?_)
  | (with_reducible refine x_isiSS ?_)
  | ((with_reducible apply x_ixL); (first | assumption | exact SqL.of (by assumption)); exact rfl)
  | ((with_reducible apply x_ixT); assumption; exact rfl)
  | ((with_reducible apply x_lenS); (first | assumption | exact Or.inl (SqL.of (by assumption)) | exact Or.inl (by assumption) | exact Or.inr (by assumption) | exact Or.inr (SqT.of (by assumption)))))); try dsimp only [List.set]))
local macro_rules | `(tactic| walk_at "st") => `(tactic| dsimp only [cxOf, L2.start, List.map, List.length, Nat.reduceAdd, Nat.reduceSub, List.replicate, List.cons_append, List.nil_append])
theorem all_mk {l : PySem.W.OpenLaw} {w : World} {K : PySem.W.Frag} {h : Heap} {mg : Str → Option Value} {fa : Addr} (X : K.In h) (G : h.Ns mainGlobals mg) (hfa : mg "law" = some (.ref fa))
    {f0 f1 f2 f3 f4 f5 f6 f7 f8 f9 f10 f11 f12 f13 f14 f15 f16 f17 f18 f19 f20 C0 p1 : Addr} {od0 an0 od1 an1 od2 an2 od3 an3 od4 an4 od5 an5 od6 an6 od7 an7 od8 an8 od9 an9 od10 an10 od11 an11 od12 an12 od13 an13 od14 an14 od15 an15 od16 an16 od17 an17 od18 an18 od19 an19 od20 an20 : Option Addr} {sl0 sl1 sl2 sl3 sl4 sl5 sl6 sl7 sl8 sl9 sl10 sl11 sl12 sl13 sl14 sl15 sl16 sl17 sl18 sl19 sl20 : Array (Option Value)} {oc0 kV0 dc0 pm0 cd0 ct0 oc1 kV1 dc1 pm1 cd1 ct1 oc2 kV2 dc2 pm2 cd2 ct2 oc3 kV3 dc3 pm3 cd3 ct3 oc4 kV4 dc4 pm4 cd4 ct4 oc5 kV5 dc5 pm5 cd5 ct5 oc6 kV6 dc6 pm6 cd6 ct6 oc7 kV7 dc7 pm7 cd7 ct7 oc8 kV8 dc8 pm8 cd8 ct8 oc9 kV9 dc9 pm9 cd9 ct9 oc10 kV10 dc10 pm10 cd10 ct10 oc11 kV11 dc11 pm11 cd11 ct11 oc12 kV12 dc12 pm12 cd12 ct12 oc13 kV13 dc13 pm13 cd13 ct13 oc14 kV14 dc14 pm14 cd14 ct14 oc15 kV15 dc15 pm15 cd15 ct15 oc16 kV16 dc16 pm16 cd16 ct16 oc17 kV17 dc17 pm17 cd17 ct17 oc18 kV18 dc18 pm18 cd18 ct18 oc19 kV19 dc19 pm19 cd19 ct19 oc20 kV20 dc20 pm20 cd20 ct20 : Value} {rest1 : List Value}
    (h_ac0 : PySem.W.nsIn K mainGlobals "Marks" = some (some (.ref C0)))
    (h_a9 : PySem.W.nsIn K mainGlobals "_law_draws" = some (some (.ref f9)))
    (h_a10 : PySem.W.nsIn K mainGlobals "_law_pick" = some (some (.ref f10)))
    (h_a11 : PySem.W.nsIn K mainGlobals "_law_lot" = some (some (.ref f11)))
    (h_a12 : PySem.W.nsIn K mainGlobals "_law_near" = some (some (.ref f12)))
    (h_a13 : PySem.W.nsIn K mainGlobals "_law_set" = some (some (.ref f13)))
    (h_a14 : PySem.W.nsIn K mainGlobals "_law_less" = some (some (.ref f14)))
    (h_a15 : PySem.W.nsIn K mainGlobals "_law_flag" = some (some (.ref f15)))
    (h_a16 : PySem.W.nsIn K mainGlobals "_law_is" = some (some (.ref f16)))
    (h_a17 : PySem.W.nsIn K mainGlobals "_law_pair" = some (some (.ref f17)))
    (h_a18 : PySem.W.nsIn K mainGlobals "_law_of" = some (some (.ref f18)))
    (h_a19 : PySem.W.nsIn K mainGlobals "_law_walked" = some (some (.ref f19)))
    (h_a20 : PySem.W.nsIn K mainGlobals "law" = some (some (.ref f20)))
    (h_srd1 : PySem.W.readsIn K C0 (.type "type") = true)
    (h_sat1 : PySem.W.findCls K (.ref C0) (.type "type") "of" = some (.get (.builtin "staticmethod.__get__") (.ref p1) .none (.ref C0)))
    (h_src1 : PySem.W.recIn K p1 "staticmethod" = some (.ref f1 :: rest1))
    (h_at0 : PySem.W.findIn K (.ref C0) "__init__" = some (some (.ref f0)))
    (h_at2 : PySem.W.findIn K (.ref C0) "__or__" = some (some (.ref f2)))
    (h_at3 : PySem.W.findIn K (.ref C0) "__sub__" = some (some (.ref f3)))
    (h_at4 : PySem.W.findIn K (.ref C0) "__eq__" = some (some (.ref f4)))
    (h_at5 : PySem.W.findIn K (.ref C0) "__len__" = some (some (.ref f5)))
    (h_at6 : PySem.W.findIn K (.ref C0) "__contains__" = some (some (.ref f6)))
    (h_at7 : PySem.W.findIn K (.ref C0) "__iter__" = some (some (.ref f7)))
    (h_at8 : PySem.W.findIn K (.ref C0) "within" = some (some (.ref f8)))
    (h_l0 : K.lookup f0 = some ⟨oc0, od0, .func (PySem.W.fnOf "__init__" "Marks.__init__" (defArgs s_Marks__init) (defBody s_Marks__init) (defScope s_Marks__init) .none kV0 dc0 pm0 an0 cd0 ct0), sl0⟩)
    (h_l1 : K.lookup f1 = some ⟨oc1, od1, .func (PySem.W.fnOf "of" "Marks.of" (defArgs s_Marks_of) (defBody s_Marks_of) (defScope s_Marks_of) .none kV1 dc1 pm1 an1 cd1 ct1), sl1⟩)
    (h_l2 : K.lookup f2 = some ⟨oc2, od2, .func (PySem.W.fnOf "__or__" "Marks.__or__" (defArgs s_Marks__or) (defBody s_Marks__or) (defScope s_Marks__or) .none kV2 dc2 pm2 an2 cd2 ct2), sl2⟩)
    (h_l3 : K.lookup f3 = some ⟨oc3, od3, .func (PySem.W.fnOf "__sub__" "Marks.__sub__" (defArgs s_Marks__sub) (defBody s_Marks__sub) (defScope s_Marks__sub) .none kV3 dc3 pm3 an3 cd3 ct3), sl3⟩)
    (h_l4 : K.lookup f4 = some ⟨oc4, od4, .func (PySem.W.fnOf "__eq__" "Marks.__eq__" (defArgs s_Marks__eq) (defBody s_Marks__eq) (defScope s_Marks__eq) .none kV4 dc4 pm4 an4 cd4 ct4), sl4⟩)
    (h_l5 : K.lookup f5 = some ⟨oc5, od5, .func (PySem.W.fnOf "__len__" "Marks.__len__" (defArgs s_Marks__len) (defBody s_Marks__len) (defScope s_Marks__len) .none kV5 dc5 pm5 an5 cd5 ct5), sl5⟩)
    (h_l6 : K.lookup f6 = some ⟨oc6, od6, .func (PySem.W.fnOf "__contains__" "Marks.__contains__" (defArgs s_Marks__contains) (defBody s_Marks__contains) (defScope s_Marks__contains) .none kV6 dc6 pm6 an6 cd6 ct6), sl6⟩)
    (h_l7 : K.lookup f7 = some ⟨oc7, od7, .func (PySem.W.fnOf "__iter__" "Marks.__iter__" (defArgs s_Marks__iter) (defBody s_Marks__iter) (defScope s_Marks__iter) .none kV7 dc7 pm7 an7 cd7 ct7), sl7⟩)
    (h_l8 : K.lookup f8 = some ⟨oc8, od8, .func (PySem.W.fnOf "within" "Marks.within" (defArgs s_Marks_within) (defBody s_Marks_within) (defScope s_Marks_within) .none kV8 dc8 pm8 an8 cd8 ct8), sl8⟩)
    (h_l9 : K.lookup f9 = some ⟨oc9, od9, .func (PySem.W.fnOf "_law_draws" "_law_draws" (defArgs s_law_draws) (defBody s_law_draws) (defScope s_law_draws) .none kV9 dc9 pm9 an9 cd9 ct9), sl9⟩)
    (h_l10 : K.lookup f10 = some ⟨oc10, od10, .func (PySem.W.fnOf "_law_pick" "_law_pick" (defArgs s_law_pick) (defBody s_law_pick) (defScope s_law_pick) .none kV10 dc10 pm10 an10 cd10 ct10), sl10⟩)
    (h_l11 : K.lookup f11 = some ⟨oc11, od11, .func (PySem.W.fnOf "_law_lot" "_law_lot" (defArgs s_law_lot) (defBody s_law_lot) (defScope s_law_lot) .none kV11 dc11 pm11 an11 cd11 ct11), sl11⟩)
    (h_l12 : K.lookup f12 = some ⟨oc12, od12, .func (PySem.W.fnOf "_law_near" "_law_near" (defArgs s_law_near) (defBody s_law_near) (defScope s_law_near) .none kV12 dc12 pm12 an12 cd12 ct12), sl12⟩)
    (h_l13 : K.lookup f13 = some ⟨oc13, od13, .func (PySem.W.fnOf "_law_set" "_law_set" (defArgs s_law_set) (defBody s_law_set) (defScope s_law_set) .none kV13 dc13 pm13 an13 cd13 ct13), sl13⟩)
    (h_l14 : K.lookup f14 = some ⟨oc14, od14, .func (PySem.W.fnOf "_law_less" "_law_less" (defArgs s_law_less) (defBody s_law_less) (defScope s_law_less) .none kV14 dc14 pm14 an14 cd14 ct14), sl14⟩)
    (h_l15 : K.lookup f15 = some ⟨oc15, od15, .func (PySem.W.fnOf "_law_flag" "_law_flag" (defArgs s_law_flag) (defBody s_law_flag) (defScope s_law_flag) .none kV15 dc15 pm15 an15 cd15 ct15), sl15⟩)
    (h_l16 : K.lookup f16 = some ⟨oc16, od16, .func (PySem.W.fnOf "_law_is" "_law_is" (defArgs s_law_is) (defBody s_law_is) (defScope s_law_is) .none kV16 dc16 pm16 an16 cd16 ct16), sl16⟩)
    (h_l17 : K.lookup f17 = some ⟨oc17, od17, .func (PySem.W.fnOf "_law_pair" "_law_pair" (defArgs s_law_pair) (defBody s_law_pair) (defScope s_law_pair) .none kV17 dc17 pm17 an17 cd17 ct17), sl17⟩)
    (h_l18 : K.lookup f18 = some ⟨oc18, od18, .func (PySem.W.fnOf "_law_of" "_law_of" (defArgs s_law_of) (defBody s_law_of) (defScope s_law_of) .none kV18 dc18 pm18 an18 cd18 ct18), sl18⟩)
    (h_l19 : K.lookup f19 = some ⟨oc19, od19, .func (PySem.W.fnOf "_law_walked" "_law_walked" (defArgs s_law_walked) (defBody s_law_walked) (defScope s_law_walked) .none kV19 dc19 pm19 an19 cd19 ct19), sl19⟩)
    (h_l20 : K.lookup f20 = some ⟨oc20, od20, .func (PySem.W.fnOf "law" "law" (defArgs s_law) (defBody s_law) (defScope s_law) .none kV20 dc20 pm20 an20 cd20 ct20), sl20⟩)
    (h_c0 : PySem.W.codeIn K cd0 "Marks.__init__" = true)
    (h_k0 : PySem.W.keepIn K (.ref f0) = true)
    (h_c1 : PySem.W.codeIn K cd1 "Marks.of" = true)
    (h_k1 : PySem.W.keepIn K (.ref f1) = true)
    (h_c2 : PySem.W.codeIn K cd2 "Marks.__or__" = true)
    (h_k2 : PySem.W.keepIn K (.ref f2) = true)
    (h_c3 : PySem.W.codeIn K cd3 "Marks.__sub__" = true)
    (h_k3 : PySem.W.keepIn K (.ref f3) = true)
    (h_c4 : PySem.W.codeIn K cd4 "Marks.__eq__" = true)
    (h_k4 : PySem.W.keepIn K (.ref f4) = true)
    (h_c5 : PySem.W.codeIn K cd5 "Marks.__len__" = true)
    (h_k5 : PySem.W.keepIn K (.ref f5) = true)
    (h_c6 : PySem.W.codeIn K cd6 "Marks.__contains__" = true)
    (h_k6 : PySem.W.keepIn K (.ref f6) = true)
    (h_c7 : PySem.W.codeIn K cd7 "Marks.__iter__" = true)
    (h_k7 : PySem.W.keepIn K (.ref f7) = true)
    (h_c8 : PySem.W.codeIn K cd8 "Marks.within" = true)
    (h_k8 : PySem.W.keepIn K (.ref f8) = true)
    (h_c9 : PySem.W.codeIn K cd9 "_law_draws" = true)
    (h_k9 : PySem.W.keepIn K (.ref f9) = true)
    (h_c10 : PySem.W.codeIn K cd10 "_law_pick" = true)
    (h_k10 : PySem.W.keepIn K (.ref f10) = true)
    (h_c11 : PySem.W.codeIn K cd11 "_law_lot" = true)
    (h_k11 : PySem.W.keepIn K (.ref f11) = true)
    (h_c12 : PySem.W.codeIn K cd12 "_law_near" = true)
    (h_k12 : PySem.W.keepIn K (.ref f12) = true)
    (h_c13 : PySem.W.codeIn K cd13 "_law_set" = true)
    (h_k13 : PySem.W.keepIn K (.ref f13) = true)
    (h_c14 : PySem.W.codeIn K cd14 "_law_less" = true)
    (h_k14 : PySem.W.keepIn K (.ref f14) = true)
    (h_c15 : PySem.W.codeIn K cd15 "_law_flag" = true)
    (h_k15 : PySem.W.keepIn K (.ref f15) = true)
    (h_c16 : PySem.W.codeIn K cd16 "_law_is" = true)
    (h_k16 : PySem.W.keepIn K (.ref f16) = true)
    (h_c17 : PySem.W.codeIn K cd17 "_law_pair" = true)
    (h_k17 : PySem.W.keepIn K (.ref f17) = true)
    (h_c18 : PySem.W.codeIn K cd18 "_law_of" = true)
    (h_k18 : PySem.W.keepIn K (.ref f18) = true)
    (h_c19 : PySem.W.codeIn K cd19 "_law_walked" = true)
    (h_k19 : PySem.W.keepIn K (.ref f19) = true)
    (h_c20 : PySem.W.codeIn K cd20 "law" = true)
    (h_k20 : PySem.W.keepIn K (.ref f20) = true)
    (h_pg0 : PySem.W.plainGet K C0 Str.empty = true)
    (h_hd0 : PySem.W.hasDictIn K C0 = true)
    (h_po0 : PySem.W.plainOver K C0 = true)
    (h_sa0 : PySem.W.findIn K (.ref C0) "__setattr__" = some (some (.builtin "object.__setattr__")))
    (h_na0_lines : PySem.W.findIn K (.ref C0) "lines" = some none)
    (h_ihMarks : PySem.W.findIn K (.ref C0) "__class__" = some (some (.builtin "object.__class__")))
    (h_inMarks : PySem.W.specialIn K (.builtin "object.__class__") "__get__" = some (some (.builtin "getset_descriptor.__get__")))
    (h_itMarks : PySem.W.takesIn K (.builtin "object.__class__") = some true)
    (h_imMarks : PySem.W.mroIn K C0 (.type "object") = some true)
    (h_sfMarks : PySem.W.selfFirst K C0 = true)
    (h_if0 : PySem.W.isFn K (.ref f0) = true)
    (h_mk0 : PySem.W.makesIn K C0 = true)
    (h_kc0 : PySem.W.keepIn K (.ref C0) = true)
    (h_sga1 : PySem.W.specialIn K (.ref C0) "__getattribute__" = some (some (.builtin "type.__getattribute__")))
    (h_if2 : PySem.W.isFn K (.ref f2) = true)
    (h_if3 : PySem.W.isFn K (.ref f3) = true)
    (h_if4 : PySem.W.isFn K (.ref f4) = true)
    (h_if5 : PySem.W.isFn K (.ref f5) = true)
    (h_if6 : PySem.W.isFn K (.ref f6) = true)
    (h_if7 : PySem.W.isFn K (.ref f7) = true)
    (h_if8 : PySem.W.isFn K (.ref f8) = true)
    (h_z_abs : PySem.W.nsIn K mainGlobals "abs" = some none)
    (h_z_bool : PySem.W.nsIn K mainGlobals "bool" = some none)
    (h_z_int : PySem.W.nsIn K mainGlobals "int" = some none)
    (h_z_isinstance : PySem.W.nsIn K mainGlobals "isinstance" = some none)
    (h_z_iter : PySem.W.nsIn K mainGlobals "iter" = some none)
    (h_z_len : PySem.W.nsIn K mainGlobals "len" = some none)
    (h_z_list : PySem.W.nsIn K mainGlobals "list" = some none)
    (h_z_min : PySem.W.nsIn K mainGlobals "min" = some none)
    (h_z_range : PySem.W.nsIn K mainGlobals "range" = some none)
    (h_z_reversed : PySem.W.nsIn K mainGlobals "reversed" = some none)
    (h_z_set : PySem.W.nsIn K mainGlobals "set" = some none)
    (h_z_sorted : PySem.W.nsIn K mainGlobals "sorted" = some none)
    (h_z_tuple : PySem.W.nsIn K mainGlobals "tuple" = some none)
    : ∃ fd : FuncData, (∀ (s : Shared) (v : Value), BindsTo s fd ⟨[v], []⟩ [("script", v)]) ∧ ∀ base : Heap, K.In base → base.Ns mainGlobals mg → FnOk l.prog w K mg base CX0 8 fa fd ["script"] (spLaw K) := by
  have ac0 := h_ac0
  have a9 := h_a9
  have a10 := h_a10
  have a11 := h_a11
  have a12 := h_a12
  have a13 := h_a13
  have a14 := h_a14
  have a15 := h_a15
  have a16 := h_a16
  have a17 := h_a17
  have a18 := h_a18
  have a19 := h_a19
  have a20 := h_a20
  have srd1 := h_srd1
  have sat1 := h_sat1
  have src1 := h_src1
  have at0 := h_at0
  have at2 := h_at2
  have at3 := h_at3
  have at4 := h_at4
  have at5 := h_at5
  have at6 := h_at6
  have at7 := h_at7
  have at8 := h_at8
  have l0 := h_l0
  have l1 := h_l1
  have l2 := h_l2
  have l3 := h_l3
  have l4 := h_l4
  have l5 := h_l5
  have l6 := h_l6
  have l7 := h_l7
  have l8 := h_l8
  have l9 := h_l9
  have l10 := h_l10
  have l11 := h_l11
  have l12 := h_l12
  have l13 := h_l13
  have l14 := h_l14
  have l15 := h_l15
  have l16 := h_l16
  have l17 := h_l17
  have l18 := h_l18
  have l19 := h_l19
  have l20 := h_l20
  have c0 := h_c0
  have k0 := h_k0
  have c1 := h_c1
  have k1 := h_k1
  have c2 := h_c2
  have k2 := h_k2
  have c3 := h_c3
  have k3 := h_k3
  have c4 := h_c4
  have k4 := h_k4
  have c5 := h_c5
  have k5 := h_k5
  have c6 := h_c6
  have k6 := h_k6
  have c7 := h_c7
  have k7 := h_k7
  have c8 := h_c8
  have k8 := h_k8
  have c9 := h_c9
  have k9 := h_k9
  have c10 := h_c10
  have k10 := h_k10
  have c11 := h_c11
  have k11 := h_k11
  have c12 := h_c12
  have k12 := h_k12
  have c13 := h_c13
  have k13 := h_k13
  have c14 := h_c14
  have k14 := h_k14
  have c15 := h_c15
  have k15 := h_k15
  have c16 := h_c16
  have k16 := h_k16
  have c17 := h_c17
  have k17 := h_k17
  have c18 := h_c18
  have k18 := h_k18
  have c19 := h_c19
  have k19 := h_k19
  have c20 := h_c20
  have k20 := h_k20
  have pg0 := h_pg0
  have hd0 := h_hd0
  have po0 := h_po0
  have sa0 := h_sa0
  have na0_lines := h_na0_lines
  have ihMarks := h_ihMarks
  have inMarks := h_inMarks
  have itMarks := h_itMarks
  have imMarks := h_imMarks
  have sfMarks := h_sfMarks
  have if0 := h_if0
  have mk0 := h_mk0
  have kc0 := h_kc0
  have sga1 := h_sga1
  have if2 := h_if2
  have if3 := h_if3
  have if4 := h_if4
  have if5 := h_if5
  have if6 := h_if6
  have if7 := h_if7
  have if8 := h_if8
  have z_abs := h_z_abs
  have z_bool := h_z_bool
  have z_int := h_z_int
  have z_isinstance := h_z_isinstance
  have z_iter := h_z_iter
  have z_len := h_z_len
  have z_list := h_z_list
  have z_min := h_z_min
  have z_range := h_z_range
  have z_reversed := h_z_reversed
  have z_set := h_z_set
  have z_sorted := h_z_sorted
  have z_tuple := h_z_tuple
  have e : f20 = fa := by
    have z := hfa.symm.trans (PySem.W.mg_of X G a20)
    cases z
    rfl
  subst e
  have F0 := fun_mk (st := s_Marks__init) l0 c0 k0
  have b0 := F0.binds (ps := ["self", "lines"]) fun _ _ _ _ _ _ us hl => match us, hl with | [_, _], _ => rfl
  have F1 := fun_mk (st := s_Marks_of) l1 c1 k1
  have F2 := fun_mk (st := s_Marks__or) l2 c2 k2
  have b2 := F2.binds (ps := ["self", "other"]) fun _ _ _ _ _ _ us hl => match us, hl with | [_, _], _ => rfl
  have F3 := fun_mk (st := s_Marks__sub) l3 c3 k3
  have b3 := F3.binds (ps := ["self", "other"]) fun _ _ _ _ _ _ us hl => match us, hl with | [_, _], _ => rfl
  have F4 := fun_mk (st := s_Marks__eq) l4 c4 k4
  have b4 := F4.binds (ps := ["self", "other"]) fun _ _ _ _ _ _ us hl => match us, hl with | [_, _], _ => rfl
  have F5 := fun_mk (st := s_Marks__len) l5 c5 k5
  have b5 := F5.binds (ps := ["self"]) fun _ _ _ _ _ _ us hl => match us, hl with | [_], _ => rfl
  have F6 := fun_mk (st := s_Marks__contains) l6 c6 k6
  have b6 := F6.binds (ps := ["self", "line"]) fun _ _ _ _ _ _ us hl => match us, hl with | [_, _], _ => rfl
  have F7 := fun_mk (st := s_Marks__iter) l7 c7 k7
  have b7 := F7.binds (ps := ["self"]) fun _ _ _ _ _ _ us hl => match us, hl with | [_], _ => rfl
  have F8 := fun_mk (st := s_Marks_within) l8 c8 k8
  have b8 := F8.binds (ps := ["self", "other"]) fun _ _ _ _ _ _ us hl => match us, hl with | [_, _], _ => rfl
  have F9 := fun_mk (st := s_law_draws) l9 c9 k9
  have b9 := F9.binds (ps := ["script"]) fun _ _ _ _ _ _ us hl => match us, hl with | [_], _ => rfl
  have F10 := fun_mk (st := s_law_pick) l10 c10 k10
  have b10 := F10.binds (ps := ["draws", "many"]) fun _ _ _ _ _ _ us hl => match us, hl with | [_, _], _ => rfl
  have F11 := fun_mk (st := s_law_lot) l11 c11 k11
  have b11 := F11.binds (ps := ["draws"]) fun _ _ _ _ _ _ us hl => match us, hl with | [_], _ => rfl
  have F12 := fun_mk (st := s_law_near) l12 c12 k12
  have b12 := F12.binds (ps := ["draws", "lot"]) fun _ _ _ _ _ _ us hl => match us, hl with | [_, _], _ => rfl
  have F13 := fun_mk (st := s_law_set) l13 c13 k13
  have b13 := F13.binds (ps := ["lot"]) fun _ _ _ _ _ _ us hl => match us, hl with | [_], _ => rfl
  have F14 := fun_mk (st := s_law_less) l14 c14 k14
  have b14 := F14.binds (ps := ["one", "two"]) fun _ _ _ _ _ _ us hl => match us, hl with | [_, _], _ => rfl
  have F15 := fun_mk (st := s_law_flag) l15 c15 k15
  have b15 := F15.binds (ps := ["actual", "due"]) fun _ _ _ _ _ _ us hl => match us, hl with | [_, _], _ => rfl
  have F16 := fun_mk (st := s_law_is) l16 c16 k16
  have b16 := F16.binds (ps := ["marks", "due"]) fun _ _ _ _ _ _ us hl => match us, hl with | [_, _], _ => rfl
  have F17 := fun_mk (st := s_law_pair) l17 c17 k17
  have b17 := F17.binds (ps := ["first", "second", "one", "two"]) fun _ _ _ _ _ _ us hl => match us, hl with | [_, _, _, _], _ => rfl
  have F18 := fun_mk (st := s_law_of) l18 c18 k18
  have b18 := F18.binds (ps := ["lot"]) fun _ _ _ _ _ _ us hl => match us, hl with | [_], _ => rfl
  have F19 := fun_mk (st := s_law_walked) l19 c19 k19
  have b19 := F19.binds (ps := ["marks", "lot"]) fun _ _ _ _ _ _ us hl => match us, hl with | [_, _], _ => rfl
  have F20 := fun_mk (st := s_law) l20 c20 k20
  have b20 := F20.binds (ps := ["script"]) fun _ _ _ _ _ _ us hl => match us, hl with | [_], _ => rfl
  let T : Ctx K mg := {
    f_Marks__init := f0,
    fd_Marks__init := _,
    F_Marks__init := F0,
    b_Marks__init := b0,
    f_Marks_of := f1,
    fd_Marks_of := _,
    F_Marks_of := F1,
    f_Marks__or := f2,
    fd_Marks__or := _,
    F_Marks__or := F2,
    b_Marks__or := b2,
    f_Marks__sub := f3,
    fd_Marks__sub := _,
    F_Marks__sub := F3,
    b_Marks__sub := b3,
    f_Marks__eq := f4,
    fd_Marks__eq := _,
    F_Marks__eq := F4,
    b_Marks__eq := b4,
    f_Marks__len := f5,
    fd_Marks__len := _,
    F_Marks__len := F5,
    b_Marks__len := b5,
    f_Marks__contains := f6,
    fd_Marks__contains := _,
    F_Marks__contains := F6,
    b_Marks__contains := b6,
    f_Marks__iter := f7,
    fd_Marks__iter := _,
    F_Marks__iter := F7,
    b_Marks__iter := b7,
    f_Marks_within := f8,
    fd_Marks_within := _,
    F_Marks_within := F8,
    b_Marks_within := b8,
    f_law_draws := f9,
    fd_law_draws := _,
    F_law_draws := F9,
    b_law_draws := b9,
    g_law_draws := PySem.W.mg_of X G a9,
    f_law_pick := f10,
    fd_law_pick := _,
    F_law_pick := F10,
    b_law_pick := b10,
    g_law_pick := PySem.W.mg_of X G a10,
    f_law_lot := f11,
    fd_law_lot := _,
    F_law_lot := F11,
    b_law_lot := b11,
    g_law_lot := PySem.W.mg_of X G a11,
    f_law_near := f12,
    fd_law_near := _,
    F_law_near := F12,
    b_law_near := b12,
    g_law_near := PySem.W.mg_of X G a12,
    f_law_set := f13,
    fd_law_set := _,
    F_law_set := F13,
    b_law_set := b13,
    g_law_set := PySem.W.mg_of X G a13,
    f_law_less := f14,
    fd_law_less := _,
    F_law_less := F14,
    b_law_less := b14,
    g_law_less := PySem.W.mg_of X G a14,
    f_law_flag := f15,
    fd_law_flag := _,
    F_law_flag := F15,
    b_law_flag := b15,
    g_law_flag := PySem.W.mg_of X G a15,
    f_law_is := f16,
    fd_law_is := _,
    F_law_is := F16,
    b_law_is := b16,
    g_law_is := PySem.W.mg_of X G a16,
    f_law_pair := f17,
    fd_law_pair := _,
    F_law_pair := F17,
    b_law_pair := b17,
    g_law_pair := PySem.W.mg_of X G a17,
    f_law_of := f18,
    fd_law_of := _,
    F_law_of := F18,
    b_law_of := b18,
    g_law_of := PySem.W.mg_of X G a18,
    f_law_walked := f19,
    fd_law_walked := _,
    F_law_walked := F19,
    b_law_walked := b19,
    g_law_walked := PySem.W.mg_of X G a19,
    f_law := f20,
    fd_law := _,
    F_law := F20,
    b_law := b20,
    g_law := PySem.W.mg_of X G a20,
    c_Marks := C0,
    g_Marks := PySem.W.mg_of X G ac0,
    cl_Marks := ⟨pg0, hd0, po0, sa0⟩,
    na_Marks_lines := na0_lines,
    ic_Marks := ⟨⟨pg0, hd0, po0, sa0⟩, ihMarks, inMarks, itMarks, imMarks, OwR.kit_self⟩,
    sf_Marks := sfMarks,
    m_Marks := ⟨mk0, at0, if0, kc0⟩,
    mc_Marks := .type "type",
    p_Marks_of := p1,
    cr_Marks := ⟨srd1, sga1⟩,
    sm_Marks_of := ⟨sat1, ⟨rest1, src1⟩, k1⟩,
    s_Marks__or := ⟨at2, if2⟩,
    s_Marks__sub := ⟨at3, if3⟩,
    s_Marks__eq := ⟨at4, if4⟩,
    s_Marks__len := ⟨at5, if5⟩,
    s_Marks__contains := ⟨at6, if6⟩,
    s_Marks__iter := ⟨at7, if7⟩,
    me_Marks_within := ⟨at8, if8, k8⟩,
    z_abs := PySem.W.mg_none_of X G z_abs,
    z_bool := PySem.W.mg_none_of X G z_bool,
    z_int := PySem.W.mg_none_of X G z_int,
    z_isinstance := PySem.W.mg_none_of X G z_isinstance,
    z_iter := PySem.W.mg_none_of X G z_iter,
    z_len := PySem.W.mg_none_of X G z_len,
    z_list := PySem.W.mg_none_of X G z_list,
    z_min := PySem.W.mg_none_of X G z_min,
    z_range := PySem.W.mg_none_of X G z_range,
    z_reversed := PySem.W.mg_none_of X G z_reversed,
    z_set := PySem.W.mg_none_of X G z_set,
    z_sorted := PySem.W.mg_none_of X G z_sorted,
    z_tuple := PySem.W.mg_none_of X G z_tuple }
  exact ⟨_, fun s v => .of_eq rfl, fun base _ _ => ok_law T⟩
theorem walk {l : PySem.W.OpenLaw} {q : Program} {loose : List Str} {XP : (Str → Option Value) → Heap → Prop} {YP : World → Heap → Prop} {d : DefRec} {K : Params → PySem.W.Frag} (hn : l.most = some 63) (hdf : d.params.defaults = [])
    (hY : ∀ (w : World) (h : Heap), YP w h → (K w.params).In h)
    (F : ∀ (w : World) (mg : Str → Option Value) (fa : Addr) (h : Heap), (K w.params).In h → h.Ns mainGlobals mg → mg d.name = some (.ref fa) →
      ∃ fd : FuncData, (∀ (s : Shared) (u : Value), BindsTo s fd ⟨[u], []⟩ [("script", u)]) ∧ ∀ base : Heap, (K w.params).In base → base.Ns mainGlobals mg → FnOk l.prog w (K w.params) mg base CX0 8 fa fd ["script"] (spLaw (K w.params))) :
    PySem.W.WalkO q loose XP YP l.row.toRowW d [] (fun f vs => PySem.call f vs) :=
  L2.walk_of (n := 63) (k := 8) (x := "script") (CX := fun _ => CX0) (sp := fun w => spLaw (K w.params)) hn (by decide) hdf ⟨rfl, by decide, by decide⟩ hY F (fun _ _ a ns hl _ hS => ⟨a, ns, rfl, hS, hl, fun _ => rfl⟩) fun _ _ _ _ _ z => z
end K63
open PySem PySem.W PyProof.Rows
set_option maxRecDepth 100000 in
set_option maxHeartbeats 0 in
theorem PySem.Challenge.cw_codefromcode_k63_marks_are_sets_holds : PySem.Challenge.rw_codefromcode_k63_marks_are_sets.Holds := by
  w_on; o_law; k_head; (case hw => w_witness2)
  k_fill
  refine K63.walk (l := PySem.Challenge.rw_codefromcode_k63_marks_are_sets) rfl rfl (fun w h Y => PySem.W.kIn_of Y) ?F
  case F =>
    intro w mg fa h KX G hmg
    refine' K63.all_mk KX G hmg ?ac0 ?a9 ?a10 ?a11 ?a12 ?a13 ?a14 ?a15 ?a16 ?a17 ?a18 ?a19 ?a20 ?srd1 ?sat1 ?src1 ?at0 ?at2 ?at3 ?at4 ?at5 ?at6 ?at7 ?at8 ?l0 ?l1 ?l2 ?l3 ?l4 ?l5 ?l6 ?l7 ?l8 ?l9 ?l10 ?l11 ?l12 ?l13 ?l14 ?l15 ?l16 ?l17 ?l18 ?l19 ?l20 ?c0 ?k0 ?c1 ?k1 ?c2 ?k2 ?c3 ?k3 ?c4 ?k4 ?c5 ?k5 ?c6 ?k6 ?c7 ?k7 ?c8 ?k8 ?c9 ?k9 ?c10 ?k10 ?c11 ?k11 ?c12 ?k12 ?c13 ?k13 ?c14 ?k14 ?c15 ?k15 ?c16 ?k16 ?c17 ?k17 ?c18 ?k18 ?c19 ?k19 ?c20 ?k20 ?pg0 ?hd0 ?po0 ?sa0 ?na0_lines ?ihMarks ?inMarks ?itMarks ?imMarks ?sfMarks ?if0 ?mk0 ?kc0 ?sga1 ?if2 ?if3 ?if4 ?if5 ?if6 ?if7 ?if8 ?z_abs ?z_bool ?z_int ?z_isinstance ?z_iter ?z_len ?z_list ?z_min ?z_range ?z_reversed ?z_set ?z_sorted ?z_tuple
    (case ac0 => k_is)
    (case a9 => k_is)
    (case a10 => k_is)
    (case a11 => k_is)
    (case a12 => k_is)
    (case a13 => k_is)
    (case a14 => k_is)
    (case a15 => k_is)
    (case a16 => k_is)
    (case a17 => k_is)
    (case a18 => k_is)
    (case a19 => k_is)
    (case a20 => k_is)
    (case srd1 => k_is)
    (case sat1 => k_is)
    (case src1 => k_is)
    (case at0 => k_is)
    (case at2 => k_is)
    (case at3 => k_is)
    (case at4 => k_is)
    (case at5 => k_is)
    (case at6 => k_is)
    (case at7 => k_is)
    (case at8 => k_is)
    (case l0 => k_is)
    (case l1 => k_is)
    (case l2 => k_is)
    (case l3 => k_is)
    (case l4 => k_is)
    (case l5 => k_is)
    (case l6 => k_is)
    (case l7 => k_is)
    (case l8 => k_is)
    (case l9 => k_is)
    (case l10 => k_is)
    (case l11 => k_is)
    (case l12 => k_is)
    (case l13 => k_is)
    (case l14 => k_is)
    (case l15 => k_is)
    (case l16 => k_is)
    (case l17 => k_is)
    (case l18 => k_is)
    (case l19 => k_is)
    (case l20 => k_is)
    (case c0 => k_is)
    (case k0 => k_is)
    (case c1 => k_is)
    (case k1 => k_is)
    (case c2 => k_is)
    (case k2 => k_is)
    (case c3 => k_is)
    (case k3 => k_is)
    (case c4 => k_is)
    (case k4 => k_is)
    (case c5 => k_is)
    (case k5 => k_is)
    (case c6 => k_is)
    (case k6 => k_is)
    (case c7 => k_is)
    (case k7 => k_is)
    (case c8 => k_is)
    (case k8 => k_is)
    (case c9 => k_is)
    (case k9 => k_is)
    (case c10 => k_is)
    (case k10 => k_is)
    (case c11 => k_is)
    (case k11 => k_is)
    (case c12 => k_is)
    (case k12 => k_is)
    (case c13 => k_is)
    (case k13 => k_is)
    (case c14 => k_is)
    (case k14 => k_is)
    (case c15 => k_is)
    (case k15 => k_is)
    (case c16 => k_is)
    (case k16 => k_is)
    (case c17 => k_is)
    (case k17 => k_is)
    (case c18 => k_is)
    (case k18 => k_is)
    (case c19 => k_is)
    (case k19 => k_is)
    (case c20 => k_is)
    (case k20 => k_is)
    (case pg0 => k_is)
    (case hd0 => k_is)
    (case po0 => k_is)
    (case sa0 => k_is)
    (case na0_lines => k_is)
    (case ihMarks => k_is)
    (case inMarks => k_is)
    (case itMarks => k_is)
    (case imMarks => k_is)
    (case sfMarks => k_is)
    (case if0 => k_is)
    (case mk0 => k_is)
    (case kc0 => k_is)
    (case sga1 => k_is)
    (case if2 => k_is)
    (case if3 => k_is)
    (case if4 => k_is)
    (case if5 => k_is)
    (case if6 => k_is)
    (case if7 => k_is)
    (case if8 => k_is)
    (case z_abs => k_is)
    (case z_bool => k_is)
    (case z_int => k_is)
    (case z_isinstance => k_is)
    (case z_iter => k_is)
    (case z_len => k_is)
    (case z_list => k_is)
    (case z_min => k_is)
    (case z_range => k_is)
    (case z_reversed => k_is)
    (case z_set => k_is)
    (case z_sorted => k_is)
    (case z_tuple => k_is)
