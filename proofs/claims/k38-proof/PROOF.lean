import PyProof.Rows.All
import Wide.All
import OpenK.AllK
import Wide.FinOn
import HandS.ForMost
import HandS.Defaults
import HandS.Property
import PyProof.InstNe
import HandS.OwnEq
import HandS.SortKw
import HandS.Conv
import HandS.ListItems
import KE.KItemsList
import PyProof.ListStr
import PyProof.SliceStr
import HandS.Style
import HandS.Walk
import HandS.DictComp
import HandS.SetKeys
import KE.GoesSet
import KE.GoesMore
import HandS.Nested
import KE.SortKeyHeap
import KE.KDictSum
import KE.KSuper
import HandS.Codes
import HandS.HeadHook1
import HandS.Evl
import HandS.IsInst
import HandS.Wide
import HandS.WideBits
import HandS.StrMore
import PyProof.StrOps2
import HandS.Star
import HandS.Lambda
import KE.KStateDown
import HandS.Head0
import HandS.Head1
import HandS.Head2
import HandS.HeadEnd
import HandS.HeadHook2
import HandS.HeadHook3
import HandS.HeadHook4
import HandS.HeadWalk
import HandS.EndTab
import KE.KNestM
import PySem.Challenge.RW_hymnplates_k38_whole_uses_of_great_cases
set_option Elab.async false
set_option linter.all false
set_option maxRecDepth 100000
set_option maxHeartbeats 4000000
namespace P38
open PySem PySem.Spec PyProof.Rows L2
section
variable {X : Cx} {CX : CXT} {k : Nat} {f C : Addr} {fd : FuncData} {ps : List Str} {sp : Sp} {dvs : List V} {ds : List Value} {E : XK}
/-- a def runs one level deeper, inside a builtin -/
theorem run_in1 {pins : List (Addr × Obj)} {σ : L2.St} {H : Hp} {s : Shared} {Q : VK} {us : List Value} {vs : List V} (F : FnOk X.prog X.w X.K X.mg X.base CX k f fd ps sp) (hr : Room (k + 1) X.A) (hb : Binds X.K fd ps ds) (hd : Vals dvs ds)
    (hx : Passes CX X.nox E) (E' : Value → Shared → Prop) (I : Inv X pins σ H s) (r : Vals vs us) (h : sp (vs ++ dvs) H Q E) : wpAny (model X.prog X.w) X.A.in1 (call (.ref f) us) (EP X pins σ Q) E' s := by
  have r2 : Vals (vs ++ dvs) (us ++ ds) := r.append hd
  have hl : (us ++ ds).length = ps.length := by
    rw [← r2.length]
    exact F.len _ _ _ _ h
  refine wpAny_call (codeAny_mono (F.run X.A.in1 X.stack s H ⟨us, []⟩ (us ++ ds) (vs ++ dvs) Q E hr.in1 I.env0.in1 (hb s us I.kIn hl) r2 h) fun r s' hq => ?_)
  cases r with
  | error e => exact False.elim (hx pins σ H s e s' (I.wish _) hq)
  | ok fl =>
    cases fl with
    | ret u => exact I.after hq
    | next => exact False.elim hq
    | brk => exact False.elim hq
    | cont => exact False.elim hq
theorem inst_at {pins : List (Addr × Obj)} {σ : L2.St} {H : Hp} {s : Shared} {a dx : Addr} {fs : List (Str × V)} (I : Inv X pins σ H s) (e : H a = some (.ins C dx fs)) : ∃ od, PySem.W.InstAt s.heap a (PySem.W.instObj C dx) C (some od) := by
  obtain ⟨mA, O, _⟩ := ins_get I.hok e
  obtain ⟨od, J, _⟩ := O.look
  exact ⟨od, J⟩
/-- a[i] by the class's own __getitem__ -/
def rIxO (C : Addr) (sp : Sp) (dvs : List V) (E : XK) : R2 := fun x y H Q => ∃ a dx fs, x = .ref a ∧ H a = some (.ins C dx fs) ∧ sp (x :: ([y] ++ dvs)) H Q E
theorem ix_own (F : FnOk X.prog X.w X.K X.mg X.base CX k f fd ps sp) (hr : Room (k + 1) X.A) (hb : Binds X.K fd ps ds) (hd : Vals dvs ds) (hx : Passes CX X.nox E)
    (hs : PySem.W.findIn X.K (.ref C) "__getitem__" = some (some (.ref f))) (hf : PySem.W.fnIn X.K f = true) (hfn : PySem.W.isFn X.K (.ref f) = true)
    {a b : Expr} {ta tb : TE} {pos : Pos} (ha : PE X a ta) (hbb : PE X b tb)
    (hsl : ∀ x i, subscripted b true (.ref x) i = runValue (.builtin "lifetime.subscript" ⟨[.ref x, i], []⟩) := by intro _ _; with_unfolding_all rfl) :
    PE X (.Subscript a b pos) (tOp (rIxO C sp dvs E) ta tb) := by
  refine ⟨fun pins s σ H Q I h => ?_⟩
  refine Subscript_ (binT ha hbb I h fun v u s2 x y H2 I2 rx ry q => ?_)
  obtain ⟨p, dx, fs, rfl, e, q⟩ := q
  cases rx
  obtain ⟨m, Fr⟩ := I2.fr
  obtain ⟨od, J⟩ := inst_at I2 e
  refine PySem.W.sub_K Fr I2.ok.mod.kin J hs hf hfn ?_ (hsl _ _)
  exact run_in1 (us := [.ref p, u]) (vs := [.ref p, y]) F hr hb hd hx X.xe I2 (.cons rfl (.cons ry .nil)) q
/-- len(a) by the class's own __len__ -/
theorem call_lenO (F : FnOk X.prog X.w X.K X.mg X.base CX k f fd ps sp) (hr : Room (k + 1) X.A) (hb : Binds X.K fd ps ds) (hd : Vals dvs ds) (hx : Passes CX X.nox E)
    (hs : PySem.W.findIn X.K (.ref C) "__len__" = some (some (.ref f))) (hf : PySem.W.isFn X.K (.ref f) = true) :
    CallR X (.builtin "len") (fun xs H Q => ∃ a dx fs, xs = [.ref a] ∧ H a = some (.ins C dx fs) ∧ sp (.ref a :: dvs) H (fun v H' => ∃ n : Int, v = .int n ∧ (0 ≤ n ∧ n < 2 ^ 63) ∧ Q v H') E) := by
  intro pins s σ H xs us Q I r h
  obtain ⟨a, dx, fs, rfl, e, q⟩ := h
  obtain rfl := Vals.ref1 r
  obtain ⟨m, Fr⟩ := I.fr
  obtain ⟨od, J⟩ := inst_at I e
  refine PySem.W.len_K Fr I.ok.mod.kin J hs hf (wpAny_mono (run_in1 (us := [.ref a]) (vs := [.ref a]) F hr hb hd hx X.xe I (.cons rfl .nil) q) (fun v s' hv => ?_) fun _ _ z => z)
  obtain ⟨x, H', I', rx, n, rfl, hn, q'⟩ := hv
  obtain ⟨t, rfl⟩ := rx
  exact ⟨hn, .int n, H', I'.tok _, ⟨_, rfl⟩, q'⟩
end
end P38

set_option Elab.async false
set_option linter.all false
set_option maxRecDepth 100000
set_option maxHeartbeats 4000000
namespace P38
open PySem PySem.Spec PyProof.Rows L2
section
variable {prog : Program} {w : World} {A : Around} {E : Value → Shared → Prop} {s : Shared} {K : PySem.W.Frag} {x y C f : Addr} {ox oy : Obj} {od oe : Option Obj}
/-- a != b, both of one class with its own __eq__ and object's __ne__ -/
theorem ne_own {Q : Value → Shared → Prop} (hu : A.units + 1 < cLine) (X : K.In s.heap) (I : PySem.W.InstAt s.heap x ox C od) (J : PySem.W.InstAt s.heap y oy C oe)
    (hn : PySem.W.findIn K (.ref C) "__ne__" = some (some (.builtin "object.__ne__"))) (he : PySem.W.findIn K (.ref C) "__eq__" = some (some (.ref f))) (hf : PySem.W.isFn K (.ref f) = true)
    (ho : PySem.W.mroIn K C (.type "object") = some true)
    (h : wpAny (model prog w) A.in1 (call (.ref f) [.ref x, .ref y]) (fun v s' => ∃ b, v = .bool b ∧ Q (.bool (!b)) s') E s) :
    wpAny (model prog w) A (compareOp .NotEq (.ref x) (.ref y)) Q E s := by
  have FB := PySem.F.cmp_object
  have sub : PySem.W.Looks (model prog w) s.heap (isInstance (.ref x) (.type "object")) true := I.type.andThen (PySem.W.looks_mroIn X ho)
  have body : wpAny (model prog w) A (call (.builtin "object.__ne__") ([.ref x] ++ [.ref y])) (fun v s' => ∃ b, v = .bool b ∧ Q (.bool b) s') E s := by
    refine wpAny_call (codeAny_call_builtin FB.ne.plain PySem.F.cmpEntry_ne (@PySem.W.check_slot (model prog w) _ _ s "object.__ne__" "object" "__ne__" (.ref x) [.ref y] [] _ PySem.F.cmpKind_ne PySem.F.cmpSplit_ne sub (PySem.F.cmpArgs_ne _ _) ?_))
    unfold Builtin.«object.__ne__»
    refine wpAny_bind (wpAny_pure ?_)
    refine wpAny_bind (wpAny_cRoomFor (by show A.units + 1 < cLine; exact hu) ?_)
    refine wpAny_bind (PySem.W.ifBound_K X I he hf (wpAny_mono h (fun v s' hv => ?_) fun _ _ z => z))
    obtain ⟨b, rfl, q⟩ := hv
    refine wpAny_bind (wpAny_truthy_bool ?_)
    exact wpAny_pure ⟨_, rfl, q⟩
  have one : wpAny (model prog w) A (tryCompare (.ref x) "__ne__" (.ref y)) (fun r s' => ∃ b, r = some (.bool b) ∧ Q (.bool b) s') E s := by
    unfold tryCompare
    refine wpAny_bind ?_
    simp only [callSpecialIfBound?, bindSpecialIfBound?]
    refine wpAny_holding (wpAny_bind (wpAny_bind (wpAny_bind (I.type.here ((PySem.W.looks_findIn X hn).here ?_)))))
    refine wpAny_bind (wpAny_askSetting (wpAny_ite ?_))
    have fin : wpAny (model prog w) A (call (.builtin "object.__ne__") ([.ref x] ++ [.ref y]) >>= fun v => pure (some v)) (fun r s' => wpAny (model prog w) A (match r with
        | some .notImplemented | none => pure none
        | some v => pure (some v)) (fun r s' => ∃ b, r = some (.bool b) ∧ Q (.bool b) s') E s') E s := by
      refine wpAny_bind (wpAny_mono body (fun v s' hv => ?_) fun _ _ z => z)
      obtain ⟨b, rfl, q⟩ := hv
      exact wpAny_pure (wpAny_pure ⟨_, rfl, q⟩)
    split
    · refine wpAny_bind ?_
      rw [FB.ne.bind]
      exact wpAny_pure (wpAny_pure (by exact fin))
    · refine wpAny_tryCatch (wpAny_bind ?_)
      rw [FB.ne.bind]
      exact wpAny_pure (wpAny_pure (by exact fin))
  refine PySem.W.cmp_ofNotEq ?_
  unfold richCompare
  simp only [oneThing_ref]
  refine wpAny_holding (wpAny_bind (wpAny_cRoomFor (Nat.lt_of_succ_lt hu) ?_))
  refine wpAny_bind (I.type.here (wpAny_bind (J.type.here ?_)))
  rw [show (Value.ref C != Value.ref C) = false from by simp]
  simp only [Bool.false_eq_true, if_false]
  refine wpAny_bind (wpAny_pure ?_)
  simp only [Bool.false_eq_true, if_false]
  refine wpAny_bind (wpAny_mono one (fun r s' z => ?_) fun _ _ e => e)
  obtain ⟨b, rfl, q⟩ := z
  exact wpAny_pure q
end
section
variable {X : Cx} {CX : CXT} {k : Nat} {f C : Addr} {fd : FuncData} {ps : List Str} {sp : Sp} {E : XK}
def rNeO (C : Addr) (sp : Sp) (E : XK) : R2 := fun x y H Q => ∃ a b dx dy fs gs, x = .ref a ∧ y = .ref b ∧ H a = some (.ins C dx fs) ∧ H b = some (.ins C dy gs) ∧ sp [.ref a, .ref b] H (fun v H' => ∃ k, v = .bl k ∧ Q (.bl (!k)) H') E
theorem op_neO (F : FnOk X.prog X.w X.K X.mg X.base CX k f fd ps sp) (hr : Room (k + 1) X.A) (hb : Binds X.K fd ps []) (hx : Passes CX X.nox E)
    (hn : PySem.W.findIn X.K (.ref C) "__ne__" = some (some (.builtin "object.__ne__"))) (he : PySem.W.findIn X.K (.ref C) "__eq__" = some (some (.ref f))) (hf : PySem.W.isFn X.K (.ref f) = true)
    (ho : PySem.W.mroIn X.K C (.type "object") = some true) : OpR X (compareOp .NotEq) (rNeO C sp E) := by
  intro pins s σ H x y v u Q I rx ry h
  obtain ⟨a, b, dx, dy, fs, gs, rfl, rfl, e1, e2, q⟩ := h
  cases rx
  cases ry
  obtain ⟨od, J1⟩ := inst_at I e1
  obtain ⟨oe, J2⟩ := inst_at I e2
  refine ne_own (hu_of hr) I.kIn J1 J2 hn he hf ho (wpAny_mono (run_in1 (us := [.ref a, .ref b]) (vs := [.ref a, .ref b]) (dvs := []) (ds := []) F hr hb .nil hx X.xe I (.cons rfl (.cons rfl .nil)) q) (fun v s' hv => ?_) fun _ _ z => z)
  obtain ⟨z, H', I', rz, k, rfl, q'⟩ := hv
  cases rz
  exact ⟨_, rfl, .bl (!k), H', I', rfl, q'⟩
end
end P38

set_option Elab.async false
set_option linter.all false
set_option maxRecDepth 100000
set_option maxHeartbeats 4000000
namespace P38
open PySem PySem.Spec PyProof.Rows L2
/-! ### min(xs, default=None) -/
abbrev kwD : List (Str × Value) := [(Str.ofString "default", Value.none)]
section
variable {prog : Program} {w : World} {A : Around} {R : Result → Shared → Prop} {I S : Addr} {fp wr : List Addr} {n : Nat} {P : Nat → Value → Prop} {St : Nat → Heap → Prop} {bt : Nat → Nat → Bool}
theorem loopName : (toString "min" ++ toString ".loop" : String) = "min.loop" := by decide
/-- the walk is over: what is best is handed out, or None -/
theorem mind_stop (W : Walks prog w A.in1 I fp wr n P St) (hSf : S ∉ fp) {s : Shared} {vb : Value} {c : Nat} (hst : St n s.heap)
    (hS : s.heap.get? S = some { cls := .type "list", dict := none, data := .seq #[vb, vb] c, slots := #[] })
    (hR : ∀ h' tk, (∀ b o, b ∉ wr → b ≠ S → s.heap.get? b = some o → h'.get? b = some o) → R (.ok (.ret vb)) { s with heap := h', toks := tk }) :
    codeAny (model prog w) A (.builtin "min.loop" ⟨[.ref I, .none, .ref S], kwD⟩) R s := by
  have off : S ∉ wr := fun z => hSf (W.sub _ z)
  refine codeAny_builtin F.entry_min_loop ?_
  rw [Around.under_plainId F.plain_min_loop _]
  refine wpAny_bind (m := seqItems? (.ref S)) (wpAny_seqItems hS rfl ?_)
  refine wpAny_bind (m := tryCatch (pyNext (.ref I)) _) (wpAny_tryCatch (W.done s _ _ hst fun h' tk kp => ?_))
  have at' := kp S _ off hS
  refine wpAny_bind (m := updateSeq S (fun _ => #[])) (wpAny_updateSeq at' rfl (wpAny_bind (wpAny_letGo (wpAny_pure ?_))))
  exact hR _ tk fun b o hb hbS e => (Heap.get?_update_other _ _ (Ne.symm hbS)).trans (kp b o hb e)
theorem mind_none (W : Walks prog w A.in1 I fp wr 0 P St) (hSf : S ∉ fp) {s : Shared} {c : Nat} (hst : St 0 s.heap)
    (hS : s.heap.get? S = some { cls := .type "list", dict := none, data := .seq #[] c, slots := #[] })
    (hR : ∀ h' tk, (∀ b o, b ∉ wr → b ≠ S → s.heap.get? b = some o → h'.get? b = some o) → R (.ok (.ret .none)) { s with heap := h', toks := tk }) :
    codeAny (model prog w) A (.builtin "min.loop" ⟨[.ref I, .none, .ref S], kwD⟩) R s := by
  refine codeAny_builtin F.entry_min_loop ?_
  rw [Around.under_plainId F.plain_min_loop _]
  refine wpAny_bind (m := seqItems? (.ref S)) (wpAny_seqItems hS rfl ?_)
  refine wpAny_bind (m := tryCatch (pyNext (.ref I)) _) (wpAny_tryCatch (W.done s _ _ hst fun h' tk kp => ?_))
  refine wpAny_bind (m := rule _) (wpAny_rule (wpAny_pure ?_))
  exact hR h' tk fun b o hb _ e => kp b o hb e
theorem mind_turns (W : Walks prog w A.in1 I fp wr n P St) (hcmp : CmpOf prog w A.in1 .Lt P bt) (hSf : S ∉ fp) :
    ∀ (k j : Nat) (s : Shared) (vb : Value) (c : Nat), n = j + 1 + k → St (j + 1) s.heap → P (argBest bt j) vb → s.heap.get? S = some { cls := .type "list", dict := none, data := .seq #[vb, vb] c, slots := #[] } →
      (∀ v h' tk, P (argBest bt (n - 1)) v → (∀ b o, b ∉ wr → b ≠ S → s.heap.get? b = some o → h'.get? b = some o) → R (.ok (.ret v)) { s with heap := h', toks := tk }) →
      codeAny (model prog w) A (.builtin "min.loop" ⟨[.ref I, .none, .ref S], kwD⟩) R s := by
  have off : S ∉ wr := fun z => hSf (W.sub _ z)
  intro k
  induction k with
  | zero =>
    intro j s vb c hn hst hP hS hR
    have e : n = j + 1 := hn
    subst e
    exact mind_stop W hSf hst hS fun h' tk kp => hR vb h' tk hP kp
  | succ k ih =>
    intro j s vb c hn hst hP hS hR
    have lt : j + 1 < n := by omega
    refine codeAny_builtin F.entry_min_loop ?_
    rw [Around.under_plainId F.plain_min_loop _]
    refine wpAny_bind (m := seqItems? (.ref S)) (wpAny_seqItems hS rfl ?_)
    refine wpAny_bind (m := tryCatch (pyNext (.ref I)) _) (wpAny_tryCatch (W.item (j + 1) s _ _ lt hst fun v h' tk hv hst' kp => ?_))
    have at' := kp S _ off hS
    refine wpAny_bind (m := tryCatch (holding [v, v] (richCompare .Lt v vb >>= _)) _) (wpAny_tryCatch (wpAny_holding (wpAny_bind (hcmp (j + 1) (argBest bt j) v vb _ _ _ hv hP ?_))))
    refine wpAny_bind (wpAny_holding (wpAny_truthy_bool ?_))
    refine wpAny_bind (wpAny_letGo (wpAny_pure ?_))
    cases hb : bt (j + 1) (argBest bt j) with
    | true =>
      simp only [if_true]
      refine wpAny_bind (wpAny_updateSeq at' rfl (wpAny_bind (wpAny_letGo ?_)))
      rw [loopName]
      refine wpAny_pure ⟨plainId_quiet F.plain_min_loop _, ih (j + 1) _ v _ (by omega) (W.frame _ _ _ hst' fun b hbf o e => (Heap.get?_update_other _ _ (fun z : S = b => hSf (by rw [z]; exact hbf))).trans e) (by simp only [argBest, hb, if_true]; exact hv)
        (Heap.get?_update_self _ at' rfl) fun v' h2 tk2 hP2 kp2 => ?_⟩
      exact hR v' h2 tk2 hP2 fun b o hbw hbS e => kp2 b o hbw hbS ((Heap.get?_update_other _ _ (Ne.symm hbS)).trans (kp b o hbw e))
    | false =>
      simp only [Bool.false_eq_true, if_false]
      refine wpAny_bind (wpAny_letGo ?_)
      rw [loopName]
      refine wpAny_pure ⟨plainId_quiet F.plain_min_loop _, ih (j + 1) _ vb c (by omega) hst' (by simp only [argBest, hb, Bool.false_eq_true, if_false]; exact hP) at' fun v' h2 tk2 hP2 kp2 => ?_⟩
      exact hR v' h2 tk2 hP2 fun b o hbw hbS e => kp2 b o hbw hbS (kp b o hbw e)
theorem mind_first (W : Walks prog w A.in1 I fp wr n P St) (hcmp : CmpOf prog w A.in1 .Lt P bt) (hSf : S ∉ fp) {s : Shared} {c : Nat} (hst : St 0 s.heap) (hn : 0 < n)
    (hS : s.heap.get? S = some { cls := .type "list", dict := none, data := .seq #[] c, slots := #[] })
    (hR : ∀ v h' tk, P (argBest bt (n - 1)) v → (∀ b o, b ∉ wr → b ≠ S → s.heap.get? b = some o → h'.get? b = some o) → R (.ok (.ret v)) { s with heap := h', toks := tk }) :
    codeAny (model prog w) A (.builtin "min.loop" ⟨[.ref I, .none, .ref S], kwD⟩) R s := by
  have off : S ∉ wr := fun z => hSf (W.sub _ z)
  refine codeAny_builtin F.entry_min_loop ?_
  rw [Around.under_plainId F.plain_min_loop _]
  refine wpAny_bind (m := seqItems? (.ref S)) (wpAny_seqItems hS rfl ?_)
  refine wpAny_bind (m := tryCatch (pyNext (.ref I)) _) (wpAny_tryCatch (W.item 0 s _ _ hn hst fun v h' tk hv hst' kp => ?_))
  have at' := kp S _ off hS
  refine wpAny_bind (m := updateSeq S (fun _ => #[v, v])) (wpAny_updateSeq at' rfl ?_)
  rw [loopName]
  refine wpAny_pure ⟨plainId_quiet F.plain_min_loop _, mind_turns W hcmp hSf (n - 1) 0 _ v _ (by omega) (W.frame _ _ _ hst' fun b hbf o e => (Heap.get?_update_other _ _ (fun z : S = b => hSf (by rw [z]; exact hbf))).trans e) hv
    (Heap.get?_update_self _ at' rfl) fun v' h2 tk2 hP2 kp2 => ?_⟩
  exact hR v' h2 tk2 hP2 fun b o hbw hbS e => kp2 b o hbw hbS ((Heap.get?_update_other _ _ (Ne.symm hbS)).trans (kp b o hbw e))
end
section
variable {prog : Program} {w : World} {A : Around} {E : Value → Shared → Prop} {s : Shared}
/-- a builtin function called with keywords, whatever its body ends in -/
theorem fn_tree_kw {id : String} {b : Builtin} {args : List Value} {kw : List (Str × Value)} {Q : Value → Shared → Prop} (hk : builtinKind id = none) (hp : plainId id = true) (hb : entryFor table id = some b) (ha : argsOk id ⟨args, kw⟩)
    (hc : wpAny (model prog w) A.in1 (b ⟨args, kw⟩) (GQ.FinOf prog w A (wants Q E)) E s) : wpAny (model prog w) A (call (.builtin id) args kw) Q E s := by
  refine wpAny_call (codeAny_call_builtin hp hb ?_)
  simp only [checkBuiltinCall, hk]
  cases hsig : Manifest.signature? id with
  | none => exact wpAny_pure hc
  | some sig =>
    have e : Bind.checkArgs id sig ⟨args, kw⟩ = pure () := by simpa only [argsOk, hsig] using ha
    show wpAny _ _ (Bind.checkArgs id sig ⟨args, kw⟩) _ _ _
    rw [e]
    exact wpAny_pure hc
theorem mind_call {l : Addr} {xs : Array (Int × Tok)} {Q : Value → Shared → Prop} (hh : A.handled = none) (hl : s.heap.IsList l (intItems xs)) (ha : argsOk "min" ⟨[.ref l], kwD⟩)
    (h0 : xs.size = 0 → ∀ h' tk, (∀ b o, s.heap.get? b = some o → h'.get? b = some o) → Q .none { s with heap := h', toks := tk })
    (h : 0 < xs.size → ∀ v h' tk, (intItems xs)[argBest (fun i j => decide (numAt xs i < numAt xs j)) (xs.size - 1)]? = some v → (∀ b o, s.heap.get? b = some o → h'.get? b = some o) → Q v { s with heap := h', toks := tk }) :
    wpAny (model prog w) A (call (.builtin "min") [.ref l] kwD) Q E s := by
  refine fn_tree_kw F.kind_min F.plain_min F.entry_min ha ?_
  refine wpAny_bind (m := Builtin.Builtins.bindParams "min" ["key", "default"] 0 ⟨[], kwD⟩) (wpAny_of_eq (show Builtin.Builtins.bindParams "min" ["key", "default"] 0 ⟨[], kwD⟩ = pure [none, some .none] from by kernel_rfl) ?_)
  refine wpAny_bind (wpAny_pure ?_)
  refine wpAny_bind (m := pyIter (.ref l)) (iter_intList hl fun s2 e st hfp hlI => ?_)
  subst e
  refine wpAny_bind (wpAny_newObj_type ?_)
  rw [loopName]
  have hSf : (s.heap.push { cls := .type "list_iterator", data := .fields #[.ref l, .int 0 0] }).objs.size ∉ [s.heap.objs.size, l] := fun hm => Nat.lt_irrefl _ (hfp _ hm)
  have W := Walks.list (prog := prog) (w := w) (A := A.in1) hh s.heap.objs.size l hlI (intItems xs)
  have st' : ((s.heap.push { cls := .type "list_iterator", data := .fields #[.ref l, .int 0 0] }).push { cls := .type "list", data := .seq #[] }).IsListIter s.heap.objs.size l 0 ∧ ((s.heap.push { cls := .type "list_iterator", data := .fields #[.ref l, .int 0 0] }).push { cls := .type "list", data := .seq #[] }).IsList l (intItems xs) :=
    W.frame 0 _ _ st fun b _ o e => Heap.get?_push_of_some _ e
  have old : ∀ {h' : Heap}, (∀ b o, b ∉ [s.heap.objs.size] → b ≠ (s.heap.push { cls := .type "list_iterator", data := .fields #[.ref l, .int 0 0] }).objs.size →
      ((s.heap.push { cls := .type "list_iterator", data := .fields #[.ref l, .int 0 0] }).push { cls := .type "list", data := .seq #[] }).get? b = some o → h'.get? b = some o) → ∀ b o, s.heap.get? b = some o → h'.get? b = some o := fun {h'} kp b o e => by
    have lt := Heap.lt_size e
    refine kp b o (fun hm => ?_) (fun z => ?_) (Heap.get?_push_of_some _ (Heap.get?_push_of_some _ e))
    · have z : b = s.heap.objs.size := by simpa using hm
      exact Nat.ne_of_lt lt z
    · rw [Heap.size_push] at z
      exact Nat.ne_of_lt (Nat.lt_succ_of_lt lt) z
  have esz : (intItems xs).size = xs.size := by simp [intItems]
  by_cases hz : xs.size = 0
  · rw [hz] at esz
    rw [esz] at W
    exact wpAny_pure ⟨plainId_quiet F.plain_min_loop _, mind_none (s := { s with heap := ((s.heap.push { cls := .type "list_iterator", data := .fields #[.ref l, .int 0 0] }).push { cls := .type "list", data := .seq #[] }) }) W hSf st' (Heap.get?_push_size _ rfl) fun h' tk kp => h0 hz h' tk (old kp)⟩
  · have pos : 0 < (intItems xs).size := by omega
    refine wpAny_pure ⟨plainId_quiet F.plain_min_loop _, mind_first (s := { s with heap := ((s.heap.push { cls := .type "list_iterator", data := .fields #[.ref l, .int 0 0] }).push { cls := .type "list", data := .seq #[] }) }) W (CmpOf.ints_lt (numAt xs) (fun _ _ => intItems_at)) hSf st' pos (Heap.get?_push_size _ rfl) fun v h' tk hP kp => ?_⟩
    exact h (by omega) v h' tk (by rw [← esz]; exact hP) (old kp)
end
end P38

set_option Elab.async false
set_option linter.all false
set_option maxRecDepth 100000
set_option maxHeartbeats 4000000
namespace P38
open PySem PySem.Spec PyProof.Rows L2
theorem args_minD (a v : Value) : argsOk "min" ⟨[a], [(Str.ofString "default", v)]⟩ := by unfold argsOk; kernel_rfl
theorem args_min3 (a b c : Value) : argsOk "min" ⟨[a, b, c], []⟩ := by unfold argsOk; kernel_rfl
/-- the best of a list of ints, by its value -/
theorem best_of {xs : Array (Int × Tok)} (pos : 0 < xs.size) {v : Value} (e : (intItems xs)[argBest (fun i j => decide (numAt xs i < numAt xs j)) (xs.size - 1)]? = some v) :
    ∃ m t, v = .int m t ∧ m ∈ xs.toList.map (·.1) ∧ ∀ y ∈ xs.toList.map (·.1), m ≤ y := by
  obtain ⟨t, rfl⟩ := intItems_at e
  obtain ⟨h1, h2⟩ := argBest_lt (numAt xs) (xs.size - 1)
  refine ⟨_, t, rfl, ?_, fun y hy => ?_⟩
  · rw [numAt_eq]
    exact PySem.getD_mem (by rw [List.length_map, Array.length_toList]; omega)
  · obtain ⟨j, hj, rfl⟩ := mem_getD hy
    rw [List.length_map, Array.length_toList] at hj
    rw [← numAt_eq]
    exact h2 j (by omega)
section
variable {prog : Program} {w : World} {A : Around} {E : Value → Shared → Prop} {s : Shared}
theorem min3_call {a b c : Int} {t u v : Tok} {Q : Value → Shared → Prop} (hh : A.handled = none)
    (h : ∀ h' tk m tm, (∀ c o, s.heap.get? c = some o → h'.get? c = some o) → m ∈ [a, b, c] → (∀ y ∈ [a, b, c], m ≤ y) → Q (.int m tm) { s with heap := h', toks := tk }) :
    wpAny (model prog w) A (call (.builtin "min") [.int a t, .int b u, .int c v]) Q E s := by
  have hT : (s.heap.push { cls := .type "tuple", data := .seq #[.int a t, .int b u, .int c v] }).IsTuple s.heap.objs.size (intItems #[(a, t), (b, u), (c, v)]) := ⟨_, Heap.get?_push_size _ rfl, rfl, 0, by simp [intItems]⟩
  have hsz : (s.heap.push { cls := .type "tuple", data := .seq #[.int a t, .int b u, .int c v] }).objs.size = s.heap.objs.size + 1 := Heap.size_push ..
  refine call_function_tree F.kind_min F.plain_min F.entry_min (args_min3 _ _ _) ?_
  refine wpAny_bind (m := Builtin.Builtins.bindParams "min" ["key", "default"] 0 ⟨[], []⟩) (wpAny_of_eq (show Builtin.Builtins.bindParams "min" ["key", "default"] 0 ⟨[], []⟩ = pure [none, none] from rfl) ?_)
  refine wpAny_bind (m := newTuple [.int a t, .int b u, .int c v]) (wpAny_newObj_type ?_)
  refine wpAny_bind (wpAny_pyIter_tuple hT ?_)
  refine wpAny_bind (wpAny_newObj_type ?_)
  rw [loopName]
  have W := Walks.tuple (prog := prog) (w := w) (A := A.in1) hh (s.heap.push { cls := .type "tuple", data := .seq #[.int a t, .int b u, .int c v] }).objs.size s.heap.objs.size (by rw [hsz]; exact Nat.ne_of_lt (Nat.lt_succ_self _)) (intItems #[(a, t), (b, u), (c, v)])
  have sub : ∀ z ∈ [(s.heap.push { cls := .type "tuple", data := .seq #[.int a t, .int b u, .int c v] }).objs.size, s.heap.objs.size], z ≤ s.heap.objs.size + 1 := fun z hz => by
    rcases List.mem_cons.mp hz with e | hz
    · rw [e, hsz]
      exact Nat.le_refl _
    · have e : z = s.heap.objs.size := by simpa using hz
      rw [e]
      exact Nat.le_succ _
  refine wpAny_pure ⟨plainId_quiet F.plain_min_loop _, codeAny_min_loop_first W (fun i j => decide (numAt #[(a, t), (b, u), (c, v)] i < numAt #[(a, t), (b, u), (c, v)] j)) (CmpOf.ints_lt (numAt #[(a, t), (b, u), (c, v)]) (fun _ _ => intItems_at)) _ ?_ (by simp [intItems])
    ⟨⟨_, Heap.get?_push_of_some _ (Heap.get?_push_size _ rfl), rfl, rfl⟩, (hT.push _).push _⟩ (Heap.get?_push_size _ rfl) fun x h' tk hP kp => ?_⟩
  · intro hm
    have q := sub _ hm
    rw [Heap.size_push, hsz] at q
    exact Nat.lt_irrefl _ q
  · obtain ⟨m, tm, rfl, hm, hle⟩ := best_of (xs := #[(a, t), (b, u), (c, v)]) (by simp) (by simpa [intItems] using hP)
    refine h h' tk m tm (fun ad o e => ?_) (by simpa using hm) (by simpa using hle)
    have lt := Heap.lt_size e
    refine kp ad o (fun hm => ?_) (fun z => ?_) (Heap.get?_push_of_some _ (Heap.get?_push_of_some _ (Heap.get?_push_of_some _ e)))
    · have z : ad = (s.heap.push { cls := .type "tuple", data := .seq #[.int a t, .int b u, .int c v] }).objs.size := by simpa using hm
      rw [hsz] at z
      exact Nat.ne_of_lt (Nat.lt_succ_of_lt lt) z
    · rw [Heap.size_push, hsz] at z
      exact Nat.ne_of_lt (Nat.lt_succ_of_lt (Nat.lt_succ_of_lt lt)) z
end
section
variable {X : Cx}
/-- min(xs, default=None) of a list of ints -/
def rMinD (K : PySem.W.Frag) : List V → List V → Hp → VK → Prop := fun vs zs H Q => ∃ (a : Addr) (ns : List Int), vs = [V.ref a] ∧ zs = [.non] ∧ SqL K H a (ns.map V.int) ∧ (ns = [] → Q .non H) ∧ ∀ m, m ∈ ns → (∀ y ∈ ns, m ≤ y) → Q (.int m) H
theorem cr_minD (hc : X.calm = true) : CallRK X (.builtin "min") [Str.ofString "default"] (rMinD X.K) := by
  intro pins s σ H vs zs us ws Q I r rz h
  obtain ⟨a, ns, rfl, rfl, hs, h0, h1⟩ := h
  obtain rfl := Vals.ref1 r
  obtain ⟨w1, rfl, e1⟩ := vals1 rz
  obtain rfl : w1 = Value.none := e1
  obtain ⟨its, rv, hl, _⟩ := I.list hs
  have hi := rv.ints
  obtain ⟨xs, e⟩ := hi.allInts.items
  have en : xs.toList.map (·.1) = ns := by
    rw [← nums_intItems, ← e]
    exact hi.numsOf
  have hl2 := hl.isList
  rw [e] at hl2
  refine mind_call (xs := xs) (I.ok.hd hc) hl2 (args_minD _ _) (fun hz h' tk kp => ?_) fun pos v h' tk hP kp => ?_
  · refine ⟨.non, H, I.kept kp, rfl, h0 ?_⟩
    rw [← en]
    have z : xs.toList = [] := by
      apply List.eq_nil_of_length_eq_zero
      rw [Array.length_toList]
      exact hz
    rw [z]
    rfl
  · obtain ⟨m, tm, rfl, hm, hle⟩ := best_of pos hP
    rw [en] at hm hle
    exact ⟨.int m, H, I.kept kp, ⟨_, rfl⟩, h1 m hm hle⟩
/-- min(a, b, c) -/
def rMin3 : List V → Hp → VK → Prop := fun vs H Q => ∃ i j k : Int, vs = [V.int i, V.int j, V.int k] ∧ ∀ m, m ∈ [i, j, k] → (∀ y ∈ [i, j, k], m ≤ y) → Q (.int m) H
theorem call_min3 (hc : X.calm = true) : CallR X (.builtin "min") rMin3 := by
  intro pins s σ H vs us Q I r h
  obtain ⟨i, j, k, rfl, h1⟩ := h
  cases r with
  | cons r1 r =>
    obtain ⟨u2, u3, rfl, r2, r3⟩ := vals2 r
    obtain ⟨t1, rfl⟩ := r1
    obtain ⟨t2, rfl⟩ := r2
    obtain ⟨t3, rfl⟩ := r3
    exact min3_call (I.ok.hd hc) fun h' tk m tm kp hm hle => ⟨.int m, H, I.kept kp, ⟨_, rfl⟩, h1 m hm hle⟩
end
end P38

set_option Elab.async false
set_option linter.all false
set_option maxRecDepth 100000
set_option maxHeartbeats 4000000
namespace P38
open PySem PySem.Spec PyProof.Rows L2
section
variable {X : Cx}
/-- xs[i] read ahead of xs[i] op= e -/
def rGetL : V → V → Hp → VK → Prop := fun o i H Q => ∃ (p : Addr) (xs : List V) (k : Int) (x : V), o = .ref p ∧ i = .int k ∧ H p = some (.lst xs) ∧ (0 ≤ k ∧ k < 2 ^ 63) ∧ xs[k.toNat]? = some x ∧ Q x H
theorem get_list : PGet X rGetL := by
  intro pins s σ H o i ov iv Q I ro ri h
  obtain ⟨p, xs, k, x, rfl, rfl, hp, hk, hx, q⟩ := h
  cases ro
  obtain ⟨t, rfl⟩ := ri
  obtain ⟨its, rv, pl, hz⟩ := I.list (SqL.of hp)
  obtain ⟨v, ev, rx⟩ := rv.get hx
  refine wpAny_getItem_list pl.isList hk.1 hk.2 (x := v) ?_ ⟨x, H, I, rx, q⟩
  rw [List.getElem?_toArray]
  exact ev
end
section
variable {prog : Program} {w : World} {A : Around} {E : Value → Shared → Prop}
theorem draw_walk {It : Addr} {fp wr : List Addr} {n : Nat} {P : Nat → Value → Prop} {St : Nat → Heap → Prop} (W : Walks prog w A It fp wr n P St) :
    ∀ (k i : Nat) (s : Shared) (Q : List Value → Shared → Prop), St i s.heap → i + k ≤ n →
      (∀ vs h' tk, vs.length = k → (∀ j v, vs[j]? = some v → P (i + j) v) → St (i + k) h' → (∀ b o, b ∉ wr → s.heap.get? b = some o → h'.get? b = some o) → Q vs { s with heap := h', toks := tk }) →
      wpAny (model prog w) A (draw (.ref It) k) Q E s
  | 0, i, s, Q, st, _, hQ => by
    show wpAny _ _ (pure []) Q E s
    exact wpAny_pure (hQ [] s.heap s.toks rfl (fun j v e => by simp at e) st fun _ _ _ e => e)
  | k + 1, i, s, Q, st, hle, hQ => by
    show wpAny _ _ (pyNext (.ref It) >>= _) Q E s
    refine wpAny_bind (W.item i s _ _ (by omega) st fun v h1 tk1 pv st1 kp1 => ?_)
    refine wpAny_bind (wpAny_holding (draw_walk W k (i + 1) _ _ st1 (by omega) fun vs h2 tk2 hl hv st2 kp2 => wpAny_pure ?_))
    refine hQ (v :: vs) h2 tk2 (by simp [hl]) (fun j u e => ?_) (by rw [show i + (k + 1) = i + 1 + k by omega]; exact st2) fun b o hb e => kp2 b o hb (kp1 b o hb e)
    cases j with
    | zero =>
      have e' : v = u := by simpa using e
      exact e' ▸ pv
    | succ j =>
      have := hv j u (by simpa using e)
      rw [show i + (j + 1) = i + 1 + j by omega]
      exact this
theorem unpack_str {x : Str} {t : Tok} {s : Shared} {Q : List Value → Shared → Prop} (hh : A.handled = none)
    (hQ : ∀ vs h' tk, vs.length = x.cps.size → (∀ j v, vs[j]? = some v → SignAt x j v) → (∀ b o, s.heap.get? b = some o → h'.get? b = some o) → Q vs { s with heap := h', toks := tk }) :
    wpAny (model prog w) A (unpackItems (.str x t) x.cps.size none) Q E s := by
  unfold unpackItems
  refine wpAny_bind ?_
  unfold notIterableAtAll
  refine wpAny_bind (wpAny_specialOf (T := "str") (v := .str x t) rfl F.slot_str_iter.lookup ?_)
  refine wpAny_pure ?_
  simp only [Bool.false_eq_true, if_false]
  refine wpAny_bind (wpAny_holding (wpAny_pyIter_str fun o St W hst => ?_))
  have lt : ∀ {b : Addr} {ob : Obj}, s.heap.get? b = some ob → b ∉ [s.heap.objs.size] := fun e hm => by
    have := Heap.lt_size e
    rw [List.mem_singleton.mp hm] at this
    exact Nat.lt_irrefl _ this
  refine wpAny_bind (wpAny_holding (draw_walk (W A hh) x.cps.size 0 _ _ hst (by omega) fun vs h1 tk1 hl hv st1 kp1 => ?_))
  rw [if_neg (by omega)]
  refine wpAny_bind (wpAny_holding ((W A hh).done _ _ _ (by rw [Nat.zero_add] at st1; exact st1) fun h2 tk2 kp2 => ?_))
  simp only [Option.isSome_none, Bool.false_eq_true, if_false]
  refine wpAny_pure (hQ vs h2 tk2 hl (fun j v e => by have := hv j v e; rwa [Nat.zero_add] at this) fun b ob e => kp2 b ob (lt e) (kp1 b ob (lt e) (Heap.get?_push_of_some _ e)))
end
section
variable {X : Cx} {pos : Pos}
/-- a, b = a text of two signs -/
def gUn2S (t : TGs) : TG := fun v σ H Q => ∃ (c d : Nat), v = .str ⟨#[c, d]⟩ ∧ t [.str ⟨#[c]⟩, .str ⟨#[d]⟩] σ H Q
theorem pg_un2S {es : List Expr} {k : Nat} {t : TGs} (hc : X.calm = true) (h : PGs X es t)
    (hn : (assignEach es X.env).length = 2 := by rfl) (hst : (assignEach es X.env).findIdx? (·.1) = none := by rfl) : PG X (.Tuple es k pos) (gUn2S t) := by
  refine ⟨fun pins s σ H v u Q I r hw => ?_⟩
  obtain ⟨c, d, rfl, hw⟩ := hw
  obtain ⟨tt, rfl⟩ := r
  rw [PyProof.Rows.assign_Tuple]
  refine wpAny_bind (wpAny_standAt ?_)
  unfold unpack
  rw [hn, hst]
  refine wpAny_bind (wpAny_holding (unpack_str (x := ⟨#[c, d]⟩) (I.ok.hd hc) fun vs h' tk hl hv kp => ?_))
  have I1 : Inv X pins σ H { s with heap := h', toks := tk } := I.kept kp
  have hl2 : vs.length = 2 := hl
  obtain ⟨a, b, rfl⟩ : ∃ a b, vs = [a, b] := by
    match vs, hl2 with
    | [a, b], _ => exact ⟨a, b, rfl⟩
  obtain ⟨c1, u1, e1, rfl⟩ := hv 0 a rfl
  obtain ⟨c2, u2, e2, rfl⟩ := hv 1 b rfl
  have e1' : c = c1 := by simpa using e1
  have e2' : d = c2 := by simpa using e2
  subst e1' e2'
  exact h.run pins _ σ H [.str ⟨#[c]⟩, .str ⟨#[d]⟩] _ Q I1 (.cons ⟨_, rfl⟩ (.cons ⟨_, rfl⟩ .nil)) hw
end
section
variable {X : Cx}
/-- list(s) of a text -/
def strL (z : Str) : List V := z.cps.toList.map fun c => V.str ⟨#[c]⟩
theorem call_listS (hc : X.calm = true) : CallR X (.type "list") (fun xs H Q => ∃ z : Str, xs = [V.str z] ∧ z.cps.size ≤ sizeLine ∧ ∀ p, H p = none → Q (.ref p) (upd H p (.lst (strL z)))) := by
  intro pins s σ H xs us Q I r h
  obtain ⟨z, rfl, hz, q⟩ := h
  obtain ⟨u, rfl, rx⟩ := r.one
  obtain ⟨t, rfl⟩ := rx
  refine call_list_str (I.ok.hd hc) z t (fun h' tk acc c kp hS hacc => ?_) hz
  refine ⟨.ref s.heap.objs.size, upd H s.heap.objs.size (.lst (strL z)), I.laid kp (Nat.le_refl _) (show ObjOk X.prog X.w _ _ _ (.lst (strL z)) from ⟨?_, acc.toList, c, ?_, ?_⟩), rfl, q _ (I.hok.fresh (Nat.le_refl _))⟩
  · unfold strL
    rw [List.length_map, Array.length_toList]
    exact hz
  · refine vals_of_at (by unfold strL; rw [List.length_map, Array.length_toList, Array.length_toList]; exact hacc.1.symm) fun j x u h1 h2 => ?_
    obtain ⟨c1, t1, e1, rfl⟩ := hacc.2 j u (by rw [← Array.getElem?_toList]; exact h2)
    unfold strL at h1
    rw [List.getElem?_map, Array.getElem?_toList, e1] at h1
    obtain rfl : V.str ⟨#[c1]⟩ = x := by simpa using h1
    exact ⟨_, rfl⟩
  · rw [Array.toArray_toList]
    exact hS
end
end P38

set_option Elab.async false
set_option linter.all false
set_option maxRecDepth 100000
set_option maxHeartbeats 4000000
namespace P38
open PySem PySem.Spec PyProof.Rows L2
/-! tuple(view of items) -/
section
variable {prog : Program} {w : World} {A : Around} {E : Value → Shared → Prop} {s : Shared} {K : Type} [DecidableEq K] {knd : KeyKind prog w K} {r d : Addr} {kvs : List (K × Value)} {ep : Nat}
theorem code_tup_items {Q₁ : Value → Shared → Prop} (hh : A.handled = none) (hv : s.heap.IsItemsView r d) (hm : s.heap.DictAt knd d kvs ep) (hn : kvs.length ≤ sizeLine)
    (h : ∀ (h' : Heap) (tk : Nat) (as : List Addr), (∀ b o, s.heap.get? b = some o → h'.get? b = some o) → as.length = kvs.length → PySem.W.KdxG knd kvs s.heap.objs.size h' as →
      Q₁ (.ref h'.objs.size) { s with heap := h'.push { cls := .type "tuple", data := .seq (as.map Value.ref).toArray }, toks := tk }) :
    codeAny (model prog w) A (.call (.builtin "tuple.__new__") ⟨[.type "tuple", .ref r], []⟩) (wants Q₁ E) s := by
  refine codeAny_of_tree ?_
  show wpAny _ A.in1 (do checkBuiltinCall "tuple.__new__" ⟨[.type "tuple", .ref r], []⟩; again (.builtin "tuple.__new__" ⟨[.type "tuple", .ref r], []⟩)) _ _ s
  refine wpAny_bind (wpAny_of_eq (F.newCall_tuple_1 _) (wpAny_pure ⟨plainId_quiet F.plain_tuple_new _, codeAny_builtin F.entry_tuple_new ?_⟩))
  rw [Around.under_plainId F.plain_tuple_new _]
  have hsub := sub_tuple_self
  have hinit := init_tuple_lookup
  have hmh := madeHere_tuple
  have hTI : s.TypeIs (.ref r) "dict_items" := hv.typeIs
  have hh1 : A.in1.handled = none := hh
  wp_walk using wpAny_typeOf hTI, PySem.W.kdx_collect (A := A.in1) (knd := knd) (kvs := kvs) (ep := ep) hh1 hv hm hn
  intro h' tk as hk hl hg
  show wpAny _ _ (Builtin.Tuple.tupleExact (as.map Value.ref).toArray >>= fun v => ret v) _ _ _
  unfold Builtin.Tuple.tupleExact
  refine wpAny_bind (wpAny_newObj_type ?_ (by show (as.map Value.ref).toArray.size ≤ sizeLine; rw [List.size_toArray, List.length_map, hl]; exact hn))
  exact wpAny_pure (h h' tk as hk hl hg)
theorem call_tup_items {Q : Value → Shared → Prop} (hh : A.handled = none) (hv : s.heap.IsItemsView r d) (hm : s.heap.DictAt knd d kvs ep) (hn : kvs.length ≤ sizeLine)
    (hQ : ∀ (h' : Heap) (tk : Nat) (as : List Addr), (∀ b o, s.heap.get? b = some o → h'.get? b = some o) → as.length = kvs.length → PySem.W.KdxG knd kvs s.heap.objs.size h' as →
      Q (.ref h'.objs.size) { s with heap := h'.push { cls := .type "tuple", data := .seq (as.map Value.ref).toArray }, toks := tk }) :
    wpAny (model prog w) A (call (.type "tuple") [.ref r]) Q E s := by
  refine callType_codes (Q₁ := fun obj s₁ => s₁.TypeIs obj "tuple" ∧ Q obj s₁) F.called_tuple (F.typeCall_tuple_1 _) F.entry_object_init
    (code_tup_items (A := A.in1) hh hv hm hn fun h' tk acc hk hl hg => ⟨⟨_, Heap.get?_push_size _ rfl, rfl⟩, hQ h' tk acc hk hl hg⟩) fun obj s₁ h₁ => ?_
  exact ⟨h₁.1, F.args_object_init_2 obj _, object_init_meets F.called_tuple.init.lookup F.called_tuple.made (by decide) prog w A.in1 _ s₁ ⟨h₁.1, rfl, h₁.2⟩⟩
end
section
variable {X : Cx} {e : Expr} {te : TE} {p apos cpos pos : Pos}
/-- the pairs' tuples, new at ts -/
def PairsAt (H : Hp) (ts : List Addr) (kvs : List (Key × V)) : Prop := Paired (fun (t : Addr) (q : Key × V) => H t = some (.tup [kV q.1, q.2])) ts kvs
def rItemsT : V → Hp → VK → Prop := fun x H Q => ∃ (d : Addr) (kvs : List (Key × V)), x = .ref d ∧ Rd H d (.dK kvs) ∧
  ∀ (H' : Hp) (p : Addr) (ts : List Addr), (∀ b o, H b = some o → H' b = some o) → H p = none → (∀ t ∈ ts, H t = none) → p ∉ ts → H' p = some (.tup (ts.map V.ref)) → PairsAt H' ts kvs → Q (.ref p) H'
def tTupItems (te : TE) : TE := fun σ H Q => te σ H fun x H1 => rItemsT x H1 Q
theorem itemsT_laid {pins : List (Addr × Obj)} {σ : L2.St} {H : Hp} {s : Shared} {h' : Heap} {tk lo : Nat} {kvs : List (Key × V)} {vs : List (Key × Value)} {as : List Addr} (I : Inv X pins σ H s) (hz : kvs.length ≤ sizeLine) (kv : KV kvs vs)
    (hk : ∀ b o, s.heap.get? b = some o → h'.get? b = some o) (hl : as.length = vs.length) (hlo : s.heap.objs.size ≤ lo) (sz : s.heap.objs.size ≤ h'.objs.size) (hG : PySem.W.KdxG (mixKind X.prog X.w) vs lo h' as) :
    ∃ H' : Hp, (∀ b o, H b = some o → H' b = some o) ∧ H h'.objs.size = none ∧ (∀ t ∈ as, H t = none) ∧ h'.objs.size ∉ as ∧ H' h'.objs.size = some (.tup (as.map V.ref)) ∧ PairsAt H' as kvs ∧
      Inv X pins σ H' { s with heap := h'.push { cls := .type "tuple", data := .seq (as.map Value.ref).toArray }, toks := tk } := by
  have lk : kvs.length = vs.length := Paired.length kv
  have I1 : Inv X pins σ H { s with heap := h', toks := tk } := I.kept hk
  have hSn : h'.objs.size ∉ as := fun z => Nat.lt_irrefl _ (hG.there z)
  have nd : as.Nodup := List.Pairwise.imp (fun {a b} (h : a < b) => Nat.ne_of_lt h) hG.rise
  have new : ∀ t ∈ as, H t = none := fun t ht => I.hok.fresh (Nat.le_of_lt (Nat.lt_of_le_of_lt hlo (hG.above t ht)))
  have newS : H h'.objs.size = none := I.hok.fresh sz
  have atP := LiI.putT_at as kvs (upd H h'.objs.size (.tup (as.map V.ref))) (by omega) nd
  have off : ∀ b, b ∉ as → b ≠ h'.objs.size → LiI.putT (upd H h'.objs.size (.tup (as.map V.ref))) as kvs b = H b := fun b h1 h2 => by rw [LiI.putT_off as kvs _ h1, upd_ne h2]
  have low : ∀ b o, s.heap.get? b = some o → b ∉ as ∧ b ≠ h'.objs.size := fun b o e =>
    ⟨fun z => absurd (Heap.lt_size e) (Nat.not_lt.mpr (Nat.le_of_lt (Nat.lt_of_le_of_lt hlo (hG.above b z)))), Nat.ne_of_lt (Nat.lt_of_lt_of_le (Heap.lt_size e) sz)⟩
  have kp : ∀ b u, H b = some u → (LiI.putT (upd H h'.objs.size (.tup (as.map V.ref))) as kvs) b = some u := fun b u e => by
    rw [off b (fun z => by rw [new b z] at e; cases e) (fun z => by rw [z, newS] at e; cases e)]
    exact e
  have eS : LiI.putT (upd H h'.objs.size (.tup (as.map V.ref))) as kvs h'.objs.size = some (.tup (as.map V.ref)) := by rw [LiI.putT_off as kvs _ hSn, upd_same]
  have hk2 : ∀ b o, s.heap.get? b = some o → (h'.push { cls := .type "tuple", data := .seq (as.map Value.ref).toArray }).get? b = some o := fun b o e => Heap.get?_push_of_some _ (hk b o e)
  refine ⟨LiI.putT (upd H h'.objs.size (.tup (as.map V.ref))) as kvs, kp, newS, new, hSn, eS, atP, ?_⟩
  refine I.call' (ch := []) rfl ⟨fun b o q _ _ _ => hk2 b o q, fun b o q _ _ _ => ⟨o.slots, hk2 b o q⟩, fun b o q n _ => ?_, fun b o q _ => ⟨o, hk2 b o q⟩, fun b xs q => kp b _ q, fun b o u q => kp b _ q, fun b ps q => ⟨#[], by rw [kp b _ q]; simp⟩⟩ (fun b u q => ?_) I.bare fun b z => by simp at z
  · obtain ⟨z1, z2⟩ := low b o q
    rw [off b z1 z2]
    exact n
  · by_cases hb : b ∈ as
    · obtain ⟨j, pk, e1, e2, e3⟩ := LiI.paired_ix atP hb
      rw [e3] at q
      cases q
      obtain ⟨key, k, x, f1, f2, f3⟩ := hG.pairs j b e1
      obtain ⟨qv, g1, g2, g3⟩ := LiI.paired_get kv e2
      rw [f1] at g1
      cases g1
      have rk : RelV (kV pk.1) key := by
        rw [g2]
        exact relV_key (show keyIs k key = true from f2)
      exact ⟨by show 2 ≤ sizeLine; decide, [key, x], .cons rk (.cons g3 .nil), ⟨_, Heap.get?_push_of_some _ f3, rfl, _, rfl⟩⟩
    · by_cases hb2 : b = h'.objs.size
      · rw [hb2] at q ⊢
        rw [eS] at q
        cases q
        exact ⟨by rw [List.length_map]; omega, as.map Value.ref, LiI.vals_refs as, IsTup.new _ _⟩
      · rw [off b hb hb2] at q
        exact (I.hok b u q).stay (fun d v _ y => hk2 d v y) (fun d y => kp d _ y) fun d xs y => kp d _ y
/-- tuple(e.items()) -/
theorem pe_tupItems (hc : X.calm = true) (he : PE X e te) (hg : Gl X "tuple") (hm : X.mg "tuple" = none) (hbase : attributeBase e "items" X.env (eval e X.env) = eval e X.env := by rfl) (hline : (apos.endLine == cpos.line) = true := by rfl)
    (hs : starEach [.Call (.Attribute e "items" apos) [] [] cpos] X.env = (false, eval (.Call (.Attribute e "items" apos) [] [] cpos) X.env) :: starEach [] X.env := by rfl) :
    PE X (.Call (.Name "tuple" p) [.Call (.Attribute e "items" apos) [] [] cpos] [] pos) (tTupItems te) := by
  refine ⟨fun pins s σ H Q I hq => ?_⟩
  refine wpAny_Call_Name_kw (ld_blt I hg hm boot_tuple ?_)
  refine PyProof.Rows.callWith_type1 ?_ hs rfl
  rw [hs]
  show wpAny _ _ (spliced ((false, eval (.Call (.Attribute e "items" apos) [] [] cpos) X.env) :: backTo pos (starEach [] X.env))) _ _ s
  refine Calls.spliced_cons ?_
  refine wpAny_Call_method (T := "dict") (id := "dict.items") hbase rfl hline F.plainAttrs_dict F.slot_dict_items F.type_dict_items (thn (he.run pins s σ H _ I hq) fun u s1 ⟨x, H1, I1, rx, d, kvs, ex, hd, q⟩ => ?_)
  subst ex
  obtain rfl : u = Value.ref d := rx
  obtain ⟨hz, hs0, vs, kv, hdo⟩ := dk_rd I1.hok hd
  obtain ⟨ep, hat⟩ := hdo.dictAt
  have lk : kvs.length = vs.length := Paired.length kv
  have I2 : Inv X pins σ H1 { s1 with heap := s1.heap.push { cls := .type "dict_items", data := .fields #[.ref d] } } := I1.kept (t' := s1.toks) fun b ob q => Heap.get?_push_of_some _ q
  refine ⟨hdo.typeIs, hdo.mapOf.noDict, ?_⟩
  show wpAny _ _ (callWith cpos (.builtin "dict.items") [.ref d] [] []) _ X.xe s1
  refine method_meetsIn F.slot_dict_items F.entry_dict_items rfl (PySem.evalArgs_none ⟨rfl, hdo.typeIs, F.args_dict_items_1 _, _, meets_dict_items (mixKind X.prog X.w) d hs0, ⟨vs, hdo⟩, ?_⟩)
  refine Calls.spliced_nil ?_
  refine call_tup_items (knd := mixKind X.prog X.w) (kvs := vs) (ep := ep) (I1.ok.hd hc) ⟨_, Heap.get?_push_size _ rfl, rfl, rfl⟩ (hat.push _) (by omega) fun h' tk as hk hl hG => ?_
  obtain ⟨H', k1, k2, k3, k4, k5, k6, J⟩ := itemsT_laid (tk := tk) I2 hz kv hk hl (Nat.le_refl _) (by show (s1.heap.push _).objs.size ≤ _; rw [Heap.size_push]; exact Heap.lt_size (hk _ _ (Heap.get?_push_size _ rfl))) hG
  exact ⟨.ref _, H', J, rfl, q H' _ as k1 k2 k3 k4 k5 k6⟩
/-- list(e.values()) -/
def rValsL : V → Hp → VK → Prop := fun x H Q => ∃ (d : Addr) (kvs : List (Key × V)), x = .ref d ∧ Rd H d (.dK kvs) ∧ ∀ p, H p = none → Q (.ref p) (upd H p (.lst (kvs.map Prod.snd)))
def tListVals (te : TE) : TE := fun σ H Q => te σ H fun x H1 => rValsL x H1 Q
theorem vals_snd : ∀ {kvs : List (Key × V)} {vs : List (Key × Value)}, KV kvs vs → Vals (kvs.map Prod.snd) (vs.map Prod.snd)
  | _, _, .nil => .nil
  | _, _, .cons h t => .cons h.2 (vals_snd t)
theorem pe_listVals (hc : X.calm = true) (he : PE X e te) (hg : Gl X "list") (hm : X.mg "list" = none) (hbase : attributeBase e "values" X.env (eval e X.env) = eval e X.env := by rfl) (hline : (apos.endLine == cpos.line) = true := by rfl)
    (hs : starEach [.Call (.Attribute e "values" apos) [] [] cpos] X.env = (false, eval (.Call (.Attribute e "values" apos) [] [] cpos) X.env) :: starEach [] X.env := by rfl) :
    PE X (.Call (.Name "list" p) [.Call (.Attribute e "values" apos) [] [] cpos] [] pos) (tListVals te) := by
  refine ⟨fun pins s σ H Q I hq => ?_⟩
  refine wpAny_Call_Name_kw (ld_blt I hg hm boot_list ?_)
  refine PyProof.Rows.callWith_type1 ?_ hs rfl
  rw [hs]
  show wpAny _ _ (spliced ((false, eval (.Call (.Attribute e "values" apos) [] [] cpos) X.env) :: backTo pos (starEach [] X.env))) _ _ s
  refine Calls.spliced_cons ?_
  refine wpAny_Call_method (T := "dict") (id := "dict.values") hbase rfl hline F.plainAttrs_dict F.slot_dict_values F.type_dict_values (thn (he.run pins s σ H _ I hq) fun u s1 ⟨x, H1, I1, rx, d, kvs, ex, hd, q⟩ => ?_)
  subst ex
  obtain rfl : u = Value.ref d := rx
  obtain ⟨hz, hs0, vs, kv, hdo⟩ := dk_rd I1.hok hd
  obtain ⟨ep, hat⟩ := hdo.dictAt
  have lk : kvs.length = vs.length := Paired.length kv
  have I2 : Inv X pins σ H1 { s1 with heap := s1.heap.push { cls := .type "dict_values", data := .fields #[.ref d] } } := I1.kept (t' := s1.toks) fun b ob q => Heap.get?_push_of_some _ q
  refine ⟨hdo.typeIs, hdo.mapOf.noDict, ?_⟩
  show wpAny _ _ (callWith cpos (.builtin "dict.values") [.ref d] [] []) _ X.xe s1
  refine method_meetsIn F.slot_dict_values F.entry_dict_values rfl (PySem.evalArgs_none ⟨rfl, hdo.typeIs, F.args_dict_values_1 _, _, meets_dict_values (mixKind X.prog X.w) d hs0, ⟨⟨vs, hdo⟩, ?_⟩⟩)
  refine Calls.spliced_nil ?_
  refine PySem.W.kdl_call (PySem.W.kdl_values (knd := mixKind X.prog X.w) (kvs := vs) (ep := ep)) (I1.ok.hd hc) ⟨⟨_, Heap.get?_push_size _ rfl, rfl, rfl⟩, hat.push _⟩ (by omega) fun h' tk acc c hk hS hacc => ?_
  have ea : acc.toList = vs.map Prod.snd := PySem.W.kdl_vals_eq _ (by rw [Array.length_toList]; exact hacc.1) fun j v e => hacc.2 j v (by rw [← Array.getElem?_toList]; exact e)
  refine ⟨.ref _, upd H1 _ (.lst (kvs.map Prod.snd)), I2.laid hk (Nat.le_refl _) (show ObjOk X.prog X.w _ _ _ (.lst (kvs.map Prod.snd)) from ⟨?_, acc.toList, c, ?_, ?_⟩), rfl, q _ (I2.hok.fresh (Nat.le_refl _))⟩
  · rw [List.length_map]
    exact hz
  · rw [ea]
    exact vals_snd kv
  · rw [Array.toArray_toList]
    exact hS
end
/-! s[::-1] -/
theorem rev_indices (n : Nat) : Builtin.Str.strSliceIndices none none (-1) n = (List.range n).reverse := by
  unfold Builtin.Str.strSliceIndices
  show sliceRange ((n : Int) - 1) (-1) (-1) = _
  rw [PySem.W.krv_sliceRange, PySem.W.krv_range]
theorem rev_picked (z : Str) : (List.range z.length).reverse.filterMap (z.cps[·]?) = z.cps.toList.reverse := by
  rw [List.filterMap_reverse]
  exact congrArg List.reverse (PySem.W.krv_all z.cps)
section
variable {X : Cx}
def tRevS (te : TE) : TE := fun σ H Q => te σ H fun x H1 => ∃ z : Str, x = .str z ∧ z.length ≤ sizeLine ∧ Q (.str ⟨z.cps.toList.reverse.toArray⟩) H1
theorem pe_revS {e : Expr} {te : TE} {k : Nat} {p1 p2 p3 pos : Pos} (he : PE X e te) : PE X (.Subscript e (.Slice none none (some (.UnaryOp .USub (.Constant (.int 1) k p1) p2)) p3) pos) (tRevS te) := by
  refine ⟨fun pins s σ H Q I h => ?_⟩
  refine Subscript_ (thn (he.run pins s σ H _ I h) fun v s1 ⟨x, H1, I1, r1, q1⟩ => ?_)
  obtain ⟨z, rfl, hz, q⟩ := q1
  obtain ⟨t, rfl⟩ := r1
  have hst : PO X (some (.UnaryOp .USub (.Constant (.int 1) k p1) p2)) (tPart (tUn (rU fun i => .int (-i)) (tC (.int 1)))) := po_some (pe_un un_neg pe_int)
  refine wpAny_Slice (thn (po_none.run pins s1 σ H1 (fun o H2 => o = none ∧ H2 = H1) I1 ⟨rfl, rfl⟩) fun vl s2 ⟨l, H2, I2, pl, el, e2⟩ => ?_)
  subst el e2
  refine thn (po_none.run pins s2 σ H2 (fun o H3 => o = none ∧ H3 = H2) I2 ⟨rfl, rfl⟩) fun vu s3 ⟨u, H3, I3, pu, eu, e3⟩ => ?_
  subst eu e3
  refine thn (hst.run pins s3 σ H3 (fun o H4 => o = some (-1) ∧ H4 = H3) I3 ⟨1, rfl, -1, rfl, rfl, rfl⟩) fun vs s4 ⟨o, H4, I4, ps, eo, e4⟩ => ?_
  subst eo e4
  have I5 : Inv X pins σ H4 { s4 with heap := s4.heap.push { cls := .type "slice", data := .fields #[vl, vu, vs] } } := I4.kept (t' := s4.toks) fun b ob q => Heap.get?_push_of_some _ q
  show wpAny (model X.prog X.w) X.A (subscriptTail e (.Slice none none (some (.UnaryOp .USub (.Constant (.int 1) k p1) p2)) p3) (.str z t) (.ref s4.heap.objs.size)) (EP X pins σ Q) X.xe { s4 with heap := s4.heap.push { cls := .type "slice", data := .fields #[vl, vu, vs] } }
  refine tail_any (ops := [.str z t, .ref s4.heap.objs.size]) (typeIs_str _ _ _) F.slot_str_getitem.lookup ?_ (by with_unfolding_all rfl)
  obtain ⟨os, hos, hcs, hds⟩ := (Heap.IsSliceOf.new s4.heap vl vu vs)
  obtain ⟨l, rfl, el⟩ := IsPart.raw pl
  obtain ⟨u, rfl, eu⟩ := IsPart.raw pu
  obtain ⟨st, rfl, es⟩ := IsPart.raw ps
  have e1 : ((st.map (·.1)).getD 1) = -1 := by rw [es]; rfl
  refine wpAny_getItem_str_slice (l := l) (u := u) (st := st) ⟨os, hos, hcs, hds⟩ (by rw [e1]; rfl) ?_
  have em : sliceMade z t l u st = Made.str ⟨z.cps.toList.reverse.toArray⟩ := by
    unfold sliceMade
    rw [e1, if_neg (by simp), ← rev_picked, ← rev_indices]
    unfold slicePicked
    rw [e1, el, eu]
  rw [em]
  refine ⟨?_, .str _, H4, I5.tok _, ⟨_, rfl⟩, q⟩
  show (z.cps.toList.reverse.toArray).size ≤ sizeLine
  rw [List.size_toArray, List.length_reverse, Array.length_toList]
  exact hz
end
end P38

set_option Elab.async false
set_option linter.all false
set_option maxRecDepth 100000
set_option maxHeartbeats 4000000
namespace P38
open PySem PySem.Spec PyProof.Rows L2
/-! enumerate of a text -/
def Ites (x : Str) : It :=
  ⟨fun i _ => i < x.cps.size, fun i H v H' => ∃ T c, v = .ref T ∧ H T = none ∧ H' = upd H T (.tup [.int (i : Nat), .str ⟨#[c]⟩]) ∧ x.cps[i]? = some c, fun i _ => x.cps.size ≤ i⟩
theorem turn_enumS {P : Program} {w : World} {K : PySem.W.Frag} {elts : List Expr} {kk : Nat} {tpos : Pos} (e it : Addr) (x : Str) (t : Tok) (ty : String) (hty : ty = "str_ascii_iterator" ∨ ty = "str_iterator") :
    Turn P w K (.Tuple elts kk tpos) (Ites x) [e, it] e (fun i h => (∃ old, IsEnum h e it ((i : Nat) : Int) old) ∧ h.IsStrIter it ty x t i ∧ e ≠ it ∧ i ≤ x.cps.size) where
  mem := by simp
  obj := fun i h st b hb => by
    obtain ⟨⟨old, he⟩, ⟨o, ho, hc, hd⟩, _⟩ := st
    have e' : b = e ∨ b = it := by simpa using hb
    rcases e' with z | z
    · rw [z]; exact ⟨_, he, fun v q => nomatch q⟩
    · rw [z]; exact ⟨o, ho, fun v q => by rw [hd] at q; cases q⟩
  keep := fun i h h' st k => let ⟨⟨old, he⟩, ⟨o, ho, r⟩, hne⟩ := st; ⟨⟨old, k e (by simp) _ he⟩, ⟨o, k it (by simp) o ho, r⟩, hne⟩
  item := by
    intro X hP hw hK hc i pins s σ H E I hf st hg
    subst hP hw hK
    obtain ⟨⟨old, he⟩, hit, hne, _⟩ := st
    have hel : e < s.heap.objs.size := Heap.lt_size he
    have hil : it < s.heap.objs.size := by obtain ⟨_, q, _⟩ := hit; exact Heap.lt_size q
    have D : Draws X.prog X.w X.A.in1 it [it] x.cps.size (fun i v => ∃ c u, x.cps[i]? = some c ∧ v = .str ⟨#[c]⟩ u) (fun i h => h.IsStrIter it ty x t i) := by
      rcases hty with z | z
      · rw [z]; exact Draws.strAscii (show X.A.in1.handled = none from I.ok.hd hc) it x t
      · rw [z]; exact Draws.strWide (show X.A.in1.handled = none from I.ok.hd hc) it x t
    refine wpAny_pyNext_enum_itemD D he hit hg hne (by simpa using hne) fun u h' tk hP ho hit' hT hsz hk => ?_
    obtain ⟨c, ut, hcx, rfl⟩ := hP
    refine ⟨_, rfl, wpAny_letOwnedTupleGo_enum (s := { s with heap := h', toks := tk + 1 }) ho fun h'' he' sb => ?_⟩
    have hT2 : h''.get? s.heap.objs.size = some { cls := .type "tuple", data := .seq #[.int i tk, .str ⟨#[c]⟩ ut] } := (sb.2 _ (Nat.ne_of_gt hel)).trans hT
    have new : ObjOk X.prog X.w (upd H s.heap.objs.size (.tup [.int (i : Nat), .str ⟨#[c]⟩])) h'' s.heap.objs.size (.tup [.int (i : Nat), .str ⟨#[c]⟩]) :=
      ⟨by show 2 ≤ sizeLine; decide, [.int i tk, .str ⟨#[c]⟩ ut], .cons ⟨_, rfl⟩ (.cons ⟨_, rfl⟩ .nil), ⟨_, hT2, rfl, _, rfl⟩⟩
    have I1 : Inv X pins σ (upd H s.heap.objs.size (.tup [.int (i : Nat), .str ⟨#[c]⟩])) { s with heap := h'', toks := tk + 1 } :=
      I.turnedNew (ch := [e, it]) (fun b ob hb q => (sb.2 b (fun z => hb (by simp [z]))).trans (hk b ob (fun z => hb (by simp [z])) (fun z => hb (by simp [z])) q)) hf (Nat.le_refl _) new
    refine ⟨.ref s.heap.objs.size, _, I1, rfl, ⟨_, c, rfl, I.hok.fresh (Nat.le_refl _), rfl, hcx⟩, ⟨⟨.str ⟨#[c]⟩ ut, ?_⟩, ?_, hne, hg⟩, fun b hb => ?_⟩
    · have e1 : ((i + 1 : Nat) : Int) = (i : Int) + 1 := by omega
      rw [e1]; exact he'
    · obtain ⟨o, q, r⟩ := hit'
      exact ⟨o, (sb.2 it (Ne.symm hne)).trans q, r⟩
    · have hb' : b < s.heap.objs.size := by
        have e' : b = e ∨ b = it := by simpa using hb
        rcases e' with z | z
        · rw [z]; exact hel
        · rw [z]; exact hil
      rw [upd_ne (Nat.ne_of_lt hb')]
      exact (hf b hb).1
  done := by
    intro X hP hw hK hc i pins s σ H E I hf st hg
    subst hP hw hK
    obtain ⟨⟨old, he⟩, hit, hne, hle⟩ := st
    have ei : i = x.cps.size := Nat.le_antisymm hle hg
    subst ei
    obtain ⟨f0, f1, f2, f3, f4, f5⟩ := hf it (by simp)
    have D : Draws X.prog X.w X.A.in1 it [it] x.cps.size (fun i v => ∃ c u, x.cps[i]? = some c ∧ v = .str ⟨#[c]⟩ u) (fun i h => h.IsStrIter it ty x t i) := by
      rcases hty with z | z
      · rw [z]; exact Draws.strAscii (show X.A.in1.handled = none from I.ok.hd hc) it x t
      · rw [z]; exact Draws.strWide (show X.A.in1.handled = none from I.ok.hd hc) it x t
    exact wpAny_pyNext_enum_endD D he hit fun h' eb => ⟨rfl, I.turned (t' := s.toks) (fun b o hb q => eb b o hb q) f0 f1 f3 f4 f5⟩
  self := fun A i s Q E st h => let ⟨⟨_, he⟩, _⟩ := st; wpAny_pyIter_enum he h
def iEnumS (ta : TA) : TI := fun σ H R => ta σ H fun vs H1 => ∃ x, vs = [.str x] ∧ R (Ites x) H1
theorem pi_enumS {X : Cx} {e : Expr} {ta : TA} {p pos tpos : Pos} {elts : List Expr} {kk : Nat} (hg : Gl X "enumerate") (hm : X.mg "enumerate" = none) (ha : PA X [e] ta) (hs : starEach [e] X.env = [(false, eval e X.env)] := by rfl) :
    PI X (.Tuple elts kk tpos) (.Call (.Name "enumerate" p) [e] [] pos) (iEnumS ta) := by
  refine ⟨fun pins s σ H R I h => ?_⟩
  refine Call_ (ld_blt I hg hm boot_enumerate (PyProof.Rows.callWith_type1 (thn (ha.run pos pins s σ H _ I h) fun us s1 ⟨vs, H1, I1, r1, q1⟩ => ?_) hs rfl))
  obtain ⟨x, rfl, q⟩ := q1
  obtain ⟨u, rfl, ru⟩ := r1.one
  obtain ⟨t, rfl⟩ := ru
  refine call_enumerate_str fun h' he hit hsz hk => wpAny_pyIter_enum he ?_
  have I2 : Inv X pins σ H1 { s1 with heap := h' } := I1.kept (t' := s1.toks) hk
  have hty : strIterType x = "str_ascii_iterator" ∨ strIterType x = "str_iterator" := by
    unfold strIterType
    split
    · exact .inl rfl
    · exact .inr rfl
  refine ⟨s1.heap.objs.size + 1, [s1.heap.objs.size + 1, s1.heap.objs.size], _, _, H1, rfl, I2, turn_enumS (s1.heap.objs.size + 1) s1.heap.objs.size x t _ hty, ⟨⟨.none, he⟩, hit, Nat.succ_ne_self _, Nat.zero_le _⟩, fun b hb => ?_, q⟩
  have e' : b = s1.heap.objs.size + 1 ∨ b = s1.heap.objs.size := by simpa using hb
  have hle : s1.heap.objs.size ≤ b := by
    rcases e' with z | z
    · rw [z]; exact Nat.le_add_right _ _
    · rw [z]; exact Nat.le_refl _
  exact I1.fpOk hle (I1.hok.fresh hle)
theorem walk_enumS {x : Str} : Walk (Ites x) x.cps.size (fun _ => True) (YPair (fun i => some (.int (i : Nat))) (fun i => x.cps[i]?.map fun c => .str ⟨#[c]⟩)) :=
  ⟨fun _ _ hi _ => hi, fun _ _ => Nat.le_refl _, fun i H v H' _ _ y => by
    obtain ⟨T, c, e, n, e', hc⟩ := y
    exact ⟨T, _, _, e, n, e', rfl, by show x.cps[i]?.map _ = _; rw [hc]; rfl⟩⟩
/-- a dict comprehension over a walk -/
theorem dc_it {J : It} {n : Nat} {G : Hp → Prop} {Y : Nat → Hp → V → Hp → Prop} (w : Walk J n G Y) {g : TG} {tt : TT} {tk tv : TE} {vs : List Nat} {σ : L2.St} {H1 : Hp} {D : Addr} {Qd : Hp → Prop} (Pv : Nat → Hp → Prop) (h0 : Pv 0 (upd H1 D (.dK []))) (hG : ∀ i H, i ≤ n → Pv i H → G H)
    (hs : ∀ i x H H', i < n → Pv i H → Y i H x H' → g x (wipe σ vs) H' fun σ2 H2 => wipe σ2 vs = wipe σ vs ∧ tt σ2 H2 fun b H3 =>
      if b = true then tk σ2 H3 fun y H4 => tv σ2 H4 fun z H5 => ∃ kvs k, y = kV k ∧ H5 D = some (.dK kvs) ∧ kvs.length < sizeLine ∧ Pv (i + 1) (upd H5 D (.dK (putK kvs k z))) else Pv (i + 1) H3) (hd : ∀ H, Pv n H → Qd H) :
    ∃ W : Nat → Nat → Hp → Prop, (∃ m, W 0 m (upd H1 D (.dK []))) ∧ ∀ i m H, W i m H →
      (J.stop i H ∧ Qd H) ∨ (J.go i H ∧ ∃ Nx : Hp → Prop, (∀ H', Nx H' → ∃ m', m' < m ∧ W (i + 1) m' H') ∧ ∀ x H', J.yld i H x H' → g x (wipe σ vs) H' fun σ2 H2 => wipe σ2 vs = wipe σ vs ∧ tt σ2 H2 fun b H3 =>
        if b = true then tk σ2 H3 fun y H4 => tv σ2 H4 fun z H5 => ∃ kvs k, y = kV k ∧ H5 D = some (.dK kvs) ∧ kvs.length < sizeLine ∧ Nx (upd H5 D (.dK (putK kvs k z))) else Nx H3) := by
  refine ⟨fun i m H => m = n - i ∧ i ≤ n ∧ Pv i H, ⟨n, by simp, Nat.zero_le _, h0⟩, ?_⟩
  rintro i m H ⟨rfl, hi, p⟩
  have q := hG i H hi p
  by_cases hlt : i < n
  · exact .inr ⟨w.goes i H hlt q, Pv (i + 1), fun H' p' => ⟨n - (i + 1), by omega, rfl, hlt, p'⟩, fun x H' y => hs i x H H' hlt p (w.yields i H x H' hlt q y)⟩
  · have e : i = n := by omega
    subst e
    exact .inl ⟨w.stops H q, hd H p⟩
end P38

set_option Elab.async false
set_option linter.all false
set_option maxRecDepth 100000
set_option maxHeartbeats 4000000
namespace P38
open PySem PySem.Spec PyProof.Rows L2
/-- the keys of the first texts -/
def keySet : List Str → Key → Bool
  | [] => fun _ => false
  | x :: ss => fun k => decide (k = Sum.inr x) || keySet ss k
theorem keySet_nil : keySet [] = fun _ => false := rfl
theorem keySet_add : ∀ (ss : List Str) (x : Str), (fun k => keySet ss k || decide (k = Sum.inr x)) = keySet (ss ++ [x])
  | [], x => by
    funext k
    show (false || decide (k = Sum.inr x)) = (decide (k = Sum.inr x) || false)
    rw [Bool.false_or, Bool.or_false]
  | y :: ss, x => by
    funext k
    show ((decide (k = Sum.inr y) || keySet ss k) || decide (k = Sum.inr x)) = (decide (k = Sum.inr y) || keySet (ss ++ [x]) k)
    rw [← keySet_add ss x, Bool.or_assoc]
theorem keySet_new : ∀ {ss : List Str} {x : Str}, x ∉ ss → keySet ss (Sum.inr x) = false
  | [], _, _ => rfl
  | y :: ss, x, h => by
    show (decide ((Sum.inr x : Key) = Sum.inr y) || keySet ss (Sum.inr x)) = false
    rw [keySet_new (fun z => h (List.mem_cons_of_mem _ z)), Bool.or_false]
    exact decide_eq_false fun z => h (by rw [Sum.inr.inj z]; exact List.mem_cons_self)
theorem notC {b N C D : Nat} (hb : b < N) (hC : N < C) : b ≠ C := by omega
theorem size_raw (z : Str) : (z.cps.toList.map fun c => (⟨#[c]⟩ : Str)).length = z.cps.size := by rw [List.length_map, Array.length_toList]
section
variable {X : Cx} {pins : List (Addr × Obj)} {σ : L2.St} {H : Hp} {s : Shared}
/-- the block {x for x in ..} over an iterator of distinct texts -/
theorem sc_names {E : Value → Shared → Prop} {x : Str} {p1 p2 : Pos} {scope : Scope} {Q : VK} {It : Addr} {fp : List Addr} {Y : Nat → Value → Heap → Prop} {T : Nat → Heap → Prop} {ss : List Str} {o : Obj} (I : Inv X pins σ H s)
    (hkind : scope.kind = .function) (hx : scope.names.lookup x = some .local) (hdb : (x == ("__debug__" : Str)) = false) (nd : ss.Nodup) (room : ss.length < scanBound)
    (hI : It = s.heap.objs.size) (hfp : ∀ b ∈ fp, b ≤ It)
    (W : Goes X.prog X.w X.A (.Name x p2) It fp [It] ss.length Y T) (hY : ∀ i v h, Y i v h → ∃ y t, ss[i]? = some y ∧ v = .str y t) (h0 : T 0 (s.heap.push o))
    (q : ∀ D, H D = none → Q (.ref D) (upd H D (SetK X.prog X.w D (keySet ss) ss.length))) :
    ScGoes X.prog X.w X.A E X.env scope [] (.Name x p2) [] (.Name x p1) none (EP X pins σ Q) (.ref It) { s with heap := s.heap.push o } := by
  refine ⟨It, fp, [It], ss.length, Y, T, rfl, W, h0, fun D C s₃ hB hD => ?_⟩
  obtain ⟨⟨h₃, tk₃, rfl⟩, old, nD, nC, hDC, hnm⟩ := hB
  have nC' : s.heap.objs.size < C := by
    have z : (s.heap.push o).objs.size ≤ C := nC
    rw [Heap.size_push] at z
    exact z
  have nD' : s.heap.objs.size < D := by
    have z : (s.heap.push o).objs.size ≤ D := nD
    rw [Heap.size_push] at z
    exact z
  have kx : (compEnvC scope [] C X.env).kindOf x = some .local := lookup_relabel_local hx
  have hp : ((compEnvC scope [] C X.env).scope.kind == .class || ((compEnvC scope [] C X.env).scope.kind == .module && (compEnvC scope [] C X.env).locals != (compEnvC scope [] C X.env).globals)) = false := by
    show (scope.kind == .class || (scope.kind == .module && _)) = false
    rw [hkind]
    rfl
  have lowC : ∀ {b : Addr} {ob : Obj}, s.heap.get? b = some ob → b ≠ C := fun e => Nat.ne_of_lt (Nat.lt_trans (Heap.lt_size e) nC')
  have lowD : ∀ {b : Addr} {ob : Obj}, s.heap.get? b = some ob → b ≠ D := fun e => Nat.ne_of_lt (Nat.lt_trans (Heap.lt_size e) nD')
  have lowI : ∀ {b : Addr} {ob : Obj}, s.heap.get? b = some ob → b ∉ [It] := fun e hm => by
    rw [List.mem_singleton.mp hm, hI] at e
    exact Nat.lt_irrefl _ (Heap.lt_size e)
  refine ⟨fun i s₁ => ∃ h' tk m, s₁ = { s with heap := h', toks := tk } ∧ h'.Ns C m ∧ (∀ b ob, s.heap.get? b = some ob → h'.get? b = some ob) ∧ h'.SetOf (mixKind X.prog X.w) D (keySet (ss.take i)) i, ?_, ?_, ?_, ?_⟩
  · refine ⟨h₃, tk₃, _, rfl, hnm, fun b ob e => old b ob (Heap.get?_push_of_some _ e), ?_⟩
    rw [List.take_zero, keySet_nil]
    exact ⟨_, #[], 0, _, hD, ⟨rfl, rfl, rfl⟩, rfl, (fun e he => by simp at he), (fun k => by simp), (by decide), (by rfl), rfl⟩
  · rintro i s₁ h' tk ⟨h₄, tk₄, m, rfl, n₄, k₄, S₄⟩ hk' _
    have oC : C ∉ [It] := fun hm => by
      rw [List.mem_singleton.mp hm, hI] at nC'
      exact Nat.lt_irrefl _ nC'
    have oD : D ∉ [It] := fun hm => by
      rw [List.mem_singleton.mp hm, hI] at nD'
      exact Nat.lt_irrefl _ nD'
    exact ⟨h', tk, m, rfl, n₄.at' fun ob e => hk' _ ob oC e, fun b ob e => hk' b ob (lowI e) (k₄ b ob e), setOf_at S₄ fun ob e => hk' _ ob oD e⟩
  · rintro i v s₁ hi hv st ⟨h₄, tk₄, m, rfl, n₄, k₄, S₄⟩
    obtain ⟨y, t, hy, rfl⟩ := hY i v _ hv
    refine wpAny_assign_Name (wpAny_storeName_local kx n₄ (fun h₅ n₅ s₅ => ?_) hp)
    refine wpAny_tests_nil ?_
    show wpAny _ _ _ _ _ _
    rw [eval_Name _ _ _ hdb]
    refine wpAny_bind (wpAny_standAt (wpAny_loadName_local hkind kx n₅ (v := .str y t) (if_pos rfl) ?_))
    have S₅ : h₅.SetOf (mixKind X.prog X.w) D (keySet (ss.take i)) i := setOf_at S₄ fun ob e => s₅.extBut _ ob hDC e
    refine call_set_add (k := Sum.inr y) (kV_is (k := Sum.inr y) ⟨t, rfl⟩) rfl S₅ (by omega) fun h₆ sb S₆ => ?_
    have stI : ∀ b ∈ fp, b ≠ C ∧ b ≠ D := fun b hb => by
      have z := hfp b hb
      rw [hI] at z
      exact ⟨Nat.ne_of_lt (Nat.lt_of_le_of_lt z nC'), Nat.ne_of_lt (Nat.lt_of_le_of_lt z nD')⟩
    refine ⟨⟨h₆, _, _, rfl, n₅.at' fun ob e => sb.extBut _ ob (Ne.symm hDC) e, fun b ob e => sb.extBut b ob (lowD e) (s₅.extBut b ob (lowC e) (k₄ b ob e)), ?_⟩, W.frame _ _ _ st fun b hb ob e => sb.extBut b ob (stI b hb).2 (s₅.extBut b ob (stI b hb).1 e)⟩
    have ny : y ∉ ss.take i := fun hm => by
      obtain ⟨j, hj⟩ := List.mem_iff_getElem?.mp hm
      rw [List.getElem?_take] at hj
      split at hj
      · rename_i lt
        have e1 := List.getElem?_eq_some_iff.mp hj
        have e2 := List.getElem?_eq_some_iff.mp hy
        have := (List.getElem_inj nd).mp (e1.2.trans e2.2.symm)
        omega
      · cases hj
    have et : ss.take (i + 1) = ss.take i ++ [y] := by
      rw [List.take_add_one, hy]
      rfl
    rw [et, ← keySet_add]
    rw [keySet_new ny, if_neg (by decide)] at S₆
    exact S₆
  · rintro s₁ ⟨h₄, tk₄, m, rfl, n₄, k₄, S₄⟩
    rw [List.take_length] at S₄
    refine ⟨m, n₄, fun h' hs' => ?_⟩
    have kp : ∀ b ob, s.heap.get? b = some ob → h'.get? b = some ob := fun b ob e => hs'.extBut b ob (lowC e) (k₄ b ob e)
    exact ⟨.ref D, _, I.laid (t' := tk₄) kp (Nat.le_of_lt nD') (setK_new (setOf_at S₄ fun ob e => hs'.extBut _ ob hDC e)), rfl, q D (I.hok.fresh (Nat.le_of_lt nD'))⟩
end
section
variable {X : Cx} {e : Expr} {te : TE}
/-- {x for x in e}: e a text or a list of texts, no sign twice -/
def tSetN (P : Program) (w : World) (K : PySem.W.Frag) (te : TE) : TE := fun σ H Q => te σ H fun v H1 => ∃ ss : List Str, ((∃ z : Str, v = .str z ∧ ss = z.cps.toList.map fun c => (⟨#[c]⟩ : Str)) ∨ ∃ a, v = .ref a ∧ SqL K H1 a (ss.map V.str)) ∧
  ss.Nodup ∧ ss.length < scanBound ∧ ∀ D, H1 D = none → Q (.ref D) (upd H1 D (SetK P w D (keySet ss) ss.length))
theorem pe_setN {x : Str} {p1 p2 pos : Pos} {scope : Scope} (hc : X.calm = true) (he : PE X e te) (hkind : scope.kind = .function := by rfl) (hx : scope.names.lookup x = some .local := by rfl) (hdb : (x == ("__debug__" : Str)) = false := by rfl)
    (hclos : closureFor scope X.env = pure [] := by rfl) (hcell : ∀ y ∈ scope.names, y.2 ≠ .cell := by decide +kernel) (hnames : ∀ y ∈ scope.names, y.2 = .local → scope.names.lookup y.1 = some .local := by decide +kernel)
    (hs : ∀ v, foldedSetIterable e X.env v = pure v := by intro _; rfl) : PE X (.SetComp (.Name x p1) [⟨.Name x p2, e, [], 0⟩] scope pos) (tSetN X.prog X.w X.K te) := by
  refine ⟨fun pins s σ H Q I h => ?_⟩
  refine SetComp_goes hclos hcell hkind hnames (thn (he.run pins s σ H _ I h) fun u s1 ⟨v, H1, I1, rv, ss, src, nd, room, q⟩ => ?_) hs
  rcases src with ⟨z, rfl, rfl⟩ | ⟨a, rfl, hq⟩
  · obtain ⟨t, rfl⟩ := rv
    refine wpAny_pyIter_strU (sc_names (It := s1.heap.objs.size) (fp := [s1.heap.objs.size]) (T := fun i h => h.IsStrIter s1.heap.objs.size (strIterType z) z t i) (Y := fun i v _ => SignAt z i v) I1 hkind hx hdb nd room rfl (fun b hb => by rw [List.mem_singleton.mp hb]; exact Nat.le_refl _)
      (by rw [size_raw]; exact Goes.text (I1.ok.hd hc) _ z t) (fun i v h y => ?_) ⟨_, Heap.get?_push_size _ rfl, rfl, rfl⟩ q)
    obtain ⟨c, u, e1, rfl⟩ := y
    exact ⟨(⟨#[c]⟩ : Str), u, by rw [List.getElem?_map, Array.getElem?_toList, e1]; rfl, rfl⟩
  · cases rv
    obtain ⟨its, r, pl, hz⟩ := I1.list hq
    have hlt : a < s1.heap.objs.size := by
      obtain ⟨ob, e1, _⟩ := pl.isList
      exact Heap.lt_size e1
    have ln : its.toArray.size = ss.length := by
      rw [List.size_toArray, ← r.length, List.length_map]
    refine wpAny_pyIter_list pl.isList (sc_names (It := s1.heap.objs.size) (fp := [s1.heap.objs.size, a]) (T := fun i h => h.IsListIter s1.heap.objs.size a i ∧ h.IsList a its.toArray) (Y := fun i v _ => its.toArray[i]? = some v) I1 hkind hx hdb nd room rfl (fun b hb => ?_)
      (by rw [← ln]; exact Goes.list (I1.ok.hd hc) _ a (Nat.ne_of_lt hlt) its.toArray) (fun i v h y => ?_) ⟨⟨_, Heap.get?_push_size _ rfl, rfl, rfl⟩, pl.isList.push _⟩ q)
    · rcases List.mem_cons.mp hb with z | z
      · rw [z]
        exact Nat.le_refl _
      · rw [List.mem_singleton.mp z]
        exact Nat.le_of_lt hlt
    · have y' : its[i]? = some v := by simpa using y
      have li : i < (ss.map V.str).length := by
        rw [r.length]
        exact (List.getElem?_eq_some_iff.mp y').1
      obtain ⟨u, e1, ru⟩ := r.get (List.getElem?_eq_getElem li)
      rw [y'] at e1
      cases e1
      rw [List.length_map] at li
      rw [List.getElem_map] at ru
      obtain ⟨t, rfl⟩ := ru
      exact ⟨ss[i], t, List.getElem?_eq_getElem li, rfl⟩
/-- len of such a set -/
theorem call_lenK : CallR X (.builtin "len") (fun xs H Q => ∃ (a : Addr) (S : Key → Bool) (n : Nat), xs = [V.ref a] ∧ H a = some (SetK X.prog X.w a S n) ∧ Q (.int n) H) := by
  intro pins s σ H xs us Q I r h
  obtain ⟨a, S, n, rfl, ha, q⟩ := h
  obtain rfl := Vals.ref1 r
  obtain ⟨o, es, ep, t, ho, hex, hd, _, _, hb, hf, hn⟩ := setK_get I ha
  refine call_len_set ho hex hd hf ?_ ⟨.int n, H, I.tok _, ⟨_, by rw [hn]⟩, q⟩
  have : scanBound < 2 ^ 62 := by decide
  omega
end
end P38

set_option Elab.async false
set_option linter.all false
set_option maxRecDepth 100000
set_option maxHeartbeats 4000000
namespace P38
open PySem PySem.Spec PyProof.Rows L2
theorem same_tup {K : PySem.W.Frag} {H H' : Hp} {a : Addr} {xs : List V} (e : Same H H') (h : SqT K H a xs) : SqT K H' a xs :=
  h.elim (fun z => .inl (z.elim (fun z => .inl (e _ _ z)) fun ⟨o, z⟩ => .inr ⟨o, e _ _ z⟩)) .inr
theorem same_rd {H H' : Hp} {a : Addr} {u : HO} (e : Same H H') (h : Rd H a u) : Rd H' a u := h.elim (fun z => .inl (e _ _ z)) fun ⟨o, z⟩ => .inr ⟨o, e _ _ z⟩
theorem snd_zip : ∀ {ks vs : List Value}, ks.length = vs.length → (ks.zip vs).map Prod.snd = vs
  | [], [], _ => rfl
  | [], _ :: _, h => by cases h
  | _ :: _, [], h => by cases h
  | k :: ks, v :: vs, h => congrArg (List.cons v) (snd_zip (Nat.succ.inj h))
theorem sorted_perm {κ : PyProof.Rows.KeyKind} {b : Bool} {ks vs : List Value} (hl : ks.length = vs.length) : (PySem.W.sortVals κ b ks vs).Perm vs := by
  unfold PySem.W.sortVals
  have p := (List.mergeSort_perm (ks.zip vs) (PySem.W.sortLe κ.toKeyOrd b fun p : Keyed => PySem.W.keyD κ p.1)).map Prod.snd
  rwa [snd_zip hl] at p
theorem vals_perm {vs vs' : List Value} (p : vs'.Perm vs) : ∀ {xs : List V}, Vals xs vs → ∃ xs', Vals xs' vs' ∧ xs'.Perm xs := by
  induction p with
  | nil => exact fun r => ⟨_, r, .refl _⟩
  | cons a _ ih =>
    intro xs r
    cases r with
    | cons h t =>
      obtain ⟨ys, r', q⟩ := ih t
      exact ⟨_ :: ys, .cons h r', q.cons _⟩
  | swap a b l =>
    intro xs r
    cases r with
    | cons h t =>
      cases t with
      | cons h' t' => exact ⟨_, .cons h' (.cons h t'), List.Perm.swap ..⟩
  | trans _ _ ih1 ih2 =>
    intro xs r
    obtain ⟨ys, r1, q1⟩ := ih2 r
    obtain ⟨zs, r2, q2⟩ := ih1 r1
    exact ⟨zs, r2, q2.trans q1⟩
mutual
theorem dp_ext {K : PySem.W.Frag} {H H' : Hp} (e : Same H H') : ∀ (d : PyData) (v : V), Dp K H v d → Dp K H' v d
  | .none, _, h => by cases h; exact .non
  | .bool b, _, h => by cases h; exact .bl _
  | .int i, _, h => by cases h; exact .int _
  | .str x, _, h => by cases h; exact .str _
  | .list ds, _, h => by cases h with | lst h1 h2 => exact .lst (Same.seq e h1) (dpAll_ext e ds _ h2)
  | .tuple ds, _, h => by cases h with | tup h1 h2 => exact .tup (same_tup e h1) (dpAll_ext e ds _ h2)
  | .dict _, _, h => by cases h
theorem dpAll_ext {K : PySem.W.Frag} {H H' : Hp} (e : Same H H') : ∀ (ds : List PyData) (vs : List V), DpAll K H vs ds → DpAll K H' vs ds
  | [], _, h => by cases h; exact .nil
  | d :: ds, _, h => by cases h with | cons h1 h2 => exact .cons (dp_ext e d _ h1) (dpAll_ext e ds _ h2)
end
theorem dpAll_snoc {K : PySem.W.Frag} {H : Hp} {y : V} {d : PyData} (h : Dp K H y d) : ∀ {vs : List V} {ds : List PyData}, DpAll K H vs ds → DpAll K H (vs ++ [y]) (ds ++ [d])
  | _, _, .nil => .cons h .nil
  | _, _, .cons h1 t => .cons h1 (dpAll_snoc h t)
section
variable {X : Cx} {pins : List (Addr × Obj)} {σ : L2.St} {H : Hp} {s : Shared}
theorem dp_each (I : Inv X pins σ H s) : ∀ (ds : List PyData) (vs : List V) (us : List Value), DpAll X.K H vs ds → Vals vs us → PySem.W.EachIs (fun u d => ∃ as, Reads s.heap u d as) us ds
  | [], _, _, h, r => by cases h; cases r; exact .nil
  | d :: ds, _, _, h, r => by
    cases h with
    | cons h1 h2 => cases r with | cons r1 r2 => exact .cons (Dp.reads I d _ _ h1 r1) (dp_each I ds _ _ h2 r2)
/-- some records of ours have turned; the one at T is known from now on -/
theorem turned_known {t' : Nat} {ch : List Addr} {T : Addr} {ob : HO} {h' : Heap} (I : Inv X pins σ H s) (k : ∀ b o, b ∉ ch → s.heap.get? b = some o → h'.get? b = some o) (hf : ∀ b ∈ ch, FpOk X pins H b) (hT : T ∈ ch)
    (new : ObjOk X.prog X.w (upd H T ob) h' T ob) : Inv X pins σ (upd H T ob) { s with heap := h', toks := t' } := by
  have hn : H T = none := (hf T hT).1
  have off : ∀ b u, H b = some u → b ∉ ch := fun b u e z => absurd (e.symm.trans (hf b z).1) (by simp)
  have up : Same H (upd H T ob) := fun b u e => (upd_ne (ne_of_none e hn)).trans e
  refine I.step (g' := s.gens) (d' := s.drawn) (ch := ch) (fun b hb => let f := hf b hb; ⟨f.2.2.2.1, f.2.1, f.2.2.2.2.1, f.2.2.2.2.2⟩) (fun b o _ _ hc e _ => k b o hc e) (fun b o _ _ hc e _ => ⟨o.slots, k b o hc e⟩)
    (fun b o hc _ n => (upd_ne fun z : b = T => hc (z ▸ hT)).trans n) (fun b o hc e => ⟨o, k b o hc e⟩) (fun b xs e => up b _ e) (fun b o u e => up b _ e) (fun b ps e => ⟨#[], by rw [up b _ e, Array.append_empty]⟩) (fun m hm => ?_) (fun b u e => ?_) I.bare
  · obtain ⟨o, es, ep, ho, r⟩ := hm
    exact ⟨o, es, ep, k _ o (fun z => (hf _ z).2.1 rfl) ho, r⟩
  · by_cases hb : b = T
    · rw [hb, upd_same] at e
      rw [hb, ← Option.some.inj e]
      exact new
    · rw [upd_ne hb] at e
      refine (I.hok b u e).stay (fun c v hc q => k c v ?_ q) (fun c q => up c _ q) fun c xs q => up c _ q
      rcases hc with z | z
      · exact z ▸ off b u e
      · exact off c _ z
end
end P38

set_option Elab.async false
set_option linter.all false
set_option maxRecDepth 100000
set_option maxHeartbeats 4000000
namespace P38
open PySem PySem.Spec PyProof.Rows L2
theorem dpAll_len {K : PySem.W.Frag} {H : Hp} : ∀ {vs : List V} {ds : List PyData}, DpAll K H vs ds → vs.length = ds.length
  | _, _, .nil => rfl
  | _, _, .cons _ t => congrArg Nat.succ (dpAll_len t)
/-- a record thrown away is none -/
theorem freed_none {h : Heap} {a : Addr} {o : Obj} (e : h.get? a = some o) : (h.update a fun o => { o with data := .freed }).get? a = none := by
  obtain ⟨objs, l⟩ := h
  show (match (objs.modify a fun o => { o with data := .freed })[a]? with | some ⟨_, _, .freed, _⟩ => none | o => o) = none
  rw [Array.getElem?_modify, if_pos rfl]
  cases objs[a]? <;> rfl
section
variable {X : Cx} {pins : List (Addr × Obj)} {σ : L2.St} {H : Hp} {s : Shared} {E : Value → Shared → Prop}
/-- a record of ours, pinned -/
theorem pin_one {b : Addr} {ob : Obj} (I : Inv X pins σ H s) (f : FpOk X pins H b) (e : s.heap.get? b = some ob) (d : ∀ v, ob.data ≠ .cell v) : Inv X (pins ++ [(b, ob)]) σ H s :=
  I.pins_of fun p hp => (List.mem_append.mp hp).elim (fun z => I.pin p (List.mem_append_right _ z)) fun z => by
    rw [List.mem_singleton.mp z]
    exact ⟨e, f.1, f.2.1, f.2.2.1, d⟩
theorem fp_more {b c : Addr} {ob : Obj} (f : FpOk X pins H b) (h : c ≠ b) : FpOk X (pins ++ [(c, ob)]) H b :=
  ⟨f.1, f.2.1, f.2.2.1, f.2.2.2.1, f.2.2.2.2.1, fun p hp => by
    rw [← List.append_assoc] at hp
    rcases List.mem_append.mp hp with z | z
    · exact f.2.2.2.2.2 p z
    · rw [List.mem_singleton.mp z]
      exact h⟩
theorem fp_at {b : Addr} {H' : Hp} (f : FpOk X pins H b) (n : H' b = none) : FpOk X pins H' b := ⟨n, f.2⟩
/-- the keys are made one by one, the items then sorted by them -/
theorem sort_core {a q : Addr} {fo : Obj} {xs : List V} {vs : List Value} {kz : List PyData} {n : Nat} {P : PySem.Fin → Shared → Prop} (I : Inv X pins σ H s) (ha : FpOk X pins H a)
    (ho : s.heap.get? a = some (seqObj "list" vs.toArray n)) (hf : s.heap.get? q = some fo) (hfd : ∀ v, fo.data ≠ .cell v) (hq : H q = none ∧ q ≠ X.env.locals ∧ q ∉ X.fs) (hqa : q ≠ a) (r : Vals xs vs) (hZ : vs.length ≤ sizeLine)
    (hlen : kz.length = vs.length) (hal : PySem.W.AllAlike kz) (hsk : PySem.W.Sortable kz) (hu : ∀ d, d ∈ kz → X.A.in1.in1.units + d.depth < cLine)
    (turn : ∀ (i : Nat) (x : V) (v : Value) (d : PyData) (H' : Hp) (s' : Shared) (pl : List (Addr × Obj)), xs[i]? = some x → kz[i]? = some d → RelV x v → Inv X pl σ H' s' → Same H H' → (q, fo) ∈ pl →
      wpAny (model X.prog X.w) X.A.in1.in1 (call (.ref q) [v]) (EP X pl σ fun y H'' => Same H' H'' ∧ Dp X.K H'' y d) (fun _ _ => False) s')
    (fin : ∀ (ys : List V) (H' : Hp) (s' : Shared), ys.Perm xs → Same H H' → H' a = none → Inv X pins σ (upd H' a (.lst ys)) s' → P (.done (.ret .none)) s') :
    wpAny (model X.prog X.w) X.A.in1.in1 (ksk_tree a (.ref q) false) P E s := by
  have lta : a < s.heap.objs.size := Heap.lt_size ho
  have ltq : q < s.heap.objs.size := Heap.lt_size hf
  obtain ⟨e1, ho1⟩ : ∃ e1, (s.heap.update a (Obj.mapSeq fun _ => (#[] : Array Value))).get? a = some (seqObj "list" #[] e1) := ⟨_, get?_update_seq ho fun _ => #[]⟩
  unfold ksk_tree
  refine wpAny_bind (listItems_at ho rfl (wpAny_bind (listUpdate_at ho rfl ?_ (by rw [List.size_toArray]; exact hZ) (Nat.zero_le _))))
  refine wpAny_bind (seqEpoch_at ho1 rfl (wpAny_bind (wpAny_newTuple ?_ (by show vs.length ≤ _; exact hZ))))
  refine wpAny_bind (wpAny_newList (wpAny_holding ?_) (Nat.zero_le _))
  -- the state in which the keys are made
  show wpAny (model X.prog X.w) X.A.in1.in1 (ksk_rest a (.ref q) false vs.toArray e1 (.ref ((s.heap.update a (Obj.mapSeq fun _ => (#[] : Array Value))).push (seqObj "tuple" vs.toArray 0)).objs.size)) P E { s with heap := ((s.heap.update a (Obj.mapSeq fun _ => (#[] : Array Value))).push (seqObj "tuple" vs.toArray 0)).push (seqObj "list" #[] 0) }
  generalize hg2 : (s.heap.update a (Obj.mapSeq fun _ => (#[] : Array Value))).push (seqObj "tuple" vs.toArray 0) = g2
  have z2 : g2.objs.size = s.heap.objs.size + 1 := by rw [← hg2, size_push', Heap.size_update]
  have I1 : Inv X pins σ H { s with heap := s.heap.update a (Obj.mapSeq fun _ => (#[] : Array Value)) } :=
    I.turned (t' := s.toks) (fun b o hb e => (Heap.get?_update_ne _ _ _ _ hb).trans e) ha.1 ha.2.1 ha.2.2.2.1 ha.2.2.2.2.1 ha.2.2.2.2.2
  have I2 : Inv X pins σ H { s with heap := g2.push (seqObj "list" #[] 0) } := by
    rw [← hg2]
    exact (I1.kept (t' := s.toks) fun b o e => Heap.get?_push_of_some _ e).kept (t' := s.toks) fun b o e => Heap.get?_push_of_some _ e
  have oq : (g2.push (seqObj "list" #[] 0)).get? q = some fo := by
    rw [← hg2]
    exact Heap.get?_push_of_some _ (Heap.get?_push_of_some _ ((Heap.get?_update_ne _ _ _ _ hqa).trans hf))
  have oa : (g2.push (seqObj "list" #[] 0)).get? a = some (seqObj "list" #[] e1) := by
    rw [← hg2]
    exact Heap.get?_push_of_some _ (Heap.get?_push_of_some _ ho1)
  have ok : (g2.push (seqObj "list" #[] 0)).get? g2.objs.size = some (seqObj "list" #[] 0) := Heap.get?_push_size _ rfl
  have nk : FpOk X pins H g2.objs.size := I.fpOk (by rw [z2]; exact Nat.le_succ _) (I.hok.fresh (by rw [z2]; exact Nat.le_succ _))
  have nqk : q ≠ g2.objs.size := by rw [z2]; exact Nat.ne_of_lt (Nat.lt_succ_of_lt ltq)
  have nak : a ≠ g2.objs.size := by rw [z2]; exact Nat.ne_of_lt (Nat.lt_succ_of_lt lta)
  generalize g2.objs.size = k at ok nk nqk nak
  generalize hs0 : ({ s with heap := g2.push (seqObj "list" #[] 0) } : Shared) = s0 at I2
  have oq0 : s0.heap.get? q = some fo := by rw [← hs0]; exact oq
  have oa0 : s0.heap.get? a = some (seqObj "list" #[] e1) := by rw [← hs0]; exact oa
  have ok0 : s0.heap.get? k = some (seqObj "list" #[] 0) := by rw [← hs0]; exact ok
  clear hs0 oq oa ok hg2 z2 I1
  have J0 : Inv X (pins ++ [(q, fo)]) σ H s0 := I2.pins_of fun p hp => (List.mem_append.mp hp).elim (fun z => I2.pin p (List.mem_append_right _ z)) fun z => by
    rw [List.mem_singleton.mp z]
    exact ⟨oq0, hq.1, hq.2.1, hq.2.2, hfd⟩
  have fa : FpOk X (pins ++ [(q, fo)]) H a := fp_more ha hqa
  have fk : FpOk X (pins ++ [(q, fo)]) H k := fp_more nk nqk
  have J1 : Inv X ((pins ++ [(q, fo)]) ++ [(a, seqObj "list" #[] e1)]) σ H s0 := pin_one J0 fa oa0 fun _ => nofun
  have fk1 : FpOk X ((pins ++ [(q, fo)]) ++ [(a, seqObj "list" #[] e1)]) H k := fp_more fk nak
  have J2 := pin_one J1 fk1 ok0 fun _ => nofun
  unfold ksk_rest
  refine wpAny_bind (wpAny_rule ?_)
  first
    | rw [List.forIn_toArray]
    | (rw [← Array.forIn_toList]; simp only [List.toList_toArray])
    | rw [← Array.forIn_toList]
  refine wpAny_bind (ksk_fold (fun i s' => ∃ (H' : Hp) (ks : List V) (kA : Array Value) (e : Nat), Inv X (((pins ++ [(q, fo)]) ++ [(a, seqObj "list" #[] e1)]) ++ [(k, seqObj "list" kA e)]) σ H' s' ∧ Same H H' ∧ Vals ks kA.toList ∧ DpAll X.K H' ks (kz.take i)) vs 0 s0
    ⟨H, [], #[], 0, J2, Same.refl _, .nil, by rw [List.take_zero]; exact .nil⟩ ?step ?done)
  case step =>
    rintro j v s' hv ⟨H', ks, kA, e, J, sm, rk, dk⟩
    simp only [Nat.zero_add] at dk ⊢
    have hj : j < vs.length := (List.getElem?_eq_some_iff.mp hv).1
    obtain ⟨d, hd⟩ : ∃ d, kz[j]? = some d := ⟨_, List.getElem?_eq_getElem (by omega)⟩
    obtain ⟨x, hx⟩ : ∃ x, xs[j]? = some x := ⟨_, List.getElem?_eq_getElem (by rw [r.length]; exact hj)⟩
    obtain ⟨v', hv', rv⟩ := r.get hx
    obtain rfl : v = v' := Option.some.inj (hv.symm.trans hv')
    have lk : kA.size ≤ vs.length := by
      have l1 := rk.length
      have l2 := dpAll_len dk
      rw [List.length_take] at l2
      have l3 : kA.toList.length = kA.size := Array.length_toList
      omega
    refine wpAny_bind (wpAny_attempt (wpAny_mono (turn j x v d H' s' _ hx hd rv J sm (by simp)) (fun u s'' he => ?_) fun _ _ hF => hF.elim))
    obtain ⟨y, H'', J', ry, sm', dy⟩ := he
    have pk := J'.pin (k, seqObj "list" kA e) (by simp)
    try dsimp only
    obtain ⟨c2, hc2⟩ : ∃ c2, (s''.heap.update k (Obj.mapSeq (·.push u))).get? k = some (seqObj "list" (kA.push u) c2) := ⟨_, get?_update_seq pk.1 (·.push u)⟩
    refine wpAny_bind (listUpdate_at pk.1 rfl ?_ (Nat.le_trans lk hZ) (Nat.le_trans (Nat.le_of_eq (Array.size_push ..)) (Nat.succ_le_succ (Nat.le_trans lk hZ))))
    have J3 := J'.unpinned
    have f3 : FpOk X ((pins ++ [(q, fo)]) ++ [(a, seqObj "list" #[] e1)]) H'' k := fp_at fk1 pk.2.1
    have J4 : Inv X ((pins ++ [(q, fo)]) ++ [(a, seqObj "list" #[] e1)]) σ H'' { s'' with heap := s''.heap.update k (Obj.mapSeq (·.push u)) } :=
      J3.turned (t' := s''.toks) (fun b o hb e => (Heap.get?_update_ne _ _ _ _ hb).trans e) f3.1 f3.2.1 f3.2.2.2.1 f3.2.2.2.2.1 f3.2.2.2.2.2
    have J5 := pin_one J4 f3 hc2 fun _ => nofun
    have et : kz.take (j + 1) = kz.take j ++ [d] := by rw [List.take_add_one, hd]; rfl
    refine wpAny_pure ⟨rfl, H'', ks ++ [y], kA.push u, c2, J5, sm.trans sm', ?_, ?_⟩
    · rw [Array.toList_push]
      exact rk.append (.cons ry .nil)
    · rw [et]
      exact dpAll_snoc dy (dpAll_ext sm' _ _ dk)
  case done =>
    rintro s' ⟨H', ks, kA, e, J, sm, rk, dk⟩
    have tk : kz.take (0 + vs.length) = kz := List.take_of_length_le (by omega)
    rw [tk] at dk
    have pk := J.pin (k, seqObj "list" kA e) (by simp)
    have pa := J.pin (a, seqObj "list" #[] e1) (by simp)
    have ek := dp_each J kz ks kA.toList dk rk
    have lk : kA.size = vs.length := by
      have l1 := ek.length
      rw [Array.length_toList] at l1
      omega
    refine wpAny_bind (listItems_at pk.1 rfl ?_)
    have hk0 := freed_none pk.1
    have kp : PySem.W.KeepsBut a (s'.heap.update k fun o => { o with data := .freed }) s'.heap := fun b o hb e => by
      have nb : b ≠ k := fun z => by rw [z, hk0] at e; cases e
      rwa [Heap.get?_update_ne _ _ _ _ nb] at e
    refine PySem.W.keyH_end (κ := PySem.W.dataKind s'.heap kz) (h₁ := s'.heap.update k fun o => { o with data := .freed }) kp hk0 pk.1 pa.1 (Ne.symm nak) (PySem.W.SortsAt.data ek hal hsk hu) lk hZ fun h3 tk3 c k3 n3 => ?_
    have K1 : Inv X pins σ H' s' := J.unpinned.unpinned.unpinned
    obtain ⟨ys, ry, py⟩ := vals_perm (sorted_perm (κ := PySem.W.dataKind s'.heap kz) (b := false) (ks := kA.toList) (by rw [Array.length_toList]; exact lk)) r
    have ch : ∀ b ∈ [a, k], FpOk X pins H' b := fun b hb => by
      rcases List.mem_cons.mp hb with z | z
      · rw [z]
        exact fp_at ha pa.2.1
      · rw [List.mem_singleton.mp z]
        exact fp_at nk pk.2.1
    refine fin ys H' _ py sm pa.2.1 (turned_known (t' := tk3) (ch := [a, k]) (T := a) K1 (fun b o hb e => ?_) ch (by simp) ?_)
    · have n1 : b ≠ a := fun z => hb (by simp [z])
      have n2 : b ≠ k := fun z => hb (by simp [z])
      exact k3 b o n1 (by rw [Heap.get?_update_ne _ _ _ _ n2]; exact e)
    · refine ⟨?_, _, c, ry, n3⟩
      rw [py.length_eq, r.length]
      exact hZ
end
end P38

set_option Elab.async false
set_option linter.all false
set_option maxRecDepth 100000
set_option maxHeartbeats 4000000
namespace P38
open PySem PySem.Spec PyProof.Rows L2
section
variable {prog : Program} {w : World} {A : Around} {E : Value → Shared → Prop} {s : Shared}
/-- sorted(x, key=f): the items of x, then list.sort on a new list of them -/
theorem sorted_any {l : Addr} {f : Value} {C : List Value → Prop} {Q : Value → Shared → Prop} (hL : ∀ vs, C vs → vs.length ≤ sizeLine)
    (hcoll : ∀ (E' : Value → Shared → Prop) (R : List Value → Shared → Prop), (∀ vs h' tk, C vs → (∀ b o, s.heap.get? b = some o → h'.get? b = some o) → R vs { s with heap := h', toks := tk }) → wpAny (model prog w) A.in1 (collect (.ref l)) R E' s)
    (body : ∀ (E' : Value → Shared → Prop) (vs : List Value) (h' : Heap) (tk : Nat), C vs → (∀ b o, s.heap.get? b = some o → h'.get? b = some o) →
      wpAny (model prog w) A.in1.in1 (Builtin.«list.sort» ⟨[.ref h'.objs.size], [(Str.ofString "key", f)]⟩) (fun r s' => r = .done (.ret .none) ∧ Q (.ref h'.objs.size) s') E' { s with heap := h'.push (seqObj "list" vs.toArray 0), toks := tk }) :
    wpAny (model prog w) A (call (.builtin "sorted") [.ref l] [(Str.ofString "key", f)]) Q E s := by
  refine call_function_entry_kw kind_sorted plain_sorted entry_sorted (ksk_s1 _ _) ?_
  unfold Builtin.«sorted»
  refine wpAny_bind (m := checkCount "sorted" 1 1 _) (wpAny_pure ?_)
  refine wpAny_bind (hcoll _ _ fun vs h' tk hC kp => wpAny_bind (wpAny_newList ?_ (hL vs hC)))
  have hat : (h'.push (seqObj "list" vs.toArray 0)).get? h'.objs.size = some (seqObj "list" vs.toArray 0) := Heap.get?_push_size _ rfl
  refine wpAny_bind (wpAny_holding (wpAny_call_entry_kw (s := { s with heap := h'.push (seqObj "list" vs.toArray 0), toks := tk }) slot_list_sort ⟨_, hat, rfl⟩ entry_list_sort ?_ (ksk_l1 _ _)))
  refine wpAny_mono (body _ vs h' tk hC kp) (fun r s' hr => ?_) fun _ _ e => e
  obtain ⟨rfl, hq⟩ := hr
  exact ⟨_, rfl, wpAny_pure ⟨_, rfl, hq⟩⟩
end
section
variable {X : Cx} {pins : List (Addr × Obj)} {σ : L2.St} {H : Hp} {s : Shared} {E : Value → Shared → Prop}
theorem fp_kept {b : Addr} (I : Inv X pins σ H s) (hb : s.heap.objs.size ≤ b) : FpOk X pins H b := I.fpOk hb (I.hok.fresh hb)
/-- sorted(x, key=f) within a def, f a function that was just made -/
theorem sorted_in {l q : Addr} {fo : Obj} {xs : List V} {kz : List PyData} {Q : VK} (hc : X.calm = true) (I : Inv X pins σ H s) (hx : SqL X.K H l xs ∨ ∃ kvs, Rd H l (.dK kvs) ∧ xs = kvs.map fun kv => kV kv.1)
    (hf : s.heap.get? q = some fo) (hfd : ∀ v, fo.data ≠ .cell v) (hq : H q = none ∧ q ≠ X.env.locals ∧ q ∉ X.fs) (hlen : kz.length = xs.length) (hal : PySem.W.AllAlike kz) (hsk : PySem.W.Sortable kz) (hu : ∀ d, d ∈ kz → X.A.in1.in1.units + d.depth < cLine)
    (turn : ∀ (i : Nat) (x : V) (v : Value) (d : PyData) (H' : Hp) (s' : Shared) (pl : List (Addr × Obj)), xs[i]? = some x → kz[i]? = some d → RelV x v → Inv X pl σ H' s' → Same H H' → (q, fo) ∈ pl →
      wpAny (model X.prog X.w) X.A.in1.in1 (call (.ref q) [v]) (EP X pl σ fun y H'' => Same H' H'' ∧ Dp X.K H'' y d) (fun _ _ => False) s')
    (fin : ∀ (ys : List V) (p : Addr) (H' : Hp), ys.Perm xs → Same H H' → H p = none → H' p = some (.lst ys) → Q (.ref p) H') :
    wpAny (model X.prog X.w) X.A (call (.builtin "sorted") [.ref l] [(Str.ofString "key", .ref q)]) (EP X pins σ Q) E s := by
  have ltq : q < s.heap.objs.size := Heap.lt_size hf
  have hh : X.A.handled = none := I.ok.hd hc
  refine sorted_any (C := fun vs => Vals xs vs ∧ vs.length ≤ sizeLine) (fun vs h => h.2) (fun E' R h => ?_) fun E' vs h' tk ⟨r, hz⟩ kp => ?_
  · rcases hx with hx | ⟨kvs, hd, rfl⟩
    · obtain ⟨its, rv, pl, hz⟩ := I.list hx
      exact collect_list pl.isList (h its _ s.toks ⟨rv, by rw [← rv.length]; exact hz⟩ fun b o e => (Heap.get?_update_ne _ _ _ _ (Nat.ne_of_lt (Heap.lt_size e))).trans (Heap.get?_push_of_some _ e)) (by rw [← rv.length]; exact hz)
    · obtain ⟨hz, hs0, vs, kv, hdo⟩ := dk_rd I.hok hd
      obtain ⟨ep, hat⟩ := hdo.dictAt
      have lk : kvs.length = vs.length := Paired.length kv
      refine PySem.W.kdu_collect (PySem.W.kdl_dict (knd := mixKind X.prog X.w) (kvs := vs) (ep := ep) hs0) hh hat (by omega) fun h' tk acc hk ha => h acc.toList h' tk ⟨?_, by rw [Array.length_toList, ha.1]; omega⟩ hk
      have la : acc.toList.length = vs.length := Array.length_toList.trans ha.1
      refine vals_of_at (by rw [List.length_map, la, lk]) fun j x u h1 h2 => ?_
      obtain ⟨k, y, e1, e2⟩ := ha.2 j u (by rw [← Array.getElem?_toList]; exact h2)
      have e3 : (kvs.map (·.1))[j]? = some k := by
        rw [KV.keys kv, List.getElem?_map, e1]
        rfl
      rw [show (kvs.map fun kv => kV kv.1) = (kvs.map (·.1)).map kV by rw [List.map_map]; rfl, List.getElem?_map, e3] at h1
      obtain rfl : kV k = x := by simpa using h1
      exact keyIs_rel e2
  · have I1 : Inv X pins σ H { s with heap := h', toks := tk } := I.kept kp
    have fa : FpOk X pins H h'.objs.size := fp_kept I1 (Nat.le_refl _)
    have I2 : Inv X pins σ H { s with heap := h'.push (seqObj "list" vs.toArray 0), toks := tk } := I1.kept (t' := tk) fun b o e => Heap.get?_push_of_some _ e
    have hq' := kp q fo hf
    rw [ksk_t1]
    refine sort_core (n := 0) I2 fa (Heap.get?_push_size _ rfl) (Heap.get?_push_of_some _ hq') hfd hq (Nat.ne_of_lt (Heap.lt_size hq')) r hz (by rw [hlen, r.length]) hal hsk hu turn fun ys H' s' py sm na J => ⟨rfl, ?_⟩
    exact ⟨.ref _, upd H' h'.objs.size (.lst ys), J, rfl, fin ys _ _ py (sm.trans fun b o e => (upd_ne (ne_of_none e na)).trans e) fa.1 upd_same⟩
end
end P38

set_option Elab.async false
set_option linter.all false
set_option maxRecDepth 100000
set_option maxHeartbeats 4000000
namespace P38
open PySem PySem.Spec PyProof.Rows L2 LamX NdefX
/-- a lambda's words, as those of a function within a def -/
abbrev lamF (qual : Str) (params : Arguments) (scope : Scope) (cl : List (Str × Addr)) (c' : Addr) : NF := ⟨"<lambda>", qual ++ "<lambda>", params, [], scope, cl, c'⟩
section
variable {X : Cx} {pl : List (Addr × Obj)} {σ : L2.St} {H : Hp} {s : Shared}
/-- the lambda's body runs, two builtins deep -/
theorem lam_turn {q c' : Addr} {pm ctv : Value} {params : Arguments} {body : Expr} {scope : Scope} {N fr : List Str} {a : Str} {js : List Nat} {k : Nat} {tb : TE} {x : V} {v : Value} {Q : VK}
    (I : Inv X pl σ H s) (S : NScope N [a] fr scope) (hf : s.heap.get? q = some (PySem.W.kla_obj "<lambda>" (X.env.qual ++ "<lambda>") params body scope (cloFrom X.env.cells scope.names []) pm c' ctv)) (hc' : H c' = some (CodeO c' (X.env.qual ++ "<lambda>")))
    (hbind : ∀ (qu : Str) (cl : List (Str × Addr)) (pm cv ctv u : Value), bindArgs (PySem.W.kla_fn "<lambda>" qu params body scope cl pm cv ctv) ⟨[u], []⟩ = pure [(a, u)])
    (cp : Caps X (cloFrom X.env.cells scope.names []) fr js) (hr : Room (k + 3) X.A)
    (hbody : ∀ (A : Around) (outer : List Env) (s : Shared) (H : Hp) (f c' : Addr) (cl : List (Str × Addr)), Room k (A.deeper (envF (lamF X.env.qual params scope cl c') f s.heap.objs.size)) →
      PE (ncx CX0 X.prog X.w X.K X.mg X.base N (lamF X.env.qual params scope cl c') f A outer s H E0) body tb)
    (rx : RelV x v) (ht : tb (startF N [x] (js.map (slotAt σ))) H Q) : wpAny (model X.prog X.w) X.A.in1.in1 (call (.ref q) [v]) (EP X pl σ Q) (fun _ _ => False) s := by
  have hr2 : Room (k + 1) X.A.in1.in1 := hr.in1.in1
  have e0 : Env0 X.prog X.w X.K X.mg X.base X.A.in1.in1 X.stack s H := I.env0.in1.in1
  obtain ⟨⟨oc, vs, t, hoc, hdc, hvc⟩, _, _⟩ := I.hok c' _ hc'
  have rc : codeAny (model X.prog X.w) X.A.in1.in1 (.call (.ref q) ⟨[v], []⟩) (CR CX0 X.stack X.prog X.w H s Q E0) s := by
    refine PySem.W.kla_callFunE hr2.depth hf rfl S.co S.gen rfl ⟨c', oc, vs, t, rfl, hoc, hdc, hvc⟩ ?_
    rw [hbind]
    refine wpAny_pure (wpAny_newFunctionEnv S.nocell (fun y hy => ?_) (fun h₁ hns hsb => ⟨I.nolimit.fresh _ hsb, ?_⟩) S.kind)
    · rw [List.mem_singleton.mp hy]
      exact S.par a (by simp)
    · show codeAny _ _ (.expr body (envF (lamF X.env.qual params scope (cloFrom X.env.cells scope.names []) c') q s.heap.objs.size)) _ _
      have kp : ∀ b o, s.heap.get? b = some o → h₁.get? b = some o := fun b o e => hsb.extBut b o (Nat.ne_of_lt (Heap.lt_size e)) (Heap.get?_push_of_some _ e)
      have J := inv_startN (CX := CX0) (E := E0) (f := q) (F := lamF X.env.qual params scope (cloFrom X.env.cells scope.names []) c') (us := [v]) (vs := [x]) (tk := s.toks + ([(a, v)] : List (Str × Value)).length) S hr2.hd e0 rfl (.cons rx .nil) (cells_of I cp) hns kp
      refine PySem.W.kla_codeExpr (wpAny_mono ((hbody X.A.in1.in1 X.stack s H q c' (cloFrom X.env.cells scope.names []) (hr2.deeper _)).run [] _ _ H Q J ht) (fun u s' hq => ?_) fun e s' hq => hq)
      obtain ⟨w', H', J', rv, q1⟩ := hq
      exact ⟨w', H', J'.os, J'.bare, J'.base, J'.hok, rv, q1⟩
  refine wpAny_call (codeAny_mono rc fun r s' hq => ?_)
  cases r with
  | error e => exact hq
  | ok fl =>
    cases fl with
    | ret u => exact I.after hq
    | next => exact False.elim hq
    | brk => exact False.elim hq
    | cont => exact False.elim hq
end
/-- sorted(x, key=lambda a: body): some order of the items; the lambda's code object may be noted in its table -/
def rSortLam (K : PySem.W.Frag) (T : List (Addr × Str)) (N : List Str) (js : List Nat) (tb : TE) (σ : L2.St) (Q : VK) : VK := fun x H1 => ∃ (a : Addr) (xs : List V) (kz : List PyData), x = .ref a ∧ (SqL K H1 a xs ∨ ∃ kvs, Rd H1 a (.dK kvs) ∧ xs = kvs.map fun kv => kV kv.1) ∧ Tabs T H1 ∧
  kz.length = xs.length ∧ PySem.W.AllAlike kz ∧ PySem.W.Sortable kz ∧ (∀ d, d ∈ kz → d.depth ≤ 8) ∧
  (∀ (i : Nat) (x : V) (d : PyData) (H2 : Hp), xs[i]? = some x → kz[i]? = some d → ExtN H1 H2 → tb (startF N [x] (js.map (slotAt σ))) H2 fun y H3 => Same H2 H3 ∧ Dp K H3 y d) ∧
  ∀ (ys : List V) (p : Addr) (H' : Hp), ys.Perm xs → ExtN H1 H' → Tabs T H' → (∀ o, H1 p = some o → ∃ ps, o = .tbl ps) → H' p = some (.lst ys) → Q (.ref p) H'
def tSortLam (K : PySem.W.Frag) (T : List (Addr × Str)) (N : List Str) (js : List Nat) (te tb : TE) : TE := fun σ H Q => te σ H (rSortLam K T N js tb σ Q)
def oneV (R : VK) : List V → Hp → Prop := fun vs H => match vs with
  | [x] => R x H
  | _ => False
theorem kla_nocell {name qual : Str} {params : Arguments} {body : Expr} {scope : Scope} {cl : List (Str × Addr)} {pm ctv : Value} {c' : Addr} : ∀ v, (PySem.W.kla_obj name qual params body scope cl pm c' ctv).data ≠ .cell v := fun _ => nofun
theorem rd_extN {H H' : Hp} {a : Addr} {u : HO} (e : ExtN H H') (n : ∀ ps, u ≠ .tbl ps) (h : Rd H a u) : Rd H' a u := h.elim (fun z => .inl (e _ _ z n)) fun ⟨o, z⟩ => .inr ⟨o, e _ _ z fun _ => nofun⟩
theorem sqL_extN {K : PySem.W.Frag} {H H' : Hp} {a : Addr} {xs : List V} (e : ExtN H H') (h : SqL K H a xs) : SqL K H' a xs := h.elim (fun z => .inl (rd_extN e (fun _ => nofun) z)) .inr
section
variable {X : Cx}
theorem pe_sortLam {T : List (Addr × Str)} {c P : Addr} {e body : Expr} {te tb : TE} {params : Arguments} {scope : Scope} {N fr : List Str} {a : Str} {js : List Nat} {k : Nat} {p lpos kpos pos : Pos}
    (hc : X.calm = true) (ha : PA X [e] (tCons te tNil)) (hg : Gl X "sorted") (hm : X.mg "sorted" = none) (TB : TabB X.base X.mg c P) (hcode : X.env.code = .ref c) (hmT : (P, X.env.qual ++ "<lambda>") ∈ T) (hu : ∀ t ∈ T, t.1 = P → t.2 = X.env.qual ++ "<lambda>")
    (hdef : defaultsOf params X.env = ([], [])) (S : NScope N [a] fr scope)
    (hbind : ∀ (qu : Str) (cl : List (Str × Addr)) (pm cv ctv u : Value), bindArgs (PySem.W.kla_fn "<lambda>" qu params body scope cl pm cv ctv) ⟨[u], []⟩ = pure [(a, u)])
    (hfree : ∀ y ∈ scope.names, y.2 = .free → X.env.scope.names.lookup y.1 = some .cell ∨ X.env.scope.names.lookup y.1 = some .free) (hfr : ∀ y ∈ fr, (y, NameKind.free) ∈ scope.names) (hjs : js.map (fun j => X.N[j]?) = fr.map some) (hr : Room (k + 3) X.A)
    (hbody : ∀ (A : Around) (outer : List Env) (s : Shared) (H : Hp) (f c' : Addr) (cl : List (Str × Addr)), Room k (A.deeper (envF (lamF X.env.qual params scope cl c') f s.heap.objs.size)) →
      PE (ncx CX0 X.prog X.w X.K X.mg X.base N (lamF X.env.qual params scope cl c') f A outer s H E0) body tb)
    (hs : backTo pos (starEach [e] X.env) = (false, eval e X.env) :: backTo pos (starEach [] X.env) := by rfl) (hpl : (backTo pos (starEach [e] X.env)).any (·.1) = false := by rfl) :
    PE X (.Call (.Name "sorted" p) [e] [⟨some "key", .Lambda params body scope lpos, kpos⟩] pos) (tSortLam X.K T N js te tb) := by
  refine ⟨fun pins s σ H Q I h => ?_⟩
  refine wpAny_Call_Name_kw (ld_blt I hg hm (by decide +kernel : bootBuiltins "sorted" = some (.builtin "sorted")) ?_)
  refine PyProof.Rows.callWith_kw ?_ hs hpl rfl rfl
  refine thn (ha.run pos pins s σ H (oneV (rSortLam X.K T N js tb σ Q)) I h) fun us s1 ⟨xs0, H1, I1, r1, q1⟩ => ?_
  match xs0, r1, q1 with
  | [x0], r1, q1 => ?_
  obtain ⟨b, xs, kz, ex, hx, hT, hlen, hal, hsk, hd, hturn, hend⟩ := q1
  subst ex
  show wpAny _ _ (evalAll ((do let v ← eval (.Lambda params body scope lpos) X.env; standAt pos; pure v) :: [])) _ _ s1
  refine wpAny_evalAll_cons (wpAny_bind (lam_make2 I1 TB hcode hmT hu hT hdef (fun y hy e => (hfree y hy e).elim (fun z => I1.ok.has _ (.inl z)) fun z => I1.ok.has _ (.inr z)) fun q c' pm ctv H2 s2 I2 e2 T2 hf hq hqs hc' => ?_))
  refine wpAny_bind (wpAny_standAt (wpAny_pure (wpAny_evalAll_nil ?_)))
  obtain rfl := Vals.ref1 r1
  show wpAny _ _ (call (.builtin "sorted") [.ref b] [(Str.ofString "key", .ref q)]) _ _ s2
  have hx2 : SqL X.K H2 b xs ∨ ∃ kvs, Rd H2 b (.dK kvs) ∧ xs = kvs.map fun kv => kV kv.1 := hx.elim (fun z => .inl (sqL_extN e2 z)) fun ⟨kvs, z, ez⟩ => .inr ⟨kvs, rd_extN e2 (fun _ => nofun) z, ez⟩
  have nq : q ≠ X.env.locals ∧ q ∉ X.fs := by
    have n1 : q ≠ X.env.locals := fun z => by
      obtain ⟨m, ⟨o, es, ep, ho, hx, _⟩, _⟩ := I2.loc
      rw [← z, hf] at ho
      rw [← Option.some.inj ho] at hx
      exact nomatch hx
    refine ⟨n1, fun z => ?_⟩
    rcases I2.ok.stk with e | ⟨e, _⟩
    · exact hqs (by rw [e]; exact z)
    · refine hqs ?_
      rw [e]
      unfold frs at z ⊢
      rw [List.filterMap_cons]
      split
      · exact z
      · exact List.mem_cons_of_mem _ z
  have un := hr.un
  refine sorted_in (fo := PySem.W.kla_obj "<lambda>" (X.env.qual ++ "<lambda>") params body scope (cloFrom X.env.cells scope.names []) pm c' ctv) hc I2 hx2 hf kla_nocell ⟨hq, nq⟩ hlen hal hsk (fun d hm => ?_) (fun i x v d H' s' pl hxi hdi rv J sm hp => ?_) fun ys p H' py sm n1 n2 => ?_
  · have := hd d hm
    show X.A.units + 1 + 1 + d.depth < cLine
    omega
  · have hf' := (J.pin _ (List.mem_append_right _ hp)).1
    exact lam_turn J S hf' (sm _ _ hc') hbind (Caps.made J.ok hfree hfr hjs) hr hbody rv (hturn i x d H' hxi hdi (e2.trans (ExtN.of sm)))
  · refine hend ys p H' py (e2.trans (ExtN.of sm)) (T2.ext sm) (fun o e => ?_) n2
    cases o with
    | tbl ps => exact ⟨ps, rfl⟩
    | _ => exact absurd ((e2 _ _ e fun _ => nofun).symm.trans n1) (by simp)
end
end P38

set_option Elab.async false
set_option linter.all false
set_option maxRecDepth 100000
set_option maxHeartbeats 4000000
namespace P38
open PySem PySem.Spec PyProof.Rows L2 LamX NdefX
/-- def __init__(self, ..): super().__init__(e1, e2) in the class at C: what the top has left of it -/
structure SupAt (P : Program) (K : PySem.W.Frag) (mg : Str → Option Value) (C f fP cc cda : Addr) (qual : Str) (params : Arguments) (body : List Stmt) (scope : Scope) (fd : FuncData) : Prop where
  fun_ : ∃ (oc dV kV doc pm ct : Value) (an od : Option Addr) (osl : Array (Option Value)), K.lookup f = some ⟨oc, od, .func fd, osl⟩ ∧ fd = PySem.W.fnX "__init__" qual params body scope [("__class__", cc)] dV kV doc pm an (.ref cda) ct
  named : PySem.W.codeIn K (.ref cda) qual = true
  code : ∃ (ccl : Value) (cdd : Option Addr) (ccs : Array (Option Value)) (cvs : Array Value) (file : Str) (tf : Tok), K.lookup cda = some ⟨ccl, cdd, .fields cvs, ccs⟩ ∧ cvs[2]? = some (.str file tf) ∧ ((P.main.file : Str) == file) = true
  cell : ∃ (cl : Value) (cld : Option Addr) (csl : Array (Option Value)), K.lookup cc = some ⟨cl, cld, .cell (some (.ref C)), csl⟩
  cls : ∃ cd, PySem.W.clsIn K C = some cd
  sub : PySem.W.mroIn K C (.ref C) = some true
  sup : mg "super" = none
  opa : PySem.W.nsIn K cStatics "thirdparty.any" = some none
  meth : PySem.W.ks_superIn K C C "__init__" = some (some (.ref fP))
  isfn : PySem.W.fnIn K fP = true
  typ : PySem.W.typeIn K (.ref fP) = some (.type "function")
  top : (P.main.scope.names.lookup ("super" : Str)).isSome = false
section
variable {P : Program} {w : World} {K : PySem.W.Frag} {mg : Str → Option Value} {base : Heap} {C f fP cc cda : Addr} {qual : Str} {params : Arguments} {scope : Scope} {fd fdP : FuncData} {k : Nat} {spP sp : Sp} {psP : List Str} {N : List Str} {a1 a2 : Str} {e1 e2 : Expr} {t : TA} {p0 p1 apos pos pos2 : Pos}
theorem ok_super (U : SupAt P K mg C f fP cc cda qual params [.Expr (.Call (.Attribute (.Call (.Name "super" p0) [] [] p1) "__init__" apos) [e1, e2] [] pos) pos2] scope fd)
    (S : NScope N ["self", a1, a2] ["__class__"] scope) (hnd : (["self", a1, a2] : List Str).Nodup) (hks : scope.names.lookup ("super" : Str) = some .globalImplicit) (hp : ∃ ar, (params.posonlyargs ++ params.args).head? = some ar ∧ ar.arg = "self")
    (FP : FnOk P w K mg base CX0 k fP fdP psP spP) (bP : Binds K fdP psP [])
    (ha : ∀ (A : Around) (outer : List Env) (s : Shared) (H : Hp) (Q : VK) (E : XK), Room (k + 1) (A.deeper (PySem.W.envX qual scope s.heap.objs.size f (.ref cda) [("__class__", cc)])) →
      PA (ncx CX0 P w K mg base N ⟨"__init__", qual, params, [], scope, [("__class__", cc)], cda⟩ f A outer s H E) [e1, e2] t)
    (he : ∀ L, starEach [e1, e2] (PySem.W.envX qual scope L f (.ref cda) [("__class__", cc)]) = (false, eval e1 (PySem.W.envX qual scope L f (.ref cda) [("__class__", cc)])) :: starEach [e2] (PySem.W.envX qual scope L f (.ref cda) [("__class__", cc)]))
    (hpl : ∀ L, (backTo pos (starEach [e2] (PySem.W.envX qual scope L f (.ref cda) [("__class__", cc)]))).any (·.1) = false)
    {pl : Env → Sem Bool} (hbase : ∀ (env : Env), eval (.Call (.Attribute (.Call (.Name "super" p0) [] [] p1) "__init__" apos) [e1, e2] [] pos) env = (do
      let ov ← attributeBase (.Call (.Name "super" p0) [] [] p1) "__init__" env (eval (.Call (.Name "super" p0) [] [] p1) env)
      standAt apos.atName
      let (f, first) ← holding [ov] (getMethod ov "__init__" (pl env))
      callWith pos f first (backTo pos (starEach [e1, e2] env)) []))
    (hsp : ∀ vs H Q E, sp vs H Q E → ∃ x dx fs y z, vs = [.ref x, y, z] ∧ H x = some (.ins C dx fs) ∧ t (startF N vs [some (.ref C)]) H fun ws H1 => spP (.ref x :: ws) H1 (fun _ H2 => Q .non H2) E0) :
    FnOk P w K mg base CX0 (k + 2) f fd ["self", a1, a2] sp := by
  refine ⟨fun vs H Q E h => by obtain ⟨x, dx, fs, y, z, rfl, _⟩ := hsp _ _ _ _ h; rfl, fun A outer s H args us vs Q E hr e0 hb r h => ?_⟩
  obtain ⟨x, dx, fs, y, z, rfl, hx, ht⟩ := hsp _ _ _ _ h
  obtain ⟨oc, dV, kV, doc, pm, ct, an, od, osl, lk, rfl⟩ := U.fun_
  obtain ⟨ccl, cdd, ccs, cvs, file, tf, lco, hvs, hfile⟩ := U.code
  obtain ⟨cl, cld, csl, lce⟩ := U.cell
  obtain ⟨cdC, hcd⟩ := U.cls
  obtain ⟨ar, har, ear⟩ := hp
  have KX : K.In s.heap := e0.mod.kin.keeps fun b o e => (e0.bs b o e).1
  have lim : s.heap.NoLimit := e0.mod.nolimit.keeps fun b o e => (e0.bs b o e).1
  obtain ⟨ux, uy, uz, rfl, rx⟩ : ∃ ux uy uz, us = [ux, uy, uz] ∧ ux = Value.ref x := by
    cases r with
    | cons h1 t => cases t with
      | cons h2 t => cases t with
        | cons h3 t => cases t; exact ⟨_, _, _, rfl, h1⟩
  subst rx
  have cellK : s.heap.IsCell cc (some (.ref C)) := ⟨_, KX _ _ lce, rfl⟩
  have nocc : H cc = none := (e0.bs cc _ (e0.mod.kin _ _ lce)).2
  have C0 : CellsAt [("__class__", cc)] ["__class__"] [some (.ref C)] s.heap H := by
    have only : ∀ y c, List.lookup y [(("__class__" : Str), cc)] = some c → c = cc ∧ y = "__class__" := fun y c e => by
      rw [List.lookup_cons] at e
      split at e
      · rename_i q
        exact ⟨(Option.some.inj e).symm, by simpa using q⟩
      · cases e
    refine ⟨rfl, fun y c e => ?_, fun y y' c e e' => by rw [(only y c e).2, (only y' c e').2], fun i y e => ?_⟩
    · rw [(only y c e).1]
      exact ⟨nocc, _, cellK⟩
    · cases i with
      | succ i => cases e
      | zero =>
        obtain rfl : "__class__" = y := by simpa using e
        refine ⟨cc, rfl, fun v ev => ?_⟩
        obtain rfl : V.ref C = v := by simpa using ev
        exact ⟨.ref C, rfl, cellK⟩
  refine ks_codeAny_call_defAt (body := [.Expr (.Call (.Attribute (.Call (.Name "super" p0) [] [] p1) "__init__" apos) [e1, e2] [] pos) pos2]) (binds := (["self", a1, a2] : List Str).zip [.ref x, uy, uz]) hr.depth (KX _ _ lk) rfl lim (PySem.W.codeRec_of KX U.named) rfl hb S.nocell
    (fun p hp => S.par p.1 (List.of_mem_zip hp).1) (fun h₀ hns kp => ?_) S.co S.gen S.kind
  have I := inv_startN (CX := CX0) (E := E0) (f := f) (F := ⟨"__init__", qual, params, [], scope, [("__class__", cc)], cda⟩) (us := [.ref x, uy, uz]) (vs := [.ref x, y, z]) (tk := s.toks + ((["self", a1, a2] : List Str).zip [Value.ref x, uy, uz]).length) S hr.hd e0 rfl r C0 hns kp
  have hrd := hr.deeper (PySem.W.envX qual scope s.heap.objs.size f (.ref cda) [("__class__", cc)])
  have hPA := ha A outer s H Q E0 hrd
  have J0 := I.kIn
  have KJ : K.In h₀ := J0
  show _root_.PySem.wpAt (model P w) (A.deeper (PySem.W.envX qual scope s.heap.objs.size f (.ref cda) [("__class__", cc)])) (.func _ (PySem.W.envX qual scope s.heap.objs.size f (.ref cda) [("__class__", cc)])) (execs _ (PySem.W.envX qual scope s.heap.objs.size f (.ref cda) [("__class__", cc)])) _ _ _
  have hkc : scope.names.lookup ("__class__" : Str) = some .free := S.frk "__class__" (by simp)
  have hkl : scope.names.lookup ("self" : Str) = some .local := S.par "self" (by simp)
  have hint : interactive (PySem.W.envX qual scope s.heap.objs.size f (.ref cda) [("__class__", cc)]) = false := I.quiet
  obtain ⟨mb, b1, b2⟩ := I.mod.blt
  obtain ⟨oD, hD1, hD2⟩ : ∃ oD, h₀.get? C = some oD ∧ oD.data = .cls cdC := by
    unfold PySem.W.clsIn at hcd
    split at hcd
    · rename_i ho
      cases hcd
      exact ⟨_, KJ _ _ ho, rfl⟩
    · cases hcd
  obtain ⟨odx, IA⟩ := inst_at I hx
  refine ks_wpAt_execs_cons (ks_wpAt_Expr_any (ks_wpAt_MethodCall (pl := pl _) (ks_wpAt_super_base hks hkc rfl rfl (KJ _ _ lk) rfl har rfl (KJ _ _ lco) rfl hvs hfile U.top ?_) (hbase _)) hint)
  refine PySem.W.ks_loadName_global S.kind hks (Calls.loadGlobal_builtin (I.mod.glob.keeps I.bk) U.sup (b1.keeps I.bk) ((b2 _ (by decide +kernel)).trans (by decide +kernel : bootBuiltins "super" = some (.type "super"))) ⟨rfl, ?_⟩)
  refine wpAny_loadName_free S.kind hkc rfl ⟨_, KJ _ _ lce, rfl⟩ ?_
  rw [ear]
  refine wpAny_loadName_local S.kind hkl hns (zip_look (i := 0) hnd rfl rfl) ?_
  refine ks_wpAny_isType_cls hD1 hD2 ⟨rfl, ?_⟩
  refine ks_wpAny_call_super hD1 hD2 IA.at_ IA.cls (fun c e => ?_) (PySem.W.looks_mroIn KJ U.sub) (fun h' e kp2 => ?_)
  · have nc := IA.no
    unfold PySem.W.notCls at nc
    rw [e] at nc
    exact Bool.noConfusion nc
  have I1 := I.kept (h' := h') (t' := s.toks + ((["self", a1, a2] : List Str).zip [Value.ref x, uy, uz]).length) kp2
  have KJ1 : K.In h' := I1.kIn
  obtain ⟨of, hof, hofc⟩ : ∃ of, h'.get? fP = some of ∧ of.cls = .type "function" := by
    have ty : (K.lookup fP).map (·.cls) = some (.type "function") := U.typ
    cases z : K.lookup fP with
    | none => rw [z] at ty; cases ty
    | some of => rw [z] at ty; exact ⟨of, KJ1 _ _ z, Option.some.inj ty⟩
  have hm := U.meth
  unfold PySem.W.ks_superIn at hm
  rw [hcd] at hm
  obtain ⟨odx1, IA1⟩ := inst_at I1 hx
  refine ks_wpAny_getMethod_super e (PySem.W.looks_opaque KJ1 U.opa) (l₀ := cdC.mro) (fun A Q E s k q => wpAny_bind ((PySem.W.looks_clsIn KJ1 hcd) A _ E s k (wpAny_pure q))) rfl KJ1 hm hof hofc (PySem.W.ks_ne KJ1 IA1 hcd) (by decide +kernel) ?_
  have I2 := I1.kept (h' := h'.push (PySem.W.methodObj (.ref fP) (.ref x))) (t' := s.toks + ((["self", a1, a2] : List Str).zip [Value.ref x, uy, uz]).length + 1) fun b o e => Heap.get?_push_of_some _ e
  have I3 := pin_one (b := h'.objs.size) (ob := PySem.W.methodObj (.ref fP) (.ref x)) I2 (I1.fpOk (Nat.le_refl _) (I1.hok.fresh (Nat.le_refl _))) (Heap.get?_push_size _ rfl) fun _ => nofun
  have hA := hPA.run pos _ _ _ H _ I3 ht
  have hE := he s.heap.objs.size
  show wpAny (model P w) (A.deeper (PySem.W.envX qual scope s.heap.objs.size f (.ref cda) [("__class__", cc)])) (callWith pos (.ref h'.objs.size) [] (backTo pos (starEach [e1, e2] (PySem.W.envX qual scope s.heap.objs.size f (.ref cda) [("__class__", cc)]))) []) _ _ _
  have hA' : wpAny (model P w) (A.deeper (PySem.W.envX qual scope s.heap.objs.size f (.ref cda) [("__class__", cc)])) (spliced (backTo pos (starEach [e1, e2] (PySem.W.envX qual scope s.heap.objs.size f (.ref cda) [("__class__", cc)])))) _ _ _ := hA
  rw [hE] at hA' ⊢
  refine PySem.W.callWith_of (P := PySem.W.MethP K h'.objs.size fP (.ref x)) (by show ((false || (backTo pos (starEach [e2] (PySem.W.envX qual scope s.heap.objs.size f (.ref cda) [("__class__", cc)]))).any (·.1)) || false) = false; rw [hpl]; rfl) (PySem.W.keeps_M U.isfn) (Calls.evalArgs_plain (wpAny_mono hA' (fun ws s2 hq => ?_) fun _ _ z => z))
  obtain ⟨zs, H2, I4, r4, q4⟩ := hq
  have pm := (I4.pin (h'.objs.size, PySem.W.methodObj (.ref fP) (.ref x)) (by simp)).1
  refine ⟨⟨pm, I4.kIn⟩, ?_⟩
  show wpAny (model P w) (A.deeper (PySem.W.envX qual scope s.heap.objs.size f (.ref cda) [("__class__", cc)])) (call (.ref h'.objs.size) ([] ++ ws)) _ _ _
  have rv : Vals (.ref x :: zs) (.ref x :: ws) := .cons rfl r4
  have lenP : (Value.ref x :: ws).length = psP.length := by
    rw [← rv.length]
    exact FP.len _ _ _ _ q4
  have rp := FP.run (A.deeper (PySem.W.envX qual scope s.heap.objs.size f (.ref cda) [("__class__", cc)])) _ s2 H2 ⟨.ref x :: ws, []⟩ (.ref x :: ws) (.ref x :: zs) _ E0 (hrd.mono (Nat.le_succ k)) I4.env0 (by have := bP s2 (.ref x :: ws) I4.kIn (by simpa using lenP); simpa using this) rv q4
  refine wpAny_call (ks_codeAny_call_bound pm (codeAny_mono rp fun res s' hq => ?_))
  cases res with
  | error e => exact False.elim hq
  | ok fl =>
    cases fl with
    | next => exact False.elim hq
    | brk => exact False.elim hq
    | cont => exact False.elim hq
    | ret u =>
      obtain ⟨v, H', J, _, q⟩ := I4.after hq
      refine wpAt_of_wpAny (wpAny_execs_nil ?_)
      exact ⟨.non, H', J.os, J.bare, J.base, J.hok, rfl, q⟩
end
end P38

set_option Elab.async false
set_option linter.all false
set_option maxRecDepth 100000
set_option maxHeartbeats 4000000
namespace P38
open PySem PySem.Spec PyProof.Rows L2
def top (i : Nat) : Stmt := PySem.Challenge.pw_hymnplates_k38_whole_uses_of_great_cases.main.body.getD i (.Pass ⟨0, 0, 0, 0⟩)
abbrev s_is_integer : Stmt := top 19
abbrev s_is_between : Stmt := top 20
abbrev s_is_list : Stmt := top 21
abbrev s_is_tuple_of : Stmt := top 22
abbrev s_is_sign : Stmt := top 23
abbrev s_is_kind : Stmt := top 25
abbrev s_need_kind : Stmt := top 28
abbrev s_need_sign : Stmt := top 27
abbrev s_need_one_font : Stmt := top 30
abbrev s_number_of_sets : Stmt := top 32
abbrev s_mask_of : Stmt := top 34
abbrev s_subset_sums : Stmt := top 35
abbrev s_bearings_of : Stmt := top 36
abbrev s_wants_by_mask : Stmt := top 37
abbrev s_stock_of : Stmt := top 38
abbrev s_amounts_of : Stmt := top 39
abbrev s_slacks : Stmt := top 40
abbrev s_slacks_of : Stmt := top 41
abbrev s_need_hanging : Stmt := top 44
abbrev s_most_here : Stmt := top 45
abbrev s_use_range : Stmt := top 47
abbrev s_is_font_text : Stmt := top 51
abbrev s_are_turns : Stmt := top 52
abbrev s_Font_init : Stmt := inClass (top 53) 1
abbrev s_Font_eq : Stmt := inClass (top 53) 4
abbrev s_Font_len : Stmt := inClass (top 53) 5
abbrev s_Font_signs : Stmt := inClass (top 53) 7
abbrev s_Font_ascending : Stmt := inClass (top 53) 9
abbrev s_Font_normal : Stmt := inClass (top 53) 10
abbrev s_Font_seen : Stmt := inClass (top 53) 11
abbrev s_kind_key : Stmt := top 63
abbrev s_ordered : Stmt := top 64
abbrev s_checked_counts : Stmt := top 65
abbrev s_Pile_init : Stmt := inClass (top 66) 0
abbrev s_Pile_font : Stmt := inClass (top 66) 1
abbrev s_Pile_plates : Stmt := inClass (top 66) 2
abbrev s_Case_init : Stmt := inClass (top 67) 1
abbrev s_Case_getitem : Stmt := inClass (top 67) 5
abbrev s_are_counts : Stmt := top 71
abbrev s_Wants_init : Stmt := inClass (top 72) 0
abbrev s_Wants_getitem : Stmt := inClass (top 72) 6
abbrev s_Wants_font : Stmt := inClass (top 72) 9
abbrev s__law_pen : Stmt := top 74
abbrev s__law_draw : Stmt := top 75
abbrev s__law_pick : Stmt := top 76
abbrev s__law_shuffled : Stmt := top 77
abbrev s__law_font : Stmt := top 78
abbrev s__law_turns : Stmt := top 79
abbrev s__law_made_font : Stmt := top 80
abbrev s__law_shows : Stmt := top 81
abbrev s__law_kinds : Stmt := top 82
abbrev s__law_stock : Stmt := top 83
abbrev s__law_made_case : Stmt := top 84
abbrev s__law_planned : Stmt := top 85
abbrev s__law_shown : Stmt := top 86
abbrev s__law_made_wants : Stmt := top 87
abbrev s__law_sets : Stmt := top 88
abbrev s__law_gaps : Stmt := top 89
abbrev s__law_rest_hangs : Stmt := top 90
abbrev s__law_hangs_barred : Stmt := top 91
abbrev s_law : Stmt := top 92
theorem sc_is_integer : FnScope ["value"] ["value"] (defScope s_is_integer) := ⟨rfl, rfl, rfl, by decide +kernel, rfl, by decide +kernel, by decide +kernel⟩
theorem sc_is_between : FnScope ["value", "least", "most"] ["value", "least", "most"] (defScope s_is_between) := ⟨rfl, rfl, rfl, by decide +kernel, rfl, by decide +kernel, by decide +kernel⟩
theorem sc_is_list : FnScope ["value"] ["value"] (defScope s_is_list) := ⟨rfl, rfl, rfl, by decide +kernel, rfl, by decide +kernel, by decide +kernel⟩
theorem sc_is_tuple_of : FnScope ["value", "size"] ["value", "size"] (defScope s_is_tuple_of) := ⟨rfl, rfl, rfl, by decide +kernel, rfl, by decide +kernel, by decide +kernel⟩
theorem sc_is_sign : FnScope ["font", "value"] ["font", "value"] (defScope s_is_sign) := ⟨rfl, rfl, rfl, by decide +kernel, rfl, by decide +kernel, by decide +kernel⟩
theorem sc_is_kind : FnScope ["font", "value", "side"] ["font", "value"] (defScope s_is_kind) := ⟨rfl, rfl, rfl, by decide +kernel, rfl, by decide +kernel, by decide +kernel⟩
theorem sc_need_kind : FnScope ["font", "value"] ["font", "value"] (defScope s_need_kind) := ⟨rfl, rfl, rfl, by decide +kernel, rfl, by decide +kernel, by decide +kernel⟩
theorem sc_need_sign : FnScope ["font", "value"] ["font", "value"] (defScope s_need_sign) := ⟨rfl, rfl, rfl, by decide +kernel, rfl, by decide +kernel, by decide +kernel⟩
theorem sc_need_one_font : FnScope ["one", "others", "other"] ["one", "others"] (defScope s_need_one_font) := ⟨rfl, rfl, rfl, by decide +kernel, rfl, by decide +kernel, by decide +kernel⟩
theorem sc_number_of_sets : FnScope ["font"] ["font"] (defScope s_number_of_sets) := ⟨rfl, rfl, rfl, by decide +kernel, rfl, by decide +kernel, by decide +kernel⟩
theorem sc_mask_of : FnScope ["font", "signs", "sign"] ["font", "signs"] (defScope s_mask_of) := ⟨rfl, rfl, rfl, by decide +kernel, rfl, by decide +kernel, by decide +kernel⟩
theorem sc_subset_sums : FnScope ["numbers", "sign", "found", "at", "mask"] ["numbers", "sign"] (defScope s_subset_sums) := ⟨rfl, rfl, rfl, by decide +kernel, rfl, by decide +kernel, by decide +kernel⟩
theorem sc_bearings_of : FnScope ["font", "stock", "exact", "kind", "shown", "many", "inside", "mask"] ["font", "stock"] (defScope s_bearings_of) := ⟨rfl, rfl, rfl, by decide +kernel, rfl, by decide +kernel, by decide +kernel⟩
theorem sc_wants_by_mask : FnScope ["font", "amounts", "found", "at", "amount"] ["font", "amounts"] (defScope s_wants_by_mask) := ⟨rfl, rfl, rfl, by decide +kernel, rfl, by decide +kernel, by decide +kernel⟩
theorem sc_stock_of : FnScope ["case", "font", "kind", "many"] ["case"] (defScope s_stock_of) := ⟨rfl, rfl, rfl, by decide +kernel, rfl, by decide +kernel, by decide +kernel⟩
theorem sc_amounts_of : FnScope ["wants", "sign"] ["wants"] (defScope s_amounts_of) := ⟨rfl, rfl, rfl, by decide +kernel, rfl, by decide +kernel, by decide +kernel⟩
theorem sc_slacks : FnScope ["font", "stock", "amounts", "much", "less"] ["font", "stock", "amounts"] (defScope s_slacks) := ⟨rfl, rfl, rfl, by decide +kernel, rfl, by decide +kernel, by decide +kernel⟩
theorem sc_slacks_of : FnScope ["case", "wants"] ["case", "wants"] (defScope s_slacks_of) := ⟨rfl, rfl, rfl, by decide +kernel, rfl, by decide +kernel, by decide +kernel⟩
theorem sc_need_hanging : FnScope ["case", "wants", "numbers"] ["case", "wants"] (defScope s_need_hanging) := ⟨rfl, rfl, rfl, by decide +kernel, rfl, by decide +kernel, by decide +kernel⟩
theorem sc_most_here : FnScope ["numbers", "shown", "at", "some", "mask", "number"] ["numbers", "shown", "at"] (defScope s_most_here) := ⟨rfl, rfl, rfl, by decide +kernel, rfl, by decide +kernel, by decide +kernel⟩
theorem sc_use_range : FnScope ["case", "wants", "kind", "sign", "font", "own", "many", "shown", "at", "numbers", "room", "most", "alone", "mask", "number"] ["case", "wants", "kind", "sign"] (defScope s_use_range) := ⟨rfl, rfl, rfl, by decide +kernel, rfl, by decide +kernel, by decide +kernel⟩
theorem sc_is_font_text : FnScope ["value", "most", "sign"] ["value", "most"] (defScope s_is_font_text) := ⟨rfl, rfl, rfl, by decide +kernel, rfl, by decide +kernel, by decide +kernel⟩
theorem sc_are_turns : FnScope ["value", "ranks", "seen", "pair", "sign"] ["value", "ranks"] (defScope s_are_turns) := ⟨rfl, rfl, rfl, by decide +kernel, rfl, by decide +kernel, by decide +kernel⟩
theorem sc_Font_init : FnScope ["self", "signs", "turns", "one", "other", "rank", "sign"] ["self", "signs", "turns"] (defScope s_Font_init) := ⟨rfl, rfl, rfl, by decide +kernel, rfl, by decide +kernel, by decide +kernel⟩
theorem sc_Font_eq : FnScope ["self", "other"] ["self", "other"] (defScope s_Font_eq) := ⟨rfl, rfl, rfl, by decide +kernel, rfl, by decide +kernel, by decide +kernel⟩
theorem sc_Font_len : FnScope ["self"] ["self"] (defScope s_Font_len) := ⟨rfl, rfl, rfl, by decide +kernel, rfl, by decide +kernel, by decide +kernel⟩
theorem sc_Font_signs : FnScope ["self"] ["self"] (defScope s_Font_signs) := ⟨rfl, rfl, rfl, by decide +kernel, rfl, by decide +kernel, by decide +kernel⟩
theorem sc_Font_ascending : FnScope ["self", "signs", "sign"] ["self", "signs"] (defScope s_Font_ascending) := ⟨rfl, rfl, rfl, by decide +kernel, rfl, by decide +kernel, by decide +kernel⟩
theorem sc_Font_normal : FnScope ["self", "kind", "front", "back"] ["self", "kind"] (defScope s_Font_normal) := ⟨rfl, rfl, rfl, by decide +kernel, rfl, by decide +kernel, by decide +kernel⟩
theorem sc_Font_seen : FnScope ["self", "kind", "sides", "side"] ["self", "kind"] (defScope s_Font_seen) := ⟨rfl, rfl, rfl, by decide +kernel, rfl, by decide +kernel, by decide +kernel⟩
theorem sc_kind_key : FnScope ["font", "kind", "side"] ["font", "kind"] (defScope s_kind_key) := ⟨rfl, rfl, rfl, by decide +kernel, rfl, by decide +kernel, by decide +kernel⟩
theorem sc_ordered : FnScope ["font", "counts", "kind"] ["font", "counts"] (defScope s_ordered) := ⟨rfl, rfl, rfl, by decide +kernel, rfl, by decide +kernel, by decide +kernel⟩
theorem sc_checked_counts : FnScope ["font", "plates", "found", "entry", "kind"] ["font", "plates"] (defScope s_checked_counts) := ⟨rfl, rfl, rfl, by decide +kernel, rfl, by decide +kernel, by decide +kernel⟩
theorem sc_Pile_init : FnScope ["self", "font", "counts"] ["self", "font", "counts"] (defScope s_Pile_init) := ⟨rfl, rfl, rfl, by decide +kernel, rfl, by decide +kernel, by decide +kernel⟩
theorem sc_Pile_font : FnScope ["self"] ["self"] (defScope s_Pile_font) := ⟨rfl, rfl, rfl, by decide +kernel, rfl, by decide +kernel, by decide +kernel⟩
theorem sc_Pile_plates : FnScope ["self"] ["self"] (defScope s_Pile_plates) := ⟨rfl, rfl, rfl, by decide +kernel, rfl, by decide +kernel, by decide +kernel⟩
theorem sc_Case_getitem : FnScope ["self", "kind"] ["self", "kind"] (defScope s_Case_getitem) := ⟨rfl, rfl, rfl, by decide +kernel, rfl, by decide +kernel, by decide +kernel⟩
theorem sc_are_counts : FnScope ["font", "value", "count", "sign"] ["font", "value"] (defScope s_are_counts) := ⟨rfl, rfl, rfl, by decide +kernel, rfl, by decide +kernel, by decide +kernel⟩
theorem sc_Wants_init : FnScope ["self", "font", "counts", "sign"] ["self", "font", "counts"] (defScope s_Wants_init) := ⟨rfl, rfl, rfl, by decide +kernel, rfl, by decide +kernel, by decide +kernel⟩
theorem sc_Wants_getitem : FnScope ["self", "sign"] ["self", "sign"] (defScope s_Wants_getitem) := ⟨rfl, rfl, rfl, by decide +kernel, rfl, by decide +kernel, by decide +kernel⟩
theorem sc_Wants_font : FnScope ["self"] ["self"] (defScope s_Wants_font) := ⟨rfl, rfl, rfl, by decide +kernel, rfl, by decide +kernel, by decide +kernel⟩
theorem sc__law_pen : FnScope ["_law_script"] ["_law_script"] (defScope s__law_pen) := ⟨rfl, rfl, rfl, by decide +kernel, rfl, by decide +kernel, by decide +kernel⟩
theorem sc__law_draw : FnScope ["_law_pen_here", "_law_many", "_law_digit", "_law_used", "_law_cell", "_law_mixed"] ["_law_pen_here", "_law_many"] (defScope s__law_draw) := ⟨rfl, rfl, rfl, by decide +kernel, rfl, by decide +kernel, by decide +kernel⟩
theorem sc__law_pick : FnScope ["_law_pen_here", "_law_some"] ["_law_pen_here", "_law_some"] (defScope s__law_pick) := ⟨rfl, rfl, rfl, by decide +kernel, rfl, by decide +kernel, by decide +kernel⟩
theorem sc__law_shuffled : FnScope ["_law_pen_here", "_law_items", "_law_left", "_law_found"] ["_law_pen_here", "_law_items"] (defScope s__law_shuffled) := ⟨rfl, rfl, rfl, by decide +kernel, rfl, by decide +kernel, by decide +kernel⟩
theorem sc__law_font : FnScope ["_law_pen_here", "_law_fewest", "_law_most", "_law_letters", "_law_signs", "_law_heads", "_law_left", "_law_one", "_law_way", "_law_two"] ["_law_pen_here", "_law_fewest", "_law_most"] (defScope s__law_font) := ⟨rfl, rfl, rfl, by decide +kernel, rfl, by decide +kernel, by decide +kernel⟩
theorem sc__law_turns : FnScope ["_law_pen_here", "_law_font_here", "_law_signs", "_law_heads", "_law_turns_here", "_law_one"] ["_law_pen_here", "_law_font_here"] (defScope s__law_turns) := ⟨rfl, rfl, rfl, by decide +kernel, rfl, by decide +kernel, by decide +kernel⟩
theorem sc__law_made_font : FnScope ["_law_pen_here", "_law_font_here"] ["_law_pen_here", "_law_font_here"] (defScope s__law_made_font) := ⟨rfl, rfl, rfl, by decide +kernel, rfl, by decide +kernel, by decide +kernel⟩
theorem sc__law_shows : FnScope ["_law_font_here", "_law_kind", "_law_sides", "_law_side", "_law_sign"] ["_law_font_here", "_law_kind"] (defScope s__law_shows) := ⟨rfl, rfl, rfl, by decide +kernel, rfl, by decide +kernel, by decide +kernel⟩
theorem sc__law_kinds : FnScope ["_law_font_here", "_law_places", "_law_found", "_law_k", "_law_m"] ["_law_font_here"] (defScope s__law_kinds) := ⟨rfl, rfl, rfl, by decide +kernel, rfl, by decide +kernel, by decide +kernel⟩
theorem sc__law_stock : FnScope ["_law_pen_here", "_law_font_here", "_law_most", "_law_great", "_law_some", "_law_counts", "_law_kind"] ["_law_pen_here", "_law_font_here", "_law_most", "_law_great"] (defScope s__law_stock) := ⟨rfl, rfl, rfl, by decide +kernel, rfl, by decide +kernel, by decide +kernel⟩
theorem sc__law_made_case : FnScope ["_law_pen_here", "_law_house", "_law_stock_here", "_law_rows", "_law_kind"] ["_law_pen_here", "_law_house", "_law_stock_here"] (defScope s__law_made_case) := ⟨rfl, rfl, rfl, by decide +kernel, rfl, by decide +kernel, by decide +kernel⟩
theorem sc__law_planned : FnScope ["_law_pen_here", "_law_font_here", "_law_stock_here", "_law_found", "_law_kind", "_law_left", "_law_sign", "_law_part"] ["_law_pen_here", "_law_font_here", "_law_stock_here"] (defScope s__law_planned) := ⟨rfl, rfl, rfl, by decide +kernel, rfl, by decide +kernel, by decide +kernel⟩
theorem sc__law_shown : FnScope ["_law_font_here", "_law_plan", "_law_sign", "_law_pair"] ["_law_font_here", "_law_plan"] (defScope s__law_shown) := ⟨rfl, rfl, rfl, by decide +kernel, rfl, by decide +kernel, by decide +kernel⟩
theorem sc__law_made_wants : FnScope ["_law_pen_here", "_law_house", "_law_need", "_law_zeros", "_law_sign"] ["_law_pen_here", "_law_house", "_law_need"] (defScope s__law_made_wants) := ⟨rfl, rfl, rfl, by decide +kernel, rfl, by decide +kernel, by decide +kernel⟩
theorem sc__law_sets : FnScope ["_law_signs", "_law_found", "_law_sign", "_law_some"] ["_law_signs"] (defScope s__law_sets) := ⟨rfl, rfl, rfl, by decide +kernel, rfl, by decide +kernel, by decide +kernel⟩
theorem sc__law_gaps : FnScope ["_law_font_here", "_law_stock_here", "_law_need", "_law_shows_here", "_law_found", "_law_some", "_law_have", "_law_kind", "_law_shown_here", "_law_many", "_law_sign"] ["_law_font_here", "_law_stock_here", "_law_need"] (defScope s__law_gaps) := ⟨rfl, rfl, rfl, by decide +kernel, rfl, by decide +kernel, by decide +kernel⟩
theorem sc__law_rest_hangs : FnScope ["_law_font_here", "_law_stock_here", "_law_need", "_law_kind", "_law_sign", "_law_number", "_law_rest", "_law_less"] ["_law_font_here", "_law_stock_here", "_law_need", "_law_kind", "_law_sign", "_law_number"] (defScope s__law_rest_hangs) := ⟨rfl, rfl, rfl, by decide +kernel, rfl, by decide +kernel, by decide +kernel⟩
theorem sc__law_hangs_barred : FnScope ["_law_font_here", "_law_stock_here", "_law_need", "_law_kind", "_law_sign", "_law_number", "_law_rest", "_law_barred", "_law_gaps_here", "_law_others", "_law_one", "_law_some"] ["_law_font_here", "_law_stock_here", "_law_need", "_law_kind", "_law_sign", "_law_number"] (defScope s__law_hangs_barred) := ⟨rfl, rfl, rfl, by decide +kernel, rfl, by decide +kernel, by decide +kernel⟩
theorem sc_law : FnScope ["_law_script", "_law_pen_here", "_law_turn", "_law_font_here", "_law_stock_here", "_law_need", "_law_house", "_law_box", "_law_asked", "_law_kind", "_law_sign", "_law_told", "_law_low"] ["_law_script"] (defScope s_law) := ⟨rfl, rfl, rfl, by decide +kernel, rfl, by decide +kernel, by decide +kernel⟩
/-- the function that an address holds -/
def fdOf (K : PySem.W.Frag) (a : Addr) : FuncData := match K.lookup a with
  | some ⟨_, _, .func fd, _⟩ => fd
  | _ => { name := "", qualname := "", params := defArgs (.Pass ⟨0, 0, 0, 0⟩), body := .stmts [], scope := defScope (.Pass ⟨0, 0, 0, 0⟩), globals := 0, closure := [], defaults := .none, kwdefaults := .none, doc := .none, pyModule := .none, annotations := none, code := .none, closureTuple := .none, builtins := 0 }
/-- a property's getter -/
def gp (K : PySem.W.Frag) (C : Addr) (a : Str) : Addr := match PySem.W.recIn K (He.ma K C a) "property" with
  | some (.ref g :: _) => g
  | _ => 0
abbrev C_Font (K : PySem.W.Frag) : Addr := He.ga K "Font"
abbrev C_Pile (K : PySem.W.Frag) : Addr := He.ga K "Pile"
abbrev C_Case (K : PySem.W.Frag) : Addr := He.ga K "Case"
abbrev C_Wants (K : PySem.W.Frag) : Addr := He.ga K "Wants"
abbrev f_is_integer (K : PySem.W.Frag) : Addr := He.ga K "is_integer"
abbrev f_is_between (K : PySem.W.Frag) : Addr := He.ga K "is_between"
abbrev f_is_list (K : PySem.W.Frag) : Addr := He.ga K "is_list"
abbrev f_is_tuple_of (K : PySem.W.Frag) : Addr := He.ga K "is_tuple_of"
abbrev f_is_sign (K : PySem.W.Frag) : Addr := He.ga K "is_sign"
abbrev f_is_kind (K : PySem.W.Frag) : Addr := He.ga K "is_kind"
abbrev f_need_kind (K : PySem.W.Frag) : Addr := He.ga K "need_kind"
abbrev f_need_sign (K : PySem.W.Frag) : Addr := He.ga K "need_sign"
abbrev f_need_one_font (K : PySem.W.Frag) : Addr := He.ga K "need_one_font"
abbrev f_number_of_sets (K : PySem.W.Frag) : Addr := He.ga K "number_of_sets"
abbrev f_mask_of (K : PySem.W.Frag) : Addr := He.ga K "mask_of"
abbrev f_subset_sums (K : PySem.W.Frag) : Addr := He.ga K "subset_sums"
abbrev f_bearings_of (K : PySem.W.Frag) : Addr := He.ga K "bearings_of"
abbrev f_wants_by_mask (K : PySem.W.Frag) : Addr := He.ga K "wants_by_mask"
abbrev f_stock_of (K : PySem.W.Frag) : Addr := He.ga K "stock_of"
abbrev f_amounts_of (K : PySem.W.Frag) : Addr := He.ga K "amounts_of"
abbrev f_slacks (K : PySem.W.Frag) : Addr := He.ga K "slacks"
abbrev f_slacks_of (K : PySem.W.Frag) : Addr := He.ga K "slacks_of"
abbrev f_need_hanging (K : PySem.W.Frag) : Addr := He.ga K "need_hanging"
abbrev f_most_here (K : PySem.W.Frag) : Addr := He.ga K "most_here"
abbrev f_use_range (K : PySem.W.Frag) : Addr := He.ga K "use_range"
abbrev f_is_font_text (K : PySem.W.Frag) : Addr := He.ga K "is_font_text"
abbrev f_are_turns (K : PySem.W.Frag) : Addr := He.ga K "are_turns"
abbrev f_Font_init (K : PySem.W.Frag) : Addr := He.ma K (C_Font K) "__init__"
abbrev f_Font_eq (K : PySem.W.Frag) : Addr := He.ma K (C_Font K) "__eq__"
abbrev f_Font_len (K : PySem.W.Frag) : Addr := He.ma K (C_Font K) "__len__"
abbrev f_Font_signs (K : PySem.W.Frag) : Addr := gp K (C_Font K) "signs"
abbrev f_Font_ascending (K : PySem.W.Frag) : Addr := He.ma K (C_Font K) "ascending"
abbrev f_Font_normal (K : PySem.W.Frag) : Addr := He.ma K (C_Font K) "normal"
abbrev f_Font_seen (K : PySem.W.Frag) : Addr := He.ma K (C_Font K) "seen"
abbrev f_kind_key (K : PySem.W.Frag) : Addr := He.ga K "kind_key"
abbrev f_ordered (K : PySem.W.Frag) : Addr := He.ga K "ordered"
abbrev f_checked_counts (K : PySem.W.Frag) : Addr := He.ga K "checked_counts"
abbrev f_Pile_init (K : PySem.W.Frag) : Addr := He.ma K (C_Pile K) "__init__"
abbrev f_Pile_font (K : PySem.W.Frag) : Addr := gp K (C_Pile K) "font"
abbrev f_Pile_plates (K : PySem.W.Frag) : Addr := gp K (C_Pile K) "plates"
abbrev f_Case_init (K : PySem.W.Frag) : Addr := He.ma K (C_Case K) "__init__"
abbrev f_Case_getitem (K : PySem.W.Frag) : Addr := He.ma K (C_Case K) "__getitem__"
abbrev f_are_counts (K : PySem.W.Frag) : Addr := He.ga K "are_counts"
abbrev f_Wants_init (K : PySem.W.Frag) : Addr := He.ma K (C_Wants K) "__init__"
abbrev f_Wants_getitem (K : PySem.W.Frag) : Addr := He.ma K (C_Wants K) "__getitem__"
abbrev f_Wants_font (K : PySem.W.Frag) : Addr := gp K (C_Wants K) "font"
abbrev f__law_pen (K : PySem.W.Frag) : Addr := He.ga K "_law_pen"
abbrev f__law_draw (K : PySem.W.Frag) : Addr := He.ga K "_law_draw"
abbrev f__law_pick (K : PySem.W.Frag) : Addr := He.ga K "_law_pick"
abbrev f__law_shuffled (K : PySem.W.Frag) : Addr := He.ga K "_law_shuffled"
abbrev f__law_font (K : PySem.W.Frag) : Addr := He.ga K "_law_font"
abbrev f__law_turns (K : PySem.W.Frag) : Addr := He.ga K "_law_turns"
abbrev f__law_made_font (K : PySem.W.Frag) : Addr := He.ga K "_law_made_font"
abbrev f__law_shows (K : PySem.W.Frag) : Addr := He.ga K "_law_shows"
abbrev f__law_kinds (K : PySem.W.Frag) : Addr := He.ga K "_law_kinds"
abbrev f__law_stock (K : PySem.W.Frag) : Addr := He.ga K "_law_stock"
abbrev f__law_made_case (K : PySem.W.Frag) : Addr := He.ga K "_law_made_case"
abbrev f__law_planned (K : PySem.W.Frag) : Addr := He.ga K "_law_planned"
abbrev f__law_shown (K : PySem.W.Frag) : Addr := He.ga K "_law_shown"
abbrev f__law_made_wants (K : PySem.W.Frag) : Addr := He.ga K "_law_made_wants"
abbrev f__law_sets (K : PySem.W.Frag) : Addr := He.ga K "_law_sets"
abbrev f__law_gaps (K : PySem.W.Frag) : Addr := He.ga K "_law_gaps"
abbrev f__law_rest_hangs (K : PySem.W.Frag) : Addr := He.ga K "_law_rest_hangs"
abbrev f__law_hangs_barred (K : PySem.W.Frag) : Addr := He.ga K "_law_hangs_barred"
abbrev f_law (K : PySem.W.Frag) : Addr := He.ga K "law"
/-- what the top has left -/
structure Tx (K : PySem.W.Frag) (mg : Str → Option Value) : Prop where
  z_len : mg "len" = none
  z_isinstance : mg "isinstance" = none
  z_int : mg "int" = none
  z_bool : mg "bool" = none
  z_str : mg "str" = none
  z_list : mg "list" = none
  z_tuple : mg "tuple" = none
  z_dict : mg "dict" = none
  z_sorted : mg "sorted" = none
  z_sum : mg "sum" = none
  z_all : mg "all" = none
  z_min : mg "min" = none
  z_max : mg "max" = none
  z_abs : mg "abs" = none
  z_enumerate : mg "enumerate" = none
  z_zip : mg "zip" = none
  z_range : mg "range" = none
  z_super : mg "super" = none
  m_is_integer : mg "is_integer" = some (.ref (f_is_integer K))
  m_is_between : mg "is_between" = some (.ref (f_is_between K))
  m_is_list : mg "is_list" = some (.ref (f_is_list K))
  m_is_tuple_of : mg "is_tuple_of" = some (.ref (f_is_tuple_of K))
  m_is_sign : mg "is_sign" = some (.ref (f_is_sign K))
  m_is_kind : mg "is_kind" = some (.ref (f_is_kind K))
  m_need_kind : mg "need_kind" = some (.ref (f_need_kind K))
  m_need_sign : mg "need_sign" = some (.ref (f_need_sign K))
  m_need_one_font : mg "need_one_font" = some (.ref (f_need_one_font K))
  m_number_of_sets : mg "number_of_sets" = some (.ref (f_number_of_sets K))
  m_mask_of : mg "mask_of" = some (.ref (f_mask_of K))
  m_subset_sums : mg "subset_sums" = some (.ref (f_subset_sums K))
  m_bearings_of : mg "bearings_of" = some (.ref (f_bearings_of K))
  m_wants_by_mask : mg "wants_by_mask" = some (.ref (f_wants_by_mask K))
  m_stock_of : mg "stock_of" = some (.ref (f_stock_of K))
  m_amounts_of : mg "amounts_of" = some (.ref (f_amounts_of K))
  m_slacks : mg "slacks" = some (.ref (f_slacks K))
  m_slacks_of : mg "slacks_of" = some (.ref (f_slacks_of K))
  m_need_hanging : mg "need_hanging" = some (.ref (f_need_hanging K))
  m_most_here : mg "most_here" = some (.ref (f_most_here K))
  m_use_range : mg "use_range" = some (.ref (f_use_range K))
  m_is_font_text : mg "is_font_text" = some (.ref (f_is_font_text K))
  m_are_turns : mg "are_turns" = some (.ref (f_are_turns K))
  m_kind_key : mg "kind_key" = some (.ref (f_kind_key K))
  m_ordered : mg "ordered" = some (.ref (f_ordered K))
  m_checked_counts : mg "checked_counts" = some (.ref (f_checked_counts K))
  m_are_counts : mg "are_counts" = some (.ref (f_are_counts K))
  m__law_pen : mg "_law_pen" = some (.ref (f__law_pen K))
  m__law_draw : mg "_law_draw" = some (.ref (f__law_draw K))
  m__law_pick : mg "_law_pick" = some (.ref (f__law_pick K))
  m__law_shuffled : mg "_law_shuffled" = some (.ref (f__law_shuffled K))
  m__law_font : mg "_law_font" = some (.ref (f__law_font K))
  m__law_turns : mg "_law_turns" = some (.ref (f__law_turns K))
  m__law_made_font : mg "_law_made_font" = some (.ref (f__law_made_font K))
  m__law_shows : mg "_law_shows" = some (.ref (f__law_shows K))
  m__law_kinds : mg "_law_kinds" = some (.ref (f__law_kinds K))
  m__law_stock : mg "_law_stock" = some (.ref (f__law_stock K))
  m__law_made_case : mg "_law_made_case" = some (.ref (f__law_made_case K))
  m__law_planned : mg "_law_planned" = some (.ref (f__law_planned K))
  m__law_shown : mg "_law_shown" = some (.ref (f__law_shown K))
  m__law_made_wants : mg "_law_made_wants" = some (.ref (f__law_made_wants K))
  m__law_sets : mg "_law_sets" = some (.ref (f__law_sets K))
  m__law_gaps : mg "_law_gaps" = some (.ref (f__law_gaps K))
  m__law_rest_hangs : mg "_law_rest_hangs" = some (.ref (f__law_rest_hangs K))
  m__law_hangs_barred : mg "_law_hangs_barred" = some (.ref (f__law_hangs_barred K))
  m_law : mg "law" = some (.ref (f_law K))
  m_Font : mg "Font" = some (.ref (C_Font K))
  m_Case : mg "Case" = some (.ref (C_Case K))
  m_Wants : mg "Wants" = some (.ref (C_Wants K))
  d_is_integer : FunD K "is_integer" "is_integer" (defArgs s_is_integer) (defBody s_is_integer) (defScope s_is_integer) [] [] (f_is_integer K) (fdOf K (f_is_integer K))
  d_is_between : FunD K "is_between" "is_between" (defArgs s_is_between) (defBody s_is_between) (defScope s_is_between) [] [] (f_is_between K) (fdOf K (f_is_between K))
  d_is_list : FunD K "is_list" "is_list" (defArgs s_is_list) (defBody s_is_list) (defScope s_is_list) [] [] (f_is_list K) (fdOf K (f_is_list K))
  d_is_tuple_of : FunD K "is_tuple_of" "is_tuple_of" (defArgs s_is_tuple_of) (defBody s_is_tuple_of) (defScope s_is_tuple_of) [] [] (f_is_tuple_of K) (fdOf K (f_is_tuple_of K))
  d_is_sign : FunD K "is_sign" "is_sign" (defArgs s_is_sign) (defBody s_is_sign) (defScope s_is_sign) [] [] (f_is_sign K) (fdOf K (f_is_sign K))
  d_is_kind : FunD K "is_kind" "is_kind" (defArgs s_is_kind) (defBody s_is_kind) (defScope s_is_kind) [] [] (f_is_kind K) (fdOf K (f_is_kind K))
  d_need_kind : FunD K "need_kind" "need_kind" (defArgs s_need_kind) (defBody s_need_kind) (defScope s_need_kind) [] [] (f_need_kind K) (fdOf K (f_need_kind K))
  d_need_sign : FunD K "need_sign" "need_sign" (defArgs s_need_sign) (defBody s_need_sign) (defScope s_need_sign) [] [] (f_need_sign K) (fdOf K (f_need_sign K))
  d_need_one_font : FunD K "need_one_font" "need_one_font" (defArgs s_need_one_font) (defBody s_need_one_font) (defScope s_need_one_font) [] [] (f_need_one_font K) (fdOf K (f_need_one_font K))
  d_number_of_sets : FunD K "number_of_sets" "number_of_sets" (defArgs s_number_of_sets) (defBody s_number_of_sets) (defScope s_number_of_sets) [] [] (f_number_of_sets K) (fdOf K (f_number_of_sets K))
  d_mask_of : FunD K "mask_of" "mask_of" (defArgs s_mask_of) (defBody s_mask_of) (defScope s_mask_of) [] [] (f_mask_of K) (fdOf K (f_mask_of K))
  d_subset_sums : FunD K "subset_sums" "subset_sums" (defArgs s_subset_sums) (defBody s_subset_sums) (defScope s_subset_sums) [] [("sign", .int 1)] (f_subset_sums K) (fdOf K (f_subset_sums K))
  d_bearings_of : FunD K "bearings_of" "bearings_of" (defArgs s_bearings_of) (defBody s_bearings_of) (defScope s_bearings_of) [] [] (f_bearings_of K) (fdOf K (f_bearings_of K))
  d_wants_by_mask : FunD K "wants_by_mask" "wants_by_mask" (defArgs s_wants_by_mask) (defBody s_wants_by_mask) (defScope s_wants_by_mask) [] [] (f_wants_by_mask K) (fdOf K (f_wants_by_mask K))
  d_stock_of : FunD K "stock_of" "stock_of" (defArgs s_stock_of) (defBody s_stock_of) (defScope s_stock_of) [] [] (f_stock_of K) (fdOf K (f_stock_of K))
  d_amounts_of : FunD K "amounts_of" "amounts_of" (defArgs s_amounts_of) (defBody s_amounts_of) (defScope s_amounts_of) [] [] (f_amounts_of K) (fdOf K (f_amounts_of K))
  d_slacks : FunD K "slacks" "slacks" (defArgs s_slacks) (defBody s_slacks) (defScope s_slacks) [] [] (f_slacks K) (fdOf K (f_slacks K))
  d_slacks_of : FunD K "slacks_of" "slacks_of" (defArgs s_slacks_of) (defBody s_slacks_of) (defScope s_slacks_of) [] [] (f_slacks_of K) (fdOf K (f_slacks_of K))
  d_need_hanging : FunD K "need_hanging" "need_hanging" (defArgs s_need_hanging) (defBody s_need_hanging) (defScope s_need_hanging) [] [] (f_need_hanging K) (fdOf K (f_need_hanging K))
  d_most_here : FunD K "most_here" "most_here" (defArgs s_most_here) (defBody s_most_here) (defScope s_most_here) [] [] (f_most_here K) (fdOf K (f_most_here K))
  d_use_range : FunD K "use_range" "use_range" (defArgs s_use_range) (defBody s_use_range) (defScope s_use_range) [] [] (f_use_range K) (fdOf K (f_use_range K))
  d_is_font_text : FunD K "is_font_text" "is_font_text" (defArgs s_is_font_text) (defBody s_is_font_text) (defScope s_is_font_text) [] [] (f_is_font_text K) (fdOf K (f_is_font_text K))
  d_are_turns : FunD K "are_turns" "are_turns" (defArgs s_are_turns) (defBody s_are_turns) (defScope s_are_turns) [] [] (f_are_turns K) (fdOf K (f_are_turns K))
  d_Font_init : ∃ dvs, dvs.length = 1 ∧ FunD K "__init__" "Font.__init__" (defArgs s_Font_init) (defBody s_Font_init) (defScope s_Font_init) dvs [] (f_Font_init K) (fdOf K (f_Font_init K))
  d_Font_eq : FunD K "__eq__" "Font.__eq__" (defArgs s_Font_eq) (defBody s_Font_eq) (defScope s_Font_eq) [] [] (f_Font_eq K) (fdOf K (f_Font_eq K))
  d_Font_len : FunD K "__len__" "Font.__len__" (defArgs s_Font_len) (defBody s_Font_len) (defScope s_Font_len) [] [] (f_Font_len K) (fdOf K (f_Font_len K))
  d_Font_signs : FunD K "signs" "Font.signs" (defArgs s_Font_signs) (defBody s_Font_signs) (defScope s_Font_signs) [] [] (f_Font_signs K) (fdOf K (f_Font_signs K))
  d_Font_ascending : FunD K "ascending" "Font.ascending" (defArgs s_Font_ascending) (defBody s_Font_ascending) (defScope s_Font_ascending) [] [] (f_Font_ascending K) (fdOf K (f_Font_ascending K))
  d_Font_normal : FunD K "normal" "Font.normal" (defArgs s_Font_normal) (defBody s_Font_normal) (defScope s_Font_normal) [] [] (f_Font_normal K) (fdOf K (f_Font_normal K))
  d_Font_seen : FunD K "seen" "Font.seen" (defArgs s_Font_seen) (defBody s_Font_seen) (defScope s_Font_seen) [] [] (f_Font_seen K) (fdOf K (f_Font_seen K))
  d_kind_key : FunD K "kind_key" "kind_key" (defArgs s_kind_key) (defBody s_kind_key) (defScope s_kind_key) [] [] (f_kind_key K) (fdOf K (f_kind_key K))
  d_ordered : FunD K "ordered" "ordered" (defArgs s_ordered) (defBody s_ordered) (defScope s_ordered) [] [] (f_ordered K) (fdOf K (f_ordered K))
  d_checked_counts : FunD K "checked_counts" "checked_counts" (defArgs s_checked_counts) (defBody s_checked_counts) (defScope s_checked_counts) [] [] (f_checked_counts K) (fdOf K (f_checked_counts K))
  d_Pile_init : FunD K "__init__" "Pile.__init__" (defArgs s_Pile_init) (defBody s_Pile_init) (defScope s_Pile_init) [] [] (f_Pile_init K) (fdOf K (f_Pile_init K))
  d_Pile_font : FunD K "font" "Pile.font" (defArgs s_Pile_font) (defBody s_Pile_font) (defScope s_Pile_font) [] [] (f_Pile_font K) (fdOf K (f_Pile_font K))
  d_Pile_plates : FunD K "plates" "Pile.plates" (defArgs s_Pile_plates) (defBody s_Pile_plates) (defScope s_Pile_plates) [] [] (f_Pile_plates K) (fdOf K (f_Pile_plates K))
  d_Case_getitem : FunD K "__getitem__" "Case.__getitem__" (defArgs s_Case_getitem) (defBody s_Case_getitem) (defScope s_Case_getitem) [] [] (f_Case_getitem K) (fdOf K (f_Case_getitem K))
  d_are_counts : FunD K "are_counts" "are_counts" (defArgs s_are_counts) (defBody s_are_counts) (defScope s_are_counts) [] [] (f_are_counts K) (fdOf K (f_are_counts K))
  d_Wants_init : FunD K "__init__" "Wants.__init__" (defArgs s_Wants_init) (defBody s_Wants_init) (defScope s_Wants_init) [] [] (f_Wants_init K) (fdOf K (f_Wants_init K))
  d_Wants_getitem : FunD K "__getitem__" "Wants.__getitem__" (defArgs s_Wants_getitem) (defBody s_Wants_getitem) (defScope s_Wants_getitem) [] [] (f_Wants_getitem K) (fdOf K (f_Wants_getitem K))
  d_Wants_font : FunD K "font" "Wants.font" (defArgs s_Wants_font) (defBody s_Wants_font) (defScope s_Wants_font) [] [] (f_Wants_font K) (fdOf K (f_Wants_font K))
  d__law_pen : FunD K "_law_pen" "_law_pen" (defArgs s__law_pen) (defBody s__law_pen) (defScope s__law_pen) [] [] (f__law_pen K) (fdOf K (f__law_pen K))
  d__law_draw : FunD K "_law_draw" "_law_draw" (defArgs s__law_draw) (defBody s__law_draw) (defScope s__law_draw) [] [] (f__law_draw K) (fdOf K (f__law_draw K))
  d__law_pick : FunD K "_law_pick" "_law_pick" (defArgs s__law_pick) (defBody s__law_pick) (defScope s__law_pick) [] [] (f__law_pick K) (fdOf K (f__law_pick K))
  d__law_shuffled : FunD K "_law_shuffled" "_law_shuffled" (defArgs s__law_shuffled) (defBody s__law_shuffled) (defScope s__law_shuffled) [] [] (f__law_shuffled K) (fdOf K (f__law_shuffled K))
  d__law_font : FunD K "_law_font" "_law_font" (defArgs s__law_font) (defBody s__law_font) (defScope s__law_font) [] [] (f__law_font K) (fdOf K (f__law_font K))
  d__law_turns : FunD K "_law_turns" "_law_turns" (defArgs s__law_turns) (defBody s__law_turns) (defScope s__law_turns) [] [] (f__law_turns K) (fdOf K (f__law_turns K))
  d__law_made_font : FunD K "_law_made_font" "_law_made_font" (defArgs s__law_made_font) (defBody s__law_made_font) (defScope s__law_made_font) [] [] (f__law_made_font K) (fdOf K (f__law_made_font K))
  d__law_shows : FunD K "_law_shows" "_law_shows" (defArgs s__law_shows) (defBody s__law_shows) (defScope s__law_shows) [] [] (f__law_shows K) (fdOf K (f__law_shows K))
  d__law_kinds : FunD K "_law_kinds" "_law_kinds" (defArgs s__law_kinds) (defBody s__law_kinds) (defScope s__law_kinds) [] [] (f__law_kinds K) (fdOf K (f__law_kinds K))
  d__law_stock : FunD K "_law_stock" "_law_stock" (defArgs s__law_stock) (defBody s__law_stock) (defScope s__law_stock) [] [] (f__law_stock K) (fdOf K (f__law_stock K))
  d__law_made_case : FunD K "_law_made_case" "_law_made_case" (defArgs s__law_made_case) (defBody s__law_made_case) (defScope s__law_made_case) [] [] (f__law_made_case K) (fdOf K (f__law_made_case K))
  d__law_planned : FunD K "_law_planned" "_law_planned" (defArgs s__law_planned) (defBody s__law_planned) (defScope s__law_planned) [] [] (f__law_planned K) (fdOf K (f__law_planned K))
  d__law_shown : FunD K "_law_shown" "_law_shown" (defArgs s__law_shown) (defBody s__law_shown) (defScope s__law_shown) [] [] (f__law_shown K) (fdOf K (f__law_shown K))
  d__law_made_wants : FunD K "_law_made_wants" "_law_made_wants" (defArgs s__law_made_wants) (defBody s__law_made_wants) (defScope s__law_made_wants) [] [] (f__law_made_wants K) (fdOf K (f__law_made_wants K))
  d__law_sets : FunD K "_law_sets" "_law_sets" (defArgs s__law_sets) (defBody s__law_sets) (defScope s__law_sets) [] [] (f__law_sets K) (fdOf K (f__law_sets K))
  d__law_gaps : FunD K "_law_gaps" "_law_gaps" (defArgs s__law_gaps) (defBody s__law_gaps) (defScope s__law_gaps) [] [] (f__law_gaps K) (fdOf K (f__law_gaps K))
  d__law_rest_hangs : FunD K "_law_rest_hangs" "_law_rest_hangs" (defArgs s__law_rest_hangs) (defBody s__law_rest_hangs) (defScope s__law_rest_hangs) [] [] (f__law_rest_hangs K) (fdOf K (f__law_rest_hangs K))
  d__law_hangs_barred : FunD K "_law_hangs_barred" "_law_hangs_barred" (defArgs s__law_hangs_barred) (defBody s__law_hangs_barred) (defScope s__law_hangs_barred) [] [] (f__law_hangs_barred K) (fdOf K (f__law_hangs_barred K))
  d_law : FunD K "law" "law" (defArgs s_law) (defBody s_law) (defScope s_law) [] [] (f_law K) (fdOf K (f_law K))
  cl_Font : Cls K (C_Font K)
  cl_Pile : Cls K (C_Pile K)
  cl_Case : Cls K (C_Case K)
  cl_Wants : Cls K (C_Wants K)
  k_Font : Mk K (C_Font K) (f_Font_init K)
  k_Case : Mk K (C_Case K) (f_Case_init K)
  k_Wants : Mk K (C_Wants K) (f_Wants_init K)
  n_Font_word : NoAttr K (C_Font K) "word"
  n_Font_ranks : NoAttr K (C_Font K) "ranks"
  n_Font_heads : NoAttr K (C_Font K) "heads"
  n_Pile_own_font : NoAttr K (C_Pile K) "own_font"
  n_Case_own_font : NoAttr K (C_Case K) "own_font"
  n_Wants_own_font : NoAttr K (C_Wants K) "own_font"
  n_Pile_stock : NoAttr K (C_Pile K) "stock"
  n_Case_stock : NoAttr K (C_Case K) "stock"
  n_Wants_numbers : NoAttr K (C_Wants K) "numbers"
  M_Font_normal : Meth K (C_Font K) "normal" (f_Font_normal K)
  M_Font_seen : Meth K (C_Font K) "seen" (f_Font_seen K)
  M_Font_ascending : Meth K (C_Font K) "ascending" (f_Font_ascending K)
  p_Font_signs : PropOf K (C_Font K) "signs" (He.ma K (C_Font K) "signs") (f_Font_signs K)
  p_Case_font : PropOf K (C_Case K) "font" (He.ma K (C_Case K) "font") (f_Pile_font K)
  p_Wants_font : PropOf K (C_Wants K) "font" (He.ma K (C_Wants K) "font") (f_Wants_font K)
  p_Case_plates : PropOf K (C_Case K) "plates" (He.ma K (C_Case K) "plates") (f_Pile_plates K)
  i_Case : PySem.W.findIn K (.ref (C_Case K)) "__getitem__" = some (some (.ref (f_Case_getitem K)))
  j_Case : PySem.W.fnIn K (f_Case_getitem K) = true
  h_Case : PySem.W.isFn K (.ref (f_Case_getitem K)) = true
  i_Wants : PySem.W.findIn K (.ref (C_Wants K)) "__getitem__" = some (some (.ref (f_Wants_getitem K)))
  j_Wants : PySem.W.fnIn K (f_Wants_getitem K) = true
  h_Wants : PySem.W.isFn K (.ref (f_Wants_getitem K)) = true
  i_len : PySem.W.findIn K (.ref (C_Font K)) "__len__" = some (some (.ref (f_Font_len K)))
  h_len : PySem.W.isFn K (.ref (f_Font_len K)) = true
  ne_Font : PySem.W.findIn K (.ref (C_Font K)) "__ne__" = some (some (.builtin "object.__ne__"))
  eq_Font : PySem.W.findIn K (.ref (C_Font K)) "__eq__" = some (some (.ref (f_Font_eq K)))
  eqf_Font : PySem.W.isFn K (.ref (f_Font_eq K)) = true
  obj_Font : PySem.W.mroIn K (C_Font K) (.type "object") = some true
  is_Font : C8.InsC K (C_Font K)
  max_Font : ∃ u, Con K (C_Font K) "MAX_SIGNS" (.int 10) u
  c_BLANK : ∃ t, mg "BLANK" = some (.str "-" t)
  c_SIGNS : ∃ t, mg "SIGNS" = some (.str "0123456789abcdefghijklmnopqrstuvwxyz" t)
  c_LEAST_SIGNS : ∃ t, mg "LEAST_SIGNS" = some (.int 2 t)
  c_MAX_COUNT_checks : ∃ t, mg "MAX_COUNT_checks" = some (.int (10 ^ 30) t)
  c_MAX_COUNT_cases : ∃ t, mg "MAX_COUNT_cases" = some (.int (10 ^ 30) t)
theorem bn_is_integer {K : PySem.W.Frag} {mg : Str → Option Value} (T : Tx K mg) : Binds K (fdOf K (f_is_integer K)) ["value"] [] := T.d_is_integer.bindsN fun _ _ _ _ _ _ us hl => match us, hl with | [_], _ => rfl
theorem bn_is_between {K : PySem.W.Frag} {mg : Str → Option Value} (T : Tx K mg) : Binds K (fdOf K (f_is_between K)) ["value", "least", "most"] [] := T.d_is_between.bindsN fun _ _ _ _ _ _ us hl => match us, hl with | [_, _, _], _ => rfl
theorem bn_is_list {K : PySem.W.Frag} {mg : Str → Option Value} (T : Tx K mg) : Binds K (fdOf K (f_is_list K)) ["value"] [] := T.d_is_list.bindsN fun _ _ _ _ _ _ us hl => match us, hl with | [_], _ => rfl
theorem bn_is_tuple_of {K : PySem.W.Frag} {mg : Str → Option Value} (T : Tx K mg) : Binds K (fdOf K (f_is_tuple_of K)) ["value", "size"] [] := T.d_is_tuple_of.bindsN fun _ _ _ _ _ _ us hl => match us, hl with | [_, _], _ => rfl
theorem bn_is_sign {K : PySem.W.Frag} {mg : Str → Option Value} (T : Tx K mg) : Binds K (fdOf K (f_is_sign K)) ["font", "value"] [] := T.d_is_sign.bindsN fun _ _ _ _ _ _ us hl => match us, hl with | [_, _], _ => rfl
theorem bn_is_kind {K : PySem.W.Frag} {mg : Str → Option Value} (T : Tx K mg) : Binds K (fdOf K (f_is_kind K)) ["font", "value"] [] := T.d_is_kind.bindsN fun _ _ _ _ _ _ us hl => match us, hl with | [_, _], _ => rfl
theorem bn_need_kind {K : PySem.W.Frag} {mg : Str → Option Value} (T : Tx K mg) : Binds K (fdOf K (f_need_kind K)) ["font", "value"] [] := T.d_need_kind.bindsN fun _ _ _ _ _ _ us hl => match us, hl with | [_, _], _ => rfl
theorem bn_need_sign {K : PySem.W.Frag} {mg : Str → Option Value} (T : Tx K mg) : Binds K (fdOf K (f_need_sign K)) ["font", "value"] [] := T.d_need_sign.bindsN fun _ _ _ _ _ _ us hl => match us, hl with | [_, _], _ => rfl
theorem bn_number_of_sets {K : PySem.W.Frag} {mg : Str → Option Value} (T : Tx K mg) : Binds K (fdOf K (f_number_of_sets K)) ["font"] [] := T.d_number_of_sets.bindsN fun _ _ _ _ _ _ us hl => match us, hl with | [_], _ => rfl
theorem bn_mask_of {K : PySem.W.Frag} {mg : Str → Option Value} (T : Tx K mg) : Binds K (fdOf K (f_mask_of K)) ["font", "signs"] [] := T.d_mask_of.bindsN fun _ _ _ _ _ _ us hl => match us, hl with | [_, _], _ => rfl
theorem bn_bearings_of {K : PySem.W.Frag} {mg : Str → Option Value} (T : Tx K mg) : Binds K (fdOf K (f_bearings_of K)) ["font", "stock"] [] := T.d_bearings_of.bindsN fun _ _ _ _ _ _ us hl => match us, hl with | [_, _], _ => rfl
theorem bn_wants_by_mask {K : PySem.W.Frag} {mg : Str → Option Value} (T : Tx K mg) : Binds K (fdOf K (f_wants_by_mask K)) ["font", "amounts"] [] := T.d_wants_by_mask.bindsN fun _ _ _ _ _ _ us hl => match us, hl with | [_, _], _ => rfl
theorem bn_stock_of {K : PySem.W.Frag} {mg : Str → Option Value} (T : Tx K mg) : Binds K (fdOf K (f_stock_of K)) ["case"] [] := T.d_stock_of.bindsN fun _ _ _ _ _ _ us hl => match us, hl with | [_], _ => rfl
theorem bn_amounts_of {K : PySem.W.Frag} {mg : Str → Option Value} (T : Tx K mg) : Binds K (fdOf K (f_amounts_of K)) ["wants"] [] := T.d_amounts_of.bindsN fun _ _ _ _ _ _ us hl => match us, hl with | [_], _ => rfl
theorem bn_slacks {K : PySem.W.Frag} {mg : Str → Option Value} (T : Tx K mg) : Binds K (fdOf K (f_slacks K)) ["font", "stock", "amounts"] [] := T.d_slacks.bindsN fun _ _ _ _ _ _ us hl => match us, hl with | [_, _, _], _ => rfl
theorem bn_slacks_of {K : PySem.W.Frag} {mg : Str → Option Value} (T : Tx K mg) : Binds K (fdOf K (f_slacks_of K)) ["case", "wants"] [] := T.d_slacks_of.bindsN fun _ _ _ _ _ _ us hl => match us, hl with | [_, _], _ => rfl
theorem bn_need_hanging {K : PySem.W.Frag} {mg : Str → Option Value} (T : Tx K mg) : Binds K (fdOf K (f_need_hanging K)) ["case", "wants"] [] := T.d_need_hanging.bindsN fun _ _ _ _ _ _ us hl => match us, hl with | [_, _], _ => rfl
theorem bn_most_here {K : PySem.W.Frag} {mg : Str → Option Value} (T : Tx K mg) : Binds K (fdOf K (f_most_here K)) ["numbers", "shown", "at"] [] := T.d_most_here.bindsN fun _ _ _ _ _ _ us hl => match us, hl with | [_, _, _], _ => rfl
theorem bn_use_range {K : PySem.W.Frag} {mg : Str → Option Value} (T : Tx K mg) : Binds K (fdOf K (f_use_range K)) ["case", "wants", "kind", "sign"] [] := T.d_use_range.bindsN fun _ _ _ _ _ _ us hl => match us, hl with | [_, _, _, _], _ => rfl
theorem bn_is_font_text {K : PySem.W.Frag} {mg : Str → Option Value} (T : Tx K mg) : Binds K (fdOf K (f_is_font_text K)) ["value", "most"] [] := T.d_is_font_text.bindsN fun _ _ _ _ _ _ us hl => match us, hl with | [_, _], _ => rfl
theorem bn_are_turns {K : PySem.W.Frag} {mg : Str → Option Value} (T : Tx K mg) : Binds K (fdOf K (f_are_turns K)) ["value", "ranks"] [] := T.d_are_turns.bindsN fun _ _ _ _ _ _ us hl => match us, hl with | [_, _], _ => rfl
theorem bn_Font_eq {K : PySem.W.Frag} {mg : Str → Option Value} (T : Tx K mg) : Binds K (fdOf K (f_Font_eq K)) ["self", "other"] [] := T.d_Font_eq.bindsN fun _ _ _ _ _ _ us hl => match us, hl with | [_, _], _ => rfl
theorem bn_Font_len {K : PySem.W.Frag} {mg : Str → Option Value} (T : Tx K mg) : Binds K (fdOf K (f_Font_len K)) ["self"] [] := T.d_Font_len.bindsN fun _ _ _ _ _ _ us hl => match us, hl with | [_], _ => rfl
theorem bn_Font_signs {K : PySem.W.Frag} {mg : Str → Option Value} (T : Tx K mg) : Binds K (fdOf K (f_Font_signs K)) ["self"] [] := T.d_Font_signs.bindsN fun _ _ _ _ _ _ us hl => match us, hl with | [_], _ => rfl
theorem bn_Font_ascending {K : PySem.W.Frag} {mg : Str → Option Value} (T : Tx K mg) : Binds K (fdOf K (f_Font_ascending K)) ["self", "signs"] [] := T.d_Font_ascending.bindsN fun _ _ _ _ _ _ us hl => match us, hl with | [_, _], _ => rfl
theorem bn_Font_normal {K : PySem.W.Frag} {mg : Str → Option Value} (T : Tx K mg) : Binds K (fdOf K (f_Font_normal K)) ["self", "kind"] [] := T.d_Font_normal.bindsN fun _ _ _ _ _ _ us hl => match us, hl with | [_, _], _ => rfl
theorem bn_Font_seen {K : PySem.W.Frag} {mg : Str → Option Value} (T : Tx K mg) : Binds K (fdOf K (f_Font_seen K)) ["self", "kind"] [] := T.d_Font_seen.bindsN fun _ _ _ _ _ _ us hl => match us, hl with | [_, _], _ => rfl
theorem bn_kind_key {K : PySem.W.Frag} {mg : Str → Option Value} (T : Tx K mg) : Binds K (fdOf K (f_kind_key K)) ["font", "kind"] [] := T.d_kind_key.bindsN fun _ _ _ _ _ _ us hl => match us, hl with | [_, _], _ => rfl
theorem bn_ordered {K : PySem.W.Frag} {mg : Str → Option Value} (T : Tx K mg) : Binds K (fdOf K (f_ordered K)) ["font", "counts"] [] := T.d_ordered.bindsN fun _ _ _ _ _ _ us hl => match us, hl with | [_, _], _ => rfl
theorem bn_checked_counts {K : PySem.W.Frag} {mg : Str → Option Value} (T : Tx K mg) : Binds K (fdOf K (f_checked_counts K)) ["font", "plates"] [] := T.d_checked_counts.bindsN fun _ _ _ _ _ _ us hl => match us, hl with | [_, _], _ => rfl
theorem bn_Pile_init {K : PySem.W.Frag} {mg : Str → Option Value} (T : Tx K mg) : Binds K (fdOf K (f_Pile_init K)) ["self", "font", "counts"] [] := T.d_Pile_init.bindsN fun _ _ _ _ _ _ us hl => match us, hl with | [_, _, _], _ => rfl
theorem bn_Pile_font {K : PySem.W.Frag} {mg : Str → Option Value} (T : Tx K mg) : Binds K (fdOf K (f_Pile_font K)) ["self"] [] := T.d_Pile_font.bindsN fun _ _ _ _ _ _ us hl => match us, hl with | [_], _ => rfl
theorem bn_Pile_plates {K : PySem.W.Frag} {mg : Str → Option Value} (T : Tx K mg) : Binds K (fdOf K (f_Pile_plates K)) ["self"] [] := T.d_Pile_plates.bindsN fun _ _ _ _ _ _ us hl => match us, hl with | [_], _ => rfl
theorem bn_Case_getitem {K : PySem.W.Frag} {mg : Str → Option Value} (T : Tx K mg) : Binds K (fdOf K (f_Case_getitem K)) ["self", "kind"] [] := T.d_Case_getitem.bindsN fun _ _ _ _ _ _ us hl => match us, hl with | [_, _], _ => rfl
theorem bn_are_counts {K : PySem.W.Frag} {mg : Str → Option Value} (T : Tx K mg) : Binds K (fdOf K (f_are_counts K)) ["font", "value"] [] := T.d_are_counts.bindsN fun _ _ _ _ _ _ us hl => match us, hl with | [_, _], _ => rfl
theorem bn_Wants_init {K : PySem.W.Frag} {mg : Str → Option Value} (T : Tx K mg) : Binds K (fdOf K (f_Wants_init K)) ["self", "font", "counts"] [] := T.d_Wants_init.bindsN fun _ _ _ _ _ _ us hl => match us, hl with | [_, _, _], _ => rfl
theorem bn_Wants_getitem {K : PySem.W.Frag} {mg : Str → Option Value} (T : Tx K mg) : Binds K (fdOf K (f_Wants_getitem K)) ["self", "sign"] [] := T.d_Wants_getitem.bindsN fun _ _ _ _ _ _ us hl => match us, hl with | [_, _], _ => rfl
theorem bn_Wants_font {K : PySem.W.Frag} {mg : Str → Option Value} (T : Tx K mg) : Binds K (fdOf K (f_Wants_font K)) ["self"] [] := T.d_Wants_font.bindsN fun _ _ _ _ _ _ us hl => match us, hl with | [_], _ => rfl
theorem bn__law_pen {K : PySem.W.Frag} {mg : Str → Option Value} (T : Tx K mg) : Binds K (fdOf K (f__law_pen K)) ["_law_script"] [] := T.d__law_pen.bindsN fun _ _ _ _ _ _ us hl => match us, hl with | [_], _ => rfl
theorem bn__law_draw {K : PySem.W.Frag} {mg : Str → Option Value} (T : Tx K mg) : Binds K (fdOf K (f__law_draw K)) ["_law_pen_here", "_law_many"] [] := T.d__law_draw.bindsN fun _ _ _ _ _ _ us hl => match us, hl with | [_, _], _ => rfl
theorem bn__law_pick {K : PySem.W.Frag} {mg : Str → Option Value} (T : Tx K mg) : Binds K (fdOf K (f__law_pick K)) ["_law_pen_here", "_law_some"] [] := T.d__law_pick.bindsN fun _ _ _ _ _ _ us hl => match us, hl with | [_, _], _ => rfl
theorem bn__law_shuffled {K : PySem.W.Frag} {mg : Str → Option Value} (T : Tx K mg) : Binds K (fdOf K (f__law_shuffled K)) ["_law_pen_here", "_law_items"] [] := T.d__law_shuffled.bindsN fun _ _ _ _ _ _ us hl => match us, hl with | [_, _], _ => rfl
theorem bn__law_font {K : PySem.W.Frag} {mg : Str → Option Value} (T : Tx K mg) : Binds K (fdOf K (f__law_font K)) ["_law_pen_here", "_law_fewest", "_law_most"] [] := T.d__law_font.bindsN fun _ _ _ _ _ _ us hl => match us, hl with | [_, _, _], _ => rfl
theorem bn__law_turns {K : PySem.W.Frag} {mg : Str → Option Value} (T : Tx K mg) : Binds K (fdOf K (f__law_turns K)) ["_law_pen_here", "_law_font_here"] [] := T.d__law_turns.bindsN fun _ _ _ _ _ _ us hl => match us, hl with | [_, _], _ => rfl
theorem bn__law_made_font {K : PySem.W.Frag} {mg : Str → Option Value} (T : Tx K mg) : Binds K (fdOf K (f__law_made_font K)) ["_law_pen_here", "_law_font_here"] [] := T.d__law_made_font.bindsN fun _ _ _ _ _ _ us hl => match us, hl with | [_, _], _ => rfl
theorem bn__law_shows {K : PySem.W.Frag} {mg : Str → Option Value} (T : Tx K mg) : Binds K (fdOf K (f__law_shows K)) ["_law_font_here", "_law_kind"] [] := T.d__law_shows.bindsN fun _ _ _ _ _ _ us hl => match us, hl with | [_, _], _ => rfl
theorem bn__law_kinds {K : PySem.W.Frag} {mg : Str → Option Value} (T : Tx K mg) : Binds K (fdOf K (f__law_kinds K)) ["_law_font_here"] [] := T.d__law_kinds.bindsN fun _ _ _ _ _ _ us hl => match us, hl with | [_], _ => rfl
theorem bn__law_stock {K : PySem.W.Frag} {mg : Str → Option Value} (T : Tx K mg) : Binds K (fdOf K (f__law_stock K)) ["_law_pen_here", "_law_font_here", "_law_most", "_law_great"] [] := T.d__law_stock.bindsN fun _ _ _ _ _ _ us hl => match us, hl with | [_, _, _, _], _ => rfl
theorem bn__law_made_case {K : PySem.W.Frag} {mg : Str → Option Value} (T : Tx K mg) : Binds K (fdOf K (f__law_made_case K)) ["_law_pen_here", "_law_house", "_law_stock_here"] [] := T.d__law_made_case.bindsN fun _ _ _ _ _ _ us hl => match us, hl with | [_, _, _], _ => rfl
theorem bn__law_planned {K : PySem.W.Frag} {mg : Str → Option Value} (T : Tx K mg) : Binds K (fdOf K (f__law_planned K)) ["_law_pen_here", "_law_font_here", "_law_stock_here"] [] := T.d__law_planned.bindsN fun _ _ _ _ _ _ us hl => match us, hl with | [_, _, _], _ => rfl
theorem bn__law_shown {K : PySem.W.Frag} {mg : Str → Option Value} (T : Tx K mg) : Binds K (fdOf K (f__law_shown K)) ["_law_font_here", "_law_plan"] [] := T.d__law_shown.bindsN fun _ _ _ _ _ _ us hl => match us, hl with | [_, _], _ => rfl
theorem bn__law_made_wants {K : PySem.W.Frag} {mg : Str → Option Value} (T : Tx K mg) : Binds K (fdOf K (f__law_made_wants K)) ["_law_pen_here", "_law_house", "_law_need"] [] := T.d__law_made_wants.bindsN fun _ _ _ _ _ _ us hl => match us, hl with | [_, _, _], _ => rfl
theorem bn__law_sets {K : PySem.W.Frag} {mg : Str → Option Value} (T : Tx K mg) : Binds K (fdOf K (f__law_sets K)) ["_law_signs"] [] := T.d__law_sets.bindsN fun _ _ _ _ _ _ us hl => match us, hl with | [_], _ => rfl
theorem bn__law_gaps {K : PySem.W.Frag} {mg : Str → Option Value} (T : Tx K mg) : Binds K (fdOf K (f__law_gaps K)) ["_law_font_here", "_law_stock_here", "_law_need"] [] := T.d__law_gaps.bindsN fun _ _ _ _ _ _ us hl => match us, hl with | [_, _, _], _ => rfl
theorem bn__law_rest_hangs {K : PySem.W.Frag} {mg : Str → Option Value} (T : Tx K mg) : Binds K (fdOf K (f__law_rest_hangs K)) ["_law_font_here", "_law_stock_here", "_law_need", "_law_kind", "_law_sign", "_law_number"] [] := T.d__law_rest_hangs.bindsN fun _ _ _ _ _ _ us hl => match us, hl with | [_, _, _, _, _, _], _ => rfl
theorem bn__law_hangs_barred {K : PySem.W.Frag} {mg : Str → Option Value} (T : Tx K mg) : Binds K (fdOf K (f__law_hangs_barred K)) ["_law_font_here", "_law_stock_here", "_law_need", "_law_kind", "_law_sign", "_law_number"] [] := T.d__law_hangs_barred.bindsN fun _ _ _ _ _ _ us hl => match us, hl with | [_, _, _, _, _, _], _ => rfl
theorem bn_law {K : PySem.W.Frag} {mg : Str → Option Value} (T : Tx K mg) : Binds K (fdOf K (f_law K)) ["_law_script"] [] := T.d_law.bindsN fun _ _ _ _ _ _ us hl => match us, hl with | [_], _ => rfl
end P38

set_option Elab.async false
set_option linter.all false
set_option maxRecDepth 100000
set_option maxHeartbeats 4000000
namespace P38
open PySem PySem.Spec PyProof.Rows L2 Evl
/-! built-ins by their names -/
theorem bt_len : bootBuiltins "len" = some (.builtin "len") := by decide +kernel
theorem bt_abs : bootBuiltins "abs" = some (.builtin "abs") := by decide +kernel
theorem bt_isinstance : bootBuiltins "isinstance" = some (.builtin "isinstance") := by decide +kernel
theorem bt_sum : bootBuiltins "sum" = some (.builtin "sum") := by decide +kernel
theorem bt_all : bootBuiltins "all" = some (.builtin "all") := by decide +kernel
theorem bt_min : bootBuiltins "min" = some (.builtin "min") := by decide +kernel
theorem bt_max : bootBuiltins "max" = some (.builtin "max") := by decide +kernel
theorem bt_int : bootBuiltins "int" = some (.type "int") := by decide +kernel
theorem bt_bool : bootBuiltins "bool" = some (.type "bool") := by decide +kernel
theorem bt_str : bootBuiltins "str" = some (.type "str") := by decide +kernel
theorem bt_list : bootBuiltins "list" = some (.type "list") := by decide +kernel
theorem bt_tuple : bootBuiltins "tuple" = some (.type "tuple") := by decide +kernel
theorem bt_dict : bootBuiltins "dict" = some (.type "dict") := by decide +kernel
/-! more rules by values -/
section
variable {X : Cx}
theorem pe_gs {x z : Str} {pos : Pos} (hg : Gl X x) (hm : ∃ t, X.mg x = some (.str z t)) (hd : (x == ("__debug__" : Str)) = false := by decide) : PE X (.Name x pos) (tC (.str z)) := by
  obtain ⟨t, hm⟩ := hm
  exact pe_glob hg hm ⟨t, rfl⟩ hd
theorem pe_gi {x : Str} {i : Int} {pos : Pos} (hg : Gl X x) (hm : ∃ t, X.mg x = some (.int i t)) (hd : (x == ("__debug__" : Str)) = false := by decide) : PE X (.Name x pos) (tC (.int i)) := by
  obtain ⟨t, hm⟩ := hm
  exact pe_glob hg hm ⟨t, rfl⟩ hd
/-- isinstance of a value of a built-in type -/
def rIs (K : PySem.W.Frag) (t n : String) (b : Bool) : List V → Hp → VK → Prop := fun xs H Q => ∃ x, xs = [x, .ty n] ∧ TyX K H x (.type t) ∧ Q (.bl b) H
theorem call_is (t n : String) (b : Bool) (h : kitB t n = some b) : CallR X (.builtin "isinstance") (rIs X.K t n b) := by
  intro pins s σ H xs us Q I r hq
  obtain ⟨x, rfl, ty, q⟩ := hq
  exact call_isi pins s σ H _ us Q I r ⟨x, .ty n, .type t, .type n, b, rfl, .ty n, ty, kit_ty h, q⟩
/-- isinstance(x, (list, tuple)) -/
def rIsLT (K : PySem.W.Frag) : List V → Hp → VK → Prop := fun xs H Q => ∃ x tp, xs = [x, .ref tp] ∧ H tp = some (.tup [.ty "list", .ty "tuple"]) ∧ (TyX K H x (.type "list") ∨ TyX K H x (.type "tuple")) ∧ Q (.bl true) H
theorem call_isLT : CallR X (.builtin "isinstance") (rIsLT X.K) := by
  intro pins s σ H xs us Q I r hq
  obtain ⟨x, tp, rfl, ht, ty, q⟩ := hq
  have k1 : kitB "list" "list" = some true := by decide +kernel
  have k2 : kitB "tuple" "list" = some false := by decide +kernel
  have k3 : kitB "tuple" "tuple" = some true := by decide +kernel
  have cl : Paired ClsV [.ty "list", .ty "tuple"] [.type "list", .type "tuple"] := .cons (.ty _) (.cons (.ty _) .nil)
  rcases ty with ty | ty
  · exact call_isiT pins s σ H _ us Q I r ⟨x, tp, _, .type "list", _, true, rfl, ht, cl, ty, kitAny_cons (kit_ty k1) (fun z => nomatch z) (fun _ => rfl), q⟩
  · exact call_isiT pins s σ H _ us Q I r ⟨x, tp, _, .type "tuple", _, true, rfl, ht, cl, ty, kitAny_cons (kit_ty k2) (fun _ => kitAny_cons (kit_ty k3) (fun z => nomatch z) (fun _ => rfl)) (fun z => nomatch z), q⟩
/-- isinstance(x, C) of an own instance of C -/
def rIsC (C : Addr) : List V → Hp → VK → Prop := fun xs H Q => ∃ a dx fs, xs = [.ref a, .ref C] ∧ H a = some (.ins C dx fs) ∧ Q (.bl true) H
/-- s.index(t), t stands in s -/
def rIdx : V → List V → Hp → VK → Prop := fun x xs H Q => ∃ (a b : Str) (k : Nat), x = .str a ∧ xs = [.str b] ∧ Txt.index0 a b = some k ∧ Q (.int (k : Nat)) H
theorem mt_idx (hc : X.calm = true) : MtR X "str.index" rIdx := by
  intro pins s σ H x xs v us Q I rx rs h
  obtain ⟨a, b, k, rfl, rfl, e, q⟩ := h
  exact mt_indexX (W := fun _ _ _ _ => False) hc LamX.takes0 pins s σ H _ _ v us Q I rx rs ⟨a, b, rfl, rfl, fun j ej => by rw [e] at ej; cases ej; exact q, fun n => by rw [e] at n; cases n⟩
/-- '-' * 2 -/
def rBl2 : R2 := fun x y H Q => x = .str "-" ∧ y = .int 2 ∧ Q (.str "--") H
theorem op_bl2 : OpR X (binaryOp .Mult) rBl2 := by
  intro pins s σ H x y v u Q I rx ry h
  obtain ⟨rfl, rfl, q⟩ := h
  obtain ⟨t, rfl⟩ := rx
  obtain ⟨t', rfl⟩ := ry
  have e : (List.replicate (2 : Int).toNat (("-" : Str)).cps).foldl (· ++ ·) #[] = ("--" : Str).cps := by decide +kernel
  refine PySem.P.mul_str (by decide +kernel) (fun _ _ => by decide +kernel) (fun _ _ => by decide +kernel) ?_
  rw [if_neg (by decide), if_neg (by decide +kernel), e]
  exact ⟨by decide +kernel, .str _, H, I.tok _, ⟨_, rfl⟩, q⟩
/-- dict(d) -/
def rDcopy : List V → Hp → VK → Prop := fun xs H Q => ∃ d kvs, xs = [.ref d] ∧ Rd H d (.dK kvs) ∧ ∀ p, H p = none → Q (.ref p) (upd H p (.dK kvs))
theorem call_dcopy : CallR X (.type "dict") rDcopy := by
  intro pins s σ H xs us Q I r h
  obtain ⟨d, kvs, rfl, hd, q⟩ := h
  obtain rfl := Vals.ref1 r
  exact d_copyOf I hd fun p s' hp I' => ⟨.ref p, _, I', rfl, q p hp⟩
end
/-! the same rules, the written part named by itself (within a comprehension's block) -/
section
variable {X : Cx} {K : PySem.W.Frag}
theorem pe_fldK {e : Expr} {f : Str} {pos : Pos} {ta : TE} (hK : X.K = K) (he : PE X e ta) (hb : attributeBase e f X.env (eval e X.env) = eval e X.env) : PE X (.Attribute e f pos) (tFld K ta f) := by
  subst hK
  exact pe_fld he hb
theorem op_in_seqK (hK : X.K = K) : OpR X (compareOp .In) (rIn K false) := by
  subst hK
  exact op_in_seq
theorem op_eqDK (hK : X.K = K) (hu : X.A.units + 64 < cLine) : OpR X (compareOp .Eq) (rEqD K) := by
  subst hK
  exact op_eqD hu
theorem op_neDK (hK : X.K = K) (hu : X.A.units + 64 < cLine) : OpR X (compareOp .NotEq) (rNeD K) := by
  subst hK
  exact op_neD hu
theorem cr_sumK (hK : X.K = K) (hc : X.calm = true) : CallR X (.builtin "sum") (rSum K) := by
  subst hK
  exact cr_sum hc
theorem cr_allK (hK : X.K = K) (hc : X.calm = true) : CallR X (.builtin "all") (rAll K) := by
  subst hK
  exact cr_all hc
theorem call_isK (hK : X.K = K) (t n : String) (b : Bool) (h : kitB t n = some b) : CallR X (.builtin "isinstance") (rIs K t n b) := by
  subst hK
  exact call_is t n b h
theorem call_len_seqK (hK : X.K = K) : CallR X (.builtin "len") (fun xs H Q => ∃ p ys, xs = [.ref p] ∧ (SqL K H p ys ∨ SqT K H p ys) ∧ Q (.int ys.length) H) := by
  subst hK
  exact call_len_seq
theorem ix_listK (hK : X.K = K) : IxR X (rIxL K) := by
  subst hK
  exact ix_list
theorem ix_tupK (hK : X.K = K) : IxR X (rIxT K) := by
  subst hK
  exact ix_tup
theorem pg_tupK {es : List Expr} {k : Nat} {t : TGs} {n : Nat} {pos : Pos} (hK : X.K = K) (hc : X.calm = true) (h : PGs X es t) (hn : (assignEach es X.env).length = n := by rfl) (hst : (assignEach es X.env).findIdx? (·.1) = none := by rfl) : PG X (.Tuple es k pos) (gTup K n t) := by
  subst hK
  exact pg_tup hc h hn hst
theorem pi_listK {tg l : Expr} {tl : TE} (hK : X.K = K) (hl : PE X l tl) : PI X tg l (iList K tl) := by
  subst hK
  exact pi_list hl
theorem pe_joinK {o e : Expr} {to te : TE} {apos pos : Pos} (hK : X.K = K) (ho : PE X o to) (he : PE X e te) (hs : starEach [e] X.env = [(false, eval e X.env)] := by rfl) (hbase : attributeBase o "join" X.env (eval o X.env) = eval o X.env := by rfl) (hline : (apos.endLine == pos.line) = true := by rfl) :
    PE X (.Call (.Attribute o "join" apos) [e] [] pos) (tM1 (fun x xs H Q => ∃ a p, ∃ ys : List Str, x = .str a ∧ xs = [.ref p] ∧ (SqL K H p (ys.map V.str) ∨ SqT K H p (ys.map V.str)) ∧
      (ys.map (·.length)).sum + ys.length * a.length ≤ 16777216 ∧ Q (.str (Txt.join a ys)) H) to te) := by
  subst hK
  exact pe_join ho he hs hbase hline
end
/-! what evaluates to what: more -/
section
variable {K : PySem.W.Frag} {σ : L2.St} {H H' : Hp} {ta tb te tx td ty : TE} {t u : TT} {x y z v : V} {r : R2}
theorem same_ex (e : Same H H') : Ex H H' := e
theorem ev_fld {f : Str} {a C dx : Addr} {fs : List (Str × V)} (h : Ev ta σ H (.ref a)) (ha : H a = some (.ins C dx fs)) (c : Cls K C) (n : NoAttr K C f) (hv : fs.lookup f = some v) : Ev (tFld K ta f) σ H v := fun H1 e Q q =>
  h H1 e _ fun H2 e2 => ⟨a, C, dx, fs, v, rfl, e2 _ _ (e _ _ ha), c, n, hv, q H2 e2⟩
theorem ev_con {f : Str} {a C dx : Addr} {fs : List (Str × V)} {w : Value} (h : Ev ta σ H (.ref a)) (ha : H a = some (.ins C dx fs)) (c : Cls K C) (n : Con K C f v w) (hv : fs.lookup f = none) : Ev (tCon K ta f) σ H v := fun H1 e Q q =>
  h H1 e _ fun H2 e2 => ⟨a, C, dx, fs, v, w, rfl, e2 _ _ (e _ _ ha), c, n, hv, q H2 e2⟩
theorem ev_dget {d : Addr} {kvs : List (Key × V)} {k : Key} (h : Ev td σ H (.ref d)) (hy : Ev ty σ H (kV k)) (hd : Rd H d (.dK kvs)) (hv : valV kvs k = some v) : Ev (tDGet td ty) σ H v := fun H1 e Q q =>
  h H1 e _ fun H2 e2 => hy H2 (e.trans e2) _ fun H3 e3 => ⟨d, v, rfl, .inl ⟨kvs, k, ex_rd ((e.trans e2).trans e3) hd, rfl, hv.symm⟩, q H3 (e2.trans e3)⟩
theorem ev_din {d : Addr} {kvs : List (Key × V)} {k : Key} (hy : Ev ty σ H (kV k)) (h : Ev td σ H (.ref d)) (hd : Rd H d (.dK kvs)) : Ev (tDIn ty td) σ H (.bl (valV kvs k).isSome) := fun H1 e Q q =>
  hy H1 e _ fun H2 e2 => h H2 (e.trans e2) _ fun H3 e3 => ⟨d, _, rfl, .inl ⟨kvs, k, ex_rd ((e.trans e2).trans e3) hd, rfl, rfl⟩, q H3 (e2.trans e3)⟩
theorem ev_dget2 {d : Addr} {kvs : List (Key × V)} {k : Key} (h : Ev td σ H (.ref d)) (hy : Ev ty σ H (kV k)) (hx : Ev tx σ H x) (hd : Rd H d (.dK kvs)) : Ev (tDGet2 td ty tx) σ H ((valV kvs k).getD x) := fun H1 e Q q =>
  h H1 e _ fun H2 e2 => ⟨d, rfl, .inl ⟨kvs, ex_rd (e.trans e2) hd⟩, hy H2 (e.trans e2) _ fun H3 e3 => hx H3 ((e.trans e2).trans e3) _ fun H4 e4 =>
    ⟨valV kvs k, .inl ⟨kvs, k, ex_rd (((e.trans e2).trans e3).trans e4) hd, rfl, rfl⟩, q H4 ((e2.trans e3).trans e4)⟩⟩
theorem ev_prop {C a dx : Addr} {fs : List (Str × V)} {sp : Sp} {E : XK} (h : Ev ta σ H (.ref a)) (ha : H a = some (.ins C dx fs)) (hs : SpV sp [.ref a] H z) : Ev (tProp C sp [] E ta) σ H z := fun H1 e Q q =>
  h H1 e _ fun H2 e2 => ⟨a, dx, fs, rfl, e2 _ _ (e _ _ ha), hs H2 (e.trans e2) Q (fun H3 e3 => q H3 (e2.trans e3)) E⟩
theorem ev_meth {C a dx : Addr} {fs : List (Str × V)} {m : Str} {sp : Sp} {E : XK} {ts : TA} {vs : List V} (h : Ev ta σ H (.ref a)) (ha : H a = some (.ins C dx fs)) (hm : fs.lookup m = none) (hv : EvA ts σ H vs) (hs : SpV sp (.ref a :: (vs ++ [])) H z) :
    Ev (tMeth C m sp [] E ta ts) σ H z := fun H1 e Q q =>
  h H1 e _ fun H2 e2 => ⟨a, dx, fs, rfl, e2 _ _ (e _ _ ha), hm, hv H2 (e.trans e2) _ fun H3 e3 => hs H3 ((e.trans e2).trans e3) Q (fun H4 e4 => q H4 ((e2.trans e3).trans e4)) E⟩
theorem ev_ixO {C a dx : Addr} {fs : List (Str × V)} {sp : Sp} {E : XK} (h : Ev ta σ H (.ref a)) (hy : Ev tb σ H y) (ha : H a = some (.ins C dx fs)) (hs : SpV sp [.ref a, y] H z) : Ev (tOp (rIxO C sp [] E) ta tb) σ H z := fun H1 e Q q =>
  h H1 e _ fun H2 e2 => hy H2 (e.trans e2) _ fun H3 e3 => ⟨a, dx, fs, rfl, e3 _ _ (e2 _ _ (e _ _ ha)), hs H3 ((e.trans e2).trans e3) Q (fun H4 e4 => q H4 ((e2.trans e3).trans e4)) E⟩
/-! calls of built-ins -/
theorem rc_is {t n : String} {b : Bool} (ty : ∀ H1, Ex H H1 → TyX K H1 x (.type t)) : RC (rIs K t n b) [x, .ty n] H (.bl b) := fun H1 e _ q => ⟨x, rfl, ty H1 e, q H1 (Ex.refl H1)⟩
theorem rc_lenS {w : Str} (h : w.length ≤ sizeLine) : RC (fun xs H Q => ∃ z, xs = [.str z] ∧ z.length ≤ sizeLine ∧ Q (.int z.length) H) [.str w] H (.int w.length) := fun H1 _ _ q => ⟨w, rfl, h, q H1 (Ex.refl H1)⟩
theorem rc_sum {a : Addr} {ns : List Int} (h : SqL K H a (ns.map V.int)) : RC (rSum K) [.ref a] H (.int ns.sum) := fun H1 e _ q => ⟨a, ns, rfl, ex_l e h, q H1 (Ex.refl H1)⟩
theorem rc_all {a : Addr} {bs : List Bool} (h : SqL K H a (bs.map V.bl)) : RC (rAll K) [.ref a] H (.bl (bs.all id)) := fun H1 e _ q => ⟨a, bs, rfl, ex_l e h, q H1 (Ex.refl H1)⟩
/-- sum of a new list, all of a new list -/
theorem ev_sumN {ns : List Int} (h : EvL te σ H (ns.map V.int)) : Ev (tCB (rSum K) (tCons te tNil)) σ H (.int ns.sum) := fun H1 e Q q =>
  h H1 e _ fun p H2 _ e2 hp => ⟨p, ns, rfl, sq_of hp, q H2 e2⟩
theorem ev_allN {bs : List Bool} (h : EvL te σ H (bs.map V.bl)) : Ev (tCB (rAll K) (tCons te tNil)) σ H (.bl (bs.all id)) := fun H1 e Q q =>
  h H1 e _ fun p H2 _ e2 hp => ⟨p, bs, rfl, sq_of hp, q H2 e2⟩
theorem ev_allT {bs : List V} (h : EvL te σ H bs) (ht : ∀ b ∈ bs, b = .bl true) : Ev (tCB (rAll K) (tCons te tNil)) σ H (.bl true) := by
  have e : bs = (List.replicate bs.length true).map V.bl := by
    rw [List.map_replicate]
    exact List.eq_replicate_iff.mpr ⟨rfl, ht⟩
  rw [e] at h
  have := ev_allN (K := K) h
  have e2 : (List.replicate bs.length true).all id = true := by
    rw [List.all_eq_true]
    intro x hx
    exact (List.eq_of_mem_replicate hx)
  rwa [e2] at this
end
/-! what is walked -/
/-- the iterable goes n turns, Y tells what it gives, whatever is made meanwhile -/
def EvW (wi : TI) (σ : L2.St) (H : Hp) (n : Nat) (Y : Nat → Hp → V → Hp → Prop) : Prop :=
  ∀ H1, Ex H H1 → ∀ R : It → Hp → Prop, (∀ (J : It) (G : Hp → Prop) (H2 : Hp), Ex H1 H2 → Walk J n G Y → (∀ H3, Ex H2 H3 → G H3) → R J H2) → wi σ H1 R
section
variable {K : PySem.W.Frag} {σ : L2.St} {H H' : Hp} {tl te td : TE} {t : TT} {g : TG} {ta : TA}
/-- a sign of a text -/
def YS (w : Str) : Nat → Hp → V → Hp → Prop := fun i H v H' => H' = H ∧ ∃ c, w.cps[i]? = some c ∧ v = .str ⟨#[c]⟩
theorem ew_list {a : Addr} {xs : List V} (h : Ev tl σ H (.ref a)) (hx : SqL K H a xs) : EvW (iList K tl) σ H xs.length (YAt xs) := fun H1 e R q =>
  h H1 e _ fun H2 e2 => ⟨a, rfl, ⟨xs, ex_l (e.trans e2) hx⟩, q _ _ H2 e2 (walk_list (xs := xs)) fun H3 e3 => ex_l ((e.trans e2).trans e3) hx⟩
theorem ew_listN {xs : List V} (h : EvL tl σ H xs) : EvW (iList K tl) σ H xs.length (YAt xs) := fun H1 e R q =>
  h H1 e _ fun p H2 _ e2 hp => ⟨p, rfl, ⟨xs, sq_of hp⟩, q _ _ H2 e2 (walk_list (xs := xs)) fun H3 e3 => sq_of (e3 _ _ hp)⟩
theorem ew_tup {a : Addr} {xs : List V} (h : Ev tl σ H (.ref a)) (hx : SqT K H a xs) : EvW (iTup K tl) σ H xs.length (YAt xs) := fun H1 e R q =>
  h H1 e _ fun H2 e2 => ⟨a, rfl, ⟨xs, ex_t (e.trans e2) hx⟩, q _ _ H2 e2 (walk_tup (xs := xs)) fun H3 e3 => ex_t ((e.trans e2).trans e3) hx⟩
theorem ew_tupN {xs : List V} (h : EvU tl σ H xs) : EvW (iTup K tl) σ H xs.length (YAt xs) := fun H1 e R q =>
  h H1 e _ fun p H2 _ e2 hp => ⟨p, rfl, ⟨xs, st_of hp⟩, q _ _ H2 e2 (walk_tup (xs := xs)) fun H3 e3 => st_of (e3 _ _ hp)⟩
theorem ew_str {w : Str} (h : Ev tl σ H (.str w)) : EvW (iStr tl) σ H w.cps.size (YS w) := fun H1 e R q =>
  h H1 e _ fun H2 e2 => ⟨w, rfl, q _ _ H2 e2 walk_str fun _ _ => trivial⟩
theorem ew_range1 {n : Int} (h : EvA ta σ H [.int n]) (hn : 0 ≤ n ∧ n ≤ 100000) : EvW (iRng1 ta) σ H n.toNat (YFn fun i => .int (0 + i)) := fun H1 e R q =>
  h H1 e _ fun H2 e2 => ⟨n, rfl, by omega, by omega, q _ _ H2 e2 walk_range fun _ _ => trivial⟩
theorem ew_range2 {lo n : Int} (h : EvA ta σ H [.int lo, .int n]) (hn : 0 ≤ lo ∧ lo ≤ 100000 ∧ 0 ≤ n ∧ n ≤ 100000) : EvW (iRng2 ta) σ H (n - lo).toNat (YFn fun i => .int (lo + i)) := fun H1 e R q =>
  h H1 e _ fun H2 e2 => ⟨lo, n, rfl, ⟨by omega, by omega, by omega, by omega⟩, q _ _ H2 e2 walk_range fun _ _ => trivial⟩
theorem ew_enum {a : Addr} {xs : List V} (h : EvA ta σ H [.ref a]) (hx : SqL K H a xs) : EvW (iEnum K ta) σ H xs.length (YPair (fun i => some (.int (i : Nat))) (fun i => xs[i]?)) := fun H1 e R q =>
  h H1 e _ fun H2 e2 => ⟨a, xs, rfl, ex_l (e.trans e2) hx, q _ _ H2 e2 walk_enum fun H3 e3 => ex_l ((e.trans e2).trans e3) hx⟩
theorem ew_enumS {w : Str} (h : EvA ta σ H [.str w]) : EvW (iEnumS ta) σ H w.cps.size (YPair (fun i => some (.int (i : Nat))) (fun i => w.cps[i]?.map fun c => .str ⟨#[c]⟩)) := fun H1 e R q =>
  h H1 e _ fun H2 e2 => ⟨w, rfl, q _ _ H2 e2 walk_enumS fun _ _ => trivial⟩
theorem ew_keys {d : Addr} {o : Obj} {kvs : List (Key × V)} (h : Ev td σ H (.ref d)) (hd : H d = some (.frz o (.dK kvs))) : EvW (iKeys td) σ H kvs.length (fun i H x H' => H' = H ∧ ∃ k v, kvs[i]? = some (k, v) ∧ x = kV k) := fun H1 e R q =>
  h H1 e _ fun H2 e2 => ⟨d, o, rfl, .inl ⟨kvs, e2 _ _ (e _ _ hd), q _ _ H2 e2 walk_keys fun H3 e3 => e3 _ _ (e2 _ _ (e _ _ hd))⟩⟩
theorem ew_vals {d : Addr} {o : Obj} {kvs : List (Key × V)} (h : Ev td σ H (.ref d)) (hd : H d = some (.frz o (.dK kvs))) : EvW (iVals td) σ H kvs.length (fun i H x H' => H' = H ∧ ∃ k, kvs[i]? = some (k, x)) := fun H1 e R q =>
  h H1 e _ fun H2 e2 => ⟨d, o, kvs, rfl, e2 _ _ (e _ _ hd), q _ _ H2 e2 walk_values fun H3 e3 => e3 _ _ (e2 _ _ (e _ _ hd))⟩
/-- a locked dict read by a comprehension -/
theorem el_lock {d : Addr} {u : HO} {xs : List V} (hd : H d = some u) (mu : Mut (some u)) (h : ∀ od, EvL te σ (upd H d (.frz od u)) xs) : EvL (tLockE te) σ H xs := fun H1 e Q q => by
  refine ⟨d, u, e _ _ hd, mu, fun od => ?_⟩
  have e1 : Ex (upd H d (.frz od u)) (upd H1 d (.frz od u)) := fun b o hb => by
    by_cases c : b = d
    · rw [c, upd_same] at hb ⊢
      exact hb
    · rw [upd_ne c] at hb ⊢
      exact e b o hb
  refine h od _ e1 _ fun p H2 hp e2 h2 => ?_
  have hf : H2 d = some (.frz od u) := e2 _ _ upd_same
  have npd : p ≠ d := fun z => by
    rw [z, upd_same] at hp
    cases hp
  rw [upd_ne npd] at hp
  refine ⟨hf, q p _ hp (fun b o hb => ?_) (by rw [upd_ne npd]; exact h2)⟩
  by_cases c : b = d
  · rw [c] at hb ⊢
    rw [upd_same, ← hb]
    exact (e _ _ hd).symm
  · rw [upd_ne c]
    exact e2 b o (by rw [upd_ne c]; exact hb)
/-- a comprehension over any walk: which turns give, and what -/
theorem el_lc {wi : TI} {n : Nat} {Y : Nat → Hp → V → Hp → Prop} {vs : List Nat} (f : Nat → Bool) (v : Nat → V) (hw : EvW wi σ H n Y) (hn : n ≤ 40000)
    (step : ∀ i x H1 H2, i < n → Ex H H1 → Y i H1 x H2 → ∃ σ2, Ex H1 H2 ∧ (∀ Q : L2.St → Hp → Prop, Q σ2 H2 → g x (wipe σ vs) H2 Q) ∧ wipe σ2 vs = wipe σ vs ∧ EvT t σ2 H2 (f i) ∧ (f i = true → Ev te σ2 H2 (v i))) :
    EvL (tLc wi g t te vs) σ H (given n f v) := fun H0 e Q q => hw H0 e _ fun J G H1 e1 w hG D hD => by
  refine lc_it w (Cw H1 f v D) ⟨hD, Ex.new hD, upd_same⟩ (fun i H' _ p => hG H' p.2.1) (fun i x H3 H4 hi p y => ?_) fun H' p => q D H' (fresh_back e1 p.1) (e1.trans p.2.1) p.2.2
  obtain ⟨σ2, e2, hg, hwp, ht, he⟩ := step i x H3 H4 hi ((e.trans e1).trans p.2.1) y
  have h4 : Ex H1 H4 := p.2.1.trans e2
  have d4 : H4 D = some (.lst (given i f v)) := e2 _ _ p.2.2
  refine hg _ ⟨hwp, ht H4 (Ex.refl _) _ fun H5 e5 => ?_⟩
  cases hf : f i with
  | false => exact ⟨p.1, h4.trans e5, by rw [given_no hf]; exact e5 _ _ d4⟩
  | true => exact he hf H5 e5 _ fun H6 e6 => ⟨given i f v, e6 _ _ (e5 _ _ d4), sz_lt (by have := given_len i f v; omega), p.1, Ex.mut ((h4.trans e5).trans e6) p.1, by rw [given_yes hf]; exact upd_same⟩
/-- the same where the target is a name -/
theorem el_lc1 {wi : TI} {n j : Nat} {xs : Nat → Option V} {vs : List Nat} (f : Nat → Bool) (v : Nat → V) (hw : EvW wi σ H n fun i H x H' => H' = H ∧ xs i = some x) (hn : n ≤ 40000) (hwp : ∀ x, wipe ((wipe σ vs).set j (some x)) vs = wipe σ vs)
    (step : ∀ i x H1, i < n → Ex H H1 → xs i = some x → EvT t ((wipe σ vs).set j (some x)) H1 (f i) ∧ (f i = true → Ev te ((wipe σ vs).set j (some x)) H1 (v i))) :
    EvL (tLc wi (gName j) t te vs) σ H (given n f v) :=
  el_lc f v hw hn fun i x H1 H2 hi e y => by
    obtain ⟨rfl, hx⟩ := y
    exact ⟨_, Ex.refl _, fun Q q => q, hwp x, step i x _ hi e hx⟩
/-- the same, G said -/
def EvG (wi : TI) (σ : L2.St) (H : Hp) (n : Nat) (G : Hp → Prop) (Y : Nat → Hp → V → Hp → Prop) : Prop :=
  ∀ H1, Ex H H1 → ∀ R : It → Hp → Prop, (∀ (J : It) (H2 : Hp), Ex H1 H2 → Walk J n G Y → R J H2) → wi σ H1 R
theorem eg_list {a : Addr} {xs : List V} (h : Ev tl σ H (.ref a)) (hx : SqL K H a xs) : EvG (iList K tl) σ H xs.length (fun H => SqL K H a xs) (YAt xs) := fun H1 e R q =>
  h H1 e _ fun H2 e2 => ⟨a, rfl, ⟨xs, ex_l (e.trans e2) hx⟩, q _ H2 e2 walk_list⟩
theorem eg_tup {a : Addr} {xs : List V} (h : Ev tl σ H (.ref a)) (hx : SqT K H a xs) : EvG (iTup K tl) σ H xs.length (fun H => SqT K H a xs) (YAt xs) := fun H1 e R q =>
  h H1 e _ fun H2 e2 => ⟨a, rfl, ⟨xs, ex_t (e.trans e2) hx⟩, q _ H2 e2 walk_tup⟩
theorem eg_str {w : Str} (h : Ev tl σ H (.str w)) : EvG (iStr tl) σ H w.cps.size (fun _ => True) (YS w) := fun H1 e R q =>
  h H1 e _ fun H2 e2 => ⟨w, rfl, q _ H2 e2 walk_str⟩
theorem eg_range1 {n : Int} (h : EvA ta σ H [.int n]) (hn : 0 ≤ n ∧ n ≤ 100000) : EvG (iRng1 ta) σ H n.toNat (fun _ => True) (YFn fun i => .int (0 + i)) := fun H1 e R q =>
  h H1 e _ fun H2 e2 => ⟨n, rfl, by omega, by omega, q _ H2 e2 walk_range⟩
theorem eg_enum {a : Addr} {xs : List V} (h : EvA ta σ H [.ref a]) (hx : SqL K H a xs) : EvG (iEnum K ta) σ H xs.length (fun H => SqL K H a xs) (YPair (fun i => some (.int (i : Nat))) (fun i => xs[i]?)) := fun H1 e R q =>
  h H1 e _ fun H2 e2 => ⟨a, xs, rfl, ex_l (e.trans e2) hx, q _ H2 e2 walk_enum⟩
/-- a for over any walk -/
theorem s_for {wi : TI} {n : Nat} {G : Hp → Prop} {Y : Nat → Hp → V → Hp → Prop} {D : Ends} {tu : TS} (hw : EvG wi σ H n G Y) (Pv : Nat → L2.St → Hp → Prop) (h0 : ∀ H1, Ex H H1 → Pv 0 σ H1) (hG : ∀ i σ' H', i ≤ n → Pv i σ' H' → G H')
    (hs : ∀ i x σ' H1 H2, i < n → Pv i σ' H1 → Y i H1 x H2 → g x σ' H2 fun σ2 H3 => tu { D with nx := Pv (i + 1), ct := Pv (i + 1), bk := D.nx } σ2 H3) (hd : ∀ σ' H', Pv n σ' H' → D.nx σ' H') : tFor wi g tu D σ H :=
  hw H (Ex.refl _) _ fun J H1 e1 w => for_it w Pv (h0 H1 e1) hG (fun i x σ' H3 H4 hi p y => hs i x σ' H3 H4 hi p y) hd
end
end P38

set_option Elab.async false
set_option linter.all false
set_option maxRecDepth 100000
set_option maxHeartbeats 4000000
namespace P38
open PySem PySem.Spec PyProof.Rows L2 Evl
/-! texts, signs, tables -/
def tx (S : List Nat) : Str := ⟨S.toArray⟩
abbrev sg (c : Nat) : Str := ⟨#[c]⟩
abbrev sV (c : Nat) : V := .str (sg c)
abbrev kS (c : Nat) : Key := Sum.inr (sg c)
theorem tx_len (S : List Nat) : (tx S).length = S.length := by
  show S.toArray.size = S.length
  exact List.size_toArray ..
theorem tx_size (S : List Nat) : (tx S).cps.size = S.length := tx_len S
theorem tx_at (S : List Nat) (i : Nat) : (tx S).cps[i]? = S[i]? := List.getElem?_toArray ..
theorem tx_inj {S S' : List Nat} (h : tx S = tx S') : S = S' := by
  have := congrArg (fun z : Str => z.cps.toList) h
  simpa [tx] using this
theorem sg_inj {c d : Nat} (h : sg c = sg d) : c = d := by
  have := tx_inj (S := [c]) (S' := [d]) h
  simpa using this
theorem kS_inj {c d : Nat} (h : kS c = kS d) : c = d := sg_inj (Sum.inr.inj h)
def tab {α : Type} (key : α → Key) (val : α → V) (l : List α) : List (Key × V) := l.map fun a => (key a, val a)
theorem tab_len {α : Type} {key : α → Key} {val : α → V} {l : List α} : (tab key val l).length = l.length := List.length_map ..
theorem tab_no {α : Type} {key : α → Key} {val : α → V} {k : Key} : ∀ {l : List α}, (∀ b ∈ l, key b ≠ k) → valV (tab key val l) k = none
  | [], _ => rfl
  | a :: l, h => by
    show valV ((key a, val a) :: tab key val l) k = none
    rw [valV_neg (h a List.mem_cons_self)]
    exact tab_no fun b hb => h b (List.mem_cons_of_mem _ hb)
theorem tab_get {α : Type} {key : α → Key} {val : α → V} {a : α} : ∀ {l : List α}, a ∈ l → (∀ b ∈ l, key b = key a → val b = val a) → valV (tab key val l) (key a) = some (val a)
  | b :: l, ha, inj => by
    show valV ((key b, val b) :: tab key val l) (key a) = some (val a)
    by_cases e : key b = key a
    · rw [valV_pos e]
      exact congrArg some (inj b List.mem_cons_self e)
    · rw [valV_neg e]
      rcases List.mem_cons.mp ha with z | ha
      · exact absurd (congrArg key z.symm) e
      · exact tab_get ha fun c hc => inj c (List.mem_cons_of_mem _ hc)
theorem putK_new {kvs : List (Key × V)} {k : Key} {v : V} (h : ∀ p ∈ kvs, p.1 ≠ k) : putK kvs k v = kvs ++ [(k, v)] := by
  unfold putK
  rw [if_neg]
  intro z
  obtain ⟨p, hp, e⟩ := List.any_eq_true.mp z
  exact h p hp (of_decide_eq_true e)
theorem tab_snoc {α : Type} {key : α → Key} {val : α → V} {l : List α} {a : α} (h : ∀ b ∈ l, key b ≠ key a) : putK (tab key val l) (key a) (val a) = tab key val (l ++ [a]) := by
  rw [putK_new fun p hp => ?_]
  · show l.map _ ++ [(key a, val a)] = (l ++ [a]).map _
    rw [List.map_append]
    rfl
  · obtain ⟨b, hb, rfl⟩ := List.mem_map.mp hp
    exact h b hb
/-! promises of defs that change nothing -/
abbrev psp (P : List V → V → Hp → Prop) : Sp := fun vs H Q _ => ∃ z, P vs z H ∧ ∀ H', Ex H H' → Q z H'
theorem psp_v {P : List V → V → Hp → Prop} {vs : List V} {z : V} {H : Hp} (h : ∀ H1, Ex H H1 → P vs z H1) : SpV (psp P) vs H z := fun H1 e Q q E => ⟨z, h H1 e, q⟩
/-- .. that give a new list, a new tuple -/
abbrev pspL (P : List V → List V → Hp → Prop) : Sp := fun vs H Q _ => ∃ zs, P vs zs H ∧ ∀ p H', H p = none → Ex H H' → H' p = some (.lst zs) → Q (.ref p) H'
theorem pspL_v {P : List V → List V → Hp → Prop} {vs zs : List V} {H : Hp} (h : ∀ H1, Ex H H1 → P vs zs H1) : SpL (pspL P) vs H zs := fun H1 e Q q E => ⟨zs, h H1 e, q⟩
/-! fonts -/
def rkT (S : List Nat) : List (Key × V) := tab (fun p : Nat × Nat => kS p.1) (fun p => .int (p.2 : Nat)) S.zipIdx
structure SOk (S : List Nat) : Prop where
  nd : S.Nodup
  least : 2 ≤ S.length
  most : S.length ≤ 6
  nb : 45 ∉ S
theorem rk_get {S : List Nat} (h : S.Nodup) {c : Nat} (hc : c ∈ S) : valV (rkT S) (kS c) = some (.int (S.idxOf c : Nat)) := by
  have lt := List.idxOf_lt_length_of_mem hc
  have hm : (c, S.idxOf c) ∈ S.zipIdx := by
    rw [List.mem_zipIdx_iff_getElem?]
    rw [List.getElem?_eq_getElem lt, List.getElem_idxOf lt]
  refine tab_get (key := fun p : Nat × Nat => kS p.1) (val := fun p => .int (p.2 : Nat)) hm fun b hb e => ?_
  have e1 : b.1 = c := kS_inj e
  have e2 := List.mem_zipIdx_iff_getElem?.mp hb
  obtain ⟨l2, e3⟩ := List.getElem?_eq_some_iff.mp e2
  have : b.2 = S.idxOf c := by
    rw [← e1, ← e3, h.idxOf_getElem _ l2]
  rw [this]
theorem rk_no {S : List Nat} {c : Nat} (hc : c ∉ S) : valV (rkT S) (kS c) = none := tab_no fun b hb e => hc (by
  have e2 := List.mem_zipIdx_iff_getElem?.mp hb
  rw [← kS_inj e]
  exact List.mem_of_getElem? e2)
theorem rk_some {S : List Nat} (h : S.Nodup) (c : Nat) : (valV (rkT S) (kS c)).isSome = decide (c ∈ S) := by
  by_cases hc : c ∈ S
  · rw [rk_get h hc, decide_eq_true hc]
    rfl
  · rw [rk_no hc, decide_eq_false hc]
    rfl
structure HeadsD (kvs : List (Key × V)) (η : Nat → Option Nat) : Prop where
  get : ∀ c, valV kvs (kS c) = (η c).map sV
  self : ∀ p ∈ kvs, valV kvs p.1 = some p.2 ∧ flatB p.2 = true
structure FontAt (K : PySem.W.Frag) (H : Hp) (p : Addr) (S : List Nat) (η : Nat → Option Nat) : Prop where
  ex : ∃ dx r h kvs, H p = some (.ins (C_Font K) dx [("word", .str (tx S)), ("ranks", .ref r), ("heads", .ref h)]) ∧ H r = some (.dK (rkT S)) ∧ H h = some (.dK kvs) ∧ HeadsD kvs η
theorem FontAt.up {K : PySem.W.Frag} {H H' : Hp} {p : Addr} {S : List Nat} {η : Nat → Option Nat} (f : FontAt K H p S η) (e : Ex H H') : FontAt K H' p S η := by
  obtain ⟨dx, r, h, kvs, h1, h2, h3, h4⟩ := f.ex
  exact ⟨dx, r, h, kvs, e _ _ h1, e _ _ h2, e _ _ h3, h4⟩
theorem fl_word {a b c : V} : ([("word", a), ("ranks", b), ("heads", c)] : List (Str × V)).lookup ("word" : Str) = some a := by rw [List.lookup_cons_self]
theorem fl_ranks {a b c : V} : ([("word", a), ("ranks", b), ("heads", c)] : List (Str × V)).lookup ("ranks" : Str) = some b := by
  rw [List.lookup_cons, show (("ranks" : Str) == "word") = false by decide +kernel, List.lookup_cons_self]
theorem fl_heads {a b c : V} : ([("word", a), ("ranks", b), ("heads", c)] : List (Str × V)).lookup ("heads" : Str) = some c := by
  rw [List.lookup_cons, show (("heads" : Str) == "word") = false by decide +kernel, List.lookup_cons, show (("heads" : Str) == "ranks") = false by decide +kernel, List.lookup_cons_self]
theorem fl_no {a b c : V} {m : Str} (h1 : (m == "word") = false := by decide +kernel) (h2 : (m == "ranks") = false := by decide +kernel) (h3 : (m == "heads") = false := by decide +kernel) : ([("word", a), ("ranks", b), ("heads", c)] : List (Str × V)).lookup m = none := by
  rw [List.lookup_cons, h1, List.lookup_cons, h2, List.lookup_cons, h3]
  rfl
section
variable {K : PySem.W.Frag} {mg : Str → Option Value} {H : Hp} {p : Addr} {S : List Nat} {η : Nat → Option Nat} {σ : L2.St} {ta : TE}
theorem ev_word (T : Tx K mg) (f : FontAt K H p S η) (h : Ev ta σ H (.ref p)) : Ev (tFld K ta "word") σ H (.str (tx S)) := by
  obtain ⟨dx, r, hd, kvs, h1, _⟩ := f.ex
  exact ev_fld h h1 T.cl_Font T.n_Font_word fl_word
theorem ev_ranks (T : Tx K mg) (f : FontAt K H p S η) (h : Ev ta σ H (.ref p)) : ∃ r, Rd H r (.dK (rkT S)) ∧ Ev (tFld K ta "ranks") σ H (.ref r) := by
  obtain ⟨dx, r, hd, kvs, h1, h2, _⟩ := f.ex
  exact ⟨r, .inl h2, ev_fld h h1 T.cl_Font T.n_Font_ranks fl_ranks⟩
theorem ev_heads (T : Tx K mg) (f : FontAt K H p S η) (h : Ev ta σ H (.ref p)) : ∃ r kvs, Rd H r (.dK kvs) ∧ HeadsD kvs η ∧ Ev (tFld K ta "heads") σ H (.ref r) := by
  obtain ⟨dx, r, hd, kvs, h1, h2, h3, h4⟩ := f.ex
  exact ⟨hd, kvs, .inl h3, h4, ev_fld h h1 T.cl_Font T.n_Font_heads fl_heads⟩
/-- x in font.ranks, font.ranks[x] -/
theorem ev_inR (T : Tx K mg) (f : FontAt K H p S η) (hS : S.Nodup) {ty : TE} {c : Nat} (hy : Ev ty σ H (sV c)) (h : Ev ta σ H (.ref p)) : Ev (tDIn ty (tFld K ta "ranks")) σ H (.bl (decide (c ∈ S))) := by
  obtain ⟨r, h1, h2⟩ := ev_ranks T f h
  rw [← rk_some hS]
  exact ev_din (k := kS c) hy h2 h1
theorem ev_rk (T : Tx K mg) (f : FontAt K H p S η) (hS : S.Nodup) {ty : TE} {c : Nat} (hy : Ev ty σ H (sV c)) (h : Ev ta σ H (.ref p)) (hc : c ∈ S) : Ev (tDGet (tFld K ta "ranks") ty) σ H (.int (S.idxOf c : Nat)) := by
  obtain ⟨r, h1, h2⟩ := ev_ranks T f h
  exact ev_dget (k := kS c) h2 hy h1 (rk_get hS hc)
end
theorem sz6 {S : List Nat} (h : SOk S) : (tx S).length ≤ sizeLine := by
  rw [tx_len]
  exact Nat.le_trans h.most (by decide)
/-! the first defs -/
def sp_is_integer : Sp := psp fun vs z H => ∃ n : Int, vs = [.int n] ∧ z = .bl true
theorem ok_is_integer {P : Program} {w : World} {K : PySem.W.Frag} {mg : Str → Option Value} {base : Heap} (T : Tx K mg) : FnOk P w K mg base CX0 1 (f_is_integer K) (fdOf K (f_is_integer K)) ["value"] (sp_is_integer) := by
  refine T.d_is_integer.ok sc_is_integer (fun vs H Q E h => by obtain ⟨z, ⟨n, rfl, rfl⟩, k⟩ := h; rfl) (fun cdv A outer s H vs Q E hr h => ?_)
  obtain ⟨z, ⟨n, rfl, rfl⟩, k⟩ := h
  refine ⟨_, PSs.nox (pss_one (ps_ret (pe_and (pe_callB (call_is "int" "int" true (by decide +kernel)) (by rfl) (by exact T.z_isinstance) bt_isinstance (pa_cons (pv 0) (pa_cons (pe_bltn (v := .ty "int") (by rfl) (by exact T.z_int) bt_int rfl) pa_nil))) (pe_one (pe_not (pe_callB (call_is "int" "bool" false (by decide +kernel)) (by rfl) (by exact T.z_isinstance) bt_isinstance (pa_cons (pv 0) (pa_cons (pe_bltn (v := .ty "bool") (by rfl) (by exact T.z_bool) bt_bool rfl) pa_nil)))))))), ?_⟩
  refine s_ret (ev_andV (a := true) (b := true) (ev_cb (ea_cons (ev_var rfl) (ea_cons ev_c ea_nil)) (rc_is fun H1 _ => .base (.int _))) fun _ => ev_notV (a := false) (ev_cb (ea_cons (ev_var rfl) (ea_cons ev_c ea_nil)) (rc_is fun H1 _ => .base (.int _)))) k
theorem v_is_integer {n : Int} {H : Hp} : SpV sp_is_integer [.int n] H (.bl true) := psp_v fun H1 e => ⟨n, rfl, rfl⟩
def sp_is_between : Sp := psp fun vs z H => ∃ n a b : Int, vs = [.int n, .int a, .int b] ∧ a ≤ n ∧ n ≤ b ∧ z = .bl true
theorem ok_is_between {P : Program} {w : World} {K : PySem.W.Frag} {mg : Str → Option Value} {base : Heap} (T : Tx K mg) : FnOk P w K mg base CX0 2 (f_is_between K) (fdOf K (f_is_between K)) ["value", "least", "most"] (sp_is_between) := by
  refine T.d_is_between.ok sc_is_between (fun vs H Q E h => by obtain ⟨z, ⟨n, a, b, rfl, h1, h2, rfl⟩, k⟩ := h; rfl) (fun cdv A outer s H vs Q E hr h => ?_)
  obtain ⟨z, ⟨n, a, b, rfl, h1, h2, rfl⟩, k⟩ := h
  refine ⟨_, PSs.nox (pss_one (ps_ret (pe_and (pe_call (ok_is_integer T) (by exact hr.mono (by first | decide | omega)) (by rfl) (by exact T.m_is_integer) (by exact T.d_is_integer.kp) (bn_is_integer T) .nil pass0 (pa_cons (pv 0) pa_nil)) (pe_one (pe_chain op_le op_le (pv 1) (pv 0) (pv 2)))))), ?_⟩
  refine s_ret (ev_andV (a := true) (b := true) (ev_call (ea_cons (ev_var rfl) ea_nil) v_is_integer) fun _ => ?_) k
  intro H1 e Q q
  refine ⟨_, rfl, _, rfl, _, _, rfl, rfl, _, rfl, ?_⟩
  rw [if_pos (decide_eq_true h1)]
  refine ⟨_, rfl, _, _, rfl, rfl, ?_⟩
  show Q (.bl (decide (n ≤ b))) H1
  rw [decide_eq_true h2]
  exact q H1 (Ex.refl _)
theorem v_is_between {n a b : Int} {H : Hp} (h1 : a ≤ n) (h2 : n ≤ b) : SpV sp_is_between [.int n, .int a, .int b] H (.bl true) := psp_v fun H1 e => ⟨n, a, b, rfl, h1, h2, rfl⟩
def sp_is_list (K : PySem.W.Frag) : Sp := psp fun vs z H => ∃ a xs, vs = [.ref a] ∧ (SqL K H a xs ∨ SqT K H a xs) ∧ z = .bl true
theorem ty_list {K : PySem.W.Frag} {H : Hp} {a : Addr} {xs : List V} (h : SqL K H a xs) : TyX K H (.ref a) (.type "list") := by
  rcases h with (h | ⟨o, h⟩) | ⟨o, its, n, h1, h2, _⟩
  · exact .base (.lst h)
  · exact .base (.frz h)
  · exact .kList h1 h2
theorem ty_tup {K : PySem.W.Frag} {H : Hp} {a : Addr} {xs : List V} (h : SqT K H a xs) : TyX K H (.ref a) (.type "tuple") := by
  rcases h with (h | ⟨o, h⟩) | ⟨o, its, n, h1, h2, _⟩
  · exact .base (.tup h)
  · exact .fTuple h
  · exact .kTuple h1 h2
theorem ok_is_list {P : Program} {w : World} {K : PySem.W.Frag} {mg : Str → Option Value} {base : Heap} (T : Tx K mg) : FnOk P w K mg base CX0 1 (f_is_list K) (fdOf K (f_is_list K)) ["value"] (sp_is_list K) := by
  refine T.d_is_list.ok sc_is_list (fun vs H Q E h => by obtain ⟨z, ⟨a, xs, rfl, hx, rfl⟩, k⟩ := h; rfl) (fun cdv A outer s H vs Q E hr h => ?_)
  obtain ⟨z, ⟨a, xs, rfl, hx, rfl⟩, k⟩ := h
  refine ⟨_, PSs.nox (pss_one (ps_ret (pe_callB call_isLT (by rfl) (by exact T.z_isinstance) bt_isinstance (pa_cons (pv 0) (pa_cons (pe_tup (pa_cons (pe_bltn (v := .ty "list") (by rfl) (by exact T.z_list) bt_list rfl) (pa_cons (pe_bltn (v := .ty "tuple") (by rfl) (by exact T.z_tuple) bt_tuple rfl) pa_nil))) pa_nil))))), ?_⟩
  refine ⟨_, rfl, by show 2 ≤ sizeLine; decide, fun tp hp => ⟨_, tp, rfl, upd_same, ?_, k _ (Ex.new hp)⟩⟩
  exact hx.elim (fun h => .inl (ty_list (ex_l (Ex.new hp) h))) fun h => .inr (ty_tup (ex_t (Ex.new hp) h))
theorem v_is_list {K : PySem.W.Frag} {a : Addr} {xs : List V} {H : Hp} (h : SqL K H a xs ∨ SqT K H a xs) : SpV (sp_is_list K) [.ref a] H (.bl true) := psp_v fun H1 e => ⟨a, xs, rfl, h.elim (fun h => .inl (ex_l e h)) fun h => .inr (ex_t e h), rfl⟩
def sp_is_tuple_of (K : PySem.W.Frag) : Sp := psp fun vs z H => ∃ a x y, vs = [.ref a, .int 2] ∧ SqT K H a [x, y] ∧ z = .bl true
theorem ok_is_tuple_of {P : Program} {w : World} {K : PySem.W.Frag} {mg : Str → Option Value} {base : Heap} (T : Tx K mg) : FnOk P w K mg base CX0 1 (f_is_tuple_of K) (fdOf K (f_is_tuple_of K)) ["value", "size"] (sp_is_tuple_of K) := by
  refine T.d_is_tuple_of.ok sc_is_tuple_of (fun vs H Q E h => by obtain ⟨z, ⟨a, x, y, rfl, hx, rfl⟩, k⟩ := h; rfl) (fun cdv A outer s H vs Q E hr h => ?_)
  obtain ⟨z, ⟨a, x, y, rfl, hx, rfl⟩, k⟩ := h
  refine ⟨_, PSs.nox (pss_one (ps_ret (pe_and (pe_callB (call_is "tuple" "tuple" true (by decide +kernel)) (by rfl) (by exact T.z_isinstance) bt_isinstance (pa_cons (pv 0) (pa_cons (pe_bltn (v := .ty "tuple") (by rfl) (by exact T.z_tuple) bt_tuple rfl) pa_nil))) (pe_one (pe_cmpR op_eq (pe_callB call_len_seq (by rfl) (by exact T.z_len) bt_len (pa_cons (pv 0) pa_nil)) (pv 1) (nomark _)))))), ?_⟩
  refine s_ret (ev_andV (a := true) (b := true) (ev_cb (ea_cons (ev_var rfl) (ea_cons ev_c ea_nil)) (rc_is fun H1 e => ty_tup (ex_t e hx))) fun _ => ?_) k
  exact ev_is (ev_op (ev_cb (ea_cons (ev_var rfl) ea_nil) (fun H1 e Q q => ⟨a, [x, y], rfl, .inr (ex_t e hx), q H1 (Ex.refl _)⟩)) (ev_var rfl) (rv_eq rfl)) rfl
theorem v_is_tuple_of {K : PySem.W.Frag} {a : Addr} {x y : V} {H : Hp} (h : SqT K H a [x, y]) : SpV (sp_is_tuple_of K) [.ref a, .int 2] H (.bl true) := psp_v fun H1 e => ⟨a, x, y, rfl, ex_t e h, rfl⟩
def sp_is_sign (K : PySem.W.Frag) : Sp := psp fun vs z H => ∃ p S η c, vs = [.ref p, sV c] ∧ FontAt K H p S η ∧ S.Nodup ∧ c ∈ S ∧ z = .bl true
theorem ok_is_sign {P : Program} {w : World} {K : PySem.W.Frag} {mg : Str → Option Value} {base : Heap} (T : Tx K mg) : FnOk P w K mg base CX0 1 (f_is_sign K) (fdOf K (f_is_sign K)) ["font", "value"] (sp_is_sign K) := by
  refine T.d_is_sign.ok sc_is_sign (fun vs H Q E h => by obtain ⟨z, ⟨p, S, η, c, rfl, hf, hS, hc, rfl⟩, k⟩ := h; rfl) (fun cdv A outer s H vs Q E hr h => ?_)
  obtain ⟨z, ⟨p, S, η, c, rfl, hf, hS, hc, rfl⟩, k⟩ := h
  refine ⟨_, PSs.nox (pss_one (ps_ret (pe_and (pe_callB (call_is "str" "str" true (by decide +kernel)) (by rfl) (by exact T.z_isinstance) bt_isinstance (pa_cons (pv 1) (pa_cons (pe_bltn (v := .ty "str") (by rfl) (by exact T.z_str) bt_str rfl) pa_nil))) (pe_one (pe_cmp (pc_din (by exact hu_of hr) (pv 1) (pe_fld (pv 0) (by rfl)))))))), ?_⟩
  refine s_ret (ev_andV (a := true) (b := true) (ev_cb (ea_cons (ev_var rfl) (ea_cons ev_c ea_nil)) (rc_is fun H1 _ => .base (.str _))) fun _ => ev_is (ev_inR T hf hS (c := c) (ev_var rfl) (ev_var rfl)) (by rw [decide_eq_true hc])) k
theorem v_is_sign {K : PySem.W.Frag} {p : Addr} {S : List Nat} {η : Nat → Option Nat} {c : Nat} {H : Hp} (f : FontAt K H p S η) (hS : S.Nodup) (hc : c ∈ S) : SpV (sp_is_sign K) [.ref p, sV c] H (.bl true) := psp_v fun H1 e => ⟨p, S, η, c, rfl, f.up e, hS, hc, rfl⟩
def sp_need_sign (K : PySem.W.Frag) : Sp := psp fun vs z H => ∃ p S η c, vs = [.ref p, sV c] ∧ FontAt K H p S η ∧ S.Nodup ∧ c ∈ S ∧ z = .non
theorem ok_need_sign {P : Program} {w : World} {K : PySem.W.Frag} {mg : Str → Option Value} {base : Heap} (T : Tx K mg) : FnOk P w K mg base CX0 2 (f_need_sign K) (fdOf K (f_need_sign K)) ["font", "value"] (sp_need_sign K) := by
  refine T.d_need_sign.ok sc_need_sign (fun vs H Q E h => by obtain ⟨z, ⟨p, S, η, c, rfl, hf, hS, hc, rfl⟩, k⟩ := h; rfl) (fun cdv A outer s H vs Q E hr h => ?_)
  obtain ⟨z, ⟨p, S, η, c, rfl, hf, hS, hc, rfl⟩, k⟩ := h
  refine ⟨_, PSs.nox (pss_one (ps_if (pt_not (pt_val (pe_call (ok_is_sign T) (by exact hr.mono (by first | decide | omega)) (by rfl) (by exact T.m_is_sign) (by exact T.d_is_sign.kp) (bn_is_sign T) .nil pass0 (pa_cons (pv 0) (pa_cons (pv 1) pa_nil))))) (pss_one ps_never) pss_nil)), ?_⟩
  refine s_if (b := false) (et_is (et_not (et_B (ev_call (ea_cons (ev_var rfl) (ea_cons (ev_var rfl) ea_nil)) (v_is_sign hf hS hc)))) rfl) (fun z => nomatch z) fun _ H1 e => k H1 e
theorem v_need_sign {K : PySem.W.Frag} {p : Addr} {S : List Nat} {η : Nat → Option Nat} {c : Nat} {H : Hp} (f : FontAt K H p S η) (hS : S.Nodup) (hc : c ∈ S) : SpV (sp_need_sign K) [.ref p, sV c] H .non := psp_v fun H1 e => ⟨p, S, η, c, rfl, f.up e, hS, hc, rfl⟩
def sp_Font_len (K : PySem.W.Frag) : Sp := psp fun vs z H => ∃ p S η, vs = [.ref p] ∧ FontAt K H p S η ∧ SOk S ∧ z = .int (S.length : Nat)
theorem ok_Font_len {P : Program} {w : World} {K : PySem.W.Frag} {mg : Str → Option Value} {base : Heap} (T : Tx K mg) : FnOk P w K mg base CX0 1 (f_Font_len K) (fdOf K (f_Font_len K)) ["self"] (sp_Font_len K) := by
  refine T.d_Font_len.ok sc_Font_len (fun vs H Q E h => by obtain ⟨z, ⟨p, S, η, rfl, hf, hS, rfl⟩, k⟩ := h; rfl) (fun cdv A outer s H vs Q E hr h => ?_)
  obtain ⟨z, ⟨p, S, η, rfl, hf, hS, rfl⟩, k⟩ := h
  refine ⟨_, PSs.nox (pss_one (ps_ret (pe_callB call_len_str (by rfl) (by exact T.z_len) bt_len (pa_cons (pe_fld (pv 0) (by rfl)) pa_nil)))), ?_⟩
  rw [← tx_len S] at k
  exact s_ret (ev_cb (ea_cons (ev_word T hf (ev_var rfl)) ea_nil) (rc_lenS (sz6 hS))) k
theorem v_Font_len {K : PySem.W.Frag} {p : Addr} {S : List Nat} {η : Nat → Option Nat} {H : Hp} (f : FontAt K H p S η) (hS : SOk S) : SpV (sp_Font_len K) [.ref p] H (.int (S.length : Nat)) := psp_v fun H1 e => ⟨p, S, η, rfl, f.up e, hS, rfl⟩
def sp_Font_signs (K : PySem.W.Frag) : Sp := psp fun vs z H => ∃ p S η, vs = [.ref p] ∧ FontAt K H p S η ∧ z = .str (tx S)
theorem ok_Font_signs {P : Program} {w : World} {K : PySem.W.Frag} {mg : Str → Option Value} {base : Heap} (T : Tx K mg) : FnOk P w K mg base CX0 1 (f_Font_signs K) (fdOf K (f_Font_signs K)) ["self"] (sp_Font_signs K) := by
  refine T.d_Font_signs.ok sc_Font_signs (fun vs H Q E h => by obtain ⟨z, ⟨p, S, η, rfl, hf, rfl⟩, k⟩ := h; rfl) (fun cdv A outer s H vs Q E hr h => ?_)
  obtain ⟨z, ⟨p, S, η, rfl, hf, rfl⟩, k⟩ := h
  refine ⟨_, PSs.nox (pss_one (ps_ret (pe_fld (pv 0) (by rfl)))), ?_⟩
  exact s_ret (ev_word T hf (ev_var rfl)) k
theorem v_Font_signs {K : PySem.W.Frag} {p : Addr} {S : List Nat} {η : Nat → Option Nat} {H : Hp} (f : FontAt K H p S η) : SpV (sp_Font_signs K) [.ref p] H (.str (tx S)) := psp_v fun H1 e => ⟨p, S, η, rfl, f.up e, rfl⟩
theorem ev_signs {K : PySem.W.Frag} {p : Addr} {S : List Nat} {η : Nat → Option Nat} {H : Hp} {σ : L2.St} {ta : TE} {E : XK} (f : FontAt K H p S η) (h : Ev ta σ H (.ref p)) : Ev (tProp (C_Font K) (sp_Font_signs K) [] E ta) σ H (.str (tx S)) := by
  obtain ⟨dx, r, hd, kvs, h1, _⟩ := id f.ex
  exact ev_prop h h1 (v_Font_signs f)
end P38

set_option Elab.async false
set_option linter.all false
set_option maxRecDepth 100000
set_option maxHeartbeats 4000000
namespace P38
open PySem PySem.Spec PyProof.Rows L2 Evl
section
variable {K : PySem.W.Frag} {σ : L2.St} {H H' : Hp} {tl te td : TE} {t : TT} {g : TG} {ta : TA}
theorem et_yes : EvT tYes σ H true := fun H1 _ _ q => q H1 (Ex.refl _)
/-- a comprehension over a walk whose i-th thing stands for L[i] -/
theorem el_lcA {α : Type} {L : List α} {wi : TI} {n : Nat} {Y : Nat → Hp → V → Hp → Prop} {vs : List Nat} (p : α → Bool) (h : α → V) (hw : EvW wi σ H n Y) (hn : n = L.length) (hz : n ≤ 40000)
    (step : ∀ i a x H1 H2, L[i]? = some a → Ex H H1 → Y i H1 x H2 → ∃ σ2, Ex H1 H2 ∧ (∀ Q : L2.St → Hp → Prop, Q σ2 H2 → g x (wipe σ vs) H2 Q) ∧ wipe σ2 vs = wipe σ vs ∧ EvT t σ2 H2 (p a) ∧ (p a = true → Ev te σ2 H2 (h a))) :
    EvL (tLc wi g t te vs) σ H ((L.filter p).map h) := fun H0 e Q q => hw H0 e _ fun J G H1 e1 w hG D hD => by
  refine lc_it w (fun i H' => H1 D = none ∧ Ex H1 H' ∧ H' D = some (.lst (((L.take i).filter p).map h))) ⟨hD, Ex.new hD, by rw [List.take_zero]; exact upd_same⟩ (fun i H' _ c => hG H' c.2.1) (fun i x H3 H4 hi c y => ?_) fun H' c => ?_
  · obtain ⟨a, ha⟩ : ∃ a, L[i]? = some a := ⟨_, List.getElem?_eq_getElem (by omega)⟩
    obtain ⟨σ2, e2, hg, hwp, ht, he⟩ := step i a x H3 H4 ha ((e.trans e1).trans c.2.1) y
    have h4 : Ex H1 H4 := c.2.1.trans e2
    have d4 := e2 _ _ c.2.2
    have tk : L.take (i + 1) = L.take i ++ [a] := by rw [List.take_add_one, ha]; rfl
    have lz : (((L.take i).filter p).map h).length < 100000 := by
      rw [List.length_map]
      have := List.length_filter_le p (L.take i)
      rw [List.length_take] at this
      omega
    refine hg _ ⟨hwp, ht H4 (Ex.refl _) _ fun H5 e5 => ?_⟩
    rw [tk, List.filter_append, List.map_append]
    cases hp : p a with
    | false =>
      refine ⟨c.1, h4.trans e5, ?_⟩
      rw [List.filter_cons, hp]
      simpa using e5 _ _ d4
    | true =>
      refine he hp H5 e5 _ fun H6 e6 => ⟨_, e6 _ _ (e5 _ _ d4), sz_lt lz, c.1, Ex.mut ((h4.trans e5).trans e6) c.1, ?_⟩
      rw [List.filter_cons, hp]
      exact upd_same
  · refine q D H' (fresh_back e1 c.1) (e1.trans c.2.1) ?_
    have := c.2.2
    rwa [hn, List.take_length] at this
/-- over the signs of a text -/
theorem ew_sg {S : List Nat} (h : Ev tl σ H (.str (tx S))) : EvW (iStr tl) σ H S.length (fun i H x H' => H' = H ∧ S[i]?.map sV = some x) := fun H1 e R q => by
  have w := ew_str h H1 e R
  rw [tx_size] at w
  refine w fun J G H2 e2 wk hG => q J G H2 e2 (wk.mono (fun _ g => g) fun i H x H' _ _ y => ?_) hG
  obtain ⟨e1, c, hc, rfl⟩ := y
  rw [tx_at] at hc
  exact ⟨e1, by rw [hc]; rfl⟩
/-- over a list of values -/
theorem ew_map {α : Type} {L : List α} {f : α → V} {wi : TI} (h : EvW wi σ H (L.map f).length (YAt (L.map f))) : EvW wi σ H L.length (fun i H x H' => H' = H ∧ L[i]?.map f = some x) := fun H1 e R q => by
  have w := h H1 e R
  rw [List.length_map] at w
  refine w fun J G H2 e2 wk hG => q J G H2 e2 (wk.mono (fun _ g => g) fun i H x H' _ _ y => ?_) hG
  exact ⟨y.1, by rw [← List.getElem?_map]; exact y.2⟩
theorem el_lcN {α : Type} {L : List α} {f : α → V} {wi : TI} {j : Nat} {vs : List Nat} (p : α → Bool) (h : α → V) (hw : EvW wi σ H L.length (fun i H x H' => H' = H ∧ L[i]?.map f = some x)) (hz : L.length ≤ 40000) (hwp : ∀ x, wipe ((wipe σ vs).set j (some x)) vs = wipe σ vs)
    (step : ∀ a H1, a ∈ L → Ex H H1 → EvT t ((wipe σ vs).set j (some (f a))) H1 (p a) ∧ (p a = true → Ev te ((wipe σ vs).set j (some (f a))) H1 (h a))) : EvL (tLc wi (gName j) t te vs) σ H ((L.filter p).map h) :=
  el_lcA p h hw rfl hz fun i a x H1 H2 ha e y => by
    obtain ⟨rfl, hx⟩ := y
    rw [ha] at hx
    obtain rfl : f a = x := Option.some.inj hx
    exact ⟨_, Ex.refl _, fun Q q => q, hwp _, step a _ (List.mem_of_getElem? ha) e⟩
/-- .. without a test -/
theorem el_lcM {α : Type} {L : List α} {f : α → V} {wi : TI} {j : Nat} {vs : List Nat} (h : α → V) (hw : EvW wi σ H L.length (fun i H x H' => H' = H ∧ L[i]?.map f = some x)) (hz : L.length ≤ 40000) (hwp : ∀ x, wipe ((wipe σ vs).set j (some x)) vs = wipe σ vs)
    (step : ∀ a H1, a ∈ L → Ex H H1 → Ev te ((wipe σ vs).set j (some (f a))) H1 (h a)) : EvL (tLc wi (gName j) tYes te vs) σ H (L.map h) := by
  have := el_lcN (t := tYes) (fun _ => true) h hw hz hwp fun a H1 ha e => ⟨et_yes, fun _ => step a H1 ha e⟩
  rwa [List.filter_eq_self.mpr (fun _ _ => rfl)] at this
/-- ''.join of a new list of signs -/
theorem str_app (a b : Str) : a ++ b = ⟨a.cps ++ b.cps⟩ := rfl
theorem tx_app (S S' : List Nat) : tx S ++ tx S' = tx (S ++ S') := by
  rw [str_app]
  show (⟨S.toArray ++ S'.toArray⟩ : Str) = ⟨(S ++ S').toArray⟩
  rw [List.append_toArray]
theorem join_sg (S : List Nat) : Txt.join "" (S.map sg) = tx S := by
  show Builtin.Str.glued "" (S.map sg) = tx S
  rw [PySem.StrLaws.glued_eq_join]
  induction S with
  | nil => rfl
  | cons c S ih =>
    cases S with
    | nil => rfl
    | cons d S =>
      show sg c ++ "" ++ Str.join "" ((d :: S).map sg) = tx (c :: d :: S)
      rw [ih]
      have e : sg c ++ ("" : Str) = tx [c] := by
        rw [show ("" : Str) = tx [] by decide +kernel, show sg c = tx [c] from rfl, tx_app]
        rfl
      rw [e, tx_app]
      rfl
theorem sum_sg : ∀ S : List Nat, ((S.map sg).map (·.length)).sum = S.length
  | [] => rfl
  | c :: S => by
    rw [List.map_cons, List.map_cons, List.sum_cons, sum_sg S, List.length_cons, Nat.add_comm]
    rfl
theorem ev_joinN {S : List Nat} (h : EvL te σ H (S.map sV)) (hz : S.length ≤ 1000) : Ev (tM1 (fun x xs H Q => ∃ a p, ∃ ys : List Str, x = .str a ∧ xs = [.ref p] ∧ (SqL K H p (ys.map V.str) ∨ SqT K H p (ys.map V.str)) ∧
      (ys.map (·.length)).sum + ys.length * a.length ≤ 16777216 ∧ Q (.str (Txt.join a ys)) H) (tC (.str "")) te) σ H (.str (tx S)) := fun H1 e Q q => by
  refine ⟨⟨_, rfl⟩, h H1 e _ fun p H2 _ e2 hp => ⟨"", p, S.map sg, rfl, rfl, .inl (sq_of (by rw [List.map_map]; exact hp)), ?_, by rw [join_sg]; exact q H2 e2⟩⟩
  have h1 := sum_sg S
  have h2 : ("" : Str).length = 0 := by decide +kernel
  rw [h1, h2]
  omega
end
/-! membership of signs -/
theorem flat_signs (S : List Nat) : (S.map sV).all flatV = true := by
  rw [List.all_eq_true]
  intro x hx
  obtain ⟨c, _, rfl⟩ := List.mem_map.mp hx
  rfl
theorem in_signs (c : Nat) (S : List Nat) : inV (sV c) (S.map sV) = decide (c ∈ S) := by
  unfold inV
  rw [Bool.eq_iff_iff, decide_eq_true_iff, List.any_map, List.any_eq_true]
  constructor
  · rintro ⟨d, hd, e⟩
    have e : (sg d == sg c) = true := e
    rw [← sg_inj (beq_iff_eq.mp e)]
    exact hd
  · intro h
    refine ⟨c, h, ?_⟩
    show (sg c == sg c) = true
    exact beq_self_eq_true _
theorem rv_inS {K : PySem.W.Frag} {H : Hp} {p : Addr} {c : Nat} {S : List Nat} (h : SqL K H p (S.map sV)) : RV (rIn K false) (sV c) (.ref p) H (.bl (decide (c ∈ S))) := by
  rw [← in_signs]
  exact rv_isL h rfl (flat_signs S)
/-! kinds -/
abbrev kt (k : Nat × Nat) : Str := tx [k.1, k.2]
structure KOk (S : List Nat) (k : Nat × Nat) : Prop where
  fst : k.1 ∈ S
  snd : k.2 = 45 ∨ (k.2 ∈ S ∧ S.idxOf k.1 ≤ S.idxOf k.2)
def sidesL (k : Nat × Nat) : List Nat := [k.1, k.2].filter fun c => !decide (c = 45)
def seenL (η : Nat → Option Nat) (k : Nat × Nat) : List Nat := sidesL k ++ (sidesL k).filterMap η
/-- the signs that a kind can show -/
def shows (S : List Nat) (η : Nat → Option Nat) (k : Nat × Nat) : List Nat := S.filter fun c => decide (c ∈ seenL η k)
theorem blank : ("-" : Str) = sg 45 := by decide +kernel
theorem dec_sg (c d : Nat) : decide (V.str (sg c) = V.str (sg d)) = decide (c = d) := by
  by_cases h : c = d
  · rw [h, decide_eq_true rfl, decide_eq_true rfl]
  · rw [decide_eq_false h, decide_eq_false fun z => h (sg_inj (V.str.inj z))]
section
variable {K : PySem.W.Frag} {H : Hp} {σ : L2.St} {ta tb : TE}
theorem ev_blank : Ev (tC (.str "-")) σ H (sV 45) := by
  rw [blank]
  exact ev_c
theorem ev_eqS {c d : Nat} (ha : Ev ta σ H (sV c)) (hb : Ev tb σ H (sV d)) : Ev (tOp rEq ta tb) σ H (.bl (decide (c = d))) := by
  rw [← dec_sg]
  exact ev_op ha hb (rv_eq rfl)
theorem ev_neS {c d : Nat} (ha : Ev ta σ H (sV c)) (hb : Ev tb σ H (sV d)) : Ev (tOp rNe ta tb) σ H (.bl (!decide (c = d))) := by
  rw [← dec_sg]
  exact ev_op ha hb (rv_ne rfl)
end
/-- a kind, written either way -/
def Way (k j : Nat × Nat) : Prop := j = k ∨ j = (k.2, k.1)
theorem KOk.not2 {S : List Nat} {k j : Nat × Nat} (hS : SOk S) (h : KOk S k) (w : Way k j) : kt j ≠ "--" := fun e => by
  have n : k.1 ≠ 45 := fun z => hS.nb (z ▸ h.fst)
  rw [show ("--" : Str) = tx [45, 45] by decide +kernel] at e
  have e2 := tx_inj e
  rcases w with rfl | rfl
  · exact n (by simpa using (List.cons.inj e2).1)
  · exact n (by simpa using (List.cons.inj (List.cons.inj e2).2).1)
def sp_Font_ascending (K : PySem.W.Frag) : Sp := psp fun vs z H => ∃ p a S η, ∃ L : List Nat, vs = [.ref p, .ref a] ∧ FontAt K H p S η ∧ SOk S ∧ SqL K H a (L.map sV) ∧ z = .str (tx (S.filter fun c => decide (c ∈ L)))
theorem ok_Font_ascending {P : Program} {w : World} {K : PySem.W.Frag} {mg : Str → Option Value} {base : Heap} (T : Tx K mg) : FnOk P w K mg base CX0 1 (f_Font_ascending K) (fdOf K (f_Font_ascending K)) ["self", "signs"] (sp_Font_ascending K) := by
  refine T.d_Font_ascending.ok sc_Font_ascending (fun vs H Q E h => by obtain ⟨z, ⟨p, a, S, η, L, rfl, hf, hS, hL, rfl⟩, k⟩ := h; rfl) (fun cdv A outer s H vs Q E hr h => ?_)
  obtain ⟨z, ⟨p, a, S, η, L, rfl, hf, hS, hL, rfl⟩, k⟩ := h
  refine ⟨_, PSs.nox (pss_one (ps_ret (pe_join pe_str (pe_lc (own := [("sign", 2)]) rfl sc_Font_ascending.nd (pi_str (pe_fld (pv 0) (by rfl))) (blkOk_by (own := [("sign", 2)]) (N := ["self", "signs", "sign"]) (sc := (defScope s_Font_ascending)) (by decide +kernel)) (fun _ _ _ _ _ => pg_name (i := 2) sc_Font_ascending.nd rfl (by first | exact Or.inl rfl | exact Or.inr rfl)) (fun _ _ _ _ _ => pts_one (pt_cmpR (op_in_seqK (K := K) rfl) (pv 2) (pv 1) rfl)) (fun _ _ _ _ _ => pv 2))))), ?_⟩
  have hl := Nat.le_trans (List.length_filter_le (fun c => decide (c ∈ L)) S) hS.most
  refine s_ret (ev_joinN (el_lcN (f := sV) (L := S) (fun c => decide (c ∈ L)) sV (ew_sg (ev_word T hf (ev_var rfl))) (by have := hS.most; omega) (fun _ => rfl) fun c H1 hc e => ⟨?_, fun _ => ev_var rfl⟩) (by omega)) k
  exact et_test (ev_op (ev_var rfl) (ev_var rfl) (rv_inS (ex_l e hL)))
theorem v_Font_ascending {K : PySem.W.Frag} {p a : Addr} {S L : List Nat} {η : Nat → Option Nat} {H : Hp} (f : FontAt K H p S η) (hS : SOk S) (hL : SqL K H a (L.map sV)) : SpV (sp_Font_ascending K) [.ref p, .ref a] H (.str (tx (S.filter fun c => decide (c ∈ L)))) :=
  psp_v fun H1 e => ⟨p, a, S, η, L, rfl, f.up e, hS, ex_l e hL, rfl⟩
def sp_Font_normal (K : PySem.W.Frag) : Sp := psp fun vs z H => ∃ p S η k j, vs = [.ref p, .str (kt j)] ∧ FontAt K H p S η ∧ SOk S ∧ KOk S k ∧ Way k j ∧ z = .str (kt k)
theorem inS {S : List Nat} {k j : Nat × Nat} (h : KOk S k) (w : Way k j) : (j.1 = 45 ∨ j.1 ∈ S) ∧ (j.2 = 45 ∨ j.2 ∈ S) := by
  have h2 : k.2 = 45 ∨ k.2 ∈ S := h.snd.imp id And.left
  rcases w with rfl | rfl
  · exact ⟨.inr h.fst, h2⟩
  · exact ⟨h2, .inr h.fst⟩
/-- the test of normal -/
def flips (S : List Nat) (j : Nat × Nat) : Bool := decide (j.1 = 45) || (!decide (j.2 = 45) && decide (((S.idxOf j.2 : Nat) : Int) < ((S.idxOf j.1 : Nat) : Int)))
theorem flips_way {S : List Nat} {k j : Nat × Nat} (hS : SOk S) (h : KOk S k) (w : Way k j) : (flips S j = true → (j.2, j.1) = k) ∧ (flips S j = false → j = k) := by
  have n : k.1 ≠ 45 := fun z => hS.nb (z ▸ h.fst)
  unfold flips
  rcases w with rfl | rfl
  · refine ⟨fun e => ?_, fun _ => rfl⟩
    exfalso
    simp only [Bool.or_eq_true, decide_eq_true_eq, Bool.and_eq_true, Bool.not_eq_true', decide_eq_false_iff_not] at e
    rcases e with e | ⟨e1, e2⟩
    · exact n e
    · rcases h.snd with q | ⟨_, q⟩
      · exact e1 q
      · omega
  · refine ⟨fun _ => rfl, fun e => ?_⟩
    simp only [Bool.or_eq_false_iff, decide_eq_false_iff_not, Bool.and_eq_false_iff, Bool.not_eq_false', decide_eq_true_eq] at e
    obtain ⟨e1, e2⟩ := e
    rcases e2 with e2 | e2
    · exact absurd e2 n
    · rcases h.snd with q | ⟨m, q⟩
      · exact absurd q e1
      · have e3 : S.idxOf k.1 = S.idxOf k.2 := by omega
        have e4 := congrArg (fun i => S[i]?) e3
        simp only [List.getElem?_eq_getElem (List.idxOf_lt_length_of_mem m), List.getElem?_eq_getElem (List.idxOf_lt_length_of_mem h.fst), List.getElem_idxOf] at e4
        have e5 : k.1 = k.2 := Option.some.inj e4
        obtain ⟨a, b⟩ := k
        have e5 : a = b := e5
        rw [e5]
theorem ok_Font_normal {P : Program} {w : World} {K : PySem.W.Frag} {mg : Str → Option Value} {base : Heap} (T : Tx K mg) : FnOk P w K mg base CX0 1 (f_Font_normal K) (fdOf K (f_Font_normal K)) ["self", "kind"] (sp_Font_normal K) := by
  refine T.d_Font_normal.ok sc_Font_normal (fun vs H Q E h => by obtain ⟨z, ⟨p, S, η, kd, j, rfl, hf, hS, hk, w, rfl⟩, k⟩ := h; rfl) (fun cdv A outer s H vs Q E hr h => ?_)
  obtain ⟨z, ⟨p, S, η, kd, j, rfl, hf, hS, hk, w, rfl⟩, k⟩ := h
  refine ⟨_, PSs.nox (pss_cons (ps_asg (pv 1) (pg_un2S rfl (pgs_cons (pg_name (i := 2) sc_Font_normal.nd rfl (by first | exact Or.inl rfl | exact Or.inr rfl)) (pgs_cons (pg_name (i := 3) sc_Font_normal.nd rfl (by first | exact Or.inl rfl | exact Or.inr rfl)) pgs_nil)))) (
pss_cons (ps_if (PW.pt (pw_or (pt_cmpR op_eq (pv 2) (pe_gs (by rfl) (by exact T.c_BLANK)) (nomark _)) (pw_or1 (PW.pt (pw_and (pt_cmpR op_ne (pv 3) (pe_gs (by rfl) (by exact T.c_BLANK)) (nomark _)) (pw_and1 (pt_cmpR op_lt (pe_dget (by exact hu_of hr) (pe_fld (pv 0) (by rfl)) (pv 3) (fun _ _ => rfl)) (pe_dget (by exact hu_of hr) (pe_fld (pv 0) (by rfl)) (pv 2) (fun _ _ => rfl)) (nomark _)))))))) (pss_one (ps_ret (pe_op op_add_str (pv 3) (pv 2)))) pss_nil) (
pss_one (ps_ret (pv 1))))), ?_⟩
  obtain ⟨i1, i2⟩ := inS hk w
  obtain ⟨f1, f2⟩ := flips_way hS hk w
  refine ⟨_, rfl, j.1, j.2, rfl, _, _, rfl, _, _, rfl, rfl, ?_⟩
  refine q_when (b := flips S j) (et_or (et_test (ev_eqS (c := j.1) (ev_var rfl) ev_blank)) fun e1 => et_and (et_test (ev_neS (c := j.2) (ev_var rfl) ev_blank)) fun e2 => ?_) (fun e H1 x => ?_) fun e H1 x => ?_
  · have m1 := i1.resolve_left (of_decide_eq_false e1)
    have m2 := i2.resolve_left (by simpa using e2)
    exact et_test (ev_op (ev_rk T hf hS.nd (c := j.2) (ev_var rfl) (ev_var rfl) m2) (ev_rk T hf hS.nd (c := j.1) (ev_var rfl) (ev_var rfl) m1) rv_I0)
  · rw [← f1 e] at k
    exact s_ret (ev_op (x := .str (sg j.2)) (y := .str (sg j.1)) (ev_var rfl) (ev_var rfl) (fun H1 _ Q q => ⟨_, _, rfl, rfl, (show 2 ≤ sizeLine by decide), q H1 (Ex.refl _)⟩)) fun H2 e2 => k H2 (x.trans e2)
  · rw [← f2 e] at k
    exact s_ret (ev_var rfl) fun H2 e2 => k H2 (x.trans e2)
theorem v_Font_normal {K : PySem.W.Frag} {p : Addr} {S : List Nat} {η : Nat → Option Nat} {k j : Nat × Nat} {H : Hp} (f : FontAt K H p S η) (hS : SOk S) (hk : KOk S k) (w : Way k j) : SpV (sp_Font_normal K) [.ref p, .str (kt j)] H (.str (kt k)) :=
  psp_v fun H1 e => ⟨p, S, η, k, j, rfl, f.up e, hS, hk, w, rfl⟩
def sp_is_kind (K : PySem.W.Frag) : Sp := psp fun vs z H => ∃ p S η k j, vs = [.ref p, .str (kt j)] ∧ FontAt K H p S η ∧ SOk S ∧ KOk S k ∧ Way k j ∧ z = .bl true
theorem ok_is_kind {P : Program} {w : World} {K : PySem.W.Frag} {mg : Str → Option Value} {base : Heap} (T : Tx K mg) : FnOk P w K mg base CX0 1 (f_is_kind K) (fdOf K (f_is_kind K)) ["font", "value"] (sp_is_kind K) := by
  refine T.d_is_kind.ok sc_is_kind (fun vs H Q E h => by obtain ⟨z, ⟨p, S, η, kd, j, rfl, hf, hS, hk, w, rfl⟩, k⟩ := h; rfl) (fun cdv A outer s H vs Q E hr h => ?_)
  obtain ⟨z, ⟨p, S, η, kd, j, rfl, hf, hS, hk, w, rfl⟩, k⟩ := h
  refine ⟨_, PSs.nox (pss_cons (ps_if (PW.pt (pw_or (pt_not (pt_val (pe_callB (call_is "str" "str" true (by decide +kernel)) (by rfl) (by exact T.z_isinstance) bt_isinstance (pa_cons (pv 1) (pa_cons (pe_bltn (v := .ty "str") (by rfl) (by exact T.z_str) bt_str rfl) pa_nil))))) (pw_or (pt_cmpR op_ne (pe_callB call_len_str (by rfl) (by exact T.z_len) bt_len (pa_cons (pv 1) pa_nil)) pe_int (nomark _)) (pw_or1 (pt_cmpR op_eq (pv 1) (pe_op op_bl2 (pe_gs (by rfl) (by exact T.c_BLANK)) pe_int) (nomark _)))))) (pss_one (ps_ret pe_bl)) pss_nil) (
pss_one (ps_ret (pe_callB (cr_all rfl) (by rfl) (by exact T.z_all) bt_all (pa_cons (pe_lc (own := [("side", 2)]) rfl sc_is_kind.nd (pi_str (pv 1)) (blkOk_by (own := [("side", 2)]) (N := ["font", "value", "side"]) (sc := (defScope s_is_kind)) (by decide +kernel)) (fun _ _ _ _ _ => pg_name (i := 2) sc_is_kind.nd rfl (by first | exact Or.inl rfl | exact Or.inr rfl)) (fun _ _ _ _ _ => pts_nil) (fun _ _ _ _ _ => pe_or (pe_cmpR op_eq (pv 2) (pe_gs (by rfl) (by exact T.c_BLANK)) (nomark _)) (pe_one (pe_cmp (pc_din (by exact hu_of hr) (pv 2) (pe_fldK (K := K) rfl (pv 0) (by rfl))))))) pa_nil))))), ?_⟩
  obtain ⟨i1, i2⟩ := inS hk w
  have n2 := hk.not2 hS w
  have l2 : (kt j).length = 2 := tx_len _
  show tIfS _ _ _ _ _ _
  refine s_if (b := false) (et_is (et_or (et_not (et_test (ev_cb (ea_cons (ev_var rfl) (ea_cons ev_c ea_nil)) (rc_is fun H1 _ => .base (.str _))))) fun _ => et_or (et_test (ev_op (ev_cb (ea_cons (ev_var rfl) ea_nil) (rc_lenS (w := kt j) (by rw [l2]; decide))) ev_c (rv_ne rfl))) fun _ => et_test (ev_op (ev_var rfl) (ev_op (z := .str "--") ev_c ev_c (fun H1 _ Q q => ⟨rfl, rfl, q H1 (Ex.refl _)⟩)) (rv_eq rfl))) ?_) (fun e => nomatch e) fun _ H1 x => ?_
  · rw [l2]
    show (_ || (!decide (V.int ((2 : Nat) : Int) = V.int 2) || decide (V.str (kt j) = V.str "--"))) = false
    rw [decide_eq_false fun e => n2 (V.str.inj e)]
    rfl
  · have hf1 := hf.up x
    refine s_ret (ev_allT (bs := [j.1, j.2].map fun _ => V.bl true) (el_lcM (f := sV) (L := [j.1, j.2]) (fun _ => V.bl true) (ew_sg (ev_var rfl)) (show 2 ≤ 40000 by decide) (fun _ => rfl) fun c H2 hc e2 => ?_) (by simp)) fun H2 e2 => k H2 (x.trans e2)
    refine ev_is (ev_orV (a := decide (c = 45)) (b := true) (ev_eqS (ev_var rfl) ev_blank) fun e => ?_) (by rw [Bool.or_true])
    have m : c ∈ S := by
      have n := of_decide_eq_false e
      simp only [List.mem_cons, List.not_mem_nil, or_false] at hc
      rcases hc with rfl | rfl
      · exact i1.resolve_left n
      · exact i2.resolve_left n
    exact ev_is (ev_inR T (hf1.up e2) hS.nd (c := c) (ev_var rfl) (ev_var rfl)) (by rw [decide_eq_true m])
theorem v_is_kind {K : PySem.W.Frag} {p : Addr} {S : List Nat} {η : Nat → Option Nat} {k j : Nat × Nat} {H : Hp} (f : FontAt K H p S η) (hS : SOk S) (hk : KOk S k) (w : Way k j) : SpV (sp_is_kind K) [.ref p, .str (kt j)] H (.bl true) :=
  psp_v fun H1 e => ⟨p, S, η, k, j, rfl, f.up e, hS, hk, w, rfl⟩
theorem ok_need_kind {P : Program} {w : World} {K : PySem.W.Frag} {mg : Str → Option Value} {base : Heap} (T : Tx K mg) : FnOk P w K mg base CX0 2 (f_need_kind K) (fdOf K (f_need_kind K)) ["font", "value"] (sp_Font_normal K) := by
  refine T.d_need_kind.ok sc_need_kind (fun vs H Q E h => by obtain ⟨z, ⟨p, S, η, kd, j, rfl, hf, hS, hk, w, rfl⟩, k⟩ := h; rfl) (fun cdv A outer s H vs Q E hr h => ?_)
  obtain ⟨z, ⟨p, S, η, kd, j, rfl, hf, hS, hk, w, rfl⟩, k⟩ := h
  refine ⟨_, PSs.nox (pss_cons (ps_if (pt_not (pt_val (pe_call (ok_is_kind T) (by exact hr.mono (by first | decide | omega)) (by rfl) (by exact T.m_is_kind) (by exact T.d_is_kind.kp) (bn_is_kind T) .nil pass0 (pa_cons (pv 0) (pa_cons (pv 1) pa_nil))))) (pss_one ps_never) pss_nil) (
pss_one (ps_ret (pe_meth (pv 0) T.cl_Font T.M_Font_normal (ok_Font_normal T) (by exact hr.mono (by first | decide | omega)) (bn_Font_normal T) .nil pass0 (pa_cons (pv 1) pa_nil))))), ?_⟩
  refine s_if (b := false) (et_is (et_not (et_test (ev_call (ea_cons (ev_var rfl) (ea_cons (ev_var rfl) ea_nil)) (v_is_kind hf hS hk w)))) rfl) (fun e => nomatch e) fun _ H1 x => ?_
  obtain ⟨dx, r, hd, kvs, h1, _⟩ := id (hf.up x).ex
  refine s_ret (ev_meth (ev_var rfl) h1 (fl_no) (ea_cons (ev_var rfl) ea_nil) (v_Font_normal (hf.up x) hS hk w)) fun H2 e2 => k H2 (x.trans e2)
end P38

set_option Elab.async false
set_option linter.all false
set_option maxRecDepth 100000
set_option maxHeartbeats 4000000
namespace P38
open PySem PySem.Spec PyProof.Rows L2 Evl
theorem bn_subset_sums {K : PySem.W.Frag} {mg : Str → Option Value} (T : Tx K mg) : ∃ ds, Vals [.int 1] ds ∧ Binds K (fdOf K (f_subset_sums K)) ["numbers", "sign"] ds :=
  T.d_subset_sums.binds0 1 (by simp) rfl fun D doc pm an cdv ct us ks hu hk => match us, ks, hu, hk with
  | [u], [k], _, _ => ⟨_, _, _, _, _, _, rfl, rfl, rfl⟩
theorem bn_Font_init {K : PySem.W.Frag} {mg : Str → Option Value} (T : Tx K mg) : Binds K (fdOf K (f_Font_init K)) ["self", "signs", "turns"] [] := by
  obtain ⟨dvs, hl, d⟩ := T.d_Font_init
  obtain ⟨ds, v, b⟩ := d.binds1 (ps := ["self", "signs", "turns"]) 3 1 (by intro e; rw [e] at hl; cases hl) (by rw [hl]; rfl) fun T kV doc pm an cdv ct us its hu hi => match us, its, hu, hl ▸ hi with
  | [a, b, c], [i], _, _ => ⟨_, rfl, rfl⟩
  rw [show List.drop 1 dvs = [] by match dvs, hl with | [x], _ => rfl] at v
  cases v
  exact b
theorem call_listQ {X : Cx} (hc : X.calm = true) : CallR X (.type "list") (fun xs H Q => (∃ z : Str, xs = [V.str z] ∧ z.cps.size ≤ sizeLine ∧ ∀ p, H p = none → Q (.ref p) (upd H p (.lst (strL z)))) ∨ ∃ p ys, xs = [.ref p] ∧ (SqL X.K H p ys ∨ SqT X.K H p ys) ∧ ∀ l, H l = none → Q (.ref l) (upd H l (.lst ys))) := by
  intro pins s σ H xs us Q I r h
  exact h.elim (call_listS hc pins s σ H xs us Q I r) (call_list_of pins s σ H xs us Q I r)
section
variable {K : PySem.W.Frag} {σ : L2.St} {H H' : Hp} {ta tb te tl : TE} {x y z v : V}
theorem ev_sumM {α : Type} {L : List α} {g : α → Int} (h : EvL te σ H (L.map fun a => V.int (g a))) : Ev (tCB (rSum K) (tCons te tNil)) σ H (.int (L.map g).sum) := ev_sumN (by rw [List.map_map]; exact h)
/-- xs + a new list -/
theorem el_cat {l : Addr} {xs zs : List V} (hx : H l = some (.lst xs)) (ha : Ev ta σ H (.ref l)) (hb : EvL tb σ H zs) (hz : xs.length + zs.length ≤ 100000) : EvL (tOp rCat ta tb) σ H (xs ++ zs) := fun H1 e Q q =>
  ha H1 e _ fun H2 e2 => hb H2 (e.trans e2) _ fun p H3 hp e3 h3 => ⟨l, p, xs, zs, rfl, rfl, e3 _ _ (e2 _ _ (e _ _ hx)), h3, sz_of hz, fun p' hp' => q p' _ (fresh_back (e2.trans e3) hp') ((e2.trans e3).trans (Ex.new hp')) upd_same⟩
/-- a new list given to a method, to a def -/
theorem ev_methL {C a dx : Addr} {fs : List (Str × V)} {m : Str} {sp : Sp} {E : XK} {xs : List V} (h : Ev ta σ H (.ref a)) (ha : H a = some (.ins C dx fs)) (hm : fs.lookup m = none) (hv : EvL te σ H xs)
    (hs : ∀ p H1, Ex H H1 → H1 p = some (.lst xs) → SpV sp [.ref a, .ref p] H1 z) : Ev (tMeth C m sp [] E ta (tCons te tNil)) σ H z := fun H1 e Q q =>
  h H1 e _ fun H2 e2 => ⟨a, dx, fs, rfl, e2 _ _ (e _ _ ha), hm, hv H2 (e.trans e2) _ fun p H3 _ e3 h3 => hs p H3 ((e.trans e2).trans e3) h3 H3 (Ex.refl _) Q (fun H4 e4 => q H4 ((e2.trans e3).trans e4)) E⟩
theorem rc_lenO {C a dx : Addr} {fs : List (Str × V)} {sp : Sp} {E : XK} {n : Nat} (ha : H a = some (.ins C dx fs)) (hn : n < 2 ^ 63) (hs : SpV sp [.ref a] H (.int (n : Nat))) :
    RC (fun xs H Q => ∃ a dx fs, xs = [.ref a] ∧ H a = some (.ins C dx fs) ∧ sp (.ref a :: []) H (fun v H' => ∃ n : Int, v = .int n ∧ (0 ≤ n ∧ n < 2 ^ 63) ∧ Q v H') E) [.ref a] H (.int (n : Nat)) := fun H1 e Q q =>
  ⟨a, dx, fs, rfl, e _ _ ha, hs H1 e _ (fun H2 e2 => ⟨_, rfl, ⟨by omega, by omega⟩, q H2 e2⟩) E⟩
/-- 1 << i -/
theorem rv_shl {i : Nat} (h : i ≤ 1000) : RV (rI CPow fun i j => .int (i * 2 ^ j.toNat)) (.int 1) (.int (i : Nat)) H (.int ((2 ^ i : Nat) : Int)) := fun H1 e Q q =>
  ⟨1, i, rfl, rfl, ⟨by omega, by omega, by decide⟩, by
    have : (1 : Int) * 2 ^ ((i : Int)).toNat = ((2 ^ i : Nat) : Int) := by rw [Int.toNat_natCast, Int.one_mul]; push_cast; rfl
    show Q (.int ((1 : Int) * 2 ^ ((i : Int)).toNat)) H1
    rw [this]
    exact q H1 (Ex.refl _)⟩
end
/-! masks -/
def maskL (S L : List Nat) : Nat := (L.map fun c => 2 ^ S.idxOf c).sum
theorem maskL_int (S L : List Nat) : (L.map fun c => ((2 ^ S.idxOf c : Nat) : Int)).sum = (maskL S L : Nat) := by
  unfold maskL
  induction L with
  | nil => rfl
  | cons c L ih => rw [List.map_cons, List.sum_cons, ih, List.map_cons, List.sum_cons]; push_cast; rfl
def sp_mask_of (K : PySem.W.Frag) : Sp := psp fun vs z H => ∃ p S η L, vs = [.ref p, .str (tx L)] ∧ FontAt K H p S η ∧ SOk S ∧ (∀ c ∈ L, c ∈ S) ∧ L.length ≤ 6 ∧ z = .int (maskL S L : Nat)
theorem ok_mask_of {P : Program} {w : World} {K : PySem.W.Frag} {mg : Str → Option Value} {base : Heap} (T : Tx K mg) : FnOk P w K mg base CX0 1 (f_mask_of K) (fdOf K (f_mask_of K)) ["font", "signs"] (sp_mask_of K) := by
  refine T.d_mask_of.ok sc_mask_of (fun vs H Q E h => by obtain ⟨z, ⟨p, S, η, L, rfl, hf, hS, hL, hl, rfl⟩, k⟩ := h; rfl) (fun cdv A outer s H vs Q E hr h => ?_)
  obtain ⟨z, ⟨p, S, η, L, rfl, hf, hS, hL, hl, rfl⟩, k⟩ := h
  refine ⟨_, PSs.nox (pss_one (ps_ret (pe_callB (cr_sum rfl) (by rfl) (by exact T.z_sum) bt_sum (pa_cons (pe_lc (own := [("sign", 2)]) rfl sc_mask_of.nd (pi_str (pv 1)) (blkOk_by (own := [("sign", 2)]) (N := ["font", "signs", "sign"]) (sc := (defScope s_mask_of)) (by decide +kernel)) (fun _ _ _ _ _ => pg_name (i := 2) sc_mask_of.nd rfl (by first | exact Or.inl rfl | exact Or.inr rfl)) (fun _ _ _ _ _ => pts_nil) (fun _ _ _ _ _ => pe_op op_shl pe_int (pe_dget (by exact hu_of hr) (pe_fldK (K := K) rfl (pv 0) (by rfl)) (pv 2) (fun _ _ => rfl)))) pa_nil)))), ?_⟩
  rw [← maskL_int] at k
  refine s_ret (ev_sumM (g := fun c => ((2 ^ S.idxOf c : Nat) : Int)) (el_lcM (f := sV) (L := L) (fun c => .int ((2 ^ S.idxOf c : Nat) : Int)) (ew_sg (ev_var rfl)) (by omega) (fun _ => rfl) fun c H1 hc e => ?_)) k
  have := List.idxOf_lt_length_of_mem (hL c hc)
  have := hS.most
  exact ev_op ev_c (ev_rk T (hf.up e) hS.nd (c := c) (ev_var rfl) (ev_var rfl) (hL c hc)) (rv_shl (by omega))
theorem v_mask_of {K : PySem.W.Frag} {p : Addr} {S L : List Nat} {η : Nat → Option Nat} {H : Hp} (f : FontAt K H p S η) (hS : SOk S) (hL : ∀ c ∈ L, c ∈ S) (hl : L.length ≤ 6) : SpV (sp_mask_of K) [.ref p, .str (tx L)] H (.int (maskL S L : Nat)) :=
  psp_v fun H1 e => ⟨p, S, η, L, rfl, f.up e, hS, hL, hl, rfl⟩
def sp_number_of_sets (K : PySem.W.Frag) : Sp := psp fun vs z H => ∃ p S η, vs = [.ref p] ∧ FontAt K H p S η ∧ SOk S ∧ z = .int ((2 ^ S.length : Nat) : Int)
theorem ok_number_of_sets {P : Program} {w : World} {K : PySem.W.Frag} {mg : Str → Option Value} {base : Heap} (T : Tx K mg) : FnOk P w K mg base CX0 3 (f_number_of_sets K) (fdOf K (f_number_of_sets K)) ["font"] (sp_number_of_sets K) := by
  refine T.d_number_of_sets.ok sc_number_of_sets (fun vs H Q E h => by obtain ⟨z, ⟨p, S, η, rfl, hf, hS, rfl⟩, k⟩ := h; rfl) (fun cdv A outer s H vs Q E hr h => ?_)
  obtain ⟨z, ⟨p, S, η, rfl, hf, hS, rfl⟩, k⟩ := h
  refine ⟨_, PSs.nox (pss_one (ps_ret (pe_op op_shl pe_int (pe_callB (call_lenO (ok_Font_len T) (by exact hr.mono (by first | decide | omega)) (bn_Font_len T) .nil pass0 T.i_len T.h_len) (by rfl) (by exact T.z_len) bt_len (pa_cons (pv 0) pa_nil))))), ?_⟩
  obtain ⟨dx, r, hd, kvs, h1, _⟩ := id hf.ex
  have := hS.most
  exact s_ret (ev_op ev_c (ev_cb (ea_cons (ev_var rfl) ea_nil) (rc_lenO h1 (by omega) (v_Font_len hf hS))) (rv_shl (by omega))) k
theorem v_number_of_sets {K : PySem.W.Frag} {p : Addr} {S : List Nat} {η : Nat → Option Nat} {H : Hp} (f : FontAt K H p S η) (hS : SOk S) : SpV (sp_number_of_sets K) [.ref p] H (.int ((2 ^ S.length : Nat) : Int)) :=
  psp_v fun H1 e => ⟨p, S, η, rfl, f.up e, hS, rfl⟩
/-! what a kind shows -/
def getV (o : Option Nat) : V := (o.map sV).getD .non
theorem fm_get (η : Nat → Option Nat) (L : List Nat) : (L.filter fun c => (η c).isSome).map (fun c => getV (η c)) = (L.filterMap η).map sV := by
  induction L with
  | nil => rfl
  | cons c L ih =>
    rw [List.filter_cons, List.filterMap_cons]
    cases h : η c with
    | none => simpa using ih
    | some d =>
      simp only [Option.isSome_some, if_true, List.map_cons, ih, h]
      rfl
theorem sides_len (k : Nat × Nat) : (sidesL k).length ≤ 2 := List.length_filter_le _ _
section
variable {K : PySem.W.Frag} {H : Hp} {σ : L2.St} {ta tb td ty : TE} {kvs : List (Key × V)} {η : Nat → Option Nat} {d : Addr}
theorem ev_inH {mg : Str → Option Value} {p : Addr} {S : List Nat} {c : Nat} (T : Tx K mg) (f : FontAt K H p S η) (hy : Ev ty σ H (sV c)) (ht : Ev ta σ H (.ref p)) : Ev (tDIn ty (tFld K ta "heads")) σ H (.bl (η c).isSome) := by
  obtain ⟨r, kvs, hd, h, g⟩ := ev_heads T f ht
  have := ev_din (k := kS c) hy g hd
  rw [h.get, Option.isSome_map] at this
  exact this
theorem ev_getH {mg : Str → Option Value} {p : Addr} {S : List Nat} {c : Nat} (T : Tx K mg) (f : FontAt K H p S η) (hy : Ev ty σ H (sV c)) (ht : Ev ta σ H (.ref p)) (hs : (η c).isSome = true) : Ev (tDGet (tFld K ta "heads") ty) σ H (getV (η c)) := by
  obtain ⟨r, kvs, hd, h, g⟩ := ev_heads T f ht
  refine ev_dget (k := kS c) g hy hd ?_
  rw [h.get]
  obtain ⟨e, he⟩ := Option.isSome_iff_exists.mp hs
  rw [he]
  rfl
end
def sp_Font_seen (K : PySem.W.Frag) : Sp := psp fun vs z H => ∃ p S η k, vs = [.ref p, .str (kt k)] ∧ FontAt K H p S η ∧ SOk S ∧ z = .str (tx (shows S η k))
theorem ok_Font_seen {P : Program} {w : World} {K : PySem.W.Frag} {mg : Str → Option Value} {base : Heap} (T : Tx K mg) : FnOk P w K mg base CX0 2 (f_Font_seen K) (fdOf K (f_Font_seen K)) ["self", "kind"] (sp_Font_seen K) := by
  refine T.d_Font_seen.ok sc_Font_seen (fun vs H Q E h => by obtain ⟨z, ⟨p, S, η, kd, rfl, hf, hS, rfl⟩, k⟩ := h; rfl) (fun cdv A outer s H vs Q E hr h => ?_)
  obtain ⟨z, ⟨p, S, η, kd, rfl, hf, hS, rfl⟩, k⟩ := h
  refine ⟨_, PSs.nox (pss_cons (ps_setLc (i := 2) (own := [("side", 3)]) rfl sc_Font_seen.nd rfl rfl (sw_true rfl rfl rfl (by decide +kernel)) (pi_str (pv 1)) (blkOk_by (own := [("side", 3)]) (N := ["self", "kind", "sides", "side"]) (sc := (defScope s_Font_seen)) (by decide +kernel)) (fun _ _ _ _ _ => pg_name (i := 3) sc_Font_seen.nd rfl (by first | exact Or.inl rfl | exact Or.inr rfl)) (fun _ _ _ _ _ => pts_one (pt_cmpR op_ne (pv 3) (pe_gs (by rfl) (by exact T.c_BLANK)) (nomark _))) (fun _ _ _ _ _ => pv 3)) (
pss_one (ps_ret (pe_meth (pv 0) T.cl_Font T.M_Font_ascending (ok_Font_ascending T) (by exact hr.mono (by first | decide | omega)) (bn_Font_ascending T) .nil pass0 (pa_cons (pe_op op_cat (pv 2) (pe_lc (own := [("side", 3)]) rfl sc_Font_seen.nd (pi_list (pv 2)) (blkOk_by (own := [("side", 3)]) (N := ["self", "kind", "sides", "side"]) (sc := (defScope s_Font_seen)) (by decide +kernel)) (fun _ _ _ _ _ => pg_name (i := 3) sc_Font_seen.nd rfl (by first | exact Or.inl rfl | exact Or.inr rfl)) (fun _ _ _ _ _ => pts_one (pt_cmp (pc_din (by exact hu_of hr) (pv 3) (pe_fldK (K := K) rfl (pv 0) (by rfl))))) (fun _ _ _ _ _ => pe_dget (by exact hu_of hr) (pe_fldK (K := K) rfl (pv 0) (by rfl)) (pv 3) (fun _ _ => rfl)))) pa_nil))))), ?_⟩
  have hl := sides_len kd
  refine q_asgL (xs := (sidesL kd).map sV) (el_lcN (f := sV) (L := [kd.1, kd.2]) (fun c => !decide (c = 45)) sV (ew_sg (ev_var rfl)) (show 2 ≤ 40000 by decide) (fun _ => rfl) fun c H1 hc e => ⟨et_test (ev_neS (ev_var rfl) ev_blank), fun _ => ev_var rfl⟩) fun q H1 hq e hL => ?_
  have hf1 := hf.up e
  obtain ⟨dx, r, hd, kvs, h1, _⟩ := id hf1.ex
  refine s_ret (ev_methL (xs := (seenL η kd).map sV) (ev_var rfl) h1 fl_no ?_ fun p2 H2 e2 h2 => v_Font_ascending (hf1.up e2) hS (sq_of h2)) fun H2 e2 => k H2 (e.trans e2)
  rw [seenL, List.map_append]
  refine el_cat hL (ev_var rfl) ?_ ?_
  · rw [← fm_get]
    refine el_lcN (f := sV) (L := sidesL kd) (fun c => (η c).isSome) _ (ew_map (ew_list (ev_var rfl) (sq_of hL))) (by omega) (fun _ => rfl) fun c H2 hc e2 => ?_
    exact ⟨et_B (ev_inH T (hf1.up e2) (ev_var rfl) (ev_var rfl)), fun hs => ev_getH T (hf1.up e2) (ev_var rfl) (ev_var rfl) hs⟩
  · have := List.length_filterMap_le η (sidesL kd)
    rw [List.length_map, List.length_map]
    omega
theorem v_Font_seen {K : PySem.W.Frag} {p : Addr} {S : List Nat} {η : Nat → Option Nat} {k : Nat × Nat} {H : Hp} (f : FontAt K H p S η) (hS : SOk S) : SpV (sp_Font_seen K) [.ref p, .str (kt k)] H (.str (tx (shows S η k))) :=
  psp_v fun H1 e => ⟨p, S, η, k, rfl, f.up e, hS, rfl⟩
def sp_Font_eq (K : PySem.W.Frag) : Sp := psp fun vs z H => ∃ p S η, vs = [.ref p, .ref p] ∧ FontAt K H p S η ∧ z = .bl true
theorem ok_Font_eq {P : Program} {w : World} {K : PySem.W.Frag} {mg : Str → Option Value} {base : Heap} (T : Tx K mg) : FnOk P w K mg base CX0 1 (f_Font_eq K) (fdOf K (f_Font_eq K)) ["self", "other"] (sp_Font_eq K) := by
  refine T.d_Font_eq.ok sc_Font_eq (fun vs H Q E h => by obtain ⟨z, ⟨p, S, η, rfl, hf, rfl⟩, k⟩ := h; rfl) (fun cdv A outer s H vs Q E hr h => ?_)
  obtain ⟨z, ⟨p, S, η, rfl, hf, rfl⟩, k⟩ := h
  refine ⟨_, PSs.nox (pss_one (ps_ret (pe_and (pe_callB (C8.call_isC T.is_Font) (by rfl) (by exact T.z_isinstance) bt_isinstance (pa_cons (pv 1) (pa_cons (pe_glob (v := .ref (C_Font K)) (by rfl) (by exact T.m_Font) rfl) pa_nil))) (pe_and (pe_cmpR op_eq (pe_fld (pv 0) (by rfl)) (pe_fld (pv 1) (by rfl)) (nomark _)) (pe_one (pe_cmpR (op_eq_dictA (by exact hr.units0)) (pe_fld (pv 0) (by rfl)) (pe_fld (pv 1) (by rfl)) (nomark _))))))), ?_⟩
  obtain ⟨dx, r, hd, kvs, h1, h2, h3, h4⟩ := id hf.ex
  refine s_ret (ev_andV (a := true) (b := true) (ev_cb (ea_cons (ev_var rfl) (ea_cons ev_c ea_nil)) (fun H1 e Q q => ⟨p, dx, _, rfl, e _ _ h1, q H1 (Ex.refl _)⟩)) fun _ => ev_andV (a := true) (b := true) (ev_is (ev_op (ev_word T hf (ev_var rfl)) (ev_word T hf (ev_var rfl)) (rv_eq rfl)) (by rw [decide_eq_true rfl])) fun _ => ?_) k
  have w : ∀ i, (L2.start ["self", "other"] [V.ref p, V.ref p])[i]? = some (some (V.ref p)) → Ev (tFld K (tVar i) "heads") (L2.start ["self", "other"] [V.ref p, V.ref p]) H (.ref hd) := fun i hi => ev_fld (ev_var hi) h1 T.cl_Font T.n_Font_heads fl_heads
  exact ev_op (w 0 rfl) (w 1 rfl) fun H1 e Q q => ⟨hd, hd, kvs, kvs, rfl, rfl, e _ _ h3, e _ _ h3, rfl, h4.self, q H1 (Ex.refl _)⟩
theorem v_Font_eq {K : PySem.W.Frag} {p : Addr} {S : List Nat} {η : Nat → Option Nat} {H : Hp} (f : FontAt K H p S η) : SpV (sp_Font_eq K) [.ref p, .ref p] H (.bl true) := psp_v fun H1 e => ⟨p, S, η, rfl, f.up e, rfl⟩
end P38

set_option Elab.async false
set_option linter.all false
set_option maxRecDepth 100000
set_option maxHeartbeats 4000000
namespace P38
/-! sums over the parts of a mask -/
/-- what the first t rounds leave at m -/
def zet (x : Nat → Int) : Nat → Nat → Int
  | 0, m => x m
  | t + 1, m => zet x t m + if m.testBit t then zet x t (m ^^^ 2 ^ t) else 0
theorem zet_off {x : Nat → Int} {t m : Nat} (h : m.testBit t = false) : zet x (t + 1) m = zet x t m := by
  rw [zet, h, if_neg (by decide), Int.add_zero]
theorem zet_on {x : Nat → Int} {t m : Nat} (h : m.testBit t = true) : zet x (t + 1) m = zet x t m + zet x t (m ^^^ 2 ^ t) := by
  rw [zet, if_pos h]
theorem flip_bit (m t i : Nat) : (m ^^^ 2 ^ t).testBit i = (m.testBit i ^^ decide (t = i)) := by
  rw [Nat.testBit_xor, Nat.testBit_two_pow]
theorem flip_lt : ∀ {t m : Nat}, m.testBit t = true → m ^^^ 2 ^ t < m
  | 0, m, h => by
    have h1 : (m ^^^ 2 ^ 0).testBit 0 = false := by rw [flip_bit, h]; rfl
    have h2 : (m ^^^ 2 ^ 0) / 2 = m / 2 := by rw [Nat.xor_div_two]; exact Nat.xor_zero _
    rw [Nat.testBit_zero] at h h1
    have h3 := of_decide_eq_true h
    have h4 := of_decide_eq_false h1
    omega
  | t + 1, m, h => by
    rw [Nat.testBit_succ] at h
    have h2 : (m ^^^ 2 ^ (t + 1)) / 2 = m / 2 ^^^ 2 ^ t := by rw [Nat.xor_div_two, Nat.pow_succ, Nat.mul_div_cancel _ (by decide)]
    have := flip_lt h
    omega
theorem zet_congr {x y : Nat → Int} {n : Nat} (h : ∀ m, m < n → x m = y m) : ∀ t m, m < n → zet x t m = zet y t m
  | 0, m, hm => h m hm
  | t + 1, m, hm => by
    cases b : m.testBit t with
    | false => rw [zet_off b, zet_off b]; exact zet_congr h t m hm
    | true => rw [zet_on b, zet_on b, zet_congr h t m hm, zet_congr h t _ (Nat.lt_trans (flip_lt b) hm)]
theorem zet_zero : ∀ t m, zet (fun _ => 0) t m = 0
  | 0, m => rfl
  | t + 1, m => by
    cases b : m.testBit t with
    | false => rw [zet_off b]; exact zet_zero t m
    | true => rw [zet_on b, zet_zero t m, zet_zero t]; rfl
theorem zet_add (x y : Nat → Int) : ∀ t m, zet (fun m => x m + y m) t m = zet x t m + zet y t m
  | 0, m => rfl
  | t + 1, m => by
    cases b : m.testBit t with
    | false => rw [zet_off b, zet_off b, zet_off b]; exact zet_add x y t m
    | true => rw [zet_on b, zet_on b, zet_on b, zet_add x y t m, zet_add x y t]; omega
theorem zet_list {α : Type} (X : α → Nat → Int) (t m : Nat) : ∀ L : List α, zet (fun m => (L.map fun a => X a m).sum) t m = (L.map fun a => zet (X a) t m).sum
  | [] => zet_zero t m
  | a :: L => by
    have e : (fun m => ((a :: L).map fun a => X a m).sum) = fun m => X a m + (fun m => (L.map fun a => X a m).sum) m := funext fun m => by rw [List.map_cons, List.sum_cons]
    rw [e, zet_add, zet_list X t m L, List.map_cons, List.sum_cons]
/-- s lies within m by the first t places, and is m by the others -/
def Under (t s m : Nat) : Prop := (∀ i, i < t → s.testBit i = true → m.testBit i = true) ∧ ∀ i, t ≤ i → s.testBit i = m.testBit i
def pnt (s : Nat) (a : Int) : Nat → Int := fun m => if m = s then a else 0
theorem zet_pnt (s : Nat) (a : Int) : ∀ t m, (Under t s m → zet (pnt s a) t m = a) ∧ (¬ Under t s m → zet (pnt s a) t m = 0)
  | 0, m => by
    have e : Under 0 s m ↔ m = s := ⟨fun h => (Nat.eq_of_testBit_eq fun i => h.2 i (Nat.zero_le i)).symm, fun h => ⟨fun i z => absurd z (Nat.not_lt_zero i), fun i _ => by rw [h]⟩⟩
    exact ⟨fun h => if_pos (e.mp h), fun h => if_neg fun z => h (e.mpr z)⟩
  | t + 1, m => by
    have ih := zet_pnt s a t
    have step : ∀ {p q : Nat}, p.testBit t = q.testBit t → Under t p q → Under (t + 1) p q := fun e h => ⟨fun i hi z => by
      by_cases c : i = t
      · rw [c] at z ⊢; rw [← e]; exact z
      · exact h.1 i (by omega) z, fun i hi => h.2 i (by omega)⟩
    have back : ∀ {p q : Nat}, p.testBit t = q.testBit t → Under (t + 1) p q → Under t p q := fun e h => ⟨fun i hi z => h.1 i (by omega) z, fun i hi => by
      by_cases c : i = t
      · rw [c]; exact e
      · exact h.2 i (by omega)⟩
    cases b : m.testBit t with
    | false =>
      rw [zet_off b]
      refine ⟨fun h => (ih m).1 (back ?_ h), fun h => (ih m).2 fun z => h (step (z.2 t (Nat.le_refl t)) z)⟩
      cases c : s.testBit t with
      | false => exact b.symm
      | true => exact absurd (h.1 t (Nat.lt_succ_self t) c) (by rw [b]; decide)
    | true =>
      rw [zet_on b]
      have fb : (m ^^^ 2 ^ t).testBit t = false := by rw [flip_bit, b, decide_eq_true rfl]; rfl
      have fo : ∀ i, i ≠ t → (m ^^^ 2 ^ t).testBit i = m.testBit i := fun i hi => by rw [flip_bit, decide_eq_false (by omega)]; simp
      cases c : s.testBit t with
      | true =>
        have no : ¬ Under t s (m ^^^ 2 ^ t) := fun h => by
          have := h.2 t (Nat.le_refl t)
          rw [c, fb] at this
          cases this
        rw [(ih _).2 no, Int.add_zero]
        exact ⟨fun h => (ih m).1 (back (c.trans b.symm) h), fun h => (ih m).2 fun z => h (step (c.trans b.symm) z)⟩
      | false =>
        have no : ¬ Under t s m := fun h => by
          have := h.2 t (Nat.le_refl t)
          rw [c, b] at this
          cases this
        have iff : Under (t + 1) s m ↔ Under t s (m ^^^ 2 ^ t) := by
          constructor
          · intro h
            refine ⟨fun i hi z => by rw [fo i (by omega)]; exact h.1 i (by omega) z, fun i hi => ?_⟩
            by_cases d : i = t
            · rw [d, c, fb]
            · rw [fo i d]; exact h.2 i (by omega)
          · intro h
            refine ⟨fun i hi z => ?_, fun i hi => ?_⟩
            · by_cases d : i = t
              · rw [d]; exact b
              · have := h.1 i (by omega) z
                rwa [fo i d] at this
            · rw [h.2 i (by omega), fo i (by omega)]
        rw [(ih m).2 no, Int.zero_add]
        exact ⟨fun h => (ih _).1 (iff.mp h), fun h => (ih _).2 fun z => h (iff.mpr z)⟩
/-- a part of m -/
def Part (n s m : Nat) : Prop := ∀ i, i < n → s.testBit i = true → m.testBit i = true
theorem bit_hi {n m i : Nat} (h : m < 2 ^ n) (hi : n ≤ i) : m.testBit i = false := Nat.testBit_lt_two_pow (Nat.lt_of_lt_of_le h (Nat.pow_le_pow_right (by decide) hi))
theorem zet_part {n s m : Nat} (a : Int) (hs : s < 2 ^ n) (hm : m < 2 ^ n) : (Part n s m → zet (pnt s a) n m = a) ∧ (¬ Part n s m → zet (pnt s a) n m = 0) := by
  have e : Under n s m ↔ Part n s m := ⟨fun h => h.1, fun h => ⟨h, fun i hi => by rw [bit_hi hs hi, bit_hi hm hi]⟩⟩
  rw [← e]
  exact zet_pnt s a n m
/-! masks of signs -/
theorem mask_cons {a : Nat} {S : List Nat} (p : Nat → Bool) (h : a ∉ S) : maskL (a :: S) ((a :: S).filter p) = (p a).toNat + 2 * maskL S (S.filter p) := by
  have e : maskL (a :: S) (S.filter p) = 2 * maskL S (S.filter p) := by
    unfold maskL
    have : ∀ L : List Nat, (∀ c ∈ L, c ∈ S) → (L.map fun c => 2 ^ (a :: S).idxOf c).sum = 2 * (L.map fun c => 2 ^ S.idxOf c).sum := by
      intro L hL
      induction L with
      | nil => rfl
      | cons c L ih =>
        rw [List.map_cons, List.sum_cons, List.map_cons, List.sum_cons, ih fun d hd => hL d (List.mem_cons_of_mem _ hd)]
        have ne : a ≠ c := fun z => h (z ▸ hL c List.mem_cons_self)
        rw [show (a :: S).idxOf c = S.idxOf c + 1 by rw [List.idxOf_cons, show (a == c) = false by simpa using ne]; rfl, Nat.pow_succ]
        omega
    exact this _ fun c hc => (List.mem_filter.mp hc).1
  rw [List.filter_cons]
  cases b : p a with
  | false =>
    rw [if_neg (by decide), e]
    show _ = 0 + _
    omega
  | true =>
    rw [if_pos rfl]
    show (((a :: S.filter p).map fun c => 2 ^ (a :: S).idxOf c)).sum = _
    rw [List.map_cons, List.sum_cons, List.idxOf_cons_self]
    show 2 ^ 0 + maskL (a :: S) (S.filter p) = 1 + _
    rw [e]
theorem bit_mask (p : Nat → Bool) : ∀ {S : List Nat}, S.Nodup → ∀ i, (maskL S (S.filter p)).testBit i = (S[i]?.map p).getD false
  | [], _, i => by
    show Nat.testBit 0 i = _
    rw [Nat.zero_testBit]
    rfl
  | a :: S, h, i => by
    have h2 := List.nodup_cons.mp h
    rw [mask_cons p h2.1]
    cases i with
    | zero =>
      rw [Nat.testBit_zero]
      cases b : p a <;> simp [b] <;> omega
    | succ i =>
      rw [Nat.testBit_succ, show ((p a).toNat + 2 * maskL S (S.filter p)) / 2 = maskL S (S.filter p) by cases p a <;> simp <;> omega, bit_mask p h2.2 i]
      rfl
theorem mask_lt (p : Nat → Bool) : ∀ {S : List Nat}, S.Nodup → maskL S (S.filter p) < 2 ^ S.length
  | [], _ => by show 0 < 1; decide
  | a :: S, h => by
    have h2 := List.nodup_cons.mp h
    have := mask_lt p h2.2
    rw [mask_cons p h2.1, List.length_cons, Nat.pow_succ]
    cases p a <;> simp <;> omega
/-- the signs of a mask -/
def inM (S : List Nat) (m : Nat) : Nat → Bool := fun c => m.testBit (S.idxOf c)
theorem mask_bit {S : List Nat} (h : S.Nodup) (p : Nat → Bool) {c : Nat} (hc : c ∈ S) : inM S (maskL S (S.filter p)) c = p c := by
  unfold inM
  rw [bit_mask p h, List.getElem?_eq_getElem (List.idxOf_lt_length_of_mem hc), List.getElem_idxOf]
  rfl
/-- every set of signs is one mask's -/
theorem mask_of_set {S : List Nat} (h : S.Nodup) (A : Nat → Bool) : ∃ m, m < 2 ^ S.length ∧ ∀ c ∈ S, inM S m c = A c := ⟨maskL S (S.filter A), mask_lt A h, fun c hc => mask_bit h A hc⟩
theorem part_mask {S : List Nat} (h : S.Nodup) (p : Nat → Bool) (m : Nat) : Part S.length (maskL S (S.filter p)) m ↔ ∀ c ∈ S, p c = true → inM S m c = true := by
  constructor
  · intro q c hc e
    exact q _ (List.idxOf_lt_length_of_mem hc) (by rw [← e]; exact mask_bit h p hc)
  · intro q i hi e
    rw [bit_mask p h, List.getElem?_eq_getElem hi] at e
    have := q S[i] (List.getElem_mem hi) e
    unfold inM at this
    rwa [h.idxOf_getElem _ hi] at this
theorem in_comp {S : List Nat} {m : Nat} (hm : m < 2 ^ S.length) {c : Nat} (hc : c ∈ S) : inM S (2 ^ S.length - 1 - m) c = !inM S m c := by
  unfold inM
  rw [show 2 ^ S.length - 1 - m = 2 ^ S.length - (m + 1) by omega, Nat.testBit_two_pow_sub_succ hm, decide_eq_true (List.idxOf_lt_length_of_mem hc), Bool.true_and]
end P38

set_option Elab.async false
set_option linter.all false
set_option maxRecDepth 100000
set_option maxHeartbeats 4000000
namespace P38
open PySem PySem.Spec PyProof.Rows L2 Evl
/-! bits -/
theorem ixN_nat {n j : Nat} (h : j < n) : ixN n ((j : Nat) : Int) = some j := by
  unfold ixN
  rw [if_pos (Int.natCast_nonneg _), if_pos (by omega), Int.toNat_natCast]
theorem bit_val (m t : Nat) : Builtin.bitAnd (((m : Nat) : Int) / 2 ^ (((t : Nat) : Int)).toNat) 1 = if m.testBit t then 1 else 0 := by
  have e1 : ((m : Nat) : Int) / 2 ^ (((t : Nat) : Int)).toNat = ((m / 2 ^ t : Nat) : Int) := by rw [Int.toNat_natCast]; push_cast; rfl
  rw [e1, PyProof.Rows.bitAnd_pp (Int.natCast_nonneg _) (by decide), Int.toNat_natCast, show ((1 : Int)).toNat = 1 from rfl, Nat.and_one_is_mod, Nat.testBit_eq_decide_div_mod_eq]
  have := Nat.mod_two_eq_zero_or_one (m / 2 ^ t)
  by_cases h : m / 2 ^ t % 2 = 1
  · rw [h, decide_eq_true rfl]; rfl
  · rw [decide_eq_false h, show m / 2 ^ t % 2 = 0 by omega]; rfl
theorem and_val (m s : Nat) : Builtin.bitAnd ((m : Nat) : Int) ((s : Nat) : Int) = ((m &&& s : Nat) : Int) := by
  rw [PyProof.Rows.bitAnd_pp (Int.natCast_nonneg _) (Int.natCast_nonneg _), Int.toNat_natCast, Int.toNat_natCast]
theorem xor_val (m s : Nat) : Builtin.bitXor ((m : Nat) : Int) ((s : Nat) : Int) = ((m ^^^ s : Nat) : Int) := by
  rw [Bits.bitXor_pp (Int.natCast_nonneg _) (Int.natCast_nonneg _), Int.toNat_natCast, Int.toNat_natCast]
section
variable {K : PySem.W.Frag} {σ : L2.St} {H : Hp} {ta tb te tl : TE}
theorem ev_bit {m t : Nat} (ha : Ev ta σ H (.int (m : Nat))) (hb : Ev tb σ H (.int (t : Nat))) : EvT (tTest (tOp rEq (tOp (rI0 fun i j => .int (Builtin.bitAnd i j)) (tOp (rI (fun _ j => 0 ≤ j) fun i j => .int (i / 2 ^ j.toNat)) ta tb) (tC (.int 1))) (tC (.int 1)))) σ H (m.testBit t) := by
  refine et_test (ev_is (ev_op (x := .int (if m.testBit t then 1 else 0)) (ev_is (ev_op (ev_op ha hb (rv_I (Int.natCast_nonneg _))) ev_c rv_I0) (by rw [bit_val])) ev_c (rv_eq rfl)) ?_)
  cases m.testBit t <;> rfl
theorem ev_flip {m t : Nat} (h : t ≤ 1000) (ha : Ev ta σ H (.int (m : Nat))) (hb : Ev tb σ H (.int (t : Nat))) : Ev (tOp (rI0 fun i j => .int (Builtin.bitXor i j)) ta (tOp (rI CPow fun i j => .int (i * 2 ^ j.toNat)) (tC (.int 1)) tb)) σ H (.int ((m ^^^ 2 ^ t : Nat) : Int)) :=
  ev_is (ev_op ha (ev_op ev_c hb (rv_shl h)) rv_I0) (by rw [xor_val])
theorem ev_bits {i : Int} (h : Ev te σ H (.int i)) : Ev (tBits te) σ H (.int (Builtin.Int.intBits i : Nat)) := fun H1 e Q q => h H1 e _ fun H2 e2 => ⟨i, rfl, q H2 e2⟩
/-- xs[i] of a list of numbers -/
theorem ev_ixI {a : Addr} {xs : List V} {m : Nat} {v : V} (ha : Ev ta σ H (.ref a)) (hb : Ev tb σ H (.int (m : Nat))) (h : SqL K H a xs) (hv : xs[m]? = some v) : Ev (tOp (rIxL K) ta tb) σ H v :=
  ev_op ha hb (rv_ixL h (by
    have := (List.getElem?_eq_some_iff.mp hv).1
    unfold atI
    rw [ixN_nat this]
    exact hv))
end
theorem bits_pow {n : Nat} (h : n ≤ 6) : Builtin.Int.intBits ((2 ^ n : Nat) : Int) = n + 1 := by
  have : ∀ n, n < 7 → Builtin.Int.intBits ((2 ^ n : Nat) : Int) = n + 1 := by decide +kernel
  exact this n (by omega)
theorem zet_bound {x : Nat → Int} {n B : Nat} (h : ∀ m, m < n → (x m).natAbs ≤ B) : ∀ t m, m < n → (zet x t m).natAbs ≤ 2 ^ t * B
  | 0, m, hm => by rw [Nat.pow_zero, Nat.one_mul]; exact h m hm
  | t + 1, m, hm => by
    have h1 := zet_bound h t m hm
    have e : 2 ^ (t + 1) * B = 2 * (2 ^ t * B) := by rw [Nat.pow_succ, Nat.mul_comm (2 ^ t) 2, Nat.mul_assoc]
    rw [e]
    cases b : m.testBit t with
    | false => rw [zet_off b]; omega
    | true =>
      have h2 := zet_bound h t _ (Nat.lt_trans (flip_lt b) hm)
      rw [zet_on b]
      omega
/-- the list of the numbers of 0, 1, .. -/
def numsL (n : Nat) (x : Nat → Int) : List V := (List.range n).map fun m => .int (x m)
theorem nums_len (n : Nat) (x : Nat → Int) : (numsL n x).length = n := by rw [numsL, List.length_map, List.length_range]
theorem nums_at {n m : Nat} (x : Nat → Int) (h : m < n) : (numsL n x)[m]? = some (.int (x m)) := by
  rw [numsL, List.getElem?_map, List.getElem?_range h]
  rfl
theorem nums_congr {n : Nat} {x y : Nat → Int} (h : ∀ m, m < n → x m = y m) : numsL n x = numsL n y := List.map_congr_left fun m hm => by rw [h m (List.mem_range.mp hm)]
theorem nums_set {n j : Nat} {x : Nat → Int} {a : Int} (h : j < n) : (numsL n x).set j (.int a) = numsL n fun m => if m = j then a else x m := by
  refine List.ext_getElem? fun i => ?_
  by_cases hi : i < n
  · rw [nums_at _ hi]
    by_cases c : i = j
    · rw [c, List.getElem?_set_self (by rw [nums_len]; exact h), if_pos rfl]
    · rw [List.getElem?_set_ne (fun z => c z.symm), nums_at _ hi, if_neg c]
  · rw [List.getElem?_eq_none (by rw [List.length_set, nums_len]; omega), List.getElem?_eq_none (by rw [nums_len]; omega)]
/-- round t, the masks below j done -/
def zst (x : Nat → Int) (t j : Nat) : Nat → Int := fun m => if m < j then zet x (t + 1) m else zet x t m
theorem zst_turn {x : Nat → Int} {t j n : Nat} (h : j < n) : numsL n (zst x t (j + 1)) = if j.testBit t then (numsL n (zst x t j)).set j (.int (zst x t j j + 1 * zst x t j (j ^^^ 2 ^ t))) else numsL n (zst x t j) := by
  cases b : j.testBit t with
  | false =>
    rw [if_neg (by decide)]
    refine nums_congr fun m hm => ?_
    unfold zst
    by_cases c : m < j
    · rw [if_pos c, if_pos (by omega)]
    · by_cases d : m = j
      · rw [d, if_pos (by omega), if_neg (by omega), zet_off b]
      · rw [if_neg c, if_neg (by omega)]
  | true =>
    rw [if_pos rfl, nums_set h]
    refine nums_congr fun m hm => ?_
    have fl := flip_lt b
    have fb : (j ^^^ 2 ^ t).testBit t = false := by rw [flip_bit, b, decide_eq_true rfl]; rfl
    unfold zst
    rw [if_pos fl, if_neg (Nat.lt_irrefl j), zet_off fb]
    by_cases d : m = j
    · rw [d, if_pos (by omega), if_pos rfl, zet_on b]; omega
    · rw [if_neg d]
      by_cases c : m < j
      · rw [if_pos c, if_pos (by omega)]
      · rw [if_neg c, if_neg (by omega)]
def sp_subset_sums (K : PySem.W.Frag) : Sp := pspL fun vs zs H => ∃ a n x, vs = [.ref a, .int 1] ∧ n ≤ 6 ∧ SqL K H a (numsL (2 ^ n) x) ∧ (∀ m, m < 2 ^ n → (x m).natAbs ≤ 2 ^ 200) ∧ zs = numsL (2 ^ n) (zet x n)
theorem ok_subset_sums {P : Program} {w : World} {K : PySem.W.Frag} {mg : Str → Option Value} {base : Heap} (T : Tx K mg) : FnOk P w K mg base CX0 1 (f_subset_sums K) (fdOf K (f_subset_sums K)) ["numbers", "sign"] (sp_subset_sums K) := by
  refine T.d_subset_sums.ok sc_subset_sums (fun vs H Q E h => by obtain ⟨zs, ⟨a, n, x, rfl, hn, hx, hB, rfl⟩, k⟩ := h; rfl) (fun cdv A outer s H vs Q E hr h => ?_)
  obtain ⟨zs, ⟨a, n, x, rfl, hn, hx, hB, rfl⟩, k⟩ := h
  refine ⟨_, PSs.nox (pss_cons (ps_set (i := 2) sc_subset_sums.nd rfl (by first | exact Or.inl rfl | exact Or.inr rfl) (pe_callTy call_list_of (by rfl) (by exact T.z_list) bt_list (pa_cons (pv 0) pa_nil))) (
pss_cons (ps_for PassesOwn.never rfl (pi_range1 (by rfl) (by exact T.z_range) (pa_cons (pe_op op_sub (pe_bits (pe_callB call_len_seq (by rfl) (by exact T.z_len) bt_len (pa_cons (pv 0) pa_nil))) pe_int) pa_nil)) (pg_name (i := 3) sc_subset_sums.nd rfl (by first | exact Or.inl rfl | exact Or.inr rfl)) (
pss_one (ps_for PassesOwn.never rfl (pi_range1 (by rfl) (by exact T.z_range) (pa_cons (pe_callB call_len_seq (by rfl) (by exact T.z_len) bt_len (pa_cons (pv 0) pa_nil)) pa_nil)) (pg_name (i := 4) sc_subset_sums.nd rfl (by first | exact Or.inl rfl | exact Or.inr rfl)) (
pss_one (ps_if (pt_cmpR op_eq (pe_op op_and (pe_op op_shr (pv 4) (pv 3)) pe_int) pe_int (nomark _)) (pss_one (ps_augS (pv 2) (pv 4) get_list (pe_op op_mulW (pv 1) (pe_ix ix_list (pv 2) (pe_op op_xor (pv 4) (pe_op op_shl pe_int (pv 3))) (fun _ _ => rfl))) ip_add set_list)) pss_nil))))) (
pss_one (ps_ret (pv 2))))), ?_⟩
  have h64 : 2 ^ n ≤ 64 := Nat.pow_le_pow_right (by decide) hn (n := 2)
  have hN : ((2 ^ n : Nat) : Int) ≤ 100000 := by
    have : 2 ^ n ≤ 100000 := by omega
    exact Int.ofNat_le.mpr this
  have hlen : Ev (tCB (rLenS K) (tCons (tVar 0) tNil)) (L2.start ["numbers", "sign", "found", "at", "mask"] [V.ref a, .int 1]) H (.int ((2 ^ n : Nat) : Int)) := ev_is (ev_len (ev_var rfl) hx) (by rw [nums_len])
  refine q_asgL (el_list (ev_var rfl) hx) fun p H1 hp e hL => ?_
  let Pv : Nat → L2.St → Hp → Prop := fun t σ' H' => (∃ u v, σ' = [some (.ref a), some (.int 1), some (.ref p), u, v]) ∧ Ex H H' ∧ H' p = some (.lst (numsL (2 ^ n) (zet x t)))
  refine q_forR1 (n := n) (ea_cons (ev_is (ev_op (ev_bits (i := ((2 ^ n : Nat) : Int)) (ev_is (ev_len (xs := numsL (2 ^ n) x) (ev_var rfl) (ex_l e hx)) (by rw [nums_len]))) ev_c rv_I0) (by rw [bits_pow hn]; show V.int _ = _; congr 1; omega)) ea_nil) ⟨by omega, by omega⟩ Pv (fun H2 e2 => ⟨⟨none, none, rfl⟩, e.trans e2, e2 _ _ hL⟩) (fun t σ' H' ht ⟨⟨u, v, hσ⟩, e1, h1⟩ => ?_) fun σ' H' ⟨⟨u, v, hσ⟩, e1, h1⟩ => ?_
  · subst hσ
    have ht : t < n := by omega
    let Pw : Nat → L2.St → Hp → Prop := fun j σ' H' => (∃ v, σ' = [some (.ref a), some (.int 1), some (.ref p), some (.int (t : Nat)), v]) ∧ Ex H H' ∧ H' p = some (.lst (numsL (2 ^ n) (zst x t j)))
    refine s_forR1 (n := ((2 ^ n : Nat) : Int)) (ea_cons (ev_is (ev_len (xs := numsL (2 ^ n) x) (ev_var rfl) (ex_l e1 hx)) (by rw [nums_len])) ea_nil) ⟨Int.natCast_nonneg _, hN⟩ Pw (fun H2 e2 => ⟨⟨v, rfl⟩, e1.trans e2, ?_⟩) (fun j σ' H' hj ⟨⟨v, hσ⟩, e2, h2⟩ => ?_) fun σ' H' ⟨⟨v, hσ⟩, e2, h2⟩ => ⟨⟨_, _, hσ⟩, e2, ?_⟩
    · rw [e2 _ _ h1]
      congr 2
    · subst hσ
      have hj : j < 2 ^ n := by omega
      refine s_if (b := j.testBit t) (ev_bit (m := j) (t := t) (ev_var rfl) (ev_var rfl)) (fun b H3 e3 => ?_) fun b H3 e3 => ?_
      · have h3 := e3 _ _ h2
        have e23 := e2.trans e3
        have fl := flip_lt b
        have bd : ∀ m, m < 2 ^ n → (zst x t j m).natAbs ≤ 2 ^ 210 := fun m hm => by
          have q1 := zet_bound hB (t + 1) m hm
          have q2 := zet_bound hB t m hm
          have q3 : 2 ^ (t + 1) ≤ 2 ^ 6 := Nat.pow_le_pow_right (by decide) (by omega)
          have q4 : 2 ^ t ≤ 2 ^ 6 := Nat.pow_le_pow_right (by decide) (by omega)
          have q5 : 2 ^ (t + 1) * 2 ^ 200 ≤ 2 ^ 6 * 2 ^ 200 := Nat.mul_le_mul_right _ q3
          have q6 : 2 ^ t * 2 ^ 200 ≤ 2 ^ 6 * 2 ^ 200 := Nat.mul_le_mul_right _ q4
          have q7 : 2 ^ 6 * 2 ^ 200 ≤ 2 ^ 210 := by decide
          unfold zst
          split <;> omega
        refine ⟨_, rfl, _, rfl, p, _, (j : Nat), _, rfl, rfl, h3, ⟨by omega, by omega⟩, nums_at _ (by omega), ?_⟩
        have hr : Ev (tOp (rI CMulW fun i j => .int (i * j)) (tVar 1) (tOp (rIxL K) (tVar 2) (tOp (rI0 fun i j => .int (Builtin.bitXor i j)) (tVar 4) (tOp (rI CPow fun i j => .int (i * 2 ^ j.toNat)) (tC (.int 1)) (tVar 3))))) [some (.ref a), some (.int 1), some (.ref p), some (.int (t : Nat)), some (.int (j : Nat))] H3 (.int (1 * zst x t j (j ^^^ 2 ^ t))) :=
          ev_op (ev_var rfl) (ev_ixI (ev_var rfl) (ev_flip (by omega) (ev_var rfl) (ev_var rfl)) (sq_of h3) (nums_at _ (Nat.lt_trans fl hj))) (rv_I (wide_mul (a := 1) (b := 220) (by decide) (Nat.lt_of_le_of_lt (bd _ (Nat.lt_trans fl hj)) (by decide)) (by decide) (by decide) (by decide)))
        refine hr H3 (Ex.refl _) _ fun H4 e4 => ⟨_, _, rfl, rfl, p, _, (j : Nat), j, rfl, rfl, e4 _ _ h3, ?_, ⟨_, rfl⟩, ?_, ?_⟩
        · rw [nums_len]
          exact ixN_nat hj
        · exact Ex.mut (e23.trans e4) hp
        · rw [upd_same, zst_turn hj, b]
          rfl
      · exact ⟨⟨_, rfl⟩, e2.trans e3, by rw [e3 _ _ h2, zst_turn hj, b]; rfl⟩
    · rw [h2]
      congr 2
      refine nums_congr fun m hm => ?_
      rw [zst, if_pos (by omega)]
  · subst hσ
    refine s_ret (ev_var rfl) fun H2 e2 => k p H2 hp (e1.trans e2) (e2 _ _ h1)
end P38

set_option Elab.async false
set_option linter.all false
set_option maxRecDepth 100000
set_option maxHeartbeats 4000000
namespace P38
open PySem PySem.Spec PyProof.Rows L2 Evl
/-! values that come with a word about them -/
def EvP (te : TE) (σ : L2.St) (H : Hp) (P : V → Hp → Prop) : Prop := ∀ H1, Ex H H1 → ∀ Q : VK, (∀ v H2, Ex H1 H2 → P v H2 → Q v H2) → te σ H1 Q
abbrev pspX (P : List V → (V → Hp → Prop) → Hp → Prop) : Sp := fun vs H Q _ => ∃ R, P vs R H ∧ ∀ v H', Ex H H' → R v H' → Q v H'
def SpP (sp : Sp) (vs : List V) (H : Hp) (R : V → Hp → Prop) : Prop := ∀ H1, Ex H H1 → ∀ Q : VK, (∀ v H2, Ex H1 H2 → R v H2 → Q v H2) → ∀ E : XK, sp vs H1 Q E
theorem pspX_v {P : List V → (V → Hp → Prop) → Hp → Prop} {vs : List V} {R : V → Hp → Prop} {H : Hp} (h : ∀ H1, Ex H H1 → P vs R H1) : SpP (pspX P) vs H R := fun H1 e Q q E => ⟨R, h H1 e, q⟩
/-- tuples by what stands in them -/
def RowsAt {α : Type} (H : Hp) (row : α → List V) (ts : List Addr) (L : List α) : Prop := Paired (fun (t : Addr) (a : α) => H t = some (.tup (row a))) ts L
theorem paired_mono {α β : Type} {F G : α → β → Prop} (h : ∀ a b, F a b → G a b) : ∀ {l : List α} {m : List β}, Paired F l m → Paired G l m
  | _, _, .nil => .nil
  | _, _, .cons a r => .cons (h _ _ a) (paired_mono h r)
theorem paired_len {α β : Type} {F : α → β → Prop} : ∀ {l : List α} {m : List β}, Paired F l m → l.length = m.length
  | _, _, .nil => rfl
  | _, _, .cons _ r => by rw [List.length_cons, List.length_cons, paired_len r]
theorem paired_at {α β : Type} {F : α → β → Prop} : ∀ {l : List α} {m : List β}, Paired F l m → ∀ {i : Nat} {b : β}, m[i]? = some b → ∃ a, l[i]? = some a ∧ F a b
  | _, _, .nil, i, b, h => by cases h
  | a :: l, c :: m, .cons x r, 0, b, h => by
    obtain rfl : c = b := Option.some.inj h
    exact ⟨a, rfl, x⟩
  | _ :: _, _ :: _, .cons x r, i + 1, b, h => paired_at r (i := i) h
theorem paired_snoc {α β : Type} {F : α → β → Prop} {a : α} {b : β} (h : F a b) : ∀ {l : List α} {m : List β}, Paired F l m → Paired F (l ++ [a]) (m ++ [b])
  | _, _, .nil => .cons h .nil
  | _, _, .cons x r => .cons x (paired_snoc h r)
theorem RowsAt.up {α : Type} {H H' : Hp} {row : α → List V} {ts : List Addr} {L : List α} (h : RowsAt H row ts L) (e : Ex H H') : RowsAt H' row ts L := paired_mono (fun t a z => e _ _ z) h
/-- a list of tuples, a tuple of tuples -/
def RowsL {α : Type} (row : α → List V) (L : List α) (v : V) (H : Hp) : Prop := ∃ p ts, v = .ref p ∧ H p = some (.lst (ts.map V.ref)) ∧ RowsAt H row ts L
def RowsT {α : Type} (row : α → List V) (L : List α) (v : V) (H : Hp) : Prop := ∃ p ts, v = .ref p ∧ H p = some (.tup (ts.map V.ref)) ∧ RowsAt H row ts L
theorem RowsL.up {α : Type} {row : α → List V} {L : List α} {v : V} {H H' : Hp} (h : RowsL row L v H) (e : Ex H H') : RowsL row L v H' := by
  obtain ⟨p, ts, rfl, h1, h2⟩ := h
  exact ⟨p, ts, rfl, e _ _ h1, h2.up e⟩
theorem RowsT.up {α : Type} {row : α → List V} {L : List α} {v : V} {H H' : Hp} (h : RowsT row L v H) (e : Ex H H') : RowsT row L v H' := by
  obtain ⟨p, ts, rfl, h1, h2⟩ := h
  exact ⟨p, ts, rfl, e _ _ h1, h2.up e⟩
/-- what a walk over rows gives -/
def YRow {α : Type} (row : α → List V) (L : List α) : Nat → Hp → V → Hp → Prop := fun i H x H' => H' = H ∧ ∃ t a, x = .ref t ∧ L[i]? = some a ∧ H t = some (.tup (row a))
section
variable {K : PySem.W.Frag} {σ : L2.St} {H H' : Hp} {ta tb tc te tl td : TE} {t : TT} {g : TG} {x y z v : V}
theorem EvP.mono {P : V → Hp → Prop} (e : Ex H H') (h : EvP te σ H P) : EvP te σ H' P := fun H1 a Q q => h H1 (e.trans a) Q q
theorem ep_call {sp : Sp} {dvs vs : List V} {E : XK} {ta : TA} {R : V → Hp → Prop} (h : EvA ta σ H vs) (hs : SpP sp (vs ++ dvs) H R) : EvP (tCall sp dvs E ta) σ H R := fun H1 e Q q =>
  h H1 e _ fun H2 e2 => hs H2 (e.trans e2) Q (fun v H3 e3 r => q v H3 (e2.trans e3) r) E
theorem ep_prop {C a dx : Addr} {fs : List (Str × V)} {sp : Sp} {E : XK} {R : V → Hp → Prop} (h : Ev ta σ H (.ref a)) (ha : H a = some (.ins C dx fs)) (hs : SpP sp [.ref a] H R) : EvP (tProp C sp [] E ta) σ H R := fun H1 e Q q =>
  h H1 e _ fun H2 e2 => ⟨a, dx, fs, rfl, e2 _ _ (e _ _ ha), hs H2 (e.trans e2) Q (fun v H3 e3 r => q v H3 (e2.trans e3) r) E⟩
theorem s_retP {D : Ends} {P : V → Hp → Prop} (h : EvP te σ H P) (k : ∀ v H1, Ex H H1 → P v H1 → D.rt v H1) : tRet te D σ H := h H (Ex.refl H) _ k
theorem ew_rowsL {α : Type} {row : α → List V} {L : List α} (h : EvP tl σ H (RowsL row L)) : EvW (iList K tl) σ H L.length (YRow row L) := fun H1 e R q =>
  h H1 e _ fun v H2 e2 r => by
    obtain ⟨p, ts, rfl, h1, h2⟩ := r
    have hl : (ts.map V.ref).length = L.length := by rw [List.length_map, paired_len h2]
    refine ⟨p, rfl, ⟨_, sq_of h1⟩, q _ (fun H => H p = some (.lst (ts.map V.ref)) ∧ RowsAt H row ts L) H2 e2 ?_ fun H3 e3 => ⟨e3 _ _ h1, h2.up e3⟩⟩
    have w := (walk_list (K := K) (a := p) (xs := ts.map V.ref))
    rw [hl] at w
    refine w.mono (fun _ g => sq_of g.1) fun i H x H' hi g y => ?_
    obtain ⟨e1, ex⟩ := y
    obtain ⟨a, ha⟩ : ∃ a, L[i]? = some a := ⟨_, List.getElem?_eq_getElem hi⟩
    obtain ⟨t, ht, hrow⟩ := paired_at g.2 ha
    rw [List.getElem?_map, ht] at ex
    exact ⟨e1, t, a, (Option.some.inj ex).symm, ha, hrow⟩
theorem ew_rowsT {α : Type} {row : α → List V} {L : List α} (h : EvP tl σ H (RowsT row L)) : EvW (iTup K tl) σ H L.length (YRow row L) := fun H1 e R q =>
  h H1 e _ fun v H2 e2 r => by
    obtain ⟨p, ts, rfl, h1, h2⟩ := r
    have hl : (ts.map V.ref).length = L.length := by rw [List.length_map, paired_len h2]
    refine ⟨p, rfl, ⟨_, st_of h1⟩, q _ (fun H => H p = some (.tup (ts.map V.ref)) ∧ RowsAt H row ts L) H2 e2 ?_ fun H3 e3 => ⟨e3 _ _ h1, h2.up e3⟩⟩
    have w := (walk_tup (K := K) (a := p) (xs := ts.map V.ref))
    rw [hl] at w
    refine w.mono (fun _ g => st_of g.1) fun i H x H' hi g y => ?_
    obtain ⟨e1, ex⟩ := y
    obtain ⟨a, ha⟩ : ∃ a, L[i]? = some a := ⟨_, List.getElem?_eq_getElem hi⟩
    obtain ⟨t, ht, hrow⟩ := paired_at g.2 ha
    rw [List.getElem?_map, ht] at ex
    exact ⟨e1, t, a, (Option.some.inj ex).symm, ha, hrow⟩
/-- a value at hand -/
theorem ep_of {P : V → Hp → Prop} (h : Ev te σ H v) (hp : ∀ H1, Ex H H1 → P v H1) : EvP te σ H P := fun H1 e Q q => h H1 e _ fun H2 e2 => q _ _ e2 (hp _ (e.trans e2))
/-- a comprehension that makes tuples -/
theorem el_lcT {α : Type} {L : List α} {wi : TI} {n : Nat} {Y : Nat → Hp → V → Hp → Prop} {vs : List Nat} (f : α → Bool) (row : α → List V) (hw : EvW wi σ H n Y) (hn : n = L.length) (hz : n ≤ 40000)
    (step : ∀ i a x H1 H2, L[i]? = some a → Ex H H1 → Y i H1 x H2 → ∃ σ2, Ex H1 H2 ∧ (∀ Q : L2.St → Hp → Prop, Q σ2 H2 → g x (wipe σ vs) H2 Q) ∧ wipe σ2 vs = wipe σ vs ∧ EvT t σ2 H2 (f a) ∧ (f a = true → EvU te σ2 H2 (row a))) :
    EvP (tLc wi g t te vs) σ H (RowsL row (L.filter f)) := fun H0 e Q q => hw H0 e _ fun J G H1 e1 w hG D hD => by
  refine lc_it w (fun i H' => H1 D = none ∧ Ex H1 H' ∧ ∃ ts, H' D = some (.lst (ts.map V.ref)) ∧ RowsAt H' row ts ((L.take i).filter f)) ⟨hD, Ex.new hD, [], upd_same, by rw [List.take_zero]; exact .nil⟩ (fun i H' _ c => hG H' c.2.1) (fun i x H3 H4 hi c y => ?_) fun H' c => ?_
  · obtain ⟨c1, c2, ts, c3, c4⟩ := c
    obtain ⟨a, ha⟩ : ∃ a, L[i]? = some a := ⟨_, List.getElem?_eq_getElem (by omega)⟩
    obtain ⟨σ2, e2, hg, hwp, ht, he⟩ := step i a x H3 H4 ha ((e.trans e1).trans c2) y
    have h4 : Ex H1 H4 := c2.trans e2
    have tk : L.take (i + 1) = L.take i ++ [a] := by rw [List.take_add_one, ha]; rfl
    have lz : (ts.map V.ref).length < 100000 := by
      rw [List.length_map, paired_len c4]
      have := List.length_filter_le f (L.take i)
      rw [List.length_take] at this
      omega
    refine hg _ ⟨hwp, ht H4 (Ex.refl _) _ fun H5 e5 => ?_⟩
    rw [tk, List.filter_append]
    cases hp : f a with
    | false =>
      refine ⟨c1, h4.trans e5, ts, e5 _ _ (e2 _ _ c3), ?_⟩
      rw [List.filter_cons, hp]
      simpa using c4.up (e2.trans e5)
    | true =>
      refine he hp H5 e5 _ fun u H6 hu e6 h6 => ⟨_, e6 _ _ (e5 _ _ (e2 _ _ c3)), sz_lt lz, c1, Ex.mut ((h4.trans e5).trans e6) c1, ts ++ [u], ?_, ?_⟩
      · rw [upd_same, List.map_append]
        rfl
      · rw [List.filter_cons, hp]
        have d6 := e6 _ _ (e5 _ _ (e2 _ _ c3))
        have keep : ∀ {t : Addr} {xs : List V}, H6 t = some (.tup xs) → upd H6 D (.lst (ts.map V.ref ++ [V.ref u])) t = some (.tup xs) := fun {t} {xs} h => by
          rw [upd_ne fun z => by rw [z, d6] at h; cases h]
          exact h
        exact paired_snoc (F := fun (t : Addr) (a : α) => upd H6 D (.lst (ts.map V.ref ++ [V.ref u])) t = some (.tup (row a))) (keep h6) (paired_mono (fun t a z => keep z) (c4.up ((e2.trans e5).trans e6)))
  · obtain ⟨c1, c2, ts, c3, c4⟩ := c
    rw [hn, List.take_length] at c4
    exact q _ H' (e1.trans c2) ⟨D, ts, rfl, c3, c4⟩
/-- numbers walked: range(n) -/
theorem ew_rangeN {n : Nat} {ta : TA} (h : EvA ta σ H [.int (n : Nat)]) (hn : n ≤ 100000) : EvW (iRng1 ta) σ H (List.range n).length (fun i H x H' => H' = H ∧ (List.range n)[i]?.map (fun m => V.int ((m : Nat) : Int)) = some x) := fun H1 e R q => by
  have w := ew_range1 h ⟨by omega, by omega⟩ H1 e R
  rw [List.length_range] at q
  refine w fun J G H2 e2 wk hG => q J G H2 e2 (wk.mono (fun _ g => g) fun i H x H' hi _ y => ?_) hG
  obtain ⟨e1, rfl⟩ := y
  refine ⟨e1, ?_⟩
  rw [List.getElem?_range (show i < n from hi)]
  show some (V.int _) = some (V.int _)
  rw [Int.zero_add]
theorem nums_range (n : Nat) (x : Nat → Int) : (List.range n).map (fun m => V.int (x m)) = numsL n x := rfl
/-- [0] * n -/
theorem el_zeros {n : Nat} (h : Ev tb σ H (.int (n : Nat))) (hn : n ≤ 100000) : EvL (tOp rRep (tLst (tCons (tC (.int 0)) tNil)) tb) σ H (numsL n fun _ => 0) := fun H1 e Q q =>
  el_lst (ea_cons ev_c ea_nil) (by show 1 ≤ 100000; decide) H1 e _ fun p H2 hp e2 hl => h H2 (e.trans e2) _ fun H3 e3 => ⟨p, n, [.int 0], rfl, rfl, e3 _ _ hl, by omega, by omega, by
    rw [Int.toNat_natCast]
    show 1 * n ≤ sizeLine
    rw [Nat.one_mul]
    exact sz_of hn, fun p' hp' => q p' _ (fresh_back (e2.trans e3) hp') ((e2.trans e3).trans (Ex.new hp')) (by
      rw [upd_same, Int.toNat_natCast]
      congr 2
      have : ∀ n, (List.replicate n [V.int 0]).flatten = List.replicate n (V.int 0) := fun n => by
        induction n with
        | zero => rfl
        | succ n ih => rw [List.replicate_succ, List.flatten_cons, ih]; rfl
      rw [this, numsL]
      exact (List.eq_replicate_iff.mpr ⟨by rw [List.length_map, List.length_range], fun b hb => by obtain ⟨_, _, rfl⟩ := List.mem_map.mp hb; rfl⟩).symm)⟩
end
end P38

set_option Elab.async false
set_option linter.all false
set_option maxRecDepth 100000
set_option maxHeartbeats 4000000
namespace P38
/-! what a set of signs bears, wants and has to spare -/
abbrev Stock := List ((Nat × Nat) × Nat)
def bear (S : List Nat) (η : Nat → Option Nat) (l : Stock) (A : Nat → Bool) : Int := (l.map fun q => if (shows S η q.1).any A then ((q.2 : Nat) : Int) else 0).sum
def want (S : List Nat) (need : Nat → Int) (A : Nat → Bool) : Int := (S.map fun c => if A c then need c else 0).sum
def slk (S : List Nat) (η : Nat → Option Nat) (l : Stock) (need : Nat → Int) (A : Nat → Bool) : Int := bear S η l A - want S need A
abbrev mk (S : List Nat) (η : Nat → Option Nat) (k : Nat × Nat) : Nat := maskL S (shows S η k)
theorem shows_mem {S : List Nat} {η : Nat → Option Nat} {k : Nat × Nat} {c : Nat} (h : c ∈ shows S η k) : c ∈ S := (List.mem_filter.mp h).1
theorem shows_len {S : List Nat} {η : Nat → Option Nat} {k : Nat × Nat} : (shows S η k).length ≤ S.length := List.length_filter_le _ _
theorem mk_lt {S : List Nat} (h : S.Nodup) (η : Nat → Option Nat) (k : Nat × Nat) : mk S η k < 2 ^ S.length := mask_lt _ h
theorem any_of {S : List Nat} {η : Nat → Option Nat} {k : Nat × Nat} {A B : Nat → Bool} (h : ∀ c ∈ S, A c = B c) : (shows S η k).any A = (shows S η k).any B := by
  rw [Bool.eq_iff_iff, List.any_eq_true, List.any_eq_true]
  constructor
  · rintro ⟨c, hc, e⟩; exact ⟨c, hc, by rw [← h c (shows_mem hc)]; exact e⟩
  · rintro ⟨c, hc, e⟩; exact ⟨c, hc, by rw [h c (shows_mem hc)]; exact e⟩
theorem bear_congr {S : List Nat} {η : Nat → Option Nat} {l : Stock} {A B : Nat → Bool} (h : ∀ c ∈ S, A c = B c) : bear S η l A = bear S η l B := by
  unfold bear
  congr 1
  exact List.map_congr_left fun q _ => by rw [any_of h]
theorem want_congr {S : List Nat} {need : Nat → Int} {A B : Nat → Bool} (h : ∀ c ∈ S, A c = B c) : want S need A = want S need B := by
  unfold want
  congr 1
  exact List.map_congr_left fun c hc => by rw [h c hc]
theorem slk_congr {S : List Nat} {η : Nat → Option Nat} {l : Stock} {need : Nat → Int} {A B : Nat → Bool} (h : ∀ c ∈ S, A c = B c) : slk S η l need A = slk S η l need B := by
  unfold slk
  rw [bear_congr h, want_congr h]
theorem perm_sum {a b : List Int} (h : a.Perm b) : a.sum = b.sum := by
  induction h with
  | nil => rfl
  | cons x _ ih => rw [List.sum_cons, List.sum_cons, ih]
  | swap x y l => simp only [List.sum_cons]; omega
  | trans _ _ h1 h2 => exact h1.trans h2
theorem bear_perm {S : List Nat} {η : Nat → Option Nat} {l l' : Stock} {A : Nat → Bool} (h : l.Perm l') : bear S η l A = bear S η l' A := perm_sum (h.map _)
/-- the numbers by masks: how many stand at each -/
def exactF (S : List Nat) (η : Nat → Option Nat) (l : Stock) : Nat → Int := fun m => (l.map fun q => pnt (mk S η q.1) ((q.2 : Nat) : Int) m).sum
theorem sum_sub {α : Type} (f g : α → Int) : ∀ L : List α, (L.map f).sum - (L.map g).sum = (L.map fun a => f a - g a).sum
  | [] => rfl
  | a :: L => by
    have := sum_sub f g L
    rw [List.map_cons, List.map_cons, List.map_cons, List.sum_cons, List.sum_cons, List.sum_cons]
    omega
/-- bearings_of -/
theorem bear_zet {S : List Nat} (h : S.Nodup) (η : Nat → Option Nat) (l : Stock) {m : Nat} (hm : m < 2 ^ S.length) :
    zet (exactF S η l) S.length (2 ^ S.length - 1) - zet (exactF S η l) S.length (2 ^ S.length - 1 - m) = bear S η l (inM S m) := by
  have h1 : 2 ^ S.length - 1 < 2 ^ S.length := by omega
  have h2 : 2 ^ S.length - 1 - m < 2 ^ S.length := by omega
  unfold exactF bear
  rw [zet_list (fun (q : (Nat × Nat) × Nat) m => pnt (mk S η q.1) ((q.2 : Nat) : Int) m), zet_list (fun (q : (Nat × Nat) × Nat) m => pnt (mk S η q.1) ((q.2 : Nat) : Int) m), sum_sub]
  congr 1
  refine List.map_congr_left fun q _ => ?_
  have lt := mk_lt h η q.1
  have full : Part S.length (mk S η q.1) (2 ^ S.length - 1) := fun i hi _ => by rw [Nat.testBit_two_pow_sub_one]; exact decide_eq_true hi
  have e1 := (zet_part ((q.2 : Nat) : Int) lt h1).1 full
  have iff : Part S.length (mk S η q.1) (2 ^ S.length - 1 - m) ↔ ¬ (shows S η q.1).any (inM S m) = true := by
    unfold mk shows
    rw [part_mask h]
    constructor
    · intro a b
      obtain ⟨c, hc, e⟩ := List.any_eq_true.mp b
      obtain ⟨hc1, hc2⟩ := List.mem_filter.mp hc
      have := a c hc1 hc2
      rw [in_comp hm hc1, e] at this
      cases this
    · intro a c hc1 hc2
      rw [in_comp hm hc1]
      cases e : inM S m c with
      | false => rfl
      | true => exact absurd (List.any_eq_true.mpr ⟨c, List.mem_filter.mpr ⟨hc1, hc2⟩, e⟩) a
  show zet (pnt (mk S η q.1) _) _ _ - zet (pnt (mk S η q.1) _) _ _ = _
  rw [e1]
  by_cases a : (shows S η q.1).any (inM S m) = true
  · rw [if_pos a, (zet_part ((q.2 : Nat) : Int) lt h2).2 fun z => (iff.mp z) a]
    omega
  · rw [if_neg a, (zet_part ((q.2 : Nat) : Int) lt h2).1 (iff.mpr a)]
    omega
/-- the wants by masks of one sign -/
def singleF (S : List Nat) (need : Nat → Int) (L : List Nat) : Nat → Int := fun m => (L.map fun c => pnt (2 ^ S.idxOf c) (need c) m).sum
theorem want_zet {S : List Nat} (h : S.Nodup) (need : Nat → Int) {m : Nat} (hm : m < 2 ^ S.length) : zet (singleF S need S) S.length m = want S need (inM S m) := by
  unfold singleF want
  rw [zet_list (fun c m => pnt (2 ^ S.idxOf c) (need c) m)]
  congr 1
  refine List.map_congr_left fun c hc => ?_
  have li := List.idxOf_lt_length_of_mem hc
  have lt : 2 ^ S.idxOf c < 2 ^ S.length := Nat.pow_lt_pow_right (by decide) li
  have iff : Part S.length (2 ^ S.idxOf c) m ↔ inM S m c = true := by
    unfold inM
    constructor
    · intro q
      exact q _ li (by rw [Nat.testBit_two_pow]; exact decide_eq_true rfl)
    · intro q i hi e
      rw [Nat.testBit_two_pow] at e
      rw [← of_decide_eq_true e]
      exact q
  show zet (pnt (2 ^ S.idxOf c) (need c)) _ _ = _
  by_cases a : inM S m c = true
  · rw [if_pos a, (zet_part (need c) lt hm).1 (iff.mpr a)]
  · rw [if_neg a, (zet_part (need c) lt hm).2 fun z => a (iff.mp z)]
theorem exact_snoc {S : List Nat} {η : Nat → Option Nat} {l : Stock} {q : (Nat × Nat) × Nat} {n : Nat} (h : mk S η q.1 < n) :
    numsL n (exactF S η (l ++ [q])) = (numsL n (exactF S η l)).set (mk S η q.1) (.int (exactF S η l (mk S η q.1) + ((q.2 : Nat) : Int))) := by
  rw [nums_set h]
  refine nums_congr fun m hm => ?_
  unfold exactF
  rw [List.map_append, List.sum_append, List.map_cons, List.map_nil, List.sum_cons, List.sum_nil, Int.add_zero]
  unfold pnt
  by_cases e : m = mk S η q.1
  · rw [if_pos e, if_pos e, e]
  · rw [if_neg e, if_neg e, Int.add_zero]
theorem single_snoc {S : List Nat} {need : Nat → Int} (hS : S.Nodup) {L : List Nat} {c n : Nat} (hL : ∀ d ∈ L, d ∈ S ∧ d ≠ c) (hc : c ∈ S) (h : 2 ^ S.idxOf c < n) :
    numsL n (singleF S need (L ++ [c])) = (numsL n (singleF S need L)).set (2 ^ S.idxOf c) (.int (need c)) := by
  rw [nums_set h]
  refine nums_congr fun m hm => ?_
  unfold singleF
  rw [List.map_append, List.sum_append, List.map_cons, List.map_nil, List.sum_cons, List.sum_nil, Int.add_zero]
  by_cases e : m = 2 ^ S.idxOf c
  · rw [if_pos e, e, show (pnt (2 ^ S.idxOf c) (need c) (2 ^ S.idxOf c)) = need c from if_pos rfl]
    have : (L.map fun d => pnt (2 ^ S.idxOf d) (need d) (2 ^ S.idxOf c)).sum = 0 := by
      clear hm e m
      induction L with
      | nil => rfl
      | cons d L ih =>
        rw [List.map_cons, List.sum_cons, ih fun x hx => hL x (List.mem_cons_of_mem _ hx), Int.add_zero]
        obtain ⟨d1, d2⟩ := hL d List.mem_cons_self
        refine if_neg fun z => d2 ?_
        have e2 : S.idxOf d = S.idxOf c := ((Nat.pow_right_inj (by decide)).mp z).symm
        have e3 := congrArg (fun i => S[i]?) e2
        simp only [List.getElem?_eq_getElem (List.idxOf_lt_length_of_mem d1), List.getElem?_eq_getElem (List.idxOf_lt_length_of_mem hc), List.getElem_idxOf] at e3
        exact Option.some.inj e3
    rw [this, Int.zero_add]
  · rw [if_neg e, show pnt (2 ^ S.idxOf c) (need c) m = 0 from if_neg e, Int.add_zero]
theorem sum_bound {α : Type} (f : α → Int) (B : Nat) : ∀ L : List α, (∀ a ∈ L, (f a).natAbs ≤ B) → ((L.map f).sum).natAbs ≤ L.length * B
  | [], _ => by simp
  | a :: L, h => by
    have h1 := sum_bound f B L fun b hb => h b (List.mem_cons_of_mem _ hb)
    have h2 := h a List.mem_cons_self
    rw [List.map_cons, List.sum_cons, List.length_cons, Nat.succ_mul]
    omega
theorem pnt_bound (s : Nat) (a : Int) (m : Nat) : (pnt s a m).natAbs ≤ a.natAbs := by
  unfold pnt
  split
  · exact Nat.le_refl _
  · exact Nat.zero_le _
end P38

set_option Elab.async false
set_option linter.all false
set_option maxRecDepth 100000
set_option maxHeartbeats 4000000
namespace P38
open PySem PySem.Spec PyProof.Rows L2 Evl
/-! cases and wants -/
abbrev kK (k : Nat × Nat) : Key := Sum.inr (kt k)
theorem kt_inj {j k : Nat × Nat} (h : kt j = kt k) : j = k := by
  have e := tx_inj h
  obtain ⟨a, b⟩ := j
  obtain ⟨c, d⟩ := k
  simpa using e
theorem kK_inj {j k : Nat × Nat} (h : kK j = kK k) : j = k := kt_inj (Sum.inr.inj h)
def stT (l : Stock) : List (Key × V) := tab (fun q : (Nat × Nat) × Nat => kK q.1) (fun q => .int ((q.2 : Nat) : Int)) l
def ndT (S : List Nat) (need : Nat → Int) : List (Key × V) := tab kS (fun c => .int (need c)) S
structure StOk (S : List Nat) (l : Stock) : Prop where
  kinds : ∀ q ∈ l, KOk S q.1
  nd : (l.map Prod.fst).Nodup
  len : l.length ≤ 30
  big : ∀ q ∈ l, q.2 ≤ 2 ^ 100
theorem StOk.one {S : List Nat} {l : Stock} (h : StOk S l) {p q : (Nat × Nat) × Nat} (hp : p ∈ l) (hq : q ∈ l) (e : p.1 = q.1) : p = q := by
  have h2 := h.nd
  clear h
  induction l with
  | nil => cases hp
  | cons a l ih =>
    rw [List.map_cons, List.nodup_cons] at h2
    rcases List.mem_cons.mp hp with rfl | hp' <;> rcases List.mem_cons.mp hq with rfl | hq'
    · rfl
    · exact absurd (List.mem_map.mpr ⟨q, hq', e.symm⟩) h2.1
    · exact absurd (List.mem_map.mpr ⟨p, hp', e⟩) h2.1
    · exact ih hp' hq' h2.2
theorem StOk.get {S : List Nat} {l : Stock} (h : StOk S l) {q : (Nat × Nat) × Nat} (hq : q ∈ l) : valV (stT l) (kK q.1) = some (.int ((q.2 : Nat) : Int)) :=
  tab_get (key := fun q : (Nat × Nat) × Nat => kK q.1) (val := fun q => .int ((q.2 : Nat) : Int)) hq fun b hb e => by rw [h.one hb hq (kK_inj e)]
theorem nd_get {S : List Nat} {need : Nat → Int} {c : Nat} (hc : c ∈ S) : valV (ndT S need) (kS c) = some (.int (need c)) := tab_get (key := kS) (val := fun c => .int (need c)) hc fun b hb e => by rw [kS_inj e]
structure CaseAt (K : PySem.W.Frag) (H : Hp) (c f : Addr) (S : List Nat) (η : Nat → Option Nat) (l : Stock) : Prop where
  ex : ∃ dx st, H c = some (.ins (C_Case K) dx [("own_font", .ref f), ("stock", .ref st)]) ∧ H st = some (.dK (stT l))
  font : FontAt K H f S η
structure WantsAt (K : PySem.W.Frag) (H : Hp) (w f : Addr) (S : List Nat) (η : Nat → Option Nat) (need : Nat → Int) : Prop where
  ex : ∃ dx n, H w = some (.ins (C_Wants K) dx [("own_font", .ref f), ("numbers", .ref n)]) ∧ H n = some (.dK (ndT S need))
  font : FontAt K H f S η
theorem CaseAt.up {K : PySem.W.Frag} {H H' : Hp} {c f : Addr} {S : List Nat} {η : Nat → Option Nat} {l : Stock} (h : CaseAt K H c f S η l) (e : Ex H H') : CaseAt K H' c f S η l := by
  obtain ⟨⟨dx, st, h1, h2⟩, h3⟩ := h
  exact ⟨⟨dx, st, e _ _ h1, e _ _ h2⟩, h3.up e⟩
theorem WantsAt.up {K : PySem.W.Frag} {H H' : Hp} {w f : Addr} {S : List Nat} {η : Nat → Option Nat} {need : Nat → Int} (h : WantsAt K H w f S η need) (e : Ex H H') : WantsAt K H' w f S η need := by
  obtain ⟨⟨dx, st, h1, h2⟩, h3⟩ := h
  exact ⟨⟨dx, st, e _ _ h1, e _ _ h2⟩, h3.up e⟩
theorem f2_fst {a b : V} {m n : Str} : ([(m, a), (n, b)] : List (Str × V)).lookup m = some a := by rw [List.lookup_cons_self]
theorem f2_snd {a b : V} {m n : Str} (h : (n == m) = false := by decide +kernel) : ([(m, a), (n, b)] : List (Str × V)).lookup n = some b := by rw [List.lookup_cons, h, List.lookup_cons_self]
theorem f2_no {a b : V} {m n x : Str} (h : (x == m) = false := by decide +kernel) (h2 : (x == n) = false := by decide +kernel) : ([(m, a), (n, b)] : List (Str × V)).lookup x = none := by
  rw [List.lookup_cons, h, List.lookup_cons, h2]
  rfl
section
variable {K : PySem.W.Frag} {mg : Str → Option Value} {H : Hp} {c w f : Addr} {S : List Nat} {η : Nat → Option Nat} {l : Stock} {need : Nat → Int} {σ : L2.St} {ta : TE}
theorem ev_cfont (T : Tx K mg) (h : CaseAt K H c f S η l) (ht : Ev ta σ H (.ref c)) : Ev (tFld K ta "own_font") σ H (.ref f) := by
  obtain ⟨dx, st, h1, h2⟩ := h.ex
  exact ev_fld ht h1 T.cl_Case T.n_Case_own_font f2_fst
theorem ev_wfont (T : Tx K mg) (h : WantsAt K H w f S η need) (ht : Ev ta σ H (.ref w)) : Ev (tFld K ta "own_font") σ H (.ref f) := by
  obtain ⟨dx, st, h1, h2⟩ := h.ex
  exact ev_fld ht h1 T.cl_Wants T.n_Wants_own_font f2_fst
end
def sp_Pile_font (K : PySem.W.Frag) : Sp := psp fun vs z H => ∃ c f S η l, vs = [.ref c] ∧ CaseAt K H c f S η l ∧ z = .ref f
theorem ok_Pile_font {P : Program} {w : World} {K : PySem.W.Frag} {mg : Str → Option Value} {base : Heap} (T : Tx K mg) : FnOk P w K mg base CX0 1 (f_Pile_font K) (fdOf K (f_Pile_font K)) ["self"] (sp_Pile_font K) := by
  refine T.d_Pile_font.ok sc_Pile_font (fun vs H Q E h => by obtain ⟨z, ⟨c, f, S, η, l, rfl, hc, rfl⟩, k⟩ := h; rfl) (fun cdv A outer s H vs Q E hr h => ?_)
  obtain ⟨z, ⟨c, f, S, η, l, rfl, hc, rfl⟩, k⟩ := h
  refine ⟨_, PSs.nox (pss_one (ps_ret (pe_fld (pv 0) (by rfl)))), ?_⟩
  exact s_ret (ev_cfont T hc (ev_var rfl)) k
def sp_Wants_font (K : PySem.W.Frag) : Sp := psp fun vs z H => ∃ c f S η l, vs = [.ref c] ∧ WantsAt K H c f S η l ∧ z = .ref f
theorem ok_Wants_font {P : Program} {w : World} {K : PySem.W.Frag} {mg : Str → Option Value} {base : Heap} (T : Tx K mg) : FnOk P w K mg base CX0 1 (f_Wants_font K) (fdOf K (f_Wants_font K)) ["self"] (sp_Wants_font K) := by
  refine T.d_Wants_font.ok sc_Wants_font (fun vs H Q E h => by obtain ⟨z, ⟨c, f, S, η, l, rfl, hc, rfl⟩, k⟩ := h; rfl) (fun cdv A outer s H vs Q E hr h => ?_)
  obtain ⟨z, ⟨c, f, S, η, l, rfl, hc, rfl⟩, k⟩ := h
  refine ⟨_, PSs.nox (pss_one (ps_ret (pe_fld (pv 0) (by rfl)))), ?_⟩
  exact s_ret (ev_wfont T hc (ev_var rfl)) k
/-- a stock's rows -/
def rowS (q : (Nat × Nat) × Nat) : List V := [.str (kt q.1), .int ((q.2 : Nat) : Int)]
def row3 (S : List Nat) (η : Nat → Option Nat) (q : (Nat × Nat) × Nat) : List V := [.str (kt q.1), .int ((mk S η q.1 : Nat) : Int), .int ((q.2 : Nat) : Int)]
theorem pairs_rows {H : Hp} : ∀ {ts : List Addr} {l : Stock}, PairsAt H ts (stT l) → RowsAt H rowS ts l
  | [], [], _ => .nil
  | _ :: _, _ :: _, .cons a r => .cons a (pairs_rows r)
theorem ep_items {te : TE} {σ : L2.St} {H : Hp} {st : Addr} {l : Stock} (h : Ev te σ H (.ref st)) (h2 : H st = some (.dK (stT l))) : EvP (tTupItems te) σ H (RowsT rowS l) := fun H1 e Q q =>
  h H1 e _ fun H2 e2 => ⟨st, stT l, rfl, .inl (e2 _ _ (e _ _ h2)), fun H3 p ts e3 hp ht hn h3 h4 => q _ _ (e2.trans e3) ⟨p, ts, rfl, h3, pairs_rows h4⟩⟩
def sp_Pile_plates (K : PySem.W.Frag) : Sp := pspX fun vs R H => ∃ c f S η l, vs = [.ref c] ∧ CaseAt K H c f S η l ∧ R = RowsT rowS l
theorem ok_Pile_plates {P : Program} {w : World} {K : PySem.W.Frag} {mg : Str → Option Value} {base : Heap} (T : Tx K mg) : FnOk P w K mg base CX0 1 (f_Pile_plates K) (fdOf K (f_Pile_plates K)) ["self"] (sp_Pile_plates K) := by
  refine T.d_Pile_plates.ok sc_Pile_plates (fun vs H Q E h => by obtain ⟨R, ⟨c, f, S, η, l, rfl, hc, rfl⟩, k⟩ := h; rfl) (fun cdv A outer s H vs Q E hr h => ?_)
  obtain ⟨R, ⟨c, f, S, η, l, rfl, hc, rfl⟩, k⟩ := h
  refine ⟨_, PSs.nox (pss_one (ps_ret (pe_tupItems rfl (pe_fld (pv 0) (by rfl)) (by rfl) (by exact T.z_tuple)))), ?_⟩
  obtain ⟨dx, st, h1, h2⟩ := id hc.ex
  exact s_retP (ep_items (ev_fld (ev_var rfl) h1 T.cl_Case T.n_Case_stock f2_snd) h2) k
section
variable {K : PySem.W.Frag} {mg : Str → Option Value} {H : Hp} {c w f : Addr} {S : List Nat} {η : Nat → Option Nat} {l : Stock} {need : Nat → Int} {σ : L2.St} {ta tb : TE} {E : XK}
theorem ev_pfont (h : CaseAt K H c f S η l) (ht : Ev ta σ H (.ref c)) : Ev (tProp (C_Case K) (sp_Pile_font K) [] E ta) σ H (.ref f) := by
  obtain ⟨dx, st, h1, h2⟩ := id h.ex
  exact ev_prop ht h1 (psp_v fun H1 e => ⟨c, f, S, η, l, rfl, h.up e, rfl⟩)
theorem ev_qfont (h : WantsAt K H w f S η need) (ht : Ev ta σ H (.ref w)) : Ev (tProp (C_Wants K) (sp_Wants_font K) [] E ta) σ H (.ref f) := by
  obtain ⟨dx, st, h1, h2⟩ := id h.ex
  exact ev_prop ht h1 (psp_v fun H1 e => ⟨w, f, S, η, need, rfl, h.up e, rfl⟩)
theorem ep_plates (h : CaseAt K H c f S η l) (ht : Ev ta σ H (.ref c)) : EvP (tProp (C_Case K) (sp_Pile_plates K) [] E ta) σ H (RowsT rowS l) := by
  obtain ⟨dx, st, h1, h2⟩ := id h.ex
  exact ep_prop ht h1 (pspX_v fun H1 e => ⟨c, f, S, η, l, rfl, h.up e, rfl⟩)
end
def sp_Case_getitem (K : PySem.W.Frag) : Sp := psp fun vs z H => ∃ c f S η l, ∃ q : (Nat × Nat) × Nat, vs = [.ref c, .str (kt q.1)] ∧ CaseAt K H c f S η l ∧ SOk S ∧ StOk S l ∧ q ∈ l ∧ z = .int ((q.2 : Nat) : Int)
theorem ok_Case_getitem {P : Program} {w : World} {K : PySem.W.Frag} {mg : Str → Option Value} {base : Heap} (T : Tx K mg) : FnOk P w K mg base CX0 3 (f_Case_getitem K) (fdOf K (f_Case_getitem K)) ["self", "kind"] (sp_Case_getitem K) := by
  refine T.d_Case_getitem.ok sc_Case_getitem (fun vs H Q E h => by obtain ⟨z, ⟨c, f, S, η, l, q, rfl, hc, hS, hl, hq, rfl⟩, k⟩ := h; rfl) (fun cdv A outer s H vs Q E hr h => ?_)
  obtain ⟨z, ⟨c, f, S, η, l, q, rfl, hc, hS, hl, hq, rfl⟩, k⟩ := h
  refine ⟨_, PSs.nox (pss_one (ps_ret (pe_dget2 (by exact hu_of hr) (pe_fld (pv 0) (by rfl)) (pe_call (ok_need_kind T) (by exact hr.mono (by first | decide | omega)) (by rfl) (by exact T.m_need_kind) (by exact T.d_need_kind.kp) (bn_need_kind T) .nil pass0 (pa_cons (pe_fld (pv 0) (by rfl)) (pa_cons (pv 1) pa_nil))) pe_int ⟨by rfl, by rfl, by rfl, by rfl⟩))), ?_⟩
  obtain ⟨dx, st, h1, h2⟩ := id hc.ex
  refine s_ret (ev_is (ev_dget2 (k := kK q.1) (ev_fld (ev_var rfl) h1 T.cl_Case T.n_Case_stock f2_snd) (ev_call (ea_cons (ev_cfont T hc (ev_var rfl)) (ea_cons (ev_var rfl) ea_nil)) (v_Font_normal hc.font hS (hl.kinds q hq) (.inl rfl))) ev_c (.inl h2)) ?_) k
  rw [hl.get hq]
  rfl
def sp_Wants_getitem (K : PySem.W.Frag) : Sp := psp fun vs z H => ∃ w f S η need c, vs = [.ref w, sV c] ∧ WantsAt K H w f S η need ∧ SOk S ∧ c ∈ S ∧ z = .int (need c)
theorem ok_Wants_getitem {P : Program} {w : World} {K : PySem.W.Frag} {mg : Str → Option Value} {base : Heap} (T : Tx K mg) : FnOk P w K mg base CX0 3 (f_Wants_getitem K) (fdOf K (f_Wants_getitem K)) ["self", "sign"] (sp_Wants_getitem K) := by
  refine T.d_Wants_getitem.ok sc_Wants_getitem (fun vs H Q E h => by obtain ⟨z, ⟨w, f, S, η, need, c, rfl, hw, hS, hc, rfl⟩, k⟩ := h; rfl) (fun cdv A outer s H vs Q E hr h => ?_)
  obtain ⟨z, ⟨w, f, S, η, need, c, rfl, hw, hS, hc, rfl⟩, k⟩ := h
  refine ⟨_, PSs.nox (pss_cons (ps_expr (pe_call (ok_need_sign T) (by exact hr.mono (by first | decide | omega)) (by rfl) (by exact T.m_need_sign) (by exact T.d_need_sign.kp) (bn_need_sign T) .nil pass0 (pa_cons (pe_fld (pv 0) (by rfl)) (pa_cons (pv 1) pa_nil)))) (
pss_one (ps_ret (pe_dget (by exact hu_of hr) (pe_fld (pv 0) (by rfl)) (pv 1) (fun _ _ => rfl))))), ?_⟩
  refine q_drop (ev_call (ea_cons (ev_wfont T hw (ev_var rfl)) (ea_cons (ev_var rfl) ea_nil)) (v_need_sign hw.font hS.nd hc)) fun H1 e => ?_
  have hw1 := hw.up e
  obtain ⟨dx, n, h1, h2⟩ := id hw1.ex
  exact s_ret (ev_dget (k := kS c) (ev_fld (ev_var rfl) h1 T.cl_Wants T.n_Wants_numbers f2_snd) (ev_var rfl) (.inl h2) (nd_get hc)) fun H2 e2 => k H2 (e.trans e2)
section
variable {K : PySem.W.Frag} {mg : Str → Option Value} {H : Hp} {c w f : Addr} {S : List Nat} {η : Nat → Option Nat} {l : Stock} {need : Nat → Int} {σ : L2.St} {ta tb : TE} {E : XK}
theorem ev_caseAt {q : (Nat × Nat) × Nat} (h : CaseAt K H c f S η l) (hS : SOk S) (hl : StOk S l) (hq : q ∈ l) (ht : Ev ta σ H (.ref c)) (hb : Ev tb σ H (.str (kt q.1))) : Ev (tOp (rIxO (C_Case K) (sp_Case_getitem K) [] E) ta tb) σ H (.int ((q.2 : Nat) : Int)) := by
  obtain ⟨dx, st, h1, h2⟩ := id h.ex
  exact ev_ixO ht hb h1 (psp_v fun H1 e => ⟨c, f, S, η, l, q, rfl, h.up e, hS, hl, hq, rfl⟩)
theorem ev_wantsAt {d : Nat} (h : WantsAt K H w f S η need) (hS : SOk S) (hd : d ∈ S) (ht : Ev ta σ H (.ref w)) (hb : Ev tb σ H (sV d)) : Ev (tOp (rIxO (C_Wants K) (sp_Wants_getitem K) [] E) ta tb) σ H (.int (need d)) := by
  obtain ⟨dx, st, h1, h2⟩ := id h.ex
  exact ev_ixO ht hb h1 (psp_v fun H1 e => ⟨w, f, S, η, need, d, rfl, h.up e, hS, hd, rfl⟩)
end
def sp_stock_of (K : PySem.W.Frag) : Sp := pspX fun vs R H => ∃ c f S η l, vs = [.ref c] ∧ CaseAt K H c f S η l ∧ SOk S ∧ l.length ≤ 30 ∧ R = RowsL (row3 S η) l
theorem ok_stock_of {P : Program} {w : World} {K : PySem.W.Frag} {mg : Str → Option Value} {base : Heap} (T : Tx K mg) : FnOk P w K mg base CX0 3 (f_stock_of K) (fdOf K (f_stock_of K)) ["case"] (sp_stock_of K) := by
  refine T.d_stock_of.ok sc_stock_of (fun vs H Q E h => by obtain ⟨R, ⟨c, f, S, η, l, rfl, hc, hS, hl, rfl⟩, k⟩ := h; rfl) (fun cdv A outer s H vs Q E hr h => ?_)
  obtain ⟨R, ⟨c, f, S, η, l, rfl, hc, hS, hl, rfl⟩, k⟩ := h
  refine ⟨_, PSs.nox (pss_cons (ps_set (i := 1) sc_stock_of.nd rfl (by first | exact Or.inl rfl | exact Or.inr rfl) (pe_prop (pv 0) T.cl_Case T.p_Case_font (ok_Pile_font T) (by exact hr.mono (by first | decide | omega)) (bn_Pile_font T) .nil pass0 (by rfl))) (
pss_one (ps_ret (pe_lc (own := [("kind", 2), ("many", 3)]) rfl sc_stock_of.nd (pi_tup (pe_prop (pv 0) T.cl_Case T.p_Case_plates (ok_Pile_plates T) (by exact hr.mono (by first | decide | omega)) (bn_Pile_plates T) .nil pass0 (by rfl))) (blkOk_by (own := [("kind", 2), ("many", 3)]) (N := ["case", "font", "kind", "many"]) (sc := (defScope s_stock_of)) (by decide +kernel)) (fun _ _ _ _ _ => pg_tupK (K := K) rfl (n := 2) (by rfl) (pgs_cons (pg_name (i := 2) sc_stock_of.nd rfl (by first | exact Or.inl rfl | exact Or.inr rfl)) (pgs_cons (pg_name (i := 3) sc_stock_of.nd rfl (by first | exact Or.inl rfl | exact Or.inr rfl)) pgs_nil))) (fun _ _ _ _ _ => pts_nil) (fun _ _ _ _ _ => pe_tup (pa_cons (pv 2) (pa_cons (pe_call (ok_mask_of T) (by exact hr.mono (by first | decide | omega)) (by rfl) (by exact T.m_mask_of) (by exact T.d_mask_of.kp) (bn_mask_of T) .nil pass0 (pa_cons (pv 1) (pa_cons (pe_meth (pv 1) T.cl_Font T.M_Font_seen (ok_Font_seen T) (by exact hr.mono (by first | decide | omega)) (bn_Font_seen T) .nil pass0 (pa_cons (pv 2) pa_nil)) pa_nil))) (pa_cons (pv 3) pa_nil)))))))), ?_⟩
  refine q_asg (ev_pfont hc (ev_var rfl)) fun H1 e => ?_
  have hc1 := hc.up e
  have ft : l = l.filter fun _ => true := (List.filter_eq_self.mpr fun _ _ => rfl).symm
  rw [ft] at k
  refine s_retP (el_lcT (fun _ => true) (row3 S η) (ew_rowsT (ep_plates hc1 (ev_var rfl))) rfl (by omega) fun i q x H2 H3 hq e2 y => ?_) fun v H2 e2 r => k v H2 (e.trans e2) r
  obtain ⟨rfl, t, q2, rfl, hq2, ht⟩ := y
  obtain rfl : q = q2 := Option.some.inj (hq.symm.trans hq2)
  refine ⟨_, Ex.refl _, fun Q q => ⟨t, _, rfl, st_of ht, rfl, _, _, rfl, _, _, rfl, rfl, q⟩, rfl, et_yes, fun _ => eu_tup (ea_cons (ev_var rfl) (ea_cons (ev_call (ea_cons (ev_var rfl) (ea_cons ?_ ea_nil)) (v_mask_of (hc1.font.up e2) hS (fun c hc => shows_mem hc) (Nat.le_trans shows_len hS.most))) (ea_cons (ev_var rfl) ea_nil))) (by show 3 ≤ 100000; decide)⟩
  obtain ⟨dx, r, hd, kvs, h1, _⟩ := id (hc1.font.up e2).ex
  exact ev_meth (ev_var rfl) h1 fl_no (ea_cons (ev_var rfl) ea_nil) (v_Font_seen (hc1.font.up e2) hS)
def sp_amounts_of (K : PySem.W.Frag) : Sp := pspL fun vs zs H => ∃ w f S η need, vs = [.ref w] ∧ WantsAt K H w f S η need ∧ SOk S ∧ zs = S.map fun c => V.int (need c)
theorem ok_amounts_of {P : Program} {w : World} {K : PySem.W.Frag} {mg : Str → Option Value} {base : Heap} (T : Tx K mg) : FnOk P w K mg base CX0 5 (f_amounts_of K) (fdOf K (f_amounts_of K)) ["wants"] (sp_amounts_of K) := by
  refine T.d_amounts_of.ok sc_amounts_of (fun vs H Q E h => by obtain ⟨zs, ⟨w, f, S, η, need, rfl, hw, hS, rfl⟩, k⟩ := h; rfl) (fun cdv A outer s H vs Q E hr h => ?_)
  obtain ⟨zs, ⟨w, f, S, η, need, rfl, hw, hS, rfl⟩, k⟩ := h
  refine ⟨_, PSs.nox (pss_one (ps_ret (pe_lc (own := [("sign", 1)]) rfl sc_amounts_of.nd (pi_str (pe_prop (pe_prop (pv 0) T.cl_Wants T.p_Wants_font (ok_Wants_font T) (by exact hr.mono (by first | decide | omega)) (bn_Wants_font T) .nil pass0 (by rfl)) T.cl_Font T.p_Font_signs (ok_Font_signs T) (by exact hr.mono (by first | decide | omega)) (bn_Font_signs T) .nil pass0 (by rfl))) (blkOk_by (own := [("sign", 1)]) (N := ["wants", "sign"]) (sc := (defScope s_amounts_of)) (by decide +kernel)) (fun _ _ _ _ _ => pg_name (i := 1) sc_amounts_of.nd rfl (by first | exact Or.inl rfl | exact Or.inr rfl)) (fun _ _ _ _ _ => pts_nil) (fun _ _ _ _ _ => ix_own (sp := sp_Wants_getitem K) (ok_Wants_getitem T) (by exact hr.mono (by first | decide | omega)) (bn_Wants_getitem T) .nil pass0 T.i_Wants T.j_Wants T.h_Wants (pv 0) (pv 1))))), ?_⟩
  have := hS.most
  refine s_retL (el_lcM (f := sV) (L := S) (fun c => .int (need c)) (ew_sg (ev_signs hw.font (ev_qfont hw (ev_var rfl)))) (by omega) (fun _ => rfl) fun c H1 hc e => ev_wantsAt (hw.up e) hS hc (ev_var rfl) (ev_var rfl)) k
end P38

set_option Elab.async false
set_option linter.all false
set_option maxRecDepth 100000
set_option maxHeartbeats 4000000
namespace P38
open PySem PySem.Spec PyProof.Rows L2 Evl
section
variable {K : PySem.W.Frag} {σ : L2.St} {H H' : Hp} {ta tb tc te tl td : TE} {t : TT} {g : TG} {x y z v : V}
theorem q_for {wi : TI} {n : Nat} {G : Hp → Prop} {Y : Nat → Hp → V → Hp → Prop} {D : Ends} {tu tz : TS} (hw : EvG wi σ H n G Y) (Pv : Nat → L2.St → Hp → Prop) (h0 : ∀ H1, Ex H H1 → Pv 0 σ H1) (hG : ∀ i σ' H', i ≤ n → Pv i σ' H' → G H')
    (hs : ∀ i x σ' H1 H2, i < n → Pv i σ' H1 → Y i H1 x H2 → g x σ' H2 fun σ2 H3 => tu { D with nx := Pv (i + 1), ct := Pv (i + 1), bk := tz D } σ2 H3) (hd : ∀ σ' H', Pv n σ' H' → tz D σ' H') : tSeq (tFor wi g tu) tz D σ H := s_for (D := { D with nx := tz D }) hw Pv h0 hG hs hd
theorem eg_rows {α : Type} {row : α → List V} {L : List α} {p : Addr} {ts : List Addr} (h : Ev tl σ H (.ref p)) (h1 : H p = some (.lst (ts.map V.ref))) (h2 : RowsAt H row ts L) :
    EvG (iList K tl) σ H L.length (fun H => H p = some (.lst (ts.map V.ref)) ∧ RowsAt H row ts L) (YRow row L) := fun H1 e R q =>
  h H1 e _ fun H2 e2 => by
    have hl : (ts.map V.ref).length = L.length := by rw [List.length_map, paired_len h2]
    refine ⟨p, rfl, ⟨_, sq_of (e2 _ _ (e _ _ h1))⟩, q _ H2 e2 ?_⟩
    have w := (walk_list (K := K) (a := p) (xs := ts.map V.ref))
    rw [hl] at w
    refine w.mono (fun _ g => sq_of g.1) fun i H x H' hi g y => ?_
    obtain ⟨e1, ex⟩ := y
    obtain ⟨a, ha⟩ : ∃ a, L[i]? = some a := ⟨_, List.getElem?_eq_getElem hi⟩
    obtain ⟨t, ht, hrow⟩ := paired_at g.2 ha
    rw [List.getElem?_map, ht] at ex
    exact ⟨e1, t, a, (Option.some.inj ex).symm, ha, hrow⟩
theorem q_asgP {D : Ends} {tz : TS} {i : Nat} {P : V → Hp → Prop} (h : EvP te σ H P) (k : ∀ v H1, Ex H H1 → P v H1 → tz D (σ.set i (some v)) H1) : tSeq (tAsg te (gName i)) tz D σ H := h H (Ex.refl H) _ k
/-- zip of two new lists -/
theorem ew_zipL {xs ys : List V} {n : Nat} (ha : EvL ta σ H xs) (hb : ∀ H1, Ex H H1 → EvL tb σ H1 ys) (hn : n = min xs.length ys.length) : EvW (iZip K (tCons ta (tCons tb tNil))) σ H n (YPair (fun i => xs[i]?) (fun i => ys[i]?)) := fun H1 e R q =>
  ha H1 e _ fun a H2 _ e2 h2 => hb H2 (e.trans e2) H2 (Ex.refl _) _ fun b H3 _ e3 h3 => ⟨a, b, xs, ys, rfl, sq_of (e3 _ _ h2), sq_of h3, q _ _ H3 (e2.trans e3) (walk_zip hn) fun H4 e4 => ⟨sq_of (e4 _ _ (e3 _ _ h2)), sq_of (e4 _ _ h3)⟩⟩
/-- a def given a list that comes with a word, a new list -/
theorem ea_consP {tr : TA} {P : V → Hp → Prop} {R : List V → Hp → Prop} (h : EvP te σ H P) (hr : ∀ v H1, Ex H H1 → P v H1 → ∀ H2, Ex H1 H2 → ∀ Q : List V → Hp → Prop, (∀ vs H3, Ex H2 H3 → R (v :: vs) H3 → Q vs H3) → tr σ H2 Q) :
    ∀ H1, Ex H H1 → ∀ Q : List V → Hp → Prop, (∀ vs H2, Ex H1 H2 → R vs H2 → Q vs H2) → tCons te tr σ H1 Q := fun H1 e Q q =>
  h H1 e _ fun v H2 e2 p => hr v H2 (e.trans e2) p H2 (Ex.refl _) _ fun vs H3 e3 r => q _ H3 (e2.trans e3) r
end
theorem two_pow6 {n : Nat} (h : n ≤ 6) : 2 ^ n ≤ 64 := Nat.pow_le_pow_right (by decide) h (n := 2)
theorem sub_nat {n m : Nat} (h : m < n) : ((n : Nat) : Int) - 1 - ((m : Nat) : Int) = ((n - 1 - m : Nat) : Int) := by omega
def sp_bearings_of (K : PySem.W.Frag) : Sp := pspL fun vs zs H => ∃ p v S η l, vs = [.ref p, v] ∧ FontAt K H p S η ∧ SOk S ∧ StOk S l ∧ RowsL (row3 S η) l v H ∧ zs = numsL (2 ^ S.length) fun m => bear S η l (inM S m)
theorem ok_bearings_of {P : Program} {w : World} {K : PySem.W.Frag} {mg : Str → Option Value} {base : Heap} (T : Tx K mg) : FnOk P w K mg base CX0 4 (f_bearings_of K) (fdOf K (f_bearings_of K)) ["font", "stock"] (sp_bearings_of K) := by
  refine T.d_bearings_of.ok sc_bearings_of (fun vs H Q E h => by obtain ⟨zs, ⟨p, v, S, η, l, rfl, hf, hS, hl, hv, rfl⟩, k⟩ := h; rfl) (fun cdv A outer s H vs Q E hr h => ?_)
  obtain ⟨zs, ⟨p, v, S, η, l, rfl, hf, hS, hl, hv, rfl⟩, k⟩ := h
  refine ⟨_, PSs.nox (pss_cons (ps_set (i := 2) sc_bearings_of.nd rfl (by first | exact Or.inl rfl | exact Or.inr rfl) (pe_op op_rep (pe_lst (pa_cons pe_int pa_nil)) (pe_call (ok_number_of_sets T) (by exact hr.mono (by first | decide | omega)) (by rfl) (by exact T.m_number_of_sets) (by exact T.d_number_of_sets.kp) (bn_number_of_sets T) .nil pass0 (pa_cons (pv 0) pa_nil)))) (
pss_cons (ps_for PassesOwn.never rfl (pi_list (pv 1)) (pg_tup (n := 3) (by rfl) (pgs_cons (pg_name (i := 3) sc_bearings_of.nd rfl (by first | exact Or.inl rfl | exact Or.inr rfl)) (pgs_cons (pg_name (i := 4) sc_bearings_of.nd rfl (by first | exact Or.inl rfl | exact Or.inr rfl)) (pgs_cons (pg_name (i := 5) sc_bearings_of.nd rfl (by first | exact Or.inl rfl | exact Or.inr rfl)) pgs_nil)))) (
pss_one (ps_augS (pv 2) (pv 4) get_list (pv 5) ip_add set_list))) (
pss_cons (ps_set (i := 6) sc_bearings_of.nd rfl (by first | exact Or.inl rfl | exact Or.inr rfl) (pe_call (ok_subset_sums T) (by exact hr.mono (by first | decide | omega)) (by rfl) (by exact T.m_subset_sums) (by exact T.d_subset_sums.kp) (bn_subset_sums T).choose_spec.2 (bn_subset_sums T).choose_spec.1 pass0 (pa_cons (pv 2) pa_nil))) (
pss_one (ps_ret (pe_lc (own := [("mask", 7)]) rfl sc_bearings_of.nd (pi_range1 (by rfl) (by exact T.z_range) (pa_cons (pe_callB call_len_seq (by rfl) (by exact T.z_len) bt_len (pa_cons (pv 6) pa_nil)) pa_nil)) (blkOk_by (own := [("mask", 7)]) (N := ["font", "stock", "exact", "kind", "shown", "many", "inside", "mask"]) (sc := (defScope s_bearings_of)) (by decide +kernel)) (fun _ _ _ _ _ => pg_name (i := 7) sc_bearings_of.nd rfl (by first | exact Or.inl rfl | exact Or.inr rfl)) (fun _ _ _ _ _ => pts_nil) (fun _ _ _ _ _ => pe_op op_sub (pe_ix (ix_listK (K := K) rfl) (pv 6) (pe_un un_neg pe_int) (fun _ _ => rfl)) (pe_ix (ix_listK (K := K) rfl) (pv 6) (pe_op op_sub (pe_op op_sub (pe_callB (call_len_seqK (K := K) rfl) (by rfl) (by exact T.z_len) bt_len (pa_cons (pv 6) pa_nil)) pe_int) (pv 7)) (fun _ _ => rfl))))))))), ?_⟩
  have h64 := two_pow6 hS.most
  obtain ⟨a, ts, rfl, ha, hts⟩ := id hv
  refine q_asgL (el_zeros (ev_call (ea_cons (ev_var rfl) ea_nil) (v_number_of_sets hf hS)) (by omega)) fun x H1 hx e h1 => ?_
  let Pv : Nat → L2.St → Hp → Prop := fun i σ' H' => (∃ u3 u4 u5, σ' = [some (.ref p), some (.ref a), some (.ref x), u3, u4, u5, none, none]) ∧ Ex H H' ∧ H' x = some (.lst (numsL (2 ^ S.length) (exactF S η (l.take i))))
  refine q_for (eg_rows (ev_var rfl) (e _ _ ha) (hts.up e)) Pv (fun H2 e2 => ⟨⟨none, none, none, rfl⟩, e.trans e2, by rw [e2 _ _ h1, List.take_zero]; rfl⟩) (fun i σ' H' _ c => ⟨c.2.1 _ _ ha, hts.up c.2.1⟩) (fun i y σ' H2 H3 hi c yr => ?_) fun σ' H2 c => ?_
  · obtain ⟨⟨u3, u4, u5, rfl⟩, e2, h2⟩ := c
    obtain ⟨rfl, t, q, rfl, hq, ht⟩ := yr
    have lt := mk_lt hS.nd η q.1
    refine ⟨t, _, rfl, st_of ht, rfl, _, _, rfl, _, _, rfl, _, _, rfl, rfl, ?_⟩
    refine ⟨_, rfl, _, rfl, x, _, ((mk S η q.1 : Nat) : Int), _, rfl, rfl, h2, ⟨by omega, by omega⟩, nums_at _ (by omega), ?_⟩
    refine ⟨_, rfl, _, _, rfl, rfl, x, _, ((mk S η q.1 : Nat) : Int), mk S η q.1, rfl, rfl, h2, ?_, ?_⟩
    · rw [nums_len]
      exact ixN_nat lt
    · refine ⟨⟨_, _, _, rfl⟩, Ex.mut e2 hx, ?_⟩
      rw [upd_same, List.take_add_one, hq]
      show _ = some (HO.lst (numsL _ (exactF S η (l.take i ++ [q]))))
      rw [exact_snoc lt]
      rfl
  · obtain ⟨⟨u3, u4, u5, rfl⟩, e2, h2⟩ := c
    rw [List.take_length] at h2
    refine q_asgL (el_call (ea_cons (ev_var rfl) ea_nil) (pspL_v fun H3 e3 => ⟨x, S.length, exactF S η l, rfl, hS.most, sq_of (e3 _ _ h2), fun m _ => ?_, rfl⟩)) fun y H3 hy e3 h3 => ?_
    · have := sum_bound (fun q : (Nat × Nat) × Nat => pnt (mk S η q.1) ((q.2 : Nat) : Int) m) (2 ^ 100) l fun q hq => Nat.le_trans (pnt_bound _ _ _) (by have := hl.big q hq; omega)
      have h30 : l.length * 2 ^ 100 ≤ 30 * 2 ^ 100 := Nat.mul_le_mul_right _ hl.len
      have h31 : 30 * 2 ^ 100 ≤ 2 ^ 200 := by decide
      exact Nat.le_trans this (Nat.le_trans h30 h31)
    · have e23 := e2.trans e3
      refine s_retL (xs := numsL (2 ^ S.length) fun m => bear S η l (inM S m)) ?_ fun r H4 hr e4 h4 => k r H4 (fresh_back e23 hr) (e23.trans e4) h4
      have hlen : ∀ {σ : L2.St} {H4 : Hp}, σ[6]? = some (some (.ref y)) → Ex H3 H4 → Ev (tCB (rLenS K) (tCons (tVar 6) tNil)) σ H4 (.int ((2 ^ S.length : Nat) : Int)) := fun hσ e4 => ev_is (ev_len (ev_var hσ) (sq_of (e4 _ _ h3))) (by rw [nums_len])
      refine el_lcM (L := List.range (2 ^ S.length)) (f := fun m => V.int ((m : Nat) : Int)) (fun m => V.int (bear S η l (inM S m))) (ew_rangeN (ea_cons (hlen rfl (Ex.refl _)) ea_nil) (by omega)) (by rw [List.length_range]; omega) (fun _ => rfl) fun m H4 hm e4 => ?_
      have hm := List.mem_range.mp hm
      rw [← bear_zet hS.nd η l hm]
      refine ev_op (ev_op (ev_var rfl) (ev_un ev_c ru_neg) (rv_ixL (sq_of (e4 _ _ h3)) ?_)) (ev_ixI (ev_var rfl) (ev_is (ev_op (ev_op (hlen rfl e4) ev_c rv_I0) (ev_var rfl) rv_I0) (by rw [sub_nat hm])) (sq_of (e4 _ _ h3)) (nums_at _ (by omega))) rv_I0
      have hp : 0 < 2 ^ S.length := Nat.two_pow_pos _
      have e1 : ixN (2 ^ S.length) (-1) = some (2 ^ S.length - 1) := by
        unfold ixN
        rw [if_neg (by decide), if_pos (by omega)]
        congr 1
        omega
      unfold atI
      rw [nums_len, e1]
      exact nums_at _ (by omega)
def sp_wants_by_mask (K : PySem.W.Frag) : Sp := pspL fun vs zs H => ∃ p a S η need, vs = [.ref p, .ref a] ∧ FontAt K H p S η ∧ SOk S ∧ (∀ c ∈ S, (need c).natAbs ≤ 2 ^ 110) ∧ SqL K H a (S.map fun c => V.int (need c)) ∧ zs = numsL (2 ^ S.length) fun m => want S need (inM S m)
theorem ok_wants_by_mask {P : Program} {w : World} {K : PySem.W.Frag} {mg : Str → Option Value} {base : Heap} (T : Tx K mg) : FnOk P w K mg base CX0 4 (f_wants_by_mask K) (fdOf K (f_wants_by_mask K)) ["font", "amounts"] (sp_wants_by_mask K) := by
  refine T.d_wants_by_mask.ok sc_wants_by_mask (fun vs H Q E h => by obtain ⟨zs, ⟨p, a, S, η, need, rfl, hf, hS, hb, ha, rfl⟩, k⟩ := h; rfl) (fun cdv A outer s H vs Q E hr h => ?_)
  obtain ⟨zs, ⟨p, a, S, η, need, rfl, hf, hS, hb, ha, rfl⟩, k⟩ := h
  refine ⟨_, PSs.nox (pss_cons (ps_set (i := 2) sc_wants_by_mask.nd rfl (by first | exact Or.inl rfl | exact Or.inr rfl) (pe_op op_rep (pe_lst (pa_cons pe_int pa_nil)) (pe_call (ok_number_of_sets T) (by exact hr.mono (by first | decide | omega)) (by rfl) (by exact T.m_number_of_sets) (by exact T.d_number_of_sets.kp) (bn_number_of_sets T) .nil pass0 (pa_cons (pv 0) pa_nil)))) (
pss_cons (ps_for PassesOwn.never rfl (pi_enum (by rfl) (by exact T.z_enumerate) (pa_cons (pv 1) pa_nil)) (pg_tup (n := 2) (by rfl) (pgs_cons (pg_name (i := 3) sc_wants_by_mask.nd rfl (by first | exact Or.inl rfl | exact Or.inr rfl)) (pgs_cons (pg_name (i := 4) sc_wants_by_mask.nd rfl (by first | exact Or.inl rfl | exact Or.inr rfl)) pgs_nil))) (
pss_one (ps_asg (pv 4) (pg_sub (pv 2) (pe_op op_shl pe_int (pv 3)) set_list)))) (
pss_one (ps_ret (pe_call (ok_subset_sums T) (by exact hr.mono (by first | decide | omega)) (by rfl) (by exact T.m_subset_sums) (by exact T.d_subset_sums.kp) (bn_subset_sums T).choose_spec.2 (bn_subset_sums T).choose_spec.1 pass0 (pa_cons (pv 2) pa_nil)))))), ?_⟩
  have h64 := two_pow6 hS.most
  have zz : numsL (2 ^ S.length) (fun m => want S need (inM S m)) = numsL (2 ^ S.length) (zet (singleF S need S) S.length) := nums_congr fun m hm => (want_zet hS.nd need hm).symm
  rw [zz] at k
  refine q_asgL (el_zeros (ev_call (ea_cons (ev_var rfl) ea_nil) (v_number_of_sets hf hS)) (by omega)) fun x H1 hx e h1 => ?_
  let Pv : Nat → L2.St → Hp → Prop := fun i σ' H' => (∃ u3 u4, σ' = [some (.ref p), some (.ref a), some (.ref x), u3, u4]) ∧ Ex H H' ∧ H' x = some (.lst (numsL (2 ^ S.length) (singleF S need (S.take i))))
  have hw := eg_enum (K := K) (σ := (L2.start ["font", "amounts", "found", "at", "amount"] [V.ref p, V.ref a]).set 2 (some (.ref x))) (ta := tCons (tVar 1) tNil) (ea_cons (ev_var rfl) ea_nil) (ex_l e ha)
  rw [List.length_map] at hw
  refine q_for hw Pv (fun H2 e2 => ⟨⟨none, none, rfl⟩, e.trans e2, by rw [e2 _ _ h1, List.take_zero]; rfl⟩) (fun i σ' H' _ c => ex_l c.2.1 ha) (fun i y σ' H2 H3 hi c yr => ?_) fun σ' H2 c => ?_
  · obtain ⟨⟨u3, u4, rfl⟩, e2, h2⟩ := c
    obtain ⟨t, u, w, rfl, ht, rfl, hu, hw⟩ := yr
    obtain rfl : V.int ((i : Nat) : Int) = u := Option.some.inj hu
    have lt := hi
    have ei : S.idxOf S[i] = i := hS.nd.idxOf_getElem _ lt
    have hw : (S.map fun c => V.int (need c))[i]? = some w := hw
    rw [List.getElem?_map, List.getElem?_eq_getElem lt] at hw
    obtain rfl : V.int (need S[i]) = w := Option.some.inj hw
    have tx : t ≠ x := fun z => by rw [z, h2] at ht; cases ht
    have e3 : Ex H2 (upd H2 t (.tup [V.int ((i : Nat) : Int), V.int (need S[i])])) := Ex.new ht
    have h3 := e3 _ _ h2
    have li : 2 ^ i < 2 ^ S.length := Nat.pow_lt_pow_right (by decide) lt
    have := hS.most
    refine ⟨t, _, rfl, st_of upd_same, rfl, _, _, rfl, _, _, rfl, rfl, ?_⟩
    refine ⟨_, rfl, _, rfl, ?_⟩
    have hsh : Ev (tOp (rI CPow fun i j => .int (i * 2 ^ j.toNat)) (tC (.int 1)) (tVar 3)) [some (.ref p), some (.ref a), some (.ref x), some (.int ((i : Nat) : Int)), some (.int (need S[i]))] (upd H2 t (.tup [V.int ((i : Nat) : Int), V.int (need S[i])])) (.int ((2 ^ i : Nat) : Int)) := ev_op ev_c (ev_var rfl) (rv_shl (by omega))
    refine hsh _ (Ex.refl _) _ fun H4 e4 => ⟨x, _, _, 2 ^ i, rfl, rfl, e4 _ _ h3, ?_, ⟨_, _, rfl⟩, Ex.mut ((e2.trans e3).trans e4) hx, ?_⟩
    · rw [nums_len]
      exact ixN_nat li
    · rw [upd_same, List.take_add_one, List.getElem?_eq_getElem lt]
      show _ = some (HO.lst (numsL _ (singleF S need (S.take i ++ [S[i]]))))
      rw [single_snoc hS.nd (fun d hd => ?_) (List.getElem_mem lt) (by rw [ei]; exact li), ei]
      obtain ⟨j, hj, e5⟩ := List.mem_take_iff_getElem.mp hd
      refine ⟨by rw [← e5]; exact List.getElem_mem _, fun z => ?_⟩
      rw [← e5] at z
      have e6 := hS.nd.idxOf_getElem j (by omega)
      rw [z, ei] at e6
      omega
  · obtain ⟨⟨u3, u4, rfl⟩, e2, h2⟩ := c
    rw [List.take_length] at h2
    refine s_retL (el_call (ea_cons (ev_var rfl) ea_nil) (pspL_v fun H3 e3 => ⟨x, S.length, singleF S need S, rfl, hS.most, sq_of (e3 _ _ h2), fun m _ => ?_, rfl⟩)) fun y H3 hy e3 h3 => k y H3 (fresh_back e2 hy) (e2.trans e3) h3
    have := sum_bound (fun c => pnt (2 ^ S.idxOf c) (need c) m) (2 ^ 110) S fun c hc => Nat.le_trans (pnt_bound _ _ _) (hb c hc)
    have h30 : S.length * 2 ^ 110 ≤ 6 * 2 ^ 110 := Nat.mul_le_mul_right _ hS.most
    have h31 : 6 * 2 ^ 110 ≤ 2 ^ 200 := by decide
    exact Nat.le_trans this (Nat.le_trans h30 h31)
end P38

set_option Elab.async false
set_option linter.all false
set_option maxRecDepth 100000
set_option maxHeartbeats 4000000
namespace P38
/-! least and greatest of a list -/
theorem has_max : ∀ {ns : List Int}, ns ≠ [] → ∃ m ∈ ns, ∀ y ∈ ns, y ≤ m
  | [], h => absurd rfl h
  | [a], _ => ⟨a, List.mem_cons_self, fun y hy => by rw [List.mem_singleton.mp hy]; exact Int.le_refl _⟩
  | a :: b :: r, _ => by
    obtain ⟨m, hm, h⟩ := has_max (ns := b :: r) (List.cons_ne_nil _ _)
    by_cases c : m ≤ a
    · refine ⟨a, List.mem_cons_self, fun y hy => ?_⟩
      rcases List.mem_cons.mp hy with rfl | hy
      · exact Int.le_refl _
      · exact Int.le_trans (h y hy) c
    · refine ⟨m, List.mem_cons_of_mem _ hm, fun y hy => ?_⟩
      rcases List.mem_cons.mp hy with rfl | hy
      · omega
      · exact h y hy
theorem has_min : ∀ {ns : List Int}, ns ≠ [] → ∃ m ∈ ns, ∀ y ∈ ns, m ≤ y
  | [], h => absurd rfl h
  | [a], _ => ⟨a, List.mem_cons_self, fun y hy => by rw [List.mem_singleton.mp hy]; exact Int.le_refl _⟩
  | a :: b :: r, _ => by
    obtain ⟨m, hm, h⟩ := has_min (ns := b :: r) (List.cons_ne_nil _ _)
    by_cases c : a ≤ m
    · refine ⟨a, List.mem_cons_self, fun y hy => ?_⟩
      rcases List.mem_cons.mp hy with rfl | hy
      · exact Int.le_refl _
      · exact Int.le_trans c (h y hy)
    · refine ⟨m, List.mem_cons_of_mem _ hm, fun y hy => ?_⟩
      rcases List.mem_cons.mp hy with rfl | hy
      · omega
      · exact h y hy
/-! masks and sets: the two tests of use_range -/
theorem bit_mk {S : List Nat} (h : S.Nodup) {η : Nat → Option Nat} {k : Nat × Nat} {i : Nat} : (mk S η k).testBit i = true ↔ ∃ c, S[i]? = some c ∧ c ∈ shows S η k := by
  unfold mk shows
  rw [bit_mask _ h]
  constructor
  · intro e
    cases hc : S[i]? with
    | none => rw [hc] at e; cases e
    | some c => rw [hc] at e; exact ⟨c, rfl, List.mem_filter.mpr ⟨List.mem_of_getElem? hc, e⟩⟩
  · rintro ⟨c, hc, e⟩
    rw [hc]
    exact (List.mem_filter.mp e).2
theorem idx_at {S : List Nat} (h : S.Nodup) {i c : Nat} (hc : S[i]? = some c) : S.idxOf c = i := by
  obtain ⟨l, e⟩ := List.getElem?_eq_some_iff.mp hc
  rw [← e]
  exact h.idxOf_getElem _ l
theorem meets_iff {S : List Nat} (h : S.Nodup) {η : Nat → Option Nat} {k : Nat × Nat} {m : Nat} : m &&& mk S η k ≠ 0 ↔ (shows S η k).any (inM S m) = true := by
  constructor
  · intro z
    obtain ⟨i, hi⟩ := Nat.exists_testBit_of_ne_zero z
    rw [Nat.testBit_and, Bool.and_eq_true] at hi
    obtain ⟨c, hc, e⟩ := (bit_mk h).mp hi.2
    refine List.any_eq_true.mpr ⟨c, e, ?_⟩
    unfold inM
    rw [idx_at h hc]
    exact hi.1
  · intro z e
    obtain ⟨c, hc, b⟩ := List.any_eq_true.mp z
    have li := List.idxOf_lt_length_of_mem (shows_mem hc)
    have : (m &&& mk S η k).testBit (S.idxOf c) = true := by
      rw [Nat.testBit_and, Bool.and_eq_true]
      exact ⟨b, (bit_mk h).mpr ⟨c, by rw [List.getElem?_eq_getElem li, List.getElem_idxOf], hc⟩⟩
    rw [e, Nat.zero_testBit] at this
    cases this
theorem alone_iff {S : List Nat} (h : S.Nodup) {η : Nat → Option Nat} {k : Nat × Nat} {m s : Nat} (hs : s ∈ shows S η k) : m &&& mk S η k = 2 ^ S.idxOf s ↔ ∀ c ∈ shows S η k, inM S m c = decide (c = s) := by
  constructor
  · intro z c hc
    have li := List.idxOf_lt_length_of_mem (shows_mem hc)
    have hb : (mk S η k).testBit (S.idxOf c) = true := (bit_mk h).mpr ⟨c, by rw [List.getElem?_eq_getElem li, List.getElem_idxOf], hc⟩
    have e := congrArg (fun x => x.testBit (S.idxOf c)) z
    simp only [Nat.testBit_and, hb, Bool.and_true, Nat.testBit_two_pow] at e
    unfold inM
    rw [e]
    by_cases d : c = s
    · rw [d, decide_eq_true rfl, decide_eq_true rfl]
    · rw [decide_eq_false d, decide_eq_false fun q => d ?_]
      have e3 := congrArg (fun i => S[i]?) q
      simp only [List.getElem?_eq_getElem (List.idxOf_lt_length_of_mem (shows_mem hs)), List.getElem?_eq_getElem li, List.getElem_idxOf] at e3
      exact (Option.some.inj e3).symm
  · intro z
    refine Nat.eq_of_testBit_eq fun i => ?_
    rw [Nat.testBit_and, Nat.testBit_two_pow]
    by_cases hb : (mk S η k).testBit i = true
    · obtain ⟨c, hc, e⟩ := (bit_mk h).mp hb
      have ei := idx_at h hc
      have := z c e
      unfold inM at this
      rw [ei] at this
      rw [hb, Bool.and_true, this]
      by_cases d : c = s
      · rw [d] at ei; rw [ei, decide_eq_true rfl, decide_eq_true d]
      · rw [decide_eq_false d, decide_eq_false fun q => d ?_]
        have hs2 : S[i]? = some s := by rw [← q, List.getElem?_eq_getElem (List.idxOf_lt_length_of_mem (shows_mem hs)), List.getElem_idxOf]
        exact Option.some.inj (hc.symm.trans hs2)
    · rw [Bool.not_eq_true _ |>.mp hb, Bool.and_false]
      symm
      refine decide_eq_false fun q => hb ((bit_mk h).mpr ⟨s, ?_, hs⟩)
      rw [← q, List.getElem?_eq_getElem (List.idxOf_lt_length_of_mem (shows_mem hs)), List.getElem_idxOf]
/-- what use_range tells -/
structure UseR (S : List Nat) (η : Nat → Option Nat) (l : Stock) (need : Nat → Int) (q : (Nat × Nat) × Nat) (s : Nat) (lo hi : Int) : Prop where
  hi1 : hi ≤ ((q.2 : Nat) : Int)
  hi2 : hi ≤ need s
  hi3 : ∀ A, (shows S η q.1).any A = true → A s = false → hi ≤ slk S η l need A
  hi4 : hi = ((q.2 : Nat) : Int) ∨ hi = need s ∨ ∃ A, (shows S η q.1).any A = true ∧ A s = false ∧ hi = slk S η l need A
  lo0 : 0 ≤ lo
  lo1 : ∀ A, (∀ c ∈ shows S η q.1, A c = decide (c = s)) → ((q.2 : Nat) : Int) - slk S η l need A ≤ lo
  lo2 : lo = 0 ∨ ∃ A, (∀ c ∈ shows S η q.1, A c = decide (c = s)) ∧ lo = ((q.2 : Nat) : Int) - slk S η l need A
/-- the masks that most_here takes, those that stand alone -/
def mostP (S : List Nat) (η : Nat → Option Nat) (k : Nat × Nat) (s : Nat) : Nat → Bool := fun m => !decide (m &&& mk S η k = 0) && !m.testBit (S.idxOf s)
def aloneP (S : List Nat) (η : Nat → Option Nat) (k : Nat × Nat) (s : Nat) : Nat → Bool := fun m => decide (m &&& mk S η k = 2 ^ S.idxOf s)
def mostL (S : List Nat) (η : Nat → Option Nat) (l : Stock) (need : Nat → Int) (k : Nat × Nat) (s : Nat) : List Int := ((List.range (2 ^ S.length)).filter (mostP S η k s)).map fun m => slk S η l need (inM S m)
def aloneL (S : List Nat) (η : Nat → Option Nat) (l : Stock) (need : Nat → Int) (q : (Nat × Nat) × Nat) (s : Nat) : List Int := ((List.range (2 ^ S.length)).filter (aloneP S η q.1 s)).map fun m => ((q.2 : Nat) : Int) - slk S η l need (inM S m)
theorem most_mem {S : List Nat} (h : S.Nodup) {η : Nat → Option Nat} {l : Stock} {need : Nat → Int} {k : Nat × Nat} {s : Nat} (hs : s ∈ S) {x : Int} : x ∈ mostL S η l need k s ↔ ∃ A, (shows S η k).any A = true ∧ A s = false ∧ x = slk S η l need A := by
  unfold mostL
  rw [List.mem_map]
  constructor
  · rintro ⟨m, hm, rfl⟩
    obtain ⟨hm, hp⟩ := List.mem_filter.mp hm
    unfold mostP at hp
    rw [Bool.and_eq_true, Bool.not_eq_true', Bool.not_eq_true'] at hp
    exact ⟨inM S m, (meets_iff h).mp (of_decide_eq_false hp.1), hp.2, rfl⟩
  · rintro ⟨A, a1, a2, rfl⟩
    obtain ⟨m, hm, e⟩ := mask_of_set h A
    refine ⟨m, List.mem_filter.mpr ⟨List.mem_range.mpr hm, ?_⟩, slk_congr e⟩
    unfold mostP
    rw [Bool.and_eq_true, Bool.not_eq_true', Bool.not_eq_true']
    refine ⟨decide_eq_false ((meets_iff h).mpr (by rw [any_of e]; exact a1)), ?_⟩
    have := e s hs
    unfold inM at this
    rw [this, a2]
theorem alone_mem {S : List Nat} (h : S.Nodup) {η : Nat → Option Nat} {l : Stock} {need : Nat → Int} {q : (Nat × Nat) × Nat} {s : Nat} (hs : s ∈ shows S η q.1) {x : Int} :
    x ∈ aloneL S η l need q s ↔ ∃ A, (∀ c ∈ shows S η q.1, A c = decide (c = s)) ∧ x = ((q.2 : Nat) : Int) - slk S η l need A := by
  unfold aloneL
  rw [List.mem_map]
  constructor
  · rintro ⟨m, hm, rfl⟩
    obtain ⟨hm, hp⟩ := List.mem_filter.mp hm
    exact ⟨inM S m, (alone_iff h hs).mp (of_decide_eq_true hp), rfl⟩
  · rintro ⟨A, a1, rfl⟩
    obtain ⟨m, hm, e⟩ := mask_of_set h A
    refine ⟨m, List.mem_filter.mpr ⟨List.mem_range.mpr hm, decide_eq_true ((alone_iff h hs).mpr fun c hc => by rw [e c (shows_mem hc)]; exact a1 c hc)⟩, by rw [slk_congr e]⟩
theorem alone_ne {S : List Nat} (h : S.Nodup) {η : Nat → Option Nat} {l : Stock} {need : Nat → Int} {q : (Nat × Nat) × Nat} {s : Nat} (hs : s ∈ shows S η q.1) : aloneL S η l need q s ≠ [] := fun e => by
  have := (alone_mem (l := l) (need := need) h hs).mpr ⟨fun c => decide (c = s), fun _ _ => rfl, rfl⟩
  rw [e] at this
  cases this
end P38

set_option Elab.async false
set_option linter.all false
set_option maxRecDepth 100000
set_option maxHeartbeats 4000000
namespace P38
/-! the law's tests, from what use_range tells -/
section
variable {S : List Nat} {η : Nat → Option Nat} {l : Stock} {need : Nat → Int} {q : (Nat × Nat) × Nat} {s : Nat} {lo hi : Int}
/-- the counts with one kind's set to n -/
def setC (l : Stock) (k : Nat × Nat) (n : Nat) : Stock := l.map fun p => if p.1 = k then (p.1, n) else p
def subN (need : Nat → Int) (s : Nat) (n : Int) : Nat → Int := fun c => if c = s then need c - n else need c
theorem setC_none {k : Nat × Nat} {n : Nat} : ∀ {l : Stock}, k ∉ l.map Prod.fst → setC l k n = l
  | [], _ => rfl
  | p :: l, h => by
    rw [List.map_cons, List.mem_cons, not_or] at h
    unfold setC
    rw [List.map_cons, if_neg fun e => h.1 e.symm]
    exact congrArg _ (setC_none h.2)
theorem bear_setC (n : Nat) (A : Nat → Bool) : ∀ {l : Stock}, (l.map Prod.fst).Nodup → q ∈ l → bear S η (setC l q.1 n) A = bear S η l A - (if (shows S η q.1).any A then ((q.2 : Nat) : Int) - n else 0)
  | p :: l, nd, h => by
    have nd2 := List.nodup_cons.mp (show (p.1 :: l.map Prod.fst).Nodup from nd)
    have c1 : ∀ (p : (Nat × Nat) × Nat) (l : Stock), bear S η (p :: l) A = (if (shows S η p.1).any A then ((p.2 : Nat) : Int) else 0) + bear S η l A := fun p l => by
      unfold bear
      rw [List.map_cons, List.sum_cons]
    have c2 : setC (p :: l) q.1 n = (if p.1 = q.1 then (p.1, n) else p) :: setC l q.1 n := rfl
    rw [c2, c1, c1]
    by_cases e : p.1 = q.1
    · have hq : q = p := by
        rcases List.mem_cons.mp h with h | h
        · exact h
        · exact absurd (by rw [e]; exact List.mem_map_of_mem h) nd2.1
      subst hq
      rw [if_pos rfl, setC_none nd2.1]
      dsimp only
      split <;> omega
    · have hq : q ∈ l := by
        rcases List.mem_cons.mp h with h | h
        · exact absurd (by rw [h]) e
        · exact h
      rw [if_neg e, bear_setC n A nd2.2 hq]
      omega
theorem want_subN {n : Int} (A : Nat → Bool) : ∀ {S : List Nat}, S.Nodup → s ∈ S → want S (subN need s n) A = want S need A - (if A s then n else 0)
  | c :: S, nd, h => by
    have nd2 := List.nodup_cons.mp nd
    have c1 : ∀ (f : Nat → Int) , want (c :: S) f A = (if A c then f c else 0) + want S f A := fun f => by
      unfold want
      rw [List.map_cons, List.sum_cons]
    rw [c1, c1]
    by_cases e : c = s
    · subst e
      have z : want S (subN need c n) A = want S need A := by
        unfold want
        congr 1
        refine List.map_congr_left fun d hd => ?_
        have : subN need c n d = need d := if_neg fun e => nd2.1 (by rw [← e]; exact hd)
        rw [this]
      have : subN need c n c = need c - n := if_pos rfl
      rw [z, this]
      split <;> omega
    · have hs : s ∈ S := by
        rcases List.mem_cons.mp h with h | h
        · exact absurd h.symm e
        · exact h
      have : subN need s n c = need c := if_neg e
      rw [this, want_subN A nd2.2 hs]
      omega
theorem any_s (hs : s ∈ shows S η q.1) {A : Nat → Bool} (h : A s = true) : (shows S η q.1).any A = true := List.any_eq_true.mpr ⟨s, hs, h⟩
/-- a set's slack with n plates of the kind given to the sign -/
theorem slk_rest {n : Nat} (hS : S.Nodup) (hl : (l.map Prod.fst).Nodup) (hq : q ∈ l) (hs : s ∈ shows S η q.1) (hn : n ≤ q.2) (A : Nat → Bool) :
    slk S η (setC l q.1 (q.2 - n)) (subN need s n) A = slk S η l need A - (if (shows S η q.1).any A = true ∧ A s = false then (n : Int) else 0) := by
  unfold slk
  rw [bear_setC _ A hl hq, want_subN A hS (shows_mem hs)]
  by_cases a : A s = true
  · rw [if_pos (any_s hs a), if_pos a, if_neg fun z => by rw [a] at z; cases z.2]
    omega
  · rw [if_neg a]
    by_cases b : (shows S η q.1).any A = true
    · rw [if_pos b, if_pos ⟨b, Bool.not_eq_true _ |>.mp a⟩]
      omega
    · rw [if_neg b, if_neg fun z => b z.1]
      omega
/-- a set's slack with all but n plates of the kind barred -/
theorem slk_bar {n : Nat} (hl : (l.map Prod.fst).Nodup) (hq : q ∈ l) (A : Nat → Bool) :
    slk S η (setC l q.1 n) need A = slk S η l need A - (if (shows S η q.1).any A = true then ((q.2 : Nat) : Int) - n else 0) := by
  unfold slk
  rw [bear_setC _ A hl hq]
  omega
/-- submodular -/
theorem sub_bear (A B : Nat → Bool) : ∀ l : Stock, bear S η l (fun c => A c || B c) + bear S η l (fun c => A c && B c) ≤ bear S η l A + bear S η l B
  | [] => Int.le_refl _
  | p :: l => by
    have c1 : ∀ (A : Nat → Bool), bear S η (p :: l) A = (if (shows S η p.1).any A then ((p.2 : Nat) : Int) else 0) + bear S η l A := fun A => by
      unfold bear
      rw [List.map_cons, List.sum_cons]
    have ih := sub_bear A B l
    have h1 : (shows S η p.1).any (fun c => A c || B c) = ((shows S η p.1).any A || (shows S η p.1).any B) := by
      rw [Bool.eq_iff_iff]
      simp only [List.any_eq_true, Bool.or_eq_true]
      constructor
      · rintro ⟨c, hc, h | h⟩
        · exact .inl ⟨c, hc, h⟩
        · exact .inr ⟨c, hc, h⟩
      · rintro (⟨c, hc, h⟩ | ⟨c, hc, h⟩)
        · exact ⟨c, hc, .inl h⟩
        · exact ⟨c, hc, .inr h⟩
    have h2 : (shows S η p.1).any (fun c => A c && B c) = true → (shows S η p.1).any A = true ∧ (shows S η p.1).any B = true := fun h => by
      obtain ⟨c, hc, e⟩ := List.any_eq_true.mp h
      rw [Bool.and_eq_true] at e
      exact ⟨List.any_eq_true.mpr ⟨c, hc, e.1⟩, List.any_eq_true.mpr ⟨c, hc, e.2⟩⟩
    rw [c1, c1, c1, c1, h1]
    revert h2
    cases (shows S η p.1).any A <;> cases (shows S η p.1).any B <;> cases (shows S η p.1).any (fun c => A c && B c) <;> intro h2 <;> simp at h2 ⊢ <;> omega
theorem sub_bear1 {A B : Nat → Bool} (hA : (shows S η q.1).any A = true) (hB : (shows S η q.1).any B = true) (hAB : (shows S η q.1).any (fun c => A c && B c) = false) : ∀ {l : Stock}, q ∈ l → bear S η l (fun c => A c || B c) + bear S η l (fun c => A c && B c) + ((q.2 : Nat) : Int) ≤ bear S η l A + bear S η l B
  | p :: l, h => by
    have c1 : ∀ (A : Nat → Bool), bear S η (p :: l) A = (if (shows S η p.1).any A then ((p.2 : Nat) : Int) else 0) + bear S η l A := fun A => by
      unfold bear
      rw [List.map_cons, List.sum_cons]
    rcases List.mem_cons.mp h with e | h
    · subst e
      have ih := sub_bear (S := S) (η := η) A B l
      have hO : (shows S η q.1).any (fun c => A c || B c) = true := by
        obtain ⟨c, hc, e⟩ := List.any_eq_true.mp hA
        exact List.any_eq_true.mpr ⟨c, hc, by rw [Bool.or_eq_true]; exact .inl e⟩
      rw [c1, c1, c1, c1, hA, hB, hAB, hO, if_pos rfl, if_neg (fun z => by cases z)]
      omega
    · have ih := sub_bear1 hA hB hAB h
      have one := sub_bear (S := S) (η := η) A B [p]
      have z : ∀ (A : Nat → Bool), bear S η [p] A = if (shows S η p.1).any A then ((p.2 : Nat) : Int) else 0 := fun A => by
        unfold bear
        rw [List.map_cons, List.map_nil, List.sum_cons, List.sum_nil, Int.add_zero]
      rw [z, z, z, z] at one
      rw [c1, c1, c1, c1]
      omega
theorem want_mod (A B : Nat → Bool) : want S need (fun c => A c || B c) + want S need (fun c => A c && B c) = want S need A + want S need B := by
  unfold want
  induction S with
  | nil => rfl
  | cons c S ih =>
    simp only [List.map_cons, List.sum_cons]
    generalize (List.map (fun c => if (A c || B c) = true then need c else 0) S).sum = x1 at ih ⊢
    generalize (List.map (fun c => if (A c && B c) = true then need c else 0) S).sum = x2 at ih ⊢
    have y : (if (A c || B c) = true then need c else 0) + (if (A c && B c) = true then need c else 0) = (if A c = true then need c else 0) + if B c = true then need c else 0 := by
      rcases Bool.eq_false_or_eq_true (A c) with a | a <;> rcases Bool.eq_false_or_eq_true (B c) with b | b <;> rw [a, b] <;> simp
    omega
theorem slk_sub1 {A B : Nat → Bool} (h0 : ∀ A, 0 ≤ slk S η l need A) (hq : q ∈ l) (hs : s ∈ shows S η q.1) (hA : ∀ c ∈ shows S η q.1, A c = decide (c = s)) (hB : (shows S η q.1).any B = true) (hBs : B s = false) : ((q.2 : Nat) : Int) ≤ slk S η l need A + slk S η l need B := by
  have a1 : (shows S η q.1).any A = true := any_s hs (by rw [hA s hs]; exact decide_eq_true rfl)
  have ab : (shows S η q.1).any (fun c => A c && B c) = false := by
    cases z : (shows S η q.1).any (fun c => A c && B c) with
    | false => rfl
    | true =>
      obtain ⟨c, hc, e⟩ := List.any_eq_true.mp z
      rw [hA c hc, Bool.and_eq_true] at e
      rw [of_decide_eq_true e.1, hBs] at e
      cases e.2
  have h1 := sub_bear1 (l := l) a1 hB ab hq
  have h2 := want_mod (S := S) (need := need) A B
  have h3 := h0 fun c => A c || B c
  have h4 := h0 fun c => A c && B c
  unfold slk at h3 h4 ⊢
  omega
theorem UseR.le (u : UseR S η l need q s lo hi) (hS : S.Nodup) (hl : (l.map Prod.fst).Nodup) (hq : q ∈ l) (hs : s ∈ shows S η q.1) (h0 : ∀ A, 0 ≤ slk S η l need A) (hn : 0 ≤ need s) : lo ≤ hi := by
  rcases u.lo2 with e | ⟨A, hA, e⟩
  · rcases u.hi4 with f | f | ⟨B, b1, b2, f⟩
    · omega
    · omega
    · have := h0 B; omega
  · have a1 : A s = true := by rw [hA s hs]; exact decide_eq_true rfl
    rcases u.hi4 with f | f | ⟨B, b1, b2, f⟩
    · have := h0 A; omega
    · have r := slk_rest (need := need) hS hl hq hs (Nat.le_refl q.2) (fun c => A c && !decide (c = s))
      have z : (shows S η q.1).any (fun c => A c && !decide (c = s)) = false := by
        cases z : (shows S η q.1).any (fun c => A c && !decide (c = s)) with
        | false => rfl
        | true =>
          obtain ⟨c, hc, e⟩ := List.any_eq_true.mp z
          rw [hA c hc] at e
          have : (decide (c = s) && !decide (c = s)) = false := by cases decide (c = s) <;> rfl
          exact absurd (this.symm.trans e) (by decide)
      have w : want S need A = want S need (fun c => A c && !decide (c = s)) + need s := by
        have m := want_mod (S := S) (need := need) (fun c => A c && !decide (c = s)) (fun c => decide (c = s))
        have e1 : (fun c => (A c && !decide (c = s)) || decide (c = s)) = fun c => A c := by
          funext c
          by_cases d : c = s
          · rw [d, decide_eq_true rfl, a1]; rfl
          · rw [decide_eq_false d]; simp
        have e2 : (fun c => (A c && !decide (c = s)) && decide (c = s)) = fun _ => false := by
          funext c
          cases decide (c = s) <;> simp
        rw [e1, e2] at m
        have e3 : want S need (fun _ => false) = 0 := by
          unfold want
          clear m e1 e2 r z hS hs hA a1 e f h0 u
          induction S with
          | nil => rfl
          | cons c S ih => rw [List.map_cons, List.sum_cons, ih]; rfl
        have e4 : want S need (fun c => decide (c = s)) = need s := by
          have y := want_subN (need := need) (n := need s) (s := s) (fun c => decide (c = s)) hS (shows_mem hs)
          have y2 : want S (subN need s (need s)) (fun c => decide (c = s)) = want S (subN need s (need s)) (fun _ => false) := by
            unfold want
            congr 1
            refine List.map_congr_left fun c _ => ?_
            by_cases d : c = s
            · have : subN need s (need s) c = 0 := by unfold subN; rw [if_pos d, d]; omega
              rw [this]; simp
            · show (if decide (c = s) = true then subN need s (need s) c else 0) = if false = true then subN need s (need s) c else 0
              rw [if_neg (by rw [decide_eq_false d]; decide), if_neg (by decide)]
          have y3 : want S (subN need s (need s)) (fun _ => false) = 0 := by
            unfold want
            clear y y2 m e1 e2 e3 r z hS hs hA a1 e f h0 u
            induction S with
            | nil => rfl
            | cons c S ih => rw [List.map_cons, List.sum_cons, ih]; rfl
          rw [y2, y3] at y
          simp at y
          omega
        rw [e3, e4] at m
        have : (fun c => A c) = A := rfl
        rw [this] at m
        omega
      have bb : bear S η l (fun c => A c && !decide (c = s)) + ((q.2 : Nat) : Int) ≤ bear S η l A := by
        have sb := sub_bear1 (l := l) (S := S) (η := η) (q := q) (A := fun c => A c && !decide (c = s)) (B := fun c => A c)
        clear sb r
        have p1 : ∀ {l : Stock}, q ∈ l → bear S η l (fun c => A c && !decide (c = s)) + ((q.2 : Nat) : Int) ≤ bear S η l A := by
          intro l hq
          have mono : ∀ l : Stock, bear S η l (fun c => A c && !decide (c = s)) ≤ bear S η l A := fun l => by
            unfold bear
            induction l with
            | nil => exact Int.le_refl _
            | cons p l ih =>
              rw [List.map_cons, List.map_cons, List.sum_cons, List.sum_cons]
              by_cases h1 : (shows S η p.1).any (fun c => A c && !decide (c = s)) = true
              · have h2 : (shows S η p.1).any A = true := by
                  obtain ⟨c, hc, e⟩ := List.any_eq_true.mp h1
                  rw [Bool.and_eq_true] at e
                  exact List.any_eq_true.mpr ⟨c, hc, e.1⟩
                rw [if_pos h1, if_pos h2]; omega
              · rw [if_neg h1]
                split <;> omega
          induction l with
          | nil => cases hq
          | cons p l ih =>
            have c1 : ∀ (A : Nat → Bool), bear S η (p :: l) A = (if (shows S η p.1).any A then ((p.2 : Nat) : Int) else 0) + bear S η l A := fun A => by
              unfold bear
              rw [List.map_cons, List.sum_cons]
            rw [c1, c1]
            rcases List.mem_cons.mp hq with e | h
            · subst e
              have := mono l
              rw [if_neg (by rw [z]; decide), if_pos (any_s hs a1)]
              omega
            · have := ih h
              have m1 := mono [p]
              have zz : ∀ (A : Nat → Bool), bear S η [p] A = if (shows S η p.1).any A then ((p.2 : Nat) : Int) else 0 := fun A => by
                unfold bear
                rw [List.map_cons, List.map_nil, List.sum_cons, List.sum_nil, Int.add_zero]
              rw [zz, zz] at m1
              omega
        exact p1 hq
      have h1 := h0 (fun c => A c && !decide (c = s))
      unfold slk at h1 e
      omega
    · have := slk_sub1 (B := B) h0 hq hs hA b1 b2
      omega
/-- the rest hangs with the greatest number -/
theorem UseR.rest (u : UseR S η l need q s lo hi) (hS : S.Nodup) (hl : (l.map Prod.fst).Nodup) (hq : q ∈ l) (hs : s ∈ shows S η q.1) (h0 : ∀ A, 0 ≤ slk S η l need A) {n : Nat} (hn : hi = (n : Int)) (A : Nat → Bool) : 0 ≤ slk S η (setC l q.1 (q.2 - n)) (subN need s n) A := by
  have h1 := u.hi1
  rw [slk_rest hS hl hq hs (by omega)]
  have := h0 A
  split
  · rename_i h
    have := u.hi3 A h.1 h.2
    omega
  · omega
/-- not with one more -/
theorem UseR.more (u : UseR S η l need q s lo hi) (hS : S.Nodup) (hl : (l.map Prod.fst).Nodup) (hq : q ∈ l) (hs : s ∈ shows S η q.1) {n : Nat} (hn : hi + 1 = (n : Int)) (h1 : n ≤ q.2) (h2 : (n : Int) ≤ need s) : ∃ A, slk S η (setC l q.1 (q.2 - n)) (subN need s n) A < 0 := by
  rcases u.hi4 with f | f | ⟨B, b1, b2, f⟩
  · omega
  · omega
  · refine ⟨B, ?_⟩
    rw [slk_rest hS hl hq hs h1, if_pos ⟨b1, b2⟩]
    omega
/-- whether a set meets the kind's other signs -/
def oth (S : List Nat) (η : Nat → Option Nat) (k : Nat × Nat) (s : Nat) (A : Nat → Bool) : Bool := ((shows S η k).filter fun c => decide (c ≠ s)).any A
theorem oth_false (hs : s ∈ shows S η q.1) {A : Nat → Bool} (h : oth S η q.1 s A = false) (h1 : A s = true) : ∀ c ∈ shows S η q.1, A c = decide (c = s) := fun c hc => by
  by_cases d : c = s
  · rw [d, h1, decide_eq_true rfl]
  · rw [decide_eq_false d]
    cases z : A c with
    | false => rfl
    | true =>
      have : oth S η q.1 s A = true := List.any_eq_true.mpr ⟨c, List.mem_filter.mpr ⟨hc, decide_eq_true d⟩, z⟩
      rw [h] at this
      cases this
theorem UseR.bar (u : UseR S η l need q s lo hi) (hl : (l.map Prod.fst).Nodup) (hq : q ∈ l) (hs : s ∈ shows S η q.1) (h0 : ∀ A, 0 ≤ slk S η l need A) {n : Nat} (hn : lo = (n : Int)) (hle : n ≤ q.2) (A : Nat → Bool) :
    - slk S η (setC l q.1 n) need A ≤ (((q.2 : Nat) : Int) - n) * (if oth S η q.1 s A then 1 else 0) := by
  rw [slk_bar hl hq]
  have := h0 A
  by_cases a : oth S η q.1 s A = true
  · rw [if_pos a]
    split <;> omega
  · rw [if_neg a]
    by_cases b : A s = true
    · rw [if_pos (any_s hs b)]
      have := u.lo1 A (oth_false hs (Bool.not_eq_true _ |>.mp a) b)
      omega
    · rw [if_neg]
      · omega
      · intro z
        obtain ⟨c, hc, e⟩ := List.any_eq_true.mp z
        refine a (List.any_eq_true.mpr ⟨c, List.mem_filter.mpr ⟨hc, decide_eq_true fun d => b (d ▸ e)⟩, e⟩)
theorem UseR.less (u : UseR S η l need q s lo hi) (hl : (l.map Prod.fst).Nodup) (hq : q ∈ l) (hs : s ∈ shows S η q.1) {n : Nat} (hn : lo - 1 = (n : Int)) :
    ∃ A, (((q.2 : Nat) : Int) - n) * (if oth S η q.1 s A then 1 else 0) < - slk S η (setC l q.1 n) need A := by
  rcases u.lo2 with e | ⟨A, hA, e⟩
  · omega
  · refine ⟨A, ?_⟩
    have a1 : A s = true := by rw [hA s hs]; exact decide_eq_true rfl
    have o : oth S η q.1 s A = false := by
      cases z : oth S η q.1 s A with
      | false => rfl
      | true =>
        obtain ⟨c, hc, e⟩ := List.any_eq_true.mp z
        obtain ⟨h1, h2⟩ := List.mem_filter.mp hc
        rw [hA c h1] at e
        exact absurd (of_decide_eq_true e) (of_decide_eq_true h2)
    rw [slk_bar hl hq, if_pos (any_s hs a1), o, if_neg (by decide)]
    omega
end
end P38

set_option Elab.async false
set_option linter.all false
set_option maxRecDepth 100000
set_option maxHeartbeats 4000000
namespace P38
/-! all sets of signs, as the law lists them -/
theorem snoc_ind {P : List Nat → Prop} (h0 : P []) (h1 : ∀ S c, P S → P (S ++ [c])) (S : List Nat) : P S := by
  rw [← List.reverse_reverse S]
  induction S.reverse with
  | nil => exact h0
  | cons a l ih => rw [List.reverse_cons]; exact h1 _ _ ih
def subL (S : List Nat) : List (List Nat) := S.foldl (fun f c => f ++ f.map (· ++ [c])) [[]]
theorem subL_nil : subL [] = [[]] := rfl
theorem subL_snoc (S : List Nat) (c : Nat) : subL (S ++ [c]) = subL S ++ (subL S).map (· ++ [c]) := by
  unfold subL
  rw [List.foldl_append]
  rfl
theorem subL_len (S : List Nat) : (subL S).length = 2 ^ S.length := by
  induction S using snoc_ind with
  | h0 => rfl
  | h1 S c ih => rw [subL_snoc, List.length_append, List.length_map, ih, List.length_append, List.length_singleton, Nat.pow_succ]; omega
theorem subL_sub (S : List Nat) : ∀ s ∈ subL S, s.Sublist S := by
  induction S using snoc_ind with
  | h0 => intro s h; rw [subL_nil, List.mem_singleton] at h; rw [h]; exact List.nil_sublist _
  | h1 S c ih =>
    intro s h
    rw [subL_snoc] at h
    rcases List.mem_append.mp h with h | h
    · exact (ih s h).trans (List.sublist_append_left _ _)
    · obtain ⟨t, ht, rfl⟩ := List.mem_map.mp h
      exact (ih t ht).append (List.Sublist.refl _)
theorem subL_filter (A : Nat → Bool) (S : List Nat) : S.filter A ∈ subL S := by
  induction S using snoc_ind with
  | h0 => exact List.mem_singleton.mpr rfl
  | h1 S c ih =>
    rw [subL_snoc, List.filter_append]
    cases h : A c with
    | false =>
      have : [c].filter A = [] := by rw [List.filter_cons, h]; rfl
      rw [this, List.append_nil]
      exact List.mem_append_left _ ih
    | true =>
      have : [c].filter A = [c] := by rw [List.filter_cons, h]; rfl
      rw [this]
      exact List.mem_append_right _ (List.mem_map.mpr ⟨_, ih, rfl⟩)
theorem subL_nd (S : List Nat) : S.Nodup → (subL S).Nodup := by
  induction S using snoc_ind with
  | h0 => intro _; exact List.nodup_cons.mpr ⟨(by intro h; cases h), List.nodup_nil⟩
  | h1 S c ih =>
    intro nd
    have nd1 := List.nodup_append.mp nd
    have hS := ih nd1.1
    have nc : c ∉ S := fun h => nd1.2.2 c h c (List.mem_singleton.mpr rfl) rfl
    rw [subL_snoc]
    refine List.nodup_append.mpr ⟨hS, ?_, fun a ha b hb e => ?_⟩
    · refine List.Pairwise.map _ (fun a b n e => n ?_) hS
      exact List.append_cancel_right e
    · obtain ⟨t, ht, rfl⟩ := List.mem_map.mp hb
      exact nc ((subL_sub S a ha).subset (by rw [e]; exact List.mem_append_right _ (List.mem_singleton.mpr rfl)))
abbrev inL (s : List Nat) : Nat → Bool := fun c => decide (c ∈ s)
theorem want_sub {need : Nat → Int} : ∀ {S s : List Nat}, S.Nodup → s.Sublist S → want S need (inL s) = (s.map need).sum
  | _, _, _, .slnil => rfl
  | a :: S, s, nd, .cons _ h => by
    have nd2 := List.nodup_cons.mp nd
    have ih := want_sub (need := need) nd2.2 h
    have : inL s a = false := decide_eq_false fun z => nd2.1 (h.subset z)
    unfold want at ih ⊢
    rw [List.map_cons, List.sum_cons, ih, this, if_neg (by decide)]
    omega
  | _ :: S, b :: s, nd, .cons_cons _ h => by
    have nd2 := List.nodup_cons.mp nd
    have ih := want_sub (need := need) nd2.2 h
    unfold want at ih ⊢
    rw [List.map_cons, List.sum_cons, List.map_cons, List.sum_cons, if_pos (decide_eq_true List.mem_cons_self), ← ih]
    congr 2
    refine List.map_congr_left fun c hc => ?_
    have : inL (b :: s) c = inL s c := by
      show decide _ = decide _
      rw [decide_eq_decide, List.mem_cons]
      exact ⟨fun z => z.resolve_left fun e => nd2.1 (by rw [← e]; exact hc), .inr⟩
    rw [this]
theorem bear_filter {S : List Nat} {η : Nat → Option Nat} (A : Nat → Bool) : ∀ l : Stock, bear S η l A = ((l.filter fun q => (shows S η q.1).any A).map fun q => ((q.2 : Nat) : Int)).sum
  | [] => rfl
  | p :: l => by
    have ih := bear_filter (S := S) (η := η) A l
    unfold bear at ih ⊢
    rw [List.map_cons, List.sum_cons, ih, List.filter_cons]
    split
    · rw [List.map_cons, List.sum_cons]
    · omega
theorem any_filter {L s : List Nat} : (!(L.filter fun c => decide (c ∈ s)).isEmpty) = L.any (inL s) := by
  rw [Bool.eq_iff_iff, List.any_eq_true, Bool.not_eq_true', ← Bool.not_eq_true, List.isEmpty_iff]
  constructor
  · intro h
    obtain ⟨c, hc⟩ := List.exists_mem_of_ne_nil _ h
    obtain ⟨h1, h2⟩ := List.mem_filter.mp hc
    exact ⟨c, h1, h2⟩
  · rintro ⟨c, h1, h2⟩ e
    have : c ∈ L.filter fun c => decide (c ∈ s) := List.mem_filter.mpr ⟨h1, h2⟩
    rw [e] at this
    cases this
theorem mem_filter_congr {S : List Nat} {A : Nat → Bool} : ∀ c ∈ S, inL (S.filter A) c = A c := fun c hc => by
  show decide _ = _
  rw [Bool.eq_iff_iff, decide_eq_true_iff, List.mem_filter]
  exact ⟨fun h => h.2, fun h => ⟨hc, h⟩⟩
end P38

set_option Elab.async false
set_option linter.all false
set_option maxRecDepth 100000
set_option maxHeartbeats 4000000
namespace P38
open PySem PySem.Spec PyProof.Rows L2 Evl
section
variable {X : Cx} {CX : CXT} {k : Nat} {f : Addr} {sp : Sp} {E : XK} {x : Str} {e : Expr} {es : List Expr} {t : TA} {p pos : Pos}
/-- x(e, ..) by a promise about values -/
theorem pe_callN (F : FnR X.prog X.w X.K X.mg X.base CX k f sp) (hr : Room k X.A) (hg : Gl X x) (hm : X.mg x = some (.ref f)) (hk : PySem.W.keepIn X.K (.ref f) = true) (hx : Passes CX X E) (ha : PA X (e :: es) t)
    (hdb : (x == ("__debug__" : Str)) = false := by decide) (he : starEach (e :: es) X.env = (false, eval e X.env) :: starEach es X.env := by rfl) (hpl : (backTo pos (starEach es X.env)).any (·.1) = false := by rfl) :
    PE X (.Call (.Name x p) (e :: es) [] pos) (tCall sp [] E t) := ⟨fun pins s σ H Q I h => by
  refine wpAny_Call_Name_kw (ld_glob I hg hm ?_ hdb)
  refine PySem.W.callWith_K (h₀ := X.base) I.ok.mod.kin hk (thn (ha.run pos pins s σ H _ I h) fun us s1 r1 => ?_) he hpl
  obtain ⟨vs, H1, I1, r, q⟩ := r1
  rw [List.append_nil] at q
  exact ⟨I1.kIn, wpAny_call (run_fnR F hr hx I1 r q)⟩⟩
end
section
variable {K : PySem.W.Frag} {σ : L2.St} {H H' : Hp} {ta tb tc te tl td : TE} {t : TT} {g : TG} {x y z v : V}
theorem ev_maxN {a : Addr} {ns : List Int} {m : Int} (h : Ev te σ H (.ref a)) (hs : SqL K H a (ns.map V.int)) (hm : m ∈ ns) (hy : ∀ y ∈ ns, y ≤ m) : Ev (tCB (rMax K) (tCons te tNil)) σ H (.int m) := fun H1 e Q q =>
  h H1 e _ fun H2 e2 => ⟨a, ns, rfl, ex_l (e.trans e2) hs, List.length_pos_of_mem hm, fun m' h1 h2 => by rw [Int.le_antisymm (hy m' h1) (h2 m hm)]; exact q H2 e2⟩
theorem ev_minN {a : Addr} {ns : List Int} {m : Int} (h : Ev te σ H (.ref a)) (hs : SqL K H a (ns.map V.int)) (hm : m ∈ ns) (hy : ∀ y ∈ ns, m ≤ y) : Ev (tCB (rMin K) (tCons te tNil)) σ H (.int m) := fun H1 e Q q =>
  h H1 e _ fun H2 e2 => ⟨a, ns, rfl, ex_l (e.trans e2) hs, List.length_pos_of_mem hm, fun m' h1 h2 => by rw [Int.le_antisymm (h2 m hm) (hy m' h1)]; exact q H2 e2⟩
/-- min(ns, default=None) -/
def LeastOf (ns : List Int) (z : V) : Prop := (ns = [] ∧ z = .non) ∨ ∃ m, z = .int m ∧ m ∈ ns ∧ ∀ y ∈ ns, m ≤ y
theorem has_least (ns : List Int) : ∃ z, LeastOf ns z := by
  cases ns with
  | nil => exact ⟨_, .inl ⟨rfl, rfl⟩⟩
  | cons a r =>
    obtain ⟨m, h1, h2⟩ := has_min (ns := a :: r) (List.cons_ne_nil _ _)
    exact ⟨_, .inr ⟨m, rfl, h1, h2⟩⟩
theorem ev_minD {a : Addr} {ns : List Int} (h : Ev te σ H (.ref a)) (hs : SqL K H a (ns.map V.int)) (hz : LeastOf ns z) : Ev (tCKw (rMinD K) (tCons te tNil) (tCons (tC .non) tNil)) σ H z := fun H1 e Q q =>
  h H1 e _ fun H2 e2 => by
    refine ⟨a, ns, rfl, rfl, ex_l (e.trans e2) hs, fun e0 => ?_, fun m' h1 h2 => ?_⟩
    · rcases hz with ⟨_, rfl⟩ | ⟨m, _, hm, _⟩
      · exact q H2 e2
      · rw [e0] at hm; cases hm
    · rcases hz with ⟨e0, _⟩ | ⟨m, rfl, hm, hy⟩
      · rw [e0] at h1; cases h1
      · rw [Int.le_antisymm (h2 m hm) (hy m' h1)]; exact q H2 e2
theorem ev_neO {C p dx : Addr} {fs : List (Str × V)} {sp : Sp} {E : XK} (ha : Ev ta σ H (.ref p)) (hb : Ev tb σ H (.ref p)) (hp : H p = some (.ins C dx fs)) (hs : SpV sp [.ref p, .ref p] H (.bl true)) : Ev (tOp (rNeO C sp E) ta tb) σ H (.bl false) := fun H1 e Q q =>
  ha H1 e _ fun H2 e2 => hb H2 (e.trans e2) _ fun H3 e3 => ⟨p, p, dx, dx, fs, fs, rfl, rfl, e3 _ _ (e2 _ _ (e _ _ hp)), e3 _ _ (e2 _ _ (e _ _ hp)), hs H3 ((e.trans e2).trans e3) _ (fun H4 e4 => ⟨true, rfl, q H4 ((e2.trans e3).trans e4)⟩) E⟩
/-- what enumerate gives, over numbers -/
theorem ew_enumI {a : Addr} {n : Nat} {f : Nat → Int} {ta : TA} (h : EvA ta σ H [.ref a]) (hx : SqL K H a (numsL n f)) : EvW (iEnum K ta) σ H n (fun i H v H' => ∃ t, v = .ref t ∧ H t = none ∧ H' = upd H t (.tup [.int ((i : Nat) : Int), .int (f i)])) := fun H1 e R q => by
  have w := ew_enum h hx H1 e R
  rw [nums_len] at w
  refine w fun J G H2 e2 wk hG => q J G H2 e2 (wk.mono (fun _ g => g) fun i H x H' hi _ y => ?_) hG
  obtain ⟨t, u, w, rfl, ht, rfl, hu, hw⟩ := y
  obtain rfl : V.int ((i : Nat) : Int) = u := Option.some.inj hu
  have hw : (numsL n f)[i]? = some w := hw
  rw [nums_at f hi] at hw
  obtain rfl := Option.some.inj hw
  exact ⟨t, rfl, ht, rfl⟩
end
def sp_slacks (K : PySem.W.Frag) : Sp := pspL fun vs zs H => ∃ p v a S η l need, vs = [.ref p, v, .ref a] ∧ FontAt K H p S η ∧ SOk S ∧ StOk S l ∧ RowsL (row3 S η) l v H ∧ (∀ c ∈ S, (need c).natAbs ≤ 2 ^ 110) ∧ SqL K H a (S.map fun c => V.int (need c)) ∧ zs = numsL (2 ^ S.length) fun m => slk S η l need (inM S m)
theorem ok_slacks {P : Program} {w : World} {K : PySem.W.Frag} {mg : Str → Option Value} {base : Heap} (T : Tx K mg) : FnOk P w K mg base CX0 5 (f_slacks K) (fdOf K (f_slacks K)) ["font", "stock", "amounts"] (sp_slacks K) := by
  refine T.d_slacks.ok sc_slacks (fun vs H Q E h => by obtain ⟨zs, ⟨p, v, a, S, η, l, need, rfl, hf, hS, hl, hv, hb, ha, rfl⟩, k⟩ := h; rfl) (fun cdv A outer s H vs Q E hr h => ?_)
  obtain ⟨zs, ⟨p, v, a, S, η, l, need, rfl, hf, hS, hl, hv, hb, ha, rfl⟩, k⟩ := h
  refine ⟨_, PSs.nox (pss_one (ps_ret (pe_lc (own := [("much", 3), ("less", 4)]) rfl sc_slacks.nd (pi_zip (by rfl) (by exact T.z_zip) (pa_cons (pe_call (ok_bearings_of T) (by exact hr.mono (by first | decide | omega)) (by rfl) (by exact T.m_bearings_of) (by exact T.d_bearings_of.kp) (bn_bearings_of T) .nil pass0 (pa_cons (pv 0) (pa_cons (pv 1) pa_nil))) (pa_cons (pe_call (ok_wants_by_mask T) (by exact hr.mono (by first | decide | omega)) (by rfl) (by exact T.m_wants_by_mask) (by exact T.d_wants_by_mask.kp) (bn_wants_by_mask T) .nil pass0 (pa_cons (pv 0) (pa_cons (pv 2) pa_nil))) pa_nil))) (blkOk_by (own := [("much", 3), ("less", 4)]) (N := ["font", "stock", "amounts", "much", "less"]) (sc := (defScope s_slacks)) (by decide +kernel)) (fun _ _ _ _ _ => pg_tupK (K := K) rfl (n := 2) (by rfl) (pgs_cons (pg_name (i := 3) sc_slacks.nd rfl (by first | exact Or.inl rfl | exact Or.inr rfl)) (pgs_cons (pg_name (i := 4) sc_slacks.nd rfl (by first | exact Or.inl rfl | exact Or.inr rfl)) pgs_nil))) (fun _ _ _ _ _ => pts_nil) (fun _ _ _ _ _ => pe_op op_sub (pv 3) (pv 4))))), ?_⟩
  have h64 := two_pow6 hS.most
  refine s_retL (xs := numsL (2 ^ S.length) fun m => slk S η l need (inM S m)) ?_ k
  have hw := ew_zipL (K := K) (σ := L2.start ["font", "stock", "amounts", "much", "less"] [V.ref p, v, V.ref a]) (H := H) (ta := tCall (sp_bearings_of K) [] E0 (tCons (tVar 0) (tCons (tVar 1) tNil))) (tb := tCall (sp_wants_by_mask K) [] E0 (tCons (tVar 0) (tCons (tVar 2) tNil)))
    (el_call (ea_cons (ev_var rfl) (ea_cons (ev_var rfl) ea_nil)) (pspL_v fun H1 e => ⟨p, v, S, η, l, rfl, hf.up e, hS, hl, hv.up e, rfl⟩))
    (fun H1 e => el_call (ea_cons (ev_var rfl) (ea_cons (ev_var rfl) ea_nil)) (pspL_v fun H2 e2 => ⟨p, a, S, η, need, rfl, (hf.up e).up e2, hS, hb, ex_l (e.trans e2) ha, rfl⟩))
    (n := 2 ^ S.length) (by rw [nums_len, nums_len, Nat.min_self])
  have ft : (List.range (2 ^ S.length)).filter (fun _ => true) = List.range (2 ^ S.length) := List.filter_eq_self.mpr fun _ _ => rfl
  have h := el_lcA (L := List.range (2 ^ S.length)) (t := tYes) (te := tOp (rI0 fun i j => .int (i - j)) (tVar 3) (tVar 4)) (g := gTup K 2 (gCons (gName 3) (gCons (gName 4) gNil))) (vs := [3, 4]) (fun _ => true) (fun m => V.int (slk S η l need (inM S m))) hw (by rw [List.length_range]) (by omega) fun i m x H1 H2 hm e y => ?_
  · rw [ft] at h
    exact h
  · obtain ⟨t, u, w, rfl, ht, rfl, hu, hw⟩ := y
    have hi : i < 2 ^ S.length := by
      have := (List.getElem?_eq_some_iff.mp hm).1
      rwa [List.length_range] at this
    obtain rfl : i = m := by
      rw [List.getElem?_range hi] at hm
      exact Option.some.inj hm
    have hu : (numsL (2 ^ S.length) fun m => bear S η l (inM S m))[i]? = some u := hu
    have hw : (numsL (2 ^ S.length) fun m => want S need (inM S m))[i]? = some w := hw
    rw [nums_at _ hi] at hu hw
    obtain rfl := Option.some.inj hu
    obtain rfl := Option.some.inj hw
    exact ⟨_, Ex.new ht, fun Q q => ⟨t, _, rfl, st_of upd_same, rfl, _, _, rfl, _, _, rfl, rfl, q⟩, rfl, et_yes, fun _ => ev_op (ev_var rfl) (ev_var rfl) rv_I0⟩
def sp_slacks_of (K : PySem.W.Frag) : Sp := pspL fun vs zs H => ∃ c w f S η l need, vs = [.ref c, .ref w] ∧ CaseAt K H c f S η l ∧ WantsAt K H w f S η need ∧ SOk S ∧ StOk S l ∧ (∀ c ∈ S, (need c).natAbs ≤ 2 ^ 110) ∧ zs = numsL (2 ^ S.length) fun m => slk S η l need (inM S m)
theorem ok_slacks_of {P : Program} {w : World} {K : PySem.W.Frag} {mg : Str → Option Value} {base : Heap} (T : Tx K mg) : FnOk P w K mg base CX0 6 (f_slacks_of K) (fdOf K (f_slacks_of K)) ["case", "wants"] (sp_slacks_of K) := by
  refine T.d_slacks_of.ok sc_slacks_of (fun vs H Q E h => by obtain ⟨zs, ⟨c, w, f, S, η, l, need, rfl, hc, hw, hS, hl, hb, rfl⟩, k⟩ := h; rfl) (fun cdv A outer s H vs Q E hr h => ?_)
  obtain ⟨zs, ⟨c, w, f, S, η, l, need, rfl, hc, hw, hS, hl, hb, rfl⟩, k⟩ := h
  refine ⟨_, PSs.nox (pss_one (ps_ret (pe_call (ok_slacks T) (by exact hr.mono (by first | decide | omega)) (by rfl) (by exact T.m_slacks) (by exact T.d_slacks.kp) (bn_slacks T) .nil pass0 (pa_cons (pe_prop (pv 0) T.cl_Case T.p_Case_font (ok_Pile_font T) (by exact hr.mono (by first | decide | omega)) (bn_Pile_font T) .nil pass0 (by rfl)) (pa_cons (pe_call (ok_stock_of T) (by exact hr.mono (by first | decide | omega)) (by rfl) (by exact T.m_stock_of) (by exact T.d_stock_of.kp) (bn_stock_of T) .nil pass0 (pa_cons (pv 0) pa_nil)) (pa_cons (pe_call (ok_amounts_of T) (by exact hr.mono (by first | decide | omega)) (by rfl) (by exact T.m_amounts_of) (by exact T.d_amounts_of.kp) (bn_amounts_of T) .nil pass0 (pa_cons (pv 1) pa_nil)) pa_nil)))))), ?_⟩
  refine s_retL (xs := numsL (2 ^ S.length) fun m => slk S η l need (inM S m)) ?_ k
  intro H0 e0 Q q
  refine ev_pfont (hc.up e0) (ev_var rfl) H0 (Ex.refl _) _ fun H1 e1 => ?_
  refine ep_call (R := RowsL (row3 S η) l) (ea_cons (ev_var rfl) ea_nil) (pspX_v fun H2 e2 => ⟨c, f, S, η, l, rfl, ((hc.up e0).up e1).up e2, hS, hl.len, rfl⟩) H1 (Ex.refl _) _ fun v H2 e2 r => ?_
  refine el_call (xs := S.map fun c => V.int (need c)) (ea_cons (ev_var rfl) ea_nil) (pspL_v fun H3 e3 => ⟨w, f, S, η, need, rfl, (((hw.up e0).up e1).up e2).up e3, hS, rfl⟩) H2 (Ex.refl _) _ fun a H3 ha e3 h3 => ?_
  have e13 := (e1.trans e2).trans e3
  exact ⟨_, ⟨f, v, a, S, η, l, need, rfl, ((hc.font.up e0).up e13), hS, hl, r.up e3, hb, sq_of h3, rfl⟩, fun p H4 hp e4 h4 => q p H4 (fresh_back e13 hp) (e13.trans e4) h4⟩
theorem v_slacks_of {K : PySem.W.Frag} {H : Hp} {c w f : Addr} {S : List Nat} {η : Nat → Option Nat} {l : Stock} {need : Nat → Int} (hc : CaseAt K H c f S η l) (hw : WantsAt K H w f S η need) (hS : SOk S) (hl : StOk S l) (hb : ∀ c ∈ S, (need c).natAbs ≤ 2 ^ 110) :
    SpL (sp_slacks_of K) [.ref c, .ref w] H (numsL (2 ^ S.length) fun m => slk S η l need (inM S m)) := pspL_v fun H1 e => ⟨c, w, f, S, η, l, need, rfl, hc.up e, hw.up e, hS, hl, hb, rfl⟩
def sp_need_hanging (K : PySem.W.Frag) : Sp := psp fun vs z H => ∃ c w f S η l need, vs = [.ref c, .ref w] ∧ CaseAt K H c f S η l ∧ WantsAt K H w f S η need ∧ SOk S ∧ StOk S l ∧ (∀ c ∈ S, (need c).natAbs ≤ 2 ^ 110) ∧ (∀ A, 0 ≤ slk S η l need A) ∧ z = .non
theorem ok_need_hanging {P : Program} {w : World} {K : PySem.W.Frag} {mg : Str → Option Value} {base : Heap} (T : Tx K mg) : FnOk P w K mg base CX0 7 (f_need_hanging K) (fdOf K (f_need_hanging K)) ["case", "wants"] (sp_need_hanging K) := by
  refine T.d_need_hanging.ok sc_need_hanging (fun vs H Q E h => by obtain ⟨z, ⟨c, w, f, S, η, l, need, rfl, hc, hw, hS, hl, hb, h0, rfl⟩, k⟩ := h; rfl) (fun cdv A outer s H vs Q E hr h => ?_)
  obtain ⟨z, ⟨c, w, f, S, η, l, need, rfl, hc, hw, hS, hl, hb, h0, rfl⟩, k⟩ := h
  refine ⟨_, PSs.nox (pss_cons (ps_set (i := 2) sc_need_hanging.nd rfl (by first | exact Or.inl rfl | exact Or.inr rfl) (pe_call (ok_slacks_of T) (by exact hr.mono (by first | decide | omega)) (by rfl) (by exact T.m_slacks_of) (by exact T.d_slacks_of.kp) (bn_slacks_of T) .nil pass0 (pa_cons (pv 0) (pa_cons (pv 1) pa_nil)))) (
pss_one (ps_if (pt_cmpR op_lt (pe_callB (cr_min rfl) (by rfl) (by exact T.z_min) bt_min (pa_cons (pv 2) pa_nil)) pe_int (nomark _)) (pss_one ps_never) pss_nil))), ?_⟩
  refine q_asgL (el_call (ea_cons (ev_var rfl) (ea_cons (ev_var rfl) ea_nil)) (v_slacks_of hc hw hS hl hb)) fun p H1 hp e h1 => ?_
  have hp : 0 < 2 ^ S.length := Nat.two_pow_pos _
  obtain ⟨m, hm, hy⟩ := has_min (ns := (List.range (2 ^ S.length)).map fun m => slk S η l need (inM S m)) (fun e => by
    have := congrArg List.length e
    rw [List.length_map, List.length_range] at this
    rw [this] at hp
    exact absurd hp (by decide))
  obtain ⟨m', _, rfl⟩ := List.mem_map.mp hm
  refine s_if (b := false) (et_is (et_test (ev_op (ev_minN (ev_var rfl) (sq_of (by rw [List.map_map]; exact h1)) hm hy) ev_c rv_I0)) (decide_eq_false (by have := h0 (inM S m'); omega))) (fun e => nomatch e) fun _ H2 e2 => k H2 (e.trans e2)
def sp_most_here (K : PySem.W.Frag) : Sp := psp fun vs z H => ∃ a n f s t, vs = [.ref a, .int ((s : Nat) : Int), .int ((t : Nat) : Int)] ∧ SqL K H a (numsL n f) ∧ n ≤ 64 ∧ LeastOf (((List.range n).filter fun m => !decide (m &&& s = 0) && !m.testBit t).map f) z
theorem ok_most_here {P : Program} {w : World} {K : PySem.W.Frag} {mg : Str → Option Value} {base : Heap} (T : Tx K mg) : FnOk P w K mg base CX0 1 (f_most_here K) (fdOf K (f_most_here K)) ["numbers", "shown", "at"] (sp_most_here K) := by
  refine T.d_most_here.ok sc_most_here (fun vs H Q E h => by obtain ⟨z, ⟨a, n, f, sh, at_, rfl, ha, hn, hz⟩, k⟩ := h; rfl) (fun cdv A outer s H vs Q E hr h => ?_)
  obtain ⟨z, ⟨a, n, f, sh, at_, rfl, ha, hn, hz⟩, k⟩ := h
  refine ⟨_, PSs.nox (pss_cons (ps_setLc (i := 3) (own := [("mask", 4), ("number", 5)]) rfl sc_most_here.nd rfl rfl (sw_true rfl rfl rfl (by decide +kernel)) (pi_enum (by rfl) (by exact T.z_enumerate) (pa_cons (pv 0) pa_nil)) (blkOk_by (own := [("mask", 4), ("number", 5)]) (N := ["numbers", "shown", "at", "some", "mask", "number"]) (sc := (defScope s_most_here)) (by decide +kernel)) (fun _ _ _ _ _ => pg_tupK (K := K) rfl (n := 2) (by rfl) (pgs_cons (pg_name (i := 4) sc_most_here.nd rfl (by first | exact Or.inl rfl | exact Or.inr rfl)) (pgs_cons (pg_name (i := 5) sc_most_here.nd rfl (by first | exact Or.inl rfl | exact Or.inr rfl)) pgs_nil))) (fun _ _ _ _ _ => pts_one (PW.pt (pw_and (pt_cmpR op_ne (pe_op op_and (pv 4) (pv 1)) pe_int (nomark _)) (pw_and1 (pt_cmpR op_eq (pe_op op_and (pe_op op_shr (pv 4) (pv 2)) pe_int) pe_int (nomark _)))))) (fun _ _ _ _ _ => pv 5)) (
pss_one (ps_ret (pe_callBK (cr_minD rfl) (by rfl) (by exact T.z_min) bt_min (pa_cons (pv 3) pa_nil) (pk_cons pe_non pk_nil))))), ?_⟩
  refine q_asgL (xs := (((List.range n).filter fun m => !decide (m &&& sh = 0) && !m.testBit at_).map fun m => V.int (f m))) (el_lcA (L := List.range n) _ _ (ew_enumI (ea_cons (ev_var rfl) ea_nil) ha) (by rw [List.length_range]) (by omega) fun i m x H1 H2 hm e y => ?_) fun p H1 hp e h1 => s_ret (ev_minD (ev_var rfl) (sq_of (by rw [List.map_map]; exact h1)) hz) fun H2 e2 => k H2 (e.trans e2)
  obtain ⟨t, rfl, ht, rfl⟩ := y
  have hi : i < n := by
    have := (List.getElem?_eq_some_iff.mp hm).1
    rwa [List.length_range] at this
  obtain rfl : i = m := by
    rw [List.getElem?_range hi] at hm
    exact Option.some.inj hm
  refine ⟨_, Ex.new ht, fun Q q => ⟨t, _, rfl, st_of upd_same, rfl, _, _, rfl, _, _, rfl, rfl, q⟩, rfl, et_and (et_test ?_) fun _ => et_is (b := !i.testBit at_) (et_test ?_) rfl, fun _ => ev_var rfl⟩
  · refine ev_is (ev_op (ev_is (ev_op (ev_var rfl) (ev_var rfl) rv_I0) (by rw [and_val])) ev_c (rv_ne rfl)) ?_
    by_cases c : i &&& sh = 0
    · rw [c, decide_eq_true rfl]; rfl
    · rw [decide_eq_false c, decide_eq_false fun z => c (by have := V.int.inj z; omega)]
  · refine ev_is (ev_op (x := .int (if i.testBit at_ then 1 else 0)) (ev_is (ev_op (ev_op (ev_var rfl) (ev_var rfl) (rv_I (Int.natCast_nonneg _))) ev_c rv_I0) (by rw [bit_val])) ev_c (rv_eq rfl)) ?_
    cases i.testBit at_ <;> rfl
end P38

set_option Elab.async false
set_option linter.all false
set_option maxRecDepth 100000
set_option maxHeartbeats 4000000
namespace P38
open PySem PySem.Spec PyProof.Rows L2 Evl
def sp_one_font (K : PySem.W.Frag) : Sp := psp fun vs z H => ∃ c w f S η l need, vs = [.ref c, .ref w] ∧ CaseAt K H c f S η l ∧ WantsAt K H w f S η need ∧ z = .non
theorem ok_need_one_font {P : Program} {w : World} {K : PySem.W.Frag} {mg : Str → Option Value} {base : Heap} (T : Tx K mg) : FnR P w K mg base CX0 6 (f_need_one_font K) (sp_one_font K) := by
  obtain ⟨oc, od, dV, kV, doc, pm, an, cdv, ct, osl, e, lk, hcd, hD, hK⟩ := T.d_need_one_font.ex
  rw [e] at lk
  have hb : ∀ us rest : List Value, us.length = [("one" : Str)].length → bindArgs (PySem.W.fnOf "need_one_font" "need_one_font" (defArgs s_need_one_font) (defBody s_need_one_font) (defScope s_need_one_font) dV kV doc pm an cdv ct) ⟨us ++ rest, []⟩ = (newTuple rest >>= fun t => pure ([("one" : Str)].zip us ++ [(("others" : Str), t)])) := by
    rcases hD with ⟨_, rfl⟩ | ⟨e, _⟩
    · exact StX.bind_star1 (B := fun us => bindArgs (PySem.W.fnOf "need_one_font" "need_one_font" (defArgs s_need_one_font) (defBody s_need_one_font) (defScope s_need_one_font) .none kV doc pm an cdv ct) ⟨us, []⟩) (p1 := "one") (pv := "others") (fun a => rfl) fun a r rs => rfl
    · exact absurd rfl e
  have F := StX.fn_star (P := P) (w := w) (mg := mg) (base := base) (CX := CX0) (N := ["one", "others", "other"]) (ps := ["one"]) (pv := "others") (k := 5)
    (sp := fun vs H Q _ => ∃ c w f S η l need p, vs = [.ref c, .ref p] ∧ H p = some (.tup [.ref w]) ∧ CaseAt K H c f S η l ∧ WantsAt K H w f S η need ∧ ∀ H', Ex H H' → Q .non H')
    lk hcd sc_need_one_font StX.cxUp_none hb fun A outer s H vs Q E hr h => ?_
  · refine F.imp fun vs H Q E h => ?_
    obtain ⟨z, ⟨c, w, f, S, η, l, need, rfl, hc, hw, rfl⟩, k⟩ := h
    refine ⟨[.ref c], [.ref w], rfl, rfl, by show 1 ≤ sizeLine; decide, fun p hp => ⟨c, w, f, S, η, l, need, p, rfl, upd_same, hc.up (Ex.new hp), hw.up (Ex.new hp), fun H' e => k H' ((Ex.new hp).trans e)⟩⟩
  · obtain ⟨c, w, f, S, η, l, need, p, rfl, hp, hc, hw, k⟩ := h
    refine ⟨_, PSs.nox (pss_one (ps_for PassesOwn.never rfl (pi_tup (pv 1)) (pg_name (i := 2) sc_need_one_font.nd rfl (by first | exact Or.inl rfl | exact Or.inr rfl)) (
pss_one (ps_if (pt_cmpR (op_neO (ok_Font_eq T) (by exact hr.mono (by first | decide | omega)) (bn_Font_eq T) pass0 T.ne_Font T.eq_Font T.eqf_Font T.obj_Font) (pe_prop (pv 2) T.cl_Wants T.p_Wants_font (ok_Wants_font T) (by exact hr.mono (by first | decide | omega)) (bn_Wants_font T) .nil pass0 (by rfl)) (pe_prop (pv 0) T.cl_Case T.p_Case_font (ok_Pile_font T) (by exact hr.mono (by first | decide | omega)) (bn_Pile_font T) .nil pass0 (by rfl)) (nomark _)) (pss_one ps_never) pss_nil)))), ?_⟩
    let Pv : Nat → L2.St → Hp → Prop := fun i σ' H' => (∃ u, σ' = [some (.ref c), some (.ref p), u]) ∧ Ex H H'
    refine s_for (eg_tup (ev_var rfl) (st_of hp)) Pv (fun H1 e => ⟨⟨none, rfl⟩, e⟩) (fun i σ' H' _ c => st_of (c.2 _ _ hp)) (fun i x σ' H1 H2 hi c y => ?_) fun σ' H' c => k H' c.2
    obtain ⟨⟨u, rfl⟩, e⟩ := c
    obtain ⟨rfl, hx⟩ := y
    have hi : i = 0 := by
      have : i < 1 := hi
      omega
    subst hi
    obtain rfl : V.ref w = x := Option.some.inj hx
    obtain ⟨dx, r, hd, kvs, h1, _⟩ := id (hc.font.up e).ex
    refine s_if (b := false) (et_test (ev_neO (ev_qfont (hw.up e) (ev_var rfl)) (ev_pfont (hc.up e) (ev_var rfl)) h1 (v_Font_eq (hc.font.up e)))) (fun e => nomatch e) fun _ H3 e3 => ⟨⟨_, rfl⟩, e.trans e3⟩
theorem v_one_font {K : PySem.W.Frag} {H : Hp} {c w f : Addr} {S : List Nat} {η : Nat → Option Nat} {l : Stock} {need : Nat → Int} (hc : CaseAt K H c f S η l) (hw : WantsAt K H w f S η need) : SpV (sp_one_font K) [.ref c, .ref w] H .non := psp_v fun H1 e => ⟨c, w, f, S, η, l, need, rfl, hc.up e, hw.up e, rfl⟩
theorem q_tup3 {K : PySem.W.Frag} {σ : L2.St} {H : Hp} {ta tb tc : TE} {x y z : V} {D : Ends} {tz : TS} {i j m : Nat} (ha : Ev ta σ H x) (hb : Ev tb σ H y) (hc : Ev tc σ H z) (k : ∀ H1, Ex H H1 → tz D (((σ.set i (some x)).set j (some y)).set m (some z)) H1) :
    tSeq (tAsg (tTup (tCons ta (tCons tb (tCons tc tNil)))) (gTup K 3 (gCons (gName i) (gCons (gName j) (gCons (gName m) gNil))))) tz D σ H :=
  eu_tup (ea_cons ha (ea_cons hb (ea_cons hc ea_nil))) (by show 3 ≤ 100000; decide) H (Ex.refl _) (fun v H1 => gTup K 3 (gCons (gName i) (gCons (gName j) (gCons (gName m) gNil))) v σ H1 fun σ2 H2 => tz D σ2 H2) fun p H1 _ e h => ⟨p, _, rfl, st_of h, rfl, _, _, rfl, _, _, rfl, _, _, rfl, rfl, k H1 e⟩
theorem st_eq {t : TS} {D : Ends} {σ σ' : L2.St} {H : Hp} (e : σ = σ') (k : t D σ' H) : t D σ H := e ▸ k
theorem min3_is {a b m m' hi : Int} {L : List Int} (r1 : hi ≤ a) (r2 : hi ≤ b) (r3 : ∀ x ∈ L, hi ≤ x) (r4 : hi = a ∨ hi = b ∨ hi ∈ L) (hm : m ∈ L) (hy : ∀ y ∈ L, m ≤ y) (h1 : m' ∈ [a, b, m]) (h2 : ∀ y ∈ [a, b, m], m' ≤ y) : m' = hi := by
  have g1 := h2 a (by simp)
  have g2 := h2 b (by simp)
  have g3 := h2 m (by simp)
  have g4 := r3 m hm
  simp only [List.mem_cons, List.not_mem_nil, or_false] at h1
  rcases r4 with r4 | r4 | r4
  · rcases h1 with h1 | h1 | h1 <;> omega
  · rcases h1 with h1 | h1 | h1 <;> omega
  · have := hy _ r4
    rcases h1 with h1 | h1 | h1 <;> omega
theorem most_val {a b : Int} {L : List Int} {z : V} (hz : LeastOf L z) : ∃ hi : Int, (if decide (z = .non) = true then V.int (if b < a then b else a) else V.int hi) = V.int hi ∧ hi ≤ a ∧ hi ≤ b ∧ (∀ x ∈ L, hi ≤ x) ∧ (hi = a ∨ hi = b ∨ hi ∈ L) := by
  rcases hz with ⟨e0, rfl⟩ | ⟨m, rfl, hm, hy⟩
  · refine ⟨if b < a then b else a, by rw [if_pos (decide_eq_true rfl)], by split <;> omega, by split <;> omega, fun x hx => ?_, by split <;> simp⟩
    rw [e0] at hx; cases hx
  · obtain ⟨h, hh, hmin⟩ := has_min (ns := [a, b, m]) (List.cons_ne_nil _ _)
    refine ⟨h, by rw [decide_eq_false (fun z => nomatch z), if_neg (by decide)], hmin _ (by simp), hmin _ (by simp), fun x hx => Int.le_trans (hmin m (by simp)) (hy x hx), ?_⟩
    simp only [List.mem_cons, List.not_mem_nil, or_false] at hh
    rcases hh with rfl | rfl | rfl
    · exact .inl rfl
    · exact .inr (.inl rfl)
    · exact .inr (.inr hm)
theorem use_r {S : List Nat} {η : Nat → Option Nat} {l : Stock} {need : Nat → Int} {q : (Nat × Nat) × Nat} {sn : Nat} {hi mx : Int} (hS : S.Nodup) (hs : sn ∈ shows S η q.1) (r1 : hi ≤ ((q.2 : Nat) : Int)) (r2 : hi ≤ need sn) (r3 : ∀ x ∈ mostL S η l need q.1 sn, hi ≤ x)
    (r4 : hi = ((q.2 : Nat) : Int) ∨ hi = need sn ∨ hi ∈ mostL S η l need q.1 sn) (hmx : mx ∈ aloneL S η l need q sn) (hmy : ∀ y ∈ aloneL S η l need q sn, y ≤ mx) : UseR S η l need q sn (if mx > 0 then mx else 0) hi := by
  have sS := shows_mem hs
  refine ⟨r1, r2, fun A a1 a2 => r3 _ ((most_mem hS sS).mpr ⟨A, a1, a2, rfl⟩), ?_, by split <;> omega, fun A a1 => ?_, ?_⟩
  · rcases r4 with r4 | r4 | r4
    · exact .inl r4
    · exact .inr (.inl r4)
    · exact .inr (.inr ((most_mem hS sS).mp r4))
  · have := hmy _ ((alone_mem hS hs).mpr ⟨A, a1, rfl⟩)
    split <;> omega
  · by_cases c : mx > 0
    · rw [if_pos c]
      exact .inr ((alone_mem hS hs).mp hmx)
    · rw [if_neg c]
      exact .inl rfl
theorem v_need_kindW {K : PySem.W.Frag} {p : Addr} {S : List Nat} {η : Nat → Option Nat} {k : Nat × Nat} {H : Hp} (f : FontAt K H p S η) (hS : SOk S) (hk : KOk S k) : SpV (sp_Font_normal K) [.ref p, .str (kt k)] H (.str (kt k)) := v_Font_normal f hS hk (.inl rfl)
theorem v_need_hanging {K : PySem.W.Frag} {H : Hp} {c w f : Addr} {S : List Nat} {η : Nat → Option Nat} {l : Stock} {need : Nat → Int} (hc : CaseAt K H c f S η l) (hw : WantsAt K H w f S η need) (hS : SOk S) (hl : StOk S l) (hb : ∀ c ∈ S, (need c).natAbs ≤ 2 ^ 110) (h0 : ∀ A, 0 ≤ slk S η l need A) :
    SpV (sp_need_hanging K) [.ref c, .ref w] H .non := psp_v fun H1 e => ⟨c, w, f, S, η, l, need, rfl, hc.up e, hw.up e, hS, hl, hb, h0, rfl⟩
def sp_use_range (K : PySem.W.Frag) : Sp := pspX fun vs R H => ∃ c w f S η l need s, ∃ q : (Nat × Nat) × Nat, vs = [.ref c, .ref w, .str (kt q.1), sV s] ∧ CaseAt K H c f S η l ∧ WantsAt K H w f S η need ∧ SOk S ∧ StOk S l ∧ (∀ c ∈ S, (need c).natAbs ≤ 2 ^ 110) ∧
  (∀ A, 0 ≤ slk S η l need A) ∧ q ∈ l ∧ 0 < q.2 ∧ s ∈ shows S η q.1 ∧ R = fun v H' => ∃ p lo hi, v = .ref p ∧ H' p = some (.tup [.int lo, .int hi]) ∧ UseR S η l need q s lo hi
theorem ok_use_range {P : Program} {w : World} {K : PySem.W.Frag} {mg : Str → Option Value} {base : Heap} (T : Tx K mg) : FnOk P w K mg base CX0 10 (f_use_range K) (fdOf K (f_use_range K)) ["case", "wants", "kind", "sign"] (sp_use_range K) := by
  refine T.d_use_range.ok sc_use_range (fun vs H Q E h => by obtain ⟨R, ⟨c, w, f, S, η, l, need, sn, q, rfl, hc, hw, hS, hl, hb, h0, hq, hn, hs, rfl⟩, k⟩ := h; rfl) (fun cdv A outer s H vs Q E hr h => ?_)
  obtain ⟨R, ⟨c, w, f, S, η, l, need, sn, q, rfl, hc, hw, hS, hl, hb, h0, hq, hn, hs, rfl⟩, k⟩ := h
  refine ⟨_, PSs.nox (pss_cons (ps_set (i := 4) sc_use_range.nd rfl (by first | exact Or.inl rfl | exact Or.inr rfl) (pe_prop (pv 0) T.cl_Case T.p_Case_font (ok_Pile_font T) (by exact hr.mono (by first | decide | omega)) (bn_Pile_font T) .nil pass0 (by rfl))) (
pss_cons (ps_expr (pe_callN (ok_need_one_font T) (by exact hr.mono (by first | decide | omega)) (by rfl) (by exact T.m_need_one_font) (by exact T.d_need_one_font.kp) pass0 (pa_cons (pv 0) (pa_cons (pv 1) pa_nil)))) (
pss_cons (ps_set (i := 5) sc_use_range.nd rfl (by first | exact Or.inl rfl | exact Or.inr rfl) (pe_call (ok_need_kind T) (by exact hr.mono (by first | decide | omega)) (by rfl) (by exact T.m_need_kind) (by exact T.d_need_kind.kp) (bn_need_kind T) .nil pass0 (pa_cons (pv 4) (pa_cons (pv 2) pa_nil)))) (
pss_cons (ps_expr (pe_call (ok_need_sign T) (by exact hr.mono (by first | decide | omega)) (by rfl) (by exact T.m_need_sign) (by exact T.d_need_sign.kp) (bn_need_sign T) .nil pass0 (pa_cons (pv 4) (pa_cons (pv 3) pa_nil)))) (
pss_cons (ps_expr (pe_call (ok_need_hanging T) (by exact hr.mono (by first | decide | omega)) (by rfl) (by exact T.m_need_hanging) (by exact T.d_need_hanging.kp) (bn_need_hanging T) .nil pass0 (pa_cons (pv 0) (pa_cons (pv 1) pa_nil)))) (
pss_cons (ps_asg (pe_tup (pa_cons (ix_own (sp := sp_Case_getitem K) (ok_Case_getitem T) (by exact hr.mono (by first | decide | omega)) (bn_Case_getitem T) .nil pass0 T.i_Case T.j_Case T.h_Case (pv 0) (pv 5)) (pa_cons (pe_call (ok_mask_of T) (by exact hr.mono (by first | decide | omega)) (by rfl) (by exact T.m_mask_of) (by exact T.d_mask_of.kp) (bn_mask_of T) .nil pass0 (pa_cons (pv 4) (pa_cons (pe_meth (pv 4) T.cl_Font T.M_Font_seen (ok_Font_seen T) (by exact hr.mono (by first | decide | omega)) (bn_Font_seen T) .nil pass0 (pa_cons (pv 5) pa_nil)) pa_nil))) (pa_cons (pe_dget (by exact hu_of hr) (pe_fld (pv 4) (by rfl)) (pv 3) (fun _ _ => rfl)) pa_nil)))) (pg_tup (n := 3) (by rfl) (pgs_cons (pg_name (i := 6) sc_use_range.nd rfl (by first | exact Or.inl rfl | exact Or.inr rfl)) (pgs_cons (pg_name (i := 7) sc_use_range.nd rfl (by first | exact Or.inl rfl | exact Or.inr rfl)) (pgs_cons (pg_name (i := 8) sc_use_range.nd rfl (by first | exact Or.inl rfl | exact Or.inr rfl)) pgs_nil))))) (
pss_cons (ps_if (PW.pt (pw_or (pt_cmpR op_eq (pv 6) pe_int (nomark _)) (pw_or1 (pt_cmpR op_eq (pe_op op_and (pe_op op_shr (pv 7) (pv 8)) pe_int) pe_int (nomark _))))) (pss_one (ps_ret (pe_tup (pa_cons pe_int (pa_cons pe_int pa_nil))))) pss_nil) (
pss_cons (ps_set (i := 9) sc_use_range.nd rfl (by first | exact Or.inl rfl | exact Or.inr rfl) (pe_call (ok_slacks_of T) (by exact hr.mono (by first | decide | omega)) (by rfl) (by exact T.m_slacks_of) (by exact T.d_slacks_of.kp) (bn_slacks_of T) .nil pass0 (pa_cons (pv 0) (pa_cons (pv 1) pa_nil)))) (
pss_cons (ps_set (i := 10) sc_use_range.nd rfl (by first | exact Or.inl rfl | exact Or.inr rfl) (pe_call (ok_most_here T) (by exact hr.mono (by first | decide | omega)) (by rfl) (by exact T.m_most_here) (by exact T.d_most_here.kp) (bn_most_here T) .nil pass0 (pa_cons (pv 9) (pa_cons (pv 7) (pa_cons (pv 8) pa_nil))))) (
pss_cons (ps_set (i := 11) sc_use_range.nd rfl (by first | exact Or.inl rfl | exact Or.inr rfl) (pe_ifExp (pt_cmpR op_isN (pv 10) pe_non (nomark _)) (pe_callB (call_min2 rfl) (by rfl) (by exact T.z_min) bt_min (pa_cons (pv 6) (pa_cons (ix_own (sp := sp_Wants_getitem K) (ok_Wants_getitem T) (by exact hr.mono (by first | decide | omega)) (bn_Wants_getitem T) .nil pass0 T.i_Wants T.j_Wants T.h_Wants (pv 1) (pv 3)) pa_nil))) (pe_callB (call_min3 rfl) (by rfl) (by exact T.z_min) bt_min (pa_cons (pv 6) (pa_cons (ix_own (sp := sp_Wants_getitem K) (ok_Wants_getitem T) (by exact hr.mono (by first | decide | omega)) (bn_Wants_getitem T) .nil pass0 T.i_Wants T.j_Wants T.h_Wants (pv 1) (pv 3)) (pa_cons (pv 10) pa_nil)))))) (
pss_cons (ps_setLc (i := 12) (own := [("mask", 13), ("number", 14)]) rfl sc_use_range.nd rfl rfl (sw_true rfl rfl rfl (by decide +kernel)) (pi_enum (by rfl) (by exact T.z_enumerate) (pa_cons (pv 9) pa_nil)) (blkOk_by (own := [("mask", 13), ("number", 14)]) (N := ["case", "wants", "kind", "sign", "font", "own", "many", "shown", "at", "numbers", "room", "most", "alone", "mask", "number"]) (sc := (defScope s_use_range)) (by decide +kernel)) (fun _ _ _ _ _ => pg_tupK (K := K) rfl (n := 2) (by rfl) (pgs_cons (pg_name (i := 13) sc_use_range.nd rfl (by first | exact Or.inl rfl | exact Or.inr rfl)) (pgs_cons (pg_name (i := 14) sc_use_range.nd rfl (by first | exact Or.inl rfl | exact Or.inr rfl)) pgs_nil))) (fun _ _ _ _ _ => pts_one (pt_cmpR op_eq (pe_op op_and (pv 13) (pv 7)) (pe_op op_shl pe_int (pv 8)) (nomark _))) (fun _ _ _ _ _ => pe_op op_sub (pv 6) (pv 14))) (
pss_one (ps_ret (pe_tup (pa_cons (pe_callB (call_max2 rfl) (by rfl) (by exact T.z_max) bt_max (pa_cons pe_int (pa_cons (pe_callB (cr_max rfl) (by rfl) (by exact T.z_max) bt_max (pa_cons (pv 12) pa_nil)) pa_nil))) (pa_cons (pv 11) pa_nil)))))))))))))))), ?_⟩
  have sS := shows_mem hs
  have h64 := two_pow6 hS.most
  have hk := hl.kinds q hq
  have hls := List.idxOf_lt_length_of_mem sS
  have hmo := hS.most
  refine q_asg (ev_pfont hc (ev_var rfl)) fun H1 e1 => ?_
  refine q_drop (ev_call (ea_cons (ev_var rfl) (ea_cons (ev_var rfl) ea_nil)) (v_one_font (hc.up e1) (hw.up e1))) fun H2 e2 => ?_
  have e12 := e1.trans e2
  refine q_asg (ev_call (ea_cons (ev_var rfl) (ea_cons (ev_var rfl) ea_nil)) (v_need_kindW (hc.font.up e12) hS hk)) fun H3 e3 => ?_
  have e13 := e12.trans e3
  refine q_drop (ev_call (ea_cons (ev_var rfl) (ea_cons (ev_var rfl) ea_nil)) (v_need_sign (hc.font.up e13) hS.nd sS)) fun H4 e4 => ?_
  have e14 := e13.trans e4
  refine q_drop (ev_call (ea_cons (ev_var rfl) (ea_cons (ev_var rfl) ea_nil)) (v_need_hanging (hc.up e14) (hw.up e14) hS hl hb h0)) fun H5 e5 => ?_
  have e15 := e14.trans e5
  have hc5 := hc.up e15
  have hf5 := hc5.font
  obtain ⟨dx, r, hd, kvs, hi5, _⟩ := id hf5.ex
  refine q_tup3 (x := .int ((q.2 : Nat) : Int)) (y := .int ((mk S η q.1 : Nat) : Int)) (z := .int ((S.idxOf sn : Nat) : Int)) (ev_caseAt hc5 hS hl hq (ev_var rfl) (ev_var rfl))
    (ev_call (ea_cons (ev_var rfl) (ea_cons (ev_meth (ev_var rfl) hi5 fl_no (ea_cons (ev_var rfl) ea_nil) (v_Font_seen hf5 hS)) ea_nil)) (v_mask_of hf5 hS (fun c hc => shows_mem hc) (Nat.le_trans shows_len hS.most)))
    (ev_rk T hf5 hS.nd (c := sn) (ev_var rfl) (ev_var rfl) sS) fun H6 e6 => ?_
  have e16 := e15.trans e6
  have bs : (mk S η q.1).testBit (S.idxOf sn) = true := (bit_mk hS.nd).mpr ⟨sn, by rw [List.getElem?_eq_getElem hls, List.getElem_idxOf], hs⟩
  refine q_when (b := false) (et_is (et_or (et_test (ev_op (ev_var rfl) ev_c (rv_eq rfl))) fun _ => et_test (ev_op (x := .int (if (mk S η q.1).testBit (S.idxOf sn) then 1 else 0)) (ev_is (ev_op (ev_op (ev_var rfl) (ev_var rfl) (rv_I (Int.natCast_nonneg _))) ev_c rv_I0) (by rw [bit_val])) ev_c (rv_eq rfl))) ?_) (fun e => nomatch e) fun _ H7 e7 => ?_
  · rw [bs, decide_eq_false fun z => by have := V.int.inj z; omega]
    rfl
  have e17 := e16.trans e7
  refine q_asgL (el_call (ea_cons (ev_var rfl) (ea_cons (ev_var rfl) ea_nil)) (v_slacks_of (hc.up e17) (hw.up e17) hS hl hb)) fun a8 H8 _ e8 h8 => ?_
  have e18 := e17.trans e8
  obtain ⟨z, hz⟩ := has_least (mostL S η l need q.1 sn)
  refine q_asg (ev_call (ea_cons (ev_var rfl) (ea_cons (ev_var rfl) (ea_cons (ev_var rfl) ea_nil))) (psp_v fun H9 e9 => ⟨a8, 2 ^ S.length, _, mk S η q.1, S.idxOf sn, rfl, sq_of (e9 _ _ h8), h64, hz⟩)) fun H9 e9 => ?_
  have e19 := e18.trans e9
  have hw9 := hw.up e19
  obtain ⟨hi, hv, r1, r2, r3, r4⟩ := most_val (a := ((q.2 : Nat) : Int)) (b := need sn) hz
  refine q_asg (i := 11) (v := .int hi) (ev_is (ev_if (b := decide (z = .non)) (v := if decide (z = .non) = true then V.int (if need sn < ((q.2 : Nat) : Int) then need sn else ((q.2 : Nat) : Int)) else V.int hi) (et_test (ev_op (ev_var rfl) ev_c (fun H1 e Q q => ⟨rfl, q H1 (Ex.refl _)⟩))) (fun e => ?_) fun e => ?_) hv) fun H10 e10 => ?_
  · rw [if_pos e]
    exact ev_cb (ea_cons (ev_var rfl) (ea_cons (ev_wantsAt hw9 hS sS (ev_var rfl) (ev_var rfl)) ea_nil)) fun H1 e Q q => ⟨_, _, rfl, q H1 (Ex.refl _)⟩
  · rw [if_neg (by rw [e]; decide)]
    rcases hz with ⟨_, rfl⟩ | ⟨m, rfl, hm, hy⟩
    · exact absurd e (by rw [decide_eq_true rfl]; decide)
    · refine ev_cb (ea_cons (ev_var rfl) (ea_cons (ev_wantsAt hw9 hS sS (ev_var rfl) (ev_var rfl)) (ea_cons (ev_var rfl) ea_nil))) fun H1 e Q q2 => ⟨((q.2 : Nat) : Int), need sn, m, rfl, fun m' h1 h2 => ?_⟩
      have := min3_is r1 r2 r3 r4 hm hy h1 h2
      rw [this]
      exact q2 H1 (Ex.refl _)
  have e110 := e19.trans e10
  have h10 := e10 _ _ (e9 _ _ h8)
  refine st_eq (σ' := [some (.ref c), some (.ref w), some (.str (kt q.1)), some (sV sn), some (.ref f), some (.str (kt q.1)), some (.int ((q.2 : Nat) : Int)), some (.int ((mk S η q.1 : Nat) : Int)), some (.int ((S.idxOf sn : Nat) : Int)), some (.ref a8), some z, some (.int hi), none, none, none]) rfl ?_
  refine q_asgL (xs := (aloneL S η l need q sn).map V.int) ?_ fun a11 H11 _ e11 h11 => ?_
  · unfold aloneL
    rw [List.map_map]
    refine el_lcA (L := List.range (2 ^ S.length)) (aloneP S η q.1 sn) _ (ew_enumI (ea_cons (ev_var rfl) ea_nil) (sq_of h10)) (by rw [List.length_range]) (by omega) fun i m x H1 H2 hm e y => ?_
    obtain ⟨t, rfl, ht, rfl⟩ := y
    have hi : i < 2 ^ S.length := by
      have := (List.getElem?_eq_some_iff.mp hm).1
      rwa [List.length_range] at this
    obtain rfl : i = m := by
      rw [List.getElem?_range hi] at hm
      exact Option.some.inj hm
    refine ⟨_, Ex.new ht, fun Q q => ⟨t, _, rfl, st_of upd_same, rfl, _, _, rfl, _, _, rfl, rfl, q⟩, rfl, et_test ?_, fun _ => ev_op (ev_var rfl) (ev_var rfl) rv_I0⟩
    refine ev_is (ev_op (ev_is (ev_op (ev_var rfl) (ev_var rfl) rv_I0) (by rw [and_val])) (ev_op ev_c (ev_var rfl) (rv_shl (by omega))) (rv_eq rfl)) ?_
    unfold aloneP
    by_cases c : i &&& mk S η q.1 = 2 ^ S.idxOf sn
    · rw [c, decide_eq_true rfl, decide_eq_true rfl]
    · rw [decide_eq_false c, decide_eq_false (p := V.int ((i &&& mk S η q.1 : Nat) : Int) = V.int ((2 ^ S.idxOf sn : Nat) : Int)) fun z => c (Int.ofNat_inj.mp (V.int.inj z))]
  · obtain ⟨mx, hmx, hmy⟩ := has_max (alone_ne (l := l) (need := need) hS.nd hs)
    have ru := use_r hS.nd hs r1 r2 r3 r4 hmx hmy
    exact eu_tup (vs := [.int (if mx > 0 then mx else 0), .int hi]) (ea_cons (ev_cb (ea_cons ev_c (ea_cons (ev_maxN (ev_var rfl) (sq_of h11) hmx hmy) ea_nil)) fun H1 e Q q => ⟨_, _, rfl, q H1 (Ex.refl _)⟩) (ea_cons (ev_var rfl) ea_nil)) (by show 2 ≤ 100000; decide) H11 (Ex.refl _) (fun v H' => Q v H') fun p H12 _ e12 h12 => k _ _ ((e110.trans e11).trans e12) ⟨p, _, hi, rfl, h12, ru⟩
end P38

set_option Elab.async false
set_option linter.all false
set_option maxRecDepth 100000
set_option maxHeartbeats 4000000
namespace P38
open PySem PySem.Spec PyProof.Rows L2 Evl
/-- an iterable read by one of two readings -/
theorem pi_or {X : Cx} {tg e : Expr} {w1 w2 : TI} (h1 : PI X tg e w1) (h2 : PI X tg e w2) : PI X tg e (fun σ H R => w1 σ H R ∨ w2 σ H R) := ⟨fun pins s σ H R I h => h.elim (h1.run pins s σ H R I) (h2.run pins s σ H R I)⟩
/-- a new dict -/
def EvD (te : TE) (σ : L2.St) (H : Hp) (kvs : List (Key × V)) : Prop := ∀ H1, Ex H H1 → ∀ Q : VK, (∀ p H2, H1 p = none → Ex H1 H2 → H2 p = some (.dK kvs) → Q (.ref p) H2) → te σ H1 Q
theorem tab_app {α : Type} {key : α → Key} {val : α → V} {l m : List α} : tab key val (l ++ m) = tab key val l ++ tab key val m := List.map_append
theorem nodup_snoc {α : Type} {l : List α} {a : α} (h : (l ++ [a]).Nodup) : ∀ b ∈ l, b ≠ a := fun b hb e => by
  have := (List.nodup_append.mp h).2.2 b hb a (List.mem_singleton.mpr rfl)
  exact this e
section
variable {K : PySem.W.Frag} {σ : L2.St} {H H' : Hp} {ta tb tc te tl td tk tv : TE} {t : TT} {g : TG} {x y z v : V}
/-- a dict comprehension whose keys differ -/
theorem ed_dc {α : Type} {L : List α} {wi : TI} {n : Nat} {Y : Nat → Hp → V → Hp → Prop} {vs : List Nat} (p : α → Bool) (key : α → Key) (val : α → V) (hw : EvW wi σ H n Y) (hn : n = L.length) (hz : n ≤ 40000) (nd : (L.map key).Nodup)
    (step : ∀ i a x H1 H2, L[i]? = some a → Ex H H1 → Y i H1 x H2 → ∃ σ2, Ex H1 H2 ∧ (∀ Q : L2.St → Hp → Prop, Q σ2 H2 → g x (wipe σ vs) H2 Q) ∧ wipe σ2 vs = wipe σ vs ∧ EvT t σ2 H2 (p a) ∧ (p a = true → Ev tk σ2 H2 (kV (key a)) ∧ Ev tv σ2 H2 (val a))) :
    EvD (tDc wi g t tk tv vs) σ H (tab key val (L.filter p)) := fun H0 e Q q => hw H0 e _ fun J G H1 e1 w hG D hD => by
  refine dc_it w (fun i H' => H1 D = none ∧ Ex H1 H' ∧ H' D = some (.dK (tab key val ((L.take i).filter p)))) ⟨hD, Ex.new hD, by rw [List.take_zero]; exact upd_same⟩ (fun i H' _ c => hG H' c.2.1) (fun i x H3 H4 hi c y => ?_) fun H' c => ?_
  · obtain ⟨a, ha⟩ : ∃ a, L[i]? = some a := ⟨_, List.getElem?_eq_getElem (by omega)⟩
    obtain ⟨σ2, e2, hg, hwp, ht, he⟩ := step i a x H3 H4 ha ((e.trans e1).trans c.2.1) y
    have h4 : Ex H1 H4 := c.2.1.trans e2
    have d4 := e2 _ _ c.2.2
    have tk' : L.take (i + 1) = L.take i ++ [a] := by rw [List.take_add_one, ha]; rfl
    have lz : (tab key val ((L.take i).filter p)).length < 100000 := by
      rw [tab_len]
      have := List.length_filter_le p (L.take i)
      rw [List.length_take] at this
      omega
    refine hg _ ⟨hwp, ht H4 (Ex.refl _) _ fun H5 e5 => ?_⟩
    rw [tk', List.filter_append]
    cases hp : p a with
    | false =>
      refine ⟨c.1, h4.trans e5, ?_⟩
      rw [List.filter_cons, hp]
      simpa using e5 _ _ d4
    | true =>
      obtain ⟨he1, he2⟩ := he hp
      refine he1 H5 e5 _ fun H6 e6 => he2 H6 (e5.trans e6) _ fun H7 e7 => ⟨_, key a, rfl, e7 _ _ (e6 _ _ (e5 _ _ d4)), sz_lt lz, c.1, Ex.mut (((h4.trans e5).trans e6).trans e7) c.1, ?_⟩
      rw [List.filter_cons, hp, upd_same]
      show _ = some (HO.dK (tab key val ((L.take i).filter p ++ [a])))
      rw [tab_snoc fun b hb e => ?_]
      have hs : ((L.take (i + 1)).map key).Nodup := List.Nodup.sublist (List.Sublist.map _ (List.take_sublist _ _)) nd
      rw [tk', List.map_append] at hs
      exact nodup_snoc hs (key b) (List.mem_map_of_mem (List.mem_filter.mp hb).1) e
  · refine q D H' (fresh_back e1 c.1) (e1.trans c.2.1) ?_
    have := c.2.2
    rwa [hn, List.take_length] at this
/-- o.f = e -/
theorem q_fld {D : Ends} {tz : TS} {f : Str} {a C dx : Addr} {fs : List (Str × V)} (hv : Ev tv σ H y) (ht : Ev ta σ H (.ref a)) (ha : H a = some (.ins C dx fs)) (c : Cls K C) (n : NoAttr K C f) (hl : fs.length < 1000) (k : ∀ H1, Ex H H1 → tz D σ (upd H1 a (.ins C dx (putF f y fs)))) : tSeq (sFld K ta tv f) tz D σ H :=
  hv H (Ex.refl _) _ fun H1 e => ht H1 e _ fun H2 e2 => ⟨a, C, dx, fs, rfl, e2 _ _ (e _ _ ha), c, n, hl, k H2 (e.trans e2)⟩
theorem q_fldD {D : Ends} {tz : TS} {f : Str} {a C dx : Addr} {fs : List (Str × V)} {kvs : List (Key × V)} (hv : EvD tv σ H kvs) (ht : Ev ta σ H (.ref a)) (ha : H a = some (.ins C dx fs)) (c : Cls K C) (n : NoAttr K C f) (hl : fs.length < 1000)
    (k : ∀ p H1, H p = none → Ex H H1 → H1 p = some (.dK kvs) → tz D σ (upd H1 a (.ins C dx (putF f (.ref p) fs)))) : tSeq (sFld K ta tv f) tz D σ H :=
  hv H (Ex.refl _) _ fun p H1 hp e h1 => ht H1 e _ fun H2 e2 => ⟨a, C, dx, fs, rfl, e2 _ _ (e _ _ ha), c, n, hl, k p H2 hp (e.trans e2) (e2 _ _ h1)⟩
theorem ed_new : EvD tDNewK σ H [] := fun H1 e Q q p hp => q p _ hp (Ex.new hp) upd_same
/-- len({x for x in text}) -/
theorem ev_lenSet {X : Cx} {ss : List Str} (h : ∀ H1, Ex H H1 → ∀ Q : VK, (∀ v H2, Ex H1 H2 → ((∃ z : Str, v = .str z ∧ ss = z.cps.toList.map fun c => (⟨#[c]⟩ : Str)) ∨ ∃ a, v = .ref a ∧ SqL K H2 a (ss.map V.str)) → Q v H2) → te σ H1 Q) (nd : ss.Nodup) (hl : ss.length < scanBound) :
    Ev (tCB (fun xs H Q => ∃ (a : Addr) (S : Key → Bool) (n : Nat), xs = [V.ref a] ∧ H a = some (SetK X.prog X.w a S n) ∧ Q (.int n) H) (tCons (tSetN X.prog X.w K te) tNil)) σ H (.int (ss.length : Nat)) := fun H1 e Q q =>
  h H1 e _ fun v H2 e2 r => ⟨ss, r, nd, hl, fun D hD => ⟨D, _, _, rfl, upd_same, q _ (e2.trans (Ex.new hD))⟩⟩
theorem ev_chain {a b c : Int} (ha : Ev ta σ H (.int a)) (hb : Ev tb σ H (.int b)) (hc : Ev tc σ H (.int c)) (h1 : a ≤ b) (h2 : b ≤ c) : Ev (tChain (rI0 fun i j => .bl (decide (i ≤ j))) (rI0 fun i j => .bl (decide (i ≤ j))) ta tb tc) σ H (.bl true) := fun H1 e Q q =>
  ha H1 e _ fun H2 e2 => hb H2 (e.trans e2) _ fun H3 e3 => ⟨_, _, rfl, rfl, _, rfl, by
    rw [if_pos (decide_eq_true h1)]
    refine hc H3 ((e.trans e2).trans e3) _ fun H4 e4 => ⟨_, _, rfl, rfl, ?_⟩
    show Q (.bl (decide (b ≤ c))) H4
    rw [decide_eq_true h2]
    exact q H4 ((e2.trans e3).trans e4)⟩
end
/-- the signs that a font may have -/
def LT : List Nat := ("0123456789abcdefghijklmnopqrstuvwxyz" : Str).cps.toList
theorem sg_nodup {S : List Nat} (h : S.Nodup) : (S.map sg).Nodup := List.Pairwise.map _ (fun a b n e => n (sg_inj e)) h
theorem scan6 {n : Nat} (h : n ≤ 100) : n < scanBound := Nat.lt_of_le_of_lt h (by decide)
def sp_is_font_text : Sp := psp fun vs z H => ∃ S, vs = [.str (tx S), .int 10] ∧ SOk S ∧ (∀ c ∈ S, c ∈ LT) ∧ z = .bl true
theorem ok_is_font_text {P : Program} {w : World} {K : PySem.W.Frag} {mg : Str → Option Value} {base : Heap} (T : Tx K mg) : FnOk P w K mg base CX0 1 (f_is_font_text K) (fdOf K (f_is_font_text K)) ["value", "most"] (sp_is_font_text) := by
  refine T.d_is_font_text.ok sc_is_font_text (fun vs H Q E h => by obtain ⟨z, ⟨S, rfl, hS, hL, rfl⟩, k⟩ := h; rfl) (fun cdv A outer s H vs Q E hr h => ?_)
  obtain ⟨z, ⟨S, rfl, hS, hL, rfl⟩, k⟩ := h
  refine ⟨_, PSs.nox (pss_cons (ps_if (PW.pt (pw_or (pt_not (pt_val (pe_callB (call_is "str" "str" true (by decide +kernel)) (by rfl) (by exact T.z_isinstance) bt_isinstance (pa_cons (pv 0) (pa_cons (pe_bltn (v := .ty "str") (by rfl) (by exact T.z_str) bt_str rfl) pa_nil))))) (pw_or1 (pt_not (pt_chain op_le op_le (pe_gi (by rfl) (by exact T.c_LEAST_SIGNS)) (pe_callB call_len_str (by rfl) (by exact T.z_len) bt_len (pa_cons (pv 0) pa_nil)) (pv 1)))))) (pss_one (ps_ret pe_bl)) pss_nil) (
pss_one (ps_ret (pe_and (pe_callB (cr_all rfl) (by rfl) (by exact T.z_all) bt_all (pa_cons (pe_lc (own := [("sign", 2)]) rfl sc_is_font_text.nd (pi_str (pv 0)) (blkOk_by (own := [("sign", 2)]) (N := ["value", "most", "sign"]) (sc := (defScope s_is_font_text)) (by decide +kernel)) (fun _ _ _ _ _ => pg_name (i := 2) sc_is_font_text.nd rfl (by first | exact Or.inl rfl | exact Or.inr rfl)) (fun _ _ _ _ _ => pts_nil) (fun _ _ _ _ _ => pe_cmpR op_in_sign (pv 2) (pe_gs (by rfl) (by exact T.c_SIGNS)) rfl)) pa_nil)) (pe_one (pe_cmpR op_eq (pe_callB call_lenK (by rfl) (by exact T.z_len) bt_len (pa_cons (pe_setN rfl (pv 0)) pa_nil)) (pe_callB call_len_str (by rfl) (by exact T.z_len) bt_len (pa_cons (pv 0) pa_nil)) (nomark _))))))), ?_⟩
  have hl := tx_len S
  have h1 := hS.least
  have h2 := hS.most
  have ln : ∀ {σ : L2.St}, σ[0]? = some (some (.str (tx S))) → ∀ {H : Hp}, Ev (tCB (fun xs H Q => ∃ z, xs = [.str z] ∧ z.length ≤ sizeLine ∧ Q (.int z.length) H) (tCons (tVar 0) tNil)) σ H (.int ((S.length : Nat) : Int)) := fun {σ} hσ {H} => ev_is (ev_cb (ea_cons (ev_var hσ) ea_nil) (rc_lenS (sz6 hS))) (by rw [hl])
  refine q_when (b := false) (et_is (et_or (et_not (et_test (ev_cb (ea_cons (ev_var rfl) (ea_cons ev_c ea_nil)) (rc_is fun H1 _ => .base (.str _))))) fun _ => et_not (et_test (ev_chain ev_c (ln rfl) (ev_var rfl) (by omega) (by omega)))) rfl) (fun e => nomatch e) fun _ H1 e => ?_
  refine s_ret (ev_andV (a := true) (b := true) (ev_allT (bs := S.map fun _ => V.bl true) (el_lcM (f := sV) (L := S) (fun _ => V.bl true) (ew_sg (ev_var rfl)) (by omega) (fun _ => rfl) fun c H2 hc e2 => ?_) (by simp)) fun _ => ?_) fun H2 e2 => k H2 (e.trans e2)
  · exact ev_op (ev_var rfl) ev_c fun H3 e3 Q q => ⟨c, _, rfl, rfl, by
      rw [decide_eq_true (show c ∈ ("0123456789abcdefghijklmnopqrstuvwxyz" : Str).cps.toList from hL c hc)]
      exact q H3 (Ex.refl _)⟩
  · refine ev_is (ev_op (ev_lenSet (ss := S.map sg) (fun H2 e2 Q q => ⟨_, rfl, q _ H2 (Ex.refl _) (.inl ⟨_, rfl, rfl⟩)⟩) (sg_nodup hS.nd) (by rw [List.length_map]; exact scan6 (by omega))) (ln rfl) (rv_eq rfl)) ?_
    rw [List.length_map, decide_eq_true rfl]
theorem v_is_font_text {S : List Nat} {H : Hp} (hS : SOk S) (hL : ∀ c ∈ S, c ∈ LT) : SpV sp_is_font_text [.str (tx S), .int 10] H (.bl true) := psp_v fun H1 e => ⟨S, rfl, hS, hL, rfl⟩
end P38

set_option Elab.async false
set_option linter.all false
set_option maxRecDepth 100000
set_option maxHeartbeats 4000000
namespace P38
open PySem PySem.Spec PyProof.Rows L2 Evl
/-! turns -/
abbrev Turns := List (Nat × Nat)
def row2 (p : Nat × Nat) : List V := [sV p.1, sV p.2]
def trn (S : List Nat) (p : Nat × Nat) : List Nat := S.filter fun c => decide (c ∈ [p.1, p.2])
structure TurnsOk (S : List Nat) (L : Turns) : Prop where
  ins : ∀ p ∈ L, p.1 ∈ S ∧ p.2 ∈ S
  len : L.length ≤ 6
  nd : (L.flatMap (trn S)).Nodup
section
variable {K : PySem.W.Frag} {σ : L2.St} {H H' : Hp} {ta tb tc te tl td tk tv : TE} {t : TT} {g : TG} {x y z v : V}
/-- a.extend(a new list) -/
theorem s_ext {D : Ends} {l : Addr} {xs zs : List V} (hl : H l = some (.lst xs)) (ha : Ev ta σ H (.ref l)) (h : EvL te σ H zs) (hz : xs.length + zs.length ≤ 100000) (k : ∀ H1, Ex H H1 → D.nx σ (upd H1 l (.lst (xs ++ zs)))) :
    tDrop (tBM K "list" rExtend ta (tCons te tNil)) D σ H := ha H (Ex.refl H) _ fun H1 e => ⟨.inl ⟨rfl, xs, sq_of (e _ _ hl)⟩, h H1 e _ fun p H2 hp e2 h2 => ⟨l, p, xs, zs, rfl, rfl, e2 _ _ (e _ _ hl), h2, sz_of hz, k H2 (e.trans e2)⟩⟩
/-- the signs of a locked table of ranks -/
theorem ew_rk {r : Addr} {S : List Nat} {o : Obj} (h : Ev td σ H (.ref r)) (hr : H r = some (.frz o (.dK (rkT S)))) : EvW (iKeys td) σ H S.length (fun i H x H' => H' = H ∧ S[i]?.map sV = some x) := fun H1 e R q => by
  have w := ew_keys h hr H1 e R
  rw [show (rkT S).length = S.length by rw [rkT, tab_len, List.length_zipIdx]] at w
  refine w fun J G H2 e2 wk hG => q J G H2 e2 (wk.mono (fun _ g => g) fun i H x H' hi _ y => ?_) hG
  obtain ⟨e1, k, v, hk, rfl⟩ := y
  refine ⟨e1, ?_⟩
  unfold rkT tab at hk
  rw [List.getElem?_map, List.getElem?_zipIdx] at hk
  cases hc : S[i]? with
  | none => rw [hc] at hk; cases hk
  | some c =>
    rw [hc] at hk
    have := Option.some.inj hk
    rw [← (Prod.mk.inj this).1]
    rfl
end
theorem flat_len (S : List Nat) : ∀ M : Turns, (M.flatMap (trn S)).length ≤ S.length * M.length
  | [] => by simp
  | q :: M => by
    have h1 := flat_len S M
    have h2 := List.length_filter_le (fun c => decide (c ∈ [q.1, q.2])) S
    rw [List.flatMap_cons, List.length_append, List.length_cons, Nat.mul_succ]
    unfold trn at *
    omega
def sp_are_turns : Sp := psp fun vs z H => ∃ a r S L ts, vs = [.ref a, .ref r] ∧ H a = some (.lst (ts.map V.ref)) ∧ RowsAt H row2 ts L ∧ H r = some (.dK (rkT S)) ∧ SOk S ∧ TurnsOk S L ∧ z = .bl true
theorem ok_are_turns {P : Program} {w : World} {K : PySem.W.Frag} {mg : Str → Option Value} {base : Heap} (T : Tx K mg) : FnOk P w K mg base CX0 2 (f_are_turns K) (fdOf K (f_are_turns K)) ["value", "ranks"] (sp_are_turns) := by
  refine T.d_are_turns.ok sc_are_turns (fun vs H Q E h => by obtain ⟨z, ⟨a, r, S, L, ts, rfl, ha, hts, hr', hS, hL, rfl⟩, k⟩ := h; rfl) (fun cdv A outer s H vs Q E hr h => ?_)
  obtain ⟨z, ⟨a, r, S, L, ts, rfl, ha, hts, hr', hS, hL, rfl⟩, k⟩ := h
  refine ⟨_, PSs.nox (pss_cons (ps_if (pt_not (pt_val (pe_call (ok_is_list T) (by exact hr.mono (by first | decide | omega)) (by rfl) (by exact T.m_is_list) (by exact T.d_is_list.kp) (bn_is_list T) .nil pass0 (pa_cons (pv 0) pa_nil)))) (pss_one (ps_ret pe_bl)) pss_nil) (
pss_cons (ps_set (i := 2) sc_are_turns.nd rfl (by first | exact Or.inl rfl | exact Or.inr rfl) (pe_lst pa_nil)) (
pss_cons (ps_for PassesOwn.never rfl (pi_list (pv 0)) (pg_name (i := 3) sc_are_turns.nd rfl (by first | exact Or.inl rfl | exact Or.inr rfl)) (
pss_cons (ps_if (PW.pt (pw_or (pt_not (pt_val (pe_call (ok_is_tuple_of T) (by exact hr.mono (by first | decide | omega)) (by rfl) (by exact T.m_is_tuple_of) (by exact T.d_is_tuple_of.kp) (bn_is_tuple_of T) .nil pass0 (pa_cons (pv 3) (pa_cons pe_int pa_nil))))) (pw_or1 (pt_not (pt_val (pe_callB (cr_all rfl) (by rfl) (by exact T.z_all) bt_all (pa_cons (pe_lc (own := [("sign", 4)]) rfl sc_are_turns.nd (pi_tup (pv 3)) (blkOk_by (own := [("sign", 4)]) (N := ["value", "ranks", "seen", "pair", "sign"]) (sc := (defScope s_are_turns)) (by decide +kernel)) (fun _ _ _ _ _ => pg_name (i := 4) sc_are_turns.nd rfl (by first | exact Or.inl rfl | exact Or.inr rfl)) (fun _ _ _ _ _ => pts_nil) (fun _ _ _ _ _ => pe_and (pe_callB (call_isK (K := K) rfl "str" "str" true (by decide +kernel)) (by rfl) (by exact T.z_isinstance) bt_isinstance (pa_cons (pv 4) (pa_cons (pe_bltn (v := .ty "str") (by rfl) (by exact T.z_str) bt_str rfl) pa_nil))) (pe_one (pe_cmp (pc_din (by exact hu_of hr) (pv 4) (pv 1)))))) pa_nil))))))) (pss_one (ps_ret pe_bl)) pss_nil) (
pss_one (ps_expr (pe_bm PySem.F.plainAttrs_list PySem.F.slot_list_extend PySem.F.type_list_extend mt_extend (pv 2) (pa_cons (pe_lock (pe_lc (own := [("sign", 4)]) rfl sc_are_turns.nd (pi_keys (pv 1)) (blkOk_by (own := [("sign", 4)]) (N := ["value", "ranks", "seen", "pair", "sign"]) (sc := (defScope s_are_turns)) (by decide +kernel)) (fun _ _ _ _ _ => pg_name (i := 4) sc_are_turns.nd rfl (by first | exact Or.inl rfl | exact Or.inr rfl)) (fun _ _ _ _ _ => pts_one (pt_cmpR (op_in_seqK (K := K) rfl) (pv 4) (pv 3) rfl)) (fun _ _ _ _ _ => pv 4))) pa_nil)))))) (
pss_one (ps_ret (pe_cmpR op_eq (pe_callB call_lenK (by rfl) (by exact T.z_len) bt_len (pa_cons (pe_setN rfl (pv 2)) pa_nil)) (pe_callB call_len_seq (by rfl) (by exact T.z_len) bt_len (pa_cons (pv 2) pa_nil)) (nomark _))))))), ?_⟩
  have h6 := hS.most
  have hl6 := hL.len
  refine q_when (b := false) (et_not (et_test (ev_call (ea_cons (ev_var rfl) ea_nil) (v_is_list (K := K) (.inl (sq_of ha)))))) (fun e => nomatch e) fun _ H1 e1 => ?_
  refine q_asgL (el_lst ea_nil (by decide)) fun x H2 hx e2 h2 => ?_
  have e12 := e1.trans e2
  have hx0 : H x = none := fresh_back e1 hx
  let Pv : Nat → L2.St → Hp → Prop := fun i σ' H' => (∃ u, σ' = [some (.ref a), some (.ref r), some (.ref x), u, none]) ∧ Ex H H' ∧ H' x = some (.lst (((L.take i).flatMap (trn S)).map sV))
  refine q_for (eg_rows (ev_var rfl) (e12 _ _ ha) (hts.up e12)) Pv (fun H3 e3 => ⟨⟨none, rfl⟩, e12.trans e3, by rw [e3 _ _ h2, List.take_zero]; rfl⟩) (fun i σ' H' _ c => ⟨c.2.1 _ _ ha, hts.up c.2.1⟩) (fun i y σ' H3 H4 hi c yr => ?_) fun σ' H3 c => ?_
  · obtain ⟨⟨u, rfl⟩, e3, h3⟩ := c
    obtain ⟨rfl, t, p, rfl, hp, ht⟩ := yr
    obtain ⟨p1, p2⟩ := hL.ins p (List.mem_of_getElem? hp)
    refine q_when (b := false) (et_is (et_or (et_not (et_test (ev_call (ea_cons (ev_var rfl) (ea_cons ev_c ea_nil)) (v_is_tuple_of (K := K) (st_of ht))))) fun _ => et_not (et_test (ev_allT (bs := [p.1, p.2].map fun _ => V.bl true) (el_lcM (f := sV) (L := [p.1, p.2]) (fun _ => V.bl true) (ew_map (ew_tup (xs := [p.1, p.2].map sV) (ev_var rfl) (st_of ht))) (show 2 ≤ 40000 by decide) (fun _ => rfl) fun c H5 hc e5 => ?_) (by simp)))) rfl) (fun e => nomatch e) fun _ H5 e5 => ?_
    · have cS : c ∈ S := by
        simp only [List.mem_cons, List.not_mem_nil, or_false] at hc
        rcases hc with rfl | rfl
        · exact p1
        · exact p2
      have hd := ev_din (ty := tVar 4) (td := tVar 1) (σ := (wipe [some (V.ref a), some (V.ref r), some (V.ref x), some (V.ref t), none] [4]).set 4 (some (sV c))) (k := kS c) (ev_var rfl) (ev_var rfl) (.inl (e5 _ _ (e3 _ _ hr')))
      exact ev_is (ev_andV (a := true) (b := true) (ev_cb (ea_cons (ev_var rfl) (ea_cons ev_c ea_nil)) (rc_is fun H1 _ => .base (.str _))) fun _ => ev_is hd (by rw [rk_some hS.nd, decide_eq_true cS])) rfl
    · have ht5 := e5 _ _ ht
      refine s_ext (zs := (trn S p).map sV) (e5 _ _ h3) (ev_var rfl) (el_lock (e5 _ _ (e3 _ _ hr')) (by exact trivial) fun od => ?_) ?_ fun H6 e6 => ⟨⟨_, rfl⟩, Ex.mut ((e3.trans e5).trans e6) hx0, ?_⟩
      · have nt : t ≠ r := fun z => by rw [z, e3 _ _ hr'] at ht; cases ht
        have htl : upd H5 r (.frz od (.dK (rkT S))) t = some (.tup (row2 p)) := by rw [upd_ne nt]; exact ht5
        refine el_lcN (f := sV) (L := S) (fun c => decide (c ∈ [p.1, p.2])) sV (ew_rk (ev_var rfl) upd_same) (by omega) (fun _ => rfl) fun c H7 hc e7 => ⟨et_test (ev_op (ev_var rfl) (ev_var rfl) ?_), fun _ => ev_var rfl⟩
        rw [← in_signs]
        exact rv_isT (xs := [p.1, p.2].map sV) (st_of (e7 _ _ htl)) rfl (flat_signs _)
      · have l1 := List.length_filter_le (fun c => decide (c ∈ [p.1, p.2])) S
        have l2 : ((L.take i).flatMap (trn S)).length ≤ 36 := by
          have := flat_len S (L.take i)
          have h7 : (L.take i).length ≤ 6 := by rw [List.length_take]; omega
          have := Nat.mul_le_mul h6 h7
          omega
        rw [List.length_map, List.length_map]
        unfold trn at *
        omega
      · rw [upd_same, List.take_add_one, hp, List.flatMap_append, List.map_append]
        congr 3
        show _ = ([p].flatMap (trn S)).map sV
        rw [List.flatMap_cons, List.flatMap_nil, List.append_nil]
  · obtain ⟨⟨u, rfl⟩, e3, h3⟩ := c
    rw [List.take_length] at h3
    have l2 : (L.flatMap (trn S)).length ≤ 36 := by
      have := flat_len S L
      have := Nat.mul_le_mul h6 hl6
      omega
    refine s_ret (ev_is (ev_op (ev_lenSet (ss := (L.flatMap (trn S)).map sg) (fun H5 e5 Q q => ⟨_, rfl, q _ H5 (Ex.refl _) (.inr ⟨x, rfl, by rw [List.map_map]; exact ex_l e5 (sq_of h3)⟩)⟩) (sg_nodup hL.nd) (by rw [List.length_map]; exact scan6 (by omega))) (ev_len (ev_var rfl) (sq_of h3)) (rv_eq rfl)) ?_) fun H5 e5 => k H5 (e3.trans e5)
    rw [List.length_map, List.length_map, decide_eq_true rfl]
end P38

set_option Elab.async false
set_option linter.all false
set_option maxRecDepth 100000
set_option maxHeartbeats 4000000
namespace P38
open PySem PySem.Spec PyProof.Rows L2 Evl
/-! heads made from turns -/
def etaS (η : Nat → Option Nat) (p : Nat × Nat) : Nat → Option Nat := fun c => if c = p.2 then some p.1 else if c = p.1 then some p.2 else η c
def etaL (L : Turns) : Nat → Option Nat := L.foldl etaS fun _ => none
theorem put_self {kvs : List (Key × V)} {k : Key} {v : V} (hv : flatB v = true) (h : ∀ p ∈ kvs, valV kvs p.1 = some p.2 ∧ flatB p.2 = true) : ∀ p ∈ putK kvs k v, valV (putK kvs k v) p.1 = some p.2 ∧ flatB p.2 = true := fun p hp => by
  rw [valV_put]
  unfold putK at hp
  split at hp
  · obtain ⟨q, hq, rfl⟩ := List.mem_map.mp hp
    by_cases e : q.1 = k
    · simp only [e, if_true]
      exact ⟨trivial, hv⟩
    · simp only [e, if_false]
      exact h q hq
  · rcases List.mem_append.mp hp with hq | hq
    · rename_i hn
      by_cases e : p.1 = k
      · exact absurd (List.any_eq_true.mpr ⟨p, hq, decide_eq_true e⟩) hn
      · rw [if_neg e]
        exact h p hq
    · rw [List.mem_singleton.mp hq, if_pos rfl]
      exact ⟨rfl, hv⟩
theorem put_len {kvs : List (Key × V)} {k : Key} {v : V} : (putK kvs k v).length ≤ kvs.length + 1 := by
  unfold putK
  split
  · rw [List.length_map]; omega
  · rw [List.length_append]; exact Nat.le_refl _
theorem heads_none : HeadsD [] fun _ => none := ⟨fun _ => rfl, fun p hp => nomatch hp⟩
theorem heads_step {kvs : List (Key × V)} {η : Nat → Option Nat} (h : HeadsD kvs η) (p : Nat × Nat) : HeadsD (putK (putK kvs (kS p.1) (sV p.2)) (kS p.2) (sV p.1)) (etaS η p) := by
  refine ⟨fun c => ?_, put_self rfl (put_self rfl h.self)⟩
  rw [valV_put, valV_put, h.get]
  unfold etaS
  by_cases e : c = p.2
  · rw [e, if_pos rfl, if_pos rfl]; rfl
  · rw [if_neg fun z => e (kS_inj z), if_neg e]
    by_cases e2 : c = p.1
    · rw [e2, if_pos rfl, if_pos rfl]; rfl
    · rw [if_neg fun z => e2 (kS_inj z), if_neg e2]
/-- all but one object stays -/
def ExB (x : Addr) (H H' : Hp) : Prop := ∀ b o, b ≠ x → H b = some o → H' b = some o
theorem ExB.refl {x : Addr} {H : Hp} : ExB x H H := fun _ _ _ h => h
theorem ExB.ex {x : Addr} {H H1 H2 : Hp} (h : ExB x H H1) (e : Ex H1 H2) : ExB x H H2 := fun b o n hb => e b o (h b o n hb)
theorem ExB.put {x : Addr} {H H1 : Hp} {o : HO} (h : ExB x H H1) : ExB x H (upd H1 x o) := fun b u n hb => by rw [upd_ne n]; exact h b u n hb
theorem v_are_turns {a r : Addr} {S : List Nat} {L : Turns} {ts : List Addr} {H : Hp} (ha : H a = some (.lst (ts.map V.ref))) (hr : RowsAt H row2 ts L) (h : H r = some (.dK (rkT S))) (hS : SOk S) (hL : TurnsOk S L) : SpV sp_are_turns [.ref a, .ref r] H (.bl true) :=
  psp_v fun H1 e => ⟨a, r, S, L, ts, rfl, e _ _ ha, hr.up e, e _ _ h, hS, hL, rfl⟩
abbrev fs1 (S : List Nat) : List (Str × V) := [("word", .str (tx S))]
abbrev fs2 (S : List Nat) (r : Addr) : List (Str × V) := [("word", .str (tx S)), ("ranks", .ref r)]
abbrev fs3 (S : List Nat) (r h : Addr) : List (Str × V) := [("word", .str (tx S)), ("ranks", .ref r), ("heads", .ref h)]
def sp_Font_init (K : PySem.W.Frag) : Sp := fun vs H Q _ => ∃ x dx S a L ts, vs = [.ref x, .str (tx S), .ref a] ∧ H x = some (.ins (C_Font K) dx []) ∧ SOk S ∧ (∀ c ∈ S, c ∈ LT) ∧ H a = some (.lst (ts.map V.ref)) ∧ RowsAt H row2 ts L ∧ TurnsOk S L ∧
  ∀ H', ExB x H H' → FontAt K H' x S (etaL L) → Q .non H'
theorem ok_Font_init {P : Program} {w : World} {K : PySem.W.Frag} {mg : Str → Option Value} {base : Heap} (T : Tx K mg) : FnOk P w K mg base CX0 4 (f_Font_init K) (fdOf K (f_Font_init K)) ["self", "signs", "turns"] (sp_Font_init K) := by
  obtain ⟨dvs0, _, d0⟩ := T.d_Font_init
  refine d0.ok sc_Font_init (fun vs H Q E h => by obtain ⟨x, dx, S, a, L, ts, rfl, hx, hS, hLT, ha, hts, hL, k⟩ := h; rfl) (fun cdv A outer s H vs Q E hr h => ?_)
  obtain ⟨x, dx, S, a, L, ts, rfl, hx, hS, hLT, ha, hts, hL, k⟩ := h
  refine ⟨_, PSs.nox (pss_cons (ps_if (pt_not (pt_val (pe_call (ok_is_font_text T) (by exact hr.mono (by first | decide | omega)) (by rfl) (by exact T.m_is_font_text) (by exact T.d_is_font_text.kp) (bn_is_font_text T) .nil pass0 (pa_cons (pv 1) (pa_cons (pe_con (pv 0) (by rfl)) pa_nil))))) (pss_one ps_never) pss_nil) (
pss_cons (ps_fld (pv 0) (pv 1) rfl) (
pss_cons (ps_fld (pv 0) (pe_dc (own := [("rank", 5), ("sign", 6)]) rfl sc_Font_init.nd (pi_enumS (by rfl) (by exact T.z_enumerate) (pa_cons (pv 1) pa_nil)) (blkOk_by (own := [("rank", 5), ("sign", 6)]) (N := ["self", "signs", "turns", "one", "other", "rank", "sign"]) (sc := (defScope s_Font_init)) (by decide +kernel)) (fun _ _ _ _ _ => pg_tupK (K := K) rfl (n := 2) (by rfl) (pgs_cons (pg_name (i := 5) sc_Font_init.nd rfl (by first | exact Or.inl rfl | exact Or.inr rfl)) (pgs_cons (pg_name (i := 6) sc_Font_init.nd rfl (by first | exact Or.inl rfl | exact Or.inr rfl)) pgs_nil))) (fun _ _ _ _ _ => pts_nil) (fun _ _ _ _ _ => pv 6) (fun _ _ _ _ _ => pv 5)) rfl) (
pss_cons (ps_if (pt_not (pt_val (pe_call (ok_are_turns T) (by exact hr.mono (by first | decide | omega)) (by rfl) (by exact T.m_are_turns) (by exact T.d_are_turns.kp) (bn_are_turns T) .nil pass0 (pa_cons (pv 2) (pa_cons (pe_fld (pv 0) (by rfl)) pa_nil))))) (pss_one ps_never) pss_nil) (
pss_cons (ps_fld (pv 0) pe_dnewK rfl) (
pss_one (ps_for PassesOwn.never rfl (pi_list (pv 2)) (pg_tup (n := 2) (by rfl) (pgs_cons (pg_name (i := 3) sc_Font_init.nd rfl (by first | exact Or.inl rfl | exact Or.inr rfl)) (pgs_cons (pg_name (i := 4) sc_Font_init.nd rfl (by first | exact Or.inl rfl | exact Or.inr rfl)) pgs_nil))) (
pss_cons (ps_dput (by exact hu_of hr) (pe_fld (pv 0) (by rfl)) (pv 3) (pv 4) rfl) (
pss_one (ps_dput (by exact hu_of hr) (pe_fld (pv 0) (by rfl)) (pv 4) (pv 3) rfl)))))))))), ?_⟩
  obtain ⟨u10, hmax⟩ := T.max_Font
  have h6 := hS.most
  have hl6 := hL.len
  have nt : ∀ {H1 : Hp}, Ex H H1 → ∀ t ∈ ts, t ≠ x := fun {H1} e t ht z => by
    have : ∀ {ts : List Addr} {L : Turns}, RowsAt H row2 ts L → ∀ t ∈ ts, ∃ xs, H t = some (.tup xs) := by
      intro ts L h
      induction h with
      | nil => intro t ht; cases ht
      | cons h _ ih =>
        intro t ht
        rcases List.mem_cons.mp ht with rfl | ht
        · exact ⟨_, h⟩
        · exact ih t ht
    obtain ⟨xs, h⟩ := this hts t ht
    rw [z, hx] at h
    cases h
  have na : a ≠ x := fun z => by rw [z, hx] at ha; cases ha
  refine q_when (b := false) (et_not (et_test (ev_call (ea_cons (ev_var rfl) (ea_cons (ev_con (ev_var rfl) hx T.cl_Font hmax rfl) ea_nil)) (v_is_font_text hS hLT)))) (fun e => nomatch e) fun _ H1 e1 => ?_
  refine q_fld (ev_var rfl) (ev_var rfl) (e1 _ _ hx) T.cl_Font T.n_Font_word (by show 0 < 1000; decide) fun H2 e2 => ?_
  have b2 : ExB x H (upd H2 x (.ins (C_Font K) dx (fs1 S))) := ExB.put (fun b o _ hb => e2 _ _ (e1 _ _ hb))
  have hnd : (S.zipIdx.map fun p : Nat × Nat => kS p.1).Nodup := by
    have : S.zipIdx.map (fun p : Nat × Nat => kS p.1) = S.map kS := by rw [show (fun p : Nat × Nat => kS p.1) = kS ∘ Prod.fst from rfl, ← List.map_map, List.zipIdx_map_fst]
    rw [this]
    exact List.Pairwise.map _ (fun a b n e => n (kS_inj e)) hS.nd
  have ft : S.zipIdx.filter (fun _ => true) = S.zipIdx := List.filter_eq_self.mpr fun _ _ => rfl
  refine q_fldD (kvs := rkT S) ?_ (ev_var rfl) upd_same T.cl_Font T.n_Font_ranks (by show 1 < 1000; decide) fun r H3 hr3 e3 h3 => ?_
  · rw [rkT, ← ft]
    refine ed_dc (L := S.zipIdx) (fun _ => true) (fun p : Nat × Nat => kS p.1) (fun p => .int ((p.2 : Nat) : Int)) (ew_enumS (ea_cons (ev_var rfl) ea_nil)) (by rw [tx_size, List.length_zipIdx]) (by rw [tx_size]; omega) hnd fun i p y H4 H5 hp e4 yr => ?_
    obtain ⟨t, u, w, rfl, ht, rfl, hu, hw⟩ := yr
    obtain rfl : V.int ((i : Nat) : Int) = u := Option.some.inj hu
    have hw : (tx S).cps[i]?.map (fun c => V.str ⟨#[c]⟩) = some w := hw
    rw [tx_at] at hw
    rw [List.getElem?_zipIdx] at hp
    cases hc : S[i]? with
    | none => rw [hc] at hp; cases hp
    | some c =>
      rw [hc] at hp hw
      obtain rfl : (c, 0 + i) = p := Option.some.inj hp
      obtain rfl : sV c = w := Option.some.inj hw
      exact ⟨_, Ex.new ht, fun Q q => ⟨t, _, rfl, st_of upd_same, rfl, _, _, rfl, _, _, rfl, rfl, q⟩, rfl, et_yes, fun _ => ⟨ev_var rfl, ev_is (ev_var rfl) (by rw [Nat.zero_add])⟩⟩
  have hr2 : r ≠ x := fun z => by rw [z, upd_same] at hr3; cases hr3
  have b3 : ExB x H (upd H3 x (.ins (C_Font K) dx (fs2 S r))) := ExB.put (b2.ex e3)
  have rows : ∀ {H' : Hp}, ExB x H H' → RowsAt H' row2 ts L := fun {H'} b => by
    have : ∀ {ts : List Addr} {L : Turns}, RowsAt H row2 ts L → (∀ t ∈ ts, t ≠ x) → RowsAt H' row2 ts L := by
      intro ts L h
      induction h with
      | nil => exact fun _ => .nil
      | cons h _ ih => exact fun n => .cons (b _ _ (n _ List.mem_cons_self) h) (ih fun t ht => n t (List.mem_cons_of_mem _ ht))
    exact this hts (nt (Ex.refl _))
  have hpf : putF ("ranks" : Str) (.ref r) (fs1 S) = (fs2 S r) := by
    show (if ("word" : Str) = "ranks" then _ else _) = _
    rw [if_neg (by decide +kernel)]
    rfl
  show tSeq _ _ _ _ (upd H3 x (.ins (C_Font K) dx (putF ("ranks" : Str) (.ref r) (fs1 S))))
  rw [hpf]
  have hx3 : (upd H3 x (.ins (C_Font K) dx (fs2 S r))) x = some (.ins (C_Font K) dx (fs2 S r)) := upd_same
  have h3r : (upd H3 x (.ins (C_Font K) dx (fs2 S r))) r = some (.dK (rkT S)) := by rw [upd_ne hr2]; exact h3
  generalize upd H3 x (.ins (C_Font K) dx (fs2 S r)) = G3 at b3 hx3 h3r
  refine q_when (b := false) (et_not (et_test (ev_call (ea_cons (ev_var rfl) (ea_cons (ev_fld (ev_var rfl) hx3 T.cl_Font T.n_Font_ranks (f2_snd)) ea_nil)) (v_are_turns (b3 _ _ na ha) (rows b3) h3r hS hL)))) (fun e => nomatch e) fun _ H4 e4 => ?_
  have b4 := b3.ex e4
  refine q_fldD ed_new (ev_var rfl) (e4 _ _ hx3) T.cl_Font T.n_Font_heads (by show 2 < 1000; decide) fun h H5 hh e5 h5 => ?_
  have hpf2 : putF ("heads" : Str) (.ref h) (fs2 S r) = (fs3 S r h) := by
    show (if ("word" : Str) = "heads" then _ else (_ :: if ("ranks" : Str) = "heads" then _ else _)) = _
    rw [if_neg (by decide +kernel), if_neg (by decide +kernel)]
    rfl
  rw [hpf2]
  have hhx : h ≠ x := fun z => by rw [z, e4 _ _ hx3] at hh; cases hh
  have hhr : h ≠ r := fun z => by rw [z, e4 _ _ h3r] at hh; cases hh
  have b5 : ExB x H (upd H5 x (.ins (C_Font K) dx (fs3 S r h))) := ExB.put (b4.ex e5)
  have hx5 : (upd H5 x (.ins (C_Font K) dx (fs3 S r h))) x = some (.ins (C_Font K) dx (fs3 S r h)) := upd_same
  have h5r : (upd H5 x (.ins (C_Font K) dx (fs3 S r h))) r = some (.dK (rkT S)) := by rw [upd_ne hr2]; exact e5 _ _ (e4 _ _ h3r)
  have h5h : (upd H5 x (.ins (C_Font K) dx (fs3 S r h))) h = some (.dK []) := by rw [upd_ne hhx]; exact h5
  have hh0 : H h = none := by
    cases z : H h with
    | none => rfl
    | some o => rw [b4 _ _ hhx z] at hh; cases hh
  generalize upd H5 x (.ins (C_Font K) dx (fs3 S r h)) = G5 at b5 hx5 h5r h5h
  let Pv : Nat → L2.St → Hp → Prop := fun i σ' H' => (∃ u3 u4, σ' = [some (.ref x), some (.str (tx S)), some (.ref a), u3, u4, none, none]) ∧ ExB x H H' ∧ H' x = some (.ins (C_Font K) dx (fs3 S r h)) ∧ H' r = some (.dK (rkT S)) ∧
    ∃ kvs, H' h = some (.dK kvs) ∧ HeadsD kvs (etaL (L.take i)) ∧ kvs.length ≤ 2 * i
  refine s_for (eg_rows (ev_var rfl) (b5 _ _ na ha) (rows b5)) Pv (fun H6 e6 => ⟨⟨none, none, rfl⟩, b5.ex e6, e6 _ _ hx5, e6 _ _ h5r, [], e6 _ _ h5h, heads_none, Nat.le_refl _⟩) (fun i σ' H' _ c => ⟨c.2.1 _ _ na ha, rows c.2.1⟩) (fun i y σ' H6 H7 hi c yr => ?_) fun σ' H6 c => ?_
  · obtain ⟨⟨u3, u4, rfl⟩, b6, hx6, hr6, kvs, h6', hd6, hk6⟩ := c
    obtain ⟨rfl, t, p, rfl, hp, ht⟩ := yr
    refine ⟨t, _, rfl, st_of ht, rfl, _, _, rfl, _, _, rfl, rfl, ?_⟩
    have hv : ∀ {σ : L2.St} {G : Hp}, σ[0]? = some (some (V.ref x)) → G x = some (.ins (C_Font K) dx (fs3 S r h)) → Ev (tFld K (tVar 0) "heads") σ G (.ref h) := fun {σ} {G} hσ hg => ev_fld (ev_var hσ) hg T.cl_Font T.n_Font_heads fl_heads
    refine ⟨_, rfl, hv rfl hx6 _ (Ex.refl _) _ fun H8 e8 => ⟨_, rfl, h, _, rfl, .inl ⟨kvs, kS p.1, e8 _ _ h6', rfl, sz_lt (by omega), rfl⟩, ?_⟩⟩
    have x8 : (upd H8 h (.dK (putK kvs (kS p.1) (sV p.2)))) x = some (.ins (C_Font K) dx (fs3 S r h)) := by rw [upd_ne hhx.symm]; exact e8 _ _ hx6
    refine ⟨_, rfl, hv rfl x8 _ (Ex.refl _) _ fun H9 e9 => ⟨_, rfl, h, _, rfl, .inl ⟨putK kvs (kS p.1) (sV p.2), kS p.2, e9 _ _ upd_same, rfl, sz_lt (by have := put_len (kvs := kvs) (k := kS p.1) (v := sV p.2); omega), rfl⟩, ?_⟩⟩
    refine ⟨⟨_, _, rfl⟩, fun b o n hb => ?_, ?_, ?_, _, upd_same, ?_, ?_⟩
    · have nb : b ≠ h := fun z => by rw [z, hh0] at hb; cases hb
      rw [upd_ne nb]
      exact e9 _ _ (by rw [upd_ne nb]; exact e8 _ _ (b6 b o n hb))
    · rw [upd_ne hhx.symm]; exact e9 _ _ x8
    · rw [upd_ne hhr.symm]; exact e9 _ _ (by rw [upd_ne hhr.symm]; exact e8 _ _ hr6)
    · rw [List.take_add_one, hp]
      show HeadsD _ ((L.take i ++ [p]).foldl etaS fun _ => none)
      rw [List.foldl_append]
      exact heads_step hd6 p
    · have q1 := put_len (kvs := kvs) (k := kS p.1) (v := sV p.2)
      have q2 := put_len (kvs := putK kvs (kS p.1) (sV p.2)) (k := kS p.2) (v := sV p.1)
      omega
  · obtain ⟨⟨u3, u4, rfl⟩, b6, hx6, hr6, kvs, h6', hd6, _⟩ := c
    rw [List.take_length] at hd6
    exact k H6 b6 ⟨dx, r, h, kvs, hx6, hr6, h6', hd6⟩
end P38

set_option Elab.async false
set_option linter.all false
set_option maxRecDepth 100000
set_option maxHeartbeats 4000000
namespace P38
open PySem PySem.Spec PyProof.Rows L2 Evl LamX NdefX
/-- a def that makes a lambda: its code object and the table of code objects -/
def Lm (K : PySem.W.Frag) (base : Heap) (mg : Str → Option Value) (Tb : List (Addr × Str)) (name q : Str) (st : Stmt) (f : Addr) : Prop :=
  ∃ (c PT : Addr) (oc kV doc pm ct : Value) (od an : Option Addr) (osl : Array (Option Value)), K.lookup f = some ⟨oc, od, .func (PySem.W.fnOf name name (defArgs st) (defBody st) (defScope st) .none kV doc pm an (.ref c) ct), osl⟩ ∧ PySem.W.codeIn K (.ref c) name = true ∧
    TabB base mg c PT ∧ (PT, q) ∈ Tb ∧ ∀ t ∈ Tb, t.1 = PT → t.2 = q
theorem fdOf_eq {K : PySem.W.Frag} {f : Addr} {oc : Value} {od : Option Addr} {fd : FuncData} {osl : Array (Option Value)} (h : K.lookup f = some ⟨oc, od, .func fd, osl⟩) : fdOf K f = fd := by
  unfold fdOf
  rw [h]
def sp_kind_key (K : PySem.W.Frag) : Sp := pspL fun vs zs H => ∃ p S η k, vs = [.ref p, .str (kt k)] ∧ FontAt K H p S η ∧ SOk S ∧ KOk S k ∧ zs = [k.1, k.2].map fun c => V.int (if c ∈ S then ((S.idxOf c : Nat) : Int) else ((S.length : Nat) : Int))
theorem ok_kind_key {P : Program} {w : World} {K : PySem.W.Frag} {mg : Str → Option Value} {base : Heap} (T : Tx K mg) : FnOk P w K mg base CX0 3 (f_kind_key K) (fdOf K (f_kind_key K)) ["font", "kind"] (sp_kind_key K) := by
  refine T.d_kind_key.ok sc_kind_key (fun vs H Q E h => by obtain ⟨zs, ⟨p, S, η, kd, rfl, hf, hS, hk, rfl⟩, k⟩ := h; rfl) (fun cdv A outer s H vs Q E hr h => ?_)
  obtain ⟨zs, ⟨p, S, η, kd, rfl, hf, hS, hk, rfl⟩, k⟩ := h
  refine ⟨_, PSs.nox (pss_one (ps_ret (pe_lc (own := [("side", 2)]) rfl sc_kind_key.nd (pi_str (pv 1)) (blkOk_by (own := [("side", 2)]) (N := ["font", "kind", "side"]) (sc := (defScope s_kind_key)) (by decide +kernel)) (fun _ _ _ _ _ => pg_name (i := 2) sc_kind_key.nd rfl (by first | exact Or.inl rfl | exact Or.inr rfl)) (fun _ _ _ _ _ => pts_nil) (fun _ _ _ _ _ => pe_dget2 (by exact hu_of hr) (pe_fldK (K := K) rfl (pv 0) (by rfl)) (pv 2) (pe_callB (call_lenO (ok_Font_len T) (by exact hr.mono (by first | decide | omega)) (bn_Font_len T) .nil pass0 T.i_len T.h_len) (by rfl) (by exact T.z_len) bt_len (pa_cons (pv 0) pa_nil)) ⟨by rfl, by rfl, by rfl, by rfl⟩)))), ?_⟩
  refine s_retL (el_lcM (f := sV) (L := [kd.1, kd.2]) (fun c => V.int (if c ∈ S then ((S.idxOf c : Nat) : Int) else ((S.length : Nat) : Int))) (ew_sg (ev_var rfl)) (show 2 ≤ 40000 by decide) (fun _ => rfl) fun c H1 hc e => ?_) k
  have hf1 := hf.up e
  obtain ⟨dx, r, hd, kvs, h1, h2, _⟩ := id hf1.ex
  refine ev_is (ev_dget2 (k := kS c) (ev_fld (ev_var rfl) h1 T.cl_Font T.n_Font_ranks fl_ranks) (ev_var rfl) (ev_cb (ea_cons (ev_var rfl) ea_nil) (rc_lenO h1 (by have := hS.most; omega) (v_Font_len hf1 hS))) (.inl h2)) ?_
  by_cases m : c ∈ S
  · rw [rk_get hS.nd m, if_pos m]; rfl
  · rw [rk_no m, if_neg m]; rfl
def sp_ordered (K : PySem.W.Frag) (Tb : List (Addr × Str)) : Sp := fun vs H Q _ => ∃ p d S η l, vs = [.ref p, .ref d] ∧ FontAt K H p S η ∧ SOk S ∧ StOk S l ∧ (∀ q ∈ l, 0 < q.2) ∧ H d = some (.dK (stT l)) ∧ Tabs Tb H ∧
  ∀ l' r H', l'.Perm l → ExtN H H' → Tabs Tb H' → H' r = some (.dK (stT l')) → Q (.ref r) H'
/-- values made while tables may grow -/
def EvN (te : TE) (σ : L2.St) (H : Hp) (Tb : List (Addr × Str)) (P : V → Hp → Prop) : Prop := ∀ H1, Ex H H1 → Tabs Tb H1 → ∀ Q : VK, (∀ v H2, ExtN H1 H2 → Tabs Tb H2 → P v H2 → Q v H2) → te σ H1 Q
theorem en_sort {K : PySem.W.Frag} {Tb : List (Addr × Str)} {N : List Str} {js : List Nat} {te tb : TE} {σ : L2.St} {H : Hp} {a : Addr} {xs : List V} {kz : List PyData} (he : Ev te σ H (.ref a)) (hs : SqL K H a xs ∨ ∃ kvs, Rd H a (.dK kvs) ∧ xs = kvs.map fun kv => kV kv.1)
    (hl : kz.length = xs.length) (ha : PySem.W.AllAlike kz) (hk : PySem.W.Sortable kz) (hd : ∀ d, d ∈ kz → d.depth ≤ 8) (turn : ∀ (i : Nat) (x : V) (d : PyData) (H2 : Hp), xs[i]? = some x → kz[i]? = some d → ExtN H H2 → tb (startF N [x] (js.map (slotAt σ))) H2 fun y H3 => Same H2 H3 ∧ Dp K H3 y d) :
    EvN (tSortLam K Tb N js te tb) σ H Tb (fun v H' => ∃ ys r, v = .ref r ∧ ys.Perm xs ∧ H' r = some (.lst ys)) := fun H1 e t Q q =>
  he H1 e _ fun H2 e2 => ⟨a, xs, kz, rfl, hs.imp (ex_l (e.trans e2)) (fun ⟨kvs, h1, h2⟩ => ⟨kvs, ex_rd (e.trans e2) h1, h2⟩), t.ext e2, hl, ha, hk, hd, fun i x d H3 hx hd1 e3 => turn i x d H3 hx hd1 ((ExtN.of (e.trans e2)).trans e3), fun ys p H3 py e3 t3 _ h3 => q _ H3 ((ExtN.of e2).trans e3) t3 ⟨ys, p, rfl, py, h3⟩⟩
theorem alike_ints : ∀ a b : List Int, PySem.W.alike (.list (a.map PyData.int)) (.list (b.map PyData.int)) = true := by
  have h : ∀ a b : List Int, PySem.W.alikeAll (a.map PyData.int) (b.map PyData.int) = true := fun a => by
    induction a with
    | nil => intro b; cases b <;> simp [PySem.W.alikeAll]
    | cons x a ih =>
      intro b
      cases b with
      | nil => simp [PySem.W.alikeAll]
      | cons y b => simp only [List.map_cons, PySem.W.alikeAll, ih b, PySem.W.alike, Bool.and_self]
  intro a b
  simp only [PySem.W.alike]
  exact h a b
theorem dp_ints {K : PySem.W.Frag} {H : Hp} : ∀ a : List Int, DpAll K H (a.map V.int) (a.map PyData.int)
  | [] => .nil
  | x :: a => .cons (.int x) (dp_ints a)
theorem perm_map {α β : Type} {f : α → β} {l : List α} {ys : List β} (h : ys.Perm (l.map f)) : ∃ l' : List α, l'.Perm l ∧ ys = l'.map f := by
  generalize hm : l.map f = m at h
  induction h generalizing l with
  | nil =>
    refine ⟨[], ?_, rfl⟩
    cases l with
    | nil => exact .nil
    | cons a l => cases hm
  | cons x h ih =>
    cases l with
    | nil => cases hm
    | cons a l =>
      obtain ⟨e1, e2⟩ := List.cons.inj hm
      obtain ⟨l', h1, h2⟩ := ih e2
      exact ⟨a :: l', h1.cons a, by rw [List.map_cons, h2, e1]⟩
  | swap x y r =>
    match l, hm with
    | a :: b :: l, hm =>
      obtain ⟨e1, e2⟩ := List.cons.inj hm
      obtain ⟨e3, e4⟩ := List.cons.inj e2
      exact ⟨b :: a :: l, .swap a b l, by rw [List.map_cons, List.map_cons, e1, e3, e4]⟩
  | trans h1 h2 ih1 ih2 =>
    obtain ⟨l2, p2, e2⟩ := ih2 hm
    obtain ⟨l1, p1, e1⟩ := ih1 e2.symm
    exact ⟨l1, p1.trans p2, e1⟩
theorem depth_ints (a : List Int) : (PyData.list (a.map PyData.int)).depth ≤ 8 := by
  have h : ∀ a : List Int, PyData.depthAll (a.map PyData.int) ≤ 1 := fun a => by
    induction a with
    | nil => simp [PyData.depthAll]
    | cons x a ih => simp only [List.map_cons, PyData.depthAll, PyData.depth]; omega
  have := h a
  simp only [PyData.depth]
  omega
def keyI (S : List Nat) (k : Nat × Nat) : List Int := [k.1, k.2].map fun c => if c ∈ S then ((S.idxOf c : Nat) : Int) else ((S.length : Nat) : Int)
theorem FontAt.upN {K : PySem.W.Frag} {H H' : Hp} {p : Addr} {S : List Nat} {η : Nat → Option Nat} (f : FontAt K H p S η) (e : ExtN H H') : FontAt K H' p S η := by
  obtain ⟨dx, r, h, kvs, h1, h2, h3, h4⟩ := f.ex
  exact ⟨dx, r, h, kvs, e _ _ h1 (fun _ => nofun), e _ _ h2 (fun _ => nofun), e _ _ h3 (fun _ => nofun), h4⟩
theorem ok_ordered {P : Program} {w : World} {K : PySem.W.Frag} {mg : Str → Option Value} {base : Heap} {Tb : List (Addr × Str)} (T : Tx K mg) (hL : Lm K base mg Tb "ordered" "ordered.<locals>.<lambda>" s_ordered (f_ordered K)) :
    FnOk P w K mg base CX0 20 (f_ordered K) (fdOf K (f_ordered K)) ["font", "counts"] (sp_ordered K Tb) := by
  obtain ⟨c, PT, oc, kw0, doc, pm, ct, od, an, osl, lk, hcd, htb, hmT, hu⟩ := hL
  rw [fdOf_eq lk]
  refine fn_of lk hcd sc_ordered (fun vs H Q E h => by obtain ⟨p, d, S, η, l, rfl, _⟩ := h; rfl) fun A outer s H vs Q E hr h => ?_
  obtain ⟨p, d, S, η, l, rfl, hf, hS, hl, h0, hd, ht, k⟩ := h
  refine ⟨_, PSs.nox (pss_one (ps_ret (pe_dc (own := [("kind", 2)]) rfl sc_ordered.nd (pi_list (pe_sortLam (T := Tb) (c := c) (P := PT) (N := ["kind", "font"]) (fr := ["font"]) (js := [0]) (k := 10) (by rfl) (pa_cons (pv 1) pa_nil) (by rfl) (by exact T.z_sorted) htb (by rfl) (by exact hmT) (by exact hu) (by rfl) ⟨by rfl, by rfl, by rfl, by decide +kernel, by rfl, by decide +kernel, by decide +kernel, by decide +kernel, by decide +kernel⟩ (fun _ _ _ _ _ _ => by rfl) (by show ∀ y : Str × NameKind, y ∈ _ → y.2 = NameKind.free → List.lookup y.1 (defScope s_ordered).names = some .cell ∨ List.lookup y.1 (defScope s_ordered).names = some .free; decide +kernel) (by decide +kernel) (by rfl) (by exact hr.mono (by first | decide | omega)) (fun A outer s H f c2 cl hr2 => pe_call (ok_kind_key T) (by exact hr2.mono (by first | decide | omega)) (by rfl) (by exact T.m_kind_key) (by exact T.d_kind_key.kp) (bn_kind_key T) .nil pass0 (pa_cons (pv 1) (pa_cons (pv 0) pa_nil))))) (blkOk_by (own := [("kind", 2)]) (N := ["font", "counts", "kind"]) (sc := (defScope s_ordered)) (by decide +kernel)) (fun _ _ _ _ _ => pg_name (i := 2) sc_ordered.nd rfl (by first | exact Or.inl rfl | exact Or.inr rfl)) (fun _ _ _ _ _ => pts_one (pt_cmpR op_gt (pe_dget (by exact hu_of hr) (pv 1) (pv 2) (fun _ _ => rfl)) pe_int (nomark _))) (fun _ _ _ _ _ => pv 2) (fun _ _ _ _ _ => pe_dget (by exact hu_of hr) (pv 1) (pv 2) (fun _ _ => rfl))))), ?_⟩
  have hkeys : (stT l).map (fun kv => kV kv.1) = l.map fun q => V.str (kt q.1) := by
    unfold stT tab
    rw [List.map_map]
    rfl
  let kz := l.map fun q => PyData.list ((keyI S q.1).map PyData.int)
  have hsort := en_sort (K := K) (Tb := Tb) (N := ["kind", "font"]) (js := [0]) (te := tVar 1) (tb := tCall (sp_kind_key K) [] E0 (tCons (tVar 1) (tCons (tVar 0) tNil))) (σ := L2.start ["font", "counts", "kind"] [V.ref p, V.ref d]) (kz := kz) (ev_var rfl) (.inr ⟨stT l, .inl hd, hkeys.symm⟩)
    (by rw [List.length_map, List.length_map]) (fun d1 h1 d2 h2 => by
      obtain ⟨q1, _, rfl⟩ := List.mem_map.mp h1
      obtain ⟨q2, _, rfl⟩ := List.mem_map.mp h2
      exact alike_ints _ _) (.inr fun d1 h1 => by
      obtain ⟨q1, _, rfl⟩ := List.mem_map.mp h1
      exact ⟨nofun, nofun⟩) (fun d1 h1 => by
      obtain ⟨q1, _, rfl⟩ := List.mem_map.mp h1
      exact depth_ints _) fun i x d1 H2 hx hd1 e2 => ?_
  · refine hsort H (Ex.refl _) ht _ fun v H2 e2 t2 r => ?_
    obtain ⟨ys, a, rfl, hp, h2⟩ := r
    obtain ⟨l', hp', rfl⟩ := perm_map hp
    have hd2 := e2 _ _ hd (fun _ => nofun)
    have ft : l'.filter (fun _ => true) = l' := List.filter_eq_self.mpr fun _ _ => rfl
    have nd' : (l'.map fun q : (Nat × Nat) × Nat => kK q.1).Nodup := by
      have h1 : (l'.map Prod.fst).Nodup := (hp'.map Prod.fst).nodup_iff.mpr hl.nd
      have h2 : l'.map (fun q : (Nat × Nat) × Nat => kK q.1) = (l'.map Prod.fst).map kK := by rw [List.map_map]; rfl
      rw [h2]
      exact List.Pairwise.map _ (fun a b n e => n (kK_inj e)) h1
    have hed := ed_dc (L := l') (σ := L2.start ["font", "counts", "kind"] [V.ref p, V.ref d]) (H := H2) (g := gName 2) (t := tTest (tOp (rI0 fun i j => .bl (decide (j < i))) (tDGet (tVar 1) (tVar 2)) (tC (.int 0)))) (tk := tVar 2) (tv := tDGet (tVar 1) (tVar 2)) (vs := [2]) (fun _ => true) (fun q => kK q.1) (fun q => .int ((q.2 : Nat) : Int))
      (ew_map (wi := iList K (tC (V.ref a))) (f := fun q : (Nat × Nat) × Nat => V.str (kt q.1)) (ew_list ev_c (sq_of h2))) rfl (by rw [hp'.length_eq]; have := hl.len; omega) nd' fun i q x H3 H4 hq e3 y => ?_
    · rw [ft] at hed
      exact hed H2 (Ex.refl _) (fun v H' => Q v H') fun r H3 hr3 e3 h3 => k l' r H3 hp' (e2.trans (ExtN.of e3)) (t2.ext e3) h3
    · obtain ⟨rfl, hx⟩ := y
      rw [hq] at hx
      obtain rfl : V.str (kt q.1) = x := Option.some.inj hx
      have hq2 := hp'.mem_iff.mp (List.mem_of_getElem? hq)
      have hg : Ev (tDGet (tVar 1) (tVar 2)) ((wipe (L2.start ["font", "counts", "kind"] [V.ref p, V.ref d]) [2]).set 2 (some (V.str (kt q.1)))) H4 (.int ((q.2 : Nat) : Int)) := ev_dget (k := kK q.1) (ev_var rfl) (ev_var rfl) (.inl (e3 _ _ hd2)) (hl.get hq2)
      refine ⟨_, Ex.refl _, fun Q q => q, rfl, et_test (ev_is (ev_op hg ev_c rv_I0) ?_), fun _ => ⟨ev_var rfl, hg⟩⟩
      rw [decide_eq_true (show (0 : Int) < ((q.2 : Nat) : Int) by have := h0 q hq2; omega)]
  · rw [List.getElem?_map] at hx
    cases hq : l[i]? with
    | none => rw [hq] at hx; cases hx
    | some q =>
      have hd1 : (l.map fun q => PyData.list ((keyI S q.1).map PyData.int))[i]? = some d1 := hd1
      rw [List.getElem?_map, hq] at hd1
      rw [hq] at hx
      obtain rfl := Option.some.inj hx
      obtain rfl := Option.some.inj hd1
      have hf2 : FontAt K H2 p S η := hf.upN e2
      refine el_call (σ := startF ["kind", "font"] [V.str (kt q.1)] ([0].map (slotAt (L2.start ["font", "counts", "kind"] [V.ref p, V.ref d])))) (H := H2) (ea_cons (ev_var rfl) (ea_cons (ev_var rfl) ea_nil)) (pspL_v fun H3 e3 => ⟨p, S, η, q.1, rfl, hf2.up e3, hS, hl.kinds q (List.mem_of_getElem? hq), rfl⟩) H2 (Ex.refl _) _ fun r H3 hr3 e3 h3 => ⟨e3, .lst (sq_of h3) ?_⟩
      exact dp_ints (keyI S q.1)
end P38

set_option Elab.async false
set_option linter.all false
set_option maxRecDepth 100000
set_option maxHeartbeats 4000000
namespace P38
open PySem PySem.Spec PyProof.Rows L2 Evl LamX NdefX
section
variable {K : PySem.W.Frag} {σ : L2.St} {H H' : Hp} {ta tb tc te tl td : TE} {t : TT} {g : TG} {x y z v : V}
theorem eg_rowsT {α : Type} {row : α → List V} {L : List α} {p : Addr} {ts : List Addr} (h : Ev tl σ H (.ref p)) (h1 : H p = some (.tup (ts.map V.ref))) (h2 : RowsAt H row ts L) :
    EvG (iTup K tl) σ H L.length (fun H => H p = some (.tup (ts.map V.ref)) ∧ RowsAt H row ts L) (YRow row L) := fun H1 e R q =>
  h H1 e _ fun H2 e2 => by
    have hl : (ts.map V.ref).length = L.length := by rw [List.length_map, paired_len h2]
    refine ⟨p, rfl, ⟨_, st_of (e2 _ _ (e _ _ h1))⟩, q _ H2 e2 ?_⟩
    have w := (walk_tup (K := K) (a := p) (xs := ts.map V.ref))
    rw [hl] at w
    refine w.mono (fun _ g => st_of g.1) fun i H x H' hi g y => ?_
    obtain ⟨e1, ex⟩ := y
    obtain ⟨a, ha⟩ : ∃ a, L[i]? = some a := ⟨_, List.getElem?_eq_getElem hi⟩
    obtain ⟨t, ht, hrow⟩ := paired_at g.2 ha
    rw [List.getElem?_map, ht] at ex
    exact ⟨e1, t, a, (Option.some.inj ex).symm, ha, hrow⟩
/-- rows in a list (b) or in a tuple -/
def SeqB (b : Bool) (H : Hp) (p : Addr) (ts : List Addr) : Prop := match b with
  | true => H p = some (.lst (ts.map V.ref))
  | false => H p = some (.tup (ts.map V.ref))
theorem SeqB.keep {b : Bool} {p : Addr} {ts : List Addr} (h : SeqB b H p ts) (e : ∀ o, H p = some o → (∀ ps, o ≠ .tbl ps) → H' p = some o) : SeqB b H' p ts := by
  cases b with
  | true => exact e _ h fun _ => nofun
  | false => exact e _ h fun _ => nofun
theorem eg_rowsQ {α : Type} {row : α → List V} {L : List α} {p : Addr} {ts : List Addr} {b : Bool} (h : Ev tl σ H (.ref p)) (h1 : SeqB b H p ts) (h2 : RowsAt H row ts L) :
    EvG (fun σ H R => iList K tl σ H R ∨ iTup K tl σ H R) σ H L.length (fun H => SeqB b H p ts ∧ RowsAt H row ts L) (YRow row L) := fun H1 e R q => by
  cases b with
  | true => exact .inl (eg_rows h h1 h2 H1 e R q)
  | false => exact .inr (eg_rowsT h h1 h2 H1 e R q)
/-- xs[0], xs[1] of a pair -/
theorem ev_ix0 {p : Addr} (h : Ev ta σ H (.ref p)) (ht : SqT K H p [x, y]) : Ev (tOp (rIxT K) ta (tC (.int 0))) σ H x := ev_op h ev_c (rv_ixT ht rfl)
theorem ev_ix1 {p : Addr} (h : Ev ta σ H (.ref p)) (ht : SqT K H p [x, y]) : Ev (tOp (rIxT K) ta (tC (.int 1))) σ H y := ev_op h ev_c (rv_ixT ht rfl)
theorem q_asgD {D : Ends} {tz : TS} {i : Nat} {kvs : List (Key × V)} (h : EvD te σ H kvs) (k : ∀ p H1, H p = none → Ex H H1 → H1 p = some (.dK kvs) → tz D (σ.set i (some (.ref p))) H1) : tSeq (tAsg te (gName i)) tz D σ H := h H (Ex.refl _) _ fun p H1 hp e h1 => k p H1 hp e h1
/-- d[k] = v, k a new key -/
theorem s_dput {D : Ends} {d : Addr} {kvs : List (Key × V)} {k : Key} (hv : Ev tl σ H v) (ht : Ev td σ H (.ref d)) (hk : Ev te σ H (kV k)) (hd : H d = some (.dK kvs)) (hl : kvs.length < 100000) (kk : ∀ H1, Ex H H1 → D.nx σ (upd H1 d (.dK (putK kvs k v)))) : sDPut td te tl D σ H :=
  hv H (Ex.refl _) _ fun H1 e1 => ht H1 e1 _ fun H2 e2 => hk H2 (e1.trans e2) _ fun H3 e3 => ⟨d, _, rfl, .inl ⟨kvs, k, ((e1.trans e2).trans e3) _ _ hd, rfl, sz_lt hl, rfl⟩, kk H3 ((e1.trans e2).trans e3)⟩
end
/-- the rows given to Case: a kind written either way, and its count -/
abbrev Row := (Nat × Nat) × ((Nat × Nat) × Nat)
def rowE (r : Row) : List V := [.str (kt r.1), .int ((r.2.2 : Nat) : Int)]
structure RowsOk (S : List Nat) (E : List Row) : Prop where
  way : ∀ r ∈ E, Way r.2.1 r.1
  st : StOk S (E.map Prod.snd)
  pos : ∀ r ∈ E, 0 < r.2.2
  small : ∀ r ∈ E, ((r.2.2 : Nat) : Int) ≤ 10 ^ 30
theorem stT_take {S : List Nat} {l : Stock} (h : StOk S l) {i : Nat} {q : (Nat × Nat) × Nat} (hq : l[i]? = some q) : valV (stT (l.take i)) (kK q.1) = none ∧ putK (stT (l.take i)) (kK q.1) (.int ((q.2 : Nat) : Int)) = stT (l.take (i + 1)) := by
  have tk : l.take (i + 1) = l.take i ++ [q] := by rw [List.take_add_one, hq]; rfl
  have nd : ((l.take (i + 1)).map Prod.fst).Nodup := List.Nodup.sublist (List.Sublist.map _ (List.take_sublist _ _)) h.nd
  rw [tk, List.map_append] at nd
  have no : ∀ b ∈ l.take i, kK b.1 ≠ kK q.1 := fun b hb e => nodup_snoc nd b.1 (List.mem_map_of_mem hb) (kK_inj e)
  refine ⟨tab_no no, ?_⟩
  rw [tk]
  exact tab_snoc no
def sp_checked (K : PySem.W.Frag) (Tb : List (Addr × Str)) : Sp := fun vs H Q _ => ∃ p a b S η E ts, vs = [.ref p, .ref a] ∧ FontAt K H p S η ∧ SOk S ∧ SeqB b H a ts ∧ RowsAt H rowE ts E ∧ RowsOk S E ∧ Tabs Tb H ∧
  ∀ l' r H', l'.Perm (E.map Prod.snd) → ExtN H H' → Tabs Tb H' → H' r = some (.dK (stT l')) → Q (.ref r) H'
theorem v_is_listB {K : PySem.W.Frag} {b : Bool} {H : Hp} {a : Addr} {ts : List Addr} (h : SeqB b H a ts) : SpV (sp_is_list K) [.ref a] H (.bl true) := by
  cases b with
  | true => exact v_is_list (.inl (sq_of h))
  | false => exact v_is_list (.inr (st_of h))
theorem ok_checked_counts {P : Program} {w : World} {K : PySem.W.Frag} {mg : Str → Option Value} {base : Heap} {Tb : List (Addr × Str)} (T : Tx K mg) (hL : Lm K base mg Tb "ordered" "ordered.<locals>.<lambda>" s_ordered (f_ordered K)) :
    FnOk P w K mg base CX0 22 (f_checked_counts K) (fdOf K (f_checked_counts K)) ["font", "plates"] (sp_checked K Tb) := by
  have ok_ordered := fun (T : Tx K mg) => ok_ordered (P := P) (w := w) (base := base) T hL
  refine T.d_checked_counts.ok sc_checked_counts (fun vs H Q E h => by obtain ⟨p, a, b, S, η, E, ts, rfl, _⟩ := h; rfl) (fun cdv A outer s H vs Q E0_ hr h => ?_)
  obtain ⟨p, a, b, S, η, E, ts, rfl, hf, hS, ha, hts, hE, ht, k⟩ := h
  refine ⟨_, PSs.nox (pss_cons (ps_if (pt_not (pt_val (pe_call (ok_is_list T) (by exact hr.mono (by first | decide | omega)) (by rfl) (by exact T.m_is_list) (by exact T.d_is_list.kp) (bn_is_list T) .nil pass0 (pa_cons (pv 1) pa_nil)))) (pss_one ps_never) pss_nil) (
pss_cons (ps_set (i := 2) sc_checked_counts.nd rfl (by first | exact Or.inl rfl | exact Or.inr rfl) pe_dnewK) (
pss_cons (ps_for PassesOwn.never rfl (pi_or (pi_list (pv 1)) (pi_tup (pv 1))) (pg_name (i := 3) sc_checked_counts.nd rfl (by first | exact Or.inl rfl | exact Or.inr rfl)) (
pss_cons (ps_if (PW.pt (pw_or (pt_not (pt_val (pe_call (ok_is_tuple_of T) (by exact hr.mono (by first | decide | omega)) (by rfl) (by exact T.m_is_tuple_of) (by exact T.d_is_tuple_of.kp) (bn_is_tuple_of T) .nil pass0 (pa_cons (pv 3) (pa_cons pe_int pa_nil))))) (pw_or (pt_not (pt_val (pe_call (ok_is_kind T) (by exact hr.mono (by first | decide | omega)) (by rfl) (by exact T.m_is_kind) (by exact T.d_is_kind.kp) (bn_is_kind T) .nil pass0 (pa_cons (pv 0) (pa_cons (pe_ix ix_tup (pv 3) pe_int (fun _ _ => rfl)) pa_nil))))) (pw_or1 (pt_not (pt_val (pe_call (ok_is_between T) (by exact hr.mono (by first | decide | omega)) (by rfl) (by exact T.m_is_between) (by exact T.d_is_between.kp) (bn_is_between T) .nil pass0 (pa_cons (pe_ix ix_tup (pv 3) pe_int (fun _ _ => rfl)) (pa_cons pe_int (pa_cons (pe_gi (by rfl) (by exact T.c_MAX_COUNT_cases)) pa_nil)))))))))) (pss_one ps_never) pss_nil) (
pss_cons (ps_set (i := 4) sc_checked_counts.nd rfl (by first | exact Or.inl rfl | exact Or.inr rfl) (pe_meth (pv 0) T.cl_Font T.M_Font_normal (ok_Font_normal T) (by exact hr.mono (by first | decide | omega)) (bn_Font_normal T) .nil pass0 (pa_cons (pe_ix ix_tup (pv 3) pe_int (fun _ _ => rfl)) pa_nil))) (
pss_cons (ps_if (pt_cmp (pc_din (by exact hu_of hr) (pv 4) (pv 2))) (pss_one ps_never) pss_nil) (
pss_one (ps_dput (by exact hu_of hr) (pv 2) (pv 4) (pe_ix ix_tup (pv 3) pe_int (fun _ _ => rfl)) rfl)))))) (
pss_one (ps_ret (pe_call (ok_ordered T) (by exact hr.mono (by first | decide | omega)) (by rfl) (by exact T.m_ordered) (by exact T.d_ordered.kp) (bn_ordered T) .nil pass0 (pa_cons (pv 0) (pa_cons (pv 2) pa_nil)))))))), ?_⟩
  have h30 := hE.st.len
  rw [List.length_map] at h30
  refine q_when (b := false) (et_not (et_test (ev_call (ea_cons (ev_var rfl) ea_nil) (v_is_listB (K := K) ha)))) (fun e => nomatch e) fun _ H1 e1 => ?_
  refine q_asgD ed_new fun x H2 hx e2 h2 => ?_
  have e12 := e1.trans e2
  have hx0 : H x = none := fresh_back e1 hx
  let Pv : Nat → L2.St → Hp → Prop := fun i σ' H' => (∃ u3 u4, σ' = [some (.ref p), some (.ref a), some (.ref x), u3, u4]) ∧ Ex H H' ∧ H' x = some (.dK (stT ((E.map Prod.snd).take i)))
  refine q_for (eg_rowsQ (ev_var rfl) (ha.keep fun o h _ => e12 _ _ h) (hts.up e12)) Pv (fun H3 e3 => ⟨⟨none, none, rfl⟩, e12.trans e3, by rw [e3 _ _ h2, List.take_zero]; rfl⟩) (fun i σ' H' _ c => ⟨ha.keep fun o h _ => c.2.1 _ _ h, hts.up c.2.1⟩) (fun i y σ' H3 H4 hi c yr => ?_) fun σ' H3 c => ?_
  · obtain ⟨⟨u3, u4, rfl⟩, e3, h3⟩ := c
    obtain ⟨rfl, t, r, rfl, hr2, ht2⟩ := yr
    have hrm := List.mem_of_getElem? hr2
    have hq : (E.map Prod.snd)[i]? = some r.2 := by rw [List.getElem?_map, hr2]; rfl
    have hk := hE.st.kinds r.2 (List.mem_map_of_mem hrm)
    have hw := hE.way r hrm
    have hst : SqT K H4 t [.str (kt r.1), .int ((r.2.2 : Nat) : Int)] := st_of ht2
    obtain ⟨n1, n2⟩ := stT_take hE.st hq
    refine q_when (b := false) (et_is (et_or (et_not (et_test (ev_call (ea_cons (ev_var rfl) (ea_cons ev_c ea_nil)) (v_is_tuple_of hst)))) fun _ => et_or (et_not (et_test (ev_call (ea_cons (ev_var rfl) (ea_cons (ev_ix0 (ev_var rfl) hst) ea_nil)) (v_is_kind (hf.up e3) hS hk hw)))) fun _ => et_not (et_test (ev_call (ea_cons (ev_ix1 (ev_var rfl) hst) (ea_cons ev_c (ea_cons ev_c ea_nil))) (v_is_between (by have := hE.pos r hrm; omega) (hE.small r hrm))))) rfl) (fun e => nomatch e) fun _ H5 e5 => ?_
    have e35 := e3.trans e5
    have hst5 : SqT K H5 t [.str (kt r.1), .int ((r.2.2 : Nat) : Int)] := st_of (e5 _ _ ht2)
    have hf5 := hf.up e35
    obtain ⟨dx, rr, hd, kvs, hi5, _⟩ := id hf5.ex
    refine q_asg (ev_meth (ev_var rfl) hi5 fl_no (ea_cons (ev_ix0 (ev_var rfl) hst5) ea_nil) (v_Font_normal hf5 hS hk hw)) fun H6 e6 => ?_
    have h6 := e6 _ _ (e5 _ _ h3)
    refine q_when (b := false) (et_B (ev_is (ev_din (k := kK r.2.1) (ev_var rfl) (ev_var rfl) (.inl h6)) (by rw [n1]; rfl))) (fun e => nomatch e) fun _ H7 e7 => ?_
    have h7 := e7 _ _ h6
    have hst7 : SqT K H7 t [.str (kt r.1), .int ((r.2.2 : Nat) : Int)] := st_of (e7 _ _ (e6 _ _ (e5 _ _ ht2)))
    refine s_dput (k := kK r.2.1) (ev_ix1 (ev_var rfl) hst7) (ev_var rfl) (ev_var rfl) h7 (by rw [stT, tab_len, List.length_take, List.length_map]; omega) fun H8 e8 => ⟨⟨_, _, rfl⟩, Ex.mut (((e35.trans e6).trans e7).trans e8) hx0, ?_⟩
    rw [upd_same, n2]
  · obtain ⟨⟨u3, u4, rfl⟩, e3, h3⟩ := c
    rw [show E.length = (E.map Prod.snd).length from (List.length_map ..).symm, List.take_length] at h3
    refine ea_cons (ta := tVar 0) (x := .ref p) (ev_var rfl) (ea_cons (ta := tVar 2) (x := .ref x) (ev_var rfl) ea_nil) H3 (Ex.refl _) (fun vs H1 => sp_ordered K Tb (vs ++ []) H1 Q E0) fun H5 e5 => ?_
    have e35 := e3.trans e5
    exact ⟨p, x, S, η, E.map Prod.snd, rfl, hf.up e35, hS, hE.st, fun q hq => by obtain ⟨r, hr, rfl⟩ := List.mem_map.mp hq; exact hE.pos r hr, e5 _ _ h3, ht.ext e35, fun l' r H' hp e t h => k l' r H' hp ((ExtN.of e35).trans e) t h⟩
/-- all but one object and the tables stay -/
def ExC (x : Addr) (H H' : Hp) : Prop := ∀ b o, b ≠ x → H b = some o → (∀ ps, o ≠ .tbl ps) → H' b = some o
theorem FontAt.upC {K : PySem.W.Frag} {H H' : Hp} {x p : Addr} {S : List Nat} {η : Nat → Option Nat} (f : FontAt K H p S η) (e : ExC x H H') (hx : ∀ dx, H x = some (.ins (C_Case K) dx []) → True) (n : ∀ o, H x = some o → ∃ C dx, o = .ins C dx []) : FontAt K H' p S η := by
  obtain ⟨dx, r, h, kvs, h1, h2, h3, h4⟩ := f.ex
  have g : ∀ {b : Addr} {o : HO}, H b = some o → (∀ C dx, o ≠ .ins C dx []) → b ≠ x := fun {b} {o} hb no z => by
    rw [z] at hb
    obtain ⟨C, dx, e⟩ := n _ hb
    exact no C dx e
  exact ⟨dx, r, h, kvs, e _ _ (g h1 fun _ _ => nofun) h1 (fun _ => nofun), e _ _ (g h2 fun _ _ => nofun) h2 (fun _ => nofun), e _ _ (g h3 fun _ _ => nofun) h3 (fun _ => nofun), h4⟩
theorem tabs_ins {Tb : List (Addr × Str)} {H : Hp} {x C dx : Addr} {fs fs' : List (Str × V)} (t : Tabs Tb H) (hx : H x = some (.ins C dx fs)) : Tabs Tb (upd H x (.ins C dx fs')) := fun p hp => by
  obtain ⟨ps, h1, h2, h3⟩ := t p hp
  refine ⟨ps, by rw [upd_ne fun z => by rw [z, hx] at h1; cases h1]; exact h1, h2, fun pos cv hc => ?_⟩
  obtain ⟨c, e1, e2⟩ := h3 pos cv hc
  exact ⟨c, e1, by rw [upd_ne fun z => by rw [z, hx] at e2; cases e2]; exact e2⟩
abbrev gs1 (f : Addr) : List (Str × V) := [("own_font", .ref f)]
abbrev gs2 (f st : Addr) : List (Str × V) := [("own_font", .ref f), ("stock", .ref st)]
def sp_Pile_init (K : PySem.W.Frag) (Tb : List (Addr × Str)) : Sp := fun vs H Q _ => ∃ x dx p d S η l, vs = [.ref x, .ref p, .ref d] ∧ H x = some (.ins (C_Case K) dx []) ∧ FontAt K H p S η ∧ SOk S ∧ StOk S l ∧ (∀ q ∈ l, 0 < q.2) ∧ H d = some (.dK (stT l)) ∧ Tabs Tb H ∧
  ∀ l' H', l'.Perm l → ExC x H H' → Tabs Tb H' → CaseAt K H' x p S η l' → Q .non H'
theorem ok_Pile_init {P : Program} {w : World} {K : PySem.W.Frag} {mg : Str → Option Value} {base : Heap} {Tb : List (Addr × Str)} (T : Tx K mg) (hL : Lm K base mg Tb "ordered" "ordered.<locals>.<lambda>" s_ordered (f_ordered K)) :
    FnOk P w K mg base CX0 22 (f_Pile_init K) (fdOf K (f_Pile_init K)) ["self", "font", "counts"] (sp_Pile_init K Tb) := by
  have ok_ordered := fun (T : Tx K mg) => ok_ordered (P := P) (w := w) (base := base) T hL
  refine T.d_Pile_init.ok sc_Pile_init (fun vs H Q E h => by obtain ⟨x, dx, p, d, S, η, l, rfl, _⟩ := h; rfl) (fun cdv A outer s H vs Q E0_ hr h => ?_)
  obtain ⟨x, dx, p, d, S, η, l, rfl, hx, hf, hS, hl, h0, hd, ht, k⟩ := h
  refine ⟨_, PSs.nox (pss_cons (ps_fld (pv 0) (pv 1) rfl) (
pss_one (ps_fld (pv 0) (pe_call (ok_ordered T) (by exact hr.mono (by first | decide | omega)) (by rfl) (by exact T.m_ordered) (by exact T.d_ordered.kp) (bn_ordered T) .nil pass0 (pa_cons (pv 1) (pa_cons (pv 2) pa_nil))) rfl))), ?_⟩
  have hxi : ∀ o, H x = some o → ∃ C dx, o = .ins C dx [] := fun o h => ⟨_, _, Option.some.inj (h.symm.trans hx)⟩
  refine q_fld (ev_var rfl) (ev_var rfl) hx T.cl_Case T.n_Case_own_font (by show 0 < 1000; decide) fun H1 e1 => ?_
  show sFld _ _ _ _ _ _ (upd H1 x (.ins (C_Case K) dx (gs1 p)))
  have c1 : ExC x H (upd H1 x (.ins (C_Case K) dx (gs1 p))) := fun b o n hb _ => by rw [upd_ne n]; exact e1 _ _ hb
  have hd1 : (upd H1 x (.ins (C_Case K) dx (gs1 p))) d = some (.dK (stT l)) := c1 _ _ (fun z => by rw [z, hx] at hd; cases hd) hd fun _ => nofun
  have hx1 : (upd H1 x (.ins (C_Case K) dx (gs1 p))) x = some (.ins (C_Case K) dx (gs1 p)) := upd_same
  have hf1 : FontAt K (upd H1 x (.ins (C_Case K) dx (gs1 p))) p S η := hf.upC c1 (fun _ _ => trivial) hxi
  have ht1 : Tabs Tb (upd H1 x (.ins (C_Case K) dx (gs1 p))) := tabs_ins (ht.ext e1) (e1 _ _ hx)
  generalize upd H1 x (.ins (C_Case K) dx (gs1 p)) = G1 at c1 hd1 hx1 hf1 ht1
  refine ea_cons (ta := tVar 1) (x := .ref p) (ev_var rfl) (ea_cons (ta := tVar 2) (x := .ref d) (ev_var rfl) ea_nil) G1 (Ex.refl _) (fun vs H1 => sp_ordered K Tb (vs ++ []) H1 _ E0) fun H2 e2 => ?_
  refine ⟨p, d, S, η, l, rfl, hf1.up e2, hS, hl, h0, e2 _ _ hd1, ht1.ext e2, fun l' r H3 hp e3 t3 h3 => ?_⟩
  have x3 := e3 _ _ (e2 _ _ hx1) fun _ => nofun
  refine ⟨_, rfl, x, C_Case K, dx, _, rfl, x3, T.cl_Case, T.n_Case_stock, by show 1 < 1000; decide, ?_⟩
  have hpf : putF ("stock" : Str) (.ref r) (gs1 p) = gs2 p r := by
    show (if ("own_font" : Str) = "stock" then _ else _) = _
    rw [if_neg (by decide +kernel)]
    rfl
  rw [hpf]
  have c3 : ExC x H (upd H3 x (.ins (C_Case K) dx (gs2 p r))) := fun b o n hb nt => by rw [upd_ne n]; exact e3 _ _ (e2 _ _ (c1 _ _ n hb nt)) nt
  have rx : r ≠ x := fun z => by rw [z, x3] at h3; cases h3
  exact k l' _ hp c3 (tabs_ins t3 x3) ⟨⟨dx, r, upd_same, by rw [upd_ne rx]; exact h3⟩, hf.upC c3 (fun _ _ => trivial) hxi⟩
end P38

set_option Elab.async false
set_option linter.all false
set_option maxRecDepth 100000
set_option maxHeartbeats 4000000
namespace P38
open PySem PySem.Spec PyProof.Rows L2 Evl LamX NdefX
/-- Case.__init__ as it stands behind the top -/
def SupC (P : Program) (K : PySem.W.Frag) (mg : Str → Option Value) : Prop := ∃ cc cda : Addr, SupAt P K mg (C_Case K) (f_Case_init K) (f_Pile_init K) cc cda "Case.__init__" (defArgs s_Case_init) (defBody s_Case_init) (defScope s_Case_init) (fdOf K (f_Case_init K)) ∧
  ∃ (TT : Addr) (kv doc pm ct : Value) (an : Option Addr) (o : Obj) (its : List Value) (m : Nat), fdOf K (f_Case_init K) = PySem.W.fnX "__init__" "Case.__init__" (defArgs s_Case_init) (defBody s_Case_init) (defScope s_Case_init) [("__class__", cc)] (.ref TT) kv doc pm an (.ref cda) ct ∧
    K.lookup TT = some o ∧ o.data = .seq its.toArray m ∧ its.length = 1
theorem bn_Case_init {P : Program} {K : PySem.W.Frag} {mg : Str → Option Value} (h : SupC P K mg) : Binds K (fdOf K (f_Case_init K)) ["self", "font", "plates"] [] := by
  obtain ⟨cc, cda, _, TT, kv, doc, pm, ct, an, o, its, m, e, lT, oT, hl⟩ := h
  rw [e]
  intro s us X hlen
  match its, hl with
  | [i], _ =>
    have hl3 : us.length = 3 := by simpa using hlen
    match us, hl3 with
    | [a, b, c], _ =>
      refine BindsTo.of_looks fun M => ?_
      have hk : ∃ k, bindArgs (PySem.W.fnX "__init__" "Case.__init__" (defArgs s_Case_init) (defBody s_Case_init) (defScope s_Case_init) [("__class__", cc)] (.ref TT) kv doc pm an (.ref cda) ct) ⟨[a, b, c], []⟩ = seqItems? (.ref TT) >>= k ∧ k (some [i].toArray) = pure ((["self", "font", "plates"] : List Str).zip ([a, b, c] ++ [])) := ⟨_, rfl, rfl⟩
      obtain ⟨k, e1, e2⟩ := hk
      rw [show ([a, b, c] ++ ([] : List Value)) = [a, b, c] from rfl, e1]
      exact looks_items X lT oT (.of_pure e2)
def sp_Case_init (K : PySem.W.Frag) (Tb : List (Addr × Str)) : Sp := fun vs H Q _ => ∃ x dx p a b S η E ts, vs = [.ref x, .ref p, .ref a] ∧ H x = some (.ins (C_Case K) dx []) ∧ FontAt K H p S η ∧ SOk S ∧ SeqB b H a ts ∧ RowsAt H rowE ts E ∧ RowsOk S E ∧ Tabs Tb H ∧
  ∀ l' H', l'.Perm (E.map Prod.snd) → ExC x H H' → Tabs Tb H' → CaseAt K H' x p S η l' → Q .non H'
theorem StOk.perm {S : List Nat} {l l' : Stock} (h : StOk S l) (p : l'.Perm l) : StOk S l' := ⟨fun q hq => h.kinds q (p.mem_iff.mp hq), (p.map Prod.fst).nodup_iff.mpr h.nd, by rw [p.length_eq]; exact h.len, fun q hq => h.big q (p.mem_iff.mp hq)⟩
theorem ok_Case_init {P : Program} {w : World} {K : PySem.W.Frag} {mg : Str → Option Value} {base : Heap} {Tb : List (Addr × Str)} (T : Tx K mg) (hL : Lm K base mg Tb "ordered" "ordered.<locals>.<lambda>" s_ordered (f_ordered K)) (hC : SupC P K mg) :
    FnOk P w K mg base CX0 24 (f_Case_init K) (fdOf K (f_Case_init K)) ["self", "font", "plates"] (sp_Case_init K Tb) := by
  obtain ⟨cc, cda, U, _⟩ := hC
  refine ok_super (N := ["self", "font", "plates", "__class__"]) (a1 := "font") (a2 := "plates") (t := tCons (tVar 1) (tCons (tCall (sp_checked K Tb) [] E0 (tCons (tVar 1) (tCons (tVar 2) tNil))) tNil)) U ⟨rfl, rfl, rfl, by decide +kernel, rfl, by decide +kernel, by decide +kernel, by decide +kernel, by decide +kernel⟩ (by decide +kernel) (by rfl) ⟨_, rfl, rfl⟩ (ok_Pile_init (base := base) T hL) (bn_Pile_init T) (fun A outer s H Q E hr => ?_) (fun L => rfl) (fun L => rfl) (fun env => by rfl) fun vs H Q E h => ?_
  · exact pa_cons (pv 1) (pa_cons (pe_call (ok_checked_counts T hL) (by exact hr.mono (by decide)) (by rfl) (by exact T.m_checked_counts) (by exact T.d_checked_counts.kp) (bn_checked_counts T) .nil pass0 (pa_cons (pv 1) (pa_cons (pv 2) pa_nil))) pa_nil)
  · obtain ⟨x, dx, p, a, b, S, η, Er, ts, rfl, hx, hf, hS, ha, hts, hE, ht, k⟩ := h
    refine ⟨x, dx, [], .ref p, .ref a, rfl, hx, ?_⟩
    refine ⟨_, rfl, ?_⟩
    refine ⟨_, rfl, _, rfl, p, a, b, S, η, Er, ts, rfl, hf, hS, ha, hts, hE, ht, fun l' r H1 hp e1 t1 h1 => ?_⟩
    refine ⟨x, dx, p, r, S, η, l', rfl, e1 _ _ hx fun _ => nofun, hf.upN e1, hS, hE.st.perm hp, fun q hq => ?_, h1, t1, fun l2 H2 hp2 c2 t2 hc => k l2 H2 (hp2.trans hp) (fun b o n hb nt => c2 _ _ n (e1 _ _ hb nt) nt) t2 hc⟩
    obtain ⟨r', hr', rfl⟩ := List.mem_map.mp (hp.mem_iff.mp hq)
    exact hE.pos r' hr'
end P38

set_option Elab.async false
set_option linter.all false
set_option maxRecDepth 100000
set_option maxHeartbeats 4000000
namespace P38
open PySem PySem.Spec PyProof.Rows L2 Evl LamX NdefX
/-- the counts given to Wants -/
def cnT (need : Nat → Int) (M : List Nat) : List (Key × V) := tab kS (fun c => .int (need c)) M
def sp_are_counts (K : PySem.W.Frag) : Sp := psp fun vs z H => ∃ p d S η need M, vs = [.ref p, .ref d] ∧ (∀ o, FontAt K (upd H d o) p S η) ∧ S.Nodup ∧ H d = some (.dK (cnT need M)) ∧ (∀ c ∈ M, c ∈ S ∧ 0 ≤ need c) ∧ M.length ≤ 100 ∧ z = .bl true
theorem fresh_font {K : PySem.W.Frag} {H H1 : Hp} {p d : Addr} {S : List Nat} {η : Nat → Option Nat} (e : Ex H H1) (h : ∀ o, FontAt K (upd H d o) p S η) : ∀ o, FontAt K (upd H1 d o) p S η := fun o => by
  have e1 : Ex (upd H d o) (upd H1 d o) := fun b u hb => by
    by_cases c : b = d
    · rw [c, upd_same] at hb ⊢; exact hb
    · rw [upd_ne c] at hb ⊢; exact e _ _ hb
  exact (h o).up e1
theorem tyD {K : PySem.W.Frag} {H : Hp} {d : Addr} {kvs : List (Key × V)} (h : H d = some (.dK kvs)) : TyX K H (.ref d) (.type "dict") := .base (.dK h)
section
variable {td : TE} {σ : L2.St} {H : Hp}
/-- the keys, the values of a locked table by signs -/
theorem ew_tabS {d : Addr} {M : List Nat} {need : Nat → Int} {o : Obj} (h : Ev td σ H (.ref d)) (hd : H d = some (.frz o (.dK (cnT need M)))) : EvW (iKeys td) σ H M.length (fun i H x H' => H' = H ∧ M[i]?.map sV = some x) := fun H1 e R q => by
  have w := ew_keys h hd H1 e R
  rw [show (cnT need M).length = M.length from tab_len] at w
  refine w fun J G H2 e2 wk hG => q J G H2 e2 (wk.mono (fun _ g => g) fun i H x H' hi _ y => ?_) hG
  obtain ⟨e1, k, v, hk, rfl⟩ := y
  refine ⟨e1, ?_⟩
  unfold cnT tab at hk
  rw [List.getElem?_map] at hk
  cases hc : M[i]? with
  | none => rw [hc] at hk; cases hk
  | some c =>
    rw [hc] at hk
    rw [← (Prod.mk.inj (Option.some.inj hk)).1]
    rfl
theorem ew_tabV {d : Addr} {M : List Nat} {need : Nat → Int} {o : Obj} (h : Ev td σ H (.ref d)) (hd : H d = some (.frz o (.dK (cnT need M)))) : EvW (iVals td) σ H M.length (fun i H x H' => H' = H ∧ M[i]?.map (fun c => V.int (need c)) = some x) := fun H1 e R q => by
  have w := ew_vals h hd H1 e R
  rw [show (cnT need M).length = M.length from tab_len] at w
  refine w fun J G H2 e2 wk hG => q J G H2 e2 (wk.mono (fun _ g => g) fun i H x H' hi _ y => ?_) hG
  obtain ⟨e1, k, hk⟩ := y
  refine ⟨e1, ?_⟩
  unfold cnT tab at hk
  rw [List.getElem?_map] at hk
  cases hc : M[i]? with
  | none => rw [hc] at hk; cases hk
  | some c =>
    rw [hc] at hk
    rw [← (Prod.mk.inj (Option.some.inj hk)).2]
    rfl
end
theorem ok_are_counts {P : Program} {w : World} {K : PySem.W.Frag} {mg : Str → Option Value} {base : Heap} (T : Tx K mg) : FnOk P w K mg base CX0 3 (f_are_counts K) (fdOf K (f_are_counts K)) ["font", "value"] (sp_are_counts K) := by
  refine T.d_are_counts.ok sc_are_counts (fun vs H Q E h => by obtain ⟨z, ⟨p, d, S, η, need, M, rfl, hf, hS, hd, hM, hl, rfl⟩, k⟩ := h; rfl) (fun cdv A outer s H vs Q E hr h => ?_)
  obtain ⟨z, ⟨p, d, S, η, need, M, rfl, hf, hS, hd, hM, hl, rfl⟩, k⟩ := h
  refine ⟨_, PSs.nox (pss_cons (ps_if (PW.pt (pw_or (pt_not (pt_val (pe_callB (call_is "dict" "dict" true (by decide +kernel)) (by rfl) (by exact T.z_isinstance) bt_isinstance (pa_cons (pv 1) (pa_cons (pe_bltn (v := .ty "dict") (by rfl) (by exact T.z_dict) bt_dict rfl) pa_nil))))) (pw_or1 (pt_not (pt_val (pe_callB (cr_all rfl) (by rfl) (by exact T.z_all) bt_all (pa_cons (pe_lock (pe_lc (own := [("sign", 3)]) rfl sc_are_counts.nd (pi_keys (pv 1)) (blkOk_by (own := [("sign", 3)]) (N := ["font", "value", "count", "sign"]) (sc := (defScope s_are_counts)) (by decide +kernel)) (fun _ _ _ _ _ => pg_name (i := 3) sc_are_counts.nd rfl (by first | exact Or.inl rfl | exact Or.inr rfl)) (fun _ _ _ _ _ => pts_nil) (fun _ _ _ _ _ => pe_call (ok_is_sign T) (by exact hr.mono (by first | decide | omega)) (by rfl) (by exact T.m_is_sign) (by exact T.d_is_sign.kp) (bn_is_sign T) .nil pass0 (pa_cons (pv 0) (pa_cons (pv 3) pa_nil))))) pa_nil))))))) (pss_one (ps_ret pe_bl)) pss_nil) (
pss_one (ps_ret (pe_callB (cr_all rfl) (by rfl) (by exact T.z_all) bt_all (pa_cons (pe_lock (pe_lc (own := [("count", 2)]) rfl sc_are_counts.nd (pi_values (pv 1)) (blkOk_by (own := [("count", 2)]) (N := ["font", "value", "count", "sign"]) (sc := (defScope s_are_counts)) (by decide +kernel)) (fun _ _ _ _ _ => pg_name (i := 2) sc_are_counts.nd rfl (by first | exact Or.inl rfl | exact Or.inr rfl)) (fun _ _ _ _ _ => pts_nil) (fun _ _ _ _ _ => pe_and (pe_call (ok_is_integer T) (by exact hr.mono (by first | decide | omega)) (by rfl) (by exact T.m_is_integer) (by exact T.d_is_integer.kp) (bn_is_integer T) .nil pass0 (pa_cons (pv 2) pa_nil)) (pe_one (pe_cmpR op_ge (pv 2) pe_int (nomark _)))))) pa_nil))))), ?_⟩
  have hfl : ∀ {H1 : Hp}, Ex H H1 → ∀ od, FontAt K (upd H1 d od) p S η := fun {H1} e => fresh_font e hf
  refine q_when (b := false) (et_is (et_or (et_not (et_test (ev_cb (ea_cons (ev_var rfl) (ea_cons ev_c ea_nil)) (rc_is fun H1 e => tyD (e _ _ hd))))) fun _ => et_not (et_test (ev_allT (bs := M.map fun _ => V.bl true) (el_lock hd (by exact trivial) fun od => ?_) (by simp)))) rfl) (fun e => nomatch e) fun _ H1 e1 => ?_
  · refine el_lcM (f := sV) (L := M) (fun _ => V.bl true) (ew_tabS (ev_var rfl) upd_same) (by omega) (fun _ => rfl) fun c H2 hc e2 => ?_
    exact ev_call (ea_cons (ev_var rfl) (ea_cons (ev_var rfl) ea_nil)) (v_is_sign ((hf _).up e2) hS (hM c hc).1)
  · refine s_ret (ev_allT (bs := M.map fun _ => V.bl true) (el_lock (e1 _ _ hd) (by exact trivial) fun od => ?_) (by simp)) fun H2 e2 => k H2 (e1.trans e2)
    refine el_lcM (f := fun c => V.int (need c)) (L := M) (fun _ => V.bl true) (ew_tabV (ev_var rfl) upd_same) (by omega) (fun _ => rfl) fun c H2 hc e2 => ?_
    exact ev_is (ev_andV (a := true) (b := true) (ev_call (ea_cons (ev_var rfl) ea_nil) v_is_integer) fun _ => ev_is (ev_op (ev_var rfl) ev_c rv_I0) (by rw [decide_eq_true (hM c hc).2])) rfl
theorem v_are_counts {K : PySem.W.Frag} {H : Hp} {p d : Addr} {S M : List Nat} {η : Nat → Option Nat} {need : Nat → Int} (hf : ∀ o, FontAt K (upd H d o) p S η) (hS : S.Nodup) (hd : H d = some (.dK (cnT need M))) (hM : ∀ c ∈ M, c ∈ S ∧ 0 ≤ need c) (hl : M.length ≤ 100) : SpV (sp_are_counts K) [.ref p, .ref d] H (.bl true) :=
  psp_v fun H1 e => ⟨p, d, S, η, need, M, rfl, fresh_font e hf, hS, e _ _ hd, hM, hl, rfl⟩
abbrev ws1 (f : Addr) : List (Str × V) := [("own_font", .ref f)]
abbrev ws2 (f n : Addr) : List (Str × V) := [("own_font", .ref f), ("numbers", .ref n)]
def sp_Wants_init (K : PySem.W.Frag) : Sp := fun vs H Q _ => ∃ x dx p d S η need M, vs = [.ref x, .ref p, .ref d] ∧ H x = some (.ins (C_Wants K) dx []) ∧ (∀ o, FontAt K (upd H d o) p S η) ∧ FontAt K H p S η ∧ SOk S ∧ H d = some (.dK (cnT need M)) ∧ (∀ c ∈ M, c ∈ S ∧ 0 ≤ need c) ∧ M.length ≤ 100 ∧ (∀ c ∈ S, c ∈ M ∨ need c = 0) ∧
  ∀ H', ExB x H H' → WantsAt K H' x p S η need → Q .non H'
theorem FontAt.upB {K : PySem.W.Frag} {H H' : Hp} {x p : Addr} {S : List Nat} {η : Nat → Option Nat} (f : FontAt K H p S η) (e : ExB x H H') (n : ∀ o, H x = some o → ∃ C dx, o = .ins C dx []) : FontAt K H' p S η := by
  obtain ⟨dx, r, h, kvs, h1, h2, h3, h4⟩ := f.ex
  have g : ∀ {b : Addr} {o : HO}, H b = some o → (∀ C dx, o ≠ .ins C dx []) → b ≠ x := fun {b} {o} hb no z => by
    rw [z] at hb
    obtain ⟨C, dx, e⟩ := n _ hb
    exact no C dx e
  exact ⟨dx, r, h, kvs, e _ _ (g h1 fun _ _ => nofun) h1, e _ _ (g h2 fun _ _ => nofun) h2, e _ _ (g h3 fun _ _ => nofun) h3, h4⟩
theorem ok_Wants_init {P : Program} {w : World} {K : PySem.W.Frag} {mg : Str → Option Value} {base : Heap} (T : Tx K mg) : FnOk P w K mg base CX0 4 (f_Wants_init K) (fdOf K (f_Wants_init K)) ["self", "font", "counts"] (sp_Wants_init K) := by
  refine T.d_Wants_init.ok sc_Wants_init (fun vs H Q E h => by obtain ⟨x, dx, p, d, S, η, need, M, rfl, hx, hfo, hf, hS, hd, hM, hl, hc0, k⟩ := h; rfl) (fun cdv A outer s H vs Q E hr h => ?_)
  obtain ⟨x, dx, p, d, S, η, need, M, rfl, hx, hfo, hf, hS, hd, hM, hl, hc0, k⟩ := h
  refine ⟨_, PSs.nox (pss_cons (ps_if (pt_not (pt_val (pe_call (ok_are_counts T) (by exact hr.mono (by first | decide | omega)) (by rfl) (by exact T.m_are_counts) (by exact T.d_are_counts.kp) (bn_are_counts T) .nil pass0 (pa_cons (pv 1) (pa_cons (pv 2) pa_nil))))) (pss_one ps_never) pss_nil) (
pss_cons (ps_fld (pv 0) (pv 1) rfl) (
pss_one (ps_fld (pv 0) (pe_dc (own := [("sign", 3)]) rfl sc_Wants_init.nd (pi_str (pe_prop (pv 1) T.cl_Font T.p_Font_signs (ok_Font_signs T) (by exact hr.mono (by first | decide | omega)) (bn_Font_signs T) .nil pass0 (by rfl))) (blkOk_by (own := [("sign", 3)]) (N := ["self", "font", "counts", "sign"]) (sc := (defScope s_Wants_init)) (by decide +kernel)) (fun _ _ _ _ _ => pg_name (i := 3) sc_Wants_init.nd rfl (by first | exact Or.inl rfl | exact Or.inr rfl)) (fun _ _ _ _ _ => pts_nil) (fun _ _ _ _ _ => pv 3) (fun _ _ _ _ _ => pe_dget2 (by exact hu_of hr) (pv 2) (pv 3) pe_int ⟨by rfl, by rfl, by rfl, by rfl⟩)) rfl)))), ?_⟩
  have hxi : ∀ o, H x = some o → ∃ C dx, o = .ins C dx [] := fun o h => ⟨_, _, Option.some.inj (h.symm.trans hx)⟩
  have h6 := hS.most
  refine q_when (b := false) (et_not (et_test (ev_call (ea_cons (ev_var rfl) (ea_cons (ev_var rfl) ea_nil)) (v_are_counts hfo hS.nd hd hM hl)))) (fun e => nomatch e) fun _ H1 e1 => ?_
  refine q_fld (ev_var rfl) (ev_var rfl) (e1 _ _ hx) T.cl_Wants T.n_Wants_own_font (by show 0 < 1000; decide) fun H2 e2 => ?_
  show sFld _ _ _ _ _ _ (upd H2 x (.ins (C_Wants K) dx (ws1 p)))
  have c2 : ExB x H (upd H2 x (.ins (C_Wants K) dx (ws1 p))) := ExB.put (fun b o n hb => e2 _ _ (e1 _ _ hb))
  have hd2 : (upd H2 x (.ins (C_Wants K) dx (ws1 p))) d = some (.dK (cnT need M)) := c2 _ _ (fun z => by rw [z, hx] at hd; cases hd) hd
  have hx2 : (upd H2 x (.ins (C_Wants K) dx (ws1 p))) x = some (.ins (C_Wants K) dx (ws1 p)) := upd_same
  have hf2 := hf.upB c2 hxi
  generalize upd H2 x (.ins (C_Wants K) dx (ws1 p)) = G at c2 hd2 hx2 hf2
  have ft : S.filter (fun _ => true) = S := List.filter_eq_self.mpr fun _ _ => rfl
  have hed : EvD (tDc (iStr (tProp (C_Font K) (sp_Font_signs K) [] E0 (tVar 1))) (gName 3) tYes (tVar 3) (tDGet2 (tVar 2) (tVar 3) (tC (.int 0))) [3]) (L2.start ["self", "font", "counts", "sign"] [V.ref x, V.ref p, V.ref d]) G (ndT S need) := by
    have h := ed_dc (L := S) (t := tYes) (g := gName 3) (tk := tVar 3) (tv := tDGet2 (tVar 2) (tVar 3) (tC (.int 0))) (vs := [3]) (σ := L2.start ["self", "font", "counts", "sign"] [V.ref x, V.ref p, V.ref d]) (H := G) (fun _ => true) kS (fun c => .int (need c)) (ew_sg (ev_signs (E := E0) hf2 (ev_var (i := 1) rfl))) rfl (by omega) (List.Pairwise.map _ (fun a b n e => n (kS_inj e)) hS.nd) fun i c y H3 H4 hc e3 yr => ?_
    · rw [ft] at h
      exact h
    · obtain ⟨rfl, hy⟩ := yr
      rw [hc] at hy
      obtain rfl : sV c = y := Option.some.inj hy
      have cS := List.mem_of_getElem? hc
      refine ⟨_, Ex.refl _, fun Q q => q, rfl, et_yes, fun _ => ⟨ev_var rfl, ev_is (ev_dget2 (k := kS c) (ev_var rfl) (ev_var rfl) ev_c (.inl (e3 _ _ hd2))) ?_⟩⟩
      by_cases m : c ∈ M
      · rw [show valV (cnT need M) (kS c) = some (.int (need c)) from nd_get m]; rfl
      · rw [show valV (cnT need M) (kS c) = none from tab_no fun b hb e => m (kS_inj e ▸ hb), (hc0 c cS).resolve_left m]; rfl
  refine hed G (Ex.refl _) _ fun n H5 hn e5 h5 => ⟨_, rfl, x, C_Wants K, dx, _, rfl, e5 _ _ hx2, T.cl_Wants, T.n_Wants_numbers, by show 1 < 1000; decide, ?_⟩
  have hpf : putF ("numbers" : Str) (.ref n) (ws1 p) = ws2 p n := by
    show (if ("own_font" : Str) = "numbers" then _ else _) = _
    rw [if_neg (by decide +kernel)]
    rfl
  rw [hpf]
  have nx : n ≠ x := fun z => by rw [z, hx2] at hn; cases hn
  have c5 : ExB x H (upd H5 x (.ins (C_Wants K) dx (ws2 p n))) := ExB.put (c2.ex e5)
  exact k _ c5 ⟨⟨dx, n, upd_same, by rw [upd_ne nx]; exact h5⟩, hf.upB c5 hxi⟩
end P38

set_option Elab.async false
set_option linter.all false
set_option maxRecDepth 100000
set_option maxHeartbeats 4000000
namespace P38
open PySem PySem.Spec PyProof.Rows L2 Evl LamX NdefX
/-! xs != [] -/
def ItemAt (H : Hp) (x : V) : Prop := (∃ n, x = .int n) ∨ (∃ s, x = .str s ∧ PyData.strOk s = true) ∨ ∃ t a b, x = .ref t ∧ H t = some (.tup [.str a, .str b]) ∧ PyData.strOk a = true ∧ PyData.strOk b = true
theorem item_dp {K : PySem.W.Frag} {H : Hp} {x : V} (h : ItemAt H x) : ∃ d, Dp K H x d ∧ d.canLay0 = true ∧ d.depth ≤ 1 := by
  rcases h with ⟨n, rfl⟩ | ⟨s, rfl, hs⟩ | ⟨t, a, b, rfl, ht, ha, hb⟩
  · exact ⟨_, .int n, rfl, by simp [PyData.depth]⟩
  · exact ⟨_, .str s, by simp only [PyData.canLay0, hs], by simp [PyData.depth]⟩
  · exact ⟨_, .tup (st_of ht) (.cons (.str a) (.cons (.str b) .nil)), by simp only [PyData.canLay0, PyData.canLayAll0, ha, hb, Bool.and_self], by simp [PyData.depth, PyData.depthAll]⟩
theorem items_dp {K : PySem.W.Frag} {H : Hp} : ∀ {xs : List V}, (∀ x ∈ xs, ItemAt H x) → ∃ ds, DpAll K H xs ds ∧ PyData.canLayAll0 ds = true ∧ PyData.depthAll ds ≤ 2 ∧ ds.isEmpty = xs.isEmpty
  | [], _ => ⟨[], .nil, rfl, by simp [PyData.depthAll], rfl⟩
  | x :: xs, h => by
    obtain ⟨d, h1, h2, h3⟩ := item_dp (K := K) (h x List.mem_cons_self)
    obtain ⟨ds, g1, g2, g3, _⟩ := items_dp fun y hy => h y (List.mem_cons_of_mem _ hy)
    exact ⟨d :: ds, .cons h1 g1, by simp only [PyData.canLayAll0, h2, g2, Bool.and_self], by simp only [PyData.depthAll]; omega, rfl⟩
theorem rv_neNil {K : PySem.W.Frag} {H : Hp} {a b : Addr} {xs : List V} (ha : SqL K H a xs) (hb : H b = some (.lst [])) (hi : ∀ x ∈ xs, ItemAt H x) : RV (rNeD K) (.ref a) (.ref b) H (.bl (!xs.isEmpty)) := fun H1 e Q q => by
  obtain ⟨ds, h1, h2, h3, h4⟩ := items_dp (K := K) (H := H1) (xs := xs) fun x hx => by
    rcases hi x hx with h | h | ⟨t, a, b, h, ht, hs⟩
    · exact .inl h
    · exact .inr (.inl h)
    · exact .inr (.inr ⟨t, a, b, h, e _ _ ht, hs⟩)
  refine ⟨.list ds, .list [], .lst (ex_l e ha) h1, .lst (sq_of (e _ _ hb)) .nil, ?_, rfl, ?_⟩
  · unfold SeqAt.shaped
    rw [Bool.and_eq_true]
    exact ⟨by simp only [PyData.canLay0, h2], decide_eq_true (by simp only [PyData.depth]; omega)⟩
  · have : PyData.eqv (.list ds) (.list []) = xs.isEmpty := by
      rw [← h4]
      cases ds <;> simp [PyData.eqv, PyData.eqvAll]
    rw [this]
    exact q H1 (Ex.refl _)
/-! the pen -/
def penT (cl : Addr) (u lf : Int) : List (Key × V) := [(Sum.inr "cells", .ref cl), (Sum.inr "used", .int u), (Sum.inr "left", .int lf)]
theorem kcu : (Sum.inr ("cells" : Str) : Key) ≠ Sum.inr ("used" : Str) := fun e => absurd (Sum.inr.inj e) (by decide +kernel)
theorem kcl : (Sum.inr ("cells" : Str) : Key) ≠ Sum.inr ("left" : Str) := fun e => absurd (Sum.inr.inj e) (by decide +kernel)
theorem kul : (Sum.inr ("used" : Str) : Key) ≠ Sum.inr ("left" : Str) := fun e => absurd (Sum.inr.inj e) (by decide +kernel)
theorem pen_cells {cl : Addr} {u lf : Int} : valV (penT cl u lf) (Sum.inr "cells" : Key) = some (.ref cl) := valV_pos rfl
theorem pen_used {cl : Addr} {u lf : Int} : valV (penT cl u lf) (Sum.inr "used" : Key) = some (.int u) := by
  unfold penT
  rw [valV_neg kcu, valV_pos rfl]
theorem pen_left {cl : Addr} {u lf : Int} : valV (penT cl u lf) (Sum.inr "left" : Key) = some (.int lf) := by
  unfold penT
  rw [valV_neg kcl, valV_neg kul, valV_pos rfl]
theorem pen_setU {cl : Addr} {u u' lf : Int} : putK (penT cl u lf) (Sum.inr "used") (.int u') = penT cl u' lf := by
  unfold putK penT
  rw [if_pos (by rw [List.any_eq_true]; exact ⟨(Sum.inr "used", .int u), by simp, decide_eq_true rfl⟩)]
  simp only [List.map_cons, List.map_nil, kcu, kul.symm, if_false, if_true]
theorem pen_setL {cl : Addr} {u lf lf' : Int} : putK (penT cl u lf) (Sum.inr "left") (.int lf') = penT cl u lf' := by
  unfold putK penT
  rw [if_pos (by rw [List.any_eq_true]; exact ⟨(Sum.inr "left", .int lf), by simp, decide_eq_true rfl⟩)]
  simp only [List.map_cons, List.map_nil, kcl, kul, if_false, if_true]
/-- the pen, at most U cells used -/
structure PenAt (H : Hp) (pen cl : Addr) (U : Nat) : Prop where
  ex : ∃ (ns : List Int) (u lf : Int), H pen = some (.dK (penT cl u lf)) ∧ H cl = some (.lst (ns.map V.int)) ∧ 0 ≤ u ∧ u ≤ (U : Nat) ∧ 0 ≤ lf ∧ ns.length ≤ 63
theorem PenAt.mono {H : Hp} {pen cl : Addr} {U U' : Nat} (h : PenAt H pen cl U) (le : U ≤ U') : PenAt H pen cl U' := by
  obtain ⟨ns, u, lf, h1, h2, h3, h4, h5, h6⟩ := h.ex
  exact ⟨ns, u, lf, h1, h2, h3, by omega, h5, h6⟩
theorem PenAt.up {H H' : Hp} {pen cl : Addr} {U : Nat} (h : PenAt H pen cl U) (e : Ex H H') : PenAt H' pen cl U := by
  obtain ⟨ns, u, lf, h1, h2, h3⟩ := h.ex
  exact ⟨ns, u, lf, e _ _ h1, e _ _ h2, h3⟩
theorem cl_pen {H : Hp} {pen cl : Addr} {u lf : Int} {xs : List V} (h1 : H pen = some (.dK (penT cl u lf))) (h2 : H cl = some (.lst xs)) : cl ≠ pen := fun z => by rw [z, h1] at h2; cases h2
section
variable {σ : L2.St} {H : Hp} {ta td : TE} {pen cl : Addr} {u lf : Int}
theorem ev_pc (ht : Ev td σ H (.ref pen)) (h : H pen = some (.dK (penT cl u lf))) : Ev (tDGet td (tC (.str "cells"))) σ H (.ref cl) := ev_dget (k := Sum.inr "cells") ht ev_c (.inl h) pen_cells
theorem ev_pu (ht : Ev td σ H (.ref pen)) (h : H pen = some (.dK (penT cl u lf))) : Ev (tDGet td (tC (.str "used"))) σ H (.int u) := ev_dget (k := Sum.inr "used") ht ev_c (.inl h) pen_used
theorem ev_pl (ht : Ev td σ H (.ref pen)) (h : H pen = some (.dK (penT cl u lf))) : Ev (tDGet td (tC (.str "left"))) σ H (.int lf) := ev_dget (k := Sum.inr "left") ht ev_c (.inl h) pen_left
end
/-- numbers of bounded size multiply -/
theorem mul_ok {i j : Int} {b : Nat} (hi : i.natAbs < 2 ^ b) (hj : j.natAbs < 2 ^ b) (h0 : 0 < b) (hb : b ≤ 500000) : CMulW i j := wide_mul hi hj h0 h0 (by omega)
theorem strOk_tx {S : List Nat} (h : ∀ c ∈ S, c < 0x110000) : PyData.strOk (tx S) = true := by
  unfold PyData.strOk
  rw [Array.all_eq_true']
  intro c hc
  exact decide_eq_true (h c (by simpa [tx] using hc))
/-- a draw: less than many (many at most B), at most c cells more -/
def sp_draw (B c : Nat) : Sp := fun vs H Q _ => ∃ (pen cl : Addr) (many : Int) (U : Nat), vs = [.ref pen, .int many] ∧ PenAt H pen cl U ∧ U + c ≤ 10 ^ 12 ∧ 0 < many ∧ many ≤ (B : Nat) ∧ ∀ (r : Int) H', 0 ≤ r → r < many → ExB pen H H' → PenAt H' pen cl (U + c) → Q (.int r) H'
theorem draw_none {P : Program} {w : World} {K : PySem.W.Frag} {mg : Str → Option Value} {base : Heap} {k : Nat} {f : Addr} {fd : FuncData} {c : Nat} : FnOk P w K mg base CX0 k f fd ["_law_pen_here", "_law_many"] (sp_draw 0 c) :=
  ⟨fun vs H Q E h => by obtain ⟨pen, cl, many, U, rfl, _⟩ := h; rfl, fun A outer s H args us vs Q E hr e0 hb r h => by
    obtain ⟨pen, cl, many, U, rfl, _, _, h1, h2, _⟩ := h
    exact absurd h1 (by omega)⟩
section
variable {K : PySem.W.Frag} {σ : L2.St} {H : Hp} {ta tb te : TE}
theorem ev_int {ns : Int} (h : Ev te σ H (.int ns)) : Ev (tCB (fun xs H Q => (∃ i, xs = [.int i] ∧ Q (.int i) H) ∨ ∃ k, xs = [.bl k] ∧ Q (.int (if k then 1 else 0)) H) (tCons te tNil)) σ H (.int ns) := ev_cb (ea_cons h ea_nil) fun H1 _ Q q => .inl ⟨ns, rfl, q H1 (Ex.refl _)⟩
theorem ev_abs {n : Int} (h : Ev te σ H (.int n)) : Ev (tCB (fun xs H Q => ∃ i, xs = [.int i] ∧ Q (.int (if i < 0 then -i else i)) H) (tCons te tNil)) σ H (.int (if n < 0 then -n else n)) := ev_cb (ea_cons h ea_nil) fun H1 _ Q q => ⟨n, rfl, q H1 (Ex.refl _)⟩
theorem ev_mod {i j : Int} (h1 : Ev ta σ H (.int i)) (h2 : Ev tb σ H (.int j)) (hj : 0 < j) : Ev (tOp (rI (fun _ j => j ≠ 0) fun i j => .int (i.fmod j)) ta tb) σ H (.int (i % j)) := ev_is (ev_op h1 h2 (rv_I (by omega))) (by rw [Int.fmod_eq_emod_of_nonneg _ (by omega)])
end
theorem q_dput {D : Ends} {tz : TS} {tl td te : TE} {σ : L2.St} {H : Hp} {d : Addr} {kvs : List (Key × V)} {k : Key} {v : V} (hv : Ev tl σ H v) (ht : Ev td σ H (.ref d)) (hk : Ev te σ H (kV k)) (hd : H d = some (.dK kvs)) (hl : kvs.length < 100000) (kk : ∀ H1, Ex H H1 → tz D σ (upd H1 d (.dK (putK kvs k v)))) : tSeq (sDPut td te tl) tz D σ H :=
  s_dput (D := { D with nx := tz D }) hv ht hk hd hl kk
theorem fmod_lt {i j : Int} (hj : 0 < j) : 0 ≤ i % j ∧ i % j < j := ⟨Int.emod_nonneg _ (by omega), Int.emod_lt_of_pos _ hj⟩
theorem draw_step {P : Program} {w : World} {K : PySem.W.Frag} {mg : Str → Option Value} {base : Heap} (T : Tx K mg) {k B B' c : Nat} (F : FnOk P w K mg base CX0 k (f__law_draw K) (fdOf K (f__law_draw K)) ["_law_pen_here", "_law_many"] (sp_draw B c))
    (hB : ∀ many : Int, 0 < many → many ≤ (B' : Nat) → many > 60000000 → many / 60000000 + 1 ≤ (B : Nat)) (hB' : B' ≤ 10 ^ 40) : FnOk P w K mg base CX0 (k + 1) (f__law_draw K) (fdOf K (f__law_draw K)) ["_law_pen_here", "_law_many"] (sp_draw B' (c + 1)) := by
  have ok__law_draw := fun (_ : Tx K mg) => F
  refine T.d__law_draw.ok sc__law_draw (fun vs H Q E h => by obtain ⟨pen, cl, many, U, rfl, _⟩ := h; rfl) (fun cdv A outer s H vs Q E0_ hr h => ?_)
  obtain ⟨pen, cl, many, U, rfl, hpen, hU, hm0, hmB, k⟩ := h
  obtain ⟨ns, u, lf, h1, h2, u0, uU, l0, hns⟩ := id hpen.ex
  have hcp := cl_pen h1 h2
  have hm40 : many ≤ 10 ^ 40 := by have : ((B' : Nat) : Int) ≤ 10 ^ 40 := by exact_mod_cast hB'
                                   omega
  have hdm : CDivW lf many := ⟨hm0, by
    have : many.natAbs < 2 ^ 140 := by
      have : (10 : Int) ^ 40 < 2 ^ 140 := by decide
      omega
    have := PySem.Flt.log2_lt_of (by decide) this
    omega⟩
  refine ⟨_, PSs.nox (pss_cons (ps_if (pt_cmpR op_gt (pe_dget (by exact hu_of hr) (pv 0) pe_str (fun _ _ => rfl)) pe_int (nomark _)) (pss_cons (ps_set (i := 2) sc__law_draw.nd rfl (by first | exact Or.inl rfl | exact Or.inr rfl) (pe_op op_modN (pe_callTy call_int1 (by rfl) (by exact T.z_int) bt_int (pa_cons (pe_dget (by exact hu_of hr) (pv 0) pe_str (fun _ _ => rfl)) pa_nil)) (pv 1))) (
pss_cons (ps_dput (by exact hu_of hr) (pv 0) pe_str (pe_op op_fdivW (pe_dget (by exact hu_of hr) (pv 0) pe_str (fun _ _ => rfl)) (pv 1)) rfl) (
pss_one (ps_ret (pv 2))))) pss_nil) (
pss_cons (ps_set (i := 3) sc__law_draw.nd rfl (by first | exact Or.inl rfl | exact Or.inr rfl) (pe_dget (by exact hu_of hr) (pv 0) pe_str (fun _ _ => rfl))) (
pss_cons (ps_dput (by exact hu_of hr) (pv 0) pe_str (pe_op op_add (pv 3) pe_int) rfl) (
pss_cons (ps_set (i := 4) sc__law_draw.nd rfl (by first | exact Or.inl rfl | exact Or.inr rfl) (pe_op op_add (pe_op op_mulW pe_int (pv 3)) pe_int)) (
pss_cons (ps_if (pt_cmpR (op_neD (by exact hr.units)) (pe_dget (by exact hu_of hr) (pv 0) pe_str (fun _ _ => rfl)) (pe_lst pa_nil) (nomark _)) (pss_one (ps_set (i := 4) sc__law_draw.nd rfl (by first | exact Or.inl rfl | exact Or.inr rfl) (pe_ix ix_list (pe_dget (by exact hu_of hr) (pv 0) pe_str (fun _ _ => rfl)) (pe_op op_modN (pe_callTy call_int1 (by rfl) (by exact T.z_int) bt_int (pa_cons (pv 3) pa_nil)) (pe_callB call_len_seq (by rfl) (by exact T.z_len) bt_len (pa_cons (pe_dget (by exact hu_of hr) (pv 0) pe_str (fun _ _ => rfl)) pa_nil))) (fun _ _ => rfl)))) pss_nil) (
pss_cons (ps_if (PW.pt (pw_and (pt_cmpR op_lt (pv 3) (pe_callB call_len_seq (by rfl) (by exact T.z_len) bt_len (pa_cons (pe_dget (by exact hu_of hr) (pv 0) pe_str (fun _ _ => rfl)) pa_nil)) (nomark _)) (pw_and1 (pt_cmpR op_ge (pe_callB call_abs (by rfl) (by exact T.z_abs) bt_abs (pa_cons (pv 4) pa_nil)) (pe_op op_pow pe_int pe_int) (nomark _))))) (pss_cons (ps_dput (by exact hu_of hr) (pv 0) pe_str (pe_op op_fdivW (pe_op op_sub (pe_callB call_abs (by rfl) (by exact T.z_abs) bt_abs (pa_cons (pv 4) pa_nil)) (pe_op op_pow pe_int pe_int)) (pv 1)) rfl) (
pss_one (ps_ret (pe_op op_modN (pe_op op_sub (pe_callB call_abs (by rfl) (by exact T.z_abs) bt_abs (pa_cons (pv 4) pa_nil)) (pe_op op_pow pe_int pe_int)) (pv 1))))) pss_nil) (
pss_cons (ps_set (i := 5) sc__law_draw.nd rfl (by first | exact Or.inl rfl | exact Or.inr rfl) (pe_op op_add (pe_op op_mulW (pe_op op_modN (pe_callTy call_int1 (by rfl) (by exact T.z_int) bt_int (pa_cons (pv 4) pa_nil)) pe_int) pe_int) (pe_op op_mulW (pe_op op_mulW pe_int (pv 3)) (pv 3)))) (
pss_cons (ps_set (i := 5) sc__law_draw.nd rfl (by first | exact Or.inl rfl | exact Or.inr rfl) (pe_op op_modN (pe_callTy call_int1 (by rfl) (by exact T.z_int) bt_int (pa_cons (pe_op op_add (pe_op op_add (pv 5) (pe_op op_mulW pe_int (pv 3))) pe_int) pa_nil)) pe_int)) (
pss_cons (ps_set (i := 5) sc__law_draw.nd rfl (by first | exact Or.inl rfl | exact Or.inr rfl) (pe_op op_modN (pe_callTy call_int1 (by rfl) (by exact T.z_int) bt_int (pa_cons (pe_op op_add (pe_op op_add (pe_op op_add (pe_op op_mulW (pv 5) (pv 5)) (pe_op op_mulW pe_int (pv 5))) (pe_op op_mulW pe_int (pv 3))) pe_int) pa_nil)) pe_int)) (
pss_cons (ps_set (i := 5) sc__law_draw.nd rfl (by first | exact Or.inl rfl | exact Or.inr rfl) (pe_op op_fdivW (pe_op op_modN (pe_callTy call_int1 (by rfl) (by exact T.z_int) bt_int (pa_cons (pe_op op_mulW (pv 5) (pe_op op_add (pv 5) pe_int)) pa_nil)) pe_int) pe_int)) (
pss_cons (ps_if (pt_cmpR op_gt (pv 1) pe_int (nomark _)) (pss_one (ps_set (i := 5) sc__law_draw.nd rfl (by first | exact Or.inl rfl | exact Or.inr rfl) (pe_op op_add (pv 5) (pe_op op_mulW pe_int (pe_call (ok__law_draw T) (by exact hr.mono (by first | decide | omega)) (by rfl) (by exact T.m__law_draw) (by exact T.d__law_draw.kp) (bn__law_draw T) .nil pass0 (pa_cons (pv 0) (pa_cons (pe_op op_add (pe_op op_fdivW (pv 1) pe_int) pe_int) pa_nil))))))) pss_nil) (
pss_one (ps_ret (pe_op op_modN (pe_callTy call_int1 (by rfl) (by exact T.z_int) bt_int (pa_cons (pv 5) pa_nil)) (pv 1))))))))))))))), ?_⟩
  have hlen : (penT cl u lf).length < 100000 := by show 3 < 100000; decide
  refine q_when (b := decide (0 < lf)) (et_test (ev_op (ev_pl (ev_var rfl) h1) ev_c rv_I0)) (fun b H1 e1 => ?_) fun b H1 e1 => ?_
  · refine q_asg (ev_mod (ev_int (ev_pl (ev_var rfl) (e1 _ _ h1))) (ev_var rfl) hm0) fun H2 e2 => ?_
    have h12 := e2 _ _ (e1 _ _ h1)
    refine q_dput (k := Sum.inr "left") (ev_op (ev_pl (ev_var rfl) h12) (ev_var rfl) (rv_I hdm)) (ev_var rfl) ev_c h12 hlen fun H3 e3 => ?_
    rw [pen_setL]
    have bx : ExB pen H (upd H3 pen (.dK (penT cl u (lf / many)))) := ExB.put fun b o _ hb => e3 _ _ (e2 _ _ (e1 _ _ hb))
    obtain ⟨r0, r1⟩ := fmod_lt (i := lf) hm0
    refine s_ret (ev_var rfl) fun H4 e4 => k _ _ r0 r1 (bx.ex e4) (PenAt.up ⟨ns, u, lf / many, upd_same, by rw [upd_ne hcp]; exact e3 _ _ (e2 _ _ (e1 _ _ h2)), u0, by omega, Int.ediv_nonneg l0 (by omega), hns⟩ e4)
  refine q_asg (ev_pu (ev_var rfl) (e1 _ _ h1)) fun H2 e2 => ?_
  have h12 := e2 _ _ (e1 _ _ h1)
  refine q_dput (k := Sum.inr "used") (v := .int (u + 1)) (ev_op (ev_var rfl) ev_c rv_I0) (ev_var rfl) ev_c h12 hlen fun H3 e3 => ?_
  rw [pen_setU]
  have bG : ExB pen H (upd H3 pen (.dK (penT cl (u + 1) lf))) := ExB.put fun b o _ hb => e3 _ _ (e2 _ _ (e1 _ _ hb))
  have gp : (upd H3 pen (.dK (penT cl (u + 1) lf))) pen = some (.dK (penT cl (u + 1) lf)) := upd_same
  have gc : (upd H3 pen (.dK (penT cl (u + 1) lf))) cl = some (.lst (ns.map V.int)) := by rw [upd_ne hcp]; exact e3 _ _ (e2 _ _ (e1 _ _ h2))
  generalize upd H3 pen (.dK (penT cl (u + 1) lf)) = G at bG gp gc
  have hub : u.natAbs < 2 ^ 100 := by
    have : (10 : Int) ^ 12 < 2 ^ 100 := by decide
    omega
  refine q_asg (i := 4) (v := .int (37 * u + 11)) (ev_op (ev_op ev_c (ev_var rfl) (rv_I (mul_ok (b := 100) (by decide) hub (by decide) (by decide)))) ev_c rv_I0) fun H4 e4 => ?_
  obtain ⟨cell, hcell, hcell2⟩ : ∃ cell : Int, (ns = [] → cell = 37 * u + 11) ∧ (ns ≠ [] → ns[(u % (ns.length : Nat)).toNat]? = some cell) := by
    by_cases hz : ns = []
    · exact ⟨37 * u + 11, fun _ => rfl, fun z => absurd hz z⟩
    · have hp : 0 < ns.length := List.length_pos_iff.mpr hz
      obtain ⟨q0, q1⟩ := fmod_lt (i := u) (j := ((ns.length : Nat) : Int)) (by omega)
      have hlt : (u % ((ns.length : Nat) : Int)).toNat < ns.length := by omega
      exact ⟨ns[(u % ((ns.length : Nat) : Int)).toNat], fun z => absurd z hz, fun _ => List.getElem?_eq_getElem hlt⟩
  have g4 := e4 _ _ gp
  have c4 := e4 _ _ gc
  have hitems : ∀ {H : Hp}, ∀ x ∈ ns.map V.int, ItemAt H x := fun {H} x hx => by
    obtain ⟨n, _, rfl⟩ := List.mem_map.mp hx
    exact .inl ⟨n, rfl⟩
  refine q_ifAsg (b := !ns.isEmpty) (i := 4) (v := .int cell) (et_test (ev_is (ev_opL (ev_pc (ev_var rfl) g4) (el_lst ea_nil (by decide)) fun p H5 h5 e5 => rv_neNil (xs := ns.map V.int) (sq_of (e5 _ _ c4)) h5 hitems) (by rw [List.isEmpty_map]))) (fun hb => ?_) (fun hb => ?_) fun H5 e5 => ?_
  · have hz : ns ≠ [] := by
      intro z
      rw [z] at hb
      cases hb
    have hp : 0 < ns.length := List.length_pos_iff.mpr hz
    obtain ⟨q0, q1⟩ := fmod_lt (i := u) (j := ((ns.length : Nat) : Int)) (by omega)
    have hl : Ev (tCB (rLenS K) (tCons (tDGet (tVar 0) (tC (.str "cells"))) tNil)) ((((L2.start ["_law_pen_here", "_law_many", "_law_digit", "_law_used", "_law_cell", "_law_mixed"] [V.ref pen, V.int many]).set 3 (some (V.int u))).set 4 (some (V.int (37 * u + 11))))) H4 (.int ((ns.length : Nat) : Int)) := ev_is (ev_len (ev_pc (ev_var rfl) g4) (sq_of c4)) (by rw [List.length_map])
    refine ev_op (ev_pc (ev_var rfl) g4) (ev_mod (ev_int (ev_var rfl)) hl (by omega)) (rv_ixL (sq_of c4) ?_)
    have e6 : u % ((ns.length : Nat) : Int) = (((u % ((ns.length : Nat) : Int)).toNat : Nat) : Int) := by omega
    rw [e6]
    unfold atI
    rw [List.length_map, ixN_nat (by omega)]
    show (ns.map V.int)[_]? = _
    rw [List.getElem?_map, hcell2 hz]
    rfl
  · have hz : ns = [] := by
      cases ns with
      | nil => rfl
      | cons a r => cases hb
    rw [hcell hz]
    rfl
  refine st_eq (σ' := [some (.ref pen), some (.int many), none, some (.int u), some (.int cell), none]) rfl ?_
  have g5 := e5 _ _ g4
  have c5 := e5 _ _ c4
  have b5 : ExB pen H H5 := (bG.ex e4).ex e5
  clear e5 e4 e1 e2 h12 b gp gc bG
  have hab : ∀ {σ : L2.St} {H : Hp}, σ[4]? = some (some (.int cell)) → Ev (tCB (fun xs H Q => ∃ i, xs = [.int i] ∧ Q (.int (if i < 0 then -i else i)) H) (tCons (tVar 4) tNil)) σ H (.int (if cell < 0 then -cell else cell)) := fun {σ H} hσ => ev_abs (ev_var hσ)
  generalize (if cell < 0 then -cell else cell) = ab at hab
  have hpw : ∀ {σ : L2.St} {H : Hp}, Ev (tOp (rI CPow fun i j => .int (i ^ j.toNat)) (tC (.int 10)) (tC (.int 18))) σ H (.int (10 ^ 18)) := fun {σ H} => ev_op ev_c ev_c (rv_I (i := 10) (j := 18) ⟨by decide, by decide, by decide⟩)
  have hl5 : ∀ {H6 : Hp}, Ex H5 H6 → Ev (tCB (rLenS K) (tCons (tDGet (tVar 0) (tC (.str "cells"))) tNil)) [some (.ref pen), some (.int many), none, some (.int u), some (.int cell), none] H6 (.int ((ns.length : Nat) : Int)) := fun {H6} e => ev_is (ev_len (ev_pc (ev_var rfl) (e _ _ g5)) (sq_of (e _ _ c5))) (by rw [List.length_map])
  refine q_when (b := decide (u < ((ns.length : Nat) : Int)) && decide ((10 : Int) ^ 18 ≤ ab)) (et_and (et_test (ev_op (ev_var rfl) (hl5 (Ex.refl _)) rv_I0)) fun _ => et_test (ev_op (hab rfl) hpw rv_I0)) (fun b H6 e6 => ?_) fun _ H6 e6 => ?_
  · rw [Bool.and_eq_true, decide_eq_true_eq, decide_eq_true_eq] at b
    have g6 := e6 _ _ g5
    refine q_dput (k := Sum.inr "left") (ev_op (ev_op (hab rfl) hpw rv_I0) (ev_var rfl) (rv_I ⟨hm0, hdm.2⟩)) (ev_var rfl) ev_c g6 (by show 3 < 100000; decide) fun H7 e7 => ?_
    rw [pen_setL]
    have b7 : ExB pen H (upd H7 pen (.dK (penT cl (u + 1) ((ab - 10 ^ 18) / many)))) := ExB.put fun b o n hb => e7 _ _ (e6 _ _ (b5 _ _ n hb))
    obtain ⟨r0, r1⟩ := fmod_lt (i := ab - 10 ^ 18) hm0
    refine s_ret (ev_mod (ev_op (hab rfl) hpw rv_I0) (ev_var rfl) hm0) fun H8 e8 => k _ _ r0 r1 (b7.ex e8) (PenAt.up ⟨ns, u + 1, (ab - 10 ^ 18) / many, upd_same, by rw [upd_ne hcp]; exact e7 _ _ (e6 _ _ c5), by omega, by push_cast; omega, Int.ediv_nonneg (by omega) (by omega), hns⟩ e8)
  have g6 := e6 _ _ g5
  have c6 := e6 _ _ c5
  have b6 : ExB pen H H6 := b5.ex e6
  clear hl5 hab hpw g5 c5 b5 e6
  have v0 := fmod_lt (i := cell) (j := 4294967231) (by decide)
  have big : (4294967296 : Int) < 2 ^ 100 := by decide
  refine q_asg (i := 5) (v := .int (cell % 4294967231 * 1103515 + 40009 * u * u)) (ev_op (ev_op (ev_mod (ev_int (ev_var rfl)) ev_c (by decide)) ev_c (rv_I (mul_ok (b := 100) (by omega) (by decide) (by decide) (by decide)))) (ev_op (ev_op ev_c (ev_var rfl) (rv_I (mul_ok (b := 100) (by decide) hub (by decide) (by decide)))) (ev_var rfl) (rv_I (mul_ok (b := 200) (by
    rw [Int.natAbs_mul]
    have : (40009 : Int).natAbs * u.natAbs < 2 ^ 100 * 2 ^ 100 := Nat.mul_lt_mul'' (by decide) hub
    exact Nat.lt_of_lt_of_le this (by decide)) (Nat.lt_of_lt_of_le hub (by decide)) (by decide) (by decide)))) rv_I0) fun H7 e7 => ?_
  generalize cell % 4294967231 * 1103515 + 40009 * u * u = m1
  refine q_asg (i := 5) (v := .int ((m1 + 176461 * u + 29) % 4294967197)) (ev_mod (ev_int (ev_op (ev_op (ev_var rfl) (ev_op ev_c (ev_var rfl) (rv_I (mul_ok (b := 100) (by decide) hub (by decide) (by decide)))) rv_I0) ev_c rv_I0)) ev_c (by decide)) fun H8 e8 => ?_
  have v2 := fmod_lt (i := m1 + 176461 * u + 29) (j := 4294967197) (by decide)
  generalize (m1 + 176461 * u + 29) % 4294967197 = m2 at v2
  refine q_asg (i := 5) (v := .int ((m2 * m2 + 16769023 * m2 + 7 * u + 3) % 4294967189)) (ev_mod (ev_int (ev_op (ev_op (ev_op (ev_op (ev_var rfl) (ev_var rfl) (rv_I (mul_ok (b := 100) (by omega) (by omega) (by decide) (by decide)))) (ev_op ev_c (ev_var rfl) (rv_I (mul_ok (b := 100) (by decide) (by omega) (by decide) (by decide)))) rv_I0) (ev_op ev_c (ev_var rfl) (rv_I (mul_ok (b := 100) (by decide) hub (by decide) (by decide)))) rv_I0) ev_c rv_I0)) ev_c (by decide)) fun H9 e9 => ?_
  have v3 := fmod_lt (i := m2 * m2 + 16769023 * m2 + 7 * u + 3) (j := 4294967189) (by decide)
  generalize (m2 * m2 + 16769023 * m2 + 7 * u + 3) % 4294967189 = m3 at v3
  refine q_asg (i := 5) (v := .int (m3 * (m3 + 28629151) % 4294967291 / 64)) (ev_op (ev_mod (ev_int (ev_op (ev_var rfl) (ev_op (ev_var rfl) ev_c rv_I0) (rv_I (mul_ok (b := 100) (by omega) (by omega) (by decide) (by decide))))) ev_c (by decide)) ev_c (rv_I ⟨by decide, by decide⟩)) fun H10 e10 => ?_
  have v4 := fmod_lt (i := m3 * (m3 + 28629151)) (j := 4294967291) (by decide)
  have v5 : 0 ≤ m3 * (m3 + 28629151) % 4294967291 / 64 := Int.ediv_nonneg v4.1 (by decide)
  generalize m3 * (m3 + 28629151) % 4294967291 / 64 = m4 at v5
  refine st_eq (σ' := [some (.ref pen), some (.int many), none, some (.int u), some (.int cell), some (.int m4)]) rfl ?_
  have e610 := ((e7.trans e8).trans e9).trans e10
  have g10 := e610 _ _ g6
  have c10 := e610 _ _ c6
  have b10 : ExB pen H H10 := b6.ex e610
  have p10 : PenAt H10 pen cl (U + 1)   := ⟨ns, u + 1, lf, g10, c10, by omega, by push_cast; omega, l0, hns⟩
  clear e7 e8 e9 e10 g6 c6 b6 e610
  refine q_when (b := decide (60000000 < many)) (et_test (ev_op (ev_var rfl) ev_c rv_I0)) (fun b H11 e11 => ?_) fun _ H11 e11 => ?_
  · have hgt := of_decide_eq_true b
    have hin := hB many hm0 hmB hgt
    have hq : 0 ≤ many / 60000000 := Int.ediv_nonneg (by omega) (by decide)
    refine ⟨_, rfl, ?_⟩
    refine ea_cons (ta := tVar 0) (x := .ref pen) (ev_var rfl) (ea_cons (x := .int (many / 60000000 + 1)) (ta := tOp (rI0 fun i j => .int (i + j)) (tOp (rI CDivW fun i j => .int (i / j)) (tVar 1) (tC (.int 60000000))) (tC (.int 1))) (ev_op (ev_op (ev_var rfl) ev_c (rv_I ⟨by decide, by decide⟩)) ev_c rv_I0) ea_nil) H11 (Ex.refl _) (fun vs H1 => sp_draw B c (vs ++ []) H1 _ E0) fun H12 e12 => ?_
    refine ⟨pen, cl, many / 60000000 + 1, U + 1, rfl, (p10.up e11).up e12, by omega, by omega, hin, fun r H13 r0 r1 b13 p13 => ?_⟩
    have rb : r.natAbs < 2 ^ 200 := by
      have : (10 : Int) ^ 40 < 2 ^ 200 := by decide
      have : many / 60000000 ≤ many := Int.ediv_le_self _ (by omega)
      omega
    refine ⟨60000000, r, rfl, rfl, mul_ok (b := 200) (by decide) rb (by decide) (by decide), ?_⟩
    refine ⟨m4, 60000000 * r, rfl, rfl, ?_⟩
    obtain ⟨s0, s1⟩ := fmod_lt (i := m4 + 60000000 * r) hm0
    have bb : ExB pen H H13 := fun b o n hb => b13 _ _ n (e12 _ _ (e11 _ _ (b10 _ _ n hb)))
    exact s_ret (ev_mod (ev_int (ev_var rfl)) (ev_var rfl) hm0) fun H14 e14 => k _ _ s0 s1 (bb.ex e14) ((p13.up e14).mono (by omega))
  · obtain ⟨s0, s1⟩ := fmod_lt (i := m4) hm0
    exact s_ret (ev_mod (ev_int (ev_var rfl)) (ev_var rfl) hm0) fun H14 e14 => k _ _ s0 s1 ((b10.ex e11).ex e14) (((p10.up e11).up e14).mono (by omega))
end P38

set_option Elab.async false
set_option linter.all false
set_option maxRecDepth 100000
set_option maxHeartbeats 4000000
namespace P38
open PySem PySem.Spec PyProof.Rows L2 Evl LamX NdefX
abbrev DB : Nat := 10 ^ 36
theorem ok__law_draw {P : Program} {w : World} {K : PySem.W.Frag} {mg : Str → Option Value} {base : Heap} (T : Tx K mg) : FnOk P w K mg base CX0 5 (f__law_draw K) (fdOf K (f__law_draw K)) ["_law_pen_here", "_law_many"] (sp_draw DB 5) := by
  have s1 := draw_step (P := P) (w := w) (base := base) T (k := 0) (B := 0) (B' := 60000000) (c := 0) draw_none (fun m h1 h2 h3 => by omega) (by decide)
  have s2 := draw_step T (B' := 10 ^ 15) s1 (fun m h1 h2 h3 => by have : m / 60000000 ≤ 10 ^ 15 / 60000000 := Int.ediv_le_ediv (by decide) (by exact_mod_cast h2)
                                                                  have e : (10 : Int) ^ 15 / 60000000 = 16666666 := by decide
                                                                  omega) (by decide)
  have s3 := draw_step T (B' := 10 ^ 22) s2 (fun m h1 h2 h3 => by have : m / 60000000 ≤ 10 ^ 22 / 60000000 := Int.ediv_le_ediv (by decide) (by exact_mod_cast h2)
                                                                  have e : (10 : Int) ^ 22 / 60000000 + 1 ≤ ((10 ^ 15 : Nat) : Int) := by decide
                                                                  omega) (by decide)
  have s4 := draw_step T (B' := 10 ^ 29) s3 (fun m h1 h2 h3 => by have : m / 60000000 ≤ 10 ^ 29 / 60000000 := Int.ediv_le_ediv (by decide) (by exact_mod_cast h2)
                                                                  have e : (10 : Int) ^ 29 / 60000000 + 1 ≤ ((10 ^ 22 : Nat) : Int) := by decide
                                                                  omega) (by decide)
  exact draw_step T (B' := 10 ^ 36) s4 (fun m h1 h2 h3 => by have : m / 60000000 ≤ 10 ^ 36 / 60000000 := Int.ediv_le_ediv (by decide) (by exact_mod_cast h2)
                                                             have e : (10 : Int) ^ 36 / 60000000 + 1 ≤ ((10 ^ 29 : Nat) : Int) := by decide
                                                             omega) (by decide)
theorem atI_get {xs : List V} {r : Int} (h0 : 0 ≤ r) (h : r.toNat < xs.length) : atI xs r = some xs[r.toNat] := by
  have e : ixN xs.length r = some r.toNat := by
    unfold ixN
    rw [if_pos h0, if_pos (by omega)]
  unfold atI
  rw [e]
  exact List.getElem?_eq_getElem _
section
variable {K : PySem.W.Frag} {σ : L2.St} {H : Hp} {ta tb te : TE} {D : Ends} {tz : TS}
theorem q_parLL {i j : Nat} {xs ys : List V} (ha : EvL ta σ H xs) (hb : ∀ H1, Ex H H1 → EvL tb σ H1 ys) (k : ∀ p q H1, H p = none → H q = none → q ≠ p → Ex H H1 → H1 p = some (.lst xs) → H1 q = some (.lst ys) → tz D ((σ.set i (some (.ref p))).set j (some (.ref q))) H1) : tSeq (tPar i j (tCons ta (tCons tb tNil))) tz D σ H :=
  ha H (Ex.refl _) _ fun p H1 hp e1 h1 => hb H1 e1 H1 (Ex.refl _) _ fun q H2 hq e2 h2 => ⟨.ref p, .ref q, rfl, k p q H2 hp (fresh_back e1 hq) (fun z => by rw [z, h1] at hq; cases hq) (e1.trans e2) (e2 _ _ h1) h2⟩
/-- list(text), list(list) -/
theorem el_listQ {x : V} {xs : List V} (h : Ev te σ H x) (hx : (∃ z : Str, x = .str z ∧ xs = strL z) ∨ ∃ a, x = .ref a ∧ H a = some (.lst xs)) (hl : xs.length ≤ 100000) :
    EvL (tCB (fun xs H Q => (∃ z : Str, xs = [V.str z] ∧ z.cps.size ≤ sizeLine ∧ ∀ p, H p = none → Q (.ref p) (upd H p (.lst (strL z)))) ∨ ∃ p ys, xs = [.ref p] ∧ (SqL K H p ys ∨ SqT K H p ys) ∧ ∀ l, H l = none → Q (.ref l) (upd H l (.lst ys))) (tCons te tNil)) σ H xs := fun H1 e Q q =>
  h H1 e _ fun H2 e2 => by
    rcases hx with ⟨z, rfl, rfl⟩ | ⟨a, rfl, ha⟩
    · exact .inl ⟨z, rfl, sz_of (by rw [strL, List.length_map, Array.length_toList] at hl; exact hl), fun p hp => q p _ (fresh_back e2 hp) (e2.trans (Ex.new hp)) upd_same⟩
    · exact .inr ⟨a, xs, rfl, .inl (sq_of (e2 _ _ (e _ _ ha))), fun p hp => q p _ (fresh_back e2 hp) (e2.trans (Ex.new hp)) upd_same⟩
end
theorem erase_perm {α : Type} : ∀ {l : List α} {i : Nat} (h : i < l.length), (l[i] :: l.eraseIdx i).Perm l
  | a :: l, 0, h => List.Perm.refl _
  | a :: l, i + 1, h => by
    have h2 : i < l.length := by simpa using h
    have := erase_perm h2
    show (l[i] :: a :: l.eraseIdx i).Perm (a :: l)
    exact (List.Perm.swap a l[i] _).trans (this.cons a)
/-- the pen made -/
def sp_pen (K : PySem.W.Frag) : Sp := fun vs H Q _ => ∃ a, ∃ ns : List Int, vs = [.ref a] ∧ SqL K H a (ns.map V.int) ∧ ∀ p cl H', H p = none → H cl = none → Ex H H' → PenAt H' p cl 0 → Q (.ref p) H'
theorem pen_made {cl : Addr} : mergeK ([] : List (Key × V)) [((Sum.inr "cells" : Key), V.ref cl), (Sum.inr "used", .int 0), (Sum.inr "left", .int 0)] = penT cl 0 0 := by
  show putK (putK (putK ([] : List (Key × V)) (Sum.inr "cells") (.ref cl)) (Sum.inr "used") (.int 0)) (Sum.inr "left") (.int 0) = _
  have a : putK ([] : List (Key × V)) (Sum.inr "cells") (V.ref cl) = ([(Sum.inr "cells", V.ref cl)] : List (Key × V)) := P38.putK_new (kvs := []) (fun p (hp : p ∈ ([] : List (Key × V))) => by cases hp)
  have b : putK [((Sum.inr "cells" : Key), V.ref cl)] (Sum.inr "used") (V.int 0) = ([(Sum.inr "cells", V.ref cl), (Sum.inr "used", V.int 0)] : List (Key × V)) := P38.putK_new fun p hp => by rw [List.mem_singleton.mp hp]; exact kcu
  have c : putK [((Sum.inr "cells" : Key), V.ref cl), (Sum.inr "used", V.int 0)] (Sum.inr "left") (V.int 0) = penT cl 0 0 := P38.putK_new fun p hp => by
    simp only [List.mem_cons, List.not_mem_nil, or_false] at hp
    rcases hp with rfl | rfl
    · exact kcl
    · exact kul
  rw [a, b, c]
theorem ok__law_pen {P : Program} {w : World} {K : PySem.W.Frag} {mg : Str → Option Value} {base : Heap} (T : Tx K mg) : FnOk P w K mg base CX0 1 (f__law_pen K) (fdOf K (f__law_pen K)) ["_law_script"] (sp_pen K) := by
  refine T.d__law_pen.ok sc__law_pen (fun vs H Q E h => by obtain ⟨a, ns, rfl, ha, k⟩ := h; rfl) (fun cdv A outer s H vs Q E hr h => ?_)
  obtain ⟨a, ns, rfl, ha, k⟩ := h
  refine ⟨_, PSs.nox (pss_one (ps_ret (pe_disp (pps_cons pe_str (pe_callTy call_list_of (by rfl) (by exact T.z_list) bt_list (pa_cons (pe_slice sl_list (pv 0) po_none (po_some pe_int)) pa_nil)) (pps_cons pe_str pe_int (pps_cons pe_str pe_int pps_nil))) (by rfl) (by rfl) (fun z => by cases z) (by decide)))), ?_⟩
  intro p hp
  have e0 : Ex H (upd H p (.dK [])) := Ex.new hp
  have h1 := el_sl (K := K) (te := tVar 0) (σ := L2.start ["_law_script"] [V.ref a]) (H := upd H p (.dK [])) (ev_var rfl) eo_none (eo_some (te := tC (.int 63)) (i := 63) ev_c) (ex_l e0 ha)
  refine h1 _ (Ex.refl _) _ fun q H2 hq e2 h2 => ⟨q, _, rfl, .inl (sq_of h2), fun l hl => ?_⟩
  have e3 : Ex H2 (upd H2 l (.lst (cutV (ns.map V.int) none (some 63)))) := Ex.new hl
  have hp3 : (upd H2 l (.lst (cutV (ns.map V.int) none (some 63)))) p = some (.dK []) := e3 _ _ (e2 _ _ upd_same)
  have h3 : (upd H2 l (.lst (cutV (ns.map V.int) none (some 63)))) l = some (.lst (cutV (ns.map V.int) none (some 63))) := upd_same
  have hl0 : H l = none := fresh_back (e0.trans e2) hl
  have e03 : Ex H (upd H2 l (.lst (cutV (ns.map V.int) none (some 63)))) := (e0.trans e2).trans e3
  generalize upd H2 l (.lst (cutV (ns.map V.int) none (some 63))) = G at hp3 h3 e03
  refine ⟨hp3, [((Sum.inr "cells" : Key), V.ref l), (Sum.inr "used", .int 0), (Sum.inr "left", .int 0)], rfl, by show 3 ≤ 15; decide, ?_⟩
  rw [pen_made]
  have nl : l ≠ p := fun z => by rw [z, hp3] at h3; cases h3
  have hcut : ∃ ms : List Int, cutV (ns.map V.int) none (some 63) = ms.map V.int ∧ ms.length ≤ 63 := by
    refine ⟨(ns.drop 0).take 63, ?_, by rw [List.length_take]; omega⟩
    unfold cutV
    rw [List.drop_zero]
    show ((ns.map V.int).drop 0).take (HT.sIx (ns.map V.int).length (ns.map V.int).length (some ((63 : Nat) : Int)) - 0) = _
    rw [HT.sIx_nat, List.drop_zero, Nat.sub_zero, List.map_take, List.length_map]
    by_cases c : 63 ≤ ns.length
    · rw [Nat.min_eq_left c]
    · rw [Nat.min_eq_right (by omega), List.take_of_length_le (by rw [List.length_map]; omega), List.take_of_length_le (by rw [List.length_map]; omega)]
  obtain ⟨ms, em, lm⟩ := hcut
  exact k p l _ hp hl0 (Ex.mut e03 hp) ⟨ms, 0, 0, upd_same, by rw [upd_ne nl, ← em]; exact h3, by decide, by decide, by decide, lm⟩
def sp_pick (K : PySem.W.Frag) : Sp := fun vs H Q _ => ∃ (pen cl a : Addr) (xs : List V) (U : Nat), vs = [.ref pen, .ref a] ∧ PenAt H pen cl U ∧ U + 5 ≤ 10 ^ 12 ∧ H a = some (.lst xs) ∧ xs ≠ [] ∧ xs.length ≤ 100000 ∧ ∀ v H', v ∈ xs → ExB pen H H' → PenAt H' pen cl (U + 5) → Q v H'
theorem PenAt.ne {H : Hp} {pen cl a : Addr} {U : Nat} {o : HO} (h : PenAt H pen cl U) (ha : H a = some o) (n : ∀ kvs, o ≠ .dK kvs) : a ≠ pen := fun z => by
  obtain ⟨ns, u, lf, h1, _⟩ := h.ex
  rw [z, h1] at ha
  exact n _ (Option.some.inj ha).symm
theorem ok__law_pick {P : Program} {w : World} {K : PySem.W.Frag} {mg : Str → Option Value} {base : Heap} (T : Tx K mg) : FnOk P w K mg base CX0 8 (f__law_pick K) (fdOf K (f__law_pick K)) ["_law_pen_here", "_law_some"] (sp_pick K) := by
  refine T.d__law_pick.ok sc__law_pick (fun vs H Q E h => by obtain ⟨pen, cl, a, xs, U, rfl, hpen, hU, ha, hne, hl, k⟩ := h; rfl) (fun cdv A outer s H vs Q E hr h => ?_)
  obtain ⟨pen, cl, a, xs, U, rfl, hpen, hU, ha, hne, hl, k⟩ := h
  refine ⟨_, PSs.nox (pss_one (ps_ret (pe_ix ix_list (pv 1) (pe_call (ok__law_draw T) (by exact hr.mono (by first | decide | omega)) (by rfl) (by exact T.m__law_draw) (by exact T.d__law_draw.kp) (bn__law_draw T) .nil pass0 (pa_cons (pv 0) (pa_cons (pe_callB call_len_seq (by rfl) (by exact T.z_len) bt_len (pa_cons (pv 1) pa_nil)) pa_nil))) (fun _ _ => rfl)))), ?_⟩
  have hp : 0 < xs.length := List.length_pos_iff.mpr hne
  have na : a ≠ pen := hpen.ne ha fun _ => nofun
  refine ⟨_, rfl, ?_⟩
  refine ea_cons (ta := tVar 0) (x := .ref pen) (ev_var rfl) (ea_cons (x := .int ((xs.length : Nat) : Int)) (ta := tCB (rLenS K) (tCons (tVar 1) tNil)) (ev_len (ev_var rfl) (sq_of ha)) ea_nil) H (Ex.refl _) (fun vs H1 => sp_draw DB 5 (vs ++ []) H1 _ E0) fun H1 e1 => ?_
  refine ⟨pen, cl, _, U, rfl, hpen.up e1, hU, by omega, Int.ofNat_le.mpr (Nat.le_trans hl (by decide)), fun r H2 r0 r1 b2 p2 => ?_⟩
  have hlt : r.toNat < xs.length := by omega
  have er : r = ((r.toNat : Nat) : Int) := by omega
  have h2 : H2 a = some (.lst xs) := b2 _ _ na (e1 _ _ ha)
  exact ⟨a, xs, r, xs[r.toNat], rfl, rfl, sq_of h2, atI_get r0 hlt, k _ _ (List.getElem_mem hlt) (fun b o n hb => b2 _ _ n (e1 _ _ hb)) p2⟩
theorem item_keep {H H' : Hp} {pen cl : Addr} {U : Nat} {x : V} (hp : PenAt H pen cl U) (b : ExB pen H H') (h : ItemAt H x) : ItemAt H' x := by
  rcases h with h | h | ⟨t, a, c, h, ht, hs⟩
  · exact .inl h
  · exact .inr (.inl h)
  · exact .inr (.inr ⟨t, a, c, h, b _ _ (hp.ne ht fun _ => nofun) ht, hs⟩)
def sp_shuffled (K : PySem.W.Frag) : Sp := fun vs H Q _ => ∃ (pen cl : Addr) (x : V) (xs : List V) (U : Nat), vs = [.ref pen, x] ∧ PenAt H pen cl U ∧ U + 5 * xs.length ≤ 10 ^ 12 ∧ ((∃ z : Str, x = .str z ∧ xs = strL z) ∨ ∃ a, x = .ref a ∧ H a = some (.lst xs)) ∧ (∀ y ∈ xs, ItemAt H y) ∧ xs.length ≤ 1000 ∧
  ∀ p ys H', H p = none → ys.Perm xs → ExB pen H H' → PenAt H' pen cl (U + 5 * xs.length) → H' p = some (.lst ys) → Q (.ref p) H'
theorem ok__law_shuffled {P : Program} {w : World} {K : PySem.W.Frag} {mg : Str → Option Value} {base : Heap} (T : Tx K mg) : FnOk P w K mg base CX0 8 (f__law_shuffled K) (fdOf K (f__law_shuffled K)) ["_law_pen_here", "_law_items"] (sp_shuffled K) := by
  refine T.d__law_shuffled.ok sc__law_shuffled (fun vs H Q E h => by obtain ⟨pen, cl, x, xs, U, rfl, hpen, hU, hx, hit, hl, k⟩ := h; rfl) (fun cdv A outer s H vs Q E hr h => ?_)
  obtain ⟨pen, cl, x, xs, U, rfl, hpen, hU, hx, hit, hl, k⟩ := h
  refine ⟨_, PSs.nox (pss_cons (ps_par (i := 2) (j := 3) (by rfl) sc__law_shuffled.nd rfl rfl (by decide) rfl rfl (pa_cons (pe_callTy (call_listQ rfl) (by rfl) (by exact T.z_list) bt_list (pa_cons (pv 1) pa_nil)) (pa_cons (pe_lst pa_nil) pa_nil)) (by rfl)) (
pss_cons (ps_while PassesOwn.never (pt_cmpR (op_neD (by exact hr.units)) (pv 2) (pe_lst pa_nil) (nomark _)) (
pss_one (ps_expr (pe_bm PySem.F.plainAttrs_list PySem.F.slot_list_append PySem.F.type_list_append mt_append (pv 3) (pa_cons (pe_bm PySem.F.plainAttrs_list PySem.F.slot_list_pop PySem.F.type_list_pop mt_popAt (pv 2) (pa_cons (pe_call (ok__law_draw T) (by exact hr.mono (by first | decide | omega)) (by rfl) (by exact T.m__law_draw) (by exact T.d__law_draw.kp) (bn__law_draw T) .nil pass0 (pa_cons (pv 0) (pa_cons (pe_callB call_len_seq (by rfl) (by exact T.z_len) bt_len (pa_cons (pv 2) pa_nil)) pa_nil))) pa_nil)) pa_nil))))) (
pss_one (ps_ret (pv 3))))), ?_⟩
  have hl5 : xs.length ≤ 100000 := by omega
  refine q_parLL (el_listQ (ev_var rfl) hx hl5) (fun H1 e1 => el_lst ea_nil (by decide)) fun l f H1 hl0 hf0 hfl e1 h1 h1f => ?_
  let W : Nat → L2.St → Hp → Prop := fun m σ' H' => σ' = [some (.ref pen), some x, some (.ref l), some (.ref f)] ∧ ExB pen H H' ∧ ∃ ls fs, H' l = some (.lst ls) ∧ H' f = some (.lst fs) ∧ ls.length = m ∧ (fs ++ ls).Perm xs ∧ PenAt H' pen cl (U + 5 * fs.length)
  refine q_while W xs.length ⟨rfl, fun b o _ hb => e1 _ _ hb, xs, [], h1, h1f, rfl, by simp, (hpen.up e1).mono (by omega)⟩ fun m σ' H' ⟨hσ, bx, ls, fs, g1, g2, hm, hp, hpn⟩ => ?_
  subst hσ
  have hil : ∀ y ∈ ls, ItemAt H' y := fun y hy => item_keep hpen bx (hit y (hp.mem_iff.mp (List.mem_append_right _ hy)))
  have hlen : fs.length + ls.length = xs.length := by rw [← List.length_append]; exact hp.length_eq
  refine ⟨!ls.isEmpty, et_test (ev_opL (ev_var rfl) (el_lst ea_nil (by decide)) fun p H5 h5 e5 => rv_neNil (sq_of (e5 _ _ g1)) h5 fun y hy => ?_), fun hb H2 e2 => ?_, fun hb H2 e2 => ?_⟩
  · exact item_keep hpn (fun b o _ hb => e5 _ _ hb) (hil y hy)
  · have hne : ls ≠ [] := by
      intro z
      rw [z] at hb
      cases hb
    have hpos : 0 < ls.length := List.length_pos_iff.mpr hne
    have nlp : l ≠ pen := hpn.ne g1 fun _ => nofun
    have nfp : f ≠ pen := hpn.ne g2 fun _ => nofun
    refine ⟨fun σ2 H3 => ∃ m', m' < m ∧ W m' σ2 H3, fun σ2 H3 h => h, ?_⟩
    refine ⟨_, rfl, .inl ⟨rfl, fs, sq_of (e2 _ _ g2)⟩, ?_⟩
    refine ⟨_, rfl, .inl ⟨rfl, ls, sq_of (e2 _ _ g1)⟩, ?_⟩
    refine ea_cons (ta := tVar 0) (x := .ref pen) (ev_var rfl) (ea_cons (x := .int ((ls.length : Nat) : Int)) (ta := tCB (rLenS K) (tCons (tVar 2) tNil)) (ev_len (ev_var rfl) (sq_of (e2 _ _ g1))) ea_nil) H2 (Ex.refl _) (fun vs H1 => sp_draw DB 5 (vs ++ []) H1 _ E0) fun H3 e3 => ?_
    refine ⟨pen, cl, _, U + 5 * fs.length, rfl, (hpn.up e2).up e3, by omega, by omega, Int.ofNat_le.mpr (Nat.le_trans (show ls.length ≤ 1000 by omega) (by decide)), fun r H4 r0 r1 b4 p4 => ?_⟩
    have hlt : r.toNat < ls.length := by omega
    have er : r = ((r.toNat : Nat) : Int) := by omega
    have k1 : H4 l = some (.lst ls) := b4 _ _ nlp (e3 _ _ (e2 _ _ g1))
    have k2 : H4 f = some (.lst fs) := b4 _ _ nfp (e3 _ _ (e2 _ _ g2))
    refine ⟨l, ls, r, r.toNat, ls[r.toNat], rfl, rfl, k1, by omega, by omega, ?_, List.getElem?_eq_getElem hlt, ?_⟩
    · have := (ixN_seq (ixN_nat hlt)).1
      rwa [← er] at this
    refine ⟨f, fs, ls[r.toNat], rfl, rfl, by rw [upd_ne hfl]; exact k2, sz_lt (by omega), ls.length - 1, by omega, rfl, fun b o n hb => ?_, ls.eraseIdx r.toNat, fs ++ [ls[r.toNat]], ?_, upd_same, by rw [List.length_eraseIdx, if_pos hlt], ?_, ?_⟩
    · have nb : b ≠ f := fun z => by rw [z, hf0] at hb; cases hb
      have nb2 : b ≠ l := fun z => by rw [z, hl0] at hb; cases hb
      rw [upd_ne nb, upd_ne nb2]
      exact b4 _ _ n (e3 _ _ (e2 _ _ (bx _ _ n hb)))
    · rw [upd_ne hfl.symm, upd_same]
    · have hq : (ls[r.toNat] :: ls.eraseIdx r.toNat).Perm ls := erase_perm hlt
      rw [List.append_assoc]
      exact (List.Perm.append_left fs hq).trans hp
    · rw [List.length_append]
      show PenAt _ pen cl (U + 5 * (fs.length + 1))
      obtain ⟨ns, u, lf, q1, q2, q3⟩ := p4.ex
      obtain ⟨ns0, u0, lf0, q10, q20, q30⟩ := hpen.ex
      have ncf : cl ≠ f := fun z => by rw [z, hf0] at q20; cases q20
      have ncl : cl ≠ l := fun z => by rw [z, hl0] at q20; cases q20
      refine ⟨ns, u, lf, by rw [upd_ne nfp.symm, upd_ne nlp.symm]; exact q1, by rw [upd_ne ncf, upd_ne ncl]; exact q2, q3.1, by have := q3.2.1; omega, q3.2.2⟩
  · have hz : ls = [] := by
      cases ls with
      | nil => rfl
      | cons a r => cases hb
    rw [hz, List.append_nil] at hp
    exact s_ret (ev_var rfl) fun H3 e3 => k f fs H3 hf0 hp (fun b o n hb => e3 _ _ (e2 _ _ (bx _ _ n hb))) (by rw [← hp.length_eq]; exact (hpn.up e2).up e3) (e3 _ _ (e2 _ _ g2))
end P38

set_option Elab.async false
set_option linter.all false
set_option maxRecDepth 100000
set_option maxHeartbeats 4000000
namespace P38
open PySem PySem.Spec PyProof.Rows L2 Evl LamX NdefX
/-- turned signs stand in the font, both ways -/
structure EtaOk (S : List Nat) (η : Nat → Option Nat) : Prop where
  ins : ∀ c d, η c = some d → c ∈ S ∧ d ∈ S
  sym : ∀ c d, η c = some d → η d = some c
structure FtAt (H : Hp) (a : Addr) (S : List Nat) (η : Nat → Option Nat) : Prop where
  ex : ∃ (hd : Addr) (kvs : List (Key × V)), H a = some (.tup [.str (tx S), .ref hd]) ∧ H hd = some (.dK kvs) ∧ HeadsD kvs η
theorem eta_none (S : List Nat) : EtaOk S fun _ => none := ⟨(fun _ _ h => by cases h), (fun _ _ h => by cases h)⟩
theorem eta_step {S : List Nat} {η : Nat → Option Nat} (h : EtaOk S η) {a b : Nat} (ha : a ∈ S) (hb : b ∈ S) (na : η a = none) (nb : η b = none) : EtaOk S (etaS η (a, b)) := by
  have no : ∀ c, η c ≠ some a ∧ η c ≠ some b := fun c => ⟨(fun z => by have := h.sym _ _ z; rw [na] at this; cases this), (fun z => by have := h.sym _ _ z; rw [nb] at this; cases this)⟩
  refine ⟨fun c d e => ?_, fun c d e => ?_⟩
  · unfold etaS at e
    by_cases c1 : c = b
    · rw [if_pos c1] at e; rw [c1, ← Option.some.inj e]; exact ⟨hb, ha⟩
    · by_cases c2 : c = a
      · rw [if_neg c1, if_pos c2] at e; rw [c2, ← Option.some.inj e]; exact ⟨ha, hb⟩
      · rw [if_neg c1, if_neg c2] at e; exact h.ins _ _ e
  · unfold etaS at e ⊢
    by_cases c1 : c = b
    · rw [if_pos c1] at e
      have e : d = a := (Option.some.inj e).symm
      rw [e, c1]
      by_cases q : a = b
      · rw [if_pos q, q]
      · rw [if_neg q, if_pos rfl]
    · by_cases c2 : c = a
      · rw [if_neg c1, if_pos c2] at e
        have e : d = b := (Option.some.inj e).symm
        rw [e, c2, if_pos rfl]
      · rw [if_neg c1, if_neg c2] at e
        have n := no c
        rw [if_neg (fun z : d = b => n.2 (by rw [← z]; exact e)), if_neg (fun z : d = a => n.1 (by rw [← z]; exact e))]
        exact h.sym _ _ e
theorem etaS_self (η : Nat → Option Nat) (a : Nat) : etaS η (a, a) = fun c => if c = a then some a else η c := funext fun c => by
  show (if c = a then some a else if c = a then some a else η c) = if c = a then some a else η c
  by_cases q : c = a
  · rw [if_pos q, if_pos q]
  · rw [if_neg q, if_neg q]
theorem heads_self {kvs : List (Key × V)} {η : Nat → Option Nat} (h : HeadsD kvs η) (a : Nat) : HeadsD (putK kvs (kS a) (sV a)) (etaS η (a, a)) := by
  refine ⟨fun c => ?_, put_self rfl h.self⟩
  rw [etaS_self, valV_put, h.get]
  show _ = Option.map sV (if c = a then some a else η c)
  by_cases q : c = a
  · rw [q, if_pos rfl, if_pos rfl]; rfl
  · rw [if_neg fun z => q (kS_inj z), if_neg q]
theorem etaS_off {η : Nat → Option Nat} {a b c : Nat} (h1 : c ≠ a) (h2 : c ≠ b) : etaS η (a, b) c = η c := by
  unfold etaS
  rw [if_neg h2, if_neg h1]
theorem strL_tx (S : List Nat) : strL (tx S) = S.map sV := by
  unfold strL tx
  rfl
theorem LT_nodup : LT.Nodup := by decide +kernel
theorem LT_len : LT.length = 36 := by decide +kernel
theorem LT_ok : ∀ c ∈ LT, c < 0x110000 ∧ c ≠ 45 := by decide +kernel
theorem item_sg {H : Hp} {c : Nat} (h : c < 0x110000) : ItemAt H (sV c) := .inr (.inl ⟨_, rfl, strOk_tx (S := [c]) fun d hd => by rw [List.mem_singleton.mp hd]; exact h⟩)
def sp_font (K : PySem.W.Frag) : Sp := fun vs H Q _ => ∃ (pen cl : Addr) (U : Nat), vs = [.ref pen, .int 2, .int 6] ∧ PenAt H pen cl U ∧ U + 300 ≤ 10 ^ 12 ∧
  ∀ a S η H', SOk S → (∀ c ∈ S, c ∈ LT) → EtaOk S η → ExB pen H H' → PenAt H' pen cl (U + 300) → FtAt H' a S η → (∀ hd, H' a = some (.tup [.str (tx S), .ref hd]) → hd ≠ pen) → Q (.ref a) H'
theorem ok__law_font {P : Program} {w : World} {K : PySem.W.Frag} {mg : Str → Option Value} {base : Heap} (T : Tx K mg) : FnOk P w K mg base CX0 10 (f__law_font K) (fdOf K (f__law_font K)) ["_law_pen_here", "_law_fewest", "_law_most"] (sp_font K) := by
  refine T.d__law_font.ok sc__law_font (fun vs H Q E h => by obtain ⟨pen, cl, U, rfl, hpen, hU, k⟩ := h; rfl) (fun cdv A outer s H vs Q E hr h => ?_)
  obtain ⟨pen, cl, U, rfl, hpen, hU, k⟩ := h
  refine ⟨_, PSs.nox (pss_cons (ps_set (i := 3) sc__law_font.nd rfl (by first | exact Or.inl rfl | exact Or.inr rfl) (pe_call (ok__law_shuffled T) (by exact hr.mono (by first | decide | omega)) (by rfl) (by exact T.m__law_shuffled) (by exact T.d__law_shuffled.kp) (bn__law_shuffled T) .nil pass0 (pa_cons (pv 0) (pa_cons pe_str pa_nil)))) (
pss_cons (ps_par (i := 4) (j := 5) (by rfl) sc__law_font.nd rfl rfl (by decide) rfl rfl (pa_cons (pe_join pe_str (pe_slice sl_list (pv 3) po_none (po_some (pe_op op_add (pv 1) (pe_call (ok__law_draw T) (by exact hr.mono (by first | decide | omega)) (by rfl) (by exact T.m__law_draw) (by exact T.d__law_draw.kp) (bn__law_draw T) .nil pass0 (pa_cons (pv 0) (pa_cons (pe_op op_add (pe_op op_sub (pv 2) (pv 1)) pe_int) pa_nil))))))) (pa_cons pe_dnewK pa_nil)) (by rfl)) (
pss_cons (ps_set (i := 6) sc__law_font.nd rfl (by first | exact Or.inl rfl | exact Or.inr rfl) (pe_call (ok__law_shuffled T) (by exact hr.mono (by first | decide | omega)) (by rfl) (by exact T.m__law_shuffled) (by exact T.d__law_shuffled.kp) (bn__law_shuffled T) .nil pass0 (pa_cons (pv 0) (pa_cons (pv 4) pa_nil)))) (
pss_cons (ps_while PassesOwn.never (pt_cmpR (op_neD (by exact hr.units)) (pv 6) (pe_lst pa_nil) (nomark _)) (
pss_cons (ps_par (i := 7) (j := 8) (by rfl) sc__law_font.nd rfl rfl (by decide) rfl rfl (pa_cons (pe_bm0 PySem.F.plainAttrs_list PySem.F.slot_list_pop PySem.F.type_list_pop mt_pop (pv 6)) (pa_cons (pe_call (ok__law_draw T) (by exact hr.mono (by first | decide | omega)) (by rfl) (by exact T.m__law_draw) (by exact T.d__law_draw.kp) (bn__law_draw T) .nil pass0 (pa_cons (pv 0) (pa_cons pe_int pa_nil))) pa_nil)) (by rfl)) (
pss_cons (ps_if (pt_cmpR op_eq (pv 8) pe_int (nomark _)) (pss_one (ps_dput (by exact hu_of hr) (pv 5) (pv 7) (pv 7) rfl)) pss_nil) (
pss_one (ps_if (PW.pt (pw_and (pt_cmpR op_eq (pv 8) pe_int (nomark _)) (pw_and1 (pt_cmpR (op_neD (by exact hr.units)) (pv 6) (pe_lst pa_nil) (nomark _))))) (pss_cons (ps_set (i := 9) sc__law_font.nd rfl (by first | exact Or.inl rfl | exact Or.inr rfl) (pe_bm0 PySem.F.plainAttrs_list PySem.F.slot_list_pop PySem.F.type_list_pop mt_pop (pv 6))) (
pss_cons (ps_dput (by exact hu_of hr) (pv 5) (pv 7) (pv 9) rfl) (
pss_one (ps_dput (by exact hu_of hr) (pv 5) (pv 9) (pv 7) rfl)))) pss_nil))))) (
pss_one (ps_ret (pe_tup (pa_cons (pv 4) (pa_cons (pv 5) pa_nil))))))))), ?_⟩
  refine ea_cons (ta := tVar 0) (x := .ref pen) (ev_var rfl) (ea_cons (x := .str "0123456789abcdefghijklmnopqrstuvwxyz") (ta := tC (.str "0123456789abcdefghijklmnopqrstuvwxyz")) ev_c ea_nil) H (Ex.refl _) (fun vs H1 => sp_shuffled K (vs ++ []) H1 _ E0) fun H1 e1 => ?_
  have hs36 : (strL "0123456789abcdefghijklmnopqrstuvwxyz").length = 36 := by show (List.map _ LT).length = 36; rw [List.length_map, LT_len]
  refine ⟨pen, cl, _, strL "0123456789abcdefghijklmnopqrstuvwxyz", U, rfl, hpen.up e1, by rw [hs36]; omega, .inl ⟨_, rfl, rfl⟩, fun y hy => ?_, by rw [hs36]; decide, fun p ys H2 hp0 hperm b2 p2 h2 => ?_⟩
  · obtain ⟨c, hc, rfl⟩ := List.mem_map.mp hy
    exact item_sg (LT_ok c hc).1
  rw [hs36] at p2
  obtain ⟨ls, hls, rfl⟩ := perm_map (f := sV) (l := LT) hperm
  have b02 : ExB pen H H2 := fun b o n hb => b2 _ _ n (e1 _ _ hb)
  have hp00 : H p = none := fresh_back e1 hp0
  have npp : p ≠ pen := fun z => by obtain ⟨ns, u, lf, q1, _⟩ := hpen.ex; rw [z, q1] at hp00; cases hp00
  refine ⟨⟨_, rfl⟩, ?_⟩
  refine ⟨_, rfl, ?_⟩
  refine ⟨_, rfl, ?_⟩
  refine ea_cons (ta := tVar 0) (x := .ref pen) (ev_var rfl) (ea_cons (x := .int (6 - 2 + 1)) (ta := tOp (rI0 fun i j => .int (i + j)) (tOp (rI0 fun i j => .int (i - j)) (tVar 2) (tVar 1)) (tC (.int 1))) (ev_op (ev_op (ev_var rfl) (ev_var rfl) rv_I0) ev_c rv_I0) ea_nil) H2 (Ex.refl _) (fun vs H1 => sp_draw DB 5 (vs ++ []) H1 _ E0) fun H3 e3 => ?_
  refine ⟨pen, cl, _, U + 5 * 36, rfl, p2.up e3, by omega, by decide, by decide, fun r H4 r0 r1 b4 p4 => ?_⟩
  refine ⟨2, r, rfl, rfl, 2 + r, rfl, p, ls.map sV, rfl, sq_of (b4 _ _ npp (e3 _ _ h2)), fun q hq => ?_⟩
  have hcut : cutV (ls.map sV) none (some (2 + r)) = (ls.take (2 + r).toNat).map sV := by
    have er : 2 + r = (((2 + r).toNat : Nat) : Int) := by omega
    have h36 := hls.length_eq
    rw [LT_len] at h36
    have : (2 + r).toNat ≤ 36 := by omega
    unfold cutV
    rw [er, HT.sIx_nat]
    show ((ls.map sV).drop 0).take (min _ _ - 0) = _
    rw [List.drop_zero, Nat.sub_zero, List.length_map, h36, Int.toNat_natCast, Nat.min_eq_left this, List.map_take]
  rw [hcut]
  have hS1 : (ls.take (2 + r).toNat).length = (2 + r).toNat := by
    have h36 := hls.length_eq
    rw [LT_len] at h36
    rw [List.length_take]
    omega
  have hSm : ∀ c ∈ ls.take (2 + r).toNat, c ∈ LT := fun c hc => hls.mem_iff.mp (List.mem_of_mem_take hc)
  have hS : SOk (ls.take (2 + r).toNat) := ⟨List.Nodup.sublist (List.take_sublist _ _) (hls.nodup_iff.mpr LT_nodup), by omega, by omega, fun z => (LT_ok 45 (hSm 45 z)).2 rfl⟩
  generalize ls.take (2 + r).toNat = S at hS hSm
  have h6 := hS.most
  refine ⟨"", q, S.map sg, rfl, rfl, .inl (sq_of (by rw [upd_same, List.map_map]; rfl)), ?_, ?_⟩
  · rw [sum_sg, List.length_map, show ("" : Str).length = 0 by decide +kernel]
    omega
  rw [join_sg]
  have e5 : Ex H4 (upd H4 q (.lst (S.map sV))) := Ex.new hq
  have b05 : ExB pen H (upd H4 q (.lst (S.map sV))) := fun b o n hb => e5 _ _ (b4 _ _ n (e3 _ _ (b02 _ _ n hb)))
  have p5 : PenAt (upd H4 q (.lst (S.map sV))) pen cl (U + 185) := (p4.up e5).mono (by omega)
  generalize upd H4 q (.lst (S.map sV)) = G5 at b05 p5
  intro hd hhd
  have e6 : Ex G5 (upd G5 hd (.dK [])) := Ex.new hhd
  have h6h : (upd G5 hd (.dK [])) hd = some (.dK []) := upd_same
  have b06 : ExB pen H (upd G5 hd (.dK [])) := fun b o n hb => e6 _ _ (b05 _ _ n hb)
  have p6 := p5.up e6
  have nhp : hd ≠ pen := fun z => by obtain ⟨ns, u, lf, q1, _⟩ := p5.ex; rw [z, q1] at hhd; cases hhd
  have nhc : hd ≠ cl := fun z => by obtain ⟨ns, u, lf, _, q2, _⟩ := p5.ex; rw [z, q2] at hhd; cases hhd
  have hd0 : H hd = none := by
    cases z : H hd with
    | none => rfl
    | some o => rw [b05 _ _ nhp z] at hhd; cases hhd
  generalize upd G5 hd (.dK []) = G6 at b06 p6 h6h
  refine ⟨_, _, rfl, ?_⟩
  refine ea_cons (ta := tVar 0) (x := .ref pen) (ev_var rfl) (ea_cons (x := .str (tx S)) (ta := tVar 4) (ev_var rfl) ea_nil) G6 (Ex.refl _) (fun vs H1 => sp_shuffled K (vs ++ []) H1 _ E0) fun H7 e7 => ?_
  refine ⟨pen, cl, _, S.map sV, U + 185, rfl, p6.up e7, by rw [List.length_map]; omega, .inl ⟨_, rfl, (strL_tx S).symm⟩, fun y hy => ?_, by rw [List.length_map]; omega, fun lf ys H8 hlf0 hperm2 b8 p8 h8 => ?_⟩
  · obtain ⟨c, hc, rfl⟩ := List.mem_map.mp hy
    exact item_sg (LT_ok c (hSm c hc)).1
  rw [List.length_map] at p8
  obtain ⟨ms0, hms0, rfl⟩ := perm_map hperm2
  have h8h : H8 hd = some (.dK []) := b8 _ _ nhp (e7 _ _ h6h)
  have b08 : ExB pen H H8 := fun b o n hb => b8 _ _ n (e7 _ _ (b06 _ _ n hb))
  have nlh : lf ≠ hd := fun z => by rw [z, h8h] at h8; cases h8
  have nlp : lf ≠ pen := p8.ne h8 fun _ => nofun
  have lf0 : H lf = none := by
    cases z : H lf with
    | none => rfl
    | some o => rw [e7 _ _ (b06 _ _ nlp z)] at hlf0; cases hlf0
  have clH : ∃ xs, H cl = some (.lst xs) := by obtain ⟨ns, u, l2, _, q2, _⟩ := hpen.ex; exact ⟨_, q2⟩
  have nlc : lf ≠ cl := fun z => by obtain ⟨xs, q⟩ := clH; rw [← z, lf0] at q; cases q
  have lS := hms0.length_eq
  let st : L2.St → Prop := fun σ' => ∃ u7 u8 u9, σ' = [some (.ref pen), some (.int 2), some (.int 6), some (.ref p), some (.str (tx S)), some (.ref hd), some (.ref lf), u7, u8, u9]
  let W : Nat → L2.St → Hp → Prop := fun m σ' H' => st σ' ∧ ExB pen H H' ∧ ∃ (ms : List Nat) (kvs : List (Key × V)) (η : Nat → Option Nat), ms.length = m ∧ m ≤ S.length ∧ ms.Nodup ∧ (∀ c ∈ ms, c ∈ S ∧ η c = none) ∧ EtaOk S η ∧ HeadsD kvs η ∧ kvs.length + 2 * m ≤ 2 * S.length ∧ H' lf = some (.lst (ms.map sV)) ∧ H' hd = some (.dK kvs) ∧
    PenAt H' pen cl (U + 185 + 5 * S.length + 5 * (S.length - m))
  refine q_while W S.length ⟨⟨none, none, none, rfl⟩, b08, ms0, [], fun _ => none, lS, Nat.le_refl _, hms0.nodup_iff.mpr hS.nd, fun c hc => ⟨hms0.mem_iff.mp hc, rfl⟩, eta_none S, heads_none, by simp, h8, h8h, p8.mono (by omega)⟩ fun m σ' H' w => ?_
  obtain ⟨⟨u7, u8, u9, rfl⟩, bx, ms, kvs, η, hm, hmS, hnd, hms, hη, hkv, hkl, g1, g2, pn⟩ := w
  have itm : ∀ {ms : List Nat}, (∀ c ∈ ms, c ∈ S) → ∀ {H : Hp}, ∀ y ∈ ms.map sV, ItemAt H y := fun {ms} hs {H} y hy => by
    obtain ⟨c, hc, rfl⟩ := List.mem_map.mp hy
    exact item_sg (LT_ok c (hSm c (hs c hc))).1
  refine ⟨!ms.isEmpty, et_test (ev_is (ev_opL (ev_var rfl) (el_lst ea_nil (by decide)) fun q H9 h9 e9 => rv_neNil (sq_of (e9 _ _ g1)) h9 (itm fun c hc => (hms c hc).1)) (by rw [List.isEmpty_map])), fun hb H9 e9 => ?_, fun hb H9 e9 => ?_⟩
  · obtain ⟨ms', c, rfl⟩ : ∃ ms' c, ms = ms' ++ [c] := by
      rcases List.eq_nil_or_concat ms with z | ⟨L, b, z⟩
      · rw [z] at hb; cases hb
      · exact ⟨L, b, by rw [z, List.concat_eq_append]⟩
    rw [List.length_append] at hm
    have hm : ms'.length + 1 = m := hm
    obtain ⟨cS, cη⟩ := hms c (by simp)
    have hms' : ∀ d ∈ ms', d ∈ S ∧ η d = none := fun d hd => hms d (by simp [hd])
    have nd' : ms'.Nodup := (List.nodup_append.mp hnd).1
    have nc : ∀ d ∈ ms', d ≠ c := nodup_snoc hnd
    refine ⟨fun σ2 H3 => ∃ m', m' < m ∧ W m' σ2 H3, fun σ2 H3 h => h, ?_⟩
    refine ⟨_, rfl, .inl ⟨rfl, _, sq_of (e9 _ _ g1)⟩, lf, _, sV c, rfl, rfl, e9 _ _ g1, by rw [List.map_append, List.length_append]; simp, ?_⟩
    rw [List.map_append, show ([c].map sV) = [sV c] from rfl, List.dropLast_concat]
    have bA : ExB pen H (upd H9 lf (.lst (ms'.map sV))) := fun b o n hb => by rw [upd_ne fun z => by rw [z, lf0] at hb; cases hb]; exact e9 _ _ (bx _ _ n hb)
    have gA1 : (upd H9 lf (.lst (ms'.map sV))) lf = some (.lst (ms'.map sV)) := upd_same
    have gA2 : (upd H9 lf (.lst (ms'.map sV))) hd = some (.dK kvs) := by rw [upd_ne nlh.symm]; exact e9 _ _ g2
    have pA : PenAt (upd H9 lf (.lst (ms'.map sV))) pen cl (U + 185 + 5 * S.length + 5 * (S.length - m)) := by
      obtain ⟨ns, u, l2, q1, q2, q3⟩ := pn.ex
      exact ⟨ns, u, l2, by rw [upd_ne nlp.symm]; exact e9 _ _ q1, by rw [upd_ne nlc.symm]; exact e9 _ _ q2, q3⟩
    generalize upd H9 lf (.lst (ms'.map sV)) = A at bA gA1 gA2 pA
    refine ea_cons (ta := tVar 0) (x := .ref pen) (ev_var rfl) (ea_cons (x := .int 4) (ta := tC (.int 4)) ev_c ea_nil) A (Ex.refl _) (fun vs H1 => sp_draw DB 5 (vs ++ []) H1 _ E0) fun B eB => ?_
    refine ⟨pen, cl, 4, _, rfl, pA.up eB, by omega, by decide, by decide, fun r C r0 r1 bC pC => ?_⟩
    refine ⟨_, _, rfl, ?_⟩
    have gC1 : C lf = some (.lst (ms'.map sV)) := bC _ _ nlp (eB _ _ gA1)
    have gC2 : C hd = some (.dK kvs) := bC _ _ nhp (eB _ _ gA2)
    have bHC : ExB pen H C := fun b o n hb => bC _ _ n (eB _ _ (bA _ _ n hb))
    have pC2 : PenAt C pen cl (U + 185 + 5 * S.length + 5 * (S.length - ms'.length)) := pC.mono (by omega)
    have step : ∀ {D : Hp} {kv2 : List (Key × V)}, (∀ b o, b ≠ hd → C b = some o → D b = some o) → D hd = some (.dK kv2) → ExB pen H D ∧ D lf = some (.lst (ms'.map sV)) ∧ PenAt D pen cl (U + 185 + 5 * S.length + 5 * (S.length - ms'.length)) := fun {D} {kv2} hD _ => by
      refine ⟨fun b o n hb => hD _ _ (fun z => by rw [z, hd0] at hb; cases hb) (bHC _ _ n hb), hD _ _ nlh gC1, ?_⟩
      obtain ⟨ns, u, l2, q1, q2, q3⟩ := pC2.ex
      exact ⟨ns, u, l2, hD _ _ nhp.symm q1, hD _ _ nhc.symm q2, q3⟩
    refine st_eq (σ' := [some (.ref pen), some (.int 2), some (.int 6), some (.ref p), some (.str (tx S)), some (.ref hd), some (.ref lf), some (sV c), some (.int r), u9]) rfl ?_
    clear pA gA1 gA2 bA bC eB pC
    by_cases r0' : r = 0
    · subst r0'
      refine q_when (b := true) (et_is (et_test (ev_op (ev_var rfl) ev_c (rv_eq rfl))) (by rw [decide_eq_true rfl])) (fun _ D eD => ?_) (fun e => nomatch e)
      refine s_dput (k := kS c) (v := sV c) (ev_var rfl) (ev_var rfl) (ev_var rfl) (eD _ _ gC2) (by omega) fun D2 e2 => ?_
      have hD2 : ∀ b o, b ≠ hd → C b = some o → (upd D2 hd (.dK (putK kvs (kS c) (sV c)))) b = some o := fun b o n hb => by rw [upd_ne n]; exact e2 _ _ (eD _ _ hb)
      obtain ⟨w1, w2, w3⟩ := step hD2 upd_same
      have hd2 : (upd D2 hd (.dK (putK kvs (kS c) (sV c)))) hd = some (.dK (putK kvs (kS c) (sV c))) := upd_same
      generalize upd D2 hd (.dK (putK kvs (kS c) (sV c))) = D3 at w1 w2 w3 hd2 hD2
      refine s_when (b := false) (et_is (et_and (b := false) (et_test (ev_op (ev_var rfl) ev_c (rv_eq rfl))) fun e => ?_) (by rw [Bool.and_false])) (fun e => nomatch e) fun _ D4 e4 => ?_
      · exact absurd (V.int.inj (of_decide_eq_true e)) (by decide)
      · refine ⟨ms'.length, by omega, ⟨_, _, _, rfl⟩, fun b o n hb => e4 _ _ (w1 _ _ n hb), ms', _, etaS η (c, c), rfl, by omega, nd', fun d hd => ⟨(hms' d hd).1, by rw [etaS_off (nc d hd) (nc d hd)]; exact (hms' d hd).2⟩, eta_step hη cS cS cη cη, heads_self hkv c, ?_, e4 _ _ w2, e4 _ _ hd2, w3.up e4⟩
        have := put_len (kvs := kvs) (k := kS c) (v := sV c)
        omega
    · refine q_when (b := false) (et_is (et_test (ev_op (ev_var rfl) ev_c (rv_eq rfl))) (decide_eq_false fun e => r0' (V.int.inj e))) (fun e => nomatch e) fun _ D eD => ?_
      have fin : ∀ {D4 : Hp} {u9 : Option V}, Ex D D4 → ∃ m', m' < m ∧ W m' [some (.ref pen), some (.int 2), some (.int 6), some (.ref p), some (.str (tx S)), some (.ref hd), some (.ref lf), some (sV c), some (.int r), u9] D4 := fun {D4 u9} e4 =>
        ⟨ms'.length, by omega, ⟨_, _, _, rfl⟩, fun b o n hb => e4 _ _ (eD _ _ (bHC _ _ n hb)), ms', kvs, η, rfl, by omega, nd', hms', hη, hkv, by omega, e4 _ _ (eD _ _ gC1), e4 _ _ (eD _ _ gC2), (pC2.up eD).up e4⟩
      refine s_when (b := decide (r = 1) && !ms'.isEmpty) (et_and (et_is (et_test (ev_op (ev_var rfl) ev_c (rv_eq rfl))) (by by_cases e : r = 1 <;> simp [e])) fun _ => et_test (ev_is (ev_opL (ev_var rfl) (el_lst ea_nil (by decide)) fun q H9 h9 e9 => rv_neNil (sq_of (e9 _ _ (eD _ _ gC1))) h9 (itm fun d hd => (hms' d hd).1)) (by rw [List.isEmpty_map]))) (fun hb D4 e4 => ?_) fun _ D4 e4 => fin e4
      rw [Bool.and_eq_true] at hb
      obtain ⟨ms2, d, rfl⟩ : ∃ ms2 d, ms' = ms2 ++ [d] := by
        rcases List.eq_nil_or_concat ms' with z | ⟨L, b, z⟩
        · rw [z] at hb; cases hb.2
        · exact ⟨L, b, by rw [z, List.concat_eq_append]⟩
      obtain ⟨dS, dη⟩ := hms' d (by simp)
      have hl2 : (ms2 ++ [d]).length = ms2.length + 1 := by simp
      rw [hl2] at hm
      have ndc : d ≠ c := nc d (by simp)
      have nd2 : ms2.Nodup := (List.nodup_append.mp nd').1
      have nc2 : ∀ e ∈ ms2, e ≠ d := nodup_snoc nd'
      have hms2 : ∀ e ∈ ms2, e ∈ S ∧ η e = none := fun e he => hms' e (by simp [he])
      have k1 := e4 _ _ (eD _ _ gC1)
      refine ⟨_, rfl, .inl ⟨rfl, _, sq_of k1⟩, lf, _, sV d, rfl, rfl, k1, by rw [List.map_append, List.length_append]; simp, ?_⟩
      rw [List.map_append, show ([d].map sV) = [sV d] from rfl, List.dropLast_concat]
      have gE1 : (upd D4 lf (.lst (ms2.map sV))) lf = some (.lst (ms2.map sV)) := upd_same
      have gE2 : (upd D4 lf (.lst (ms2.map sV))) hd = some (.dK kvs) := by rw [upd_ne nlh.symm]; exact e4 _ _ (eD _ _ gC2)
      have bE : ExB pen H (upd D4 lf (.lst (ms2.map sV))) := fun b o n hb => by rw [upd_ne fun z => by rw [z, lf0] at hb; cases hb]; exact e4 _ _ (eD _ _ (bHC _ _ n hb))
      have pE : PenAt (upd D4 lf (.lst (ms2.map sV))) pen cl (U + 185 + 5 * S.length + 5 * (S.length - (ms2 ++ [d]).length)) := by
        obtain ⟨ns, u, l2, q1, q2, q3⟩ := pC2.ex
        exact ⟨ns, u, l2, by rw [upd_ne nlp.symm]; exact e4 _ _ (eD _ _ q1), by rw [upd_ne nlc.symm]; exact e4 _ _ (eD _ _ q2), q3⟩
      generalize upd D4 lf (.lst (ms2.map sV)) = G at gE1 gE2 bE pE
      refine q_dput (k := kS c) (v := sV d) (ev_var rfl) (ev_var rfl) (ev_var rfl) gE2 (by omega) fun G2 e2 => ?_
      have l1 := put_len (kvs := kvs) (k := kS c) (v := sV d)
      have l2 := put_len (kvs := putK kvs (kS c) (sV d)) (k := kS d) (v := sV c)
      refine s_dput (k := kS d) (v := sV c) (ev_var rfl) (ev_var rfl) (ev_var rfl) upd_same (by omega) fun G3 e3 => ?_
      have kp : ∀ b o, b ≠ hd → G b = some o → (upd G3 hd (.dK (putK (putK kvs (kS c) (sV d)) (kS d) (sV c)))) b = some o := fun b o n hb => by rw [upd_ne n]; exact e3 _ _ (by rw [upd_ne n]; exact e2 _ _ hb)
      refine ⟨ms2.length, by omega, ⟨_, _, _, rfl⟩, fun b o n hb => kp _ _ (fun z => by rw [z, hd0] at hb; cases hb) (bE _ _ n hb), ms2, _, etaS η (c, d), rfl, by omega, nd2, fun e he => ⟨(hms2 e he).1, by rw [etaS_off (nc e (by simp [he])) (nc2 e he)]; exact (hms2 e he).2⟩, eta_step hη cS dS cη dη, heads_step hkv (c, d), by show (putK (putK kvs (kS c) (sV d)) (kS d) (sV c)).length + 2 * ms2.length ≤ 2 * S.length; omega, kp _ _ nlh gE1, upd_same, ?_⟩
      obtain ⟨ns, u, l3, q1, q2, q3⟩ := pE.ex
      exact PenAt.mono ⟨ns, u, l3, kp _ _ nhp.symm q1, kp _ _ nhc.symm q2, q3⟩ (by rw [hl2]; omega)
  · have hz : ms = [] := by
      cases ms with
      | nil => rfl
      | cons a r => cases hb
    refine eu_tup (vs := [.str (tx S), .ref hd]) (ea_cons (ev_var rfl) (ea_cons (ev_var rfl) ea_nil)) (by show 2 ≤ 100000; decide) H9 (Ex.refl _) (fun v H' => Q v H') fun a H10 _ e10 h10 => k a S η H10 hS hSm hη (fun b o n hb => e10 _ _ (e9 _ _ (bx _ _ n hb))) (((pn.up e9).up e10).mono (by omega)) ⟨hd, kvs, h10, e10 _ _ (e9 _ _ g2), hkv⟩ fun hd' h => by
      rw [h10] at h
      have := V.ref.inj (List.cons.inj (List.cons.inj (HO.tup.inj (Option.some.inj h))).2).1
      rw [← this]
      exact nhp
end P38

set_option Elab.async false
set_option linter.all false
set_option maxRecDepth 100000
set_option maxHeartbeats 4000000
namespace P38
open PySem PySem.Spec PyProof.Rows L2
/-! the turns that the law writes -/
def pairOf (η : Nat → Option Nat) (p : Nat × Nat) (c : Nat) : Prop := ∃ d, η c = some d ∧ (p = (c, d) ∨ p = (d, c))
/-- c leads its pair -/
def leads (S : List Nat) (η : Nat → Option Nat) (c : Nat) : Bool := match η c with
  | some d => decide (S.idxOf c ≤ S.idxOf d)
  | none => false
theorem leads_some {S : List Nat} {η : Nat → Option Nat} {c : Nat} (h : leads S η c = true) : ∃ d, η c = some d ∧ S.idxOf c ≤ S.idxOf d := by
  unfold leads at h
  cases e : η c with
  | none => rw [e] at h; cases h
  | some d => rw [e] at h; exact ⟨d, rfl, of_decide_eq_true h⟩
theorem idx_inj {S : List Nat} {c d : Nat} (hc : c ∈ S) (hd : d ∈ S) (h : S.idxOf c = S.idxOf d) : c = d := by
  have e := congrArg (fun i => S[i]?) h
  simp only [List.getElem?_eq_getElem (List.idxOf_lt_length_of_mem hc), List.getElem?_eq_getElem (List.idxOf_lt_length_of_mem hd), List.getElem_idxOf] at e
  exact Option.some.inj e
theorem eta_fold {η : Nat → Option Nat} (c : Nat) : ∀ (M : Turns) (η0 : Nat → Option Nat), (∀ p ∈ M, η p.1 = some p.2 ∧ η p.2 = some p.1) → ((∃ p ∈ M, c = p.1 ∨ c = p.2) → M.foldl etaS η0 c = η c) ∧ ((¬ ∃ p ∈ M, c = p.1 ∨ c = p.2) → M.foldl etaS η0 c = η0 c)
  | [], η0, _ => ⟨(fun ⟨p, hp, _⟩ => by cases hp), fun _ => rfl⟩
  | q :: M, η0, h => by
    obtain ⟨h1, h2⟩ := eta_fold c M (etaS η0 q) fun p hp => h p (List.mem_cons_of_mem _ hp)
    obtain ⟨q1, q2⟩ := h q List.mem_cons_self
    rw [List.foldl_cons]
    by_cases hM : ∃ p ∈ M, c = p.1 ∨ c = p.2
    · refine ⟨fun _ => h1 hM, fun n => absurd ?_ n⟩
      obtain ⟨p, hp, e⟩ := hM
      exact ⟨p, List.mem_cons_of_mem _ hp, e⟩
    · rw [h2 hM]
      unfold etaS
      refine ⟨fun ⟨p, hp, e⟩ => ?_, fun n => ?_⟩
      · rcases List.mem_cons.mp hp with rfl | hp
        · by_cases c2 : c = p.2
          · rw [if_pos c2, c2, q2]
          · have c1 := e.resolve_right c2
            rw [if_neg c2, if_pos c1, c1, q1]
        · exact absurd ⟨p, hp, e⟩ hM
      · have n1 : c ≠ q.1 := fun z => n ⟨q, List.mem_cons_self, .inl z⟩
        have n2 : c ≠ q.2 := fun z => n ⟨q, List.mem_cons_self, .inr z⟩
        rw [if_neg n2, if_neg n1]
theorem paired_mem {α β : Type} {F : α → β → Prop} {l : List α} {m : List β} (h : Paired F l m) : (∀ a ∈ l, ∃ b ∈ m, F a b) ∧ ∀ b ∈ m, ∃ a ∈ l, F a b := by
  induction h with
  | nil => exact ⟨fun a ha => by (cases ha), fun b hb => by (cases hb)⟩
  | cons x r ih =>
    refine ⟨fun a ha => ?_, fun b hb => ?_⟩
    · rcases List.mem_cons.mp ha with rfl | ha
      · exact ⟨_, List.mem_cons_self, x⟩
      · obtain ⟨b, hb, e⟩ := ih.1 a ha; exact ⟨b, List.mem_cons_of_mem _ hb, e⟩
    · rcases List.mem_cons.mp hb with rfl | hb
      · exact ⟨_, List.mem_cons_self, x⟩
      · obtain ⟨a, ha, e⟩ := ih.2 b hb; exact ⟨a, List.mem_cons_of_mem _ ha, e⟩
theorem trn_mem {S : List Nat} {p : Nat × Nat} {c : Nat} : c ∈ trn S p ↔ c ∈ S ∧ (c = p.1 ∨ c = p.2) := by
  unfold trn
  rw [List.mem_filter, decide_eq_true_iff]
  simp
/-- the turns that stand for a font's heads -/
theorem turns_nd {S : List Nat} {η : Nat → Option Nat} (hS : S.Nodup) (hη : EtaOk S η) : ∀ {L : Turns} {M : List Nat}, Paired (pairOf η) L M → M.Nodup → (∀ c ∈ M, leads S η c = true) → (L.flatMap (trn S)).Nodup
  | [], [], .nil, _, _ => List.nodup_nil
  | p :: L, c :: M, .cons x r, hn, hl => by
    have hn2 := List.nodup_cons.mp hn
    rw [List.flatMap_cons, List.nodup_append]
    refine ⟨hS.sublist List.filter_sublist, turns_nd hS hη r hn2.2 fun c hc => hl c (List.mem_cons_of_mem _ hc), fun a ha b hb e => ?_⟩
    subst e
    obtain ⟨q, hq, hbq⟩ := List.mem_flatMap.mp hb
    obtain ⟨c2, hc2, d2, e2, y⟩ := (paired_mem r).1 q hq
    obtain ⟨d, e1, x⟩ := x
    have ne : c ≠ c2 := fun z => hn2.1 (z ▸ hc2)
    obtain ⟨d', f1, g1⟩ := leads_some (hl c List.mem_cons_self)
    obtain ⟨d2', f2, g2⟩ := leads_some (hl c2 (List.mem_cons_of_mem _ hc2))
    rw [e1] at f1
    rw [e2] at f2
    obtain rfl := Option.some.inj f1
    obtain rfl := Option.some.inj f2
    have ha2 : a = c ∨ a = d := by
      have := (trn_mem.mp ha).2
      rcases x with rfl | rfl
      · exact this
      · exact this.symm
    have hb2 : a = c2 ∨ a = d2 := by
      have := (trn_mem.mp hbq).2
      rcases y with rfl | rfl
      · exact this
      · exact this.symm
    have s1 := hη.sym _ _ e1
    have s2 := hη.sym _ _ e2
    obtain ⟨i1, i2⟩ := hη.ins _ _ e1
    obtain ⟨j1, j2⟩ := hη.ins _ _ e2
    rcases ha2 with rfl | rfl
    · rcases hb2 with rfl | rfl
      · exact ne rfl
      · rw [e1] at s2
        obtain rfl := Option.some.inj s2
        exact ne (idx_inj i1 j1 (by omega))
    · rcases hb2 with rfl | rfl
      · rw [s1] at e2
        obtain rfl := Option.some.inj e2
        exact ne (idx_inj i1 j1 (by omega))
      · rw [s1] at s2
        exact ne (Option.some.inj s2)
theorem turns_ok {S : List Nat} {η : Nat → Option Nat} (hS : SOk S) (hη : EtaOk S η) {L L' : Turns} (h : Paired (pairOf η) L (S.filter (leads S η))) (hp : L'.Perm L) : TurnsOk S L' ∧ etaL L' = η := by
  have pm := paired_mem h
  have ins : ∀ p ∈ L', η p.1 = some p.2 ∧ η p.2 = some p.1 := fun p hpL => by
    obtain ⟨c, hc, d, e, x⟩ := pm.1 p (hp.mem_iff.mp hpL)
    rcases x with rfl | rfl
    · exact ⟨e, hη.sym _ _ e⟩
    · exact ⟨hη.sym _ _ e, e⟩
  refine ⟨⟨fun p hpL => hη.ins _ _ (ins p hpL).1, ?_, ?_⟩, funext fun c => ?_⟩
  · rw [hp.length_eq, paired_len h]
    have := List.length_filter_le (leads S η) S
    have := hS.most
    omega
  · have := turns_nd hS.nd hη h (hS.nd.sublist List.filter_sublist) fun c hc => (List.mem_filter.mp hc).2
    exact (hp.flatMap_right (trn S)).nodup_iff.mpr this
  · obtain ⟨h1, h2⟩ := eta_fold c L' (fun _ => none) ins
    by_cases hM : ∃ p ∈ L', c = p.1 ∨ c = p.2
    · exact h1 hM
    · refine (h2 hM).trans ?_
      cases e : η c with
      | none => rfl
      | some d =>
        exfalso
        obtain ⟨i1, i2⟩ := hη.ins _ _ e
        have s1 := hη.sym _ _ e
        have key : ∀ a b, η a = some b → a ∈ S → S.idxOf a ≤ S.idxOf b → ∃ p ∈ L', a = p.1 ∧ b = p.2 ∨ a = p.2 ∧ b = p.1 := fun a b hab ha le => by
          obtain ⟨p, hp2, d', e', x⟩ := pm.2 a (List.mem_filter.mpr ⟨ha, by unfold leads; rw [hab]; exact decide_eq_true le⟩)
          rw [hab] at e'
          obtain rfl := Option.some.inj e'
          refine ⟨p, hp.mem_iff.mpr hp2, ?_⟩
          rcases x with rfl | rfl
          · exact .inl ⟨rfl, rfl⟩
          · exact .inr ⟨rfl, rfl⟩
        by_cases le : S.idxOf c ≤ S.idxOf d
        · obtain ⟨p, hp2, x⟩ := key c d e i1 le
          exact hM ⟨p, hp2, x.imp And.left And.left⟩
        · obtain ⟨p, hp2, x⟩ := key d c s1 i2 (by omega)
          exact hM ⟨p, hp2, (x.imp And.right And.right).symm⟩
end P38

set_option Elab.async false
set_option linter.all false
set_option maxRecDepth 100000
set_option maxHeartbeats 4000000
namespace P38
open PySem PySem.Spec PyProof.Rows L2 Evl LamX NdefX
theorem FtAt.keep {H H' : Hp} {pen cl a : Addr} {U : Nat} {S : List Nat} {η : Nat → Option Nat} (f : FtAt H a S η) (hp : PenAt H pen cl U) (nd : ∀ hd, H a = some (.tup [.str (tx S), .ref hd]) → hd ≠ pen) (b : ExB pen H H') : FtAt H' a S η := by
  obtain ⟨hd, kvs, h1, h2, h3⟩ := f.ex
  exact ⟨hd, kvs, b _ _ (hp.ne h1 fun _ => nofun) h1, b _ _ (nd hd h1) h2, h3⟩
theorem FtAt.up {H H' : Hp} {a : Addr} {S : List Nat} {η : Nat → Option Nat} (f : FtAt H a S η) (e : Ex H H') : FtAt H' a S η := by
  obtain ⟨hd, kvs, h1, h2, h3⟩ := f.ex
  exact ⟨hd, kvs, e _ _ h1, e _ _ h2, h3⟩
theorem rows_perm {α : Type} {H : Hp} {row : α → List V} {ts ts' : List Addr} {L : List α} (h : RowsAt H row ts L) (p : ts'.Perm ts) : ∃ L', L'.Perm L ∧ RowsAt H row ts' L' := by
  induction p generalizing L with
  | nil => exact ⟨L, .refl _, h⟩
  | cons x p ih =>
    cases h with
    | cons a r =>
      obtain ⟨L', h1, h2⟩ := ih r
      exact ⟨_ :: L', h1.cons _, .cons a h2⟩
  | swap x y l =>
    cases h with
    | cons a r =>
      cases r with
      | cons b r => exact ⟨_, .swap _ _ _, .cons b (.cons a r)⟩
  | trans p1 p2 ih1 ih2 =>
    obtain ⟨L1, a1, b1⟩ := ih2 h
    obtain ⟨L2, a2, b2⟩ := ih1 b1
    exact ⟨L2, a2.trans a1, b2⟩
theorem rows_keep {α : Type} {H H' : Hp} {row : α → List V} {ts : List Addr} {L : List α} {pen cl : Addr} {U : Nat} (p : PenAt H pen cl U) (b : ExB pen H H') (h : RowsAt H row ts L) : RowsAt H' row ts L :=
  paired_mono (fun t a (z : H t = some (.tup (row a))) => b t (.tup (row a)) (p.ne z fun _ => nofun) z) h
theorem ea_lst2 {te1 te2 : TE} {σ : L2.St} {H : Hp} {xs ys : List V} {R : List V → Hp → Prop} (h1 : EvU te1 σ H xs) (h2 : ∀ H1, Ex H H1 → EvU te2 σ H1 ys) (k : ∀ l t1 t2 H2, Ex H H2 → H2 l = some (.lst [V.ref t1, V.ref t2]) → H2 t1 = some (.tup xs) → H2 t2 = some (.tup ys) → R [.ref l] H2) :
    tCons (tLst (tCons te1 (tCons te2 tNil))) tNil σ H R :=
  h1 H (Ex.refl _) _ fun t1 H1 _ e1 g1 => h2 H1 e1 H1 (Ex.refl _) _ fun t2 H2 _ e2 g2 => ⟨by show 2 ≤ sizeLine; decide, fun l hl => k l t1 t2 _ ((e1.trans e2).trans (Ex.new hl)) upd_same ((Ex.new hl) _ _ (e2 _ _ g1)) ((Ex.new hl) _ _ g2)⟩
theorem index0_at {S : List Nat} {c : Nat} (hS : S.Nodup) (hc : c ∈ S) : Txt.index0 (tx S) (sg c) = some (S.idxOf c) := by
  have li := List.idxOf_lt_length_of_mem hc
  have hl : (tx S).cps.toList = S := rfl
  have at_ : ∀ i, (i + (sg c).length ≤ (tx S).length ∧ Builtin.Str.subAt (tx S) (sg c) i = true) ↔ S[i]? = some c := fun i => PySem.StrLaws.subAt_one (tx S) c i
  have hd := PySem.StrLaws.occ_head (tx S) (sg c) 1 (Nat.le_refl 1)
  unfold Txt.index0
  rcases hd with ⟨_, n⟩ | ⟨i, r, e, a, _⟩
  · exact absurd ((at_ (S.idxOf c)).mpr (by rw [List.getElem?_eq_getElem li, List.getElem_idxOf])) (n _)
  · rw [e]
    have := (at_ i).mp a
    rw [← idx_at hS this]
    rfl
section
variable {K : PySem.W.Frag} {σ : L2.St} {H : Hp} {ta tb : TE}
theorem ev_index {S : List Nat} {c : Nat} (hS : S.Nodup) (hc : c ∈ S) (ha : Ev ta σ H (.str (tx S))) (hb : Ev tb σ H (sV c)) : Ev (tM1 rIdx ta tb) σ H (.int ((S.idxOf c : Nat) : Int)) := fun H1 e Q q =>
  ha H1 e _ fun H2 e2 => ⟨⟨_, rfl⟩, hb H2 (e.trans e2) _ fun H3 e3 => ⟨_, _, _, rfl, rfl, index0_at hS hc, q H3 (e2.trans e3)⟩⟩
theorem ev_hIn {d : Addr} {kvs : List (Key × V)} {η : Nat → Option Nat} {c : Nat} (h : HeadsD kvs η) (hd : Rd H d (.dK kvs)) (hy : Ev tb σ H (sV c)) (ht : Ev ta σ H (.ref d)) : Ev (tDIn tb ta) σ H (.bl (η c).isSome) := by
  have := ev_din (k := kS c) hy ht hd
  rw [h.get, Option.isSome_map] at this
  exact this
theorem ev_hGet {d : Addr} {kvs : List (Key × V)} {η : Nat → Option Nat} {c e : Nat} (h : HeadsD kvs η) (hd : Rd H d (.dK kvs)) (hy : Ev tb σ H (sV c)) (ht : Ev ta σ H (.ref d)) (he : η c = some e) : Ev (tDGet ta tb) σ H (sV e) := ev_dget (k := kS c) ht hy hd (by rw [h.get, he]; rfl)
end
def sp_turns (K : PySem.W.Frag) : Sp := fun vs H Q _ => ∃ (pen cl a : Addr) (U : Nat) (S : List Nat) (η : Nat → Option Nat), vs = [.ref pen, .ref a] ∧ PenAt H pen cl U ∧ U + 100 ≤ 10 ^ 12 ∧ SOk S ∧ (∀ c ∈ S, c ∈ LT) ∧ EtaOk S η ∧ FtAt H a S η ∧ (∀ hd, H a = some (.tup [.str (tx S), .ref hd]) → hd ≠ pen) ∧
  ∀ p ts L H', ExB pen H H' → PenAt H' pen cl (U + 100) → H' p = some (.lst (ts.map V.ref)) → RowsAt H' row2 ts L → TurnsOk S L → etaL L = η → Q (.ref p) H'
theorem ok__law_turns {P : Program} {w : World} {K : PySem.W.Frag} {mg : Str → Option Value} {base : Heap} (T : Tx K mg) : FnOk P w K mg base CX0 10 (f__law_turns K) (fdOf K (f__law_turns K)) ["_law_pen_here", "_law_font_here"] (sp_turns K) := by
  refine T.d__law_turns.ok sc__law_turns (fun vs H Q E h => by obtain ⟨pen, cl, a, U, S, η, rfl, hpen, hU, hS, hSm, hη, hft, hnd, k⟩ := h; rfl) (fun cdv A outer s H vs Q E hr h => ?_)
  obtain ⟨pen, cl, a, U, S, η, rfl, hpen, hU, hS, hSm, hη, hft, hnd, k⟩ := h
  refine ⟨_, PSs.nox (pss_cons (ps_asg (pv 1) (pg_tup (n := 2) (by rfl) (pgs_cons (pg_name (i := 2) sc__law_turns.nd rfl (by first | exact Or.inl rfl | exact Or.inr rfl)) (pgs_cons (pg_name (i := 3) sc__law_turns.nd rfl (by first | exact Or.inl rfl | exact Or.inr rfl)) pgs_nil)))) (
pss_cons (ps_set (i := 4) sc__law_turns.nd rfl (by first | exact Or.inl rfl | exact Or.inr rfl) (pe_lst pa_nil)) (
pss_cons (ps_for PassesOwn.never rfl (pi_str (pv 2)) (pg_name (i := 5) sc__law_turns.nd rfl (by first | exact Or.inl rfl | exact Or.inr rfl)) (
pss_one (ps_if (PW.pt (pw_and (pt_cmp (pc_din (by exact hu_of hr) (pv 5) (pv 3))) (pw_and1 (pt_cmpR op_le (pe_m1 PySem.F.slot_str_index PySem.F.type_str_index (mt_idx rfl) (pv 2) (pv 5)) (pe_m1 PySem.F.slot_str_index PySem.F.type_str_index (mt_idx rfl) (pv 2) (pe_dget (by exact hu_of hr) (pv 3) (pv 5) (fun _ _ => rfl))) (nomark _))))) (pss_one (ps_expr (pe_bm PySem.F.plainAttrs_list PySem.F.slot_list_append PySem.F.type_list_append mt_append (pv 4) (pa_cons (pe_call (ok__law_pick T) (by exact hr.mono (by first | decide | omega)) (by rfl) (by exact T.m__law_pick) (by exact T.d__law_pick.kp) (bn__law_pick T) .nil pass0 (pa_cons (pv 0) (pa_cons (pe_lst (pa_cons (pe_tup (pa_cons (pv 5) (pa_cons (pe_dget (by exact hu_of hr) (pv 3) (pv 5) (fun _ _ => rfl)) pa_nil))) (pa_cons (pe_tup (pa_cons (pe_dget (by exact hu_of hr) (pv 3) (pv 5) (fun _ _ => rfl)) (pa_cons (pv 5) pa_nil))) pa_nil))) pa_nil))) pa_nil)))) pss_nil))) (
pss_one (ps_ret (pe_call (ok__law_shuffled T) (by exact hr.mono (by first | decide | omega)) (by rfl) (by exact T.m__law_shuffled) (by exact T.d__law_shuffled.kp) (bn__law_shuffled T) .nil pass0 (pa_cons (pv 0) (pa_cons (pv 4) pa_nil)))))))), ?_⟩
  obtain ⟨hd, kvs, f1, f2, f3⟩ := id hft.ex
  have nhp := hnd hd f1
  have nap : a ≠ pen := hpen.ne f1 fun _ => nofun
  have h6 := hS.most
  refine ⟨_, rfl, a, _, rfl, st_of f1, rfl, _, _, rfl, _, _, rfl, rfl, ?_⟩
  refine q_asgL (el_lst ea_nil (by decide)) fun x H1 hx e1 h1 => ?_
  have nxp : x ≠ pen := fun z => by obtain ⟨ns, u, l2, q1, _⟩ := hpen.ex; rw [z, q1] at hx; cases hx
  have nxc : cl ≠ x := fun z => by obtain ⟨ns, u, l2, _, q2, _⟩ := hpen.ex; rw [z, hx] at q2; cases q2
  have nxh : hd ≠ x := fun z => by rw [z, hx] at f2; cases f2
  let Pv : Nat → L2.St → Hp → Prop := fun i σ' H' => (∃ u, σ' = [some (.ref pen), some (.ref a), some (.str (tx S)), some (.ref hd), some (.ref x), u]) ∧ ExB pen H H' ∧ PenAt H' pen cl (U + 5 * i) ∧ ∃ ts L, H' x = some (.lst (ts.map V.ref)) ∧ RowsAt H' row2 ts L ∧ Paired (pairOf η) L ((S.take i).filter (leads S η))
  have hw := eg_str (σ := (((L2.start ["_law_pen_here", "_law_font_here", "_law_signs", "_law_heads", "_law_turns_here", "_law_one"] [V.ref pen, V.ref a]).set 2 (some (V.str (tx S)))).set 3 (some (V.ref hd))).set 4 (some (V.ref x))) (tl := tVar 2) (w := tx S) (H := H1) (ev_var rfl)
  rw [tx_size] at hw
  refine q_for hw Pv (fun H2 e2 => ⟨⟨none, rfl⟩, fun b o _ hb => e2 _ _ (e1 _ _ hb), (hpen.up (e1.trans e2)).mono (by omega), [], [], e2 _ _ h1, .nil, by rw [List.take_zero]; exact .nil⟩) (fun i σ' H' _ c => trivial) (fun i y σ' H2 H3 hi c yr => ?_) fun σ' H2 c => ?_
  · obtain ⟨⟨u, rfl⟩, b2, p2, ts, L, g1, g2, g3⟩ := c
    obtain ⟨rfl, c, hc, rfl⟩ := yr
    rw [tx_at] at hc
    have cS := List.mem_of_getElem? hc
    have tk : S.take (i + 1) = S.take i ++ [c] := by rw [List.take_add_one, hc]; rfl
    have k2 : H3 hd = some (.dK kvs) := b2 _ _ nhp f2
    refine s_when (b := leads S η c) (et_is (b := leads S η c) (et_and (a := (η c).isSome) (b := leads S η c) (et_B (ev_hIn f3 (.inl k2) (ev_var rfl) (ev_var rfl))) fun hs => ?_) ?_) (fun hb H4 e4 => ?_) fun hb H4 e4 => ?_
    · obtain ⟨d, hd1⟩ := Option.isSome_iff_exists.mp hs
      refine et_test (ev_is (ev_op (ev_index hS.nd cS (ev_var rfl) (ev_var rfl)) (ev_index hS.nd (hη.ins _ _ hd1).2 (ev_var rfl) (ev_hGet f3 (.inl k2) (ev_var rfl) (ev_var rfl) hd1)) rv_I0) ?_)
      unfold leads
      rw [hd1]
      show V.bl (decide (((S.idxOf c : Nat) : Int) ≤ ((S.idxOf d : Nat) : Int))) = V.bl (decide (S.idxOf c ≤ S.idxOf d))
      congr 1
      exact decide_eq_decide.mpr Int.ofNat_le
    · unfold leads
      cases η c <;> simp
    · obtain ⟨d, hd1, _⟩ := leads_some hb
      obtain ⟨_, dS⟩ := hη.ins _ _ hd1
      have k4 : H4 hd = some (.dK kvs) := e4 _ _ k2
      have k4x := e4 _ _ g1
      have gH : ∀ {G : Hp}, Ex H4 G → Ev (tDGet (tVar 3) (tVar 5)) [some (.ref pen), some (.ref a), some (.str (tx S)), some (.ref hd), some (.ref x), some (sV c)] G (sV d) := fun {G} e => ev_hGet f3 (.inl (e _ _ k4)) (ev_var rfl) (ev_var rfl) hd1
      refine ⟨_, rfl, .inl ⟨rfl, _, sq_of k4x⟩, ?_⟩
      refine ⟨_, rfl, ?_⟩
      refine ea_lst2 (xs := [sV c, sV d]) (ys := [sV d, sV c]) (eu_tup (ea_cons (ev_var rfl) (ea_cons (gH (Ex.refl _)) ea_nil)) (by show 2 ≤ 100000; decide)) (fun H5 e5 => eu_tup (ea_cons (gH e5) (ea_cons (ev_var rfl) ea_nil)) (by show 2 ≤ 100000; decide)) fun l t1 t2 G e47 h7 q1 q2 => ?_
      have pG := (p2.up e4).up e47
      refine ⟨pen, cl, l, _, U + 5 * i, rfl, pG, by omega, h7, by simp, by show 2 ≤ 100000; decide, fun v H8 hv b8 p8 => ?_⟩
      have n1 := pG.ne q1 fun _ => nofun
      have n2 := pG.ne q2 fun _ => nofun
      have bb : ExB pen H H8 := fun b o n hb => b8 _ _ n (e47 _ _ (e4 _ _ (b2 _ _ n hb)))
      have gx8 : H8 x = some (.lst (ts.map V.ref)) := b8 _ _ nxp (e47 _ _ k4x)
      obtain ⟨t, p, rfl, ht, hp⟩ : ∃ t p, v = .ref t ∧ H8 t = some (.tup (row2 p)) ∧ pairOf η p c := by
        simp only [List.mem_cons, List.not_mem_nil, or_false] at hv
        rcases hv with rfl | rfl
        · exact ⟨t1, (c, d), rfl, b8 _ _ n1 q1, d, hd1, .inl rfl⟩
        · exact ⟨t2, (d, c), rfl, b8 _ _ n2 q2, d, hd1, .inr rfl⟩
      have rows8 : RowsAt H8 row2 ts L := rows_keep pG b8 ((g2.up e4).up e47)
      have ll : ts.length ≤ 6 := by
        rw [paired_len g2, paired_len g3]
        have l1 := List.length_filter_le (leads S η) (S.take i)
        rw [List.length_take] at l1
        omega
      refine ⟨x, _, .ref t, rfl, rfl, gx8, sz_lt (by rw [List.length_map]; omega), ⟨_, rfl⟩, fun b o n hb => ?_, ?_, ts ++ [t], L ++ [p], by rw [upd_same, List.map_append]; rfl, ?_, ?_⟩
      · rw [upd_ne fun z => by rw [z, hx] at hb; cases hb]
        exact bb _ _ n hb
      · obtain ⟨ns, u, l2, z1, z2, z3⟩ := p8.ex
        exact ⟨ns, u, l2, by rw [upd_ne nxp.symm]; exact z1, by rw [upd_ne nxc]; exact z2, z3⟩
      · refine paired_snoc (F := fun (t' : Addr) (a : Nat × Nat) => upd H8 x (.lst (ts.map V.ref ++ [V.ref t])) t' = some (.tup (row2 a))) ?_ (paired_mono (fun t' a z => ?_) rows8)
        · rw [upd_ne fun z => by rw [z, gx8] at ht; cases ht]; exact ht
        · rw [upd_ne fun z2 => by rw [z2, gx8] at z; cases z]; exact z
      · rw [tk, List.filter_append, List.filter_cons, hb]
        exact paired_snoc hp g3
    · refine ⟨⟨_, rfl⟩, fun b o n hb => e4 _ _ (b2 _ _ n hb), (p2.up e4).mono (by omega), ts, L, e4 _ _ g1, g2.up e4, ?_⟩
      rw [tk, List.filter_append, List.filter_cons, hb]
      simpa using g3
  · obtain ⟨⟨u, rfl⟩, b2, p2, ts, L, g1, g2, g3⟩ := c
    rw [List.take_length] at g3
    refine ea_cons (ta := tVar 0) (x := .ref pen) (ev_var rfl) (ea_cons (ta := tVar 4) (x := .ref x) (ev_var rfl) ea_nil) H2 (Ex.refl _) (fun vs H1 => sp_shuffled K (vs ++ []) H1 Q E0) fun H3 e3 => ?_
    have lts : ts.length ≤ 6 := by
      rw [paired_len g2, paired_len g3]
      have := List.length_filter_le (leads S η) S
      omega
    refine ⟨pen, cl, _, ts.map V.ref, U + 5 * S.length, rfl, p2.up e3, by rw [List.length_map]; omega, .inr ⟨x, rfl, e3 _ _ g1⟩, fun y hy => ?_, by rw [List.length_map]; omega, fun p ys H4 hp0 hperm b4 p4 h4 => ?_⟩
    · obtain ⟨t, ht, rfl⟩ := List.mem_map.mp hy
      obtain ⟨q, hq, hrow⟩ := (paired_mem g2).1 t ht
      obtain ⟨c, hc, d, hd1, x⟩ := (paired_mem g3).1 q hq
      obtain ⟨c1, c2⟩ := hη.ins _ _ hd1
      have o1 := strOk_tx (S := [c]) fun e he => by rw [List.mem_singleton.mp he]; exact (LT_ok c (hSm c c1)).1
      have o2 := strOk_tx (S := [d]) fun e he => by rw [List.mem_singleton.mp he]; exact (LT_ok d (hSm d c2)).1
      rcases x with rfl | rfl
      · exact .inr (.inr ⟨t, _, _, rfl, e3 _ _ hrow, o1, o2⟩)
      · exact .inr (.inr ⟨t, _, _, rfl, e3 _ _ hrow, o2, o1⟩)
    obtain ⟨ts', hts', rfl⟩ := perm_map hperm
    have p3 := p2.up e3
    have rows4 : RowsAt H4 row2 ts L := rows_keep p3 b4 (g2.up e3)
    obtain ⟨L', hL', rows'⟩ := rows_perm rows4 hts'
    obtain ⟨o1, o2⟩ := turns_ok hS hη g3 hL'
    exact k p ts' L' H4 (fun b o n hb => b4 _ _ n (e3 _ _ (b2 _ _ n hb))) (p4.mono (by rw [List.length_map]; omega)) h4 rows' o1 o2
def sp_made_font (K : PySem.W.Frag) : Sp := fun vs H Q _ => ∃ (pen cl a : Addr) (U : Nat) (S : List Nat) (η : Nat → Option Nat), vs = [.ref pen, .ref a] ∧ PenAt H pen cl U ∧ U + 100 ≤ 10 ^ 12 ∧ SOk S ∧ (∀ c ∈ S, c ∈ LT) ∧ EtaOk S η ∧ FtAt H a S η ∧ (∀ hd, H a = some (.tup [.str (tx S), .ref hd]) → hd ≠ pen) ∧
  ∀ p H', ExB pen H H' → PenAt H' pen cl (U + 100) → FontAt K H' p S η → Q (.ref p) H'
theorem ok__law_made_font {P : Program} {w : World} {K : PySem.W.Frag} {mg : Str → Option Value} {base : Heap} (T : Tx K mg) : FnOk P w K mg base CX0 12 (f__law_made_font K) (fdOf K (f__law_made_font K)) ["_law_pen_here", "_law_font_here"] (sp_made_font K) := by
  refine T.d__law_made_font.ok sc__law_made_font (fun vs H Q E h => by obtain ⟨pen, cl, a, U, S, η, rfl, hpen, hU, hS, hSm, hη, hft, hnd, k⟩ := h; rfl) (fun cdv A outer s H vs Q E hr h => ?_)
  obtain ⟨pen, cl, a, U, S, η, rfl, hpen, hU, hS, hSm, hη, hft, hnd, k⟩ := h
  refine ⟨_, PSs.nox (pss_one (ps_ret (pe_make T.k_Font (ok_Font_init T) (by exact hr.mono (by first | decide | omega)) (by rfl) (by exact T.m_Font) (bn_Font_init T) .nil pass0 (pa_cons (pe_ix ix_tup (pv 1) pe_int (fun _ _ => rfl)) (pa_cons (pe_call (ok__law_turns T) (by exact hr.mono (by first | decide | omega)) (by rfl) (by exact T.m__law_turns) (by exact T.d__law_turns.kp) (bn__law_turns T) .nil pass0 (pa_cons (pv 0) (pa_cons (pv 1) pa_nil))) pa_nil))))), ?_⟩
  obtain ⟨hd, kvs, f1, f2, f3⟩ := id hft.ex
  refine ev_ix0 (K := K) (ta := tVar 1) (σ := L2.start ["_law_pen_here", "_law_font_here"] [V.ref pen, V.ref a]) (ev_var rfl) (st_of f1) H (Ex.refl _) _ fun H1 e1 => ?_
  refine ea_cons (ta := tVar 0) (x := .ref pen) (ev_var rfl) (ea_cons (ta := tVar 1) (x := .ref a) (ev_var rfl) ea_nil) H1 (Ex.refl _) (fun vs H1 => sp_turns K (vs ++ []) H1 _ E0) fun H2 e2 => ?_
  have e12 := e1.trans e2
  refine ⟨pen, cl, a, U, S, η, rfl, hpen.up e12, hU, hS, hSm, hη, hft.up e12, fun hd' h => hnd hd' ?_, fun p ts L H3 b3 p3 h3 rows tok eη => ?_⟩
  · have := e12 _ _ f1
    rw [this] at h
    rw [f1, h]
  intro x dx hx hdx hne
  have k1 : Ex H3 (upd (upd H3 dx (.own x)) x (.ins (C_Font K) dx [])) := (Ex.new hdx).trans (Ex.new (by rw [upd_ne hne.symm]; exact hx))
  refine ⟨x, dx, S, p, L, ts, rfl, upd_same, hS, hSm, k1 _ _ h3, rows.up k1, tok, fun H4 b4 f4 => ⟨rfl, ?_⟩⟩
  have k4 : Ex H3 H4 := fun b o hb => b4 _ _ (fun z => by rw [z, hx] at hb; cases hb) (k1 _ _ hb)
  rw [eη] at f4
  exact k x H4 (fun b o n hb => k4 _ _ (b3 _ _ n (e12 _ _ hb))) (p3.up k4) f4
end P38

set_option Elab.async false
set_option linter.all false
set_option maxRecDepth 100000
set_option maxHeartbeats 4000000
namespace P38
open PySem PySem.Spec PyProof.Rows L2 Evl LamX NdefX
section
variable {K : PySem.W.Frag} {σ : L2.St} {H : Hp} {ta tb : TE} {a : Addr} {S : List Nat} {η : Nat → Option Nat}
theorem ev_f0 (f : FtAt H a S η) (h : Ev ta σ H (.ref a)) : Ev (tOp (rIxT K) ta (tC (.int 0))) σ H (.str (tx S)) := by
  obtain ⟨hd, kvs, h1, h2, h3⟩ := f.ex
  exact ev_ix0 h (st_of h1)
theorem ev_f1In {c : Nat} (f : FtAt H a S η) (h : Ev ta σ H (.ref a)) (hy : Ev tb σ H (sV c)) : Ev (tDIn tb (tOp (rIxT K) ta (tC (.int 1)))) σ H (.bl (η c).isSome) := by
  obtain ⟨hd, kvs, h1, h2, h3⟩ := f.ex
  exact ev_hIn h3 (.inl h2) hy (ev_ix1 h (st_of h1))
theorem ev_f1Get {c : Nat} (f : FtAt H a S η) (h : Ev ta σ H (.ref a)) (hy : Ev tb σ H (sV c)) (hs : (η c).isSome = true) : Ev (tDGet (tOp (rIxT K) ta (tC (.int 1))) tb) σ H (getV (η c)) := by
  obtain ⟨hd, kvs, h1, h2, h3⟩ := f.ex
  obtain ⟨e, he⟩ := Option.isSome_iff_exists.mp hs
  rw [he]
  exact ev_hGet h3 (.inl h2) hy (ev_ix1 h (st_of h1)) he
end
theorem q_tupVL {K : PySem.W.Frag} {σ : L2.St} {H : Hp} {ta tb : TE} {D : Ends} {tz : TS} {i j : Nat} {x : V} {ys : List V} (ha : Ev ta σ H x) (hb : EvL tb σ H ys) (k : ∀ q H1, H q = none → Ex H H1 → H1 q = some (.lst ys) → tz D ((σ.set i (some x)).set j (some (.ref q))) H1) :
    tSeq (tAsg (tTup (tCons ta (tCons tb tNil))) (gTup K 2 (gCons (gName i) (gCons (gName j) gNil)))) tz D σ H :=
  ha H (Ex.refl _) _ fun H1 e1 => hb H1 e1 _ fun q H2 hq e2 h2 => ⟨by show 2 ≤ sizeLine; decide, fun p hp => ⟨p, _, rfl, st_of upd_same, rfl, _, _, rfl, _, _, rfl, rfl, k q _ (fresh_back e1 hq) ((e1.trans e2).trans (Ex.new hp)) ((Ex.new hp) _ _ h2)⟩⟩
def sp_shows : Sp := psp fun vs z H => ∃ a S η k, vs = [.ref a, .str (kt k)] ∧ FtAt H a S η ∧ SOk S ∧ z = .str (tx (shows S η k))
theorem ok__law_shows {P : Program} {w : World} {K : PySem.W.Frag} {mg : Str → Option Value} {base : Heap} (T : Tx K mg) : FnOk P w K mg base CX0 1 (f__law_shows K) (fdOf K (f__law_shows K)) ["_law_font_here", "_law_kind"] (sp_shows) := by
  refine T.d__law_shows.ok sc__law_shows (fun vs H Q E h => by obtain ⟨z, ⟨a, S, η, kd, rfl, hf, hS, rfl⟩, k⟩ := h; rfl) (fun cdv A outer s H vs Q E hr h => ?_)
  obtain ⟨z, ⟨a, S, η, kd, rfl, hf, hS, rfl⟩, k⟩ := h
  refine ⟨_, PSs.nox (pss_cons (ps_set (i := 2) sc__law_shows.nd rfl (by first | exact Or.inl rfl | exact Or.inr rfl) (pe_lc (own := [("_law_side", 3)]) rfl sc__law_shows.nd (pi_str (pv 1)) (blkOk_by (own := [("_law_side", 3)]) (N := ["_law_font_here", "_law_kind", "_law_sides", "_law_side", "_law_sign"]) (sc := (defScope s__law_shows)) (by decide +kernel)) (fun _ _ _ _ _ => pg_name (i := 3) sc__law_shows.nd rfl (by first | exact Or.inl rfl | exact Or.inr rfl)) (fun _ _ _ _ _ => pts_one (pt_cmpR op_ne (pv 3) pe_str (nomark _))) (fun _ _ _ _ _ => pv 3))) (
pss_cons (ps_set (i := 2) sc__law_shows.nd rfl (by first | exact Or.inl rfl | exact Or.inr rfl) (pe_op op_cat (pv 2) (pe_lc (own := [("_law_side", 3)]) rfl sc__law_shows.nd (pi_list (pv 2)) (blkOk_by (own := [("_law_side", 3)]) (N := ["_law_font_here", "_law_kind", "_law_sides", "_law_side", "_law_sign"]) (sc := (defScope s__law_shows)) (by decide +kernel)) (fun _ _ _ _ _ => pg_name (i := 3) sc__law_shows.nd rfl (by first | exact Or.inl rfl | exact Or.inr rfl)) (fun _ _ _ _ _ => pts_one (pt_cmp (pc_din (by exact hu_of hr) (pv 3) (pe_ix (ix_tupK (K := K) rfl) (pv 0) pe_int (fun _ _ => rfl))))) (fun _ _ _ _ _ => pe_dget (by exact hu_of hr) (pe_ix (ix_tupK (K := K) rfl) (pv 0) pe_int (fun _ _ => rfl)) (pv 3) (fun _ _ => rfl))))) (
pss_one (ps_ret (pe_join pe_str (pe_lc (own := [("_law_sign", 4)]) rfl sc__law_shows.nd (pi_str (pe_ix ix_tup (pv 0) pe_int (fun _ _ => rfl))) (blkOk_by (own := [("_law_sign", 4)]) (N := ["_law_font_here", "_law_kind", "_law_sides", "_law_side", "_law_sign"]) (sc := (defScope s__law_shows)) (by decide +kernel)) (fun _ _ _ _ _ => pg_name (i := 4) sc__law_shows.nd rfl (by first | exact Or.inl rfl | exact Or.inr rfl)) (fun _ _ _ _ _ => pts_one (pt_cmpR (op_in_seqK (K := K) rfl) (pv 4) (pv 2) rfl)) (fun _ _ _ _ _ => pv 4))))))), ?_⟩
  have hl := sides_len kd
  refine q_asgL (xs := (sidesL kd).map sV) (el_lcN (f := sV) (L := [kd.1, kd.2]) (fun c => !decide (c = 45)) sV (ew_sg (ev_var rfl)) (show 2 ≤ 40000 by decide) (fun _ => rfl) fun c H1 hc e => ⟨et_test (ev_neS (ev_var rfl) ev_blank), fun _ => ev_var rfl⟩) fun q H1 hq e hL => ?_
  have hf1 := hf.up e
  refine q_asgL (xs := (seenL η kd).map sV) ?_ fun q2 H2 hq2 e2 hL2 => ?_
  · rw [seenL, List.map_append]
    refine el_cat hL (ev_var rfl) ?_ ?_
    · rw [← fm_get]
      refine el_lcN (f := sV) (L := sidesL kd) (fun c => (η c).isSome) _ (ew_map (ew_list (ev_var rfl) (sq_of hL))) (by omega) (fun _ => rfl) fun c H2 hc e2 => ?_
      exact ⟨et_B (ev_f1In (hf1.up e2) (ev_var rfl) (ev_var rfl)), fun hs => ev_f1Get (hf1.up e2) (ev_var rfl) (ev_var rfl) hs⟩
    · have := List.length_filterMap_le η (sidesL kd)
      rw [List.length_map, List.length_map]
      omega
  · have hll := Nat.le_trans (List.length_filter_le (fun c => decide (c ∈ seenL η kd)) S) hS.most
    have hm := hS.most
    refine s_ret (ev_joinN (el_lcN (f := sV) (L := S) (fun c => decide (c ∈ seenL η kd)) sV (ew_sg (ev_f0 (hf1.up e2) (ev_var rfl))) (by omega) (fun _ => rfl) fun c H3 hc e3 => ⟨?_, fun _ => ev_var rfl⟩) (by omega)) fun H3 e3 => k H3 ((e.trans e2).trans e3)
    exact et_test (ev_op (ev_var rfl) (ev_var rfl) (rv_inS (ex_l e3 (sq_of hL2))))
theorem v_shows {a : Addr} {S : List Nat} {η : Nat → Option Nat} {k : Nat × Nat} {H : Hp} (f : FtAt H a S η) (hS : SOk S) : SpV sp_shows [.ref a, .str (kt k)] H (.str (tx (shows S η k))) := psp_v fun H1 e => ⟨a, S, η, k, rfl, f.up e, hS, rfl⟩
/-! the kinds of a font -/
def kRow (S : List Nat) (i : Nat) : List (Nat × Nat) := (List.range (S.length + 1 - i)).map fun t => ((S ++ [45]).getD i 0, (S ++ [45]).getD (i + t) 0)
def kindsL (S : List Nat) : List (Nat × Nat) := (List.range S.length).flatMap (kRow S)
def kV_ (k : Nat × Nat) : V := .str (kt k)
theorem kRow_len (S : List Nat) (i : Nat) : (kRow S i).length ≤ S.length + 1 := by
  unfold kRow
  rw [List.length_map, List.length_range]
  omega
theorem kinds_len (S : List Nat) : ∀ n, ((List.range n).flatMap (kRow S)).length ≤ n * (S.length + 1)
  | 0 => by simp
  | n + 1 => by
    have h1 := kinds_len S n
    have h2 := kRow_len S n
    rw [List.range_succ, List.flatMap_append, List.length_append, List.flatMap_cons, List.flatMap_nil, List.append_nil, Nat.succ_mul]
    omega
def sp_kinds : Sp := pspL fun vs zs H => ∃ a S η, vs = [.ref a] ∧ FtAt H a S η ∧ SOk S ∧ zs = (kindsL S).map kV_
theorem ok__law_kinds {P : Program} {w : World} {K : PySem.W.Frag} {mg : Str → Option Value} {base : Heap} (T : Tx K mg) : FnOk P w K mg base CX0 1 (f__law_kinds K) (fdOf K (f__law_kinds K)) ["_law_font_here"] (sp_kinds) := by
  refine T.d__law_kinds.ok sc__law_kinds (fun vs H Q E h => by obtain ⟨zs, ⟨a, S, η, rfl, hf, hS, rfl⟩, k⟩ := h; rfl) (fun cdv A outer s H vs Q E hr h => ?_)
  obtain ⟨zs, ⟨a, S, η, rfl, hf, hS, rfl⟩, k⟩ := h
  refine ⟨_, PSs.nox (pss_cons (ps_asg (pe_tup (pa_cons (pe_op op_add_str (pe_ix ix_tup (pv 0) pe_int (fun _ _ => rfl)) pe_str) (pa_cons (pe_lst pa_nil) pa_nil))) (pg_tup (n := 2) (by rfl) (pgs_cons (pg_name (i := 1) sc__law_kinds.nd rfl (by first | exact Or.inl rfl | exact Or.inr rfl)) (pgs_cons (pg_name (i := 2) sc__law_kinds.nd rfl (by first | exact Or.inl rfl | exact Or.inr rfl)) pgs_nil)))) (
pss_cons (ps_for PassesOwn.never rfl (pi_range1 (by rfl) (by exact T.z_range) (pa_cons (pe_callB call_len_str (by rfl) (by exact T.z_len) bt_len (pa_cons (pe_ix ix_tup (pv 0) pe_int (fun _ _ => rfl)) pa_nil)) pa_nil)) (pg_name (i := 3) sc__law_kinds.nd rfl (by first | exact Or.inl rfl | exact Or.inr rfl)) (
pss_one (ps_set (i := 2) sc__law_kinds.nd rfl (by first | exact Or.inl rfl | exact Or.inr rfl) (pe_op op_cat (pv 2) (pe_lc (own := [("_law_m", 4)]) rfl sc__law_kinds.nd (pi_range2 (by rfl) (by exact T.z_range) (pa_cons (pv 3) (pa_cons (pe_callB call_len_str (by rfl) (by exact T.z_len) bt_len (pa_cons (pv 1) pa_nil)) pa_nil))) (blkOk_by (own := [("_law_m", 4)]) (N := ["_law_font_here", "_law_places", "_law_found", "_law_k", "_law_m"]) (sc := (defScope s__law_kinds)) (by decide +kernel)) (fun _ _ _ _ _ => pg_name (i := 4) sc__law_kinds.nd rfl (by first | exact Or.inl rfl | exact Or.inr rfl)) (fun _ _ _ _ _ => pts_nil) (fun _ _ _ _ _ => pe_op op_add_str (pe_ix ix_str (pv 1) (pv 3) (fun _ _ => rfl)) (pe_ix ix_str (pv 1) (pv 4) (fun _ _ => rfl)))))))) (
pss_one (ps_ret (pv 2))))), ?_⟩
  have h6 := hS.most
  have hpl : ∀ {σ : L2.St} {H1 : Hp}, σ[0]? = some (some (.ref a)) → Ex H H1 → Ev (tOp (fun x y H Q => ∃ i j, x = .str i ∧ y = .str j ∧ i.length + j.length ≤ sizeLine ∧ Q (.str (i ++ j)) H) (tOp (rIxT K) (tVar 0) (tC (.int 0))) (tC (.str "-"))) σ H1 (.str (tx (S ++ [45]))) := fun {σ H1} hσ e => by
    refine ev_is (ev_op (ev_f0 (hf.up e) (ev_var hσ)) ev_blank (z := .str (tx S ++ sg 45)) fun H2 _ Q q => ⟨_, _, rfl, rfl, ?_, q H2 (Ex.refl _)⟩) ?_
    · have := tx_len S
      show (tx S).length + 1 ≤ sizeLine
      rw [this]
      exact sz_of (by omega)
    · rw [show sg 45 = tx [45] from rfl, tx_app]
  refine q_tupVL (hpl rfl (Ex.refl _)) (el_lst ea_nil (by decide)) fun x H1 hx e1 h1 => ?_
  let Pv : Nat → L2.St → Hp → Prop := fun i σ' H' => (∃ y u3, σ' = [some (.ref a), some (.str (tx (S ++ [45]))), some (.ref y), u3, none] ∧ H y = none ∧ H' y = some (.lst (((List.range i).flatMap (kRow S)).map kV_))) ∧ Ex H H'
  refine q_forR1 (n := ((S.length : Nat) : Int)) (ea_cons (ev_is (ev_cb (ea_cons (ev_f0 (hf.up e1) (ev_var rfl)) ea_nil) (rc_lenS (sz6 hS))) (by rw [tx_len])) ea_nil) ⟨by omega, by omega⟩ Pv (fun H2 e2 => ⟨⟨x, none, rfl, hx, e2 _ _ h1⟩, e1.trans e2⟩) (fun i σ' H2 hi c => ?_) fun σ' H2 c => ?_
  · obtain ⟨⟨y, u3, rfl, hy, h2⟩, e2⟩ := c
    have hi : i < S.length := by omega
    have l1 := kinds_len S i
    have l2 := kRow_len S i
    have l3 : i * (S.length + 1) ≤ 6 * 7 := Nat.mul_le_mul (by omega) (by omega)
    have l4 : (tx (S ++ [45])).length = S.length + 1 := by rw [tx_len, List.length_append]; rfl
    have fin : EvL (tOp rCat (tVar 2) _) ([some (.ref a), some (.str (tx (S ++ [45]))), some (.ref y), some (.int ((i : Nat) : Int)), none]) H2 (((List.range i).flatMap (kRow S)).map kV_ ++ (kRow S i).map kV_) := el_cat (tb := tLc (iRng2 (tCons (tVar 3) (tCons (tCB (fun xs H Q => ∃ z, xs = [.str z] ∧ z.length ≤ sizeLine ∧ Q (.int z.length) H) (tCons (tVar 1) tNil)) tNil))) (gName 4) tYes (tOp (fun x y H Q => ∃ i j, x = .str i ∧ y = .str j ∧ i.length + j.length ≤ sizeLine ∧ Q (.str (i ++ j)) H) (tOp rIxS (tVar 1) (tVar 3)) (tOp rIxS (tVar 1) (tVar 4))) [4]) h2 (ev_var rfl) (by
      unfold kRow
      rw [List.map_map]
      have hw := ew_range2 (σ := [some (.ref a), some (.str (tx (S ++ [45]))), some (.ref y), some (.int ((i : Nat) : Int)), none]) (H := H2) (ta := tCons (tVar 3) (tCons (tCB (fun xs H Q => ∃ z, xs = [.str z] ∧ z.length ≤ sizeLine ∧ Q (.int z.length) H) (tCons (tVar 1) tNil)) tNil)) (lo := ((i : Nat) : Int)) (n := (((S.length + 1 : Nat)) : Int)) (ea_cons (ev_var rfl) (ea_cons (ev_is (ev_cb (ea_cons (ev_var rfl) ea_nil) (rc_lenS (w := tx (S ++ [45])) (by rw [l4]; exact sz_of (by omega)))) (by rw [l4])) ea_nil)) ⟨by omega, by omega, by omega, by omega⟩
      have hn : (((S.length + 1 : Nat) : Int) - ((i : Nat) : Int)).toNat = S.length + 1 - i := by omega
      rw [hn] at hw
      have ft : (List.range (S.length + 1 - i)).filter (fun _ => true) = List.range (S.length + 1 - i) := List.filter_eq_self.mpr fun _ _ => rfl
      rw [← ft]
      refine el_lcA (L := List.range (S.length + 1 - i)) (fun _ => true) _ hw (by rw [List.length_range]) (by omega) fun t m z H3 H4 hm e3 yr => ?_
      obtain ⟨rfl, rfl⟩ := yr
      have ht : t < S.length + 1 - i := by
        have := (List.getElem?_eq_some_iff.mp hm).1
        rwa [List.length_range] at this
      obtain rfl : t = m := by
        rw [List.getElem?_range ht] at hm
        exact Option.some.inj hm
      have at_ : ∀ j, j < S.length + 1 → atI (tx (S ++ [45])).cps.toList ((j : Nat) : Int) = some ((S ++ [45]).getD j 0) := fun j hj => by
        have hl : (tx (S ++ [45])).cps.toList = S ++ [45] := rfl
        have hlen : (S ++ [45]).length = S.length + 1 := by simp
        rw [hl]
        unfold atI
        rw [hlen, ixN_nat hj]
        show (S ++ [45])[j]? = _
        rw [List.getElem?_eq_getElem (by rw [hlen]; exact hj), List.getD_eq_getElem?_getD, List.getElem?_eq_getElem (by rw [hlen]; exact hj)]
        rfl
      refine ⟨_, Ex.refl _, fun Q q => q, rfl, et_yes, fun _ => ?_⟩
      have hz : (tx (S ++ [45])).length ≤ 100000 := by rw [l4]; omega
      exact ev_op (ev_op (ev_var rfl) (ev_var rfl) (rv_ixS hz (at_ i (by omega)))) (ev_op (ev_var rfl) (ev_is (ev_var rfl) (show V.int (((i : Nat) : Int) + ((t : Nat) : Int)) = V.int ((i + t : Nat) : Int) by push_cast; rfl)) (rv_ixS hz (at_ (i + t) (by omega)))) fun H1 _ Q q => ⟨_, _, rfl, rfl, by show 2 ≤ sizeLine; decide, q H1 (Ex.refl _)⟩) (by rw [List.length_map, List.length_map]; omega)
    rw [← List.map_append] at fin
    refine s_asgL fin fun p H3 hp e3 h3 => ⟨⟨p, _, rfl, fresh_back e2 hp, ?_⟩, e2.trans e3⟩
    rw [h3, List.range_succ, List.flatMap_append, List.flatMap_cons, List.flatMap_nil, List.append_nil]
  · obtain ⟨⟨y, u3, rfl, hy, h2⟩, e2⟩ := c
    exact s_ret (ev_var rfl) fun H3 e3 => k y H3 hy (e2.trans e3) (e3 _ _ h2)
end P38

set_option Elab.async false
set_option linter.all false
set_option maxRecDepth 100000
set_option maxHeartbeats 4000000
namespace P38
open PySem PySem.Spec PyProof.Rows L2
theorem pl_nodup {S : List Nat} (hS : SOk S) : (S ++ [45]).Nodup := List.nodup_append.mpr ⟨hS.nd, by simp, fun a ha b hb e => hS.nb (by rw [List.mem_singleton] at hb; rw [← hb, ← e]; exact ha)⟩
theorem pl_at {S : List Nat} {j : Nat} (h : j < S.length + 1) : (S ++ [45])[j]? = some ((S ++ [45]).getD j 0) := by
  have hl : (S ++ [45]).length = S.length + 1 := by simp
  rw [List.getElem?_eq_getElem (by rw [hl]; exact h), List.getD_eq_getElem?_getD, List.getElem?_eq_getElem (by rw [hl]; exact h)]
  rfl
theorem pl_inj {S : List Nat} (hS : SOk S) {i j : Nat} (hi : i < S.length + 1) (hj : j < S.length + 1) (e : (S ++ [45]).getD i 0 = (S ++ [45]).getD j 0) : i = j := by
  have a := idx_at (pl_nodup hS) (pl_at hi)
  have b := idx_at (pl_nodup hS) (pl_at hj)
  rw [e, b] at a
  exact a.symm
theorem pl_lo {S : List Nat} {i : Nat} (h : i < S.length) : S[i]? = some ((S ++ [45]).getD i 0) := by
  have := pl_at (S := S) (j := i) (by omega)
  rwa [List.getElem?_append_left h] at this
theorem pl_hi {S : List Nat} : (S ++ [45]).getD S.length 0 = 45 := by simp
theorem kind_mem {S : List Nat} {k : Nat × Nat} : k ∈ kindsL S ↔ ∃ i j, i < S.length ∧ i ≤ j ∧ j < S.length + 1 ∧ k = ((S ++ [45]).getD i 0, (S ++ [45]).getD j 0) := by
  unfold kindsL kRow
  rw [List.mem_flatMap]
  constructor
  · rintro ⟨i, hi, h⟩
    obtain ⟨t, ht, e⟩ := List.mem_map.mp h
    rw [List.mem_range] at hi ht
    exact ⟨i, i + t, hi, by omega, by omega, e.symm⟩
  · rintro ⟨i, j, hi, hij, hj, rfl⟩
    refine ⟨i, List.mem_range.mpr hi, List.mem_map.mpr ⟨j - i, List.mem_range.mpr (by omega), ?_⟩⟩
    rw [show i + (j - i) = j by omega]
theorem kinds_ok {S : List Nat} (hS : SOk S) {k : Nat × Nat} (h : k ∈ kindsL S) : KOk S k := by
  obtain ⟨i, j, hi, hij, hj, rfl⟩ := kind_mem.mp h
  have ei := pl_lo hi
  refine ⟨List.mem_of_getElem? ei, ?_⟩
  by_cases c : j = S.length
  · rw [c]; exact .inl pl_hi
  · have ej := pl_lo (S := S) (i := j) (by omega)
    refine .inr ⟨List.mem_of_getElem? ej, ?_⟩
    show S.idxOf ((S ++ [45]).getD i 0) ≤ S.idxOf ((S ++ [45]).getD j 0)
    rw [idx_at hS.nd ei, idx_at hS.nd ej]
    exact hij
theorem kinds_nd {S : List Nat} (hS : SOk S) : (kindsL S).Nodup := by
  have : ∀ n, n ≤ S.length → ((List.range n).flatMap (kRow S)).Nodup := by
    intro n
    induction n with
    | zero => intro _; simp
    | succ n ih =>
      intro hn
      rw [List.range_succ, List.flatMap_append, List.flatMap_cons, List.flatMap_nil, List.append_nil]
      refine List.nodup_append.mpr ⟨ih (by omega), ?_, fun a ha b hb e => ?_⟩
      · unfold kRow
        refine List.Pairwise.map _ (R := fun a b => a ≠ b ∧ a < S.length + 1 - n ∧ b < S.length + 1 - n) (fun a b h z => h.1 ?_) ?_
        · have z2 := (Prod.mk.inj z).2
          have := pl_inj hS (by omega) (by omega) z2
          omega
        · refine List.Pairwise.imp_of_mem (fun {a b} ha hb h => ⟨h, List.mem_range.mp ha, List.mem_range.mp hb⟩) (List.nodup_range (n := S.length + 1 - n))
      · obtain ⟨i, hi, h1⟩ := List.mem_flatMap.mp ha
        unfold kRow at h1 hb
        obtain ⟨t, ht, e1⟩ := List.mem_map.mp h1
        obtain ⟨u, hu, e2⟩ := List.mem_map.mp hb
        rw [List.mem_range] at hi
        have e3 := (Prod.mk.inj (e1.trans (e.trans e2.symm))).1
        have := pl_inj hS (by omega) (by omega) e3
        omega
  exact this S.length (Nat.le_refl _)
theorem kinds_len2 {S : List Nat} (hS : SOk S) : (kindsL S).length ≤ 42 := by
  have h1 := kinds_len S S.length
  have h2 := hS.most
  have : S.length * (S.length + 1) ≤ 6 * 7 := Nat.mul_le_mul h2 (by omega)
  unfold kindsL
  omega
end P38

set_option Elab.async false
set_option linter.all false
set_option maxRecDepth 100000
set_option maxHeartbeats 4000000
namespace P38
open PySem PySem.Spec PyProof.Rows L2 Evl LamX NdefX
theorem merge_tab {α : Type} {key : α → Key} {val : α → V} : ∀ (l m : List α), ((m ++ l).map key).Nodup → mergeK (tab key val m) (tab key val l) = tab key val (m ++ l)
  | [], m, _ => by rw [List.append_nil]; rfl
  | a :: l, m, h => by
    show mergeK (putK (tab key val m) (key a) (val a)) (tab key val l) = _
    have h2 : ((m ++ [a]) ++ l).map key = (m ++ a :: l).map key := by rw [List.append_assoc]; rfl
    have h3 : ((m ++ [a]).map key).Nodup := by
      have := h2 ▸ h
      rw [List.map_append] at this
      exact (List.nodup_append.mp this).1
    rw [List.map_append] at h3
    rw [tab_snoc fun b hb e => nodup_snoc h3 (key b) (List.mem_map_of_mem hb) e, merge_tab l (m ++ [a]) (by rw [h2]; exact h), List.append_assoc]
    rfl
abbrev rDictP (K : PySem.W.Frag) : List V → Hp → VK → Prop := fun xs H Q => ∃ (a : Addr) (ps : List Addr) (kvs : List (Key × V)), xs = [.ref a] ∧ SqL K H a (ps.map V.ref) ∧ Paired (fun p kv => SqT K H p [kV kv.1, kv.2]) ps kvs ∧ ∀ p, H p = none → Q (.ref p) (upd H p (.dK (mergeK [] kvs)))
theorem rows_pairs {K : PySem.W.Frag} {α : Type} {H : Hp} {key : α → Key} {val : α → V} {row : α → List V} (hr : ∀ a, row a = [kV (key a), val a]) {ts : List Addr} {l : List α} (h : RowsAt H row ts l) : Paired (fun p kv => SqT K H p [kV kv.1, kv.2]) ts (tab key val l) := by
  induction h with
  | nil => exact .nil
  | cons x r ih =>
    rename_i t a _ _
    refine .cons ?_ ih
    have x : H t = some (.tup (row a)) := x
    rw [hr a] at x
    exact st_of x
theorem merge0 {l : Stock} (nd : (l.map fun q : (Nat × Nat) × Nat => kK q.1).Nodup) : mergeK [] (stT l) = stT l := by
  have := merge_tab (key := fun q : (Nat × Nat) × Nat => kK q.1) (val := fun q => .int ((q.2 : Nat) : Int)) l [] (by simpa using nd)
  rw [List.nil_append] at this
  exact this
theorem rc_dict {K : PySem.W.Frag} {α : Type} {H : Hp} {key : α → Key} {val : α → V} {row : α → List V} {l : List α} {v : V} {Q : VK} (hr : ∀ a, row a = [kV (key a), val a]) (h : RowsL row l v H) (nd : (l.map key).Nodup) (q : ∀ p, H p = none → Q (.ref p) (upd H p (.dK (tab key val l)))) : rDictP K [v] H Q := by
  obtain ⟨p, ts, rfl, h1, h2⟩ := h
  refine ⟨p, ts, tab key val l, rfl, sq_of h1, ?_, fun p' hp => ?_⟩
  · have : ∀ {ts : List Addr} {l : List α}, RowsAt H row ts l → Paired (fun p kv => SqT K H p [kV kv.1, kv.2]) ts (tab key val l) := by
      intro ts l h
      induction h with
      | nil => exact .nil
      | cons x r ih =>
        rename_i t a _ _
        refine .cons ?_ ih
        have x : H t = some (.tup (row a)) := x
        rw [hr a] at x
        exact st_of x
    exact this h2
  · have := merge_tab (key := key) (val := val) l [] (by simpa using nd)
    rw [show tab key val ([] : List α) = [] from rfl, List.nil_append] at this
    rw [this]
    exact q p' hp
theorem ed_dict {K : PySem.W.Frag} {α : Type} {σ : L2.St} {H : Hp} {te : TE} {key : α → Key} {val : α → V} {row : α → List V} {l : List α} (hr : ∀ a, row a = [kV (key a), val a]) (h : EvP te σ H (RowsL row l)) (nd : (l.map key).Nodup) : EvD (tCB (rDictP K) (tCons te tNil)) σ H (tab key val l) := fun H1 e Q q =>
  h H1 e _ fun v H2 e2 r => rc_dict hr r nd fun p hp => q p _ (fresh_back e2 hp) (e2.trans (Ex.new hp)) upd_same
theorem stT_eq (l : Stock) : stT l = tab (fun q : (Nat × Nat) × Nat => kK q.1) (fun q => .int ((q.2 : Nat) : Int)) l := rfl
theorem kK_nodup {l : Stock} (h : (l.map Prod.fst).Nodup) : (l.map fun q : (Nat × Nat) × Nat => kK q.1).Nodup := by
  have h2 : l.map (fun q : (Nat × Nat) × Nat => kK q.1) = (l.map Prod.fst).map kK := by rw [List.map_map]; rfl
  rw [h2]
  exact List.Pairwise.map _ (fun a b n e => n (kK_inj e)) h
structure LawSt (S : List Nat) (l : Stock) : Prop where
  ok : StOk S l
  pos : ∀ q ∈ l, 0 < q.2
  big : ∀ q ∈ l, ((q.2 : Nat) : Int) ≤ 10 ^ 30
  len : l.length ≤ 8
theorem PenAt.put {H : Hp} {pen cl D : Addr} {U : Nat} {o : HO} (h : PenAt H pen cl U) (n1 : D ≠ pen) (n2 : D ≠ cl) : PenAt (upd H D o) pen cl U := by
  obtain ⟨ns, u, l2, z1, z2, z3⟩ := h.ex
  exact ⟨ns, u, l2, by rw [upd_ne n1.symm]; exact z1, by rw [upd_ne n2.symm]; exact z2, z3⟩
theorem PenAt.fresh {H : Hp} {pen cl D : Addr} {U : Nat} (h : PenAt H pen cl U) (hD : H D = none) : D ≠ pen ∧ D ≠ cl := by
  obtain ⟨ns, u, l2, z1, z2, z3⟩ := h.ex
  exact ⟨(fun z => by rw [z, z1] at hD; cases hD), (fun z => by rw [z, z2] at hD; cases hD)⟩
theorem gn_eq {i : Nat} {x : V} {σ σ' : L2.St} {H : Hp} {Q : L2.St → Hp → Prop} (e : σ.set i (some x) = σ') (k : Q σ' H) : gName i x σ H Q := by
  subst e
  exact k
theorem q_raw {D : Ends} {tz : TS} {te : TE} {σ : L2.St} {H : Hp} {i : Nat} (h : te σ H fun v H1 => tz D (σ.set i (some v)) H1) : tSeq (tAsg te (gName i)) tz D σ H := h
theorem q_cbP {D : Ends} {tz : TS} {te : TE} {σ : L2.St} {H : Hp} {i : Nat} {r : List V → Hp → VK → Prop} (h : te σ H fun v H1 => r [v] H1 fun x H2 => tz D (σ.set i (some x)) H2) : tSeq (tAsg (tCB r (tCons te tNil)) (gName i)) tz D σ H := h
theorem ea_lstN {te : TE} {σ : L2.St} {H : Hp} {xs : List V} {R : List V → Hp → Prop} (h : EvL te σ H xs) (k : ∀ l H1, H l = none → Ex H H1 → H1 l = some (.lst xs) → R [.ref l] H1) : tCons te tNil σ H R := h H (Ex.refl _) _ fun l H1 hl e h1 => k l H1 hl e h1
/-- a comprehension whose turns draw and give a new tuple each -/
theorem lc_draw {α β : Type} {xs : List α} {f : α → V} {fst : β → α} {row : β → List V} {good : β → Prop} {wi : TI} {te : TE} {vs : List Nat} {j c U : Nat} {σ : L2.St} {G0 : Hp} {Gd : Hp → Prop} {pen cl : Addr} {Q : VK} (hw : EvG wi σ G0 xs.length Gd (YAt (xs.map f))) (hk : ∀ H', ExB pen G0 H' → Gd H')
    (hpen : PenAt G0 pen cl U) (hU : U + c * xs.length ≤ 10 ^ 12) (hl : xs.length ≤ 40000) (hwp : ∀ x, wipe ((wipe σ vs).set j (some x)) vs = wipe σ vs)
    (step : ∀ a H1 U1, a ∈ xs → ExB pen G0 H1 → PenAt H1 pen cl U1 → U1 + c ≤ 10 ^ 12 → ∀ R : VK, (∀ t b H2, good b → fst b = a → ExB pen H1 H2 → PenAt H2 pen cl (U1 + c) → H2 t = some (.tup (row b)) → R (.ref t) H2) → te ((wipe σ vs).set j (some (f a))) H1 R)
    (q : ∀ v l H', RowsL row l v H' → l.map fst = xs → (∀ b ∈ l, good b) → ExB pen G0 H' → PenAt H' pen cl (U + c * xs.length) → Q v H') : tLc wi (gName j) tYes te vs σ G0 Q :=
  hw G0 (Ex.refl _) _ fun J H1 e1 wk D hD => by
    have hD0 : G0 D = none := fresh_back e1 hD
    obtain ⟨nDp, nDc⟩ := hpen.fresh hD0
    refine lc_it wk (fun i H' => ExB pen G0 H' ∧ PenAt H' pen cl (U + c * i) ∧ ∃ ts l, H' D = some (.lst (ts.map V.ref)) ∧ RowsAt H' row ts l ∧ l.map fst = xs.take i ∧ ∀ b ∈ l, good b)
      ⟨fun b o _ hb => by rw [upd_ne fun z => by rw [z, hD0] at hb; cases hb]; exact e1 _ _ hb, ((hpen.up e1).put nDp nDc).mono (by omega), [], [], upd_same, .nil, by rw [List.take_zero]; rfl, fun b hb => nomatch hb⟩ (fun i H' _ c => hk H' c.1) (fun i x H3 H4 hi cc y => ?_) fun H' cc => ?_
    · obtain ⟨c1, c2, ts, l, c3, c4, c5, c6⟩ := cc
      obtain ⟨rfl, hx⟩ := y
      obtain ⟨a, ha⟩ : ∃ a, xs[i]? = some a := ⟨_, List.getElem?_eq_getElem hi⟩
      rw [List.getElem?_map, ha] at hx
      obtain rfl : f a = x := Option.some.inj hx
      have lU : U + c * i + c ≤ 10 ^ 12 := by
        have : c * (i + 1) ≤ c * xs.length := Nat.mul_le_mul_left c hi
        rw [Nat.mul_succ] at this
        omega
      refine ⟨hwp _, ?_⟩
      refine step a H4 (U + c * i) (List.mem_of_getElem? ha) c1 c2 lU _ fun t b H5 hb1 hb2 b5 p5 h5 => ?_
      have d5 : H5 D = some (.lst (ts.map V.ref)) := b5 _ _ nDp c3
      have ntD : t ≠ D := fun z => by rw [z, d5] at h5; cases h5
      refine ⟨_, d5, sz_lt ?_, fun b' o n hb => ?_, ?_, ts ++ [t], l ++ [b], ?_, ?_, ?_, ?_⟩
      · rw [List.length_map, paired_len c4]
        have := congrArg List.length c5
        rw [List.length_map, List.length_take] at this
        omega
      · rw [upd_ne fun z => by rw [z, hD0] at hb; cases hb]
        exact b5 _ _ n (c1 _ _ n hb)
      · have := p5.put (o := .lst (ts.map V.ref ++ [V.ref t])) nDp nDc
        exact this.mono (by rw [Nat.mul_succ]; omega)
      · rw [upd_same, List.map_append]; rfl
      · refine paired_snoc (F := fun (t' : Addr) (a : β) => upd H5 D (.lst (ts.map V.ref ++ [V.ref t])) t' = some (.tup (row a))) (by rw [upd_ne ntD]; exact h5) (paired_mono (fun t' a z => ?_) (rows_keep c2 b5 c4))
        have z : H5 t' = some (.tup (row a)) := z
        rw [upd_ne fun z2 => by rw [z2, d5] at z; cases z]
        exact z
      · rw [List.map_append, c5, List.take_add_one, ha, ← hb2]; rfl
      · intro b' hb'
        rcases List.mem_append.mp hb' with h | h
        · exact c6 b' h
        · rw [List.mem_singleton.mp h]; exact hb1
    · obtain ⟨c1, c2, ts, l, c3, c4, c5, c6⟩ := cc
      rw [List.take_length] at c5
      exact q _ l H' ⟨D, ts, rfl, c3, c4⟩ c5 c6 c1 c2
def sp_stock (K : PySem.W.Frag) : Sp := fun vs H Q _ => ∃ (pen cl a : Addr) (U : Nat) (S : List Nat) (η : Nat → Option Nat), vs = [.ref pen, .ref a, .int 8, .int (10 ^ 30)] ∧ PenAt H pen cl U ∧ U + 400 ≤ 10 ^ 12 ∧ SOk S ∧ (∀ c ∈ S, c ∈ LT) ∧ FtAt H a S η ∧ (∀ hd, H a = some (.tup [.str (tx S), .ref hd]) → hd ≠ pen) ∧
  ∀ d l H', H d = none → LawSt S l → ExB pen H H' → PenAt H' pen cl (U + 400) → d ≠ pen → H' d = some (.dK (stT l)) → Q (.ref d) H'
theorem item_kt {H : Hp} {S : List Nat} {k : Nat × Nat} (hSm : ∀ c ∈ S, c ∈ LT) (h : KOk S k) : ItemAt H (kV_ k) := .inr (.inl ⟨_, rfl, strOk_tx (S := [k.1, k.2]) fun d hd => by
  simp only [List.mem_cons, List.not_mem_nil, or_false] at hd
  rcases hd with rfl | rfl
  · exact (LT_ok _ (hSm _ h.fst)).1
  · rcases h.snd with e | ⟨e, _⟩
    · rw [e]; decide
    · exact (LT_ok _ (hSm _ e)).1⟩)
theorem ok__law_stock {P : Program} {w : World} {K : PySem.W.Frag} {mg : Str → Option Value} {base : Heap} (T : Tx K mg) : FnOk P w K mg base CX0 10 (f__law_stock K) (fdOf K (f__law_stock K)) ["_law_pen_here", "_law_font_here", "_law_most", "_law_great"] (sp_stock K) := by
  refine T.d__law_stock.ok sc__law_stock (fun vs H Q E h => by obtain ⟨pen, cl, a, U, S, η, rfl, hpen, hU, hS, hSm, hft, hnd, k⟩ := h; rfl) (fun cdv A outer s H vs Q E hr h => ?_)
  obtain ⟨pen, cl, a, U, S, η, rfl, hpen, hU, hS, hSm, hft, hnd, k⟩ := h
  refine ⟨_, PSs.nox (pss_cons (ps_set (i := 4) sc__law_stock.nd rfl (by first | exact Or.inl rfl | exact Or.inr rfl) (pe_slice sl_list (pe_call (ok__law_shuffled T) (by exact hr.mono (by first | decide | omega)) (by rfl) (by exact T.m__law_shuffled) (by exact T.d__law_shuffled.kp) (bn__law_shuffled T) .nil pass0 (pa_cons (pv 0) (pa_cons (pe_call (ok__law_kinds T) (by exact hr.mono (by first | decide | omega)) (by rfl) (by exact T.m__law_kinds) (by exact T.d__law_kinds.kp) (bn__law_kinds T) .nil pass0 (pa_cons (pv 1) pa_nil)) pa_nil))) po_none (po_some (pe_call (ok__law_draw T) (by exact hr.mono (by first | decide | omega)) (by rfl) (by exact T.m__law_draw) (by exact T.d__law_draw.kp) (bn__law_draw T) .nil pass0 (pa_cons (pv 0) (pa_cons (pe_op op_add (pv 2) pe_int) pa_nil)))))) (
pss_cons (ps_set (i := 5) sc__law_stock.nd rfl (by first | exact Or.inl rfl | exact Or.inr rfl) (pe_callTy (call_dictP rfl) (by rfl) (by exact T.z_dict) bt_dict (pa_cons (pe_lc (own := [("_law_kind", 6)]) rfl sc__law_stock.nd (pi_list (pv 4)) (blkOk_by (own := [("_law_kind", 6)]) (N := ["_law_pen_here", "_law_font_here", "_law_most", "_law_great", "_law_some", "_law_counts", "_law_kind"]) (sc := (defScope s__law_stock)) (by decide +kernel)) (fun _ _ _ _ _ => pg_name (i := 6) sc__law_stock.nd rfl (by first | exact Or.inl rfl | exact Or.inr rfl)) (fun _ _ _ _ _ => pts_nil) (fun _ _ _ _ _ => pe_tup (pa_cons (pv 6) (pa_cons (pe_op op_add pe_int (pe_call (ok__law_draw T) (by exact hr.mono (by first | decide | omega)) (by rfl) (by exact T.m__law_draw) (by exact T.d__law_draw.kp) (bn__law_draw T) .nil pass0 (pa_cons (pv 0) (pa_cons (pe_call (ok__law_pick T) (by exact hr.mono (by first | decide | omega)) (by rfl) (by exact T.m__law_pick) (by exact T.d__law_pick.kp) (bn__law_pick T) .nil pass0 (pa_cons (pv 0) (pa_cons (pe_lst (pa_cons pe_int (pa_cons pe_int (pa_cons pe_int (pa_cons pe_int (pa_cons (pv 3) pa_nil)))))) pa_nil))) pa_nil)))) pa_nil)))) pa_nil))) (
pss_one (ps_ret (pe_callTy (call_dictP rfl) (by rfl) (by exact T.z_dict) bt_dict (pa_cons (pe_lc (own := [("_law_kind", 6)]) rfl sc__law_stock.nd (pi_list (pe_call (ok__law_kinds T) (by exact hr.mono (by first | decide | omega)) (by rfl) (by exact T.m__law_kinds) (by exact T.d__law_kinds.kp) (bn__law_kinds T) .nil pass0 (pa_cons (pv 1) pa_nil))) (blkOk_by (own := [("_law_kind", 6)]) (N := ["_law_pen_here", "_law_font_here", "_law_most", "_law_great", "_law_some", "_law_counts", "_law_kind"]) (sc := (defScope s__law_stock)) (by decide +kernel)) (fun _ _ _ _ _ => pg_name (i := 6) sc__law_stock.nd rfl (by first | exact Or.inl rfl | exact Or.inr rfl)) (fun _ _ _ _ _ => pts_one (pt_cmp (pc_din (by exact hu_of hr) (pv 6) (pv 5)))) (fun _ _ _ _ _ => pe_tup (pa_cons (pv 6) (pa_cons (pe_dget (by exact hu_of hr) (pv 5) (pv 6) (fun _ _ => rfl)) pa_nil)))) pa_nil)))))), ?_⟩
  have hk42 := kinds_len2 hS
  refine q_raw ?_
  refine ⟨_, rfl, ?_⟩
  refine el_call (sp := sp_kinds) (dvs := []) (ta := tCons (tVar 1) tNil) (xs := (kindsL S).map kV_) (ea_cons (ev_var rfl) ea_nil) (pspL_v fun H1 e => ⟨a, S, η, rfl, hft.up e, hS, rfl⟩) H (Ex.refl _) _ fun p0 H1 hp0 e1 h1 => ?_
  refine ⟨pen, cl, _, (kindsL S).map kV_, U, rfl, hpen.up e1, by rw [List.length_map]; omega, .inr ⟨p0, rfl, h1⟩, fun y hy => ?_, by rw [List.length_map]; omega, fun p ys H2 hp hperm b2 p2 h2 => ?_⟩
  · obtain ⟨kd, hkd, rfl⟩ := List.mem_map.mp hy
    exact item_kt hSm (kinds_ok hS hkd)
  rw [List.length_map] at p2
  obtain ⟨ks, hks, rfl⟩ := perm_map hperm
  have b02 : ExB pen H H2 := fun b o n hb => b2 _ _ n (e1 _ _ hb)
  have hp00 : H p = none := fresh_back e1 hp
  have npp : p ≠ pen := fun z => by obtain ⟨ns, u, l2, q1, _⟩ := hpen.ex; rw [z, q1] at hp00; cases hp00
  have p2' := p2.mono (show U + 5 * (kindsL S).length ≤ U + 210 by omega)
  refine ea_cons (ta := tVar 0) (x := .ref pen) (ev_var rfl) (ea_cons (x := .int (8 + 1)) (ta := tOp (rI0 fun i j => .int (i + j)) (tVar 2) (tC (.int 1))) (ev_op (ev_var rfl) ev_c rv_I0) ea_nil) H2 (Ex.refl _) (fun vs H1 => sp_draw DB 5 (vs ++ []) H1 _ E0) fun H3 e3 => ?_
  refine ⟨pen, cl, _, U + 210, rfl, p2'.up e3, by omega, by decide, by decide, fun r H4 r0 r1 b4 p4 => ?_⟩
  refine ⟨r, rfl, p, ks.map kV_, rfl, sq_of (b4 _ _ npp (e3 _ _ h2)), fun q hq => ?_⟩
  have hcut : cutV (ks.map kV_) none (some r) = (ks.take r.toNat).map kV_ := by
    have er : r = ((r.toNat : Nat) : Int) := by omega
    unfold cutV
    rw [er, HT.sIx_nat]
    show ((ks.map kV_).drop 0).take (min _ _ - 0) = _
    rw [List.drop_zero, Nat.sub_zero, List.length_map, Int.toNat_natCast, List.map_take]
    by_cases c : r.toNat ≤ ks.length
    · rw [Nat.min_eq_left c]
    · rw [Nat.min_eq_right (by omega), List.take_of_length_le (by rw [List.length_map]; omega), List.take_of_length_le (by rw [List.length_map]; omega)]
  rw [hcut]
  have hl8 : (ks.take r.toNat).length ≤ 8 := by rw [List.length_take]; omega
  have hok : ∀ kd ∈ ks.take r.toNat, KOk S kd := fun kd hkd => kinds_ok hS (hks.mem_iff.mp (List.mem_of_mem_take hkd))
  have hkn : (ks.take r.toNat).Nodup := List.Nodup.sublist (List.take_sublist _ _) (hks.nodup_iff.mpr (kinds_nd hS))
  have hkm : ∀ kd ∈ ks.take r.toNat, kd ∈ kindsL S := fun kd hkd => hks.mem_iff.mp (List.mem_of_mem_take hkd)
  generalize ks.take r.toNat = ms at hl8 hok hkn hkm
  have e5 : Ex H4 (upd H4 q (.lst (ms.map kV_))) := Ex.new hq
  have h5q : (upd H4 q (.lst (ms.map kV_))) q = some (.lst (ms.map kV_)) := upd_same
  have b05 : ExB pen H (upd H4 q (.lst (ms.map kV_))) := fun b o n hb => e5 _ _ (b4 _ _ n (e3 _ _ (b02 _ _ n hb)))
  have p5 := p4.up e5
  generalize upd H4 q (.lst (ms.map kV_)) = G at h5q b05 p5
  clear e5 hcut b4 p4 hq
  have nqp : q ≠ pen := p5.ne h5q fun _ => nofun
  have hw := eg_list (K := K) (tl := tVar 4) (σ := [some (.ref pen), some (.ref a), some (.int 8), some (.int (10 ^ 30)), some (.ref q), none, none]) (H := G) (a := q) (xs := ms.map kV_) (ev_var rfl) (sq_of h5q)
  rw [List.length_map] at hw
  show tSeq _ _ _ _ _
  refine st_eq (σ' := [some (.ref pen), some (.ref a), some (.int 8), some (.int (10 ^ 30)), some (.ref q), none, none]) rfl ?_
  refine q_cbP ?_
  refine lc_draw (xs := ms) (f := kV_) (fst := Prod.fst) (row := rowS) (good := fun b => 0 < b.2 ∧ ((b.2 : Nat) : Int) ≤ 10 ^ 30) (σ := [some (.ref pen), some (.ref a), some (.int 8), some (.int (10 ^ 30)), some (.ref q), none, none]) (c := 10) (U := U + 215) (G0 := G) (j := 6) (vs := [6]) hw (fun H' b => sq_of (b _ _ nqp h5q)) p5 (by omega) (by omega) (fun _ => rfl) (fun kd H6 U6 hkd b6 p6 hU6 R hR => ?_) fun v l H6 hrows hfst hgood b6 p6 => ?_
  · refine ⟨_, rfl, ?_⟩
    refine ⟨_, rfl, ?_⟩
    refine ⟨_, rfl, ?_⟩
    refine ea_lstN (xs := [.int 1, .int 3, .int 3, .int 6, .int (10 ^ 30)]) (el_lst (ea_cons ev_c (ea_cons ev_c (ea_cons ev_c (ea_cons ev_c (ea_cons (ev_var rfl) ea_nil))))) (by show 5 ≤ 100000; decide)) fun l H7 hl e7 h7 => ?_
    refine ⟨pen, cl, l, _, U6, rfl, p6.up e7, by omega, h7, by simp, by show 5 ≤ 100000; decide, fun v H8 hv b8 p8 => ?_⟩
    obtain ⟨m, rfl, m1, m2⟩ : ∃ m : Int, v = .int m ∧ 1 ≤ m ∧ m ≤ 10 ^ 30 := by
      simp only [List.mem_cons, List.not_mem_nil, or_false] at hv
      rcases hv with rfl | rfl | rfl | rfl | rfl
      · exact ⟨_, rfl, by decide, by decide⟩
      · exact ⟨_, rfl, by decide, by decide⟩
      · exact ⟨_, rfl, by decide, by decide⟩
      · exact ⟨_, rfl, by decide, by decide⟩
      · exact ⟨_, rfl, by decide, by decide⟩
    refine ⟨pen, cl, m, U6 + 5, rfl, p8, by omega, by omega, Int.le_trans m2 (by decide), fun r H9 r0 r1 b9 p9 => ?_⟩
    refine ⟨1, r, rfl, rfl, ?_⟩
    refine ⟨by show 2 ≤ sizeLine; decide, fun t ht => ?_⟩
    have er : 1 + r = (((1 + r).toNat : Nat) : Int) := by omega
    have b69 : ExB pen H6 H9 := fun b o n hb => b9 _ _ n (b8 _ _ n (e7 _ _ hb))
    refine hR t (kd, (1 + r).toNat) _ ⟨by show 0 < (1 + r).toNat; omega, by show (((1 + r).toNat : Nat) : Int) ≤ 10 ^ 30; omega⟩ rfl (b69.ex (Ex.new ht)) ((p9.up (Ex.new ht)).mono (by omega)) ?_
    rw [upd_same]
    show some (HO.tup [kV_ kd, V.int (1 + r)]) = some (HO.tup [kV_ kd, V.int (((1 + r).toNat : Nat) : Int)])
    rw [← er]
  · have hnd6 : (l.map Prod.fst).Nodup := by rw [hfst]; exact hkn
    obtain ⟨pv, tsv, rfl, g1, g2⟩ := hrows
    refine ⟨pv, tsv, stT l, rfl, sq_of g1, rows_pairs (fun a => rfl) g2, fun d hd => ?_⟩
    rw [merge0 (kK_nodup hnd6)]
    have e7 : Ex H6 (upd H6 d (.dK (stT l))) := Ex.new hd
    have h7 : (upd H6 d (.dK (stT l))) d = some (.dK (stT l)) := upd_same
    have b7 : ExB pen H (upd H6 d (.dK (stT l))) := fun b o n hb => e7 _ _ (b6 _ _ n (b05 _ _ n hb))
    have p7 := (p6.up e7).mono (show U + 215 + 10 * ms.length ≤ U + 400 by omega)
    have hf7 : FtAt (upd H6 d (.dK (stT l))) a S η := hft.keep hpen hnd b7
    generalize upd H6 d (.dK (stT l)) = A at h7 b7 p7 hf7
    have lms : l.length ≤ 8 := by have := congrArg List.length hfst; rw [List.length_map] at this; omega
    have hkinds : ∀ q ∈ l, q.1 ∈ kindsL S := fun q hq => hkm q.1 (by rw [← hfst]; exact List.mem_map_of_mem hq)
    have big30 : (10 : Int) ^ 30 ≤ ((2 ^ 100 : Nat) : Int) := by decide
    have hl0 : StOk S l := ⟨fun q hq => kinds_ok hS (hkinds q hq), hnd6, by omega, fun q hq => Int.ofNat_le.mp (Int.le_trans (hgood q hq).2 big30)⟩
    let n : Nat × Nat → Nat := fun kd => ((l.find? fun q => decide (q.1 = kd)).map Prod.snd).getD 0
    have hn : ∀ q ∈ l, n q.1 = q.2 := fun q hq => by
      have h1 : l.find? (fun q' => decide (q'.1 = q.1)) = some q := by
        cases hfd : l.find? (fun q' => decide (q'.1 = q.1)) with
        | none => exact absurd (decide_eq_true rfl) (List.find?_eq_none.mp hfd q hq)
        | some q' =>
          have e0 := List.find?_some (p := fun q' : (Nat × Nat) × Nat => decide (q'.1 = q.1)) hfd
          have e := of_decide_eq_true e0
          rw [hl0.one (List.mem_of_find?_eq_some hfd) hq e]
      show ((l.find? fun q' => decide (q'.1 = q.1)).map Prod.snd).getD 0 = q.2
      rw [h1]
      rfl
    let f : Nat × Nat → Bool := fun kd => (valV (stT l) (kK kd)).isSome
    have hf : ∀ kd, f kd = true ↔ ∃ q ∈ l, q.1 = kd := fun kd => by
      constructor
      · intro e
        cases hv : (l.find? fun q => decide (q.1 = kd)) with
        | none =>
          have : valV (stT l) (kK kd) = none := tab_no fun b hb e2 => absurd (decide_eq_true (kK_inj e2)) (List.find?_eq_none.mp hv b hb)
          have e : (valV (stT l) (kK kd)).isSome = true := e
          rw [this] at e
          cases e
        | some q => exact ⟨q, List.mem_of_find?_eq_some hv, of_decide_eq_true (List.find?_some (p := fun q : (Nat × Nat) × Nat => decide (q.1 = kd)) hv)⟩
      · rintro ⟨q, hq, rfl⟩
        show (valV (stT l) (kK q.1)).isSome = true
        rw [hl0.get hq]
        rfl
    have hval : ∀ kd, f kd = true → valV (stT l) (kK kd) = some (.int ((n kd : Nat) : Int)) := fun kd e => by
      obtain ⟨q, hq, rfl⟩ := (hf kd).mp e
      rw [hl0.get hq, hn q hq]
    have hrows2 : EvP (tLc (iList K (tCall sp_kinds [] E0 (tCons (tVar 1) tNil))) (gName 6) (tB (tDIn (tVar 6) (tVar 5))) (tTup (tCons (tVar 6) (tCons (tDGet (tVar 5) (tVar 6)) tNil))) [6]) [some (.ref pen), some (.ref a), some (.int 8), some (.int (10 ^ 30)), some (.ref q), some (.ref d), none] A (RowsL (fun kd => [kV (kK kd), .int ((n kd : Nat) : Int)]) ((kindsL S).filter f)) := by
      refine el_lcT (L := kindsL S) f _ (ew_map (f := kV_) (ew_listN (el_call (ea_cons (ev_var rfl) ea_nil) (pspL_v fun H1 e => ⟨a, S, η, rfl, hf7.up e, hS, rfl⟩)))) rfl (by omega) fun i kd x H8 H9 hkd e8 y => ?_
      obtain ⟨rfl, hx⟩ := y
      rw [hkd] at hx
      obtain rfl : kV_ kd = x := Option.some.inj hx
      exact ⟨_, Ex.refl _, fun Q q => q, rfl, et_B (ev_din (k := kK kd) (ev_var rfl) (ev_var rfl) (.inl (e8 _ _ h7))), fun hb => eu_tup (ea_cons (ev_var rfl) (ea_cons (ev_dget (k := kK kd) (ev_var rfl) (ev_var rfl) (.inl (e8 _ _ h7)) (hval kd hb)) ea_nil)) (by show 2 ≤ 100000; decide)⟩
    have ndf : ((kindsL S).filter f).Nodup := (kinds_nd hS).sublist List.filter_sublist
    have hed := ed_dict (K := K) (key := kK) (val := fun kd => .int ((n kd : Nat) : Int)) (fun _ => rfl) hrows2 (List.Pairwise.map _ (fun a b n e => n (kK_inj e)) ndf)
    refine hed A (Ex.refl _) (fun v H' => Q v H') fun d2 H8 hd2 e8 h8 => ?_
    have hst : stT (((kindsL S).filter f).map fun kd => (kd, n kd)) = tab kK (fun kd => .int ((n kd : Nat) : Int)) ((kindsL S).filter f) := by
      unfold stT tab
      rw [List.map_map]
      rfl
    have hfm : (((kindsL S).filter f).map fun kd => (kd, n kd)).map Prod.fst = (kindsL S).filter f := by
      rw [List.map_map]
      exact List.map_id _
    have hlen : ((kindsL S).filter f).length ≤ 8 := by
      have : ((kindsL S).filter f).Perm (l.map Prod.fst) := (List.perm_ext_iff_of_nodup ndf hnd6).mpr fun kd => by
        rw [List.mem_filter, hf, List.mem_map]
        exact ⟨fun h => h.2, fun ⟨q, hq, e⟩ => ⟨e ▸ hkinds q hq, q, hq, e⟩⟩
      rw [this.length_eq, List.length_map]
      exact lms
    have hgd : ∀ x ∈ ((kindsL S).filter f).map fun kd => (kd, n kd), KOk S x.1 ∧ 0 < x.2 ∧ ((x.2 : Nat) : Int) ≤ 10 ^ 30 := fun x hx => by
      obtain ⟨kd, hkd, rfl⟩ := List.mem_map.mp hx
      obtain ⟨h1, h2⟩ := List.mem_filter.mp hkd
      obtain ⟨q, hq, rfl⟩ := (hf kd).mp h2
      show KOk S q.1 ∧ 0 < n q.1 ∧ ((n q.1 : Nat) : Int) ≤ 10 ^ 30
      rw [hn q hq]
      exact ⟨kinds_ok hS h1, hgood q hq⟩
    refine k d2 _ H8 (by
      cases z : H d2 with
      | none => rfl
      | some o => have := b7 _ _ (fun e => (p7.fresh hd2).1 e) z; rw [hd2] at this; cases this) ⟨⟨fun x hx => (hgd x hx).1, by rw [hfm]; exact ndf, by rw [List.length_map]; omega, fun x hx => Int.ofNat_le.mp (Int.le_trans (hgd x hx).2.2 big30)⟩, fun x hx => (hgd x hx).2.1, fun x hx => (hgd x hx).2.2, by rw [List.length_map]; exact hlen⟩ (b7.ex e8) (p7.up e8) (fun z => (p7.fresh hd2).1 z) (by rw [hst]; exact h8)
end P38

set_option Elab.async false
set_option linter.all false
set_option maxRecDepth 100000
set_option maxHeartbeats 4000000
namespace P38
open PySem PySem.Spec PyProof.Rows L2 Evl LamX NdefX
/-! what is not the pen -/
theorem ne_pen {H : Hp} {pen cl d : Addr} {U : Nat} {kvs : List (Key × V)} (hp : PenAt H pen cl U) (hd : H d = some (.dK kvs)) (h : ∀ p ∈ kvs, ∀ a, p.2 ≠ .ref a) : d ≠ pen := fun z => by
  obtain ⟨ns, u, lf, h1, _⟩ := hp.ex
  rw [z, h1] at hd
  have e := HO.dK.inj (Option.some.inj hd)
  rw [← e] at h
  exact h _ List.mem_cons_self cl rfl
theorem tab_int {α : Type} {key : α → Key} {val : α → V} {l : List α} (h : ∀ a ∈ l, ∀ p, val a ≠ .ref p) : ∀ p ∈ tab key val l, ∀ a, p.2 ≠ .ref a := fun p hp a => by
  obtain ⟨b, hb, rfl⟩ := List.mem_map.mp hp
  exact h b hb a
theorem FontAt.keepB {K : PySem.W.Frag} {H H' : Hp} {pen cl p : Addr} {U : Nat} {S : List Nat} {η : Nat → Option Nat} (f : FontAt K H p S η) (hp : PenAt H pen cl U) (b : ∀ a o, a ≠ pen → H a = some o → (∀ ps, o ≠ .tbl ps) → H' a = some o) : FontAt K H' p S η := by
  obtain ⟨dx, r, h, kvs, h1, h2, h3, h4⟩ := f.ex
  refine ⟨dx, r, h, kvs, b _ _ (hp.ne h1 fun _ => nofun) h1 (fun _ => nofun), b _ _ (ne_pen hp h2 (tab_int fun _ _ _ => nofun)) h2 (fun _ => nofun), b _ _ (ne_pen hp h3 fun q hq a e => ?_) h3 (fun _ => nofun), h4⟩
  have := (h4.self q hq).2
  rw [e] at this
  cases this
theorem CaseAt.keepB {K : PySem.W.Frag} {H H' : Hp} {pen cl c f : Addr} {U : Nat} {S : List Nat} {η : Nat → Option Nat} {l : Stock} (h : CaseAt K H c f S η l) (hp : PenAt H pen cl U) (b : ∀ a o, a ≠ pen → H a = some o → (∀ ps, o ≠ .tbl ps) → H' a = some o) : CaseAt K H' c f S η l := by
  obtain ⟨⟨dx, st, h1, h2⟩, h3⟩ := h
  exact ⟨⟨dx, st, b _ _ (hp.ne h1 fun _ => nofun) h1 (fun _ => nofun), b _ _ (ne_pen hp h2 (tab_int fun _ _ _ => nofun)) h2 (fun _ => nofun)⟩, h3.keepB hp b⟩
theorem WantsAt.keepB {K : PySem.W.Frag} {H H' : Hp} {pen cl c f : Addr} {U : Nat} {S : List Nat} {η : Nat → Option Nat} {need : Nat → Int} (h : WantsAt K H c f S η need) (hp : PenAt H pen cl U) (b : ∀ a o, a ≠ pen → H a = some o → (∀ ps, o ≠ .tbl ps) → H' a = some o) : WantsAt K H' c f S η need := by
  obtain ⟨⟨dx, st, h1, h2⟩, h3⟩ := h
  exact ⟨⟨dx, st, b _ _ (hp.ne h1 fun _ => nofun) h1 (fun _ => nofun), b _ _ (ne_pen hp h2 (tab_int fun _ _ _ => nofun)) h2 (fun _ => nofun)⟩, h3.keepB hp b⟩
theorem tabs_keepB {Tb : List (Addr × Str)} {H H' : Hp} {pen cl : Addr} {U : Nat} (t : Tabs Tb H) (hp : PenAt H pen cl U) (b : ExB pen H H') : Tabs Tb H' := fun p hpt => by
  obtain ⟨ps, h1, h2, h3⟩ := t p hpt
  refine ⟨ps, b _ _ (hp.ne h1 fun _ => nofun) h1, h2, fun pos cv hc => ?_⟩
  obtain ⟨c, e1, e2⟩ := h3 pos cv hc
  exact ⟨c, e1, b _ _ (hp.ne e2 fun _ => nofun) e2⟩
theorem PenAt.upC {H H' : Hp} {pen cl : Addr} {U : Nat} (h : PenAt H pen cl U) (e : ExtN H H') : PenAt H' pen cl U := by
  obtain ⟨ns, u, lf, h1, h2, h3⟩ := h.ex
  exact ⟨ns, u, lf, e _ _ h1 (fun _ => nofun), e _ _ h2 (fun _ => nofun), h3⟩
/-- all but the pen and the tables stays -/
abbrev ExP (pen : Addr) (H H' : Hp) : Prop := ExC pen H H'
def sp_made_case (K : PySem.W.Frag) (Tb : List (Addr × Str)) : Sp := fun vs H Q _ => ∃ (pen cl f d : Addr) (U : Nat) (S : List Nat) (η : Nat → Option Nat) (l : Stock), vs = [.ref pen, .ref f, .ref d] ∧ PenAt H pen cl U ∧ U + 200 ≤ 10 ^ 12 ∧ FontAt K H f S η ∧ SOk S ∧ (∀ c ∈ S, c ∈ LT) ∧ LawSt S l ∧ H d = some (.dK (stT l)) ∧ Tabs Tb H ∧
  ∀ c l' H', l'.Perm l → ExP pen H H' → PenAt H' pen cl (U + 200) → Tabs Tb H' → CaseAt K H' c f S η l' → Q (.ref c) H'
theorem lc_of {K : PySem.W.Frag} {te e : TE} {g : TG} {t : TT} {vs : List Nat} {σ : L2.St} {H : Hp} {Q : VK} (h : te σ H fun v H1 => tLc (iList K (tC v)) g t e vs σ H1 Q) : tLc (iList K te) g t e vs σ H Q := h
theorem ev_rev {σ : L2.St} {H : Hp} {te : TE} {k : Nat × Nat} (h : Ev te σ H (.str (kt k))) : Ev (tRevS te) σ H (.str (kt (k.2, k.1))) := fun H1 e Q q => h H1 e _ fun H2 e2 => ⟨_, rfl, by show 2 ≤ sizeLine; decide, q H2 e2⟩
theorem el_keys {σ : L2.St} {H : Hp} {te : TE} {d : Addr} {l : Stock} (h : Ev te σ H (.ref d)) (hd : H d = some (.dK (stT l))) : EvL (tCB rListD (tCons te tNil)) σ H (l.map fun q => V.str (kt q.1)) := fun H1 e Q q => h H1 e _ fun H2 e2 => ⟨d, stT l, rfl, e2 _ _ (e _ _ hd), fun p hp => q p _ (fresh_back e2 hp) (e2.trans (Ex.new hp)) (by
  rw [upd_same]
  unfold stT tab
  rw [List.map_map]
  rfl)⟩
theorem ok__law_made_case {P : Program} {w : World} {K : PySem.W.Frag} {mg : Str → Option Value} {base : Heap} {Tb : List (Addr × Str)} (T : Tx K mg) (hL : Lm K base mg Tb "ordered" "ordered.<locals>.<lambda>" s_ordered (f_ordered K)) (hC : SupC P K mg) :
    FnOk P w K mg base CX0 26 (f__law_made_case K) (fdOf K (f__law_made_case K)) ["_law_pen_here", "_law_house", "_law_stock_here"] (sp_made_case K Tb) := by
  refine T.d__law_made_case.ok sc__law_made_case (fun vs H Q E h => by obtain ⟨pen, cl, f, d, U, S, η, l, rfl, _⟩ := h; rfl) (fun cdv A outer s H vs Q E0_ hr h => ?_)
  obtain ⟨pen, cl, f, d, U, S, η, l, rfl, hpen, hU, hf, hS, hSm, hl, hd, ht, k⟩ := h
  refine ⟨_, PSs.nox (pss_cons (ps_setLc (i := 3) (own := [("_law_kind", 4)]) rfl sc__law_made_case.nd rfl rfl (sw_true rfl rfl rfl (by decide +kernel)) (pi_list (pe_call (ok__law_shuffled T) (by exact hr.mono (by first | decide | omega)) (by rfl) (by exact T.m__law_shuffled) (by exact T.d__law_shuffled.kp) (bn__law_shuffled T) .nil pass0 (pa_cons (pv 0) (pa_cons (pe_callTy (call_list_dK rfl) (by rfl) (by exact T.z_list) bt_list (pa_cons (pv 2) pa_nil)) pa_nil)))) (blkOk_by (own := [("_law_kind", 4)]) (N := ["_law_pen_here", "_law_house", "_law_stock_here", "_law_rows", "_law_kind"]) (sc := (defScope s__law_made_case)) (by decide +kernel)) (fun _ _ _ _ _ => pg_name (i := 4) sc__law_made_case.nd rfl (by first | exact Or.inl rfl | exact Or.inr rfl)) (fun _ _ _ _ _ => pts_nil) (fun _ _ _ _ _ => pe_tup (pa_cons (pe_call (ok__law_pick T) (by exact hr.mono (by first | decide | omega)) (by rfl) (by exact T.m__law_pick) (by exact T.d__law_pick.kp) (bn__law_pick T) .nil pass0 (pa_cons (pv 0) (pa_cons (pe_lst (pa_cons (pv 4) (pa_cons (pe_revS (pv 4)) pa_nil))) pa_nil))) (pa_cons (pe_dget (by exact hu_of hr) (pv 2) (pv 4) (fun _ _ => rfl)) pa_nil)))) (
pss_one (ps_ret (pe_make T.k_Case (ok_Case_init T hL hC) (by exact hr.mono (by first | decide | omega)) (by rfl) (by exact T.m_Case) (bn_Case_init hC) .nil pass0 (pa_cons (pv 1) (pa_cons (pe_call (ok__law_pick T) (by exact hr.mono (by first | decide | omega)) (by rfl) (by exact T.m__law_pick) (by exact T.d__law_pick.kp) (bn__law_pick T) .nil pass0 (pa_cons (pv 0) (pa_cons (pe_lst (pa_cons (pv 3) (pa_cons (pe_callTy call_tuple_of (by rfl) (by exact T.z_tuple) bt_tuple (pa_cons (pv 3) pa_nil)) pa_nil))) pa_nil))) pa_nil)))))), ?_⟩
  have l8 := hl.len
  have ndp := ne_pen hpen hd (tab_int fun _ _ _ => nofun)
  refine q_raw ?_
  refine lc_of ?_
  refine ⟨_, rfl, ?_⟩
  refine ea_lstN (el_keys (ev_var rfl) hd) fun p0 H1 hp0 e1 h1 => ?_
  refine ⟨pen, cl, _, l.map fun q => V.str (kt q.1), U, rfl, hpen.up e1, by rw [List.length_map]; omega, .inr ⟨p0, rfl, h1⟩, fun y hy => ?_, by rw [List.length_map]; omega, fun p ys H2 hp hperm b2 p2 h2 => ?_⟩
  · obtain ⟨q, hq, rfl⟩ := List.mem_map.mp hy
    exact item_kt hSm (hl.ok.kinds q hq)
  obtain ⟨ls, hls, rfl⟩ := perm_map hperm
  rw [List.length_map] at p2
  have b02 : ExB pen H H2 := fun b o n hb => b2 _ _ n (e1 _ _ hb)
  have npp : p ≠ pen := p2.ne h2 fun _ => nofun
  have hw := eg_list (K := K) (tl := tC (.ref p)) (σ := L2.start ["_law_pen_here", "_law_house", "_law_stock_here", "_law_rows", "_law_kind"] [V.ref pen, V.ref f, V.ref d]) (H := H2) (a := p) (xs := ls.map fun q => V.str (kt q.1)) ev_c (sq_of h2)
  rw [List.length_map] at hw
  have ll : ls.length ≤ 8 := by rw [hls.length_eq]; exact l8
  have d2 := b02 _ _ ndp hd
  refine lc_draw (xs := ls) (f := fun q => V.str (kt q.1)) (fst := fun b : Row => b.2) (row := rowE) (good := fun b => Way b.2.1 b.1) (c := 5) (U := U + 5 * l.length) (G0 := H2) hw (fun H' b => sq_of (b _ _ npp h2)) p2 (by omega) (by omega) (fun _ => rfl) (fun q H6 U6 hq b6 p6 hU6 R hR => ?_) fun v E H6 hrows hfst hgood b6 p6 => ?_
  · have d6 := b6 _ _ ndp d2
    have hqm := hls.mem_iff.mp hq
    refine ⟨_, rfl, ?_⟩
    refine ea_lstN (xs := [.str (kt q.1), .str (kt (q.1.2, q.1.1))]) (el_lst (ea_cons (ev_var rfl) (ea_cons (ev_rev (ev_var rfl)) ea_nil)) (by show 2 ≤ 100000; decide)) fun lq H7 hlq e7 h7 => ?_
    refine ⟨pen, cl, lq, _, U6, rfl, p6.up e7, by omega, h7, by simp, by show 2 ≤ 100000; decide, fun v H8 hv b8 p8 => ?_⟩
    obtain ⟨j, rfl, hway⟩ : ∃ j, v = .str (kt j) ∧ Way q.1 j := by
      simp only [List.mem_cons, List.not_mem_nil, or_false] at hv
      rcases hv with rfl | rfl
      · exact ⟨_, rfl, .inl rfl⟩
      · exact ⟨_, rfl, .inr rfl⟩
    have d8 : H8 d = some (.dK (stT l)) := b8 _ _ ndp (e7 _ _ d6)
    have hg : Ev (tDGet (tVar 2) (tVar 4)) ((wipe (L2.start ["_law_pen_here", "_law_house", "_law_stock_here", "_law_rows", "_law_kind"] [V.ref pen, V.ref f, V.ref d]) [4]).set 4 (some (V.str (kt q.1)))) H8 (.int ((q.2 : Nat) : Int)) := ev_dget (k := kK q.1) (ev_var rfl) (ev_var rfl) (.inl d8) (hl.ok.get hqm)
    refine hg H8 (Ex.refl _) _ fun H9 e9 => ⟨by show 2 ≤ sizeLine; decide, fun t ht => ?_⟩
    have e9t := e9.trans (Ex.new (o := .tup [V.str (kt j), V.int ((q.2 : Nat) : Int)]) ht)
    exact hR t (j, q) _ hway rfl (fun b o n hb => e9t _ _ (b8 _ _ n (e7 _ _ hb))) (p8.up e9t) upd_same
  · have hfst : E.map Prod.snd = ls := hfst
    obtain ⟨pv, tsv, rfl, g1, g2⟩ := hrows
    have hE : RowsOk S E := ⟨hgood, by rw [hfst]; exact hl.ok.perm hls, fun r hr => hl.pos r.2 (hls.mem_iff.mp (by rw [← hfst]; exact List.mem_map_of_mem hr)), fun r hr => hl.big r.2 (hls.mem_iff.mp (by rw [← hfst]; exact List.mem_map_of_mem hr))⟩
    have b06 : ExB pen H H6 := fun b o n hb => b6 _ _ n (b02 _ _ n hb)
    refine ⟨_, rfl, ?_⟩
    refine ⟨_, rfl, ?_⟩
    refine ⟨_, rfl, ?_⟩
    refine ⟨_, rfl, pv, tsv.map V.ref, rfl, .inl ⟨sq_of g1, fun lt hlt => ?_⟩⟩
    refine ⟨by show 2 ≤ sizeLine; decide, fun lq hlq => ?_⟩
    have e7 : Ex H6 (upd (upd H6 lt (.tup (tsv.map V.ref))) lq (.lst [V.ref pv, V.ref lt])) := (Ex.new hlt).trans (Ex.new hlq)
    have h7 : (upd (upd H6 lt (.tup (tsv.map V.ref))) lq (.lst [V.ref pv, V.ref lt])) lq = some (.lst [V.ref pv, V.ref lt]) := upd_same
    have h7t : (upd (upd H6 lt (.tup (tsv.map V.ref))) lq (.lst [V.ref pv, V.ref lt])) lt = some (.tup (tsv.map V.ref)) := (Ex.new hlq) _ _ upd_same
    generalize upd (upd H6 lt (.tup (tsv.map V.ref))) lq (.lst [V.ref pv, V.ref lt]) = G at e7 h7 h7t
    have pG := p6.up e7
    refine ⟨pen, cl, lq, _, U + 5 * l.length + 5 * ls.length, rfl, pG, by omega, h7, by simp, by show 2 ≤ 100000; decide, fun v H8 hv b8 p8 => ?_⟩
    obtain ⟨a, b, rfl, hseq⟩ : ∃ a b, v = .ref a ∧ SeqB b H8 a tsv := by
      simp only [List.mem_cons, List.not_mem_nil, or_false] at hv
      rcases hv with rfl | rfl
      · exact ⟨pv, true, rfl, b8 _ _ (pG.ne (e7 _ _ g1) fun _ => nofun) (e7 _ _ g1)⟩
      · exact ⟨lt, false, rfl, b8 _ _ (pG.ne h7t fun _ => nofun) h7t⟩
    have b08 : ExB pen H H8 := fun b o n hb => b8 _ _ n (e7 _ _ (b06 _ _ n hb))
    have rows8 : RowsAt H8 rowE tsv E := rows_keep pG b8 (g2.up e7)
    have ht8 := tabs_keepB ht hpen b08
    have hf8 := hf.keepB hpen fun a o n h _ => b08 a o n h
    intro x dx hx hdx hne
    have k1 : Ex H8 (upd (upd H8 dx (.own x)) x (.ins (C_Case K) dx [])) := (Ex.new hdx).trans (Ex.new (by rw [upd_ne hne.symm]; exact hx))
    refine ⟨x, dx, f, a, b, S, η, E, tsv, rfl, upd_same, hf8.up k1, hS, hseq.keep fun o h _ => k1 _ _ h, rows8.up k1, hE, ht8.ext k1, fun l' H9 hp9 c9 t9 hc => ⟨rfl, ?_⟩⟩
    have k9 : ExtN H8 H9 := fun b o hb nt => c9 _ _ (fun z => by rw [z, hx] at hb; cases hb) (k1 _ _ hb) nt
    refine k x l' H9 ((by rw [hfst] at hp9; exact hp9.trans hls)) (fun b o n hb nt => k9 _ _ (b08 _ _ n hb) nt) ((p8.upC k9).mono (by have := hls.length_eq; omega)) t9 hc
end P38

set_option Elab.async false
set_option linter.all false
set_option maxRecDepth 100000
set_option maxHeartbeats 4000000
namespace P38
open PySem PySem.Spec PyProof.Rows L2 Evl LamX NdefX
theorem ndT_eq (S : List Nat) (need : Nat → Int) : ndT S need = cnT need S := rfl
theorem el_keysN {σ : L2.St} {H : Hp} {te : TE} {d : Addr} {M : List Nat} {need : Nat → Int} (h : Ev te σ H (.ref d)) (hd : H d = some (.dK (cnT need M))) : EvL (tCB rListD (tCons te tNil)) σ H (M.map sV) := fun H1 e Q q => h H1 e _ fun H2 e2 => ⟨d, cnT need M, rfl, e2 _ _ (e _ _ hd), fun p hp => q p _ (fresh_back e2 hp) (e2.trans (Ex.new hp)) (by
  rw [upd_same]
  unfold cnT tab
  rw [List.map_map]
  rfl)⟩
theorem tcb_of {te : TE} {tr : TA} {σ : L2.St} {H : Hp} {r : List V → Hp → VK → Prop} {R : List V → Hp → Prop} (h : te σ H fun v H1 => r [v] H1 fun x H2 => tr σ H2 fun xs H3 => R (x :: xs) H3) : tCons (tCB r (tCons te tNil)) tr σ H R := h
def sp_made_wants (K : PySem.W.Frag) : Sp := fun vs H Q _ => ∃ (pen cl f d : Addr) (U : Nat) (S : List Nat) (η : Nat → Option Nat) (need : Nat → Int), vs = [.ref pen, .ref f, .ref d] ∧ PenAt H pen cl U ∧ U + 100 ≤ 10 ^ 12 ∧ FontAt K H f S η ∧ SOk S ∧ (∀ c ∈ S, c ∈ LT) ∧ (∀ c ∈ S, 0 ≤ need c) ∧ H d = some (.dK (cnT need S)) ∧
  ∀ w H', ExB pen H H' → PenAt H' pen cl (U + 100) → WantsAt K H' w f S η need → Q (.ref w) H'
theorem ok__law_made_wants {P : Program} {w : World} {K : PySem.W.Frag} {mg : Str → Option Value} {base : Heap} (T : Tx K mg) : FnOk P w K mg base CX0 12 (f__law_made_wants K) (fdOf K (f__law_made_wants K)) ["_law_pen_here", "_law_house", "_law_need"] (sp_made_wants K) := by
  refine T.d__law_made_wants.ok sc__law_made_wants (fun vs H Q E h => by obtain ⟨pen, cl, f, d, U, S, η, need, rfl, hpen, hU, hf, hS, hSm, hn, hd, k⟩ := h; rfl) (fun cdv A outer s H vs Q E hr h => ?_)
  obtain ⟨pen, cl, f, d, U, S, η, need, rfl, hpen, hU, hf, hS, hSm, hn, hd, k⟩ := h
  refine ⟨_, PSs.nox (pss_cons (ps_set (i := 3) sc__law_made_wants.nd rfl (by first | exact Or.inl rfl | exact Or.inr rfl) (pe_call (ok__law_draw T) (by exact hr.mono (by first | decide | omega)) (by rfl) (by exact T.m__law_draw) (by exact T.d__law_draw.kp) (bn__law_draw T) .nil pass0 (pa_cons (pv 0) (pa_cons pe_int pa_nil)))) (
pss_one (ps_ret (pe_make T.k_Wants (ok_Wants_init T) (by exact hr.mono (by first | decide | omega)) (by rfl) (by exact T.m_Wants) (bn_Wants_init T) .nil pass0 (pa_cons (pv 1) (pa_cons (pe_callTy (call_dictP rfl) (by rfl) (by exact T.z_dict) bt_dict (pa_cons (pe_lc (own := [("_law_sign", 4)]) rfl sc__law_made_wants.nd (pi_list (pe_call (ok__law_shuffled T) (by exact hr.mono (by first | decide | omega)) (by rfl) (by exact T.m__law_shuffled) (by exact T.d__law_shuffled.kp) (bn__law_shuffled T) .nil pass0 (pa_cons (pv 0) (pa_cons (pe_callTy (call_list_dK rfl) (by rfl) (by exact T.z_list) bt_list (pa_cons (pv 2) pa_nil)) pa_nil)))) (blkOk_by (own := [("_law_sign", 4)]) (N := ["_law_pen_here", "_law_house", "_law_need", "_law_zeros", "_law_sign"]) (sc := (defScope s__law_made_wants)) (by decide +kernel)) (fun _ _ _ _ _ => pg_name (i := 4) sc__law_made_wants.nd rfl (by first | exact Or.inl rfl | exact Or.inr rfl)) (fun _ _ _ _ _ => pts_one (pt_cmpR op_ge (pe_dget (by exact hu_of hr) (pv 2) (pv 4) (fun _ _ => rfl)) (pv 3) (nomark _))) (fun _ _ _ _ _ => pe_tup (pa_cons (pv 4) (pa_cons (pe_dget (by exact hu_of hr) (pv 2) (pv 4) (fun _ _ => rfl)) pa_nil)))) pa_nil)) pa_nil)))))), ?_⟩
  have h6 := hS.most
  have ndp := ne_pen hpen hd (tab_int fun _ _ _ => nofun)
  refine q_raw ?_
  refine ea_cons (ta := tVar 0) (x := .ref pen) (ev_var rfl) (ea_cons (x := .int 2) (ta := tC (.int 2)) ev_c ea_nil) H (Ex.refl _) (fun vs H1 => sp_draw DB 5 (vs ++ []) H1 _ E0) fun H1 e1 => ?_
  refine ⟨pen, cl, 2, U, rfl, hpen.up e1, by omega, by decide, by decide, fun r H2 r0 r1 b2 p2 => ?_⟩
  have b02 : ExB pen H H2 := fun b o n hb => b2 _ _ n (e1 _ _ hb)
  have d2 := b02 _ _ ndp hd
  refine ⟨_, rfl, ?_⟩
  refine tcb_of ?_
  refine lc_of ?_
  refine ⟨_, rfl, ?_⟩
  refine ea_lstN (el_keysN (need := need) (M := S) (ev_var rfl) d2) fun p0 H3 hp0 e3 h3 => ?_
  refine ⟨pen, cl, _, S.map sV, U + 5, rfl, p2.up e3, by rw [List.length_map]; omega, .inr ⟨p0, rfl, h3⟩, fun y hy => ?_, by rw [List.length_map]; omega, fun p ys H4 hp hperm b4 p4 h4 => ?_⟩
  · obtain ⟨c, hc, rfl⟩ := List.mem_map.mp hy
    exact item_sg (LT_ok c (hSm c hc)).1
  obtain ⟨ls, hls, rfl⟩ := perm_map hperm
  rw [List.length_map] at p4
  have b04 : ExB pen H H4 := fun b o n hb => b4 _ _ n (e3 _ _ (b02 _ _ n hb))
  have d4 := b04 _ _ ndp hd
  have ll : ls.length ≤ 6 := by rw [hls.length_eq]; exact h6
  have hrows : EvP (tLc (iList K (tC (.ref p))) (gName 4) (tTest (tOp (rI0 fun i j => .bl (decide (j ≤ i))) (tDGet (tVar 2) (tVar 4)) (tVar 3))) (tTup (tCons (tVar 4) (tCons (tDGet (tVar 2) (tVar 4)) tNil))) [4]) [some (.ref pen), some (.ref f), some (.ref d), some (.int r), none] H4 (RowsL (fun c => [kV (kS c), .int (need c)]) (ls.filter fun c => decide (r ≤ need c))) := by
    refine el_lcT (L := ls) (fun c => decide (r ≤ need c)) _ (ew_map (f := sV) (ew_list (K := K) ev_c (sq_of h4))) rfl (by omega) fun i c x H5 H6 hc e5 y => ?_
    obtain ⟨rfl, hx⟩ := y
    rw [hc] at hx
    obtain rfl : sV c = x := Option.some.inj hx
    have cS := hls.mem_iff.mp (List.mem_of_getElem? hc)
    have hg : Ev (tDGet (tVar 2) (tVar 4)) ((wipe [some (.ref pen), some (.ref f), some (.ref d), some (.int r), none] [4]).set 4 (some (sV c))) H6 (.int (need c)) := ev_dget (k := kS c) (ev_var rfl) (ev_var rfl) (.inl (e5 _ _ d4)) (nd_get cS)
    exact ⟨_, Ex.refl _, fun Q q => q, rfl, et_test (ev_op hg (ev_var rfl) rv_I0), fun _ => eu_tup (ea_cons (ev_var rfl) (ea_cons hg ea_nil)) (by show 2 ≤ 100000; decide)⟩
  refine hrows H4 (Ex.refl _) _ fun v H5 e5 hr5 => ?_
  obtain ⟨pv, tsv, rfl, g1, g2⟩ := hr5
  have hMS : ∀ c ∈ ls.filter (fun c => decide (r ≤ need c)), c ∈ S ∧ 0 ≤ need c := fun c hc => ⟨hls.mem_iff.mp (List.mem_filter.mp hc).1, hn c (hls.mem_iff.mp (List.mem_filter.mp hc).1)⟩
  have hMl : (ls.filter fun c => decide (r ≤ need c)).length ≤ 100 := by have := List.length_filter_le (fun c => decide (r ≤ need c)) ls; omega
  have hM0 : ∀ c ∈ S, c ∈ ls.filter (fun c => decide (r ≤ need c)) ∨ need c = 0 := fun c hc => by
    by_cases q : r ≤ need c
    · exact .inl (List.mem_filter.mpr ⟨hls.mem_iff.mpr hc, decide_eq_true q⟩)
    · have := hn c hc
      exact .inr (by omega)
  have ndM : ((ls.filter fun c => decide (r ≤ need c)).map kS).Nodup := List.Pairwise.map _ (fun a b n e => n (kS_inj e)) ((hls.nodup_iff.mpr hS.nd).sublist List.filter_sublist)
  generalize ls.filter (fun c => decide (r ≤ need c)) = M at g2 hMS hMl hM0 ndM
  refine ⟨pv, tsv, cnT need M, rfl, sq_of g1, rows_pairs (key := kS) (val := fun c => .int (need c)) (fun a => rfl) g2, fun dd hdd => ?_⟩
  have hm : mergeK [] (cnT need M) = cnT need M := by
    have := merge_tab (key := kS) (val := fun c => .int (need c)) M [] (by simpa using ndM)
    rw [List.nil_append] at this
    exact this
  rw [hm]
  intro x dx hx hdx hne
  have b05 : ExB pen H H5 := fun b o n hb => e5 _ _ (b04 _ _ n hb)
  have hf5 := hf.keepB hpen fun a o n h _ => b05 a o n h
  have p5 := p4.up e5
  have eA : Ex H5 (upd H5 dd (.dK (cnT need M))) := Ex.new hdd
  have hA : (upd H5 dd (.dK (cnT need M))) dd = some (.dK (cnT need M)) := upd_same
  generalize upd H5 dd (.dK (cnT need M)) = A at hx hdx eA hA
  have eG : Ex A (upd (upd A dx (.own x)) x (.ins (C_Wants K) dx [])) := (Ex.new hdx).trans (Ex.new (by rw [upd_ne hne.symm]; exact hx))
  have k1 := eA.trans eG
  refine ⟨x, dx, f, dd, S, η, need, M, rfl, upd_same, fun o => hf5.up (Ex.mut k1 hdd), hf5.up k1, hS, eG _ _ hA, hMS, hMl, hM0, fun H9 b9 w9 => ⟨rfl, ?_⟩⟩
  have k9 : Ex H5 H9 := fun b o hb => b9 _ _ (fun z => by rw [z] at hb; have := eA _ _ hb; rw [hx] at this; cases this) (k1 _ _ hb)
  exact k x H9 (b05.ex k9) ((p5.up k9).mono (by omega)) w9
end P38

set_option Elab.async false
set_option linter.all false
set_option maxRecDepth 100000
set_option maxHeartbeats 4000000
namespace P38
open PySem PySem.Spec PyProof.Rows L2 Evl LamX NdefX
/-! plans -/
abbrev Plan := List ((Nat × Nat) × Nat × Nat)
def keyP (t : (Nat × Nat) × Nat × Nat) : List Key := [kK t.1, kS t.2.1]
def plT (Pl : Plan) : List (List Key × V) := Pl.map fun t => (keyP t, .int ((t.2.2 : Nat) : Int))
def partsIn (Pl : Plan) (A : Nat → Bool) : Int := (Pl.map fun t => if A t.2.1 then ((t.2.2 : Nat) : Int) else 0).sum
structure PlanOk (S : List Nat) (η : Nat → Option Nat) (l : Stock) (Pl : Plan) : Prop where
  nd : (Pl.map keyP).Nodup
  bound : ∀ A, partsIn Pl A ≤ bear S η l A
  signs : ∀ t ∈ Pl, t.2.1 ∈ S
  len : Pl.length ≤ 100
theorem keyP_inj {a b : (Nat × Nat) × Nat × Nat} (h : keyP a = keyP b) : a.1 = b.1 ∧ a.2.1 = b.2.1 := by
  have h1 := (List.cons.inj h).1
  have h2 := (List.cons.inj (List.cons.inj h).2).1
  exact ⟨kK_inj h1, kS_inj h2⟩
def needOf (Pl : Plan) (c : Nat) : Int := (Pl.map fun t => if t.2.1 = c then ((t.2.2 : Nat) : Int) else 0).sum
theorem want_parts {S : List Nat} (hS : S.Nodup) (A : Nat → Bool) : ∀ Pl : Plan, (∀ t ∈ Pl, t.2.1 ∈ S) → want S (needOf Pl) A = partsIn Pl A
  | [], _ => by
    have z : ∀ L : List Nat, (L.map fun _ => (0 : Int)).sum = 0 := fun L => by
      induction L with
      | nil => rfl
      | cons a L ih => rw [List.map_cons, List.sum_cons, ih]; rfl
    unfold want needOf partsIn
    simpa using z S
  | t :: Pl, h => by
    have ih := want_parts hS A Pl fun x hx => h x (List.mem_cons_of_mem _ hx)
    have hc : t.2.1 ∈ S := h t List.mem_cons_self
    have e : ∀ c, needOf (t :: Pl) c = (if t.2.1 = c then ((t.2.2 : Nat) : Int) else 0) + needOf Pl c := fun c => by unfold needOf; rw [List.map_cons, List.sum_cons]
    have sp : ∀ L : List Nat, L.Nodup → (L.map fun c => if A c then needOf (t :: Pl) c else 0).sum = (if t.2.1 ∈ L then (if A t.2.1 then ((t.2.2 : Nat) : Int) else 0) else 0) + (L.map fun c => if A c then needOf Pl c else 0).sum := fun L => by
      induction L with
      | nil => intro _; simp
      | cons d L ihL =>
        intro nd
        have nd2 := List.nodup_cons.mp nd
        rw [List.map_cons, List.sum_cons, ihL nd2.2, List.map_cons, List.sum_cons, e]
        by_cases q : t.2.1 = d
        · subst q
          rw [if_pos List.mem_cons_self, if_neg nd2.1, if_pos rfl]
          split <;> omega
        · rw [if_neg q]
          have : (t.2.1 ∈ d :: L) ↔ t.2.1 ∈ L := by simp [q]
          simp only [this]
          split <;> omega
    unfold want at ih ⊢
    rw [sp S hS, if_pos hc, ih]
    unfold partsIn
    rw [List.map_cons, List.sum_cons]
theorem slk_plan {S : List Nat} {η : Nat → Option Nat} {l : Stock} {Pl : Plan} (hS : S.Nodup) (h : PlanOk S η l Pl) (A : Nat → Bool) : 0 ≤ slk S η l (needOf Pl) A := by
  have := h.bound A
  unfold slk
  rw [want_parts hS A Pl h.signs]
  omega
theorem need_nn (Pl : Plan) (c : Nat) : 0 ≤ needOf Pl c := by
  unfold needOf
  induction Pl with
  | nil => exact Int.le_refl _
  | cons t Pl ih =>
    rw [List.map_cons, List.sum_cons]
    split <;> omega
end P38

set_option Elab.async false
set_option linter.all false
set_option maxRecDepth 100000
set_option maxHeartbeats 4000000
namespace P38
open PySem PySem.Spec PyProof.Rows L2 Evl LamX NdefX
theorem plT_new {Pl : Plan} {t : (Nat × Nat) × Nat × Nat} (h : ∀ u ∈ Pl, keyP u ≠ keyP t) : putK (plT Pl) (keyP t) (.int ((t.2.2 : Nat) : Int)) = plT (Pl ++ [t]) := by
  unfold putK
  rw [if_neg]
  · unfold plT
    rw [List.map_append]
    rfl
  · intro z
    obtain ⟨p, hp, e⟩ := List.any_eq_true.mp z
    obtain ⟨u, hu, rfl⟩ := List.mem_map.mp hp
    exact h u hu (of_decide_eq_true e)
/-- the kinds of a locked stock -/
theorem eg_stK {σ : L2.St} {H : Hp} {td : TE} {d : Addr} {l : Stock} {o : Obj} (h : Ev td σ H (.ref d)) (hd : H d = some (.frz o (.dK (stT l)))) : EvG (iKeys td) σ H l.length (fun H => H d = some (.frz o (.dK (stT l)))) (fun i H x H' => H' = H ∧ l[i]?.map (fun q => V.str (kt q.1)) = some x) := fun H1 e R q =>
  h H1 e _ fun H2 e2 => ⟨d, o, rfl, .inl ⟨stT l, e2 _ _ (e _ _ hd), q _ H2 e2 (by
    have w := walk_keys (d := d) (o := o) (kvs := stT l)
    rw [show (stT l).length = l.length from tab_len] at w
    refine w.mono (fun _ g => g) fun i H x H' hi _ y => ?_
    obtain ⟨e1, k, v, hk, rfl⟩ := y
    refine ⟨e1, ?_⟩
    unfold stT tab at hk
    rw [List.getElem?_map] at hk
    cases hc : l[i]? with
    | none => rw [hc] at hk; cases hk
    | some q =>
      rw [hc] at hk
      rw [← (Prod.mk.inj (Option.some.inj hk)).1]
      rfl)⟩⟩
theorem for_of {K : PySem.W.Frag} {te : TE} {g : TG} {tb : TS} {D : Ends} {σ : L2.St} {H : Hp} (h : te σ H fun v H1 => tFor (iList K (tC v)) g tb D σ H1) : tFor (iList K te) g tb D σ H := h
def sp_planned (K : PySem.W.Frag) : Sp := fun vs H Q _ => ∃ (pen cl a d : Addr) (U : Nat) (S : List Nat) (η : Nat → Option Nat) (l : Stock), vs = [.ref pen, .ref a, .ref d] ∧ PenAt H pen cl U ∧ U + 1000 ≤ 10 ^ 12 ∧ SOk S ∧ (∀ c ∈ S, c ∈ LT) ∧ FtAt H a S η ∧ (∀ hd, H a = some (.tup [.str (tx S), .ref hd]) → hd ≠ pen ∧ hd ≠ d) ∧ LawSt S l ∧ H d = some (.dK (stT l)) ∧
  ∀ p Pl H', PlanOk S η l Pl → ExB pen H H' → PenAt H' pen cl (U + 1000) → p ≠ pen → H' p = some (.dT (plT Pl)) → Q (.ref p) H'
theorem ok__law_planned {P : Program} {w : World} {K : PySem.W.Frag} {mg : Str → Option Value} {base : Heap} (T : Tx K mg) : FnOk P w K mg base CX0 12 (f__law_planned K) (fdOf K (f__law_planned K)) ["_law_pen_here", "_law_font_here", "_law_stock_here"] (sp_planned K) := by
  refine T.d__law_planned.ok sc__law_planned (fun vs H Q E h => by obtain ⟨pen, cl, a, d, U, S, η, l, rfl, hpen, hU, hS, hSm, hft, hnd, hl, hd, k⟩ := h; rfl) (fun cdv A outer s H vs Q E hr h => ?_)
  obtain ⟨pen, cl, a, d, U, S, η, l, rfl, hpen, hU, hS, hSm, hft, hnd, hl, hd, k⟩ := h
  refine ⟨_, PSs.nox (pss_cons (ps_set (i := 3) sc__law_planned.nd rfl (by first | exact Or.inl rfl | exact Or.inr rfl) pe_dnewT) (
pss_cons (ps_lock (ps_for PassesOwn.never rfl (pi_keys (pv 2)) (pg_name (i := 4) sc__law_planned.nd rfl (by first | exact Or.inl rfl | exact Or.inr rfl)) (
pss_cons (ps_set (i := 5) sc__law_planned.nd rfl (by first | exact Or.inl rfl | exact Or.inr rfl) (pe_dget (by exact hu_of hr) (pv 2) (pv 4) (fun _ _ => rfl))) (
pss_one (ps_for PassesOwn.never rfl (pi_list (pe_call (ok__law_shuffled T) (by exact hr.mono (by first | decide | omega)) (by rfl) (by exact T.m__law_shuffled) (by exact T.d__law_shuffled.kp) (bn__law_shuffled T) .nil pass0 (pa_cons (pv 0) (pa_cons (pe_call (ok__law_shows T) (by exact hr.mono (by first | decide | omega)) (by rfl) (by exact T.m__law_shows) (by exact T.d__law_shows.kp) (bn__law_shows T) .nil pass0 (pa_cons (pv 1) (pa_cons (pv 4) pa_nil))) pa_nil)))) (pg_name (i := 6) sc__law_planned.nd rfl (by first | exact Or.inl rfl | exact Or.inr rfl)) (
pss_cons (ps_set (i := 7) sc__law_planned.nd rfl (by first | exact Or.inl rfl | exact Or.inr rfl) (pe_call (ok__law_pick T) (by exact hr.mono (by first | decide | omega)) (by rfl) (by exact T.m__law_pick) (by exact T.d__law_pick.kp) (bn__law_pick T) .nil pass0 (pa_cons (pv 0) (pa_cons (pe_lst (pa_cons pe_int (pa_cons (pv 5) (pa_cons (pv 5) (pa_cons (pe_call (ok__law_draw T) (by exact hr.mono (by first | decide | omega)) (by rfl) (by exact T.m__law_draw) (by exact T.d__law_draw.kp) (bn__law_draw T) .nil pass0 (pa_cons (pv 0) (pa_cons (pe_op op_add (pv 5) pe_int) pa_nil))) pa_nil))))) pa_nil)))) (
pss_cons (ps_set (i := 5) sc__law_planned.nd rfl (by first | exact Or.inl rfl | exact Or.inr rfl) (pe_op op_sub (pv 5) (pv 7))) (
pss_one (ps_if (pt_cmpR op_gt (pv 7) pe_int (nomark _)) (pss_one (ps_dput (by exact hu_of hr) (pv 3) (pe_tup (pa_cons (pv 4) (pa_cons (pv 6) pa_nil))) (pv 7) rfl)) pss_nil))))))))) (
pss_one (ps_ret (pv 3))))), ?_⟩
  have l8 := hl.len
  have h6 := hS.most
  have ndp := ne_pen hpen hd (tab_int fun _ _ _ => nofun)
  refine q_raw ?_
  intro x hx
  have e1 : Ex H (upd H x (.dT [])) := Ex.new hx
  have h1 : (upd H x (.dT [])) x = some (.dT []) := upd_same
  have nxd : x ≠ d := fun z => by rw [z, hd] at hx; cases hx
  have d1 := e1 _ _ hd
  have p1 := hpen.up e1
  have nxp := (hpen.fresh hx).1
  have nxc := (hpen.fresh hx).2
  generalize upd H x (.dT []) = G1 at e1 h1 d1 p1
  refine ⟨d, _, d1, trivial, fun od => ?_⟩
  have gd : (upd G1 d (.frz od (.dK (stT l)))) d = some (.frz od (.dK (stT l))) := upd_same
  have gx : (upd G1 d (.frz od (.dK (stT l)))) x = some (.dT []) := by rw [upd_ne nxd]; exact h1
  have gk : ∀ b o, b ≠ d → H b = some o → (upd G1 d (.frz od (.dK (stT l)))) b = some o := fun b o n hb => by rw [upd_ne n]; exact e1 _ _ hb
  have ndc : d ≠ cl := fun z => by obtain ⟨ns, u, lf, _, q2, _⟩ := hpen.ex; rw [← z, hd] at q2; cases q2
  have gp := p1.put (o := .frz od (.dK (stT l))) ndp ndc
  generalize upd G1 d (.frz od (.dK (stT l))) = G at gd gx gk gp
  let PO : Nat → L2.St → Hp → Prop := fun i σ' H' => (∃ u4 u5 u6 u7, σ' = [some (.ref pen), some (.ref a), some (.ref d), some (.ref x), u4, u5, u6, u7]) ∧ (∀ b o, b ≠ pen → b ≠ d → H b = some o → H' b = some o) ∧ H' d = some (.frz od (.dK (stT l))) ∧ PenAt H' pen cl (U + 90 * i) ∧
    ∃ Pl : Plan, H' x = some (.dT (plT Pl)) ∧ (Pl.map keyP).Nodup ∧ (∀ A, partsIn Pl A ≤ bear S η (l.take i) A) ∧ (∀ t ∈ Pl, t.2.1 ∈ S ∧ t.1 ∈ (l.take i).map Prod.fst) ∧ Pl.length ≤ 6 * i
  refine s_for (eg_stK (ev_var rfl) gd) PO (fun H2 e2 => ⟨⟨none, none, none, none, rfl⟩, fun b o n1 n2 hb => e2 _ _ (gk _ _ n2 hb), e2 _ _ gd, (gp.up e2).mono (by omega), [], e2 _ _ gx, List.nodup_nil, fun A => by rw [List.take_zero]; exact Int.le_refl _, fun t ht => (by cases ht), Nat.zero_le _⟩) (fun i σ' H' _ c => c.2.2.1) (fun i y σ' H2 H3 hi c yr => ?_) fun σ' H2 c => ?_
  · obtain ⟨⟨u4, u5, u6, u7, rfl⟩, c1, c2, c3, Pl, c4, c5, c6, c7, c8⟩ := c
    obtain ⟨rfl, hx1⟩ := yr
    obtain ⟨q, hq⟩ : ∃ q, l[i]? = some q := ⟨_, List.getElem?_eq_getElem hi⟩
    rw [hq] at hx1
    obtain rfl : V.str (kt q.1) = y := Option.some.inj hx1
    have hqm := List.mem_of_getElem? hq
    have tk : l.take (i + 1) = l.take i ++ [q] := by rw [List.take_add_one, hq]; rfl
    refine q_asg (i := 5) (v := .int ((q.2 : Nat) : Int)) (ev_dget (k := kK q.1) (ev_var rfl) (ev_var rfl) (.inr ⟨_, c2⟩) (hl.ok.get hqm)) fun H4 e4 => ?_
    refine st_eq (σ' := [some (.ref pen), some (.ref a), some (.ref d), some (.ref x), some (.str (kt q.1)), some (.int ((q.2 : Nat) : Int)), u6, u7]) rfl ?_
    obtain ⟨hdd, hkv, f1, f2, f3⟩ := id hft.ex
    obtain ⟨nh1, nh2⟩ := hnd hdd f1
    have nad : a ≠ d := fun z => by rw [z, hd] at f1; cases f1
    have hft4 : FtAt H4 a S η := ⟨hdd, hkv, e4 _ _ (c1 _ _ (hpen.ne f1 fun _ => nofun) nad f1), e4 _ _ (c1 _ _ nh1 nh2 f2), f3⟩
    have lsh : (shows S η q.1).length ≤ 6 := Nat.le_trans shows_len h6
    refine for_of ?_
    refine ⟨_, rfl, ?_⟩
    refine ev_call (ta := tCons (tVar 1) (tCons (tVar 4) tNil)) (E := E0) (dvs := []) (sp := sp_shows) (ea_cons (ev_var rfl) (ea_cons (ev_var rfl) ea_nil)) (v_shows hft4 hS) H4 (Ex.refl _) _ fun H5 e5 => ?_
    refine ⟨pen, cl, _, (shows S η q.1).map sV, U + 90 * i, rfl, (c3.up e4).up e5, by rw [List.length_map]; omega, .inl ⟨_, rfl, (strL_tx _).symm⟩, fun y hy => ?_, by rw [List.length_map]; omega, fun p ys H6 hp hperm b6 p6 h6p => ?_⟩
    · obtain ⟨c, hc, rfl⟩ := List.mem_map.mp hy
      exact item_sg (LT_ok c (hSm c (shows_mem hc))).1
    obtain ⟨ms, hms, rfl⟩ := perm_map hperm
    rw [List.length_map] at p6
    have e45 := e4.trans e5
    have npp : p ≠ pen := ((c3.up e4).up e5).fresh hp |>.1
    have npd : p ≠ d := fun z => by rw [z, e45 _ _ c2] at hp; cases hp
    have npx : p ≠ x := fun z => by rw [z, e45 _ _ c4] at hp; cases hp
    have p0 : H p = none := by
      cases z : H p with
      | none => rfl
      | some o => rw [e45 _ _ (c1 _ _ npp npd z)] at hp; cases hp
    have k6d : H6 d = some (.frz od (.dK (stT l))) := b6 _ _ ndp (e45 _ _ c2)
    have k6x : H6 x = some (.dT (plT Pl)) := b6 _ _ nxp (e45 _ _ c4)
    have k6k : ∀ b o, b ≠ pen → b ≠ d → H b = some o → H6 b = some o := fun b o n1 n2 hb => b6 _ _ n1 (e45 _ _ (c1 _ _ n1 n2 hb))
    have msl := hms.length_eq
    have msn : ms.Nodup := hms.nodup_iff.mpr (hS.nd.sublist List.filter_sublist)
    let PI : Nat → L2.St → Hp → Prop := fun j σ' H' => ∃ left : Nat, left ≤ q.2 ∧ (∃ u6 u7, σ' = [some (.ref pen), some (.ref a), some (.ref d), some (.ref x), some (.str (kt q.1)), some (.int ((left : Nat) : Int)), u6, u7]) ∧ (∀ b o, b ≠ pen → b ≠ d → H b = some o → H' b = some o) ∧ H' d = some (.frz od (.dK (stT l))) ∧
      H' p = some (.lst (ms.map sV)) ∧ PenAt H' pen cl (U + 90 * i + 30 + 10 * j) ∧ ∃ Pl : Plan, H' x = some (.dT (plT Pl)) ∧ (Pl.map keyP).Nodup ∧ (∀ A, partsIn Pl A ≤ bear S η (l.take i) A + if (shows S η q.1).any A then ((q.2 : Nat) : Int) - ((left : Nat) : Int) else 0) ∧
      (∀ t ∈ Pl, t.2.1 ∈ S ∧ (t.1 ∈ (l.take i).map Prod.fst ∨ (t.1 = q.1 ∧ t.2.1 ∈ ms.take j))) ∧ Pl.length ≤ 6 * i + j
    have hw := eg_list (K := K) (tl := tC (.ref p)) (σ := [some (.ref pen), some (.ref a), some (.ref d), some (.ref x), some (.str (kt q.1)), some (.int ((q.2 : Nat) : Int)), u6, u7]) (H := H6) (a := p) (xs := ms.map sV) ev_c (sq_of h6p)
    rw [List.length_map] at hw
    refine s_for hw PI (fun H7 e7 => ⟨q.2, Nat.le_refl _, ⟨_, _, rfl⟩, fun b o n1 n2 hb => e7 _ _ (k6k _ _ n1 n2 hb), e7 _ _ k6d, e7 _ _ h6p, (p6.up e7).mono (by omega), Pl, e7 _ _ k6x, c5, fun A => ?_, fun t ht => ⟨(c7 t ht).1, .inl (c7 t ht).2⟩, by omega⟩) (fun j σ' H' _ c => by obtain ⟨left, _, _, _, _, g, _⟩ := c; exact sq_of g) (fun j y σ' H7 H8 hj c yr => ?_) fun σ' H7 c => ?_
    · have := c6 A
      split <;> omega
    · obtain ⟨left, hle, ⟨v6, v7, rfl⟩, g1, g2, g3, g4, Pl2, g5, g6, g7, g8, g9⟩ := c
      obtain ⟨rfl, hy⟩ := yr
      obtain ⟨sn, hsn⟩ : ∃ sn, ms[j]? = some sn := ⟨_, List.getElem?_eq_getElem hj⟩
      rw [List.getElem?_map, hsn] at hy
      obtain rfl : sV sn = y := Option.some.inj hy
      have snm := List.mem_of_getElem? hsn
      have snsh := hms.mem_iff.mp snm
      have snS := shows_mem snsh
      have tkj : ms.take (j + 1) = ms.take j ++ [sn] := by rw [List.take_add_one, hsn]; rfl
      have hb100 := hl.ok.big q hqm
      refine q_raw ?_
      refine ⟨_, rfl, ?_⟩
      refine ⟨_, rfl, ?_⟩
      refine ⟨_, rfl, ?_⟩
      refine ea_cons (ta := tVar 0) (x := .ref pen) (ev_var rfl) (ea_cons (x := .int (((left : Nat) : Int) + 1)) (ta := tOp (rI0 fun i j => .int (i + j)) (tVar 5) (tC (.int 1))) (ev_op (ev_var rfl) ev_c rv_I0) ea_nil) H8 (Ex.refl _) (fun vs H1 => sp_draw DB 5 (vs ++ []) H1 _ E0) fun H9 e9 => ?_
      have hDB : ((left : Nat) : Int) + 1 ≤ ((DB : Nat) : Int) := by
        have : (2 : Nat) ^ 100 + 1 ≤ DB := by decide
        omega
      refine ⟨pen, cl, _, U + 90 * i + 30 + 10 * j, rfl, g4.up e9, by omega, by omega, hDB, fun r H10 r0 r1 b10 p10 => ?_⟩
      refine ⟨by show 4 ≤ sizeLine; decide, fun lq hlq => ?_⟩
      have e11 := Ex.new (o := .lst [V.int 0, V.int ((left : Nat) : Int), V.int ((left : Nat) : Int), V.int r]) hlq
      refine ⟨pen, cl, lq, _, U + 90 * i + 30 + 10 * j + 5, rfl, p10.up e11, by omega, upd_same, by simp, by show 4 ≤ 100000; decide, fun v H11 hv b11 p11 => ?_⟩
      obtain ⟨part, rfl, hp0, hpl⟩ : ∃ part : Nat, v = .int ((part : Nat) : Int) ∧ 0 ≤ part ∧ part ≤ left := by
        simp only [List.mem_cons, List.not_mem_nil, or_false] at hv
        rcases hv with rfl | rfl | rfl | rfl
        · exact ⟨0, rfl, Nat.le_refl _, Nat.zero_le _⟩
        · exact ⟨left, rfl, Nat.zero_le _, Nat.le_refl _⟩
        · exact ⟨left, rfl, Nat.zero_le _, Nat.le_refl _⟩
        · exact ⟨r.toNat, by rw [Int.toNat_of_nonneg r0], Nat.zero_le _, by omega⟩
      have kk : ExB pen H8 H11 := fun b o n hb => b11 _ _ n (e11 _ _ (b10 _ _ n (e9 _ _ hb)))
      have k1 : ∀ b o, b ≠ pen → b ≠ d → H b = some o → H11 b = some o := fun b o n1 n2 hb => kk _ _ n1 (g1 _ _ n1 n2 hb)
      have k2 := kk _ _ ndp g2
      have k3 := kk _ _ npp g3
      have k5 := kk _ _ nxp g5
      show tSeq _ _ _ _ _
      refine st_eq (σ' := [some (.ref pen), some (.ref a), some (.ref d), some (.ref x), some (.str (kt q.1)), some (.int ((left : Nat) : Int)), some (sV sn), some (.int ((part : Nat) : Int))]) rfl ?_
      have esub : ((left : Nat) : Int) - ((part : Nat) : Int) = ((left - part : Nat) : Int) := by omega
      refine q_asg (i := 5) (v := .int ((left - part : Nat) : Int)) (ev_is (ev_op (ev_var rfl) (ev_var rfl) rv_I0) (by rw [esub])) fun H12 e12 => ?_
      refine s_when (b := decide (0 < ((part : Nat) : Int))) (et_test (ev_op (ev_var rfl) ev_c rv_I0)) (fun hb H13 e13 => ?_) fun hb H13 e13 => ?_
      · have hpos : 0 < part := by have := of_decide_eq_true hb; omega
        have e23 := e12.trans e13
        refine ⟨_, rfl, ?_⟩
        refine ⟨_, rfl, ?_⟩
        refine eu_tup (ta := tCons (tVar 4) (tCons (tVar 6) tNil)) (vs := [.str (kt q.1), sV sn]) (ea_cons (ev_var rfl) (ea_cons (ev_var rfl) ea_nil)) (by show 2 ≤ 100000; decide) H13 (Ex.refl _) _ fun tb H14 _ e14 h14 => ?_
        have e24 := e23.trans e14
        have h5 := e24 _ _ k5
        have hnew : ∀ u ∈ Pl2, keyP u ≠ keyP (q.1, sn, part) := fun u hu e => by
          obtain ⟨a1, a2⟩ := keyP_inj e
          rcases (g8 u hu).2 with h | ⟨_, h⟩
          · have nd := (hl.ok.nd)
            have nd2 : ((l.take (i + 1)).map Prod.fst).Nodup := List.Nodup.sublist (List.Sublist.map _ (List.take_sublist _ _)) nd
            rw [tk, List.map_append] at nd2
            exact nodup_snoc nd2 u.1 h a1
          · have nd3 : (ms.take (j + 1)).Nodup := List.Nodup.sublist (List.take_sublist _ _) msn
            rw [tkj] at nd3
            exact nodup_snoc nd3 u.2.1 h a2
        refine ⟨x, _, rfl, .inr ⟨plT Pl2, [kK q.1, kS sn], tb, h5, rfl, h14, sz_lt (by unfold plT; rw [List.length_map]; omega), rfl⟩, ?_⟩
        have hput := plT_new (Pl := Pl2) (t := (q.1, sn, part)) hnew
        have hput : putK (plT Pl2) [kK q.1, kS sn] (.int ((part : Nat) : Int)) = plT (Pl2 ++ [(q.1, sn, part)]) := hput
        rw [hput]
        refine ⟨left - part, by omega, ⟨_, _, rfl⟩, fun b o n1 n2 hb => ?_, ?_, ?_, (((p11.up e24).put nxp nxc).mono (by omega)), Pl2 ++ [(q.1, sn, part)], upd_same, ?_, fun A => ?_, fun t ht => ?_, by rw [List.length_append]; show Pl2.length + 1 ≤ _; omega⟩
        · rw [upd_ne fun z => by rw [z, hx] at hb; cases hb]
          exact e24 _ _ (k1 _ _ n1 n2 hb)
        · rw [upd_ne nxd.symm]; exact e24 _ _ k2
        · rw [upd_ne npx]; exact e24 _ _ k3
        · rw [List.map_append]
          refine List.nodup_append.mpr ⟨g6, by simp, fun a ha b hb2 e => ?_⟩
          obtain ⟨u, hu, rfl⟩ := List.mem_map.mp ha
          rw [List.map_cons, List.map_nil, List.mem_singleton] at hb2
          exact hnew u hu (e.trans hb2)
        · have h1 := g7 A
          have hp : partsIn (Pl2 ++ [(q.1, sn, part)]) A = partsIn Pl2 A + if A sn then ((part : Nat) : Int) else 0 := by
            unfold partsIn
            rw [List.map_append, List.sum_append, List.map_cons, List.map_nil, List.sum_cons, List.sum_nil, Int.add_zero]
          rw [hp]
          by_cases hA : A sn = true
          · have hany : (shows S η q.1).any A = true := List.any_eq_true.mpr ⟨sn, snsh, hA⟩
            rw [if_pos hany] at h1 ⊢
            rw [if_pos hA]
            omega
          · rw [if_neg hA]
            split at h1 <;> rename_i hh
            · rw [if_pos hh]; omega
            · rw [if_neg hh]; omega
        · rcases List.mem_append.mp ht with h | h
          · exact ⟨(g8 t h).1, (g8 t h).2.imp id fun h => ⟨h.1, by rw [tkj]; exact List.mem_append_left _ h.2⟩⟩
          · rw [List.mem_singleton.mp h]
            exact ⟨snS, .inr ⟨rfl, by rw [tkj]; simp⟩⟩
      · have hz : part = 0 := by have := of_decide_eq_false hb; omega
        have e23 := e12.trans e13
        refine ⟨left - part, by omega, ⟨_, _, rfl⟩, fun b o n1 n2 hb => e23 _ _ (k1 _ _ n1 n2 hb), e23 _ _ k2, e23 _ _ k3, (p11.up e23).mono (by omega), Pl2, e23 _ _ k5, g6, fun A => ?_, fun t ht => ⟨(g8 t ht).1, (g8 t ht).2.imp id fun h => ⟨h.1, by rw [tkj]; exact List.mem_append_left _ h.2⟩⟩, by omega⟩
        rw [hz]
        exact g7 A
    · obtain ⟨left, hle, ⟨v6, v7, rfl⟩, g1, g2, g3, g4, Pl2, g5, g6, g7, g8, g9⟩ := c
      refine ⟨⟨_, _, _, _, rfl⟩, g1, g2, g4.mono (by omega), Pl2, g5, g6, fun A => ?_, fun t ht => ⟨(g8 t ht).1, ?_⟩, by omega⟩
      · have hb : bear S η (l.take (i + 1)) A = bear S η (l.take i) A + if (shows S η q.1).any A then ((q.2 : Nat) : Int) else 0 := by
          rw [tk]
          unfold bear
          rw [List.map_append, List.sum_append, List.map_cons, List.map_nil, List.sum_cons, List.sum_nil, Int.add_zero]
        have := g7 A
        rw [hb]
        split at this <;> simp_all <;> omega
      · rw [tk, List.map_append]
        rcases (g8 t ht).2 with h | ⟨h, _⟩
        · exact List.mem_append_left _ h
        · exact List.mem_append_right _ (by rw [h]; simp)
  · obtain ⟨⟨u4, u5, u6, u7, rfl⟩, c1, c2, c3, Pl, c4, c5, c6, c7, c8⟩ := c
    rw [List.take_length] at c6
    refine ⟨c2, ?_⟩
    refine s_ret (ev_var rfl) fun H3 e3 => k x Pl H3 ⟨c5, c6, fun t ht => (c7 t ht).1, by omega⟩ (ExB.ex (fun b o n hb => ?_) e3) (((c3.put ndp ndc).up e3).mono (by omega)) nxp (e3 _ _ (by rw [upd_ne nxd]; exact c4))
    by_cases z : b = d
    · rw [z, hd] at hb
      rw [z, upd_same]
      exact hb
    · rw [upd_ne z]
      exact c1 b o n z hb
end P38

set_option Elab.async false
set_option linter.all false
set_option maxRecDepth 100000
set_option maxHeartbeats 4000000
namespace P38
open PySem PySem.Spec PyProof.Rows L2 Evl LamX NdefX
theorem ew_keysT {σ : L2.St} {H : Hp} {td : TE} {d : Addr} {o : Obj} {kvs : List (List Key × V)} (h : Ev td σ H (.ref d)) (hd : H d = some (.frz o (.dT kvs))) : EvW (iKeys td) σ H kvs.length (fun i H x H' => H' = H ∧ ∃ (k : List Key) (v : V) (q : Addr), kvs[i]? = some (k, v) ∧ x = .ref q ∧ H q = some (.tup (k.map kV))) := fun H1 e R q =>
  h H1 e _ fun H2 e2 => ⟨d, o, rfl, .inr ⟨kvs, e2 _ _ (e _ _ hd), q _ _ H2 e2 walk_keysT fun H3 e3 => e3 _ _ (e2 _ _ (e _ _ hd))⟩⟩
theorem ev_dgetT {σ : L2.St} {H : Hp} {td ty : TE} {v : V} {d b : Addr} {kvs : List (List Key × V)} {k : List Key} (h : Ev td σ H (.ref d)) (hy : Ev ty σ H (.ref b)) (hd : Rd H d (.dT kvs)) (hb : H b = some (.tup (k.map kV))) (hv : valV kvs k = some v) : Ev (tDGet td ty) σ H v := fun H1 e Q q =>
  h H1 e _ fun H2 e2 => hy H2 (e.trans e2) _ fun H3 e3 => ⟨d, v, rfl, .inr ⟨kvs, k, b, ex_rd ((e.trans e2).trans e3) hd, rfl, e3 _ _ (e2 _ _ (e _ _ hb)), hv.symm⟩, q H3 (e2.trans e3)⟩
theorem pl_get {t : (Nat × Nat) × Nat × Nat} : ∀ {Pl : Plan}, (Pl.map keyP).Nodup → t ∈ Pl → valV (plT Pl) (keyP t) = some (.int ((t.2.2 : Nat) : Int))
  | u :: Pl, nd, h => by
    have nd2 := List.nodup_cons.mp (show (keyP u :: Pl.map keyP).Nodup from nd)
    show valV ((keyP u, V.int ((u.2.2 : Nat) : Int)) :: plT Pl) (keyP t) = _
    rcases List.mem_cons.mp h with e | h
    · subst e
      exact valV_pos rfl
    · rw [valV_neg (fun z => nd2.1 (by rw [show keyP u = keyP t from z]; exact List.mem_map_of_mem h))]
      exact pl_get nd2.2 h
theorem need_filter (c : Nat) : ∀ Pl : Plan, needOf Pl c = ((Pl.filter fun t => decide (t.2.1 = c)).map fun t => ((t.2.2 : Nat) : Int)).sum
  | [] => rfl
  | t :: Pl => by
    have ih := need_filter c Pl
    unfold needOf at ih ⊢
    rw [List.map_cons, List.sum_cons, ih, List.filter_cons]
    by_cases e : t.2.1 = c
    · rw [if_pos e, if_pos (decide_eq_true e), List.map_cons, List.sum_cons]
    · rw [if_neg e, if_neg (by rw [decide_eq_false e]; decide)]
      omega
def sp_shown : Sp := fun vs H Q _ => ∃ (a d : Addr) (S : List Nat) (η : Nat → Option Nat) (Pl : Plan), vs = [.ref a, .ref d] ∧ FtAt H a S η ∧ SOk S ∧ H d = some (.dT (plT Pl)) ∧ (Pl.map keyP).Nodup ∧ Pl.length ≤ 100 ∧ ∀ p H', H p = none → Ex H H' → H' p = some (.dK (cnT (needOf Pl) S)) → Q (.ref p) H'
theorem ok__law_shown {P : Program} {w : World} {K : PySem.W.Frag} {mg : Str → Option Value} {base : Heap} (T : Tx K mg) : FnOk P w K mg base CX0 1 (f__law_shown K) (fdOf K (f__law_shown K)) ["_law_font_here", "_law_plan"] (sp_shown) := by
  refine T.d__law_shown.ok sc__law_shown (fun vs H Q E h => by obtain ⟨a, d, S, η, Pl, rfl, hft, hS, hd, hnd, hl, k⟩ := h; rfl) (fun cdv A outer s H vs Q E hr h => ?_)
  obtain ⟨a, d, S, η, Pl, rfl, hft, hS, hd, hnd, hl, k⟩ := h
  refine ⟨_, PSs.nox (pss_one (ps_ret (pe_callTy (call_dictP rfl) (by rfl) (by exact T.z_dict) bt_dict (pa_cons (pe_lc (own := [("_law_sign", 2)]) rfl sc__law_shown.nd (pi_str (pe_ix ix_tup (pv 0) pe_int (fun _ _ => rfl))) (blkOk_by (own := [("_law_sign", 2)]) (N := ["_law_font_here", "_law_plan", "_law_sign", "_law_pair"]) (sc := (defScope s__law_shown)) (by decide +kernel)) (fun _ _ _ _ _ => pg_name (i := 2) sc__law_shown.nd rfl (by first | exact Or.inl rfl | exact Or.inr rfl)) (fun _ _ _ _ _ => pts_nil) (fun _ _ _ _ _ => pe_tup (pa_cons (pv 2) (pa_cons (pe_callB (cr_sumK (K := K) rfl rfl) (by rfl) (by exact T.z_sum) bt_sum (pa_cons (pe_lock (pe_lc (own := [("_law_pair", 3)]) rfl sc__law_shown.nd (pi_keys (pv 1)) (blkOk_by (own := [("_law_pair", 3)]) (N := ["_law_font_here", "_law_plan", "_law_sign", "_law_pair"]) (by rfl)) (fun _ _ _ _ _ => pg_name (i := 3) sc__law_shown.nd rfl (by first | exact Or.inl rfl | exact Or.inr rfl)) (fun _ _ _ _ _ => pts_one (pt_cmpR op_eq (pe_ix (ix_tupK (K := K) rfl) (pv 3) pe_int (fun _ _ => rfl)) (pv 2) (nomark _))) (fun _ _ _ _ _ => pe_dget (by exact hu_of hr) (pv 1) (pv 3) (fun _ _ => rfl)))) pa_nil)) pa_nil)))) pa_nil)))), ?_⟩
  have h6 := hS.most
  have hrows : EvP (tLc (iStr (tOp (rIxT K) (tVar 0) (tC (.int 0)))) (gName 2) tYes (tTup (tCons (tVar 2) (tCons (tCB (rSum K) (tCons (tLockE (tLc (iKeys (tVar 1)) (gName 3) (tTest (tOp rEq (tOp (rIxT K) (tVar 3) (tC (.int 1))) (tVar 2))) (tDGet (tVar 1) (tVar 3)) [3])) tNil)) tNil))) [2]) [some (.ref a), some (.ref d), none, none] H (RowsL (fun c => [kV (kS c), .int (needOf Pl c)]) (S.filter fun _ => true)) := by
    refine el_lcT (L := S) (fun _ => true) _ (ew_sg (ev_f0 hft (ev_var rfl))) rfl (by omega) fun i c x H1 H2 hc e1 y => ?_
    obtain ⟨rfl, hx⟩ := y
    rw [hc] at hx
    obtain rfl : sV c = x := Option.some.inj hx
    refine ⟨_, Ex.refl _, fun Q q => q, rfl, et_yes, fun _ => eu_tup (ea_cons (ev_var rfl) (ea_cons (ev_is (ev_sumN (ns := (Pl.filter fun t => decide (t.2.1 = c)).map fun t => ((t.2.2 : Nat) : Int)) ?_) (by rw [need_filter])) ea_nil)) (by show 2 ≤ 100000; decide)⟩
    have hns : ((Pl.filter fun t => decide (t.2.1 = c)).map fun t => ((t.2.2 : Nat) : Int)).map V.int = (Pl.filter fun t => decide (t.2.1 = c)).map fun t => V.int ((t.2.2 : Nat) : Int) := by rw [List.map_map]; rfl
    rw [hns]
    have hd1 := e1 _ _ hd
    refine el_lock hd1 trivial fun od => ?_
    refine el_lcA (L := Pl) (fun t => decide (t.2.1 = c)) (fun t => V.int ((t.2.2 : Nat) : Int)) (ew_keysT (ev_var rfl) upd_same) (List.length_map ..) (by show (Pl.map _).length ≤ _; rw [List.length_map]; omega) fun j t x H3 H4 ht e3 y => ?_
    obtain ⟨rfl, kk, v, q, hk, rfl, hq⟩ := y
    have hk : (Pl.map fun t => (keyP t, V.int ((t.2.2 : Nat) : Int)))[j]? = some (kk, v) := hk
    rw [List.getElem?_map, ht] at hk
    obtain ⟨rfl, rfl⟩ := Prod.mk.inj (Option.some.inj hk)
    have hq2 : H4 q = some (.tup [V.str (kt t.1), sV t.2.1]) := hq
    refine ⟨_, Ex.refl _, fun Q q => q, rfl, et_is (et_test (ev_op (ev_ix1 (ev_var rfl) (st_of hq2)) (ev_var rfl) (rv_eq rfl))) ?_, fun _ => ev_dgetT (kvs := plT Pl) (k := keyP t) (ev_var rfl) (ev_var rfl) (.inr ⟨_, e3 _ _ upd_same⟩) hq (pl_get hnd (List.mem_of_getElem? ht))⟩
    rw [decide_eq_decide]
    exact ⟨fun z => sg_inj (V.str.inj z), fun z => by rw [z]⟩
  rw [List.filter_eq_self.mpr (fun _ _ => rfl)] at hrows
  have hed := ed_dict (K := K) (key := kS) (val := fun c => .int (needOf Pl c)) (fun _ => rfl) hrows (List.Pairwise.map _ (fun a b n e => n (kS_inj e)) hS.nd)
  exact hed H (Ex.refl _) (fun v H' => Q v H') fun p H1 hp e1 h1 => k p H1 hp e1 h1
end P38

set_option Elab.async false
set_option linter.all false
set_option maxRecDepth 100000
set_option maxHeartbeats 4000000
namespace P38
open PySem PySem.Spec PyProof.Rows L2 Evl LamX NdefX
theorem nd_lamS : (["_law_some", "_law_signs", "_law_sign"] : List Str).Nodup := by decide +kernel
abbrev tV (s : List Nat) : V := .str (tx s)
theorem dp_tup2 {K : PySem.W.Frag} {H : Hp} {a p : Addr} {n : Int} {ns : List Int} (h : SqT K H a [.int n, .ref p]) (hp : SqL K H p (ns.map V.int)) : Dp K H (.ref a) (.tuple [.int n, .list (ns.map PyData.int)]) :=
  .tup h (.cons (.int n) (.cons (.lst hp (dp_ints ns)) .nil))
theorem alike_key (a b : Int) (x y : List Int) : PySem.W.alike (.tuple [.int a, .list (x.map PyData.int)]) (.tuple [.int b, .list (y.map PyData.int)]) = true := by
  have := alike_ints x y
  simp only [PySem.W.alike, PySem.W.alikeAll, Bool.and_true, Bool.true_and] at this ⊢
  exact this
theorem depth_key (a : Int) (x : List Int) : (PyData.tuple [.int a, .list (x.map PyData.int)]).depth ≤ 8 := by
  have h : ∀ a : List Int, PyData.depthAll (a.map PyData.int) ≤ 1 := fun a => by
    induction a with
    | nil => simp [PyData.depthAll]
    | cons x a ih => simp only [List.map_cons, PyData.depthAll, PyData.depth]; omega
  have := h x
  simp only [PyData.depth, PyData.depthAll]
  omega
theorem tup_VL {σ : L2.St} {H : Hp} {ta tb : TE} {x : V} {ys : List V} {Q : VK} (ha : Ev ta σ H x) (hb : EvL tb σ H ys) (q : ∀ t p H', Ex H H' → H' p = some (.lst ys) → H' t = some (.tup [x, .ref p]) → Q (.ref t) H') : tTup (tCons ta (tCons tb tNil)) σ H Q :=
  ha H (Ex.refl _) _ fun H1 e1 => hb H1 e1 _ fun p H2 hp e2 h2 => ⟨by show 2 ≤ sizeLine; decide, fun t ht => q t p _ ((e1.trans e2).trans (Ex.new ht)) ((Ex.new ht) _ _ h2) upd_same⟩
/-- some list, in any order, of all sets -/
def sp_sets (K : PySem.W.Frag) (Tb : List (Addr × Str)) : Sp := fun vs H Q _ => ∃ S, vs = [.str (tx S)] ∧ SOk S ∧ Tabs Tb H ∧
  ∀ (Ls : List (List Nat)) (r : Addr) (H' : Hp), Ls.Perm (subL S) → ExtN H H' → Tabs Tb H' → H' r = some (.lst (Ls.map tV)) → Q (.ref r) H'
theorem sub_len64 {S : List Nat} (h : SOk S) {i : Nat} (hi : i ≤ S.length) : (subL (S.take i)).length ≤ 64 := by
  have := h.most
  rw [subL_len]
  have h1 : (S.take i).length ≤ 6 := by rw [List.length_take]; omega
  exact Nat.pow_le_pow_right (by decide) h1
theorem ok__law_sets {P : Program} {w : World} {K : PySem.W.Frag} {mg : Str → Option Value} {base : Heap} {Tb : List (Addr × Str)} (T : Tx K mg) (hL2 : Lm K base mg Tb "_law_sets" "_law_sets.<locals>.<lambda>" s__law_sets (f__law_sets K)) :
    FnOk P w K mg base CX0 20 (f__law_sets K) (fdOf K (f__law_sets K)) ["_law_signs"] (sp_sets K Tb) := by
  obtain ⟨c, PT, oc, kw0, doc, pm, ct, od, an, osl, lk, hcd, htb, hmT, hu⟩ := hL2
  rw [fdOf_eq lk]
  refine fn_of lk hcd sc__law_sets (fun vs H Q E h => by obtain ⟨S, rfl, _⟩ := h; rfl) fun A outer s H vs Q E hr h => ?_
  obtain ⟨S, rfl, hS, ht, k⟩ := h
  refine ⟨_, PSs.nox (pss_cons (ps_set (i := 1) sc__law_sets.nd rfl (by first | exact Or.inl rfl | exact Or.inr rfl) (pe_lst (pa_cons pe_str pa_nil))) (
pss_cons (ps_for PassesOwn.never rfl (pi_str (pv 0)) (pg_name (i := 2) sc__law_sets.nd rfl (by first | exact Or.inl rfl | exact Or.inr rfl)) (
pss_one (ps_set (i := 1) sc__law_sets.nd rfl (by first | exact Or.inl rfl | exact Or.inr rfl) (pe_op op_cat (pv 1) (pe_lc (own := [("_law_some", 3)]) rfl sc__law_sets.nd (pi_list (pv 1)) (blkOk_by (own := [("_law_some", 3)]) (N := ["_law_signs", "_law_found", "_law_sign", "_law_some"]) (sc := (defScope s__law_sets)) (by decide +kernel)) (fun _ _ _ _ _ => pg_name (i := 3) sc__law_sets.nd rfl (by first | exact Or.inl rfl | exact Or.inr rfl)) (fun _ _ _ _ _ => pts_nil) (fun _ _ _ _ _ => pe_op op_add_str (pv 3) (pv 2))))))) (
pss_one (ps_ret (pe_sortLam (T := Tb) (c := c) (P := PT) (N := ["_law_some", "_law_signs", "_law_sign"]) (fr := ["_law_signs"]) (js := [0]) (k := 10) (by rfl) (pa_cons (pv 1) pa_nil) (by rfl) (by exact T.z_sorted) htb (by rfl) (by exact hmT) (by exact hu) (by rfl) ⟨by rfl, by rfl, by rfl, by decide +kernel, by rfl, by decide +kernel, by decide +kernel, by decide +kernel, by decide +kernel⟩ (fun _ _ _ _ _ _ => by rfl) (by show ∀ y : Str × NameKind, y ∈ _ → y.2 = NameKind.free → List.lookup y.1 (defScope s__law_sets).names = some .cell ∨ List.lookup y.1 (defScope s__law_sets).names = some .free; decide +kernel) (by decide +kernel) (by rfl) (by exact hr.mono (by first | decide | omega)) (fun A outer s H f c2 cl hr2 => pe_tup (pa_cons (pe_callB call_len_str (by rfl) (by exact T.z_len) bt_len (pa_cons (pv 0) pa_nil)) (pa_cons (pe_lc (own := [("_law_sign", 2)]) rfl nd_lamS (pi_str (pv 0)) (blkOk_by (own := [("_law_sign", 2)]) (N := ["_law_some", "_law_signs", "_law_sign"]) (by rfl)) (fun _ _ _ _ _ => pg_name (i := 2) nd_lamS rfl (by first | exact Or.inl rfl | exact Or.inr rfl)) (fun _ _ _ _ _ => pts_nil) (fun _ _ _ _ _ => pe_m1 PySem.F.slot_str_index PySem.F.type_str_index (mt_idx rfl) (pv 1) (pv 2))) pa_nil)))))))), ?_⟩
  have h6 := hS.most
  refine q_asgL (xs := [V.str ""]) (el_lst (ea_cons ev_c ea_nil) (by decide)) fun q0 H1 hq0 e1 h1 => ?_
  let Pv : Nat → L2.St → Hp → Prop := fun i σ' H' => (∃ y u2 u3, σ' = [some (.str (tx S)), some (.ref y), u2, u3] ∧ H' y = some (.lst ((subL (S.take i)).map tV))) ∧ Ex H H'
  have hw := eg_str (σ := [some (.str (tx S)), some (.ref q0), none, none]) (tl := tVar 0) (w := tx S) (H := H1) (ev_var rfl)
  rw [tx_size] at hw
  refine q_for hw Pv (fun H2 e2 => ⟨⟨q0, none, none, rfl, by rw [List.take_zero]; exact e2 _ _ h1⟩, e1.trans e2⟩) (fun i σ' H' _ c => trivial) (fun i y σ' H2 H3 hi c yr => ?_) fun σ' H2 c => ?_
  · obtain ⟨⟨y0, u2, u3, rfl, h2⟩, e2⟩ := c
    obtain ⟨rfl, c, hc, rfl⟩ := yr
    rw [tx_at] at hc
    have tk : S.take (i + 1) = S.take i ++ [c] := by rw [List.take_add_one, hc]; rfl
    have l1 := sub_len64 hS (Nat.le_of_lt hi)
    have hcat : EvL (tOp rCat (tVar 1) (tLc (iList K (tVar 1)) (gName 3) tYes (tOp (fun x y H Q => ∃ i j, x = .str i ∧ y = .str j ∧ i.length + j.length ≤ sizeLine ∧ Q (.str (i ++ j)) H) (tVar 3) (tVar 2)) [3])) [some (.str (tx S)), some (.ref y0), some (sV c), u3] H3 ((subL (S.take i)).map tV ++ (subL (S.take i)).map fun s => tV (s ++ [c])) := by
      refine el_cat h2 (ev_var rfl) (el_lcM (f := tV) (L := subL (S.take i)) (fun s => tV (s ++ [c])) (ew_map (ew_list (ev_var rfl) (sq_of h2))) (by omega) (fun _ => rfl) fun s H4 hs e4 => ?_) (by rw [List.length_map, List.length_map]; omega)
      have ls : s.length ≤ 6 := by
        have := (subL_sub _ s hs).length_le
        rw [List.length_take] at this
        omega
      refine ev_is (ev_op (z := .str (tx s ++ sg c)) (ev_var rfl) (ev_var rfl) fun H5 _ Q q => ⟨_, _, rfl, rfl, ?_, q H5 (Ex.refl _)⟩) ?_
      · have := tx_len s
        show (tx s).length + 1 ≤ sizeLine
        rw [this]
        exact sz_of (by omega)
      · rw [show sg c = tx [c] from rfl, tx_app]
    refine s_asgL hcat fun p H4 hp e4 h4 => ⟨⟨p, _, _, rfl, ?_⟩, e2.trans e4⟩
    rw [h4, tk, subL_snoc, List.map_append, List.map_map]
    rfl
  · obtain ⟨⟨y, u2, u3, rfl, h2⟩, e2⟩ := c
    rw [List.take_length] at h2
    let ks : List Nat → List Int := fun s => s.map fun c => ((S.idxOf c : Nat) : Int)
    let kz := (subL S).map fun s => PyData.tuple [.int ((s.length : Nat) : Int), .list ((ks s).map PyData.int)]
    have hsort := en_sort (K := K) (Tb := Tb) (N := ["_law_some", "_law_signs", "_law_sign"]) (js := [0]) (te := tVar 1) (tb := tTup (tCons (tCB (fun xs H Q => ∃ z, xs = [.str z] ∧ z.length ≤ sizeLine ∧ Q (.int z.length) H) (tCons (tVar 0) tNil)) (tCons (tLc (iStr (tVar 0)) (gName 2) tYes (tM1 rIdx (tVar 1) (tVar 2)) [2]) tNil))) (σ := [some (.str (tx S)), some (.ref y), u2, u3]) (kz := kz) (ev_var rfl) (.inl (sq_of h2))
      (by rw [List.length_map, List.length_map]) (fun d1 h1 d2 h2 => by
        obtain ⟨q1, _, rfl⟩ := List.mem_map.mp h1
        obtain ⟨q2, _, rfl⟩ := List.mem_map.mp h2
        exact alike_key _ _ _ _) (.inl fun d1 h1 => by
        obtain ⟨q1, _, rfl⟩ := List.mem_map.mp h1
        exact ⟨_, _, rfl⟩) (fun d1 h1 => by
        obtain ⟨q1, _, rfl⟩ := List.mem_map.mp h1
        exact depth_key _ _) fun i x d1 H3 hx hd1 e3 => ?_
    · refine hsort H2 (Ex.refl _) (ht.ext e2) (fun v H' => Q v H') fun v H3 e3 t3 r => ?_
      obtain ⟨ys, a, rfl, hp, h3⟩ := r
      obtain ⟨Ls, hLs, rfl⟩ := perm_map hp
      exact k Ls a H3 hLs ((ExtN.of e2).trans e3) t3 h3
    · rw [List.getElem?_map] at hx
      cases hq : (subL S)[i]? with
      | none => rw [hq] at hx; cases hx
      | some s =>
        have hd1 : ((subL S).map fun s => PyData.tuple [.int ((s.length : Nat) : Int), .list ((ks s).map PyData.int)])[i]? = some d1 := hd1
        rw [List.getElem?_map, hq] at hd1
        rw [hq] at hx
        obtain rfl := Option.some.inj hx
        obtain rfl := Option.some.inj hd1
        have hsub := subL_sub S s (List.mem_of_getElem? hq)
        have ls : s.length ≤ 6 := Nat.le_trans hsub.length_le h6
        have hlen : Ev (tCB (fun xs H Q => ∃ z, xs = [V.str z] ∧ z.length ≤ sizeLine ∧ Q (V.int z.length) H) (tCons (tVar 0) tNil)) [some (tV s), some (.str (tx S)), none] H3 (.int ((s.length : Nat) : Int)) := ev_is (ev_cb (ea_cons (ev_var rfl) ea_nil) (rc_lenS (w := tx s) (by rw [tx_len]; exact sz_of (by omega)))) (by rw [tx_len])
        have hls : EvL (tLc (iStr (tVar 0)) (gName 2) tYes (tM1 rIdx (tVar 1) (tVar 2)) [2]) [some (tV s), some (.str (tx S)), none] H3 (s.map fun c => V.int ((S.idxOf c : Nat) : Int)) :=
          el_lcM (f := sV) (L := s) (fun c => V.int ((S.idxOf c : Nat) : Int)) (ew_sg (ev_var rfl)) (by omega) (fun _ => rfl) fun c H5 hc e5 => ev_index hS.nd (hsub.subset hc) (ev_var rfl) (ev_var rfl)
        refine tup_VL (σ := [some (tV s), some (.str (tx S)), none]) hlen hls fun t p H4 e4 hp ht => ⟨e4, dp_tup2 (st_of ht) (sq_of ?_)⟩
        rw [hp, List.map_map]
        rfl
end P38

set_option Elab.async false
set_option linter.all false
set_option maxRecDepth 100000
set_option maxHeartbeats 4000000
namespace P38
open PySem PySem.Spec PyProof.Rows L2 Evl LamX NdefX
/-- tuples made while a dict is locked -/
theorem ep_lock {α : Type} {te : TE} {σ : L2.St} {H : Hp} {d : Addr} {u : HO} {row : α → List V} {L : List α} (hd : H d = some u) (mu : Mut (some u)) (h : ∀ od, EvP te σ (upd H d (.frz od u)) (RowsL row L)) : EvP (tLockE te) σ H (RowsL row L) := fun H1 e Q q => by
  refine ⟨d, u, e _ _ hd, mu, fun od => ?_⟩
  have e1 : Ex (upd H d (.frz od u)) (upd H1 d (.frz od u)) := fun b o hb => by
    by_cases c : b = d
    · rw [c, upd_same] at hb ⊢
      exact hb
    · rw [upd_ne c] at hb ⊢
      exact e b o hb
  refine h od _ e1 _ fun v H2 e2 r => ?_
  obtain ⟨p, ts, rfl, hp, ht⟩ := r
  have hf : H2 d = some (.frz od u) := e2 _ _ upd_same
  have npd : p ≠ d := fun z => by
    rw [z, hf] at hp
    cases hp
  refine ⟨hf, q _ _ (fun b o hb => ?_) ⟨p, ts, rfl, by rw [upd_ne npd]; exact hp, paired_mono (fun t a z => ?_) ht⟩⟩
  · by_cases c : b = d
    · rw [c] at hb ⊢
      rw [upd_same, ← hb]
      exact (e _ _ hd).symm
    · rw [upd_ne c]
      exact e2 b o (by rw [upd_ne c]; exact hb)
  · have z : H2 t = some (.tup (row a)) := z
    show upd H2 d u t = some (.tup (row a))
    rw [upd_ne fun c => by rw [c, hf] at z; cases z]
    exact z
theorem q_parPD {D : Ends} {tz : TS} {ta tb : TE} {σ : L2.St} {H : Hp} {i j : Nat} {P : V → Hp → Prop} {kvs : List (Key × V)} (ha : EvP ta σ H P) (hP : ∀ v H1 H2, Ex H1 H2 → P v H1 → P v H2) (hb : EvD tb σ H kvs)
    (k : ∀ v q H1, H q = none → Ex H H1 → P v H1 → H1 q = some (.dK kvs) → tz D ((σ.set i (some v)).set j (some (.ref q))) H1) : tSeq (tPar i j (tCons ta (tCons tb tNil))) tz D σ H :=
  ha H (Ex.refl _) _ fun v H1 e1 p1 => hb H1 e1 _ fun q H2 hq e2 h2 => ⟨v, .ref q, rfl, k v q H2 (fresh_back e1 hq) (e1.trans e2) (hP _ _ _ e2 p1) h2⟩
theorem tabs_keepF {Tb : List (Addr × Str)} {H H' : Hp} {fd : Addr} {kvs : List (Key × V)} (t : Tabs Tb H) (hf : H fd = some (.dK kvs)) (b : ∀ a o, a ≠ fd → H a = some o → H' a = some o) : Tabs Tb H' := fun p hpt => by
  obtain ⟨ps, h1, h2, h3⟩ := t p hpt
  refine ⟨ps, b _ _ (fun z => by rw [z, hf] at h1; cases h1) h1, h2, fun pos cv hc => ?_⟩
  obtain ⟨c, e1, e2⟩ := h3 pos cv hc
  exact ⟨c, e1, b _ _ (fun z => by rw [z, hf] at e2; cases e2) e2⟩
abbrev kT (s : List Nat) : Key := Sum.inr (tx s)
theorem kT_inj {s t : List Nat} (h : kT s = kT t) : s = t := tx_inj (Sum.inr.inj h)
def rowG (S : List Nat) (η : Nat → Option Nat) (q : (Nat × Nat) × Nat) : List V := [.str (tx (shows S η q.1)), .int ((q.2 : Nat) : Int)]
def gapT (S : List Nat) (η : Nat → Option Nat) (l : Stock) (need : Nat → Int) (Ls : List (List Nat)) : List (Key × V) := tab kT (fun s => .int (- slk S η l need (inL s))) Ls
theorem rv_inTx {c : Nat} {s : List Nat} {H : Hp} : RV (fun x y H Q => ∃ (c : Nat) (z : Str), x = .str ⟨#[c]⟩ ∧ y = .str z ∧ Q (.bl (decide (c ∈ z.cps.toList))) H) (sV c) (.str (tx s)) H (.bl (decide (c ∈ s))) := fun H1 e Q q => ⟨c, _, rfl, rfl, q H1 (Ex.refl _)⟩
def sp_gaps (K : PySem.W.Frag) (Tb : List (Addr × Str)) : Sp := fun vs H Q _ => ∃ (a d n : Addr) (S : List Nat) (η : Nat → Option Nat) (l : Stock) (need : Nat → Int), vs = [.ref a, .ref d, .ref n] ∧ FtAt H a S η ∧ (∀ hd, H a = some (.tup [.str (tx S), .ref hd]) → hd ≠ d) ∧ SOk S ∧ (∀ c ∈ S, c ∈ LT) ∧ StOk S l ∧ H d = some (.dK (stT l)) ∧ H n = some (.dK (cnT need S)) ∧ Tabs Tb H ∧
  ∀ (Ls : List (List Nat)) (p : Addr) (H' : Hp), Ls.Perm (subL S) → ExtN H H' → Tabs Tb H' → H p = none → H' p = some (.dK (gapT S η l need Ls)) → Q (.ref p) H'
theorem ok__law_gaps {P : Program} {w : World} {K : PySem.W.Frag} {mg : Str → Option Value} {base : Heap} {Tb : List (Addr × Str)} (T : Tx K mg) (hL2 : Lm K base mg Tb "_law_sets" "_law_sets.<locals>.<lambda>" s__law_sets (f__law_sets K)) :
    FnOk P w K mg base CX0 21 (f__law_gaps K) (fdOf K (f__law_gaps K)) ["_law_font_here", "_law_stock_here", "_law_need"] (sp_gaps K Tb) := by
  refine T.d__law_gaps.ok sc__law_gaps (fun vs H Q E h => by obtain ⟨a, d, n, S, η, l, need, rfl, _⟩ := h; rfl) (fun cdv A outer s H vs Q E0_ hr h => ?_)
  obtain ⟨a, d, n, S, η, l, need, rfl, hft, hnd, hS, hSm, hl, hd, hn, ht, k⟩ := h
  refine ⟨_, PSs.nox (pss_cons (ps_par (i := 3) (j := 4) (by rfl) sc__law_gaps.nd rfl rfl (by decide) rfl rfl (pa_cons (pe_lock (pe_lc (own := [("_law_kind", 7)]) rfl sc__law_gaps.nd (pi_keys (pv 1)) (blkOk_by (own := [("_law_kind", 7)]) (N := ["_law_font_here", "_law_stock_here", "_law_need", "_law_shows_here", "_law_found", "_law_some", "_law_have", "_law_kind", "_law_shown_here", "_law_many", "_law_sign"]) (sc := (defScope s__law_gaps)) (by decide +kernel)) (fun _ _ _ _ _ => pg_name (i := 7) sc__law_gaps.nd rfl (by first | exact Or.inl rfl | exact Or.inr rfl)) (fun _ _ _ _ _ => pts_nil) (fun _ _ _ _ _ => pe_tup (pa_cons (pe_call (ok__law_shows T) (by exact hr.mono (by first | decide | omega)) (by rfl) (by exact T.m__law_shows) (by exact T.d__law_shows.kp) (bn__law_shows T) .nil pass0 (pa_cons (pv 0) (pa_cons (pv 7) pa_nil))) (pa_cons (pe_dget (by exact hu_of hr) (pv 1) (pv 7) (fun _ _ => rfl)) pa_nil))))) (pa_cons pe_dnewK pa_nil)) (by rfl)) (
pss_cons (ps_for PassesOwn.never rfl (pi_list (pe_call (ok__law_sets T hL2) (by exact hr.mono (by first | decide | omega)) (by rfl) (by exact T.m__law_sets) (by exact T.d__law_sets.kp) (bn__law_sets T) .nil pass0 (pa_cons (pe_ix ix_tup (pv 0) pe_int (fun _ _ => rfl)) pa_nil))) (pg_name (i := 5) sc__law_gaps.nd rfl (by first | exact Or.inl rfl | exact Or.inr rfl)) (
pss_cons (ps_set (i := 6) sc__law_gaps.nd rfl (by first | exact Or.inl rfl | exact Or.inr rfl) (pe_callB (cr_sum rfl) (by rfl) (by exact T.z_sum) bt_sum (pa_cons (pe_lc (own := [("_law_shown_here", 8), ("_law_many", 9)]) rfl sc__law_gaps.nd (pi_list (pv 3)) (blkOk_by (own := [("_law_shown_here", 8), ("_law_many", 9)]) (N := ["_law_font_here", "_law_stock_here", "_law_need", "_law_shows_here", "_law_found", "_law_some", "_law_have", "_law_kind", "_law_shown_here", "_law_many", "_law_sign"]) (sc := (defScope s__law_gaps)) (by decide +kernel)) (fun _ _ _ _ _ => pg_tupK (K := K) rfl (n := 2) (by rfl) (pgs_cons (pg_name (i := 8) sc__law_gaps.nd rfl (by first | exact Or.inl rfl | exact Or.inr rfl)) (pgs_cons (pg_name (i := 9) sc__law_gaps.nd rfl (by first | exact Or.inl rfl | exact Or.inr rfl)) pgs_nil))) (fun _ _ _ _ _ => pts_one (pt_cmpR (op_neDK (K := K) rfl (by exact hr.units)) (pe_lc (own := [("_law_sign", 10)]) rfl sc__law_gaps.nd (pi_str (pv 8)) (blkOk_by (own := [("_law_sign", 10)]) (N := ["_law_font_here", "_law_stock_here", "_law_need", "_law_shows_here", "_law_found", "_law_some", "_law_have", "_law_kind", "_law_shown_here", "_law_many", "_law_sign"]) (by rfl)) (fun _ _ _ _ _ => pg_name (i := 10) sc__law_gaps.nd rfl (by first | exact Or.inl rfl | exact Or.inr rfl)) (fun _ _ _ _ _ => pts_one (pt_cmpR op_in_sign (pv 10) (pv 5) rfl)) (fun _ _ _ _ _ => pv 10)) (pe_lst pa_nil) (nomark _))) (fun _ _ _ _ _ => pv 9)) pa_nil))) (
pss_one (ps_dput (by exact hu_of hr) (pv 4) (pv 5) (pe_op op_sub (pe_callB (cr_sum rfl) (by rfl) (by exact T.z_sum) bt_sum (pa_cons (pe_lc (own := [("_law_sign", 10)]) rfl sc__law_gaps.nd (pi_str (pv 5)) (blkOk_by (own := [("_law_sign", 10)]) (N := ["_law_font_here", "_law_stock_here", "_law_need", "_law_shows_here", "_law_found", "_law_some", "_law_have", "_law_kind", "_law_shown_here", "_law_many", "_law_sign"]) (sc := (defScope s__law_gaps)) (by decide +kernel)) (fun _ _ _ _ _ => pg_name (i := 10) sc__law_gaps.nd rfl (by first | exact Or.inl rfl | exact Or.inr rfl)) (fun _ _ _ _ _ => pts_nil) (fun _ _ _ _ _ => pe_dget (by exact hu_of hr) (pv 2) (pv 10) (fun _ _ => rfl))) pa_nil)) (pv 6)) rfl)))) (
pss_one (ps_ret (pv 4))))), ?_⟩
  have h6 := hS.most
  have l30 := hl.len
  refine st_eq (σ' := [some (.ref a), some (.ref d), some (.ref n), none, none, none, none, none, none, none, none]) rfl ?_
  refine q_parPD (P := RowsL (rowG S η) (l.filter fun _ => true)) (ep_lock hd trivial fun od => ?_) (fun v H1 H2 e r => r.up e) ed_new fun v fd H1 hfd e1 hv hfd1 => ?_
  · obtain ⟨hdd, hkv, f1, f2, f3⟩ := id hft.ex
    have nh := hnd hdd f1
    have nad : a ≠ d := fun z => by rw [z, hd] at f1; cases f1
    have hftG : FtAt (upd H d (.frz od (.dK (stT l)))) a S η := ⟨hdd, hkv, by rw [upd_ne nad]; exact f1, by rw [upd_ne nh]; exact f2, f3⟩
    have hw := ew_keys (td := tVar 1) (σ := [some (.ref a), some (.ref d), some (.ref n), none, none, none, none, none, none, none, none]) (H := upd H d (.frz od (.dK (stT l)))) (kvs := stT l) (ev_var rfl) upd_same
    refine el_lcT (L := l) (fun _ => true) _ hw tab_len (by rw [show (stT l).length = l.length from tab_len]; omega) fun i q x H2 H3 hq e2 y => ?_
    obtain ⟨rfl, kk, vv, hk, rfl⟩ := y
    have hk : (l.map fun q : (Nat × Nat) × Nat => (kK q.1, V.int ((q.2 : Nat) : Int)))[i]? = some (kk, vv) := hk
    rw [List.getElem?_map, hq] at hk
    obtain ⟨rfl, rfl⟩ := Prod.mk.inj (Option.some.inj hk)
    exact ⟨_, Ex.refl _, fun Q q => q, rfl, et_yes, fun _ => eu_tup (ea_cons (ev_call (ea_cons (ev_var rfl) (ea_cons (ev_var rfl) ea_nil)) (v_shows (hftG.up e2) hS)) (ea_cons (ev_dget (k := kK q.1) (ev_var rfl) (ev_var rfl) (.inr ⟨_, e2 _ _ upd_same⟩) (hl.get (List.mem_of_getElem? hq))) ea_nil)) (by show 2 ≤ 100000; decide)⟩
  · rw [List.filter_eq_self.mpr (fun _ _ => rfl)] at hv
    obtain ⟨sh, ts, rfl, hsh, hts⟩ := hv
    refine st_eq (σ' := [some (.ref a), some (.ref d), some (.ref n), some (.ref sh), some (.ref fd), none, none, none, none, none, none]) rfl ?_
    refine for_of ?_
    refine ea_cons (ta := tOp (rIxT K) (tVar 0) (tC (.int 0))) (x := .str (tx S)) (ev_f0 (hft.up e1) (ev_var rfl)) ea_nil H1 (Ex.refl _) (fun vs H1 => sp_sets K Tb (vs ++ []) H1 _ E0) fun H2 e2 => ?_
    refine ⟨S, rfl, hS, (ht.ext e1).ext e2, fun Ls r H3 hLs e3 t3 h3 => ?_⟩
    have hll : Ls.length ≤ 64 := by rw [hLs.length_eq, subL_len]; exact two_pow6 h6
    have hLd : Ls.Nodup := hLs.nodup_iff.mpr (subL_nd S hS.nd)
    have e03 : ExtN H H3 := ((ExtN.of e1).trans (ExtN.of e2)).trans e3
    have e13 : ExtN H1 H3 := (ExtN.of e2).trans e3
    have fd3 : H3 fd = some (.dK []) := e13 _ _ hfd1 (fun _ => nofun)
    have sh3 := e13 _ _ hsh (fun _ => nofun)
    have ts3 : RowsAt H3 (rowG S η) ts l := paired_mono (fun t q z => e13 _ _ z fun _ z2 => by cases z2) hts
    have n3 := e03 _ _ hn (fun _ => nofun)
    have nnf : n ≠ fd := fun z => by rw [z, hfd] at hn; cases hn
    have nsf : sh ≠ fd := fun z => by rw [z, hfd1] at hsh; cases hsh
    have nrf : r ≠ fd := fun z => by rw [z, fd3] at h3; cases h3
    let PO : Nat → L2.St → Hp → Prop := fun i σ' H' => (∃ u5 u6, σ' = [some (.ref a), some (.ref d), some (.ref n), some (.ref sh), some (.ref fd), u5, u6, none, none, none, none]) ∧ (∀ b o, b ≠ fd → H3 b = some o → H' b = some o) ∧ H' fd = some (.dK (gapT S η l need (Ls.take i)))
    have hw := eg_list (K := K) (tl := tC (.ref r)) (σ := [some (.ref a), some (.ref d), some (.ref n), some (.ref sh), some (.ref fd), none, none, none, none, none, none]) (H := H3) (a := r) (xs := Ls.map tV) ev_c (sq_of h3)
    rw [List.length_map] at hw
    refine s_for hw PO (fun H4 e4 => ⟨⟨_, _, rfl⟩, fun b o _ hb => e4 _ _ hb, by rw [List.take_zero]; exact e4 _ _ fd3⟩) (fun i σ' H' _ c => sq_of (c.2.1 _ _ nrf h3)) (fun i y σ' H4 H5 hi c yr => ?_) fun σ' H4 c => ?_
    · obtain ⟨⟨u5, u6, rfl⟩, c1, c2⟩ := c
      obtain ⟨rfl, hy⟩ := yr
      obtain ⟨sn, hsn⟩ : ∃ sn, Ls[i]? = some sn := ⟨_, List.getElem?_eq_getElem hi⟩
      rw [List.getElem?_map, hsn] at hy
      obtain rfl : tV sn = y := Option.some.inj hy
      have hsub := subL_sub S sn (hLs.mem_iff.mp (List.mem_of_getElem? hsn))
      have lsn : sn.length ≤ 6 := Nat.le_trans hsub.length_le h6
      have tk : Ls.take (i + 1) = Ls.take i ++ [sn] := by rw [List.take_add_one, hsn]; rfl
      refine gn_eq (σ' := [some (.ref a), some (.ref d), some (.ref n), some (.ref sh), some (.ref fd), some (tV sn), u6, none, none, none, none]) rfl ?_
      have g1 := c1 _ _ nsf sh3
      have g2 : RowsAt H5 (rowG S η) ts l := paired_mono (fun t q z => c1 _ _ (fun e => by
        have z : H3 t = some (.tup (rowG S η q)) := z
        rw [e, fd3] at z; cases z) z) ts3
      refine q_asg (v := .int (bear S η l (inL sn))) (ev_is (ev_sumN (ns := (l.filter fun q => (shows S η q.1).any (inL sn)).map fun q => ((q.2 : Nat) : Int)) ?_) (by rw [bear_filter])) fun H5 e5 => ?_
      · have hm : ((l.filter fun q => (shows S η q.1).any (inL sn)).map fun q => ((q.2 : Nat) : Int)).map V.int = (l.filter fun q => (shows S η q.1).any (inL sn)).map fun q => V.int ((q.2 : Nat) : Int) := by rw [List.map_map]; rfl
        rw [hm]
        refine el_lcA (L := l) (fun q => (shows S η q.1).any (inL sn)) (fun q => V.int ((q.2 : Nat) : Int)) (ew_rowsL (row := rowG S η) (ep_of (ev_var rfl) fun H6 e6 => ⟨sh, ts, rfl, e6 _ _ g1, g2.up e6⟩)) rfl (by omega) fun j q x H6 H7 hq e6 y => ?_
        obtain ⟨rfl, t, q', rfl, hq', ht'⟩ := y
        obtain rfl : q = q' := Option.some.inj (hq.symm.trans hq')
        have lsh : (shows S η q.1).length ≤ 6 := Nat.le_trans shows_len h6
        refine ⟨[some (.ref a), some (.ref d), some (.ref n), some (.ref sh), some (.ref fd), some (tV sn), u6, none, some (.str (tx (shows S η q.1))), some (.int ((q.2 : Nat) : Int)), none], Ex.refl _, fun Q q => ⟨t, _, rfl, st_of ht', rfl, _, _, rfl, _, _, rfl, rfl, q⟩, rfl, ?_, fun _ => ev_var rfl⟩
        refine et_is (et_test (ev_opLL (xs := ((shows S η q.1).filter fun c => decide (c ∈ sn)).map sV) (ys := []) (el_lcN (f := sV) (L := shows S η q.1) (fun c => decide (c ∈ sn)) sV (ew_sg (ev_var rfl)) (by omega) (fun _ => rfl) fun c H8 hc e8 => ⟨et_test (ev_op (ev_var rfl) (ev_var rfl) rv_inTx), fun _ => ev_var rfl⟩) (el_lst ea_nil (by decide)) fun p0 q0 H8 hp0 hq0 e8 => rv_neNil (sq_of hp0) hq0 fun y hy => ?_)) ?_
        · obtain ⟨c, hc, rfl⟩ := List.mem_map.mp hy
          exact item_sg (LT_ok c (hSm c (shows_mem (List.mem_filter.mp hc).1))).1
        · rw [← any_filter]
          cases (shows S η q.1).filter fun c => decide (c ∈ sn) <;> rfl
      · refine st_eq (σ' := [some (.ref a), some (.ref d), some (.ref n), some (.ref sh), some (.ref fd), some (tV sn), some (.int (bear S η l (inL sn))), none, none, none, none]) rfl ?_
        have c2' := e5 _ _ c2
        have n5 := e5 _ _ (c1 _ _ nnf n3)
        refine s_dput (k := kT sn) (v := .int (- slk S η l need (inL sn))) (kvs := gapT S η l need (Ls.take i)) (ev_is (ev_op (ev_sumN (ns := sn.map need) ?_) (ev_var rfl) rv_I0) ?_) (ev_var rfl) (ev_var rfl) c2' (by unfold gapT; rw [tab_len, List.length_take]; omega) fun H6 e6 => ⟨⟨_, _, rfl⟩, fun b o nb hb => ?_, ?_⟩
        · have hm : (sn.map need).map V.int = sn.map fun c => V.int (need c) := by rw [List.map_map]; rfl
          rw [hm]
          exact el_lcM (f := sV) (L := sn) (fun c => V.int (need c)) (ew_sg (ev_var rfl)) (by omega) (fun _ => rfl) fun c H6 hc e6 => ev_dget (k := kS c) (ev_var rfl) (ev_var rfl) (.inl (e6 _ _ n5)) (nd_get (hsub.subset hc))
        · rw [← want_sub (need := need) hS.nd hsub]
          unfold slk
          congr 1
          omega
        · rw [upd_ne nb]
          exact e6 _ _ (e5 _ _ (c1 _ _ nb hb))
        · rw [upd_same, tk]
          unfold gapT
          rw [tab_snoc fun t htm e => ?_]
          have hnd2 : (Ls.take (i + 1)).Nodup := List.Nodup.sublist (List.take_sublist _ _) hLd
          rw [tk] at hnd2
          exact nodup_snoc hnd2 t htm (kT_inj e)
    · obtain ⟨⟨u5, u6, rfl⟩, c1, c2⟩ := c
      rw [List.take_length] at c2
      have e34 : ∀ b o, b ≠ fd → H3 b = some o → H4 b = some o := c1
      refine s_ret (ev_var rfl) fun H5 e5 => k Ls fd H5 hLs (fun b o hb nt => e5 _ _ (c1 _ _ (fun z => by rw [z, hfd] at hb; cases hb) (e03 _ _ hb nt))) ((tabs_keepF t3 fd3 c1).ext e5) hfd (e5 _ _ c2)
end P38

set_option Elab.async false
set_option linter.all false
set_option maxRecDepth 100000
set_option maxHeartbeats 4000000
namespace P38
open PySem PySem.Spec PyProof.Rows L2 Evl LamX NdefX
theorem sets_all {S : List Nat} {Ls : List (List Nat)} {P : (Nat → Bool) → Prop} (hP : ∀ A B, (∀ c ∈ S, A c = B c) → P A → P B) (hLs : Ls.Perm (subL S)) : (∀ s ∈ Ls, P (inL s)) ↔ ∀ A, P A :=
  ⟨fun h A => hP _ _ mem_filter_congr (h _ (hLs.mem_iff.mpr (subL_filter A S))), fun h s _ => h _⟩
theorem put_map {κ : Type} [DecidableEq κ] {α : Type} {key : α → κ} {val : α → V} {v : V} {k : κ} {l : List α} (h : ∃ a ∈ l, key a = k) : putK (l.map fun a => (key a, val a)) k v = l.map fun a => (key a, if key a = k then v else val a) := by
  unfold putK
  rw [if_pos]
  · rw [List.map_map]
    refine List.map_congr_left fun a _ => ?_
    show (if key a = k then (key a, v) else (key a, val a)) = _
    split <;> rfl
  · obtain ⟨a, ha, e⟩ := h
    rw [List.any_map, List.any_eq_true]
    exact ⟨a, ha, decide_eq_true e⟩
theorem stT_set {l : Stock} {q : (Nat × Nat) × Nat} (hq : q ∈ l) (n : Nat) : putK (stT l) (kK q.1) (.int ((n : Nat) : Int)) = stT (setC l q.1 n) := by
  have h := put_map (key := fun q : (Nat × Nat) × Nat => kK q.1) (val := fun q => V.int ((q.2 : Nat) : Int)) (v := V.int ((n : Nat) : Int)) (k := kK q.1) (l := l) ⟨q, hq, rfl⟩
  refine Eq.trans h ?_
  unfold stT tab setC
  rw [List.map_map]
  refine List.map_congr_left fun p _ => ?_
  by_cases e : p.1 = q.1
  · show (kK p.1, if kK p.1 = kK q.1 then V.int ((n : Nat) : Int) else V.int ((p.2 : Nat) : Int)) = (kK (if p.1 = q.1 then (p.1, n) else p).1, V.int (((if p.1 = q.1 then (p.1, n) else p).2 : Nat) : Int))
    rw [if_pos e, if_pos (by rw [e])]
  · show (kK p.1, if kK p.1 = kK q.1 then V.int ((n : Nat) : Int) else V.int ((p.2 : Nat) : Int)) = (kK (if p.1 = q.1 then (p.1, n) else p).1, V.int (((if p.1 = q.1 then (p.1, n) else p).2 : Nat) : Int))
    rw [if_neg e, if_neg fun z => e (kK_inj z)]
theorem cnT_set {S : List Nat} {need : Nat → Int} {s : Nat} (hs : s ∈ S) (n : Int) : putK (cnT need S) (kS s) (.int (need s - n)) = cnT (subN need s n) S := by
  have h := put_map (key := kS) (val := fun c => V.int (need c)) (v := V.int (need s - n)) (k := kS s) (l := S) ⟨s, hs, rfl⟩
  refine Eq.trans h ?_
  unfold cnT tab
  refine List.map_congr_left fun c _ => ?_
  show (kS c, if kS c = kS s then V.int (need s - n) else V.int (need c)) = (kS c, V.int (if c = s then need c - n else need c))
  by_cases e : c = s
  · rw [e, if_pos rfl, if_pos rfl]
  · rw [if_neg e, if_neg fun z => e (kS_inj z)]
theorem setC_fst (l : Stock) (k : Nat × Nat) (n : Nat) : (setC l k n).map Prod.fst = l.map Prod.fst := by
  unfold setC
  rw [List.map_map]
  refine List.map_congr_left fun p _ => ?_
  show (if p.1 = k then (p.1, n) else p).1 = p.1
  split <;> rfl
theorem StOk.setC {S : List Nat} {l : Stock} (h : StOk S l) (k : Nat × Nat) {n : Nat} (hn : n ≤ 2 ^ 100) : StOk S (setC l k n) := by
  have hm : ∀ p ∈ P38.setC l k n, ∃ p' ∈ l, p.1 = p'.1 ∧ (p.2 = n ∨ p.2 = p'.2) := fun p hp => by
    obtain ⟨p', hp', rfl⟩ := List.mem_map.mp hp
    refine ⟨p', hp', ?_⟩
    by_cases e : p'.1 = k
    · rw [if_pos e]; exact ⟨rfl, .inl rfl⟩
    · rw [if_neg e]; exact ⟨rfl, .inr rfl⟩
  refine ⟨fun p hp => ?_, by rw [setC_fst]; exact h.nd, by unfold P38.setC; rw [List.length_map]; exact h.len, fun p hp => ?_⟩
  · obtain ⟨p', hp', e, _⟩ := hm p hp
    rw [e]
    exact h.kinds p' hp'
  · obtain ⟨p', hp', _, e | e⟩ := hm p hp
    · rw [e]; exact hn
    · rw [e]; exact h.big p' hp'
theorem FtAt.upN {H H' : Hp} {a : Addr} {S : List Nat} {η : Nat → Option Nat} (f : FtAt H a S η) (e : ExtN H H') : FtAt H' a S η := by
  obtain ⟨hd, kvs, h1, h2, h3⟩ := f.ex
  exact ⟨hd, kvs, e _ _ h1 (fun _ => nofun), e _ _ h2 (fun _ => nofun), h3⟩
theorem ed_copy {te : TE} {σ : L2.St} {H : Hp} {d : Addr} {kvs : List (Key × V)} (h : Ev te σ H (.ref d)) (hd : H d = some (.dK kvs)) : EvD (tCB rDcopy (tCons te tNil)) σ H kvs := fun H1 e Q q =>
  h H1 e _ fun H2 e2 => ⟨d, kvs, rfl, .inl (e2 _ _ (e _ _ hd)), fun p hp => q p _ (fresh_back e2 hp) (e2.trans (Ex.new hp)) upd_same⟩
theorem EvD.mono {te : TE} {σ : L2.St} {H H' : Hp} {kvs : List (Key × V)} (h : EvD te σ H kvs) (e : Ex H H') : EvD te σ H' kvs := fun H1 a Q q => h H1 (e.trans a) Q q
theorem q_parDD {D : Ends} {tz : TS} {ta tb : TE} {σ : L2.St} {H : Hp} {i j : Nat} {k1 k2 : List (Key × V)} (ha : EvD ta σ H k1) (hb : EvD tb σ H k2)
    (k : ∀ p q H1, H p = none → H q = none → q ≠ p → Ex H H1 → H1 p = some (.dK k1) → H1 q = some (.dK k2) → tz D ((σ.set i (some (.ref p))).set j (some (.ref q))) H1) : tSeq (tPar i j (tCons ta (tCons tb tNil))) tz D σ H :=
  ha H (Ex.refl _) _ fun p H1 hp e1 h1 => hb H1 e1 _ fun q H2 hq e2 h2 => ⟨.ref p, .ref q, rfl, k p q H2 hp (fresh_back e1 hq) (fun z => by rw [z, h1] at hq; cases hq) (e1.trans e2) (e2 _ _ h1) h2⟩
/-- what the law's own tests are given -/
structure LArgs (H : Hp) (Tb : List (Addr × Str)) (a d n : Addr) (S : List Nat) (η : Nat → Option Nat) (l : Stock) (need : Nat → Int) : Prop where
  ft : FtAt H a S η
  ne : ∀ hd, H a = some (.tup [.str (tx S), .ref hd]) → hd ≠ d
  ok : SOk S
  lt : ∀ c ∈ S, c ∈ LT
  st : StOk S l
  hd : H d = some (.dK (stT l))
  hn : H n = some (.dK (cnT need S))
  tb : Tabs Tb H
def sp_rest (K : PySem.W.Frag) (Tb : List (Addr × Str)) : Sp := fun vs H Q _ => ∃ (a d n : Addr) (S : List Nat) (η : Nat → Option Nat) (l : Stock) (need : Nat → Int) (q : (Nat × Nat) × Nat) (s m : Nat), vs = [.ref a, .ref d, .ref n, .str (kt q.1), sV s, .int ((m : Nat) : Int)] ∧ LArgs H Tb a d n S η l need ∧ q ∈ l ∧ s ∈ S ∧
  ∀ (z : Bool) (H' : Hp), (z = true ↔ m ≤ q.2 ∧ ((m : Nat) : Int) ≤ need s ∧ ∀ A, 0 ≤ slk S η (setC l q.1 (q.2 - m)) (subN need s ((m : Nat) : Int)) A) → ExtN H H' → Tabs Tb H' → Q (.bl z) H'
theorem ok__law_rest_hangs {P : Program} {w : World} {K : PySem.W.Frag} {mg : Str → Option Value} {base : Heap} {Tb : List (Addr × Str)} (T : Tx K mg) (hL2 : Lm K base mg Tb "_law_sets" "_law_sets.<locals>.<lambda>" s__law_sets (f__law_sets K)) :
    FnOk P w K mg base CX0 22 (f__law_rest_hangs K) (fdOf K (f__law_rest_hangs K)) ["_law_font_here", "_law_stock_here", "_law_need", "_law_kind", "_law_sign", "_law_number"] (sp_rest K Tb) := by
  refine T.d__law_rest_hangs.ok sc__law_rest_hangs (fun vs H Q E h => by obtain ⟨a, d, n, S, η, l, need, q, s, m, rfl, _⟩ := h; rfl) (fun cdv A outer s_ H vs Q E0_ hr h => ?_)
  obtain ⟨a, d, n, S, η, l, need, q, s, m, rfl, ha, hq, hs, k⟩ := h
  refine ⟨_, PSs.nox (pss_cons (ps_if (PW.pt (pw_or (pt_cmpR op_gt (pv 5) (pe_dget (by exact hu_of hr) (pv 1) (pv 3) (fun _ _ => rfl)) (nomark _)) (pw_or1 (pt_cmpR op_gt (pv 5) (pe_dget (by exact hu_of hr) (pv 2) (pv 4) (fun _ _ => rfl)) (nomark _))))) (pss_one (ps_ret pe_bl)) pss_nil) (
pss_cons (ps_par (i := 6) (j := 7) (by rfl) sc__law_rest_hangs.nd rfl rfl (by decide) rfl rfl (pa_cons (pe_callTy call_dcopy (by rfl) (by exact T.z_dict) bt_dict (pa_cons (pv 1) pa_nil)) (pa_cons (pe_callTy call_dcopy (by rfl) (by exact T.z_dict) bt_dict (pa_cons (pv 2) pa_nil)) pa_nil)) (by rfl)) (
pss_cons (ps_dput (by exact hu_of hr) (pv 6) (pv 3) (pe_op op_sub (pe_dget (by exact hu_of hr) (pv 6) (pv 3) (fun _ _ => rfl)) (pv 5)) rfl) (
pss_cons (ps_dput (by exact hu_of hr) (pv 7) (pv 4) (pe_op op_sub (pe_dget (by exact hu_of hr) (pv 7) (pv 4) (fun _ _ => rfl)) (pv 5)) rfl) (
pss_one (ps_ret (pe_cmpR op_le (pe_callB (cr_max rfl) (by rfl) (by exact T.z_max) bt_max (pa_cons (pe_listVals rfl (pe_call (ok__law_gaps T hL2) (by exact hr.mono (by first | decide | omega)) (by rfl) (by exact T.m__law_gaps) (by exact T.d__law_gaps.kp) (bn__law_gaps T) .nil pass0 (pa_cons (pv 0) (pa_cons (pv 6) (pa_cons (pv 7) pa_nil)))) (by rfl) (by exact T.z_list)) pa_nil)) pe_int (nomark _)))))))), ?_⟩
  refine st_eq (σ' := [some (.ref a), some (.ref d), some (.ref n), some (.str (kt q.1)), some (sV s), some (.int ((m : Nat) : Int)), none, none]) rfl ?_
  have hd := ha.hd
  have hn := ha.hn
  have h6 := ha.ok.most
  refine q_when (b := decide (((q.2 : Nat) : Int) < ((m : Nat) : Int)) || decide (need s < ((m : Nat) : Int))) (et_or (et_test (ev_op (ev_var rfl) (ev_dget (k := kK q.1) (ev_var rfl) (ev_var rfl) (.inl hd) (ha.st.get hq)) rv_I0)) fun _ => et_test (ev_op (ev_var rfl) (ev_dget (k := kS s) (ev_var rfl) (ev_var rfl) (.inl hn) (nd_get hs)) rv_I0)) (fun hb H1 e1 => ?_) fun hb H1 e1 => ?_
  · refine s_ret ev_c fun H2 e2 => k false H2 ⟨fun z => (by cases z), fun z => ?_⟩ (ExtN.of (e1.trans e2)) (ha.tb.ext (e1.trans e2))
    rw [Bool.or_eq_true] at hb
    rcases hb with hb | hb
    · have := of_decide_eq_true hb
      have := z.1
      omega
    · have := of_decide_eq_true hb
      have := z.2.1
      omega
  · rw [Bool.or_eq_false_iff] at hb
    have hm1 : m ≤ q.2 := by have := of_decide_eq_false hb.1; omega
    have hm2 : ((m : Nat) : Int) ≤ need s := by have := of_decide_eq_false hb.2; omega
    refine q_parDD (k1 := stT l) (k2 := cnT need S) (ed_copy (ev_var rfl) (e1 _ _ hd)) (ed_copy (ev_var rfl) (e1 _ _ hn)) fun p r H2 hp hr2 nrp e2 p2 r2 => ?_
    refine st_eq (σ' := [some (.ref a), some (.ref d), some (.ref n), some (.str (kt q.1)), some (sV s), some (.int ((m : Nat) : Int)), some (.ref p), some (.ref r)]) rfl ?_
    have p0 : H p = none := fresh_back e1 hp
    have r0 : H r = none := fresh_back e1 hr2
    have e02 : Ex H H2 := e1.trans e2
    refine q_dput (k := kK q.1) (v := .int (((q.2 - m : Nat)) : Int)) (kvs := stT l) (ev_is (ev_op (ev_dget (k := kK q.1) (ev_var rfl) (ev_var rfl) (.inl p2) (ha.st.get hq)) (ev_var rfl) rv_I0) (by congr 1; omega)) (ev_var rfl) (ev_var rfl) p2 (by rw [show (stT l).length = l.length from tab_len]; have := ha.st.len; omega) fun H3 e3 => ?_
    rw [stT_set hq]
    have k3 : ∀ b o, b ≠ p → H2 b = some o → (upd H3 p (.dK (stT (setC l q.1 (q.2 - m))))) b = some o := fun b o nb hb => by rw [upd_ne nb]; exact e3 _ _ hb
    have p3 : (upd H3 p (.dK (stT (setC l q.1 (q.2 - m))))) p = some (.dK (stT (setC l q.1 (q.2 - m)))) := upd_same
    generalize upd H3 p (.dK (stT (setC l q.1 (q.2 - m)))) = G1 at k3 p3
    have r3 := k3 _ _ nrp r2
    refine q_dput (k := kS s) (v := .int (need s - ((m : Nat) : Int))) (kvs := cnT need S) (ev_op (ev_dget (k := kS s) (ev_var rfl) (ev_var rfl) (.inl r3) (nd_get hs)) (ev_var rfl) rv_I0) (ev_var rfl) (ev_var rfl) r3 (by unfold cnT; rw [tab_len]; omega) fun H4 e4 => ?_
    rw [cnT_set hs]
    have k4 : ∀ b o, b ≠ r → G1 b = some o → (upd H4 r (.dK (cnT (subN need s ((m : Nat) : Int)) S))) b = some o := fun b o nb hb => by rw [upd_ne nb]; exact e4 _ _ hb
    have r4 : (upd H4 r (.dK (cnT (subN need s ((m : Nat) : Int)) S))) r = some (.dK (cnT (subN need s ((m : Nat) : Int)) S)) := upd_same
    generalize upd H4 r (.dK (cnT (subN need s ((m : Nat) : Int)) S)) = G2 at k4 r4
    have p4 := k4 _ _ nrp.symm p3
    have e0G : Ex H G2 := fun b o hb => k4 _ _ (fun z => by rw [z, r0] at hb; cases hb) (k3 _ _ (fun z => by rw [z, p0] at hb; cases hb) (e02 _ _ hb))
    refine ea_cons (ta := tVar 0) (x := .ref a) (ev_var rfl) (ea_cons (x := .ref p) (ta := tVar 6) (ev_var rfl) (ea_cons (x := .ref r) (ta := tVar 7) (ev_var rfl) ea_nil)) G2 (Ex.refl _) (fun vs H1 => sp_gaps K Tb (vs ++ []) H1 _ E0) fun H5 e5 => ?_
    have e05 := e0G.trans e5
    refine ⟨a, p, r, S, η, setC l q.1 (q.2 - m), subN need s ((m : Nat) : Int), rfl, ha.ft.up e05, fun hdd f1 z => ?_, ha.ok, ha.lt, ha.st.setC _ (by have := ha.st.big q hq; omega), e5 _ _ p4, e5 _ _ r4, ha.tb.ext e05, fun Ls g H6 hLs e6 t6 hg h6g => ?_⟩
    · obtain ⟨hd2, kvs, f2, f3, _⟩ := ha.ft.ex
      have := (e05 _ _ f2).symm.trans f1
      obtain rfl : hd2 = hdd := by
        have e := HO.tup.inj (Option.some.inj this)
        exact V.ref.inj (List.cons.inj (List.cons.inj e).2).1
      rw [z, p0] at f3
      cases f3
    · refine ⟨g, _, rfl, .inl h6g, fun pl hpl => ?_⟩
      have hmap : (gapT S η (setC l q.1 (q.2 - m)) (subN need s ((m : Nat) : Int)) Ls).map Prod.snd = (Ls.map fun t => - slk S η (setC l q.1 (q.2 - m)) (subN need s ((m : Nat) : Int)) (inL t)).map V.int := by
        unfold gapT tab
        rw [List.map_map, List.map_map]
        rfl
      have hlen : 0 < (Ls.map fun t => - slk S η (setC l q.1 (q.2 - m)) (subN need s ((m : Nat) : Int)) (inL t)).length := by
        rw [List.length_map, hLs.length_eq, subL_len]
        exact Nat.two_pow_pos _
      refine ⟨pl, _, rfl, sq_of (by rw [upd_same, hmap]), hlen, fun mx hmx hy => ?_⟩
      refine ⟨_, _, rfl, rfl, ?_⟩
      have e7 : Ex H6 (upd H6 pl (.lst ((gapT S η (setC l q.1 (q.2 - m)) (subN need s ((m : Nat) : Int)) Ls).map Prod.snd))) := Ex.new hpl
      refine k (decide (mx ≤ 0)) _ ?_ (((ExtN.of e05).trans e6).trans (ExtN.of e7)) (t6.ext e7)
      rw [decide_eq_true_iff]
      have hall := sets_all (P := fun A => 0 ≤ slk S η (setC l q.1 (q.2 - m)) (subN need s ((m : Nat) : Int)) A) (fun A B e h => by rw [← slk_congr e]; exact h) hLs
      rw [← hall]
      constructor
      · intro h
        refine ⟨hm1, hm2, fun t ht => ?_⟩
        have := hy _ (List.mem_map.mpr ⟨t, ht, rfl⟩)
        omega
      · rintro ⟨_, _, h⟩
        obtain ⟨t, ht, e⟩ := List.mem_map.mp hmx
        have := h t ht
        omega
end P38

set_option Elab.async false
set_option linter.all false
set_option maxRecDepth 100000
set_option maxHeartbeats 4000000
namespace P38
open PySem PySem.Spec PyProof.Rows L2 Evl LamX NdefX
theorem rv_eqNil {K : PySem.W.Frag} {H : Hp} {a b : Addr} {xs : List V} (ha : SqL K H a xs) (hb : H b = some (.lst [])) (hi : ∀ x ∈ xs, ItemAt H x) : RV (rEqD K) (.ref a) (.ref b) H (.bl xs.isEmpty) := fun H1 e Q q => by
  obtain ⟨ds, h1, h2, h3, h4⟩ := items_dp (K := K) (H := H1) (xs := xs) fun x hx => by
    rcases hi x hx with h | h | ⟨t, a, b, h, ht, hs⟩
    · exact .inl h
    · exact .inr (.inl h)
    · exact .inr (.inr ⟨t, a, b, h, e _ _ ht, hs⟩)
  refine ⟨.list ds, .list [], .lst (ex_l e ha) h1, .lst (sq_of (e _ _ hb)) .nil, ?_, rfl, ?_⟩
  · unfold SeqAt.shaped
    rw [Bool.and_eq_true]
    exact ⟨by simp only [PyData.canLay0, h2], decide_eq_true (by simp only [PyData.depth]; omega)⟩
  · have : PyData.eqv (.list ds) (.list []) = xs.isEmpty := by
      rw [← h4]
      cases ds <;> simp [PyData.eqv, PyData.eqvAll]
    rw [this]
    exact q H1 (Ex.refl _)
theorem q_tupDV {K : PySem.W.Frag} {σ : L2.St} {H : Hp} {ta tb : TE} {D : Ends} {tz : TS} {i j : Nat} {x : V} {kvs : List (Key × V)} (ha : EvD ta σ H kvs) (hb : Ev tb σ H x) (k : ∀ q H1, H q = none → Ex H H1 → H1 q = some (.dK kvs) → tz D ((σ.set i (some (.ref q))).set j (some x)) H1) :
    tSeq (tAsg (tTup (tCons ta (tCons tb tNil))) (gTup K 2 (gCons (gName i) (gCons (gName j) gNil)))) tz D σ H :=
  ha H (Ex.refl _) _ fun q H1 hq e1 h1 => hb H1 e1 _ fun H2 e2 => ⟨by show 2 ≤ sizeLine; decide, fun p hp => ⟨p, _, rfl, st_of upd_same, rfl, _, _, rfl, _, _, rfl, rfl, k q _ hq ((e1.trans e2).trans (Ex.new hp)) ((Ex.new hp) _ _ (e2 _ _ h1))⟩⟩
theorem oth_congr {S : List Nat} {η : Nat → Option Nat} {k : Nat × Nat} {s : Nat} {A B : Nat → Bool} (h : ∀ c ∈ S, A c = B c) : oth S η k s A = oth S η k s B := by
  unfold oth
  rw [Bool.eq_iff_iff, List.any_eq_true, List.any_eq_true]
  constructor
  · rintro ⟨c, hc, e⟩; exact ⟨c, hc, by rw [← h c (shows_mem (List.mem_filter.mp hc).1)]; exact e⟩
  · rintro ⟨c, hc, e⟩; exact ⟨c, hc, by rw [h c (shows_mem (List.mem_filter.mp hc).1)]; exact e⟩
theorem oth_filter {S s' : List Nat} {η : Nat → Option Nat} {k : Nat × Nat} {s : Nat} : (!(((shows S η k).filter fun c => decide (c ≠ s)).filter fun c => decide (c ∈ s')).isEmpty) = oth S η k s (inL s') := any_filter
theorem ev_intB {te : TE} {σ : L2.St} {H : Hp} {b : Bool} (h : Ev te σ H (.bl b)) : Ev (tCB (fun xs H Q => (∃ i, xs = [.int i] ∧ Q (.int i) H) ∨ ∃ k, xs = [.bl k] ∧ Q (.int (if k then 1 else 0)) H) (tCons te tNil)) σ H (.int (if b then 1 else 0)) := ev_cb (ea_cons h ea_nil) fun H1 _ Q q => .inr ⟨b, rfl, q H1 (Ex.refl _)⟩
theorem gap_get {S : List Nat} {η : Nat → Option Nat} {l : Stock} {need : Nat → Int} {Ls : List (List Nat)} {s : List Nat} (h : s ∈ Ls) : valV (gapT S η l need Ls) (kT s) = some (.int (- slk S η l need (inL s))) :=
  tab_get (key := kT) (val := fun s => .int (- slk S η l need (inL s))) h fun b hb e => by rw [kT_inj e]
def sp_barred (K : PySem.W.Frag) (Tb : List (Addr × Str)) : Sp := fun vs H Q _ => ∃ (a d n : Addr) (S : List Nat) (η : Nat → Option Nat) (l : Stock) (need : Nat → Int) (q : (Nat × Nat) × Nat) (s m : Nat), vs = [.ref a, .ref d, .ref n, .str (kt q.1), sV s, .int ((m : Nat) : Int)] ∧ LArgs H Tb a d n S η l need ∧ q ∈ l ∧ s ∈ S ∧ m ≤ q.2 ∧
  ∀ (z : Bool) (H' : Hp), (z = true ↔ ∀ A, - slk S η (setC l q.1 m) need A ≤ (((q.2 : Nat) : Int) - ((m : Nat) : Int)) * (if oth S η q.1 s A then 1 else 0)) → ExtN H H' → Tabs Tb H' → Q (.bl z) H'
theorem ok__law_hangs_barred {P : Program} {w : World} {K : PySem.W.Frag} {mg : Str → Option Value} {base : Heap} {Tb : List (Addr × Str)} (T : Tx K mg) (hL2 : Lm K base mg Tb "_law_sets" "_law_sets.<locals>.<lambda>" s__law_sets (f__law_sets K)) :
    FnOk P w K mg base CX0 22 (f__law_hangs_barred K) (fdOf K (f__law_hangs_barred K)) ["_law_font_here", "_law_stock_here", "_law_need", "_law_kind", "_law_sign", "_law_number"] (sp_barred K Tb) := by
  refine T.d__law_hangs_barred.ok sc__law_hangs_barred (fun vs H Q E h => by obtain ⟨a, d, n, S, η, l, need, q, s, m, rfl, _⟩ := h; rfl) (fun cdv A outer s_ H vs Q E0_ hr h => ?_)
  obtain ⟨a, d, n, S, η, l, need, q, s, m, rfl, ha, hq, hs, hmq, k⟩ := h
  refine ⟨_, PSs.nox (pss_cons (ps_asg (pe_tup (pa_cons (pe_callTy call_dcopy (by rfl) (by exact T.z_dict) bt_dict (pa_cons (pv 1) pa_nil)) (pa_cons (pe_op op_sub (pe_dget (by exact hu_of hr) (pv 1) (pv 3) (fun _ _ => rfl)) (pv 5)) pa_nil))) (pg_tup (n := 2) (by rfl) (pgs_cons (pg_name (i := 6) sc__law_hangs_barred.nd rfl (by first | exact Or.inl rfl | exact Or.inr rfl)) (pgs_cons (pg_name (i := 7) sc__law_hangs_barred.nd rfl (by first | exact Or.inl rfl | exact Or.inr rfl)) pgs_nil)))) (
pss_cons (ps_dput (by exact hu_of hr) (pv 6) (pv 3) (pv 5) rfl) (
pss_cons (ps_set (i := 8) sc__law_hangs_barred.nd rfl (by first | exact Or.inl rfl | exact Or.inr rfl) (pe_call (ok__law_gaps T hL2) (by exact hr.mono (by first | decide | omega)) (by rfl) (by exact T.m__law_gaps) (by exact T.d__law_gaps.kp) (bn__law_gaps T) .nil pass0 (pa_cons (pv 0) (pa_cons (pv 6) (pa_cons (pv 2) pa_nil))))) (
pss_cons (ps_set (i := 9) sc__law_hangs_barred.nd rfl (by first | exact Or.inl rfl | exact Or.inr rfl) (pe_lc (own := [("_law_one", 10)]) rfl sc__law_hangs_barred.nd (pi_str (pe_call (ok__law_shows T) (by exact hr.mono (by first | decide | omega)) (by rfl) (by exact T.m__law_shows) (by exact T.d__law_shows.kp) (bn__law_shows T) .nil pass0 (pa_cons (pv 0) (pa_cons (pv 3) pa_nil)))) (blkOk_by (own := [("_law_one", 10)]) (N := ["_law_font_here", "_law_stock_here", "_law_need", "_law_kind", "_law_sign", "_law_number", "_law_rest", "_law_barred", "_law_gaps_here", "_law_others", "_law_one", "_law_some"]) (sc := (defScope s__law_hangs_barred)) (by decide +kernel)) (fun _ _ _ _ _ => pg_name (i := 10) sc__law_hangs_barred.nd rfl (by first | exact Or.inl rfl | exact Or.inr rfl)) (fun _ _ _ _ _ => pts_one (pt_cmpR op_ne (pv 10) (pv 4) (nomark _))) (fun _ _ _ _ _ => pv 10))) (
pss_one (ps_ret (pe_cmpR (op_eqD (by exact hr.units)) (pe_lock (pe_lc (own := [("_law_some", 11)]) rfl sc__law_hangs_barred.nd (pi_keys (pv 8)) (blkOk_by (own := [("_law_some", 11)]) (N := ["_law_font_here", "_law_stock_here", "_law_need", "_law_kind", "_law_sign", "_law_number", "_law_rest", "_law_barred", "_law_gaps_here", "_law_others", "_law_one", "_law_some"]) (sc := (defScope s__law_hangs_barred)) (by decide +kernel)) (fun _ _ _ _ _ => pg_name (i := 11) sc__law_hangs_barred.nd rfl (by first | exact Or.inl rfl | exact Or.inr rfl)) (fun _ _ _ _ _ => pts_one (pt_cmpR op_gt (pe_dget (by exact hu_of hr) (pv 8) (pv 11) (fun _ _ => rfl)) (pe_op op_mulW (pv 7) (pe_callTy call_int1 (by rfl) (by exact T.z_int) bt_int (pa_cons (pe_cmpR (op_neDK (K := K) rfl (by exact hr.units)) (pe_lc (own := [("_law_one", 10)]) rfl sc__law_hangs_barred.nd (pi_listK (K := K) rfl (pv 9)) (blkOk_by (own := [("_law_one", 10)]) (N := ["_law_font_here", "_law_stock_here", "_law_need", "_law_kind", "_law_sign", "_law_number", "_law_rest", "_law_barred", "_law_gaps_here", "_law_others", "_law_one", "_law_some"]) (by rfl)) (fun _ _ _ _ _ => pg_name (i := 10) sc__law_hangs_barred.nd rfl (by first | exact Or.inl rfl | exact Or.inr rfl)) (fun _ _ _ _ _ => pts_one (pt_cmpR op_in_sign (pv 10) (pv 11) rfl)) (fun _ _ _ _ _ => pv 10)) (pe_lst pa_nil) (nomark _)) pa_nil))) (nomark _))) (fun _ _ _ _ _ => pv 11))) (pe_lst pa_nil) (nomark _)))))))), ?_⟩
  refine st_eq (σ' := [some (.ref a), some (.ref d), some (.ref n), some (.str (kt q.1)), some (sV s), some (.int ((m : Nat) : Int)), none, none, none, none, none, none]) rfl ?_
  have hd := ha.hd
  have hn := ha.hn
  have h6 := ha.ok.most
  have lsh : (shows S η q.1).length ≤ 6 := Nat.le_trans shows_len h6
  refine q_tupDV (kvs := stT l) (x := .int (((q.2 : Nat) : Int) - ((m : Nat) : Int))) (ed_copy (ev_var rfl) hd) (ev_op (ev_dget (k := kK q.1) (ev_var rfl) (ev_var rfl) (.inl hd) (ha.st.get hq)) (ev_var rfl) rv_I0) fun p H1 p0 e1 p1 => ?_
  refine st_eq (σ' := [some (.ref a), some (.ref d), some (.ref n), some (.str (kt q.1)), some (sV s), some (.int ((m : Nat) : Int)), some (.ref p), some (.int (((q.2 : Nat) : Int) - ((m : Nat) : Int))), none, none, none, none]) rfl ?_
  refine q_dput (k := kK q.1) (v := .int ((m : Nat) : Int)) (kvs := stT l) (ev_var rfl) (ev_var rfl) (ev_var rfl) p1 (by rw [show (stT l).length = l.length from tab_len]; have := ha.st.len; omega) fun H2 e2 => ?_
  rw [stT_set hq]
  have e0G : Ex H (upd H2 p (.dK (stT (setC l q.1 m)))) := fun b o hb => by
    rw [upd_ne fun z => by rw [z, p0] at hb; cases hb]
    exact e2 _ _ (e1 _ _ hb)
  have p2 : (upd H2 p (.dK (stT (setC l q.1 m)))) p = some (.dK (stT (setC l q.1 m))) := upd_same
  generalize upd H2 p (.dK (stT (setC l q.1 m))) = G at e0G p2
  refine q_raw ?_
  refine ea_cons (ta := tVar 0) (x := .ref a) (ev_var rfl) (ea_cons (x := .ref p) (ta := tVar 6) (ev_var rfl) (ea_cons (x := .ref n) (ta := tVar 2) (ev_var rfl) ea_nil)) G (Ex.refl _) (fun vs H1 => sp_gaps K Tb (vs ++ []) H1 _ E0) fun H5 e5 => ?_
  have e05 := e0G.trans e5
  refine ⟨a, p, n, S, η, setC l q.1 m, need, rfl, ha.ft.up e05, fun hdd f1 z => ?_, ha.ok, ha.lt, ha.st.setC _ (by have := ha.st.big q hq; omega), e5 _ _ p2, e05 _ _ hn, ha.tb.ext e05, fun Ls g H6 hLs e6 t6 hg h6g => ?_⟩
  · obtain ⟨hd2, kvs, f2, f3, _⟩ := ha.ft.ex
    have := (e05 _ _ f2).symm.trans f1
    obtain rfl : hd2 = hdd := by
      have e := HO.tup.inj (Option.some.inj this)
      exact V.ref.inj (List.cons.inj (List.cons.inj e).2).1
    rw [z, p0] at f3
    cases f3
  · refine st_eq (σ' := [some (.ref a), some (.ref d), some (.ref n), some (.str (kt q.1)), some (sV s), some (.int ((m : Nat) : Int)), some (.ref p), some (.int (((q.2 : Nat) : Int) - ((m : Nat) : Int))), some (.ref g), none, none, none]) rfl ?_
    have hft6 := (ha.ft.up e05).upN e6
    have e06 : ExtN H H6 := (ExtN.of e05).trans e6
    refine q_asgL (xs := ((shows S η q.1).filter fun c => decide (c ≠ s)).map sV) (el_lcN (f := sV) (L := shows S η q.1) (fun c => decide (c ≠ s)) sV (ew_sg (ev_call (ea_cons (ev_var rfl) (ea_cons (ev_var rfl) ea_nil)) (v_shows hft6 ha.ok))) (by omega) (fun _ => rfl) fun c H7 hc e7 => ⟨?_, fun _ => ev_var rfl⟩) fun po H7 hpo e7 h7 => ?_
    · refine et_is (et_test (ev_op (ev_var rfl) (ev_var rfl) (rv_ne rfl))) ?_
      by_cases e : c = s
      · rw [e, decide_eq_true rfl]; simp
      · rw [decide_eq_false fun z => e (sg_inj (V.str.inj z)), decide_eq_true e]; rfl
    · refine st_eq (σ' := [some (.ref a), some (.ref d), some (.ref n), some (.str (kt q.1)), some (sV s), some (.int ((m : Nat) : Int)), some (.ref p), some (.int (((q.2 : Nat) : Int) - ((m : Nat) : Int))), some (.ref g), some (.ref po), none, none]) rfl ?_
      have g7 := e7 _ _ h6g
      have hll : Ls.length ≤ 64 := by rw [hLs.length_eq, subL_len]; exact two_pow6 h6
      let pr : List Nat → Bool := fun t => decide ((((q.2 : Nat) : Int) - ((m : Nat) : Int)) * (if oth S η q.1 s (inL t) then 1 else 0) < - slk S η (setC l q.1 m) need (inL t))
      refine s_ret (v := .bl ((Ls.filter pr).map tV).isEmpty) (ev_opLL (xs := (Ls.filter pr).map tV) (ys := []) (el_lock g7 trivial fun od => ?_) (el_lst ea_nil (by decide)) fun p0 q0 H8 hp0 hq0 e8 => rv_eqNil (sq_of hp0) hq0 fun y hy => ?_) fun H8 e8 => k _ H8 ?_ ((e06.trans (ExtN.of e7)).trans (ExtN.of e8)) ((t6.ext e7).ext e8)
      · have npo : po ≠ g := fun z => by rw [z, h6g] at hpo; cases hpo
        have hw := ew_keys (td := tVar 8) (σ := [some (.ref a), some (.ref d), some (.ref n), some (.str (kt q.1)), some (sV s), some (.int ((m : Nat) : Int)), some (.ref p), some (.int (((q.2 : Nat) : Int) - ((m : Nat) : Int))), some (.ref g), some (.ref po), none, none]) (H := upd H7 g (.frz od (.dK (gapT S η (setC l q.1 m) need Ls)))) (kvs := gapT S η (setC l q.1 m) need Ls) (ev_var rfl) upd_same
        refine el_lcA (L := Ls) pr tV hw tab_len (by rw [show (gapT S η (setC l q.1 m) need Ls).length = Ls.length from tab_len]; omega) fun i t x H8 H9 ht e8 y => ?_
        obtain ⟨rfl, kk, vv, hk, rfl⟩ := y
        have hk : (Ls.map fun t => (kT t, V.int (- slk S η (setC l q.1 m) need (inL t))))[i]? = some (kk, vv) := hk
        rw [List.getElem?_map, ht] at hk
        obtain ⟨rfl, rfl⟩ := Prod.mk.inj (Option.some.inj hk)
        have htm := List.mem_of_getElem? ht
        have h9 : H9 po = some (.lst (((shows S η q.1).filter fun c => decide (c ≠ s)).map sV)) := e8 _ _ (by rw [upd_ne npo]; exact h7)
        refine ⟨_, Ex.refl _, fun Q q => q, rfl, et_test (ev_op (ev_dget (k := kT t) (ev_var rfl) (ev_var rfl) (.inr ⟨_, e8 _ _ upd_same⟩) (gap_get htm)) (ev_op (x := .int (((q.2 : Nat) : Int) - ((m : Nat) : Int))) (ev_var rfl) (ev_intB (b := oth S η q.1 s (inL t)) (ev_is (ev_opLL (xs := (((shows S η q.1).filter fun c => decide (c ≠ s)).filter fun c => decide (c ∈ t)).map sV) (ys := []) (el_lcN (f := sV) (L := (shows S η q.1).filter fun c => decide (c ≠ s)) (fun c => decide (c ∈ t)) sV (ew_map (ew_list (ev_var rfl) (sq_of h9))) ?_ (fun _ => rfl) fun c H10 hc e10 => ⟨et_test (ev_op (ev_var rfl) (ev_var rfl) rv_inTx), fun _ => ev_var rfl⟩) (el_lst ea_nil (by decide)) fun p0 q0 H10 hp0 hq0 e10 => rv_neNil (sq_of hp0) hq0 fun y hy => ?_) ?_)) (rv_I ?_)) rv_I0), fun _ => ev_var rfl⟩
        · have := List.length_filter_le (fun c => decide (c ≠ s)) (shows S η q.1)
          omega
        · obtain ⟨c, hc, rfl⟩ := List.mem_map.mp hy
          exact item_sg (LT_ok c (ha.lt c (shows_mem (List.mem_filter.mp (List.mem_filter.mp hc).1).1))).1
        · rw [← oth_filter]
          cases ((shows S η q.1).filter fun c => decide (c ≠ s)).filter fun c => decide (c ∈ t) <;> rfl
        · have hb := ha.st.big q hq
          have : (((q.2 : Nat) : Int) - ((m : Nat) : Int)).natAbs < 2 ^ 101 := by
            have h2 : (2 : Nat) ^ 101 = 2 * 2 ^ 100 := by decide
            omega
          exact mul_ok this (by split <;> decide) (by decide) (by decide)
      · obtain ⟨t, ht, rfl⟩ := List.mem_map.mp hy
        have hsub := subL_sub S t (hLs.mem_iff.mp (List.mem_filter.mp ht).1)
        exact .inr (.inl ⟨_, rfl, strOk_tx fun c hc => (LT_ok c (ha.lt c (hsub.subset hc))).1⟩)
      · have hall := sets_all (P := fun A => - slk S η (setC l q.1 m) need A ≤ (((q.2 : Nat) : Int) - ((m : Nat) : Int)) * (if oth S η q.1 s A then 1 else 0)) (fun A B e h => by rw [← slk_congr e, ← oth_congr e]; exact h) hLs
        rw [← hall, List.isEmpty_iff, List.map_eq_nil_iff, List.filter_eq_nil_iff]
        constructor
        · intro h t ht
          have := h t ht
          have := of_decide_eq_false (Bool.not_eq_true _ |>.mp this)
          omega
        · intro h t ht z
          have := h t ht
          have := of_decide_eq_true z
          omega
end P38

set_option Elab.async false
set_option linter.all false
set_option maxRecDepth 100000
set_option maxHeartbeats 4000000
namespace P38
open PySem PySem.Spec PyProof.Rows L2 Evl LamX NdefX
theorem CaseAt.upN {K : PySem.W.Frag} {H H' : Hp} {c f : Addr} {S : List Nat} {η : Nat → Option Nat} {l : Stock} (h : CaseAt K H c f S η l) (e : ExtN H H') : CaseAt K H' c f S η l := by
  obtain ⟨⟨dx, st, h1, h2⟩, h3⟩ := h
  exact ⟨⟨dx, st, e _ _ h1 (fun _ => nofun), e _ _ h2 (fun _ => nofun)⟩, h3.upN e⟩
theorem WantsAt.upN {K : PySem.W.Frag} {H H' : Hp} {w f : Addr} {S : List Nat} {η : Nat → Option Nat} {need : Nat → Int} (h : WantsAt K H w f S η need) (e : ExtN H H') : WantsAt K H' w f S η need := by
  obtain ⟨⟨dx, st, h1, h2⟩, h3⟩ := h
  exact ⟨⟨dx, st, e _ _ h1 (fun _ => nofun), e _ _ h2 (fun _ => nofun)⟩, h3.upN e⟩
theorem ft_ne {H H' : Hp} {a : Addr} {S : List Nat} {η : Nat → Option Nat} {P : Addr → Prop} (f : FtAt H a S η) (h : ∀ hd, H a = some (.tup [.str (tx S), .ref hd]) → P hd) (e : ∀ hd, H a = some (.tup [.str (tx S), .ref hd]) → H' a = some (.tup [.str (tx S), .ref hd])) : ∀ hd, H' a = some (.tup [.str (tx S), .ref hd]) → P hd := fun hd h2 => by
  obtain ⟨hd2, kvs, f1, _⟩ := f.ex
  have h3 := (e _ f1).symm.trans h2
  obtain rfl : hd2 = hd := V.ref.inj (List.cons.inj (List.cons.inj (HO.tup.inj (Option.some.inj h3))).2).1
  exact h _ f1
theorem LArgs.upN {H H' : Hp} {Tb : List (Addr × Str)} {a d n : Addr} {S : List Nat} {η : Nat → Option Nat} {l : Stock} {need : Nat → Int} (h : LArgs H Tb a d n S η l need) (e : ExtN H H') (t : Tabs Tb H') : LArgs H' Tb a d n S η l need :=
  ⟨h.ft.upN e, ft_ne h.ft h.ne fun hd h1 => e _ _ h1 fun _ => nofun, h.ok, h.lt, h.st, e _ _ h.hd (fun _ => nofun), e _ _ h.hn (fun _ => nofun), t⟩
/-- a bool, tables may grow -/
def EvBN (te : TE) (σ : L2.St) (H : Hp) (Tb : List (Addr × Str)) (b : Bool) : Prop := ∀ Q : VK, (∀ H', ExtN H H' → Tabs Tb H' → Q (.bl b) H') → te σ H Q
section
variable {te : TE} {tu tz : TS} {D : Ends} {σ : L2.St} {H : Hp} {Tb : List (Addr × Str)}
theorem q_notN (h : EvBN te σ H Tb true) (k : ∀ H', ExtN H H' → Tabs Tb H' → tz D σ H') : tSeq (tIfS (tNot (tB te)) tu tNext) tz D σ H := h _ fun H' e t => ⟨true, rfl, k H' e t⟩
theorem q_isN (h : EvBN te σ H Tb false) (k : ∀ H', ExtN H H' → Tabs Tb H' → tz D σ H') : tSeq (tIfS (tB te) tu tNext) tz D σ H := h _ fun H' e t => ⟨false, rfl, k H' e t⟩
theorem s_isN (h : EvBN te σ H Tb false) (k : ∀ H', ExtN H H' → Tabs Tb H' → D.nx σ H') : tIfS (tB te) tu tNext D σ H := h _ fun H' e t => ⟨false, rfl, k H' e t⟩
end
theorem eb_rest {K : PySem.W.Frag} {Tb : List (Addr × Str)} {ts : TA} {σ : L2.St} {H : Hp} {E : XK} {a d n : Addr} {S : List Nat} {η : Nat → Option Nat} {l : Stock} {need : Nat → Int} {q : (Nat × Nat) × Nat} {s m : Nat} {b : Bool}
    (ha : EvA ts σ H [.ref a, .ref d, .ref n, .str (kt q.1), sV s, .int ((m : Nat) : Int)]) (h : LArgs H Tb a d n S η l need) (hq : q ∈ l) (hs : s ∈ S) (hb : b = true ↔ m ≤ q.2 ∧ ((m : Nat) : Int) ≤ need s ∧ ∀ A, 0 ≤ slk S η (setC l q.1 (q.2 - m)) (subN need s ((m : Nat) : Int)) A) :
    EvBN (tCall (sp_rest K Tb) [] E ts) σ H Tb b := fun Q k => ha H (Ex.refl _) _ fun H1 e1 => ⟨a, d, n, S, η, l, need, q, s, m, rfl, h.upN (ExtN.of e1) (h.tb.ext e1), hq, hs, fun z H' hz e t => by
  have : z = b := Bool.eq_iff_iff.mpr (hz.trans hb.symm)
  rw [this]
  exact k H' ((ExtN.of e1).trans e) t⟩
theorem eb_barred {K : PySem.W.Frag} {Tb : List (Addr × Str)} {ts : TA} {σ : L2.St} {H : Hp} {E : XK} {a d n : Addr} {S : List Nat} {η : Nat → Option Nat} {l : Stock} {need : Nat → Int} {q : (Nat × Nat) × Nat} {s m : Nat} {b : Bool}
    (ha : EvA ts σ H [.ref a, .ref d, .ref n, .str (kt q.1), sV s, .int ((m : Nat) : Int)]) (h : LArgs H Tb a d n S η l need) (hq : q ∈ l) (hs : s ∈ S) (hm : m ≤ q.2) (hb : b = true ↔ ∀ A, - slk S η (setC l q.1 m) need A ≤ (((q.2 : Nat) : Int) - ((m : Nat) : Int)) * (if oth S η q.1 s A then 1 else 0)) :
    EvBN (tCall (sp_barred K Tb) [] E ts) σ H Tb b := fun Q k => ha H (Ex.refl _) _ fun H1 e1 => ⟨a, d, n, S, η, l, need, q, s, m, rfl, h.upN (ExtN.of e1) (h.tb.ext e1), hq, hs, hm, fun z H' hz e t => by
  have : z = b := Bool.eq_iff_iff.mpr (hz.trans hb.symm)
  rw [this]
  exact k H' ((ExtN.of e1).trans e) t⟩
/-! the plan's needs -/
theorem bear_le {S : List Nat} {η : Nat → Option Nat} {l : Stock} (h : StOk S l) (A : Nat → Bool) : bear S η l A ≤ ((30 * 2 ^ 100 : Nat) : Int) := by
  have := sum_bound (fun q : (Nat × Nat) × Nat => if (shows S η q.1).any A then ((q.2 : Nat) : Int) else 0) (2 ^ 100) l fun q hq => by
    have := h.big q hq
    split
    · rw [Int.natAbs_natCast]; exact this
    · exact Nat.zero_le _
  have h2 : l.length * 2 ^ 100 ≤ 30 * 2 ^ 100 := Nat.mul_le_mul_right _ h.len
  unfold bear
  omega
theorem need_big {S : List Nat} {η : Nat → Option Nat} {l : Stock} {Pl : Plan} (h : StOk S l) (hp : PlanOk S η l Pl) (c : Nat) : (needOf Pl c).natAbs ≤ 2 ^ 110 := by
  have h1 := need_nn Pl c
  have h2 : needOf Pl c = partsIn Pl (fun d => decide (d = c)) := by
    unfold needOf partsIn
    congr 1
    refine List.map_congr_left fun t _ => ?_
    by_cases e : t.2.1 = c
    · rw [if_pos e, if_pos (decide_eq_true e)]
    · rw [if_neg e, if_neg (by show ¬ decide (t.2.1 = c) = true; rw [decide_eq_false e]; decide)]
  have h3 := hp.bound fun d => decide (d = c)
  have h4 := bear_le (η := η) h fun d => decide (d = c)
  have h5 : (30 * 2 ^ 100 : Nat) ≤ 2 ^ 110 := by decide
  omega
theorem slk_perm {S : List Nat} {η : Nat → Option Nat} {l l' : Stock} {need : Nat → Int} (p : l'.Perm l) (A : Nat → Bool) : slk S η l' need A = slk S η l need A := by
  unfold slk
  rw [bear_perm p]
theorem UseR.perm {S : List Nat} {η : Nat → Option Nat} {l l' : Stock} {need : Nat → Int} {q : (Nat × Nat) × Nat} {s : Nat} {lo hi : Int} (p : l'.Perm l) (u : UseR S η l' need q s lo hi) : UseR S η l need q s lo hi := by
  have e : ∀ A, slk S η l' need A = slk S η l need A := slk_perm p
  refine ⟨u.hi1, u.hi2, fun A h1 h2 => by rw [← e]; exact u.hi3 A h1 h2, ?_, u.lo0, fun A h => by rw [← e]; exact u.lo1 A h, ?_⟩
  · rcases u.hi4 with h | h | ⟨A, h1, h2, h3⟩
    · exact .inl h
    · exact .inr (.inl h)
    · exact .inr (.inr ⟨A, h1, h2, by rw [← e]; exact h3⟩)
  · rcases u.lo2 with h | ⟨A, h1, h2⟩
    · exact .inl h
    · exact .inr ⟨A, h1, by rw [← e]; exact h2⟩
/-- what stands while a case is asked -/
structure Held (K : PySem.W.Frag) (Tb : List (Addr × Str)) (pen cl a d n f c w : Addr) (U : Nat) (S : List Nat) (η : Nat → Option Nat) (l l' : Stock) (need : Nat → Int) (H : Hp) : Prop where
  args : LArgs H Tb a d n S η l need
  case_ : CaseAt K H c f S η l'
  wants : WantsAt K H w f S η need
  pen_ : PenAt H pen cl U
theorem Held.upN {K : PySem.W.Frag} {Tb : List (Addr × Str)} {pen cl a d n f c w : Addr} {U : Nat} {S : List Nat} {η : Nat → Option Nat} {l l' : Stock} {need : Nat → Int} {H H' : Hp} (h : Held K Tb pen cl a d n f c w U S η l l' need H) (e : ExtN H H') (t : Tabs Tb H') : Held K Tb pen cl a d n f c w U S η l l' need H' :=
  ⟨h.args.upN e t, h.case_.upN e, h.wants.upN e, h.pen_.upC e⟩
theorem Held.up {K : PySem.W.Frag} {Tb : List (Addr × Str)} {pen cl a d n f c w : Addr} {U : Nat} {S : List Nat} {η : Nat → Option Nat} {l l' : Stock} {need : Nat → Int} {H H' : Hp} (h : Held K Tb pen cl a d n f c w U S η l l' need H) (e : Ex H H') : Held K Tb pen cl a d n f c w U S η l l' need H' :=
  h.upN (ExtN.of e) (h.args.tb.ext e)
theorem LArgs.keepC {H H' : Hp} {Tb : List (Addr × Str)} {pen cl a d n : Addr} {U : Nat} {S : List Nat} {η : Nat → Option Nat} {l : Stock} {need : Nat → Int} (h : LArgs H Tb a d n S η l need) (hp : PenAt H pen cl U) (hnp : ∀ hd, H a = some (.tup [.str (tx S), .ref hd]) → hd ≠ pen) (e : ExC pen H H') (t : Tabs Tb H') : LArgs H' Tb a d n S η l need := by
  obtain ⟨hd, kvs, h1, h2, h3⟩ := id h.ft.ex
  have na : a ≠ pen := hp.ne h1 fun _ => nofun
  refine ⟨⟨hd, kvs, e _ _ na h1 (fun _ => nofun), e _ _ (hnp _ h1) h2 (fun _ => nofun), h3⟩, ft_ne h.ft h.ne fun hd h1 => e _ _ na h1 fun _ => nofun, h.ok, h.lt, h.st, e _ _ (ne_pen hp h.hd (tab_int fun _ _ _ => nofun)) h.hd (fun _ => nofun), e _ _ (ne_pen hp h.hn (tab_int fun _ _ _ => nofun)) h.hn (fun _ => nofun), t⟩
theorem ft_neC {H H' : Hp} {pen cl a : Addr} {U : Nat} {S : List Nat} {η : Nat → Option Nat} (f : FtAt H a S η) (hp : PenAt H pen cl U) (hnp : ∀ hd, H a = some (.tup [.str (tx S), .ref hd]) → hd ≠ pen) (e : ExC pen H H') : ∀ hd, H' a = some (.tup [.str (tx S), .ref hd]) → hd ≠ pen := by
  obtain ⟨hd, kvs, h1, h2, h3⟩ := id f.ex
  exact ft_ne f hnp fun hd h1 => e _ _ (hp.ne h1 fun _ => nofun) h1 fun _ => nofun
theorem ExB.c {x : Addr} {H H' : Hp} (h : ExB x H H') : ExC x H H' := fun b o n hb _ => h b o n hb
end P38

set_option Elab.async false
set_option linter.all false
set_option maxRecDepth 100000
set_option maxHeartbeats 4000000
namespace P38
open PySem PySem.Spec PyProof.Rows L2 Evl LamX NdefX
def sp_law (K : PySem.W.Frag) (Tb : List (Addr × Str)) : Sp := fun vs H Q _ => ∃ (a : Addr) (ns : List Int), vs = [.ref a] ∧ SqL K H a (ns.map V.int) ∧ Tabs Tb H ∧ ∀ H', Q (.bl true) H'
theorem ok_law {P : Program} {w : World} {K : PySem.W.Frag} {mg : Str → Option Value} {base : Heap} {Tb : List (Addr × Str)} (T : Tx K mg) (hL : Lm K base mg Tb "ordered" "ordered.<locals>.<lambda>" s_ordered (f_ordered K)) (hL2 : Lm K base mg Tb "_law_sets" "_law_sets.<locals>.<lambda>" s__law_sets (f__law_sets K)) (hC : SupC P K mg) :
    FnOk P w K mg base CX0 30 (f_law K) (fdOf K (f_law K)) ["_law_script"] (sp_law K Tb) := by
  refine T.d_law.ok sc_law (fun vs H Q E h => by obtain ⟨a, ns, rfl, _⟩ := h; rfl) (fun cdv A outer s H vs Q E0_ hr h => ?_)
  obtain ⟨a0, ns, rfl, hs, ht, k⟩ := h
  refine ⟨_, PSs.nox (pss_cons (ps_set (i := 1) sc_law.nd rfl (by first | exact Or.inl rfl | exact Or.inr rfl) (pe_call (ok__law_pen T) (by exact hr.mono (by first | decide | omega)) (by rfl) (by exact T.m__law_pen) (by exact T.d__law_pen.kp) (bn__law_pen T) .nil pass0 (pa_cons (pv 0) pa_nil))) (
pss_cons (ps_for PassesOwn.never rfl (pi_range1 (by rfl) (by exact T.z_range) (pa_cons pe_int pa_nil)) (pg_name (i := 2) sc_law.nd rfl (by first | exact Or.inl rfl | exact Or.inr rfl)) (
pss_cons (ps_set (i := 3) sc_law.nd rfl (by first | exact Or.inl rfl | exact Or.inr rfl) (pe_call (ok__law_font T) (by exact hr.mono (by first | decide | omega)) (by rfl) (by exact T.m__law_font) (by exact T.d__law_font.kp) (bn__law_font T) .nil pass0 (pa_cons (pv 1) (pa_cons pe_int (pa_cons pe_int pa_nil))))) (
pss_cons (ps_set (i := 4) sc_law.nd rfl (by first | exact Or.inl rfl | exact Or.inr rfl) (pe_call (ok__law_stock T) (by exact hr.mono (by first | decide | omega)) (by rfl) (by exact T.m__law_stock) (by exact T.d__law_stock.kp) (bn__law_stock T) .nil pass0 (pa_cons (pv 1) (pa_cons (pv 3) (pa_cons pe_int (pa_cons (pe_op op_pow pe_int pe_int) pa_nil)))))) (
pss_cons (ps_set (i := 5) sc_law.nd rfl (by first | exact Or.inl rfl | exact Or.inr rfl) (pe_call (ok__law_shown T) (by exact hr.mono (by first | decide | omega)) (by rfl) (by exact T.m__law_shown) (by exact T.d__law_shown.kp) (bn__law_shown T) .nil pass0 (pa_cons (pv 3) (pa_cons (pe_call (ok__law_planned T) (by exact hr.mono (by first | decide | omega)) (by rfl) (by exact T.m__law_planned) (by exact T.d__law_planned.kp) (bn__law_planned T) .nil pass0 (pa_cons (pv 1) (pa_cons (pv 3) (pa_cons (pv 4) pa_nil)))) pa_nil)))) (
pss_cons (ps_set (i := 6) sc_law.nd rfl (by first | exact Or.inl rfl | exact Or.inr rfl) (pe_call (ok__law_made_font T) (by exact hr.mono (by first | decide | omega)) (by rfl) (by exact T.m__law_made_font) (by exact T.d__law_made_font.kp) (bn__law_made_font T) .nil pass0 (pa_cons (pv 1) (pa_cons (pv 3) pa_nil)))) (
pss_cons (ps_par (i := 7) (j := 8) (by rfl) sc_law.nd rfl rfl (by decide) rfl rfl (pa_cons (pe_call (ok__law_made_case T hL hC) (by exact hr.mono (by first | decide | omega)) (by rfl) (by exact T.m__law_made_case) (by exact T.d__law_made_case.kp) (bn__law_made_case T) .nil pass0 (pa_cons (pv 1) (pa_cons (pv 6) (pa_cons (pv 4) pa_nil)))) (pa_cons (pe_call (ok__law_made_wants T) (by exact hr.mono (by first | decide | omega)) (by rfl) (by exact T.m__law_made_wants) (by exact T.d__law_made_wants.kp) (bn__law_made_wants T) .nil pass0 (pa_cons (pv 1) (pa_cons (pv 6) (pa_cons (pv 5) pa_nil)))) pa_nil)) (by rfl)) (
pss_one (ps_for PassesOwn.never rfl (pi_list (pe_slice sl_list (pe_call (ok__law_shuffled T) (by exact hr.mono (by first | decide | omega)) (by rfl) (by exact T.m__law_shuffled) (by exact T.d__law_shuffled.kp) (bn__law_shuffled T) .nil pass0 (pa_cons (pv 1) (pa_cons (pe_callTy (call_list_dK rfl) (by rfl) (by exact T.z_list) bt_list (pa_cons (pv 4) pa_nil)) pa_nil))) po_none (po_some pe_int))) (pg_name (i := 9) sc_law.nd rfl (by first | exact Or.inl rfl | exact Or.inr rfl)) (
pss_one (ps_for PassesOwn.never rfl (pi_str (pe_call (ok__law_shows T) (by exact hr.mono (by first | decide | omega)) (by rfl) (by exact T.m__law_shows) (by exact T.d__law_shows.kp) (bn__law_shows T) .nil pass0 (pa_cons (pv 3) (pa_cons (pv 9) pa_nil)))) (pg_name (i := 10) sc_law.nd rfl (by first | exact Or.inl rfl | exact Or.inr rfl)) (
pss_cons (ps_set (i := 11) sc_law.nd rfl (by first | exact Or.inl rfl | exact Or.inr rfl) (pe_call (ok_use_range T) (by exact hr.mono (by first | decide | omega)) (by rfl) (by exact T.m_use_range) (by exact T.d_use_range.kp) (bn_use_range T) .nil pass0 (pa_cons (pv 7) (pa_cons (pv 8) (pa_cons (pv 9) (pa_cons (pv 10) pa_nil)))))) (
pss_cons (ps_if (PW.pt (pw_or (pt_not (pt_val (pe_callB (call_is "tuple" "tuple" true (by decide +kernel)) (by rfl) (by exact T.z_isinstance) bt_isinstance (pa_cons (pv 11) (pa_cons (pe_bltn (v := .ty "tuple") (by rfl) (by exact T.z_tuple) bt_tuple rfl) pa_nil))))) (pw_or (pt_cmpR op_ne (pe_callB call_len_seq (by rfl) (by exact T.z_len) bt_len (pa_cons (pv 11) pa_nil)) pe_int (nomark _)) (pw_or1 (pt_not (pt_chain op_le op_le pe_int (pe_ix ix_tup (pv 11) pe_int (fun _ _ => rfl)) (pe_ix ix_tup (pv 11) pe_int (fun _ _ => rfl)))))))) (pss_one (ps_ret pe_bl)) pss_nil) (
pss_cons (ps_if (pt_not (pt_val (pe_call (ok__law_rest_hangs T hL2) (by exact hr.mono (by first | decide | omega)) (by rfl) (by exact T.m__law_rest_hangs) (by exact T.d__law_rest_hangs.kp) (bn__law_rest_hangs T) .nil pass0 (pa_cons (pv 3) (pa_cons (pv 4) (pa_cons (pv 5) (pa_cons (pv 9) (pa_cons (pv 10) (pa_cons (pe_ix ix_tup (pv 11) pe_int (fun _ _ => rfl)) pa_nil))))))))) (pss_one (ps_ret pe_bl)) pss_nil) (
pss_cons (ps_if (pt_val (pe_call (ok__law_rest_hangs T hL2) (by exact hr.mono (by first | decide | omega)) (by rfl) (by exact T.m__law_rest_hangs) (by exact T.d__law_rest_hangs.kp) (bn__law_rest_hangs T) .nil pass0 (pa_cons (pv 3) (pa_cons (pv 4) (pa_cons (pv 5) (pa_cons (pv 9) (pa_cons (pv 10) (pa_cons (pe_op op_add (pe_ix ix_tup (pv 11) pe_int (fun _ _ => rfl)) pe_int) pa_nil)))))))) (pss_one (ps_ret pe_bl)) pss_nil) (
pss_cons (ps_if (pt_not (pt_val (pe_call (ok__law_hangs_barred T hL2) (by exact hr.mono (by first | decide | omega)) (by rfl) (by exact T.m__law_hangs_barred) (by exact T.d__law_hangs_barred.kp) (bn__law_hangs_barred T) .nil pass0 (pa_cons (pv 3) (pa_cons (pv 4) (pa_cons (pv 5) (pa_cons (pv 9) (pa_cons (pv 10) (pa_cons (pe_ix ix_tup (pv 11) pe_int (fun _ _ => rfl)) pa_nil))))))))) (pss_one (ps_ret pe_bl)) pss_nil) (
pss_cons (ps_set (i := 12) sc_law.nd rfl (by first | exact Or.inl rfl | exact Or.inr rfl) (pe_ix ix_tup (pv 11) pe_int (fun _ _ => rfl))) (
pss_one (ps_if (pt_cmpR op_gt (pv 12) pe_int (nomark _)) (pss_one (ps_if (pt_val (pe_call (ok__law_hangs_barred T hL2) (by exact hr.mono (by first | decide | omega)) (by rfl) (by exact T.m__law_hangs_barred) (by exact T.d__law_hangs_barred.kp) (bn__law_hangs_barred T) .nil pass0 (pa_cons (pv 3) (pa_cons (pv 4) (pa_cons (pv 5) (pa_cons (pv 9) (pa_cons (pv 10) (pa_cons (pe_op op_sub (pv 12) pe_int) pa_nil)))))))) (pss_one (ps_ret pe_bl)) pss_nil)) pss_nil)))))))))))))))))) (
pss_one (ps_ret pe_bl)))), ?_⟩
  show tSeq _ _ _ _ _
  refine st_eq (σ' := [some (.ref a0), none, none, none, none, none, none, none, none, none, none, none, none]) rfl ?_
  refine q_raw ?_
  refine ea_cons (ta := tVar 0) (x := .ref a0) (ev_var rfl) ea_nil H (Ex.refl _) (fun vs H1 => sp_pen K (vs ++ []) H1 _ E0) fun H1 e1 => ?_
  refine ⟨a0, ns, rfl, ex_l e1 hs, fun pen cl H2 hp hcl e2 hpen => ?_⟩
  have ht2 := (ht.ext e1).ext e2
  show tSeq _ _ _ _ _
  refine st_eq (σ' := [some (.ref a0), some (.ref pen), none, none, none, none, none, none, none, none, none, none, none]) rfl ?_
  let PO : Nat → L2.St → Hp → Prop := fun i σ' H' => (∃ u2 u3 u4 u5 u6 u7 u8 u9 u10 u11 u12, σ' = [some (.ref a0), some (.ref pen), u2, u3, u4, u5, u6, u7, u8, u9, u10, u11, u12]) ∧ PenAt H' pen cl (5000 * i) ∧ Tabs Tb H'
  refine q_forR1 (n := 5) (ea_cons ev_c ea_nil) ⟨by decide, by decide⟩ PO (fun H3 e3 => ⟨⟨_, _, _, _, _, _, _, _, _, _, _, rfl⟩, (hpen.up e3).mono (by omega), ht2.ext e3⟩) (fun i σ' H3 hi c => ?_) fun σ' H3 c => ?_
  · obtain ⟨⟨u2, u3, u4, u5, u6, u7, u8, u9, u10, u11, u12, rfl⟩, p3, t3⟩ := c
    show tSeq _ _ _ _ _
    refine st_eq (σ' := [some (.ref a0), some (.ref pen), some (.int ((i : Nat) : Int)), u3, u4, u5, u6, u7, u8, u9, u10, u11, u12]) rfl ?_
    -- the font
    refine q_raw ?_
    refine ea_cons (ta := tVar 1) (x := .ref pen) (ev_var rfl) (ea_cons (ta := tC (.int 2)) (x := .int 2) ev_c (ea_cons (ta := tC (.int 6)) (x := .int 6) ev_c ea_nil)) H3 (Ex.refl _) (fun vs H1 => sp_font K (vs ++ []) H1 _ E0) fun H4 e4 => ?_
    refine ⟨pen, cl, 5000 * i, rfl, p3.up e4, by omega, fun a S η H5 hS hSm hη b5 p5 hft hnp => ?_⟩
    have t5 := tabs_keepB (t3.ext e4) (p3.up e4) b5
    show tSeq _ _ _ _ _
    refine st_eq (σ' := [some (.ref a0), some (.ref pen), some (.int ((i : Nat) : Int)), some (.ref a), u4, u5, u6, u7, u8, u9, u10, u11, u12]) rfl ?_
    clear b5 p3 t3 e4
    -- the stock
    refine q_raw ?_
    refine ea_cons (ta := tVar 1) (x := .ref pen) (ev_var rfl) (ea_cons (ta := tVar 3) (x := .ref a) (ev_var rfl) (ea_cons (ta := tC (.int 8)) (x := .int 8) ev_c (ea_cons (ta := tOp (rI CPow fun i j => .int (i ^ j.toNat)) (tC (.int 10)) (tC (.int 30))) (x := .int (10 ^ 30)) (ev_op ev_c ev_c (rv_I (i := 10) (j := 30) ⟨by decide, by decide, by decide⟩)) ea_nil))) H5 (Ex.refl _) (fun vs H1 => sp_stock K (vs ++ []) H1 _ E0) fun H6 e6 => ?_
    have hft6 := hft.up e6
    have hnp6 : ∀ hd, H6 a = some (.tup [.str (tx S), .ref hd]) → hd ≠ pen := ft_ne hft hnp fun hd h1 => e6 _ _ h1
    have p6 := p5.up e6
    refine ⟨pen, cl, a, 5000 * i + 300, S, η, rfl, p6, by omega, hS, hSm, hft6, hnp6, fun d l H7 hd0 hl b7 p7 ndp hd => ?_⟩
    have hft7 := hft6.keep p6 hnp6 b7
    have hnp7 := ft_neC hft6 p6 hnp6 b7.c
    have t7 := tabs_keepB (t5.ext e6) p6 b7
    have hne7 : ∀ hd, H7 a = some (.tup [.str (tx S), .ref hd]) → hd ≠ d := by
      refine ft_ne hft6 (fun hd h1 z => ?_) fun hd h1 => b7 _ _ (p6.ne h1 fun _ => nofun) h1
      obtain ⟨hd2, kvs, g1, g2, _⟩ := hft6.ex
      have h3 := g1.symm.trans h1
      obtain rfl : hd2 = hd := V.ref.inj (List.cons.inj (List.cons.inj (HO.tup.inj (Option.some.inj h3))).2).1
      rw [z, hd0] at g2
      cases g2
    show tSeq _ _ _ _ _
    refine st_eq (σ' := [some (.ref a0), some (.ref pen), some (.int ((i : Nat) : Int)), some (.ref a), some (.ref d), u5, u6, u7, u8, u9, u10, u11, u12]) rfl ?_
    clear hft hnp p5 t5 e6 hft6 hnp6 b7 p6 hd0
    -- the needs
    refine q_raw ?_
    refine ⟨_, rfl, ?_⟩
    refine ea_cons (ta := tVar 1) (x := .ref pen) (ev_var rfl) (ea_cons (ta := tVar 3) (x := .ref a) (ev_var rfl) (ea_cons (ta := tVar 4) (x := .ref d) (ev_var rfl) ea_nil)) H7 (Ex.refl _) (fun vs H1 => sp_planned K (vs ++ []) H1 _ E0) fun H8 e8 => ?_
    have p8 := p7.up e8
    have hft8 := hft7.up e8
    have hnp8 : ∀ hd, H8 a = some (.tup [.str (tx S), .ref hd]) → hd ≠ pen := ft_ne hft7 hnp7 fun hd h1 => e8 _ _ h1
    have hne8 : ∀ hd, H8 a = some (.tup [.str (tx S), .ref hd]) → hd ≠ d := ft_ne hft7 hne7 fun hd h1 => e8 _ _ h1
    refine ⟨pen, cl, a, d, 5000 * i + 700, S, η, l, rfl, p8.mono (by omega), by omega, hS, hSm, hft8, fun hd h1 => ⟨hnp8 hd h1, hne8 hd h1⟩, hl, e8 _ _ hd, fun pl Pl H9 hPl b9 p9 npp hp9 => ?_⟩
    refine ⟨a, pl, S, η, Pl, rfl, hft8.keep p8 hnp8 b9, hS, hp9, hPl.nd, hPl.len, fun n H10 hn0 e10 hn => ?_⟩
    have t10 := (tabs_keepB (t7.ext e8) p8 b9).ext e10
    have p10 := p9.up e10
    have A10 : LArgs H10 Tb a d n S η l (needOf Pl) := ⟨(hft8.keep p8 hnp8 b9).up e10, ft_ne hft8 hne8 fun hd h1 => e10 _ _ (b9 _ _ (p8.ne h1 fun _ => nofun) h1), hS, hSm, hl.ok, e10 _ _ (b9 _ _ ndp (e8 _ _ hd)), hn, t10⟩
    have hnp10 : ∀ hd, H10 a = some (.tup [.str (tx S), .ref hd]) → hd ≠ pen := ft_ne hft8 hnp8 fun hd h1 => e10 _ _ (b9 _ _ (p8.ne h1 fun _ => nofun) h1)
    show tSeq _ _ _ _ _
    refine st_eq (σ' := [some (.ref a0), some (.ref pen), some (.int ((i : Nat) : Int)), some (.ref a), some (.ref d), some (.ref n), u6, u7, u8, u9, u10, u11, u12]) rfl ?_
    clear hft7 hnp7 t7 hne7 e8 hft8 hnp8 hne8 b9 hp9 hn hn0 e10 hd p8 p7 p9 t10
    -- the program's font
    refine q_raw ?_
    refine ea_cons (ta := tVar 1) (x := .ref pen) (ev_var rfl) (ea_cons (ta := tVar 3) (x := .ref a) (ev_var rfl) ea_nil) H10 (Ex.refl _) (fun vs H1 => sp_made_font K (vs ++ []) H1 _ E0) fun H11 e11 => ?_
    have A11 := A10.upN (ExtN.of e11) (A10.tb.ext e11)
    have p11 := p10.up e11
    have hnp11 : ∀ hd, H11 a = some (.tup [.str (tx S), .ref hd]) → hd ≠ pen := ft_ne A10.ft hnp10 fun hd h1 => e11 _ _ h1
    refine ⟨pen, cl, a, 5000 * i + 1700, S, η, rfl, p11, by omega, hS, hSm, hη, A11.ft, hnp11, fun f H12 b12 p12 hf => ?_⟩
    have A12 := A11.keepC p11 hnp11 b12.c (tabs_keepB A11.tb p11 b12)
    have hnp12 := ft_neC A11.ft p11 hnp11 b12.c
    show tSeq _ _ _ _ _
    refine st_eq (σ' := [some (.ref a0), some (.ref pen), some (.int ((i : Nat) : Int)), some (.ref a), some (.ref d), some (.ref n), some (.ref f), u7, u8, u9, u10, u11, u12]) rfl ?_
    clear A10 hnp10 p10 e11 A11 p11 hnp11 b12
    -- the program's case, its wants
    refine ea_cons (ta := tVar 1) (x := .ref pen) (ev_var rfl) (ea_cons (ta := tVar 6) (x := .ref f) (ev_var rfl) (ea_cons (ta := tVar 4) (x := .ref d) (ev_var rfl) ea_nil)) H12 (Ex.refl _) (fun vs H1 => sp_made_case K Tb (vs ++ []) H1 _ E0) fun H13 e13 => ?_
    have A13 := A12.upN (ExtN.of e13) (A12.tb.ext e13)
    have p13 := p12.up e13
    have hnp13 : ∀ hd, H13 a = some (.tup [.str (tx S), .ref hd]) → hd ≠ pen := ft_ne A12.ft hnp12 fun hd h1 => e13 _ _ h1
    refine ⟨pen, cl, f, d, 5000 * i + 1800, S, η, l, rfl, p13, by omega, hf.up e13, hS, hSm, hl, A13.hd, A13.tb, fun cs l' H14 hl' b14 p14 t14 hcs => ?_⟩
    have A14 := A13.keepC p13 hnp13 b14 t14
    have hnp14 := ft_neC A13.ft p13 hnp13 b14
    have hf14 := (hf.up e13).keepB p13 b14
    refine ea_cons (ta := tVar 1) (x := .ref pen) (ev_var rfl) (ea_cons (ta := tVar 6) (x := .ref f) (ev_var rfl) (ea_cons (ta := tVar 5) (x := .ref n) (ev_var rfl) ea_nil)) H14 (Ex.refl _) (fun vs H1 => sp_made_wants K (vs ++ []) H1 _ E0) fun H15 e15 => ?_
    have A15 := A14.upN (ExtN.of e15) (A14.tb.ext e15)
    have p15 := p14.up e15
    have hnp15 : ∀ hd, H15 a = some (.tup [.str (tx S), .ref hd]) → hd ≠ pen := ft_ne A14.ft hnp14 fun hd h1 => e15 _ _ h1
    refine ⟨pen, cl, f, n, 5000 * i + 2000, S, η, needOf Pl, rfl, p15, by omega, hf14.up e15, hS, hSm, fun c _ => need_nn Pl c, A15.hn, fun wn H16 b16 p16 hwn => ?_⟩
    have A16 := A15.keepC p15 hnp15 b16.c (tabs_keepB A15.tb p15 b16)
    have hnp16 := ft_neC A15.ft p15 hnp15 b16.c
    have hcs16 := (hcs.up e15).keepB p15 b16.c
    refine ⟨_, _, rfl, ?_⟩
    dsimp only
    refine st_eq (σ' := [some (.ref a0), some (.ref pen), some (.int ((i : Nat) : Int)), some (.ref a), some (.ref d), some (.ref n), some (.ref f), some (.ref cs), some (.ref wn), u9, u10, u11, u12]) rfl ?_
    clear A12 hnp12 p12 e13 A13 p13 hnp13 b14 p14 t14 hcs A14 hnp14 hf14 e15 A15 p15 hnp15 b16 hf
    -- the kinds asked
    refine for_of ?_
    refine ⟨_, rfl, ?_⟩
    refine ea_lstN (el_keys (ev_var rfl) A16.hd) fun p0 H17 hp0 e17 h17 => ?_
    have A17 := A16.upN (ExtN.of e17) (A16.tb.ext e17)
    have p17 := p16.up e17
    have hnp17 : ∀ hd, H17 a = some (.tup [.str (tx S), .ref hd]) → hd ≠ pen := ft_ne A16.ft hnp16 fun hd h1 => e17 _ _ h1
    have l8 := hl.len
    refine ⟨pen, cl, _, l.map fun q => V.str (kt q.1), 5000 * i + 2100, rfl, p17, by rw [List.length_map]; omega, .inr ⟨p0, rfl, h17⟩, fun y hy => ?_, by rw [List.length_map]; omega, fun pk ys H18 hpk hperm b18 p18 h18 => ?_⟩
    · obtain ⟨q, hq, rfl⟩ := List.mem_map.mp hy
      exact item_kt hSm (hl.ok.kinds q hq)
    obtain ⟨ls, hls, rfl⟩ := perm_map hperm
    rw [List.length_map] at p18
    have A18 := A17.keepC p17 hnp17 b18.c (tabs_keepB A17.tb p17 b18)
    have hcs18 := (hcs16.up e17).keepB p17 b18.c
    have hwn18 := (hwn.up e17).keepB p17 b18.c
    refine ⟨3, rfl, pk, _, rfl, sq_of h18, fun lq hlq => ?_⟩
    have hcut : cutV (ls.map fun q => V.str (kt q.1)) none (some 3) = (ls.take 3).map fun q => V.str (kt q.1) := by
      unfold cutV
      rw [show (3 : Int) = ((3 : Nat) : Int) from rfl, HT.sIx_nat]
      show ((ls.map fun q => V.str (kt q.1)).drop 0).take (min _ _ - 0) = _
      rw [List.drop_zero, Nat.sub_zero, List.length_map, List.map_take]
      by_cases c : 3 ≤ ls.length
      · rw [Nat.min_eq_left c]
      · rw [Nat.min_eq_right (by omega), List.take_of_length_le (by rw [List.length_map]; omega), List.take_of_length_le (by rw [List.length_map]; omega)]
    rw [hcut]
    have hks : ∀ q ∈ ls.take 3, q ∈ l := fun q hq => hls.mem_iff.mp (List.mem_of_mem_take hq)
    generalize ls.take 3 = ks at hks
    have e19 : Ex H18 (upd H18 lq (.lst (ks.map fun q => V.str (kt q.1)))) := Ex.new hlq
    have h19 : (upd H18 lq (.lst (ks.map fun q => V.str (kt q.1)))) lq = some (.lst (ks.map fun q => V.str (kt q.1))) := upd_same
    have B0 : Held K Tb pen cl a d n f cs wn (5000 * (i + 1)) S η l l' (needOf Pl) (upd H18 lq (.lst (ks.map fun q => V.str (kt q.1)))) := Held.up ⟨A18, hcs18, hwn18, p18.mono (by omega)⟩ e19
    generalize upd H18 lq (.lst (ks.map fun q => V.str (kt q.1))) = G at B0 h19
    clear e19 hcut hlq hperm hpk h18 b18 p18 A18 hcs18 hwn18 A17 p17 hnp17 e17 h17 A16 hnp16 hcs16 hwn p16
    let PK : Nat → L2.St → Hp → Prop := fun j σ' H' => (∃ u9 u10 u11 u12, σ' = [some (.ref a0), some (.ref pen), some (.int ((i : Nat) : Int)), some (.ref a), some (.ref d), some (.ref n), some (.ref f), some (.ref cs), some (.ref wn), u9, u10, u11, u12]) ∧ Held K Tb pen cl a d n f cs wn (5000 * (i + 1)) S η l l' (needOf Pl) H' ∧ H' lq = some (.lst (ks.map fun q => V.str (kt q.1)))
    have hw := eg_list (K := K) (tl := tC (.ref lq)) (σ := [some (.ref a0), some (.ref pen), some (.int ((i : Nat) : Int)), some (.ref a), some (.ref d), some (.ref n), some (.ref f), some (.ref cs), some (.ref wn), u9, u10, u11, u12]) (H := G) (a := lq) (xs := ks.map fun q => V.str (kt q.1)) ev_c (sq_of h19)
    rw [List.length_map] at hw
    refine s_for hw PK (fun H4 e4 => ⟨⟨_, _, _, _, rfl⟩, B0.up e4, e4 _ _ h19⟩) (fun j σ' H' _ c => sq_of c.2.2) (fun j y σ' H4 H5 hj c yr => ?_) fun σ' H4 c => ?_
    · obtain ⟨⟨u9, u10, u11, u12, rfl⟩, hh, hlq⟩ := c
      obtain ⟨rfl, hy⟩ := yr
      obtain ⟨q, hq⟩ : ∃ q, ks[j]? = some q := ⟨_, List.getElem?_eq_getElem hj⟩
      rw [List.getElem?_map, hq] at hy
      obtain rfl : V.str (kt q.1) = y := Option.some.inj hy
      have hql := hks q (List.mem_of_getElem? hq)
      refine gn_eq (σ' := [some (.ref a0), some (.ref pen), some (.int ((i : Nat) : Int)), some (.ref a), some (.ref d), some (.ref n), some (.ref f), some (.ref cs), some (.ref wn), some (.str (kt q.1)), u10, u11, u12]) rfl ?_
      let PS : Nat → L2.St → Hp → Prop := fun m σ' H' => (∃ u10 u11 u12, σ' = [some (.ref a0), some (.ref pen), some (.int ((i : Nat) : Int)), some (.ref a), some (.ref d), some (.ref n), some (.ref f), some (.ref cs), some (.ref wn), some (.str (kt q.1)), u10, u11, u12]) ∧ Held K Tb pen cl a d n f cs wn (5000 * (i + 1)) S η l l' (needOf Pl) H' ∧ H' lq = some (.lst (ks.map fun q => V.str (kt q.1)))
      have hw2 := eg_str (σ := [some (.ref a0), some (.ref pen), some (.int ((i : Nat) : Int)), some (.ref a), some (.ref d), some (.ref n), some (.ref f), some (.ref cs), some (.ref wn), some (.str (kt q.1)), u10, u11, u12]) (tl := tCall sp_shows [] E0 (tCons (tVar 3) (tCons (tVar 9) tNil))) (w := tx (shows S η q.1)) (H := H5) (ev_call (ea_cons (ev_var rfl) (ea_cons (ev_var rfl) ea_nil)) (v_shows hh.args.ft hS))
      rw [tx_size] at hw2
      refine s_for hw2 PS (fun H6 e6 => ⟨⟨_, _, _, rfl⟩, hh.up e6, e6 _ _ hlq⟩) (fun m σ' H' _ c => trivial) (fun m y σ' H6 H7 hm c yr => ?_) fun σ' H6 c => ?_
      · obtain ⟨⟨u10, u11, u12, rfl⟩, h6, hlq6⟩ := c
        obtain ⟨rfl, sn, hsn, rfl⟩ := yr
        rw [tx_at] at hsn
        have hsh := List.mem_of_getElem? hsn
        have hsS := shows_mem hsh
        have h0 : ∀ A, 0 ≤ slk S η l (needOf Pl) A := slk_plan hS.nd hPl
        refine gn_eq (σ' := [some (.ref a0), some (.ref pen), some (.int ((i : Nat) : Int)), some (.ref a), some (.ref d), some (.ref n), some (.ref f), some (.ref cs), some (.ref wn), some (.str (kt q.1)), some (sV sn), u11, u12]) rfl ?_
        refine q_asgP (ep_call (ea_cons (ev_var rfl) (ea_cons (ev_var rfl) (ea_cons (ev_var rfl) (ea_cons (ev_var rfl) ea_nil)))) (pspX_v fun H8 e8 => ⟨cs, wn, f, S, η, l', needOf Pl, sn, q, rfl, h6.case_.up e8, h6.wants.up e8, hS, hl.ok.perm hl', fun c _ => need_big hl.ok hPl c, fun A => by rw [slk_perm hl']; exact h0 A, hl'.mem_iff.mpr hql, hl.pos q hql, hsh, rfl⟩)) fun v H8 e8 hv => ?_
        obtain ⟨tp, lo, hi, rfl, htp, hu⟩ := hv
        have u := hu.perm hl'
        have hlh := u.le hS.nd hl.ok.nd hql hsh h0 (need_nn Pl sn)
        have hl0 := u.lo0
        obtain ⟨lo, rfl⟩ := Int.eq_ofNat_of_zero_le hl0
        obtain ⟨hi, rfl⟩ := Int.eq_ofNat_of_zero_le (show 0 ≤ hi by omega)
        have hi1 : hi ≤ q.2 := by have := u.hi1; omega
        have hlo1 : lo ≤ q.2 := by omega
        have h8 := h6.up e8
        have hlq8 := e8 _ _ hlq6
        refine st_eq (σ' := [some (.ref a0), some (.ref pen), some (.int ((i : Nat) : Int)), some (.ref a), some (.ref d), some (.ref n), some (.ref f), some (.ref cs), some (.ref wn), some (.str (kt q.1)), some (sV sn), some (.ref tp), u12]) rfl ?_
        refine q_when (b := false) (et_is (et_or (et_not (et_test (ev_cb (ea_cons (ev_var rfl) (ea_cons ev_c ea_nil)) (rc_is fun H1 e => ty_tup (st_of (e _ _ htp)))))) fun _ => et_or (et_test (ev_op (ev_cb (ea_cons (ev_var rfl) ea_nil) (fun H1 e Q q => ⟨tp, _, rfl, .inr (st_of (e _ _ htp)), q H1 (Ex.refl _)⟩)) ev_c (rv_ne rfl))) fun _ => et_not (et_test (ev_chain (a := 0) (b := ((lo : Nat) : Int)) (c := ((hi : Nat) : Int)) ev_c (ev_ix0 (ev_var rfl) (st_of htp)) (ev_ix1 (ev_var rfl) (st_of htp)) hl0 hlh))) rfl) (fun e => nomatch e) fun _ H9 e9 => ?_
        have htp9 := e9 _ _ htp
        have h9 := h8.up e9
        have hlq9 := e9 _ _ hlq8
        refine q_notN (Tb := Tb) (eb_rest (K := K) (l := l) (need := needOf Pl) (q := q) (s := sn) (m := hi) (b := true) (ea_cons (ev_var rfl) (ea_cons (ev_var rfl) (ea_cons (ev_var rfl) (ea_cons (ev_var rfl) (ea_cons (ev_var rfl) (ea_cons (ev_ix1 (ev_var rfl) (st_of htp9)) ea_nil)))))) h9.args hql hsS (iff_of_true rfl ⟨hi1, u.hi2, fun A => u.rest hS.nd hl.ok.nd hql hsh h0 rfl A⟩)) fun H10 e10 t10 => ?_
        have htp10 := e10 _ _ htp9 (fun _ => nofun)
        have h10 := h9.upN e10 t10
        have hlq10 := e10 _ _ hlq9 (fun _ => nofun)
        refine q_isN (Tb := Tb) (eb_rest (K := K) (l := l) (need := needOf Pl) (q := q) (s := sn) (m := hi + 1) (b := false) (ea_cons (ev_var rfl) (ea_cons (ev_var rfl) (ea_cons (ev_var rfl) (ea_cons (ev_var rfl) (ea_cons (ev_var rfl) (ea_cons (ev_op (ev_ix1 (ev_var rfl) (st_of htp10)) ev_c rv_I0) ea_nil)))))) h10.args hql hsS ⟨fun z => (by cases z), fun z => ?_⟩) fun H11 e11 t11 => ?_
        · obtain ⟨z1, z2, z3⟩ := z
          obtain ⟨A, hA⟩ := u.more hS.nd hl.ok.nd hql hsh (n := hi + 1) rfl z1 z2
          have := z3 A
          omega
        have htp11 := e11 _ _ htp10 (fun _ => nofun)
        have h11 := h10.upN e11 t11
        have hlq11 := e11 _ _ hlq10 (fun _ => nofun)
        refine q_notN (Tb := Tb) (eb_barred (K := K) (l := l) (need := needOf Pl) (q := q) (s := sn) (m := lo) (b := true) (ea_cons (ev_var rfl) (ea_cons (ev_var rfl) (ea_cons (ev_var rfl) (ea_cons (ev_var rfl) (ea_cons (ev_var rfl) (ea_cons (ev_ix0 (ev_var rfl) (st_of htp11)) ea_nil)))))) h11.args hql hsS hlo1 (iff_of_true rfl fun A => u.bar hl.ok.nd hql hsh h0 rfl hlo1 A)) fun H12 e12 t12 => ?_
        have htp12 := e12 _ _ htp11 (fun _ => nofun)
        have h12 := h11.upN e12 t12
        have hlq12 := e12 _ _ hlq11 (fun _ => nofun)
        refine q_asg (v := .int ((lo : Nat) : Int)) (ev_ix0 (ev_var rfl) (st_of htp12)) fun H13 e13 => ?_
        have h13 := h12.up e13
        have hlq13 := e13 _ _ hlq12
        refine st_eq (σ' := [some (.ref a0), some (.ref pen), some (.int ((i : Nat) : Int)), some (.ref a), some (.ref d), some (.ref n), some (.ref f), some (.ref cs), some (.ref wn), some (.str (kt q.1)), some (sV sn), some (.ref tp), some (.int ((lo : Nat) : Int))]) rfl ?_
        refine s_when (b := decide (0 < ((lo : Nat) : Int))) (et_test (ev_op (ev_var rfl) ev_c rv_I0)) (fun hb H14 e14 => ?_) fun hb H14 e14 => ⟨⟨_, _, _, rfl⟩, h13.up e14, e14 _ _ hlq13⟩
        have hpos := of_decide_eq_true hb
        have hm1 : ((lo : Nat) : Int) - 1 = ((lo - 1 : Nat) : Int) := by omega
        refine s_isN (Tb := Tb) (eb_barred (K := K) (l := l) (need := needOf Pl) (q := q) (s := sn) (m := lo - 1) (b := false) (ea_cons (ev_var rfl) (ea_cons (ev_var rfl) (ea_cons (ev_var rfl) (ea_cons (ev_var rfl) (ea_cons (ev_var rfl) (ea_cons (ev_is (ev_op (ev_var rfl) ev_c rv_I0) (congrArg V.int hm1)) ea_nil)))))) (h13.up e14).args hql hsS (by omega) ⟨fun z => (by cases z), fun z => ?_⟩) fun H15 e15 t15 => ⟨⟨_, _, _, rfl⟩, (h13.up e14).upN e15 t15, e15 _ _ (e14 _ _ hlq13) (fun _ => nofun)⟩
        obtain ⟨A, hA⟩ := u.less hl.ok.nd hql hsh (n := lo - 1) hm1
        have := z A
        omega
      · obtain ⟨⟨u10, u11, u12, rfl⟩, h6, hlq6⟩ := c
        exact ⟨⟨_, _, _, _, rfl⟩, h6, hlq6⟩
    · obtain ⟨⟨u9, u10, u11, u12, rfl⟩, hh, hlq⟩ := c
      exact ⟨⟨_, _, _, _, _, _, _, _, _, _, _, rfl⟩, hh.pen_, hh.args.tb⟩
  · obtain ⟨⟨u2, u3, u4, u5, u6, u7, u8, u9, u10, u11, u12, rfl⟩, p3, t3⟩ := c
    exact s_ret ev_c fun H4 e4 => k H4
end P38

set_option Elab.async false
set_option linter.all false
set_option maxRecDepth 100000
set_option maxHeartbeats 0
namespace P38
open PySem PySem.Spec PyProof.Rows L2
/-! ### the part of the heap that is looked at -/
def refsZ (o : Obj) : List Addr := match o.data with
  | .seq its _ => its.toList.flatMap He.refV
  | .dict es _ => es.toList.flatMap fun e => He.refV e.val
  | .func fd => He.refV fd.code ++ (He.refV fd.defaults ++ (He.refV fd.kwdefaults ++ fd.closure.map (·.2)))
  | .cls cd => [cd.ns]
  | .fields vs => vs.toList.flatMap He.refV
  | _ => []
def nextZ (g : Addr → Option Obj) (as : List Addr) : List Addr := as.flatMap fun a => match g a with
  | some o => refsZ o
  | none => []
def asZ (g : Addr → Option Obj) : Nat → List Addr → List Addr
  | 0, fr => fr
  | n + 1, fr => fr ++ asZ g n (nextZ g fr)
def frZ (g : Addr → Option Obj) : PySem.W.Frag := He.frT g (mainGlobals :: cStatics :: asZ g 4 (nextZ g [mainGlobals]))
/-! ### functions -/
abbrev FnO : Type := Option (Str × Str × Arguments × FuncBody × Scope × Addr × List Str × Addr)
def fnO (K : PySem.W.Frag) (a : Addr) : FnO := match K.lookup a with
  | some ⟨_, _, .func fd, _⟩ => some (fd.name, fd.qualname, fd.params, fd.body, fd.scope, fd.globals, fd.closure.map (·.1), fd.builtins)
  | _ => none
/-- where it stands, its names, its text, its captured names, how many defaults, keyword defaults -/
structure FnZ where
  ad : PySem.W.Frag → Addr
  name : Str
  qual : Str
  st : Stmt
  cl : List Str := []
  dfl : Nat := 0
  kws : List (Str × V) := []
def FnZ.val (d : FnZ) : FnO := some (d.name, d.qual, defArgs d.st, .stmts (defBody d.st), defScope d.st, mainGlobals, d.cl, builtinsNs)
def dflZ (K : PySem.W.Frag) (n : Nat) (dV : Value) : Bool := match n with
  | 0 => (match dV with
    | .none => true
    | _ => false)
  | _ => (match dV with
    | .ref T => (match K.lookup T with
      | some ⟨_, _, .seq its _, _⟩ => (match its.toList with
        | [.ref _] => true
        | _ => false)
      | _ => false)
    | _ => false)
def FnZ.ok (K : PySem.W.Frag) (d : FnZ) : Bool := PySem.W.keepIn K (.ref (d.ad K)) && (match K.lookup (d.ad K) with
  | some ⟨_, _, .func fd, _⟩ => PySem.W.codeIn K fd.code d.qual && (dflZ K d.dfl fd.defaults && He.kwdB K fd.kwdefaults d.kws)
  | _ => false)
theorem FnZ.fun0 {K : PySem.W.Frag} {d : FnZ} (e : fnO K (d.ad K) = d.val) (c : d.ok K = true) : ∃ (oc : Value) (od : Option Addr) (cl : List (Str × Addr)) (dV kV doc pm : Value) (an : Option Addr) (cdv ct : Value) (osl : Array (Option Value)), cl.map (·.1) = d.cl ∧
    K.lookup (d.ad K) = some ⟨oc, od, .func (PySem.W.fnX d.name d.qual (defArgs d.st) (defBody d.st) (defScope d.st) cl dV kV doc pm an cdv ct), osl⟩ ∧ PySem.W.codeIn K cdv d.qual = true ∧ dflZ K d.dfl dV = true ∧ KwdV K kV d.kws ∧ PySem.W.keepIn K (.ref (d.ad K)) = true := by
  obtain ⟨kp, c2⟩ := He.ba c
  unfold fnO at e
  cases q : K.lookup (d.ad K) with
  | none =>
    rw [q] at c2
    cases c2
  | some o =>
    obtain ⟨oc, od, dt, osl⟩ := o
    rw [q] at c2 e
    cases dt with
    | func fd =>
      obtain ⟨n1, n2, n3, n4, n5, n6, n7, n8, n9, n10, n11, n12, n13, n14, n15⟩ := fd
      have e2 : (some (n1, n2, n3, n4, n5, n6, n7.map (·.1), n15) : FnO) = some (d.name, d.qual, defArgs d.st, .stmts (defBody d.st), defScope d.st, mainGlobals, d.cl, builtinsNs) := e
      simp only [Option.some.injEq, Prod.mk.injEq] at e2
      obtain ⟨h1, h2, h3, h4, h5, h6, h7, h8⟩ := e2
      subst h1 h2 h3 h4 h5 h6 h8
      have c3 : (PySem.W.codeIn K n13 d.qual && (dflZ K d.dfl n8 && He.kwdB K n9 d.kws)) = true := c2
      obtain ⟨k1, k2⟩ := He.ba c3
      obtain ⟨k3, k4⟩ := He.ba k2
      exact ⟨oc, od, n7, n8, n9, n10, n11, n12, n13, n14, osl, h7, rfl, k1, k3, He.kwdB_ok k4, kp⟩
    | _ => cases c2
theorem fdOf_at {K : PySem.W.Frag} {f : Addr} {oc : Value} {od : Option Addr} {fd : FuncData} {osl : Array (Option Value)} (h : K.lookup f = some ⟨oc, od, .func fd, osl⟩) : fdOf K f = fd := by
  unfold fdOf
  rw [h]
theorem FnZ.funD {K : PySem.W.Frag} {d : FnZ} (hc : d.cl = []) (hn : d.dfl = 0) (e : fnO K (d.ad K) = d.val) (c : d.ok K = true) : FunD K d.name d.qual (defArgs d.st) (defBody d.st) (defScope d.st) [] d.kws (d.ad K) (fdOf K (d.ad K)) := by
  obtain ⟨oc, od, cl, dV, kV, doc, pm, an, cdv, ct, osl, h1, h2, h3, h4, h5, h6⟩ := FnZ.fun0 e c
  rw [hc] at h1
  rw [hn] at h4
  have hcl : cl = [] := List.map_eq_nil_iff.mp h1
  rw [hcl] at h2
  have hd : dV = .none := by
    cases dV with
    | none => rfl
    | _ => cases h4
  exact ⟨⟨oc, od, dV, kV, doc, pm, an, cdv, ct, osl, fdOf_at h2, by rw [fdOf_at h2]; exact h2, h3, .inl ⟨rfl, hd⟩, h5⟩, h6⟩
theorem dflZ_ok {K : PySem.W.Frag} {dV : Value} (h : dflZ K 1 dV = true) : ∃ (T : Addr) (o : Obj) (a : Addr) (n : Nat), dV = .ref T ∧ K.lookup T = some o ∧ o.data = .seq [Value.ref a].toArray n := by
  unfold dflZ at h
  cases dV with
  | ref T =>
    have h1 : (match K.lookup T with
      | some ⟨_, _, .seq its _, _⟩ => (match its.toList with
        | [.ref _] => true
        | _ => false)
      | _ => false) = true := h
    cases q : K.lookup T with
    | none => rw [q] at h1; cases h1
    | some ob =>
      obtain ⟨oc, od, dt, osl⟩ := ob
      rw [q] at h1
      cases dt with
      | seq its n =>
        have h2 : (match its.toList with
          | [.ref _] => true
          | _ => false) = true := h1
        cases hl : its.toList with
        | nil => rw [hl] at h2; cases h2
        | cons v r =>
          rw [hl] at h2
          cases v with
          | ref a =>
            cases r with
            | nil => exact ⟨T, _, a, n, rfl, q, by show Data.seq its n = _; rw [← hl]⟩
            | cons _ _ => cases h2
          | _ => cases h2
      | _ => cases h1
  | _ => cases h
theorem FnZ.funD1 {K : PySem.W.Frag} {d : FnZ} (hc : d.cl = []) (hn : d.dfl = 1) (e : fnO K (d.ad K) = d.val) (c : d.ok K = true) : ∃ dvs : List V, dvs.length = 1 ∧ FunD K d.name d.qual (defArgs d.st) (defBody d.st) (defScope d.st) dvs d.kws (d.ad K) (fdOf K (d.ad K)) := by
  obtain ⟨oc, od, cl, dV, kV, doc, pm, an, cdv, ct, osl, h1, h2, h3, h4, h5, h6⟩ := FnZ.fun0 e c
  rw [hc] at h1
  rw [hn] at h4
  have hcl : cl = [] := List.map_eq_nil_iff.mp h1
  rw [hcl] at h2
  obtain ⟨T, ob, a, n, rfl, q, hd⟩ := dflZ_ok h4
  exact ⟨[.ref a], rfl, ⟨oc, od, _, kV, doc, pm, an, cdv, ct, osl, fdOf_at h2, by rw [fdOf_at h2]; exact h2, h3, .inr ⟨List.cons_ne_nil _ _, T, ob, [.ref a], n, rfl, q, hd, .cons rfl .nil⟩, h5⟩, h6⟩
/-! ### a property -/
def propB (K : PySem.W.Frag) (C : Addr) (a : Str) (g : Addr) : Bool := He.eqO (PySem.W.findIn K (.ref C) a) (some (some (.ref (He.ma K C a)))) && (He.eqO (PySem.W.specialIn K (.ref (He.ma K C a)) "__get__") (some (some (.builtin "property.__get__"))) && (decide (PySem.W.takesIn K (.ref (He.ma K C a)) = some true) && (match PySem.W.recIn K (He.ma K C a) "property" with
  | some (.ref g' :: _) => decide (g' = g)
  | _ => false)))
theorem propB_ok {K : PySem.W.Frag} {C : Addr} {a : Str} {g : Addr} (h : propB K C a g = true) : PropOf K C a (He.ma K C a) g := by
  obtain ⟨h1, h⟩ := He.ba h
  obtain ⟨h2, h⟩ := He.ba h
  obtain ⟨h3, h4⟩ := He.ba h
  refine ⟨He.eqO_ok h1, He.eqO_ok h2, of_decide_eq_true h3, ?_⟩
  cases q : PySem.W.recIn K (He.ma K C a) "property" with
  | none => rw [q] at h4; cases h4
  | some vs =>
    rw [q] at h4
    cases vs with
    | nil => cases h4
    | cons v r =>
      cases v with
      | ref g' =>
        have : g' = g := of_decide_eq_true h4
        rw [this]
        exact ⟨r, rfl⟩
      | _ => cases h4
def insB (K : PySem.W.Frag) (C : Addr) : Bool := He.eqO (PySem.W.findIn K (.ref C) "__class__") (some (some (.builtin "object.__class__"))) && (He.eqO (PySem.W.specialIn K (.builtin "object.__class__") "__get__") (some (some (.builtin "getset_descriptor.__get__"))) && (decide (PySem.W.takesIn K (.builtin "object.__class__") = some true) && (decide (PySem.W.mroIn K C (.type "object") = some true) && decide (PySem.W.kitOne K (.ref C) (.ref C) = some true))))
theorem insB_ok {K : PySem.W.Frag} {C : Addr} (cl : Cls K C) (h : insB K C = true) : C8.InsC K C := by
  obtain ⟨h1, h⟩ := He.ba h
  obtain ⟨h2, h⟩ := He.ba h
  obtain ⟨h3, h⟩ := He.ba h
  obtain ⟨h4, h5⟩ := He.ba h
  exact ⟨cl, He.eqO_ok h1, He.eqO_ok h2, of_decide_eq_true h3, of_decide_eq_true h4, of_decide_eq_true h5⟩
/-! ### Case.__init__, which calls super() -/
def supB (P : Program) (K : PySem.W.Frag) : Bool := (match K.lookup (f_Case_init K) with
  | some ⟨_, _, .func fd, _⟩ => (match fd.closure with
    | [(_, cc)] => (match K.lookup cc with
      | some ⟨_, _, .cell (some (.ref C)), _⟩ => decide (C = C_Case K)
      | _ => false)
    | _ => false) && (match fd.code with
    | .ref cda => (match K.lookup cda with
      | some ⟨_, _, .fields cvs, _⟩ => (match (cvs[2]? : Option Value) with
        | some (.str file _) => (P.main.file : Str) == file
        | _ => false)
      | _ => false)
    | _ => false)
  | _ => false) && ((PySem.W.clsIn K (C_Case K)).isSome && (decide (PySem.W.mroIn K (C_Case K) (.ref (C_Case K)) = some true) && (He.eqO (PySem.W.nsIn K cStatics "thirdparty.any") (some none) && (He.eqO (PySem.W.ks_superIn K (C_Case K) (C_Case K) "__init__") (some (some (.ref (f_Pile_init K)))) && (PySem.W.fnIn K (f_Pile_init K) && He.eqO (some (PySem.W.typeIn K (.ref (f_Pile_init K)))) (some (some (.type "function"))))))))

def zf_is_integer : FnZ := { ad := f_is_integer, name := "is_integer", qual := "is_integer", st := s_is_integer }
def zf_is_between : FnZ := { ad := f_is_between, name := "is_between", qual := "is_between", st := s_is_between }
def zf_is_list : FnZ := { ad := f_is_list, name := "is_list", qual := "is_list", st := s_is_list }
def zf_is_tuple_of : FnZ := { ad := f_is_tuple_of, name := "is_tuple_of", qual := "is_tuple_of", st := s_is_tuple_of }
def zf_is_sign : FnZ := { ad := f_is_sign, name := "is_sign", qual := "is_sign", st := s_is_sign }
def zf_is_kind : FnZ := { ad := f_is_kind, name := "is_kind", qual := "is_kind", st := s_is_kind }
def zf_need_kind : FnZ := { ad := f_need_kind, name := "need_kind", qual := "need_kind", st := s_need_kind }
def zf_need_sign : FnZ := { ad := f_need_sign, name := "need_sign", qual := "need_sign", st := s_need_sign }
def zf_need_one_font : FnZ := { ad := f_need_one_font, name := "need_one_font", qual := "need_one_font", st := s_need_one_font }
def zf_number_of_sets : FnZ := { ad := f_number_of_sets, name := "number_of_sets", qual := "number_of_sets", st := s_number_of_sets }
def zf_mask_of : FnZ := { ad := f_mask_of, name := "mask_of", qual := "mask_of", st := s_mask_of }
def zf_subset_sums : FnZ := { ad := f_subset_sums, name := "subset_sums", qual := "subset_sums", st := s_subset_sums, kws := [("sign", .int 1)] }
def zf_bearings_of : FnZ := { ad := f_bearings_of, name := "bearings_of", qual := "bearings_of", st := s_bearings_of }
def zf_wants_by_mask : FnZ := { ad := f_wants_by_mask, name := "wants_by_mask", qual := "wants_by_mask", st := s_wants_by_mask }
def zf_stock_of : FnZ := { ad := f_stock_of, name := "stock_of", qual := "stock_of", st := s_stock_of }
def zf_amounts_of : FnZ := { ad := f_amounts_of, name := "amounts_of", qual := "amounts_of", st := s_amounts_of }
def zf_slacks : FnZ := { ad := f_slacks, name := "slacks", qual := "slacks", st := s_slacks }
def zf_slacks_of : FnZ := { ad := f_slacks_of, name := "slacks_of", qual := "slacks_of", st := s_slacks_of }
def zf_need_hanging : FnZ := { ad := f_need_hanging, name := "need_hanging", qual := "need_hanging", st := s_need_hanging }
def zf_most_here : FnZ := { ad := f_most_here, name := "most_here", qual := "most_here", st := s_most_here }
def zf_use_range : FnZ := { ad := f_use_range, name := "use_range", qual := "use_range", st := s_use_range }
def zf_is_font_text : FnZ := { ad := f_is_font_text, name := "is_font_text", qual := "is_font_text", st := s_is_font_text }
def zf_are_turns : FnZ := { ad := f_are_turns, name := "are_turns", qual := "are_turns", st := s_are_turns }
def zf_Font_init : FnZ := { ad := f_Font_init, name := "__init__", qual := "Font.__init__", st := s_Font_init, dfl := 1 }
def zf_Font_eq : FnZ := { ad := f_Font_eq, name := "__eq__", qual := "Font.__eq__", st := s_Font_eq }
def zf_Font_len : FnZ := { ad := f_Font_len, name := "__len__", qual := "Font.__len__", st := s_Font_len }
def zf_Font_signs : FnZ := { ad := f_Font_signs, name := "signs", qual := "Font.signs", st := s_Font_signs }
def zf_Font_ascending : FnZ := { ad := f_Font_ascending, name := "ascending", qual := "Font.ascending", st := s_Font_ascending }
def zf_Font_normal : FnZ := { ad := f_Font_normal, name := "normal", qual := "Font.normal", st := s_Font_normal }
def zf_Font_seen : FnZ := { ad := f_Font_seen, name := "seen", qual := "Font.seen", st := s_Font_seen }
def zf_kind_key : FnZ := { ad := f_kind_key, name := "kind_key", qual := "kind_key", st := s_kind_key }
def zf_ordered : FnZ := { ad := f_ordered, name := "ordered", qual := "ordered", st := s_ordered }
def zf_checked_counts : FnZ := { ad := f_checked_counts, name := "checked_counts", qual := "checked_counts", st := s_checked_counts }
def zf_Pile_init : FnZ := { ad := f_Pile_init, name := "__init__", qual := "Pile.__init__", st := s_Pile_init }
def zf_Pile_font : FnZ := { ad := f_Pile_font, name := "font", qual := "Pile.font", st := s_Pile_font }
def zf_Pile_plates : FnZ := { ad := f_Pile_plates, name := "plates", qual := "Pile.plates", st := s_Pile_plates }
def zf_Case_init : FnZ := { ad := f_Case_init, name := "__init__", qual := "Case.__init__", st := s_Case_init, cl := ["__class__"], dfl := 1 }
def zf_Case_getitem : FnZ := { ad := f_Case_getitem, name := "__getitem__", qual := "Case.__getitem__", st := s_Case_getitem }
def zf_are_counts : FnZ := { ad := f_are_counts, name := "are_counts", qual := "are_counts", st := s_are_counts }
def zf_Wants_init : FnZ := { ad := f_Wants_init, name := "__init__", qual := "Wants.__init__", st := s_Wants_init }
def zf_Wants_getitem : FnZ := { ad := f_Wants_getitem, name := "__getitem__", qual := "Wants.__getitem__", st := s_Wants_getitem }
def zf_Wants_font : FnZ := { ad := f_Wants_font, name := "font", qual := "Wants.font", st := s_Wants_font }
def zf__law_pen : FnZ := { ad := f__law_pen, name := "_law_pen", qual := "_law_pen", st := s__law_pen }
def zf__law_draw : FnZ := { ad := f__law_draw, name := "_law_draw", qual := "_law_draw", st := s__law_draw }
def zf__law_pick : FnZ := { ad := f__law_pick, name := "_law_pick", qual := "_law_pick", st := s__law_pick }
def zf__law_shuffled : FnZ := { ad := f__law_shuffled, name := "_law_shuffled", qual := "_law_shuffled", st := s__law_shuffled }
def zf__law_font : FnZ := { ad := f__law_font, name := "_law_font", qual := "_law_font", st := s__law_font }
def zf__law_turns : FnZ := { ad := f__law_turns, name := "_law_turns", qual := "_law_turns", st := s__law_turns }
def zf__law_made_font : FnZ := { ad := f__law_made_font, name := "_law_made_font", qual := "_law_made_font", st := s__law_made_font }
def zf__law_shows : FnZ := { ad := f__law_shows, name := "_law_shows", qual := "_law_shows", st := s__law_shows }
def zf__law_kinds : FnZ := { ad := f__law_kinds, name := "_law_kinds", qual := "_law_kinds", st := s__law_kinds }
def zf__law_stock : FnZ := { ad := f__law_stock, name := "_law_stock", qual := "_law_stock", st := s__law_stock }
def zf__law_made_case : FnZ := { ad := f__law_made_case, name := "_law_made_case", qual := "_law_made_case", st := s__law_made_case }
def zf__law_planned : FnZ := { ad := f__law_planned, name := "_law_planned", qual := "_law_planned", st := s__law_planned }
def zf__law_shown : FnZ := { ad := f__law_shown, name := "_law_shown", qual := "_law_shown", st := s__law_shown }
def zf__law_made_wants : FnZ := { ad := f__law_made_wants, name := "_law_made_wants", qual := "_law_made_wants", st := s__law_made_wants }
def zf__law_sets : FnZ := { ad := f__law_sets, name := "_law_sets", qual := "_law_sets", st := s__law_sets }
def zf__law_gaps : FnZ := { ad := f__law_gaps, name := "_law_gaps", qual := "_law_gaps", st := s__law_gaps }
def zf__law_rest_hangs : FnZ := { ad := f__law_rest_hangs, name := "_law_rest_hangs", qual := "_law_rest_hangs", st := s__law_rest_hangs }
def zf__law_hangs_barred : FnZ := { ad := f__law_hangs_barred, name := "_law_hangs_barred", qual := "_law_hangs_barred", st := s__law_hangs_barred }
def zf_law : FnZ := { ad := f_law, name := "law", qual := "law", st := s_law }
def fnsZ : List FnZ := [zf_is_integer, zf_is_between, zf_is_list, zf_is_tuple_of, zf_is_sign, zf_is_kind, zf_need_kind, zf_need_sign, zf_need_one_font, zf_number_of_sets, zf_mask_of, zf_subset_sums, zf_bearings_of, zf_wants_by_mask, zf_stock_of, zf_amounts_of, zf_slacks, zf_slacks_of, zf_need_hanging, zf_most_here, zf_use_range, zf_is_font_text, zf_are_turns, zf_Font_init, zf_Font_eq, zf_Font_len, zf_Font_signs, zf_Font_ascending, zf_Font_normal, zf_Font_seen, zf_kind_key, zf_ordered, zf_checked_counts, zf_Pile_init, zf_Pile_font, zf_Pile_plates, zf_Case_init, zf_Case_getitem, zf_are_counts, zf_Wants_init, zf_Wants_getitem, zf_Wants_font, zf__law_pen, zf__law_draw, zf__law_pick, zf__law_shuffled, zf__law_font, zf__law_turns, zf__law_made_font, zf__law_shows, zf__law_kinds, zf__law_stock, zf__law_made_case, zf__law_planned, zf__law_shown, zf__law_made_wants, zf__law_sets, zf__law_gaps, zf__law_rest_hangs, zf__law_hangs_barred, zf_law]
def factsZ : List He.Fa := [.free "len", .free "isinstance", .free "int", .free "bool", .free "str", .free "list", .free "tuple", .free "dict", .free "sorted", .free "sum", .free "all", .free "min", .free "max", .free "abs", .free "enumerate", .free "zip", .free "range", .free "super", .glo "is_integer", .glo "is_between", .glo "is_list", .glo "is_tuple_of", .glo "is_sign", .glo "is_kind", .glo "need_kind", .glo "need_sign", .glo "need_one_font", .glo "number_of_sets", .glo "mask_of", .glo "subset_sums", .glo "bearings_of", .glo "wants_by_mask", .glo "stock_of", .glo "amounts_of", .glo "slacks", .glo "slacks_of", .glo "need_hanging", .glo "most_here", .glo "use_range", .glo "is_font_text", .glo "are_turns", .glo "kind_key", .glo "ordered", .glo "checked_counts", .glo "are_counts", .glo "_law_pen", .glo "_law_draw", .glo "_law_pick", .glo "_law_shuffled", .glo "_law_font", .glo "_law_turns", .glo "_law_made_font", .glo "_law_shows", .glo "_law_kinds", .glo "_law_stock", .glo "_law_made_case", .glo "_law_planned", .glo "_law_shown", .glo "_law_made_wants", .glo "_law_sets", .glo "_law_gaps", .glo "_law_rest_hangs", .glo "_law_hangs_barred", .glo "law", .glo "Font", .glo "Case", .glo "Wants", .cls "Font", .cls "Pile", .cls "Case", .cls "Wants", .mkr "Font", .mkr "Case", .mkr "Wants", .noat "Font" "word", .noat "Font" "ranks", .noat "Font" "heads", .noat "Pile" "own_font", .noat "Case" "own_font", .noat "Wants" "own_font", .noat "Pile" "stock", .noat "Case" "stock", .noat "Wants" "numbers", .meth "Font" "normal", .meth "Font" "seen", .meth "Font" "ascending", .str "BLANK" "-", .str "SIGNS" "0123456789abcdefghijklmnopqrstuvwxyz", .int "LEAST_SIGNS" 2, .int "MAX_COUNT_checks" (10 ^ 30), .int "MAX_COUNT_cases" (10 ^ 30)]
def tfZ : List He.Defn := [("ordered", none), ("_law_sets", none)]
def moreZ (K : PySem.W.Frag) : List Bool := [
  propB K (C_Font K) "signs" (f_Font_signs K),
  propB K (C_Case K) "font" (f_Pile_font K),
  propB K (C_Wants K) "font" (f_Wants_font K),
  propB K (C_Case K) "plates" (f_Pile_plates K),
  He.eqO (PySem.W.findIn K (.ref (C_Case K)) "__getitem__") (some (some (.ref (f_Case_getitem K)))),
  PySem.W.fnIn K (f_Case_getitem K),
  PySem.W.isFn K (.ref (f_Case_getitem K)),
  He.eqO (PySem.W.findIn K (.ref (C_Wants K)) "__getitem__") (some (some (.ref (f_Wants_getitem K)))),
  PySem.W.fnIn K (f_Wants_getitem K),
  PySem.W.isFn K (.ref (f_Wants_getitem K)),
  He.eqO (PySem.W.findIn K (.ref (C_Font K)) "__len__") (some (some (.ref (f_Font_len K)))),
  PySem.W.isFn K (.ref (f_Font_len K)),
  He.eqO (PySem.W.findIn K (.ref (C_Font K)) "__ne__") (some (some (.builtin "object.__ne__"))),
  He.eqO (PySem.W.findIn K (.ref (C_Font K)) "__eq__") (some (some (.ref (f_Font_eq K)))),
  PySem.W.isFn K (.ref (f_Font_eq K)),
  decide (PySem.W.mroIn K (C_Font K) (.type "object") = some true),
  insB K (C_Font K),
  He.conB K "Font" "MAX_SIGNS" (.int 10),
  decide ((He.cT K ("ordered", none)).2 ≠ (He.cT K ("_law_sets", none)).2)]
def exZ (P : Program) (K : PySem.W.Frag) : Bool := (factsZ.all fun f => f.ok K) && ((fnsZ.all fun d => d.ok K) && ((moreZ K).all id && supB P K))
/-! ### the Hook -/
abbrev AlZ : Type := List FnO × Bool
def obsZ (P : Program) (g : Addr → Option Obj) : AlZ := (fnsZ.map fun d => fnO (frZ g) (d.ad (frZ g)), exZ P (frZ g) && He.tabsB g tfZ (frZ g))
def valZ : AlZ := (fnsZ.map FnZ.val, true)
structure SaysZ (P : Program) (h : Heap) (K : PySem.W.Frag) : Prop where
  fns : (fnsZ.map fun d => fnO K (d.ad K)) = fnsZ.map FnZ.val
  ex : exZ P K = true
  hd : ∀ p ∈ tfZ, PySem.W.codeHdIn K (He.cT K p).1 (He.cT K p).2 = true
  out : ∀ p ∈ tfZ, K.lookup (He.cT K p).2 = none
  empty : ∀ p ∈ tfZ, h.get? (He.cT K p).2 = some { cls := .none, data := .fields #[] }
theorem saysZ_of {P : Program} {h : Heap} (e : obsZ P h.get? = valZ) : SaysZ P h (frZ h.get?) := by
  have e1 : (fnsZ.map fun d => fnO (frZ h.get?) (d.ad (frZ h.get?))) = fnsZ.map FnZ.val := congrArg (fun z : AlZ => z.1) e
  have e2 : (exZ P (frZ h.get?) && He.tabsB h.get? tfZ (frZ h.get?)) = true := congrArg (fun z : AlZ => z.2) e
  obtain ⟨h1, h2⟩ := He.ba e2
  have key : ∀ p ∈ tfZ, PySem.W.codeHdIn (frZ h.get?) (He.cT (frZ h.get?) p).1 (He.cT (frZ h.get?) p).2 = true ∧ ∃ o, h.get? (He.cT (frZ h.get?) p).2 = some o ∧ He.emptyTab o = true := fun p hp => by
    obtain ⟨h3, h4⟩ := He.ba (List.all_eq_true.mp h2 p hp)
    refine ⟨h3, ?_⟩
    cases q : h.get? (He.cT (frZ h.get?) p).2 with
    | none =>
      rw [q] at h4
      cases h4
    | some o =>
      rw [q] at h4
      exact ⟨o, rfl, h4⟩
  exact ⟨e1, h1, fun p hp => (key p hp).1, fun p hp => by
    obtain ⟨_, o, q, z⟩ := key p hp
    exact He.frT_none q z, fun p hp => by
    obtain ⟨_, o, q, z⟩ := key p hp
    rw [q, He.emptyTab_eq z]⟩
def hookZ (P : Program) : PySem.W.Hook where
  α := AlZ
  obs := fun s => obsZ P s.heap.get?
  val := fun _ => valZ
  says := fun _ h => ∃ K : PySem.W.Frag, K.In h ∧ SaysZ P h K
  of := fun _ _ e => ⟨_, He.frT_in, saysZ_of e⟩
  keeps := fun _ _ _ ⟨K, hK, c⟩ k => ⟨K, PySem.W.Frag.In.keeps hK k, ⟨c.fns, c.ex, c.hd, c.out, fun p hp => k _ _ (c.empty p hp)⟩⟩
theorem obsZ_eq {P : Program} {g : Addr → Option Obj} {s : Shared} (h : ∀ a, g a = s.heap.get? a) : obsZ P g = (hookZ P).obs s := by
  have e : g = s.heap.get? := funext h
  rw [e] <;> rfl
section
variable {P : Program} {K : PySem.W.Frag} {h : Heap}
theorem SaysZ.fn (c : SaysZ P h K) (i : Nat) {d : FnZ} (hd : fnsZ[i]? = some d) : fnO K (d.ad K) = d.val ∧ d.ok K = true := by
  have e2 : (fnsZ.map fun d => fnO K (d.ad K))[i]? = (fnsZ.map FnZ.val)[i]? := by rw [c.fns]
  rw [List.getElem?_map, List.getElem?_map, hd] at e2
  have c1 := (He.ba (He.ba c.ex).2).1
  exact ⟨Option.some.inj e2, List.all_eq_true.mp c1 d (List.mem_of_getElem? hd)⟩
theorem SaysZ.fact (c : SaysZ P h K) (i : Nat) {f : He.Fa} (hf : factsZ[i]? = some f) : f.ok K = true := List.all_eq_true.mp (He.ba c.ex).1 f (List.mem_of_getElem? hf)
theorem SaysZ.more (c : SaysZ P h K) (i : Nat) {b : Bool} (hb : (moreZ K)[i]? = some b) : b = true := List.all_eq_true.mp (He.ba (He.ba (He.ba c.ex).2).2).1 b (List.mem_of_getElem? hb)
theorem SaysZ.sup (c : SaysZ P h K) : supB P K = true := (He.ba (He.ba (He.ba c.ex).2).2).2
end
theorem tx_of {P : Program} {K : PySem.W.Frag} {h : Heap} {mg : Str → Option Value} (X : K.In h) (G : h.Ns mainGlobals mg) (c : SaysZ P h K) : Tx K mg where
  z_len := He.free_ok X G (c.fact 0 (f := .free "len") rfl)
  z_isinstance := He.free_ok X G (c.fact 1 (f := .free "isinstance") rfl)
  z_int := He.free_ok X G (c.fact 2 (f := .free "int") rfl)
  z_bool := He.free_ok X G (c.fact 3 (f := .free "bool") rfl)
  z_str := He.free_ok X G (c.fact 4 (f := .free "str") rfl)
  z_list := He.free_ok X G (c.fact 5 (f := .free "list") rfl)
  z_tuple := He.free_ok X G (c.fact 6 (f := .free "tuple") rfl)
  z_dict := He.free_ok X G (c.fact 7 (f := .free "dict") rfl)
  z_sorted := He.free_ok X G (c.fact 8 (f := .free "sorted") rfl)
  z_sum := He.free_ok X G (c.fact 9 (f := .free "sum") rfl)
  z_all := He.free_ok X G (c.fact 10 (f := .free "all") rfl)
  z_min := He.free_ok X G (c.fact 11 (f := .free "min") rfl)
  z_max := He.free_ok X G (c.fact 12 (f := .free "max") rfl)
  z_abs := He.free_ok X G (c.fact 13 (f := .free "abs") rfl)
  z_enumerate := He.free_ok X G (c.fact 14 (f := .free "enumerate") rfl)
  z_zip := He.free_ok X G (c.fact 15 (f := .free "zip") rfl)
  z_range := He.free_ok X G (c.fact 16 (f := .free "range") rfl)
  z_super := He.free_ok X G (c.fact 17 (f := .free "super") rfl)
  m_is_integer := He.glo_ok X G (c.fact 18 (f := .glo "is_integer") rfl)
  m_is_between := He.glo_ok X G (c.fact 19 (f := .glo "is_between") rfl)
  m_is_list := He.glo_ok X G (c.fact 20 (f := .glo "is_list") rfl)
  m_is_tuple_of := He.glo_ok X G (c.fact 21 (f := .glo "is_tuple_of") rfl)
  m_is_sign := He.glo_ok X G (c.fact 22 (f := .glo "is_sign") rfl)
  m_is_kind := He.glo_ok X G (c.fact 23 (f := .glo "is_kind") rfl)
  m_need_kind := He.glo_ok X G (c.fact 24 (f := .glo "need_kind") rfl)
  m_need_sign := He.glo_ok X G (c.fact 25 (f := .glo "need_sign") rfl)
  m_need_one_font := He.glo_ok X G (c.fact 26 (f := .glo "need_one_font") rfl)
  m_number_of_sets := He.glo_ok X G (c.fact 27 (f := .glo "number_of_sets") rfl)
  m_mask_of := He.glo_ok X G (c.fact 28 (f := .glo "mask_of") rfl)
  m_subset_sums := He.glo_ok X G (c.fact 29 (f := .glo "subset_sums") rfl)
  m_bearings_of := He.glo_ok X G (c.fact 30 (f := .glo "bearings_of") rfl)
  m_wants_by_mask := He.glo_ok X G (c.fact 31 (f := .glo "wants_by_mask") rfl)
  m_stock_of := He.glo_ok X G (c.fact 32 (f := .glo "stock_of") rfl)
  m_amounts_of := He.glo_ok X G (c.fact 33 (f := .glo "amounts_of") rfl)
  m_slacks := He.glo_ok X G (c.fact 34 (f := .glo "slacks") rfl)
  m_slacks_of := He.glo_ok X G (c.fact 35 (f := .glo "slacks_of") rfl)
  m_need_hanging := He.glo_ok X G (c.fact 36 (f := .glo "need_hanging") rfl)
  m_most_here := He.glo_ok X G (c.fact 37 (f := .glo "most_here") rfl)
  m_use_range := He.glo_ok X G (c.fact 38 (f := .glo "use_range") rfl)
  m_is_font_text := He.glo_ok X G (c.fact 39 (f := .glo "is_font_text") rfl)
  m_are_turns := He.glo_ok X G (c.fact 40 (f := .glo "are_turns") rfl)
  m_kind_key := He.glo_ok X G (c.fact 41 (f := .glo "kind_key") rfl)
  m_ordered := He.glo_ok X G (c.fact 42 (f := .glo "ordered") rfl)
  m_checked_counts := He.glo_ok X G (c.fact 43 (f := .glo "checked_counts") rfl)
  m_are_counts := He.glo_ok X G (c.fact 44 (f := .glo "are_counts") rfl)
  m__law_pen := He.glo_ok X G (c.fact 45 (f := .glo "_law_pen") rfl)
  m__law_draw := He.glo_ok X G (c.fact 46 (f := .glo "_law_draw") rfl)
  m__law_pick := He.glo_ok X G (c.fact 47 (f := .glo "_law_pick") rfl)
  m__law_shuffled := He.glo_ok X G (c.fact 48 (f := .glo "_law_shuffled") rfl)
  m__law_font := He.glo_ok X G (c.fact 49 (f := .glo "_law_font") rfl)
  m__law_turns := He.glo_ok X G (c.fact 50 (f := .glo "_law_turns") rfl)
  m__law_made_font := He.glo_ok X G (c.fact 51 (f := .glo "_law_made_font") rfl)
  m__law_shows := He.glo_ok X G (c.fact 52 (f := .glo "_law_shows") rfl)
  m__law_kinds := He.glo_ok X G (c.fact 53 (f := .glo "_law_kinds") rfl)
  m__law_stock := He.glo_ok X G (c.fact 54 (f := .glo "_law_stock") rfl)
  m__law_made_case := He.glo_ok X G (c.fact 55 (f := .glo "_law_made_case") rfl)
  m__law_planned := He.glo_ok X G (c.fact 56 (f := .glo "_law_planned") rfl)
  m__law_shown := He.glo_ok X G (c.fact 57 (f := .glo "_law_shown") rfl)
  m__law_made_wants := He.glo_ok X G (c.fact 58 (f := .glo "_law_made_wants") rfl)
  m__law_sets := He.glo_ok X G (c.fact 59 (f := .glo "_law_sets") rfl)
  m__law_gaps := He.glo_ok X G (c.fact 60 (f := .glo "_law_gaps") rfl)
  m__law_rest_hangs := He.glo_ok X G (c.fact 61 (f := .glo "_law_rest_hangs") rfl)
  m__law_hangs_barred := He.glo_ok X G (c.fact 62 (f := .glo "_law_hangs_barred") rfl)
  m_law := He.glo_ok X G (c.fact 63 (f := .glo "law") rfl)
  m_Font := He.glo_ok X G (c.fact 64 (f := .glo "Font") rfl)
  m_Case := He.glo_ok X G (c.fact 65 (f := .glo "Case") rfl)
  m_Wants := He.glo_ok X G (c.fact 66 (f := .glo "Wants") rfl)
  d_is_integer := (zf_is_integer).funD rfl rfl (c.fn 0 rfl).1 (c.fn 0 rfl).2
  d_is_between := (zf_is_between).funD rfl rfl (c.fn 1 rfl).1 (c.fn 1 rfl).2
  d_is_list := (zf_is_list).funD rfl rfl (c.fn 2 rfl).1 (c.fn 2 rfl).2
  d_is_tuple_of := (zf_is_tuple_of).funD rfl rfl (c.fn 3 rfl).1 (c.fn 3 rfl).2
  d_is_sign := (zf_is_sign).funD rfl rfl (c.fn 4 rfl).1 (c.fn 4 rfl).2
  d_is_kind := (zf_is_kind).funD rfl rfl (c.fn 5 rfl).1 (c.fn 5 rfl).2
  d_need_kind := (zf_need_kind).funD rfl rfl (c.fn 6 rfl).1 (c.fn 6 rfl).2
  d_need_sign := (zf_need_sign).funD rfl rfl (c.fn 7 rfl).1 (c.fn 7 rfl).2
  d_need_one_font := (zf_need_one_font).funD rfl rfl (c.fn 8 rfl).1 (c.fn 8 rfl).2
  d_number_of_sets := (zf_number_of_sets).funD rfl rfl (c.fn 9 rfl).1 (c.fn 9 rfl).2
  d_mask_of := (zf_mask_of).funD rfl rfl (c.fn 10 rfl).1 (c.fn 10 rfl).2
  d_subset_sums := (zf_subset_sums).funD rfl rfl (c.fn 11 rfl).1 (c.fn 11 rfl).2
  d_bearings_of := (zf_bearings_of).funD rfl rfl (c.fn 12 rfl).1 (c.fn 12 rfl).2
  d_wants_by_mask := (zf_wants_by_mask).funD rfl rfl (c.fn 13 rfl).1 (c.fn 13 rfl).2
  d_stock_of := (zf_stock_of).funD rfl rfl (c.fn 14 rfl).1 (c.fn 14 rfl).2
  d_amounts_of := (zf_amounts_of).funD rfl rfl (c.fn 15 rfl).1 (c.fn 15 rfl).2
  d_slacks := (zf_slacks).funD rfl rfl (c.fn 16 rfl).1 (c.fn 16 rfl).2
  d_slacks_of := (zf_slacks_of).funD rfl rfl (c.fn 17 rfl).1 (c.fn 17 rfl).2
  d_need_hanging := (zf_need_hanging).funD rfl rfl (c.fn 18 rfl).1 (c.fn 18 rfl).2
  d_most_here := (zf_most_here).funD rfl rfl (c.fn 19 rfl).1 (c.fn 19 rfl).2
  d_use_range := (zf_use_range).funD rfl rfl (c.fn 20 rfl).1 (c.fn 20 rfl).2
  d_is_font_text := (zf_is_font_text).funD rfl rfl (c.fn 21 rfl).1 (c.fn 21 rfl).2
  d_are_turns := (zf_are_turns).funD rfl rfl (c.fn 22 rfl).1 (c.fn 22 rfl).2
  d_Font_init := (zf_Font_init).funD1 rfl rfl (c.fn 23 rfl).1 (c.fn 23 rfl).2
  d_Font_eq := (zf_Font_eq).funD rfl rfl (c.fn 24 rfl).1 (c.fn 24 rfl).2
  d_Font_len := (zf_Font_len).funD rfl rfl (c.fn 25 rfl).1 (c.fn 25 rfl).2
  d_Font_signs := (zf_Font_signs).funD rfl rfl (c.fn 26 rfl).1 (c.fn 26 rfl).2
  d_Font_ascending := (zf_Font_ascending).funD rfl rfl (c.fn 27 rfl).1 (c.fn 27 rfl).2
  d_Font_normal := (zf_Font_normal).funD rfl rfl (c.fn 28 rfl).1 (c.fn 28 rfl).2
  d_Font_seen := (zf_Font_seen).funD rfl rfl (c.fn 29 rfl).1 (c.fn 29 rfl).2
  d_kind_key := (zf_kind_key).funD rfl rfl (c.fn 30 rfl).1 (c.fn 30 rfl).2
  d_ordered := (zf_ordered).funD rfl rfl (c.fn 31 rfl).1 (c.fn 31 rfl).2
  d_checked_counts := (zf_checked_counts).funD rfl rfl (c.fn 32 rfl).1 (c.fn 32 rfl).2
  d_Pile_init := (zf_Pile_init).funD rfl rfl (c.fn 33 rfl).1 (c.fn 33 rfl).2
  d_Pile_font := (zf_Pile_font).funD rfl rfl (c.fn 34 rfl).1 (c.fn 34 rfl).2
  d_Pile_plates := (zf_Pile_plates).funD rfl rfl (c.fn 35 rfl).1 (c.fn 35 rfl).2
  d_Case_getitem := (zf_Case_getitem).funD rfl rfl (c.fn 37 rfl).1 (c.fn 37 rfl).2
  d_are_counts := (zf_are_counts).funD rfl rfl (c.fn 38 rfl).1 (c.fn 38 rfl).2
  d_Wants_init := (zf_Wants_init).funD rfl rfl (c.fn 39 rfl).1 (c.fn 39 rfl).2
  d_Wants_getitem := (zf_Wants_getitem).funD rfl rfl (c.fn 40 rfl).1 (c.fn 40 rfl).2
  d_Wants_font := (zf_Wants_font).funD rfl rfl (c.fn 41 rfl).1 (c.fn 41 rfl).2
  d__law_pen := (zf__law_pen).funD rfl rfl (c.fn 42 rfl).1 (c.fn 42 rfl).2
  d__law_draw := (zf__law_draw).funD rfl rfl (c.fn 43 rfl).1 (c.fn 43 rfl).2
  d__law_pick := (zf__law_pick).funD rfl rfl (c.fn 44 rfl).1 (c.fn 44 rfl).2
  d__law_shuffled := (zf__law_shuffled).funD rfl rfl (c.fn 45 rfl).1 (c.fn 45 rfl).2
  d__law_font := (zf__law_font).funD rfl rfl (c.fn 46 rfl).1 (c.fn 46 rfl).2
  d__law_turns := (zf__law_turns).funD rfl rfl (c.fn 47 rfl).1 (c.fn 47 rfl).2
  d__law_made_font := (zf__law_made_font).funD rfl rfl (c.fn 48 rfl).1 (c.fn 48 rfl).2
  d__law_shows := (zf__law_shows).funD rfl rfl (c.fn 49 rfl).1 (c.fn 49 rfl).2
  d__law_kinds := (zf__law_kinds).funD rfl rfl (c.fn 50 rfl).1 (c.fn 50 rfl).2
  d__law_stock := (zf__law_stock).funD rfl rfl (c.fn 51 rfl).1 (c.fn 51 rfl).2
  d__law_made_case := (zf__law_made_case).funD rfl rfl (c.fn 52 rfl).1 (c.fn 52 rfl).2
  d__law_planned := (zf__law_planned).funD rfl rfl (c.fn 53 rfl).1 (c.fn 53 rfl).2
  d__law_shown := (zf__law_shown).funD rfl rfl (c.fn 54 rfl).1 (c.fn 54 rfl).2
  d__law_made_wants := (zf__law_made_wants).funD rfl rfl (c.fn 55 rfl).1 (c.fn 55 rfl).2
  d__law_sets := (zf__law_sets).funD rfl rfl (c.fn 56 rfl).1 (c.fn 56 rfl).2
  d__law_gaps := (zf__law_gaps).funD rfl rfl (c.fn 57 rfl).1 (c.fn 57 rfl).2
  d__law_rest_hangs := (zf__law_rest_hangs).funD rfl rfl (c.fn 58 rfl).1 (c.fn 58 rfl).2
  d__law_hangs_barred := (zf__law_hangs_barred).funD rfl rfl (c.fn 59 rfl).1 (c.fn 59 rfl).2
  d_law := (zf_law).funD rfl rfl (c.fn 60 rfl).1 (c.fn 60 rfl).2
  cl_Font := He.cls_ok (c.fact 67 (f := .cls "Font") rfl)
  cl_Pile := He.cls_ok (c.fact 68 (f := .cls "Pile") rfl)
  cl_Case := He.cls_ok (c.fact 69 (f := .cls "Case") rfl)
  cl_Wants := He.cls_ok (c.fact 70 (f := .cls "Wants") rfl)
  k_Font := He.mkr_ok (c.fact 71 (f := .mkr "Font") rfl)
  k_Case := He.mkr_ok (c.fact 72 (f := .mkr "Case") rfl)
  k_Wants := He.mkr_ok (c.fact 73 (f := .mkr "Wants") rfl)
  n_Font_word := He.noat_ok (c.fact 74 (f := .noat "Font" "word") rfl)
  n_Font_ranks := He.noat_ok (c.fact 75 (f := .noat "Font" "ranks") rfl)
  n_Font_heads := He.noat_ok (c.fact 76 (f := .noat "Font" "heads") rfl)
  n_Pile_own_font := He.noat_ok (c.fact 77 (f := .noat "Pile" "own_font") rfl)
  n_Case_own_font := He.noat_ok (c.fact 78 (f := .noat "Case" "own_font") rfl)
  n_Wants_own_font := He.noat_ok (c.fact 79 (f := .noat "Wants" "own_font") rfl)
  n_Pile_stock := He.noat_ok (c.fact 80 (f := .noat "Pile" "stock") rfl)
  n_Case_stock := He.noat_ok (c.fact 81 (f := .noat "Case" "stock") rfl)
  n_Wants_numbers := He.noat_ok (c.fact 82 (f := .noat "Wants" "numbers") rfl)
  M_Font_normal := He.meth_ok (c.fact 83 (f := .meth "Font" "normal") rfl)
  M_Font_seen := He.meth_ok (c.fact 84 (f := .meth "Font" "seen") rfl)
  M_Font_ascending := He.meth_ok (c.fact 85 (f := .meth "Font" "ascending") rfl)
  p_Font_signs := propB_ok (c.more 0 rfl)
  p_Case_font := propB_ok (c.more 1 rfl)
  p_Wants_font := propB_ok (c.more 2 rfl)
  p_Case_plates := propB_ok (c.more 3 rfl)
  i_Case := He.eqO_ok (c.more 4 rfl)
  j_Case := (c.more 5 rfl)
  h_Case := (c.more 6 rfl)
  i_Wants := He.eqO_ok (c.more 7 rfl)
  j_Wants := (c.more 8 rfl)
  h_Wants := (c.more 9 rfl)
  i_len := He.eqO_ok (c.more 10 rfl)
  h_len := (c.more 11 rfl)
  ne_Font := He.eqO_ok (c.more 12 rfl)
  eq_Font := He.eqO_ok (c.more 13 rfl)
  eqf_Font := (c.more 14 rfl)
  obj_Font := of_decide_eq_true (c.more 15 rfl)
  is_Font := insB_ok (He.cls_ok (c.fact 67 (f := .cls "Font") rfl)) (c.more 16 rfl)
  max_Font := He.conB_ok (c.more 17 rfl)
  c_BLANK := He.str_ok X G (c.fact 86 (f := .str "BLANK" "-") rfl)
  c_SIGNS := He.str_ok X G (c.fact 87 (f := .str "SIGNS" "0123456789abcdefghijklmnopqrstuvwxyz") rfl)
  c_LEAST_SIGNS := He.int_ok X G (c.fact 88 (f := .int "LEAST_SIGNS" 2) rfl)
  c_MAX_COUNT_checks := He.int_ok X G (c.fact 89 (f := .int "MAX_COUNT_checks" (10 ^ 30)) rfl)
  c_MAX_COUNT_cases := He.int_ok X G (c.fact 90 (f := .int "MAX_COUNT_cases" (10 ^ 30)) rfl)
theorem tabs_ne {P : Program} {K : PySem.W.Frag} {h : Heap} (c : SaysZ P h K) : (He.cT K ("ordered", none)).2 ≠ (He.cT K ("_law_sets", none)).2 := of_decide_eq_true (c.more 18 rfl)
theorem case_fn {P : Program} {K : PySem.W.Frag} {h : Heap} (c : SaysZ P h K) : fnO K (f_Case_init K) = (zf_Case_init).val ∧ (zf_Case_init).ok K = true := c.fn 36 (d := zf_Case_init) rfl
theorem ord_fn {P : Program} {K : PySem.W.Frag} {h : Heap} (c : SaysZ P h K) : fnO K (f_ordered K) = (zf_ordered).val ∧ (zf_ordered).ok K = true := c.fn 31 (d := zf_ordered) rfl
theorem sets_fn {P : Program} {K : PySem.W.Frag} {h : Heap} (c : SaysZ P h K) : fnO K (f__law_sets K) = (zf__law_sets).val ∧ (zf__law_sets).ok K = true := c.fn 56 (d := zf__law_sets) rfl
end P38

set_option Elab.async false
set_option linter.all false
set_option maxRecDepth 100000
set_option maxHeartbeats 0
namespace P38
open PySem PySem.Spec PyProof.Rows L2
abbrev R : PySem.W.OpenRow := PySem.W.OpenLaw.row PySem.Challenge.rw_hymnplates_k38_whole_uses_of_great_cases
def loose0 : List PySem.Str := ["_wall", "InvalidFont", "InvalidTurns", "InvalidKind", "InvalidPlates", "InvalidSigns", "InvalidWants", "InvalidRow", "InvalidNumber", "InvalidText", "OtherFont", "UnknownSign", "Lacking", "TooMany", "TooFew", "BLANK", "MAX_COUNT_checks", "is_integer", "is_between", "is_list", "is_tuple_of", "is_sign", "is_row", "is_kind", "need_number", "need_sign", "need_kind", "need_signs", "need_one_font", "number_of_sets"]
def loose1 : List PySem.Str := ["set_of", "mask_of", "subset_sums", "bearings_of", "wants_by_mask", "stock_of", "amounts_of", "slacks", "slacks_of", "least_worst", "need_hanging", "most_here", "use_range", "SIGNS", "LEAST_SIGNS", "is_font_text", "are_turns", "Font", "DIGITS", "MAX_DIGITS", "number_in", "format_case", "Reader", "read_case", "MAX_COUNT_cases", "kind_key", "ordered", "checked_counts", "Pile", "Case"]
def loose2 : List PySem.Str := ["meets", "need_few", "are_counts", "Wants", "_law_pen", "_law_draw", "_law_pick", "_law_shuffled", "_law_font", "_law_turns", "_law_made_font", "_law_shows", "_law_kinds", "_law_stock", "_law_made_case", "_law_planned", "_law_shown", "_law_made_wants", "_law_sets", "_law_gaps", "_law_rest_hangs", "_law_hangs_barred"]
def looseAll : List PySem.Str := loose0 ++ (loose1 ++ (loose2))
abbrev hk : PySem.W.Hook := hookZ R.prog
def ob (s : PySem.W.SharedT) : AlZ := obsZ R.prog (HandSHeadRun.getT s)
theorem ob_eq (s : PySem.W.SharedT) : ob s = hk.obs s.abs := obsZ_eq (HandSHeadRun.getT_eq s)
end P38

set_option Elab.async false
set_option linter.all false
set_option maxRecDepth 100000
set_option maxHeartbeats 0
namespace P38
open PySem PySem.Spec PyProof.Rows L2 HandSHeadRun PySem.W
theorem run2 (w : World) (os : OsState) : (endF (stepQ (denQ tabQ) R.prog w) 30000 R.prog w os).map (fun s => looksF R.prog (boot_heap w.params) s.abs) = some true := by
  kernel_rfl
end P38

set_option Elab.async false
set_option linter.all false
set_option maxRecDepth 100000
set_option maxHeartbeats 0
namespace P38
open PySem PySem.Spec PyProof.Rows L2 HandSHeadRun PySem.W
theorem run3 (w : World) (os : OsState) : (endF (stepQ (denQ tabQ) R.prog w) 30000 R.prog w os).map (fun s => seenQ (PySem.W.view R.prog [92]) looseAll (importedModules R.prog.main.body) (fun s => xlAt (PySem.W.view R.prog [92]) [] s && recOk R.toRowW.records s) s.abs) = some (openGood (PySem.W.view R.prog [92]) looseAll) := by
  kernel_rfl
end P38

set_option Elab.async false
set_option linter.all false
set_option maxRecDepth 100000
set_option maxHeartbeats 0
namespace P38
open PySem PySem.Spec PyProof.Rows L2 HandSHeadRun PySem.W
theorem run4 (w : World) (os : OsState) : (endF (stepQ (denQ tabQ) R.prog w) 30000 R.prog w os).map (fun s => ob s) = some (hk.val w) := by
  kernel_rfl
end P38

set_option Elab.async false
set_option linter.all false
set_option maxRecDepth 100000
set_option maxHeartbeats 4000000
namespace P38
open PySem PySem.Spec PyProof.Rows L2 LamX HandSHeadRun PySem.W
theorem run (w : World) : RunEq R (PySem.W.view R.prog [92]) hk ob 30000 looseAll w := fun os => by
  obtain ⟨s, hs, h1⟩ := Option.map_eq_some_iff.mp (run2 w os)
  have h2 := run3 w os
  have h3 := run4 w os
  rw [hs] at h2 h3 ⊢
  exact congrArg some (Prod.ext h1 (Prod.ext (Option.some.inj h2) (Option.some.inj h3)))
theorem supC_of {P : Program} {K : PySem.W.Frag} {h : Heap} {mg : Str → Option Value} (c : SaysZ P h K) (hs : mg "super" = none) (ht : (P.main.scope.names.lookup ("super" : Str)).isSome = false) : SupC P K mg := by
  obtain ⟨e1, e2⟩ := case_fn c
  obtain ⟨oc, od, cl, dV, kV, doc, pm, an, cdv, ct, osl, h1, h2, h3, h4, h5, h6⟩ := FnZ.fun0 e1 e2
  have h1 : cl.map (·.1) = (["__class__"] : List Str) := h1
  obtain ⟨nm, cc, rfl, rfl⟩ : ∃ (nm : Str) (cc : Addr), cl = [(nm, cc)] ∧ nm = "__class__" := by
    cases cl with
    | nil => cases h1
    | cons p r =>
      cases r with
      | nil => exact ⟨p.1, p.2, rfl, (List.cons.inj h1).1⟩
      | cons _ _ => cases (List.cons.inj h1).2
  obtain ⟨cda, rfl⟩ := He.codeIn_ref h3
  have h2 : K.lookup (f_Case_init K) = some ⟨oc, od, .func (PySem.W.fnX "__init__" "Case.__init__" (defArgs s_Case_init) (defBody s_Case_init) (defScope s_Case_init) [("__class__", cc)] dV kV doc pm an (.ref cda) ct), osl⟩ := h2
  have h3 : PySem.W.codeIn K (.ref cda) "Case.__init__" = true := h3
  obtain ⟨TT, o, a0, n, rfl, q, hd⟩ := dflZ_ok (show dflZ K 1 dV = true from h4)
  have b := c.sup
  unfold supB at b
  rw [h2] at b
  obtain ⟨b1, b⟩ := He.ba b
  obtain ⟨b2, b⟩ := He.ba b
  obtain ⟨b3, b⟩ := He.ba b
  obtain ⟨b4, b⟩ := He.ba b
  obtain ⟨b5, b⟩ := He.ba b
  obtain ⟨b6, b7⟩ := He.ba b
  obtain ⟨b8, b9⟩ := He.ba b1
  have b8 : (match K.lookup cc with
      | some ⟨_, _, .cell (some (.ref C)), _⟩ => decide (C = C_Case K)
      | _ => false) = true := b8
  have b9 : (match K.lookup cda with
      | some ⟨_, _, .fields cvs, _⟩ => (match (cvs[2]? : Option Value) with
        | some (.str file _) => (P.main.file : Str) == file
        | _ => false)
      | _ => false) = true := b9
  refine ⟨cc, cda, ⟨⟨oc, _, kV, doc, pm, ct, an, od, osl, by rw [fdOf_at h2]; exact h2, fdOf_at h2⟩, h3, ?_, ?_, Option.isSome_iff_exists.mp b2, of_decide_eq_true b3, hs, He.eqO_ok b4, He.eqO_ok b5, b6, ?_, ht⟩, TT, kV, doc, pm, ct, an, o, [.ref a0], n, fdOf_at h2, q, hd, rfl⟩
  · cases z : K.lookup cda with
    | none => rw [z] at b9; cases b9
    | some ob =>
      obtain ⟨c1, c2, dt, c4⟩ := ob
      rw [z] at b9
      cases dt with
      | fields cvs =>
        have b9 : (match (cvs[2]? : Option Value) with
          | some (.str file _) => (P.main.file : Str) == file
          | _ => false) = true := b9
        cases y : (cvs[2]? : Option Value) with
        | none => rw [y] at b9; cases b9
        | some v =>
          rw [y] at b9
          cases v with
          | str file tf => exact ⟨c1, c2, c4, cvs, file, tf, rfl, y, b9⟩
          | _ => cases b9
      | _ => cases b9
  · cases z : K.lookup cc with
    | none => rw [z] at b8; cases b8
    | some ob =>
      obtain ⟨c1, c2, dt, c4⟩ := ob
      rw [z] at b8
      cases dt with
      | cell v =>
        cases v with
        | none => cases b8
        | some v =>
          cases v with
          | ref C =>
            have : C = C_Case K := of_decide_eq_true b8
            rw [this]
            exact ⟨c1, c2, c4, rfl⟩
          | _ => cases b8
      | _ => cases b8
  · exact Option.some.inj (He.eqO_ok b7)
/-- the tables of code objects -/
def TbOf (K : PySem.W.Frag) : List (Addr × Str) := [((He.cT K ("ordered", none)).2, "ordered.<locals>.<lambda>"), ((He.cT K ("_law_sets", none)).2, "_law_sets.<locals>.<lambda>")]
theorem lm_of {K : PySem.W.Frag} {base : Heap} {mg : Str → Option Value} {Tb : List (Addr × Str)} {x q : Str} {st : Stmt} (e : FunD K x x (defArgs st) (defBody st) (defScope st) [] [] (He.ga K x) (fdOf K (He.ga K x))) (t : TabB base mg (He.cT K (x, none)).1 (He.cT K (x, none)).2)
    (hm : ((He.cT K (x, none)).2, q) ∈ Tb) (hu : ∀ t ∈ Tb, t.1 = (He.cT K (x, none)).2 → t.2 = q) : Lm K base mg Tb x q st (He.ga K x) := by
  obtain ⟨⟨oc, od, dV, kV, doc, pm, an, cdv, ct, osl, h1, h2, h3, h4, h5⟩, kp⟩ := e
  obtain ⟨c, rfl⟩ := He.codeIn_ref h3
  have hd : dV = .none := by
    rcases h4 with ⟨_, h⟩ | ⟨h, _⟩
    · exact h
    · exact absurd rfl h
  subst hd
  rw [h1] at h2
  have hc : (He.cT K (x, none)).1 = c := He.codeOf_eq (p := (x, none)) h2 rfl
  rw [hc] at t
  exact ⟨c, _, oc, kV, doc, pm, ct, od, an, osl, h2, h3, t, hm, hu⟩
theorem law_at {w : World} {K : PySem.W.Frag} {mg : Str → Option Value} {h : Heap} (X : K.In h) (G : h.Ns mainGlobals mg) (c : SaysZ R.prog h K) : LawAtS PySem.Challenge.rw_hymnplates_k38_whole_uses_of_great_cases w K CX0 30 63 "_law_script" mg (f_law K) h := by
  have T := tx_of X G c
  have hC : SupC R.prog K mg := supC_of c T.z_super (by decide +kernel)
  have b := FunD.bindsA (ps := ["_law_script"]) T.d_law fun _ _ _ _ _ _ us hl => match us, hl with | [_], _ => rfl
  have hne := tabs_ne c
  refine ⟨fdOf K (f_law K), tfZ.map (He.cT K), sp_law K (TbOf K), fun p hp => ?_, fun p hp => ?_, fun p hp => ?_, fun s v => b s [v] rfl, fun H a ns _ _ hT hS => ⟨a, ns, rfl, hS, fun p hp => ?_, fun _ => rfl⟩, fun base hb hG hT => ?_⟩
  · obtain ⟨q, hq, rfl⟩ := List.mem_map.mp hp
    exact c.empty q hq
  · obtain ⟨q, hq, rfl⟩ := List.mem_map.mp hp
    exact c.out q hq
  · obtain ⟨q, hq, rfl⟩ := List.mem_map.mp hp
    exact PySem.W.codeHd_of_K X (c.hd q hq)
  · unfold TbOf at hp
    rcases List.mem_cons.mp hp with rfl | hp
    · exact TabS.nil (hT _ (List.mem_map.mpr ⟨("ordered", none), List.mem_cons_self, rfl⟩))
    · rw [List.mem_singleton.mp hp]
      exact TabS.nil (hT _ (List.mem_map.mpr ⟨("_law_sets", none), List.mem_cons_of_mem _ List.mem_cons_self, rfl⟩))
  · refine ok_law T (lm_of (x := "ordered") T.d_ordered (hT _ (List.mem_map.mpr ⟨("ordered", none), List.mem_cons_self, rfl⟩)) List.mem_cons_self fun t ht e => ?_) (lm_of (x := "_law_sets") T.d__law_sets (hT _ (List.mem_map.mpr ⟨("_law_sets", none), List.mem_cons_of_mem _ List.mem_cons_self, rfl⟩)) (List.mem_cons_of_mem _ List.mem_cons_self) fun t ht e => ?_) hC
    · rcases List.mem_cons.mp ht with rfl | ht
      · rfl
      · rw [List.mem_singleton.mp ht] at e
        exact absurd e.symm hne
    · rcases List.mem_cons.mp ht with rfl | ht
      · exact absurd e hne
      · rw [List.mem_singleton.mp ht]
end P38
open PySem PySem.W PySem.Calls PyProof.Rows
theorem PySem.Challenge.cw_hymnplates_k38_whole_uses_of_great_cases_holds : PySem.Challenge.rw_hymnplates_k38_whole_uses_of_great_cases.Holds := by
  w_on; o_law
  refine HandSHeadRun.head_any (r := OpenLaw.row PySem.Challenge.rw_hymnplates_k38_whole_uses_of_great_cases) (q := view (OpenLaw.row PySem.Challenge.rw_hymnplates_k38_whole_uses_of_great_cases).prog [92]) (H := P38.hk) (ob := P38.ob) (M := 30000) (loose := P38.looseAll) (d := HandSHeadRun.topDef (OpenLaw.row PySem.Challenge.rw_hymnplates_k38_whole_uses_of_great_cases).prog 92) (kwd := []) P38.ob_eq
    (by kernel_rfl) (fun s => by kernel_rfl) P38.run (by kernel_rfl) (by kernel_rfl) (by kernel_rfl) (by rfl) (by first | assumption | decide +kernel) (by decide +kernel) ⟨rfl, rfl, rfl, rfl, rfl, by decide +kernel⟩ ?hw ?hc
  case hw => w_witness2
  case hc =>
    refine LamX.walk_ofTsE (l := PySem.Challenge.rw_hymnplates_k38_whole_uses_of_great_cases) (n := 63) (k := 30) (x := "_law_script") (CX := fun _ => L2.CX0) rfl (by decide) (by kernel_rfl) ⟨rfl, by decide, by decide⟩ ?F (fun _ _ _ _ _ z => z)
    intro w mg fa h Y G hmg0
    obtain ⟨K, KX, c⟩ := Y
    have hmg : mg ("law" : PySem.Str) = some (.ref fa) := by
      have e : (HandSHeadRun.topDef (OpenLaw.row PySem.Challenge.rw_hymnplates_k38_whole_uses_of_great_cases).prog 92).name = ("law" : PySem.Str) := by kernel_rfl
      rw [← e]
      exact hmg0
    have e := hmg.symm.trans (P38.tx_of KX G c).m_law
    cases e
    exact ⟨K, KX, P38.law_at KX G c⟩

