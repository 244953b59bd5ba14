import PyProof.Rows.All
import Wide.All
import OpenK.AllK
import Wide.FinOn
import HandS.Strs
import HandS.Zip
import HandS.ExcOwn
import HandS.ExcIs
import KE.DataCmp
import PyProof.ListStr
import HandS.More
import KE.SortData
import HandS.Deep
import KE.GoesMore
import KE.GoesZip
import HandS.Iter
import HandS.ForMost
import HandS.ForExc
import HandS.Wide
import HandS.IsInst
import HandS.Style
import HandS.Conv
import HandS.Text
import HandS.Replace
import HandS.TupAny
import HandS.Dict
import HandS.Small
import HandS.HeadHook2
import HandS.HotCalls
import HandS.EndBits
import PyProof.StrLawsFirst
import PyProof.Rows.StrFin3
import HandS.Head0
import HandS.Head1
import HandS.Head2
import HandS.HeadEnd
import HandS.ReplaceList
import PySem.Challenge.RW_cablehouse_k09_torn_words
set_option Elab.async false
set_option linter.all false
set_option maxRecDepth 100000
set_option maxHeartbeats 0
namespace PDS
open PySem PySem.Spec PyProof.Rows
theorem sub_str_set : isSubtype (.type "str") (.type "set") = pure false := by rw [isSubtype_type]; kernel_rfl
theorem sub_str_frz : isSubtype (.type "str") (.type "frozenset") = pure false := by rw [isSubtype_type]; kernel_rfl
/-- so many signs met -/
def met (xs : List Nat) (i : Nat) (y : Str) : Bool := (xs.take i).any fun c => (⟨#[c]⟩ : Str) == y
theorem met_succ {xs : List Nat} {i c : Nat} (h : xs[i]? = some c) (y : Str) : met xs (i + 1) y = (met xs i y || decide (y = ⟨#[c]⟩)) := by
  unfold met
  rw [List.take_add_one, h, List.any_append]
  show (_ || ((⟨#[c]⟩ == y) || false)) = _
  rw [Bool.or_false]
  congr 1
  by_cases e : y = ⟨#[c]⟩
  · subst e; simp
  · rw [decide_eq_false e, beq_eq_false_iff_ne]
    exact fun z => e z.symm
/-- how many unlike ones among so many -/
def dst (xs : List Nat) : Nat → Nat
  | 0 => 0
  | i + 1 => dst xs i + (match xs[i]? with
    | some c => if met xs i ⟨#[c]⟩ = true then 0 else 1
    | none => 0)
theorem dst_succ {xs : List Nat} {i c : Nat} (h : xs[i]? = some c) : dst xs (i + 1) = if met xs i ⟨#[c]⟩ = true then dst xs i else dst xs i + 1 := by
  show dst xs i + (match xs[i]? with
    | some c => if met xs i ⟨#[c]⟩ = true then 0 else 1
    | none => 0) = _
  rw [h]
  show dst xs i + (if met xs i ⟨#[c]⟩ = true then 0 else 1) = _
  split <;> omega
theorem dst_le (xs : List Nat) : ∀ i, dst xs i ≤ i
  | 0 => Nat.le_refl _
  | i + 1 => by
    have := dst_le xs i
    unfold dst
    split
    · split <;> omega
    · omega
section
variable {prog : Program} {w : World} {A : Around} {R : Result → Shared → Prop} {I : Addr} {fp wr : List Addr} {n : Nat} {x : Str} {St : Nat → Heap → Prop}
theorem loopSigns (W : Walks prog w A.in1 I fp wr n (SignAt x) St) (S : Addr) (hSf : S ∉ fp) (hsz : x.cps.size = n) (hb : n + 1 < scanBound) :
    ∀ (k i : Nat) (s : Shared), n - i = k → i ≤ n → St i s.heap → s.heap.SetOf (PySem.strKind prog w) S (met x.cps.toList i) (dst x.cps.toList i) →
      (∀ h' tk, h'.SetOf (PySem.strKind prog w) S (met x.cps.toList n) (dst x.cps.toList n) → (∀ b o, b ∉ S :: wr → s.heap.get? b = some o → h'.get? b = some o) → R (.ok (.ret .none)) { s with heap := h', toks := tk }) →
      codeAny (model prog w) A (.builtin "set.update.loop" ⟨[.ref S, .ref I], []⟩) R s := by
  have hSw : S ∉ wr := fun h => hSf (W.sub _ h)
  intro k
  induction k with
  | zero =>
    intro i s hk hi hst hS hR
    have hin : i = n := by omega
    subst hin
    refine codeAny_builtin F.entry_set_update_loop ?_
    rw [Around.under_plainId F.plain_set_update_loop _]
    show wpAny _ A.in1 (pyNext (.ref I) >>= _) _ _ s
    refine wpAny_bind (W.done s _ _ hst fun h' tk hm => ?_)
    show wpAny _ A.in1 (ret Value.none) _ _ _
    refine wpAny_pure (hR h' tk ?_ fun b o hb e => hm b o (fun z => hb (List.mem_cons_of_mem _ z)) e)
    obtain ⟨o, es, ep, t, ho, rest⟩ := hS
    exact ⟨o, es, ep, t, hm S _ hSw ho, rest⟩
  | succ k ih =>
    intro i s hk hi hst hS hR
    have hlt : i < n := by omega
    refine codeAny_builtin F.entry_set_update_loop ?_
    rw [Around.under_plainId F.plain_set_update_loop _]
    show wpAny _ A.in1 (pyNext (.ref I) >>= _) _ _ s
    refine wpAny_bind (W.item i s _ _ hlt hst fun v h1 tk1 hP hst' hm => ?_)
    obtain ⟨c, t, hc, rfl⟩ := hP
    have hc2 : x.cps.toList[i]? = some c := by rw [Array.getElem?_toList]; exact hc
    have hS' : h1.SetOf (PySem.strKind prog w) S (met x.cps.toList i) (dst x.cps.toList i) := by
      obtain ⟨o, es, ep, tb, ho, rest⟩ := hS
      exact ⟨o, es, ep, tb, hm S _ hSw ho, rest⟩
    show wpAny _ A.in1 (holding [Value.str ⟨#[c]⟩ t] (setAdd S (.str ⟨#[c]⟩ t)) >>= _) _ _ _
    refine wpAny_bind (wpAny_holding ?_)
    unfold setAdd
    refine wpAny_holding ?_
    refine wpAny_bind ((PySem.strKind prog w).pyHash (k := (⟨#[c]⟩ : Str)) (strKind_is _ _ _ _) ?_)
    refine wpAny_setAddHashed_of (knd := PySem.strKind prog w) (s := { s with heap := h1, toks := tk1 + 1 }) (strKind_is _ _ _ _) rfl hS' (by have := dst_le x.cps.toList i; omega) fun h' hsb hS2 => ?_
    have hSi : h'.SetOf (PySem.strKind prog w) S (met x.cps.toList (i + 1)) (dst x.cps.toList (i + 1)) :=
      SetOf_congr hS2 (fun y => (met_succ hc2 y).symm) (dst_succ hc2).symm
    refine wpAny_pure ⟨plainId_quiet F.plain_set_update_loop _, ih (i + 1) _ (by omega) hlt (W.frame _ h1 _ hst' fun b hb o e => ?_) hSi fun h'' tk' hS'' hk'' => ?_⟩
    · rw [hsb.2 b (fun h : b = S => hSf (by rw [← h]; exact hb))]; exact e
    · refine hR h'' tk' hS'' fun b o hb e => hk'' b o hb ?_
      rw [hsb.2 b (fun h : b = S => hb (by rw [h]; exact List.mem_cons_self))]
      exact hm b o (fun z => hb (List.mem_cons_of_mem _ z)) e
end
section
variable {prog : Program} {w : World} {A : Around} {E : Value → Shared → Prop} {s : Shared}
theorem call_set_signs {x : Str} {u : Tok} {Q : Value → Shared → Prop} (hh : A.handled = none) (hb : x.cps.size + 1 < scanBound)
    (h : ∀ (h' : Heap) (tk : Nat), h'.SetOf (PySem.strKind prog w) s.heap.objs.size (met x.cps.toList x.cps.size) (dst x.cps.toList x.cps.size) → (∀ b o, b < s.heap.objs.size → s.heap.get? b = some o → h'.get? b = some o) → Q (.ref s.heap.objs.size) { s with heap := h', toks := tk }) :
    wpAny (model prog w) A (call (.type "set") [.str x u]) Q E s := by
  obtain ⟨c, tl, hmro⟩ := PySem.F.called_set.mro
  have hmade := PySem.F.called_set.made
  have hsub := PySem.F.called_set.sub
  refine wpAny_call (codeAny_of_tree ?_)
  show wpAny _ _ (callAny (.type "set") _) _ _ _
  refine wpAny_pure ⟨Code.quiet_builtin _ (by decide +kernel), codeAny_builtin PySem.F.entry_type_call ?_⟩
  rw [Around.under_plain (weight_type_call_type "set" [.str x u] []) rfl]
  have h1 := PySem.F.called_set.notType
  have h2 := PySem.F.called_set.canCreate
  have hct := PySem.F.typeCall_set_1 (.str x u)
  repeat (any_goals (first | assumption | wp_step))
  refine codeAny_mono (code_set_new_1 (.str x u) (E := E) (Q₁ := fun obj s₁ => ∃ led : Bool, obj = .ref s.heap.objs.size ∧ s₁ = { s with heap := s.heap.push { cls := .type "set", dict := none, data := .set #[] 0 (.fresh 0 0 led) } }) fun led => ⟨led, rfl, rfl⟩) fun r s₁ hr => ?_
  cases r with
  | error e => exact hr
  | ok fl =>
    cases fl with
    | ret obj =>
      obtain ⟨led, rfl, rfl⟩ := hr
      have hS : (s.heap.push { cls := .type "set", dict := none, data := .set #[] 0 (.fresh 0 0 led) }).get? s.heap.objs.size = some { cls := .type "set", dict := none, data := .set #[] 0 (.fresh 0 0 led) } := Heap.get?_push_size _ rfl
      have hT : Shared.TypeIs { s with heap := s.heap.push { cls := .type "set", dict := none, data := .set #[] 0 (.fresh 0 0 led) } } (.ref s.heap.objs.size) "set" := ⟨_, hS, rfl⟩
      have hli := PySem.F.called_set.init.lookup
      have hbi := PySem.F.called_set.init.bind (.ref s.heap.objs.size)
      repeat (any_goals (first | assumption | wp_step))
      refine codeAny_mono (codeAny_call_builtin (R := wants (fun r s₂ => r = .none ∧ ∃ h' tk, s₂ = { s with heap := h', toks := tk } ∧
          h'.SetOf (PySem.strKind prog w) s.heap.objs.size (met x.cps.toList x.cps.size) (dst x.cps.toList x.cps.size) ∧ (∀ b o, b < s.heap.objs.size → s.heap.get? b = some o → h'.get? b = some o)) E) PySem.F.called_set.init.plain PySem.F.entry_set_init (check_set_init_1 hT ?_)) fun r₂ s₂ hr₂ => ?_
      · have hsls := sub_str_set
        have hslf := sub_str_frz
        have hne : (Value.type "str" == Value.type "dict") = false := by decide
        unfold Builtin.«set.__init__» noKeywords Builtin.Frozenset.updateFrom
        generalize hPI : pyIter = PI
        wp_walk
        subst hPI
        refine wpAny_pyIter_str fun o St hW hst => ?_
        refine wpAny_bind (wpAny_runValue ?_)
        have hh3 : A.in1.in1.in1.handled = none := by simp [hh]
        refine loopSigns (hW _ hh3) s.heap.objs.size (by rw [Heap.size_push]; simp) rfl hb (x.cps.size - 0) 0 _ (by omega) (Nat.zero_le _) hst ?hS0 ?hR
        case hS0 =>
          exact SetOf_congr ((setObjOf_fresh (knd := PySem.strKind prog w) led).setOf (Heap.get?_push_of_some _ hS) (by unfold scanBound; omega)) (fun _ => rfl) rfl
        case hR =>
          intro h' tk' hS' hm
          show wpAny _ _ _ _ _ _
          refine wpAny_pure ?_
          show wpAny _ _ (ret Value.none) _ _ _
          refine wpAny_pure ⟨rfl, h', tk', rfl, hS', fun b o hb e => ?_⟩
          refine hm b o (fun z => ?_) (Heap.get?_push_of_some _ (Heap.get?_push_of_some _ e))
          rw [Heap.size_push] at z
          rcases List.mem_cons.mp z with e | e
          · exact absurd e (Nat.ne_of_lt hb)
          · exact absurd (List.mem_singleton.mp e) (Nat.ne_of_lt (Nat.lt_succ_of_lt hb))
      · cases r₂ with
        | error e => exact hr₂
        | ok fl₂ =>
          cases fl₂ with
          | ret r =>
            obtain ⟨rfl, h', tk, rfl, hS', hk'⟩ := hr₂
            repeat (any_goals (first | assumption | wp_step))
            exact h _ _ hS' hk'
          | _ => exact hr₂.elim
    | _ => exact hr.elim
end
end PDS
namespace PD
open PySem PySem.Spec PyProof.Rows L2
def tLenSet (ta : TE) : TE := fun σ H Q => ta σ H fun x H1 => ∃ y : Str, x = .str y ∧ y.length + 1 < scanBound ∧ Q (.int ((PDS.dst y.cps.toList y.length : Nat) : Int)) H1
theorem pe_lenSet {X : Cx} {a : Expr} {ta : TE} {p p2 q pos : Pos} (hc : X.calm = true) (hg : Gl X "len") (hm : X.mg "len" = none) (hg2 : Gl X "set") (hm2 : X.mg "set" = none) (ha : PE X a ta)
    (na : starEach [a] X.env = (false, eval a X.env) :: starEach [] X.env) : PE X (.Call (.Name "len" p) [.Call (.Name "set" p2) [a] [] q] [] pos) (tLenSet ta) := by
  refine ⟨fun pins s σ H Q I h => ?_⟩
  refine Call_ (ld_blt I hg hm boot_len ?_)
  refine PyProof.Rows.callWith_builtin1 (PyProof.Rows.args_cons ?_ rfl) rfl rfl
  refine Call_ (ld_blt I hg2 hm2 boot_set ?_)
  refine PyProof.Rows.callWith_type1 (PyProof.Rows.args_cons (thn (ha.run pins s σ H _ I h) fun v s1 ⟨x, H1, I1, r1, q1⟩ => PyProof.Rows.args_nil ?_) na) na rfl
  obtain ⟨y, rfl, h1, q1⟩ := q1
  obtain ⟨t, rfl⟩ := r1
  refine PDS.call_set_signs (I1.ok.hd hc) h1 fun h' tk hS hk => ?_
  refine PyProof.Rows.args_nil ?_
  obtain ⟨o, es, ep, t2, ho, hex, hd, _, _, _, hf, hn⟩ := hS
  have I2 : Inv X pins σ H1 { s1 with heap := h', toks := tk } := I1.kept fun b o e => hk b o (Heap.lt_size e) e
  have hd2 := PDS.dst_le y.cps.toList y.cps.size
  have h1' : y.cps.size + 1 < scanBound := h1
  refine call_len_set ho hex hd hf (by rw [hn]; unfold scanBound at h1'; omega) ⟨.int _, H1, I2.tok _, ⟨tk + 1, by rw [hn]; rfl⟩, q1⟩
theorem ht_of {o : Expr} {name : Str} {apos pos : Pos} {args : List Expr} {env : PySem.Env} (hbase : attributeBase o name env (eval o env) = eval o env)
    (hform : methodCallForm (args.length + ([] : List Keyword).length) (backTo pos (starEach args env)) (backToKw pos (keywordEach [] env)) = true) (hline : (apos.endLine == pos.line) = true) :
    eval (.Call (.Attribute o name apos) args [] pos) env = (do
      let ov ← eval o env
      standAt apos.atName
      let (f, first) ← holding [ov] (getMethod ov name (do return (← importBound o env).getD true))
      callWith pos f first (backTo pos (starEach args env)) (backToKw pos (keywordEach [] env))) := by
  have hpos : methodCallPos true o env apos pos = pure pos := by unfold methodCallPos; simp [hline]
  rw [arm_eval_Call, hbase]
  unfold methodCall calleeOf
  rw [hform, hpos]
  rfl
section
variable {X : Cx} {CX : CXT} {k : Nat} {f C : Addr} {fd : FuncData} {ps : List Str} {sp : Sp} {E : L2.St → XK} {x m : Str} {p pos apos : Pos} {e o : Expr} {es : List Expr} {ta : TE} {t : TA}
def tMethO (C : Addr) (m : Str) (sp : Sp) (E : L2.St → XK) (ta : TE) (t : TA) : TE := fun σ H Q => ta σ H fun x H1 => ∃ a dx fs, x = .ref a ∧ H1 a = some (.ins C dx fs) ∧ fs.lookup m = none ∧ t σ H1 fun vs H2 => sp (x :: vs) H2 Q (E σ)
theorem pe_methO {pl : Sem Bool} (he : PE X o ta) (c : Cls X.K C) (hm : Meth X.K C m f) (F : FnOk X.prog X.w X.K X.mg X.base CX k f fd ps sp) (hr : Room k X.A) (hb : Binds X.K fd ps []) (hx : ∀ σ, PassesAt CX X σ (E σ)) (ha : PA X (e :: es) t)
    (hst : starEach (e :: es) X.env = (false, eval e X.env) :: starEach es X.env) (hpl : (backTo pos (starEach es X.env)).any (·.1) = false)
    (ht : eval (.Call (.Attribute o m apos) (e :: es) [] pos) X.env = (do
      let ov ← eval o X.env
      standAt apos.atName
      let (f, first) ← holding [ov] (getMethod ov m pl)
      callWith pos f first (backTo pos (starEach (e :: es) X.env)) (backToKw pos (keywordEach [] X.env)))) :
    PE X (.Call (.Attribute o m apos) (e :: es) [] pos) (tMethO C m sp E ta t) := by
  refine ⟨fun pins s σ H Q I h => ?_⟩
  refine PySem.W.methodCall_KW (pl := pl) (thn (he.run pins s σ H _ I h) fun u s1 ⟨x, H1, I1, rx, a, dx, fs, ex, ea, l, q⟩ => ?_) ht
  subst ex
  obtain rfl : u = Value.ref a := rx
  refine getmeth_ok I1 ea c hm l ?_
  refine PySem.W.callWith_K (first := [.ref a]) (h₀ := X.base) I.ok.mod.kin hm.kp (thn (ha.run pos pins s1 σ H1 _ I1 q) fun us s2 ⟨vs, H2, I2, r, q2⟩ => ⟨I2.kIn, ?_⟩) hst hpl
  exact run_fnS (us := .ref a :: us) (vs := .ref a :: vs) F hr hb (hx σ) I2 (.cons rfl r) q2
theorem pe_methO0 {pl : Sem Bool} (he : PE X o ta) (c : Cls X.K C) (hm : Meth X.K C m f) (F : FnOk X.prog X.w X.K X.mg X.base CX k f fd ps sp) (hr : Room k X.A) (hb : Binds X.K fd ps []) (hx : ∀ σ, PassesAt CX X σ (E σ))
    (ht : eval (.Call (.Attribute o m apos) [] [] pos) X.env = (do
      let ov ← eval o X.env
      standAt apos.atName
      let (f, first) ← holding [ov] (getMethod ov m pl)
      callWith pos f first (backTo pos (starEach [] X.env)) (backToKw pos (keywordEach [] X.env)))) :
    PE X (.Call (.Attribute o m apos) [] [] pos) (tMethO C m sp E ta tNil) := by
  refine ⟨fun pins s σ H Q I h => ?_⟩
  refine PySem.W.methodCall_KW (pl := pl) (thn (he.run pins s σ H _ I h) fun u s1 ⟨x, H1, I1, rx, a, dx, fs, ex, ea, l, q⟩ => ?_) ht
  subst ex
  obtain rfl : u = Value.ref a := rx
  refine getmeth_ok I1 ea c hm l ?_
  exact PySem.W.callWith_K0 (first := [.ref a]) I1.kIn hm.kp (run_fnS (us := [.ref a]) (vs := [.ref a]) F hr hb (hx σ) I1 (.cons rfl .nil) q)
def tMakeO (C : Addr) (sp : Sp) (E : L2.St → XK) (t : TA) : TE := fun σ H Q => t σ H fun vs H1 => ∀ x dx, H1 x = none → H1 dx = none → dx ≠ x →
  sp (.ref x :: vs) (upd (upd H1 dx (.own x)) x (.ins C dx [])) (fun v H2 => v = .non ∧ Q (.ref x) H2) (E σ)
theorem run_makeO {pins : List (Addr × Obj)} {σ : L2.St} {H : Hp} {s : Shared} {Q : VK} {us : List Value} {vs : List V} (M : Mk X.K C f) (F : FnOk X.prog X.w X.K X.mg X.base CX k f fd ps sp) (hr : Room (k + 1) X.A) (hb : Binds X.K fd ps [])
    (hx : PassesAt CX X σ (E σ)) (I : Inv X pins σ H s) (r : Vals vs us)
    (h : ∀ x dx, H x = none → H dx = none → dx ≠ x → sp (.ref x :: vs) (upd (upd H dx (.own x)) x (.ins C dx [])) (fun v H2 => v = .non ∧ Q (.ref x) H2) (E σ)) :
    wpAny (model X.prog X.w) X.A (call (.ref C) us) (EP X pins σ Q) X.xe s := by
  have hq := h (s.heap.objs.size + 1) s.heap.objs.size (I.hok.fresh (Nat.le_succ _)) (I.hok.fresh (Nat.le_refl _)) (Nat.ne_of_lt (Nat.lt_succ_self _))
  have I2 := Inv.made (C := C) I
  have r2 : Vals (V.ref (s.heap.objs.size + 1) :: vs) (Value.ref (s.heap.objs.size + 1) :: us) := .cons rfl r
  have hl : (Value.ref (s.heap.objs.size + 1) :: us).length = ps.length := by
    have e := r2.length
    rw [F.len _ _ _ _ hq] at e
    exact e.symm
  have b := hb { s with heap := (s.heap.push PySem.W.emptyDict).push (PySem.W.instObj C s.heap.objs.size) } (Value.ref (s.heap.objs.size + 1) :: us) I2.kIn (by rw [List.append_nil]; exact hl)
  rw [List.append_nil] at b
  refine wpAny_call (make_map (f := f) I.kIn M.makes M.init (beq_iff_eq.mp M.fn) (codeAny_mono (F.run _ X.stack _ _ ⟨Value.ref (s.heap.objs.size + 1) :: us, []⟩ (Value.ref (s.heap.objs.size + 1) :: us) _ _ (E σ) (hr.make C us [])
    (I2.env0.make C us []) b r2 hq) fun r s' hq' => ?_))
  cases r with
  | error e => exact hx pins _ _ e s' I2 hq'
  | ok fl =>
    cases fl with
    | ret u =>
      obtain ⟨v, H', I3, rv, ev, q3⟩ := I2.after hq'
      subst ev
      exact ⟨rv, ⟨V.ref (s.heap.objs.size + 1), H', I3, rfl, q3⟩⟩
    | next => exact False.elim hq'
    | brk => exact False.elim hq'
    | cont => exact False.elim hq'
theorem pe_makeO (M : Mk X.K C f) (F : FnOk X.prog X.w X.K X.mg X.base CX k f fd ps sp) (hr : Room (k + 1) X.A) (hg : Gl X x) (hm : X.mg x = some (.ref C)) (hb : Binds X.K fd ps []) (hx : ∀ σ, PassesAt CX X σ (E σ))
    (ha : PA X (e :: es) t) (hdb : (x == ("__debug__" : Str)) = false) (he : starEach (e :: es) X.env = (false, eval e X.env) :: starEach es X.env) (hpl : (backTo pos (starEach es X.env)).any (·.1) = false) :
    PE X (.Call (.Name x p) (e :: es) [] pos) (tMakeO C sp E t) := by
  refine ⟨fun pins s σ H Q I h => ?_⟩
  refine wpAny_Call_Name_kw (ld_glob I hg hm ?_ hdb)
  refine PySem.W.callWith_K (h₀ := X.base) I.ok.mod.kin M.kp (thn (ha.run pos pins s σ H _ I h) fun us s1 ⟨vs, H1, I1, r, q⟩ => ⟨I1.kIn, ?_⟩) he hpl
  exact run_makeO M F hr hb (hx σ) I1 r q
/-! order of data -/
def rOrd (K : PySem.W.Frag) (q : PyData → PyData → Bool) : R2 := fun x y H Q => ∃ d e, Dp K H x d ∧ Dp K H y e ∧ PySem.W.alike d e = true ∧ d ≠ .none ∧ d.depth ≤ 64 ∧ Q (.bl (q d e)) H
theorem op_ltD (hu : X.A.units + 64 < cLine) : OpR X (compareOp .Lt) (rOrd X.K fun d e => PySem.W.dataLt d e) := by
  intro pins s σ H x y v u Q I rx ry h
  obtain ⟨d, e, hd, he, ha, hn, hp, q⟩ := h
  obtain ⟨as, r1⟩ := Dp.reads I d x v hd rx
  obtain ⟨bs, r2⟩ := Dp.reads I e y u he ry
  exact PySem.W.lt_data r1 r2 ha hn (by omega) ⟨.bl _, H, I, rfl, q⟩
theorem op_geD (hu : X.A.units + 64 < cLine) : OpR X (compareOp .GtE) (rOrd X.K fun d e => !PySem.W.dataLt d e) := by
  intro pins s σ H x y v u Q I rx ry h
  obtain ⟨d, e, hd, he, ha, hn, hp, q⟩ := h
  obtain ⟨as, r1⟩ := Dp.reads I d x v hd rx
  obtain ⟨bs, r2⟩ := Dp.reads I e y u he ry
  exact PySem.W.ge_data r1 r2 ha hn (by omega) ⟨.bl _, H, I, rfl, q⟩
end
theorem call_list_text {X : Cx} (hc : X.calm = true) : CallR X (.type "list") (fun xs H Q => ∃ y : Str, xs = [.str y] ∧ y.length ≤ sizeLine ∧ ∀ p, H p = none → Q (.ref p) (upd H p (.lst (y.cps.toList.map fun c => V.str ⟨#[c]⟩)))) := by
  intro pins s σ H xs us Q I r h
  obtain ⟨y, rfl, hz, q⟩ := h
  cases r with
  | cons rx rr =>
    cases rr
    obtain ⟨t, rfl⟩ := rx
    refine PySem.call_list_str (I.ok.hd hc) y t (fun h' tk acc c' hk e hi => ?_) hz
    have hl : (y.cps.toList.map fun c => V.str ⟨#[c]⟩).length = y.cps.size := by simp
    refine ⟨.ref s.heap.objs.size, upd H s.heap.objs.size (.lst (y.cps.toList.map fun c => V.str ⟨#[c]⟩)), I.laid hk (Nat.le_refl _) ⟨by rw [hl]; exact hz, acc.toList, c', ?_, by rw [Array.toArray_toList]; exact e⟩, rfl, q _ (I.hok.fresh (Nat.le_refl _))⟩
    refine vals_of_idx _ _ (by rw [hl, Array.length_toList]; exact hi.1) fun j u hj => ?_
    obtain ⟨c, t', hc, rfl⟩ := hi.2 j u (by rw [← Array.getElem?_toList]; exact hj)
    exact ⟨.str ⟨#[c]⟩, by rw [List.getElem?_map, Array.getElem?_toList, hc]; rfl, ⟨_, rfl⟩⟩
/-! sorted, of rows of ints -/
theorem each_fst : ∀ {zs : List (V × List Int)} {its : List Value}, Vals (zs.map Prod.fst) its → PySem.W.EachIs (fun u b => RelV b.1 u) its zs
  | [], _, h => by cases h; exact .nil
  | z :: zs, _, h => by
    cases h with
    | cons h1 h2 => exact .cons h1 (each_fst h2)
theorem each_back : ∀ {zs : List (V × List Int)} {its : List Value}, PySem.W.EachIs (fun u b => RelV b.1 u) its zs → Vals (zs.map Prod.fst) its
  | _, _, .nil => .nil
  | _, _, .cons h1 h2 => .cons h1 (each_back h2)
theorem each_read {X : Cx} {pins : List (Addr × Obj)} {σ : L2.St} {H : Hp} {s : Shared} (I : Inv X pins σ H s) : ∀ {zs : List (V × List Int)} {its : List Value}, PySem.W.EachIs (fun u b => RelV b.1 u) its zs → (∀ z ∈ zs, Dp X.K H z.1 (.list (z.2.map .int))) →
    PySem.W.EachIs (fun v b => ∃ as, PySem.Reads s.heap v (PyData.list (b.2.map .int)) as) its zs
  | _, _, .nil, _ => .nil
  | _, _, .cons h1 h2, h => .cons (Dp.reads I _ _ _ (h _ List.mem_cons_self) h1) (each_read I h2 fun z hz => h z (List.mem_cons_of_mem _ hz))
theorem call_sortedR {X : Cx} (hu : X.A.units + 64 < cLine) : CallR X (.builtin "sorted") (fun xs H Q => ∃ (a : Addr) (zs : List (V × List Int)), xs = [.ref a] ∧ SqL X.K H a (zs.map Prod.fst) ∧ (∀ z ∈ zs, Dp X.K H z.1 (.list (z.2.map .int))) ∧ zs.length ≤ sizeLine ∧
    ∀ p, H p = none → Q (.ref p) (upd H p (.lst ((zs.mergeSort fun a b => decide (a.2 ≤ b.2)).map Prod.fst)))) := by
  intro pins s σ H vs us Q I r h
  obtain ⟨a, zs, rfl, hs, hd, hz0, q⟩ := h
  obtain ⟨its, rv, hl, hz⟩ := I.list hs
  rw [Vals.ref1 r]
  have e := each_fst rv
  have dp : ∀ b : V × List Int, (PyData.list (b.2.map .int)).depth ≤ 1 := fun b => by
    rw [PyData.depth, PySem.W.depth_ints]; omega
  refine PySem.W.sorted_data (β := V × List Int) (enc := fun b => .list (b.2.map .int)) (R := fun u b => RelV b.1 u) hl.isList e (each_read I e hd) (PySem.W.AllAlike.of fun b b' => by rw [PySem.W.alike]; exact PySem.W.alike_ints _ _)
    (PySem.W.Sortable.others fun b => ⟨(fun z => nomatch z), fun xs z => nomatch z⟩) hz0 (fun b _ => by have := dp b; omega) fun out ho eo => ?_
  rw [PySem.W.dataLe_rows (fun b : V × List Int => b.2)] at eo
  have ev := each_back eo
  obtain ⟨ep, he'⟩ := PyProof.Rows.sortedAll_at s.heap its out.toArray
  have hlen : ((zs.mergeSort fun a b => decide (a.2 ≤ b.2)).map Prod.fst).length ≤ sizeLine := by
    rw [List.length_map, List.length_mergeSort]; exact hz0
  exact ⟨.ref _, upd H (s.heap.objs.size + 1) (.lst _), I.laid (t' := s.toks) (fun _ _ => PyProof.Rows.sortedAll_old) (Nat.le_succ _) ⟨hlen, out, ep, ev, he'⟩, rfl, q _ (I.hok.fresh (Nat.le_succ _))⟩
end PD

namespace PD
open PySem PySem.Spec PyProof.Rows L2
/-! enumerate(text), zip(text, list) -/
def Ites (x : Str) : L2.It := ⟨fun i _ => i < x.cps.size, fun i H v H' => ∃ T c, v = .ref T ∧ H T = none ∧ H' = upd H T (.tup [.int (i : Nat), .str ⟨#[c]⟩]) ∧ x.cps[i]? = some c, fun i _ => x.cps.size ≤ i⟩
theorem turn_enumS {P : Program} {w : World} {K : PySem.W.Frag} {elts : List Expr} {kk : Nat} {tpos : Pos} (x : Str) (t : Tok) (e it : Addr) :
    Turn P w K (.Tuple elts kk tpos) (Ites x) [e, it] e (fun i h => (∃ old, IsEnum h e it ((i : Nat) : Int) old) ∧ h.IsStrIter it (strIterType x) x t i ∧ e ≠ it ∧ i ≤ x.cps.size) where
  mem := by simp
  obj := fun i h st b hb => by
    obtain ⟨⟨old, he⟩, ⟨o, ho, hc, hd⟩, _⟩ := st
    have e' : b = e ∨ b = it := by simpa using hb
    rcases e' with z | z
    · rw [z]; exact ⟨_, he, fun v q => nomatch q⟩
    · rw [z]; exact ⟨o, ho, fun v q => by rw [hd] at q; cases q⟩
  keep := fun i h h' st k => let ⟨⟨old, he⟩, ⟨o, ho, r⟩, hne⟩ := st; ⟨⟨old, k e (by simp) _ he⟩, ⟨o, k it (by simp) o ho, r⟩, hne⟩
  item := by
    intro X hP hw hK hc i pins s σ H E I hf st hg
    subst hP hw hK
    obtain ⟨⟨old, he⟩, hit, hne, hi⟩ := st
    have hel : e < s.heap.objs.size := Heap.lt_size he
    have hil : it < s.heap.objs.size := by obtain ⟨_, q, _⟩ := hit; exact Heap.lt_size q
    have hg : i < x.cps.size := hg
    refine wpAny_pyNext_enum_itemD (Draws.text (by have := I.ok.hd hc; simpa using this) it x t) he hit hg hne (by simpa using hne) fun v h' tk hP ho hit' hT hsz hk => ?_
    obtain ⟨c, u, hc2, rfl⟩ := hP
    refine ⟨_, rfl, wpAny_letOwnedTupleGo_enum (s := { s with heap := h', toks := tk + 1 }) ho fun h'' he' sb => ?_⟩
    have hT2 : h''.get? s.heap.objs.size = some { cls := .type "tuple", data := .seq #[.int i tk, .str ⟨#[c]⟩ u] } := (sb.2 _ (Nat.ne_of_gt hel)).trans hT
    have new : ObjOk X.prog X.w (upd H s.heap.objs.size (.tup [.int (i : Nat), .str ⟨#[c]⟩])) h'' s.heap.objs.size (.tup [.int (i : Nat), .str ⟨#[c]⟩]) :=
      ⟨by show 2 ≤ sizeLine; decide, [.int i tk, .str ⟨#[c]⟩ u], .cons ⟨_, rfl⟩ (.cons ⟨_, rfl⟩ .nil), ⟨_, hT2, rfl, _, rfl⟩⟩
    have I1 : Inv X pins σ (upd H s.heap.objs.size (.tup [.int (i : Nat), .str ⟨#[c]⟩])) { s with heap := h'', toks := tk + 1 } :=
      I.turnedNew (ch := [e, it]) (fun b ob hb q => (sb.2 b (fun z => hb (by simp [z]))).trans (hk b ob (fun z => hb (by simp [z])) (fun z => hb (by simp [z])) q)) hf (Nat.le_refl _) new
    obtain ⟨oi, ho1, hr⟩ := hit'
    refine ⟨.ref s.heap.objs.size, _, I1, rfl, ⟨_, c, rfl, I.hok.fresh (Nat.le_refl _), rfl, hc2⟩, ⟨⟨.str ⟨#[c]⟩ u, ?_⟩, ⟨oi, (sb.2 it (Ne.symm hne)).trans ho1, hr⟩, hne, hg⟩, fun b hb => ?_⟩
    · have e1 : ((i + 1 : Nat) : Int) = (i : Int) + 1 := by omega
      rw [e1]; exact he'
    · have hb' : b < s.heap.objs.size := by
        have e' : b = e ∨ b = it := by simpa using hb
        rcases e' with z | z
        · rw [z]; exact hel
        · rw [z]; exact hil
      rw [upd_ne (Nat.ne_of_lt hb')]
      exact (hf b hb).1
  done := by
    intro X hP hw hK hc i pins s σ H E I hf st hg
    subst hP hw hK
    obtain ⟨⟨old, he⟩, hit, hne, hi⟩ := st
    have hg : x.cps.size ≤ i := hg
    have e1 : i = x.cps.size := by omega
    subst e1
    obtain ⟨f0, f1, f2, f3, f4, f5⟩ := hf it (by simp)
    exact wpAny_pyNext_enum_endD (Draws.text (by have := I.ok.hd hc; simpa using this) it x t) he hit fun h' eb => ⟨rfl, I.turned (t' := s.toks) (fun b o hb q => eb b o hb q) f0 f1 f3 f4 f5⟩
  self := fun A i s Q E st h => let ⟨⟨_, he⟩, _⟩ := st; wpAny_pyIter_enum he h
def iEnumX (K : PySem.W.Frag) (ta : TA) : TI := fun σ H R => ta σ H fun vs H1 => (∃ a xs, vs = [.ref a] ∧ SqL K H1 a xs ∧ R (Ite K a) H1) ∨ ∃ x, vs = [.str x] ∧ R (Ites x) H1
theorem pi_enumX {X : Cx} {e : Expr} {ta : TA} {p pos tpos : Pos} {elts : List Expr} {kk : Nat} (hg : Gl X "enumerate") (hm : X.mg "enumerate" = none) (ha : PA X [e] ta) (hs : starEach [e] X.env = [(false, eval e X.env)] := by rfl) :
    PI X (.Tuple elts kk tpos) (.Call (.Name "enumerate" p) [e] [] pos) (iEnumX X.K ta) := by
  refine ⟨fun pins s σ H R I h => ?_⟩
  refine Call_ (ld_blt I hg hm boot_enumerate (PyProof.Rows.callWith_type1 (thn (ha.run pos pins s σ H _ I h) fun us s1 ⟨vs, H1, I1, r1, q1⟩ => ?_) hs rfl))
  rcases q1 with ⟨a, xs, ex, hq, q⟩ | ⟨x, ex, q⟩
  · subst ex
    cases r1 with
    | cons r rr =>
      cases rr
      cases r
      obtain ⟨its, rv, p', hz⟩ := I1.list hq
      refine call_enumerate_list p'.isList fun h' he hit hsz hk => wpAny_pyIter_enum he ?_
      have I2 : Inv X pins σ H1 { s1 with heap := h' } := I1.kept (t' := s1.toks) hk
      refine ⟨s1.heap.objs.size + 1, [s1.heap.objs.size + 1, s1.heap.objs.size], _, _, H1, rfl, I2, turn_enum a (s1.heap.objs.size + 1) s1.heap.objs.size, ⟨⟨.none, he⟩, hit, Nat.succ_ne_self _⟩, fun b hb => ?_, q⟩
      have e' : b = s1.heap.objs.size + 1 ∨ b = s1.heap.objs.size := by simpa using hb
      have hle : s1.heap.objs.size ≤ b := by
        rcases e' with z | z
        · rw [z]; exact Nat.le_add_right _ _
        · rw [z]; exact Nat.le_refl _
      exact I1.fpOk hle (I1.hok.fresh hle)
  · subst ex
    cases r1 with
    | cons r rr =>
      cases rr
      obtain ⟨t, rfl⟩ := r
      refine call_enumerate_str fun h' he hit hsz hk => wpAny_pyIter_enum he ?_
      have I2 : Inv X pins σ H1 { s1 with heap := h' } := I1.kept (t' := s1.toks) hk
      refine ⟨s1.heap.objs.size + 1, [s1.heap.objs.size + 1, s1.heap.objs.size], _, _, H1, rfl, I2, turn_enumS x t (s1.heap.objs.size + 1) s1.heap.objs.size, ⟨⟨.none, he⟩, hit, Nat.succ_ne_self _, Nat.zero_le _⟩, fun b hb => ?_, q⟩
      have e' : b = s1.heap.objs.size + 1 ∨ b = s1.heap.objs.size := by simpa using hb
      have hle : s1.heap.objs.size ≤ b := by
        rcases e' with z | z
        · rw [z]; exact Nat.le_add_right _ _
        · rw [z]; exact Nat.le_refl _
      exact I1.fpOk hle (I1.hok.fresh hle)
def Itzs (K : PySem.W.Frag) (x : Str) (b : Addr) (n : Nat) : L2.It :=
  ⟨fun i H => i < x.cps.size ∧ i < n ∧ ∃ ys : List V, SqL K H b ys ∧ ys.length = n,
    fun i H v H' => ∃ T c y, v = .ref T ∧ H T = none ∧ H' = upd H T (.tup [.str ⟨#[c]⟩, y]) ∧ x.cps[i]? = some c ∧ ∀ ys, SqL K H b ys → ys[i]? = some y,
    fun i H => (∃ ys : List V, SqL K H b ys ∧ ys.length = n) ∧ (x.cps.size ≤ i ∨ n ≤ i)⟩
theorem turn_zipS {P : Program} {w : World} {K : PySem.W.Frag} {elts : List Expr} {kk : Nat} {tpos : Pos} {x : Str} {t : Tok} {b z TI TO i1 i2 : Addr} {n : Nat} (D : ZipSep2 z TI TO i1 i2 [i1] [i2, b]) :
    Turn P w K (.Tuple elts kk tpos) (Itzs K x b n) [z, TI, TO, i1, i2] z (fun i h => IsZip h z TI TO .none ∧ IsTupOf2 h TI (.ref i1) (.ref i2) ∧ (∃ x y, IsTupOf2 h TO x y) ∧ h.IsStrIter i1 (strIterType x) x t i ∧ h.IsListIter i2 b i ∧ i ≤ x.cps.size ∧ i ≤ n) where
  mem := by simp
  obj := fun i h st c hc => by
    obtain ⟨hz, hTI, ⟨x, y, hTO⟩, ⟨o1, e1, _, d1⟩, ⟨o2, e2, _, d2⟩, _⟩ := st
    have e' : c = z ∨ c = TI ∨ c = TO ∨ c = i1 ∨ c = i2 := by simpa using hc
    rcases e' with q | q | q | q | q
    · rw [q]; exact ⟨_, hz, fun v q => nomatch q⟩
    · rw [q]; exact ⟨_, hTI, fun v q => nomatch q⟩
    · rw [q]; exact ⟨_, hTO, fun v q => nomatch q⟩
    · rw [q]; exact ⟨o1, e1, fun v q => by rw [d1] at q; cases q⟩
    · rw [q]; exact ⟨o2, e2, fun v q => by rw [d2] at q; cases q⟩
  keep := fun i h h' st k => by
    obtain ⟨hz, hTI, ⟨x, y, hTO⟩, ⟨o1, e1, r1⟩, h2, h3⟩ := st
    exact ⟨k z (by simp) _ hz, k TI (by simp) _ hTI, ⟨x, y, k TO (by simp) _ hTO⟩, ⟨o1, k i1 (by simp) _ e1, r1⟩, h2.at fun o q => k i2 (by simp) o q, h3⟩
  item := by
    intro X hP hw hK hc i pins s σ H E I hf st hg
    subst hP hw hK
    obtain ⟨hz, hTI, ⟨x0, y0, hTO⟩, h1, h2, n1, n2⟩ := st
    obtain ⟨g1, g2, ys, hqy, hy⟩ := hg
    obtain ⟨its2, rv2, p2, _⟩ := I.list hqy
    have hzl : z < s.heap.objs.size := Heap.lt_size hz
    have hl2 : its2.toArray.size = n := by rw [← hy, rv2.length]; simp
    have nb : b ≠ i2 := fun q => by
      obtain ⟨o, ho, hc1, _⟩ := p2.isList
      obtain ⟨o2, ho2, hc2, _⟩ := h2
      rw [q, ho2] at ho
      cases ho
      rw [hc1] at hc2
      exact absurd hc2 (by decide)
    have hd : X.A.in1.handled = none := by have := I.ok.hd hc; simpa using this
    refine wpAny_pyNext_zipD2_item D (Draws.text hd i1 x t) (Draws.list hd i2 b nb its2.toArray) hz hTI hTO h1 ⟨h2, p2.isList⟩ g1 (by omega) fun v1 v2 h' tk hv1 hv2 z' TO' h1' h2' hT hsz hk => ?_
    obtain ⟨c, u, hc1, rfl⟩ := hv1
    have hu2 : its2[i]? = some v2 := by simpa using hv2
    obtain ⟨y, hyi, ru2⟩ : ∃ y, ys[i]? = some y ∧ RelV y v2 := by
      have hi : i < ys.length := by omega
      obtain ⟨u3, hu3, ru3⟩ := rv2.get (List.getElem?_eq_getElem hi)
      rw [hu3] at hu2
      cases hu2
      exact ⟨_, List.getElem?_eq_getElem hi, ru3⟩
    refine ⟨_, rfl, wpAny_letOwnedTupleGo_zip (s := { s with heap := h', toks := tk }) z' fun h'' z'' sb => ?_⟩
    have hT2 : h''.get? s.heap.objs.size = some { cls := .type "tuple", data := .seq #[.str ⟨#[c]⟩ u, v2] } := (sb.2 _ (Nat.ne_of_gt hzl)).trans hT
    have new : ObjOk X.prog X.w (upd H s.heap.objs.size (.tup [.str ⟨#[c]⟩, y])) h'' s.heap.objs.size (.tup [.str ⟨#[c]⟩, y]) :=
      ⟨by show 2 ≤ sizeLine; decide, [.str ⟨#[c]⟩ u, v2], .cons ⟨_, rfl⟩ (.cons ru2 .nil), ⟨_, hT2, rfl, _, rfl⟩⟩
    have I1 : Inv X pins σ (upd H s.heap.objs.size (.tup [.str ⟨#[c]⟩, y])) { s with heap := h'', toks := tk } :=
      I.turnedNew (t' := tk) (ch := [z, TI, TO, i1, i2]) (fun c o hb q => (sb.2 c (fun q' => hb (by simp [q']))).trans (hk c o (fun q' => hb (by simp [q'])) (fun q' => hb (by simp [q'])) (fun q' => hb (by simp [q'])) (fun q' => hb (by simp [q'])) q)) hf (Nat.le_refl _) new
    obtain ⟨o1, e1, r1⟩ := h1'
    refine ⟨.ref s.heap.objs.size, _, I1, rfl, ⟨_, c, y, rfl, I.hok.fresh (Nat.le_refl _), rfl, hc1, fun l hl => by rw [I.list_inj hl hqy]; exact hyi⟩, ⟨z'', ?_, ⟨.str ⟨#[c]⟩ u, v2, ?_⟩, ?_, ?_, by omega, by omega⟩, fun c hcm => ?_⟩
    · exact (sb.2 _ D.TIz).trans (hk _ _ D.TIz D.TITO D.TIi1 D.TIi2 hTI)
    · exact (sb.2 _ D.TOz).trans TO'
    · exact ⟨o1, (sb.2 _ D.zi1.symm).trans e1, r1⟩
    · exact h2'.1.at fun o q => (sb.2 _ D.zi2.symm).trans q
    · have hlt : c < s.heap.objs.size := by
        have e' : c = z ∨ c = TI ∨ c = TO ∨ c = i1 ∨ c = i2 := by simpa using hcm
        rcases e' with q | q | q | q | q
        · rw [q]; exact hzl
        · rw [q]; exact Heap.lt_size hTI
        · rw [q]; exact Heap.lt_size hTO
        · rw [q]; obtain ⟨_, e1, _⟩ := h1; exact Heap.lt_size e1
        · rw [q]; obtain ⟨_, e1, _⟩ := h2; exact Heap.lt_size e1
      rw [upd_ne (Nat.ne_of_lt hlt)]
      exact (hf c hcm).1
  done := by
    intro X hP hw hK hc i pins s σ H E I hf st hg
    subst hP hw hK
    obtain ⟨hz, hTI, ⟨x0, y0, hTO⟩, h1, h2, n1, n2⟩ := st
    obtain ⟨⟨ys, hqy, hy⟩, hend⟩ := hg
    obtain ⟨its2, rv2, p2, _⟩ := I.list hqy
    have hl2 : its2.toArray.size = n := by rw [← hy, rv2.length]; simp
    have nb : b ≠ i2 := fun q => by
      obtain ⟨o, ho, hc1, _⟩ := p2.isList
      obtain ⟨o2, ho2, hc2, _⟩ := h2
      rw [q, ho2] at ho
      cases ho
      rw [hc1] at hc2
      exact absurd hc2 (by decide)
    have hd : X.A.in1.handled = none := by have := I.ok.hd hc; simpa using this
    exact wpAny_pyNext_zipD2_end D (Draws.text hd i1 x t) (Draws.list hd i2 b nb its2.toArray) hz hTI hTO h1 ⟨h2, p2.isList⟩ n1 (by omega) (by omega) fun h' tk hk => ⟨rfl, I.turnedL (t' := tk) (ch := [z, TI, TO, i1, i2]) (fun c o hb q =>
      hk c o (fun q' => hb (by simp [q'])) (fun q' => hb (by simp [q'])) (fun q' => hb (by simp [q'])) (fun q' => hb (by simp [q'])) q) hf⟩
  self := fun A i s Q E st h => wpAny_pyIter_zip st.1 h
def iZipX (K : PySem.W.Frag) (ta : TA) : TI := fun σ H R => ta σ H fun vs H1 => (∃ a b xs ys, vs = [.ref a, .ref b] ∧ SqL K H1 a xs ∧ SqL K H1 b ys ∧ R (Itz K a b) H1) ∨ ∃ x b ys, vs = [.str x, .ref b] ∧ SqL K H1 b ys ∧ R (Itzs K x b ys.length) H1
theorem sepS (I b : Nat) (h : b < I) : ZipSep2 (I + 4) (I + 2) (I + 3) I (I + 1) [I] [I + 1, b] := by
  have g : ∀ a c : Nat, a ≠ c → (show Addr from a) ≠ (show Addr from c) := fun a c q => q
  have m1 : ∀ a c : Nat, a ≠ c → (show Addr from a) ∉ [(show Addr from c)] := fun a c q => by simpa using q
  have m2 : ∀ a c d : Nat, a ≠ c → a ≠ d → (show Addr from a) ∉ [(show Addr from c), (show Addr from d)] := fun a c d q r => by simpa using ⟨q, r⟩
  exact ⟨g _ _ (by omega), g _ _ (by omega), g _ _ (by omega), g _ _ (by omega), by simp, m1 _ _ (by omega), m1 _ _ (by omega), g _ _ (by omega), by simp, m2 _ _ _ (by omega) (by omega), m2 _ _ _ (by omega) (by omega), m2 _ _ _ (by omega) (by omega), m1 _ _ (by omega)⟩
theorem pi_zipX {X : Cx} {e e2 : Expr} {ta : TA} {p pos tpos : Pos} {elts : List Expr} {kk : Nat} (hg : Gl X "zip") (hm : X.mg "zip" = none) (ha : PA X [e, e2] ta)
    (hs : starEach [e, e2] X.env = (false, eval e X.env) :: starEach [e2] X.env := by rfl) (hpl : (backTo pos (starEach [e2] X.env)).any (·.1) = false := by rfl) :
    PI X (.Tuple elts kk tpos) (.Call (.Name "zip" p) [e, e2] [] pos) (iZipX X.K ta) := by
  refine ⟨fun pins s σ H R I h => ?_⟩
  refine Call_ (ld_blt I hg hm PyProof.Rows.boot_zip (PyProof.Rows.callWith_type1 (thn (ha.run pos pins s σ H _ I h) fun us s1 ⟨vs, H1, I1, r1, q1⟩ => ?_) hs hpl))
  have fin : ∀ c, c ∈ [s1.heap.objs.size + 4, s1.heap.objs.size + 2, s1.heap.objs.size + 3, s1.heap.objs.size, s1.heap.objs.size + 1] → FpOk X pins H1 c := fun c hcm => by
    have e' : c = s1.heap.objs.size + 4 ∨ c = s1.heap.objs.size + 2 ∨ c = s1.heap.objs.size + 3 ∨ c = s1.heap.objs.size ∨ c = s1.heap.objs.size + 1 := by simpa using hcm
    have hle : s1.heap.objs.size ≤ c := by
      rcases e' with z | z | z | z | z
      · rw [z]; exact Nat.le_add_right _ _
      · rw [z]; exact Nat.le_add_right _ _
      · rw [z]; exact Nat.le_add_right _ _
      · rw [z]; exact Nat.le_refl _
      · rw [z]; exact Nat.le_add_right _ _
    exact I1.fpOk hle (I1.hok.fresh hle)
  rcases q1 with ⟨a, b, xs, ys, ex, hqx, hqy, q⟩ | ⟨x, b, ys, ex, hqy, q⟩
  · subst ex
    cases r1 with
    | cons r rr =>
      cases rr with
      | cons r' rr =>
        cases rr
        cases r
        cases r'
        obtain ⟨its, rv, p1, _⟩ := I1.list hqx
        obtain ⟨its2, rv2, p2, _⟩ := I1.list hqy
        refine call_zip_2 p1.isList p2.isList fun h' hz hTI hTO h1 h2 hsz hk => wpAny_pyIter_zip hz ?_
        have I2 : Inv X pins σ H1 { s1 with heap := h' } := I1.kept (t' := s1.toks) hk
        exact ⟨s1.heap.objs.size + 4, [s1.heap.objs.size + 4, s1.heap.objs.size + 2, s1.heap.objs.size + 3, s1.heap.objs.size, s1.heap.objs.size + 1], _, _, H1, rfl, I2, turn_zip (PySem.W.ktu_apart s1.heap.objs.size a b p1.lt p2.lt), ⟨hz, hTI, ⟨_, _, hTO⟩, h1, h2⟩, fin, q⟩
  · subst ex
    cases r1 with
    | cons r rr =>
      cases rr with
      | cons r' rr =>
        cases rr
        obtain ⟨t, rfl⟩ := r
        cases r'
        obtain ⟨its2, rv2, p2, _⟩ := I1.list hqy
        refine zip_begins2 (begins_text x t) (begins_list b its2.toArray) trivial p2.isList fun h' hz hTI hTO h1 h2 hsz hk => wpAny_pyIter_zip hz ?_
        have I2 : Inv X pins σ H1 { s1 with heap := h' } := I1.kept (t' := s1.toks) hk
        exact ⟨s1.heap.objs.size + 4, [s1.heap.objs.size + 4, s1.heap.objs.size + 2, s1.heap.objs.size + 3, s1.heap.objs.size, s1.heap.objs.size + 1], _, _, H1, rfl, I2, turn_zipS (sepS s1.heap.objs.size b p2.lt), ⟨hz, hTI, ⟨_, _, hTO⟩, ⟨_, h1, rfl, rfl⟩, ⟨_, h2, rfl, rfl⟩, Nat.zero_le _, Nat.zero_le _⟩, fin, q⟩
end PD

namespace PD
open PySem L2

/-! ## data -/
inductive D where
  | non | bl (b : Bool) | int (i : Int) | str (s : Str)
  | lst (ds : List D) | tup (ds : List D) | scr (ns : List Int)
  | dct (kvs : List (D × D)) | kst (ks : List Int) | obj (c : Nat) (fs : List (Nat × D))
/-- a slot's value: frozen data, or a cell of the frame's own table -/
inductive SV where
  | d (x : D) | c (j : Nat)
inductive Ct where
  | lst (ds : List D) | ob (u : D) | fz (x : D)
abbrev Env := List (Option SV)
abbrev Tab := List Ct

def Ct.dat : Ct → D
  | .lst ds => .lst ds
  | .ob u => u
  | .fz x => x
def Ct.live : Ct → Bool
  | .fz _ => false | _ => true
/-- the data that is read at a value -/
def den (L : Tab) : SV → Option D
  | .d x => some x
  | .c j => match L[j]? with
    | some ct => some ct.dat
    | none => none
/-- is it a cell that may still change -/
def owned (L : Tab) : SV → Bool
  | .d _ => false
  | .c j => match L[j]? with
    | some (.lst _) => true
    | some (.ob _) => true
    | _ => false
/-- behind freezing -/
def frzT (L : Tab) : SV → Tab
  | .d _ => L
  | .c j => match L[j]? with
    | some (.lst ds) => L.set j (.fz (.lst ds))
    | some (.ob u) => L.set j (.fz u)
    | _ => L
def D.flat : D → Bool
  | .non => true | .bl _ => true | .int _ => true | .str _ => true | _ => false
def D.key : D → Bool
  | .int _ => true | .str _ => true | _ => false
mutual
def toPy : D → PyData
  | .non => .none | .bl b => .bool b | .int i => .int i | .str s => .str s
  | .lst ds => .list (toPys ds) | .tup ds => .tuple (toPys ds) | .scr ns => .list (ns.map .int)
  | .dct _ => .dict [] | .kst _ => .dict [] | .obj _ _ => .dict []
def toPys : List D → List PyData
  | [] => []
  | d :: ds => toPy d :: toPys ds
end
mutual
def D.pure : D → Bool
  | .non => true | .bl _ => true | .int _ => true | .str _ => true
  | .lst ds => pures ds | .tup ds => pures ds | .scr _ => true
  | .dct _ => false | .kst _ => false | .obj _ _ => false
def pures : List D → Bool
  | [] => true
  | d :: ds => d.pure && pures ds
end

/-! ## the language -/
inductive BOp where | add | sub | mul | fdiv | mod | pow
inductive COp where | lt | le | gt | ge | eq | ne | is | isnot | isin | notin
inductive Bi where
  | len | abs | min2 | max2 | sum | all | int | str | sorted | tuple | max1 | min1 | divmod | setlen | sortedr
inductive Bm where
  | join | split | index | replace | count | startswith | partition | upper | find | get1
inductive Ty where | int | bool | str | list | tuple | dict | own (c : Nat)
inductive Tg where | v (i : Nat) | t (is : List Nat)

mutual
inductive E where
  | non | bl (b : Bool) | int (i : Int) | str (s : Str)
  | var (i : Nat) | gc (k : Nat)
  | bin (op : BOp) (a b : E) | neg (a : E)
  | cmp (op : COp) (a b : E) | chain (o1 o2 : COp) (a b c : E)
  | and (a b : E) | or (a b : E) | not (a : E) | ife (c : T) (a b : E)
  | call (f : Nat) (as : Es)
  | bi (f : Bi) (as : Es) | bm (f : Bm) (o : E) (as : Es) | isi (a : E) (t : Ty)
  | idx (a i : E) | slc (a lo hi : E) | rev (a : E)
  | edict | tdict (a b : E) | lst (as : Es) | tup (as : Es) | mklist (a : E) | mkrange (a : E)
  | comp (tg : Tg) (it : It) (elt : E) (cs : Ts) | compk (tg : Tg) (x : Nat) (elt : E) (cs : Ts)
  | fld (c : Nat) (a : E) (f : Nat)
  | meth (c f : Nat) (o : E) (as : Es) | make (f : Nat) (as : Es) | makeb (f j : Nat) (as : Es) | setlen (a : E) | setlenI (a : E)
  | pop (x : Nat) (e : E) | compm (tg : Tg) (it : It) (elt : E) | upper (a : E)
  | uprep (a : E) (y w : Str) | repl (o : E) (y : Str) (b : E)
inductive Es where | nil | cons (e : E) (es : Es)
inductive T where | and (a b : T) | or (a b : T) | not (a : T) | cmp (op : COp) (a b : E) | chain (o1 o2 : COp) (a b c : E) | val (e : E)
inductive Ts where | nil | cons (e : T) (es : Ts)
inductive It where
  | seq (e : E) | range1 (b : E) | range2 (a b : E) | range3 (a b : E) | enum (e : E) | zip (a b : E) | reversed (e : E)
end
/-- questions of a caught exception's class: a class, the classes under it -/
inductive XB where | one (d : Nat) (ds : List Nat) | tup (dd : List (Nat × List Nat)) | or (a b : XB)
deriving DecidableEq
def XB.ev (c : Nat) : XB → Bool
  | .one _ ds => decide (c ∈ ds)
  | .tup dd => dd.any fun p => decide (c ∈ p.2)
  | .or a b => a.ev c || b.ev c
/-- the statements of an except suite -/
inductive XS where | asg (i : Nat) (bs : List XB) | ifn (t : XB) (i : Nat) | ret (t : XB) (i : Nat) | call (i k : Nat) (bs ts : List XB)
/-- what a def of the exception answers: [bs..], or [] where one of ts holds -/
def hotR (c : Nat) (bs ts : List XB) : List Bool := if ts.any (fun t => t.ev c) then [] else bs.map fun b => b.ev c
mutual
inductive S where
  | asg (tg : Tg) (e : E)
  | own (i : Nat) (e : E)
  | par (i j : Nat) (a b : E)
  | aug (i : Nat) (op : BOp) (e : E)
  | setix (x : Nat) (i e : E)
  | setk (x : Nat) (i : E)
  | append (x : Nat) (e : E) | extend (x : Nat) (e : E)
  | ret (e : E) | retO (e : E) | retN
  | ife (c : T) (a b : Ss)
  | for_ (tg : Tg) (it : It) (sl : List Nat) (body : Ss)
  | while_ (c : T) (sl : List Nat) (body : Ss)
  | setf (x c f : Nat) (e : E)
  | clear (x : Nat)
  | raise (c : Nat)
  | tryx (body : Ss) (cd m : Nat) (cs : List Nat) (n : Nat) (xs : List XS)
  | expr (e : E)
  | frz (i : Nat)
  | never
  | pass
  | mintI (t : T) (o1 o2 : COp) (i : Int) (b c : E) (r : Bool) | mintL (i : Nat) (a : E)
  | repA (i f : Nat) (a o : E) (y : Str) (b : E) | repR (f : Nat) (a o : E) (y : Str) (b : E)
inductive Ss where | nil | cons (s : S) (ss : Ss)
end

/-- a slice's part: left out, or a whole number -/
def partD : E → SV → Option (Option Int)
  | .non, .d .non => some none
  | .non, _ => none
  | _, .d (.int i) => some (some i)
  | _, _ => none
/-! ## what operations answer -/
def mulOk (i j : Int) : Prop := CMul i j ∨ CMulW i j
def divOk (j : Int) : Prop := 0 < j ∧ j.natAbs.log2 < 9000
def opB : BOp → D → D → (D → Prop) → Prop
  | .add, .int i, .int j, k => k (.int (i + j))
  | .add, .str s, .str t, k => s.length + t.length ≤ sizeLine ∧ k (.str (s ++ t))
  | .add, .lst a, .lst b, k => a.length + b.length ≤ sizeLine ∧ k (.lst (a ++ b))
  | .add, .tup a, .tup b, k => a.length + b.length ≤ sizeLine ∧ k (.tup (a ++ b))
  | .sub, .int i, .int j, k => k (.int (i - j))
  | .mul, .int i, .int j, k => mulOk i j ∧ k (.int (i * j))
  | .mul, .lst a, .int n, k => n < 2 ^ 62 ∧ -(2 ^ 62) < n ∧ a.length * n.toNat ≤ sizeLine ∧ k (.lst (List.replicate n.toNat a).flatten)
  | .fdiv, .int i, .int j, k => divOk j ∧ k (.int (i / j))
  | .mod, .int i, .int j, k => 0 < j ∧ k (.int (i % j))
  | .pow, .int i, .int j, k => CPow i j ∧ k (.int (i ^ j.toNat))
  | _, _, _, _ => False
def D.scal : D → D → Bool
  | .non, .non => true | .non, .int _ => true | .int _, .non => true | .non, .bl _ => true | .bl _, .non => true | .non, .str _ => true | .str _, .non => true
  | .int _, .int _ => true | .bl _, .bl _ => true | .str _, .str _ => true
  | .int _, .str _ => true | .str _, .int _ => true | .bl _, .str _ => true | .str _, .bl _ => true
  | _, _ => false
def D.isNon : D → Bool | .non => true | _ => false
/-- == of scalars of one kind; else of data -/
def eqD : D → D → (Bool → Prop) → Prop
  | .int i, .int j, k => k (i == j)
  | .bl i, .bl j, k => k (i == j)
  | .str i, .str j, k => k (i == j)
  | .int _, .str _, k => k false
  | .str _, .int _, k => k false
  | .bl _, .str _, k => k false
  | .str _, .bl _, k => k false
  | .non, .non, k => k true
  | x, y, k => x.pure = true ∧ y.pure = true ∧ SeqAt.shaped (toPy x) = true ∧ SeqAt.shaped (toPy y) = true ∧ k (PyData.eqv (toPy x) (toPy y))
def D.eqF : D → D → Bool
  | .non, .non => true | .bl a, .bl b => a == b | .int a, .int b => a == b | .str a, .str b => a == b
  | .bl a, .int j => (if a then 1 else 0) == j | .int i, .bl b => i == (if b then 1 else 0)
  | _, _ => false
def D.inL (x : D) (ds : List D) : Bool := ds.any fun y => D.eqF y x
def inD : D → D → (Bool → Prop) → Prop
  | .str a, .str b, k => ∃ c, a = ⟨#[c]⟩ ∧ k (decide (c ∈ b.cps.toList))
  | x, .lst ds, k => (x.flat = true ∧ ds.all D.flat = true ∧ k (D.inL x ds)) ∨
      (x.pure = true ∧ pures ds = true ∧ SeqAt.shaped (toPy x) = true ∧ SeqAt.shaped (.list (toPys ds)) = true ∧ k ((toPys ds).any fun z => PyData.eqv z (toPy x)))
  | x, .tup ds, k => x.flat = true ∧ ds.all D.flat = true ∧ k (D.inL x ds)
  | _, _, _ => False
def isD : D → D → (Bool → Prop) → Prop
  | x, .non, k => k x.isNon
  | .bl a, .bl b, k => k (a == b)
  | _, _, _ => False
def ordL (a b : List D) : Prop := pures a = true ∧ pures b = true ∧ PySem.W.alike (.list (toPys a)) (.list (toPys b)) = true ∧ (PyData.list (toPys a)).depth ≤ 64
def cmpD : COp → D → D → (Bool → Prop) → Prop
  | .lt, .int i, .int j, k => k (decide (i < j))
  | .le, .int i, .int j, k => k (decide (i ≤ j))
  | .gt, .int i, .int j, k => k (decide (j < i))
  | .ge, .int i, .int j, k => k (decide (j ≤ i))
  | .lt, .str i, .str j, k => k (decide (i.cps.toList < j.cps.toList))
  | .lt, .lst a, .lst b, k => ordL a b ∧ k (PySem.W.dataLt (.list (toPys a)) (.list (toPys b)))
  | .ge, .lst a, .lst b, k => ordL a b ∧ k (!PySem.W.dataLt (.list (toPys a)) (.list (toPys b)))
  | .eq, x, y, k => eqD x y k
  | .ne, x, y, k => eqD x y fun b => k (!b)
  | .is, x, y, k => isD x y k
  | .isnot, x, y, k => isD x y fun b => k (!b)
  | .isin, x, y, k => inD x y k
  | .notin, x, y, k => inD x y fun b => k (!b)
  | _, _, _, _ => False
/-- a value's truth -/
def truD : D → (Bool → Prop) → Prop
  | .bl b, k => k b
  | .non, k => k false
  | .int i, k => k (i != 0)
  | .lst ds, k => k (!ds.isEmpty)
  | .tup ds, k => k (!ds.isEmpty)
  | _, _ => False
/-- the items of a list, a tuple, the script -/
def D.items : D → Option (List D)
  | .lst ds => some ds
  | .tup ds => some ds
  | .scr ns => some (ns.map .int)
  | _ => none
def idxD : D → D → (D → Prop) → Prop
  | .lst ds, .int i, k => ∃ v, atI ds i = some v ∧ k v
  | .tup ds, .int i, k => ∃ v, atI ds i = some v ∧ k v
  | .scr ns, .int i, k => ∃ v, atI ns i = some v ∧ k (.int v)
  | .str z, .int i, k => ∃ c, z.length ≤ sizeLine ∧ atI z.cps.toList i = some c ∧ k (.str ⟨#[c]⟩)
  | _, _, _ => False
def cutL {α : Type} (xs : List α) (lo hi : Option Int) : List α := (xs.drop (HT.sIx xs.length 0 lo)).take (HT.sIx xs.length xs.length hi - HT.sIx xs.length 0 lo)
def cutD : D → Option Int → Option Int → (D → Prop) → Prop
  | .lst ds, lo, hi, k => k (.lst (cutL ds lo hi))
  | .scr ns, lo, hi, k => k (.lst ((cutL ns lo hi).map .int))
  | .str z, lo, hi, k => z.length ≤ sizeLine ∧ k (.str (cutS z lo hi))
  | _, _, _, _ => False
def tyD : D → Ty → Option Bool
  | .obj _ _, _ => none
  | .kst _, _ => none
  | _, .own _ => none
  | .dct _, .dict => some true
  | .bl _, .int => some true | .bl _, .bool => some true
  | .int _, .int => some true
  | .str _, .str => some true
  | .lst _, .list => some true | .scr _, .list => some true
  | .tup _, .tuple => some true
  | _, _ => some false
def biD : Bi → List D → (D → Prop) → Prop
  | .len, [.lst ds], k => k (.int ds.length)
  | .len, [.tup ds], k => k (.int ds.length)
  | .len, [.scr ns], k => k (.int ns.length)
  | .len, [.str s], k => s.length ≤ sizeLine ∧ k (.int s.length)
  | .abs, [.int i], k => k (.int (if i < 0 then -i else i))
  | .max2, [.int i, .int j], k => k (.int (if j > i then j else i))
  | .min2, [.int i, .int j], k => k (.int (if j < i then j else i))
  | .sum, [.lst ds], k => ∃ ns : List Int, ds = ns.map .int ∧ k (.int ns.sum)
  | .all, [.lst ds], k => ∃ bs : List Bool, ds = bs.map .bl ∧ k (.bl (bs.all id))
  | .max1, [.lst ds], k => ∃ ns : List Int, ds = ns.map .int ∧ 0 < ns.length ∧ ∀ m, m ∈ ns → (∀ y, y ∈ ns → y ≤ m) → k (.int m)
  | .min1, [.lst ds], k => ∃ ns : List Int, ds = ns.map .int ∧ 0 < ns.length ∧ ∀ m, m ∈ ns → (∀ y, y ∈ ns → m ≤ y) → k (.int m)
  | .sorted, [.lst ds], k => ∃ ns : List Int, ds = ns.map .int ∧ ns.length < 64 ∧ ∀ ns' : List Int, ns'.Perm ns → ns'.Pairwise (· ≤ ·) → k (.lst (ns'.map .int))
  | .sortedr, [.lst ds], k => ∃ rows : List (List Int), ds = rows.map (fun r => .lst (r.map .int)) ∧ rows.length ≤ 1000000 ∧ k (.lst ((rows.mergeSort fun a b => decide (a ≤ b)).map fun r => .lst (r.map .int)))
  | .sorted, [.kst ks], k => ks.length < 64 ∧ ∀ ns' : List Int, ns'.Perm ks → ns'.Pairwise (· ≤ ·) → k (.lst (ns'.map .int))
  | .tuple, [.lst ds], k => k (.tup ds)
  | .divmod, [.int i, .int j], k => 0 < j ∧ j < 1073741824 ∧ k (.tup [.int (i / j), .int (i % j)])
  | .int, [.int i], k => k (.int i)
  | .int, [.bl b], k => k (.int (if b then 1 else 0))
  | _, _, _ => False
def bmD : Bm → Str → List D → (D → Prop) → Prop
  | .join, a, [.lst ds], k => ∃ ys : List Str, ds = ys.map .str ∧ (ys.map (·.length)).sum + ys.length * a.length ≤ 16777216 ∧ k (.str (Txt.join a ys))
  | .split, a, [.str b], k => (b.length == 0) = false ∧ a.length + 2 ≤ sizeLine ∧ k (.lst ((Txt.split a b).map .str))
  | .index, a, [.str b], k => ∃ i rest, Builtin.Str.occurrences a b 0 a.length 1 = i :: rest ∧ k (.int ((i : Nat) : Int))
  | .find, a, [.str b], k => k (.int (Txt.find a b))
  | .count, a, [.str b], k => k (.int (Txt.count a b))
  | .startswith, a, [.str b], k => k (.bl (Txt.startswith a b))
  | _, _, _, _ => False

/-! ## the walk on data: what must hold for k -/
abbrev KV := SV → Tab → Prop
/-- an exception: its class, its field -/
abbrev Xn := Nat × Option D
/-- what comes of a call: a frozen value, or a new list of the caller's own -/
inductive Rs where | v (x : D) | new (ds : List D)
def Rs.dat : Rs → D | .v x => x | .new ds => .lst ds
def Rs.flat : Rs → Bool | .v x => x.flat | .new ds => ds.all D.flat
mutual
/-- no list within begins by a text, none is empty -/
def D.noS : D → Bool
  | .lst ds => (match ds with | [] => false | .str _ :: _ => false | _ :: _ => true) && noSs ds
  | x => x.flat
def noSs : List D → Bool
  | [] => true
  | d :: ds => d.noS && noSs ds
end
def Rs.noS : Rs → Bool | .v x => x.noS | .new ds => noSs ds
/-- own lists: empty, or they begin by a text -/
def Ct.strs : Ct → Bool | .lst [] => true | .lst (.str _ :: _) => true | .lst _ => false | .ob _ => false | .fz _ => true
abbrev Calls := Nat → List D → (Rs → Prop) → (Xn → Prop) → Prop

def setS (env : Env) (i : Nat) (v : SV) : Env := env.set i (some v)
def setAll (env : Env) : List Nat → List D → Env
  | i :: is, x :: xs => setAll (setS env i (.d x)) is xs
  | _, _ => env
def tgD : Tg → D → Env → (Env → Prop) → Prop
  | .v i, x, env, k => k (setS env i (.d x))
  | .t is, .tup ds, env, k => is.length = ds.length ∧ k (setAll env is ds)
  | _, _, _, _ => False
def tgSlots : Tg → List Nat | .v i => [i] | .t is => is
def wipeE (env : Env) : List Nat → Env
  | [] => env
  | i :: is => (wipeE env is).set i none
/-- new list: a cell where it is to be the frame's own, else frozen -/
def mkL (m : Bool) (ds : List D) (L : Tab) (k : KV) : Prop := match m with
  | true => k (.c L.length) (L ++ [.lst ds])
  | false => k (.d (.lst ds)) L
/-- what comes of an operation, of a call -/
def resK (m : Bool) (L : Tab) (k : KV) : D → Prop
  | .lst ds => mkL m ds L k
  | r => k (.d r) L
def rsK (m : Bool) (L : Tab) (k : KV) : Rs → Prop
  | .v x => k (.d x) L
  | .new ds => mkL m ds L k
def dens (L : Tab) : List SV → Option (List D)
  | [] => some []
  | v :: vs => match den L v, dens L vs with
    | some x, some xs => some (x :: xs)
    | _, _ => none
/-- freeze what is to be kept in data -/
def frzL (L : Tab) : List SV → Tab
  | [] => L
  | v :: vs => frzL (frzT L v) vs

section
variable (Γ : Calls) (gc : Nat → D)
mutual
def wpE : E → Bool → Env → Tab → KV → (Xn → Tab → Prop) → Prop
  | .non, _, _, L, k, _ => k (.d .non) L
  | .bl b, _, _, L, k, _ => k (.d (.bl b)) L
  | .int i, _, _, L, k, _ => k (.d (.int i)) L
  | .str s, _, _, L, k, _ => k (.d (.str s)) L
  | .var i, _, env, L, k, _ => match env[i]? with
    | some (some v) => k v L
    | _ => False
  | .gc n, _, _, L, k, _ => k (.d (gc n)) L
  | .bin op a b, m, env, L, k, z => wpE a false env L (fun x L1 => wpE b false env L1 (fun y L2 => match den L2 x, den L2 y with
      | some u, some v => opB op u v (resK m L2 k)
      | _, _ => False) z) z
  | .neg a, _, env, L, k, z => wpE a false env L (fun x L1 => match den L1 x with
      | some (.int i) => k (.d (.int (-i))) L1
      | _ => False) z
  | .cmp op a b, _, env, L, k, z => wpE a false env L (fun x L1 => wpE b false env L1 (fun y L2 => match den L2 x, den L2 y with
      | some u, some v => cmpD op u v fun r => k (.d (.bl r)) L2
      | _, _ => False) z) z
  | .chain o1 o2 a b c, _, env, L, k, z => wpE a false env L (fun x L1 => wpE b false env L1 (fun y L2 => match den L2 x, den L2 y with
      | some u, some v => cmpD o1 u v fun r => match r with
        | true => wpE c false env L2 (fun w L3 => match den L3 y, den L3 w with
          | some v', some w' => cmpD o2 v' w' fun r => k (.d (.bl r)) L3
          | _, _ => False) z
        | false => k (.d (.bl false)) L2
      | _, _ => False) z) z
  | .and a b, _, env, L, k, z => wpE a false env L (fun x L1 => match x with
      | .d (.bl c) => (c = true → wpE b false env L1 k z) ∧ (c = false → k (.d (.bl false)) L1)
      | _ => False) z
  | .or a b, _, env, L, k, z => wpE a false env L (fun x L1 => match x with
      | .d (.bl c) => (c = true → k (.d (.bl true)) L1) ∧ (c = false → wpE b false env L1 k z)
      | _ => False) z
  | .not a, _, env, L, k, z => wpE a false env L (fun x L1 => match x with
      | .d (.bl c) => k (.d (.bl (!c))) L1
      | _ => False) z
  | .ife c a b, m, env, L, k, z => wpT c env L (fun r L1 => (r = true → wpE a m env L1 k z) ∧ (r = false → wpE b m env L1 k z)) z
  | .call f as, m, env, L, k, z => wpEs as env L (fun xs L1 => match dens L1 xs with
      | some ds => Γ f ds (fun r => ((xs.any (owned L1) = true) → r.flat = true ∨ (r.noS = true ∧ L1.all Ct.strs = true)) ∧ rsK m L1 k r) (fun x => z x L1)
      | none => False) z
  | .bi f as, m, env, L, k, z => wpEs as env L (fun xs L1 => match dens L1 xs with
      | some ds => biD f ds (resK m L1 k)
      | none => False) z
  | .bm f o as, m, env, L, k, z => wpE o false env L (fun x L1 => match x with
      | .d (.str a) => wpEs as env L1 (fun xs L2 => match dens L2 xs with
        | some ds => bmD f a ds (resK m L2 k)
        | none => False) z
      | _ => False) z
  | .isi a t, _, env, L, k, z => wpE a false env L (fun x L1 => match den L1 x with
      | some u => match tyD u t with
        | some b => k (.d (.bl b)) L1
        | none => False
      | none => False) z
  | .idx a i, _, env, L, k, z => wpE a false env L (fun x L1 => wpE i false env L1 (fun y L2 => match den L2 x, den L2 y with
      | some u, some v => idxD u v fun r => k (.d r) L2
      | _, _ => False) z) z
  | .slc a lo hi, m, env, L, k, z => wpE a false env L (fun x L1 => wpE lo false env L1 (fun y L2 => match partD lo y with
      | some p => wpE hi false env L2 (fun w L3 => match partD hi w with
        | some q => match den L3 x with
          | some u => cutD u p q (resK m L3 k)
          | none => False
        | none => False) z
      | none => False) z) z
  | .rev a, m, env, L, k, z => wpE a false env L (fun x L1 => match den L1 x with
      | some (.lst ds) => mkL m ds.reverse L1 k
      | _ => False) z
  | .edict, m, _, L, k, _ => match m with
    | true => k (.c L.length) (L ++ [.ob (.kst [])])
    | false => k (.d (.dct [])) L
  | .tdict a b, _, env, L, k, z => wpE a false env L (fun x L1 => wpE b false env L1 (fun _ L2 => match x with
      | .d (.tup ds) => ds.all D.key = true ∧ k (.d (.dct [(.tup ds, .non)])) L2
      | _ => False) z) z
  | .lst as, m, env, L, k, z => wpEs as env L (fun xs L1 => match dens L1 xs with
      | some ds => ds.length ≤ sizeLine ∧ mkL m ds (frzL L1 xs) k
      | none => False) z
  | .tup as, _, env, L, k, z => wpEs as env L (fun xs L1 => match dens L1 xs with
      | some ds => ds.length ≤ sizeLine ∧ k (.d (.tup ds)) (frzL L1 xs)
      | none => False) z
  | .mklist a, m, env, L, k, z => wpE a false env L (fun x L1 => match den L1 x with
      | some (.str s) => s.length ≤ sizeLine ∧ mkL m (s.cps.toList.map fun c => .str ⟨#[c]⟩) L1 k
      | some u => match u.items with
        | some ds => mkL m ds L1 k
        | none => False
      | none => False) z
  | .mkrange a, m, env, L, k, z => wpE a false env L (fun x L1 => match den L1 x with
      | some (.int n) => -(2 ^ 20) < n ∧ n < 2 ^ 20 ∧ mkL m ((List.range n.toNat).map fun i => .int ((i : Nat) : Int)) L1 k
      | _ => False) z
  | .comp tg it elt cs, m, env, L, k, z => wpI it env L (fun items L1 => ∃ I : Nat → List D → Prop, I 0 [] ∧
      (∀ i x acc, items[i]? = some x → I i acc → tgD tg x (wipeE env (tgSlots tg)) fun env2 => wpC cs env2 L1 (fun b =>
        (b = true → wpE elt false env2 L1 (fun v L2 => ∃ d ex, L2 = L1 ++ ex ∧ den L2 v = some d ∧ (∀ j, v = .c j → L1.length ≤ j) ∧ acc.length < sizeLine ∧ I (i + 1) (acc ++ [d])) fun _ _ => False) ∧
        (b = false → I (i + 1) acc))) ∧ ∀ acc, I items.length acc → mkL m acc L1 k) z
  | .compm tg it elt, m, env, L, k, z => wpI it env L (fun items L1 => ∃ I : Nat → List D → Tab → Prop, I 0 [] L1 ∧
      (∀ i x acc T, items[i]? = some x → T.length = L1.length → I i acc T → tgD tg x (wipeE env (tgSlots tg)) fun env2 => wpE elt false env2 T (fun v L2 => ∃ d, v = .d d ∧ acc.length < sizeLine ∧ L1.length ≤ L2.length ∧ I (i + 1) (acc ++ [d]) (L2.take L1.length)) fun _ _ => False) ∧
      ∀ acc T, T.length = L1.length → I items.length acc T → mkL m acc T k) z
  | .pop x e, _, env, L, k, z => match env[x]? with
      | some (some (.c j)) => (∃ ds0, L[j]? = some (.lst ds0)) ∧ wpE e false env L (fun v L1 => match v with
        | .d (.int i) => ∃ ds y, L1[j]? = some (.lst ds) ∧ 0 ≤ i ∧ i < 2 ^ 62 ∧ ds[i.toNat]? = some y ∧ k (.d y) (L1.set j (.lst (ds.eraseIdx i.toNat)))
        | _ => False) z
      | _ => False
  | .upper a, _, env, L, k, z => wpE a false env L (fun x L1 => match x with
      | .d (.str s) => s.length ≤ 5000000 ∧ k (.d (.str (Txt.upper s))) L1
      | _ => False) z
  | .uprep a y w, _, env, L, k, z => wpE a false env L (fun x L1 => match x with
      | .d (.str s) => s.length ≤ 5000000 ∧ (Txt.upper s).length + ((Txt.upper s).length + 1) * w.length ≤ 16777216 ∧ k (.d (.str (Txt.replace (Txt.upper s) y w))) L1
      | _ => False) z
  | .repl o y b, _, env, L, k, z => wpE o false env L (fun x L1 => match x with
      | .d (.str s) => wpE b false env L1 (fun v L2 => match v with
        | .d (.str t) => ∃ c, t.cps.toList[(0 : Nat)]? = some c ∧ (y == (⟨#[c]⟩ : Str)) = false ∧ s.length + (s.length + 1) ≤ 16777216 ∧ k (.d (.str (Txt.replace s y ⟨#[c]⟩))) L2
        | _ => False) z
      | _ => False) z
  | .compk tg x elt cs, _, env, L, k, _ => match env[x]? with
      | some (some (.c j)) => ∃ ds, L[j]? = some (.lst ds) ∧ ds.all D.flat = true ∧ (∀ i ct, L[i]? = some ct → i ≠ j → ct.live = false) ∧ ∃ I : Nat → List D → Prop, I 0 [] ∧
        (∀ i x acc, ds[i]? = some x → I i acc → tgD tg x (wipeE env (tgSlots tg)) fun env2 => wpC cs env2 (L.set j (.fz (.lst ds))) (fun b =>
          (b = true → wpE elt false env2 (L.set j (.fz (.lst ds))) (fun v L2 => ∃ d ex, L2 = L.set j (.fz (.lst ds)) ++ ex ∧ den L2 v = some d ∧ (∀ i, v = .c i → (L.set j (.fz (.lst ds))).length ≤ i) ∧ acc.length < sizeLine ∧ I (i + 1) (acc ++ [d])) fun _ _ => False) ∧
          (b = false → I (i + 1) acc))) ∧ ∀ acc, I ds.length acc → acc.all D.flat = true ∧ k (.d (.lst acc)) L
      | _ => False
  | .fld c a f, _, env, L, k, z => wpE a false env L (fun x L1 => match den L1 x with
      | some (.obj c' fs) => c' = c ∧ ∃ d, fs.lookup f = some d ∧ fs.all (fun p => decide (p.1 < 64)) = true ∧ k (.d d) L1
      | _ => False) z
  | .meth c f o as, m, env, L, k, z => wpE o false env L (fun x L1 => match x with
      | .d (.obj c' fs) => c' = c ∧ fs.all (fun p => decide (p.1 < 64)) = true ∧ wpEs as env L1 (fun xs L2 => match dens L2 xs with
        | some ds => Γ f (.obj c' fs :: ds) (fun r => ((xs.any (owned L2) = true) → r.flat = true ∨ (r.noS = true ∧ L2.all Ct.strs = true)) ∧ rsK m L2 k r) (fun x => z x L2)
        | none => False) z
      | _ => False) z
  | .makeb f j as, _, env, L, k, z => wpEs as env L (fun xs L1 => match dens L1 xs with
      | some ds => (∃ i es, xs[j]? = some (.c i) ∧ L1[i]? = some (.lst es)) ∧ (xs.eraseIdx j).any (owned L1) = false ∧ Γ f ds (fun r => match r with
        | .v u => k (.d u) L1
        | .new _ => False) (fun x => z x L1)
      | none => False) z
  | .setlen a, _, env, L, k, z => wpE a false env L (fun x L1 => match den L1 x with
      | some (.str s) => s.length < 4095 ∧ k (.d (.int ((PDS.dst s.cps.toList s.length : Nat) : Int))) L1
      | _ => False) z
  | .setlenI a, _, env, L, k, z => wpE a false env L (fun x L1 => match den L1 x with
      | some (.lst ds) => ∃ ns : List Int, ds = ns.map D.int ∧ ns.Nodup ∧ ns.length ≤ 4000 ∧ k (.d (.int ((ns.length : Nat) : Int))) (frzT L1 x)
      | _ => False) z
  | .make f as, _, env, L, k, z => wpEs as env L (fun xs L1 => match dens L1 xs with
      | some ds => xs.any (owned L1) = false ∧ Γ f ds (fun r => match r with
        | .v u => k (.d u) L1
        | .new _ => False) (fun x => z x L1)
      | none => False) z
def wpEs : Es → Env → Tab → (List SV → Tab → Prop) → (Xn → Tab → Prop) → Prop
  | .nil, _, L, k, _ => k [] L
  | .cons e es, env, L, k, z => wpE e false env L (fun x L1 => wpEs es env L1 (fun xs L2 => k (x :: xs) L2) z) z
/-- a test -/
def wpT : T → Env → Tab → (Bool → Tab → Prop) → (Xn → Tab → Prop) → Prop
  | .and a b, env, L, k, z => wpT a env L (fun c L1 => (c = true → wpT b env L1 k z) ∧ (c = false → k false L1)) z
  | .or a b, env, L, k, z => wpT a env L (fun c L1 => (c = true → k true L1) ∧ (c = false → wpT b env L1 k z)) z
  | .not a, env, L, k, z => wpT a env L (fun c L1 => k (!c) L1) z
  | .cmp op a b, env, L, k, z => wpE a false env L (fun x L1 => wpE b false env L1 (fun y L2 => match den L2 x, den L2 y with
      | some u, some v => cmpD op u v fun r => k r L2
      | _, _ => False) z) z
  | .chain o1 o2 a b c, env, L, k, z => wpE a false env L (fun x L1 => wpE b false env L1 (fun y L2 => match den L2 x, den L2 y with
      | some u, some v => cmpD o1 u v fun r => match r with
        | true => wpE c false env L2 (fun w L3 => match den L3 y, den L3 w with
          | some v', some w' => cmpD o2 v' w' fun r => k r L3
          | _, _ => False) z
        | false => k false L2
      | _, _ => False) z) z
  | .val e, env, L, k, z => wpE e false env L (fun x L1 => match den L1 x with
      | some u => truD u fun b => k b L1
      | none => False) z
/-- tests of a comprehension: the table stays -/
def wpC : Ts → Env → Tab → (Bool → Prop) → Prop
  | .nil, _, _, k => k true
  | .cons e .nil, env, L, k => wpT e env L (fun b L1 => (∃ ex, L1 = L ++ ex) ∧ k b) fun _ _ => False
  | .cons _ (.cons _ _), _, _, _ => False
def wpI : It → Env → Tab → (List D → Tab → Prop) → (Xn → Tab → Prop) → Prop
  | .seq e, env, L, k, z => wpE e false env L (fun x L1 => match den L1 x with
      | some (.str s) => k (s.cps.toList.map fun c => .str ⟨#[c]⟩) L1
      | some u => match u.items with
        | some ds => k ds (frzT L1 x)
        | none => False
      | none => False) z
  | .range1 b, env, L, k, z => wpE b false env L (fun x L1 => match den L1 x with
      | some (.int n) => -(2 ^ 62) ≤ n ∧ n < 2 ^ 62 ∧ k ((List.range n.toNat).map fun i => .int ((i : Nat) : Int)) L1
      | _ => False) z
  | .range2 a b, env, L, k, z => wpE a false env L (fun x L1 => wpE b false env L1 (fun y L2 => match den L2 x, den L2 y with
      | some (.int i), some (.int n) => (-(2 ^ 62) ≤ i ∧ i < 2 ^ 62 ∧ -(2 ^ 62) ≤ n ∧ n < 2 ^ 62) ∧ k ((List.range (n - i).toNat).map fun j => .int (i + (j : Nat))) L2
      | _, _ => False) z) z
  | .range3 a b, env, L, k, z => wpE a false env L (fun x L1 => wpE b false env L1 (fun y L2 => match den L2 x, den L2 y with
      | some (.int i), some (.int n) => (-(2 ^ 30) ≤ i ∧ i < 2 ^ 30 ∧ -(2 ^ 30) ≤ n ∧ n < 2 ^ 30) ∧ k ((List.range ((n - i + 1) / 2).toNat).map fun j => .int (i + (j : Nat) * 2)) L2
      | _, _ => False) z) z
  | .enum e, env, L, k, z => wpE e false env L (fun x L1 => match den L1 x with
      | some (.lst ds) => k (ds.zipIdx.map fun p => .tup [.int (p.2 : Nat), p.1]) (frzT L1 x)
      | some (.str s) => k ((s.cps.toList.map fun c => D.str ⟨#[c]⟩).zipIdx.map fun p => .tup [.int (p.2 : Nat), p.1]) L1
      | _ => False) z
  | .zip a b, env, L, k, z => wpE a false env L (fun x L1 => wpE b false env L1 (fun y L2 => match den L2 x, den L2 y with
      | some (.lst ds), some (.lst es) => k ((ds.zip es).map fun p => .tup [p.1, p.2]) (frzT (frzT L2 x) y)
      | some (.str s), some (.lst es) => k (((s.cps.toList.map fun c => D.str ⟨#[c]⟩).zip es).map fun p => .tup [p.1, p.2]) (frzT L2 y)
      | _, _ => False) z) z
  | .reversed e, env, L, k, z => wpE e false env L (fun x L1 => match den L1 x with
      | some (.lst ds) => k ds.reverse (frzT L1 x)
      | _ => False) z
end
end

/-! ## statements -/
def putI (ks : List Int) (n : Int) : List Int := if n ∈ ks then ks else ks ++ [n]
structure Ko where
  nx : Env → Tab → Prop
  rt : SV → Tab → Prop
  bk : Env → Tab → Prop
  ct : Env → Tab → Prop
  z : Xn → Env → Tab → Prop
def frzSlots : List Nat → Env → Tab → Env × Tab
  | [], env, L => (env, L)
  | i :: is, env, L => match env[i]? with
    | some (some (.c j)) => match L[j]? with
      | some ct => frzSlots is (env.set i (some (.d ct.dat))) (L.set j (.fz ct.dat))
      | none => frzSlots is (env.set i none) L
    | _ => frzSlots is env L
def cutV1 (n : Nat) : Option SV → Option SV
  | some (.c j) => if j < n then some (.c j) else none
  | v => v
/-- at a loop's head: the slots that the body gives anew are frozen, new cells dropped -/
def nrmE (sl : List Nat) (n : Nat) (env : Env) (L : Tab) : Env := (frzSlots sl env L).1.map (cutV1 n)
def nrmT (sl : List Nat) (n : Nat) (env : Env) (L : Tab) : Tab := (frzSlots sl env L).2.take n
def runX (c : Nat) (nx : Env → Tab → Prop) (rt : SV → Tab → Prop) : List XS → Env → Tab → Prop
  | [], env, L => nx env L
  | .asg i bs :: xs, env, L => runX c nx rt xs (setS env i (.d (.lst (bs.map fun b => .bl (b.ev c))))) L
  | .ifn t i :: xs, env, L => (t.ev c = true → runX c nx rt xs (setS env i (.d (.lst []))) L) ∧ (t.ev c = false → runX c nx rt xs env L)
  | .call i _ bs ts :: xs, env, L => runX c nx rt xs (setS env i (.d (.lst ((hotR c bs ts).map D.bl)))) L
  | .ret t i :: _, env, L => match env[i]? with
    | some (some (.d (.lst bs))) => bs.all D.flat = true ∧ rt (.d (.bl (t.ev c && !D.inL (.bl true) bs))) L
    | _ => False
section
variable (Γ : Calls) (gc : Nat → D)
mutual
def wpS : S → Env → Tab → Ko → Prop
  | .asg (.v i) e, env, L, K => wpE Γ gc e false env L (fun v L1 => K.nx (setS env i v) L1) (fun x => K.z x env)
  | .asg (.t is) e, env, L, K => wpE Γ gc e false env L (fun v L1 => match den L1 v with
      | some (.tup ds) => is.length = ds.length ∧ K.nx (setAll env is ds) L1
      | some (.lst ds) => is.length = ds.length ∧ K.nx (setAll env is ds) L1
      | _ => False) (fun x => K.z x env)
  | .own i e, env, L, K => wpE Γ gc e true env L (fun v L1 => K.nx (setS env i v) L1) (fun x => K.z x env)
  | .par i j a b, env, L, K => wpE Γ gc a false env L (fun v L1 => wpE Γ gc b false env L1 (fun w L2 => K.nx (setS (setS env i v) j w) L2) (fun x => K.z x env)) (fun x => K.z x env)
  | .aug i op e, env, L, K => match env[i]? with
      | some (some x) => wpE Γ gc e false env L (fun y L1 => match x, y with
          | .d (.int a), .d (.int b) => match op with
            | .add => K.nx (setS env i (.d (.int (a + b)))) L1
            | .sub => K.nx (setS env i (.d (.int (a - b)))) L1
            | _ => False
          | _, _ => False) (fun x => K.z x env)
      | _ => False
  | .setix x i e, env, L, K => match env[x]? with
      | some (some (.c j)) => wpE Γ gc e false env L (fun v L1 => wpE Γ gc i false env L1 (fun w L2 => match w, den L2 v with
        | .d (.int n), some d => ∃ ds k, (frzT L2 v)[j]? = some (.lst ds) ∧ ixN ds.length n = some k ∧ K.nx env ((frzT L2 v).set j (.lst (ds.set k d)))
        | _, _ => False) (fun x => K.z x env)) (fun x => K.z x env)
      | _ => False
  | .setk x i, env, L, K => match env[x]? with
      | some (some (.c j)) => wpE Γ gc i false env L (fun w L1 => match w with
        | .d (.int n) => ∃ ks, L1[j]? = some (.ob (.kst ks)) ∧ ks.length < sizeLine ∧ K.nx env (L1.set j (.ob (.kst (putI ks n))))
        | _ => False) (fun x => K.z x env)
      | _ => False
  | .append x e, env, L, K => match env[x]? with
      | some (some (.c j)) => (∃ ds, L[j]? = some (.lst ds)) ∧ wpE Γ gc e false env L (fun v L1 => match den L1 v with
        | some d => ∃ ds, (frzT L1 v)[j]? = some (.lst ds) ∧ ds.length < sizeLine ∧ K.nx env ((frzT L1 v).set j (.lst (ds ++ [d])))
        | none => False) (fun x => K.z x env)
      | _ => False
  | .extend x e, env, L, K => match env[x]? with
      | some (some (.c j)) => (∃ ds, L[j]? = some (.lst ds)) ∧ wpE Γ gc e false env L (fun v L1 => match den L1 v with
        | some (.lst es) => ∃ ds, (frzT L1 v)[j]? = some (.lst ds) ∧ ds.length + es.length ≤ sizeLine ∧ K.nx env ((frzT L1 v).set j (.lst (ds ++ es)))
        | _ => False) (fun x => K.z x env)
      | _ => False
  | .ret e, env, L, K => wpE Γ gc e false env L K.rt (fun x => K.z x env)
  | .retO e, env, L, K => wpE Γ gc e true env L K.rt (fun x => K.z x env)
  | .retN, _, L, K => K.rt (.d .non) L
  | .expr e, env, L, K => wpE Γ gc e false env L (fun _ L1 => K.nx env L1) (fun x => K.z x env)
  | .ife c a b, env, L, K => wpT Γ gc c env L (fun r L1 => (r = true → wpSs a env L1 K) ∧ (r = false → wpSs b env L1 K)) (fun x => K.z x env)
  | .for_ tg it sl body, env, L, K => wpI Γ gc it env L (fun items L1 => ∃ I : Nat → Env → Tab → Prop, I 0 (nrmE sl L1.length env L1) (nrmT sl L1.length env L1) ∧
      (∀ i x e l, items[i]? = some x → I i e l → tgD tg x e fun e2 => wpSs body e2 l
        ⟨fun e' l' => I (i + 1) (nrmE sl L1.length e' l') (nrmT sl L1.length e' l'), K.rt, K.nx, fun e' l' => I (i + 1) (nrmE sl L1.length e' l') (nrmT sl L1.length e' l'), K.z⟩) ∧
      ∀ e l, I items.length e l → K.nx e l) (fun x => K.z x env)
  | .while_ c sl body, env, L, K => ∃ I : Nat → Env → Tab → Prop, (∃ m, I m (nrmE sl L.length env L) (nrmT sl L.length env L)) ∧
      ∀ m e l, I m e l → wpT Γ gc c e l (fun b l1 => (b = true → wpSs body e l1
        ⟨fun e' l' => ∃ m', m' < m ∧ I m' (nrmE sl L.length e' l') (nrmT sl L.length e' l'), K.rt, K.nx, fun e' l' => ∃ m', m' < m ∧ I m' (nrmE sl L.length e' l') (nrmT sl L.length e' l'), K.z⟩) ∧
        (b = false → K.nx e l1)) (fun x => K.z x e)
  | .setf x c f e, env, L, K => match env[x]? with
      | some (some (.c j)) => wpE Γ gc e false env L (fun v L1 => match den L1 v with
        | some d => ∃ fs, (frzT L1 v)[j]? = some (.ob (.obj c fs)) ∧ fs.all (fun p => decide (p.1 < f)) = true ∧ fs.length < 60 ∧ K.nx env ((frzT L1 v).set j (.ob (.obj c (fs ++ [(f, d)]))))
        | none => False) (fun x => K.z x env)
      | _ => False
  | .clear x, env, L, K => match env[x]? with
      | some (some (.c j)) => ∃ ds, L[j]? = some (.lst ds) ∧ K.nx env (L.set j (.lst []))
      | _ => False
  | .raise c, env, L, K => K.z (c, none) env L
  | .tryx body _ m cs n xs, env, L, K => wpSs body env L ⟨K.nx, K.rt, K.bk, K.ct, fun x env' L' => x.2 = none ∧ n < env'.length ∧ x.1 < m ∧ (x.1 ∈ cs → runX x.1 K.nx K.rt xs (env'.set n none) L') ∧ (x.1 ∉ cs → K.z x env' L')⟩
  | .frz i, env, L, K => K.nx (frzSlots [i] env L).1 (frzSlots [i] env L).2
  | .never, _, _, _ => False
  | .pass, env, L, K => K.nx env L
  | .mintI t o1 o2 i b c r, env, L, K => wpT Γ gc t env L (fun r1 L1 => (r1 = true → K.rt (.d (.bl r)) L1) ∧ (r1 = false → wpT Γ gc (.chain o1 o2 (.int i) b c) env L1 (fun r2 L2 => (r2 = false → K.rt (.d (.bl r)) L2) ∧ (r2 = true → K.nx env L2)) (fun x => K.z x env))) (fun x => K.z x env)
  | .mintL i a, env, L, K => wpE Γ gc a false env L (fun x L1 => match x with
      | .d (.str s) => s.length ≤ sizeLine ∧ K.nx (setS env i (.d (.int s.length))) L1
      | _ => False) (fun x => K.z x env)
  | .repA i f a o y b, env, L, K => wpE Γ gc (.call f (.cons a (.cons (.repl o y b) .nil))) false env L (fun v L1 => K.nx (setS env i v) L1) (fun x => K.z x env)
  | .repR f a o y b, env, L, K => wpE Γ gc (.call f (.cons a (.cons (.repl o y b) .nil))) false env L K.rt (fun x => K.z x env)
def wpSs : Ss → Env → Tab → Ko → Prop
  | .nil, env, L, K => K.nx env L
  | .cons s ss, env, L, K => wpS s env L ⟨fun e l => wpSs ss e l K, K.rt, K.bk, K.ct, K.z⟩
end
end
inductive Kd where | fn | me (c : Nat) | ini (c : Nat) | inb (c j : Nat)
structure Fn where
  slots : Nat
  params : Nat
  body : Ss
  own : Bool
  kd : Kd
def back (own : Bool) (k : Rs → Prop) (v : SV) (L : Tab) : Prop := match v with
  | .d x => k (.v x)
  | .c j => match L[j]? with
    | some (.lst ds) => match own with
      | true => k (.new ds)
      | false => k (.v (.lst ds))
    | some (.ob u) => k (.v u)
    | some (.fz x) => k (.v x)
    | none => False
def startE (F : Fn) (ds : List D) : Env := ds.map (fun x => some (.d x)) ++ List.replicate (F.slots - F.params) none
def startI (F : Fn) (ds : List D) : Env := some (.c 0) :: (ds.map (fun x => some (.d x)) ++ List.replicate (F.slots - F.params) none)
def startB (F : Fn) (j : Nat) (ds : List D) : Env := some (.c 0) :: ((ds.map (fun x => some (SV.d x))).set j (some (.c 1)) ++ List.replicate (F.slots - F.params) none)
/-- what an object is behind its __init__ -/
def made (k : Rs → Prop) (L : Tab) : Prop := match L[(0 : Nat)]? with
  | some (.ob u) => k (.v u)
  | _ => False
def wpF (P : Nat → Option Fn) (gc : Nat → D) : Nat → Calls
  | 0 => fun _ _ _ _ => False
  | n + 1 => fun f ds k z => match P f with
    | none => False
    | some F => match F.kd with
      | .ini c => ds.length + 1 = F.params ∧ wpSs (wpF P gc n) gc F.body (startI F ds) [.ob (.obj c [])] ⟨fun _ L => made k L, fun _ _ => False, fun _ _ => False, fun _ _ => False, fun x _ _ => z x⟩
      | .inb c j => ds.length + 1 = F.params ∧ ∃ es, ds[j]? = some (.lst es) ∧ wpSs (wpF P gc n) gc F.body (startB F j ds) [.ob (.obj c []), .lst es] ⟨fun _ L => L[(1 : Nat)]? = some (.lst es) ∧ made k L, fun _ _ => False, fun _ _ => False, fun _ _ => False, fun x _ L => L[(1 : Nat)]? = some (.lst es) ∧ z x⟩
      | _ => ds.length = F.params ∧ wpSs (wpF P gc n) gc F.body (startE F ds) [] ⟨fun _ _ => k (.v .non), back F.own k, fun _ _ => False, fun _ _ => False, fun x _ _ => z x⟩
end PD

namespace PD
open PySem L2

/-! ## data and the heap -/
structure Gs where
  K : PySem.W.Frag
  cA : Nat → Addr
  fN : Nat → Str
mutual
inductive Rep (G : Gs) (H : Hp) : V → D → Prop
  | non : Rep G H .non .non
  | bl (b : Bool) : Rep G H (.bl b) (.bl b)
  | int (i : Int) : Rep G H (.int i) (.int i)
  | str (s : Str) : Rep G H (.str s) (.str s)
  | lst {a : Addr} {vs : List V} {ds : List D} : H a = some (.lst vs) → RepL G H vs ds → Rep G H (.ref a) (.lst ds)
  | tup {a : Addr} {vs : List V} {ds : List D} : H a = some (.tup vs) → RepL G H vs ds → Rep G H (.ref a) (.tup ds)
  | scr {a : Addr} {ns : List Int} : SqL G.K H a (ns.map V.int) → Rep G H (.ref a) (.scr ns)
  | kst {a : Addr} {ks : List Int} : H a = some (.dK (ks.map fun i => ((Sum.inl i : Key), V.bl true))) → Rep G H (.ref a) (.kst ks)
  | dct {a : Addr} : H a = some (.dK []) → Rep G H (.ref a) (.dct [])
  | dctT {a : Addr} {kvs : List (List Key × V)} {x : D × D} : H a = some (.dT kvs) → Rep G H (.ref a) (.dct [x])
  | obj {a dx : Addr} {c : Nat} {gs : List (Str × V)} {fs : List (Nat × D)} : H a = some (.ins (G.cA c) dx gs) → RepF G H gs fs → Rep G H (.ref a) (.obj c fs)
inductive RepL (G : Gs) (H : Hp) : List V → List D → Prop
  | nil : RepL G H [] []
  | cons {v : V} {vs : List V} {d : D} {ds : List D} : Rep G H v d → RepL G H vs ds → RepL G H (v :: vs) (d :: ds)
inductive RepF (G : Gs) (H : Hp) : List (Str × V) → List (Nat × D) → Prop
  | nil : RepF G H [] []
  | cons {f : Nat} {v : V} {gs : List (Str × V)} {d : D} {fs : List (Nat × D)} : Rep G H v d → RepF G H gs fs → RepF G H ((G.fN f, v) :: gs) ((f, d) :: fs)
end
section
variable {G : Gs} {H H' : Hp}
mutual
theorem Rep.mono (e : Same H H') : ∀ {v : V} {d : D}, Rep G H v d → Rep G H' v d
  | _, _, .non => .non
  | _, _, .bl b => .bl b
  | _, _, .int i => .int i
  | _, _, .str s => .str s
  | _, _, .lst h r => .lst (e _ _ h) (RepL.mono e r)
  | _, _, .tup h r => .tup (e _ _ h) (RepL.mono e r)
  | _, _, .scr h => .scr (e.seq h)
  | _, _, .kst h => .kst (e _ _ h)
  | _, _, .dct h => .dct (e _ _ h)
  | _, _, .dctT h => .dctT (e _ _ h)
  | _, _, .obj h r => .obj (e _ _ h) (RepF.mono e r)
theorem RepL.mono (e : Same H H') : ∀ {vs : List V} {ds : List D}, RepL G H vs ds → RepL G H' vs ds
  | _, _, .nil => .nil
  | _, _, .cons r t => .cons (Rep.mono e r) (RepL.mono e t)
theorem RepF.mono (e : Same H H') : ∀ {gs : List (Str × V)} {fs : List (Nat × D)}, RepF G H gs fs → RepF G H' gs fs
  | _, _, .nil => .nil
  | _, _, .cons r t => .cons (Rep.mono e r) (RepF.mono e t)
end
theorem RepL.length : ∀ {vs : List V} {ds : List D}, RepL G H vs ds → vs.length = ds.length
  | _, _, .nil => rfl
  | _, _, .cons _ t => by simp [RepL.length t]
theorem RepL.append : ∀ {vs ws : List V} {ds es : List D}, RepL G H vs ds → RepL G H ws es → RepL G H (vs ++ ws) (ds ++ es)
  | _, _, _, _, .nil, s => s
  | _, _, _, _, .cons r t, s => .cons r (RepL.append t s)
theorem RepL.get : ∀ {vs : List V} {ds : List D} {i : Nat} {d : D}, RepL G H vs ds → ds[i]? = some d → ∃ v, vs[i]? = some v ∧ Rep G H v d
  | _, _, _, _, .nil, e => by simp at e
  | _, _, 0, _, .cons r _, e => by simp at e; subst e; exact ⟨_, rfl, r⟩
  | _, _, i + 1, _, .cons _ t, e => by
    obtain ⟨v, h1, h2⟩ := RepL.get (i := i) t (by simpa using e)
    exact ⟨v, by simpa using h1, h2⟩
theorem RepL.getV : ∀ {vs : List V} {ds : List D} {i : Nat} {v : V}, RepL G H vs ds → vs[i]? = some v → ∃ d, ds[i]? = some d ∧ Rep G H v d
  | _, _, _, _, .nil, e => by simp at e
  | _, _, 0, _, .cons r _, e => by simp at e; subst e; exact ⟨_, rfl, r⟩
  | _, _, i + 1, _, .cons _ t, e => by
    obtain ⟨v, h1, h2⟩ := RepL.getV (i := i) t (by simpa using e)
    exact ⟨v, by simpa using h1, h2⟩
theorem RepL.set {v : V} {d : D} (r : Rep G H v d) : ∀ {vs : List V} {ds : List D} (i : Nat), RepL G H vs ds → RepL G H (vs.set i v) (ds.set i d)
  | _, _, _, .nil => .nil
  | _, _, 0, .cons _ t => .cons r t
  | _, _, i + 1, .cons q t => .cons q (RepL.set r i t)
theorem RepL.take : ∀ {vs : List V} {ds : List D} (n : Nat), RepL G H vs ds → RepL G H (vs.take n) (ds.take n)
  | _, _, 0, _ => .nil
  | _, _, _ + 1, .nil => .nil
  | _, _, n + 1, .cons r t => .cons r (RepL.take n t)
theorem RepL.drop : ∀ {vs : List V} {ds : List D} (n : Nat), RepL G H vs ds → RepL G H (vs.drop n) (ds.drop n)
  | _, _, 0, r => r
  | _, _, _ + 1, .nil => .nil
  | _, _, n + 1, .cons _ t => RepL.drop n t
theorem RepL.reverse : ∀ {vs : List V} {ds : List D}, RepL G H vs ds → RepL G H vs.reverse ds.reverse
  | _, _, .nil => .nil
  | _, _, .cons r t => by
    simp only [List.reverse_cons]
    exact RepL.append (RepL.reverse t) (.cons r .nil)
theorem RepL.rep {vs : List V} {ds : List D} (h : RepL G H vs ds) : ∀ k : Nat, RepL G H (List.replicate k vs).flatten (List.replicate k ds).flatten
  | 0 => .nil
  | k + 1 => by
    simp only [List.replicate_succ, List.flatten_cons]
    exact RepL.append h (RepL.rep h k)
theorem RepL.ints : ∀ (ns : List Int), RepL G H (ns.map V.int) (ns.map D.int)
  | [] => .nil
  | n :: ns => .cons (.int n) (RepL.ints ns)
theorem RepL.ofInts : ∀ {vs : List V} {ns : List Int}, RepL G H vs (ns.map D.int) → vs = ns.map V.int
  | _, [], .nil => rfl
  | _, n :: ns, .cons r t => by
    cases r
    rw [RepL.ofInts t]
    rfl
theorem RepL.ofBls : ∀ {vs : List V} {ns : List Bool}, RepL G H vs (ns.map D.bl) → vs = ns.map V.bl
  | _, [], .nil => rfl
  | _, n :: ns, .cons r t => by
    cases r
    rw [RepL.ofBls t]
    rfl
theorem RepL.ofStrs : ∀ {vs : List V} {ns : List Str}, RepL G H vs (ns.map D.str) → vs = ns.map V.str
  | _, [], .nil => rfl
  | _, n :: ns, .cons r t => by
    cases r
    rw [RepL.ofStrs t]
    rfl
theorem Rep.ofFlat {v : V} {d : D} (h : d.flat = true) (r : Rep G H v d) (H2 : Hp) : Rep G H2 v d := by
  cases r with
  | non => exact .non
  | bl b => exact .bl b
  | int b => exact .int b
  | str b => exact .str b
  | lst _ _ => cases h
  | tup _ _ => cases h
  | scr _ => cases h
  | kst _ => cases h
  | dct _ => cases h
  | dctT _ => cases h
  | obj _ _ => cases h
theorem RepL.ofFlat (H2 : Hp) : ∀ {vs : List V} {ds : List D}, ds.all D.flat = true → RepL G H vs ds → RepL G H2 vs ds
  | _, _, _, .nil => .nil
  | _, _, h, .cons r t => by
    rw [List.all_cons, Bool.and_eq_true] at h
    exact .cons (r.ofFlat h.1 H2) (RepL.ofFlat H2 h.2 t)
end

/-- a value of a slot -/
def RepS (G : Gs) (Hb : Hp) (ad : List Addr) (v : V) : SV → Prop
  | .d x => Rep G Hb v x
  | .c j => ∃ a, ad[j]? = some a ∧ v = .ref a
/-- what an own object holds -/
def OwnR (G : Gs) (Hb : Hp) : HO → Ct → Prop
  | .lst vs, .lst ds => RepL G Hb vs ds
  | .dK kvs, .ob (.kst ks) => kvs = ks.map fun i => ((Sum.inl i : Key), V.bl true)
  | .ins C _ gs, .ob (.obj c fs) => C = G.cA c ∧ RepF G Hb gs fs
  | _, _ => False
theorem OwnR.mono {G : Gs} {H H' : Hp} (e : Same H H') {o : HO} {ct : Ct} (h : OwnR G H o ct) : OwnR G H' o ct := by
  cases ct with
  | fz x => cases o <;> exact h.elim
  | lst ds => cases o <;> first | exact h.elim | exact RepL.mono e h
  | ob u =>
    cases u
    case kst ks => cases o <;> first | exact h.elim | exact h
    case obj c fs => cases o <;> first | exact h.elim | exact ⟨h.1, RepF.mono e h.2⟩
    all_goals (cases o <;> exact h.elim)
theorem OwnR.rep {G : Gs} {H : Hp} {a : Addr} {o : HO} {ct : Ct} (e : H a = some o) (h : OwnR G H o ct) : Rep G H (.ref a) ct.dat := by
  cases ct with
  | fz x => cases o <;> exact h.elim
  | lst ds => cases o <;> first | exact h.elim | exact .lst e h
  | ob u =>
    cases u
    case kst ks =>
      cases o <;> first | exact h.elim | skip
      exact .kst (e.trans (congrArg (fun z => some (HO.dK z)) h))
    case obj c fs =>
      cases o <;> first | exact h.elim | skip
      obtain ⟨rfl, r⟩ := h
      exact .obj e r
    all_goals (cases o <;> exact h.elim)
structure Rel (G : Gs) (Hb H : Hp) (ad : List Addr) (L : Tab) : Prop where
  ext : Same Hb H
  len : ad.length = L.length
  nd : ad.Nodup
  own : ∀ (j : Nat) (ct : Ct) (a : Addr), L[j]? = some ct → ad[j]? = some a → ct.live = true → Hb a = none ∧ ∃ o, H a = some o ∧ OwnR G Hb o ct
  ina : ∀ a ∈ ad, H a ≠ none
  fz : ∀ (j : Nat) (x : D) (a : Addr), L[j]? = some (.fz x) → ad[j]? = some a → Rep G Hb (.ref a) x
structure EnvR (G : Gs) (Hb : Hp) (ad : List Addr) (env : Env) (σ : St) : Prop where
  len : env.length = σ.length
  at_ : ∀ (i : Nat) (sv : SV), env[i]? = some (some sv) → ∃ v, σ[i]? = some (some v) ∧ RepS G Hb ad v sv
structure Stp (Hb H : Hp) (ad : List Addr) (Hb' H' : Hp) (ad' : List Addr) : Prop where
  base : Same Hb Hb'
  new : ∃ ns, ad' = ad ++ ns ∧ ∀ a ∈ ns, H a = none
  keep : ∀ a o, H a = some o → a ∉ ad → H' a = some o
  bas : ∀ a, Hb a = none → Hb' a ≠ none → H a = none ∨ a ∈ ad
  there : ∀ a, H' a = none → H a = none
section
variable {G : Gs} {Hb Hb1 Hb2 H H1 H2 : Hp} {ad ad1 ad2 : List Addr} {L : Tab} {env : Env} {σ : St} {v : V} {sv : SV}
theorem Stp.refl : Stp Hb H ad Hb H ad := ⟨Same.refl _, ⟨[], by simp, fun _ h => nomatch h⟩, fun _ _ h _ => h, fun _ h h' => absurd h h', fun _ h => h⟩
theorem Stp.trans (a : Stp Hb H ad Hb1 H1 ad1) (b : Stp Hb1 H1 ad1 Hb2 H2 ad2) : Stp Hb H ad Hb2 H2 ad2 := by
  obtain ⟨n1, e1, f1⟩ := a.new
  obtain ⟨n2, e2, f2⟩ := b.new
  refine ⟨a.base.trans b.base, ⟨n1 ++ n2, by rw [e2, e1, List.append_assoc], fun x hx => ?_⟩, fun x o h hn => ?_, fun x h h' => ?_, fun x h => a.there x (b.there x h)⟩
  · rcases List.mem_append.mp hx with hx | hx
    · exact f1 x hx
    · exact a.there x (f2 x hx)
  · have h1 := a.keep x o h hn
    refine b.keep x o h1 fun hm => ?_
    rw [e1] at hm
    rcases List.mem_append.mp hm with hm | hm
    · exact hn hm
    · rw [f1 x hm] at h; cases h
  · cases q : Hb1 x with
    | some o => exact a.bas x h (by rw [q]; simp)
    | none =>
      rcases b.bas x q h' with h1 | h1
      · exact .inl (a.there x h1)
      · rw [e1] at h1
        rcases List.mem_append.mp h1 with h1 | h1
        · exact .inr h1
        · exact .inl (f1 x h1)
theorem Stp.pre (a : Stp Hb H ad Hb1 H1 ad1) {j : Nat} {x : Addr} (h : ad[j]? = some x) : ad1[j]? = some x := by
  obtain ⟨ns, e, _⟩ := a.new
  obtain ⟨hj, _⟩ := List.getElem?_eq_some_iff.mp h
  rw [e, List.getElem?_append_left hj]
  exact h
/-- a slot's value stays -/
theorem RepS.step (a : Stp Hb H ad Hb1 H1 ad1) (r : RepS G Hb ad v sv) : RepS G Hb1 ad1 v sv := by
  cases sv with
  | d x => exact Rep.mono a.base r
  | c j =>
    obtain ⟨x, h1, h2⟩ := r
    exact ⟨x, a.pre h1, h2⟩
theorem EnvR.step (a : Stp Hb H ad Hb1 H1 ad1) (r : EnvR G Hb ad env σ) : EnvR G Hb1 ad1 env σ :=
  ⟨r.len, fun i sv h => let ⟨v, h1, h2⟩ := r.at_ i sv h; ⟨v, h1, h2.step a⟩⟩
theorem EnvR.set (r : EnvR G Hb ad env σ) (i : Nat) (q : RepS G Hb ad v sv) : EnvR G Hb ad (setS env i sv) (σ.set i (some v)) := by
  refine ⟨by simp [setS, r.len], fun j sw h => ?_⟩
  unfold setS at h
  by_cases hj : j = i
  · subst hj
    by_cases hl : j < env.length
    · rw [List.getElem?_set_self hl] at h
      cases h
      exact ⟨v, by rw [List.getElem?_set_self (by rw [← r.len]; exact hl)], q⟩
    · rw [List.getElem?_eq_none (by simp; omega)] at h; cases h
  · rw [List.getElem?_set_ne (Ne.symm hj)] at h
    obtain ⟨w, h1, h2⟩ := r.at_ j sw h
    exact ⟨w, by rw [List.getElem?_set_ne (Ne.symm hj)]; exact h1, h2⟩
theorem EnvR.unset (r : EnvR G Hb ad env σ) (i : Nat) : EnvR G Hb ad (env.set i none) σ := by
  refine ⟨by simp [r.len], fun j sw h => ?_⟩
  by_cases hj : j = i
  · subst hj
    by_cases hl : j < env.length
    · rw [List.getElem?_set_self hl] at h; cases h
    · rw [List.getElem?_eq_none (by simp; omega)] at h; cases h
  · rw [List.getElem?_set_ne (Ne.symm hj)] at h
    exact r.at_ j sw h
theorem EnvR.wipe : ∀ (is : List Nat), EnvR G Hb ad env σ → EnvR G Hb ad (wipeE env is) (L2.wipe σ is)
  | [], r => r
  | i :: is, r => by
    have q := EnvR.wipe is r
    unfold wipeE L2.wipe
    refine ⟨by simp [q.len], fun j sw h => ?_⟩
    by_cases hj : j = i
    · subst hj
      by_cases hl : j < (wipeE env is).length
      · rw [List.getElem?_set_self hl] at h; cases h
      · rw [List.getElem?_eq_none (by simp; omega)] at h; cases h
    · rw [List.getElem?_set_ne (Ne.symm hj)] at h
      obtain ⟨w, h1, h2⟩ := q.at_ j sw h
      exact ⟨w, by rw [List.getElem?_set_ne (Ne.symm hj)]; exact h1, h2⟩

theorem Rel.cell (R : Rel G Hb H ad L) (j : Nat) (ds : List D) (a : Addr) (h : L[j]? = some (.lst ds)) (h' : ad[j]? = some a) : Hb a = none ∧ ∃ vs, H a = some (.lst vs) ∧ RepL G Hb vs ds := by
  obtain ⟨h0, o, h1, h2⟩ := R.own j _ a h h' rfl
  cases o <;> first | exact h2.elim | exact ⟨h0, _, h1, h2⟩
/-- what is read: data of the base, or an own object's -/
def Pk (G : Gs) (Hb H : Hp) (v : V) (u : D) : Prop := Rep G Hb v u ∨ ∃ a o ct, v = .ref a ∧ u = ct.dat ∧ H a = some o ∧ OwnR G Hb o ct
theorem Rel.read {u : D} (R : Rel G Hb H ad L) (r : RepS G Hb ad v sv) (e : den L sv = some u) : Pk G Hb H v u := by
  cases sv with
  | d x => cases e; exact .inl r
  | c j =>
    obtain ⟨a, h1, rfl⟩ := r
    unfold den at e
    cases q : L[j]? with
    | none => simp only [q] at e; cases e
    | some ct =>
      simp only [q] at e
      cases ct with
      | lst ds =>
        cases e
        obtain ⟨_, o, h2, h3⟩ := R.own j _ a q h1 rfl
        exact .inr ⟨a, o, _, rfl, rfl, h2, h3⟩
      | ob u =>
        cases e
        obtain ⟨_, o, h2, h3⟩ := R.own j _ a q h1 rfl
        exact .inr ⟨a, o, _, rfl, rfl, h2, h3⟩
      | fz x =>
        cases e
        exact .inl (R.fz j x a q h1)
/-- no own object is read so -/
def D.ownK : D → Bool
  | .lst _ => true | .kst _ => true | .obj _ _ => true | _ => false
theorem OwnR.ownK {o : HO} {ct : Ct} (h : OwnR G Hb o ct) : ct.dat.ownK = true := by
  cases ct with
  | fz x => cases o <;> exact h.elim
  | lst ds => rfl
  | ob u =>
    cases u <;> first | rfl | (cases o <;> exact h.elim)
theorem Pk.base {u : D} (h : Pk G Hb H v u) (n : u.ownK = false) : Rep G Hb v u := by
  rcases h with h | ⟨a, o, ct, _, rfl, _, h2⟩
  · exact h
  · rw [h2.ownK] at n; cases n
theorem Pk.int {i : Int} (h : Pk G Hb H v (.int i)) : v = .int i := by cases h.base rfl; rfl
theorem Pk.bl {i : Bool} (h : Pk G Hb H v (.bl i)) : v = .bl i := by cases h.base rfl; rfl
theorem Pk.str {i : Str} (h : Pk G Hb H v (.str i)) : v = .str i := by cases h.base rfl; rfl
theorem Pk.non (h : Pk G Hb H v .non) : v = .non := by cases h.base rfl; rfl
theorem OwnR.lst' {o : HO} {ct : Ct} {ds : List D} (h : OwnR G Hb o ct) (e : D.lst ds = ct.dat) : ∃ vs, o = .lst vs ∧ RepL G Hb vs ds := by
  cases ct with
  | fz x => cases o <;> exact h.elim
  | lst es => cases e; cases o <;> first | exact h.elim | exact ⟨_, rfl, h⟩
  | ob u => cases e; cases o <;> exact h.elim
theorem OwnR.kst' {o : HO} {ct : Ct} {ks : List Int} (h : OwnR G Hb o ct) (e : D.kst ks = ct.dat) : o = .dK (ks.map fun i => ((Sum.inl i : Key), V.bl true)) := by
  cases ct with
  | fz x => cases o <;> exact h.elim
  | lst es => cases e
  | ob u => cases e; cases o <;> first | exact h.elim | exact congrArg HO.dK h
theorem OwnR.obj' {o : HO} {ct : Ct} {c : Nat} {fs : List (Nat × D)} (h : OwnR G Hb o ct) (e : D.obj c fs = ct.dat) : ∃ dx gs, o = .ins (G.cA c) dx gs ∧ RepF G Hb gs fs := by
  cases ct with
  | fz x => cases o <;> exact h.elim
  | lst es => cases e
  | ob u =>
    cases e
    cases o <;> first | exact h.elim | skip
    obtain ⟨rfl, r⟩ := h
    exact ⟨_, _, rfl, r⟩
theorem Pk.lst {ds : List D} (e : Same Hb H) (h : Pk G Hb H v (.lst ds)) : ∃ a vs, v = .ref a ∧ H a = some (.lst vs) ∧ RepL G Hb vs ds := by
  rcases h with h | ⟨a, o, ct, h1, h2, h3, h4⟩
  · cases h with
    | lst h1 h2 => exact ⟨_, _, rfl, e _ _ h1, h2⟩
  · obtain ⟨vs, rfl, r⟩ := h4.lst' h2
    exact ⟨a, vs, h1, h3, r⟩
theorem Pk.tup {ds : List D} (e : Same Hb H) (h : Pk G Hb H v (.tup ds)) : ∃ a vs, v = .ref a ∧ H a = some (.tup vs) ∧ RepL G Hb vs ds := by
  cases h.base rfl with
  | tup h1 h2 => exact ⟨_, _, rfl, e _ _ h1, h2⟩
theorem Pk.scr {ns : List Int} (e : Same Hb H) (h : Pk G Hb H v (.scr ns)) : ∃ a, v = .ref a ∧ SqL G.K H a (ns.map V.int) := by
  cases h.base rfl with
  | scr h1 => exact ⟨_, rfl, e.seq h1⟩
theorem Pk.kst {ks : List Int} (e : Same Hb H) (h : Pk G Hb H v (.kst ks)) : ∃ a, v = .ref a ∧ H a = some (.dK (ks.map fun i => ((Sum.inl i : Key), V.bl true))) := by
  rcases h with h | ⟨a, o, ct, h1, h2, h3, h4⟩
  · cases h with
    | kst h1 => exact ⟨_, rfl, e _ _ h1⟩
  · have := h4.kst' h2
    subst this
    exact ⟨a, h1, h3⟩
theorem Pk.obj {c : Nat} {fs : List (Nat × D)} (e : Same Hb H) (h : Pk G Hb H v (.obj c fs)) : ∃ a dx gs, v = .ref a ∧ H a = some (.ins (G.cA c) dx gs) ∧ RepF G Hb gs fs := by
  rcases h with h | ⟨a, o, ct, h1, h2, h3, h4⟩
  · cases h with
    | obj h1 h2 => exact ⟨_, _, _, rfl, e _ _ h1, h2⟩
  · obtain ⟨dx, gs, rfl, r⟩ := h4.obj' h2
    exact ⟨a, dx, gs, h1, h3, r⟩
theorem Pk.toH {u : D} (e : Same Hb H) (h : Pk G Hb H v u) : Rep G H v u := by
  rcases h with h | ⟨a, o, ct, rfl, rfl, h3, h4⟩
  · exact h.mono e
  · exact (h4.mono e).rep h3
theorem frzT_lst {L : Tab} {j : Nat} {ds : List D} (q : L[j]? = some (.lst ds)) : frzT L (.c j) = L.set j (.fz (.lst ds)) := by simp only [frzT, q]
theorem frzT_ob {L : Tab} {j : Nat} {u : D} (q : L[j]? = some (.ob u)) : frzT L (.c j) = L.set j (.fz u) := by simp only [frzT, q]
theorem frzT_live {L : Tab} {j : Nat} {ct : Ct} (q : L[j]? = some ct) (h : ct.live = true) : frzT L (.c j) = L.set j (.fz ct.dat) := by
  cases ct with
  | fz x => cases h
  | lst ds => exact frzT_lst q
  | ob u => exact frzT_ob q
theorem frzT_fz {L : Tab} {j : Nat} {x : D} (q : L[j]? = some (.fz x)) : frzT L (.c j) = L := by simp only [frzT, q]
theorem frzT_no {L : Tab} {j : Nat} (q : L[j]? = none) : frzT L (.c j) = L := by simp only [frzT, q]
theorem den_c {L : Tab} {j : Nat} {ct : Ct} (q : L[j]? = some ct) : den L (.c j) = some ct.dat := by simp only [den, q]
theorem den_no {L : Tab} {j : Nat} (q : L[j]? = none) : den L (.c j) = none := by simp only [den, q]
theorem den_frzT (L : Tab) (a b : SV) : den (frzT L a) b = den L b := by
  cases a with
  | d x => rfl
  | c j =>
    cases q : L[j]? with
    | none => rw [frzT_no q]
    | some ct =>
      cases lv : ct.live with
      | false =>
        cases ct with
        | fz x => rw [frzT_fz q]
        | lst ds => cases lv
        | ob u => cases lv
      | true =>
        rw [frzT_live q lv]
        cases b with
        | d x => rfl
        | c i =>
          by_cases h : i = j
          · subst h
            obtain ⟨hl, _⟩ := List.getElem?_eq_some_iff.mp q
            rw [den_c q, den_c (List.getElem?_set_self hl)]
            rfl
          · cases q2 : L[i]? with
            | none => rw [den_no q2, den_no (by rw [List.getElem?_set_ne (Ne.symm h)]; exact q2)]
            | some ct => rw [den_c q2, den_c (by rw [List.getElem?_set_ne (Ne.symm h)]; exact q2)]
theorem ad_inj {l : List Addr} (nd : l.Nodup) {i j : Nat} {a : Addr} (h : l[i]? = some a) (h' : l[j]? = some a) : i = j := by
  obtain ⟨h1, e1⟩ := List.getElem?_eq_some_iff.mp h
  obtain ⟨h2, e2⟩ := List.getElem?_eq_some_iff.mp h'
  exact (List.getElem_inj nd).mp (e1.trans e2.symm)
theorem Rel.freeze {u : D} (R : Rel G Hb H ad L) (r : RepS G Hb ad v sv) (e : den L sv = some u) :
    ∃ Hb', Rel G Hb' H ad (frzT L sv) ∧ Stp Hb H ad Hb' H ad ∧ Rep G Hb' v u := by
  cases sv with
  | d x => cases e; exact ⟨Hb, R, Stp.refl, r⟩
  | c j =>
    obtain ⟨a, h1, rfl⟩ := r
    cases q : L[j]? with
    | none => rw [den_no q] at e; cases e
    | some ct =>
      rw [den_c q] at e
      cases lv : ct.live with
      | false =>
        cases ct with
        | fz x => cases e; rw [frzT_fz q]; exact ⟨Hb, R, Stp.refl, R.fz j x a q h1⟩
        | lst ds => cases lv
        | ob u => cases lv
      | true =>
        cases e
        rw [frzT_live q lv]
        obtain ⟨h0, oo, h2, h3⟩ := R.own j ct a q h1 lv
        have sm : Same Hb (upd Hb a oo) := fun b o hb => by
          rw [upd_ne (ne_of_none hb h0)]; exact hb
        obtain ⟨hl, _⟩ := List.getElem?_eq_some_iff.mp q
        refine ⟨upd Hb a oo, ⟨fun b o hb => ?_, by simp [R.len], R.nd, fun i es b hi hb hv => ?_, R.ina, fun i x b hi hb => ?_⟩, ⟨sm, ⟨[], by simp, fun _ h => nomatch h⟩, fun _ _ h _ => h, fun b hb hn => ?_, fun _ h => h⟩, (h3.mono sm).rep upd_same⟩
        · by_cases hab : b = a
          · subst hab; rw [upd_same] at hb; cases hb; exact h2
          · rw [upd_ne hab] at hb; exact R.ext b o hb
        · by_cases hij : i = j
          · subst hij
            simp only [List.getElem?_set_self hl] at hi
            cases hi
            cases hv
          · simp only [List.getElem?_set_ne (Ne.symm hij)] at hi
            obtain ⟨k0, ws, k1, k2⟩ := R.own i es b hi hb hv
            have hba : b ≠ a := fun z => hij (ad_inj R.nd hb (z ▸ h1))
            exact ⟨by rw [upd_ne hba]; exact k0, ws, k1, k2.mono sm⟩
        · by_cases hij : i = j
          · subst hij
            simp only [List.getElem?_set_self hl] at hi
            cases hi
            rw [h1] at hb
            cases hb
            exact (h3.mono sm).rep upd_same
          · simp only [List.getElem?_set_ne (Ne.symm hij)] at hi
            exact (R.fz i x b hi hb).mono sm
        · by_cases hab : b = a
          · subst hab; exact .inr (List.mem_of_getElem? h1)
          · rw [upd_ne hab] at hn; exact absurd hb hn
/-- a new object of the base -/
theorem Rel.newF {o : HO} {p : Addr} (R : Rel G Hb H ad L) (hp : H p = none) : Rel G (upd Hb p o) (upd H p o) ad L ∧ Stp Hb H ad (upd Hb p o) (upd H p o) ad := by
  have hbp : Hb p = none := by
    cases q : Hb p with
    | none => rfl
    | some w => rw [R.ext p w q] at hp; cases hp
  have sm : Same Hb (upd Hb p o) := fun b w hb => by rw [upd_ne (ne_of_none hb hbp)]; exact hb
  have hpa : p ∉ ad := fun h => R.ina p h hp
  refine ⟨⟨fun b w hb => ?_, R.len, R.nd, fun i es b hi hb hv => ?_, fun b hb => ?_, fun i x b hi hb => (R.fz i x b hi hb).mono sm⟩, sm, ⟨[], by simp, fun _ h => nomatch h⟩, fun b w hb _ => by rw [upd_ne (ne_of_none hb hp)]; exact hb, fun b hb hn => ?_, fun b hb => ?_⟩
  · by_cases e : b = p
    · subst e; rw [upd_same] at hb ⊢; exact hb
    · rw [upd_ne e] at hb ⊢; exact R.ext b w hb
  · obtain ⟨k0, ws, k1, k2⟩ := R.own i es b hi hb hv
    have e : b ≠ p := fun z => hpa (z ▸ List.mem_of_getElem? hb)
    exact ⟨by rw [upd_ne e]; exact k0, ws, by rw [upd_ne e]; exact k1, k2.mono sm⟩
  · have e : b ≠ p := fun z => hpa (z ▸ hb)
    rw [upd_ne e]; exact R.ina b hb
  · by_cases e : b = p
    · subst e; exact .inl hp
    · rw [upd_ne e] at hn; exact absurd hb hn
  · by_cases e : b = p
    · subst e; exact hp
    · rw [upd_ne e] at hb; exact hb
/-- a new list of the frame's own -/
theorem Rel.newO {p : Addr} {oo : HO} {ct : Ct} (R : Rel G Hb H ad L) (hp : H p = none) (r : OwnR G Hb oo ct) :
    Rel G Hb (upd H p oo) (ad ++ [p]) (L ++ [ct]) ∧ Stp Hb H ad Hb (upd H p oo) (ad ++ [p]) ∧ RepS G Hb (ad ++ [p]) (.ref p) (.c L.length) := by
  have hbp : Hb p = none := by
    cases q : Hb p with
    | none => rfl
    | some w => rw [R.ext p w q] at hp; cases hp
  have hpa : p ∉ ad := fun h => R.ina p h hp
  have nn : ∀ b, b ∈ ad → b ≠ p := fun b hb z => hpa (z ▸ hb)
  have old : ∀ {i : Nat} {b : Addr}, i < L.length → (ad ++ [p])[i]? = some b → ad[i]? = some b := fun {i b} hi h => by
    rw [List.getElem?_append_left (by rw [R.len]; exact hi)] at h; exact h
  refine ⟨⟨fun b w hb => by rw [upd_ne (ne_of_none hb hbp)]; exact R.ext b w hb, by simp [R.len], List.nodup_append.mpr ⟨R.nd, by simp, fun a ha b hb => by simp at hb; subst hb; exact nn a ha⟩, fun i es b hi hb hv => ?_, fun b hb => ?_, fun i x b hi hb => ?_⟩,
    ⟨Same.refl _, ⟨[p], rfl, fun a ha => by simp at ha; subst ha; exact hp⟩, fun b w hb _ => by rw [upd_ne (ne_of_none hb hp)]; exact hb, fun b hb hn => absurd hb hn, fun b hb => ?_⟩, ⟨p, by rw [← R.len]; simp, rfl⟩⟩
  · by_cases hl : i < L.length
    · rw [List.getElem?_append_left hl] at hi
      have hb' := old hl hb
      obtain ⟨k0, ws, k1, k2⟩ := R.own i es b hi hb' hv
      exact ⟨k0, ws, by rw [upd_ne (nn b (List.mem_of_getElem? hb'))]; exact k1, k2⟩
    · have hi' : i = L.length := by
        obtain ⟨h1, _⟩ := List.getElem?_eq_some_iff.mp hi
        simp at h1; omega
      subst hi'
      rw [List.getElem?_append_right (Nat.le_refl _)] at hi
      simp at hi
      rw [← R.len, List.getElem?_append_right (Nat.le_refl _)] at hb
      simp at hb
      subst hi; subst hb
      exact ⟨hbp, oo, upd_same, r⟩
  · rcases List.mem_append.mp hb with hb | hb
    · rw [upd_ne (nn b hb)]; exact R.ina b hb
    · simp at hb; subst hb; rw [upd_same]; simp
  · by_cases hl : i < L.length
    · rw [List.getElem?_append_left hl] at hi
      exact R.fz i x b hi (old hl hb)
    · have hi' : i = L.length := by
        obtain ⟨h1, _⟩ := List.getElem?_eq_some_iff.mp hi
        simp at h1; omega
      subst hi'
      rw [List.getElem?_append_right (Nat.le_refl _)] at hi
      simp at hi
      subst hi
      cases oo <;> exact r.elim
  · by_cases e : b = p
    · subst e; exact hp
    · rw [upd_ne e] at hb; exact hb
/-- an own object is written -/
theorem Rel.setO {j : Nat} {a : Addr} {oo : HO} {ct ct' : Ct} (R : Rel G Hb H ad L) (hL : L[j]? = some ct) (lv : ct.live = true) (ha : ad[j]? = some a) (r : OwnR G Hb oo ct') :
    Rel G Hb (upd H a oo) ad (L.set j ct') ∧ Stp Hb H ad Hb (upd H a oo) ad := by
  obtain ⟨h0, ws, h1, h2⟩ := R.own j ct a hL ha lv
  obtain ⟨hl, _⟩ := List.getElem?_eq_some_iff.mp hL
  refine ⟨⟨fun b w hb => by rw [upd_ne (ne_of_none hb h0)]; exact R.ext b w hb, by simp [R.len], R.nd, fun i fs b hi hb hv => ?_, fun b hb => ?_, fun i x b hi hb => ?_⟩, Same.refl _, ⟨[], by simp, fun _ h => nomatch h⟩, fun b w hb hn => ?_, fun b hb hn => absurd hb hn, fun b hb => ?_⟩
  · by_cases hij : i = j
    · subst hij
      rw [List.getElem?_set_self hl] at hi
      cases hi
      rw [ha] at hb
      cases hb
      exact ⟨h0, oo, upd_same, r⟩
    · rw [List.getElem?_set_ne (Ne.symm hij)] at hi
      obtain ⟨k0, us, k1, k2⟩ := R.own i fs b hi hb hv
      have e : b ≠ a := fun z => hij (ad_inj R.nd hb (z ▸ ha))
      exact ⟨k0, us, by rw [upd_ne e]; exact k1, k2⟩
  · by_cases e : b = a
    · subst e; rw [upd_same]; simp
    · rw [upd_ne e]; exact R.ina b hb
  · by_cases hij : i = j
    · subst hij
      rw [List.getElem?_set_self hl] at hi
      cases hi
      cases oo <;> exact r.elim
    · rw [List.getElem?_set_ne (Ne.symm hij)] at hi
      exact R.fz i x b hi hb
  · have e : b ≠ a := fun z => hn (by rw [z]; exact List.mem_of_getElem? ha)
    rw [upd_ne e]
    exact hb
  · by_cases e : b = a
    · subst e; rw [upd_same] at hb; cases hb
    · rw [upd_ne e] at hb; exact hb
/-- behind a call that leaves all that stood -/
theorem Rel.after (R : Rel G Hb H ad L) (sb : Same Hb Hb1) (sh : Same H H1) (sx : Same Hb1 H1) (bs : ∀ a, Hb a = none → Hb1 a ≠ none → H a = none) : Rel G Hb1 H1 ad L ∧ Stp Hb H ad Hb1 H1 ad := by
  refine ⟨⟨sx, R.len, R.nd, fun i es b hi hb hv => ?_, fun b hb => ?_, fun i x b hi hb => (R.fz i x b hi hb).mono sb⟩, sb, ⟨[], by simp, fun _ h => nomatch h⟩, fun b w hb _ => sh b w hb, fun b hb hn => .inl (bs b hb hn), fun b hb => ?_⟩
  · obtain ⟨k0, ws, k1, k2⟩ := R.own i es b hi hb hv
    refine ⟨?_, ws, sh _ _ k1, k2.mono sb⟩
    cases q : Hb1 b with
    | none => rfl
    | some w =>
      have := bs b k0 (by rw [q]; simp)
      rw [k1] at this; cases this
  · cases q : H b with
    | none => exact absurd q (R.ina b hb)
    | some w => rw [sh b w q]; simp
  · cases q : H b with
    | none => rfl
    | some w => rw [sh b w q] at hb; cases hb
end
end PD

namespace PD
open PySem L2

/-! ## the program, its matcher -/
structure Pr where
  G : Gs
  fn : Nat → Option Fn
  nm : Nat → Str
  ps : Nat → List Str
  gc : Nat → D
  gn : Nat → Str
  gcn : Nat
  fo : Nat → Nat → Bool
  xn : Nat → Str
  xcn : Nat
  un : Nat → List Nat
  yc : Nat
  hf : List (Str × List XB × List XB)
def isFn (pr : Pr) (f : Nat) : Bool := match pr.fn f with
  | some F => (match F.kd with | .fn => true | _ => false)
  | none => false
def isMe (pr : Pr) (c f : Nat) : Bool := match pr.fn f with
  | some F => (match F.kd with | .me d => decide (d = c) | _ => false)
  | none => false
def isInb (pr : Pr) (f j : Nat) : Bool := match pr.fn f with
  | some F => (match F.kd with | .inb _ i => decide (i = j) | _ => false)
  | none => false
def isIni (pr : Pr) (f : Nat) : Bool := match pr.fn f with
  | some F => (match F.kd with | .ini _ => true | _ => false)
  | none => false
/-- the names as they stand -/
structure Me where
  N : List Str
  sc : Scope
  fb : Str → Bool
def dbgB (x : Str) : Bool := !(x == ("__debug__" : Str)) && !(x == ("__classdict__" : Str))
def visB (sc : Scope) (x : Str) : Bool := match sc.names.lookup x with
  | some .local => true | some .cell => true | some .free => true | _ => false
def glB (sc : Scope) (x : Str) : Bool := match sc.names.lookup x with
  | some .globalImplicit => true | _ => false
def locB (me : Me) (x : Str) : Bool := match me.sc.names.lookup x with
  | some .local => true | some .cell => me.fb x | _ => false
def noStar : Expr → Bool | .Starred _ _ => false | _ => true
def noSlice : Expr → Bool | .Slice _ _ _ _ => false | _ => true
def noSet : Expr → Bool | .Set _ _ _ => false | _ => true
def noComp : Expr → Bool | .ListComp _ _ _ _ => false | .SetComp _ _ _ _ => false | .DictComp _ _ _ _ _ => false | _ => true
def noCall : Expr → Bool | .Call _ _ _ _ => false | _ => true
def plainT : Expr → Bool | .UnaryOp .Not _ _ => false | .BoolOp _ _ _ => false | .IfExp _ _ _ _ => false | .Compare _ _ _ _ => false | _ => true
def opM : BOp → Operator → Bool
  | .add, .Add => true | .sub, .Sub => true | .mul, .Mult => true | .fdiv, .FloorDiv => true | .mod, .Mod => true | .pow, .Pow => true | _, _ => false
def copM : COp → CmpOp → Bool
  | .lt, .Lt => true | .le, .LtE => true | .gt, .Gt => true | .ge, .GtE => true | .eq, .Eq => true | .ne, .NotEq => true
  | .is, .Is => true | .isnot, .IsNot => true | .isin, .In => true | .notin, .NotIn => true | _, _ => false
def biN : Bi → Str
  | .len => "len" | .abs => "abs" | .min2 => "min" | .max2 => "max" | .min1 => "min" | .max1 => "max" | .sum => "sum" | .all => "all"
  | .int => "int" | .str => "str" | .sorted => "sorted" | .tuple => "tuple" | .divmod => "divmod" | .setlen => "len" | .sortedr => "sorted"
def tyN : Ty → Str
  | .int => "int" | .bool => "bool" | .str => "str" | .list => "list" | .tuple => "tuple" | .dict => "dict" | .own _ => ""
def bmN : Bm → Str
  | .join => "join" | .split => "split" | .index => "index" | .find => "find" | .count => "count" | .startswith => "startswith" | _ => ""
def bmI : Bm → String
  | .join => "str.join" | .split => "str.split" | .index => "str.index" | .find => "str.find" | .count => "str.count" | .startswith => "str.startswith" | _ => ""
def bmB : Bm → Bool
  | .join => true | .split => true | .index => true | .find => true | .count => true | .startswith => true | _ => false
def mTgs (me : Me) : List Nat → List Expr → Bool
  | [], [] => true
  | i :: is, .Name x _ :: es => decide (me.N[i]? = some x) && locB me x && mTgs me is es
  | _, _ => false
def mTg (me : Me) : Tg → Expr → Bool
  | .v i, .Name x _ => decide (me.N[i]? = some x) && locB me x
  | .t is, .Tuple es _ _ => mTgs me is es
  | _, _ => false
/-- a comprehension's own names with their places -/
def ownOf (N : List Str) (is : List Nat) : List (Str × Nat) := is.filterMap fun i => (N[i]?).map fun x => (x, i)
def blkMe (me : Me) (scope : Scope) : Me := ⟨me.N, relS scope me.sc, fun x => scope.names.lookup x == some .cell⟩
def isNo : E → Bool | .non => true | _ => false
section
variable (pr : Pr)
mutual
def mE : E → Me → Expr → Bool
  | .non, _, .Constant .none _ _ => true
  | .bl b, _, .Constant (.bool c) _ _ => b == c
  | .int i, _, .Constant (.int j) _ _ => i == j
  | .str s, _, .Constant (.str t) _ _ => decide (s = t)
  | .var i, me, .Name x _ => decide (me.N[i]? = some x) && visB me.sc x && dbgB x
  | .gc k, me, .Name x _ => decide (k < pr.gcn) && decide (x = pr.gn k) && glB me.sc x && dbgB x
  | .bin op a b, me, .BinOp ea o eb _ => opM op o && mE a me ea && mE b me eb
  | .neg a, me, .UnaryOp .USub ea _ => mE a me ea
  | .cmp op a b, me, .Compare ea [o] [eb] _ => copM op o && mE a me ea && mE b me eb && noSet eb
  | .chain o1 o2 a b c, me, .Compare ea [p1, p2] [eb, ec] _ => copM o1 p1 && copM o2 p2 && mE a me ea && mE b me eb && mE c me ec && noSet ec
  | .and a b, me, .BoolOp .And [ea, eb] _ => mE a me ea && mE b me eb
  | .and a b, me, .BoolOp .And (ea :: eb :: ec :: es) pos => mE a me ea && mE b me (.BoolOp .And (eb :: ec :: es) pos)
  | .or a b, me, .BoolOp .Or [ea, eb] _ => mE a me ea && mE b me eb
  | .or a b, me, .BoolOp .Or (ea :: eb :: ec :: es) pos => mE a me ea && mE b me (.BoolOp .Or (eb :: ec :: es) pos)
  | .not a, me, .UnaryOp .Not ea _ => mE a me ea
  | .ife c a b, me, .IfExp ec ea eb _ => mT c me ec && mE a me ea && mE b me eb
  | .call f as, me, .Call (.Name x _) (e :: es) [] _ => decide (x = pr.nm f) && glB me.sc x && dbgB x && isFn pr f && mEs as me (e :: es)
  | .bi f as, me, .Call (.Name x _) (e :: es) [] _ => decide (x = biN f) && glB me.sc x && mEs as me (e :: es)
  | .bm f o (.cons a .nil), me, .Call (.Attribute eo y q) [e] [] q2 => bmB f && (q.endLine == q2.line) && decide (y = bmN f) && noCall eo && noStar e && mE o me eo && mE a me e
  | .isi a t, me, .Call (.Name x _) [ea, .Name y _] [] _ => decide (x = ("isinstance" : Str)) && glB me.sc x && decide (y = tyN t) && glB me.sc y && noStar ea && (tyD .non t).isSome && mE a me ea
  | .idx a i, me, .Subscript ea ei _ => noSlice ei && mE a me ea && mE i me ei
  | .slc a lo hi, me, .Subscript ea (.Slice l h none _) _ => mE a me ea && (match l with | none => isNo lo | some l => !isNo lo && mE lo me l) && (match h with | none => isNo hi | some h => !isNo hi && mE hi me h)
  | .rev a, me, .Subscript ea (.Slice none none (some (.UnaryOp .USub (.Constant (.int i) _ _) _)) _) _ => i == 1 && mE a me ea
  | .edict, _, .Dict [] [] _ => true
  | .tdict a b, me, .Dict [some ek] [ev] _ => mE a me ek && mE b me ev
  | .lst as, me, .List es _ => mEs as me es
  | .tup as, me, .Tuple es _ _ => mEs as me es
  | .mklist a, me, .Call (.Name x _) [e] [] _ => decide (x = ("list" : Str)) && glB me.sc x && noStar e && mE a me e
  | .mkrange a, me, .Call (.Name x _) [.Call (.Name y _) [e] [] _] [] _ => decide (x = ("list" : Str)) && glB me.sc x && decide (y = ("range" : Str)) && glB me.sc y && noStar e && mE a me e
  | .comp tg it elt cs, me, .ListComp ee [⟨et, ei, ifs, asy⟩] scope _ => asy == 0 && blkC me.N me.sc scope (ownOf me.N (tgSlots tg)) && decide ((ownOf me.N (tgSlots tg)).map (·.2) = tgSlots tg) &&
      mTg (blkMe me scope) tg et && mI it me et ei && mE elt (blkMe me scope) ee && mTs cs (blkMe me scope) ifs
  | .compm tg it elt, me, .ListComp ee [⟨et, ei, [], asy⟩] scope _ => asy == 0 && blkC me.N me.sc scope (ownOf me.N (tgSlots tg)) && decide ((ownOf me.N (tgSlots tg)).map (·.2) = tgSlots tg) &&
      mTg (blkMe me scope) tg et && mI it me et ei && mE elt (blkMe me scope) ee
  | .pop i e, me, .Call (.Attribute (.Name x _) f q) [ee] [] q2 => (q.endLine == q2.line) && decide (me.N[i]? = some x) && visB me.sc x && dbgB x && decide (f = ("pop" : Str)) && noStar ee && mE e me ee
  | .upper a, me, .Call (.Attribute ea f q) [] [] q2 => (q.endLine == q2.line) && decide (f = ("upper" : Str)) && noCall ea && mE a me ea
  | .uprep a y w, me, .Call (.Attribute (.Call (.Attribute ea f q) [] [] q2) f2 q3) [.Constant (.str y') _ _, .Constant (.str w') _ _] [] q4 => (q.endLine == q2.line) && (q3.endLine == q4.line) && decide (f = ("upper" : Str)) && decide (f2 = ("replace" : Str)) && decide (y = y') && decide (w = w') && !(y == w) && noCall ea && mE a me ea
  | .compk tg x elt cs, me, .ListComp ee [⟨et, .Name y py, ifs, asy⟩] scope _ => asy == 0 && blkC me.N me.sc scope (ownOf me.N (tgSlots tg)) && decide ((ownOf me.N (tgSlots tg)).map (·.2) = tgSlots tg) &&
      mTg (blkMe me scope) tg et && (decide (me.N[x]? = some y) && visB me.sc y && dbgB y) && mE elt (blkMe me scope) ee && mTs cs (blkMe me scope) ifs
  | .fld c a f, me, .Attribute ea x _ => decide (x = pr.G.fN f) && pr.fo c f && noCall ea && mE a me ea
  | .meth c f o as, me, .Call (.Attribute eo y q) es [] q2 => (q.endLine == q2.line) && decide (es.length < 30) && decide (y = pr.nm f) && isMe pr c f && noCall eo && mE o me eo && mEs as me es
  | .make f as, me, .Call (.Name x _) (e :: es) [] _ => decide (x = pr.nm f) && glB me.sc x && dbgB x && isIni pr f && mEs as me (e :: es)
  | .makeb f j as, me, .Call (.Name x _) (e :: es) [] _ => decide (x = pr.nm f) && glB me.sc x && dbgB x && isInb pr f j && mEs as me (e :: es)
  | .setlen a, me, .Call (.Name x _) [.Call (.Name y _) [e] [] _] [] _ => decide (x = ("len" : Str)) && glB me.sc x && decide (y = ("set" : Str)) && glB me.sc y && noStar e && mE a me e
  | .setlenI a, me, .Call (.Name x _) [.Call (.Name y _) [e] [] _] [] _ => decide (x = ("len" : Str)) && glB me.sc x && decide (y = ("set" : Str)) && glB me.sc y && noStar e && mE a me e
  | _, _, _ => false
def mEs : Es → Me → List Expr → Bool
  | .nil, _, [] => true
  | .cons a as, me, e :: es => noStar e && mE a me e && mEs as me es
  | _, _, _ => false
def mT : T → Me → Expr → Bool
  | .and a b, me, .BoolOp .And [ea, eb] _ => mT a me ea && mT b me eb
  | .and a b, me, .BoolOp .And (ea :: eb :: ec :: es) pos => mT a me ea && mT b me (.BoolOp .And (eb :: ec :: es) pos)
  | .or a b, me, .BoolOp .Or [ea, eb] _ => mT a me ea && mT b me eb
  | .or a b, me, .BoolOp .Or (ea :: eb :: ec :: es) pos => mT a me ea && mT b me (.BoolOp .Or (eb :: ec :: es) pos)
  | .not a, me, .UnaryOp .Not ea _ => mT a me ea
  | .cmp op a b, me, .Compare ea [o] [eb] _ => copM op o && mE a me ea && mE b me eb && noSet eb
  | .chain o1 o2 a b c, me, .Compare ea [p1, p2] [eb, ec] _ => copM o1 p1 && copM o2 p2 && mE a me ea && mE b me eb && mE c me ec && noSet ec
  | .val a, me, e => plainT e && mE a me e
  | _, _, _ => false
def mTs : Ts → Me → List Expr → Bool
  | .nil, _, [] => true
  | .cons a as, me, e :: es => mT a me e && mTs as me es
  | _, _, _ => false
def mI : It → Me → Expr → Expr → Bool
  | .seq a, me, _, e => noSet e && mE a me e
  | .range1 b, me, _, .Call (.Name x _) [e] [] _ => decide (x = ("range" : Str)) && glB me.sc x && noStar e && mE b me e
  | .range2 a b, me, _, .Call (.Name x _) [e, e2] [] _ => decide (x = ("range" : Str)) && glB me.sc x && noStar e && noStar e2 && mE a me e && mE b me e2
  | .range3 a b, me, _, .Call (.Name x _) [e, e2, .Constant (.int j) _ _] [] _ => decide (j = 2) && decide (x = ("range" : Str)) && glB me.sc x && noStar e && noStar e2 && mE a me e && mE b me e2
  | .enum a, me, .Tuple _ _ _, .Call (.Name x _) [e] [] _ => decide (x = ("enumerate" : Str)) && glB me.sc x && noStar e && mE a me e
  | .zip a b, me, .Tuple _ _ _, .Call (.Name x _) [e, e2] [] _ => decide (x = ("zip" : Str)) && glB me.sc x && noStar e && noStar e2 && mE a me e && mE b me e2
  | .reversed a, me, _, .Call (.Name x _) [e] [] _ => decide (x = ("reversed" : Str)) && glB me.sc x && noStar e && mE a me e
  | _, _, _, _ => false
end
end

def okFold (a b : Expr) : Bool := noStar a && noStar b && !([a, b].all (foldedForSure 8)) && !([a, b].all (constantsAlone 8))
def locl (me : Me) (x : Str) : Bool := match me.sc.names.lookup x with | some .local => true | _ => false
def celB (me : Me) (x : Str) : Bool := match me.sc.names.lookup x with | some .cell => true | _ => false
/-- [..] given to a name: on one line, the name a plain local; or the name a cell -/
def compA (me : Me) (x : Str) (p : Pos) : Expr → Bool
  | .ListComp _ _ scope pos => celB me x || (locl me x && (p.line == pos.line) && !(scope.names.any fun (n, k) => n == x && (k == .local || k == .cell)))
  | e => noComp e
def ckF : E → Bool | .compk _ _ _ _ => false | .compm _ _ _ => false | _ => true
def noTup : Expr → Bool | .Tuple _ _ _ => false | _ => true
/-- an exception's class, as the text names it: 0 ValueError, d + 1 the class d -/
def yN (pr : Pr) : Nat → Str | 0 => "ValueError" | d + 1 => pr.xn d
def yV (pr : Pr) : Nat → V | 0 => .ty "ValueError" | d + 1 => .ref (pr.G.cA d)
def yU (pr : Pr) : Nat → Value | 0 => .type "ValueError" | d + 1 => .ref (pr.G.cA d)
def mY (pr : Pr) (me : Me) (d : Nat) (ds : List Nat) : Expr → Bool
  | .Name x _ => decide (x = yN pr d) && glB me.sc x && dbgB x && decide (ds = pr.un d) && decide (d ≤ pr.yc)
  | _ => false
def mYs (pr : Pr) (me : Me) : List (Nat × List Nat) → List Expr → Bool
  | [], [] => true
  | p :: ps, e :: es => mY pr me p.1 p.2 e && mYs pr me ps es
  | _, _ => false
def mXB (pr : Pr) (me : Me) (en : Str) : XB → Expr → Bool
  | .one d ds, .Call (.Name x _) [.Name y _, e] [] _ => decide (x = ("isinstance" : Str)) && glB me.sc x && decide (y = en) && mY pr me d ds e
  | .tup dd, .Call (.Name x _) [.Name y _, .Tuple es _ _] [] _ => decide (x = ("isinstance" : Str)) && glB me.sc x && decide (y = en) && decide (dd.length < 60) && mYs pr me dd es
  | .or a b, .BoolOp .Or [ea, eb] _ => mXB pr me en a ea && mXB pr me en b eb
  | _, _ => false
def mXBs (pr : Pr) (me : Me) (en : Str) : List XB → List Expr → Bool
  | [], [] => true
  | b :: bs, e :: es => mXB pr me en b e && mXBs pr me en bs es
  | _, _ => false
def mHs (pr : Pr) (me : Me) (en : Str) (x : Str) : List XB → List Stmt → Bool
  | [], [.Return (some (.Name y _)) _] => decide (y = x) && visB me.sc y && dbgB y
  | t :: ts, .If et [.Return (some (.List [] _)) _] [] _ :: sts => mXB pr me en t et && mHs pr me en x ts sts
  | _, _ => false
/-- a def of the caught exception alone -/
def mHot (pr : Pr) (me : Me) (en : Str) (bs ts : List XB) : List Stmt → Bool
  | .Assign [.Name x _] (.List es _) _ :: sts => decide (me.N[0]? = some en) && visB me.sc en && dbgB en && decide (me.N[1]? = some x) && locB me x && decide (bs.length < 60) && mXBs pr me en bs es && mHs pr me en x ts sts
  | _ => false
def mXs (pr : Pr) (me : Me) (n : Nat) (en : Str) : List XS → List Stmt → Bool
  | [], [] => true
  | .asg i bs :: xs, .Assign [.Name x _] (.List es _) _ :: sts => decide (me.N[i]? = some x) && decide (i ≠ n) && locB me x && decide (bs.length < 60) && mXBs pr me en bs es && mXs pr me n en xs sts
  | .ifn t i :: xs, .If et [.Assign [.Name x _] (.List [] _) _] [] _ :: sts => mXB pr me en t et && decide (me.N[i]? = some x) && decide (i ≠ n) && locB me x && mXs pr me n en xs sts
  | .call i k bs ts :: xs, .Assign [.Name x _] (.Call (.Name g _) [.Name y _] [] _) _ :: sts => decide (me.N[i]? = some x) && decide (i ≠ n) && locB me x && decide (y = en) && decide (pr.hf[k]? = some (g, bs, ts)) && glB me.sc g && dbgB g && mXs pr me n en xs sts
  | .ret t i :: _, .Return (some (.BoolOp .And [et, .Compare (.Constant (.bool b) _ _) [.NotIn] [.Name x _] _] _)) _ :: _ => b && mXB pr me en t et && decide (me.N[i]? = some x) && decide (i ≠ n) && visB me.sc x && dbgB x
  | _, _ => false
section
variable (pr : Pr)
mutual
def mS : S → Me → Stmt → Bool
  | .asg (.v i) e, me, .Assign [.Name x p] ee _ => decide (me.N[i]? = some x) && locB me x && (ckF e && compA me x p ee) && mE pr e me ee
  | .own i e, me, .Assign [.Name x p] ee _ => decide (me.N[i]? = some x) && locB me x && (ckF e && compA me x p ee) && mE pr e me ee
  | .asg (.t is) e, me, .Assign [.Tuple es _ _] ee _ => mTgs me is es && noComp ee && noTup ee && mE pr e me ee
  | .par i j a b, me, .Assign [.Tuple [.Name x p1, .Name y p2] _ _] (.Tuple [ea, eb] _ _) _ => decide (me.N[i]? = some x) && decide (me.N[j]? = some y) && decide (i ≠ j) && locl me x && locl me y && decide (p1.line = p2.line) && decide (x ≠ y) && okFold ea eb && mE pr a me ea && mE pr b me eb
  | .aug i .add e, me, .AugAssign (.Name x _) .Add ee _ => decide (me.N[i]? = some x) && locB me x && mE pr e me ee
  | .aug i .sub e, me, .AugAssign (.Name x _) .Sub ee _ => decide (me.N[i]? = some x) && locB me x && mE pr e me ee
  | .setix i b e, me, .Assign [.Subscript (.Name x _) eb _] ee _ => decide (me.N[i]? = some x) && visB me.sc x && dbgB x && noSlice eb && noComp ee && mE pr e me ee && mE pr b me eb
  | .setk i b, me, .Assign [.Subscript (.Name x _) eb _] (.Constant (.bool bb) _ _) _ => bb && decide (me.N[i]? = some x) && visB me.sc x && dbgB x && noSlice eb && mE pr b me eb
  | .append i e, me, .Expr (.Call (.Attribute (.Name x _) f q) [ee] [] q2) _ => (q.endLine == q2.line) && decide (me.N[i]? = some x) && visB me.sc x && dbgB x && decide (f = ("append" : Str)) && noStar ee && mE pr e me ee
  | .extend i e, me, .Expr (.Call (.Attribute (.Name x _) f q) [ee] [] q2) _ => (q.endLine == q2.line) && decide (me.N[i]? = some x) && visB me.sc x && dbgB x && decide (f = ("extend" : Str)) && noStar ee && mE pr e me ee
  | .setf i c f e, me, .Assign [.Attribute (.Name x _) y _] ee _ => decide (me.N[i]? = some x) && visB me.sc x && dbgB x && decide (y = pr.G.fN f) && pr.fo c f && decide (f < 64) && noComp ee && mE pr e me ee
  | .clear i, me, .Expr (.Call (.Attribute (.Name x _) f q) [] [] q2) _ => (q.endLine == q2.line) && decide (me.N[i]? = some x) && visB me.sc x && dbgB x && decide (f = ("clear" : Str))
  | .raise c, me, .Raise (some (.Call (.Name x _) [.Constant (.str _) _ _] [] _)) none _ => decide (x = pr.xn c) && decide (c < pr.xcn) && glB me.sc x && dbgB x
  | .tryx body cd m cs i xs, me, .Try sb [.ExceptHandler (some (.Name x _)) (some en) (s0 :: st) _] [] [] _ => decide (x = pr.xn cd) && decide (cd < pr.yc) && glB me.sc x && dbgB x && decide (m = pr.xcn) && decide (cs = pr.un (cd + 1)) &&
      decide (me.N[i]? = some en) && locl me en && visB me.sc en && dbgB en && mSs body me sb && mXs pr me i en xs (s0 :: st)
  | .ret e, me, .Return (some ee) _ => mE pr e me ee
  | .retO e, me, .Return (some ee) _ => mE pr e me ee
  | .retN, _, .Return none _ => true
  | .never, _, _ => true
  | .expr e, me, .Expr ee _ => noComp ee && mE pr e me ee
  | .ife c a b, me, .If ec sa sb _ => mT pr c me ec && mSs a me sa && mSs b me sb
  | .for_ tg it _ body, me, .For et ei sb [] _ => mTg me tg et && mI pr it me et ei && mSs body me sb
  | .while_ c _ body, me, .While ec sb [] _ => mT pr c me ec && mSs body me sb
  | .pass, _, .Pass _ => true
  | _, _, _ => false
def mSs : Ss → Me → List Stmt → Bool
  | .nil, _, [] => true
  | .cons (.frz _) ss, me, sts => mSs ss me sts
  | .cons s ss, me, st :: sts => mS s me st && mSs ss me sts
  | _, _, _ => false
end
end
/-! ## the context of a body -/
def bltNames : List Str := ["len", "abs", "min", "max", "sum", "all", "int", "str", "sorted", "tuple", "divmod", "set", "isinstance", "bool", "list", "dict", "range", "enumerate", "zip", "reversed"]
/-- how an exception stands -/
def XRep (G : Gs) (H : Hp) (x : Xn) (cls : Value) (d : Option Addr) : Prop := cls = .ref (G.cA x.1) ∧ match x.2 with
  | none => d = none
  | some u => ∃ dx v f, d = some dx ∧ H dx = some (.xd [(f, v)]) ∧ Rep G H v u
/-- what comes back of a call -/
def Bk (G : Gs) (Hb H Hb' H' : Hp) (v : V) : Rs → Prop
  | .v x => Rep G Hb' v x
  | .new ds => ∃ a vs, v = .ref a ∧ H a = none ∧ Hb' a = none ∧ H' a = some (.lst vs) ∧ RepL G Hb' vs ds
def spF (G : Gs) (Γ : Calls) (f : Nat) : Sp := fun vs H Q E => ∃ (ds : List D) (Hb : Hp) (k : Rs → Prop) (z : Xn → Prop), Γ f ds k z ∧ Same Hb H ∧ RepL G Hb vs ds ∧
  (∀ r v Hb' H', k r → Same Hb Hb' → Same H H' → Same Hb' H' → (∀ a, Hb a = none → Hb' a ≠ none → H a = none) → Bk G Hb H Hb' H' v r → Q v H') ∧
  (∀ x cls d H', z x → Same H H' → XRep G H' x cls d → E cls d H')
/-- what comes of making an object -/
def spI (G : Gs) (Γ : Calls) (c f : Nat) : Sp := fun vs H Q E => ∃ (ds : List D) (Hb : Hp) (k : Rs → Prop) (z : Xn → Prop) (p dx : Addr) (ws : List V), Γ f ds k z ∧ vs = .ref p :: ws ∧ Same Hb H ∧ Hb p = none ∧ H p = some (.ins (G.cA c) dx []) ∧ RepL G Hb ws ds ∧
  (∀ u Hb' H', k (.v u) → Same Hb Hb' → (∀ a o, H a = some o → a ≠ p → H' a = some o) → Same Hb' H' → (∀ a, Hb a = none → Hb' a ≠ none → H a = none ∨ a = p) → Rep G Hb' (.ref p) u → Q .non H') ∧
  (∀ x cls d H', z x → (∀ a o, H a = some o → a ≠ p → H' a = some o) → XRep G H' x cls d → E cls d H')
/-- one list is lent -/
def spB (G : Gs) (Γ : Calls) (c f j : Nat) : Sp := fun vs H Q E => ∃ (ds : List D) (Hb : Hp) (k : Rs → Prop) (z : Xn → Prop) (p dx q : Addr) (ws us : List V) (es : List D), Γ f ds k z ∧ vs = .ref p :: ws ∧ Same Hb H ∧ Hb p = none ∧ H p = some (.ins (G.cA c) dx []) ∧ p ≠ q ∧
  ws[j]? = some (.ref q) ∧ ds[j]? = some (.lst es) ∧ Hb q = none ∧ H q = some (.lst us) ∧ RepL G Hb us es ∧ ws.length = ds.length ∧ (∀ i d, i ≠ j → ds[i]? = some d → ∃ v, ws[i]? = some v ∧ Rep G Hb v d) ∧
  (∀ u Hb' H' us', k (.v u) → Same Hb Hb' → (∀ a o, H a = some o → a ≠ p → a ≠ q → H' a = some o) → Same Hb' H' → (∀ a, Hb a = none → Hb' a ≠ none → H a = none ∨ a = p) → Hb' q = none → H' q = some (.lst us') → RepL G Hb' us' es → Rep G Hb' (.ref p) u → Q .non H') ∧
  (∀ x cls d Hb' H' us', z x → Same Hb Hb' → (∀ a o, H a = some o → a ≠ p → a ≠ q → H' a = some o) → Same Hb' H' → (∀ a, Hb a = none → Hb' a ≠ none → H a = none ∨ a = p) → Hb' q = none → H' q = some (.lst us') → RepL G Hb' us' es → XRep G H' x cls d → E cls d H')
def spG (G : Gs) (Γ : Calls) (f : Nat) (F : Fn) : Sp := match F.kd with
  | .ini c => spI G Γ c f
  | .inb c j => spB G Γ c f j
  | _ => spF G Γ f
/-- where a def stands -/
def Gd (pr : Pr) (mg : Str → Option Value) (K : PySem.W.Frag) (f : Nat) (F : Fn) (a : Addr) : Prop := match F.kd with
  | .fn => mg (pr.nm f) = some (.ref a) ∧ PySem.W.keepIn K (.ref a) = true
  | .me c => Cls K (pr.G.cA c) ∧ Meth K (pr.G.cA c) (pr.nm f) a ∧ ∀ g, g < 64 → pr.nm f ≠ pr.G.fN g
  | .ini c => Mk K (pr.G.cA c) a ∧ mg (pr.nm f) = some (.ref (pr.G.cA c))
  | .inb c _ => Mk K (pr.G.cA c) a ∧ mg (pr.nm f) = some (.ref (pr.G.cA c))
/-- a def that is called in an except suite -/
def HotD (pr : Pr) (mg : Str → Option Value) (K : PySem.W.Frag) (g : Str) (bs ts : List XB) : Prop := ∃ (N : List Str) (qual en : Str) (params : Arguments) (body : List Stmt) (scope : Scope) (a : Addr) (fd : FuncData),
  mg g = some (.ref a) ∧ FunD K g qual params body scope [] [] a fd ∧ Binds K fd [en] [] ∧ FnScope N [en] scope ∧ mHot pr ⟨N, scope, fun _ => true⟩ en bs ts body = true
/-- what of the classes, the fields, the exceptions must hold -/
structure Cs (pr : Pr) (mg : Str → Option Value) (K : PySem.W.Frag) : Prop where
  fo : ∀ c f, pr.fo c f = true → Cls K (pr.G.cA c) ∧ NoAttr K (pr.G.cA c) (pr.G.fN f)
  inj : ∀ f g, f < 64 → g < 64 → pr.G.fN f = pr.G.fN g → f = g
  xc : ∀ c, c < pr.xcn → mg (pr.xn c) = some (.ref (pr.G.cA c)) ∧ PySem.W.excIn K (pr.G.cA c) He.veBase "ValueError.__new__" = true ∧ PySem.W.keepIn K (.ref (pr.G.cA c)) = true ∧
    PySem.W.subIn K (.ref (pr.G.cA c)) (.type "BaseException") = some true ∧ PySem.W.typeIn K (.ref (pr.G.cA c)) = some (.type "type")
  yg : ∀ d, d < pr.yc → mg (pr.xn d) = some (.ref (pr.G.cA d))
  ve : mg "ValueError" = none
  ki : ∀ d c, d ≤ pr.yc → c < pr.xcn → PySem.W.kitOne K (.ref (pr.G.cA c)) (yU pr d) = some (decide (c ∈ pr.un d))
  ex : ∀ d c, d < pr.yc → c < pr.xcn → PySem.W.exmOne K (.ref (pr.G.cA c)) (.ref (pr.G.cA d)) = some (decide (c ∈ pr.un (d + 1)))
  ec : ∀ c, c < pr.xcn → ExcC K (pr.G.cA c)
  hf : ∀ (k : Nat) (g : Str) (bs ts : List XB), pr.hf[k]? = some (g, bs, ts) → HotD pr mg K g bs ts
structure Ctx (pr : Pr) (n : Nat) (me : Me) (X : Cx) : Prop where
  K : X.K = pr.G.K
  N : X.N = me.N
  sc : X.env.scope = me.sc
  nd : X.N.Nodup
  calm : X.calm = true
  room : Room (2 * n + 1) X.A
  fb : ∀ x, me.fb x = true → X.fn x = true
  fns : ∀ f F, pr.fn f = some F → ∃ a fd, Gd pr X.mg X.K f F a ∧ Binds X.K fd (pr.ps f) [] ∧
    FnOk X.prog X.w X.K X.mg X.base (L2.CX X.prog X.w) (2 * n) a fd (pr.ps f) (spG pr.G (wpF pr.fn pr.gc n) f F)
  blt : ∀ x ∈ bltNames, X.mg x = none
  gcs : ∀ k, k < pr.gcn → ∃ u v, X.mg (pr.gn k) = some u ∧ RelV v u ∧ ∀ Hb, Rep pr.G Hb v (pr.gc k)
  cs : Cs pr X.mg X.K

/-! ## weakest readings -/
def wX (X : Cx) (e : Expr) : TE := fun σ H Q => ∀ (pins : List (Addr × Obj)) (s : Shared), Inv X pins σ H s → wpAny (model X.prog X.w) X.A (eval e X.env) (EP X pins σ Q) X.xe s
theorem wX.pe {X : Cx} {e : Expr} : PE X e (wX X e) := ⟨fun pins s σ H Q I h => h pins s I⟩
theorem wX.by {X : Cx} {e : Expr} {t : TE} {σ : St} {H : Hp} {Q : VK} (p : PE X e t) (h : t σ H Q) : wX X e σ H Q := fun pins s I => p.run pins s σ H Q I h
def wT (X : Cx) (e : Expr) : TT := fun σ H Q => ∀ (pins : List (Addr × Obj)) (s : Shared), Inv X pins σ H s → wpAny (model X.prog X.w) X.A (isTrue e X.env (eval e X.env)) (TP X pins σ Q) X.xe s
theorem wT.pt {X : Cx} {e : Expr} : PT X e (wT X e) := ⟨fun pins s σ H Q I h => h pins s I⟩
theorem wT.by {X : Cx} {e : Expr} {t : TT} {σ : St} {H : Hp} {Q : Bool → Hp → Prop} (p : PT X e t) (h : t σ H Q) : wT X e σ H Q := fun pins s I => p.run pins s σ H Q I h
def wA (X : Cx) (es : List Expr) : TA := fun σ H Q => ∀ (pos : Pos) (pins : List (Addr × Obj)) (s : Shared), Inv X pins σ H s → wpAny (model X.prog X.w) X.A (spliced (backTo pos (starEach es X.env))) (AP X pins σ Q) X.xe s
theorem wA.pa {X : Cx} {es : List Expr} : PA X es (wA X es) := ⟨fun pos pins s σ H Q I h => h pos pins s I⟩
theorem wA.by {X : Cx} {es : List Expr} {t : TA} {σ : St} {H : Hp} {Q : List V → Hp → Prop} (p : PA X es t) (h : t σ H Q) : wA X es σ H Q := fun pos pins s I => p.run pos pins s σ H Q I h
def rW (X : Cx) (f : Value → Value → Sem Value) : R2 := fun x y H Q => ∀ (pins : List (Addr × Obj)) (s : Shared) (σ : St) (v u : Value), Inv X pins σ H s → RelV x v → RelV y u → wpAny (model X.prog X.w) X.A (f v u) (EP X pins σ Q) X.xe s
theorem rW.op {X : Cx} {f : Value → Value → Sem Value} : OpR X f (rW X f) := fun pins s σ H x y v u Q I rx ry h => h pins s σ v u I rx ry
theorem rW.by {X : Cx} {f : Value → Value → Sem Value} {r : R2} {x y : V} {H : Hp} {Q : VK} (p : OpR X f r) (h : r x y H Q) : rW X f x y H Q := fun pins s σ v u I rx ry => p pins s σ H x y v u Q I rx ry h
end PD

namespace PD
open PySem L2

def ZOk (G : Gs) (z : Xn → Tab → Prop) (W : WX) (σ : St) (Hb H : Hp) (ad : List Addr) : Prop := ∀ x cls d L' Hb' H' ad', z x L' → Rel G Hb' H' ad' L' → Stp Hb H ad Hb' H' ad' → XRep G H' x cls d → W cls d σ H'
def KOk (G : Gs) (k : KV) (Q : VK) (Hb H : Hp) (ad : List Addr) : Prop := ∀ v sv L' Hb' H' ad', k sv L' → Rel G Hb' H' ad' L' → Stp Hb H ad Hb' H' ad' → RepS G Hb' ad' v sv → Q v H'
def RepSs (G : Gs) (Hb : Hp) (ad : List Addr) : List V → List SV → Prop := Paired (RepS G Hb ad)
def KOks (G : Gs) (k : List SV → Tab → Prop) (Q : List V → Hp → Prop) (Hb H : Hp) (ad : List Addr) : Prop := ∀ vs svs L' Hb' H' ad', k svs L' → Rel G Hb' H' ad' L' → Stp Hb H ad Hb' H' ad' → RepSs G Hb' ad' vs svs → Q vs H'
def KOt (G : Gs) (k : Bool → Tab → Prop) (Q : Bool → Hp → Prop) (Hb H : Hp) (ad : List Addr) : Prop := ∀ b L' Hb' H' ad', k b L' → Rel G Hb' H' ad' L' → Stp Hb H ad Hb' H' ad' → Q b H'
/-- an iterator that yields these items while the base stands -/
structure ItOk (G : Gs) (J : L2.It) (items : List D) (Hb1 : Hp) : Prop where
  go : ∀ i H, Same Hb1 H → i < items.length → J.go i H
  stop : ∀ i H, Same Hb1 H → items.length ≤ i → J.stop i H
  yld : ∀ i H Hb ad L x H', Same Hb1 Hb → Rel G Hb H ad L → J.yld i H x H' → i < items.length → ∃ d Hb', items[i]? = some d ∧ Rel G Hb' H' ad L ∧ Stp Hb H ad Hb' H' ad ∧ Rep G Hb' x d
section
variable {G : Gs} {Hb Hb1 H H1 : Hp} {ad ad1 : List Addr} {L : Tab} {W : WX} {σ : St} {z : Xn → Tab → Prop}
theorem ZOk.step (a : Stp Hb H ad Hb1 H1 ad1) (h : ZOk G z W σ Hb H ad) : ZOk G z W σ Hb1 H1 ad1 := fun x cls d L' Hb' H' ad' hz R s r => h x cls d L' Hb' H' ad' hz R (a.trans s) r
theorem KOk.step {k : KV} {Q : VK} (a : Stp Hb H ad Hb1 H1 ad1) (h : KOk G k Q Hb H ad) : KOk G k Q Hb1 H1 ad1 := fun v sv L' Hb' H' ad' hk R s r => h v sv L' Hb' H' ad' hk R (a.trans s) r
theorem KOt.step {k : Bool → Tab → Prop} {Q : Bool → Hp → Prop} (a : Stp Hb H ad Hb1 H1 ad1) (h : KOt G k Q Hb H ad) : KOt G k Q Hb1 H1 ad1 := fun b L' Hb' H' ad' hk R s => h b L' Hb' H' ad' hk R (a.trans s)
theorem RepSs.step {vs : List V} {svs : List SV} (a : Stp Hb H ad Hb1 H1 ad1) : RepSs G Hb ad vs svs → RepSs G Hb1 ad1 vs svs := fun h => L2.Paired.mapP h fun _ _ r => RepS.step a r
theorem Stp.trunc (a : Stp Hb H ad Hb1 H1 ad1) : Stp Hb H ad Hb1 H1 ad := ⟨a.base, ⟨[], by simp, fun _ h => nomatch h⟩, a.keep, a.bas, a.there⟩
theorem Rel.trunc {ns : List Addr} {ex : Tab} (R : Rel G Hb H (ad ++ ns) (L ++ ex)) (hl : ad.length = L.length) : Rel G Hb H ad L := by
  have g1 : ∀ {j : Nat} {c : Ct}, L[j]? = some c → (L ++ ex)[j]? = some c := fun {j c} h => by
    obtain ⟨hj, _⟩ := List.getElem?_eq_some_iff.mp h
    rw [List.getElem?_append_left hj]; exact h
  have g2 : ∀ {j : Nat} {a : Addr}, ad[j]? = some a → (ad ++ ns)[j]? = some a := fun {j c} h => by
    obtain ⟨hj, _⟩ := List.getElem?_eq_some_iff.mp h
    rw [List.getElem?_append_left hj]; exact h
  exact ⟨R.ext, hl, (List.nodup_append.mp R.nd).1, fun j ds a h h' hv => R.own j ds a (g1 h) (g2 h') hv, fun a h => R.ina a (List.mem_append_left _ h), fun j x a h h' => R.fz j x a (g1 h) (g2 h')⟩
theorem RepSs.dens {vs : List V} (R : Rel G Hb H ad L) : ∀ {vs : List V} {svs : List SV} {ds : List D}, RepSs G Hb ad vs svs → PD.dens L svs = some ds → Paired (Pk G Hb H) vs ds
  | _, _, ds, .nil, e => by cases e; exact .nil
  | _, sv :: svs, ds, .cons r t, e => by
    unfold PD.dens at e
    cases q : den L sv with
    | none => simp only [q] at e; cases e
    | some x =>
      cases q2 : PD.dens L svs with
      | none => simp only [q, q2] at e; cases e
      | some xs =>
        simp only [q, q2] at e
        cases e
        exact .cons (R.read r q) (RepSs.dens (vs := []) R t q2)
theorem dens_frzT (L : Tab) (a : SV) : ∀ svs, dens (frzT L a) svs = dens L svs
  | [] => rfl
  | v :: vs => by unfold dens; rw [den_frzT, dens_frzT L a vs]
/-- all are frozen -/
theorem RepSs.freeze : ∀ {vs : List V} {svs : List SV} {ds : List D} {Hb : Hp} {L : Tab}, Rel G Hb H ad L → RepSs G Hb ad vs svs → PD.dens L svs = some ds →
    ∃ Hb', Rel G Hb' H ad (frzL L svs) ∧ Stp Hb H ad Hb' H ad ∧ RepL G Hb' vs ds
  | _, _, ds, Hb, L, R, .nil, e => by cases e; exact ⟨Hb, R, Stp.refl, .nil⟩
  | _, sv :: svs, ds, Hb, L, R, .cons r t, e => by
    unfold PD.dens at e
    cases q : den L sv with
    | none => simp only [q] at e; cases e
    | some x =>
      cases q2 : PD.dens L svs with
      | none => simp only [q, q2] at e; cases e
      | some xs =>
        simp only [q, q2] at e
        cases e
        obtain ⟨Hb1, R1, s1, r1⟩ := R.freeze r q
        obtain ⟨Hb2, R2, s2, r2⟩ := RepSs.freeze R1 (L2.Paired.mapP t fun _ _ r => RepS.step s1 r) (by rw [dens_frzT]; exact q2)
        exact ⟨Hb2, R2, s1.trans s2, .cons (r1.mono s2.base) r2⟩
/-- a new list, own or frozen -/
theorem mkL_ok {m : Bool} {ds : List D} {k : KV} {Q : VK} {vs : List V} (h : mkL m ds L k) (R : Rel G Hb H ad L) (hk : KOk G k Q Hb H ad) (r : RepL G Hb vs ds) {p : Addr} (hp : H p = none) : Q (.ref p) (upd H p (.lst vs)) := by
  cases m with
  | true =>
    obtain ⟨R1, s1, r1⟩ := R.newO (oo := .lst vs) (ct := .lst ds) hp r
    exact hk _ _ _ _ _ _ h R1 s1 r1
  | false =>
    obtain ⟨R1, s1⟩ := R.newF (o := .lst vs) hp
    exact hk _ (.d (.lst ds)) _ _ _ _ h R1 s1 (.lst upd_same (r.mono s1.base))
end
section
variable {pr : Pr} {n : Nat} {me : Me} {X : Cx} {W : WX}
variable {e ea eb : Expr} {env : Env} {L : Tab} {Hb H : Hp} {ad : List Addr} {σ : St} {Q : VK} {z : Xn → Tab → Prop}
abbrev Gam (pr : Pr) (n : Nat) : Calls := wpF pr.fn pr.gc n
def SE (pr : Pr) (n : Nat) (a : E) : Prop := ∀ {me : Me} {X : Cx} {W : WX} {e : Expr} {m : Bool} {env : Env} {L : Tab} {k : KV} {z : Xn → Tab → Prop} {Hb H : Hp} {ad : List Addr} {σ : St} {Q : VK}, Ctx pr n me X → Takes X W →
  mE pr a me e = true → wpE (Gam pr n) pr.gc a m env L k z → Rel pr.G Hb H ad L → EnvR pr.G Hb ad env σ → ZOk pr.G z W σ Hb H ad → KOk pr.G k Q Hb H ad → wX X e σ H Q
def SEs (pr : Pr) (n : Nat) (a : Es) : Prop := ∀ {me : Me} {X : Cx} {W : WX} {es : List Expr} {env : Env} {L : Tab} {k : List SV → Tab → Prop} {z : Xn → Tab → Prop} {Hb H : Hp} {ad : List Addr} {σ : St} {Q : List V → Hp → Prop}, Ctx pr n me X → Takes X W →
  mEs pr a me es = true → wpEs (Gam pr n) pr.gc a env L k z → Rel pr.G Hb H ad L → EnvR pr.G Hb ad env σ → ZOk pr.G z W σ Hb H ad → KOks pr.G k Q Hb H ad → wA X es σ H Q
def ST (pr : Pr) (n : Nat) (a : T) : Prop := ∀ {me : Me} {X : Cx} {W : WX} {e : Expr} {env : Env} {L : Tab} {k : Bool → Tab → Prop} {z : Xn → Tab → Prop} {Hb H : Hp} {ad : List Addr} {σ : St} {Q : Bool → Hp → Prop}, Ctx pr n me X → Takes X W →
  mT pr a me e = true → wpT (Gam pr n) pr.gc a env L k z → Rel pr.G Hb H ad L → EnvR pr.G Hb ad env σ → ZOk pr.G z W σ Hb H ad → KOt pr.G k Q Hb H ad → wT X e σ H Q
/-- two in a row -/
theorem two {a b : E} (ha : SE pr n a) (hb : SE pr n b) {R : V → V → Hp → Prop} {k2 : SV → SV → Tab → Prop} (C : Ctx pr n me X) (tk : Takes X W) (ma : mE pr a me ea = true) (mb : mE pr b me eb = true)
    (h : wpE (Gam pr n) pr.gc a false env L (fun x L1 => wpE (Gam pr n) pr.gc b false env L1 (fun y L2 => k2 x y L2) z) z) (Rl : Rel pr.G Hb H ad L) (E : EnvR pr.G Hb ad env σ) (Z : ZOk pr.G z W σ Hb H ad)
    (fin : ∀ v w x y L2 Hb2 H2 ad2, k2 x y L2 → Rel pr.G Hb2 H2 ad2 L2 → Stp Hb H ad Hb2 H2 ad2 → RepS pr.G Hb2 ad2 v x → RepS pr.G Hb2 ad2 w y → R v w H2) :
    wX X ea σ H fun v H1 => wX X eb σ H1 fun w H2 => R v w H2 :=
  ha C tk ma h Rl E Z fun v x L1 Hb1 H1 ad1 h1 R1 s1 r1 =>
    hb C tk mb h1 R1 (E.step s1) (Z.step s1) fun w y L2 Hb2 H2 ad2 h2 R2 s2 r2 => fin v w x y L2 Hb2 H2 ad2 h2 R2 (s1.trans s2) (r1.step s2) r2
/-! ### the operators, on what is read -/
variable {k : KV}
theorem opB_ok {op : BOp} {o : Operator} {m : Bool} {u v : D} {x y : V} (mo : opM op o = true) (h : opB op u v (resK m L k)) (R : Rel pr.G Hb H ad L) (hk : KOk pr.G k Q Hb H ad)
    (px : Pk pr.G Hb H x u) (py : Pk pr.G Hb H y v) : rW X (binaryOp o) x y H Q := by
  have fin : ∀ {w : V} {r : D}, Rep pr.G Hb w r → k (.d r) L → Q w H := fun {w r} q h => hk w (.d r) L Hb H ad h R Stp.refl q
  cases op <;> cases o <;> first | (exact Bool.noConfusion mo) | skip
  -- add
  · cases u with
    | int i =>
      cases v with
      | int j => rw [px.int, py.int]; exact rW.by op_add ⟨i, j, rfl, rfl, fin (.int _) h⟩
      | _ => exact h.elim
    | str i =>
      cases v with
      | str j => rw [px.str, py.str]; exact rW.by op_add_str ⟨i, j, rfl, rfl, h.1, fin (.str _) h.2⟩
      | _ => exact h.elim
    | lst ds =>
      cases v with
      | lst es =>
        obtain ⟨a, vs, rfl, h1, r1⟩ := px.lst R.ext
        obtain ⟨b, ws, rfl, h2, r2⟩ := py.lst R.ext
        exact rW.by op_cat ⟨a, b, vs, ws, rfl, rfl, h1, h2, by rw [r1.length, r2.length]; exact h.1, fun p hp => mkL_ok h.2 R hk (r1.append r2) hp⟩
      | _ => exact h.elim
    | tup ds =>
      cases v with
      | tup es =>
        obtain ⟨a, vs, rfl, h1, r1⟩ := px.tup R.ext
        obtain ⟨b, ws, rfl, h2, r2⟩ := py.tup R.ext
        have pa : Rep pr.G Hb (.ref a) (.tup ds) := px.base rfl
        have pb : Rep pr.G Hb (.ref b) (.tup es) := py.base rfl
        refine rW.by op_catA ⟨a, b, vs, ws, rfl, rfl, SqT.of h1, SqT.of h2, by rw [r1.length, r2.length]; exact h.1, fun e => ?_, fun _ e => ?_, fun _ _ p hp => ?_⟩
        · have e2 : ds = [] := List.eq_nil_of_length_eq_zero (by rw [← r1.length, e]; rfl)
          subst e2
          exact fin pb h.2
        · have e2 : es = [] := List.eq_nil_of_length_eq_zero (by rw [← r2.length, e]; rfl)
          subst e2
          have h3 : k (.d (.tup (ds ++ []))) L := h.2
          rw [List.append_nil] at h3
          exact fin pa h3
        · obtain ⟨R1, s1⟩ := R.newF (o := .tup (vs ++ ws)) hp
          exact hk _ (.d (.tup (ds ++ es))) _ _ _ _ h.2 R1 s1 (.tup upd_same ((r1.append r2).mono s1.base))
      | _ => exact h.elim
    | _ => exact h.elim
  -- sub
  · cases u with
    | int i =>
      cases v with
      | int j => rw [px.int, py.int]; exact rW.by op_sub ⟨i, j, rfl, rfl, fin (.int _) h⟩
      | _ => exact h.elim
    | _ => exact h.elim
  -- mul
  · cases u with
    | int i =>
      cases v with
      | int j =>
        rw [px.int, py.int]
        rcases h.1 with c | c
        · exact rW.by op_mul ⟨i, j, rfl, rfl, c, fin (.int _) h.2⟩
        · exact rW.by op_mulW ⟨i, j, rfl, rfl, c, fin (.int _) h.2⟩
      | _ => exact h.elim
    | lst ds =>
      cases v with
      | int j =>
        obtain ⟨a, vs, rfl, h1, r1⟩ := px.lst R.ext
        rw [py.int]
        have q1 := h.1
        have q2 := h.2.1
        exact rW.by op_rep ⟨a, j, vs, rfl, rfl, h1, by omega, by omega, by rw [r1.length]; exact h.2.2.1, fun p hp => mkL_ok h.2.2.2 R hk (r1.rep _) hp⟩
      | _ => exact h.elim
    | _ => exact h.elim
  -- fdiv
  · cases u with
    | int i =>
      cases v with
      | int j => rw [px.int, py.int]; exact rW.by op_fdivW ⟨i, j, rfl, rfl, h.1, fin (.int _) h.2⟩
      | _ => exact h.elim
    | _ => exact h.elim
  -- mod
  · cases u with
    | int i =>
      cases v with
      | int j => rw [px.int, py.int]; exact rW.by op_mod ⟨i, j, rfl, rfl, h.1, fin (.int _) h.2⟩
      | _ => exact h.elim
    | _ => exact h.elim
  -- pow
  · cases u with
    | int i =>
      cases v with
      | int j => rw [px.int, py.int]; exact rW.by op_pow ⟨i, j, rfl, rfl, h.1, fin (.int _) h.2⟩
      | _ => exact h.elim
    | _ => exact h.elim
end
end PD

namespace PD
open PySem L2
theorem dpInts {K : PySem.W.Frag} {H : Hp} : ∀ ns : List Int, DpAll K H (ns.map V.int) (ns.map PyData.int)
  | [] => .nil
  | n :: ns => .cons (.int n) (dpInts ns)
mutual
theorem Rep.dp {G : Gs} {H : Hp} : ∀ {v : V} {d : D}, d.pure = true → Rep G H v d → Dp G.K H v (toPy d)
  | _, _, _, .non => by unfold toPy; exact .non
  | _, _, _, .bl b => by unfold toPy; exact .bl b
  | _, _, _, .int i => by unfold toPy; exact .int i
  | _, _, _, .str s => by unfold toPy; exact .str s
  | _, _, h, .lst e r => by
    unfold toPy
    exact .lst (SqL.of e) (RepL.dp (by unfold D.pure at h; exact h) r)
  | _, _, h, .tup e r => by
    unfold toPy
    exact .tup (SqT.of e) (RepL.dp (by unfold D.pure at h; exact h) r)
  | _, _, _, .scr (ns := ns) e => by
    unfold toPy
    exact .lst e (dpInts ns)
  | _, _, h, .kst e => by unfold D.pure at h; exact Bool.noConfusion h
  | _, _, h, .dct e => by unfold D.pure at h; exact Bool.noConfusion h
  | _, _, h, .dctT e => by unfold D.pure at h; exact Bool.noConfusion h
  | _, _, h, .obj e r => by unfold D.pure at h; exact Bool.noConfusion h
theorem RepL.dp {G : Gs} {H : Hp} : ∀ {vs : List V} {ds : List D}, pures ds = true → RepL G H vs ds → DpAll G.K H vs (toPys ds)
  | _, _, _, .nil => by unfold toPys; exact .nil
  | _, _, h, .cons r t => by
    unfold toPys
    unfold pures at h
    rw [Bool.and_eq_true] at h
    exact .cons (Rep.dp h.1 r) (RepL.dp h.2 t)
end
section
variable {G : Gs} {Hb H : Hp} {v w : V} {d e : D}
theorem flatV_of (h : d.flat = true) (r : Rep G H v d) : flatV v = true := by
  cases r with
  | non => rfl
  | bl b => rfl
  | int b => rfl
  | str b => rfl
  | lst _ _ => cases h
  | tup _ _ => cases h
  | scr _ => cases h
  | kst _ => cases h
  | dct _ => cases h
  | dctT _ => cases h
  | obj _ _ => cases h
theorem eqV_of (h : d.flat = true) (h' : e.flat = true) (r : Rep G H v d) (r' : Rep G H w e) : eqV v w = D.eqF d e := by
  cases r with
  | lst _ _ => cases h
  | tup _ _ => cases h
  | scr _ => cases h
  | kst _ => cases h
  | dct _ => cases h
  | dctT _ => cases h
  | obj _ _ => cases h
  | _ =>
    cases r' with
    | lst _ _ => cases h'
    | tup _ _ => cases h'
    | scr _ => cases h'
    | kst _ => cases h'
    | dct _ => cases h'
    | dctT _ => cases h'
    | obj _ _ => cases h'
    | _ => rfl
theorem flatAll : ∀ {vs : List V} {ds : List D}, ds.all D.flat = true → RepL G H vs ds → vs.all flatV = true
  | _, _, _, .nil => rfl
  | _, _, h, .cons r t => by
    rw [List.all_cons, Bool.and_eq_true] at h
    rw [List.all_cons, flatV_of h.1 r, flatAll h.2 t]
    rfl
theorem inV_of (h : d.flat = true) (r : Rep G H v d) : ∀ {vs : List V} {ds : List D}, ds.all D.flat = true → RepL G H vs ds → inV v vs = D.inL d ds
  | _, _, _, .nil => rfl
  | x :: xs, y :: ys, h', .cons r' t => by
    rw [List.all_cons, Bool.and_eq_true] at h'
    have ih := inV_of h r h'.2 t
    unfold inV D.inL at ih ⊢
    rw [List.any_cons, List.any_cons, eqV_of h'.1 h r' r, ih]
theorem isNon_of (r : Rep G H v d) : decide (v = .non) = d.isNon := by
  cases r <;> simp [D.isNon]
end
section
variable {pr : Pr} {n : Nat} {me : Me} {X : Cx} {W : WX}
variable {e ea eb : Expr} {env : Env} {L : Tab} {Hb H : Hp} {ad : List Addr} {σ : St} {Q : VK} {z : Xn → Tab → Prop} {k : KV}
theorem eqD_ok (C : Ctx pr n me X) {kb : Bool → Prop} {u v : D} {x y : V} (h : eqD u v kb) (R : Rel pr.G Hb H ad L) (fin : ∀ b, kb b → Q (.bl b) H)
    (px : Pk pr.G Hb H x u) (py : Pk pr.G Hb H y v) : rW X (compareOp .Eq) x y H Q := by
  have gen : (u.pure = true ∧ v.pure = true ∧ SeqAt.shaped (toPy u) = true ∧ SeqAt.shaped (toPy v) = true ∧ kb (PyData.eqv (toPy u) (toPy v))) → rW X (compareOp .Eq) x y H Q := fun ⟨p1, p2, s1, s2, q⟩ =>
    rW.by (op_eqD C.room.units) ⟨toPy u, toPy v, by rw [C.K]; exact (px.toH R.ext).dp p1, by rw [C.K]; exact (py.toH R.ext).dp p2, s1, s2, fin _ q⟩
  cases u with
  | int i =>
    cases v with
    | int j => rw [px.int, py.int]; exact rW.by op_eq ⟨rfl, by rw [dec_int]; exact fin _ h⟩
    | str j => rw [px.int, py.str]; exact rW.by op_eq ⟨rfl, fin _ h⟩
    | _ => exact gen h
  | bl i =>
    cases v with
    | bl j => rw [px.bl, py.bl]; exact rW.by op_eq ⟨rfl, by rw [dec_bl]; exact fin _ h⟩
    | str j => rw [px.bl, py.str]; exact rW.by op_eq ⟨rfl, fin _ h⟩
    | _ => exact gen h
  | str i =>
    cases v with
    | int j => rw [px.str, py.int]; exact rW.by op_eq ⟨rfl, fin _ h⟩
    | str j => rw [px.str, py.str]; exact rW.by op_eq ⟨rfl, by rw [dec_str]; exact fin _ h⟩
    | bl j => rw [px.str, py.bl]; exact rW.by op_eq ⟨rfl, fin _ h⟩
    | _ => exact gen h
  | non =>
    cases v with
    | non => rw [px.non, py.non]; exact rW.by op_eq ⟨rfl, fin _ h⟩
    | _ => exact gen h
  | _ => cases v <;> exact gen h
theorem neD_ok (C : Ctx pr n me X) {kb : Bool → Prop} {u v : D} {x y : V} (h : eqD u v fun b => kb (!b)) (R : Rel pr.G Hb H ad L) (fin : ∀ b, kb b → Q (.bl b) H)
    (px : Pk pr.G Hb H x u) (py : Pk pr.G Hb H y v) : rW X (compareOp .NotEq) x y H Q := by
  have gen : (u.pure = true ∧ v.pure = true ∧ SeqAt.shaped (toPy u) = true ∧ SeqAt.shaped (toPy v) = true ∧ kb (!PyData.eqv (toPy u) (toPy v))) → rW X (compareOp .NotEq) x y H Q := fun ⟨p1, p2, s1, s2, q⟩ =>
    rW.by (op_neD C.room.units) ⟨toPy u, toPy v, by rw [C.K]; exact (px.toH R.ext).dp p1, by rw [C.K]; exact (py.toH R.ext).dp p2, s1, s2, fin _ q⟩
  cases u with
  | int i =>
    cases v with
    | int j => rw [px.int, py.int]; exact rW.by op_ne ⟨rfl, by rw [dec_int]; exact fin _ h⟩
    | str j => rw [px.int, py.str]; exact rW.by op_ne ⟨rfl, fin _ h⟩
    | _ => exact gen h
  | bl i =>
    cases v with
    | bl j => rw [px.bl, py.bl]; exact rW.by op_ne ⟨rfl, by rw [dec_bl]; exact fin _ h⟩
    | str j => rw [px.bl, py.str]; exact rW.by op_ne ⟨rfl, fin _ h⟩
    | _ => exact gen h
  | str i =>
    cases v with
    | int j => rw [px.str, py.int]; exact rW.by op_ne ⟨rfl, fin _ h⟩
    | str j => rw [px.str, py.str]; exact rW.by op_ne ⟨rfl, by rw [dec_str]; exact fin _ h⟩
    | bl j => rw [px.str, py.bl]; exact rW.by op_ne ⟨rfl, fin _ h⟩
    | _ => exact gen h
  | non =>
    cases v with
    | non => rw [px.non, py.non]; exact rW.by op_ne ⟨rfl, fin _ h⟩
    | _ => exact gen h
  | _ => cases v <;> exact gen h
theorem isD_ok {kb : Bool → Prop} {u v : D} {x y : V} (neg : Bool) (h : isD u v fun b => kb (if neg then !b else b)) (R : Rel pr.G Hb H ad L) (fin : ∀ b, kb b → Q (.bl b) H)
    (px : Pk pr.G Hb H x u) (py : Pk pr.G Hb H y v) : rW X (compareOp (if neg then .IsNot else .Is)) x y H Q := by
  have pn : v = .non → kb (if neg then !u.isNon else u.isNon) → rW X (compareOp (if neg then .IsNot else .Is)) x y H Q := fun e h => by
    subst e
    rw [py.non]
    have e := isNon_of (px.toH R.ext)
    cases neg with
    | true => exact rW.by op_notN ⟨rfl, by rw [e]; exact fin _ h⟩
    | false => exact rW.by op_isN ⟨rfl, by rw [e]; exact fin _ h⟩
  cases u with
  | bl i =>
    cases v with
    | non => exact pn rfl h
    | bl j =>
      rw [px.bl, py.bl]
      have e : decide (i = j) = (i == j) := by cases i <;> cases j <;> rfl
      cases neg with
      | true => exact rW.by op_notBl ⟨i, j, rfl, rfl, by rw [e]; exact fin _ h⟩
      | false => exact rW.by op_isBl ⟨i, j, rfl, rfl, by rw [e]; exact fin _ h⟩
    | _ => exact h.elim
  | _ =>
    cases v with
    | non => exact pn rfl h
    | _ => exact h.elim
theorem inD_ok (C : Ctx pr n me X) {kb : Bool → Prop} {u v : D} {x y : V} (neg : Bool) (h : inD u v fun b => kb (if neg then !b else b)) (R : Rel pr.G Hb H ad L) (fin : ∀ b, kb b → Q (.bl b) H)
    (px : Pk pr.G Hb H x u) (py : Pk pr.G Hb H y v) : rW X (compareOp (if neg then .NotIn else .In)) x y H Q := by
  have seq : ∀ {a : Addr} {vs : List V} {ds : List D}, y = .ref a → (SqL X.K H a vs ∨ SqT X.K H a vs) → RepL pr.G H vs ds → u.flat = true → ds.all D.flat = true → kb (if neg then !D.inL u ds else D.inL u ds) →
      rW X (compareOp (if neg then .NotIn else .In)) x y H Q := fun {a vs ds} e hs r f1 f2 q => by
    have rx := px.toH R.ext
    have e2 := inV_of f1 rx f2 r
    subst e
    cases neg with
    | true => exact rW.by op_notIn_seq ⟨a, vs, rfl, hs, flatV_of f1 rx, flatAll f2 r, by rw [e2]; exact fin _ q⟩
    | false => exact rW.by op_in_seq ⟨a, vs, rfl, hs, flatV_of f1 rx, flatAll f2 r, by rw [e2]; exact fin _ q⟩
  have lst : ∀ {ds : List D}, v = .lst ds → (u.flat = true ∧ ds.all D.flat = true ∧ kb (if neg then !D.inL u ds else D.inL u ds)) ∨
      (u.pure = true ∧ pures ds = true ∧ SeqAt.shaped (toPy u) = true ∧ SeqAt.shaped (.list (toPys ds)) = true ∧ kb (if neg then !((toPys ds).any fun z => PyData.eqv z (toPy u)) else ((toPys ds).any fun z => PyData.eqv z (toPy u)))) → rW X (compareOp (if neg then .NotIn else .In)) x y H Q := fun {ds} e q => by
    subst e
    rcases q with q | ⟨p1, p2, p3, p4, q⟩
    · obtain ⟨a, vs, e, h1, r1⟩ := py.lst R.ext
      exact seq e (.inl (SqL.of h1)) (r1.mono R.ext) q.1 q.2.1 q.2.2
    · have d1 : Dp X.K H x (toPy u) := by rw [C.K]; exact (px.toH R.ext).dp p1
      have d2 : Dp X.K H y (.list (toPys ds)) := by rw [C.K]; exact (py.toH R.ext).dp (d := .lst ds) (by unfold D.pure; exact p2)
      cases neg with
      | true => exact rW.by (op_notInD (by have := C.room.units; have := C.room.un; omega)) ⟨_, _, d1, d2, p3, p4, fin _ q⟩
      | false => exact rW.by (op_inD (by have := C.room.units; have := C.room.un; omega)) ⟨_, _, d1, d2, p3, p4, fin _ q⟩
  have tup : ∀ {ds : List D}, v = .tup ds → u.flat = true ∧ ds.all D.flat = true ∧ kb (if neg then !D.inL u ds else D.inL u ds) → rW X (compareOp (if neg then .NotIn else .In)) x y H Q := fun {ds} e q => by
    subst e
    obtain ⟨a, vs, e, h1, r1⟩ := py.tup R.ext
    exact seq e (.inr (SqT.of h1)) (r1.mono R.ext) q.1 q.2.1 q.2.2
  cases v with
  | lst ds => exact lst rfl (by cases u <;> exact h)
  | tup ds => exact tup rfl (by cases u <;> exact h)
  | str b =>
    cases u with
    | str a =>
      obtain ⟨c, rfl, q⟩ := h
      rw [px.str, py.str]
      cases neg with
      | true => exact rW.by op_notIn_sign ⟨c, b, rfl, rfl, fin _ q⟩
      | false => exact rW.by op_in_sign ⟨c, b, rfl, rfl, fin _ q⟩
    | _ => exact h.elim
  | _ => cases u <;> exact h.elim
theorem cmpD_ok (C : Ctx pr n me X) {op : COp} {o : CmpOp} {kb : Bool → Prop} {u v : D} {x y : V} (mo : copM op o = true) (h : cmpD op u v kb) (R : Rel pr.G Hb H ad L) (fin : ∀ b, kb b → Q (.bl b) H)
    (px : Pk pr.G Hb H x u) (py : Pk pr.G Hb H y v) : rW X (compareOp o) x y H Q := by
  cases op with
  | eq => cases o <;> first | exact Bool.noConfusion mo | skip
          exact eqD_ok C (by cases u <;> cases v <;> exact h) R fin px py
  | ne => cases o <;> first | exact Bool.noConfusion mo | skip
          exact neD_ok C (by cases u <;> cases v <;> exact h) R fin px py
  | is => cases o <;> first | exact Bool.noConfusion mo | skip
          exact isD_ok false (by cases u <;> cases v <;> exact h) R fin px py
  | isnot => cases o <;> first | exact Bool.noConfusion mo | skip
             exact isD_ok true (by cases u <;> cases v <;> exact h) R fin px py
  | isin => cases o <;> first | exact Bool.noConfusion mo | skip
            exact inD_ok C false (by cases u <;> cases v <;> exact h) R fin px py
  | notin => cases o <;> first | exact Bool.noConfusion mo | skip
             exact inD_ok C true (by cases u <;> cases v <;> exact h) R fin px py
  | lt =>
    cases o <;> first | exact Bool.noConfusion mo | skip
    cases u with
    | int i =>
      cases v with
      | int j => rw [px.int, py.int]; exact rW.by op_lt ⟨i, j, rfl, rfl, fin _ h⟩
      | _ => exact h.elim
    | str i =>
      cases v with
      | str j => rw [px.str, py.str]; exact rW.by op_lt_str ⟨i, j, rfl, rfl, fin _ h⟩
      | _ => exact h.elim
    | lst a =>
      cases v with
      | lst b => exact rW.by (op_ltD C.room.units) ⟨toPy (.lst a), toPy (.lst b), by rw [C.K]; exact (px.toH R.ext).dp h.1.1, by rw [C.K]; exact (py.toH R.ext).dp h.1.2.1, h.1.2.2.1, (fun z => nomatch z), h.1.2.2.2, fin _ h.2⟩
      | _ => exact h.elim
    | _ => cases v <;> exact h.elim
  | le =>
    cases o <;> first | exact Bool.noConfusion mo | skip
    cases u with
    | int i =>
      cases v with
      | int j => rw [px.int, py.int]; exact rW.by op_le ⟨i, j, rfl, rfl, fin _ h⟩
      | _ => exact h.elim
    | _ => cases v <;> exact h.elim
  | gt =>
    cases o <;> first | exact Bool.noConfusion mo | skip
    cases u with
    | int i =>
      cases v with
      | int j => rw [px.int, py.int]; exact rW.by op_gt ⟨i, j, rfl, rfl, fin _ h⟩
      | _ => exact h.elim
    | _ => cases v <;> exact h.elim
  | ge =>
    cases o <;> first | exact Bool.noConfusion mo | skip
    cases u with
    | int i =>
      cases v with
      | int j => rw [px.int, py.int]; exact rW.by op_ge ⟨i, j, rfl, rfl, fin _ h⟩
      | _ => exact h.elim
    | lst a =>
      cases v with
      | lst b => exact rW.by (op_geD C.room.units) ⟨toPy (.lst a), toPy (.lst b), by rw [C.K]; exact (px.toH R.ext).dp h.1.1, by rw [C.K]; exact (py.toH R.ext).dp h.1.2.1, h.1.2.2.1, (fun z => nomatch z), h.1.2.2.2, fin _ h.2⟩
      | _ => exact h.elim
    | _ => cases v <;> exact h.elim
/-! ### truth -/
theorem truD_ok (C : Ctx pr n me X) {kb : Bool → Prop} {u : D} {x : V} (h : truD u kb) (R : Rel pr.G Hb H ad L) (px : Pk pr.G Hb H x u) : ∃ b, TruV X.K x H b ∧ kb b := by
  have em : ∀ {vs : List V} {ds : List D}, RepL pr.G Hb vs ds → vs.isEmpty = ds.isEmpty := fun r => by cases r <;> rfl
  cases u with
  | bl b => rw [px.bl]; exact ⟨b, rfl, h⟩
  | non => rw [px.non]; exact ⟨false, rfl, h⟩
  | int i => rw [px.int]; exact ⟨_, rfl, h⟩
  | lst ds =>
    obtain ⟨a, vs, rfl, h1, r1⟩ := px.lst R.ext
    exact ⟨_, .inl ⟨vs, SqL.of h1, rfl⟩, by rw [em r1]; exact h⟩
  | tup ds =>
    obtain ⟨a, vs, rfl, h1, r1⟩ := px.tup R.ext
    exact ⟨_, .inr (.inl ⟨vs, SqT.of h1, rfl⟩), by rw [em r1]; exact h⟩
  | _ => exact h.elim
/-! ### items, parts -/
theorem atI_map {α β : Type} (f : α → β) {xs : List α} {i : Int} {v : α} (h : atI xs i = some v) : atI (xs.map f) i = some (f v) := by
  unfold atI at h ⊢
  rw [List.length_map]
  cases q : ixN xs.length i with
  | none => rw [q] at h; cases h
  | some j =>
    rw [q] at h
    show (xs.map f)[j]? = some (f v)
    rw [List.getElem?_map, show xs[j]? = some v from h]
    rfl
theorem atI_rep {vs : List V} {ds : List D} {i : Int} {d : D} (r : RepL pr.G Hb vs ds) (h : atI ds i = some d) : ∃ v, atI vs i = some v ∧ Rep pr.G Hb v d := by
  unfold atI at h ⊢
  rw [r.length]
  cases q : ixN ds.length i with
  | none => rw [q] at h; cases h
  | some j =>
    rw [q] at h
    exact r.get (i := j) h
end
end PD

namespace PD
open PySem L2
/-! ## weakest readings of items, slices, calls by values -/
def rI (X : Cx) : R2 := fun x y H Q => ∀ (value slice : Expr) (pins : List (Addr × Obj)) (s : Shared) (σ : St) (v u : Value), Inv X pins σ H s → RelV x v → RelV y u →
    subscripted slice false v u = operate [v, u] (getItem v u) → wpAny (model X.prog X.w) X.A (PyProof.Rows.subscriptTail value slice v u) (EP X pins σ Q) X.xe s
theorem rI.ix {X : Cx} : IxR X (rI X) := fun value slice pins s σ H x y v u Q I rx ry h hs => h value slice pins s σ v u I rx ry hs
theorem rI.by {X : Cx} {r : R2} {x y : V} {H : Hp} {Q : VK} (p : IxR X r) (h : r x y H Q) : rI X x y H Q := fun value slice pins s σ v u I rx ry hs => p value slice pins s σ H x y v u Q I rx ry h hs
def rS (X : Cx) : V → Option Int → Option Int → Hp → VK → Prop := fun x lo hi H Q => ∀ (pins : List (Addr × Obj)) (s : Shared) (σ : St) (v vl vu : Value) (sl : Addr), Inv X pins σ H s → RelV x v → s.heap.IsSliceOf sl vl vu .none → IsPart vl lo → IsPart vu hi →
    ∃ T id, typeLookup (.type T) "__getitem__" = pure (some (.builtin id)) ∧ s.TypeIs v T ∧ wpAny (model X.prog X.w) X.A (getItem v (.ref sl)) (EP X pins σ Q) X.xe s
theorem rS.sl {X : Cx} : SlR X (rS X) := fun pins s σ H x v vl vu lo hi sl Q I rx hs pl pu h => h pins s σ v vl vu sl I rx hs pl pu
theorem rS.by {X : Cx} {r : V → Option Int → Option Int → Hp → VK → Prop} {x : V} {lo hi : Option Int} {H : Hp} {Q : VK} (p : SlR X r) (h : r x lo hi H Q) : rS X x lo hi H Q := fun pins s σ v vl vu sl I rx hs pl pu => p pins s σ H x v vl vu lo hi sl Q I rx hs pl pu h
def rC (X : Cx) (f : Value) : List V → Hp → VK → Prop := fun xs H Q => ∀ (pins : List (Addr × Obj)) (s : Shared) (σ : St) (us : List Value), Inv X pins σ H s → Vals xs us → wpAny (model X.prog X.w) X.A (call f us) (EP X pins σ Q) X.xe s
theorem rC.c {X : Cx} {f : Value} : CallR X f (rC X f) := fun pins s σ H xs us Q I r h => h pins s σ us I r
theorem rC.by {X : Cx} {f : Value} {r : List V → Hp → VK → Prop} {xs : List V} {H : Hp} {Q : VK} (p : CallR X f r) (h : r xs H Q) : rC X f xs H Q := fun pins s σ us I r' => p pins s σ H xs us Q I r' h
def wI (X : Cx) (tg e : Expr) : TI := fun σ H R => ∀ (pins : List (Addr × Obj)) (s : Shared), Inv X pins σ H s → wpAny (model X.prog X.w) X.A (eval e X.env) (fun v s1 => wpAny (model X.prog X.w) X.A (pyIter v) (PIE X pins σ tg R) X.xe s1) X.xe s
theorem wI.pi {X : Cx} {tg e : Expr} : PI X tg e (wI X tg e) := ⟨fun pins s σ H R I h => h pins s I⟩
theorem wI.by {X : Cx} {tg e : Expr} {wi : TI} {σ : St} {H : Hp} {R : L2.It → Hp → Prop} (p : PI X tg e wi) (h : wi σ H R) : wI X tg e σ H R := fun pins s I => p.run pins s σ H R I h
def biV : Bi → Value
  | .len => .builtin "len" | .abs => .builtin "abs" | .min2 => .builtin "min" | .max2 => .builtin "max" | .min1 => .builtin "min" | .max1 => .builtin "max"
  | .sum => .builtin "sum" | .all => .builtin "all" | .int => .type "int" | .str => .type "str" | .sorted => .builtin "sorted" | .tuple => .type "tuple" | .divmod => .builtin "divmod" | .setlen => .builtin "len" | .sortedr => .builtin "sorted"
theorem pures_map_int : ∀ xs : List Int, pures (xs.map PD.D.int) = true
  | [] => rfl
  | x :: xs => by rw [List.map_cons]; unfold pures; rw [pures_map_int xs]; rfl
theorem toPys_map_int : ∀ xs : List Int, toPys (xs.map PD.D.int) = xs.map PyData.int
  | [] => rfl
  | x :: xs => by rw [List.map_cons, toPys, toPys_map_int xs, toPy, List.map_cons]
abbrev rowD (r : List Int) : PD.D := .lst (r.map .int)
theorem RepL.zipR {G : Gs} {Hb : Hp} : ∀ {vs : List V} {rows : List (List Int)}, RepL G Hb vs (rows.map rowD) → ∀ z ∈ vs.zip rows, Rep G Hb z.1 (rowD z.2)
  | _, [], h, z, hz => by simp at hz
  | _, r :: rows, h, z, hz => by
    cases h with
    | cons h1 h2 =>
      rw [List.zip_cons_cons] at hz
      rcases List.mem_cons.mp hz with q | q
      · subst q; exact h1
      · exact RepL.zipR h2 z q
theorem RepL.ofR {G : Gs} {Hb : Hp} : ∀ {zs : List (V × List Int)}, (∀ z ∈ zs, Rep G Hb z.1 (rowD z.2)) → RepL G Hb (zs.map Prod.fst) (zs.map (rowD ∘ Prod.snd))
  | [], _ => .nil
  | z :: zs, h => .cons (h z List.mem_cons_self) (RepL.ofR fun y hy => h y (List.mem_cons_of_mem _ hy))
theorem RepL.erase {G : Gs} {Hb : Hp} : ∀ {vs : List V} {ds : List PD.D} (i : Nat), RepL G Hb vs ds → RepL G Hb (vs.eraseIdx i) (ds.eraseIdx i)
  | _, _, _, .nil => by simp; exact .nil
  | _, _, 0, .cons h1 h2 => h2
  | _, _, i + 1, .cons h1 h2 => .cons h1 (RepL.erase i h2)
section
variable {pr : Pr} {n : Nat} {me : Me} {X : Cx} {W : WX}
variable {env : Env} {L : Tab} {Hb H : Hp} {ad : List Addr} {σ : St} {Q : VK} {z : Xn → Tab → Prop} {k : KV}
theorem idxD_ok {u v : D} {x y : V} (h : idxD u v fun r => k (.d r) L) (R : Rel pr.G Hb H ad L) (hk : KOk pr.G k Q Hb H ad) (K : X.K = pr.G.K)
    (px : Pk pr.G Hb H x u) (py : Pk pr.G Hb H y v) : rI X x y H Q := by
  have fin : ∀ {w : V} {r : D}, Rep pr.G Hb w r → k (.d r) L → Q w H := fun {w r} q h => hk w (.d r) L Hb H ad h R Stp.refl q
  cases v with
  | int i =>
    rw [py.int]
    cases u with
    | lst ds =>
      obtain ⟨d, h1, h2⟩ := h
      obtain ⟨a, vs, rfl, h3, r1⟩ := px.lst R.ext
      obtain ⟨w, h4, r2⟩ := atI_rep r1 h1
      exact rI.by ix_list ⟨a, vs, i, w, rfl, rfl, SqL.of h3, h4, fin r2 h2⟩
    | tup ds =>
      obtain ⟨d, h1, h2⟩ := h
      obtain ⟨a, vs, rfl, h3, r1⟩ := px.tup R.ext
      obtain ⟨w, h4, r2⟩ := atI_rep r1 h1
      exact rI.by ix_tup ⟨a, vs, i, w, rfl, rfl, SqT.of h3, h4, fin r2 h2⟩
    | scr ns =>
      obtain ⟨d, h1, h2⟩ := h
      obtain ⟨a, rfl, h3⟩ := px.scr R.ext
      exact rI.by ix_list ⟨a, _, i, _, rfl, rfl, by rw [K]; exact h3, atI_map V.int h1, fin (.int _) h2⟩
    | str s =>
      obtain ⟨c, h0, h1, h2⟩ := h
      rw [px.str]
      exact rI.by ix_str ⟨s, i, c, rfl, rfl, h0, h1, fin (.str _) h2⟩
    | _ => exact h.elim
  | _ => cases u <;> exact h.elim
theorem cutL_map {α β : Type} (f : α → β) (xs : List α) (lo hi : Option Int) : (cutL xs lo hi).map f = cutL (xs.map f) lo hi := by
  unfold cutL
  rw [List.length_map, List.map_take, List.map_drop]
theorem cutL_V (xs : List V) (lo hi : Option Int) : cutV xs lo hi = cutL xs lo hi := rfl
theorem RepL.cut {vs : List V} {ds : List D} (r : RepL pr.G Hb vs ds) (lo hi : Option Int) : RepL pr.G Hb (cutV vs lo hi) (cutL ds lo hi) := by
  unfold cutV cutL
  rw [r.length]
  exact (r.drop _).take _
theorem cutD_ok {m : Bool} {u : D} {lo hi : Option Int} {x : V} (h : cutD u lo hi (resK m L k)) (R : Rel pr.G Hb H ad L) (hk : KOk pr.G k Q Hb H ad) (K : X.K = pr.G.K)
    (px : Pk pr.G Hb H x u) : rS X x lo hi H Q := by
  cases u with
  | lst ds =>
    obtain ⟨a, vs, rfl, h3, r1⟩ := px.lst R.ext
    exact rS.by sl_list ⟨a, vs, rfl, SqL.of h3, fun p hp => mkL_ok h R hk (r1.cut lo hi) hp⟩
  | scr ns =>
    obtain ⟨a, rfl, h3⟩ := px.scr R.ext
    refine rS.by sl_list ⟨a, _, rfl, by rw [K]; exact h3, fun p hp => mkL_ok h R hk ?_ hp⟩
    rw [cutL_V, ← cutL_map]
    exact RepL.ints _
  | str s =>
    rw [px.str]
    exact rS.by sl_str ⟨s, rfl, h.1, hk _ (.d (.str _)) _ _ _ _ h.2 R Stp.refl (.str _)⟩
  | _ => exact h.elim
theorem biD_ok (C : Ctx pr n me X) {m : Bool} {f : Bi} {ds : List D} {vs : List V} (h : biD f ds (resK m L k)) (R : Rel pr.G Hb H ad L) (hk : KOk pr.G k Q Hb H ad)
    (ps : Paired (Pk pr.G Hb H) vs ds) : rC X (biV f) vs H Q := by
  have fin : ∀ {w : V} {r : D}, Rep pr.G Hb w r → k (.d r) L → Q w H := fun {w r} q h => hk w (.d r) L Hb H ad h R Stp.refl q
  cases ps with
  | nil => cases f <;> exact h.elim
  | @cons x u xs us px pt =>
    cases pt with
    | @cons y v ys vs py pt =>
      cases pt with
      | cons _ _ => cases f <;> cases u <;> cases v <;> exact h.elim
      | nil =>
        cases f <;> first | exact h.elim | skip
        case min2 =>
          cases u <;> first | exact h.elim | skip
          cases v <;> first | exact h.elim | skip
          rw [px.int, py.int]
          exact rC.by (call_min2 C.calm) ⟨_, _, rfl, fin (.int _) h⟩
        case max2 =>
          cases u <;> first | exact h.elim | skip
          cases v <;> first | exact h.elim | skip
          rw [px.int, py.int]
          exact rC.by (call_max2 C.calm) ⟨_, _, rfl, fin (.int _) h⟩
        case divmod =>
          cases u <;> first | exact h.elim | skip
          cases v <;> first | exact h.elim | skip
          rename_i i j
          rw [px.int, py.int]
          refine rC.by call_divmod ⟨_, _, rfl, ⟨h.1, h.2.1⟩, fun p hp => ?_⟩
          obtain ⟨R1, s1⟩ := R.newF (o := .tup [.int (i / j), .int (i % j)]) hp
          exact hk _ (.d (.tup _)) _ _ _ _ h.2.2 R1 s1 (.tup upd_same (.cons (.int _) (.cons (.int _) .nil)))
        all_goals (cases u <;> first | exact h.elim | (cases v <;> exact h.elim))
    | nil =>
      cases f <;> first | exact h.elim | skip
      case len =>
        cases u with
        | lst ds =>
          obtain ⟨a, vs, rfl, h3, r1⟩ := px.lst R.ext
          exact rC.by call_len_seq ⟨a, vs, rfl, .inl (SqL.of h3), by rw [r1.length]; exact fin (.int _) h⟩
        | tup ds =>
          obtain ⟨a, vs, rfl, h3, r1⟩ := px.tup R.ext
          exact rC.by call_len_seq ⟨a, vs, rfl, .inr (SqT.of h3), by rw [r1.length]; exact fin (.int _) h⟩
        | scr ns =>
          obtain ⟨a, rfl, h3⟩ := px.scr R.ext
          exact rC.by call_len_seq ⟨a, _, rfl, .inl (by rw [C.K]; exact h3), by rw [List.length_map]; exact fin (.int _) h⟩
        | str s =>
          rw [px.str]
          exact rC.by call_len_str ⟨s, rfl, h.1, fin (.int _) h.2⟩
        | _ => exact h.elim
      case abs =>
        cases u <;> first | exact h.elim | skip
        rw [px.int]
        exact rC.by call_abs ⟨_, rfl, fin (.int _) h⟩
      case sum =>
        cases u <;> first | exact h.elim | skip
        obtain ⟨ns, rfl, q⟩ := h
        obtain ⟨a, vs, rfl, h3, r1⟩ := px.lst R.ext
        rw [r1.ofInts] at h3
        exact rC.by (cr_sum C.calm) ⟨a, ns, rfl, SqL.of h3, fin (.int _) q⟩
      case all =>
        cases u <;> first | exact h.elim | skip
        obtain ⟨bs, rfl, q⟩ := h
        obtain ⟨a, vs, rfl, h3, r1⟩ := px.lst R.ext
        rw [r1.ofBls] at h3
        exact rC.by (cr_all C.calm) ⟨a, bs, rfl, SqL.of h3, fin (.bl _) q⟩
      case max1 =>
        cases u <;> first | exact h.elim | skip
        obtain ⟨ns, rfl, q0, q⟩ := h
        obtain ⟨a, vs, rfl, h3, r1⟩ := px.lst R.ext
        rw [r1.ofInts] at h3
        exact rC.by (cr_max C.calm) ⟨a, ns, rfl, SqL.of h3, q0, fun m h1 h2 => fin (.int _) (q m h1 h2)⟩
      case min1 =>
        cases u <;> first | exact h.elim | skip
        obtain ⟨ns, rfl, q0, q⟩ := h
        obtain ⟨a, vs, rfl, h3, r1⟩ := px.lst R.ext
        rw [r1.ofInts] at h3
        exact rC.by (cr_min C.calm) ⟨a, ns, rfl, SqL.of h3, q0, fun m h1 h2 => fin (.int _) (q m h1 h2)⟩
      case sorted =>
        cases u <;> first | exact h.elim | skip
        case lst us =>
          obtain ⟨ns, rfl, q0, q⟩ := h
          obtain ⟨a, vs, rfl, h3, r1⟩ := px.lst R.ext
          rw [r1.ofInts] at h3
          exact rC.by cr_sorted ⟨a, ns, rfl, SqL.of h3, q0, fun ns' p h1 h2 hp => mkL_ok (q ns' h1 h2) R hk (RepL.ints _) hp⟩
        case kst ks =>
          obtain ⟨q0, q⟩ := h
          obtain ⟨a, rfl, h3⟩ := px.kst R.ext
          exact rC.by (call_sortedDI C.calm) ⟨a, _, ks, rfl, Rd.of h3, by rw [List.map_map]; rfl, q0, fun ys p h1 h2 hp => mkL_ok (q ys h1 h2) R hk (RepL.ints _) hp⟩
      case sortedr =>
        cases u <;> first | exact h.elim | skip
        obtain ⟨rows, rfl, q0, q⟩ := h
        obtain ⟨a, vs, rfl, h3, r1⟩ := px.lst R.ext
        have hl : vs.length = rows.length := by have := r1.length; simpa using this
        have zf : (vs.zip rows).map Prod.fst = vs := List.map_fst_zip (Nat.le_of_eq hl)
        have zs : (vs.zip rows).map Prod.snd = rows := List.map_snd_zip (Nat.le_of_eq hl.symm)
        have rz := RepL.zipR r1
        refine rC.by (call_sortedR C.room.units) ⟨a, vs.zip rows, rfl, by rw [zf]; exact SqL.of h3, fun z hz => ?_, by rw [List.length_zip, hl, Nat.min_self, sizeLine_eq]; omega, fun p hp => ?_⟩
        · have pu : (D.lst (z.2.map .int)).pure = true := by unfold D.pure; exact pures_map_int _
          have := ((rz z hz).mono R.ext).dp pu
          rw [toPy, toPys_map_int] at this
          rw [C.K]
          exact this
        · refine mkL_ok q R hk ?_ hp
          have e : ((vs.zip rows).mergeSort fun a b => decide (a.2 ≤ b.2)).map Prod.snd = rows.mergeSort fun a b => decide (a ≤ b) := by
            rw [PySem.W.sort_maps (s := fun a b => decide (a ≤ b)) Prod.snd (fun a _ b _ => rfl), zs]
          rw [← e, List.map_map]
          exact RepL.ofR fun z hz => rz z (List.mem_mergeSort.mp hz)
      case tuple =>
        cases u <;> first | exact h.elim | skip
        obtain ⟨a, vs, rfl, h3, r1⟩ := px.lst R.ext
        refine rC.by call_tuple_of ⟨a, vs, rfl, .inl ⟨SqL.of h3, fun l hl => ?_⟩⟩
        obtain ⟨R1, s1⟩ := R.newF (o := .tup vs) hl
        exact hk _ (.d (.tup _)) _ _ _ _ h R1 s1 (.tup upd_same (r1.mono s1.base))
      case int =>
        cases u with
        | int i => rw [px.int]; exact rC.by call_int1 (.inl ⟨_, rfl, fin (.int _) h⟩)
        | bl i => rw [px.bl]; exact rC.by call_int1 (.inr ⟨_, rfl, fin (.int _) h⟩)
        | _ => exact h.elim
      all_goals (cases u <;> exact h.elim)
/-! ### isinstance -/
def tyS : Ty → String | .int => "int" | .bool => "bool" | .str => "str" | .list => "list" | .tuple => "tuple" | .dict => "dict" | .own _ => ""
theorem tyD_ok {u : D} {t : Ty} {b : Bool} {x : V} (h : tyD u t = some b) (R : Rel pr.G Hb H ad L) (K : X.K = pr.G.K) (px : Pk pr.G Hb H x u) (q : Q (.bl b) H) :
    rC X (.builtin "isinstance") [x, .ty (tyS t)] H Q := by
  have fin : ∀ {a b' : String} {r : Bool}, TyX X.K H x (.type a) → PySem.W.kitOne X.K (.type a) (.type b') = some r → Q (.bl r) H → rC X (.builtin "isinstance") [x, .ty b'] H Q := fun {a b' r} ty e q =>
    rC.by call_isi ⟨x, .ty b', _, _, r, rfl, .ty b', ty, e, q⟩
  have sq : ∀ {a : Addr} {vs : List V}, SqL X.K H a vs → TyX X.K H (.ref a) (.type "list") := fun {a vs} h => by
    rcases h with (h | ⟨o, h⟩) | ⟨o, its, n, hk, hc, _⟩
    · exact .base (.lst h)
    · exact .base (.frz h)
    · exact .kList hk hc
  cases u with
  | non =>
    rw [px.non] at fin ⊢
    cases t <;> first | (cases h; done) | skip
    all_goals (cases h; exact fin (.base .non) (kit_ty (by decide +kernel)) q)
  | bl i =>
    rw [px.bl] at fin ⊢
    cases t <;> first | (cases h; done) | skip
    all_goals (cases h; exact fin (.base (.bl _)) (kit_ty (by decide +kernel)) q)
  | int i =>
    rw [px.int] at fin ⊢
    cases t <;> first | (cases h; done) | skip
    all_goals (cases h; exact fin (.base (.int _)) (kit_ty (by decide +kernel)) q)
  | str i =>
    rw [px.str] at fin ⊢
    cases t <;> first | (cases h; done) | skip
    all_goals (cases h; exact fin (.base (.str _)) (kit_ty (by decide +kernel)) q)
  | lst ds =>
    obtain ⟨a, vs, rfl, h3, r1⟩ := px.lst R.ext
    cases t <;> first | (cases h; done) | skip
    all_goals (cases h; exact fin (.base (.lst h3)) (kit_ty (by decide +kernel)) q)
  | tup ds =>
    obtain ⟨a, vs, rfl, h3, r1⟩ := px.tup R.ext
    cases t <;> first | (cases h; done) | skip
    all_goals (cases h; exact fin (.base (.tup h3)) (kit_ty (by decide +kernel)) q)
  | scr ds =>
    obtain ⟨a, rfl, h3⟩ := px.scr R.ext
    rw [← K] at h3
    cases t <;> first | (cases h; done) | skip
    all_goals (cases h; exact fin (sq h3) (kit_ty (by decide +kernel)) q)
  | dct kvs =>
    have hd : ∃ a, x = .ref a ∧ (H a = some (.dK []) ∨ ∃ kvs, H a = some (.dT kvs)) := by
      cases px.base rfl with
      | dct e => exact ⟨_, rfl, .inl (R.ext _ _ e)⟩
      | dctT e => exact ⟨_, rfl, .inr ⟨_, R.ext _ _ e⟩⟩
    obtain ⟨a, rfl, h3⟩ := hd
    have ty : TyX X.K H (.ref a) (.type "dict") := by
      rcases h3 with h3 | ⟨kvs, h3⟩
      · exact .base (.dK h3)
      · exact .base (.dT h3)
    cases t <;> first | (cases h; done) | skip
    all_goals (cases h; exact fin ty (kit_ty (by decide +kernel)) q)
  | _ => cases t <;> cases h
end
end PD

namespace PD
open PySem L2
/-! ## iterators -/
section
variable {G : Gs} {Hb1 : Hp}
theorem itOk_list {K : PySem.W.Frag} {a : Addr} {vs : List V} {ds : List D} (h : Hb1 a = some (.lst vs)) (r : RepL G Hb1 vs ds) : ItOk G (Itl K a) ds Hb1 where
  go := fun i H s hi => ⟨vs, vs[i]'(by rw [r.length]; exact hi), SqL.of (s _ _ h), by simp [r.length, hi]⟩
  stop := fun i H s hi => ⟨vs, SqL.of (s _ _ h), by rw [r.length]; exact hi⟩
  yld := fun i H Hb ad L x H' s R y hi => by
    obtain ⟨rfl, y⟩ := y
    have e := y vs (SqL.of (R.ext _ _ (s _ _ h)))
    obtain ⟨d, h1, h2⟩ := r.getV e
    exact ⟨d, Hb, h1, R, Stp.refl, h2.mono s⟩
theorem itOk_tup {K : PySem.W.Frag} {a : Addr} {vs : List V} {ds : List D} (h : Hb1 a = some (.tup vs)) (r : RepL G Hb1 vs ds) : ItOk G (Itt K a) ds Hb1 where
  go := fun i H s hi => ⟨vs, vs[i]'(by rw [r.length]; exact hi), SqT.of (s _ _ h), by simp [r.length, hi]⟩
  stop := fun i H s hi => ⟨vs, SqT.of (s _ _ h), by rw [r.length]; exact hi⟩
  yld := fun i H Hb ad L x H' s R y hi => by
    obtain ⟨rfl, y⟩ := y
    have e := y vs (SqT.of (R.ext _ _ (s _ _ h)))
    obtain ⟨d, h1, h2⟩ := r.getV e
    exact ⟨d, Hb, h1, R, Stp.refl, h2.mono s⟩
theorem itOk_scr {K : PySem.W.Frag} {a : Addr} {ns : List Int} (h : SqL K Hb1 a (ns.map V.int)) : ItOk G (Itl K a) (ns.map D.int) Hb1 where
  go := fun i H s hi => ⟨ns.map V.int, .int (ns[i]'(by simpa using hi)), Same.seq s h, by
    have : i < ns.length := by simpa using hi
    simp [this]⟩
  stop := fun i H s hi => ⟨ns.map V.int, Same.seq s h, by simpa using hi⟩
  yld := fun i H Hb ad L x H' s R y hi => by
    obtain ⟨rfl, y⟩ := y
    have e := y _ (Same.seq R.ext (Same.seq s h))
    rw [List.getElem?_map] at e
    cases q : ns[i]? with
    | none => rw [q] at e; cases e
    | some m =>
      rw [q] at e
      cases e
      exact ⟨.int m, Hb, by rw [List.getElem?_map, q]; rfl, R, Stp.refl, .int m⟩
theorem itOk_range {lo : Int} {m : Nat} : ItOk G (Itr lo m) ((List.range m).map fun i => D.int (lo + ((i : Nat) : Int))) Hb1 where
  go := fun i H s hi => by simpa [Itr] using hi
  stop := fun i H s hi => by simpa [Itr] using hi
  yld := fun i H Hb ad L x H' s R y hi => by
    obtain ⟨rfl, rfl⟩ := y
    have hi : i < m := by simpa using hi
    exact ⟨.int (lo + i), Hb, by simp [hi], R, Stp.refl, .int _⟩
theorem itOk_range3 {lo : Int} {m : Nat} : ItOk G (Itc lo 2 m) ((List.range m).map fun i => D.int (lo + ((i : Nat) : Int) * 2)) Hb1 where
  go := fun i H s hi => by simpa [Itc] using hi
  stop := fun i H s hi => by simpa [Itc] using hi
  yld := fun i H Hb ad L x H' s R y hi => by
    obtain ⟨rfl, rfl⟩ := y
    have hi : i < m := by simpa using hi
    exact ⟨.int (lo + i * 2), Hb, by simp [hi], R, Stp.refl, .int _⟩
theorem itOk_str {s : Str} : ItOk G (Its s) (s.cps.toList.map fun c => D.str ⟨#[c]⟩) Hb1 where
  go := fun i H _ hi => by simpa [Its] using hi
  stop := fun i H _ hi => by simpa [Its] using hi
  yld := fun i H Hb ad L x H' _ R y hi => by
    obtain ⟨rfl, c, hc, rfl⟩ := y
    exact ⟨.str ⟨#[c]⟩, Hb, by simp [List.getElem?_map, hc], R, Stp.refl, .str _⟩
theorem itOk_enum {K : PySem.W.Frag} {a : Addr} {vs : List V} {ds : List D} (h : Hb1 a = some (.lst vs)) (r : RepL G Hb1 vs ds) : ItOk G (Ite K a) (ds.zipIdx.map fun p => D.tup [.int ((p.2 : Nat) : Int), p.1]) Hb1 where
  go := fun i H s hi => by
    have hi : i < ds.length := by simpa using hi
    exact ⟨vs, vs[i]'(by rw [r.length]; exact hi), SqL.of (s _ _ h), by simp [r.length, hi]⟩
  stop := fun i H s hi => ⟨vs, SqL.of (s _ _ h), by rw [r.length]; simpa using hi⟩
  yld := fun i H Hb ad L x H' s R y hi => by
    obtain ⟨T, v, rfl, hT, rfl, y⟩ := y
    have e := y vs (SqL.of (R.ext _ _ (s _ _ h)))
    obtain ⟨d, h1, h2⟩ := r.getV e
    obtain ⟨R2, s2⟩ := R.newF (o := .tup [.int (i : Nat), v]) hT
    exact ⟨.tup [.int ((i : Nat) : Int), d], _, by simp [List.getElem?_map, List.getElem?_zipIdx, h1], R2, s2, .tup upd_same (.cons (.int _) (.cons ((h2.mono s).mono s2.base) .nil))⟩
theorem itOk_zip {K : PySem.W.Frag} {a b : Addr} {vs ws : List V} {ds es : List D} (h : Hb1 a = some (.lst vs)) (h' : Hb1 b = some (.lst ws)) (r : RepL G Hb1 vs ds) (r' : RepL G Hb1 ws es) :
    ItOk G (Itz K a b) ((ds.zip es).map fun p => D.tup [p.1, p.2]) Hb1 where
  go := fun i H s hi => by
    have hi : i < ds.length ∧ i < es.length := by
      have q := hi
      simp only [List.length_map, List.length_zip] at q
      omega
    exact ⟨vs, ws, vs[i]'(by rw [r.length]; exact hi.1), ws[i]'(by rw [r'.length]; exact hi.2), SqL.of (s _ _ h), SqL.of (s _ _ h'), by simp [r.length, hi.1], by simp [r'.length, hi.2]⟩
  stop := fun i H s hi => ⟨vs, ws, SqL.of (s _ _ h), SqL.of (s _ _ h'), by
    have q := hi
    simp only [List.length_map, List.length_zip] at q
    rw [r.length, r'.length]
    omega⟩
  yld := fun i H Hb ad L x H' s R y hi => by
    obtain ⟨T, v, w, rfl, hT, rfl, y, y'⟩ := y
    obtain ⟨d, h1, h2⟩ := r.getV (y vs (SqL.of (R.ext _ _ (s _ _ h))))
    obtain ⟨d', h1', h2'⟩ := r'.getV (y' ws (SqL.of (R.ext _ _ (s _ _ h'))))
    obtain ⟨R2, s2⟩ := R.newF (o := .tup [v, w]) hT
    exact ⟨.tup [d, d'], _, by simp [List.getElem?_map, List.getElem?_zip_eq_some, h1, h1'], R2, s2, .tup upd_same (.cons ((h2.mono s).mono s2.base) (.cons ((h2'.mono s).mono s2.base) .nil))⟩
theorem itOk_enumS {x : Str} : ItOk G (Ites x) ((x.cps.toList.map fun c => D.str ⟨#[c]⟩).zipIdx.map fun p => D.tup [.int ((p.2 : Nat) : Int), p.1]) Hb1 where
  go := fun i H s hi => by simpa [Ites] using hi
  stop := fun i H s hi => by simpa [Ites] using hi
  yld := fun i H Hb ad L v H' s R y hi => by
    obtain ⟨T, c, rfl, hT, rfl, hc⟩ := y
    obtain ⟨R2, s2⟩ := R.newF (o := .tup [.int (i : Nat), .str ⟨#[c]⟩]) hT
    exact ⟨.tup [.int ((i : Nat) : Int), .str ⟨#[c]⟩], _, by simp [List.getElem?_map, List.getElem?_zipIdx, hc], R2, s2, .tup upd_same (.cons (.int _) (.cons (.str _) .nil))⟩
theorem itOk_zipS {K : PySem.W.Frag} {x : Str} {b : Addr} {ws : List V} {es : List D} (h' : Hb1 b = some (.lst ws)) (r' : RepL G Hb1 ws es) :
    ItOk G (Itzs K x b ws.length) (((x.cps.toList.map fun c => D.str ⟨#[c]⟩).zip es).map fun p => D.tup [p.1, p.2]) Hb1 where
  go := fun i H s hi => by
    have q := hi
    simp only [List.length_map, List.length_zip, Array.length_toList] at q
    have l := r'.length
    exact ⟨by omega, by omega, ws, SqL.of (s _ _ h'), rfl⟩
  stop := fun i H s hi => by
    have q := hi
    simp only [List.length_map, List.length_zip, Array.length_toList] at q
    have l := r'.length
    exact ⟨⟨ws, SqL.of (s _ _ h'), rfl⟩, by omega⟩
  yld := fun i H Hb ad L v H' s R y hi => by
    obtain ⟨T, c, w, rfl, hT, rfl, hc, y'⟩ := y
    obtain ⟨d', h1', h2'⟩ := r'.getV (y' ws (SqL.of (R.ext _ _ (s _ _ h'))))
    obtain ⟨R2, s2⟩ := R.newF (o := .tup [.str ⟨#[c]⟩, w]) hT
    exact ⟨.tup [.str ⟨#[c]⟩, d'], _, by simp [List.getElem?_map, List.getElem?_zip_eq_some, hc, h1'], R2, s2, .tup upd_same (.cons (.str _) (.cons ((h2'.mono s).mono s2.base) .nil))⟩
theorem itOk_rev {K : PySem.W.Frag} {a : Addr} {vs : List V} {ds : List D} (h : Hb1 a = some (.lst vs)) (r : RepL G Hb1 vs ds) : ItOk G (Itv K a vs.length) ds.reverse Hb1 where
  go := fun i H s hi => by
    have hi : i < vs.length := by rw [r.length]; simpa using hi
    exact ⟨hi, vs, vs[vs.length - 1 - i]'(by omega), SqL.of (s _ _ h), by
      have : vs.length - 1 - i < vs.length := by omega
      simp [this]⟩
  stop := fun i H s hi => by
    show vs.length ≤ i
    rw [r.length]; simpa using hi
  yld := fun i H Hb ad L x H' s R y hi => by
    obtain ⟨rfl, y⟩ := y
    have hi : i < ds.length := by simpa using hi
    have e := y vs (SqL.of (R.ext _ _ (s _ _ h)))
    obtain ⟨d, h1, h2⟩ := r.getV e
    exact ⟨d, Hb, by rw [List.getElem?_reverse hi, ← r.length]; exact h1, R, Stp.refl, h2.mono s⟩
end
/-! ## targets -/
theorem wipe_len (σ : St) : ∀ is : List Nat, (L2.wipe σ is).length = σ.length := L2.wipe_length σ
theorem wipe_get (σ : St) : ∀ (is : List Nat) (j : Nat), (L2.wipe σ is)[j]? = if j ∈ is then (if j < σ.length then some none else none) else σ[j]?
  | [], j => by simp [L2.wipe]
  | i :: is, j => by
    unfold L2.wipe
    by_cases e : i = j
    · subst e
      by_cases hl : i < σ.length
      · rw [List.getElem?_set_self (by rw [wipe_len]; exact hl)]; simp [hl]
      · rw [List.getElem?_eq_none (by simp [wipe_len]; omega)]; simp [hl]
    · rw [List.getElem?_set_ne e, wipe_get σ is j]
      simp [List.mem_cons, Ne.symm e]
theorem wipe_eq {σ σ' : St} {is : List Nat} (hl : σ'.length = σ.length) (h : ∀ j, j ∉ is → σ'[j]? = σ[j]?) : L2.wipe σ' is = L2.wipe σ is := by
  apply List.ext_getElem?
  intro j
  rw [wipe_get, wipe_get, hl]
  by_cases hj : j ∈ is
  · simp [hj]
  · simp [hj, h j hj]
theorem loc_of {me : Me} {X : Cx} {x : Str} (sc : X.env.scope = me.sc) (fb : ∀ x, me.fb x = true → X.fn x = true) (h2 : locB me x = true) : L2.Loc X.env.scope x ∧ (X.fn x = true ∨ X.env.scope.names.lookup x = some .local) := by
  unfold locB at h2
  unfold L2.Loc
  rw [sc]
  cases q : me.sc.names.lookup x with
  | none => rw [q] at h2; cases h2
  | some kk => rw [q] at h2; cases kk <;> first | (cases h2; done) | exact ⟨.inl rfl, .inr rfl⟩ | exact ⟨.inr rfl, .inl (fb x h2)⟩
theorem tgs_ok {pr : Pr} {n : Nat} {me : Me} {X : Cx} (N : X.N = me.N) (nd : X.N.Nodup) (sc : X.env.scope = me.sc) (fb : ∀ x, me.fb x = true → X.fn x = true) : ∀ (is : List Nat) (es : List Expr), mTgs me is es = true →
    ∃ t, PGs X es t ∧ is.length = es.length ∧ (assignEach es X.env).length = es.length ∧ (assignEach es X.env).findIdx? (·.1) = none ∧ ∀ (ds : List D) (vs : List V) (G : Gs) (Hb : Hp) (ad : List Addr) (env : Env) (σ : St) (H : Hp) (Q : St → Hp → Prop), is.length = ds.length → RepL G Hb vs ds → EnvR G Hb ad env σ →
      (∀ σ', EnvR G Hb ad (setAll env is ds) σ' → σ'.length = σ.length → (∀ j, j ∉ is → σ'[j]? = σ[j]?) → Q σ' H) → t vs σ H Q := by
  intro is
  induction is with
  | nil =>
    intro es h
    cases es with
    | cons e es => exact Bool.noConfusion h
    | nil =>
      refine ⟨gNil, pgs_nil, rfl, rfl, rfl, fun ds vs G Hb ad env σ H Q hl r E q => ?_⟩
      cases ds with
      | cons _ _ => simp at hl
      | nil => cases r; exact ⟨rfl, q σ E rfl fun _ _ => rfl⟩
  | cons i is ih =>
    intro es h
    cases es with
    | nil => exact Bool.noConfusion h
    | cons e es =>
      cases e <;> first | exact Bool.noConfusion h | skip
      rename_i x pos
      have h' : (decide (me.N[i]? = some x) && locB me x && mTgs me is es) = true := h
      simp only [Bool.and_eq_true, decide_eq_true_eq] at h'
      obtain ⟨⟨h1, h2⟩, h3⟩ := h'
      obtain ⟨t, p, l1, l2, l3, w⟩ := ih es h3
      obtain ⟨hx, hf⟩ := loc_of sc fb h2
      refine ⟨gCons (gName i) t, pgs_cons (pg_name nd (by rw [N]; exact h1) hx hf) p rfl, by simp [l1], by show ((assignEach es X.env).length + 1 = es.length + 1); rw [l2], ?_, fun ds vs G Hb ad env σ H Q hl r E q => ?_⟩
      · show List.findIdx? (·.1) ((false, assign (.Name x pos) X.env) :: assignEach es X.env) = none
        rw [List.findIdx?_cons]
        simp [l3]
      cases ds with
      | nil => simp at hl
      | cons d ds =>
        cases r with
        | cons r rs =>
          refine ⟨_, _, rfl, ?_⟩
          exact w ds _ G Hb ad (setS env i (.d d)) _ H Q (by simpa using hl) rs (E.set (sv := .d d) i r) fun σ' E' l4 we => q σ' E' (by rw [l4]; simp) fun j hj => by
            rw [we j (fun z => hj (List.mem_cons_of_mem _ z)), List.getElem?_set_ne (fun z => hj (by simp [z]))]
/-- a target, at data -/
theorem tg_ok {pr : Pr} {n : Nat} {me : Me} {X : Cx} (N : X.N = me.N) (nd : X.N.Nodup) (sc : X.env.scope = me.sc) (fb : ∀ x, me.fb x = true → X.fn x = true) (hc : X.calm = true) {tg : Tg} {e : Expr} (h : mTg me tg e = true) :
    ∃ t, PG X e t ∧ ∀ (d : D) (v : V) (G : Gs) (Hb : Hp) (ad : List Addr) (env : Env) (σ : St) (H : Hp) (k : Env → Prop) (Q : St → Hp → Prop), tgD tg d env k → Same Hb H → Rep G Hb v d → EnvR G Hb ad env σ →
      (∀ env' σ', k env' → EnvR G Hb ad env' σ' → σ'.length = σ.length → (∀ j, j ∉ tgSlots tg → σ'[j]? = σ[j]?) → Q σ' H) → t v σ H Q := by
  cases tg with
  | v i =>
    cases e <;> first | exact Bool.noConfusion h | skip
    rename_i x pos
    have h' : (decide (me.N[i]? = some x) && locB me x) = true := h
    simp only [Bool.and_eq_true, decide_eq_true_eq] at h'
    obtain ⟨h1, h2⟩ := h'
    obtain ⟨hx, hf⟩ := loc_of sc fb h2
    refine ⟨gName i, pg_name nd (by rw [N]; exact h1) hx hf, fun d v G Hb ad env σ H k Q hk _ r E q => ?_⟩
    exact q _ _ hk (E.set (sv := .d d) i r) (by simp) fun j hj => by rw [List.getElem?_set_ne (fun z => hj (by simp [tgSlots, z]))]
  | t is =>
    cases e <;> first | exact Bool.noConfusion h | skip
    rename_i es kk pos
    obtain ⟨t, p, l1, l2, l3, w⟩ := tgs_ok (pr := pr) (n := n) N nd sc fb is es h
    refine ⟨_, pg_tup hc p l2 l3, fun d v G Hb ad env σ H k Q hk sm r E q => ?_⟩
    cases d <;> first | exact hk.elim | skip
    rename_i ds
    cases r with
    | tup h1 r1 =>
      exact ⟨_, _, rfl, SqT.of (sm _ _ h1), by rw [r1.length, ← l1]; exact hk.1.symm, w ds _ G Hb ad env σ H Q hk.1 r1 E fun σ' E' a b => q _ σ' hk.2 E' a b⟩
end PD

namespace PD
open PySem L2
/-! ## small facts of the syntax -/
theorem star_of {e : Expr} {es : List Expr} {env : PySem.Env} (h : noStar e = true) : starEach (e :: es) env = (false, eval e env) :: starEach es env := by
  cases e <;> first | rfl | exact Bool.noConfusion h
theorem stars_of {pr : Pr} {me : Me} {env : PySem.Env} {pos : Pos} : ∀ {as : Es} {es : List Expr}, mEs pr as me es = true → (backTo pos (starEach es env)).any (·.1) = false
  | .nil, [], _ => rfl
  | .nil, _ :: _, h => Bool.noConfusion h
  | .cons _ _, [], h => Bool.noConfusion h
  | .cons a as, e :: es, h => by
    unfold mEs at h
    simp only [Bool.and_eq_true] at h
    have ih := stars_of (env := env) (pos := pos) h.2
    rw [star_of h.1.1]
    unfold backTo at ih ⊢
    rw [List.map_cons, List.any_cons, ih]
    rfl
theorem ix_of {e : Expr} (h : noSlice e = true) : PlainIx e := by
  intro o i
  cases e <;> first | rfl | exact Bool.noConfusion h
theorem mark_of {op : CmpOp} {e : Expr} (h : noSet e = true) : behindInMarks op e = false := by
  cases e <;> first | rfl | exact Bool.noConfusion h
theorem fold_of {e : Expr} {env : PySem.Env} (h : noSet e = true) : ∀ x, foldedSetIterable e env x = pure x := by
  intro x
  cases e <;> first | rfl | exact Bool.noConfusion h
theorem swap_of {e : Expr} {t : Option Expr} {l : Nat} {env : PySem.Env} (h : noComp e = true) : swapsWith e t l env = pure false := by
  cases e <;> first | rfl | exact Bool.noConfusion h
theorem base_of {e : Expr} {f : Str} {env : PySem.Env} (h : noCall e = true) : attributeBase e f env (eval e env) = eval e env := by
  cases e <;> first | rfl | exact Bool.noConfusion h
theorem test_of {e : Expr} {env : PySem.Env} (h : plainT e = true) : ∀ whole, isTrue e env whole = (do let v ← whole; standAt e.pos; holding [v] (truthy v)) := by
  intro whole
  cases e <;> first | rfl | exact Bool.noConfusion h | skip
  case UnaryOp op _ _ => cases op <;> first | rfl | exact Bool.noConfusion h
theorem gl_of {X : Cx} {me : Me} {x : Str} (sc : X.env.scope = me.sc) (h : glB me.sc x = true) : Gl X x := by
  unfold glB at h
  show X.env.scope.names.lookup x = some .globalImplicit
  rw [sc]
  cases q : me.sc.names.lookup x with
  | none => rw [q] at h; cases h
  | some kk => rw [q] at h; cases kk <;> first | (cases h; done) | rfl
theorem vis_of {X : Cx} {me : Me} {x : Str} (sc : X.env.scope = me.sc) (h : visB me.sc x = true) : Vis X.env.scope x := by
  unfold visB at h
  unfold Vis
  rw [sc]
  cases q : me.sc.names.lookup x with
  | none => rw [q] at h; cases h
  | some kk => rw [q] at h; cases kk <;> first | (cases h; done) | exact .inl rfl | exact .inr (.inl rfl) | exact .inr (.inr rfl)
theorem dbg_of {x : Str} (h : dbgB x = true) : (x == ("__debug__" : Str)) = false ∧ (x == ("__classdict__" : Str)) = false := by
  unfold dbgB at h
  simp only [Bool.and_eq_true, Bool.not_eq_true'] at h
  exact h
/-- the block of a comprehension is a context too -/
theorem Ctx.blk {pr : Pr} {n : Nat} {me : Me} {X : Cx} (C : Ctx pr n me X) (s : Shared) (H : Hp) (scope : Scope) (Ce : Addr) (cl : List (Str × Addr)) (fp : List Addr) :
    Ctx pr n (blkMe me scope) (X.blk s H scope (compEnvC scope cl Ce X.env) fp) :=
  ⟨C.K, C.N, by
    show relabel scope X.env = relS scope me.sc
    rw [← C.sc]
    rfl, C.nd, C.calm, C.room, fun x h => h, C.fns, C.blt, C.gcs, C.cs⟩
section
variable {pr : Pr} {n : Nat}
theorem se_var (i : Nat) : SE pr n (.var i) := by
  intro me X W e m env L k z Hb H ad σ Q C tk mh h R E Z hk
  cases e <;> first | exact Bool.noConfusion mh | skip
  rename_i x pos
  have mh : (decide (me.N[i]? = some x) && visB me.sc x && dbgB x) = true := mh
  simp only [Bool.and_eq_true, decide_eq_true_eq] at mh
  obtain ⟨⟨h1, h2⟩, h3⟩ := mh
  obtain ⟨d1, d2⟩ := dbg_of h3
  unfold wpE at h
  cases q : env[i]? with
  | none => rw [q] at h; exact h.elim
  | some o =>
    cases o with
    | none => rw [q] at h; exact h.elim
    | some sv =>
      rw [q] at h
      obtain ⟨v, e1, r⟩ := E.at_ i sv q
      exact wX.by (pe_var (by rw [C.N]; exact h1) (vis_of C.sc h2) d1 d2) ⟨v, e1, hk v sv L Hb H ad h R Stp.refl r⟩
theorem se_gc (i : Nat) : SE pr n (.gc i) := by
  intro me X W e m env L k z Hb H ad σ Q C tk mh h R E Z hk
  cases e <;> first | exact Bool.noConfusion mh | skip
  rename_i x pos
  have mh : (decide (i < pr.gcn) && decide (x = pr.gn i) && glB me.sc x && dbgB x) = true := mh
  simp only [Bool.and_eq_true, decide_eq_true_eq] at mh
  obtain ⟨⟨⟨h1, rfl⟩, h2⟩, h3⟩ := mh
  obtain ⟨d1, d2⟩ := dbg_of h3
  unfold wpE at h
  obtain ⟨u, v, g1, g2, g3⟩ := C.gcs i h1
  exact wX.by (pe_glob (gl_of C.sc h2) g1 g2 d1) (hk v _ L Hb H ad h R Stp.refl (g3 Hb))
theorem se_const {a : E} {d : D} {v : V} (hm : ∀ me e, mE pr a me e = true → ∀ X : Cx, PE X e (tC v)) (hw : ∀ m env L k z, wpE (Gam pr n) pr.gc a m env L k z → k (.d d) L) (hr : ∀ G H, Rep G H v d) : SE pr n a := by
  intro me X W e m env L k z Hb H ad σ Q C tk mh h R E Z hk
  exact wX.by (hm me e mh X) (hk v _ L Hb H ad (hw _ _ _ _ _ h) R Stp.refl (hr _ _))
theorem se_non : SE pr n .non := se_const (d := .non) (fun me e h X => by
  cases e <;> first | exact Bool.noConfusion h | skip
  rename_i c _ _
  cases c <;> first | exact Bool.noConfusion h | exact pe_non) (fun _ _ _ _ _ h => by unfold wpE at h; exact h) fun _ _ => .non
theorem se_bl (b : Bool) : SE pr n (.bl b) := se_const (d := .bl b) (fun me e h X => by
  cases e <;> first | exact Bool.noConfusion h | skip
  rename_i c _ _
  cases c <;> first | exact Bool.noConfusion h | skip
  rename_i c
  have h : (b == c) = true := h
  rw [beq_iff_eq] at h
  subst h
  exact pe_bl) (fun _ _ _ _ _ h => by unfold wpE at h; exact h) fun _ _ => .bl b
theorem se_int (b : Int) : SE pr n (.int b) := se_const (d := .int b) (fun me e h X => by
  cases e <;> first | exact Bool.noConfusion h | skip
  rename_i c _ _
  cases c <;> first | exact Bool.noConfusion h | skip
  rename_i c
  have h : (b == c) = true := h
  rw [beq_iff_eq] at h
  subst h
  exact pe_int) (fun _ _ _ _ _ h => by unfold wpE at h; exact h) fun _ _ => .int b
theorem se_str (b : Str) : SE pr n (.str b) := se_const (d := .str b) (fun me e h X => by
  cases e <;> first | exact Bool.noConfusion h | skip
  rename_i c _ _
  cases c <;> first | exact Bool.noConfusion h | skip
  rename_i c
  have h : decide (b = c) = true := h
  rw [decide_eq_true_eq] at h
  subst h
  exact pe_str) (fun _ _ _ _ _ h => by unfold wpE at h; exact h) fun _ _ => .str b
theorem se_bin (op : BOp) {a b : E} (ha : SE pr n a) (hb : SE pr n b) : SE pr n (.bin op a b) := by
  intro me X W e m env L k z Hb H ad σ Q C tk mh h R E Z hk
  cases e <;> first | exact Bool.noConfusion mh | skip
  rename_i ea o eb pos
  have mh : (opM op o && mE pr a me ea && mE pr b me eb) = true := mh
  simp only [Bool.and_eq_true] at mh
  obtain ⟨⟨m1, m2⟩, m3⟩ := mh
  unfold wpE at h
  refine wX.by (pe_op rW.op wX.pe wX.pe) ?_
  refine two ha hb C tk m2 m3 h R E Z fun v w x y L2 Hb2 H2 ad2 hh R2 s2 r1 r2 => ?_
  cases q1 : den L2 x with
  | none => simp only [q1] at hh
  | some u =>
    cases q2 : den L2 y with
    | none => simp only [q1, q2] at hh
    | some u' =>
      simp only [q1, q2] at hh
      exact opB_ok m1 hh R2 (hk.step s2) (R2.read r1 q1) (R2.read r2 q2)
theorem se_neg {a : E} (ha : SE pr n a) : SE pr n (.neg a) := by
  intro me X W e m env L k z Hb H ad σ Q C tk mh h R E Z hk
  cases e <;> first | exact Bool.noConfusion mh | skip
  rename_i o ea pos
  cases o <;> first | exact Bool.noConfusion mh | skip
  have mh : mE pr a me ea = true := mh
  unfold wpE at h
  refine wX.by (pe_un un_neg wX.pe) ?_
  refine ha C tk mh h R E Z fun v x L1 Hb1 H1 ad1 hh R1 s1 r1 => ?_
  cases q1 : den L1 x with
  | none => simp only [q1] at hh
  | some u =>
    simp only [q1] at hh
    cases u <;> first | exact hh.elim | skip
    rw [(R1.read r1 q1).int]
    exact ⟨_, rfl, hk _ _ _ _ _ _ hh R1 s1 (.int _)⟩
theorem cmp_run {op : COp} {o : CmpOp} {a b : E} (ha : SE pr n a) (hb : SE pr n b) {me : Me} {X : Cx} {W : WX} {ea eb : Expr} {m : Bool} {env : Env} {L : Tab} {k : KV} {z : Xn → Tab → Prop} {Hb H : Hp} {ad : List Addr} {σ : St} {Q : VK} (C : Ctx pr n me X) (tk : Takes X W)
    (m1 : copM op o = true) (m2 : mE pr a me ea = true) (m3 : mE pr b me eb = true) (h : wpE (Gam pr n) pr.gc (.cmp op a b) m env L k z) (R : Rel pr.G Hb H ad L) (E : EnvR pr.G Hb ad env σ) (Z : ZOk pr.G z W σ Hb H ad)
    (fin : ∀ b L' Hb' H' ad', k (.d (.bl b)) L' → Rel pr.G Hb' H' ad' L' → Stp Hb H ad Hb' H' ad' → Q (.bl b) H') : tOp (rW X (compareOp o)) (wX X ea) (wX X eb) σ H Q := by
  unfold wpE at h
  refine two ha hb C tk m2 m3 h R E Z fun v w x y L2 Hb2 H2 ad2 hh R2 s2 r1 r2 => ?_
  cases q1 : den L2 x with
  | none => simp only [q1] at hh
  | some u =>
    cases q2 : den L2 y with
    | none => simp only [q1, q2] at hh
    | some u' =>
      simp only [q1, q2] at hh
      exact cmpD_ok C m1 hh R2 (fun b hb => fin _ _ _ _ _ hb R2 s2) (R2.read r1 q1) (R2.read r2 q2)
theorem cmp_form {op : COp} {a b : E} {me : Me} {ea : Expr} {ops : List CmpOp} {cs : List Expr} {pos : Pos} (mh : mE pr (.cmp op a b) me (.Compare ea ops cs pos) = true) :
    ∃ o eb, ops = [o] ∧ cs = [eb] ∧ copM op o = true ∧ mE pr a me ea = true ∧ mE pr b me eb = true ∧ noSet eb = true := by
  match ops, cs, mh with
  | [o], [eb], mh =>
    have mh : (copM op o && mE pr a me ea && mE pr b me eb && noSet eb) = true := mh
    simp only [Bool.and_eq_true] at mh
    obtain ⟨⟨⟨m1, m2⟩, m3⟩, m4⟩ := mh
    exact ⟨o, eb, rfl, rfl, m1, m2, m3, m4⟩
  | [], _, mh => exact Bool.noConfusion mh
  | [_], [], mh => exact Bool.noConfusion mh
  | [_], _ :: _ :: _, mh => exact Bool.noConfusion mh
  | _ :: _ :: _, _, mh => exact Bool.noConfusion mh
theorem se_cmp (op : COp) {a b : E} (ha : SE pr n a) (hb : SE pr n b) : SE pr n (.cmp op a b) := by
  intro me X W e m env L k z Hb H ad σ Q C tk mh h R E Z hk
  cases e <;> first | exact Bool.noConfusion mh | skip
  obtain ⟨o, eb, rfl, rfl, m1, m2, m3, m4⟩ := cmp_form mh
  exact wX.by (pe_cmpR rW.op wX.pe wX.pe (mark_of m4)) (cmp_run ha hb C tk m1 m2 m3 h R E Z fun b L' Hb' H' ad' hb R' s' => hk _ _ _ _ _ _ hb R' s' (.bl b))
theorem cmpT_form {op : COp} {a b : E} {me : Me} {ea : Expr} {ops : List CmpOp} {cs : List Expr} {pos : Pos} (mh : mT pr (.cmp op a b) me (.Compare ea ops cs pos) = true) :
    ∃ o eb, ops = [o] ∧ cs = [eb] ∧ copM op o = true ∧ mE pr a me ea = true ∧ mE pr b me eb = true ∧ noSet eb = true := by
  match ops, cs, mh with
  | [o], [eb], mh =>
    have mh : (copM op o && mE pr a me ea && mE pr b me eb && noSet eb) = true := mh
    simp only [Bool.and_eq_true] at mh
    obtain ⟨⟨⟨m1, m2⟩, m3⟩, m4⟩ := mh
    exact ⟨o, eb, rfl, rfl, m1, m2, m3, m4⟩
  | [], _, mh => exact Bool.noConfusion mh
  | [_], [], mh => exact Bool.noConfusion mh
  | [_], _ :: _ :: _, mh => exact Bool.noConfusion mh
  | _ :: _ :: _, _, mh => exact Bool.noConfusion mh
/-- a bool's continuation as a value's -/
def ofB (k : Bool → Tab → Prop) : KV := fun x L => match x with
  | .d (.bl b) => k b L
  | _ => False
theorem st_cmp (op : COp) {a b : E} (ha : SE pr n a) (hb : SE pr n b) : ST pr n (.cmp op a b) := by
  intro me X W e env L k z Hb H ad σ Q C tk mh h R E Z hk
  cases e <;> first | exact Bool.noConfusion mh | skip
  obtain ⟨o, eb, rfl, rfl, m1, m2, m3, m4⟩ := cmpT_form mh
  unfold wpT at h
  have h' : wpE (Gam pr n) pr.gc (.cmp op a b) false env L (ofB k) z := by unfold wpE; exact h
  exact wT.by (pt_cmpR rW.op wX.pe wX.pe (mark_of m4)) (cmp_run ha hb C tk m1 m2 m3 h' R E Z fun b L' Hb' H' ad' hb R' s' => ⟨b, rfl, hk b L' Hb' H' ad' hb R' s'⟩)
theorem lm2 {o o' : CmpOp} {eb ec : Expr} (h : noSet ec = true) : lastMarks [o, o'] [eb, ec] = false := mark_of (op := o') h
theorem chain_run {o1 o2 : COp} {p1 p2 : CmpOp} {a b c : E} (ha : SE pr n a) (hb : SE pr n b) (hc : SE pr n c) {me : Me} {X : Cx} {W : WX} {ea eb ec : Expr} {m : Bool} {env : Env} {L : Tab} {k : KV} {z : Xn → Tab → Prop} {Hb H : Hp} {ad : List Addr} {σ : St} {Q : VK} (C : Ctx pr n me X) (tk : Takes X W)
    (m1 : copM o1 p1 = true) (m1' : copM o2 p2 = true) (m2 : mE pr a me ea = true) (m3 : mE pr b me eb = true) (m5 : mE pr c me ec = true) (h : wpE (Gam pr n) pr.gc (.chain o1 o2 a b c) m env L k z) (R : Rel pr.G Hb H ad L) (E : EnvR pr.G Hb ad env σ) (Z : ZOk pr.G z W σ Hb H ad)
    (fin : ∀ b L' Hb' H' ad', k (.d (.bl b)) L' → Rel pr.G Hb' H' ad' L' → Stp Hb H ad Hb' H' ad' → Q (.bl b) H') : tChain (rW X (compareOp p1)) (rW X (compareOp p2)) (wX X ea) (wX X eb) (wX X ec) σ H Q := by
  unfold wpE at h
  refine two ha hb C tk m2 m3 h R E Z fun v w x y L2 Hb2 H2 ad2 hh R2 s2 r1 r2 => ?_
  cases q1 : den L2 x with
  | none => simp only [q1] at hh
  | some u =>
    cases q2 : den L2 y with
    | none => simp only [q1, q2] at hh
    | some u' =>
      simp only [q1, q2] at hh
      refine cmpD_ok C m1 hh R2 (fun b hb => ⟨b, rfl, ?_⟩) (R2.read r1 q1) (R2.read r2 q2)
      cases b with
      | false =>
        rw [if_neg Bool.false_ne_true]
        exact fin _ _ _ _ _ hb R2 s2
      | true =>
        rw [if_pos rfl]
        refine hc C tk m5 hb R2 (E.step s2) (Z.step s2) fun v3 x3 L3 Hb3 H3 ad3 hh3 R3 s3 r3 => ?_
        cases q3 : den L3 y with
        | none => simp only [q3] at hh3
        | some u3 =>
          cases q4 : den L3 x3 with
          | none => simp only [q3, q4] at hh3
          | some u4 =>
            simp only [q3, q4] at hh3
            exact cmpD_ok C m1' hh3 R3 (fun b hb => fin _ _ _ _ _ hb R3 (s2.trans s3)) (R3.read (r2.step s3) q3) (R3.read r3 q4)
theorem chain_form {o1 o2 : COp} {a b c : E} {me : Me} {ea : Expr} {ops : List CmpOp} {cs : List Expr} {pos : Pos} (mh : mE pr (.chain o1 o2 a b c) me (.Compare ea ops cs pos) = true) :
    ∃ p1 p2 eb ec, ops = [p1, p2] ∧ cs = [eb, ec] ∧ copM o1 p1 = true ∧ copM o2 p2 = true ∧ mE pr a me ea = true ∧ mE pr b me eb = true ∧ mE pr c me ec = true ∧ noSet ec = true := by
  match ops, cs, mh with
  | [p1, p2], [eb, ec], mh =>
    have mh : (copM o1 p1 && copM o2 p2 && mE pr a me ea && mE pr b me eb && mE pr c me ec && noSet ec) = true := mh
    simp only [Bool.and_eq_true] at mh
    obtain ⟨⟨⟨⟨⟨m1, m1'⟩, m2⟩, m3⟩, m5⟩, m4⟩ := mh
    exact ⟨p1, p2, eb, ec, rfl, rfl, m1, m1', m2, m3, m5, m4⟩
  | [], _, mh => exact Bool.noConfusion mh
  | [_], _, mh => exact Bool.noConfusion mh
  | [_, _], [], mh => exact Bool.noConfusion mh
  | [_, _], [_], mh => exact Bool.noConfusion mh
  | [_, _], _ :: _ :: _ :: _, mh => exact Bool.noConfusion mh
  | _ :: _ :: _ :: _, _, mh => exact Bool.noConfusion mh
theorem se_chain (o1 o2 : COp) {a b c : E} (ha : SE pr n a) (hb : SE pr n b) (hc : SE pr n c) : SE pr n (.chain o1 o2 a b c) := by
  intro me X W e m env L k z Hb H ad σ Q C tk mh h R E Z hk
  cases e <;> first | exact Bool.noConfusion mh | skip
  obtain ⟨p1, p2, eb, ec, rfl, rfl, m1, m1', m2, m3, m5, m4⟩ := chain_form mh
  exact wX.by (pe_chain rW.op rW.op wX.pe wX.pe wX.pe (lm2 m4)) (chain_run ha hb hc C tk m1 m1' m2 m3 m5 h R E Z fun b L' Hb' H' ad' hb R' s' => hk _ _ _ _ _ _ hb R' s' (.bl b))
theorem chainT_form {o1 o2 : COp} {a b c : E} {me : Me} {ea : Expr} {ops : List CmpOp} {cs : List Expr} {pos : Pos} (mh : mT pr (.chain o1 o2 a b c) me (.Compare ea ops cs pos) = true) :
    ∃ p1 p2 eb ec, ops = [p1, p2] ∧ cs = [eb, ec] ∧ copM o1 p1 = true ∧ copM o2 p2 = true ∧ mE pr a me ea = true ∧ mE pr b me eb = true ∧ mE pr c me ec = true ∧ noSet ec = true := by
  match ops, cs, mh with
  | [p1, p2], [eb, ec], mh =>
    have mh : (copM o1 p1 && copM o2 p2 && mE pr a me ea && mE pr b me eb && mE pr c me ec && noSet ec) = true := mh
    simp only [Bool.and_eq_true] at mh
    obtain ⟨⟨⟨⟨⟨m1, m1'⟩, m2⟩, m3⟩, m5⟩, m4⟩ := mh
    exact ⟨p1, p2, eb, ec, rfl, rfl, m1, m1', m2, m3, m5, m4⟩
  | [], _, mh => exact Bool.noConfusion mh
  | [_], _, mh => exact Bool.noConfusion mh
  | [_, _], [], mh => exact Bool.noConfusion mh
  | [_, _], [_], mh => exact Bool.noConfusion mh
  | [_, _], _ :: _ :: _ :: _, mh => exact Bool.noConfusion mh
  | _ :: _ :: _ :: _, _, mh => exact Bool.noConfusion mh
theorem st_chain (o1 o2 : COp) {a b c : E} (ha : SE pr n a) (hb : SE pr n b) (hc : SE pr n c) : ST pr n (.chain o1 o2 a b c) := by
  intro me X W e env L k z Hb H ad σ Q C tk mh h R E Z hk
  cases e <;> first | exact Bool.noConfusion mh | skip
  obtain ⟨p1, p2, eb, ec, rfl, rfl, m1, m1', m2, m3, m5, m4⟩ := chainT_form mh
  unfold wpT at h
  have h' : wpE (Gam pr n) pr.gc (.chain o1 o2 a b c) false env L (ofB k) z := by unfold wpE; exact h
  exact wT.by (pt_chain rW.op rW.op wX.pe wX.pe wX.pe (lm2 m4)) (chain_run ha hb hc C tk m1 m1' m2 m3 m5 h' R E Z fun b L' Hb' H' ad' hb R' s' => ⟨b, rfl, hk b L' Hb' H' ad' hb R' s'⟩)
/-- the reading of a truth value -/
theorem and_run {me : Me} {X : Cx} {W : WX} {a b : E} {ea : Expr} {tb : TE} {env : Env} {L : Tab} {k : KV} {z : Xn → Tab → Prop} {Hb H : Hp} {ad : List Addr} {σ : St} {Q : VK} (ha : SE pr n a) (C : Ctx pr n me X) (tk : Takes X W) (ma : mE pr a me ea = true)
    (h : wpE (Gam pr n) pr.gc (.and a b) false env L k z) (R : Rel pr.G Hb H ad L) (E : EnvR pr.G Hb ad env σ) (Z : ZOk pr.G z W σ Hb H ad) (hk : KOk pr.G k Q Hb H ad)
    (hb : ∀ L1 Hb1 H1 ad1, wpE (Gam pr n) pr.gc b false env L1 k z → Rel pr.G Hb1 H1 ad1 L1 → Stp Hb H ad Hb1 H1 ad1 → tb σ H1 Q) : tAndV (wX X ea) tb σ H Q := by
  unfold wpE at h
  refine ha C tk ma h R E Z fun v x L1 Hb1 H1 ad1 hh R1 s1 r1 => ?_
  cases x <;> first | exact hh.elim | skip
  rename_i x
  cases x <;> first | exact hh.elim | skip
  rename_i c
  cases (show Rep pr.G Hb1 v (.bl c) from r1)
  refine ⟨c, rfl, ?_⟩
  cases c with
  | true => rw [if_pos rfl]; exact hb L1 Hb1 H1 ad1 (hh.1 rfl) R1 s1
  | false => rw [if_neg Bool.false_ne_true]; exact hk _ _ _ _ _ _ (hh.2 rfl) R1 s1 (.bl false)
theorem or_run {me : Me} {X : Cx} {W : WX} {a b : E} {ea : Expr} {tb : TE} {env : Env} {L : Tab} {k : KV} {z : Xn → Tab → Prop} {Hb H : Hp} {ad : List Addr} {σ : St} {Q : VK} (ha : SE pr n a) (C : Ctx pr n me X) (tk : Takes X W) (ma : mE pr a me ea = true)
    (h : wpE (Gam pr n) pr.gc (.or a b) false env L k z) (R : Rel pr.G Hb H ad L) (E : EnvR pr.G Hb ad env σ) (Z : ZOk pr.G z W σ Hb H ad) (hk : KOk pr.G k Q Hb H ad)
    (hb : ∀ L1 Hb1 H1 ad1, wpE (Gam pr n) pr.gc b false env L1 k z → Rel pr.G Hb1 H1 ad1 L1 → Stp Hb H ad Hb1 H1 ad1 → tb σ H1 Q) : tOrV (wX X ea) tb σ H Q := by
  unfold wpE at h
  refine ha C tk ma h R E Z fun v x L1 Hb1 H1 ad1 hh R1 s1 r1 => ?_
  cases x <;> first | exact hh.elim | skip
  rename_i x
  cases x <;> first | exact hh.elim | skip
  rename_i c
  cases (show Rep pr.G Hb1 v (.bl c) from r1)
  refine ⟨c, rfl, ?_⟩
  cases c with
  | true => rw [if_pos rfl]; exact hk _ _ _ _ _ _ (hh.1 rfl) R1 s1 (.bl true)
  | false => rw [if_neg Bool.false_ne_true]; exact hb L1 Hb1 H1 ad1 (hh.2 rfl) R1 s1
theorem se_and {a b : E} (ha : SE pr n a) (hb : SE pr n b) : SE pr n (.and a b) := by
  intro me X W e m env L k z Hb H ad σ Q C tk mh h R E Z hk
  cases e <;> first | exact Bool.noConfusion mh | skip
  rename_i o es pos
  cases o <;> first | exact Bool.noConfusion mh | skip
  have h' : wpE (Gam pr n) pr.gc (.and a b) false env L k z := by unfold wpE at h ⊢; exact h
  match es, mh with
  | [ea, eb], mh =>
    have mh : (mE pr a me ea && mE pr b me eb) = true := mh
    simp only [Bool.and_eq_true] at mh
    exact wX.by (pe_and wX.pe (pe_one wX.pe)) (and_run ha C tk mh.1 h' R E Z hk fun L1 Hb1 H1 ad1 h1 R1 s1 => hb C tk mh.2 h1 R1 (E.step s1) (Z.step s1) (hk.step s1))
  | ea :: eb :: ec :: es, mh =>
    have mh : (mE pr a me ea && mE pr b me (.BoolOp .And (eb :: ec :: es) pos)) = true := mh
    simp only [Bool.and_eq_true] at mh
    exact wX.by (pe_and wX.pe wX.pe) (and_run ha C tk mh.1 h' R E Z hk fun L1 Hb1 H1 ad1 h1 R1 s1 => hb C tk mh.2 h1 R1 (E.step s1) (Z.step s1) (hk.step s1))
  | [], mh => exact Bool.noConfusion mh
  | [_], mh => exact Bool.noConfusion mh
theorem se_or {a b : E} (ha : SE pr n a) (hb : SE pr n b) : SE pr n (.or a b) := by
  intro me X W e m env L k z Hb H ad σ Q C tk mh h R E Z hk
  cases e <;> first | exact Bool.noConfusion mh | skip
  rename_i o es pos
  cases o <;> first | exact Bool.noConfusion mh | skip
  have h' : wpE (Gam pr n) pr.gc (.or a b) false env L k z := by unfold wpE at h ⊢; exact h
  match es, mh with
  | [ea, eb], mh =>
    have mh : (mE pr a me ea && mE pr b me eb) = true := mh
    simp only [Bool.and_eq_true] at mh
    exact wX.by (pe_or wX.pe (pe_one wX.pe)) (or_run ha C tk mh.1 h' R E Z hk fun L1 Hb1 H1 ad1 h1 R1 s1 => hb C tk mh.2 h1 R1 (E.step s1) (Z.step s1) (hk.step s1))
  | ea :: eb :: ec :: es, mh =>
    have mh : (mE pr a me ea && mE pr b me (.BoolOp .Or (eb :: ec :: es) pos)) = true := mh
    simp only [Bool.and_eq_true] at mh
    exact wX.by (pe_or wX.pe wX.pe) (or_run ha C tk mh.1 h' R E Z hk fun L1 Hb1 H1 ad1 h1 R1 s1 => hb C tk mh.2 h1 R1 (E.step s1) (Z.step s1) (hk.step s1))
  | [], mh => exact Bool.noConfusion mh
  | [_], mh => exact Bool.noConfusion mh
theorem se_not {a : E} (ha : SE pr n a) : SE pr n (.not a) := by
  intro me X W e m env L k z Hb H ad σ Q C tk mh h R E Z hk
  cases e <;> first | exact Bool.noConfusion mh | skip
  rename_i o ea pos
  cases o <;> first | exact Bool.noConfusion mh | skip
  have mh : mE pr a me ea = true := mh
  unfold wpE at h
  refine wX.by (pe_not wX.pe) ?_
  refine ha C tk mh h R E Z fun v x L1 Hb1 H1 ad1 hh R1 s1 r1 => ?_
  cases x <;> first | exact hh.elim | skip
  rename_i x
  cases x <;> first | exact hh.elim | skip
  rename_i c
  cases (show Rep pr.G Hb1 v (.bl c) from r1)
  exact ⟨c, rfl, hk _ _ _ _ _ _ hh R1 s1 (.bl _)⟩
theorem se_ife {c : T} {a b : E} (hc : ST pr n c) (ha : SE pr n a) (hb : SE pr n b) : SE pr n (.ife c a b) := by
  intro me X W e m env L k z Hb H ad σ Q C tk mh h R E Z hk
  cases e <;> first | exact Bool.noConfusion mh | skip
  rename_i ec ea eb pos
  have mh : (mT pr c me ec && mE pr a me ea && mE pr b me eb) = true := mh
  simp only [Bool.and_eq_true] at mh
  unfold wpE at h
  refine wX.by (pe_ifExp wT.pt wX.pe wX.pe) ?_
  refine hc C tk mh.1.1 h R E Z fun r L1 Hb1 H1 ad1 hh R1 s1 => ?_
  cases r with
  | true => rw [if_pos rfl]; exact ha C tk mh.1.2 (hh.1 rfl) R1 (E.step s1) (Z.step s1) (hk.step s1)
  | false => rw [if_neg Bool.false_ne_true]; exact hb C tk mh.2 (hh.2 rfl) R1 (E.step s1) (Z.step s1) (hk.step s1)
end
end PD

namespace PD
open PySem L2
section
variable {pr : Pr} {n : Nat}
theorem ses_nil : SEs pr n .nil := by
  intro me X W es env L k z Hb H ad σ Q C tk mh h R E Z hk
  cases es with
  | cons _ _ => exact Bool.noConfusion mh
  | nil =>
    unfold wpEs at h
    exact wA.by pa_nil (hk [] [] L Hb H ad h R Stp.refl .nil)
theorem ses_cons {a : E} {as : Es} (ha : SE pr n a) (hs : SEs pr n as) : SEs pr n (.cons a as) := by
  intro me X W es env L k z Hb H ad σ Q C tk mh h R E Z hk
  cases es with
  | nil => exact Bool.noConfusion mh
  | cons e es =>
    have mh : (noStar e && mE pr a me e && mEs pr as me es) = true := mh
    simp only [Bool.and_eq_true] at mh
    unfold wpEs at h
    refine wA.by (pa_cons wX.pe wA.pa (star_of mh.1.1)) ?_
    refine ha C tk mh.1.2 h R E Z fun v x L1 Hb1 H1 ad1 hh R1 s1 r1 => ?_
    exact hs C tk mh.2 hh R1 (E.step s1) (Z.step s1) fun vs xs L2 Hb2 H2 ad2 h2 R2 s2 r2 => hk _ _ _ _ _ _ h2 R2 (s1.trans s2) (.cons (r1.step s2) r2)
/-! ### calls -/
theorem bi_name : ∀ f : Bi, biN f ∈ bltNames := by intro f; cases f <;> simp [biN, bltNames]
theorem bi_boot : ∀ f : Bi, bootBuiltins (biN f) = some (biV f) := by intro f; cases f <;> decide +kernel
theorem bi_ne : ∀ f : Bi, biN f ≠ ("__name__" : Str) ∧ (biN f == ("__debug__" : Str)) = false := by intro f; cases f <;> decide +kernel
theorem se_bi (f : Bi) {as : Es} (hs : SEs pr n as) : SE pr n (.bi f as) := by
  intro me X W e m env L k z Hb H ad σ Q C tk mh h R E Z hk
  cases e <;> first | exact Bool.noConfusion mh | skip
  rename_i ef es kws pos
  cases ef <;> first | exact Bool.noConfusion mh | skip
  rename_i x p
  match es, kws, mh with
  | e :: es, [], mh =>
    have mh : (decide (x = biN f) && glB me.sc x && mEs pr as me (e :: es)) = true := mh
    simp only [Bool.and_eq_true, decide_eq_true_eq] at mh
    obtain ⟨⟨rfl, m2⟩, m3⟩ := mh
    have st : noStar e = true := by
      cases as with
      | nil => exact Bool.noConfusion m3
      | cons a as => have m3' : (noStar e && mE pr a me e && mEs pr as me es) = true := m3; simp only [Bool.and_eq_true] at m3'; exact m3'.1.1
    have pl : (backTo pos (starEach es X.env)).any (·.1) = false := by
      cases as with
      | nil => exact Bool.noConfusion m3
      | cons a as => have m3' : (noStar e && mE pr a me e && mEs pr as me es) = true := m3; simp only [Bool.and_eq_true] at m3'; exact stars_of m3'.2
    unfold wpE at h
    have bt := bi_boot f
    have gl := gl_of (X := X) C.sc m2
    have nn := C.blt _ (bi_name f)
    have fin : tCB (rC X (biV f)) (wA X (e :: es)) σ H Q := hs C tk m3 h R E Z fun vs xs L1 Hb1 H1 ad1 hh R1 s1 r1 => by
      cases q1 : dens L1 xs with
      | none => simp only [q1] at hh
      | some ds =>
        simp only [q1] at hh
        exact biD_ok C hh R1 (hk.step s1) (RepSs.dens (vs := []) R1 r1 q1)
    cases f <;> first
      | exact wX.by (pe_callB rC.c gl nn bt wA.pa (bi_ne _).1 (bi_ne _).2 (star_of st) pl) fin
      | exact wX.by (pe_callTy rC.c gl nn bt wA.pa (bi_ne _).1 (bi_ne _).2 (star_of st) pl) fin
  | [], _, mh => exact Bool.noConfusion mh
  | _ :: _, _ :: _, mh => exact Bool.noConfusion mh
theorem RepSs.rep {G : Gs} {Hb H : Hp} {ad : List Addr} {L : Tab} (R : Rel G Hb H ad L) : ∀ {vs : List V} {svs : List SV} {ds : List D}, RepSs G Hb ad vs svs → PD.dens L svs = some ds → svs.any (owned L) = false → RepL G Hb vs ds
  | _, _, ds, .nil, e, _ => by cases e; exact .nil
  | _, sv :: svs, ds, .cons r t, e, o => by
    rw [List.any_cons, Bool.or_eq_false_iff] at o
    unfold PD.dens at e
    cases q : den L sv with
    | none => simp only [q] at e; cases e
    | some x =>
      cases q2 : PD.dens L svs with
      | none => simp only [q, q2] at e; cases e
      | some xs =>
        simp only [q, q2] at e
        cases e
        refine .cons ?_ (RepSs.rep R t q2 o.2)
        cases sv with
        | d y => cases q; exact r
        | c j =>
          obtain ⟨a, h1, rfl⟩ := r
          cases q3 : L[j]? with
          | none => rw [den_no q3] at q; cases q
          | some ct =>
            rw [den_c q3] at q
            cases q
            cases ct with
            | fz y => exact R.fz j y a q3 h1
            | lst ds => have := o.1; simp only [owned, q3] at this; cases this
            | ob u => have := o.1; simp only [owned, q3] at this; cases this
/-- the base with all own lists lent to it -/
noncomputable def lent (Hb H : Hp) (ad : List Addr) (L : Tab) : Hp := fun b => by
  classical exact if ∃ (j : Nat) (ct : Ct), L[j]? = some ct ∧ ct.live = true ∧ ad[j]? = some b then H b else Hb b
section
variable {G : Gs} {Hb H : Hp} {ad : List Addr} {L : Tab}
theorem lent_cell {j : Nat} {ct : Ct} {b : Addr} (h : L[j]? = some ct) (lv : ct.live = true) (h' : ad[j]? = some b) : lent Hb H ad L b = H b := by
  unfold lent
  rw [if_pos ⟨j, ct, h, lv, h'⟩]
theorem lent_base (R : Rel G Hb H ad L) : Same Hb (lent Hb H ad L) := fun b o h => by
  unfold lent
  rw [if_neg]
  · exact h
  · rintro ⟨j, ct, h1, lv, h2⟩
    have := (R.own j ct b h1 h2 lv).1
    rw [h] at this; cases this
theorem lent_heap (R : Rel G Hb H ad L) : Same (lent Hb H ad L) H := fun b o h => by
  unfold lent at h
  split at h
  · exact h
  · exact R.ext b o h
theorem RepSs.lent (R : Rel G Hb H ad L) : ∀ {vs : List V} {svs : List SV} {ds : List D}, RepSs G Hb ad vs svs → PD.dens L svs = some ds → RepL G (PD.lent Hb H ad L) vs ds
  | _, _, ds, .nil, e => by cases e; exact .nil
  | _, sv :: svs, ds, .cons r t, e => by
    unfold PD.dens at e
    cases q : den L sv with
    | none => simp only [q] at e; cases e
    | some x =>
      cases q2 : PD.dens L svs with
      | none => simp only [q, q2] at e; cases e
      | some xs =>
        simp only [q, q2] at e
        cases e
        refine .cons ?_ (RepSs.lent R t q2)
        cases sv with
        | d y => cases q; exact Rep.mono (lent_base R) r
        | c j =>
          obtain ⟨a, h1, rfl⟩ := r
          cases q3 : L[j]? with
          | none => rw [den_no q3] at q; cases q
          | some ct =>
            rw [den_c q3] at q
            cases q
            cases lv : ct.live with
            | true =>
              obtain ⟨_, oo, h2, h3⟩ := R.own j ct a q3 h1 lv
              exact (h3.mono (lent_base R)).rep (by rw [lent_cell q3 lv h1]; exact h2)
            | false =>
              cases ct with
              | fz y => exact (R.fz j y a q3 h1).mono (lent_base R)
              | lst ds => cases lv
              | ob u => cases lv
/-- a base without the own objects -/
noncomputable def less (Hb' H : Hp) (ad : List Addr) (L : Tab) : Hp := fun b => by
  classical exact if ∃ (j : Nat) (ct : Ct), L[j]? = some ct ∧ ct.live = true ∧ ad[j]? = some b then none else Hb' b
theorem less_cell {Hb' : Hp} {j : Nat} {ct : Ct} {b : Addr} (h : L[j]? = some ct) (lv : ct.live = true) (h' : ad[j]? = some b) : less Hb' H ad L b = none := by
  unfold less
  rw [if_pos ⟨j, ct, h, lv, h'⟩]
theorem less_other {Hb' : Hp} {b : Addr} (h : ∀ (j : Nat) (ct : Ct), L[j]? = some ct → ct.live = true → ad[j]? ≠ some b) : less Hb' H ad L b = Hb' b := by
  unfold less
  rw [if_neg (fun ⟨j, ct, x1, x2, x3⟩ => h j ct x1 x2 x3)]
theorem less_le {Hb' : Hp} : Same (less Hb' H ad L) Hb' := fun b o h => by
  unfold less at h
  split at h
  · cases h
  · exact h
/-- lists that are not empty, and do not begin by a text, are none of the own ones -/
def Apart (G : Gs) (Hb' Hl : Hp) : Prop := ∀ a vs d ds, Hb' a = some (.lst vs) → RepL G Hb' vs (d :: ds) → (∀ s, d ≠ .str s) → Hl a = some (.lst vs)
theorem noLent {Hb' H' : Hp} (R : Rel G Hb H ad L) (cs : L.all Ct.strs = true) (sb : Same (lent Hb H ad L) Hb') : Apart G Hb' (less Hb' H ad L) := fun a vs d ds h r nd => by
  by_cases q : ∃ (j : Nat) (ct : Ct), L[j]? = some ct ∧ ct.live = true ∧ ad[j]? = some a
  · obtain ⟨j, ct, x1, x2, x3⟩ := q
    have c1 := List.all_eq_true.mp cs ct (List.mem_of_getElem? x1)
    obtain ⟨_, oo, h2, h3⟩ := R.own j ct a x1 x3 x2
    have e1 : Hb' a = some oo := sb a oo (by rw [lent_cell x1 x2 x3]; exact h2)
    rw [h] at e1
    cases e1
    cases ct with
    | fz _ => cases x2
    | ob _ => cases c1
    | lst es =>
      have h3 : RepL G Hb vs es := h3
      cases r with
      | cons r1 r2 =>
        cases h3 with
        | cons t1 t2 =>
          rename_i e es
          cases e <;> first | (cases c1; done) | skip
          cases t1
          cases r1
          exact absurd rfl (nd _)
  · rw [less_other fun j ct x1 x2 x3 => q ⟨j, ct, x1, x2, x3⟩]
    exact h
mutual
theorem Rep.less {Hb' Hl : Hp} (hn : Apart G Hb' Hl) : ∀ {v : V} {d : PD.D}, d.noS = true → Rep G Hb' v d → Rep G Hl v d
  | _, .non, _, r => Rep.ofFlat rfl r Hl
  | _, .bl _, _, r => Rep.ofFlat rfl r Hl
  | _, .int _, _, r => Rep.ofFlat rfl r Hl
  | _, .str _, _, r => Rep.ofFlat rfl r Hl
  | _, .lst [], f, _ => Bool.noConfusion f
  | _, .lst (d :: ds), f, r => by
    unfold D.noS at f
    rw [Bool.and_eq_true] at f
    cases r with
    | lst h1 h2 => exact .lst (hn _ _ _ _ h1 h2 fun s e => by subst e; exact Bool.noConfusion f.1) (RepL.less hn f.2 h2)
  | _, .tup _, f, _ => Bool.noConfusion f
  | _, .scr _, f, _ => Bool.noConfusion f
  | _, .dct _, f, _ => Bool.noConfusion f
  | _, .kst _, f, _ => Bool.noConfusion f
  | _, .obj _ _, f, _ => Bool.noConfusion f
theorem RepL.less {Hb' Hl : Hp} (hn : Apart G Hb' Hl) : ∀ {vs : List V} {ds : List PD.D}, noSs ds = true → RepL G Hb' vs ds → RepL G Hl vs ds
  | _, [], _, .nil => .nil
  | _, d :: ds, f, .cons r t => by
    unfold noSs at f
    rw [Bool.and_eq_true] at f
    exact .cons (Rep.less hn f.1 r) (RepL.less hn f.2 t)
end
/-- what comes back as a new list -/
theorem back_new {m : Bool} {ds : List D} {k : KV} {Q : VK} {Hb1 H1 : Hp} {a : Addr} {vs : List V} (h : mkL m ds L k) (R : Rel G Hb H ad L) (sb : Same Hb Hb1) (sh : Same H H1) (sx : Same Hb1 H1) (bs : ∀ a, Hb a = none → Hb1 a ≠ none → H a = none)
    (hk : KOk G k Q Hb H ad) (ha : H a = none) (hb : Hb1 a = none) (e : H1 a = some (.lst vs)) (r : RepL G Hb1 vs ds) : Q (.ref a) H1 := by
  have e2 : upd (fun b => if b = a then none else H1 b) a (.lst vs) = H1 := by
    funext b
    unfold upd
    by_cases q : b = a
    · rw [if_pos q, q, e]
    · rw [if_neg q]; simp only [if_neg q]
  have n1 : ∀ {b : Addr} {o : HO}, H b = some o → b ≠ a := fun {b o} h z => by rw [z, ha] at h; cases h
  have n2 : ∀ {b : Addr} {o : HO}, Hb1 b = some o → b ≠ a := fun {b o} h z => by rw [z, hb] at h; cases h
  obtain ⟨R1, s1⟩ := R.after (H1 := fun b => if b = a then none else H1 b) sb (fun b o h => by simp only [if_neg (n1 h)]; exact sh b o h) (fun b o h => by simp only [if_neg (n2 h)]; exact sx b o h) bs
  have q := mkL_ok h R1 (hk.step s1) r (p := a) (by simp)
  rw [e2] at q
  exact q
end
theorem call_run {me : Me} {X : Cx} {W : WX} {f : Nat} {m : Bool} {L : Tab} {k : KV} {z : Xn → Tab → Prop} {Hb H : Hp} {ad : List Addr} {σ : St} {Q : VK} {vs : List V} {xs : List SV} {ds : List D}
    (hh : Gam pr n f ds (fun r => (xs.any (owned L) = true → r.flat = true ∨ (r.noS = true ∧ L.all Ct.strs = true)) ∧ rsK m L k r) (fun x => z x L))
    (R : Rel pr.G Hb H ad L) (Z : ZOk pr.G z W σ Hb H ad) (hk : KOk pr.G k Q Hb H ad) (r : RepSs pr.G Hb ad vs xs) (q : dens L xs = some ds) :
    spF pr.G (wpF pr.fn pr.gc n) f vs H Q (WE W σ) := by
  have exc : ∀ x cls d H', z x L → Same H H' → XRep pr.G H' x cls d → WE W σ cls d H' := fun x cls d H' hz sh xr => by
    obtain ⟨R2, s2⟩ := R.after (Hb1 := Hb) (Same.refl _) sh (R.ext.trans sh) (fun a h h' => absurd h h')
    exact Z x cls d L Hb H' ad hz R2 s2 xr
  cases o : xs.any (owned L) with
  | false =>
    refine ⟨ds, Hb, _, _, hh, R.ext, RepSs.rep R r q o, fun r v Hb' H' kr sb sh sx bs bk => ?_, exc⟩
    cases r with
    | v x =>
      obtain ⟨R1, s1⟩ := R.after sb sh sx bs
      exact hk _ (.d x) _ _ _ _ kr.2 R1 s1 bk
    | new es =>
      obtain ⟨a, ws, rfl, h1, h2, h3, h4⟩ := bk
      exact back_new kr.2 R sb sh sx bs hk h1 h2 h3 h4
  | true =>
    rw [o] at hh
    refine ⟨ds, PD.lent Hb H ad L, _, _, hh, lent_heap R, RepSs.lent R r q, fun r v Hb' H' kr sb sh sx bs bk => ?_, exc⟩
    rcases kr.1 rfl with fl | ⟨fl, cs⟩
    case inr =>
      have hn := noLent (Hb' := Hb') (H' := H') R cs sb
      have s1 : Same Hb (less Hb' H ad L) := fun b w hb => by
        rw [less_other fun j ct h1 lv h2 => by have := (R.own j ct b h1 h2 lv).1; rw [hb] at this; cases this]
        exact sb b w (lent_base R b w hb)
      have s2 : Same (less Hb' H ad L) H' := fun b w hb => sx b w (less_le b w hb)
      have s3 : ∀ a, Hb a = none → less Hb' H ad L a ≠ none → H a = none := fun a h1 h2 => by
        have no : ∀ (j : Nat) (ct : Ct), L[j]? = some ct → ct.live = true → ad[j]? ≠ some a := fun j ct x1 x2 x3 => h2 (less_cell x1 x2 x3)
        have e1 : PD.lent Hb H ad L a = none := by
          unfold PD.lent
          rw [if_neg (fun ⟨j, ct, x1, x2, x3⟩ => no j ct x1 x2 x3)]
          exact h1
        rw [less_other no] at h2
        exact bs a e1 h2
      cases r with
      | v x =>
        obtain ⟨R1, t1⟩ := R.after s1 sh s2 s3
        exact hk _ (.d x) _ _ _ _ kr.2 R1 t1 (Rep.less hn fl bk)
      | new es =>
        obtain ⟨a, ws, rfl, h1, h2, h3, h4⟩ := bk
        exact back_new kr.2 R s1 sh s2 s3 hk h1 (by
          cases e : less Hb' H ad L a with
          | none => rfl
          | some o => have := less_le a o e; rw [h2] at this; cases this) h3 (RepL.less hn fl h4)
    cases r with
    | v x =>
      obtain ⟨R1, s1⟩ := R.after (Hb1 := Hb) (Same.refl _) sh (R.ext.trans sh) (fun a h h' => absurd h h')
      exact hk _ (.d x) _ _ _ _ kr.2 R1 s1 (Rep.ofFlat fl bk Hb)
    | new es =>
      obtain ⟨a, ws, rfl, h1, h2, h3, h4⟩ := bk
      refine back_new kr.2 R (Same.refl _) sh (R.ext.trans sh) (fun a h h' => absurd h h') hk h1 ?_ h3 (RepL.ofFlat Hb fl h4)
      cases e : Hb a with
      | none => rfl
      | some o => rw [R.ext a o e] at h1; cases h1
theorem se_call (f : Nat) {as : Es} (hs : SEs pr n as) : SE pr n (.call f as) := by
  intro me X W e m env L k z Hb H ad σ Q C tk mh h R E Z hk
  cases e <;> first | exact Bool.noConfusion mh | skip
  rename_i ef es kws pos
  cases ef <;> first | exact Bool.noConfusion mh | skip
  rename_i x p
  match es, kws, mh with
  | e :: es, [], mh =>
    have mh : (decide (x = pr.nm f) && glB me.sc x && dbgB x && isFn pr f && mEs pr as me (e :: es)) = true := mh
    simp only [Bool.and_eq_true, decide_eq_true_eq] at mh
    obtain ⟨⟨⟨⟨rfl, m2⟩, m4⟩, m5⟩, m3⟩ := mh
    have st : noStar e = true := by
      cases as with
      | nil => exact Bool.noConfusion m3
      | cons a as => have m3' : (noStar e && mE pr a me e && mEs pr as me es) = true := m3; simp only [Bool.and_eq_true] at m3'; exact m3'.1.1
    have pl : (backTo pos (starEach es X.env)).any (·.1) = false := by
      cases as with
      | nil => exact Bool.noConfusion m3
      | cons a as => have m3' : (noStar e && mE pr a me e && mEs pr as me es) = true := m3; simp only [Bool.and_eq_true] at m3'; exact stars_of m3'.2
    unfold wpE at h
    cases hf : pr.fn f with
    | none => unfold isFn at m5; rw [hf] at m5; cases m5
    | some F =>
      obtain ⟨a, fd, g1, g3, g4⟩ := C.fns f F hf
      unfold isFn at m5
      rw [hf] at m5
      have m6 : (match F.kd with | .fn => true | _ => false) = true := m5
      unfold Gd at g1
      unfold spG at g4
      cases hk2 : F.kd <;> simp only [hk2] at m6 g1 g4 <;> first | exact Bool.noConfusion m6 | skip
      obtain ⟨g1, g2⟩ := g1
      refine wX.by (pe_callS g4 (C.room.mono (by omega)) (gl_of C.sc m2) g1 g2 g3 (fun σ => passAt tk σ) wA.pa (dbg_of m4).1 (star_of st) pl) ?_
      refine hs C tk m3 h R E Z fun vs xs L1 Hb1 H1 ad1 hh R1 s1 r1 => ?_
      cases q1 : dens L1 xs with
      | none => simp only [q1] at hh
      | some ds =>
        simp only [q1] at hh
        exact call_run (me := me) (X := X) hh R1 (Z.step s1) (hk.step s1) r1 q1
  | [], _, mh => exact Bool.noConfusion mh
  | _ :: _, _ :: _, mh => exact Bool.noConfusion mh
theorem RepF.no {G : Gs} {Hb : Hp} {m : Str} (hm : ∀ g, g < 64 → m ≠ G.fN g) : ∀ {gs : List (Str × V)} {fs : List (Nat × PD.D)}, RepF G Hb gs fs → fs.all (fun p => decide (p.1 < 64)) = true → gs.lookup m = none
  | _, _, .nil, _ => rfl
  | _, _, .cons (f := f) r t, h => by
    rw [List.all_cons, Bool.and_eq_true, decide_eq_true_eq] at h
    have e : (m == G.fN f) = false := beq_eq_false_iff_ne.mpr (hm f h.1)
    rw [List.lookup_cons, e]
    exact RepF.no hm t h.2
theorem RepF.get {G : Gs} {Hb : Hp} {f : Nat} {d : PD.D} (inj : ∀ f g, f < 64 → g < 64 → G.fN f = G.fN g → f = g) : ∀ {gs : List (Str × V)} {fs : List (Nat × PD.D)}, RepF G Hb gs fs → fs.all (fun p => decide (p.1 < 64)) = true → f < 64 → fs.lookup f = some d →
    ∃ v, gs.lookup (G.fN f) = some v ∧ Rep G Hb v d
  | _, _, .nil, _, _, e => by cases e
  | _, _, .cons (f := g) (v := v) r t, h, hf, e => by
    rw [List.all_cons, Bool.and_eq_true, decide_eq_true_eq] at h
    rw [List.lookup_cons] at e
    by_cases q : f = g
    · subst q
      rw [beq_self_eq_true] at e
      cases e
      exact ⟨v, by rw [List.lookup_cons, beq_self_eq_true], r⟩
    · rw [beq_eq_false_iff_ne.mpr q] at e
      obtain ⟨w, h1, h2⟩ := RepF.get inj t h.2 hf e
      exact ⟨w, by rw [List.lookup_cons, beq_eq_false_iff_ne.mpr (fun z => q (inj _ _ hf h.1 z))]; exact h1, h2⟩
theorem lookup_lt {fs : List (Nat × PD.D)} {f : Nat} {d : PD.D} (h : fs.all (fun p => decide (p.1 < 64)) = true) (e : fs.lookup f = some d) : f < 64 := by
  induction fs with
  | nil => cases e
  | cons p t ih =>
    rw [List.all_cons, Bool.and_eq_true, decide_eq_true_eq] at h
    obtain ⟨g, x⟩ := p
    rw [List.lookup_cons] at e
    by_cases q : f = g
    · subst q; exact h.1
    · rw [beq_eq_false_iff_ne.mpr q] at e
      exact ih h.2 e
theorem se_fld (c : Nat) {a : E} (f : Nat) (ha : SE pr n a) : SE pr n (.fld c a f) := by
  intro me X W e m env L k z Hb H ad σ Q C tk mh h R E Z hk
  cases e <;> first | exact Bool.noConfusion mh | skip
  rename_i ea x pos
  have mh : (decide (x = pr.G.fN f) && pr.fo c f && noCall ea && mE pr a me ea) = true := mh
  simp only [Bool.and_eq_true, decide_eq_true_eq] at mh
  obtain ⟨⟨⟨rfl, m1⟩, m2⟩, m3⟩ := mh
  unfold wpE at h
  refine wX.by (pe_fld wX.pe (base_of m2)) ?_
  refine ha C tk m3 h R E Z fun v sv L1 Hb1 H1 ad1 hh R1 s1 r1 => ?_
  cases q : den L1 sv with
  | none => simp only [q] at hh
  | some u =>
    simp only [q] at hh
    cases u <;> first | exact hh.elim | skip
    rename_i c' fs
    obtain ⟨rfl, d, h1, h2, q2⟩ := hh
    obtain ⟨b, dx, gs, rfl, h3, h4⟩ := (R1.read r1 q).obj R1.ext
    obtain ⟨w, h5, h6⟩ := h4.get C.cs.inj h2 (lookup_lt h2 h1) h1
    obtain ⟨k1, k2⟩ := C.cs.fo c' f m1
    exact ⟨b, _, dx, gs, w, rfl, h3, k1, k2, h5, hk.step s1 w (.d d) _ _ _ _ q2 R1 Stp.refl h6⟩
theorem se_setlen {a : E} (ha : SE pr n a) : SE pr n (.setlen a) := by
  intro me X W e m env L k z Hb H ad σ Q C tk mh h R E Z hk
  cases e <;> first | exact Bool.noConfusion mh | skip
  rename_i ef es kws pos
  cases ef <;> first | exact Bool.noConfusion mh | skip
  rename_i x p
  rcases es with _ | ⟨ec, es⟩ <;> first | exact Bool.noConfusion mh | skip
  cases ec <;> first | exact Bool.noConfusion mh | skip
  rename_i ef2 es2 kws2 pos2
  cases ef2 <;> first | exact Bool.noConfusion mh | skip
  rcases es2 with _ | ⟨e, _ | ⟨_, _⟩⟩ <;> first | exact Bool.noConfusion mh | skip
  rcases kws2 with _ | ⟨_, _⟩ <;> first | exact Bool.noConfusion mh | skip
  rcases es with _ | ⟨_, _⟩ <;> first | exact Bool.noConfusion mh | skip
  rcases kws with _ | ⟨_, _⟩ <;> first | exact Bool.noConfusion mh | skip
  rename_i y p2
  have mh : (decide (x = ("len" : Str)) && glB me.sc x && decide (y = ("set" : Str)) && glB me.sc y && noStar e && mE pr a me e) = true := mh
  simp only [Bool.and_eq_true, decide_eq_true_eq] at mh
  obtain ⟨⟨⟨⟨⟨rfl, m1⟩, rfl⟩, m2⟩, m3⟩, m4⟩ := mh
  unfold wpE at h
  refine wX.by (pe_lenSet C.calm (gl_of C.sc m1) (C.blt _ (by simp [bltNames])) (gl_of C.sc m2) (C.blt _ (by simp [bltNames])) wX.pe (star_of m3)) ?_
  refine ha C tk m4 h R E Z fun v sv L1 Hb1 H1 ad1 hh R1 s1 r1 => ?_
  cases q : den L1 sv with
  | none => simp only [q] at hh
  | some u =>
    simp only [q] at hh
    cases u <;> first | exact hh.elim | skip
    rename_i s
    have := (R1.read r1 q).str
    subst this
    exact ⟨s, rfl, by have := hh.1; show s.length + 1 < 4096; omega, hk.step s1 _ (.d _) _ _ _ _ hh.2 R1 Stp.refl (.int _)⟩
theorem form_of {e : Expr} {es : List Expr} {pr : Pr} {me : Me} {as : Es} {env : PySem.Env} {pos : Pos} (m : mEs pr as me (e :: es) = true) (l : (e :: es).length < 30) :
    methodCallForm ((e :: es).length + ([] : List Keyword).length) (backTo pos (starEach (e :: es) env)) (backToKw pos (keywordEach [] env)) = true ∧ noStar e = true ∧ (backTo pos (starEach es env)).any (·.1) = false := by
  cases as with
  | nil => exact Bool.noConfusion m
  | cons a as =>
    have m' : (noStar e && mE pr a me e && mEs pr as me es) = true := m
    simp only [Bool.and_eq_true] at m'
    have pl : (backTo pos (starEach es env)).any (·.1) = false := stars_of m'.2
    refine ⟨?_, m'.1.1, pl⟩
    unfold methodCallForm
    rw [star_of m'.1.1]
    have pa : (backTo pos (starEach es env)).all (fun x => !x.1) = true := by
      rw [List.all_eq_not_any_not]
      simp only [Bool.not_not]
      rw [pl]; rfl
    have e1 : (backTo pos ((false, eval e env) :: starEach es env)).all (fun x => !x.1) = true := by
      show ((!false) && (backTo pos (starEach es env)).all (fun x => !x.1)) = true
      rw [pa]; rfl
    rw [e1]
    have e2 : decide ((e :: es).length + ([] : List Keyword).length + (if (backToKw pos (keywordEach [] env)).isEmpty then 0 else 1) < 30) = true := by
      rw [decide_eq_true_eq]
      have : (backToKw pos (keywordEach [] env)).isEmpty = true := rfl
      rw [this]
      simpa using l
    rw [e2]
    rfl
theorem se_meth (c f : Nat) {o : E} {as : Es} (ho : SE pr n o) (hs : SEs pr n as) : SE pr n (.meth c f o as) := by
  intro me X W e m env L k z Hb H ad σ Q C tk mh h R E Z hk
  cases e <;> first | exact Bool.noConfusion mh | skip
  rename_i ef es kws q2
  cases ef <;> first | exact Bool.noConfusion mh | skip
  rename_i eo y q
  rcases kws with _ | ⟨_, _⟩ <;> first | exact Bool.noConfusion mh | skip
  have mm : (q.endLine == q2.line) = true ∧ es.length < 30 ∧ y = pr.nm f ∧ isMe pr c f = true ∧ noCall eo = true ∧ mE pr o me eo = true ∧ mEs pr as me es = true := by
    have mh : ((q.endLine == q2.line) && decide (es.length < 30) && decide (y = pr.nm f) && isMe pr c f && noCall eo && mE pr o me eo && mEs pr as me es) = true := mh
    simp only [Bool.and_eq_true, decide_eq_true_eq] at mh
    exact ⟨mh.1.1.1.1.1.1, mh.1.1.1.1.1.2, mh.1.1.1.1.2, mh.1.1.1.2, mh.1.1.2, mh.1.2, mh.2⟩
  obtain ⟨m1, m2, rfl, m4, m5, m6, m7⟩ := mm
  unfold wpE at h
  unfold isMe at m4
  cases hf : pr.fn f with
  | none => rw [hf] at m4; cases m4
  | some F =>
    rw [hf] at m4
    have m4 : (match F.kd with | .me d => decide (d = c) | _ => false) = true := m4
    obtain ⟨a, fd, g1, g3, g4⟩ := C.fns f F hf
    unfold Gd at g1
    unfold spG at g4
    cases hk2 : F.kd <;> simp only [hk2] at m4 g1 g4 <;> first | exact Bool.noConfusion m4 | skip
    rename_i c2
    have m4 := of_decide_eq_true m4
    subst m4
    obtain ⟨k1, k2, k3⟩ := g1
    have fin : tMethO (pr.G.cA c2) (pr.nm f) (spF pr.G (wpF pr.fn pr.gc n) f) (WE W) (wX X eo) (wA X es) σ H Q := by
      refine ho C tk m6 h R E Z fun v sv L1 Hb1 H1 ad1 hh R1 s1 r1 => ?_
      cases sv <;> first | exact hh.elim | skip
      rename_i u
      cases u <;> first | exact hh.elim | skip
      rename_i c' fs
      obtain ⟨rfl, h2, hh⟩ := hh
      have rr : Rep pr.G Hb1 v (.obj c' fs) := r1
      cases id rr with
      | obj e1 e2 =>
        rename_i b dx gs
        refine ⟨b, dx, gs, rfl, R1.ext _ _ e1, RepF.no k3 e2 h2, ?_⟩
        refine hs C tk m7 hh R1 (E.step s1) (Z.step s1) fun vs xs L2 Hb2 H2 ad2 hh2 R2 s2 r2 => ?_
        cases q1 : dens L2 xs with
        | none => simp only [q1] at hh2
        | some ds =>
          simp only [q1] at hh2
          have q1' : dens L2 (.d (.obj c' fs) :: xs) = some (.obj c' fs :: ds) := by simp only [dens, den, q1]
          have r2' : RepSs pr.G Hb2 ad2 (.ref b :: vs) (.d (.obj c' fs) :: xs) := .cons (show RepS pr.G Hb2 ad2 (.ref b) (.d (.obj c' fs)) from rr.mono s2.base) r2
          exact call_run (me := me) (X := X) (xs := .d (.obj c' fs) :: xs) hh2 R2 (Z.step (s1.trans s2)) (hk.step (s1.trans s2)) r2' q1'
    cases es with
    | nil =>
      refine wX.by (pe_methO0 wX.pe k1 k2 g4 (C.room.mono (by omega)) g3 (fun σ => passAt tk σ) (ht_of (base_of m5) rfl m1)) ?_
      have e0 : as = .nil := by cases as with | nil => rfl | cons _ _ => exact Bool.noConfusion m7
      subst e0
      refine ho C tk m6 h R E Z fun v sv L1 Hb1 H1 ad1 hh R1 s1 r1 => ?_
      cases sv <;> first | exact hh.elim | skip
      rename_i u
      cases u <;> first | exact hh.elim | skip
      rename_i c' fs
      obtain ⟨rfl, h2, hh⟩ := hh
      have rr : Rep pr.G Hb1 v (.obj c' fs) := r1
      cases id rr with
      | obj e1 e2 =>
        rename_i b dx gs
        refine ⟨b, dx, gs, rfl, R1.ext _ _ e1, RepF.no k3 e2 h2, ?_⟩
        unfold wpEs at hh
        have hh2 : Gam pr n f (.obj c' fs :: []) (fun r => (([] : List SV).any (owned L1) = true → r.flat = true ∨ (r.noS = true ∧ L1.all Ct.strs = true)) ∧ rsK m L1 k r) (fun x => z x L1) := hh
        exact call_run (me := me) (X := X) (xs := [.d (.obj c' fs)]) hh2 R1 (Z.step s1) (hk.step s1) (.cons rr .nil) rfl
    | cons e es =>
      obtain ⟨f1, f2, f3⟩ := form_of (env := X.env) (pos := q2) m7 m2
      exact wX.by (pe_methO wX.pe k1 k2 g4 (C.room.mono (by omega)) g3 (fun σ => passAt tk σ) wA.pa (star_of f2) f3 (ht_of (base_of m5) f1 m1)) fin
theorem se_make (f : Nat) {as : Es} (hs : SEs pr n as) : SE pr n (.make f as) := by
  intro me X W e m env L k z Hb H ad σ Q C tk mh h R E Z hk
  cases e <;> first | exact Bool.noConfusion mh | skip
  rename_i ef es kws pos
  cases ef <;> first | exact Bool.noConfusion mh | skip
  rename_i x p
  match es, kws, mh with
  | [], _, mh => exact Bool.noConfusion mh
  | _ :: _, _ :: _, mh => exact Bool.noConfusion mh
  | e :: es, [], mh =>
    have mh : (decide (x = pr.nm f) && glB me.sc x && dbgB x && isIni pr f && mEs pr as me (e :: es)) = true := mh
    simp only [Bool.and_eq_true, decide_eq_true_eq] at mh
    obtain ⟨⟨⟨⟨rfl, m2⟩, m4⟩, m5⟩, m3⟩ := mh
    have st : noStar e = true := by
      cases as with
      | nil => exact Bool.noConfusion m3
      | cons a as => have m3' : (noStar e && mE pr a me e && mEs pr as me es) = true := m3; simp only [Bool.and_eq_true] at m3'; exact m3'.1.1
    have pl : (backTo pos (starEach es X.env)).any (·.1) = false := by
      cases as with
      | nil => exact Bool.noConfusion m3
      | cons a as => have m3' : (noStar e && mE pr a me e && mEs pr as me es) = true := m3; simp only [Bool.and_eq_true] at m3'; exact stars_of m3'.2
    unfold wpE at h
    unfold isIni at m5
    cases hf : pr.fn f with
    | none => rw [hf] at m5; cases m5
    | some F =>
      rw [hf] at m5
      have m5 : (match F.kd with | .ini _ => true | _ => false) = true := m5
      obtain ⟨a, fd, g1, g3, g4⟩ := C.fns f F hf
      unfold Gd at g1
      unfold spG at g4
      cases hk2 : F.kd <;> simp only [hk2] at m5 g1 g4 <;> first | exact Bool.noConfusion m5 | skip
      rename_i c2
      refine wX.by (pe_makeO g1.1 g4 C.room (gl_of C.sc m2) g1.2 g3 (fun σ => passAt tk σ) wA.pa (dbg_of m4).1 (star_of st) pl) ?_
      refine hs C tk m3 h R E Z fun vs xs L1 Hb1 H1 ad1 hh R1 s1 r1 => ?_
      cases q1 : dens L1 xs with
      | none => simp only [q1] at hh
      | some ds =>
        simp only [q1] at hh
        obtain ⟨o, hh⟩ := hh
        intro b dx nb nd ne
        have old : ∀ {y : Addr} {w : HO}, H1 y = some w → y ≠ b ∧ y ≠ dx := fun {y w} e => ⟨ne_of_none e nb, ne_of_none e nd⟩
        have up : ∀ {y : Addr} {w : HO}, H1 y = some w → upd (upd H1 dx (.own b)) b (.ins (pr.G.cA c2) dx []) y = some w := fun {y w} e => by
          rw [upd_ne (old e).1, upd_ne (old e).2]; exact e
        have hb0 : Hb1 b = none := by
          cases q : Hb1 b with
          | none => rfl
          | some w => rw [R1.ext b w q] at nb; cases nb
        refine ⟨ds, Hb1, _, _, b, dx, vs, hh, rfl, fun y w e => up (R1.ext y w e), hb0, upd_same, RepSs.rep R1 r1 q1 o, ?_, ?_⟩
        · intro u Hb' H' ku sb sh sx bs rr
          refine ⟨rfl, ?_⟩
          have sh1 : Same H1 H' := fun y w e => sh y w (up e) (old e).1
          obtain ⟨R2, s2⟩ := R1.after sb sh1 sx fun y h1 h2 => by
            rcases bs y h1 h2 with h3 | h3
            · by_cases q : y = b
              · rw [q]; exact nb
              · rw [upd_ne q] at h3
                by_cases q2 : y = dx
                · rw [q2]; exact nd
                · rw [upd_ne q2] at h3; exact h3
            · rw [h3]; exact nb
          exact (hk.step s1) _ (.d u) _ _ _ _ ku R2 s2 rr
        · intro x cls d H' hz sh xr
          have sh1 : Same H1 H' := fun y w e => sh y w (up e) (old e).1
          obtain ⟨R2, s2⟩ := R1.after (Hb1 := Hb1) (Same.refl _) sh1 (R1.ext.trans sh1) (fun a h h' => absurd h h')
          exact (Z.step s1) x cls d L1 Hb1 H' ad1 hz R2 s2 xr
/-- behind a call to which one own list was lent -/
theorem Rel.after1 {G : Gs} {Hb H Hb1 H1 : Hp} {ad : List Addr} {L : Tab} {j : Nat} {q : Addr} {ct : Ct} {o1 : HO} (R : Rel G Hb H ad L) (sb : Same Hb Hb1) (sh : ∀ a o, H a = some o → a ≠ q → H1 a = some o) (sx : Same Hb1 H1) (bs : ∀ a, Hb a = none → Hb1 a ≠ none → H a = none)
    (hj : L[j]? = some ct) (lv : ct.live = true) (hq : ad[j]? = some q) (h1 : H1 q = some o1) (r1 : OwnR G Hb1 o1 ct) : Rel G Hb1 H1 ad L ∧ Stp Hb H ad Hb1 H1 ad := by
  refine ⟨⟨sx, R.len, R.nd, fun i es b hi hb hv => ?_, fun b hb => ?_, fun i x b hi hb => (R.fz i x b hi hb).mono sb⟩, sb, ⟨[], by simp, fun _ h => nomatch h⟩, fun b w hb hn => sh b w hb fun z => hn (z ▸ List.mem_of_getElem? hq), fun b hb hn => .inl (bs b hb hn), fun b hb => ?_⟩
  · obtain ⟨k0, ws, k1, k2⟩ := R.own i es b hi hb hv
    have n1 : Hb1 b = none := by
      cases z : Hb1 b with
      | none => rfl
      | some w =>
        have := bs b k0 (by rw [z]; simp)
        rw [k1] at this; cases this
    by_cases e : b = q
    · subst e
      have ij : i = j := ad_inj R.nd hb hq
      subst ij
      rw [hj] at hi
      cases hi
      exact ⟨n1, o1, h1, r1⟩
    · exact ⟨n1, ws, sh _ _ k1 e, k2.mono sb⟩
  · by_cases e : b = q
    · subst e; rw [h1]; simp
    · cases z : H b with
      | none => exact absurd z (R.ina b hb)
      | some w => rw [sh b w z e]; simp
  · cases z : H b with
    | none => rfl
    | some w =>
      by_cases e : b = q
      · subst e; rw [h1] at hb; cases hb
      · rw [sh b w z e] at hb; cases hb
theorem RepSs.at_ {G : Gs} {Hb H : Hp} {ad : List Addr} {L : Tab} (R : Rel G Hb H ad L) : ∀ {vs : List V} {svs : List SV} {ds : List D} {j : Nat}, RepSs G Hb ad vs svs → PD.dens L svs = some ds → (svs.eraseIdx j).any (owned L) = false →
    vs.length = ds.length ∧ ∀ i d, i ≠ j → ds[i]? = some d → ∃ v, vs[i]? = some v ∧ Rep G Hb v d
  | _, _, ds, j, .nil, e, _ => by cases e; exact ⟨rfl, fun i d _ h => by simp at h⟩
  | _ :: _, sv :: svs, ds, j, .cons r t, e, o => by
    unfold PD.dens at e
    cases q : den L sv with
    | none => simp only [q] at e; cases e
    | some x =>
      cases q2 : PD.dens L svs with
      | none => simp only [q, q2] at e; cases e
      | some xs =>
        simp only [q, q2] at e
        cases e
        cases j with
        | zero =>
          have rl := RepSs.rep R t q2 o
          refine ⟨by simp [rl.length], fun i d hi h => ?_⟩
          cases i with
          | zero => exact absurd rfl hi
          | succ i => exact rl.get h
        | succ j =>
          rw [List.eraseIdx_cons_succ, List.any_cons, Bool.or_eq_false_iff] at o
          obtain ⟨l1, l2⟩ := RepSs.at_ R t q2 o.2
          have one : RepL G Hb _ [x] := RepSs.rep (svs := [sv]) R (.cons r .nil) (by simp only [PD.dens, q]) (by simp [o.1])
          refine ⟨by simp [l1], fun i d hi h => ?_⟩
          cases i with
          | zero =>
            cases h
            cases one with
            | cons r1 _ => exact ⟨_, rfl, r1⟩
          | succ i => exact l2 i d (by omega) h
theorem dens_at {L : Tab} : ∀ {svs : List SV} {ds : List D} {j : Nat} {sv : SV}, PD.dens L svs = some ds → svs[j]? = some sv → ∃ d, ds[j]? = some d ∧ den L sv = some d
  | [], _, _, _, _, h => by simp at h
  | s :: svs, ds, j, sv, e, h => by
    unfold PD.dens at e
    cases q : den L s with
    | none => simp only [q] at e; cases e
    | some x =>
      cases q2 : PD.dens L svs with
      | none => simp only [q, q2] at e; cases e
      | some xs =>
        simp only [q, q2] at e
        cases e
        cases j with
        | zero => cases h; exact ⟨x, rfl, q⟩
        | succ j => exact dens_at (j := j) q2 h
theorem RepSs.gets {G : Gs} {Hb : Hp} {ad : List Addr} : ∀ {vs : List V} {svs : List SV} {j : Nat} {sv : SV}, RepSs G Hb ad vs svs → svs[j]? = some sv → ∃ v, vs[j]? = some v ∧ RepS G Hb ad v sv
  | _, _, _, _, .nil, h => by simp at h
  | _, _, 0, _, .cons r _, h => by cases h; exact ⟨_, rfl, r⟩
  | _, _, j + 1, _, .cons _ t, h => RepSs.gets (j := j) t h
theorem se_makeb (f j : Nat) {as : Es} (hs : SEs pr n as) : SE pr n (.makeb f j as) := by
  intro me X W e m env L k z Hb H ad σ Q C tk mh h R E Z hk
  cases e <;> first | exact Bool.noConfusion mh | skip
  rename_i ef es kws pos
  cases ef <;> first | exact Bool.noConfusion mh | skip
  rename_i x p
  match es, kws, mh with
  | [], _, mh => exact Bool.noConfusion mh
  | _ :: _, _ :: _, mh => exact Bool.noConfusion mh
  | e :: es, [], mh =>
    have mh : (decide (x = pr.nm f) && glB me.sc x && dbgB x && isInb pr f j && mEs pr as me (e :: es)) = true := mh
    simp only [Bool.and_eq_true, decide_eq_true_eq] at mh
    obtain ⟨⟨⟨⟨rfl, m2⟩, m4⟩, m5⟩, m3⟩ := mh
    have st : noStar e = true := by
      cases as with
      | nil => exact Bool.noConfusion m3
      | cons a as => have m3' : (noStar e && mE pr a me e && mEs pr as me es) = true := m3; simp only [Bool.and_eq_true] at m3'; exact m3'.1.1
    have pl : (backTo pos (starEach es X.env)).any (·.1) = false := by
      cases as with
      | nil => exact Bool.noConfusion m3
      | cons a as => have m3' : (noStar e && mE pr a me e && mEs pr as me es) = true := m3; simp only [Bool.and_eq_true] at m3'; exact stars_of m3'.2
    unfold wpE at h
    unfold isInb at m5
    cases hf : pr.fn f with
    | none => rw [hf] at m5; cases m5
    | some F =>
      rw [hf] at m5
      have m5 : (match F.kd with | .inb _ i => decide (i = j) | _ => false) = true := m5
      obtain ⟨a, fd, g1, g3, g4⟩ := C.fns f F hf
      unfold Gd at g1
      unfold spG at g4
      cases hk2 : F.kd <;> simp only [hk2] at m5 g1 g4 <;> first | exact Bool.noConfusion m5 | skip
      rename_i c2 j2
      have m5 := of_decide_eq_true m5
      subst m5
      refine wX.by (pe_makeO g1.1 g4 C.room (gl_of C.sc m2) g1.2 g3 (fun σ => passAt tk σ) wA.pa (dbg_of m4).1 (star_of st) pl) ?_
      refine hs C tk m3 h R E Z fun vs xs L1 Hb1 H1 ad1 hh R1 s1 r1 => ?_
      cases q1 : dens L1 xs with
      | none => simp only [q1] at hh
      | some ds =>
        simp only [q1] at hh
        obtain ⟨⟨i, els, hx, hL⟩, o, hh⟩ := hh
        obtain ⟨d0, hd0, dd0⟩ := dens_at q1 hx
        rw [den_c hL] at dd0
        cases dd0
        obtain ⟨v0, hv0, q, hq, rfl⟩ := RepSs.gets r1 hx
        obtain ⟨nq, us, hus, rus⟩ := R1.cell i els q hL hq
        obtain ⟨ll, oth⟩ := RepSs.at_ R1 r1 q1 o
        intro b dx nb nd ne
        have old : ∀ {y : Addr} {w : HO}, H1 y = some w → y ≠ b ∧ y ≠ dx := fun {y w} e => ⟨ne_of_none e nb, ne_of_none e nd⟩
        have up : ∀ {y : Addr} {w : HO}, H1 y = some w → upd (upd H1 dx (.own b)) b (.ins (pr.G.cA c2) dx []) y = some w := fun {y w} e => by
          rw [upd_ne (old e).1, upd_ne (old e).2]; exact e
        have hb0 : Hb1 b = none := by
          cases q : Hb1 b with
          | none => rfl
          | some w => rw [R1.ext b w q] at nb; cases nb
        have bnq : b ≠ q := fun z => by rw [z, hus] at nb; cases nb
        have back : ∀ {Hb' : Hp}, (∀ a, Hb1 a = none → Hb' a ≠ none → upd (upd H1 dx (.own b)) b (.ins (pr.G.cA c2) dx []) a = none ∨ a = b) → ∀ a, Hb1 a = none → Hb' a ≠ none → H1 a = none := fun {Hb'} bs y h1 h2 => by
          rcases bs y h1 h2 with h3 | h3
          · by_cases q : y = b
            · rw [q]; exact nb
            · rw [upd_ne q] at h3
              by_cases q2 : y = dx
              · rw [q2]; exact nd
              · rw [upd_ne q2] at h3; exact h3
          · rw [h3]; exact nb
        refine ⟨ds, Hb1, _, _, b, dx, q, vs, us, els, hh, rfl, fun y w e => up (R1.ext y w e), hb0, upd_same, bnq, hv0, hd0, nq, up hus, rus, ll, oth, ?_, ?_⟩
        · intro u Hb' H' us' ku sb sh sx bs nq' hus' rus' rr
          refine ⟨rfl, ?_⟩
          obtain ⟨R2, s2⟩ := R1.after1 (o1 := .lst us') sb (fun y w e hne => sh y w (up e) (old e).1 hne) sx (back bs) hL rfl hq hus' rus'
          exact (hk.step s1) _ (.d u) _ _ _ _ ku R2 s2 rr
        · intro x cls d Hb' H' us' hz sb sh sx bs nq' hus' rus' xr
          obtain ⟨R2, s2⟩ := R1.after1 (o1 := .lst us') sb (fun y w e hne => sh y w (up e) (old e).1 hne) sx (back bs) hL rfl hq hus' rus'
          exact (Z.step s1) x cls d L1 Hb' H' ad1 hz R2 s2 xr
theorem ty_boot : ∀ t : Ty, (tyD .non t).isSome = true → bootBuiltins (tyN t) = some (.type (tyS t)) ∧ tyN t ∈ bltNames ∧ tyN t ≠ ("__name__" : Str) ∧ (tyN t == ("__debug__" : Str)) = false := by
  intro t h
  cases t <;> first | (cases h; done) | exact ⟨by decide +kernel, by simp [tyN, bltNames], by decide +kernel, by decide +kernel⟩
theorem se_isi (t : Ty) {a : E} (ha : SE pr n a) : SE pr n (.isi a t) := by
  intro me X W e m env L k z Hb H ad σ Q C tk mh h R E Z hk
  cases e <;> first | exact Bool.noConfusion mh | skip
  rename_i ef es kws pos
  cases ef <;> first | exact Bool.noConfusion mh | skip
  rename_i x p
  rcases es with _ | ⟨ea, _ | ⟨ec, _ | ⟨_, _⟩⟩⟩ <;> first | exact Bool.noConfusion mh | skip
  all_goals cases ec <;> first | exact Bool.noConfusion mh | skip
  rcases kws with _ | ⟨_, _⟩ <;> first | exact Bool.noConfusion mh | skip
  rename_i y py
  have mh : (decide (x = ("isinstance" : Str)) && glB me.sc x && decide (y = tyN t) && glB me.sc y && noStar ea && (tyD .non t).isSome && mE pr a me ea) = true := mh
  simp only [Bool.and_eq_true, decide_eq_true_eq] at mh
  obtain ⟨⟨⟨⟨⟨⟨rfl, m2⟩, rfl⟩, m4⟩, m5⟩, m6⟩, m3⟩ := mh
  obtain ⟨b1, b2, b3, b4⟩ := ty_boot t m6
  unfold wpE at h
  refine wX.by (pe_callB rC.c (gl_of C.sc m2) (C.blt _ (by simp [bltNames])) PyProof.Rows.boot_isinstance (pa_cons wX.pe (pa_cons (pe_bltn (v := .ty (tyS t)) (gl_of C.sc m4) (C.blt _ b2) b1 rfl b3 b4) pa_nil) (star_of m5)) (by decide) (by decide) (star_of m5) rfl) ?_
  refine ha C tk m3 h R E Z fun v x L1 Hb1 H1 ad1 hh R1 s1 r1 => ?_
  cases q1 : den L1 x with
  | none => simp only [q1] at hh
  | some u =>
    simp only [q1] at hh
    cases q2 : tyD u t with
    | none => simp only [q2] at hh
    | some b =>
      simp only [q2] at hh
      exact tyD_ok q2 R1 C.K (R1.read r1 q1) (hk _ _ _ _ _ _ hh R1 s1 (.bl b))
/-! ### items, slices, displays -/
theorem se_idx {a i : E} (ha : SE pr n a) (hi : SE pr n i) : SE pr n (.idx a i) := by
  intro me X W e m env L k z Hb H ad σ Q C tk mh h R E Z hk
  cases e <;> first | exact Bool.noConfusion mh | skip
  rename_i ea ei pos
  have mh : (noSlice ei && mE pr a me ea && mE pr i me ei) = true := by cases ei <;> first | exact mh | skip
  simp only [Bool.and_eq_true] at mh
  unfold wpE at h
  refine wX.by (pe_ix rI.ix wX.pe wX.pe (ix_of mh.1.1)) ?_
  refine two ha hi C tk mh.1.2 mh.2 h R E Z fun v w x y L2 Hb2 H2 ad2 hh R2 s2 r1 r2 => ?_
  cases q1 : den L2 x with
  | none => simp only [q1] at hh
  | some u =>
    cases q2 : den L2 y with
    | none => simp only [q1, q2] at hh
    | some u' =>
      simp only [q1, q2] at hh
      exact idxD_ok hh R2 (hk.step s2) C.K (R2.read r1 q1) (R2.read r2 q2)
/-- a part of a slice -/
def wO (X : Cx) (l : Option Expr) : TO := fun σ H Q => ∀ (pins : List (Addr × Obj)) (s : Shared), Inv X pins σ H s → wpAny (model X.prog X.w) X.A (evalPart l X.env) (fun u s' => ∃ o H', Inv X pins σ H' s' ∧ IsPart u o ∧ Q o H') X.xe s
theorem wO.po {X : Cx} {l : Option Expr} : PO X l (wO X l) := ⟨fun pins s σ H Q I h => h pins s I⟩
theorem wO.by {X : Cx} {l : Option Expr} {t : TO} {σ : St} {H : Hp} {Q : Option Int → Hp → Prop} (p : PO X l t) (h : t σ H Q) : wO X l σ H Q := fun pins s I => p.run pins s σ H Q I h
def mO (pr : Pr) (lo : E) (me : Me) : Option Expr → Bool
  | none => isNo lo
  | some l => !isNo lo && mE pr lo me l
theorem part_ok {lo : E} (hl : SE pr n lo) {me : Me} {X : Cx} {W : WX} {l : Option Expr} {env : Env} {L : Tab} {k : SV → Tab → Prop} {z : Xn → Tab → Prop} {Hb H : Hp} {ad : List Addr} {σ : St} {Q : Option Int → Hp → Prop} (C : Ctx pr n me X) (tk : Takes X W)
    (ml : mO pr lo me l = true) (h : wpE (Gam pr n) pr.gc lo false env L k z) (R : Rel pr.G Hb H ad L) (E : EnvR pr.G Hb ad env σ) (Z : ZOk pr.G z W σ Hb H ad) (hp : ∀ sv L1, k sv L1 → (partD lo sv).isSome = true)
    (hk : ∀ sv L1 Hb1 H1 ad1 o, k sv L1 → Rel pr.G Hb1 H1 ad1 L1 → Stp Hb H ad Hb1 H1 ad1 → partD lo sv = some o → Q o H1) : wO X l σ H Q := by
  cases l with
  | none =>
    cases lo <;> first | exact Bool.noConfusion ml | skip
    unfold wpE at h
    exact wO.by po_none (hk _ _ _ _ _ none h R Stp.refl rfl)
  | some l =>
    have ml : (!isNo lo && mE pr lo me l) = true := ml
    simp only [Bool.and_eq_true] at ml
    obtain ⟨m0, ml⟩ := ml
    refine wO.by (po_some wX.pe) ?_
    refine hl C tk ml h R E Z fun v sv L1 Hb1 H1 ad1 hh R1 s1 r1 => ?_
    have q := hp sv L1 hh
    have key : ∀ i, sv = .d (.int i) → lo ≠ .non → ∃ i, v = .int i ∧ Q (some i) H1 := fun i e ne => by
      subst e
      cases (show Rep pr.G Hb1 v (.int i) from r1)
      exact ⟨i, rfl, hk _ _ _ _ _ (some i) hh R1 s1 (by cases lo <;> first | exact absurd rfl ne | rfl)⟩
    cases lo
    case non => cases m0
    all_goals
      cases sv <;> first | (cases q; done) | skip
      rename_i d
      cases d <;> first | (cases q; done) | skip
      exact key _ rfl (by intro z; cases z)
theorem se_slc {a lo hi : E} (ha : SE pr n a) (hl : SE pr n lo) (hh : SE pr n hi) : SE pr n (.slc a lo hi) := by
  intro me X W e m env L k z Hb H ad σ Q C tk mh h R E Z hk
  cases e <;> first | exact Bool.noConfusion mh | skip
  rename_i ea es pos
  cases es <;> first | exact Bool.noConfusion mh | skip
  rename_i l u st pos2
  cases st <;> first | exact Bool.noConfusion mh | skip
  have mh : (mE pr a me ea && mO pr lo me l && mO pr hi me u) = true := mh
  simp only [Bool.and_eq_true] at mh
  unfold wpE at h
  refine wX.by (pe_slice rS.sl wX.pe wO.po wO.po) ?_
  refine ha C tk mh.1.1 h R E Z fun v x L1 Hb1 H1 ad1 h1 R1 s1 r1 => ?_
  refine part_ok hl C tk mh.1.2 h1 R1 (E.step s1) (Z.step s1) (fun sv L2 h2 => ?_) fun sv L2 Hb2 H2 ad2 o h2 R2 s2 e2 => ?_
  · cases q : partD lo sv with
    | none => simp only [q] at h2
    | some _ => rfl
  · simp only [e2] at h2
    refine part_ok hh C tk mh.2 h2 R2 (E.step (s1.trans s2)) (Z.step (s1.trans s2)) (fun sv L3 h3 => ?_) fun sv L3 Hb3 H3 ad3 o' h3 R3 s3 e3 => ?_
    · cases q : partD hi sv with
      | none => simp only [q] at h3
      | some _ => rfl
    · simp only [e3] at h3
      cases q : den L3 x with
      | none => simp only [q] at h3
      | some u =>
        simp only [q] at h3
        have s4 := s1.trans (s2.trans s3)
        exact cutD_ok h3 R3 (hk.step s4) C.K (R3.read (r1.step (s2.trans s3)) q)
/-! ### displays -/
theorem se_lst {as : Es} (hs : SEs pr n as) : SE pr n (.lst as) := by
  intro me X W e m env L k z Hb H ad σ Q C tk mh h R E Z hk
  cases e <;> first | exact Bool.noConfusion mh | skip
  rename_i es pos
  have mh : mEs pr as me es = true := mh
  unfold wpE at h
  refine wX.by (pe_lst wA.pa) ?_
  refine hs C tk mh h R E Z fun vs xs L1 Hb1 H1 ad1 hh R1 s1 r1 => ?_
  cases q : dens L1 xs with
  | none => simp only [q] at hh
  | some ds =>
    simp only [q] at hh
    obtain ⟨Hb2, R2, s2, r2⟩ := RepSs.freeze R1 r1 q
    exact ⟨by rw [r2.length]; exact hh.1, fun p hp => mkL_ok hh.2 R2 (hk.step (s1.trans s2)) r2 hp⟩
theorem se_tup {as : Es} (hs : SEs pr n as) : SE pr n (.tup as) := by
  intro me X W e m env L k z Hb H ad σ Q C tk mh h R E Z hk
  cases e <;> first | exact Bool.noConfusion mh | skip
  rename_i es kk pos
  have mh : mEs pr as me es = true := mh
  unfold wpE at h
  refine wX.by (pe_tup wA.pa) ?_
  refine hs C tk mh h R E Z fun vs xs L1 Hb1 H1 ad1 hh R1 s1 r1 => ?_
  cases q : dens L1 xs with
  | none => simp only [q] at hh
  | some ds =>
    simp only [q] at hh
    obtain ⟨Hb2, R2, s2, r2⟩ := RepSs.freeze R1 r1 q
    refine ⟨by rw [r2.length]; exact hh.1, fun p hp => ?_⟩
    obtain ⟨R3, s3⟩ := R2.newF (o := .tup vs) hp
    exact hk _ (.d (.tup ds)) _ _ _ _ hh.2 R3 ((s1.trans s2).trans s3) (.tup upd_same (r2.mono s3.base))
theorem se_mklist {a : E} (ha : SE pr n a) : SE pr n (.mklist a) := by
  intro me X W e m env L k z Hb H ad σ Q C tk mh h R E Z hk
  cases e <;> first | exact Bool.noConfusion mh | skip
  rename_i ef es kws pos
  cases ef <;> first | exact Bool.noConfusion mh | skip
  rename_i x p
  rcases es with _ | ⟨ea, _ | ⟨_, _⟩⟩ <;> first | exact Bool.noConfusion mh | skip
  rcases kws with _ | ⟨_, _⟩ <;> first | exact Bool.noConfusion mh | skip
  have mh : (decide (x = ("list" : Str)) && glB me.sc x && noStar ea && mE pr a me ea) = true := mh
  simp only [Bool.and_eq_true, decide_eq_true_eq] at mh
  obtain ⟨⟨⟨rfl, m2⟩, m3⟩, m4⟩ := mh
  unfold wpE at h
  refine wX.by (pe_callTy rC.c (gl_of C.sc m2) (C.blt _ (by simp [bltNames])) PyProof.Rows.boot_list (pa_cons wX.pe pa_nil (star_of m3)) (by decide) (by decide) (star_of m3) rfl) ?_
  refine ha C tk m4 h R E Z fun v x L1 Hb1 H1 ad1 hh R1 s1 r1 => ?_
  cases q1 : den L1 x with
  | none => simp only [q1] at hh
  | some u =>
    simp only [q1] at hh
    have px := R1.read r1 q1
    cases u <;> first | exact hh.elim | skip
    case lst ds =>
      obtain ⟨a, vs, rfl, h3, r2⟩ := px.lst R1.ext
      exact rC.by call_list_of ⟨a, vs, rfl, .inl (SqL.of h3), fun l hl => mkL_ok (ds := ds) hh R1 (hk.step s1) r2 hl⟩
    case str y =>
      rw [px.str]
      refine rC.by (call_list_text C.calm) ⟨y, rfl, hh.1, fun l hl => mkL_ok hh.2 R1 (hk.step s1) ?_ hl⟩
      generalize y.cps.toList = cs
      induction cs with
      | nil => exact .nil
      | cons c cs ih => exact .cons (.str _) ih
    case tup ds =>
      obtain ⟨a, vs, rfl, h3, r2⟩ := px.tup R1.ext
      exact rC.by call_list_of ⟨a, vs, rfl, .inr (SqT.of h3), fun l hl => mkL_ok (ds := ds) hh R1 (hk.step s1) r2 hl⟩
    case scr ns =>
      obtain ⟨a, rfl, h3⟩ := px.scr R1.ext
      exact rC.by call_list_of ⟨a, _, rfl, .inl (by rw [C.K]; exact h3), fun l hl => mkL_ok (ds := ns.map .int) hh R1 (hk.step s1) (RepL.ints ns) hl⟩
theorem se_mkrange {a : E} (ha : SE pr n a) : SE pr n (.mkrange a) := by
  intro me X W e m env L k z Hb H ad σ Q C tk mh h R E Z hk
  cases e <;> first | exact Bool.noConfusion mh | skip
  rename_i ef es kws pos
  cases ef <;> first | exact Bool.noConfusion mh | skip
  rename_i x p
  rcases es with _ | ⟨ec, es⟩ <;> first | exact Bool.noConfusion mh | skip
  cases ec <;> first | exact Bool.noConfusion mh | skip
  rename_i ef2 es2 kws2 pos2
  cases ef2 <;> first | exact Bool.noConfusion mh | skip
  rcases es2 with _ | ⟨ea, _ | ⟨_, _⟩⟩ <;> first | exact Bool.noConfusion mh | skip
  rcases kws2 with _ | ⟨_, _⟩ <;> first | exact Bool.noConfusion mh | skip
  rcases es with _ | ⟨_, _⟩ <;> first | exact Bool.noConfusion mh | skip
  rcases kws with _ | ⟨_, _⟩ <;> first | exact Bool.noConfusion mh | skip
  rename_i y py
  have mh : (decide (x = ("list" : Str)) && glB me.sc x && decide (y = ("range" : Str)) && glB me.sc y && noStar ea && mE pr a me ea) = true := mh
  simp only [Bool.and_eq_true, decide_eq_true_eq] at mh
  obtain ⟨⟨⟨⟨⟨rfl, m2⟩, rfl⟩, m3⟩, m4⟩, m5⟩ := mh
  unfold wpE at h
  refine wX.by (pe_listRg C.calm (gl_of C.sc m2) (C.blt _ (by simp [bltNames])) (prg_1 (gl_of C.sc m3) (C.blt _ (by simp [bltNames])) wX.pe (star_of m4)) rfl) ?_
  refine ha C tk m5 h R E Z fun v x L1 Hb1 H1 ad1 hh R1 s1 r1 => ?_
  cases q1 : den L1 x with
  | none => simp only [q1] at hh
  | some u =>
    simp only [q1] at hh
    cases u <;> first | exact hh.elim | skip
    rename_i i
    rw [(R1.read r1 q1).int]
    have q2 := hh.1
    have q3 := hh.2.1
    refine ⟨i, rfl, ⟨by omega, by omega, by omega, by omega, by omega⟩, fun q hq => ?_⟩
    refine mkL_ok hh.2.2 R1 (hk.step s1) ?_ hq
    have e : rgV 0 i = (List.range i.toNat).map fun j => V.int ((j : Nat) : Int) := by
      unfold rgV
      simp
    rw [e]
    generalize List.range i.toNat = l
    induction l with
    | nil => exact .nil
    | cons j l ih => exact .cons (.int _) ih
/-! ### tests -/
theorem st_val {a : E} (ha : SE pr n a) : ST pr n (.val a) := by
  intro me X W e env L k z Hb H ad σ Q C tk mh h R E Z hk
  have mh : (plainT e && mE pr a me e) = true := by unfold mT at mh; exact mh
  simp only [Bool.and_eq_true] at mh
  unfold wpT at h
  refine wT.by (pt_truth wX.pe (test_of mh.1)) ?_
  refine ha C tk mh.2 h R E Z fun v x L1 Hb1 H1 ad1 hh R1 s1 r1 => ?_
  cases q1 : den L1 x with
  | none => simp only [q1] at hh
  | some u =>
    simp only [q1] at hh
    obtain ⟨b, t, q⟩ := truD_ok C hh R1 (R1.read r1 q1)
    exact ⟨b, t, hk _ _ _ _ _ q R1 s1⟩
theorem st_not {a : T} (ha : ST pr n a) : ST pr n (.not a) := by
  intro me X W e env L k z Hb H ad σ Q C tk mh h R E Z hk
  cases e <;> first | exact Bool.noConfusion mh | skip
  rename_i o ea pos
  cases o <;> first | exact Bool.noConfusion mh | skip
  have mh : mT pr a me ea = true := mh
  unfold wpT at h
  exact wT.by (pt_not wT.pt) (ha C tk mh h R E Z fun b L' Hb' H' ad' hb R' s' => hk _ _ _ _ _ hb R' s')
def wW (X : Cx) (e : Expr) : TT := fun σ H Q => ∀ (whole : Sem Value) (pins : List (Addr × Obj)) (s : Shared), Inv X pins σ H s → wpAny (model X.prog X.w) X.A (isTrue e X.env whole) (TP X pins σ Q) X.xe s
/-- a test of and, or is asked without its whole -/
theorem whole_of {op : BoolOp} {es : List Expr} {pos : Pos} {X : Cx} {σ : St} {H : Hp} {Q : Bool → Hp → Prop} (h : wT X (.BoolOp op es pos) σ H Q) : wW X (.BoolOp op es pos) σ H Q := fun _ pins s I => h pins s I
theorem bool_pw {op : BoolOp} {es : List Expr} {pos : Pos} {X : Cx} : PW X (.BoolOp op es pos) (wT X (.BoolOp op es pos)) := ⟨fun wh pins s σ H Q I h => h pins s I⟩
theorem st_and {a b : T} (ha : ST pr n a) (hb : ST pr n b) : ST pr n (.and a b) := by
  intro me X W e env L k z Hb H ad σ Q C tk mh h R E Z hk
  cases e <;> first | exact Bool.noConfusion mh | skip
  rename_i o es pos
  cases o <;> first | exact Bool.noConfusion mh | skip
  unfold wpT at h
  have run : ∀ {ea : Expr} {tb : TT}, mT pr a me ea = true → (∀ L1 Hb1 H1 ad1, wpT (Gam pr n) pr.gc b env L1 k z → Rel pr.G Hb1 H1 ad1 L1 → Stp Hb H ad Hb1 H1 ad1 → tb σ H1 Q) → tAnd (wT X ea) tb σ H Q := fun {ea tb} ma kb =>
    ha C tk ma h R E Z fun c L1 Hb1 H1 ad1 hh R1 s1 => by
      cases c with
      | true => rw [if_pos rfl]; exact kb _ _ _ _ (hh.1 rfl) R1 s1
      | false => rw [if_neg Bool.false_ne_true]; exact hk _ _ _ _ _ (hh.2 rfl) R1 s1
  match es, mh with
  | [ea, eb], mh =>
    have mh : (mT pr a me ea && mT pr b me eb) = true := mh
    simp only [Bool.and_eq_true] at mh
    exact wT.by (PW.pt (pw_and wT.pt (pw_and1 wT.pt))) (run mh.1 fun L1 Hb1 H1 ad1 h1 R1 s1 => hb C tk mh.2 h1 R1 (E.step s1) (Z.step s1) (hk.step s1))
  | ea :: eb :: ec :: es, mh =>
    have mh : (mT pr a me ea && mT pr b me (.BoolOp .And (eb :: ec :: es) pos)) = true := mh
    simp only [Bool.and_eq_true] at mh
    exact wT.by (PW.pt (pw_and wT.pt bool_pw)) (run mh.1 fun L1 Hb1 H1 ad1 h1 R1 s1 => hb C tk mh.2 h1 R1 (E.step s1) (Z.step s1) (hk.step s1))
  | [], mh => exact Bool.noConfusion mh
  | [_], mh => exact Bool.noConfusion mh
theorem st_or {a b : T} (ha : ST pr n a) (hb : ST pr n b) : ST pr n (.or a b) := by
  intro me X W e env L k z Hb H ad σ Q C tk mh h R E Z hk
  cases e <;> first | exact Bool.noConfusion mh | skip
  rename_i o es pos
  cases o <;> first | exact Bool.noConfusion mh | skip
  unfold wpT at h
  have run : ∀ {ea : Expr} {tb : TT}, mT pr a me ea = true → (∀ L1 Hb1 H1 ad1, wpT (Gam pr n) pr.gc b env L1 k z → Rel pr.G Hb1 H1 ad1 L1 → Stp Hb H ad Hb1 H1 ad1 → tb σ H1 Q) → tOr (wT X ea) tb σ H Q := fun {ea tb} ma kb =>
    ha C tk ma h R E Z fun c L1 Hb1 H1 ad1 hh R1 s1 => by
      cases c with
      | true => rw [if_pos rfl]; exact hk _ _ _ _ _ (hh.1 rfl) R1 s1
      | false => rw [if_neg Bool.false_ne_true]; exact kb _ _ _ _ (hh.2 rfl) R1 s1
  match es, mh with
  | [ea, eb], mh =>
    have mh : (mT pr a me ea && mT pr b me eb) = true := mh
    simp only [Bool.and_eq_true] at mh
    exact wT.by (PW.pt (pw_or wT.pt (pw_or1 wT.pt))) (run mh.1 fun L1 Hb1 H1 ad1 h1 R1 s1 => hb C tk mh.2 h1 R1 (E.step s1) (Z.step s1) (hk.step s1))
  | ea :: eb :: ec :: es, mh =>
    have mh : (mT pr a me ea && mT pr b me (.BoolOp .Or (eb :: ec :: es) pos)) = true := mh
    simp only [Bool.and_eq_true] at mh
    exact wT.by (PW.pt (pw_or wT.pt bool_pw)) (run mh.1 fun L1 Hb1 H1 ad1 h1 R1 s1 => hb C tk mh.2 h1 R1 (E.step s1) (Z.step s1) (hk.step s1))
  | [], mh => exact Bool.noConfusion mh
  | [_], mh => exact Bool.noConfusion mh
/-! ### what a loop walks -/
def SI (pr : Pr) (n : Nat) (a : PD.It) : Prop := ∀ {me : Me} {X : Cx} {W : WX} {tg e : Expr} {env : Env} {L : Tab} {k : List D → Tab → Prop} {z : Xn → Tab → Prop} {Hb H : Hp} {ad : List Addr} {σ : St} {Q : L2.It → Hp → Prop}, Ctx pr n me X → Takes X W →
  mI pr a me tg e = true → wpI (Gam pr n) pr.gc a env L k z → Rel pr.G Hb H ad L → EnvR pr.G Hb ad env σ → ZOk pr.G z W σ Hb H ad →
  (∀ items J L' Hb' H' ad', k items L' → Rel pr.G Hb' H' ad' L' → Stp Hb H ad Hb' H' ad' → ItOk pr.G J items Hb' → Q J H') → wI X tg e σ H Q
/-- a list that is walked: frozen -/
theorem walk_lst {G : Gs} {Hb H : Hp} {ad : List Addr} {L : Tab} {v : V} {sv : SV} {ds : List D} (R : Rel G Hb H ad L) (r : RepS G Hb ad v sv) (q : den L sv = some (.lst ds)) :
    ∃ Hb' a vs, v = .ref a ∧ Rel G Hb' H ad (frzT L sv) ∧ Stp Hb H ad Hb' H ad ∧ Hb' a = some (.lst vs) ∧ RepL G Hb' vs ds := by
  obtain ⟨Hb1, R1, s1, r1⟩ := R.freeze r q
  cases r1 with
  | lst h r => exact ⟨Hb1, _, _, rfl, R1, s1, h, r⟩
section
variable {X : Cx} {tg : Expr} {pins : List (Addr × Obj)} {σ : St} {H : Hp} {s : Shared} {E : Value → Shared → Prop} {Q : L2.It → Hp → Prop} {a : Addr} {vs : List V}
/-- an iterator that is just laid -/
theorem pie_new {J : L2.It} {tn : Nat → Heap → Prop} {h' : Heap} (I : Inv X pins σ H s) (kp : ∀ b o, s.heap.get? b = some o → h'.get? b = some o) (T : Turn X.prog X.w X.K tg J [s.heap.objs.size] s.heap.objs.size tn) (t0 : tn 0 h') (q : Q J H) :
    PIE X pins σ tg Q (.ref s.heap.objs.size) { s with heap := h' } := by
  refine ⟨_, _, _, J, H, rfl, I.kept (t' := s.toks) kp, T, t0, ?_, q⟩
  intro b hb
  rw [List.mem_singleton.mp hb]
  exact I.fpOk (Nat.le_refl _) (I.hok.fresh (Nat.le_refl _))
theorem iter_list (I : Inv X pins σ H s) (h : SqL X.K H a vs) (q : Q (Itl X.K a) H) : wpAny (model X.prog X.w) X.A (pyIter (.ref a)) (PIE X pins σ tg Q) E s := by
  obtain ⟨its, _, p, _⟩ := I.list h
  exact wpAny_pyIter_list p.isList (pie_new I (fun _ _ e => Heap.get?_push_of_some _ e) (turn_list a _) ⟨_, Heap.get?_push_size _ rfl, rfl, rfl⟩ q)
theorem iter_tup (I : Inv X pins σ H s) (h : SqT X.K H a vs) (q : Q (Itt X.K a) H) : wpAny (model X.prog X.w) X.A (pyIter (.ref a)) (PIE X pins σ tg Q) E s := by
  obtain ⟨its, _, p, _⟩ := I.tuple h
  exact wpAny_pyIter_tuple (show s.heap.IsTuple a its.toArray from p) (pie_new I (fun _ _ e => Heap.get?_push_of_some _ e) (turn_tuple a _) ⟨_, Heap.get?_push_size _ rfl, rfl, rfl⟩ q)
end
section
variable {X : Cx} {tg : Expr} {pins : List (Addr × Obj)} {σ : St} {H : Hp} {s : Shared} {E : Value → Shared → Prop} {Q : L2.It → Hp → Prop} {y : Str} {t : Tok}
theorem iter_str (I : Inv X pins σ H s) (q : Q (Its y) H) : wpAny (model X.prog X.w) X.A (pyIter (.str y t)) (PIE X pins σ tg Q) E s := by
  cases ha : y.cps.all (· < 128) with
  | false => exact wpAny_pyIter_wide ha (pie_new I (fun _ _ e => Heap.get?_push_of_some _ e) (turn_str _ y t _ (.inr rfl)) ⟨_, Heap.get?_push_size _ rfl, rfl, rfl⟩ q)
  | true => exact wpAny_pyIter_ascii ha (pie_new I (fun _ _ e => Heap.get?_push_of_some _ e) (turn_str _ y t _ (.inl rfl)) ⟨_, Heap.get?_push_size _ rfl, rfl, rfl⟩ q)
end
theorem si_seq {a : E} (ha : SE pr n a) : SI pr n (.seq a) := by
  intro me X W tg e env L k z Hb H ad σ Q C tk mh h R E Z hk
  have mh : (noSet e && mE pr a me e) = true := mh
  simp only [Bool.and_eq_true] at mh
  unfold wpI at h
  refine fun pins s I => ?_
  refine L2.thn ((ha C tk mh.2 h R E Z (Q := fun v H1 => ∀ (pins : List (Addr × Obj)) (s : Shared) (u : Value), Inv X pins σ H1 s → RelV v u → wpAny (model X.prog X.w) X.A (pyIter u) (PIE X pins σ tg Q) X.xe s) fun v x L1 Hb1 H1 ad1 hh R1 s1 r1 => ?_) pins s I) fun u s1 ⟨v, H1, I1, r1, q1⟩ => q1 pins s1 u I1 r1
  cases q1 : den L1 x with
  | none => simp only [q1] at hh
  | some u =>
    simp only [q1] at hh
    cases u <;> first | exact hh.elim | skip
    case str y =>
      rw [(R1.read r1 q1).str]
      intro pins s u I ru
      obtain ⟨t, rfl⟩ := ru
      exact iter_str I (hk _ _ _ _ _ _ hh R1 s1 itOk_str)
    case lst ds =>
      obtain ⟨Hb2, a, vs, rfl, R2, s2, h2, r2⟩ := walk_lst R1 r1 q1
      intro pins s u I ru
      cases ru
      exact iter_list I (SqL.of (R2.ext _ _ h2)) (hk _ _ _ _ _ _ hh R2 (s1.trans s2) (itOk_list h2 r2))
    case tup ds =>
      obtain ⟨Hb2, R2, s2, r2⟩ := R1.freeze r1 q1
      cases r2 with
      | tup h2 r2 =>
        intro pins s u I ru
        cases ru
        exact iter_tup I (SqT.of (R2.ext _ _ h2)) (hk _ _ _ _ _ _ hh R2 (s1.trans s2) (itOk_tup h2 r2))
    case scr ns =>
      obtain ⟨Hb2, R2, s2, r2⟩ := R1.freeze r1 q1
      cases r2 with
      | scr h2 =>
        rw [← C.K] at h2
        intro pins s u I ru
        cases ru
        exact iter_list I (Same.seq R2.ext h2) (hk _ _ _ _ _ _ hh R2 (s1.trans s2) (itOk_scr h2))
theorem si_range1 {b : E} (hb : SE pr n b) : SI pr n (.range1 b) := by
  intro me X W tg e env L k z Hb H ad σ Q C tk mh h R E Z hk
  cases e <;> first | exact Bool.noConfusion mh | skip
  rename_i ef es kws pos
  cases ef <;> first | exact Bool.noConfusion mh | skip
  rename_i x p
  rcases es with _ | ⟨e1, _ | ⟨_, _⟩⟩ <;> first | exact Bool.noConfusion mh | skip
  rcases kws with _ | ⟨_, _⟩ <;> first | exact Bool.noConfusion mh | skip
  have mh : (decide (x = ("range" : Str)) && glB me.sc x && noStar e1 && mE pr b me e1) = true := mh
  simp only [Bool.and_eq_true, decide_eq_true_eq] at mh
  obtain ⟨⟨⟨rfl, m2⟩, m3⟩, m4⟩ := mh
  unfold wpI at h
  refine wI.by (pi_range1 (gl_of C.sc m2) (C.blt "range" (by simp [bltNames])) (pa_cons wX.pe pa_nil (star_of m3)) (star_of m3)) ?_
  refine hb C tk m4 h R E Z fun v x L1 Hb1 H1 ad1 hh R1 s1 r1 => ?_
  cases q : den L1 x with
  | none => simp only [q] at hh
  | some u =>
    simp only [q] at hh
    cases u <;> first | exact hh.elim | skip
    rename_i i
    rw [(R1.read r1 q).int]
    refine ⟨i, rfl, hh.1, hh.2.1, hk _ _ _ _ _ _ hh.2.2 R1 s1 ?_⟩
    have q := itOk_range (G := pr.G) (Hb1 := Hb1) (lo := 0) (m := i.toNat)
    simp only [Int.zero_add] at q
    exact q
theorem si_range2 {a b : E} (ha : SE pr n a) (hb : SE pr n b) : SI pr n (.range2 a b) := by
  intro me X W tg e env L k z Hb H ad σ Q C tk mh h R E Z hk
  cases e <;> first | exact Bool.noConfusion mh | skip
  rename_i ef es kws pos
  cases ef <;> first | exact Bool.noConfusion mh | skip
  rename_i x p
  rcases es with _ | ⟨e1, _ | ⟨e2, _ | ⟨_, _⟩⟩⟩ <;> first | exact Bool.noConfusion mh | skip
  rcases kws with _ | ⟨_, _⟩ <;> first | exact Bool.noConfusion mh | skip
  have mh : (decide (x = ("range" : Str)) && glB me.sc x && noStar e1 && noStar e2 && mE pr a me e1 && mE pr b me e2) = true := mh
  simp only [Bool.and_eq_true, decide_eq_true_eq] at mh
  obtain ⟨⟨⟨⟨⟨rfl, m2⟩, m3⟩, m3'⟩, m4⟩, m5⟩ := mh
  unfold wpI at h
  refine wI.by (pi_range2 (gl_of C.sc m2) (C.blt "range" (by simp [bltNames])) (pa_cons wX.pe (pa_cons wX.pe pa_nil (star_of m3')) (star_of m3)) (by rw [star_of m3, star_of m3']; rfl) (star_of m3')) ?_
  refine two ha hb C tk m4 m5 h R E Z fun v w x y L2 Hb2 H2 ad2 hh R2 s2 r1 r2 => ?_
  cases q1 : den L2 x with
  | none => simp only [q1] at hh
  | some u =>
    cases q2 : den L2 y with
    | none => simp only [q1, q2] at hh
    | some u' =>
      simp only [q1, q2] at hh
      cases u <;> first | exact hh.elim | skip
      cases u' <;> first | exact hh.elim | skip
      rename_i i j
      rw [(R2.read r1 q1).int, (R2.read r2 q2).int]
      exact ⟨i, j, rfl, hh.1, hk _ _ _ _ _ _ hh.2 R2 s2 itOk_range⟩
theorem rgc2 {i j : Int} (h : -(2 ^ 30) ≤ i ∧ i < 2 ^ 30 ∧ -(2 ^ 30) ≤ j ∧ j < 2 ^ 30) : RgC i j 2 ((j - i + 1) / 2).toNat := by
  have e : Builtin.Range.rangeSize i j 2 = (((j - i + 1) / 2).toNat : Int) := by
    unfold Builtin.Range.rangeSize
    rw [if_pos (by decide)]
    split <;> omega
  refine ⟨by decide, by decide, ?_, e⟩
  unfold Builtin.Range.small
  rw [e]
  simp only [Builtin.Range.rangeFitsLong, Bool.and_eq_true, Bool.or_eq_true, decide_eq_true_eq, beq_iff_eq, show (2 : Int) > 0 by decide, if_true]
  omega
theorem si_range3 {a b : E} (ha : SE pr n a) (hb : SE pr n b) : SI pr n (.range3 a b) := by
  intro me X W tg e env L k z Hb H ad σ Q C tk mh h R E Z hk
  cases e <;> first | exact Bool.noConfusion mh | skip
  rename_i ef es kws pos
  cases ef <;> first | exact Bool.noConfusion mh | skip
  rename_i x p
  rcases es with _ | ⟨e1, _ | ⟨e2, _ | ⟨e3, es⟩⟩⟩ <;> first | exact Bool.noConfusion mh | skip
  cases e3 <;> first | exact Bool.noConfusion mh | skip
  rename_i c3 _ _
  cases c3 <;> first | exact Bool.noConfusion mh | skip
  rename_i j3
  rcases es with _ | ⟨_, _⟩ <;> first | exact Bool.noConfusion mh | skip
  rcases kws with _ | ⟨_, _⟩ <;> first | exact Bool.noConfusion mh | skip
  have mh : (decide (j3 = 2) && decide (x = ("range" : Str)) && glB me.sc x && noStar e1 && noStar e2 && mE pr a me e1 && mE pr b me e2) = true := mh
  simp only [Bool.and_eq_true, decide_eq_true_eq] at mh
  obtain ⟨⟨⟨⟨⟨⟨rfl, rfl⟩, m2⟩, m3⟩, m3'⟩, m4⟩, m5⟩ := mh
  unfold wpI at h
  refine wI.by (pi_range3 (gl_of C.sc m2) (C.blt "range" (by simp [bltNames])) (pa_cons wX.pe (pa_cons wX.pe (pa_cons pe_int pa_nil) (star_of m3')) (star_of m3)) (star_of m3) (by rw [star_of m3']; rfl)) ?_
  refine two ha hb C tk m4 m5 h R E Z fun v w x y L2 Hb2 H2 ad2 hh R2 s2 r1 r2 => ?_
  cases q1 : den L2 x with
  | none => simp only [q1] at hh
  | some u =>
    cases q2 : den L2 y with
    | none => simp only [q1, q2] at hh
    | some u' =>
      simp only [q1, q2] at hh
      cases u <;> first | exact hh.elim | skip
      cases u' <;> first | exact hh.elim | skip
      rename_i i j
      rw [(R2.read r1 q1).int, (R2.read r2 q2).int]
      exact ⟨i, j, 2, _, rfl, rgc2 hh.1, hk _ _ _ _ _ _ hh.2 R2 s2 itOk_range3⟩
theorem se_setlenI {a : E} (ha : SE pr n a) : SE pr n (.setlenI a) := by
  intro me X W e m env L k z Hb H ad σ Q C tk mh h R E Z hk
  cases e <;> first | exact Bool.noConfusion mh | skip
  rename_i ef es kws pos
  cases ef <;> first | exact Bool.noConfusion mh | skip
  rename_i x p
  rcases es with _ | ⟨ec, es⟩ <;> first | exact Bool.noConfusion mh | skip
  cases ec <;> first | exact Bool.noConfusion mh | skip
  rename_i ef2 es2 kws2 pos2
  cases ef2 <;> first | exact Bool.noConfusion mh | skip
  rcases es2 with _ | ⟨e, _ | ⟨_, _⟩⟩ <;> first | exact Bool.noConfusion mh | skip
  rcases kws2 with _ | ⟨_, _⟩ <;> first | exact Bool.noConfusion mh | skip
  rcases es with _ | ⟨_, _⟩ <;> first | exact Bool.noConfusion mh | skip
  rcases kws with _ | ⟨_, _⟩ <;> first | exact Bool.noConfusion mh | skip
  rename_i y p2
  have mh : (decide (x = ("len" : Str)) && glB me.sc x && decide (y = ("set" : Str)) && glB me.sc y && noStar e && mE pr a me e) = true := mh
  simp only [Bool.and_eq_true, decide_eq_true_eq] at mh
  obtain ⟨⟨⟨⟨⟨rfl, m1⟩, rfl⟩, m2⟩, m3⟩, m4⟩ := mh
  unfold wpE at h
  refine wX.by (RZ.pe_lenSetI (gl_of C.sc m1) (C.blt _ (by simp [bltNames])) (gl_of C.sc m2) (C.blt _ (by simp [bltNames])) wX.pe C.calm (star_of m3)) ?_
  refine ha C tk m4 h R E Z fun v sv L1 Hb1 H1 ad1 hh R1 s1 r1 => ?_
  cases q : den L1 sv with
  | none => simp only [q] at hh
  | some u =>
    simp only [q] at hh
    cases u <;> first | exact hh.elim | skip
    rename_i ds
    obtain ⟨ns, rfl, hn, hl, hh⟩ := hh
    obtain ⟨Hb2, l, vs, rfl, R2, s2, h2, r2⟩ := walk_lst R1 r1 q
    have e := r2.ofInts
    subst e
    exact ⟨l, ns, rfl, SqL.of (R2.ext _ _ h2), hn, hl, hk.step (s1.trans s2) _ (.d _) _ _ _ _ hh R2 Stp.refl (.int _)⟩
theorem si_enum {a : E} (ha : SE pr n a) : SI pr n (.enum a) := by
  intro me X W tg e env L k z Hb H ad σ Q C tk mh h R E Z hk
  cases tg <;> first | exact Bool.noConfusion mh | skip
  cases e <;> first | exact Bool.noConfusion mh | skip
  rename_i elts kk tpos ef es kws pos
  cases ef <;> first | exact Bool.noConfusion mh | skip
  rename_i x p
  rcases es with _ | ⟨e1, _ | ⟨_, _⟩⟩ <;> first | exact Bool.noConfusion mh | skip
  rcases kws with _ | ⟨_, _⟩ <;> first | exact Bool.noConfusion mh | skip
  have mh : (decide (x = ("enumerate" : Str)) && glB me.sc x && noStar e1 && mE pr a me e1) = true := mh
  simp only [Bool.and_eq_true, decide_eq_true_eq] at mh
  obtain ⟨⟨⟨rfl, m2⟩, m3⟩, m4⟩ := mh
  unfold wpI at h
  refine wI.by (pi_enumX (gl_of C.sc m2) (C.blt "enumerate" (by simp [bltNames])) (pa_cons wX.pe pa_nil (star_of m3)) (star_of m3)) ?_
  refine ha C tk m4 h R E Z fun v x L1 Hb1 H1 ad1 hh R1 s1 r1 => ?_
  cases q : den L1 x with
  | none => simp only [q] at hh
  | some u =>
    simp only [q] at hh
    cases u <;> first | exact hh.elim | skip
    case str y =>
      rw [(R1.read r1 q).str]
      exact .inr ⟨y, rfl, hk _ _ _ _ _ _ hh R1 s1 itOk_enumS⟩
    obtain ⟨Hb2, a, vs, rfl, R2, s2, h2, r2⟩ := walk_lst R1 r1 q
    exact .inl ⟨a, vs, rfl, SqL.of (R2.ext _ _ h2), hk _ _ _ _ _ _ hh R2 (s1.trans s2) (itOk_enum h2 r2)⟩
theorem si_zip {a b : E} (ha : SE pr n a) (hb : SE pr n b) : SI pr n (.zip a b) := by
  intro me X W tg e env L k z Hb H ad σ Q C tk mh h R E Z hk
  cases tg <;> first | exact Bool.noConfusion mh | skip
  cases e <;> first | exact Bool.noConfusion mh | skip
  rename_i elts kk tpos ef es kws pos
  cases ef <;> first | exact Bool.noConfusion mh | skip
  rename_i x p
  rcases es with _ | ⟨e1, _ | ⟨e2, _ | ⟨_, _⟩⟩⟩ <;> first | exact Bool.noConfusion mh | skip
  rcases kws with _ | ⟨_, _⟩ <;> first | exact Bool.noConfusion mh | skip
  have mh : (decide (x = ("zip" : Str)) && glB me.sc x && noStar e1 && noStar e2 && mE pr a me e1 && mE pr b me e2) = true := mh
  simp only [Bool.and_eq_true, decide_eq_true_eq] at mh
  obtain ⟨⟨⟨⟨⟨rfl, m2⟩, m3⟩, m3'⟩, m4⟩, m5⟩ := mh
  unfold wpI at h
  refine wI.by (pi_zipX (gl_of C.sc m2) (C.blt "zip" (by simp [bltNames])) (pa_cons wX.pe (pa_cons wX.pe pa_nil (star_of m3')) (star_of m3)) (star_of m3) (by rw [star_of m3']; rfl)) ?_
  refine two ha hb C tk m4 m5 h R E Z fun v w x y L2 Hb2 H2 ad2 hh R2 s2 r1 r2 => ?_
  cases q1 : den L2 x with
  | none => simp only [q1] at hh
  | some u =>
    cases q2 : den L2 y with
    | none => simp only [q1, q2] at hh
    | some u' =>
      simp only [q1, q2] at hh
      cases u <;> first | exact hh.elim | skip
      case str y1 =>
        cases u' <;> first | exact hh.elim | skip
        rename_i es
        rw [(R2.read r1 q1).str]
        obtain ⟨Hb4, b, ws, rfl, R4, s4, h4, r4⟩ := walk_lst R2 r2 q2
        exact .inr ⟨y1, b, ws, rfl, SqL.of (R4.ext _ _ h4), hk _ _ _ _ _ _ hh R4 (s2.trans s4) (itOk_zipS h4 r4)⟩
      cases u' <;> first | exact hh.elim | skip
      rename_i ds es
      obtain ⟨Hb3, a, vs, rfl, R3, s3, h3, r3⟩ := walk_lst R2 r1 q1
      obtain ⟨Hb4, b, ws, rfl, R4, s4, h4, r4⟩ := walk_lst R3 (r2.step s3) (by rw [den_frzT]; exact q2)
      exact .inl ⟨a, b, vs, ws, rfl, SqL.of (R4.ext _ _ (s4.base _ _ h3)), SqL.of (R4.ext _ _ h4), hk _ _ _ _ _ _ hh R4 ((s2.trans s3).trans s4) (itOk_zip (s4.base _ _ h3) h4 (r3.mono s4.base) r4)⟩
theorem si_rev {a : E} (ha : SE pr n a) : SI pr n (.reversed a) := by
  intro me X W tg e env L k z Hb H ad σ Q C tk mh h R E Z hk
  cases e <;> first | exact Bool.noConfusion mh | skip
  rename_i ef es kws pos
  cases ef <;> first | exact Bool.noConfusion mh | skip
  rename_i x p
  rcases es with _ | ⟨e1, _ | ⟨_, _⟩⟩ <;> first | exact Bool.noConfusion mh | skip
  rcases kws with _ | ⟨_, _⟩ <;> first | exact Bool.noConfusion mh | skip
  have mh : (decide (x = ("reversed" : Str)) && glB me.sc x && noStar e1 && mE pr a me e1) = true := mh
  simp only [Bool.and_eq_true, decide_eq_true_eq] at mh
  obtain ⟨⟨⟨rfl, m2⟩, m3⟩, m4⟩ := mh
  unfold wpI at h
  refine wI.by (pi_reversed (gl_of C.sc m2) (C.blt "reversed" (by simp [bltNames])) (pa_cons wX.pe pa_nil (star_of m3)) (star_of m3)) ?_
  refine ha C tk m4 h R E Z fun v x L1 Hb1 H1 ad1 hh R1 s1 r1 => ?_
  cases q : den L1 x with
  | none => simp only [q] at hh
  | some u =>
    simp only [q] at hh
    cases u <;> first | exact hh.elim | skip
    obtain ⟨Hb2, a, vs, rfl, R2, s2, h2, r2⟩ := walk_lst R1 r1 q
    exact ⟨a, vs, rfl, SqL.of (R2.ext _ _ h2), hk _ _ _ _ _ _ hh R2 (s1.trans s2) (itOk_rev h2 r2)⟩
end
end PD

namespace PD
open PySem L2
section
variable {G : Gs} {Hb Hb0 H H0 : Hp} {ad : List Addr} {L : Tab}
/-- an object that stands apart comes to the base -/
theorem Rel.addF {o : HO} {p : Addr} (R : Rel G Hb H ad L) (hb : Hb p = none) (hp : p ∉ ad) (h : H p = some o) : Rel G (upd Hb p o) H ad L := by
  have sm : Same Hb (upd Hb p o) := fun b w q => by rw [upd_ne (ne_of_none q hb)]; exact q
  refine ⟨fun b w q => ?_, R.len, R.nd, fun i es b hi hbb hv => ?_, R.ina, fun i x b hi hbb => (R.fz i x b hi hbb).mono sm⟩
  · by_cases e : b = p
    · subst e; rw [upd_same] at q; cases q; exact h
    · rw [upd_ne e] at q; exact R.ext b w q
  · obtain ⟨k0, ws, k1, k2⟩ := R.own i es b hi hbb hv
    have e : b ≠ p := fun z => hp (z ▸ List.mem_of_getElem? hbb)
    exact ⟨by rw [upd_ne e]; exact k0, ws, k1, k2.mono sm⟩
theorem Stp.addF {o : HO} {p : Addr} {ad' : List Addr} (s : Stp Hb0 H0 ad Hb H ad') (hb : Hb p = none) (h0 : H0 p = none) : Stp Hb0 H0 ad (upd Hb p o) H ad' :=
  ⟨s.base.trans fun b w q => by rw [upd_ne (ne_of_none q hb)]; exact q, s.new, s.keep, fun b h1 h2 => by
    by_cases e : b = p
    · subst e; exact .inl h0
    · rw [upd_ne e] at h2; exact s.bas b h1 h2, s.there⟩
/-- .. or becomes an own list -/
theorem Rel.addO {p : Addr} {vs : List V} {ds : List D} (R : Rel G Hb H ad L) (hb : Hb p = none) (hp : p ∉ ad) (h : H p = some (.lst vs)) (r : RepL G Hb vs ds) : Rel G Hb H (ad ++ [p]) (L ++ [.lst ds]) := by
  have old : ∀ {i : Nat} {b : Addr}, i < L.length → (ad ++ [p])[i]? = some b → ad[i]? = some b := fun {i b} hi h => by
    rw [List.getElem?_append_left (by rw [R.len]; exact hi)] at h; exact h
  have at_ : ∀ {i : Nat} {c : Ct}, ¬ i < L.length → (L ++ [.lst ds])[i]? = some c → i = L.length ∧ c = .lst ds := fun {i c} hl hi => by
    obtain ⟨h1, _⟩ := List.getElem?_eq_some_iff.mp hi
    have hi' : i = L.length := by simp at h1; omega
    subst hi'
    rw [List.getElem?_append_right (Nat.le_refl _)] at hi
    simp at hi
    exact ⟨rfl, hi.symm⟩
  refine ⟨R.ext, by simp [R.len], List.nodup_append.mpr ⟨R.nd, by simp, fun a ha b hb z => by simp at hb; subst hb; subst z; exact hp ha⟩, fun i es b hi hbb hv => ?_, fun b hbb => ?_, fun i x b hi hbb => ?_⟩
  · by_cases hl : i < L.length
    · rw [List.getElem?_append_left hl] at hi
      exact R.own i es b hi (old hl hbb) hv
    · obtain ⟨rfl, e⟩ := at_ hl hi
      cases e
      rw [← R.len, List.getElem?_append_right (Nat.le_refl _)] at hbb
      simp at hbb
      subst hbb
      exact ⟨hb, .lst vs, h, r⟩
  · rcases List.mem_append.mp hbb with q | q
    · exact R.ina b q
    · simp at q; subst q; rw [h]; simp
  · by_cases hl : i < L.length
    · rw [List.getElem?_append_left hl] at hi
      exact R.fz i x b hi (old hl hbb)
    · obtain ⟨_, e⟩ := at_ hl hi
      cases e
theorem Stp.addO {p : Addr} (s : Stp Hb0 H0 ad Hb H ad) (h0 : H0 p = none) : Stp Hb0 H0 ad Hb H (ad ++ [p]) :=
  ⟨s.base, ⟨[p], rfl, fun a ha => by simp at ha; subst ha; exact h0⟩, s.keep, s.bas, s.there⟩
theorem mk_at {m : Bool} {ds : List D} {k : KV} {Q : VK} {p : Addr} {vs : List V} (h : mkL m ds L k) (R : Rel G Hb H ad L) (hk : KOk G k Q Hb0 H0 ad) (s : Stp Hb0 H0 ad Hb H ad) (h0 : H0 p = none) (hb : Hb p = none) (hp : p ∉ ad) (e : H p = some (.lst vs))
    (r : RepL G Hb vs ds) : Q (.ref p) H := by
  cases m with
  | true =>
    exact hk _ (.c L.length) _ _ _ _ h (R.addO hb hp e r) (s.addO h0) ⟨p, by rw [← R.len]; simp, rfl⟩
  | false =>
    have sm : Same Hb (upd Hb p (.lst vs)) := fun b w q => by rw [upd_ne (ne_of_none q hb)]; exact q
    exact hk _ (.d (.lst ds)) _ _ _ _ h (R.addF hb hp e) (s.addF hb h0) (.lst upd_same (r.mono sm))
/-- another object than the known ones is written -/
theorem Rel.other {p : Addr} {o : HO} (R : Rel G Hb H ad L) (hb : Hb p = none) (hp : p ∉ ad) : Rel G Hb (upd H p o) ad L := by
  refine ⟨fun b w q => by rw [upd_ne (ne_of_none q hb)]; exact R.ext b w q, R.len, R.nd, fun i es b hi hbb hv => ?_, fun b hbb => ?_, R.fz⟩
  · obtain ⟨k0, ws, k1, k2⟩ := R.own i es b hi hbb hv
    have e : b ≠ p := fun z => hp (z ▸ List.mem_of_getElem? hbb)
    exact ⟨k0, ws, by rw [upd_ne e]; exact k1, k2⟩
  · have e : b ≠ p := fun z => hp (z ▸ hbb)
    rw [upd_ne e]; exact R.ina b hbb
theorem Stp.other {p : Addr} {o : HO} {ad' : List Addr} (s : Stp Hb0 H0 ad Hb H ad') (h0 : H0 p = none) : Stp Hb0 H0 ad Hb (upd H p o) ad' :=
  ⟨s.base, s.new, fun b w q n => by rw [upd_ne (ne_of_none q h0)]; exact s.keep b w q n, s.bas, fun b q => by
    by_cases e : b = p
    · subst e; exact h0
    · rw [upd_ne e] at q; exact s.there b q⟩
theorem Stp.apart {p : Addr} {o : HO} {Hb1 H1 : Hp} {ad1 : List Addr} (s : Stp Hb H ad Hb1 H1 ad1) (hb : Hb p = none) (hp : p ∉ ad) (h : H p = some o) : Hb1 p = none ∧ H1 p = some o := by
  refine ⟨?_, s.keep p o h hp⟩
  cases q : Hb1 p with
  | none => rfl
  | some w =>
    rcases s.bas p hb (by rw [q]; simp) with z | z
    · rw [h] at z; cases z
    · exact absurd z hp
end
section
variable {pr : Pr} {n : Nat}
theorem se_rev {a : E} (ha : SE pr n a) : SE pr n (.rev a) := by
  intro me X W e m env L k z Hb H ad σ Q C tk mh h R E Z hk
  cases e <;> first | exact Bool.noConfusion mh | skip
  rename_i ea es pos
  cases es <;> first | exact Bool.noConfusion mh | skip
  rename_i l u st pos2
  cases l <;> first | exact Bool.noConfusion mh | skip
  cases u <;> first | exact Bool.noConfusion mh | skip
  cases st <;> first | exact Bool.noConfusion mh | skip
  rename_i st
  cases st <;> first | exact Bool.noConfusion mh | skip
  rename_i o one pos3
  cases o <;> first | exact Bool.noConfusion mh | skip
  cases one <;> first | exact Bool.noConfusion mh | skip
  rename_i c k1 p1
  cases c <;> first | exact Bool.noConfusion mh | skip
  rename_i i
  have mh : (i == 1 && mE pr a me ea) = true := mh
  simp only [Bool.and_eq_true, beq_iff_eq] at mh
  obtain ⟨rfl, mh⟩ := mh
  unfold wpE at h
  refine wX.by (pe_revL wX.pe) ?_
  refine ha C tk mh h R E Z fun v x L1 Hb1 H1 ad1 hh R1 s1 r1 => ?_
  cases q1 : den L1 x with
  | none => simp only [q1] at hh
  | some u =>
    simp only [q1] at hh
    cases u <;> first | exact hh.elim | skip
    obtain ⟨a, vs, rfl, h3, r2⟩ := (R1.read r1 q1).lst R1.ext
    exact ⟨a, vs, rfl, SqL.of h3, fun p hp => mkL_ok hh R1 (hk.step s1) r2.reverse hp⟩
/-! ### comprehensions -/
def wG (X : Cx) (tg : Expr) : TG := fun v σ H Q => ∀ (pins : List (Addr × Obj)) (s : Shared) (u : Value), Inv X pins σ H s → RelV v u →
    wpAny (model X.prog X.w) X.A (assign tg X.env u) (fun _ s' => ∃ σ' H', Inv X pins σ' H' s' ∧ Q σ' H') X.xe s
def wTs (X : Cx) (ifs : List Expr) : TT := fun σ H Q => ∀ (pins : List (Addr × Obj)) (s : Shared), Inv X pins σ H s →
    wpAny (model X.prog X.w) X.A (forIn ifs true fun c r => if r = true then do let ok ← isTrue c X.env (eval c X.env); pure (ForInStep.yield ok) else pure (ForInStep.yield r)) (TP X pins σ Q) X.xe s
theorem wTs.by {X : Cx} {ifs : List Expr} {t : TT} {σ : St} {H : Hp} {Q : Bool → Hp → Prop} (p : PTs X ifs t) (h : t σ H Q) : wTs X ifs σ H Q := fun pins s I => p.run pins s σ H Q I h
/-- over all blocks of a comprehension -/
abbrev AllB (X : Cx) (scope : Scope) (P : Cx → Prop) : Prop := ∀ (s : Shared) (H : Hp) (Ce : Addr) (cl : List (Str × Addr)) (fp : List Addr), P (X.blk s H scope (compEnvC scope cl Ce X.env) fp)
theorem stc_ok {cs : Ts} (hs : ∀ c, cs = .cons c .nil → ST pr n c) {me : Me} {X : Cx} {ifs : List Expr} {env : Env} {L : Tab} {k : Bool → Prop} {Hb H : Hp} {ad : List Addr} {σ : St} {Q : Bool → Hp → Prop} (C : Ctx pr n me X)
    (mh : mTs pr cs me ifs = true) (h : wpC (Gam pr n) pr.gc cs env L k) (R : Rel pr.G Hb H ad L) (E : EnvR pr.G Hb ad env σ)
    (hk : ∀ b Hb' H', k b → Rel pr.G Hb' H' ad L → Stp Hb H ad Hb' H' ad → Q b H') : wTs X ifs σ H Q := by
  cases cs with
  | nil =>
    cases ifs with
    | cons _ _ => exact Bool.noConfusion mh
    | nil =>
      unfold wpC at h
      exact wTs.by pts_nil (hk true Hb H h R Stp.refl)
  | cons c cs =>
    cases cs with
    | cons _ _ => unfold wpC at h; exact h.elim
    | nil =>
      rcases ifs with _ | ⟨e, _ | ⟨_, _⟩⟩
      · exact Bool.noConfusion mh
      · have mh : (mT pr c me e && mTs pr .nil me []) = true := mh
        simp only [Bool.and_eq_true] at mh
        unfold wpC at h
        refine wTs.by (pts_one wT.pt) ?_
        refine hs c rfl C takes0 mh.1 h R E (fun _ _ _ _ _ _ _ f => f.elim) fun b L1 Hb1 H1 ad1 hh R1 s1 => ?_
        obtain ⟨⟨ex, rfl⟩, hb⟩ := hh
        obtain ⟨ns, rfl, _⟩ := s1.new
        exact hk b Hb1 H1 hb (R1.trunc R.len) s1.trunc
      · have mh : (mT pr c me e && mTs pr .nil me _) = true := mh
        simp only [Bool.and_eq_true] at mh
        exact Bool.noConfusion mh.2
/-- the form of a comprehension -/
theorem comp_form {tg : Tg} {it : PD.It} {elt : E} {cs : Ts} {me : Me} {ee : Expr} {gens : List Comprehension} {scope : Scope} {pos : Pos} (mh : mE pr (.comp tg it elt cs) me (.ListComp ee gens scope pos) = true) :
    ∃ et ei ifs, gens = [⟨et, ei, ifs, 0⟩] ∧ blkC me.N me.sc scope (ownOf me.N (tgSlots tg)) = true ∧ (ownOf me.N (tgSlots tg)).map (·.2) = tgSlots tg ∧ mTg (blkMe me scope) tg et = true ∧ mI pr it me et ei = true ∧ mE pr elt (blkMe me scope) ee = true ∧ mTs pr cs (blkMe me scope) ifs = true := by
  match gens, mh with
  | [], mh => exact Bool.noConfusion mh
  | [⟨et, ei, ifs, asy⟩], mh =>
    have mh : (asy == 0 && blkC me.N me.sc scope (ownOf me.N (tgSlots tg)) && decide ((ownOf me.N (tgSlots tg)).map (·.2) = tgSlots tg) &&
      mTg (blkMe me scope) tg et && mI pr it me et ei && mE pr elt (blkMe me scope) ee && mTs pr cs (blkMe me scope) ifs) = true := mh
    simp only [Bool.and_eq_true, decide_eq_true_eq, beq_iff_eq] at mh
    obtain ⟨⟨⟨⟨⟨⟨rfl, m1⟩, m2⟩, m3⟩, m4⟩, m5⟩, m6⟩ := mh
    exact ⟨et, ei, ifs, rfl, m1, m2, m3, m4, m5, m6⟩
  | ⟨_, _, _, _⟩ :: _ :: _, mh => exact Bool.noConfusion mh
theorem fold_mI {it : PD.It} {me : Me} {tg e : Expr} (h : mI pr it me tg e = true) {env : PySem.Env} : ∀ x, foldedSetIterable e env x = pure x := by
  cases it with
  | seq a =>
    have h : (noSet e && mE pr a me e) = true := h
    simp only [Bool.and_eq_true] at h
    exact fold_of h.1
  | range1 b => cases e <;> first | exact Bool.noConfusion h | (intro x; rfl)
  | range2 a b => cases e <;> first | exact Bool.noConfusion h | (intro x; rfl)
  | range3 a b => cases e <;> first | exact Bool.noConfusion h | (intro x; rfl)
  | enum a => cases tg <;> first | exact Bool.noConfusion h | (cases e <;> first | exact Bool.noConfusion h | (intro x; rfl))
  | zip a b => cases tg <;> first | exact Bool.noConfusion h | (cases e <;> first | exact Bool.noConfusion h | (intro x; rfl))
  | reversed a => cases e <;> first | exact Bool.noConfusion h | (intro x; rfl)
/-- the parts of a comprehension, over all its blocks -/
abbrev gAll (X : Cx) (scope : Scope) (et : Expr) : TG := fun v σ H Q => AllB X scope fun Y => wG Y et v σ H Q
abbrev ttAll (X : Cx) (scope : Scope) (ifs : List Expr) : TT := fun σ H Q => AllB X scope fun Y => wTs Y ifs σ H Q
abbrev teAll (X : Cx) (scope : Scope) (ee : Expr) : TE := fun σ H Q => AllB X scope fun Y => wX Y ee σ H Q
theorem comp_run {tg : Tg} {it : PD.It} {elt : E} {cs : Ts} (hi : SI pr n it) (he : SE pr n elt) (hs : ∀ c, cs = .cons c .nil → ST pr n c) {me : Me} {X : Cx} {W : WX} {et ei ee : Expr} {ifs : List Expr} {scope : Scope} {m : Bool} {env : Env} {L : Tab} {k : KV}
    {z : Xn → Tab → Prop} {Hb H : Hp} {ad : List Addr} {σ : St} {Q : VK} (C : Ctx pr n me X) (tk : Takes X W) (m3 : mTg (blkMe me scope) tg et = true) (m4 : mI pr it me et ei = true) (m5 : mE pr elt (blkMe me scope) ee = true) (m6 : mTs pr cs (blkMe me scope) ifs = true)
    (h : wpE (Gam pr n) pr.gc (.comp tg it elt cs) m env L k z) (R : Rel pr.G Hb H ad L) (E : EnvR pr.G Hb ad env σ) (Z : ZOk pr.G z W σ Hb H ad) (hk : KOk pr.G k Q Hb H ad) :
    tLc (wI X et ei) (gAll X scope et) (ttAll X scope ifs) (teAll X scope ee) (tgSlots tg) σ H Q := by
  unfold wpE at h
  refine hi C tk m4 h R E Z fun items J L1 Hb1 H1 ad1 hh R1 s1 io => ?_
  obtain ⟨I, i0, turn, fin⟩ := hh
  intro D hD
  have hbD : Hb1 D = none := by
    cases q : Hb1 D with
    | none => rfl
    | some o => rw [R1.ext D o q] at hD; cases hD
  have nD : D ∉ ad1 := fun z => R1.ina D z hD
  -- what holds at turn i
  let P : Nat → Nat → Hp → Prop := fun i mm Hx => mm = items.length - i ∧ i ≤ items.length ∧ ∃ acc vs Hbx, I i acc ∧ Rel pr.G Hbx Hx ad1 L1 ∧ Stp Hb1 H1 ad1 Hbx Hx ad1 ∧ Hbx D = none ∧ Hx D = some (.lst vs) ∧ RepL pr.G Hbx vs acc
  refine ⟨P, ⟨items.length, by simp, Nat.zero_le _, [], [], Hb1, i0, R1.other hbD nD, Stp.refl.other hD, hbD, upd_same, .nil⟩, ?_⟩
  rintro i mm Hx ⟨rfl, hi, acc, vs, Hbx, ii, Rx, sx, hx0, hxD, rx⟩
  by_cases hlt : i < items.length
  · refine .inr ⟨io.go i Hx (sx.base.trans Rx.ext) hlt, fun H' => P (i + 1) (items.length - (i + 1)) H', fun H' p => ⟨_, by omega, p⟩, fun x H' y => ?_⟩
    obtain ⟨d, Hb2, hd, R2, s2, r2⟩ := io.yld i Hx Hbx ad1 L1 x H' sx.base Rx y hlt
    have t := turn i d acc hd ii
    intro sb Hblk Ce cl fp
    have CB := C.blk sb Hblk scope Ce cl fp
    obtain ⟨tt, pg, run⟩ := tg_ok (pr := pr) (n := n) CB.N CB.nd CB.sc CB.fb CB.calm m3
    have EW := ((E.step s1).step sx).step s2 |>.wipe (tgSlots tg)
    refine fun pins s u Iv rv => pg.run pins s (L2.wipe σ (tgSlots tg)) H' x u _ Iv rv ?_
    refine run d x pr.G Hb2 ad1 (wipeE env (tgSlots tg)) (L2.wipe σ (tgSlots tg)) H' _ _ t R2.ext r2 EW fun env2 σ2 hc E2 l2 w2 => ?_
    refine ⟨?_, ?_⟩
    · rw [wipe_eq l2 w2]
      apply List.ext_getElem?
      intro j
      rw [wipe_get, wipe_get, wipe_len]
      by_cases hj : j ∈ tgSlots tg <;> simp [hj]
    · intro sb2 Hblk2 Ce2 cl2 fp2
      have CB2 := C.blk sb2 Hblk2 scope Ce2 cl2 fp2
      refine stc_ok hs CB2 m6 hc R2 E2 fun b Hb3 H3 hb R3 s3 => ?_
      obtain ⟨a3, b3⟩ := (s2.trans s3).apart hx0 nD hxD
      have sx3 := sx.trans (s2.trans s3)
      cases b with
      | false =>
        rw [if_neg Bool.false_ne_true]
        exact ⟨rfl, hlt, acc, vs, Hb3, hb.2 rfl, R3, sx3, a3, b3, rx.mono (s2.trans s3).base⟩
      | true =>
        rw [if_pos rfl]
        intro sb3 Hblk3 Ce3 cl3 fp3
        have CB3 := C.blk sb3 Hblk3 scope Ce3 cl3 fp3
        refine he CB3 takes0 m5 (hb.1 rfl) R3 (E2.step s3) (fun _ _ _ _ _ _ _ f => f.elim) fun v sv L4 Hb4 H4 ad4 h4 R4 s4 r4 => ?_
        obtain ⟨d4, ex, rfl, q4, fresh, sz, i4⟩ := h4
        obtain ⟨ns, rfl, hns⟩ := s4.new
        obtain ⟨Hb5, R5, s5, r5⟩ := R4.freeze r4 q4
        obtain ⟨a4, b4⟩ := s4.apart a3 nD b3
        have a5 : Hb5 D = none := by
          cases q : Hb5 D with
          | none => rfl
          | some w =>
            rcases s5.bas D a4 (by rw [q]; simp) with z | z
            · rw [b4] at z; cases z
            · rcases List.mem_append.mp z with z | z
              · exact absurd z nD
              · rw [hns D z] at b3; cases b3
        have len5 : L1.length = ad1.length := R1.len.symm
        -- the table ahead of the element is as it was
        have R6 : Rel pr.G Hb5 H4 ad1 L1 := by
          have e : ∃ ex', frzT (L1 ++ ex) sv = L1 ++ ex' := by
            cases sv with
            | d x => exact ⟨ex, rfl⟩
            | c j =>
              have hj := fresh j rfl
              cases q : (L1 ++ ex)[j]? with
              | none => rw [frzT_no q]; exact ⟨ex, rfl⟩
              | some ct =>
                cases ct with
                | fz x => rw [frzT_fz q]; exact ⟨ex, rfl⟩
                | lst ds =>
                  rw [frzT_lst q, List.set_append_right _ _ hj]
                  exact ⟨_, rfl⟩
                | ob u =>
                  rw [frzT_ob q, List.set_append_right _ _ hj]
                  exact ⟨_, rfl⟩
          obtain ⟨ex', e⟩ := e
          rw [e] at R5
          exact R5.trunc R1.len
        have s6 : Stp Hb3 H3 ad1 Hb5 H4 ad1 := (s4.trans s5).trunc
        have rx5 := (rx.mono (s2.trans s3).base).mono s6.base
        have sx6 := sx3.trans s6
        refine ⟨vs, b4, by rw [rx.length]; exact sz, rfl, hlt, _, _, Hb5, i4, R6.other a5 nD, sx6.other hD, a5, upd_same, rx5.append (.cons r5 .nil)⟩
  · have e : i = items.length := by omega
    subst e
    exact .inl ⟨io.stop _ Hx (sx.base.trans Rx.ext) (Nat.le_refl _), mk_at (fin acc ii) Rx (hk.step s1) sx hD hx0 nD hxD rx⟩
theorem se_comp (tg : Tg) {it : PD.It} {elt : E} {cs : Ts} (hi : SI pr n it) (he : SE pr n elt) (hs : ∀ c, cs = .cons c .nil → ST pr n c) : SE pr n (.comp tg it elt cs) := by
  intro me X W e m env L k z Hb H ad σ Q C tk mh h R E Z hk
  cases e <;> first | exact Bool.noConfusion mh | skip
  rename_i ee gens scope pos
  obtain ⟨et, ei, ifs, rfl, m1, m2, m3, m4, m5, m6⟩ := comp_form mh
  have bo : BlkOk X.N X.env.scope scope (ownOf me.N (tgSlots tg)) := by rw [C.N, C.sc]; exact blkOk_by m1
  refine wX.by (pe_lc (wi := wI X et ei) (g := gAll X scope et) (tt := ttAll X scope ifs) (te := teAll X scope ee) C.calm C.nd wI.pi bo
    (fun s H Ce cl fp => ⟨fun pins s' σ H' v u Q I r hh => hh s H Ce cl fp pins s' u I r⟩)
    (fun s H Ce cl fp => ⟨fun pins s' σ H' Q I hh => hh s H Ce cl fp pins s' I⟩)
    (fun s H Ce cl fp => ⟨fun pins s' σ H' Q I hh => hh s H Ce cl fp pins s' I⟩) (fold_mI m4)) ?_
  rw [m2]
  exact comp_run hi he hs C tk m3 m4 m5 m6 h R E Z hk
theorem se_compk (tg : Tg) (x : Nat) {elt : E} {cs : Ts} (he : SE pr n elt) (hs : ∀ c, cs = .cons c .nil → ST pr n c) : SE pr n (.compk tg x elt cs) := by
  intro me X W e m env L k z Hb H ad σ Q C tk mh h R E Z hk
  have mh' : mE pr (.comp tg (.seq (.var x)) elt cs) me e = true := by
    cases e <;> first | exact Bool.noConfusion mh | skip
    rename_i ee gens scope pos
    rcases gens with _ | ⟨g, gs⟩ <;> first | exact Bool.noConfusion mh | skip
    obtain ⟨et, ei, ifs, asy⟩ := g
    cases ei <;> first | (cases gs <;> exact Bool.noConfusion mh) | skip
    rcases gs with _ | ⟨_, _⟩ <;> first | exact Bool.noConfusion mh | skip
    exact mh
  unfold wpE at h
  cases q1 : env[x]? with
  | none => rw [q1] at h; exact h.elim
  | some o =>
    rw [q1] at h
    rcases o with _ | (_ | j)
    · exact h.elim
    · exact h.elim
    obtain ⟨ds, qj, fds, oth, I, i0, st, fin⟩ := h
    have hfz : frzT L (.c j) = L.set j (.fz (.lst ds)) := frzT_lst qj
    have h' : wpE (Gam pr n) pr.gc (.comp tg (.seq (.var x)) elt cs) true env L (fun sv L'' => ∃ acc, sv = .c L.length ∧ L'' = L.set j (.fz (.lst ds)) ++ [.lst acc] ∧ acc.all D.flat = true ∧ k (.d (.lst acc)) L) z := by
      unfold wpE wpI wpE
      rw [q1]
      show (match den L (.c j) with
        | some (.str s) => _
        | some u => match u.items with
          | some ds => _
          | none => False
        | none => False)
      rw [den_c qj]
      show ∃ I : Nat → List D → Prop, _
      rw [hfz]
      refine ⟨I, i0, st, fun acc ia => ?_⟩
      obtain ⟨f1, f2⟩ := fin acc ia
      exact ⟨acc, by rw [List.length_set], rfl, f1, f2⟩
    refine se_comp tg (si_seq (se_var x)) he hs C tk mh' h' R E Z fun v sv L' Hb' H' ad' kk R' S' r' => ?_
    obtain ⟨acc, rfl, rfl, facc, kk⟩ := kk
    obtain ⟨p, hp, rfl⟩ := r'
    obtain ⟨ns, rfl, hns⟩ := S'.new
    have hlast : (L.set j (.fz (.lst ds)) ++ [Ct.lst acc])[L.length]? = some (.lst acc) := by
      rw [List.getElem?_append_right (by simp)]; simp
    obtain ⟨np, ws, h1, h2⟩ := R'.cell _ acc p hlast hp
    have hpn : p ∈ ns := by
      rw [List.getElem?_append_right (by rw [R.len]; exact Nat.le_refl _)] at hp
      exact List.mem_of_getElem? hp
    have pH := hns p hpn
    have pHb : Hb p = none := by
      cases q : Hb p with
      | none => rfl
      | some w => rw [R.ext p w q] at pH; cases pH
    have pad : p ∉ ad := fun hm => R.ina p hm pH
    obtain ⟨hjl, _⟩ := List.getElem?_eq_some_iff.mp qj
    obtain ⟨a, ha⟩ : ∃ a, ad[j]? = some a := ⟨_, List.getElem?_eq_getElem (by rw [R.len]; exact hjl)⟩
    have aHb := (R.cell j ds a qj ha).1
    have apn : a ≠ p := fun z => pad (z ▸ List.mem_of_getElem? ha)
    have hjf : (L.set j (.fz (.lst ds)) ++ [Ct.lst acc])[j]? = some (.fz (.lst ds)) := by
      rw [List.getElem?_append_left (by simpa using hjl), List.getElem?_set_self hjl]
    have ra := R'.fz j _ a hjf (by rw [List.getElem?_append_left (by rw [R.len]; exact hjl)]; exact ha)
    cases ra with
    | lst a1 a2 =>
      rename_i vs'
      have sm : Same Hb (upd Hb p (.lst ws)) := fun b w q => by rw [upd_ne (ne_of_none q pHb)]; exact q
      have R2 : Rel pr.G (upd Hb p (.lst ws)) H' ad L := by
        refine ⟨fun b w q => ?_, R.len, R.nd, fun i ct b hi hb lv => ?_, fun b hb => R'.ina b (List.mem_append.mpr (.inl hb)), fun i x b hi hb => (R.fz i x b hi hb).mono sm⟩
        · by_cases e : b = p
          · subst e; rw [upd_same] at q; cases q; exact h1
          · rw [upd_ne e] at q; exact R'.ext b w (S'.base b w q)
        · by_cases e : i = j
          · subst e
            rw [qj] at hi
            cases hi
            rw [ha] at hb
            cases hb
            exact ⟨by rw [upd_ne apn]; exact aHb, _, R'.ext _ _ a1, RepL.ofFlat _ fds a2⟩
          · have := oth i ct hi e
            rw [lv] at this; cases this
      have S2 : Stp Hb H ad (upd Hb p (.lst ws)) H' ad := ⟨sm, ⟨[], by simp, fun _ h => nomatch h⟩, S'.keep, fun b hb hn => by
          by_cases e : b = p
          · subst e; exact .inl pH
          · rw [upd_ne e] at hn; exact absurd hb hn, S'.there⟩
      exact hk _ (.d (.lst acc)) _ _ _ _ kk R2 S2 (.lst upd_same (RepL.ofFlat _ facc h2))
theorem se_edict : SE pr n .edict := by
  intro me X W e m env L k z Hb H ad σ Q C tk mh h R E Z hk
  cases e <;> first | exact Bool.noConfusion mh | skip
  rename_i ks vs pos
  rcases ks with _ | ⟨_, _⟩ <;> first | exact Bool.noConfusion mh | skip
  rcases vs with _ | ⟨_, _⟩ <;> first | exact Bool.noConfusion mh | skip
  unfold wpE at h
  refine wX.by pe_dnewK fun p hp => ?_
  cases m with
  | true =>
    obtain ⟨R1, s1, r1⟩ := R.newO (oo := .dK []) (ct := .ob (.kst [])) hp rfl
    exact hk _ _ _ _ _ _ h R1 s1 r1
  | false =>
    obtain ⟨R1, s1⟩ := R.newF (o := .dK []) hp
    exact hk _ (.d (.dct [])) _ _ _ _ h R1 s1 (.dct upd_same)
/-- {e: f}, e a tuple of ints and texts -/
def tDispT (tk tv : TE) : TE := fun σ H Q => ∀ p, H p = none → tk σ (upd H p (.dT [])) fun x H1 => tv σ H1 fun y H2 => ∃ (k : List Key) (b : Addr), x = .ref b ∧ H2 p = some (.dT []) ∧ H2 b = some (.tup (k.map L2.kV)) ∧ Q (.ref p) (upd H2 p (.dT (putK [] k y)))
theorem pe_dispT {X : Cx} {pos : Pos} {ek ev : Expr} {tk tv : TE} (hu : X.A.units < cLine) (hk : PE X ek tk) (hv : PE X ev tv) : PE X (.Dict [some ek] [ev] pos) (tDispT tk tv) := by
  refine ⟨fun pins s σ H Q I q => ?_⟩
  have hn := I.hok.fresh (Nat.le_refl s.heap.objs.size)
  have I1 := I.laid (a := s.heap.objs.size) (o := .dT []) (h' := s.heap.push { cls := .type "dict", data := .dict #[] }) (t' := s.toks) (fun _ _ q => Heap.get?_push_of_some _ q) (Nat.le_refl _) (dt_empty s.heap I.big)
  have hs := zip_pairTrees [some ek] [ev] X.env pos rfl rfl
  have hl := pairTrees_length [some ek] [ev] X.env pos rfl rfl
  have hl1 : (pairTrees [some ek] [ev] X.env pos).length = 1 := hl
  rw [arm_eval_Dict, hs, dictDisplay_pairs _ (fun z => by rw [z] at hl1; cases hl1) (by omega)]
  refine wpAny_bind (wpAny_standAt (wpAny_bind ?_))
  unfold subDict
  refine wpAny_bind (wpAny_alloc ?_)
  refine wpAny_bind (wpAny_holding ?_)
  rw [if_pos (by omega)]
  refine wpAny_bind (thn (t := evalPairs (pairTrees [some ek] [ev] X.env pos)) (Q := fun vs s' => ∃ x y u w H2, vs = [(u, w)] ∧ Inv X pins σ H2 s' ∧ RelV x u ∧ RelV y w ∧ ∃ (k : List Key) (b : Addr), x = .ref b ∧ H2 s.heap.objs.size = some (.dT []) ∧ H2 b = some (.tup (k.map L2.kV)) ∧ Q (.ref s.heap.objs.size) (upd H2 s.heap.objs.size (.dT (putK [] k y)))) ?_ fun vs s2 h2 => ?_)
  · refine pairTrees_cons_walk (thn (hk.run pins _ σ _ _ I1 (q _ hn)) fun u s1 ⟨x, H1, I1', rx, q1⟩ => thn (hv.run pins s1 σ H1 _ I1' q1) fun w s2 ⟨y, H2, I2, ry, q2⟩ => pairTrees_nil_walk ⟨x, y, u, w, H2, rfl, I2, rx, ry, q2⟩)
  · obtain ⟨x, y, u, w, H2, rfl, I2, rx, ry, k, b, rfl, e, eb, q3⟩ := h2
    cases (show u = Value.ref b from rx)
    refine wpAny_holding ?_
    refine wpAny_bind ?_
    rw [List.forIn_cons]
    obtain ⟨z, hd, xs, rel, dd⟩ := dt_of I2.hok e
    have hz : xs.length ≤ sizeLine := by rw [← Paired.length rel]; exact z
    cases rel
    refine wpAny_bind (wpAny_bind (wpAny_dictSet_heap (hsz := hz) (knd := tupleKind (mixKind X.prog X.w)) hu (key_of I2.hok eb) dd fun h' dd' hs' => wpAny_pure ?_))
    simp only [List.forIn_nil]
    refine wpAny_pure (wpAny_pure (wpAny_pure (wpAny_pure ⟨.ref s.heap.objs.size, _, ?_, rfl, q3⟩)))
    obtain ⟨q, es, ep, hq, h2, h3, h4, _, h5⟩ := dd'
    have hl2 : (putK ([] : List (List Key × V)) k y).length ≤ sizeLine := by show 1 ≤ sizeLine; rw [sizeLine_eq]; decide
    refine d_write I2 (by rw [e]; exact True.intro) hs' ⟨q, hq⟩ ⟨hl2, hd, _, (KT.put (show KT H2 [] [] from .nil) k eb ry).keeps fun c ys ec => ?_, q, es, ep, hq, h2, h3, h4, h5⟩
    rw [upd_ne (ne_of ec e (fun z => nomatch z))]
    exact ec
theorem keys_of {G : Gs} {Hb : Hp} : ∀ {vs : List V} {ds : List PD.D}, RepL G Hb vs ds → ds.all D.key = true → ∃ k : List Key, vs = k.map L2.kV
  | _, _, .nil, _ => ⟨[], rfl⟩
  | _, _, .cons r t, h => by
    rw [List.all_cons, Bool.and_eq_true] at h
    obtain ⟨k, rfl⟩ := keys_of t h.2
    cases r <;> first | exact Bool.noConfusion h.1 | skip
    · exact ⟨.inl _ :: k, rfl⟩
    · exact ⟨.inr _ :: k, rfl⟩
theorem se_tdict {a b : E} (ha : SE pr n a) (hb : SE pr n b) : SE pr n (.tdict a b) := by
  intro me X W e m env L k z Hb H ad σ Q C tk mh h R E Z hk
  cases e <;> first | exact Bool.noConfusion mh | skip
  rename_i ks vs pos
  rcases ks with _ | ⟨ok, _ | ⟨_, _⟩⟩ <;> first | exact Bool.noConfusion mh | skip
  all_goals rcases vs with _ | ⟨ev, _ | ⟨_, _⟩⟩ <;> first | exact Bool.noConfusion mh | (cases ok <;> exact Bool.noConfusion mh) | skip
  cases ok with
  | none => exact Bool.noConfusion mh
  | some ek =>
  have mh : (mE pr a me ek && mE pr b me ev) = true := mh
  simp only [Bool.and_eq_true] at mh
  unfold wpE at h
  refine wX.by (pe_dispT (by have := C.room.un; omega) wX.pe wX.pe) fun p hp => ?_
  have hbp : Hb p = none := by
    cases q : Hb p with
    | none => rfl
    | some o => rw [R.ext p o q] at hp; cases hp
  have np : p ∉ ad := fun z => R.ina p z hp
  have s0 : Stp Hb H ad Hb (upd H p (.dT [])) ad := Stp.refl.other hp
  refine ha C tk mh.1 h (R.other hbp np) E (Z.step s0) fun v x L1 Hb1 H1 ad1 hh R1 s1 r1 => ?_
  refine hb C tk mh.2 hh R1 (E.step s1) ((Z.step s0).step s1) fun w y L2 Hb2 H2 ad2 h2 R2 s2 r2 => ?_
  cases x <;> first | exact h2.elim | skip
  rename_i x
  cases x <;> first | exact h2.elim | skip
  rename_i ds
  cases (show Rep pr.G Hb1 v (.tup ds) from r1) with
  | tup g1 g2 =>
    obtain ⟨kk, rfl⟩ := keys_of g2 h2.1
    obtain ⟨hb2, hH2⟩ := (s1.trans s2).apart hbp np upd_same
    have np2 : p ∉ ad2 := fun z => by
      obtain ⟨ns, e, f⟩ := (s1.trans s2).new
      rw [e] at z
      rcases List.mem_append.mp z with z | z
      · exact np z
      · have := f p z
        rw [upd_same] at this; cases this
    refine ⟨kk, _, rfl, hH2, R2.ext _ _ (s2.base _ _ g1), ?_⟩
    exact hk _ (.d (.dct [(.tup ds, .non)])) _ _ _ _ h2.2 ((R2.other hb2 np2).addF hb2 np2 upd_same) ((((s0.trans s1).trans s2).other hp).addF hb2 hp) (.dctT upd_same)
def mW (X : Cx) (id : String) : V → List V → Hp → VK → Prop := fun x xs H Q => ∀ (pins : List (Addr × Obj)) (s : Shared) (σ : St) (v : Value) (us : List Value), Inv X pins σ H s → RelV x v → Vals xs us → wpAny (model X.prog X.w) X.A (call (.builtin id) (v :: us)) (EP X pins σ Q) X.xe s
theorem mW.m {X : Cx} {id : String} : MtR X id (mW X id) := fun pins s σ H x xs v us Q I r rs h => h pins s σ v us I r rs
theorem mW.by {X : Cx} {id : String} {r : V → List V → Hp → VK → Prop} {x : V} {xs : List V} {H : Hp} {Q : VK} (p : MtR X id r) (h : r x xs H Q) : mW X id x xs H Q := fun pins s σ v us I r1 r2 => p pins s σ H x xs v us Q I r1 r2 h
theorem Paired.one {α β : Type} {R : α → β → Prop} {xs : List α} {y : β} (h : Paired R xs [y]) : ∃ x, xs = [x] ∧ R x y := by
  cases h with
  | cons r t => cases t; exact ⟨_, rfl, r⟩
theorem bmD_ok {X : Cx} {m : Bool} {f : Bm} {a : Str} {ds : List PD.D} {vs : List V} {k : KV} {L : Tab} {Hb H : Hp} {ad : List Addr} {Q : VK} (h : bmD f a ds (resK m L k)) (R : Rel pr.G Hb H ad L) (hk : KOk pr.G k Q Hb H ad) (r : Paired (Pk pr.G Hb H) vs ds) :
    mW X (bmI f) (.str a) vs H Q := by
  have fin : ∀ {w : V} {r : PD.D}, Rep pr.G Hb w r → k (.d r) L → Q w H := fun {w r} q h => hk w (.d r) L Hb H ad h R Stp.refl q
  rcases ds with _ | ⟨u, _ | ⟨_, _⟩⟩
  · cases f <;> exact h.elim
  · obtain ⟨x, rfl, px⟩ := Paired.one r
    cases f
    case join =>
      cases u <;> first | exact h.elim | skip
      obtain ⟨ys, rfl, hz, q⟩ := h
      obtain ⟨p, ws, rfl, h3, r1⟩ := px.lst R.ext
      rw [r1.ofStrs] at h3
      exact mW.by mt_join ⟨a, p, ys, rfl, rfl, .inl (SqL.of h3), hz, fin (.str _) q⟩
    case split =>
      cases u <;> first | exact h.elim | skip
      obtain ⟨h1, h2, q⟩ := h
      rw [px.str]
      refine mW.by mt_split ⟨a, _, rfl, rfl, h1, h2, fun p hp => ?_⟩
      refine mkL_ok q R hk ?_ hp
      generalize Txt.split a _ = ys
      induction ys with
      | nil => exact .nil
      | cons y ys ih => exact .cons (.str y) ih
    case index =>
      cases u <;> first | exact h.elim | skip
      obtain ⟨i, rest, h1, q⟩ := h
      rw [px.str]
      exact mW.by mt_sindex ⟨a, _, i, rest, rfl, rfl, h1, fin (.int _) q⟩
    case find =>
      cases u <;> first | exact h.elim | skip
      rw [px.str]
      exact mW.by mt_find ⟨a, _, rfl, rfl, fin (.int _) h⟩
    case count =>
      cases u <;> first | exact h.elim | skip
      rw [px.str]
      exact mW.by mt_count ⟨a, _, rfl, rfl, fin (.int _) h⟩
    case startswith =>
      cases u <;> first | exact h.elim | skip
      rw [px.str]
      exact mW.by mt_startswith ⟨a, _, rfl, rfl, fin (.bl _) h⟩
    all_goals exact h.elim
  · cases f <;> first | exact h.elim | (cases u <;> exact h.elim)
theorem noCall_base {eo : Expr} {y : Str} {env : PySem.Env} (h : noCall eo = true) (w : Sem Value) : attributeBase eo y env w = w := by
  cases eo <;> first | rfl | exact Bool.noConfusion h
theorem se_bm (f : Bm) {o : E} {as : Es} (ho : SE pr n o) (hs : SEs pr n as) : SE pr n (.bm f o as) := by
  intro me X W e m env L k z Hb H ad σ Q C tk mh h R E Z hk
  cases as with
  | nil => cases e <;> exact Bool.noConfusion mh
  | cons a as =>
  cases as with
  | cons _ _ => cases e <;> exact Bool.noConfusion mh
  | nil =>
  cases e <;> first | exact Bool.noConfusion mh | skip
  rename_i ef es kws q2
  cases ef <;> first | exact Bool.noConfusion mh | skip
  rename_i eo y q
  rcases es with _ | ⟨e, _ | ⟨_, _⟩⟩ <;> first | exact Bool.noConfusion mh | skip
  rcases kws with _ | ⟨_, _⟩ <;> first | exact Bool.noConfusion mh | skip
  have mh : (bmB f && (q.endLine == q2.line) && decide (y = bmN f) && noCall eo && noStar e && mE pr o me eo && mE pr a me e) = true := mh
  simp only [Bool.and_eq_true, decide_eq_true_eq] at mh
  obtain ⟨⟨⟨⟨⟨⟨m0, m1⟩, rfl⟩, m3⟩, m4⟩, m5⟩, m6⟩ := mh
  have ms : mEs pr (.cons a .nil) me [e] = true := by
    show (noStar e && mE pr a me e && true) = true
    rw [m4, m6]; rfl
  unfold wpE at h
  have st := star_of (es := []) (env := X.env) m4
  have fin : tBM X.K "str" (mW X (bmI f)) (wX X eo) (wA X [e]) σ H Q := by
    refine ho C tk m5 h R E Z fun v x L1 Hb1 H1 ad1 hh R1 s1 r1 => ?_
    cases x <;> first | exact hh.elim | skip
    rename_i u
    cases u <;> first | exact hh.elim | skip
    rename_i s
    cases (show Rep pr.G Hb1 v (.str s) from r1)
    refine ⟨rfl, ?_⟩
    refine hs C tk ms hh R1 (E.step s1) (Z.step s1) fun vs xs L2 Hb2 H2 ad2 h2 R2 s2 r2 => ?_
    cases q1 : dens L2 xs with
    | none => simp only [q1] at h2
    | some ds =>
      simp only [q1] at h2
      exact bmD_ok h2 R2 (hk.step (s1.trans s2)) (RepSs.dens (vs := []) R2 r2 q1)
  have hf : (((backTo q2 (starEach [e] X.env)).all (fun x => !x.1) && (backToKw q2 (keywordEach [] X.env)).all (fun x => x.1.isSome)) && decide ((([e] : List Expr).length + ([] : List Keyword).length + (if ([] : List Keyword).isEmpty then 0 else 1)) < 30)) = true := by rw [st]; rfl
  cases f <;> first | exact Bool.noConfusion m0 | skip
  case join => exact wX.by (pe_bm PySem.F.plainAttrs_str PySem.F.slot_str_join PySem.F.type_str_join mW.m wX.pe wA.pa (noCall_base m3 _) hf m1 st rfl) fin
  case split => exact wX.by (pe_bm PySem.F.plainAttrs_str PySem.F.slot_str_split PySem.F.type_str_split mW.m wX.pe wA.pa (noCall_base m3 _) hf m1 st rfl) fin
  case index => exact wX.by (pe_bm PySem.F.plainAttrs_str PySem.F.slot_str_index PySem.F.type_str_index mW.m wX.pe wA.pa (noCall_base m3 _) hf m1 st rfl) fin
  case find => exact wX.by (pe_bm PySem.F.plainAttrs_str PySem.F.slot_str_find PySem.F.type_str_find mW.m wX.pe wA.pa (noCall_base m3 _) hf m1 st rfl) fin
  case count => exact wX.by (pe_bm PySem.F.plainAttrs_str PySem.F.slot_str_count PySem.F.type_str_count mW.m wX.pe wA.pa (noCall_base m3 _) hf m1 st rfl) fin
  case startswith => exact wX.by (pe_bm PySem.F.plainAttrs_str PySem.F.slot_str_startswith PySem.F.type_str_startswith mW.m wX.pe wA.pa (noCall_base m3 _) hf m1 st rfl) fin
/-- the reading of a local's own value -/
theorem slot_ok {i : Nat} {x : Str} {p : Pos} {me : Me} {X : Cx} (C : Ctx pr n me X) (m1 : me.N[i]? = some x) (m2 : visB me.sc x = true) (m3 : dbgB x = true) :
    PE X (.Name x p) (tVar i) := pe_var (by rw [C.N]; exact m1) (vis_of C.sc m2) (dbg_of m3).1 (dbg_of m3).2
/-- a cell that is held by a slot -/
theorem cell_of {i j : Nat} {ds : List PD.D} {env : Env} {L : Tab} {Hb H : Hp} {ad : List Addr} {σ : St} (R : Rel pr.G Hb H ad L) (E : EnvR pr.G Hb ad env σ) (q : env[i]? = some (some (.c j))) (qL : L[j]? = some (.lst ds)) :
    ∃ a vs, σ[i]? = some (some (.ref a)) ∧ ad[j]? = some a ∧ H a = some (.lst vs) := by
  obtain ⟨v, e1, a, e2, rfl⟩ := E.at_ i _ q
  obtain ⟨_, vs, h1, _⟩ := R.cell j ds a qL e2
  exact ⟨a, vs, e1, e2, h1⟩
theorem se_pop (i : Nat) {e : E} (he : SE pr n e) : SE pr n (.pop i e) := by
  intro me X W ee0 m env L k z Hb H ad σ Q C tk mh h R E Z hk
  cases ee0 <;> first | exact Bool.noConfusion mh | skip
  rename_i ef es kws q2
  cases ef <;> first | exact Bool.noConfusion mh | skip
  rename_i en f q
  cases en <;> first | exact Bool.noConfusion mh | skip
  rename_i x p
  rcases es with _ | ⟨ee, _ | ⟨_, _⟩⟩ <;> first | exact Bool.noConfusion mh | skip
  rcases kws with _ | ⟨_, _⟩ <;> first | exact Bool.noConfusion mh | skip
  have mh : ((q.endLine == q2.line) && decide (me.N[i]? = some x) && visB me.sc x && dbgB x && decide (f = ("pop" : Str)) && noStar ee && mE pr e me ee) = true := mh
  simp only [Bool.and_eq_true, decide_eq_true_eq] at mh
  obtain ⟨⟨⟨⟨⟨⟨m0, m1⟩, m2⟩, m3⟩, rfl⟩, m5⟩, m6⟩ := mh
  unfold wpE at h
  cases q1 : env[i]? with
  | none => rw [q1] at h; exact h.elim
  | some o =>
    rw [q1] at h
    rcases o with _ | (_ | j)
    · exact h.elim
    · exact h.elim
    obtain ⟨⟨ds0, qL⟩, h⟩ := h
    obtain ⟨a, vs, e1, e2, h1⟩ := cell_of R E q1 qL
    refine wX.by (pe_bm PySem.F.plainAttrs_list PySem.F.slot_list_pop PySem.F.type_list_pop mt_popAt (slot_ok C m1 m2 m3) (pa_cons wX.pe pa_nil (star_of m5)) rfl (by rw [star_of m5]; rfl) m0 (star_of m5) rfl) ?_
    refine ⟨_, e1, .inl ⟨rfl, vs, SqL.of h1⟩, ?_⟩
    refine he C tk m6 h R E Z fun v sv L1 Hb1 H1 ad1 hh R1 s1 r1 => ?_
    cases sv with
    | c _ => exact hh.elim
    | d x =>
      cases x <;> first | exact hh.elim | skip
      rename_i t
      obtain ⟨ds, y, qd, t0, t1, hy, nx⟩ := hh
      have r1' : Rep pr.G Hb1 v (.int t) := r1
      cases r1'
      have ea := s1.pre e2
      obtain ⟨k0, ws, k1, k2⟩ := R1.cell j ds a qd ea
      obtain ⟨w, w1, w2⟩ := k2.get hy
      obtain ⟨R3, s3⟩ := R1.setO (oo := .lst _) (ct' := .lst _) qd rfl ea (k2.erase t.toNat)
      have hw := (List.getElem?_eq_some_iff.mp w1).1
      refine ⟨a, ws, t, t.toNat, w, rfl, rfl, k1, by omega, by omega, ?_, w1, hk _ (.d y) _ _ _ _ nx R3 (s1.trans s3) (Rep.mono s3.base w2)⟩
      unfold seqIndex?
      rw [if_neg (show ¬ t < 0 by omega)]
      have hc : (decide (0 ≤ t) && decide (t < (ws.length : Int))) = true := by
        rw [Bool.and_eq_true, decide_eq_true_eq, decide_eq_true_eq]
        omega
      exact if_pos hc
theorem compm_run {tg : Tg} {it : PD.It} {elt : E} (hi : SI pr n it) (he : SE pr n elt) {me : Me} {X : Cx} {W : WX} {et ei ee : Expr} {scope : Scope} {m : Bool} {env : Env} {L : Tab} {k : KV}
    {z : Xn → Tab → Prop} {Hb H : Hp} {ad : List Addr} {σ : St} {Q : VK} (C : Ctx pr n me X) (tk : Takes X W) (m3 : mTg (blkMe me scope) tg et = true) (m4 : mI pr it me et ei = true) (m5 : mE pr elt (blkMe me scope) ee = true)
    (h : wpE (Gam pr n) pr.gc (.compm tg it elt) m env L k z) (R : Rel pr.G Hb H ad L) (E : EnvR pr.G Hb ad env σ) (Z : ZOk pr.G z W σ Hb H ad) (hk : KOk pr.G k Q Hb H ad) :
    tLc (wI X et ei) (gAll X scope et) (ttAll X scope []) (teAll X scope ee) (tgSlots tg) σ H Q := by
  unfold wpE at h
  refine hi C tk m4 h R E Z fun items J L1 Hb1 H1 ad1 hh R1 s1 io => ?_
  obtain ⟨I, i0, turn, fin⟩ := hh
  intro D hD
  have hbD : Hb1 D = none := by
    cases q : Hb1 D with
    | none => rfl
    | some o => rw [R1.ext D o q] at hD; cases hD
  have nD : D ∉ ad1 := fun z => R1.ina D z hD
  -- what holds at turn i
  let P : Nat → Nat → Hp → Prop := fun i mm Hx => mm = items.length - i ∧ i ≤ items.length ∧ ∃ acc vs Hbx T, I i acc T ∧ T.length = L1.length ∧ Rel pr.G Hbx Hx ad1 T ∧ Stp Hb1 H1 ad1 Hbx Hx ad1 ∧ Hbx D = none ∧ Hx D = some (.lst vs) ∧ RepL pr.G Hbx vs acc
  refine ⟨P, ⟨items.length, by simp, Nat.zero_le _, [], [], Hb1, L1, i0, rfl, R1.other hbD nD, Stp.refl.other hD, hbD, upd_same, .nil⟩, ?_⟩
  rintro i mm Hx ⟨rfl, hi, acc, vs, Hbx, T, ii, hT, Rx, sx, hx0, hxD, rx⟩
  by_cases hlt : i < items.length
  · refine .inr ⟨io.go i Hx (sx.base.trans Rx.ext) hlt, fun H' => P (i + 1) (items.length - (i + 1)) H', fun H' p => ⟨_, by omega, p⟩, fun x H' y => ?_⟩
    obtain ⟨d, Hb2, hd, R2, s2, r2⟩ := io.yld i Hx Hbx ad1 T x H' sx.base Rx y hlt
    have t := turn i d acc T hd hT ii
    intro sb Hblk Ce cl fp
    have CB := C.blk sb Hblk scope Ce cl fp
    obtain ⟨tt, pg, run⟩ := tg_ok (pr := pr) (n := n) CB.N CB.nd CB.sc CB.fb CB.calm m3
    have EW := ((E.step s1).step sx).step s2 |>.wipe (tgSlots tg)
    refine fun pins s u Iv rv => pg.run pins s (L2.wipe σ (tgSlots tg)) H' x u _ Iv rv ?_
    refine run d x pr.G Hb2 ad1 (wipeE env (tgSlots tg)) (L2.wipe σ (tgSlots tg)) H' _ _ t R2.ext r2 EW fun env2 σ2 hc E2 l2 w2 => ?_
    refine ⟨?_, ?_⟩
    · rw [wipe_eq l2 w2]
      apply List.ext_getElem?
      intro j
      rw [wipe_get, wipe_get, wipe_len]
      by_cases hj : j ∈ tgSlots tg <;> simp [hj]
    · intro sb2 Hblk2 Ce2 cl2 fp2
      refine wTs.by pts_nil ?_
      unfold tYes
      dsimp only
      rw [if_pos rfl]
      intro sb3 Hblk3 Ce3 cl3 fp3
      have CB3 := C.blk sb3 Hblk3 scope Ce3 cl3 fp3
      obtain ⟨a3, b3⟩ := s2.apart hx0 nD hxD
      have sx3 := sx.trans s2
      refine he CB3 takes0 m5 hc R2 E2 (fun _ _ _ _ _ _ _ f => f.elim) fun v sv L4 Hb4 H4 ad4 h4 R4 s4 r4 => ?_
      obtain ⟨d4, rfl, sz, l4, i4⟩ := h4
      obtain ⟨ns, rfl, hns⟩ := s4.new
      obtain ⟨a4, b4⟩ := s4.apart a3 nD b3
      have R6 : Rel pr.G Hb4 H4 ad1 (L4.take L1.length) := by
        have R5 := R4
        rw [← List.take_append_drop L1.length L4] at R5
        exact R5.trunc (by rw [List.length_take, R1.len]; omega)
      have s6 : Stp Hb2 H' ad1 Hb4 H4 ad1 := s4.trunc
      have rx5 := (rx.mono s2.base).mono s4.base
      have sx6 := sx3.trans s6
      refine ⟨vs, b4, by rw [rx.length]; exact sz, rfl, hlt, _, _, Hb4, _, i4, by rw [List.length_take]; omega, R6.other a4 nD, sx6.other hD, a4, upd_same, rx5.append (.cons r4 .nil)⟩
  · have e : i = items.length := by omega
    subst e
    exact .inl ⟨io.stop _ Hx (sx.base.trans Rx.ext) (Nat.le_refl _), mk_at (fin acc T hT ii) Rx (hk.step s1) sx hD hx0 nD hxD rx⟩
theorem se_compm (tg : Tg) {it : PD.It} {elt : E} (hi : SI pr n it) (he : SE pr n elt) : SE pr n (.compm tg it elt) := by
  intro me X W e m env L k z Hb H ad σ Q C tk mh h R E Z hk
  have mh' : mE pr (.comp tg it elt .nil) me e = true := by
    cases e <;> first | exact Bool.noConfusion mh | skip
    rename_i ee gens scope pos
    rcases gens with _ | ⟨g, gs⟩ <;> first | exact Bool.noConfusion mh | skip
    obtain ⟨et, ei, ifs, asy⟩ := g
    rcases ifs with _ | ⟨_, _⟩ <;> first | (cases gs <;> exact Bool.noConfusion mh) | skip
    rcases gs with _ | ⟨_, _⟩ <;> first | exact Bool.noConfusion mh | skip
    have mh : (asy == 0 && blkC me.N me.sc scope (ownOf me.N (tgSlots tg)) && decide ((ownOf me.N (tgSlots tg)).map (·.2) = tgSlots tg) &&
      mTg (blkMe me scope) tg et && mI pr it me et ei && mE pr elt (blkMe me scope) ee) = true := mh
    show (asy == 0 && blkC me.N me.sc scope (ownOf me.N (tgSlots tg)) && decide ((ownOf me.N (tgSlots tg)).map (·.2) = tgSlots tg) &&
      mTg (blkMe me scope) tg et && mI pr it me et ei && mE pr elt (blkMe me scope) ee && mTs pr .nil (blkMe me scope) []) = true
    rw [mh]; rfl
  cases e <;> first | exact Bool.noConfusion mh | skip
  rename_i ee gens scope pos
  obtain ⟨et, ei, ifs, rfl, m1, m2, m3, m4, m5, m6⟩ := comp_form mh'
  cases ifs with
  | cons _ _ => exact Bool.noConfusion m6
  | nil =>
  have bo : BlkOk X.N X.env.scope scope (ownOf me.N (tgSlots tg)) := by rw [C.N, C.sc]; exact blkOk_by m1
  refine wX.by (pe_lc (wi := wI X et ei) (g := gAll X scope et) (tt := ttAll X scope []) (te := teAll X scope ee) C.calm C.nd wI.pi bo
    (fun s H Ce cl fp => ⟨fun pins s' σ H' v u Q I r hh => hh s H Ce cl fp pins s' u I r⟩)
    (fun s H Ce cl fp => ⟨fun pins s' σ H' Q I hh => hh s H Ce cl fp pins s' I⟩)
    (fun s H Ce cl fp => ⟨fun pins s' σ H' Q I hh => hh s H Ce cl fp pins s' I⟩) (fold_mI m4)) ?_
  rw [m2]
  exact compm_run hi he C tk m3 m4 m5 h R E Z hk
theorem se_upper {a : E} (ha : SE pr n a) : SE pr n (.upper a) := by
  intro me X W e m env L k z Hb H ad σ Q C tk mh h R E Z hk
  cases e <;> first | exact Bool.noConfusion mh | skip
  rename_i ef es kws q2
  cases ef <;> first | exact Bool.noConfusion mh | skip
  rename_i ea f q
  rcases es with _ | ⟨_, _⟩ <;> first | exact Bool.noConfusion mh | skip
  rcases kws with _ | ⟨_, _⟩ <;> first | exact Bool.noConfusion mh | skip
  have mh : ((q.endLine == q2.line) && decide (f = ("upper" : Str)) && noCall ea && mE pr a me ea) = true := mh
  simp only [Bool.and_eq_true, decide_eq_true_eq] at mh
  obtain ⟨⟨⟨m0, rfl⟩, m3⟩, m4⟩ := mh
  unfold wpE at h
  refine wX.by (pe_upper wX.pe (noCall_base m3 _) m0) ?_
  refine ha C tk m4 h R E Z fun v sv L1 Hb1 H1 ad1 hh R1 s1 r1 => ?_
  cases sv with
  | c _ => exact hh.elim
  | d x =>
    cases x <;> first | exact hh.elim | skip
    rename_i u
    obtain ⟨h1, h2⟩ := hh
    have r1' : Rep pr.G Hb1 v (.str u) := r1
    cases r1'
    exact ⟨⟨u, rfl⟩, u, rfl, rfl, by omega, hk _ (.d (.str _)) _ _ _ _ h2 R1 s1 (.str _)⟩
theorem starC2 {y w : Str} {i j : Nat} {c0 c1 : Pos} {env : PySem.Env} : starEach [.Constant (.str y) i c0, .Constant (.str w) j c1] env = [(false, eval (.Constant (.str y) i c0) env), (false, eval (.Constant (.str w) j c1) env)] := rfl
theorem upper_base {ea : Expr} {f g : Str} {q q2 : Pos} {es : List Expr} {kws : List Keyword} {env : PySem.Env} {w : Sem Value} : attributeBase (.Call (.Attribute ea f q) es kws q2) g env w = w := rfl
theorem se_uprep {a : E} (y0 w0 : Str) (ha : SE pr n a) : SE pr n (.uprep a y0 w0) := by
  intro me X W e m env L k z Hb H ad σ Q C tk mh h R E Z hk
  cases e <;> first | exact Bool.noConfusion mh | skip
  rename_i ef es kws q4
  cases ef <;> first | exact Bool.noConfusion mh | skip
  rename_i eu f2 q3
  cases eu <;> first | exact Bool.noConfusion mh | skip
  rename_i ef2 es2 kws2 q2
  cases ef2 <;> first | exact Bool.noConfusion mh | skip
  rename_i ea f q
  rcases es2 with _ | ⟨_, _⟩ <;> first | exact Bool.noConfusion mh | skip
  rcases kws2 with _ | ⟨_, _⟩ <;> first | exact Bool.noConfusion mh | skip
  rcases kws with _ | ⟨k1, kws⟩
  case cons => rcases es with _ | ⟨e1, _ | ⟨e2, _ | ⟨e3, es⟩⟩⟩ <;> first | exact Bool.noConfusion mh | (cases e1 <;> first | exact Bool.noConfusion mh | (rename_i c1 _ _; cases c1 <;> first | exact Bool.noConfusion mh | (cases e2 <;> first | exact Bool.noConfusion mh | (rename_i c2 _ _; cases c2 <;> exact Bool.noConfusion mh))))
  rcases es with _ | ⟨e1, _ | ⟨e2, _ | ⟨e3, es⟩⟩⟩
  case nil => exact Bool.noConfusion mh
  case cons.nil => cases e1 <;> first | exact Bool.noConfusion mh | (rename_i c1 _ _; cases c1 <;> exact Bool.noConfusion mh)
  case cons.cons.cons => cases e1 <;> first | exact Bool.noConfusion mh | (rename_i c1 _ _; cases c1 <;> first | exact Bool.noConfusion mh | (cases e2 <;> first | exact Bool.noConfusion mh | (rename_i c2 _ _; cases c2 <;> exact Bool.noConfusion mh)))
  cases e1 <;> first | exact Bool.noConfusion mh | skip
  rename_i c1 j1 p1
  cases c1 <;> first | exact Bool.noConfusion mh | skip
  rename_i y
  cases e2 <;> first | exact Bool.noConfusion mh | skip
  rename_i c2 j2 p2
  cases c2 <;> first | exact Bool.noConfusion mh | skip
  rename_i w
  have mh : ((q.endLine == q2.line) && (q3.endLine == q4.line) && decide (f = ("upper" : Str)) && decide (f2 = ("replace" : Str)) && decide (y0 = y) && decide (w0 = w) && !(y0 == w0) && noCall ea && mE pr a me ea) = true := mh
  simp only [Bool.and_eq_true, decide_eq_true_eq, Bool.not_eq_true'] at mh
  obtain ⟨⟨⟨⟨⟨⟨⟨⟨m0, m1⟩, rfl⟩, rfl⟩, rfl⟩, rfl⟩, m2⟩, m3⟩, m4⟩ := mh
  unfold wpE at h
  intro pins s I
  refine PySem.Call_method2 upper_base starC2 m1 ?_
  refine PySem.Call_method0 (noCall_base m3 _) m0 ?_
  refine thn (ha C tk m4 h R E Z (Q := fun v H1 => ∃ u, v = V.str u ∧ u.length ≤ 5000000 ∧ (Txt.upper u).length + ((Txt.upper u).length + 1) * w0.length ≤ 16777216 ∧ Q (.str (Txt.replace (Txt.upper u) y0 w0)) H1) (fun v sv L1 Hb1 H1 ad1 hh R1 s1 r1 => ?_) pins s I) fun v s1 q => ?_
  · cases sv with
    | c _ => exact hh.elim
    | d x =>
      cases x <;> first | exact hh.elim | skip
      rename_i u
      obtain ⟨h1, h2, h3⟩ := hh
      cases (show Rep pr.G Hb1 v (.str u) from r1)
      exact ⟨u, rfl, h1, h2, hk _ (.d (.str _)) _ _ _ _ h3 R1 s1 (.str _)⟩
  · obtain ⟨x, H1, I1, r1, u, rfl, h1, h2, h3⟩ := q
    obtain ⟨t, rfl⟩ := r1
    refine ⟨"str", _, PySem.F.plainAttrs_str, PySem.F.slot_str_upper, PySem.F.type_str_upper, PySem.typeIs_str _ _ _, (fun _ e => nomatch e), PySem.Calls.callWith_builtin rfl (PySem.evalArgs_none ?_)⟩
    refine PySem.SC.upper (PyProof.Rows.short24 (by have := PyProof.Rows.len_upper u; omega)) ?_
    refine ⟨"str", _, PySem.F.plainAttrs_str, PySem.F.slot_str_replace, PySem.F.type_str_replace, PySem.typeIs_str _ _ _, (fun _ e => nomatch e), PySem.Calls.callWith_builtin rfl (PySem.Calls.evalArgs_plain (PySem.Calls.spliced_cons ?_))⟩
    refine PySem.Calls.Constant_str (PySem.Calls.spliced_cons (PySem.Calls.Constant_str (PySem.Calls.spliced_nil ?_)))
    exact PySem.SC.replace (by show s1.toks + 1 ≠ 0; omega) (by show s1.toks + 1 + 1 ≠ 0; omega) (by show s1.toks + 1 ≠ s1.toks + 1 + 1; omega) m2 h2 fun t' k => ⟨.str _, H1, I1.tok k, ⟨t', rfl⟩, h3⟩
theorem se_repl (o : E) (y : Str) (b : E) : SE pr n (.repl o y b) := by
  intro me X W e m env L k z Hb H ad σ Q C tk mh h R E Z hk
  cases e <;> exact Bool.noConfusion mh
/-! ## all of it -/
mutual
theorem snd_E : ∀ a : E, SE pr n a
  | .non => se_non
  | .bl b => se_bl b
  | .int i => se_int i
  | .str s => se_str s
  | .var i => se_var i
  | .gc k => se_gc k
  | .bin op a b => se_bin op (snd_E a) (snd_E b)
  | .neg a => se_neg (snd_E a)
  | .cmp op a b => se_cmp op (snd_E a) (snd_E b)
  | .chain o1 o2 a b c => se_chain o1 o2 (snd_E a) (snd_E b) (snd_E c)
  | .and a b => se_and (snd_E a) (snd_E b)
  | .or a b => se_or (snd_E a) (snd_E b)
  | .not a => se_not (snd_E a)
  | .ife c a b => se_ife (snd_T c) (snd_E a) (snd_E b)
  | .call f as => se_call f (snd_Es as)
  | .bi f as => se_bi f (snd_Es as)
  | .bm f o as => se_bm f (snd_E o) (snd_Es as)
  | .isi a t => se_isi t (snd_E a)
  | .idx a i => se_idx (snd_E a) (snd_E i)
  | .slc a lo hi => se_slc (snd_E a) (snd_E lo) (snd_E hi)
  | .rev a => se_rev (snd_E a)
  | .edict => se_edict
  | .tdict a b => se_tdict (snd_E a) (snd_E b)
  | .lst as => se_lst (snd_Es as)
  | .tup as => se_tup (snd_Es as)
  | .mklist a => se_mklist (snd_E a)
  | .mkrange a => se_mkrange (snd_E a)
  | .comp tg it elt cs => se_comp tg (snd_I it) (snd_E elt) (snd_Ts cs)
  | .compk tg x elt cs => se_compk tg x (snd_E elt) (snd_Ts cs)
  | .fld c a f => se_fld c f (snd_E a)
  | .meth c f o as => se_meth c f (snd_E o) (snd_Es as)
  | .make f as => se_make f (snd_Es as)
  | .setlen a => se_setlen (snd_E a)
  | .setlenI a => se_setlenI (snd_E a)
  | .pop i e => se_pop i (snd_E e)
  | .compm tg it elt => se_compm tg (snd_I it) (snd_E elt)
  | .upper a => se_upper (snd_E a)
  | .uprep a y w => se_uprep y w (snd_E a)
  | .repl o y b => se_repl o y b
  | .makeb f j as => se_makeb f j (snd_Es as)
theorem snd_Es : ∀ a : Es, SEs pr n a
  | .nil => ses_nil
  | .cons a as => ses_cons (snd_E a) (snd_Es as)
theorem snd_T : ∀ a : T, ST pr n a
  | .and a b => st_and (snd_T a) (snd_T b)
  | .or a b => st_or (snd_T a) (snd_T b)
  | .not a => st_not (snd_T a)
  | .cmp op a b => st_cmp op (snd_E a) (snd_E b)
  | .chain o1 o2 a b c => st_chain o1 o2 (snd_E a) (snd_E b) (snd_E c)
  | .val a => st_val (snd_E a)
theorem snd_Ts : ∀ a : Ts, ∀ c, a = .cons c .nil → ST pr n c
  | .nil, _, h => nomatch h
  | .cons c _, _, h => by cases h; exact snd_T c
theorem snd_I : ∀ a : PD.It, SI pr n a
  | .seq a => si_seq (snd_E a)
  | .range1 b => si_range1 (snd_E b)
  | .range2 a b => si_range2 (snd_E a) (snd_E b)
  | .range3 a b => si_range3 (snd_E a) (snd_E b)
  | .enum a => si_enum (snd_E a)
  | .zip a b => si_zip (snd_E a) (snd_E b)
  | .reversed a => si_rev (snd_E a)
end
end
end PD

namespace PD
open PySem L2
def wS (X : Cx) (st : Stmt) : TS := fun D σ H => ∀ (pins : List (Addr × Obj)) (s : Shared), Inv X pins σ H s → wpAny (model X.prog X.w) X.A (exec st X.env) (SP X pins D) X.xe s
theorem wS.ps {X : Cx} {st : Stmt} : PS X st (wS X st) := ⟨fun pins s σ H D I h => h pins s I⟩
theorem wS.by {X : Cx} {st : Stmt} {t : TS} {D : Ends} {σ : St} {H : Hp} (p : PS X st t) (h : t D σ H) : wS X st D σ H := fun pins s I => p.run pins s σ H D I h
def wSs (X : Cx) (sts : List Stmt) : TS := fun D σ H => ∀ (pins : List (Addr × Obj)) (s : Shared), Inv X pins σ H s → wpAny (model X.prog X.w) X.A (execs sts X.env) (SP X pins D) X.xe s
theorem wSs.pss {X : Cx} {sts : List Stmt} : PSs X sts (wSs X sts) := ⟨fun pins s σ H D I h => h pins s I⟩
theorem wSs.by {X : Cx} {sts : List Stmt} {t : TS} {D : Ends} {σ : St} {H : Hp} (p : PSs X sts t) (h : t D σ H) : wSs X sts D σ H := fun pins s I => p.run pins s σ H D I h
/-- what is wanted behind a statement, on data and on the heap -/
structure DOk (G : Gs) (K : Ko) (D : Ends) (W : WX) (Hb H : Hp) (ad : List Addr) : Prop where
  nx : ∀ env' L' Hb' H' ad' σ', K.nx env' L' → Rel G Hb' H' ad' L' → EnvR G Hb' ad' env' σ' → Stp Hb H ad Hb' H' ad' → D.nx σ' H'
  bk : ∀ env' L' Hb' H' ad' σ', K.bk env' L' → Rel G Hb' H' ad' L' → EnvR G Hb' ad' env' σ' → Stp Hb H ad Hb' H' ad' → D.bk σ' H'
  ct : ∀ env' L' Hb' H' ad' σ', K.ct env' L' → Rel G Hb' H' ad' L' → EnvR G Hb' ad' env' σ' → Stp Hb H ad Hb' H' ad' → D.ct σ' H'
  rt : ∀ v sv L' Hb' H' ad', K.rt sv L' → Rel G Hb' H' ad' L' → Stp Hb H ad Hb' H' ad' → RepS G Hb' ad' v sv → D.rt v H'
  z : ∀ x env' L' cls d Hb' H' ad' σ', K.z x env' L' → Rel G Hb' H' ad' L' → EnvR G Hb' ad' env' σ' → Stp Hb H ad Hb' H' ad' → XRep G H' x cls d → W cls d σ' H'
theorem DOk.step {G : Gs} {K : Ko} {D : Ends} {W : WX} {Hb H Hb1 H1 : Hp} {ad ad1 : List Addr} (a : Stp Hb H ad Hb1 H1 ad1) (d : DOk G K D W Hb H ad) : DOk G K D W Hb1 H1 ad1 :=
  ⟨fun e L Hb' H' ad' σ' h R E s => d.nx e L Hb' H' ad' σ' h R E (a.trans s), fun e L Hb' H' ad' σ' h R E s => d.bk e L Hb' H' ad' σ' h R E (a.trans s), fun e L Hb' H' ad' σ' h R E s => d.ct e L Hb' H' ad' σ' h R E (a.trans s),
    fun v sv L Hb' H' ad' h R s => d.rt v sv L Hb' H' ad' h R (a.trans s), fun x e L c dd Hb' H' ad' σ' h R E s => d.z x e L c dd Hb' H' ad' σ' h R E (a.trans s)⟩
/-- the exceptions of an expression -/
theorem DOk.Z {G : Gs} {K : Ko} {D : Ends} {W : WX} {Hb H : Hp} {ad : List Addr} {env : Env} {σ : St} (d : DOk G K D W Hb H ad) (E : EnvR G Hb ad env σ) : ZOk G (fun x => K.z x env) W σ Hb H ad :=
  fun x cls dd L' Hb' H' ad' hz R s xr => d.z x env L' cls dd Hb' H' ad' σ hz R (E.step s) s xr
section
variable {pr : Pr} {n : Nat}
/-- how the body stands -/
structure Po (X : Cx) : Prop where
  p : PassesOwn (model X.prog X.w) X.A X.env X.xe
  hs : X.stack = X.env :: X.outer
  hf : X.env.frame = some X.env.locals
def SS (pr : Pr) (n : Nat) (a : PD.S) : Prop := ∀ {me : Me} {X : Cx} {W : WX} {st : Stmt} {env : Env} {L : Tab} {K : Ko} {Hb H : Hp} {ad : List Addr} {σ : St} {D : Ends}, Ctx pr n me X → Takes X W → Po X →
  mS pr a me st = true → wpS (Gam pr n) pr.gc a env L K → Rel pr.G Hb H ad L → EnvR pr.G Hb ad env σ → DOk pr.G K D W Hb H ad → wS X st D σ H
def SSs (pr : Pr) (n : Nat) (a : PD.Ss) : Prop := ∀ {me : Me} {X : Cx} {W : WX} {sts : List Stmt} {env : Env} {L : Tab} {K : Ko} {Hb H : Hp} {ad : List Addr} {σ : St} {D : Ends}, Ctx pr n me X → Takes X W → Po X →
  mSs pr a me sts = true → wpSs (Gam pr n) pr.gc a env L K → Rel pr.G Hb H ad L → EnvR pr.G Hb ad env σ → DOk pr.G K D W Hb H ad → wSs X sts D σ H
/-! ### names given -/
theorem asg_ok {m : Bool} {i : Nat} {e : E} {me : Me} {X : Cx} {W : WX} {x : Str} {p pos : Pos} {ee : Expr} {env : Env} {L : Tab} {k : KV} {z : Xn → Tab → Prop} {Hb H : Hp} {ad : List Addr} {σ : St} {D : Ends} (C : Ctx pr n me X) (tk : Takes X W)
    (m1 : me.N[i]? = some x) (m2 : locB me x = true) (m5 : ckF e = true) (m3 : compA me x p ee = true) (m4 : mE pr e me ee = true) (h : wpE (Gam pr n) pr.gc e m env L k z) (R : Rel pr.G Hb H ad L) (E : EnvR pr.G Hb ad env σ) (Z : ZOk pr.G z W σ Hb H ad)
    (hk : ∀ v sv L' Hb' H' ad', k sv L' → Rel pr.G Hb' H' ad' L' → Stp Hb H ad Hb' H' ad' → RepS pr.G Hb' ad' v sv → D.nx (σ.set i (some v)) H') : wS X (.Assign [.Name x p] ee pos) D σ H := by
  obtain ⟨hx, hf⟩ := loc_of C.sc C.fb m2
  have gen : noComp ee = true → wS X (.Assign [.Name x p] ee pos) D σ H := fun nc =>
    wS.by (ps_set C.nd (by rw [C.N]; exact m1) hx wX.pe (swap_of nc) hf) (snd_E e C tk m4 h R E Z fun v sv L' Hb' H' ad' q R' s' r => hk v sv L' Hb' H' ad' q R' s' r)
  by_cases nc : noComp ee = true
  · exact gen nc
  · cases ee <;> first | exact absurd rfl nc | skip
    case SetComp => exact Bool.noConfusion m3
    case DictComp => exact Bool.noConfusion m3
    rename_i elt gens scope cpos
    have m3 : (celB me x || (locl me x && (p.line == cpos.line) && !(scope.names.any fun (n, k) => n == x && (k == .local || k == .cell)))) = true := m3
    rcases Bool.or_eq_true _ _ |>.mp m3 with c1 | m3
    case inl =>
      have hl : X.env.scope.names.lookup x = some .cell := by
        unfold celB at c1
        rw [C.sc]
        cases q : me.sc.names.lookup x with
        | none => rw [q] at c1; cases c1
        | some kk => rw [q] at c1; cases kk <;> first | (cases c1; done) | rfl
      have sw : swapsWith (.ListComp elt gens scope cpos) (some (.Name x p)) pos.line X.env = pure false := by
        have e : (X.env.kindOf x == some NameKind.local) = false := by
          show (X.env.scope.names.lookup x == some NameKind.local) = false
          rw [hl]; rfl
        unfold swapsWith
        simp only [e, Bool.and_false, Bool.false_and]
      exact wS.by (ps_set C.nd (by rw [C.N]; exact m1) hx wX.pe sw hf) (snd_E e C tk m4 h R E Z fun v sv L' Hb' H' ad' q R' s' r => hk v sv L' Hb' H' ad' q R' s' r)
    simp only [Bool.and_eq_true, Bool.not_eq_true'] at m3
    obtain ⟨⟨l1, l2⟩, l3⟩ := m3
    have hl : X.env.scope.names.lookup x = some .local := by
      unfold locl at l1
      rw [C.sc]
      cases q : me.sc.names.lookup x with
      | none => rw [q] at l1; cases l1
      | some kk => rw [q] at l1; cases kk <;> first | (cases l1; done) | rfl
    intro pins s I
    have sw := sw_true (elt := elt) (gs := gens) (scope := scope) (pos := cpos) (py := p) (y := x) (l := pos.line) I.ok.kind hl l2 l3
    cases e <;> first | exact Bool.noConfusion m4 | exact Bool.noConfusion m5 | skip
    case bm f o as =>
      cases as with
      | nil => exact Bool.noConfusion m4
      | cons a2 as2 => cases as2 <;> exact Bool.noConfusion m4
    rename_i tg it elt' cs
    obtain ⟨et, ei, ifs, rfl, q1, q2, q3, q4, q5, q6⟩ := comp_form m4
    have bo : BlkOk X.N X.env.scope scope (ownOf me.N (tgSlots tg)) := by rw [C.N, C.sc]; exact blkOk_by q1
    have P := ps_setLc (spos := pos) (wi := wI X et ei) (g := gAll X scope et) (tt := ttAll X scope ifs) (te := teAll X scope elt) C.calm C.nd (by rw [C.N]; exact m1) hl sw wI.pi bo
      (fun s H Ce cl fp => ⟨fun pins s' σ H' v u Q I r hh => hh s H Ce cl fp pins s' u I r⟩)
      (fun s H Ce cl fp => ⟨fun pins s' σ H' Q I hh => hh s H Ce cl fp pins s' I⟩)
      (fun s H Ce cl fp => ⟨fun pins s' σ H' Q I hh => hh s H Ce cl fp pins s' I⟩) (fold_mI q4)
    rw [q2] at P
    exact P.run pins s σ H D I (comp_run (snd_I it) (snd_E elt') (snd_Ts cs) C tk q3 q4 q5 q6 h R E Z fun v sv L' Hb' H' ad' q R' s' r => hk v sv L' Hb' H' ad' q R' s' r)
theorem ss_asg (i : Nat) (e : E) : SS pr n (.asg (.v i) e) := by
  intro me X W st env L K Hb H ad σ D C tk po mh h R E d
  cases st <;> first | exact Bool.noConfusion mh | skip
  rename_i tgs ee pos
  rcases tgs with _ | ⟨t, tl⟩ <;> first | exact Bool.noConfusion mh | skip
  cases t <;> first | exact Bool.noConfusion mh | skip
  rename_i x p
  rcases tl with _ | ⟨_, _⟩ <;> first | exact Bool.noConfusion mh | skip
  have mh : (decide (me.N[i]? = some x) && locB me x && (ckF e && compA me x p ee) && mE pr e me ee) = true := mh
  simp only [Bool.and_eq_true, decide_eq_true_eq] at mh
  unfold wpS at h
  exact asg_ok C tk mh.1.1.1 mh.1.1.2 mh.1.2.1 mh.1.2.2 mh.2 h R E (d.Z E) fun v sv L' Hb' H' ad' q R' s' r => d.nx _ _ _ _ _ _ q R' ((E.step s').set i r) s'
theorem ss_own (i : Nat) (e : E) : SS pr n (.own i e) := by
  intro me X W st env L K Hb H ad σ D C tk po mh h R E d
  cases st <;> first | exact Bool.noConfusion mh | skip
  rename_i tgs ee pos
  rcases tgs with _ | ⟨t, tl⟩ <;> first | exact Bool.noConfusion mh | skip
  cases t <;> first | exact Bool.noConfusion mh | skip
  rename_i x p
  rcases tl with _ | ⟨_, _⟩ <;> first | exact Bool.noConfusion mh | skip
  have mh : (decide (me.N[i]? = some x) && locB me x && (ckF e && compA me x p ee) && mE pr e me ee) = true := mh
  simp only [Bool.and_eq_true, decide_eq_true_eq] at mh
  unfold wpS at h
  exact asg_ok C tk mh.1.1.1 mh.1.1.2 mh.1.2.1 mh.1.2.2 mh.2 h R E (d.Z E) fun v sv L' Hb' H' ad' q R' s' r => d.nx _ _ _ _ _ _ q R' ((E.step s').set i r) s'
theorem wG.pg {X : Cx} {tg : Expr} : PG X tg (wG X tg) := ⟨fun pins s σ H v u Q I r h => h pins s u I r⟩
theorem wG.by {X : Cx} {tg : Expr} {t : TG} {v : V} {σ : St} {H : Hp} {Q : St → Hp → Prop} (p : PG X tg t) (h : t v σ H Q) : wG X tg v σ H Q := fun pins s u I r => p.run pins s σ H v u Q I r h
theorem sole_of {t e : Expr} {l : Nat} {env : PySem.Env} (h : noComp e = true) : swapsWithSole [t] e l env = pure false := by
  unfold swapsWithSole
  exact swap_of h
theorem swp_of {ts : List Expr} {kk : Nat} {p : Pos} {e : Expr} {env : PySem.Env} (h : noTup e = true) : swappedStores [.Tuple ts kk p] e env = pure none := by
  cases e <;> first | rfl | exact Bool.noConfusion h
theorem ss_unpack (is : List Nat) (e : E) : SS pr n (.asg (.t is) e) := by
  intro me X W st env L K Hb H ad σ D C tk po mh h R E d
  cases st <;> first | exact Bool.noConfusion mh | skip
  rename_i tgs ee pos
  rcases tgs with _ | ⟨t, tl⟩ <;> first | exact Bool.noConfusion mh | skip
  cases t <;> first | exact Bool.noConfusion mh | skip
  rename_i es kk p
  rcases tl with _ | ⟨_, _⟩ <;> first | exact Bool.noConfusion mh | skip
  have mh : (mTgs me is es && noComp ee && noTup ee && mE pr e me ee) = true := mh
  simp only [Bool.and_eq_true] at mh
  obtain ⟨⟨⟨m1, m2⟩, m3⟩, m4⟩ := mh
  obtain ⟨t, pg, l1, l2, l3, run⟩ := tgs_ok (pr := pr) (n := n) C.N C.nd C.sc C.fb is es m1
  unfold wpS at h
  refine wS.by (ps_asg wX.pe wG.pg (sole_of m2) (swp_of m3) rfl) ?_
  refine snd_E e C tk m4 h R E (d.Z E) fun v sv L' Hb' H' ad' hh R' s' r => ?_
  cases q : den L' sv with
  | none => simp only [q] at hh
  | some u =>
    simp only [q] at hh
    cases u <;> first | exact hh.elim | skip
    case lst ds =>
      obtain ⟨a, vs, rfl, h3, r2⟩ := (R'.read r q).lst R'.ext
      refine wG.by (pg_lst C.calm pg l2 l3) ⟨a, vs, rfl, SqL.of h3, by rw [r2.length, ← l1]; exact hh.1.symm, ?_⟩
      exact run ds vs pr.G Hb' ad' env σ H' _ hh.1 r2 (E.step s') fun σ' E' _ _ => d.nx _ _ _ _ _ _ hh.2 R' E' s'
    case tup ds =>
      obtain ⟨a, vs, rfl, h3, r2⟩ := (R'.read r q).tup R'.ext
      refine wG.by (pg_tup C.calm pg l2 l3) ⟨a, vs, rfl, SqT.of h3, by rw [r2.length, ← l1]; exact hh.1.symm, ?_⟩
      exact run ds vs pr.G Hb' ad' env σ H' _ hh.1 r2 (E.step s') fun σ' E' _ _ => d.nx _ _ _ _ _ _ hh.2 R' E' s'
theorem noStar_any {a b : Expr} (h1 : noStar a = true) (h2 : noStar b = true) : ([a, b].any fun e => match e with | .Starred _ _ => true | _ => false) = false := by
  cases a <;> first | exact Bool.noConfusion h1 | skip
  all_goals cases b <;> first | exact Bool.noConfusion h2 | rfl
theorem par_sw {env : PySem.Env} {x y : Str} {p1 p2 p3 p4 : Pos} {k1 k2 : Nat} {a b : Expr} (hk : env.scope.kind = .function) (h1 : env.scope.names.lookup x = some .local) (h2 : env.scope.names.lookup y = some .local) (hl : p1.line = p2.line) (hn : x ≠ y)
    (f : okFold a b = true) : swappedStores [.Tuple [.Name x p1, .Name y p2] k1 p3] (.Tuple [a, b] k2 p4) env = pure (some [x, y]) := by
  unfold okFold at f
  simp only [Bool.and_eq_true, Bool.not_eq_true'] at f
  obtain ⟨⟨⟨f1, f2⟩, f3⟩, f4⟩ := f
  have kx : env.kindOf x = some .local := h1
  have ky : env.kindOf y = some .local := h2
  have hb : env.blockKind = .function := by unfold Env.blockKind; rw [hk]; rfl
  have st := noStar_any f1 f2
  have hxy : (y == x) = false := by rw [beq_eq_false_iff_ne]; exact fun z => hn z.symm
  unfold swappedStores
  simp only [hb, List.length_cons, List.length_nil, List.head?_cons, Option.map_some, Option.getD_some, Expr.pos, List.filterMap_cons, List.filterMap_nil, kx, ky, hl, f3, f4]
  simp [List.eraseDups_cons, hxy, f3, f4]
  intro z
  exfalso
  have key : ∀ e : Expr, noStar e = true → ¬ (match e with | .Starred _ _ => true | _ => false) = true := fun e h z => by
    cases e <;> first | exact Bool.noConfusion h | exact Bool.noConfusion z
  rcases z with z | z
  · exact key a f1 z
  · exact key b f2 z
theorem locl_of {me : Me} {X : Cx} {x : Str} (sc : X.env.scope = me.sc) (l1 : locl me x = true) : X.env.scope.names.lookup x = some .local := by
  unfold locl at l1
  rw [sc]
  cases q : me.sc.names.lookup x with
  | none => rw [q] at l1; cases l1
  | some kk => rw [q] at l1; cases kk <;> first | (cases l1; done) | rfl
theorem ss_par (i j : Nat) (a b : E) : SS pr n (.par i j a b) := by
  intro me X W st env L K Hb H ad σ D C tk po mh h R E d
  cases st <;> first | exact Bool.noConfusion mh | skip
  rename_i tgs ee pos
  rcases tgs with _ | ⟨t, tl⟩ <;> first | exact Bool.noConfusion mh | skip
  cases t <;> first | exact Bool.noConfusion mh | skip
  rename_i es kk p
  rcases es with _ | ⟨e1, es⟩ <;> first | exact Bool.noConfusion mh | skip
  cases e1 <;> first | exact Bool.noConfusion mh | skip
  rename_i x p1
  rcases es with _ | ⟨e2, es⟩ <;> first | exact Bool.noConfusion mh | skip
  cases e2 <;> first | exact Bool.noConfusion mh | skip
  rename_i y p2
  rcases es with _ | ⟨_, _⟩ <;> first | exact Bool.noConfusion mh | skip
  rcases tl with _ | ⟨_, _⟩ <;> first | exact Bool.noConfusion mh | skip
  cases ee <;> first | exact Bool.noConfusion mh | skip
  rename_i es2 kk2 p3
  rcases es2 with _ | ⟨ea, _ | ⟨eb, _ | ⟨_, _⟩⟩⟩ <;> first | exact Bool.noConfusion mh | skip
  have mh : (decide (me.N[i]? = some x) && decide (me.N[j]? = some y) && decide (i ≠ j) && locl me x && locl me y && decide (p1.line = p2.line) && decide (x ≠ y) && okFold ea eb && mE pr a me ea && mE pr b me eb) = true := mh
  simp only [Bool.and_eq_true, decide_eq_true_eq] at mh
  obtain ⟨⟨⟨⟨⟨⟨⟨⟨⟨m1, m2⟩, m3⟩, m4⟩, m5⟩, m6⟩, m7⟩, m8⟩, m9⟩, m10⟩ := mh
  have hx := locl_of C.sc m4
  have hy := locl_of C.sc m5
  have f12 : noStar ea = true ∧ noStar eb = true := by
    unfold okFold at m8
    simp only [Bool.and_eq_true] at m8
    exact m8.1.1
  unfold wpS at h
  intro pins s I
  refine (ps_par C.calm C.nd (by rw [C.N]; exact m1) (by rw [C.N]; exact m2) m3 hx hy (pa_cons wX.pe (pa_cons wX.pe pa_nil (star_of f12.2)) (star_of f12.1)) (par_sw I.ok.kind hx hy m6 m7 m8) rfl).run pins s σ H D I ?_
  exact two (k2 := fun x y L2 => K.nx (setS (setS env i x) j y) L2) (snd_E a) (snd_E b) C tk m9 m10 h R E (d.Z E) fun v w x y L2 Hb2 H2 ad2 hh R2 s2 r1 r2 => ⟨v, w, rfl, d.nx _ _ _ _ _ _ hh R2 (((E.step s2).set i r1).set j r2) s2⟩
theorem ss_aug (i : Nat) (op : BOp) (e : E) : SS pr n (.aug i op e) := by
  intro me X W st env L K Hb H ad σ D C tk po mh h R E d
  have key : ∀ {o : Operator} {f : Int → Int → Int} {x : Str} {p pos : Pos} {ee : Expr}, PIp X o (ipI f) → st = .AugAssign (.Name x p) o ee pos → (decide (me.N[i]? = some x) && locB me x && mE pr e me ee) = true →
      (∀ a b L1, (match op with | .add => K.nx (setS env i (.d (.int (a + b)))) L1 | .sub => K.nx (setS env i (.d (.int (a - b)))) L1 | _ => False) → K.nx (setS env i (.d (.int (f a b)))) L1) → wS X st D σ H := fun {o f x p pos ee} ip es mm hf => by
    subst es
    simp only [Bool.and_eq_true, decide_eq_true_eq] at mm
    obtain ⟨⟨m1, m2⟩, m3⟩ := mm
    obtain ⟨hx, hf'⟩ := loc_of C.sc C.fb m2
    unfold wpS at h
    cases q : env[i]? with
    | none => rw [q] at h; exact h.elim
    | some ov =>
      cases ov with
      | none => rw [q] at h; exact h.elim
      | some sv =>
        rw [q] at h
        obtain ⟨v, e1, r⟩ := E.at_ i sv q
        refine wS.by (ps_aug C.nd (by rw [C.N]; exact m1) hx wX.pe ip hf') ⟨v, e1, ?_⟩
        refine snd_E e C tk m3 h R E (d.Z E) fun w y L1 Hb1 H1 ad1 hh R1 s1 r1 => ?_
        cases sv <;> first | exact hh.elim | skip
        rename_i x1
        cases x1 <;> first | exact hh.elim | skip
        rename_i a
        cases y <;> first | exact hh.elim | skip
        rename_i y1
        cases y1 <;> first | exact hh.elim | skip
        rename_i b
        cases (show Rep pr.G Hb v (.int a) from r)
        cases (show Rep pr.G Hb1 w (.int b) from r1)
        exact ⟨a, b, rfl, rfl, d.nx _ _ _ _ _ _ (hf a b L1 hh) R1 ((E.step s1).set (sv := .d (.int (f a b))) i (.int _)) s1⟩
  cases st <;> first | (cases op <;> exact Bool.noConfusion mh) | skip
  rename_i t o ee pos
  cases t <;> first | (cases op <;> exact Bool.noConfusion mh) | skip
  rename_i x p
  cases op <;> first | exact Bool.noConfusion mh | skip
  case add => cases o <;> first | exact Bool.noConfusion mh | exact key ip_add rfl mh fun a b L1 h => h
  case sub => cases o <;> first | exact Bool.noConfusion mh | exact key ip_sub rfl mh fun a b L1 h => h
theorem ss_ret (e : E) : SS pr n (.ret e) := by
  intro me X W st env L K Hb H ad σ D C tk po mh h R E d
  cases st <;> first | exact Bool.noConfusion mh | skip
  rename_i v pos
  cases v <;> first | exact Bool.noConfusion mh | skip
  have mh : mE pr e me _ = true := mh
  unfold wpS at h
  exact wS.by (ps_ret wX.pe) (snd_E e C tk mh h R E (d.Z E) fun v sv L1 Hb1 H1 ad1 hh R1 s1 r1 => d.rt v sv L1 Hb1 H1 ad1 hh R1 s1 r1)
theorem ss_retO (e : E) : SS pr n (.retO e) := by
  intro me X W st env L K Hb H ad σ D C tk po mh h R E d
  cases st <;> first | exact Bool.noConfusion mh | skip
  rename_i v pos
  cases v <;> first | exact Bool.noConfusion mh | skip
  have mh : mE pr e me _ = true := mh
  unfold wpS at h
  exact wS.by (ps_ret wX.pe) (snd_E e C tk mh h R E (d.Z E) fun v sv L1 Hb1 H1 ad1 hh R1 s1 r1 => d.rt v sv L1 Hb1 H1 ad1 hh R1 s1 r1)
theorem ss_never : SS pr n .never := by
  intro me X W st env L K Hb H ad σ D C tk po mh h R E d
  unfold wpS at h
  exact h.elim
theorem ss_retN : SS pr n .retN := by
  intro me X W st env L K Hb H ad σ D C tk po mh h R E d
  cases st <;> first | exact Bool.noConfusion mh | skip
  rename_i v pos
  cases v <;> first | exact Bool.noConfusion mh | skip
  unfold wpS at h
  exact wS.by ps_retN (d.rt .non (.d .non) L Hb H ad h R Stp.refl .non)
theorem ss_expr (e : E) : SS pr n (.expr e) := by
  intro me X W st env L K Hb H ad σ D C tk po mh h R E d
  cases st <;> first | exact Bool.noConfusion mh | skip
  rename_i ee pos
  have mh : (noComp ee && mE pr e me ee) = true := mh
  simp only [Bool.and_eq_true] at mh
  unfold wpS at h
  exact wS.by (ps_expr wX.pe (swap_of mh.1)) (snd_E e C tk mh.2 h R E (d.Z E) fun v sv L1 Hb1 H1 ad1 hh R1 s1 r1 => d.nx _ _ _ _ _ _ hh R1 (E.step s1) s1)
theorem ss_pass : SS pr n .pass := by
  intro me X W st env L K Hb H ad σ D C tk po mh h R E d
  cases st <;> first | exact Bool.noConfusion mh | skip
  unfold wpS at h
  exact wS.by ps_pass (d.nx _ _ _ _ _ _ h R E Stp.refl)
theorem ss_grow {i : Nat} {e : E} {ex : Bool} {f : Str} {me : Me} {X : Cx} {W : WX} {x : Str} {p q q2 pos : Pos} {ee : Expr} {env : Env} {L : Tab} {K : Ko} {Hb H : Hp} {ad : List Addr} {σ : St} {D : Ends} (C : Ctx pr n me X) (tk : Takes X W)
    (mh : ((q.endLine == q2.line) && decide (me.N[i]? = some x) && visB me.sc x && dbgB x && decide (f = (if ex then ("extend" : Str) else ("append" : Str))) && noStar ee && mE pr e me ee) = true)
    (h : wpS (Gam pr n) pr.gc (if ex then .extend i e else .append i e) env L K) (R : Rel pr.G Hb H ad L) (E : EnvR pr.G Hb ad env σ) (d : DOk pr.G K D W Hb H ad) : wS X (.Expr (.Call (.Attribute (.Name x p) f q) [ee] [] q2) pos) D σ H := by
  simp only [Bool.and_eq_true, decide_eq_true_eq] at mh
  obtain ⟨⟨⟨⟨⟨⟨m0, m1⟩, m2⟩, m3⟩, mf⟩, m5⟩, m6⟩ := mh
  cases ex with
  | false =>
    simp only [Bool.false_eq_true, if_false] at h mf
    subst mf
    unfold wpS at h
    cases q1 : env[i]? with
    | none => rw [q1] at h; exact h.elim
    | some o =>
      rw [q1] at h
      rcases o with _ | (_ | j)
      · exact h.elim
      · exact h.elim
      obtain ⟨⟨ds0, qL⟩, h⟩ := h
      obtain ⟨a, vs, e1, e2, h1⟩ := cell_of R E q1 qL
      refine wS.by (ps_expr (pe_bm PySem.F.plainAttrs_list PySem.F.slot_list_append PySem.F.type_list_append mt_append (slot_ok C m1 m2 m3) (pa_cons wX.pe pa_nil (star_of m5)) rfl (by rw [star_of m5]; rfl) m0 (star_of m5) rfl) rfl) ?_
      refine ⟨_, e1, .inl ⟨rfl, vs, SqL.of h1⟩, ?_⟩
      refine snd_E e C tk m6 h R E (d.Z E) fun v sv L1 Hb1 H1 ad1 hh R1 s1 r1 => ?_
      cases q2 : den L1 sv with
      | none => simp only [q2] at hh
      | some x =>
        simp only [q2] at hh
        obtain ⟨ds, qd, sz, nx⟩ := hh
        obtain ⟨Hb2, R2, s2, r2⟩ := R1.freeze r1 q2
        have ea := (s1.trans s2).pre e2
        obtain ⟨k0, ws, k1, k2⟩ := R2.cell j ds a qd ea
        obtain ⟨R3, s3⟩ := R2.setO (oo := .lst _) (ct' := .lst _) qd rfl ea (k2.append (.cons r2 .nil))
        exact ⟨a, ws, v, rfl, rfl, k1, by rw [k2.length]; exact sz, d.nx _ _ _ _ _ _ nx R3 (((E.step s1).step s2).step s3) ((s1.trans s2).trans s3)⟩
  | true =>
    simp only [if_true] at h mf
    subst mf
    unfold wpS at h
    cases q1 : env[i]? with
    | none => rw [q1] at h; exact h.elim
    | some o =>
      rw [q1] at h
      rcases o with _ | (_ | j)
      · exact h.elim
      · exact h.elim
      obtain ⟨⟨ds0, qL⟩, h⟩ := h
      obtain ⟨a, vs, e1, e2, h1⟩ := cell_of R E q1 qL
      refine wS.by (ps_expr (pe_bm PySem.F.plainAttrs_list PySem.F.slot_list_extend PySem.F.type_list_extend mt_extend (slot_ok C m1 m2 m3) (pa_cons wX.pe pa_nil (star_of m5)) rfl (by rw [star_of m5]; rfl) m0 (star_of m5) rfl) rfl) ?_
      refine ⟨_, e1, .inl ⟨rfl, vs, SqL.of h1⟩, ?_⟩
      refine snd_E e C tk m6 h R E (d.Z E) fun v sv L1 Hb1 H1 ad1 hh R1 s1 r1 => ?_
      cases q2 : den L1 sv with
      | none => simp only [q2] at hh
      | some x =>
        simp only [q2] at hh
        cases x <;> first | exact hh.elim | skip
        rename_i es
        obtain ⟨ds, qd, sz, nx⟩ := hh
        obtain ⟨Hb2, b, us, rfl, R2, s2, h2, r2⟩ := walk_lst R1 r1 q2
        have ea := (s1.trans s2).pre e2
        obtain ⟨k0, ws, k1, k2⟩ := R2.cell j ds a qd ea
        obtain ⟨R3, s3⟩ := R2.setO (oo := .lst _) (ct' := .lst _) qd rfl ea (k2.append r2)
        exact ⟨a, b, ws, us, rfl, rfl, k1, R2.ext _ _ h2, by rw [k2.length, r2.length]; exact sz, d.nx _ _ _ _ _ _ nx R3 (((E.step s1).step s2).step s3) ((s1.trans s2).trans s3)⟩
theorem ss_append (i : Nat) (e : E) : SS pr n (.append i e) := by
  intro me X W st env L K Hb H ad σ D C tk po mh h R E d
  cases st <;> first | exact Bool.noConfusion mh | skip
  rename_i ee pos
  cases ee <;> first | exact Bool.noConfusion mh | skip
  rename_i ef es kws pos2
  cases ef <;> first | exact Bool.noConfusion mh | skip
  rename_i en f pos3
  cases en <;> first | exact Bool.noConfusion mh | skip
  rename_i x p
  rcases es with _ | ⟨ea, _ | ⟨_, _⟩⟩ <;> first | exact Bool.noConfusion mh | skip
  rcases kws with _ | ⟨_, _⟩ <;> first | exact Bool.noConfusion mh | skip
  exact ss_grow (ex := false) C tk mh h R E d
theorem ss_extend (i : Nat) (e : E) : SS pr n (.extend i e) := by
  intro me X W st env L K Hb H ad σ D C tk po mh h R E d
  cases st <;> first | exact Bool.noConfusion mh | skip
  rename_i ee pos
  cases ee <;> first | exact Bool.noConfusion mh | skip
  rename_i ef es kws pos2
  cases ef <;> first | exact Bool.noConfusion mh | skip
  rename_i en f pos3
  cases en <;> first | exact Bool.noConfusion mh | skip
  rename_i x p
  rcases es with _ | ⟨ea, _ | ⟨_, _⟩⟩ <;> first | exact Bool.noConfusion mh | skip
  rcases kws with _ | ⟨_, _⟩ <;> first | exact Bool.noConfusion mh | skip
  exact ss_grow (ex := true) C tk mh h R E d
theorem ss_setix (i : Nat) (b e : E) : SS pr n (.setix i b e) := by
  intro me X W st env L K Hb H ad σ D C tk po mh h R E d
  cases st <;> first | exact Bool.noConfusion mh | skip
  rename_i tgs ee pos
  rcases tgs with _ | ⟨t, tl⟩ <;> first | exact Bool.noConfusion mh | skip
  cases t <;> first | exact Bool.noConfusion mh | skip
  rename_i en eb pos2
  cases en <;> first | exact Bool.noConfusion mh | skip
  rename_i x p
  rcases tl with _ | ⟨_, _⟩ <;> first | exact Bool.noConfusion mh | skip
  have mh : (decide (me.N[i]? = some x) && visB me.sc x && dbgB x && noSlice eb && noComp ee && mE pr e me ee && mE pr b me eb) = true := mh
  simp only [Bool.and_eq_true, decide_eq_true_eq] at mh
  obtain ⟨⟨⟨⟨⟨⟨m1, m2⟩, m3⟩, m4⟩, m5⟩, m6⟩, m7⟩ := mh
  unfold wpS at h
  have sub : ∀ v, assign (.Subscript (.Name x p) eb pos2) X.env v = (do
      let ov ← holding [v] (eval (.Name x p) X.env)
      let iv ← holding [v, ov] (eval eb X.env)
      standAt pos2
      holding [v, ov, iv] (setItem ov iv v)
      release [v, ov, iv] []) := by
    intro v
    cases eb <;> first | rfl | exact Bool.noConfusion m4
  cases q1 : env[i]? with
  | none => rw [q1] at h; exact h.elim
  | some o =>
    rw [q1] at h
    rcases o with _ | (_ | j)
    · exact h.elim
    · exact h.elim
    obtain ⟨u, e1, a, e2, rfl⟩ := E.at_ i _ q1
    refine wS.by (ps_asg wX.pe (pg_sub (slot_ok C m1 m2 m3) wX.pe set_list sub) (sole_of m5) rfl rfl) ?_
    refine snd_E e C tk m6 h R E (d.Z E) fun v sv L1 Hb1 H1 ad1 hh R1 s1 r1 => ⟨_, e1, ?_⟩
    refine snd_E b C tk m7 hh R1 (E.step s1) ((d.Z E).step s1) fun w sw L2 Hb2 H2 ad2 h2 R2 s2 r2 => ?_
    cases sw <;> first | exact h2.elim | skip
    rename_i y
    cases y <;> first | exact h2.elim | skip
    rename_i k
    cases (show Rep pr.G Hb2 w (.int k) from r2)
    cases q2 : den L2 sv with
    | none => simp only [q2] at h2
    | some x =>
      simp only [q2] at h2
      obtain ⟨ds, kk, qd, hk, nx⟩ := h2
      obtain ⟨Hb3, R3, s3, r3⟩ := R2.freeze (r1.step s2) q2
      have st := (s1.trans s2).trans s3
      have ea := st.pre e2
      obtain ⟨k0, ws, k1, k2⟩ := R3.cell j ds a qd ea
      obtain ⟨R4, s4⟩ := R3.setO (oo := .lst _) (ct' := .lst _) qd rfl ea (k2.set r3 kk)
      exact ⟨a, ws, k, kk, rfl, rfl, k1, by rw [k2.length]; exact hk, d.nx _ _ _ _ _ _ nx R4 ((E.step st).step s4) (st.trans s4)⟩
/-- a key put into an own dict of ints -/
theorem putI_ok : ∀ (ks : List Int) (n : Int), putK (ks.map fun i => ((Sum.inl i : Key), V.bl true)) (Sum.inl n) (V.bl true) = (putI ks n).map fun i => ((Sum.inl i : Key), V.bl true) := by
  intro ks n
  have any : ((ks.map fun i => ((Sum.inl i : Key), V.bl true)).any fun kv => decide (kv.1 = Sum.inl n)) = decide (n ∈ ks) := by
    induction ks with
    | nil => simp
    | cons a t ih =>
      rw [List.map_cons, List.any_cons, ih]
      by_cases h : a = n
      · subst h; simp
      · have h2 : ¬ n = a := fun z => h z.symm
        simp [h, h2]
  unfold putK putI
  rw [any]
  by_cases h : n ∈ ks
  · rw [decide_eq_true h, if_pos rfl, if_pos h, List.map_map]
    refine List.map_congr_left fun a _ => ?_
    show (if (Sum.inl a : Key) = Sum.inl n then ((Sum.inl a : Key), V.bl true) else ((Sum.inl a : Key), V.bl true)) = _
    split <;> rfl
  · rw [decide_eq_false h, if_neg Bool.false_ne_true, if_neg h, List.map_append]
    rfl
theorem ss_setk (i : Nat) (b : E) : SS pr n (.setk i b) := by
  intro me X W st env L K Hb H ad σ D C tk po mh h R E d
  cases st <;> first | exact Bool.noConfusion mh | skip
  rename_i tgs ee pos
  rcases tgs with _ | ⟨t, tl⟩ <;> first | exact Bool.noConfusion mh | skip
  cases t <;> first | exact Bool.noConfusion mh | skip
  rename_i en eb pos2
  cases en <;> first | exact Bool.noConfusion mh | skip
  rename_i x p
  rcases tl with _ | ⟨_, _⟩ <;> first | exact Bool.noConfusion mh | skip
  cases ee <;> first | exact Bool.noConfusion mh | skip
  rename_i cc k1 p1
  cases cc <;> first | exact Bool.noConfusion mh | skip
  rename_i bb
  have mh : (bb && decide (me.N[i]? = some x) && visB me.sc x && dbgB x && noSlice eb && mE pr b me eb) = true := mh
  simp only [Bool.and_eq_true, decide_eq_true_eq] at mh
  obtain ⟨⟨⟨⟨⟨m0, m1⟩, m2⟩, m3⟩, m4⟩, m7⟩ := mh
  subst m0
  unfold wpS at h
  have sub : ∀ v, assign (.Subscript (.Name x p) eb pos2) X.env v = (do
      let ov ← holding [v] (eval (.Name x p) X.env)
      let iv ← holding [v, ov] (eval eb X.env)
      standAt pos2
      holding [v, ov, iv] (setItem ov iv v)
      release [v, ov, iv] []) := by
    intro v
    cases eb <;> first | rfl | exact Bool.noConfusion m4
  cases q1 : env[i]? with
  | none => rw [q1] at h; exact h.elim
  | some o =>
    rw [q1] at h
    rcases o with _ | (_ | j)
    · exact h.elim
    · exact h.elim
    obtain ⟨u, e1, a, e2, rfl⟩ := E.at_ i _ q1
    refine wS.by (ps_asg pe_bl (pg_sub (slot_ok C m1 m2 m3) wX.pe (set_dict (by have := C.room.un; omega)) sub) (sole_of rfl) rfl rfl) ?_
    refine ⟨_, e1, ?_⟩
    refine snd_E b C tk m7 h R E (d.Z E) fun w sw L2 Hb2 H2 ad2 h2 R2 s2 r2 => ?_
    cases sw <;> first | exact h2.elim | skip
    rename_i y
    cases y <;> first | exact h2.elim | skip
    rename_i k
    cases (show Rep pr.G Hb2 w (.int k) from r2)
    obtain ⟨ks, qd, hk, nx⟩ := h2
    have ea := s2.pre e2
    obtain ⟨k0, oo, k1, k2⟩ := R2.own j _ a qd ea rfl
    cases oo <;> first | exact k2.elim | skip
    have k2' := k2
    cases (show _ = _ from k2)
    obtain ⟨R4, s4⟩ := R2.setO (oo := .dK ((putI ks k).map fun i => ((Sum.inl i : Key), V.bl true))) (ct' := .ob (.kst (putI ks k))) qd rfl ea rfl
    refine ⟨a, _, rfl, DPut.k (k := (Sum.inl k : Key)) (v := V.bl true) k1 (by rw [List.length_map]; exact hk), ?_⟩
    rw [putI_ok]
    exact d.nx _ _ _ _ _ _ nx R4 ((E.step s2).step s4) (s2.trans s4)
/-! ### freezing -/
theorem frzSlots_ok {H : Hp} {ad : List Addr} {σ : St} : ∀ (sl : List Nat) {Hb : Hp} {env : Env} {L : Tab}, Rel pr.G Hb H ad L → EnvR pr.G Hb ad env σ →
    ∃ Hb', Rel pr.G Hb' H ad (frzSlots sl env L).2 ∧ EnvR pr.G Hb' ad (frzSlots sl env L).1 σ ∧ Stp Hb H ad Hb' H ad
  | [], Hb, env, L, R, E => ⟨Hb, R, E, Stp.refl⟩
  | i :: is, Hb, env, L, R, E => by
    unfold frzSlots
    cases q : env[i]? with
    | none => exact frzSlots_ok is R E
    | some o =>
      rcases o with _ | (x | j)
      · exact frzSlots_ok is R E
      · exact frzSlots_ok is R E
      · simp only []
        cases q2 : L[j]? with
        | none => exact frzSlots_ok is R (E.unset i)
        | some ct =>
          simp only []
          obtain ⟨v, e1, a, e2, rfl⟩ := E.at_ i _ q
          have r : RepS pr.G Hb ad (.ref a) (.c j) := ⟨a, e2, rfl⟩
          obtain ⟨Hb1, R1, s1, r1⟩ := R.freeze r (den_c q2)
          have eL : frzT L (.c j) = L.set j (.fz ct.dat) := by
            cases ct with
            | lst ds => rw [frzT_lst q2]; rfl
            | ob u => rw [frzT_ob q2]; rfl
            | fz x =>
              rw [frzT_fz q2]
              apply List.ext_getElem?
              intro k
              by_cases h : j = k
              · subst h
                obtain ⟨hl, _⟩ := List.getElem?_eq_some_iff.mp q2
                rw [List.getElem?_set_self hl]
                exact q2
              · rw [List.getElem?_set_ne h]
          rw [eL] at R1
          have E1 : EnvR pr.G Hb1 ad (env.set i (some (.d ct.dat))) σ := by
            have q3 := (E.step s1).set (v := .ref a) (sv := .d ct.dat) i r1
            have e3 : σ.set i (some (.ref a)) = σ := by
              apply List.ext_getElem?
              intro k
              by_cases h : i = k
              · subst h
                obtain ⟨hl, _⟩ := List.getElem?_eq_some_iff.mp e1
                rw [List.getElem?_set_self hl]
                exact e1.symm
              · rw [List.getElem?_set_ne h]
            rw [e3] at q3
            exact q3
          obtain ⟨Hb2, R2, E2, s2⟩ := frzSlots_ok is R1 E1
          exact ⟨Hb2, R2, E2, s1.trans s2⟩
theorem EnvR.cut {Hb : Hp} {ad ns : List Addr} {σ : St} {env : Env} (E : EnvR pr.G Hb (ad ++ ns) env σ) : EnvR pr.G Hb ad (env.map (cutV1 ad.length)) σ := by
  refine ⟨by simp [E.len], fun i sv h => ?_⟩
  rw [List.getElem?_map] at h
  cases q : env[i]? with
  | none => rw [q] at h; cases h
  | some o =>
    rw [q] at h
    rcases o with _ | (x | j)
    · cases h
    · cases h
      exact E.at_ i _ q
    · have h : (if j < ad.length then some (SV.c j) else none) = some sv := Option.some.inj h
      by_cases hj : j < ad.length
      · rw [if_pos hj] at h
        cases h
        obtain ⟨v, e1, a, e2, rfl⟩ := E.at_ i _ q
        exact ⟨_, e1, a, by rw [List.getElem?_append_left hj] at e2; exact e2, rfl⟩
      · rw [if_neg hj] at h
        cases h
/-- behind a turn of a loop, or ahead of it -/
theorem nrm_ok {Hb0 H0 Hb H : Hp} {ad ad' : List Addr} {σ : St} (sl : List Nat) {env : Env} {L : Tab} {m : Nat} (hm : ad.length = m) (s : Stp Hb0 H0 ad Hb H ad') (R : Rel pr.G Hb H ad' L) (E : EnvR pr.G Hb ad' env σ) :
    ∃ Hb', Rel pr.G Hb' H ad (nrmT sl m env L) ∧ EnvR pr.G Hb' ad (nrmE sl m env L) σ ∧ Stp Hb0 H0 ad Hb' H ad := by
  obtain ⟨Hb1, R1, E1, s1⟩ := frzSlots_ok (H := H) sl R E
  obtain ⟨ns, rfl, _⟩ := s.new
  subst hm
  refine ⟨Hb1, ?_, E1.cut, (s.trans s1).trunc⟩
  have len := R1.len
  have e : (frzSlots sl env L).2 = nrmT sl ad.length env L ++ (frzSlots sl env L).2.drop ad.length := (List.take_append_drop _ _).symm
  rw [e] at R1
  refine R1.trunc ?_
  unfold nrmT
  rw [List.length_take, ← len]
  simp
end
end PD

namespace PD
open PySem L2
section
variable {pr : Pr} {n : Nat}
theorem ss_ife (c : T) {a b : PD.Ss} (ha : SSs pr n a) (hb : SSs pr n b) : SS pr n (.ife c a b) := by
  intro me X W st env L K Hb H ad σ D C tk po mh h R E d
  cases st <;> first | exact Bool.noConfusion mh | skip
  rename_i ec sa sb pos
  have mh : (mT pr c me ec && mSs pr a me sa && mSs pr b me sb) = true := mh
  simp only [Bool.and_eq_true] at mh
  obtain ⟨⟨m1, m2⟩, m3⟩ := mh
  unfold wpS at h
  refine wS.by (ps_if wT.pt wSs.pss wSs.pss) ?_
  refine snd_T c C tk m1 h R E (d.Z E) fun r L1 Hb1 H1 ad1 hh R1 s1 => ?_
  cases r with
  | true => rw [if_pos rfl]; exact ha C tk po m2 (hh.1 rfl) R1 (E.step s1) (d.step s1)
  | false => rw [if_neg Bool.false_ne_true]; exact hb C tk po m3 (hh.2 rfl) R1 (E.step s1) (d.step s1)
theorem ss_for (tg : Tg) (it : PD.It) (sl : List Nat) {body : PD.Ss} (hb : SSs pr n body) : SS pr n (.for_ tg it sl body) := by
  intro me X W st env L K Hb H ad σ D C tk po mh h R E d
  cases st <;> first | exact Bool.noConfusion mh | skip
  rename_i et ei sb els pos
  rcases els with _ | ⟨_, _⟩ <;> first | exact Bool.noConfusion mh | skip
  have mh : (mTg me tg et && mI pr it me et ei && mSs pr body me sb) = true := mh
  simp only [Bool.and_eq_true] at mh
  obtain ⟨⟨m1, m2⟩, m3⟩ := mh
  unfold wpS at h
  obtain ⟨tt, pg, run⟩ := tg_ok (pr := pr) (n := n) C.N C.nd C.sc C.fb C.calm m1
  refine wS.by (ps_for po.p C.calm wI.pi pg wSs.pss (fold_mI m2)) ?_
  refine snd_I it C tk m2 h R E (d.Z E) fun items J L1 Hb1 H1 ad1 hh R1 s1 io => ?_
  obtain ⟨I, i0, turn, fin⟩ := hh
  have len1 : ad1.length = L1.length := R1.len
  let Wv : Nat → Nat → St → Hp → Prop := fun i mm σ' Hx => mm = items.length - i ∧ i ≤ items.length ∧ ∃ env' L' Hbx, I i env' L' ∧ Rel pr.G Hbx Hx ad1 L' ∧ EnvR pr.G Hbx ad1 env' σ' ∧ Stp Hb1 H1 ad1 Hbx Hx ad1
  obtain ⟨Hb2, R2, E2, s2⟩ := nrm_ok (pr := pr) sl len1 Stp.refl R1 (E.step s1)
  refine ⟨Wv, ⟨items.length, by simp, Nat.zero_le _, _, _, Hb2, i0, R2, E2, s2⟩, ?_⟩
  rintro i mm σ' Hx ⟨rfl, hi, env', L', Hbx, ii, Rx, Ex, sx⟩
  by_cases hlt : i < items.length
  · refine .inr ⟨io.go i Hx (sx.base.trans Rx.ext) hlt, fun σ2 H' => Wv (i + 1) (items.length - (i + 1)) σ2 H', fun σ2 H' p => ⟨_, by omega, p⟩, fun x H' y => ?_⟩
    obtain ⟨dd, Hb3, hd, R3, s3, r3⟩ := io.yld i Hx Hbx ad1 L' x H' sx.base Rx y hlt
    have t := turn i dd env' L' hd ii
    refine run dd x pr.G Hb3 ad1 env' σ' H' _ _ t R3.ext r3 (Ex.step s3) fun env2 σ2 hk E3 _ _ => ?_
    have s4 := sx.trans s3
    have back : ∀ (e' : Env) (l' : Tab) (Hb' Hn : Hp) (ad' : List Addr) (σn : St), I (i + 1) (nrmE sl L1.length e' l') (nrmT sl L1.length e' l') → Rel pr.G Hb' Hn ad' l' → EnvR pr.G Hb' ad' e' σn → Stp Hb3 H' ad1 Hb' Hn ad' → Wv (i + 1) (items.length - (i + 1)) σn Hn := fun e' l' Hb' Hn ad' σn hn Rn En sn => by
      obtain ⟨Hb5, R5, E5, s5⟩ := nrm_ok (pr := pr) sl len1 (s4.trans sn) Rn En
      exact ⟨rfl, hlt, _, _, Hb5, hn, R5, E5, s5⟩
    refine hb C tk po m3 hk R3 E3 ⟨back, ?_, back, ?_, ?_⟩
    · intro e' l' Hb' Hn ad' σn hn Rn En sn
      exact d.nx _ _ _ _ _ _ hn Rn En ((s1.trans s4).trans sn)
    · intro v sv l' Hb' Hn ad' hn Rn sn rn
      exact d.rt _ _ _ _ _ _ hn Rn ((s1.trans s4).trans sn) rn
    · intro x e' l' cls dx Hb' Hn ad' σn hn Rn En sn xr
      exact d.z _ _ _ _ _ _ _ _ _ hn Rn En ((s1.trans s4).trans sn) xr
  · have e : i = items.length := by omega
    subst e
    exact .inl ⟨io.stop _ Hx (sx.base.trans Rx.ext) (Nat.le_refl _), d.nx _ _ _ _ _ _ (fin _ _ ii) Rx Ex (s1.trans sx)⟩
theorem ss_while (c : T) (sl : List Nat) {body : PD.Ss} (hb : SSs pr n body) : SS pr n (.while_ c sl body) := by
  intro me X W st env L K Hb H ad σ D C tk po mh h R E d
  cases st <;> first | exact Bool.noConfusion mh | skip
  rename_i ec sb els pos
  rcases els with _ | ⟨_, _⟩ <;> first | exact Bool.noConfusion mh | skip
  have mh : (mT pr c me ec && mSs pr body me sb) = true := mh
  simp only [Bool.and_eq_true] at mh
  obtain ⟨m1, m3⟩ := mh
  unfold wpS at h
  obtain ⟨I, ⟨m0, i0⟩, turn⟩ := h
  have len0 : ad.length = L.length := R.len
  obtain ⟨Hb2, R2, E2, s2⟩ := nrm_ok (pr := pr) sl len0 Stp.refl R E
  refine wS.by (ps_while po.p wT.pt wSs.pss) ?_
  refine ⟨fun m σ' Hx => ∃ env' L' Hbx, I m env' L' ∧ Rel pr.G Hbx Hx ad L' ∧ EnvR pr.G Hbx ad env' σ' ∧ Stp Hb H ad Hbx Hx ad, ⟨m0, _, _, Hb2, i0, R2, E2, s2⟩, ?_⟩
  rintro m σ' Hx ⟨env', L', Hbx, ii, Rx, Ex, sx⟩
  have t := turn m env' L' ii
  refine snd_T c C tk m1 t Rx Ex ((d.step sx).Z Ex) fun b l1 Hb3 H3 ad3 hh R3 s3 => ?_
  cases b with
  | false => rw [if_neg Bool.false_ne_true]; exact d.nx _ _ _ _ _ _ (hh.2 rfl) R3 (Ex.step s3) (sx.trans s3)
  | true =>
    rw [if_pos rfl]
    refine ⟨fun σn Hn => ∃ m', m' < m ∧ ∃ env' L' Hbx, I m' env' L' ∧ Rel pr.G Hbx Hn ad L' ∧ EnvR pr.G Hbx ad env' σn ∧ Stp Hb H ad Hbx Hn ad, fun _ _ p => p, ?_⟩
    have s4 := sx.trans s3
    have back : ∀ (e' : Env) (l' : Tab) (Hb' Hn : Hp) (ad' : List Addr) (σn : St), (∃ m', m' < m ∧ I m' (nrmE sl L.length e' l') (nrmT sl L.length e' l')) → Rel pr.G Hb' Hn ad' l' → EnvR pr.G Hb' ad' e' σn → Stp Hb3 H3 ad3 Hb' Hn ad' →
        ∃ m', m' < m ∧ ∃ env' L' Hbx, I m' env' L' ∧ Rel pr.G Hbx Hn ad L' ∧ EnvR pr.G Hbx ad env' σn ∧ Stp Hb H ad Hbx Hn ad := fun e' l' Hb' Hn ad' σn hn Rn En sn => by
      obtain ⟨m', hlt, hn⟩ := hn
      obtain ⟨Hb5, R5, E5, s5⟩ := nrm_ok (pr := pr) sl len0 (s4.trans sn) Rn En
      exact ⟨m', hlt, _, _, Hb5, hn, R5, E5, s5⟩
    refine hb C tk po m3 (hh.1 rfl) R3 (Ex.step s3) ⟨back, ?_, back, ?_, ?_⟩
    · intro e' l' Hb' Hn ad' σn hn Rn En sn
      exact d.nx _ _ _ _ _ _ hn Rn En (s4.trans sn)
    · intro v sv l' Hb' Hn ad' hn Rn sn rn
      exact d.rt _ _ _ _ _ _ hn Rn (s4.trans sn) rn
    · intro x e' l' cls dx Hb' Hn ad' σn hn Rn En sn xr
      exact d.z _ _ _ _ _ _ _ _ _ hn Rn En (s4.trans sn) xr
theorem ss_clear (i : Nat) : SS pr n (.clear i) := by
  intro me X W st env L K Hb H ad σ D C tk po mh h R E d
  cases st <;> first | exact Bool.noConfusion mh | skip
  rename_i ee pos
  cases ee <;> first | exact Bool.noConfusion mh | skip
  rename_i ef es kws pos2
  cases ef <;> first | exact Bool.noConfusion mh | skip
  rename_i en f pos3
  cases en <;> first | exact Bool.noConfusion mh | skip
  rename_i x p
  rcases es with _ | ⟨_, _⟩ <;> first | exact Bool.noConfusion mh | skip
  rcases kws with _ | ⟨_, _⟩ <;> first | exact Bool.noConfusion mh | skip
  have mh : ((pos3.endLine == pos2.line) && decide (me.N[i]? = some x) && visB me.sc x && dbgB x && decide (f = ("clear" : Str))) = true := mh
  simp only [Bool.and_eq_true, decide_eq_true_eq] at mh
  obtain ⟨⟨⟨⟨m0, m1⟩, m2⟩, m3⟩, rfl⟩ := mh
  unfold wpS at h
  cases q1 : env[i]? with
  | none => rw [q1] at h; exact h.elim
  | some o =>
    rw [q1] at h
    rcases o with _ | (_ | j)
    · exact h.elim
    · exact h.elim
    obtain ⟨ds, qd, nx⟩ := h
    obtain ⟨a, vs, e1, e2, h1⟩ := cell_of R E q1 qd
    refine wS.by (ps_expr (pe_bm0 PySem.F.plainAttrs_list PySem.F.slot_list_clear PySem.F.type_list_clear mt_clear (slot_ok C m1 m2 m3) rfl m0) rfl) ?_
    refine ⟨_, e1, .inl ⟨rfl, vs, SqL.of h1⟩, ?_⟩
    obtain ⟨R3, s3⟩ := R.setO (oo := .lst []) (ct' := .lst []) qd rfl e2 .nil
    exact ⟨a, vs, rfl, rfl, h1, d.nx _ _ _ _ _ _ nx R3 (E.step s3) s3⟩
theorem ss_raise (c : Nat) : SS pr n (.raise c) := by
  intro me X W st env L K Hb H ad σ D C tk po mh h R E d
  cases st <;> first | exact Bool.noConfusion mh | skip
  rename_i ex cause pos
  cases ex <;> first | exact Bool.noConfusion mh | skip
  rename_i ee
  cases ee <;> first | exact Bool.noConfusion mh | skip
  rename_i ef es kws q2
  cases ef <;> first | exact Bool.noConfusion mh | skip
  rename_i x p
  rcases es with _ | ⟨ea, es⟩ <;> first | exact Bool.noConfusion mh | skip
  cases ea <;> first | exact Bool.noConfusion mh | skip
  rename_i cc k1 p1
  cases cc <;> first | exact Bool.noConfusion mh | skip
  rcases es with _ | ⟨_, _⟩ <;> first | exact Bool.noConfusion mh | skip
  rcases kws with _ | ⟨_, _⟩ <;> first | exact Bool.noConfusion mh | skip
  cases cause <;> first | exact Bool.noConfusion mh | skip
  have mh : (decide (x = pr.xn c) && decide (c < pr.xcn) && glB me.sc x && dbgB x) = true := mh
  simp only [Bool.and_eq_true, decide_eq_true_eq] at mh
  obtain ⟨⟨⟨rfl, m1⟩, m2⟩, m3⟩ := mh
  obtain ⟨c1, c2, c3, c4, c5⟩ := C.cs.xc c m1
  unfold wpS at h
  refine wS.by (ps_raise C.calm tk (pmk_own PySem.F.excBase_ValueError c2 c1 c3 (raises_own c4 c5) (gl_of C.sc m2) (dbg_of m3).1)) ?_
  exact d.z _ _ _ _ _ _ _ _ _ h R E Stp.refl ⟨rfl, rfl⟩
theorem RepF.append {G : Gs} {Hb : Hp} : ∀ {gs hs : List (Str × V)} {fs es : List (Nat × PD.D)}, RepF G Hb gs fs → RepF G Hb hs es → RepF G Hb (gs ++ hs) (fs ++ es)
  | _, _, _, _, .nil, s => s
  | _, _, _, _, .cons r t, s => .cons r (RepF.append t s)
theorem RepF.length {G : Gs} {Hb : Hp} : ∀ {gs : List (Str × V)} {fs : List (Nat × PD.D)}, RepF G Hb gs fs → gs.length = fs.length
  | _, _, .nil => rfl
  | _, _, .cons _ t => by simp [RepF.length t]
theorem putF_new {G : Gs} {Hb : Hp} {f : Nat} {v : V} (inj : ∀ f g, f < 64 → g < 64 → G.fN f = G.fN g → f = g) (hf : f < 64) : ∀ {gs : List (Str × V)} {fs : List (Nat × PD.D)}, RepF G Hb gs fs → fs.all (fun p => decide (p.1 < f)) = true → putF (G.fN f) v gs = gs ++ [(G.fN f, v)]
  | _, _, .nil, _ => rfl
  | _, _, .cons (f := g) (v := w) r t, h => by
    rw [List.all_cons, Bool.and_eq_true, decide_eq_true_eq] at h
    have h1 : g < f := h.1
    have e : ¬ G.fN g = G.fN f := fun z => by have := inj _ _ (by omega) hf z; omega
    show (if G.fN g = G.fN f then _ else (G.fN g, w) :: putF (G.fN f) v _) = _
    rw [if_neg e, putF_new inj hf t h.2]
    rfl
theorem ss_setf (i c f : Nat) (e : E) : SS pr n (.setf i c f e) := by
  intro me X W st env L K Hb H ad σ D C tk po mh h R E d
  cases st <;> first | exact Bool.noConfusion mh | skip
  rename_i tgs ee pos
  rcases tgs with _ | ⟨t, tl⟩ <;> first | exact Bool.noConfusion mh | skip
  cases t <;> first | exact Bool.noConfusion mh | skip
  rename_i en y pos2
  cases en <;> first | exact Bool.noConfusion mh | skip
  rename_i x p
  rcases tl with _ | ⟨_, _⟩ <;> first | exact Bool.noConfusion mh | skip
  have mh : (decide (me.N[i]? = some x) && visB me.sc x && dbgB x && decide (y = pr.G.fN f) && pr.fo c f && decide (f < 64) && noComp ee && mE pr e me ee) = true := mh
  simp only [Bool.and_eq_true, decide_eq_true_eq] at mh
  obtain ⟨⟨⟨⟨⟨⟨⟨m1, m2⟩, m3⟩, rfl⟩, m5⟩, m6⟩, m7⟩, m8⟩ := mh
  unfold wpS at h
  obtain ⟨k1, k2⟩ := C.cs.fo c f m5
  cases q1 : env[i]? with
  | none => rw [q1] at h; exact h.elim
  | some o =>
    rw [q1] at h
    rcases o with _ | (_ | j)
    · exact h.elim
    · exact h.elim
    obtain ⟨u, e1, a, e2, rfl⟩ := E.at_ i _ q1
    refine wS.by (ps_fld (slot_ok C m1 m2 m3) wX.pe (swap_of m7)) ?_
    refine snd_E e C tk m8 h R E (d.Z E) fun v sv L1 Hb1 H1 ad1 hh R1 s1 r1 => ⟨_, e1, ?_⟩
    cases q2 : den L1 sv with
    | none => simp only [q2] at hh
    | some x =>
      simp only [q2] at hh
      obtain ⟨fs, qd, h2, h3, nx⟩ := hh
      obtain ⟨Hb2, R2, s2, r2⟩ := R1.freeze r1 q2
      have st := s1.trans s2
      have ea := st.pre e2
      obtain ⟨k0, oo, h4, h5⟩ := R2.own j _ a qd ea rfl
      cases oo <;> first | exact h5.elim | skip
      rename_i C2 dx gs
      obtain ⟨rfl, h6⟩ := h5
      obtain ⟨R4, s4⟩ := R2.setO (oo := .ins (pr.G.cA c) dx (gs ++ [(pr.G.fN f, v)])) (ct' := .ob (.obj c (fs ++ [(f, x)]))) qd rfl ea ⟨rfl, h6.append (.cons r2 .nil)⟩
      refine ⟨a, _, dx, gs, rfl, h4, k1, k2, by rw [h6.length]; omega, ?_⟩
      rw [putF_new C.cs.inj m6 h6 h2]
      exact d.nx _ _ _ _ _ _ nx R4 ((E.step st).step s4) (st.trans s4)
theorem ss_frz (i : Nat) : SS pr n (.frz i) := by
  intro me X W st env L K Hb H ad σ D C tk po mh h R E d
  cases st <;> exact Bool.noConfusion mh
theorem sss_nil : SSs pr n .nil := by
  intro me X W sts env L K Hb H ad σ D C tk po mh h R E d
  cases sts with
  | cons _ _ => exact Bool.noConfusion mh
  | nil =>
    unfold wpSs at h
    exact wSs.by pss_nil (d.nx _ _ _ _ _ _ h R E Stp.refl)
theorem sss_cons {s : PD.S} {ss : PD.Ss} (hs : SS pr n s) (hss : SSs pr n ss) : SSs pr n (.cons s ss) := by
  intro me X W sts env L K Hb H ad σ D C tk po mh h R E d
  unfold wpSs at h
  have gen : ∀ st sts', sts = st :: sts' → (mS pr s me st && mSs pr ss me sts') = true → wSs X sts D σ H := fun st sts' e m => by
    subst e
    simp only [Bool.and_eq_true] at m
    refine wSs.by (pss_cons wS.ps wSs.pss) ?_
    exact hs C tk po m.1 h R E ⟨fun env' L' Hb' H' ad' σ' hn R' E' s' => hss C tk po m.2 hn R' E' (d.step s'), d.bk, d.ct, d.rt, d.z⟩
  cases s
  case frz i =>
    unfold wpS at h
    obtain ⟨Hb2, R2, E2, s2⟩ := frzSlots_ok (pr := pr) (H := H) [i] R E
    have mh : mSs pr ss me sts = true := mh
    exact hss C tk po mh h R2 E2 (d.step s2)
  all_goals
    cases sts with
    | nil => exact Bool.noConfusion mh
    | cons st sts' => exact gen st sts' rfl mh
/-! ### except: the suites -/
/-- isinstance(e, (C1, ..)), e the exception that the suite holds -/
theorem call_isET {X : Cx} {a D : Addr} {oe : Obj} (hp : (a, oe) ∈ X.pn) (C : ExcC X.K D) (hz : Zc (.ref D) none oe) (hf : ∃ vs, oe.data = .fields vs) :
    CallR X (.builtin "isinstance") (fun xs H Q => ∃ (tp : Addr) (cs : List V) (us : List Value) (b : Bool), xs = [.ref a, .ref tp] ∧ H tp = some (.tup cs) ∧ Paired ClsV cs us ∧ PySem.W.kitAny X.K (.ref D) us = some b ∧ Q (.bl b) H) := by
  intro pins s σ H xs us Q I r h
  obtain ⟨tp, cs, ws, b, rfl, hT, k, e, q⟩ := h
  cases r with
  | cons rx rr =>
    cases rr with
    | cons rt rr =>
      cases rr
      cases rx
      cases (show _ = Value.ref tp from rt)
      obtain ⟨hget, _⟩ := I.pin (a, oe) (List.mem_append.mpr (.inl hp))
      obtain ⟨vs, hv⟩ := hf
      have J : PySem.W.InstAt s.heap a oe D none := by
        obtain ⟨oc, od, oda, osl⟩ := oe
        obtain ⟨h1, h2⟩ := hz
        dsimp only at h1 h2 hv
        subst h1 h2 hv
        exact ⟨hget, rfl, rfl, trivial⟩
      obtain ⟨_, its, rv, o, h1, h2, n, h3⟩ := (show ObjOk X.prog X.w H s.heap tp (.tup cs) from I.hok tp _ hT)
      have e3 := ClsV.all k rv
      subst e3
      obtain ⟨oc, od, dt, sl⟩ := o
      simp only at h2 h3
      subst h2 h3
      exact PySem.W.kia_tup (PySem.W.handS_kitx_exc C.hg C.hk C.hs C.hd C.ha C.hn C.ht C.hm) I.kIn J h1 e (fun z => nomatch z) fun tk => ⟨.bl b, H, I.kept (t' := tk) fun _ _ z => z, rfl, q⟩
/-- .. of one class -/
theorem call_is1 {X : Cx} {a D : Addr} {oe : Obj} (hp : (a, oe) ∈ X.pn) (C : ExcC X.K D) (hz : Zc (.ref D) none oe) (hf : ∃ vs, oe.data = .fields vs) :
    CallR X (.builtin "isinstance") (rIsE X.K D a) := by
  intro pins s σ H xs us Q I r h
  obtain ⟨cl, cu, bb, rfl, uni, ke, qq⟩ := h
  rcases r with _ | ⟨rx, rr⟩
  rcases rr with _ | ⟨rt, rr⟩
  cases rr
  cases rx
  have eu := uni _ rt
  subst eu
  have got := (I.pin (a, oe) (List.mem_append.mpr (.inl hp))).1
  obtain ⟨ws, hw⟩ := hf
  have J : PySem.W.InstAt s.heap a oe D none := by
    obtain ⟨o1, o2, o3, o4⟩ := oe
    obtain ⟨z1, z2⟩ := hz
    dsimp only at z1 z2 hw
    subst z1 z2 hw
    exact ⟨got, rfl, rfl, trivial⟩
  exact PySem.W.kia_one (PySem.W.handS_kitx_exc C.hg C.hk C.hs C.hd C.ha C.hn C.ht C.hm) I.kIn J ke (fun z => nomatch z) fun tk => ⟨.bl bb, H, I.kept (t' := tk) fun _ _ z => z, rfl, qq⟩
/-- a context that bears the caught exception -/
structure HX (pr : Pr) (me : Me) (Y : Cx) (a : Addr) (oe : Obj) : Prop where
  K : Y.K = pr.G.K
  N : Y.N = me.N
  sc : Y.env.scope = me.sc
  blt : ∀ x ∈ bltNames, Y.mg x = none
  cs : Cs pr Y.mg Y.K
  pin : (a, oe) ∈ Y.pn
theorem boot_VE : bootBuiltins "ValueError" = some (.type "ValueError") := by decide +kernel
theorem yCls (d : Nat) : ClsV (yV pr d) (yU pr d) := by
  cases d with
  | zero => exact .ty _
  | succ d => exact .own _
theorem yPair : ∀ dd : List (Nat × List Nat), Paired ClsV (dd.map fun p => yV pr p.1) (dd.map fun p => yU pr p.1)
  | [] => .nil
  | p :: ps => .cons (yCls p.1) (yPair ps)
section
variable {me : Me} {Y : Cx} {a : Addr} {oe : Obj} {c i : Nat} {en : Str}
theorem y_ok (C : HX pr me Y a oe) {d : Nat} {ds : List Nat} {e : Expr} (m : mY pr me d ds e = true) : noStar e = true ∧ ds = pr.un d ∧ d ≤ pr.yc ∧ PE Y e (tC (yV pr d)) := by
  cases e <;> first | exact Bool.noConfusion m | skip
  rename_i x p
  have m : (decide (x = yN pr d) && glB me.sc x && dbgB x && decide (ds = pr.un d) && decide (d ≤ pr.yc)) = true := m
  simp only [Bool.and_eq_true, decide_eq_true_eq] at m
  obtain ⟨⟨⟨⟨rfl, m2⟩, m3⟩, m4⟩, m5⟩ := m
  have gl : Gl Y (yN pr d) := gl_of (X := Y) C.sc m2
  refine ⟨rfl, m4, m5, ?_⟩
  cases d with
  | zero => exact pe_bltn (x := "ValueError") (v := .ty "ValueError") gl C.cs.ve boot_VE rfl (by decide +kernel) (by decide +kernel)
  | succ d => exact pe_glob gl (C.cs.yg d m5) rfl (dbg_of m3).1
theorem ys_ok (C : HX pr me Y a oe) : ∀ {dd : List (Nat × List Nat)} {es : List Expr}, mYs pr me dd es = true → (∀ p ∈ dd, p.2 = pr.un p.1 ∧ p.1 ≤ pr.yc) ∧ ∀ {σ : St} {H : Hp} {Q : List V → Hp → Prop}, Q (dd.map fun p => yV pr p.1) H → wA Y es σ H Q
  | [], [], _ => ⟨fun p hp => by simp at hp, fun h => wA.by pa_nil h⟩
  | p :: ps, e :: es, m => by
    have m : (mY pr me p.1 p.2 e && mYs pr me ps es) = true := m
    rw [Bool.and_eq_true] at m
    obtain ⟨k1, k2, k3, k4⟩ := y_ok C m.1
    obtain ⟨j1, j2⟩ := ys_ok C m.2
    refine ⟨fun q hq => ?_, fun {σ H Q} h => wA.by (pa_cons k4 wA.pa (star_of k1)) ?_⟩
    · rcases List.mem_cons.mp hq with z | z
      · subst z; exact ⟨k2, k3⟩
      · exact j1 q z
    · exact j2 h
theorem kitAny_y (C : HX pr me Y a oe) (hc : c < pr.xcn) : ∀ {dd : List (Nat × List Nat)}, (∀ p ∈ dd, p.2 = pr.un p.1 ∧ p.1 ≤ pr.yc) → PySem.W.kitAny Y.K (.ref (pr.G.cA c)) (dd.map fun p => yU pr p.1) = some (dd.any fun p => decide (c ∈ p.2))
  | [], _ => rfl
  | p :: ps, h => by
    have h1 := h p List.mem_cons_self
    have ih := kitAny_y C hc (dd := ps) fun q hq => h q (List.mem_cons_of_mem _ hq)
    have k := C.cs.ki p.1 c h1.2 hc
    rw [← h1.1] at k
    rw [List.any_cons]
    refine kitAny_cons k (fun z => ?_) fun z => by rw [z]; rfl
    rw [z, Bool.false_or]
    exact ih
/-- a question of the caught exception's class -/
theorem xb_ok (C : HX pr me Y a oe) (hc : c < pr.xcn) (hz : Zc (.ref (pr.G.cA c)) none oe) (hv : ∃ vs, oe.data = .fields vs) (hi : me.N[i]? = some en) (hvis : visB me.sc en = true) (hdb : dbgB en = true) :
    ∀ (b : XB) {e : Expr} {σ : St} {Hb H : Hp} {ad : List Addr} {L : Tab} {Q : VK}, mXB pr me en b e = true → σ[i]? = some (some (.ref a)) → Rel pr.G Hb H ad L → (∀ H', Rel pr.G Hb H' ad L → Stp Hb H ad Hb H' ad → Q (.bl (b.ev c)) H') → wX Y e σ H Q
  | .one d ds, e, σ, Hb, H, ad, L, Q, m, hs, R, h => by
    cases e <;> first | exact Bool.noConfusion m | skip
    rename_i ef es kws pos
    cases ef <;> first | exact Bool.noConfusion m | skip
    rename_i x p
    rcases es with _ | ⟨e1, es⟩ <;> first | exact Bool.noConfusion m | skip
    cases e1 <;> first | exact Bool.noConfusion m | skip
    rcases es with _ | ⟨e2, _ | ⟨_, _⟩⟩ <;> first | exact Bool.noConfusion m | skip
    rcases kws with _ | ⟨_, _⟩ <;> first | exact Bool.noConfusion m | skip
    rename_i y py
    have m : (decide (x = ("isinstance" : Str)) && glB me.sc x && decide (y = en) && mY pr me d ds e2) = true := m
    simp only [Bool.and_eq_true, decide_eq_true_eq] at m
    obtain ⟨⟨⟨rfl, m2⟩, rfl⟩, m4⟩ := m
    obtain ⟨k1, k2, k3, k4⟩ := y_ok C m4
    have gl : Gl Y "isinstance" := gl_of (X := Y) C.sc m2
    have pv : PE Y (.Name y py) (tVar i) := pe_var (show Y.N[i]? = some y by rw [C.N]; exact hi) (vis_of (X := Y) C.sc hvis) (dbg_of hdb).1 (dbg_of hdb).2
    refine wX.by (pe_callB (call_is1 C.pin (C.K ▸ C.cs.ec c hc) hz hv) gl (C.blt _ (by simp [bltNames])) PyProof.Rows.boot_isinstance (pa_cons pv (pa_cons k4 pa_nil (star_of k1))) (by decide) (by decide) rfl (by rw [star_of k1]; rfl)) ?_
    refine ⟨_, hs, ?_⟩
    refine ⟨yV pr d, yU pr d, decide (c ∈ ds), rfl, fun u hu => (yCls (pr := pr) d).eq hu, ?_, h H R Stp.refl⟩
    rw [k2]
    exact C.cs.ki d c k3 hc
  | .tup dd, e, σ, Hb, H, ad, L, Q, m, hs, R, h => by
    cases e <;> first | exact Bool.noConfusion m | skip
    rename_i ef es kws pos
    cases ef <;> first | exact Bool.noConfusion m | skip
    rename_i x p
    rcases es with _ | ⟨e1, es⟩ <;> first | exact Bool.noConfusion m | skip
    cases e1 <;> first | exact Bool.noConfusion m | skip
    rcases es with _ | ⟨e2, es⟩ <;> first | exact Bool.noConfusion m | skip
    cases e2 <;> first | exact Bool.noConfusion m | skip
    rcases es with _ | ⟨_, _⟩ <;> first | exact Bool.noConfusion m | skip
    rcases kws with _ | ⟨_, _⟩ <;> first | exact Bool.noConfusion m | skip
    rename_i y py es kk p2
    have m : (decide (x = ("isinstance" : Str)) && glB me.sc x && decide (y = en) && decide (dd.length < 60) && mYs pr me dd es) = true := m
    simp only [Bool.and_eq_true, decide_eq_true_eq] at m
    obtain ⟨⟨⟨⟨rfl, m2⟩, rfl⟩, m5⟩, m4⟩ := m
    obtain ⟨j1, j2⟩ := ys_ok C m4
    have gl : Gl Y "isinstance" := gl_of (X := Y) C.sc m2
    have pv : PE Y (.Name y py) (tVar i) := pe_var (show Y.N[i]? = some y by rw [C.N]; exact hi) (vis_of (X := Y) C.sc hvis) (dbg_of hdb).1 (dbg_of hdb).2
    refine wX.by (pe_callB (call_isET C.pin (C.K ▸ C.cs.ec c hc) hz hv) gl (C.blt _ (by simp [bltNames])) PyProof.Rows.boot_isinstance (pa_cons pv (pa_cons (pe_tup wA.pa) pa_nil)) (by decide) (by decide) rfl rfl) ?_
    refine ⟨_, hs, ?_⟩
    refine j2 ⟨by rw [List.length_map, sizeLine_eq]; omega, fun q hq => ?_⟩
    have hb : Hb q = none := by
      cases z : Hb q with
      | none => rfl
      | some w => rw [R.ext q w z] at hq; cases hq
    have hp : q ∉ ad := fun z => R.ina q z hq
    exact ⟨q, _, dd.map fun p => yU pr p.1, dd.any fun p => decide (c ∈ p.2), rfl, upd_same, yPair dd, kitAny_y C hc j1, h _ (R.other hb hp) (Stp.refl.other hq)⟩
  | .or a1 b1, e, σ, Hb, H, ad, L, Q, m, hs, R, h => by
    cases e <;> first | exact Bool.noConfusion m | skip
    rename_i o es pos
    cases o <;> first | exact Bool.noConfusion m | skip
    rcases es with _ | ⟨e1, _ | ⟨e2, _ | ⟨_, _⟩⟩⟩ <;> first | exact Bool.noConfusion m | skip
    have m : (mXB pr me en a1 e1 && mXB pr me en b1 e2) = true := m
    rw [Bool.and_eq_true] at m
    refine wX.by (pe_or wX.pe (pe_one wX.pe)) ?_
    refine xb_ok C hc hz hv hi hvis hdb a1 m.1 hs R fun H1 R1 s1 => ⟨_, rfl, ?_⟩
    cases q : a1.ev c with
    | true =>
      rw [if_pos rfl]
      have := h H1 R1 s1
      unfold XB.ev at this
      rw [q] at this
      exact this
    | false =>
      rw [if_neg Bool.false_ne_true]
      refine xb_ok C hc hz hv hi hvis hdb b1 m.2 hs R1 fun H2 R2 s2 => ?_
      have := h H2 R2 (s1.trans s2)
      unfold XB.ev at this
      rw [q, Bool.false_or] at this
      exact this
/-- as a test -/
theorem xbT_ok (C : HX pr me Y a oe) (hc : c < pr.xcn) (hz : Zc (.ref (pr.G.cA c)) none oe) (hv : ∃ vs, oe.data = .fields vs) (hi : me.N[i]? = some en) (hvis : visB me.sc en = true) (hdb : dbgB en = true) :
    ∀ (b : XB) {e : Expr} {σ : St} {Hb H : Hp} {ad : List Addr} {L : Tab} {Q : Bool → Hp → Prop}, mXB pr me en b e = true → σ[i]? = some (some (.ref a)) → Rel pr.G Hb H ad L → (∀ H', Rel pr.G Hb H' ad L → Stp Hb H ad Hb H' ad → Q (b.ev c) H') → wT Y e σ H Q
  | .one d ds, e, σ, Hb, H, ad, L, Q, m, hs, R, h => by
    have pl : plainT e = true := by cases e <;> first | rfl | exact Bool.noConfusion m
    exact wT.by (pt_val wX.pe (test_of pl)) (xb_ok C hc hz hv hi hvis hdb (.one d ds) m hs R fun H1 R1 s1 => ⟨_, rfl, h H1 R1 s1⟩)
  | .tup dd, e, σ, Hb, H, ad, L, Q, m, hs, R, h => by
    have pl : plainT e = true := by cases e <;> first | rfl | exact Bool.noConfusion m
    exact wT.by (pt_val wX.pe (test_of pl)) (xb_ok C hc hz hv hi hvis hdb (.tup dd) m hs R fun H1 R1 s1 => ⟨_, rfl, h H1 R1 s1⟩)
  | .or a1 b1, e, σ, Hb, H, ad, L, Q, m, hs, R, h => by
    cases e <;> first | exact Bool.noConfusion m | skip
    rename_i o es pos
    cases o <;> first | exact Bool.noConfusion m | skip
    rcases es with _ | ⟨e1, _ | ⟨e2, _ | ⟨_, _⟩⟩⟩ <;> first | exact Bool.noConfusion m | skip
    have m : (mXB pr me en a1 e1 && mXB pr me en b1 e2) = true := m
    rw [Bool.and_eq_true] at m
    refine wT.by (PW.pt (pw_or wT.pt (pw_or1 wT.pt))) ?_
    refine xbT_ok C hc hz hv hi hvis hdb a1 m.1 hs R fun H1 R1 s1 => ?_
    cases q : a1.ev c with
    | true =>
      rw [if_pos rfl]
      have := h H1 R1 s1
      unfold XB.ev at this
      rw [q] at this
      exact this
    | false =>
      rw [if_neg Bool.false_ne_true]
      refine xbT_ok C hc hz hv hi hvis hdb b1 m.2 hs R1 fun H2 R2 s2 => ?_
      have := h H2 R2 (s1.trans s2)
      unfold XB.ev at this
      rw [q, Bool.false_or] at this
      exact this
theorem bs_ok (C : HX pr me Y a oe) (hc : c < pr.xcn) (hz : Zc (.ref (pr.G.cA c)) none oe) (hv : ∃ vs, oe.data = .fields vs) (hi : me.N[i]? = some en) (hvis : visB me.sc en = true) (hdb : dbgB en = true) :
    ∀ (bs : List XB) {es : List Expr} {σ : St} {Hb H : Hp} {ad : List Addr} {L : Tab} {Q : List V → Hp → Prop}, mXBs pr me en bs es = true → σ[i]? = some (some (.ref a)) → Rel pr.G Hb H ad L → (∀ H', Rel pr.G Hb H' ad L → Stp Hb H ad Hb H' ad → Q (bs.map fun b => .bl (b.ev c)) H') → wA Y es σ H Q
  | [], [], σ, Hb, H, ad, L, Q, m, hs, R, h => wA.by pa_nil (h H R Stp.refl)
  | b :: bs, e :: es, σ, Hb, H, ad, L, Q, m, hs, R, h => by
    have m : (mXB pr me en b e && mXBs pr me en bs es) = true := m
    rw [Bool.and_eq_true] at m
    have st : noStar e = true := by cases b <;> cases e <;> first | rfl | exact Bool.noConfusion m.1
    refine wA.by (pa_cons wX.pe wA.pa (star_of st)) ?_
    refine xb_ok C hc hz hv hi hvis hdb b m.1 hs R fun H1 R1 s1 => ?_
    exact bs_ok C hc hz hv hi hvis hdb bs m.2 hs R1 fun H2 R2 s2 => h H2 R2 (s1.trans s2)
  | [], _ :: _, σ, Hb, H, ad, L, Q, m, hs, R, h => Bool.noConfusion m
  | _ :: _, [], σ, Hb, H, ad, L, Q, m, hs, R, h => Bool.noConfusion m
theorem RepL.bls {G : Gs} {Hb : Hp} : ∀ bs : List Bool, RepL G Hb (bs.map V.bl) (bs.map PD.D.bl)
  | [] => .nil
  | b :: bs => .cons (.bl b) (RepL.bls bs)
/-- the answer of a def that is called there -/
theorem hs_ok {Y : Cx} {me : Me} {a : Addr} {oe : Obj} {c : Nat} {en x : Str} (C : HX pr me Y a oe) (hc : c < pr.xcn) (hz : Zc (.ref (pr.G.cA c)) none oe) (hv : ∃ vs, oe.data = .fields vs) (hi : me.N[0]? = some en) (hvis : visB me.sc en = true) (hdb : dbgB en = true)
    (hx : me.N[1]? = some x) {q : Addr} {bs : List XB} :
    ∀ (ts : List XB) {sts : List Stmt} {σ : St} {Hb H : Hp} {ad : List Addr} {L : Tab} {D : Ends}, mHs pr me en x ts sts = true → σ[(0 : Nat)]? = some (some (.ref a)) → σ[(1 : Nat)]? = some (some (.ref q)) → Rel pr.G Hb H ad L → Rep pr.G Hb (.ref q) (.lst (bs.map fun b => .bl (b.ev c))) →
      (∀ v Hb' H', Rel pr.G Hb' H' ad L → Stp Hb H ad Hb' H' ad → RepS pr.G Hb' ad v (.d (.lst ((hotR c bs ts).map PD.D.bl))) → D.rt v H') → wSs Y sts D σ H
  | [], sts, σ, Hb, H, ad, L, D, m, hs, h1, R, rq, kr => by
    rcases sts with _ | ⟨st, sts⟩
    · exact Bool.noConfusion m
    cases st <;> first | exact Bool.noConfusion m | skip
    rename_i oe2 pos
    cases oe2 <;> first | exact Bool.noConfusion m | skip
    rename_i ee
    cases ee <;> first | exact Bool.noConfusion m | skip
    rename_i y py
    rcases sts with _ | ⟨_, _⟩ <;> first | exact Bool.noConfusion m | skip
    have m : (decide (y = x) && visB me.sc y && dbgB y) = true := m
    simp only [Bool.and_eq_true, decide_eq_true_eq] at m
    obtain ⟨⟨rfl, m2⟩, m3⟩ := m
    have pv : PE Y (.Name y py) (tVar 1) := pe_var (show Y.N[1]? = some y by rw [C.N]; exact hx) (vis_of (X := Y) C.sc m2) (dbg_of m3).1 (dbg_of m3).2
    refine wSs.by (pss_cons (ps_ret pv) pss_nil) ?_
    refine ⟨_, h1, kr _ Hb H R Stp.refl ?_⟩
    have e : (hotR c bs []).map PD.D.bl = bs.map fun b => .bl (b.ev c) := by
      show (bs.map fun b => b.ev c).map PD.D.bl = _
      rw [List.map_map]; rfl
    rw [e]
    exact rq
  | t :: ts, sts, σ, Hb, H, ad, L, D, m, hs, h1, R, rq, kr => by
    rcases sts with _ | ⟨st, sts⟩
    · exact Bool.noConfusion m
    cases st <;> first | exact Bool.noConfusion m | skip
    rename_i et sb se pos
    rcases sb with _ | ⟨s1, sb⟩ <;> first | exact Bool.noConfusion m | skip
    cases s1 <;> first | exact Bool.noConfusion m | skip
    rename_i oe2 pos2
    cases oe2 <;> first | exact Bool.noConfusion m | skip
    rename_i ee
    cases ee <;> first | exact Bool.noConfusion m | skip
    rename_i es p2
    rcases es with _ | ⟨_, _⟩ <;> first | exact Bool.noConfusion m | skip
    rcases sb with _ | ⟨_, _⟩ <;> first | exact Bool.noConfusion m | skip
    rcases se with _ | ⟨_, _⟩ <;> first | exact Bool.noConfusion m | skip
    have m : (mXB pr me en t et && mHs pr me en x ts sts) = true := m
    rw [Bool.and_eq_true] at m
    refine wSs.by (pss_cons (ps_if wT.pt (pss_cons (ps_ret (pe_lst pa_nil)) pss_nil) pss_nil) wSs.pss) ?_
    refine xbT_ok C hc hz hv hi hvis hdb t m.1 hs R fun H1 R1 s1 => ?_
    cases e1 : t.ev c with
    | true =>
      rw [if_pos rfl]
      refine ⟨Nat.zero_le _, fun q2 hq => ?_⟩
      obtain ⟨R2, s2⟩ := R1.newF (o := .lst []) hq
      refine kr _ _ _ R2 (s1.trans s2) ?_
      have e : hotR c bs (t :: ts) = [] := by unfold hotR; rw [List.any_cons, e1]; rfl
      rw [e]
      exact .lst upd_same .nil
    | false =>
      rw [if_neg Bool.false_ne_true]
      refine hs_ok C hc hz hv hi hvis hdb hx ts m.2 hs h1 R1 rq fun v Hb' H' R' s' r' => ?_
      refine kr v Hb' H' R' (s1.trans s') ?_
      have e : hotR c bs (t :: ts) = hotR c bs ts := by unfold hotR; rw [List.any_cons, e1]; rfl
      rw [e]
      exact r'
theorem hot_call {Y : Cx} {me : Me} {a : Addr} {oe : Obj} {c i : Nat} {g y : Str} {bs ts : List XB} {p1 p2 p3 : Pos} (C : HX pr me Y a oe) (hA : Y.stack = Y.stack) (hd : Y.A.depth < recursionLimit) (hc : c < pr.xcn) (hz : Zc (.ref (pr.G.cA c)) none oe) (hv : ∃ vs, oe.data = .fields vs)
    (hot : HotD pr Y.mg Y.K g bs ts) (hg : Gl Y g) (hgd : dbgB g = true) (hi : Y.N[i]? = some y) (hvis : Vis Y.env.scope y) (hdb : dbgB y = true) {σ : St} {Hb H : Hp} {ad : List Addr} {L : Tab} {Q : VK} (hs : σ[i]? = some (some (.ref a))) (R : Rel pr.G Hb H ad L)
    (kr : ∀ v Hb' H', Rel pr.G Hb' H' ad L → Stp Hb H ad Hb' H' ad → RepS pr.G Hb' ad v (.d (.lst ((hotR c bs ts).map PD.D.bl))) → Q v H') : wX Y (.Call (.Name g p1) [.Name y p2] [] p3) σ H Q := by
  obtain ⟨N, qual, en, params, body, scope, f, fd, hm, F, hb, S, mb⟩ := hot
  have pv : PE Y (.Name y p2) (tVar i) := pe_var hi hvis (dbg_of hdb).1 (dbg_of hdb).2
  intro pins s I
  refine wpAny_Call_Name_kw (ld_glob I hg hm ?_ (dbg_of hgd).1)
  refine PySem.W.callWith_K (h₀ := Y.base) I.ok.mod.kin F.kp (thn ((pa_cons pv pa_nil).run p3 pins s σ H (fun vs H1 => vs = [.ref a] ∧ H1 = H) I ⟨_, hs, rfl, rfl⟩) fun us s1 ⟨vs, H1, I1, r, q⟩ => ⟨I1.kIn, ?_⟩) (by rfl) (by rfl)
  obtain ⟨rfl, rfl⟩ := q
  obtain ⟨oc, od, dV, kV, doc, pm, an, cdv, ct, osl, rfl, lk, hcd, _, _⟩ := F.ex
  have hl : us.length = 1 := r.length.symm
  have b := hb s1 us I1.kIn (by simpa using hl)
  rw [List.append_nil] at b
  have pin := I1.pin (a, oe) (List.mem_append_left _ C.pin)
  have hpin : L2H.PinOk Y.stack H1 s1 (a, oe) := ⟨pin.1, pin.2.1, fun z => (List.mem_cons.mp (I1.stkSub a z)).elim pin.2.2.1 pin.2.2.2.1, pin.2.2.2.2⟩
  have E0 := I1.env0
  have kx : Y.K.In s1.heap := E0.mod.kin.keeps fun b o e => (E0.bs b o e).1
  have lim : s1.heap.NoLimit := E0.mod.nolimit.keeps fun b o e => (E0.bs b o e).1
  let Z : Cx := L2H.cxH (L2.CX Y.prog Y.w) Y.prog Y.w Y.K Y.mg Y.base N qual scope f cdv Y.A Y.stack s1 H1 (fun _ _ _ => False) (a, oe)
  have CZ : HX pr ⟨N, scope, fun _ => true⟩ Z a oe := ⟨C.K, rfl, rfl, C.blt, C.cs, by show (a, oe) ∈ [(a, oe)]; simp⟩
  refine wpAny_call (codeAny_mono (R := L2.CR (L2.CX Y.prog Y.w) Y.stack Y.prog Y.w H1 s1 Q (fun _ _ _ => False)) ?_ fun rr s' hq => ?_)
  · refine codeAny_call_function hd (kx _ _ lk) rfl S.co S.gen rfl (PySem.W.codeRec_of kx hcd) (b _ _ _ _ ?_)
    refine wpAny_newFunctionEnv_cells S.kind (fun z hz => ?_) fun env he s2 inc => ?_
    · have hz1 : z.1 = en := by have := (List.of_mem_zip hz).1; simpa using this
      rcases S.par z.1 (by rw [hz1]; simp) with q | q
      · exact .inl q
      · exact .inr ⟨q, PySem.W.cellsFrom_some _ _ _ (.inl q)⟩
    subst he
    refine ⟨lim.keeps inc.toInCall.keep, codeAny_func ?_⟩
    have J : Inv Z [] (L2.start N [.ref a]) H1 s2 := L2H.inv_startH S hpin E0 rfl r inc
    refine wpAny_mono (show wpAny (model Z.prog Z.w) Z.A (execs body Z.env) (SP Z [] { nx := fun _ H' => Q .non H', rt := Q }) Z.xe s2 from ?_) (fun fl s' hs => ?_) fun e s' hs => hs
    · cases body with
      | nil => exact Bool.noConfusion mb
      | cons st sts =>
        cases st <;> first | exact Bool.noConfusion mb | skip
        rename_i tgs ee pos
        rcases tgs with _ | ⟨t, tl⟩ <;> first | exact Bool.noConfusion mb | skip
        cases t <;> first | exact Bool.noConfusion mb | skip
        rename_i x p
        rcases tl with _ | ⟨_, _⟩ <;> first | exact Bool.noConfusion mb | skip
        cases ee <;> first | exact Bool.noConfusion mb | skip
        rename_i es p4
        have m : (decide (N[0]? = some en) && visB scope en && dbgB en && decide (N[1]? = some x) && locB ⟨N, scope, fun _ => true⟩ x && decide (bs.length < 60) && mXBs pr ⟨N, scope, fun _ => true⟩ en bs es && mHs pr ⟨N, scope, fun _ => true⟩ en x ts sts) = true := mb
        simp only [Bool.and_eq_true, decide_eq_true_eq] at m
        obtain ⟨⟨⟨⟨⟨⟨⟨m1, m2⟩, m3⟩, m4⟩, m5⟩, m6⟩, m7⟩, m8⟩ := m
        obtain ⟨hx, hf⟩ := loc_of (X := Z) (me := ⟨N, scope, fun _ => true⟩) rfl (fun _ _ => rfl) m5
        refine (wSs.by (pss_cons (ps_set (X := Z) S.nd m4 hx (pe_lst wA.pa) (swap_of rfl) hf) wSs.pss) ?_) [] s2 J
        refine bs_ok CZ hc hz hv m1 m2 m3 bs m7 rfl R fun H2 R2 t2 => ⟨by rw [List.length_map, sizeLine_eq]; omega, fun q hq => ?_⟩
        have em : (bs.map fun b => V.bl (b.ev c)) = (bs.map fun b => b.ev c).map V.bl := by rw [List.map_map]; rfl
        have ed : (bs.map fun b => PD.D.bl (b.ev c)) = (bs.map fun b => b.ev c).map PD.D.bl := by rw [List.map_map]; rfl
        obtain ⟨R3, t3⟩ := R2.newF (o := .lst (bs.map fun b => V.bl (b.ev c))) hq
        have hN : 1 < N.length := (List.getElem?_eq_some_iff.mp m4).1
        refine hs_ok CZ hc hz hv m1 m2 m3 m4 (q := q) (bs := bs) ts m8 ?_ ?_ R3 ?_ fun v Hb' H' R' s' r' => kr v Hb' H' R' ((t2.trans t3).trans s') r'
        · rw [List.getElem?_set_ne (by decide)]; rfl
        · rw [List.getElem?_set_self]
          unfold L2.start
          simp; omega
        · refine .lst upd_same ?_
          rw [em, ed]
          exact RepL.bls _
    · cases fl with
      | ret u =>
        obtain ⟨v, σ', H', J', rv, q⟩ := hs
        exact ⟨v, H', J'.os, J'.bare, J'.base, J'.hok, rv, q⟩
      | next =>
        obtain ⟨σ', H', J', q⟩ := hs
        exact ⟨.non, H', J'.os, J'.bare, J'.base, J'.hok, rfl, q⟩
      | brk =>
        obtain ⟨_, _, _, q⟩ := hs
        exact False.elim q
      | cont =>
        obtain ⟨_, _, _, q⟩ := hs
        exact False.elim q
  · cases rr with
    | error e =>
      obtain ⟨_, _, _, _, _, _, _, _, _, _, _, _, no⟩ := hq
      exact no.elim
    | ok fl =>
      cases fl with
      | ret u => exact I1.after hq
      | next => exact False.elim hq
      | brk => exact False.elim hq
      | cont => exact False.elim hq
end
section
variable {me : Me} {X : Cx} {a : Addr} {oe : Obj} {pn : List (Addr × Obj)} {c i : Nat} {en : Str}
theorem HX.of (C : Ctx pr n me X) : HX pr me (X.suite a ((a, oe) :: pn)) a oe := ⟨C.K, C.N, C.sc, C.blt, C.cs, List.mem_cons_self⟩
/-- the suite's statements -/
theorem xs_ok (C : Ctx pr n me X) (hc : c < pr.xcn) (hz : Zc (.ref (pr.G.cA c)) none oe) (hv : ∃ vs, oe.data = .fields vs) (hi : me.N[i]? = some en) (hvis : visB me.sc en = true) (hdb : dbgB en = true) {nx : Env → Tab → Prop} {rt : SV → Tab → Prop} :
    ∀ (xs : List XS) {sts : List Stmt} {env : Env} {L : Tab} {σ : St} {Hb H : Hp} {ad : List Addr} {D : Ends}, mXs pr me i en xs sts = true → runX c nx rt xs env L → σ[i]? = some (some (.ref a)) → (∀ v, env[i]? ≠ some (some v)) → Rel pr.G Hb H ad L → EnvR pr.G Hb ad env σ →
      (∀ env' L' Hb' H' ad' σ', nx env' L' → (∀ v, env'[i]? ≠ some (some v)) → Rel pr.G Hb' H' ad' L' → EnvR pr.G Hb' ad' env' σ' → Stp Hb H ad Hb' H' ad' → D.nx σ' H') →
      (∀ v sv L' Hb' H' ad', rt sv L' → Rel pr.G Hb' H' ad' L' → Stp Hb H ad Hb' H' ad' → RepS pr.G Hb' ad' v sv → D.rt v H') → wSs (X.suite a ((a, oe) :: pn)) sts D σ H
  | [], sts, env, L, σ, Hb, H, ad, D, m, h, hs, he, R, E, kn, kr => by
    cases sts with
    | cons _ _ => exact Bool.noConfusion m
    | nil => exact wSs.by pss_nil (kn _ _ _ _ _ _ h he R E Stp.refl)
  | .asg j bs :: xs, sts, env, L, σ, Hb, H, ad, D, m, h, hs, he, R, E, kn, kr => by
    rcases sts with _ | ⟨st, sts⟩
    · exact Bool.noConfusion m
    cases st <;> first | exact Bool.noConfusion m | skip
    rename_i tgs ee pos
    rcases tgs with _ | ⟨t, tl⟩ <;> first | exact Bool.noConfusion m | skip
    cases t <;> first | exact Bool.noConfusion m | skip
    rename_i x p
    rcases tl with _ | ⟨_, _⟩ <;> first | exact Bool.noConfusion m | skip
    cases ee <;> first | exact Bool.noConfusion m | skip
    rename_i es p2
    have m : (decide (me.N[j]? = some x) && decide (j ≠ i) && locB me x && decide (bs.length < 60) && mXBs pr me en bs es && mXs pr me i en xs sts) = true := m
    simp only [Bool.and_eq_true, decide_eq_true_eq] at m
    obtain ⟨⟨⟨⟨⟨m1, m2⟩, m3⟩, m4⟩, m5⟩, m6⟩ := m
    obtain ⟨hx, hf⟩ := loc_of (X := X) C.sc C.fb m3
    refine wSs.by (pss_cons (ps_set (X := X.suite a ((a, oe) :: pn)) C.nd (show X.N[j]? = some x by rw [C.N]; exact m1) hx (pe_lst wA.pa) (swap_of rfl) hf) wSs.pss) ?_
    refine bs_ok (HX.of C) hc hz hv hi hvis hdb bs m5 hs R fun H1 R1 s1 => ⟨by rw [List.length_map, sizeLine_eq]; omega, fun q hq => ?_⟩
    have em : (bs.map fun b => V.bl (b.ev c)) = (bs.map fun b => b.ev c).map V.bl := by rw [List.map_map]; rfl
    have ed : (bs.map fun b => PD.D.bl (b.ev c)) = (bs.map fun b => b.ev c).map PD.D.bl := by rw [List.map_map]; rfl
    obtain ⟨R2, s2⟩ := R1.newF (o := .lst (bs.map fun b => V.bl (b.ev c))) hq
    have rr : RepS pr.G (upd Hb q (.lst (bs.map fun b => V.bl (b.ev c)))) ad (.ref q) (.d (.lst (bs.map fun b => .bl (b.ev c)))) := by
      refine .lst upd_same ?_
      rw [em, ed]
      exact RepL.bls _
    unfold runX at h
    refine xs_ok C hc hz hv hi hvis hdb xs m6 h (by rw [List.getElem?_set_ne m2]; exact hs) (fun v => by unfold setS; rw [List.getElem?_set_ne m2]; exact he v) R2 (((E.step s1).step s2).set j rr) ?_ ?_
    · exact fun env' L' Hb' H' ad' σ' hn he' R' E' s' => kn env' L' Hb' H' ad' σ' hn he' R' E' ((s1.trans s2).trans s')
    · exact fun v sv L' Hb' H' ad' hn R' s' r' => kr v sv L' Hb' H' ad' hn R' ((s1.trans s2).trans s') r'
  | .ifn t j :: xs, sts, env, L, σ, Hb, H, ad, D, m, h, hs, he, R, E, kn, kr => by
    rcases sts with _ | ⟨st, sts⟩
    · exact Bool.noConfusion m
    cases st <;> first | exact Bool.noConfusion m | skip
    rename_i et sb se pos
    rcases sb with _ | ⟨s1, sb⟩ <;> first | exact Bool.noConfusion m | skip
    cases s1 <;> first | exact Bool.noConfusion m | skip
    rename_i tgs ee pos2
    rcases tgs with _ | ⟨tg, tl⟩ <;> first | exact Bool.noConfusion m | skip
    cases tg <;> first | exact Bool.noConfusion m | skip
    rename_i x p
    rcases tl with _ | ⟨_, _⟩ <;> first | exact Bool.noConfusion m | skip
    cases ee <;> first | exact Bool.noConfusion m | skip
    rename_i es p2
    rcases es with _ | ⟨_, _⟩ <;> first | exact Bool.noConfusion m | skip
    rcases sb with _ | ⟨_, _⟩ <;> first | exact Bool.noConfusion m | skip
    rcases se with _ | ⟨_, _⟩ <;> first | exact Bool.noConfusion m | skip
    have m : (mXB pr me en t et && decide (me.N[j]? = some x) && decide (j ≠ i) && locB me x && mXs pr me i en xs sts) = true := m
    simp only [Bool.and_eq_true, decide_eq_true_eq] at m
    obtain ⟨⟨⟨⟨m0, m1⟩, m2⟩, m3⟩, m6⟩ := m
    obtain ⟨hx, hf⟩ := loc_of (X := X) C.sc C.fb m3
    unfold runX at h
    refine wSs.by (pss_cons (ps_if wT.pt (pss_one (ps_set (X := X.suite a ((a, oe) :: pn)) C.nd (show X.N[j]? = some x by rw [C.N]; exact m1) hx (pe_lst pa_nil) (swap_of rfl) hf)) pss_nil) wSs.pss) ?_
    refine xbT_ok (HX.of C) hc hz hv hi hvis hdb t m0 hs R fun H1 R1 s1 => ?_
    cases q : t.ev c with
    | true =>
      rw [if_pos rfl]
      refine ⟨Nat.zero_le _, fun q2 hq => ?_⟩
      obtain ⟨R2, s2⟩ := R1.newF (o := .lst []) hq
      have rr : RepS pr.G (upd Hb q2 (.lst [])) ad (.ref q2) (.d (.lst [])) := .lst upd_same .nil
      refine xs_ok C hc hz hv hi hvis hdb xs m6 (h.1 q) (by rw [List.getElem?_set_ne m2]; exact hs) (fun v => by unfold setS; rw [List.getElem?_set_ne m2]; exact he v) R2 (((E.step s1).step s2).set j rr) ?_ ?_
      · exact fun env' L' Hb' H' ad' σ' hn he' R' E' s' => kn env' L' Hb' H' ad' σ' hn he' R' E' ((s1.trans s2).trans s')
      · exact fun v sv L' Hb' H' ad' hn R' s' r' => kr v sv L' Hb' H' ad' hn R' ((s1.trans s2).trans s') r'
    | false =>
      rw [if_neg Bool.false_ne_true]
      refine xs_ok C hc hz hv hi hvis hdb xs m6 (h.2 q) hs he R1 (E.step s1) ?_ ?_
      · exact fun env' L' Hb' H' ad' σ' hn he' R' E' s' => kn env' L' Hb' H' ad' σ' hn he' R' E' (s1.trans s')
      · exact fun v sv L' Hb' H' ad' hn R' s' r' => kr v sv L' Hb' H' ad' hn R' (s1.trans s') r'
  | .call j k bs ts :: xs, sts, env, L, σ, Hb, H, ad, D, m, h, hs, he, R, E, kn, kr => by
    rcases sts with _ | ⟨st, sts⟩
    · exact Bool.noConfusion m
    cases st <;> first | exact Bool.noConfusion m | skip
    rename_i tgs ee pos
    rcases tgs with _ | ⟨t, tl⟩ <;> first | exact Bool.noConfusion m | skip
    cases t <;> first | exact Bool.noConfusion m | skip
    rename_i x p
    rcases tl with _ | ⟨_, _⟩ <;> first | exact Bool.noConfusion m | skip
    cases ee <;> first | exact Bool.noConfusion m | skip
    rename_i ef es kws p2
    cases ef <;> first | exact Bool.noConfusion m | skip
    rename_i g pg
    rcases es with _ | ⟨e1, es⟩ <;> first | exact Bool.noConfusion m | skip
    cases e1 <;> first | exact Bool.noConfusion m | skip
    rename_i y py
    rcases es with _ | ⟨_, _⟩ <;> first | exact Bool.noConfusion m | skip
    rcases kws with _ | ⟨_, _⟩ <;> first | exact Bool.noConfusion m | skip
    have m : (decide (me.N[j]? = some x) && decide (j ≠ i) && locB me x && decide (y = en) && decide (pr.hf[k]? = some (g, bs, ts)) && glB me.sc g && dbgB g && mXs pr me i en xs sts) = true := m
    simp only [Bool.and_eq_true, decide_eq_true_eq] at m
    obtain ⟨⟨⟨⟨⟨⟨⟨m1, m2⟩, m3⟩, m4⟩, m5⟩, m7⟩, m8⟩, m6⟩ := m
    have m4 := m4.symm
    subst m4
    obtain ⟨hx, hf⟩ := loc_of (X := X) C.sc C.fb m3
    refine wSs.by (pss_cons (ps_set (X := X.suite a ((a, oe) :: pn)) C.nd (show X.N[j]? = some x by rw [C.N]; exact m1) hx wX.pe (swap_of rfl) hf) wSs.pss) ?_
    refine hot_call (HX.of C) (Y := X.suite a ((a, oe) :: pn)) rfl (by have := C.room.dp; show X.A.depth < _; omega) hc hz hv (C.cs.hf k g bs ts m5) (gl_of (X := X) C.sc m7) m8 (show X.N[i]? = some en by rw [C.N]; exact hi) (vis_of (X := X) C.sc hvis) hdb hs R fun q Hb1 H1 R1 s1 rq => ?_
    unfold runX at h
    refine xs_ok C hc hz hv hi hvis hdb xs m6 h (by rw [List.getElem?_set_ne m2]; exact hs) (fun v => by unfold setS; rw [List.getElem?_set_ne m2]; exact he v) R1 ((E.step s1).set j rq) ?_ ?_
    · exact fun env' L' Hb' H' ad' σ' hn he' R' E' s' => kn env' L' Hb' H' ad' σ' hn he' R' E' (s1.trans s')
    · exact fun v sv L' Hb' H' ad' hn R' s' r' => kr v sv L' Hb' H' ad' hn R' (s1.trans s') r'
  | .ret t j :: xs, sts, env, L, σ, Hb, H, ad, D, m, h, hs, he, R, E, kn, kr => by
    rcases sts with _ | ⟨st, sts⟩
    · exact Bool.noConfusion m
    cases st <;> first | exact Bool.noConfusion m | skip
    rename_i oe2 pos
    cases oe2 <;> first | exact Bool.noConfusion m | skip
    rename_i ee
    cases ee <;> first | exact Bool.noConfusion m | skip
    rename_i bo es pos2
    cases bo <;> first | exact Bool.noConfusion m | skip
    rcases es with _ | ⟨et, es⟩ <;> first | exact Bool.noConfusion m | skip
    rcases es with _ | ⟨e2, es⟩ <;> first | exact Bool.noConfusion m | skip
    cases e2 <;> first | exact Bool.noConfusion m | skip
    rename_i el ops cs pos3
    cases el <;> first | exact Bool.noConfusion m | skip
    rename_i cc kk p4
    cases cc <;> first | exact Bool.noConfusion m | skip
    rename_i bb
    rcases ops with _ | ⟨op, ops⟩ <;> first | exact Bool.noConfusion m | skip
    cases op <;> first | exact Bool.noConfusion m | skip
    rcases ops with _ | ⟨_, _⟩ <;> first | exact Bool.noConfusion m | skip
    rcases cs with _ | ⟨ex, cs⟩ <;> first | exact Bool.noConfusion m | skip
    cases ex <;> first | exact Bool.noConfusion m | skip
    rename_i x p
    rcases cs with _ | ⟨_, _⟩ <;> first | exact Bool.noConfusion m | skip
    rcases es with _ | ⟨_, _⟩ <;> first | exact Bool.noConfusion m | skip
    have m : (bb && mXB pr me en t et && decide (me.N[j]? = some x) && decide (j ≠ i) && visB me.sc x && dbgB x) = true := m
    simp only [Bool.and_eq_true, decide_eq_true_eq] at m
    obtain ⟨⟨⟨⟨⟨m0, m1⟩, m2⟩, m3⟩, m4⟩, m5⟩ := m
    subst m0
    unfold runX at h
    cases q1 : env[j]? with
    | none => rw [q1] at h; exact h.elim
    | some o =>
      rw [q1] at h
      rcases o with _ | (u | k)
      · exact h.elim
      · cases u <;> first | exact h.elim | skip
        rename_i bs
        obtain ⟨fl, h⟩ := h
        obtain ⟨v, e1, e2⟩ := E.at_ j _ q1
        have e3 : Rep pr.G Hb v (.lst bs) := e2
        have pv : PE (X.suite a ((a, oe) :: pn)) (.Name x p) (tVar j) := pe_var (show X.N[j]? = some x by rw [C.N]; exact m2) (vis_of (X := X) C.sc m4) (dbg_of m5).1 (dbg_of m5).2
        refine wSs.by (pss_cons (ps_ret (pe_and wX.pe (pe_one (pe_cmpR op_notIn_seq pe_bl pv (mark_of rfl))))) wSs.pss) ?_
        refine xb_ok (HX.of C) hc hz hv hi hvis hdb t m1 hs R fun H1 R1 s1 => ⟨_, rfl, ?_⟩
        cases e3 with
        | lst a1 a2 =>
          have rl := a2.mono R1.ext
          cases q : t.ev c with
          | true =>
            rw [if_pos rfl]
            refine ⟨_, e1, _, _, rfl, .inl (SqL.of (R1.ext _ _ a1)), rfl, flatAll fl rl, ?_⟩
            rw [q, Bool.true_and] at h
            rw [inV_of (d := .bl true) rfl (.bl true) fl rl]
            exact kr _ (.d (.bl _)) _ _ _ _ h R1 s1 (.bl _)
          | false =>
            rw [if_neg Bool.false_ne_true]
            rw [q, Bool.false_and] at h
            exact kr _ (.d (.bl _)) _ _ _ _ h R1 s1 (.bl _)
      · exact h.elim
end
theorem EnvR.free {G : Gs} {Hb : Hp} {ad : List Addr} {env : Env} {σ : St} {i : Nat} {o : Option V} (E : EnvR G Hb ad env σ) (he : ∀ v, env[i]? ≠ some (some v)) : EnvR G Hb ad env (σ.set i o) := by
  refine ⟨by rw [List.length_set]; exact E.len, fun j sv h => ?_⟩
  have hj : i ≠ j := fun z => by subst z; exact he sv h
  obtain ⟨v, h1, h2⟩ := E.at_ j sv h
  exact ⟨v, by rw [List.getElem?_set_ne hj]; exact h1, h2⟩
theorem none_at {env : Env} {i : Nat} : ∀ v, (env.set i none)[i]? ≠ some (some v) := fun v h => by
  by_cases hl : i < env.length
  · rw [List.getElem?_set_self hl] at h; cases h
  · rw [List.getElem?_eq_none (by simp; omega)] at h; cases h
theorem ss_tryx {body : PD.Ss} (hb : SSs pr n body) (cd m : Nat) (cs : List Nat) (i : Nat) (xs : List XS) : SS pr n (.tryx body cd m cs i xs) := by
  intro me X W st env L K Hb H ad σ D C tk po mh h R E d
  cases st <;> first | exact Bool.noConfusion mh | skip
  rename_i sb hds oe fin pos
  rcases hds with _ | ⟨hd, hds⟩ <;> first | exact Bool.noConfusion mh | skip
  obtain ⟨ty, nm, ss, pos2⟩ := hd
  cases ty <;> first | exact Bool.noConfusion mh | skip
  rename_i te
  cases te <;> first | exact Bool.noConfusion mh | skip
  rename_i x np
  cases nm <;> first | exact Bool.noConfusion mh | skip
  rename_i en
  rcases ss with _ | ⟨s0, ss⟩ <;> first | exact Bool.noConfusion mh | skip
  rcases hds with _ | ⟨_, _⟩ <;> first | exact Bool.noConfusion mh | skip
  rcases oe with _ | ⟨_, _⟩ <;> first | exact Bool.noConfusion mh | skip
  rcases fin with _ | ⟨_, _⟩ <;> first | exact Bool.noConfusion mh | skip
  have mh : (decide (x = pr.xn cd) && decide (cd < pr.yc) && glB me.sc x && dbgB x && decide (m = pr.xcn) && decide (cs = pr.un (cd + 1)) && decide (me.N[i]? = some en) && locl me en && visB me.sc en && dbgB en && mSs pr body me sb && mXs pr me i en xs (s0 :: ss)) = true := mh
  simp only [Bool.and_eq_true, decide_eq_true_eq] at mh
  obtain ⟨⟨⟨⟨⟨⟨⟨⟨⟨⟨⟨rfl, m1⟩, m2⟩, m3⟩, rfl⟩, rfl⟩, m4⟩, m5⟩, m6⟩, m7⟩, m8⟩, m9⟩ := mh
  unfold wpS at h
  have hln : X.env.kindOf en = some .local := by
    unfold locl at m5
    show X.env.scope.names.lookup en = _
    rw [C.sc]
    cases q : me.sc.names.lookup en with
    | none => rw [q] at m5; cases m5
    | some kk => rw [q] at m5; cases kk <;> first | (cases m5; done) | rfl
  refine wS.by (ps_try_as (b₀ := s0) (suite := ss) (Wout := W) (c := .ref (pr.G.cA cd))
    (tb := fun W' D' σ' H' => ∀ (pn : List (Addr × Obj)) (xe : Value → Shared → Prop), Takes (X.tr pn xe) W' → PassesOwn (model X.prog X.w) X.A X.env xe → wSs (X.tr pn xe) sb D' σ' H')
    (ts := fun a cls dd D' σ' H' => ∀ (oe : Obj) (pn : List (Addr × Obj)), Zc cls dd oe → (∃ vs, oe.data = .fields vs) → wSs (X.suite a ((a, oe) :: pn)) (s0 :: ss) D' σ' H')
    po.hs po.hf C.nd (by rw [C.N]; exact m4) hln ⟨gl_of C.sc m2, (dbg_of m3).1, .inl (C.cs.yg cd m1)⟩ tk
    (fun W' pn xe tk' po' => ⟨fun pins s σ' H' D' I hh => hh pn xe tk' po' pins s I⟩)
    (fun a oe cls dd pn hz hv => ⟨fun pins s σ' H' D' I hh => hh oe pn hz hv pins s I⟩)) ?_
  intro pn xe tk' po'
  have C' : Ctx pr n me (X.tr pn xe) := ⟨C.K, C.N, C.sc, C.nd, C.calm, C.room, C.fb, C.fns, C.blt, C.gcs, C.cs⟩
  refine hb C' tk' ⟨po', po.hs, po.hf⟩ m8 h R E ⟨d.nx, d.bk, d.ct, d.rt, ?_⟩
  intro x env' L' cls dd Hb' H' ad' σ' hz R' E' s' xr
  obtain ⟨z1, zl, z2, z3, z4⟩ := hz
  obtain ⟨c, f⟩ := x
  cases z1
  obtain ⟨rfl, rfl⟩ := xr
  have fact := C.cs.ex cd c m1 z2
  refine ⟨_, fact, fun hy a ha oe pn2 hz2 hv => ?_, fun hn => d.z _ env' L' _ _ Hb' H' ad' σ' (z4 (of_decide_eq_false hn)) R' E' s' ⟨rfl, rfl⟩⟩
  have e0 : EnvR pr.G Hb' ad' (env'.set i none) (σ'.set i (some (.ref a))) := (E'.unset i).free none_at
  have hl : i < σ'.length := by rw [← E'.len]; exact zl
  refine xs_ok C z2 hz2 hv m4 m6 m7 xs m9 (z3 (of_decide_eq_true hy)) (List.getElem?_set_self hl) none_at R' e0 ?_ ?_
  · intro env2 L2 Hb2 H2 ad2 σ2 hn he R2 E2 s2
    exact d.nx _ _ _ _ _ _ hn R2 (E2.free he) (s'.trans s2)
  · intro v sv L2 Hb2 H2 ad2 hn R2 s2 r2
    exact d.rt _ _ _ _ _ _ hn R2 (s'.trans s2) r2
theorem ss_mintI (t : T) (o1 o2 : COp) (i : Int) (b c : E) (r : Bool) : SS pr n (.mintI t o1 o2 i b c r) := by
  intro me X W st env L K Hb H ad σ D C tk po mh h R E d
  cases st <;> exact Bool.noConfusion mh
theorem ss_mintL (i : Nat) (a : E) : SS pr n (.mintL i a) := by
  intro me X W st env L K Hb H ad σ D C tk po mh h R E d
  cases st <;> exact Bool.noConfusion mh
theorem ss_repA (i f : Nat) (a o : E) (y : Str) (b : E) : SS pr n (.repA i f a o y b) := by
  intro me X W st env L K Hb H ad σ D C tk po mh h R E d
  cases st <;> exact Bool.noConfusion mh
theorem ss_repR (f : Nat) (a o : E) (y : Str) (b : E) : SS pr n (.repR f a o y b) := by
  intro me X W st env L K Hb H ad σ D C tk po mh h R E d
  cases st <;> exact Bool.noConfusion mh
mutual
theorem snd_S : ∀ a : PD.S, SS pr n a
  | .asg (.v i) e => ss_asg i e
  | .asg (.t is) e => ss_unpack is e
  | .own i e => ss_own i e
  | .par i j a b => ss_par i j a b
  | .aug i op e => ss_aug i op e
  | .setix x i e => ss_setix x i e
  | .setk x i => ss_setk x i
  | .append x e => ss_append x e
  | .extend x e => ss_extend x e
  | .ret e => ss_ret e
  | .retO e => ss_retO e
  | .never => ss_never
  | .retN => ss_retN
  | .ife c a b => ss_ife c (snd_Ss a) (snd_Ss b)
  | .for_ tg it sl body => ss_for tg it sl (snd_Ss body)
  | .while_ c sl body => ss_while c sl (snd_Ss body)
  | .raise c => ss_raise c
  | .clear i => ss_clear i
  | .tryx body cd m cs i xs => ss_tryx (snd_Ss body) cd m cs i xs
  | .setf i c f e => ss_setf i c f e
  | .expr e => ss_expr e
  | .frz i => ss_frz i
  | .pass => ss_pass
  | .mintI t o1 o2 i b c r => ss_mintI t o1 o2 i b c r
  | .mintL i a => ss_mintL i a
  | .repA i f a o y b => ss_repA i f a o y b
  | .repR f a o y b => ss_repR f a o y b
theorem snd_Ss : ∀ a : PD.Ss, SSs pr n a
  | .nil => sss_nil
  | .cons s ss => sss_cons (snd_S s) (snd_Ss ss)
end
end
end PD

namespace PD
open PySem L2
/-! ## a token is out: str.replace -/
section
variable (pr : Pr)
def mRep (me : Me) (o : E) (y : Str) (b : E) : Expr → Bool
  | .Call (.Attribute eo f q) [.Constant (.str y') _ _, .Subscript eb (.Constant (.int j) _ _) _] [] q2 => (q.endLine == q2.line) && decide (f = ("replace" : Str)) && decide (y = y') && decide (j = 0) && noCall eo && mE pr o me eo && mE pr b me eb
  | _ => false
def mCalT (me : Me) (f : Nat) (a o : E) (y : Str) (b : E) : Expr → Bool
  | .Call (.Name g _) [ea, er] [] _ => decide (g = pr.nm f) && glB me.sc g && dbgB g && isFn pr f && noStar ea && noStar er && mE pr a me ea && mRep pr me o y b er
  | _ => false
/-- a statement that is read only where a token is out -/
def mRp : S → Me → Stmt → Bool
  | .repA i f a o y b, me, .Assign [.Name x _] ee _ => decide (me.N[i]? = some x) && locB me x && noComp ee && mCalT pr me f a o y b ee
  | .repR f a o y b, me, .Return (some ee) _ => mCalT pr me f a o y b ee
  | _, _, _ => false
def mSsT : Ss → Me → List Stmt → Bool
  | .cons s ss, me, st :: sts => (mS pr s me st && mSsT ss me sts) || (mRp pr s me st && mSsT ss me sts)
  | .nil, _, [] => true
  | _, _, _ => false
def mOrN (me : Me) (t : T) (o1 o2 : COp) (i : Int) (b c : E) : Expr → Bool
  | .BoolOp .Or [e1, .UnaryOp .Not e2 _] _ => mT pr t me e1 && mT pr (.chain o1 o2 (.int i) b c) me e2
  | _ => false
def mLen (me : Me) (a : E) : Expr → Bool
  | .Call (.Name g _) [ea] [] _ => decide (g = ("len" : Str)) && glB me.sc g && noStar ea && mE pr a me ea
  | _ => false
/-- a statement behind which a token is out -/
def mMint : S → Me → Stmt → Bool
  | .mintI t o1 o2 i b c r, me, .If ec [.Return (some ee) _] [] _ => mOrN pr me t o1 o2 i b c ec && mE pr (.bl r) me ee
  | .mintL i a, me, .Assign [.Name x _] ee _ => decide (me.N[i]? = some x) && locB me x && noComp ee && mLen pr me a ee
  | _, _, _ => false
def mSsM : Ss → Me → List Stmt → Bool
  | .cons s ss, me, st :: sts => (mS pr s me st && mSsM ss me sts) || (mMint pr s me st && mSsT pr ss me sts)
  | _, _, _ => false
def mB (ss : Ss) (me : Me) (sts : List Stmt) : Bool := mSs pr ss me sts || mSsM pr ss me sts
end
def wXT (X : Cx) (e : Expr) : TE := fun σ H Q => ∀ (pins : List (Addr × Obj)) (s : Shared), 1 ≤ s.toks → Inv X pins σ H s → wpAny (model X.prog X.w) X.A (eval e X.env) (EP X pins σ Q) X.xe s
def wSsT (X : Cx) (sts : List Stmt) : TS := fun D σ H => ∀ (pins : List (Addr × Obj)) (s : Shared), 1 ≤ s.toks → Inv X pins σ H s → wpAny (model X.prog X.w) X.A (execs sts X.env) (SP X pins D) X.xe s
def wST (X : Cx) (st : Stmt) : TS := fun D σ H => ∀ (pins : List (Addr × Obj)) (s : Shared), 1 ≤ s.toks → Inv X pins σ H s → wpAny (model X.prog X.w) X.A (exec st X.env) (SP X pins D) X.xe s
section
variable {pr : Pr} {n : Nat}
theorem rep_ok {o b : E} {y : Str} {me : Me} {X : Cx} {W : WX} {er : Expr} {m : Bool} {env : Env} {L : Tab} {k : KV} {z : Xn → Tab → Prop} {Hb H : Hp} {ad : List Addr} {σ : St} {Q : VK} (C : Ctx pr n me X) (tk : Takes X W)
    (mh : mRep pr me o y b er = true) (h : wpE (Gam pr n) pr.gc (.repl o y b) m env L k z) (R : Rel pr.G Hb H ad L) (E : EnvR pr.G Hb ad env σ) (Z : ZOk pr.G z W σ Hb H ad) (hk : KOk pr.G k Q Hb H ad) : wXT X er σ H Q := by
  match er, mh with
  | .Call (.Attribute eo f q) [.Constant (.str y') j1 p1, .Subscript eb (.Constant (.int j) j2 p2) p3] [] q2, mh =>
    have mh : ((q.endLine == q2.line) && decide (f = ("replace" : Str)) && decide (y = y') && decide (j = 0) && noCall eo && mE pr o me eo && mE pr b me eb) = true := mh
    simp only [Bool.and_eq_true, decide_eq_true_eq] at mh
    obtain ⟨⟨⟨⟨⟨⟨m0, rfl⟩, rfl⟩, rfl⟩, m3⟩, m4⟩, m5⟩ := mh
    unfold wpE at h
    intro pins s h0 I
    refine PySem.Call_method2 (noCall_base m3 _) rfl m0 ?_
    refine wpAny_mono (PySem.wpAny_toks (snd_E o C tk m4 h R E Z (Q := fun v H1 => ∃ u L1 Hb1 ad1, v = V.str u ∧ wpE (Gam pr n) pr.gc b false env L1 (fun v L2 => match v with
        | .d (.str t) => ∃ c, t.cps.toList[(0 : Nat)]? = some c ∧ (y == (⟨#[c]⟩ : Str)) = false ∧ u.length + (u.length + 1) ≤ 16777216 ∧ k (.d (.str (Txt.replace u y ⟨#[c]⟩))) L2
        | _ => False) z ∧ Rel pr.G Hb1 H1 ad1 L1 ∧ Stp Hb H ad Hb1 H1 ad1) (fun v sv L1 Hb1 H1 ad1 hh R1 s1 r1 => ?_) pins s I)) (fun v s1 q => ?_) fun _ _ z => z.2
    · cases sv with
      | c _ => exact hh.elim
      | d x =>
        cases x <;> first | exact hh.elim | skip
        rename_i u
        cases (show Rep pr.G Hb1 v (.str u) from r1)
        exact ⟨u, L1, Hb1, ad1, rfl, hh, R1, s1⟩
    · obtain ⟨hk1, x, H1, I1, r1, u, L1, Hb1, ad1, rfl, hb, R1, st1⟩ := q
      obtain ⟨t, rfl⟩ := r1
      refine ⟨"str", _, PySem.F.plainAttrs_str, PySem.F.slot_str_replace, PySem.F.type_str_replace, PySem.typeIs_str _ _ _, (fun _ e => nomatch e), PySem.Calls.callWith_builtin rfl (PySem.Calls.evalArgs_plain (PySem.Calls.spliced_cons ?_))⟩
      refine PySem.Calls.Constant_str (PySem.Calls.spliced_cons ?_)
      refine PyProof.Rows.Subscript_ ?_
      refine wpAny_mono (PySem.wpAny_toks (snd_E b C tk m5 hb R1 (E.step st1) (Z.step st1) (Q := fun v H2 => ∃ t c, v = V.str t ∧ t.cps.toList[(0 : Nat)]? = some c ∧ (y == (⟨#[c]⟩ : Str)) = false ∧ u.length + (u.length + 1) ≤ 16777216 ∧ Q (.str (Txt.replace u y ⟨#[c]⟩)) H2) (fun v sv L2 Hb2 H2 ad2 hh R2 s2 r2 => ?_) pins _ (I1.tok (s1.toks + 1)))) (fun v s2 q => ?_) fun _ _ z => z.2
      · cases sv with
        | c _ => exact hh.elim
        | d x =>
          cases x <;> first | exact hh.elim | skip
          rename_i t2
          obtain ⟨c, c1, c2, c3, c4⟩ := hh
          cases (show Rep pr.G Hb2 v (.str t2) from r2)
          exact ⟨t2, c, rfl, c1, c2, c3, hk _ (.d (.str _)) _ _ _ _ c4 R2 (st1.trans s2) (.str _)⟩
      · obtain ⟨hk2, x, H2, I2, r2, t2, c, rfl, c1, c2, c3, c4⟩ := q
        obtain ⟨t', rfl⟩ := r2
        have hk2 : s1.toks + 1 ≤ s2.toks := hk2
        refine PySem.wpAny_Constant_int ?_
        refine PyProof.Rows.tail_any (PySem.typeIs_str _ _ _) PySem.F.slot_str_getitem.lookup (PyProof.Rows.getItem_str (c := c) rfl ?_ ?_) rfl
        · rw [Array.getElem?_toList] at c1
          have hl : 0 < t2.length := (Array.getElem?_eq_some_iff.mp c1).1
          rw [PySem.StrLaws.seqIndex_nonneg (by omega) (by omega)]
          exact c1
        refine PySem.Calls.spliced_nil ?_
        exact PySem.SC.replace (by show s1.toks ≠ 0; omega) (by show s2.toks + 1 ≠ 0; omega) (by show s1.toks ≠ s2.toks + 1; omega) c2 (by show u.length + (u.length + 1) * 1 ≤ _; omega) fun t' k => ⟨.str _, H2, I2.tok k, ⟨t', rfl⟩, c4⟩
theorem calT_ok {f : Nat} {a o b : E} {y : Str} {me : Me} {X : Cx} {W : WX} {ee : Expr} {m : Bool} {env : Env} {L : Tab} {k : KV} {z : Xn → Tab → Prop} {Hb H : Hp} {ad : List Addr} {σ : St} {Q : VK} (C : Ctx pr n me X) (tk : Takes X W)
    (mh : mCalT pr me f a o y b ee = true) (h : wpE (Gam pr n) pr.gc (.call f (.cons a (.cons (.repl o y b) .nil))) m env L k z) (R : Rel pr.G Hb H ad L) (E : EnvR pr.G Hb ad env σ) (Z : ZOk pr.G z W σ Hb H ad) (hk : KOk pr.G k Q Hb H ad) : wXT X ee σ H Q := by
  match ee, mh with
  | .Call (.Name x p) [ea, er] [] pos, mh =>
    have mh : (decide (x = pr.nm f) && glB me.sc x && dbgB x && isFn pr f && noStar ea && noStar er && mE pr a me ea && mRep pr me o y b er) = true := mh
    simp only [Bool.and_eq_true, decide_eq_true_eq] at mh
    obtain ⟨⟨⟨⟨⟨⟨⟨rfl, m2⟩, m4⟩, m5⟩, m6⟩, m7⟩, m8⟩, m9⟩ := mh
    unfold wpE at h
    cases hf : pr.fn f with
    | none => unfold isFn at m5; rw [hf] at m5; cases m5
    | some F =>
      obtain ⟨fa, fd, g1, g3, g4⟩ := C.fns f F hf
      unfold isFn at m5
      rw [hf] at m5
      have m6' : (match F.kd with | .fn => true | _ => false) = true := m5
      unfold Gd at g1
      unfold spG at g4
      cases hk2 : F.kd <;> simp only [hk2] at m6' g1 g4 <;> first | exact Bool.noConfusion m6' | skip
      obtain ⟨g1, g2⟩ := g1
      intro pins s h0 I
      refine wpAny_Call_Name_kw (ld_glob I (gl_of C.sc m2) g1 ?_ (dbg_of m4).1)
      refine PySem.W.callWith_K (h₀ := X.base) I.ok.mod.kin g2 (thn (Q := AP X pins σ fun vs H1 => spF pr.G (wpF pr.fn pr.gc n) f vs H1 Q (WE W σ)) ?_ fun us s1 ⟨vs, H1, I1, r, q⟩ => ⟨I1.kIn, run_fnS g4 (C.room.mono (by omega)) g3 (passAt tk σ) I1 r q⟩) (star_of m6) (by rw [star_of m7]; rfl)
      rw [star_of m6, star_of m7]
      unfold wpEs wpEs wpEs at h
      show wpAny _ _ (spliced ((false, eval ea X.env) :: (false, eval er X.env) :: backTo pos (starEach [] X.env))) _ _ s
      refine PySem.Calls.spliced_cons (wpAny_mono (PySem.wpAny_toks (snd_E a C tk m8 h R E Z (Q := fun v H1 => ∃ sv L1 Hb1 ad1, wpE (Gam pr n) pr.gc (.repl o y b) false env L1 (fun x L2 => match dens L2 [sv, x] with
          | some ds => Gam pr n f ds (fun r => (([sv, x].any (owned L2) = true) → r.flat = true ∨ (r.noS = true ∧ L2.all Ct.strs = true)) ∧ rsK m L2 k r) (fun x => z x L2)
          | none => False) z ∧ Rel pr.G Hb1 H1 ad1 L1 ∧ Stp Hb H ad Hb1 H1 ad1 ∧ RepS pr.G Hb1 ad1 v sv) (fun v sv L1 Hb1 H1 ad1 hh R1 s1 r1 => ⟨sv, L1, Hb1, ad1, hh, R1, s1, r1⟩) pins s I)) (fun u s1 q => ?_) fun _ _ z => z.2)
      obtain ⟨hk1, v, H1, I1, rv, sv, L1, Hb1, ad1, hb, R1, st1, r1⟩ := q
      refine PySem.Calls.spliced_cons (thn (rep_ok C tk m9 hb R1 (E.step st1) (Z.step st1) (Q := fun w H2 => spF pr.G (wpF pr.fn pr.gc n) f [v, w] H2 Q (WE W σ)) (fun w sw L2 Hb2 H2 ad2 hh R2 s2 r2 => ?_) pins s1 (Nat.le_trans h0 hk1) I1) fun u2 s2 ⟨w, H2, I2, rw_, q2⟩ => ?_)
      · cases q1 : dens L2 [sv, sw] with
        | none => simp only [q1] at hh
        | some ds =>
          simp only [q1] at hh
          exact call_run (me := me) (X := X) hh R2 (Z.step (st1.trans s2)) (hk.step (st1.trans s2)) (.cons (r1.step s2) (.cons r2 .nil)) q1
      · exact PySem.Calls.spliced_nil ⟨[v, w], H2, I2, .cons rv (.cons rw_ .nil), q2⟩
/-- a statement, a token out -/
theorem rp_ok {a : PD.S} {me : Me} {X : Cx} {W : WX} {st : Stmt} {env : Env} {L : Tab} {K : Ko} {Hb H : Hp} {ad : List Addr} {σ : St} {D : Ends} (C : Ctx pr n me X) (tk : Takes X W)
    (mh : mRp pr a me st = true) (h : wpS (Gam pr n) pr.gc a env L K) (R : Rel pr.G Hb H ad L) (E : EnvR pr.G Hb ad env σ) (d : DOk pr.G K D W Hb H ad) : wST X st D σ H := by
  cases a <;> first | exact Bool.noConfusion mh | skip
  case repA i f a o y b =>
    cases st <;> first | exact Bool.noConfusion mh | skip
    rename_i tgs ee pos
    rcases tgs with _ | ⟨t, tl⟩ <;> first | exact Bool.noConfusion mh | skip
    cases t <;> first | exact Bool.noConfusion mh | skip
    rename_i x p
    rcases tl with _ | ⟨_, _⟩ <;> first | exact Bool.noConfusion mh | skip
    have mh : (decide (me.N[i]? = some x) && locB me x && noComp ee && mCalT pr me f a o y b ee) = true := mh
    simp only [Bool.and_eq_true, decide_eq_true_eq] at mh
    obtain ⟨⟨⟨m1, m2⟩, m3⟩, m4⟩ := mh
    obtain ⟨hx, hf⟩ := loc_of C.sc C.fb m2
    unfold wpS at h
    intro pins s h0 I
    refine wpAny_Assign_Name (thn (calT_ok C tk m4 h R E (d.Z E) (Q := fun v H1 => D.nx (σ.set i (some v)) H1) (fun v sv L1 Hb1 H1 ad1 hh R1 s1 r1 => d.nx _ _ _ _ _ _ hh R1 ((E.step s1).set i r1) s1) pins s h0 I) fun v s1 ⟨y, H1, I1, r1, q1⟩ => ?_) (swap_of m3)
    exact store_ok I1 C.nd (by rw [C.N]; exact m1) hx r1 (fun s2 I2 => ⟨_, H1, I2, q1⟩) hf
  case repR f a o y b =>
    cases st <;> first | exact Bool.noConfusion mh | skip
    rename_i v pos
    cases v <;> first | exact Bool.noConfusion mh | skip
    rename_i ee
    have mh : mCalT pr me f a o y b ee = true := mh
    unfold wpS at h
    intro pins s h0 I
    exact wpAny_Return_some (thn (calT_ok C tk mh h R E (d.Z E) (Q := D.rt) (fun v sv L1 Hb1 H1 ad1 hh R1 s1 r1 => d.rt v sv L1 Hb1 H1 ad1 hh R1 s1 r1) pins s h0 I) fun v s1 ⟨x, H1, I1, r1, q1⟩ => ⟨x, σ, H1, I1, r1, q1⟩)
/-- statements, a token out -/
theorem ssT_ok : ∀ (a : PD.Ss) {me : Me} {X : Cx} {W : WX} {sts : List Stmt} {env : Env} {L : Tab} {K : Ko} {Hb H : Hp} {ad : List Addr} {σ : St} {D : Ends}, Ctx pr n me X → Takes X W → Po X →
    mSsT pr a me sts = true → wpSs (Gam pr n) pr.gc a env L K → Rel pr.G Hb H ad L → EnvR pr.G Hb ad env σ → DOk pr.G K D W Hb H ad → wSsT X sts D σ H
  | .nil, me, X, W, sts, env, L, K, Hb, H, ad, σ, D, C, tk, po, mh, h, R, E, d => by
    cases sts with
    | cons _ _ => exact Bool.noConfusion mh
    | nil => exact fun pins s _ I => snd_Ss .nil C tk po (sts := []) rfl h R E d pins s I
  | .cons a ss, me, X, W, sts, env, L, K, Hb, H, ad, σ, D, C, tk, po, mh, h, R, E, d => by
    cases sts with
    | nil => exact Bool.noConfusion mh
    | cons st sts =>
      have mh : ((mS pr a me st && mSsT pr ss me sts) || (mRp pr a me st && mSsT pr ss me sts)) = true := mh
      unfold wpSs at h
      have d' : DOk pr.G ⟨fun e l => wpSs (Gam pr n) pr.gc ss e l K, K.rt, K.bk, K.ct, K.z⟩ { D with nx := fun σ' H' => wSsT X sts D σ' H' } W Hb H ad :=
        ⟨fun env' L' Hb' H' ad' σ' hn R' E' s' => ssT_ok ss C tk po (by simp only [Bool.or_eq_true, Bool.and_eq_true] at mh; rcases mh with z | z <;> exact z.2) hn R' E' (d.step s'), d.bk, d.ct, d.rt, d.z⟩
      have one : wST X st { D with nx := fun σ' H' => wSsT X sts D σ' H' } σ H := by
        simp only [Bool.or_eq_true, Bool.and_eq_true] at mh
        rcases mh with z | z
        · exact fun pins s _ I => snd_S a C tk po z.1 h R E d' pins s I
        · exact rp_ok C tk z.1 h R E d'
      intro pins s h0 I
      refine wpAny_execs_cons (wpAny_mono (PySem.wpAny_toks (one pins s h0 I)) (fun f s1 q => ?_) fun _ _ x => x.2)
      obtain ⟨hk, q⟩ := q
      cases f with
      | next =>
        obtain ⟨σ', H', I', q⟩ := q
        exact q pins s1 (Nat.le_trans h0 hk) I'
      | ret v => exact q
      | brk => exact q
      | cont => exact q
/-- i op b op c: a token is out behind it -/
theorem chainM {o1 o2 : COp} {i : Int} {b c : E} {me : Me} {X : Cx} {W : WX} {e : Expr} {env : Env} {L : Tab} {k : Bool → Tab → Prop} {z : Xn → Tab → Prop} {Hb H : Hp} {ad : List Addr} {σ : St} {Q : Bool → Hp → Prop} (C : Ctx pr n me X) (tk : Takes X W)
    (mh : mT pr (.chain o1 o2 (.int i) b c) me e = true) (h : wpT (Gam pr n) pr.gc (.chain o1 o2 (.int i) b c) env L k z) (R : Rel pr.G Hb H ad L) (E : EnvR pr.G Hb ad env σ) (Z : ZOk pr.G z W σ Hb H ad) (hk : KOt pr.G k Q Hb H ad) :
    ∀ (pins : List (Addr × Obj)) (s : Shared), Inv X pins σ H s → wpAny (model X.prog X.w) X.A (isTrue e X.env (eval e X.env)) (fun b s' => 1 ≤ s'.toks ∧ TP X pins σ Q b s') X.xe s := by
  cases e <;> first | exact Bool.noConfusion mh | skip
  obtain ⟨p1, p2, eb, ec, rfl, rfl, m1, m1', m2, m3, m5, m4⟩ := chainT_form mh
  rename_i ea pos
  cases ea <;> first | exact Bool.noConfusion m2 | skip
  rename_i cc k1 cp
  cases cc <;> first | exact Bool.noConfusion m2 | skip
  rename_i j
  have e0 : i = j := by simpa [mE] using m2
  subst e0
  unfold wpT wpE at h
  intro pins s I
  refine PyProof.Rows.isTrue_chain (PySem.wpAny_Constant_int ?_) (lm2 m4)
  refine wpAny_mono (PySem.wpAny_toks (Q := TP X pins σ Q) (E := X.xe) ?_) (fun b s' q => ⟨Nat.le_trans (Nat.le_add_left 1 s.toks) q.1, q.2⟩) fun _ _ z => z.2
  refine PyProof.Rows.test_link (thn (snd_E b C tk m3 h R E Z (Q := fun y H2 => rW X (compareOp p1) (.int i) y H2 fun z H3 => ∃ k, z = .bl k ∧ (if k = true then wX X ec σ H3 (fun w' H4 => rW X (compareOp p2) y w' H4 (fun x H' => ∃ k, x = .bl k ∧ Q k H')) else ∃ k, (V.bl false) = .bl k ∧ Q k H3)) (fun w y L2 Hb2 H2 ad2 hh R2 s2 r2 => ?_) pins _ (I.tok (s.toks + 1))) fun u s2 ⟨y, H2, I2, r2, q2⟩ =>
    thn (q2 pins s2 σ _ _ I2 ⟨_, rfl⟩ r2) fun d s3 ⟨z, H3, I3, r3, k, e, q3⟩ => ?_)
  · cases q2 : den L2 y with
    | none => simp only [q2] at hh; exact hh.elim
    | some u' =>
      simp only [q2] at hh
      refine cmpD_ok C m1 hh R2 (fun b hb => ⟨b, rfl, ?_⟩) (R2.read (v := .int i) (sv := .d (.int i)) (.int i) rfl) (R2.read r2 q2)
      cases b with
      | false =>
        rw [if_neg Bool.false_ne_true]
        exact ⟨false, rfl, hk _ _ _ _ _ hb R2 s2⟩
      | true =>
        rw [if_pos rfl]
        refine snd_E c C tk m5 hb R2 (E.step s2) (Z.step s2) fun v3 x3 L3 Hb3 H3 ad3 hh3 R3 s3 r3 => ?_
        cases q3 : den L3 y with
        | none => simp only [q3] at hh3
        | some u3 =>
          cases q4 : den L3 x3 with
          | none => simp only [q3, q4] at hh3
          | some u4 =>
            simp only [q3, q4] at hh3
            exact cmpD_ok C m1' hh3 R3 (fun b hb => ⟨b, rfl, hk _ _ _ _ _ hb R3 (s2.trans s3)⟩) (R3.read (r2.step s3) q3) (R3.read r3 q4)
  · subst e
    cases r3
    refine wpAny_truthy_bool ?_
    cases k with
    | false =>
      obtain ⟨k', e', q'⟩ := q3
      cases e'
      exact PyProof.Rows.ite_ff ⟨H3, I3, q'⟩
    | true =>
      refine PyProof.Rows.ite_tt (PyProof.Rows.test_last (thn (q3 pins s3 I3) fun w' s4 ⟨z', H4, I4, r4, q4⟩ => thn (q4 pins s4 σ _ _ I4 r2 r4) fun d' s5 ⟨z2, H5, I5, r5, k2, e2, q5⟩ => ?_))
      subst e2
      cases r5
      exact wpAny_truthy_bool ⟨H5, I5, q5⟩
/-- a statement, then statements with a token out -/
theorem mint_ok {a : PD.S} {ss : PD.Ss} {me : Me} {X : Cx} {W : WX} {st : Stmt} {sts : List Stmt} {env : Env} {L : Tab} {K : Ko} {Hb H : Hp} {ad : List Addr} {σ : St} {D : Ends} (C : Ctx pr n me X) (tk : Takes X W) (po : Po X)
    (mh : mMint pr a me st = true) (m2 : mSsT pr ss me sts = true) (h : wpSs (Gam pr n) pr.gc (.cons a ss) env L K) (R : Rel pr.G Hb H ad L) (E : EnvR pr.G Hb ad env σ) (d : DOk pr.G K D W Hb H ad) : wSs X (st :: sts) D σ H := by
  unfold wpSs at h
  cases a <;> first | exact Bool.noConfusion mh | skip
  case mintI t o1 o2 i b c r =>
    cases st <;> first | exact Bool.noConfusion mh | skip
    rename_i ec sb se pos
    rcases sb with _ | ⟨s1, sb⟩ <;> first | exact Bool.noConfusion mh | skip
    cases s1 <;> first | exact Bool.noConfusion mh | skip
    rename_i v p3
    cases v <;> first | exact Bool.noConfusion mh | skip
    rename_i ee
    rcases sb with _ | ⟨_, _⟩ <;> first | exact Bool.noConfusion mh | skip
    rcases se with _ | ⟨_, _⟩ <;> first | exact Bool.noConfusion mh | skip
    replace mh : (mOrN pr me t o1 o2 i b c ec && mE pr (.bl r) me ee) = true := mh
    simp only [Bool.and_eq_true] at mh
    obtain ⟨mh, m5⟩ := mh
    cases ec <;> first | exact Bool.noConfusion mh | skip
    rename_i op es p4
    cases op <;> first | exact Bool.noConfusion mh | skip
    rcases es with _ | ⟨e1, _ | ⟨en, es⟩⟩ <;> first | exact Bool.noConfusion mh | skip
    cases en <;> first | exact Bool.noConfusion mh | skip
    rename_i uo e2 p5
    cases uo <;> first | exact Bool.noConfusion mh | skip
    rcases es with _ | ⟨_, _⟩ <;> first | exact Bool.noConfusion mh | skip
    have mh : (mT pr t me e1 && mT pr (.chain o1 o2 (.int i) b c) me e2) = true := mh
    simp only [Bool.and_eq_true] at mh
    obtain ⟨m3, m4⟩ := mh
    unfold wpS at h
    intro pins s I
    have RET : ∀ (s1 : Shared) (H1 : Hp) (L1 : Tab) (Hb1 : Hp) (ad1 : List Addr), K.rt (.d (.bl r)) L1 → Inv X pins σ H1 s1 → Rel pr.G Hb1 H1 ad1 L1 → Stp Hb H ad Hb1 H1 ad1 →
        wpAny (model X.prog X.w) X.A (execs [.Return (some ee) p3] X.env) (fun f s' => match f with | .next => wpAny (model X.prog X.w) X.A (execs sts X.env) (SP X pins D) X.xe s' | f => SP X pins D f s') X.xe s1 := by
      intro s1 H1 L1 Hb1 ad1 hr I1 R1 st1
      refine thn ((pss_cons (ps_ret wX.pe) pss_nil).run pins s1 σ H1 { D with nx := fun _ _ => False } I1 ?_) fun f s2 q => ?_
      · exact fun pins s I => snd_E (.bl r) C tk m5 (m := false) (env := env) (L := L1) (k := K.rt) (z := fun x => K.z x env) (Q := D.rt) (by unfold wpE; exact hr) R1 (E.step st1) ((d.step st1).Z (E.step st1)) (fun v sv L' Hb' H' ad' hn R' s' r' => d.rt v sv L' Hb' H' ad' hn R' (st1.trans s') r') pins s I
      · cases f with
        | next => obtain ⟨_, _, _, q⟩ := q; exact q.elim
        | ret v => exact q
        | brk => exact q
        | cont => exact q
    refine wpAny_execs_cons (wpAny_If ?_)
    refine PyProof.Rows.isTrue_or (thn (snd_T t C tk m3 h R E (d.Z E) (Q := fun r1 H1 => ∃ L1 Hb1 ad1, ((r1 = true → K.rt (.d (.bl r)) L1) ∧ (r1 = false → wpT (Gam pr n) pr.gc (.chain o1 o2 (.int i) b c) env L1 (fun r2 L2 => (r2 = false → K.rt (.d (.bl r)) L2) ∧ (r2 = true → wpSs (Gam pr n) pr.gc ss env L2 K)) (fun x => K.z x env))) ∧ Rel pr.G Hb1 H1 ad1 L1 ∧ Stp Hb H ad Hb1 H1 ad1)
      (fun r1 L1 Hb1 H1 ad1 hh R1 s1 => ⟨L1, Hb1, ad1, hh, R1, s1⟩) pins s I) fun r1 s1 ⟨H1, I1, L1, Hb1, ad1, hh, R1, st1⟩ => ?_)
    cases r1 with
    | true => exact RET s1 H1 L1 Hb1 ad1 (hh.1 rfl) I1 R1 st1
    | false =>
      refine PyProof.Rows.isTrue_or (PyProof.Rows.isTrue_not (thn (chainM C tk m4 (hh.2 rfl) R1 (E.step st1) ((d.step st1).Z (E.step st1)) (Q := fun r2 H2 => ∃ L2 Hb2 ad2, ((r2 = false → K.rt (.d (.bl r)) L2) ∧ (r2 = true → wpSs (Gam pr n) pr.gc ss env L2 K)) ∧ Rel pr.G Hb2 H2 ad2 L2 ∧ Stp Hb H ad Hb2 H2 ad2)
        (fun r2 L2 Hb2 H2 ad2 hh R2 s2 => ⟨L2, Hb2, ad2, hh, R2, st1.trans s2⟩) pins s1 I1) fun r2 s2 ⟨ht, H2, I2, L2, Hb2, ad2, hh2, R2, st2⟩ => ?_))
      cases r2 with
      | false => exact RET s2 H2 L2 Hb2 ad2 (hh2.1 rfl) I2 R2 st2
      | true =>
        refine PyProof.Rows.isTrue_or_nil ?_
        show wpAny _ _ (execs [] X.env) _ _ s2
        refine wpAny_execs_nil ?_
        exact ssT_ok ss C tk po m2 (hh2.2 rfl) R2 (E.step st2) (d.step st2) pins s2 ht I2
  case mintL i a =>
    cases st <;> first | exact Bool.noConfusion mh | skip
    rename_i tgs ee pos
    rcases tgs with _ | ⟨t, tl⟩ <;> first | exact Bool.noConfusion mh | skip
    cases t <;> first | exact Bool.noConfusion mh | skip
    rename_i x p
    rcases tl with _ | ⟨_, _⟩ <;> first | exact Bool.noConfusion mh | skip
    replace mh : (decide (me.N[i]? = some x) && locB me x && noComp ee && mLen pr me a ee) = true := mh
    simp only [Bool.and_eq_true, decide_eq_true_eq] at mh
    obtain ⟨⟨⟨m1, m3⟩, m0⟩, mh⟩ := mh
    cases ee <;> first | exact Bool.noConfusion mh | skip
    rename_i ef es kws p3
    cases ef <;> first | exact Bool.noConfusion mh | skip
    rename_i g p2
    rcases es with _ | ⟨ea, _ | ⟨_, _⟩⟩ <;> first | exact Bool.noConfusion mh | skip
    rcases kws with _ | ⟨_, _⟩ <;> first | exact Bool.noConfusion mh | skip
    have mh : (decide (g = ("len" : Str)) && glB me.sc g && noStar ea && mE pr a me ea) = true := mh
    simp only [Bool.and_eq_true, decide_eq_true_eq] at mh
    obtain ⟨⟨⟨rfl, m4⟩, m5⟩, m6⟩ := mh
    obtain ⟨hx, hf⟩ := loc_of C.sc C.fb m3
    unfold wpS at h
    intro pins s I
    refine wpAny_execs_cons (wpAny_Assign_Name ?_ (swap_of m0))
    refine wpAny_Call_Name_kw (ld_blt I (gl_of C.sc m4) (C.blt _ (by simp [bltNames])) PySem.boot_len ?_ (by decide) (by decide))
    refine PyProof.Rows.callWith_builtin1 ?_ (star_of m5) rfl
    rw [star_of m5]
    show wpAny _ _ (spliced ((false, eval ea X.env) :: backTo p3 (starEach [] X.env))) _ _ s
    refine PySem.Calls.spliced_cons (thn (snd_E a C tk m6 h R E (d.Z E) (Q := fun v H1 => ∃ u L1 Hb1 ad1, v = V.str u ∧ u.length ≤ sizeLine ∧ wpSs (Gam pr n) pr.gc ss (setS env i (.d (.int u.length))) L1 K ∧ Rel pr.G Hb1 H1 ad1 L1 ∧ Stp Hb H ad Hb1 H1 ad1) (fun v sv L1 Hb1 H1 ad1 hh R1 s1 r1 => ?_) pins s I) fun v s1 q => ?_)
    · cases sv with
      | c _ => exact hh.elim
      | d x =>
        cases x <;> first | exact hh.elim | skip
        rename_i u
        cases (show Rep pr.G Hb1 v (.str u) from r1)
        exact ⟨u, L1, Hb1, ad1, rfl, hh.1, hh.2, R1, s1⟩
    · obtain ⟨x, H1, I1, r1, u, L1, Hb1, ad1, rfl, hz, hs, R1, st1⟩ := q
      obtain ⟨t, rfl⟩ := r1
      refine PySem.Calls.spliced_nil ?_
      refine PyProof.Rows.len_str (by rw [sizeLine_eq] at hz; omega) ?_
      refine wpAny_mono (PySem.wpAny_toks (store_ok (v := V.int u.length) (Q := fun _ s2 => Inv X pins (σ.set i (some (V.int u.length))) H1 s2) (I1.tok (s1.toks + 1 + 1)) C.nd (by rw [C.N]; exact m1) hx ⟨_, rfl⟩ (fun s2 I2 => I2) hf)) (fun _ s2 q => ?_) fun _ _ z => z.2
      have hk : s1.toks + 1 + 1 ≤ s2.toks := q.1
      exact ssT_ok ss C tk po m2 hs R1 ((E.step st1).set i (.int _)) (d.step st1) pins s2 (by omega) q.2
theorem ssM_ok : ∀ (a : PD.Ss) {me : Me} {X : Cx} {W : WX} {sts : List Stmt} {env : Env} {L : Tab} {K : Ko} {Hb H : Hp} {ad : List Addr} {σ : St} {D : Ends}, Ctx pr n me X → Takes X W → Po X →
    mSsM pr a me sts = true → wpSs (Gam pr n) pr.gc a env L K → Rel pr.G Hb H ad L → EnvR pr.G Hb ad env σ → DOk pr.G K D W Hb H ad → wSs X sts D σ H
  | .nil, me, X, W, sts, env, L, K, Hb, H, ad, σ, D, C, tk, po, mh, h, R, E, d => by cases sts <;> exact Bool.noConfusion mh
  | .cons a ss, me, X, W, sts, env, L, K, Hb, H, ad, σ, D, C, tk, po, mh, h, R, E, d => by
    cases sts with
    | nil => exact Bool.noConfusion mh
    | cons st sts =>
      have mh : ((mS pr a me st && mSsM pr ss me sts) || (mMint pr a me st && mSsT pr ss me sts)) = true := mh
      simp only [Bool.or_eq_true, Bool.and_eq_true] at mh
      rcases mh with z | z
      · unfold wpSs at h
        refine wSs.by (pss_cons wS.ps wSs.pss) ?_
        exact snd_S a C tk po z.1 h R E ⟨fun env' L' Hb' H' ad' σ' hn R' E' s' => ssM_ok ss C tk po z.2 hn R' E' (d.step s'), d.bk, d.ct, d.rt, d.z⟩
      · exact mint_ok C tk po z.1 z.2 h R E d
theorem snd_B {a : PD.Ss} {me : Me} {X : Cx} {W : WX} {sts : List Stmt} {env : Env} {L : Tab} {K : Ko} {Hb H : Hp} {ad : List Addr} {σ : St} {D : Ends} (C : Ctx pr n me X) (tk : Takes X W) (po : Po X)
    (mh : mB pr a me sts = true) (h : wpSs (Gam pr n) pr.gc a env L K) (R : Rel pr.G Hb H ad L) (E : EnvR pr.G Hb ad env σ) (d : DOk pr.G K D W Hb H ad) : wSs X sts D σ H := by
  unfold mB at mh
  rcases Bool.or_eq_true _ _ |>.mp mh with z | z
  · exact snd_Ss a C tk po z h R E d
  · exact ssM_ok a C tk po z h R E d
end
end PD

namespace PD
open PySem L2
theorem startE_ok {G : Gs} {Hb : Hp} {F : Fn} {ds : List PD.D} {vs : List V} {N : List Str} (r : RepL G Hb vs ds) (h1 : F.slots = N.length) (h2 : ds.length = F.params) (h3 : F.params ≤ N.length) : EnvR G Hb [] (startE F ds) (L2.start N vs) := by
  have hl := r.length
  refine ⟨by simp [startE, L2.start, h1, ← h2, hl], fun i sv h => ?_⟩
  unfold startE at h
  unfold L2.start
  by_cases hi : i < ds.length
  · rw [List.getElem?_append_left (by simpa using hi), List.getElem?_map] at h
    rw [List.getElem?_append_left (by simpa [hl] using hi), List.getElem?_map]
    cases q : ds[i]? with
    | none => rw [q] at h; cases h
    | some x =>
      rw [q] at h
      cases h
      obtain ⟨v, e1, e2⟩ := r.get q
      exact ⟨v, by rw [e1]; rfl, e2⟩
  · rw [List.getElem?_append_right (by simpa using hi)] at h
    simp [List.getElem?_replicate] at h
structure DefIn (P : Program) (K : PySem.W.Frag) (mg : Str → Option Value) (pr : Pr) (f : Nat) (F : Fn) (x qual : Str) (params : Arguments) (body : List Stmt) (scope : Scope) (N : List Str) (a : Addr) (fd : FuncData) : Prop where
  g : Gd pr mg K f F a
  fu : FunD K x qual params body scope [] [] a fd
  bi : Binds K fd (pr.ps f) []
  sc : FnScope N (pr.ps f) scope
  sl : F.slots = N.length
  pl : F.params = (pr.ps f).length
  m : mB pr F.body ⟨N, scope, fun _ => true⟩ body = true
section
variable {P : Program} {w : World} {K : PySem.W.Frag} {mg : Str → Option Value} {base : Heap} {pr : Pr}
theorem startI_ok {G : Gs} {Hb : Hp} {F : Fn} {ds : List PD.D} {vs : List V} {N : List Str} {q : Addr} (r : RepL G Hb vs ds) (h1 : F.slots = N.length) (h2 : ds.length + 1 = F.params) (h3 : F.params ≤ N.length) : EnvR G Hb [q] (startI F ds) (L2.start N (.ref q :: vs)) := by
  have hl := r.length
  have e1 : L2.start N (.ref q :: vs) = some (.ref q) :: (vs.map some ++ List.replicate (N.length - (vs.length + 1)) none) := rfl
  rw [e1]
  unfold startI
  refine ⟨by simp [h1, hl]; omega, fun i sv h => ?_⟩
  cases i with
  | zero =>
    cases h
    exact ⟨.ref q, rfl, q, rfl, rfl⟩
  | succ i =>
    rw [List.getElem?_cons_succ] at h ⊢
    by_cases hi : i < ds.length
    · rw [List.getElem?_append_left (by simpa using hi), List.getElem?_map] at h
      rw [List.getElem?_append_left (by simpa [hl] using hi), List.getElem?_map]
      cases q : ds[i]? with
      | none => rw [q] at h; cases h
      | some x =>
        rw [q] at h
        cases h
        obtain ⟨v, e1, e2⟩ := r.get q
        exact ⟨v, by rw [e1]; rfl, e2⟩
    · rw [List.getElem?_append_right (by simpa using hi)] at h
      simp [List.getElem?_replicate] at h
theorem startB_ok {G : Gs} {Hb : Hp} {F : Fn} {ds : List PD.D} {ws : List V} {N : List Str} {q b : Addr} {j : Nat} (h1 : F.slots = N.length) (h2 : ds.length + 1 = F.params) (h3 : F.params ≤ N.length) (hl : ws.length = ds.length) (hj : ws[j]? = some (.ref b))
    (oth : ∀ i d, i ≠ j → ds[i]? = some d → ∃ v, ws[i]? = some v ∧ Rep G Hb v d) : EnvR G Hb [q, b] (startB F j ds) (L2.start N (.ref q :: ws)) := by
  have e1 : L2.start N (.ref q :: ws) = some (.ref q) :: (ws.map some ++ List.replicate (N.length - (ws.length + 1)) none) := rfl
  rw [e1]
  unfold startB
  refine ⟨by simp [h1, hl]; omega, fun i sv h => ?_⟩
  cases i with
  | zero =>
    cases h
    exact ⟨.ref q, rfl, q, rfl, rfl⟩
  | succ i =>
    rw [List.getElem?_cons_succ] at h ⊢
    by_cases hi : i < ds.length
    · rw [List.getElem?_append_left (by simpa using hi)] at h
      rw [List.getElem?_append_left (by simpa [hl] using hi), List.getElem?_map]
      by_cases q2 : i = j
      · subst q2
        rw [List.getElem?_set_self (by simpa using hi)] at h
        cases h
        exact ⟨.ref b, by rw [hj]; rfl, b, rfl, rfl⟩
      · rw [List.getElem?_set_ne (Ne.symm q2), List.getElem?_map] at h
        cases z : ds[i]? with
        | none => rw [z] at h; cases h
        | some x =>
          rw [z] at h
          cases h
          obtain ⟨v, e1, e2⟩ := oth i x q2 z
          exact ⟨v, by rw [e1]; rfl, e2⟩
    · rw [List.getElem?_append_right (by simpa using hi)] at h
      simp [List.getElem?_replicate] at h
theorem body_ok {n : Nat} {f : Nat} {F : Fn} {x qual : Str} {params : Arguments} {body : List Stmt} {scope : Scope} {N : List Str} {a : Addr} {fd : FuncData} (hK : pr.G.K = K) (hF : pr.fn f = some F) (I : DefIn P K mg pr f F x qual params body scope N a fd)
    (fns : ∀ f F, pr.fn f = some F → ∃ a fd, Gd pr mg K f F a ∧ Binds K fd (pr.ps f) [] ∧ FnOk P w K mg base (L2.CX P w) (2 * n) a fd (pr.ps f) (spG pr.G (wpF pr.fn pr.gc n) f F))
    (blt : ∀ x ∈ bltNames, mg x = none) (gcs : ∀ k, k < pr.gcn → ∃ u v, mg (pr.gn k) = some u ∧ RelV v u ∧ ∀ Hb, Rep pr.G Hb v (pr.gc k)) (cs : Cs pr mg K) :
    FnOk P w K mg base (L2.CX P w) (2 * (n + 1)) a fd (pr.ps f) (spG pr.G (wpF pr.fn pr.gc (n + 1)) f F) := by
  subst hK
  have hpl : F.params ≤ N.length := by
    have q := congrArg List.length I.sc.pre
    rw [List.length_take] at q
    rw [I.pl]; omega
  show FnOk P w pr.G.K mg base (L2.CX P w) (2 * n + 1 + 1) a fd (pr.ps f) (spG pr.G (wpF pr.fn pr.gc (n + 1)) f F)
  have plain : (∀ ds k z, wpF pr.fn pr.gc (n + 1) f ds k z → ds.length = F.params ∧ wpSs (wpF pr.fn pr.gc n) pr.gc F.body (startE F ds) [] ⟨fun _ _ => k (.v .non), back F.own k, fun _ _ => False, fun _ _ => False, fun x _ _ => z x⟩) →
      FnOk P w pr.G.K mg base (L2.CX P w) (2 * n + 1 + 1) a fd (pr.ps f) (spF pr.G (wpF pr.fn pr.gc (n + 1)) f) := fun op => by
    refine I.fu.ok I.sc (fun vs H Q E h => ?_) (fun cdv A outer s H vs Q E hr h => ?_)
    · obtain ⟨ds, Hb, k, z, h, _, r, _⟩ := h
      rw [r.length, (op ds k z h).1, I.pl]
    · obtain ⟨ds, Hb, k, z, h, sm, r, hQ, hE⟩ := h
      obtain ⟨hl, h⟩ := op ds k z h
      let X : Cx := cxOf (L2.CX P w) P w pr.G.K mg base N qual scope a cdv A outer s H E
      have C : Ctx pr n ⟨N, scope, fun _ => true⟩ X := ⟨rfl, rfl, rfl, I.sc.nd, rfl, hr, fun _ _ => rfl, fns, blt, gcs, cs⟩
      have tk : Takes X (fun cls d _ H => E cls d H) := L2.takes_of rfl rfl rfl rfl
      have po : Po X := ⟨L2.passes_of rfl, rfl, rfl⟩
      have R0 : Rel pr.G Hb H [] [] := ⟨sm, rfl, List.nodup_nil, fun j ds a h => by simp at h, fun a h => by simp at h, fun j x a h => by simp at h⟩
      have same : ∀ {Hb' H' : Hp} {ad' : List Addr}, Stp Hb H [] Hb' H' ad' → Same H H' := fun s a o h => s.keep a o h (by simp)
      have bas : ∀ {Hb' H' : Hp} {ad' : List Addr}, Stp Hb H [] Hb' H' ad' → ∀ a, Hb a = none → Hb' a ≠ none → H a = none := fun s a h1 h2 => (s.bas a h1 h2).resolve_right (by simp)
      refine ⟨wSs X body, wSs.pss, ?_⟩
      refine snd_B C tk po I.m h R0 (startE_ok r I.sl hl hpl) ⟨?_, ?_, ?_, ?_, ?_⟩
      · intro env' L' Hb' H' ad' σ' hn R E s
        exact hQ (.v .non) .non Hb' H' hn s.base (same s) R.ext (bas s) .non
      · intro env' L' Hb' H' ad' σ' hn R E s
        exact hn.elim
      · intro env' L' Hb' H' ad' σ' hn R E s
        exact hn.elim
      · intro v sv L' Hb' H' ad' hn R s rs
        cases sv with
        | d x => exact hQ (.v x) v Hb' H' hn s.base (same s) R.ext (bas s) rs
        | c j =>
          obtain ⟨b, e1, rfl⟩ := id rs
          have hn : (match L'[j]? with
            | some (.lst ds) => match F.own with
              | true => k (.new ds)
              | false => k (.v (.lst ds))
            | some (.ob u) => k (.v u)
            | some (.fz x) => k (.v x)
            | none => False) := hn
          cases q : L'[j]? with
          | none => rw [q] at hn; exact hn.elim
          | some ct =>
            rw [q] at hn
            cases ct with
            | fz x => exact hQ (.v x) _ Hb' H' hn s.base (same s) R.ext (bas s) (R.fz j x b q e1)
            | ob u =>
              obtain ⟨Hb2, R2, s2, r2⟩ := R.freeze rs (den_c q)
              have s3 := s.trans s2
              exact hQ (.v u) _ Hb2 H' hn s3.base (same s3) R2.ext (bas s3) r2
            | lst es =>
              cases ho : F.own with
              | true =>
                simp only [ho] at hn
                obtain ⟨k0, ws, k1, k2⟩ := R.cell j es b q e1
                obtain ⟨ns, rfl, hns⟩ := s.new
                exact hQ (.new es) _ Hb' H' hn s.base (same s) R.ext (bas s) ⟨b, ws, rfl, hns b (List.mem_of_getElem? e1), k0, k1, k2⟩
              | false =>
                simp only [ho] at hn
                obtain ⟨Hb2, R2, s2, r2⟩ := R.freeze rs (den_c q)
                have s3 := s.trans s2
                exact hQ (.v (.lst es)) _ Hb2 H' hn s3.base (same s3) R2.ext (bas s3) r2
      · intro x env' L' cls d Hb' H' ad' σ' hn R E s xr
        exact hE x cls d H' hn (same s) xr
  cases hk : F.kd with
  | fn =>
    unfold spG
    rw [hk]
    refine plain fun ds k z h => ?_
    unfold wpF at h
    rw [hF] at h
    simp only [hk] at h
    exact h
  | me c =>
    unfold spG
    rw [hk]
    refine plain fun ds k z h => ?_
    unfold wpF at h
    rw [hF] at h
    simp only [hk] at h
    exact h
  | ini c =>
    unfold spG
    rw [hk]
    have op : ∀ ds k z, wpF pr.fn pr.gc (n + 1) f ds k z → ds.length + 1 = F.params ∧ wpSs (wpF pr.fn pr.gc n) pr.gc F.body (startI F ds) [.ob (.obj c [])] ⟨fun _ L => made k L, fun _ _ => False, fun _ _ => False, fun _ _ => False, fun x _ _ => z x⟩ := fun ds k z h => by
      unfold wpF at h
      rw [hF] at h
      simp only [hk] at h
      exact h
    refine I.fu.ok I.sc (fun vs H Q E h => ?_) (fun cdv A outer s H vs Q E hr h => ?_)
    · obtain ⟨ds, Hb, k, z, q, dx, ws, h, rfl, _, _, _, r, _⟩ := h
      rw [List.length_cons, r.length, (op ds k z h).1, I.pl]
    · obtain ⟨ds, Hb, k, z, q, dx, ws, h, rfl, sm, hq0, hq, r, hQ, hE⟩ := h
      obtain ⟨hl, h⟩ := op ds k z h
      let X : Cx := cxOf (L2.CX P w) P w pr.G.K mg base N qual scope a cdv A outer s H E
      have C : Ctx pr n ⟨N, scope, fun _ => true⟩ X := ⟨rfl, rfl, rfl, I.sc.nd, rfl, hr, fun _ _ => rfl, fns, blt, gcs, cs⟩
      have tk : Takes X (fun cls d _ H => E cls d H) := L2.takes_of rfl rfl rfl rfl
      have po : Po X := ⟨L2.passes_of rfl, rfl, rfl⟩
      have R0 : Rel pr.G Hb H [q] [.ob (.obj c [])] := ⟨sm, rfl, by simp, fun j ct b h1 h2 lv => by
          cases j with
          | zero =>
            cases h1; cases h2
            exact ⟨hq0, _, hq, rfl, .nil⟩
          | succ j => simp at h1, fun b hb => by rw [List.mem_singleton.mp hb, hq]; simp, fun j x b h1 h2 => by
          cases j with
          | zero => cases h1
          | succ j => simp at h1⟩
      have keep : ∀ {Hb' H' : Hp} {ad' : List Addr}, Stp Hb H [q] Hb' H' ad' → ∀ b o, H b = some o → b ≠ q → H' b = some o := fun s b o h hb => s.keep b o h (by simpa using hb)
      have bas : ∀ {Hb' H' : Hp} {ad' : List Addr}, Stp Hb H [q] Hb' H' ad' → ∀ b, Hb b = none → Hb' b ≠ none → H b = none ∨ b = q := fun s b h1 h2 => (s.bas b h1 h2).imp id fun h => by simpa using h
      refine ⟨wSs X body, wSs.pss, ?_⟩
      refine snd_B C tk po I.m h R0 (startI_ok r I.sl hl hpl) ⟨?_, ?_, ?_, ?_, ?_⟩
      · intro env' L' Hb' H' ad' σ' hn R E s
        have hn : made k L' := hn
        unfold made at hn
        cases e : L'[(0 : Nat)]? with
        | none => rw [e] at hn; exact hn.elim
        | some ct =>
          rw [e] at hn
          cases ct <;> first | exact hn.elim | skip
          rename_i u
          have e1 : ad'[0]? = some q := s.pre rfl
          obtain ⟨Hb2, R2, s2, r2⟩ := R.freeze (v := .ref q) (sv := .c 0) ⟨q, e1, rfl⟩ (den_c e)
          have s3 := s.trans s2
          exact hQ u Hb2 H' hn s3.base (keep s3) R2.ext (bas s3) r2
      · intro env' L' Hb' H' ad' σ' hn R E s
        exact hn.elim
      · intro env' L' Hb' H' ad' σ' hn R E s
        exact hn.elim
      · intro v sv L' Hb' H' ad' hn R s rs
        exact hn.elim
      · intro x env' L' cls d Hb' H' ad' σ' hn R E s xr
        exact hE x cls d H' hn (keep s) xr
  | inb c j =>
    unfold spG
    rw [hk]
    have op : ∀ ds k z, wpF pr.fn pr.gc (n + 1) f ds k z → ds.length + 1 = F.params ∧ ∃ es, ds[j]? = some (.lst es) ∧ wpSs (wpF pr.fn pr.gc n) pr.gc F.body (startB F j ds) [.ob (.obj c []), .lst es] ⟨fun _ L => L[(1 : Nat)]? = some (.lst es) ∧ made k L, fun _ _ => False, fun _ _ => False, fun _ _ => False, fun x _ L => L[(1 : Nat)]? = some (.lst es) ∧ z x⟩ := fun ds k z h => by
      unfold wpF at h
      rw [hF] at h
      simp only [hk] at h
      exact h
    refine I.fu.ok I.sc (fun vs H Q E h => ?_) (fun cdv A outer s H vs Q E hr h => ?_)
    · obtain ⟨ds, Hb, k, z, p, dx, q, ws, us, es, h, rfl, _, _, _, _, _, _, _, _, _, hl, _⟩ := h
      rw [List.length_cons, hl, (op ds k z h).1, I.pl]
    · obtain ⟨ds, Hb, k, z, p, dx, q, ws, us, es, h, rfl, sm, hp0, hp, pq, hwj, hdj, hq0, hq, rus, hwl, oth, hQ, hE⟩ := h
      obtain ⟨hl, es2, hes2, h⟩ := op ds k z h
      rw [hdj] at hes2
      cases hes2
      let X : Cx := cxOf (L2.CX P w) P w pr.G.K mg base N qual scope a cdv A outer s H E
      have C : Ctx pr n ⟨N, scope, fun _ => true⟩ X := ⟨rfl, rfl, rfl, I.sc.nd, rfl, hr, fun _ _ => rfl, fns, blt, gcs, cs⟩
      have tk : Takes X (fun cls d _ H => E cls d H) := L2.takes_of rfl rfl rfl rfl
      have po : Po X := ⟨L2.passes_of rfl, rfl, rfl⟩
      have R0 : Rel pr.G Hb H [p, q] [.ob (.obj c []), .lst es] := ⟨sm, rfl, by simp [pq], fun j ct b h1 h2 lv => by
          match j, h1, h2 with
          | 0, h1, h2 => cases h1; cases h2; exact ⟨hp0, _, hp, rfl, .nil⟩
          | 1, h1, h2 => cases h1; cases h2; exact ⟨hq0, _, hq, rus⟩
          | j + 2, h1, h2 => simp at h1, fun b hb => by
          rcases List.mem_cons.mp hb with z | z
          · rw [z, hp]; simp
          · rw [List.mem_singleton.mp z, hq]; simp, fun j x b h1 h2 => by
          match j, h1, h2 with
          | 0, h1, h2 => cases h1
          | 1, h1, h2 => cases h1
          | j + 2, h1, h2 => simp at h1⟩
      have keep : ∀ {Hb' H' : Hp} {ad' : List Addr}, Stp Hb H [p, q] Hb' H' ad' → ∀ b o, H b = some o → b ≠ p → b ≠ q → H' b = some o := fun s b o h hb hb2 => s.keep b o h (by simp [hb, hb2])
      have bas : ∀ {Hb' H' : Hp} {ad' : List Addr}, Stp Hb H [p, q] Hb' H' ad' → Hb' q = none → ∀ b, Hb b = none → Hb' b ≠ none → H b = none ∨ b = p := fun s nq b h1 h2 => (s.bas b h1 h2).imp id fun h => by
        rcases List.mem_cons.mp h with z | z
        · exact z
        · rw [List.mem_singleton.mp z] at h2; exact absurd nq h2
      refine ⟨wSs X body, wSs.pss, ?_⟩
      refine snd_B C tk po I.m h R0 (startB_ok I.sl hl hpl hwl hwj oth) ⟨?_, ?_, ?_, ?_, ?_⟩
      · intro env' L' Hb' H' ad' σ' hn R E s
        obtain ⟨hL1, hn⟩ := hn
        have hn : made k L' := hn
        unfold made at hn
        cases e : L'[(0 : Nat)]? with
        | none => rw [e] at hn; exact hn.elim
        | some ct =>
          rw [e] at hn
          cases ct <;> first | exact hn.elim | skip
          rename_i u
          have e1 : ad'[0]? = some p := s.pre rfl
          have e2 : ad'[1]? = some q := s.pre rfl
          obtain ⟨Hb2, R2, s2, r2⟩ := R.freeze (v := .ref p) (sv := .c 0) ⟨p, e1, rfl⟩ (den_c e)
          have s3 := s.trans s2
          have hL2 : (frzT L' (.c 0))[(1 : Nat)]? = some (.lst es) := by
            rw [frzT_live e rfl, List.getElem?_set_ne (by decide)]; exact hL1
          obtain ⟨nq, us', hus', rus'⟩ := R2.cell 1 es q hL2 e2
          exact hQ u Hb2 H' us' hn s3.base (keep s3) R2.ext (bas s3 nq) nq hus' rus' r2
      · intro env' L' Hb' H' ad' σ' hn R E s
        exact hn.elim
      · intro env' L' Hb' H' ad' σ' hn R E s
        exact hn.elim
      · intro v sv L' Hb' H' ad' hn R s rs
        exact hn.elim
      · intro x env' L' cls d Hb' H' ad' σ' hn R E s xr
        obtain ⟨hL1, hn⟩ := hn
        have e2 : ad'[1]? = some q := s.pre rfl
        obtain ⟨nq, us', hus', rus'⟩ := R.cell 1 es q hL1 e2
        exact hE x cls d Hb' H' us' hn s.base (keep s) R.ext (bas s nq) nq hus' rus' xr
/-- all of a program's defs, at all depths -/
theorem defs_ok (hK : pr.G.K = K) (all : ∀ f F, pr.fn f = some F → ∃ x qual params body scope N a fd, DefIn P K mg pr f F x qual params body scope N a fd)
    (blt : ∀ x ∈ bltNames, mg x = none) (gcs : ∀ k, k < pr.gcn → ∃ u v, mg (pr.gn k) = some u ∧ RelV v u ∧ ∀ Hb, Rep pr.G Hb v (pr.gc k)) (cs : Cs pr mg K) :
    ∀ n f F, pr.fn f = some F → ∃ a fd, Gd pr mg K f F a ∧ Binds K fd (pr.ps f) [] ∧ FnOk P w K mg base (L2.CX P w) (2 * n) a fd (pr.ps f) (spG pr.G (wpF pr.fn pr.gc n) f F) := by
  intro n
  induction n with
  | zero =>
    intro f F hF
    obtain ⟨x, qual, params, body, scope, N, a, fd, I⟩ := all f F hF
    have no : ∀ vs H Q E, ¬ spG pr.G (wpF pr.fn pr.gc 0) f F vs H Q E := fun vs H Q E h => by
      unfold spG at h
      cases hk : F.kd <;> simp only [hk] at h
      · obtain ⟨ds, Hb, k, z, h, _⟩ := h; exact h
      · obtain ⟨ds, Hb, k, z, h, _⟩ := h; exact h
      · obtain ⟨ds, Hb, k, z, _, _, _, h, _⟩ := h; exact h
      · obtain ⟨ds, Hb, k, z, _, _, _, _, _, _, h, _⟩ := h; exact h
    exact ⟨a, fd, I.g, I.bi, ⟨fun vs H Q E h => (no _ _ _ _ h).elim, fun A outer s H args us vs Q E _ _ _ _ h => (no _ _ _ _ h).elim⟩⟩
  | succ n ih =>
    intro f F hF
    obtain ⟨x, qual, params, body, scope, N, a, fd, I⟩ := all f F hF
    exact ⟨a, fd, I.g, I.bi, body_ok hK hF I ih blt gcs cs⟩
end
/-- the law's own call -/
theorem lawW {l : PySem.W.OpenLaw} {m k : Nat} {q : Program} {loose : List Str} {XP : (Str → Option Value) → Heap → Prop} {YP : World → Heap → Prop} {d : DefRec} {x : Str} (hn : l.most = some m) (hm : m ≤ sizeLine) (hdf : d.params.defaults = []) (hr : Room (2 * k) callerA)
    (F : ∀ (w : World) (mg : Str → Option Value) (fa : Addr) (h : Heap), YP w h → h.Ns mainGlobals mg → mg d.name = some (.ref fa) → ∃ (pr : Pr) (f : Nat) (fd : FuncData), pr.G.K.In h ∧ (∀ (s : Shared) (u : Value), BindsTo s fd ⟨[u], []⟩ [(x, u)]) ∧
      (∀ base : Heap, pr.G.K.In base → base.Ns mainGlobals mg → FnOk l.prog w pr.G.K mg base (L2.CX l.prog w) (2 * k) fa fd [x] (spF pr.G (wpF pr.fn pr.gc k) f)) ∧
      ∀ ns : List Int, ns.length ≤ m → (∀ z ∈ ns, Builtin.Int.intBits z ≤ 1048576) → wpF pr.fn pr.gc k f [.scr ns] (fun r => r = .v (.bl true)) (fun _ => False)) :
    PySem.W.WalkO q loose XP YP l.row.toRowW d [] (fun f vs => PySem.call f vs) := by
  refine Att.attach_callB hn hdf ?_
  intro w s₀ s₁ mg mb fa o pm cd doc a vs ns G Y ho hd hcd hmg hobj hints hlen hbits hg
  obtain ⟨pr, f, fd, KX, hb, hF, hw⟩ := F w mg fa _ Y G.T.g hmg
  refine law_call KX G.T.g G.T.b G.T.builtins G.T.nolimit hg hobj hints (Nat.le_trans hlen hm) hr hF hb ?_ ?_
  · intro H hO hS
    refine ⟨[.scr ns], H, fun r => r = .v (.bl true), fun _ => False, hw ns hlen hbits, Same.refl _, .cons (.scr hS) .nil, ?_, fun _ _ _ _ h => h.elim⟩
    intro r v Hb' H' hk _ _ _ _ hB
    subst hk
    cases (show Rep pr.G Hb' v (.bl true) from hB)
    rfl
  · intro H e s' h
    obtain ⟨a, B, H', cls, d, _, _, _, _, _, _, _, hE⟩ := h
    exact hE
/-! ## the hook: facts of the kit's kind, and further ones -/
def obsX (fa : List He.Fa) (fx : List (PySem.W.Frag → Bool)) (fn : List He.DefD) (K : PySem.W.Frag) : He.AlD := (((fa.all fun f => f.ok K) && fx.all fun f => f K) && fn.all fun d => d.ok K, fn.map fun d => He.fnW K d.at_)
def SaysX (fa : List He.Fa) (fx : List (PySem.W.Frag → Bool)) (fn : List He.DefD) (K : PySem.W.Frag) : Prop := obsX fa fx fn K = He.valD fn
def obsXG (n : Nat) (fa : List He.Fa) (fx : List (PySem.W.Frag → Bool)) (fn : List He.DefD) (g : Addr → Option Obj) : He.AlD := obsX fa fx fn (He.frG g (He.asD g n))
def hookX (n : Nat) (fa : List He.Fa) (fx : List (PySem.W.Frag → Bool)) (fn : List He.DefD) : PySem.W.Hook where
  α := He.AlD
  obs := fun s => obsXG n fa fx fn s.heap.get?
  val := fun _ => He.valD fn
  says := fun _ h => ∃ K : PySem.W.Frag, K.In h ∧ SaysX fa fx fn K
  of := fun _ _ e => ⟨_, He.frG_in, e⟩
  keeps := fun _ _ _ ⟨K, hK, c⟩ k => ⟨K, PySem.W.Frag.In.keeps hK k, c⟩
theorem obsXG_eq {n : Nat} {fa : List He.Fa} {fx : List (PySem.W.Frag → Bool)} {fn : List He.DefD} {g : Addr → Option Obj} {s : Shared} (h : ∀ a, g a = s.heap.get? a) : obsXG n fa fx fn g = (hookX n fa fx fn).obs s := by
  have e : g = s.heap.get? := funext h
  rw [e] <;> rfl
section
variable {fa : List He.Fa} {fx : List (PySem.W.Frag → Bool)} {fn : List He.DefD} {K : PySem.W.Frag}
theorem SaysX.fact (c : SaysX fa fx fn K) (i : Nat) {f : He.Fa} (h : fa[i]? = some f := by rfl) : f.ok K = true := by
  have c1 := (He.ba (He.ba (show (((fa.all fun f => f.ok K) && fx.all fun f => f K) && fn.all fun d => d.ok K) = true from congrArg (fun z : He.AlD => z.1) c)).1).1
  exact List.all_eq_true.mp c1 f (List.mem_of_getElem? h)
theorem SaysX.fxf (c : SaysX fa fx fn K) (i : Nat) {f : PySem.W.Frag → Bool} (h : fx[i]? = some f := by rfl) : f K = true := by
  have c1 := (He.ba (He.ba (show (((fa.all fun f => f.ok K) && fx.all fun f => f K) && fn.all fun d => d.ok K) = true from congrArg (fun z : He.AlD => z.1) c)).1).2
  exact List.all_eq_true.mp c1 f (List.mem_of_getElem? h)
theorem SaysX.def_ (c : SaysX fa fx fn K) (i : Nat) {d : He.DefD} (h : fn[i]? = some d := by rfl) : ∃ fd, FunD K d.name d.qual d.params d.body d.scope (d.dvs K) (d.kws K) (He.fAd K d.at_) fd := by
  have c2 := (He.ba (show (((fa.all fun f => f.ok K) && fx.all fun f => f K) && fn.all fun d => d.ok K) = true from congrArg (fun z : He.AlD => z.1) c)).2
  have e : fn.map (fun d => He.fnW K d.at_) = fn.map He.DefD.val := congrArg (fun z : He.AlD => z.2) c
  have e2 : (fn.map fun d => He.fnW K d.at_)[i]? = (fn.map He.DefD.val)[i]? := by rw [e]
  rw [List.getElem?_map, List.getElem?_map, h] at e2
  exact He.DefD.funD (Option.some.inj e2) (List.all_eq_true.mp c2 d (List.mem_of_getElem? h))
end
def kiB (pr : Pr) (K : PySem.W.Frag) : Bool := (List.range (pr.yc + 1)).all fun d => (List.range pr.xcn).all fun c => decide (PySem.W.kitOne K (.ref (pr.G.cA c)) (yU pr d) = some (decide (c ∈ pr.un d)))
def exB (pr : Pr) (K : PySem.W.Frag) : Bool := (List.range pr.yc).all fun d => (List.range pr.xcn).all fun c => decide (PySem.W.exmOne K (.ref (pr.G.cA c)) (.ref (pr.G.cA d)) = some (decide (c ∈ pr.un (d + 1))))
def ecB1 (K : PySem.W.Frag) (D : Addr) : Bool := decide (PySem.W.findIn K (.ref D) "__getattribute__" = some (some (.builtin "BaseException.__getattribute__"))) && (decide (PySem.W.findIn K (.ref D) "__getattr__" = some none) &&
  (decide (PySem.W.subIn K (.ref D) (.type "BaseException") = some true) && (PySem.W.hasDictIn K D && (decide (PySem.W.findIn K (.ref D) "__class__" = some (some (.builtin "object.__class__"))) &&
  (decide (PySem.W.specialIn K (.builtin "object.__class__") "__get__" = some (some (.builtin "getset_descriptor.__get__"))) && (decide (PySem.W.takesIn K (.builtin "object.__class__") = some true) && decide (PySem.W.mroIn K D (.type "object") = some true)))))))
def ecB (pr : Pr) (K : PySem.W.Frag) : Bool := (List.range pr.xcn).all fun c => ecB1 K (pr.G.cA c)
theorem kiB_ok {pr : Pr} {K : PySem.W.Frag} (h : kiB pr K = true) : ∀ d c, d ≤ pr.yc → c < pr.xcn → PySem.W.kitOne K (.ref (pr.G.cA c)) (yU pr d) = some (decide (c ∈ pr.un d)) := fun d c h1 h2 =>
  of_decide_eq_true (List.all_eq_true.mp (List.all_eq_true.mp h d (List.mem_range.mpr (by omega))) c (List.mem_range.mpr h2))
theorem exB_ok {pr : Pr} {K : PySem.W.Frag} (h : exB pr K = true) : ∀ d c, d < pr.yc → c < pr.xcn → PySem.W.exmOne K (.ref (pr.G.cA c)) (.ref (pr.G.cA d)) = some (decide (c ∈ pr.un (d + 1))) := fun d c h1 h2 =>
  of_decide_eq_true (List.all_eq_true.mp (List.all_eq_true.mp h d (List.mem_range.mpr h1)) c (List.mem_range.mpr h2))
theorem ecB_ok {pr : Pr} {K : PySem.W.Frag} (h : ecB pr K = true) : ∀ c, c < pr.xcn → ExcC K (pr.G.cA c) := fun c h2 => by
  have q := List.all_eq_true.mp h c (List.mem_range.mpr h2)
  unfold ecB1 at q
  obtain ⟨h1, q⟩ := He.ba q
  obtain ⟨h2, q⟩ := He.ba q
  obtain ⟨h3, q⟩ := He.ba q
  obtain ⟨h4, q⟩ := He.ba q
  obtain ⟨h5, q⟩ := He.ba q
  obtain ⟨h6, q⟩ := He.ba q
  obtain ⟨h7, q⟩ := He.ba q
  exact ⟨of_decide_eq_true h1, of_decide_eq_true h2, of_decide_eq_true h3, h4, of_decide_eq_true h5, of_decide_eq_true h6, of_decide_eq_true h7, of_decide_eq_true q⟩
end PD

namespace PD
open PySem L2
/-! ## plain helpers -/
abbrev iL (xs : List Int) : List D := xs.map D.int
theorem toPys_ints : ∀ xs : List Int, toPys (iL xs) = xs.map PyData.int
  | [] => rfl
  | x :: xs => by simp only [iL, List.map_cons, toPys, toPy]; rw [← toPys_ints xs]
theorem pures_ints : ∀ xs : List Int, pures (iL xs) = true
  | [] => rfl
  | x :: xs => by simp only [iL, List.map_cons, pures, D.pure, Bool.true_and]; exact pures_ints xs
theorem lay_ints : ∀ xs : List Int, PyData.canLayAll0 (xs.map PyData.int) = true
  | [] => by unfold PyData.canLayAll0; rfl
  | x :: xs => by rw [List.map_cons]; unfold PyData.canLayAll0; rw [lay_ints xs]; unfold PyData.canLay0; rfl
theorem dep_ints : ∀ xs : List Int, PyData.depthAll (xs.map PyData.int) = 0
  | [] => by unfold PyData.depthAll; rfl
  | x :: xs => by rw [List.map_cons]; unfold PyData.depthAll; rw [dep_ints xs]; unfold PyData.depth; rfl
theorem eqv_ints : ∀ xs ys : List Int, PyData.eqvAll (xs.map PyData.int) (ys.map PyData.int) = decide (xs = ys)
  | [], [] => by simp [PyData.eqvAll]
  | [], _ :: _ => by simp [PyData.eqvAll]
  | _ :: _, [] => by simp [PyData.eqvAll]
  | x :: xs, y :: ys => by
    rw [List.map_cons, List.map_cons, PyData.eqvAll, eqv_ints xs ys, PyData.eqv]
    by_cases h : x = y <;> by_cases h2 : xs = ys <;> simp [h, h2]
theorem shaped_ints (xs : List Int) : SeqAt.shaped (toPy (.lst (iL xs))) = true := by
  rw [toPy, toPys_ints]
  unfold SeqAt.shaped
  rw [PyData.canLay0, lay_ints, PyData.depth, dep_ints]
  rfl
theorem eq_ints {xs ys : List Int} {k : Bool → Prop} (h : k (decide (xs = ys))) : eqD (.lst (iL xs)) (.lst (iL ys)) k := by
  have e : eqD (.lst (iL xs)) (.lst (iL ys)) k = ((D.lst (iL xs)).pure = true ∧ (D.lst (iL ys)).pure = true ∧ SeqAt.shaped (toPy (.lst (iL xs))) = true ∧ SeqAt.shaped (toPy (.lst (iL ys))) = true ∧ k (PyData.eqv (toPy (.lst (iL xs))) (toPy (.lst (iL ys))))) := rfl
  rw [e]
  refine ⟨by unfold D.pure; exact pures_ints xs, by unfold D.pure; exact pures_ints ys, shaped_ints xs, shaped_ints ys, ?_⟩
  rw [toPy, toPy, toPys_ints, toPys_ints, PyData.eqv, eqv_ints]
  exact h
theorem get_ints {xs : List Int} {i : Nat} : (iL xs)[i]? = (xs[i]?).map D.int := by simp [iL]
theorem len_ints {xs : List Int} : (iL xs).length = xs.length := by simp [iL]
theorem app_ints {xs : List Int} {x : Int} : iL xs ++ [D.int x] = iL (xs ++ [x]) := by simp [iL]
theorem atI_ints {xs : List Int} {i : Int} : atI (iL xs) i = (atI xs i).map D.int := by
  unfold atI
  rw [len_ints]
  cases ixN xs.length i with
  | none => rfl
  | some k => exact get_ints
theorem sizeLine_big {n : Nat} (h : n ≤ 16777216) : n ≤ sizeLine := by rw [sizeLine_eq]; exact h
theorem sizeLine_lt {n : Nat} (h : n < 16777216) : n < sizeLine := by rw [sizeLine_eq]; exact h
/-- mod, with the divisor's size -/
theorem divOk_of {j : Int} (h : 0 < j) (h2 : j < 2 ^ 64) : divOk j := by
  refine ⟨h, ?_⟩
  by_cases z : j.natAbs = 0
  · rw [z]; decide
  · have : j.natAbs.log2 < 64 := (Nat.log2_lt z).mpr (by omega)
    omega
theorem cpow_of {i j : Int} (h : 0 ≤ j) (h2 : j ≤ 1000000) (h3 : i.natAbs < 2 ^ 64) : CPow i j := ⟨h, h2, h3⟩
theorem isr_ok {ns : List Int} {i : Nat} (h : i < ns.length) : atI ns (i : Int) = some ns[i] := by
  unfold atI ixN
  simp [h]
theorem eq_ii {i j : Int} {k : Bool → Prop} : eqD (.int i) (.int j) k = k (i == j) := rfl
theorem eq_bb {i j : Bool} {k : Bool → Prop} : eqD (.bl i) (.bl j) k = k (i == j) := rfl
theorem eq_ss {i j : Str} {k : Bool → Prop} : eqD (.str i) (.str j) k = k (i == j) := rfl
theorem eq_nn {k : Bool → Prop} : eqD .non .non k = k true := rfl
theorem cut_take {α : Type} {xs : List α} {i : Nat} : cutL xs none (some (i : Int)) = xs.take i := by
  unfold cutL
  rw [HT.sIx_none, HT.sIx_nat, List.drop_zero, Nat.sub_zero]
  by_cases h : i ≤ xs.length
  · rw [Nat.min_eq_left h]
  · rw [Nat.min_eq_right (by omega), List.take_length, List.take_of_length_le (by omega)]
theorem cut_drop {α : Type} {xs : List α} {i : Nat} : cutL xs (some (i : Int)) none = xs.drop i := by
  unfold cutL
  rw [HT.sIx_none, HT.sIx_nat]
  by_cases h : i ≤ xs.length
  · rw [Nat.min_eq_left h, List.take_of_length_le (by simp)]
  · rw [Nat.min_eq_right (by omega), List.drop_of_length_le (Nat.le_refl _), List.drop_of_length_le (by omega)]; simp
theorem cut_init {α : Type} {xs : List α} : cutL xs none (some (-1)) = xs.take (xs.length - 1) := by
  unfold cutL
  rw [HT.sIx_none, List.drop_zero, Nat.sub_zero]
  have e : HT.sIx xs.length xs.length (some (-1)) = xs.length - 1 := by
    show (if (-1 : Int) < 0 then (-1 + (xs.length : Int)).toNat else min (-1 : Int).toNat xs.length) = xs.length - 1
    rw [if_pos (by decide)]; omega
  rw [e]
theorem getl {α : Type} {xs : List α} {i : Nat} {w : α} (h : xs[i]? = some w) : atI xs (i : Int) = some w := by
  unfold atI ixN
  have hi : i < xs.length := (List.getElem?_eq_some_iff.mp h).1
  rw [if_pos (by omega), if_pos (by omega)]
  exact h
theorem rng_it {n i : Nat} {x : D} (h : ((List.range n).map fun i => D.int ((i : Nat) : Int))[i]? = some x) : i < n ∧ x = .int (i : Int) := by
  obtain ⟨hi, e⟩ := List.getElem?_eq_some_iff.mp h
  simp at hi e
  exact ⟨hi, e.symm⟩
theorem rng_len {n : Nat} : ((List.range n).map fun i => D.int ((i : Nat) : Int)).length = n := by simp
theorem lst_it {xs : List Int} {i : Nat} {x : D} (h : (iL xs)[i]? = some x) : ∃ w, xs[i]? = some w ∧ x = .int w := by
  rw [get_ints] at h
  cases q : xs[i]? with
  | none => rw [q] at h; cases h
  | some w => rw [q] at h; exact ⟨w, rfl, (Option.some.inj h).symm⟩
theorem enu_it {xs : List Int} {i : Nat} {x : D} (h : ((iL xs).zipIdx.map fun p => D.tup [.int ((p.2 : Nat) : Int), p.1])[i]? = some x) : ∃ w, xs[i]? = some w ∧ x = .tup [.int (i : Int), .int w] := by
  simp [List.getElem?_map, List.getElem?_zipIdx] at h
  obtain ⟨a, h1, h2⟩ := h
  exact ⟨a, h1, by rw [← h2]⟩
theorem gcd_flip {a b m : Int} : Int.gcd (a - b) m = Int.gcd (b - a) m := by
  rw [← Int.neg_sub b a, Int.neg_gcd]
theorem atI_pos {α : Type} {xs : List α} {i : Int} (h0 : 0 ≤ i) (h1 : i < xs.length) : atI xs i = xs[i.toNat]? := by
  have e : i = ((i.toNat : Nat) : Int) := by omega
  have hl : i.toNat < xs.length := by omega
  rw [List.getElem?_eq_getElem hl]
  conv => lhs; rw [e]
  exact getl (List.getElem?_eq_getElem hl)
theorem atI_in {α : Type} {xs : List α} {i : Int} (h0 : 0 ≤ i) (h1 : i < xs.length) : ∃ q, atI xs i = some q := by
  rw [atI_pos h0 h1, List.getElem?_eq_getElem (by omega)]
  exact ⟨_, rfl⟩
section
variable {m : Bool} {L : Tab} {k : KV}
theorem r_int {i : Int} : resK m L k (.int i) = k (.d (.int i)) L := rfl
theorem r_bl {i : Bool} : resK m L k (.bl i) = k (.d (.bl i)) L := rfl
theorem r_str {i : Str} : resK m L k (.str i) = k (.d (.str i)) L := rfl
theorem r_non : resK m L k .non = k (.d .non) L := rfl
theorem r_tup {i : List D} : resK m L k (.tup i) = k (.d (.tup i)) L := rfl
theorem r_lstf {i : List D} : resK false L k (.lst i) = k (.d (.lst i)) L := rfl
theorem r_lstt {i : List D} : resK true L k (.lst i) = k (.c L.length) (L ++ [.lst i]) := rfl
theorem r_v {x : D} : rsK m L k (.v x) = k (.d x) L := rfl
theorem r_newf {i : List D} : rsK false L k (.new i) = k (.d (.lst i)) L := rfl
theorem r_newt {i : List D} : rsK true L k (.new i) = k (.c L.length) (L ++ [.lst i]) := rfl
theorem m_f {i : List D} : mkL false i L k = k (.d (.lst i)) L := rfl
theorem m_t {i : List D} : mkL true i L k = k (.c L.length) (L ++ [.lst i]) := rfl
end
theorem log_of {i : Int} {a : Nat} (h : i.natAbs < 2 ^ a) : i.natAbs.log2 ≤ a := by
  by_cases z : i.natAbs = 0
  · rw [z]; exact Nat.zero_le _
  · exact Nat.le_of_lt ((Nat.log2_lt z).mpr h)
theorem mul_of {i j : Int} (a b : Nat) (h1 : i.natAbs < 2 ^ a) (h2 : j.natAbs < 2 ^ b) (h : a + b < 1000000) : mulOk i j := .inr (by
  have l1 := log_of h1
  have l2 := log_of h2
  show i.natAbs.log2 + j.natAbs.log2 < 1000000
  omega)
theorem fl_bl {b : Bool} : D.flat (.bl b) = true := rfl
theorem fl_int {b : Int} : D.flat (.int b) = true := rfl
theorem fl_str {b : Str} : D.flat (.str b) = true := rfl
theorem fl_non : D.flat .non = true := rfl
theorem fl_rs {x : D} : Rs.flat (.v x) = x.flat := rfl
theorem o_add {i j : Int} {k : D → Prop} : opB .add (.int i) (.int j) k = (k (.int (i + j))) := rfl
theorem o_adds {s t : Str} {k : D → Prop} : opB .add (.str s) (.str t) k = (s.length + t.length ≤ sizeLine ∧ k (.str (s ++ t))) := rfl
theorem o_addl {a b : List D} {k : D → Prop} : opB .add (.lst a) (.lst b) k = (a.length + b.length ≤ sizeLine ∧ k (.lst (a ++ b))) := rfl
theorem o_addt {a b : List D} {k : D → Prop} : opB .add (.tup a) (.tup b) k = (a.length + b.length ≤ sizeLine ∧ k (.tup (a ++ b))) := rfl
theorem n_join {a : Str} {ds : List D} {k : D → Prop} : bmD .join a [.lst ds] k = (∃ ys : List Str, ds = ys.map .str ∧ (ys.map (·.length)).sum + ys.length * a.length ≤ 16777216 ∧ k (.str (Txt.join a ys))) := rfl
theorem n_split {a b : Str} {k : D → Prop} : bmD .split a [.str b] k = ((b.length == 0) = false ∧ a.length + 2 ≤ sizeLine ∧ k (.lst ((Txt.split a b).map .str))) := rfl
theorem n_index {a b : Str} {k : D → Prop} : bmD .index a [.str b] k = (∃ i rest, Builtin.Str.occurrences a b 0 a.length 1 = i :: rest ∧ k (.int ((i : Nat) : Int))) := rfl
theorem n_find {a b : Str} {k : D → Prop} : bmD .find a [.str b] k = k (.int (Txt.find a b)) := rfl
theorem o_sub {i j : Int} {k : D → Prop} : opB .sub (.int i) (.int j) k = (k (.int (i - j))) := rfl
theorem o_mul {i j : Int} {k : D → Prop} : opB .mul (.int i) (.int j) k = (mulOk i j ∧ k (.int (i * j))) := rfl
theorem o_rep {a : List D} {n : Int} {k : D → Prop} : opB .mul (.lst a) (.int n) k = (n < 2 ^ 62 ∧ -(2 ^ 62) < n ∧ a.length * n.toNat ≤ sizeLine ∧ k (.lst (List.replicate n.toNat a).flatten)) := rfl
theorem o_div {i j : Int} {k : D → Prop} : opB .fdiv (.int i) (.int j) k = (divOk j ∧ k (.int (i / j))) := rfl
theorem o_mod {i j : Int} {k : D → Prop} : opB .mod (.int i) (.int j) k = (0 < j ∧ k (.int (i % j))) := rfl
theorem o_pow {i j : Int} {k : D → Prop} : opB .pow (.int i) (.int j) k = (CPow i j ∧ k (.int (i ^ j.toNat))) := rfl
theorem c_lt {i j : Int} {k : Bool → Prop} : cmpD .lt (.int i) (.int j) k = (k (decide (i < j))) := rfl
theorem c_le {i j : Int} {k : Bool → Prop} : cmpD .le (.int i) (.int j) k = (k (decide (i ≤ j))) := rfl
theorem c_gt {i j : Int} {k : Bool → Prop} : cmpD .gt (.int i) (.int j) k = (k (decide (j < i))) := rfl
theorem c_ge {i j : Int} {k : Bool → Prop} : cmpD .ge (.int i) (.int j) k = (k (decide (j ≤ i))) := rfl
theorem c_lts {i j : Str} {k : Bool → Prop} : cmpD .lt (.str i) (.str j) k = (k (decide (i.cps.toList < j.cps.toList))) := rfl
theorem c_eq {x y : D} {k : Bool → Prop} : cmpD .eq x y k = (eqD x y k) := rfl
theorem c_ne {x y : D} {k : Bool → Prop} : cmpD .ne x y k = (eqD x y fun b => k (!b)) := rfl
theorem c_is {x y : D} {k : Bool → Prop} : cmpD .is x y k = (isD x y k) := rfl
theorem c_isnot {x y : D} {k : Bool → Prop} : cmpD .isnot x y k = (isD x y fun b => k (!b)) := rfl
theorem c_in {x y : D} {k : Bool → Prop} : cmpD .isin x y k = (inD x y k) := rfl
theorem c_notin {x y : D} {k : Bool → Prop} : cmpD .notin x y k = (inD x y fun b => k (!b)) := rfl
theorem t_bl {b : Bool} {k : Bool → Prop} : truD (.bl b) k = (k b) := rfl
theorem t_non {k : Bool → Prop} : truD .non k = (k false) := rfl
theorem t_int {i : Int} {k : Bool → Prop} : truD (.int i) k = (k (i != 0)) := rfl
theorem t_lst {ds : List D} {k : Bool → Prop} : truD (.lst ds) k = (k (!ds.isEmpty)) := rfl
theorem t_tup {ds : List D} {k : Bool → Prop} : truD (.tup ds) k = (k (!ds.isEmpty)) := rfl
theorem x_lst {ds : List D} {i : Int} {k : D → Prop} : idxD (.lst ds) (.int i) k = (∃ v, atI ds i = some v ∧ k v) := rfl
theorem x_tup {ds : List D} {i : Int} {k : D → Prop} : idxD (.tup ds) (.int i) k = (∃ v, atI ds i = some v ∧ k v) := rfl
theorem x_scr {ns : List Int} {i : Int} {k : D → Prop} : idxD (.scr ns) (.int i) k = (∃ v, atI ns i = some v ∧ k (.int v)) := rfl
theorem x_str {s : Str} {i : Int} {k : D → Prop} : idxD (.str s) (.int i) k = (∃ c, s.length ≤ sizeLine ∧ atI s.cps.toList i = some c ∧ k (.str ⟨#[c]⟩)) := rfl
theorem u_lst {ds : List D} {lo hi : Option Int} {k : D → Prop} : cutD (.lst ds) lo hi k = (k (.lst (cutL ds lo hi))) := rfl
theorem u_scr {ns : List Int} {lo hi : Option Int} {k : D → Prop} : cutD (.scr ns) lo hi k = (k (.lst ((cutL ns lo hi).map .int))) := rfl
theorem u_str {s : Str} {lo hi : Option Int} {k : D → Prop} : cutD (.str s) lo hi k = (s.length ≤ sizeLine ∧ k (.str (cutS s lo hi))) := rfl
theorem b_lenl {ds : List D} {k : D → Prop} : biD .len [.lst ds] k = (k (.int ds.length)) := rfl
theorem b_lent {ds : List D} {k : D → Prop} : biD .len [.tup ds] k = (k (.int ds.length)) := rfl
theorem b_lenc {ns : List Int} {k : D → Prop} : biD .len [.scr ns] k = (k (.int ns.length)) := rfl
theorem b_lens {s : Str} {k : D → Prop} : biD .len [.str s] k = (s.length ≤ sizeLine ∧ k (.int s.length)) := rfl
theorem b_abs {i : Int} {k : D → Prop} : biD .abs [.int i] k = (k (.int (if i < 0 then -i else i))) := rfl
theorem b_max2 {i j : Int} {k : D → Prop} : biD .max2 [.int i, .int j] k = (k (.int (if j > i then j else i))) := rfl
theorem b_min2 {i j : Int} {k : D → Prop} : biD .min2 [.int i, .int j] k = (k (.int (if j < i then j else i))) := rfl
theorem b_tup {ds : List D} {k : D → Prop} : biD .tuple [.lst ds] k = k (.tup ds) := rfl
theorem b_srtk {ks : List Int} {k : D → Prop} : biD .sorted [.kst ks] k = (ks.length < 64 ∧ ∀ ns' : List Int, ns'.Perm ks → ns'.Pairwise (· ≤ ·) → k (.lst (ns'.map .int))) := rfl
theorem dat_lst {ds : List D} : Ct.dat (.lst ds) = .lst ds := rfl
theorem dat_ob {u : D} : Ct.dat (.ob u) = u := rfl
theorem dat_fz {u : D} : Ct.dat (.fz u) = u := rfl
theorem b_dm {i j : Int} {k : D → Prop} : biD .divmod [.int i, .int j] k = (0 < j ∧ j < 1073741824 ∧ k (.tup [.int (i / j), .int (i % j)])) := rfl
theorem b_int {i : Int} {k : D → Prop} : biD .int [.int i] k = (k (.int i)) := rfl
theorem b_inb {b : Bool} {k : D → Prop} : biD .int [.bl b] k = (k (.int (if b then 1 else 0))) := rfl
theorem p_non  : partD .non (.d .non) = (some none) := rfl
theorem i_lst {ds : List D} : D.items (.lst ds) = (some ds) := rfl
theorem i_tup {ds : List D} : D.items (.tup ds) = (some ds) := rfl
theorem i_scr {ns : List Int} : D.items (.scr ns) = (some (ns.map .int)) := rfl
theorem is_n {x : D} {k : Bool → Prop} : isD x .non k = (k x.isNon) := rfl
theorem is_b {a b : Bool} {k : Bool → Prop} : isD (.bl a) (.bl b) k = k (a == b) := rfl
end PD

namespace PD
open PySem L2
/-! ## texts -/
abbrev ch (c : Nat) : Str := ⟨#[c]⟩
abbrev sL (cs : List Nat) : Str := ⟨cs.toArray⟩
theorem len_sL {cs : List Nat} : (sL cs).length = cs.length := by show (cs.toArray).size = cs.length; simp
theorem list_sL {cs : List Nat} : (sL cs).cps.toList = cs := rfl
theorem join_chs : ∀ cs : List Nat, Txt.join ⟨#[]⟩ (cs.map ch) = sL cs
  | [] => rfl
  | c :: cs => by
    have e := join_chs cs
    rw [TL.join_eq] at e ⊢
    rw [List.map_cons, PyProof.Rows.join_nil_cons, e]
    show (⟨#[c] ++ cs.toArray⟩ : Str) = ⟨(c :: cs).toArray⟩
    congr 1
    apply Array.toList_inj.mp
    simp
theorem sub_ch {cs : List Nat} {c i : Nat} : Builtin.Str.subAt (sL cs) (ch c) i = true ↔ cs[i]? = some c := by
  show ((cs.toArray).extract i (i + 1) == #[c]) = true ↔ _
  rw [beq_iff_eq, ← Array.toList_inj]
  simp only [Array.toList_extract]
  rw [List.extract_eq_drop_take]
  simp only [Nat.add_sub_cancel_left]
  cases h : cs[i]? with
  | none =>
    have hl := List.getElem?_eq_none_iff.mp h
    rw [List.drop_of_length_le (by simpa using hl)]
    simp
  | some x =>
    have hl := (List.getElem?_eq_some_iff.mp h).1
    have e : (cs.drop i).take 1 = [x] := by
      have hx := (List.getElem?_eq_some_iff.mp h).2
      rw [List.drop_eq_getElem_cons hl, hx]
      rfl
    simp [e]
theorem at_ch {cs : List Nat} {c i : Nat} : StrLaws.At (sL cs) (ch c) (sL cs).length i ↔ cs[i]? = some c := by
  constructor
  · intro h
    exact sub_ch.mp h.2
  · intro h
    have hl := (List.getElem?_eq_some_iff.mp h).1
    exact ⟨by rw [len_sL]; exact hl, sub_ch.mpr h⟩
theorem nodup_at {cs : List Nat} (hn : cs.Nodup) {i j : Nat} {c : Nat} (h : cs[i]? = some c) (h' : cs[j]? = some c) : i = j := by
  obtain ⟨h1, e1⟩ := List.getElem?_eq_some_iff.mp h
  obtain ⟨h2, e2⟩ := List.getElem?_eq_some_iff.mp h'
  exact (List.getElem_inj hn).mp (e1.trans e2.symm)
theorem idx_ch {cs : List Nat} (hn : cs.Nodup) {i c : Nat} (h : cs[i]? = some c) : ∃ rest, Builtin.Str.occurrences (sL cs) (ch c) 0 (sL cs).length 1 = i :: rest := by
  rcases StrLaws.occ_head (sL cs) (ch c) 1 (Nat.le_refl _) with ⟨_, no⟩ | ⟨j, r, e, a, _⟩
  · exact absurd (at_ch.mpr h) (no i)
  · have q := at_ch.mp a
    rw [nodup_at hn q h] at e
    exact ⟨r, e⟩
theorem empty_str : (("" : Str)) = ⟨#[]⟩ := rfl
theorem az_str : (("abcdefghijklmnopqrstuvwxyz" : Str)) = sL ((List.range 26).map (97 + ·)) := by decide +kernel
end PD

namespace K09
open PySem L2 PD
def top (i : Nat) : Stmt := PySem.Challenge.pw_cablehouse_k09_torn_words.main.body.getD i (.Pass ⟨0, 0, 0, 0⟩)
/-- is_word: 0 code 1 thing 2 letters 3 letter -/
def b0_0 : PD.E := (.cmp .isin (.var 3) (.var 2))
def b0_1 : PD.Ss := (.cons (.asg (.v 2) (.meth 6 16 (.var 0) .nil))
    (.cons (.ret (.bi .all (.cons (.comp (.v 3) (.seq (.var 1)) b0_0 .nil) .nil)))
    .nil))
def b0 : PD.Ss := (.cons (.ife (.or (.not (.val (.isi (.var 1) .str))) (.cmp .ne (.bi .len (.cons (.var 1) .nil)) (.bi .len (.cons (.meth 6 17 (.var 0) .nil) .nil))))
    (.cons (.ret (.bl false))
    .nil)
    .nil)
    b0_1)
def f0 : PD.Fn := ⟨4, 2, b0, false, .fn⟩
/-- places_of: 0 code 1 word 2 letters 3 letter -/
def b1_0 : PD.E := (.bm .index (.var 2) (.cons (.var 3) .nil))
def b1 : PD.Ss := (.cons (.asg (.v 2) (.meth 6 16 (.var 0) .nil))
    (.cons (.ret (.comp (.v 3) (.seq (.var 1)) b1_0 .nil))
    .nil))
def f1 : PD.Fn := ⟨4, 2, b1, false, .fn⟩
/-- word_of: 0 code 1 places 2 letters 3 place -/
def b2_0 : PD.E := (.idx (.var 2) (.var 3))
def b2 : PD.Ss := (.cons (.asg (.v 2) (.meth 6 16 (.var 0) .nil))
    (.cons (.ret (.bm .join (.str "") (.cons (.comp (.v 3) (.seq (.var 1)) b2_0 .nil) .nil)))
    .nil))
def f2 : PD.Fn := ⟨4, 2, b2, false, .fn⟩
/-- is_torn: 0 code 1 thing -/
def b3 : PD.Ss := (.cons (.mintI (.not (.val (.isi (.var 1) .str))) .le .le 1 (.bm .count (.var 1) (.cons (.str "?") .nil)) (.int 3) false)
    (.cons (.repR 0 (.var 0) (.var 1) "?" (.meth 6 16 (.var 0) .nil))
    .nil))
def f3 : PD.Fn := ⟨2, 2, b3, false, .fn⟩
/-- rows_of: 0 many 1 length 2 rows 3 turn 4 longer 5 row 6 place -/
def b4_0 : PD.E := (.bin .add (.var 5) (.lst (.cons (.var 6) .nil)))
def b4_1 : PD.Ss := (.cons (.extend 4 (.comp (.v 6) (.range1 (.var 0)) b4_0 .nil))
    .nil)
def b4_2 : PD.Ss := (.cons (.own 4 (.lst .nil))
    (.cons (.for_ (.v 5) (.seq (.var 2)) [] b4_1)
    (.cons (.asg (.v 2) (.var 4))
    .nil)))
def b4 : PD.Ss := (.cons (.asg (.v 2) (.lst (.cons (.lst .nil) .nil)))
    (.cons (.for_ (.v 3) (.range1 (.var 1)) [4, 2] b4_2)
    (.cons (.ret (.var 2))
    .nil)))
def f4 : PD.Fn := ⟨7, 2, b4, false, .fn⟩
/-- fitting: 0 code 1 torn 2 letters 3 many 4 gaps 5 places 6 weights 7 found 8 row 9 some 10 gap 11 place 12 left 13 k 14 letter 15 weight -/
def b5_0 : PD.Ts := (.cons (.cmp .eq (.var 14) (.str "?")) .nil)
def b5_1 : PD.E := (.var 13)
def b5_2 : PD.Ss := (.cons (.setix 9 (.var 10) (.var 11))
    .nil)
def b5_3 : PD.E := (.bin .mul (.var 15) (.var 11))
def b5_4 : PD.Ss := (.cons (.ife (.cmp .eq (.bin .mod (.bin .sub (.var 12) (.bin .mul (.idx (.var 6) (.idx (.var 4) (.neg (.int 1)))) (.var 11))) (.var 3)) (.int 0))
    (.cons (.append 7 (.call 2 (.cons (.var 0) (.cons (.bin .add (.bin .add (.slc (.var 9) .non (.idx (.var 4) (.neg (.int 1)))) (.lst (.cons (.var 11) .nil))) (.slc (.var 9) (.bin .add (.idx (.var 4) (.neg (.int 1))) (.int 1)) .non)) .nil))))
    .nil)
    .nil)
    .nil)
def b5_5 : PD.Ss := (.cons (.asg (.v 12) (.bin .sub (.meth 6 18 (.var 0) .nil) (.bi .sum (.cons (.comp (.t [15, 11]) (.zip (.var 6) (.var 9)) b5_3 .nil) .nil))))
    (.cons (.for_ (.v 11) (.range1 (.var 3)) [] b5_4)
    .nil))
def b5_6 : PD.Ss := (.cons (.own 9 (.mklist (.var 5)))
    (.cons (.for_ (.t [10, 11]) (.zip (.var 4) (.var 8)) [] b5_2)
    b5_5))
def b5_7 : PD.Ss := (.cons (.asg (.v 2) (.meth 6 16 (.var 0) .nil))
    (.cons (.mintL 3 (.var 2))
    (.cons (.asg (.v 4) (.comp (.t [13, 14]) (.enum (.var 1)) b5_1 b5_0))
    (.cons (.repA 5 1 (.var 0) (.var 1) "?" (.var 2))
    (.cons (.asg (.v 6) (.meth 6 17 (.var 0) .nil))
    (.cons (.own 7 (.lst .nil))
    (.cons (.for_ (.v 8) (.seq (.call 4 (.cons (.var 3) (.cons (.bin .sub (.bi .len (.cons (.var 4) .nil)) (.int 1)) .nil)))) [9] b5_6)
    (.cons (.ret (.var 7))
    .nil))))))))
def b5 : PD.Ss := (.cons (.ife (.not (.val (.call 3 (.cons (.var 0) (.cons (.var 1) .nil)))))
    (.cons (.raise 0)
    .nil)
    .nil)
    b5_7)
def f5 : PD.Fn := ⟨16, 2, b5, true, .fn⟩
/-- is_whole: 0 thing -/
def b6 : PD.Ss := (.cons (.ret (.and (.isi (.var 0) .int) (.not (.isi (.var 0) .bool))))
    .nil)
def f6 : PD.Fn := ⟨1, 1, b6, false, .fn⟩
/-- divisor: 0 one 1 other -/
def b7_0 : PD.T := (.cmp .ne (.var 1) (.int 0))
def b7_1 : PD.Ss := (.cons (.par 0 1 (.var 1) (.bin .mod (.var 0) (.var 1)))
    .nil)
def b7 : PD.Ss := (.cons (.while_ b7_0 [] b7_1)
    (.cons (.ret (.bi .abs (.cons (.var 0) .nil)))
    .nil))
def f7 : PD.Fn := ⟨2, 2, b7, false, .fn⟩
/-- fits_behind: 0 weights 1 weight 2 m -/
def b8 : PD.Ss := (.cons (.ife (.cmp .ne (.call 7 (.cons (.var 1) (.cons (.var 2) .nil))) (.int 1))
    (.cons (.ret (.bl false))
    .nil)
    .nil)
    (.cons (.ret (.or (.cmp .eq (.var 0) (.lst .nil)) (.cmp .eq (.call 7 (.cons (.bin .sub (.idx (.var 0) (.neg (.int 1))) (.var 1)) (.cons (.var 2) .nil))) (.int 1))))
    .nil))
def f8 : PD.Fn := ⟨3, 3, b8, false, .fn⟩
/-- are_safe: 0 weights 1 m 2 k 3 weight -/
def b9_0 : PD.Ss := (.cons (.ife (.not (.val (.call 8 (.cons (.slc (.var 0) .non (.var 2)) (.cons (.var 3) (.cons (.var 1) .nil))))))
    (.cons (.ret (.bl false))
    .nil)
    .nil)
    .nil)
def b9 : PD.Ss := (.cons (.for_ (.t [2, 3]) (.enum (.var 0)) [] b9_0)
    (.cons (.ret (.bl true))
    .nil))
def f9 : PD.Fn := ⟨4, 2, b9, false, .fn⟩
/-- sum_of: 0 weights 1 places 2 weight 3 place -/
def b10_0 : PD.E := (.bin .mul (.var 2) (.var 3))
def b10 : PD.Ss := (.cons (.ret (.bi .sum (.cons (.comp (.t [2, 3]) (.zip (.var 0) (.var 1)) b10_0 .nil) .nil)))
    .nil)
def f10 : PD.Fn := ⟨4, 2, b10, false, .fn⟩
/-- is_good: 0 alphabet 1 weights 2 rest 3 word 4 places 5 letter -/
def b11_0 : PD.E := (.bm .index (.var 0) (.cons (.var 5) .nil))
def b11 : PD.Ss := (.cons (.asg (.v 4) (.comp (.v 5) (.seq (.var 3)) b11_0 .nil))
    (.cons (.ret (.cmp .eq (.bin .mod (.bin .sub (.call 10 (.cons (.var 1) (.cons (.var 4) .nil))) (.var 2)) (.bi .len (.cons (.var 0) .nil))) (.int 0)))
    .nil))
def f11 : PD.Fn := ⟨6, 4, b11, false, .fn⟩
/-- is_alphabet: 0 thing 1 letter -/
def b12_0 : PD.E := (.cmp .isin (.var 1) (.gc 0))
def b12_1 : PD.Ss := (.cons (.ret (.bi .all (.cons (.comp (.v 1) (.seq (.var 0)) b12_0 .nil) .nil)))
    .nil)
def b12 : PD.Ss := (.cons (.ife (.or (.not (.val (.isi (.var 0) .str))) (.or (.cmp .lt (.bi .len (.cons (.var 0) .nil)) (.int 3)) (.or (.cmp .gt (.bi .len (.cons (.var 0) .nil)) (.int 26)) (.cmp .lt (.setlen (.var 0)) (.bi .len (.cons (.var 0) .nil))))))
    (.cons (.ret (.bl false))
    .nil)
    .nil)
    b12_1)
def f12 : PD.Fn := ⟨2, 1, b12, false, .fn⟩
/-- is_place: 0 thing 1 m -/
def b13 : PD.Ss := (.cons (.ret (.and (.call 6 (.cons (.var 0) .nil)) (.chain .le .lt (.int 0) (.var 0) (.var 1))))
    .nil)
def f13 : PD.Fn := ⟨2, 2, b13, false, .fn⟩
/-- are_weights: 0 thing 1 m 2 weight -/
def b14_0 : PD.E := (.call 13 (.cons (.var 2) (.cons (.var 1) .nil)))
def b14_1 : PD.Ss := (.cons (.ret (.bi .all (.cons (.comp (.v 2) (.seq (.var 0)) b14_0 .nil) .nil)))
    .nil)
def b14 : PD.Ss := (.cons (.ife (.or (.not (.val (.isi (.var 0) .list))) (.or (.cmp .lt (.bi .len (.cons (.var 0) .nil)) (.int 3)) (.cmp .gt (.bi .len (.cons (.var 0) .nil)) (.int 8))))
    (.cons (.ret (.bl false))
    .nil)
    .nil)
    b14_1)
def f14 : PD.Fn := ⟨3, 2, b14, false, .fn⟩
/-- Code.__init__: 0 self 1 alphabet 2 weights 3 rest -/
def b15_0 : PD.Ss := (.cons (.ife (.not (.val (.call 9 (.cons (.var 2) (.cons (.bi .len (.cons (.var 1) .nil)) .nil)))))
    (.cons (.raise 1)
    .nil)
    .nil)
    (.cons (.setf 0 6 0 (.var 1))
    (.cons (.setf 0 6 1 (.mklist (.var 2)))
    (.cons (.setf 0 6 2 (.var 3))
    .nil))))
def b15 : PD.Ss := (.cons (.ife (.or (.not (.val (.call 12 (.cons (.var 1) .nil)))) (.or (.not (.val (.call 14 (.cons (.var 2) (.cons (.bi .len (.cons (.var 1) .nil)) .nil))))) (.not (.val (.call 13 (.cons (.var 3) (.cons (.bi .len (.cons (.var 1) .nil)) .nil)))))))
    (.cons (.raise 1)
    .nil)
    .nil)
    b15_0)
def f15 : PD.Fn := ⟨4, 4, b15, false, (.ini 6)⟩
/-- Code.alphabet: 0 self -/
def b16 : PD.Ss := (.cons (.ret (.fld 6 (.var 0) 0))
    .nil)
def f16 : PD.Fn := ⟨1, 1, b16, false, (.me 6)⟩
/-- Code.weights: 0 self -/
def b17 : PD.Ss := (.cons (.ret (.mklist (.fld 6 (.var 0) 1)))
    .nil)
def f17 : PD.Fn := ⟨1, 1, b17, false, (.me 6)⟩
/-- Code.rest: 0 self -/
def b18 : PD.Ss := (.cons (.ret (.fld 6 (.var 0) 2))
    .nil)
def f18 : PD.Fn := ⟨1, 1, b18, false, (.me 6)⟩
/-- Code.many: 0 self 1 found 2 weight -/
def b19_0 : PD.Ss := (.cons (.asg (.v 1) (.bin .mul (.var 1) (.bi .len (.cons (.fld 6 (.var 0) 0) .nil))))
    .nil)
def b19 : PD.Ss := (.cons (.asg (.v 1) (.int 1))
    (.cons (.for_ (.v 2) (.seq (.slc (.fld 6 (.var 0) 1) (.int 1) .non)) [] b19_0)
    (.cons (.ret (.var 1))
    .nil)))
def f19 : PD.Fn := ⟨3, 1, b19, false, (.me 6)⟩
/-- Code.word: 0 self 1 k 2 m 3 places 4 turn 5 left 6 last 7 place -/
def b20_0 : PD.Ss := (.cons (.asg (.v 3) (.bin .add (.lst (.cons (.bin .mod (.var 1) (.var 2)) .nil)) (.var 3)))
    (.cons (.asg (.v 1) (.bin .fdiv (.var 1) (.var 2)))
    .nil))
def b20_1 : PD.Ts := (.cons (.cmp .eq (.bin .mod (.bin .sub (.var 5) (.bin .mul (.idx (.fld 6 (.var 0) 1) (.neg (.int 1))) (.var 7))) (.var 2)) (.int 0)) .nil)
def b20_2 : PD.E := (.var 7)
def b20_3 : PD.E := (.idx (.fld 6 (.var 0) 0) (.var 7))
def b20_4 : PD.Ss := (.cons (.asg (.v 2) (.bi .len (.cons (.fld 6 (.var 0) 0) .nil)))
    (.cons (.asg (.v 3) (.lst .nil))
    (.cons (.for_ (.v 4) (.range1 (.bin .sub (.bi .len (.cons (.fld 6 (.var 0) 1) .nil)) (.int 1))) [] b20_0)
    (.cons (.asg (.v 5) (.bin .sub (.fld 6 (.var 0) 2) (.call 10 (.cons (.fld 6 (.var 0) 1) (.cons (.var 3) .nil)))))
    (.cons (.asg (.v 6) (.idx (.comp (.v 7) (.range1 (.var 2)) b20_2 b20_1) (.int 0)))
    (.cons (.ret (.bm .join (.str "") (.cons (.comp (.v 7) (.seq (.bin .add (.var 3) (.lst (.cons (.var 6) .nil)))) b20_3 .nil) .nil)))
    .nil))))))
def b20 : PD.Ss := (.cons (.ife (.or (.not (.val (.call 6 (.cons (.var 1) .nil)))) (.or (.cmp .lt (.var 1) (.int 0)) (.cmp .ge (.var 1) (.meth 6 19 (.var 0) .nil))))
    (.cons (.raise 2)
    .nil)
    .nil)
    b20_4)
def f20 : PD.Fn := ⟨8, 2, b20, false, (.me 6)⟩
/-- Code.number: 0 self 1 word 2 found 3 letter -/
def b21_0 : PD.Ss := (.cons (.asg (.v 2) (.bin .add (.bin .mul (.var 2) (.bi .len (.cons (.fld 6 (.var 0) 0) .nil))) (.bm .index (.fld 6 (.var 0) 0) (.cons (.var 3) .nil))))
    .nil)
def b21_1 : PD.Ss := (.cons (.asg (.v 2) (.int 0))
    (.cons (.for_ (.v 3) (.seq (.slc (.var 1) .non (.neg (.int 1)))) [] b21_0)
    (.cons (.ret (.var 2))
    .nil)))
def b21 : PD.Ss := (.cons (.ife (.not (.val (.meth 6 22 (.var 0) (.cons (.var 1) .nil))))
    (.cons (.raise 0)
    .nil)
    .nil)
    b21_1)
def f21 : PD.Fn := ⟨4, 2, b21, false, (.me 6)⟩
/-- Code.has_good: 0 self 1 thing 2 letter -/
def b22_0 : PD.E := (.cmp .isin (.var 2) (.fld 6 (.var 0) 0))
def b22_1 : PD.Ss := (.cons (.ife (.not (.val (.bi .all (.cons (.comp (.v 2) (.seq (.var 1)) b22_0 .nil) .nil))))
    (.cons (.ret (.bl false))
    .nil)
    .nil)
    (.cons (.ret (.call 11 (.cons (.fld 6 (.var 0) 0) (.cons (.fld 6 (.var 0) 1) (.cons (.fld 6 (.var 0) 2) (.cons (.var 1) .nil))))))
    .nil))
def b22 : PD.Ss := (.cons (.ife (.or (.not (.val (.isi (.var 1) .str))) (.cmp .ne (.bi .len (.cons (.var 1) .nil)) (.bi .len (.cons (.fld 6 (.var 0) 1) .nil))))
    (.cons (.ret (.bl false))
    .nil)
    .nil)
    b22_1)
def f22 : PD.Fn := ⟨3, 2, b22, false, (.me 6)⟩
/-- _law_cell_at: 0 _law_script 1 _law_k -/
def b23 : PD.Ss := (.cons (.ife (.cmp .lt (.var 1) (.bi .len (.cons (.var 0) .nil)))
    (.cons (.ret (.idx (.var 0) (.var 1)))
    .nil)
    .nil)
    (.cons (.ret (.int 0))
    .nil))
def f23 : PD.Fn := ⟨2, 2, b23, false, .fn⟩
/-- _law_long: 0 _law_cell 1 _law_k 2 _law_rest 3 _law_ahead 4 _law_turn 5 _law_low -/
def b24_0 : PD.Ss := (.cons (.asg (.v 3) (.bin .mod (.bin .add (.bin .add (.bin .mul (.var 3) (.int 48271)) (.bin .mod (.var 2) (.int 2147483629))) (.var 4)) (.int 2147483647)))
    (.cons (.asg (.v 2) (.bin .fdiv (.var 2) (.int 2147483629)))
    .nil))
def b24 : PD.Ss := (.cons (.asg (.v 2) (.var 0))
    (.cons (.asg (.v 3) (.int 7))
    (.cons (.for_ (.v 4) (.range1 (.var 1)) [] b24_0)
    (.cons (.asg (.v 5) (.bin .mod (.bin .add (.bin .add (.bin .mul (.var 2) (.int 69621)) (.bin .mul (.var 3) (.var 3))) (.bin .mul (.int 101) (.var 1))) (.int 2147483629)))
    (.cons (.ret (.bin .add (.var 5) (.bin .mul (.int 2147483629) (.bin .add (.bin .fdiv (.var 2) (.int 2147483629)) (.bin .pow (.bin .add (.var 3) (.var 1)) (.int 6))))))
    .nil)))))
def f24 : PD.Fn := ⟨6, 2, b24, false, .fn⟩
/-- _law_mixed: 0 _law_cell 1 _law_k -/
def b25 : PD.Ss := (.cons (.ret (.bin .mod (.call 24 (.cons (.var 0) (.cons (.var 1) .nil))) (.int 2147483629)))
    .nil)
def f25 : PD.Fn := ⟨2, 2, b25, false, .fn⟩
/-- _law_divisor: 0 _law_one 1 _law_other -/
def b26_0 : PD.T := (.cmp .ne (.var 1) (.int 0))
def b26_1 : PD.Ss := (.cons (.par 0 1 (.var 1) (.bin .mod (.var 0) (.var 1)))
    .nil)
def b26 : PD.Ss := (.cons (.while_ b26_0 [] b26_1)
    (.cons (.ret (.var 0))
    .nil))
def f26 : PD.Fn := ⟨2, 2, b26, false, .fn⟩
/-- _law_alphabet: 0 _law_cell 1 _law_many 2 _law_left 3 _law_k -/
def b27_0 : PD.E := (.pop 2 (.bin .mod (.call 25 (.cons (.var 0) (.cons (.bin .add (.int 30) (.var 3)) .nil))) (.bi .len (.cons (.var 2) .nil))))
def b27 : PD.Ss := (.cons (.own 2 (.mklist (.str "abcdefghijklmnopqrstuvwxyz")))
    (.cons (.ret (.bm .join (.str "") (.cons (.compm (.v 3) (.range1 (.var 1)) b27_0) .nil)))
    .nil))
def f27 : PD.Fn := ⟨4, 2, b27, false, .fn⟩
/-- _law_safe: 0 _law_weight 1 _law_found 2 _law_many -/
def b28 : PD.Ss := (.cons (.ife (.cmp .ne (.call 26 (.cons (.var 0) (.cons (.var 2) .nil))) (.int 1))
    (.cons (.ret (.bl false))
    .nil)
    .nil)
    (.cons (.ret (.or (.cmp .eq (.var 1) (.lst .nil)) (.cmp .eq (.call 26 (.cons (.bi .abs (.cons (.bin .sub (.var 0) (.idx (.var 1) (.neg (.int 1)))) .nil)) (.cons (.var 2) .nil))) (.int 1))))
    .nil))
def f28 : PD.Fn := ⟨3, 3, b28, false, .fn⟩
/-- _law_weights: 0 _law_cell 1 _law_many 2 _law_length 3 _law_found 4 _law_k 5 _law_first 6 _law_some 7 _law_j 8 _law_weight -/
def b29_0 : PD.E := (.bin .mod (.bin .add (.var 5) (.var 7)) (.var 1))
def b29_1 : PD.Ts := (.cons (.val (.call 28 (.cons (.var 8) (.cons (.var 3) (.cons (.var 1) .nil))))) .nil)
def b29_2 : PD.E := (.var 8)
def b29_3 : PD.Ss := (.cons (.asg (.v 5) (.bin .mod (.call 25 (.cons (.var 0) (.cons (.bin .add (.int 3) (.var 4)) .nil))) (.var 1)))
    (.cons (.asg (.v 6) (.comp (.v 7) (.range1 (.var 1)) b29_0 .nil))
    (.cons (.append 3 (.idx (.comp (.v 8) (.seq (.var 6)) b29_2 b29_1) (.int 0)))
    .nil)))
def b29 : PD.Ss := (.cons (.own 3 (.lst .nil))
    (.cons (.for_ (.v 4) (.range1 (.var 2)) [] b29_3)
    (.cons (.ret (.var 3))
    .nil)))
def f29 : PD.Fn := ⟨9, 3, b29, false, .fn⟩
/-- _law_code: 0 _law_cell 1 _law_many 2 _law_length 3 _law_weights_here -/
def b30 : PD.Ss := (.cons (.asg (.v 1) (.bin .add (.int 3) (.bin .mul (.int 2) (.bin .mod (.call 25 (.cons (.var 0) (.cons (.int 20) .nil))) (.int 12)))))
    (.cons (.asg (.v 2) (.bin .add (.int 3) (.bin .mod (.call 25 (.cons (.var 0) (.cons (.int 21) .nil))) (.int 6))))
    (.cons (.asg (.v 3) (.call 29 (.cons (.var 0) (.cons (.var 1) (.cons (.var 2) .nil)))))
    (.cons (.ret (.lst (.cons (.call 27 (.cons (.var 0) (.cons (.var 1) .nil))) (.cons (.var 3) (.cons (.bin .mod (.call 25 (.cons (.var 0) (.cons (.int 22) .nil))) (.var 1)) .nil)))))
    .nil))))
def f30 : PD.Fn := ⟨4, 1, b30, false, .fn⟩
/-- _law_word: 0 _law_cell 1 _law_letters 2 _law_length 3 _law_places_here 4 _law_k 5 _law_place -/
def b31_0 : PD.E := (.bin .mod (.call 25 (.cons (.var 0) (.cons (.bin .add (.int 30) (.var 4)) .nil))) (.bi .len (.cons (.var 1) .nil)))
def b31_1 : PD.E := (.bin .mod (.bin .fdiv (.var 5) (.int 2)) (.int 2))
def b31 : PD.Ss := (.cons (.asg (.v 3) (.comp (.v 4) (.range1 (.var 2)) b31_0 .nil))
    (.cons (.ife (.cmp .eq (.bin .mod (.var 0) (.int 3)) (.int 1))
    (.cons (.asg (.v 3) (.comp (.v 5) (.seq (.var 3)) b31_1 .nil))
    .nil)
    .nil)
    (.cons (.ret (.var 3))
    .nil)))
def f31 : PD.Fn := ⟨6, 3, b31, false, .fn⟩
/-- _law_text: 0 _law_letters 1 _law_places_here 2 _law_place -/
def b32_0 : PD.E := (.idx (.var 0) (.var 2))
def b32 : PD.Ss := (.cons (.ret (.bm .join (.str "") (.cons (.comp (.v 2) (.seq (.var 1)) b32_0 .nil) .nil)))
    .nil)
def f32 : PD.Fn := ⟨3, 2, b32, false, .fn⟩
/-- _law_sum: 0 _law_weights_here 1 _law_places_here 2 _law_weight 3 _law_place -/
def b33_0 : PD.E := (.bin .mul (.var 2) (.var 3))
def b33 : PD.Ss := (.cons (.ret (.bi .sum (.cons (.comp (.t [2, 3]) (.zip (.var 0) (.var 1)) b33_0 .nil) .nil)))
    .nil)
def f33 : PD.Fn := ⟨4, 2, b33, false, .fn⟩
/-- _law_made_good: 0 _law_code_here 1 _law_places_here 2 _law_letters 3 _law_weights_here 4 _law_rest 5 _law_place 6 _law_some -/
def b34_0 : PD.Ss := (.cons (.asg (.v 6) (.bin .add (.slc (.var 1) .non (.neg (.int 1))) (.lst (.cons (.var 5) .nil))))
    (.cons (.ife (.cmp .eq (.bin .mod (.bin .sub (.call 33 (.cons (.var 3) (.cons (.var 6) .nil))) (.var 4)) (.bi .len (.cons (.var 2) .nil))) (.int 0))
    (.cons (.ret (.var 6))
    .nil)
    .nil)
    .nil))
def b34 : PD.Ss := (.cons (.asg (.t [2, 3, 4]) (.var 0))
    (.cons (.for_ (.v 5) (.range1 (.bi .len (.cons (.var 2) .nil))) [] b34_0)
    (.cons (.ret .non)
    .nil)))
def f34 : PD.Fn := ⟨7, 2, b34, false, .fn⟩
/-- _law_places: 0 _law_letters 1 _law_found 2 _law_length 3 _law_places_here 4 _law_letter -/
def b35_0 : PD.Ss := (.cons (.ife (.cmp .notin (.var 4) (.var 0))
    (.cons (.ret .non)
    .nil)
    .nil)
    (.cons (.append 3 (.bm .index (.var 0) (.cons (.var 4) .nil)))
    .nil))
def b35_1 : PD.Ss := (.cons (.own 3 (.lst .nil))
    (.cons (.for_ (.v 4) (.seq (.var 1)) [] b35_0)
    (.cons (.ret (.var 3))
    .nil)))
def b35 : PD.Ss := (.cons (.ife (.or (.not (.val (.isi (.var 1) .str))) (.cmp .ne (.bi .len (.cons (.var 1) .nil)) (.var 2)))
    (.cons (.ret .non)
    .nil)
    .nil)
    b35_1)
def f35 : PD.Fn := ⟨5, 3, b35, false, .fn⟩
/-- _law_rising: 0 _law_letters 1 _law_length 2 _law_found 3 _law_some 4 _law_k 5 _law_word_here -/
def b36_0 : PD.E := (.call 35 (.cons (.var 0) (.cons (.var 5) (.cons (.var 1) .nil))))
def b36_1 : PD.Ss := (.cons (.ife (.cmp .ge (.idx (.var 3) (.bin .sub (.var 4) (.int 1))) (.idx (.var 3) (.var 4)))
    (.cons (.ret .non)
    .nil)
    .nil)
    .nil)
def b36_2 : PD.Ss := (.cons (.for_ (.v 4) (.range2 (.int 1) (.bi .len (.cons (.var 3) .nil))) [] b36_1)
    (.cons (.ret (.var 3))
    .nil))
def b36_3 : PD.Ss := (.cons (.own 3 (.comp (.v 5) (.seq (.var 2)) b36_0 .nil))
    (.cons (.ife (.cmp .isin .non (.var 3))
    (.cons (.ret .non)
    .nil)
    .nil)
    b36_2))
def b36 : PD.Ss := (.cons (.ife (.not (.val (.isi (.var 2) .list)))
    (.cons (.ret .non)
    .nil)
    .nil)
    b36_3)
def f36 : PD.Fn := ⟨6, 3, b36, true, .fn⟩
/-- _law_torn: 0 _law_cell 1 _law_word_here 2 _law_many 3 _law_found 4 _law_k 5 _law_at -/
def b37_0 : PD.Ss := (.cons (.asg (.v 5) (.bin .mod (.call 25 (.cons (.var 0) (.cons (.bin .add (.int 51) (.var 4)) .nil))) (.bi .len (.cons (.var 1) .nil))))
    (.cons (.asg (.v 3) (.bin .add (.bin .add (.slc (.var 3) .non (.var 5)) (.str "?")) (.slc (.var 3) (.bin .add (.var 5) (.int 1)) .non)))
    .nil))
def b37 : PD.Ss := (.cons (.asg (.v 3) (.var 1))
    (.cons (.for_ (.v 4) (.range1 (.var 2)) [] b37_0)
    (.cons (.ret (.var 3))
    .nil)))
def f37 : PD.Fn := ⟨6, 3, b37, false, .fn⟩
/-- _law_foreign: 0 _law_torn_here 1 _law_sign 2 _law_k -/
def b38_0 : PD.Ss := (.cons (.ife (.cmp .ne (.idx (.var 0) (.var 2)) (.str "?"))
    (.cons (.ret (.bin .add (.bin .add (.slc (.var 0) .non (.var 2)) (.var 1)) (.slc (.var 0) (.bin .add (.var 2) (.int 1)) .non)))
    .nil)
    .nil)
    .nil)
def b38 : PD.Ss := (.cons (.for_ (.v 2) (.range1 (.bi .len (.cons (.var 0) .nil))) [] b38_0)
    (.cons (.ret (.bin .add (.var 0) (.var 1)))
    .nil))
def f38 : PD.Fn := ⟨3, 2, b38, false, .fn⟩
/-- _law_no_torn: 0 _law_cell 1 _law_torn_here 2 _law_word_here 3 _law_letters 4 _law_odd 5 _law_signs 6 _law_some 7 _law_sign -/
def b39_0 : PD.Ts := (.cons (.cmp .notin (.var 7) (.var 3)) .nil)
def b39_1 : PD.E := (.var 7)
def b39_2 : PD.E := (.call 38 (.cons (.var 1) (.cons (.var 7) .nil)))
def b39 : PD.Ss := (.cons (.asg (.v 4) (.comp (.v 7) (.seq (.str "abcdefghijklmnopqrstuvwxyz")) b39_1 b39_0))
    (.cons (.asg (.v 5) (.lst (.cons (.idx (.var 4) (.int 0)) (.cons (.idx (.var 4) (.neg (.int 1))) (.cons (.str " ") (.cons (.str "A") (.cons (.str "!") .nil)))))))
    (.cons (.asg (.v 6) (.lst (.cons .non (.cons (.int 7) (.cons (.bl true) (.cons (.lst (.cons (.var 1) .nil)) (.cons (.tup (.cons (.var 1) .nil)) (.cons (.str "") (.cons (.var 2) (.cons (.slc (.var 1) .non (.neg (.int 1))) (.cons (.bin .add (.var 1) (.idx (.var 2) (.int 0))) (.cons (.uprep (.var 1) "?" "!") .nil))))))))))))
    (.cons (.asg (.v 6) (.bin .add (.var 6) (.lst (.cons (.bin .add (.str "????") (.slc (.var 2) (.int 4) .non)) (.cons (.mklist (.var 1)) (.cons .edict (.cons (.bin .add (.var 1) (.str "?")) (.cons (.bin .add (.bin .add (.str " ") (.slc (.var 1) (.int 1) .non)) (.str "?")) .nil))))))))
    (.cons (.asg (.v 6) (.bin .add (.var 6) (.comp (.v 7) (.seq (.var 5)) b39_2 .nil)))
    (.cons (.ret (.idx (.var 6) (.bin .mod (.var 0) (.int 20))))
    .nil))))))
def f39 : PD.Fn := ⟨8, 4, b39, false, .fn⟩
/-- _law_refused: 0 _law_code_here 1 _law_thing 2 e 3 _law_others -/
def b40 : PD.Ss := (.cons (.tryx (.cons (.expr (.call 5 (.cons (.var 0) (.cons (.var 1) .nil))))
    .nil) 0 3 [0] 2 [.asg 3 [(.one 2 [1]), (.one 5 []), (.one 3 [2]), (.one 6 [])], .ret (.one 0 [0, 1, 2]) 3])
    (.cons (.ret (.bl false))
    .nil))
def f40 : PD.Fn := ⟨4, 2, b40, false, .fn⟩
/-- _law_fits: 0 _law_plan 1 _law_torn_here 2 _law_places_here 3 _law_letters 4 _law_weights_here 5 _law_rest 6 _law_sign 7 _law_place -/
def b41_0 : PD.Ss := (.cons (.ife (.and (.cmp .ne (.var 6) (.str "?")) (.cmp .ne (.var 6) (.idx (.var 3) (.var 7))))
    (.cons (.ret (.bl false))
    .nil)
    .nil)
    .nil)
def b41 : PD.Ss := (.cons (.asg (.t [3, 4, 5]) (.var 0))
    (.cons (.for_ (.t [6, 7]) (.zip (.var 1) (.var 2)) [] b41_0)
    (.cons (.ret (.cmp .eq (.bin .mod (.bin .sub (.call 33 (.cons (.var 4) (.cons (.var 2) .nil))) (.var 5)) (.bi .len (.cons (.var 3) .nil))) (.int 0)))
    .nil)))
def f41 : PD.Fn := ⟨8, 3, b41, false, .fn⟩
/-- law: 0 _law_script 1 _law_plan 2 _law_letters 3 _law_weights_here 4 _law_rest 5 _law_code_here 6 _law_last 7 _law_cell 8 _law_word_here 9 _law_torn_here 10 _law_found 11 _law_some 12 _law_due 13 _law_turn 14 _law_places_here 15 _law_again_found 16 _law_k 17 _law_thing -/
def b42_0 : PD.Ss := (.cons (.asg (.v 12) (.bin .mul (.var 12) (.bi .len (.cons (.var 2) .nil))))
    .nil)
def b42_1 : PD.Ss := (.cons (.ife (.not (.val (.call 41 (.cons (.var 1) (.cons (.var 9) (.cons (.var 14) .nil))))))
    (.cons (.ret (.bl false))
    .nil)
    .nil)
    .nil)
def b42_2 : PD.Ss := (.cons (.asg (.v 17) (.call 39 (.cons (.call 25 (.cons (.var 7) (.cons (.bin .add (.int 56) (.var 16)) .nil))) (.cons (.var 9) (.cons (.var 8) (.cons (.var 2) .nil))))))
    (.cons (.ife (.not (.val (.call 40 (.cons (.var 5) (.cons (.var 17) .nil)))))
    (.cons (.ret (.bl false))
    .nil)
    .nil)
    .nil))
def b42_3 : PD.Ss := (.cons (.for_ (.v 16) (.range1 (.int 3)) [] b42_2)
    .nil)
def b42_4 : PD.Ss := (.cons (.clear 10)
    (.cons (.ife (.cmp .lt (.bm .count (.var 9) (.cons (.str "?") .nil)) (.int 3))
    (.cons (.asg (.v 15) (.call 5 (.cons (.var 5) (.cons (.var 9) .nil))))
    (.cons (.ife (.cmp .ne (.call 36 (.cons (.var 2) (.cons (.bi .len (.cons (.var 3) .nil)) (.cons (.var 15) .nil)))) (.var 11))
    (.cons (.ret (.bl false))
    .nil)
    .nil)
    .nil))
    .nil)
    b42_3))
def b42_5 : PD.Ss := (.cons (.for_ (.v 14) (.seq (.var 11)) [] b42_1)
    b42_4)
def b42_6 : PD.Ss := (.cons (.ife (.or (.cmp .is (.var 11) .non) (.cmp .ne (.bi .len (.cons (.var 11) .nil)) (.var 12)))
    (.cons (.ret (.bl false))
    .nil)
    .nil)
    b42_5)
def b42_7 : PD.Ss := (.cons (.asg (.v 8) (.call 32 (.cons (.var 2) (.cons (.call 31 (.cons (.var 7) (.cons (.var 2) (.cons (.bi .len (.cons (.var 3) .nil)) .nil)))) .nil))))
    (.cons (.asg (.v 9) (.call 37 (.cons (.var 7) (.cons (.var 8) (.cons (.bin .add (.int 1) (.bin .mod (.call 25 (.cons (.var 7) (.cons (.int 50) .nil))) (.idx (.lst (.cons (.int 2) (.cons (.int 3) .nil))) (.bi .int (.cons (.cmp .eq (.var 7) (.var 6)) .nil))))) .nil)))))
    (.cons (.own 10 (.call 5 (.cons (.var 5) (.cons (.var 9) .nil))))
    (.cons (.asg (.v 11) (.call 36 (.cons (.var 2) (.cons (.bi .len (.cons (.var 3) .nil)) (.cons (.var 10) .nil)))))
    (.cons (.asg (.v 12) (.int 1))
    (.cons (.for_ (.v 13) (.range1 (.bin .sub (.bm .count (.var 9) (.cons (.str "?") .nil)) (.int 1))) [] b42_0)
    b42_6))))))
def b42 : PD.Ss := (.cons (.asg (.v 1) (.call 30 (.cons (.call 23 (.cons (.var 0) (.cons (.int 0) .nil))) .nil)))
    (.cons (.asg (.t [2, 3, 4]) (.var 1))
    (.cons (.asg (.v 5) (.make 15 (.cons (.var 2) (.cons (.mklist (.var 3)) (.cons (.var 4) .nil)))))
    (.cons (.asg (.v 6) (.call 23 (.cons (.var 0) (.cons (.int 7) .nil))))
    (.cons (.for_ (.v 7) (.seq (.bin .add (.lst (.cons (.int 0) .nil)) (.slc (.var 0) (.int 1) (.int 8)))) [10] b42_7)
    (.cons (.ret (.bl true))
    .nil))))))
def f42 : PD.Fn := ⟨18, 1, b42, false, .fn⟩
def fnT : Nat → Option PD.Fn
  | 0 => some f0
  | 1 => some f1
  | 2 => some f2
  | 3 => some f3
  | 4 => some f4
  | 5 => some f5
  | 6 => some f6
  | 7 => some f7
  | 8 => some f8
  | 9 => some f9
  | 10 => some f10
  | 11 => some f11
  | 12 => some f12
  | 13 => some f13
  | 14 => some f14
  | 15 => some f15
  | 16 => some f16
  | 17 => some f17
  | 18 => some f18
  | 19 => some f19
  | 20 => some f20
  | 21 => some f21
  | 22 => some f22
  | 23 => some f23
  | 24 => some f24
  | 25 => some f25
  | 26 => some f26
  | 27 => some f27
  | 28 => some f28
  | 29 => some f29
  | 30 => some f30
  | 31 => some f31
  | 32 => some f32
  | 33 => some f33
  | 34 => some f34
  | 35 => some f35
  | 36 => some f36
  | 37 => some f37
  | 38 => some f38
  | 39 => some f39
  | 40 => some f40
  | 41 => some f41
  | 42 => some f42
  | _ => none
def gcT : Nat → PD.D
  | 0 => .str "abcdefghijklmnopqrstuvwxyz"
  | _ => .non
end K09

namespace K09
open PySem L2 PD
/-- all below m -/
def Lt (ws : List Int) (m : Int) : Prop := ∀ w ∈ ws, 0 ≤ w ∧ w < m
theorem Lt.nil {m : Int} : Lt [] m := fun w h => by simp at h
theorem Lt.snoc {ws : List Int} {m w : Int} (h : Lt ws m) (h0 : 0 ≤ w) (h1 : w < m) : Lt (ws ++ [w]) m := fun v hv => by
  rcases List.mem_append.mp hv with q | q
  · exact h v q
  · simp at q; subst q; exact ⟨h0, h1⟩
theorem gcd_step {a b : Int} : Int.gcd b (a % b) = Int.gcd a b := by
  rw [Int.gcd_comm b, Int.emod_def, Int.sub_eq_add_neg]
  rw [show a + -(b * (a / b)) = a + b * (-(a / b)) by rw [Int.mul_neg]]
  simp [Int.gcd_add_mul_right_left, Int.gcd_add_mul_left_left]
theorem s_cell_at {n : Nat} {ns : List Int} {i : Nat} {k z} (h : k (.v (.int (ns[i]?.getD 0)))) : wpF fnT gcT (n+1) 23 [.scr ns, .int i] k z := by
  unfold wpF
  simp only [f23, b23, fnT, startE, List.length_cons, List.length_nil, List.map_cons, List.map_nil, List.cons_append, List.nil_append, Nat.sub_self, Nat.reduceSub, Nat.reduceAdd, Nat.reduceLT, List.replicate_zero, List.reduceReplicate, List.replicate_succ, wpSs, wpS, wpE, wpEs, wpT, wpI, wpC, List.getElem?_cons_zero, List.getElem?_cons_succ, List.getElem?_nil, den, dens, back, true_and, and_true, nrmE, nrmT, frzSlots, cutV1, frzT, frzL, eq_ii, eq_bb, eq_ss, eq_nn, D.isNon, o_add, o_adds, o_addl, o_sub, o_addt, n_split, n_find, o_mul, o_rep, o_div, o_mod, o_pow, c_lt, c_le, c_gt, c_ge, c_lts, c_eq, c_ne, c_is, c_isnot, c_in, c_notin, t_bl, t_non, t_int, t_lst, t_tup, x_lst, x_tup, x_scr, x_str, u_lst, u_scr, u_str, b_lenl, b_lent, b_lenc, b_lens, b_abs, b_max2, b_min2, b_int, b_inb, b_tup, b_dm, b_srtk, i_lst, i_tup, i_scr, is_n, is_b, exists_eq_left', exists_eq_left, exists_eq_right, Option.some.injEq,  partD, setS, setAll, tgD, tgSlots, wipeE, List.set_cons_zero, List.set_cons_succ, List.set_nil, List.take_nil, List.take_zero, m_f, m_t, r_int, r_bl, r_str, r_non, r_tup, r_lstf, r_lstt, r_v, r_newf, r_newt, List.any_cons, List.any_nil, owned, Bool.or_false, Bool.false_or, fl_bl, fl_int, fl_str, fl_non, fl_rs, exists_eq', Ct.lst.injEq, Ct.ob.injEq, D.kst.injEq, List.take_succ_cons, dat_lst, dat_ob, dat_fz, Option.some.injEq, SV.d.injEq, D.int.injEq, forall_eq', reduceCtorEq, false_implies, forall_const, Bool.false_eq_true, List.set, true_or, if_true, if_false, Bool.not_true, Bool.not_false]
  refine ⟨fun h0 => ?_, fun h0 => ?_⟩
  · have hi : i < ns.length := by simp at h0; omega
    refine ⟨ns[i], getl (List.getElem?_eq_getElem hi), ?_⟩
    rw [List.getElem?_eq_getElem hi] at h
    exact h
  · have hi : ns.length ≤ i := by simp at h0; omega
    rw [List.getElem?_eq_none hi] at h
    exact h
theorem s_long {n : Nat} {c j : Int} {k z} (j0 : 0 ≤ j) (j1 : j ≤ 1000) (h : ∀ i : Int, k (.v (.int i))) : wpF fnT gcT (n+1) 24 [.int c, .int j] k z := by
  have sm : ∀ {a b : Int}, -(2 ^ 64) < b → b < 2 ^ 64 → mulOk a b := fun h1 h2 => .inl (.inr ⟨h1, h2⟩)
  have sl : ∀ {a b : Int}, -(2 ^ 64) < a → a < 2 ^ 64 → mulOk a b := fun h1 h2 => .inl (.inl ⟨h1, h2⟩)
  unfold wpF
  simp only [f24, b24, fnT, startE, List.length_cons, List.length_nil, List.map_cons, List.map_nil, List.cons_append, List.nil_append, Nat.sub_self, Nat.reduceSub, Nat.reduceAdd, Nat.reduceLT, List.replicate_zero, List.reduceReplicate, List.replicate_succ, wpSs, wpS, wpE, wpEs, wpT, wpI, wpC, List.getElem?_cons_zero, List.getElem?_cons_succ, List.getElem?_nil, den, dens, back, true_and, and_true, nrmE, nrmT, frzSlots, cutV1, frzT, frzL, eq_ii, eq_bb, eq_ss, eq_nn, D.isNon, o_add, o_adds, o_addl, o_sub, o_addt, n_split, n_find, o_mul, o_rep, o_div, o_mod, o_pow, c_lt, c_le, c_gt, c_ge, c_lts, c_eq, c_ne, c_is, c_isnot, c_in, c_notin, t_bl, t_non, t_int, t_lst, t_tup, x_lst, x_tup, x_scr, x_str, u_lst, u_scr, u_str, b_lenl, b_lent, b_lenc, b_lens, b_abs, b_max2, b_min2, b_int, b_inb, b_tup, b_dm, b_srtk, i_lst, i_tup, i_scr, is_n, is_b, exists_eq_left', exists_eq_left, exists_eq_right, Option.some.injEq,  partD, setS, setAll, tgD, tgSlots, wipeE, List.set_cons_zero, List.set_cons_succ, List.set_nil, List.take_nil, List.take_zero, m_f, m_t, r_int, r_bl, r_str, r_non, r_tup, r_lstf, r_lstt, r_v, r_newf, r_newt, List.any_cons, List.any_nil, owned, Bool.or_false, Bool.false_or, fl_bl, fl_int, fl_str, fl_non, fl_rs, exists_eq', Ct.lst.injEq, Ct.ob.injEq, D.kst.injEq, List.take_succ_cons, dat_lst, dat_ob, dat_fz, Option.some.injEq, SV.d.injEq, D.int.injEq, forall_eq', reduceCtorEq, false_implies, forall_const, Bool.false_eq_true, List.set, true_or, if_true, if_false, Bool.not_true, Bool.not_false]
  refine ⟨by omega, by omega, fun i e l => l = [] ∧ ∃ rest ahead x4, e = [some (.d (.int c)), some (.d (.int j)), some (.d (.int rest)), some (.d (.int ahead)), x4, none] ∧ 0 ≤ ahead ∧ ahead < 2147483647, ⟨rfl, c, 7, none, rfl, by decide, by decide⟩, ?_, ?_⟩
  · rintro i x e l hx ⟨rfl, rest, ahead, x4, rfl, a0, a1⟩
    obtain ⟨hi, rfl⟩ := rng_it hx
    simp only [b24_0, fnT, startE, List.length_cons, List.length_nil, List.map_cons, List.map_nil, List.cons_append, List.nil_append, Nat.sub_self, Nat.reduceSub, Nat.reduceAdd, Nat.reduceLT, List.replicate_zero, List.reduceReplicate, List.replicate_succ, wpSs, wpS, wpE, wpEs, wpT, wpI, wpC, List.getElem?_cons_zero, List.getElem?_cons_succ, List.getElem?_nil, den, dens, back, true_and, and_true, nrmE, nrmT, frzSlots, cutV1, frzT, frzL, eq_ii, eq_bb, eq_ss, eq_nn, D.isNon, o_add, o_adds, o_addl, o_sub, o_addt, n_split, n_find, o_mul, o_rep, o_div, o_mod, o_pow, c_lt, c_le, c_gt, c_ge, c_lts, c_eq, c_ne, c_is, c_isnot, c_in, c_notin, t_bl, t_non, t_int, t_lst, t_tup, x_lst, x_tup, x_scr, x_str, u_lst, u_scr, u_str, b_lenl, b_lent, b_lenc, b_lens, b_abs, b_max2, b_min2, b_int, b_inb, b_tup, b_dm, b_srtk, i_lst, i_tup, i_scr, is_n, is_b, exists_eq_left', exists_eq_left, exists_eq_right, Option.some.injEq,  partD, setS, setAll, tgD, tgSlots, wipeE, List.set_cons_zero, List.set_cons_succ, List.set_nil, List.take_nil, List.take_zero, m_f, m_t, r_int, r_bl, r_str, r_non, r_tup, r_lstf, r_lstt, r_v, r_newf, r_newt, List.any_cons, List.any_nil, owned, Bool.or_false, Bool.false_or, fl_bl, fl_int, fl_str, fl_non, fl_rs, exists_eq', Ct.lst.injEq, Ct.ob.injEq, D.kst.injEq, List.take_succ_cons, dat_lst, dat_ob, dat_fz, Option.some.injEq, SV.d.injEq, D.int.injEq, forall_eq', reduceCtorEq, false_implies, forall_const, Bool.false_eq_true, List.set, true_or, if_true, if_false, Bool.not_true, Bool.not_false]
    refine ⟨sm (by decide) (by decide), by decide, by decide, divOk_of (by decide) (by decide), _, _, _, rfl, Int.emod_nonneg _ (by decide), Int.emod_lt_of_pos _ (by decide)⟩
  · rintro e l ⟨rfl, rest, ahead, x4, rfl, a0, a1⟩
    simp only [fnT, startE, List.length_cons, List.length_nil, List.map_cons, List.map_nil, List.cons_append, List.nil_append, Nat.sub_self, Nat.reduceSub, Nat.reduceAdd, Nat.reduceLT, List.replicate_zero, List.reduceReplicate, List.replicate_succ, wpSs, wpS, wpE, wpEs, wpT, wpI, wpC, List.getElem?_cons_zero, List.getElem?_cons_succ, List.getElem?_nil, den, dens, back, true_and, and_true, nrmE, nrmT, frzSlots, cutV1, frzT, frzL, eq_ii, eq_bb, eq_ss, eq_nn, D.isNon, o_add, o_adds, o_addl, o_sub, o_addt, n_split, n_find, o_mul, o_rep, o_div, o_mod, o_pow, c_lt, c_le, c_gt, c_ge, c_lts, c_eq, c_ne, c_is, c_isnot, c_in, c_notin, t_bl, t_non, t_int, t_lst, t_tup, x_lst, x_tup, x_scr, x_str, u_lst, u_scr, u_str, b_lenl, b_lent, b_lenc, b_lens, b_abs, b_max2, b_min2, b_int, b_inb, b_tup, b_dm, b_srtk, i_lst, i_tup, i_scr, is_n, is_b, exists_eq_left', exists_eq_left, exists_eq_right, Option.some.injEq,  partD, setS, setAll, tgD, tgSlots, wipeE, List.set_cons_zero, List.set_cons_succ, List.set_nil, List.take_nil, List.take_zero, m_f, m_t, r_int, r_bl, r_str, r_non, r_tup, r_lstf, r_lstt, r_v, r_newf, r_newt, List.any_cons, List.any_nil, owned, Bool.or_false, Bool.false_or, fl_bl, fl_int, fl_str, fl_non, fl_rs, exists_eq', Ct.lst.injEq, Ct.ob.injEq, D.kst.injEq, List.take_succ_cons, dat_lst, dat_ob, dat_fz, Option.some.injEq, SV.d.injEq, D.int.injEq, forall_eq', reduceCtorEq, false_implies, forall_const, Bool.false_eq_true, List.set, true_or, if_true, if_false, Bool.not_true, Bool.not_false]
    refine ⟨sm (by decide) (by decide), sm (by omega) (by omega), sl (by decide) (by decide), by decide, divOk_of (by decide) (by decide), cpow_of (by decide) (by decide) (by omega), sl (by decide) (by decide), h _⟩
theorem s_mixed {n : Nat} {c j : Int} {k z} (j0 : 0 ≤ j) (j1 : j ≤ 1000) (h : ∀ i : Int, 0 ≤ i → i < 2147483629 → k (.v (.int i))) : wpF fnT gcT (n+2) 25 [.int c, .int j] k z := by
  unfold wpF
  simp only [f25, b25, fnT, startE, List.length_cons, List.length_nil, List.map_cons, List.map_nil, List.cons_append, List.nil_append, Nat.sub_self, Nat.reduceSub, Nat.reduceAdd, Nat.reduceLT, List.replicate_zero, List.reduceReplicate, List.replicate_succ, wpSs, wpS, wpE, wpEs, wpT, wpI, wpC, List.getElem?_cons_zero, List.getElem?_cons_succ, List.getElem?_nil, den, dens, back, true_and, and_true, nrmE, nrmT, frzSlots, cutV1, frzT, frzL, eq_ii, eq_bb, eq_ss, eq_nn, D.isNon, o_add, o_adds, o_addl, o_sub, o_addt, n_split, n_find, o_mul, o_rep, o_div, o_mod, o_pow, c_lt, c_le, c_gt, c_ge, c_lts, c_eq, c_ne, c_is, c_isnot, c_in, c_notin, t_bl, t_non, t_int, t_lst, t_tup, x_lst, x_tup, x_scr, x_str, u_lst, u_scr, u_str, b_lenl, b_lent, b_lenc, b_lens, b_abs, b_max2, b_min2, b_int, b_inb, b_tup, b_dm, b_srtk, i_lst, i_tup, i_scr, is_n, is_b, exists_eq_left', exists_eq_left, exists_eq_right, Option.some.injEq,  partD, setS, setAll, tgD, tgSlots, wipeE, List.set_cons_zero, List.set_cons_succ, List.set_nil, List.take_nil, List.take_zero, m_f, m_t, r_int, r_bl, r_str, r_non, r_tup, r_lstf, r_lstt, r_v, r_newf, r_newt, List.any_cons, List.any_nil, owned, Bool.or_false, Bool.false_or, fl_bl, fl_int, fl_str, fl_non, fl_rs, exists_eq', Ct.lst.injEq, Ct.ob.injEq, D.kst.injEq, List.take_succ_cons, dat_lst, dat_ob, dat_fz, Option.some.injEq, SV.d.injEq, D.int.injEq, forall_eq', reduceCtorEq, false_implies, forall_const, Bool.false_eq_true, List.set, true_or, if_true, if_false, Bool.not_true, Bool.not_false]
  refine s_long j0 j1 fun i => ?_
  simp only [fnT, startE, List.length_cons, List.length_nil, List.map_cons, List.map_nil, List.cons_append, List.nil_append, Nat.sub_self, Nat.reduceSub, Nat.reduceAdd, Nat.reduceLT, List.replicate_zero, List.reduceReplicate, List.replicate_succ, wpSs, wpS, wpE, wpEs, wpT, wpI, wpC, List.getElem?_cons_zero, List.getElem?_cons_succ, List.getElem?_nil, den, dens, back, true_and, and_true, nrmE, nrmT, frzSlots, cutV1, frzT, frzL, eq_ii, eq_bb, eq_ss, eq_nn, D.isNon, o_add, o_adds, o_addl, o_sub, o_addt, n_split, n_find, o_mul, o_rep, o_div, o_mod, o_pow, c_lt, c_le, c_gt, c_ge, c_lts, c_eq, c_ne, c_is, c_isnot, c_in, c_notin, t_bl, t_non, t_int, t_lst, t_tup, x_lst, x_tup, x_scr, x_str, u_lst, u_scr, u_str, b_lenl, b_lent, b_lenc, b_lens, b_abs, b_max2, b_min2, b_int, b_inb, b_tup, b_dm, b_srtk, i_lst, i_tup, i_scr, is_n, is_b, exists_eq_left', exists_eq_left, exists_eq_right, Option.some.injEq,  partD, setS, setAll, tgD, tgSlots, wipeE, List.set_cons_zero, List.set_cons_succ, List.set_nil, List.take_nil, List.take_zero, m_f, m_t, r_int, r_bl, r_str, r_non, r_tup, r_lstf, r_lstt, r_v, r_newf, r_newt, List.any_cons, List.any_nil, owned, Bool.or_false, Bool.false_or, fl_bl, fl_int, fl_str, fl_non, fl_rs, exists_eq', Ct.lst.injEq, Ct.ob.injEq, D.kst.injEq, List.take_succ_cons, dat_lst, dat_ob, dat_fz, Option.some.injEq, SV.d.injEq, D.int.injEq, forall_eq', reduceCtorEq, false_implies, forall_const, Bool.false_eq_true, List.set, true_or, if_true, if_false, Bool.not_true, Bool.not_false]
  exact ⟨by decide, h _ (Int.emod_nonneg _ (by decide)) (Int.emod_lt_of_pos _ (by decide))⟩
def az : List Nat := (List.range 26).map (97 + ·)
abbrev chL (cs : List Nat) : List D := cs.map fun c => D.str ⟨#[c]⟩
theorem az_nd : az.Nodup := by decide
theorem az_in {c : Nat} : c ∈ az ↔ 97 ≤ c ∧ c < 123 := by
  unfold az
  rw [List.mem_map]
  constructor
  · rintro ⟨i, hi, rfl⟩
    have := List.mem_range.mp hi
    omega
  · intro h
    exact ⟨c - 97, List.mem_range.mpr (by omega), by omega⟩
theorem erase_perm {y : Nat} : ∀ {l : List Nat} {i : Nat}, l[i]? = some y → (y :: l.eraseIdx i).Perm l
  | [], _, h => by simp at h
  | x :: l, 0, h => by cases h; exact List.Perm.refl _
  | x :: l, i + 1, h => by
    have ih := erase_perm (l := l) (i := i) h
    show (y :: x :: l.eraseIdx i).Perm (x :: l)
    exact (List.Perm.swap x y _).trans (ih.cons x)
theorem erase_map {α β : Type} (f : α → β) : ∀ (l : List α) (i : Nat), (l.map f).eraseIdx i = (l.eraseIdx i).map f
  | [], _ => by simp
  | x :: l, 0 => rfl
  | x :: l, i + 1 => by
    show f x :: (l.map f).eraseIdx i = f x :: (l.eraseIdx i).map f
    rw [erase_map f l i]
theorem s_alphabet {n : Nat} {c m : Int} {k z} (m0 : 0 ≤ m) (m26 : m ≤ 26) (h : ∀ cs : List Nat, cs.Nodup → (cs.length : Int) = m → (∀ x ∈ cs, 97 ≤ x ∧ x < 123) → k (.v (.str (sL cs)))) : wpF fnT gcT (n+3) 27 [.int c, .int m] k z := by
  unfold wpF
  simp only [f27, b27, fnT, startE, List.length_cons, List.length_nil, List.map_cons, List.map_nil, List.cons_append, List.nil_append, Nat.sub_self, Nat.reduceSub, Nat.reduceAdd, Nat.reduceLT, List.replicate_zero, List.reduceReplicate, List.replicate_succ, wpSs, wpS, wpE, wpEs, wpT, wpI, wpC, List.getElem?_cons_zero, List.getElem?_cons_succ, List.getElem?_nil, den, dens, back, true_and, and_true, nrmE, nrmT, frzSlots, cutV1, frzT, frzL, eq_ii, eq_bb, eq_ss, eq_nn, D.isNon, o_add, o_adds, o_addl, o_sub, o_addt, n_split, n_find, o_mul, o_rep, o_div, o_mod, o_pow, c_lt, c_le, c_gt, c_ge, c_lts, c_eq, c_ne, c_is, c_isnot, c_in, c_notin, t_bl, t_non, t_int, t_lst, t_tup, x_lst, x_tup, x_scr, x_str, u_lst, u_scr, u_str, b_lenl, b_lent, b_lenc, b_lens, b_abs, b_max2, b_min2, b_int, b_inb, b_tup, b_dm, b_srtk, i_lst, i_tup, i_scr, is_n, is_b, exists_eq_left', exists_eq_left, exists_eq_right, Option.some.injEq,  partD, setS, setAll, tgD, tgSlots, wipeE, List.set_cons_zero, List.set_cons_succ, List.set_nil, List.take_nil, List.take_zero, m_f, m_t, r_int, r_bl, r_str, r_non, r_tup, r_lstf, r_lstt, r_v, r_newf, r_newt, List.any_cons, List.any_nil, owned, Bool.or_false, Bool.false_or, fl_bl, fl_int, fl_str, fl_non, fl_rs, exists_eq', Ct.lst.injEq, Ct.ob.injEq, D.kst.injEq, List.take_succ_cons, dat_lst, dat_ob, dat_fz, Option.some.injEq, SV.d.injEq, D.int.injEq, forall_eq', reduceCtorEq, false_implies, forall_const, Bool.false_eq_true, List.set, true_or, if_true, if_false, Bool.not_true, Bool.not_false]
  refine ⟨sizeLine_big (by decide), by omega, by omega, fun i acc T => ∃ left used : List Nat, T = [.lst (chL left)] ∧ acc = chL used ∧ (used ++ left).Perm az ∧ used.length = i, ?_, ?_, ?_⟩
  · refine ⟨az, [], ?_, rfl, List.Perm.refl _, rfl⟩
    rw [az_str, list_sL]; rfl
  · rintro i x acc T hx hT ⟨left, used, rfl, rfl, hp, hu⟩
    obtain ⟨hi, rfl⟩ := rng_it hx
    have hl : left.length + i = 26 := by
      have := hp.length_eq
      rw [List.length_append, hu] at this
      have e : az.length = 26 := rfl
      omega
    simp only [b27_0, fnT, startE, List.length_cons, List.length_nil, List.map_cons, List.map_nil, List.cons_append, List.nil_append, Nat.sub_self, Nat.reduceSub, Nat.reduceAdd, Nat.reduceLT, List.replicate_zero, List.reduceReplicate, List.replicate_succ, wpSs, wpS, wpE, wpEs, wpT, wpI, wpC, List.getElem?_cons_zero, List.getElem?_cons_succ, List.getElem?_nil, den, dens, back, true_and, and_true, nrmE, nrmT, frzSlots, cutV1, frzT, frzL, eq_ii, eq_bb, eq_ss, eq_nn, D.isNon, o_add, o_adds, o_addl, o_sub, o_addt, n_split, n_find, o_mul, o_rep, o_div, o_mod, o_pow, c_lt, c_le, c_gt, c_ge, c_lts, c_eq, c_ne, c_is, c_isnot, c_in, c_notin, t_bl, t_non, t_int, t_lst, t_tup, x_lst, x_tup, x_scr, x_str, u_lst, u_scr, u_str, b_lenl, b_lent, b_lenc, b_lens, b_abs, b_max2, b_min2, b_int, b_inb, b_tup, b_dm, b_srtk, i_lst, i_tup, i_scr, is_n, is_b, exists_eq_left', exists_eq_left, exists_eq_right, Option.some.injEq,  partD, setS, setAll, tgD, tgSlots, wipeE, List.set_cons_zero, List.set_cons_succ, List.set_nil, List.take_nil, List.take_zero, m_f, m_t, r_int, r_bl, r_str, r_non, r_tup, r_lstf, r_lstt, r_v, r_newf, r_newt, List.any_cons, List.any_nil, owned, Bool.or_false, Bool.false_or, fl_bl, fl_int, fl_str, fl_non, fl_rs, exists_eq', Ct.lst.injEq, Ct.ob.injEq, D.kst.injEq, List.take_succ_cons, dat_lst, dat_ob, dat_fz, Option.some.injEq, SV.d.injEq, D.int.injEq, forall_eq', reduceCtorEq, false_implies, forall_const, Bool.false_eq_true, List.set, true_or, if_true, if_false, Bool.not_true, Bool.not_false]
    refine s_mixed (by omega) (by omega) fun v v0 v1 => ?_
    simp only [List.length_map, fnT, startE, List.length_cons, List.length_nil, List.map_cons, List.map_nil, List.cons_append, List.nil_append, Nat.sub_self, Nat.reduceSub, Nat.reduceAdd, Nat.reduceLT, List.replicate_zero, List.reduceReplicate, List.replicate_succ, wpSs, wpS, wpE, wpEs, wpT, wpI, wpC, List.getElem?_cons_zero, List.getElem?_cons_succ, List.getElem?_nil, den, dens, back, true_and, and_true, nrmE, nrmT, frzSlots, cutV1, frzT, frzL, eq_ii, eq_bb, eq_ss, eq_nn, D.isNon, o_add, o_adds, o_addl, o_sub, o_addt, n_split, n_find, o_mul, o_rep, o_div, o_mod, o_pow, c_lt, c_le, c_gt, c_ge, c_lts, c_eq, c_ne, c_is, c_isnot, c_in, c_notin, t_bl, t_non, t_int, t_lst, t_tup, x_lst, x_tup, x_scr, x_str, u_lst, u_scr, u_str, b_lenl, b_lent, b_lenc, b_lens, b_abs, b_max2, b_min2, b_int, b_inb, b_tup, b_dm, b_srtk, i_lst, i_tup, i_scr, is_n, is_b, exists_eq_left', exists_eq_left, exists_eq_right, Option.some.injEq,  partD, setS, setAll, tgD, tgSlots, wipeE, List.set_cons_zero, List.set_cons_succ, List.set_nil, List.take_nil, List.take_zero, m_f, m_t, r_int, r_bl, r_str, r_non, r_tup, r_lstf, r_lstt, r_v, r_newf, r_newt, List.any_cons, List.any_nil, owned, Bool.or_false, Bool.false_or, fl_bl, fl_int, fl_str, fl_non, fl_rs, exists_eq', Ct.lst.injEq, Ct.ob.injEq, D.kst.injEq, List.take_succ_cons, dat_lst, dat_ob, dat_fz, Option.some.injEq, SV.d.injEq, D.int.injEq, forall_eq', reduceCtorEq, false_implies, forall_const, Bool.false_eq_true, List.set, true_or, if_true, if_false, Bool.not_true, Bool.not_false]
    have lp : (0 : Int) < left.length := by omega
    have t0 := Int.emod_nonneg v (Int.ne_of_gt lp)
    have t1 := Int.emod_lt_of_pos v lp
    refine ⟨lp, ?_⟩
    generalize v % (left.length : Int) = t at *
    have ht : t.toNat < left.length := by omega
    have hy : left[t.toNat]? = some left[t.toNat] := List.getElem?_eq_getElem ht
    generalize left[t.toNat] = y at hy
    have pe := erase_perm hy
    refine ⟨_, .str ⟨#[y]⟩, rfl, t0, by omega, by rw [List.getElem?_map, hy]; rfl, sizeLine_lt (by omega), Nat.le_refl _, left.eraseIdx t.toNat, used ++ [y], ?_, by simp [chL], ?_, by simp [hu]⟩
    · show [Ct.lst ((chL left).eraseIdx t.toNat)] = _
      rw [chL, erase_map]
    · rw [List.append_assoc]
      exact (List.Perm.append_left used pe).trans hp
  · rintro acc T hT ⟨left, used, rfl, rfl, hp, hu⟩
    rw [rng_len] at hu
    have hm : (used.length : Int) = m := by omega
    refine ⟨used.map ch, by simp [chL], ?_, ?_⟩
    · have e : ((used.map ch).map (·.length)).sum = used.length := by
        rw [List.map_map]
        have e3 : ((fun x : Str => x.length) ∘ ch) = fun _ => 1 := rfl
        rw [e3, List.map_const', List.sum_replicate_nat]
        simp
      rw [e, empty_str]
      show used.length + (used.map ch).length * 0 ≤ _
      omega
    · rw [empty_str, join_chs]
      have nd := (hp.nodup_iff).mpr az_nd
      exact h used (List.nodup_append.mp nd).1 hm fun x hx => az_in.mp (hp.mem_iff.mp (List.mem_append_left _ hx))
end K09

namespace K09
open PySem L2 PD
def dot (ws ps : List Int) : Int := ((ws.zip ps).map fun p => p.1 * p.2).sum
theorem mul_lt {ws : List Int} {m w v : Int} (hm : m ≤ 26) (h : 0 ≤ w ∧ w < m) (h' : 0 ≤ v ∧ v < m) : mulOk w v := mul_of 10 10 (by omega) (by omega) (by decide)
theorem s_sumof {n : Nat} {ws ps : List Int} {m : Int} {k z} (hm : m ≤ 26) (h1 : Lt ws m) (h2 : Lt ps m) (hl : ws.length ≤ 1000) (h : k (.v (.int (dot ws ps)))) : wpF fnT gcT (n+1) 10 [.lst (iL ws), .lst (iL ps)] k z := by
  unfold wpF
  simp only [f10, b10, fnT, startE, List.length_cons, List.length_nil, List.map_cons, List.map_nil, List.cons_append, List.nil_append, Nat.sub_self, Nat.reduceSub, Nat.reduceAdd, Nat.reduceLT, List.replicate_zero, List.reduceReplicate, List.replicate_succ, wpSs, wpS, wpE, wpEs, wpT, wpI, wpC, List.getElem?_cons_zero, List.getElem?_cons_succ, List.getElem?_nil, den, dens, back, true_and, and_true, nrmE, nrmT, frzSlots, cutV1, frzT, frzL, eq_ii, eq_bb, eq_ss, eq_nn, D.isNon, o_add, o_adds, o_addl, o_sub, o_addt, n_split, n_find, o_mul, o_rep, o_div, o_mod, o_pow, c_lt, c_le, c_gt, c_ge, c_lts, c_eq, c_ne, c_is, c_isnot, c_in, c_notin, t_bl, t_non, t_int, t_lst, t_tup, x_lst, x_tup, x_scr, x_str, u_lst, u_scr, u_str, b_lenl, b_lent, b_lenc, b_lens, b_abs, b_max2, b_min2, b_int, b_inb, b_tup, b_dm, b_srtk, i_lst, i_tup, i_scr, is_n, is_b, exists_eq_left', exists_eq_left, exists_eq_right, Option.some.injEq,  partD, setS, setAll, tgD, tgSlots, wipeE, List.set_cons_zero, List.set_cons_succ, List.set_nil, List.take_nil, List.take_zero, m_f, m_t, r_int, r_bl, r_str, r_non, r_tup, r_lstf, r_lstt, r_v, r_newf, r_newt, List.any_cons, List.any_nil, owned, Bool.or_false, Bool.false_or, fl_bl, fl_int, fl_str, fl_non, fl_rs, exists_eq', Ct.lst.injEq, Ct.ob.injEq, D.kst.injEq, List.take_succ_cons, dat_lst, dat_ob, dat_fz, Option.some.injEq, SV.d.injEq, D.int.injEq, forall_eq', reduceCtorEq, false_implies, forall_const, Bool.false_eq_true, List.set, true_or, if_true, if_false, Bool.not_true, Bool.not_false]
  refine ⟨fun i acc => acc = iL (((ws.zip ps).take i).map fun p => p.1 * p.2), rfl, ?_, ?_⟩
  · rintro i x acc hx rfl
    have hx2 : ∃ w v, ws[i]? = some w ∧ ps[i]? = some v ∧ x = .tup [.int w, .int v] := by
      simp only [List.getElem?_map, Option.map_eq_some_iff] at hx
      obtain ⟨⟨a, b⟩, e, rfl⟩ := hx
      rw [List.getElem?_zip_eq_some] at e
      simp only [List.getElem?_map, Option.map_eq_some_iff] at e
      obtain ⟨⟨w, e1, rfl⟩, ⟨v, e2, rfl⟩⟩ := e
      exact ⟨w, v, e1, e2, rfl⟩
    obtain ⟨w, v, e1, e2, rfl⟩ := hx2
    have hi := (List.getElem?_eq_some_iff.mp e1).1
    simp only [b10_0, fnT, startE, List.length_cons, List.length_nil, List.map_cons, List.map_nil, List.cons_append, List.nil_append, Nat.sub_self, Nat.reduceSub, Nat.reduceAdd, Nat.reduceLT, List.replicate_zero, List.reduceReplicate, List.replicate_succ, wpSs, wpS, wpE, wpEs, wpT, wpI, wpC, List.getElem?_cons_zero, List.getElem?_cons_succ, List.getElem?_nil, den, dens, back, true_and, and_true, nrmE, nrmT, frzSlots, cutV1, frzT, frzL, eq_ii, eq_bb, eq_ss, eq_nn, D.isNon, o_add, o_adds, o_addl, o_sub, o_addt, n_split, n_find, o_mul, o_rep, o_div, o_mod, o_pow, c_lt, c_le, c_gt, c_ge, c_lts, c_eq, c_ne, c_is, c_isnot, c_in, c_notin, t_bl, t_non, t_int, t_lst, t_tup, x_lst, x_tup, x_scr, x_str, u_lst, u_scr, u_str, b_lenl, b_lent, b_lenc, b_lens, b_abs, b_max2, b_min2, b_int, b_inb, b_tup, b_dm, b_srtk, i_lst, i_tup, i_scr, is_n, is_b, exists_eq_left', exists_eq_left, exists_eq_right, Option.some.injEq,  partD, setS, setAll, tgD, tgSlots, wipeE, List.set_cons_zero, List.set_cons_succ, List.set_nil, List.take_nil, List.take_zero, m_f, m_t, r_int, r_bl, r_str, r_non, r_tup, r_lstf, r_lstt, r_v, r_newf, r_newt, List.any_cons, List.any_nil, owned, Bool.or_false, Bool.false_or, fl_bl, fl_int, fl_str, fl_non, fl_rs, exists_eq', Ct.lst.injEq, Ct.ob.injEq, D.kst.injEq, List.take_succ_cons, dat_lst, dat_ob, dat_fz, Option.some.injEq, SV.d.injEq, D.int.injEq, forall_eq', reduceCtorEq, false_implies, forall_const, Bool.false_eq_true, List.set, true_or, if_true, if_false, Bool.not_true, Bool.not_false]
    refine ⟨mul_lt (ws := ws) hm (h1 w (List.mem_of_getElem? e1)) (h2 v (List.mem_of_getElem? e2)), sizeLine_lt (by simp; omega), ?_⟩
    have ez : (ws.zip ps)[i]? = some (w, v) := by rw [List.getElem?_zip_eq_some]; exact ⟨e1, e2⟩
    rw [List.take_add_one, ez, app_ints]
    simp
  · rintro acc rfl
    have e : ((iL ws).zip (iL ps)).length = (ws.zip ps).length := by simp
    rw [List.length_map, show ((ws.map D.int).zip (ps.map D.int)).length = (ws.zip ps).length by simp]
    refine ⟨_, rfl, ?_⟩
    simp only [fnT, startE, List.length_cons, List.length_nil, List.map_cons, List.map_nil, List.cons_append, List.nil_append, Nat.sub_self, Nat.reduceSub, Nat.reduceAdd, Nat.reduceLT, List.replicate_zero, List.reduceReplicate, List.replicate_succ, wpSs, wpS, wpE, wpEs, wpT, wpI, wpC, List.getElem?_cons_zero, List.getElem?_cons_succ, List.getElem?_nil, den, dens, back, true_and, and_true, nrmE, nrmT, frzSlots, cutV1, frzT, frzL, eq_ii, eq_bb, eq_ss, eq_nn, D.isNon, o_add, o_adds, o_addl, o_sub, o_addt, n_split, n_find, o_mul, o_rep, o_div, o_mod, o_pow, c_lt, c_le, c_gt, c_ge, c_lts, c_eq, c_ne, c_is, c_isnot, c_in, c_notin, t_bl, t_non, t_int, t_lst, t_tup, x_lst, x_tup, x_scr, x_str, u_lst, u_scr, u_str, b_lenl, b_lent, b_lenc, b_lens, b_abs, b_max2, b_min2, b_int, b_inb, b_tup, b_dm, b_srtk, i_lst, i_tup, i_scr, is_n, is_b, exists_eq_left', exists_eq_left, exists_eq_right, Option.some.injEq,  partD, setS, setAll, tgD, tgSlots, wipeE, List.set_cons_zero, List.set_cons_succ, List.set_nil, List.take_nil, List.take_zero, m_f, m_t, r_int, r_bl, r_str, r_non, r_tup, r_lstf, r_lstt, r_v, r_newf, r_newt, List.any_cons, List.any_nil, owned, Bool.or_false, Bool.false_or, fl_bl, fl_int, fl_str, fl_non, fl_rs, exists_eq', Ct.lst.injEq, Ct.ob.injEq, D.kst.injEq, List.take_succ_cons, dat_lst, dat_ob, dat_fz, Option.some.injEq, SV.d.injEq, D.int.injEq, forall_eq', reduceCtorEq, false_implies, forall_const, Bool.false_eq_true, List.set, true_or, if_true, if_false, Bool.not_true, Bool.not_false]
    rw [List.take_length]
    exact h
/-- the word of places -/
def wrd (cs : List Nat) (ps : List Int) : List Nat := ps.map fun p => cs.getD p.toNat 0
theorem s_is_good {n : Nat} {cs : List Nat} {ws ps : List Int} {rest : Int} {k z} (hc : cs.Nodup) (c3 : 3 ≤ cs.length) (c26 : cs.length ≤ 26) (h1 : Lt ws cs.length) (h2 : Lt ps cs.length) (hl : ws.length ≤ 1000) (hp : ps.length ≤ 1000) (h : k (.v (.bl ((dot ws ps - rest) % (cs.length : Int) == 0)))) :
    wpF fnT gcT (n+2) 11 [.str (sL cs), .lst (iL ws), .int rest, .str (sL (wrd cs ps))] k z := by
  unfold wpF
  simp only [f11, b11, fnT, startE, List.length_cons, List.length_nil, List.map_cons, List.map_nil, List.cons_append, List.nil_append, Nat.sub_self, Nat.reduceSub, Nat.reduceAdd, Nat.reduceLT, List.replicate_zero, List.reduceReplicate, List.replicate_succ, wpSs, wpS, wpE, wpEs, wpT, wpI, wpC, List.getElem?_cons_zero, List.getElem?_cons_succ, List.getElem?_nil, den, dens, back, true_and, and_true, nrmE, nrmT, frzSlots, cutV1, frzT, frzL, eq_ii, eq_bb, eq_ss, eq_nn, D.isNon, o_add, o_adds, o_addl, o_sub, o_addt, n_split, n_find, o_mul, o_rep, o_div, o_mod, o_pow, c_lt, c_le, c_gt, c_ge, c_lts, c_eq, c_ne, c_is, c_isnot, c_in, c_notin, t_bl, t_non, t_int, t_lst, t_tup, x_lst, x_tup, x_scr, x_str, u_lst, u_scr, u_str, b_lenl, b_lent, b_lenc, b_lens, b_abs, b_max2, b_min2, b_int, b_inb, b_tup, b_dm, b_srtk, i_lst, i_tup, i_scr, is_n, is_b, exists_eq_left', exists_eq_left, exists_eq_right, Option.some.injEq,  partD, setS, setAll, tgD, tgSlots, wipeE, List.set_cons_zero, List.set_cons_succ, List.set_nil, List.take_nil, List.take_zero, m_f, m_t, r_int, r_bl, r_str, r_non, r_tup, r_lstf, r_lstt, r_v, r_newf, r_newt, List.any_cons, List.any_nil, owned, Bool.or_false, Bool.false_or, fl_bl, fl_int, fl_str, fl_non, fl_rs, exists_eq', Ct.lst.injEq, Ct.ob.injEq, D.kst.injEq, List.take_succ_cons, dat_lst, dat_ob, dat_fz, Option.some.injEq, SV.d.injEq, D.int.injEq, forall_eq', reduceCtorEq, false_implies, forall_const, Bool.false_eq_true, List.set, true_or, if_true, if_false, Bool.not_true, Bool.not_false]
  refine ⟨fun i acc => acc = iL (ps.take i), rfl, ?_, ?_⟩
  · rintro i x acc hx rfl
    have hx2 : ∃ p, ps[i]? = some p ∧ x = .str (ch (cs.getD p.toNat 0)) := by
      unfold wrd at hx
      simp only [List.getElem?_map, Option.map_eq_some_iff] at hx
      obtain ⟨c, ⟨p, e1, rfl⟩, rfl⟩ := hx
      exact ⟨p, e1, rfl⟩
    obtain ⟨p, e1, rfl⟩ := hx2
    have b := h2 p (List.mem_of_getElem? e1)
    have e2 : cs[p.toNat]? = some (cs.getD p.toNat 0) := by
      rw [List.getD_eq_getElem?_getD, List.getElem?_eq_getElem (by omega)]; rfl
    obtain ⟨rest', e3⟩ := idx_ch hc e2
    have hi := (List.getElem?_eq_some_iff.mp e1).1
    simp only [b11_0, fnT, startE, List.length_cons, List.length_nil, List.map_cons, List.map_nil, List.cons_append, List.nil_append, Nat.sub_self, Nat.reduceSub, Nat.reduceAdd, Nat.reduceLT, List.replicate_zero, List.reduceReplicate, List.replicate_succ, wpSs, wpS, wpE, wpEs, wpT, wpI, wpC, List.getElem?_cons_zero, List.getElem?_cons_succ, List.getElem?_nil, den, dens, back, true_and, and_true, nrmE, nrmT, frzSlots, cutV1, frzT, frzL, eq_ii, eq_bb, eq_ss, eq_nn, D.isNon, o_add, o_adds, o_addl, o_sub, o_addt, n_split, n_find, o_mul, o_rep, o_div, o_mod, o_pow, c_lt, c_le, c_gt, c_ge, c_lts, c_eq, c_ne, c_is, c_isnot, c_in, c_notin, t_bl, t_non, t_int, t_lst, t_tup, x_lst, x_tup, x_scr, x_str, u_lst, u_scr, u_str, b_lenl, b_lent, b_lenc, b_lens, b_abs, b_max2, b_min2, b_int, b_inb, b_tup, b_dm, b_srtk, i_lst, i_tup, i_scr, is_n, is_b, exists_eq_left', exists_eq_left, exists_eq_right, Option.some.injEq,  partD, setS, setAll, tgD, tgSlots, wipeE, List.set_cons_zero, List.set_cons_succ, List.set_nil, List.take_nil, List.take_zero, m_f, m_t, r_int, r_bl, r_str, r_non, r_tup, r_lstf, r_lstt, r_v, r_newf, r_newt, List.any_cons, List.any_nil, owned, Bool.or_false, Bool.false_or, fl_bl, fl_int, fl_str, fl_non, fl_rs, exists_eq', Ct.lst.injEq, Ct.ob.injEq, D.kst.injEq, List.take_succ_cons, dat_lst, dat_ob, dat_fz, Option.some.injEq, SV.d.injEq, D.int.injEq, forall_eq', reduceCtorEq, false_implies, forall_const, Bool.false_eq_true, List.set, true_or, if_true, if_false, Bool.not_true, Bool.not_false]
    rw [n_index]
    refine ⟨_, _, e3, ?_⟩
    simp only [fnT, startE, List.length_cons, List.length_nil, List.map_cons, List.map_nil, List.cons_append, List.nil_append, Nat.sub_self, Nat.reduceSub, Nat.reduceAdd, Nat.reduceLT, List.replicate_zero, List.reduceReplicate, List.replicate_succ, wpSs, wpS, wpE, wpEs, wpT, wpI, wpC, List.getElem?_cons_zero, List.getElem?_cons_succ, List.getElem?_nil, den, dens, back, true_and, and_true, nrmE, nrmT, frzSlots, cutV1, frzT, frzL, eq_ii, eq_bb, eq_ss, eq_nn, D.isNon, o_add, o_adds, o_addl, o_sub, o_addt, n_split, n_find, o_mul, o_rep, o_div, o_mod, o_pow, c_lt, c_le, c_gt, c_ge, c_lts, c_eq, c_ne, c_is, c_isnot, c_in, c_notin, t_bl, t_non, t_int, t_lst, t_tup, x_lst, x_tup, x_scr, x_str, u_lst, u_scr, u_str, b_lenl, b_lent, b_lenc, b_lens, b_abs, b_max2, b_min2, b_int, b_inb, b_tup, b_dm, b_srtk, i_lst, i_tup, i_scr, is_n, is_b, exists_eq_left', exists_eq_left, exists_eq_right, Option.some.injEq,  partD, setS, setAll, tgD, tgSlots, wipeE, List.set_cons_zero, List.set_cons_succ, List.set_nil, List.take_nil, List.take_zero, m_f, m_t, r_int, r_bl, r_str, r_non, r_tup, r_lstf, r_lstt, r_v, r_newf, r_newt, List.any_cons, List.any_nil, owned, Bool.or_false, Bool.false_or, fl_bl, fl_int, fl_str, fl_non, fl_rs, exists_eq', Ct.lst.injEq, Ct.ob.injEq, D.kst.injEq, List.take_succ_cons, dat_lst, dat_ob, dat_fz, Option.some.injEq, SV.d.injEq, D.int.injEq, forall_eq', reduceCtorEq, false_implies, forall_const, Bool.false_eq_true, List.set, true_or, if_true, if_false, Bool.not_true, Bool.not_false]
    refine ⟨sizeLine_lt (by simp; omega), ?_⟩
    rw [List.take_add_one, e1, app_ints]
    have e4 : ((p.toNat : Nat) : Int) = p := by omega
    rw [e4]
    rfl
  · rintro acc rfl
    have e : ((sL (wrd cs ps)).cps.toList.map fun c => D.str ⟨#[c]⟩).length = ps.length := by rw [list_sL]; simp [wrd]
    rw [e, List.take_length]
    refine s_sumof (m := cs.length) (by omega) h1 h2 hl ?_
    simp only [len_sL, fnT, startE, List.length_cons, List.length_nil, List.map_cons, List.map_nil, List.cons_append, List.nil_append, Nat.sub_self, Nat.reduceSub, Nat.reduceAdd, Nat.reduceLT, List.replicate_zero, List.reduceReplicate, List.replicate_succ, wpSs, wpS, wpE, wpEs, wpT, wpI, wpC, List.getElem?_cons_zero, List.getElem?_cons_succ, List.getElem?_nil, den, dens, back, true_and, and_true, nrmE, nrmT, frzSlots, cutV1, frzT, frzL, eq_ii, eq_bb, eq_ss, eq_nn, D.isNon, o_add, o_adds, o_addl, o_sub, o_addt, n_split, n_find, o_mul, o_rep, o_div, o_mod, o_pow, c_lt, c_le, c_gt, c_ge, c_lts, c_eq, c_ne, c_is, c_isnot, c_in, c_notin, t_bl, t_non, t_int, t_lst, t_tup, x_lst, x_tup, x_scr, x_str, u_lst, u_scr, u_str, b_lenl, b_lent, b_lenc, b_lens, b_abs, b_max2, b_min2, b_int, b_inb, b_tup, b_dm, b_srtk, i_lst, i_tup, i_scr, is_n, is_b, exists_eq_left', exists_eq_left, exists_eq_right, Option.some.injEq,  partD, setS, setAll, tgD, tgSlots, wipeE, List.set_cons_zero, List.set_cons_succ, List.set_nil, List.take_nil, List.take_zero, m_f, m_t, r_int, r_bl, r_str, r_non, r_tup, r_lstf, r_lstt, r_v, r_newf, r_newt, List.any_cons, List.any_nil, owned, Bool.or_false, Bool.false_or, fl_bl, fl_int, fl_str, fl_non, fl_rs, exists_eq', Ct.lst.injEq, Ct.ob.injEq, D.kst.injEq, List.take_succ_cons, dat_lst, dat_ob, dat_fz, Option.some.injEq, SV.d.injEq, D.int.injEq, forall_eq', reduceCtorEq, false_implies, forall_const, Bool.false_eq_true, List.set, true_or, if_true, if_false, Bool.not_true, Bool.not_false]
    exact ⟨sizeLine_big (by omega), by omega, h⟩
end K09

namespace K09
open PySem L2 PD
theorem s_divisor {n : Nat} {a m : Int} {k z} (hm : 0 < m) (h : k (.v (.int (Int.gcd a m)))) : wpF fnT gcT (n+1) 7 [.int a, .int m] k z := by
  unfold wpF
  simp only [f7, b7, fnT, startE, List.length_cons, List.length_nil, List.map_cons, List.map_nil, List.cons_append, List.nil_append, Nat.sub_self, Nat.reduceSub, Nat.reduceAdd, Nat.reduceLT, List.replicate_zero, List.reduceReplicate, List.replicate_succ, wpSs, wpS, wpE, wpEs, wpT, wpI, wpC, List.getElem?_cons_zero, List.getElem?_cons_succ, List.getElem?_nil, den, dens, back, true_and, and_true, nrmE, nrmT, frzSlots, cutV1, frzT, frzL, eq_ii, eq_bb, eq_ss, eq_nn, D.isNon, o_add, o_adds, o_addl, o_sub, o_addt, n_split, n_find, o_mul, o_rep, o_div, o_mod, o_pow, c_lt, c_le, c_gt, c_ge, c_lts, c_eq, c_ne, c_is, c_isnot, c_in, c_notin, t_bl, t_non, t_int, t_lst, t_tup, x_lst, x_tup, x_scr, x_str, u_lst, u_scr, u_str, b_lenl, b_lent, b_lenc, b_lens, b_abs, b_max2, b_min2, b_int, b_inb, b_tup, b_dm, b_srtk, i_lst, i_tup, i_scr, is_n, is_b, exists_eq_left', exists_eq_left, exists_eq_right, Option.some.injEq,  partD, setS, setAll, tgD, tgSlots, wipeE, List.set_cons_zero, List.set_cons_succ, List.set_nil, List.take_nil, List.take_zero, m_f, m_t, r_int, r_bl, r_str, r_non, r_tup, r_lstf, r_lstt, r_v, r_newf, r_newt, List.any_cons, List.any_nil, owned, Bool.or_false, Bool.false_or, fl_bl, fl_int, fl_str, fl_non, fl_rs, exists_eq', Ct.lst.injEq, Ct.ob.injEq, D.kst.injEq, List.take_succ_cons, dat_lst, dat_ob, dat_fz, Option.some.injEq, SV.d.injEq, D.int.injEq, forall_eq', reduceCtorEq, false_implies, forall_const, Bool.false_eq_true, List.set, true_or, if_true, if_false, Bool.not_true, Bool.not_false]
  refine ⟨fun c e l => l = [] ∧ ∃ x y : Int, e = [some (.d (.int x)), some (.d (.int y))] ∧ 0 ≤ y ∧ c = y.toNat ∧ Int.gcd x y = Int.gcd a m, ⟨_, rfl, a, m, rfl, Int.le_of_lt hm, rfl, rfl⟩, ?_⟩
  rintro c e l ⟨rfl, x, y, rfl, hy, rfl, hg⟩
  simp only [b7_0, b7_1, fnT, startE, List.length_cons, List.length_nil, List.map_cons, List.map_nil, List.cons_append, List.nil_append, Nat.sub_self, Nat.reduceSub, Nat.reduceAdd, Nat.reduceLT, List.replicate_zero, List.reduceReplicate, List.replicate_succ, wpSs, wpS, wpE, wpEs, wpT, wpI, wpC, List.getElem?_cons_zero, List.getElem?_cons_succ, List.getElem?_nil, den, dens, back, true_and, and_true, nrmE, nrmT, frzSlots, cutV1, frzT, frzL, eq_ii, eq_bb, eq_ss, eq_nn, D.isNon, o_add, o_adds, o_addl, o_sub, o_addt, n_split, n_find, o_mul, o_rep, o_div, o_mod, o_pow, c_lt, c_le, c_gt, c_ge, c_lts, c_eq, c_ne, c_is, c_isnot, c_in, c_notin, t_bl, t_non, t_int, t_lst, t_tup, x_lst, x_tup, x_scr, x_str, u_lst, u_scr, u_str, b_lenl, b_lent, b_lenc, b_lens, b_abs, b_max2, b_min2, b_int, b_inb, b_tup, b_dm, b_srtk, i_lst, i_tup, i_scr, is_n, is_b, exists_eq_left', exists_eq_left, exists_eq_right, Option.some.injEq,  partD, setS, setAll, tgD, tgSlots, wipeE, List.set_cons_zero, List.set_cons_succ, List.set_nil, List.take_nil, List.take_zero, m_f, m_t, r_int, r_bl, r_str, r_non, r_tup, r_lstf, r_lstt, r_v, r_newf, r_newt, List.any_cons, List.any_nil, owned, Bool.or_false, Bool.false_or, fl_bl, fl_int, fl_str, fl_non, fl_rs, exists_eq', Ct.lst.injEq, Ct.ob.injEq, D.kst.injEq, List.take_succ_cons, dat_lst, dat_ob, dat_fz, Option.some.injEq, SV.d.injEq, D.int.injEq, forall_eq', reduceCtorEq, false_implies, forall_const, Bool.false_eq_true, List.set, true_or, if_true, if_false, Bool.not_true, Bool.not_false]
  refine ⟨fun h0 => ?_, fun h0 => ?_⟩
  · have y0 : y ≠ 0 := by simpa using h0
    have yp : 0 < y := by omega
    have l1 := Int.emod_lt_of_pos x yp
    have l2 := Int.emod_nonneg x y0
    exact ⟨yp, _, by omega, y, x % y, rfl, l2, rfl, by rw [gcd_step]; exact hg⟩
  · have y0 : y = 0 := by simpa using h0
    subst y0
    have e : (if x < 0 then -x else x) = (Int.gcd a m : Int) := by
      rw [← hg, Int.gcd_zero_right]; omega
    rw [e]
    exact h
/-- a weight fits behind these -/
def fit (ws : List Int) (w m : Int) : Prop := Int.gcd w m = 1 ∧ (ws = [] ∨ ∃ p, ws.getLast? = some p ∧ Int.gcd (p - w) m = 1)
noncomputable def fitB (ws : List Int) (w m : Int) : Bool := @decide (fit ws w m) (Classical.propDecidable _)
theorem fitB_iff {ws : List Int} {w m : Int} : fitB ws w m = true ↔ fit ws w m := by unfold fitB; simp
theorem atI_last {xs : List Int} {p : Int} (h : xs.getLast? = some p) : atI xs (-1) = some p := by
  have ne : xs ≠ [] := fun z => by rw [z] at h; cases h
  have hl : 0 < xs.length := List.length_pos_iff.mpr ne
  have e : ixN xs.length (-1) = some (xs.length - 1) := by
    unfold ixN
    rw [if_neg (by decide), if_pos (by omega)]
    congr 1
    omega
  unfold atI
  rw [e]
  rw [List.getLast?_eq_getElem?] at h
  exact h
theorem s_fits {n : Nat} {ws : List Int} {w m : Int} {k z} (hm : 0 < m) (h : k (.v (.bl (fitB ws w m)))) : wpF fnT gcT (n+2) 8 [.lst (iL ws), .int w, .int m] k z := by
  unfold wpF
  simp only [f8, b8, fnT, startE, List.length_cons, List.length_nil, List.map_cons, List.map_nil, List.cons_append, List.nil_append, Nat.sub_self, Nat.reduceSub, Nat.reduceAdd, Nat.reduceLT, List.replicate_zero, List.reduceReplicate, List.replicate_succ, wpSs, wpS, wpE, wpEs, wpT, wpI, wpC, List.getElem?_cons_zero, List.getElem?_cons_succ, List.getElem?_nil, den, dens, back, true_and, and_true, nrmE, nrmT, frzSlots, cutV1, frzT, frzL, eq_ii, eq_bb, eq_ss, eq_nn, D.isNon, o_add, o_adds, o_addl, o_sub, o_addt, n_split, n_find, o_mul, o_rep, o_div, o_mod, o_pow, c_lt, c_le, c_gt, c_ge, c_lts, c_eq, c_ne, c_is, c_isnot, c_in, c_notin, t_bl, t_non, t_int, t_lst, t_tup, x_lst, x_tup, x_scr, x_str, u_lst, u_scr, u_str, b_lenl, b_lent, b_lenc, b_lens, b_abs, b_max2, b_min2, b_int, b_inb, b_tup, b_dm, b_srtk, i_lst, i_tup, i_scr, is_n, is_b, exists_eq_left', exists_eq_left, exists_eq_right, Option.some.injEq,  partD, setS, setAll, tgD, tgSlots, wipeE, List.set_cons_zero, List.set_cons_succ, List.set_nil, List.take_nil, List.take_zero, m_f, m_t, r_int, r_bl, r_str, r_non, r_tup, r_lstf, r_lstt, r_v, r_newf, r_newt, List.any_cons, List.any_nil, owned, Bool.or_false, Bool.false_or, fl_bl, fl_int, fl_str, fl_non, fl_rs, exists_eq', Ct.lst.injEq, Ct.ob.injEq, D.kst.injEq, List.take_succ_cons, dat_lst, dat_ob, dat_fz, Option.some.injEq, SV.d.injEq, D.int.injEq, forall_eq', reduceCtorEq, false_implies, forall_const, Bool.false_eq_true, List.set, true_or, if_true, if_false, Bool.not_true, Bool.not_false]
  refine s_divisor hm ?_
  simp only [fnT, startE, List.length_cons, List.length_nil, List.map_cons, List.map_nil, List.cons_append, List.nil_append, Nat.sub_self, Nat.reduceSub, Nat.reduceAdd, Nat.reduceLT, List.replicate_zero, List.reduceReplicate, List.replicate_succ, wpSs, wpS, wpE, wpEs, wpT, wpI, wpC, List.getElem?_cons_zero, List.getElem?_cons_succ, List.getElem?_nil, den, dens, back, true_and, and_true, nrmE, nrmT, frzSlots, cutV1, frzT, frzL, eq_ii, eq_bb, eq_ss, eq_nn, D.isNon, o_add, o_adds, o_addl, o_sub, o_addt, n_split, n_find, o_mul, o_rep, o_div, o_mod, o_pow, c_lt, c_le, c_gt, c_ge, c_lts, c_eq, c_ne, c_is, c_isnot, c_in, c_notin, t_bl, t_non, t_int, t_lst, t_tup, x_lst, x_tup, x_scr, x_str, u_lst, u_scr, u_str, b_lenl, b_lent, b_lenc, b_lens, b_abs, b_max2, b_min2, b_int, b_inb, b_tup, b_dm, b_srtk, i_lst, i_tup, i_scr, is_n, is_b, exists_eq_left', exists_eq_left, exists_eq_right, Option.some.injEq,  partD, setS, setAll, tgD, tgSlots, wipeE, List.set_cons_zero, List.set_cons_succ, List.set_nil, List.take_nil, List.take_zero, m_f, m_t, r_int, r_bl, r_str, r_non, r_tup, r_lstf, r_lstt, r_v, r_newf, r_newt, List.any_cons, List.any_nil, owned, Bool.or_false, Bool.false_or, fl_bl, fl_int, fl_str, fl_non, fl_rs, exists_eq', Ct.lst.injEq, Ct.ob.injEq, D.kst.injEq, List.take_succ_cons, dat_lst, dat_ob, dat_fz, Option.some.injEq, SV.d.injEq, D.int.injEq, forall_eq', reduceCtorEq, false_implies, forall_const, Bool.false_eq_true, List.set, true_or, if_true, if_false, Bool.not_true, Bool.not_false]
  refine ⟨fun h0 => ?_, fun h0 => ?_⟩
  · have h1 : ¬ Int.gcd w m = 1 := fun q => by simp [q] at h0
    have e : fitB ws w m = false := by
      rw [← Bool.not_eq_true, fitB_iff]
      exact fun z => h1 z.1
    rw [e] at h
    simpa using h
  · have h1 : Int.gcd w m = 1 := by simp at h0; omega
    refine ⟨Nat.zero_le _, eq_ints (xs := ws) (ys := []) ?_⟩
    refine ⟨fun h2 => ?_, fun h2 => ?_⟩
    · have h2 : ws = [] := by simpa using h2
      have e : fitB ws w m = true := fitB_iff.mpr ⟨h1, .inl h2⟩
      rw [e] at h
      exact h
    · have h2 : ws ≠ [] := by simpa using h2
      obtain ⟨p, hp⟩ : ∃ p, ws.getLast? = some p := ⟨_, List.getLast?_eq_some_getLast h2⟩
      refine ⟨.int p, by rw [atI_ints, show -(1:Int) = -1 from rfl, atI_last hp]; rfl, ?_⟩
      simp only [fnT, startE, List.length_cons, List.length_nil, List.map_cons, List.map_nil, List.cons_append, List.nil_append, Nat.sub_self, Nat.reduceSub, Nat.reduceAdd, Nat.reduceLT, List.replicate_zero, List.reduceReplicate, List.replicate_succ, wpSs, wpS, wpE, wpEs, wpT, wpI, wpC, List.getElem?_cons_zero, List.getElem?_cons_succ, List.getElem?_nil, den, dens, back, true_and, and_true, nrmE, nrmT, frzSlots, cutV1, frzT, frzL, eq_ii, eq_bb, eq_ss, eq_nn, D.isNon, o_add, o_adds, o_addl, o_sub, o_addt, n_split, n_find, o_mul, o_rep, o_div, o_mod, o_pow, c_lt, c_le, c_gt, c_ge, c_lts, c_eq, c_ne, c_is, c_isnot, c_in, c_notin, t_bl, t_non, t_int, t_lst, t_tup, x_lst, x_tup, x_scr, x_str, u_lst, u_scr, u_str, b_lenl, b_lent, b_lenc, b_lens, b_abs, b_max2, b_min2, b_int, b_inb, b_tup, b_dm, b_srtk, i_lst, i_tup, i_scr, is_n, is_b, exists_eq_left', exists_eq_left, exists_eq_right, Option.some.injEq,  partD, setS, setAll, tgD, tgSlots, wipeE, List.set_cons_zero, List.set_cons_succ, List.set_nil, List.take_nil, List.take_zero, m_f, m_t, r_int, r_bl, r_str, r_non, r_tup, r_lstf, r_lstt, r_v, r_newf, r_newt, List.any_cons, List.any_nil, owned, Bool.or_false, Bool.false_or, fl_bl, fl_int, fl_str, fl_non, fl_rs, exists_eq', Ct.lst.injEq, Ct.ob.injEq, D.kst.injEq, List.take_succ_cons, dat_lst, dat_ob, dat_fz, Option.some.injEq, SV.d.injEq, D.int.injEq, forall_eq', reduceCtorEq, false_implies, forall_const, Bool.false_eq_true, List.set, true_or, if_true, if_false, Bool.not_true, Bool.not_false]
      refine s_divisor hm ?_
      simp only [fnT, startE, List.length_cons, List.length_nil, List.map_cons, List.map_nil, List.cons_append, List.nil_append, Nat.sub_self, Nat.reduceSub, Nat.reduceAdd, Nat.reduceLT, List.replicate_zero, List.reduceReplicate, List.replicate_succ, wpSs, wpS, wpE, wpEs, wpT, wpI, wpC, List.getElem?_cons_zero, List.getElem?_cons_succ, List.getElem?_nil, den, dens, back, true_and, and_true, nrmE, nrmT, frzSlots, cutV1, frzT, frzL, eq_ii, eq_bb, eq_ss, eq_nn, D.isNon, o_add, o_adds, o_addl, o_sub, o_addt, n_split, n_find, o_mul, o_rep, o_div, o_mod, o_pow, c_lt, c_le, c_gt, c_ge, c_lts, c_eq, c_ne, c_is, c_isnot, c_in, c_notin, t_bl, t_non, t_int, t_lst, t_tup, x_lst, x_tup, x_scr, x_str, u_lst, u_scr, u_str, b_lenl, b_lent, b_lenc, b_lens, b_abs, b_max2, b_min2, b_int, b_inb, b_tup, b_dm, b_srtk, i_lst, i_tup, i_scr, is_n, is_b, exists_eq_left', exists_eq_left, exists_eq_right, Option.some.injEq,  partD, setS, setAll, tgD, tgSlots, wipeE, List.set_cons_zero, List.set_cons_succ, List.set_nil, List.take_nil, List.take_zero, m_f, m_t, r_int, r_bl, r_str, r_non, r_tup, r_lstf, r_lstt, r_v, r_newf, r_newt, List.any_cons, List.any_nil, owned, Bool.or_false, Bool.false_or, fl_bl, fl_int, fl_str, fl_non, fl_rs, exists_eq', Ct.lst.injEq, Ct.ob.injEq, D.kst.injEq, List.take_succ_cons, dat_lst, dat_ob, dat_fz, Option.some.injEq, SV.d.injEq, D.int.injEq, forall_eq', reduceCtorEq, false_implies, forall_const, Bool.false_eq_true, List.set, true_or, if_true, if_false, Bool.not_true, Bool.not_false]
      have e : fitB ws w m = decide (Int.gcd (p - w) m = 1) := by
        by_cases q : Int.gcd (p - w) m = 1
        · rw [decide_eq_true q]; exact fitB_iff.mpr ⟨h1, .inr ⟨p, hp, q⟩⟩
        · rw [decide_eq_false q, ← Bool.not_eq_true, fitB_iff]
          rintro ⟨_, z | ⟨p', hp', z⟩⟩
          · exact h2 z
          · rw [hp] at hp'; cases hp'; exact q z
      rw [e] at h
      have e2 : ((Int.gcd (p - w) m : Int) == 1) = decide (Int.gcd (p - w) m = 1) := by
        by_cases q : Int.gcd (p - w) m = 1 <;> simp [q] <;> omega
      rw [e2]
      exact h
/-- all are safe -/
def Safe (ws : List Int) (m : Int) : Prop := ∀ i w, ws[i]? = some w → fit (ws.take i) w m
noncomputable def safeB (ws : List Int) (m : Int) : Bool := @decide (Safe ws m) (Classical.propDecidable _)
theorem safeB_iff {ws : List Int} {m : Int} : safeB ws m = true ↔ Safe ws m := by unfold safeB; simp
theorem s_are_safe {n : Nat} {ws : List Int} {m : Int} {k z} (hm : 0 < m) (h : k (.v (.bl (safeB ws m)))) : wpF fnT gcT (n+3) 9 [.lst (iL ws), .int m] k z := by
  unfold wpF
  simp only [f9, b9, fnT, startE, List.length_cons, List.length_nil, List.map_cons, List.map_nil, List.cons_append, List.nil_append, Nat.sub_self, Nat.reduceSub, Nat.reduceAdd, Nat.reduceLT, List.replicate_zero, List.reduceReplicate, List.replicate_succ, wpSs, wpS, wpE, wpEs, wpT, wpI, wpC, List.getElem?_cons_zero, List.getElem?_cons_succ, List.getElem?_nil, den, dens, back, true_and, and_true, nrmE, nrmT, frzSlots, cutV1, frzT, frzL, eq_ii, eq_bb, eq_ss, eq_nn, D.isNon, o_add, o_adds, o_addl, o_sub, o_addt, n_split, n_find, o_mul, o_rep, o_div, o_mod, o_pow, c_lt, c_le, c_gt, c_ge, c_lts, c_eq, c_ne, c_is, c_isnot, c_in, c_notin, t_bl, t_non, t_int, t_lst, t_tup, x_lst, x_tup, x_scr, x_str, u_lst, u_scr, u_str, b_lenl, b_lent, b_lenc, b_lens, b_abs, b_max2, b_min2, b_int, b_inb, b_tup, b_dm, b_srtk, i_lst, i_tup, i_scr, is_n, is_b, exists_eq_left', exists_eq_left, exists_eq_right, Option.some.injEq,  partD, setS, setAll, tgD, tgSlots, wipeE, List.set_cons_zero, List.set_cons_succ, List.set_nil, List.take_nil, List.take_zero, m_f, m_t, r_int, r_bl, r_str, r_non, r_tup, r_lstf, r_lstt, r_v, r_newf, r_newt, List.any_cons, List.any_nil, owned, Bool.or_false, Bool.false_or, fl_bl, fl_int, fl_str, fl_non, fl_rs, exists_eq', Ct.lst.injEq, Ct.ob.injEq, D.kst.injEq, List.take_succ_cons, dat_lst, dat_ob, dat_fz, Option.some.injEq, SV.d.injEq, D.int.injEq, forall_eq', reduceCtorEq, false_implies, forall_const, Bool.false_eq_true, List.set, true_or, if_true, if_false, Bool.not_true, Bool.not_false]
  refine ⟨fun i e l => l = [] ∧ (∃ u v, e = [some (.d (.lst (iL ws))), some (.d (.int m)), u, v]) ∧ ∀ j w, j < i → ws[j]? = some w → fit (ws.take j) w m, ⟨rfl, ⟨none, none, rfl⟩, fun j w hj => by omega⟩, ?_, ?_⟩
  · rintro i x e l hx ⟨rfl, ⟨u, v, rfl⟩, ih⟩
    obtain ⟨w, hw, rfl⟩ : ∃ w, ws[i]? = some w ∧ x = .tup [.int (i : Int), .int w] := by
      simp [List.getElem?_map, List.getElem?_zipIdx] at hx
      obtain ⟨a, h1, h2⟩ := hx
      exact ⟨a, h1, by rw [← h2]⟩
    simp only [b9_0, fnT, startE, List.length_cons, List.length_nil, List.map_cons, List.map_nil, List.cons_append, List.nil_append, Nat.sub_self, Nat.reduceSub, Nat.reduceAdd, Nat.reduceLT, List.replicate_zero, List.reduceReplicate, List.replicate_succ, wpSs, wpS, wpE, wpEs, wpT, wpI, wpC, List.getElem?_cons_zero, List.getElem?_cons_succ, List.getElem?_nil, den, dens, back, true_and, and_true, nrmE, nrmT, frzSlots, cutV1, frzT, frzL, eq_ii, eq_bb, eq_ss, eq_nn, D.isNon, o_add, o_adds, o_addl, o_sub, o_addt, n_split, n_find, o_mul, o_rep, o_div, o_mod, o_pow, c_lt, c_le, c_gt, c_ge, c_lts, c_eq, c_ne, c_is, c_isnot, c_in, c_notin, t_bl, t_non, t_int, t_lst, t_tup, x_lst, x_tup, x_scr, x_str, u_lst, u_scr, u_str, b_lenl, b_lent, b_lenc, b_lens, b_abs, b_max2, b_min2, b_int, b_inb, b_tup, b_dm, b_srtk, i_lst, i_tup, i_scr, is_n, is_b, exists_eq_left', exists_eq_left, exists_eq_right, Option.some.injEq,  partD, setS, setAll, tgD, tgSlots, wipeE, List.set_cons_zero, List.set_cons_succ, List.set_nil, List.take_nil, List.take_zero, m_f, m_t, r_int, r_bl, r_str, r_non, r_tup, r_lstf, r_lstt, r_v, r_newf, r_newt, List.any_cons, List.any_nil, owned, Bool.or_false, Bool.false_or, fl_bl, fl_int, fl_str, fl_non, fl_rs, exists_eq', Ct.lst.injEq, Ct.ob.injEq, D.kst.injEq, List.take_succ_cons, dat_lst, dat_ob, dat_fz, Option.some.injEq, SV.d.injEq, D.int.injEq, forall_eq', reduceCtorEq, false_implies, forall_const, Bool.false_eq_true, List.set, true_or, if_true, if_false, Bool.not_true, Bool.not_false]
    rw [cut_take, ← List.map_take]
    refine s_fits hm ?_
    simp only [fnT, startE, List.length_cons, List.length_nil, List.map_cons, List.map_nil, List.cons_append, List.nil_append, Nat.sub_self, Nat.reduceSub, Nat.reduceAdd, Nat.reduceLT, List.replicate_zero, List.reduceReplicate, List.replicate_succ, wpSs, wpS, wpE, wpEs, wpT, wpI, wpC, List.getElem?_cons_zero, List.getElem?_cons_succ, List.getElem?_nil, den, dens, back, true_and, and_true, nrmE, nrmT, frzSlots, cutV1, frzT, frzL, eq_ii, eq_bb, eq_ss, eq_nn, D.isNon, o_add, o_adds, o_addl, o_sub, o_addt, n_split, n_find, o_mul, o_rep, o_div, o_mod, o_pow, c_lt, c_le, c_gt, c_ge, c_lts, c_eq, c_ne, c_is, c_isnot, c_in, c_notin, t_bl, t_non, t_int, t_lst, t_tup, x_lst, x_tup, x_scr, x_str, u_lst, u_scr, u_str, b_lenl, b_lent, b_lenc, b_lens, b_abs, b_max2, b_min2, b_int, b_inb, b_tup, b_dm, b_srtk, i_lst, i_tup, i_scr, is_n, is_b, exists_eq_left', exists_eq_left, exists_eq_right, Option.some.injEq,  partD, setS, setAll, tgD, tgSlots, wipeE, List.set_cons_zero, List.set_cons_succ, List.set_nil, List.take_nil, List.take_zero, m_f, m_t, r_int, r_bl, r_str, r_non, r_tup, r_lstf, r_lstt, r_v, r_newf, r_newt, List.any_cons, List.any_nil, owned, Bool.or_false, Bool.false_or, fl_bl, fl_int, fl_str, fl_non, fl_rs, exists_eq', Ct.lst.injEq, Ct.ob.injEq, D.kst.injEq, List.take_succ_cons, dat_lst, dat_ob, dat_fz, Option.some.injEq, SV.d.injEq, D.int.injEq, forall_eq', reduceCtorEq, false_implies, forall_const, Bool.false_eq_true, List.set, true_or, if_true, if_false, Bool.not_true, Bool.not_false]
    refine ⟨fun h0 => ?_, fun h0 => ?_⟩
    · have h0 : ¬ fit (ws.take i) w m := by
        rw [← fitB_iff]; simpa using h0
      have e : safeB ws m = false := by
        rw [← Bool.not_eq_true, safeB_iff]
        exact fun z => h0 (z i w hw)
      rw [e] at h
      exact h
    · have h0 : fit (ws.take i) w m := by
        rw [← fitB_iff]; simpa using h0
      refine ⟨⟨_, _, rfl⟩, fun j w' hj hw' => ?_⟩
      by_cases q : j = i
      · subst q; rw [hw] at hw'; cases hw'; exact h0
      · exact ih j w' (by omega) hw'
  · rintro e l ⟨rfl, ⟨u, v, rfl⟩, ih⟩
    have e : safeB ws m = true := safeB_iff.mpr fun i w hw => ih i w (by
      have hi : i < ws.length := (List.getElem?_eq_some_iff.mp hw).1
      simpa using hi) hw
    rw [e] at h
    exact h
theorem fit_take {ws : List Int} {i : Nat} {w m : Int} (hi : i < ws.length) : fit (ws.take i) w m ↔ Int.gcd w m = 1 ∧ (i = 0 ∨ ∃ p, ws[i - 1]? = some p ∧ Int.gcd (p - w) m = 1) := by
  unfold fit
  have e : (ws.take i = []) ↔ i = 0 := by
    rw [List.take_eq_nil_iff]
    constructor
    · rintro (h | h)
      · exact h
      · rw [h] at hi; simp at hi
    · exact .inl
  rw [e]
  by_cases z : i = 0
  · simp [z]
  · have e2 : (ws.take i).getLast? = ws[i - 1]? := by
      rw [List.getLast?_eq_getElem?, List.length_take, Nat.min_eq_left (by omega), List.getElem?_take_of_lt (by omega)]
    rw [e2]
end K09

namespace K09
open PySem L2 PD
theorem Safe.nil {m : Int} : Safe [] m := fun i w h => by simp at h
theorem Safe.snoc {ws : List Int} {w m : Int} (h : Safe ws m) (f : fit ws w m) : Safe (ws ++ [w]) m := fun i v hv => by
  by_cases q : i < ws.length
  · rw [List.getElem?_append_left q] at hv
    rw [List.take_append_of_le_length (by omega)]
    exact h i v hv
  · have hl := (List.getElem?_eq_some_iff.mp hv).1
    simp at hl
    have e : i = ws.length := by omega
    subst e
    rw [List.getElem?_append_right (Nat.le_refl _)] at hv
    simp at hv
    subst hv
    rw [List.take_append_of_le_length (Nat.le_refl _), List.take_length]
    exact f
theorem gcd_two {m : Int} (hm : m % 2 = 1) : Int.gcd 2 m = 1 := by
  have h := Int.gcd_dvd_left (a := 2) (b := m)
  have h2 := Int.gcd_dvd_right (a := 2) (b := m)
  have h3 : Int.gcd 2 m ≤ 2 := Nat.le_of_dvd (by decide) (by simpa using Int.natAbs_dvd_natAbs.mpr h)
  have h4 : Int.gcd 2 m ≠ 0 := fun z => by rw [Int.gcd_eq_zero_iff] at z; exact absurd z.1 (by decide)
  rcases (show Int.gcd 2 m = 1 ∨ Int.gcd 2 m = 2 by omega) with e | e
  · exact e
  · rw [e] at h2
    have : (2 : Int) ∣ m := h2
    omega
theorem gcd_mod {a m : Int} : Int.gcd (a % m) m = Int.gcd a m := by rw [Int.gcd_comm, gcd_step]
/-- there is one that fits, where m is odd -/
theorem fit_some {ws : List Int} {m : Int} (hm : 3 ≤ m) (ho : m % 2 = 1) (hs : Safe ws m) : ∃ w, 0 ≤ w ∧ w < m ∧ fit ws w m := by
  by_cases ne : ws = []
  · exact ⟨1, by omega, by omega, by simp, .inl ne⟩
  · obtain ⟨p, hp⟩ : ∃ p, ws.getLast? = some p := ⟨_, List.getLast?_eq_some_getLast ne⟩
    have hp2 : ws[ws.length - 1]? = some p := by rw [← List.getLast?_eq_getElem?]; exact hp
    have g := (hs _ _ hp2).1
    refine ⟨2 * p % m, Int.emod_nonneg _ (by omega), Int.emod_lt_of_pos _ (by omega), ?_, .inr ⟨p, hp, ?_⟩⟩
    · rw [gcd_mod]
      have h2 := gcd_two ho
      unfold Int.gcd at h2 g ⊢
      rw [Int.natAbs_mul]
      exact Nat.Coprime.mul_left h2 g
    · have e : (p - 2 * p % m) % m = (-p) % m := by
        rw [Int.sub_emod, Int.emod_emod_of_dvd _ (Int.dvd_refl m), ← Int.sub_emod]
        congr 1; omega
      rw [← gcd_mod, e, gcd_mod, Int.neg_gcd]
      exact g
theorem cutS_L {cs : List Nat} {lo hi : Option Int} : cutS (sL cs) lo hi = sL (cutL cs lo hi) := by
  unfold cutS cutL
  rw [len_sL, list_sL]
theorem cut_sL {cs : List Nat} : cutS (sL cs) none (some (-1)) = sL (cs.take (cs.length - 1)) := by
  rw [cutS_L, cut_init]
theorem s_ldiv {n : Nat} {a m : Int} {k z} (ha : 0 ≤ a) (hm : 0 < m) (h : k (.v (.int (Int.gcd a m)))) : wpF fnT gcT (n+1) 26 [.int a, .int m] k z := by
  unfold wpF
  simp only [f26, b26, fnT, startE, List.length_cons, List.length_nil, List.map_cons, List.map_nil, List.cons_append, List.nil_append, Nat.sub_self, Nat.reduceSub, Nat.reduceAdd, Nat.reduceLT, List.replicate_zero, List.reduceReplicate, List.replicate_succ, wpSs, wpS, wpE, wpEs, wpT, wpI, wpC, List.getElem?_cons_zero, List.getElem?_cons_succ, List.getElem?_nil, den, dens, back, true_and, and_true, nrmE, nrmT, frzSlots, cutV1, frzT, frzL, eq_ii, eq_bb, eq_ss, eq_nn, D.isNon, o_add, o_adds, o_addl, o_sub, o_addt, n_split, n_find, o_mul, o_rep, o_div, o_mod, o_pow, c_lt, c_le, c_gt, c_ge, c_lts, c_eq, c_ne, c_is, c_isnot, c_in, c_notin, t_bl, t_non, t_int, t_lst, t_tup, x_lst, x_tup, x_scr, x_str, u_lst, u_scr, u_str, b_lenl, b_lent, b_lenc, b_lens, b_abs, b_max2, b_min2, b_int, b_inb, b_tup, b_dm, b_srtk, i_lst, i_tup, i_scr, is_n, is_b, exists_eq_left', exists_eq_left, exists_eq_right, Option.some.injEq,  partD, setS, setAll, tgD, tgSlots, wipeE, List.set_cons_zero, List.set_cons_succ, List.set_nil, List.take_nil, List.take_zero, m_f, m_t, r_int, r_bl, r_str, r_non, r_tup, r_lstf, r_lstt, r_v, r_newf, r_newt, List.any_cons, List.any_nil, owned, Bool.or_false, Bool.false_or, fl_bl, fl_int, fl_str, fl_non, fl_rs, exists_eq', Ct.lst.injEq, Ct.ob.injEq, D.kst.injEq, List.take_succ_cons, dat_lst, dat_ob, dat_fz, Option.some.injEq, SV.d.injEq, D.int.injEq, forall_eq', reduceCtorEq, false_implies, forall_const, Bool.false_eq_true, List.set, true_or, if_true, if_false, Bool.not_true, Bool.not_false]
  refine ⟨fun c e l => l = [] ∧ ∃ x y : Int, e = [some (.d (.int x)), some (.d (.int y))] ∧ 0 ≤ x ∧ 0 ≤ y ∧ c = y.toNat ∧ Int.gcd x y = Int.gcd a m, ⟨_, rfl, a, m, rfl, ha, Int.le_of_lt hm, rfl, rfl⟩, ?_⟩
  rintro c e l ⟨rfl, x, y, rfl, hx, hy, rfl, hg⟩
  simp only [b26_0, b26_1, fnT, startE, List.length_cons, List.length_nil, List.map_cons, List.map_nil, List.cons_append, List.nil_append, Nat.sub_self, Nat.reduceSub, Nat.reduceAdd, Nat.reduceLT, List.replicate_zero, List.reduceReplicate, List.replicate_succ, wpSs, wpS, wpE, wpEs, wpT, wpI, wpC, List.getElem?_cons_zero, List.getElem?_cons_succ, List.getElem?_nil, den, dens, back, true_and, and_true, nrmE, nrmT, frzSlots, cutV1, frzT, frzL, eq_ii, eq_bb, eq_ss, eq_nn, D.isNon, o_add, o_adds, o_addl, o_sub, o_addt, n_split, n_find, o_mul, o_rep, o_div, o_mod, o_pow, c_lt, c_le, c_gt, c_ge, c_lts, c_eq, c_ne, c_is, c_isnot, c_in, c_notin, t_bl, t_non, t_int, t_lst, t_tup, x_lst, x_tup, x_scr, x_str, u_lst, u_scr, u_str, b_lenl, b_lent, b_lenc, b_lens, b_abs, b_max2, b_min2, b_int, b_inb, b_tup, b_dm, b_srtk, i_lst, i_tup, i_scr, is_n, is_b, exists_eq_left', exists_eq_left, exists_eq_right, Option.some.injEq,  partD, setS, setAll, tgD, tgSlots, wipeE, List.set_cons_zero, List.set_cons_succ, List.set_nil, List.take_nil, List.take_zero, m_f, m_t, r_int, r_bl, r_str, r_non, r_tup, r_lstf, r_lstt, r_v, r_newf, r_newt, List.any_cons, List.any_nil, owned, Bool.or_false, Bool.false_or, fl_bl, fl_int, fl_str, fl_non, fl_rs, exists_eq', Ct.lst.injEq, Ct.ob.injEq, D.kst.injEq, List.take_succ_cons, dat_lst, dat_ob, dat_fz, Option.some.injEq, SV.d.injEq, D.int.injEq, forall_eq', reduceCtorEq, false_implies, forall_const, Bool.false_eq_true, List.set, true_or, if_true, if_false, Bool.not_true, Bool.not_false]
  refine ⟨fun h0 => ?_, fun h0 => ?_⟩
  · have y0 : y ≠ 0 := by simpa using h0
    have yp : 0 < y := by omega
    have l1 := Int.emod_lt_of_pos x yp
    have l2 := Int.emod_nonneg x y0
    exact ⟨yp, _, by omega, y, x % y, rfl, hy, l2, rfl, by rw [gcd_step]; exact hg⟩
  · have y0 : y = 0 := by simpa using h0
    subst y0
    have e : x = (Int.gcd a m : Int) := by
      rw [← hg, Int.gcd_zero_right]; omega
    rw [e]
    exact h
theorem s_lsafe {n : Nat} {ws : List Int} {w m : Int} {k z} (w0 : 0 ≤ w) (hm : 0 < m) (h : k (.v (.bl (fitB ws w m)))) : wpF fnT gcT (n+2) 28 [.int w, .lst (iL ws), .int m] k z := by
  unfold wpF
  simp only [f28, b28, fnT, startE, List.length_cons, List.length_nil, List.map_cons, List.map_nil, List.cons_append, List.nil_append, Nat.sub_self, Nat.reduceSub, Nat.reduceAdd, Nat.reduceLT, List.replicate_zero, List.reduceReplicate, List.replicate_succ, wpSs, wpS, wpE, wpEs, wpT, wpI, wpC, List.getElem?_cons_zero, List.getElem?_cons_succ, List.getElem?_nil, den, dens, back, true_and, and_true, nrmE, nrmT, frzSlots, cutV1, frzT, frzL, eq_ii, eq_bb, eq_ss, eq_nn, D.isNon, o_add, o_adds, o_addl, o_sub, o_addt, n_split, n_find, o_mul, o_rep, o_div, o_mod, o_pow, c_lt, c_le, c_gt, c_ge, c_lts, c_eq, c_ne, c_is, c_isnot, c_in, c_notin, t_bl, t_non, t_int, t_lst, t_tup, x_lst, x_tup, x_scr, x_str, u_lst, u_scr, u_str, b_lenl, b_lent, b_lenc, b_lens, b_abs, b_max2, b_min2, b_int, b_inb, b_tup, b_dm, b_srtk, i_lst, i_tup, i_scr, is_n, is_b, exists_eq_left', exists_eq_left, exists_eq_right, Option.some.injEq,  partD, setS, setAll, tgD, tgSlots, wipeE, List.set_cons_zero, List.set_cons_succ, List.set_nil, List.take_nil, List.take_zero, m_f, m_t, r_int, r_bl, r_str, r_non, r_tup, r_lstf, r_lstt, r_v, r_newf, r_newt, List.any_cons, List.any_nil, owned, Bool.or_false, Bool.false_or, fl_bl, fl_int, fl_str, fl_non, fl_rs, exists_eq', Ct.lst.injEq, Ct.ob.injEq, D.kst.injEq, List.take_succ_cons, dat_lst, dat_ob, dat_fz, Option.some.injEq, SV.d.injEq, D.int.injEq, forall_eq', reduceCtorEq, false_implies, forall_const, Bool.false_eq_true, List.set, true_or, if_true, if_false, Bool.not_true, Bool.not_false]
  refine s_ldiv w0 hm ?_
  simp only [fnT, startE, List.length_cons, List.length_nil, List.map_cons, List.map_nil, List.cons_append, List.nil_append, Nat.sub_self, Nat.reduceSub, Nat.reduceAdd, Nat.reduceLT, List.replicate_zero, List.reduceReplicate, List.replicate_succ, wpSs, wpS, wpE, wpEs, wpT, wpI, wpC, List.getElem?_cons_zero, List.getElem?_cons_succ, List.getElem?_nil, den, dens, back, true_and, and_true, nrmE, nrmT, frzSlots, cutV1, frzT, frzL, eq_ii, eq_bb, eq_ss, eq_nn, D.isNon, o_add, o_adds, o_addl, o_sub, o_addt, n_split, n_find, o_mul, o_rep, o_div, o_mod, o_pow, c_lt, c_le, c_gt, c_ge, c_lts, c_eq, c_ne, c_is, c_isnot, c_in, c_notin, t_bl, t_non, t_int, t_lst, t_tup, x_lst, x_tup, x_scr, x_str, u_lst, u_scr, u_str, b_lenl, b_lent, b_lenc, b_lens, b_abs, b_max2, b_min2, b_int, b_inb, b_tup, b_dm, b_srtk, i_lst, i_tup, i_scr, is_n, is_b, exists_eq_left', exists_eq_left, exists_eq_right, Option.some.injEq,  partD, setS, setAll, tgD, tgSlots, wipeE, List.set_cons_zero, List.set_cons_succ, List.set_nil, List.take_nil, List.take_zero, m_f, m_t, r_int, r_bl, r_str, r_non, r_tup, r_lstf, r_lstt, r_v, r_newf, r_newt, List.any_cons, List.any_nil, owned, Bool.or_false, Bool.false_or, fl_bl, fl_int, fl_str, fl_non, fl_rs, exists_eq', Ct.lst.injEq, Ct.ob.injEq, D.kst.injEq, List.take_succ_cons, dat_lst, dat_ob, dat_fz, Option.some.injEq, SV.d.injEq, D.int.injEq, forall_eq', reduceCtorEq, false_implies, forall_const, Bool.false_eq_true, List.set, true_or, if_true, if_false, Bool.not_true, Bool.not_false]
  refine ⟨fun h0 => ?_, fun h0 => ?_⟩
  · have h1 : ¬ Int.gcd w m = 1 := fun q => by simp [q] at h0
    have e : fitB ws w m = false := by
      rw [← Bool.not_eq_true, fitB_iff]
      exact fun z => h1 z.1
    rw [e] at h
    simpa using h
  · have h1 : Int.gcd w m = 1 := by simp at h0; omega
    refine ⟨Nat.zero_le _, eq_ints (xs := ws) (ys := []) ?_⟩
    refine ⟨fun h2 => ?_, fun h2 => ?_⟩
    · have h2 : ws = [] := by simpa using h2
      have e : fitB ws w m = true := fitB_iff.mpr ⟨h1, .inl h2⟩
      rw [e] at h
      exact h
    · have h2 : ws ≠ [] := by simpa using h2
      obtain ⟨p, hp⟩ : ∃ p, ws.getLast? = some p := ⟨_, List.getLast?_eq_some_getLast h2⟩
      refine ⟨.int p, by rw [atI_ints, show -(1:Int) = -1 from rfl, atI_last hp]; rfl, ?_⟩
      simp only [fnT, startE, List.length_cons, List.length_nil, List.map_cons, List.map_nil, List.cons_append, List.nil_append, Nat.sub_self, Nat.reduceSub, Nat.reduceAdd, Nat.reduceLT, List.replicate_zero, List.reduceReplicate, List.replicate_succ, wpSs, wpS, wpE, wpEs, wpT, wpI, wpC, List.getElem?_cons_zero, List.getElem?_cons_succ, List.getElem?_nil, den, dens, back, true_and, and_true, nrmE, nrmT, frzSlots, cutV1, frzT, frzL, eq_ii, eq_bb, eq_ss, eq_nn, D.isNon, o_add, o_adds, o_addl, o_sub, o_addt, n_split, n_find, o_mul, o_rep, o_div, o_mod, o_pow, c_lt, c_le, c_gt, c_ge, c_lts, c_eq, c_ne, c_is, c_isnot, c_in, c_notin, t_bl, t_non, t_int, t_lst, t_tup, x_lst, x_tup, x_scr, x_str, u_lst, u_scr, u_str, b_lenl, b_lent, b_lenc, b_lens, b_abs, b_max2, b_min2, b_int, b_inb, b_tup, b_dm, b_srtk, i_lst, i_tup, i_scr, is_n, is_b, exists_eq_left', exists_eq_left, exists_eq_right, Option.some.injEq,  partD, setS, setAll, tgD, tgSlots, wipeE, List.set_cons_zero, List.set_cons_succ, List.set_nil, List.take_nil, List.take_zero, m_f, m_t, r_int, r_bl, r_str, r_non, r_tup, r_lstf, r_lstt, r_v, r_newf, r_newt, List.any_cons, List.any_nil, owned, Bool.or_false, Bool.false_or, fl_bl, fl_int, fl_str, fl_non, fl_rs, exists_eq', Ct.lst.injEq, Ct.ob.injEq, D.kst.injEq, List.take_succ_cons, dat_lst, dat_ob, dat_fz, Option.some.injEq, SV.d.injEq, D.int.injEq, forall_eq', reduceCtorEq, false_implies, forall_const, Bool.false_eq_true, List.set, true_or, if_true, if_false, Bool.not_true, Bool.not_false]
      have eg : Int.gcd (if w - p < 0 then -(w - p) else w - p) m = Int.gcd (p - w) m := by
        split
        · congr 1; omega
        · exact gcd_flip
      refine s_ldiv (by split <;> omega) hm ?_
      rw [eg]
      simp only [fnT, startE, List.length_cons, List.length_nil, List.map_cons, List.map_nil, List.cons_append, List.nil_append, Nat.sub_self, Nat.reduceSub, Nat.reduceAdd, Nat.reduceLT, List.replicate_zero, List.reduceReplicate, List.replicate_succ, wpSs, wpS, wpE, wpEs, wpT, wpI, wpC, List.getElem?_cons_zero, List.getElem?_cons_succ, List.getElem?_nil, den, dens, back, true_and, and_true, nrmE, nrmT, frzSlots, cutV1, frzT, frzL, eq_ii, eq_bb, eq_ss, eq_nn, D.isNon, o_add, o_adds, o_addl, o_sub, o_addt, n_split, n_find, o_mul, o_rep, o_div, o_mod, o_pow, c_lt, c_le, c_gt, c_ge, c_lts, c_eq, c_ne, c_is, c_isnot, c_in, c_notin, t_bl, t_non, t_int, t_lst, t_tup, x_lst, x_tup, x_scr, x_str, u_lst, u_scr, u_str, b_lenl, b_lent, b_lenc, b_lens, b_abs, b_max2, b_min2, b_int, b_inb, b_tup, b_dm, b_srtk, i_lst, i_tup, i_scr, is_n, is_b, exists_eq_left', exists_eq_left, exists_eq_right, Option.some.injEq,  partD, setS, setAll, tgD, tgSlots, wipeE, List.set_cons_zero, List.set_cons_succ, List.set_nil, List.take_nil, List.take_zero, m_f, m_t, r_int, r_bl, r_str, r_non, r_tup, r_lstf, r_lstt, r_v, r_newf, r_newt, List.any_cons, List.any_nil, owned, Bool.or_false, Bool.false_or, fl_bl, fl_int, fl_str, fl_non, fl_rs, exists_eq', Ct.lst.injEq, Ct.ob.injEq, D.kst.injEq, List.take_succ_cons, dat_lst, dat_ob, dat_fz, Option.some.injEq, SV.d.injEq, D.int.injEq, forall_eq', reduceCtorEq, false_implies, forall_const, Bool.false_eq_true, List.set, true_or, if_true, if_false, Bool.not_true, Bool.not_false]
      have e : fitB ws w m = decide (Int.gcd (p - w) m = 1) := by
        by_cases q : Int.gcd (p - w) m = 1
        · rw [decide_eq_true q]; exact fitB_iff.mpr ⟨h1, .inr ⟨p, hp, q⟩⟩
        · rw [decide_eq_false q, ← Bool.not_eq_true, fitB_iff]
          rintro ⟨_, z | ⟨p', hp', z⟩⟩
          · exact h2 z
          · rw [hp] at hp'; cases hp'; exact q z
      rw [e] at h
      have e2 : ((Int.gcd (p - w) m : Int) == 1) = decide (Int.gcd (p - w) m = 1) := by
        by_cases q : Int.gcd (p - w) m = 1 <;> simp [q] <;> omega
      rw [e2]
      exact h
/-- weights that are safe, where m is odd -/
theorem s_weightsS {n : Nat} {c m : Int} {len : Nat} {k z} (hm : 3 ≤ m) (hm2 : m ≤ 26) (ho : m % 2 = 1) (hl : len ≤ 8) (h : ∀ ws : List Int, ws.length = len → Lt ws m → Safe ws m → k (.v (.lst (iL ws)))) : wpF fnT gcT (n+3) 29 [.int c, .int m, .int len] k z := by
  have hm0 : 0 < m := by omega
  unfold wpF
  simp only [f29, b29, fnT, startE, List.length_cons, List.length_nil, List.map_cons, List.map_nil, List.cons_append, List.nil_append, Nat.sub_self, Nat.reduceSub, Nat.reduceAdd, Nat.reduceLT, List.replicate_zero, List.reduceReplicate, List.replicate_succ, wpSs, wpS, wpE, wpEs, wpT, wpI, wpC, List.getElem?_cons_zero, List.getElem?_cons_succ, List.getElem?_nil, den, dens, back, true_and, and_true, nrmE, nrmT, frzSlots, cutV1, frzT, frzL, eq_ii, eq_bb, eq_ss, eq_nn, D.isNon, o_add, o_adds, o_addl, o_sub, o_addt, n_split, n_find, o_mul, o_rep, o_div, o_mod, o_pow, c_lt, c_le, c_gt, c_ge, c_lts, c_eq, c_ne, c_is, c_isnot, c_in, c_notin, t_bl, t_non, t_int, t_lst, t_tup, x_lst, x_tup, x_scr, x_str, u_lst, u_scr, u_str, b_lenl, b_lent, b_lenc, b_lens, b_abs, b_max2, b_min2, b_int, b_inb, b_tup, b_dm, b_srtk, i_lst, i_tup, i_scr, is_n, is_b, exists_eq_left', exists_eq_left, exists_eq_right, Option.some.injEq,  partD, setS, setAll, tgD, tgSlots, wipeE, List.set_cons_zero, List.set_cons_succ, List.set_nil, List.take_nil, List.take_zero, m_f, m_t, r_int, r_bl, r_str, r_non, r_tup, r_lstf, r_lstt, r_v, r_newf, r_newt, List.any_cons, List.any_nil, owned, Bool.or_false, Bool.false_or, fl_bl, fl_int, fl_str, fl_non, fl_rs, exists_eq', Ct.lst.injEq, Ct.ob.injEq, D.kst.injEq, List.take_succ_cons, dat_lst, dat_ob, dat_fz, Option.some.injEq, SV.d.injEq, D.int.injEq, forall_eq', reduceCtorEq, false_implies, forall_const, Bool.false_eq_true, List.set, true_or, if_true, if_false, Bool.not_true, Bool.not_false]
  refine ⟨Nat.zero_le _, by omega, by omega, fun i e l => ∃ ws x y u v w, e = [some (.d (.int c)), some (.d (.int m)), some (.d (.int len)), some (.c 0), x, y, u, v, w] ∧ l = [.lst (iL ws)] ∧ ws.length = i ∧ Lt ws m ∧ Safe ws m, ⟨[], none, none, none, none, none, rfl, rfl, rfl, Lt.nil, Safe.nil⟩, ?_, ?_⟩
  · rintro i x e l hx ⟨ws, x', y', u', v', w', rfl, rfl, hw, hL, hS⟩
    obtain ⟨hi, rfl⟩ := rng_it hx
    rw [Int.toNat_natCast] at hi
    simp only [b29_3, fnT, startE, List.length_cons, List.length_nil, List.map_cons, List.map_nil, List.cons_append, List.nil_append, Nat.sub_self, Nat.reduceSub, Nat.reduceAdd, Nat.reduceLT, List.replicate_zero, List.reduceReplicate, List.replicate_succ, wpSs, wpS, wpE, wpEs, wpT, wpI, wpC, List.getElem?_cons_zero, List.getElem?_cons_succ, List.getElem?_nil, den, dens, back, true_and, and_true, nrmE, nrmT, frzSlots, cutV1, frzT, frzL, eq_ii, eq_bb, eq_ss, eq_nn, D.isNon, o_add, o_adds, o_addl, o_sub, o_addt, n_split, n_find, o_mul, o_rep, o_div, o_mod, o_pow, c_lt, c_le, c_gt, c_ge, c_lts, c_eq, c_ne, c_is, c_isnot, c_in, c_notin, t_bl, t_non, t_int, t_lst, t_tup, x_lst, x_tup, x_scr, x_str, u_lst, u_scr, u_str, b_lenl, b_lent, b_lenc, b_lens, b_abs, b_max2, b_min2, b_int, b_inb, b_tup, b_dm, b_srtk, i_lst, i_tup, i_scr, is_n, is_b, exists_eq_left', exists_eq_left, exists_eq_right, Option.some.injEq,  partD, setS, setAll, tgD, tgSlots, wipeE, List.set_cons_zero, List.set_cons_succ, List.set_nil, List.take_nil, List.take_zero, m_f, m_t, r_int, r_bl, r_str, r_non, r_tup, r_lstf, r_lstt, r_v, r_newf, r_newt, List.any_cons, List.any_nil, owned, Bool.or_false, Bool.false_or, fl_bl, fl_int, fl_str, fl_non, fl_rs, exists_eq', Ct.lst.injEq, Ct.ob.injEq, D.kst.injEq, List.take_succ_cons, dat_lst, dat_ob, dat_fz, Option.some.injEq, SV.d.injEq, D.int.injEq, forall_eq', reduceCtorEq, false_implies, forall_const, Bool.false_eq_true, List.set, true_or, if_true, if_false, Bool.not_true, Bool.not_false]
    refine s_mixed (by omega) (by omega) fun q q0 q1 => ?_
    simp only [fnT, startE, List.length_cons, List.length_nil, List.map_cons, List.map_nil, List.cons_append, List.nil_append, Nat.sub_self, Nat.reduceSub, Nat.reduceAdd, Nat.reduceLT, List.replicate_zero, List.reduceReplicate, List.replicate_succ, wpSs, wpS, wpE, wpEs, wpT, wpI, wpC, List.getElem?_cons_zero, List.getElem?_cons_succ, List.getElem?_nil, den, dens, back, true_and, and_true, nrmE, nrmT, frzSlots, cutV1, frzT, frzL, eq_ii, eq_bb, eq_ss, eq_nn, D.isNon, o_add, o_adds, o_addl, o_sub, o_addt, n_split, n_find, o_mul, o_rep, o_div, o_mod, o_pow, c_lt, c_le, c_gt, c_ge, c_lts, c_eq, c_ne, c_is, c_isnot, c_in, c_notin, t_bl, t_non, t_int, t_lst, t_tup, x_lst, x_tup, x_scr, x_str, u_lst, u_scr, u_str, b_lenl, b_lent, b_lenc, b_lens, b_abs, b_max2, b_min2, b_int, b_inb, b_tup, b_dm, b_srtk, i_lst, i_tup, i_scr, is_n, is_b, exists_eq_left', exists_eq_left, exists_eq_right, Option.some.injEq,  partD, setS, setAll, tgD, tgSlots, wipeE, List.set_cons_zero, List.set_cons_succ, List.set_nil, List.take_nil, List.take_zero, m_f, m_t, r_int, r_bl, r_str, r_non, r_tup, r_lstf, r_lstt, r_v, r_newf, r_newt, List.any_cons, List.any_nil, owned, Bool.or_false, Bool.false_or, fl_bl, fl_int, fl_str, fl_non, fl_rs, exists_eq', Ct.lst.injEq, Ct.ob.injEq, D.kst.injEq, List.take_succ_cons, dat_lst, dat_ob, dat_fz, Option.some.injEq, SV.d.injEq, D.int.injEq, forall_eq', reduceCtorEq, false_implies, forall_const, Bool.false_eq_true, List.set, true_or, if_true, if_false, Bool.not_true, Bool.not_false]
    refine ⟨hm0, by omega, by omega, fun j acc => acc = iL ((List.range j).map fun (a : Nat) => (q % m + (a : Int)) % m), rfl, ?_, ?_⟩
    · rintro j x acc hx rfl
      obtain ⟨hj, rfl⟩ := rng_it hx
      simp only [b29_0, fnT, startE, List.length_cons, List.length_nil, List.map_cons, List.map_nil, List.cons_append, List.nil_append, Nat.sub_self, Nat.reduceSub, Nat.reduceAdd, Nat.reduceLT, List.replicate_zero, List.reduceReplicate, List.replicate_succ, wpSs, wpS, wpE, wpEs, wpT, wpI, wpC, List.getElem?_cons_zero, List.getElem?_cons_succ, List.getElem?_nil, den, dens, back, true_and, and_true, nrmE, nrmT, frzSlots, cutV1, frzT, frzL, eq_ii, eq_bb, eq_ss, eq_nn, D.isNon, o_add, o_adds, o_addl, o_sub, o_addt, n_split, n_find, o_mul, o_rep, o_div, o_mod, o_pow, c_lt, c_le, c_gt, c_ge, c_lts, c_eq, c_ne, c_is, c_isnot, c_in, c_notin, t_bl, t_non, t_int, t_lst, t_tup, x_lst, x_tup, x_scr, x_str, u_lst, u_scr, u_str, b_lenl, b_lent, b_lenc, b_lens, b_abs, b_max2, b_min2, b_int, b_inb, b_tup, b_dm, b_srtk, i_lst, i_tup, i_scr, is_n, is_b, exists_eq_left', exists_eq_left, exists_eq_right, Option.some.injEq,  partD, setS, setAll, tgD, tgSlots, wipeE, List.set_cons_zero, List.set_cons_succ, List.set_nil, List.take_nil, List.take_zero, m_f, m_t, r_int, r_bl, r_str, r_non, r_tup, r_lstf, r_lstt, r_v, r_newf, r_newt, List.any_cons, List.any_nil, owned, Bool.or_false, Bool.false_or, fl_bl, fl_int, fl_str, fl_non, fl_rs, exists_eq', Ct.lst.injEq, Ct.ob.injEq, D.kst.injEq, List.take_succ_cons, dat_lst, dat_ob, dat_fz, Option.some.injEq, SV.d.injEq, D.int.injEq, forall_eq', reduceCtorEq, false_implies, forall_const, Bool.false_eq_true, List.set, true_or, if_true, if_false, Bool.not_true, Bool.not_false]
      refine ⟨hm0, _, [], rfl, rfl, sizeLine_lt (by rw [len_ints, List.length_map, List.length_range]; omega), ?_⟩
      rw [List.range_succ, app_ints]
      simp
    · rintro acc rfl
      rw [rng_len]
      generalize hus : ((List.range m.toNat).map fun (a : Nat) => (q % m + (a : Int)) % m) = us
      have hul : us.length = m.toNat := by rw [← hus]; simp
      have hu0 : Lt us m := fun v hv => by
        rw [← hus] at hv
        obtain ⟨a, _, rfl⟩ := List.mem_map.mp hv
        exact ⟨Int.emod_nonneg _ (by omega), Int.emod_lt_of_pos _ hm0⟩
      have hall : ∀ v, 0 ≤ v → v < m → v ∈ us := fun v v0 v1 => by
        rw [← hus]
        have a0 := Int.emod_nonneg (v - q % m) (Int.ne_of_gt hm0)
        have a1 := Int.emod_lt_of_pos (v - q % m) hm0
        refine List.mem_map.mpr ⟨((v - q % m) % m).toNat, List.mem_range.mpr (by omega), ?_⟩
        have e : (((v - q % m) % m).toNat : Int) = (v - q % m) % m := by omega
        rw [e, Int.add_comm, Int.emod_add_emod]
        rw [show v - q % m + q % m = v by omega]
        exact Int.emod_eq_of_lt v0 v1
      refine ⟨fun j acc => acc = iL ((us.take j).filter fun v => fitB ws v m), rfl, ?_, ?_⟩
      · rintro j x acc hx rfl
        obtain ⟨v, hv, rfl⟩ := lst_it hx
        have hj := (List.getElem?_eq_some_iff.mp hv).1
        simp only [b29_1, b29_2, fnT, startE, List.length_cons, List.length_nil, List.map_cons, List.map_nil, List.cons_append, List.nil_append, Nat.sub_self, Nat.reduceSub, Nat.reduceAdd, Nat.reduceLT, List.replicate_zero, List.reduceReplicate, List.replicate_succ, wpSs, wpS, wpE, wpEs, wpT, wpI, wpC, List.getElem?_cons_zero, List.getElem?_cons_succ, List.getElem?_nil, den, dens, back, true_and, and_true, nrmE, nrmT, frzSlots, cutV1, frzT, frzL, eq_ii, eq_bb, eq_ss, eq_nn, D.isNon, o_add, o_adds, o_addl, o_sub, o_addt, n_split, n_find, o_mul, o_rep, o_div, o_mod, o_pow, c_lt, c_le, c_gt, c_ge, c_lts, c_eq, c_ne, c_is, c_isnot, c_in, c_notin, t_bl, t_non, t_int, t_lst, t_tup, x_lst, x_tup, x_scr, x_str, u_lst, u_scr, u_str, b_lenl, b_lent, b_lenc, b_lens, b_abs, b_max2, b_min2, b_int, b_inb, b_tup, b_dm, b_srtk, i_lst, i_tup, i_scr, is_n, is_b, exists_eq_left', exists_eq_left, exists_eq_right, Option.some.injEq,  partD, setS, setAll, tgD, tgSlots, wipeE, List.set_cons_zero, List.set_cons_succ, List.set_nil, List.take_nil, List.take_zero, m_f, m_t, r_int, r_bl, r_str, r_non, r_tup, r_lstf, r_lstt, r_v, r_newf, r_newt, List.any_cons, List.any_nil, owned, Bool.or_false, Bool.false_or, fl_bl, fl_int, fl_str, fl_non, fl_rs, exists_eq', Ct.lst.injEq, Ct.ob.injEq, D.kst.injEq, List.take_succ_cons, dat_lst, dat_ob, dat_fz, Option.some.injEq, SV.d.injEq, D.int.injEq, forall_eq', reduceCtorEq, false_implies, forall_const, Bool.false_eq_true, List.set, true_or, if_true, if_false, Bool.not_true, Bool.not_false]
        refine s_lsafe (hu0 v (List.mem_of_getElem? hv)).1 hm0 ?_
        have fl : ((us.take j).filter fun v => fitB ws v m).length ≤ 26 := Nat.le_trans (List.length_filter_le _ _) (by rw [List.length_take]; omega)
        simp only [fnT, startE, List.length_cons, List.length_nil, List.map_cons, List.map_nil, List.cons_append, List.nil_append, Nat.sub_self, Nat.reduceSub, Nat.reduceAdd, Nat.reduceLT, List.replicate_zero, List.reduceReplicate, List.replicate_succ, wpSs, wpS, wpE, wpEs, wpT, wpI, wpC, List.getElem?_cons_zero, List.getElem?_cons_succ, List.getElem?_nil, den, dens, back, true_and, and_true, nrmE, nrmT, frzSlots, cutV1, frzT, frzL, eq_ii, eq_bb, eq_ss, eq_nn, D.isNon, o_add, o_adds, o_addl, o_sub, o_addt, n_split, n_find, o_mul, o_rep, o_div, o_mod, o_pow, c_lt, c_le, c_gt, c_ge, c_lts, c_eq, c_ne, c_is, c_isnot, c_in, c_notin, t_bl, t_non, t_int, t_lst, t_tup, x_lst, x_tup, x_scr, x_str, u_lst, u_scr, u_str, b_lenl, b_lent, b_lenc, b_lens, b_abs, b_max2, b_min2, b_int, b_inb, b_tup, b_dm, b_srtk, i_lst, i_tup, i_scr, is_n, is_b, exists_eq_left', exists_eq_left, exists_eq_right, Option.some.injEq,  partD, setS, setAll, tgD, tgSlots, wipeE, List.set_cons_zero, List.set_cons_succ, List.set_nil, List.take_nil, List.take_zero, m_f, m_t, r_int, r_bl, r_str, r_non, r_tup, r_lstf, r_lstt, r_v, r_newf, r_newt, List.any_cons, List.any_nil, owned, Bool.or_false, Bool.false_or, fl_bl, fl_int, fl_str, fl_non, fl_rs, exists_eq', Ct.lst.injEq, Ct.ob.injEq, D.kst.injEq, List.take_succ_cons, dat_lst, dat_ob, dat_fz, Option.some.injEq, SV.d.injEq, D.int.injEq, forall_eq', reduceCtorEq, false_implies, forall_const, Bool.false_eq_true, List.set, true_or, if_true, if_false, Bool.not_true, Bool.not_false]
        refine ⟨⟨[], rfl⟩, fun hb => ⟨_, [], rfl, rfl, sizeLine_lt (by rw [len_ints]; omega), ?_⟩, fun hb => ?_⟩
        · rw [List.take_add_one, hv, app_ints, List.filter_append]
          simp [hb]
        · rw [List.take_add_one, hv, List.filter_append]
          simp [hb]
      · rintro acc rfl
        have el : (us.map D.int).length = us.length := List.length_map ..
        rw [el, List.take_length]
        obtain ⟨w, w0, w1, wf⟩ := fit_some hm ho hS
        have wm : w ∈ us.filter fun v => fitB ws v m := List.mem_filter.mpr ⟨hall w w0 w1, fitB_iff.mpr wf⟩
        generalize hf : (us.filter fun v => fitB ws v m) = fs at wm
        have ff : ∀ v ∈ fs, fit ws v m ∧ 0 ≤ v ∧ v < m := fun v hv => by
          rw [← hf] at hv
          have := List.mem_filter.mp hv
          exact ⟨fitB_iff.mp this.2, hu0 v this.1⟩
        cases fs with
        | nil => simp at wm
        | cons a fs =>
          obtain ⟨f1, f2, f3⟩ := ff a List.mem_cons_self
          refine ⟨.int a, getl (i := 0) rfl, ?_⟩
          refine ⟨sizeLine_lt (by rw [len_ints]; omega), ?_⟩
          exact ⟨_, _, _, _, _, _, rfl, by rw [app_ints], by rw [List.length_append, List.length_singleton, hw], hL.snoc f2 f3, hS.snoc f1⟩
  · rintro e l ⟨ws, x', y', u', v', w', rfl, rfl, hw, hL, hS⟩
    simp only [fnT, startE, List.length_cons, List.length_nil, List.map_cons, List.map_nil, List.cons_append, List.nil_append, Nat.sub_self, Nat.reduceSub, Nat.reduceAdd, Nat.reduceLT, List.replicate_zero, List.reduceReplicate, List.replicate_succ, wpSs, wpS, wpE, wpEs, wpT, wpI, wpC, List.getElem?_cons_zero, List.getElem?_cons_succ, List.getElem?_nil, den, dens, back, true_and, and_true, nrmE, nrmT, frzSlots, cutV1, frzT, frzL, eq_ii, eq_bb, eq_ss, eq_nn, D.isNon, o_add, o_adds, o_addl, o_sub, o_addt, n_split, n_find, o_mul, o_rep, o_div, o_mod, o_pow, c_lt, c_le, c_gt, c_ge, c_lts, c_eq, c_ne, c_is, c_isnot, c_in, c_notin, t_bl, t_non, t_int, t_lst, t_tup, x_lst, x_tup, x_scr, x_str, u_lst, u_scr, u_str, b_lenl, b_lent, b_lenc, b_lens, b_abs, b_max2, b_min2, b_int, b_inb, b_tup, b_dm, b_srtk, i_lst, i_tup, i_scr, is_n, is_b, exists_eq_left', exists_eq_left, exists_eq_right, Option.some.injEq,  partD, setS, setAll, tgD, tgSlots, wipeE, List.set_cons_zero, List.set_cons_succ, List.set_nil, List.take_nil, List.take_zero, m_f, m_t, r_int, r_bl, r_str, r_non, r_tup, r_lstf, r_lstt, r_v, r_newf, r_newt, List.any_cons, List.any_nil, owned, Bool.or_false, Bool.false_or, fl_bl, fl_int, fl_str, fl_non, fl_rs, exists_eq', Ct.lst.injEq, Ct.ob.injEq, D.kst.injEq, List.take_succ_cons, dat_lst, dat_ob, dat_fz, Option.some.injEq, SV.d.injEq, D.int.injEq, forall_eq', reduceCtorEq, false_implies, forall_const, Bool.false_eq_true, List.set, true_or, if_true, if_false, Bool.not_true, Bool.not_false]
    exact h ws (by rw [hw, rng_len, Int.toNat_natCast]) hL hS
theorem s_code {n : Nat} {c : Int} {k z} (h : ∀ (cs : List Nat) (ws : List Int) (r : Int), cs.Nodup → 3 ≤ cs.length → cs.length ≤ 25 → cs.length % 2 = 1 → (∀ x ∈ cs, 97 ≤ x ∧ x < 123) → 3 ≤ ws.length → ws.length ≤ 8 → Lt ws cs.length → Safe ws cs.length → 0 ≤ r → r < cs.length →
    k (.v (.lst [.str (sL cs), .lst (iL ws), .int r]))) : wpF fnT gcT (n+4) 30 [.int c] k z := by
  unfold wpF
  simp only [f30, b30, fnT, startE, List.length_cons, List.length_nil, List.map_cons, List.map_nil, List.cons_append, List.nil_append, Nat.sub_self, Nat.reduceSub, Nat.reduceAdd, Nat.reduceLT, List.replicate_zero, List.reduceReplicate, List.replicate_succ, wpSs, wpS, wpE, wpEs, wpT, wpI, wpC, List.getElem?_cons_zero, List.getElem?_cons_succ, List.getElem?_nil, den, dens, back, true_and, and_true, nrmE, nrmT, frzSlots, cutV1, frzT, frzL, eq_ii, eq_bb, eq_ss, eq_nn, D.isNon, o_add, o_adds, o_addl, o_sub, o_addt, n_split, n_find, o_mul, o_rep, o_div, o_mod, o_pow, c_lt, c_le, c_gt, c_ge, c_lts, c_eq, c_ne, c_is, c_isnot, c_in, c_notin, t_bl, t_non, t_int, t_lst, t_tup, x_lst, x_tup, x_scr, x_str, u_lst, u_scr, u_str, b_lenl, b_lent, b_lenc, b_lens, b_abs, b_max2, b_min2, b_int, b_inb, b_tup, b_dm, b_srtk, i_lst, i_tup, i_scr, is_n, is_b, exists_eq_left', exists_eq_left, exists_eq_right, Option.some.injEq,  partD, setS, setAll, tgD, tgSlots, wipeE, List.set_cons_zero, List.set_cons_succ, List.set_nil, List.take_nil, List.take_zero, m_f, m_t, r_int, r_bl, r_str, r_non, r_tup, r_lstf, r_lstt, r_v, r_newf, r_newt, List.any_cons, List.any_nil, owned, Bool.or_false, Bool.false_or, fl_bl, fl_int, fl_str, fl_non, fl_rs, exists_eq', Ct.lst.injEq, Ct.ob.injEq, D.kst.injEq, List.take_succ_cons, dat_lst, dat_ob, dat_fz, Option.some.injEq, SV.d.injEq, D.int.injEq, forall_eq', reduceCtorEq, false_implies, forall_const, Bool.false_eq_true, List.set, true_or, if_true, if_false, Bool.not_true, Bool.not_false]
  refine s_mixed (by decide) (by decide) fun a a0 a1 => ?_
  simp only [fnT, startE, List.length_cons, List.length_nil, List.map_cons, List.map_nil, List.cons_append, List.nil_append, Nat.sub_self, Nat.reduceSub, Nat.reduceAdd, Nat.reduceLT, List.replicate_zero, List.reduceReplicate, List.replicate_succ, wpSs, wpS, wpE, wpEs, wpT, wpI, wpC, List.getElem?_cons_zero, List.getElem?_cons_succ, List.getElem?_nil, den, dens, back, true_and, and_true, nrmE, nrmT, frzSlots, cutV1, frzT, frzL, eq_ii, eq_bb, eq_ss, eq_nn, D.isNon, o_add, o_adds, o_addl, o_sub, o_addt, n_split, n_find, o_mul, o_rep, o_div, o_mod, o_pow, c_lt, c_le, c_gt, c_ge, c_lts, c_eq, c_ne, c_is, c_isnot, c_in, c_notin, t_bl, t_non, t_int, t_lst, t_tup, x_lst, x_tup, x_scr, x_str, u_lst, u_scr, u_str, b_lenl, b_lent, b_lenc, b_lens, b_abs, b_max2, b_min2, b_int, b_inb, b_tup, b_dm, b_srtk, i_lst, i_tup, i_scr, is_n, is_b, exists_eq_left', exists_eq_left, exists_eq_right, Option.some.injEq,  partD, setS, setAll, tgD, tgSlots, wipeE, List.set_cons_zero, List.set_cons_succ, List.set_nil, List.take_nil, List.take_zero, m_f, m_t, r_int, r_bl, r_str, r_non, r_tup, r_lstf, r_lstt, r_v, r_newf, r_newt, List.any_cons, List.any_nil, owned, Bool.or_false, Bool.false_or, fl_bl, fl_int, fl_str, fl_non, fl_rs, exists_eq', Ct.lst.injEq, Ct.ob.injEq, D.kst.injEq, List.take_succ_cons, dat_lst, dat_ob, dat_fz, Option.some.injEq, SV.d.injEq, D.int.injEq, forall_eq', reduceCtorEq, false_implies, forall_const, Bool.false_eq_true, List.set, true_or, if_true, if_false, Bool.not_true, Bool.not_false]
  have x0 := Int.emod_nonneg a (show (12 : Int) ≠ 0 by decide)
  have x1 := Int.emod_lt_of_pos a (show (0 : Int) < 12 by decide)
  refine ⟨by decide, mul_of 10 10 (by decide) (by omega) (by decide), ?_⟩
  refine s_mixed (by decide) (by decide) fun b b0 b1 => ?_
  simp only [fnT, startE, List.length_cons, List.length_nil, List.map_cons, List.map_nil, List.cons_append, List.nil_append, Nat.sub_self, Nat.reduceSub, Nat.reduceAdd, Nat.reduceLT, List.replicate_zero, List.reduceReplicate, List.replicate_succ, wpSs, wpS, wpE, wpEs, wpT, wpI, wpC, List.getElem?_cons_zero, List.getElem?_cons_succ, List.getElem?_nil, den, dens, back, true_and, and_true, nrmE, nrmT, frzSlots, cutV1, frzT, frzL, eq_ii, eq_bb, eq_ss, eq_nn, D.isNon, o_add, o_adds, o_addl, o_sub, o_addt, n_split, n_find, o_mul, o_rep, o_div, o_mod, o_pow, c_lt, c_le, c_gt, c_ge, c_lts, c_eq, c_ne, c_is, c_isnot, c_in, c_notin, t_bl, t_non, t_int, t_lst, t_tup, x_lst, x_tup, x_scr, x_str, u_lst, u_scr, u_str, b_lenl, b_lent, b_lenc, b_lens, b_abs, b_max2, b_min2, b_int, b_inb, b_tup, b_dm, b_srtk, i_lst, i_tup, i_scr, is_n, is_b, exists_eq_left', exists_eq_left, exists_eq_right, Option.some.injEq,  partD, setS, setAll, tgD, tgSlots, wipeE, List.set_cons_zero, List.set_cons_succ, List.set_nil, List.take_nil, List.take_zero, m_f, m_t, r_int, r_bl, r_str, r_non, r_tup, r_lstf, r_lstt, r_v, r_newf, r_newt, List.any_cons, List.any_nil, owned, Bool.or_false, Bool.false_or, fl_bl, fl_int, fl_str, fl_non, fl_rs, exists_eq', Ct.lst.injEq, Ct.ob.injEq, D.kst.injEq, List.take_succ_cons, dat_lst, dat_ob, dat_fz, Option.some.injEq, SV.d.injEq, D.int.injEq, forall_eq', reduceCtorEq, false_implies, forall_const, Bool.false_eq_true, List.set, true_or, if_true, if_false, Bool.not_true, Bool.not_false]
  have y0 := Int.emod_nonneg b (show (6 : Int) ≠ 0 by decide)
  have y1 := Int.emod_lt_of_pos b (show (0 : Int) < 6 by decide)
  refine ⟨by decide, ?_⟩
  generalize hm : 3 + 2 * (a % 12) = m at *
  have m3 : 3 ≤ m := by omega
  have m25 : m ≤ 25 := by omega
  have mo : m % 2 = 1 := by omega
  obtain ⟨len, hlen⟩ : ∃ len : Nat, 3 + b % 6 = (len : Int) := ⟨(3 + b % 6).toNat, by omega⟩
  rw [hlen]
  refine s_weightsS m3 (by omega) mo (by omega) fun ws hw hL hS => ?_
  simp only [fnT, startE, List.length_cons, List.length_nil, List.map_cons, List.map_nil, List.cons_append, List.nil_append, Nat.sub_self, Nat.reduceSub, Nat.reduceAdd, Nat.reduceLT, List.replicate_zero, List.reduceReplicate, List.replicate_succ, wpSs, wpS, wpE, wpEs, wpT, wpI, wpC, List.getElem?_cons_zero, List.getElem?_cons_succ, List.getElem?_nil, den, dens, back, true_and, and_true, nrmE, nrmT, frzSlots, cutV1, frzT, frzL, eq_ii, eq_bb, eq_ss, eq_nn, D.isNon, o_add, o_adds, o_addl, o_sub, o_addt, n_split, n_find, o_mul, o_rep, o_div, o_mod, o_pow, c_lt, c_le, c_gt, c_ge, c_lts, c_eq, c_ne, c_is, c_isnot, c_in, c_notin, t_bl, t_non, t_int, t_lst, t_tup, x_lst, x_tup, x_scr, x_str, u_lst, u_scr, u_str, b_lenl, b_lent, b_lenc, b_lens, b_abs, b_max2, b_min2, b_int, b_inb, b_tup, b_dm, b_srtk, i_lst, i_tup, i_scr, is_n, is_b, exists_eq_left', exists_eq_left, exists_eq_right, Option.some.injEq,  partD, setS, setAll, tgD, tgSlots, wipeE, List.set_cons_zero, List.set_cons_succ, List.set_nil, List.take_nil, List.take_zero, m_f, m_t, r_int, r_bl, r_str, r_non, r_tup, r_lstf, r_lstt, r_v, r_newf, r_newt, List.any_cons, List.any_nil, owned, Bool.or_false, Bool.false_or, fl_bl, fl_int, fl_str, fl_non, fl_rs, exists_eq', Ct.lst.injEq, Ct.ob.injEq, D.kst.injEq, List.take_succ_cons, dat_lst, dat_ob, dat_fz, Option.some.injEq, SV.d.injEq, D.int.injEq, forall_eq', reduceCtorEq, false_implies, forall_const, Bool.false_eq_true, List.set, true_or, if_true, if_false, Bool.not_true, Bool.not_false]
  refine s_alphabet (by omega) (by omega) fun cs hc cm hcs => ?_
  simp only [fnT, startE, List.length_cons, List.length_nil, List.map_cons, List.map_nil, List.cons_append, List.nil_append, Nat.sub_self, Nat.reduceSub, Nat.reduceAdd, Nat.reduceLT, List.replicate_zero, List.reduceReplicate, List.replicate_succ, wpSs, wpS, wpE, wpEs, wpT, wpI, wpC, List.getElem?_cons_zero, List.getElem?_cons_succ, List.getElem?_nil, den, dens, back, true_and, and_true, nrmE, nrmT, frzSlots, cutV1, frzT, frzL, eq_ii, eq_bb, eq_ss, eq_nn, D.isNon, o_add, o_adds, o_addl, o_sub, o_addt, n_split, n_find, o_mul, o_rep, o_div, o_mod, o_pow, c_lt, c_le, c_gt, c_ge, c_lts, c_eq, c_ne, c_is, c_isnot, c_in, c_notin, t_bl, t_non, t_int, t_lst, t_tup, x_lst, x_tup, x_scr, x_str, u_lst, u_scr, u_str, b_lenl, b_lent, b_lenc, b_lens, b_abs, b_max2, b_min2, b_int, b_inb, b_tup, b_dm, b_srtk, i_lst, i_tup, i_scr, is_n, is_b, exists_eq_left', exists_eq_left, exists_eq_right, Option.some.injEq,  partD, setS, setAll, tgD, tgSlots, wipeE, List.set_cons_zero, List.set_cons_succ, List.set_nil, List.take_nil, List.take_zero, m_f, m_t, r_int, r_bl, r_str, r_non, r_tup, r_lstf, r_lstt, r_v, r_newf, r_newt, List.any_cons, List.any_nil, owned, Bool.or_false, Bool.false_or, fl_bl, fl_int, fl_str, fl_non, fl_rs, exists_eq', Ct.lst.injEq, Ct.ob.injEq, D.kst.injEq, List.take_succ_cons, dat_lst, dat_ob, dat_fz, Option.some.injEq, SV.d.injEq, D.int.injEq, forall_eq', reduceCtorEq, false_implies, forall_const, Bool.false_eq_true, List.set, true_or, if_true, if_false, Bool.not_true, Bool.not_false]
  refine s_mixed (by decide) (by decide) fun r r0 r1 => ?_
  simp only [fnT, startE, List.length_cons, List.length_nil, List.map_cons, List.map_nil, List.cons_append, List.nil_append, Nat.sub_self, Nat.reduceSub, Nat.reduceAdd, Nat.reduceLT, List.replicate_zero, List.reduceReplicate, List.replicate_succ, wpSs, wpS, wpE, wpEs, wpT, wpI, wpC, List.getElem?_cons_zero, List.getElem?_cons_succ, List.getElem?_nil, den, dens, back, true_and, and_true, nrmE, nrmT, frzSlots, cutV1, frzT, frzL, eq_ii, eq_bb, eq_ss, eq_nn, D.isNon, o_add, o_adds, o_addl, o_sub, o_addt, n_split, n_find, o_mul, o_rep, o_div, o_mod, o_pow, c_lt, c_le, c_gt, c_ge, c_lts, c_eq, c_ne, c_is, c_isnot, c_in, c_notin, t_bl, t_non, t_int, t_lst, t_tup, x_lst, x_tup, x_scr, x_str, u_lst, u_scr, u_str, b_lenl, b_lent, b_lenc, b_lens, b_abs, b_max2, b_min2, b_int, b_inb, b_tup, b_dm, b_srtk, i_lst, i_tup, i_scr, is_n, is_b, exists_eq_left', exists_eq_left, exists_eq_right, Option.some.injEq,  partD, setS, setAll, tgD, tgSlots, wipeE, List.set_cons_zero, List.set_cons_succ, List.set_nil, List.take_nil, List.take_zero, m_f, m_t, r_int, r_bl, r_str, r_non, r_tup, r_lstf, r_lstt, r_v, r_newf, r_newt, List.any_cons, List.any_nil, owned, Bool.or_false, Bool.false_or, fl_bl, fl_int, fl_str, fl_non, fl_rs, exists_eq', Ct.lst.injEq, Ct.ob.injEq, D.kst.injEq, List.take_succ_cons, dat_lst, dat_ob, dat_fz, Option.some.injEq, SV.d.injEq, D.int.injEq, forall_eq', reduceCtorEq, false_implies, forall_const, Bool.false_eq_true, List.set, true_or, if_true, if_false, Bool.not_true, Bool.not_false]
  have m0 : 0 < m := by omega
  refine ⟨m0, sizeLine_big (by decide), ?_⟩
  subst cm
  exact h cs ws _ hc (by omega) (by omega) (by omega) hcs (by omega) (by omega) hL hS (Int.emod_nonneg _ (by omega)) (Int.emod_lt_of_pos _ m0)
end K09

namespace K09
open PySem L2 PD
theorem dst_nodup {xs : List Nat} (hn : xs.Nodup) : ∀ i, i ≤ xs.length → PDS.dst xs i = i
  | 0, _ => rfl
  | i + 1, h => by
    have hx : xs[i]? = some xs[i] := List.getElem?_eq_getElem (by omega)
    have no : PDS.met xs i ⟨#[xs[i]]⟩ = false := by
      unfold PDS.met
      rw [List.any_eq_false]
      intro d hd e
      have e2 : (⟨#[d]⟩ : Str) = ⟨#[xs[i]]⟩ := by simpa using e
      have e3 : d = xs[i] := by simpa using congrArg (fun s : Str => s.cps.toList) e2
      subst e3
      obtain ⟨j, hj⟩ := List.getElem?_of_mem hd
      have hji : j < i := by
        have := (List.getElem?_eq_some_iff.mp hj).1
        rw [List.length_take] at this
        omega
      rw [List.getElem?_take_of_lt hji] at hj
      obtain ⟨h2, e4⟩ := List.getElem?_eq_some_iff.mp hj
      have := (List.getElem_inj hn).mp e4
      omega
    rw [PDS.dst_succ hx, no, dst_nodup hn i (by omega)]
    rfl
def whole : D → Bool | .int _ => true | _ => false
def plainD : D → Bool | .obj _ _ => false | .kst _ => false | _ => true
theorem s_whole {n : Nat} {x : D} {k z} (hx : plainD x = true) (h : k (.v (.bl (whole x)))) : wpF fnT gcT (n+1) 6 [x] k z := by
  unfold wpF
  simp only [f6, b6, fnT, startE, List.length_cons, List.length_nil, List.map_cons, List.map_nil, List.cons_append, List.nil_append, Nat.sub_self, Nat.reduceSub, Nat.reduceAdd, Nat.reduceLT, List.replicate_zero, List.reduceReplicate, List.replicate_succ, wpSs, wpS, wpE, wpEs, wpT, wpI, wpC, List.getElem?_cons_zero, List.getElem?_cons_succ, List.getElem?_nil, den, dens, back, true_and, and_true, nrmE, nrmT, frzSlots, cutV1, frzT, frzL, eq_ii, eq_bb, eq_ss, eq_nn, D.isNon, o_add, o_adds, o_addl, o_sub, o_addt, n_split, n_find, o_mul, o_rep, o_div, o_mod, o_pow, c_lt, c_le, c_gt, c_ge, c_lts, c_eq, c_ne, c_is, c_isnot, c_in, c_notin, t_bl, t_non, t_int, t_lst, t_tup, x_lst, x_tup, x_scr, x_str, u_lst, u_scr, u_str, b_lenl, b_lent, b_lenc, b_lens, b_abs, b_max2, b_min2, b_int, b_inb, b_tup, b_dm, b_srtk, i_lst, i_tup, i_scr, is_n, is_b, exists_eq_left', exists_eq_left, exists_eq_right, Option.some.injEq,  partD, setS, setAll, tgD, tgSlots, wipeE, List.set_cons_zero, List.set_cons_succ, List.set_nil, List.take_nil, List.take_zero, m_f, m_t, r_int, r_bl, r_str, r_non, r_tup, r_lstf, r_lstt, r_v, r_newf, r_newt, List.any_cons, List.any_nil, owned, Bool.or_false, Bool.false_or, fl_bl, fl_int, fl_str, fl_non, fl_rs, exists_eq', Ct.lst.injEq, Ct.ob.injEq, D.kst.injEq, List.take_succ_cons, dat_lst, dat_ob, dat_fz, Option.some.injEq, SV.d.injEq, D.int.injEq, forall_eq', reduceCtorEq, false_implies, forall_const, Bool.false_eq_true, List.set, true_or, if_true, if_false, Bool.not_true, Bool.not_false]
  cases x <;> first | exact Bool.noConfusion hx | skip
  all_goals
    simp only [tyD, fnT, startE, List.length_cons, List.length_nil, List.map_cons, List.map_nil, List.cons_append, List.nil_append, Nat.sub_self, Nat.reduceSub, Nat.reduceAdd, Nat.reduceLT, List.replicate_zero, List.reduceReplicate, List.replicate_succ, wpSs, wpS, wpE, wpEs, wpT, wpI, wpC, List.getElem?_cons_zero, List.getElem?_cons_succ, List.getElem?_nil, den, dens, back, true_and, and_true, nrmE, nrmT, frzSlots, cutV1, frzT, frzL, eq_ii, eq_bb, eq_ss, eq_nn, D.isNon, o_add, o_adds, o_addl, o_sub, o_addt, n_split, n_find, o_mul, o_rep, o_div, o_mod, o_pow, c_lt, c_le, c_gt, c_ge, c_lts, c_eq, c_ne, c_is, c_isnot, c_in, c_notin, t_bl, t_non, t_int, t_lst, t_tup, x_lst, x_tup, x_scr, x_str, u_lst, u_scr, u_str, b_lenl, b_lent, b_lenc, b_lens, b_abs, b_max2, b_min2, b_int, b_inb, b_tup, b_dm, b_srtk, i_lst, i_tup, i_scr, is_n, is_b, exists_eq_left', exists_eq_left, exists_eq_right, Option.some.injEq,  partD, setS, setAll, tgD, tgSlots, wipeE, List.set_cons_zero, List.set_cons_succ, List.set_nil, List.take_nil, List.take_zero, m_f, m_t, r_int, r_bl, r_str, r_non, r_tup, r_lstf, r_lstt, r_v, r_newf, r_newt, List.any_cons, List.any_nil, owned, Bool.or_false, Bool.false_or, fl_bl, fl_int, fl_str, fl_non, fl_rs, exists_eq', Ct.lst.injEq, Ct.ob.injEq, D.kst.injEq, List.take_succ_cons, dat_lst, dat_ob, dat_fz, Option.some.injEq, SV.d.injEq, D.int.injEq, forall_eq', reduceCtorEq, false_implies, forall_const, Bool.false_eq_true, List.set, true_or, if_true, if_false, Bool.not_true, Bool.not_false]
    first
      | exact h
      | exact ⟨fun q => by simp at q, fun _ => h⟩
      | exact ⟨fun _ => h, fun q => by simp at q⟩
theorem s_place {n : Nat} {x m : Int} {k z} (h : k (.v (.bl (decide (0 ≤ x) && decide (x < m))))) : wpF fnT gcT (n+2) 13 [.int x, .int m] k z := by
  unfold wpF
  simp only [f13, b13, fnT, startE, List.length_cons, List.length_nil, List.map_cons, List.map_nil, List.cons_append, List.nil_append, Nat.sub_self, Nat.reduceSub, Nat.reduceAdd, Nat.reduceLT, List.replicate_zero, List.reduceReplicate, List.replicate_succ, wpSs, wpS, wpE, wpEs, wpT, wpI, wpC, List.getElem?_cons_zero, List.getElem?_cons_succ, List.getElem?_nil, den, dens, back, true_and, and_true, nrmE, nrmT, frzSlots, cutV1, frzT, frzL, eq_ii, eq_bb, eq_ss, eq_nn, D.isNon, o_add, o_adds, o_addl, o_sub, o_addt, n_split, n_find, o_mul, o_rep, o_div, o_mod, o_pow, c_lt, c_le, c_gt, c_ge, c_lts, c_eq, c_ne, c_is, c_isnot, c_in, c_notin, t_bl, t_non, t_int, t_lst, t_tup, x_lst, x_tup, x_scr, x_str, u_lst, u_scr, u_str, b_lenl, b_lent, b_lenc, b_lens, b_abs, b_max2, b_min2, b_int, b_inb, b_tup, b_dm, b_srtk, i_lst, i_tup, i_scr, is_n, is_b, exists_eq_left', exists_eq_left, exists_eq_right, Option.some.injEq,  partD, setS, setAll, tgD, tgSlots, wipeE, List.set_cons_zero, List.set_cons_succ, List.set_nil, List.take_nil, List.take_zero, m_f, m_t, r_int, r_bl, r_str, r_non, r_tup, r_lstf, r_lstt, r_v, r_newf, r_newt, List.any_cons, List.any_nil, owned, Bool.or_false, Bool.false_or, fl_bl, fl_int, fl_str, fl_non, fl_rs, exists_eq', Ct.lst.injEq, Ct.ob.injEq, D.kst.injEq, List.take_succ_cons, dat_lst, dat_ob, dat_fz, Option.some.injEq, SV.d.injEq, D.int.injEq, forall_eq', reduceCtorEq, false_implies, forall_const, Bool.false_eq_true, List.set, true_or, if_true, if_false, Bool.not_true, Bool.not_false]
  refine s_whole rfl ?_
  simp only [whole, fnT, startE, List.length_cons, List.length_nil, List.map_cons, List.map_nil, List.cons_append, List.nil_append, Nat.sub_self, Nat.reduceSub, Nat.reduceAdd, Nat.reduceLT, List.replicate_zero, List.reduceReplicate, List.replicate_succ, wpSs, wpS, wpE, wpEs, wpT, wpI, wpC, List.getElem?_cons_zero, List.getElem?_cons_succ, List.getElem?_nil, den, dens, back, true_and, and_true, nrmE, nrmT, frzSlots, cutV1, frzT, frzL, eq_ii, eq_bb, eq_ss, eq_nn, D.isNon, o_add, o_adds, o_addl, o_sub, o_addt, n_split, n_find, o_mul, o_rep, o_div, o_mod, o_pow, c_lt, c_le, c_gt, c_ge, c_lts, c_eq, c_ne, c_is, c_isnot, c_in, c_notin, t_bl, t_non, t_int, t_lst, t_tup, x_lst, x_tup, x_scr, x_str, u_lst, u_scr, u_str, b_lenl, b_lent, b_lenc, b_lens, b_abs, b_max2, b_min2, b_int, b_inb, b_tup, b_dm, b_srtk, i_lst, i_tup, i_scr, is_n, is_b, exists_eq_left', exists_eq_left, exists_eq_right, Option.some.injEq,  partD, setS, setAll, tgD, tgSlots, wipeE, List.set_cons_zero, List.set_cons_succ, List.set_nil, List.take_nil, List.take_zero, m_f, m_t, r_int, r_bl, r_str, r_non, r_tup, r_lstf, r_lstt, r_v, r_newf, r_newt, List.any_cons, List.any_nil, owned, Bool.or_false, Bool.false_or, fl_bl, fl_int, fl_str, fl_non, fl_rs, exists_eq', Ct.lst.injEq, Ct.ob.injEq, D.kst.injEq, List.take_succ_cons, dat_lst, dat_ob, dat_fz, Option.some.injEq, SV.d.injEq, D.int.injEq, forall_eq', reduceCtorEq, false_implies, forall_const, Bool.false_eq_true, List.set, true_or, if_true, if_false, Bool.not_true, Bool.not_false]
  by_cases q : 0 ≤ x
  · rw [decide_eq_true q] at h ⊢
    simpa using h
  · rw [decide_eq_false q] at h ⊢
    simpa using h
/-- what makes a code -/
structure OkC (cs : List Nat) (ws : List Int) (r : Int) : Prop where
  nd : cs.Nodup
  c3 : 3 ≤ cs.length
  c26 : cs.length ≤ 26
  let_ : ∀ x ∈ cs, 97 ≤ x ∧ x < 123
  w3 : 3 ≤ ws.length
  w8 : ws.length ≤ 8
  lt : Lt ws cs.length
  safe : Safe ws cs.length
  r0 : 0 ≤ r
  r1 : r < cs.length
abbrev codeD (cs : List Nat) (ws : List Int) (r : Int) : D := .obj 6 [(0, .str (sL cs)), (1, .lst (iL ws)), (2, .int r)]
theorem repS {i : Nat} : (List.replicate i true).map D.bl ++ [D.bl true] = D.bl true :: (List.replicate i true).map D.bl := by
  rw [List.map_replicate, ← List.replicate_succ', List.replicate_succ]
theorem s_is_alphabet {n : Nat} {cs : List Nat} {k z} (hn : cs.Nodup) (c3 : 3 ≤ cs.length) (c26 : cs.length ≤ 26) (hl : ∀ x ∈ cs, 97 ≤ x ∧ x < 123) (h : k (.v (.bl true))) : wpF fnT gcT (n+1) 12 [.str (sL cs)] k z := by
  unfold wpF
  simp only [f12, b12, tyD, len_sL, fnT, startE, List.length_cons, List.length_nil, List.map_cons, List.map_nil, List.cons_append, List.nil_append, Nat.sub_self, Nat.reduceSub, Nat.reduceAdd, Nat.reduceLT, List.replicate_zero, List.reduceReplicate, List.replicate_succ, wpSs, wpS, wpE, wpEs, wpT, wpI, wpC, List.getElem?_cons_zero, List.getElem?_cons_succ, List.getElem?_nil, den, dens, back, true_and, and_true, nrmE, nrmT, frzSlots, cutV1, frzT, frzL, eq_ii, eq_bb, eq_ss, eq_nn, D.isNon, o_add, o_adds, o_addl, o_sub, o_addt, n_split, n_find, o_mul, o_rep, o_div, o_mod, o_pow, c_lt, c_le, c_gt, c_ge, c_lts, c_eq, c_ne, c_is, c_isnot, c_in, c_notin, t_bl, t_non, t_int, t_lst, t_tup, x_lst, x_tup, x_scr, x_str, u_lst, u_scr, u_str, b_lenl, b_lent, b_lenc, b_lens, b_abs, b_max2, b_min2, b_int, b_inb, b_tup, b_dm, b_srtk, i_lst, i_tup, i_scr, is_n, is_b, exists_eq_left', exists_eq_left, exists_eq_right, Option.some.injEq,  partD, setS, setAll, tgD, tgSlots, wipeE, List.set_cons_zero, List.set_cons_succ, List.set_nil, List.take_nil, List.take_zero, m_f, m_t, r_int, r_bl, r_str, r_non, r_tup, r_lstf, r_lstt, r_v, r_newf, r_newt, List.any_cons, List.any_nil, owned, Bool.or_false, Bool.false_or, fl_bl, fl_int, fl_str, fl_non, fl_rs, exists_eq', Ct.lst.injEq, Ct.ob.injEq, D.kst.injEq, List.take_succ_cons, dat_lst, dat_ob, dat_fz, Option.some.injEq, SV.d.injEq, D.int.injEq, forall_eq', reduceCtorEq, false_implies, forall_const, Bool.false_eq_true, List.set, true_or, if_true, if_false, Bool.not_true, Bool.not_false]
  refine ⟨sizeLine_big (by omega), fun q => by simp at q; omega, fun _ => ⟨sizeLine_big (by omega), fun q => by simp at q; omega, fun _ => ⟨by omega, sizeLine_big (by omega), ?_⟩⟩⟩
  rw [dst_nodup hn _ (Nat.le_refl _)]
  refine ⟨fun q => by simp at q, fun _ => ?_⟩
  simp only [b12_1, fnT, startE, List.length_cons, List.length_nil, List.map_cons, List.map_nil, List.cons_append, List.nil_append, Nat.sub_self, Nat.reduceSub, Nat.reduceAdd, Nat.reduceLT, List.replicate_zero, List.reduceReplicate, List.replicate_succ, wpSs, wpS, wpE, wpEs, wpT, wpI, wpC, List.getElem?_cons_zero, List.getElem?_cons_succ, List.getElem?_nil, den, dens, back, true_and, and_true, nrmE, nrmT, frzSlots, cutV1, frzT, frzL, eq_ii, eq_bb, eq_ss, eq_nn, D.isNon, o_add, o_adds, o_addl, o_sub, o_addt, n_split, n_find, o_mul, o_rep, o_div, o_mod, o_pow, c_lt, c_le, c_gt, c_ge, c_lts, c_eq, c_ne, c_is, c_isnot, c_in, c_notin, t_bl, t_non, t_int, t_lst, t_tup, x_lst, x_tup, x_scr, x_str, u_lst, u_scr, u_str, b_lenl, b_lent, b_lenc, b_lens, b_abs, b_max2, b_min2, b_int, b_inb, b_tup, b_dm, b_srtk, i_lst, i_tup, i_scr, is_n, is_b, exists_eq_left', exists_eq_left, exists_eq_right, Option.some.injEq,  partD, setS, setAll, tgD, tgSlots, wipeE, List.set_cons_zero, List.set_cons_succ, List.set_nil, List.take_nil, List.take_zero, m_f, m_t, r_int, r_bl, r_str, r_non, r_tup, r_lstf, r_lstt, r_v, r_newf, r_newt, List.any_cons, List.any_nil, owned, Bool.or_false, Bool.false_or, fl_bl, fl_int, fl_str, fl_non, fl_rs, exists_eq', Ct.lst.injEq, Ct.ob.injEq, D.kst.injEq, List.take_succ_cons, dat_lst, dat_ob, dat_fz, Option.some.injEq, SV.d.injEq, D.int.injEq, forall_eq', reduceCtorEq, false_implies, forall_const, Bool.false_eq_true, List.set, true_or, if_true, if_false, Bool.not_true, Bool.not_false]
  refine ⟨fun i acc => acc = (List.replicate i true).map D.bl ∧ i ≤ 26, ⟨rfl, by omega⟩, ?_, ?_⟩
  · rintro i x acc hx ⟨rfl, hi⟩
    rw [List.getElem?_map, Option.map_eq_some_iff] at hx
    obtain ⟨c, hc, rfl⟩ := hx
    have hc : cs[i]? = some c := hc
    have hc2 := hl c (List.mem_of_getElem? hc)
    have hi2 := (List.getElem?_eq_some_iff.mp hc).1
    simp only [b12_0, gcT, inD, fnT, startE, List.length_cons, List.length_nil, List.map_cons, List.map_nil, List.cons_append, List.nil_append, Nat.sub_self, Nat.reduceSub, Nat.reduceAdd, Nat.reduceLT, List.replicate_zero, List.reduceReplicate, List.replicate_succ, wpSs, wpS, wpE, wpEs, wpT, wpI, wpC, List.getElem?_cons_zero, List.getElem?_cons_succ, List.getElem?_nil, den, dens, back, true_and, and_true, nrmE, nrmT, frzSlots, cutV1, frzT, frzL, eq_ii, eq_bb, eq_ss, eq_nn, D.isNon, o_add, o_adds, o_addl, o_sub, o_addt, n_split, n_find, o_mul, o_rep, o_div, o_mod, o_pow, c_lt, c_le, c_gt, c_ge, c_lts, c_eq, c_ne, c_is, c_isnot, c_in, c_notin, t_bl, t_non, t_int, t_lst, t_tup, x_lst, x_tup, x_scr, x_str, u_lst, u_scr, u_str, b_lenl, b_lent, b_lenc, b_lens, b_abs, b_max2, b_min2, b_int, b_inb, b_tup, b_dm, b_srtk, i_lst, i_tup, i_scr, is_n, is_b, exists_eq_left', exists_eq_left, exists_eq_right, Option.some.injEq,  partD, setS, setAll, tgD, tgSlots, wipeE, List.set_cons_zero, List.set_cons_succ, List.set_nil, List.take_nil, List.take_zero, m_f, m_t, r_int, r_bl, r_str, r_non, r_tup, r_lstf, r_lstt, r_v, r_newf, r_newt, List.any_cons, List.any_nil, owned, Bool.or_false, Bool.false_or, fl_bl, fl_int, fl_str, fl_non, fl_rs, exists_eq', Ct.lst.injEq, Ct.ob.injEq, D.kst.injEq, List.take_succ_cons, dat_lst, dat_ob, dat_fz, Option.some.injEq, SV.d.injEq, D.int.injEq, forall_eq', reduceCtorEq, false_implies, forall_const, Bool.false_eq_true, List.set, true_or, if_true, if_false, Bool.not_true, Bool.not_false]
    refine ⟨c, rfl, sizeLine_lt (by simp; omega), ?_, by omega⟩
    have e : decide (c ∈ (("abcdefghijklmnopqrstuvwxyz" : Str)).cps.toList) = true := by
      rw [az_str, list_sL, decide_eq_true_eq]
      exact List.mem_map.mpr ⟨c - 97, List.mem_range.mpr (by omega), by omega⟩
    rw [e]
    exact repS
  · rintro acc ⟨rfl, hi⟩
    refine ⟨_, rfl, ?_⟩
    have e : (List.replicate (List.map (fun c => D.str ⟨#[c]⟩) (sL cs).cps.toList).length true).all id = true := by simp
    rw [e]
    exact h
theorem s_are_weights {n : Nat} {ws : List Int} {m : Int} {k z} (w3 : 3 ≤ ws.length) (w8 : ws.length ≤ 8) (hl : Lt ws m) (h : k (.v (.bl true))) : wpF fnT gcT (n+3) 14 [.lst (iL ws), .int m] k z := by
  unfold wpF
  simp only [f14, b14, tyD, len_ints, fnT, startE, List.length_cons, List.length_nil, List.map_cons, List.map_nil, List.cons_append, List.nil_append, Nat.sub_self, Nat.reduceSub, Nat.reduceAdd, Nat.reduceLT, List.replicate_zero, List.reduceReplicate, List.replicate_succ, wpSs, wpS, wpE, wpEs, wpT, wpI, wpC, List.getElem?_cons_zero, List.getElem?_cons_succ, List.getElem?_nil, den, dens, back, true_and, and_true, nrmE, nrmT, frzSlots, cutV1, frzT, frzL, eq_ii, eq_bb, eq_ss, eq_nn, D.isNon, o_add, o_adds, o_addl, o_sub, o_addt, n_split, n_find, o_mul, o_rep, o_div, o_mod, o_pow, c_lt, c_le, c_gt, c_ge, c_lts, c_eq, c_ne, c_is, c_isnot, c_in, c_notin, t_bl, t_non, t_int, t_lst, t_tup, x_lst, x_tup, x_scr, x_str, u_lst, u_scr, u_str, b_lenl, b_lent, b_lenc, b_lens, b_abs, b_max2, b_min2, b_int, b_inb, b_tup, b_dm, b_srtk, i_lst, i_tup, i_scr, is_n, is_b, exists_eq_left', exists_eq_left, exists_eq_right, Option.some.injEq,  partD, setS, setAll, tgD, tgSlots, wipeE, List.set_cons_zero, List.set_cons_succ, List.set_nil, List.take_nil, List.take_zero, m_f, m_t, r_int, r_bl, r_str, r_non, r_tup, r_lstf, r_lstt, r_v, r_newf, r_newt, List.any_cons, List.any_nil, owned, Bool.or_false, Bool.false_or, fl_bl, fl_int, fl_str, fl_non, fl_rs, exists_eq', Ct.lst.injEq, Ct.ob.injEq, D.kst.injEq, List.take_succ_cons, dat_lst, dat_ob, dat_fz, Option.some.injEq, SV.d.injEq, D.int.injEq, forall_eq', reduceCtorEq, false_implies, forall_const, Bool.false_eq_true, List.set, true_or, if_true, if_false, Bool.not_true, Bool.not_false]
  refine ⟨fun q => by simp at q; omega, fun _ => ⟨fun q => by simp at q; omega, fun _ => ?_⟩⟩
  simp only [b14_1, fnT, startE, List.length_cons, List.length_nil, List.map_cons, List.map_nil, List.cons_append, List.nil_append, Nat.sub_self, Nat.reduceSub, Nat.reduceAdd, Nat.reduceLT, List.replicate_zero, List.reduceReplicate, List.replicate_succ, wpSs, wpS, wpE, wpEs, wpT, wpI, wpC, List.getElem?_cons_zero, List.getElem?_cons_succ, List.getElem?_nil, den, dens, back, true_and, and_true, nrmE, nrmT, frzSlots, cutV1, frzT, frzL, eq_ii, eq_bb, eq_ss, eq_nn, D.isNon, o_add, o_adds, o_addl, o_sub, o_addt, n_split, n_find, o_mul, o_rep, o_div, o_mod, o_pow, c_lt, c_le, c_gt, c_ge, c_lts, c_eq, c_ne, c_is, c_isnot, c_in, c_notin, t_bl, t_non, t_int, t_lst, t_tup, x_lst, x_tup, x_scr, x_str, u_lst, u_scr, u_str, b_lenl, b_lent, b_lenc, b_lens, b_abs, b_max2, b_min2, b_int, b_inb, b_tup, b_dm, b_srtk, i_lst, i_tup, i_scr, is_n, is_b, exists_eq_left', exists_eq_left, exists_eq_right, Option.some.injEq,  partD, setS, setAll, tgD, tgSlots, wipeE, List.set_cons_zero, List.set_cons_succ, List.set_nil, List.take_nil, List.take_zero, m_f, m_t, r_int, r_bl, r_str, r_non, r_tup, r_lstf, r_lstt, r_v, r_newf, r_newt, List.any_cons, List.any_nil, owned, Bool.or_false, Bool.false_or, fl_bl, fl_int, fl_str, fl_non, fl_rs, exists_eq', Ct.lst.injEq, Ct.ob.injEq, D.kst.injEq, List.take_succ_cons, dat_lst, dat_ob, dat_fz, Option.some.injEq, SV.d.injEq, D.int.injEq, forall_eq', reduceCtorEq, false_implies, forall_const, Bool.false_eq_true, List.set, true_or, if_true, if_false, Bool.not_true, Bool.not_false]
  refine ⟨fun i acc => acc = (List.replicate i true).map D.bl ∧ i ≤ 8, ⟨rfl, by omega⟩, ?_, ?_⟩
  · rintro i x acc hx ⟨rfl, hi⟩
    obtain ⟨w, hw, rfl⟩ := lst_it hx
    have hb := hl w (List.mem_of_getElem? hw)
    have hi2 := (List.getElem?_eq_some_iff.mp hw).1
    simp only [b14_0, fnT, startE, List.length_cons, List.length_nil, List.map_cons, List.map_nil, List.cons_append, List.nil_append, Nat.sub_self, Nat.reduceSub, Nat.reduceAdd, Nat.reduceLT, List.replicate_zero, List.reduceReplicate, List.replicate_succ, wpSs, wpS, wpE, wpEs, wpT, wpI, wpC, List.getElem?_cons_zero, List.getElem?_cons_succ, List.getElem?_nil, den, dens, back, true_and, and_true, nrmE, nrmT, frzSlots, cutV1, frzT, frzL, eq_ii, eq_bb, eq_ss, eq_nn, D.isNon, o_add, o_adds, o_addl, o_sub, o_addt, n_split, n_find, o_mul, o_rep, o_div, o_mod, o_pow, c_lt, c_le, c_gt, c_ge, c_lts, c_eq, c_ne, c_is, c_isnot, c_in, c_notin, t_bl, t_non, t_int, t_lst, t_tup, x_lst, x_tup, x_scr, x_str, u_lst, u_scr, u_str, b_lenl, b_lent, b_lenc, b_lens, b_abs, b_max2, b_min2, b_int, b_inb, b_tup, b_dm, b_srtk, i_lst, i_tup, i_scr, is_n, is_b, exists_eq_left', exists_eq_left, exists_eq_right, Option.some.injEq,  partD, setS, setAll, tgD, tgSlots, wipeE, List.set_cons_zero, List.set_cons_succ, List.set_nil, List.take_nil, List.take_zero, m_f, m_t, r_int, r_bl, r_str, r_non, r_tup, r_lstf, r_lstt, r_v, r_newf, r_newt, List.any_cons, List.any_nil, owned, Bool.or_false, Bool.false_or, fl_bl, fl_int, fl_str, fl_non, fl_rs, exists_eq', Ct.lst.injEq, Ct.ob.injEq, D.kst.injEq, List.take_succ_cons, dat_lst, dat_ob, dat_fz, Option.some.injEq, SV.d.injEq, D.int.injEq, forall_eq', reduceCtorEq, false_implies, forall_const, Bool.false_eq_true, List.set, true_or, if_true, if_false, Bool.not_true, Bool.not_false]
    refine s_place ?_
    simp only [fnT, startE, List.length_cons, List.length_nil, List.map_cons, List.map_nil, List.cons_append, List.nil_append, Nat.sub_self, Nat.reduceSub, Nat.reduceAdd, Nat.reduceLT, List.replicate_zero, List.reduceReplicate, List.replicate_succ, wpSs, wpS, wpE, wpEs, wpT, wpI, wpC, List.getElem?_cons_zero, List.getElem?_cons_succ, List.getElem?_nil, den, dens, back, true_and, and_true, nrmE, nrmT, frzSlots, cutV1, frzT, frzL, eq_ii, eq_bb, eq_ss, eq_nn, D.isNon, o_add, o_adds, o_addl, o_sub, o_addt, n_split, n_find, o_mul, o_rep, o_div, o_mod, o_pow, c_lt, c_le, c_gt, c_ge, c_lts, c_eq, c_ne, c_is, c_isnot, c_in, c_notin, t_bl, t_non, t_int, t_lst, t_tup, x_lst, x_tup, x_scr, x_str, u_lst, u_scr, u_str, b_lenl, b_lent, b_lenc, b_lens, b_abs, b_max2, b_min2, b_int, b_inb, b_tup, b_dm, b_srtk, i_lst, i_tup, i_scr, is_n, is_b, exists_eq_left', exists_eq_left, exists_eq_right, Option.some.injEq,  partD, setS, setAll, tgD, tgSlots, wipeE, List.set_cons_zero, List.set_cons_succ, List.set_nil, List.take_nil, List.take_zero, m_f, m_t, r_int, r_bl, r_str, r_non, r_tup, r_lstf, r_lstt, r_v, r_newf, r_newt, List.any_cons, List.any_nil, owned, Bool.or_false, Bool.false_or, fl_bl, fl_int, fl_str, fl_non, fl_rs, exists_eq', Ct.lst.injEq, Ct.ob.injEq, D.kst.injEq, List.take_succ_cons, dat_lst, dat_ob, dat_fz, Option.some.injEq, SV.d.injEq, D.int.injEq, forall_eq', reduceCtorEq, false_implies, forall_const, Bool.false_eq_true, List.set, true_or, if_true, if_false, Bool.not_true, Bool.not_false]
    refine ⟨sizeLine_lt (by simp; omega), ?_, by omega⟩
    rw [decide_eq_true hb.1, decide_eq_true hb.2]
    exact repS
  · rintro acc ⟨rfl, hi⟩
    refine ⟨_, rfl, ?_⟩
    have e : (List.replicate (ws.map D.int).length true).all id = true := by simp
    rw [e]
    exact h
theorem s_make {n : Nat} {cs : List Nat} {ws : List Int} {r : Int} {k z} (o : OkC cs ws r) (h : k (.v (codeD cs ws r))) : wpF fnT gcT (n+4) 15 [.str (sL cs), .lst (iL ws), .int r] k z := by
  unfold wpF
  simp only [f15, b15, startI, len_sL, fnT, startE, List.length_cons, List.length_nil, List.map_cons, List.map_nil, List.cons_append, List.nil_append, Nat.sub_self, Nat.reduceSub, Nat.reduceAdd, Nat.reduceLT, List.replicate_zero, List.reduceReplicate, List.replicate_succ, wpSs, wpS, wpE, wpEs, wpT, wpI, wpC, List.getElem?_cons_zero, List.getElem?_cons_succ, List.getElem?_nil, den, dens, back, true_and, and_true, nrmE, nrmT, frzSlots, cutV1, frzT, frzL, eq_ii, eq_bb, eq_ss, eq_nn, D.isNon, o_add, o_adds, o_addl, o_sub, o_addt, n_split, n_find, o_mul, o_rep, o_div, o_mod, o_pow, c_lt, c_le, c_gt, c_ge, c_lts, c_eq, c_ne, c_is, c_isnot, c_in, c_notin, t_bl, t_non, t_int, t_lst, t_tup, x_lst, x_tup, x_scr, x_str, u_lst, u_scr, u_str, b_lenl, b_lent, b_lenc, b_lens, b_abs, b_max2, b_min2, b_int, b_inb, b_tup, b_dm, b_srtk, i_lst, i_tup, i_scr, is_n, is_b, exists_eq_left', exists_eq_left, exists_eq_right, Option.some.injEq,  partD, setS, setAll, tgD, tgSlots, wipeE, List.set_cons_zero, List.set_cons_succ, List.set_nil, List.take_nil, List.take_zero, m_f, m_t, r_int, r_bl, r_str, r_non, r_tup, r_lstf, r_lstt, r_v, r_newf, r_newt, List.any_cons, List.any_nil, owned, Bool.or_false, Bool.false_or, fl_bl, fl_int, fl_str, fl_non, fl_rs, exists_eq', Ct.lst.injEq, Ct.ob.injEq, D.kst.injEq, List.take_succ_cons, dat_lst, dat_ob, dat_fz, Option.some.injEq, SV.d.injEq, D.int.injEq, forall_eq', reduceCtorEq, false_implies, forall_const, Bool.false_eq_true, List.set, true_or, if_true, if_false, Bool.not_true, Bool.not_false]
  refine s_is_alphabet o.nd o.c3 o.c26 o.let_ ?_
  simp only [fnT, startE, List.length_cons, List.length_nil, List.map_cons, List.map_nil, List.cons_append, List.nil_append, Nat.sub_self, Nat.reduceSub, Nat.reduceAdd, Nat.reduceLT, List.replicate_zero, List.reduceReplicate, List.replicate_succ, wpSs, wpS, wpE, wpEs, wpT, wpI, wpC, List.getElem?_cons_zero, List.getElem?_cons_succ, List.getElem?_nil, den, dens, back, true_and, and_true, nrmE, nrmT, frzSlots, cutV1, frzT, frzL, eq_ii, eq_bb, eq_ss, eq_nn, D.isNon, o_add, o_adds, o_addl, o_sub, o_addt, n_split, n_find, o_mul, o_rep, o_div, o_mod, o_pow, c_lt, c_le, c_gt, c_ge, c_lts, c_eq, c_ne, c_is, c_isnot, c_in, c_notin, t_bl, t_non, t_int, t_lst, t_tup, x_lst, x_tup, x_scr, x_str, u_lst, u_scr, u_str, b_lenl, b_lent, b_lenc, b_lens, b_abs, b_max2, b_min2, b_int, b_inb, b_tup, b_dm, b_srtk, i_lst, i_tup, i_scr, is_n, is_b, exists_eq_left', exists_eq_left, exists_eq_right, Option.some.injEq,  partD, setS, setAll, tgD, tgSlots, wipeE, List.set_cons_zero, List.set_cons_succ, List.set_nil, List.take_nil, List.take_zero, m_f, m_t, r_int, r_bl, r_str, r_non, r_tup, r_lstf, r_lstt, r_v, r_newf, r_newt, List.any_cons, List.any_nil, owned, Bool.or_false, Bool.false_or, fl_bl, fl_int, fl_str, fl_non, fl_rs, exists_eq', Ct.lst.injEq, Ct.ob.injEq, D.kst.injEq, List.take_succ_cons, dat_lst, dat_ob, dat_fz, Option.some.injEq, SV.d.injEq, D.int.injEq, forall_eq', reduceCtorEq, false_implies, forall_const, Bool.false_eq_true, List.set, true_or, if_true, if_false, Bool.not_true, Bool.not_false]
  have c26 := o.c26
  refine ⟨sizeLine_big (by omega), ?_⟩
  refine s_are_weights o.w3 o.w8 o.lt ?_
  simp only [len_sL, fnT, startE, List.length_cons, List.length_nil, List.map_cons, List.map_nil, List.cons_append, List.nil_append, Nat.sub_self, Nat.reduceSub, Nat.reduceAdd, Nat.reduceLT, List.replicate_zero, List.reduceReplicate, List.replicate_succ, wpSs, wpS, wpE, wpEs, wpT, wpI, wpC, List.getElem?_cons_zero, List.getElem?_cons_succ, List.getElem?_nil, den, dens, back, true_and, and_true, nrmE, nrmT, frzSlots, cutV1, frzT, frzL, eq_ii, eq_bb, eq_ss, eq_nn, D.isNon, o_add, o_adds, o_addl, o_sub, o_addt, n_split, n_find, o_mul, o_rep, o_div, o_mod, o_pow, c_lt, c_le, c_gt, c_ge, c_lts, c_eq, c_ne, c_is, c_isnot, c_in, c_notin, t_bl, t_non, t_int, t_lst, t_tup, x_lst, x_tup, x_scr, x_str, u_lst, u_scr, u_str, b_lenl, b_lent, b_lenc, b_lens, b_abs, b_max2, b_min2, b_int, b_inb, b_tup, b_dm, b_srtk, i_lst, i_tup, i_scr, is_n, is_b, exists_eq_left', exists_eq_left, exists_eq_right, Option.some.injEq,  partD, setS, setAll, tgD, tgSlots, wipeE, List.set_cons_zero, List.set_cons_succ, List.set_nil, List.take_nil, List.take_zero, m_f, m_t, r_int, r_bl, r_str, r_non, r_tup, r_lstf, r_lstt, r_v, r_newf, r_newt, List.any_cons, List.any_nil, owned, Bool.or_false, Bool.false_or, fl_bl, fl_int, fl_str, fl_non, fl_rs, exists_eq', Ct.lst.injEq, Ct.ob.injEq, D.kst.injEq, List.take_succ_cons, dat_lst, dat_ob, dat_fz, Option.some.injEq, SV.d.injEq, D.int.injEq, forall_eq', reduceCtorEq, false_implies, forall_const, Bool.false_eq_true, List.set, true_or, if_true, if_false, Bool.not_true, Bool.not_false]
  refine ⟨sizeLine_big (by omega), ?_⟩
  refine s_place ?_
  rw [decide_eq_true o.r0, decide_eq_true o.r1]
  simp only [b15_0, len_sL, Bool.and_self, fnT, startE, List.length_cons, List.length_nil, List.map_cons, List.map_nil, List.cons_append, List.nil_append, Nat.sub_self, Nat.reduceSub, Nat.reduceAdd, Nat.reduceLT, List.replicate_zero, List.reduceReplicate, List.replicate_succ, wpSs, wpS, wpE, wpEs, wpT, wpI, wpC, List.getElem?_cons_zero, List.getElem?_cons_succ, List.getElem?_nil, den, dens, back, true_and, and_true, nrmE, nrmT, frzSlots, cutV1, frzT, frzL, eq_ii, eq_bb, eq_ss, eq_nn, D.isNon, o_add, o_adds, o_addl, o_sub, o_addt, n_split, n_find, o_mul, o_rep, o_div, o_mod, o_pow, c_lt, c_le, c_gt, c_ge, c_lts, c_eq, c_ne, c_is, c_isnot, c_in, c_notin, t_bl, t_non, t_int, t_lst, t_tup, x_lst, x_tup, x_scr, x_str, u_lst, u_scr, u_str, b_lenl, b_lent, b_lenc, b_lens, b_abs, b_max2, b_min2, b_int, b_inb, b_tup, b_dm, b_srtk, i_lst, i_tup, i_scr, is_n, is_b, exists_eq_left', exists_eq_left, exists_eq_right, Option.some.injEq,  partD, setS, setAll, tgD, tgSlots, wipeE, List.set_cons_zero, List.set_cons_succ, List.set_nil, List.take_nil, List.take_zero, m_f, m_t, r_int, r_bl, r_str, r_non, r_tup, r_lstf, r_lstt, r_v, r_newf, r_newt, List.any_cons, List.any_nil, owned, Bool.or_false, Bool.false_or, fl_bl, fl_int, fl_str, fl_non, fl_rs, exists_eq', Ct.lst.injEq, Ct.ob.injEq, D.kst.injEq, List.take_succ_cons, dat_lst, dat_ob, dat_fz, Option.some.injEq, SV.d.injEq, D.int.injEq, forall_eq', reduceCtorEq, false_implies, forall_const, Bool.false_eq_true, List.set, true_or, if_true, if_false, Bool.not_true, Bool.not_false]
  refine ⟨sizeLine_big (by omega), ?_⟩
  refine s_are_safe (by have := o.c3; omega) ?_
  rw [safeB_iff.mpr o.safe]
  simp only [made, List.all_nil, List.all_cons, List.nil_append, Nat.lt_irrefl, fnT, startE, List.length_cons, List.length_nil, List.map_cons, List.map_nil, List.cons_append, List.nil_append, Nat.sub_self, Nat.reduceSub, Nat.reduceAdd, Nat.reduceLT, List.replicate_zero, List.reduceReplicate, List.replicate_succ, wpSs, wpS, wpE, wpEs, wpT, wpI, wpC, List.getElem?_cons_zero, List.getElem?_cons_succ, List.getElem?_nil, den, dens, back, true_and, and_true, nrmE, nrmT, frzSlots, cutV1, frzT, frzL, eq_ii, eq_bb, eq_ss, eq_nn, D.isNon, o_add, o_adds, o_addl, o_sub, o_addt, n_split, n_find, o_mul, o_rep, o_div, o_mod, o_pow, c_lt, c_le, c_gt, c_ge, c_lts, c_eq, c_ne, c_is, c_isnot, c_in, c_notin, t_bl, t_non, t_int, t_lst, t_tup, x_lst, x_tup, x_scr, x_str, u_lst, u_scr, u_str, b_lenl, b_lent, b_lenc, b_lens, b_abs, b_max2, b_min2, b_int, b_inb, b_tup, b_dm, b_srtk, i_lst, i_tup, i_scr, is_n, is_b, exists_eq_left', exists_eq_left, exists_eq_right, Option.some.injEq,  partD, setS, setAll, tgD, tgSlots, wipeE, List.set_cons_zero, List.set_cons_succ, List.set_nil, List.take_nil, List.take_zero, m_f, m_t, r_int, r_bl, r_str, r_non, r_tup, r_lstf, r_lstt, r_v, r_newf, r_newt, List.any_cons, List.any_nil, owned, Bool.or_false, Bool.false_or, fl_bl, fl_int, fl_str, fl_non, fl_rs, exists_eq', Ct.lst.injEq, Ct.ob.injEq, D.kst.injEq, List.take_succ_cons, dat_lst, dat_ob, dat_fz, Option.some.injEq, SV.d.injEq, D.int.injEq, forall_eq', reduceCtorEq, false_implies, forall_const, Bool.false_eq_true, List.set, true_or, if_true, if_false, Bool.not_true, Bool.not_false]
  exact ⟨_, rfl, rfl, by simp, _, rfl, rfl, by simp, _, rfl, rfl, by simp, h⟩
theorem pow_small {m : Int} (h0 : 0 ≤ m) (hm : m ≤ 26) : ∀ i : Nat, 0 ≤ m ^ i ∧ m ^ i ≤ 26 ^ i
  | 0 => by simp
  | i + 1 => by
    have ih := pow_small h0 hm i
    rw [Int.pow_succ, Int.pow_succ]
    exact ⟨Int.mul_nonneg ih.1 h0, Int.mul_le_mul ih.2 hm h0 (Int.le_trans ih.1 ih.2)⟩
theorem pow_bound {m : Int} (h0 : 0 ≤ m) (hm : m ≤ 26) {i : Nat} (hi : i ≤ 8) : (m ^ i).natAbs < 2 ^ 40 := by
  have h := pow_small h0 hm i
  have h2 : (26 : Int) ^ i ≤ 26 ^ 8 := by
    have := Nat.pow_le_pow_right (show 26 > 0 by decide) hi
    have e1 : ((26 ^ i : Nat) : Int) = (26 : Int) ^ i := by rw [Int.natCast_pow]; rfl
    have e2 : ((26 ^ 8 : Nat) : Int) = (26 : Int) ^ 8 := by decide
    omega
  have h3 : (26 : Int) ^ 8 < 2 ^ 40 := by decide
  have e : ((2 ^ 40 : Nat) : Int) = 2 ^ 40 := by decide
  omega
theorem pow_mul {m : Nat} (hm : m ≤ 26) {i : Nat} (hi : i ≤ 8) : mulOk ((m : Int) ^ i) (m : Int) := mul_of 40 10 (pow_bound (by omega) (by omega) hi) (by omega) (by decide)
section
variable {cs : List Nat} {ws : List Int} {r : Int}
theorem lkA : List.lookup 0 [(0, D.str (sL cs)), (1, D.lst (iL ws)), (2, D.int r)] = some (.str (sL cs)) := rfl
theorem lkB : List.lookup 1 [(0, D.str (sL cs)), (1, D.lst (iL ws)), (2, D.int r)] = some (.lst (iL ws)) := rfl
theorem lkC : List.lookup 2 [(0, D.str (sL cs)), (1, D.lst (iL ws)), (2, D.int r)] = some (.int r) := rfl
theorem lkD : ([(0, D.str (sL cs)), (1, D.lst (iL ws)), (2, D.int r)].all fun p => decide (p.1 < 64)) = true := rfl
end
theorem s_many {n : Nat} {cs : List Nat} {ws : List Int} {r : Int} {k z} (o : OkC cs ws r) (h : k (.v (.int ((cs.length : Int) ^ (ws.length - 1))))) : wpF fnT gcT (n+1) 19 [codeD cs ws r] k z := by
  have c26 := o.c26
  have w8 := o.w8
  unfold wpF
  simp only [f19, b19, lkA, lkB, lkC, lkD, fnT, startE, List.length_cons, List.length_nil, List.map_cons, List.map_nil, List.cons_append, List.nil_append, Nat.sub_self, Nat.reduceSub, Nat.reduceAdd, Nat.reduceLT, List.replicate_zero, List.reduceReplicate, List.replicate_succ, wpSs, wpS, wpE, wpEs, wpT, wpI, wpC, List.getElem?_cons_zero, List.getElem?_cons_succ, List.getElem?_nil, den, dens, back, true_and, and_true, nrmE, nrmT, frzSlots, cutV1, frzT, frzL, eq_ii, eq_bb, eq_ss, eq_nn, D.isNon, o_add, o_adds, o_addl, o_sub, o_addt, n_split, n_find, o_mul, o_rep, o_div, o_mod, o_pow, c_lt, c_le, c_gt, c_ge, c_lts, c_eq, c_ne, c_is, c_isnot, c_in, c_notin, t_bl, t_non, t_int, t_lst, t_tup, x_lst, x_tup, x_scr, x_str, u_lst, u_scr, u_str, b_lenl, b_lent, b_lenc, b_lens, b_abs, b_max2, b_min2, b_int, b_inb, b_tup, b_dm, b_srtk, i_lst, i_tup, i_scr, is_n, is_b, exists_eq_left', exists_eq_left, exists_eq_right, Option.some.injEq,  partD, setS, setAll, tgD, tgSlots, wipeE, List.set_cons_zero, List.set_cons_succ, List.set_nil, List.take_nil, List.take_zero, m_f, m_t, r_int, r_bl, r_str, r_non, r_tup, r_lstf, r_lstt, r_v, r_newf, r_newt, List.any_cons, List.any_nil, owned, Bool.or_false, Bool.false_or, fl_bl, fl_int, fl_str, fl_non, fl_rs, exists_eq', Ct.lst.injEq, Ct.ob.injEq, D.kst.injEq, List.take_succ_cons, dat_lst, dat_ob, dat_fz, Option.some.injEq, SV.d.injEq, D.int.injEq, forall_eq', reduceCtorEq, false_implies, forall_const, Bool.false_eq_true, List.set, true_or, if_true, if_false, Bool.not_true, Bool.not_false]
  have ec : cutL (iL ws) (some 1) none = iL (ws.drop 1) := by
    show cutL (iL ws) (some ((1 : Nat) : Int)) none = _
    rw [cut_drop]; simp
  rw [ec]
  refine ⟨fun i e l => l = [] ∧ i ≤ 8 ∧ ∃ x, e = [some (.d (codeD cs ws r)), some (.d (.int ((cs.length : Int) ^ i))), x], ⟨rfl, by omega, none, rfl⟩, ?_, ?_⟩
  · rintro i x e l hx ⟨rfl, hi, y, rfl⟩
    obtain ⟨w, hw, rfl⟩ := lst_it hx
    have hi2 := (List.getElem?_eq_some_iff.mp hw).1
    rw [List.length_drop] at hi2
    simp only [b19_0, lkA, lkB, lkC, lkD, len_sL, fnT, startE, List.length_cons, List.length_nil, List.map_cons, List.map_nil, List.cons_append, List.nil_append, Nat.sub_self, Nat.reduceSub, Nat.reduceAdd, Nat.reduceLT, List.replicate_zero, List.reduceReplicate, List.replicate_succ, wpSs, wpS, wpE, wpEs, wpT, wpI, wpC, List.getElem?_cons_zero, List.getElem?_cons_succ, List.getElem?_nil, den, dens, back, true_and, and_true, nrmE, nrmT, frzSlots, cutV1, frzT, frzL, eq_ii, eq_bb, eq_ss, eq_nn, D.isNon, o_add, o_adds, o_addl, o_sub, o_addt, n_split, n_find, o_mul, o_rep, o_div, o_mod, o_pow, c_lt, c_le, c_gt, c_ge, c_lts, c_eq, c_ne, c_is, c_isnot, c_in, c_notin, t_bl, t_non, t_int, t_lst, t_tup, x_lst, x_tup, x_scr, x_str, u_lst, u_scr, u_str, b_lenl, b_lent, b_lenc, b_lens, b_abs, b_max2, b_min2, b_int, b_inb, b_tup, b_dm, b_srtk, i_lst, i_tup, i_scr, is_n, is_b, exists_eq_left', exists_eq_left, exists_eq_right, Option.some.injEq,  partD, setS, setAll, tgD, tgSlots, wipeE, List.set_cons_zero, List.set_cons_succ, List.set_nil, List.take_nil, List.take_zero, m_f, m_t, r_int, r_bl, r_str, r_non, r_tup, r_lstf, r_lstt, r_v, r_newf, r_newt, List.any_cons, List.any_nil, owned, Bool.or_false, Bool.false_or, fl_bl, fl_int, fl_str, fl_non, fl_rs, exists_eq', Ct.lst.injEq, Ct.ob.injEq, D.kst.injEq, List.take_succ_cons, dat_lst, dat_ob, dat_fz, Option.some.injEq, SV.d.injEq, D.int.injEq, forall_eq', reduceCtorEq, false_implies, forall_const, Bool.false_eq_true, List.set, true_or, if_true, if_false, Bool.not_true, Bool.not_false]
    refine ⟨sizeLine_big (by omega), pow_mul (by omega) (by omega), by omega, some (.d (.int w)), ?_⟩
    rw [Int.pow_succ]
  · rintro e l ⟨rfl, hi, y, rfl⟩
    simp only [fnT, startE, List.length_cons, List.length_nil, List.map_cons, List.map_nil, List.cons_append, List.nil_append, Nat.sub_self, Nat.reduceSub, Nat.reduceAdd, Nat.reduceLT, List.replicate_zero, List.reduceReplicate, List.replicate_succ, wpSs, wpS, wpE, wpEs, wpT, wpI, wpC, List.getElem?_cons_zero, List.getElem?_cons_succ, List.getElem?_nil, den, dens, back, true_and, and_true, nrmE, nrmT, frzSlots, cutV1, frzT, frzL, eq_ii, eq_bb, eq_ss, eq_nn, D.isNon, o_add, o_adds, o_addl, o_sub, o_addt, n_split, n_find, o_mul, o_rep, o_div, o_mod, o_pow, c_lt, c_le, c_gt, c_ge, c_lts, c_eq, c_ne, c_is, c_isnot, c_in, c_notin, t_bl, t_non, t_int, t_lst, t_tup, x_lst, x_tup, x_scr, x_str, u_lst, u_scr, u_str, b_lenl, b_lent, b_lenc, b_lens, b_abs, b_max2, b_min2, b_int, b_inb, b_tup, b_dm, b_srtk, i_lst, i_tup, i_scr, is_n, is_b, exists_eq_left', exists_eq_left, exists_eq_right, Option.some.injEq,  partD, setS, setAll, tgD, tgSlots, wipeE, List.set_cons_zero, List.set_cons_succ, List.set_nil, List.take_nil, List.take_zero, m_f, m_t, r_int, r_bl, r_str, r_non, r_tup, r_lstf, r_lstt, r_v, r_newf, r_newt, List.any_cons, List.any_nil, owned, Bool.or_false, Bool.false_or, fl_bl, fl_int, fl_str, fl_non, fl_rs, exists_eq', Ct.lst.injEq, Ct.ob.injEq, D.kst.injEq, List.take_succ_cons, dat_lst, dat_ob, dat_fz, Option.some.injEq, SV.d.injEq, D.int.injEq, forall_eq', reduceCtorEq, false_implies, forall_const, Bool.false_eq_true, List.set, true_or, if_true, if_false, Bool.not_true, Bool.not_false]
    rw [len_ints, List.length_drop]
    exact h
/-- the low digits of a number -/
def lowd (m k : Int) : Nat → List Int
  | 0 => []
  | i + 1 => (k / m ^ i % m) :: lowd m k i
theorem lowd_len {m k : Int} : ∀ i, (lowd m k i).length = i
  | 0 => rfl
  | i + 1 => by rw [lowd, List.length_cons, lowd_len i]
theorem lowd_lt {m k : Int} (hm : 0 < m) : ∀ i, Lt (lowd m k i) m
  | 0 => Lt.nil
  | i + 1 => fun v hv => by
    rcases List.mem_cons.mp hv with q | q
    · subst q
      exact ⟨Int.emod_nonneg _ (by omega), Int.emod_lt_of_pos _ hm⟩
    · exact lowd_lt hm i v q
theorem dot_snoc {w p : Int} : ∀ {ws ps : List Int}, ws.length = ps.length → dot (ws ++ [w]) (ps ++ [p]) = dot ws ps + w * p
  | [], [], _ => by unfold dot; simp
  | a :: ws, b :: ps, h => by
    have ih := dot_snoc (w := w) (p := p) (ws := ws) (ps := ps) (by simpa using h)
    unfold dot at ih ⊢
    simp only [List.cons_append, List.zip_cons_cons, List.map_cons, List.sum_cons] at ih ⊢
    omega
theorem dot_short {w : Int} : ∀ {ws ps : List Int}, ws.length = ps.length → dot (ws ++ [w]) ps = dot ws ps
  | [], [], _ => by unfold dot; simp
  | a :: ws, b :: ps, h => by
    have ih := dot_short (w := w) (ws := ws) (ps := ps) (by simpa using h)
    unfold dot at ih ⊢
    simp only [List.cons_append, List.zip_cons_cons, List.map_cons, List.sum_cons] at ih ⊢
    omega
/-- a code's word is good -/
def goodP (cs : List Nat) (ws : List Int) (r : Int) (ps : List Int) : Prop := (dot ws ps - r) % (cs.length : Int) = 0
theorem unit_dvd {a m x : Int} (h : Int.gcd a m = 1) (hd : m ∣ a * x) : m ∣ x := by
  have h2 : Int.gcd m a = 1 := by rw [Int.gcd_comm]; exact h
  unfold Int.gcd at h2
  have h3 : m.natAbs ∣ a.natAbs * x.natAbs := by rw [← Int.natAbs_mul]; exact Int.natAbs_dvd_natAbs.mpr hd
  exact Int.natAbs_dvd_natAbs.mp (Nat.Coprime.dvd_of_dvd_mul_left h2 h3)
theorem dvd_small {m x : Int} (h : m ∣ x) (h1 : -m < x) (h2 : x < m) : x = 0 := by
  obtain ⟨c, rfl⟩ := h
  have hm : 0 < m := by omega
  have c1 : c < 1 := by
    rcases Int.lt_or_le c 1 with q | q
    · exact q
    · have := Int.mul_le_mul_of_nonneg_left q (Int.le_of_lt hm); omega
  have c2 : -1 < c := by
    rcases Int.lt_or_le (-1) c with q | q
    · exact q
    · have := Int.mul_le_mul_of_nonneg_left q (Int.le_of_lt hm); omega
  have : c = 0 := by omega
  subst this; simp
/-- the last letter is told by the others -/
theorem last_iff {cs : List Nat} {ws : List Int} {r : Int} (o : OkC cs ws r) : ∃ w, ws.getLast? = some w ∧ atI ws (-1) = some w ∧ ∀ (ps : List Int) (p : Int), ps.length + 1 = ws.length → 0 ≤ p → p < cs.length → goodP cs ws r (ps ++ [p]) →
    ∀ j : Int, 0 ≤ j → j < cs.length → ((r - dot ws ps - w * j) % (cs.length : Int) = 0 ↔ j = p) ∧ (goodP cs ws r (ps ++ [j]) ↔ j = p) := by
  have w3 := o.w3
  have c3 := o.c3
  have ne : ws ≠ [] := fun z => by rw [z] at w3; simp at w3
  obtain ⟨w, hw⟩ : ∃ w, ws.getLast? = some w := ⟨_, List.getLast?_eq_some_getLast ne⟩
  refine ⟨w, hw, atI_last hw, fun ps p hl p0 p1 hg j j0 j1 => ?_⟩
  obtain ⟨ws', rfl⟩ : ∃ ws', ws = ws' ++ [w] := by
    rw [List.getLast?_eq_some_iff] at hw
    exact hw
  have hl2 : ws'.length = ps.length := by simp at hl; omega
  have gw : Int.gcd w cs.length = 1 := by
    have e : (ws' ++ [w])[ws'.length]? = some w := by simp
    exact (o.safe _ _ e).1
  unfold goodP at hg ⊢
  rw [dot_snoc hl2] at hg ⊢
  rw [dot_short hl2]
  have d1 : (cs.length : Int) ∣ dot ws' ps + w * p - r := Int.dvd_of_emod_eq_zero hg
  have key : (cs.length : Int) ∣ w * (j - p) → j = p := fun h => by
    have := dvd_small (unit_dvd gw h) (by omega) (by omega)
    omega
  refine ⟨⟨fun h => key ?_, fun h => ?_⟩, ⟨fun h => key ?_, fun h => ?_⟩⟩
  · have d2 := Int.dvd_of_emod_eq_zero h
    have d3 := Int.dvd_add d1 d2
    have e : dot ws' ps + w * p - r + (r - dot ws' ps - w * j) = -(w * (j - p)) := by rw [Int.mul_sub]; omega
    rw [e] at d3
    exact Int.dvd_neg.mp d3
  · subst h
    have e : r - dot ws' ps - w * j = -(dot ws' ps + w * j - r) := by omega
    rw [e]
    exact Int.emod_eq_zero_of_dvd (Int.dvd_neg.mpr d1)
  · have d2 := Int.dvd_of_emod_eq_zero h
    have d3 := Int.dvd_sub d2 d1
    have e : dot ws' ps + w * j - r - (dot ws' ps + w * p - r) = w * (j - p) := by rw [Int.mul_sub]; omega
    rw [e] at d3
    exact d3
  · subst h; exact hg
theorem bez_aux : ∀ (n : Nat) (a b : Int), b.natAbs ≤ n → ∃ u v : Int, a * u + b * v = (Int.gcd a b : Int)
  | 0, a, b, h => by
    have hb : b = 0 := by omega
    subst hb
    by_cases q : 0 ≤ a
    · exact ⟨1, 0, by rw [Int.gcd_zero_right]; omega⟩
    · exact ⟨-1, 0, by rw [Int.gcd_zero_right]; omega⟩
  | n + 1, a, b, h => by
    by_cases hb : b = 0
    · subst hb
      exact bez_aux n a 0 (by simp)
    · have l1 := Int.emod_lt a hb
      have l2 := Int.emod_nonneg a hb
      obtain ⟨u, v, e⟩ := bez_aux n b (a % b) (by omega)
      refine ⟨v, u - a / b * v, ?_⟩
      rw [gcd_step] at e
      rw [← e, Int.emod_def, Int.mul_sub, Int.sub_mul]
      have : b * (a / b * v) = b * (a / b) * v := by rw [Int.mul_assoc]
      omega
theorem bez (a b : Int) : ∃ u v : Int, a * u + b * v = (Int.gcd a b : Int) := bez_aux _ a b (Nat.le_refl _)
/-- there is a last letter -/
theorem last_is {cs : List Nat} {ws : List Int} {r : Int} (o : OkC cs ws r) (ps : List Int) (hl : ps.length + 1 = ws.length) : ∃ p : Int, 0 ≤ p ∧ p < cs.length ∧ goodP cs ws r (ps ++ [p]) := by
  have w3 := o.w3
  have c3 := o.c3
  have ne : ws ≠ [] := fun z => by rw [z] at w3; simp at w3
  obtain ⟨w, hw⟩ : ∃ w, ws.getLast? = some w := ⟨_, List.getLast?_eq_some_getLast ne⟩
  obtain ⟨ws', rfl⟩ : ∃ ws', ws = ws' ++ [w] := by
    rw [List.getLast?_eq_some_iff] at hw
    exact hw
  have hl2 : ws'.length = ps.length := by simp at hl; omega
  have gw : Int.gcd w cs.length = 1 := by
    have e : (ws' ++ [w])[ws'.length]? = some w := by simp
    exact (o.safe _ _ e).1
  obtain ⟨u, v, e⟩ := bez w cs.length
  rw [gw] at e
  have mp : (0 : Int) < cs.length := by omega
  refine ⟨u * (r - dot ws' ps) % cs.length, Int.emod_nonneg _ (by omega), Int.emod_lt_of_pos _ mp, ?_⟩
  unfold goodP
  rw [dot_snoc hl2]
  generalize dot ws' ps = d
  have e1 : d + w * (u * (r - d) % cs.length) - r = (cs.length : Int) * (-(v * (r - d)) - w * (u * (r - d) / cs.length)) := by
    rw [Int.emod_def, Int.mul_sub w (u * (r - d)), Int.mul_sub (cs.length : Int) (-(v * (r - d)))]
    have a1 : w * (u * (r - d)) = (r - d) - cs.length * (v * (r - d)) := by
      have : (w * u + cs.length * v) * (r - d) = 1 * (r - d) := by rw [e]; rfl
      rw [Int.add_mul, Int.mul_assoc, Int.mul_assoc] at this
      omega
    have a2 : w * ((cs.length : Int) * (u * (r - d) / cs.length)) = cs.length * (w * (u * (r - d) / cs.length)) := by
      rw [← Int.mul_assoc, Int.mul_comm w, Int.mul_assoc]
    rw [a1, a2, Int.mul_neg]
    omega
  rw [e1]
  exact Int.mul_emod_right _ _
end K09

namespace K09
open PySem L2 PD
/-- the word of places, letter by letter -/
theorem word_of {cs : List Nat} {ps : List Int} (hP : Lt ps cs.length) {i : Nat} {p : Int} (h : ps[i]? = some p) : atI (sL cs).cps.toList p = some (cs.getD p.toNat 0) ∧ (wrd cs ps)[i]? = some (cs.getD p.toNat 0) := by
  have b := hP p (List.mem_of_getElem? h)
  refine ⟨?_, ?_⟩
  · rw [list_sL, atI_pos b.1 b.2, List.getD_eq_getElem?_getD, List.getElem?_eq_getElem (by omega)]; rfl
  · unfold wrd; rw [List.getElem?_map, h]; rfl
theorem join_wrd {cs : List Nat} {ps : List Int} (hl : ps.length ≤ 1000) {k : D → Prop} (h : k (.str (sL (wrd cs ps)))) : bmD .join ("" : Str) [.lst ((wrd cs ps).map fun x => D.str (ch x))] k := by
  rw [n_join]
  refine ⟨(wrd cs ps).map ch, by simp, ?_, ?_⟩
  · have e : (((wrd cs ps).map ch).map (·.length)).sum = ps.length := by
      rw [List.map_map]
      have e3 : ((fun x : Str => x.length) ∘ ch) = fun _ => 1 := rfl
      rw [e3, List.map_const', List.sum_replicate_nat]
      simp [wrd]
    rw [e, empty_str]
    show ps.length + ((wrd cs ps).map ch).length * 0 ≤ _
    omega
  · rw [empty_str, join_chs]
    exact h
theorem iL_cons {x : Int} {xs : List Int} : [D.int x] ++ iL xs = iL (x :: xs) := rfl
theorem iL_app {xs ys : List Int} : iL xs ++ iL ys = iL (xs ++ ys) := by simp [iL]
/-- the places of letters -/
def plc (cs us : List Nat) : List Int := us.map fun c => ((cs.idxOf c : Nat) : Int)
theorem plc_lt {cs us : List Nat} (h : ∀ c ∈ us, c ∈ cs) : Lt (plc cs us) cs.length := fun v hv => by
  obtain ⟨c, hc, rfl⟩ := List.mem_map.mp hv
  have := List.idxOf_lt_length_of_mem (h c hc)
  omega
theorem wrd_plc {cs us : List Nat} (h : ∀ c ∈ us, c ∈ cs) : wrd cs (plc cs us) = us := by
  unfold wrd plc
  rw [List.map_map]
  conv => rhs; rw [← List.map_id us]
  refine List.map_congr_left fun c hc => ?_
  have h1 := List.idxOf_lt_length_of_mem (h c hc)
  show cs.getD ((cs.idxOf c : Nat) : Int).toNat 0 = c
  rw [Int.toNat_natCast, List.getD_eq_getElem?_getD, List.getElem?_eq_getElem h1]
  simp
theorem plc_wrd {cs : List Nat} {ps : List Int} (hn : cs.Nodup) (h : Lt ps cs.length) : plc cs (wrd cs ps) = ps := by
  unfold wrd plc
  rw [List.map_map]
  conv => rhs; rw [← List.map_id ps]
  refine List.map_congr_left fun p hp => ?_
  have b := h p hp
  show ((cs.idxOf (cs.getD p.toNat 0) : Nat) : Int) = p
  rw [List.getD_eq_getElem?_getD, List.getElem?_eq_getElem (by omega)]
  show ((cs.idxOf cs[p.toNat] : Nat) : Int) = p
  rw [hn.idxOf_getElem]
  omega
theorem wrd_in {cs : List Nat} {ps : List Int} (h : Lt ps cs.length) : ∀ c ∈ wrd cs ps, c ∈ cs := fun c hc => by
  obtain ⟨p, hp, rfl⟩ := List.mem_map.mp hc
  have b := h p hp
  rw [List.getD_eq_getElem?_getD, List.getElem?_eq_getElem (by omega)]
  exact List.getElem_mem _
theorem wrd_len {cs : List Nat} {ps : List Int} : (wrd cs ps).length = ps.length := by simp [wrd]
theorem plc_len {cs us : List Nat} : (plc cs us).length = us.length := by simp [plc]
def goodB (cs : List Nat) (ws : List Int) (r : Int) (us : List Nat) : Bool := us.length == ws.length && us.all (fun c => decide (c ∈ cs)) && ((dot ws (plc cs us) - r) % (cs.length : Int) == 0)
theorem all_take {us : List Nat} {f : Nat → Bool} : ((us.map f).all id) = us.all f := by rw [List.all_map]; rfl
theorem s_has_good {n : Nat} {cs us : List Nat} {ws : List Int} {r : Int} {k z} (o : OkC cs ws r) (hl : us.length ≤ 1000) (h : k (.v (.bl (goodB cs ws r us)))) : wpF fnT gcT (n+3) 22 [codeD cs ws r, .str (sL us)] k z := by
  have c3 := o.c3
  have c26 := o.c26
  have w8 := o.w8
  unfold goodB at h
  unfold wpF
  simp only [f22, b22, tyD, lkA, lkB, lkC, lkD, len_sL, len_ints, fnT, startE, List.length_cons, List.length_nil, List.map_cons, List.map_nil, List.cons_append, List.nil_append, Nat.sub_self, Nat.reduceSub, Nat.reduceAdd, Nat.reduceLT, List.replicate_zero, List.reduceReplicate, List.replicate_succ, wpSs, wpS, wpE, wpEs, wpT, wpI, wpC, List.getElem?_cons_zero, List.getElem?_cons_succ, List.getElem?_nil, den, dens, back, true_and, and_true, nrmE, nrmT, frzSlots, cutV1, frzT, frzL, eq_ii, eq_bb, eq_ss, eq_nn, D.isNon, o_add, o_adds, o_addl, o_sub, o_addt, n_split, n_find, o_mul, o_rep, o_div, o_mod, o_pow, c_lt, c_le, c_gt, c_ge, c_lts, c_eq, c_ne, c_is, c_isnot, c_in, c_notin, t_bl, t_non, t_int, t_lst, t_tup, x_lst, x_tup, x_scr, x_str, u_lst, u_scr, u_str, b_lenl, b_lent, b_lenc, b_lens, b_abs, b_max2, b_min2, b_int, b_inb, b_tup, b_dm, b_srtk, i_lst, i_tup, i_scr, is_n, is_b, exists_eq_left', exists_eq_left, exists_eq_right, Option.some.injEq,  partD, setS, setAll, tgD, tgSlots, wipeE, List.set_cons_zero, List.set_cons_succ, List.set_nil, List.take_nil, List.take_zero, m_f, m_t, r_int, r_bl, r_str, r_non, r_tup, r_lstf, r_lstt, r_v, r_newf, r_newt, List.any_cons, List.any_nil, owned, Bool.or_false, Bool.false_or, fl_bl, fl_int, fl_str, fl_non, fl_rs, exists_eq', Ct.lst.injEq, Ct.ob.injEq, D.kst.injEq, List.take_succ_cons, dat_lst, dat_ob, dat_fz, Option.some.injEq, SV.d.injEq, D.int.injEq, forall_eq', reduceCtorEq, false_implies, forall_const, Bool.false_eq_true, List.set, true_or, if_true, if_false, Bool.not_true, Bool.not_false]
  refine ⟨sizeLine_big (by omega), fun q => ?_, fun q => ?_⟩
  · have q : ¬ us.length = ws.length := by simp at q; omega
    rw [beq_eq_false_iff_ne.mpr q] at h
    exact h
  · have q : us.length = ws.length := by simp at q; omega
    rw [q, beq_self_eq_true, Bool.true_and] at h
    simp only [b22_1, lkA, lkB, lkC, lkD, fnT, startE, List.length_cons, List.length_nil, List.map_cons, List.map_nil, List.cons_append, List.nil_append, Nat.sub_self, Nat.reduceSub, Nat.reduceAdd, Nat.reduceLT, List.replicate_zero, List.reduceReplicate, List.replicate_succ, wpSs, wpS, wpE, wpEs, wpT, wpI, wpC, List.getElem?_cons_zero, List.getElem?_cons_succ, List.getElem?_nil, den, dens, back, true_and, and_true, nrmE, nrmT, frzSlots, cutV1, frzT, frzL, eq_ii, eq_bb, eq_ss, eq_nn, D.isNon, o_add, o_adds, o_addl, o_sub, o_addt, n_split, n_find, o_mul, o_rep, o_div, o_mod, o_pow, c_lt, c_le, c_gt, c_ge, c_lts, c_eq, c_ne, c_is, c_isnot, c_in, c_notin, t_bl, t_non, t_int, t_lst, t_tup, x_lst, x_tup, x_scr, x_str, u_lst, u_scr, u_str, b_lenl, b_lent, b_lenc, b_lens, b_abs, b_max2, b_min2, b_int, b_inb, b_tup, b_dm, b_srtk, i_lst, i_tup, i_scr, is_n, is_b, exists_eq_left', exists_eq_left, exists_eq_right, Option.some.injEq,  partD, setS, setAll, tgD, tgSlots, wipeE, List.set_cons_zero, List.set_cons_succ, List.set_nil, List.take_nil, List.take_zero, m_f, m_t, r_int, r_bl, r_str, r_non, r_tup, r_lstf, r_lstt, r_v, r_newf, r_newt, List.any_cons, List.any_nil, owned, Bool.or_false, Bool.false_or, fl_bl, fl_int, fl_str, fl_non, fl_rs, exists_eq', Ct.lst.injEq, Ct.ob.injEq, D.kst.injEq, List.take_succ_cons, dat_lst, dat_ob, dat_fz, Option.some.injEq, SV.d.injEq, D.int.injEq, forall_eq', reduceCtorEq, false_implies, forall_const, Bool.false_eq_true, List.set, true_or, if_true, if_false, Bool.not_true, Bool.not_false]
    refine ⟨fun i acc => acc = ((us.take i).map fun c => decide (c ∈ cs)).map D.bl, rfl, ?_, ?_⟩
    · rintro i x acc hx rfl
      have hx : (us.map fun c => D.str ⟨#[c]⟩)[i]? = some x := hx
      rw [List.getElem?_map, Option.map_eq_some_iff] at hx
      obtain ⟨c, hc, rfl⟩ := hx
      have hi := (List.getElem?_eq_some_iff.mp hc).1
      simp only [b22_0, lkA, lkB, lkC, lkD, inD, fnT, startE, List.length_cons, List.length_nil, List.map_cons, List.map_nil, List.cons_append, List.nil_append, Nat.sub_self, Nat.reduceSub, Nat.reduceAdd, Nat.reduceLT, List.replicate_zero, List.reduceReplicate, List.replicate_succ, wpSs, wpS, wpE, wpEs, wpT, wpI, wpC, List.getElem?_cons_zero, List.getElem?_cons_succ, List.getElem?_nil, den, dens, back, true_and, and_true, nrmE, nrmT, frzSlots, cutV1, frzT, frzL, eq_ii, eq_bb, eq_ss, eq_nn, D.isNon, o_add, o_adds, o_addl, o_sub, o_addt, n_split, n_find, o_mul, o_rep, o_div, o_mod, o_pow, c_lt, c_le, c_gt, c_ge, c_lts, c_eq, c_ne, c_is, c_isnot, c_in, c_notin, t_bl, t_non, t_int, t_lst, t_tup, x_lst, x_tup, x_scr, x_str, u_lst, u_scr, u_str, b_lenl, b_lent, b_lenc, b_lens, b_abs, b_max2, b_min2, b_int, b_inb, b_tup, b_dm, b_srtk, i_lst, i_tup, i_scr, is_n, is_b, exists_eq_left', exists_eq_left, exists_eq_right, Option.some.injEq,  partD, setS, setAll, tgD, tgSlots, wipeE, List.set_cons_zero, List.set_cons_succ, List.set_nil, List.take_nil, List.take_zero, m_f, m_t, r_int, r_bl, r_str, r_non, r_tup, r_lstf, r_lstt, r_v, r_newf, r_newt, List.any_cons, List.any_nil, owned, Bool.or_false, Bool.false_or, fl_bl, fl_int, fl_str, fl_non, fl_rs, exists_eq', Ct.lst.injEq, Ct.ob.injEq, D.kst.injEq, List.take_succ_cons, dat_lst, dat_ob, dat_fz, Option.some.injEq, SV.d.injEq, D.int.injEq, forall_eq', reduceCtorEq, false_implies, forall_const, Bool.false_eq_true, List.set, true_or, if_true, if_false, Bool.not_true, Bool.not_false]
      refine ⟨c, rfl, sizeLine_lt (by simp; omega), ?_⟩
      rw [List.take_add_one, hc]
      simp
    · rintro acc rfl
      have e : ((sL us).cps.toList.map fun c => D.str ⟨#[c]⟩).length = us.length := by rw [list_sL]; simp
      rw [e, List.take_length]
      refine ⟨_, rfl, ?_⟩
      rw [all_take]
      simp only [fnT, startE, List.length_cons, List.length_nil, List.map_cons, List.map_nil, List.cons_append, List.nil_append, Nat.sub_self, Nat.reduceSub, Nat.reduceAdd, Nat.reduceLT, List.replicate_zero, List.reduceReplicate, List.replicate_succ, wpSs, wpS, wpE, wpEs, wpT, wpI, wpC, List.getElem?_cons_zero, List.getElem?_cons_succ, List.getElem?_nil, den, dens, back, true_and, and_true, nrmE, nrmT, frzSlots, cutV1, frzT, frzL, eq_ii, eq_bb, eq_ss, eq_nn, D.isNon, o_add, o_adds, o_addl, o_sub, o_addt, n_split, n_find, o_mul, o_rep, o_div, o_mod, o_pow, c_lt, c_le, c_gt, c_ge, c_lts, c_eq, c_ne, c_is, c_isnot, c_in, c_notin, t_bl, t_non, t_int, t_lst, t_tup, x_lst, x_tup, x_scr, x_str, u_lst, u_scr, u_str, b_lenl, b_lent, b_lenc, b_lens, b_abs, b_max2, b_min2, b_int, b_inb, b_tup, b_dm, b_srtk, i_lst, i_tup, i_scr, is_n, is_b, exists_eq_left', exists_eq_left, exists_eq_right, Option.some.injEq,  partD, setS, setAll, tgD, tgSlots, wipeE, List.set_cons_zero, List.set_cons_succ, List.set_nil, List.take_nil, List.take_zero, m_f, m_t, r_int, r_bl, r_str, r_non, r_tup, r_lstf, r_lstt, r_v, r_newf, r_newt, List.any_cons, List.any_nil, owned, Bool.or_false, Bool.false_or, fl_bl, fl_int, fl_str, fl_non, fl_rs, exists_eq', Ct.lst.injEq, Ct.ob.injEq, D.kst.injEq, List.take_succ_cons, dat_lst, dat_ob, dat_fz, Option.some.injEq, SV.d.injEq, D.int.injEq, forall_eq', reduceCtorEq, false_implies, forall_const, Bool.false_eq_true, List.set, true_or, if_true, if_false, Bool.not_true, Bool.not_false]
      refine ⟨fun q2 => ?_, fun q2 => ?_⟩
      · have q2 : (us.all fun c => decide (c ∈ cs)) = false := by simpa using q2
        rw [q2] at h
        exact h
      · have q2 : (us.all fun c => decide (c ∈ cs)) = true := by simpa using q2
        rw [q2] at h
        have hin : ∀ c ∈ us, c ∈ cs := fun c hc => of_decide_eq_true (List.all_eq_true.mp q2 c hc)
        have ew := wrd_plc hin
        rw [show D.str (sL us) = D.str (sL (wrd cs (plc cs us))) by rw [ew]]
        refine s_is_good (n := n) o.nd c3 c26 o.lt (plc_lt hin) (by omega) (by rw [plc_len]; omega) ?_
        simp only [fnT, startE, List.length_cons, List.length_nil, List.map_cons, List.map_nil, List.cons_append, List.nil_append, Nat.sub_self, Nat.reduceSub, Nat.reduceAdd, Nat.reduceLT, List.replicate_zero, List.reduceReplicate, List.replicate_succ, wpSs, wpS, wpE, wpEs, wpT, wpI, wpC, List.getElem?_cons_zero, List.getElem?_cons_succ, List.getElem?_nil, den, dens, back, true_and, and_true, nrmE, nrmT, frzSlots, cutV1, frzT, frzL, eq_ii, eq_bb, eq_ss, eq_nn, D.isNon, o_add, o_adds, o_addl, o_sub, o_addt, n_split, n_find, o_mul, o_rep, o_div, o_mod, o_pow, c_lt, c_le, c_gt, c_ge, c_lts, c_eq, c_ne, c_is, c_isnot, c_in, c_notin, t_bl, t_non, t_int, t_lst, t_tup, x_lst, x_tup, x_scr, x_str, u_lst, u_scr, u_str, b_lenl, b_lent, b_lenc, b_lens, b_abs, b_max2, b_min2, b_int, b_inb, b_tup, b_dm, b_srtk, i_lst, i_tup, i_scr, is_n, is_b, exists_eq_left', exists_eq_left, exists_eq_right, Option.some.injEq,  partD, setS, setAll, tgD, tgSlots, wipeE, List.set_cons_zero, List.set_cons_succ, List.set_nil, List.take_nil, List.take_zero, m_f, m_t, r_int, r_bl, r_str, r_non, r_tup, r_lstf, r_lstt, r_v, r_newf, r_newt, List.any_cons, List.any_nil, owned, Bool.or_false, Bool.false_or, fl_bl, fl_int, fl_str, fl_non, fl_rs, exists_eq', Ct.lst.injEq, Ct.ob.injEq, D.kst.injEq, List.take_succ_cons, dat_lst, dat_ob, dat_fz, Option.some.injEq, SV.d.injEq, D.int.injEq, forall_eq', reduceCtorEq, false_implies, forall_const, Bool.false_eq_true, List.set, true_or, if_true, if_false, Bool.not_true, Bool.not_false]
        exact h
theorem goodB_of {cs : List Nat} {ws ps : List Int} {r : Int} (hn : cs.Nodup) (hP : Lt ps cs.length) (hl : ps.length = ws.length) : goodB cs ws r (wrd cs ps) = ((dot ws ps - r) % (cs.length : Int) == 0) := by
  unfold goodB
  have h1 : ((wrd cs ps).length == ws.length) = true := by rw [wrd_len, hl]; exact beq_self_eq_true _
  have h2 : ((wrd cs ps).all fun c => decide (c ∈ cs)) = true := List.all_eq_true.mpr fun c hc => decide_eq_true (wrd_in hP c hc)
  rw [h1, h2, plc_wrd hn hP]
  simp
theorem goodB_p {cs : List Nat} {ws ps : List Int} {r : Int} (hn : cs.Nodup) (hP : Lt ps cs.length) (hl : ps.length = ws.length) (g : goodP cs ws r ps) : goodB cs ws r (wrd cs ps) = true := by
  rw [goodB_of hn hP hl]
  unfold goodP at g
  rw [g]; rfl
theorem idx_step {cs : List Nat} {ps : List Int} (hn : cs.Nodup) (hP : Lt ps cs.length) {i : Nat} {x : D} (hx : ((sL (wrd cs ps)).cps.toList.map fun c => D.str ⟨#[c]⟩)[i]? = some x) :
    ∃ c p rest, x = .str (ch c) ∧ ps[i]? = some p ∧ Builtin.Str.occurrences (sL cs) (ch c) 0 (sL cs).length 1 = p.toNat :: rest ∧ ((p.toNat : Nat) : Int) = p := by
  have hx : ((wrd cs ps).map fun c => D.str ⟨#[c]⟩)[i]? = some x := hx
  unfold wrd at hx
  simp only [List.getElem?_map, Option.map_eq_some_iff] at hx
  obtain ⟨c, ⟨p, e1, rfl⟩, rfl⟩ := hx
  have b := hP p (List.mem_of_getElem? e1)
  have e2 : cs[p.toNat]? = some (cs.getD p.toNat 0) := by
    rw [List.getD_eq_getElem?_getD, List.getElem?_eq_getElem (by omega)]; rfl
  obtain ⟨rest', e3⟩ := idx_ch hn e2
  exact ⟨_, p, rest', rfl, e1, e3, by omega⟩
end K09

namespace K09
open PySem L2 PD
def wordD (cs : List Nat) (len : Nat) : D → Bool
  | .str s => s.length == len && s.cps.toList.all fun c => decide (c ∈ cs)
  | _ => false
def shortD : D → Bool | .str s => decide (s.length ≤ 1000) | _ => true
theorem s_alph {n : Nat} {cs : List Nat} {ws : List Int} {r : Int} {k z} (h : k (.v (.str (sL cs)))) : wpF fnT gcT (n+1) 16 [codeD cs ws r] k z := by
  unfold wpF
  simp only [f16, b16, lkA, lkB, lkC, lkD, fnT, startE, List.length_cons, List.length_nil, List.map_cons, List.map_nil, List.cons_append, List.nil_append, Nat.sub_self, Nat.reduceSub, Nat.reduceAdd, Nat.reduceLT, List.replicate_zero, List.reduceReplicate, List.replicate_succ, wpSs, wpS, wpE, wpEs, wpT, wpI, wpC, List.getElem?_cons_zero, List.getElem?_cons_succ, List.getElem?_nil, den, dens, back, true_and, and_true, nrmE, nrmT, frzSlots, cutV1, frzT, frzL, eq_ii, eq_bb, eq_ss, eq_nn, D.isNon, o_add, o_adds, o_addl, o_sub, o_addt, n_split, n_find, o_mul, o_rep, o_div, o_mod, o_pow, c_lt, c_le, c_gt, c_ge, c_lts, c_eq, c_ne, c_is, c_isnot, c_in, c_notin, t_bl, t_non, t_int, t_lst, t_tup, x_lst, x_tup, x_scr, x_str, u_lst, u_scr, u_str, b_lenl, b_lent, b_lenc, b_lens, b_abs, b_max2, b_min2, b_int, b_inb, b_tup, b_dm, b_srtk, i_lst, i_tup, i_scr, is_n, is_b, exists_eq_left', exists_eq_left, exists_eq_right, Option.some.injEq,  partD, setS, setAll, tgD, tgSlots, wipeE, List.set_cons_zero, List.set_cons_succ, List.set_nil, List.take_nil, List.take_zero, m_f, m_t, r_int, r_bl, r_str, r_non, r_tup, r_lstf, r_lstt, r_v, r_newf, r_newt, List.any_cons, List.any_nil, owned, Bool.or_false, Bool.false_or, fl_bl, fl_int, fl_str, fl_non, fl_rs, exists_eq', Ct.lst.injEq, Ct.ob.injEq, D.kst.injEq, List.take_succ_cons, dat_lst, dat_ob, dat_fz, Option.some.injEq, SV.d.injEq, D.int.injEq, forall_eq', reduceCtorEq, false_implies, forall_const, Bool.false_eq_true, List.set, true_or, if_true, if_false, Bool.not_true, Bool.not_false]
  exact h
theorem s_wts {n : Nat} {cs : List Nat} {ws : List Int} {r : Int} {k z} (h : k (.v (.lst (iL ws)))) : wpF fnT gcT (n+1) 17 [codeD cs ws r] k z := by
  unfold wpF
  simp only [f17, b17, lkA, lkB, lkC, lkD, fnT, startE, List.length_cons, List.length_nil, List.map_cons, List.map_nil, List.cons_append, List.nil_append, Nat.sub_self, Nat.reduceSub, Nat.reduceAdd, Nat.reduceLT, List.replicate_zero, List.reduceReplicate, List.replicate_succ, wpSs, wpS, wpE, wpEs, wpT, wpI, wpC, List.getElem?_cons_zero, List.getElem?_cons_succ, List.getElem?_nil, den, dens, back, true_and, and_true, nrmE, nrmT, frzSlots, cutV1, frzT, frzL, eq_ii, eq_bb, eq_ss, eq_nn, D.isNon, o_add, o_adds, o_addl, o_sub, o_addt, n_split, n_find, o_mul, o_rep, o_div, o_mod, o_pow, c_lt, c_le, c_gt, c_ge, c_lts, c_eq, c_ne, c_is, c_isnot, c_in, c_notin, t_bl, t_non, t_int, t_lst, t_tup, x_lst, x_tup, x_scr, x_str, u_lst, u_scr, u_str, b_lenl, b_lent, b_lenc, b_lens, b_abs, b_max2, b_min2, b_int, b_inb, b_tup, b_dm, b_srtk, i_lst, i_tup, i_scr, is_n, is_b, exists_eq_left', exists_eq_left, exists_eq_right, Option.some.injEq,  partD, setS, setAll, tgD, tgSlots, wipeE, List.set_cons_zero, List.set_cons_succ, List.set_nil, List.take_nil, List.take_zero, m_f, m_t, r_int, r_bl, r_str, r_non, r_tup, r_lstf, r_lstt, r_v, r_newf, r_newt, List.any_cons, List.any_nil, owned, Bool.or_false, Bool.false_or, fl_bl, fl_int, fl_str, fl_non, fl_rs, exists_eq', Ct.lst.injEq, Ct.ob.injEq, D.kst.injEq, List.take_succ_cons, dat_lst, dat_ob, dat_fz, Option.some.injEq, SV.d.injEq, D.int.injEq, forall_eq', reduceCtorEq, false_implies, forall_const, Bool.false_eq_true, List.set, true_or, if_true, if_false, Bool.not_true, Bool.not_false]
  exact h
theorem s_is_word {n : Nat} {cs : List Nat} {ws : List Int} {r : Int} {x : D} {k z} (hx : plainD x = true) (hs : shortD x = true) (h : k (.v (.bl (wordD cs ws.length x)))) : wpF fnT gcT (n+2) 0 [codeD cs ws r, x] k z := by
  cases x
  case str s =>
    obtain ⟨us, rfl⟩ : ∃ us, s = sL us := ⟨s.cps.toList, rfl⟩
    have hs := of_decide_eq_true hs
    rw [len_sL] at hs
    simp only [wordD, len_sL, list_sL] at h
    unfold wpF
    simp only [f0, b0, tyD, lkD, len_sL, fnT, startE, List.length_cons, List.length_nil, List.map_cons, List.map_nil, List.cons_append, List.nil_append, Nat.sub_self, Nat.reduceSub, Nat.reduceAdd, Nat.reduceLT, List.replicate_zero, List.reduceReplicate, List.replicate_succ, wpSs, wpS, wpE, wpEs, wpT, wpI, wpC, List.getElem?_cons_zero, List.getElem?_cons_succ, List.getElem?_nil, den, dens, back, true_and, and_true, nrmE, nrmT, frzSlots, cutV1, frzT, frzL, eq_ii, eq_bb, eq_ss, eq_nn, D.isNon, o_add, o_adds, o_addl, o_sub, o_addt, n_split, n_find, o_mul, o_rep, o_div, o_mod, o_pow, c_lt, c_le, c_gt, c_ge, c_lts, c_eq, c_ne, c_is, c_isnot, c_in, c_notin, t_bl, t_non, t_int, t_lst, t_tup, x_lst, x_tup, x_scr, x_str, u_lst, u_scr, u_str, b_lenl, b_lent, b_lenc, b_lens, b_abs, b_max2, b_min2, b_int, b_inb, b_tup, b_dm, b_srtk, i_lst, i_tup, i_scr, is_n, is_b, exists_eq_left', exists_eq_left, exists_eq_right, Option.some.injEq,  partD, setS, setAll, tgD, tgSlots, wipeE, List.set_cons_zero, List.set_cons_succ, List.set_nil, List.take_nil, List.take_zero, m_f, m_t, r_int, r_bl, r_str, r_non, r_tup, r_lstf, r_lstt, r_v, r_newf, r_newt, List.any_cons, List.any_nil, owned, Bool.or_false, Bool.false_or, fl_bl, fl_int, fl_str, fl_non, fl_rs, exists_eq', Ct.lst.injEq, Ct.ob.injEq, D.kst.injEq, List.take_succ_cons, dat_lst, dat_ob, dat_fz, Option.some.injEq, SV.d.injEq, D.int.injEq, forall_eq', reduceCtorEq, false_implies, forall_const, Bool.false_eq_true, List.set, true_or, if_true, if_false, Bool.not_true, Bool.not_false]
    refine ⟨sizeLine_big (by omega), ?_⟩
    refine s_wts ?_
    simp only [len_ints, fnT, startE, List.length_cons, List.length_nil, List.map_cons, List.map_nil, List.cons_append, List.nil_append, Nat.sub_self, Nat.reduceSub, Nat.reduceAdd, Nat.reduceLT, List.replicate_zero, List.reduceReplicate, List.replicate_succ, wpSs, wpS, wpE, wpEs, wpT, wpI, wpC, List.getElem?_cons_zero, List.getElem?_cons_succ, List.getElem?_nil, den, dens, back, true_and, and_true, nrmE, nrmT, frzSlots, cutV1, frzT, frzL, eq_ii, eq_bb, eq_ss, eq_nn, D.isNon, o_add, o_adds, o_addl, o_sub, o_addt, n_split, n_find, o_mul, o_rep, o_div, o_mod, o_pow, c_lt, c_le, c_gt, c_ge, c_lts, c_eq, c_ne, c_is, c_isnot, c_in, c_notin, t_bl, t_non, t_int, t_lst, t_tup, x_lst, x_tup, x_scr, x_str, u_lst, u_scr, u_str, b_lenl, b_lent, b_lenc, b_lens, b_abs, b_max2, b_min2, b_int, b_inb, b_tup, b_dm, b_srtk, i_lst, i_tup, i_scr, is_n, is_b, exists_eq_left', exists_eq_left, exists_eq_right, Option.some.injEq,  partD, setS, setAll, tgD, tgSlots, wipeE, List.set_cons_zero, List.set_cons_succ, List.set_nil, List.take_nil, List.take_zero, m_f, m_t, r_int, r_bl, r_str, r_non, r_tup, r_lstf, r_lstt, r_v, r_newf, r_newt, List.any_cons, List.any_nil, owned, Bool.or_false, Bool.false_or, fl_bl, fl_int, fl_str, fl_non, fl_rs, exists_eq', Ct.lst.injEq, Ct.ob.injEq, D.kst.injEq, List.take_succ_cons, dat_lst, dat_ob, dat_fz, Option.some.injEq, SV.d.injEq, D.int.injEq, forall_eq', reduceCtorEq, false_implies, forall_const, Bool.false_eq_true, List.set, true_or, if_true, if_false, Bool.not_true, Bool.not_false]
    refine ⟨fun q => ?_, fun q => ?_⟩
    · have q : ¬ us.length = ws.length := by simp at q; omega
      rw [beq_eq_false_iff_ne.mpr q] at h
      exact h
    · have q : us.length = ws.length := by simp at q; omega
      rw [q, beq_self_eq_true, Bool.true_and] at h
      simp only [b0_1, lkD, fnT, startE, List.length_cons, List.length_nil, List.map_cons, List.map_nil, List.cons_append, List.nil_append, Nat.sub_self, Nat.reduceSub, Nat.reduceAdd, Nat.reduceLT, List.replicate_zero, List.reduceReplicate, List.replicate_succ, wpSs, wpS, wpE, wpEs, wpT, wpI, wpC, List.getElem?_cons_zero, List.getElem?_cons_succ, List.getElem?_nil, den, dens, back, true_and, and_true, nrmE, nrmT, frzSlots, cutV1, frzT, frzL, eq_ii, eq_bb, eq_ss, eq_nn, D.isNon, o_add, o_adds, o_addl, o_sub, o_addt, n_split, n_find, o_mul, o_rep, o_div, o_mod, o_pow, c_lt, c_le, c_gt, c_ge, c_lts, c_eq, c_ne, c_is, c_isnot, c_in, c_notin, t_bl, t_non, t_int, t_lst, t_tup, x_lst, x_tup, x_scr, x_str, u_lst, u_scr, u_str, b_lenl, b_lent, b_lenc, b_lens, b_abs, b_max2, b_min2, b_int, b_inb, b_tup, b_dm, b_srtk, i_lst, i_tup, i_scr, is_n, is_b, exists_eq_left', exists_eq_left, exists_eq_right, Option.some.injEq,  partD, setS, setAll, tgD, tgSlots, wipeE, List.set_cons_zero, List.set_cons_succ, List.set_nil, List.take_nil, List.take_zero, m_f, m_t, r_int, r_bl, r_str, r_non, r_tup, r_lstf, r_lstt, r_v, r_newf, r_newt, List.any_cons, List.any_nil, owned, Bool.or_false, Bool.false_or, fl_bl, fl_int, fl_str, fl_non, fl_rs, exists_eq', Ct.lst.injEq, Ct.ob.injEq, D.kst.injEq, List.take_succ_cons, dat_lst, dat_ob, dat_fz, Option.some.injEq, SV.d.injEq, D.int.injEq, forall_eq', reduceCtorEq, false_implies, forall_const, Bool.false_eq_true, List.set, true_or, if_true, if_false, Bool.not_true, Bool.not_false]
      refine s_alph ?_
      simp only [fnT, startE, List.length_cons, List.length_nil, List.map_cons, List.map_nil, List.cons_append, List.nil_append, Nat.sub_self, Nat.reduceSub, Nat.reduceAdd, Nat.reduceLT, List.replicate_zero, List.reduceReplicate, List.replicate_succ, wpSs, wpS, wpE, wpEs, wpT, wpI, wpC, List.getElem?_cons_zero, List.getElem?_cons_succ, List.getElem?_nil, den, dens, back, true_and, and_true, nrmE, nrmT, frzSlots, cutV1, frzT, frzL, eq_ii, eq_bb, eq_ss, eq_nn, D.isNon, o_add, o_adds, o_addl, o_sub, o_addt, n_split, n_find, o_mul, o_rep, o_div, o_mod, o_pow, c_lt, c_le, c_gt, c_ge, c_lts, c_eq, c_ne, c_is, c_isnot, c_in, c_notin, t_bl, t_non, t_int, t_lst, t_tup, x_lst, x_tup, x_scr, x_str, u_lst, u_scr, u_str, b_lenl, b_lent, b_lenc, b_lens, b_abs, b_max2, b_min2, b_int, b_inb, b_tup, b_dm, b_srtk, i_lst, i_tup, i_scr, is_n, is_b, exists_eq_left', exists_eq_left, exists_eq_right, Option.some.injEq,  partD, setS, setAll, tgD, tgSlots, wipeE, List.set_cons_zero, List.set_cons_succ, List.set_nil, List.take_nil, List.take_zero, m_f, m_t, r_int, r_bl, r_str, r_non, r_tup, r_lstf, r_lstt, r_v, r_newf, r_newt, List.any_cons, List.any_nil, owned, Bool.or_false, Bool.false_or, fl_bl, fl_int, fl_str, fl_non, fl_rs, exists_eq', Ct.lst.injEq, Ct.ob.injEq, D.kst.injEq, List.take_succ_cons, dat_lst, dat_ob, dat_fz, Option.some.injEq, SV.d.injEq, D.int.injEq, forall_eq', reduceCtorEq, false_implies, forall_const, Bool.false_eq_true, List.set, true_or, if_true, if_false, Bool.not_true, Bool.not_false]
      refine ⟨fun i acc => acc = ((us.take i).map fun c => decide (c ∈ cs)).map D.bl, rfl, ?_, ?_⟩
      · rintro i x acc hx rfl
        have hx : (us.map fun c => D.str ⟨#[c]⟩)[i]? = some x := hx
        rw [List.getElem?_map, Option.map_eq_some_iff] at hx
        obtain ⟨c, hc, rfl⟩ := hx
        have hi := (List.getElem?_eq_some_iff.mp hc).1
        simp only [b0_0, inD, fnT, startE, List.length_cons, List.length_nil, List.map_cons, List.map_nil, List.cons_append, List.nil_append, Nat.sub_self, Nat.reduceSub, Nat.reduceAdd, Nat.reduceLT, List.replicate_zero, List.reduceReplicate, List.replicate_succ, wpSs, wpS, wpE, wpEs, wpT, wpI, wpC, List.getElem?_cons_zero, List.getElem?_cons_succ, List.getElem?_nil, den, dens, back, true_and, and_true, nrmE, nrmT, frzSlots, cutV1, frzT, frzL, eq_ii, eq_bb, eq_ss, eq_nn, D.isNon, o_add, o_adds, o_addl, o_sub, o_addt, n_split, n_find, o_mul, o_rep, o_div, o_mod, o_pow, c_lt, c_le, c_gt, c_ge, c_lts, c_eq, c_ne, c_is, c_isnot, c_in, c_notin, t_bl, t_non, t_int, t_lst, t_tup, x_lst, x_tup, x_scr, x_str, u_lst, u_scr, u_str, b_lenl, b_lent, b_lenc, b_lens, b_abs, b_max2, b_min2, b_int, b_inb, b_tup, b_dm, b_srtk, i_lst, i_tup, i_scr, is_n, is_b, exists_eq_left', exists_eq_left, exists_eq_right, Option.some.injEq,  partD, setS, setAll, tgD, tgSlots, wipeE, List.set_cons_zero, List.set_cons_succ, List.set_nil, List.take_nil, List.take_zero, m_f, m_t, r_int, r_bl, r_str, r_non, r_tup, r_lstf, r_lstt, r_v, r_newf, r_newt, List.any_cons, List.any_nil, owned, Bool.or_false, Bool.false_or, fl_bl, fl_int, fl_str, fl_non, fl_rs, exists_eq', Ct.lst.injEq, Ct.ob.injEq, D.kst.injEq, List.take_succ_cons, dat_lst, dat_ob, dat_fz, Option.some.injEq, SV.d.injEq, D.int.injEq, forall_eq', reduceCtorEq, false_implies, forall_const, Bool.false_eq_true, List.set, true_or, if_true, if_false, Bool.not_true, Bool.not_false]
        refine ⟨c, rfl, sizeLine_lt (by simp; omega), ?_⟩
        rw [List.take_add_one, hc]
        simp
      · rintro acc rfl
        have e : ((sL us).cps.toList.map fun c => D.str ⟨#[c]⟩).length = us.length := by rw [list_sL]; simp
        rw [e, List.take_length]
        refine ⟨_, rfl, ?_⟩
        rw [all_take]
        exact h
  all_goals
    first
      | exact Bool.noConfusion hx
      | (unfold wpF
         simp only [f0, b0, tyD, fnT, startE, List.length_cons, List.length_nil, List.map_cons, List.map_nil, List.cons_append, List.nil_append, Nat.sub_self, Nat.reduceSub, Nat.reduceAdd, Nat.reduceLT, List.replicate_zero, List.reduceReplicate, List.replicate_succ, wpSs, wpS, wpE, wpEs, wpT, wpI, wpC, List.getElem?_cons_zero, List.getElem?_cons_succ, List.getElem?_nil, den, dens, back, true_and, and_true, nrmE, nrmT, frzSlots, cutV1, frzT, frzL, eq_ii, eq_bb, eq_ss, eq_nn, D.isNon, o_add, o_adds, o_addl, o_sub, o_addt, n_split, n_find, o_mul, o_rep, o_div, o_mod, o_pow, c_lt, c_le, c_gt, c_ge, c_lts, c_eq, c_ne, c_is, c_isnot, c_in, c_notin, t_bl, t_non, t_int, t_lst, t_tup, x_lst, x_tup, x_scr, x_str, u_lst, u_scr, u_str, b_lenl, b_lent, b_lenc, b_lens, b_abs, b_max2, b_min2, b_int, b_inb, b_tup, b_dm, b_srtk, i_lst, i_tup, i_scr, is_n, is_b, exists_eq_left', exists_eq_left, exists_eq_right, Option.some.injEq,  partD, setS, setAll, tgD, tgSlots, wipeE, List.set_cons_zero, List.set_cons_succ, List.set_nil, List.take_nil, List.take_zero, m_f, m_t, r_int, r_bl, r_str, r_non, r_tup, r_lstf, r_lstt, r_v, r_newf, r_newt, List.any_cons, List.any_nil, owned, Bool.or_false, Bool.false_or, fl_bl, fl_int, fl_str, fl_non, fl_rs, exists_eq', Ct.lst.injEq, Ct.ob.injEq, D.kst.injEq, List.take_succ_cons, dat_lst, dat_ob, dat_fz, Option.some.injEq, SV.d.injEq, D.int.injEq, forall_eq', reduceCtorEq, false_implies, forall_const, Bool.false_eq_true, List.set, true_or, if_true, if_false, Bool.not_true, Bool.not_false]
         exact h)
theorem s_places {n : Nat} {cs : List Nat} {ws ps : List Int} {r : Int} {k z} (hn : cs.Nodup) (hP : Lt ps cs.length) (hl : ps.length ≤ 1000) (h : k (.v (.lst (iL ps)))) : wpF fnT gcT (n+2) 1 [codeD cs ws r, .str (sL (wrd cs ps))] k z := by
  unfold wpF
  simp only [f1, b1, lkD, fnT, startE, List.length_cons, List.length_nil, List.map_cons, List.map_nil, List.cons_append, List.nil_append, Nat.sub_self, Nat.reduceSub, Nat.reduceAdd, Nat.reduceLT, List.replicate_zero, List.reduceReplicate, List.replicate_succ, wpSs, wpS, wpE, wpEs, wpT, wpI, wpC, List.getElem?_cons_zero, List.getElem?_cons_succ, List.getElem?_nil, den, dens, back, true_and, and_true, nrmE, nrmT, frzSlots, cutV1, frzT, frzL, eq_ii, eq_bb, eq_ss, eq_nn, D.isNon, o_add, o_adds, o_addl, o_sub, o_addt, n_split, n_find, o_mul, o_rep, o_div, o_mod, o_pow, c_lt, c_le, c_gt, c_ge, c_lts, c_eq, c_ne, c_is, c_isnot, c_in, c_notin, t_bl, t_non, t_int, t_lst, t_tup, x_lst, x_tup, x_scr, x_str, u_lst, u_scr, u_str, b_lenl, b_lent, b_lenc, b_lens, b_abs, b_max2, b_min2, b_int, b_inb, b_tup, b_dm, b_srtk, i_lst, i_tup, i_scr, is_n, is_b, exists_eq_left', exists_eq_left, exists_eq_right, Option.some.injEq,  partD, setS, setAll, tgD, tgSlots, wipeE, List.set_cons_zero, List.set_cons_succ, List.set_nil, List.take_nil, List.take_zero, m_f, m_t, r_int, r_bl, r_str, r_non, r_tup, r_lstf, r_lstt, r_v, r_newf, r_newt, List.any_cons, List.any_nil, owned, Bool.or_false, Bool.false_or, fl_bl, fl_int, fl_str, fl_non, fl_rs, exists_eq', Ct.lst.injEq, Ct.ob.injEq, D.kst.injEq, List.take_succ_cons, dat_lst, dat_ob, dat_fz, Option.some.injEq, SV.d.injEq, D.int.injEq, forall_eq', reduceCtorEq, false_implies, forall_const, Bool.false_eq_true, List.set, true_or, if_true, if_false, Bool.not_true, Bool.not_false]
  refine s_alph ?_
  simp only [fnT, startE, List.length_cons, List.length_nil, List.map_cons, List.map_nil, List.cons_append, List.nil_append, Nat.sub_self, Nat.reduceSub, Nat.reduceAdd, Nat.reduceLT, List.replicate_zero, List.reduceReplicate, List.replicate_succ, wpSs, wpS, wpE, wpEs, wpT, wpI, wpC, List.getElem?_cons_zero, List.getElem?_cons_succ, List.getElem?_nil, den, dens, back, true_and, and_true, nrmE, nrmT, frzSlots, cutV1, frzT, frzL, eq_ii, eq_bb, eq_ss, eq_nn, D.isNon, o_add, o_adds, o_addl, o_sub, o_addt, n_split, n_find, o_mul, o_rep, o_div, o_mod, o_pow, c_lt, c_le, c_gt, c_ge, c_lts, c_eq, c_ne, c_is, c_isnot, c_in, c_notin, t_bl, t_non, t_int, t_lst, t_tup, x_lst, x_tup, x_scr, x_str, u_lst, u_scr, u_str, b_lenl, b_lent, b_lenc, b_lens, b_abs, b_max2, b_min2, b_int, b_inb, b_tup, b_dm, b_srtk, i_lst, i_tup, i_scr, is_n, is_b, exists_eq_left', exists_eq_left, exists_eq_right, Option.some.injEq,  partD, setS, setAll, tgD, tgSlots, wipeE, List.set_cons_zero, List.set_cons_succ, List.set_nil, List.take_nil, List.take_zero, m_f, m_t, r_int, r_bl, r_str, r_non, r_tup, r_lstf, r_lstt, r_v, r_newf, r_newt, List.any_cons, List.any_nil, owned, Bool.or_false, Bool.false_or, fl_bl, fl_int, fl_str, fl_non, fl_rs, exists_eq', Ct.lst.injEq, Ct.ob.injEq, D.kst.injEq, List.take_succ_cons, dat_lst, dat_ob, dat_fz, Option.some.injEq, SV.d.injEq, D.int.injEq, forall_eq', reduceCtorEq, false_implies, forall_const, Bool.false_eq_true, List.set, true_or, if_true, if_false, Bool.not_true, Bool.not_false]
  refine ⟨fun j acc => acc = iL (ps.take j), rfl, ?_, ?_⟩
  · rintro j x acc hx rfl
    obtain ⟨c, v, rest, rfl, hv, oc, ev⟩ := idx_step hn hP hx
    simp only [b1_0, fnT, startE, List.length_cons, List.length_nil, List.map_cons, List.map_nil, List.cons_append, List.nil_append, Nat.sub_self, Nat.reduceSub, Nat.reduceAdd, Nat.reduceLT, List.replicate_zero, List.reduceReplicate, List.replicate_succ, wpSs, wpS, wpE, wpEs, wpT, wpI, wpC, List.getElem?_cons_zero, List.getElem?_cons_succ, List.getElem?_nil, den, dens, back, true_and, and_true, nrmE, nrmT, frzSlots, cutV1, frzT, frzL, eq_ii, eq_bb, eq_ss, eq_nn, D.isNon, o_add, o_adds, o_addl, o_sub, o_addt, n_split, n_find, o_mul, o_rep, o_div, o_mod, o_pow, c_lt, c_le, c_gt, c_ge, c_lts, c_eq, c_ne, c_is, c_isnot, c_in, c_notin, t_bl, t_non, t_int, t_lst, t_tup, x_lst, x_tup, x_scr, x_str, u_lst, u_scr, u_str, b_lenl, b_lent, b_lenc, b_lens, b_abs, b_max2, b_min2, b_int, b_inb, b_tup, b_dm, b_srtk, i_lst, i_tup, i_scr, is_n, is_b, exists_eq_left', exists_eq_left, exists_eq_right, Option.some.injEq,  partD, setS, setAll, tgD, tgSlots, wipeE, List.set_cons_zero, List.set_cons_succ, List.set_nil, List.take_nil, List.take_zero, m_f, m_t, r_int, r_bl, r_str, r_non, r_tup, r_lstf, r_lstt, r_v, r_newf, r_newt, List.any_cons, List.any_nil, owned, Bool.or_false, Bool.false_or, fl_bl, fl_int, fl_str, fl_non, fl_rs, exists_eq', Ct.lst.injEq, Ct.ob.injEq, D.kst.injEq, List.take_succ_cons, dat_lst, dat_ob, dat_fz, Option.some.injEq, SV.d.injEq, D.int.injEq, forall_eq', reduceCtorEq, false_implies, forall_const, Bool.false_eq_true, List.set, true_or, if_true, if_false, Bool.not_true, Bool.not_false]
    rw [n_index]
    refine ⟨_, _, oc, ?_⟩
    simp only [fnT, startE, List.length_cons, List.length_nil, List.map_cons, List.map_nil, List.cons_append, List.nil_append, Nat.sub_self, Nat.reduceSub, Nat.reduceAdd, Nat.reduceLT, List.replicate_zero, List.reduceReplicate, List.replicate_succ, wpSs, wpS, wpE, wpEs, wpT, wpI, wpC, List.getElem?_cons_zero, List.getElem?_cons_succ, List.getElem?_nil, den, dens, back, true_and, and_true, nrmE, nrmT, frzSlots, cutV1, frzT, frzL, eq_ii, eq_bb, eq_ss, eq_nn, D.isNon, o_add, o_adds, o_addl, o_sub, o_addt, n_split, n_find, o_mul, o_rep, o_div, o_mod, o_pow, c_lt, c_le, c_gt, c_ge, c_lts, c_eq, c_ne, c_is, c_isnot, c_in, c_notin, t_bl, t_non, t_int, t_lst, t_tup, x_lst, x_tup, x_scr, x_str, u_lst, u_scr, u_str, b_lenl, b_lent, b_lenc, b_lens, b_abs, b_max2, b_min2, b_int, b_inb, b_tup, b_dm, b_srtk, i_lst, i_tup, i_scr, is_n, is_b, exists_eq_left', exists_eq_left, exists_eq_right, Option.some.injEq,  partD, setS, setAll, tgD, tgSlots, wipeE, List.set_cons_zero, List.set_cons_succ, List.set_nil, List.take_nil, List.take_zero, m_f, m_t, r_int, r_bl, r_str, r_non, r_tup, r_lstf, r_lstt, r_v, r_newf, r_newt, List.any_cons, List.any_nil, owned, Bool.or_false, Bool.false_or, fl_bl, fl_int, fl_str, fl_non, fl_rs, exists_eq', Ct.lst.injEq, Ct.ob.injEq, D.kst.injEq, List.take_succ_cons, dat_lst, dat_ob, dat_fz, Option.some.injEq, SV.d.injEq, D.int.injEq, forall_eq', reduceCtorEq, false_implies, forall_const, Bool.false_eq_true, List.set, true_or, if_true, if_false, Bool.not_true, Bool.not_false]
    refine ⟨sizeLine_lt (by simp; omega), ?_⟩
    rw [ev, List.take_add_one, hv, app_ints]
    rfl
  · rintro acc rfl
    have el : ((sL (wrd cs ps)).cps.toList.map fun c => D.str ⟨#[c]⟩).length = ps.length := by rw [list_sL, List.length_map, wrd_len]
    rw [el, List.take_length]
    exact h
theorem s_wordof {n : Nat} {cs : List Nat} {ws ps : List Int} {r : Int} {k z} (c26 : cs.length ≤ 26) (hP : Lt ps cs.length) (hl : ps.length ≤ 1000) (h : k (.v (.str (sL (wrd cs ps))))) : wpF fnT gcT (n+2) 2 [codeD cs ws r, .lst (iL ps)] k z := by
  unfold wpF
  simp only [f2, b2, lkD, fnT, startE, List.length_cons, List.length_nil, List.map_cons, List.map_nil, List.cons_append, List.nil_append, Nat.sub_self, Nat.reduceSub, Nat.reduceAdd, Nat.reduceLT, List.replicate_zero, List.reduceReplicate, List.replicate_succ, wpSs, wpS, wpE, wpEs, wpT, wpI, wpC, List.getElem?_cons_zero, List.getElem?_cons_succ, List.getElem?_nil, den, dens, back, true_and, and_true, nrmE, nrmT, frzSlots, cutV1, frzT, frzL, eq_ii, eq_bb, eq_ss, eq_nn, D.isNon, o_add, o_adds, o_addl, o_sub, o_addt, n_split, n_find, o_mul, o_rep, o_div, o_mod, o_pow, c_lt, c_le, c_gt, c_ge, c_lts, c_eq, c_ne, c_is, c_isnot, c_in, c_notin, t_bl, t_non, t_int, t_lst, t_tup, x_lst, x_tup, x_scr, x_str, u_lst, u_scr, u_str, b_lenl, b_lent, b_lenc, b_lens, b_abs, b_max2, b_min2, b_int, b_inb, b_tup, b_dm, b_srtk, i_lst, i_tup, i_scr, is_n, is_b, exists_eq_left', exists_eq_left, exists_eq_right, Option.some.injEq,  partD, setS, setAll, tgD, tgSlots, wipeE, List.set_cons_zero, List.set_cons_succ, List.set_nil, List.take_nil, List.take_zero, m_f, m_t, r_int, r_bl, r_str, r_non, r_tup, r_lstf, r_lstt, r_v, r_newf, r_newt, List.any_cons, List.any_nil, owned, Bool.or_false, Bool.false_or, fl_bl, fl_int, fl_str, fl_non, fl_rs, exists_eq', Ct.lst.injEq, Ct.ob.injEq, D.kst.injEq, List.take_succ_cons, dat_lst, dat_ob, dat_fz, Option.some.injEq, SV.d.injEq, D.int.injEq, forall_eq', reduceCtorEq, false_implies, forall_const, Bool.false_eq_true, List.set, true_or, if_true, if_false, Bool.not_true, Bool.not_false]
  refine s_alph ?_
  simp only [fnT, startE, List.length_cons, List.length_nil, List.map_cons, List.map_nil, List.cons_append, List.nil_append, Nat.sub_self, Nat.reduceSub, Nat.reduceAdd, Nat.reduceLT, List.replicate_zero, List.reduceReplicate, List.replicate_succ, wpSs, wpS, wpE, wpEs, wpT, wpI, wpC, List.getElem?_cons_zero, List.getElem?_cons_succ, List.getElem?_nil, den, dens, back, true_and, and_true, nrmE, nrmT, frzSlots, cutV1, frzT, frzL, eq_ii, eq_bb, eq_ss, eq_nn, D.isNon, o_add, o_adds, o_addl, o_sub, o_addt, n_split, n_find, o_mul, o_rep, o_div, o_mod, o_pow, c_lt, c_le, c_gt, c_ge, c_lts, c_eq, c_ne, c_is, c_isnot, c_in, c_notin, t_bl, t_non, t_int, t_lst, t_tup, x_lst, x_tup, x_scr, x_str, u_lst, u_scr, u_str, b_lenl, b_lent, b_lenc, b_lens, b_abs, b_max2, b_min2, b_int, b_inb, b_tup, b_dm, b_srtk, i_lst, i_tup, i_scr, is_n, is_b, exists_eq_left', exists_eq_left, exists_eq_right, Option.some.injEq,  partD, setS, setAll, tgD, tgSlots, wipeE, List.set_cons_zero, List.set_cons_succ, List.set_nil, List.take_nil, List.take_zero, m_f, m_t, r_int, r_bl, r_str, r_non, r_tup, r_lstf, r_lstt, r_v, r_newf, r_newt, List.any_cons, List.any_nil, owned, Bool.or_false, Bool.false_or, fl_bl, fl_int, fl_str, fl_non, fl_rs, exists_eq', Ct.lst.injEq, Ct.ob.injEq, D.kst.injEq, List.take_succ_cons, dat_lst, dat_ob, dat_fz, Option.some.injEq, SV.d.injEq, D.int.injEq, forall_eq', reduceCtorEq, false_implies, forall_const, Bool.false_eq_true, List.set, true_or, if_true, if_false, Bool.not_true, Bool.not_false]
  refine ⟨fun j acc => acc = ((wrd cs ps).take j).map fun x => D.str (ch x), rfl, ?_, ?_⟩
  · rintro j x acc hx rfl
    obtain ⟨v, hv, rfl⟩ := lst_it hx
    obtain ⟨a1, a2⟩ := word_of hP hv
    simp only [b2_0, a1, fnT, startE, List.length_cons, List.length_nil, List.map_cons, List.map_nil, List.cons_append, List.nil_append, Nat.sub_self, Nat.reduceSub, Nat.reduceAdd, Nat.reduceLT, List.replicate_zero, List.reduceReplicate, List.replicate_succ, wpSs, wpS, wpE, wpEs, wpT, wpI, wpC, List.getElem?_cons_zero, List.getElem?_cons_succ, List.getElem?_nil, den, dens, back, true_and, and_true, nrmE, nrmT, frzSlots, cutV1, frzT, frzL, eq_ii, eq_bb, eq_ss, eq_nn, D.isNon, o_add, o_adds, o_addl, o_sub, o_addt, n_split, n_find, o_mul, o_rep, o_div, o_mod, o_pow, c_lt, c_le, c_gt, c_ge, c_lts, c_eq, c_ne, c_is, c_isnot, c_in, c_notin, t_bl, t_non, t_int, t_lst, t_tup, x_lst, x_tup, x_scr, x_str, u_lst, u_scr, u_str, b_lenl, b_lent, b_lenc, b_lens, b_abs, b_max2, b_min2, b_int, b_inb, b_tup, b_dm, b_srtk, i_lst, i_tup, i_scr, is_n, is_b, exists_eq_left', exists_eq_left, exists_eq_right, Option.some.injEq,  partD, setS, setAll, tgD, tgSlots, wipeE, List.set_cons_zero, List.set_cons_succ, List.set_nil, List.take_nil, List.take_zero, m_f, m_t, r_int, r_bl, r_str, r_non, r_tup, r_lstf, r_lstt, r_v, r_newf, r_newt, List.any_cons, List.any_nil, owned, Bool.or_false, Bool.false_or, fl_bl, fl_int, fl_str, fl_non, fl_rs, exists_eq', Ct.lst.injEq, Ct.ob.injEq, D.kst.injEq, List.take_succ_cons, dat_lst, dat_ob, dat_fz, Option.some.injEq, SV.d.injEq, D.int.injEq, forall_eq', reduceCtorEq, false_implies, forall_const, Bool.false_eq_true, List.set, true_or, if_true, if_false, Bool.not_true, Bool.not_false]
    refine ⟨_, sizeLine_big (by rw [len_sL]; omega), rfl, sizeLine_lt (by simp [wrd]; omega), ?_⟩
    rw [List.take_add_one, a2]
    simp
  · rintro acc rfl
    have e : (ps.map D.int).length = (wrd cs ps).length := by simp [wrd]
    rw [e, List.take_length]
    exact join_wrd (by omega) h
abbrev rL (rows : List (List Int)) : List D := rows.map rowD
abbrev wL (cs : List Nat) (rows : List (List Int)) : List D := rows.map fun r => D.str (sL (wrd cs r))
theorem rL_app {a b : List (List Int)} : rL a ++ rL b = rL (a ++ b) := by simp [rL]
theorem getD_in {ps : List Int} {i : Nat} (h : i < ps.length) : ps[i]? = some (ps.getD i 0) := by
  rw [List.getD_eq_getElem?_getD, List.getElem?_eq_getElem h]; rfl
theorem cutM {n : Nat} {x : Option D} : cutV1 n (x.map SV.d) = x.map SV.d := by cases x <;> rfl
theorem row_take {ps : List Int} {k : Nat} {m : List Int} : (iL ps).take k ++ iL m ++ (iL ps).drop (k + m.length) = iL (ps.take k ++ m ++ ps.drop (k + m.length)) := by simp [iL, List.map_take, List.map_drop]
theorem getD_set {ps : List Int} {i k : Nat} {a : Int} (hi : i < ps.length) : (ps.set i a).getD k 0 = if k = i then a else ps.getD k 0 := by
  rw [List.getD_eq_getElem?_getD, List.getD_eq_getElem?_getD, List.getElem?_set]
  by_cases h : i = k
  · subst h; simp [hi]
  · rw [if_neg h, if_neg (Ne.symm h)]
theorem row_one {ps : List Int} {i : Nat} {a : Int} (hi : i < ps.length) : ps.take i ++ [a] ++ ps.drop (i + 1) = ps.set i a := by
  rw [List.set_eq_take_append_cons_drop, if_pos hi]; simp
theorem dlt_rows {a b : List Int} : W.dataLt (.list (a.map .int)) (.list (b.map .int)) = decide (a < b) := by
  have e := congrFun (congrFun (W.dataLe_rows (fun x : List Int => x)) b) a
  have e : (!W.dataLt (.list (a.map .int)) (.list (b.map .int))) = decide (b ≤ a) := e
  by_cases h : a < b
  · have h' : ¬ b ≤ a := fun r => List.not_lt.mpr r h
    rw [decide_eq_false h'] at e
    rw [decide_eq_true h]
    simpa using e
  · have h' : b ≤ a := List.not_lt.mp h
    rw [decide_eq_true h'] at e
    rw [decide_eq_false h]
    simpa using e
end K09

namespace K09
open PySem L2 PD
theorem s_lword {n : Nat} {c : Int} {cs : List Nat} {len : Nat} {k z} (c3 : 3 ≤ cs.length) (c26 : cs.length ≤ 26) (hl : len ≤ 8) (h : ∀ ps : List Int, ps.length = len → Lt ps cs.length → k (.v (.lst (iL ps)))) : wpF fnT gcT (n+3) 31 [.int c, .str (sL cs), .int len] k z := by
  have mp : (0 : Int) < cs.length := by omega
  unfold wpF
  simp only [f31, b31, fnT, startE, List.length_cons, List.length_nil, List.map_cons, List.map_nil, List.cons_append, List.nil_append, Nat.sub_self, Nat.reduceSub, Nat.reduceAdd, Nat.reduceLT, List.replicate_zero, List.reduceReplicate, List.replicate_succ, wpSs, wpS, wpE, wpEs, wpT, wpI, wpC, List.getElem?_cons_zero, List.getElem?_cons_succ, List.getElem?_nil, den, dens, back, true_and, and_true, nrmE, nrmT, frzSlots, cutV1, frzT, frzL, eq_ii, eq_bb, eq_ss, eq_nn, D.isNon, o_add, o_adds, o_addl, o_sub, o_addt, n_split, n_find, o_mul, o_rep, o_div, o_mod, o_pow, c_lt, c_le, c_gt, c_ge, c_lts, c_eq, c_ne, c_is, c_isnot, c_in, c_notin, t_bl, t_non, t_int, t_lst, t_tup, x_lst, x_tup, x_scr, x_str, u_lst, u_scr, u_str, b_lenl, b_lent, b_lenc, b_lens, b_abs, b_max2, b_min2, b_int, b_inb, b_tup, b_dm, b_srtk, i_lst, i_tup, i_scr, is_n, is_b, exists_eq_left', exists_eq_left, exists_eq_right, Option.some.injEq,  partD, setS, setAll, tgD, tgSlots, wipeE, List.set_cons_zero, List.set_cons_succ, List.set_nil, List.take_nil, List.take_zero, m_f, m_t, r_int, r_bl, r_str, r_non, r_tup, r_lstf, r_lstt, r_v, r_newf, r_newt, List.any_cons, List.any_nil, owned, Bool.or_false, Bool.false_or, fl_bl, fl_int, fl_str, fl_non, fl_rs, exists_eq', Ct.lst.injEq, Ct.ob.injEq, D.kst.injEq, List.take_succ_cons, dat_lst, dat_ob, dat_fz, Option.some.injEq, SV.d.injEq, D.int.injEq, forall_eq', reduceCtorEq, false_implies, forall_const, Bool.false_eq_true, List.set, true_or, if_true, if_false, Bool.not_true, Bool.not_false]
  refine ⟨by omega, by omega, fun i acc => ∃ ps, acc = iL ps ∧ ps.length = i ∧ Lt ps cs.length, ⟨[], rfl, rfl, Lt.nil⟩, ?_, ?_⟩
  · rintro i x acc hx ⟨ps, rfl, hp, hP⟩
    obtain ⟨hi, rfl⟩ := rng_it hx
    rw [Int.toNat_natCast] at hi
    simp only [b31_0, fnT, startE, List.length_cons, List.length_nil, List.map_cons, List.map_nil, List.cons_append, List.nil_append, Nat.sub_self, Nat.reduceSub, Nat.reduceAdd, Nat.reduceLT, List.replicate_zero, List.reduceReplicate, List.replicate_succ, wpSs, wpS, wpE, wpEs, wpT, wpI, wpC, List.getElem?_cons_zero, List.getElem?_cons_succ, List.getElem?_nil, den, dens, back, true_and, and_true, nrmE, nrmT, frzSlots, cutV1, frzT, frzL, eq_ii, eq_bb, eq_ss, eq_nn, D.isNon, o_add, o_adds, o_addl, o_sub, o_addt, n_split, n_find, o_mul, o_rep, o_div, o_mod, o_pow, c_lt, c_le, c_gt, c_ge, c_lts, c_eq, c_ne, c_is, c_isnot, c_in, c_notin, t_bl, t_non, t_int, t_lst, t_tup, x_lst, x_tup, x_scr, x_str, u_lst, u_scr, u_str, b_lenl, b_lent, b_lenc, b_lens, b_abs, b_max2, b_min2, b_int, b_inb, b_tup, b_dm, b_srtk, i_lst, i_tup, i_scr, is_n, is_b, exists_eq_left', exists_eq_left, exists_eq_right, Option.some.injEq,  partD, setS, setAll, tgD, tgSlots, wipeE, List.set_cons_zero, List.set_cons_succ, List.set_nil, List.take_nil, List.take_zero, m_f, m_t, r_int, r_bl, r_str, r_non, r_tup, r_lstf, r_lstt, r_v, r_newf, r_newt, List.any_cons, List.any_nil, owned, Bool.or_false, Bool.false_or, fl_bl, fl_int, fl_str, fl_non, fl_rs, exists_eq', Ct.lst.injEq, Ct.ob.injEq, D.kst.injEq, List.take_succ_cons, dat_lst, dat_ob, dat_fz, Option.some.injEq, SV.d.injEq, D.int.injEq, forall_eq', reduceCtorEq, false_implies, forall_const, Bool.false_eq_true, List.set, true_or, if_true, if_false, Bool.not_true, Bool.not_false]
    refine s_mixed (by omega) (by omega) fun v v0 v1 => ?_
    simp only [len_sL, fnT, startE, List.length_cons, List.length_nil, List.map_cons, List.map_nil, List.cons_append, List.nil_append, Nat.sub_self, Nat.reduceSub, Nat.reduceAdd, Nat.reduceLT, List.replicate_zero, List.reduceReplicate, List.replicate_succ, wpSs, wpS, wpE, wpEs, wpT, wpI, wpC, List.getElem?_cons_zero, List.getElem?_cons_succ, List.getElem?_nil, den, dens, back, true_and, and_true, nrmE, nrmT, frzSlots, cutV1, frzT, frzL, eq_ii, eq_bb, eq_ss, eq_nn, D.isNon, o_add, o_adds, o_addl, o_sub, o_addt, n_split, n_find, o_mul, o_rep, o_div, o_mod, o_pow, c_lt, c_le, c_gt, c_ge, c_lts, c_eq, c_ne, c_is, c_isnot, c_in, c_notin, t_bl, t_non, t_int, t_lst, t_tup, x_lst, x_tup, x_scr, x_str, u_lst, u_scr, u_str, b_lenl, b_lent, b_lenc, b_lens, b_abs, b_max2, b_min2, b_int, b_inb, b_tup, b_dm, b_srtk, i_lst, i_tup, i_scr, is_n, is_b, exists_eq_left', exists_eq_left, exists_eq_right, Option.some.injEq,  partD, setS, setAll, tgD, tgSlots, wipeE, List.set_cons_zero, List.set_cons_succ, List.set_nil, List.take_nil, List.take_zero, m_f, m_t, r_int, r_bl, r_str, r_non, r_tup, r_lstf, r_lstt, r_v, r_newf, r_newt, List.any_cons, List.any_nil, owned, Bool.or_false, Bool.false_or, fl_bl, fl_int, fl_str, fl_non, fl_rs, exists_eq', Ct.lst.injEq, Ct.ob.injEq, D.kst.injEq, List.take_succ_cons, dat_lst, dat_ob, dat_fz, Option.some.injEq, SV.d.injEq, D.int.injEq, forall_eq', reduceCtorEq, false_implies, forall_const, Bool.false_eq_true, List.set, true_or, if_true, if_false, Bool.not_true, Bool.not_false]
    refine ⟨sizeLine_big (by omega), mp, sizeLine_lt (by rw [len_ints]; omega), ps ++ [v % cs.length], by rw [app_ints], by simp [hp], hP.snoc (Int.emod_nonneg _ (by omega)) (Int.emod_lt_of_pos _ mp)⟩
  · rintro acc ⟨ps, rfl, hp, hP⟩
    rw [rng_len, Int.toNat_natCast] at hp
    refine ⟨by decide, fun _ => ?_, fun _ => h ps hp hP⟩
    refine ⟨fun i acc => ∃ qs, acc = iL qs ∧ qs.length = i ∧ i ≤ 8 ∧ Lt qs cs.length, ⟨[], rfl, rfl, by omega, Lt.nil⟩, ?_, ?_⟩
    · rintro i x acc hx ⟨qs, rfl, hq, hi8, hQ⟩
      obtain ⟨v, hv, rfl⟩ := lst_it hx
      have hi := (List.getElem?_eq_some_iff.mp hv).1
      simp only [b31_1, fnT, startE, List.length_cons, List.length_nil, List.map_cons, List.map_nil, List.cons_append, List.nil_append, Nat.sub_self, Nat.reduceSub, Nat.reduceAdd, Nat.reduceLT, List.replicate_zero, List.reduceReplicate, List.replicate_succ, wpSs, wpS, wpE, wpEs, wpT, wpI, wpC, List.getElem?_cons_zero, List.getElem?_cons_succ, List.getElem?_nil, den, dens, back, true_and, and_true, nrmE, nrmT, frzSlots, cutV1, frzT, frzL, eq_ii, eq_bb, eq_ss, eq_nn, D.isNon, o_add, o_adds, o_addl, o_sub, o_addt, n_split, n_find, o_mul, o_rep, o_div, o_mod, o_pow, c_lt, c_le, c_gt, c_ge, c_lts, c_eq, c_ne, c_is, c_isnot, c_in, c_notin, t_bl, t_non, t_int, t_lst, t_tup, x_lst, x_tup, x_scr, x_str, u_lst, u_scr, u_str, b_lenl, b_lent, b_lenc, b_lens, b_abs, b_max2, b_min2, b_int, b_inb, b_tup, b_dm, b_srtk, i_lst, i_tup, i_scr, is_n, is_b, exists_eq_left', exists_eq_left, exists_eq_right, Option.some.injEq,  partD, setS, setAll, tgD, tgSlots, wipeE, List.set_cons_zero, List.set_cons_succ, List.set_nil, List.take_nil, List.take_zero, m_f, m_t, r_int, r_bl, r_str, r_non, r_tup, r_lstf, r_lstt, r_v, r_newf, r_newt, List.any_cons, List.any_nil, owned, Bool.or_false, Bool.false_or, fl_bl, fl_int, fl_str, fl_non, fl_rs, exists_eq', Ct.lst.injEq, Ct.ob.injEq, D.kst.injEq, List.take_succ_cons, dat_lst, dat_ob, dat_fz, Option.some.injEq, SV.d.injEq, D.int.injEq, forall_eq', reduceCtorEq, false_implies, forall_const, Bool.false_eq_true, List.set, true_or, if_true, if_false, Bool.not_true, Bool.not_false]
      have t0 := Int.emod_nonneg (v / 2) (show (2 : Int) ≠ 0 by decide)
      have t1 := Int.emod_lt_of_pos (v / 2) (show (0 : Int) < 2 by decide)
      refine ⟨divOk_of (by decide) (by decide), by decide, sizeLine_lt (by rw [len_ints]; omega), qs ++ [v / 2 % 2], by rw [app_ints], by simp [hq], by omega, hQ.snoc t0 (by omega)⟩
    · rintro acc ⟨qs, rfl, hq, hi8, hQ⟩
      rw [len_ints] at hq
      exact h qs (by omega) hQ
theorem s_ltext {n : Nat} {cs : List Nat} {ps : List Int} {k z} (c26 : cs.length ≤ 26) (hP : Lt ps cs.length) (hl : ps.length ≤ 1000) (h : k (.v (.str (sL (wrd cs ps))))) : wpF fnT gcT (n+1) 32 [.str (sL cs), .lst (iL ps)] k z := by
  unfold wpF
  simp only [f32, b32, fnT, startE, List.length_cons, List.length_nil, List.map_cons, List.map_nil, List.cons_append, List.nil_append, Nat.sub_self, Nat.reduceSub, Nat.reduceAdd, Nat.reduceLT, List.replicate_zero, List.reduceReplicate, List.replicate_succ, wpSs, wpS, wpE, wpEs, wpT, wpI, wpC, List.getElem?_cons_zero, List.getElem?_cons_succ, List.getElem?_nil, den, dens, back, true_and, and_true, nrmE, nrmT, frzSlots, cutV1, frzT, frzL, eq_ii, eq_bb, eq_ss, eq_nn, D.isNon, o_add, o_adds, o_addl, o_sub, o_addt, n_split, n_find, o_mul, o_rep, o_div, o_mod, o_pow, c_lt, c_le, c_gt, c_ge, c_lts, c_eq, c_ne, c_is, c_isnot, c_in, c_notin, t_bl, t_non, t_int, t_lst, t_tup, x_lst, x_tup, x_scr, x_str, u_lst, u_scr, u_str, b_lenl, b_lent, b_lenc, b_lens, b_abs, b_max2, b_min2, b_int, b_inb, b_tup, b_dm, b_srtk, i_lst, i_tup, i_scr, is_n, is_b, exists_eq_left', exists_eq_left, exists_eq_right, Option.some.injEq,  partD, setS, setAll, tgD, tgSlots, wipeE, List.set_cons_zero, List.set_cons_succ, List.set_nil, List.take_nil, List.take_zero, m_f, m_t, r_int, r_bl, r_str, r_non, r_tup, r_lstf, r_lstt, r_v, r_newf, r_newt, List.any_cons, List.any_nil, owned, Bool.or_false, Bool.false_or, fl_bl, fl_int, fl_str, fl_non, fl_rs, exists_eq', Ct.lst.injEq, Ct.ob.injEq, D.kst.injEq, List.take_succ_cons, dat_lst, dat_ob, dat_fz, Option.some.injEq, SV.d.injEq, D.int.injEq, forall_eq', reduceCtorEq, false_implies, forall_const, Bool.false_eq_true, List.set, true_or, if_true, if_false, Bool.not_true, Bool.not_false]
  refine ⟨fun j acc => acc = ((wrd cs ps).take j).map fun x => D.str (ch x), rfl, ?_, ?_⟩
  · rintro j x acc hx rfl
    obtain ⟨v, hv, rfl⟩ := lst_it hx
    obtain ⟨a1, a2⟩ := word_of hP hv
    simp only [b32_0, a1, fnT, startE, List.length_cons, List.length_nil, List.map_cons, List.map_nil, List.cons_append, List.nil_append, Nat.sub_self, Nat.reduceSub, Nat.reduceAdd, Nat.reduceLT, List.replicate_zero, List.reduceReplicate, List.replicate_succ, wpSs, wpS, wpE, wpEs, wpT, wpI, wpC, List.getElem?_cons_zero, List.getElem?_cons_succ, List.getElem?_nil, den, dens, back, true_and, and_true, nrmE, nrmT, frzSlots, cutV1, frzT, frzL, eq_ii, eq_bb, eq_ss, eq_nn, D.isNon, o_add, o_adds, o_addl, o_sub, o_addt, n_split, n_find, o_mul, o_rep, o_div, o_mod, o_pow, c_lt, c_le, c_gt, c_ge, c_lts, c_eq, c_ne, c_is, c_isnot, c_in, c_notin, t_bl, t_non, t_int, t_lst, t_tup, x_lst, x_tup, x_scr, x_str, u_lst, u_scr, u_str, b_lenl, b_lent, b_lenc, b_lens, b_abs, b_max2, b_min2, b_int, b_inb, b_tup, b_dm, b_srtk, i_lst, i_tup, i_scr, is_n, is_b, exists_eq_left', exists_eq_left, exists_eq_right, Option.some.injEq,  partD, setS, setAll, tgD, tgSlots, wipeE, List.set_cons_zero, List.set_cons_succ, List.set_nil, List.take_nil, List.take_zero, m_f, m_t, r_int, r_bl, r_str, r_non, r_tup, r_lstf, r_lstt, r_v, r_newf, r_newt, List.any_cons, List.any_nil, owned, Bool.or_false, Bool.false_or, fl_bl, fl_int, fl_str, fl_non, fl_rs, exists_eq', Ct.lst.injEq, Ct.ob.injEq, D.kst.injEq, List.take_succ_cons, dat_lst, dat_ob, dat_fz, Option.some.injEq, SV.d.injEq, D.int.injEq, forall_eq', reduceCtorEq, false_implies, forall_const, Bool.false_eq_true, List.set, true_or, if_true, if_false, Bool.not_true, Bool.not_false]
    refine ⟨_, sizeLine_big (by rw [len_sL]; omega), rfl, sizeLine_lt (by simp [wrd]; omega), ?_⟩
    rw [List.take_add_one, a2]
    simp
  · rintro acc rfl
    have e : (ps.map D.int).length = (wrd cs ps).length := by simp [wrd]
    rw [e, List.take_length]
    exact join_wrd (by omega) h
theorem s_lplaces {n : Nat} {cs : List Nat} {ps : List Int} {k z} (hn : cs.Nodup) (hP : Lt ps cs.length) (hl : ps.length ≤ 8) (h : k (.v (.lst (iL ps)))) : wpF fnT gcT (n+1) 35 [.str (sL cs), .str (sL (wrd cs ps)), .int ps.length] k z := by
  unfold wpF
  simp only [f35, b35, tyD, len_sL, wrd_len, fnT, startE, List.length_cons, List.length_nil, List.map_cons, List.map_nil, List.cons_append, List.nil_append, Nat.sub_self, Nat.reduceSub, Nat.reduceAdd, Nat.reduceLT, List.replicate_zero, List.reduceReplicate, List.replicate_succ, wpSs, wpS, wpE, wpEs, wpT, wpI, wpC, List.getElem?_cons_zero, List.getElem?_cons_succ, List.getElem?_nil, den, dens, back, true_and, and_true, nrmE, nrmT, frzSlots, cutV1, frzT, frzL, eq_ii, eq_bb, eq_ss, eq_nn, D.isNon, o_add, o_adds, o_addl, o_sub, o_addt, n_split, n_find, o_mul, o_rep, o_div, o_mod, o_pow, c_lt, c_le, c_gt, c_ge, c_lts, c_eq, c_ne, c_is, c_isnot, c_in, c_notin, t_bl, t_non, t_int, t_lst, t_tup, x_lst, x_tup, x_scr, x_str, u_lst, u_scr, u_str, b_lenl, b_lent, b_lenc, b_lens, b_abs, b_max2, b_min2, b_int, b_inb, b_tup, b_dm, b_srtk, i_lst, i_tup, i_scr, is_n, is_b, exists_eq_left', exists_eq_left, exists_eq_right, Option.some.injEq,  partD, setS, setAll, tgD, tgSlots, wipeE, List.set_cons_zero, List.set_cons_succ, List.set_nil, List.take_nil, List.take_zero, m_f, m_t, r_int, r_bl, r_str, r_non, r_tup, r_lstf, r_lstt, r_v, r_newf, r_newt, List.any_cons, List.any_nil, owned, Bool.or_false, Bool.false_or, fl_bl, fl_int, fl_str, fl_non, fl_rs, exists_eq', Ct.lst.injEq, Ct.ob.injEq, D.kst.injEq, List.take_succ_cons, dat_lst, dat_ob, dat_fz, Option.some.injEq, SV.d.injEq, D.int.injEq, forall_eq', reduceCtorEq, false_implies, forall_const, Bool.false_eq_true, List.set, true_or, if_true, if_false, Bool.not_true, Bool.not_false]
  refine ⟨sizeLine_big (by omega), fun z => by simp at z, fun _ => ?_⟩
  simp only [b35_1, fnT, startE, List.length_cons, List.length_nil, List.map_cons, List.map_nil, List.cons_append, List.nil_append, Nat.sub_self, Nat.reduceSub, Nat.reduceAdd, Nat.reduceLT, List.replicate_zero, List.reduceReplicate, List.replicate_succ, wpSs, wpS, wpE, wpEs, wpT, wpI, wpC, List.getElem?_cons_zero, List.getElem?_cons_succ, List.getElem?_nil, den, dens, back, true_and, and_true, nrmE, nrmT, frzSlots, cutV1, frzT, frzL, eq_ii, eq_bb, eq_ss, eq_nn, D.isNon, o_add, o_adds, o_addl, o_sub, o_addt, n_split, n_find, o_mul, o_rep, o_div, o_mod, o_pow, c_lt, c_le, c_gt, c_ge, c_lts, c_eq, c_ne, c_is, c_isnot, c_in, c_notin, t_bl, t_non, t_int, t_lst, t_tup, x_lst, x_tup, x_scr, x_str, u_lst, u_scr, u_str, b_lenl, b_lent, b_lenc, b_lens, b_abs, b_max2, b_min2, b_int, b_inb, b_tup, b_dm, b_srtk, i_lst, i_tup, i_scr, is_n, is_b, exists_eq_left', exists_eq_left, exists_eq_right, Option.some.injEq,  partD, setS, setAll, tgD, tgSlots, wipeE, List.set_cons_zero, List.set_cons_succ, List.set_nil, List.take_nil, List.take_zero, m_f, m_t, r_int, r_bl, r_str, r_non, r_tup, r_lstf, r_lstt, r_v, r_newf, r_newt, List.any_cons, List.any_nil, owned, Bool.or_false, Bool.false_or, fl_bl, fl_int, fl_str, fl_non, fl_rs, exists_eq', Ct.lst.injEq, Ct.ob.injEq, D.kst.injEq, List.take_succ_cons, dat_lst, dat_ob, dat_fz, Option.some.injEq, SV.d.injEq, D.int.injEq, forall_eq', reduceCtorEq, false_implies, forall_const, Bool.false_eq_true, List.set, true_or, if_true, if_false, Bool.not_true, Bool.not_false]
  refine ⟨Nat.zero_le _, fun i e l => ∃ x4 : Option D, e = [some (.d (.str (sL cs))), some (.d (.str (sL (wrd cs ps)))), some (.d (.int ps.length)), some (.c 0), x4.map SV.d] ∧ l = [.lst (iL (ps.take i))], ⟨none, rfl, rfl⟩, ?_, ?_⟩
  · rintro i x e l hx ⟨x4, rfl, rfl⟩
    obtain ⟨c, v, rest, rfl, hv, oc, ev⟩ := idx_step hn hP hx
    have hi := (List.getElem?_eq_some_iff.mp hv).1
    have hin : c ∈ cs := by
      have hx : ((wrd cs ps).map fun c => D.str ⟨#[c]⟩)[i]? = some (.str (ch c)) := hx
      rw [List.getElem?_map, Option.map_eq_some_iff] at hx
      obtain ⟨c', h1, h2⟩ := hx
      have h3 : c' = c := by
        have := congrArg (fun d : D => match d with | .str s => s.cps.toList | _ => []) h2
        simpa using this
      subst h3
      exact wrd_in hP _ (List.mem_of_getElem? h1)
    simp only [b35_0, inD, list_sL, fnT, startE, List.length_cons, List.length_nil, List.map_cons, List.map_nil, List.cons_append, List.nil_append, Nat.sub_self, Nat.reduceSub, Nat.reduceAdd, Nat.reduceLT, List.replicate_zero, List.reduceReplicate, List.replicate_succ, wpSs, wpS, wpE, wpEs, wpT, wpI, wpC, List.getElem?_cons_zero, List.getElem?_cons_succ, List.getElem?_nil, den, dens, back, true_and, and_true, nrmE, nrmT, frzSlots, cutV1, frzT, frzL, eq_ii, eq_bb, eq_ss, eq_nn, D.isNon, o_add, o_adds, o_addl, o_sub, o_addt, n_split, n_find, o_mul, o_rep, o_div, o_mod, o_pow, c_lt, c_le, c_gt, c_ge, c_lts, c_eq, c_ne, c_is, c_isnot, c_in, c_notin, t_bl, t_non, t_int, t_lst, t_tup, x_lst, x_tup, x_scr, x_str, u_lst, u_scr, u_str, b_lenl, b_lent, b_lenc, b_lens, b_abs, b_max2, b_min2, b_int, b_inb, b_tup, b_dm, b_srtk, i_lst, i_tup, i_scr, is_n, is_b, exists_eq_left', exists_eq_left, exists_eq_right, Option.some.injEq,  partD, setS, setAll, tgD, tgSlots, wipeE, List.set_cons_zero, List.set_cons_succ, List.set_nil, List.take_nil, List.take_zero, m_f, m_t, r_int, r_bl, r_str, r_non, r_tup, r_lstf, r_lstt, r_v, r_newf, r_newt, List.any_cons, List.any_nil, owned, Bool.or_false, Bool.false_or, fl_bl, fl_int, fl_str, fl_non, fl_rs, exists_eq', Ct.lst.injEq, Ct.ob.injEq, D.kst.injEq, List.take_succ_cons, dat_lst, dat_ob, dat_fz, Option.some.injEq, SV.d.injEq, D.int.injEq, forall_eq', reduceCtorEq, false_implies, forall_const, Bool.false_eq_true, List.set, true_or, if_true, if_false, Bool.not_true, Bool.not_false]
    refine ⟨c, rfl, fun z => by simp [hin] at z, fun _ => ?_⟩
    rw [n_index]
    refine ⟨_, _, oc, ?_⟩
    simp only [fnT, startE, List.length_cons, List.length_nil, List.map_cons, List.map_nil, List.cons_append, List.nil_append, Nat.sub_self, Nat.reduceSub, Nat.reduceAdd, Nat.reduceLT, List.replicate_zero, List.reduceReplicate, List.replicate_succ, wpSs, wpS, wpE, wpEs, wpT, wpI, wpC, List.getElem?_cons_zero, List.getElem?_cons_succ, List.getElem?_nil, den, dens, back, true_and, and_true, nrmE, nrmT, frzSlots, cutV1, frzT, frzL, eq_ii, eq_bb, eq_ss, eq_nn, D.isNon, o_add, o_adds, o_addl, o_sub, o_addt, n_split, n_find, o_mul, o_rep, o_div, o_mod, o_pow, c_lt, c_le, c_gt, c_ge, c_lts, c_eq, c_ne, c_is, c_isnot, c_in, c_notin, t_bl, t_non, t_int, t_lst, t_tup, x_lst, x_tup, x_scr, x_str, u_lst, u_scr, u_str, b_lenl, b_lent, b_lenc, b_lens, b_abs, b_max2, b_min2, b_int, b_inb, b_tup, b_dm, b_srtk, i_lst, i_tup, i_scr, is_n, is_b, exists_eq_left', exists_eq_left, exists_eq_right, Option.some.injEq,  partD, setS, setAll, tgD, tgSlots, wipeE, List.set_cons_zero, List.set_cons_succ, List.set_nil, List.take_nil, List.take_zero, m_f, m_t, r_int, r_bl, r_str, r_non, r_tup, r_lstf, r_lstt, r_v, r_newf, r_newt, List.any_cons, List.any_nil, owned, Bool.or_false, Bool.false_or, fl_bl, fl_int, fl_str, fl_non, fl_rs, exists_eq', Ct.lst.injEq, Ct.ob.injEq, D.kst.injEq, List.take_succ_cons, dat_lst, dat_ob, dat_fz, Option.some.injEq, SV.d.injEq, D.int.injEq, forall_eq', reduceCtorEq, false_implies, forall_const, Bool.false_eq_true, List.set, true_or, if_true, if_false, Bool.not_true, Bool.not_false]
    refine ⟨sizeLine_lt (by rw [len_ints, List.length_take]; omega), some _, rfl, ?_⟩
    rw [ev, List.take_add_one, hv, app_ints]
    rfl
  · rintro e l ⟨x4, rfl, rfl⟩
    simp only [fnT, startE, List.length_cons, List.length_nil, List.map_cons, List.map_nil, List.cons_append, List.nil_append, Nat.sub_self, Nat.reduceSub, Nat.reduceAdd, Nat.reduceLT, List.replicate_zero, List.reduceReplicate, List.replicate_succ, wpSs, wpS, wpE, wpEs, wpT, wpI, wpC, List.getElem?_cons_zero, List.getElem?_cons_succ, List.getElem?_nil, den, dens, back, true_and, and_true, nrmE, nrmT, frzSlots, cutV1, frzT, frzL, eq_ii, eq_bb, eq_ss, eq_nn, D.isNon, o_add, o_adds, o_addl, o_sub, o_addt, n_split, n_find, o_mul, o_rep, o_div, o_mod, o_pow, c_lt, c_le, c_gt, c_ge, c_lts, c_eq, c_ne, c_is, c_isnot, c_in, c_notin, t_bl, t_non, t_int, t_lst, t_tup, x_lst, x_tup, x_scr, x_str, u_lst, u_scr, u_str, b_lenl, b_lent, b_lenc, b_lens, b_abs, b_max2, b_min2, b_int, b_inb, b_tup, b_dm, b_srtk, i_lst, i_tup, i_scr, is_n, is_b, exists_eq_left', exists_eq_left, exists_eq_right, Option.some.injEq,  partD, setS, setAll, tgD, tgSlots, wipeE, List.set_cons_zero, List.set_cons_succ, List.set_nil, List.take_nil, List.take_zero, m_f, m_t, r_int, r_bl, r_str, r_non, r_tup, r_lstf, r_lstt, r_v, r_newf, r_newt, List.any_cons, List.any_nil, owned, Bool.or_false, Bool.false_or, fl_bl, fl_int, fl_str, fl_non, fl_rs, exists_eq', Ct.lst.injEq, Ct.ob.injEq, D.kst.injEq, List.take_succ_cons, dat_lst, dat_ob, dat_fz, Option.some.injEq, SV.d.injEq, D.int.injEq, forall_eq', reduceCtorEq, false_implies, forall_const, Bool.false_eq_true, List.set, true_or, if_true, if_false, Bool.not_true, Bool.not_false]
    have el : ((sL (wrd cs ps)).cps.toList.map fun c => D.str ⟨#[c]⟩).length = ps.length := by rw [list_sL, List.length_map, wrd_len]
    rw [el, List.take_length]
    exact h
theorem noS_row {r : List Int} (h : r ≠ []) : (rowD r).noS = true := by
  cases r with
  | nil => exact absurd rfl h
  | cons a r =>
    have e : ∀ xs : List Int, noSs (xs.map D.int) = true := fun xs => by
      induction xs with
      | nil => rfl
      | cons x xs ih => rw [List.map_cons]; unfold noSs; rw [ih]; rfl
    show (true && noSs ((a :: r).map D.int)) = true
    rw [e]; rfl
theorem noS_rows : ∀ {rows : List (List Int)}, (∀ r ∈ rows, r ≠ []) → noSs (rL rows) = true
  | [], _ => rfl
  | r :: rows, h => by
    show noSs (rowD r :: rL rows) = true
    unfold noSs
    rw [noS_row (h r List.mem_cons_self), noS_rows fun x hx => h x (List.mem_cons_of_mem _ hx)]; rfl
theorem strs_w {cs : List Nat} {rows : List (List Int)} : Ct.strs (.lst (wL cs rows)) = true := by
  cases rows <;> rfl
theorem pures_rows : ∀ rows : List (List Int), pures (rL rows) = true
  | [] => rfl
  | r :: rows => by
    show pures (rowD r :: rL rows) = true
    unfold pures
    rw [pures_rows rows]
    have : (rowD r).pure = true := by unfold D.pure; exact pures_ints r
    rw [this]; rfl
theorem toPys_rows : ∀ rows : List (List Int), toPys (rL rows) = rows.map fun r => PyData.list (r.map .int)
  | [] => rfl
  | r :: rows => by
    show toPys (rowD r :: rL rows) = _
    rw [toPys, toPys_rows rows, toPy, toPys_ints]; rfl
theorem lay_rows : ∀ rows : List (List Int), PyData.canLayAll0 (rows.map fun r => PyData.list (r.map .int)) = true
  | [] => by unfold PyData.canLayAll0; rfl
  | r :: rows => by
    rw [List.map_cons]; unfold PyData.canLayAll0
    rw [lay_rows rows]; unfold PyData.canLay0; rw [lay_ints]; rfl
theorem dep_rows : ∀ rows : List (List Int), PyData.depthAll (rows.map fun r => PyData.list (r.map .int)) ≤ 1
  | [] => by simp [PyData.depthAll]
  | r :: rows => by
    have ih := dep_rows rows
    rw [List.map_cons]; unfold PyData.depthAll
    have : (PyData.list (r.map .int)).depth ≤ 1 := by unfold PyData.depth; rw [dep_ints]; omega
    omega
theorem shaped_rows (rows : List (List Int)) : SeqAt.shaped (.list (toPys (rL rows))) = true := by
  rw [toPys_rows]
  unfold SeqAt.shaped
  rw [PyData.canLay0, lay_rows, PyData.depth]
  have := dep_rows rows
  simp; omega
theorem none_rows {rows : List (List Int)} {k : Bool → Prop} (h : k false) : inD .non (.lst (rL rows)) k := by
  refine .inr ⟨rfl, pures_rows rows, rfl, shaped_rows rows, ?_⟩
  have e : (toPys (rL rows)).any (fun z => PyData.eqv z (toPy .non)) = false := by
    rw [toPys_rows, List.any_eq_false]
    intro x hx
    obtain ⟨r, _, rfl⟩ := List.mem_map.mp hx
    rw [toPy, PyData.eqv]
    simp
  rw [e]
  exact h
theorem ge_rows {a b : List Int} {k : Bool → Prop} (hab : a < b) (h : k false) : cmpD .ge (rowD a) (rowD b) k := by
  have o : ordL (a.map D.int) (b.map D.int) := by
    refine ⟨pures_ints a, pures_ints b, ?_, ?_⟩
    · rw [toPys_ints, toPys_ints, W.alike]; exact W.alike_ints a b
    · rw [toPys_ints, PyData.depth, dep_ints]; omega
  show ordL (a.map D.int) (b.map D.int) ∧ k (!W.dataLt (.list (toPys (a.map D.int))) (.list (toPys (b.map D.int))))
  refine ⟨o, ?_⟩
  rw [toPys_ints, toPys_ints, dlt_rows, decide_eq_true hab]
  exact h
theorem s_rising {n : Nat} {cs : List Nat} {rows : List (List Int)} {len : Nat} {k z} (hn : cs.Nodup) (hl : len ≤ 8) (hr : rows.length ≤ 1000) (hR : ∀ r ∈ rows, Lt r cs.length ∧ r.length = len) (up : rows.Pairwise (· < ·)) (h : k (.new (rL rows))) :
    wpF fnT gcT (n+2) 36 [.str (sL cs), .int len, .lst (wL cs rows)] k z := by
  unfold wpF
  simp only [f36, b36, tyD, fnT, startE, List.length_cons, List.length_nil, List.map_cons, List.map_nil, List.cons_append, List.nil_append, Nat.sub_self, Nat.reduceSub, Nat.reduceAdd, Nat.reduceLT, List.replicate_zero, List.reduceReplicate, List.replicate_succ, wpSs, wpS, wpE, wpEs, wpT, wpI, wpC, List.getElem?_cons_zero, List.getElem?_cons_succ, List.getElem?_nil, den, dens, back, true_and, and_true, nrmE, nrmT, frzSlots, cutV1, frzT, frzL, eq_ii, eq_bb, eq_ss, eq_nn, D.isNon, o_add, o_adds, o_addl, o_sub, o_addt, n_split, n_find, o_mul, o_rep, o_div, o_mod, o_pow, c_lt, c_le, c_gt, c_ge, c_lts, c_eq, c_ne, c_is, c_isnot, c_in, c_notin, t_bl, t_non, t_int, t_lst, t_tup, x_lst, x_tup, x_scr, x_str, u_lst, u_scr, u_str, b_lenl, b_lent, b_lenc, b_lens, b_abs, b_max2, b_min2, b_int, b_inb, b_tup, b_dm, b_srtk, i_lst, i_tup, i_scr, is_n, is_b, exists_eq_left', exists_eq_left, exists_eq_right, Option.some.injEq,  partD, setS, setAll, tgD, tgSlots, wipeE, List.set_cons_zero, List.set_cons_succ, List.set_nil, List.take_nil, List.take_zero, m_f, m_t, r_int, r_bl, r_str, r_non, r_tup, r_lstf, r_lstt, r_v, r_newf, r_newt, List.any_cons, List.any_nil, owned, Bool.or_false, Bool.false_or, fl_bl, fl_int, fl_str, fl_non, fl_rs, exists_eq', Ct.lst.injEq, Ct.ob.injEq, D.kst.injEq, List.take_succ_cons, dat_lst, dat_ob, dat_fz, Option.some.injEq, SV.d.injEq, D.int.injEq, forall_eq', reduceCtorEq, false_implies, forall_const, Bool.false_eq_true, List.set, true_or, if_true, if_false, Bool.not_true, Bool.not_false]
  simp only [b36_3, fnT, startE, List.length_cons, List.length_nil, List.map_cons, List.map_nil, List.cons_append, List.nil_append, Nat.sub_self, Nat.reduceSub, Nat.reduceAdd, Nat.reduceLT, List.replicate_zero, List.reduceReplicate, List.replicate_succ, wpSs, wpS, wpE, wpEs, wpT, wpI, wpC, List.getElem?_cons_zero, List.getElem?_cons_succ, List.getElem?_nil, den, dens, back, true_and, and_true, nrmE, nrmT, frzSlots, cutV1, frzT, frzL, eq_ii, eq_bb, eq_ss, eq_nn, D.isNon, o_add, o_adds, o_addl, o_sub, o_addt, n_split, n_find, o_mul, o_rep, o_div, o_mod, o_pow, c_lt, c_le, c_gt, c_ge, c_lts, c_eq, c_ne, c_is, c_isnot, c_in, c_notin, t_bl, t_non, t_int, t_lst, t_tup, x_lst, x_tup, x_scr, x_str, u_lst, u_scr, u_str, b_lenl, b_lent, b_lenc, b_lens, b_abs, b_max2, b_min2, b_int, b_inb, b_tup, b_dm, b_srtk, i_lst, i_tup, i_scr, is_n, is_b, exists_eq_left', exists_eq_left, exists_eq_right, Option.some.injEq,  partD, setS, setAll, tgD, tgSlots, wipeE, List.set_cons_zero, List.set_cons_succ, List.set_nil, List.take_nil, List.take_zero, m_f, m_t, r_int, r_bl, r_str, r_non, r_tup, r_lstf, r_lstt, r_v, r_newf, r_newt, List.any_cons, List.any_nil, owned, Bool.or_false, Bool.false_or, fl_bl, fl_int, fl_str, fl_non, fl_rs, exists_eq', Ct.lst.injEq, Ct.ob.injEq, D.kst.injEq, List.take_succ_cons, dat_lst, dat_ob, dat_fz, Option.some.injEq, SV.d.injEq, D.int.injEq, forall_eq', reduceCtorEq, false_implies, forall_const, Bool.false_eq_true, List.set, true_or, if_true, if_false, Bool.not_true, Bool.not_false]
  refine ⟨fun j acc => acc = rL (rows.take j), rfl, ?_, ?_⟩
  · rintro j x acc hx rfl
    rw [List.getElem?_map, Option.map_eq_some_iff] at hx
    obtain ⟨q, hq, rfl⟩ := hx
    obtain ⟨q1, q2⟩ := hR q (List.mem_of_getElem? hq)
    simp only [b36_0, fnT, startE, List.length_cons, List.length_nil, List.map_cons, List.map_nil, List.cons_append, List.nil_append, Nat.sub_self, Nat.reduceSub, Nat.reduceAdd, Nat.reduceLT, List.replicate_zero, List.reduceReplicate, List.replicate_succ, wpSs, wpS, wpE, wpEs, wpT, wpI, wpC, List.getElem?_cons_zero, List.getElem?_cons_succ, List.getElem?_nil, den, dens, back, true_and, and_true, nrmE, nrmT, frzSlots, cutV1, frzT, frzL, eq_ii, eq_bb, eq_ss, eq_nn, D.isNon, o_add, o_adds, o_addl, o_sub, o_addt, n_split, n_find, o_mul, o_rep, o_div, o_mod, o_pow, c_lt, c_le, c_gt, c_ge, c_lts, c_eq, c_ne, c_is, c_isnot, c_in, c_notin, t_bl, t_non, t_int, t_lst, t_tup, x_lst, x_tup, x_scr, x_str, u_lst, u_scr, u_str, b_lenl, b_lent, b_lenc, b_lens, b_abs, b_max2, b_min2, b_int, b_inb, b_tup, b_dm, b_srtk, i_lst, i_tup, i_scr, is_n, is_b, exists_eq_left', exists_eq_left, exists_eq_right, Option.some.injEq,  partD, setS, setAll, tgD, tgSlots, wipeE, List.set_cons_zero, List.set_cons_succ, List.set_nil, List.take_nil, List.take_zero, m_f, m_t, r_int, r_bl, r_str, r_non, r_tup, r_lstf, r_lstt, r_v, r_newf, r_newt, List.any_cons, List.any_nil, owned, Bool.or_false, Bool.false_or, fl_bl, fl_int, fl_str, fl_non, fl_rs, exists_eq', Ct.lst.injEq, Ct.ob.injEq, D.kst.injEq, List.take_succ_cons, dat_lst, dat_ob, dat_fz, Option.some.injEq, SV.d.injEq, D.int.injEq, forall_eq', reduceCtorEq, false_implies, forall_const, Bool.false_eq_true, List.set, true_or, if_true, if_false, Bool.not_true, Bool.not_false]
    rw [← q2]
    refine s_lplaces hn q1 (by omega) ?_
    simp only [fnT, startE, List.length_cons, List.length_nil, List.map_cons, List.map_nil, List.cons_append, List.nil_append, Nat.sub_self, Nat.reduceSub, Nat.reduceAdd, Nat.reduceLT, List.replicate_zero, List.reduceReplicate, List.replicate_succ, wpSs, wpS, wpE, wpEs, wpT, wpI, wpC, List.getElem?_cons_zero, List.getElem?_cons_succ, List.getElem?_nil, den, dens, back, true_and, and_true, nrmE, nrmT, frzSlots, cutV1, frzT, frzL, eq_ii, eq_bb, eq_ss, eq_nn, D.isNon, o_add, o_adds, o_addl, o_sub, o_addt, n_split, n_find, o_mul, o_rep, o_div, o_mod, o_pow, c_lt, c_le, c_gt, c_ge, c_lts, c_eq, c_ne, c_is, c_isnot, c_in, c_notin, t_bl, t_non, t_int, t_lst, t_tup, x_lst, x_tup, x_scr, x_str, u_lst, u_scr, u_str, b_lenl, b_lent, b_lenc, b_lens, b_abs, b_max2, b_min2, b_int, b_inb, b_tup, b_dm, b_srtk, i_lst, i_tup, i_scr, is_n, is_b, exists_eq_left', exists_eq_left, exists_eq_right, Option.some.injEq,  partD, setS, setAll, tgD, tgSlots, wipeE, List.set_cons_zero, List.set_cons_succ, List.set_nil, List.take_nil, List.take_zero, m_f, m_t, r_int, r_bl, r_str, r_non, r_tup, r_lstf, r_lstt, r_v, r_newf, r_newt, List.any_cons, List.any_nil, owned, Bool.or_false, Bool.false_or, fl_bl, fl_int, fl_str, fl_non, fl_rs, exists_eq', Ct.lst.injEq, Ct.ob.injEq, D.kst.injEq, List.take_succ_cons, dat_lst, dat_ob, dat_fz, Option.some.injEq, SV.d.injEq, D.int.injEq, forall_eq', reduceCtorEq, false_implies, forall_const, Bool.false_eq_true, List.set, true_or, if_true, if_false, Bool.not_true, Bool.not_false]
    refine ⟨sizeLine_lt (by rw [List.length_map, List.length_take]; omega), ?_⟩
    rw [List.take_add_one, hq]
    simp [rL]
  · rintro acc rfl
    rw [List.length_map, List.take_length]
    refine none_rows ?_
    simp only [b36_2, List.length_map, fnT, startE, List.length_cons, List.length_nil, List.map_cons, List.map_nil, List.cons_append, List.nil_append, Nat.sub_self, Nat.reduceSub, Nat.reduceAdd, Nat.reduceLT, List.replicate_zero, List.reduceReplicate, List.replicate_succ, wpSs, wpS, wpE, wpEs, wpT, wpI, wpC, List.getElem?_cons_zero, List.getElem?_cons_succ, List.getElem?_nil, den, dens, back, true_and, and_true, nrmE, nrmT, frzSlots, cutV1, frzT, frzL, eq_ii, eq_bb, eq_ss, eq_nn, D.isNon, o_add, o_adds, o_addl, o_sub, o_addt, n_split, n_find, o_mul, o_rep, o_div, o_mod, o_pow, c_lt, c_le, c_gt, c_ge, c_lts, c_eq, c_ne, c_is, c_isnot, c_in, c_notin, t_bl, t_non, t_int, t_lst, t_tup, x_lst, x_tup, x_scr, x_str, u_lst, u_scr, u_str, b_lenl, b_lent, b_lenc, b_lens, b_abs, b_max2, b_min2, b_int, b_inb, b_tup, b_dm, b_srtk, i_lst, i_tup, i_scr, is_n, is_b, exists_eq_left', exists_eq_left, exists_eq_right, Option.some.injEq,  partD, setS, setAll, tgD, tgSlots, wipeE, List.set_cons_zero, List.set_cons_succ, List.set_nil, List.take_nil, List.take_zero, m_f, m_t, r_int, r_bl, r_str, r_non, r_tup, r_lstf, r_lstt, r_v, r_newf, r_newt, List.any_cons, List.any_nil, owned, Bool.or_false, Bool.false_or, fl_bl, fl_int, fl_str, fl_non, fl_rs, exists_eq', Ct.lst.injEq, Ct.ob.injEq, D.kst.injEq, List.take_succ_cons, dat_lst, dat_ob, dat_fz, Option.some.injEq, SV.d.injEq, D.int.injEq, forall_eq', reduceCtorEq, false_implies, forall_const, Bool.false_eq_true, List.set, true_or, if_true, if_false, Bool.not_true, Bool.not_false]
    refine ⟨⟨by decide, by decide, by omega, by omega⟩, fun i e l => ∃ x4 : Option D, e = [some (.d (.str (sL cs))), some (.d (.int len)), some (.d (.lst (wL cs rows))), some (.c 0), x4.map SV.d, none] ∧ l = [.lst (rL rows)], ⟨none, rfl, rfl⟩, ?_, ?_⟩
    · rintro i x e l hx ⟨x4, rfl, rfl⟩
      obtain ⟨hi, rfl⟩ : i < ((rows.length : Int) - 1).toNat ∧ x = .int (1 + (i : Int)) := by
        rw [List.getElem?_map, Option.map_eq_some_iff] at hx
        obtain ⟨j, hj, rfl⟩ := hx
        have hl := (List.getElem?_eq_some_iff.mp hj).1
        rw [List.length_range] at hl
        rw [List.getElem?_range hl] at hj
        cases hj
        exact ⟨hl, rfl⟩
      have g1 : rows[i]? = some rows[i] := List.getElem?_eq_getElem (by omega)
      have g2 : rows[i + 1]? = some rows[i + 1] := List.getElem?_eq_getElem (by omega)
      have lt := List.pairwise_iff_getElem.mp up i (i + 1) (by omega) (by omega) (by omega)
      generalize rows[i]'(by omega) = a at *
      generalize rows[i + 1]'(by omega) = b at *
      have a1 : atI (rL rows) ((1 : Int) + i - 1) = some (rowD a) := by rw [show (1 : Int) + i - 1 = (i : Int) by omega]; exact getl (by rw [List.getElem?_map, g1]; rfl)
      have a2 : atI (rL rows) ((1 : Int) + i) = some (rowD b) := by rw [show (1 : Int) + i = ((i + 1 : Nat) : Int) by omega]; exact getl (by rw [List.getElem?_map, g2]; rfl)
      simp only [b36_1, a1, a2, fnT, startE, List.length_cons, List.length_nil, List.map_cons, List.map_nil, List.cons_append, List.nil_append, Nat.sub_self, Nat.reduceSub, Nat.reduceAdd, Nat.reduceLT, List.replicate_zero, List.reduceReplicate, List.replicate_succ, wpSs, wpS, wpE, wpEs, wpT, wpI, wpC, List.getElem?_cons_zero, List.getElem?_cons_succ, List.getElem?_nil, den, dens, back, true_and, and_true, nrmE, nrmT, frzSlots, cutV1, frzT, frzL, eq_ii, eq_bb, eq_ss, eq_nn, D.isNon, o_add, o_adds, o_addl, o_sub, o_addt, n_split, n_find, o_mul, o_rep, o_div, o_mod, o_pow, c_lt, c_le, c_gt, c_ge, c_lts, c_eq, c_ne, c_is, c_isnot, c_in, c_notin, t_bl, t_non, t_int, t_lst, t_tup, x_lst, x_tup, x_scr, x_str, u_lst, u_scr, u_str, b_lenl, b_lent, b_lenc, b_lens, b_abs, b_max2, b_min2, b_int, b_inb, b_tup, b_dm, b_srtk, i_lst, i_tup, i_scr, is_n, is_b, exists_eq_left', exists_eq_left, exists_eq_right, Option.some.injEq,  partD, setS, setAll, tgD, tgSlots, wipeE, List.set_cons_zero, List.set_cons_succ, List.set_nil, List.take_nil, List.take_zero, m_f, m_t, r_int, r_bl, r_str, r_non, r_tup, r_lstf, r_lstt, r_v, r_newf, r_newt, List.any_cons, List.any_nil, owned, Bool.or_false, Bool.false_or, fl_bl, fl_int, fl_str, fl_non, fl_rs, exists_eq', Ct.lst.injEq, Ct.ob.injEq, D.kst.injEq, List.take_succ_cons, dat_lst, dat_ob, dat_fz, Option.some.injEq, SV.d.injEq, D.int.injEq, forall_eq', reduceCtorEq, false_implies, forall_const, Bool.false_eq_true, List.set, true_or, if_true, if_false, Bool.not_true, Bool.not_false]
      refine ge_rows lt ?_
      exact ⟨fun z => by simp at z, fun _ => ⟨some _, rfl⟩⟩
    · rintro e l ⟨x4, rfl, rfl⟩
      exact h
end K09

namespace K09
open PySem L2 PD
/-! torn words -/
def fillQ (c : Nat) (ts : List Nat) : List Nat := ts.map fun x => if x = 63 then c else x
def gq (ts : List Nat) : Nat := (ts.filter fun x => decide (x = 63)).length
theorem q_str : (Str.ofString "?") = ch 63 := rfl
theorem repl_list {c : Nat} : ∀ ts : List Nat, StrLaws.replL [63] [c] ts = fillQ c ts
  | [] => StrLaws.replL_nil
  | x :: ts => by
    by_cases h : x = 63
    · subst h
      rw [StrLaws.replL_hit (by simp) (by simp)]
      show [c] ++ StrLaws.replL [63] [c] ts = _
      rw [repl_list ts]
      simp [fillQ]
    · rw [StrLaws.replL_miss (by simpa using h), repl_list ts]
      simp [fillQ, h]
theorem repl_sL {ts : List Nat} {c : Nat} : Txt.replace (sL ts) (ch 63) (ch c) = sL (fillQ c ts) := by
  have e := StrLaws.replace_list (x := sL ts) (y := ch 63) (z := ch c) (by decide)
  have e2 : (Txt.replace (sL ts) (ch 63) (ch c)).cps.toList = fillQ c ts := by
    rw [e]
    exact repl_list ts
  generalize Txt.replace (sL ts) (ch 63) (ch c) = s at e2
  obtain ⟨a⟩ := s
  have e2 : a.toList = fillQ c ts := e2
  show (⟨a⟩ : Str) = ⟨(fillQ c ts).toArray⟩
  rw [← e2]
theorem cnt_gq : ∀ ts : List Nat, PyProof.Rows.cnt 63 ts = (gq ts : Int)
  | [] => rfl
  | x :: ts => by
    rw [PyProof.Rows.cnt_cons, cnt_gq ts]
    unfold gq
    by_cases h : x = 63
    · subst h; simp; omega
    · simp [h]
theorem n_count {a b : Str} {k : D → Prop} : bmD .count a [.str b] k = k (.int (Txt.count a b)) := rfl
theorem count_sL {ts : List Nat} : Txt.count (sL ts) (ch 63) = (gq ts : Int) := by rw [PyProof.Rows.count_cnt]; exact cnt_gq ts
def tornB (cs : List Nat) (len : Nat) : D → Bool
  | .str s => decide (1 ≤ gq s.cps.toList) && decide (gq s.cps.toList ≤ 3) && wordD cs len (.str (sL (fillQ (cs.getD 0 0) s.cps.toList)))
  | _ => false
theorem fillQ_len {c : Nat} {ts : List Nat} : (fillQ c ts).length = ts.length := by simp [fillQ]
theorem getD0 {cs : List Nat} (h : 0 < cs.length) : cs[(0 : Nat)]? = some (cs.getD 0 0) := by
  rw [List.getD_eq_getElem?_getD, List.getElem?_eq_getElem h]; rfl
theorem s_is_torn {n : Nat} {cs : List Nat} {ws : List Int} {r : Int} {x : D} {k z} (o : OkC cs ws r) (hx : plainD x = true) (hs : shortD x = true) (h : k (.v (.bl (tornB cs ws.length x)))) : wpF fnT gcT (n+3) 3 [codeD cs ws r, x] k z := by
  have c3 := o.c3
  cases x
  case str s =>
    obtain ⟨ts, rfl⟩ : ∃ ts, s = sL ts := ⟨s.cps.toList, rfl⟩
    have hs := of_decide_eq_true hs
    rw [len_sL] at hs
    simp only [tornB, list_sL] at h
    have g0 := getD0 (cs := cs) (by omega)
    have hin : cs.getD 0 0 ∈ cs := List.mem_of_getElem? g0
    have n63 : cs.getD 0 0 ≠ 63 := by have := o.let_ _ hin; omega
    unfold wpF
    simp only [f3, b3, tyD, q_str, fnT, startE, List.length_cons, List.length_nil, List.map_cons, List.map_nil, List.cons_append, List.nil_append, Nat.sub_self, Nat.reduceSub, Nat.reduceAdd, Nat.reduceLT, List.replicate_zero, List.reduceReplicate, List.replicate_succ, wpSs, wpS, wpE, wpEs, wpT, wpI, wpC, List.getElem?_cons_zero, List.getElem?_cons_succ, List.getElem?_nil, den, dens, back, true_and, and_true, nrmE, nrmT, frzSlots, cutV1, frzT, frzL, eq_ii, eq_bb, eq_ss, eq_nn, D.isNon, o_add, o_adds, o_addl, o_sub, o_addt, n_split, n_find, o_mul, o_rep, o_div, o_mod, o_pow, c_lt, c_le, c_gt, c_ge, c_lts, c_eq, c_ne, c_is, c_isnot, c_in, c_notin, t_bl, t_non, t_int, t_lst, t_tup, x_lst, x_tup, x_scr, x_str, u_lst, u_scr, u_str, b_lenl, b_lent, b_lenc, b_lens, b_abs, b_max2, b_min2, b_int, b_inb, b_tup, b_dm, b_srtk, i_lst, i_tup, i_scr, is_n, is_b, exists_eq_left', exists_eq_left, exists_eq_right, Option.some.injEq,  partD, setS, setAll, tgD, tgSlots, wipeE, List.set_cons_zero, List.set_cons_succ, List.set_nil, List.take_nil, List.take_zero, m_f, m_t, r_int, r_bl, r_str, r_non, r_tup, r_lstf, r_lstt, r_v, r_newf, r_newt, List.any_cons, List.any_nil, owned, Bool.or_false, Bool.false_or, fl_bl, fl_int, fl_str, fl_non, fl_rs, exists_eq', Ct.lst.injEq, Ct.ob.injEq, D.kst.injEq, List.take_succ_cons, dat_lst, dat_ob, dat_fz, Option.some.injEq, SV.d.injEq, D.int.injEq, forall_eq', reduceCtorEq, false_implies, forall_const, Bool.false_eq_true, List.set, true_or, if_true, if_false, Bool.not_true, Bool.not_false]
    rw [n_count, count_sL]
    simp only [lkD, fnT, startE, List.length_cons, List.length_nil, List.map_cons, List.map_nil, List.cons_append, List.nil_append, Nat.sub_self, Nat.reduceSub, Nat.reduceAdd, Nat.reduceLT, List.replicate_zero, List.reduceReplicate, List.replicate_succ, wpSs, wpS, wpE, wpEs, wpT, wpI, wpC, List.getElem?_cons_zero, List.getElem?_cons_succ, List.getElem?_nil, den, dens, back, true_and, and_true, nrmE, nrmT, frzSlots, cutV1, frzT, frzL, eq_ii, eq_bb, eq_ss, eq_nn, D.isNon, o_add, o_adds, o_addl, o_sub, o_addt, n_split, n_find, o_mul, o_rep, o_div, o_mod, o_pow, c_lt, c_le, c_gt, c_ge, c_lts, c_eq, c_ne, c_is, c_isnot, c_in, c_notin, t_bl, t_non, t_int, t_lst, t_tup, x_lst, x_tup, x_scr, x_str, u_lst, u_scr, u_str, b_lenl, b_lent, b_lenc, b_lens, b_abs, b_max2, b_min2, b_int, b_inb, b_tup, b_dm, b_srtk, i_lst, i_tup, i_scr, is_n, is_b, exists_eq_left', exists_eq_left, exists_eq_right, Option.some.injEq,  partD, setS, setAll, tgD, tgSlots, wipeE, List.set_cons_zero, List.set_cons_succ, List.set_nil, List.take_nil, List.take_zero, m_f, m_t, r_int, r_bl, r_str, r_non, r_tup, r_lstf, r_lstt, r_v, r_newf, r_newt, List.any_cons, List.any_nil, owned, Bool.or_false, Bool.false_or, fl_bl, fl_int, fl_str, fl_non, fl_rs, exists_eq', Ct.lst.injEq, Ct.ob.injEq, D.kst.injEq, List.take_succ_cons, dat_lst, dat_ob, dat_fz, Option.some.injEq, SV.d.injEq, D.int.injEq, forall_eq', reduceCtorEq, false_implies, forall_const, Bool.false_eq_true, List.set, true_or, if_true, if_false, Bool.not_true, Bool.not_false]
    by_cases q1 : 1 ≤ gq ts
    · rw [decide_eq_true q1, Bool.true_and] at h
      rw [show decide ((1 : Int) ≤ (gq ts : Int)) = true from decide_eq_true (by omega)]
      simp only [lkD, fnT, startE, List.length_cons, List.length_nil, List.map_cons, List.map_nil, List.cons_append, List.nil_append, Nat.sub_self, Nat.reduceSub, Nat.reduceAdd, Nat.reduceLT, List.replicate_zero, List.reduceReplicate, List.replicate_succ, wpSs, wpS, wpE, wpEs, wpT, wpI, wpC, List.getElem?_cons_zero, List.getElem?_cons_succ, List.getElem?_nil, den, dens, back, true_and, and_true, nrmE, nrmT, frzSlots, cutV1, frzT, frzL, eq_ii, eq_bb, eq_ss, eq_nn, D.isNon, o_add, o_adds, o_addl, o_sub, o_addt, n_split, n_find, o_mul, o_rep, o_div, o_mod, o_pow, c_lt, c_le, c_gt, c_ge, c_lts, c_eq, c_ne, c_is, c_isnot, c_in, c_notin, t_bl, t_non, t_int, t_lst, t_tup, x_lst, x_tup, x_scr, x_str, u_lst, u_scr, u_str, b_lenl, b_lent, b_lenc, b_lens, b_abs, b_max2, b_min2, b_int, b_inb, b_tup, b_dm, b_srtk, i_lst, i_tup, i_scr, is_n, is_b, exists_eq_left', exists_eq_left, exists_eq_right, Option.some.injEq,  partD, setS, setAll, tgD, tgSlots, wipeE, List.set_cons_zero, List.set_cons_succ, List.set_nil, List.take_nil, List.take_zero, m_f, m_t, r_int, r_bl, r_str, r_non, r_tup, r_lstf, r_lstt, r_v, r_newf, r_newt, List.any_cons, List.any_nil, owned, Bool.or_false, Bool.false_or, fl_bl, fl_int, fl_str, fl_non, fl_rs, exists_eq', Ct.lst.injEq, Ct.ob.injEq, D.kst.injEq, List.take_succ_cons, dat_lst, dat_ob, dat_fz, Option.some.injEq, SV.d.injEq, D.int.injEq, forall_eq', reduceCtorEq, false_implies, forall_const, Bool.false_eq_true, List.set, true_or, if_true, if_false, Bool.not_true, Bool.not_false]
      refine ⟨fun q => ?_, fun q => ?_⟩
      · have q2 : ¬ gq ts ≤ 3 := by simp at q; omega
        rw [decide_eq_false q2, Bool.false_and] at h
        exact h
      · have q2 : gq ts ≤ 3 := by simp at q; omega
        rw [decide_eq_true q2, Bool.true_and] at h
        refine s_alph ?_
        simp only [lkD, list_sL, fnT, startE, List.length_cons, List.length_nil, List.map_cons, List.map_nil, List.cons_append, List.nil_append, Nat.sub_self, Nat.reduceSub, Nat.reduceAdd, Nat.reduceLT, List.replicate_zero, List.reduceReplicate, List.replicate_succ, wpSs, wpS, wpE, wpEs, wpT, wpI, wpC, List.getElem?_cons_zero, List.getElem?_cons_succ, List.getElem?_nil, den, dens, back, true_and, and_true, nrmE, nrmT, frzSlots, cutV1, frzT, frzL, eq_ii, eq_bb, eq_ss, eq_nn, D.isNon, o_add, o_adds, o_addl, o_sub, o_addt, n_split, n_find, o_mul, o_rep, o_div, o_mod, o_pow, c_lt, c_le, c_gt, c_ge, c_lts, c_eq, c_ne, c_is, c_isnot, c_in, c_notin, t_bl, t_non, t_int, t_lst, t_tup, x_lst, x_tup, x_scr, x_str, u_lst, u_scr, u_str, b_lenl, b_lent, b_lenc, b_lens, b_abs, b_max2, b_min2, b_int, b_inb, b_tup, b_dm, b_srtk, i_lst, i_tup, i_scr, is_n, is_b, exists_eq_left', exists_eq_left, exists_eq_right, Option.some.injEq,  partD, setS, setAll, tgD, tgSlots, wipeE, List.set_cons_zero, List.set_cons_succ, List.set_nil, List.take_nil, List.take_zero, m_f, m_t, r_int, r_bl, r_str, r_non, r_tup, r_lstf, r_lstt, r_v, r_newf, r_newt, List.any_cons, List.any_nil, owned, Bool.or_false, Bool.false_or, fl_bl, fl_int, fl_str, fl_non, fl_rs, exists_eq', Ct.lst.injEq, Ct.ob.injEq, D.kst.injEq, List.take_succ_cons, dat_lst, dat_ob, dat_fz, Option.some.injEq, SV.d.injEq, D.int.injEq, forall_eq', reduceCtorEq, false_implies, forall_const, Bool.false_eq_true, List.set, true_or, if_true, if_false, Bool.not_true, Bool.not_false]
        refine ⟨_, g0, beq_eq_false_iff_ne.mpr fun e => n63 ?_, by rw [len_sL]; omega, ?_⟩
        · have := congrArg (fun s : Str => s.cps.toList) e
          simpa using this.symm
        rw [repl_sL]
        refine s_is_word rfl (by show decide ((sL _).length ≤ 1000) = true; rw [len_sL, fillQ_len]; exact decide_eq_true hs) ?_
        simp only [fnT, startE, List.length_cons, List.length_nil, List.map_cons, List.map_nil, List.cons_append, List.nil_append, Nat.sub_self, Nat.reduceSub, Nat.reduceAdd, Nat.reduceLT, List.replicate_zero, List.reduceReplicate, List.replicate_succ, wpSs, wpS, wpE, wpEs, wpT, wpI, wpC, List.getElem?_cons_zero, List.getElem?_cons_succ, List.getElem?_nil, den, dens, back, true_and, and_true, nrmE, nrmT, frzSlots, cutV1, frzT, frzL, eq_ii, eq_bb, eq_ss, eq_nn, D.isNon, o_add, o_adds, o_addl, o_sub, o_addt, n_split, n_find, o_mul, o_rep, o_div, o_mod, o_pow, c_lt, c_le, c_gt, c_ge, c_lts, c_eq, c_ne, c_is, c_isnot, c_in, c_notin, t_bl, t_non, t_int, t_lst, t_tup, x_lst, x_tup, x_scr, x_str, u_lst, u_scr, u_str, b_lenl, b_lent, b_lenc, b_lens, b_abs, b_max2, b_min2, b_int, b_inb, b_tup, b_dm, b_srtk, i_lst, i_tup, i_scr, is_n, is_b, exists_eq_left', exists_eq_left, exists_eq_right, Option.some.injEq,  partD, setS, setAll, tgD, tgSlots, wipeE, List.set_cons_zero, List.set_cons_succ, List.set_nil, List.take_nil, List.take_zero, m_f, m_t, r_int, r_bl, r_str, r_non, r_tup, r_lstf, r_lstt, r_v, r_newf, r_newt, List.any_cons, List.any_nil, owned, Bool.or_false, Bool.false_or, fl_bl, fl_int, fl_str, fl_non, fl_rs, exists_eq', Ct.lst.injEq, Ct.ob.injEq, D.kst.injEq, List.take_succ_cons, dat_lst, dat_ob, dat_fz, Option.some.injEq, SV.d.injEq, D.int.injEq, forall_eq', reduceCtorEq, false_implies, forall_const, Bool.false_eq_true, List.set, true_or, if_true, if_false, Bool.not_true, Bool.not_false]
        exact h
    · rw [decide_eq_false q1, Bool.false_and, Bool.false_and] at h
      rw [show decide ((1 : Int) ≤ (gq ts : Int)) = false from decide_eq_false (by omega)]
      exact h
  all_goals
    first
      | exact Bool.noConfusion hx
      | (unfold wpF
         simp only [f3, b3, tyD, fnT, startE, List.length_cons, List.length_nil, List.map_cons, List.map_nil, List.cons_append, List.nil_append, Nat.sub_self, Nat.reduceSub, Nat.reduceAdd, Nat.reduceLT, List.replicate_zero, List.reduceReplicate, List.replicate_succ, wpSs, wpS, wpE, wpEs, wpT, wpI, wpC, List.getElem?_cons_zero, List.getElem?_cons_succ, List.getElem?_nil, den, dens, back, true_and, and_true, nrmE, nrmT, frzSlots, cutV1, frzT, frzL, eq_ii, eq_bb, eq_ss, eq_nn, D.isNon, o_add, o_adds, o_addl, o_sub, o_addt, n_split, n_find, o_mul, o_rep, o_div, o_mod, o_pow, c_lt, c_le, c_gt, c_ge, c_lts, c_eq, c_ne, c_is, c_isnot, c_in, c_notin, t_bl, t_non, t_int, t_lst, t_tup, x_lst, x_tup, x_scr, x_str, u_lst, u_scr, u_str, b_lenl, b_lent, b_lenc, b_lens, b_abs, b_max2, b_min2, b_int, b_inb, b_tup, b_dm, b_srtk, i_lst, i_tup, i_scr, is_n, is_b, exists_eq_left', exists_eq_left, exists_eq_right, Option.some.injEq,  partD, setS, setAll, tgD, tgSlots, wipeE, List.set_cons_zero, List.set_cons_succ, List.set_nil, List.take_nil, List.take_zero, m_f, m_t, r_int, r_bl, r_str, r_non, r_tup, r_lstf, r_lstt, r_v, r_newf, r_newt, List.any_cons, List.any_nil, owned, Bool.or_false, Bool.false_or, fl_bl, fl_int, fl_str, fl_non, fl_rs, exists_eq', Ct.lst.injEq, Ct.ob.injEq, D.kst.injEq, List.take_succ_cons, dat_lst, dat_ob, dat_fz, Option.some.injEq, SV.d.injEq, D.int.injEq, forall_eq', reduceCtorEq, false_implies, forall_const, Bool.false_eq_true, List.set, true_or, if_true, if_false, Bool.not_true, Bool.not_false]
         exact h)
/-! rows of places -/
def rowsOf (m : Nat) : Nat → List (List Int)
  | 0 => [[]]
  | L + 1 => (rowsOf m L).flatMap fun r => (List.range m).map fun (a : Nat) => r ++ [(a : Int)]
def ext1 (m : Nat) (r : List Int) : List (List Int) := (List.range m).map fun (a : Nat) => r ++ [(a : Int)]
theorem rowsOf_len {m : Nat} : ∀ L, (rowsOf m L).length = m ^ L
  | 0 => rfl
  | L + 1 => by
    unfold rowsOf
    rw [List.length_flatMap]
    simp only [List.length_map, List.length_range, List.map_const', List.sum_replicate_nat, rowsOf_len L]
    rw [Nat.pow_succ]
theorem rowsOf_row {m : Nat} : ∀ {L} {r : List Int}, r ∈ rowsOf m L → r.length = L ∧ Lt r m
  | 0, r, h => by
    cases List.mem_singleton.mp h
    exact ⟨rfl, Lt.nil⟩
  | L + 1, r, h => by
    unfold rowsOf at h
    obtain ⟨q, hq, hr⟩ := List.mem_flatMap.mp h
    obtain ⟨a, ha, rfl⟩ := List.mem_map.mp hr
    obtain ⟨h1, h2⟩ := rowsOf_row hq
    have := List.mem_range.mp ha
    exact ⟨by simp [h1], h2.snoc (by omega) (by omega)⟩
theorem s_rows {n : Nat} {m L : Nat} {k z} (hm : m ≤ 26) (hL : L ≤ 2) (h : k (.v (.lst (rL (rowsOf m L))))) : wpF fnT gcT (n+1) 4 [.int (m : Int), .int (L : Int)] k z := by
  have bd : ∀ i, i ≤ 2 → (rowsOf m i).length ≤ 676 := fun i hi => by
    rw [rowsOf_len]
    exact Nat.le_trans (Nat.pow_le_pow_left hm i) (by rcases (show i = 0 ∨ i = 1 ∨ i = 2 by omega) with e | e | e <;> subst e <;> decide)
  unfold wpF
  simp only [f4, b4, fnT, startE, List.length_cons, List.length_nil, List.map_cons, List.map_nil, List.cons_append, List.nil_append, Nat.sub_self, Nat.reduceSub, Nat.reduceAdd, Nat.reduceLT, List.replicate_zero, List.reduceReplicate, List.replicate_succ, wpSs, wpS, wpE, wpEs, wpT, wpI, wpC, List.getElem?_cons_zero, List.getElem?_cons_succ, List.getElem?_nil, den, dens, back, true_and, and_true, nrmE, nrmT, frzSlots, cutV1, frzT, frzL, eq_ii, eq_bb, eq_ss, eq_nn, D.isNon, o_add, o_adds, o_addl, o_sub, o_addt, n_split, n_find, o_mul, o_rep, o_div, o_mod, o_pow, c_lt, c_le, c_gt, c_ge, c_lts, c_eq, c_ne, c_is, c_isnot, c_in, c_notin, t_bl, t_non, t_int, t_lst, t_tup, x_lst, x_tup, x_scr, x_str, u_lst, u_scr, u_str, b_lenl, b_lent, b_lenc, b_lens, b_abs, b_max2, b_min2, b_int, b_inb, b_tup, b_dm, b_srtk, i_lst, i_tup, i_scr, is_n, is_b, exists_eq_left', exists_eq_left, exists_eq_right, Option.some.injEq,  partD, setS, setAll, tgD, tgSlots, wipeE, List.set_cons_zero, List.set_cons_succ, List.set_nil, List.take_nil, List.take_zero, m_f, m_t, r_int, r_bl, r_str, r_non, r_tup, r_lstf, r_lstt, r_v, r_newf, r_newt, List.any_cons, List.any_nil, owned, Bool.or_false, Bool.false_or, fl_bl, fl_int, fl_str, fl_non, fl_rs, exists_eq', Ct.lst.injEq, Ct.ob.injEq, D.kst.injEq, List.take_succ_cons, dat_lst, dat_ob, dat_fz, Option.some.injEq, SV.d.injEq, D.int.injEq, forall_eq', reduceCtorEq, false_implies, forall_const, Bool.false_eq_true, List.set, true_or, if_true, if_false, Bool.not_true, Bool.not_false]
  refine ⟨sizeLine_big (by decide), sizeLine_big (by decide), by omega, by omega, fun i e l => i ≤ L ∧ l = [] ∧ ∃ x3 x4 x5 x6 : Option D, e = [some (.d (.int (m : Int))), some (.d (.int (L : Int))), some (.d (.lst (rL (rowsOf m i)))), x3.map SV.d, x4.map SV.d, x5.map SV.d, x6.map SV.d], ⟨by omega, rfl, none, none, none, none, rfl⟩, ?_, ?_⟩
  · rintro i x e l hx ⟨hi, rfl, x3, x4, x5, x6, rfl⟩
    obtain ⟨hi2, rfl⟩ := rng_it hx
    rw [Int.toNat_natCast] at hi2
    have b1 := bd i (by omega)
    have b2 := bd (i + 1) (by omega)
    simp only [b4_2, cutM, fnT, startE, List.length_cons, List.length_nil, List.map_cons, List.map_nil, List.cons_append, List.nil_append, Nat.sub_self, Nat.reduceSub, Nat.reduceAdd, Nat.reduceLT, List.replicate_zero, List.reduceReplicate, List.replicate_succ, wpSs, wpS, wpE, wpEs, wpT, wpI, wpC, List.getElem?_cons_zero, List.getElem?_cons_succ, List.getElem?_nil, den, dens, back, true_and, and_true, nrmE, nrmT, frzSlots, cutV1, frzT, frzL, eq_ii, eq_bb, eq_ss, eq_nn, D.isNon, o_add, o_adds, o_addl, o_sub, o_addt, n_split, n_find, o_mul, o_rep, o_div, o_mod, o_pow, c_lt, c_le, c_gt, c_ge, c_lts, c_eq, c_ne, c_is, c_isnot, c_in, c_notin, t_bl, t_non, t_int, t_lst, t_tup, x_lst, x_tup, x_scr, x_str, u_lst, u_scr, u_str, b_lenl, b_lent, b_lenc, b_lens, b_abs, b_max2, b_min2, b_int, b_inb, b_tup, b_dm, b_srtk, i_lst, i_tup, i_scr, is_n, is_b, exists_eq_left', exists_eq_left, exists_eq_right, Option.some.injEq,  partD, setS, setAll, tgD, tgSlots, wipeE, List.set_cons_zero, List.set_cons_succ, List.set_nil, List.take_nil, List.take_zero, m_f, m_t, r_int, r_bl, r_str, r_non, r_tup, r_lstf, r_lstt, r_v, r_newf, r_newt, List.any_cons, List.any_nil, owned, Bool.or_false, Bool.false_or, fl_bl, fl_int, fl_str, fl_non, fl_rs, exists_eq', Ct.lst.injEq, Ct.ob.injEq, D.kst.injEq, List.take_succ_cons, dat_lst, dat_ob, dat_fz, Option.some.injEq, SV.d.injEq, D.int.injEq, forall_eq', reduceCtorEq, false_implies, forall_const, Bool.false_eq_true, List.set, true_or, if_true, if_false, Bool.not_true, Bool.not_false]
    refine ⟨Nat.zero_le _, fun j e l => j ≤ (rowsOf m i).length ∧ ∃ x5 x6 : Option D, e = [some (.d (.int (m : Int))), some (.d (.int (L : Int))), some (.d (.lst (rL (rowsOf m i)))), some (.d (.int (i : Int))), some (.c 0), x5.map SV.d, x6.map SV.d] ∧ l = [.lst (rL (((rowsOf m i).take j).flatMap (ext1 m)))], ⟨Nat.zero_le _, x5, x6, by cases x5 <;> cases x6 <;> rfl, rfl⟩, ?_, ?_⟩
    · rintro j x e l hx ⟨hj, x5, x6, rfl, rfl⟩
      rw [List.getElem?_map, Option.map_eq_some_iff] at hx
      obtain ⟨q, hq, rfl⟩ := hx
      have hj2 := (List.getElem?_eq_some_iff.mp hq).1
      obtain ⟨ql, qP⟩ := rowsOf_row (List.mem_of_getElem? hq)
      have st : ((rowsOf m i).take (j + 1)).flatMap (ext1 m) = ((rowsOf m i).take j).flatMap (ext1 m) ++ ext1 m q := by
        rw [List.take_add_one, hq, List.flatMap_append]
        simp
      have sz : (((rowsOf m i).take (j + 1)).flatMap (ext1 m)).length ≤ 676 := by
        refine Nat.le_trans ?_ b2
        have e1 : rowsOf m (i + 1) = ((rowsOf m i).take (j + 1)).flatMap (ext1 m) ++ ((rowsOf m i).drop (j + 1)).flatMap (ext1 m) := by
          rw [← List.flatMap_append, List.take_append_drop]; rfl
        rw [e1, List.length_append]; omega
      rw [st, List.length_append] at sz
      simp only [b4_1, cutM, fnT, startE, List.length_cons, List.length_nil, List.map_cons, List.map_nil, List.cons_append, List.nil_append, Nat.sub_self, Nat.reduceSub, Nat.reduceAdd, Nat.reduceLT, List.replicate_zero, List.reduceReplicate, List.replicate_succ, wpSs, wpS, wpE, wpEs, wpT, wpI, wpC, List.getElem?_cons_zero, List.getElem?_cons_succ, List.getElem?_nil, den, dens, back, true_and, and_true, nrmE, nrmT, frzSlots, cutV1, frzT, frzL, eq_ii, eq_bb, eq_ss, eq_nn, D.isNon, o_add, o_adds, o_addl, o_sub, o_addt, n_split, n_find, o_mul, o_rep, o_div, o_mod, o_pow, c_lt, c_le, c_gt, c_ge, c_lts, c_eq, c_ne, c_is, c_isnot, c_in, c_notin, t_bl, t_non, t_int, t_lst, t_tup, x_lst, x_tup, x_scr, x_str, u_lst, u_scr, u_str, b_lenl, b_lent, b_lenc, b_lens, b_abs, b_max2, b_min2, b_int, b_inb, b_tup, b_dm, b_srtk, i_lst, i_tup, i_scr, is_n, is_b, exists_eq_left', exists_eq_left, exists_eq_right, Option.some.injEq,  partD, setS, setAll, tgD, tgSlots, wipeE, List.set_cons_zero, List.set_cons_succ, List.set_nil, List.take_nil, List.take_zero, m_f, m_t, r_int, r_bl, r_str, r_non, r_tup, r_lstf, r_lstt, r_v, r_newf, r_newt, List.any_cons, List.any_nil, owned, Bool.or_false, Bool.false_or, fl_bl, fl_int, fl_str, fl_non, fl_rs, exists_eq', Ct.lst.injEq, Ct.ob.injEq, D.kst.injEq, List.take_succ_cons, dat_lst, dat_ob, dat_fz, Option.some.injEq, SV.d.injEq, D.int.injEq, forall_eq', reduceCtorEq, false_implies, forall_const, Bool.false_eq_true, List.set, true_or, if_true, if_false, Bool.not_true, Bool.not_false]
      refine ⟨by omega, by omega, fun t acc => acc = rL ((List.range t).map fun (a : Nat) => q ++ [(a : Int)]), rfl, ?_, ?_⟩
      · rintro t x acc hx rfl
        obtain ⟨ht, rfl⟩ := rng_it hx
        rw [Int.toNat_natCast] at ht
        simp only [b4_0, app_ints, fnT, startE, List.length_cons, List.length_nil, List.map_cons, List.map_nil, List.cons_append, List.nil_append, Nat.sub_self, Nat.reduceSub, Nat.reduceAdd, Nat.reduceLT, List.replicate_zero, List.reduceReplicate, List.replicate_succ, wpSs, wpS, wpE, wpEs, wpT, wpI, wpC, List.getElem?_cons_zero, List.getElem?_cons_succ, List.getElem?_nil, den, dens, back, true_and, and_true, nrmE, nrmT, frzSlots, cutV1, frzT, frzL, eq_ii, eq_bb, eq_ss, eq_nn, D.isNon, o_add, o_adds, o_addl, o_sub, o_addt, n_split, n_find, o_mul, o_rep, o_div, o_mod, o_pow, c_lt, c_le, c_gt, c_ge, c_lts, c_eq, c_ne, c_is, c_isnot, c_in, c_notin, t_bl, t_non, t_int, t_lst, t_tup, x_lst, x_tup, x_scr, x_str, u_lst, u_scr, u_str, b_lenl, b_lent, b_lenc, b_lens, b_abs, b_max2, b_min2, b_int, b_inb, b_tup, b_dm, b_srtk, i_lst, i_tup, i_scr, is_n, is_b, exists_eq_left', exists_eq_left, exists_eq_right, Option.some.injEq,  partD, setS, setAll, tgD, tgSlots, wipeE, List.set_cons_zero, List.set_cons_succ, List.set_nil, List.take_nil, List.take_zero, m_f, m_t, r_int, r_bl, r_str, r_non, r_tup, r_lstf, r_lstt, r_v, r_newf, r_newt, List.any_cons, List.any_nil, owned, Bool.or_false, Bool.false_or, fl_bl, fl_int, fl_str, fl_non, fl_rs, exists_eq', Ct.lst.injEq, Ct.ob.injEq, D.kst.injEq, List.take_succ_cons, dat_lst, dat_ob, dat_fz, Option.some.injEq, SV.d.injEq, D.int.injEq, forall_eq', reduceCtorEq, false_implies, forall_const, Bool.false_eq_true, List.set, true_or, if_true, if_false, Bool.not_true, Bool.not_false]
        refine ⟨sizeLine_big (by decide), sizeLine_big (by rw [len_ints]; simp; omega), _, [], rfl, rfl, sizeLine_lt (by simp; omega), ?_⟩
        rw [List.range_succ]
        simp [rL]
      · rintro acc rfl
        rw [rng_len, Int.toNat_natCast]
        have el : (ext1 m q).length = m := by simp [ext1]
        rw [el] at sz
        refine ⟨sizeLine_big (by rw [List.length_map, List.length_map, List.length_map, List.length_range]; omega), by omega, some _, x6, by cases x6 <;> rfl, ?_⟩
        rw [rL_app, st]
        rfl
    · rintro e l ⟨hj, x5, x6, rfl, rfl⟩
      rw [List.length_map, List.take_length]
      simp only [cutM, fnT, startE, List.length_cons, List.length_nil, List.map_cons, List.map_nil, List.cons_append, List.nil_append, Nat.sub_self, Nat.reduceSub, Nat.reduceAdd, Nat.reduceLT, List.replicate_zero, List.reduceReplicate, List.replicate_succ, wpSs, wpS, wpE, wpEs, wpT, wpI, wpC, List.getElem?_cons_zero, List.getElem?_cons_succ, List.getElem?_nil, den, dens, back, true_and, and_true, nrmE, nrmT, frzSlots, cutV1, frzT, frzL, eq_ii, eq_bb, eq_ss, eq_nn, D.isNon, o_add, o_adds, o_addl, o_sub, o_addt, n_split, n_find, o_mul, o_rep, o_div, o_mod, o_pow, c_lt, c_le, c_gt, c_ge, c_lts, c_eq, c_ne, c_is, c_isnot, c_in, c_notin, t_bl, t_non, t_int, t_lst, t_tup, x_lst, x_tup, x_scr, x_str, u_lst, u_scr, u_str, b_lenl, b_lent, b_lenc, b_lens, b_abs, b_max2, b_min2, b_int, b_inb, b_tup, b_dm, b_srtk, i_lst, i_tup, i_scr, is_n, is_b, exists_eq_left', exists_eq_left, exists_eq_right, Option.some.injEq,  partD, setS, setAll, tgD, tgSlots, wipeE, List.set_cons_zero, List.set_cons_succ, List.set_nil, List.take_nil, List.take_zero, m_f, m_t, r_int, r_bl, r_str, r_non, r_tup, r_lstf, r_lstt, r_v, r_newf, r_newt, List.any_cons, List.any_nil, owned, Bool.or_false, Bool.false_or, fl_bl, fl_int, fl_str, fl_non, fl_rs, exists_eq', Ct.lst.injEq, Ct.ob.injEq, D.kst.injEq, List.take_succ_cons, dat_lst, dat_ob, dat_fz, Option.some.injEq, SV.d.injEq, D.int.injEq, forall_eq', reduceCtorEq, false_implies, forall_const, Bool.false_eq_true, List.set, true_or, if_true, if_false, Bool.not_true, Bool.not_false]
      exact ⟨by omega, some _, some _, x5, x6, by cases x5 <;> cases x6 <;> rfl⟩
  · rintro e l ⟨hi, rfl, x3, x4, x5, x6, rfl⟩
    rw [rng_len, Int.toNat_natCast]
    simp only [fnT, startE, List.length_cons, List.length_nil, List.map_cons, List.map_nil, List.cons_append, List.nil_append, Nat.sub_self, Nat.reduceSub, Nat.reduceAdd, Nat.reduceLT, List.replicate_zero, List.reduceReplicate, List.replicate_succ, wpSs, wpS, wpE, wpEs, wpT, wpI, wpC, List.getElem?_cons_zero, List.getElem?_cons_succ, List.getElem?_nil, den, dens, back, true_and, and_true, nrmE, nrmT, frzSlots, cutV1, frzT, frzL, eq_ii, eq_bb, eq_ss, eq_nn, D.isNon, o_add, o_adds, o_addl, o_sub, o_addt, n_split, n_find, o_mul, o_rep, o_div, o_mod, o_pow, c_lt, c_le, c_gt, c_ge, c_lts, c_eq, c_ne, c_is, c_isnot, c_in, c_notin, t_bl, t_non, t_int, t_lst, t_tup, x_lst, x_tup, x_scr, x_str, u_lst, u_scr, u_str, b_lenl, b_lent, b_lenc, b_lens, b_abs, b_max2, b_min2, b_int, b_inb, b_tup, b_dm, b_srtk, i_lst, i_tup, i_scr, is_n, is_b, exists_eq_left', exists_eq_left, exists_eq_right, Option.some.injEq,  partD, setS, setAll, tgD, tgSlots, wipeE, List.set_cons_zero, List.set_cons_succ, List.set_nil, List.take_nil, List.take_zero, m_f, m_t, r_int, r_bl, r_str, r_non, r_tup, r_lstf, r_lstt, r_v, r_newf, r_newt, List.any_cons, List.any_nil, owned, Bool.or_false, Bool.false_or, fl_bl, fl_int, fl_str, fl_non, fl_rs, exists_eq', Ct.lst.injEq, Ct.ob.injEq, D.kst.injEq, List.take_succ_cons, dat_lst, dat_ob, dat_fz, Option.some.injEq, SV.d.injEq, D.int.injEq, forall_eq', reduceCtorEq, false_implies, forall_const, Bool.false_eq_true, List.set, true_or, if_true, if_false, Bool.not_true, Bool.not_false]
    exact h
end K09

namespace K09
open PySem L2 PD
/-! places put into gaps -/
def setZ (ps : List Int) (z : List (Nat × Int)) : List Int := z.foldl (fun s p => s.set p.1 p.2) ps
theorem setZ_cons {ps : List Int} {a : Nat} {v : Int} {z : List (Nat × Int)} : setZ ps ((a, v) :: z) = setZ (ps.set a v) z := rfl
theorem setZ_snoc {ps : List Int} {z : List (Nat × Int)} {a : Nat} {v : Int} : setZ ps (z ++ [(a, v)]) = (setZ ps z).set a v := by unfold setZ; rw [List.foldl_append]; rfl
theorem setZ_len : ∀ {z : List (Nat × Int)} {ps : List Int}, (setZ ps z).length = ps.length
  | [], _ => rfl
  | (a, v) :: z, ps => by rw [setZ_cons, setZ_len, List.length_set]
theorem Lt.set {ps : List Int} {m v : Int} {a : Nat} (h : Lt ps m) (h0 : 0 ≤ v) (h1 : v < m) : Lt (ps.set a v) m := fun w hw => by
  rcases List.mem_or_eq_of_mem_set hw with q | q
  · exact h w q
  · rw [q]; exact ⟨h0, h1⟩
theorem setZ_lt {m : Int} : ∀ {z : List (Nat × Int)} {ps : List Int}, Lt ps m → (∀ p ∈ z, 0 ≤ p.2 ∧ p.2 < m) → Lt (setZ ps z) m
  | [], _, h, _ => h
  | (a, v) :: z, ps, h, hz => by
    rw [setZ_cons]
    have := hz (a, v) List.mem_cons_self
    exact setZ_lt (h.set this.1 this.2) fun p hp => hz p (List.mem_cons_of_mem _ hp)
theorem setZ_at {i : Nat} : ∀ {z : List (Nat × Int)} {ps : List Int}, (∀ p ∈ z, p.1 ≠ i) → (setZ ps z)[i]? = ps[i]?
  | [], _, _ => rfl
  | (a, v) :: z, ps, h => by
    rw [setZ_cons, setZ_at fun p hp => h p (List.mem_cons_of_mem _ hp), List.getElem?_set_ne (h (a, v) List.mem_cons_self)]
theorem setZ_take {a : Nat} : ∀ {z : List (Nat × Int)} {ps : List Int}, (∀ p ∈ z, a ≤ p.1) → (setZ ps z).take a = ps.take a
  | [], _, _ => rfl
  | (b, v) :: z, ps, h => by
    rw [setZ_cons, setZ_take fun p hp => h p (List.mem_cons_of_mem _ hp), List.take_set_of_le (h (b, v) List.mem_cons_self)]
/-- two rows that part at a -/
theorem lex_at : ∀ {a : Nat} {x y : List Int} {u v : Int}, x.take a = y.take a → x[a]? = some u → y[a]? = some v → u < v → x < y
  | 0, x, y, u, v, _, hx, hy, huv => by
    cases x with
    | nil => simp at hx
    | cons c x =>
      cases y with
      | nil => simp at hy
      | cons d y =>
        simp at hx hy
        subst hx hy
        exact List.Lex.rel huv
  | a + 1, x, y, u, v, ht, hx, hy, huv => by
    cases x with
    | nil => simp at hx
    | cons c x =>
      cases y with
      | nil => simp at hy
      | cons d y =>
        simp at hx hy ht
        obtain ⟨rfl, ht⟩ := ht
        exact List.Lex.cons (lex_at ht hx hy huv)
theorem cons_lt {a b : Int} {x y : List Int} (h : a :: x < b :: y) : a < b ∨ a = b ∧ x < y := by
  cases h with
  | rel h => exact .inl h
  | cons h => exact .inr ⟨rfl, h⟩
/-- rising rows put into rising gaps give rising words -/
theorem setZ_up {e : Nat} {p p' : Int} : ∀ {G : List Nat} {ps row row' : List Int}, (G ++ [e]).Pairwise (· < ·) → (∀ a ∈ G, a < ps.length) → row.length = G.length → row'.length = G.length → row < row' →
    (setZ ps (G.zip row)).set e p < (setZ ps (G.zip row')).set e p'
  | [], ps, row, row', _, _, h1, h2, h => by
    rw [List.length_eq_zero_iff.mp h1, List.length_eq_zero_iff.mp h2] at h
    exact absurd h (List.lt_irrefl _)
  | a :: G, ps, row, row', hG, hl, h1, h2, h => by
    cases row with
    | nil => simp at h1
    | cons u row =>
      cases row' with
      | nil => simp at h2
      | cons v row' =>
        have hG2 : (a :: (G ++ [e])).Pairwise (· < ·) := hG
        obtain ⟨g1, g2⟩ := List.pairwise_cons.mp hG2
        have ae : a < e := g1 e (by simp)
        have ha := hl a List.mem_cons_self
        have gz : ∀ (r : List Int), ∀ q ∈ G.zip r, a < q.1 := fun r q hq => g1 q.1 (by
          have := List.of_mem_zip (a := q.1) (b := q.2) hq
          simp [this.1])
        rw [List.zip_cons_cons, List.zip_cons_cons, setZ_cons, setZ_cons]
        rcases cons_lt h with h3 | ⟨h4, h3⟩
        · refine lex_at (a := a) (u := u) (v := v) ?_ ?_ ?_ h3
          · rw [List.take_set_of_le (by omega), List.take_set_of_le (by omega), setZ_take fun q hq => Nat.le_of_lt (gz _ q hq), setZ_take fun q hq => Nat.le_of_lt (gz _ q hq), List.take_set_of_le (Nat.le_refl _), List.take_set_of_le (Nat.le_refl _)]
          · rw [List.getElem?_set_ne (by omega), setZ_at fun q hq => by have := gz _ q hq; omega, List.getElem?_set_self ha]
          · rw [List.getElem?_set_ne (by omega), setZ_at fun q hq => by have := gz _ q hq; omega, List.getElem?_set_self ha]
        · subst h4
          exact setZ_up g2 (fun b hb => by rw [List.length_set]; exact hl b (List.mem_cons_of_mem _ hb)) (by simpa using h1) (by simpa using h2) h3
theorem app_lt {x y : List Int} {a b : Int} (hl : x.length = y.length) (h : x < y) : x ++ [a] < y ++ [b] := by
  induction x generalizing y with
  | nil =>
    cases y with
    | nil => exact absurd h (List.lt_irrefl _)
    | cons _ _ => simp at hl
  | cons c x ih =>
    cases y with
    | nil => simp at hl
    | cons d y =>
      rcases cons_lt h with h3 | ⟨h4, h3⟩
      · exact List.Lex.rel h3
      · subst h4; exact List.Lex.cons (ih (by simpa using hl) h3)
theorem app_lt2 {x : List Int} {a b : Int} (h : a < b) : x ++ [a] < x ++ [b] := by
  induction x with
  | nil => exact List.Lex.rel h
  | cons c x ih => exact List.Lex.cons ih
theorem rowsOf_up {m : Nat} : ∀ L, (rowsOf m L).Pairwise (· < ·)
  | 0 => by simp [rowsOf]
  | L + 1 => by
    unfold rowsOf
    rw [List.pairwise_flatMap]
    refine ⟨fun r _ => ?_, ?_⟩
    · rw [List.pairwise_map]
      exact List.pairwise_lt_range.imp fun h => app_lt2 (by omega)
    · refine List.Pairwise.imp_of_mem ?_ (rowsOf_up L)
      intro r r' hr hr' h x hx y hy
      obtain ⟨a, _, rfl⟩ := List.mem_map.mp hx
      obtain ⟨b, _, rfl⟩ := List.mem_map.mp hy
      exact app_lt ((rowsOf_row hr).1.trans (rowsOf_row hr').1.symm) h
/-! the last gap's place -/
theorem filter_uniq {m i : Nat} {f : Nat → Bool} (hi : i < m) (hf : f i = true) (hu : ∀ j, j < m → f j = true → j = i) : (List.range m).filter f = [i] := by
  have e : (List.range m).filter f = (List.range m).filter (fun k => decide (k = i)) := by
    refine List.filter_congr fun k hk => ?_
    have hk := List.mem_range.mp hk
    by_cases q : k = i
    · subst q; rw [hf]; simp
    · cases h : f k with
      | true => exact absurd (hu k hk h) q
      | false => simp [q]
  rw [e]
  clear e hu hf
  induction m with
  | zero => omega
  | succ m ih =>
    rw [List.range_succ, List.filter_append]
    by_cases q : i = m
    · subst q
      have : (List.range i).filter (fun k => decide (k = i)) = [] := by
        rw [List.filter_eq_nil_iff]
        intro k hk
        have := List.mem_range.mp hk
        simp; omega
      rw [this]; simp
    · rw [ih (by omega)]
      have : ¬ m = i := fun h => q h.symm
      simp [this]
theorem pick_one {m : Nat} {w c : Int} (hm : 0 < m) (hw : Int.gcd w m = 1) : ∃ i : Nat, i < m ∧ (List.range m).filter (fun (p : Nat) => decide ((c - w * (p : Int)) % (m : Int) = 0)) = [i] := by
  obtain ⟨u, v, huv⟩ := bez w m
  rw [hw] at huv
  have m0 : (0 : Int) < m := by omega
  have p0 := Int.emod_nonneg (c * u) (show (m : Int) ≠ 0 by omega)
  have p1 := Int.emod_lt_of_pos (c * u) m0
  have h1 : (m : Int) ∣ c - w * ((c * u) % m) := by
    have h1 : (m : Int) ∣ c - w * (c * u) := ⟨c * v, by
      have : c * (w * u + m * v) = c := by rw [huv]; simp
      rw [Int.mul_add, Int.mul_left_comm c w u, Int.mul_left_comm c (m : Int) v] at this
      omega⟩
    have h3 : (m : Int) ∣ w * (c * u) - w * ((c * u) % m) := by
      rw [← Int.mul_sub]
      exact Int.dvd_trans Int.dvd_self_sub_emod (Int.dvd_mul_left w _)
    have := Int.dvd_add h1 h3
    rwa [show c - w * (c * u) + (w * (c * u) - w * (c * u % m)) = c - w * (c * u % m) by omega] at this
  refine ⟨((c * u) % m).toNat, by omega, filter_uniq (by omega) ?_ ?_⟩
  · have e : (((c * u) % (m : Int)).toNat : Int) = (c * u) % m := Int.toNat_of_nonneg p0
    rw [e]
    exact decide_eq_true (Int.emod_eq_zero_of_dvd h1)
  · intro j hj hf
    have hf := of_decide_eq_true hf
    have h2 : (m : Int) ∣ c - w * (j : Int) := Int.dvd_of_emod_eq_zero hf
    have h3 := Int.dvd_sub h1 h2
    rw [show c - w * (c * u % m) - (c - w * (j : Int)) = w * ((j : Int) - c * u % m) by rw [Int.mul_sub]; omega] at h3
    have := dvd_small (unit_dvd hw h3) (by omega) (by omega)
    omega
end K09

namespace K09
open PySem L2 PD
def gapsTo (ts : List Nat) (i : Nat) : List Nat := (List.range i).filter fun k => decide (ts.getD k 0 = 63)
abbrev gaps (ts : List Nat) : List Nat := gapsTo ts ts.length
abbrev nL (ks : List Nat) : List D := ks.map fun (k : Nat) => D.int (k : Int)
theorem gaps_snoc {ts : List Nat} {i : Nat} : gapsTo ts (i + 1) = gapsTo ts i ++ (if ts.getD i 0 = 63 then [i] else []) := by
  unfold gapsTo
  rw [List.range_succ, List.filter_append]
  congr 1
  by_cases h : ts.getD i 0 = 63
  · rw [if_pos h, List.filter_cons_of_pos (by simpa using h)]; rfl
  · rw [if_neg h, List.filter_cons_of_neg (by simpa using h)]; rfl
theorem gaps_le {ts : List Nat} {i : Nat} : (gapsTo ts i).length ≤ i := Nat.le_trans (List.length_filter_le _ _) (by simp)
theorem gaps_len {ts : List Nat} : (gaps ts).length = gq ts := by
  have e : ts = (List.range ts.length).map fun k => ts.getD k 0 := by
    apply List.ext_getElem?
    intro k
    rw [List.getElem?_map]
    by_cases h : k < ts.length
    · rw [List.getElem?_range h, List.getElem?_eq_getElem h, Option.map_some, List.getD_eq_getElem?_getD, List.getElem?_eq_getElem h]; rfl
    · rw [List.getElem?_eq_none (by omega), List.getElem?_eq_none (by simp; omega)]; rfl
  unfold gq
  conv => rhs; rw [e]
  rw [List.filter_map, List.length_map]
  rfl
theorem gaps_up {ts : List Nat} : (gaps ts).Pairwise (· < ·) := List.pairwise_lt_range.sublist List.filter_sublist
theorem gaps_in {ts : List Nat} {k : Nat} : k ∈ gaps ts ↔ k < ts.length ∧ ts.getD k 0 = 63 := by
  unfold gaps gapsTo
  rw [List.mem_filter, List.mem_range, decide_eq_true_eq]
structure TOk (cs : List Nat) (len : Nat) (ts : List Nat) : Prop where
  len : ts.length = len
  mem : ∀ c ∈ ts, c = 63 ∨ c ∈ cs
  g1 : 1 ≤ gq ts
  g3 : gq ts ≤ 3
abbrev base (cs ts : List Nat) : List Int := plc cs (fillQ (cs.getD 0 0) ts)
theorem fillQ_in {cs ts : List Nat} (h0 : 0 < cs.length) (h : ∀ c ∈ ts, c = 63 ∨ c ∈ cs) : ∀ c ∈ fillQ (cs.getD 0 0) ts, c ∈ cs := fun c hc => by
  unfold fillQ at hc
  obtain ⟨x, hx, rfl⟩ := List.mem_map.mp hc
  split
  · exact List.mem_of_getElem? (getD0 h0)
  · rename_i n
    exact (h x hx).resolve_left n
theorem tornB_of {cs ts : List Nat} {len : Nat} (h0 : 0 < cs.length) (t : TOk cs len ts) : tornB cs len (.str (sL ts)) = true := by
  simp only [tornB, list_sL, wordD, len_sL, fillQ_len, t.len, decide_eq_true t.g1, decide_eq_true t.g3, beq_self_eq_true, Bool.true_and]
  exact List.all_eq_true.mpr fun c hc => decide_eq_true (fillQ_in h0 t.mem c hc)
def fitsTo (ws : List Int) (m : Nat) (r : Int) (mid : List Int) (e j : Nat) : List (List Int) := ((List.range j).filter fun (p : Nat) => decide ((r - dot ws mid - ws.getD e 0 * (p : Int)) % (m : Int) = 0)).map fun (p : Nat) => mid.set e (p : Int)
abbrev fits (ws : List Int) (m : Nat) (r : Int) (mid : List Int) (e : Nat) : List (List Int) := fitsTo ws m r mid e m
theorem fitsTo_succ {ws : List Int} {m : Nat} {r : Int} {mid : List Int} {e j : Nat} : fitsTo ws m r mid e (j + 1) = fitsTo ws m r mid e j ++ (if (r - dot ws mid - ws.getD e 0 * (j : Int)) % (m : Int) = 0 then [mid.set e (j : Int)] else []) := by
  unfold fitsTo
  rw [List.range_succ, List.filter_append, List.map_append]
  congr 1
  by_cases h : (r - dot ws mid - ws.getD e 0 * (j : Int)) % (m : Int) = 0
  · rw [if_pos h, List.filter_cons_of_pos (by simpa using h)]; rfl
  · rw [if_neg h, List.filter_cons_of_neg (by simpa using h)]; rfl
theorem fitsTo_le {ws : List Int} {m : Nat} {r : Int} {mid : List Int} {e j : Nat} : (fitsTo ws m r mid e j).length ≤ j := by
  unfold fitsTo
  rw [List.length_map]
  exact Nat.le_trans (List.length_filter_le _ _) (by simp)
abbrev midOf (cs ts : List Nat) (row : List Int) : List Int := setZ (base cs ts) ((gaps ts).zip row)
def allT (cs ts : List Nat) (ws : List Int) (r : Int) (e : Nat) : List (List Int) := (rowsOf cs.length (gq ts - 1)).flatMap fun row => fits ws cs.length r (midOf cs ts row) e
theorem base_lt {cs ts : List Nat} {len : Nat} (h0 : 0 < cs.length) (t : TOk cs len ts) : Lt (base cs ts) cs.length := plc_lt (fillQ_in h0 t.mem)
theorem base_len {cs ts : List Nat} : (base cs ts).length = ts.length := by rw [plc_len, fillQ_len]
theorem mid_lt {cs ts : List Nat} {len : Nat} {row : List Int} (h0 : 0 < cs.length) (t : TOk cs len ts) (hr : Lt row cs.length) : Lt (midOf cs ts row) cs.length :=
  setZ_lt (base_lt h0 t) fun p hp => hr p.2 (List.of_mem_zip (a := p.1) (b := p.2) hp).2
theorem enuS_it {us : List Nat} {i : Nat} {x : D} (h : (((sL us).cps.toList.map fun c => D.str ⟨#[c]⟩).zipIdx.map fun p => D.tup [.int ((p.2 : Nat) : Int), p.1])[i]? = some x) : ∃ c, us[i]? = some c ∧ x = .tup [.int (i : Int), .str (ch c)] := by
  have h : ((us.map fun c => D.str ⟨#[c]⟩).zipIdx.map fun p => D.tup [.int ((p.2 : Nat) : Int), p.1])[i]? = some x := h
  rw [List.getElem?_map, List.getElem?_zipIdx, List.getElem?_map] at h
  cases e : us[i]? with
  | none => rw [e] at h; simp at h
  | some c =>
    rw [e] at h
    simp at h
    exact ⟨c, rfl, h.symm⟩
theorem zipN_it {G : List Nat} {row : List Int} {i : Nat} {x : D} (h : (((nL G).zip (iL row)).map fun p => D.tup [p.1, p.2])[i]? = some x) : ∃ g v, G[i]? = some g ∧ row[i]? = some v ∧ x = .tup [.int (g : Int), .int v] := by
  simp only [List.getElem?_map, Option.map_eq_some_iff] at h
  obtain ⟨⟨a, b⟩, e, rfl⟩ := h
  rw [List.getElem?_zip_eq_some] at e
  simp only [List.getElem?_map, Option.map_eq_some_iff] at e
  obtain ⟨⟨g, e1, rfl⟩, ⟨v, e2, rfl⟩⟩ := e
  exact ⟨g, v, e1, e2, rfl⟩
theorem zipI_it {G row : List Int} {i : Nat} {x : D} (h : (((iL G).zip (iL row)).map fun p => D.tup [p.1, p.2])[i]? = some x) : ∃ g v, G[i]? = some g ∧ row[i]? = some v ∧ x = .tup [.int g, .int v] := by
  simp only [List.getElem?_map, Option.map_eq_some_iff] at h
  obtain ⟨⟨a, b⟩, e, rfl⟩ := h
  rw [List.getElem?_zip_eq_some] at e
  simp only [List.getElem?_map, Option.map_eq_some_iff] at e
  obtain ⟨⟨g, e1, rfl⟩, ⟨v, e2, rfl⟩⟩ := e
  exact ⟨g, v, e1, e2, rfl⟩
theorem nL_iL {ks : List Nat} : nL ks = iL (ks.map fun (k : Nat) => (k : Int)) := by simp
theorem nL_last {ks : List Nat} {e : Nat} (h : ks.getLast? = some e) : atI (nL ks) (-1) = some (.int (e : Int)) := by
  rw [nL_iL, atI_ints, atI_last (p := (e : Int)) (by rw [List.getLast?_map, h]; rfl)]
  rfl
theorem setN {len : Nat} {i : Int} (h0 : 0 ≤ i) (h1 : i < len) : ixN len i = some i.toNat := by
  unfold ixN
  rw [if_pos h0, if_pos h1]
def fnd (cs ts : List Nat) (ws : List Int) (r : Int) (e i : Nat) : List (List Int) := ((rowsOf cs.length (gq ts - 1)).take i).flatMap fun row => fits ws cs.length r (midOf cs ts row) e
theorem fnd_succ {cs ts : List Nat} {ws : List Int} {r : Int} {e i : Nat} {row : List Int} (hq : (rowsOf cs.length (gq ts - 1))[i]? = some row) : fnd cs ts ws r e (i + 1) = fnd cs ts ws r e i ++ fits ws cs.length r (midOf cs ts row) e := by
  unfold fnd
  rw [List.take_add_one, hq, List.flatMap_append]
  simp
theorem fnd_le {cs ts : List Nat} {ws : List Int} {r : Int} {e i : Nat} : (fnd cs ts ws r e i).length ≤ (allT cs ts ws r e).length := by
  have e1 : allT cs ts ws r e = fnd cs ts ws r e i ++ ((rowsOf cs.length (gq ts - 1)).drop i).flatMap (fun row => fits ws cs.length r (midOf cs ts row) e) := by
    unfold fnd
    rw [← List.flatMap_append, List.take_append_drop]; rfl
  rw [e1, List.length_append]; omega
theorem fnd_all {cs ts : List Nat} {ws : List Int} {r : Int} {e : Nat} : fnd cs ts ws r e (rowsOf cs.length (gq ts - 1)).length = allT cs ts ws r e := by
  unfold fnd
  rw [List.take_length]; rfl
theorem s_rest {n : Nat} {cs : List Nat} {ws : List Int} {r : Int} {k z} (h : k (.v (.int r))) : wpF fnT gcT (n+1) 18 [codeD cs ws r] k z := by
  unfold wpF
  simp only [f18, b18, lkA, lkB, lkC, lkD, fnT, startE, List.length_cons, List.length_nil, List.map_cons, List.map_nil, List.cons_append, List.nil_append, Nat.sub_self, Nat.reduceSub, Nat.reduceAdd, Nat.reduceLT, List.replicate_zero, List.reduceReplicate, List.replicate_succ, wpSs, wpS, wpE, wpEs, wpT, wpI, wpC, List.getElem?_cons_zero, List.getElem?_cons_succ, List.getElem?_nil, den, dens, back, true_and, and_true, nrmE, nrmT, frzSlots, cutV1, frzT, frzL, eq_ii, eq_bb, eq_ss, eq_nn, D.isNon, o_add, o_adds, o_addl, o_sub, o_addt, n_split, n_find, o_mul, o_rep, o_div, o_mod, o_pow, c_lt, c_le, c_gt, c_ge, c_lts, c_eq, c_ne, c_is, c_isnot, c_in, c_notin, t_bl, t_non, t_int, t_lst, t_tup, x_lst, x_tup, x_scr, x_str, u_lst, u_scr, u_str, b_lenl, b_lent, b_lenc, b_lens, b_abs, b_max2, b_min2, b_int, b_inb, b_tup, b_dm, b_srtk, i_lst, i_tup, i_scr, is_n, is_b, exists_eq_left', exists_eq_left, exists_eq_right, Option.some.injEq,  partD, setS, setAll, tgD, tgSlots, wipeE, List.set_cons_zero, List.set_cons_succ, List.set_nil, List.take_nil, List.take_zero, m_f, m_t, r_int, r_bl, r_str, r_non, r_tup, r_lstf, r_lstt, r_v, r_newf, r_newt, List.any_cons, List.any_nil, owned, Bool.or_false, Bool.false_or, fl_bl, fl_int, fl_str, fl_non, fl_rs, exists_eq', Ct.lst.injEq, Ct.ob.injEq, D.kst.injEq, List.take_succ_cons, dat_lst, dat_ob, dat_fz, Option.some.injEq, SV.d.injEq, D.int.injEq, forall_eq', reduceCtorEq, false_implies, forall_const, Bool.false_eq_true, List.set, true_or, if_true, if_false, Bool.not_true, Bool.not_false]
  exact h
theorem s_fitting {n : Nat} {cs ts : List Nat} {ws : List Int} {r : Int} {e : Nat} {k z} (o : OkC cs ws r) (t : TOk cs ws.length ts) (he : (gaps ts).getLast? = some e) (hT : (allT cs ts ws r e).length ≤ 1000) (h : k (.new (wL cs (allT cs ts ws r e)))) : wpF fnT gcT (n+4) 5 [codeD cs ws r, .str (sL ts)] k z := by
  have c3 := o.c3
  have c26 := o.c26
  have w3 := o.w3
  have w8 := o.w8
  have tl := t.len
  have t3 := t.g3
  have t1 := t.g1
  have h0 : 0 < cs.length := by omega
  have g0 := getD0 h0
  have hin : cs.getD 0 0 ∈ cs := List.mem_of_getElem? g0
  have n63 : cs.getD 0 0 ≠ 63 := by have := o.let_ _ hin; omega
  have bl := base_len (cs := cs) (ts := ts)
  unfold wpF
  simp only [f5, b5, fnT, startE, List.length_cons, List.length_nil, List.map_cons, List.map_nil, List.cons_append, List.nil_append, Nat.sub_self, Nat.reduceSub, Nat.reduceAdd, Nat.reduceLT, List.replicate_zero, List.reduceReplicate, List.replicate_succ, wpSs, wpS, wpE, wpEs, wpT, wpI, wpC, List.getElem?_cons_zero, List.getElem?_cons_succ, List.getElem?_nil, den, dens, back, true_and, and_true, nrmE, nrmT, frzSlots, cutV1, frzT, frzL, eq_ii, eq_bb, eq_ss, eq_nn, D.isNon, o_add, o_adds, o_addl, o_sub, o_addt, n_split, n_find, o_mul, o_rep, o_div, o_mod, o_pow, c_lt, c_le, c_gt, c_ge, c_lts, c_eq, c_ne, c_is, c_isnot, c_in, c_notin, t_bl, t_non, t_int, t_lst, t_tup, x_lst, x_tup, x_scr, x_str, u_lst, u_scr, u_str, b_lenl, b_lent, b_lenc, b_lens, b_abs, b_max2, b_min2, b_int, b_inb, b_tup, b_dm, b_srtk, i_lst, i_tup, i_scr, is_n, is_b, exists_eq_left', exists_eq_left, exists_eq_right, Option.some.injEq,  partD, setS, setAll, tgD, tgSlots, wipeE, List.set_cons_zero, List.set_cons_succ, List.set_nil, List.take_nil, List.take_zero, m_f, m_t, r_int, r_bl, r_str, r_non, r_tup, r_lstf, r_lstt, r_v, r_newf, r_newt, List.any_cons, List.any_nil, owned, Bool.or_false, Bool.false_or, fl_bl, fl_int, fl_str, fl_non, fl_rs, exists_eq', Ct.lst.injEq, Ct.ob.injEq, D.kst.injEq, List.take_succ_cons, dat_lst, dat_ob, dat_fz, Option.some.injEq, SV.d.injEq, D.int.injEq, forall_eq', reduceCtorEq, false_implies, forall_const, Bool.false_eq_true, List.set, true_or, if_true, if_false, Bool.not_true, Bool.not_false]
  refine s_is_torn o rfl (by show decide ((sL _).length ≤ 1000) = true; rw [len_sL]; exact decide_eq_true (by omega)) ?_
  rw [tornB_of h0 t]
  simp only [b5_7, lkD, fnT, startE, List.length_cons, List.length_nil, List.map_cons, List.map_nil, List.cons_append, List.nil_append, Nat.sub_self, Nat.reduceSub, Nat.reduceAdd, Nat.reduceLT, List.replicate_zero, List.reduceReplicate, List.replicate_succ, wpSs, wpS, wpE, wpEs, wpT, wpI, wpC, List.getElem?_cons_zero, List.getElem?_cons_succ, List.getElem?_nil, den, dens, back, true_and, and_true, nrmE, nrmT, frzSlots, cutV1, frzT, frzL, eq_ii, eq_bb, eq_ss, eq_nn, D.isNon, o_add, o_adds, o_addl, o_sub, o_addt, n_split, n_find, o_mul, o_rep, o_div, o_mod, o_pow, c_lt, c_le, c_gt, c_ge, c_lts, c_eq, c_ne, c_is, c_isnot, c_in, c_notin, t_bl, t_non, t_int, t_lst, t_tup, x_lst, x_tup, x_scr, x_str, u_lst, u_scr, u_str, b_lenl, b_lent, b_lenc, b_lens, b_abs, b_max2, b_min2, b_int, b_inb, b_tup, b_dm, b_srtk, i_lst, i_tup, i_scr, is_n, is_b, exists_eq_left', exists_eq_left, exists_eq_right, Option.some.injEq,  partD, setS, setAll, tgD, tgSlots, wipeE, List.set_cons_zero, List.set_cons_succ, List.set_nil, List.take_nil, List.take_zero, m_f, m_t, r_int, r_bl, r_str, r_non, r_tup, r_lstf, r_lstt, r_v, r_newf, r_newt, List.any_cons, List.any_nil, owned, Bool.or_false, Bool.false_or, fl_bl, fl_int, fl_str, fl_non, fl_rs, exists_eq', Ct.lst.injEq, Ct.ob.injEq, D.kst.injEq, List.take_succ_cons, dat_lst, dat_ob, dat_fz, Option.some.injEq, SV.d.injEq, D.int.injEq, forall_eq', reduceCtorEq, false_implies, forall_const, Bool.false_eq_true, List.set, true_or, if_true, if_false, Bool.not_true, Bool.not_false]
  refine s_alph ?_
  simp only [len_sL, fnT, startE, List.length_cons, List.length_nil, List.map_cons, List.map_nil, List.cons_append, List.nil_append, Nat.sub_self, Nat.reduceSub, Nat.reduceAdd, Nat.reduceLT, List.replicate_zero, List.reduceReplicate, List.replicate_succ, wpSs, wpS, wpE, wpEs, wpT, wpI, wpC, List.getElem?_cons_zero, List.getElem?_cons_succ, List.getElem?_nil, den, dens, back, true_and, and_true, nrmE, nrmT, frzSlots, cutV1, frzT, frzL, eq_ii, eq_bb, eq_ss, eq_nn, D.isNon, o_add, o_adds, o_addl, o_sub, o_addt, n_split, n_find, o_mul, o_rep, o_div, o_mod, o_pow, c_lt, c_le, c_gt, c_ge, c_lts, c_eq, c_ne, c_is, c_isnot, c_in, c_notin, t_bl, t_non, t_int, t_lst, t_tup, x_lst, x_tup, x_scr, x_str, u_lst, u_scr, u_str, b_lenl, b_lent, b_lenc, b_lens, b_abs, b_max2, b_min2, b_int, b_inb, b_tup, b_dm, b_srtk, i_lst, i_tup, i_scr, is_n, is_b, exists_eq_left', exists_eq_left, exists_eq_right, Option.some.injEq,  partD, setS, setAll, tgD, tgSlots, wipeE, List.set_cons_zero, List.set_cons_succ, List.set_nil, List.take_nil, List.take_zero, m_f, m_t, r_int, r_bl, r_str, r_non, r_tup, r_lstf, r_lstt, r_v, r_newf, r_newt, List.any_cons, List.any_nil, owned, Bool.or_false, Bool.false_or, fl_bl, fl_int, fl_str, fl_non, fl_rs, exists_eq', Ct.lst.injEq, Ct.ob.injEq, D.kst.injEq, List.take_succ_cons, dat_lst, dat_ob, dat_fz, Option.some.injEq, SV.d.injEq, D.int.injEq, forall_eq', reduceCtorEq, false_implies, forall_const, Bool.false_eq_true, List.set, true_or, if_true, if_false, Bool.not_true, Bool.not_false]
  refine ⟨sizeLine_big (by omega), fun i acc => acc = nL (gapsTo ts i), rfl, ?_, ?_⟩
  · rintro i x acc hx rfl
    obtain ⟨c, hc, rfl⟩ := enuS_it hx
    have hi := (List.getElem?_eq_some_iff.mp hc).1
    have gd : ts.getD i 0 = c := by rw [List.getD_eq_getElem?_getD, hc]; rfl
    have gl := gaps_le (ts := ts) (i := i)
    simp only [b5_0, b5_1, q_str, fnT, startE, List.length_cons, List.length_nil, List.map_cons, List.map_nil, List.cons_append, List.nil_append, Nat.sub_self, Nat.reduceSub, Nat.reduceAdd, Nat.reduceLT, List.replicate_zero, List.reduceReplicate, List.replicate_succ, wpSs, wpS, wpE, wpEs, wpT, wpI, wpC, List.getElem?_cons_zero, List.getElem?_cons_succ, List.getElem?_nil, den, dens, back, true_and, and_true, nrmE, nrmT, frzSlots, cutV1, frzT, frzL, eq_ii, eq_bb, eq_ss, eq_nn, D.isNon, o_add, o_adds, o_addl, o_sub, o_addt, n_split, n_find, o_mul, o_rep, o_div, o_mod, o_pow, c_lt, c_le, c_gt, c_ge, c_lts, c_eq, c_ne, c_is, c_isnot, c_in, c_notin, t_bl, t_non, t_int, t_lst, t_tup, x_lst, x_tup, x_scr, x_str, u_lst, u_scr, u_str, b_lenl, b_lent, b_lenc, b_lens, b_abs, b_max2, b_min2, b_int, b_inb, b_tup, b_dm, b_srtk, i_lst, i_tup, i_scr, is_n, is_b, exists_eq_left', exists_eq_left, exists_eq_right, Option.some.injEq,  partD, setS, setAll, tgD, tgSlots, wipeE, List.set_cons_zero, List.set_cons_succ, List.set_nil, List.take_nil, List.take_zero, m_f, m_t, r_int, r_bl, r_str, r_non, r_tup, r_lstf, r_lstt, r_v, r_newf, r_newt, List.any_cons, List.any_nil, owned, Bool.or_false, Bool.false_or, fl_bl, fl_int, fl_str, fl_non, fl_rs, exists_eq', Ct.lst.injEq, Ct.ob.injEq, D.kst.injEq, List.take_succ_cons, dat_lst, dat_ob, dat_fz, Option.some.injEq, SV.d.injEq, D.int.injEq, forall_eq', reduceCtorEq, false_implies, forall_const, Bool.false_eq_true, List.set, true_or, if_true, if_false, Bool.not_true, Bool.not_false]
    have eb : ((ch c : Str) == ch 63) = decide (c = 63) := by
      by_cases q : c = 63
      · subst q; simp
      · rw [decide_eq_false q, beq_eq_false_iff_ne]
        intro e
        have := congrArg (fun s : Str => s.cps.toList) e
        exact q (by simpa using this)
    rw [eb, gaps_snoc, gd]
    refine ⟨fun hb => ⟨sizeLine_lt (by rw [List.length_map]; omega), ?_⟩, fun hb => ?_⟩
    · rw [if_pos (of_decide_eq_true hb)]
      simp [nL]
    · rw [if_neg (of_decide_eq_false hb), List.append_nil]
  · rintro acc rfl
    have el : ((((sL ts).cps.toList.map fun c => D.str ⟨#[c]⟩)).zipIdx.map fun p => D.tup [.int ((p.2 : Nat) : Int), p.1]).length = ts.length := by rw [list_sL]; simp
    rw [el]
    simp only [lkD, q_str, list_sL, fnT, startE, List.length_cons, List.length_nil, List.map_cons, List.map_nil, List.cons_append, List.nil_append, Nat.sub_self, Nat.reduceSub, Nat.reduceAdd, Nat.reduceLT, List.replicate_zero, List.reduceReplicate, List.replicate_succ, wpSs, wpS, wpE, wpEs, wpT, wpI, wpC, List.getElem?_cons_zero, List.getElem?_cons_succ, List.getElem?_nil, den, dens, back, true_and, and_true, nrmE, nrmT, frzSlots, cutV1, frzT, frzL, eq_ii, eq_bb, eq_ss, eq_nn, D.isNon, o_add, o_adds, o_addl, o_sub, o_addt, n_split, n_find, o_mul, o_rep, o_div, o_mod, o_pow, c_lt, c_le, c_gt, c_ge, c_lts, c_eq, c_ne, c_is, c_isnot, c_in, c_notin, t_bl, t_non, t_int, t_lst, t_tup, x_lst, x_tup, x_scr, x_str, u_lst, u_scr, u_str, b_lenl, b_lent, b_lenc, b_lens, b_abs, b_max2, b_min2, b_int, b_inb, b_tup, b_dm, b_srtk, i_lst, i_tup, i_scr, is_n, is_b, exists_eq_left', exists_eq_left, exists_eq_right, Option.some.injEq,  partD, setS, setAll, tgD, tgSlots, wipeE, List.set_cons_zero, List.set_cons_succ, List.set_nil, List.take_nil, List.take_zero, m_f, m_t, r_int, r_bl, r_str, r_non, r_tup, r_lstf, r_lstt, r_v, r_newf, r_newt, List.any_cons, List.any_nil, owned, Bool.or_false, Bool.false_or, fl_bl, fl_int, fl_str, fl_non, fl_rs, exists_eq', Ct.lst.injEq, Ct.ob.injEq, D.kst.injEq, List.take_succ_cons, dat_lst, dat_ob, dat_fz, Option.some.injEq, SV.d.injEq, D.int.injEq, forall_eq', reduceCtorEq, false_implies, forall_const, Bool.false_eq_true, List.set, true_or, if_true, if_false, Bool.not_true, Bool.not_false]
    refine ⟨_, g0, beq_eq_false_iff_ne.mpr fun e => n63 ?_, by omega, ?_⟩
    · have := congrArg (fun s : Str => s.cps.toList) e
      simpa using this.symm
    rw [repl_sL, ← wrd_plc (fillQ_in h0 t.mem)]
    refine s_places o.nd (base_lt h0 t) (by rw [plc_len, fillQ_len]; omega) ?_
    simp only [lkD, fnT, startE, List.length_cons, List.length_nil, List.map_cons, List.map_nil, List.cons_append, List.nil_append, Nat.sub_self, Nat.reduceSub, Nat.reduceAdd, Nat.reduceLT, List.replicate_zero, List.reduceReplicate, List.replicate_succ, wpSs, wpS, wpE, wpEs, wpT, wpI, wpC, List.getElem?_cons_zero, List.getElem?_cons_succ, List.getElem?_nil, den, dens, back, true_and, and_true, nrmE, nrmT, frzSlots, cutV1, frzT, frzL, eq_ii, eq_bb, eq_ss, eq_nn, D.isNon, o_add, o_adds, o_addl, o_sub, o_addt, n_split, n_find, o_mul, o_rep, o_div, o_mod, o_pow, c_lt, c_le, c_gt, c_ge, c_lts, c_eq, c_ne, c_is, c_isnot, c_in, c_notin, t_bl, t_non, t_int, t_lst, t_tup, x_lst, x_tup, x_scr, x_str, u_lst, u_scr, u_str, b_lenl, b_lent, b_lenc, b_lens, b_abs, b_max2, b_min2, b_int, b_inb, b_tup, b_dm, b_srtk, i_lst, i_tup, i_scr, is_n, is_b, exists_eq_left', exists_eq_left, exists_eq_right, Option.some.injEq,  partD, setS, setAll, tgD, tgSlots, wipeE, List.set_cons_zero, List.set_cons_succ, List.set_nil, List.take_nil, List.take_zero, m_f, m_t, r_int, r_bl, r_str, r_non, r_tup, r_lstf, r_lstt, r_v, r_newf, r_newt, List.any_cons, List.any_nil, owned, Bool.or_false, Bool.false_or, fl_bl, fl_int, fl_str, fl_non, fl_rs, exists_eq', Ct.lst.injEq, Ct.ob.injEq, D.kst.injEq, List.take_succ_cons, dat_lst, dat_ob, dat_fz, Option.some.injEq, SV.d.injEq, D.int.injEq, forall_eq', reduceCtorEq, false_implies, forall_const, Bool.false_eq_true, List.set, true_or, if_true, if_false, Bool.not_true, Bool.not_false]
    refine s_wts ?_
    simp only [lkD, fnT, startE, List.length_cons, List.length_nil, List.map_cons, List.map_nil, List.cons_append, List.nil_append, Nat.sub_self, Nat.reduceSub, Nat.reduceAdd, Nat.reduceLT, List.replicate_zero, List.reduceReplicate, List.replicate_succ, wpSs, wpS, wpE, wpEs, wpT, wpI, wpC, List.getElem?_cons_zero, List.getElem?_cons_succ, List.getElem?_nil, den, dens, back, true_and, and_true, nrmE, nrmT, frzSlots, cutV1, frzT, frzL, eq_ii, eq_bb, eq_ss, eq_nn, D.isNon, o_add, o_adds, o_addl, o_sub, o_addt, n_split, n_find, o_mul, o_rep, o_div, o_mod, o_pow, c_lt, c_le, c_gt, c_ge, c_lts, c_eq, c_ne, c_is, c_isnot, c_in, c_notin, t_bl, t_non, t_int, t_lst, t_tup, x_lst, x_tup, x_scr, x_str, u_lst, u_scr, u_str, b_lenl, b_lent, b_lenc, b_lens, b_abs, b_max2, b_min2, b_int, b_inb, b_tup, b_dm, b_srtk, i_lst, i_tup, i_scr, is_n, is_b, exists_eq_left', exists_eq_left, exists_eq_right, Option.some.injEq,  partD, setS, setAll, tgD, tgSlots, wipeE, List.set_cons_zero, List.set_cons_succ, List.set_nil, List.take_nil, List.take_zero, m_f, m_t, r_int, r_bl, r_str, r_non, r_tup, r_lstf, r_lstt, r_v, r_newf, r_newt, List.any_cons, List.any_nil, owned, Bool.or_false, Bool.false_or, fl_bl, fl_int, fl_str, fl_non, fl_rs, exists_eq', Ct.lst.injEq, Ct.ob.injEq, D.kst.injEq, List.take_succ_cons, dat_lst, dat_ob, dat_fz, Option.some.injEq, SV.d.injEq, D.int.injEq, forall_eq', reduceCtorEq, false_implies, forall_const, Bool.false_eq_true, List.set, true_or, if_true, if_false, Bool.not_true, Bool.not_false]
    have gL : (gapsTo ts ts.length).length = gq ts := gaps_len
    refine ⟨sizeLine_big (by decide), ?_⟩
    rw [show ((nL (gapsTo ts ts.length)).length : Int) - 1 = ((gq ts - 1 : Nat) : Int) by rw [List.length_map, gL]; omega]
    refine s_rows c26 (by omega) ?_
    simp only [lkD, fnT, startE, List.length_cons, List.length_nil, List.map_cons, List.map_nil, List.cons_append, List.nil_append, Nat.sub_self, Nat.reduceSub, Nat.reduceAdd, Nat.reduceLT, List.replicate_zero, List.reduceReplicate, List.replicate_succ, wpSs, wpS, wpE, wpEs, wpT, wpI, wpC, List.getElem?_cons_zero, List.getElem?_cons_succ, List.getElem?_nil, den, dens, back, true_and, and_true, nrmE, nrmT, frzSlots, cutV1, frzT, frzL, eq_ii, eq_bb, eq_ss, eq_nn, D.isNon, o_add, o_adds, o_addl, o_sub, o_addt, n_split, n_find, o_mul, o_rep, o_div, o_mod, o_pow, c_lt, c_le, c_gt, c_ge, c_lts, c_eq, c_ne, c_is, c_isnot, c_in, c_notin, t_bl, t_non, t_int, t_lst, t_tup, x_lst, x_tup, x_scr, x_str, u_lst, u_scr, u_str, b_lenl, b_lent, b_lenc, b_lens, b_abs, b_max2, b_min2, b_int, b_inb, b_tup, b_dm, b_srtk, i_lst, i_tup, i_scr, is_n, is_b, exists_eq_left', exists_eq_left, exists_eq_right, Option.some.injEq,  partD, setS, setAll, tgD, tgSlots, wipeE, List.set_cons_zero, List.set_cons_succ, List.set_nil, List.take_nil, List.take_zero, m_f, m_t, r_int, r_bl, r_str, r_non, r_tup, r_lstf, r_lstt, r_v, r_newf, r_newt, List.any_cons, List.any_nil, owned, Bool.or_false, Bool.false_or, fl_bl, fl_int, fl_str, fl_non, fl_rs, exists_eq', Ct.lst.injEq, Ct.ob.injEq, D.kst.injEq, List.take_succ_cons, dat_lst, dat_ob, dat_fz, Option.some.injEq, SV.d.injEq, D.int.injEq, forall_eq', reduceCtorEq, false_implies, forall_const, Bool.false_eq_true, List.set, true_or, if_true, if_false, Bool.not_true, Bool.not_false]
    have rl : ∀ i, ((rowsOf cs.length (gq ts - 1)).take i).length ≤ 676 := fun i => by
      rw [List.length_take]
      refine Nat.le_trans (Nat.min_le_right _ _) ?_
      rw [rowsOf_len]
      exact Nat.le_trans (Nat.pow_le_pow_left c26 _) (by rcases (show gq ts - 1 = 0 ∨ gq ts - 1 = 1 ∨ gq ts - 1 = 2 by omega) with e | e | e <;> rw [e] <;> decide)
    have hbase : plc cs (fillQ (cs.getD 0 0) ts) = base cs ts := rfl
    rw [hbase]
    generalize hB : base cs ts = B at *
    have hF : ∀ row, midOf cs ts row = setZ B ((gaps ts).zip row) := fun row => by rw [← hB]
    refine ⟨fun i e' l => ∃ x8 x9 x10 x11 x12 : Option D, e' = [some (.d (codeD cs ws r)), some (.d (.str (sL ts))), some (.d (.str (sL cs))), some (.d (.int cs.length)), some (.d (.lst (nL (gapsTo ts ts.length)))), some (.d (.lst (iL B))), some (.d (.lst (iL ws))), some (.c 0), x8.map SV.d, x9.map SV.d, x10.map SV.d, x11.map SV.d, x12.map SV.d, none, none, none] ∧
      l = [.lst (wL cs (fnd cs ts ws r e i))], ⟨none, none, none, none, none, rfl, rfl⟩, ?_, ?_⟩
    · rintro i x e' l hx ⟨x8, x9, x10, x11, x12, rfl, rfl⟩
      rw [List.getElem?_map, Option.map_eq_some_iff] at hx
      obtain ⟨row, hq, rfl⟩ := hx
      obtain ⟨ql, qP⟩ := rowsOf_row (List.mem_of_getElem? hq)
      have st := fnd_succ (ws := ws) (r := r) (e := e) hq
      have sz := Nat.le_trans (fnd_le (cs := cs) (ts := ts) (ws := ws) (r := r) (e := e) (i := i + 1)) hT
      rw [st, List.length_append] at sz
      simp only [b5_6, cutM, fnT, startE, List.length_cons, List.length_nil, List.map_cons, List.map_nil, List.cons_append, List.nil_append, Nat.sub_self, Nat.reduceSub, Nat.reduceAdd, Nat.reduceLT, List.replicate_zero, List.reduceReplicate, List.replicate_succ, wpSs, wpS, wpE, wpEs, wpT, wpI, wpC, List.getElem?_cons_zero, List.getElem?_cons_succ, List.getElem?_nil, den, dens, back, true_and, and_true, nrmE, nrmT, frzSlots, cutV1, frzT, frzL, eq_ii, eq_bb, eq_ss, eq_nn, D.isNon, o_add, o_adds, o_addl, o_sub, o_addt, n_split, n_find, o_mul, o_rep, o_div, o_mod, o_pow, c_lt, c_le, c_gt, c_ge, c_lts, c_eq, c_ne, c_is, c_isnot, c_in, c_notin, t_bl, t_non, t_int, t_lst, t_tup, x_lst, x_tup, x_scr, x_str, u_lst, u_scr, u_str, b_lenl, b_lent, b_lenc, b_lens, b_abs, b_max2, b_min2, b_int, b_inb, b_tup, b_dm, b_srtk, i_lst, i_tup, i_scr, is_n, is_b, exists_eq_left', exists_eq_left, exists_eq_right, Option.some.injEq,  partD, setS, setAll, tgD, tgSlots, wipeE, List.set_cons_zero, List.set_cons_succ, List.set_nil, List.take_nil, List.take_zero, m_f, m_t, r_int, r_bl, r_str, r_non, r_tup, r_lstf, r_lstt, r_v, r_newf, r_newt, List.any_cons, List.any_nil, owned, Bool.or_false, Bool.false_or, fl_bl, fl_int, fl_str, fl_non, fl_rs, exists_eq', Ct.lst.injEq, Ct.ob.injEq, D.kst.injEq, List.take_succ_cons, dat_lst, dat_ob, dat_fz, Option.some.injEq, SV.d.injEq, D.int.injEq, forall_eq', reduceCtorEq, false_implies, forall_const, Bool.false_eq_true, List.set, true_or, if_true, if_false, Bool.not_true, Bool.not_false]
      have mP := mid_lt h0 t qP
      have mlen : (midOf cs ts row).length = ws.length := by rw [hF, setZ_len, bl, tl]
      have hz : setZ B ((gapsTo ts ts.length).zip row) = midOf cs ts row := (hF row).symm
      generalize hmid : midOf cs ts row = mid at *
      refine ⟨fun j e' l => ∃ x10 x11 x12 : Option D, e' = [some (.d (codeD cs ws r)), some (.d (.str (sL ts))), some (.d (.str (sL cs))), some (.d (.int cs.length)), some (.d (.lst (nL (gapsTo ts ts.length)))), some (.d (.lst (iL B))), some (.d (.lst (iL ws))), some (.c 0), some (.d (rowD row)), some (.c 1), x10.map SV.d, x11.map SV.d, x12.map SV.d, none, none, none] ∧
        l = [.lst (wL cs (fnd cs ts ws r e i)), .lst (iL (setZ B (((gapsTo ts ts.length).zip row).take j)))], ⟨x10, x11, x12, by cases x10 <;> cases x11 <;> cases x12 <;> rfl, rfl⟩, ?_, ?_⟩
      · rintro j x e' l hx ⟨x10, x11, x12, rfl, rfl⟩
        obtain ⟨g, v, hg, hv, rfl⟩ := zipN_it hx
        have gin := gaps_in.mp (List.mem_of_getElem? hg)
        have zl : ((gapsTo ts ts.length).zip row)[j]? = some (g, v) := List.getElem?_zip_eq_some.mpr ⟨hg, hv⟩
        have sl : (setZ B (((gapsTo ts ts.length).zip row).take j)).length = B.length := setZ_len
        simp only [b5_2, cutM, fnT, startE, List.length_cons, List.length_nil, List.map_cons, List.map_nil, List.cons_append, List.nil_append, Nat.sub_self, Nat.reduceSub, Nat.reduceAdd, Nat.reduceLT, List.replicate_zero, List.reduceReplicate, List.replicate_succ, wpSs, wpS, wpE, wpEs, wpT, wpI, wpC, List.getElem?_cons_zero, List.getElem?_cons_succ, List.getElem?_nil, den, dens, back, true_and, and_true, nrmE, nrmT, frzSlots, cutV1, frzT, frzL, eq_ii, eq_bb, eq_ss, eq_nn, D.isNon, o_add, o_adds, o_addl, o_sub, o_addt, n_split, n_find, o_mul, o_rep, o_div, o_mod, o_pow, c_lt, c_le, c_gt, c_ge, c_lts, c_eq, c_ne, c_is, c_isnot, c_in, c_notin, t_bl, t_non, t_int, t_lst, t_tup, x_lst, x_tup, x_scr, x_str, u_lst, u_scr, u_str, b_lenl, b_lent, b_lenc, b_lens, b_abs, b_max2, b_min2, b_int, b_inb, b_tup, b_dm, b_srtk, i_lst, i_tup, i_scr, is_n, is_b, exists_eq_left', exists_eq_left, exists_eq_right, Option.some.injEq,  partD, setS, setAll, tgD, tgSlots, wipeE, List.set_cons_zero, List.set_cons_succ, List.set_nil, List.take_nil, List.take_zero, m_f, m_t, r_int, r_bl, r_str, r_non, r_tup, r_lstf, r_lstt, r_v, r_newf, r_newt, List.any_cons, List.any_nil, owned, Bool.or_false, Bool.false_or, fl_bl, fl_int, fl_str, fl_non, fl_rs, exists_eq', Ct.lst.injEq, Ct.ob.injEq, D.kst.injEq, List.take_succ_cons, dat_lst, dat_ob, dat_fz, Option.some.injEq, SV.d.injEq, D.int.injEq, forall_eq', reduceCtorEq, false_implies, forall_const, Bool.false_eq_true, List.set, true_or, if_true, if_false, Bool.not_true, Bool.not_false]
        refine ⟨_, _, rfl, setN (by omega) (by rw [len_ints, sl, bl]; omega), some _, some _, x12, by cases x12 <;> rfl, ?_⟩
        rw [List.take_add_one, zl, Option.toList_some, setZ_snoc, Int.toNat_natCast, ← List.map_set]
      · rintro e' l ⟨x10, x11, x12, rfl, rfl⟩
        have el2 : (((nL (gapsTo ts ts.length)).zip (row.map D.int)).map fun p => D.tup [p.1, p.2]).length = ((gapsTo ts ts.length).zip row).length := by simp
        rw [el2, List.take_length, hz]
        simp only [b5_5, lkD, fnT, startE, List.length_cons, List.length_nil, List.map_cons, List.map_nil, List.cons_append, List.nil_append, Nat.sub_self, Nat.reduceSub, Nat.reduceAdd, Nat.reduceLT, List.replicate_zero, List.reduceReplicate, List.replicate_succ, wpSs, wpS, wpE, wpEs, wpT, wpI, wpC, List.getElem?_cons_zero, List.getElem?_cons_succ, List.getElem?_nil, den, dens, back, true_and, and_true, nrmE, nrmT, frzSlots, cutV1, frzT, frzL, eq_ii, eq_bb, eq_ss, eq_nn, D.isNon, o_add, o_adds, o_addl, o_sub, o_addt, n_split, n_find, o_mul, o_rep, o_div, o_mod, o_pow, c_lt, c_le, c_gt, c_ge, c_lts, c_eq, c_ne, c_is, c_isnot, c_in, c_notin, t_bl, t_non, t_int, t_lst, t_tup, x_lst, x_tup, x_scr, x_str, u_lst, u_scr, u_str, b_lenl, b_lent, b_lenc, b_lens, b_abs, b_max2, b_min2, b_int, b_inb, b_tup, b_dm, b_srtk, i_lst, i_tup, i_scr, is_n, is_b, exists_eq_left', exists_eq_left, exists_eq_right, Option.some.injEq,  partD, setS, setAll, tgD, tgSlots, wipeE, List.set_cons_zero, List.set_cons_succ, List.set_nil, List.take_nil, List.take_zero, m_f, m_t, r_int, r_bl, r_str, r_non, r_tup, r_lstf, r_lstt, r_v, r_newf, r_newt, List.any_cons, List.any_nil, owned, Bool.or_false, Bool.false_or, fl_bl, fl_int, fl_str, fl_non, fl_rs, exists_eq', Ct.lst.injEq, Ct.ob.injEq, D.kst.injEq, List.take_succ_cons, dat_lst, dat_ob, dat_fz, Option.some.injEq, SV.d.injEq, D.int.injEq, forall_eq', reduceCtorEq, false_implies, forall_const, Bool.false_eq_true, List.set, true_or, if_true, if_false, Bool.not_true, Bool.not_false]
        refine s_rest ?_
        simp only [lkD, fnT, startE, List.length_cons, List.length_nil, List.map_cons, List.map_nil, List.cons_append, List.nil_append, Nat.sub_self, Nat.reduceSub, Nat.reduceAdd, Nat.reduceLT, List.replicate_zero, List.reduceReplicate, List.replicate_succ, wpSs, wpS, wpE, wpEs, wpT, wpI, wpC, List.getElem?_cons_zero, List.getElem?_cons_succ, List.getElem?_nil, den, dens, back, true_and, and_true, nrmE, nrmT, frzSlots, cutV1, frzT, frzL, eq_ii, eq_bb, eq_ss, eq_nn, D.isNon, o_add, o_adds, o_addl, o_sub, o_addt, n_split, n_find, o_mul, o_rep, o_div, o_mod, o_pow, c_lt, c_le, c_gt, c_ge, c_lts, c_eq, c_ne, c_is, c_isnot, c_in, c_notin, t_bl, t_non, t_int, t_lst, t_tup, x_lst, x_tup, x_scr, x_str, u_lst, u_scr, u_str, b_lenl, b_lent, b_lenc, b_lens, b_abs, b_max2, b_min2, b_int, b_inb, b_tup, b_dm, b_srtk, i_lst, i_tup, i_scr, is_n, is_b, exists_eq_left', exists_eq_left, exists_eq_right, Option.some.injEq,  partD, setS, setAll, tgD, tgSlots, wipeE, List.set_cons_zero, List.set_cons_succ, List.set_nil, List.take_nil, List.take_zero, m_f, m_t, r_int, r_bl, r_str, r_non, r_tup, r_lstf, r_lstt, r_v, r_newf, r_newt, List.any_cons, List.any_nil, owned, Bool.or_false, Bool.false_or, fl_bl, fl_int, fl_str, fl_non, fl_rs, exists_eq', Ct.lst.injEq, Ct.ob.injEq, D.kst.injEq, List.take_succ_cons, dat_lst, dat_ob, dat_fz, Option.some.injEq, SV.d.injEq, D.int.injEq, forall_eq', reduceCtorEq, false_implies, forall_const, Bool.false_eq_true, List.set, true_or, if_true, if_false, Bool.not_true, Bool.not_false]
        refine ⟨fun j acc => acc = iL (((ws.zip mid).take j).map fun p => p.1 * p.2), rfl, ?_, ?_⟩
        · rintro j x acc hx rfl
          obtain ⟨w, v, e1, e2, rfl⟩ := zipI_it hx
          have hj := (List.getElem?_eq_some_iff.mp e1).1
          simp only [b5_3, fnT, startE, List.length_cons, List.length_nil, List.map_cons, List.map_nil, List.cons_append, List.nil_append, Nat.sub_self, Nat.reduceSub, Nat.reduceAdd, Nat.reduceLT, List.replicate_zero, List.reduceReplicate, List.replicate_succ, wpSs, wpS, wpE, wpEs, wpT, wpI, wpC, List.getElem?_cons_zero, List.getElem?_cons_succ, List.getElem?_nil, den, dens, back, true_and, and_true, nrmE, nrmT, frzSlots, cutV1, frzT, frzL, eq_ii, eq_bb, eq_ss, eq_nn, D.isNon, o_add, o_adds, o_addl, o_sub, o_addt, n_split, n_find, o_mul, o_rep, o_div, o_mod, o_pow, c_lt, c_le, c_gt, c_ge, c_lts, c_eq, c_ne, c_is, c_isnot, c_in, c_notin, t_bl, t_non, t_int, t_lst, t_tup, x_lst, x_tup, x_scr, x_str, u_lst, u_scr, u_str, b_lenl, b_lent, b_lenc, b_lens, b_abs, b_max2, b_min2, b_int, b_inb, b_tup, b_dm, b_srtk, i_lst, i_tup, i_scr, is_n, is_b, exists_eq_left', exists_eq_left, exists_eq_right, Option.some.injEq,  partD, setS, setAll, tgD, tgSlots, wipeE, List.set_cons_zero, List.set_cons_succ, List.set_nil, List.take_nil, List.take_zero, m_f, m_t, r_int, r_bl, r_str, r_non, r_tup, r_lstf, r_lstt, r_v, r_newf, r_newt, List.any_cons, List.any_nil, owned, Bool.or_false, Bool.false_or, fl_bl, fl_int, fl_str, fl_non, fl_rs, exists_eq', Ct.lst.injEq, Ct.ob.injEq, D.kst.injEq, List.take_succ_cons, dat_lst, dat_ob, dat_fz, Option.some.injEq, SV.d.injEq, D.int.injEq, forall_eq', reduceCtorEq, false_implies, forall_const, Bool.false_eq_true, List.set, true_or, if_true, if_false, Bool.not_true, Bool.not_false]
          refine ⟨mul_lt (ws := ws) (m := cs.length) (by omega) (o.lt w (List.mem_of_getElem? e1)) (mP v (List.mem_of_getElem? e2)), _, [], rfl, rfl, sizeLine_lt (by simp; omega), ?_⟩
          have ez : (ws.zip mid)[j]? = some (w, v) := by rw [List.getElem?_zip_eq_some]; exact ⟨e1, e2⟩
          rw [List.take_add_one, ez, app_ints]
          simp
        · rintro acc rfl
          rw [List.length_map, show ((ws.map D.int).zip (mid.map D.int)).length = (ws.zip mid).length by simp, List.take_length]
          refine ⟨_, rfl, ?_⟩
          have hd : ((ws.zip mid).map fun p => p.1 * p.2).sum = dot ws mid := rfl
          rw [hd]
          simp only [fnT, startE, List.length_cons, List.length_nil, List.map_cons, List.map_nil, List.cons_append, List.nil_append, Nat.sub_self, Nat.reduceSub, Nat.reduceAdd, Nat.reduceLT, List.replicate_zero, List.reduceReplicate, List.replicate_succ, wpSs, wpS, wpE, wpEs, wpT, wpI, wpC, List.getElem?_cons_zero, List.getElem?_cons_succ, List.getElem?_nil, den, dens, back, true_and, and_true, nrmE, nrmT, frzSlots, cutV1, frzT, frzL, eq_ii, eq_bb, eq_ss, eq_nn, D.isNon, o_add, o_adds, o_addl, o_sub, o_addt, n_split, n_find, o_mul, o_rep, o_div, o_mod, o_pow, c_lt, c_le, c_gt, c_ge, c_lts, c_eq, c_ne, c_is, c_isnot, c_in, c_notin, t_bl, t_non, t_int, t_lst, t_tup, x_lst, x_tup, x_scr, x_str, u_lst, u_scr, u_str, b_lenl, b_lent, b_lenc, b_lens, b_abs, b_max2, b_min2, b_int, b_inb, b_tup, b_dm, b_srtk, i_lst, i_tup, i_scr, is_n, is_b, exists_eq_left', exists_eq_left, exists_eq_right, Option.some.injEq,  partD, setS, setAll, tgD, tgSlots, wipeE, List.set_cons_zero, List.set_cons_succ, List.set_nil, List.take_nil, List.take_zero, m_f, m_t, r_int, r_bl, r_str, r_non, r_tup, r_lstf, r_lstt, r_v, r_newf, r_newt, List.any_cons, List.any_nil, owned, Bool.or_false, Bool.false_or, fl_bl, fl_int, fl_str, fl_non, fl_rs, exists_eq', Ct.lst.injEq, Ct.ob.injEq, D.kst.injEq, List.take_succ_cons, dat_lst, dat_ob, dat_fz, Option.some.injEq, SV.d.injEq, D.int.injEq, forall_eq', reduceCtorEq, false_implies, forall_const, Bool.false_eq_true, List.set, true_or, if_true, if_false, Bool.not_true, Bool.not_false]
          have ein := gaps_in.mp (List.mem_of_getLast? he)
          have eP : atI (iL ws) (e : Int) = some (.int (ws.getD e 0)) := by rw [atI_ints, getl (getD_in (by omega))]; rfl
          have wP := o.lt _ (List.mem_of_getElem? (getD_in (ps := ws) (i := e) (by omega)))
          have lL := nL_last he
          have e1 : ((e : Int) + 1) = ((e + 1 : Nat) : Int) := by omega
          refine ⟨by omega, by omega, fun j e' l => ∃ x10 x11 : Option D, j ≤ cs.length ∧ e' = [some (.d (codeD cs ws r)), some (.d (.str (sL ts))), some (.d (.str (sL cs))), some (.d (.int cs.length)), some (.d (.lst (nL (gapsTo ts ts.length)))), some (.d (.lst (iL B))), some (.d (.lst (iL ws))), some (.c 0), some (.d (rowD row)), some (.c 1), x10.map SV.d, x11.map SV.d, some (.d (.int (r - dot ws mid))), none, none, none] ∧
            l = [.lst (wL cs (fnd cs ts ws r e i ++ fitsTo ws cs.length r mid e j)), .fz (.lst (iL mid))], ⟨x10, x11, by omega, by cases x10 <;> cases x11 <;> rfl, by simp [fitsTo]⟩, ?_, ?_⟩
          · rintro j x e' l hx ⟨x10, x11, hj0, rfl, rfl⟩
            obtain ⟨hj, rfl⟩ := rng_it hx
            rw [Int.toNat_natCast] at hj
            have fl := fitsTo_le (ws := ws) (m := cs.length) (r := r) (mid := mid) (e := e) (j := j)
            have sz2 := fitsTo_le (ws := ws) (m := cs.length) (r := r) (mid := mid) (e := e) (j := cs.length)
            have sz3 := Nat.le_trans (fnd_le (cs := cs) (ts := ts) (ws := ws) (r := r) (e := e) (i := i)) hT
            simp only [b5_4, cutM, lL, eP, fnT, startE, List.length_cons, List.length_nil, List.map_cons, List.map_nil, List.cons_append, List.nil_append, Nat.sub_self, Nat.reduceSub, Nat.reduceAdd, Nat.reduceLT, List.replicate_zero, List.reduceReplicate, List.replicate_succ, wpSs, wpS, wpE, wpEs, wpT, wpI, wpC, List.getElem?_cons_zero, List.getElem?_cons_succ, List.getElem?_nil, den, dens, back, true_and, and_true, nrmE, nrmT, frzSlots, cutV1, frzT, frzL, eq_ii, eq_bb, eq_ss, eq_nn, D.isNon, o_add, o_adds, o_addl, o_sub, o_addt, n_split, n_find, o_mul, o_rep, o_div, o_mod, o_pow, c_lt, c_le, c_gt, c_ge, c_lts, c_eq, c_ne, c_is, c_isnot, c_in, c_notin, t_bl, t_non, t_int, t_lst, t_tup, x_lst, x_tup, x_scr, x_str, u_lst, u_scr, u_str, b_lenl, b_lent, b_lenc, b_lens, b_abs, b_max2, b_min2, b_int, b_inb, b_tup, b_dm, b_srtk, i_lst, i_tup, i_scr, is_n, is_b, exists_eq_left', exists_eq_left, exists_eq_right, Option.some.injEq,  partD, setS, setAll, tgD, tgSlots, wipeE, List.set_cons_zero, List.set_cons_succ, List.set_nil, List.take_nil, List.take_zero, m_f, m_t, r_int, r_bl, r_str, r_non, r_tup, r_lstf, r_lstt, r_v, r_newf, r_newt, List.any_cons, List.any_nil, owned, Bool.or_false, Bool.false_or, fl_bl, fl_int, fl_str, fl_non, fl_rs, exists_eq', Ct.lst.injEq, Ct.ob.injEq, D.kst.injEq, List.take_succ_cons, dat_lst, dat_ob, dat_fz, Option.some.injEq, SV.d.injEq, D.int.injEq, forall_eq', reduceCtorEq, false_implies, forall_const, Bool.false_eq_true, List.set, true_or, if_true, if_false, Bool.not_true, Bool.not_false]
            refine ⟨mul_of 10 10 (by omega) (by omega) (by decide), by omega, fun hb => ?_, fun hb => ⟨x10, some _, by omega, by cases x10 <;> rfl, ?_⟩⟩
            · have hb : (r - dot ws mid - ws.getD e 0 * (j : Int)) % (cs.length : Int) = 0 := by simpa using hb
              rw [e1, cut_take, cut_drop]
              have c8 : (iL mid).length ≤ 8 := by rw [len_ints]; omega
              refine ⟨sizeLine_big (by decide), sizeLine_big (by rw [List.length_take]; omega), sizeLine_big (by rw [List.length_append, List.length_take, List.length_drop, List.length_singleton]; omega), ?_⟩
              have rt := row_take (ps := mid) (k := e) (m := [(j : Int)])
              have rt2 : (iL mid).take e ++ [D.int (j : Int)] ++ (iL mid).drop (e + 1) = iL (mid.set e (j : Int)) := by
                rw [← row_one (by omega)]
                exact rt
              rw [rt2]
              refine s_wordof c26 (mP.set (by omega) (by omega)) (by rw [List.length_set]; omega) ?_
              simp only [fnT, startE, List.length_cons, List.length_nil, List.map_cons, List.map_nil, List.cons_append, List.nil_append, Nat.sub_self, Nat.reduceSub, Nat.reduceAdd, Nat.reduceLT, List.replicate_zero, List.reduceReplicate, List.replicate_succ, wpSs, wpS, wpE, wpEs, wpT, wpI, wpC, List.getElem?_cons_zero, List.getElem?_cons_succ, List.getElem?_nil, den, dens, back, true_and, and_true, nrmE, nrmT, frzSlots, cutV1, frzT, frzL, eq_ii, eq_bb, eq_ss, eq_nn, D.isNon, o_add, o_adds, o_addl, o_sub, o_addt, n_split, n_find, o_mul, o_rep, o_div, o_mod, o_pow, c_lt, c_le, c_gt, c_ge, c_lts, c_eq, c_ne, c_is, c_isnot, c_in, c_notin, t_bl, t_non, t_int, t_lst, t_tup, x_lst, x_tup, x_scr, x_str, u_lst, u_scr, u_str, b_lenl, b_lent, b_lenc, b_lens, b_abs, b_max2, b_min2, b_int, b_inb, b_tup, b_dm, b_srtk, i_lst, i_tup, i_scr, is_n, is_b, exists_eq_left', exists_eq_left, exists_eq_right, Option.some.injEq,  partD, setS, setAll, tgD, tgSlots, wipeE, List.set_cons_zero, List.set_cons_succ, List.set_nil, List.take_nil, List.take_zero, m_f, m_t, r_int, r_bl, r_str, r_non, r_tup, r_lstf, r_lstt, r_v, r_newf, r_newt, List.any_cons, List.any_nil, owned, Bool.or_false, Bool.false_or, fl_bl, fl_int, fl_str, fl_non, fl_rs, exists_eq', Ct.lst.injEq, Ct.ob.injEq, D.kst.injEq, List.take_succ_cons, dat_lst, dat_ob, dat_fz, Option.some.injEq, SV.d.injEq, D.int.injEq, forall_eq', reduceCtorEq, false_implies, forall_const, Bool.false_eq_true, List.set, true_or, if_true, if_false, Bool.not_true, Bool.not_false]
              refine ⟨sizeLine_lt (by rw [List.length_map, List.length_append]; omega), x10, some _, by omega, by cases x10 <;> rfl, ?_⟩
              rw [fitsTo_succ, if_pos hb, ← List.append_assoc]
              simp [wL]
            · have hb : ¬ (r - dot ws mid - ws.getD e 0 * (j : Int)) % (cs.length : Int) = 0 := by simpa using hb
              rw [fitsTo_succ, if_neg hb, List.append_nil]
          · rintro e' l ⟨x10, x11, hj0, rfl, rfl⟩
            rw [rng_len, Int.toNat_natCast]
            simp only [cutM, fnT, startE, List.length_cons, List.length_nil, List.map_cons, List.map_nil, List.cons_append, List.nil_append, Nat.sub_self, Nat.reduceSub, Nat.reduceAdd, Nat.reduceLT, List.replicate_zero, List.reduceReplicate, List.replicate_succ, wpSs, wpS, wpE, wpEs, wpT, wpI, wpC, List.getElem?_cons_zero, List.getElem?_cons_succ, List.getElem?_nil, den, dens, back, true_and, and_true, nrmE, nrmT, frzSlots, cutV1, frzT, frzL, eq_ii, eq_bb, eq_ss, eq_nn, D.isNon, o_add, o_adds, o_addl, o_sub, o_addt, n_split, n_find, o_mul, o_rep, o_div, o_mod, o_pow, c_lt, c_le, c_gt, c_ge, c_lts, c_eq, c_ne, c_is, c_isnot, c_in, c_notin, t_bl, t_non, t_int, t_lst, t_tup, x_lst, x_tup, x_scr, x_str, u_lst, u_scr, u_str, b_lenl, b_lent, b_lenc, b_lens, b_abs, b_max2, b_min2, b_int, b_inb, b_tup, b_dm, b_srtk, i_lst, i_tup, i_scr, is_n, is_b, exists_eq_left', exists_eq_left, exists_eq_right, Option.some.injEq,  partD, setS, setAll, tgD, tgSlots, wipeE, List.set_cons_zero, List.set_cons_succ, List.set_nil, List.take_nil, List.take_zero, m_f, m_t, r_int, r_bl, r_str, r_non, r_tup, r_lstf, r_lstt, r_v, r_newf, r_newt, List.any_cons, List.any_nil, owned, Bool.or_false, Bool.false_or, fl_bl, fl_int, fl_str, fl_non, fl_rs, exists_eq', Ct.lst.injEq, Ct.ob.injEq, D.kst.injEq, List.take_succ_cons, dat_lst, dat_ob, dat_fz, Option.some.injEq, SV.d.injEq, D.int.injEq, forall_eq', reduceCtorEq, false_implies, forall_const, Bool.false_eq_true, List.set, true_or, if_true, if_false, Bool.not_true, Bool.not_false]
            refine ⟨some _, some _, x10, x11, some _, by cases x10 <;> cases x11 <;> rfl, ?_⟩
            rw [st]
    · rintro e' l ⟨x8, x9, x10, x11, x12, rfl, rfl⟩
      rw [List.length_map, fnd_all]
      simp only [fnT, startE, List.length_cons, List.length_nil, List.map_cons, List.map_nil, List.cons_append, List.nil_append, Nat.sub_self, Nat.reduceSub, Nat.reduceAdd, Nat.reduceLT, List.replicate_zero, List.reduceReplicate, List.replicate_succ, wpSs, wpS, wpE, wpEs, wpT, wpI, wpC, List.getElem?_cons_zero, List.getElem?_cons_succ, List.getElem?_nil, den, dens, back, true_and, and_true, nrmE, nrmT, frzSlots, cutV1, frzT, frzL, eq_ii, eq_bb, eq_ss, eq_nn, D.isNon, o_add, o_adds, o_addl, o_sub, o_addt, n_split, n_find, o_mul, o_rep, o_div, o_mod, o_pow, c_lt, c_le, c_gt, c_ge, c_lts, c_eq, c_ne, c_is, c_isnot, c_in, c_notin, t_bl, t_non, t_int, t_lst, t_tup, x_lst, x_tup, x_scr, x_str, u_lst, u_scr, u_str, b_lenl, b_lent, b_lenc, b_lens, b_abs, b_max2, b_min2, b_int, b_inb, b_tup, b_dm, b_srtk, i_lst, i_tup, i_scr, is_n, is_b, exists_eq_left', exists_eq_left, exists_eq_right, Option.some.injEq,  partD, setS, setAll, tgD, tgSlots, wipeE, List.set_cons_zero, List.set_cons_succ, List.set_nil, List.take_nil, List.take_zero, m_f, m_t, r_int, r_bl, r_str, r_non, r_tup, r_lstf, r_lstt, r_v, r_newf, r_newt, List.any_cons, List.any_nil, owned, Bool.or_false, Bool.false_or, fl_bl, fl_int, fl_str, fl_non, fl_rs, exists_eq', Ct.lst.injEq, Ct.ob.injEq, D.kst.injEq, List.take_succ_cons, dat_lst, dat_ob, dat_fz, Option.some.injEq, SV.d.injEq, D.int.injEq, forall_eq', reduceCtorEq, false_implies, forall_const, Bool.false_eq_true, List.set, true_or, if_true, if_false, Bool.not_true, Bool.not_false]
      exact h
end K09

namespace K09
open PySem L2 PD
theorem dot_cons {w p : Int} {ws ps : List Int} : dot (w :: ws) (p :: ps) = w * p + dot ws ps := by unfold dot; simp
theorem dot_set {w p v : Int} : ∀ {ws ps : List Int} {k : Nat}, ws[k]? = some w → ps[k]? = some p → dot ws (ps.set k v) = dot ws ps + w * (v - p)
  | [], _, _, h, _ => by simp at h
  | _ :: _, [], _, _, h => by simp at h
  | a :: ws, b :: ps, 0, h, h' => by
    simp at h h'
    subst h; subst h'
    rw [List.set_cons_zero, dot_cons, dot_cons, Int.mul_sub]
    omega
  | a :: ws, b :: ps, k + 1, h, h' => by
    rw [List.set_cons_succ, dot_cons, dot_cons, dot_set (ws := ws) (ps := ps) (k := k) (by simpa using h) (by simpa using h')]
    omega
/-- a row is good -/
def gB (m : Nat) (ws : List Int) (r : Int) (x : List Int) : Bool := (dot ws x - r) % (m : Int) == 0
/-- the letters that are left stay -/
def Keeps (cs ts : List Nat) (x : List Int) : Prop := ∀ k c : Nat, ts[k]? = some c → c ≠ 63 → x[k]? = some ((cs.idxOf c : Nat) : Int)
theorem zip_short {e : Nat} : ∀ {G : List Nat} {row : List Int}, row.length = G.length → (G ++ [e]).zip row = G.zip row
  | [], [], _ => rfl
  | [], _ :: _, h => by simp at h
  | _ :: _, [], h => by simp at h
  | a :: G, v :: row, h => by
    show (a, v) :: (G ++ [e]).zip row = (a, v) :: G.zip row
    rw [zip_short (by simpa using h)]
theorem base_gap {cs ts : List Nat} {k : Nat} (h0 : 0 < cs.length) (hk : k ∈ gaps ts) : (base cs ts)[k]? = some 0 := by
  obtain ⟨h1, h2⟩ := gaps_in.mp hk
  have h3 : ts[k]? = some 63 := by
    rw [List.getElem?_eq_getElem h1]
    rw [List.getD_eq_getElem?_getD, List.getElem?_eq_getElem h1] at h2
    simpa using h2
  unfold base plc fillQ
  rw [List.getElem?_map, List.getElem?_map, h3]
  cases cs with
  | nil => simp at h0
  | cons c cs => simp
theorem base_keep {cs ts : List Nat} {k c : Nat} (h : ts[k]? = some c) (hc : c ≠ 63) : (base cs ts)[k]? = some ((cs.idxOf c : Nat) : Int) := by
  unfold base plc fillQ
  rw [List.getElem?_map, List.getElem?_map, h]
  simp [hc]
theorem last_split {ts : List Nat} {e : Nat} (he : (gaps ts).getLast? = some e) : ∃ G, gaps ts = G ++ [e] ∧ (G ++ [e]).Pairwise (· < ·) ∧ G.length = gq ts - 1 ∧ ∀ a ∈ G, a < ts.length := by
  obtain ⟨G, hG⟩ := List.getLast?_eq_some_iff.mp he
  have l := gaps_len (ts := ts)
  rw [hG, List.length_append, List.length_singleton] at l
  refine ⟨G, hG, by rw [← hG]; exact gaps_up, by omega, fun a ha => ?_⟩
  exact (gaps_in.mp (by rw [hG]; exact List.mem_append_left _ ha)).1
theorem mid_form {cs ts G : List Nat} {e : Nat} {row : List Int} (hG : gaps ts = G ++ [e]) (hr : row.length = G.length) : midOf cs ts row = setZ (base cs ts) (G.zip row) := by
  unfold midOf
  rw [hG, zip_short hr]
theorem fits_one {cs ts : List Nat} {ws row : List Int} {r : Int} {e : Nat} (o : OkC cs ws r) (t : TOk cs ws.length ts) (he : (gaps ts).getLast? = some e) (hr : Lt row cs.length) (hl : row.length = gq ts - 1) :
    ∃ p : Nat, p < cs.length ∧ fits ws cs.length r (midOf cs ts row) e = [(midOf cs ts row).set e (p : Int)] ∧ gB cs.length ws r ((midOf cs ts row).set e (p : Int)) = true := by
  have c3 := o.c3
  have em := List.mem_of_getLast? he
  have ein := gaps_in.mp em
  have hw := getD_in (ps := ws) (i := e) (by rw [← t.len]; exact ein.1)
  obtain ⟨G, hG, up, gl, _⟩ := last_split he
  have m0 : (midOf cs ts row)[e]? = some 0 := by
    rw [mid_form hG (by omega), setZ_at fun p hp => ?_]
    · exact base_gap (by omega) em
    · have h1 := (List.of_mem_zip (a := p.1) (b := p.2) hp).1
      have h2 := (List.pairwise_append.mp up).2.2 p.1 h1 e (by simp)
      omega
  obtain ⟨i, hi, hf⟩ := pick_one (m := cs.length) (w := ws.getD e 0) (c := r - dot ws (midOf cs ts row)) (by omega) (o.safe e _ hw).1
  refine ⟨i, hi, by unfold fits fitsTo; rw [hf]; rfl, ?_⟩
  have hm : i ∈ [i] := by simp
  rw [← hf] at hm
  have h0 := Int.dvd_of_emod_eq_zero (of_decide_eq_true (List.mem_filter.mp hm).2)
  unfold gB
  rw [dot_set hw m0, beq_iff_eq]
  refine Int.emod_eq_zero_of_dvd ?_
  have h1 := Int.dvd_neg.mpr h0
  rw [Int.sub_zero]
  rwa [show -(r - dot ws (midOf cs ts row) - ws.getD e 0 * (i : Int)) = dot ws (midOf cs ts row) + ws.getD e 0 * (i : Int) - r by omega] at h1
theorem flat_one {α β : Type} {f : α → List β} : ∀ {xs : List α}, (∀ x ∈ xs, (f x).length = 1) → (xs.flatMap f).length = xs.length
  | [], _ => rfl
  | x :: xs, h => by
    rw [List.flatMap_cons, List.length_append, flat_one fun y hy => h y (List.mem_cons_of_mem _ hy), h x List.mem_cons_self, List.length_cons]; omega
theorem torn_all {cs ts : List Nat} {ws : List Int} {r : Int} {e : Nat} (o : OkC cs ws r) (t : TOk cs ws.length ts) (he : (gaps ts).getLast? = some e) :
    (allT cs ts ws r e).length = cs.length ^ (gq ts - 1) ∧ (allT cs ts ws r e).Pairwise (· < ·) ∧ ∀ x ∈ allT cs ts ws r e, Lt x cs.length ∧ x.length = ws.length ∧ gB cs.length ws r x = true ∧ Keeps cs ts x := by
  have c3 := o.c3
  have em := List.mem_of_getLast? he
  have ein := gaps_in.mp em
  obtain ⟨G, hG, up, gl, gin⟩ := last_split he
  have bl := base_len (cs := cs) (ts := ts)
  unfold allT
  refine ⟨?_, ?_, ?_⟩
  · rw [flat_one fun row hr => ?_, rowsOf_len]
    obtain ⟨rl, rP⟩ := rowsOf_row hr
    obtain ⟨p, _, h, _⟩ := fits_one o t he rP rl
    rw [h]; rfl
  · rw [List.pairwise_flatMap]
    refine ⟨fun row hr => ?_, ?_⟩
    · obtain ⟨rl, rP⟩ := rowsOf_row hr
      obtain ⟨p, _, h, _⟩ := fits_one o t he rP rl
      rw [h]; exact List.pairwise_singleton _ _
    · refine List.Pairwise.imp_of_mem ?_ (rowsOf_up (gq ts - 1))
      intro a b ha hb hab x hx y hy
      obtain ⟨al, aP⟩ := rowsOf_row ha
      obtain ⟨bl2, bP⟩ := rowsOf_row hb
      obtain ⟨p, _, h1, _⟩ := fits_one o t he aP al
      obtain ⟨q, _, h2, _⟩ := fits_one o t he bP bl2
      rw [h1] at hx
      rw [h2] at hy
      rw [List.mem_singleton] at hx hy
      subst hx hy
      rw [mid_form hG (by omega), mid_form hG (by omega)]
      exact setZ_up up (fun c hc => by rw [bl]; exact gin c hc) (by omega) (by omega) hab
  · intro x hx
    obtain ⟨row, hr, hx⟩ := List.mem_flatMap.mp hx
    obtain ⟨rl, rP⟩ := rowsOf_row hr
    obtain ⟨p, hp, h1, g⟩ := fits_one o t he rP rl
    rw [h1, List.mem_singleton] at hx
    subst hx
    have mP := mid_lt (row := row) (by omega) t rP
    refine ⟨mP.set (by omega) (by omega), by rw [List.length_set, setZ_len, bl, t.len], g, fun k c hk hc => ?_⟩
    have nk : k ∉ gaps ts := fun z => by
      have := (gaps_in.mp z).2
      rw [List.getD_eq_getElem?_getD, hk] at this
      exact hc this
    rw [List.getElem?_set_ne (fun z => nk (by rw [← z]; exact em)), setZ_at fun q hq z => nk ?_]
    · exact base_keep hk hc
    · rw [← z]
      exact (List.of_mem_zip (a := q.1) (b := q.2) hq).1
theorem last_gap {ts : List Nat} (h : 1 ≤ gq ts) : ∃ e, (gaps ts).getLast? = some e := by
  have l := gaps_len (ts := ts)
  have ne : gaps ts ≠ [] := fun z => by rw [z] at l; simp at l; omega
  exact ⟨_, List.getLast?_eq_some_getLast ne⟩
theorem pow_le {m g : Nat} (hm : m ≤ 26) (hg : g ≤ 3) : m ^ (g - 1) ≤ 676 :=
  Nat.le_trans (Nat.pow_le_pow_left hm _) (by rcases (show g - 1 = 0 ∨ g - 1 = 1 ∨ g - 1 = 2 by omega) with e | e | e <;> rw [e] <;> decide)
end K09

namespace K09
open PySem L2 PD
theorem s_lsum {n : Nat} {ws ps : List Int} {m : Int} {k z} (hm : m ≤ 26) (h1 : Lt ws m) (h2 : Lt ps m) (hl : ws.length ≤ 1000) (h : k (.v (.int (dot ws ps)))) : wpF fnT gcT (n+1) 33 [.lst (iL ws), .lst (iL ps)] k z := by
  unfold wpF
  simp only [f33, b33, fnT, startE, List.length_cons, List.length_nil, List.map_cons, List.map_nil, List.cons_append, List.nil_append, Nat.sub_self, Nat.reduceSub, Nat.reduceAdd, Nat.reduceLT, List.replicate_zero, List.reduceReplicate, List.replicate_succ, wpSs, wpS, wpE, wpEs, wpT, wpI, wpC, List.getElem?_cons_zero, List.getElem?_cons_succ, List.getElem?_nil, den, dens, back, true_and, and_true, nrmE, nrmT, frzSlots, cutV1, frzT, frzL, eq_ii, eq_bb, eq_ss, eq_nn, D.isNon, o_add, o_adds, o_addl, o_sub, o_addt, n_split, n_find, o_mul, o_rep, o_div, o_mod, o_pow, c_lt, c_le, c_gt, c_ge, c_lts, c_eq, c_ne, c_is, c_isnot, c_in, c_notin, t_bl, t_non, t_int, t_lst, t_tup, x_lst, x_tup, x_scr, x_str, u_lst, u_scr, u_str, b_lenl, b_lent, b_lenc, b_lens, b_abs, b_max2, b_min2, b_int, b_inb, b_tup, b_dm, b_srtk, i_lst, i_tup, i_scr, is_n, is_b, exists_eq_left', exists_eq_left, exists_eq_right, Option.some.injEq,  partD, setS, setAll, tgD, tgSlots, wipeE, List.set_cons_zero, List.set_cons_succ, List.set_nil, List.take_nil, List.take_zero, m_f, m_t, r_int, r_bl, r_str, r_non, r_tup, r_lstf, r_lstt, r_v, r_newf, r_newt, List.any_cons, List.any_nil, owned, Bool.or_false, Bool.false_or, fl_bl, fl_int, fl_str, fl_non, fl_rs, exists_eq', Ct.lst.injEq, Ct.ob.injEq, D.kst.injEq, List.take_succ_cons, dat_lst, dat_ob, dat_fz, Option.some.injEq, SV.d.injEq, D.int.injEq, forall_eq', reduceCtorEq, false_implies, forall_const, Bool.false_eq_true, List.set, true_or, if_true, if_false, Bool.not_true, Bool.not_false]
  refine ⟨fun i acc => acc = iL (((ws.zip ps).take i).map fun p => p.1 * p.2), rfl, ?_, ?_⟩
  · rintro i x acc hx rfl
    have hx2 : ∃ w v, ws[i]? = some w ∧ ps[i]? = some v ∧ x = .tup [.int w, .int v] := by
      simp only [List.getElem?_map, Option.map_eq_some_iff] at hx
      obtain ⟨⟨a, b⟩, e, rfl⟩ := hx
      rw [List.getElem?_zip_eq_some] at e
      simp only [List.getElem?_map, Option.map_eq_some_iff] at e
      obtain ⟨⟨w, e1, rfl⟩, ⟨v, e2, rfl⟩⟩ := e
      exact ⟨w, v, e1, e2, rfl⟩
    obtain ⟨w, v, e1, e2, rfl⟩ := hx2
    have hi := (List.getElem?_eq_some_iff.mp e1).1
    simp only [b33_0, fnT, startE, List.length_cons, List.length_nil, List.map_cons, List.map_nil, List.cons_append, List.nil_append, Nat.sub_self, Nat.reduceSub, Nat.reduceAdd, Nat.reduceLT, List.replicate_zero, List.reduceReplicate, List.replicate_succ, wpSs, wpS, wpE, wpEs, wpT, wpI, wpC, List.getElem?_cons_zero, List.getElem?_cons_succ, List.getElem?_nil, den, dens, back, true_and, and_true, nrmE, nrmT, frzSlots, cutV1, frzT, frzL, eq_ii, eq_bb, eq_ss, eq_nn, D.isNon, o_add, o_adds, o_addl, o_sub, o_addt, n_split, n_find, o_mul, o_rep, o_div, o_mod, o_pow, c_lt, c_le, c_gt, c_ge, c_lts, c_eq, c_ne, c_is, c_isnot, c_in, c_notin, t_bl, t_non, t_int, t_lst, t_tup, x_lst, x_tup, x_scr, x_str, u_lst, u_scr, u_str, b_lenl, b_lent, b_lenc, b_lens, b_abs, b_max2, b_min2, b_int, b_inb, b_tup, b_dm, b_srtk, i_lst, i_tup, i_scr, is_n, is_b, exists_eq_left', exists_eq_left, exists_eq_right, Option.some.injEq,  partD, setS, setAll, tgD, tgSlots, wipeE, List.set_cons_zero, List.set_cons_succ, List.set_nil, List.take_nil, List.take_zero, m_f, m_t, r_int, r_bl, r_str, r_non, r_tup, r_lstf, r_lstt, r_v, r_newf, r_newt, List.any_cons, List.any_nil, owned, Bool.or_false, Bool.false_or, fl_bl, fl_int, fl_str, fl_non, fl_rs, exists_eq', Ct.lst.injEq, Ct.ob.injEq, D.kst.injEq, List.take_succ_cons, dat_lst, dat_ob, dat_fz, Option.some.injEq, SV.d.injEq, D.int.injEq, forall_eq', reduceCtorEq, false_implies, forall_const, Bool.false_eq_true, List.set, true_or, if_true, if_false, Bool.not_true, Bool.not_false]
    refine ⟨mul_lt (ws := ws) hm (h1 w (List.mem_of_getElem? e1)) (h2 v (List.mem_of_getElem? e2)), sizeLine_lt (by simp; omega), ?_⟩
    have ez : (ws.zip ps)[i]? = some (w, v) := by rw [List.getElem?_zip_eq_some]; exact ⟨e1, e2⟩
    rw [List.take_add_one, ez, app_ints]
    simp
  · rintro acc rfl
    have e : ((iL ws).zip (iL ps)).length = (ws.zip ps).length := by simp
    rw [List.length_map, show ((ws.map D.int).zip (ps.map D.int)).length = (ws.zip ps).length by simp]
    refine ⟨_, rfl, ?_⟩
    simp only [fnT, startE, List.length_cons, List.length_nil, List.map_cons, List.map_nil, List.cons_append, List.nil_append, Nat.sub_self, Nat.reduceSub, Nat.reduceAdd, Nat.reduceLT, List.replicate_zero, List.reduceReplicate, List.replicate_succ, wpSs, wpS, wpE, wpEs, wpT, wpI, wpC, List.getElem?_cons_zero, List.getElem?_cons_succ, List.getElem?_nil, den, dens, back, true_and, and_true, nrmE, nrmT, frzSlots, cutV1, frzT, frzL, eq_ii, eq_bb, eq_ss, eq_nn, D.isNon, o_add, o_adds, o_addl, o_sub, o_addt, n_split, n_find, o_mul, o_rep, o_div, o_mod, o_pow, c_lt, c_le, c_gt, c_ge, c_lts, c_eq, c_ne, c_is, c_isnot, c_in, c_notin, t_bl, t_non, t_int, t_lst, t_tup, x_lst, x_tup, x_scr, x_str, u_lst, u_scr, u_str, b_lenl, b_lent, b_lenc, b_lens, b_abs, b_max2, b_min2, b_int, b_inb, b_tup, b_dm, b_srtk, i_lst, i_tup, i_scr, is_n, is_b, exists_eq_left', exists_eq_left, exists_eq_right, Option.some.injEq,  partD, setS, setAll, tgD, tgSlots, wipeE, List.set_cons_zero, List.set_cons_succ, List.set_nil, List.take_nil, List.take_zero, m_f, m_t, r_int, r_bl, r_str, r_non, r_tup, r_lstf, r_lstt, r_v, r_newf, r_newt, List.any_cons, List.any_nil, owned, Bool.or_false, Bool.false_or, fl_bl, fl_int, fl_str, fl_non, fl_rs, exists_eq', Ct.lst.injEq, Ct.ob.injEq, D.kst.injEq, List.take_succ_cons, dat_lst, dat_ob, dat_fz, Option.some.injEq, SV.d.injEq, D.int.injEq, forall_eq', reduceCtorEq, false_implies, forall_const, Bool.false_eq_true, List.set, true_or, if_true, if_false, Bool.not_true, Bool.not_false]
    rw [List.take_length]
    exact h
theorem app_sL {a b : List Nat} : sL a ++ sL b = sL (a ++ b) := by
  show (⟨a.toArray ++ b.toArray⟩ : Str) = ⟨(a ++ b).toArray⟩
  simp
theorem ch_sL {c : Nat} : (⟨#[c]⟩ : Str) = sL [c] := rfl
theorem gq_cons {x : Nat} {ts : List Nat} : gq (x :: ts) = (if x = 63 then 1 else 0) + gq ts := by
  unfold gq
  by_cases h : x = 63
  · subst h; simp; omega
  · simp [h]
theorem gq_set : ∀ {ts : List Nat} {a : Nat}, a < ts.length → 1 ≤ gq (ts.set a 63) ∧ gq (ts.set a 63) ≤ gq ts + 1
  | [], _, h => by simp at h
  | x :: ts, 0, _ => by
    rw [List.set_cons_zero, gq_cons, gq_cons, if_pos rfl]
    omega
  | x :: ts, a + 1, h => by
    have ih := gq_set (ts := ts) (a := a) (by simpa using h)
    rw [List.set_cons_succ, gq_cons, gq_cons]
    omega
theorem gq_zero {us : List Nat} (h : ∀ c ∈ us, c ≠ 63) : gq us = 0 := by
  unfold gq
  rw [List.length_eq_zero_iff, List.filter_eq_nil_iff]
  intro c hc
  simpa using h c hc
theorem set_form {α : Type} {xs : List α} {k : Nat} {v : α} (hk : k < xs.length) : xs.take k ++ [v] ++ xs.drop (k + 1) = xs.set k v := by
  rw [List.set_eq_take_append_cons_drop, if_pos hk]
  simp
theorem s_torn {n : Nat} {c : Int} {cs us : List Nat} {many : Int} {k z} (u3 : 3 ≤ us.length) (u8 : us.length ≤ 8) (hu : ∀ x ∈ us, x ∈ cs) (n63 : (63 : Nat) ∉ cs) (m1 : 1 ≤ many) (m3 : many ≤ 3) (h : ∀ ts, TOk cs us.length ts → k (.v (.str (sL ts)))) : wpF fnT gcT (n+3) 37 [.int c, .str (sL us), .int many] k z := by
  have up : (0 : Int) < us.length := by omega
  unfold wpF
  simp only [f37, b37, fnT, startE, List.length_cons, List.length_nil, List.map_cons, List.map_nil, List.cons_append, List.nil_append, Nat.sub_self, Nat.reduceSub, Nat.reduceAdd, Nat.reduceLT, List.replicate_zero, List.reduceReplicate, List.replicate_succ, wpSs, wpS, wpE, wpEs, wpT, wpI, wpC, List.getElem?_cons_zero, List.getElem?_cons_succ, List.getElem?_nil, den, dens, back, true_and, and_true, nrmE, nrmT, frzSlots, cutV1, frzT, frzL, eq_ii, eq_bb, eq_ss, eq_nn, D.isNon, o_add, o_adds, o_addl, o_sub, o_addt, n_split, n_find, o_mul, o_rep, o_div, o_mod, o_pow, c_lt, c_le, c_gt, c_ge, c_lts, c_eq, c_ne, c_is, c_isnot, c_in, c_notin, t_bl, t_non, t_int, t_lst, t_tup, x_lst, x_tup, x_scr, x_str, u_lst, u_scr, u_str, b_lenl, b_lent, b_lenc, b_lens, b_abs, b_max2, b_min2, b_int, b_inb, b_tup, b_dm, b_srtk, i_lst, i_tup, i_scr, is_n, is_b, exists_eq_left', exists_eq_left, exists_eq_right, Option.some.injEq,  partD, setS, setAll, tgD, tgSlots, wipeE, List.set_cons_zero, List.set_cons_succ, List.set_nil, List.take_nil, List.take_zero, m_f, m_t, r_int, r_bl, r_str, r_non, r_tup, r_lstf, r_lstt, r_v, r_newf, r_newt, List.any_cons, List.any_nil, owned, Bool.or_false, Bool.false_or, fl_bl, fl_int, fl_str, fl_non, fl_rs, exists_eq', Ct.lst.injEq, Ct.ob.injEq, D.kst.injEq, List.take_succ_cons, dat_lst, dat_ob, dat_fz, Option.some.injEq, SV.d.injEq, D.int.injEq, forall_eq', reduceCtorEq, false_implies, forall_const, Bool.false_eq_true, List.set, true_or, if_true, if_false, Bool.not_true, Bool.not_false]
  refine ⟨by omega, by omega, fun i e l => l = [] ∧ ∃ ts, ∃ x4 x5 : Option D, e = [some (.d (.int c)), some (.d (.str (sL us))), some (.d (.int many)), some (.d (.str (sL ts))), x4.map SV.d, x5.map SV.d] ∧ ts.length = us.length ∧ (∀ x ∈ ts, x = 63 ∨ x ∈ cs) ∧ gq ts ≤ i ∧ (1 ≤ i → 1 ≤ gq ts), ⟨rfl, us, none, none, rfl, rfl, fun x hx => .inr (hu x hx), by rw [gq_zero fun x hx e => n63 (by rw [← e]; exact hu x hx)]; omega, by omega⟩, ?_, ?_⟩
  · rintro i x e l hx ⟨rfl, ts, x4, x5, rfl, tl, tm, g1, g2⟩
    obtain ⟨hi, rfl⟩ := rng_it hx
    simp only [b37_0, cutM, fnT, startE, List.length_cons, List.length_nil, List.map_cons, List.map_nil, List.cons_append, List.nil_append, Nat.sub_self, Nat.reduceSub, Nat.reduceAdd, Nat.reduceLT, List.replicate_zero, List.reduceReplicate, List.replicate_succ, wpSs, wpS, wpE, wpEs, wpT, wpI, wpC, List.getElem?_cons_zero, List.getElem?_cons_succ, List.getElem?_nil, den, dens, back, true_and, and_true, nrmE, nrmT, frzSlots, cutV1, frzT, frzL, eq_ii, eq_bb, eq_ss, eq_nn, D.isNon, o_add, o_adds, o_addl, o_sub, o_addt, n_split, n_find, o_mul, o_rep, o_div, o_mod, o_pow, c_lt, c_le, c_gt, c_ge, c_lts, c_eq, c_ne, c_is, c_isnot, c_in, c_notin, t_bl, t_non, t_int, t_lst, t_tup, x_lst, x_tup, x_scr, x_str, u_lst, u_scr, u_str, b_lenl, b_lent, b_lenc, b_lens, b_abs, b_max2, b_min2, b_int, b_inb, b_tup, b_dm, b_srtk, i_lst, i_tup, i_scr, is_n, is_b, exists_eq_left', exists_eq_left, exists_eq_right, Option.some.injEq,  partD, setS, setAll, tgD, tgSlots, wipeE, List.set_cons_zero, List.set_cons_succ, List.set_nil, List.take_nil, List.take_zero, m_f, m_t, r_int, r_bl, r_str, r_non, r_tup, r_lstf, r_lstt, r_v, r_newf, r_newt, List.any_cons, List.any_nil, owned, Bool.or_false, Bool.false_or, fl_bl, fl_int, fl_str, fl_non, fl_rs, exists_eq', Ct.lst.injEq, Ct.ob.injEq, D.kst.injEq, List.take_succ_cons, dat_lst, dat_ob, dat_fz, Option.some.injEq, SV.d.injEq, D.int.injEq, forall_eq', reduceCtorEq, false_implies, forall_const, Bool.false_eq_true, List.set, true_or, if_true, if_false, Bool.not_true, Bool.not_false]
    refine s_mixed (by omega) (by omega) fun v v0 v1 => ?_
    simp only [len_sL, cutM, fnT, startE, List.length_cons, List.length_nil, List.map_cons, List.map_nil, List.cons_append, List.nil_append, Nat.sub_self, Nat.reduceSub, Nat.reduceAdd, Nat.reduceLT, List.replicate_zero, List.reduceReplicate, List.replicate_succ, wpSs, wpS, wpE, wpEs, wpT, wpI, wpC, List.getElem?_cons_zero, List.getElem?_cons_succ, List.getElem?_nil, den, dens, back, true_and, and_true, nrmE, nrmT, frzSlots, cutV1, frzT, frzL, eq_ii, eq_bb, eq_ss, eq_nn, D.isNon, o_add, o_adds, o_addl, o_sub, o_addt, n_split, n_find, o_mul, o_rep, o_div, o_mod, o_pow, c_lt, c_le, c_gt, c_ge, c_lts, c_eq, c_ne, c_is, c_isnot, c_in, c_notin, t_bl, t_non, t_int, t_lst, t_tup, x_lst, x_tup, x_scr, x_str, u_lst, u_scr, u_str, b_lenl, b_lent, b_lenc, b_lens, b_abs, b_max2, b_min2, b_int, b_inb, b_tup, b_dm, b_srtk, i_lst, i_tup, i_scr, is_n, is_b, exists_eq_left', exists_eq_left, exists_eq_right, Option.some.injEq,  partD, setS, setAll, tgD, tgSlots, wipeE, List.set_cons_zero, List.set_cons_succ, List.set_nil, List.take_nil, List.take_zero, m_f, m_t, r_int, r_bl, r_str, r_non, r_tup, r_lstf, r_lstt, r_v, r_newf, r_newt, List.any_cons, List.any_nil, owned, Bool.or_false, Bool.false_or, fl_bl, fl_int, fl_str, fl_non, fl_rs, exists_eq', Ct.lst.injEq, Ct.ob.injEq, D.kst.injEq, List.take_succ_cons, dat_lst, dat_ob, dat_fz, Option.some.injEq, SV.d.injEq, D.int.injEq, forall_eq', reduceCtorEq, false_implies, forall_const, Bool.false_eq_true, List.set, true_or, if_true, if_false, Bool.not_true, Bool.not_false]
    have a0 := Int.emod_nonneg v (Int.ne_of_gt up)
    have a1 := Int.emod_lt_of_pos v up
    generalize hat : v % (us.length : Int) = at_ at *
    obtain ⟨a, rfl⟩ : ∃ a : Nat, at_ = (a : Int) := ⟨at_.toNat, by omega⟩
    have e1 : ((a : Int) + 1) = ((a + 1 : Nat) : Int) := by omega
    have gs := gq_set (ts := ts) (a := a) (by omega)
    rw [cutS_L, cutS_L, e1, cut_take, cut_drop, show (Str.ofString "?") = sL [63] from rfl, app_sL, app_sL, set_form (by omega)]
    refine ⟨sizeLine_big (by omega), up, ?_⟩
    refine ⟨sizeLine_big (by omega), sizeLine_big (by ((try simp only [len_sL, List.length_append, List.length_cons, List.length_nil, List.length_take, List.length_drop, List.length_map]); omega)), sizeLine_big (by omega), sizeLine_big (by ((try simp only [len_sL, List.length_append, List.length_cons, List.length_nil, List.length_take, List.length_drop, List.length_map]); omega)), ts.set a 63, some _, some _, rfl, by rw [List.length_set]; exact tl, fun x hx => ?_, by omega, fun _ => gs.1⟩
    rcases List.mem_or_eq_of_mem_set hx with q | q
    · exact tm x q
    · exact .inl q
  · rintro e l ⟨rfl, ts, x4, x5, rfl, tl, tm, g1, g2⟩
    rw [rng_len] at g1 g2
    simp only [fnT, startE, List.length_cons, List.length_nil, List.map_cons, List.map_nil, List.cons_append, List.nil_append, Nat.sub_self, Nat.reduceSub, Nat.reduceAdd, Nat.reduceLT, List.replicate_zero, List.reduceReplicate, List.replicate_succ, wpSs, wpS, wpE, wpEs, wpT, wpI, wpC, List.getElem?_cons_zero, List.getElem?_cons_succ, List.getElem?_nil, den, dens, back, true_and, and_true, nrmE, nrmT, frzSlots, cutV1, frzT, frzL, eq_ii, eq_bb, eq_ss, eq_nn, D.isNon, o_add, o_adds, o_addl, o_sub, o_addt, n_split, n_find, o_mul, o_rep, o_div, o_mod, o_pow, c_lt, c_le, c_gt, c_ge, c_lts, c_eq, c_ne, c_is, c_isnot, c_in, c_notin, t_bl, t_non, t_int, t_lst, t_tup, x_lst, x_tup, x_scr, x_str, u_lst, u_scr, u_str, b_lenl, b_lent, b_lenc, b_lens, b_abs, b_max2, b_min2, b_int, b_inb, b_tup, b_dm, b_srtk, i_lst, i_tup, i_scr, is_n, is_b, exists_eq_left', exists_eq_left, exists_eq_right, Option.some.injEq,  partD, setS, setAll, tgD, tgSlots, wipeE, List.set_cons_zero, List.set_cons_succ, List.set_nil, List.take_nil, List.take_zero, m_f, m_t, r_int, r_bl, r_str, r_non, r_tup, r_lstf, r_lstt, r_v, r_newf, r_newt, List.any_cons, List.any_nil, owned, Bool.or_false, Bool.false_or, fl_bl, fl_int, fl_str, fl_non, fl_rs, exists_eq', Ct.lst.injEq, Ct.ob.injEq, D.kst.injEq, List.take_succ_cons, dat_lst, dat_ob, dat_fz, Option.some.injEq, SV.d.injEq, D.int.injEq, forall_eq', reduceCtorEq, false_implies, forall_const, Bool.false_eq_true, List.set, true_or, if_true, if_false, Bool.not_true, Bool.not_false]
    exact h ts ⟨tl, tm, g2 (by omega), by omega⟩
theorem torn_len {cs us : List Nat} {len : Nat} (h : us.length ≠ len) : tornB cs len (.str (sL us)) = false := by
  simp only [tornB, wordD, len_sL, list_sL, fillQ_len, beq_eq_false_iff_ne.mpr h, Bool.false_and, Bool.and_false]
theorem torn_no {cs us : List Nat} {len c : Nat} (h : c ∈ us) (h2 : c ∉ cs) (h3 : c ≠ 63) : tornB cs len (.str (sL us)) = false := by
  simp only [tornB, wordD, len_sL, list_sL]
  have : ((fillQ (cs.getD 0 0) us).all fun c => decide (c ∈ cs)) = false := by
    rw [List.all_eq_false]
    exact ⟨c, by unfold fillQ; exact List.mem_map.mpr ⟨c, h, if_neg h3⟩, by simpa using h2⟩
  rw [this, Bool.and_false, Bool.and_false]
theorem torn_g0 {cs us : List Nat} {len : Nat} (h : gq us = 0) : tornB cs len (.str (sL us)) = false := by
  simp only [tornB, list_sL]
  rw [decide_eq_false (by omega), Bool.false_and, Bool.false_and]
theorem torn_g4 {cs us : List Nat} {len : Nat} (h : 4 ≤ gq us) : tornB cs len (.str (sL us)) = false := by
  simp only [tornB, list_sL]
  rw [decide_eq_false (p := gq us ≤ 3) (by omega), Bool.and_false, Bool.false_and]
theorem ch_ne {a b : Nat} : ((ch a : Str) == ch b) = decide (a = b) := by
  by_cases q : a = b
  · subst q; simp
  · rw [decide_eq_false q, beq_eq_false_iff_ne]
    intro e
    have := congrArg (fun s : Str => s.cps.toList) e
    exact q (by simpa using this)
theorem s_foreign {n : Nat} {c : Nat} {ts : List Nat} {k z} (hl : ts.length ≤ 8) (h : ∀ vs : List Nat, vs.length ≤ 9 → c ∈ vs → k (.v (.str (sL vs)))) : wpF fnT gcT (n+1) 38 [.str (sL ts), .str (sL [c])] k z := by
  unfold wpF
  simp only [f38, b38, len_sL, fnT, startE, List.length_cons, List.length_nil, List.map_cons, List.map_nil, List.cons_append, List.nil_append, Nat.sub_self, Nat.reduceSub, Nat.reduceAdd, Nat.reduceLT, List.replicate_zero, List.reduceReplicate, List.replicate_succ, wpSs, wpS, wpE, wpEs, wpT, wpI, wpC, List.getElem?_cons_zero, List.getElem?_cons_succ, List.getElem?_nil, den, dens, back, true_and, and_true, nrmE, nrmT, frzSlots, cutV1, frzT, frzL, eq_ii, eq_bb, eq_ss, eq_nn, D.isNon, o_add, o_adds, o_addl, o_sub, o_addt, n_split, n_find, o_mul, o_rep, o_div, o_mod, o_pow, c_lt, c_le, c_gt, c_ge, c_lts, c_eq, c_ne, c_is, c_isnot, c_in, c_notin, t_bl, t_non, t_int, t_lst, t_tup, x_lst, x_tup, x_scr, x_str, u_lst, u_scr, u_str, b_lenl, b_lent, b_lenc, b_lens, b_abs, b_max2, b_min2, b_int, b_inb, b_tup, b_dm, b_srtk, i_lst, i_tup, i_scr, is_n, is_b, exists_eq_left', exists_eq_left, exists_eq_right, Option.some.injEq,  partD, setS, setAll, tgD, tgSlots, wipeE, List.set_cons_zero, List.set_cons_succ, List.set_nil, List.take_nil, List.take_zero, m_f, m_t, r_int, r_bl, r_str, r_non, r_tup, r_lstf, r_lstt, r_v, r_newf, r_newt, List.any_cons, List.any_nil, owned, Bool.or_false, Bool.false_or, fl_bl, fl_int, fl_str, fl_non, fl_rs, exists_eq', Ct.lst.injEq, Ct.ob.injEq, D.kst.injEq, List.take_succ_cons, dat_lst, dat_ob, dat_fz, Option.some.injEq, SV.d.injEq, D.int.injEq, forall_eq', reduceCtorEq, false_implies, forall_const, Bool.false_eq_true, List.set, true_or, if_true, if_false, Bool.not_true, Bool.not_false]
  refine ⟨sizeLine_big (by omega), by omega, by omega, fun i e l => l = [] ∧ ∃ x2 : Option D, e = [some (.d (.str (sL ts))), some (.d (.str (sL [c]))), x2.map SV.d], ⟨rfl, none, rfl⟩, ?_, ?_⟩
  · rintro i x e l hx ⟨rfl, x2, rfl⟩
    obtain ⟨hi, rfl⟩ := rng_it hx
    rw [Int.toNat_natCast] at hi
    have h0 : ts[i]? = some ts[i] := List.getElem?_eq_getElem hi
    generalize ts[i] = d at h0
    have a0 : atI ts (i : Int) = some d := getl h0
    simp only [b38_0, list_sL, a0, fnT, startE, List.length_cons, List.length_nil, List.map_cons, List.map_nil, List.cons_append, List.nil_append, Nat.sub_self, Nat.reduceSub, Nat.reduceAdd, Nat.reduceLT, List.replicate_zero, List.reduceReplicate, List.replicate_succ, wpSs, wpS, wpE, wpEs, wpT, wpI, wpC, List.getElem?_cons_zero, List.getElem?_cons_succ, List.getElem?_nil, den, dens, back, true_and, and_true, nrmE, nrmT, frzSlots, cutV1, frzT, frzL, eq_ii, eq_bb, eq_ss, eq_nn, D.isNon, o_add, o_adds, o_addl, o_sub, o_addt, n_split, n_find, o_mul, o_rep, o_div, o_mod, o_pow, c_lt, c_le, c_gt, c_ge, c_lts, c_eq, c_ne, c_is, c_isnot, c_in, c_notin, t_bl, t_non, t_int, t_lst, t_tup, x_lst, x_tup, x_scr, x_str, u_lst, u_scr, u_str, b_lenl, b_lent, b_lenc, b_lens, b_abs, b_max2, b_min2, b_int, b_inb, b_tup, b_dm, b_srtk, i_lst, i_tup, i_scr, is_n, is_b, exists_eq_left', exists_eq_left, exists_eq_right, Option.some.injEq,  partD, setS, setAll, tgD, tgSlots, wipeE, List.set_cons_zero, List.set_cons_succ, List.set_nil, List.take_nil, List.take_zero, m_f, m_t, r_int, r_bl, r_str, r_non, r_tup, r_lstf, r_lstt, r_v, r_newf, r_newt, List.any_cons, List.any_nil, owned, Bool.or_false, Bool.false_or, fl_bl, fl_int, fl_str, fl_non, fl_rs, exists_eq', Ct.lst.injEq, Ct.ob.injEq, D.kst.injEq, List.take_succ_cons, dat_lst, dat_ob, dat_fz, Option.some.injEq, SV.d.injEq, D.int.injEq, forall_eq', reduceCtorEq, false_implies, forall_const, Bool.false_eq_true, List.set, true_or, if_true, if_false, Bool.not_true, Bool.not_false]
    have e1 : ((i : Int) + 1) = ((i + 1 : Nat) : Int) := by omega
    rw [e1]
    refine ⟨d, sizeLine_big (by rw [len_sL]; omega), rfl, fun _ => ?_, fun _ => ⟨some _, rfl⟩⟩
    rw [cutS_L, cutS_L, cut_take, cut_drop, app_sL, app_sL]
    exact ⟨sizeLine_big (by ((try simp only [len_sL, List.length_append, List.length_cons, List.length_nil, List.length_take, List.length_drop, List.length_map]); omega)), sizeLine_big (by ((try simp only [len_sL, List.length_append, List.length_cons, List.length_nil, List.length_take, List.length_drop, List.length_map]); omega)), sizeLine_big (by ((try simp only [len_sL, List.length_append, List.length_cons, List.length_nil, List.length_take, List.length_drop, List.length_map]); omega)), sizeLine_big (by ((try simp only [len_sL, List.length_append, List.length_cons, List.length_nil, List.length_take, List.length_drop, List.length_map]); omega)), h _ (by ((try simp only [len_sL, List.length_append, List.length_cons, List.length_nil, List.length_take, List.length_drop, List.length_map]); omega)) (by simp)⟩
  · rintro e l ⟨rfl, x2, rfl⟩
    simp only [app_sL, len_sL, fnT, startE, List.length_cons, List.length_nil, List.map_cons, List.map_nil, List.cons_append, List.nil_append, Nat.sub_self, Nat.reduceSub, Nat.reduceAdd, Nat.reduceLT, List.replicate_zero, List.reduceReplicate, List.replicate_succ, wpSs, wpS, wpE, wpEs, wpT, wpI, wpC, List.getElem?_cons_zero, List.getElem?_cons_succ, List.getElem?_nil, den, dens, back, true_and, and_true, nrmE, nrmT, frzSlots, cutV1, frzT, frzL, eq_ii, eq_bb, eq_ss, eq_nn, D.isNon, o_add, o_adds, o_addl, o_sub, o_addt, n_split, n_find, o_mul, o_rep, o_div, o_mod, o_pow, c_lt, c_le, c_gt, c_ge, c_lts, c_eq, c_ne, c_is, c_isnot, c_in, c_notin, t_bl, t_non, t_int, t_lst, t_tup, x_lst, x_tup, x_scr, x_str, u_lst, u_scr, u_str, b_lenl, b_lent, b_lenc, b_lens, b_abs, b_max2, b_min2, b_int, b_inb, b_tup, b_dm, b_srtk, i_lst, i_tup, i_scr, is_n, is_b, exists_eq_left', exists_eq_left, exists_eq_right, Option.some.injEq,  partD, setS, setAll, tgD, tgSlots, wipeE, List.set_cons_zero, List.set_cons_succ, List.set_nil, List.take_nil, List.take_zero, m_f, m_t, r_int, r_bl, r_str, r_non, r_tup, r_lstf, r_lstt, r_v, r_newf, r_newt, List.any_cons, List.any_nil, owned, Bool.or_false, Bool.false_or, fl_bl, fl_int, fl_str, fl_non, fl_rs, exists_eq', Ct.lst.injEq, Ct.ob.injEq, D.kst.injEq, List.take_succ_cons, dat_lst, dat_ob, dat_fz, Option.some.injEq, SV.d.injEq, D.int.injEq, forall_eq', reduceCtorEq, false_implies, forall_const, Bool.false_eq_true, List.set, true_or, if_true, if_false, Bool.not_true, Bool.not_false]
    exact ⟨sizeLine_big (by ((try simp only [len_sL, List.length_append, List.length_cons, List.length_nil, List.length_take, List.length_drop, List.length_map]); omega)), h _ (by simp; omega) (by simp)⟩
theorem s_fitting_bad {n : Nat} {cs : List Nat} {ws : List Int} {r : Int} {x : D} {k z} (o : OkC cs ws r) (hx : plainD x = true) (hs : shortD x = true) (g : tornB cs ws.length x = false) (hz : z (0, none)) : wpF fnT gcT (n+4) 5 [codeD cs ws r, x] k z := by
  unfold wpF
  simp only [f5, b5, fnT, startE, List.length_cons, List.length_nil, List.map_cons, List.map_nil, List.cons_append, List.nil_append, Nat.sub_self, Nat.reduceSub, Nat.reduceAdd, Nat.reduceLT, List.replicate_zero, List.reduceReplicate, List.replicate_succ, wpSs, wpS, wpE, wpEs, wpT, wpI, wpC, List.getElem?_cons_zero, List.getElem?_cons_succ, List.getElem?_nil, den, dens, back, true_and, and_true, nrmE, nrmT, frzSlots, cutV1, frzT, frzL, eq_ii, eq_bb, eq_ss, eq_nn, D.isNon, o_add, o_adds, o_addl, o_sub, o_addt, n_split, n_find, o_mul, o_rep, o_div, o_mod, o_pow, c_lt, c_le, c_gt, c_ge, c_lts, c_eq, c_ne, c_is, c_isnot, c_in, c_notin, t_bl, t_non, t_int, t_lst, t_tup, x_lst, x_tup, x_scr, x_str, u_lst, u_scr, u_str, b_lenl, b_lent, b_lenc, b_lens, b_abs, b_max2, b_min2, b_int, b_inb, b_tup, b_dm, b_srtk, i_lst, i_tup, i_scr, is_n, is_b, exists_eq_left', exists_eq_left, exists_eq_right, Option.some.injEq,  partD, setS, setAll, tgD, tgSlots, wipeE, List.set_cons_zero, List.set_cons_succ, List.set_nil, List.take_nil, List.take_zero, m_f, m_t, r_int, r_bl, r_str, r_non, r_tup, r_lstf, r_lstt, r_v, r_newf, r_newt, List.any_cons, List.any_nil, owned, Bool.or_false, Bool.false_or, fl_bl, fl_int, fl_str, fl_non, fl_rs, exists_eq', Ct.lst.injEq, Ct.ob.injEq, D.kst.injEq, List.take_succ_cons, dat_lst, dat_ob, dat_fz, Option.some.injEq, SV.d.injEq, D.int.injEq, forall_eq', reduceCtorEq, false_implies, forall_const, Bool.false_eq_true, List.set, true_or, if_true, if_false, Bool.not_true, Bool.not_false]
  refine s_is_torn o hx hs ?_
  rw [g]
  simp only [fnT, startE, List.length_cons, List.length_nil, List.map_cons, List.map_nil, List.cons_append, List.nil_append, Nat.sub_self, Nat.reduceSub, Nat.reduceAdd, Nat.reduceLT, List.replicate_zero, List.reduceReplicate, List.replicate_succ, wpSs, wpS, wpE, wpEs, wpT, wpI, wpC, List.getElem?_cons_zero, List.getElem?_cons_succ, List.getElem?_nil, den, dens, back, true_and, and_true, nrmE, nrmT, frzSlots, cutV1, frzT, frzL, eq_ii, eq_bb, eq_ss, eq_nn, D.isNon, o_add, o_adds, o_addl, o_sub, o_addt, n_split, n_find, o_mul, o_rep, o_div, o_mod, o_pow, c_lt, c_le, c_gt, c_ge, c_lts, c_eq, c_ne, c_is, c_isnot, c_in, c_notin, t_bl, t_non, t_int, t_lst, t_tup, x_lst, x_tup, x_scr, x_str, u_lst, u_scr, u_str, b_lenl, b_lent, b_lenc, b_lens, b_abs, b_max2, b_min2, b_int, b_inb, b_tup, b_dm, b_srtk, i_lst, i_tup, i_scr, is_n, is_b, exists_eq_left', exists_eq_left, exists_eq_right, Option.some.injEq,  partD, setS, setAll, tgD, tgSlots, wipeE, List.set_cons_zero, List.set_cons_succ, List.set_nil, List.take_nil, List.take_zero, m_f, m_t, r_int, r_bl, r_str, r_non, r_tup, r_lstf, r_lstt, r_v, r_newf, r_newt, List.any_cons, List.any_nil, owned, Bool.or_false, Bool.false_or, fl_bl, fl_int, fl_str, fl_non, fl_rs, exists_eq', Ct.lst.injEq, Ct.ob.injEq, D.kst.injEq, List.take_succ_cons, dat_lst, dat_ob, dat_fz, Option.some.injEq, SV.d.injEq, D.int.injEq, forall_eq', reduceCtorEq, false_implies, forall_const, Bool.false_eq_true, List.set, true_or, if_true, if_false, Bool.not_true, Bool.not_false]
  exact hz
theorem s_refused {n : Nat} {cs : List Nat} {ws : List Int} {r : Int} {x : D} {k z} (o : OkC cs ws r) (hx : plainD x = true) (hs : shortD x = true) (g : tornB cs ws.length x = false) (h : k (.v (.bl true))) : wpF fnT gcT (n+5) 40 [codeD cs ws r, x] k z := by
  unfold wpF
  simp only [f40, b40, fnT, startE, List.length_cons, List.length_nil, List.map_cons, List.map_nil, List.cons_append, List.nil_append, Nat.sub_self, Nat.reduceSub, Nat.reduceAdd, Nat.reduceLT, List.replicate_zero, List.reduceReplicate, List.replicate_succ, wpSs, wpS, wpE, wpEs, wpT, wpI, wpC, List.getElem?_cons_zero, List.getElem?_cons_succ, List.getElem?_nil, den, dens, back, true_and, and_true, nrmE, nrmT, frzSlots, cutV1, frzT, frzL, eq_ii, eq_bb, eq_ss, eq_nn, D.isNon, o_add, o_adds, o_addl, o_sub, o_addt, n_split, n_find, o_mul, o_rep, o_div, o_mod, o_pow, c_lt, c_le, c_gt, c_ge, c_lts, c_eq, c_ne, c_is, c_isnot, c_in, c_notin, t_bl, t_non, t_int, t_lst, t_tup, x_lst, x_tup, x_scr, x_str, u_lst, u_scr, u_str, b_lenl, b_lent, b_lenc, b_lens, b_abs, b_max2, b_min2, b_int, b_inb, b_tup, b_dm, b_srtk, i_lst, i_tup, i_scr, is_n, is_b, exists_eq_left', exists_eq_left, exists_eq_right, Option.some.injEq,  partD, setS, setAll, tgD, tgSlots, wipeE, List.set_cons_zero, List.set_cons_succ, List.set_nil, List.take_nil, List.take_zero, m_f, m_t, r_int, r_bl, r_str, r_non, r_tup, r_lstf, r_lstt, r_v, r_newf, r_newt, List.any_cons, List.any_nil, owned, Bool.or_false, Bool.false_or, fl_bl, fl_int, fl_str, fl_non, fl_rs, exists_eq', Ct.lst.injEq, Ct.ob.injEq, D.kst.injEq, List.take_succ_cons, dat_lst, dat_ob, dat_fz, Option.some.injEq, SV.d.injEq, D.int.injEq, forall_eq', reduceCtorEq, false_implies, forall_const, Bool.false_eq_true, List.set, true_or, if_true, if_false, Bool.not_true, Bool.not_false]
  refine s_fitting_bad o hx hs g ?_
  simp only [runX, XB.ev, fnT, startE, List.length_cons, List.length_nil, List.map_cons, List.map_nil, List.cons_append, List.nil_append, Nat.sub_self, Nat.reduceSub, Nat.reduceAdd, Nat.reduceLT, List.replicate_zero, List.reduceReplicate, List.replicate_succ, wpSs, wpS, wpE, wpEs, wpT, wpI, wpC, List.getElem?_cons_zero, List.getElem?_cons_succ, List.getElem?_nil, den, dens, back, true_and, and_true, nrmE, nrmT, frzSlots, cutV1, frzT, frzL, eq_ii, eq_bb, eq_ss, eq_nn, D.isNon, o_add, o_adds, o_addl, o_sub, o_addt, n_split, n_find, o_mul, o_rep, o_div, o_mod, o_pow, c_lt, c_le, c_gt, c_ge, c_lts, c_eq, c_ne, c_is, c_isnot, c_in, c_notin, t_bl, t_non, t_int, t_lst, t_tup, x_lst, x_tup, x_scr, x_str, u_lst, u_scr, u_str, b_lenl, b_lent, b_lenc, b_lens, b_abs, b_max2, b_min2, b_int, b_inb, b_tup, b_dm, b_srtk, i_lst, i_tup, i_scr, is_n, is_b, exists_eq_left', exists_eq_left, exists_eq_right, Option.some.injEq,  partD, setS, setAll, tgD, tgSlots, wipeE, List.set_cons_zero, List.set_cons_succ, List.set_nil, List.take_nil, List.take_zero, m_f, m_t, r_int, r_bl, r_str, r_non, r_tup, r_lstf, r_lstt, r_v, r_newf, r_newt, List.any_cons, List.any_nil, owned, Bool.or_false, Bool.false_or, fl_bl, fl_int, fl_str, fl_non, fl_rs, exists_eq', Ct.lst.injEq, Ct.ob.injEq, D.kst.injEq, List.take_succ_cons, dat_lst, dat_ob, dat_fz, Option.some.injEq, SV.d.injEq, D.int.injEq, forall_eq', reduceCtorEq, false_implies, forall_const, Bool.false_eq_true, List.set, true_or, if_true, if_false, Bool.not_true, Bool.not_false]
  refine ⟨fun _ => ⟨by decide, ?_⟩, fun q => absurd (by decide) q⟩
  exact Eq.mpr (congrArg (fun b => k (Rs.v (D.bl b))) (show _ = true by decide)) h
theorem zipS_it {ts : List Nat} {xs : List Int} {i : Nat} {x : D} (h : ((((sL ts).cps.toList.map fun c => D.str ⟨#[c]⟩).zip (iL xs)).map fun p => D.tup [p.1, p.2])[i]? = some x) : ∃ c v, ts[i]? = some c ∧ xs[i]? = some v ∧ x = .tup [.str (ch c), .int v] := by
  have h : (((ts.map fun c => D.str ⟨#[c]⟩).zip (iL xs)).map fun p => D.tup [p.1, p.2])[i]? = some x := h
  simp only [List.getElem?_map, Option.map_eq_some_iff] at h
  obtain ⟨⟨a, b⟩, e, rfl⟩ := h
  rw [List.getElem?_zip_eq_some] at e
  simp only [List.getElem?_map, Option.map_eq_some_iff] at e
  obtain ⟨⟨g, e1, rfl⟩, ⟨v, e2, rfl⟩⟩ := e
  exact ⟨g, v, e1, e2, rfl⟩
theorem s_lfits {n : Nat} {cs ts : List Nat} {ws xs : List Int} {r : Int} {k z} (o : OkC cs ws r) (t : TOk cs ws.length ts) (hP : Lt xs cs.length) (hl : xs.length = ws.length) (g : gB cs.length ws r xs = true) (hk : Keeps cs ts xs) (h : k (.v (.bl true))) :
    wpF fnT gcT (n+2) 41 [.lst [.str (sL cs), .lst (iL ws), .int r], .str (sL ts), .lst (iL xs)] k z := by
  have w8 := o.w8
  have c26 := o.c26
  have c3 := o.c3
  unfold wpF
  simp only [f41, b41, fnT, startE, List.length_cons, List.length_nil, List.map_cons, List.map_nil, List.cons_append, List.nil_append, Nat.sub_self, Nat.reduceSub, Nat.reduceAdd, Nat.reduceLT, List.replicate_zero, List.reduceReplicate, List.replicate_succ, wpSs, wpS, wpE, wpEs, wpT, wpI, wpC, List.getElem?_cons_zero, List.getElem?_cons_succ, List.getElem?_nil, den, dens, back, true_and, and_true, nrmE, nrmT, frzSlots, cutV1, frzT, frzL, eq_ii, eq_bb, eq_ss, eq_nn, D.isNon, o_add, o_adds, o_addl, o_sub, o_addt, n_split, n_find, o_mul, o_rep, o_div, o_mod, o_pow, c_lt, c_le, c_gt, c_ge, c_lts, c_eq, c_ne, c_is, c_isnot, c_in, c_notin, t_bl, t_non, t_int, t_lst, t_tup, x_lst, x_tup, x_scr, x_str, u_lst, u_scr, u_str, b_lenl, b_lent, b_lenc, b_lens, b_abs, b_max2, b_min2, b_int, b_inb, b_tup, b_dm, b_srtk, i_lst, i_tup, i_scr, is_n, is_b, exists_eq_left', exists_eq_left, exists_eq_right, Option.some.injEq,  partD, setS, setAll, tgD, tgSlots, wipeE, List.set_cons_zero, List.set_cons_succ, List.set_nil, List.take_nil, List.take_zero, m_f, m_t, r_int, r_bl, r_str, r_non, r_tup, r_lstf, r_lstt, r_v, r_newf, r_newt, List.any_cons, List.any_nil, owned, Bool.or_false, Bool.false_or, fl_bl, fl_int, fl_str, fl_non, fl_rs, exists_eq', Ct.lst.injEq, Ct.ob.injEq, D.kst.injEq, List.take_succ_cons, dat_lst, dat_ob, dat_fz, Option.some.injEq, SV.d.injEq, D.int.injEq, forall_eq', reduceCtorEq, false_implies, forall_const, Bool.false_eq_true, List.set, true_or, if_true, if_false, Bool.not_true, Bool.not_false]
  refine ⟨fun i e l => l = [] ∧ ∃ x6 x7 : Option D, e = [some (.d (.lst [.str (sL cs), .lst (iL ws), .int r])), some (.d (.str (sL ts))), some (.d (.lst (iL xs))), some (.d (.str (sL cs))), some (.d (.lst (iL ws))), some (.d (.int r)), x6.map SV.d, x7.map SV.d], ⟨rfl, none, none, rfl⟩, ?_, ?_⟩
  · rintro i x e l hx ⟨rfl, x6, x7, rfl⟩
    obtain ⟨d, v, e1, e2, rfl⟩ := zipS_it hx
    have b := hP v (List.mem_of_getElem? e2)
    simp only [b41_0, q_str, cutM, list_sL, fnT, startE, List.length_cons, List.length_nil, List.map_cons, List.map_nil, List.cons_append, List.nil_append, Nat.sub_self, Nat.reduceSub, Nat.reduceAdd, Nat.reduceLT, List.replicate_zero, List.reduceReplicate, List.replicate_succ, wpSs, wpS, wpE, wpEs, wpT, wpI, wpC, List.getElem?_cons_zero, List.getElem?_cons_succ, List.getElem?_nil, den, dens, back, true_and, and_true, nrmE, nrmT, frzSlots, cutV1, frzT, frzL, eq_ii, eq_bb, eq_ss, eq_nn, D.isNon, o_add, o_adds, o_addl, o_sub, o_addt, n_split, n_find, o_mul, o_rep, o_div, o_mod, o_pow, c_lt, c_le, c_gt, c_ge, c_lts, c_eq, c_ne, c_is, c_isnot, c_in, c_notin, t_bl, t_non, t_int, t_lst, t_tup, x_lst, x_tup, x_scr, x_str, u_lst, u_scr, u_str, b_lenl, b_lent, b_lenc, b_lens, b_abs, b_max2, b_min2, b_int, b_inb, b_tup, b_dm, b_srtk, i_lst, i_tup, i_scr, is_n, is_b, exists_eq_left', exists_eq_left, exists_eq_right, Option.some.injEq,  partD, setS, setAll, tgD, tgSlots, wipeE, List.set_cons_zero, List.set_cons_succ, List.set_nil, List.take_nil, List.take_zero, m_f, m_t, r_int, r_bl, r_str, r_non, r_tup, r_lstf, r_lstt, r_v, r_newf, r_newt, List.any_cons, List.any_nil, owned, Bool.or_false, Bool.false_or, fl_bl, fl_int, fl_str, fl_non, fl_rs, exists_eq', Ct.lst.injEq, Ct.ob.injEq, D.kst.injEq, List.take_succ_cons, dat_lst, dat_ob, dat_fz, Option.some.injEq, SV.d.injEq, D.int.injEq, forall_eq', reduceCtorEq, false_implies, forall_const, Bool.false_eq_true, List.set, true_or, if_true, if_false, Bool.not_true, Bool.not_false]
    refine ⟨fun hb => ?_, fun _ => ⟨some _, some _, rfl⟩⟩
    have hd : d ≠ 63 := by
      intro q
      subst q
      simp at hb
    have kk := hk i d e1 hd
    rw [e2] at kk
    have kk := Option.some.inj kk
    subst kk
    have hin : d ∈ cs := (t.mem d (List.mem_of_getElem? e1)).resolve_left hd
    have il := List.idxOf_lt_length_of_mem hin
    have ga : atI cs ((cs.idxOf d : Nat) : Int) = some d := getl (by rw [List.getElem?_eq_getElem il]; simp)
    exact ⟨d, sizeLine_big (by rw [len_sL]; omega), ga, fun q => by simp at q, fun _ => ⟨some _, some _, rfl⟩⟩
  · rintro e l ⟨rfl, x6, x7, rfl⟩
    simp only [fnT, startE, List.length_cons, List.length_nil, List.map_cons, List.map_nil, List.cons_append, List.nil_append, Nat.sub_self, Nat.reduceSub, Nat.reduceAdd, Nat.reduceLT, List.replicate_zero, List.reduceReplicate, List.replicate_succ, wpSs, wpS, wpE, wpEs, wpT, wpI, wpC, List.getElem?_cons_zero, List.getElem?_cons_succ, List.getElem?_nil, den, dens, back, true_and, and_true, nrmE, nrmT, frzSlots, cutV1, frzT, frzL, eq_ii, eq_bb, eq_ss, eq_nn, D.isNon, o_add, o_adds, o_addl, o_sub, o_addt, n_split, n_find, o_mul, o_rep, o_div, o_mod, o_pow, c_lt, c_le, c_gt, c_ge, c_lts, c_eq, c_ne, c_is, c_isnot, c_in, c_notin, t_bl, t_non, t_int, t_lst, t_tup, x_lst, x_tup, x_scr, x_str, u_lst, u_scr, u_str, b_lenl, b_lent, b_lenc, b_lens, b_abs, b_max2, b_min2, b_int, b_inb, b_tup, b_dm, b_srtk, i_lst, i_tup, i_scr, is_n, is_b, exists_eq_left', exists_eq_left, exists_eq_right, Option.some.injEq,  partD, setS, setAll, tgD, tgSlots, wipeE, List.set_cons_zero, List.set_cons_succ, List.set_nil, List.take_nil, List.take_zero, m_f, m_t, r_int, r_bl, r_str, r_non, r_tup, r_lstf, r_lstt, r_v, r_newf, r_newt, List.any_cons, List.any_nil, owned, Bool.or_false, Bool.false_or, fl_bl, fl_int, fl_str, fl_non, fl_rs, exists_eq', Ct.lst.injEq, Ct.ob.injEq, D.kst.injEq, List.take_succ_cons, dat_lst, dat_ob, dat_fz, Option.some.injEq, SV.d.injEq, D.int.injEq, forall_eq', reduceCtorEq, false_implies, forall_const, Bool.false_eq_true, List.set, true_or, if_true, if_false, Bool.not_true, Bool.not_false]
    refine s_lsum (m := cs.length) (by omega) o.lt hP (by omega) ?_
    simp only [len_sL, fnT, startE, List.length_cons, List.length_nil, List.map_cons, List.map_nil, List.cons_append, List.nil_append, Nat.sub_self, Nat.reduceSub, Nat.reduceAdd, Nat.reduceLT, List.replicate_zero, List.reduceReplicate, List.replicate_succ, wpSs, wpS, wpE, wpEs, wpT, wpI, wpC, List.getElem?_cons_zero, List.getElem?_cons_succ, List.getElem?_nil, den, dens, back, true_and, and_true, nrmE, nrmT, frzSlots, cutV1, frzT, frzL, eq_ii, eq_bb, eq_ss, eq_nn, D.isNon, o_add, o_adds, o_addl, o_sub, o_addt, n_split, n_find, o_mul, o_rep, o_div, o_mod, o_pow, c_lt, c_le, c_gt, c_ge, c_lts, c_eq, c_ne, c_is, c_isnot, c_in, c_notin, t_bl, t_non, t_int, t_lst, t_tup, x_lst, x_tup, x_scr, x_str, u_lst, u_scr, u_str, b_lenl, b_lent, b_lenc, b_lens, b_abs, b_max2, b_min2, b_int, b_inb, b_tup, b_dm, b_srtk, i_lst, i_tup, i_scr, is_n, is_b, exists_eq_left', exists_eq_left, exists_eq_right, Option.some.injEq,  partD, setS, setAll, tgD, tgSlots, wipeE, List.set_cons_zero, List.set_cons_succ, List.set_nil, List.take_nil, List.take_zero, m_f, m_t, r_int, r_bl, r_str, r_non, r_tup, r_lstf, r_lstt, r_v, r_newf, r_newt, List.any_cons, List.any_nil, owned, Bool.or_false, Bool.false_or, fl_bl, fl_int, fl_str, fl_non, fl_rs, exists_eq', Ct.lst.injEq, Ct.ob.injEq, D.kst.injEq, List.take_succ_cons, dat_lst, dat_ob, dat_fz, Option.some.injEq, SV.d.injEq, D.int.injEq, forall_eq', reduceCtorEq, false_implies, forall_const, Bool.false_eq_true, List.set, true_or, if_true, if_false, Bool.not_true, Bool.not_false]
    unfold gB at g
    rw [g]
    exact ⟨sizeLine_big (by omega), by omega, h⟩
end K09

namespace K09
open PySem L2 PD
theorem nd_sub : ∀ {xs ys : List Nat}, xs.Nodup → (∀ x ∈ xs, x ∈ ys) → xs.length ≤ ys.length
  | [], _, _, _ => Nat.zero_le _
  | x :: xs, ys, hn, hs => by
    have hx := hs x List.mem_cons_self
    have n2 := List.nodup_cons.mp hn
    have ih := nd_sub (xs := xs) (ys := ys.erase x) n2.2 fun y hy => (List.mem_erase_of_ne fun e => by subst e; exact n2.1 hy).mpr (hs y (List.mem_cons_of_mem _ hy))
    rw [List.length_erase_of_mem hx] at ih
    have := List.length_pos_of_mem hx
    rw [List.length_cons]; omega
theorem chr_az {i : Nat} {x : D} (h : ((Str.ofString "abcdefghijklmnopqrstuvwxyz").cps.toList.map fun c => D.str ⟨#[c]⟩)[i]? = some x) : ∃ c, az[i]? = some c ∧ x = .str (ch c) := by
  rw [show (Str.ofString "abcdefghijklmnopqrstuvwxyz") = sL az from az_str, list_sL, List.getElem?_map, Option.map_eq_some_iff] at h
  obtain ⟨c, h1, rfl⟩ := h
  exact ⟨c, h1, rfl⟩
theorem upper_sL {us : List Nat} (h : ∀ c ∈ us, c < 128) : Txt.upper (sL us) = sL (us.map PyProof.Rows.up1) := by
  rw [PyProof.Rows.upper_ascii (x := sL us) h]
  show (⟨us.toArray.map _⟩ : Str) = ⟨_⟩
  simp
theorem up1_ne {c : Nat} (h : c ≠ 63 → 97 ≤ c ∧ c < 123) : (if PyProof.Rows.up1 c = 63 then 33 else PyProof.Rows.up1 c) ≠ 63 := by
  by_cases q : c = 63
  · subst q; decide
  · have := h q
    have e : PyProof.Rows.up1 c = c - 32 := by unfold PyProof.Rows.up1; rw [if_pos (by omega)]
    rw [e, if_neg (by omega)]
    omega
theorem gq_app {a b : List Nat} : gq (a ++ b) = gq a + gq b := by
  unfold gq
  rw [List.filter_append, List.length_append]
theorem s_notorn {n : Nat} {c : Int} {cs us ts : List Nat} {k z} (hn : cs.Nodup) (c25 : cs.length ≤ 25) (hcs : ∀ x ∈ cs, 97 ≤ x ∧ x < 123) (u3 : 3 ≤ us.length) (u8 : us.length ≤ 8) (hu : ∀ x ∈ us, x ∈ cs) (t : TOk cs us.length ts) (h : ∀ x, plainD x = true → shortD x = true → tornB cs us.length x = false → k (.v x)) :
    wpF fnT gcT (n+2) 39 [.int c, .str (sL ts), .str (sL us), .str (sL cs)] k z := by
  have tl := t.len
  unfold wpF
  simp only [f39, b39, fnT, startE, List.length_cons, List.length_nil, List.map_cons, List.map_nil, List.cons_append, List.nil_append, Nat.sub_self, Nat.reduceSub, Nat.reduceAdd, Nat.reduceLT, List.replicate_zero, List.reduceReplicate, List.replicate_succ, wpSs, wpS, wpE, wpEs, wpT, wpI, wpC, List.getElem?_cons_zero, List.getElem?_cons_succ, List.getElem?_nil, den, dens, back, true_and, and_true, nrmE, nrmT, frzSlots, cutV1, frzT, frzL, eq_ii, eq_bb, eq_ss, eq_nn, D.isNon, o_add, o_adds, o_addl, o_sub, o_addt, n_split, n_find, o_mul, o_rep, o_div, o_mod, o_pow, c_lt, c_le, c_gt, c_ge, c_lts, c_eq, c_ne, c_is, c_isnot, c_in, c_notin, t_bl, t_non, t_int, t_lst, t_tup, x_lst, x_tup, x_scr, x_str, u_lst, u_scr, u_str, b_lenl, b_lent, b_lenc, b_lens, b_abs, b_max2, b_min2, b_int, b_inb, b_tup, b_dm, b_srtk, i_lst, i_tup, i_scr, is_n, is_b, exists_eq_left', exists_eq_left, exists_eq_right, Option.some.injEq,  partD, setS, setAll, tgD, tgSlots, wipeE, List.set_cons_zero, List.set_cons_succ, List.set_nil, List.take_nil, List.take_zero, m_f, m_t, r_int, r_bl, r_str, r_non, r_tup, r_lstf, r_lstt, r_v, r_newf, r_newt, List.any_cons, List.any_nil, owned, Bool.or_false, Bool.false_or, fl_bl, fl_int, fl_str, fl_non, fl_rs, exists_eq', Ct.lst.injEq, Ct.ob.injEq, D.kst.injEq, List.take_succ_cons, dat_lst, dat_ob, dat_fz, Option.some.injEq, SV.d.injEq, D.int.injEq, forall_eq', reduceCtorEq, false_implies, forall_const, Bool.false_eq_true, List.set, true_or, if_true, if_false, Bool.not_true, Bool.not_false]
  refine ⟨fun i acc => acc = chL ((az.take i).filter fun c => decide (c ∉ cs)), rfl, ?_, ?_⟩
  · rintro i x acc hx rfl
    obtain ⟨d, hd, rfl⟩ := chr_az hx
    have hi := (List.getElem?_eq_some_iff.mp hd).1
    have al : az.length = 26 := rfl
    have fl : ((az.take i).filter fun c => decide (c ∉ cs)).length ≤ 26 := Nat.le_trans (List.length_filter_le _ _) (by rw [List.length_take]; omega)
    simp only [b39_0, b39_1, inD, list_sL, fnT, startE, List.length_cons, List.length_nil, List.map_cons, List.map_nil, List.cons_append, List.nil_append, Nat.sub_self, Nat.reduceSub, Nat.reduceAdd, Nat.reduceLT, List.replicate_zero, List.reduceReplicate, List.replicate_succ, wpSs, wpS, wpE, wpEs, wpT, wpI, wpC, List.getElem?_cons_zero, List.getElem?_cons_succ, List.getElem?_nil, den, dens, back, true_and, and_true, nrmE, nrmT, frzSlots, cutV1, frzT, frzL, eq_ii, eq_bb, eq_ss, eq_nn, D.isNon, o_add, o_adds, o_addl, o_sub, o_addt, n_split, n_find, o_mul, o_rep, o_div, o_mod, o_pow, c_lt, c_le, c_gt, c_ge, c_lts, c_eq, c_ne, c_is, c_isnot, c_in, c_notin, t_bl, t_non, t_int, t_lst, t_tup, x_lst, x_tup, x_scr, x_str, u_lst, u_scr, u_str, b_lenl, b_lent, b_lenc, b_lens, b_abs, b_max2, b_min2, b_int, b_inb, b_tup, b_dm, b_srtk, i_lst, i_tup, i_scr, is_n, is_b, exists_eq_left', exists_eq_left, exists_eq_right, Option.some.injEq,  partD, setS, setAll, tgD, tgSlots, wipeE, List.set_cons_zero, List.set_cons_succ, List.set_nil, List.take_nil, List.take_zero, m_f, m_t, r_int, r_bl, r_str, r_non, r_tup, r_lstf, r_lstt, r_v, r_newf, r_newt, List.any_cons, List.any_nil, owned, Bool.or_false, Bool.false_or, fl_bl, fl_int, fl_str, fl_non, fl_rs, exists_eq', Ct.lst.injEq, Ct.ob.injEq, D.kst.injEq, List.take_succ_cons, dat_lst, dat_ob, dat_fz, Option.some.injEq, SV.d.injEq, D.int.injEq, forall_eq', reduceCtorEq, false_implies, forall_const, Bool.false_eq_true, List.set, true_or, if_true, if_false, Bool.not_true, Bool.not_false]
    refine ⟨d, rfl, fun hb => ⟨sizeLine_lt (by rw [List.length_map]; omega), ?_⟩, fun hb => ?_⟩
    · rw [List.take_add_one, hd, List.filter_append]
      have : d ∉ cs := by simpa using hb
      simp [chL, this]
    · rw [List.take_add_one, hd, List.filter_append]
      have : d ∈ cs := by simpa using hb
      simp [chL, this]
  · rintro acc rfl
    have el : ((Str.ofString "abcdefghijklmnopqrstuvwxyz").cps.toList.map fun c => D.str ⟨#[c]⟩).length = 26 := by rw [show (Str.ofString "abcdefghijklmnopqrstuvwxyz") = sL az from az_str, list_sL]; rfl
    rw [el, show az.take 26 = az from rfl]
    have ho : ∀ d ∈ az.filter fun c => decide (c ∉ cs), d ∉ cs ∧ 97 ≤ d := fun d hd => ⟨by simpa using (List.mem_filter.mp hd).2, (az_in.mp (List.mem_filter.mp hd).1).1⟩
    have ne : 0 < (az.filter fun c => decide (c ∉ cs)).length := by
      rcases Nat.eq_zero_or_pos (az.filter fun c => decide (c ∉ cs)).length with q | q
      · have q := List.length_eq_zero_iff.mp q
        have := nd_sub az_nd (ys := cs) fun x hx => by
          by_cases hc : x ∈ cs
          · exact hc
          · have : x ∈ az.filter fun c => decide (c ∉ cs) := List.mem_filter.mpr ⟨hx, by simpa using hc⟩
            rw [q] at this; simp at this
        have al : az.length = 26 := rfl
        omega
      · exact q
    generalize (az.filter fun c => decide (c ∉ cs)) = odd at *
    have g0 : odd[0]? = some odd[0] := List.getElem?_eq_getElem (by omega)
    generalize odd[0]'(by omega) = o1 at g0
    have hg : ∃ q, odd.getLast? = some q := by
      have : odd ≠ [] := fun z => by rw [z] at ne; simp at ne
      exact ⟨_, List.getLast?_eq_some_getLast this⟩
    obtain ⟨o2, hg⟩ := hg
    have ho1 := ho o1 (List.mem_of_getElem? g0)
    have ho2 := ho o2 (List.mem_of_getLast? hg)
    have a1 : atI (chL odd) 0 = some (.str (ch o1)) := getl (i := 0) (by rw [List.getElem?_map, g0]; rfl)
    have a2 : atI (chL odd) (-1) = some (.str (ch o2)) := by
      have ix : ixN (chL odd).length (-1) = some (odd.length - 1) := by
        unfold ixN
        rw [List.length_map, if_neg (by decide), if_pos (by omega)]
        congr 1
        omega
      unfold atI
      rw [ix]
      rw [List.getLast?_eq_getElem?] at hg
      show (chL odd)[odd.length - 1]? = _
      rw [List.getElem?_map, hg]; rfl
    have h0 : us[0]? = some us[0] := List.getElem?_eq_getElem (by omega)
    generalize us[0]'(by omega) = u0 at h0
    have a0 : atI us 0 = some u0 := getl (i := 0) h0
    simp only [len_sL, List.length_map, a1, a2, fnT, startE, List.length_cons, List.length_nil, List.map_cons, List.map_nil, List.cons_append, List.nil_append, Nat.sub_self, Nat.reduceSub, Nat.reduceAdd, Nat.reduceLT, List.replicate_zero, List.reduceReplicate, List.replicate_succ, wpSs, wpS, wpE, wpEs, wpT, wpI, wpC, List.getElem?_cons_zero, List.getElem?_cons_succ, List.getElem?_nil, den, dens, back, true_and, and_true, nrmE, nrmT, frzSlots, cutV1, frzT, frzL, eq_ii, eq_bb, eq_ss, eq_nn, D.isNon, o_add, o_adds, o_addl, o_sub, o_addt, n_split, n_find, o_mul, o_rep, o_div, o_mod, o_pow, c_lt, c_le, c_gt, c_ge, c_lts, c_eq, c_ne, c_is, c_isnot, c_in, c_notin, t_bl, t_non, t_int, t_lst, t_tup, x_lst, x_tup, x_scr, x_str, u_lst, u_scr, u_str, b_lenl, b_lent, b_lenc, b_lens, b_abs, b_max2, b_min2, b_int, b_inb, b_tup, b_dm, b_srtk, i_lst, i_tup, i_scr, is_n, is_b, exists_eq_left', exists_eq_left, exists_eq_right, Option.some.injEq,  partD, setS, setAll, tgD, tgSlots, wipeE, List.set_cons_zero, List.set_cons_succ, List.set_nil, List.take_nil, List.take_zero, m_f, m_t, r_int, r_bl, r_str, r_non, r_tup, r_lstf, r_lstt, r_v, r_newf, r_newt, List.any_cons, List.any_nil, owned, Bool.or_false, Bool.false_or, fl_bl, fl_int, fl_str, fl_non, fl_rs, exists_eq', Ct.lst.injEq, Ct.ob.injEq, D.kst.injEq, List.take_succ_cons, dat_lst, dat_ob, dat_fz, Option.some.injEq, SV.d.injEq, D.int.injEq, forall_eq', reduceCtorEq, false_implies, forall_const, Bool.false_eq_true, List.set, true_or, if_true, if_false, Bool.not_true, Bool.not_false]
    have em : (-(1 : Int)) = -1 := rfl
    have e1 : (Str.ofString " ") = sL [32] := rfl
    have e2 : (Str.ofString "????") = sL [63, 63, 63, 63] := rfl
    have e3 : (Str.ofString "?") = sL [63] := rfl
    have e4 : (Str.ofString "") = sL [] := rfl
    have e5 : (Str.ofString "!") = sL [33] := rfl
    have e6 : (Str.ofString "A") = sL [65] := rfl
    have d4 : cutS (sL us) (some 4) none = sL (us.drop 4) := by rw [cutS_L]; exact congrArg _ (cut_drop (xs := us) (i := 4))
    have d1 : cutS (sL ts) (some 1) none = sL (ts.drop 1) := by rw [cutS_L]; exact congrArg _ (cut_drop (xs := ts) (i := 1))
    have uh : Txt.upper (sL ts) = sL (ts.map PyProof.Rows.up1) := upper_sL fun c hc => by
      rcases t.mem c hc with q | q
      · omega
      · have := hcs c q; omega
    have rh : Txt.replace (sL (ts.map PyProof.Rows.up1)) (sL [63]) (sL [33]) = sL (fillQ 33 (ts.map PyProof.Rows.up1)) := repl_sL
    simp only [em, cut_sL, e1, e2, e3, e4, e5, e6, ch_sL, d4, d1, uh, rh, app_sL, len_sL]
    have tb : ∀ vs : List Nat, vs.length ≠ us.length → tornB cs us.length (.str (sL vs)) = false := fun vs hv => torn_len hv
    have no : ∀ x : Nat, ¬ (97 ≤ x ∧ x < 123) → x ∉ cs := fun x hx hc => hx (hcs x hc)
    refine ⟨sizeLine_big (by decide), sizeLine_big (by decide), sizeLine_big (by decide), sizeLine_big (by omega), u0, sizeLine_big (by omega), a0, sizeLine_big (by omega), by omega, by simp only [List.length_map, List.length_cons, List.length_nil]; omega, sizeLine_big (by decide), sizeLine_big (by omega), sizeLine_big (by ((try simp only [len_sL, List.length_append, List.length_cons, List.length_nil, List.length_take, List.length_drop, List.length_map]); omega)), sizeLine_big (by omega), sizeLine_big (by ((try simp only [len_sL, List.length_append, List.length_cons, List.length_nil, List.length_take, List.length_drop, List.length_map]); omega)), sizeLine_big (by omega), sizeLine_big (by ((try simp only [len_sL, List.length_append, List.length_cons, List.length_nil, List.length_take, List.length_drop, List.length_map]); omega)), sizeLine_big (by ((try simp only [len_sL, List.length_append, List.length_cons, List.length_nil, List.length_take, List.length_drop, List.length_map]); omega)), sizeLine_big (by decide), sizeLine_big (by decide), ?_⟩
    refine ⟨fun i acc => ∃ vss : List (List Nat), acc = vss.map (fun v => D.str (sL v)) ∧ vss.length = i ∧ i ≤ 5 ∧ ∀ v ∈ vss, v.length ≤ 9 ∧ tornB cs us.length (.str (sL v)) = false, ⟨[], rfl, rfl, by omega, fun _ h => nomatch h⟩, ?_, ?_⟩
    · rintro i x acc hx ⟨vss, rfl, hv, hi5, hV⟩
      have hx : (chL [o1, o2, 32, 65, 33])[i]? = some x := hx
      rw [List.getElem?_map, Option.map_eq_some_iff] at hx
      obtain ⟨d, hd, rfl⟩ := hx
      have hi := (List.getElem?_eq_some_iff.mp hd).1
      have hd2 : d ∉ cs ∧ d ≠ 63 := by
        have := List.mem_of_getElem? hd
        simp only [List.mem_cons, List.not_mem_nil, or_false] at this
        rcases this with e | e | e | e | e
        · subst e; exact ⟨ho1.1, by omega⟩
        · subst e; exact ⟨ho2.1, by omega⟩
        · subst e; exact ⟨no _ (by decide), by decide⟩
        · subst e; exact ⟨no _ (by decide), by decide⟩
        · subst e; exact ⟨no _ (by decide), by decide⟩
      simp only [b39_2, fnT, startE, List.length_cons, List.length_nil, List.map_cons, List.map_nil, List.cons_append, List.nil_append, Nat.sub_self, Nat.reduceSub, Nat.reduceAdd, Nat.reduceLT, List.replicate_zero, List.reduceReplicate, List.replicate_succ, wpSs, wpS, wpE, wpEs, wpT, wpI, wpC, List.getElem?_cons_zero, List.getElem?_cons_succ, List.getElem?_nil, den, dens, back, true_and, and_true, nrmE, nrmT, frzSlots, cutV1, frzT, frzL, eq_ii, eq_bb, eq_ss, eq_nn, D.isNon, o_add, o_adds, o_addl, o_sub, o_addt, n_split, n_find, o_mul, o_rep, o_div, o_mod, o_pow, c_lt, c_le, c_gt, c_ge, c_lts, c_eq, c_ne, c_is, c_isnot, c_in, c_notin, t_bl, t_non, t_int, t_lst, t_tup, x_lst, x_tup, x_scr, x_str, u_lst, u_scr, u_str, b_lenl, b_lent, b_lenc, b_lens, b_abs, b_max2, b_min2, b_int, b_inb, b_tup, b_dm, b_srtk, i_lst, i_tup, i_scr, is_n, is_b, exists_eq_left', exists_eq_left, exists_eq_right, Option.some.injEq,  partD, setS, setAll, tgD, tgSlots, wipeE, List.set_cons_zero, List.set_cons_succ, List.set_nil, List.take_nil, List.take_zero, m_f, m_t, r_int, r_bl, r_str, r_non, r_tup, r_lstf, r_lstt, r_v, r_newf, r_newt, List.any_cons, List.any_nil, owned, Bool.or_false, Bool.false_or, fl_bl, fl_int, fl_str, fl_non, fl_rs, exists_eq', Ct.lst.injEq, Ct.ob.injEq, D.kst.injEq, List.take_succ_cons, dat_lst, dat_ob, dat_fz, Option.some.injEq, SV.d.injEq, D.int.injEq, forall_eq', reduceCtorEq, false_implies, forall_const, Bool.false_eq_true, List.set, true_or, if_true, if_false, Bool.not_true, Bool.not_false]
      refine s_foreign (by omega) fun vs h9 hc => ?_
      simp only [fnT, startE, List.length_cons, List.length_nil, List.map_cons, List.map_nil, List.cons_append, List.nil_append, Nat.sub_self, Nat.reduceSub, Nat.reduceAdd, Nat.reduceLT, List.replicate_zero, List.reduceReplicate, List.replicate_succ, wpSs, wpS, wpE, wpEs, wpT, wpI, wpC, List.getElem?_cons_zero, List.getElem?_cons_succ, List.getElem?_nil, den, dens, back, true_and, and_true, nrmE, nrmT, frzSlots, cutV1, frzT, frzL, eq_ii, eq_bb, eq_ss, eq_nn, D.isNon, o_add, o_adds, o_addl, o_sub, o_addt, n_split, n_find, o_mul, o_rep, o_div, o_mod, o_pow, c_lt, c_le, c_gt, c_ge, c_lts, c_eq, c_ne, c_is, c_isnot, c_in, c_notin, t_bl, t_non, t_int, t_lst, t_tup, x_lst, x_tup, x_scr, x_str, u_lst, u_scr, u_str, b_lenl, b_lent, b_lenc, b_lens, b_abs, b_max2, b_min2, b_int, b_inb, b_tup, b_dm, b_srtk, i_lst, i_tup, i_scr, is_n, is_b, exists_eq_left', exists_eq_left, exists_eq_right, Option.some.injEq,  partD, setS, setAll, tgD, tgSlots, wipeE, List.set_cons_zero, List.set_cons_succ, List.set_nil, List.take_nil, List.take_zero, m_f, m_t, r_int, r_bl, r_str, r_non, r_tup, r_lstf, r_lstt, r_v, r_newf, r_newt, List.any_cons, List.any_nil, owned, Bool.or_false, Bool.false_or, fl_bl, fl_int, fl_str, fl_non, fl_rs, exists_eq', Ct.lst.injEq, Ct.ob.injEq, D.kst.injEq, List.take_succ_cons, dat_lst, dat_ob, dat_fz, Option.some.injEq, SV.d.injEq, D.int.injEq, forall_eq', reduceCtorEq, false_implies, forall_const, Bool.false_eq_true, List.set, true_or, if_true, if_false, Bool.not_true, Bool.not_false]
      refine ⟨sizeLine_lt (by rw [List.length_map]; omega), vss ++ [vs], by simp, by simp [hv], by have hi : i < 5 := hi; omega, fun v hv => ?_⟩
      rcases List.mem_append.mp hv with q | q
      · exact hV v q
      · rw [List.mem_singleton.mp q]
        exact ⟨h9, torn_no hc hd2.1 hd2.2⟩
    · rintro acc ⟨vss, rfl, hv, _, hV⟩
      obtain ⟨y1, y2, y3, y4, y5, rfl⟩ : ∃ y1 y2 y3 y4 y5, vss = [y1, y2, y3, y4, y5] := by
        rcases vss with _ | ⟨y1, _ | ⟨y2, _ | ⟨y3, _ | ⟨y4, _ | ⟨y5, _ | ⟨_, _⟩⟩⟩⟩⟩⟩ <;> first | exact ⟨_, _, _, _, _, rfl⟩ | (simp at hv)
      refine ⟨sizeLine_big (by rw [List.length_map]; show 15 + 5 ≤ 16777216; decide), by decide, ?_⟩
      have sh : ∀ vs : List Nat, vs.length ≤ 100 → shortD (.str (sL vs)) = true := fun vs hv => by
        show decide ((sL vs).length ≤ 1000) = true
        rw [len_sL]; exact decide_eq_true (by omega)
      have t0 := Int.emod_nonneg c (show (20 : Int) ≠ 0 by decide)
      have t1 := Int.emod_lt_of_pos c (show (0 : Int) < 20 by decide)
      generalize c % 20 = q at *
      have gu : gq us = 0 := gq_zero fun x hx e => by have := hcs x (hu x hx); omega
      rcases (show q = 0 ∨ q = 1 ∨ q = 2 ∨ q = 3 ∨ q = 4 ∨ q = 5 ∨ q = 6 ∨ q = 7 ∨ q = 8 ∨ q = 9 ∨ q = 10 ∨ q = 11 ∨ q = 12 ∨ q = 13 ∨ q = 14 ∨ q = 15 ∨ q = 16 ∨ q = 17 ∨ q = 18 ∨ q = 19 by omega) with e | e | e | e | e | e | e | e | e | e | e | e | e | e | e | e | e | e | e | e <;> subst e <;> refine ⟨_, rfl, ?_⟩
      · exact h _ rfl rfl rfl
      · exact h _ rfl rfl rfl
      · exact h _ rfl rfl rfl
      · exact h _ rfl rfl rfl
      · exact h _ rfl rfl rfl
      · exact h _ rfl rfl (tb [] (by simp; omega))
      · exact h _ rfl (sh _ (by ((try simp only [len_sL, List.length_append, List.length_cons, List.length_nil, List.length_take, List.length_drop, List.length_map]); omega))) (torn_g0 gu)
      · exact h _ rfl (sh _ (by ((try simp only [len_sL, List.length_append, List.length_cons, List.length_nil, List.length_take, List.length_drop, List.length_map]); omega))) (tb _ (by ((try simp only [len_sL, List.length_append, List.length_cons, List.length_nil, List.length_take, List.length_drop, List.length_map]); omega)))
      · exact h _ rfl (sh _ (by ((try simp only [len_sL, List.length_append, List.length_cons, List.length_nil, List.length_take, List.length_drop, List.length_map]); omega))) (tb _ (by ((try simp only [len_sL, List.length_append, List.length_cons, List.length_nil, List.length_take, List.length_drop, List.length_map]); omega)))
      · refine h _ rfl (sh _ (by rw [fillQ_len, List.length_map]; omega)) (torn_g0 (gq_zero fun x hx => ?_))
        unfold fillQ at hx
        obtain ⟨y, hy, rfl⟩ := List.mem_map.mp hx
        obtain ⟨c0, hc0, rfl⟩ := List.mem_map.mp hy
        exact up1_ne fun ne => hcs c0 ((t.mem c0 hc0).resolve_left ne)
      · refine h _ rfl (sh _ (by ((try simp only [len_sL, List.length_append, List.length_cons, List.length_nil, List.length_take, List.length_drop, List.length_map]); omega))) (torn_g4 ?_)
        rw [gq_app]
        have : gq [63, 63, 63, 63] = 4 := rfl
        omega
      · exact h _ rfl rfl rfl
      · exact h _ rfl rfl rfl
      · exact h _ rfl (sh _ (by ((try simp only [len_sL, List.length_append, List.length_cons, List.length_nil, List.length_take, List.length_drop, List.length_map]); omega))) (tb _ (by ((try simp only [len_sL, List.length_append, List.length_cons, List.length_nil, List.length_take, List.length_drop, List.length_map]); omega)))
      · exact h _ rfl (sh _ (by ((try simp only [len_sL, List.length_append, List.length_cons, List.length_nil, List.length_take, List.length_drop, List.length_map]); omega))) (tb _ (by ((try simp only [len_sL, List.length_append, List.length_cons, List.length_nil, List.length_take, List.length_drop, List.length_map]); omega)))
      · have := hV y1 (by simp); exact h _ rfl (sh _ (by omega)) this.2
      · have := hV y2 (by simp); exact h _ rfl (sh _ (by omega)) this.2
      · have := hV y3 (by simp); exact h _ rfl (sh _ (by omega)) this.2
      · have := hV y4 (by simp); exact h _ rfl (sh _ (by omega)) this.2
      · have := hV y5 (by simp); exact h _ rfl (sh _ (by omega)) this.2
end K09

namespace K09
open PySem L2 PD
theorem eqv_rows : ∀ rows : List (List Int), PyData.eqvAll (rows.map fun r => PyData.list (r.map .int)) (rows.map fun r => PyData.list (r.map .int)) = true
  | [] => by simp [PyData.eqvAll]
  | r :: rows => by
    rw [List.map_cons, PyData.eqvAll, eqv_rows rows, PyData.eqv, eqv_ints]
    simp
theorem eq_rows {rows : List (List Int)} {k : Bool → Prop} (h : k true) : eqD (.lst (rL rows)) (.lst (rL rows)) k := by
  refine ⟨by unfold D.pure; exact pures_rows rows, by unfold D.pure; exact pures_rows rows, by rw [toPy]; exact shaped_rows rows, by rw [toPy]; exact shaped_rows rows, ?_⟩
  rw [toPy, toPys_rows, PyData.eqv, eqv_rows]
  exact h
theorem s_law {n : Nat} {ns : List Int} {k z} (hl : ns.length ≤ 63) (h : k (.v (.bl true))) : wpF fnT gcT (n+6) 42 [.scr ns] k z := by
  unfold wpF
  simp only [f42, b42, fnT, startE, List.length_cons, List.length_nil, List.map_cons, List.map_nil, List.cons_append, List.nil_append, Nat.sub_self, Nat.reduceSub, Nat.reduceAdd, Nat.reduceLT, List.replicate_zero, List.reduceReplicate, List.replicate_succ, wpSs, wpS, wpE, wpEs, wpT, wpI, wpC, List.getElem?_cons_zero, List.getElem?_cons_succ, List.getElem?_nil, den, dens, back, true_and, and_true, nrmE, nrmT, frzSlots, cutV1, frzT, frzL, eq_ii, eq_bb, eq_ss, eq_nn, D.isNon, o_add, o_adds, o_addl, o_sub, o_addt, n_split, n_find, o_mul, o_rep, o_div, o_mod, o_pow, c_lt, c_le, c_gt, c_ge, c_lts, c_eq, c_ne, c_is, c_isnot, c_in, c_notin, t_bl, t_non, t_int, t_lst, t_tup, x_lst, x_tup, x_scr, x_str, u_lst, u_scr, u_str, b_lenl, b_lent, b_lenc, b_lens, b_abs, b_max2, b_min2, b_int, b_inb, b_tup, b_dm, b_srtk, i_lst, i_tup, i_scr, is_n, is_b, exists_eq_left', exists_eq_left, exists_eq_right, Option.some.injEq,  partD, setS, setAll, tgD, tgSlots, wipeE, List.set_cons_zero, List.set_cons_succ, List.set_nil, List.take_nil, List.take_zero, m_f, m_t, r_int, r_bl, r_str, r_non, r_tup, r_lstf, r_lstt, r_v, r_newf, r_newt, List.any_cons, List.any_nil, owned, Bool.or_false, Bool.false_or, fl_bl, fl_int, fl_str, fl_non, fl_rs, exists_eq', Ct.lst.injEq, Ct.ob.injEq, D.kst.injEq, List.take_succ_cons, dat_lst, dat_ob, dat_fz, Option.some.injEq, SV.d.injEq, D.int.injEq, forall_eq', reduceCtorEq, false_implies, forall_const, Bool.false_eq_true, List.set, true_or, if_true, if_false, Bool.not_true, Bool.not_false]
  refine s_cell_at (i := 0) ?_
  simp only [fnT, startE, List.length_cons, List.length_nil, List.map_cons, List.map_nil, List.cons_append, List.nil_append, Nat.sub_self, Nat.reduceSub, Nat.reduceAdd, Nat.reduceLT, List.replicate_zero, List.reduceReplicate, List.replicate_succ, wpSs, wpS, wpE, wpEs, wpT, wpI, wpC, List.getElem?_cons_zero, List.getElem?_cons_succ, List.getElem?_nil, den, dens, back, true_and, and_true, nrmE, nrmT, frzSlots, cutV1, frzT, frzL, eq_ii, eq_bb, eq_ss, eq_nn, D.isNon, o_add, o_adds, o_addl, o_sub, o_addt, n_split, n_find, o_mul, o_rep, o_div, o_mod, o_pow, c_lt, c_le, c_gt, c_ge, c_lts, c_eq, c_ne, c_is, c_isnot, c_in, c_notin, t_bl, t_non, t_int, t_lst, t_tup, x_lst, x_tup, x_scr, x_str, u_lst, u_scr, u_str, b_lenl, b_lent, b_lenc, b_lens, b_abs, b_max2, b_min2, b_int, b_inb, b_tup, b_dm, b_srtk, i_lst, i_tup, i_scr, is_n, is_b, exists_eq_left', exists_eq_left, exists_eq_right, Option.some.injEq,  partD, setS, setAll, tgD, tgSlots, wipeE, List.set_cons_zero, List.set_cons_succ, List.set_nil, List.take_nil, List.take_zero, m_f, m_t, r_int, r_bl, r_str, r_non, r_tup, r_lstf, r_lstt, r_v, r_newf, r_newt, List.any_cons, List.any_nil, owned, Bool.or_false, Bool.false_or, fl_bl, fl_int, fl_str, fl_non, fl_rs, exists_eq', Ct.lst.injEq, Ct.ob.injEq, D.kst.injEq, List.take_succ_cons, dat_lst, dat_ob, dat_fz, Option.some.injEq, SV.d.injEq, D.int.injEq, forall_eq', reduceCtorEq, false_implies, forall_const, Bool.false_eq_true, List.set, true_or, if_true, if_false, Bool.not_true, Bool.not_false]
  refine s_code fun cs ws r hc c3 c25 co hcs w3 w8 hL hS r0 r1 => ?_
  have o : OkC cs ws r := ⟨hc, c3, by omega, hcs, w3, w8, hL, hS, r0, r1⟩
  have mp : (0 : Int) < cs.length := by omega
  have n63 : (63 : Nat) ∉ cs := fun z => by have := hcs _ z; omega
  simp only [fnT, startE, List.length_cons, List.length_nil, List.map_cons, List.map_nil, List.cons_append, List.nil_append, Nat.sub_self, Nat.reduceSub, Nat.reduceAdd, Nat.reduceLT, List.replicate_zero, List.reduceReplicate, List.replicate_succ, wpSs, wpS, wpE, wpEs, wpT, wpI, wpC, List.getElem?_cons_zero, List.getElem?_cons_succ, List.getElem?_nil, den, dens, back, true_and, and_true, nrmE, nrmT, frzSlots, cutV1, frzT, frzL, eq_ii, eq_bb, eq_ss, eq_nn, D.isNon, o_add, o_adds, o_addl, o_sub, o_addt, n_split, n_find, o_mul, o_rep, o_div, o_mod, o_pow, c_lt, c_le, c_gt, c_ge, c_lts, c_eq, c_ne, c_is, c_isnot, c_in, c_notin, t_bl, t_non, t_int, t_lst, t_tup, x_lst, x_tup, x_scr, x_str, u_lst, u_scr, u_str, b_lenl, b_lent, b_lenc, b_lens, b_abs, b_max2, b_min2, b_int, b_inb, b_tup, b_dm, b_srtk, i_lst, i_tup, i_scr, is_n, is_b, exists_eq_left', exists_eq_left, exists_eq_right, Option.some.injEq,  partD, setS, setAll, tgD, tgSlots, wipeE, List.set_cons_zero, List.set_cons_succ, List.set_nil, List.take_nil, List.take_zero, m_f, m_t, r_int, r_bl, r_str, r_non, r_tup, r_lstf, r_lstt, r_v, r_newf, r_newt, List.any_cons, List.any_nil, owned, Bool.or_false, Bool.false_or, fl_bl, fl_int, fl_str, fl_non, fl_rs, exists_eq', Ct.lst.injEq, Ct.ob.injEq, D.kst.injEq, List.take_succ_cons, dat_lst, dat_ob, dat_fz, Option.some.injEq, SV.d.injEq, D.int.injEq, forall_eq', reduceCtorEq, false_implies, forall_const, Bool.false_eq_true, List.set, true_or, if_true, if_false, Bool.not_true, Bool.not_false]
  refine s_make o ?_
  simp only [len_sL, fnT, startE, List.length_cons, List.length_nil, List.map_cons, List.map_nil, List.cons_append, List.nil_append, Nat.sub_self, Nat.reduceSub, Nat.reduceAdd, Nat.reduceLT, List.replicate_zero, List.reduceReplicate, List.replicate_succ, wpSs, wpS, wpE, wpEs, wpT, wpI, wpC, List.getElem?_cons_zero, List.getElem?_cons_succ, List.getElem?_nil, den, dens, back, true_and, and_true, nrmE, nrmT, frzSlots, cutV1, frzT, frzL, eq_ii, eq_bb, eq_ss, eq_nn, D.isNon, o_add, o_adds, o_addl, o_sub, o_addt, n_split, n_find, o_mul, o_rep, o_div, o_mod, o_pow, c_lt, c_le, c_gt, c_ge, c_lts, c_eq, c_ne, c_is, c_isnot, c_in, c_notin, t_bl, t_non, t_int, t_lst, t_tup, x_lst, x_tup, x_scr, x_str, u_lst, u_scr, u_str, b_lenl, b_lent, b_lenc, b_lens, b_abs, b_max2, b_min2, b_int, b_inb, b_tup, b_dm, b_srtk, i_lst, i_tup, i_scr, is_n, is_b, exists_eq_left', exists_eq_left, exists_eq_right, Option.some.injEq,  partD, setS, setAll, tgD, tgSlots, wipeE, List.set_cons_zero, List.set_cons_succ, List.set_nil, List.take_nil, List.take_zero, m_f, m_t, r_int, r_bl, r_str, r_non, r_tup, r_lstf, r_lstt, r_v, r_newf, r_newt, List.any_cons, List.any_nil, owned, Bool.or_false, Bool.false_or, fl_bl, fl_int, fl_str, fl_non, fl_rs, exists_eq', Ct.lst.injEq, Ct.ob.injEq, D.kst.injEq, List.take_succ_cons, dat_lst, dat_ob, dat_fz, Option.some.injEq, SV.d.injEq, D.int.injEq, forall_eq', reduceCtorEq, false_implies, forall_const, Bool.false_eq_true, List.set, true_or, if_true, if_false, Bool.not_true, Bool.not_false]
  refine s_cell_at (i := 7) ?_
  simp only [fnT, startE, List.length_cons, List.length_nil, List.map_cons, List.map_nil, List.cons_append, List.nil_append, Nat.sub_self, Nat.reduceSub, Nat.reduceAdd, Nat.reduceLT, List.replicate_zero, List.reduceReplicate, List.replicate_succ, wpSs, wpS, wpE, wpEs, wpT, wpI, wpC, List.getElem?_cons_zero, List.getElem?_cons_succ, List.getElem?_nil, den, dens, back, true_and, and_true, nrmE, nrmT, frzSlots, cutV1, frzT, frzL, eq_ii, eq_bb, eq_ss, eq_nn, D.isNon, o_add, o_adds, o_addl, o_sub, o_addt, n_split, n_find, o_mul, o_rep, o_div, o_mod, o_pow, c_lt, c_le, c_gt, c_ge, c_lts, c_eq, c_ne, c_is, c_isnot, c_in, c_notin, t_bl, t_non, t_int, t_lst, t_tup, x_lst, x_tup, x_scr, x_str, u_lst, u_scr, u_str, b_lenl, b_lent, b_lenc, b_lens, b_abs, b_max2, b_min2, b_int, b_inb, b_tup, b_dm, b_srtk, i_lst, i_tup, i_scr, is_n, is_b, exists_eq_left', exists_eq_left, exists_eq_right, Option.some.injEq,  partD, setS, setAll, tgD, tgSlots, wipeE, List.set_cons_zero, List.set_cons_succ, List.set_nil, List.take_nil, List.take_zero, m_f, m_t, r_int, r_bl, r_str, r_non, r_tup, r_lstf, r_lstt, r_v, r_newf, r_newt, List.any_cons, List.any_nil, owned, Bool.or_false, Bool.false_or, fl_bl, fl_int, fl_str, fl_non, fl_rs, exists_eq', Ct.lst.injEq, Ct.ob.injEq, D.kst.injEq, List.take_succ_cons, dat_lst, dat_ob, dat_fz, Option.some.injEq, SV.d.injEq, D.int.injEq, forall_eq', reduceCtorEq, false_implies, forall_const, Bool.false_eq_true, List.set, true_or, if_true, if_false, Bool.not_true, Bool.not_false]
  generalize ns[7]?.getD 0 = last
  have cl : (cutL ns (some 1) (some 8)).length ≤ 63 := by
    unfold cutL
    rw [List.length_take, List.length_drop]; omega
  generalize cutL ns (some 1) (some 8) = xs at *
  refine ⟨sizeLine_big (by decide), sizeLine_big (by rw [List.length_map]; omega), fun i e l => l = [] ∧ ∃ x7 x8 x9 x10 x11 x12 x13 x14 x15 x16 x17 : Option D, e = [some (.d (.scr ns)), some (.d (.lst [.str (sL cs), .lst (iL ws), .int r])), some (.d (.str (sL cs))), some (.d (.lst (iL ws))), some (.d (.int r)), some (.d (codeD cs ws r)), some (.d (.int last)), x7.map SV.d, x8.map SV.d, x9.map SV.d, x10.map SV.d, x11.map SV.d, x12.map SV.d, x13.map SV.d, x14.map SV.d, x15.map SV.d, x16.map SV.d, x17.map SV.d], ⟨rfl, none, none, none, none, none, none, none, none, none, none, none, rfl⟩, ?_, ?_⟩
  · rintro i x e l hx ⟨rfl, x7, x8, x9, x10, x11, x12, x13, x14, x15, x16, x17, rfl⟩
    obtain ⟨c, hcx, rfl⟩ : ∃ c, (0 :: xs)[i]? = some c ∧ x = .int c := by
      have hx : (iL (0 :: xs))[i]? = some x := hx
      exact lst_it hx
    simp only [b42_7, len_ints, cutM, fnT, startE, List.length_cons, List.length_nil, List.map_cons, List.map_nil, List.cons_append, List.nil_append, Nat.sub_self, Nat.reduceSub, Nat.reduceAdd, Nat.reduceLT, List.replicate_zero, List.reduceReplicate, List.replicate_succ, wpSs, wpS, wpE, wpEs, wpT, wpI, wpC, List.getElem?_cons_zero, List.getElem?_cons_succ, List.getElem?_nil, den, dens, back, true_and, and_true, nrmE, nrmT, frzSlots, cutV1, frzT, frzL, eq_ii, eq_bb, eq_ss, eq_nn, D.isNon, o_add, o_adds, o_addl, o_sub, o_addt, n_split, n_find, o_mul, o_rep, o_div, o_mod, o_pow, c_lt, c_le, c_gt, c_ge, c_lts, c_eq, c_ne, c_is, c_isnot, c_in, c_notin, t_bl, t_non, t_int, t_lst, t_tup, x_lst, x_tup, x_scr, x_str, u_lst, u_scr, u_str, b_lenl, b_lent, b_lenc, b_lens, b_abs, b_max2, b_min2, b_int, b_inb, b_tup, b_dm, b_srtk, i_lst, i_tup, i_scr, is_n, is_b, exists_eq_left', exists_eq_left, exists_eq_right, Option.some.injEq,  partD, setS, setAll, tgD, tgSlots, wipeE, List.set_cons_zero, List.set_cons_succ, List.set_nil, List.take_nil, List.take_zero, m_f, m_t, r_int, r_bl, r_str, r_non, r_tup, r_lstf, r_lstt, r_v, r_newf, r_newt, List.any_cons, List.any_nil, owned, Bool.or_false, Bool.false_or, fl_bl, fl_int, fl_str, fl_non, fl_rs, exists_eq', Ct.lst.injEq, Ct.ob.injEq, D.kst.injEq, List.take_succ_cons, dat_lst, dat_ob, dat_fz, Option.some.injEq, SV.d.injEq, D.int.injEq, forall_eq', reduceCtorEq, false_implies, forall_const, Bool.false_eq_true, List.set, true_or, if_true, if_false, Bool.not_true, Bool.not_false]
    refine s_lword c3 (by omega) w8 fun ps hp hP => ?_
    simp only [fnT, startE, List.length_cons, List.length_nil, List.map_cons, List.map_nil, List.cons_append, List.nil_append, Nat.sub_self, Nat.reduceSub, Nat.reduceAdd, Nat.reduceLT, List.replicate_zero, List.reduceReplicate, List.replicate_succ, wpSs, wpS, wpE, wpEs, wpT, wpI, wpC, List.getElem?_cons_zero, List.getElem?_cons_succ, List.getElem?_nil, den, dens, back, true_and, and_true, nrmE, nrmT, frzSlots, cutV1, frzT, frzL, eq_ii, eq_bb, eq_ss, eq_nn, D.isNon, o_add, o_adds, o_addl, o_sub, o_addt, n_split, n_find, o_mul, o_rep, o_div, o_mod, o_pow, c_lt, c_le, c_gt, c_ge, c_lts, c_eq, c_ne, c_is, c_isnot, c_in, c_notin, t_bl, t_non, t_int, t_lst, t_tup, x_lst, x_tup, x_scr, x_str, u_lst, u_scr, u_str, b_lenl, b_lent, b_lenc, b_lens, b_abs, b_max2, b_min2, b_int, b_inb, b_tup, b_dm, b_srtk, i_lst, i_tup, i_scr, is_n, is_b, exists_eq_left', exists_eq_left, exists_eq_right, Option.some.injEq,  partD, setS, setAll, tgD, tgSlots, wipeE, List.set_cons_zero, List.set_cons_succ, List.set_nil, List.take_nil, List.take_zero, m_f, m_t, r_int, r_bl, r_str, r_non, r_tup, r_lstf, r_lstt, r_v, r_newf, r_newt, List.any_cons, List.any_nil, owned, Bool.or_false, Bool.false_or, fl_bl, fl_int, fl_str, fl_non, fl_rs, exists_eq', Ct.lst.injEq, Ct.ob.injEq, D.kst.injEq, List.take_succ_cons, dat_lst, dat_ob, dat_fz, Option.some.injEq, SV.d.injEq, D.int.injEq, forall_eq', reduceCtorEq, false_implies, forall_const, Bool.false_eq_true, List.set, true_or, if_true, if_false, Bool.not_true, Bool.not_false]
    refine s_ltext (by omega) hP (by omega) ?_
    simp only [fnT, startE, List.length_cons, List.length_nil, List.map_cons, List.map_nil, List.cons_append, List.nil_append, Nat.sub_self, Nat.reduceSub, Nat.reduceAdd, Nat.reduceLT, List.replicate_zero, List.reduceReplicate, List.replicate_succ, wpSs, wpS, wpE, wpEs, wpT, wpI, wpC, List.getElem?_cons_zero, List.getElem?_cons_succ, List.getElem?_nil, den, dens, back, true_and, and_true, nrmE, nrmT, frzSlots, cutV1, frzT, frzL, eq_ii, eq_bb, eq_ss, eq_nn, D.isNon, o_add, o_adds, o_addl, o_sub, o_addt, n_split, n_find, o_mul, o_rep, o_div, o_mod, o_pow, c_lt, c_le, c_gt, c_ge, c_lts, c_eq, c_ne, c_is, c_isnot, c_in, c_notin, t_bl, t_non, t_int, t_lst, t_tup, x_lst, x_tup, x_scr, x_str, u_lst, u_scr, u_str, b_lenl, b_lent, b_lenc, b_lens, b_abs, b_max2, b_min2, b_int, b_inb, b_tup, b_dm, b_srtk, i_lst, i_tup, i_scr, is_n, is_b, exists_eq_left', exists_eq_left, exists_eq_right, Option.some.injEq,  partD, setS, setAll, tgD, tgSlots, wipeE, List.set_cons_zero, List.set_cons_succ, List.set_nil, List.take_nil, List.take_zero, m_f, m_t, r_int, r_bl, r_str, r_non, r_tup, r_lstf, r_lstt, r_v, r_newf, r_newt, List.any_cons, List.any_nil, owned, Bool.or_false, Bool.false_or, fl_bl, fl_int, fl_str, fl_non, fl_rs, exists_eq', Ct.lst.injEq, Ct.ob.injEq, D.kst.injEq, List.take_succ_cons, dat_lst, dat_ob, dat_fz, Option.some.injEq, SV.d.injEq, D.int.injEq, forall_eq', reduceCtorEq, false_implies, forall_const, Bool.false_eq_true, List.set, true_or, if_true, if_false, Bool.not_true, Bool.not_false]
    refine s_mixed (by omega) (by omega) fun v v0 v1 => ?_
    simp only [fnT, startE, List.length_cons, List.length_nil, List.map_cons, List.map_nil, List.cons_append, List.nil_append, Nat.sub_self, Nat.reduceSub, Nat.reduceAdd, Nat.reduceLT, List.replicate_zero, List.reduceReplicate, List.replicate_succ, wpSs, wpS, wpE, wpEs, wpT, wpI, wpC, List.getElem?_cons_zero, List.getElem?_cons_succ, List.getElem?_nil, den, dens, back, true_and, and_true, nrmE, nrmT, frzSlots, cutV1, frzT, frzL, eq_ii, eq_bb, eq_ss, eq_nn, D.isNon, o_add, o_adds, o_addl, o_sub, o_addt, n_split, n_find, o_mul, o_rep, o_div, o_mod, o_pow, c_lt, c_le, c_gt, c_ge, c_lts, c_eq, c_ne, c_is, c_isnot, c_in, c_notin, t_bl, t_non, t_int, t_lst, t_tup, x_lst, x_tup, x_scr, x_str, u_lst, u_scr, u_str, b_lenl, b_lent, b_lenc, b_lens, b_abs, b_max2, b_min2, b_int, b_inb, b_tup, b_dm, b_srtk, i_lst, i_tup, i_scr, is_n, is_b, exists_eq_left', exists_eq_left, exists_eq_right, Option.some.injEq,  partD, setS, setAll, tgD, tgSlots, wipeE, List.set_cons_zero, List.set_cons_succ, List.set_nil, List.take_nil, List.take_zero, m_f, m_t, r_int, r_bl, r_str, r_non, r_tup, r_lstf, r_lstt, r_v, r_newf, r_newt, List.any_cons, List.any_nil, owned, Bool.or_false, Bool.false_or, fl_bl, fl_int, fl_str, fl_non, fl_rs, exists_eq', Ct.lst.injEq, Ct.ob.injEq, D.kst.injEq, List.take_succ_cons, dat_lst, dat_ob, dat_fz, Option.some.injEq, SV.d.injEq, D.int.injEq, forall_eq', reduceCtorEq, false_implies, forall_const, Bool.false_eq_true, List.set, true_or, if_true, if_false, Bool.not_true, Bool.not_false]
    obtain ⟨q, hq, q2, q3⟩ : ∃ q : Int, atI [D.int 2, D.int 3] (if (c == last) = true then 1 else 0) = some (.int q) ∧ 2 ≤ q ∧ q ≤ 3 := by
      split
      · exact ⟨3, rfl, by decide, by decide⟩
      · exact ⟨2, rfl, by decide, by decide⟩
    refine ⟨sizeLine_big (by decide), _, hq, ?_⟩
    clear hq
    simp only [fnT, startE, List.length_cons, List.length_nil, List.map_cons, List.map_nil, List.cons_append, List.nil_append, Nat.sub_self, Nat.reduceSub, Nat.reduceAdd, Nat.reduceLT, List.replicate_zero, List.reduceReplicate, List.replicate_succ, wpSs, wpS, wpE, wpEs, wpT, wpI, wpC, List.getElem?_cons_zero, List.getElem?_cons_succ, List.getElem?_nil, den, dens, back, true_and, and_true, nrmE, nrmT, frzSlots, cutV1, frzT, frzL, eq_ii, eq_bb, eq_ss, eq_nn, D.isNon, o_add, o_adds, o_addl, o_sub, o_addt, n_split, n_find, o_mul, o_rep, o_div, o_mod, o_pow, c_lt, c_le, c_gt, c_ge, c_lts, c_eq, c_ne, c_is, c_isnot, c_in, c_notin, t_bl, t_non, t_int, t_lst, t_tup, x_lst, x_tup, x_scr, x_str, u_lst, u_scr, u_str, b_lenl, b_lent, b_lenc, b_lens, b_abs, b_max2, b_min2, b_int, b_inb, b_tup, b_dm, b_srtk, i_lst, i_tup, i_scr, is_n, is_b, exists_eq_left', exists_eq_left, exists_eq_right, Option.some.injEq,  partD, setS, setAll, tgD, tgSlots, wipeE, List.set_cons_zero, List.set_cons_succ, List.set_nil, List.take_nil, List.take_zero, m_f, m_t, r_int, r_bl, r_str, r_non, r_tup, r_lstf, r_lstt, r_v, r_newf, r_newt, List.any_cons, List.any_nil, owned, Bool.or_false, Bool.false_or, fl_bl, fl_int, fl_str, fl_non, fl_rs, exists_eq', Ct.lst.injEq, Ct.ob.injEq, D.kst.injEq, List.take_succ_cons, dat_lst, dat_ob, dat_fz, Option.some.injEq, SV.d.injEq, D.int.injEq, forall_eq', reduceCtorEq, false_implies, forall_const, Bool.false_eq_true, List.set, true_or, if_true, if_false, Bool.not_true, Bool.not_false]
    have qp : 0 < q := by omega
    have t0 := Int.emod_nonneg v (Int.ne_of_gt qp)
    have t1 := Int.emod_lt_of_pos v qp
    have pl : (wrd cs ps).length = ws.length := by rw [wrd_len, hp]
    refine ⟨qp, ?_⟩
    refine s_torn (by omega) (by omega) (wrd_in hP) n63 (by omega) (by omega) fun ts t => ?_
    rw [pl] at t
    simp only [fnT, startE, List.length_cons, List.length_nil, List.map_cons, List.map_nil, List.cons_append, List.nil_append, Nat.sub_self, Nat.reduceSub, Nat.reduceAdd, Nat.reduceLT, List.replicate_zero, List.reduceReplicate, List.replicate_succ, wpSs, wpS, wpE, wpEs, wpT, wpI, wpC, List.getElem?_cons_zero, List.getElem?_cons_succ, List.getElem?_nil, den, dens, back, true_and, and_true, nrmE, nrmT, frzSlots, cutV1, frzT, frzL, eq_ii, eq_bb, eq_ss, eq_nn, D.isNon, o_add, o_adds, o_addl, o_sub, o_addt, n_split, n_find, o_mul, o_rep, o_div, o_mod, o_pow, c_lt, c_le, c_gt, c_ge, c_lts, c_eq, c_ne, c_is, c_isnot, c_in, c_notin, t_bl, t_non, t_int, t_lst, t_tup, x_lst, x_tup, x_scr, x_str, u_lst, u_scr, u_str, b_lenl, b_lent, b_lenc, b_lens, b_abs, b_max2, b_min2, b_int, b_inb, b_tup, b_dm, b_srtk, i_lst, i_tup, i_scr, is_n, is_b, exists_eq_left', exists_eq_left, exists_eq_right, Option.some.injEq,  partD, setS, setAll, tgD, tgSlots, wipeE, List.set_cons_zero, List.set_cons_succ, List.set_nil, List.take_nil, List.take_zero, m_f, m_t, r_int, r_bl, r_str, r_non, r_tup, r_lstf, r_lstt, r_v, r_newf, r_newt, List.any_cons, List.any_nil, owned, Bool.or_false, Bool.false_or, fl_bl, fl_int, fl_str, fl_non, fl_rs, exists_eq', Ct.lst.injEq, Ct.ob.injEq, D.kst.injEq, List.take_succ_cons, dat_lst, dat_ob, dat_fz, Option.some.injEq, SV.d.injEq, D.int.injEq, forall_eq', reduceCtorEq, false_implies, forall_const, Bool.false_eq_true, List.set, true_or, if_true, if_false, Bool.not_true, Bool.not_false]
    obtain ⟨e_, he⟩ := last_gap t.g1
    obtain ⟨al, up, aR⟩ := torn_all o t he
    have g3 := t.g3
    have g1 := t.g1
    have tl := t.len
    have pw := pow_le (m := cs.length) (g := gq ts) (by omega) g3
    refine s_fitting o t he (by omega) ?_
    have refit : ∀ {k' : Rs → Prop} {z' : Xn → Prop} {n' : Nat}, k' (.new (wL cs (allT cs ts ws r e_))) → wpF fnT gcT (n' + 4) 5 [codeD cs ws r, .str (sL ts)] k' z' := fun h => s_fitting o t he (by omega) h
    generalize allT cs ts ws r e_ = rows at *
    have rl : rows.length ≤ 676 := by omega
    have hR : ∀ q ∈ rows, Lt q cs.length ∧ q.length = ws.length := fun q hq => ⟨(aR q hq).1, (aR q hq).2.1⟩
    simp only [len_ints, fnT, startE, List.length_cons, List.length_nil, List.map_cons, List.map_nil, List.cons_append, List.nil_append, Nat.sub_self, Nat.reduceSub, Nat.reduceAdd, Nat.reduceLT, List.replicate_zero, List.reduceReplicate, List.replicate_succ, wpSs, wpS, wpE, wpEs, wpT, wpI, wpC, List.getElem?_cons_zero, List.getElem?_cons_succ, List.getElem?_nil, den, dens, back, true_and, and_true, nrmE, nrmT, frzSlots, cutV1, frzT, frzL, eq_ii, eq_bb, eq_ss, eq_nn, D.isNon, o_add, o_adds, o_addl, o_sub, o_addt, n_split, n_find, o_mul, o_rep, o_div, o_mod, o_pow, c_lt, c_le, c_gt, c_ge, c_lts, c_eq, c_ne, c_is, c_isnot, c_in, c_notin, t_bl, t_non, t_int, t_lst, t_tup, x_lst, x_tup, x_scr, x_str, u_lst, u_scr, u_str, b_lenl, b_lent, b_lenc, b_lens, b_abs, b_max2, b_min2, b_int, b_inb, b_tup, b_dm, b_srtk, i_lst, i_tup, i_scr, is_n, is_b, exists_eq_left', exists_eq_left, exists_eq_right, Option.some.injEq,  partD, setS, setAll, tgD, tgSlots, wipeE, List.set_cons_zero, List.set_cons_succ, List.set_nil, List.take_nil, List.take_zero, m_f, m_t, r_int, r_bl, r_str, r_non, r_tup, r_lstf, r_lstt, r_v, r_newf, r_newt, List.any_cons, List.any_nil, owned, Bool.or_false, Bool.false_or, fl_bl, fl_int, fl_str, fl_non, fl_rs, exists_eq', Ct.lst.injEq, Ct.ob.injEq, D.kst.injEq, List.take_succ_cons, dat_lst, dat_ob, dat_fz, Option.some.injEq, SV.d.injEq, D.int.injEq, forall_eq', reduceCtorEq, false_implies, forall_const, Bool.false_eq_true, List.set, true_or, if_true, if_false, Bool.not_true, Bool.not_false]
    refine s_rising hc w8 (by omega) hR up ?_
    refine ⟨.inr ⟨noS_rows fun q hq e => ?_, ?_⟩, ?_⟩
    · have := (hR q hq).2
      rw [e] at this
      simp at this
      omega
    · show (Ct.strs (.lst (wL cs _)) && true) = true
      rw [strs_w]; rfl
    simp only [fnT, startE, List.length_cons, List.length_nil, List.map_cons, List.map_nil, List.cons_append, List.nil_append, Nat.sub_self, Nat.reduceSub, Nat.reduceAdd, Nat.reduceLT, List.replicate_zero, List.reduceReplicate, List.replicate_succ, wpSs, wpS, wpE, wpEs, wpT, wpI, wpC, List.getElem?_cons_zero, List.getElem?_cons_succ, List.getElem?_nil, den, dens, back, true_and, and_true, nrmE, nrmT, frzSlots, cutV1, frzT, frzL, eq_ii, eq_bb, eq_ss, eq_nn, D.isNon, o_add, o_adds, o_addl, o_sub, o_addt, n_split, n_find, o_mul, o_rep, o_div, o_mod, o_pow, c_lt, c_le, c_gt, c_ge, c_lts, c_eq, c_ne, c_is, c_isnot, c_in, c_notin, t_bl, t_non, t_int, t_lst, t_tup, x_lst, x_tup, x_scr, x_str, u_lst, u_scr, u_str, b_lenl, b_lent, b_lenc, b_lens, b_abs, b_max2, b_min2, b_int, b_inb, b_tup, b_dm, b_srtk, i_lst, i_tup, i_scr, is_n, is_b, exists_eq_left', exists_eq_left, exists_eq_right, Option.some.injEq,  partD, setS, setAll, tgD, tgSlots, wipeE, List.set_cons_zero, List.set_cons_succ, List.set_nil, List.take_nil, List.take_zero, m_f, m_t, r_int, r_bl, r_str, r_non, r_tup, r_lstf, r_lstt, r_v, r_newf, r_newt, List.any_cons, List.any_nil, owned, Bool.or_false, Bool.false_or, fl_bl, fl_int, fl_str, fl_non, fl_rs, exists_eq', Ct.lst.injEq, Ct.ob.injEq, D.kst.injEq, List.take_succ_cons, dat_lst, dat_ob, dat_fz, Option.some.injEq, SV.d.injEq, D.int.injEq, forall_eq', reduceCtorEq, false_implies, forall_const, Bool.false_eq_true, List.set, true_or, if_true, if_false, Bool.not_true, Bool.not_false]
    rw [q_str, n_count, count_sL]
    simp only [fnT, startE, List.length_cons, List.length_nil, List.map_cons, List.map_nil, List.cons_append, List.nil_append, Nat.sub_self, Nat.reduceSub, Nat.reduceAdd, Nat.reduceLT, List.replicate_zero, List.reduceReplicate, List.replicate_succ, wpSs, wpS, wpE, wpEs, wpT, wpI, wpC, List.getElem?_cons_zero, List.getElem?_cons_succ, List.getElem?_nil, den, dens, back, true_and, and_true, nrmE, nrmT, frzSlots, cutV1, frzT, frzL, eq_ii, eq_bb, eq_ss, eq_nn, D.isNon, o_add, o_adds, o_addl, o_sub, o_addt, n_split, n_find, o_mul, o_rep, o_div, o_mod, o_pow, c_lt, c_le, c_gt, c_ge, c_lts, c_eq, c_ne, c_is, c_isnot, c_in, c_notin, t_bl, t_non, t_int, t_lst, t_tup, x_lst, x_tup, x_scr, x_str, u_lst, u_scr, u_str, b_lenl, b_lent, b_lenc, b_lens, b_abs, b_max2, b_min2, b_int, b_inb, b_tup, b_dm, b_srtk, i_lst, i_tup, i_scr, is_n, is_b, exists_eq_left', exists_eq_left, exists_eq_right, Option.some.injEq,  partD, setS, setAll, tgD, tgSlots, wipeE, List.set_cons_zero, List.set_cons_succ, List.set_nil, List.take_nil, List.take_zero, m_f, m_t, r_int, r_bl, r_str, r_non, r_tup, r_lstf, r_lstt, r_v, r_newf, r_newt, List.any_cons, List.any_nil, owned, Bool.or_false, Bool.false_or, fl_bl, fl_int, fl_str, fl_non, fl_rs, exists_eq', Ct.lst.injEq, Ct.ob.injEq, D.kst.injEq, List.take_succ_cons, dat_lst, dat_ob, dat_fz, Option.some.injEq, SV.d.injEq, D.int.injEq, forall_eq', reduceCtorEq, false_implies, forall_const, Bool.false_eq_true, List.set, true_or, if_true, if_false, Bool.not_true, Bool.not_false]
    refine ⟨by omega, by omega, fun i e l => i ≤ 2 ∧ l = [.lst (wL cs rows)] ∧ ∃ x13 x14 x15 x16 x17 : Option D, e = [some (.d (.scr ns)), some (.d (.lst [.str (sL cs), .lst (iL ws), .int r])), some (.d (.str (sL cs))), some (.d (.lst (iL ws))), some (.d (.int r)), some (.d (codeD cs ws r)), some (.d (.int last)), some (.d (.int c)), some (.d (.str (sL (wrd cs ps)))), some (.d (.str (sL ts))), some (.c 0), some (.d (.lst (rL rows))), some (.d (.int ((cs.length ^ i : Nat) : Int))), x13.map SV.d, x14.map SV.d, x15.map SV.d, x16.map SV.d, x17.map SV.d], ⟨by omega, rfl, x13, x14, x15, x16, x17, by cases x13 <;> cases x14 <;> cases x15 <;> cases x16 <;> cases x17 <;> rfl⟩, ?_, ?_⟩
    · rintro i x e l hx ⟨hi2, rfl, x13, x14, x15, x16, x17, rfl⟩
      obtain ⟨hi, rfl⟩ := rng_it hx
      have pi : cs.length ^ i ≤ 676 := Nat.le_trans (Nat.pow_le_pow_left (show cs.length ≤ 26 by omega) _) (by rcases (show i = 0 ∨ i = 1 ∨ i = 2 by omega) with e | e | e <;> rw [e] <;> decide)
      simp only [b42_0, len_sL, cutM, fnT, startE, List.length_cons, List.length_nil, List.map_cons, List.map_nil, List.cons_append, List.nil_append, Nat.sub_self, Nat.reduceSub, Nat.reduceAdd, Nat.reduceLT, List.replicate_zero, List.reduceReplicate, List.replicate_succ, wpSs, wpS, wpE, wpEs, wpT, wpI, wpC, List.getElem?_cons_zero, List.getElem?_cons_succ, List.getElem?_nil, den, dens, back, true_and, and_true, nrmE, nrmT, frzSlots, cutV1, frzT, frzL, eq_ii, eq_bb, eq_ss, eq_nn, D.isNon, o_add, o_adds, o_addl, o_sub, o_addt, n_split, n_find, o_mul, o_rep, o_div, o_mod, o_pow, c_lt, c_le, c_gt, c_ge, c_lts, c_eq, c_ne, c_is, c_isnot, c_in, c_notin, t_bl, t_non, t_int, t_lst, t_tup, x_lst, x_tup, x_scr, x_str, u_lst, u_scr, u_str, b_lenl, b_lent, b_lenc, b_lens, b_abs, b_max2, b_min2, b_int, b_inb, b_tup, b_dm, b_srtk, i_lst, i_tup, i_scr, is_n, is_b, exists_eq_left', exists_eq_left, exists_eq_right, Option.some.injEq,  partD, setS, setAll, tgD, tgSlots, wipeE, List.set_cons_zero, List.set_cons_succ, List.set_nil, List.take_nil, List.take_zero, m_f, m_t, r_int, r_bl, r_str, r_non, r_tup, r_lstf, r_lstt, r_v, r_newf, r_newt, List.any_cons, List.any_nil, owned, Bool.or_false, Bool.false_or, fl_bl, fl_int, fl_str, fl_non, fl_rs, exists_eq', Ct.lst.injEq, Ct.ob.injEq, D.kst.injEq, List.take_succ_cons, dat_lst, dat_ob, dat_fz, Option.some.injEq, SV.d.injEq, D.int.injEq, forall_eq', reduceCtorEq, false_implies, forall_const, Bool.false_eq_true, List.set, true_or, if_true, if_false, Bool.not_true, Bool.not_false]
      have e3 : ((cs.length ^ (i + 1) : Nat) : Int) = ((cs.length ^ i : Nat) : Int) * (cs.length : Int) := by rw [Nat.pow_succ]; exact Int.natCast_mul _ _
      exact ⟨sizeLine_big (by omega), mul_of 10 10 (by omega) (by omega) (by decide), by omega, some (.int (i : Int)), x14, x15, x16, x17, by rw [e3]; cases x14 <;> cases x15 <;> cases x16 <;> cases x17 <;> rfl⟩
    · rintro e l ⟨hi2, rfl, x13, x14, x15, x16, x17, rfl⟩
      rw [rng_len] at hi2 ⊢
      rw [show ((gq ts : Int) - 1).toNat = gq ts - 1 by omega, ← al]
      simp only [b42_6, List.length_map, fnT, startE, List.length_cons, List.length_nil, List.map_cons, List.map_nil, List.cons_append, List.nil_append, Nat.sub_self, Nat.reduceSub, Nat.reduceAdd, Nat.reduceLT, List.replicate_zero, List.reduceReplicate, List.replicate_succ, wpSs, wpS, wpE, wpEs, wpT, wpI, wpC, List.getElem?_cons_zero, List.getElem?_cons_succ, List.getElem?_nil, den, dens, back, true_and, and_true, nrmE, nrmT, frzSlots, cutV1, frzT, frzL, eq_ii, eq_bb, eq_ss, eq_nn, D.isNon, o_add, o_adds, o_addl, o_sub, o_addt, n_split, n_find, o_mul, o_rep, o_div, o_mod, o_pow, c_lt, c_le, c_gt, c_ge, c_lts, c_eq, c_ne, c_is, c_isnot, c_in, c_notin, t_bl, t_non, t_int, t_lst, t_tup, x_lst, x_tup, x_scr, x_str, u_lst, u_scr, u_str, b_lenl, b_lent, b_lenc, b_lens, b_abs, b_max2, b_min2, b_int, b_inb, b_tup, b_dm, b_srtk, i_lst, i_tup, i_scr, is_n, is_b, exists_eq_left', exists_eq_left, exists_eq_right, Option.some.injEq,  partD, setS, setAll, tgD, tgSlots, wipeE, List.set_cons_zero, List.set_cons_succ, List.set_nil, List.take_nil, List.take_zero, m_f, m_t, r_int, r_bl, r_str, r_non, r_tup, r_lstf, r_lstt, r_v, r_newf, r_newt, List.any_cons, List.any_nil, owned, Bool.or_false, Bool.false_or, fl_bl, fl_int, fl_str, fl_non, fl_rs, exists_eq', Ct.lst.injEq, Ct.ob.injEq, D.kst.injEq, List.take_succ_cons, dat_lst, dat_ob, dat_fz, Option.some.injEq, SV.d.injEq, D.int.injEq, forall_eq', reduceCtorEq, false_implies, forall_const, Bool.false_eq_true, List.set, true_or, if_true, if_false, Bool.not_true, Bool.not_false]
      refine ⟨fun hb => by simp at hb, fun _ => ?_⟩
      simp only [b42_5, cutM, fnT, startE, List.length_cons, List.length_nil, List.map_cons, List.map_nil, List.cons_append, List.nil_append, Nat.sub_self, Nat.reduceSub, Nat.reduceAdd, Nat.reduceLT, List.replicate_zero, List.reduceReplicate, List.replicate_succ, wpSs, wpS, wpE, wpEs, wpT, wpI, wpC, List.getElem?_cons_zero, List.getElem?_cons_succ, List.getElem?_nil, den, dens, back, true_and, and_true, nrmE, nrmT, frzSlots, cutV1, frzT, frzL, eq_ii, eq_bb, eq_ss, eq_nn, D.isNon, o_add, o_adds, o_addl, o_sub, o_addt, n_split, n_find, o_mul, o_rep, o_div, o_mod, o_pow, c_lt, c_le, c_gt, c_ge, c_lts, c_eq, c_ne, c_is, c_isnot, c_in, c_notin, t_bl, t_non, t_int, t_lst, t_tup, x_lst, x_tup, x_scr, x_str, u_lst, u_scr, u_str, b_lenl, b_lent, b_lenc, b_lens, b_abs, b_max2, b_min2, b_int, b_inb, b_tup, b_dm, b_srtk, i_lst, i_tup, i_scr, is_n, is_b, exists_eq_left', exists_eq_left, exists_eq_right, Option.some.injEq,  partD, setS, setAll, tgD, tgSlots, wipeE, List.set_cons_zero, List.set_cons_succ, List.set_nil, List.take_nil, List.take_zero, m_f, m_t, r_int, r_bl, r_str, r_non, r_tup, r_lstf, r_lstt, r_v, r_newf, r_newt, List.any_cons, List.any_nil, owned, Bool.or_false, Bool.false_or, fl_bl, fl_int, fl_str, fl_non, fl_rs, exists_eq', Ct.lst.injEq, Ct.ob.injEq, D.kst.injEq, List.take_succ_cons, dat_lst, dat_ob, dat_fz, Option.some.injEq, SV.d.injEq, D.int.injEq, forall_eq', reduceCtorEq, false_implies, forall_const, Bool.false_eq_true, List.set, true_or, if_true, if_false, Bool.not_true, Bool.not_false]
      refine ⟨fun i e l => l = [.lst (wL cs rows)] ∧ ∃ x13 x14 x15 x16 x17 : Option D, e = [some (.d (.scr ns)), some (.d (.lst [.str (sL cs), .lst (iL ws), .int r])), some (.d (.str (sL cs))), some (.d (.lst (iL ws))), some (.d (.int r)), some (.d (codeD cs ws r)), some (.d (.int last)), some (.d (.int c)), some (.d (.str (sL (wrd cs ps)))), some (.d (.str (sL ts))), some (.c 0), some (.d (.lst (rL rows))), some (.d (.int (rows.length : Int))), x13.map SV.d, x14.map SV.d, x15.map SV.d, x16.map SV.d, x17.map SV.d], ⟨rfl, x13, x14, x15, x16, x17, by cases x13 <;> cases x14 <;> cases x15 <;> cases x16 <;> cases x17 <;> rfl⟩, ?_, ?_⟩
      · rintro i x e l hx ⟨rfl, x13, x14, x15, x16, x17, rfl⟩
        rw [List.getElem?_map, Option.map_eq_some_iff] at hx
        obtain ⟨row, hr, rfl⟩ := hx
        obtain ⟨y1, y2, y3, y4⟩ := aR row (List.mem_of_getElem? hr)
        simp only [b42_1, cutM, fnT, startE, List.length_cons, List.length_nil, List.map_cons, List.map_nil, List.cons_append, List.nil_append, Nat.sub_self, Nat.reduceSub, Nat.reduceAdd, Nat.reduceLT, List.replicate_zero, List.reduceReplicate, List.replicate_succ, wpSs, wpS, wpE, wpEs, wpT, wpI, wpC, List.getElem?_cons_zero, List.getElem?_cons_succ, List.getElem?_nil, den, dens, back, true_and, and_true, nrmE, nrmT, frzSlots, cutV1, frzT, frzL, eq_ii, eq_bb, eq_ss, eq_nn, D.isNon, o_add, o_adds, o_addl, o_sub, o_addt, n_split, n_find, o_mul, o_rep, o_div, o_mod, o_pow, c_lt, c_le, c_gt, c_ge, c_lts, c_eq, c_ne, c_is, c_isnot, c_in, c_notin, t_bl, t_non, t_int, t_lst, t_tup, x_lst, x_tup, x_scr, x_str, u_lst, u_scr, u_str, b_lenl, b_lent, b_lenc, b_lens, b_abs, b_max2, b_min2, b_int, b_inb, b_tup, b_dm, b_srtk, i_lst, i_tup, i_scr, is_n, is_b, exists_eq_left', exists_eq_left, exists_eq_right, Option.some.injEq,  partD, setS, setAll, tgD, tgSlots, wipeE, List.set_cons_zero, List.set_cons_succ, List.set_nil, List.take_nil, List.take_zero, m_f, m_t, r_int, r_bl, r_str, r_non, r_tup, r_lstf, r_lstt, r_v, r_newf, r_newt, List.any_cons, List.any_nil, owned, Bool.or_false, Bool.false_or, fl_bl, fl_int, fl_str, fl_non, fl_rs, exists_eq', Ct.lst.injEq, Ct.ob.injEq, D.kst.injEq, List.take_succ_cons, dat_lst, dat_ob, dat_fz, Option.some.injEq, SV.d.injEq, D.int.injEq, forall_eq', reduceCtorEq, false_implies, forall_const, Bool.false_eq_true, List.set, true_or, if_true, if_false, Bool.not_true, Bool.not_false]
        refine s_lfits o t y1 y2 y3 y4 ?_
        simp only [fnT, startE, List.length_cons, List.length_nil, List.map_cons, List.map_nil, List.cons_append, List.nil_append, Nat.sub_self, Nat.reduceSub, Nat.reduceAdd, Nat.reduceLT, List.replicate_zero, List.reduceReplicate, List.replicate_succ, wpSs, wpS, wpE, wpEs, wpT, wpI, wpC, List.getElem?_cons_zero, List.getElem?_cons_succ, List.getElem?_nil, den, dens, back, true_and, and_true, nrmE, nrmT, frzSlots, cutV1, frzT, frzL, eq_ii, eq_bb, eq_ss, eq_nn, D.isNon, o_add, o_adds, o_addl, o_sub, o_addt, n_split, n_find, o_mul, o_rep, o_div, o_mod, o_pow, c_lt, c_le, c_gt, c_ge, c_lts, c_eq, c_ne, c_is, c_isnot, c_in, c_notin, t_bl, t_non, t_int, t_lst, t_tup, x_lst, x_tup, x_scr, x_str, u_lst, u_scr, u_str, b_lenl, b_lent, b_lenc, b_lens, b_abs, b_max2, b_min2, b_int, b_inb, b_tup, b_dm, b_srtk, i_lst, i_tup, i_scr, is_n, is_b, exists_eq_left', exists_eq_left, exists_eq_right, Option.some.injEq,  partD, setS, setAll, tgD, tgSlots, wipeE, List.set_cons_zero, List.set_cons_succ, List.set_nil, List.take_nil, List.take_zero, m_f, m_t, r_int, r_bl, r_str, r_non, r_tup, r_lstf, r_lstt, r_v, r_newf, r_newt, List.any_cons, List.any_nil, owned, Bool.or_false, Bool.false_or, fl_bl, fl_int, fl_str, fl_non, fl_rs, exists_eq', Ct.lst.injEq, Ct.ob.injEq, D.kst.injEq, List.take_succ_cons, dat_lst, dat_ob, dat_fz, Option.some.injEq, SV.d.injEq, D.int.injEq, forall_eq', reduceCtorEq, false_implies, forall_const, Bool.false_eq_true, List.set, true_or, if_true, if_false, Bool.not_true, Bool.not_false]
        exact ⟨x13, some (rowD row), x15, x16, x17, by cases x13 <;> cases x15 <;> cases x16 <;> cases x17 <;> rfl⟩
      · rintro e l ⟨rfl, x13, x14, x15, x16, x17, rfl⟩
        simp only [b42_4, q_str, fnT, startE, List.length_cons, List.length_nil, List.map_cons, List.map_nil, List.cons_append, List.nil_append, Nat.sub_self, Nat.reduceSub, Nat.reduceAdd, Nat.reduceLT, List.replicate_zero, List.reduceReplicate, List.replicate_succ, wpSs, wpS, wpE, wpEs, wpT, wpI, wpC, List.getElem?_cons_zero, List.getElem?_cons_succ, List.getElem?_nil, den, dens, back, true_and, and_true, nrmE, nrmT, frzSlots, cutV1, frzT, frzL, eq_ii, eq_bb, eq_ss, eq_nn, D.isNon, o_add, o_adds, o_addl, o_sub, o_addt, n_split, n_find, o_mul, o_rep, o_div, o_mod, o_pow, c_lt, c_le, c_gt, c_ge, c_lts, c_eq, c_ne, c_is, c_isnot, c_in, c_notin, t_bl, t_non, t_int, t_lst, t_tup, x_lst, x_tup, x_scr, x_str, u_lst, u_scr, u_str, b_lenl, b_lent, b_lenc, b_lens, b_abs, b_max2, b_min2, b_int, b_inb, b_tup, b_dm, b_srtk, i_lst, i_tup, i_scr, is_n, is_b, exists_eq_left', exists_eq_left, exists_eq_right, Option.some.injEq,  partD, setS, setAll, tgD, tgSlots, wipeE, List.set_cons_zero, List.set_cons_succ, List.set_nil, List.take_nil, List.take_zero, m_f, m_t, r_int, r_bl, r_str, r_non, r_tup, r_lstf, r_lstt, r_v, r_newf, r_newt, List.any_cons, List.any_nil, owned, Bool.or_false, Bool.false_or, fl_bl, fl_int, fl_str, fl_non, fl_rs, exists_eq', Ct.lst.injEq, Ct.ob.injEq, D.kst.injEq, List.take_succ_cons, dat_lst, dat_ob, dat_fz, Option.some.injEq, SV.d.injEq, D.int.injEq, forall_eq', reduceCtorEq, false_implies, forall_const, Bool.false_eq_true, List.set, true_or, if_true, if_false, Bool.not_true, Bool.not_false]
        rw [n_count, count_sL]
        simp only [fnT, startE, List.length_cons, List.length_nil, List.map_cons, List.map_nil, List.cons_append, List.nil_append, Nat.sub_self, Nat.reduceSub, Nat.reduceAdd, Nat.reduceLT, List.replicate_zero, List.reduceReplicate, List.replicate_succ, wpSs, wpS, wpE, wpEs, wpT, wpI, wpC, List.getElem?_cons_zero, List.getElem?_cons_succ, List.getElem?_nil, den, dens, back, true_and, and_true, nrmE, nrmT, frzSlots, cutV1, frzT, frzL, eq_ii, eq_bb, eq_ss, eq_nn, D.isNon, o_add, o_adds, o_addl, o_sub, o_addt, n_split, n_find, o_mul, o_rep, o_div, o_mod, o_pow, c_lt, c_le, c_gt, c_ge, c_lts, c_eq, c_ne, c_is, c_isnot, c_in, c_notin, t_bl, t_non, t_int, t_lst, t_tup, x_lst, x_tup, x_scr, x_str, u_lst, u_scr, u_str, b_lenl, b_lent, b_lenc, b_lens, b_abs, b_max2, b_min2, b_int, b_inb, b_tup, b_dm, b_srtk, i_lst, i_tup, i_scr, is_n, is_b, exists_eq_left', exists_eq_left, exists_eq_right, Option.some.injEq,  partD, setS, setAll, tgD, tgSlots, wipeE, List.set_cons_zero, List.set_cons_succ, List.set_nil, List.take_nil, List.take_zero, m_f, m_t, r_int, r_bl, r_str, r_non, r_tup, r_lstf, r_lstt, r_v, r_newf, r_newt, List.any_cons, List.any_nil, owned, Bool.or_false, Bool.false_or, fl_bl, fl_int, fl_str, fl_non, fl_rs, exists_eq', Ct.lst.injEq, Ct.ob.injEq, D.kst.injEq, List.take_succ_cons, dat_lst, dat_ob, dat_fz, Option.some.injEq, SV.d.injEq, D.int.injEq, forall_eq', reduceCtorEq, false_implies, forall_const, Bool.false_eq_true, List.set, true_or, if_true, if_false, Bool.not_true, Bool.not_false]
        refine (fun (hfin : ∀ x15 : Option D, wpSs _ _ _ [some (.d (.scr ns)), some (.d (.lst [.str (sL cs), .lst (iL ws), .int r])), some (.d (.str (sL cs))), some (.d (.lst (iL ws))), some (.d (.int r)), some (.d (codeD cs ws r)), some (.d (.int last)), some (.d (.int c)), some (.d (.str (sL (wrd cs ps)))), some (.d (.str (sL ts))), some (.c 0), some (.d (.lst (rL rows))), some (.d (.int (rows.length : Int))), x13.map SV.d, x14.map SV.d, x15.map SV.d, x16.map SV.d, x17.map SV.d] [.lst []] _) => And.intro (fun hb => ?_) (fun hb => hfin x15)) ?_
        · refine refit ?_
          simp only [len_ints, fnT, startE, List.length_cons, List.length_nil, List.map_cons, List.map_nil, List.cons_append, List.nil_append, Nat.sub_self, Nat.reduceSub, Nat.reduceAdd, Nat.reduceLT, List.replicate_zero, List.reduceReplicate, List.replicate_succ, wpSs, wpS, wpE, wpEs, wpT, wpI, wpC, List.getElem?_cons_zero, List.getElem?_cons_succ, List.getElem?_nil, den, dens, back, true_and, and_true, nrmE, nrmT, frzSlots, cutV1, frzT, frzL, eq_ii, eq_bb, eq_ss, eq_nn, D.isNon, o_add, o_adds, o_addl, o_sub, o_addt, n_split, n_find, o_mul, o_rep, o_div, o_mod, o_pow, c_lt, c_le, c_gt, c_ge, c_lts, c_eq, c_ne, c_is, c_isnot, c_in, c_notin, t_bl, t_non, t_int, t_lst, t_tup, x_lst, x_tup, x_scr, x_str, u_lst, u_scr, u_str, b_lenl, b_lent, b_lenc, b_lens, b_abs, b_max2, b_min2, b_int, b_inb, b_tup, b_dm, b_srtk, i_lst, i_tup, i_scr, is_n, is_b, exists_eq_left', exists_eq_left, exists_eq_right, Option.some.injEq,  partD, setS, setAll, tgD, tgSlots, wipeE, List.set_cons_zero, List.set_cons_succ, List.set_nil, List.take_nil, List.take_zero, m_f, m_t, r_int, r_bl, r_str, r_non, r_tup, r_lstf, r_lstt, r_v, r_newf, r_newt, List.any_cons, List.any_nil, owned, Bool.or_false, Bool.false_or, fl_bl, fl_int, fl_str, fl_non, fl_rs, exists_eq', Ct.lst.injEq, Ct.ob.injEq, D.kst.injEq, List.take_succ_cons, dat_lst, dat_ob, dat_fz, Option.some.injEq, SV.d.injEq, D.int.injEq, forall_eq', reduceCtorEq, false_implies, forall_const, Bool.false_eq_true, List.set, true_or, if_true, if_false, Bool.not_true, Bool.not_false]
          refine s_rising hc w8 (by omega) hR up ?_
          simp only [fnT, startE, List.length_cons, List.length_nil, List.map_cons, List.map_nil, List.cons_append, List.nil_append, Nat.sub_self, Nat.reduceSub, Nat.reduceAdd, Nat.reduceLT, List.replicate_zero, List.reduceReplicate, List.replicate_succ, wpSs, wpS, wpE, wpEs, wpT, wpI, wpC, List.getElem?_cons_zero, List.getElem?_cons_succ, List.getElem?_nil, den, dens, back, true_and, and_true, nrmE, nrmT, frzSlots, cutV1, frzT, frzL, eq_ii, eq_bb, eq_ss, eq_nn, D.isNon, o_add, o_adds, o_addl, o_sub, o_addt, n_split, n_find, o_mul, o_rep, o_div, o_mod, o_pow, c_lt, c_le, c_gt, c_ge, c_lts, c_eq, c_ne, c_is, c_isnot, c_in, c_notin, t_bl, t_non, t_int, t_lst, t_tup, x_lst, x_tup, x_scr, x_str, u_lst, u_scr, u_str, b_lenl, b_lent, b_lenc, b_lens, b_abs, b_max2, b_min2, b_int, b_inb, b_tup, b_dm, b_srtk, i_lst, i_tup, i_scr, is_n, is_b, exists_eq_left', exists_eq_left, exists_eq_right, Option.some.injEq,  partD, setS, setAll, tgD, tgSlots, wipeE, List.set_cons_zero, List.set_cons_succ, List.set_nil, List.take_nil, List.take_zero, m_f, m_t, r_int, r_bl, r_str, r_non, r_tup, r_lstf, r_lstt, r_v, r_newf, r_newt, List.any_cons, List.any_nil, owned, Bool.or_false, Bool.false_or, fl_bl, fl_int, fl_str, fl_non, fl_rs, exists_eq', Ct.lst.injEq, Ct.ob.injEq, D.kst.injEq, List.take_succ_cons, dat_lst, dat_ob, dat_fz, Option.some.injEq, SV.d.injEq, D.int.injEq, forall_eq', reduceCtorEq, false_implies, forall_const, Bool.false_eq_true, List.set, true_or, if_true, if_false, Bool.not_true, Bool.not_false]
          exact eq_rows ⟨fun z => by simp at z, fun _ => hfin (some _)⟩
        · intro x15
          simp only [b42_3, cutM, fnT, startE, List.length_cons, List.length_nil, List.map_cons, List.map_nil, List.cons_append, List.nil_append, Nat.sub_self, Nat.reduceSub, Nat.reduceAdd, Nat.reduceLT, List.replicate_zero, List.reduceReplicate, List.replicate_succ, wpSs, wpS, wpE, wpEs, wpT, wpI, wpC, List.getElem?_cons_zero, List.getElem?_cons_succ, List.getElem?_nil, den, dens, back, true_and, and_true, nrmE, nrmT, frzSlots, cutV1, frzT, frzL, eq_ii, eq_bb, eq_ss, eq_nn, D.isNon, o_add, o_adds, o_addl, o_sub, o_addt, n_split, n_find, o_mul, o_rep, o_div, o_mod, o_pow, c_lt, c_le, c_gt, c_ge, c_lts, c_eq, c_ne, c_is, c_isnot, c_in, c_notin, t_bl, t_non, t_int, t_lst, t_tup, x_lst, x_tup, x_scr, x_str, u_lst, u_scr, u_str, b_lenl, b_lent, b_lenc, b_lens, b_abs, b_max2, b_min2, b_int, b_inb, b_tup, b_dm, b_srtk, i_lst, i_tup, i_scr, is_n, is_b, exists_eq_left', exists_eq_left, exists_eq_right, Option.some.injEq,  partD, setS, setAll, tgD, tgSlots, wipeE, List.set_cons_zero, List.set_cons_succ, List.set_nil, List.take_nil, List.take_zero, m_f, m_t, r_int, r_bl, r_str, r_non, r_tup, r_lstf, r_lstt, r_v, r_newf, r_newt, List.any_cons, List.any_nil, owned, Bool.or_false, Bool.false_or, fl_bl, fl_int, fl_str, fl_non, fl_rs, exists_eq', Ct.lst.injEq, Ct.ob.injEq, D.kst.injEq, List.take_succ_cons, dat_lst, dat_ob, dat_fz, Option.some.injEq, SV.d.injEq, D.int.injEq, forall_eq', reduceCtorEq, false_implies, forall_const, Bool.false_eq_true, List.set, true_or, if_true, if_false, Bool.not_true, Bool.not_false]
          refine ⟨by decide, by decide, fun i e l => l = [.lst []] ∧ ∃ x13 x14 x15 x16 x17 : Option D, e = [some (.d (.scr ns)), some (.d (.lst [.str (sL cs), .lst (iL ws), .int r])), some (.d (.str (sL cs))), some (.d (.lst (iL ws))), some (.d (.int r)), some (.d (codeD cs ws r)), some (.d (.int last)), some (.d (.int c)), some (.d (.str (sL (wrd cs ps)))), some (.d (.str (sL ts))), some (.c 0), some (.d (.lst (rL rows))), some (.d (.int (rows.length : Int))), x13.map SV.d, x14.map SV.d, x15.map SV.d, x16.map SV.d, x17.map SV.d], ⟨rfl, x13, x14, x15, x16, x17, by cases x13 <;> cases x14 <;> cases x15 <;> cases x16 <;> cases x17 <;> rfl⟩, ?_, ?_⟩
          · rintro i x e l hx ⟨rfl, x13, x14, x15, x16, x17, rfl⟩
            obtain ⟨hi, rfl⟩ := rng_it hx
            simp only [b42_2, cutM, fnT, startE, List.length_cons, List.length_nil, List.map_cons, List.map_nil, List.cons_append, List.nil_append, Nat.sub_self, Nat.reduceSub, Nat.reduceAdd, Nat.reduceLT, List.replicate_zero, List.reduceReplicate, List.replicate_succ, wpSs, wpS, wpE, wpEs, wpT, wpI, wpC, List.getElem?_cons_zero, List.getElem?_cons_succ, List.getElem?_nil, den, dens, back, true_and, and_true, nrmE, nrmT, frzSlots, cutV1, frzT, frzL, eq_ii, eq_bb, eq_ss, eq_nn, D.isNon, o_add, o_adds, o_addl, o_sub, o_addt, n_split, n_find, o_mul, o_rep, o_div, o_mod, o_pow, c_lt, c_le, c_gt, c_ge, c_lts, c_eq, c_ne, c_is, c_isnot, c_in, c_notin, t_bl, t_non, t_int, t_lst, t_tup, x_lst, x_tup, x_scr, x_str, u_lst, u_scr, u_str, b_lenl, b_lent, b_lenc, b_lens, b_abs, b_max2, b_min2, b_int, b_inb, b_tup, b_dm, b_srtk, i_lst, i_tup, i_scr, is_n, is_b, exists_eq_left', exists_eq_left, exists_eq_right, Option.some.injEq,  partD, setS, setAll, tgD, tgSlots, wipeE, List.set_cons_zero, List.set_cons_succ, List.set_nil, List.take_nil, List.take_zero, m_f, m_t, r_int, r_bl, r_str, r_non, r_tup, r_lstf, r_lstt, r_v, r_newf, r_newt, List.any_cons, List.any_nil, owned, Bool.or_false, Bool.false_or, fl_bl, fl_int, fl_str, fl_non, fl_rs, exists_eq', Ct.lst.injEq, Ct.ob.injEq, D.kst.injEq, List.take_succ_cons, dat_lst, dat_ob, dat_fz, Option.some.injEq, SV.d.injEq, D.int.injEq, forall_eq', reduceCtorEq, false_implies, forall_const, Bool.false_eq_true, List.set, true_or, if_true, if_false, Bool.not_true, Bool.not_false]
            have hi : i < 3 := hi
            refine s_mixed (by omega) (by omega) fun v v0 v1 => ?_
            simp only [fnT, startE, List.length_cons, List.length_nil, List.map_cons, List.map_nil, List.cons_append, List.nil_append, Nat.sub_self, Nat.reduceSub, Nat.reduceAdd, Nat.reduceLT, List.replicate_zero, List.reduceReplicate, List.replicate_succ, wpSs, wpS, wpE, wpEs, wpT, wpI, wpC, List.getElem?_cons_zero, List.getElem?_cons_succ, List.getElem?_nil, den, dens, back, true_and, and_true, nrmE, nrmT, frzSlots, cutV1, frzT, frzL, eq_ii, eq_bb, eq_ss, eq_nn, D.isNon, o_add, o_adds, o_addl, o_sub, o_addt, n_split, n_find, o_mul, o_rep, o_div, o_mod, o_pow, c_lt, c_le, c_gt, c_ge, c_lts, c_eq, c_ne, c_is, c_isnot, c_in, c_notin, t_bl, t_non, t_int, t_lst, t_tup, x_lst, x_tup, x_scr, x_str, u_lst, u_scr, u_str, b_lenl, b_lent, b_lenc, b_lens, b_abs, b_max2, b_min2, b_int, b_inb, b_tup, b_dm, b_srtk, i_lst, i_tup, i_scr, is_n, is_b, exists_eq_left', exists_eq_left, exists_eq_right, Option.some.injEq,  partD, setS, setAll, tgD, tgSlots, wipeE, List.set_cons_zero, List.set_cons_succ, List.set_nil, List.take_nil, List.take_zero, m_f, m_t, r_int, r_bl, r_str, r_non, r_tup, r_lstf, r_lstt, r_v, r_newf, r_newt, List.any_cons, List.any_nil, owned, Bool.or_false, Bool.false_or, fl_bl, fl_int, fl_str, fl_non, fl_rs, exists_eq', Ct.lst.injEq, Ct.ob.injEq, D.kst.injEq, List.take_succ_cons, dat_lst, dat_ob, dat_fz, Option.some.injEq, SV.d.injEq, D.int.injEq, forall_eq', reduceCtorEq, false_implies, forall_const, Bool.false_eq_true, List.set, true_or, if_true, if_false, Bool.not_true, Bool.not_false]
            have t' : TOk cs (wrd cs ps).length ts := by rw [pl]; exact t
            refine s_notorn hc c25 hcs (by omega) (by omega) (wrd_in hP) t' fun x y1 y2 y3 => ?_
            rw [pl] at y3
            simp only [fnT, startE, List.length_cons, List.length_nil, List.map_cons, List.map_nil, List.cons_append, List.nil_append, Nat.sub_self, Nat.reduceSub, Nat.reduceAdd, Nat.reduceLT, List.replicate_zero, List.reduceReplicate, List.replicate_succ, wpSs, wpS, wpE, wpEs, wpT, wpI, wpC, List.getElem?_cons_zero, List.getElem?_cons_succ, List.getElem?_nil, den, dens, back, true_and, and_true, nrmE, nrmT, frzSlots, cutV1, frzT, frzL, eq_ii, eq_bb, eq_ss, eq_nn, D.isNon, o_add, o_adds, o_addl, o_sub, o_addt, n_split, n_find, o_mul, o_rep, o_div, o_mod, o_pow, c_lt, c_le, c_gt, c_ge, c_lts, c_eq, c_ne, c_is, c_isnot, c_in, c_notin, t_bl, t_non, t_int, t_lst, t_tup, x_lst, x_tup, x_scr, x_str, u_lst, u_scr, u_str, b_lenl, b_lent, b_lenc, b_lens, b_abs, b_max2, b_min2, b_int, b_inb, b_tup, b_dm, b_srtk, i_lst, i_tup, i_scr, is_n, is_b, exists_eq_left', exists_eq_left, exists_eq_right, Option.some.injEq,  partD, setS, setAll, tgD, tgSlots, wipeE, List.set_cons_zero, List.set_cons_succ, List.set_nil, List.take_nil, List.take_zero, m_f, m_t, r_int, r_bl, r_str, r_non, r_tup, r_lstf, r_lstt, r_v, r_newf, r_newt, List.any_cons, List.any_nil, owned, Bool.or_false, Bool.false_or, fl_bl, fl_int, fl_str, fl_non, fl_rs, exists_eq', Ct.lst.injEq, Ct.ob.injEq, D.kst.injEq, List.take_succ_cons, dat_lst, dat_ob, dat_fz, Option.some.injEq, SV.d.injEq, D.int.injEq, forall_eq', reduceCtorEq, false_implies, forall_const, Bool.false_eq_true, List.set, true_or, if_true, if_false, Bool.not_true, Bool.not_false]
            refine s_refused o y1 y2 y3 ?_
            simp only [fnT, startE, List.length_cons, List.length_nil, List.map_cons, List.map_nil, List.cons_append, List.nil_append, Nat.sub_self, Nat.reduceSub, Nat.reduceAdd, Nat.reduceLT, List.replicate_zero, List.reduceReplicate, List.replicate_succ, wpSs, wpS, wpE, wpEs, wpT, wpI, wpC, List.getElem?_cons_zero, List.getElem?_cons_succ, List.getElem?_nil, den, dens, back, true_and, and_true, nrmE, nrmT, frzSlots, cutV1, frzT, frzL, eq_ii, eq_bb, eq_ss, eq_nn, D.isNon, o_add, o_adds, o_addl, o_sub, o_addt, n_split, n_find, o_mul, o_rep, o_div, o_mod, o_pow, c_lt, c_le, c_gt, c_ge, c_lts, c_eq, c_ne, c_is, c_isnot, c_in, c_notin, t_bl, t_non, t_int, t_lst, t_tup, x_lst, x_tup, x_scr, x_str, u_lst, u_scr, u_str, b_lenl, b_lent, b_lenc, b_lens, b_abs, b_max2, b_min2, b_int, b_inb, b_tup, b_dm, b_srtk, i_lst, i_tup, i_scr, is_n, is_b, exists_eq_left', exists_eq_left, exists_eq_right, Option.some.injEq,  partD, setS, setAll, tgD, tgSlots, wipeE, List.set_cons_zero, List.set_cons_succ, List.set_nil, List.take_nil, List.take_zero, m_f, m_t, r_int, r_bl, r_str, r_non, r_tup, r_lstf, r_lstt, r_v, r_newf, r_newt, List.any_cons, List.any_nil, owned, Bool.or_false, Bool.false_or, fl_bl, fl_int, fl_str, fl_non, fl_rs, exists_eq', Ct.lst.injEq, Ct.ob.injEq, D.kst.injEq, List.take_succ_cons, dat_lst, dat_ob, dat_fz, Option.some.injEq, SV.d.injEq, D.int.injEq, forall_eq', reduceCtorEq, false_implies, forall_const, Bool.false_eq_true, List.set, true_or, if_true, if_false, Bool.not_true, Bool.not_false]
            exact ⟨x13, x14, x15, some _, some _, by cases x13 <;> cases x14 <;> cases x15 <;> rfl⟩
          · rintro e l ⟨rfl, x13, x14, x15, x16, x17, rfl⟩
            simp only [cutM, fnT, startE, List.length_cons, List.length_nil, List.map_cons, List.map_nil, List.cons_append, List.nil_append, Nat.sub_self, Nat.reduceSub, Nat.reduceAdd, Nat.reduceLT, List.replicate_zero, List.reduceReplicate, List.replicate_succ, wpSs, wpS, wpE, wpEs, wpT, wpI, wpC, List.getElem?_cons_zero, List.getElem?_cons_succ, List.getElem?_nil, den, dens, back, true_and, and_true, nrmE, nrmT, frzSlots, cutV1, frzT, frzL, eq_ii, eq_bb, eq_ss, eq_nn, D.isNon, o_add, o_adds, o_addl, o_sub, o_addt, n_split, n_find, o_mul, o_rep, o_div, o_mod, o_pow, c_lt, c_le, c_gt, c_ge, c_lts, c_eq, c_ne, c_is, c_isnot, c_in, c_notin, t_bl, t_non, t_int, t_lst, t_tup, x_lst, x_tup, x_scr, x_str, u_lst, u_scr, u_str, b_lenl, b_lent, b_lenc, b_lens, b_abs, b_max2, b_min2, b_int, b_inb, b_tup, b_dm, b_srtk, i_lst, i_tup, i_scr, is_n, is_b, exists_eq_left', exists_eq_left, exists_eq_right, Option.some.injEq,  partD, setS, setAll, tgD, tgSlots, wipeE, List.set_cons_zero, List.set_cons_succ, List.set_nil, List.take_nil, List.take_zero, m_f, m_t, r_int, r_bl, r_str, r_non, r_tup, r_lstf, r_lstt, r_v, r_newf, r_newt, List.any_cons, List.any_nil, owned, Bool.or_false, Bool.false_or, fl_bl, fl_int, fl_str, fl_non, fl_rs, exists_eq', Ct.lst.injEq, Ct.ob.injEq, D.kst.injEq, List.take_succ_cons, dat_lst, dat_ob, dat_fz, Option.some.injEq, SV.d.injEq, D.int.injEq, forall_eq', reduceCtorEq, false_implies, forall_const, Bool.false_eq_true, List.set, true_or, if_true, if_false, Bool.not_true, Bool.not_false]
            exact ⟨some _, some _, some _, some _, some _, some _, x13, x14, x15, x16, x17, by cases x13 <;> cases x14 <;> cases x15 <;> cases x16 <;> cases x17 <;> rfl⟩
  · rintro e l ⟨rfl, x7, x8, x9, x10, x11, x12, x13, x14, x15, x16, x17, rfl⟩
    exact h
theorem law_true (ns : List Int) (h1 : ns.length ≤ 63) (h2 : ∀ z ∈ ns, Builtin.Int.intBits z ≤ 1048576) : wpF fnT gcT 8 42 [.scr ns] (fun r => r = .v (.bl true)) (fun _ => False) := s_law (n := 2) h1 rfl
end K09

namespace K09
open PySem L2 PD
def nmT : Nat → Str
  | 0 => "is_word"
  | 1 => "places_of"
  | 2 => "word_of"
  | 3 => "is_torn"
  | 4 => "rows_of"
  | 5 => "fitting"
  | 6 => "is_whole"
  | 7 => "divisor"
  | 8 => "fits_behind"
  | 9 => "are_safe"
  | 10 => "sum_of"
  | 11 => "is_good"
  | 12 => "is_alphabet"
  | 13 => "is_place"
  | 14 => "are_weights"
  | 15 => "Code"
  | 16 => "alphabet"
  | 17 => "weights"
  | 18 => "rest"
  | 19 => "many"
  | 20 => "word"
  | 21 => "number"
  | 22 => "has_good"
  | 23 => "_law_cell_at"
  | 24 => "_law_long"
  | 25 => "_law_mixed"
  | 26 => "_law_divisor"
  | 27 => "_law_alphabet"
  | 28 => "_law_safe"
  | 29 => "_law_weights"
  | 30 => "_law_code"
  | 31 => "_law_word"
  | 32 => "_law_text"
  | 33 => "_law_sum"
  | 34 => "_law_made_good"
  | 35 => "_law_places"
  | 36 => "_law_rising"
  | 37 => "_law_torn"
  | 38 => "_law_foreign"
  | 39 => "_law_no_torn"
  | 40 => "_law_refused"
  | 41 => "_law_fits"
  | 42 => "law"
  | _ => ""
def psT : Nat → List Str
  | 0 => ["code", "thing"]
  | 1 => ["code", "word"]
  | 2 => ["code", "places"]
  | 3 => ["code", "thing"]
  | 4 => ["many", "length"]
  | 5 => ["code", "torn"]
  | 6 => ["thing"]
  | 7 => ["one", "other"]
  | 8 => ["weights", "weight", "m"]
  | 9 => ["weights", "m"]
  | 10 => ["weights", "places"]
  | 11 => ["alphabet", "weights", "rest", "word"]
  | 12 => ["thing"]
  | 13 => ["thing", "m"]
  | 14 => ["thing", "m"]
  | 15 => ["self", "alphabet", "weights", "rest"]
  | 16 => ["self"]
  | 17 => ["self"]
  | 18 => ["self"]
  | 19 => ["self"]
  | 20 => ["self", "k"]
  | 21 => ["self", "word"]
  | 22 => ["self", "thing"]
  | 23 => ["_law_script", "_law_k"]
  | 24 => ["_law_cell", "_law_k"]
  | 25 => ["_law_cell", "_law_k"]
  | 26 => ["_law_one", "_law_other"]
  | 27 => ["_law_cell", "_law_many"]
  | 28 => ["_law_weight", "_law_found", "_law_many"]
  | 29 => ["_law_cell", "_law_many", "_law_length"]
  | 30 => ["_law_cell"]
  | 31 => ["_law_cell", "_law_letters", "_law_length"]
  | 32 => ["_law_letters", "_law_places_here"]
  | 33 => ["_law_weights_here", "_law_places_here"]
  | 34 => ["_law_code_here", "_law_places_here"]
  | 35 => ["_law_letters", "_law_found", "_law_length"]
  | 36 => ["_law_letters", "_law_length", "_law_found"]
  | 37 => ["_law_cell", "_law_word_here", "_law_many"]
  | 38 => ["_law_torn_here", "_law_sign"]
  | 39 => ["_law_cell", "_law_torn_here", "_law_word_here", "_law_letters"]
  | 40 => ["_law_code_here", "_law_thing"]
  | 41 => ["_law_plan", "_law_torn_here", "_law_places_here"]
  | 42 => ["_law_script"]
  | _ => []
def gnT : Nat → Str
  | 0 => "LETTERS"
  | _ => ""
def fldT : Nat → Str
  | 0 => "letters"
  | 1 => "loads"
  | 2 => "remainder"
  | n => ⟨#[n]⟩
def foL : List (Nat × Nat) := [(6, 0), (6, 1), (6, 2)]
def xnT : Nat → Str
  | 0 => "NoWord"
  | 1 => "NoCode"
  | 2 => "NoNumber"
  | 3 => "CableError"
  | 4 => "NoEntry"
  | 5 => "NoText"
  | 6 => "Code"
  | _ => ""
def unT : Nat → List Nat
  | 0 => [0, 1, 2]
  | 4 => [0, 1, 2]
  | 2 => [1]
  | 3 => [2]
  | 1 => [0]
  | 5 => []
  | 6 => []
  | _ => []
theorem fldI : ∀ f, f < 64 → ∀ g, g < 64 → fldT f = fldT g → f = g := by decide +kernel
def prT (K : PySem.W.Frag) : PD.Pr := ⟨⟨K, fun c => He.ga K (xnT c), fldT⟩, fnT, nmT, psT, gcT, gnT, 1, fun c f => decide ((c, f) ∈ foL), xnT, 3, unT, 6, []⟩
def N0 : List Str := ["code", "thing", "letters", "letter"]
theorem sc0 : FnScope N0 (psT 0) (defScope (top 8)) := ⟨rfl, rfl, rfl, by decide +kernel, rfl, by decide +kernel, by decide +kernel⟩
theorem m0 (K : PySem.W.Frag) : mB (prT K) f0.body ⟨N0, defScope (top 8), fun _ => true⟩ (defBody (top 8)) = true := by kernel_rfl
def d0 : He.DefD := ⟨("is_word", none), "is_word", "is_word", defArgs (top 8), defBody (top 8), defScope (top 8), [], []⟩
def N1 : List Str := ["code", "word", "letters", "letter"]
theorem sc1 : FnScope N1 (psT 1) (defScope (top 9)) := ⟨rfl, rfl, rfl, by decide +kernel, rfl, by decide +kernel, by decide +kernel⟩
theorem m1 (K : PySem.W.Frag) : mB (prT K) f1.body ⟨N1, defScope (top 9), fun _ => true⟩ (defBody (top 9)) = true := by kernel_rfl
def d1 : He.DefD := ⟨("places_of", none), "places_of", "places_of", defArgs (top 9), defBody (top 9), defScope (top 9), [], []⟩
def N2 : List Str := ["code", "places", "letters", "place"]
theorem sc2 : FnScope N2 (psT 2) (defScope (top 10)) := ⟨rfl, rfl, rfl, by decide +kernel, rfl, by decide +kernel, by decide +kernel⟩
theorem m2 (K : PySem.W.Frag) : mB (prT K) f2.body ⟨N2, defScope (top 10), fun _ => true⟩ (defBody (top 10)) = true := by kernel_rfl
def d2 : He.DefD := ⟨("word_of", none), "word_of", "word_of", defArgs (top 10), defBody (top 10), defScope (top 10), [], []⟩
def N3 : List Str := ["code", "thing"]
theorem sc3 : FnScope N3 (psT 3) (defScope (top 11)) := ⟨rfl, rfl, rfl, by decide +kernel, rfl, by decide +kernel, by decide +kernel⟩
theorem m3 (K : PySem.W.Frag) : mB (prT K) f3.body ⟨N3, defScope (top 11), fun _ => true⟩ (defBody (top 11)) = true := by kernel_rfl
def d3 : He.DefD := ⟨("is_torn", none), "is_torn", "is_torn", defArgs (top 11), defBody (top 11), defScope (top 11), [], []⟩
def N4 : List Str := ["many", "length", "rows", "turn", "longer", "row", "place"]
theorem sc4 : FnScope N4 (psT 4) (defScope (top 12)) := ⟨rfl, rfl, rfl, by decide +kernel, rfl, by decide +kernel, by decide +kernel⟩
theorem m4 (K : PySem.W.Frag) : mB (prT K) f4.body ⟨N4, defScope (top 12), fun _ => true⟩ (defBody (top 12)) = true := by kernel_rfl
def d4 : He.DefD := ⟨("rows_of", none), "rows_of", "rows_of", defArgs (top 12), defBody (top 12), defScope (top 12), [], []⟩
def N5 : List Str := ["code", "torn", "letters", "many", "gaps", "places", "weights", "found", "row", "some", "gap", "place", "left", "k", "letter", "weight"]
theorem sc5 : FnScope N5 (psT 5) (defScope (top 13)) := ⟨rfl, rfl, rfl, by decide +kernel, rfl, by decide +kernel, by decide +kernel⟩
theorem m5 (K : PySem.W.Frag) : mB (prT K) f5.body ⟨N5, defScope (top 13), fun _ => true⟩ (defBody (top 13)) = true := by kernel_rfl
def d5 : He.DefD := ⟨("fitting", none), "fitting", "fitting", defArgs (top 13), defBody (top 13), defScope (top 13), [], []⟩
def N6 : List Str := ["thing"]
theorem sc6 : FnScope N6 (psT 6) (defScope (top 15)) := ⟨rfl, rfl, rfl, by decide +kernel, rfl, by decide +kernel, by decide +kernel⟩
theorem m6 (K : PySem.W.Frag) : mB (prT K) f6.body ⟨N6, defScope (top 15), fun _ => true⟩ (defBody (top 15)) = true := by kernel_rfl
def d6 : He.DefD := ⟨("is_whole", none), "is_whole", "is_whole", defArgs (top 15), defBody (top 15), defScope (top 15), [], []⟩
def N7 : List Str := ["one", "other"]
theorem sc7 : FnScope N7 (psT 7) (defScope (top 16)) := ⟨rfl, rfl, rfl, by decide +kernel, rfl, by decide +kernel, by decide +kernel⟩
theorem m7 (K : PySem.W.Frag) : mB (prT K) f7.body ⟨N7, defScope (top 16), fun _ => true⟩ (defBody (top 16)) = true := by kernel_rfl
def d7 : He.DefD := ⟨("divisor", none), "divisor", "divisor", defArgs (top 16), defBody (top 16), defScope (top 16), [], []⟩
def N8 : List Str := ["weights", "weight", "m"]
theorem sc8 : FnScope N8 (psT 8) (defScope (top 17)) := ⟨rfl, rfl, rfl, by decide +kernel, rfl, by decide +kernel, by decide +kernel⟩
theorem m8 (K : PySem.W.Frag) : mB (prT K) f8.body ⟨N8, defScope (top 17), fun _ => true⟩ (defBody (top 17)) = true := by kernel_rfl
def d8 : He.DefD := ⟨("fits_behind", none), "fits_behind", "fits_behind", defArgs (top 17), defBody (top 17), defScope (top 17), [], []⟩
def N9 : List Str := ["weights", "m", "k", "weight"]
theorem sc9 : FnScope N9 (psT 9) (defScope (top 18)) := ⟨rfl, rfl, rfl, by decide +kernel, rfl, by decide +kernel, by decide +kernel⟩
theorem m9 (K : PySem.W.Frag) : mB (prT K) f9.body ⟨N9, defScope (top 18), fun _ => true⟩ (defBody (top 18)) = true := by kernel_rfl
def d9 : He.DefD := ⟨("are_safe", none), "are_safe", "are_safe", defArgs (top 18), defBody (top 18), defScope (top 18), [], []⟩
def N10 : List Str := ["weights", "places", "weight", "place"]
theorem sc10 : FnScope N10 (psT 10) (defScope (top 21)) := ⟨rfl, rfl, rfl, by decide +kernel, rfl, by decide +kernel, by decide +kernel⟩
theorem m10 (K : PySem.W.Frag) : mB (prT K) f10.body ⟨N10, defScope (top 21), fun _ => true⟩ (defBody (top 21)) = true := by kernel_rfl
def d10 : He.DefD := ⟨("sum_of", none), "sum_of", "sum_of", defArgs (top 21), defBody (top 21), defScope (top 21), [], []⟩
def N11 : List Str := ["alphabet", "weights", "rest", "word", "places", "letter"]
theorem sc11 : FnScope N11 (psT 11) (defScope (top 22)) := ⟨rfl, rfl, rfl, by decide +kernel, rfl, by decide +kernel, by decide +kernel⟩
theorem m11 (K : PySem.W.Frag) : mB (prT K) f11.body ⟨N11, defScope (top 22), fun _ => true⟩ (defBody (top 22)) = true := by kernel_rfl
def d11 : He.DefD := ⟨("is_good", none), "is_good", "is_good", defArgs (top 22), defBody (top 22), defScope (top 22), [], []⟩
def N12 : List Str := ["thing", "letter"]
theorem sc12 : FnScope N12 (psT 12) (defScope (top 23)) := ⟨rfl, rfl, rfl, by decide +kernel, rfl, by decide +kernel, by decide +kernel⟩
theorem m12 (K : PySem.W.Frag) : mB (prT K) f12.body ⟨N12, defScope (top 23), fun _ => true⟩ (defBody (top 23)) = true := by kernel_rfl
def d12 : He.DefD := ⟨("is_alphabet", none), "is_alphabet", "is_alphabet", defArgs (top 23), defBody (top 23), defScope (top 23), [], []⟩
def N13 : List Str := ["thing", "m"]
theorem sc13 : FnScope N13 (psT 13) (defScope (top 24)) := ⟨rfl, rfl, rfl, by decide +kernel, rfl, by decide +kernel, by decide +kernel⟩
theorem m13 (K : PySem.W.Frag) : mB (prT K) f13.body ⟨N13, defScope (top 24), fun _ => true⟩ (defBody (top 24)) = true := by kernel_rfl
def d13 : He.DefD := ⟨("is_place", none), "is_place", "is_place", defArgs (top 24), defBody (top 24), defScope (top 24), [], []⟩
def N14 : List Str := ["thing", "m", "weight"]
theorem sc14 : FnScope N14 (psT 14) (defScope (top 25)) := ⟨rfl, rfl, rfl, by decide +kernel, rfl, by decide +kernel, by decide +kernel⟩
theorem m14 (K : PySem.W.Frag) : mB (prT K) f14.body ⟨N14, defScope (top 25), fun _ => true⟩ (defBody (top 25)) = true := by kernel_rfl
def d14 : He.DefD := ⟨("are_weights", none), "are_weights", "are_weights", defArgs (top 25), defBody (top 25), defScope (top 25), [], []⟩
def N15 : List Str := ["self", "alphabet", "weights", "rest"]
theorem sc15 : FnScope N15 (psT 15) (defScope (inClass (top 26) 0)) := ⟨rfl, rfl, rfl, by decide +kernel, rfl, by decide +kernel, by decide +kernel⟩
theorem m15 (K : PySem.W.Frag) : mB (prT K) f15.body ⟨N15, defScope (inClass (top 26) 0), fun _ => true⟩ (defBody (inClass (top 26) 0)) = true := by kernel_rfl
def d15 : He.DefD := ⟨("Code", some "__init__"), "__init__", "Code.__init__", defArgs (inClass (top 26) 0), defBody (inClass (top 26) 0), defScope (inClass (top 26) 0), [], []⟩
def N16 : List Str := ["self"]
theorem sc16 : FnScope N16 (psT 16) (defScope (inClass (top 26) 1)) := ⟨rfl, rfl, rfl, by decide +kernel, rfl, by decide +kernel, by decide +kernel⟩
theorem m16 (K : PySem.W.Frag) : mB (prT K) f16.body ⟨N16, defScope (inClass (top 26) 1), fun _ => true⟩ (defBody (inClass (top 26) 1)) = true := by kernel_rfl
theorem ne16 : ∀ g, g < 64 → ("alphabet" : Str) ≠ fldT g := by decide +kernel
def d16 : He.DefD := ⟨("Code", some "alphabet"), "alphabet", "Code.alphabet", defArgs (inClass (top 26) 1), defBody (inClass (top 26) 1), defScope (inClass (top 26) 1), [], []⟩
def N17 : List Str := ["self"]
theorem sc17 : FnScope N17 (psT 17) (defScope (inClass (top 26) 2)) := ⟨rfl, rfl, rfl, by decide +kernel, rfl, by decide +kernel, by decide +kernel⟩
theorem m17 (K : PySem.W.Frag) : mB (prT K) f17.body ⟨N17, defScope (inClass (top 26) 2), fun _ => true⟩ (defBody (inClass (top 26) 2)) = true := by kernel_rfl
theorem ne17 : ∀ g, g < 64 → ("weights" : Str) ≠ fldT g := by decide +kernel
def d17 : He.DefD := ⟨("Code", some "weights"), "weights", "Code.weights", defArgs (inClass (top 26) 2), defBody (inClass (top 26) 2), defScope (inClass (top 26) 2), [], []⟩
def N18 : List Str := ["self"]
theorem sc18 : FnScope N18 (psT 18) (defScope (inClass (top 26) 3)) := ⟨rfl, rfl, rfl, by decide +kernel, rfl, by decide +kernel, by decide +kernel⟩
theorem m18 (K : PySem.W.Frag) : mB (prT K) f18.body ⟨N18, defScope (inClass (top 26) 3), fun _ => true⟩ (defBody (inClass (top 26) 3)) = true := by kernel_rfl
theorem ne18 : ∀ g, g < 64 → ("rest" : Str) ≠ fldT g := by decide +kernel
def d18 : He.DefD := ⟨("Code", some "rest"), "rest", "Code.rest", defArgs (inClass (top 26) 3), defBody (inClass (top 26) 3), defScope (inClass (top 26) 3), [], []⟩
def N19 : List Str := ["self", "found", "weight"]
theorem sc19 : FnScope N19 (psT 19) (defScope (inClass (top 26) 4)) := ⟨rfl, rfl, rfl, by decide +kernel, rfl, by decide +kernel, by decide +kernel⟩
theorem m19 (K : PySem.W.Frag) : mB (prT K) f19.body ⟨N19, defScope (inClass (top 26) 4), fun _ => true⟩ (defBody (inClass (top 26) 4)) = true := by kernel_rfl
theorem ne19 : ∀ g, g < 64 → ("many" : Str) ≠ fldT g := by decide +kernel
def d19 : He.DefD := ⟨("Code", some "many"), "many", "Code.many", defArgs (inClass (top 26) 4), defBody (inClass (top 26) 4), defScope (inClass (top 26) 4), [], []⟩
def N20 : List Str := ["self", "k", "m", "places", "turn", "left", "last", "place"]
theorem sc20 : FnScope N20 (psT 20) (defScope (inClass (top 26) 5)) := ⟨rfl, rfl, rfl, by decide +kernel, rfl, by decide +kernel, by decide +kernel⟩
theorem m20 (K : PySem.W.Frag) : mB (prT K) f20.body ⟨N20, defScope (inClass (top 26) 5), fun _ => true⟩ (defBody (inClass (top 26) 5)) = true := by kernel_rfl
theorem ne20 : ∀ g, g < 64 → ("word" : Str) ≠ fldT g := by decide +kernel
def d20 : He.DefD := ⟨("Code", some "word"), "word", "Code.word", defArgs (inClass (top 26) 5), defBody (inClass (top 26) 5), defScope (inClass (top 26) 5), [], []⟩
def N21 : List Str := ["self", "word", "found", "letter"]
theorem sc21 : FnScope N21 (psT 21) (defScope (inClass (top 26) 6)) := ⟨rfl, rfl, rfl, by decide +kernel, rfl, by decide +kernel, by decide +kernel⟩
theorem m21 (K : PySem.W.Frag) : mB (prT K) f21.body ⟨N21, defScope (inClass (top 26) 6), fun _ => true⟩ (defBody (inClass (top 26) 6)) = true := by kernel_rfl
theorem ne21 : ∀ g, g < 64 → ("number" : Str) ≠ fldT g := by decide +kernel
def d21 : He.DefD := ⟨("Code", some "number"), "number", "Code.number", defArgs (inClass (top 26) 6), defBody (inClass (top 26) 6), defScope (inClass (top 26) 6), [], []⟩
def N22 : List Str := ["self", "thing", "letter"]
theorem sc22 : FnScope N22 (psT 22) (defScope (inClass (top 26) 7)) := ⟨rfl, rfl, rfl, by decide +kernel, rfl, by decide +kernel, by decide +kernel⟩
theorem m22 (K : PySem.W.Frag) : mB (prT K) f22.body ⟨N22, defScope (inClass (top 26) 7), fun _ => true⟩ (defBody (inClass (top 26) 7)) = true := by kernel_rfl
theorem ne22 : ∀ g, g < 64 → ("has_good" : Str) ≠ fldT g := by decide +kernel
def d22 : He.DefD := ⟨("Code", some "has_good"), "has_good", "Code.has_good", defArgs (inClass (top 26) 7), defBody (inClass (top 26) 7), defScope (inClass (top 26) 7), [], []⟩
def N23 : List Str := ["_law_script", "_law_k"]
theorem sc23 : FnScope N23 (psT 23) (defScope (top 28)) := ⟨rfl, rfl, rfl, by decide +kernel, rfl, by decide +kernel, by decide +kernel⟩
theorem m23 (K : PySem.W.Frag) : mB (prT K) f23.body ⟨N23, defScope (top 28), fun _ => true⟩ (defBody (top 28)) = true := by kernel_rfl
def d23 : He.DefD := ⟨("_law_cell_at", none), "_law_cell_at", "_law_cell_at", defArgs (top 28), defBody (top 28), defScope (top 28), [], []⟩
def N24 : List Str := ["_law_cell", "_law_k", "_law_rest", "_law_ahead", "_law_turn", "_law_low"]
theorem sc24 : FnScope N24 (psT 24) (defScope (top 29)) := ⟨rfl, rfl, rfl, by decide +kernel, rfl, by decide +kernel, by decide +kernel⟩
theorem m24 (K : PySem.W.Frag) : mB (prT K) f24.body ⟨N24, defScope (top 29), fun _ => true⟩ (defBody (top 29)) = true := by kernel_rfl
def d24 : He.DefD := ⟨("_law_long", none), "_law_long", "_law_long", defArgs (top 29), defBody (top 29), defScope (top 29), [], []⟩
def N25 : List Str := ["_law_cell", "_law_k"]
theorem sc25 : FnScope N25 (psT 25) (defScope (top 30)) := ⟨rfl, rfl, rfl, by decide +kernel, rfl, by decide +kernel, by decide +kernel⟩
theorem m25 (K : PySem.W.Frag) : mB (prT K) f25.body ⟨N25, defScope (top 30), fun _ => true⟩ (defBody (top 30)) = true := by kernel_rfl
def d25 : He.DefD := ⟨("_law_mixed", none), "_law_mixed", "_law_mixed", defArgs (top 30), defBody (top 30), defScope (top 30), [], []⟩
def N26 : List Str := ["_law_one", "_law_other"]
theorem sc26 : FnScope N26 (psT 26) (defScope (top 31)) := ⟨rfl, rfl, rfl, by decide +kernel, rfl, by decide +kernel, by decide +kernel⟩
theorem m26 (K : PySem.W.Frag) : mB (prT K) f26.body ⟨N26, defScope (top 31), fun _ => true⟩ (defBody (top 31)) = true := by kernel_rfl
def d26 : He.DefD := ⟨("_law_divisor", none), "_law_divisor", "_law_divisor", defArgs (top 31), defBody (top 31), defScope (top 31), [], []⟩
def N27 : List Str := ["_law_cell", "_law_many", "_law_left", "_law_k"]
theorem sc27 : FnScope N27 (psT 27) (defScope (top 32)) := ⟨rfl, rfl, rfl, by decide +kernel, rfl, by decide +kernel, by decide +kernel⟩
theorem m27 (K : PySem.W.Frag) : mB (prT K) f27.body ⟨N27, defScope (top 32), fun _ => true⟩ (defBody (top 32)) = true := by kernel_rfl
def d27 : He.DefD := ⟨("_law_alphabet", none), "_law_alphabet", "_law_alphabet", defArgs (top 32), defBody (top 32), defScope (top 32), [], []⟩
def N28 : List Str := ["_law_weight", "_law_found", "_law_many"]
theorem sc28 : FnScope N28 (psT 28) (defScope (top 33)) := ⟨rfl, rfl, rfl, by decide +kernel, rfl, by decide +kernel, by decide +kernel⟩
theorem m28 (K : PySem.W.Frag) : mB (prT K) f28.body ⟨N28, defScope (top 33), fun _ => true⟩ (defBody (top 33)) = true := by kernel_rfl
def d28 : He.DefD := ⟨("_law_safe", none), "_law_safe", "_law_safe", defArgs (top 33), defBody (top 33), defScope (top 33), [], []⟩
def N29 : List Str := ["_law_cell", "_law_many", "_law_length", "_law_found", "_law_k", "_law_first", "_law_some", "_law_j", "_law_weight"]
theorem sc29 : FnScope N29 (psT 29) (defScope (top 34)) := ⟨rfl, rfl, rfl, by decide +kernel, rfl, by decide +kernel, by decide +kernel⟩
theorem m29 (K : PySem.W.Frag) : mB (prT K) f29.body ⟨N29, defScope (top 34), fun _ => true⟩ (defBody (top 34)) = true := by kernel_rfl
def d29 : He.DefD := ⟨("_law_weights", none), "_law_weights", "_law_weights", defArgs (top 34), defBody (top 34), defScope (top 34), [], []⟩
def N30 : List Str := ["_law_cell", "_law_many", "_law_length", "_law_weights_here"]
theorem sc30 : FnScope N30 (psT 30) (defScope (top 35)) := ⟨rfl, rfl, rfl, by decide +kernel, rfl, by decide +kernel, by decide +kernel⟩
theorem m30 (K : PySem.W.Frag) : mB (prT K) f30.body ⟨N30, defScope (top 35), fun _ => true⟩ (defBody (top 35)) = true := by kernel_rfl
def d30 : He.DefD := ⟨("_law_code", none), "_law_code", "_law_code", defArgs (top 35), defBody (top 35), defScope (top 35), [], []⟩
def N31 : List Str := ["_law_cell", "_law_letters", "_law_length", "_law_places_here", "_law_k", "_law_place"]
theorem sc31 : FnScope N31 (psT 31) (defScope (top 36)) := ⟨rfl, rfl, rfl, by decide +kernel, rfl, by decide +kernel, by decide +kernel⟩
theorem m31 (K : PySem.W.Frag) : mB (prT K) f31.body ⟨N31, defScope (top 36), fun _ => true⟩ (defBody (top 36)) = true := by kernel_rfl
def d31 : He.DefD := ⟨("_law_word", none), "_law_word", "_law_word", defArgs (top 36), defBody (top 36), defScope (top 36), [], []⟩
def N32 : List Str := ["_law_letters", "_law_places_here", "_law_place"]
theorem sc32 : FnScope N32 (psT 32) (defScope (top 37)) := ⟨rfl, rfl, rfl, by decide +kernel, rfl, by decide +kernel, by decide +kernel⟩
theorem m32 (K : PySem.W.Frag) : mB (prT K) f32.body ⟨N32, defScope (top 37), fun _ => true⟩ (defBody (top 37)) = true := by kernel_rfl
def d32 : He.DefD := ⟨("_law_text", none), "_law_text", "_law_text", defArgs (top 37), defBody (top 37), defScope (top 37), [], []⟩
def N33 : List Str := ["_law_weights_here", "_law_places_here", "_law_weight", "_law_place"]
theorem sc33 : FnScope N33 (psT 33) (defScope (top 38)) := ⟨rfl, rfl, rfl, by decide +kernel, rfl, by decide +kernel, by decide +kernel⟩
theorem m33 (K : PySem.W.Frag) : mB (prT K) f33.body ⟨N33, defScope (top 38), fun _ => true⟩ (defBody (top 38)) = true := by kernel_rfl
def d33 : He.DefD := ⟨("_law_sum", none), "_law_sum", "_law_sum", defArgs (top 38), defBody (top 38), defScope (top 38), [], []⟩
def N34 : List Str := ["_law_code_here", "_law_places_here", "_law_letters", "_law_weights_here", "_law_rest", "_law_place", "_law_some"]
theorem sc34 : FnScope N34 (psT 34) (defScope (top 39)) := ⟨rfl, rfl, rfl, by decide +kernel, rfl, by decide +kernel, by decide +kernel⟩
theorem m34 (K : PySem.W.Frag) : mB (prT K) f34.body ⟨N34, defScope (top 39), fun _ => true⟩ (defBody (top 39)) = true := by kernel_rfl
def d34 : He.DefD := ⟨("_law_made_good", none), "_law_made_good", "_law_made_good", defArgs (top 39), defBody (top 39), defScope (top 39), [], []⟩
def N35 : List Str := ["_law_letters", "_law_found", "_law_length", "_law_places_here", "_law_letter"]
theorem sc35 : FnScope N35 (psT 35) (defScope (top 40)) := ⟨rfl, rfl, rfl, by decide +kernel, rfl, by decide +kernel, by decide +kernel⟩
theorem m35 (K : PySem.W.Frag) : mB (prT K) f35.body ⟨N35, defScope (top 40), fun _ => true⟩ (defBody (top 40)) = true := by kernel_rfl
def d35 : He.DefD := ⟨("_law_places", none), "_law_places", "_law_places", defArgs (top 40), defBody (top 40), defScope (top 40), [], []⟩
def N36 : List Str := ["_law_letters", "_law_length", "_law_found", "_law_some", "_law_k", "_law_word_here"]
theorem sc36 : FnScope N36 (psT 36) (defScope (top 41)) := ⟨rfl, rfl, rfl, by decide +kernel, rfl, by decide +kernel, by decide +kernel⟩
theorem m36 (K : PySem.W.Frag) : mB (prT K) f36.body ⟨N36, defScope (top 41), fun _ => true⟩ (defBody (top 41)) = true := by kernel_rfl
def d36 : He.DefD := ⟨("_law_rising", none), "_law_rising", "_law_rising", defArgs (top 41), defBody (top 41), defScope (top 41), [], []⟩
def N37 : List Str := ["_law_cell", "_law_word_here", "_law_many", "_law_found", "_law_k", "_law_at"]
theorem sc37 : FnScope N37 (psT 37) (defScope (top 42)) := ⟨rfl, rfl, rfl, by decide +kernel, rfl, by decide +kernel, by decide +kernel⟩
theorem m37 (K : PySem.W.Frag) : mB (prT K) f37.body ⟨N37, defScope (top 42), fun _ => true⟩ (defBody (top 42)) = true := by kernel_rfl
def d37 : He.DefD := ⟨("_law_torn", none), "_law_torn", "_law_torn", defArgs (top 42), defBody (top 42), defScope (top 42), [], []⟩
def N38 : List Str := ["_law_torn_here", "_law_sign", "_law_k"]
theorem sc38 : FnScope N38 (psT 38) (defScope (top 43)) := ⟨rfl, rfl, rfl, by decide +kernel, rfl, by decide +kernel, by decide +kernel⟩
theorem m38 (K : PySem.W.Frag) : mB (prT K) f38.body ⟨N38, defScope (top 43), fun _ => true⟩ (defBody (top 43)) = true := by kernel_rfl
def d38 : He.DefD := ⟨("_law_foreign", none), "_law_foreign", "_law_foreign", defArgs (top 43), defBody (top 43), defScope (top 43), [], []⟩
def N39 : List Str := ["_law_cell", "_law_torn_here", "_law_word_here", "_law_letters", "_law_odd", "_law_signs", "_law_some", "_law_sign"]
theorem sc39 : FnScope N39 (psT 39) (defScope (top 44)) := ⟨rfl, rfl, rfl, by decide +kernel, rfl, by decide +kernel, by decide +kernel⟩
theorem m39 (K : PySem.W.Frag) : mB (prT K) f39.body ⟨N39, defScope (top 44), fun _ => true⟩ (defBody (top 44)) = true := by kernel_rfl
def d39 : He.DefD := ⟨("_law_no_torn", none), "_law_no_torn", "_law_no_torn", defArgs (top 44), defBody (top 44), defScope (top 44), [], []⟩
def N40 : List Str := ["_law_code_here", "_law_thing", "e", "_law_others"]
theorem sc40 : FnScope N40 (psT 40) (defScope (top 45)) := ⟨rfl, rfl, rfl, by decide +kernel, rfl, by decide +kernel, by decide +kernel⟩
theorem m40 (K : PySem.W.Frag) : mB (prT K) f40.body ⟨N40, defScope (top 45), fun _ => true⟩ (defBody (top 45)) = true := by kernel_rfl
def d40 : He.DefD := ⟨("_law_refused", none), "_law_refused", "_law_refused", defArgs (top 45), defBody (top 45), defScope (top 45), [], []⟩
def N41 : List Str := ["_law_plan", "_law_torn_here", "_law_places_here", "_law_letters", "_law_weights_here", "_law_rest", "_law_sign", "_law_place"]
theorem sc41 : FnScope N41 (psT 41) (defScope (top 46)) := ⟨rfl, rfl, rfl, by decide +kernel, rfl, by decide +kernel, by decide +kernel⟩
theorem m41 (K : PySem.W.Frag) : mB (prT K) f41.body ⟨N41, defScope (top 46), fun _ => true⟩ (defBody (top 46)) = true := by kernel_rfl
def d41 : He.DefD := ⟨("_law_fits", none), "_law_fits", "_law_fits", defArgs (top 46), defBody (top 46), defScope (top 46), [], []⟩
def N42 : List Str := ["_law_script", "_law_plan", "_law_letters", "_law_weights_here", "_law_rest", "_law_code_here", "_law_last", "_law_cell", "_law_word_here", "_law_torn_here", "_law_found", "_law_some", "_law_due", "_law_turn", "_law_places_here", "_law_again_found", "_law_k", "_law_thing"]
theorem sc42 : FnScope N42 (psT 42) (defScope (top 47)) := ⟨rfl, rfl, rfl, by decide +kernel, rfl, by decide +kernel, by decide +kernel⟩
theorem m42 (K : PySem.W.Frag) : mB (prT K) f42.body ⟨N42, defScope (top 47), fun _ => true⟩ (defBody (top 47)) = true := by kernel_rfl
def d42 : He.DefD := ⟨("law", none), "law", "law", defArgs (top 47), defBody (top 47), defScope (top 47), [], []⟩
def dds : List He.DefD := [d0, d1, d2, d3, d4, d5, d6, d7, d8, d9, d10, d11, d12, d13, d14, d15, d16, d17, d18, d19, d20, d21, d22, d23, d24, d25, d26, d27, d28, d29, d30, d31, d32, d33, d34, d35, d36, d37, d38, d39, d40, d41, d42]
def fas0 : List He.Fa := [.glo "is_word", .glo "places_of", .glo "word_of", .glo "is_torn", .glo "rows_of", .glo "fitting", .glo "is_whole", .glo "divisor", .glo "fits_behind", .glo "are_safe", .glo "sum_of", .glo "is_good", .glo "is_alphabet", .glo "is_place", .glo "are_weights", .glo "Code", .glo "Code", .glo "Code", .glo "Code", .glo "Code", .glo "Code", .glo "Code", .glo "Code", .glo "_law_cell_at", .glo "_law_long", .glo "_law_mixed", .glo "_law_divisor", .glo "_law_alphabet", .glo "_law_safe", .glo "_law_weights"]
def fas1 : List He.Fa := [.glo "_law_code", .glo "_law_word", .glo "_law_text", .glo "_law_sum", .glo "_law_made_good", .glo "_law_places", .glo "_law_rising", .glo "_law_torn", .glo "_law_foreign", .glo "_law_no_torn", .glo "_law_refused", .glo "_law_fits", .glo "law", .free "len", .free "abs", .free "min", .free "max", .free "sum", .free "all", .free "int", .free "str", .free "sorted", .free "tuple", .free "divmod", .free "set", .free "isinstance", .free "bool", .free "list", .free "dict", .free "range"]
def fas2 : List He.Fa := [.free "enumerate", .free "zip", .free "reversed", .str "LETTERS" "abcdefghijklmnopqrstuvwxyz", .cls "Code", .mkr "Code", .noat "Code" "letters", .noat "Code" "loads", .noat "Code" "remainder", .meth "Code" "alphabet", .meth "Code" "weights", .meth "Code" "rest", .meth "Code" "many", .meth "Code" "word", .meth "Code" "number", .meth "Code" "has_good", .glo "CableError", .glo "NoCode", .glo "NoNumber", .glo "NoWord", .glo "NoEntry", .glo "NoText", .exc "NoWord", .exc "NoCode", .exc "NoNumber", .free "ValueError"]
def fas : List He.Fa := fas0 ++ fas1 ++ fas2
abbrev R : PySem.W.OpenRow := PySem.W.OpenLaw.row PySem.Challenge.rw_cablehouse_k09_torn_words
def fxs : List (PySem.W.Frag → Bool) := [fun K => kiB (prT K) K, fun K => exB (prT K) K, fun K => ecB (prT K) K]
abbrev hk : PySem.W.Hook := PD.hookX 4 fas fxs dds
def ob (s : PySem.W.SharedT) : He.AlD := PD.obsXG 4 fas fxs dds (HandSHeadRun.getT s)
theorem ob_eq (s : PySem.W.SharedT) : ob s = hk.obs s.abs := PD.obsXG_eq (HandSHeadRun.getT_eq s)
def loo0 : List PySem.Str := ["CableError", "NoCode", "NoNumber", "NoWord", "NoEntry", "NoText", "is_word", "places_of", "word_of", "is_torn", "rows_of", "fitting", "is_whole", "divisor", "fits_behind", "are_safe", "LETTERS", "sum_of", "is_good", "is_alphabet", "is_place", "are_weights", "Code", "_law_cell_at", "_law_long", "_law_mixed", "_law_divisor", "_law_alphabet", "_law_safe", "_law_weights"]
def loo1 : List PySem.Str := ["_law_code", "_law_word", "_law_text", "_law_sum", "_law_made_good", "_law_places", "_law_rising", "_law_torn", "_law_foreign", "_law_no_torn", "_law_refused", "_law_fits"]
def loo : List PySem.Str := loo0 ++ loo1
theorem run (w : World) : HandSHeadRun.RunEq R (PySem.W.view R.prog [47]) hk ob 15600 loo w := by
  intro os
  kernel_rfl
theorem facts {P : Program} {w : World} {K : PySem.W.Frag} {h : Heap} {mg : Str → Option Value} {f : Addr} (X : K.In h) (G : h.Ns mainGlobals mg) (hfa : mg ("law" : Str) = some (.ref f)) (c : PD.SaysX fas fxs dds K) :
    ∃ fd : FuncData, (∀ (s : Shared) (v : Value), BindsTo s fd ⟨[v], []⟩ [("_law_script", v)]) ∧ ∀ base : Heap, K.In base → base.Ns mainGlobals mg → FnOk P w K mg base (L2.CX P w) (2 * 8) f fd ["_law_script"] (spF (prT K).G (wpF fnT gcT 8) 42) := by
  obtain ⟨g0, F0⟩ := c.def_ 0 (d := d0) rfl
  have i0 : DefIn P K mg (prT K) 0 f0 "is_word" "is_word" _ _ _ N0 _ g0 := ⟨⟨He.glo_ok X G (c.fact 0 (f := .glo "is_word") rfl), F0.kp⟩, F0, F0.bindsN fun _ _ _ _ _ _ us hl => match us, hl with | [_, _], _ => rfl, sc0, rfl, rfl, m0 K⟩
  obtain ⟨g1, F1⟩ := c.def_ 1 (d := d1) rfl
  have i1 : DefIn P K mg (prT K) 1 f1 "places_of" "places_of" _ _ _ N1 _ g1 := ⟨⟨He.glo_ok X G (c.fact 1 (f := .glo "places_of") rfl), F1.kp⟩, F1, F1.bindsN fun _ _ _ _ _ _ us hl => match us, hl with | [_, _], _ => rfl, sc1, rfl, rfl, m1 K⟩
  obtain ⟨g2, F2⟩ := c.def_ 2 (d := d2) rfl
  have i2 : DefIn P K mg (prT K) 2 f2 "word_of" "word_of" _ _ _ N2 _ g2 := ⟨⟨He.glo_ok X G (c.fact 2 (f := .glo "word_of") rfl), F2.kp⟩, F2, F2.bindsN fun _ _ _ _ _ _ us hl => match us, hl with | [_, _], _ => rfl, sc2, rfl, rfl, m2 K⟩
  obtain ⟨g3, F3⟩ := c.def_ 3 (d := d3) rfl
  have i3 : DefIn P K mg (prT K) 3 f3 "is_torn" "is_torn" _ _ _ N3 _ g3 := ⟨⟨He.glo_ok X G (c.fact 3 (f := .glo "is_torn") rfl), F3.kp⟩, F3, F3.bindsN fun _ _ _ _ _ _ us hl => match us, hl with | [_, _], _ => rfl, sc3, rfl, rfl, m3 K⟩
  obtain ⟨g4, F4⟩ := c.def_ 4 (d := d4) rfl
  have i4 : DefIn P K mg (prT K) 4 f4 "rows_of" "rows_of" _ _ _ N4 _ g4 := ⟨⟨He.glo_ok X G (c.fact 4 (f := .glo "rows_of") rfl), F4.kp⟩, F4, F4.bindsN fun _ _ _ _ _ _ us hl => match us, hl with | [_, _], _ => rfl, sc4, rfl, rfl, m4 K⟩
  obtain ⟨g5, F5⟩ := c.def_ 5 (d := d5) rfl
  have i5 : DefIn P K mg (prT K) 5 f5 "fitting" "fitting" _ _ _ N5 _ g5 := ⟨⟨He.glo_ok X G (c.fact 5 (f := .glo "fitting") rfl), F5.kp⟩, F5, F5.bindsN fun _ _ _ _ _ _ us hl => match us, hl with | [_, _], _ => rfl, sc5, rfl, rfl, m5 K⟩
  obtain ⟨g6, F6⟩ := c.def_ 6 (d := d6) rfl
  have i6 : DefIn P K mg (prT K) 6 f6 "is_whole" "is_whole" _ _ _ N6 _ g6 := ⟨⟨He.glo_ok X G (c.fact 6 (f := .glo "is_whole") rfl), F6.kp⟩, F6, F6.bindsN fun _ _ _ _ _ _ us hl => match us, hl with | [_], _ => rfl, sc6, rfl, rfl, m6 K⟩
  obtain ⟨g7, F7⟩ := c.def_ 7 (d := d7) rfl
  have i7 : DefIn P K mg (prT K) 7 f7 "divisor" "divisor" _ _ _ N7 _ g7 := ⟨⟨He.glo_ok X G (c.fact 7 (f := .glo "divisor") rfl), F7.kp⟩, F7, F7.bindsN fun _ _ _ _ _ _ us hl => match us, hl with | [_, _], _ => rfl, sc7, rfl, rfl, m7 K⟩
  obtain ⟨g8, F8⟩ := c.def_ 8 (d := d8) rfl
  have i8 : DefIn P K mg (prT K) 8 f8 "fits_behind" "fits_behind" _ _ _ N8 _ g8 := ⟨⟨He.glo_ok X G (c.fact 8 (f := .glo "fits_behind") rfl), F8.kp⟩, F8, F8.bindsN fun _ _ _ _ _ _ us hl => match us, hl with | [_, _, _], _ => rfl, sc8, rfl, rfl, m8 K⟩
  obtain ⟨g9, F9⟩ := c.def_ 9 (d := d9) rfl
  have i9 : DefIn P K mg (prT K) 9 f9 "are_safe" "are_safe" _ _ _ N9 _ g9 := ⟨⟨He.glo_ok X G (c.fact 9 (f := .glo "are_safe") rfl), F9.kp⟩, F9, F9.bindsN fun _ _ _ _ _ _ us hl => match us, hl with | [_, _], _ => rfl, sc9, rfl, rfl, m9 K⟩
  obtain ⟨g10, F10⟩ := c.def_ 10 (d := d10) rfl
  have i10 : DefIn P K mg (prT K) 10 f10 "sum_of" "sum_of" _ _ _ N10 _ g10 := ⟨⟨He.glo_ok X G (c.fact 10 (f := .glo "sum_of") rfl), F10.kp⟩, F10, F10.bindsN fun _ _ _ _ _ _ us hl => match us, hl with | [_, _], _ => rfl, sc10, rfl, rfl, m10 K⟩
  obtain ⟨g11, F11⟩ := c.def_ 11 (d := d11) rfl
  have i11 : DefIn P K mg (prT K) 11 f11 "is_good" "is_good" _ _ _ N11 _ g11 := ⟨⟨He.glo_ok X G (c.fact 11 (f := .glo "is_good") rfl), F11.kp⟩, F11, F11.bindsN fun _ _ _ _ _ _ us hl => match us, hl with | [_, _, _, _], _ => rfl, sc11, rfl, rfl, m11 K⟩
  obtain ⟨g12, F12⟩ := c.def_ 12 (d := d12) rfl
  have i12 : DefIn P K mg (prT K) 12 f12 "is_alphabet" "is_alphabet" _ _ _ N12 _ g12 := ⟨⟨He.glo_ok X G (c.fact 12 (f := .glo "is_alphabet") rfl), F12.kp⟩, F12, F12.bindsN fun _ _ _ _ _ _ us hl => match us, hl with | [_], _ => rfl, sc12, rfl, rfl, m12 K⟩
  obtain ⟨g13, F13⟩ := c.def_ 13 (d := d13) rfl
  have i13 : DefIn P K mg (prT K) 13 f13 "is_place" "is_place" _ _ _ N13 _ g13 := ⟨⟨He.glo_ok X G (c.fact 13 (f := .glo "is_place") rfl), F13.kp⟩, F13, F13.bindsN fun _ _ _ _ _ _ us hl => match us, hl with | [_, _], _ => rfl, sc13, rfl, rfl, m13 K⟩
  obtain ⟨g14, F14⟩ := c.def_ 14 (d := d14) rfl
  have i14 : DefIn P K mg (prT K) 14 f14 "are_weights" "are_weights" _ _ _ N14 _ g14 := ⟨⟨He.glo_ok X G (c.fact 14 (f := .glo "are_weights") rfl), F14.kp⟩, F14, F14.bindsN fun _ _ _ _ _ _ us hl => match us, hl with | [_, _], _ => rfl, sc14, rfl, rfl, m14 K⟩
  obtain ⟨g15, F15⟩ := c.def_ 15 (d := d15) rfl
  have i15 : DefIn P K mg (prT K) 15 f15 "__init__" "Code.__init__" _ _ _ N15 _ g15 := ⟨⟨He.mkr_ok (c.fact 65 (f := .mkr "Code") rfl), He.glo_ok X G (c.fact 15 (f := .glo "Code") rfl)⟩, F15, F15.bindsN fun _ _ _ _ _ _ us hl => match us, hl with | [_, _, _, _], _ => rfl, sc15, rfl, rfl, m15 K⟩
  obtain ⟨g16, F16⟩ := c.def_ 16 (d := d16) rfl
  have i16 : DefIn P K mg (prT K) 16 f16 "alphabet" "Code.alphabet" _ _ _ N16 _ g16 := ⟨⟨He.cls_ok (c.fact 64 (f := .cls "Code") rfl), He.meth_ok (c.fact 69 (f := .meth "Code" "alphabet") rfl), ne16⟩, F16, F16.bindsN fun _ _ _ _ _ _ us hl => match us, hl with | [_], _ => rfl, sc16, rfl, rfl, m16 K⟩
  obtain ⟨g17, F17⟩ := c.def_ 17 (d := d17) rfl
  have i17 : DefIn P K mg (prT K) 17 f17 "weights" "Code.weights" _ _ _ N17 _ g17 := ⟨⟨He.cls_ok (c.fact 64 (f := .cls "Code") rfl), He.meth_ok (c.fact 70 (f := .meth "Code" "weights") rfl), ne17⟩, F17, F17.bindsN fun _ _ _ _ _ _ us hl => match us, hl with | [_], _ => rfl, sc17, rfl, rfl, m17 K⟩
  obtain ⟨g18, F18⟩ := c.def_ 18 (d := d18) rfl
  have i18 : DefIn P K mg (prT K) 18 f18 "rest" "Code.rest" _ _ _ N18 _ g18 := ⟨⟨He.cls_ok (c.fact 64 (f := .cls "Code") rfl), He.meth_ok (c.fact 71 (f := .meth "Code" "rest") rfl), ne18⟩, F18, F18.bindsN fun _ _ _ _ _ _ us hl => match us, hl with | [_], _ => rfl, sc18, rfl, rfl, m18 K⟩
  obtain ⟨g19, F19⟩ := c.def_ 19 (d := d19) rfl
  have i19 : DefIn P K mg (prT K) 19 f19 "many" "Code.many" _ _ _ N19 _ g19 := ⟨⟨He.cls_ok (c.fact 64 (f := .cls "Code") rfl), He.meth_ok (c.fact 72 (f := .meth "Code" "many") rfl), ne19⟩, F19, F19.bindsN fun _ _ _ _ _ _ us hl => match us, hl with | [_], _ => rfl, sc19, rfl, rfl, m19 K⟩
  obtain ⟨g20, F20⟩ := c.def_ 20 (d := d20) rfl
  have i20 : DefIn P K mg (prT K) 20 f20 "word" "Code.word" _ _ _ N20 _ g20 := ⟨⟨He.cls_ok (c.fact 64 (f := .cls "Code") rfl), He.meth_ok (c.fact 73 (f := .meth "Code" "word") rfl), ne20⟩, F20, F20.bindsN fun _ _ _ _ _ _ us hl => match us, hl with | [_, _], _ => rfl, sc20, rfl, rfl, m20 K⟩
  obtain ⟨g21, F21⟩ := c.def_ 21 (d := d21) rfl
  have i21 : DefIn P K mg (prT K) 21 f21 "number" "Code.number" _ _ _ N21 _ g21 := ⟨⟨He.cls_ok (c.fact 64 (f := .cls "Code") rfl), He.meth_ok (c.fact 74 (f := .meth "Code" "number") rfl), ne21⟩, F21, F21.bindsN fun _ _ _ _ _ _ us hl => match us, hl with | [_, _], _ => rfl, sc21, rfl, rfl, m21 K⟩
  obtain ⟨g22, F22⟩ := c.def_ 22 (d := d22) rfl
  have i22 : DefIn P K mg (prT K) 22 f22 "has_good" "Code.has_good" _ _ _ N22 _ g22 := ⟨⟨He.cls_ok (c.fact 64 (f := .cls "Code") rfl), He.meth_ok (c.fact 75 (f := .meth "Code" "has_good") rfl), ne22⟩, F22, F22.bindsN fun _ _ _ _ _ _ us hl => match us, hl with | [_, _], _ => rfl, sc22, rfl, rfl, m22 K⟩
  obtain ⟨g23, F23⟩ := c.def_ 23 (d := d23) rfl
  have i23 : DefIn P K mg (prT K) 23 f23 "_law_cell_at" "_law_cell_at" _ _ _ N23 _ g23 := ⟨⟨He.glo_ok X G (c.fact 23 (f := .glo "_law_cell_at") rfl), F23.kp⟩, F23, F23.bindsN fun _ _ _ _ _ _ us hl => match us, hl with | [_, _], _ => rfl, sc23, rfl, rfl, m23 K⟩
  obtain ⟨g24, F24⟩ := c.def_ 24 (d := d24) rfl
  have i24 : DefIn P K mg (prT K) 24 f24 "_law_long" "_law_long" _ _ _ N24 _ g24 := ⟨⟨He.glo_ok X G (c.fact 24 (f := .glo "_law_long") rfl), F24.kp⟩, F24, F24.bindsN fun _ _ _ _ _ _ us hl => match us, hl with | [_, _], _ => rfl, sc24, rfl, rfl, m24 K⟩
  obtain ⟨g25, F25⟩ := c.def_ 25 (d := d25) rfl
  have i25 : DefIn P K mg (prT K) 25 f25 "_law_mixed" "_law_mixed" _ _ _ N25 _ g25 := ⟨⟨He.glo_ok X G (c.fact 25 (f := .glo "_law_mixed") rfl), F25.kp⟩, F25, F25.bindsN fun _ _ _ _ _ _ us hl => match us, hl with | [_, _], _ => rfl, sc25, rfl, rfl, m25 K⟩
  obtain ⟨g26, F26⟩ := c.def_ 26 (d := d26) rfl
  have i26 : DefIn P K mg (prT K) 26 f26 "_law_divisor" "_law_divisor" _ _ _ N26 _ g26 := ⟨⟨He.glo_ok X G (c.fact 26 (f := .glo "_law_divisor") rfl), F26.kp⟩, F26, F26.bindsN fun _ _ _ _ _ _ us hl => match us, hl with | [_, _], _ => rfl, sc26, rfl, rfl, m26 K⟩
  obtain ⟨g27, F27⟩ := c.def_ 27 (d := d27) rfl
  have i27 : DefIn P K mg (prT K) 27 f27 "_law_alphabet" "_law_alphabet" _ _ _ N27 _ g27 := ⟨⟨He.glo_ok X G (c.fact 27 (f := .glo "_law_alphabet") rfl), F27.kp⟩, F27, F27.bindsN fun _ _ _ _ _ _ us hl => match us, hl with | [_, _], _ => rfl, sc27, rfl, rfl, m27 K⟩
  obtain ⟨g28, F28⟩ := c.def_ 28 (d := d28) rfl
  have i28 : DefIn P K mg (prT K) 28 f28 "_law_safe" "_law_safe" _ _ _ N28 _ g28 := ⟨⟨He.glo_ok X G (c.fact 28 (f := .glo "_law_safe") rfl), F28.kp⟩, F28, F28.bindsN fun _ _ _ _ _ _ us hl => match us, hl with | [_, _, _], _ => rfl, sc28, rfl, rfl, m28 K⟩
  obtain ⟨g29, F29⟩ := c.def_ 29 (d := d29) rfl
  have i29 : DefIn P K mg (prT K) 29 f29 "_law_weights" "_law_weights" _ _ _ N29 _ g29 := ⟨⟨He.glo_ok X G (c.fact 29 (f := .glo "_law_weights") rfl), F29.kp⟩, F29, F29.bindsN fun _ _ _ _ _ _ us hl => match us, hl with | [_, _, _], _ => rfl, sc29, rfl, rfl, m29 K⟩
  obtain ⟨g30, F30⟩ := c.def_ 30 (d := d30) rfl
  have i30 : DefIn P K mg (prT K) 30 f30 "_law_code" "_law_code" _ _ _ N30 _ g30 := ⟨⟨He.glo_ok X G (c.fact 30 (f := .glo "_law_code") rfl), F30.kp⟩, F30, F30.bindsN fun _ _ _ _ _ _ us hl => match us, hl with | [_], _ => rfl, sc30, rfl, rfl, m30 K⟩
  obtain ⟨g31, F31⟩ := c.def_ 31 (d := d31) rfl
  have i31 : DefIn P K mg (prT K) 31 f31 "_law_word" "_law_word" _ _ _ N31 _ g31 := ⟨⟨He.glo_ok X G (c.fact 31 (f := .glo "_law_word") rfl), F31.kp⟩, F31, F31.bindsN fun _ _ _ _ _ _ us hl => match us, hl with | [_, _, _], _ => rfl, sc31, rfl, rfl, m31 K⟩
  obtain ⟨g32, F32⟩ := c.def_ 32 (d := d32) rfl
  have i32 : DefIn P K mg (prT K) 32 f32 "_law_text" "_law_text" _ _ _ N32 _ g32 := ⟨⟨He.glo_ok X G (c.fact 32 (f := .glo "_law_text") rfl), F32.kp⟩, F32, F32.bindsN fun _ _ _ _ _ _ us hl => match us, hl with | [_, _], _ => rfl, sc32, rfl, rfl, m32 K⟩
  obtain ⟨g33, F33⟩ := c.def_ 33 (d := d33) rfl
  have i33 : DefIn P K mg (prT K) 33 f33 "_law_sum" "_law_sum" _ _ _ N33 _ g33 := ⟨⟨He.glo_ok X G (c.fact 33 (f := .glo "_law_sum") rfl), F33.kp⟩, F33, F33.bindsN fun _ _ _ _ _ _ us hl => match us, hl with | [_, _], _ => rfl, sc33, rfl, rfl, m33 K⟩
  obtain ⟨g34, F34⟩ := c.def_ 34 (d := d34) rfl
  have i34 : DefIn P K mg (prT K) 34 f34 "_law_made_good" "_law_made_good" _ _ _ N34 _ g34 := ⟨⟨He.glo_ok X G (c.fact 34 (f := .glo "_law_made_good") rfl), F34.kp⟩, F34, F34.bindsN fun _ _ _ _ _ _ us hl => match us, hl with | [_, _], _ => rfl, sc34, rfl, rfl, m34 K⟩
  obtain ⟨g35, F35⟩ := c.def_ 35 (d := d35) rfl
  have i35 : DefIn P K mg (prT K) 35 f35 "_law_places" "_law_places" _ _ _ N35 _ g35 := ⟨⟨He.glo_ok X G (c.fact 35 (f := .glo "_law_places") rfl), F35.kp⟩, F35, F35.bindsN fun _ _ _ _ _ _ us hl => match us, hl with | [_, _, _], _ => rfl, sc35, rfl, rfl, m35 K⟩
  obtain ⟨g36, F36⟩ := c.def_ 36 (d := d36) rfl
  have i36 : DefIn P K mg (prT K) 36 f36 "_law_rising" "_law_rising" _ _ _ N36 _ g36 := ⟨⟨He.glo_ok X G (c.fact 36 (f := .glo "_law_rising") rfl), F36.kp⟩, F36, F36.bindsN fun _ _ _ _ _ _ us hl => match us, hl with | [_, _, _], _ => rfl, sc36, rfl, rfl, m36 K⟩
  obtain ⟨g37, F37⟩ := c.def_ 37 (d := d37) rfl
  have i37 : DefIn P K mg (prT K) 37 f37 "_law_torn" "_law_torn" _ _ _ N37 _ g37 := ⟨⟨He.glo_ok X G (c.fact 37 (f := .glo "_law_torn") rfl), F37.kp⟩, F37, F37.bindsN fun _ _ _ _ _ _ us hl => match us, hl with | [_, _, _], _ => rfl, sc37, rfl, rfl, m37 K⟩
  obtain ⟨g38, F38⟩ := c.def_ 38 (d := d38) rfl
  have i38 : DefIn P K mg (prT K) 38 f38 "_law_foreign" "_law_foreign" _ _ _ N38 _ g38 := ⟨⟨He.glo_ok X G (c.fact 38 (f := .glo "_law_foreign") rfl), F38.kp⟩, F38, F38.bindsN fun _ _ _ _ _ _ us hl => match us, hl with | [_, _], _ => rfl, sc38, rfl, rfl, m38 K⟩
  obtain ⟨g39, F39⟩ := c.def_ 39 (d := d39) rfl
  have i39 : DefIn P K mg (prT K) 39 f39 "_law_no_torn" "_law_no_torn" _ _ _ N39 _ g39 := ⟨⟨He.glo_ok X G (c.fact 39 (f := .glo "_law_no_torn") rfl), F39.kp⟩, F39, F39.bindsN fun _ _ _ _ _ _ us hl => match us, hl with | [_, _, _, _], _ => rfl, sc39, rfl, rfl, m39 K⟩
  obtain ⟨g40, F40⟩ := c.def_ 40 (d := d40) rfl
  have i40 : DefIn P K mg (prT K) 40 f40 "_law_refused" "_law_refused" _ _ _ N40 _ g40 := ⟨⟨He.glo_ok X G (c.fact 40 (f := .glo "_law_refused") rfl), F40.kp⟩, F40, F40.bindsN fun _ _ _ _ _ _ us hl => match us, hl with | [_, _], _ => rfl, sc40, rfl, rfl, m40 K⟩
  obtain ⟨g41, F41⟩ := c.def_ 41 (d := d41) rfl
  have i41 : DefIn P K mg (prT K) 41 f41 "_law_fits" "_law_fits" _ _ _ N41 _ g41 := ⟨⟨He.glo_ok X G (c.fact 41 (f := .glo "_law_fits") rfl), F41.kp⟩, F41, F41.bindsN fun _ _ _ _ _ _ us hl => match us, hl with | [_, _, _], _ => rfl, sc41, rfl, rfl, m41 K⟩
  obtain ⟨g42, F42⟩ := c.def_ 42 (d := d42) rfl
  have i42 : DefIn P K mg (prT K) 42 f42 "law" "law" _ _ _ N42 _ g42 := ⟨⟨He.glo_ok X G (c.fact 42 (f := .glo "law") rfl), F42.kp⟩, F42, F42.bindsN fun _ _ _ _ _ _ us hl => match us, hl with | [_], _ => rfl, sc42, rfl, rfl, m42 K⟩
  have e := hfa.symm.trans i42.g.1
  cases e
  refine ⟨g42, fun s v => FunD.bindsA (ps := psT 42) F42 (fun _ _ _ _ _ _ us hl => match us, hl with | [_], _ => rfl) s [v] rfl, fun base _ _ => ?_⟩
  refine body_ok (pr := prT K) (n := 7) rfl rfl i42 (defs_ok (pr := prT K) rfl ?_ ?_ ?_ ?_ 7) ?_ ?_ ?_
  · intro f F hF
    match f, hF with
    | 0, hF => cases hF; exact ⟨_, _, _, _, _, _, _, _, i0⟩
    | 1, hF => cases hF; exact ⟨_, _, _, _, _, _, _, _, i1⟩
    | 2, hF => cases hF; exact ⟨_, _, _, _, _, _, _, _, i2⟩
    | 3, hF => cases hF; exact ⟨_, _, _, _, _, _, _, _, i3⟩
    | 4, hF => cases hF; exact ⟨_, _, _, _, _, _, _, _, i4⟩
    | 5, hF => cases hF; exact ⟨_, _, _, _, _, _, _, _, i5⟩
    | 6, hF => cases hF; exact ⟨_, _, _, _, _, _, _, _, i6⟩
    | 7, hF => cases hF; exact ⟨_, _, _, _, _, _, _, _, i7⟩
    | 8, hF => cases hF; exact ⟨_, _, _, _, _, _, _, _, i8⟩
    | 9, hF => cases hF; exact ⟨_, _, _, _, _, _, _, _, i9⟩
    | 10, hF => cases hF; exact ⟨_, _, _, _, _, _, _, _, i10⟩
    | 11, hF => cases hF; exact ⟨_, _, _, _, _, _, _, _, i11⟩
    | 12, hF => cases hF; exact ⟨_, _, _, _, _, _, _, _, i12⟩
    | 13, hF => cases hF; exact ⟨_, _, _, _, _, _, _, _, i13⟩
    | 14, hF => cases hF; exact ⟨_, _, _, _, _, _, _, _, i14⟩
    | 15, hF => cases hF; exact ⟨_, _, _, _, _, _, _, _, i15⟩
    | 16, hF => cases hF; exact ⟨_, _, _, _, _, _, _, _, i16⟩
    | 17, hF => cases hF; exact ⟨_, _, _, _, _, _, _, _, i17⟩
    | 18, hF => cases hF; exact ⟨_, _, _, _, _, _, _, _, i18⟩
    | 19, hF => cases hF; exact ⟨_, _, _, _, _, _, _, _, i19⟩
    | 20, hF => cases hF; exact ⟨_, _, _, _, _, _, _, _, i20⟩
    | 21, hF => cases hF; exact ⟨_, _, _, _, _, _, _, _, i21⟩
    | 22, hF => cases hF; exact ⟨_, _, _, _, _, _, _, _, i22⟩
    | 23, hF => cases hF; exact ⟨_, _, _, _, _, _, _, _, i23⟩
    | 24, hF => cases hF; exact ⟨_, _, _, _, _, _, _, _, i24⟩
    | 25, hF => cases hF; exact ⟨_, _, _, _, _, _, _, _, i25⟩
    | 26, hF => cases hF; exact ⟨_, _, _, _, _, _, _, _, i26⟩
    | 27, hF => cases hF; exact ⟨_, _, _, _, _, _, _, _, i27⟩
    | 28, hF => cases hF; exact ⟨_, _, _, _, _, _, _, _, i28⟩
    | 29, hF => cases hF; exact ⟨_, _, _, _, _, _, _, _, i29⟩
    | 30, hF => cases hF; exact ⟨_, _, _, _, _, _, _, _, i30⟩
    | 31, hF => cases hF; exact ⟨_, _, _, _, _, _, _, _, i31⟩
    | 32, hF => cases hF; exact ⟨_, _, _, _, _, _, _, _, i32⟩
    | 33, hF => cases hF; exact ⟨_, _, _, _, _, _, _, _, i33⟩
    | 34, hF => cases hF; exact ⟨_, _, _, _, _, _, _, _, i34⟩
    | 35, hF => cases hF; exact ⟨_, _, _, _, _, _, _, _, i35⟩
    | 36, hF => cases hF; exact ⟨_, _, _, _, _, _, _, _, i36⟩
    | 37, hF => cases hF; exact ⟨_, _, _, _, _, _, _, _, i37⟩
    | 38, hF => cases hF; exact ⟨_, _, _, _, _, _, _, _, i38⟩
    | 39, hF => cases hF; exact ⟨_, _, _, _, _, _, _, _, i39⟩
    | 40, hF => cases hF; exact ⟨_, _, _, _, _, _, _, _, i40⟩
    | 41, hF => cases hF; exact ⟨_, _, _, _, _, _, _, _, i41⟩
    | 42, hF => cases hF; exact ⟨_, _, _, _, _, _, _, _, i42⟩
    | n + 43, hF => cases hF
  · exact fun x hx => by
      simp only [bltNames, List.mem_cons, List.not_mem_nil, or_false] at hx
      rcases hx with rfl | rfl | rfl | rfl | rfl | rfl | rfl | rfl | rfl | rfl | rfl | rfl | rfl | rfl | rfl | rfl | rfl | rfl | rfl | rfl
      · exact He.free_ok X G (c.fact 43 (f := .free "len") rfl)
      · exact He.free_ok X G (c.fact 44 (f := .free "abs") rfl)
      · exact He.free_ok X G (c.fact 45 (f := .free "min") rfl)
      · exact He.free_ok X G (c.fact 46 (f := .free "max") rfl)
      · exact He.free_ok X G (c.fact 47 (f := .free "sum") rfl)
      · exact He.free_ok X G (c.fact 48 (f := .free "all") rfl)
      · exact He.free_ok X G (c.fact 49 (f := .free "int") rfl)
      · exact He.free_ok X G (c.fact 50 (f := .free "str") rfl)
      · exact He.free_ok X G (c.fact 51 (f := .free "sorted") rfl)
      · exact He.free_ok X G (c.fact 52 (f := .free "tuple") rfl)
      · exact He.free_ok X G (c.fact 53 (f := .free "divmod") rfl)
      · exact He.free_ok X G (c.fact 54 (f := .free "set") rfl)
      · exact He.free_ok X G (c.fact 55 (f := .free "isinstance") rfl)
      · exact He.free_ok X G (c.fact 56 (f := .free "bool") rfl)
      · exact He.free_ok X G (c.fact 57 (f := .free "list") rfl)
      · exact He.free_ok X G (c.fact 58 (f := .free "dict") rfl)
      · exact He.free_ok X G (c.fact 59 (f := .free "range") rfl)
      · exact He.free_ok X G (c.fact 60 (f := .free "enumerate") rfl)
      · exact He.free_ok X G (c.fact 61 (f := .free "zip") rfl)
      · exact He.free_ok X G (c.fact 62 (f := .free "reversed") rfl)
  · exact fun k hk => by
      match k, hk with
      | 0, _ => exact (He.str_ok X G (c.fact 63 (f := .str "LETTERS" "abcdefghijklmnopqrstuvwxyz") rfl)).elim fun t e => ⟨_, V.str "abcdefghijklmnopqrstuvwxyz", e, ⟨t, rfl⟩, fun _ => .str _⟩
      | n + 1, h => exact absurd (show n + 1 < 1 from h) (by omega)
  · exact by
      refine ⟨fun cc f h => ?_, fun f g hf hg e => fldI f hf g hg e, fun cc hc => ?_, fun cc hc => ?_, He.free_ok X G (c.fact 85 (f := .free "ValueError") rfl), kiB_ok (pr := prT K) (c.fxf 0 (f := fun K => kiB (prT K) K) rfl), exB_ok (pr := prT K) (c.fxf 1 (f := fun K => exB (prT K) K) rfl), ecB_ok (pr := prT K) (c.fxf 2 (f := fun K => ecB (prT K) K) rfl), fun k g bs ts h => ?_⟩
      · have h := of_decide_eq_true h
        simp only [foL, List.mem_cons, Prod.mk.injEq, List.not_mem_nil, or_false] at h
        rcases h with ⟨rfl, rfl⟩ | ⟨rfl, rfl⟩ | ⟨rfl, rfl⟩
        · exact ⟨He.cls_ok (c.fact 64 (f := .cls "Code") rfl), He.noat_ok (c.fact 66 (f := .noat "Code" "letters") rfl)⟩
        · exact ⟨He.cls_ok (c.fact 64 (f := .cls "Code") rfl), He.noat_ok (c.fact 67 (f := .noat "Code" "loads") rfl)⟩
        · exact ⟨He.cls_ok (c.fact 64 (f := .cls "Code") rfl), He.noat_ok (c.fact 68 (f := .noat "Code" "remainder") rfl)⟩
      · match cc, hc with
        | 0, _ => exact ⟨He.glo_ok X G (c.fact 79 (f := .glo "NoWord") rfl), He.exc_ok (c.fact 82 (f := .exc "NoWord") rfl)⟩
        | 1, _ => exact ⟨He.glo_ok X G (c.fact 77 (f := .glo "NoCode") rfl), He.exc_ok (c.fact 83 (f := .exc "NoCode") rfl)⟩
        | 2, _ => exact ⟨He.glo_ok X G (c.fact 78 (f := .glo "NoNumber") rfl), He.exc_ok (c.fact 84 (f := .exc "NoNumber") rfl)⟩
        | n + 3, h => exact absurd (show n + 3 < 3 from h) (by omega)
      · match cc, hc with
        | 3, _ => exact He.glo_ok X G (c.fact 76 (f := .glo "CableError") rfl)
        | 1, _ => exact He.glo_ok X G (c.fact 77 (f := .glo "NoCode") rfl)
        | 2, _ => exact He.glo_ok X G (c.fact 78 (f := .glo "NoNumber") rfl)
        | 0, _ => exact He.glo_ok X G (c.fact 79 (f := .glo "NoWord") rfl)
        | 4, _ => exact He.glo_ok X G (c.fact 80 (f := .glo "NoEntry") rfl)
        | 5, _ => exact He.glo_ok X G (c.fact 81 (f := .glo "NoText") rfl)
        | n + 6, h => exact absurd (show n + 6 < 6 from h) (by omega)
      · match k, h with
        | n + 0, h => cases h
  · exact fun x hx => by
      simp only [bltNames, List.mem_cons, List.not_mem_nil, or_false] at hx
      rcases hx with rfl | rfl | rfl | rfl | rfl | rfl | rfl | rfl | rfl | rfl | rfl | rfl | rfl | rfl | rfl | rfl | rfl | rfl | rfl | rfl
      · exact He.free_ok X G (c.fact 43 (f := .free "len") rfl)
      · exact He.free_ok X G (c.fact 44 (f := .free "abs") rfl)
      · exact He.free_ok X G (c.fact 45 (f := .free "min") rfl)
      · exact He.free_ok X G (c.fact 46 (f := .free "max") rfl)
      · exact He.free_ok X G (c.fact 47 (f := .free "sum") rfl)
      · exact He.free_ok X G (c.fact 48 (f := .free "all") rfl)
      · exact He.free_ok X G (c.fact 49 (f := .free "int") rfl)
      · exact He.free_ok X G (c.fact 50 (f := .free "str") rfl)
      · exact He.free_ok X G (c.fact 51 (f := .free "sorted") rfl)
      · exact He.free_ok X G (c.fact 52 (f := .free "tuple") rfl)
      · exact He.free_ok X G (c.fact 53 (f := .free "divmod") rfl)
      · exact He.free_ok X G (c.fact 54 (f := .free "set") rfl)
      · exact He.free_ok X G (c.fact 55 (f := .free "isinstance") rfl)
      · exact He.free_ok X G (c.fact 56 (f := .free "bool") rfl)
      · exact He.free_ok X G (c.fact 57 (f := .free "list") rfl)
      · exact He.free_ok X G (c.fact 58 (f := .free "dict") rfl)
      · exact He.free_ok X G (c.fact 59 (f := .free "range") rfl)
      · exact He.free_ok X G (c.fact 60 (f := .free "enumerate") rfl)
      · exact He.free_ok X G (c.fact 61 (f := .free "zip") rfl)
      · exact He.free_ok X G (c.fact 62 (f := .free "reversed") rfl)
  · exact fun k hk => by
      match k, hk with
      | 0, _ => exact (He.str_ok X G (c.fact 63 (f := .str "LETTERS" "abcdefghijklmnopqrstuvwxyz") rfl)).elim fun t e => ⟨_, V.str "abcdefghijklmnopqrstuvwxyz", e, ⟨t, rfl⟩, fun _ => .str _⟩
      | n + 1, h => exact absurd (show n + 1 < 1 from h) (by omega)
  · exact by
      refine ⟨fun cc f h => ?_, fun f g hf hg e => fldI f hf g hg e, fun cc hc => ?_, fun cc hc => ?_, He.free_ok X G (c.fact 85 (f := .free "ValueError") rfl), kiB_ok (pr := prT K) (c.fxf 0 (f := fun K => kiB (prT K) K) rfl), exB_ok (pr := prT K) (c.fxf 1 (f := fun K => exB (prT K) K) rfl), ecB_ok (pr := prT K) (c.fxf 2 (f := fun K => ecB (prT K) K) rfl), fun k g bs ts h => ?_⟩
      · have h := of_decide_eq_true h
        simp only [foL, List.mem_cons, Prod.mk.injEq, List.not_mem_nil, or_false] at h
        rcases h with ⟨rfl, rfl⟩ | ⟨rfl, rfl⟩ | ⟨rfl, rfl⟩
        · exact ⟨He.cls_ok (c.fact 64 (f := .cls "Code") rfl), He.noat_ok (c.fact 66 (f := .noat "Code" "letters") rfl)⟩
        · exact ⟨He.cls_ok (c.fact 64 (f := .cls "Code") rfl), He.noat_ok (c.fact 67 (f := .noat "Code" "loads") rfl)⟩
        · exact ⟨He.cls_ok (c.fact 64 (f := .cls "Code") rfl), He.noat_ok (c.fact 68 (f := .noat "Code" "remainder") rfl)⟩
      · match cc, hc with
        | 0, _ => exact ⟨He.glo_ok X G (c.fact 79 (f := .glo "NoWord") rfl), He.exc_ok (c.fact 82 (f := .exc "NoWord") rfl)⟩
        | 1, _ => exact ⟨He.glo_ok X G (c.fact 77 (f := .glo "NoCode") rfl), He.exc_ok (c.fact 83 (f := .exc "NoCode") rfl)⟩
        | 2, _ => exact ⟨He.glo_ok X G (c.fact 78 (f := .glo "NoNumber") rfl), He.exc_ok (c.fact 84 (f := .exc "NoNumber") rfl)⟩
        | n + 3, h => exact absurd (show n + 3 < 3 from h) (by omega)
      · match cc, hc with
        | 3, _ => exact He.glo_ok X G (c.fact 76 (f := .glo "CableError") rfl)
        | 1, _ => exact He.glo_ok X G (c.fact 77 (f := .glo "NoCode") rfl)
        | 2, _ => exact He.glo_ok X G (c.fact 78 (f := .glo "NoNumber") rfl)
        | 0, _ => exact He.glo_ok X G (c.fact 79 (f := .glo "NoWord") rfl)
        | 4, _ => exact He.glo_ok X G (c.fact 80 (f := .glo "NoEntry") rfl)
        | 5, _ => exact He.glo_ok X G (c.fact 81 (f := .glo "NoText") rfl)
        | n + 6, h => exact absurd (show n + 6 < 6 from h) (by omega)
      · match k, h with
        | n + 0, h => cases h
end K09
open PySem PySem.W PySem.Calls PyProof.Rows
theorem PySem.Challenge.cw_cablehouse_k09_torn_words_holds : PySem.Challenge.rw_cablehouse_k09_torn_words.Holds := by
  w_on; o_law
  refine HandSHeadRun.head_any (r := OpenLaw.row PySem.Challenge.rw_cablehouse_k09_torn_words) (q := view (OpenLaw.row PySem.Challenge.rw_cablehouse_k09_torn_words).prog [47]) (H := K09.hk) (ob := K09.ob) (M := 15600) (loose := K09.loo) (d := HandSHeadRun.topDef (OpenLaw.row PySem.Challenge.rw_cablehouse_k09_torn_words).prog 47) (kwd := []) K09.ob_eq
    (by kernel_rfl) (fun s => by kernel_rfl) K09.run (by kernel_rfl) (by kernel_rfl) (by kernel_rfl) (by rfl) (by first | assumption | decide +kernel) (by decide +kernel) ⟨rfl, rfl, rfl, rfl, rfl, by decide +kernel⟩ ?hw ?hc
  case hw => w_witness2
  case hc =>
    refine PD.lawW (l := PySem.Challenge.rw_cablehouse_k09_torn_words) (m := 63) (k := 8) (x := "_law_script") rfl (by decide) (by kernel_rfl) ⟨rfl, by decide, by decide⟩ ?_
    intro w mg fa h Y G hmg0
    obtain ⟨K, KX, c⟩ := Y
    have hmg : mg ("law" : PySem.Str) = some (.ref fa) := by
      have e : (HandSHeadRun.topDef (OpenLaw.row PySem.Challenge.rw_cablehouse_k09_torn_words).prog 47).name = ("law" : PySem.Str) := by kernel_rfl
      rw [← e]
      exact hmg0
    obtain ⟨fd, hb, hF⟩ := K09.facts (P := (PySem.Challenge.rw_cablehouse_k09_torn_words).prog) (w := w) KX G hmg c
    exact ⟨K09.prT K, 42, fd, KX, hb, hF, fun ns h1 h2 => K09.law_true ns h1 h2⟩

