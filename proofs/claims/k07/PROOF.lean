import PyProof.Rows.All
import Wide.All
import OpenK.AllK
import Wide.FinOn
import KE.KSuper
import KE.KCallOwn
import KE.KOpsOwn
import KE.KExcIs
import HandS.ExcIs
import KE.GoesMore
import KE.GoesEnum
import HandS.ForMost
import HandS.ForExc
import HandS.Zip
import HandS.Codes
import HandS.IsInst
import HandS.RaiseMore
import HandS.WrittenGet
import HandS.Walk
import HandS.Defaults
import HandS.ForSpec
import HandS.Comp
import PyProof.Rows.StrMul
import PyProof.Rows.StrJoinRep
import HandS.More
import PySem.Challenge.RW_heardby_k07_whole_claims_read_back
set_option Elab.async false
set_option linter.all false
set_option maxRecDepth 100000
set_option maxHeartbeats 4000000
/-! K1: rules that the layer lacks. -/
namespace L2.HR
open PySem PySem.Spec PyProof.Rows

/-! ### a call somewhere below the running body -/
theorem rel_ref (a : Addr) : RelV (.ref a) (.ref a) := rfl
theorem vals_a (a : Addr) : Vals [.ref a] [.ref a] := .cons (rel_ref a) .nil
theorem vals_ab (a b : Addr) : Vals [.ref a, .ref b] [.ref a, .ref b] := .cons (rel_ref a) (vals_a b)
section
variable {X : Cx} {CX : CXT} {k : Nat} {f : Addr} {fd : FuncData} {ps : List Str} {sp : Sp} {E : XK}
theorem run_at {A : Around} {pins : List (Addr × Obj)} {σ : St} {H : Hp} {s : Shared} {Q : VK} {us : List Value} {vs : List V} (F : FnOk X.prog X.w X.K X.mg X.base CX k f fd ps sp) (hr : Room k A) (hA : A.frames = X.A.frames)
    (hb : Binds X.K fd ps []) (hx : Passes CX X E) (I : Inv X pins σ H s) (r : Vals vs us) (h : sp vs H Q E) : wpAny (model X.prog X.w) A (call (.ref f) us) (EP X pins σ Q) X.xe s := by
  have l1 : us.length = ps.length := r.length.symm.trans (F.len _ _ _ _ h)
  have b := hb s us I.kIn (by simpa using l1)
  rw [List.append_nil] at b
  have e := I.env0
  have e' : Env0 X.prog X.w X.K X.mg X.base A X.stack s H := { frames := hA.trans e.frames, mod := e.mod, bs := e.bs, bsz := e.bsz, funs := e.funs, frf := e.frf, hok := e.hok, bare := e.bare }
  refine wpAny_call (codeAny_mono (F.run A X.stack s H ⟨us, []⟩ us vs Q E hr e' b r h) fun res s' z => ?_)
  match res, z with
  | .error e, z => exact hx pins σ H s e s' I z
  | .ok (.ret u), z => exact I.after z
  | .ok .next, z => exact z.elim
  | .ok .brk, z => exact z.elim
  | .ok .cont, z => exact z.elim

/-! ### ~x, x an own instance -/
def rInvOwn (K : PySem.W.Frag) (f : Addr) (sp : Sp) (E : XK) : V → Hp → VK → Prop := fun x H Q => ∃ a C dx fs, x = .ref a ∧ H a = some (.ins C dx fs) ∧ Meth K C "__invert__" f ∧ sp [.ref a] H Q E
theorem un_invOwn (F : FnOk X.prog X.w X.K X.mg X.base CX k f fd ps sp) (hr : Room k X.A) (hb : Binds X.K fd ps []) (hx : Passes CX X E) : UnR X (unaryOp .Invert) (rInvOwn X.K f sp E) := by
  intro pins s σ H x v Q I rx h
  obtain ⟨a, C, dx, fs, rfl, ha, hm, q⟩ := h
  cases rx
  obtain ⟨mA, O, _⟩ := ins_get I.hok ha
  obtain ⟨od, J, _⟩ := O.look
  obtain ⟨m, hF⟩ := I.fr
  exact PySem.W.ksp_inv hF I.ok.mod.kin J hm.at_ hm.fn (run_at F hr rfl hb hx I (vals_a _) q)

/-! ### str(x), x an own instance -/
def rStrOwn (K : PySem.W.Frag) (f : Addr) (sp : Sp) (E : XK) : List V → Hp → VK → Prop := fun xs H Q => ∃ a C dx fs, xs = [.ref a] ∧ H a = some (.ins C dx fs) ∧ Meth K C "__str__" f ∧ sp [.ref a] H (fun v H' => ∃ z, v = .str z ∧ Q v H') E
theorem call_strOwn (F : FnOk X.prog X.w X.K X.mg X.base CX k f fd ps sp) (hr : Room (k + 2) X.A) (hb : Binds X.K fd ps []) (hx : Passes CX X E) : CallR X (.type "str") (rStrOwn X.K f sp E) := by
  intro pins s σ H xs us Q I r h
  obtain ⟨a, C, dx, fs, rfl, ha, hm, q⟩ := h
  obtain ⟨u, rfl, ru⟩ := vals1 r
  cases ru
  obtain ⟨mA, O, _⟩ := ins_get I.hok ha
  obtain ⟨od, J, _⟩ := O.look
  have hun := hr.un
  refine PySem.W.kso_call (by show X.A.units + 1 + 1 < cLine; omega) I.kIn J hm.at_ hm.fn ?_
  refine wpAny_mono (run_at F hr.in1.in1 rfl hb hx I (vals_a _) q) (fun w s' z => ?_) fun _ _ z => z
  obtain ⟨v, H', I', rv, ⟨y, rfl, q'⟩⟩ := z
  obtain ⟨t, rfl⟩ := rv
  exact ⟨.str y, H', I', ⟨t, rfl⟩, q'⟩

/-! ### x == y by an own __eq__; where y's class stands below x's, y is asked first -/
open PySem.W in
theorem cmp_below {A : Around} {W : Value → Shared → Prop} {s : Shared} {K : Frag} {x y C D g : Addr} {ox oy : Obj} {od oe : Option Obj} {Q : Value → Shared → Prop} {prog : Program} {w : World} (hu : A.units < cLine) (X : K.In s.heap)
    (I : InstAt s.heap x ox C od) (J : InstAt s.heap y oy D oe) (hne : C ≠ D) (hsub : subIn K (.ref D) (.ref C) = some true) (hs : findIn K (.ref D) "__eq__" = some (some (.ref g))) (hf : isFn K (.ref g) = true)
    (h : wpAny (model prog w) A (call (.ref g) [.ref y, .ref x]) (PySem.W.CmpBack Q) W s) : wpAny (model prog w) A (richCompare .Eq (.ref x) (.ref y)) Q W s := by
  have asked : wpAny (model prog w) A (tryCompare (.ref y) "__eq__" (.ref x)) (fun r s' => ∃ v, r = some v ∧ Q v s') W s := by
    unfold tryCompare
    refine wpAny_bind (ifBound_K X J hs hf (wpAny_mono h (fun v s' z => ?_) fun _ _ z => z))
    cases v <;> first | exact z.elim | exact wpAny_pure ⟨_, rfl, z⟩
  have two : (Value.ref C != Value.ref D) = true := by simp [hne]
  unfold richCompare
  simp only [oneThing_ref]
  refine wpAny_holding (wpAny_bind (wpAny_cRoomFor hu ?_))
  refine wpAny_bind (I.type.here (wpAny_bind (J.type.here ?_)))
  rw [two, if_pos rfl]
  refine wpAny_bind ((looks_subIn X hsub).here ?_)
  simp only [if_true]
  refine wpAny_bind (wpAny_mono asked (fun r s' z => ?_) fun _ _ z => z)
  obtain ⟨v, rfl, hq⟩ := z
  exact wpAny_bind (wpAny_rule (wpAny_pure hq))
def rEqOwn (K : PySem.W.Frag) (f : Addr) (sp : Sp) (E : XK) : R2 := fun x y H Q => ∃ a b C D dx dy fs gs, x = .ref a ∧ y = .ref b ∧ H a = some (.ins C dx fs) ∧ H b = some (.ins D dy gs) ∧
  ((D = C ∧ Meth K C "__eq__" f ∧ sp [.ref a, .ref b] H (fun v H' => ∃ k, v = .bl k ∧ Q v H') E) ∨
    (C ≠ D ∧ PySem.W.subIn K (.ref D) (.ref C) = some true ∧ Meth K D "__eq__" f ∧ sp [.ref b, .ref a] H (fun v H' => ∃ k, v = .bl k ∧ Q v H') E))
theorem op_eqOwn (F : FnOk X.prog X.w X.K X.mg X.base CX k f fd ps sp) (hr : Room k X.A) (hb : Binds X.K fd ps []) (hx : Passes CX X E) : OpR X (compareOp .Eq) (rEqOwn X.K f sp E) := by
  intro pins s σ H x y v u Q I rx ry h
  obtain ⟨a, b, C, D, dx, dy, fs, gs, rfl, rfl, ha, hb', h⟩ := h
  cases rx
  cases ry
  obtain ⟨mA, O, _⟩ := ins_get I.hok ha
  obtain ⟨od, J, _⟩ := O.look
  obtain ⟨mB, O', _⟩ := ins_get I.hok hb'
  obtain ⟨oe, J', _⟩ := O'.look
  obtain ⟨m, hF⟩ := I.fr
  have back : ∀ {xs : List V} {us : List Value}, Vals xs us → sp xs H (fun v H' => ∃ k, v = .bl k ∧ Q v H') E → wpAny (model X.prog X.w) X.A (call (.ref f) us) (PySem.W.CmpBack (EP X pins σ Q)) X.xe s := fun {xs us} r q => by
    refine wpAny_mono (run_at F hr rfl hb hx I r q) (fun w s' z => ?_) fun _ _ z => z
    obtain ⟨v, H', I', rv, ⟨y, rfl, q'⟩⟩ := z
    cases rv
    exact ⟨.bl y, H', I', rfl, q'⟩
  show wpAny (model X.prog X.w) X.A (richCompare .Eq (.ref a) (.ref b)) (EP X pins σ Q) X.xe s
  rcases h with ⟨rfl, hm, q⟩ | ⟨hne, hsub, hm, q⟩
  · exact PySem.W.cmp_K (op := .Eq) (tb := .ref D) hr.units0 hF I.ok.mod.kin J J'.type (by simp [PySem.W.notFirst]) hm.at_ hm.fn (back (vals_ab _ _) q)
  · exact cmp_below hr.units0 I.kIn J J' hne hsub hm.at_ hm.fn (back (vals_ab _ _) q)
end

/-! ### repr of a tuple of plain items, where no repr is under way -/
def shV : V → PyData
  | .int i => .int i
  | .str x => .str x
  | .bl b => .bool b
  | _ => .none
def PlainV (y : V) : Prop := y = .non ∨ (∃ i : Int, y = .int i ∧ i.natAbs < 10000) ∨ ∃ x, y = .str x ∧ x.length ≤ 100 ∧ ∀ c ∈ x.cps.toList, c < 16 ^ 8
theorem reads_plain {h : Heap} : ∀ {ys : List V} {us : List Value}, Vals ys us → (∀ y ∈ ys, PlainV y) → ReadsAll h us (ys.map shV) []
  | _, _, .nil, _ => .nil
  | y :: ys, _, .cons (b := u) r t, hp => by
    have ih := reads_plain (h := h) t fun z hz => hp z (List.mem_cons_of_mem _ hz)
    rcases hp y List.mem_cons_self with rfl | ⟨i, rfl, _⟩ | ⟨x, rfl, _⟩
    · cases r
      exact .cons .none ih
    · obtain ⟨t', rfl⟩ := r
      exact .cons (.int i t') ih
    · obtain ⟨t', rfl⟩ := r
      exact .cons (.str x t') ih
theorem plain_show {y : V} (h : PlainV y) : PyData.showable (shV y) = true ∧ PyData.leavesShort 13 (shV y) = true ∧ PyData.weight (shV y) ≤ 1000 ∧ PyData.hasDict (shV y) = false ∧ PyData.depth (shV y) = 0 := by
  rcases h with rfl | ⟨i, rfl, hi⟩ | ⟨x, rfl, hl, hc⟩
  · exact ⟨rfl, rfl, by decide, rfl, rfl⟩
  · refine ⟨?_, ?_, ?_, rfl, rfl⟩
    · show decide (i.natAbs.log2 < 1920) = true
      refine decide_eq_true (log2_small (Nat.lt_of_lt_of_le hi ?_))
      exact Nat.le_trans (by decide : 10000 ≤ 2 ^ 20) (Nat.pow_le_pow_right (by decide) (by decide))
    · show decide ((PyData.shown (.int i)).length ≤ 13) = true
      exact decide_eq_true (PyData.shown_int_le (Nat.lt_of_lt_of_le hi (by decide)))
    · have e : PyData.weight (.int i) ≤ 1000 := by
        have z : PyData.weight (.int i) = Builtin.Int.intBits i := by first | rfl | simp [PyData.weight]
        rw [z]
        have hb : Builtin.Int.intBits i ≤ 64 := intBits_le_64 (by omega) (by omega)
        omega
      exact e
  · refine ⟨rfl, ?_, ?_, rfl, rfl⟩
    · show (x.cps.toList.all fun c => decide (c < 16 ^ 8)) = true
      exact List.all_eq_true.mpr fun c hm => decide_eq_true (hc c hm)
    · have z : PyData.weight (.str x) = x.cps.size + 1 ∨ PyData.weight (.str x) = x.cps.size := by first | exact .inl rfl | exact .inr rfl
      have e2 : x.length = x.cps.size := rfl
      show PyData.weight (.str x) ≤ 1000
      rcases z with z | z <;> rw [z] <;> omega
def plainT (ys : List V) : PyData := .tuple (ys.map shV)
theorem all_show : ∀ {ys : List V}, (∀ y ∈ ys, PlainV y) → PyData.showableAll (ys.map shV) = true ∧ PyData.leavesShortAll 13 (ys.map shV) = true ∧ PyData.weightAll (ys.map shV) ≤ 1001 * ys.length ∧ PyData.hasDictAll (ys.map shV) = false ∧ PyData.depthAll (ys.map shV) = 0
  | [], _ => ⟨rfl, rfl, by decide, rfl, rfl⟩
  | y :: ys, hp => by
    obtain ⟨a1, a2, a3, a4, a5⟩ := all_show (ys := ys) fun z hz => hp z (List.mem_cons_of_mem _ hz)
    obtain ⟨b1, b2, b3, b4, b5⟩ := plain_show (hp y List.mem_cons_self)
    refine ⟨?_, ?_, ?_, ?_, ?_⟩
    · show (PyData.showable (shV y) && PyData.showableAll (ys.map shV)) = true
      rw [a1, b1]
      rfl
    · show (PyData.leavesShort 13 (shV y) && PyData.leavesShortAll 13 (ys.map shV)) = true
      rw [a2, b2]
      rfl
    · have z : PyData.weightAll (shV y :: ys.map shV) = PyData.weight (shV y) + 1 + PyData.weightAll (ys.map shV) := by first | rfl | simp only [PyData.weightAll]
      show PyData.weightAll (shV y :: ys.map shV) ≤ 1001 * (ys.length + 1)
      rw [z]
      omega
    · show (PyData.hasDict (shV y) || PyData.hasDictAll (ys.map shV)) = false
      rw [a4, b4]
      rfl
    · have z : PyData.depthAll (shV y :: ys.map shV) = max (PyData.depth (shV y)) (PyData.depthAll (ys.map shV)) := by first | rfl | simp only [PyData.depthAll]
      show PyData.depthAll (shV y :: ys.map shV) = 0
      rw [z, a5, b5]
      rfl
section
variable {X : Cx} {k : Nat}
def rReprT (K : PySem.W.Frag) : List V → Hp → VK → Prop := fun xs H Q => ∃ p ys, xs = [.ref p] ∧ SqT K H p ys ∧ (∀ y ∈ ys, PlainV y) ∧ ys.length ≤ 10 ∧ Q (.str (plainT ys).shown) H
theorem call_reprT (hG : X.A.guards = some []) (hr : Room k X.A) : CallR X (.builtin "repr") (rReprT X.K) := by
  intro pins s σ H xs us Q I r h
  obtain ⟨p, ys, rfl, hT, hp, hl, q⟩ := h
  obtain ⟨u, rfl, ru⟩ := vals1 r
  cases ru
  obtain ⟨its, rv, ⟨o, ho, hc, n, hd⟩, _⟩ := I.tuple hT
  obtain ⟨a1, a2, a3, a4, a5⟩ := all_show hp
  have rd : Reads s.heap (.ref p) (plainT ys) [] := .tuple ho hc hd (by simpa using reads_plain (h := s.heap) rv hp)
  have hun := hr.units
  have hw : PyData.weight (plainT ys) ≤ 2 ^ 20 := by
    have z : PyData.weight (plainT ys) ≤ PyData.weightAll (ys.map shV) + 1 := by first | exact Nat.le_refl _ | exact Nat.le_succ _ | (unfold plainT; simp only [PyData.weight]; omega)
    have e : (2 : Nat) ^ 20 = 1048576 := by decide
    have hm : 1001 * ys.length ≤ 1001 * 10 := Nat.mul_le_mul_left 1001 hl
    omega
  have hdp : PyData.depth (plainT ys) = 1 := by
    have z : PyData.depth (plainT ys) = PyData.depthAll (ys.map shV) + 1 := by first | rfl | (unfold plainT; simp only [PyData.depth])
    rw [z, a5]
  have hnd : PyData.hasDict (plainT ys) = false := a4
  refine repr_of_reads' rd a1 (fun z => by rw [hnd] at z; cases z) hG (by rw [hdp]; omega) (fun _ _ e => e) (fun h' u tk hk => ?_) (PyData.shown_fits (B := 13) (by decide) (by decide) a2 hw)
  exact ⟨.str (plainT ys).shown, H, I.kept hk, ⟨u, rfl⟩, q⟩
end
end L2.HR
/-! K1b: contracts that know that no repr is under way; the law's end by such a contract; isinstance of a caught error with fields; zip(tuple, list), enumerate(tuple). -/
namespace L2.HR
open PySem PySem.Spec PyProof.Rows

/-! ### a def whose contract holds where no repr is under way -/
structure FnG (P : Program) (w : World) (K : PySem.W.Frag) (mg : Str → Option Value) (base : Heap) (CX : CXT) (k : Nat) (f : Addr) (fd : FuncData) (ps : List Str) (sp : Sp) : Prop where
  len : ∀ vs H Q E, sp vs H Q E → vs.length = ps.length
  run : ∀ (A : Around) (outer : List Env) (s : Shared) (H : Hp) (args : Args) (us : List Value) (vs : List V) (Q : VK) (E : XK), A.guards = some [] → Room k A → Env0 P w K mg base A outer s H →
    BindsTo s fd args (ps.zip us) → Vals vs us → sp vs H Q E → codeAny (model P w) A (.call (.ref f) args) (CR CX outer P w H s Q E) s
theorem binds_all {sc : Scope} {ps N : List Str} (S : FnScope N ps sc) (us : List Value) : ((ps.zip us).all fun y => sc.names.lookup y.1 == some .local || sc.names.lookup y.1 == some .cell) = true :=
  List.all_eq_true.mpr fun ⟨n, v⟩ hy => by
    rcases S.par n (List.of_mem_zip hy).1 with q | q <;> simp [q]
section
variable {P : Program} {w : World} {K : PySem.W.Frag} {mg : Str → Option Value} {base : Heap}
theorem fnG_ok {CX : CXT} {x qual : Str} {st : Stmt} {f : Addr} {fd : FuncData} {N ps : List Str} {k : Nat} {sp : Sp} (F : Fun K x qual st f fd) (S : FnScope N ps (defScope st)) (len : ∀ vs H Q E, sp vs H Q E → vs.length = ps.length)
    (hbody : ∀ (cdv : Value) (A : Around) (outer : List Env) (s : Shared) (H : Hp) (vs : List V) (Q : VK) (E : XK), (A.deeper (envOfC qual (defScope st) s.heap.objs.size f cdv)).guards = some [] →
      Room k (A.deeper (envOfC qual (defScope st) s.heap.objs.size f cdv)) → sp vs H Q E →
      ∃ t, PSs (cxOf CX P w K mg base N qual (defScope st) f cdv A outer s H E) (defBody st) t ∧ t { nx := fun _ H' => Q .non H', rt := Q } (start N vs) H) : FnG P w K mg base CX (k + 1) f fd ps sp := by
  obtain ⟨oc, od, kV, doc, pm, an, cdv, ct, osl, rfl, lk, hcd⟩ := F.ex
  refine ⟨len, fun A outer s H args us vs Q E hG hr e0 hb rv hsp => ?_⟩
  have KX : K.In s.heap := e0.mod.kin.keeps fun b o e => (e0.bs b o e).1
  have lim : s.heap.NoLimit := e0.mod.nolimit.keeps fun b o e => (e0.bs b o e).1
  refine Att.call_fn KX lim lk hcd hr.depth hb (binds_all S us) (fun s1 x1 => ?_) S.co S.gen S.kind
  obtain ⟨t, ht, q⟩ := hbody cdv A outer s H vs Q E hG (hr.deeper _) hsp
  have I : Inv (cxOf CX P w K mg base N qual (defScope st) f cdv A outer s H E) [] (start N vs) H s1 := inv_start S hr.hd e0 (len _ _ _ _ hsp) rv x1
  refine wpAny_mono (ht.run [] s1 (start N vs) H _ I q) (fun fl s' z => ?_) fun _ _ z => z
  match fl, z with
  | .ret u, ⟨v, σ', H', J, ru, q'⟩ => exact ⟨v, H', J.os, J.bare, J.base, J.hok, ru, q'⟩
  | .next, ⟨σ', H', J, q'⟩ => exact ⟨V.non, H', J.os, J.bare, J.base, J.hok, rfl, q'⟩
  | .brk, ⟨_, _, _, q'⟩ => exact q'.elim
  | .cont, ⟨_, _, _, q'⟩ => exact q'.elim
end
section
variable {X : Cx} {CX : CXT} {k : Nat} {f : Addr} {fd : FuncData} {ps : List Str} {sp : Sp} {E : XK} {x : Str} {p pos : Pos} {e : Expr} {es : List Expr} {t : TA}
theorem run_gd {pins : List (Addr × Obj)} {σ : St} {H : Hp} {s : Shared} {Q : VK} {us : List Value} {vs : List V} (F : FnG X.prog X.w X.K X.mg X.base CX k f fd ps sp) (hG : X.A.guards = some []) (hr : Room k X.A)
    (hb : Binds X.K fd ps []) (hx : Passes CX X E) (I : Inv X pins σ H s) (r : Vals vs us) (h : sp vs H Q E) : wpAny (model X.prog X.w) X.A (call (.ref f) us) (EP X pins σ Q) X.xe s := by
  have l1 : us.length = ps.length := r.length.symm.trans (F.len _ _ _ _ h)
  have b := hb s us I.kIn (by simpa using l1)
  rw [List.append_nil] at b
  refine wpAny_call (codeAny_mono (F.run X.A X.stack s H ⟨us, []⟩ us vs Q E hG hr I.env0 b r h) fun res s' z => ?_)
  match res, z with
  | .error e, z => exact hx pins σ H s e s' I z
  | .ok (.ret u), z => exact I.after z
  | .ok .next, z => exact z.elim
  | .ok .brk, z => exact z.elim
  | .ok .cont, z => exact z.elim
theorem pe_callGd (F : FnG X.prog X.w X.K X.mg X.base CX k f fd ps sp) (hG : X.A.guards = some []) (hr : Room k X.A) (hg : Gl X x) (hm : X.mg x = some (.ref f)) (kp : PySem.W.keepIn X.K (.ref f) = true) (hb : Binds X.K fd ps []) (hx : Passes CX X E)
    (args : PA X (e :: es) t) (nodbg : (x == ("__debug__" : Str)) = false := by decide)
    (split1 : starEach (e :: es) X.env = (false, eval e X.env) :: starEach es X.env := by rfl)
    (plain1 : (backTo pos (starEach es X.env)).any (·.1) = false := by rfl) : PE X (.Call (.Name x p) (e :: es) [] pos) fun σ H Q => t σ H fun given H1 => sp given H1 Q E := by
  constructor
  intro pins s σ H Q inv want
  have run : ∀ (us : List Value) (s1 : Shared), AP X pins σ (fun given H1 => sp given H1 Q E) us s1 → X.K.In s1.heap ∧ wpAny (model X.prog X.w) X.A (call (.ref f) ([] ++ us)) (EP X pins σ Q) X.xe s1 := by
    rintro us s1 ⟨given, H1, inv1, rel, q⟩
    exact ⟨inv1.kIn, run_gd F hG hr hb hx inv1 rel q⟩
  exact wpAny_Call_Name_kw (ld_glob inv hg hm (PySem.W.callWith_K (h₀ := X.base) inv.ok.mod.kin kp (thn (args.run pos pins s σ H _ inv want) run) split1 plain1) nodbg)
end

/-! ### the law's call, by a contract of that kind -/
theorem lawG_call {P : Program} {w : World} {K : PySem.W.Frag} {mg mb : Str → Option Value} {CX : CXT} {k : Nat} {fa a : Addr} {fd : FuncData} {x : Str} {sp : Sp} {s1 : Shared} {vs : List Value} {ns : List Int}
    (KX : K.In s1.heap) (hns : s1.heap.Ns mainGlobals mg) (hb : s1.heap.Ns builtinsNs mb) (hbb : ∀ x : Str, x ≠ "__name__" → mb x = bootBuiltins x) (hlim : s1.heap.NoLimit) (hg : s1.gens = #[])
    (ha : s1.heap.get? a = some { cls := .type "list", data := .seq vs.toArray }) (hi : IntsAre vs ns) (hl : ns.length ≤ sizeLine) (hr : Room k callerA)
    (F : ∀ base : Heap, K.In base → base.Ns mainGlobals mg → FnG P w K mg base CX k fa fd [x] sp) (hbind : ∀ (s : Shared) (u : Value), BindsTo s fd ⟨[u], []⟩ [(x, u)])
    (hsp : ∀ H : Hp, Only H → SqL K H a (ns.map V.int) → sp [.ref a] H (fun v _ => v = .bl true) fun _ _ _ => False) (hCX : ∀ H e s', CX [] H s1 (fun _ _ _ => False) e s' → False) :
    codeAny (model P w) callerA (.call (.ref fa) ⟨[.ref a], []⟩) (fun r s' => r = .ok (.ret (.bool true)) ∧ OldK s1.heap s'.heap ∧ s'.os = s1.os ∧ AllBare s'.gens) s1 := by
  have rv := vals_ints hi
  have lv := hi.length
  -- H tracks the script at most
  have main : ∀ H : Hp, Only H → SqL K H a (ns.map V.int) → HOk P w H s1.heap → (∀ b u, H b = some u → b = a ∧ K.lookup a = none) →
      codeAny (model P w) callerA (.call (.ref fa) ⟨[.ref a], []⟩) (fun r s' => r = .ok (.ret (.bool true)) ∧ OldK s1.heap s'.heap ∧ s'.os = s1.os ∧ AllBare s'.gens) s1 := by
    intro H hO hS hok hA
    have freeOf : ∀ {b : Addr}, (b = a → K.lookup a ≠ none ∨ False) → H b = none := fun {b} h => by
      cases q : H b with
      | none => rfl
      | some u =>
        obtain ⟨e, n⟩ := hA b u q
        rcases h e with z | z
        · exact absurd n z
        · exact z.elim
    have dictFree : ∀ {b : Addr} {o : Obj} {es : Array DictEntry} {ep : Nat}, s1.heap.get? b = some o → o.data = .dict es ep → H b = none := fun {b o es ep} e d => freeOf fun z => by
      subst z
      rw [ha] at e
      cases e
      exact .inr (by
        have d' : Data.seq vs.toArray _ = Data.dict es ep := d
        cases d')
    have low : ∀ {b : Addr} {m : Str → Option Value}, s1.heap.Ns b m → (hidT s1.heap H).Ns b m := fun {b m} ⟨o, es, ep, e, d, r⟩ => ⟨o, es, ep, hidT_get e (dictFree e d), d, r⟩
    have KB : K.In (hidT s1.heap H) := fun b o e => hidT_get (KX b o e) (freeOf fun z => .inl (by rw [← z, e]; exact fun q => nomatch q))
    have M : Mod K mg (hidT s1.heap H) := { kin := KB, glob := low hns, blt := ⟨mb, low hb, hbb⟩, nolimit := let ⟨mc, h1, h2⟩ := hlim; ⟨mc, low h1, h2⟩ }
    have e0 : Env0 P w K mg (hidT s1.heap H) callerA [] s1 H := { frames := rfl, mod := M, bs := fun b o e => of_hidT e, bsz := Nat.le_of_eq (hidT_size _ _), funs := trivial, frf := fun b hb => absurd (show b ∈ ([] : List Addr) from hb) (by simp), hok := hok, bare := .of_eq hg }
    refine codeAny_mono ((F _ KB (low hns)).run callerA [] s1 H ⟨[.ref a], []⟩ [.ref a] [.ref a] _ _ rfl hr e0 (hbind s1 (.ref a)) (vals_a a) (hsp H hO hS)) fun res s' z => ?_
    match res, z with
    | .error e, z => exact (hCX H e s' z).elim
    | .ok .next, z => exact z.elim
    | .ok .brk, z => exact z.elim
    | .ok .cont, z => exact z.elim
    | .ok (.ret u), z =>
      obtain ⟨v, H', os, bare, un, hok', ru, q⟩ := z
      have q' : v = .bl true := q
      subst q'
      obtain rfl : u = Value.bool true := ru
      refine ⟨rfl, OldK.of_keep fun b o e => ?_, os, bare⟩
      cases q : H b with
      | none => exact un.keep b o e q (by intro y; exact absurd (show b ∈ ([] : List Addr) from y) (by simp)) (by simp)
      | some u =>
        rcases hO b with y | ⟨ob, xs, y⟩
        · rw [q] at y
          cases y
        · obtain ⟨g1, _⟩ := hok b _ y
          obtain ⟨g2, _⟩ := hok' b _ (un.frzs b ob _ y)
          rw [e] at g1
          cases g1
          exact g2
  cases hk : K.lookup a with
  | some o =>
    have e := KX a o hk
    rw [ha] at e
    cases e
    refine main (fun _ => none) (fun _ => .inl rfl) (.inr ⟨_, vs.toArray, _, hk, rfl, rfl, rfl, by rw [List.size_toArray, lv]; exact hl, by simpa using rv⟩) (fun b u z => ?_) fun b u z => ?_
    · have z' : (none : Option HO) = some u := z
      cases z'
    · have z' : (none : Option HO) = some u := z
      cases z'
  | none =>
    refine main (upd (fun _ => none) a (.frz { cls := .type "list", data := .seq vs.toArray } (.lst (ns.map V.int)))) (fun b => ?_) (.inl (.inr ⟨_, upd_same⟩)) (fun b u z => ?_) fun b u z => ?_
    · by_cases hb : b = a
      · rw [hb]
        exact .inr ⟨_, _, upd_same⟩
      · exact .inl (upd_ne hb)
    · by_cases hb : b = a
      · subst hb
        rw [upd_same] at z
        cases z
        exact ⟨ha, by rw [List.length_map]; exact hl, vs, _, rv, ha⟩
      · rw [upd_ne hb] at z
        cases z
    · by_cases hb : b = a
      · exact ⟨hb, hk⟩
      · rw [upd_ne hb] at z
        cases z
theorem walkG {l : PySem.W.OpenLaw} {n k : Nat} {q : Program} {loose : List Str} {XP : (Str → Option Value) → Heap → Prop} {YP : World → Heap → Prop} {d : DefRec} {K : Params → PySem.W.Frag} {CX : World → CXT} {sp : World → Sp} {x : Str} (hn : l.most = some n) (hn2 : n ≤ sizeLine)
    (hdf : d.params.defaults = [])
    (hr : Room k callerA) (hY : ∀ (w : World) (h : Heap), YP w h → (K w.params).In h)
    (hF : ∀ (w : World) (mg : Str → Option Value) (fa : Addr) (h : Heap), (K w.params).In h → h.Ns mainGlobals mg → mg d.name = some (.ref fa) → ∃ fd : FuncData, (∀ (s : Shared) (u : Value), BindsTo s fd ⟨[u], []⟩ [(x, u)]) ∧
      ∀ base : Heap, (K w.params).In base → base.Ns mainGlobals mg → FnG l.prog w (K w.params) mg base (CX w) k fa fd [x] (sp w))
    (told : ∀ (w : World) (H : Hp) (a : Addr) (ns : List Int), ns.length ≤ n → Only H →
      SqL (K w.params) H a (ns.map V.int) → sp w [.ref a] H (fun v _ => v = .bl true) fun _ _ _ => False)
    (quiet : ∀ (w : World) (H : Hp) (s : Shared) (e : Value) (s' : Shared), CX w [] H s (fun _ _ _ => False) e s' → False) :
    PySem.W.WalkO q loose XP YP l.row.toRowW d [] (fun f vs => PySem.call f vs) := by
  refine Att.attach_call hn hdf ?_
  rintro w s₀ s1 mg mb fa o pm cd doc a vs ns G Y ho hd hcd hmg hobj hints hlen hg
  obtain ⟨fd, bind, own⟩ := hF w mg fa _ (hY w _ Y) G.T.g hmg
  exact lawG_call (hY w _ Y) G.T.g G.T.b G.T.builtins G.T.nolimit hg hobj hints (Nat.le_trans hlen hn2) hr own bind (fun H hO hS => told w H a ns hlen hO hS) fun H e s' => quiet w H s1 e s'

/-! ### isinstance(e, C), e a caught error that has fields -/
theorem call_isF {X : Cx} {a D : Addr} {cls : Value} {d : Option Addr} {oe : Obj} {pn : List (Addr × Obj)} (C : ExcC X.K D) (hz : Zc cls d oe) (hf : ∃ vs, oe.data = .fields vs) :
    CallR (X.suite a ((a, oe) :: pn)) (.builtin "isinstance") (fun xs H Q => ∃ (c : V) (cv : Value) (b : Bool) (dd : Addr) (fs : List (Str × V)), xs = [.ref a, c] ∧ cls = .ref D ∧ (∀ u, RelV c u → u = cv) ∧ d = some dd ∧ H dd = some (.xd fs) ∧ PySem.W.kitOne X.K (.ref D) cv = some b ∧ Q (.bl b) H) := by
  intro pins s σ H xs us Q I r h
  obtain ⟨c, cv, b, dd, fs, rfl, rfl, hcv, rfl, hdd, e, q⟩ := h
  obtain ⟨u1, u2, rfl, r1, r2⟩ := vals2 r
  cases r1
  have ec := hcv _ r2
  subst ec
  have hget := (I.pin (a, oe) (List.mem_append_left _ List.mem_cons_self)).1
  obtain ⟨vs, hv⟩ := hf
  have hx : ObjOk X.prog X.w H s.heap dd (.xd fs) := I.hok dd _ hdd
  obtain ⟨mA, hns, hr⟩ := hx
  obtain ⟨od, ho, hl⟩ := lookIn_ns hns
  have J : PySem.W.InstAt s.heap a oe D (some od) := ⟨hget, hz.1, by unfold PySem.W.notCls; rw [hv] <;> rfl, by rw [hz.2]; exact ho⟩
  have hcls : (PySem.W.clsIn X.K D).isSome = true := by
    obtain ⟨cd, hc, _⟩ := PySem.W.any_some C.hd
    rw [hc] <;> rfl
  exact PySem.W.kia_one (PySem.W.kitx_exc (od := some od) hcls C.hg C.hk C.hs C.ha C.hn C.ht C.hm) I.kIn J e (fun z => nomatch z) fun tk => ⟨.bl b, H, I.kept (t' := tk) fun _ _ z => z, rfl, q⟩
end L2.HR
/-! K1c: a loop over any walk that hands out new tuples (told of the heap by WalksT, at the turn's own items); so enumerate(tuple) and zip(tuple, list). -/
namespace L2.HR
open PySem PySem.Spec PyProof.Rows

/-- at this turn the library's walk W goes: what it wrote is the iterator's own, what it hands out is told by xs -/
structure Goes1 (P : Program) (w : World) (A : Around) (e : Addr) (fp : List Addr) (tn : Nat → Heap → Prop) (J : It) (i : Nat) (h : Heap) (H : Hp) : Prop where
  ex : ∃ (gp wr : List Addr) (n : Nat) (Pt : Nat → Array Value → Prop) (St : Nat → Heap → Prop) (Mid : Nat → Addr → Heap → Prop), WalksT P w A e gp wr n Pt St Mid ∧ (∀ b ∈ wr, b ∈ fp) ∧ i < n ∧ St i h ∧ (∀ g, St (i + 1) g → tn (i + 1) g) ∧
    ∀ vals, Pt i vals → ∃ xs : List V, Vals xs vals.toList ∧ xs.length ≤ sizeLine ∧ ∀ T, H T = none → J.yld i H (.ref T) (upd H T (.tup xs))
/-- at this turn it ends -/
structure Ends1 (P : Program) (w : World) (A : Around) (e : Addr) (fp : List Addr) (h : Heap) : Prop where
  ex : ∃ (gp wr : List Addr) (n : Nat) (Pt : Nat → Array Value → Prop) (St : Nat → Heap → Prop) (Mid : Nat → Addr → Heap → Prop), WalksT P w A e gp wr n Pt St Mid ∧ (∀ b ∈ wr, b ∈ fp) ∧ St n h
/-- A TURN FROM A WALK -/
theorem turn_of_walk {P : Program} {w : World} {K : PySem.W.Frag} {elts : List Expr} {kk : Nat} {tpos : Pos} {J : It} {fp : List Addr} {e : Addr} {tn : Nat → Heap → Prop} (hm : e ∈ fp)
    (ho : ∀ i h, tn i h → ∀ b ∈ fp, ∃ o, h.get? b = some o ∧ ∀ v, o.data ≠ .cell v) (hkp : ∀ i h h', tn i h → (∀ b ∈ fp, ∀ o, h.get? b = some o → h'.get? b = some o) → tn i h')
    (hgo : ∀ (X : Cx), X.prog = P → X.w = w → X.K = K → X.A.handled = none → ∀ (i : Nat) (pins : List (Addr × Obj)) (s : Shared) (σ : St) (H : Hp), Inv X pins σ H s → tn i s.heap → J.go i H → Goes1 P w X.A e fp tn J i s.heap H)
    (hend : ∀ (X : Cx), X.prog = P → X.w = w → X.K = K → X.A.handled = none → ∀ (i : Nat) (pins : List (Addr × Obj)) (s : Shared) (σ : St) (H : Hp), Inv X pins σ H s → tn i s.heap → J.stop i H → Ends1 P w X.A e fp s.heap)
    (hself : ∀ (A : Around) (i : Nat) (s : Shared) (Q : Value → Shared → Prop) (E : Value → Shared → Prop), tn i s.heap → Q (.ref e) s → wpAny (model P w) A (pyIter (.ref e)) Q E s) : Turn P w K (.Tuple elts kk tpos) J fp e tn := by
  refine { mem := hm, obj := ho, keep := hkp, self := hself, item := ?_, done := ?_ }
  · rintro X rfl rfl rfl calm i pins s σ H E inv mine here go
    obtain ⟨gp, wr, n, Pt, St, Mid, W, own, lt, at_, next, told⟩ := (hgo X rfl rfl rfl (inv.ok.hd calm) i pins s σ H inv here go).ex
    refine W.item i s _ E lt at_ fun T vals g tk pt far isT mid same => ?_
    refine ⟨.ref T, rfl, W.go elts kk tpos i T _ _ E mid fun g2 st2 same2 => ?_⟩
    obtain ⟨xs, rel, few, yl⟩ := told vals pt
    have apart := W.apart i T g mid
    have isT2 : g2.IsTuple T vals := isT.at fun o q => same2 T o apart q
    have laid : ObjOk X.prog X.w (upd H T (.tup xs)) g2 T (.tup xs) := ⟨few, vals.toList, rel, by simpa using (show IsTup g2 T vals from isT2)⟩
    refine ⟨.ref T, _, inv.turnedNew (t' := tk) (ch := wr) (fun b o nb q => same2 b o nb (same b o nb q)) (fun b hb => mine b (own b hb)) far laid, rel_ref T, yl T (inv.hok.fresh far), next _ st2, fun b hb => ?_⟩
    obtain ⟨o, q, _⟩ := ho i _ here b hb
    rw [upd_ne (Nat.ne_of_lt (Nat.lt_of_lt_of_le (Heap.lt_size q) far))]
    exact (mine b hb).1
  · rintro X rfl rfl rfl calm i pins s σ H E inv mine here stop
    obtain ⟨gp, wr, n, Pt, St, Mid, W, own, at_⟩ := (hend X rfl rfl rfl (inv.ok.hd calm) i pins s σ H inv here stop).ex
    exact W.done s _ E at_ fun g tk same => ⟨rfl, inv.turnedL (t' := tk) (ch := wr) same fun b hb => mine b (own b hb)⟩

/-! ### enumerate of a tuple -/
theorem apart_of {h : Heap} {a b : Addr} {o p : Obj} {x y : String} (e1 : h.get? a = some o) (e2 : h.get? b = some p) (c1 : o.cls = .type x) (c2 : p.cls = .type y) (n : x ≠ y) : a ≠ b := fun z => by
  rw [z, e2] at e1
  rw [← Option.some.inj e1, c2] at c1
  exact n (by injection c1 with q; exact q.symm)
def IteT (K : PySem.W.Frag) (a : Addr) : It where
  go := fun i H => ∃ (xs : List V) (x : V), SqT K H a xs ∧ xs[i]? = some x
  yld := fun i H v H' => ∃ (T : Addr) (x : V), v = .ref T ∧ H T = none ∧ H' = upd H T (.tup [.int (i : Nat), x]) ∧ ∀ xs, SqT K H a xs → xs[i]? = some x
  stop := fun i H => ∃ xs : List V, SqT K H a xs ∧ xs.length = i
def tnE (a e it : Addr) (i : Nat) (h : Heap) : Prop := (∃ old, IsEnum h e it ((i : Nat) : Int) old) ∧ h.IsTupleIter it a i
theorem walk_of_enum {X : Cx} {K : PySem.W.Frag} {a e it : Addr} {i : Nat} {pins : List (Addr × Obj)} {s : Shared} {σ : St} {H : Hp} {xs : List V} (hK : X.K = K) (hh : X.A.handled = none) (inv : Inv X pins σ H s) (st : tnE a e it i s.heap) (hq : SqT K H a xs) :
    ∃ its : List Value, Vals xs its ∧ WalksT X.prog X.w X.A e [e, it, a] [e, it] its.toArray.size (fun i vals => ∃ t x, its.toArray[i]? = some x ∧ vals = #[.int i t, x])
      (fun i h => (∃ old, IsEnum h e it i old) ∧ h.IsTupleIter it a i ∧ h.IsTuple a its.toArray) (fun i T h => (∃ x, IsEnumOut h e it ((i : Int) + 1) x T) ∧ (h.IsTupleIter it a (i + 1) ∧ h.IsTuple a its.toArray) ∧ T ≠ e ∧ T ≠ it) ∧ s.heap.IsTuple a its.toArray := by
  subst hK
  obtain ⟨its, rv, isT, _⟩ := inv.tuple hq
  obtain ⟨⟨old, en⟩, tit⟩ := st
  obtain ⟨oi, gi, ci, _⟩ := id tit
  obtain ⟨oa, ga, ca, _⟩ := id isT
  have ai : a ≠ it := apart_of ga gi ca ci (by decide)
  have ei : e ≠ it := apart_of en gi rfl ci (by decide)
  have ea : e ≠ a := apart_of en ga rfl ca (by decide)
  exact ⟨its, rv, .enumerateD (Draws.tuple (A := X.A.in1) hh it a ai its.toArray) e ei (fun z => (List.mem_cons.mp z).elim ei fun z => ea (List.mem_singleton.mp z)) List.mem_cons_self, isT⟩
theorem two_vals {u v : Value} {x y : V} (r1 : RelV x u) (r2 : RelV y v) : Vals [x, y] (#[u, v] : Array Value).toList := .cons r1 (.cons r2 .nil)
theorem two_few {x y : V} : [x, y].length ≤ sizeLine := by
  show 2 ≤ sizeLine
  decide
theorem turn_enumT {P : Program} {w : World} {K : PySem.W.Frag} {elts : List Expr} {kk : Nat} {tpos : Pos} (a e it : Addr) : Turn P w K (.Tuple elts kk tpos) (IteT K a) [e, it] e (tnE a e it) := by
  refine turn_of_walk List.mem_cons_self ?_ ?_ ?_ ?_ fun A i s Q E st q => st.1.elim fun old en => wpAny_pyIter_enum en q
  · rintro i h ⟨⟨old, en⟩, oi, gi, _, di⟩ b hb
    rcases List.mem_cons.mp hb with rfl | hb
    · exact ⟨_, en, fun v z => nomatch z⟩
    · rw [List.mem_singleton.mp hb]
      exact ⟨oi, gi, fun v z => by rw [di] at z; cases z⟩
  · rintro i h h' ⟨⟨old, en⟩, tit⟩ k
    exact ⟨⟨old, k e List.mem_cons_self _ en⟩, tit.at fun o q => k it (List.mem_cons_of_mem _ List.mem_cons_self) o q⟩
  · rintro X rfl rfl hK hh i pins s σ H inv st ⟨xs, x, hq, hx⟩
    obtain ⟨its, rv, W, isT⟩ := walk_of_enum hK hh inv st hq
    obtain ⟨u, hu, ru⟩ := rv.get hx
    have hu2 : its.toArray[i]? = some u := by simpa using hu
    refine ⟨⟨_, _, _, _, _, _, W, fun b hb => hb, (Array.getElem?_eq_some_iff.mp hu2).1, ⟨st.1, st.2, isT⟩, fun g q => ⟨q.1, q.2.1⟩, ?_⟩⟩
    rintro vals ⟨t, y, hy, rfl⟩
    obtain rfl : u = y := Option.some.inj (hu2.symm.trans hy)
    refine ⟨[.int (i : Nat), x], two_vals ⟨t, rfl⟩ ru, two_few, fun T hT => ⟨T, x, rfl, hT, rfl, fun ys hys => ?_⟩⟩
    subst hK
    rw [inv.tuple_inj hys hq]
    exact hx
  · rintro X rfl rfl hK hh i pins s σ H inv st ⟨xs, hq, hl⟩
    obtain ⟨its, rv, W, isT⟩ := walk_of_enum hK hh inv st hq
    have n : its.toArray.size = i := by rw [List.size_toArray, ← rv.length, hl]
    exact ⟨⟨_, _, _, _, _, _, W, fun b hb => hb, by rw [n]; exact ⟨st.1, st.2, isT⟩⟩⟩
/-- the walk as the loops see it -/
theorem walk_enumT {K : PySem.W.Frag} {a : Addr} {xs : List V} : Walk (IteT K a) xs.length (fun H => SqT K H a xs) (YPair (fun i => some (.int (i : Nat))) (fun i => xs[i]?)) where
  goes := fun i H lt q => ⟨xs, xs[i], q, List.getElem?_eq_getElem lt⟩
  stops := fun H q => ⟨xs, q, rfl⟩
  yields := fun i H v H' _ q ⟨T, x, e1, e2, e3, e4⟩ => ⟨T, _, x, e1, e2, e3, rfl, e4 xs q⟩
def iEnumT (K : PySem.W.Frag) (ta : TA) : TI := fun σ H R => ta σ H fun vs H1 => ∃ (a : Addr) (xs : List V), vs = [.ref a] ∧ SqT K H1 a xs ∧ R (IteT K a) H1
theorem made_enum {v : Value} {o : Obj} {H : Heap → Prop} (B : Begins v o H) : Meets (Builtin.«enumerate.__new__» ⟨[.type "enumerate", v], []⟩) (fun _ R s => H s.heap ∧
    R (.ok (.ret (.ref (s.heap.push o).objs.size))) { s with heap := (s.heap.push o).push { cls := .type "enumerate", data := .fields #[.none, .bool false, .ref s.heap.objs.size, rawInt 0, .none, .none] } }) := by
  refine .of_wp fun prog w A R s hs => ?_
  obtain ⟨hp, gs, dr, tk, os⟩ := s
  have sub := sub_enumerate
  have begin_ : ∀ {A' : Around} {E Q : Value → Shared → Prop}, Q (.ref hp.objs.size) ⟨hp.push o, gs, dr, tk, os⟩ → wpAny (model prog w) A' (pyIter v) Q E ⟨hp, gs, dr, tk, os⟩ := fun q => B.iter prog w _ _ ⟨hp, gs, dr, tk, os⟩ _ hs.1 q
  wp_walk using begin_
  refine wpAny_stack_any fun st => wpAny_pure ?_
  split
  · rename_i c _ _ _ _ _
    cases (c == Value.type "enumerate") <;> (wp_walk using begin_; exact ⟨_, rfl, hs.2⟩)
  · wp_walk using begin_
    exact ⟨_, rfl, hs.2⟩
theorem pi_enumT {X : Cx} {e : Expr} {ta : TA} {p pos tpos : Pos} {elts : List Expr} {kk : Nat} (hg : Gl X "enumerate") (hm : X.mg "enumerate" = none) (ha : PA X [e] ta) (one : starEach [e] X.env = [(false, eval e X.env)] := by rfl) :
    PI X (.Tuple elts kk tpos) (.Call (.Name "enumerate" p) [e] [] pos) (iEnumT X.K ta) := by
  constructor
  intro pins s σ H R inv want
  refine Call_ (ld_blt inv hg hm boot_enumerate (PyProof.Rows.callWith_type1 (thn (ha.run pos pins s σ H _ inv want) fun us s1 r => ?_) one rfl))
  obtain ⟨_, H1, inv1, rel, a, xs, rfl, hq, q⟩ := r
  obtain ⟨u, rfl, ru⟩ := vals1 rel
  cases ru
  obtain ⟨its, rv, isT, _⟩ := inv1.tuple hq
  refine callType_new F.called_enumerate (by decide) (F.typeCall_enumerate_1 _) (F.newCall_enumerate_1 _) (fun obj => F.args_object_init_2 obj _) F.entry_enumerate_new (made_enum (begins_tuple a its.toArray)) ⟨isT, ?_⟩
  generalize hN : s1.heap.objs.size = N
  have z1 : ∀ o : Obj, (s1.heap.push o).objs.size = N + 1 := fun o => by rw [Heap.size_push, hN]
  rw [z1]
  have at1 : ∀ {o o2 : Obj}, o2.isFreed = false → ((s1.heap.push o).push o2).get? (N + 1) = some o2 := fun {o o2} h => by
    have q := Heap.get?_push_size (s1.heap.push o) (o := o2) h
    rw [z1] at q
    exact q
  have at0 : ∀ {o o2 : Obj}, o.isFreed = false → ((s1.heap.push o).push o2).get? N = some o := fun {o o2} h => by
    rw [← hN]
    exact Heap.get?_push_of_some _ (Heap.get?_push_size _ h)
  have inv2 := inv1.kept (t' := s1.toks) (h' := (s1.heap.push { cls := .type "tuple_iterator", data := .fields #[.ref a, .int 0 0] }).push { cls := .type "enumerate", data := .fields #[.none, .bool false, .ref N, rawInt 0, .none, .none] }) fun b o g => Heap.get?_push_of_some _ (Heap.get?_push_of_some _ g)
  have fresh : ∀ {b : Addr}, N ≤ b → FpOk X pins H1 b := fun {b} le => inv1.fpOk (by rw [hN]; exact le) (inv1.hok.fresh (by rw [hN]; exact le))
  refine ⟨⟨_, at1 rfl, rfl⟩, wpAny_pyIter_enum (it := N) (at1 rfl) ⟨N + 1, [N + 1, N], tnE a (N + 1) N, IteT X.K a, H1, rfl, inv2, turn_enumT a (N + 1) N, ⟨⟨_, at1 rfl⟩, _, at0 rfl, rfl, rfl⟩, fun b hb => ?_, q⟩⟩
  rcases List.mem_cons.mp hb with rfl | hb
  · exact fresh (Nat.le_succ N)
  · rw [List.mem_singleton.mp hb]
    exact fresh (Nat.le_refl N)

/-! ### zip of a tuple and a list of one length -/
def ItzM (K : PySem.W.Frag) (a b : Addr) : It where
  go := fun i H => ∃ (xs ys : List V) (x y : V), SqT K H a xs ∧ SqL K H b ys ∧ xs[i]? = some x ∧ ys[i]? = some y
  yld := fun i H v H' => ∃ (T : Addr) (x y : V), v = .ref T ∧ H T = none ∧ H' = upd H T (.tup [x, y]) ∧ (∀ xs, SqT K H a xs → xs[i]? = some x) ∧ ∀ ys, SqL K H b ys → ys[i]? = some y
  stop := fun i H => ∃ xs ys : List V, SqT K H a xs ∧ SqL K H b ys ∧ xs.length = i ∧ ys.length = i
/-- the five cells of the zip over the tuple at a, the list at b -/
structure ZpL (z TI TO i1 i2 a : Addr) : Prop where
  iz : TI ≠ z
  oz : TO ≠ z
  io : TI ≠ TO
  i1 : TI ≠ i1
  i2 : TI ≠ i2
  oa : TO ≠ a
def tnZ (z TI TO i1 i2 a b : Addr) (i : Nat) (h : Heap) : Prop := IsZip h z TI TO .none ∧ IsTupOf2 h TI (.ref i1) (.ref i2) ∧ (∃ x y, IsTupOf2 h TO x y) ∧ h.IsTupleIter i1 a i ∧ h.IsListIter i2 b i
theorem five {z TI TO i1 i2 b : Addr} {Pr : Addr → Prop} (h1 : Pr z) (h2 : Pr TI) (h3 : Pr TO) (h4 : Pr i1) (h5 : Pr i2) (hb : b ∈ [z, TI, TO, i1, i2]) : Pr b := by
  simp only [List.mem_cons, List.not_mem_nil, or_false] at hb
  rcases hb with rfl | rfl | rfl | rfl | rfl <;> assumption
theorem walk_of_zip {X : Cx} {K : PySem.W.Frag} {z TI TO i1 i2 a b : Addr} {i : Nat} {pins : List (Addr × Obj)} {s : Shared} {σ : St} {H : Hp} {xs ys : List V} (L : ZpL z TI TO i1 i2 a) (hK : X.K = K) (hh : X.A.handled = none) (inv : Inv X pins σ H s) (st : tnZ z TI TO i1 i2 a b i s.heap) (hx : SqT K H a xs) (hy : SqL K H b ys) :
    ∃ us vs : List Value, Vals xs us ∧ Vals ys vs ∧ WalksT X.prog X.w X.A z (z :: TI :: TO :: ([i1, a] ++ [i2, b])) [z, TO, i1, i2] (min us.toArray.size vs.toArray.size) (fun i vals => ∃ x1 x2, us.toArray[i]? = some x1 ∧ vs.toArray[i]? = some x2 ∧ vals = #[x1, x2])
      (fun i h => IsZip h z TI TO .none ∧ IsTupOf2 h TI (.ref i1) (.ref i2) ∧ (∃ a1 a2, IsTupOf2 h TO a1 a2) ∧ (h.IsTupleIter i1 a i ∧ h.IsTuple a us.toArray) ∧ (h.IsListIter i2 b i ∧ h.IsList b vs.toArray))
      (fun i T h => IsZip h z TI TO (rawInt T) ∧ IsTupOf2 h TI (.ref i1) (.ref i2) ∧ (∃ a1 a2, IsTupOf2 h TO a1 a2) ∧ (h.IsTupleIter i1 a (i + 1) ∧ h.IsTuple a us.toArray) ∧ (h.IsListIter i2 b (i + 1) ∧ h.IsList b vs.toArray) ∧ T ≠ z ∧ T ≠ TO ∧ T ≠ i1 ∧ T ≠ i2) ∧
      s.heap.IsTuple a us.toArray ∧ s.heap.IsList b vs.toArray := by
  subst hK
  obtain ⟨us, ru, isT, _⟩ := inv.tuple hx
  obtain ⟨vs, rv, pl, _⟩ := inv.list hy
  obtain ⟨isZ, _, ⟨_, _, isO⟩, ⟨o1, g1, c1, _⟩, ⟨o2, g2, c2, _⟩⟩ := st
  obtain ⟨oa, ga, ca, _⟩ := id isT
  obtain ⟨ob, gb, cb, _⟩ := id pl.isList
  have no : ∀ {c u v : Addr}, c ≠ u → c ≠ v → c ∉ [u, v] := fun n m h => (List.mem_cons.mp h).elim n fun h => m (List.mem_singleton.mp h)
  have sep : ZipSep2 z TI TO i1 i2 [i1, a] [i2, b] :=
    { TIz := L.iz, TOz := L.oz, TITO := L.io, TIi1 := L.i1, TIi2 := L.i2, mem1 := List.mem_cons_self, mem2 := List.mem_cons_self
      zf1 := no (apart_of isZ g1 rfl c1 (by decide)) (apart_of isZ ga rfl ca (by decide)), zf2 := no (apart_of isZ g2 rfl c2 (by decide)) (apart_of isZ gb rfl cb (by decide))
      Tf1 := no (apart_of isO g1 rfl c1 (by decide)) L.oa, Tf2 := no (apart_of isO g2 rfl c2 (by decide)) (apart_of isO gb rfl cb (by decide))
      sep1_2 := no (apart_of g1 g2 c1 c2 (by decide)) (apart_of g1 gb c1 cb (by decide)), sep2_1 := no (apart_of g2 g1 c2 c1 (by decide)) (apart_of g2 ga c2 ca (by decide)) }
  exact ⟨us, vs, ru, rv, .zipD2 sep (Draws.tuple (A := X.A.in1) hh i1 a (apart_of ga g1 ca c1 (by decide)) us.toArray) (Draws.list (A := X.A.in1) hh i2 b (apart_of gb g2 cb c2 (by decide)) vs.toArray), isT, pl.isList⟩
theorem turn_zipM {P : Program} {w : World} {K : PySem.W.Frag} {elts : List Expr} {kk : Nat} {tpos : Pos} {z TI TO i1 i2 a b : Addr} (L : ZpL z TI TO i1 i2 a) : Turn P w K (.Tuple elts kk tpos) (ItzM K a b) [z, TI, TO, i1, i2] z (tnZ z TI TO i1 i2 a b) := by
  have own : ∀ c ∈ [z, TO, i1, i2], c ∈ [z, TI, TO, i1, i2] := fun c h => by
    rcases List.mem_cons.mp h with rfl | h
    · exact List.mem_cons_self
    · exact List.mem_cons_of_mem _ (List.mem_cons_of_mem _ h)
  refine turn_of_walk List.mem_cons_self ?_ ?_ ?_ ?_ fun A i s Q E st q => wpAny_pyIter_zip st.1 q
  · rintro i h ⟨gz, gi, ⟨_, _, go⟩, ⟨o1, g1, _, d1⟩, ⟨o2, g2, _, d2⟩⟩ c hc
    exact five (Pr := fun c => ∃ o, h.get? c = some o ∧ ∀ v, o.data ≠ .cell v) ⟨_, gz, fun v q => nomatch q⟩ ⟨_, gi, fun v q => nomatch q⟩ ⟨_, go, fun v q => nomatch q⟩ ⟨_, g1, fun v q => by rw [d1] at q; cases q⟩ ⟨_, g2, fun v q => by rw [d2] at q; cases q⟩ hc
  · rintro i h h' ⟨gz, gi, ⟨x, y, go⟩, t1, t2⟩ k
    exact ⟨k _ (by simp) _ gz, k _ (by simp) _ gi, ⟨x, y, k _ (by simp) _ go⟩, t1.at fun o q => k _ (by simp) o q, t2.at fun o q => k _ (by simp) o q⟩
  · rintro X rfl rfl hK hh i pins s σ H inv st ⟨xs, ys, x, y, hx, hy, ex, ey⟩
    obtain ⟨us, vs, ru, rv, W, isT, isL⟩ := walk_of_zip L hK hh inv st hx hy
    obtain ⟨u, hu, r1⟩ := ru.get ex
    obtain ⟨v, hv, r2⟩ := rv.get ey
    have hu2 : us.toArray[i]? = some u := by simpa using hu
    have hv2 : vs.toArray[i]? = some v := by simpa using hv
    have l1 := (Array.getElem?_eq_some_iff.mp hu2).1
    have l2 := (Array.getElem?_eq_some_iff.mp hv2).1
    refine ⟨⟨_, _, _, _, _, _, W, own, by omega, ⟨st.1, st.2.1, st.2.2.1, ⟨st.2.2.2.1, isT⟩, ⟨st.2.2.2.2, isL⟩⟩, fun g q => ⟨q.1, q.2.1, q.2.2.1, q.2.2.2.1.1, q.2.2.2.2.1⟩, ?_⟩⟩
    rintro vals ⟨u', v', h1, h2, rfl⟩
    obtain rfl : u = u' := Option.some.inj (hu2.symm.trans h1)
    obtain rfl : v = v' := Option.some.inj (hv2.symm.trans h2)
    subst hK
    exact ⟨[x, y], two_vals r1 r2, two_few, fun T hT => ⟨T, x, y, rfl, hT, rfl, fun l hl => by rw [inv.tuple_inj hl hx]; exact ex, fun l hl => by rw [inv.list_inj hl hy]; exact ey⟩⟩
  · rintro X rfl rfl hK hh i pins s σ H inv st ⟨xs, ys, hx, hy, e1, e2⟩
    obtain ⟨us, vs, ru, rv, W, isT, isL⟩ := walk_of_zip L hK hh inv st hx hy
    have n : min us.toArray.size vs.toArray.size = i := by rw [List.size_toArray, List.size_toArray, ← ru.length, ← rv.length, e1, e2, Nat.min_self]
    exact ⟨⟨_, _, _, _, _, _, W, own, by rw [n]; exact ⟨st.1, st.2.1, st.2.2.1, ⟨st.2.2.2.1, isT⟩, ⟨st.2.2.2.2, isL⟩⟩⟩⟩
theorem walk_zipM {K : PySem.W.Frag} {a b : Addr} {xs ys : List V} (hl : xs.length = ys.length) : Walk (ItzM K a b) xs.length (fun H => SqT K H a xs ∧ SqL K H b ys) (YPair (fun i => xs[i]?) (fun i => ys[i]?)) where
  goes := fun i H lt q => ⟨xs, ys, xs[i], ys[i], q.1, q.2, List.getElem?_eq_getElem lt, List.getElem?_eq_getElem (hl ▸ lt)⟩
  stops := fun H q => ⟨xs, ys, q.1, q.2, rfl, hl.symm⟩
  yields := fun i H v H' _ q ⟨T, x, y, e1, e2, e3, e4, e5⟩ => ⟨T, x, y, e1, e2, e3, e4 xs q.1, e5 ys q.2⟩
def iZipM (K : PySem.W.Frag) (ta : TA) : TI := fun σ H R => ta σ H fun vs H1 => ∃ (a b : Addr) (xs ys : List V), vs = [.ref a, .ref b] ∧ SqT K H1 a xs ∧ SqL K H1 b ys ∧ R (ItzM K a b) H1
theorem pi_zipM {X : Cx} {e e2 : Expr} {ta : TA} {p pos tpos : Pos} {elts : List Expr} {kk : Nat} (hg : Gl X "zip") (hm : X.mg "zip" = none) (ha : PA X [e, e2] ta)
    (two : starEach [e, e2] X.env = (false, eval e X.env) :: starEach [e2] X.env := by rfl) (plain : (backTo pos (starEach [e2] X.env)).any (·.1) = false := by rfl) : PI X (.Tuple elts kk tpos) (.Call (.Name "zip" p) [e, e2] [] pos) (iZipM X.K ta) := by
  constructor
  intro pins s σ H R inv want
  refine Call_ (ld_blt inv hg hm PyProof.Rows.boot_zip (PyProof.Rows.callWith_type1 (thn (ha.run pos pins s σ H _ inv want) fun us s1 r => ?_) two plain))
  obtain ⟨_, H1, inv1, rel, a, b, xs, ys, rfl, hx, hy, q⟩ := r
  obtain ⟨v1, v2, rfl, ra, rb⟩ := vals2 rel
  cases ra
  cases rb
  obtain ⟨its, _, isT, _⟩ := inv1.tuple hx
  obtain ⟨its2, _, pl, _⟩ := inv1.list hy
  obtain ⟨oa, ga, _⟩ := id isT
  refine zip_begins2 (begins_tuple a its.toArray) (begins_list b its2.toArray) isT pl.isList fun h' gz gi go g1 g2 _ same => wpAny_pyIter_zip gz ?_
  have fresh : ∀ {c : Addr}, s1.heap.objs.size ≤ c → FpOk X pins H1 c := fun {c} le => inv1.fpOk le (inv1.hok.fresh le)
  have apart : ∀ j k : Nat, j ≠ k → (s1.heap.objs.size + j : Nat) ≠ s1.heap.objs.size + k := fun j k n => by omega
  have below : a < s1.heap.objs.size := Heap.lt_size ga
  refine ⟨_, [s1.heap.objs.size + 4, s1.heap.objs.size + 2, s1.heap.objs.size + 3, s1.heap.objs.size, s1.heap.objs.size + 1], _, ItzM X.K a b, H1, rfl, inv1.kept (t' := s1.toks) same,
    turn_zipM ⟨apart 2 4 (by decide), apart 3 4 (by decide), apart 2 3 (by decide), apart 2 0 (by decide), apart 2 1 (by decide), fun w => absurd below (by rw [← w]; exact Nat.not_lt.mpr (Nat.le_add_right _ 3))⟩, ⟨gz, gi, ⟨_, _, go⟩, ⟨_, g1, rfl, rfl⟩, ⟨_, g2, rfl, rfl⟩⟩, fun c hc => ?_, q⟩
  exact five (Pr := FpOk X pins H1) (fresh (Nat.le_add_right _ _)) (fresh (Nat.le_add_right _ _)) (fresh (Nat.le_add_right _ _)) (fresh (Nat.le_refl _)) (fresh (Nat.le_add_right _ _)) hc
end L2.HR
/-! K1d: a def whose whole body is super().__init__(x), the base an own class. -/
namespace L2.HR
open PySem PySem.Spec PyProof.Rows
open PySem.W (ksEnv ksFn ks_superObj ks_superIn methodObj)

/-- the context of such a body -/
def sCx (P : Program) (w : World) (K : PySem.W.Frag) (mg : Str → Option Value) (base : Heap) (N : List Str) (qual : Str) (sc : Scope) (f cc : Addr) (cd : Value) (A : Around) (outer : List Env) (s : Shared) (H : Hp) : Cx where
  prog := P
  w := w
  K := K
  mg := mg
  base := base
  A := A.deeper (ksEnv qual sc s.heap.objs.size f cd cc)
  N := N
  s_0 := s
  H_0 := H
  env := ksEnv qual sc s.heap.objs.size f cd cc
  outer := outer
  stack := ksEnv qual sc s.heap.objs.size f cd cc :: outer
  ex := []
  calm := true
  fn := fun y => !(y == ("__class__" : Str))
  pn := []
  xe := fun _ _ => False
/-- what the top has made of the def: a method of the class at D, with D in its cell -/
structure FunS (P : Program) (K : PySem.W.Frag) (x qual : Str) (st : Stmt) (f D : Addr) (dvs : List V) (fd : FuncData) : Prop where
  ex : ∃ (oc : Value) (od : Option Addr) (dV kV doc pm : Value) (an : Option Addr) (cda : Addr) (ct : Value) (cc : Addr) (osl : Array (Option Value)) (ccl : Value) (cdd : Option Addr) (vs : Array Value) (ccs : Array (Option Value)) (file : Str) (tf : Tok) (cl : Value) (cld : Option Addr) (csl : Array (Option Value)),
    fd = ksFn x qual (defArgs st) (defBody st) (defScope st) dV kV doc pm an (.ref cda) ct cc ∧ K.lookup f = some ⟨oc, od, .func (ksFn x qual (defArgs st) (defBody st) (defScope st) dV kV doc pm an (.ref cda) ct cc), osl⟩ ∧
    PySem.W.codeIn K (.ref cda) qual = true ∧ K.lookup cda = some ⟨ccl, cdd, .fields vs, ccs⟩ ∧ vs[2]? = some (.str file tf) ∧ ((P.main.file : Str) == file) = true ∧ K.lookup cc = some ⟨cl, cld, .cell (some (.ref D)), csl⟩ ∧ DflV K dV dvs
/-- how it is bound where all is written -/
theorem FunS.bindsD {P : Program} {K : PySem.W.Frag} {x qual : Str} {st : Stmt} {f D : Addr} {dvs : List V} {fd : FuncData} {ps : List Str} (F : FunS P K x qual st f D dvs fd) (hd : dvs ≠ [])
    (h : ∀ (T : Addr) (kV doc pm : Value) (an : Option Addr) (cd ct : Value) (cc : Addr) (us its : List Value), us.length = ps.length → its.length = dvs.length →
      ∃ k, bindArgs (ksFn x qual (defArgs st) (defBody st) (defScope st) (.ref T) kV doc pm an cd ct cc) ⟨us, []⟩ = seqItems? (.ref T) >>= k ∧ k (some its.toArray) = pure (ps.zip us)) : Binds K fd ps [] := by
  obtain ⟨oc, od, dV, kV, doc, pm, an, cda, ct, cc, osl, ccl, cdd, vs, ccs, file, tf, cl, cld, csl, rfl, lk, _, _, _, _, _, hD⟩ := F.ex
  rcases hD with ⟨e, _⟩ | ⟨_, T, o, its, m, rfl, lT, oT, rT⟩
  · exact absurd e hd
  · intro s us X hlen
    rw [List.append_nil] at hlen ⊢
    obtain ⟨k, e1, e2⟩ := h T kV doc pm an (.ref cda) ct cc us its hlen rT.length.symm
    refine BindsTo.of_looks fun M => ?_
    rw [e1]
    exact looks_items X lT oT (.of_pure e2)
theorem FunS.bindsN {P : Program} {K : PySem.W.Frag} {x qual : Str} {st : Stmt} {f D : Addr} {fd : FuncData} {ps : List Str} (F : FunS P K x qual st f D [] fd)
    (h : ∀ (kV doc pm : Value) (an : Option Addr) (cd ct : Value) (cc : Addr) (us : List Value), us.length = ps.length → bindArgs (ksFn x qual (defArgs st) (defBody st) (defScope st) .none kV doc pm an cd ct cc) ⟨us, []⟩ = pure (ps.zip us)) : Binds K fd ps [] := by
  obtain ⟨oc, od, dV, kV, doc, pm, an, cda, ct, cc, osl, ccl, cdd, vs, ccs, file, tf, cl, cld, csl, rfl, lk, _, _, _, _, _, hD⟩ := F.ex
  rcases hD with ⟨_, rfl⟩ | ⟨e, _⟩
  · exact .all (h kV doc pm an (.ref cda) ct cc)
  · exact absurd rfl e
/-- what the class at D and its base's __init__, at f2, are -/
structure SupK (P : Program) (K : PySem.W.Frag) (D f2 : Addr) : Prop where
  cls : PySem.W.isClsIn K D = true
  mro : PySem.W.mroIn K D (.ref D) = some true
  noS : PySem.W.nsIn K mainGlobals "super" = some none
  opq : PySem.W.nsIn K cStatics "thirdparty.any" = some none
  sup : ks_superIn K D D "__init__" = some (some (.ref f2))
  ty : PySem.W.typeIn K (.ref f2) = some (.type "function")
  fn : PySem.W.fnIn K f2 = true
  top : (P.main.scope.names.lookup ("super" : Str)).isSome = false
abbrev superS (p0 p1 : Pos) : Expr := .Call (.Name "super" p0) [] [] p1
structure SupS (ps : List Str) (st : Stmt) (arg : Expr) : Prop where
  body : ∃ p0 p1 ap cp ep, defBody st = [.Expr (.Call (.Attribute (superS p0 p1) "__init__" ap) [arg] [] cp) ep] ∧
    (∀ q f cda s cc, interactive (ksEnv q (defScope st) s f (.ref cda) cc) = false) ∧ (∀ q f cda s cc, starEach [arg] (ksEnv q (defScope st) s f (.ref cda) cc) = (false, eval arg (ksEnv q (defScope st) s f (.ref cda) cc)) :: starEach [] (ksEnv q (defScope st) s f (.ref cda) cc)) ∧
    ∀ q f cda s cc, ∃ pl, eval (.Call (.Attribute (superS p0 p1) "__init__" ap) [arg] [] cp) (ksEnv q (defScope st) s f (.ref cda) cc) = (do
      let ov ← attributeBase (superS p0 p1) "__init__" (ksEnv q (defScope st) s f (.ref cda) cc) (eval (superS p0 p1) (ksEnv q (defScope st) s f (.ref cda) cc))
      standAt ap.atName
      let (f', first) ← holding [ov] (getMethod ov "__init__" pl)
      callWith cp f' first (backTo cp (starEach [arg] (ksEnv q (defScope st) s f (.ref cda) cc))) [])
  kind : (defScope st).kind = .function
  co : (defScope st).isCoroutine = false
  gen : (defScope st).isGenerator = false
  nd : ps.Nodup
  par : ∀ x ∈ ps, (defScope st).names.lookup x = some .local
  nocell : ∀ x ∈ (defScope st).names, x.2 ≠ .cell
  free : ∀ x ∈ (defScope st).names, x.2 = .free → x.1 = "__class__"
  hks : (defScope st).names.lookup ("super" : Str) = some .globalImplicit
  hkc : (defScope st).names.lookup ("__class__" : Str) = some .free
  one : ∃ ar r, (defArgs st).posonlyargs ++ (defArgs st).args = ar :: r ∧ ps.head? = some ar.arg
theorem boot_super : bootBuiltins "super" = some (.type "super") := by first | rfl | kernel_rfl | decide +kernel
theorem clsIn_obj {K : PySem.W.Frag} {D : Addr} {cd : ClassData} {h : Heap} (X : K.In h) (e : PySem.W.clsIn K D = some cd) : ∃ oD, h.get? D = some oD ∧ oD.data = .cls cd := by
  unfold PySem.W.clsIn at e
  split at e
  · rename_i c d cd' sl ho
    cases e
    exact ⟨_, X _ _ ho, rfl⟩
  · cases e
theorem zip_get {ps : List Str} {us : List Value} {i : Nat} {x : Str} {v : Value} (nd : ps.Nodup) (h1 : ps[i]? = some x) (h2 : us[i]? = some v) : (ps.zip us).reverse.lookup x = some v := by
  have key : ∀ {l : List (Str × Value)}, (l.map (·.1)).Nodup → ∀ {x : Str} {v : Value}, (x, v) ∈ l → l.lookup x = some v := by
    intro l
    induction l with
    | nil =>
      intro _ x v h
      exact absurd h (by simp)
    | cons p r ih =>
      obtain ⟨a, b⟩ := p
      intro nd x v h
      rw [List.map_cons, List.nodup_cons] at nd
      rcases List.mem_cons.mp h with e | h
      · cases e
        simp [List.lookup]
      · have ne : x ≠ a := fun z => nd.1 (by rw [← z]; exact List.mem_map.mpr ⟨(x, v), h, rfl⟩)
        have q : (x == a) = false := by simpa using ne
        rw [List.lookup, q]
        exact ih nd.2 h
  have hz : (ps.zip us)[i]? = some (x, v) := by
    rw [List.getElem?_zip_eq_some]
    exact ⟨h1, h2⟩
  have nz : ((ps.zip us).map (·.1)).Nodup := by
    have sub : ∀ (l : List Str) (m : List Value), (l.zip m).map (·.1) <+: l := by
      intro l
      induction l with
      | nil => intro m; exact List.nil_prefix
      | cons a l ih =>
        intro m
        cases m with
        | nil => exact List.nil_prefix
        | cons b m => exact List.cons_prefix_cons.mpr ⟨rfl, ih m⟩
    exact nd.sublist (sub _ _).sublist
  refine key ?_ (List.mem_reverse.mpr (List.mem_of_getElem? hz))
  rw [List.map_reverse]
  exact List.pairwise_reverse.mpr (nz.imp fun q => q.symm)
section
variable {P : Program} {w : World} {K : PySem.W.Frag} {mg : Str → Option Value} {base : Heap}
theorem inv_super {ps : List Str} {qual : Str} {st : Stmt} {arg : Expr} {f cc D cda : Addr} {A : Around} {outer : List Env} {s : Shared} {H : Hp} {us : List Value} {vs : List V} {h₁ : Heap} {tk : Nat} {cl : Value} {cld : Option Addr} {csl : Array (Option Value)}
    (S : SupS ps st arg) (hd : A.handled = none) (e0 : Env0 P w K mg base A outer s H) (hl : vs.length = ps.length) (r : Vals vs us) (hcc : K.lookup cc = some ⟨cl, cld, .cell (some (.ref D)), csl⟩)
    (hns : h₁.Ns s.heap.objs.size (fun x => (ps.zip us).reverse.lookup x)) (hk : ∀ b o, s.heap.get? b = some o → h₁.get? b = some o) :
    Inv (sCx P w K mg base ps qual (defScope st) f cc (.ref cda) A outer s H) [] (start ps vs) H { s with heap := h₁, toks := tk } := by
  have noA : ∀ b : Addr, b ∉ (sCx P w K mg base ps qual (defScope st) f cc (.ref cda) A outer s H).ex := fun b z => absurd (show b ∈ ([] : List Addr) from z) (by simp)
  have one : ∀ {y : Str} {c : Addr}, (sCx P w K mg base ps qual (defScope st) f cc (.ref cda) A outer s H).env.cells.lookup y = some c → y = "__class__" ∧ c = cc := fun {y c} h => by
    have h' : ([(("__class__" : Str), cc)] : List (Str × Addr)).lookup y = some c := h
    by_cases q : y = "__class__"
    · subst q
      have e : ([(("__class__" : Str), cc)] : List (Str × Addr)).lookup ("__class__" : Str) = some cc := by simp [List.lookup]
      rw [e] at h'
      exact ⟨rfl, (Option.some.inj h').symm⟩
    · have z : (y == ("__class__" : Str)) = false := by simpa using q
      simp [List.lookup, z] at h'
  have bcc := e0.mod.kin cc _ hcc
  have scc := e0.bs cc _ bcc
  refine ⟨⟨e0.mod, S.kind, rfl, rfl, Nat.le_refl _, fun y z c h1 h2 => (one h1).1.trans (one h2).1.symm, fun y hy => ?_, fun y c h0 h => ?_, fun _ => hd, Around.frames_deeper e0.frames, .inr ⟨rfl, rfl⟩, fun b z => absurd z (noA b), e0.bs, e0.bsz, fun b _ _ => noA b, fun b z => absurd z (noA b), e0.funs, e0.frf⟩,
    rfl, e0.bare, Un.kept hk, ⟨_, hns, fun i y v h1 h2 h3 => ?_⟩, fun y c h => ?_, e0.hok.fresh (Nat.le_refl _), fun y c h => ?_, fun p hp => absurd (show p ∈ ([] : List (Addr × Obj)) from hp) (by simp), e0.hok.kept hk, ?_⟩
  · have hy : (defScope st).names.lookup y = some .cell ∨ (defScope st).names.lookup y = some .free := hy
    rcases hy with hy | hy
    · exact absurd rfl (S.nocell _ (PySem.mem_of_lookup hy))
    · have e := S.free _ (PySem.mem_of_lookup hy) rfl
      have e' : y = "__class__" := e
      subst e'
      exact ⟨cc, show ([(("__class__" : Str), cc)] : List (Str × Addr)).lookup ("__class__" : Str) = some cc by simp [List.lookup]⟩
  · rw [(one h).1] at h0
    have h0' : (!(("__class__" : Str) == ("__class__" : Str))) = true := h0
    simp at h0'
  · have ha : vs[i]? = some v := by
      unfold start at h2
      by_cases hi : i < vs.length
      · rw [List.getElem?_append_left (by simpa using hi), List.getElem?_map] at h2
        cases e : vs[i]? with
        | none => rw [e] at h2; cases h2
        | some a => rw [e] at h2; cases h2; rfl
      · rw [List.getElem?_append_right (by simpa using hi)] at h2
        rw [List.getElem?_replicate] at h2
        split at h2 <;> cases h2
    obtain ⟨u, hu, rv⟩ := r.get ha
    exact ⟨u, rv, .inl ⟨S.par y (List.mem_of_getElem? h1), zip_get S.nd h1 hu⟩⟩
  · rw [(one h).2]
    exact ⟨_, _, hk _ _ scc.1, rfl⟩
  · rw [(one h).2]
    exact scc.2
  · unfold start
    show _ = ps.length
    rw [List.length_append, List.length_map, List.length_replicate]
    omega
theorem super_ok {x qual : Str} {st : Stmt} {arg : Expr} {f D f2 : Addr} {fd fd2 : FuncData} {ps ps2 : List Str} {k : Nat} {sp sp2 : Sp} {dvs dvs0 : List V} {ds : List Value} (F : FunS P K x qual st f D dvs0 fd) (S : SupS ps st arg) (T : SupK P K D f2)
    (F2 : FnOk P w K mg base CX0 k f2 fd2 ps2 sp2) (b2 : Binds K fd2 ps2 ds) (hds : Vals dvs ds) (len : ∀ vs H Q E, sp vs H Q E → vs.length = ps.length)
    (hbody : ∀ (cc cda : Addr) (A : Around) (outer : List Env) (s : Shared) (H : Hp) (vs : List V) (Q : VK) (E : XK), sp vs H Q E → ∃ (a dx : Addr) (fs : List (Str × V)) (rest : List V), vs = .ref a :: rest ∧ H a = some (.ins D dx fs) ∧
      ∃ t, PA (sCx P w K mg base ps qual (defScope st) f cc (.ref cda) A outer s H) [arg] t ∧ t (start ps vs) H fun us H1 => sp2 (.ref a :: us ++ dvs) H1 (fun _ H2 => Q .non H2) E) : FnOk P w K mg base CX0 (k + 1) f fd ps sp := by
  obtain ⟨oc, od, dV, kV, doc, pm, an, cda, ct, cc, osl, ccl, cdd, fv, ccs, file, tf, cl, cld, csl, rfl, lk, hcd, hcode, hvs, hfile, hcc, _⟩ := F.ex
  obtain ⟨p0, p1, ap, cp, ep, hbd, hint, hstar, hev⟩ := S.body
  obtain ⟨ar, rr, hparams, hself⟩ := S.one
  obtain ⟨cdD, hD⟩ := Option.isSome_iff_exists.mp (show (PySem.W.clsIn K D).isSome = true from T.cls)
  refine ⟨len, fun A outer s H args us vs Q E hr e0 hb r hsp => ?_⟩
  have hl := len _ _ _ _ hsp
  have KX : K.In s.heap := e0.mod.kin.keeps fun b o e => (e0.bs b o e).1
  have lim : s.heap.NoLimit := e0.mod.nolimit.keeps fun b o e => (e0.bs b o e).1
  obtain ⟨a, dx, fs, rest, rfl, ha, t, hPA, ht⟩ := hbody cc cda A outer s H vs Q E hsp
  refine PySem.ks_codeAny_call_defAt (fd := ksFn x qual (defArgs st) (defBody st) (defScope st) dV kV doc pm an (.ref cda) ct cc) (body := defBody st) (binds := ps.zip us) hr.depth (KX _ _ lk) rfl lim (PySem.W.codeRec_of KX hcd) rfl hb S.nocell
    (fun ⟨n, v⟩ hy => S.par n (List.of_mem_zip hy).1) (fun h₁ hns hk₁ => ?_) S.co S.gen S.kind
  have I0 : Inv (sCx P w K mg base ps qual (defScope st) f cc (.ref cda) A outer s H) [] (start ps (.ref a :: rest)) H { s with heap := h₁, toks := s.toks + (ps.zip us).length } := inv_super S hr.hd e0 hl r hcc hns hk₁
  show PySem.wpAt (model P w) (A.deeper (ksEnv qual (defScope st) s.heap.objs.size f (.ref cda) cc)) (.func (defBody st) (ksEnv qual (defScope st) s.heap.objs.size f (.ref cda) cc)) (execs (defBody st) (ksEnv qual (defScope st) s.heap.objs.size f (.ref cda) cc)) _ _ _
  rw [hbd]
  obtain ⟨pl, hev⟩ := hev qual f cda s.heap.objs.size cc
  refine ks_wpAt_execs_cons (ks_wpAt_Expr_any (ks_wpAt_MethodCall (pl := pl) ?_ hev) (hint _ _ _ _ _))
  generalize hs1 : ({ s with heap := h₁, toks := s.toks + (ps.zip us).length } : Shared) = s1 at I0 ⊢
  have X1 : K.In s1.heap := I0.kIn
  obtain ⟨us', hus⟩ : ∃ us', us = .ref a :: us' := by
    cases r with
    | cons r1 r2 => exact ⟨_, by rw [show _ = Value.ref a from r1]⟩
  have hself' : (fun x => (ps.zip us).reverse.lookup x) ar.arg = some (.ref a) := by
    have p0 : ps[0]? = some ar.arg := by rw [← hself]; cases ps <;> rfl
    exact zip_get (i := 0) S.nd p0 (by rw [hus]; rfl)
  have hns1 : s1.heap.Ns s.heap.objs.size (fun x => (ps.zip us).reverse.lookup x) := by rw [← hs1]; exact hns
  obtain ⟨mA, O, _⟩ := ins_get I0.hok ha
  obtain ⟨odx, J, _⟩ := O.look
  obtain ⟨oD, hD1, hD2⟩ := clsIn_obj X1 hD
  obtain ⟨mb, hb1, hb2⟩ := I0.mod.blt
  obtain ⟨hp, g, d, tk, os⟩ := s1
  have kself : (defScope st).names.lookup ar.arg = some .local := S.par _ (by cases ps with
    | nil => cases hself
    | cons q l =>
      have e : q = ar.arg := Option.some.inj hself
      rw [e]
      exact List.mem_cons_self)
  refine ks_wpAt_super_base (env := ksEnv qual (defScope st) s.heap.objs.size f (.ref cda) cc) S.hks S.hkc (by decide) rfl (X1 _ _ lk) rfl (by rw [show (ksFn x qual (defArgs st) (defBody st) (defScope st) dV kV doc pm an (.ref cda) ct cc).params = defArgs st from rfl, hparams]; rfl) rfl (X1 _ _ hcode) rfl hvs hfile T.top ?_
  refine PySem.W.ks_loadName_global (env := ksEnv qual (defScope st) s.heap.objs.size f (.ref cda) cc) S.kind S.hks (Calls.loadGlobal_builtin (env := ksEnv qual (defScope st) s.heap.objs.size f (.ref cda) cc) (I0.mod.glob.keeps I0.bk) (PySem.W.mg_none_of I0.mod.kin I0.mod.glob T.noS) (hb1.keeps I0.bk) ((hb2 _ (by decide +kernel)).trans boot_super) ⟨rfl, ?_⟩)
  refine wpAny_loadName_free (env := ksEnv qual (defScope st) s.heap.objs.size f (.ref cda) cc) S.kind S.hkc (c := cc) (by show ([(("__class__" : Str), cc)] : List (Str × Addr)).lookup ("__class__" : Str) = some cc; simp [List.lookup]) ⟨_, X1 _ _ hcc, rfl⟩ ?_
  refine wpAny_loadName_local (env := ksEnv qual (defScope st) s.heap.objs.size f (.ref cda) cc) S.kind kself hns1 hself' ?_
  refine ks_wpAny_isType_cls hD1 hD2 ⟨rfl, ?_⟩
  refine ks_wpAny_call_super hD1 hD2 J.at_ J.cls (fun c e => ?_) (PySem.W.looks_mroIn X1 T.mro) (fun h2 e2 k2 => ?_)
  · have q := J.no
    unfold PySem.W.notCls at q
    rw [e] at q
    exact Bool.noConfusion q
  have I2 : Inv (sCx P w K mg base ps qual (defScope st) f cc (.ref cda) A outer s H) [] (start ps (.ref a :: rest)) H ⟨h2, g, d, tk, os⟩ := I0.kept (t' := tk) k2
  have X2 : K.In h2 := I2.kIn
  obtain ⟨of, hof, hofc⟩ : ∃ of, h2.get? f2 = some of ∧ of.cls = .type "function" := by
    have ht' : (K.lookup f2).map (·.cls) = some (.type "function") := T.ty
    cases z : K.lookup f2 with
    | none => rw [z] at ht'; cases ht'
    | some of => rw [z] at ht'; exact ⟨of, X2 _ _ z, Option.some.inj ht'⟩
  have hsup := T.sup
  unfold PySem.W.ks_superIn at hsup
  rw [hD] at hsup
  refine ks_wpAny_getMethod_super e2 (PySem.W.looks_opaque X2 T.opq) (l₀ := cdD.mro) (fun A Q E s k q => wpAny_bind ((PySem.W.looks_clsIn X2 hD) A _ E s k (wpAny_pure q))) rfl X2 hsup hof hofc (PySem.W.ks_ne X1 J hD) (by decide) ?_
  have I3 : Inv (sCx P w K mg base ps qual (defScope st) f cc (.ref cda) A outer s H) [] (start ps (.ref a :: rest)) H ⟨h2.push (methodObj (.ref f2) (.ref a)), g, d, tk + 1, os⟩ := I2.kept (t' := tk + 1) fun b o e => Heap.get?_push_of_some _ e
  have hq : (h2.push (methodObj (.ref f2) (.ref a))).get? h2.objs.size = some (methodObj (.ref f2) (.ref a)) := Heap.get?_push_at rfl rfl
  have I4 : Inv (sCx P w K mg base ps qual (defScope st) f cc (.ref cda) A outer s H) [(h2.objs.size, methodObj (.ref f2) (.ref a))] (start ps (.ref a :: rest)) H ⟨h2.push (methodObj (.ref f2) (.ref a)), g, d, tk + 1, os⟩ := I3.pins_of fun p hp => by
    have e : p = (h2.objs.size, methodObj (.ref f2) (.ref a)) := by simpa using hp
    subst e
    exact ⟨hq, I2.hok.fresh (Nat.le_refl _), Nat.ne_of_gt I2.lt, I2.nofs (Nat.le_refl _), fun v z => nomatch z⟩
  have main : wpAny (model P w) (A.deeper (ksEnv qual (defScope st) s.heap.objs.size f (.ref cda) cc)) (spliced (backTo cp (starEach [arg] (ksEnv qual (defScope st) s.heap.objs.size f (.ref cda) cc))))
      (fun us2 s4 => PySem.W.MethP K h2.objs.size f2 (.ref a) s4.heap ∧ wpAny (model P w) (A.deeper (ksEnv qual (defScope st) s.heap.objs.size f (.ref cda) cc)) (call (.ref h2.objs.size) ([] ++ us2))
        (EP (sCx P w K mg base ps qual (defScope st) f cc (.ref cda) A outer s H) [(h2.objs.size, methodObj (.ref f2) (.ref a))] (start ps (.ref a :: rest)) (fun _ H2 => Q .non H2)) (fun _ _ => False) s4) (fun _ _ => False) ⟨h2.push (methodObj (.ref f2) (.ref a)), g, d, tk + 1, os⟩ := by
    refine thn (hPA.run cp _ _ _ _ _ I4 ht) fun us2 s4 ⟨vs2, H4, I5, r5, q5⟩ => ?_
    obtain ⟨p1, _⟩ := I5.pin (h2.objs.size, methodObj (.ref f2) (.ref a)) List.mem_cons_self
    refine ⟨⟨p1, I5.kIn⟩, ?_⟩
    rw [List.nil_append]
    have vv : Vals (V.ref a :: vs2 ++ dvs) (Value.ref a :: us2 ++ ds) := .cons (rel_ref a) (r5.append hds)
    have l1 : (Value.ref a :: us2 ++ ds).length = ps2.length := vv.length.symm.trans (F2.len _ _ _ _ q5)
    refine wpAny_call (ks_codeAny_call_bound p1 (codeAny_mono (F2.run _ _ s4 H4 ⟨.ref a :: us2, []⟩ _ _ _ _ (hr.deeper _) I5.env0 (b2 s4 (.ref a :: us2) I5.kIn l1) vv q5) fun res s' z => ?_))
    match res, z with
    | .error e, z => exact z.elim
    | .ok (.ret u), z => exact I5.after z
    | .ok .next, z => exact z.elim
    | .ok .brk, z => exact z.elim
    | .ok .cont, z => exact z.elim
  rw [hstar] at main
  show wpAny (model P w) _ (callWith cp (.ref h2.objs.size) [] (backTo cp (starEach [arg] (ksEnv qual (defScope st) s.heap.objs.size f (.ref cda) cc))) []) _ _ _
  rw [hstar]
  refine wpAny_mono (PySem.W.callWith_of (by rfl) (PySem.W.keeps_M T.fn) (PySem.Calls.evalArgs_plain main)) (fun u s5 z => ?_) fun _ _ z => z.elim
  obtain ⟨v, H5, I6, rv, q6⟩ := z
  refine wpAt_of_wpAny (wpAny_execs_nil ?_)
  exact ⟨.non, H5, I6.os, I6.bare, I6.base, I6.hok, rfl, q6⟩
end
end L2.HR
/-! K1e: the own error InvalidText with its field wrong (turned from the worked proof 42_own_error_by_import). -/
namespace PySem
namespace WrongX
open PySem.W PySem.Calls PyProof.Rows PySem.HandSPX
/-! ### the text of __init__ -/
def iA (p1 p2 : Pos) : Arguments := { posonlyargs := [], args := [{ arg := "self", annotation := none, pos := p1 }, { arg := "wrong", annotation := none, pos := p2 }], vararg := none, kwonlyargs := [], kw_defaults := [], kwarg := none, defaults := [] }
def iB (q1 q2 q3 q4 : Pos) : List Stmt := [.Assign [.Attribute (.Name "self" q1) "wrong" q2] (.Name "wrong" q3) q4]
def iS : Scope := { kind := .function, names := [(PySem.Str.ofString "self", .local), (PySem.Str.ofString "wrong", .local)], isGenerator := false, isCoroutine := false, more := [] }
/-- what the written part says of the class, at C, and of its __init__, at fI -/
structure WrongTxt (K : Frag) (mg : Str → Option Value) (C fI : Addr) : Prop where
  gC : mg "InvalidText" = some (.ref C)
  cls : ∃ nm q N bs bm sn sub ab col dd k0 k1 k2 k3 k5, K.lookup C = some (excClassObj nm q C N bs bm true sn sub ab col dd k0 k1 k2 k3 k5 "ValueError.__new__") ∧ refsVE bm = true
  sa : findIn K (.ref C) "__setattr__" = some (some (.builtin "object.__setattr__"))
  ga : findIn K (.ref C) "__getattribute__" = some (some (.builtin "BaseException.__getattribute__"))
  gg : findIn K (.ref C) "__getattr__" = some none
  noN : findIn K (.ref C) "wrong" = some none
  iC : findIn K (.ref C) "__init__" = some (some (.ref fI))
  tC : typeIn K (.ref fI) = some (.type "function")
  kC : keepIn K (.ref C) = true
  exC : subIn K (.ref C) (.type "BaseException") = some true
  tyC : typeIn K (.ref C) = some (.type "type")
  hdC : hasDictIn K C = true
  te : exmOne K (.ref C) (.ref C) = some true
  fn : ∃ (oc : Value) (od : Option Addr) (doc pm : Value) (an : Option Addr) (cdv ct : Value) (osl : Array (Option Value)) (p1 p2 q1 q2 q3 q4 : Pos),
    K.lookup fI = some ⟨oc, od, .func (fnOf "__init__" "InvalidText.__init__" (iA p1 p2) (iB q1 q2 q3 q4) iS .none .none doc pm an cdv ct), osl⟩ ∧ codeIn K cdv "InvalidText.__init__" = true
theorem one_size (v : Value) : [v].length ≤ sizeLine := by
  rw [sizeLine_eq]
  exact (by decide : 1 ≤ 16777216)
theorem kept_but {K : Frag} {h h' : Heap} {x : Addr} (X : K.In h) (hx : K.lookup x = none) (k : ∀ b o, b ≠ x → h.get? b = some o → h'.get? b = some o) : K.In h' := fun a o e =>
  k a o (fun z => by rw [z, hx] at e; cases e) (X a o e)
theorem ldC {M : Model} {s : Shared} {name : Str} {scope : Scope} {L a : Addr} {cd : Value} {m : Str → Option Value} {x : Str} {pos : Pos} {v : Value} {Q : Value → Shared → Prop} {A : Around} {E : Value → Shared → Prop} (hn : s.heap.Ns L m) (hv : m x = some v) (h : Q v s)
    (hk : scope.kind = .function := by rfl) (hl : (envOfC name scope L a cd).kindOf x = some .local := by rfl) (hd : (x == ("__debug__" : Str)) = false := by decide) :
    wpAny M A (eval (.Name x pos) (envOfC name scope L a cd)) Q E s := wpAny_Name (wpAny_loadName_local hk hl hn hv h) hd
/-- what __init__ leaves of a fresh exception at x -/
structure InitEnd (h h' : Heap) (x C dx t1 : Addr) (v : Value) : Prop where
  keep : ∀ b o, b ≠ x → h.get? b = some o → h'.get? b = some o
  obj : h'.get? x = some { cls := .ref C, dict := some dx, data := .fields #[.ref t1, .none, .none, .none, .bool false, .none] }
  dbig : h.objs.size ≤ dx
  dne : dx ≠ x
  ns : h'.Ns1 dx (fun y => if y = "wrong" then some v else none)
/-- a made error -/
structure WrongMade (h h' : Heap) (e C d : Addr) (v : Value) : Prop where
  keep : ∀ b o, h.get? b = some o → h'.get? b = some o
  new : h.objs.size ≤ e
  obj : ∃ oe vs, h'.get? e = some oe ∧ oe.cls = .ref C ∧ oe.dict = some d ∧ oe.data = .fields vs ∧ vs[1]? = some .none
  dbig : h.objs.size ≤ d
  dne : d ≠ e
  ns : h'.Ns1 d (fun y => if y = "wrong" then some v else none)
section
variable {prog : Program} {w : World} {A : Around} {E : Value → Shared → Prop} {R : Result → Shared → Prop} {s : Shared} {K : Frag} {mg : Str → Option Value} {C fI : Addr}
theorem wrong_init (T : WrongTxt K mg C fI) {x t0 : Addr} {v : Value} (X : K.In s.heap) (hlim : s.heap.NoLimit) (hx : s.heap.get? x = some (excO C t0)) (hnx : K.lookup x = none) (hroom : A.depth < recursionLimit)
    (hq : ∀ h' tk dx, InitEnd s.heap h' x C dx t0 v → R (.ok (.ret .none)) { s with heap := h', toks := tk }) :
    codeAny (model prog w) A (.call (.ref fI) ⟨[.ref x, v], []⟩) R s := by
  obtain ⟨oc, od, doc, pm, an, cdv, ct, osl, p1, p2, q1, q2, q3, q4, ho, hcd⟩ := T.fn
  obtain ⟨nm, q, N, bs, bm, sn, sub, ab, col, dd, k0, k1, k2, k3, k5, hC, hbm⟩ := T.cls
  have hcl : clsIn K C = some { name := nm, bases := bs, mro := .ref C :: bm, ns := N, qualname := q, hasDict := true, slotNames := sn, subclasses := sub, abstract := ab, collection := col, hasDel := false } := by unfold clsIn; rw [hC] <;> rfl
  refine Att.call_fn (binds := [("self", .ref x), ("wrong", v)]) X hlim ho hcd hroom (BindsTo.of_eq (by first | rfl | with_unfolding_all rfl)) (by first | rfl | decide | with_unfolding_all rfl) (fun s₁ IC => ?_) rfl rfl rfl
  obtain ⟨h₁, tk₁, rfl⟩ := IC.toInCall.same
  have k : ∀ b o, s.heap.get? b = some o → h₁.get? b = some o := IC.toInCall.keep
  have hn := IC.toInCall.ns
  have hxL : s.heap.objs.size ≠ x := Nat.ne_of_gt (Heap.lt_size hx)
  have X₁ : K.In h₁ := X.keeps k
  have hx₁ := k _ _ hx
  -- the field is set
  show wpAny _ _ (execs _ _) _ _ _
  refine wpAny_execs_cons (plainObj_wpAny_Assign_Attribute ?_)
  refine ldC (v := v) hn (by first | rfl | with_unfolding_all rfl | kernel_rfl) (ldC (v := .ref x) hn (by first | rfl | with_unfolding_all rfl | kernel_rfl) ?_)
  refine set_plain X₁ (ox := excO C t0) (od := none) ⟨hx₁, rfl, rfl, trivial⟩ T.sa ?_
  refine exc_osa X₁ hx₁ hcl (show refsVE (.ref C :: bm) = true from hbm) rfl T.noN (fun h₃ tk₃ dx k₃ dn dne hx₃ hn₃ => ?_)
  show wpAny _ _ (execs _ _) _ _ _
  have z : s.heap.objs.size < h₁.objs.size := hn.lt
  exact wpAny_execs_nil (hq h₃ tk₃ dx ⟨fun b o hb e => k₃ b o hb (k b o e), hx₃, Nat.le_of_lt (Nat.lt_of_lt_of_le z dn), dne, hn₃⟩)
theorem wrong_made (T : WrongTxt K mg C fI) {v : Value} (X : K.In s.heap) (hlim : s.heap.NoLimit) (hroom : A.depth + 1 < recursionLimit)
    (hq : ∀ h' tk e d, WrongMade s.heap h' e C d v → R (.ok (.ret (.ref e))) { s with heap := h', toks := tk }) :
    codeAny (model prog w) A (.call (.ref C) ⟨[v], []⟩) R s := by
  obtain ⟨nm, q, N, bs, bm, sn, sub, ab, col, dd, k0, k1, k2, k3, k5, hC, hbm⟩ := T.cls
  obtain ⟨hp, g, dr, tk, os⟩ := s
  have k : ∀ b o, hp.get? b = some o → ((hp.push (kdv_tup [v])).push (excO C hp.objs.size)).get? b = some o := fun b o e => Heap.get?_push_of_some _ (Heap.get?_push_of_some _ e)
  have hget : ((hp.push (kdv_tup [v])).push (excO C hp.objs.size)).get? (hp.objs.size + 1) = some (excO C hp.objs.size) := by heap_get
  have hnx : K.lookup (hp.objs.size + 1) = none := by
    cases e : K.lookup (hp.objs.size + 1) with
    | none => rfl
    | some o =>
      have z : hp.get? (hp.objs.size + 1) = some o := X _ _ e
      exact absurd (Nat.lt_of_succ_lt (Heap.lt_size z)) (Nat.lt_irrefl _)
  refine call_own F.excBase_ValueError (fun X => refsVE_contains X bm hbm) (X _ _ hC) (looks_findIn X T.iC) (fun self => bind_fn X self T.tC) (one_size v) ?_
  refine wrong_init (s := ⟨(hp.push (kdv_tup [v])).push (excO C hp.objs.size), g, dr, tk, os⟩) T (X.keeps k) (hlim.keeps k) hget hnx ?_ fun h' tk' dx ⟨k', hx, dn, dne, hns⟩ => ?_
  · show A.depth + 1 < recursionLimit
    exact hroom
  · have old : ∀ b o, hp.get? b = some o → h'.get? b = some o := fun b o e => k' b o (Nat.ne_of_lt (Nat.lt_succ_of_lt (Heap.lt_size e))) (k b o e)
    have z : hp.objs.size + 1 + 1 ≤ dx := by
      first
        | (simpa only [Heap.size_push] using dn)
        | exact dn
        | (have q := dn; rw [Heap.size_push, Heap.size_push] at q; exact q)
    exact ⟨rfl, hq h' tk' (hp.objs.size + 1) dx ⟨old, Nat.le_succ _, ⟨_, _, hx, rfl, rfl, rfl, rfl⟩, Nat.le_trans (Nat.le_trans (Nat.le_succ _) (Nat.le_succ _)) z, dne, hns⟩⟩
end
end WrongX
end PySem
namespace L2
open PySem PySem.Spec PyProof.Rows
theorem relO_wrong {v : V} {v' : Value} (r : RelV v v') (f : Str) : RelO (List.lookup f [(("wrong" : Str), v)]) (if f = "wrong" then some v' else none) := by
  by_cases hw : f = "wrong"
  · subst hw
    rw [if_pos rfl]
    have q : List.lookup ("wrong" : Str) [(("wrong" : Str), v)] = some v := by simp [List.lookup]
    rw [q]
    exact r
  · rw [if_neg hw]
    have qw : (f == ("wrong" : Str)) = false := by simpa using hw
    have q2 : List.lookup f [(("wrong" : Str), v)] = none := by simp [List.lookup, qw]
    rw [q2]
    trivial
section
variable {X : Cx} {C fI : Addr}
/-- the error, made -/
def tMkWrong (C : Addr) (ta : TA) : St → Hp → XK → Prop := fun σ H Q => ta σ H fun vs H1 => ∃ v, vs = [v] ∧ ∀ d, H1 d = none → Q (.ref C) (some d) (upd H1 d (.xd [(("wrong" : Str), v)]))
theorem pmk_wrong {a : Expr} {ta : TA} {p pos : Pos} {k : Nat} (T : PySem.WrongX.WrongTxt X.K X.mg C fI) (hr : Room k X.A) (ha : PA X [a] ta) (hg : Gl X "InvalidText" := by rfl)
    (he : starEach (a :: []) X.env = (false, eval a X.env) :: starEach [] X.env := by rfl) (hpl : (backTo pos (starEach [] X.env)).any (·.1) = false := by rfl) :
    PMk X (.Call (.Name "InvalidText" p) [a] [] pos) (tMkWrong C ta) := by
  intro pins s σ H Q I h
  refine wpAny_Call_Name_kw (ld_glob I hg T.gC ?_)
  refine PySem.W.callWith_K (h₀ := X.base) I.ok.mod.kin T.kC (thn (ha.run pos pins s σ H _ I h) fun us s1 hh => ?_) he hpl
  obtain ⟨vs, H1, I1, r1, v, ev, q1⟩ := hh
  subst ev
  refine ⟨I1.kIn, ?_⟩
  cases r1 with
  | cons rv rn =>
    rename_i v' us'
    cases rn
    show wpAny _ _ (call (.ref C) [v']) _ _ _
    have hlim := I1.nolimit
    obtain ⟨hp, g, dr, tk, os⟩ := s1
    refine wpAny_call (PySem.WrongX.wrong_made T I1.kIn hlim (by have := hr.dp; omega) fun h' tk' e d M => ?_)
    show MkP X pins σ Q (.ref e) ⟨h', g, dr, tk', os⟩
    obtain ⟨oe, fv, hoe, hc, hd, hdat, h1⟩ := M.obj
    have hns := M.ns
    obtain ⟨G', g1, g2⟩ := restrict h' fun b => decide (b ≠ e)
    have gk : ∀ b, b ≠ e → G'.get? b = h'.get? b := fun b hb => g1 b (decide_eq_true hb)
    have ge : G'.get? e = none := g2 e (by simp)
    have old : ∀ b o, hp.get? b = some o → G'.get? b = some o := fun b o q => (gk b (Nat.ne_of_lt (Nat.lt_of_lt_of_le (Heap.lt_size q) M.new))).trans (M.keep b o q)
    have ob : ObjOk X.prog X.w (upd H1 d (.xd [(("wrong" : Str), v)])) G' d (.xd [(("wrong" : Str), v)]) :=
      ⟨_, hns.at (fun o q => (gk d M.dne).trans q), fun f => relO_wrong rv f⟩
    have J : Inv X pins σ (upd H1 d (.xd [(("wrong" : Str), v)])) ⟨G', g, dr, tk', os⟩ := I1.laid (t' := tk') old M.dbig ob
    refine ⟨e, oe, fv, ⟨G', g, dr, tk', os⟩, _, .ref C, some d, rfl, J, fun b o q => ?_, ge, hoe, ⟨hc, hd⟩, hdat, h1, ?_, rfl, I1.bare, raises_own T.exC T.tyC, q1 d (I1.hok.fresh M.dbig)⟩
    · by_cases hb : b = e
      · have q' : G'.get? b = some o := q
        rw [hb, ge] at q'; cases q'
      · exact (gk b hb).symm.trans q
    · rw [upd_ne (Ne.symm M.dne)]
      exact I1.hok.fresh M.new
/-- raise the error, made -/
def tRaiseWrong (C : Addr) (W : WX) (ta : TA) : TS := fun _ σ H => tMkWrong C ta σ H fun cls d H' => W cls d σ H'
theorem ps_raiseWrong {a : Expr} {ta : TA} {W : WX} {p pos pos2 : Pos} {k : Nat} (hc : X.calm = true) (T : PySem.WrongX.WrongTxt X.K X.mg C fI) (hr : Room k X.A) (tk : Takes X W) (ha : PA X [a] ta) (hg : Gl X "InvalidText" := by rfl)
    (he : starEach (a :: []) X.env = (false, eval a X.env) :: starEach [] X.env := by rfl) (hpl : (backTo pos (starEach [] X.env)).any (·.1) = false := by rfl) :
    PS X (.Raise (some (.Call (.Name "InvalidText" p) [a] [] pos)) none pos2) (tRaiseWrong C W ta) := ps_raise hc tk (pmk_wrong T hr ha hg he hpl)
/-- its field, of the exception that the suite holds (at a; its class cls, its dict d) -/
def tWrong (C : Addr) (a : Addr) (cls : Value) (d : Option Addr) (te : TE) : TE := fun σ H Q => te σ H fun x H1 => x = .ref a ∧ cls = .ref C ∧ ∃ (dd : Addr) (v : V), d = some dd ∧ H1 dd = some (.xd [(("wrong" : Str), v)]) ∧ Q v H1
theorem pe_wrong {a : Addr} {oe : Obj} {cls : Value} {d : Option Addr} {pn : List (Addr × Obj)} {e : Expr} {te : TE} {pos : Pos} (T : PySem.WrongX.WrongTxt X.K X.mg C fI) (hz : Zc cls d oe) (hf : ∃ vs, oe.data = .fields vs) (he : PE (X.suite a ((a, oe) :: pn)) e te)
    (hb : attributeBase e "wrong" X.env (eval e X.env) = eval e X.env := by rfl) :
    PE (X.suite a ((a, oe) :: pn)) (.Attribute e "wrong" pos) (tWrong C a cls d te) := by
  refine ⟨fun pins s σ H Q I h => ?_⟩
  refine attr_of hb (thn (he.run pins s σ H _ I h) fun u s1 hh => ?_)
  obtain ⟨x, H1, I1, rx, ex, ec, dd, v, ed, ea, q⟩ := hh
  subst ex
  obtain rfl : u = Value.ref a := rx
  subst ec
  subst ed
  obtain ⟨ha, _⟩ := I1.pin (a, oe) (List.mem_append_left _ List.mem_cons_self)
  obtain ⟨vs, hd⟩ := hf
  have hx : ObjOk X.prog X.w H1 s1.heap dd (.xd [(("wrong" : Str), v)]) := I1.hok dd _ ea
  obtain ⟨mA, hns, hr⟩ := hx
  obtain ⟨od, ho, hl⟩ := lookIn_ns hns
  have l : List.lookup ("wrong" : Str) [(("wrong" : Str), v)] = some v := by simp [List.lookup]
  obtain ⟨u, hu, ru⟩ := RelO.some_of (v := v) (o := mA "wrong") (by rw [← l]; exact hr "wrong")
  have J : PySem.W.InstAt s1.heap a oe C (some od) := ⟨ha, hz.1, by unfold PySem.W.notCls; rw [hd] <;> rfl, by rw [hz.2]; exact ho⟩
  exact HandSPX.exc_get I1.kIn J T.ga T.gg T.exC (PySem.W.findObj_own T.hdC T.noN rfl (by rw [hl, hu])) (handed_of ru) ⟨v, H1, I1.tok _, ru, q⟩
end
end L2
/-! K2: the mathematics: names, numbers, the reading of words, a claim's text read back. -/
namespace L2.HK
open PySem PySem.Spec PyProof.Rows

/-! ### signs -/
def isLow (c : Nat) : Bool := decide (97 ≤ c) && decide (c ≤ 122)
def isDig (c : Nat) : Bool := decide (48 ≤ c) && decide (c ≤ 57)
def isSig (c : Nat) : Bool := isLow c || isDig c
def resv : List Str := ["any", "end", "none", "not", "or"]
def hd (x : Str) : Nat := x.cps.toList.headD 0
/-- a name of point 4 -/
def nameW (x : Str) : Bool := !(x.length == 0) && (decide (x.length ≤ 8) && (!decide (x ∈ resv) && (isLow (hd x) && x.cps.toList.all isSig)))
/-- a number of point 14 -/
def numB (x : Str) : Bool := !(x.length == 0) && (decide (x.length ≤ 4) && (x.cps.toList.all isDig && !(decide (hd x = 48) && decide (1 < x.length))))
def numW (x : Str) : Option Int := if numB x = true then some ((NumText.digitsVal x.cps.toList : Nat) : Int) else none

inductive Fm where
  | name | num | any | last
  deriving DecidableEq
def readW : Fm → Str → Option V
  | .name, w => if nameW w = true then some (.str w) else none
  | .num, w => (numW w).map V.int
  | .any, w => if w = "any" then some .non else if nameW w = true then some (.str w) else none
  | .last, w => if w = "end" then some .non else (numW w).map V.int
def formsOf (k : Str) : Option (List Fm) :=
  if k = "knew" then some [.name, .num, .any] else if k = "told" then some [.any, .any, .num, .last] else if k = "began" then some [.name, .any]
  else if k = "held" then some [.num] else if k = "turned" then some [.name, .any, .any] else none
def readAll : List Fm → List Str → Option (List V)
  | [], [] => some []
  | f :: fs, w :: ws => match readW f w with
    | none => none
    | some v => (readAll fs ws).map (v :: ·)
  | _, _ => none
/-- the kind and its words -/
def readK (ws : List Str) : Option (List V) := match ws with
  | [] => none
  | k :: r => match formsOf k with
    | none => none
    | some fs => (readAll fs r).map (V.str k :: ·)
def posOf (ws : List Str) : Bool := !decide (ws.headD "" = "not")
def bodyOf (ws : List Str) : List Str := if posOf ws = true then ws else ws.drop 1
/-- the claim that the words write -/
def parseW (ws : List Str) : Option (Bool × List V) := (readK (bodyOf ws)).map fun xs => (posOf ws, xs)
def parse (t : Str) : Option (Bool × List V) := parseW (Txt.split t " ")

/-! ### a claim's items and its text -/
def NameS (p : Str) : Prop := nameW p = true
def OptN (v : V) : Prop := v = .non ∨ ∃ p, v = .str p ∧ NameS p
def NumI (n : Int) : Prop := 0 ≤ n ∧ n < 10000
def OptI (v : V) : Prop := v = .non ∨ ∃ n, v = .int n ∧ NumI n
inductive RowOk : List V → Prop where
  | knew {p : Str} {n : Int} {v : V} (hp : NameS p) (hn : NumI n) (hv : OptN v) : RowOk [.str "knew", .str p, .int n, v]
  | told {a b : V} {n : Int} {e : V} (ha : OptN a) (hb : OptN b) (hn : NumI n) (he : OptI e) : RowOk [.str "told", a, b, .int n, e]
  | began {p : Str} {v : V} (hp : NameS p) (hv : OptN v) : RowOk [.str "began", .str p, v]
  | held {n : Int} (hn : NumI n) : RowOk [.str "held", .int n]
  | turned {p : Str} {v u : V} (hp : NameS p) (hv : OptN v) (hu : OptN u) : RowOk [.str "turned", .str p, v, u]
def kindOf (xs : List V) : Str := match xs with
  | .str k :: _ => k
  | _ => ""
/-- the word of the item at place i -/
def itemT (k : Str) (i : Nat) : V → Str
  | .str x => x
  | .int n => Str.ofString (toString n)
  | _ => if k = "told" ∧ i = 4 then "end" else "any"
def itemsT (k : Str) : Nat → List V → List Str
  | _, [] => []
  | i, v :: r => itemT k i v :: itemsT k (i + 1) r
def partsOf (pos : Bool) (xs : List V) : List Str := (if pos = true then ([] : List Str) else ["not"]) ++ itemsT (kindOf xs) 0 xs
def txt (pos : Bool) (xs : List V) : Str := Txt.join " " (partsOf pos xs)

/-! ### numbers written and read -/
theorem numL_head {n : Nat} (h : 1 ≤ n) : 49 ≤ (TL.numL n).headD 0 := by
  induction n using Nat.strongRecOn with
  | _ n ih =>
    by_cases h10 : n < 10
    · rw [TL.numL_lt h10]
      show 49 ≤ 48 + n
      omega
    · rw [TL.numL_step (by omega)]
      have i := ih (n / 10) (by omega) (by omega)
      have ne := TL.numL_ne (n / 10)
      cases e : TL.numL (n / 10) with
      | nil => exact absurd e ne
      | cons a r =>
        rw [e] at i
        exact i
theorem isDig_of {c : Nat} (h : 48 ≤ c ∧ c ≤ 57) : isDig c = true := by
  unfold isDig
  rw [decide_eq_true h.1, decide_eq_true h.2]
  rfl
abbrev nS (n : Int) : Str := Str.ofString (toString n)
theorem tl_nS {n : Int} (h : 0 ≤ n) : (nS n).cps.toList = TL.numL n.toNat := by
  obtain ⟨m, rfl⟩ := Int.eq_ofNat_of_zero_le h
  exact TL.tl_num m
theorem len_nS {n : Int} (h : NumI n) : (nS n).length ≤ 4 := by
  rw [TL.len_tl]
  show (nS n).cps.toList.length ≤ 4
  rw [tl_nS h.1]
  have := h.2
  exact TL.numL_len (k := 4) (by decide) (by show n.toNat < 10000; omega)
theorem numB_nS {n : Int} (h : NumI n) : numB (nS n) = true := by
  have e := tl_nS h.1
  have l := len_nS h
  have l0 : (nS n).length ≠ 0 := by
    rw [TL.len_tl]
    show (nS n).cps.toList.length ≠ 0
    rw [e]
    exact fun z => TL.numL_ne _ (List.eq_nil_of_length_eq_zero z)
  unfold numB
  have h1 : ((nS n).length == 0) = false := by simpa using l0
  have h3 : (nS n).cps.toList.all isDig = true := by
    rw [e]
    exact List.all_eq_true.mpr fun c hc => isDig_of (TL.numL_digits _ c hc)
  have h4 : (decide (hd (nS n) = 48) && decide (1 < (nS n).length)) = false := by
    by_cases hn : n.toNat < 10
    · have : (nS n).length = 1 := by
        rw [TL.len_tl]
        show (nS n).cps.toList.length = 1
        rw [e, TL.numL_lt hn]
        rfl
      rw [this]
      simp
    · have q : 49 ≤ hd (nS n) := by
        unfold hd
        rw [e]
        exact numL_head (by omega)
      have : ¬ hd (nS n) = 48 := by omega
      rw [decide_eq_false this]
      rfl
  rw [h1, decide_eq_true l, h3, h4]
  rfl
theorem numW_nS {n : Int} (h : NumI n) : numW (nS n) = some n := by
  unfold numW
  rw [if_pos (numB_nS h), tl_nS h.1, TL.numL_val]
  have := h.1
  congr 1
  omega
/-- what int(word) gives -/
theorem int_num {x : Str} (h : numB x = true) : PySem.intText? x = some ((NumText.digitsVal x.cps.toList : Nat) : Int) := by
  unfold numB at h
  simp only [Bool.and_eq_true, Bool.not_eq_true', beq_eq_false_iff_ne, decide_eq_true_eq] at h
  obtain ⟨h0, h4, hall, _⟩ := h
  refine intText_digits (fun c hc => ?_) (fun z => h0 ?_) (by omega)
  · have q := List.all_eq_true.mp hall c hc
    unfold isDig at q
    simpa using q
  · rw [TL.len_tl]
    show x.cps.toList.length = 0
    rw [z]
    rfl

/-! ### no blank in a word -/
def Free (x : Str) : Prop := 32 ∉ x.cps.toList
theorem free_name {p : Str} (h : NameS p) : Free p := by
  intro hm
  unfold NameS nameW at h
  simp only [Bool.and_eq_true] at h
  have q := List.all_eq_true.mp h.2.2.2.2 32 hm
  exact absurd q (by decide)
theorem free_num {n : Int} (h : 0 ≤ n) : Free (nS n) := by
  intro hm
  rw [tl_nS h] at hm
  exact TL.numL_free (by omega) hm
theorem len_name {p : Str} (h : NameS p) : p.length ≤ 8 := by
  unfold NameS nameW at h
  simp only [Bool.and_eq_true, decide_eq_true_eq] at h
  exact h.2.1
theorem items_knew (p : Str) (n : Int) (v : V) : itemsT (kindOf [.str "knew", .str p, .int n, v]) 0 [.str "knew", .str p, .int n, v] = ([("knew" : Str), p, nS n, itemT "knew" 3 v] : List Str) := rfl
theorem items_told (a b : V) (n : Int) (e : V) : itemsT (kindOf [.str "told", a, b, .int n, e]) 0 [.str "told", a, b, .int n, e] = ([("told" : Str), itemT "told" 1 a, itemT "told" 2 b, nS n, itemT "told" 4 e] : List Str) := rfl
theorem items_began (p : Str) (v : V) : itemsT (kindOf [.str "began", .str p, v]) 0 [.str "began", .str p, v] = ([("began" : Str), p, itemT "began" 2 v] : List Str) := rfl
theorem items_held (n : Int) : itemsT (kindOf [.str "held", .int n]) 0 [.str "held", .int n] = ([("held" : Str), nS n] : List Str) := rfl
theorem items_turned (p : Str) (v u : V) : itemsT (kindOf [.str "turned", .str p, v, u]) 0 [.str "turned", .str p, v, u] = ([("turned" : Str), p, itemT "turned" 2 v, itemT "turned" 3 u] : List Str) := rfl
def Word (x : Str) : Prop := Free x ∧ x.length ≤ 8
theorem word_name {p : Str} (h : NameS p) : Word p := ⟨free_name h, len_name h⟩
theorem word_num {n : Int} (h : NumI n) : Word (nS n) := ⟨free_num h.1, Nat.le_trans (len_nS h) (by decide)⟩
theorem word_lit {x : Str} (h : (!decide (32 ∈ x.cps.toList) && decide (x.length ≤ 8)) = true) : Word x := by
  rw [Bool.and_eq_true, Bool.not_eq_true', decide_eq_false_iff_not, decide_eq_true_eq] at h
  exact h
theorem word_item {k : Str} {i : Nat} {v : V} (h : OptN v ∨ OptI v) : Word (itemT k i v) := by
  have hn : Word (itemT k i V.non) := by
    show Word (if k = "told" ∧ i = 4 then "end" else "any")
    split
    · exact word_lit (by decide +kernel)
    · exact word_lit (by decide +kernel)
  rcases h with (rfl | ⟨p, rfl, hp⟩) | (rfl | ⟨n, rfl, hn'⟩)
  · exact hn
  · exact word_name hp
  · exact hn
  · exact word_num hn'
theorem optN_str {p : Str} (h : NameS p) : OptN (.str p) := .inr ⟨p, rfl, h⟩
theorem optI_int {n : Int} (h : NumI n) : OptI (.int n) := .inr ⟨n, rfl, h⟩
theorem parts_words {pos : Bool} {xs : List V} (h : RowOk xs) : ∀ p ∈ partsOf pos xs, Word p := by
  have key : ∀ p ∈ itemsT (kindOf xs) 0 xs, Word p := by
    intro p hp
    cases h with
    | knew h1 h2 h3 =>
      rw [items_knew] at hp
      simp only [List.mem_cons, List.not_mem_nil, or_false] at hp
      rcases hp with rfl | rfl | rfl | rfl
      · exact word_lit (by decide +kernel)
      · exact word_name h1
      · exact word_num h2
      · exact word_item (.inl h3)
    | told h1 h2 h3 h4 =>
      rw [items_told] at hp
      simp only [List.mem_cons, List.not_mem_nil, or_false] at hp
      rcases hp with rfl | rfl | rfl | rfl | rfl
      · exact word_lit (by decide +kernel)
      · exact word_item (.inl h1)
      · exact word_item (.inl h2)
      · exact word_num h3
      · exact word_item (.inr h4)
    | began h1 h2 =>
      rw [items_began] at hp
      simp only [List.mem_cons, List.not_mem_nil, or_false] at hp
      rcases hp with rfl | rfl | rfl
      · exact word_lit (by decide +kernel)
      · exact word_name h1
      · exact word_item (.inl h2)
    | held h1 =>
      rw [items_held] at hp
      simp only [List.mem_cons, List.not_mem_nil, or_false] at hp
      rcases hp with rfl | rfl
      · exact word_lit (by decide +kernel)
      · exact word_num h1
    | turned h1 h2 h3 =>
      rw [items_turned] at hp
      simp only [List.mem_cons, List.not_mem_nil, or_false] at hp
      rcases hp with rfl | rfl | rfl | rfl
      · exact word_lit (by decide +kernel)
      · exact word_name h1
      · exact word_item (.inl h2)
      · exact word_item (.inl h3)
  intro p hp
  unfold partsOf at hp
  rcases List.mem_append.mp hp with h1 | h1
  · cases pos with
    | true => exact absurd h1 (by simp)
    | false =>
      have e : p = "not" := by simpa using h1
      rw [e]
      exact word_lit (by decide +kernel)
  · exact key p h1
theorem parts_len {pos : Bool} {xs : List V} (h : RowOk xs) : (partsOf pos xs).length ≤ 6 := by
  unfold partsOf
  rw [List.length_append]
  have h1 : (if pos = true then ([] : List Str) else ["not"]).length ≤ 1 := by cases pos <;> simp
  have h2 : (itemsT (kindOf xs) 0 xs).length ≤ 5 := by cases h <;> simp [itemsT]
  omega
theorem parts_ne {pos : Bool} {xs : List V} (h : RowOk xs) : partsOf pos xs ≠ [] := by
  unfold partsOf
  intro z
  have z2 := (List.append_eq_nil_iff.mp z).2
  cases h <;> simp [itemsT] at z2
theorem split_txt {pos : Bool} {xs : List V} (h : RowOk xs) : Txt.split (txt pos xs) " " = partsOf pos xs :=
  TL.split_join (y := " ") (s := 32) (S := []) (by decide +kernel) (by decide +kernel) (parts_ne h) fun p hp => (parts_words h p hp).1
/-- some words of at most 100 signs, joined -/
theorem sum_len {b : Nat} : ∀ {ws : List Str}, (∀ p ∈ ws, p.length ≤ b) → (ws.map (·.length)).sum ≤ ws.length * b
  | [], _ => by simp
  | p :: r, h => by
    have i := sum_len (ws := r) fun q hq => h q (List.mem_cons_of_mem _ hq)
    have j := h p List.mem_cons_self
    rw [List.map_cons, List.sum_cons, List.length_cons, Nat.succ_mul]
    omega
theorem join_len : ∀ {ws : List Str}, (Txt.join " " ws).length ≤ (ws.map (·.length)).sum + ws.length := by
  intro ws
  rw [TL.join_eq]
  have key : ∀ l : List Str, (Str.join " " l).length ≤ (l.map (·.length)).sum + l.length := by
    intro l
    have e1 : ((" " : Str)).cps.toList = [32] := by decide +kernel
    have e1 : TL.tl (" " : Str) = [32] := e1
    rw [TL.len_tl, TL.tl_join, e1]
    have q : ∀ m : List (List Nat), (TL.joinL [32] m).length ≤ (m.map List.length).sum + m.length := by
      intro m
      induction m with
      | nil => exact Nat.zero_le _
      | cons a r ih =>
        cases r with
        | nil =>
          show a.length ≤ _
          simp
        | cons b r =>
          show (a ++ ([32] ++ TL.joinL [32] (b :: r))).length ≤ _
          rw [List.length_append, List.length_append, List.map_cons, List.sum_cons, List.length_cons]
          rw [List.length_cons] at *
          simp only [List.length_cons, List.length_nil] at *
          omega
    have z := q (l.map TL.tl)
    rw [List.length_map, List.map_map] at z
    have e2 : (l.map (List.length ∘ TL.tl)) = l.map (·.length) := List.map_congr_left fun x _ => (TL.len_tl x).symm
    rw [e2] at z
    exact z
  exact key ws
theorem txt_len {pos : Bool} {xs : List V} (h : RowOk xs) : (txt pos xs).length ≤ 100 := by
  have h1 := join_len (ws := partsOf pos xs)
  have h2 := sum_len (b := 8) fun p hp => (parts_words (pos := pos) h p hp).2
  have h3 := parts_len (pos := pos) h
  unfold txt
  have h4 : (partsOf pos xs).length * 8 ≤ 6 * 8 := Nat.mul_le_mul_right 8 h3
  omega

/-! ### reading back -/
theorem name_not {p q : Str} (h : NameS p) (hq : q ∈ resv) : ¬ p = q := by
  intro e
  subst e
  unfold NameS nameW at h
  simp only [Bool.and_eq_true, Bool.not_eq_true', decide_eq_false_iff_not] at h
  exact h.2.2.1 hq
theorem num_not {n : Int} (h : NumI n) {q : Str} (hq : isDig (hd q) = false) : ¬ nS n = q := by
  intro e
  have b := numB_nS h
  rw [e] at b
  unfold numB at b
  simp only [Bool.and_eq_true, Bool.not_eq_true', beq_eq_false_iff_ne] at b
  obtain ⟨b0, _, ball, _⟩ := b
  have : isDig (hd q) = true := by
    unfold hd
    cases e2 : q.cps.toList with
    | nil =>
      exact absurd (by rw [TL.len_tl]; show q.cps.toList.length = 0; rw [e2]; rfl) b0
    | cons c r =>
      rw [e2] at ball
      exact List.all_eq_true.mp ball c List.mem_cons_self
  rw [hq] at this
  cases this
theorem read_name {p : Str} (h : NameS p) : readW .name p = some (.str p) := by
  exact if_pos (show nameW p = true from h)
theorem read_num {n : Int} (h : NumI n) : readW .num (nS n) = some (.int n) := by
  show (numW (nS n)).map V.int = _
  rw [numW_nS h]
  rfl
theorem read_any {k : Str} {i : Nat} (hi : i ≠ 4) {v : V} (h : OptN v) : readW .any (itemT k i v) = some v := by
  rcases h with rfl | ⟨p, rfl, hp⟩
  · have e : itemT k i V.non = "any" := by
      show (if k = "told" ∧ i = 4 then ("end" : Str) else "any") = "any"
      rw [if_neg fun z => hi z.2]
    rw [e]
    show (if ("any" : Str) = "any" then some V.non else if nameW "any" = true then some (V.str "any") else none) = _
    rw [if_pos rfl]
  · show (if p = "any" then some V.non else if nameW p = true then some (V.str p) else none) = _
    rw [if_neg (name_not hp (by simp [resv])), if_pos (show nameW p = true from hp)]
theorem read_last {v : V} (h : OptI v) : readW .last (itemT "told" 4 v) = some v := by
  rcases h with rfl | ⟨n, rfl, hn⟩
  · have e : itemT "told" 4 V.non = "end" := by
      show (if ("told" : Str) = "told" ∧ 4 = 4 then ("end" : Str) else "any") = "end"
      rw [if_pos ⟨rfl, rfl⟩]
    rw [e]
    show (if ("end" : Str) = "end" then some V.non else (numW "end").map V.int) = _
    rw [if_pos rfl]
  · show (if nS n = "end" then some V.non else (numW (nS n)).map V.int) = _
    rw [if_neg (num_not hn (by decide +kernel)), numW_nS hn]
    rfl
theorem all_one {f : Fm} {w : Str} {v : V} {fs : List Fm} {ws : List Str} (h : readW f w = some v) : readAll (f :: fs) (w :: ws) = (readAll fs ws).map (v :: ·) := by
  show (match readW f w with | none => none | some v => (readAll fs ws).map (v :: ·)) = _
  rw [h]
theorem forms_knew : formsOf "knew" = some [.name, .num, .any] := by decide +kernel
theorem forms_told : formsOf "told" = some [.any, .any, .num, .last] := by decide +kernel
theorem forms_began : formsOf "began" = some [.name, .any] := by decide +kernel
theorem forms_held : formsOf "held" = some [.num] := by decide +kernel
theorem forms_turned : formsOf "turned" = some [.name, .any, .any] := by decide +kernel
theorem readK_of {k : Str} {r : List Str} {fs : List Fm} {ys : List V} (h : formsOf k = some fs) (hr : readAll fs r = some ys) : readK (k :: r) = some (V.str k :: ys) := by
  show (match formsOf k with | none => none | some fs => (readAll fs r).map (V.str k :: ·)) = _
  rw [h]
  show (readAll fs r).map (V.str k :: ·) = _
  rw [hr]
  rfl
theorem readK_items {xs : List V} (h : RowOk xs) : readK (itemsT (kindOf xs) 0 xs) = some xs := by
  cases h with
  | knew h1 h2 h3 =>
    rw [items_knew]
    exact readK_of forms_knew (by rw [all_one (read_name h1), all_one (read_num h2), all_one (read_any (k := "knew") (by decide) h3)]; rfl)
  | told h1 h2 h3 h4 =>
    rw [items_told]
    exact readK_of forms_told (by rw [all_one (read_any (k := "told") (i := 1) (by decide) h1), all_one (read_any (k := "told") (i := 2) (by decide) h2), all_one (read_num h3), all_one (read_last h4)]; rfl)
  | began h1 h2 =>
    rw [items_began]
    exact readK_of forms_began (by rw [all_one (read_name h1), all_one (read_any (k := "began") (i := 2) (by decide) h2)]; rfl)
  | held h1 =>
    rw [items_held]
    exact readK_of forms_held (by rw [all_one (read_num h1)]; rfl)
  | turned h1 h2 h3 =>
    rw [items_turned]
    exact readK_of forms_turned (by rw [all_one (read_name h1), all_one (read_any (k := "turned") (i := 2) (by decide) h2), all_one (read_any (k := "turned") (i := 3) (by decide) h3)]; rfl)
theorem head_items {xs : List V} (h : RowOk xs) : ¬ (itemsT (kindOf xs) 0 xs).headD "" = "not" := by
  cases h with
  | knew _ _ _ => exact (by decide +kernel : ¬ ("knew" : Str) = "not")
  | told _ _ _ _ => exact (by decide +kernel : ¬ ("told" : Str) = "not")
  | began _ _ => exact (by decide +kernel : ¬ ("began" : Str) = "not")
  | held _ => exact (by decide +kernel : ¬ ("held" : Str) = "not")
  | turned _ _ _ => exact (by decide +kernel : ¬ ("turned" : Str) = "not")
theorem parts_true (xs : List V) : partsOf true xs = itemsT (kindOf xs) 0 xs := by
  unfold partsOf
  rw [if_pos rfl, List.nil_append]
theorem parts_false (xs : List V) : partsOf false xs = ("not" : Str) :: itemsT (kindOf xs) 0 xs := by
  unfold partsOf
  rw [if_neg Bool.false_ne_true]
  rfl
/-- A CLAIM'S TEXT IS READ BACK -/
theorem parse_txt {pos : Bool} {xs : List V} (h : RowOk xs) : parse (txt pos xs) = some (pos, xs) := by
  unfold parse
  rw [split_txt h]
  have hp : posOf (partsOf pos xs) = pos := by
    cases pos with
    | true =>
      rw [parts_true]
      show (!decide ((itemsT (kindOf xs) 0 xs).headD "" = "not")) = true
      rw [decide_eq_false (head_items h)]
      rfl
    | false =>
      rw [parts_false]
      show (!decide (("not" : Str) = "not")) = false
      rw [decide_eq_true rfl]
      rfl
  have hb : bodyOf (partsOf pos xs) = itemsT (kindOf xs) 0 xs := by
    unfold bodyOf
    rw [hp]
    cases pos with
    | true => rw [if_pos rfl, parts_true]
    | false =>
      rw [if_neg Bool.false_ne_true, parts_false]
      rfl
  unfold parseW
  rw [hp, hb, readK_items h]
  rfl

/-! ### reading word by word (for the loops) -/
theorem all_len : ∀ {fs : List Fm} {ws : List Str} {vs : List V}, readAll fs ws = some vs → fs.length = ws.length
  | [], [], _, _ => rfl
  | [], _ :: _, _, h => nomatch h
  | _ :: _, [], _, h => nomatch h
  | f :: fs, w :: ws, vs, h => by
    cases e : readW f w with
    | none =>
      have h' : (match readW f w with | none => none | some v => (readAll fs ws).map (v :: ·)) = some vs := h
      rw [e] at h'
      cases h'
    | some v =>
      rw [all_one e] at h
      cases e2 : readAll fs ws with
      | none => rw [e2] at h; cases h
      | some ys =>
        have := all_len e2
        rw [List.length_cons, List.length_cons, this]
/-- one more word is read -/
theorem all_snoc : ∀ {fs : List Fm} {ws : List Str} {vs : List V} {f : Fm} {w : Str}, readAll fs ws = some vs → readAll (fs ++ [f]) (ws ++ [w]) = (readW f w).map fun v => vs ++ [v]
  | [], [], vs, f, w, h => by
    have e : vs = [] := (Option.some.inj h).symm
    subst e
    show (match readW f w with | none => none | some v => (readAll [] []).map (v :: ·)) = _
    cases readW f w <;> rfl
  | [], _ :: _, _, _, _, h => nomatch h
  | _ :: _, [], _, _, _, h => nomatch h
  | g :: fs, u :: ws, vs, f, w, h => by
    cases e : readW g u with
    | none =>
      have h' : (match readW g u with | none => none | some v => (readAll fs ws).map (v :: ·)) = some vs := h
      rw [e] at h'
      cases h'
    | some v =>
      rw [all_one e] at h
      cases e2 : readAll fs ws with
      | none => rw [e2] at h; cases h
      | some ys =>
        rw [e2] at h
        have ev : vs = v :: ys := (Option.some.inj h).symm
        subst ev
        have ih := all_snoc (f := f) (w := w) e2
        show readAll (g :: (fs ++ [f])) (u :: (ws ++ [w])) = _
        rw [all_one e, ih]
        cases readW f w <;> rfl
/-- a word that is not read -/
theorem all_fail : ∀ {fs : List Fm} {ws : List Str} {i : Nat} {f : Fm} {w : Str}, fs[i]? = some f → ws[i]? = some w → readW f w = none → readAll fs ws = none
  | [], _, _, _, _, h, _, _ => by simp at h
  | _ :: _, [], _, _, _, _, h, _ => by simp at h
  | g :: fs, u :: ws, 0, f, w, h1, h2, h => by
    have e1 : g = f := by simpa using h1
    have e2 : u = w := by simpa using h2
    subst e1
    subst e2
    show (match readW g u with | none => none | some v => (readAll fs ws).map (v :: ·)) = none
    rw [h]
  | g :: fs, u :: ws, i + 1, f, w, h1, h2, h => by
    show (match readW g u with | none => none | some v => (readAll fs ws).map (v :: ·)) = none
    have ih := all_fail (fs := fs) (ws := ws) (i := i) (by simpa using h1) (by simpa using h2) h
    rw [ih]
    cases readW g u <;> rfl
theorem all_long {fs : List Fm} {ws : List Str} (h : fs.length ≠ ws.length) : readAll fs ws = none := by
  cases e : readAll fs ws with
  | none => rfl
  | some vs => exact absurd (all_len e) h
end L2.HK
/-! K2b: what a claim's items are; what is read is such a row. -/
namespace L2.HK
open PySem PySem.Spec PyProof.Rows L2.HR
theorem val_lt {x : Str} (h : numB x = true) : NumText.digitsVal x.cps.toList < 10000 := by
  unfold numB at h
  simp only [Bool.and_eq_true, decide_eq_true_eq] at h
  obtain ⟨_, h4, ha, _⟩ := h
  have hl : x.cps.toList.length ≤ 4 := by
    have q := TL.len_tl x
    have q2 : (TL.tl x).length = x.cps.toList.length := rfl
    omega
  generalize x.cps.toList = l at ha hl
  have step : ∀ c, isDig c = true → c - 48 ≤ 9 := fun c hc => by
    unfold isDig at hc
    rw [Bool.and_eq_true, decide_eq_true_eq, decide_eq_true_eq] at hc
    omega
  unfold NumText.digitsVal
  match l, ha, hl with
  | [], _, _ => decide
  | [a], ha, _ =>
    simp only [List.all_cons, List.all_nil, Bool.and_true] at ha
    have := step a ha
    simp only [List.foldl_cons, List.foldl_nil]
    omega
  | [a, b], ha, _ =>
    simp only [List.all_cons, List.all_nil, Bool.and_true, Bool.and_eq_true] at ha
    have := step a ha.1
    have := step b ha.2
    simp only [List.foldl_cons, List.foldl_nil]
    omega
  | [a, b, c], ha, _ =>
    simp only [List.all_cons, List.all_nil, Bool.and_true, Bool.and_eq_true] at ha
    have := step a ha.1
    have := step b ha.2.1
    have := step c ha.2.2
    simp only [List.foldl_cons, List.foldl_nil]
    omega
  | [a, b, c, d], ha, _ =>
    simp only [List.all_cons, List.all_nil, Bool.and_true, Bool.and_eq_true] at ha
    have := step a ha.1
    have := step b ha.2.1
    have := step c ha.2.2.1
    have := step d ha.2.2.2
    simp only [List.foldl_cons, List.foldl_nil]
    omega
  | _ :: _ :: _ :: _ :: _ :: _, _, hl => simp at hl
theorem numW_some {x : Str} {n : Int} (h : numW x = some n) : NumI n := by
  unfold numW at h
  by_cases b : numB x = true
  · rw [if_pos b] at h
    have e := Option.some.inj h
    have l := val_lt b
    constructor <;> omega
  · rw [if_neg b] at h
    cases h
theorem rd_name {x : Str} {v : V} (h : readW .name x = some v) : ∃ p, v = .str p ∧ NameS p := by
  have h' : (if nameW x = true then some (V.str x) else none) = some v := h
  by_cases b : nameW x = true
  · rw [if_pos b] at h'
    exact ⟨x, (Option.some.inj h').symm, b⟩
  · rw [if_neg b] at h'
    cases h'
theorem rd_num {x : Str} {v : V} (h : readW .num x = some v) : ∃ n, v = .int n ∧ NumI n := by
  have h' : (numW x).map V.int = some v := h
  cases e : numW x with
  | none =>
    rw [e] at h'
    cases h'
  | some n =>
    rw [e] at h'
    exact ⟨n, (Option.some.inj h').symm, numW_some e⟩
theorem rd_any {x : Str} {v : V} (h : readW .any x = some v) : OptN v := by
  have h' : (if x = "any" then some V.non else if nameW x = true then some (V.str x) else none) = some v := h
  by_cases a : x = "any"
  · rw [if_pos a] at h'
    exact .inl (Option.some.inj h').symm
  · rw [if_neg a] at h'
    exact .inr (rd_name (x := x) h')
theorem rd_last {x : Str} {v : V} (h : readW .last x = some v) : OptI v := by
  have h' : (if x = "end" then some V.non else (numW x).map V.int) = some v := h
  by_cases a : x = "end"
  · rw [if_pos a] at h'
    exact .inl (Option.some.inj h').symm
  · rw [if_neg a] at h'
    exact .inr (rd_num (x := x) h')
theorem all_inv {f : Fm} {fs : List Fm} {ws : List Str} {ys : List V} (h : readAll (f :: fs) ws = some ys) : ∃ w r v zs, ws = w :: r ∧ ys = v :: zs ∧ readW f w = some v ∧ readAll fs r = some zs := by
  cases ws with
  | nil => cases h
  | cons w r =>
    have h' : (match readW f w with | none => none | some v => (readAll fs r).map (v :: ·)) = some ys := h
    cases e : readW f w with
    | none =>
      rw [e] at h'
      cases h'
    | some v =>
      rw [e] at h'
      cases e2 : readAll fs r with
      | none =>
        rw [e2] at h'
        cases h'
      | some zs =>
        rw [e2] at h'
        exact ⟨w, r, v, zs, rfl, (Option.some.inj h').symm, by first | exact e | rfl, by first | exact e2 | rfl⟩
theorem all_inv0 {ws : List Str} {ys : List V} (h : readAll [] ws = some ys) : ys = [] := by
  cases ws with
  | nil => exact (Option.some.inj h).symm
  | cons _ _ => cases h
theorem all_out : ∀ {fs : List Fm} {ws : List Str} {ys : List V}, readAll fs ws = some ys → ys.length = fs.length
  | [], _, _, h => by rw [all_inv0 h]; rfl
  | f :: fs, _, _, h => by
    obtain ⟨w, r, v, zs, rfl, rfl, _, e⟩ := all_inv h
    rw [List.length_cons, List.length_cons, all_out e]
theorem readK_ok {ws : List Str} {xs : List V} (h : readK ws = some xs) : RowOk xs := by
  cases ws with
  | nil => cases h
  | cons k r =>
    have h' : (match formsOf k with | none => none | some fs => (readAll fs r).map (V.str k :: ·)) = some xs := h
    have out : ∀ {fs : List Fm}, formsOf k = some fs → ∃ ys, readAll fs r = some ys ∧ xs = V.str k :: ys := fun {fs} e => by
      rw [e] at h'
      have h2 : (readAll fs r).map (V.str k :: ·) = some xs := h'
      cases e2 : readAll fs r with
      | none =>
        rw [e2] at h2
        cases h2
      | some ys =>
        rw [e2] at h2
        exact ⟨ys, rfl, (Option.some.inj h2).symm⟩
    by_cases k1 : k = "knew"
    · subst k1
      obtain ⟨ys, e, rfl⟩ := out forms_knew
      obtain ⟨_, _, v1, _, rfl, rfl, a1, e⟩ := all_inv e
      obtain ⟨_, _, v2, _, rfl, rfl, a2, e⟩ := all_inv e
      obtain ⟨_, _, v3, _, rfl, rfl, a3, e⟩ := all_inv e
      rw [all_inv0 e]
      obtain ⟨p, rfl, hp⟩ := rd_name a1
      obtain ⟨n, rfl, hn⟩ := rd_num a2
      exact .knew hp hn (rd_any a3)
    by_cases k2 : k = "told"
    · subst k2
      obtain ⟨ys, e, rfl⟩ := out forms_told
      obtain ⟨_, _, v1, _, rfl, rfl, a1, e⟩ := all_inv e
      obtain ⟨_, _, v2, _, rfl, rfl, a2, e⟩ := all_inv e
      obtain ⟨_, _, v3, _, rfl, rfl, a3, e⟩ := all_inv e
      obtain ⟨_, _, v4, _, rfl, rfl, a4, e⟩ := all_inv e
      rw [all_inv0 e]
      obtain ⟨n, rfl, hn⟩ := rd_num a3
      exact .told (rd_any a1) (rd_any a2) hn (rd_last a4)
    by_cases k3 : k = "began"
    · subst k3
      obtain ⟨ys, e, rfl⟩ := out forms_began
      obtain ⟨_, _, v1, _, rfl, rfl, a1, e⟩ := all_inv e
      obtain ⟨_, _, v2, _, rfl, rfl, a2, e⟩ := all_inv e
      rw [all_inv0 e]
      obtain ⟨p, rfl, hp⟩ := rd_name a1
      exact .began hp (rd_any a2)
    by_cases k4 : k = "held"
    · subst k4
      obtain ⟨ys, e, rfl⟩ := out forms_held
      obtain ⟨_, _, v1, _, rfl, rfl, a1, e⟩ := all_inv e
      rw [all_inv0 e]
      obtain ⟨n, rfl, hn⟩ := rd_num a1
      exact .held hn
    by_cases k5 : k = "turned"
    · subst k5
      obtain ⟨ys, e, rfl⟩ := out forms_turned
      obtain ⟨_, _, v1, _, rfl, rfl, a1, e⟩ := all_inv e
      obtain ⟨_, _, v2, _, rfl, rfl, a2, e⟩ := all_inv e
      obtain ⟨_, _, v3, _, rfl, rfl, a3, e⟩ := all_inv e
      rw [all_inv0 e]
      obtain ⟨p, rfl, hp⟩ := rd_name a1
      exact .turned hp (rd_any a2) (rd_any a3)
    have e : formsOf k = none := by
      unfold formsOf
      rw [if_neg k1, if_neg k2, if_neg k3, if_neg k4, if_neg k5]
    rw [e] at h'
    cases h'
/-- WHAT IS READ IS A ROW -/
theorem parse_ok {t : Str} {pos : Bool} {xs : List V} (h : parse t = some (pos, xs)) : RowOk xs := by
  unfold parse parseW at h
  cases e : readK (bodyOf (Txt.split t " ")) with
  | none =>
    rw [e] at h
    cases h
  | some ys =>
    rw [e] at h
    have q := Option.some.inj h
    have q2 : ys = xs := congrArg Prod.snd q
    rw [← q2]
    exact readK_ok e
/-! ### what its items show -/
theorem plain_word {x : Str} (h : (decide (x.length ≤ 100) && x.cps.toList.all fun c => decide (c < 128)) = true) : PlainV (.str x) := by
  rw [Bool.and_eq_true, decide_eq_true_eq] at h
  refine .inr (.inr ⟨x, rfl, h.1, fun c hc => ?_⟩)
  have q := of_decide_eq_true (List.all_eq_true.mp h.2 c hc)
  exact Nat.lt_of_lt_of_le q (by decide)
theorem sig_lt {c : Nat} (h : isSig c = true) : c < 128 := by
  unfold isSig isLow isDig at h
  simp only [Bool.or_eq_true, Bool.and_eq_true, decide_eq_true_eq] at h
  omega
theorem name_sig {p : Str} (h : NameS p) : p.cps.toList.all isSig = true := by
  unfold NameS nameW at h
  simp only [Bool.and_eq_true] at h
  exact h.2.2.2.2
theorem plain_name {p : Str} (h : NameS p) : PlainV (.str p) := by
  refine plain_word ?_
  rw [Bool.and_eq_true, decide_eq_true_eq]
  have l := len_name h
  exact ⟨by omega, List.all_eq_true.mpr fun c hc => decide_eq_true (sig_lt (List.all_eq_true.mp (name_sig h) c hc))⟩
theorem plain_num {n : Int} (h : NumI n) : PlainV (.int n) := .inr (.inl ⟨n, rfl, by have := h.1; have := h.2; omega⟩)
theorem plain_optN {v : V} (h : OptN v) : PlainV v := by
  rcases h with rfl | ⟨p, rfl, hp⟩
  · exact .inl rfl
  · exact plain_name hp
theorem plain_optI {v : V} (h : OptI v) : PlainV v := by
  rcases h with rfl | ⟨p, rfl, hp⟩
  · exact .inl rfl
  · exact plain_num hp
theorem row_plain {xs : List V} (h : RowOk xs) : ∀ v ∈ xs, PlainV v := by
  intro v hv
  cases h with
  | knew h1 h2 h3 =>
    simp only [List.mem_cons, List.not_mem_nil, or_false] at hv
    rcases hv with rfl | rfl | rfl | rfl
    · exact plain_word (by decide +kernel)
    · exact plain_name h1
    · exact plain_num h2
    · exact plain_optN h3
  | told h1 h2 h3 h4 =>
    simp only [List.mem_cons, List.not_mem_nil, or_false] at hv
    rcases hv with rfl | rfl | rfl | rfl | rfl
    · exact plain_word (by decide +kernel)
    · exact plain_optN h1
    · exact plain_optN h2
    · exact plain_num h3
    · exact plain_optI h4
  | began h1 h2 =>
    simp only [List.mem_cons, List.not_mem_nil, or_false] at hv
    rcases hv with rfl | rfl | rfl
    · exact plain_word (by decide +kernel)
    · exact plain_name h1
    · exact plain_optN h2
  | held h1 =>
    simp only [List.mem_cons, List.not_mem_nil, or_false] at hv
    rcases hv with rfl | rfl
    · exact plain_word (by decide +kernel)
    · exact plain_num h1
  | turned h1 h2 h3 =>
    simp only [List.mem_cons, List.not_mem_nil, or_false] at hv
    rcases hv with rfl | rfl | rfl | rfl
    · exact plain_word (by decide +kernel)
    · exact plain_name h1
    · exact plain_optN h2
    · exact plain_optN h3
/-! ### as data, for == -/
theorem row_ascii {v : V} (h : PlainV v) (h2 : ∀ x, v = .str x → ∀ c ∈ x.cps.toList, c < 128) : PyData.canLay0 (shV v) = true := by
  rcases h with rfl | ⟨n, rfl, _⟩ | ⟨x, rfl, _, _⟩
  · rfl
  · rfl
  · show (x.cps.all fun c => decide (c < 0x110000)) = true
    rw [← Array.all_toList]
    exact List.all_eq_true.mpr fun c hc => decide_eq_true (Nat.lt_of_lt_of_le (h2 x rfl c hc) (by decide))
theorem asc_word {x : Str} (h : (x.cps.toList.all fun c => decide (c < 128)) = true) : ∀ c ∈ x.cps.toList, c < 128 := fun c hc => of_decide_eq_true (List.all_eq_true.mp h c hc)
theorem row_asc {xs : List V} (h : RowOk xs) : ∀ v ∈ xs, ∀ x, v = .str x → ∀ c ∈ x.cps.toList, c < 128 := by
  have nm : ∀ {p : Str}, NameS p → ∀ x, V.str p = .str x → ∀ c ∈ x.cps.toList, c < 128 := fun {p} hp x e c hc => by
    injection e with e
    subst e
    exact sig_lt (List.all_eq_true.mp (name_sig hp) c hc)
  have op : ∀ {v : V}, OptN v → ∀ x, v = .str x → ∀ c ∈ x.cps.toList, c < 128 := fun {v} hv x e c hc => by
    rcases hv with rfl | ⟨p, rfl, hp⟩
    · cases e
    · exact nm hp x e c hc
  have oi : ∀ {v : V}, OptI v → ∀ x, v = .str x → ∀ c ∈ x.cps.toList, c < 128 := fun {v} hv x e c hc => by
    rcases hv with rfl | ⟨p, rfl, hp⟩ <;> cases e
  have wd : ∀ {p : Str}, (p.cps.toList.all fun c => decide (c < 128)) = true → ∀ x, V.str p = .str x → ∀ c ∈ x.cps.toList, c < 128 := fun {p} hp x e => by
    injection e with e
    subst e
    exact asc_word hp
  have it : ∀ {n : Int} x, V.int n = .str x → ∀ c ∈ x.cps.toList, c < 128 := fun x e => nomatch e
  intro v hv
  cases h with
  | knew h1 h2 h3 =>
    simp only [List.mem_cons, List.not_mem_nil, or_false] at hv
    rcases hv with rfl | rfl | rfl | rfl
    · exact wd (by decide +kernel)
    · exact nm h1
    · exact it
    · exact op h3
  | told h1 h2 h3 h4 =>
    simp only [List.mem_cons, List.not_mem_nil, or_false] at hv
    rcases hv with rfl | rfl | rfl | rfl | rfl
    · exact wd (by decide +kernel)
    · exact op h1
    · exact op h2
    · exact it
    · exact oi h4
  | began h1 h2 =>
    simp only [List.mem_cons, List.not_mem_nil, or_false] at hv
    rcases hv with rfl | rfl | rfl
    · exact wd (by decide +kernel)
    · exact nm h1
    · exact op h2
  | held h1 =>
    simp only [List.mem_cons, List.not_mem_nil, or_false] at hv
    rcases hv with rfl | rfl
    · exact wd (by decide +kernel)
    · exact it
  | turned h1 h2 h3 =>
    simp only [List.mem_cons, List.not_mem_nil, or_false] at hv
    rcases hv with rfl | rfl | rfl | rfl
    · exact wd (by decide +kernel)
    · exact nm h1
    · exact op h2
    · exact op h3
theorem lay_all : ∀ {xs : List V}, (∀ v ∈ xs, PyData.canLay0 (shV v) = true) → PyData.canLayAll0 (xs.map shV) = true
  | [], _ => rfl
  | v :: xs, h => by
    show (PyData.canLay0 (shV v) && PyData.canLayAll0 (xs.map shV)) = true
    rw [h v List.mem_cons_self, lay_all fun y hy => h y (List.mem_cons_of_mem _ hy)]
    rfl
theorem row_lay {xs : List V} (h : RowOk xs) : PyData.canLay0 (plainT xs) = true := lay_all fun v hv => row_ascii (row_plain h v hv) (row_asc h v hv)
theorem row_shaped {xs : List V} (h : RowOk xs) : SeqAt.shaped (plainT xs) = true := by
  unfold SeqAt.shaped
  rw [row_lay h]
  obtain ⟨_, _, _, _, a5⟩ := all_show (row_plain h)
  have e : PyData.depth (plainT xs) = 1 := by
    have z : PyData.depth (plainT xs) = PyData.depthAll (xs.map shV) + 1 := by first | rfl | (unfold plainT; simp only [PyData.depth])
    rw [z, a5]
  rw [e]
  rfl
theorem dp_all {K : PySem.W.Frag} {H : Hp} : ∀ {xs : List V}, (∀ v ∈ xs, PlainV v) → DpAll K H xs (xs.map shV)
  | [], _ => .nil
  | v :: xs, h => by
    refine .cons ?_ (dp_all fun y hy => h y (List.mem_cons_of_mem _ hy))
    rcases h v List.mem_cons_self with rfl | ⟨n, rfl, _⟩ | ⟨x, rfl, _, _⟩
    · exact .non
    · exact .int n
    · exact .str x
theorem dp_row {K : PySem.W.Frag} {H : Hp} {t : Addr} {xs : List V} (hT : SqT K H t xs) (h : RowOk xs) : Dp K H (.ref t) (plainT xs) := .tup hT (dp_all (row_plain h))
theorem eqv_row {xs : List V} (h : RowOk xs) : PyData.eqv (plainT xs) (plainT xs) = true := SeqAt.eqv_refl _ (row_lay h)
end L2.HK
/-! K2c: the words of a text. -/
namespace L2.HK
open PySem PySem.Spec PyProof.Rows L2.HR
theorem spl_piece (S : List Nat) : ∀ (l : List Nat) (k : Nat) (acc : List Nat), ∀ p ∈ TL.spl S k acc l, p.length ≤ acc.length + l.length
  | [], k, acc => by
    rw [TL.spl_nil]
    intro p hp
    rw [List.mem_singleton.mp hp]
    exact Nat.le_refl _
  | c :: r, 0, acc => by
    intro p hp
    cases h : TL.pre S (c :: r) with
    | true =>
      rw [TL.spl_hit h] at hp
      rcases List.mem_cons.mp hp with e | hp
      · rw [e]
        omega
      · have := spl_piece S r _ _ p hp
        simp only [List.length_nil, List.length_cons] at *
        omega
    | false =>
      rw [TL.spl_miss h] at hp
      have := spl_piece S r _ _ p hp
      simp only [List.length_append, List.length_nil, List.length_cons] at *
      omega
  | c :: r, k + 1, acc => by
    intro p hp
    have hp' : p ∈ TL.spl S k acc r := hp
    have := spl_piece S r _ _ p hp'
    simp only [List.length_cons] at *
    omega
theorem spl_count (S : List Nat) : ∀ (l : List Nat) (k : Nat) (acc : List Nat), 1 ≤ (TL.spl S k acc l).length ∧ (TL.spl S k acc l).length ≤ l.length + 1
  | [], k, acc => by
    rw [TL.spl_nil]
    exact ⟨Nat.le_refl _, Nat.le_refl _⟩
  | c :: r, 0, acc => by
    cases h : TL.pre S (c :: r) with
    | true =>
      rw [TL.spl_hit h]
      have := spl_count S r (S.length - 1) []
      simp only [List.length_cons] at *
      omega
    | false =>
      rw [TL.spl_miss h]
      have := spl_count S r 0 (acc ++ [c])
      simp only [List.length_cons] at *
      omega
  | c :: r, k + 1, acc => by
    have := spl_count S r k acc
    have e : TL.spl S (k + 1) acc (c :: r) = TL.spl S k acc r := rfl
    rw [e]
    simp only [List.length_cons] at *
    omega
theorem split_eq (t : Str) : (Txt.split t " ") = (TL.spl [32] 0 [] (TL.tl t)).map SX.S := by
  have e1 : t = SX.S (TL.tl t) := TL.ext_tl rfl
  have e2 : (" " : Str) = SX.S [32] := by decide +kernel
  have q := SX.split_S (a := TL.tl t) (b := [32]) (by decide) (by decide)
  rw [← e1, ← e2] at q
  exact q
theorem word_le {t w : Str} (h : w ∈ Txt.split t " ") : w.length ≤ t.length := by
  rw [split_eq] at h
  obtain ⟨p, hp, rfl⟩ := List.mem_map.mp h
  have := spl_piece _ _ _ _ p hp
  rw [TL.len_tl, TL.len_tl t]
  have e : TL.tl (SX.S p) = p := rfl
  rw [e]
  simpa using this
theorem words_count (t : Str) : 1 ≤ (Txt.split t " ").length ∧ (Txt.split t " ").length ≤ t.length + 1 := by
  have := spl_count [32] (TL.tl t) 0 []
  rw [split_eq, List.length_map, TL.len_tl]
  exact this
theorem spl_mem (S : List Nat) : ∀ (l : List Nat) (k : Nat) (acc : List Nat), ∀ p ∈ TL.spl S k acc l, ∀ c ∈ p, c ∈ acc ∨ c ∈ l
  | [], k, acc => by
    rw [TL.spl_nil]
    intro p hp c hc
    rw [List.mem_singleton.mp hp] at hc
    exact .inl hc
  | d :: r, 0, acc => by
    intro p hp c hc
    cases h : TL.pre S (d :: r) with
    | true =>
      rw [TL.spl_hit h] at hp
      rcases List.mem_cons.mp hp with e | hp
      · rw [e] at hc
        exact .inl hc
      · rcases spl_mem S r _ _ p hp c hc with z | z
        · cases z
        · exact .inr (List.mem_cons_of_mem _ z)
    | false =>
      rw [TL.spl_miss h] at hp
      rcases spl_mem S r _ _ p hp c hc with z | z
      · rcases List.mem_append.mp z with z | z
        · exact .inl z
        · rw [List.mem_singleton.mp z]
          exact .inr List.mem_cons_self
      · exact .inr (List.mem_cons_of_mem _ z)
  | d :: r, k + 1, acc => by
    intro p hp c hc
    have hp' : p ∈ TL.spl S k acc r := hp
    rcases spl_mem S r _ _ p hp' c hc with z | z
    · exact .inl z
    · exact .inr (List.mem_cons_of_mem _ z)
/-- a text of plain signs -/
def Asc (t : Str) : Prop := ∀ c ∈ t.cps.toList, c < 128
theorem word_asc {t w : Str} (ht : Asc t) (h : w ∈ Txt.split t " ") : Asc w := by
  rw [split_eq] at h
  obtain ⟨p, hp, rfl⟩ := List.mem_map.mp h
  intro c hc
  rcases spl_mem _ _ _ _ p hp c hc with z | z
  · cases z
  · exact ht c z
theorem asc_lay : ∀ {ws : List Str}, (∀ w ∈ ws, Asc w) → PyData.canLayAll0 (ws.map PyData.str) = true
  | [], _ => rfl
  | w :: ws, h => by
    show (PyData.canLay0 (.str w) && PyData.canLayAll0 (ws.map PyData.str)) = true
    have e : PyData.canLay0 (.str w) = true := by
      show (w.cps.all fun c => decide (c < 0x110000)) = true
      rw [← Array.all_toList]
      exact List.all_eq_true.mpr fun c hc => decide_eq_true (Nat.lt_of_lt_of_le (h w List.mem_cons_self c hc) (by decide))
    rw [e, asc_lay fun y hy => h y (List.mem_cons_of_mem _ hy)]
    rfl
theorem strs_depth : ∀ {ws : List Str}, PyData.depthAll (ws.map PyData.str) = 0
  | [] => rfl
  | w :: ws => by
    have z : PyData.depthAll (PyData.str w :: ws.map PyData.str) = max (PyData.depth (.str w)) (PyData.depthAll (ws.map PyData.str)) := by first | rfl | simp only [PyData.depthAll]
    show PyData.depthAll (PyData.str w :: ws.map PyData.str) = 0
    rw [z, strs_depth]
    rfl
theorem strs_shaped {ws : List Str} (h : ∀ w ∈ ws, Asc w) : SeqAt.shaped (.list (ws.map PyData.str)) = true := by
  unfold SeqAt.shaped
  have e0 : PyData.canLay0 (.list (ws.map PyData.str)) = true := asc_lay h
  have e : PyData.depth (.list (ws.map PyData.str)) = 1 := by
    have z : PyData.depth (.list (ws.map PyData.str)) = PyData.depthAll (ws.map PyData.str) + 1 := by first | rfl | simp only [PyData.depth]
    rw [z, strs_depth]
  rw [e0, e]
  rfl
theorem strs_dp {K : PySem.W.Frag} {H : Hp} : ∀ {ws : List Str}, DpAll K H (ws.map V.str) (ws.map PyData.str)
  | [] => .nil
  | w :: ws => .cons (.str w) strs_dp
theorem strs_nil {ws : List Str} : PyData.eqv (.list (ws.map PyData.str)) (.list []) = ws.isEmpty := by
  cases ws <;> rfl
end L2.HK
/-! K3a: is_name, number_of. -/
namespace L2.HK
open PySem PySem.Spec PyProof.Rows L2.HR
def top (i : Nat) : Stmt := PySem.Challenge.pw_heardby_k07_whole_claims_read_back.main.body.getD i (.Pass ⟨0, 0, 0, 0⟩)

/-! ### signs and texts -/
abbrev LET : Str := "abcdefghijklmnopqrstuvwxyz"
abbrev DIG : Str := "0123456789"
abbrev BOTH : Str := "abcdefghijklmnopqrstuvwxyz0123456789"
theorem let_tl : LET.cps.toList = (List.range 26).map (97 + ·) := by decide +kernel
theorem dig_tl : DIG.cps.toList = (List.range 10).map (48 + ·) := by decide +kernel
theorem both_tl : BOTH.cps.toList = (List.range 26).map (97 + ·) ++ (List.range 10).map (48 + ·) := by decide +kernel
theorem mem_off {c a n : Nat} : c ∈ (List.range n).map (a + ·) ↔ a ≤ c ∧ c < a + n := by
  rw [List.mem_map]
  constructor
  · rintro ⟨i, hi, rfl⟩
    have := List.mem_range.mp hi
    omega
  · intro ⟨h1, h2⟩
    exact ⟨c - a, List.mem_range.mpr (by omega), by omega⟩
theorem in_let (c : Nat) : decide (c ∈ LET.cps.toList) = isLow c := by
  rw [let_tl]
  unfold isLow
  rw [Bool.eq_iff_iff, Bool.and_eq_true, decide_eq_true_eq, decide_eq_true_eq, decide_eq_true_eq, mem_off]
  omega
theorem in_dig (c : Nat) : decide (c ∈ DIG.cps.toList) = isDig c := by
  rw [dig_tl]
  unfold isDig
  rw [Bool.eq_iff_iff, Bool.and_eq_true, decide_eq_true_eq, decide_eq_true_eq, decide_eq_true_eq, mem_off]
  omega
theorem in_both (c : Nat) : decide (c ∈ BOTH.cps.toList) = isSig c := by
  rw [both_tl]
  unfold isSig isLow isDig
  rw [Bool.eq_iff_iff, Bool.or_eq_true, Bool.and_eq_true, Bool.and_eq_true, decide_eq_true_eq, decide_eq_true_eq, decide_eq_true_eq, decide_eq_true_eq, decide_eq_true_eq, List.mem_append, mem_off, mem_off]
  omega
theorem len0 {x : Str} : decide (V.str x = V.str "") = (x.length == 0) := by
  rw [Bool.eq_iff_iff, decide_eq_true_eq, beq_iff_eq]
  constructor
  · intro h
    have e : x = "" := by injection h
    rw [e]
    decide +kernel
  · intro h
    have e : x = "" := TL.ext_tl (by
      have z : (TL.tl x).length = 0 := by rw [← TL.len_tl]; exact h
      have z2 : TL.tl ("" : Str) = [] := by decide +kernel
      rw [z2]
      exact List.eq_nil_of_length_eq_zero z)
    rw [e]
theorem hd_get {x : Str} (h : ¬ (x.length == 0) = true) : atI x.cps.toList 0 = some (hd x) := by
  have hl : x.cps.toList.length = x.length := (TL.len_tl x).symm
  unfold hd
  cases e : x.cps.toList with
  | nil =>
    exfalso
    apply h
    rw [e] at hl
    rw [← hl]
    rfl
  | cons c r =>
    exact atI_nat (j := 0) rfl
theorem one_eq {c d : Nat} {z : Str} (hz : z = ⟨#[d]⟩) : decide (V.str ⟨#[c]⟩ = V.str z) = decide (c = d) := by
  rw [hz, Bool.eq_iff_iff, decide_eq_true_eq, decide_eq_true_eq]
  constructor
  · intro h
    injection h with h
    injection h with h
    simpa using h
  · intro h
    rw [h]
theorem all_pre {x : Str} {f : Nat → Bool} {i c : Nat} (hi : x.cps[i]? = some c) (h : (x.cps.toList.take i).all f = true) : (x.cps.toList.take (i + 1)).all f = f c := by
  have e : x.cps.toList[i]? = some c := by rw [Array.getElem?_toList]; exact hi
  rw [List.take_add_one, e]
  rw [List.all_append, h]
  simp
theorem all_no {x : Str} {f : Nat → Bool} {i c : Nat} (hi : x.cps[i]? = some c) (h : f c = false) : x.cps.toList.all f = false := by
  have e : x.cps.toList[i]? = some c := by rw [Array.getElem?_toList]; exact hi
  rw [Bool.eq_false_iff]
  intro z
  have := List.all_eq_true.mp z c (List.mem_of_getElem? e)
  rw [h] at this
  cases this

/-! ### names of the module, by kind -/
section
variable {X : Cx} {x : Str} {pos : Pos}
theorem pgS {z : Str} {t : Tok} (hm : X.mg x = some (.str z t)) (hg : Gl X x := by rfl) (hd : (x == ("__debug__" : Str)) = false := by decide) : PE X (.Name x pos) (tC (.str z)) := pe_glob hg hm ⟨_, rfl⟩ hd
theorem pgI {z : Int} {t : Tok} (hm : X.mg x = some (.int z t)) (hg : Gl X x := by rfl) (hd : (x == ("__debug__" : Str)) = false := by decide) : PE X (.Name x pos) (tC (.int z)) := pe_glob hg hm ⟨_, rfl⟩ hd
theorem pgR {a : Addr} (hm : X.mg x = some (.ref a)) (hg : Gl X x := by rfl) (hd : (x == ("__debug__" : Str)) = false := by decide) : PE X (.Name x pos) (tC (.ref a)) := pe_glob hg hm (rel_ref a) hd
end
/-! ### is_name -/
abbrev sIsName : Stmt := top 9
abbrev sNumber : Stmt := top 10
/-- what the top has of these names -/
structure TNm (K : PySem.W.Frag) (mg : Str → Option Value) : Prop where
  len : mg "len" = none
  int : mg "int" = none
  letters : ∃ t, mg "LETTERS" = some (.str LET t)
  digits : ∃ t, mg "DIGITS" = some (.str DIG t)
  signs : ∃ t, mg "MOST_SIGNS" = some (.int 8 t)
  numbs : ∃ t, mg "MOST_DIGITS" = some (.int 4 t)
  resv : ∃ a, mg "RESERVED" = some (.ref a) ∧ ∀ H : Hp, SqT K H a (L2.HK.resv.map V.str)
def spIsName : Sp := fun vs H Q _ => ∃ x : Str, vs = [.str x] ∧ x.length ≤ sizeLine ∧ Q (.bl (nameW x)) H
def spNumber : Sp := fun vs H Q _ => ∃ x : Str, vs = [.str x] ∧ x.length ≤ sizeLine ∧ Q (match numW x with | some n => .int n | none => .non) H
section
variable {P : Program} {w : World} {K : PySem.W.Frag} {mg : Str → Option Value} {base : Heap}
theorem in_resv {x : Str} : inV (.str x) (L2.HK.resv.map V.str) = decide (x ∈ L2.HK.resv) := by
  unfold inV
  rw [List.any_map, Bool.eq_iff_iff, List.any_eq_true, decide_eq_true_eq]
  constructor
  · rintro ⟨y, hy, e⟩
    have e' : (y == x) = true := e
    rw [← eq_of_beq e']
    exact hy
  · intro h
    exact ⟨x, h, show (x == x) = true from beq_self_eq_true x⟩
theorem scIsName : FnScope ["text", "sign"] ["text"] (defScope sIsName) := ⟨rfl, rfl, rfl, by decide +kernel, rfl, by decide +kernel, by decide +kernel⟩
theorem ok_isname {f : Addr} {fd : FuncData} (F : Fun K "is_name" "is_name" sIsName f fd) (T : TNm K mg) : FnOk P w K mg base CX0 1 f fd ["text"] spIsName := by
  refine F.ok scIsName (fun vs H Q E h => ?_) (fun cdv A outer s H vs Q E hr h => ?_)
  · obtain ⟨x, rfl, _⟩ := h
    rfl
  · obtain ⟨x, rfl, hx, k⟩ := h
    obtain ⟨tl, gl⟩ := T.letters
    obtain ⟨td, gd⟩ := T.digits
    obtain ⟨ts, gs⟩ := T.signs
    obtain ⟨ra, gr, hR⟩ := T.resv
    refine ⟨_, pss_cons (ps_if (PW.pt (pw_or (pt_cmpR op_eq (pv 0) pe_str (nomark _)) (pw_or (pt_cmpR op_gt (pe_callB call_len_str (by rfl) T.len PySem.boot_len (pa_cons (pv 0) pa_nil)) (pgI gs) (nomark _))
        (pw_or1 (pt_cmpR op_in_seq (pv 0) (pgR gr) (by rfl)))))) (pss_one (ps_ret pe_bl)) pss_nil)
      (pss_cons (ps_if (pt_cmpR op_notIn_sign (pe_ix ix_str (pv 0) pe_int (fun _ _ => rfl)) (pgS gl) (by rfl)) (pss_one (ps_ret pe_bl)) pss_nil)
      (pss_cons (ps_for PassesOwn.never rfl (pi_str (pv 0)) (pg_name (i := 1) scIsName.nd rfl (Or.inl rfl))
        (pss_one (ps_if (PW.pt (pw_and (pt_cmpR op_notIn_sign (pv 1) (pgS gl) (by rfl)) (pw_and1 (pt_cmpR op_notIn_sign (pv 1) (pgS gd) (by rfl))))) (pss_one (ps_ret pe_bl)) pss_nil)))
      (pss_one (ps_ret pe_bl)))), ?_⟩
    refine ⟨_, rfl, rfl, _, rfl, ?_⟩
    rw [len0]
    refine ite2 (fun h0 => iteT ?_) fun h0 => ?_
    · have e : nameW x = false := by unfold nameW; rw [h0]; rfl
      rw [e] at k
      exact k
    refine ⟨_, rfl, x, rfl, hx, _, _, rfl, rfl, _, rfl, ite2 (fun h8 => iteT ?_) fun h8 => ?_⟩
    · have e : nameW x = false := by
        have q : ¬ x.length ≤ 8 := by have := of_decide_eq_true h8; omega
        unfold nameW
        rw [decide_eq_false q]
        simp
      rw [e] at k
      exact k
    refine ⟨_, rfl, ra, _, rfl, .inr (hR _), rfl, by decide +kernel, _, rfl, ?_⟩
    rw [if_neg Bool.false_ne_true, in_resv]
    refine ite2 (fun hr => ?_) fun hr => ?_
    · have e : nameW x = false := by
        unfold nameW
        rw [hr]
        simp
      rw [e] at k
      exact k
    refine ⟨_, rfl, x, _, _, rfl, rfl, hx, hd_get h0, _, _, rfl, rfl, _, rfl, ?_⟩
    rw [in_let]
    refine ite2 (fun hl => ?_) fun hl => ?_
    · have e : nameW x = false := by
        unfold nameW
        have : isLow (hd x) = false := by simpa using hl
        rw [this]
        simp
      rw [e] at k
      exact k
    have base4 : nameW x = x.cps.toList.all isSig := by
      have h0' : (x.length == 0) = false := by simpa using h0
      have h8' : x.length ≤ 8 := by
        have : ¬ decide ((8 : Int) < (x.length : Int)) = true := h8
        rw [decide_eq_true_eq] at this
        omega
      have hl' : isLow (hd x) = true := by simpa using hl
      unfold nameW
      rw [h0', decide_eq_true h8', hl']
      have hr' : decide (x ∈ L2.HK.resv) = false := by simpa using hr
      rw [hr']
      rfl
    refine ⟨_, rfl, x, rfl, for_it walk_str (fun i σ H' => H' = H ∧ (∃ v : Option V, σ = [some (.str x), v]) ∧ (x.cps.toList.take i).all isSig = true) ⟨rfl, ⟨none, rfl⟩, by simp⟩ (fun _ _ _ _ _ => trivial) ?_ ?_⟩
    · rintro i y σ H' H'' hi ⟨rfl, ⟨v, rfl⟩, hp⟩ ⟨rfl, c, hc, rfl⟩
      refine ⟨_, rfl, c, _, rfl, rfl, _, rfl, ?_⟩
      rw [in_let]
      have step := all_pre (f := isSig) hc hp
      refine ite2 (fun h1 => ⟨_, rfl, c, _, rfl, rfl, _, rfl, ?_⟩) fun h1 => iteF ⟨rfl, ⟨_, rfl⟩, ?_⟩
      · rw [in_dig]
        refine ite2 (fun h2 => ?_) fun h2 => ⟨rfl, ⟨_, rfl⟩, ?_⟩
        · have e : isSig c = false := by
            unfold isSig
            have q1 : isLow c = false := by simpa using h1
            have q2 : isDig c = false := by simpa using h2
            rw [q1, q2]
            rfl
          rw [base4, all_no hc e] at k
          exact k
        · rw [step]
          unfold isSig
          have q2 : isDig c = true := by simpa using h2
          rw [q2]
          simp
      · rw [step]
        unfold isSig
        have q1 : isLow c = true := by simpa using h1
        rw [q1]
        rfl
    · rintro σ H' ⟨rfl, ⟨v, rfl⟩, hp⟩
      have e : nameW x = true := by
        rw [base4]
        have z : x.cps.toList.take x.cps.size = x.cps.toList := List.take_of_length_le (by simp)
        rw [z] at hp
        exact hp
      rw [e] at k
      exact k
theorem numW_no {x : Str} (h : numB x = false) : numW x = none := by
  unfold numW
  rw [h, if_neg Bool.false_ne_true]
theorem zero_one (c : Nat) : decide (V.str ⟨#[c]⟩ = V.str "0") = decide (c = 48) := one_eq (by decide +kernel)
theorem numb_mid {x : Str} (h0 : ¬ (x.length == 0) = true) (h4 : x.length ≤ 4) : numB x = (x.cps.toList.all isDig && !(decide (hd x = 48) && decide (1 < x.length))) := by
  have h0' : (x.length == 0) = false := by simpa using h0
  unfold numB
  rw [h0', decide_eq_true h4]
  rfl
theorem all_full {x : Str} {f : Nat → Bool} (h : (x.cps.toList.take x.cps.size).all f = true) : x.cps.toList.all f = true := by
  have z : x.cps.toList.take x.cps.size = x.cps.toList := List.take_of_length_le (by simp)
  rw [z] at h
  exact h
theorem scNumber : FnScope ["word", "sign"] ["word"] (defScope sNumber) := ⟨rfl, rfl, rfl, by decide +kernel, rfl, by decide +kernel, by decide +kernel⟩
theorem ok_number {f : Addr} {fd : FuncData} (F : Fun K "number_of" "number_of" sNumber f fd) (T : TNm K mg) : FnOk P w K mg base CX0 1 f fd ["word"] spNumber := by
  refine F.ok scNumber (fun vs H Q E h => ?_) (fun cdv A outer s H vs Q E hr h => ?_)
  · obtain ⟨x, rfl, _⟩ := h
    rfl
  · obtain ⟨x, rfl, hx, k⟩ := h
    obtain ⟨td, gd⟩ := T.digits
    obtain ⟨ts, gs⟩ := T.numbs
    refine ⟨_, pss_cons (ps_if (PW.pt (pw_or (pt_cmpR op_eq (pv 0) pe_str (nomark _)) (pw_or1 (pt_cmpR op_gt (pe_callB call_len_str (by rfl) T.len PySem.boot_len (pa_cons (pv 0) pa_nil)) (pgI gs) (nomark _))))) (pss_one (ps_ret pe_non)) pss_nil)
      (pss_cons (ps_for PassesOwn.never rfl (pi_str (pv 0)) (pg_name (i := 1) scNumber.nd rfl (Or.inl rfl))
        (pss_one (ps_if (pt_cmpR op_notIn_sign (pv 1) (pgS gd) (by rfl)) (pss_one (ps_ret pe_non)) pss_nil)))
      (pss_cons (ps_if (PW.pt (pw_and (pt_cmpR op_eq (pe_ix ix_str (pv 0) pe_int (fun _ _ => rfl)) pe_str (nomark _)) (pw_and1 (pt_cmpR op_gt (pe_callB call_len_str (by rfl) T.len PySem.boot_len (pa_cons (pv 0) pa_nil)) pe_int (nomark _))))) (pss_one (ps_ret pe_non)) pss_nil)
      (pss_one (ps_ret (pe_callTy call_int_str (by rfl) T.int boot_int (pa_cons (pv 0) pa_nil)))))), ?_⟩
    refine ⟨_, rfl, rfl, _, rfl, ?_⟩
    rw [len0]
    refine ite2 (fun h0 => iteT ?_) fun h0 => ?_
    · have e : numB x = false := by unfold numB; rw [h0]; rfl
      rw [numW_no e] at k
      exact k
    refine ⟨_, rfl, x, rfl, hx, _, _, rfl, rfl, _, rfl, ite2 (fun h4 => ?_) fun h4 => ?_⟩
    · have e : numB x = false := by
        have q : ¬ x.length ≤ 4 := by have := of_decide_eq_true h4; omega
        unfold numB
        rw [decide_eq_false q]
        simp
      rw [numW_no e] at k
      exact k
    have h4' : x.length ≤ 4 := by
      have q : ¬ decide ((4 : Int) < (x.length : Int)) = true := h4
      rw [decide_eq_true_eq] at q
      omega
    have mid := numb_mid h0 h4'
    refine ⟨_, rfl, x, rfl, for_it walk_str (fun i σ H' => H' = H ∧ (∃ v : Option V, σ = [some (.str x), v]) ∧ (x.cps.toList.take i).all isDig = true) ⟨rfl, ⟨none, rfl⟩, by simp⟩ (fun _ _ _ _ _ => trivial) ?_ ?_⟩
    · rintro i y σ H' H'' hi ⟨rfl, ⟨v, rfl⟩, hp⟩ ⟨rfl, c, hc, rfl⟩
      refine ⟨_, rfl, c, _, rfl, rfl, _, rfl, ?_⟩
      rw [in_dig]
      have step := all_pre (f := isDig) hc hp
      refine ite2 (fun h2 => ?_) fun h2 => ⟨rfl, ⟨_, rfl⟩, ?_⟩
      · have q2 : isDig c = false := by simpa using h2
        have e : numB x = false := by rw [mid, all_no hc q2]; rfl
        rw [numW_no e] at k
        exact k
      · rw [step]
        simpa using h2
    · rintro σ H' ⟨rfl, ⟨v, rfl⟩, hp⟩
      have ha := all_full hp
      have fin : (!(decide (hd x = 48) && decide (1 < x.length))) = true → ∃ n, PySem.intText? x = some n ∧ numW x = some n := fun z => by
        have e : numB x = true := by rw [mid, ha, z]; rfl
        refine ⟨_, int_num e, ?_⟩
        unfold numW
        rw [if_pos e]
      have out : (!(decide (hd x = 48) && decide (1 < x.length))) = true → tRet (tCB (fun xs H Q => ∃ a n, xs = [.str a] ∧ PySem.intText? a = some n ∧ a.length ≤ 640 ∧ Q (.int n) H) (tCons (tVar 0) tNil)) { nx := fun _ H' => Q .non H', rt := Q } [some (.str x), v] H' := fun z => by
        obtain ⟨n, e1, e2⟩ := fin z
        rw [e2] at k
        exact ⟨_, rfl, x, n, rfl, e1, by omega, k⟩
      refine ⟨_, rfl, x, _, _, rfl, rfl, hx, hd_get h0, rfl, _, rfl, ?_⟩
      rw [zero_one]
      refine ite2 (fun h1 => ⟨_, rfl, x, rfl, hx, _, _, rfl, rfl, _, rfl, ite2 (fun h2 => ?_) fun h2 => ?_⟩) fun h1 => iteF ?_
      · have h2' : 1 < x.length := by have := of_decide_eq_true h2; omega
        have e : numB x = false := by rw [mid, h1, decide_eq_true h2']; simp
        rw [numW_no e] at k
        exact k
      · have h2' : ¬ 1 < x.length := by
          have q : ¬ decide ((1 : Int) < (x.length : Int)) = true := h2
          rw [decide_eq_true_eq] at q
          omega
        exact out (by rw [decide_eq_false h2']; simp)
      · have q1 : decide (hd x = 48) = false := by simpa using h1
        exact out (by rw [q1]; simp)

/-! ### the law's own two -/
abbrev sNameW : Stmt := top 31
abbrev sNumW : Stmt := top 32
def spNameW : Sp := fun vs H Q _ => ∃ x : Str, vs = [.str x] ∧ x.length ≤ sizeLine ∧ ∀ H', Same H H' → Q (.bl (nameW x)) H'
def spNumW : Sp := fun vs H Q _ => ∃ x : Str, vs = [.str x] ∧ x.length ≤ sizeLine ∧ Q (.bl (numB x)) H
theorem scNameW : FnScope ["_law_word", "_law_sign"] ["_law_word"] (defScope sNameW) := ⟨rfl, rfl, rfl, by decide +kernel, rfl, by decide +kernel, by decide +kernel⟩
theorem ok_namew {f : Addr} {fd : FuncData} (F : Fun K "_law_name_word" "_law_name_word" sNameW f fd) (T : TNm K mg) : FnOk P w K mg base CX0 1 f fd ["_law_word"] spNameW := by
  refine F.ok scNameW (fun vs H Q E h => ?_) (fun cdv A outer s H vs Q E hr h => ?_)
  · obtain ⟨x, rfl, _⟩ := h
    rfl
  · obtain ⟨x, rfl, hx, k⟩ := h
    refine ⟨_, pss_cons (ps_if (PW.pt (pw_or (pt_cmpR op_lt (pe_callB call_len_str (by rfl) T.len PySem.boot_len (pa_cons (pv 0) pa_nil)) pe_int (nomark _)) (pw_or (pt_cmpR op_gt (pe_callB call_len_str (by rfl) T.len PySem.boot_len (pa_cons (pv 0) pa_nil)) pe_int (nomark _))
        (pw_or (pt_cmpR op_in_seq (pv 0) (pe_lst (pa_cons pe_str (pa_cons pe_str (pa_cons pe_str (pa_cons pe_str (pa_cons pe_str pa_nil)))))) (by rfl)) (pw_or1 (pt_cmpR op_in_sign (pe_ix ix_str (pv 0) pe_int (fun _ _ => rfl)) pe_str (by rfl))))))) (pss_one (ps_ret pe_bl)) pss_nil)
      (pss_cons (ps_for PassesOwn.never rfl (pi_str (pv 0)) (pg_name (i := 1) scNameW.nd rfl (Or.inl rfl))
        (pss_one (ps_if (pt_cmpR op_notIn_sign (pv 1) pe_str (by rfl)) (pss_one (ps_ret pe_bl)) pss_nil)))
      (pss_one (ps_ret pe_bl))), ?_⟩
    refine ⟨_, rfl, x, rfl, hx, _, _, rfl, rfl, _, rfl, ite2 (fun h0 => iteT ?_) fun h0 => ?_⟩
    · have h0' : x.length = 0 := by have := of_decide_eq_true h0; omega
      have e : nameW x = false := by unfold nameW; rw [h0']; rfl
      rw [e] at k
      exact k _ (Same.refl H)
    have h0' : ¬ (x.length == 0) = true := by
      have q : ¬ decide ((x.length : Int) < 1) = true := h0
      rw [decide_eq_true_eq] at q
      rw [beq_iff_eq]
      omega
    refine ⟨_, rfl, x, rfl, hx, _, _, rfl, rfl, _, rfl, ite2 (fun h8 => iteT ?_) fun h8 => ?_⟩
    · have e : nameW x = false := by
        have q : ¬ x.length ≤ 8 := by have := of_decide_eq_true h8; omega
        unfold nameW
        rw [decide_eq_false q]
        simp
      rw [e] at k
      exact k _ (Same.refl H)
    have h8' : x.length ≤ 8 := by
      have q : ¬ decide ((8 : Int) < (x.length : Int)) = true := h8
      rw [decide_eq_true_eq] at q
      omega
    refine ⟨_, rfl, (by show 5 ≤ sizeLine; decide), fun l hl => ?_⟩
    have sm : Same H (upd H l (.lst (L2.HK.resv.map V.str))) := fun b o e => by
      rw [upd_ne (ne_of_none e hl)]
      exact e
    refine ⟨l, L2.HK.resv.map V.str, rfl, .inl (.inl (.inl upd_same)), rfl, by decide +kernel, _, rfl, ?_⟩
    rw [if_neg Bool.false_ne_true, in_resv]
    refine ite2 (fun hr => iteT ?_) fun hr => ?_
    · have e : nameW x = false := by
        unfold nameW
        rw [hr]
        simp
      rw [e] at k
      exact k _ sm
    have hr' : decide (x ∈ L2.HK.resv) = false := by simpa using hr
    refine ⟨_, rfl, x, _, _, rfl, rfl, hx, hd_get h0', _, _, rfl, rfl, _, rfl, ?_⟩
    rw [in_dig]
    have base3 : nameW x = (isLow (hd x) && x.cps.toList.all isSig) := by
      have h0'' : (x.length == 0) = false := by simpa using h0'
      unfold nameW
      rw [h0'', decide_eq_true h8', hr']
      rfl
    refine ite2 (fun hl => ?_) fun hl => ?_
    · have e : nameW x = false := by
        rw [base3]
        have q : isLow (hd x) = false := by
          unfold isDig at hl
          unfold isLow
          rw [Bool.and_eq_true, decide_eq_true_eq, decide_eq_true_eq] at hl
          rw [Bool.and_eq_false_iff, decide_eq_false_iff_not, decide_eq_false_iff_not]
          omega
        rw [q]
        rfl
      rw [e] at k
      exact k _ sm
    have hmem : hd x ∈ x.cps.toList := by
      have q := hd_get h0'
      obtain ⟨j, _, z, _⟩ := atI_get q
      exact List.mem_of_getElem? z
    refine ⟨_, rfl, x, rfl, for_it walk_str (fun i σ H' => H' = upd H l (.lst (L2.HK.resv.map V.str)) ∧ (∃ v : Option V, σ = [some (.str x), v]) ∧ (x.cps.toList.take i).all isSig = true) ⟨rfl, ⟨none, rfl⟩, by simp⟩ (fun _ _ _ _ _ => trivial) ?_ ?_⟩
    · rintro i y σ H' H'' hi ⟨rfl, ⟨v, rfl⟩, hp⟩ ⟨rfl, c, hc, rfl⟩
      refine ⟨_, rfl, c, _, rfl, rfl, _, rfl, ?_⟩
      rw [in_both]
      have step := all_pre (f := isSig) hc hp
      refine ite2 (fun h1 => ?_) fun h1 => ⟨rfl, ⟨_, rfl⟩, ?_⟩
      · have q1 : isSig c = false := by simpa using h1
        have e : nameW x = false := by
          rw [base3, all_no hc q1]
          simp
        rw [e] at k
        exact k _ sm
      · rw [step]
        simpa using h1
    · rintro σ H' ⟨rfl, ⟨v, rfl⟩, hp⟩
      have ha := all_full hp
      have q : isLow (hd x) = true := by
        have z := List.all_eq_true.mp ha _ hmem
        unfold isSig at z
        have q2 : isDig (hd x) = false := by simpa using hl
        rw [q2, Bool.or_false] at z
        exact z
      have e : nameW x = true := by
        rw [base3, ha, q]
        rfl
      rw [e] at k
      exact k _ sm
theorem scNumW : FnScope ["_law_word", "_law_sign"] ["_law_word"] (defScope sNumW) := ⟨rfl, rfl, rfl, by decide +kernel, rfl, by decide +kernel, by decide +kernel⟩
theorem ok_numw {f : Addr} {fd : FuncData} (F : Fun K "_law_number_word" "_law_number_word" sNumW f fd) (T : TNm K mg) : FnOk P w K mg base CX0 1 f fd ["_law_word"] spNumW := by
  refine F.ok scNumW (fun vs H Q E h => ?_) (fun cdv A outer s H vs Q E hr h => ?_)
  · obtain ⟨x, rfl, _⟩ := h
    rfl
  · obtain ⟨x, rfl, hx, k⟩ := h
    refine ⟨_, pss_cons (ps_if (PW.pt (pw_or (pt_cmpR op_lt (pe_callB call_len_str (by rfl) T.len PySem.boot_len (pa_cons (pv 0) pa_nil)) pe_int (nomark _)) (pw_or (pt_cmpR op_gt (pe_callB call_len_str (by rfl) T.len PySem.boot_len (pa_cons (pv 0) pa_nil)) pe_int (nomark _))
        (pw_or1 (PW.pt (pw_and (pt_cmpR op_gt (pe_callB call_len_str (by rfl) T.len PySem.boot_len (pa_cons (pv 0) pa_nil)) pe_int (nomark _)) (pw_and1 (pt_cmpR op_eq (pe_ix ix_str (pv 0) pe_int (fun _ _ => rfl)) pe_str (nomark _))))))))) (pss_one (ps_ret pe_bl)) pss_nil)
      (pss_cons (ps_for PassesOwn.never rfl (pi_str (pv 0)) (pg_name (i := 1) scNumW.nd rfl (Or.inl rfl))
        (pss_one (ps_if (pt_cmpR op_notIn_sign (pv 1) pe_str (by rfl)) (pss_one (ps_ret pe_bl)) pss_nil)))
      (pss_one (ps_ret pe_bl))), ?_⟩
    refine ⟨_, rfl, x, rfl, hx, _, _, rfl, rfl, _, rfl, ite2 (fun h0 => iteT ?_) fun h0 => ?_⟩
    · have h0' : x.length = 0 := by have := of_decide_eq_true h0; omega
      have e : numB x = false := by unfold numB; rw [h0']; rfl
      rw [e] at k
      exact k
    have h0' : ¬ (x.length == 0) = true := by
      have q : ¬ decide ((x.length : Int) < 1) = true := h0
      rw [decide_eq_true_eq] at q
      rw [beq_iff_eq]
      omega
    refine ⟨_, rfl, x, rfl, hx, _, _, rfl, rfl, _, rfl, ite2 (fun h4 => iteT ?_) fun h4 => ?_⟩
    · have e : numB x = false := by
        have q : ¬ x.length ≤ 4 := by have := of_decide_eq_true h4; omega
        unfold numB
        rw [decide_eq_false q]
        simp
      rw [e] at k
      exact k
    have h4' : x.length ≤ 4 := by
      have q : ¬ decide ((4 : Int) < (x.length : Int)) = true := h4
      rw [decide_eq_true_eq] at q
      omega
    have mid := numb_mid h0' h4'
    have rest : (!(decide (hd x = 48) && decide (1 < x.length))) = true → tSeq (tFor (iStr (tVar 0)) (gName 1) (tIfS (tTest (tOp (fun x y H Q => ∃ (c : Nat) (z : Str), x = .str ⟨#[c]⟩ ∧ y = .str z ∧ Q (.bl (!decide (c ∈ z.cps.toList))) H) (tVar 1) (tC (.str DIG)))) (tRet (tC (.bl false))) tNext)) (tRet (tC (.bl true))) { nx := fun _ H' => Q .non H', rt := Q } [some (.str x), none] H := fun z => by
      have e0 : numB x = x.cps.toList.all isDig := by rw [mid, z, Bool.and_true]
      refine ⟨_, rfl, x, rfl, for_it walk_str (fun i σ H' => H' = H ∧ (∃ v : Option V, σ = [some (.str x), v]) ∧ (x.cps.toList.take i).all isDig = true) ⟨rfl, ⟨none, rfl⟩, by simp⟩ (fun _ _ _ _ _ => trivial) ?_ ?_⟩
      · rintro i y σ H' H'' hi ⟨rfl, ⟨v, rfl⟩, hp⟩ ⟨rfl, c, hc, rfl⟩
        refine ⟨_, rfl, c, _, rfl, rfl, _, rfl, ?_⟩
        rw [in_dig]
        have step := all_pre (f := isDig) hc hp
        refine ite2 (fun h1 => ?_) fun h1 => ⟨rfl, ⟨_, rfl⟩, ?_⟩
        · have q1 : isDig c = false := by simpa using h1
          rw [e0, all_no hc q1] at k
          exact k
        · rw [step]
          simpa using h1
      · rintro σ H' ⟨rfl, ⟨v, rfl⟩, hp⟩
        rw [e0, all_full hp] at k
        exact k
    refine ⟨_, rfl, x, rfl, hx, _, _, rfl, rfl, _, rfl, ite2 (fun h2 => ⟨_, rfl, x, _, _, rfl, rfl, hx, hd_get h0', rfl, _, rfl, ?_⟩) fun h2 => iteF ?_⟩
    · rw [zero_one]
      refine ite2 (fun h3 => ?_) fun h3 => ?_
      · have h2' : 1 < x.length := by have := of_decide_eq_true h2; omega
        have e : numB x = false := by rw [mid, h3, decide_eq_true h2']; simp
        rw [e] at k
        exact k
      · have q1 : decide (hd x = 48) = false := by simpa using h3
        exact rest (by rw [q1]; simp)
    · have h2' : ¬ 1 < x.length := by
        have q : ¬ decide ((1 : Int) < (x.length : Int)) = true := h2
        rw [decide_eq_true_eq] at q
        omega
      exact rest (by rw [decide_eq_false h2']; simp)
end
end L2.HK
/-! K4a: _law_box, _law_take. -/
namespace L2.HK
open PySem PySem.Spec PyProof.Rows L2.HR
abbrev sBox : Stmt := top 25
abbrev sTake : Stmt := top 26
/-- the box that numbers are drawn from stands at b -/
def Bx (H : Hp) (b l : Addr) : Prop := ∃ (ns : List Int) (i j k : Int), H b = some (.lst [.int i, .int j, .int k, .ref l]) ∧ H l = some (.lst (ns.map V.int)) ∧ l ≠ b ∧ 0 ≤ j
/-- all but what stands at b is as it was -/
def But (b : Addr) (H H' : Hp) : Prop := ∀ c, c ≠ b → H' c = H c
theorem But.trans {b : Addr} {H H1 H2 : Hp} (h : But b H H1) (k : But b H1 H2) : But b H H2 := fun c n => (k c n).trans (h c n)
theorem But.refl (b : Addr) (H : Hp) : But b H H := fun _ _ => rfl
theorem But.upd {b : Addr} {H : Hp} {o : HO} : But b H (upd H b o) := fun c n => upd_ne n
structure TTk (mg : Str → Option Value) : Prop where
  len : mg "len" = none
  int : mg "int" = none
  abs : mg "abs" = none
  range : mg "range" = none
  str : mg "str" = none
def spBox (K : PySem.W.Frag) : Sp := fun vs H Q _ => ∃ (a : Addr) (ns : List Int), vs = [.ref a] ∧ SqL K H a (ns.map V.int) ∧ ns.length ≤ 63 ∧ ∀ (b l : Addr) (H' : Hp), Same H H' → H b = none → H l = none → Bx H' b l → Q (.ref b) H'
def spTake : Sp := fun vs H Q _ => ∃ (b l : Addr) (n : Int), vs = [.ref b, .int n] ∧ Bx H b l ∧ 0 < n ∧ n < 1073741824 ∧ ∀ (d : Int) (H' : Hp), 0 ≤ d → d < n → Bx H' b l → But b H H' → Q (.int d) H'
theorem same_new {H : Hp} {a : Addr} {o : HO} (h : H a = none) : Same H (upd H a o) := fun b u e => by
  rw [upd_ne (ne_of_none e h)]
  exact e
theorem upd2 {H : Hp} {a : Addr} {o u : HO} : upd (upd H a o) a u = upd H a u := by
  funext b
  by_cases h : b = a
  · rw [h, upd_same, upd_same]
  · rw [upd_ne h, upd_ne h, upd_ne h]
theorem cut63 {α : Type} {xs : List α} (h : xs.length ≤ 63) : (xs.drop (HT.sIx xs.length 0 none)).take (HT.sIx xs.length xs.length (some 63) - HT.sIx xs.length 0 none) = xs := by
  have e2 : HT.sIx xs.length xs.length (some 63) = min 63 xs.length := HT.sIx_nat _ _ 63
  rw [HT.sIx_none, e2]
  rw [List.drop_zero]
  exact List.take_of_length_le (by omega)
section
variable {P : Program} {w : World} {K : PySem.W.Frag} {mg : Str → Option Value} {base : Heap}
theorem scBox : FnScope ["_law_script", "_law_cell"] ["_law_script"] (defScope sBox) := ⟨rfl, rfl, rfl, by decide +kernel, rfl, by decide +kernel, by decide +kernel⟩
theorem ok_box {f : Addr} {fd : FuncData} (F : Fun K "_law_box" "_law_box" sBox f fd) (T : TTk mg) : FnOk P w K mg base CX0 1 f fd ["_law_script"] (spBox K) := by
  refine F.ok scBox (fun vs H Q E h => ?_) (fun cdv A outer s H vs Q E hr h => ?_)
  · obtain ⟨a, ns, rfl, _⟩ := h
    rfl
  · obtain ⟨a, ns, rfl, hS, hl, k⟩ := h
    refine ⟨_, pss_one (ps_ret (pe_lst (pa_cons pe_int (pa_cons pe_int (pa_cons pe_int (pa_cons (pe_lc (own := [("_law_cell", 1)]) (g := gName 1) (tt := tYes) rfl scBox.nd (pi_list (pe_slice sl_list (pv 0) po_none (po_some pe_int)))
      (blkOk_by (N := ["_law_script", "_law_cell"]) (sc := defScope sBox) (by decide +kernel)) (fun _ _ _ _ _ => pg_name (i := 1) scBox.nd rfl (Or.inl rfl)) (fun _ _ _ _ _ => pts_nil)
      (fun _ _ _ _ _ => pe_callTy call_int1 (by rfl) T.int boot_int (pa_cons (pv 1) pa_nil))) pa_nil)))))), ?_⟩
    refine ⟨_, rfl, 63, rfl, a, _, rfl, hS, fun p hp => ?_⟩
    have ec : cutV (ns.map V.int) none (some 63) = ns.map V.int := cut63 (by rw [List.length_map]; exact hl)
    rw [ec]
    refine ⟨p, rfl, ⟨_, SqL.of upd_same⟩, fun D hD => ?_⟩
    have npD : p ≠ D := by
      intro z
      rw [← z, upd_same] at hD
      cases hD
    have hD0 : H D = none := by
      rw [upd_ne npD.symm] at hD
      exact hD
    refine lc_it (walk_list (K := K) (a := p) (xs := ns.map V.int)) (Pv := fun i H' => H' = upd (upd H p (.lst (ns.map V.int))) D (.lst ((ns.take i).map V.int))) ?_ (fun i H' _ e => ?_) ?_ ?_
    · rfl
    · rw [e]
      refine SqL.of ?_
      rw [upd_ne npD]
      exact upd_same
    · rintro i x H' H'' hi rfl ⟨rfl, hx⟩
      obtain ⟨z, hz, rfl⟩ : ∃ z, ns[i]? = some z ∧ x = V.int z := by
        rw [List.getElem?_map] at hx
        cases e : ns[i]? with
        | none => rw [e] at hx; cases hx
        | some z =>
          rw [e] at hx
          exact ⟨z, rfl, (Option.some.inj hx).symm⟩
      refine ⟨rfl, ?_⟩
      unfold tYes
      refine iteT ?_
      refine ⟨_, rfl, .inl ⟨z, rfl, _, upd_same, ?_, ?_⟩⟩
      · rw [List.length_map, List.length_take]
        exact Nat.lt_of_le_of_lt (Nat.min_le_right _ _) (small1000 (by omega))
      · show upd (upd _ D _) D _ = _
        rw [upd2, List.take_add_one, hz, List.map_append]
        rfl
    · rintro H' rfl
      rw [List.length_map, List.take_length]
      refine ⟨(by show 4 ≤ sizeLine; decide), fun b hb => ?_⟩
      have nD : D ≠ b := by
        intro z
        rw [← z, upd_same] at hb
        cases hb
      have np : p ≠ b := by
        intro z
        rw [← z, upd_ne npD, upd_same] at hb
        cases hb
      have hb0 : H b = none := by
        rw [upd_ne nD.symm, upd_ne np.symm] at hb
        exact hb
      refine k b D _ (fun c o e => ?_) hb0 hD0 ⟨ns, 0, 0, 0, upd_same, by rw [upd_ne nD]; exact upd_same, nD, by decide⟩
      rw [upd_ne (ne_of_none e hb0), upd_ne (ne_of_none e hD0), upd_ne (ne_of_none e hp)]
      exact e
/-! ### one draw -/
theorem scTake : FnScope ["_law_box_here", "_law_size", "_law_cell", "_law_digit"] ["_law_box_here", "_law_size"] (defScope sTake) := ⟨rfl, rfl, rfl, by decide +kernel, rfl, by decide +kernel, by decide +kernel⟩
theorem take_tail (T : TTk mg) {f : Addr} (cdv : Value) (A : Around) (outer : List Env) (s : Shared) (H0 : Hp) (E : XK) :
    ∃ t, PSs (cxOf CX0 P w K mg base ["_law_box_here", "_law_size", "_law_cell", "_law_digit"] "_law_take" (defScope sTake) f cdv A outer s H0 E).nox ((defBody sTake).drop 1) t ∧
      ∀ (D : Ends) (b l : Addr) (n : Int) (v : Option V) (H : Hp), Bx H b l → 0 < n → n < 1073741824 → (∀ (d : Int) (H' : Hp), 0 ≤ d → d < n → Bx H' b l → But b H H' → D.rt (.int d) H') → t D [some (.ref b), some (.int n), v, none] H := by
  refine ⟨_, pss_cons (ps_if (pt_cmpR op_gt (pe_ix ix_list (pv 0) pe_int (fun _ _ => rfl)) pe_int (nomark _))
      (pss_cons (ps_set (i := 3) scTake.nd rfl (Or.inl rfl) (pe_op op_mod (pe_callTy call_int1 (by rfl) T.int boot_int (pa_cons (pe_ix ix_list (pv 0) pe_int (fun _ _ => rfl)) pa_nil)) (pv 1)))
      (pss_cons (ps_asg (pe_op op_fdiv (pe_ix ix_list (pv 0) pe_int (fun _ _ => rfl)) (pv 1)) (pg_sub (pv 0) pe_int set_list))
      (pss_one (ps_ret (pv 3))))) pss_nil)
    (pss_cons (ps_asg (pe_op op_mod (pe_callTy call_int1 (by rfl) T.int boot_int (pa_cons (pe_op op_mul (pe_ix ix_list (pv 0) pe_int (fun _ _ => rfl)) pe_int) pa_nil)) pe_int) (pg_sub (pv 0) pe_int set_list))
    (pss_one (ps_ret (pe_op op_mod (pe_callTy call_int1 (by rfl) T.int boot_int (pa_cons (pe_op op_fdiv (pe_op op_mod (pe_callTy call_int1 (by rfl) T.int boot_int (pa_cons (pe_op op_mul (pe_ix ix_list (pv 0) pe_int (fun _ _ => rfl)) pe_int) pa_nil)) pe_int) pe_int) pa_nil)) (pv 1))))), ?_⟩
  intro D b l n v H hB hn hn2 k
  obtain ⟨ns, i, j, q, hb, hl, nlb, hj⟩ := hB
  refine ⟨_, rfl, b, _, 0, _, rfl, rfl, SqL.of hb, atI_nat (j := 0) rfl, _, _, rfl, rfl, _, rfl, ite2 (fun h => ?_) fun h => ?_⟩
  · refine ⟨_, rfl, b, _, 0, _, rfl, rfl, SqL.of hb, atI_nat (j := 0) rfl, .inl ⟨_, rfl, _, rfl, _, _, rfl, rfl, hn, ?_⟩⟩
    refine ⟨_, rfl, b, _, 0, _, rfl, rfl, SqL.of hb, atI_nat (j := 0) rfl, _, rfl, _, _, rfl, rfl, ⟨hn, hn2⟩, ?_⟩
    refine ⟨_, rfl, b, _, 0, 0, rfl, rfl, hb, rfl, ?_⟩
    refine ⟨_, rfl, k _ _ (Int.emod_nonneg _ (by omega)) (Int.emod_lt_of_pos _ hn) ?_ But.upd⟩
    exact ⟨ns, _, j, q, upd_same, by rw [upd_ne nlb]; exact hl, nlb, hj⟩
  · refine ⟨_, rfl, b, _, 2, _, rfl, rfl, SqL.of hb, atI_nat (j := 2) rfl, _, _, rfl, rfl, .inr (by constructor <;> decide), .inl ⟨_, rfl, _, _, rfl, rfl, (by show (0 : Int) < 2147483647; decide), ?_⟩⟩
    refine ⟨_, rfl, b, _, 2, 2, rfl, rfl, hb, rfl, ?_⟩
    refine ⟨_, rfl, b, _, 2, _, rfl, rfl, SqL.of upd_same, atI_nat (j := 2) rfl, _, _, rfl, rfl, .inr (by constructor <;> decide), .inl ⟨_, rfl, _, _, rfl, rfl, (by show (0 : Int) < 2147483629; decide), _, _, rfl, rfl, ⟨by decide, by decide⟩, .inl ⟨_, rfl, _, rfl, _, _, rfl, rfl, hn, ?_⟩⟩⟩
    refine k _ _ (Int.emod_nonneg _ (by omega)) (Int.emod_lt_of_pos _ hn) ?_ But.upd
    exact ⟨ns, i, j, _, upd_same, by rw [upd_ne nlb]; exact hl, nlb, hj⟩
theorem ok_take {f : Addr} {fd : FuncData} (F : Fun K "_law_take" "_law_take" sTake f fd) (T : TTk mg) : FnOk P w K mg base CX0 1 f fd ["_law_box_here", "_law_size"] spTake := by
  refine F.ok scTake (fun vs H Q E h => ?_) (fun cdv A outer s H vs Q E hr h => ?_)
  · obtain ⟨b, l, n, rfl, _⟩ := h
    rfl
  · obtain ⟨b, l, n, rfl, hB, hn, hn2, k⟩ := h
    obtain ⟨t2, h2, r2⟩ := take_tail (P := P) (w := w) (K := K) (base := base) T (f := f) cdv A outer s H E
    refine ⟨_, pss_cons (ps_if (PW.pt (pw_and (pt_cmpR op_eq (pe_ix ix_list (pv 0) pe_int (fun _ _ => rfl)) pe_int (nomark _)) (pw_and1 (pt_cmpR op_lt (pe_ix ix_list (pv 0) pe_int (fun _ _ => rfl))
          (pe_callB call_len_seq (by rfl) T.len PySem.boot_len (pa_cons (pe_ix ix_list (pv 0) pe_int (fun _ _ => rfl)) pa_nil)) (nomark _)))))
        (pss_cons (ps_set (i := 2) scTake.nd rfl (Or.inl rfl) (pe_callB call_abs (by rfl) T.abs boot_abs (pa_cons (pe_ix ix_list (pe_ix ix_list (pv 0) pe_int (fun _ _ => rfl)) (pe_ix ix_list (pv 0) pe_int (fun _ _ => rfl)) (fun _ _ => rfl)) pa_nil)))
        (pss_cons (ps_asg (pe_op op_add (pe_ix ix_list (pv 0) pe_int (fun _ _ => rfl)) pe_int) (pg_sub (pv 0) pe_int set_list))
        (pss_one (ps_if (pt_cmpR op_ge (pv 2) (pe_op op_pow pe_int pe_int) (nomark _))
          (pss_one (ps_asg (pv 2) (pg_sub (pv 0) pe_int set_list)))
          (pss_one (ps_asg (pe_op op_mod (pe_callTy call_int1 (by rfl) T.int boot_int (pa_cons (pe_op op_add (pe_op op_add (pe_op op_mul (pe_ix ix_list (pv 0) pe_int (fun _ _ => rfl)) pe_int) (pv 2)) pe_int) pa_nil)) pe_int) (pg_sub (pv 0) pe_int set_list))))))) pss_nil) h2, ?_⟩
    obtain ⟨ns, i, j, q, hb, hl, nlb, hj⟩ := id hB
    obtain ⟨m, rfl⟩ : ∃ m : Nat, j = (m : Int) := ⟨j.toNat, by omega⟩
    refine ⟨_, rfl, b, _, 0, _, rfl, rfl, SqL.of hb, atI_nat (j := 0) rfl, rfl, _, rfl, ite2 (fun h => ?_) fun h => iteF (r2 _ b l n none H hB hn hn2 k)⟩
    refine ⟨_, rfl, b, _, 1, _, rfl, rfl, SqL.of hb, atI_nat (j := 1) rfl, _, rfl, b, _, 3, _, rfl, rfl, SqL.of hb, atI_nat (j := 3) rfl, l, _, rfl, .inl (SqL.of hl), _, _, rfl, rfl, _, rfl, ite2 (fun h2 => ?_) fun h2 => r2 _ b l n none H hB hn hn2 k⟩
    have hm : m < ns.length := by
      have z := of_decide_eq_true h2
      rw [List.length_map] at z
      omega
    refine ⟨_, rfl, b, _, 3, _, rfl, rfl, SqL.of hb, atI_nat (j := 3) rfl, _, rfl, b, _, 1, _, rfl, rfl, SqL.of hb, atI_nat (j := 1) rfl, l, _, _, _, rfl, rfl, SqL.of hl, atI_nat (j := m) (v := V.int ns[m]) (by rw [List.getElem?_map, List.getElem?_eq_getElem hm]; rfl), _, rfl, ?_⟩
    refine ⟨_, rfl, b, _, 1, _, rfl, rfl, SqL.of hb, atI_nat (j := 1) rfl, _, _, rfl, rfl, _, rfl, b, _, 1, 1, rfl, rfl, hb, rfl, ?_⟩
    refine ⟨_, rfl, _, _, rfl, rfl, ⟨by decide, by decide, by decide⟩, _, _, rfl, rfl, _, rfl, ite2 (fun h3 => ?_) fun h3 => ?_⟩
    · refine ⟨_, rfl, _, rfl, b, _, 0, 0, rfl, rfl, upd_same, rfl, ?_⟩
      refine r2 _ b l n _ _ ⟨ns, _, ((m : Int) + 1), q, upd_same, by rw [upd_ne nlb, upd_ne nlb]; exact hl, nlb, by omega⟩ hn hn2 fun d H' h0 h1 hB' hk => k d H' h0 h1 hB' ((But.upd.trans But.upd).trans hk)
    · refine ⟨_, rfl, b, _, 2, _, rfl, rfl, SqL.of upd_same, atI_nat (j := 2) rfl, _, _, rfl, rfl, .inr (by constructor <;> decide), _, rfl, _, _, rfl, rfl, _, _, rfl, rfl, .inl ⟨_, rfl, _, _, rfl, rfl, (by show (0 : Int) < 2147483647; decide), _, rfl, b, _, 2, 2, rfl, rfl, upd_same, rfl, ?_⟩⟩
      refine r2 _ b l n _ _ ⟨ns, i, ((m : Int) + 1), _, upd_same, by rw [upd_ne nlb, upd_ne nlb]; exact hl, nlb, by omega⟩ hn hn2 fun d H' h0 h1 hB' hk => k d H' h0 h1 hB' ((But.upd.trans But.upd).trans hk)
end
end L2.HK
/-! K4b: _law_bool, _law_names. -/
namespace L2.HK
open PySem PySem.Spec PyProof.Rows L2.HR
/-! ### a def as its callers see it -/
structure Cal (P : Program) (w : World) (K : PySem.W.Frag) (mg : Str → Option Value) (base : Heap) (CX : CXT) (k : Nat) (x : Str) (ps : List Str) (sp : Sp) : Prop where
  ex : ∃ (f : Addr) (fd : FuncData), FnOk P w K mg base CX k f fd ps sp ∧ mg x = some (.ref f) ∧ PySem.W.keepIn K (.ref f) = true ∧ Binds K fd ps []
section
variable {X : Cx} {CX : CXT} {k : Nat} {x : Str} {ps : List Str} {sp : Sp} {E : XK} {p pos : Pos} {e : Expr} {es : List Expr} {t : TA}
theorem pe_cal (C : Cal X.prog X.w X.K X.mg X.base CX k x ps sp) (hr : Room k X.A) (hx : Passes CX X E) (ha : PA X (e :: es) t) (hg : Gl X x := by rfl) (hdb : (x == ("__debug__" : Str)) = false := by decide)
    (he : starEach (e :: es) X.env = (false, eval e X.env) :: starEach es X.env := by rfl) (hpl : (backTo pos (starEach es X.env)).any (·.1) = false := by rfl) : PE X (.Call (.Name x p) (e :: es) [] pos) (tCall sp [] E t) := by
  obtain ⟨f, fd, F, hm, hk, hb⟩ := C.ex
  exact pe_call F hr hg hm hk hb .nil hx ha hdb he hpl
/-- a text n times over -/
theorem op_mulS : OpR X (binaryOp .Mult) (fun x y H Q => ∃ (z : Str) (n : Int), x = .str z ∧ y = .int n ∧ z.length ≤ 100 ∧ 0 ≤ n ∧ n ≤ 1000 ∧ Q (.str (Txt.mul z n)) H) := by
  intro pins s σ H x y v u Q I rx ry h
  obtain ⟨z, n, rfl, rfl, hz, h0, h1, q⟩ := h
  obtain ⟨t, rfl⟩ := rx
  obtain ⟨t', rfl⟩ := ry
  exact SB.mul (mulOk_of 100 1000 hz (by exact_mod_cast h1) (by omega) (by decide) (by decide)) fun t2 k => ⟨.str (Txt.mul z n), H, I.tok _, ⟨t2, rfl⟩, q⟩
end
abbrev sBool : Stmt := top 24
abbrev sNames : Stmt := top 27
abbrev sRow : Stmt := top 28
def spBool : Sp := fun vs H Q _ => ∃ p q : Bool, vs = [.bl p, .bl q] ∧ Q (.bl (p == q)) H
/-- everything but the box stands -/
def Kp (b : Addr) (H H' : Hp) : Prop := ∀ c o, H c = some o → c ≠ b → H' c = some o
theorem Kp.refl (b : Addr) (H : Hp) : Kp b H H := fun _ _ e _ => e
theorem Kp.trans {b : Addr} {H H1 H2 : Hp} (h : Kp b H H1) (k : Kp b H1 H2) : Kp b H H2 := fun c o e n => k c o (h c o e n) n
theorem Kp.of {b : Addr} {H H' : Hp} (h : But b H H') : Kp b H H' := fun c o e n => (h c n).trans e
theorem Kp.new {b p : Addr} {H : Hp} {o : HO} (h : H p = none) : Kp b H (upd H p o) := fun c u e _ => same_new h c u e
theorem Bx.at {H : Hp} {b l : Addr} (B : Bx H b l) : H b ≠ none ∧ H l ≠ none ∧ l ≠ b := by
  obtain ⟨_, _, _, _, e, el, n, _⟩ := B
  exact ⟨by rw [e]; exact (fun z => nomatch z), by rw [el]; exact (fun z => nomatch z), n⟩
theorem Bx.free {H : Hp} {b l p : Addr} (B : Bx H b l) (h : H p = none) : p ≠ b ∧ p ≠ l :=
  ⟨fun z => B.at.1 (by rw [← z]; exact h), fun z => B.at.2.1 (by rw [← z]; exact h)⟩
theorem Bx.put {H : Hp} {b l p : Addr} {o : HO} (B : Bx H b l) (n : p ≠ b) (n2 : p ≠ l) : Bx (upd H p o) b l := by
  obtain ⟨ns, i, j, q, e, el, nl, hj⟩ := B
  exact ⟨ns, i, j, q, by rw [upd_ne n.symm]; exact e, by rw [upd_ne n2.symm]; exact el, nl, hj⟩
theorem Bx.new {H : Hp} {b l p : Addr} {o : HO} (B : Bx H b l) (h : H p = none) : Bx (upd H p o) b l := B.put (B.free h).1 (B.free h).2
def spNames : Sp := fun vs H Q _ => ∃ b l : Addr, vs = [.ref b, .int 4] ∧ Bx H b l ∧ ∀ (p : Addr) (ys : List Str) (H' : Hp), ys.length = 4 → (∀ y ∈ ys, NameS y) → H p = none → H' p = some (.lst (ys.map V.str)) → Bx H' b l → Kp b H H' → Q (.ref p) H'
section
variable {P : Program} {w : World} {K : PySem.W.Frag} {mg : Str → Option Value} {base : Heap}
theorem scBool : FnScope ["_law_answer", "_law_expected"] ["_law_answer", "_law_expected"] (defScope sBool) := ⟨rfl, rfl, rfl, by decide +kernel, rfl, by decide +kernel, by decide +kernel⟩
theorem ok_bool {f : Addr} {fd : FuncData} (F : Fun K "_law_bool" "_law_bool" sBool f fd) (hi : mg "isinstance" = none) (hb : mg "bool" = none) : FnOk P w K mg base CX0 1 f fd ["_law_answer", "_law_expected"] spBool := by
  refine F.ok scBool (fun vs H Q E h => ?_) (fun cdv A outer s H vs Q E hr h => ?_)
  · obtain ⟨p, q, rfl, _⟩ := h
    rfl
  · obtain ⟨p, q, rfl, k⟩ := h
    refine ⟨_, pss_one (ps_ret (pe_and (pe_callB call_isi (by rfl) hi boot_isinstance (pa_cons (pv 0) (pa_cons (pe_bltn (v := .ty "bool") (by rfl) hb boot_bool rfl) pa_nil))) (pe_one (pe_cmpR op_eq (pv 0) (pv 1) (nomark _))))), ?_⟩
    refine ⟨_, rfl, _, _, _, _, true, rfl, .ty "bool", .base (.bl p), kit_ty (by decide +kernel), _, rfl, iteT ⟨_, rfl, _, rfl, rfl, ?_⟩⟩
    have e : decide (V.bl p = V.bl q) = (p == q) := by
      rw [Bool.eq_iff_iff, decide_eq_true_eq, beq_iff_eq]
      exact ⟨fun h => by injection h, fun h => by rw [h]⟩
    show Q (V.bl (decide (V.bl p = V.bl q))) H
    rw [e]
    exact k
/-! ### the names drawn -/
def tails : List Str := ["", "q", "zz", "andy"]
theorem tails_sig : ∀ t ∈ tails, t.cps.toList.all isSig = true ∧ t.length ≤ 4 := by decide +kernel
theorem resv_low : ∀ t ∈ L2.HK.resv, t.cps.toList.all isLow = true := by decide +kernel
theorem name_ok {c m d : Nat} {t : Str} (hc : isLow c = true) (hm : m ≤ 2) (hd' : d < 10) (ht : t ∈ tails) : NameS (((⟨#[c]⟩ : Str) ++ Txt.mul ⟨#[c]⟩ (m : Int) ++ nS (d : Int)) ++ t) := by
  have e : (((⟨#[c]⟩ : Str) ++ Txt.mul ⟨#[c]⟩ (m : Int) ++ nS (d : Int)) ++ t).cps.toList = c :: (List.replicate m c ++ ([48 + d] ++ t.cps.toList)) := by
    show TL.tl _ = _
    rw [TL.tl_append, TL.tl_append, TL.tl_append]
    have e1 : TL.tl (⟨#[c]⟩ : Str) = [c] := rfl
    have e2 : TL.tl (Txt.mul ⟨#[c]⟩ (m : Int)) = List.replicate m c := by
      have q := mul_one_list c (m : Int)
      rw [Int.toNat_natCast] at q
      exact q
    have e3 : TL.tl (nS (d : Int)) = [48 + d] := by
      have q : TL.tl (nS (d : Int)) = TL.numL d := TL.tl_num d
      rw [q, TL.numL_lt hd']
    rw [e1, e2, e3]
    simp [TL.tl]
  obtain ⟨s1, s2⟩ := tails_sig t ht
  have hdig : isDig (48 + d) = true := by
    unfold isDig
    rw [Bool.and_eq_true, decide_eq_true_eq, decide_eq_true_eq]
    omega
  have hlen : (((⟨#[c]⟩ : Str) ++ Txt.mul ⟨#[c]⟩ (m : Int) ++ nS (d : Int)) ++ t).length = 1 + (m + (1 + t.length)) := by
    rw [TL.len_tl]
    show (((⟨#[c]⟩ : Str) ++ Txt.mul ⟨#[c]⟩ (m : Int) ++ nS (d : Int)) ++ t).cps.toList.length = _
    rw [e, List.length_cons, List.length_append, List.length_replicate, List.length_append]
    have q : t.cps.toList.length = t.length := (TL.len_tl t).symm
    rw [q]
    simp only [List.length_cons, List.length_nil]
    omega
  generalize hx : (((⟨#[c]⟩ : Str) ++ Txt.mul ⟨#[c]⟩ (m : Int) ++ nS (d : Int)) ++ t) = x at e hlen
  have n0 : (x.length == 0) = false := by
    rw [hlen, beq_eq_false_iff_ne]
    omega
  have n8 : x.length ≤ 8 := by omega
  have nr : ¬ x ∈ L2.HK.resv := by
    intro z
    have q := List.all_eq_true.mp (resv_low x z) (48 + d) (by rw [e]; simp)
    unfold isLow at q
    rw [Bool.and_eq_true, decide_eq_true_eq, decide_eq_true_eq] at q
    omega
  have hh : hd x = c := by
    unfold hd
    rw [e]
    rfl
  have ha : x.cps.toList.all isSig = true := by
    rw [e, List.all_cons, List.all_append, List.all_append, s1]
    have q1 : isSig c = true := by
      unfold isSig
      rw [hc]
      rfl
    have q2 : isSig (48 + d) = true := by
      unfold isSig
      rw [hdig, Bool.or_true]
    have q3 : (List.replicate m c).all isSig = true := List.all_eq_true.mpr fun y hy => by rw [(List.mem_replicate.mp hy).2]; exact q1
    rw [q1, q3, List.all_cons, q2]
    rfl
  unfold NameS nameW
  rw [n0, decide_eq_true n8, decide_eq_false nr, hh, hc, ha]
  rfl
theorem let_at {i : Nat} (h : i < 26) : LET.cps.toList[i]? = some (97 + i) := by
  rw [let_tl, List.getElem?_map, List.getElem?_range h]
  rfl
theorem low_at {i : Nat} (h : i < 26) : isLow (97 + i) = true := by
  unfold isLow
  rw [Bool.and_eq_true, decide_eq_true_eq, decide_eq_true_eq]
  omega
abbrev NN : List Str := ["_law_box_here", "_law_count", "_law_shift", "_law_place", "_law_alike", "_law_names_here", "_law_k", "_law_letter", "_law_tail"]
theorem scNames : FnScope NN ["_law_box_here", "_law_count"] (defScope sNames) := ⟨rfl, rfl, rfl, by decide +kernel, rfl, by decide +kernel, by decide +kernel⟩
theorem draw_in {d a n : Int} (h0 : 0 ≤ d) (h1 : d < n) (ha : a = 0 ∨ a = 1) : ∃ j : Nat, d * (1 - a) = (j : Int) ∧ (j : Int) < n := by
  rcases ha with rfl | rfl
  · exact ⟨d.toNat, by rw [show (1 : Int) - 0 = 1 by decide, Int.mul_one]; omega, by omega⟩
  · exact ⟨0, by rw [show (1 : Int) - 1 = 0 by decide, Int.mul_zero]; rfl, by show (0 : Int) < n; omega⟩
theorem ok_names {f : Addr} {fd : FuncData} (F : Fun K "_law_names" "_law_names" sNames f fd) (T : TTk mg) (C : Cal P w K mg base CX0 1 "_law_take" ["_law_box_here", "_law_size"] spTake) : FnOk P w K mg base CX0 2 f fd ["_law_box_here", "_law_count"] spNames := by
  refine F.ok scNames (fun vs H Q E h => ?_) (fun cdv A outer s H vs Q E hr h => ?_)
  · obtain ⟨b, l, rfl, _⟩ := h
    rfl
  · obtain ⟨b, l, rfl, hB, k⟩ := h
    refine ⟨_, pss_cons (ps_set (i := 2) scNames.nd rfl (Or.inl rfl) (pe_cal C hr pass0 (pa_cons (pv 0) (pa_cons pe_int pa_nil))))
      (pss_cons (ps_set (i := 3) scNames.nd rfl (Or.inl rfl) (pe_cal C hr pass0 (pa_cons (pv 0) (pa_cons pe_int pa_nil))))
      (pss_cons (ps_set (i := 4) scNames.nd rfl (Or.inl rfl) (pe_cmpR op_eq (pe_cal C hr pass0 (pa_cons (pv 0) (pa_cons pe_int pa_nil))) pe_int (nomark _)))
      (pss_cons (ps_set (i := 5) scNames.nd rfl (Or.inl rfl) (pe_lst pa_nil))
      (pss_cons (ps_for PassesOwn.never rfl (pi_range1 (by rfl) T.range (pa_cons (pv 1) pa_nil)) (pg_name (i := 6) scNames.nd rfl (Or.inl rfl))
        (pss_cons (ps_set (i := 7) scNames.nd rfl (Or.inl rfl) (pe_ix ix_str pe_str (pe_callTy call_int1 (by rfl) T.int boot_int (pa_cons (pe_op op_mul (pe_cal C hr pass0 (pa_cons (pv 0) (pa_cons pe_int pa_nil))) (pe_op op_sub pe_int (pe_callTy call_int1 (by rfl) T.int boot_int (pa_cons (pv 4) pa_nil)))) pa_nil)) (fun _ _ => rfl)))
        (pss_cons (ps_set (i := 8) scNames.nd rfl (Or.inl rfl) (pe_ix ix_list (pe_lst (pa_cons pe_str (pa_cons pe_str (pa_cons pe_str (pa_cons pe_str pa_nil))))) (pe_callTy call_int1 (by rfl) T.int boot_int (pa_cons (pe_op op_mul (pe_cal C hr pass0 (pa_cons (pv 0) (pa_cons pe_int pa_nil))) (pe_op op_sub pe_int (pe_callTy call_int1 (by rfl) T.int boot_int (pa_cons (pv 4) pa_nil)))) pa_nil)) (fun _ _ => rfl)))
        (pss_one (ps_expr (pe_bm PySem.F.plainAttrs_list PySem.F.slot_list_append PySem.F.type_list_append mt_append (pv 5)
          (pa_cons (pe_op op_add_str (pe_op op_add_str (pe_op op_add_str (pv 7) (pe_op op_mulS (pv 7) (pv 3))) (pe_callTy call_str_int (by rfl) T.str boot_str (pa_cons (pe_op op_mod (pe_callTy call_int1 (by rfl) T.int boot_int (pa_cons (pe_op op_add (pe_op op_mul (pv 6) pe_int) (pv 2)) pa_nil)) pe_int) pa_nil))) (pv 8)) pa_nil)))))))
      (pss_one (ps_ret (pv 5))))))), ?_⟩
    refine ⟨_, rfl, b, l, 10, rfl, hB, by decide, by decide, fun shift H1 s0 s1 B1 k1 => ?_⟩
    refine ⟨_, rfl, b, l, 3, rfl, B1, by decide, by decide, fun place H2 p0 p1 B2 k2 => ?_⟩
    refine ⟨_, rfl, b, l, 2, rfl, B2, by decide, by decide, fun al H3 a0 a1 B3 k3 => ⟨rfl, ?_⟩⟩
    refine ⟨(by show 0 ≤ sizeLine; decide), fun p hp => ?_⟩
    obtain ⟨npb, npl⟩ := B3.free hp
    have hp0 : H p = none := by
      rw [← k1 p npb, ← k2 p npb, ← k3 p npb]
      exact hp
    have kall : Kp b H H3 := (Kp.of k1).trans ((Kp.of k2).trans (Kp.of k3))
    generalize hal : decide (V.int al = V.int 1) = alike
    have hai : (if alike = true then (1 : Int) else 0) = 0 ∨ (if alike = true then (1 : Int) else 0) = 1 := by cases alike <;> simp
    refine ⟨_, rfl, 4, rfl, by decide, by decide, for_range (n := 4) (fun i σ H' => ∃ (ys : List Str) (v6 v7 v8 : Option V), σ = [some (.ref b), some (.int 4), some (.int shift), some (.int place), some (.bl alike), some (.ref p), v6, v7, v8] ∧
      ys.length = i ∧ (∀ y ∈ ys, NameS y) ∧ H' p = some (.lst (ys.map V.str)) ∧ Bx H' b l ∧ Kp b H H') ?_ ?_ ?_⟩
    · refine ⟨[], none, none, none, rfl, rfl, by simp, upd_same, B3.new hp, kall.trans (Kp.new hp)⟩
    · rintro i σ H' hi ⟨ys, v6, v7, v8, rfl, hl, hn, hp', hB', hk⟩
      have idx : ∀ {z : Int} {q : Nat}, z = (q : Int) → ∀ {xs : List Nat} {c : Nat}, xs[q]? = some c → atI xs z = some c := fun e _ _ h => by rw [e]; exact atI_nat h
      -- the letter
      refine ⟨_, rfl, b, l, 26, rfl, hB', by decide, by decide, fun d1 H4 d10 d11 B4 k4 => ?_⟩
      obtain ⟨j, ej, hj⟩ := draw_in d10 d11 hai
      have hj' : j < 26 := by omega
      refine ⟨_, rfl, .inr ⟨_, rfl, _, _, rfl, rfl, _, _, rfl, rfl, .inl (by omega), .inl ⟨_, rfl, _, _, 97 + j, rfl, rfl, by decide +kernel, idx ej (let_at hj'), ?_⟩⟩⟩
      have p4 : H4 p = some (.lst (ys.map V.str)) := (k4 p npb).trans hp'
      -- the tail
      refine ⟨(by show 4 ≤ sizeLine; decide), fun m hm => ?_⟩
      have B5 : Bx (upd H4 m _) b l := B4.new (o := .lst [.str "", .str "q", .str "zz", .str "andy"]) hm
      have nmp : m ≠ p := by
        intro z
        rw [z, p4] at hm
        cases hm
      obtain ⟨nmb, nml⟩ := B4.free hm
      refine ⟨_, rfl, b, l, 4, rfl, B5, by decide, by decide, fun d2 H6 d20 d21 B6 k6 => ?_⟩
      obtain ⟨j2, ej2, hj2⟩ := draw_in d20 d21 hai
      have hj2' : j2 < tails.length := by show j2 < 4; omega
      have m6 : H6 m = some (.lst (tails.map V.str)) := (k6 m nmb).trans upd_same
      refine ⟨_, rfl, .inr ⟨_, rfl, _, _, rfl, rfl, _, _, rfl, rfl, .inl (by omega), .inl ⟨_, rfl, m, _, _, V.str tails[j2], rfl, rfl, SqL.of m6, ?_, ?_⟩⟩⟩
      · rw [ej2]
        exact atI_nat (by rw [List.getElem?_map, List.getElem?_eq_getElem hj2']; rfl)
      -- the name
      have p6 : H6 p = some (.lst (ys.map V.str)) := (k6 p npb).trans (by rw [upd_ne nmp.symm]; exact p4)
      obtain ⟨m3, rfl⟩ : ∃ m3 : Nat, place = (m3 : Int) := ⟨place.toNat, by omega⟩
      have d0 : 0 ≤ ((0 + (i : Int)) * 7 + shift) % 10 := Int.emod_nonneg _ (by decide)
      have d1' : ((0 + (i : Int)) * 7 + shift) % 10 < 10 := Int.emod_lt_of_pos _ (by decide)
      obtain ⟨dg, edg⟩ : ∃ dg : Nat, ((0 + (i : Int)) * 7 + shift) % 10 = (dg : Int) := ⟨_, (Int.toNat_of_nonneg d0).symm⟩
      have nok := name_ok (c := 97 + j) (m := m3) (d := dg) (t := tails[j2]) (low_at hj') (by omega) (by omega) (List.getElem_mem hj2')
      have hn8 := len_name nok
      have l1 : (⟨#[97 + j]⟩ : Str).length = 1 := rfl
      have lm : (Txt.mul ⟨#[97 + j]⟩ (m3 : Int)).length = m3 := by
        have q := mul_one_list (97 + j) (m3 : Int)
        rw [Int.toNat_natCast] at q
        rw [TL.len_tl]
        show (Txt.mul ⟨#[97 + j]⟩ (m3 : Int)).cps.toList.length = m3
        rw [q, List.length_replicate]
      have ld : (nS (dg : Int)).length ≤ 4 := len_nS ⟨by omega, by omega⟩
      have lt : (tails[j2]).length ≤ 4 := (tails_sig _ (List.getElem_mem hj2')).2
      have ap : ∀ x y : Str, (x ++ y).length = x.length + y.length := fun x y => by rw [TL.len_tl, TL.tl_append, List.length_append, ← TL.len_tl, ← TL.len_tl]
      have sl : (1000 : Nat) ≤ sizeLine := by decide
      refine ⟨_, rfl, .inl ⟨rfl, _, SqL.of p6⟩, _, rfl, _, rfl, _, rfl, _, _, rfl, rfl, (by rw [l1]; decide), (by omega), (by omega), _, _, rfl, rfl, (by rw [l1, lm]; omega), _, rfl, _, _, rfl, rfl, .inr (by constructor <;> decide), _, rfl, _, _, rfl, rfl, .inl ⟨_, rfl, _, _, rfl, rfl, (by show (0 : Int) < 10; decide), ?_⟩⟩
      rw [← edg] at nok hn8 ld
      refine ⟨_, rfl, log2_small (Nat.lt_of_lt_of_le (show (((0 + (i : Int)) * 7 + shift) % 10).natAbs < 2 ^ 20 by omega) (Nat.pow_le_pow_right (by decide) (by decide))), _, _, rfl, rfl, (by rw [ap, l1, lm]; show _ + (nS (((0 + (i : Int)) * 7 + shift) % 10)).length ≤ _; omega), _, rfl, _, _, rfl, rfl, ?_, p, _, _, rfl, rfl, p6, ?_, ?_⟩
      · show ((⟨#[97 + j]⟩ : Str) ++ Txt.mul ⟨#[97 + j]⟩ (m3 : Int) ++ nS (((0 + (i : Int)) * 7 + shift) % 10)).length + (tails[j2]).length ≤ sizeLine
        rw [ap, ap, l1, lm]
        omega
      · rw [List.length_map]
        omega
      · refine ⟨ys ++ [((⟨#[97 + j]⟩ : Str) ++ Txt.mul ⟨#[97 + j]⟩ (m3 : Int) ++ nS (((0 + (i : Int)) * 7 + shift) % 10)) ++ tails[j2]], _, _, _, rfl, by rw [List.length_append, hl]; rfl, ?_, ?_, B6.put npb npl, ?_⟩
        · intro y hy
          rcases List.mem_append.mp hy with h1 | h1
          · exact hn y h1
          · rw [List.mem_singleton.mp h1]
            exact nok
        · rw [List.map_append]
          exact upd_same
        · intro c o e nc
          have ncp : c ≠ p := ne_of_none e hp0
          rw [upd_ne ncp]
          refine (k6 c nc).trans ?_
          refine same_new hm c o ?_
          exact (k4 c nc).trans (hk c o e nc)
    · rintro σ H' ⟨ys, v6, v7, v8, rfl, hl, hn, hp', hB', hk⟩
      exact ⟨_, rfl, k p ys H' hl hn hp0 hp' hB' hk⟩
end
end L2.HK
/-! K3b: claim_text; _law_text. -/
namespace L2.HK
open PySem PySem.Spec PyProof.Rows L2.HR
abbrev sCtext : Stmt := top 13
abbrev sLtext : Stmt := top 29
theorem items_get (k : Str) : ∀ (xs : List V) (i j : Nat), (itemsT k j xs)[i]? = (xs[i]?).map (itemT k (j + i))
  | [], i, j => by simp [itemsT]
  | v :: r, 0, j => rfl
  | v :: r, i + 1, j => by
    have ih := items_get k r i (j + 1)
    show (itemsT k (j + 1) r)[i]? = _
    rw [ih, List.getElem?_cons_succ]
    congr 2
    omega
theorem items_len (k : Str) : ∀ (xs : List V) (j : Nat), (itemsT k j xs).length = xs.length
  | [], _ => rfl
  | v :: r, j => by
    show (itemsT k (j + 1) r).length + 1 = _
    rw [items_len k r (j + 1)]
    rfl
def leadT (pos : Bool) : List Str := if pos = true then [] else ["not"]
def preT (pos : Bool) (xs : List V) (i : Nat) : List Str := leadT pos ++ (itemsT (kindOf xs) 0 xs).take i
theorem pre_zero (pos : Bool) (xs : List V) : preT pos xs 0 = leadT pos := by unfold preT; simp
theorem pre_full (pos : Bool) (xs : List V) : preT pos xs xs.length = partsOf pos xs := by
  unfold preT partsOf leadT
  rw [List.take_of_length_le (by rw [items_len]; exact Nat.le_refl _)]
theorem pre_step (pos : Bool) {xs : List V} {i : Nat} {v : V} (h : xs[i]? = some v) : preT pos xs (i + 1) = preT pos xs i ++ [itemT (kindOf xs) i v] := by
  have e : (itemsT (kindOf xs) 0 xs)[i]? = some (itemT (kindOf xs) i v) := by
    rw [items_get, h]
    show some (itemT (kindOf xs) (0 + i) v) = _
    rw [Nat.zero_add]
  unfold preT
  rw [List.take_add_one, e, ← List.append_assoc]
  rfl
theorem pre_len {pos : Bool} {xs : List V} {i : Nat} (h : xs.length ≤ 5) : (preT pos xs i).length < sizeLine := by
  have h1 : (preT pos xs i).length ≤ 6 := by
    unfold preT leadT
    rw [List.length_append, List.length_take, items_len]
    cases pos <;> simp <;> omega
  exact small1000 (by omega)
theorem row_len {xs : List V} (h : RowOk xs) : xs.length ≤ 5 := by cases h <;> simp
theorem row_head {xs : List V} (h : RowOk xs) : xs[0]? = some (.str (kindOf xs)) := by cases h <;> rfl
/-- an item: nothing, a number, a text -/
def ItemV (v : V) : Prop := v = .non ∨ (∃ n, v = .int n ∧ NumI n) ∨ ∃ x, v = .str x
theorem optN_item {v : V} (h : OptN v) : ItemV v := h.elim .inl fun ⟨p, e, _⟩ => .inr (.inr ⟨p, e⟩)
theorem optI_item {v : V} (h : OptI v) : ItemV v := h.elim .inl fun ⟨n, e, k⟩ => .inr (.inl ⟨n, e, k⟩)
theorem row_item {xs : List V} (h : RowOk xs) : ∀ v ∈ xs, ItemV v := by
  intro v hv
  have s : ∀ x : Str, ItemV (.str x) := fun x => .inr (.inr ⟨x, rfl⟩)
  have n : ∀ {m : Int}, NumI m → ItemV (.int m) := fun {m} h => .inr (.inl ⟨m, rfl, h⟩)
  cases h with
  | knew h1 h2 h3 =>
    simp only [List.mem_cons, List.not_mem_nil, or_false] at hv
    rcases hv with rfl | rfl | rfl | rfl
    · exact s _
    · exact s _
    · exact n h2
    · exact optN_item h3
  | told h1 h2 h3 h4 =>
    simp only [List.mem_cons, List.not_mem_nil, or_false] at hv
    rcases hv with rfl | rfl | rfl | rfl | rfl
    · exact s _
    · exact optN_item h1
    · exact optN_item h2
    · exact n h3
    · exact optI_item h4
  | began h1 h2 =>
    simp only [List.mem_cons, List.not_mem_nil, or_false] at hv
    rcases hv with rfl | rfl | rfl
    · exact s _
    · exact s _
    · exact optN_item h2
  | held h1 =>
    simp only [List.mem_cons, List.not_mem_nil, or_false] at hv
    rcases hv with rfl | rfl
    · exact s _
    · exact n h1
  | turned h1 h2 h3 =>
    simp only [List.mem_cons, List.not_mem_nil, or_false] at hv
    rcases hv with rfl | rfl | rfl | rfl
    · exact s _
    · exact s _
    · exact optN_item h2
    · exact optN_item h3
theorem join_fits {pos : Bool} {xs : List V} (h : RowOk xs) : ((partsOf pos xs).map (·.length)).sum + (partsOf pos xs).length * (" " : Str).length ≤ 16777216 := by
  have h2 := sum_len (b := 8) fun p hp => (parts_words (pos := pos) h p hp).2
  have h3 := parts_len (pos := pos) h
  have e : (" " : Str).length = 1 := by decide +kernel
  rw [e]
  omega
theorem log_num {n : Int} (h : NumI n) : n.natAbs.log2 < 1920 := by
  refine log2_small (Nat.lt_of_lt_of_le (show n.natAbs < 2 ^ 20 from ?_) (Nat.pow_le_pow_right (by decide) (by decide)))
  have h1 := h.1
  have h2 := h.2
  omega
def spCtext (K : PySem.W.Frag) : Sp := fun vs H Q _ => ∃ (t : Addr) (xs : List V) (pos : Bool), vs = [.ref t, .bl pos] ∧ SqT K H t xs ∧ RowOk xs ∧ ∀ H', Same H H' → Q (.str (txt pos xs)) H'
def spLtext (K : PySem.W.Frag) : Sp := fun vs H Q _ => ∃ (r t : Addr) (xs : List V) (pos : Bool), vs = [.ref r] ∧ SqT K H r [.bl pos, .ref t] ∧ SqT K H t xs ∧ RowOk xs ∧ ∀ H', Same H H' → Q (.str (txt pos xs)) H'
theorem told_dec {k : Str} {i : Nat} : (decide (V.str k = V.str "told")) = decide (k = "told") := by
  rw [Bool.eq_iff_iff, decide_eq_true_eq, decide_eq_true_eq]
  exact ⟨fun h => by injection h, fun h => by rw [h]⟩
theorem four_dec {i : Nat} : (decide (V.int (i : Nat) = V.int 4)) = decide (i = 4) := by
  rw [Bool.eq_iff_iff, decide_eq_true_eq, decide_eq_true_eq]
  exact ⟨fun h => by injection h with h; omega, fun h => by rw [h]; rfl⟩
theorem non_dec {v : V} (h : ¬ decide (v = V.non) = true) (hv : ItemV v) : (∃ n, v = .int n ∧ NumI n) ∨ ∃ x, v = .str x := by
  rcases hv with rfl | h1 | h1
  · exact absurd (decide_eq_true rfl) h
  · exact .inl h1
  · exact .inr h1
theorem seqT {K : PySem.W.Frag} {H H' : Hp} {a : Addr} {xs : List V} (e : Same H H') (h : SqT K H a xs) : SqT K H' a xs := by
  rcases h with (h | ⟨o, h⟩) | h
  · exact .inl (.inl (e a _ h))
  · exact .inl (.inr ⟨o, e a _ h⟩)
  · exact .inr h
section
variable {P : Program} {w : World} {K : PySem.W.Frag} {mg : Str → Option Value} {base : Heap}
abbrev CN : List Str := ["words", "positive", "parts", "at", "word"]
theorem scCtext : FnScope CN ["words", "positive"] (defScope sCtext) := ⟨rfl, rfl, rfl, by decide +kernel, rfl, by decide +kernel, by decide +kernel⟩
theorem pre_put {H : Hp} {p : Addr} {pos : Bool} {xs : List V} {i : Nat} {v : V} (h : xs[i]? = some v) {w : Str} (hw : itemT (kindOf xs) i v = w) : upd H p (.lst ((preT pos xs i).map V.str ++ [.str w])) p = some (.lst ((preT pos xs (i + 1)).map V.str)) := by
  rw [pre_step pos h, List.map_append, hw]
  exact upd_same
theorem same_put {H H' : Hp} {p : Addr} {o : HO} (e : Same H H') (hp : H p = none) : Same H (upd H' p o) := fun c u q => by
  rw [upd_ne (ne_of_none q hp)]
  exact e c u q
theorem ctext_tail (he : mg "enumerate" = none) (hs : mg "str" = none) {f : Addr} (cdv : Value) (A : Around) (outer : List Env) (s : Shared) (H0 : Hp) (E : XK) :
    ∃ t, PSs (cxOf CX0 P w K mg base CN "claim_text" (defScope sCtext) f cdv A outer s H0 E).nox ((defBody sCtext).drop 2) t ∧
      ∀ (D : Ends) (a p : Addr) (xs : List V) (pos : Bool) (H H' : Hp), SqT K H a xs → RowOk xs → H p = none → Same H H' → H' p = some (.lst ((preT pos xs 0).map V.str)) → (∀ H'', Same H H'' → D.rt (.str (txt pos xs)) H'') → t D [some (.ref a), some (.bl pos), some (.ref p), none, none] H' := by
  refine ⟨_, pss_cons (ps_for PassesOwn.never rfl (pi_enumT (by rfl) he (pa_cons (pv 0) pa_nil)) (pg_tup rfl (pgs_cons (pg_name (i := 3) scCtext.nd rfl (Or.inl rfl)) (pgs_cons (pg_name (i := 4) scCtext.nd rfl (Or.inl rfl)) pgs_nil)))
        (pss_one (ps_if (PW.pt (pw_and (pt_cmp (pc_isN (pv 4))) (pw_and (pt_cmpR op_eq (pe_ix ix_tup (pv 0) pe_int (fun _ _ => rfl)) pe_str (nomark _)) (pw_and1 (pt_cmpR op_eq (pv 3) pe_int (nomark _))))))
          (pss_one (ps_expr (pe_bm PySem.F.plainAttrs_list PySem.F.slot_list_append PySem.F.type_list_append mt_append (pv 2) (pa_cons pe_str pa_nil))))
          (pss_one (ps_if (pt_cmp (pc_isN (pv 4))) (pss_one (ps_expr (pe_bm PySem.F.plainAttrs_list PySem.F.slot_list_append PySem.F.type_list_append mt_append (pv 2) (pa_cons pe_str pa_nil))))
            (pss_one (ps_expr (pe_bm PySem.F.plainAttrs_list PySem.F.slot_list_append PySem.F.type_list_append mt_append (pv 2) (pa_cons (pe_callTy (call_str_int.or SkE.call_str_str) (by rfl) hs boot_str (pa_cons (pv 4) pa_nil)) pa_nil)))))))))
      (pss_one (ps_ret (pe_join pe_str (pv 2)))), ?_⟩
  intro D a p xs pos H H' hT hR hp sm hp' k
  have hlen := row_len hR
  refine ⟨_, rfl, a, xs, rfl, seqT sm hT, for_it (walk_enumT (K := K) (a := a) (xs := xs)) (fun i σ H1 => ∃ v3 v4 : Option V, σ = [some (.ref a), some (.bl pos), some (.ref p), v3, v4] ∧ Same H H1 ∧ H1 p = some (.lst ((preT pos xs i).map V.str))) ⟨none, none, rfl, sm, hp'⟩
    (fun i σ H1 _ ⟨_, _, _, s1, _⟩ => seqT s1 hT) ?_ ?_⟩
  · rintro i y σ H1 H1' hi ⟨v3, v4, rfl, s1, p1⟩ ⟨T, y1, x, rfl, hTn, rfl, ey, hx⟩
    obtain rfl : V.int (i : Nat) = y1 := Option.some.inj ey
    have s2 : Same H (upd H1 T (.tup [.int (i : Nat), x])) := s1.trans (same_new hTn)
    have p2 : upd H1 T (.tup [.int (i : Nat), x]) p = some (.lst ((preT pos xs i).map V.str)) := by
      rw [upd_ne (ne_of_none p1 hTn)]
      exact p1
    have hz : ((preT pos xs i).map V.str).length < sizeLine := by
      rw [List.length_map]
      exact pre_len hlen
    have hv := row_item hR x (List.mem_of_getElem? hx)
    have hd0 := row_head hR
    refine ⟨T, _, rfl, SqT.of upd_same, rfl, _, _, rfl, _, _, rfl, rfl, ?_⟩
    refine ⟨_, rfl, _, rfl, ?_⟩
    refine ite2 (fun c0 => ?_) fun c0 => iteF ⟨_, rfl, _, rfl, ?_⟩
    · have e0 : x = V.non := of_decide_eq_true c0
      subst e0
      refine ⟨_, rfl, a, xs, 0, _, rfl, rfl, seqT s2 hT, atI_nat (j := 0) hd0, rfl, _, rfl, ?_⟩
      rw [told_dec (i := 0)]
      refine ite2 (fun c1 => ⟨_, rfl, rfl, _, rfl, ?_⟩) fun c1 => iteF ⟨_, rfl, _, rfl, iteT ?_⟩
      · rw [four_dec]
        refine ite2 (fun c2 => ?_) fun c2 => ⟨_, rfl, _, rfl, iteT ?_⟩
        · refine ⟨_, rfl, .inl ⟨rfl, _, SqL.of p2⟩, p, _, _, rfl, rfl, p2, hz, ?_⟩
          refine ⟨_, _, rfl, same_put s2 hp, pre_put hx ?_⟩
          show (if kindOf xs = "told" ∧ i = 4 then ("end" : Str) else "any") = "end"
          rw [if_pos ⟨of_decide_eq_true c1, of_decide_eq_true c2⟩]
        · refine ⟨_, rfl, .inl ⟨rfl, _, SqL.of p2⟩, p, _, _, rfl, rfl, p2, hz, ?_⟩
          refine ⟨_, _, rfl, same_put s2 hp, pre_put hx ?_⟩
          show (if kindOf xs = "told" ∧ i = 4 then ("end" : Str) else "any") = "any"
          rw [if_neg fun z => c2 (decide_eq_true z.2)]
      · refine ⟨_, rfl, .inl ⟨rfl, _, SqL.of p2⟩, p, _, _, rfl, rfl, p2, hz, ?_⟩
        refine ⟨_, _, rfl, same_put s2 hp, pre_put hx ?_⟩
        show (if kindOf xs = "told" ∧ i = 4 then ("end" : Str) else "any") = "any"
        rw [if_neg fun z => c1 (decide_eq_true z.1)]
    · refine ite2 (fun c1 => absurd c1 c0) fun c1 => ?_
      rcases non_dec c0 hv with ⟨n, rfl, hn⟩ | ⟨z, rfl⟩
      · refine ⟨_, rfl, .inl ⟨rfl, _, SqL.of p2⟩, _, rfl, .inl ⟨n, rfl, log_num hn, p, _, _, rfl, rfl, p2, hz, ?_⟩⟩
        exact ⟨_, _, rfl, same_put s2 hp, pre_put hx rfl⟩
      · refine ⟨_, rfl, .inl ⟨rfl, _, SqL.of p2⟩, _, rfl, .inr ⟨z, rfl, p, _, _, rfl, rfl, p2, hz, ?_⟩⟩
        exact ⟨_, _, rfl, same_put s2 hp, pre_put hx rfl⟩
  · rintro σ H1 ⟨v3, v4, rfl, s1, p1⟩
    rw [pre_full] at p1
    refine ⟨⟨_, rfl⟩, _, rfl, _, p, partsOf pos xs, rfl, rfl, .inl (SqL.of p1), join_fits hR, k _ s1⟩
theorem ok_ctext {f : Addr} {fd : FuncData} (F : Fun K "claim_text" "claim_text" sCtext f fd) (he : mg "enumerate" = none) (hs : mg "str" = none) : FnOk P w K mg base CX0 1 f fd ["words", "positive"] (spCtext K) := by
  refine F.ok scCtext (fun vs H Q E h => ?_) (fun cdv A outer s H vs Q E hr h => ?_)
  · obtain ⟨t, xs, pos, rfl, _⟩ := h
    rfl
  · obtain ⟨t, xs, pos, rfl, hT, hR, k⟩ := h
    obtain ⟨t2, h2, r2⟩ := ctext_tail (P := P) (w := w) (K := K) (base := base) he hs (f := f) cdv A outer s H E
    refine ⟨_, pss_cons (ps_set (i := 2) scCtext.nd rfl (Or.inl rfl) (pe_lst pa_nil))
      (pss_cons (ps_if (pt_not (pt_val (pv 1))) (pss_one (ps_expr (pe_bm PySem.F.plainAttrs_list PySem.F.slot_list_append PySem.F.type_list_append mt_append (pv 2) (pa_cons pe_str pa_nil)))) pss_nil) h2), ?_⟩
    refine ⟨(by show 0 ≤ sizeLine; decide), fun p hp => ?_⟩
    refine ⟨_, rfl, _, rfl, ?_⟩
    cases pos with
    | true => exact r2 _ t p xs true H _ hT hR hp (same_new hp) (by rw [pre_zero]; exact upd_same) k
    | false =>
      refine ⟨_, rfl, .inl ⟨rfl, _, SqL.of upd_same⟩, p, _, _, rfl, rfl, upd_same, (by show 0 < sizeLine; decide), ?_⟩
      exact r2 _ t p xs false H _ hT hR hp (same_put (same_new hp) hp) (by rw [pre_zero]; exact upd_same) k
abbrev LN : List Str := ["_law_row", "_law_parts", "_law_k", "_law_item"]
theorem scLtext : FnScope LN ["_law_row"] (defScope sLtext) := ⟨rfl, rfl, rfl, by decide +kernel, rfl, by decide +kernel, by decide +kernel⟩
theorem ltext_tail (hl : mg "len" = none) (hr : mg "range" = none) (hs : mg "str" = none) {f : Addr} (cdv : Value) (A : Around) (outer : List Env) (s : Shared) (H0 : Hp) (E : XK) :
    ∃ t, PSs (cxOf CX0 P w K mg base LN "_law_text" (defScope sLtext) f cdv A outer s H0 E).nox ((defBody sLtext).drop 2) t ∧
      ∀ (D : Ends) (r a p : Addr) (xs : List V) (pos : Bool) (H H' : Hp), SqT K H r [.bl pos, .ref a] → SqT K H a xs → RowOk xs → H p = none → Same H H' → H' p = some (.lst ((preT pos xs 0).map V.str)) → (∀ H'', Same H H'' → D.rt (.str (txt pos xs)) H'') → t D [some (.ref r), some (.ref p), none, none] H' := by
  refine ⟨_, pss_cons (ps_for PassesOwn.never rfl (pi_range1 (by rfl) hr (pa_cons (pe_callB call_len_seq (by rfl) hl PySem.boot_len (pa_cons (pe_ix ix_tup (pv 0) pe_int (fun _ _ => rfl)) pa_nil)) pa_nil)) (pg_name (i := 2) scLtext.nd rfl (Or.inl rfl))
        (pss_cons (ps_set (i := 3) scLtext.nd rfl (Or.inl rfl) (pe_ix ix_tup (pe_ix ix_tup (pv 0) pe_int (fun _ _ => rfl)) (pv 2) (fun _ _ => rfl)))
        (pss_one (ps_if (PW.pt (pw_and (pt_cmp (pc_isN (pv 3))) (pw_and (pt_cmpR op_eq (pe_ix ix_tup (pe_ix ix_tup (pv 0) pe_int (fun _ _ => rfl)) pe_int (fun _ _ => rfl)) pe_str (nomark _)) (pw_and1 (pt_cmpR op_eq (pv 2) pe_int (nomark _))))))
          (pss_one (ps_expr (pe_bm PySem.F.plainAttrs_list PySem.F.slot_list_append PySem.F.type_list_append mt_append (pv 1) (pa_cons pe_str pa_nil))))
          (pss_one (ps_if (pt_cmp (pc_isN (pv 3))) (pss_one (ps_expr (pe_bm PySem.F.plainAttrs_list PySem.F.slot_list_append PySem.F.type_list_append mt_append (pv 1) (pa_cons pe_str pa_nil))))
            (pss_one (ps_expr (pe_bm PySem.F.plainAttrs_list PySem.F.slot_list_append PySem.F.type_list_append mt_append (pv 1) (pa_cons (pe_callTy (call_str_int.or SkE.call_str_str) (by rfl) hs boot_str (pa_cons (pv 3) pa_nil)) pa_nil))))))))))
      (pss_one (ps_ret (pe_join pe_str (pv 1)))), ?_⟩
  intro D r a p xs pos H H' hW hT hR hp sm hp' k
  have hlen := row_len hR
  refine ⟨_, rfl, r, _, 1, _, rfl, rfl, seqT sm hW, atI_nat (j := 1) rfl, a, xs, rfl, .inr (seqT sm hT), ?_⟩
  refine ⟨_, rfl, by omega, by omega, ?_⟩
  rw [Int.toNat_natCast]
  refine for_range (n := xs.length) (fun i σ H1 => ∃ v3 v4 : Option V, σ = [some (.ref r), some (.ref p), v3, v4] ∧ Same H H1 ∧ H1 p = some (.lst ((preT pos xs i).map V.str))) ⟨none, none, rfl, sm, hp'⟩ ?_ ?_
  · rintro i σ H1 hi ⟨v3, v4, rfl, s1, p1⟩
    obtain ⟨x, hx⟩ : ∃ x, xs[i]? = some x := ⟨xs[i], List.getElem?_eq_getElem hi⟩
    have hz : ((preT pos xs i).map V.str).length < sizeLine := by
      rw [List.length_map]
      exact pre_len hlen
    have hv := row_item hR x (List.mem_of_getElem? hx)
    have hd0 := row_head hR
    have ei : (0 : Int) + (i : Int) = (i : Nat) := by omega
    rw [ei]
    refine ⟨_, rfl, r, _, 1, _, rfl, rfl, seqT s1 hW, atI_nat (j := 1) rfl, _, rfl, a, xs, _, x, rfl, rfl, seqT s1 hT, atI_nat hx, ?_⟩
    refine ⟨_, rfl, _, rfl, ?_⟩
    refine ite2 (fun c0 => ?_) fun c0 => iteF ⟨_, rfl, _, rfl, ?_⟩
    · have e0 : x = V.non := of_decide_eq_true c0
      subst e0
      refine ⟨_, rfl, r, _, 1, _, rfl, rfl, seqT s1 hW, atI_nat (j := 1) rfl, a, xs, 0, _, rfl, rfl, seqT s1 hT, atI_nat (j := 0) hd0, rfl, _, rfl, ?_⟩
      rw [told_dec (i := 0)]
      refine ite2 (fun c1 => ⟨_, rfl, rfl, _, rfl, ?_⟩) fun c1 => iteF ⟨_, rfl, _, rfl, iteT ?_⟩
      · rw [four_dec]
        refine ite2 (fun c2 => ?_) fun c2 => ⟨_, rfl, _, rfl, iteT ?_⟩
        · refine ⟨_, rfl, .inl ⟨rfl, _, SqL.of p1⟩, p, _, _, rfl, rfl, p1, hz, ?_⟩
          refine ⟨_, _, rfl, same_put s1 hp, pre_put hx ?_⟩
          show (if kindOf xs = "told" ∧ i = 4 then ("end" : Str) else "any") = "end"
          rw [if_pos ⟨of_decide_eq_true c1, of_decide_eq_true c2⟩]
        · refine ⟨_, rfl, .inl ⟨rfl, _, SqL.of p1⟩, p, _, _, rfl, rfl, p1, hz, ?_⟩
          refine ⟨_, _, rfl, same_put s1 hp, pre_put hx ?_⟩
          show (if kindOf xs = "told" ∧ i = 4 then ("end" : Str) else "any") = "any"
          rw [if_neg fun z => c2 (decide_eq_true z.2)]
      · refine ⟨_, rfl, .inl ⟨rfl, _, SqL.of p1⟩, p, _, _, rfl, rfl, p1, hz, ?_⟩
        refine ⟨_, _, rfl, same_put s1 hp, pre_put hx ?_⟩
        show (if kindOf xs = "told" ∧ i = 4 then ("end" : Str) else "any") = "any"
        rw [if_neg fun z => c1 (decide_eq_true z.1)]
    · refine ite2 (fun c1 => absurd c1 c0) fun c1 => ?_
      rcases non_dec c0 hv with ⟨n, rfl, hn⟩ | ⟨z, rfl⟩
      · refine ⟨_, rfl, .inl ⟨rfl, _, SqL.of p1⟩, _, rfl, .inl ⟨n, rfl, log_num hn, p, _, _, rfl, rfl, p1, hz, ?_⟩⟩
        exact ⟨_, _, rfl, same_put s1 hp, pre_put hx rfl⟩
      · refine ⟨_, rfl, .inl ⟨rfl, _, SqL.of p1⟩, _, rfl, .inr ⟨z, rfl, p, _, _, rfl, rfl, p1, hz, ?_⟩⟩
        exact ⟨_, _, rfl, same_put s1 hp, pre_put hx rfl⟩
  · rintro σ H1 ⟨v3, v4, rfl, s1, p1⟩
    rw [pre_full] at p1
    refine ⟨⟨_, rfl⟩, _, rfl, _, p, partsOf pos xs, rfl, rfl, .inl (SqL.of p1), join_fits hR, k _ s1⟩
theorem ok_ltext {f : Addr} {fd : FuncData} (F : Fun K "_law_text" "_law_text" sLtext f fd) (hl : mg "len" = none) (hrg : mg "range" = none) (hs : mg "str" = none) : FnOk P w K mg base CX0 1 f fd ["_law_row"] (spLtext K) := by
  refine F.ok scLtext (fun vs H Q E h => ?_) (fun cdv A outer s H vs Q E hr h => ?_)
  · obtain ⟨r, t, xs, pos, rfl, _⟩ := h
    rfl
  · obtain ⟨r, t, xs, pos, rfl, hW, hT, hR, k⟩ := h
    obtain ⟨t2, h2, r2⟩ := ltext_tail (P := P) (w := w) (K := K) (base := base) hl hrg hs (f := f) cdv A outer s H E
    refine ⟨_, pss_cons (ps_set (i := 1) scLtext.nd rfl (Or.inl rfl) (pe_lst pa_nil))
      (pss_cons (ps_if (pt_not (pt_val (pe_ix ix_tup (pv 0) pe_int (fun _ _ => rfl)))) (pss_one (ps_expr (pe_bm PySem.F.plainAttrs_list PySem.F.slot_list_append PySem.F.type_list_append mt_append (pv 1) (pa_cons pe_str pa_nil)))) pss_nil) h2), ?_⟩
    refine ⟨(by show 0 ≤ sizeLine; decide), fun p hp => ?_⟩
    refine ⟨_, rfl, r, _, 0, _, rfl, rfl, seqT (same_new hp) hW, atI_nat (j := 0) rfl, _, rfl, ?_⟩
    cases pos with
    | true => exact r2 _ r t p xs true H _ hW hT hR hp (same_new hp) (by rw [pre_zero]; exact upd_same) k
    | false =>
      refine ⟨_, rfl, .inl ⟨rfl, _, SqL.of upd_same⟩, p, _, _, rfl, rfl, upd_same, (by show 0 < sizeLine; decide), ?_⟩
      exact r2 _ r t p xs false H _ hW hT hR hp (same_put (same_new hp) hp) (by rw [pre_zero]; exact upd_same) k
end
end L2.HK
/-! K3c: the class Claim and its five kinds. -/
namespace L2.HK
open PySem PySem.Spec PyProof.Rows L2.HR
abbrev sInit : Stmt := inClass (top 14) 0
abbrev sInv : Stmt := inClass (top 14) 1
abbrev sEq : Stmt := inClass (top 14) 3
abbrev sStr : Stmt := inClass (top 14) 4
abbrev sKnew : Stmt := inClass (top 15) 0
abbrev sTold : Stmt := inClass (top 16) 0
abbrev sBegan : Stmt := inClass (top 17) 0
abbrev sHeld : Stmt := inClass (top 18) 0
abbrev sTurned : Stmt := inClass (top 19) 0
/-! ### the attributes -/
def cf (t : Addr) (b : Bool) : List (Str × V) := putF "positive" (.bl b) (putF "words" (.ref t) [])
theorem cw : ¬ (("words" : Str) = "positive") := by decide +kernel
theorem cf_words (t : Addr) (b : Bool) : (cf t b).lookup ("words" : Str) = some (.ref t) := by
  unfold cf
  rw [lookup_putF, if_neg cw, lookup_putF, if_pos rfl]
theorem cf_pos (t : Addr) (b : Bool) : (cf t b).lookup ("positive" : Str) = some (.bl b) := by
  unfold cf
  rw [lookup_putF, if_pos rfl]
/-- what the top says of the class at C: Claim or one of its kinds -/
structure Fam (K : PySem.W.Frag) (A fN fE fS C : Addr) : Prop where
  cl : Cls K C
  nw : NoAttr K C "words"
  np : NoAttr K C "positive"
  inv : Meth K C "__invert__" fN
  eq : Meth K C "__eq__" fE
  str : Meth K C "__str__" fS
  isa : PySem.W.kitOne K (.ref C) (.ref A) = some true
  cc : PySem.W.findIn K (.ref C) "__class__" = some (some (.builtin "object.__class__"))
  mo : PySem.W.mroIn K C (.type "object") = some true
  sub : C ≠ A → PySem.W.subIn K (.ref C) (.ref A) = some true
/-- .. and of all of them -/
structure Top (K : PySem.W.Frag) (mg : Str → Option Value) (A : Addr) : Prop where
  gA : mg "Claim" = some (.ref A)
  isi : mg "isinstance" = none
  str : mg "str" = none
  gs : PySem.W.specialIn K (.builtin "object.__class__") "__get__" = some (some (.builtin "getset_descriptor.__get__"))
  tk : PySem.W.takesIn K (.builtin "object.__class__") = some true
/-- a claim stands at c -/
def Clm (K : PySem.W.Frag) (A fN fE fS : Addr) (H : Hp) (c t : Addr) (b : Bool) : Prop := ∃ C dx, H c = some (.ins C dx (cf t b)) ∧ Fam K A fN fE fS C
def spInit (K : PySem.W.Frag) (A fN fE fS : Addr) : Sp := fun vs H Q _ => ∃ (p t C dx : Addr) (b : Bool), vs = [.ref p, .ref t, .bl b] ∧ H p = some (.ins C dx []) ∧ Fam K A fN fE fS C ∧ Q .non (upd H p (.ins C dx (cf t b)))
section
variable {P : Program} {w : World} {K : PySem.W.Frag} {mg : Str → Option Value} {base : Heap} {A fN fE fS : Addr}
theorem scInit : FnScope ["self", "words", "positive"] ["self", "words", "positive"] (defScope sInit) := ⟨rfl, rfl, rfl, by decide +kernel, rfl, by decide +kernel, by decide +kernel⟩
theorem ok_init {f : Addr} {fd : FuncData} (F : FunD K "__init__" "Claim.__init__" (defArgs sInit) (defBody sInit) (defScope sInit) [.bl true] [] f fd) : FnOk P w K mg base CX0 1 f fd ["self", "words", "positive"] (spInit K A fN fE fS) := by
  refine F.ok scInit (fun vs H Q E h => ?_) (fun cdv A' outer s H vs Q E hr h => ?_)
  · obtain ⟨p, t, C, dx, b, rfl, _⟩ := h
    rfl
  · obtain ⟨p, t, C, dx, b, rfl, hp, hF, k⟩ := h
    refine ⟨_, pss_cons (ps_fld (pv 0) (pv 1) rfl) (pss_one (ps_fld (pv 0) (pv 2) rfl)), ?_⟩
    refine ⟨_, rfl, _, rfl, p, C, dx, [], rfl, hp, hF.cl, hF.nw, (by show 0 < 1000; decide), ?_⟩
    refine ⟨_, rfl, _, rfl, p, C, dx, _, rfl, upd_same, hF.cl, hF.np, (by show 1 < 1000; decide), ?_⟩
    rw [upd2]
    exact k
theorem init_binds3 {f : Addr} {fd : FuncData} (F : FunD K "__init__" "Claim.__init__" (defArgs sInit) (defBody sInit) (defScope sInit) [.bl true] [] f fd) : Binds K fd ["self", "words", "positive"] [] := by
  obtain ⟨ds, r, b⟩ := F.binds1 (ps := ["self", "words", "positive"]) 3 1 (by simp) rfl fun T kV doc pm an cdv ct us its l1 l2 => match us, its, l1, l2 with
    | [_, _, _], [_], _, _ => ⟨_, rfl, rfl⟩
  cases r
  exact b
theorem init_binds2 {f : Addr} {fd : FuncData} (F : FunD K "__init__" "Claim.__init__" (defArgs sInit) (defBody sInit) (defScope sInit) [.bl true] [] f fd) : ∃ ds, Vals [.bl true] ds ∧ Binds K fd ["self", "words", "positive"] ds :=
  F.binds1 (ps := ["self", "words", "positive"]) 2 0 (by simp) rfl fun T kV doc pm an cdv ct us its l1 l2 => match us, its, l1, l2 with
    | [_, _], [_], _, _ => ⟨_, rfl, rfl⟩
/-! ### str(claim), ~claim, claim == claim -/
def spStr (K : PySem.W.Frag) (A fN fE fS : Addr) : Sp := fun vs H Q _ => ∃ (c t : Addr) (b : Bool) (xs : List V), vs = [.ref c] ∧ Clm K A fN fE fS H c t b ∧ SqT K H t xs ∧ RowOk xs ∧ ∀ H', Same H H' → Q (.str (txt b xs)) H'
def spInv (K : PySem.W.Frag) (A fN fE fS : Addr) : Sp := fun vs H Q _ => ∃ (c t : Addr) (b : Bool), vs = [.ref c] ∧ Clm K A fN fE fS H c t b ∧ ∀ (c' : Addr) (H' : Hp), H c' = none → Clm K A fN fE fS H' c' t (!b) → Same H H' → Q (.ref c') H'
def spEq (K : PySem.W.Frag) (A fN fE fS : Addr) : Sp := fun vs H Q _ => ∃ (c t d u : Addr) (b : Bool) (xs : List V), vs = [.ref c, .ref d] ∧ Clm K A fN fE fS H c t b ∧ Clm K A fN fE fS H d u b ∧ SqT K H t xs ∧ SqT K H u xs ∧ RowOk xs ∧ Q (.bl true) H
theorem scStr : FnScope ["self"] ["self"] (defScope sStr) := ⟨rfl, rfl, rfl, by decide +kernel, rfl, by decide +kernel, by decide +kernel⟩
theorem ok_str {f : Addr} {fd : FuncData} (F : Fun K "__str__" "Claim.__str__" sStr f fd) (T : Top K mg A) (C : Cal P w K mg base CX0 1 "claim_text" ["words", "positive"] (spCtext K)) : FnOk P w K mg base CX0 2 f fd ["self"] (spStr K A fN fE fS) := by
  refine F.ok scStr (fun vs H Q E h => ?_) (fun cdv A' outer s H vs Q E hr h => ?_)
  · obtain ⟨c, t, b, xs, rfl, _⟩ := h
    rfl
  · obtain ⟨c, t, b, xs, rfl, ⟨C', dx, hc, hF⟩, hT, hR, k⟩ := h
    refine ⟨_, pss_one (ps_ret (pe_callTy SkE.call_str_str (by rfl) T.str boot_str (pa_cons (pe_cal C hr pass0 (pa_cons (pe_fld (pv 0) rfl) (pa_cons (pe_fld (pv 0) rfl) pa_nil))) pa_nil))), ?_⟩
    refine ⟨_, rfl, c, C', dx, _, _, rfl, hc, hF.cl, hF.nw, cf_words t b, _, rfl, c, C', dx, _, _, rfl, hc, hF.cl, hF.np, cf_pos t b, t, xs, b, rfl, hT, hR, fun H' s1 => ⟨_, rfl, k H' s1⟩⟩
theorem scInv : FnScope ["self"] ["self"] (defScope sInv) := ⟨rfl, rfl, rfl, by decide +kernel, rfl, by decide +kernel, by decide +kernel⟩
theorem ok_inv {f fI : Addr} {fd fdI : FuncData} (F : Fun K "__invert__" "Claim.__invert__" sInv f fd) (T : Top K mg A) (FI : FunD K "__init__" "Claim.__init__" (defArgs sInit) (defBody sInit) (defScope sInit) [.bl true] [] fI fdI) (M : Mk K A fI) (hA : Fam K A fN fE fS A) :
    FnOk P w K mg base CX0 3 f fd ["self"] (spInv K A fN fE fS) := by
  have GI : FnOk P w K mg base CX0 1 fI fdI ["self", "words", "positive"] (spInit K A fN fE fS) := ok_init FI
  refine F.ok scInv (fun vs H Q E h => ?_) (fun cdv A' outer s H vs Q E hr h => ?_)
  · obtain ⟨c, t, b, rfl, _⟩ := h
    rfl
  · obtain ⟨c, t, b, rfl, ⟨C', dx, hc, hF⟩, k⟩ := h
    refine ⟨_, pss_one (ps_ret (pe_make M GI hr rfl T.gA (init_binds3 FI) .nil pass0 (pa_cons (pe_fld (pv 0) rfl) (pa_cons (pe_not (pe_fld (pv 0) rfl)) pa_nil)))), ?_⟩
    refine ⟨_, rfl, c, C', dx, _, _, rfl, hc, hF.cl, hF.nw, cf_words t b, _, rfl, c, C', dx, _, _, rfl, hc, hF.cl, hF.np, cf_pos t b, b, rfl, fun x dy hx hdy ne => ?_⟩
    refine ⟨x, t, A, dy, !b, rfl, upd_same, hA, rfl, ?_⟩
    rw [upd2]
    refine k x _ hx ⟨A, dy, upd_same, hA⟩ fun q o e => ?_
    rw [upd_ne (ne_of_none e hx), upd_ne (ne_of_none e hdy)]
    exact e
theorem scEq : FnScope ["self", "other"] ["self", "other"] (defScope sEq) := ⟨rfl, rfl, rfl, by decide +kernel, rfl, by decide +kernel, by decide +kernel⟩
theorem ok_eq {f : Addr} {fd : FuncData} (F : Fun K "__eq__" "Claim.__eq__" sEq f fd) (T : Top K mg A) : FnOk P w K mg base CX0 1 f fd ["self", "other"] (spEq K A fN fE fS) := by
  refine F.ok scEq (fun vs H Q E h => ?_) (fun cdv A' outer s H vs Q E hr h => ?_)
  · obtain ⟨c, t, d, u, b, xs, rfl, _⟩ := h
    rfl
  · obtain ⟨c, t, d, u, b, xs, rfl, ⟨C1, dx1, h1, F1⟩, ⟨C2, dx2, h2, F2⟩, hT, hU, hR, k⟩ := h
    have hun := hr.units
    refine ⟨_, pss_one (ps_ret (pe_and (pe_callB call_isi (by rfl) T.isi boot_isinstance (pa_cons (pv 1) (pa_cons (pgR T.gA) pa_nil)))
      (pe_and (pe_cmpR (op_eqD hun) (pe_fld (pv 0) rfl) (pe_fld (pv 1) rfl) (nomark _)) (pe_one (pe_cmpR op_eq (pe_fld (pv 0) rfl) (pe_fld (pv 1) rfl) (nomark _)))))), ?_⟩
    refine ⟨_, rfl, _, _, _, _, true, rfl, .own A, .base (.ins h2 F2.cl F2.cc T.gs T.tk F2.mo), F2.isa, _, rfl, iteT ?_⟩
    refine ⟨_, rfl, c, C1, dx1, _, _, rfl, h1, F1.cl, F1.nw, cf_words t b, _, rfl, d, C2, dx2, _, _, rfl, h2, F2.cl, F2.nw, cf_words u b, plainT xs, plainT xs, dp_row hT hR, dp_row hU hR, row_shaped hR, row_shaped hR, ?_⟩
    rw [eqv_row hR]
    refine ⟨true, rfl, iteT ⟨_, rfl, c, C1, dx1, _, _, rfl, h1, F1.cl, F1.np, cf_pos t b, _, rfl, d, C2, dx2, _, _, rfl, h2, F2.cl, F2.np, cf_pos u b, rfl, ?_⟩⟩
    show Q (V.bl (decide (V.bl b = V.bl b))) H
    rw [decide_eq_true rfl]
    exact k
end
end L2.HK
/-! K3d: the five kinds of claim are made. -/
namespace L2.HK
open PySem PySem.Spec PyProof.Rows L2.HR
/-- a kind's __init__: the tuple of the kind's name and the arguments becomes the words -/
def spKind (k : Str) (n : Nat) (K : PySem.W.Frag) (A fN fE fS D : Addr) : Sp := fun vs H Q _ => ∃ (p dx : Addr) (ws : List V), vs = .ref p :: ws ∧ ws.length = n ∧ H p = some (.ins D dx []) ∧ Fam K A fN fE fS D ∧
  ∀ t, H t = none → Q .non (upd (upd H t (.tup (.str k :: ws))) p (.ins D dx (cf t true)))
abbrev argOf (s : Stmt) : Expr := match defBody s with
  | [.Expr (.Call _ [a] _ _) _] => a
  | _ => .Constant .none 0 ⟨0, 0, 0, 0⟩
section
variable {P : Program} {w : World} {K : PySem.W.Frag} {mg : Str → Option Value} {base : Heap} {A fN fE fS : Addr}
theorem supS_knew : SupS ["self", "person", "day", "version"] sKnew (argOf sKnew) :=
  { body := ⟨_, _, _, _, _, rfl, fun _ _ _ _ _ => rfl, fun _ _ _ _ _ => rfl, fun _ _ _ _ _ => ⟨_, rfl⟩⟩, kind := rfl, co := rfl, gen := rfl, nd := by decide +kernel, par := by decide +kernel, nocell := by decide +kernel, free := by decide +kernel, hks := by decide +kernel, hkc := by decide +kernel, one := ⟨_, _, rfl, rfl⟩ }
theorem ok_knew {f D fI : Addr} {fd fdI : FuncData} {ds0 : List V} (F : FunS P K "__init__" "Knew.__init__" sKnew f D ds0 fd) (T : SupK P K D fI) (FI : FunD K "__init__" "Claim.__init__" (defArgs sInit) (defBody sInit) (defScope sInit) [.bl true] [] fI fdI) :
    FnOk P w K mg base CX0 2 f fd ["self", "person", "day", "version"] (spKind "knew" 3 K A fN fE fS D) := by
  have GI : FnOk P w K mg base CX0 1 fI fdI ["self", "words", "positive"] (spInit K A fN fE fS) := ok_init FI
  obtain ⟨ds, r, b⟩ := init_binds2 FI
  refine super_ok F supS_knew T GI b r (fun vs H Q E h => ?_) (fun cc cda A' outer s H vs Q E h => ?_)
  · obtain ⟨p, dx, ws, rfl, hl, _⟩ := h
    show ws.length + 1 = 4
    rw [hl]
  · obtain ⟨p, dx, ws, rfl, hl, hp, hF, k⟩ := h
    obtain ⟨a, b, c, rfl⟩ : ∃ a b c, ws = [a, b, c] := match ws, hl with | [a, b, c], _ => ⟨a, b, c, rfl⟩
    refine ⟨p, dx, [], _, rfl, hp, _, pa_cons (pe_tup (pa_cons pe_str (pa_cons (pv 1) (pa_cons (pv 2) (pa_cons (pv 3) pa_nil))))) pa_nil, ?_⟩
    refine ⟨_, rfl, _, rfl, _, rfl, (by show 4 ≤ sizeLine; decide), fun t ht => ?_⟩
    refine ⟨p, t, D, dx, true, rfl, (by rw [upd_ne (ne_of_none hp ht)]; exact hp), hF, k t ht⟩
theorem supS_told : SupS ["self", "teller", "hearer", "first", "last"] sTold (argOf sTold) :=
  { body := ⟨_, _, _, _, _, rfl, fun _ _ _ _ _ => rfl, fun _ _ _ _ _ => rfl, fun _ _ _ _ _ => ⟨_, rfl⟩⟩, kind := rfl, co := rfl, gen := rfl, nd := by decide +kernel, par := by decide +kernel, nocell := by decide +kernel, free := by decide +kernel, hks := by decide +kernel, hkc := by decide +kernel, one := ⟨_, _, rfl, rfl⟩ }
theorem ok_told {f D fI : Addr} {fd fdI : FuncData} {ds0 : List V} (F : FunS P K "__init__" "Told.__init__" sTold f D ds0 fd) (T : SupK P K D fI) (FI : FunD K "__init__" "Claim.__init__" (defArgs sInit) (defBody sInit) (defScope sInit) [.bl true] [] fI fdI) :
    FnOk P w K mg base CX0 2 f fd ["self", "teller", "hearer", "first", "last"] (spKind "told" 4 K A fN fE fS D) := by
  have GI : FnOk P w K mg base CX0 1 fI fdI ["self", "words", "positive"] (spInit K A fN fE fS) := ok_init FI
  obtain ⟨ds, r, b⟩ := init_binds2 FI
  refine super_ok F supS_told T GI b r (fun vs H Q E h => ?_) (fun cc cda A' outer s H vs Q E h => ?_)
  · obtain ⟨p, dx, ws, rfl, hl, _⟩ := h
    show ws.length + 1 = 5
    rw [hl]
  · obtain ⟨p, dx, ws, rfl, hl, hp, hF, k⟩ := h
    obtain ⟨a, b, c, d, rfl⟩ : ∃ a b c d, ws = [a, b, c, d] := match ws, hl with | [a, b, c, d], _ => ⟨a, b, c, d, rfl⟩
    refine ⟨p, dx, [], _, rfl, hp, _, pa_cons (pe_tup (pa_cons pe_str (pa_cons (pv 1) (pa_cons (pv 2) (pa_cons (pv 3) (pa_cons (pv 4) pa_nil)))))) pa_nil, ?_⟩
    refine ⟨_, rfl, _, rfl, _, rfl, _, rfl, (by show 5 ≤ sizeLine; decide), fun t ht => ?_⟩
    refine ⟨p, t, D, dx, true, rfl, (by rw [upd_ne (ne_of_none hp ht)]; exact hp), hF, k t ht⟩
theorem supS_began : SupS ["self", "person", "version"] sBegan (argOf sBegan) :=
  { body := ⟨_, _, _, _, _, rfl, fun _ _ _ _ _ => rfl, fun _ _ _ _ _ => rfl, fun _ _ _ _ _ => ⟨_, rfl⟩⟩, kind := rfl, co := rfl, gen := rfl, nd := by decide +kernel, par := by decide +kernel, nocell := by decide +kernel, free := by decide +kernel, hks := by decide +kernel, hkc := by decide +kernel, one := ⟨_, _, rfl, rfl⟩ }
theorem ok_began {f D fI : Addr} {fd fdI : FuncData} {ds0 : List V} (F : FunS P K "__init__" "Began.__init__" sBegan f D ds0 fd) (T : SupK P K D fI) (FI : FunD K "__init__" "Claim.__init__" (defArgs sInit) (defBody sInit) (defScope sInit) [.bl true] [] fI fdI) :
    FnOk P w K mg base CX0 2 f fd ["self", "person", "version"] (spKind "began" 2 K A fN fE fS D) := by
  have GI : FnOk P w K mg base CX0 1 fI fdI ["self", "words", "positive"] (spInit K A fN fE fS) := ok_init FI
  obtain ⟨ds, r, b⟩ := init_binds2 FI
  refine super_ok F supS_began T GI b r (fun vs H Q E h => ?_) (fun cc cda A' outer s H vs Q E h => ?_)
  · obtain ⟨p, dx, ws, rfl, hl, _⟩ := h
    show ws.length + 1 = 3
    rw [hl]
  · obtain ⟨p, dx, ws, rfl, hl, hp, hF, k⟩ := h
    obtain ⟨a, b, rfl⟩ : ∃ a b, ws = [a, b] := match ws, hl with | [a, b], _ => ⟨a, b, rfl⟩
    refine ⟨p, dx, [], _, rfl, hp, _, pa_cons (pe_tup (pa_cons pe_str (pa_cons (pv 1) (pa_cons (pv 2) pa_nil)))) pa_nil, ?_⟩
    refine ⟨_, rfl, _, rfl, (by show 3 ≤ sizeLine; decide), fun t ht => ?_⟩
    refine ⟨p, t, D, dx, true, rfl, (by rw [upd_ne (ne_of_none hp ht)]; exact hp), hF, k t ht⟩
theorem supS_held : SupS ["self", "meeting"] sHeld (argOf sHeld) :=
  { body := ⟨_, _, _, _, _, rfl, fun _ _ _ _ _ => rfl, fun _ _ _ _ _ => rfl, fun _ _ _ _ _ => ⟨_, rfl⟩⟩, kind := rfl, co := rfl, gen := rfl, nd := by decide +kernel, par := by decide +kernel, nocell := by decide +kernel, free := by decide +kernel, hks := by decide +kernel, hkc := by decide +kernel, one := ⟨_, _, rfl, rfl⟩ }
theorem ok_held {f D fI : Addr} {fd fdI : FuncData} {ds0 : List V} (F : FunS P K "__init__" "Held.__init__" sHeld f D ds0 fd) (T : SupK P K D fI) (FI : FunD K "__init__" "Claim.__init__" (defArgs sInit) (defBody sInit) (defScope sInit) [.bl true] [] fI fdI) :
    FnOk P w K mg base CX0 2 f fd ["self", "meeting"] (spKind "held" 1 K A fN fE fS D) := by
  have GI : FnOk P w K mg base CX0 1 fI fdI ["self", "words", "positive"] (spInit K A fN fE fS) := ok_init FI
  obtain ⟨ds, r, b⟩ := init_binds2 FI
  refine super_ok F supS_held T GI b r (fun vs H Q E h => ?_) (fun cc cda A' outer s H vs Q E h => ?_)
  · obtain ⟨p, dx, ws, rfl, hl, _⟩ := h
    show ws.length + 1 = 2
    rw [hl]
  · obtain ⟨p, dx, ws, rfl, hl, hp, hF, k⟩ := h
    obtain ⟨a, rfl⟩ : ∃ a, ws = [a] := match ws, hl with | [a], _ => ⟨a, rfl⟩
    refine ⟨p, dx, [], _, rfl, hp, _, pa_cons (pe_tup (pa_cons pe_str (pa_cons (pv 1) pa_nil))) pa_nil, ?_⟩
    refine ⟨_, rfl, (by show 2 ≤ sizeLine; decide), fun t ht => ?_⟩
    refine ⟨p, t, D, dx, true, rfl, (by rw [upd_ne (ne_of_none hp ht)]; exact hp), hF, k t ht⟩
theorem supS_turned : SupS ["self", "person", "old", "new"] sTurned (argOf sTurned) :=
  { body := ⟨_, _, _, _, _, rfl, fun _ _ _ _ _ => rfl, fun _ _ _ _ _ => rfl, fun _ _ _ _ _ => ⟨_, rfl⟩⟩, kind := rfl, co := rfl, gen := rfl, nd := by decide +kernel, par := by decide +kernel, nocell := by decide +kernel, free := by decide +kernel, hks := by decide +kernel, hkc := by decide +kernel, one := ⟨_, _, rfl, rfl⟩ }
theorem ok_turned {f D fI : Addr} {fd fdI : FuncData} {ds0 : List V} (F : FunS P K "__init__" "Turned.__init__" sTurned f D ds0 fd) (T : SupK P K D fI) (FI : FunD K "__init__" "Claim.__init__" (defArgs sInit) (defBody sInit) (defScope sInit) [.bl true] [] fI fdI) :
    FnOk P w K mg base CX0 2 f fd ["self", "person", "old", "new"] (spKind "turned" 3 K A fN fE fS D) := by
  have GI : FnOk P w K mg base CX0 1 fI fdI ["self", "words", "positive"] (spInit K A fN fE fS) := ok_init FI
  obtain ⟨ds, r, b⟩ := init_binds2 FI
  refine super_ok F supS_turned T GI b r (fun vs H Q E h => ?_) (fun cc cda A' outer s H vs Q E h => ?_)
  · obtain ⟨p, dx, ws, rfl, hl, _⟩ := h
    show ws.length + 1 = 4
    rw [hl]
  · obtain ⟨p, dx, ws, rfl, hl, hp, hF, k⟩ := h
    obtain ⟨a, b, c, rfl⟩ : ∃ a b c, ws = [a, b, c] := match ws, hl with | [a, b, c], _ => ⟨a, b, c, rfl⟩
    refine ⟨p, dx, [], _, rfl, hp, _, pa_cons (pe_tup (pa_cons pe_str (pa_cons (pv 1) (pa_cons (pv 2) (pa_cons (pv 3) pa_nil))))) pa_nil, ?_⟩
    refine ⟨_, rfl, _, rfl, _, rfl, (by show 4 ≤ sizeLine; decide), fun t ht => ?_⟩
    refine ⟨p, t, D, dx, true, rfl, (by rw [upd_ne (ne_of_none hp ht)]; exact hp), hF, k t ht⟩
end
end L2.HK
/-! K3e: read_word, parse_claim. -/
namespace L2.HR
open PySem PySem.Spec PyProof.Rows
/-- x not in d, d a written dict with text keys -/
def rNotInK (K : PySem.W.Frag) (w : World) : R2 := fun x y H Q => ∃ (p : Addr) (z : Str) (es : Array DictEntry) (n : Nat) (r : Option Value), x = .str z ∧ y = .ref p ∧ K.lookup p = some ⟨.type "dict", none, .dict es n, #[]⟩ ∧ PySem.W.KeysLit w.params es.toList ∧ (p == sysModules) = false ∧
  PySem.W.nsIn K p z = some r ∧ Q (.bl (!r.isSome)) H
theorem op_notInK {X : Cx} : OpR X (compareOp .NotIn) (rNotInK X.K X.w) := by
  intro pins s σ H x y v u Q I rx ry h
  obtain ⟨p, z, es, n, r, rfl, rfl, hl, hk, low, e, q⟩ := h
  obtain ⟨t, rfl⟩ := rx
  obtain rfl : u = Value.ref p := ry
  have hm := PySem.W.mapOf_K (prog := X.prog) (w := X.w) I.kIn hl hk
  refine wpAny_notIn_of (strKind_is X.prog X.w z t) low hm ?_
  rw [PySem.W.find_K hl e]
  exact ⟨.bl (!r.isSome), H, I.tok _, rfl, q⟩
end L2.HR
namespace L2.HK
open PySem PySem.Spec PyProof.Rows L2.HR
abbrev sRead : Stmt := top 21
abbrev sParse : Stmt := top 22
def fmS : Fm → Str
  | .name => "name"
  | .num => "number"
  | .any => "any"
  | .last => "end"
/-- what the caught error carries -/
def wrongOf (t : Str) : HO := .xd [(("wrong" : Str), .str t)]
def spRead (IT : Addr) : Sp := fun vs H Q E => ∃ (f : Fm) (x t : Str), vs = [.str (fmS f), .str x, .str t] ∧ x.length ≤ sizeLine ∧
  match readW f x with
  | some v => ∀ H', Same H H' → Q v H'
  | none => ∀ d H', Same H H' → H' d = some (wrongOf t) → E (.ref IT) (some d) H'
theorem str_dec {a b : Str} : decide (V.str a = V.str b) = decide (a = b) := by
  rw [Bool.eq_iff_iff, decide_eq_true_eq, decide_eq_true_eq]
  exact ⟨fun h => by injection h, fun h => by rw [h]⟩
theorem ifF {c : Bool} {A B : Prop} (hc : c = false) (h : B) : if c = true then A else B := by
  rw [hc]
  exact iteF h
theorem ifT {c : Bool} {A B : Prop} (hc : c = true) (h : A) : if c = true then A else B := by
  rw [hc]
  exact iteT h
structure TRd (K : PySem.W.Frag) (mg : Str → Option Value) (IT fX : Addr) : Prop where
  wr : PySem.WrongX.WrongTxt K mg IT fX
section
variable {P : Program} {w : World} {K : PySem.W.Frag} {mg : Str → Option Value} {base : Heap} {IT fX : Addr}
abbrev RWN : List Str := ["form", "word", "text", "number"]
theorem scRead : FnScope RWN ["form", "word", "text"] (defScope sRead) := ⟨rfl, rfl, rfl, by decide +kernel, rfl, by decide +kernel, by decide +kernel⟩
theorem ok_read {f : Addr} {fd : FuncData} (F : Fun K "read_word" "read_word" sRead f fd) (T : PySem.WrongX.WrongTxt K mg IT fX) (CI : Cal P w K mg base CX0 1 "is_name" ["text"] spIsName) (CN : Cal P w K mg base CX0 1 "number_of" ["word"] spNumber) :
    FnOk P w K mg base (L2.CX P w) 3 f fd ["form", "word", "text"] (spRead IT) := by
  refine F.okX scRead (fun vs H Q E h => ?_) (fun cdv A outer s H vs Q E hr h => ?_)
  · obtain ⟨f, x, t, rfl, _⟩ := h
    rfl
  · obtain ⟨fm, x, t, rfl, hx, k⟩ := h
    have hr1 : Room 1 _ := hr.mono (by decide)
    refine ⟨_, pss_cons (ps_if (PW.pt (pw_or (PW.pt (pw_and (pt_cmpR op_eq (pv 0) pe_str (nomark _)) (pw_and1 (pt_cmpR op_eq (pv 1) pe_str (nomark _))))) (pw_or1 (PW.pt (pw_and (pt_cmpR op_eq (pv 0) pe_str (nomark _)) (pw_and1 (pt_cmpR op_eq (pv 1) pe_str (nomark _)))))))) (pss_one (ps_ret pe_non)) pss_nil)
      (pss_cons (ps_if (pt_cmpR op_in_seq (pv 0) (pe_tup (pa_cons pe_str (pa_cons pe_str pa_nil))) (by rfl))
        (pss_cons (ps_if (pt_not (pt_val (pe_cal CI hr1 pass0 (pa_cons (pv 1) pa_nil)))) (pss_one (ps_raiseWrong (W := fun cls d _ H => E cls d H) rfl T hr (takes_of rfl rfl rfl rfl) (by exact (pa_cons (pv 2) pa_nil)))) pss_nil)
        (pss_one (ps_ret (pv 1)))) pss_nil)
      (pss_cons (ps_set (i := 3) scRead.nd rfl (Or.inl rfl) (pe_cal CN hr1 pass0 (pa_cons (pv 1) pa_nil)))
      (pss_cons (ps_if (pt_cmp (pc_isN (pv 3))) (pss_one (ps_raiseWrong (W := fun cls d _ H => E cls d H) rfl T hr (takes_of rfl rfl rfl rfl) (by exact (pa_cons (pv 2) pa_nil)))) pss_nil)
      (pss_one (ps_ret (pv 3)))))), ?_⟩
    have wr : ∀ {H' : Hp} {d : Addr}, Same H H' → H' d = none → Same H (upd H' d (wrongOf t)) := fun e hd => e.trans (same_new hd)
    cases fm with
    | name =>
      have k' : match (if nameW x = true then some (V.str x) else none) with
        | some v => ∀ H', Same H H' → Q v H'
        | none => ∀ d H', Same H H' → H' d = some (wrongOf t) → E (.ref IT) (some d) H' := k
      refine ⟨_, rfl, rfl, _, rfl, ifF (by decide +kernel) (iteF ⟨_, rfl, rfl, _, rfl, ifF (by decide +kernel) (iteF ?_)⟩)⟩
      refine ⟨_, rfl, (by show 2 ≤ sizeLine; decide), fun p hp => ⟨p, _, rfl, .inr (SqT.of upd_same), rfl, rfl, _, rfl, ifT (by decide +kernel) ?_⟩⟩
      refine ⟨_, rfl, x, rfl, hx, _, rfl, ?_⟩
      cases hn : nameW x with
      | true =>
        rw [if_pos hn] at k'
        exact iteF ⟨_, rfl, k' _ (same_new hp)⟩
      | false =>
        rw [hn, if_neg Bool.false_ne_true] at k'
        exact iteT ⟨_, rfl, _, rfl, fun d hd => k' d _ (wr (same_new hp) hd) upd_same⟩
    | any =>
      have k' : match (if x = "any" then some V.non else if nameW x = true then some (V.str x) else none) with
        | some v => ∀ H', Same H H' → Q v H'
        | none => ∀ d H', Same H H' → H' d = some (wrongOf t) → E (.ref IT) (some d) H' := k
      refine ⟨_, rfl, rfl, _, rfl, ifT (by decide +kernel) ⟨_, rfl, rfl, _, rfl, ?_⟩⟩
      rw [str_dec]
      refine ite2 (fun h1 => iteT ?_) fun h1 => ?_
      · rw [if_pos (of_decide_eq_true h1)] at k'
        exact k' _ (Same.refl H)
      · rw [if_neg fun z => h1 (decide_eq_true z)] at k'
        refine ⟨_, rfl, rfl, _, rfl, ifF (by decide +kernel) (iteF ?_)⟩
        refine ⟨_, rfl, (by show 2 ≤ sizeLine; decide), fun p hp => ⟨p, _, rfl, .inr (SqT.of upd_same), rfl, rfl, _, rfl, ifT (by decide +kernel) ?_⟩⟩
        refine ⟨_, rfl, x, rfl, hx, _, rfl, ?_⟩
        cases hn : nameW x with
        | true =>
          rw [if_pos hn] at k'
          exact iteF ⟨_, rfl, k' _ (same_new hp)⟩
        | false =>
          rw [hn, if_neg Bool.false_ne_true] at k'
          exact iteT ⟨_, rfl, _, rfl, fun d hd => k' d _ (wr (same_new hp) hd) upd_same⟩
    | num =>
      have k' : match (numW x).map V.int with
        | some v => ∀ H', Same H H' → Q v H'
        | none => ∀ d H', Same H H' → H' d = some (wrongOf t) → E (.ref IT) (some d) H' := k
      refine ⟨_, rfl, rfl, _, rfl, ifF (by decide +kernel) (iteF ⟨_, rfl, rfl, _, rfl, ifF (by decide +kernel) (iteF ?_)⟩)⟩
      refine ⟨_, rfl, (by show 2 ≤ sizeLine; decide), fun p hp => ⟨p, _, rfl, .inr (SqT.of upd_same), rfl, rfl, _, rfl, ifF (by decide +kernel) ?_⟩⟩
      refine ⟨_, rfl, x, rfl, hx, ?_⟩
      cases hn : numW x with
      | some n =>
        rw [hn] at k'
        exact ⟨_, rfl, _, rfl, ifF (by simp) ⟨_, rfl, k' _ (same_new hp)⟩⟩
      | none =>
        rw [hn] at k'
        exact ⟨_, rfl, _, rfl, ifT (by simp) ⟨_, rfl, _, rfl, fun d hd => k' d _ (wr (same_new hp) hd) upd_same⟩⟩
    | last =>
      have k' : match (if x = "end" then some V.non else (numW x).map V.int) with
        | some v => ∀ H', Same H H' → Q v H'
        | none => ∀ d H', Same H H' → H' d = some (wrongOf t) → E (.ref IT) (some d) H' := k
      refine ⟨_, rfl, rfl, _, rfl, ifF (by decide +kernel) (iteF ⟨_, rfl, rfl, _, rfl, ifT (by decide +kernel) ⟨_, rfl, rfl, _, rfl, ?_⟩⟩)⟩
      rw [str_dec]
      refine ite2 (fun h1 => ?_) fun h1 => ?_
      · rw [if_pos (of_decide_eq_true h1)] at k'
        exact k' _ (Same.refl H)
      · rw [if_neg fun z => h1 (decide_eq_true z)] at k'
        refine ⟨_, rfl, (by show 2 ≤ sizeLine; decide), fun p hp => ⟨p, _, rfl, .inr (SqT.of upd_same), rfl, rfl, _, rfl, ifF (by decide +kernel) ?_⟩⟩
        refine ⟨_, rfl, x, rfl, hx, ?_⟩
        cases hn : numW x with
        | some n =>
          rw [hn] at k'
          exact ⟨_, rfl, _, rfl, ifF (by simp) ⟨_, rfl, k' _ (same_new hp)⟩⟩
        | none =>
          rw [hn] at k'
          exact ⟨_, rfl, _, rfl, ifT (by simp) ⟨_, rfl, _, rfl, fun d hd => k' d _ (wr (same_new hp) hd) upd_same⟩⟩
end
end L2.HK
/-! K3f: parse_claim. -/
namespace L2.HK
open PySem PySem.Spec PyProof.Rows L2.HR
/-- the module's dict of forms, at d -/
structure FormsK (K : PySem.W.Frag) (w : World) (d : Addr) : Prop where
  low : (d == sysModules) = false
  ex : ∃ es n, K.lookup d = some ⟨.type "dict", none, .dict es n, #[]⟩ ∧ PySem.W.KeysLit w.params es.toList ∧
    ∀ z : Str, match formsOf z with
      | some fs => ∃ a, PySem.W.nsIn K d z = some (some (.ref a)) ∧ ∀ H : Hp, SqT K H a (fs.map fun f => V.str (fmS f))
      | none => PySem.W.nsIn K d z = some none
def spParse (K : PySem.W.Frag) (A fN fE fS IT : Addr) : Sp := fun vs H Q E => ∃ t : Str, vs = [.str t] ∧ t.length ≤ 10000 ∧
  match parse t with
  | some (pos, xs) => ∀ (c a dx : Addr) (H' : Hp), H c = none → Same H H' → H' c = some (.ins A dx (cf a pos)) → SqT K H' a xs → Q (.ref c) H'
  | none => ∀ d H', Same H H' → H' d = some (wrongOf t) → E (.ref IT) (some d) H'
theorem cut1 (xs : List V) : cutV xs (some 1) none = xs.drop 1 := by
  unfold cutV
  have e1 : HT.sIx xs.length 0 (some 1) = min 1 xs.length := HT.sIx_nat _ _ 1
  have e2 : HT.sIx xs.length xs.length none = xs.length := HT.sIx_none _ _
  rw [e1, e2]
  cases xs with
  | nil => rfl
  | cons x r =>
    have e3 : min 1 (x :: r).length = 1 := by simp
    rw [e3]
    show r.take ((x :: r).length - 1) = r
    rw [List.length_cons, Nat.add_sub_cancel]
    exact List.take_length
theorem head_dec {k : Str} {r : List Str} : posOf (k :: r) = !decide (k = "not") := rfl
abbrev PN : List Str := ["text", "words", "positive", "forms", "items", "form", "word"]
structure TPs (K : PySem.W.Frag) (w : World) (mg : Str → Option Value) (A fN fE fS IT fX aF : Addr) : Prop where
  wr : PySem.WrongX.WrongTxt K mg IT fX
  top : Top K mg A
  fam : Fam K A fN fE fS A
  fo : FormsK K w aF
  gF : mg "FORMS" = some (.ref aF)
  len : mg "len" = none
  zip : mg "zip" = none
  tup : mg "tuple" = none
section
variable {P : Program} {w : World} {K : PySem.W.Frag} {mg : Str → Option Value} {base : Heap} {A fN fE fS IT fX aF : Addr}
theorem scParse : FnScope PN ["text"] (defScope sParse) := ⟨rfl, rfl, rfl, by decide +kernel, rfl, by decide +kernel, by decide +kernel⟩
theorem parse_tail (T : TPs K w mg A fN fE fS IT fX aF) (CR : Cal P w K mg base (L2.CX P w) 3 "read_word" ["form", "word", "text"] (spRead IT)) {fI : Addr} {fdI : FuncData} (M : Mk K A fI)
    (FI : FunD K "__init__" "Claim.__init__" (defArgs sInit) (defBody sInit) (defScope sInit) [.bl true] [] fI fdI)
    {f : Addr} (cdv : Value) (A' : Around) (outer : List Env) (s : Shared) (H0 : Hp) (E : XK) (hr : Room 3 (A'.deeper (envOfC "parse_claim" (defScope sParse) s.heap.objs.size f cdv))) :
    ∃ u, PSs (cxOf (L2.CX P w) P w K mg base PN "parse_claim" (defScope sParse) f cdv A' outer s H0 E) ((defBody sParse).drop 3) u ∧
      ∀ (D : Ends) (t : Str) (wa : Addr) (ws : List Str) (pos : Bool) (H H' : Hp), Same H H' → H' wa = some (.lst (ws.map V.str)) → (∀ x ∈ ws, x.length ≤ 10000) → ws.length ≤ 100000 →
        (∀ xs, readK ws = some xs → ∀ (c a dx : Addr) (H' : Hp), H c = none → Same H H' → H' c = some (.ins A dx (cf a pos)) → SqT K H' a xs → D.rt (.ref c) H') →
        (readK ws = none → ∀ d H', Same H H' → H' d = some (wrongOf t) → E (.ref IT) (some d) H') → u D [some (.str t), some (.ref wa), some (.bl pos), none, none, none, none] H' := by
  have GI : FnOk P w K mg base CX0 1 fI fdI ["self", "words", "positive"] (spInit K A fN fE fS) := ok_init FI
  have hr2 : Room 2 _ := hr.mono (by decide)
  have hr1 : Room 1 _ := hr.mono (by decide)
  obtain ⟨es, n, hF, hlit, hz⟩ := T.fo.ex
  refine ⟨_, pss_cons (ps_if (PW.pt (pw_or (pt_cmpR op_eq (pe_callB call_len_seq (by rfl) T.len PySem.boot_len (pa_cons (pv 1) pa_nil)) pe_int (nomark _)) (pw_or1 (pt_cmpR op_notInK (pe_ix ix_list (pv 1) pe_int (fun _ _ => rfl)) (pgR T.gF) (by rfl)))))
        (pss_one (ps_raiseWrong (W := fun cls d _ H => E cls d H) rfl T.wr hr1 (takes_of rfl rfl rfl rfl) (by exact (pa_cons (pv 0) pa_nil)))) pss_nil)
    (pss_cons (ps_set (i := 3) scParse.nd rfl (Or.inl rfl) (pe_ix ix_kdict (pgR T.gF) (pe_ix ix_list (pv 1) pe_int (fun _ _ => rfl)) (fun _ _ => rfl)))
    (pss_cons (ps_if (pt_cmpR op_ne (pe_callB call_len_seq (by rfl) T.len PySem.boot_len (pa_cons (pv 1) pa_nil)) (pe_op op_add (pe_callB call_len_seq (by rfl) T.len PySem.boot_len (pa_cons (pv 3) pa_nil)) pe_int) (nomark _))
        (pss_one (ps_raiseWrong (W := fun cls d _ H => E cls d H) rfl T.wr hr1 (takes_of rfl rfl rfl rfl) (by exact (pa_cons (pv 0) pa_nil)))) pss_nil)
    (pss_cons (ps_set (i := 4) scParse.nd rfl (Or.inl rfl) (pe_lst (pa_cons (pe_ix ix_list (pv 1) pe_int (fun _ _ => rfl)) pa_nil)))
    (pss_cons (ps_for (passes_of rfl) rfl (pi_zipM (by rfl) T.zip (pa_cons (pv 3) (pa_cons (pe_slice sl_list (pv 1) (po_some pe_int) po_none) pa_nil)))
        (pg_tup rfl (pgs_cons (pg_name (i := 5) scParse.nd rfl (Or.inl rfl)) (pgs_cons (pg_name (i := 6) scParse.nd rfl (Or.inl rfl)) pgs_nil)))
        (pss_one (ps_expr (pe_bm PySem.F.plainAttrs_list PySem.F.slot_list_append PySem.F.type_list_append mt_append (pv 4)
          (pa_cons (pe_cal CR hr (passes_call (E := E) (W := fun cls d _ H => E cls d H) (takes_of rfl rfl rfl rfl) (fun _ _ _ _ h => h)) (pa_cons (pv 5) (pa_cons (pv 6) (pa_cons (pv 0) pa_nil)))) pa_nil)))))
    (pss_one (ps_ret (pe_make M GI hr2 rfl T.top.gA (init_binds3 FI) .nil pass0 (pa_cons (pe_callTy call_tuple_of (by rfl) T.tup boot_tuple (pa_cons (pv 4) pa_nil)) (pa_cons (pv 2) pa_nil))))))))), ?_⟩
  intro D t wa ws pos H H' sm hw hx hcnt kS kE
  have wrg : ∀ {H1 : Hp}, Same H H1 → readK ws = none → tRaiseWrong IT (fun cls d _ H => E cls d H) (tCons (tVar 0) tNil) D [some (.str t), some (.ref wa), some (.bl pos), none, none, none, none] H1 := fun {H1} e hn =>
    ⟨_, rfl, _, rfl, fun d hd => kE hn d _ (e.trans (same_new hd)) upd_same⟩
  refine ⟨_, rfl, wa, _, rfl, .inl (SqL.of hw), rfl, _, rfl, ?_⟩
  cases ws with
  | nil => exact ifT (by decide +kernel) (iteT ⟨_, rfl, _, rfl, fun d hd => kE rfl d _ (sm.trans (same_new hd)) upd_same⟩)
  | cons k r =>
    have n0 : decide (V.int (((k :: r).map V.str).length : Nat) = V.int 0) = false := decide_eq_false fun z => by
      injection z with z
      rw [List.map_cons, List.length_cons] at z
      omega
    refine ifF n0 ⟨_, rfl, wa, _, 0, _, rfl, rfl, SqL.of hw, atI_nat (j := 0) rfl, ?_⟩
    have hk := hz k
    cases e : formsOf k with
    | none =>
      rw [e] at hk
      have rn : readK (k :: r) = none := by
        show (match formsOf k with | none => none | some fs => (readAll fs r).map (V.str k :: ·)) = none
        rw [e]
      exact ⟨aF, k, es, n, none, rfl, rfl, hF, hlit, T.fo.low, hk, _, rfl, iteT ⟨_, rfl, _, rfl, fun d hd => kE rn d _ (sm.trans (same_new hd)) upd_same⟩⟩
    | some fs =>
      rw [e] at hk
      obtain ⟨fa, hn, hfa⟩ := hk
      have rk : readK (k :: r) = (readAll fs r).map (V.str k :: ·) := by
        show (match formsOf k with | none => none | some fs => (readAll fs r).map (V.str k :: ·)) = _
        rw [e]
      refine ⟨aF, k, es, n, some (.ref fa), rfl, rfl, hF, hlit, T.fo.low, hn, _, rfl, iteF ?_⟩
      refine ⟨_, rfl, wa, _, 0, _, rfl, rfl, SqL.of hw, atI_nat (j := 0) rfl, aF, k, .ref fa, rfl, rfl, ⟨es, n, _, hF, hlit, hn, rel_ref fa⟩, ?_⟩
      refine ⟨_, rfl, wa, _, rfl, .inl (SqL.of hw), _, rfl, fa, _, rfl, .inr (hfa _), _, _, rfl, rfl, rfl, _, rfl, ?_⟩
      by_cases hl : fs.length = r.length
      · have eq1 : (!decide (V.int (((k :: r).map V.str).length : Nat) = V.int (((fs.map fun f => V.str (fmS f)).length : Nat) + 1))) = false := by
          rw [decide_eq_true]
          · rfl
          · rw [List.map_cons, List.length_cons, List.length_map, List.length_map, hl]
            rfl
        refine ifF eq1 ?_
        refine ⟨_, rfl, wa, _, 0, _, rfl, rfl, SqL.of hw, atI_nat (j := 0) rfl, (by show 1 ≤ sizeLine; decide), fun ia hia => ?_⟩
        have hia0 : H ia = none := sm.free hia
        have nwi : wa ≠ ia := ne_of_none hw hia
        have s1 : Same H (upd H' ia (.lst [.str k])) := sm.trans (same_new hia)
        have w1 : upd H' ia (.lst [.str k]) wa = some (.lst ((k :: r).map V.str)) := by rw [upd_ne nwi]; exact hw
        refine ⟨_, rfl, _, rfl, 1, rfl, wa, _, rfl, SqL.of w1, fun sl hsl => ?_⟩
        rw [cut1]
        have nsi : sl ≠ ia := by
          intro z
          rw [z, upd_same] at hsl
          cases hsl
        have hsl0 : H sl = none := s1.free hsl
        refine ⟨fa, sl, _, _, rfl, hfa _, SqL.of upd_same, for_it (walk_zipM (K := K) (a := fa) (b := sl) (xs := fs.map fun f => V.str (fmS f)) (ys := r.map V.str) (by rw [List.length_map, List.length_map, hl]))
          (fun i σ H1 => ∃ (vs : List V) (v5 v6 : Option V), σ = [some (.str t), some (.ref wa), some (.bl pos), some (.ref fa), some (.ref ia), v5, v6] ∧ readAll (fs.take i) (r.take i) = some vs ∧ Same H H1 ∧ H1 ia = some (.lst (.str k :: vs)) ∧ H1 sl = some (.lst (r.map V.str)))
          ⟨[], none, none, rfl, by simp [readAll], s1.trans (same_new hsl), by rw [upd_ne nsi.symm]; exact upd_same, upd_same⟩ (fun i σ H1 _ ⟨_, _, _, _, _, _, _, q⟩ => ⟨hfa _, SqL.of q⟩) ?_ ?_⟩
        · rintro i z0 σ H1 H1' hi ⟨vs, v5, v6, rfl, hrd, s2, i2, l2⟩ ⟨Tp, x, y, rfl, hTp, rfl, hx1, hy1⟩
          replace hx1 : (fs.map fun f => V.str (fmS f))[i]? = some x := hx1
          replace hy1 : (r.map V.str)[i]? = some y := hy1
          obtain ⟨fm, hfm, rfl⟩ : ∃ fm, fs[i]? = some fm ∧ x = V.str (fmS fm) := by
            rw [List.getElem?_map] at hx1
            cases q : fs[i]? with
            | none => rw [q] at hx1; cases hx1
            | some fm =>
              rw [q] at hx1
              exact ⟨fm, rfl, (Option.some.inj hx1).symm⟩
          obtain ⟨wd, hwd, rfl⟩ : ∃ wd, r[i]? = some wd ∧ y = V.str wd := by
            rw [List.getElem?_map] at hy1
            cases q : r[i]? with
            | none => rw [q] at hy1; cases hy1
            | some wd =>
              rw [q] at hy1
              exact ⟨wd, rfl, (Option.some.inj hy1).symm⟩
          have s3 : Same H (upd H1 Tp (.tup [.str (fmS fm), .str wd])) := s2.trans (same_new hTp)
          have i3 : upd H1 Tp (.tup [.str (fmS fm), .str wd]) ia = some (.lst (.str k :: vs)) := by rw [upd_ne (ne_of_none i2 hTp)]; exact i2
          have l3 : upd H1 Tp (.tup [.str (fmS fm), .str wd]) sl = some (.lst (r.map V.str)) := by rw [upd_ne (ne_of_none l2 hTp)]; exact l2
          have hwl : wd.length ≤ 10000 := hx wd (List.mem_cons_of_mem _ (List.mem_of_getElem? hwd))
          have step : readAll (fs.take (i + 1)) (r.take (i + 1)) = (readW fm wd).map fun v => vs ++ [v] := by
            rw [List.take_add_one, List.take_add_one, hfm, hwd]
            exact all_snoc hrd
          refine ⟨Tp, _, rfl, SqT.of upd_same, rfl, _, _, rfl, _, _, rfl, rfl, ?_⟩
          refine ⟨_, rfl, .inl ⟨rfl, _, SqL.of i3⟩, _, rfl, _, rfl, _, rfl, fm, wd, t, rfl, Nat.le_trans hwl (by decide), ?_⟩
          cases q : readW fm wd with
          | some v =>
            rw [q] at step
            intro H4 s4
            have i4 := s4 _ _ i3
            have l4 := s4 _ _ l3
            have hvl : vs.length ≤ 100000 := by
              have z := all_out hrd
              have z2 : (fs.take i).length ≤ fs.length := List.length_take_le' i fs
              simp only [List.length_cons] at hcnt
              omega
            refine ⟨ia, _, v, rfl, rfl, i4, (by rw [List.length_cons]; exact Nat.lt_of_le_of_lt (show vs.length + 1 ≤ 100001 by omega) (by decide)), ?_⟩
            refine ⟨vs ++ [v], _, _, rfl, step, ?_, ?_, ?_⟩
            · intro c o ec
              rw [upd_ne (ne_of_none ec hia0)]
              exact s4 _ _ (s3 _ _ ec)
            · exact upd_same
            · rw [upd_ne nsi]
              exact l4
          | none =>
            have rn : readK (k :: r) = none := by rw [rk, all_fail hfm hwd q]; rfl
            intro d H4 s4 hd4
            exact kE rn d H4 (s3.trans s4) hd4
        · rintro σ H1 ⟨vs, v5, v6, rfl, hrd, s2, i2, l2⟩
          rw [List.length_map, List.take_length, hl, List.take_length] at hrd
          have rsome : readK (k :: r) = some (.str k :: vs) := by rw [rk, hrd]; rfl
          refine ⟨_, rfl, ia, _, rfl, .inl ⟨SqL.of i2, fun tp htp => ?_⟩⟩
          have htp0 : H tp = none := s2.free htp
          refine ⟨_, rfl, fun x dy hx' hdy ne => ?_⟩
          have ntx : tp ≠ x := by
            intro z
            rw [← z, upd_same] at hx'
            cases hx'
          have ntd : tp ≠ dy := by
            intro z
            rw [← z, upd_same] at hdy
            cases hdy
          have hx0 : H x = none := by
            rw [upd_ne ntx.symm] at hx'
            exact s2.free hx'
          have hdy0 : H dy = none := by
            rw [upd_ne ntd.symm] at hdy
            exact s2.free hdy
          refine ⟨x, tp, A, dy, pos, rfl, upd_same, T.fam, rfl, ?_⟩
          rw [upd2]
          refine kS _ rsome x tp dy _ hx0 ?_ upd_same ?_
          · intro c o ec
            rw [upd_ne (ne_of_none ec hx0), upd_ne (ne_of_none ec hdy0), upd_ne (ne_of_none ec htp0)]
            exact s2 _ _ ec
          · refine SqT.of ?_
            rw [upd_ne ntx, upd_ne ntd]
            exact upd_same
      · have eq1 : (!decide (V.int (((k :: r).map V.str).length : Nat) = V.int (((fs.map fun f => V.str (fmS f)).length : Nat) + 1))) = true := by
          rw [decide_eq_false]
          · rfl
          · intro z
            injection z with z
            rw [List.map_cons, List.length_cons, List.length_map, List.length_map] at z
            omega
        have rn : readK (k :: r) = none := by rw [rk, all_long hl]; rfl
        exact ifT eq1 ⟨_, rfl, _, rfl, fun d hd => kE rn d _ (sm.trans (same_new hd)) upd_same⟩
theorem ok_parse (T : TPs K w mg A fN fE fS IT fX aF) (CR : Cal P w K mg base (L2.CX P w) 3 "read_word" ["form", "word", "text"] (spRead IT)) {fI : Addr} {fdI : FuncData} (M : Mk K A fI)
    (FI : FunD K "__init__" "Claim.__init__" (defArgs sInit) (defBody sInit) (defScope sInit) [.bl true] [] fI fdI) {f : Addr} {fd : FuncData} (F : Fun K "parse_claim" "parse_claim" sParse f fd) :
    FnOk P w K mg base (L2.CX P w) 4 f fd ["text"] (spParse K A fN fE fS IT) := by
  refine F.okX scParse (fun vs H Q E h => ?_) (fun cdv A' outer s H vs Q E hr h => ?_)
  · obtain ⟨t, rfl, _⟩ := h
    rfl
  · obtain ⟨t, rfl, ht, k⟩ := h
    obtain ⟨u, hu, ru⟩ := parse_tail T CR M FI (f := f) cdv A' outer s H E hr
    refine ⟨_, pss_cons (ps_set (i := 1) scParse.nd rfl (Or.inl rfl) (pe_split (pv 0) pe_str))
      (pss_cons (ps_set (i := 2) scParse.nd rfl (Or.inl rfl) (pe_cmpR op_ne (pe_ix ix_list (pv 1) pe_int (fun _ _ => rfl)) pe_str (nomark _)))
      (pss_cons (ps_if (pt_not (pt_val (pv 2))) (pss_one (ps_set (i := 1) scParse.nd rfl (Or.inl rfl) (pe_slice sl_list (pv 1) (po_some pe_int) po_none))) pss_nil) hu)), ?_⟩
    obtain ⟨c1, c2⟩ := words_count t
    have wl : ∀ x ∈ Txt.split t " ", x.length ≤ 10000 := fun x hx => Nat.le_trans (word_le hx) ht
    have ek : parse t = (readK (bodyOf (Txt.split t " "))).map fun xs => (posOf (Txt.split t " "), xs) := rfl
    rw [ek] at k
    obtain ⟨ws, ews⟩ : ∃ ws, Txt.split t " " = ws := ⟨_, rfl⟩
    rw [ews] at c1 c2 wl k
    refine ⟨_, rfl, ⟨_, rfl⟩, _, _, rfl, rfl, (by decide +kernel), Nat.le_trans (show t.length + 2 ≤ 10002 by omega) (by decide), fun wa hwa => ?_⟩
    cases ws with
    | nil => simp at c1
    | cons k0 r =>
      have hat : (List.map V.str (Txt.split t " "))[0]? = some (V.str k0) := by rw [ews]; rfl
      have hup : upd H wa (.lst ((Txt.split t " ").map V.str)) wa = some (.lst ((k0 :: r).map V.str)) := by rw [ews]; exact upd_same
      refine ⟨_, rfl, wa, _, 0, _, rfl, rfl, SqL.of upd_same, atI_nat (j := 0) hat, rfl, ?_⟩
      rw [str_dec]
      have s1 : Same H (upd H wa (.lst ((Txt.split t " ").map V.str))) := same_new hwa
      cases hp : (!decide (k0 = "not")) with
      | true =>
        have hp' : posOf (k0 :: r) = true := hp
        have hb : bodyOf (k0 :: r) = k0 :: r := by unfold bodyOf; rw [hp', if_pos rfl]
        rw [hp', hb] at k
        refine ⟨_, rfl, _, rfl, iteF (ru _ t wa (k0 :: r) true H _ s1 hup wl (by omega) (fun xs e => ?_) fun e => ?_)⟩
        · rw [e] at k
          exact k
        · rw [e] at k
          exact k
      | false =>
        have hp' : posOf (k0 :: r) = false := hp
        have hb : bodyOf (k0 :: r) = r := by unfold bodyOf; rw [hp', if_neg Bool.false_ne_true]; rfl
        rw [hp', hb] at k
        refine ⟨_, rfl, _, rfl, iteT ⟨_, rfl, 1, rfl, wa, _, rfl, SqL.of hup, fun wb hwb => ?_⟩⟩
        rw [cut1]
        refine ru _ t wb r false H _ (s1.trans (same_new hwb)) upd_same (fun x hx => wl x (List.mem_cons_of_mem _ hx)) (by simp only [List.length_cons] at c2; omega) (fun xs e => ?_) fun e => ?_
        · rw [e] at k
          exact k
        · rw [e] at k
          exact k
end
end L2.HK
/-! K4c: _law_free_row. -/
namespace L2.HK
open PySem PySem.Spec PyProof.Rows L2.HR
def spRow : Sp := fun vs H Q _ => ∃ b l : Addr, vs = [.ref b] ∧ Bx H b l ∧ ∀ (r t : Addr) (pos : Bool) (xs : List V) (H' : Hp), RowOk xs → H' r = some (.tup [.bl pos, .ref t]) → H' t = some (.tup xs) → Bx H' b l → Kp b H H' → Q (.ref r) H'
theorem pick4 {ys : List Str} (h4 : ys.length = 4) (hn : ∀ y ∈ ys, NameS y) {d : Int} (h0 : 0 ≤ d) (h1 : d < 4) : ∃ y, atI (ys.map V.str ++ [V.non]) d = some (.str y) ∧ NameS y := by
  obtain ⟨j, rfl⟩ : ∃ j : Nat, d = (j : Int) := ⟨d.toNat, by omega⟩
  have hj : j < ys.length := by omega
  refine ⟨ys[j], atI_nat ?_, hn _ (List.getElem_mem hj)⟩
  rw [List.getElem?_append_left (by rw [List.length_map]; exact hj), List.getElem?_map, List.getElem?_eq_getElem hj]
  rfl
theorem pick5 {ys : List Str} (h4 : ys.length = 4) (hn : ∀ y ∈ ys, NameS y) {d : Int} (h0 : 0 ≤ d) (h1 : d < 5) : ∃ v, atI (ys.map V.str ++ [V.non]) d = some v ∧ OptN v := by
  by_cases h : d < 4
  · obtain ⟨y, e, n⟩ := pick4 h4 hn h0 h
    exact ⟨_, e, .inr ⟨y, rfl, n⟩⟩
  · have e : d = ((4 : Nat) : Int) := by omega
    subst e
    refine ⟨.non, atI_nat ?_, .inl rfl⟩
    rw [List.getElem?_append_right (by rw [List.length_map]; omega), List.length_map, h4]
    rfl
theorem pickN {d : Int} (h0 : 0 ≤ d) (h1 : d < 4) : ∃ n : Int, atI ([.int 10, .int 100, .int 1000, .int 10000] : List V) d = some (.int n) ∧ 0 < n ∧ n ≤ 10000 := by
  have e : d = 0 ∨ d = 1 ∨ d = 2 ∨ d = 3 := by omega
  rcases e with rfl | rfl | rfl | rfl
  · exact ⟨10, atI_nat (j := 0) rfl, by decide, by decide⟩
  · exact ⟨100, atI_nat (j := 1) rfl, by decide, by decide⟩
  · exact ⟨1000, atI_nat (j := 2) rfl, by decide, by decide⟩
  · exact ⟨10000, atI_nat (j := 3) rfl, by decide, by decide⟩
theorem pick2 {d e : Int} (h0 : 0 ≤ d) (h1 : d < 2) (e0 : 0 ≤ e) (e1 : e < 10000) : ∃ v : V, atI ([.non, .int e] : List V) d = some v ∧ OptI v := by
  have q : d = 0 ∨ d = 1 := by omega
  rcases q with rfl | rfl
  · exact ⟨.non, atI_nat (j := 0) rfl, .inl rfl⟩
  · exact ⟨.int e, atI_nat (j := 1) rfl, .inr ⟨e, rfl, e0, e1⟩⟩
abbrev RN : List Str := ["_law_box_here", "_law_names_here", "_law_positive", "_law_kind", "_law_one", "_law_two", "_law_three", "_law_number"]
section
variable {P : Program} {w : World} {K : PySem.W.Frag} {mg : Str → Option Value} {base : Heap}
theorem scRow : FnScope RN ["_law_box_here"] (defScope sRow) := ⟨rfl, rfl, rfl, by decide +kernel, rfl, by decide +kernel, by decide +kernel⟩
theorem ok_row {f : Addr} {fd : FuncData} (F : Fun K "_law_free_row" "_law_free_row" sRow f fd) (C : Cal P w K mg base CX0 1 "_law_take" ["_law_box_here", "_law_size"] spTake)
    (CN : Cal P w K mg base CX0 2 "_law_names" ["_law_box_here", "_law_count"] spNames) : FnOk P w K mg base CX0 3 f fd ["_law_box_here"] spRow := by
  refine F.ok scRow (fun vs H Q E h => ?_) (fun cdv A outer s H vs Q E hr h => ?_)
  · obtain ⟨b, l, rfl, _⟩ := h
    rfl
  · obtain ⟨b, l, rfl, hB, k⟩ := h
    have hr1 : Room 1 _ := hr.mono (by decide)
    refine ⟨_, pss_cons (ps_set (i := 1) scRow.nd rfl (Or.inl rfl) (pe_op op_cat (pe_cal CN hr pass0 (pa_cons (pv 0) (pa_cons pe_int pa_nil))) (pe_lst (pa_cons pe_non pa_nil))))
      (pss_cons (ps_set (i := 2) scRow.nd rfl (Or.inl rfl) (pe_cmpR op_eq (pe_cal C hr1 pass0 (pa_cons (pv 0) (pa_cons pe_int pa_nil))) pe_int (nomark _)))
      (pss_cons (ps_set (i := 3) scRow.nd rfl (Or.inl rfl) (pe_cal C hr1 pass0 (pa_cons (pv 0) (pa_cons pe_int pa_nil))))
      (pss_cons (ps_set (i := 4) scRow.nd rfl (Or.inl rfl) (pe_ix ix_list (pv 1) (pe_cal C hr1 pass0 (pa_cons (pv 0) (pa_cons pe_int pa_nil))) (fun _ _ => rfl)))
      (pss_cons (ps_set (i := 5) scRow.nd rfl (Or.inl rfl) (pe_ix ix_list (pv 1) (pe_cal C hr1 pass0 (pa_cons (pv 0) (pa_cons pe_int pa_nil))) (fun _ _ => rfl)))
      (pss_cons (ps_set (i := 6) scRow.nd rfl (Or.inl rfl) (pe_ix ix_list (pv 1) (pe_cal C hr1 pass0 (pa_cons (pv 0) (pa_cons pe_int pa_nil))) (fun _ _ => rfl)))
      (pss_cons (ps_set (i := 7) scRow.nd rfl (Or.inl rfl) (pe_cal C hr1 pass0 (pa_cons (pv 0) (pa_cons (pe_ix ix_list (pe_lst (pa_cons pe_int (pa_cons pe_int (pa_cons pe_int (pa_cons pe_int pa_nil))))) (pe_cal C hr1 pass0 (pa_cons (pv 0) (pa_cons pe_int pa_nil))) (fun _ _ => rfl)) pa_nil))))
      (pss_cons (ps_if (pt_cmpR op_eq (pv 3) pe_int (nomark _)) (pss_one (ps_ret (pe_tup (pa_cons (pv 2) (pa_cons (pe_tup (pa_cons pe_str (pa_cons (pv 4) (pa_cons (pv 7) (pa_cons (pv 5) pa_nil))))) pa_nil))))) pss_nil)
      (pss_cons (ps_if (pt_cmpR op_eq (pv 3) pe_int (nomark _)) (pss_one (ps_ret (pe_tup (pa_cons (pv 2) (pa_cons (pe_tup (pa_cons pe_str (pa_cons (pv 5) (pa_cons (pv 6) (pa_cons (pv 7) (pa_cons
          (pe_ix ix_list (pe_lst (pa_cons pe_non (pa_cons (pe_cal C hr1 pass0 (pa_cons (pv 0) (pa_cons pe_int pa_nil))) pa_nil))) (pe_cal C hr1 pass0 (pa_cons (pv 0) (pa_cons pe_int pa_nil))) (fun _ _ => rfl)) pa_nil)))))) pa_nil))))) pss_nil)
      (pss_cons (ps_if (pt_cmpR op_eq (pv 3) pe_int (nomark _)) (pss_one (ps_ret (pe_tup (pa_cons (pv 2) (pa_cons (pe_tup (pa_cons pe_str (pa_cons (pv 4) (pa_cons (pv 5) pa_nil)))) pa_nil))))) pss_nil)
      (pss_cons (ps_if (pt_cmpR op_eq (pv 3) pe_int (nomark _)) (pss_one (ps_ret (pe_tup (pa_cons (pv 2) (pa_cons (pe_tup (pa_cons pe_str (pa_cons (pv 7) pa_nil))) pa_nil))))) pss_nil)
      (pss_one (ps_ret (pe_tup (pa_cons (pv 2) (pa_cons (pe_tup (pa_cons pe_str (pa_cons (pv 4) (pa_cons (pv 5) (pa_cons (pv 6) pa_nil))))) pa_nil))))))))))))))), ?_⟩
    -- the names
    refine ⟨_, rfl, b, l, rfl, hB, fun p ys H1 h4 hn hp0 hp B1 k1 => ⟨(by show 1 ≤ sizeLine; decide), fun q hq => ?_⟩⟩
    have nqp : p ≠ q := ne_of_none hp hq
    have B2 := B1.new (o := .lst [.non]) hq
    refine ⟨p, q, _, _, rfl, rfl, (by rw [upd_ne nqp]; exact hp), upd_same, (by rw [List.length_map]; exact Nat.le_of_lt (small1000 (by show ys.length + 1 ≤ 1000; omega))), fun m hm => ?_⟩
    have B3 := B2.new (o := .lst (ys.map V.str ++ [.non])) hm
    have K3 : Kp b H _ := (k1.trans (Kp.new (o := .lst [.non]) hq)).trans (Kp.new (o := .lst (ys.map V.str ++ [.non])) hm)
    generalize hH3 : upd (upd H1 q (HO.lst [V.non])) m (HO.lst (ys.map V.str ++ [V.non])) = H3 at B3 K3 ⊢
    have m3 : H3 m = some (.lst (ys.map V.str ++ [.non])) := by rw [← hH3]; exact upd_same
    have nmb : m ≠ b := fun z => by
      obtain ⟨_, _, _, _, e, _⟩ := B3
      rw [← z, m3] at e
      have e' := congrArg List.length (HO.lst.inj (Option.some.inj e))
      rw [List.length_append, List.length_map, h4] at e'
      cases e'
    refine ⟨_, rfl, b, l, 2, rfl, B3, by decide, by decide, fun dp H4 dp0 dp1 B4 k4 => ⟨rfl, ?_⟩⟩
    refine ⟨_, rfl, b, l, 5, rfl, B4, by decide, by decide, fun kd H5 kd0 kd1 B5 k5 => ?_⟩
    refine ⟨_, rfl, _, rfl, b, l, 4, rfl, B5, by decide, by decide, fun d1 H6 d10 d11 B6 k6 => ?_⟩
    have m6 : H6 m = some (.lst (ys.map V.str ++ [.non])) := (k6 m nmb).trans ((k5 m nmb).trans ((k4 m nmb).trans m3))
    obtain ⟨y1, e1, n1⟩ := pick4 h4 hn d10 d11
    refine ⟨m, _, _, _, rfl, rfl, SqL.of m6, e1, ?_⟩
    refine ⟨_, rfl, _, rfl, b, l, 5, rfl, B6, by decide, by decide, fun d2 H7 d20 d21 B7 k7 => ?_⟩
    have m7 := (k7 m nmb).trans m6
    obtain ⟨y2, e2, n2⟩ := pick5 h4 hn d20 d21
    refine ⟨m, _, _, _, rfl, rfl, SqL.of m7, e2, ?_⟩
    refine ⟨_, rfl, _, rfl, b, l, 5, rfl, B7, by decide, by decide, fun d3 H8 d30 d31 B8 k8 => ?_⟩
    have m8 := (k8 m nmb).trans m7
    obtain ⟨y3, e3, n3⟩ := pick5 h4 hn d30 d31
    refine ⟨m, _, _, _, rfl, rfl, SqL.of m8, e3, ?_⟩
    -- the number
    refine ⟨_, rfl, (by show 4 ≤ sizeLine; decide), fun g hg => ?_⟩
    have B9 := B8.new (o := .lst [.int 10, .int 100, .int 1000, .int 10000]) hg
    refine ⟨_, rfl, b, l, 4, rfl, B9, by decide, by decide, fun d4 H10 d40 d41 B10 k10 => ?_⟩
    obtain ⟨nn, e4, nn0, nn1⟩ := pickN d40 d41
    refine ⟨g, _, _, _, rfl, rfl, SqL.of ((k10 g (B8.free hg).1).trans upd_same), e4, ?_⟩
    refine ⟨b, l, nn, rfl, B10, nn0, by omega, fun num H11 num0 num1 B11 k11 => ?_⟩
    have hnum : NumI num := ⟨num0, by omega⟩
    have K11 : Kp b H H11 := K3.trans ((Kp.of k4).trans ((Kp.of k5).trans ((Kp.of k6).trans ((Kp.of k7).trans ((Kp.of k8).trans ((Kp.new hg).trans ((Kp.of k10).trans (Kp.of k11))))))))
    have fin : ∀ {xs : List V} {H' : Hp} {t r : Addr} {ps : Bool}, RowOk xs → Bx H' b l → Kp b H H' → H' t = none → upd H' t (.tup xs) r = none → Q (.ref r) (upd (upd H' t (.tup xs)) r (.tup [.bl ps, .ref t])) := by
      intro xs H' t r ps R B' K' ht hr'
      have ntr : t ≠ r := by
        intro z
        rw [← z, upd_same] at hr'
        cases hr'
      refine k r t ps xs _ R upd_same (by rw [upd_ne ntr]; exact upd_same) ((B'.new ht).new hr') ((K'.trans (Kp.new ht)).trans (Kp.new hr'))
    refine ⟨_, rfl, rfl, _, rfl, ite2 (fun c0 => ⟨_, rfl, _, rfl, _, rfl, _, rfl, (by show 4 ≤ sizeLine; decide), fun t ht => ⟨(by show 2 ≤ sizeLine; decide), fun r hr' => fin (.knew n1 hnum n2) B11 K11 ht hr'⟩⟩) fun c0 => ?_⟩
    refine ⟨_, rfl, rfl, _, rfl, ite2 (fun c1 => ?_) fun c1 => ?_⟩
    · refine ⟨_, rfl, _, rfl, _, rfl, _, rfl, _, rfl, b, l, 10000, rfl, B11, by decide, by decide, fun d5 H12 d50 d51 B12 k12 => ⟨(by show 2 ≤ sizeLine; decide), fun g2 hg2 => ?_⟩⟩
      have B13 := B12.new (o := .lst [.non, .int d5]) hg2
      refine ⟨_, rfl, b, l, 2, rfl, B13, by decide, by decide, fun d6 H14 d60 d61 B14 k14 => ?_⟩
      obtain ⟨v5, e5, n5⟩ := pick2 d60 d61 d50 d51
      refine ⟨g2, _, _, _, rfl, rfl, SqL.of ((k14 g2 (B12.free hg2).1).trans upd_same), e5, (by show 5 ≤ sizeLine; decide), fun t ht => ⟨(by show 2 ≤ sizeLine; decide), fun r hr' => fin (.told n2 n3 hnum n5) B14 (K11.trans ((Kp.of k12).trans ((Kp.new hg2).trans (Kp.of k14)))) ht hr'⟩⟩
    refine ⟨_, rfl, rfl, _, rfl, ite2 (fun c2 => ⟨_, rfl, _, rfl, _, rfl, (by show 3 ≤ sizeLine; decide), fun t ht => ⟨(by show 2 ≤ sizeLine; decide), fun r hr' => fin (.began n1 n2) B11 K11 ht hr'⟩⟩) fun c2 => ?_⟩
    refine ⟨_, rfl, rfl, _, rfl, ite2 (fun c3 => ⟨_, rfl, _, rfl, (by show 2 ≤ sizeLine; decide), fun t ht => ⟨(by show 2 ≤ sizeLine; decide), fun r hr' => fin (.held hnum) B11 K11 ht hr'⟩⟩) fun c3 => ?_⟩
    exact ⟨_, rfl, _, rfl, _, rfl, _, rfl, (by show 4 ≤ sizeLine; decide), fun t ht => ⟨(by show 2 ≤ sizeLine; decide), fun r hr' => fin (.turned n1 n2 n3) B11 K11 ht hr'⟩⟩
end
end L2.HK
/-! K4d: _law_reads. -/
namespace L2.HK
open PySem PySem.Spec PyProof.Rows L2.HR
abbrev sReads : Stmt := top 33
def lc : Fm → Nat
  | .name => 112
  | .num => 110
  | .any => 97
  | .last => 101
def D5 : List (Key × V) := [(.inr "knew", .str "pna"), (.inr "told", .str "aane"), (.inr "began", .str "pa"), (.inr "held", .str "n"), (.inr "turned", .str "paa")]
theorem d5_merge : mergeK [] D5 = D5 := by first | rfl | decide +kernel
theorem d5_some {z : Str} {fs : List Fm} (h : formsOf z = some fs) : ∃ cd : Str, valV D5 (.inr z) = some (.str cd) ∧ cd.cps.toList = fs.map lc := by
  unfold formsOf at h
  by_cases k1 : z = "knew"
  · rw [if_pos k1] at h
    rw [k1, ← Option.some.inj h]
    exact ⟨"pna", by decide +kernel, by decide +kernel⟩
  rw [if_neg k1] at h
  by_cases k2 : z = "told"
  · rw [if_pos k2] at h
    rw [k2, ← Option.some.inj h]
    exact ⟨"aane", by decide +kernel, by decide +kernel⟩
  rw [if_neg k2] at h
  by_cases k3 : z = "began"
  · rw [if_pos k3] at h
    rw [k3, ← Option.some.inj h]
    exact ⟨"pa", by decide +kernel, by decide +kernel⟩
  rw [if_neg k3] at h
  by_cases k4 : z = "held"
  · rw [if_pos k4] at h
    rw [k4, ← Option.some.inj h]
    exact ⟨"n", by decide +kernel, by decide +kernel⟩
  rw [if_neg k4] at h
  by_cases k5 : z = "turned"
  · rw [if_pos k5] at h
    rw [k5, ← Option.some.inj h]
    exact ⟨"paa", by decide +kernel, by decide +kernel⟩
  rw [if_neg k5] at h
  cases h
theorem d5_none {z : Str} (h : formsOf z = none) : valV D5 (.inr z) = none := by
  have n : ∀ k : Str, formsOf k ≠ none → ¬ (Sum.inr k : Key) = .inr z := fun k hk e => hk (by injection e with e; rw [e]; exact h)
  unfold D5
  rw [valV_neg (n _ (by rw [forms_knew]; exact fun q => nomatch q)), valV_neg (n _ (by rw [forms_told]; exact fun q => nomatch q)), valV_neg (n _ (by rw [forms_began]; exact fun q => nomatch q)),
    valV_neg (n _ (by rw [forms_held]; exact fun q => nomatch q)), valV_neg (n _ (by rw [forms_turned]; exact fun q => nomatch q))]
  rfl
def spReads (K : PySem.W.Frag) : Sp := fun vs H Q _ => ∃ t : Str, vs = [.str t] ∧ t.length ≤ 10000 ∧ Asc t ∧
  match parse t with
  | some (pos, xs) => ∀ (r a : Addr) (H' : Hp), Same H H' → SqT K H' r [.bl pos, .ref a] → SqT K H' a xs → Q (.ref r) H'
  | none => ∀ H', Same H H' → Q .non H'
abbrev LRN : List Str := ["_law_text_here", "_law_words", "_law_positive", "_law_forms", "_law_items", "_law_k", "_law_form"]
structure TLr (mg : Str → Option Value) : Prop where
  len : mg "len" = none
  int : mg "int" = none
  range : mg "range" = none
  tup : mg "tuple" = none
section
variable {P : Program} {w : World} {K : PySem.W.Frag} {mg : Str → Option Value} {base : Heap}
theorem scReads : FnScope LRN ["_law_text_here"] (defScope sReads) := ⟨rfl, rfl, rfl, by decide +kernel, rfl, by decide +kernel, by decide +kernel⟩
theorem reads_tail (T : TLr mg) (CN : Cal P w K mg base CX0 1 "_law_name_word" ["_law_word"] spNameW) (CM : Cal P w K mg base CX0 1 "_law_number_word" ["_law_word"] spNumW)
    {f : Addr} (cdv : Value) (A' : Around) (outer : List Env) (s : Shared) (H0 : Hp) (E : XK) (hr : Room 1 (A'.deeper (envOfC "_law_reads" (defScope sReads) s.heap.objs.size f cdv))) :
    ∃ u, PSs (cxOf CX0 P w K mg base LRN "_law_reads" (defScope sReads) f cdv A' outer s H0 E).nox ((defBody sReads).drop 3) u ∧
      ∀ (D : Ends) (t : Str) (wa : Addr) (ws : List Str) (pos : Bool) (H H' : Hp), Same H H' → H' wa = some (.lst (ws.map V.str)) → (∀ x ∈ ws, x.length ≤ 10000) → (∀ x ∈ ws, Asc x) → ws.length ≤ 100000 →
        (∀ xs, readK ws = some xs → ∀ (r a : Addr) (H' : Hp), Same H H' → SqT K H' r [.bl pos, .ref a] → SqT K H' a xs → D.rt (.ref r) H') →
        (readK ws = none → ∀ H', Same H H' → D.rt .non H') → u D [some (.str t), some (.ref wa), some (.bl pos), none, none, none, none] H' := by
  have hun := hr.units
  have hu := hu_of hr
  refine ⟨_, pss_cons (ps_set (i := 3) scReads.nd rfl (Or.inl rfl) (pe_disp (pps_cons pe_str pe_str (pps_cons pe_str pe_str (pps_cons pe_str pe_str (pps_cons pe_str pe_str (pps_cons pe_str pe_str pps_nil))))) rfl rfl (by simp) (by decide)))
    (pss_cons (ps_if (PW.pt (pw_or (pt_cmpR (op_eqD hun) (pv 1) (pe_lst pa_nil) (nomark _)) (pw_or (pt_cmp (pc_dnotin hu (pe_ix ix_list (pv 1) pe_int (fun _ _ => rfl)) (pv 3)) (by rfl)) (pw_or1 (pt_cmpR op_ne (pe_callB call_len_seq (by rfl) T.len PySem.boot_len (pa_cons (pv 1) pa_nil)) (pe_op op_add (pe_callB call_len_str (by rfl) T.len PySem.boot_len (pa_cons (pe_dget hu (pv 3) (pe_ix ix_list (pv 1) pe_int (fun _ _ => rfl)) (fun _ _ => rfl)) pa_nil)) pe_int) (nomark _)))))) (pss_one (ps_ret pe_non)) pss_nil)
    (pss_cons (ps_set (i := 4) scReads.nd rfl (Or.inl rfl) (pe_lst (pa_cons (pe_ix ix_list (pv 1) pe_int (fun _ _ => rfl)) pa_nil)))
    (pss_cons (ps_for PassesOwn.never rfl (pi_range2 (by rfl) T.range (pa_cons pe_int (pa_cons (pe_callB call_len_seq (by rfl) T.len PySem.boot_len (pa_cons (pv 1) pa_nil)) pa_nil))) (pg_name (i := 5) scReads.nd rfl (Or.inl rfl)) (pss_cons (ps_set (i := 6) scReads.nd rfl (Or.inl rfl) (pe_ix ix_str (pe_dget hu (pv 3) (pe_ix ix_list (pv 1) pe_int (fun _ _ => rfl)) (fun _ _ => rfl)) (pe_op op_sub (pv 5) pe_int) (fun _ _ => rfl))) (pss_one (ps_if (PW.pt (pw_or (PW.pt (pw_and (pt_cmpR op_eq (pv 6) pe_str (nomark _)) (pw_and1 (pt_cmpR op_eq (pe_ix ix_list (pv 1) (pv 5) (fun _ _ => rfl)) pe_str (nomark _))))) (pw_or1 (PW.pt (pw_and (pt_cmpR op_eq (pv 6) pe_str (nomark _)) (pw_and1 (pt_cmpR op_eq (pe_ix ix_list (pv 1) (pv 5) (fun _ _ => rfl)) pe_str (nomark _)))))))) (pss_one (ps_expr (pe_bm PySem.F.plainAttrs_list PySem.F.slot_list_append PySem.F.type_list_append mt_append (pv 4) (pa_cons pe_non pa_nil)))) (pss_one (ps_if (PW.pt (pw_and (pt_cmpR op_in_sign (pv 6) pe_str (by rfl)) (pw_and1 (pt_val (pe_cal CN hr pass0 (pa_cons (pe_ix ix_list (pv 1) (pv 5) (fun _ _ => rfl)) pa_nil)))))) (pss_one (ps_expr (pe_bm PySem.F.plainAttrs_list PySem.F.slot_list_append PySem.F.type_list_append mt_append (pv 4) (pa_cons (pe_ix ix_list (pv 1) (pv 5) (fun _ _ => rfl)) pa_nil)))) (pss_one (ps_if (PW.pt (pw_and (pt_cmpR op_in_sign (pv 6) pe_str (by rfl)) (pw_and1 (pt_val (pe_cal CM hr pass0 (pa_cons (pe_ix ix_list (pv 1) (pv 5) (fun _ _ => rfl)) pa_nil)))))) (pss_one (ps_expr (pe_bm PySem.F.plainAttrs_list PySem.F.slot_list_append PySem.F.type_list_append mt_append (pv 4) (pa_cons (pe_callTy call_int_str (by rfl) T.int boot_int (pa_cons (pe_ix ix_list (pv 1) (pv 5) (fun _ _ => rfl)) pa_nil)) pa_nil)))) (pss_one (ps_ret pe_non))))))))))
    (pss_one (ps_ret (pe_tup (pa_cons (pv 2) (pa_cons (pe_callTy call_tuple_of (by rfl) T.tup boot_tuple (pa_cons (pv 4) pa_nil)) pa_nil)))))))), ?_⟩
  intro D t wa ws pos H H' sm hw hx hasc hcnt kS kE
  intro fd hfd
  refine ⟨upd_same, D5, rfl, by decide, ?_⟩
  rw [upd2, d5_merge]
  have hfd0 : H fd = none := sm.free hfd
  have nwf : wa ≠ fd := ne_of_none hw hfd
  have s1 : Same H (upd H' fd (.dK D5)) := sm.trans (same_new hfd)
  have w1 : upd H' fd (.dK D5) wa = some (.lst (ws.map V.str)) := by rw [upd_ne nwf]; exact hw
  have f1 : upd H' fd (.dK D5) fd = some (.dK D5) := upd_same
  generalize upd H' fd (.dK D5) = G1 at s1 w1 f1 ⊢
  refine ⟨_, rfl, (by show 0 ≤ sizeLine; decide), fun l hl => ?_⟩
  have s2 : Same H (upd G1 l (.lst [])) := s1.trans (same_new hl)
  have w2 : upd G1 l (.lst []) wa = some (.lst (ws.map V.str)) := by rw [upd_ne (ne_of_none w1 hl)]; exact w1
  have f2 : upd G1 l (.lst []) fd = some (.dK D5) := by rw [upd_ne (ne_of_none f1 hl)]; exact f1
  have l2 : upd G1 l (.lst []) l = some (.lst []) := upd_same
  generalize upd G1 l (.lst []) = G2 at s2 w2 f2 l2 ⊢
  refine ⟨.list (ws.map PyData.str), .list [], .lst (SqL.of w2) strs_dp, .lst (SqL.of l2) .nil, strs_shaped hasc, by decide +kernel, ?_⟩
  rw [strs_nil]
  cases ws with
  | nil => exact ⟨_, rfl, iteT (iteT (kE rfl _ s2))⟩
  | cons k r =>
    refine ⟨_, rfl, iteF ⟨_, rfl, wa, _, 0, _, rfl, rfl, SqL.of w2, atI_nat (j := 0) (v := V.str k) rfl, _, rfl, fd, _, rfl, DGet.k (k := .inr k) f2, _, rfl, ?_⟩⟩
    cases e : formsOf k with
    | none =>
      have rn : readK (k :: r) = none := by
        show (match formsOf k with | none => none | some fs => (readAll fs r).map (V.str k :: ·)) = none
        rw [e]
      rw [d5_none e]
      exact iteT (iteT (kE rn _ s2))
    | some fs =>
      have rk : readK (k :: r) = (readAll fs r).map (V.str k :: ·) := by
        show (match formsOf k with | none => none | some fs => (readAll fs r).map (V.str k :: ·)) = _
        rw [e]
      obtain ⟨cd, e1, ecd⟩ := d5_some e
      have lcd : cd.length = fs.length := by
        rw [TL.len_tl]
        show cd.cps.toList.length = _
        rw [ecd, List.length_map]
      have lfs : fs.length ≤ 10 := by
        unfold formsOf at e
        split at e <;> first
          | (rw [← Option.some.inj e]; decide)
          | (split at e <;> first
            | (rw [← Option.some.inj e]; decide)
            | (split at e <;> first
              | (rw [← Option.some.inj e]; decide)
              | (split at e <;> first
                | (rw [← Option.some.inj e]; decide)
                | (split at e <;> first
                  | (rw [← Option.some.inj e]; decide)
                  | cases e))))
      have hcd : cd.length ≤ sizeLine := Nat.le_of_lt (small1000 (by omega))
      rw [e1]
      refine iteF ?_
      have dg : ∀ {G : Hp}, G fd = some (.dK D5) → DGet G fd (.str k) (some (.str cd)) := fun {G} g => .inl ⟨D5, .inr k, .inl g, rfl, e1.symm⟩
      refine ⟨_, rfl, wa, _, rfl, .inl (SqL.of w2), _, rfl, _, rfl, wa, _, 0, _, rfl, rfl, SqL.of w2, atI_nat (j := 0) (v := V.str k) rfl, fd, _, rfl, dg f2, cd, rfl, hcd, _, _, rfl, rfl, rfl, _, rfl, ?_⟩
      by_cases hl' : fs.length = r.length
      · have eq1 : (!decide (V.int (((k :: r).map V.str).length : Nat) = V.int ((cd.length : Nat) + 1))) = false := by
          rw [decide_eq_true]
          · rfl
          · rw [List.map_cons, List.length_cons, List.length_map, lcd, hl']
            rfl
        refine ifF eq1 ?_
        refine ⟨_, rfl, wa, _, 0, _, rfl, rfl, SqL.of w2, atI_nat (j := 0) (v := V.str k) rfl, (by show 1 ≤ sizeLine; decide), fun ia hia => ?_⟩
        have hia0 : H ia = none := s2.free hia
        have s3 : Same H (upd G2 ia (.lst [.str k])) := s2.trans (same_new hia)
        have w3 : upd G2 ia (.lst [.str k]) wa = some (.lst ((k :: r).map V.str)) := by rw [upd_ne (ne_of_none w2 hia)]; exact w2
        have f3 : upd G2 ia (.lst [.str k]) fd = some (.dK D5) := by rw [upd_ne (ne_of_none f2 hia)]; exact f2
        have i3 : upd G2 ia (.lst [.str k]) ia = some (.lst [.str k]) := upd_same
        have nwi : wa ≠ ia := ne_of_none w2 hia
        have nfi : fd ≠ ia := ne_of_none f2 hia
        generalize upd G2 ia (.lst [.str k]) = G3 at s3 w3 f3 i3 ⊢
        have el : ((((k :: r).map V.str).length : Nat) : Int) = (r.length : Int) + 1 := by rw [List.map_cons, List.length_cons, List.length_map]; rfl
        have hr5 : r.length ≤ 100000 := by simp only [List.length_cons] at hcnt; omega
        refine ⟨_, rfl, wa, _, rfl, .inl (SqL.of w3), _, _, rfl, ⟨by decide, by decide, by rw [el]; omega, by rw [el]; omega⟩, ?_⟩
        have en : ((((k :: r).map V.str).length : Nat) : Int) - 1 = (r.length : Int) := by rw [el]; omega
        rw [en, Int.toNat_natCast]
        refine for_range (n := r.length) (fun i σ H1 => ∃ (vs : List V) (v5 v6 : Option V), σ = [some (.str t), some (.ref wa), some (.bl pos), some (.ref fd), some (.ref ia), v5, v6] ∧ readAll (fs.take i) (r.take i) = some vs ∧ Same H H1 ∧ H1 ia = some (.lst (.str k :: vs)) ∧ H1 wa = some (.lst ((k :: r).map V.str)) ∧ H1 fd = some (.dK D5))
          ⟨[], none, none, rfl, by simp [readAll], s3, i3, w3, f3⟩ ?_ ?_
        · rintro i σ H1 hi ⟨vs, v5, v6, rfl, hrd, s4, i4, w4, f4⟩
          have hi2 : i < fs.length := by omega
          obtain ⟨fm, hfm⟩ : ∃ fm, fs[i]? = some fm := ⟨fs[i], List.getElem?_eq_getElem hi2⟩
          obtain ⟨wd, hwd⟩ : ∃ wd, r[i]? = some wd := ⟨r[i], List.getElem?_eq_getElem hi⟩
          have hwl : wd.length ≤ 10000 := hx wd (List.mem_cons_of_mem _ (List.mem_of_getElem? hwd))
          have hwz : wd.length ≤ sizeLine := Nat.le_trans hwl (by decide)
          have step : readAll (fs.take (i + 1)) (r.take (i + 1)) = (readW fm wd).map fun v => vs ++ [v] := by
            rw [List.take_add_one, List.take_add_one, hfm, hwd]
            exact all_snoc hrd
          have hvl : vs.length ≤ 100000 := by
            have z := all_out hrd
            have z2 : (fs.take i).length ≤ fs.length := List.length_take_le' i fs
            omega
          have atw : atI ((k :: r).map V.str) (1 + (i : Int)) = some (.str wd) := by
            have e2 : (1 : Int) + (i : Int) = ((i + 1 : Nat) : Int) := by omega
            rw [e2]
            refine atI_nat ?_
            rw [List.map_cons, List.getElem?_cons_succ, List.getElem?_map, hwd]
            rfl
          have atc : atI cd.cps.toList (1 + (i : Int) - 1) = some (lc fm) := by
            have e2 : (1 : Int) + (i : Int) - 1 = (i : Nat) := by omega
            rw [e2]
            refine atI_nat ?_
            rw [ecd, List.getElem?_map, hfm]
            rfl
          have fin : ∀ {v : V} {H4 : Hp}, readW fm wd = some v → Same H1 H4 → ∀ (v5 v6 : Option V), ∃ (vs' : List V) (w5 w6 : Option V), [some (.str t), some (.ref wa), some (.bl pos), some (.ref fd), some (.ref ia), v5, v6] = [some (.str t), some (.ref wa), some (.bl pos), some (.ref fd), some (.ref ia), w5, w6] ∧
              readAll (fs.take (i + 1)) (r.take (i + 1)) = some vs' ∧ Same H (upd H4 ia (.lst (.str k :: vs ++ [v]))) ∧ upd H4 ia (.lst (.str k :: vs ++ [v])) ia = some (.lst (.str k :: vs')) ∧ upd H4 ia (.lst (.str k :: vs ++ [v])) wa = some (.lst ((k :: r).map V.str)) ∧ upd H4 ia (.lst (.str k :: vs ++ [v])) fd = some (.dK D5) := by
            intro v H4 q s5 v5 v6
            rw [q] at step
            refine ⟨vs ++ [v], _, _, rfl, step, ?_, upd_same, ?_, ?_⟩
            · intro c o ec
              rw [upd_ne (ne_of_none ec hia0)]
              exact s5 _ _ (s4 _ _ ec)
            · rw [upd_ne nwi]
              exact s5 _ _ w4
            · rw [upd_ne nfi]
              exact s5 _ _ f4
          have noS : readW fm wd = none → ∀ H4, Same H1 H4 → D.rt .non H4 := fun q H4 s5 => kE (by rw [rk, all_fail hfm hwd q]; rfl) H4 (s4.trans s5)
          have hlen : (V.str k :: vs).length < sizeLine := by rw [List.length_cons]; exact Nat.lt_of_le_of_lt (show vs.length + 1 ≤ 100001 by omega) (by decide)
          refine ⟨_, rfl, _, rfl, wa, _, 0, _, rfl, rfl, SqL.of w4, atI_nat (j := 0) (v := V.str k) rfl, fd, _, rfl, dg f4, _, rfl, _, _, rfl, rfl, cd, _, _, rfl, rfl, hcd, atc, ?_⟩
          cases fm with
          | name =>
            refine ⟨_, rfl, rfl, _, rfl, ifF (by decide +kernel) (iteF ⟨_, rfl, rfl, _, rfl, ifF (by decide +kernel) (iteF ?_)⟩)⟩
            refine ⟨_, rfl, _, _, rfl, rfl, _, rfl, ifT (by decide +kernel) ⟨_, rfl, _, rfl, wa, _, _, _, rfl, rfl, SqL.of w4, atw, wd, rfl, hwz, fun H5 s5 => ⟨_, rfl, ?_⟩⟩⟩
            have i5 := s5 _ _ i4
            cases hn : nameW wd with
            | true => exact iteT ⟨_, rfl, .inl ⟨rfl, _, SqL.of i5⟩, _, rfl, _, rfl, wa, _, _, _, rfl, rfl, SqL.of (s5 _ _ w4), atw, ia, _, _, rfl, rfl, i5, hlen, fin (by show (if nameW wd = true then _ else _) = _; rw [if_pos hn]) s5 _ _⟩
            | false =>
              refine iteF ⟨_, rfl, _, _, rfl, rfl, _, rfl, ifF (by decide +kernel) (iteF (noS ?_ _ s5))⟩
              show (if nameW wd = true then some (V.str wd) else none) = none
              rw [hn, if_neg Bool.false_ne_true]
          | any =>
            refine ⟨_, rfl, rfl, _, rfl, ifT (by decide +kernel) ⟨_, rfl, _, rfl, wa, _, _, _, rfl, rfl, SqL.of w4, atw, rfl, _, rfl, ?_⟩⟩
            rw [str_dec]
            refine ite2 (fun h1 => iteT ?_) fun h1 => ⟨_, rfl, rfl, _, rfl, ifF (by decide +kernel) (iteF ?_)⟩
            · exact ⟨_, rfl, .inl ⟨rfl, _, SqL.of i4⟩, ia, _, _, rfl, rfl, i4, hlen, fin (by show (if wd = "any" then some V.non else _) = _; rw [if_pos (of_decide_eq_true h1)]) (Same.refl _) _ _⟩
            · have ea : readW .any wd = if nameW wd = true then some (V.str wd) else none := by
                show (if wd = "any" then some V.non else if nameW wd = true then some (V.str wd) else none) = _
                rw [if_neg fun z => h1 (decide_eq_true z)]
              refine ⟨_, rfl, _, _, rfl, rfl, _, rfl, ifT (by decide +kernel) ⟨_, rfl, _, rfl, wa, _, _, _, rfl, rfl, SqL.of w4, atw, wd, rfl, hwz, fun H5 s5 => ⟨_, rfl, ?_⟩⟩⟩
              have i5 := s5 _ _ i4
              cases hn : nameW wd with
              | true => exact iteT ⟨_, rfl, .inl ⟨rfl, _, SqL.of i5⟩, _, rfl, _, rfl, wa, _, _, _, rfl, rfl, SqL.of (s5 _ _ w4), atw, ia, _, _, rfl, rfl, i5, hlen, fin (by rw [ea, if_pos hn]) s5 _ _⟩
              | false =>
                refine iteF ⟨_, rfl, _, _, rfl, rfl, _, rfl, ifF (by decide +kernel) (iteF (noS ?_ _ s5))⟩
                rw [ea, hn, if_neg Bool.false_ne_true]
          | num =>
            refine ⟨_, rfl, rfl, _, rfl, ifF (by decide +kernel) (iteF ⟨_, rfl, rfl, _, rfl, ifF (by decide +kernel) (iteF ?_)⟩)⟩
            refine ⟨_, rfl, _, _, rfl, rfl, _, rfl, ifF (by decide +kernel) (iteF ?_)⟩
            refine ⟨_, rfl, _, _, rfl, rfl, _, rfl, ifT (by decide +kernel) ⟨_, rfl, _, rfl, wa, _, _, _, rfl, rfl, SqL.of w4, atw, wd, rfl, hwz, _, rfl, ?_⟩⟩
            cases hn : numB wd with
            | true =>
              refine iteT ⟨_, rfl, .inl ⟨rfl, _, SqL.of i4⟩, _, rfl, _, rfl, wa, _, _, _, rfl, rfl, SqL.of w4, atw, wd, _, rfl, int_num hn, ?_, ia, _, _, rfl, rfl, i4, hlen, fin ?_ (Same.refl _) _ _⟩
              · have hn' := hn
                unfold numB at hn'
                simp only [Bool.and_eq_true, decide_eq_true_eq] at hn'
                omega
              · show (numW wd).map V.int = _
                unfold numW
                rw [if_pos hn]
                rfl
            | false =>
              refine iteF (noS ?_ _ (Same.refl _))
              show (numW wd).map V.int = none
              rw [numW_no hn]
              rfl
          | last =>
            refine ⟨_, rfl, rfl, _, rfl, ifF (by decide +kernel) (iteF ⟨_, rfl, rfl, _, rfl, ifT (by decide +kernel) ⟨_, rfl, _, rfl, wa, _, _, _, rfl, rfl, SqL.of w4, atw, rfl, _, rfl, ?_⟩⟩)⟩
            rw [str_dec]
            refine ite2 (fun h1 => ?_) fun h1 => ?_
            · exact ⟨_, rfl, .inl ⟨rfl, _, SqL.of i4⟩, ia, _, _, rfl, rfl, i4, hlen, fin (by show (if wd = "end" then some V.non else _) = _; rw [if_pos (of_decide_eq_true h1)]) (Same.refl _) _ _⟩
            · have ea : readW .last wd = (numW wd).map V.int := by
                show (if wd = "end" then some V.non else (numW wd).map V.int) = _
                rw [if_neg fun z => h1 (decide_eq_true z)]
              refine ⟨_, rfl, _, _, rfl, rfl, _, rfl, ifF (by decide +kernel) (iteF ?_)⟩
              refine ⟨_, rfl, _, _, rfl, rfl, _, rfl, ifT (by decide +kernel) ⟨_, rfl, _, rfl, wa, _, _, _, rfl, rfl, SqL.of w4, atw, wd, rfl, hwz, _, rfl, ?_⟩⟩
              cases hn : numB wd with
              | true =>
                refine iteT ⟨_, rfl, .inl ⟨rfl, _, SqL.of i4⟩, _, rfl, _, rfl, wa, _, _, _, rfl, rfl, SqL.of w4, atw, wd, _, rfl, int_num hn, ?_, ia, _, _, rfl, rfl, i4, hlen, fin ?_ (Same.refl _) _ _⟩
                · have hn' := hn
                  unfold numB at hn'
                  simp only [Bool.and_eq_true, decide_eq_true_eq] at hn'
                  omega
                · rw [ea]
                  unfold numW
                  rw [if_pos hn]
                  rfl
              | false =>
                refine iteF (noS ?_ _ (Same.refl _))
                rw [ea, numW_no hn]
                rfl
        · rintro σ H1 ⟨vs, v5, v6, rfl, hrd, s4, i4, w4, f4⟩
          rw [← hl', List.take_length, hl', List.take_length] at hrd
          have rsome : readK (k :: r) = some (.str k :: vs) := by rw [rk, hrd]; rfl
          refine ⟨_, rfl, _, rfl, ia, _, rfl, .inl ⟨SqL.of i4, fun tp htp => ⟨(by show 2 ≤ sizeLine; decide), fun rr hrr => ?_⟩⟩⟩
          have ntr : tp ≠ rr := by
            intro z
            rw [← z, upd_same] at hrr
            cases hrr
          refine kS _ rsome rr tp _ ((s4.trans (same_new htp)).trans (same_new hrr)) (SqT.of upd_same) (SqT.of ?_)
          rw [upd_ne ntr]
          exact upd_same
      · have eq1 : (!decide (V.int (((k :: r).map V.str).length : Nat) = V.int ((cd.length : Nat) + 1))) = true := by
          rw [decide_eq_false]
          · rfl
          · intro z
            injection z with z
            rw [List.map_cons, List.length_cons, List.length_map, lcd] at z
            omega
        have rn : readK (k :: r) = none := by rw [rk, all_long hl']; rfl
        exact ifT eq1 (kE rn _ s2)
theorem ok_reads (T : TLr mg) (CN : Cal P w K mg base CX0 1 "_law_name_word" ["_law_word"] spNameW) (CM : Cal P w K mg base CX0 1 "_law_number_word" ["_law_word"] spNumW)
    {f : Addr} {fd : FuncData} (F : Fun K "_law_reads" "_law_reads" sReads f fd) : FnOk P w K mg base CX0 2 f fd ["_law_text_here"] (spReads K) := by
  refine F.ok scReads (fun vs H Q E h => ?_) (fun cdv A' outer s H vs Q E hr h => ?_)
  · obtain ⟨t, rfl, _⟩ := h
    rfl
  · obtain ⟨t, rfl, ht, hta, k⟩ := h
    obtain ⟨u, hu, ru⟩ := reads_tail T CN CM (f := f) cdv A' outer s H E hr
    refine ⟨_, pss_cons (ps_set (i := 1) scReads.nd rfl (Or.inl rfl) (pe_split (pv 0) pe_str))
      (pss_cons (ps_set (i := 2) scReads.nd rfl (Or.inl rfl) (pe_cmpR op_ne (pe_ix ix_list (pv 1) pe_int (fun _ _ => rfl)) pe_str (nomark _)))
      (pss_cons (ps_if (pt_not (pt_val (pv 2))) (pss_one (ps_set (i := 1) scReads.nd rfl (Or.inl rfl) (pe_slice sl_list (pv 1) (po_some pe_int) po_none))) pss_nil) hu)), ?_⟩
    obtain ⟨c1, c2⟩ := words_count t
    have wl : ∀ x ∈ Txt.split t " ", x.length ≤ 10000 := fun x hx => Nat.le_trans (word_le hx) ht
    have wa' : ∀ x ∈ Txt.split t " ", Asc x := fun x hx => word_asc hta hx
    have ek : parse t = (readK (bodyOf (Txt.split t " "))).map fun xs => (posOf (Txt.split t " "), xs) := rfl
    rw [ek] at k
    obtain ⟨ws, ews⟩ : ∃ ws, Txt.split t " " = ws := ⟨_, rfl⟩
    rw [ews] at c1 c2 wl wa' k
    refine ⟨_, rfl, ⟨_, rfl⟩, _, _, rfl, rfl, (by decide +kernel), Nat.le_trans (show t.length + 2 ≤ 10002 by omega) (by decide), fun wa hwa => ?_⟩
    cases ws with
    | nil => simp at c1
    | cons k0 r =>
      have hat : (List.map V.str (Txt.split t " "))[0]? = some (V.str k0) := by rw [ews]; rfl
      have hup : upd H wa (.lst ((Txt.split t " ").map V.str)) wa = some (.lst ((k0 :: r).map V.str)) := by rw [ews]; exact upd_same
      refine ⟨_, rfl, wa, _, 0, _, rfl, rfl, SqL.of upd_same, atI_nat (j := 0) hat, rfl, ?_⟩
      rw [str_dec]
      have s1 : Same H (upd H wa (.lst ((Txt.split t " ").map V.str))) := same_new hwa
      cases hp : (!decide (k0 = "not")) with
      | true =>
        have hp' : posOf (k0 :: r) = true := hp
        have hb : bodyOf (k0 :: r) = k0 :: r := by unfold bodyOf; rw [hp', if_pos rfl]
        rw [hp', hb] at k
        refine ⟨_, rfl, _, rfl, iteF (ru _ t wa (k0 :: r) true H _ s1 hup wl wa' (by omega) (fun xs e => ?_) fun e => ?_)⟩
        · rw [e] at k
          exact k
        · rw [e] at k
          exact k
      | false =>
        have hp' : posOf (k0 :: r) = false := hp
        have hb : bodyOf (k0 :: r) = r := by unfold bodyOf; rw [hp', if_neg Bool.false_ne_true]; rfl
        rw [hp', hb] at k
        refine ⟨_, rfl, _, rfl, iteT ⟨_, rfl, 1, rfl, wa, _, rfl, SqL.of hup, fun wb hwb => ?_⟩⟩
        rw [cut1]
        refine ru _ t wb r false H _ (s1.trans (same_new hwb)) upd_same (fun x hx => wl x (List.mem_cons_of_mem _ hx)) (fun x hx => wa' x (List.mem_cons_of_mem _ hx)) (by simp only [List.length_cons] at c2; omega) (fun xs e => ?_) fun e => ?_
        · rw [e] at k
          exact k
        · rw [e] at k
          exact k
end
end L2.HK
/-! K4e: _law_bent. -/
namespace L2.HK
open PySem PySem.Spec PyProof.Rows L2.HR
abbrev sBent : Stmt := top 34
theorem join_asc {ws : List Str} (h : ∀ w ∈ ws, Asc w) : Asc (Txt.join " " ws) := by
  have e1 : TL.tl (" " : Str) = [32] := by decide +kernel
  have e : TL.tl (Txt.join " " ws) = TL.joinL [32] (ws.map TL.tl) := by rw [TL.join_eq, TL.tl_join, e1]
  have key : ∀ m : List (List Nat), (∀ p ∈ m, ∀ c ∈ p, c < 128) → ∀ c ∈ TL.joinL [32] m, c < 128 := by
    intro m
    induction m with
    | nil =>
      intro _ c hc
      cases hc
    | cons a r ih =>
      intro hm c hc
      cases r with
      | nil => exact hm a List.mem_cons_self c hc
      | cons b r =>
        have hc' : c ∈ a ++ ([32] ++ TL.joinL [32] (b :: r)) := hc
        rcases List.mem_append.mp hc' with z | z
        · exact hm a List.mem_cons_self c z
        · rcases List.mem_append.mp z with z | z
          · rw [List.mem_singleton.mp z]
            decide
          · exact ih (fun p hp => hm p (List.mem_cons_of_mem _ hp)) c z
  intro c hc
  have hc' : c ∈ TL.tl (Txt.join " " ws) := hc
  rw [e] at hc'
  refine key _ (fun p hp d hd => ?_) c hc'
  obtain ⟨w, hw, rfl⟩ := List.mem_map.mp hp
  exact h w hw d hd
/-- some words, few and short -/
structure WS (ws : List Str) (n : Nat) : Prop where
  lo : 1 ≤ ws.length
  hi : ws.length ≤ n
  ok : ∀ x ∈ ws, x.length ≤ 60 ∧ Asc x
theorem WS.mono {ws : List Str} {n m : Nat} (h : WS ws n) (k : n ≤ m) : WS ws m := ⟨h.lo, Nat.le_trans h.hi k, h.ok⟩
theorem WS.set {ws : List Str} {n j : Nat} {x : Str} (h : WS ws n) (hx : x.length ≤ 60 ∧ Asc x) : WS (ws.set j x) n :=
  ⟨by rw [List.length_set]; exact h.lo, by rw [List.length_set]; exact h.hi, fun y hy => (List.mem_or_eq_of_mem_set hy).elim (h.ok y) fun e => by rw [e]; exact hx⟩
theorem WS.add {ws : List Str} {n : Nat} {x : Str} (h : WS ws n) (hx : x.length ≤ 60 ∧ Asc x) : WS (ws ++ [x]) (n + 1) :=
  ⟨by rw [List.length_append]; exact Nat.le_trans h.lo (Nat.le_add_right _ _), by rw [List.length_append]; exact Nat.add_le_add h.hi (Nat.le_refl 1), fun y hy => (List.mem_append.mp hy).elim (h.ok y) fun e => by rw [List.mem_singleton.mp e]; exact hx⟩
theorem WS.ins {ws : List Str} {n j : Nat} {x : Str} (h : WS ws n) (hx : x.length ≤ 60 ∧ Asc x) : WS (ws.take j ++ [x] ++ ws.drop j) (n + 1) := by
  have e : (ws.take j ++ [x] ++ ws.drop j).length = ws.length + 1 := by
    rw [List.length_append, List.length_append, List.length_take, List.length_drop]
    simp only [List.length_cons, List.length_nil]
    omega
  refine ⟨by rw [e]; omega, by rw [e]; have := h.hi; omega, fun y hy => ?_⟩
  rcases List.mem_append.mp hy with hy | hy
  · rcases List.mem_append.mp hy with hy | hy
    · exact h.ok y (List.mem_of_mem_take hy)
    · rw [List.mem_singleton.mp hy]
      exact hx
  · exact h.ok y (List.mem_of_mem_drop hy)
theorem WS.cut {ws : List Str} {n j : Nat} (h : WS ws n) (h2 : 1 < ws.length) : WS (ws.eraseIdx j) n := by
  have q := List.length_eraseIdx (l := ws) (i := j)
  refine ⟨?_, ?_, fun y hy => h.ok y (List.mem_of_mem_eraseIdx hy)⟩
  · rw [q]
    split <;> omega
  · rw [q]
    have := h.hi
    split <;> omega
theorem WS.text {ws : List Str} (h : WS ws 70) : (Txt.join " " ws).length ≤ 10000 ∧ Asc (Txt.join " " ws) ∧ (ws.map (·.length)).sum + ws.length * (" " : Str).length ≤ 16777216 := by
  have h1 := join_len (ws := ws)
  have h2 := sum_len (b := 60) fun p hp => (h.ok p hp).1
  have h3 := h.hi
  have h4 : ws.length * 60 ≤ 70 * 60 := Nat.mul_le_mul_right 60 h3
  have e : (" " : Str).length = 1 := by decide +kernel
  refine ⟨by omega, join_asc fun w hw => (h.ok w hw).2, ?_⟩
  rw [e]
  omega
theorem ixN_nat {n j : Nat} (h : j < n) : ixN n (j : Int) = some j := by
  unfold ixN
  rw [if_pos (by omega), if_pos (by omega)]
  simp
theorem map_erase {α β : Type} (f : α → β) : ∀ (l : List α) (k : Nat), (l.map f).eraseIdx k = (l.eraseIdx k).map f
  | [], _ => rfl
  | _ :: _, 0 => rfl
  | a :: l, k + 1 => by
    show f a :: (l.map f).eraseIdx k = f a :: (l.eraseIdx k).map f
    rw [map_erase f l k]
def MENU : List Str := ["", "any", "end", "not", "or", "none", "007", "0", "12345", "9999", "A1", "a_1", "x9", "-1", "knew", "told", "eight8ab", "nine9abcd"]
theorem menu_ok : ∀ x ∈ MENU, (decide (x.length ≤ 60) && x.cps.toList.all fun c => decide (c < 128)) = true := by decide +kernel
theorem menu_at {j : Nat} (h : j < 18) : ∃ x, MENU[j]? = some x ∧ x.length ≤ 60 ∧ Asc x := by
  have h' : j < MENU.length := h
  refine ⟨MENU[j], List.getElem?_eq_getElem h', ?_⟩
  have q := menu_ok _ (List.getElem_mem h')
  rw [Bool.and_eq_true, decide_eq_true_eq] at q
  exact ⟨q.1, fun c hc => of_decide_eq_true (List.all_eq_true.mp q.2 c hc)⟩
def spBent : Sp := fun vs H Q _ => ∃ (b l : Addr) (t : Str), vs = [.ref b, .str t] ∧ Bx H b l ∧ t.length ≤ 60 ∧ Asc t ∧ ∀ (t' : Str) (H' : Hp), t'.length ≤ 10000 → Asc t' → Bx H' b l → Kp b H H' → Q (.str t') H'
abbrev BN : List Str := ["_law_box_here", "_law_text_here", "_law_menu", "_law_words", "_law_again", "_law_at", "_law_how"]
section
variable {P : Program} {w : World} {K : PySem.W.Frag} {mg : Str → Option Value} {base : Heap}
theorem scBent : FnScope BN ["_law_box_here", "_law_text_here"] (defScope sBent) := ⟨rfl, rfl, rfl, by decide +kernel, rfl, by decide +kernel, by decide +kernel⟩
theorem ok_bent {f : Addr} {fd : FuncData} (F : Fun K "_law_bent" "_law_bent" sBent f fd) (T : TTk mg) (C : Cal P w K mg base CX0 1 "_law_take" ["_law_box_here", "_law_size"] spTake) : FnOk P w K mg base CX0 2 f fd ["_law_box_here", "_law_text_here"] spBent := by
  refine F.ok scBent (fun vs H Q E h => ?_) (fun cdv A outer s H vs Q E hr h => ?_)
  · obtain ⟨b, l, t, rfl, _⟩ := h
    rfl
  · obtain ⟨b, l, t, rfl, hB, ht, hta, k⟩ := h
    refine ⟨_, pss_cons (ps_set (i := 2) scBent.nd rfl (Or.inl rfl) (pe_lst (pa_cons pe_str (pa_cons pe_str (pa_cons pe_str (pa_cons pe_str (pa_cons pe_str (pa_cons pe_str (pa_cons pe_str (pa_cons pe_str (pa_cons pe_str (pa_cons pe_str (pa_cons pe_str (pa_cons pe_str (pa_cons pe_str (pa_cons pe_str (pa_cons pe_str (pa_cons pe_str pa_nil))))))))))))))))))
      (pss_cons (ps_set (i := 2) scBent.nd rfl (Or.inl rfl) (pe_op op_cat (pv 2) (pe_lst (pa_cons pe_str (pa_cons pe_str pa_nil)))))
      (pss_cons (ps_set (i := 3) scBent.nd rfl (Or.inl rfl) (pe_split (pv 1) pe_str))
      (pss_cons (ps_for PassesOwn.never rfl (pi_range1 (by rfl) T.range (pa_cons (pe_cal C hr pass0 (pa_cons (pv 0) (pa_cons pe_int pa_nil))) pa_nil)) (pg_name (i := 4) scBent.nd rfl (Or.inl rfl))
        (pss_cons (ps_set (i := 5) scBent.nd rfl (Or.inl rfl) (pe_cal C hr pass0 (pa_cons (pv 0) (pa_cons (pe_callB call_len_seq (by rfl) T.len PySem.boot_len (pa_cons (pv 3) pa_nil)) pa_nil)))) (pss_cons (ps_set (i := 6) scBent.nd rfl (Or.inl rfl) (pe_cal C hr pass0 (pa_cons (pv 0) (pa_cons pe_int pa_nil)))) (pss_one (ps_if (pt_cmpR op_eq (pv 6) pe_int (nomark _)) (pss_one (ps_asg (pe_ix ix_list (pv 2) (pe_cal C hr pass0 (pa_cons (pv 0) (pa_cons (pe_callB call_len_seq (by rfl) T.len PySem.boot_len (pa_cons (pv 2) pa_nil)) pa_nil))) (fun _ _ => rfl)) (pg_sub (pv 3) (pv 5) set_list))) (pss_one (ps_if (pt_cmpR op_eq (pv 6) pe_int (nomark _)) (pss_one (ps_expr (pe_bm PySem.F.plainAttrs_list PySem.F.slot_list_insert PySem.F.type_list_insert mt_insert (pv 3) (pa_cons (pv 5) (pa_cons (pe_ix ix_list (pv 2) (pe_cal C hr pass0 (pa_cons (pv 0) (pa_cons (pe_callB call_len_seq (by rfl) T.len PySem.boot_len (pa_cons (pv 2) pa_nil)) pa_nil))) (fun _ _ => rfl)) pa_nil))))) (pss_one (ps_if (pt_cmpR op_eq (pv 6) pe_int (nomark _)) (pss_one (ps_expr (pe_bm PySem.F.plainAttrs_list PySem.F.slot_list_append PySem.F.type_list_append mt_append (pv 3) (pa_cons (pe_ix ix_list (pv 3) (pv 5) (fun _ _ => rfl)) pa_nil)))) (pss_one (ps_if (pt_cmpR op_gt (pe_callB call_len_seq (by rfl) T.len PySem.boot_len (pa_cons (pv 3) pa_nil)) pe_int (nomark _)) (pss_one (ps_expr (pe_bm PySem.F.plainAttrs_list PySem.F.slot_list_pop PySem.F.type_list_pop mt_popAt (pv 3) (pa_cons (pv 5) pa_nil)))) pss_nil)))))))))))
      (pss_one (ps_ret (pe_join pe_str (pv 3))))))), ?_⟩
    refine ⟨(by show 16 ≤ sizeLine; decide), fun m1 hm1 => ?_⟩
    refine ⟨_, rfl, (by show 2 ≤ sizeLine; decide), fun m2 hm2 => ?_⟩
    have n12 : m1 ≠ m2 := by
      intro z
      rw [← z, upd_same] at hm2
      cases hm2
    refine ⟨m1, m2, _, _, rfl, rfl, (by rw [upd_ne n12]; exact upd_same), upd_same, (by show 18 ≤ sizeLine; decide), fun mm hmm => ?_⟩
    have B3 := ((hB.new (o := .lst [.str "", .str "any", .str "end", .str "not", .str "or", .str "none", .str "007", .str "0", .str "12345", .str "9999", .str "A1", .str "a_1", .str "x9", .str "-1", .str "knew", .str "told"]) hm1).new (o := .lst [.str "eight8ab", .str "nine9abcd"]) hm2).new (o := .lst (MENU.map V.str)) hmm
    have K3 : Kp b H _ := ((Kp.new (o := .lst [.str "", .str "any", .str "end", .str "not", .str "or", .str "none", .str "007", .str "0", .str "12345", .str "9999", .str "A1", .str "a_1", .str "x9", .str "-1", .str "knew", .str "told"]) hm1).trans (Kp.new (o := .lst [.str "eight8ab", .str "nine9abcd"]) hm2)).trans (Kp.new (o := .lst (MENU.map V.str)) hmm)
    have m3 : (upd (upd (upd H m1 (.lst [.str "", .str "any", .str "end", .str "not", .str "or", .str "none", .str "007", .str "0", .str "12345", .str "9999", .str "A1", .str "a_1", .str "x9", .str "-1", .str "knew", .str "told"])) m2 (.lst [.str "eight8ab", .str "nine9abcd"])) mm (.lst (MENU.map V.str))) mm = some (.lst (MENU.map V.str)) := upd_same
    obtain ⟨nmb, nml⟩ := (((hB.new (o := .lst [.str "", .str "any", .str "end", .str "not", .str "or", .str "none", .str "007", .str "0", .str "12345", .str "9999", .str "A1", .str "a_1", .str "x9", .str "-1", .str "knew", .str "told"]) hm1).new (o := .lst [.str "eight8ab", .str "nine9abcd"]) hm2)).free hmm
    show (tSeq _ _) _ _ (upd (upd (upd H m1 _) m2 _) mm (.lst (MENU.map V.str)))
    generalize (upd (upd (upd H m1 (.lst [.str "", .str "any", .str "end", .str "not", .str "or", .str "none", .str "007", .str "0", .str "12345", .str "9999", .str "A1", .str "a_1", .str "x9", .str "-1", .str "knew", .str "told"])) m2 (.lst [.str "eight8ab", .str "nine9abcd"])) mm (.lst (MENU.map V.str))) = G3 at B3 K3 m3 ⊢
    obtain ⟨c1, c2⟩ := words_count t
    have W0 : WS (Txt.split t " ") 61 := ⟨c1, by omega, fun x hx => ⟨Nat.le_trans (word_le hx) ht, word_asc hta hx⟩⟩
    refine ⟨_, rfl, ⟨_, rfl⟩, _, _, rfl, rfl, (by decide +kernel), Nat.le_trans (show t.length + 2 ≤ 62 by omega) (by decide), fun wa hwa => ?_⟩
    have B4 := B3.new (o := .lst ((Txt.split t " ").map V.str)) hwa
    obtain ⟨nwb, nwl⟩ := B3.free hwa
    have nmw : mm ≠ wa := ne_of_none m3 hwa
    have m4 : upd G3 wa (.lst ((Txt.split t " ").map V.str)) mm = some (.lst (MENU.map V.str)) := by rw [upd_ne nmw]; exact m3
    have w4 : upd G3 wa (.lst ((Txt.split t " ").map V.str)) wa = some (.lst ((Txt.split t " ").map V.str)) := upd_same
    have K4 : Kp b H (upd G3 wa (.lst ((Txt.split t " ").map V.str))) := K3.trans (Kp.new hwa)
    have hwa0 : H wa = none ∨ wa = b := by
      by_cases q : wa = b
      · exact .inr q
      · left
        cases e : H wa with
        | none => rfl
        | some o =>
          rw [K3 _ _ e q] at hwa
          cases hwa
    have hwa1 : H wa = none := hwa0.elim id fun q => absurd q nwb
    generalize upd G3 wa (.lst ((Txt.split t " ").map V.str)) = G4 at B4 m4 w4 K4 ⊢
    refine ⟨_, rfl, b, l, 3, rfl, B4, by decide, by decide, fun d G5 d0 d1 B5 k5 => ⟨_, rfl, by omega, by omega, ?_⟩⟩
    refine for_range (n := d.toNat) (fun i σ H' => ∃ (ws : List Str) (v4 v5 v6 : Option V), σ = [some (.ref b), some (.str t), some (.ref mm), some (.ref wa), v4, v5, v6] ∧ WS ws (61 + i) ∧ H' wa = some (.lst (ws.map V.str)) ∧ H' mm = some (.lst (MENU.map V.str)) ∧ Bx H' b l ∧ Kp b H H')
      ⟨Txt.split t " ", none, none, none, rfl, W0, (k5 wa nwb).trans w4, (k5 mm nmb).trans m4, B5, K4.trans (Kp.of k5)⟩ ?_ ?_
    · rintro i σ H' hi ⟨ws, v4, v5, v6, rfl, W, w5, m5, B6, K6⟩
      have hi3 : i < 3 := by omega
      have hlo := W.lo
      have hhi := W.hi
      have lm : ∀ {xs : List Str}, (((xs.map V.str).length : Nat) : Int) = (xs.length : Int) := by intro xs; rw [List.length_map]
      refine ⟨_, rfl, _, rfl, wa, _, rfl, .inl (SqL.of w5), b, l, _, rfl, B6, by rw [lm]; omega, by rw [lm]; omega, fun a H7 a0 a1 B7 k7 => ?_⟩
      rw [lm] at a1
      obtain ⟨j, rfl⟩ : ∃ j : Nat, a = (j : Int) := ⟨a.toNat, by omega⟩
      have hj : j < ws.length := by omega
      refine ⟨_, rfl, b, l, 4, rfl, B7, by decide, by decide, fun hw H8 h0 h1 B8 k8 => ?_⟩
      have w8 : H8 wa = some (.lst (ws.map V.str)) := (k8 wa nwb).trans ((k7 wa nwb).trans w5)
      have m8 : H8 mm = some (.lst (MENU.map V.str)) := (k8 mm nmb).trans ((k7 mm nmb).trans m5)
      have K8 : Kp b H H8 := K6.trans ((Kp.of k7).trans (Kp.of k8))
      have hz : (ws.map V.str).length < sizeLine := by rw [List.length_map]; exact small1000 (by omega)
      have fin : ∀ {ws' : List Str} {G : Hp} {u4 u5 u6 : Option V}, WS ws' (61 + i + 1) → G mm = some (.lst (MENU.map V.str)) → Bx G b l → Kp b H G → ∃ (ws2 : List Str) (v4 v5 v6 : Option V), [some (.ref b), some (.str t), some (.ref mm), some (.ref wa), u4, u5, u6] = [some (.ref b), some (.str t), some (.ref mm), some (.ref wa), v4, v5, v6] ∧
          WS ws2 (61 + (i + 1)) ∧ upd G wa (.lst (ws'.map V.str)) wa = some (.lst (ws2.map V.str)) ∧ upd G wa (.lst (ws'.map V.str)) mm = some (.lst (MENU.map V.str)) ∧ Bx (upd G wa (.lst (ws'.map V.str))) b l ∧ Kp b H (upd G wa (.lst (ws'.map V.str))) := by
        intro ws' G u4 u5 u6 W' gm gB gK
        refine ⟨ws', _, _, _, rfl, W', upd_same, by rw [upd_ne nmw]; exact gm, gB.put nwb nwl, fun c o e nc => ?_⟩
        rw [upd_ne (ne_of_none e hwa1)]
        exact gK c o e nc
      have mlen : (((MENU.map V.str).length : Nat) : Int) = 18 := rfl
      refine ⟨_, rfl, rfl, _, rfl, ite2 (fun q0 => ?_) fun q0 => ?_⟩
      · refine ⟨_, rfl, _, rfl, _, rfl, mm, _, rfl, .inl (SqL.of m8), b, l, _, rfl, B8, by rw [mlen]; decide, by rw [mlen]; decide, fun e H9 e0 e1 B9 k9 => ?_⟩
        rw [mlen] at e1
        obtain ⟨je, rfl⟩ : ∃ je : Nat, e = (je : Int) := ⟨e.toNat, by omega⟩
        obtain ⟨x, hx, ok⟩ := menu_at (j := je) (by omega)
        have w9 : H9 wa = some (.lst (ws.map V.str)) := (k9 wa nwb).trans w8
        have m9 : H9 mm = some (.lst (MENU.map V.str)) := (k9 mm nmb).trans m8
        refine ⟨mm, _, _, _, rfl, rfl, SqL.of m9, atI_nat (j := je) (v := V.str x) (by rw [List.getElem?_map, hx]; rfl), _, rfl, _, rfl, wa, _, _, j, rfl, rfl, w9, ixN_nat (by rw [List.length_map]; exact hj), ?_⟩
        have es : (ws.map V.str).set j (.str x) = (ws.set j x).map V.str := (List.map_set ..).symm
        rw [es]
        exact fin ((W.set ok).mono (Nat.le_succ _)) m9 B9 (K8.trans (Kp.of k9))
      refine ⟨_, rfl, rfl, _, rfl, ite2 (fun q1 => ?_) fun q1 => ?_⟩
      · refine ⟨_, rfl, .inl ⟨rfl, _, SqL.of w8⟩, _, rfl, _, rfl, _, rfl, _, rfl, mm, _, rfl, .inl (SqL.of m8), b, l, _, rfl, B8, by rw [mlen]; decide, by rw [mlen]; decide, fun e H9 e0 e1 B9 k9 => ?_⟩
        rw [mlen] at e1
        obtain ⟨je, rfl⟩ : ∃ je : Nat, e = (je : Int) := ⟨e.toNat, by omega⟩
        obtain ⟨x, hx, ok⟩ := menu_at (j := je) (by omega)
        have w9 : H9 wa = some (.lst (ws.map V.str)) := (k9 wa nwb).trans w8
        have m9 : H9 mm = some (.lst (MENU.map V.str)) := (k9 mm nmb).trans m8
        refine ⟨mm, _, _, _, rfl, rfl, SqL.of m9, atI_nat (j := je) (v := V.str x) (by rw [List.getElem?_map, hx]; rfl), wa, _, _, _, rfl, rfl, w9, hz, by omega, by omega, ?_⟩
        have es : (ws.map V.str).take (j : Int).toNat ++ [V.str x] ++ (ws.map V.str).drop (j : Int).toNat = (ws.take j ++ [x] ++ ws.drop j).map V.str := by
          rw [Int.toNat_natCast, List.map_append, List.map_append, List.map_take, List.map_drop]
          rfl
        rw [es]
        exact fin (W.ins ok) m9 B9 (K8.trans (Kp.of k9))
      refine ⟨_, rfl, rfl, _, rfl, ite2 (fun q2 => ?_) fun q2 => ?_⟩
      · refine ⟨_, rfl, .inl ⟨rfl, _, SqL.of w8⟩, _, rfl, _, rfl, wa, _, _, _, rfl, rfl, SqL.of w8, atI_nat (j := j) (v := V.str ws[j]) (by rw [List.getElem?_map, List.getElem?_eq_getElem hj]; rfl), wa, _, _, rfl, rfl, w8, hz, ?_⟩
        have es : ws.map V.str ++ [V.str ws[j]] = (ws ++ [ws[j]]).map V.str := by rw [List.map_append]; rfl
        rw [es]
        exact fin (W.add (W.ok _ (List.getElem_mem hj))) m8 B8 K8
      refine ⟨_, rfl, wa, _, rfl, .inl (SqL.of w8), _, _, rfl, rfl, _, rfl, ite2 (fun q3 => ?_) fun q3 => ?_⟩
      · have h2 : 1 < ws.length := by
          have z := of_decide_eq_true q3
          rw [lm] at z
          omega
        refine ⟨_, rfl, .inl ⟨rfl, _, SqL.of w8⟩, _, rfl, wa, _, _, j, V.str ws[j], rfl, rfl, w8, by omega, by omega, (ixN_seq (ixN_nat (by rw [List.length_map]; exact hj))).1, by rw [List.getElem?_map, List.getElem?_eq_getElem hj]; rfl, ?_⟩
        rw [map_erase]
        exact fin ((W.cut h2).mono (Nat.le_succ _)) m8 B8 K8
      · exact ⟨ws, _, _, _, rfl, W.mono (Nat.le_succ _), w8, m8, B8, K8⟩
    · rintro σ H' ⟨ws, v4, v5, v6, rfl, W, w5, m5, B6, K6⟩
      obtain ⟨t1, t2, t3⟩ := (W.mono (m := 70) (by omega)).text
      exact ⟨⟨_, rfl⟩, _, rfl, _, wa, ws, rfl, rfl, .inl (SqL.of w5), t3, k _ _ t1 t2 B6 K6⟩
end
end L2.HK
/-! K4f: _law_claim, _law_same. -/
namespace L2.HK
open PySem PySem.Spec PyProof.Rows L2.HR
abbrev sSame : Stmt := top 30
abbrev sClaim : Stmt := top 35
/-- a kind, as its callers see it -/
structure KindC (P : Program) (w : World) (K : PySem.W.Frag) (mg : Str → Option Value) (base : Heap) (A fN fE fS : Addr) (x k : Str) (n : Nat) (ps : List Str) : Prop where
  ex : ∃ (D f : Addr) (fd : FuncData), Mk K D f ∧ FnOk P w K mg base CX0 2 f fd ps (spKind k n K A fN fE fS D) ∧ mg x = some (.ref D) ∧ Binds K fd ps [] ∧ Fam K A fN fE fS D
def spClaim (K : PySem.W.Frag) (A fN fE fS : Addr) : Sp := fun vs H Q _ => ∃ (r t : Addr) (pos : Bool) (xs : List V), vs = [.ref r] ∧ SqT K H r [.bl pos, .ref t] ∧ SqT K H t xs ∧ RowOk xs ∧
  ∀ (c u : Addr) (H' : Hp), Same H H' → Clm K A fN fE fS H' c u pos → SqT K H' u xs → Q (.ref c) H'
def spSame (K : PySem.W.Frag) (A fN fE fS : Addr) : Sp := fun vs H Q _ => ∃ (c t r u : Addr) (pos : Bool) (xs : List V), vs = [.ref c, .ref r] ∧ Clm K A fN fE fS H c t pos ∧ SqT K H t xs ∧ SqT K H r [.bl pos, .ref u] ∧ SqT K H u xs ∧ RowOk xs ∧ Q (.bl true) H
theorem row_kind {xs : List V} (h : RowOk xs) {Pr : Prop} (k1 : ∀ a b c, xs = [.str "knew", a, b, c] → Pr) (k2 : ∀ a b c d, xs = [.str "told", a, b, c, d] → Pr) (k3 : ∀ a b, xs = [.str "began", a, b] → Pr) (k4 : ∀ a, xs = [.str "held", a] → Pr)
    (k5 : ∀ a b c, xs = [.str "turned", a, b, c] → Pr) : Pr := by
  cases h with
  | knew _ _ _ => exact k1 _ _ _ rfl
  | told _ _ _ _ => exact k2 _ _ _ _ rfl
  | began _ _ => exact k3 _ _ rfl
  | held _ => exact k4 _ rfl
  | turned _ _ _ => exact k5 _ _ _ rfl
section
variable {P : Program} {w : World} {K : PySem.W.Frag} {mg : Str → Option Value} {base : Heap} {A fN fE fS : Addr}
theorem scSame : FnScope ["_law_claim_here", "_law_row"] ["_law_claim_here", "_law_row"] (defScope sSame) := ⟨rfl, rfl, rfl, by decide +kernel, rfl, by decide +kernel, by decide +kernel⟩
theorem ok_same {f : Addr} {fd : FuncData} (F : Fun K "_law_same" "_law_same" sSame f fd) (T : Top K mg A) (hrp : mg "repr" = none) (C : Cal P w K mg base CX0 1 "_law_bool" ["_law_answer", "_law_expected"] spBool) :
    FnG P w K mg base CX0 2 f fd ["_law_claim_here", "_law_row"] (spSame K A fN fE fS) := by
  refine fnG_ok F scSame (fun vs H Q E h => ?_) (fun cdv A' outer s H vs Q E hG hr h => ?_)
  · obtain ⟨c, t, r, u, pos, xs, rfl, _⟩ := h
    rfl
  · obtain ⟨c, t, r, u, pos, xs, rfl, ⟨C', dx, hc, hF⟩, hT, hR, hU, hO, k⟩ := h
    refine ⟨_, PSs.nox (pss_cons (ps_if (PW.pt (pw_or (pt_not (pt_val (pe_callB call_isi (by rfl) T.isi boot_isinstance (pa_cons (pv 0) (pa_cons (pgR T.gA) pa_nil)))))
        (pw_or1 (pt_not (pt_val (pe_cal C hr pass0 (pa_cons (pe_fld (pv 0) rfl) (pa_cons (pe_ix ix_tup (pv 1) pe_int (fun _ _ => rfl)) pa_nil)))))))) (pss_one (ps_ret pe_bl)) pss_nil)
      (pss_one (ps_ret (pe_cmpR op_eq (pe_callB (call_reprT hG hr) (by rfl) hrp boot_repr (pa_cons (pe_fld (pv 0) rfl) pa_nil)) (pe_callB (call_reprT hG hr) (by rfl) hrp boot_repr (pa_cons (pe_ix ix_tup (pv 1) pe_int (fun _ _ => rfl)) pa_nil)) (nomark _))))), ?_⟩
    have hl := row_len hO
    refine ⟨_, rfl, _, _, _, _, true, rfl, .own A, .base (.ins hc hF.cl hF.cc T.gs T.tk hF.mo), hF.isa, _, rfl, iteF ?_⟩
    refine ⟨_, rfl, c, C', dx, _, _, rfl, hc, hF.cl, hF.np, cf_pos t pos, _, rfl, r, _, _, _, rfl, rfl, hR, atI_nat (j := 0) rfl, pos, pos, rfl, _, rfl, ?_⟩
    refine ifF (by cases pos <;> rfl) ?_
    refine ⟨_, rfl, c, C', dx, _, _, rfl, hc, hF.cl, hF.nw, cf_words t pos, t, xs, rfl, hT, row_plain hO, by omega, ?_⟩
    refine ⟨_, rfl, r, _, _, _, rfl, rfl, hR, atI_nat (j := 1) rfl, u, xs, rfl, hU, row_plain hO, by omega, rfl, ?_⟩
    show Q (V.bl (decide (V.str (plainT xs).shown = V.str (plainT xs).shown))) H
    rw [decide_eq_true rfl]
    exact k
theorem scClaim : FnScope ["_law_row", "_law_words", "_law_claim_here"] ["_law_row"] (defScope sClaim) := ⟨rfl, rfl, rfl, by decide +kernel, rfl, by decide +kernel, by decide +kernel⟩
theorem claim_tail {fN' : Addr} {fdN : FuncData} (bN : Binds K fdN ["self"] []) (GN : FnOk P w K mg base CX0 3 fN fdN ["self"] (spInv K A fN fE fS))
    {f : Addr} (cdv : Value) (A' : Around) (outer : List Env) (s : Shared) (H0 : Hp) (E : XK) (hr : Room 3 (A'.deeper (envOfC "_law_claim" (defScope sClaim) s.heap.objs.size f cdv))) :
    ∃ u, PSs (cxOf CX0 P w K mg base ["_law_row", "_law_words", "_law_claim_here"] "_law_claim" (defScope sClaim) f cdv A' outer s H0 E).nox ((defBody sClaim).drop 2) u ∧
      ∀ (D : Ends) (r t c u1 : Addr) (pos : Bool) (xs : List V) (H H' : Hp), Same H H' → SqT K H' r [.bl pos, .ref t] → Clm K A fN fE fS H' c u1 true → SqT K H' u1 xs →
        (∀ (c u : Addr) (H' : Hp), Same H H' → Clm K A fN fE fS H' c u pos → SqT K H' u xs → D.rt (.ref c) H') → u D [some (.ref r), some (.ref t), some (.ref c)] H' := by
  refine ⟨_, pss_cons (ps_if (pt_val (pe_ix ix_tup (pv 0) pe_int (fun _ _ => rfl))) (pss_one (ps_ret (pv 2))) pss_nil) (pss_one (ps_ret (pe_un (un_invOwn GN hr bN pass0) (pv 2)))), ?_⟩
  intro D r t c u1 pos xs H H' sm hR hC hU k
  refine ⟨_, rfl, r, _, _, _, rfl, rfl, hR, atI_nat (j := 0) rfl, _, rfl, ?_⟩
  cases pos with
  | true => exact iteT ⟨_, rfl, k c u1 H' sm hC hU⟩
  | false =>
    obtain ⟨C', dx, hc, hF⟩ := id hC
    refine iteF ⟨_, rfl, c, C', dx, _, rfl, hc, hF.inv, c, u1, true, rfl, hC, fun c' H'' hn hC' s2 => ?_⟩
    exact k c' u1 H'' (sm.trans s2) hC' (seqT s2 hU)
theorem ok_claim {f : Addr} {fd : FuncData} (F : Fun K "_law_claim" "_law_claim" sClaim f fd) {fdN : FuncData} (bN : Binds K fdN ["self"] []) (GN : FnOk P w K mg base CX0 3 fN fdN ["self"] (spInv K A fN fE fS))
    (k1 : KindC P w K mg base A fN fE fS "Knew" "knew" 3 ["self", "person", "day", "version"]) (k2 : KindC P w K mg base A fN fE fS "Told" "told" 4 ["self", "teller", "hearer", "first", "last"]) (k3 : KindC P w K mg base A fN fE fS "Began" "began" 2 ["self", "person", "version"])
    (k4 : KindC P w K mg base A fN fE fS "Held" "held" 1 ["self", "meeting"]) (k5 : KindC P w K mg base A fN fE fS "Turned" "turned" 3 ["self", "person", "old", "new"]) : FnOk P w K mg base CX0 4 f fd ["_law_row"] (spClaim K A fN fE fS) := by
  refine F.ok scClaim (fun vs H Q E h => ?_) (fun cdv A' outer s H vs Q E hr h => ?_)
  · obtain ⟨r, t, pos, xs, rfl, _⟩ := h
    rfl
  · obtain ⟨r, t, pos, xs, rfl, hR, hT, hO, k⟩ := h
    obtain ⟨D1, f1, fd1, M1, G1, g1, b1, F1⟩ := k1.ex
    obtain ⟨D2, f2, fd2, M2, G2, g2, b2, F2⟩ := k2.ex
    obtain ⟨D3, f3, fd3, M3, G3, g3, b3, F3⟩ := k3.ex
    obtain ⟨D4, f4, fd4, M4, G4, g4, b4, F4⟩ := k4.ex
    obtain ⟨D5', f5, fd5, M5, G5, g5, b5, F5⟩ := k5.ex
    have hr3 : Room 3 _ := hr
    obtain ⟨u, hu, ru⟩ := claim_tail (P := P) (w := w) (K := K) (mg := mg) (base := base) (A := A) (fE := fE) (fS := fS) (fN' := fN) bN GN (f := f) cdv A' outer s H E hr
    refine ⟨_, pss_cons (ps_set (i := 1) scClaim.nd rfl (Or.inl rfl) (pe_ix ix_tup (pv 0) pe_int (fun _ _ => rfl)))
      (pss_cons (ps_if (pt_cmpR op_eq (pe_ix ix_tup (pv 1) pe_int (fun _ _ => rfl)) pe_str (nomark _)) (pss_one (ps_set (i := 2) scClaim.nd rfl (Or.inl rfl) (pe_make M1 G1 hr3 rfl g1 b1 .nil pass0 (pa_cons (pe_ix ix_tup (pv 1) pe_int (fun _ _ => rfl)) (pa_cons (pe_ix ix_tup (pv 1) pe_int (fun _ _ => rfl)) (pa_cons (pe_ix ix_tup (pv 1) pe_int (fun _ _ => rfl)) pa_nil)))))) (pss_one (ps_if (pt_cmpR op_eq (pe_ix ix_tup (pv 1) pe_int (fun _ _ => rfl)) pe_str (nomark _)) (pss_one (ps_set (i := 2) scClaim.nd rfl (Or.inl rfl) (pe_make M2 G2 hr3 rfl g2 b2 .nil pass0 (pa_cons (pe_ix ix_tup (pv 1) pe_int (fun _ _ => rfl)) (pa_cons (pe_ix ix_tup (pv 1) pe_int (fun _ _ => rfl)) (pa_cons (pe_ix ix_tup (pv 1) pe_int (fun _ _ => rfl)) (pa_cons (pe_ix ix_tup (pv 1) pe_int (fun _ _ => rfl)) pa_nil))))))) (pss_one (ps_if (pt_cmpR op_eq (pe_ix ix_tup (pv 1) pe_int (fun _ _ => rfl)) pe_str (nomark _)) (pss_one (ps_set (i := 2) scClaim.nd rfl (Or.inl rfl) (pe_make M3 G3 hr3 rfl g3 b3 .nil pass0 (pa_cons (pe_ix ix_tup (pv 1) pe_int (fun _ _ => rfl)) (pa_cons (pe_ix ix_tup (pv 1) pe_int (fun _ _ => rfl)) pa_nil))))) (pss_one (ps_if (pt_cmpR op_eq (pe_ix ix_tup (pv 1) pe_int (fun _ _ => rfl)) pe_str (nomark _)) (pss_one (ps_set (i := 2) scClaim.nd rfl (Or.inl rfl) (pe_make M4 G4 hr3 rfl g4 b4 .nil pass0 (pa_cons (pe_ix ix_tup (pv 1) pe_int (fun _ _ => rfl)) pa_nil)))) (pss_one (ps_set (i := 2) scClaim.nd rfl (Or.inl rfl) (pe_make M5 G5 hr3 rfl g5 b5 .nil pass0 (pa_cons (pe_ix ix_tup (pv 1) pe_int (fun _ _ => rfl)) (pa_cons (pe_ix ix_tup (pv 1) pe_int (fun _ _ => rfl)) (pa_cons (pe_ix ix_tup (pv 1) pe_int (fun _ _ => rfl)) pa_nil))))))))))))) hu), ?_⟩
    have made : ∀ {kd : Str} {ws : List V} {D x dx : Addr}, xs = .str kd :: ws → H x = none → H dx = none → dx ≠ x → Fam K A fN fE fS D →
        ∀ t, (upd (upd H dx (.own x)) x (.ins D dx [])) t = none → Same H (upd (upd (upd (upd H dx (.own x)) x (.ins D dx [])) t (.tup (.str kd :: ws))) x (.ins D dx (cf t true))) ∧
          Clm K A fN fE fS (upd (upd (upd (upd H dx (.own x)) x (.ins D dx [])) t (.tup (.str kd :: ws))) x (.ins D dx (cf t true))) x t true ∧ SqT K (upd (upd (upd (upd H dx (.own x)) x (.ins D dx [])) t (.tup (.str kd :: ws))) x (.ins D dx (cf t true))) t xs := by
      intro kd ws D x dx exs hx hdx ne hF t ht
      have ntx : t ≠ x := by
        intro z
        rw [z, upd_same] at ht
        cases ht
      have ntd : t ≠ dx := by
        intro z
        rw [z, upd_ne ne, upd_same] at ht
        cases ht
      have ht0 : H t = none := by
        rw [upd_ne ntx, upd_ne ntd] at ht
        exact ht
      refine ⟨fun c o ec => ?_, ⟨D, dx, upd_same, hF⟩, SqT.of ?_⟩
      · rw [upd_ne (ne_of_none ec hx), upd_ne (ne_of_none ec ht0), upd_ne (ne_of_none ec hx), upd_ne (ne_of_none ec hdx)]
        exact ec
      · rw [upd_ne ntx, upd_same, exs]
    refine ⟨_, rfl, r, _, _, _, rfl, rfl, hR, atI_nat (j := 1) rfl, ?_⟩
    cases hO with
    | knew _ _ _ =>
      exact ⟨_, rfl, t, _, _, _, rfl, rfl, hT, atI_nat (j := 0) rfl, rfl, _, rfl, ifT (by decide +kernel) ⟨_, rfl, t, _, _, _, rfl, rfl, hT, atI_nat (j := 1) rfl, _, rfl, t, _, _, _, rfl, rfl, hT, atI_nat (j := 2) rfl, _, rfl, t, _, _, _, rfl, rfl, hT, atI_nat (j := 3) rfl, fun x dx hx hdx ne => ⟨x, dx, _, rfl, rfl, upd_same, F1, fun t1 ht1 => ⟨rfl, ru _ r t x t1 pos _ H _ (made rfl hx hdx ne F1 t1 ht1).1 (seqT (made rfl hx hdx ne F1 t1 ht1).1 hR) (made rfl hx hdx ne F1 t1 ht1).2.1 (made rfl hx hdx ne F1 t1 ht1).2.2 k⟩⟩⟩⟩
    | told _ _ _ _ =>
      exact ⟨_, rfl, t, _, _, _, rfl, rfl, hT, atI_nat (j := 0) rfl, rfl, _, rfl, ifF (by decide +kernel) ⟨_, rfl, t, _, _, _, rfl, rfl, hT, atI_nat (j := 0) rfl, rfl, _, rfl, ifT (by decide +kernel) ⟨_, rfl, t, _, _, _, rfl, rfl, hT, atI_nat (j := 1) rfl, _, rfl, t, _, _, _, rfl, rfl, hT, atI_nat (j := 2) rfl, _, rfl, t, _, _, _, rfl, rfl, hT, atI_nat (j := 3) rfl, _, rfl, t, _, _, _, rfl, rfl, hT, atI_nat (j := 4) rfl, fun x dx hx hdx ne => ⟨x, dx, _, rfl, rfl, upd_same, F2, fun t1 ht1 => ⟨rfl, ru _ r t x t1 pos _ H _ (made rfl hx hdx ne F2 t1 ht1).1 (seqT (made rfl hx hdx ne F2 t1 ht1).1 hR) (made rfl hx hdx ne F2 t1 ht1).2.1 (made rfl hx hdx ne F2 t1 ht1).2.2 k⟩⟩⟩⟩⟩
    | began _ _ =>
      exact ⟨_, rfl, t, _, _, _, rfl, rfl, hT, atI_nat (j := 0) rfl, rfl, _, rfl, ifF (by decide +kernel) ⟨_, rfl, t, _, _, _, rfl, rfl, hT, atI_nat (j := 0) rfl, rfl, _, rfl, ifF (by decide +kernel) ⟨_, rfl, t, _, _, _, rfl, rfl, hT, atI_nat (j := 0) rfl, rfl, _, rfl, ifT (by decide +kernel) ⟨_, rfl, t, _, _, _, rfl, rfl, hT, atI_nat (j := 1) rfl, _, rfl, t, _, _, _, rfl, rfl, hT, atI_nat (j := 2) rfl, fun x dx hx hdx ne => ⟨x, dx, _, rfl, rfl, upd_same, F3, fun t1 ht1 => ⟨rfl, ru _ r t x t1 pos _ H _ (made rfl hx hdx ne F3 t1 ht1).1 (seqT (made rfl hx hdx ne F3 t1 ht1).1 hR) (made rfl hx hdx ne F3 t1 ht1).2.1 (made rfl hx hdx ne F3 t1 ht1).2.2 k⟩⟩⟩⟩⟩⟩
    | held _ =>
      exact ⟨_, rfl, t, _, _, _, rfl, rfl, hT, atI_nat (j := 0) rfl, rfl, _, rfl, ifF (by decide +kernel) ⟨_, rfl, t, _, _, _, rfl, rfl, hT, atI_nat (j := 0) rfl, rfl, _, rfl, ifF (by decide +kernel) ⟨_, rfl, t, _, _, _, rfl, rfl, hT, atI_nat (j := 0) rfl, rfl, _, rfl, ifF (by decide +kernel) ⟨_, rfl, t, _, _, _, rfl, rfl, hT, atI_nat (j := 0) rfl, rfl, _, rfl, ifT (by decide +kernel) ⟨_, rfl, t, _, _, _, rfl, rfl, hT, atI_nat (j := 1) rfl, fun x dx hx hdx ne => ⟨x, dx, _, rfl, rfl, upd_same, F4, fun t1 ht1 => ⟨rfl, ru _ r t x t1 pos _ H _ (made rfl hx hdx ne F4 t1 ht1).1 (seqT (made rfl hx hdx ne F4 t1 ht1).1 hR) (made rfl hx hdx ne F4 t1 ht1).2.1 (made rfl hx hdx ne F4 t1 ht1).2.2 k⟩⟩⟩⟩⟩⟩⟩
    | turned _ _ _ =>
      exact ⟨_, rfl, t, _, _, _, rfl, rfl, hT, atI_nat (j := 0) rfl, rfl, _, rfl, ifF (by decide +kernel) ⟨_, rfl, t, _, _, _, rfl, rfl, hT, atI_nat (j := 0) rfl, rfl, _, rfl, ifF (by decide +kernel) ⟨_, rfl, t, _, _, _, rfl, rfl, hT, atI_nat (j := 0) rfl, rfl, _, rfl, ifF (by decide +kernel) ⟨_, rfl, t, _, _, _, rfl, rfl, hT, atI_nat (j := 0) rfl, rfl, _, rfl, ifF (by decide +kernel) ⟨_, rfl, t, _, _, _, rfl, rfl, hT, atI_nat (j := 1) rfl, _, rfl, t, _, _, _, rfl, rfl, hT, atI_nat (j := 2) rfl, _, rfl, t, _, _, _, rfl, rfl, hT, atI_nat (j := 3) rfl, fun x dx hx hdx ne => ⟨x, dx, _, rfl, rfl, upd_same, F5, fun t1 ht1 => ⟨rfl, ru _ r t x t1 pos _ H _ (made rfl hx hdx ne F5 t1 ht1).1 (seqT (made rfl hx hdx ne F5 t1 ht1).1 hR) (made rfl hx hdx ne F5 t1 ht1).2.1 (made rfl hx hdx ne F5 t1 ht1).2.2 k⟩⟩⟩⟩⟩⟩⟩
end
end L2.HK
/-! K5a: the law's def. -/
namespace L2.HK
open PySem PySem.Spec PyProof.Rows L2.HR
abbrev sLaw : Stmt := top 37
structure CalG (P : Program) (w : World) (K : PySem.W.Frag) (mg : Str → Option Value) (base : Heap) (CX : CXT) (k : Nat) (x : Str) (ps : List Str) (sp : Sp) : Prop where
  ex : ∃ (f : Addr) (fd : FuncData), FnG P w K mg base CX k f fd ps sp ∧ mg x = some (.ref f) ∧ PySem.W.keepIn K (.ref f) = true ∧ Binds K fd ps []
section
variable {X : Cx} {CX : CXT} {k : Nat} {x : Str} {ps : List Str} {sp : Sp} {E : XK} {p pos : Pos} {e : Expr} {es : List Expr} {t : TA}
theorem pe_calG (C : CalG X.prog X.w X.K X.mg X.base CX k x ps sp) (hG : X.A.guards = some []) (hr : Room k X.A) (hx : Passes CX X E) (ha : PA X (e :: es) t) (hg : Gl X x := by rfl) (hdb : (x == ("__debug__" : Str)) = false := by decide)
    (he : starEach (e :: es) X.env = (false, eval e X.env) :: starEach es X.env := by rfl) (hpl : (backTo pos (starEach es X.env)).any (·.1) = false := by rfl) : PE X (.Call (.Name x p) (e :: es) [] pos) (fun σ H Q => t σ H fun vs H1 => sp vs H1 Q E) := by
  obtain ⟨f, fd, F, hm, hk, hb⟩ := C.ex
  exact pe_callGd F hG hr hg hm hk hb hx ha hdb he hpl
theorem pe_calS {E : St → XK} (C : Cal X.prog X.w X.K X.mg X.base CX k x ps sp) (hr : Room k X.A) (hx : ∀ σ, PassesAt CX X σ (E σ)) (ha : PA X (e :: es) t) (hg : Gl X x := by rfl) (hdb : (x == ("__debug__" : Str)) = false := by decide)
    (he : starEach (e :: es) X.env = (false, eval e X.env) :: starEach es X.env := by rfl) (hpl : (backTo pos (starEach es X.env)).any (·.1) = false := by rfl) : PE X (.Call (.Name x p) (e :: es) [] pos) (tCallS sp E t) := by
  obtain ⟨f, fd, F, hm, hk, hb⟩ := C.ex
  exact pe_callS F hr hg hm hk hb hx ha hdb he hpl
end
theorem txt_len60 {pos : Bool} {xs : List V} (h : RowOk xs) : (txt pos xs).length ≤ 60 := by
  have h1 := join_len (ws := partsOf pos xs)
  have h2 := sum_len (b := 8) fun p hp => (parts_words (pos := pos) h p hp).2
  have h3 := parts_len (pos := pos) h
  unfold txt
  have h4 : (partsOf pos xs).length * 8 ≤ 6 * 8 := Nat.mul_le_mul_right 8 h3
  omega
/-- the words of a claim's text are of plain signs -/
theorem asc_itemT {k : Str} {i : Nat} {v : V} (h : ∀ x, v = .str x → ∀ c ∈ x.cps.toList, c < 128) (h2 : ∀ n, v = .int n → 0 ≤ n) : Asc (itemT k i v) := by
  have nn : Asc (if k = "told" ∧ i = 4 then ("end" : Str) else "any") := by
    split
    · exact asc_word (x := "end") (by decide +kernel)
    · exact asc_word (x := "any") (by decide +kernel)
  cases v with
  | str x => exact h x rfl
  | int n =>
    intro c hc
    have hc' : c ∈ (nS n).cps.toList := hc
    rw [tl_nS (h2 n rfl)] at hc'
    have q := TL.numL_digits _ c hc'
    omega
  | _ => exact nn
theorem asc_items {k : Str} : ∀ {xs : List V} {i : Nat}, (∀ v ∈ xs, ∀ x, v = .str x → ∀ c ∈ x.cps.toList, c < 128) → (∀ v ∈ xs, ∀ n, v = .int n → 0 ≤ n) → ∀ w ∈ itemsT k i xs, Asc w
  | [], _, _, _ => fun w hw => by cases hw
  | v :: xs, i, h, h2 => fun w hw => by
    rcases List.mem_cons.mp (show w ∈ itemT k i v :: itemsT k (i + 1) xs from hw) with e | hw
    · rw [e]
      exact asc_itemT (h v List.mem_cons_self) (h2 v List.mem_cons_self)
    · exact asc_items (fun y hy => h y (List.mem_cons_of_mem _ hy)) (fun y hy => h2 y (List.mem_cons_of_mem _ hy)) w hw
theorem row_nn {xs : List V} (h : RowOk xs) : ∀ v ∈ xs, ∀ n, v = .int n → 0 ≤ n := by
  intro v hv n e
  have ii := row_item h v hv
  rcases ii with q | ⟨m, q, hm⟩ | ⟨x, q⟩
  · rw [q] at e
    cases e
  · rw [q] at e
    injection e with e
    rw [← e]
    exact hm.1
  · rw [q] at e
    cases e
theorem txt_asc {pos : Bool} {xs : List V} (h : RowOk xs) : Asc (txt pos xs) := by
  refine join_asc fun w hw => ?_
  unfold partsOf at hw
  rcases List.mem_append.mp hw with h1 | h1
  · cases pos with
    | true => exact absurd h1 (by simp)
    | false =>
      have e : w = "not" := by simpa using h1
      rw [e]
      exact asc_word (by decide +kernel)
  · exact asc_items (row_asc h) (row_nn h) w h1
def spLaw (K : PySem.W.Frag) : Sp := fun vs H Q _ => ∃ (a : Addr) (ns : List Int), vs = [.ref a] ∧ SqL K H a (ns.map V.int) ∧ ns.length ≤ 63 ∧ ∀ H', Q (.bl true) H'
abbrev LWN : List Str := ["_law_script", "_law_box_here", "_law_row", "_law_claim_here", "_law_text_here", "_law_bent_here", "_law_expected", "_law_found", "e"]
/-- all that the law calls -/
structure TLaw (P : Program) (w : World) (K : PySem.W.Frag) (mg : Str → Option Value) (base : Heap) (A fN fE fS IT fX HE : Addr) : Prop where
  top : Top K mg A
  fam : Fam K A fN fE fS A
  wr : PySem.WrongX.WrongTxt K mg IT fX
  gHE : mg "HeardbyError" = some (.ref HE)
  exc : ExcC K IT
  isHE : PySem.W.kitOne K (.ref IT) (.ref HE) = some true
  box : Cal P w K mg base CX0 1 "_law_box" ["_law_script"] (spBox K)
  row : Cal P w K mg base CX0 3 "_law_free_row" ["_law_box_here"] spRow
  claim : Cal P w K mg base CX0 4 "_law_claim" ["_law_row"] (spClaim K A fN fE fS)
  text : Cal P w K mg base CX0 1 "_law_text" ["_law_row"] (spLtext K)
  parse : Cal P w K mg base (L2.CX P w) 4 "parse_claim" ["text"] (spParse K A fN fE fS IT)
  same : CalG P w K mg base CX0 2 "_law_same" ["_law_claim_here", "_law_row"] (spSame K A fN fE fS)
  bent : Cal P w K mg base CX0 2 "_law_bent" ["_law_box_here", "_law_text_here"] spBent
  reads : Cal P w K mg base CX0 2 "_law_reads" ["_law_text_here"] (spReads K)
  str : ∃ fd, FnOk P w K mg base CX0 2 fS fd ["self"] (spStr K A fN fE fS) ∧ Binds K fd ["self"] []
  eq : ∃ fd, FnOk P w K mg base CX0 1 fE fd ["self", "other"] (spEq K A fN fE fS) ∧ Binds K fd ["self", "other"] []
section
variable {P : Program} {w : World} {K : PySem.W.Frag} {mg : Str → Option Value} {base : Heap} {A fN fE fS IT fX HE : Addr}
theorem scLaw : FnScope LWN ["_law_script"] (defScope sLaw) := ⟨rfl, rfl, rfl, by decide +kernel, rfl, by decide +kernel, by decide +kernel⟩
theorem ok_law {f : Addr} {fd : FuncData} (F : Fun K "law" "law" sLaw f fd) (T : TLaw P w K mg base A fN fE fS IT fX HE) : FnG P w K mg base CX0 5 f fd ["_law_script"] (spLaw K) := by
  refine fnG_ok F scLaw (fun vs H Q E h => ?_) (fun cdv A' outer s H vs Q E hG hr h => ?_)
  · obtain ⟨a, ns, rfl, _⟩ := h
    rfl
  · obtain ⟨a, ns, rfl, hS, hlen, k⟩ := h
    have hr3 : Room 3 _ := hr.mono (by decide)
    have hr2 : Room 2 _ := hr.mono (by decide)
    have hr1 : Room 1 _ := hr.mono (by decide)
    obtain ⟨fdS, GS, bS⟩ := T.str
    obtain ⟨fdE, GE, bE⟩ := T.eq
    refine ⟨_, PSs.nox (pss_cons (ps_set (i := 1) scLaw.nd rfl (Or.inl rfl) (pe_cal T.box hr1 pass0 (pa_cons (pv 0) pa_nil)))
      (pss_cons (ps_set (i := 2) scLaw.nd rfl (Or.inl rfl) (pe_cal T.row hr3 pass0 (pa_cons (pv 1) pa_nil)))
      (pss_cons (ps_set (i := 3) scLaw.nd rfl (Or.inl rfl) (pe_cal T.claim hr pass0 (pa_cons (pv 2) pa_nil)))
      (pss_cons (ps_set (i := 4) scLaw.nd rfl (Or.inl rfl) (pe_cal T.text hr1 pass0 (pa_cons (pv 2) pa_nil)))
      (pss_cons (ps_if (PW.pt (pw_or (pt_cmpR op_ne (pe_callTy (call_strOwn GS hr bS pass0) (by rfl) T.top.str boot_str (pa_cons (pv 3) pa_nil)) (pv 4) (nomark _))
          (pw_or (pt_not (pt_val (pe_calG T.same hG hr2 pass0 (pa_cons (pe_cal T.parse hr passL (pa_cons (pv 4) pa_nil)) (pa_cons (pv 2) pa_nil)))))
          (pw_or1 (pt_not (pt_cmpR (op_eqOwn GE hr1 bE pass0) (pe_cal T.parse hr passL (pa_cons (pv 4) pa_nil)) (pv 3) (nomark _))))))) (pss_one (ps_ret pe_bl)) pss_nil)
      (pss_cons (ps_set (i := 5) scLaw.nd rfl (Or.inl rfl) (pe_cal T.bent hr2 pass0 (pa_cons (pv 1) (pa_cons (pv 4) pa_nil))))
      (pss_cons (ps_set (i := 6) scLaw.nd rfl (Or.inl rfl) (pe_cal T.reads hr2 pass0 (pa_cons (pv 5) pa_nil)))
      (pss_cons (ps_try_as (i := 8) (tb := fun W => tAsg (tCallS (spParse K A fN fE fS IT) (WE W) (tCons (tVar 5) tNil)) (gName 7)) (Wout := fun _ _ _ _ => False) rfl rfl scLaw.nd rfl rfl ⟨rfl, by decide, Or.inl T.wr.gC⟩ takes0
          (fun W pn xe tk _ => pss_one (ps_set (i := 7) scLaw.nd rfl (Or.inl rfl) (by exact (pe_calS T.parse hr (fun σ => passAt tk σ) (by exact (pa_cons (pv 5) pa_nil))))))
          (fun a oe cls d pn hz hf => pss_one (ps_ret (pe_and (pe_cmp (pc_isN (pv 6))) (pe_and (pe_callB (call_isF T.exc hz hf) (by rfl) T.top.isi boot_isinstance (by exact (pa_cons (pv 8) (pa_cons (pgR T.gHE) pa_nil))))
            (pe_one (pe_cmpR op_eq (pe_wrong T.wr hz hf (pv 8)) (pv 5) (nomark _))))))))
      (pss_one (ps_ret (pe_and (pe_cmp (pc_notN (pv 6))) (pe_one (pe_calG T.same hG hr2 pass0 (pa_cons (pv 7) (pa_cons (pv 6) pa_nil))))))))))))))), ?_⟩
    -- box, row, claim, text
    refine ⟨_, rfl, a, ns, rfl, hS, hlen, fun b l H1 s1 hb0 hl0 B1 => ?_⟩
    refine ⟨_, rfl, b, l, rfl, B1, fun r t pos xs H2 hO r2 t2 B2 k2 => ?_⟩
    refine ⟨_, rfl, r, t, pos, xs, rfl, SqT.of r2, SqT.of t2, hO, fun c u H3 s3 hC hU => ?_⟩
    have r3 := s3 _ _ r2
    have t3 := s3 _ _ t2
    refine ⟨_, rfl, r, t, xs, pos, rfl, SqT.of r3, SqT.of t3, hO, fun H4 s4 => ?_⟩
    have r4 := s4 _ _ r3
    have t4 := s4 _ _ t3
    have B4 : Bx H4 b l := by
      obtain ⟨n1, i1, j1, q1, e1, e2, e3, e4⟩ := B2
      exact ⟨n1, i1, j1, q1, s4 _ _ (s3 _ _ e1), s4 _ _ (s3 _ _ e2), e3, e4⟩
    have C4 : ∀ {G : Hp}, Same H3 G → Clm K A fN fE fS G c u pos := fun {G} e => by
      obtain ⟨C', dx, h1, h2⟩ := hC
      exact ⟨C', dx, e _ _ h1, h2⟩
    obtain ⟨Cc, dxc, hc3, hFc⟩ := id hC
    have eP : parse (txt pos xs) = some (pos, xs) := parse_txt hO
    have hl60 := txt_len60 (pos := pos) hO
    have hle : (txt pos xs).length ≤ 10000 := Nat.le_trans hl60 (by decide)
    -- str(claim) != text
    refine ⟨_, rfl, c, Cc, dxc, _, rfl, s4 _ _ hc3, hFc.str, c, u, pos, xs, rfl, C4 s4, seqT s4 hU, hO, fun H5 s5 => ⟨_, rfl, _, rfl, rfl, _, rfl, ?_⟩⟩
    refine ifF (by rw [decide_eq_true rfl]; rfl) ?_
    -- not _law_same(parse_claim(text), row)
    refine ⟨_, rfl, txt pos xs, rfl, hle, ?_⟩
    rw [eP]
    intro c6 a6 dx6 H6 n6 s6 h6 q6
    have s46 : Same H4 H6 := s5.trans s6
    refine ⟨_, rfl, c6, a6, r, t, pos, xs, rfl, ⟨A, dx6, h6, T.fam⟩, q6, SqT.of (s46 _ _ r4), SqT.of (s46 _ _ t4), hO, _, rfl, iteF ?_⟩
    -- not parse_claim(text) == claim
    refine ⟨_, rfl, txt pos xs, rfl, hle, ?_⟩
    rw [eP]
    intro c7 a7 dx7 H7 n7 s7 h7 q7
    have s47 : Same H4 H7 := s46.trans s7
    have s37 : Same H3 H7 := s4.trans s47
    have C7 : Clm K A fN fE fS H7 c7 a7 pos := ⟨A, dx7, h7, T.fam⟩
    refine ⟨_, rfl, c7, c, A, Cc, dx7, dxc, _, _, rfl, rfl, h7, s37 _ _ hc3, ?_⟩
    have go : ∀ {Qq : VK}, Qq (.bl true) H7 → (Cc = A ∧ Meth K A "__eq__" fE ∧ spEq K A fN fE fS [.ref c7, .ref c] H7 Qq E0) ∨ (A ≠ Cc ∧ PySem.W.subIn K (.ref Cc) (.ref A) = some true ∧ Meth K Cc "__eq__" fE ∧ spEq K A fN fE fS [.ref c, .ref c7] H7 Qq E0) := fun {Qq} q => by
      by_cases e : Cc = A
      · exact .inl ⟨e, T.fam.eq, c7, a7, c, u, pos, xs, rfl, C7, C4 s37, q7, seqT s37 hU, hO, q⟩
      · exact .inr ⟨fun z => e z.symm, hFc.sub e, hFc.eq, c, u, c7, a7, pos, xs, rfl, C4 s37, C7, seqT s37 hU, q7, hO, q⟩
    refine go ⟨true, rfl, ?_⟩
    refine ⟨_, rfl, iteF ?_⟩
    -- the bent text
    have B7 : Bx H7 b l := by
      obtain ⟨n1, i1, j1, q1, e1, e2, e3, e4⟩ := B4
      exact ⟨n1, i1, j1, q1, s47 _ _ e1, s47 _ _ e2, e3, e4⟩
    refine ⟨_, rfl, _, rfl, b, l, txt pos xs, rfl, B7, hl60, txt_asc hO, fun bt H8 bl ba B8 k8 => ?_⟩
    refine ⟨_, rfl, bt, rfl, bl, ba, ?_⟩
    cases ep : parse bt with
    | some px =>
      obtain ⟨p2, xs2⟩ := px
      intro r9 a9 H9 s9 hr9 ha9
      have hO2 := parse_ok ep
      refine ⟨_, rfl, bt, rfl, bl, ?_⟩
      rw [ep]
      intro c10 a10 dx10 H10 n10 s10 h10 q10
      refine ⟨_, rfl, true, rfl, iteT ⟨_, rfl, _, rfl, c10, a10, r9, a9, p2, xs2, rfl, ⟨A, dx10, h10, T.fam⟩, q10, seqT s10 hr9, seqT s10 ha9, hO2, k _⟩⟩
    | none =>
      intro H9 s9
      refine ⟨_, rfl, bt, rfl, bl, ?_⟩
      rw [ep]
      intro d H10 s10 hd10
      refine ⟨true, T.wr.te, fun _ a0 _ => ?_, fun q => Bool.noConfusion q⟩
      refine ⟨_, rfl, true, rfl, iteT ⟨_, rfl, _, _, _, d, _, rfl, rfl, fun uu hu => hu, rfl, hd10, T.isHE, true, rfl, iteT ?_⟩⟩
      refine ⟨_, rfl, rfl, rfl, d, _, rfl, hd10, _, rfl, rfl, ?_⟩
      show Q (V.bl (decide (V.str bt = V.str bt))) H10
      rw [decide_eq_true rfl]
      exact k _
end
end L2.HK
/-! K5b: what the top has written, as facts that k_is finds (printed by gen5.py). -/
namespace L2.HK
open PySem PySem.Spec PyProof.Rows L2.HR
theorem exm_self {K : PySem.W.Frag} {S : Addr} (h1 : PySem.W.subIn K (.ref S) (.type "BaseException") = some true) (h2 : PySem.W.isClsIn K S = true) (h3 : PySem.W.typeIn K (.ref S) = some (.type "type")) (h4 : PySem.W.subIn K (.ref S) (.ref S) = some true) :
    PySem.W.exmOne K (.ref S) (.ref S) = some true := by
  have e1 : (PySem.W.subIn K (.ref S) (.type "BaseException") == some true) = true := by rw [h1] <;> rfl
  have e2 : ((PySem.W.clsIn K S).isSome && PySem.W.typeIn K (.ref S) == some (.type "type")) = true := by
    have h2' : (PySem.W.clsIn K S).isSome = true := h2
    rw [h2', h3] <;> rfl
  show (if (PySem.W.subIn K (.ref S) (.type "BaseException") == some true) = true then (if ((PySem.W.clsIn K S).isSome && PySem.W.typeIn K (.ref S) == some (.type "type")) = true then PySem.W.subIn K (.ref S) (.ref S) else none) else none) = some true
  rw [if_pos e1, if_pos e2]
  exact h4
theorem kit_sub {K : PySem.W.Frag} {S C : Addr} (h2 : PySem.W.isClsIn K C = true) (h3 : PySem.W.typeIn K (.ref C) = some (.type "type")) (h4 : PySem.W.subIn K (.ref S) (.ref C) = some true) : PySem.W.kitOne K (.ref S) (.ref C) = some true := by
  have e2 : ((PySem.W.clsIn K C).isSome && PySem.W.typeIn K (.ref C) == some (.type "type")) = true := by
    have h2' : (PySem.W.clsIn K C).isSome = true := h2
    rw [h2', h3] <;> rfl
  unfold PySem.W.kitOne
  split
  · rfl
  · show (if ((PySem.W.clsIn K C).isSome && PySem.W.typeIn K (.ref C) == some (.type "type")) = true then PySem.W.subIn K (.ref S) (.ref C) else none) = some true
    rw [if_pos e2]
    exact h4
theorem kit_refl {K : PySem.W.Frag} {C : Addr} : PySem.W.kitOne K (.ref C) (.ref C) = some true := by
  unfold PySem.W.kitOne
  rw [if_pos (by simp)]
theorem seqT_k {K : PySem.W.Frag} {a : Addr} {d : Option Addr} {n : Nat} {sl : Array (Option Value)} {its : Array Value} {xs : List V} (l : K.lookup a = some ⟨.type "tuple", d, .seq its n, sl⟩) (hz : its.size ≤ sizeLine) (r : Vals xs its.toList) (H : Hp) : SqT K H a xs :=
  .inr ⟨_, its, n, l, rfl, rfl, hz, r⟩
theorem mgN {K : PySem.W.Frag} {h : Heap} {mg : Str → Option Value} {x : Str} (X : K.In h) (G : h.Ns mainGlobals mg) (e : PySem.W.nsIn K mainGlobals x = some none) : mg x = none := PySem.W.mg_none_of X G e
theorem rel_str (x : Str) (t : Tok) : RelV (.str x) (.str x t) := ⟨t, rfl⟩

theorem ns_list {K : PySem.W.Frag} {a : Addr} {es : List DictEntry} {n : Nat} (l : K.lookup a = some ⟨.type "dict", none, .dict es.toArray n, #[]⟩) (hr : es.any (·.refKey) = false) (x : Str) :
    PySem.W.nsIn K a x = (match es.find? (·.key.isStr x) with | some e => some (some e.val) | none => some none) := by
  unfold PySem.W.nsIn
  rw [l]
  show (match es.find? (·.key.isStr x) with | some e => some (some e.val) | none => if es.any (·.refKey) = true then none else some none) = _
  rw [hr]
  cases es.find? (·.key.isStr x) <;> rfl
theorem forms_ok {K : PySem.W.Frag} {aF u1 u2 u3 u4 u5 : Addr} {h1 h2 h3 h4 h5 : Int} {s1 s2 s3 s4 s5 : Tok}
    (ns : ∀ x : Str, PySem.W.nsIn K aF x = (match ([⟨h1, .str "knew" s1, .ref u1⟩, ⟨h2, .str "told" s2, .ref u2⟩, ⟨h3, .str "began" s3, .ref u3⟩, ⟨h4, .str "held" s4, .ref u4⟩, ⟨h5, .str "turned" s5, .ref u5⟩] : List DictEntry).find? (·.key.isStr x) with | some e => some (some e.val) | none => some none))
    (q1 : ∀ H : Hp, SqT K H u1 [.str "name", .str "number", .str "any"]) (q2 : ∀ H : Hp, SqT K H u2 [.str "any", .str "any", .str "number", .str "end"]) (q3 : ∀ H : Hp, SqT K H u3 [.str "name", .str "any"]) (q4 : ∀ H : Hp, SqT K H u4 [.str "number"]) (q5 : ∀ H : Hp, SqT K H u5 [.str "name", .str "any", .str "any"]) (z : Str) :
    match formsOf z with
      | some fs => ∃ a, PySem.W.nsIn K aF z = some (some (.ref a)) ∧ ∀ H : Hp, SqT K H a (fs.map fun f => V.str (fmS f))
      | none => PySem.W.nsIn K aF z = some none := by
  have is : ∀ (x y : Str) (t : Tok), (Value.str x t).isStr y = (x == y) := fun x y t => rfl
  by_cases k1 : z = "knew"
  · subst k1
    rw [forms_knew]
    exact ⟨u1, by rw [ns]; rfl, q1⟩
  by_cases k2 : z = "told"
  · subst k2
    rw [forms_told]
    exact ⟨u2, by rw [ns]; rfl, q2⟩
  by_cases k3 : z = "began"
  · subst k3
    rw [forms_began]
    exact ⟨u3, by rw [ns]; rfl, q3⟩
  by_cases k4 : z = "held"
  · subst k4
    rw [forms_held]
    exact ⟨u4, by rw [ns]; rfl, q4⟩
  by_cases k5 : z = "turned"
  · subst k5
    rw [forms_turned]
    exact ⟨u5, by rw [ns]; rfl, q5⟩
  have e : formsOf z = none := by
    unfold formsOf
    rw [if_neg k1, if_neg k2, if_neg k3, if_neg k4, if_neg k5]
  rw [e]
  show PySem.W.nsIn K aF z = some none
  rw [ns]
  have b : ∀ {x : Str}, ¬ z = x → (x == z) = false := fun h => beq_eq_false_iff_ne.mpr fun q => h q.symm
  simp only [List.find?_cons, List.find?_nil, is, b k1, b k2, b k3, b k4, b k5]

theorem all_mk {w : World} {K : PySem.W.Frag} {h : Heap} {mg : Str → Option Value} {fa : Addr} (X : K.In h) (G : h.Ns mainGlobals mg) (hfa : mg "law" = some (.ref fa))
    {f1 f2 f3 f4 f5 f6 f7 f8 f9 f10 f11 f12 f13 f14 f15 f16 f17 f18 : Addr}
    {od1 an1 : Option Addr} {sl1 : Array (Option Value)} {oc1 kV1 dc1 pm1 cd1 ct1 : Value}
    {od2 an2 : Option Addr} {sl2 : Array (Option Value)} {oc2 kV2 dc2 pm2 cd2 ct2 : Value}
    {od3 an3 : Option Addr} {sl3 : Array (Option Value)} {oc3 kV3 dc3 pm3 cd3 ct3 : Value}
    {od4 an4 : Option Addr} {sl4 : Array (Option Value)} {oc4 kV4 dc4 pm4 cd4 ct4 : Value}
    {od5 an5 : Option Addr} {sl5 : Array (Option Value)} {oc5 kV5 dc5 pm5 cd5 ct5 : Value}
    {od6 an6 : Option Addr} {sl6 : Array (Option Value)} {oc6 kV6 dc6 pm6 cd6 ct6 : Value}
    {od7 an7 : Option Addr} {sl7 : Array (Option Value)} {oc7 kV7 dc7 pm7 cd7 ct7 : Value}
    {od8 an8 : Option Addr} {sl8 : Array (Option Value)} {oc8 kV8 dc8 pm8 cd8 ct8 : Value}
    {od9 an9 : Option Addr} {sl9 : Array (Option Value)} {oc9 kV9 dc9 pm9 cd9 ct9 : Value}
    {od10 an10 : Option Addr} {sl10 : Array (Option Value)} {oc10 kV10 dc10 pm10 cd10 ct10 : Value}
    {od11 an11 : Option Addr} {sl11 : Array (Option Value)} {oc11 kV11 dc11 pm11 cd11 ct11 : Value}
    {od12 an12 : Option Addr} {sl12 : Array (Option Value)} {oc12 kV12 dc12 pm12 cd12 ct12 : Value}
    {od13 an13 : Option Addr} {sl13 : Array (Option Value)} {oc13 kV13 dc13 pm13 cd13 ct13 : Value}
    {od14 an14 : Option Addr} {sl14 : Array (Option Value)} {oc14 kV14 dc14 pm14 cd14 ct14 : Value}
    {od15 an15 : Option Addr} {sl15 : Array (Option Value)} {oc15 kV15 dc15 pm15 cd15 ct15 : Value}
    {od16 an16 : Option Addr} {sl16 : Array (Option Value)} {oc16 kV16 dc16 pm16 cd16 ct16 : Value}
    {od17 an17 : Option Addr} {sl17 : Array (Option Value)} {oc17 kV17 dc17 pm17 cd17 ct17 : Value}
    {od18 an18 : Option Addr} {sl18 : Array (Option Value)} {oc18 kV18 dc18 pm18 cd18 ct18 : Value}
    {tL tD tS tM : Tok} {aR : Addr} {t1 t2 t3 t4 t5 : Tok} {dR : Option Addr} {nR : Nat} {sR : Array (Option Value)}
    {aF u1 u2 u3 u4 u5 : Addr} {h1 h2 h3 h4 h5 : Int} {s1 s2 s3 s4 s5 : Tok} {nF : Nat}
    {e1a e1b e1c : Tok} {dU1 : Option Addr} {nU1 : Nat} {sU1 : Array (Option Value)}
    {e2a e2b e2c e2d : Tok} {dU2 : Option Addr} {nU2 : Nat} {sU2 : Array (Option Value)}
    {e3a e3b : Tok} {dU3 : Option Addr} {nU3 : Nat} {sU3 : Array (Option Value)}
    {e4a : Tok} {dU4 : Option Addr} {nU4 : Nat} {sU4 : Array (Option Value)}
    {e5a e5b e5c : Tok} {dU5 : Option Addr} {nU5 : Nat} {sU5 : Array (Option Value)}
    {A fI fN fE fS : Addr}
    {TI : Addr} {cTI : Value} {dTI : Option Addr} {nTI : Nat} {sTI : Array (Option Value)}
    {odI anI : Option Addr} {slI : Array (Option Value)} {ocI kVI dcI pmI cdI ctI : Value}
    {odN anN : Option Addr} {slN : Array (Option Value)} {ocN kVN dcN pmN cdN ctN : Value}
    {odE anE : Option Addr} {slE : Array (Option Value)} {ocE kVE dcE pmE cdE ctE : Value}
    {odS anS : Option Addr} {slS : Array (Option Value)} {ocS kVS dcS pmS cdS ctS : Value}
    {D1 g1 x1 y1 T1 : Addr} {odK1 anK1 : Option Addr} {slK1 : Array (Option Value)} {ocK1 kVK1 dcK1 pmK1 ctK1 : Value}
    {vK1 : Array Value} {cxK1 cyK1 : Value} {dxK1 dyK1 : Option Addr} {sxK1 syK1 : Array (Option Value)} {tfK1 : Tok}
    {cTK1 : Value} {dTK1 : Option Addr} {nTK1 : Nat} {sTK1 : Array (Option Value)}
    {D2 g2 x2 y2 T2 : Addr} {odK2 anK2 : Option Addr} {slK2 : Array (Option Value)} {ocK2 kVK2 dcK2 pmK2 ctK2 : Value}
    {vK2 : Array Value} {cxK2 cyK2 : Value} {dxK2 dyK2 : Option Addr} {sxK2 syK2 : Array (Option Value)} {tfK2 : Tok}
    {tkK22 : Tok}
    {cTK2 : Value} {dTK2 : Option Addr} {nTK2 : Nat} {sTK2 : Array (Option Value)}
    {D3 g3 x3 y3 T3 : Addr} {odK3 anK3 : Option Addr} {slK3 : Array (Option Value)} {ocK3 kVK3 dcK3 pmK3 ctK3 : Value}
    {vK3 : Array Value} {cxK3 cyK3 : Value} {dxK3 dyK3 : Option Addr} {sxK3 syK3 : Array (Option Value)} {tfK3 : Tok}
    {cTK3 : Value} {dTK3 : Option Addr} {nTK3 : Nat} {sTK3 : Array (Option Value)}
    {D4 g4 x4 y4 : Addr} {odK4 anK4 : Option Addr} {slK4 : Array (Option Value)} {ocK4 kVK4 dcK4 pmK4 ctK4 : Value}
    {vK4 : Array Value} {cxK4 cyK4 : Value} {dxK4 dyK4 : Option Addr} {sxK4 syK4 : Array (Option Value)} {tfK4 : Tok}
    {D5 g5 x5 y5 T5 : Addr} {odK5 anK5 : Option Addr} {slK5 : Array (Option Value)} {ocK5 kVK5 dcK5 pmK5 ctK5 : Value}
    {vK5 : Array Value} {cxK5 cyK5 : Value} {dxK5 dyK5 : Option Addr} {sxK5 syK5 : Array (Option Value)} {tfK5 : Tok}
    {cTK5 : Value} {dTK5 : Option Addr} {nTK5 : Nat} {sTK5 : Array (Option Value)}
    {IT HE fX NX : Addr} {nmX qX : Str} {bsX : List Value} {snX : List Str} {subX : List Value} {abX : Bool} {colX : Option Bool} {ddX : Option Addr} {m0 m1 m2 m3 m5 : Option Value} {odX anX : Option Addr} {slX : Array (Option Value)} {ocX dcX pmX cdX ctX : Value}
    (a1 : PySem.W.nsIn K mainGlobals "is_name" = some (some (.ref f1)))
    (l1 : K.lookup f1 = some ⟨oc1, od1, .func (PySem.W.fnOf "is_name" "is_name" (defArgs sIsName) (defBody sIsName) (defScope sIsName) .none kV1 dc1 pm1 an1 cd1 ct1), sl1⟩)
    (c1 : PySem.W.codeIn K cd1 "is_name" = true)
    (k1 : PySem.W.keepIn K (.ref f1) = true)
    (a2 : PySem.W.nsIn K mainGlobals "number_of" = some (some (.ref f2)))
    (l2 : K.lookup f2 = some ⟨oc2, od2, .func (PySem.W.fnOf "number_of" "number_of" (defArgs sNumber) (defBody sNumber) (defScope sNumber) .none kV2 dc2 pm2 an2 cd2 ct2), sl2⟩)
    (c2 : PySem.W.codeIn K cd2 "number_of" = true)
    (k2 : PySem.W.keepIn K (.ref f2) = true)
    (a3 : PySem.W.nsIn K mainGlobals "claim_text" = some (some (.ref f3)))
    (l3 : K.lookup f3 = some ⟨oc3, od3, .func (PySem.W.fnOf "claim_text" "claim_text" (defArgs sCtext) (defBody sCtext) (defScope sCtext) .none kV3 dc3 pm3 an3 cd3 ct3), sl3⟩)
    (c3 : PySem.W.codeIn K cd3 "claim_text" = true)
    (k3 : PySem.W.keepIn K (.ref f3) = true)
    (a4 : PySem.W.nsIn K mainGlobals "read_word" = some (some (.ref f4)))
    (l4 : K.lookup f4 = some ⟨oc4, od4, .func (PySem.W.fnOf "read_word" "read_word" (defArgs sRead) (defBody sRead) (defScope sRead) .none kV4 dc4 pm4 an4 cd4 ct4), sl4⟩)
    (c4 : PySem.W.codeIn K cd4 "read_word" = true)
    (k4 : PySem.W.keepIn K (.ref f4) = true)
    (a5 : PySem.W.nsIn K mainGlobals "parse_claim" = some (some (.ref f5)))
    (l5 : K.lookup f5 = some ⟨oc5, od5, .func (PySem.W.fnOf "parse_claim" "parse_claim" (defArgs sParse) (defBody sParse) (defScope sParse) .none kV5 dc5 pm5 an5 cd5 ct5), sl5⟩)
    (c5 : PySem.W.codeIn K cd5 "parse_claim" = true)
    (k5 : PySem.W.keepIn K (.ref f5) = true)
    (a6 : PySem.W.nsIn K mainGlobals "_law_bool" = some (some (.ref f6)))
    (l6 : K.lookup f6 = some ⟨oc6, od6, .func (PySem.W.fnOf "_law_bool" "_law_bool" (defArgs sBool) (defBody sBool) (defScope sBool) .none kV6 dc6 pm6 an6 cd6 ct6), sl6⟩)
    (c6 : PySem.W.codeIn K cd6 "_law_bool" = true)
    (k6 : PySem.W.keepIn K (.ref f6) = true)
    (a7 : PySem.W.nsIn K mainGlobals "_law_box" = some (some (.ref f7)))
    (l7 : K.lookup f7 = some ⟨oc7, od7, .func (PySem.W.fnOf "_law_box" "_law_box" (defArgs sBox) (defBody sBox) (defScope sBox) .none kV7 dc7 pm7 an7 cd7 ct7), sl7⟩)
    (c7 : PySem.W.codeIn K cd7 "_law_box" = true)
    (k7 : PySem.W.keepIn K (.ref f7) = true)
    (a8 : PySem.W.nsIn K mainGlobals "_law_take" = some (some (.ref f8)))
    (l8 : K.lookup f8 = some ⟨oc8, od8, .func (PySem.W.fnOf "_law_take" "_law_take" (defArgs sTake) (defBody sTake) (defScope sTake) .none kV8 dc8 pm8 an8 cd8 ct8), sl8⟩)
    (c8 : PySem.W.codeIn K cd8 "_law_take" = true)
    (k8 : PySem.W.keepIn K (.ref f8) = true)
    (a9 : PySem.W.nsIn K mainGlobals "_law_names" = some (some (.ref f9)))
    (l9 : K.lookup f9 = some ⟨oc9, od9, .func (PySem.W.fnOf "_law_names" "_law_names" (defArgs sNames) (defBody sNames) (defScope sNames) .none kV9 dc9 pm9 an9 cd9 ct9), sl9⟩)
    (c9 : PySem.W.codeIn K cd9 "_law_names" = true)
    (k9 : PySem.W.keepIn K (.ref f9) = true)
    (a10 : PySem.W.nsIn K mainGlobals "_law_free_row" = some (some (.ref f10)))
    (l10 : K.lookup f10 = some ⟨oc10, od10, .func (PySem.W.fnOf "_law_free_row" "_law_free_row" (defArgs sRow) (defBody sRow) (defScope sRow) .none kV10 dc10 pm10 an10 cd10 ct10), sl10⟩)
    (c10 : PySem.W.codeIn K cd10 "_law_free_row" = true)
    (k10 : PySem.W.keepIn K (.ref f10) = true)
    (a11 : PySem.W.nsIn K mainGlobals "_law_text" = some (some (.ref f11)))
    (l11 : K.lookup f11 = some ⟨oc11, od11, .func (PySem.W.fnOf "_law_text" "_law_text" (defArgs sLtext) (defBody sLtext) (defScope sLtext) .none kV11 dc11 pm11 an11 cd11 ct11), sl11⟩)
    (c11 : PySem.W.codeIn K cd11 "_law_text" = true)
    (k11 : PySem.W.keepIn K (.ref f11) = true)
    (a12 : PySem.W.nsIn K mainGlobals "_law_same" = some (some (.ref f12)))
    (l12 : K.lookup f12 = some ⟨oc12, od12, .func (PySem.W.fnOf "_law_same" "_law_same" (defArgs sSame) (defBody sSame) (defScope sSame) .none kV12 dc12 pm12 an12 cd12 ct12), sl12⟩)
    (c12 : PySem.W.codeIn K cd12 "_law_same" = true)
    (k12 : PySem.W.keepIn K (.ref f12) = true)
    (a13 : PySem.W.nsIn K mainGlobals "_law_name_word" = some (some (.ref f13)))
    (l13 : K.lookup f13 = some ⟨oc13, od13, .func (PySem.W.fnOf "_law_name_word" "_law_name_word" (defArgs sNameW) (defBody sNameW) (defScope sNameW) .none kV13 dc13 pm13 an13 cd13 ct13), sl13⟩)
    (c13 : PySem.W.codeIn K cd13 "_law_name_word" = true)
    (k13 : PySem.W.keepIn K (.ref f13) = true)
    (a14 : PySem.W.nsIn K mainGlobals "_law_number_word" = some (some (.ref f14)))
    (l14 : K.lookup f14 = some ⟨oc14, od14, .func (PySem.W.fnOf "_law_number_word" "_law_number_word" (defArgs sNumW) (defBody sNumW) (defScope sNumW) .none kV14 dc14 pm14 an14 cd14 ct14), sl14⟩)
    (c14 : PySem.W.codeIn K cd14 "_law_number_word" = true)
    (k14 : PySem.W.keepIn K (.ref f14) = true)
    (a15 : PySem.W.nsIn K mainGlobals "_law_reads" = some (some (.ref f15)))
    (l15 : K.lookup f15 = some ⟨oc15, od15, .func (PySem.W.fnOf "_law_reads" "_law_reads" (defArgs sReads) (defBody sReads) (defScope sReads) .none kV15 dc15 pm15 an15 cd15 ct15), sl15⟩)
    (c15 : PySem.W.codeIn K cd15 "_law_reads" = true)
    (k15 : PySem.W.keepIn K (.ref f15) = true)
    (a16 : PySem.W.nsIn K mainGlobals "_law_bent" = some (some (.ref f16)))
    (l16 : K.lookup f16 = some ⟨oc16, od16, .func (PySem.W.fnOf "_law_bent" "_law_bent" (defArgs sBent) (defBody sBent) (defScope sBent) .none kV16 dc16 pm16 an16 cd16 ct16), sl16⟩)
    (c16 : PySem.W.codeIn K cd16 "_law_bent" = true)
    (k16 : PySem.W.keepIn K (.ref f16) = true)
    (a17 : PySem.W.nsIn K mainGlobals "_law_claim" = some (some (.ref f17)))
    (l17 : K.lookup f17 = some ⟨oc17, od17, .func (PySem.W.fnOf "_law_claim" "_law_claim" (defArgs sClaim) (defBody sClaim) (defScope sClaim) .none kV17 dc17 pm17 an17 cd17 ct17), sl17⟩)
    (c17 : PySem.W.codeIn K cd17 "_law_claim" = true)
    (k17 : PySem.W.keepIn K (.ref f17) = true)
    (a18 : PySem.W.nsIn K mainGlobals "law" = some (some (.ref f18)))
    (l18 : K.lookup f18 = some ⟨oc18, od18, .func (PySem.W.fnOf "law" "law" (defArgs sLaw) (defBody sLaw) (defScope sLaw) .none kV18 dc18 pm18 an18 cd18 ct18), sl18⟩)
    (c18 : PySem.W.codeIn K cd18 "law" = true)
    (k18 : PySem.W.keepIn K (.ref f18) = true)
    (n_len : PySem.W.nsIn K mainGlobals "len" = some none)
    (n_int : PySem.W.nsIn K mainGlobals "int" = some none)
    (n_abs : PySem.W.nsIn K mainGlobals "abs" = some none)
    (n_range : PySem.W.nsIn K mainGlobals "range" = some none)
    (n_str : PySem.W.nsIn K mainGlobals "str" = some none)
    (n_isinstance : PySem.W.nsIn K mainGlobals "isinstance" = some none)
    (n_bool : PySem.W.nsIn K mainGlobals "bool" = some none)
    (n_enumerate : PySem.W.nsIn K mainGlobals "enumerate" = some none)
    (n_zip : PySem.W.nsIn K mainGlobals "zip" = some none)
    (n_tuple : PySem.W.nsIn K mainGlobals "tuple" = some none)
    (n_repr : PySem.W.nsIn K mainGlobals "repr" = some none)
    (gL : PySem.W.nsIn K mainGlobals "LETTERS" = some (some (.str LET tL)))
    (gD : PySem.W.nsIn K mainGlobals "DIGITS" = some (some (.str DIG tD)))
    (gS : PySem.W.nsIn K mainGlobals "MOST_SIGNS" = some (some (.int 8 tS)))
    (gM : PySem.W.nsIn K mainGlobals "MOST_DIGITS" = some (some (.int 4 tM)))
    (gR : PySem.W.nsIn K mainGlobals "RESERVED" = some (some (.ref aR)))
    (lR : K.lookup aR = some ⟨.type "tuple", dR, .seq #[.str "any" t1, .str "end" t2, .str "none" t3, .str "not" t4, .str "or" t5] nR, sR⟩)
    (gF : PySem.W.nsIn K mainGlobals "FORMS" = some (some (.ref aF)))
    (lF : K.lookup aF = some ⟨.type "dict", none, .dict #[⟨h1, .str "knew" s1, .ref u1⟩, ⟨h2, .str "told" s2, .ref u2⟩, ⟨h3, .str "began" s3, .ref u3⟩, ⟨h4, .str "held" s4, .ref u4⟩, ⟨h5, .str "turned" s5, .ref u5⟩] nF, #[]⟩)
    (lU1 : K.lookup u1 = some ⟨.type "tuple", dU1, .seq #[.str "name" e1a, .str "number" e1b, .str "any" e1c] nU1, sU1⟩)
    (lU2 : K.lookup u2 = some ⟨.type "tuple", dU2, .seq #[.str "any" e2a, .str "any" e2b, .str "number" e2c, .str "end" e2d] nU2, sU2⟩)
    (lU3 : K.lookup u3 = some ⟨.type "tuple", dU3, .seq #[.str "name" e3a, .str "any" e3b] nU3, sU3⟩)
    (lU4 : K.lookup u4 = some ⟨.type "tuple", dU4, .seq #[.str "number" e4a] nU4, sU4⟩)
    (lU5 : K.lookup u5 = some ⟨.type "tuple", dU5, .seq #[.str "name" e5a, .str "any" e5b, .str "any" e5c] nU5, sU5⟩)
    (aA : PySem.W.nsIn K mainGlobals "Claim" = some (some (.ref A)))
    (pgA : PySem.W.plainGet K A Str.empty = true)
    (hdA : PySem.W.hasDictIn K A = true)
    (poA : PySem.W.plainOver K A = true)
    (saA : PySem.W.findIn K (.ref A) "__setattr__" = some (some (.builtin "object.__setattr__")))
    (nwA : PySem.W.findIn K (.ref A) "words" = some none)
    (npA : PySem.W.findIn K (.ref A) "positive" = some none)
    (ivA : PySem.W.findIn K (.ref A) "__invert__" = some (some (.ref fN)))
    (eqA : PySem.W.findIn K (.ref A) "__eq__" = some (some (.ref fE)))
    (stA : PySem.W.findIn K (.ref A) "__str__" = some (some (.ref fS)))
    (ccA : PySem.W.findIn K (.ref A) "__class__" = some (some (.builtin "object.__class__")))
    (moA : PySem.W.mroIn K A (.type "object") = some true)
    (icA : PySem.W.isClsIn K A = true)
    (mkA : PySem.W.makesIn K A = true)
    (kcA : PySem.W.keepIn K (.ref A) = true)
    (tyA : PySem.W.typeIn K (.ref A) = some (.type "type"))
    (inA : PySem.W.findIn K (.ref A) "__init__" = some (some (.ref fI)))
    (lI : K.lookup fI = some ⟨ocI, odI, .func (PySem.W.fnOf "__init__" "Claim.__init__" (defArgs sInit) (defBody sInit) (defScope sInit) (.ref TI) kVI dcI pmI anI cdI ctI), slI⟩)
    (cI : PySem.W.codeIn K cdI "Claim.__init__" = true)
    (lTI : K.lookup TI = some ⟨cTI, dTI, .seq #[.bool true] nTI, sTI⟩)
    (lN : K.lookup fN = some ⟨ocN, odN, .func (PySem.W.fnOf "__invert__" "Claim.__invert__" (defArgs sInv) (defBody sInv) (defScope sInv) .none kVN dcN pmN anN cdN ctN), slN⟩)
    (cN : PySem.W.codeIn K cdN "Claim.__invert__" = true)
    (lE : K.lookup fE = some ⟨ocE, odE, .func (PySem.W.fnOf "__eq__" "Claim.__eq__" (defArgs sEq) (defBody sEq) (defScope sEq) .none kVE dcE pmE anE cdE ctE), slE⟩)
    (cE : PySem.W.codeIn K cdE "Claim.__eq__" = true)
    (lS : K.lookup fS = some ⟨ocS, odS, .func (PySem.W.fnOf "__str__" "Claim.__str__" (defArgs sStr) (defBody sStr) (defScope sStr) .none kVS dcS pmS anS cdS ctS), slS⟩)
    (cS : PySem.W.codeIn K cdS "Claim.__str__" = true)
    (fnI : PySem.W.isFn K (.ref fI) = true)
    (kpI : PySem.W.keepIn K (.ref fI) = true)
    (fnN : PySem.W.isFn K (.ref fN) = true)
    (kpN : PySem.W.keepIn K (.ref fN) = true)
    (fnE : PySem.W.isFn K (.ref fE) = true)
    (kpE : PySem.W.keepIn K (.ref fE) = true)
    (fnS : PySem.W.isFn K (.ref fS) = true)
    (kpS : PySem.W.keepIn K (.ref fS) = true)
    (tyI : PySem.W.typeIn K (.ref fI) = some (.type "function"))
    (fiI : PySem.W.fnIn K fI = true)
    (spc : PySem.W.specialIn K (.builtin "object.__class__") "__get__" = some (some (.builtin "getset_descriptor.__get__")))
    (tks : PySem.W.takesIn K (.builtin "object.__class__") = some true)
    (noS : PySem.W.nsIn K mainGlobals "super" = some none)
    (opq : PySem.W.nsIn K cStatics "thirdparty.any" = some none)
    (aK1 : PySem.W.nsIn K mainGlobals "Knew" = some (some (.ref D1)))
    (pgK1 : PySem.W.plainGet K D1 Str.empty = true)
    (hdK1 : PySem.W.hasDictIn K D1 = true)
    (poK1 : PySem.W.plainOver K D1 = true)
    (saK1 : PySem.W.findIn K (.ref D1) "__setattr__" = some (some (.builtin "object.__setattr__")))
    (nwK1 : PySem.W.findIn K (.ref D1) "words" = some none)
    (npK1 : PySem.W.findIn K (.ref D1) "positive" = some none)
    (ivK1 : PySem.W.findIn K (.ref D1) "__invert__" = some (some (.ref fN)))
    (eqK1 : PySem.W.findIn K (.ref D1) "__eq__" = some (some (.ref fE)))
    (stK1 : PySem.W.findIn K (.ref D1) "__str__" = some (some (.ref fS)))
    (ccK1 : PySem.W.findIn K (.ref D1) "__class__" = some (some (.builtin "object.__class__")))
    (moK1 : PySem.W.mroIn K D1 (.type "object") = some true)
    (icK1 : PySem.W.isClsIn K D1 = true)
    (mkK1 : PySem.W.makesIn K D1 = true)
    (kcK1 : PySem.W.keepIn K (.ref D1) = true)
    (sbK1 : PySem.W.subIn K (.ref D1) (.ref A) = some true)
    (inK1 : PySem.W.findIn K (.ref D1) "__init__" = some (some (.ref g1)))
    (fnK1 : PySem.W.isFn K (.ref g1) = true)
    (lK1 : K.lookup g1 = some ⟨ocK1, odK1, .func (PySem.W.ksFn "__init__" "Knew.__init__" (defArgs sKnew) (defBody sKnew) (defScope sKnew) (.ref T1) kVK1 dcK1 pmK1 anK1 (.ref x1) ctK1 y1), slK1⟩)
    (cdK1 : PySem.W.codeIn K (.ref x1) "Knew.__init__" = true)
    (lxK1 : K.lookup x1 = some ⟨cxK1, dxK1, .fields vK1, sxK1⟩)
    (vfK1 : vK1[2]? = some (.str PySem.Challenge.rw_heardby_k07_whole_claims_read_back.prog.main.file tfK1))
    (lyK1 : K.lookup y1 = some ⟨cyK1, dyK1, .cell (some (.ref D1)), syK1⟩)
    (msK1 : PySem.W.mroIn K D1 (.ref D1) = some true)
    (suK1 : PySem.W.ks_superIn K D1 D1 "__init__" = some (some (.ref fI)))
    (lTK1 : K.lookup T1 = some ⟨cTK1, dTK1, .seq #[.none] nTK1, sTK1⟩)
    (aK2 : PySem.W.nsIn K mainGlobals "Told" = some (some (.ref D2)))
    (pgK2 : PySem.W.plainGet K D2 Str.empty = true)
    (hdK2 : PySem.W.hasDictIn K D2 = true)
    (poK2 : PySem.W.plainOver K D2 = true)
    (saK2 : PySem.W.findIn K (.ref D2) "__setattr__" = some (some (.builtin "object.__setattr__")))
    (nwK2 : PySem.W.findIn K (.ref D2) "words" = some none)
    (npK2 : PySem.W.findIn K (.ref D2) "positive" = some none)
    (ivK2 : PySem.W.findIn K (.ref D2) "__invert__" = some (some (.ref fN)))
    (eqK2 : PySem.W.findIn K (.ref D2) "__eq__" = some (some (.ref fE)))
    (stK2 : PySem.W.findIn K (.ref D2) "__str__" = some (some (.ref fS)))
    (ccK2 : PySem.W.findIn K (.ref D2) "__class__" = some (some (.builtin "object.__class__")))
    (moK2 : PySem.W.mroIn K D2 (.type "object") = some true)
    (icK2 : PySem.W.isClsIn K D2 = true)
    (mkK2 : PySem.W.makesIn K D2 = true)
    (kcK2 : PySem.W.keepIn K (.ref D2) = true)
    (sbK2 : PySem.W.subIn K (.ref D2) (.ref A) = some true)
    (inK2 : PySem.W.findIn K (.ref D2) "__init__" = some (some (.ref g2)))
    (fnK2 : PySem.W.isFn K (.ref g2) = true)
    (lK2 : K.lookup g2 = some ⟨ocK2, odK2, .func (PySem.W.ksFn "__init__" "Told.__init__" (defArgs sTold) (defBody sTold) (defScope sTold) (.ref T2) kVK2 dcK2 pmK2 anK2 (.ref x2) ctK2 y2), slK2⟩)
    (cdK2 : PySem.W.codeIn K (.ref x2) "Told.__init__" = true)
    (lxK2 : K.lookup x2 = some ⟨cxK2, dxK2, .fields vK2, sxK2⟩)
    (vfK2 : vK2[2]? = some (.str PySem.Challenge.rw_heardby_k07_whole_claims_read_back.prog.main.file tfK2))
    (lyK2 : K.lookup y2 = some ⟨cyK2, dyK2, .cell (some (.ref D2)), syK2⟩)
    (msK2 : PySem.W.mroIn K D2 (.ref D2) = some true)
    (suK2 : PySem.W.ks_superIn K D2 D2 "__init__" = some (some (.ref fI)))
    (lTK2 : K.lookup T2 = some ⟨cTK2, dTK2, .seq #[.none, .none, .int 1 tkK22, .none] nTK2, sTK2⟩)
    (aK3 : PySem.W.nsIn K mainGlobals "Began" = some (some (.ref D3)))
    (pgK3 : PySem.W.plainGet K D3 Str.empty = true)
    (hdK3 : PySem.W.hasDictIn K D3 = true)
    (poK3 : PySem.W.plainOver K D3 = true)
    (saK3 : PySem.W.findIn K (.ref D3) "__setattr__" = some (some (.builtin "object.__setattr__")))
    (nwK3 : PySem.W.findIn K (.ref D3) "words" = some none)
    (npK3 : PySem.W.findIn K (.ref D3) "positive" = some none)
    (ivK3 : PySem.W.findIn K (.ref D3) "__invert__" = some (some (.ref fN)))
    (eqK3 : PySem.W.findIn K (.ref D3) "__eq__" = some (some (.ref fE)))
    (stK3 : PySem.W.findIn K (.ref D3) "__str__" = some (some (.ref fS)))
    (ccK3 : PySem.W.findIn K (.ref D3) "__class__" = some (some (.builtin "object.__class__")))
    (moK3 : PySem.W.mroIn K D3 (.type "object") = some true)
    (icK3 : PySem.W.isClsIn K D3 = true)
    (mkK3 : PySem.W.makesIn K D3 = true)
    (kcK3 : PySem.W.keepIn K (.ref D3) = true)
    (sbK3 : PySem.W.subIn K (.ref D3) (.ref A) = some true)
    (inK3 : PySem.W.findIn K (.ref D3) "__init__" = some (some (.ref g3)))
    (fnK3 : PySem.W.isFn K (.ref g3) = true)
    (lK3 : K.lookup g3 = some ⟨ocK3, odK3, .func (PySem.W.ksFn "__init__" "Began.__init__" (defArgs sBegan) (defBody sBegan) (defScope sBegan) (.ref T3) kVK3 dcK3 pmK3 anK3 (.ref x3) ctK3 y3), slK3⟩)
    (cdK3 : PySem.W.codeIn K (.ref x3) "Began.__init__" = true)
    (lxK3 : K.lookup x3 = some ⟨cxK3, dxK3, .fields vK3, sxK3⟩)
    (vfK3 : vK3[2]? = some (.str PySem.Challenge.rw_heardby_k07_whole_claims_read_back.prog.main.file tfK3))
    (lyK3 : K.lookup y3 = some ⟨cyK3, dyK3, .cell (some (.ref D3)), syK3⟩)
    (msK3 : PySem.W.mroIn K D3 (.ref D3) = some true)
    (suK3 : PySem.W.ks_superIn K D3 D3 "__init__" = some (some (.ref fI)))
    (lTK3 : K.lookup T3 = some ⟨cTK3, dTK3, .seq #[.none] nTK3, sTK3⟩)
    (aK4 : PySem.W.nsIn K mainGlobals "Held" = some (some (.ref D4)))
    (pgK4 : PySem.W.plainGet K D4 Str.empty = true)
    (hdK4 : PySem.W.hasDictIn K D4 = true)
    (poK4 : PySem.W.plainOver K D4 = true)
    (saK4 : PySem.W.findIn K (.ref D4) "__setattr__" = some (some (.builtin "object.__setattr__")))
    (nwK4 : PySem.W.findIn K (.ref D4) "words" = some none)
    (npK4 : PySem.W.findIn K (.ref D4) "positive" = some none)
    (ivK4 : PySem.W.findIn K (.ref D4) "__invert__" = some (some (.ref fN)))
    (eqK4 : PySem.W.findIn K (.ref D4) "__eq__" = some (some (.ref fE)))
    (stK4 : PySem.W.findIn K (.ref D4) "__str__" = some (some (.ref fS)))
    (ccK4 : PySem.W.findIn K (.ref D4) "__class__" = some (some (.builtin "object.__class__")))
    (moK4 : PySem.W.mroIn K D4 (.type "object") = some true)
    (icK4 : PySem.W.isClsIn K D4 = true)
    (mkK4 : PySem.W.makesIn K D4 = true)
    (kcK4 : PySem.W.keepIn K (.ref D4) = true)
    (sbK4 : PySem.W.subIn K (.ref D4) (.ref A) = some true)
    (inK4 : PySem.W.findIn K (.ref D4) "__init__" = some (some (.ref g4)))
    (fnK4 : PySem.W.isFn K (.ref g4) = true)
    (lK4 : K.lookup g4 = some ⟨ocK4, odK4, .func (PySem.W.ksFn "__init__" "Held.__init__" (defArgs sHeld) (defBody sHeld) (defScope sHeld) .none kVK4 dcK4 pmK4 anK4 (.ref x4) ctK4 y4), slK4⟩)
    (cdK4 : PySem.W.codeIn K (.ref x4) "Held.__init__" = true)
    (lxK4 : K.lookup x4 = some ⟨cxK4, dxK4, .fields vK4, sxK4⟩)
    (vfK4 : vK4[2]? = some (.str PySem.Challenge.rw_heardby_k07_whole_claims_read_back.prog.main.file tfK4))
    (lyK4 : K.lookup y4 = some ⟨cyK4, dyK4, .cell (some (.ref D4)), syK4⟩)
    (msK4 : PySem.W.mroIn K D4 (.ref D4) = some true)
    (suK4 : PySem.W.ks_superIn K D4 D4 "__init__" = some (some (.ref fI)))
    (aK5 : PySem.W.nsIn K mainGlobals "Turned" = some (some (.ref D5)))
    (pgK5 : PySem.W.plainGet K D5 Str.empty = true)
    (hdK5 : PySem.W.hasDictIn K D5 = true)
    (poK5 : PySem.W.plainOver K D5 = true)
    (saK5 : PySem.W.findIn K (.ref D5) "__setattr__" = some (some (.builtin "object.__setattr__")))
    (nwK5 : PySem.W.findIn K (.ref D5) "words" = some none)
    (npK5 : PySem.W.findIn K (.ref D5) "positive" = some none)
    (ivK5 : PySem.W.findIn K (.ref D5) "__invert__" = some (some (.ref fN)))
    (eqK5 : PySem.W.findIn K (.ref D5) "__eq__" = some (some (.ref fE)))
    (stK5 : PySem.W.findIn K (.ref D5) "__str__" = some (some (.ref fS)))
    (ccK5 : PySem.W.findIn K (.ref D5) "__class__" = some (some (.builtin "object.__class__")))
    (moK5 : PySem.W.mroIn K D5 (.type "object") = some true)
    (icK5 : PySem.W.isClsIn K D5 = true)
    (mkK5 : PySem.W.makesIn K D5 = true)
    (kcK5 : PySem.W.keepIn K (.ref D5) = true)
    (sbK5 : PySem.W.subIn K (.ref D5) (.ref A) = some true)
    (inK5 : PySem.W.findIn K (.ref D5) "__init__" = some (some (.ref g5)))
    (fnK5 : PySem.W.isFn K (.ref g5) = true)
    (lK5 : K.lookup g5 = some ⟨ocK5, odK5, .func (PySem.W.ksFn "__init__" "Turned.__init__" (defArgs sTurned) (defBody sTurned) (defScope sTurned) (.ref T5) kVK5 dcK5 pmK5 anK5 (.ref x5) ctK5 y5), slK5⟩)
    (cdK5 : PySem.W.codeIn K (.ref x5) "Turned.__init__" = true)
    (lxK5 : K.lookup x5 = some ⟨cxK5, dxK5, .fields vK5, sxK5⟩)
    (vfK5 : vK5[2]? = some (.str PySem.Challenge.rw_heardby_k07_whole_claims_read_back.prog.main.file tfK5))
    (lyK5 : K.lookup y5 = some ⟨cyK5, dyK5, .cell (some (.ref D5)), syK5⟩)
    (msK5 : PySem.W.mroIn K D5 (.ref D5) = some true)
    (suK5 : PySem.W.ks_superIn K D5 D5 "__init__" = some (some (.ref fI)))
    (lTK5 : K.lookup T5 = some ⟨cTK5, dTK5, .seq #[.none, .none] nTK5, sTK5⟩)
    (aX : PySem.W.nsIn K mainGlobals "InvalidText" = some (some (.ref IT)))
    (aH : PySem.W.nsIn K mainGlobals "HeardbyError" = some (some (.ref HE)))
    (xX : K.lookup IT = some (excClassObj nmX qX IT NX bsX [.ref HE, .type "ValueError", .type "Exception", .type "BaseException", .type "object"] true snX subX abX colX ddX m0 m1 m2 m3 m5 "ValueError.__new__"))
    (saX : PySem.W.findIn K (.ref IT) "__setattr__" = some (some (.builtin "object.__setattr__")))
    (gaX : PySem.W.findIn K (.ref IT) "__getattribute__" = some (some (.builtin "BaseException.__getattribute__")))
    (ggX : PySem.W.findIn K (.ref IT) "__getattr__" = some none)
    (nbX : PySem.W.findIn K (.ref IT) "wrong" = some none)
    (inX : PySem.W.findIn K (.ref IT) "__init__" = some (some (.ref fX)))
    (tfX : PySem.W.typeIn K (.ref fX) = some (.type "function"))
    (lX : K.lookup fX = some ⟨ocX, odX, .func (PySem.W.fnOf "__init__" "InvalidText.__init__" (PySem.WrongX.iA ⟨6, 17, 6, 21⟩ ⟨6, 23, 6, 28⟩) (PySem.WrongX.iB ⟨7, 8, 7, 12⟩ ⟨7, 8, 7, 18⟩ ⟨7, 21, 7, 26⟩ ⟨7, 8, 7, 26⟩) PySem.WrongX.iS .none .none dcX pmX anX cdX ctX), slX⟩)
    (cX : PySem.W.codeIn K cdX "InvalidText.__init__" = true)
    (kX : PySem.W.keepIn K (.ref IT) = true)
    (eX : PySem.W.subIn K (.ref IT) (.type "BaseException") = some true)
    (tX : PySem.W.typeIn K (.ref IT) = some (.type "type"))
    (hX : PySem.W.hasDictIn K IT = true)
    (iX : PySem.W.isClsIn K IT = true)
    (sX : PySem.W.subIn K (.ref IT) (.ref IT) = some true)
    (hX2 : PySem.W.subIn K (.ref IT) (.ref HE) = some true)
    (iH : PySem.W.isClsIn K HE = true)
    (tH : PySem.W.typeIn K (.ref HE) = some (.type "type"))
    (ccX : PySem.W.findIn K (.ref IT) "__class__" = some (some (.builtin "object.__class__")))
    (moX : PySem.W.mroIn K IT (.type "object") = some true)
    (kl : PySem.W.KeysLit w.params [⟨h1, .str "knew" s1, .ref u1⟩, ⟨h2, .str "told" s2, .ref u2⟩, ⟨h3, .str "began" s3, .ref u3⟩, ⟨h4, .str "held" s4, .ref u4⟩, ⟨h5, .str "turned" s5, .ref u5⟩]) (low : (aF == sysModules) = false) :
    ∃ fd : FuncData, (∀ (s : Shared) (v : Value), BindsTo s fd ⟨[v], []⟩ [("_law_script", v)]) ∧ ∀ base : Heap, K.In base → base.Ns mainGlobals mg → FnG PySem.Challenge.rw_heardby_k07_whole_claims_read_back.prog w K mg base CX0 5 fa fd ["_law_script"] (spLaw K) := by
  have e := hfa.symm.trans (PySem.W.mg_of X G a18)
  cases e

  have F1 := fun_mk (st := sIsName) l1 c1 k1
  have F2 := fun_mk (st := sNumber) l2 c2 k2
  have F3 := fun_mk (st := sCtext) l3 c3 k3
  have F4 := fun_mk (st := sRead) l4 c4 k4
  have F5 := fun_mk (st := sParse) l5 c5 k5
  have F6 := fun_mk (st := sBool) l6 c6 k6
  have F7 := fun_mk (st := sBox) l7 c7 k7
  have F8 := fun_mk (st := sTake) l8 c8 k8
  have F9 := fun_mk (st := sNames) l9 c9 k9
  have F10 := fun_mk (st := sRow) l10 c10 k10
  have F11 := fun_mk (st := sLtext) l11 c11 k11
  have F12 := fun_mk (st := sSame) l12 c12 k12
  have F13 := fun_mk (st := sNameW) l13 c13 k13
  have F14 := fun_mk (st := sNumW) l14 c14 k14
  have F15 := fun_mk (st := sReads) l15 c15 k15
  have F16 := fun_mk (st := sBent) l16 c16 k16
  have F17 := fun_mk (st := sClaim) l17 c17 k17
  have F18 := fun_mk (st := sLaw) l18 c18 k18
  have m_len := mgN X G n_len
  have m_int := mgN X G n_int
  have m_abs := mgN X G n_abs
  have m_range := mgN X G n_range
  have m_str := mgN X G n_str
  have m_isinstance := mgN X G n_isinstance
  have m_bool := mgN X G n_bool
  have m_enumerate := mgN X G n_enumerate
  have m_zip := mgN X G n_zip
  have m_tuple := mgN X G n_tuple
  have m_repr := mgN X G n_repr
  have b1 := F1.binds (ps := ["text"]) fun _ _ _ _ _ _ us hl => match us, hl with | [_], _ => rfl
  have b2 := F2.binds (ps := ["word"]) fun _ _ _ _ _ _ us hl => match us, hl with | [_], _ => rfl
  have b3 := F3.binds (ps := ["words", "positive"]) fun _ _ _ _ _ _ us hl => match us, hl with | [_, _], _ => rfl
  have b4 := F4.binds (ps := ["form", "word", "text"]) fun _ _ _ _ _ _ us hl => match us, hl with | [_, _, _], _ => rfl
  have b5 := F5.binds (ps := ["text"]) fun _ _ _ _ _ _ us hl => match us, hl with | [_], _ => rfl
  have b6 := F6.binds (ps := ["_law_answer", "_law_expected"]) fun _ _ _ _ _ _ us hl => match us, hl with | [_, _], _ => rfl
  have b7 := F7.binds (ps := ["_law_script"]) fun _ _ _ _ _ _ us hl => match us, hl with | [_], _ => rfl
  have b8 := F8.binds (ps := ["_law_box_here", "_law_size"]) fun _ _ _ _ _ _ us hl => match us, hl with | [_, _], _ => rfl
  have b9 := F9.binds (ps := ["_law_box_here", "_law_count"]) fun _ _ _ _ _ _ us hl => match us, hl with | [_, _], _ => rfl
  have b10 := F10.binds (ps := ["_law_box_here"]) fun _ _ _ _ _ _ us hl => match us, hl with | [_], _ => rfl
  have b11 := F11.binds (ps := ["_law_row"]) fun _ _ _ _ _ _ us hl => match us, hl with | [_], _ => rfl
  have b12 := F12.binds (ps := ["_law_claim_here", "_law_row"]) fun _ _ _ _ _ _ us hl => match us, hl with | [_, _], _ => rfl
  have b13 := F13.binds (ps := ["_law_word"]) fun _ _ _ _ _ _ us hl => match us, hl with | [_], _ => rfl
  have b14 := F14.binds (ps := ["_law_word"]) fun _ _ _ _ _ _ us hl => match us, hl with | [_], _ => rfl
  have b15 := F15.binds (ps := ["_law_text_here"]) fun _ _ _ _ _ _ us hl => match us, hl with | [_], _ => rfl
  have b16 := F16.binds (ps := ["_law_box_here", "_law_text_here"]) fun _ _ _ _ _ _ us hl => match us, hl with | [_, _], _ => rfl
  have b17 := F17.binds (ps := ["_law_row"]) fun _ _ _ _ _ _ us hl => match us, hl with | [_], _ => rfl
  have FI : FunD K "__init__" "Claim.__init__" (defArgs sInit) (defBody sInit) (defScope sInit) [.bl true] [] fI _ := ⟨⟨ocI, odI, .ref TI, kVI, dcI, pmI, anI, cdI, ctI, slI, rfl, lI, cI, .inr ⟨by simp, TI, _, [.bool true], nTI, rfl, lTI, rfl, .cons rfl .nil⟩, .inl rfl⟩, kpI⟩
  have FN := fun_mk (st := sInv) lN cN kpN
  have FE := fun_mk (st := sEq) lE cE kpE
  have FS := fun_mk (st := sStr) lS cS kpS
  have bN := FN.binds (ps := ["self"]) fun _ _ _ _ _ _ us hl => match us, hl with | [_], _ => rfl
  have bE := FE.binds (ps := ["self", "other"]) fun _ _ _ _ _ _ us hl => match us, hl with | [_, _], _ => rfl
  have bS := FS.binds (ps := ["self"]) fun _ _ _ _ _ _ us hl => match us, hl with | [_], _ => rfl
  have fam : Fam K A fN fE fS A := ⟨⟨pgA, hdA, poA, saA⟩, nwA, npA, ⟨ivA, fnN, kpN⟩, ⟨eqA, fnE, kpE⟩, ⟨stA, fnS, kpS⟩, kit_refl, ccA, moA, fun z => absurd rfl z⟩
  have tp : Top K mg A := ⟨PySem.W.mg_of X G aA, m_isinstance, m_str, spc, tks⟩
  have wr : PySem.WrongX.WrongTxt K mg IT fX :=
    { gC := PySem.W.mg_of X G aX, cls := ⟨nmX, qX, NX, bsX, _, snX, subX, abX, colX, ddX, m0, m1, m2, m3, m5, xX, by rfl⟩, sa := saX, ga := gaX, gg := ggX, noN := nbX, iC := inX, tC := tfX, kC := kX, exC := eX, tyC := tX, hdC := hX, te := exm_self eX iX tX sX,
      fn := ⟨_, _, _, _, _, _, _, _, _, _, _, _, _, _, lX, cX⟩ }
  have tn : TNm K mg := ⟨m_len, m_int, ⟨tL, PySem.W.mg_of X G gL⟩, ⟨tD, PySem.W.mg_of X G gD⟩, ⟨tS, PySem.W.mg_of X G gS⟩, ⟨tM, PySem.W.mg_of X G gM⟩, ⟨aR, PySem.W.mg_of X G gR, seqT_k lR (by show 5 ≤ sizeLine; decide) (.cons (rel_str _ _) (.cons (rel_str _ _) (.cons (rel_str _ _) (.cons (rel_str _ _) (.cons (rel_str _ _) .nil)))))⟩⟩
  have tt : TTk mg := ⟨m_len, m_int, m_abs, m_range, m_str⟩
  have tr : TLr mg := ⟨m_len, m_int, m_range, m_tuple⟩
  have fo : FormsK K w aF := by
    refine ⟨low, _, nF, lF, kl, fun z => ?_⟩
    exact forms_ok (fun x => ns_list lF (by rfl) x) (seqT_k lU1 (by show 3 ≤ sizeLine; decide) (.cons (rel_str _ _) (.cons (rel_str _ _) (.cons (rel_str _ _) .nil)))) (seqT_k lU2 (by show 4 ≤ sizeLine; decide) (.cons (rel_str _ _) (.cons (rel_str _ _) (.cons (rel_str _ _) (.cons (rel_str _ _) .nil))))) (seqT_k lU3 (by show 2 ≤ sizeLine; decide) (.cons (rel_str _ _) (.cons (rel_str _ _) .nil))) (seqT_k lU4 (by show 1 ≤ sizeLine; decide) (.cons (rel_str _ _) .nil)) (seqT_k lU5 (by show 3 ≤ sizeLine; decide) (.cons (rel_str _ _) (.cons (rel_str _ _) (.cons (rel_str _ _) .nil)))) z
  have tps : TPs K w mg A fN fE fS IT fX aF := ⟨wr, tp, fam, fo, PySem.W.mg_of X G gF, m_len, m_zip, m_tuple⟩
  have fam1 : Fam K A fN fE fS D1 := ⟨⟨pgK1, hdK1, poK1, saK1⟩, nwK1, npK1, ⟨ivK1, fnN, kpN⟩, ⟨eqK1, fnE, kpE⟩, ⟨stK1, fnS, kpS⟩, kit_sub icA tyA sbK1, ccK1, moK1, fun _ => sbK1⟩
  have FK1 : FunS PySem.Challenge.rw_heardby_k07_whole_claims_read_back.prog K "__init__" "Knew.__init__" sKnew g1 D1 [.non] _ := ⟨ocK1, odK1, .ref T1, kVK1, dcK1, pmK1, anK1, x1, ctK1, y1, slK1, cxK1, dxK1, vK1, sxK1, _, tfK1, cyK1, dyK1, syK1, rfl, lK1, cdK1, lxK1, vfK1, by first | rfl | exact beq_self_eq_true _, lyK1, (.inr ⟨by simp, T1, _, [.none], nTK1, rfl, lTK1, rfl, (.cons rfl .nil)⟩)⟩
  have SK1 : SupK PySem.Challenge.rw_heardby_k07_whole_claims_read_back.prog K D1 fI := ⟨icK1, msK1, noS, opq, suK1, tyI, fiI, by first | rfl | decide +kernel⟩
  have bK1 : Binds K _ ["self", "person", "day", "version"] [] := FK1.bindsD (by simp) fun T kV doc pm an cd ct cc us its l1 l2 => match us, its, l1, l2 with | [_, _, _, _], [_], _, _ => ⟨_, rfl, rfl⟩
  have fam2 : Fam K A fN fE fS D2 := ⟨⟨pgK2, hdK2, poK2, saK2⟩, nwK2, npK2, ⟨ivK2, fnN, kpN⟩, ⟨eqK2, fnE, kpE⟩, ⟨stK2, fnS, kpS⟩, kit_sub icA tyA sbK2, ccK2, moK2, fun _ => sbK2⟩
  have FK2 : FunS PySem.Challenge.rw_heardby_k07_whole_claims_read_back.prog K "__init__" "Told.__init__" sTold g2 D2 [.non, .non, .int 1, .non] _ := ⟨ocK2, odK2, .ref T2, kVK2, dcK2, pmK2, anK2, x2, ctK2, y2, slK2, cxK2, dxK2, vK2, sxK2, _, tfK2, cyK2, dyK2, syK2, rfl, lK2, cdK2, lxK2, vfK2, by first | rfl | exact beq_self_eq_true _, lyK2, (.inr ⟨by simp, T2, _, [.none, .none, .int 1 tkK22, .none], nTK2, rfl, lTK2, rfl, (.cons rfl (.cons rfl (.cons ⟨_, rfl⟩ (.cons rfl .nil))))⟩)⟩
  have SK2 : SupK PySem.Challenge.rw_heardby_k07_whole_claims_read_back.prog K D2 fI := ⟨icK2, msK2, noS, opq, suK2, tyI, fiI, by first | rfl | decide +kernel⟩
  have bK2 : Binds K _ ["self", "teller", "hearer", "first", "last"] [] := FK2.bindsD (by simp) fun T kV doc pm an cd ct cc us its l1 l2 => match us, its, l1, l2 with | [_, _, _, _, _], [_, _, _, _], _, _ => ⟨_, rfl, rfl⟩
  have fam3 : Fam K A fN fE fS D3 := ⟨⟨pgK3, hdK3, poK3, saK3⟩, nwK3, npK3, ⟨ivK3, fnN, kpN⟩, ⟨eqK3, fnE, kpE⟩, ⟨stK3, fnS, kpS⟩, kit_sub icA tyA sbK3, ccK3, moK3, fun _ => sbK3⟩
  have FK3 : FunS PySem.Challenge.rw_heardby_k07_whole_claims_read_back.prog K "__init__" "Began.__init__" sBegan g3 D3 [.non] _ := ⟨ocK3, odK3, .ref T3, kVK3, dcK3, pmK3, anK3, x3, ctK3, y3, slK3, cxK3, dxK3, vK3, sxK3, _, tfK3, cyK3, dyK3, syK3, rfl, lK3, cdK3, lxK3, vfK3, by first | rfl | exact beq_self_eq_true _, lyK3, (.inr ⟨by simp, T3, _, [.none], nTK3, rfl, lTK3, rfl, (.cons rfl .nil)⟩)⟩
  have SK3 : SupK PySem.Challenge.rw_heardby_k07_whole_claims_read_back.prog K D3 fI := ⟨icK3, msK3, noS, opq, suK3, tyI, fiI, by first | rfl | decide +kernel⟩
  have bK3 : Binds K _ ["self", "person", "version"] [] := FK3.bindsD (by simp) fun T kV doc pm an cd ct cc us its l1 l2 => match us, its, l1, l2 with | [_, _, _], [_], _, _ => ⟨_, rfl, rfl⟩
  have fam4 : Fam K A fN fE fS D4 := ⟨⟨pgK4, hdK4, poK4, saK4⟩, nwK4, npK4, ⟨ivK4, fnN, kpN⟩, ⟨eqK4, fnE, kpE⟩, ⟨stK4, fnS, kpS⟩, kit_sub icA tyA sbK4, ccK4, moK4, fun _ => sbK4⟩
  have FK4 : FunS PySem.Challenge.rw_heardby_k07_whole_claims_read_back.prog K "__init__" "Held.__init__" sHeld g4 D4 [] _ := ⟨ocK4, odK4, .none, kVK4, dcK4, pmK4, anK4, x4, ctK4, y4, slK4, cxK4, dxK4, vK4, sxK4, _, tfK4, cyK4, dyK4, syK4, rfl, lK4, cdK4, lxK4, vfK4, by first | rfl | exact beq_self_eq_true _, lyK4, (.inl ⟨rfl, rfl⟩)⟩
  have SK4 : SupK PySem.Challenge.rw_heardby_k07_whole_claims_read_back.prog K D4 fI := ⟨icK4, msK4, noS, opq, suK4, tyI, fiI, by first | rfl | decide +kernel⟩
  have bK4 : Binds K _ ["self", "meeting"] [] := FK4.bindsN fun kV doc pm an cd ct cc us l1 => match us, l1 with | [_, _], _ => rfl
  have fam5 : Fam K A fN fE fS D5 := ⟨⟨pgK5, hdK5, poK5, saK5⟩, nwK5, npK5, ⟨ivK5, fnN, kpN⟩, ⟨eqK5, fnE, kpE⟩, ⟨stK5, fnS, kpS⟩, kit_sub icA tyA sbK5, ccK5, moK5, fun _ => sbK5⟩
  have FK5 : FunS PySem.Challenge.rw_heardby_k07_whole_claims_read_back.prog K "__init__" "Turned.__init__" sTurned g5 D5 [.non, .non] _ := ⟨ocK5, odK5, .ref T5, kVK5, dcK5, pmK5, anK5, x5, ctK5, y5, slK5, cxK5, dxK5, vK5, sxK5, _, tfK5, cyK5, dyK5, syK5, rfl, lK5, cdK5, lxK5, vfK5, by first | rfl | exact beq_self_eq_true _, lyK5, (.inr ⟨by simp, T5, _, [.none, .none], nTK5, rfl, lTK5, rfl, (.cons rfl (.cons rfl .nil))⟩)⟩
  have SK5 : SupK PySem.Challenge.rw_heardby_k07_whole_claims_read_back.prog K D5 fI := ⟨icK5, msK5, noS, opq, suK5, tyI, fiI, by first | rfl | decide +kernel⟩
  have bK5 : Binds K _ ["self", "person", "old", "new"] [] := FK5.bindsD (by simp) fun T kV doc pm an cd ct cc us its l1 l2 => match us, its, l1, l2 with | [_, _, _, _], [_, _], _, _ => ⟨_, rfl, rfl⟩
  refine ⟨PySem.W.fnOf "law" "law" (defArgs sLaw) (defBody sLaw) (defScope sLaw) .none kV18 dc18 pm18 an18 cd18 ct18, fun s v => .of_eq rfl, fun base _ _ => ok_law (A := A) (fN := fN) (fE := fE) (fS := fS) (IT := IT) (fX := fX) (HE := HE) F18 ?_⟩
  have C1 : Cal PySem.Challenge.rw_heardby_k07_whole_claims_read_back.prog w K mg base CX0 1 "is_name" ["text"] spIsName := ⟨⟨f1, _, ok_isname F1 tn, PySem.W.mg_of X G a1, k1, b1⟩⟩
  have C2 : Cal PySem.Challenge.rw_heardby_k07_whole_claims_read_back.prog w K mg base CX0 1 "number_of" ["word"] spNumber := ⟨⟨f2, _, ok_number F2 tn, PySem.W.mg_of X G a2, k2, b2⟩⟩
  have C3 : Cal PySem.Challenge.rw_heardby_k07_whole_claims_read_back.prog w K mg base CX0 1 "claim_text" ["words", "positive"] (spCtext K) := ⟨⟨f3, _, ok_ctext F3 m_enumerate m_str, PySem.W.mg_of X G a3, k3, b3⟩⟩
  have C4 : Cal PySem.Challenge.rw_heardby_k07_whole_claims_read_back.prog w K mg base (L2.CX PySem.Challenge.rw_heardby_k07_whole_claims_read_back.prog w) 3 "read_word" ["form", "word", "text"] (spRead IT) := ⟨⟨f4, _, ok_read F4 wr C1 C2, PySem.W.mg_of X G a4, k4, b4⟩⟩
  have C5 : Cal PySem.Challenge.rw_heardby_k07_whole_claims_read_back.prog w K mg base (L2.CX PySem.Challenge.rw_heardby_k07_whole_claims_read_back.prog w) 4 "parse_claim" ["text"] (spParse K A fN fE fS IT) := ⟨⟨f5, _, ok_parse tps C4 ⟨mkA, inA, fnI, kcA⟩ FI F5, PySem.W.mg_of X G a5, k5, b5⟩⟩
  have C6 : Cal PySem.Challenge.rw_heardby_k07_whole_claims_read_back.prog w K mg base CX0 1 "_law_bool" ["_law_answer", "_law_expected"] spBool := ⟨⟨f6, _, ok_bool F6 m_isinstance m_bool, PySem.W.mg_of X G a6, k6, b6⟩⟩
  have C7 : Cal PySem.Challenge.rw_heardby_k07_whole_claims_read_back.prog w K mg base CX0 1 "_law_box" ["_law_script"] (spBox K) := ⟨⟨f7, _, ok_box F7 tt, PySem.W.mg_of X G a7, k7, b7⟩⟩
  have C8 : Cal PySem.Challenge.rw_heardby_k07_whole_claims_read_back.prog w K mg base CX0 1 "_law_take" ["_law_box_here", "_law_size"] spTake := ⟨⟨f8, _, ok_take F8 tt, PySem.W.mg_of X G a8, k8, b8⟩⟩
  have C9 : Cal PySem.Challenge.rw_heardby_k07_whole_claims_read_back.prog w K mg base CX0 2 "_law_names" ["_law_box_here", "_law_count"] spNames := ⟨⟨f9, _, ok_names F9 tt C8, PySem.W.mg_of X G a9, k9, b9⟩⟩
  have C10 : Cal PySem.Challenge.rw_heardby_k07_whole_claims_read_back.prog w K mg base CX0 3 "_law_free_row" ["_law_box_here"] spRow := ⟨⟨f10, _, ok_row F10 C8 C9, PySem.W.mg_of X G a10, k10, b10⟩⟩
  have C11 : Cal PySem.Challenge.rw_heardby_k07_whole_claims_read_back.prog w K mg base CX0 1 "_law_text" ["_law_row"] (spLtext K) := ⟨⟨f11, _, ok_ltext F11 m_len m_range m_str, PySem.W.mg_of X G a11, k11, b11⟩⟩
  have C13 : Cal PySem.Challenge.rw_heardby_k07_whole_claims_read_back.prog w K mg base CX0 1 "_law_name_word" ["_law_word"] spNameW := ⟨⟨f13, _, ok_namew F13 tn, PySem.W.mg_of X G a13, k13, b13⟩⟩
  have C14 : Cal PySem.Challenge.rw_heardby_k07_whole_claims_read_back.prog w K mg base CX0 1 "_law_number_word" ["_law_word"] spNumW := ⟨⟨f14, _, ok_numw F14 tn, PySem.W.mg_of X G a14, k14, b14⟩⟩
  have C15 : Cal PySem.Challenge.rw_heardby_k07_whole_claims_read_back.prog w K mg base CX0 2 "_law_reads" ["_law_text_here"] (spReads K) := ⟨⟨f15, _, ok_reads tr C13 C14 F15, PySem.W.mg_of X G a15, k15, b15⟩⟩
  have C16 : Cal PySem.Challenge.rw_heardby_k07_whole_claims_read_back.prog w K mg base CX0 2 "_law_bent" ["_law_box_here", "_law_text_here"] spBent := ⟨⟨f16, _, ok_bent F16 tt C8, PySem.W.mg_of X G a16, k16, b16⟩⟩
  have KC1 : KindC PySem.Challenge.rw_heardby_k07_whole_claims_read_back.prog w K mg base A fN fE fS "Knew" "knew" 3 ["self", "person", "day", "version"] := ⟨D1, g1, _, ⟨mkK1, inK1, fnK1, kcK1⟩, ok_knew FK1 SK1 FI, PySem.W.mg_of X G aK1, bK1, fam1⟩
  have KC2 : KindC PySem.Challenge.rw_heardby_k07_whole_claims_read_back.prog w K mg base A fN fE fS "Told" "told" 4 ["self", "teller", "hearer", "first", "last"] := ⟨D2, g2, _, ⟨mkK2, inK2, fnK2, kcK2⟩, ok_told FK2 SK2 FI, PySem.W.mg_of X G aK2, bK2, fam2⟩
  have KC3 : KindC PySem.Challenge.rw_heardby_k07_whole_claims_read_back.prog w K mg base A fN fE fS "Began" "began" 2 ["self", "person", "version"] := ⟨D3, g3, _, ⟨mkK3, inK3, fnK3, kcK3⟩, ok_began FK3 SK3 FI, PySem.W.mg_of X G aK3, bK3, fam3⟩
  have KC4 : KindC PySem.Challenge.rw_heardby_k07_whole_claims_read_back.prog w K mg base A fN fE fS "Held" "held" 1 ["self", "meeting"] := ⟨D4, g4, _, ⟨mkK4, inK4, fnK4, kcK4⟩, ok_held FK4 SK4 FI, PySem.W.mg_of X G aK4, bK4, fam4⟩
  have KC5 : KindC PySem.Challenge.rw_heardby_k07_whole_claims_read_back.prog w K mg base A fN fE fS "Turned" "turned" 3 ["self", "person", "old", "new"] := ⟨D5, g5, _, ⟨mkK5, inK5, fnK5, kcK5⟩, ok_turned FK5 SK5 FI, PySem.W.mg_of X G aK5, bK5, fam5⟩
  have C17 : Cal PySem.Challenge.rw_heardby_k07_whole_claims_read_back.prog w K mg base CX0 4 "_law_claim" ["_law_row"] (spClaim K A fN fE fS) := ⟨⟨f17, _, ok_claim F17 bN (ok_inv FN tp FI ⟨mkA, inA, fnI, kcA⟩ fam) KC1 KC2 KC3 KC4 KC5, PySem.W.mg_of X G a17, k17, b17⟩⟩
  exact { top := tp, fam := fam, wr := wr, gHE := PySem.W.mg_of X G aH, exc := ⟨gaX, ggX, eX, hX, ccX, spc, tks, moX⟩, isHE := kit_sub iH tH hX2, box := C7, row := C10, claim := C17, text := C11, parse := C5,
          same := ⟨f12, _, ok_same F12 tp m_repr C6, PySem.W.mg_of X G a12, k12, b12⟩, bent := C16, reads := C15, str := ⟨_, ok_str FS tp C3, bS⟩, eq := ⟨_, ok_eq FE tp, bE⟩ }
theorem walkLaw {l : PySem.W.OpenLaw} {q : Program} {loose : List Str} {XP : (Str → Option Value) → Heap → Prop} {YP : World → Heap → Prop} {d : DefRec} {K : Params → PySem.W.Frag} (hn : l.most = some 63) (hdf : d.params.defaults = [])
    (hY : ∀ (w : World) (h : Heap), YP w h → (K w.params).In h)
    (own : ∀ (w : World) (mg : Str → Option Value) (fa : Addr) (h : Heap), (K w.params).In h → h.Ns mainGlobals mg → mg d.name = some (.ref fa) → ∃ fd : FuncData, (∀ (s : Shared) (u : Value), BindsTo s fd ⟨[u], []⟩ [("_law_script", u)]) ∧ ∀ base : Heap, (K w.params).In base → base.Ns mainGlobals mg → FnG l.prog w (K w.params) mg base CX0 5 fa fd ["_law_script"] (spLaw (K w.params))) :
    PySem.W.WalkO q loose XP YP l.row.toRowW d [] (fun f vs => PySem.call f vs) :=
  walkG (n := 63) (k := 5) (x := "_law_script") (CX := fun _ => CX0) (sp := fun w => spLaw (K w.params)) hn (by decide) hdf ⟨rfl, by decide, by decide⟩ hY own (fun _ _ a ns hl _ hS => ⟨a, ns, rfl, hS, hl, fun _ => rfl⟩) fun _ _ _ _ _ z => z
end L2.HK
open PySem PySem.W PyProof.Rows
set_option maxRecDepth 100000 in
set_option maxHeartbeats 0 in
theorem PySem.Challenge.cw_heardby_k07_whole_claims_read_back_holds : PySem.Challenge.rw_heardby_k07_whole_claims_read_back.Holds := by
  w_on; o_law; k_head; (case hw => w_witness2)
  k_fill
  refine L2.HK.walkLaw (l := PySem.Challenge.rw_heardby_k07_whole_claims_read_back) rfl rfl (fun w h Y => PySem.W.kIn_of Y) ?F
  case F =>
    intro w mg fa h KX G hmg
    refine' L2.HK.all_mk KX G hmg ?a1 ?l1 ?c1 ?k1 ?a2 ?l2 ?c2 ?k2 ?a3 ?l3 ?c3 ?k3 ?a4 ?l4 ?c4 ?k4 ?a5 ?l5 ?c5 ?k5 ?a6 ?l6 ?c6 ?k6 ?a7 ?l7 ?c7 ?k7 ?a8 ?l8 ?c8 ?k8 ?a9 ?l9 ?c9 ?k9 ?a10 ?l10 ?c10 ?k10 ?a11 ?l11 ?c11 ?k11 ?a12 ?l12 ?c12 ?k12 ?a13 ?l13 ?c13 ?k13 ?a14 ?l14 ?c14 ?k14 ?a15 ?l15 ?c15 ?k15 ?a16 ?l16 ?c16 ?k16 ?a17 ?l17 ?c17 ?k17 ?a18 ?l18 ?c18 ?k18 ?n_len ?n_int ?n_abs ?n_range ?n_str ?n_isinstance ?n_bool ?n_enumerate ?n_zip ?n_tuple ?n_repr ?gL ?gD ?gS ?gM ?gR ?lR ?gF ?lF ?lU1 ?lU2 ?lU3 ?lU4 ?lU5 ?aA ?pgA ?hdA ?poA ?saA ?nwA ?npA ?ivA ?eqA ?stA ?ccA ?moA ?icA ?mkA ?kcA ?tyA ?inA ?lI ?cI ?lTI ?lN ?cN ?lE ?cE ?lS ?cS ?fnI ?kpI ?fnN ?kpN ?fnE ?kpE ?fnS ?kpS ?tyI ?fiI ?spc ?tks ?noS ?opq ?aK1 ?pgK1 ?hdK1 ?poK1 ?saK1 ?nwK1 ?npK1 ?ivK1 ?eqK1 ?stK1 ?ccK1 ?moK1 ?icK1 ?mkK1 ?kcK1 ?sbK1 ?inK1 ?fnK1 ?lK1 ?cdK1 ?lxK1 ?vfK1 ?lyK1 ?msK1 ?suK1 ?lTK1 ?aK2 ?pgK2 ?hdK2 ?poK2 ?saK2 ?nwK2 ?npK2 ?ivK2 ?eqK2 ?stK2 ?ccK2 ?moK2 ?icK2 ?mkK2 ?kcK2 ?sbK2 ?inK2 ?fnK2 ?lK2 ?cdK2 ?lxK2 ?vfK2 ?lyK2 ?msK2 ?suK2 ?lTK2 ?aK3 ?pgK3 ?hdK3 ?poK3 ?saK3 ?nwK3 ?npK3 ?ivK3 ?eqK3 ?stK3 ?ccK3 ?moK3 ?icK3 ?mkK3 ?kcK3 ?sbK3 ?inK3 ?fnK3 ?lK3 ?cdK3 ?lxK3 ?vfK3 ?lyK3 ?msK3 ?suK3 ?lTK3 ?aK4 ?pgK4 ?hdK4 ?poK4 ?saK4 ?nwK4 ?npK4 ?ivK4 ?eqK4 ?stK4 ?ccK4 ?moK4 ?icK4 ?mkK4 ?kcK4 ?sbK4 ?inK4 ?fnK4 ?lK4 ?cdK4 ?lxK4 ?vfK4 ?lyK4 ?msK4 ?suK4 ?aK5 ?pgK5 ?hdK5 ?poK5 ?saK5 ?nwK5 ?npK5 ?ivK5 ?eqK5 ?stK5 ?ccK5 ?moK5 ?icK5 ?mkK5 ?kcK5 ?sbK5 ?inK5 ?fnK5 ?lK5 ?cdK5 ?lxK5 ?vfK5 ?lyK5 ?msK5 ?suK5 ?lTK5 ?aX ?aH ?xX ?saX ?gaX ?ggX ?nbX ?inX ?tfX ?lX ?cX ?kX ?eX ?tX ?hX ?iX ?sX ?hX2 ?iH ?tH ?ccX ?moX ?kl ?low
    (case a1 => k_is)
    (case l1 => k_is)
    (case c1 => k_is)
    (case k1 => k_is)
    (case a2 => k_is)
    (case l2 => k_is)
    (case c2 => k_is)
    (case k2 => k_is)
    (case a3 => k_is)
    (case l3 => k_is)
    (case c3 => k_is)
    (case k3 => k_is)
    (case a4 => k_is)
    (case l4 => k_is)
    (case c4 => k_is)
    (case k4 => k_is)
    (case a5 => k_is)
    (case l5 => k_is)
    (case c5 => k_is)
    (case k5 => k_is)
    (case a6 => k_is)
    (case l6 => k_is)
    (case c6 => k_is)
    (case k6 => k_is)
    (case a7 => k_is)
    (case l7 => k_is)
    (case c7 => k_is)
    (case k7 => k_is)
    (case a8 => k_is)
    (case l8 => k_is)
    (case c8 => k_is)
    (case k8 => k_is)
    (case a9 => k_is)
    (case l9 => k_is)
    (case c9 => k_is)
    (case k9 => k_is)
    (case a10 => k_is)
    (case l10 => k_is)
    (case c10 => k_is)
    (case k10 => k_is)
    (case a11 => k_is)
    (case l11 => k_is)
    (case c11 => k_is)
    (case k11 => k_is)
    (case a12 => k_is)
    (case l12 => k_is)
    (case c12 => k_is)
    (case k12 => k_is)
    (case a13 => k_is)
    (case l13 => k_is)
    (case c13 => k_is)
    (case k13 => k_is)
    (case a14 => k_is)
    (case l14 => k_is)
    (case c14 => k_is)
    (case k14 => k_is)
    (case a15 => k_is)
    (case l15 => k_is)
    (case c15 => k_is)
    (case k15 => k_is)
    (case a16 => k_is)
    (case l16 => k_is)
    (case c16 => k_is)
    (case k16 => k_is)
    (case a17 => k_is)
    (case l17 => k_is)
    (case c17 => k_is)
    (case k17 => k_is)
    (case a18 => k_is)
    (case l18 => k_is)
    (case c18 => k_is)
    (case k18 => k_is)
    (case n_len => k_is)
    (case n_int => k_is)
    (case n_abs => k_is)
    (case n_range => k_is)
    (case n_str => k_is)
    (case n_isinstance => k_is)
    (case n_bool => k_is)
    (case n_enumerate => k_is)
    (case n_zip => k_is)
    (case n_tuple => k_is)
    (case n_repr => k_is)
    (case gL => k_is)
    (case gD => k_is)
    (case gS => k_is)
    (case gM => k_is)
    (case gR => k_is)
    (case lR => k_is)
    (case gF => k_is)
    (case lF => k_is)
    (case lU1 => k_is)
    (case lU2 => k_is)
    (case lU3 => k_is)
    (case lU4 => k_is)
    (case lU5 => k_is)
    (case aA => k_is)
    (case pgA => k_is)
    (case hdA => k_is)
    (case poA => k_is)
    (case saA => k_is)
    (case nwA => k_is)
    (case npA => k_is)
    (case ivA => k_is)
    (case eqA => k_is)
    (case stA => k_is)
    (case ccA => k_is)
    (case moA => k_is)
    (case icA => k_is)
    (case mkA => k_is)
    (case kcA => k_is)
    (case tyA => k_is)
    (case inA => k_is)
    (case lI => k_is)
    (case cI => k_is)
    (case lTI => k_is)
    (case lN => k_is)
    (case cN => k_is)
    (case lE => k_is)
    (case cE => k_is)
    (case lS => k_is)
    (case cS => k_is)
    (case fnI => k_is)
    (case kpI => k_is)
    (case fnN => k_is)
    (case kpN => k_is)
    (case fnE => k_is)
    (case kpE => k_is)
    (case fnS => k_is)
    (case kpS => k_is)
    (case tyI => k_is)
    (case fiI => k_is)
    (case spc => k_is)
    (case tks => k_is)
    (case noS => k_is)
    (case opq => k_is)
    (case aK1 => k_is)
    (case pgK1 => k_is)
    (case hdK1 => k_is)
    (case poK1 => k_is)
    (case saK1 => k_is)
    (case nwK1 => k_is)
    (case npK1 => k_is)
    (case ivK1 => k_is)
    (case eqK1 => k_is)
    (case stK1 => k_is)
    (case ccK1 => k_is)
    (case moK1 => k_is)
    (case icK1 => k_is)
    (case mkK1 => k_is)
    (case kcK1 => k_is)
    (case sbK1 => k_is)
    (case inK1 => k_is)
    (case fnK1 => k_is)
    (case lK1 => k_is)
    (case cdK1 => k_is)
    (case lxK1 => k_is)
    (case vfK1 => rfl)
    (case lyK1 => k_is)
    (case msK1 => k_is)
    (case suK1 => ks_is)
    (case lTK1 => k_is)
    (case aK2 => k_is)
    (case pgK2 => k_is)
    (case hdK2 => k_is)
    (case poK2 => k_is)
    (case saK2 => k_is)
    (case nwK2 => k_is)
    (case npK2 => k_is)
    (case ivK2 => k_is)
    (case eqK2 => k_is)
    (case stK2 => k_is)
    (case ccK2 => k_is)
    (case moK2 => k_is)
    (case icK2 => k_is)
    (case mkK2 => k_is)
    (case kcK2 => k_is)
    (case sbK2 => k_is)
    (case inK2 => k_is)
    (case fnK2 => k_is)
    (case lK2 => k_is)
    (case cdK2 => k_is)
    (case lxK2 => k_is)
    (case vfK2 => rfl)
    (case lyK2 => k_is)
    (case msK2 => k_is)
    (case suK2 => ks_is)
    (case lTK2 => k_is)
    (case aK3 => k_is)
    (case pgK3 => k_is)
    (case hdK3 => k_is)
    (case poK3 => k_is)
    (case saK3 => k_is)
    (case nwK3 => k_is)
    (case npK3 => k_is)
    (case ivK3 => k_is)
    (case eqK3 => k_is)
    (case stK3 => k_is)
    (case ccK3 => k_is)
    (case moK3 => k_is)
    (case icK3 => k_is)
    (case mkK3 => k_is)
    (case kcK3 => k_is)
    (case sbK3 => k_is)
    (case inK3 => k_is)
    (case fnK3 => k_is)
    (case lK3 => k_is)
    (case cdK3 => k_is)
    (case lxK3 => k_is)
    (case vfK3 => rfl)
    (case lyK3 => k_is)
    (case msK3 => k_is)
    (case suK3 => ks_is)
    (case lTK3 => k_is)
    (case aK4 => k_is)
    (case pgK4 => k_is)
    (case hdK4 => k_is)
    (case poK4 => k_is)
    (case saK4 => k_is)
    (case nwK4 => k_is)
    (case npK4 => k_is)
    (case ivK4 => k_is)
    (case eqK4 => k_is)
    (case stK4 => k_is)
    (case ccK4 => k_is)
    (case moK4 => k_is)
    (case icK4 => k_is)
    (case mkK4 => k_is)
    (case kcK4 => k_is)
    (case sbK4 => k_is)
    (case inK4 => k_is)
    (case fnK4 => k_is)
    (case lK4 => k_is)
    (case cdK4 => k_is)
    (case lxK4 => k_is)
    (case vfK4 => rfl)
    (case lyK4 => k_is)
    (case msK4 => k_is)
    (case suK4 => ks_is)
    (case aK5 => k_is)
    (case pgK5 => k_is)
    (case hdK5 => k_is)
    (case poK5 => k_is)
    (case saK5 => k_is)
    (case nwK5 => k_is)
    (case npK5 => k_is)
    (case ivK5 => k_is)
    (case eqK5 => k_is)
    (case stK5 => k_is)
    (case ccK5 => k_is)
    (case moK5 => k_is)
    (case icK5 => k_is)
    (case mkK5 => k_is)
    (case kcK5 => k_is)
    (case sbK5 => k_is)
    (case inK5 => k_is)
    (case fnK5 => k_is)
    (case lK5 => k_is)
    (case cdK5 => k_is)
    (case lxK5 => k_is)
    (case vfK5 => rfl)
    (case lyK5 => k_is)
    (case msK5 => k_is)
    (case suK5 => ks_is)
    (case lTK5 => k_is)
    (case aX => k_is)
    (case aH => k_is)
    (case xX => k_is)
    (case saX => k_is)
    (case gaX => k_is)
    (case ggX => k_is)
    (case nbX => k_is)
    (case inX => k_is)
    (case tfX => k_is)
    (case lX => k_is)
    (case cX => k_is)
    (case kX => k_is)
    (case eX => k_is)
    (case tX => k_is)
    (case hX => k_is)
    (case iX => k_is)
    (case sX => first | rfl | k_is)
    (case hX2 => k_is)
    (case iH => k_is)
    (case tH => k_is)
    (case ccX => k_is)
    (case moX => k_is)
    (case kl => exact ⟨⟨_, _, rfl, rfl⟩, ⟨_, _, rfl, rfl⟩, ⟨_, _, rfl, rfl⟩, ⟨_, _, rfl, rfl⟩, ⟨_, _, rfl, rfl⟩, trivial⟩)
    (case low => rfl)
