import PyProof.Rows.All
import Wide.All
import OpenK.AllK
import Wide.FinOn
import PyProof.EqAt
import PyProof.EqKinds
import PyProof.TupleCall
import PyProof.LongRange
import HandS.ForMost
import HandS.ForExc
import HandS.Flow
import HandS.Style
import HandS.IsInst
import HandS.Wide
import HandS.CallSlots
import KE.KxIndex
import HandS.ExcInit
import HandS.ExcIs
import HandS.ExcField
import KE.KExcInit
import PyProof.ExcBaseAll.LookupError
import PyProof.FactsTree
import KE.KExcIs
import HandS.SetFor
import KE.KTryMore
import HandS.Comp
import HandS.Defaults
import KE.KStateDown
import HandS.Head0
import HandS.Head1
import HandS.Head2
import HandS.HeadHook1
import HandS.HeadHook2
import HandS.HeadEnd
import HandS.MakeKwOnly
import PySem.Challenge.RW_quietlanes_k05_refusals_apart
set_option Elab.async false
set_option linter.all false
set_option maxRecDepth 100000
set_option maxHeartbeats 4000000
/-! Q1: defs that keep a promise where nothing is being shown (guards), their calls. -/
namespace QL
open PySem PySem.Spec L2
open PyProof.Rows hiding St
/-- a def keeps sp, called where no repr runs -/
structure FnG (P : Program) (w : World) (K : PySem.W.Frag) (mg : Str → Option Value) (base : Heap) (k : Nat) (f : Addr) (fd : FuncData) (ps : List Str) (sp : Sp) : Prop where
  len : ∀ vs H Q E, sp vs H Q E → vs.length = ps.length
  run : ∀ (A : Around) (outer : List Env) (s : Shared) (H : Hp) (args : Args) (us : List Value) (vs : List V) (Q : VK) (E : XK), A.guards = some [] → Room k A → Env0 P w K mg base A outer s H →
    BindsTo s fd args (ps.zip us) → Vals vs us → sp vs H Q E → codeAny (model P w) A (.call (.ref f) args) (CR (L2.CX P w) outer P w H s Q E) s
theorem fng_of {P : Program} {w : World} {K : PySem.W.Frag} {mg : Str → Option Value} {base : Heap} {k : Nat} {f : Addr} {name qual : Str} {params : Arguments} {body : List Stmt} {scope : Scope} {dV kV doc pm cdv ct oc : Value} {an od : Option Addr}
    {osl : Array (Option Value)} {N ps : List Str} {sp : Sp} (lk : K.lookup f = some ⟨oc, od, .func (PySem.W.fnOf name qual params body scope dV kV doc pm an cdv ct), osl⟩) (hcd : PySem.W.codeIn K cdv qual = true) (S : FnScope N ps scope)
    (len : ∀ vs H Q E, sp vs H Q E → vs.length = ps.length)
    (hb : ∀ (A : Around) (outer : List Env) (s : Shared) (H : Hp) (vs : List V) (Q : VK) (E : XK), A.guards = some [] → Room k (A.deeper (envOfC qual scope s.heap.objs.size f cdv)) → sp vs H Q E →
      ∃ t, PSs (cxOf (L2.CX P w) P w K mg base N qual scope f cdv A outer s H E) body t ∧ t { nx := fun _ H' => Q .non H', rt := Q } (L2.start N vs) H) :
    FnG P w K mg base (k + 1) f (PySem.W.fnOf name qual params body scope dV kV doc pm an cdv ct) ps sp := by
  refine ⟨len, fun A outer s H args us vs Q E hg hr e0 hbd r hsp => ?_⟩
  have hl := len _ _ _ _ hsp
  have kp : ∀ b o, base.get? b = some o → s.heap.get? b = some o := fun b o e => (e0.bs b o e).1
  have KX : K.In s.heap := e0.mod.kin.keeps kp
  have lim : s.heap.NoLimit := e0.mod.nolimit.keeps kp
  refine codeAny_call_function hr.depth (KX _ _ lk) rfl S.co S.gen rfl (PySem.W.codeRec_of KX hcd) (hbd _ _ _ _ ?_)
  refine wpAny_newFunctionEnv_cells S.kind ?_ ?_
  · rintro ⟨n, v⟩ hy
    rcases S.par n (List.of_mem_zip hy).1 with q | q
    · exact .inl q
    · exact .inr ⟨q, PySem.W.cellsFrom_some _ _ _ (.inl q)⟩
  · rintro env rfl s1 x
    refine ⟨lim.keeps x.toInCall.keep, codeAny_func ?_⟩
    obtain ⟨t, ht, hq⟩ := hb A outer s H vs Q E hg (hr.deeper _) hsp
    have I := inv_start (CX := L2.CX P w) (E := E) S hr.hd e0 hl r x
    refine wpAny_mono (ht.run [] s1 _ H _ I hq) ?_ (fun e s' hs => hs)
    intro fl s' hs
    match fl, hs with
    | .ret u, ⟨v, σ', H', J, rv, q⟩ => exact ⟨v, H', J.os, J.bare, J.base, J.hok, rv, q⟩
    | .next, ⟨σ', H', J, q⟩ => exact ⟨V.non, H', J.os, J.bare, J.base, J.hok, rfl, q⟩
    | .brk, ⟨_, _, _, q⟩ => exact q.elim
    | .cont, ⟨_, _, _, q⟩ => exact q.elim
section
variable {X : Cx} {k : Nat} {f C : Addr} {fd : FuncData} {ps : List Str} {sp : Sp} {W : WX} {x m : Str} {p pos apos : Pos} {e o : Expr} {es : List Expr} {ta : TE} {t : TA}
/-- the callee runs; the wish about exceptions may speak of the caller's slots -/
theorem run_g {pins : List (Addr × Obj)} {σ : St} {H : Hp} {s : Shared} {Q : VK} {us full : List Value} {kw : List (Str × Value)} {vs : List V} (F : FnG X.prog X.w X.K X.mg X.base k f fd ps sp) (hg : X.A.guards = some []) (hr : Room k X.A) (hx : Takes X W)
    (I : Inv X pins σ H s) (hb : BindsTo s fd ⟨us, kw⟩ (ps.zip full)) (r : Vals vs full) (h : sp vs H Q (fun c d H' => W c d σ H')) : wpAny (model X.prog X.w) X.A (call (.ref f) us kw) (EP X pins σ Q) X.xe s := by
  refine wpAny_call (codeAny_mono (F.run X.A X.stack s H ⟨us, kw⟩ full vs Q _ hg hr I.env0 hb r h) fun q s' hq => ?_)
  match q, hq with
  | .error er, hq => exact hx er s' (XE.of_call I (fun _ _ _ z => z) hq)
  | .ok (.ret u), hq => exact I.after hq
  | .ok .next, hq => exact hq.elim
  | .ok .brk, hq => exact hq.elim
  | .ok .cont, hq => exact hq.elim
/-- a new instance, its __init__ runs -/
theorem make_g {pins : List (Addr × Obj)} {σ : St} {H : Hp} {s : Shared} {Q : VK} {us full : List Value} {kw : List (Str × Value)} {vs : List V} (M : Mk X.K C f) (F : FnG X.prog X.w X.K X.mg X.base k f fd ps sp) (hg : X.A.guards = some []) (hr : Room (k + 1) X.A)
    (hx : Takes X W) (I : Inv X pins σ H s) (hb : ∀ (s : Shared) (a : Value), X.K.In s.heap → BindsTo s fd ⟨a :: us, kw⟩ (ps.zip (a :: full))) (r : Vals vs full)
    (h : ∀ x dx, H x = none → H dx = none → dx ≠ x → X.K.lookup x = none → X.K.lookup dx = none → sp (.ref x :: vs) (upd (upd H dx (.own x)) x (.ins C dx [])) (fun v H2 => v = .non ∧ Q (.ref x) H2) (fun c d H' => W c d σ H')) :
    wpAny (model X.prog X.w) X.A (call (.ref C) us kw) (EP X pins σ Q) X.xe s := by
  have lk : ∀ a, s.heap.objs.size ≤ a → X.K.lookup a = none := fun a ha => by
    cases q : X.K.lookup a with
    | none => rfl
    | some o => exact absurd (Heap.lt_size (I.kIn a o q)) (Nat.not_lt.mpr ha)
  have hq := h (s.heap.objs.size + 1) s.heap.objs.size (I.hok.fresh (Nat.le_succ _)) (I.hok.fresh (Nat.le_refl _)) (Nat.ne_of_lt (Nat.lt_succ_self _)) (lk _ (Nat.le_succ _)) (lk _ (Nat.le_refl _))
  have I2 := Inv.made (C := C) I
  have hgu : (X.A.under (.builtin "type.__call__" ⟨.ref C :: us, kw⟩)).guards = some [] := by
    simp [Around.under, Code.guards, Code.isGuard, pushGuards, guardIds, hg]
  refine wpAny_call (make_map (f := f) I.kIn M.makes M.init (beq_iff_eq.mp M.fn) (codeAny_mono (F.run _ X.stack _ _ ⟨Value.ref (s.heap.objs.size + 1) :: us, kw⟩ (Value.ref (s.heap.objs.size + 1) :: full) (V.ref (s.heap.objs.size + 1) :: vs) _ _ hgu (hr.make C us kw)
    (I2.env0.make C us kw) (hb _ _ I2.kIn) (.cons rfl r) hq) fun q s' hq' => ?_))
  match q, hq' with
  | .error er, hq' => exact hx er s' (XE.of_call I2 (fun _ _ _ z => z) hq')
  | .ok (.ret u), hq' =>
    obtain ⟨v, H', I3, rv, ev, q3⟩ := I2.after hq'
    subst ev
    exact ⟨rv, ⟨V.ref (s.heap.objs.size + 1), H', I3, rfl, q3⟩⟩
  | .ok .next, hq' => exact hq'.elim
  | .ok .brk, hq' => exact hq'.elim
  | .ok .cont, hq' => exact hq'.elim
end
end QL
set_option Elab.async false
set_option linter.all false
set_option maxRecDepth 100000
set_option maxHeartbeats 4000000
/-! Q2: what operators do to values, as functions that look at the values. -/
namespace QL
open PySem PySem.Spec L2
open PyProof.Rows hiding St
/-- what stands at a: tracked, locked, or written (so) -/
def rd (so : Addr → Option HO) (H : Hp) (a : Addr) : Option HO := match H a with
  | some (.frz _ u) => some u
  | some o => some o
  | none => so a
/-- the written tuples are so -/
def SoOk (K : PySem.W.Frag) (so : Addr → Option HO) : Prop := ∀ a o, so a = some o → match o with
  | .tup xs => ∃ (o : Obj) (its : Array Value) (n : Nat), K.lookup a = some o ∧ o.cls = .type "tuple" ∧ o.data = .seq its n ∧ its.size ≤ sizeLine ∧ Vals xs its.toList
  | .lst xs => ∃ (o : Obj) (its : Array Value) (n : Nat), K.lookup a = some o ∧ o.cls = .type "list" ∧ o.dict = none ∧ o.data = .seq its n ∧ its.size ≤ sizeLine ∧ Vals xs its.toList
  | _ => False
section
variable {K : PySem.W.Frag} {so : Addr → Option HO} {H : Hp} {a : Addr} {xs : List V}
theorem rd_lst (S : SoOk K so) (h : rd so H a = some (.lst xs)) : SqL K H a xs := by
  unfold rd at h
  split at h
  · rename_i o u e
    cases h
    exact .inl (.inr ⟨_, e⟩)
  · rename_i e
    cases h
    exact .inl (.inl e)
  · have q := S a _ h
    exact .inr q
theorem rd_tup (S : SoOk K so) (h : rd so H a = some (.tup xs)) : SqT K H a xs := by
  unfold rd at h
  split at h
  · rename_i o u e
    cases h
    exact .inl (.inr ⟨_, e⟩)
  · rename_i e
    cases h
    exact .inl (.inl e)
  · have q := S a _ h
    exact .inr q
theorem rd_of {o : HO} (h : H a = some o) (hn : ∀ x u, o ≠ .frz x u) : rd so H a = some o := by
  unfold rd
  rw [h]
  cases o <;> first | rfl | exact absurd rfl (hn _ _)
end
theorem OpR.imp {X : Cx} {f : Value → Value → Sem Value} {r r' : R2} (h : OpR X f r) (q : ∀ x y H Q, r' x y H Q → r x y H Q) : OpR X f r' :=
  fun pins s σ H x y v u Q I rx ry z => h pins s σ H x y v u Q I rx ry (q x y H Q z)
theorem CallR.imp {X : Cx} {f : Value} {r r' : List V → Hp → VK → Prop} (h : CallR X f r) (q : ∀ x H Q, r' x H Q → r x H Q) : CallR X f r' :=
  fun pins s σ H x v Q I rx z => h pins s σ H x v Q I rx (q x H Q z)
theorem so_none {K : PySem.W.Frag} {so : Addr → Option HO} (S : SoOk K so) {a : Addr} (h : K.lookup a = none) : so a = none := by
  cases e : so a with
  | none => rfl
  | some o =>
    have q := S a o e
    cases o with
    | tup xs => obtain ⟨ob, _, _, z, _⟩ := q; rw [h] at z; cases z
    | lst xs => obtain ⟨ob, _, _, z, _⟩ := q; rw [h] at z; cases z
    | _ => exact q.elim
/-- nothing written is tracked -/
def NoK (so : Addr → Option HO) (H : Hp) : Prop := ∀ b, so b ≠ none → H b = none
theorem nok_of {X : Cx} {so : Addr → Option HO} (S : SoOk X.K so) {pins : List (Addr × Obj)} {σ : St} {H : Hp} {s : Shared} (I : Inv X pins σ H s) : NoK so H := fun b hb => by
  cases e : so b with
  | none => exact absurd e hb
  | some o =>
    have q := S b o e
    obtain ⟨ob, hk⟩ : ∃ ob, X.K.lookup b = some ob := by
      cases o with
      | tup xs => obtain ⟨ob, _, _, h, _⟩ := q; exact ⟨ob, h⟩
      | lst xs => obtain ⟨ob, _, _, h, _⟩ := q; exact ⟨ob, h⟩
      | _ => exact q.elim
    exact (I.bs b ob (I.mod.kin b ob hk)).2
theorem nok_upd {so : Addr → Option HO} {H : Hp} {p : Addr} {o : HO} (h : NoK so (upd H p o)) : so p = none := by
  cases e : so p with
  | none => rfl
  | some u =>
    have := h p (by rw [e]; simp)
    rw [upd_same] at this
    cases this
theorem PE.nok {X : Cx} {so : Addr → Option HO} (S : SoOk X.K so) {e : Expr} {t : TE} (h : PE X e t) : PE X e (fun σ H Q => t σ H fun v H' => NoK so H' → Q v H') := ⟨fun pins s σ H Q I z =>
  thn (h.run pins s σ H _ I z) fun u s' ⟨v, H', I', r, q⟩ => ⟨v, H', I', r, q (nok_of S I')⟩⟩
theorem OpR.nok {X : Cx} {so : Addr → Option HO} (S : SoOk X.K so) {f : Value → Value → Sem Value} {r : R2} (h : OpR X f r) : OpR X f (fun x y H Q => r x y H fun v H' => NoK so H' → Q v H') := fun pins s σ H x y v u Q I rx ry z =>
  thn (h pins s σ H x y v u _ I rx ry z) fun u s' ⟨v, H', I', r, q⟩ => ⟨v, H', I', r, q (nok_of S I')⟩
theorem CallR.nok {X : Cx} {so : Addr → Option HO} (S : SoOk X.K so) {f : Value} {r : List V → Hp → VK → Prop} (h : CallR X f r) : CallR X f (fun x H Q => r x H fun v H' => NoK so H' → Q v H') := fun pins s σ H x v Q I rx z =>
  thn (h pins s σ H x v _ I rx z) fun u s' ⟨v, H', I', r, q⟩ => ⟨v, H', I', r, q (nok_of S I')⟩
theorem SlR.nok {X : Cx} {so : Addr → Option HO} (S : SoOk X.K so) {r : V → Option Int → Option Int → Hp → VK → Prop} (h : SlR X r) : SlR X (fun x lo hi H Q => r x lo hi H fun v H' => NoK so H' → Q v H') := fun pins s σ H x v vl vu lo hi sl Q I rx hs pl pu z => by
  obtain ⟨T, id, h1, h2, h3⟩ := h pins s σ H x v vl vu lo hi sl _ I rx hs pl pu z
  exact ⟨T, id, h1, h2, thn h3 fun u s' ⟨v, H', I', r, q⟩ => ⟨v, H', I', r, q (nok_of S I')⟩⟩
/-! ### arithmetic -/
def addV (so : Addr → Option HO) : R2 := fun x y H Q => match x, y with
  | .int i, .int j => Q (.int (i + j)) H
  | .str i, .str j => i.length + j.length ≤ sizeLine ∧ Q (.str (i ++ j)) H
  | .ref p, .ref q => (match H p, H q with
    | some (.lst xs), some (.lst ys) => xs.length + ys.length ≤ sizeLine ∧ ∀ r, H r = none → so r = none → Q (.ref r) (upd H r (.lst (xs ++ ys)))
    | _, _ => False)
  | _, _ => False
def subV : R2 := fun x y H Q => match x, y with
  | .int i, .int j => Q (.int (i - j)) H
  | _, _ => False
def mulV (so : Addr → Option HO) : R2 := fun x y H Q => match x, y with
  | .int i, .int j => CMul i j ∧ Q (.int (i * j)) H
  | .str z, .int k => z.length ≤ 16 ∧ 0 ≤ k ∧ k ≤ 1048576 ∧ Q (.str (Txt.mul z k)) H
  | .ref p, .int k => (match H p with
    | some (.lst xs) => -(2 ^ 63) ≤ k ∧ k < 2 ^ 63 ∧ xs.length * k.toNat ≤ sizeLine ∧ ∀ r, H r = none → so r = none → Q (.ref r) (upd H r (.lst (List.replicate k.toNat xs).flatten))
    | _ => False)
  | _, _ => False
def divV : R2 := fun x y H Q => match x, y with
  | .int i, .int j => CDiv i j ∧ Q (.int (i / j)) H
  | _, _ => False
def modV : R2 := fun x y H Q => match x, y with
  | .int i, .int j => 0 < j ∧ Q (.int (i % j)) H
  | _, _ => False
def powV : R2 := fun x y H Q => match x, y with
  | .int i, .int j => CPow i j ∧ Q (.int (i ^ j.toNat)) H
  | _, _ => False
def shlV : R2 := fun x y H Q => match x, y with
  | .int i, .int j => CPow i j ∧ Q (.int (i * 2 ^ j.toNat)) H
  | _, _ => False
def opV (so : Addr → Option HO) (o : Operator) : R2 := fun x y H Q => match o with
  | .Add => addV so x y H Q
  | .Sub => subV x y H Q
  | .Mult => mulV so x y H Q
  | .FloorDiv => divV x y H Q
  | .Mod => modV x y H Q
  | .Pow => powV x y H Q
  | .LShift => shlV x y H Q
  | _ => False
section
variable {X : Cx} {so : Addr → Option HO} (S : SoOk X.K so)
include S
theorem op_addV : OpR X (binaryOp .Add) (addV so) := OpR.imp (OpR.nok S (op_add.or (op_add_str.or op_cat))) fun x y H Q h => by
  unfold addV at h
  split at h
  · exact .inl ⟨_, _, rfl, rfl, fun _ => h⟩
  · exact .inr (.inl ⟨_, _, rfl, rfl, h.1, fun _ => h.2⟩)
  · split at h
    · rename_i e1 e2
      exact .inr (.inr ⟨_, _, _, _, rfl, rfl, e1, e2, h.1, fun p hp nk => h.2 p hp (nok_upd nk)⟩)
    · exact h.elim
  · exact h.elim
omit S in
theorem op_subV : OpR X (binaryOp .Sub) subV := OpR.imp op_sub fun x y H Q h => by
  unfold subV at h
  split at h
  · exact ⟨_, _, rfl, rfl, h⟩
  · exact h.elim
omit S in
theorem op_mul_strI : OpR X (binaryOp .Mult) (fun x y H Q => ∃ (z : Str) (k : Int), x = .str z ∧ y = .int k ∧ z.length ≤ 16 ∧ 0 ≤ k ∧ k ≤ 1048576 ∧ Q (.str (Txt.mul z k)) H) := by
  intro pins s σ H x y v u Q I rx ry h
  obtain ⟨z, k, rfl, rfl, h1, h2, h3, q⟩ := h
  obtain ⟨t, rfl⟩ := rx
  obtain ⟨t', rfl⟩ := ry
  exact PySem.W.KXi.mul rfl h1 (by omega) h3 fun t2 tk _ _ => ⟨.str _, H, I.kept (t' := tk) fun b o e => e, ⟨t2, rfl⟩, q⟩
theorem op_mulV : OpR X (binaryOp .Mult) (mulV so) := OpR.imp (OpR.nok S ((op_mul.or op_rep).or op_mul_strI)) fun x y H Q h => by
  unfold mulV at h
  split at h
  · exact .inl (.inl ⟨_, _, rfl, rfl, h.1, fun _ => h.2⟩)
  · exact .inr ⟨_, _, rfl, rfl, h.1, h.2.1, h.2.2.1, fun _ => h.2.2.2⟩
  · split at h
    · rename_i e1
      refine .inl (.inr ?_)
      exact ⟨_, _, _, rfl, rfl, e1, h.1, h.2.1, h.2.2.1, fun p hp nk => h.2.2.2 p hp (nok_upd nk)⟩
    · exact h.elim
  · exact h.elim
omit S in
theorem op_divV : OpR X (binaryOp .FloorDiv) divV := OpR.imp op_fdiv fun x y H Q h => by
  unfold divV at h
  split at h
  · exact ⟨_, _, rfl, rfl, h.1, h.2⟩
  · exact h.elim
omit S in
theorem op_modV : OpR X (binaryOp .Mod) modV := OpR.imp op_mod fun x y H Q h => by
  unfold modV at h
  split at h
  · exact ⟨_, _, rfl, rfl, h.1, h.2⟩
  · exact h.elim
omit S in
theorem op_powV : OpR X (binaryOp .Pow) powV := OpR.imp op_pow fun x y H Q h => by
  unfold powV at h
  split at h
  · exact ⟨_, _, rfl, rfl, h.1, h.2⟩
  · exact h.elim
omit S in
theorem op_shlV : OpR X (binaryOp .LShift) shlV := OpR.imp op_shl fun x y H Q h => by
  unfold shlV at h
  split at h
  · exact ⟨_, _, rfl, rfl, h.1, h.2⟩
  · exact h.elim
omit S in
theorem op_no {f : Value → Value → Sem Value} : OpR X f (fun _ _ _ _ => False) := fun _ _ _ _ _ _ _ _ _ _ _ _ h => h.elim
theorem op_opV (o : Operator) : OpR X (binaryOp o) (opV so o) := match o with
  | .Add => op_addV S
  | .Sub => op_subV
  | .Mult => op_mulV S
  | .FloorDiv => op_divV
  | .Mod => op_modV
  | .Pow => op_powV
  | .LShift => op_shlV
  | .MatMult => op_no
  | .Div => op_no
  | .RShift => op_no
  | .BitOr => op_no
  | .BitXor => op_no
  | .BitAnd => op_no
end
/-! ### comparisons -/
/-- a flat value as data -/
def scD : V → Option PyData
  | .non => some .none
  | .bl b => some (.bool b)
  | .int i => some (.int i)
  | .str x => some (.str x)
  | _ => none
mutual
/-- the data that a value shows -/
inductive Dd (so : Addr → Option HO) (H : Hp) : V → PyData → Prop
  | sc {x : V} {d : PyData} : scD x = some d → Dd so H x d
  | lst {a : Addr} {xs : List V} {ds : List PyData} : rd so H a = some (.lst xs) → Dds so H xs ds → Dd so H (.ref a) (.list ds)
  | tup {a : Addr} {xs : List V} {ds : List PyData} : rd so H a = some (.tup xs) → Dds so H xs ds → Dd so H (.ref a) (.tuple ds)
inductive Dds (so : Addr → Option HO) (H : Hp) : List V → List PyData → Prop
  | nil : Dds so H [] []
  | cons {v : V} {vs : List V} {d : PyData} {ds : List PyData} : Dd so H v d → Dds so H vs ds → Dds so H (v :: vs) (d :: ds)
end
theorem dp_sc {K : PySem.W.Frag} {H : Hp} {x : V} {d : PyData} (h : scD x = some d) : Dp K H x d := by
  cases x <;> simp only [scD, Option.some.injEq, reduceCtorEq] at h <;> subst h <;> constructor
section
variable {K : PySem.W.Frag} {so : Addr → Option HO} {H : Hp} (S : SoOk K so)
include S
mutual
theorem Dd.dp : ∀ {v : V} {d : PyData}, Dd so H v d → Dp K H v d
  | _, _, .sc h => dp_sc h
  | _, _, .lst h t => .lst (rd_lst S h) t.dp
  | _, _, .tup h t => .tup (rd_tup S h) t.dp
theorem Dds.dp : ∀ {v : List V} {d : List PyData}, Dds so H v d → DpAll K H v d
  | _, _, .nil => .nil
  | _, _, .cons h t => .cons h.dp t.dp
end
end
/-- a number, a truth, None as data -/
def scN : V → Option PyData
  | .non => some .none
  | .bl b => some (.bool b)
  | .int i => some (.int i)
  | _ => none
/-- == (neg: !=) -/
def eqD (so : Addr → Option HO) (neg : Bool) : R2 := fun x y H Q => match x, y with
  | .str i, .str j => Q (.bl (decide (i = j) != neg)) H
  | _, _ => (match scN x, scN y with
    | some d, some e => Q (.bl (PyData.eqv d e != neg)) H
    | _, _ => ∃ d e, Dd so H x d ∧ Dd so H y e ∧ SeqAt.shaped d = true ∧ SeqAt.shaped e = true ∧ Q (.bl (PyData.eqv d e != neg)) H)
theorem sc_shaped {x : V} {d : PyData} (h : scN x = some d) : SeqAt.shaped d = true := by
  cases x <;> simp only [scN, Option.some.injEq, reduceCtorEq] at h <;> subst h <;> rfl
theorem sc_dp {K : PySem.W.Frag} {H : Hp} {x : V} {d : PyData} (h : scN x = some d) : Dp K H x d := by
  cases x <;> simp only [scN, Option.some.injEq, reduceCtorEq] at h <;> subst h <;> constructor
theorem str_dec {i j : Str} : decide (V.str i = V.str j) = decide (i = j) := by
  by_cases h : i = j
  · subst h; simp
  · simp [h]
theorem op_eqQ {X : Cx} {so : Addr → Option HO} (S : SoOk X.K so) (hu : X.A.units + 64 < cLine) : OpR X (compareOp .Eq) (eqD so false) := OpR.imp (op_eq.or (op_eqD hu)) fun x y H Q h => by
  unfold eqD at h
  split at h
  · exact .inl ⟨rfl, by rw [str_dec]; simpa using h⟩
  · split at h
    · rename_i d e h1 h2
      exact .inr ⟨d, e, sc_dp h1, sc_dp h2, sc_shaped h1, sc_shaped h2, by simpa using h⟩
    · obtain ⟨d, e, h1, h2, h3, h4, q⟩ := h
      exact .inr ⟨d, e, h1.dp S, h2.dp S, h3, h4, by simpa using q⟩
theorem op_neQ {X : Cx} {so : Addr → Option HO} (S : SoOk X.K so) (hu : X.A.units + 64 < cLine) : OpR X (compareOp .NotEq) (eqD so true) := OpR.imp (op_ne.or (op_neD hu)) fun x y H Q h => by
  unfold eqD at h
  split at h
  · exact .inl ⟨rfl, by rw [str_dec]; simpa using h⟩
  · split at h
    · rename_i d e h1 h2
      exact .inr ⟨d, e, sc_dp h1, sc_dp h2, sc_shaped h1, sc_shaped h2, by simpa using h⟩
    · obtain ⟨d, e, h1, h2, h3, h4, q⟩ := h
      exact .inr ⟨d, e, h1.dp S, h2.dp S, h3, h4, by simpa using q⟩
def ordV (p : Int → Int → Bool) : R2 := fun x y H Q => match x, y with
  | .int i, .int j => Q (.bl (p i j)) H
  | _, _ => False
/-- a key's value -/
def keyV : V → Option Key
  | .int i => some (.inl i)
  | .str x => some (.inr x)
  | _ => none
theorem keyV_kV {y : V} {k : Key} (h : keyV y = some k) : y = kV k := by
  cases y <;> simp only [keyV, Option.some.injEq, reduceCtorEq] at h <;> subst h <;> rfl
/-- in (neg: not in) -/
def inD (so : Addr → Option HO) (neg : Bool) : R2 := fun x y H Q => match y with
  | .str j => (match x with
    | .str i => Q (.bl ((!(Builtin.Str.occurrences j i 0 j.length 1).isEmpty) != neg)) H
    | _ => False)
  | .ref p => (match rd so H p with
    | some (.lst xs) => flatV x = true ∧ xs.all flatV = true ∧ Q (.bl (inV x xs != neg)) H
    | some (.tup xs) => flatV x = true ∧ xs.all flatV = true ∧ Q (.bl (inV x xs != neg)) H
    | some (.dK kvs) => (match H p, keyV x with
      | some (.dK _), some k => Q (.bl ((valV kvs k).isSome != neg)) H
      | _, _ => False)
    | _ => False)
  | _ => False
theorem op_dIn {X : Cx} (hu : X.A.units + 1 < cLine) : OpR X (compareOp .In) (fun y x H Q => ∃ a o, x = .ref a ∧ DGet H a y o ∧ Q (.bl o.isSome) H) := by
  intro pins s σ H y x v u Q I ry rx h
  obtain ⟨a, o, rfl, g, q⟩ := h
  obtain rfl : u = Value.ref a := rx
  exact d_in hu I g ry fun s3 I3 => ⟨.bl o.isSome, H, I3, rfl, q⟩
theorem op_dNotIn {X : Cx} (hu : X.A.units + 1 < cLine) : OpR X (compareOp .NotIn) (fun y x H Q => ∃ a o, x = .ref a ∧ DGet H a y o ∧ Q (.bl (!o.isSome)) H) := by
  intro pins s σ H y x v u Q I ry rx h
  obtain ⟨a, o, rfl, g, q⟩ := h
  obtain rfl : u = Value.ref a := rx
  exact d_notIn hu I g ry fun s3 I3 => ⟨.bl (!o.isSome), H, I3, rfl, q⟩
theorem rd_dK {so : Addr → Option HO} {K : PySem.W.Frag} (S : SoOk K so) {H : Hp} {p : Addr} {kvs kvs' : List (Key × V)} (h : rd so H p = some (.dK kvs)) (h' : H p = some (.dK kvs')) : H p = some (.dK kvs) := by
  unfold rd at h
  rw [h'] at h
  cases h
  exact h'
theorem op_inQ {X : Cx} {so : Addr → Option HO} (S : SoOk X.K so) (hu : X.A.units + 1 < cLine) : OpR X (compareOp .In) (inD so false) := OpR.imp (op_in_str.or (op_in_seq.or (op_dIn hu))) fun x y H Q h => by
  unfold inD at h
  split at h
  · split at h
    · exact .inl ⟨_, _, rfl, rfl, by simpa using h⟩
    · exact h.elim
  · split at h
    · rename_i e
      exact .inr (.inl ⟨_, _, rfl, .inl (rd_lst S e), h.1, h.2.1, by simpa using h.2.2⟩)
    · rename_i e
      exact .inr (.inl ⟨_, _, rfl, .inr (rd_tup S e), h.1, h.2.1, by simpa using h.2.2⟩)
    · split at h
      · rename_i e _ _ _ _ e1 e2
        rw [keyV_kV e2]
        exact .inr (.inr ⟨_, _, rfl, .k (rd_dK S e e1), by simpa using h⟩)
      · exact h.elim
    · exact h.elim
  · exact h.elim
theorem op_notInQ {X : Cx} {so : Addr → Option HO} (S : SoOk X.K so) (hu : X.A.units + 1 < cLine) : OpR X (compareOp .NotIn) (inD so true) := OpR.imp (op_notin_str.or (op_notIn_seq.or (op_dNotIn hu))) fun x y H Q h => by
  unfold inD at h
  split at h
  · split at h
    · exact .inl ⟨_, _, rfl, rfl, by simpa using h⟩
    · exact h.elim
  · split at h
    · rename_i e
      exact .inr (.inl ⟨_, _, rfl, .inl (rd_lst S e), h.1, h.2.1, by simpa using h.2.2⟩)
    · rename_i e
      exact .inr (.inl ⟨_, _, rfl, .inr (rd_tup S e), h.1, h.2.1, by simpa using h.2.2⟩)
    · split at h
      · rename_i e _ _ _ _ e1 e2
        rw [keyV_kV e2]
        exact .inr (.inr ⟨_, _, rfl, .k (rd_dK S e e1), by simpa using h⟩)
      · exact h.elim
    · exact h.elim
  · exact h.elim
/-- is (neg: is not) -/
def isV (neg : Bool) : R2 := fun x y H Q => match x, y with
  | _, .non => Q (.bl (decide (x = .non) != neg)) H
  | .bl a, .bl b => Q (.bl (decide (a = b) != neg)) H
  | .ref p, .ref q => (match H p, H q with
    | some op, some oq => isObj op = true ∧ isObj oq = true ∧ Q (.bl (decide (p = q) != neg)) H
    | _, _ => False)
  | _, _ => False
theorem op_isQ {X : Cx} : OpR X (compareOp .Is) (isV false) := OpR.imp (op_isN.or (op_isBl.or op_is_ref)) fun x y H Q h => by
  unfold isV at h
  split at h
  · exact .inl ⟨rfl, by simpa using h⟩
  · exact .inr (.inl ⟨_, _, rfl, rfl, by simpa using h⟩)
  · split at h
    · rename_i e1 e2
      exact .inr (.inr ⟨_, _, _, _, rfl, rfl, e1, h.1, e2, h.2.1, by simpa using h.2.2⟩)
    · exact h.elim
  · exact h.elim
theorem op_isNotQ {X : Cx} : OpR X (compareOp .IsNot) (isV true) := OpR.imp (op_notN.or (op_notBl.or op_isnot_ref)) fun x y H Q h => by
  unfold isV at h
  split at h
  · exact .inl ⟨rfl, by simpa using h⟩
  · exact .inr (.inl ⟨_, _, rfl, rfl, by simpa using h⟩)
  · split at h
    · rename_i e1 e2
      exact .inr (.inr ⟨_, _, _, _, rfl, rfl, e1, h.1, e2, h.2.1, by simpa using h.2.2⟩)
    · exact h.elim
  · exact h.elim
def cmpV (so : Addr → Option HO) (o : CmpOp) : R2 := fun x y H Q => match o with
  | .Eq => eqD so false x y H Q
  | .NotEq => eqD so true x y H Q
  | .Lt => ordV (fun i j => decide (i < j)) x y H Q
  | .LtE => ordV (fun i j => decide (i ≤ j)) x y H Q
  | .Gt => ordV (fun i j => decide (j < i)) x y H Q
  | .GtE => ordV (fun i j => decide (j ≤ i)) x y H Q
  | .In => inD so false x y H Q
  | .NotIn => inD so true x y H Q
  | .Is => isV false x y H Q
  | .IsNot => isV true x y H Q
theorem op_ordV {X : Cx} {f : Value → Value → Sem Value} {p : Int → Int → Bool} (h : OpR X f (rI0 fun i j => .bl (p i j))) : OpR X f (ordV p) := OpR.imp h fun x y H Q h => by
  unfold ordV at h
  split at h
  · exact ⟨_, _, rfl, rfl, h⟩
  · exact h.elim
theorem op_cmpV {X : Cx} {so : Addr → Option HO} (S : SoOk X.K so) (hu : X.A.units + 64 < cLine) (o : CmpOp) : OpR X (compareOp o) (cmpV so o) :=
  have hu1 : X.A.units + 1 < cLine := by omega
  match o with
  | .Eq => op_eqQ S hu
  | .NotEq => op_neQ S hu
  | .Lt => op_ordV op_lt
  | .LtE => op_ordV op_le
  | .Gt => op_ordV op_gt
  | .GtE => op_ordV op_ge
  | .In => op_inQ S hu1
  | .NotIn => op_notInQ S hu1
  | .Is => op_isQ
  | .IsNot => op_isNotQ
/-! ### truth -/
def truV (so : Addr → Option HO) (H : Hp) : V → Option Bool
  | .non => some false
  | .bl b => some b
  | .int i => some (i != 0)
  | .ref p => (match rd so H p with
    | some (.lst xs) => some (!xs.isEmpty)
    | some (.tup xs) => some (!xs.isEmpty)
    | some (.dK kvs) => (match H p with
      | some (.dK _) => some (!kvs.isEmpty)
      | _ => none)
    | _ => none)
  | _ => none
theorem truV_ok {K : PySem.W.Frag} {so : Addr → Option HO} (S : SoOk K so) {H : Hp} {x : V} {k : Bool} (h : truV so H x = some k) : TruV K x H k := by
  cases x with
  | non => exact (Option.some.inj h).symm
  | bl b => exact (Option.some.inj h).symm
  | int i => exact (Option.some.inj h).symm
  | ref p =>
    unfold truV at h
    simp only at h
    split at h
    · rename_i e
      exact .inl ⟨_, rd_lst S e, (Option.some.inj h).symm⟩
    · rename_i e
      exact .inr (.inl ⟨_, rd_tup S e, (Option.some.inj h).symm⟩)
    · split at h
      · rename_i e _ _ e1
        exact .inr (.inr ⟨_, rd_dK S e e1, (Option.some.inj h).symm⟩)
      · cases h
    · cases h
  | _ => cases h
end QL
set_option Elab.async false
set_option linter.all false
set_option maxRecDepth 100000
set_option maxHeartbeats 4000000
/-! Q3: built-in functions, items, slices. -/
namespace QL
open PySem PySem.Spec L2
open PyProof.Rows hiding St
inductive Bi where
  | len | int | bool | str | repr | min | max | abs | sum | list | tuple | any | all | sorted
  deriving DecidableEq
def lenV (so : Addr → Option HO) (H : Hp) : V → Option Nat
  | .str y => if y.length ≤ sizeLine then some y.length else none
  | .ref p => (match rd so H p with
    | some (.lst xs) => some xs.length
    | some (.tup xs) => some xs.length
    | some (.dK kvs) => (match H p with
      | some (.dK _) => some kvs.length
      | _ => none)
    | _ => none)
  | _ => none
/-- ints out of values -/
def intsV : List V → Option (List Int)
  | [] => some []
  | .int i :: r => (intsV r).map (i :: ·)
  | _ :: _ => none
def blsV : List V → Option (List Bool)
  | [] => some []
  | .bl i :: r => (blsV r).map (i :: ·)
  | _ :: _ => none
theorem intsV_map : ∀ {xs : List V} {ns : List Int}, intsV xs = some ns → xs = ns.map V.int
  | [], ns, h => by cases h; rfl
  | .int i :: r, ns, h => by
    unfold intsV at h
    cases e : intsV r with
    | none => rw [e] at h; cases h
    | some m => rw [e] at h; cases h; rw [List.map_cons, ← intsV_map e]
  | .non :: _, _, h | .bl _ :: _, _, h | .str _ :: _, _, h | .byt _ :: _, _, h | .flt _ :: _, _, h | .ref _ :: _, _, h | .ty _ :: _, _, h => by cases h
theorem blsV_map : ∀ {xs : List V} {ns : List Bool}, blsV xs = some ns → xs = ns.map V.bl
  | [], ns, h => by cases h; rfl
  | .bl i :: r, ns, h => by
    unfold blsV at h
    cases e : blsV r with
    | none => rw [e] at h; cases h
    | some m => rw [e] at h; cases h; rw [List.map_cons, ← blsV_map e]
  | .non :: _, _, h | .int _ :: _, _, h | .str _ :: _, _, h | .byt _ :: _, _, h | .flt _ :: _, _, h | .ref _ :: _, _, h | .ty _ :: _, _, h => by cases h
@[simp] theorem intsV_ints (ns : List Int) : intsV (ns.map V.int) = some ns := by
  induction ns with
  | nil => rfl
  | cons a r ih => simp [intsV, ih]
@[simp] theorem blsV_bls (ns : List Bool) : blsV (ns.map V.bl) = some ns := by
  induction ns with
  | nil => rfl
  | cons a r ih => simp [blsV, ih]
/-- a list's items -/
def lstV (so : Addr → Option HO) (H : Hp) : V → Option (List V)
  | .ref p => (match rd so H p with
    | some (.lst xs) => some xs
    | _ => none)
  | _ => none
def tupV (so : Addr → Option HO) (H : Hp) : V → Option (List V)
  | .ref p => (match rd so H p with
    | some (.tup xs) => some xs
    | _ => none)
  | _ => none
theorem lstV_ok {K : PySem.W.Frag} {so : Addr → Option HO} (S : SoOk K so) {H : Hp} {x : V} {xs : List V} (h : lstV so H x = some xs) : ∃ p, x = .ref p ∧ SqL K H p xs := by
  cases x with
  | ref p =>
    unfold lstV at h
    simp only at h
    split at h
    · rename_i e
      cases h
      exact ⟨p, rfl, rd_lst S e⟩
    · cases h
  | _ => cases h
theorem tupV_ok {K : PySem.W.Frag} {so : Addr → Option HO} (S : SoOk K so) {H : Hp} {x : V} {xs : List V} (h : tupV so H x = some xs) : ∃ p, x = .ref p ∧ SqT K H p xs := by
  cases x with
  | ref p =>
    unfold tupV at h
    simp only at h
    split at h
    · rename_i e
      cases h
      exact ⟨p, rfl, rd_tup S e⟩
    · cases h
  | _ => cases h
def bLen (so : Addr → Option HO) : List V → Hp → VK → Prop := fun xs H Q => match xs with
  | [x] => (match lenV so H x with
    | some n => Q (.int n) H
    | none => False)
  | _ => False
def bInt : List V → Hp → VK → Prop := fun xs H Q => match xs with
  | [.int i] => Q (.int i) H
  | [.bl k] => Q (.int (if k then 1 else 0)) H
  | [.str a] => a.length ≤ 640 ∧ ∃ n, PySem.intText? a = some n ∧ Q (.int n) H
  | _ => False
def bBool : List V → Hp → VK → Prop := fun xs H Q => match xs with
  | [.int i] => Q (.bl (i != 0)) H
  | [.bl k] => Q (.bl k) H
  | _ => False
def bStr : List V → Hp → VK → Prop := fun xs H Q => match xs with
  | [.int i] => i.natAbs.log2 < 1920 ∧ Q (.str (toString i)) H
  | _ => False
def bRepr (so : Addr → Option HO) : List V → Hp → VK → Prop := fun xs H Q => match xs with
  | [x] => (∃ d, Dd so H x d ∧ d.showable = true ∧ d.hasDict = false ∧ d.depth ≤ 60 ∧ d.shown.length ≤ sizeLine ∧ Q (.str d.shown) H) ∨ ∃ a, x = .ref a ∧ H a = some (.dK []) ∧ Q (.str "{}") H
  | _ => False
def bMin : List V → Hp → VK → Prop := fun xs H Q => match xs with
  | [.int i, .int j] => Q (.int (if j < i then j else i)) H
  | _ => False
def bMax : List V → Hp → VK → Prop := fun xs H Q => match xs with
  | [.int i, .int j] => Q (.int (if j > i then j else i)) H
  | _ => False
def bAbs : List V → Hp → VK → Prop := fun xs H Q => match xs with
  | [.int i] => Q (.int (if i < 0 then -i else i)) H
  | _ => False
def bSum (so : Addr → Option HO) : List V → Hp → VK → Prop := fun xs H Q => match xs with
  | [x] => (match (lstV so H x).bind intsV with
    | some ns => Q (.int ns.sum) H
    | none => False)
  | _ => False
def bAny (so : Addr → Option HO) : List V → Hp → VK → Prop := fun xs H Q => match xs with
  | [x] => (match (lstV so H x).bind blsV with
    | some bs => Q (.bl (bs.any id)) H
    | none => False)
  | _ => False
def bAll (so : Addr → Option HO) : List V → Hp → VK → Prop := fun xs H Q => match xs with
  | [x] => (match (lstV so H x).bind blsV with
    | some bs => Q (.bl (bs.all id)) H
    | none => False)
  | _ => False
def bList (so : Addr → Option HO) : List V → Hp → VK → Prop := fun xs H Q => match xs with
  | [x] => (match lstV so H x, tupV so H x with
    | some ys, _ => ∀ l, H l = none → so l = none → Q (.ref l) (upd H l (.lst ys))
    | none, some ys => ∀ l, H l = none → so l = none → Q (.ref l) (upd H l (.lst ys))
    | none, none => False)
  | _ => False
def bTuple (so : Addr → Option HO) : List V → Hp → VK → Prop := fun xs H Q => match xs with
  | [x] => (match lstV so H x, tupV so H x with
    | some ys, _ => ∀ l, H l = none → so l = none → Q (.ref l) (upd H l (.tup ys))
    | none, some _ => Q x H
    | none, none => False)
  | _ => False
def bSorted (so : Addr → Option HO) : List V → Hp → VK → Prop := fun xs H Q => match xs with
  | [x] => (match (lstV so H x).bind intsV with
    | some ns => ns.length < 64 ∧ ∀ (ns' : List Int) (p : Addr), ns'.Perm ns → ns'.Pairwise (· ≤ ·) → H p = none → so p = none → Q (.ref p) (upd H p (.lst (ns'.map V.int)))
    | none => False)
  | _ => False
def biV (so : Addr → Option HO) : Bi → List V → Hp → VK → Prop
  | .len => bLen so
  | .int => bInt
  | .bool => bBool
  | .str => bStr
  | .repr => bRepr so
  | .min => bMin
  | .max => bMax
  | .abs => bAbs
  | .sum => bSum so
  | .list => bList so
  | .tuple => bTuple so
  | .any => bAny so
  | .all => bAll so
  | .sorted => bSorted so
/-- what a built-in is called, and what it is -/
def biN : Bi → Str
  | .len => "len" | .int => "int" | .bool => "bool" | .str => "str" | .repr => "repr" | .min => "min" | .max => "max" | .abs => "abs" | .sum => "sum" | .list => "list" | .tuple => "tuple" | .any => "any" | .all => "all" | .sorted => "sorted"
def biF : Bi → Value
  | .len => .builtin "len" | .int => .type "int" | .bool => .type "bool" | .str => .type "str" | .repr => .builtin "repr" | .min => .builtin "min" | .max => .builtin "max" | .abs => .builtin "abs" | .sum => .builtin "sum" | .list => .type "list" | .tuple => .type "tuple"
  | .any => .builtin "any" | .all => .builtin "all" | .sorted => .builtin "sorted"
theorem biB (b : Bi) : bootBuiltins (biN b) = some (biF b) := by cases b <;> decide +kernel
theorem biN_name (b : Bi) : biN b ≠ "__name__" := by cases b <;> decide
theorem biN_debug (b : Bi) : (biN b == ("__debug__" : Str)) = false := by cases b <;> decide
section
variable {X : Cx} {so : Addr → Option HO}
theorem call_reprQ (S : SoOk X.K so) (hg : X.A.guards = some []) (hu : X.A.units + 64 < cLine) : CallR X (.builtin "repr") (fun xs H Q => ∃ x d, xs = [x] ∧ Dd so H x d ∧ d.showable = true ∧ d.hasDict = false ∧ d.depth ≤ 60 ∧ d.shown.length ≤ sizeLine ∧ Q (.str d.shown) H) := by
  intro pins s σ H xs us Q I r h
  obtain ⟨x, d, rfl, hd, hs, hn, hp, hz, q⟩ := h
  obtain ⟨u, rfl, rx⟩ := vals1 r
  have D := hd.dp S
  have fin : ∀ (tk : Nat) (t : Tok), EP X pins σ Q (.str d.shown t) { s with toks := tk } := fun tk t => ⟨.str d.shown, H, I.tok tk, ⟨t, rfl⟩, q⟩
  cases D with
  | non =>
    cases rx
    exact PySem.P.repr_of_none (fin _ _)
  | bl b =>
    cases rx
    refine PySem.P.repr_of_bool ?_
    have e := fin (s.toks + 1) s.toks
    unfold PyData.shown at e
    cases b <;> exact e
  | int i =>
    obtain ⟨t, rfl⟩ := rx
    exact PySem.P.repr_of_int (of_decide_eq_true hs) (fin _ _)
  | str y =>
    obtain ⟨t, rfl⟩ := rx
    exact PySem.P.repr_of_str (fin _ _) hz
  | @lst a ys ds sq da =>
    obtain ⟨as, rr⟩ := Dp.reads I _ _ u (.lst sq da) rx
    cases rx
    exact repr_of_reads' rr hs (PyData.noDict_hsm hn) hg (by omega) (fun _ _ e => e) (fun h' t tk hk => ⟨.str _, H, I.kept (t' := tk) hk, ⟨t, rfl⟩, q⟩) hz
  | @tup a ys ds sq da =>
    obtain ⟨as, rr⟩ := Dp.reads I _ _ u (.tup sq da) rx
    cases rx
    exact repr_of_reads' rr hs (PyData.noDict_hsm hn) hg (by omega) (fun _ _ e => e) (fun h' t tk hk => ⟨.str _, H, I.kept (t' := tk) hk, ⟨t, rfl⟩, q⟩) hz
/-- repr of an empty dict -/
theorem call_repr0 (hg : X.A.guards = some []) (hu : X.A.units + 64 < cLine) : CallR X (.builtin "repr") (fun xs H Q => ∃ a, xs = [.ref a] ∧ H a = some (.dK []) ∧ Q (.str "{}") H) := by
  intro pins s σ H xs us Q I r h
  obtain ⟨a, rfl, ha, q⟩ := h
  obtain ⟨u, rfl, rx⟩ := vals1 r
  cases rx
  obtain ⟨_, hsm, vs, kv, o, es, ep, ho, ex, hd, _, hp, _⟩ := I.hok a _ ha
  cases kv
  have he : es.toList = [] := by
    generalize es.toList = l at hp
    cases hp
    rfl
  have r0 : Reads s.heap (.ref a) (.dict []) (a :: [] ++ []) := by
    refine Reads.dict ho ex.1 hd ?_ ?_
    · rw [he]; exact .nil
    · rw [he]; exact .nil
  refine repr_of_reads' r0 (by decide +kernel) (fun _ hm => ?_) hg (by have hdp : (PyData.dict []).depth ≤ 1 := (by decide +kernel); omega) (fun _ _ e => e) (fun h' t tk hk => ⟨.str "{}", H, I.kept (t' := tk) hk, ⟨t, by rw [show (PyData.dict []).shown = ("{}" : Str) from by kernel_rfl]⟩, q⟩) (by decide +kernel)
  have : sysModules = a := by simpa using hm
  rw [this] at hsm
  simp at hsm
theorem call_lenQ (S : SoOk X.K so) : CallR X (.builtin "len") (bLen so) := CallR.imp (CallR.or call_len call_lenD) fun xs H Q h => by
  unfold bLen at h
  split at h
  · rename_i x
    split at h
    · rename_i n e
      cases x with
      | str y =>
        unfold lenV at e
        simp only at e
        split at e
        · rename_i z
          cases e
          exact .inl ⟨_, _, rfl, ⟨z, rfl⟩, h⟩
        · cases e
      | ref p =>
        unfold lenV at e
        simp only at e
        split at e
        · rename_i e1
          cases e
          exact .inl ⟨_, _, rfl, .inl ⟨_, rd_lst S e1, rfl⟩, h⟩
        · rename_i e1
          cases e
          exact .inl ⟨_, _, rfl, .inr ⟨_, rd_tup S e1, rfl⟩, h⟩
        · split at e
          · rename_i e1 _ _ e2
            cases e
            exact .inr ⟨_, _, rfl, rd_dK S e1 e2, h⟩
          · cases e
        · cases e
      | _ => cases e
    · exact h.elim
  · exact h.elim
theorem bind_some {α β : Type} {x : Option α} {f : α → Option β} {b : β} (h : x.bind f = some b) : ∃ a, x = some a ∧ f a = some b := by
  cases x with
  | none => cases h
  | some a => exact ⟨a, rfl, h⟩
theorem ints_at (S : SoOk X.K so) {H : Hp} {x : V} {ns : List Int} (h : (lstV so H x).bind intsV = some ns) : ∃ p, x = .ref p ∧ SqL X.K H p (ns.map V.int) := by
  obtain ⟨xs, h1, h2⟩ := bind_some h
  obtain ⟨p, rfl, q⟩ := lstV_ok S h1
  rw [intsV_map h2] at q
  exact ⟨p, rfl, q⟩
theorem bls_at (S : SoOk X.K so) {H : Hp} {x : V} {ns : List Bool} (h : (lstV so H x).bind blsV = some ns) : ∃ p, x = .ref p ∧ SqL X.K H p (ns.map V.bl) := by
  obtain ⟨xs, h1, h2⟩ := bind_some h
  obtain ⟨p, rfl, q⟩ := lstV_ok S h1
  rw [blsV_map h2] at q
  exact ⟨p, rfl, q⟩
theorem call_no {f : Value} : CallR X f (fun _ _ _ => False) := fun _ _ _ _ _ _ _ _ _ h => h.elim
theorem call_biV (S : SoOk X.K so) (hc : X.calm = true) (hg : X.A.guards = some []) (hu : X.A.units + 64 < cLine) : ∀ b : Bi, CallR X (biF b) (biV so b)
  | .len => call_lenQ S
  | .int => CallR.imp (CallR.or call_int1 call_int_str) fun xs H Q h => by
    change bInt xs H Q at h
    unfold bInt at h
    split at h
    · exact .inl (.inl ⟨_, rfl, h⟩)
    · exact .inl (.inr ⟨_, rfl, h⟩)
    · obtain ⟨z, n, e, q⟩ := h
      exact .inr ⟨_, _, rfl, e, z, q⟩
    · exact h.elim
  | .bool => CallR.imp call_bool1 fun xs H Q h => by
    change bBool xs H Q at h
    unfold bBool at h
    split at h
    · exact .inl ⟨_, rfl, h⟩
    · exact .inr ⟨_, rfl, h⟩
    · exact h.elim
  | .str => CallR.imp call_str_int fun xs H Q h => by
    change bStr xs H Q at h
    unfold bStr at h
    split at h
    · exact ⟨_, rfl, h.1, h.2⟩
    · exact h.elim
  | .repr => CallR.imp (CallR.or (call_reprQ S hg hu) (call_repr0 hg hu)) fun xs H Q h => by
    change bRepr so xs H Q at h
    unfold bRepr at h
    split at h
    · rcases h with ⟨d, q⟩ | ⟨a, rfl, q⟩
      · exact .inl ⟨_, d, rfl, q⟩
      · exact .inr ⟨a, rfl, q⟩
    · exact h.elim
  | .min => CallR.imp (call_min2 hc) fun xs H Q h => by
    change bMin xs H Q at h
    unfold bMin at h
    split at h
    · exact ⟨_, _, rfl, h⟩
    · exact h.elim
  | .max => CallR.imp (call_max2 hc) fun xs H Q h => by
    change bMax xs H Q at h
    unfold bMax at h
    split at h
    · exact ⟨_, _, rfl, h⟩
    · exact h.elim
  | .abs => CallR.imp call_abs fun xs H Q h => by
    change bAbs xs H Q at h
    unfold bAbs at h
    split at h
    · exact ⟨_, rfl, h⟩
    · exact h.elim
  | .sum => CallR.imp (cr_sum hc) fun xs H Q h => by
    change bSum so xs H Q at h
    unfold bSum at h
    split at h
    · split at h
      · rename_i e
        obtain ⟨p, rfl, sq⟩ := ints_at S e
        exact ⟨p, _, rfl, sq, h⟩
      · exact h.elim
    · exact h.elim
  | .any => CallR.imp (cr_any hc) fun xs H Q h => by
    change bAny so xs H Q at h
    unfold bAny at h
    split at h
    · split at h
      · rename_i e
        obtain ⟨p, rfl, sq⟩ := bls_at S e
        exact ⟨p, _, rfl, sq, h⟩
      · exact h.elim
    · exact h.elim
  | .all => CallR.imp (cr_all hc) fun xs H Q h => by
    change bAll so xs H Q at h
    unfold bAll at h
    split at h
    · split at h
      · rename_i e
        obtain ⟨p, rfl, sq⟩ := bls_at S e
        exact ⟨p, _, rfl, sq, h⟩
      · exact h.elim
    · exact h.elim
  | .list => CallR.imp (CallR.nok S call_list_of) fun xs H Q h => by
    change bList so xs H Q at h
    unfold bList at h
    split at h
    · split at h
      · rename_i e
        obtain ⟨p, rfl, sq⟩ := lstV_ok S e
        exact ⟨p, _, rfl, .inl sq, fun l hl nk => h l hl (nok_upd nk)⟩
      · rename_i e
        obtain ⟨p, rfl, sq⟩ := tupV_ok S e
        exact ⟨p, _, rfl, .inr sq, fun l hl nk => h l hl (nok_upd nk)⟩
      · exact h.elim
    · exact h.elim
  | .tuple => CallR.imp (CallR.nok S call_tuple_of) fun xs H Q h => by
    change bTuple so xs H Q at h
    unfold bTuple at h
    split at h
    · split at h
      · rename_i e
        obtain ⟨p, rfl, sq⟩ := lstV_ok S e
        exact ⟨p, _, rfl, .inl ⟨sq, fun l hl nk => h l hl (nok_upd nk)⟩⟩
      · rename_i e
        obtain ⟨p, rfl, sq⟩ := tupV_ok S e
        exact ⟨p, _, rfl, .inr ⟨sq, fun _ => h⟩⟩
      · exact h.elim
    · exact h.elim
  | .sorted => CallR.imp (CallR.nok S cr_sorted) fun xs H Q h => by
    change bSorted so xs H Q at h
    unfold bSorted at h
    split at h
    · split at h
      · rename_i e
        obtain ⟨p, rfl, sq⟩ := ints_at S e
        exact ⟨p, _, rfl, sq, h.1, fun a b h1 h2 h3 nk => h.2 a b h1 h2 h3 (nok_upd nk)⟩
      · exact h.elim
    · exact h.elim
/-- b(e, ..), b a built-in -/
theorem pe_bi {b : Bi} {p pos : Pos} {e : Expr} {es : List Expr} {t : TA} (S : SoOk X.K so) (hc : X.calm = true) (hg : X.A.guards = some []) (hu : X.A.units + 64 < cLine) (hgl : Gl X (biN b)) (hm : X.mg (biN b) = none) (ha : PA X (e :: es) t)
    (he : starEach (e :: es) X.env = (false, eval e X.env) :: starEach es X.env) (hpl : (backTo pos (starEach es X.env)).any (·.1) = false) : PE X (.Call (.Name (biN b) p) (e :: es) [] pos) (fun σ H Q => t σ H fun vs H1 => biV so b vs H1 Q) := by
  have hcb := call_biV S hc hg hu b
  have hv := biB b
  have hn := biN_name b
  have hd := biN_debug b
  cases hk : biF b with
  | builtin i =>
    rw [hk] at hcb hv
    exact pe_callB hcb hgl hm hv ha hn hd he hpl
  | type i =>
    rw [hk] at hcb hv
    exact pe_callTy hcb hgl hm hv ha hn hd he hpl
  | _ => cases b <;> cases hk
end
/-! ### items and slices -/
def idxV (so : Addr → Option HO) : R2 := fun x y H Q => match x, y with
  | .ref p, .int i => (match rd so H p with
    | some (.lst xs) => (match atI xs i with
      | some v => Q v H
      | none => False)
    | some (.tup xs) => (match atI xs i with
      | some v => Q v H
      | none => False)
    | some (.dK kvs) => (match H p with
      | some (.dK _) => (match valV kvs (.inl i : Key) with
        | some v => Q v H
        | none => False)
      | _ => False)
    | _ => False)
  | .ref p, .str z => (match rd so H p with
    | some (.dK kvs) => (match H p with
      | some (.dK _) => (match valV kvs (.inr z : Key) with
        | some v => Q v H
        | none => False)
      | _ => False)
    | _ => False)
  | .str z, .int i => z.length ≤ sizeLine ∧ (match atI z.cps.toList i with
    | some c => Q (.str ⟨#[c]⟩) H
    | none => False)
  | _, _ => False
theorem IxR.imp {X : Cx} {r r' : R2} (h : IxR X r) (q : ∀ x y H Q, r' x y H Q → r x y H Q) : IxR X r' :=
  fun va sl pins s σ H x y v u Q I rx ry z => h va sl pins s σ H x y v u Q I rx ry (q x y H Q z)
/-- an item by a built-in's __getitem__, whatever it is -/
theorem tail_get {P : Program} {w : World} {A : Around} {E : Value → Shared → Prop} {s : Shared} {va sl : Expr} {o i : Value} {T id : String} {Q : Value → Shared → Prop} (hT : s.TypeIs o T) (hl : typeLookup (.type T) "__getitem__" = pure (some (.builtin id)))
    (h : wpAny (model P w) A (getItem o i) Q E s) (hs : subscripted sl false o i = operate [o, i] (getItem o i)) : wpAny (model P w) A (subscriptTail va sl o i) Q E s := by
  unfold subscriptTail
  refine wpAny_bind ?_
  rw [getitemInPython_of_ne hT.not_modules]
  refine wpAny_bind (wpAny_specialOf hT hl ?_)
  refine wpAny_pure (wpAny_bind ?_)
  rw [hs]
  exact wpAny_operating (wpAny_mono h (fun r s3 q => wpAny_bind (wpAny_letTemporaryGo (wpAny_pure q))) fun _ _ x => x)
theorem ix_dict {X : Cx} (hu : X.A.units + 1 < cLine) : IxR X (fun x y H Q => ∃ a v, x = .ref a ∧ DGet H a y (some v) ∧ Q v H) := by
  intro value slice pins s σ H x y v u Q I rx ry h hs
  obtain ⟨a, z, rfl, g, q⟩ := h
  obtain rfl : v = Value.ref a := rx
  exact tail_get (dict_typeIs I g) PySem.F.slot_dict_getitem.lookup (d_getItem hu I g ry fun w' s3 I3 rw' => ⟨z, H, I3, rw', q⟩) hs
theorem ix_idxV {X : Cx} {so : Addr → Option HO} (S : SoOk X.K so) (hu : X.A.units + 1 < cLine) : IxR X (idxV so) := IxR.imp (IxR.or ix_seq (ix_dict hu)) fun x y H Q h => by
  unfold idxV at h
  split at h
  · split at h
    · rename_i e
      split at h
      · rename_i e2
        exact .inl (.inl ⟨_, _, _, _, rfl, rfl, rd_lst S e, e2, h⟩)
      · exact h.elim
    · rename_i e
      split at h
      · rename_i e2
        exact .inl (.inr (.inl ⟨_, _, _, _, rfl, rfl, rd_tup S e, e2, h⟩))
      · exact h.elim
    · rename_i e
      split at h
      · rename_i e1
        split at h
        · rename_i e2
          refine .inr ⟨_, _, rfl, ?_, h⟩
          rw [← e2]
          exact DGet.k (k := Sum.inl _) (rd_dK S e e1)
        · exact h.elim
      · exact h.elim
    · exact h.elim
  · split at h
    · rename_i e
      split at h
      · rename_i e1
        split at h
        · rename_i e2
          refine .inr ⟨_, _, rfl, ?_, h⟩
          rw [← e2]
          exact DGet.k (k := Sum.inr _) (rd_dK S e e1)
        · exact h.elim
      · exact h.elim
    · exact h.elim
  · obtain ⟨z, h⟩ := h
    split at h
    · rename_i e
      exact .inl (.inr (.inr ⟨_, _, _, rfl, rfl, z, e, h⟩))
    · exact h.elim
  · exact h.elim
/-- x[lo:hi] -/
def slcV (so : Addr → Option HO) : V → Option Int → Option Int → Hp → VK → Prop := fun x lo hi H Q => match lstV so H x with
  | some xs => ∀ p, H p = none → so p = none → Q (.ref p) (upd H p (.lst (cutV xs lo hi)))
  | none => False
theorem SlR.imp {X : Cx} {r r' : V → Option Int → Option Int → Hp → VK → Prop} (h : SlR X r) (q : ∀ x lo hi H Q, r' x lo hi H Q → r x lo hi H Q) : SlR X r' :=
  fun pins s σ H x v vl vu lo hi sl Q I rx hs pl pu z => h pins s σ H x v vl vu lo hi sl Q I rx hs pl pu (q x lo hi H Q z)
theorem sl_slcV {X : Cx} {so : Addr → Option HO} (S : SoOk X.K so) : SlR X (slcV so) := SlR.imp (SlR.nok S sl_list) fun x lo hi H Q h => by
  unfold slcV at h
  split at h
  · rename_i e
    obtain ⟨p, rfl, sq⟩ := lstV_ok S e
    exact ⟨p, _, rfl, sq, fun l hl nk => h l hl (nok_upd nk)⟩
  · exact h.elim
/-! ### stores -/
def setV : TSet := fun o i v H Q => match o, i with
  | .ref p, .int k => (match H p with
    | some (.lst xs) => (match ixN xs.length k with
      | some j => Q (upd H p (.lst (xs.set j v)))
      | none => False)
    | some (.dK kvs) => kvs.length < sizeLine ∧ Q (upd H p (.dK (putK kvs (.inl k : Key) v)))
    | _ => False)
  | .ref p, .str z => (match H p with
    | some (.dK kvs) => kvs.length < sizeLine ∧ Q (upd H p (.dK (putK kvs (.inr z : Key) v)))
    | _ => False)
  | _, _ => False
theorem PSet.or {X : Cx} {t t' : TSet} (h : PSet X t) (h' : PSet X t') : PSet X (fun o i v H Q => t o i v H Q ∨ t' o i v H Q) := fun pins s σ H o i v ov iv u Q I ro ri rv z => z.elim (h pins s σ H o i v ov iv u Q I ro ri rv) (h' pins s σ H o i v ov iv u Q I ro ri rv)
theorem PSet.imp {X : Cx} {t t' : TSet} (h : PSet X t) (q : ∀ o i v H Q, t' o i v H Q → t o i v H Q) : PSet X t' := fun pins s σ H o i v ov iv u Q I ro ri rv z => h pins s σ H o i v ov iv u Q I ro ri rv (q o i v H Q z)
theorem set_dict {X : Cx} (hu : X.A.units + 1 < cLine) : PSet X (fun o i v H Q => ∃ a H4, o = .ref a ∧ DPut H a i v H4 ∧ Q H4) := by
  intro pins s σ H o i v ov iv u Q I ro ri rv h
  obtain ⟨a, H4, rfl, g, q⟩ := h
  obtain rfl : ov = Value.ref a := ro
  exact d_setItem hu I g ri rv fun s4 I4 => ⟨H4, I4, q⟩
theorem set_setV {X : Cx} (hu : X.A.units + 1 < cLine) : PSet X setV := PSet.imp (PSet.or set_list (set_dict hu)) fun o i v H Q h => by
  unfold setV at h
  split at h
  · split at h
    · rename_i e
      split at h
      · rename_i e2
        exact .inl ⟨_, _, _, _, rfl, rfl, e, e2, h⟩
      · exact h.elim
    · rename_i e
      exact .inr ⟨_, _, rfl, DPut.k (k := Sum.inl _) e h.1, h.2⟩
    · exact h.elim
  · split at h
    · rename_i e
      exact .inr ⟨_, _, rfl, DPut.k (k := Sum.inr _) e h.1, h.2⟩
    · exact h.elim
  · exact h.elim
end QL
set_option Elab.async false
set_option linter.all false
set_option maxRecDepth 100000
set_option maxHeartbeats 4000000
/-! X0: bases whose __new__ is another class's (KeyError has LookupError's): an own exception is made, its base's __init__ is called. -/
namespace QL
open PySem PySem.F
/-- what is asked of a base's __init__ -/
structure IFacts (B initId : String) : Prop where
  init : Slot B "__init__" initId
  entry : entryFor table initId = some Builtin.«BaseException.__init__»
  split : splitId initId = some (B, "__init__")
  kind : builtinKind initId = some .slot
  row : Manifest.signature? initId = some ⟨.positional, "*", B, .self, [⟨"args", .varPos, false⟩]⟩
  noStar : (B != "*") = true
theorem IFacts.of {B newId initId : String} (F : ExcCallFacts B newId initId) : IFacts B initId := ⟨F.init, F.initEntry, F.initSplit, F.initKind, F.initRow, F.noStar⟩
theorem initKey : IFacts "KeyError" "KeyError.__init__" where
  init := .of (owner := "KeyError") (n := "__init__") (by rw [typeLookup_type, builtinLookup_eq_fast]; kernel_rfl) (by decide +kernel) (by decide +kernel) (by decide +kernel)
    (by first | exact .inl (by decide +kernel) | exact .inr (by decide +kernel)) (by rw [isSubtype_type]; kernel_rfl)
  entry := entryFor_alias (id' := "BaseException.__init__") (by rw [fastTable_eq_tree]; kernel_rfl) (by first | rfl | decide +kernel) (by decide +kernel) (by rw [fastTable_eq_tree]; kernel_rfl)
  split := by kernel_rfl
  kind := by kernel_rfl
  row := by kernel_rfl
  noStar := by decide +kernel
section
variable {M : Model} {A : Around} {E : Value → Shared → Prop} {h : Heap} {g : Array GenState} {d : Drawn} {t : Nat} {os : OsState}
variable {nm q : Str} {C N : Addr} {bs bm bmB : List Value} {hdct : Bool} {sn : List Str} {sub : List Value} {ab : Bool} {col : Option Bool} {dd : Option Addr} {k0 k1 k2 k3 k5 : Option Value} {B B' newId initId initId' : String}
theorem chk_new (F : ExcBaseFacts B newId initId bmB) (hB : bm.contains (.type B) = true) {rest : List Value} {Q : Unit → Shared → Prop}
    (hC : h.get? C = some (excClassObj nm q C N bs bm hdct sn sub ab col dd k0 k1 k2 k3 k5 newId)) (hq : Q () ⟨h, g, d, t, os⟩) : wpAny M A (checkBuiltinCall newId ⟨.ref C :: rest, []⟩) Q E ⟨h, g, d, t, os⟩ := by
  have hcont : (Value.ref C :: bm).contains (.type B) = true := by rw [List.contains_cons, hB, Bool.or_true]
  have hstar := F.noStar
  simp only [checkBuiltinCall, F.newKind, F.newSplit, F.newRow]
  repeat (first | refine wpAny_loadPart_at hC ?_ | (refine wpAny_isSubtype_exc hC ?_; rw [hcont]) | refine wpAny_staticBase_exc hC ?_ | refine wpAny_madeBy_exc hC ?_ | simp only [bne_self_eq_false, Bool.false_eq_true, if_false] | wp_step)
  exact hq
theorem chk_init (F : IFacts B' initId') (hB : bm.contains (.type B') = true) {e : Addr} {oe : Obj} {rest : List Value} {Q : Unit → Shared → Prop}
    (hC : h.get? C = some (excClassObj nm q C N bs bm hdct sn sub ab col dd k0 k1 k2 k3 k5 newId)) (he : h.get? e = some oe) (hcls : oe.cls = .ref C) (hq : Q () ⟨h, g, d, t, os⟩) :
    wpAny M A (checkBuiltinCall initId' ⟨.ref e :: rest, []⟩) Q E ⟨h, g, d, t, os⟩ := by
  have hcB : (Value.ref C :: bm).contains (.type B') = true := by rw [List.contains_cons, hB, Bool.or_true]
  have hshort := F.noStar
  simp only [checkBuiltinCall, F.kind, F.split, F.row]
  repeat (first | (with_reducible refine wpAny_loadPart_at he ?_; rw [hcls]) | with_reducible refine wpAny_loadPart_at hC ?_ | (with_reducible refine wpAny_isSubtype_exc hC ?_; rw [hcB]) | wp_step)
  refine wpAny_onRaise ?_
  rw [show ∀ (a b : String) (n : Nat), Bind.check ⟨.positional, "*", B', .self, [⟨"args", .varPos, false⟩]⟩ a b n (List.map (fun x => x.fst) ({ pos := Value.ref e :: rest } : Args).kw) = pure () from
    fun a b n => check_star_args _ _ _ _ _ _]
  exact wpAny_pure hq
end
section
variable {prog : Program} {w : World} {A : Around} {E : Value → Shared → Prop} {R : Result → Shared → Prop} {h : Heap} {g : Array GenState} {d : Drawn} {t : Nat} {os : OsState}
variable {nm q : Str} {C N : Addr} {bs bm bmB : List Value} {hdct : Bool} {sn : List Str} {sub : List Value} {ab : Bool} {col : Option Bool} {dd : Option Addr} {k0 k1 k2 k3 k5 : Option Value} {B B' newId initId initId' : String}
/-- the classes that such a class lies under -/
structure Und (B : String) (bm : List Value) : Prop where
  b : bm.contains (.type B) = true
  a : bm.contains (.type "AttributeError") = false
  n : bm.contains (.type "NameError") = false
theorem new_u (F : ExcBaseFacts B newId initId bmB) (U : Und B bm) {rest : List Value}
    (hC : h.get? C = some (excClassObj nm q C N bs bm hdct sn sub ab col dd k0 k1 k2 k3 k5 newId))
    (hq : R (.ok (.ret (.ref (h.objs.size + 1)))) ⟨(h.push { cls := .type "tuple", data := .seq rest.toArray }).push
      { cls := .ref C, data := .fields #[.ref h.objs.size, .none, .none, .none, .bool false, .none] }, g, d, t, os⟩) (hrest : rest.length ≤ sizeLine) :
    codeAny (model prog w) A (.builtin newId ⟨.ref C :: rest, []⟩) R ⟨h, g, d, t, os⟩ := by
  have hends := F.ends
  have hcB : (Value.ref C :: bm).contains (.type B) = true := by rw [List.contains_cons, U.b, Bool.or_true]
  have hcA : (Value.ref C :: bm).contains (.type "AttributeError") = false := by rw [List.contains_cons, U.a]; rfl
  have hcN : (Value.ref C :: bm).contains (.type "NameError") = false := by rw [List.contains_cons, U.n]; rfl
  refine codeAny_builtinAt F.entry ?_
  unfold Builtin.«BaseException.__new__»
  refine wpAt_bind ?_
  show wpAt _ _ _ (stack >>= _) _ _ _
  refine wpAt_bind (wpAt_stack fun p below => wpAt_of_wpAny ?_)
  wp_walk
  refine wpAt_of_wpAny ?_
  rw [F.owner]
  repeat (first | with_reducible refine wpAny_madeHere_exc F.canon hC ?_ | with_reducible refine wpAny_loadPart_at hC ?_ | (with_reducible refine wpAny_isSubtype_exc hC ?_; first | rw [hcB] | rw [hcA] | rw [hcN]) | wp_step)
  show R _ _
  rw [Heap.size_push]
  exact hq
theorem tcall_u (F : ExcBaseFacts B newId initId bmB) (U : Und B bm) {rest : List Value} {fI : Addr} {Q : Fin → Shared → Prop}
    (hC : h.get? C = some (excClassObj nm q C N bs bm hdct sn sub ab col dd k0 k1 k2 k3 k5 newId))
    (hi : W.Looks (model prog w) h (typeLookup (.ref C) "__init__") (some (.ref fI))) (hb : ∀ self, W.Looks (model prog w) h (bindSpecial (.ref fI) self) (.ref fI, [self])) (hrest : rest.length ≤ sizeLine)
    (hq : codeAny (model prog w) A (.call (.ref fI) ⟨.ref (h.objs.size + 1) :: rest, []⟩)
      (fun r s' => match r with | .ok (.ret v) => v = .none ∧ Q (.done (.ret (.ref (h.objs.size + 1)))) s' | .ok _ => False | .error e => E e s')
      ⟨(h.push (W.kdv_tup rest)).push (HandSPX.excO C h.objs.size), g, d, t, os⟩) :
    wpAny (model prog w) A (Builtin.«type.__call__» ⟨.ref C :: rest, []⟩) Q E ⟨h, g, d, t, os⟩ := by
  repeat (first | with_reducible refine wpAny_loadPart_at hC ?_ | with_reducible refine wpAny_madeBy_exc hC ?_ | wp_step)
  refine codeAny_call_builtin_code (Code.quiet_builtin _ F.quiet) (chk_new F U.b hC ?_)
  refine new_u F U hC ?_ hrest
  show wpAny _ _ _ _ _ _
  have k : ∀ b o, h.get? b = some o → ((h.push (W.kdv_tup rest)).push (HandSPX.excO C h.objs.size)).get? b = some o := fun b o e => Heap.get?_push_of_some _ (Heap.get?_push_of_some _ e)
  have hC₁ := k _ _ hC
  have hget : ((h.push (W.kdv_tup rest)).push (HandSPX.excO C h.objs.size)).get? (h.objs.size + 1) = some (HandSPX.excO C h.objs.size) := by heap_get
  have hcC : (Value.ref C :: bm).contains (.ref C) = true := by simp
  have i1 := hi.keeps k
  have b1 := (hb (.ref (h.objs.size + 1))).keeps k
  unfold isInstance
  repeat (first | with_reducible refine wpAny_loadPart_at hget ?_ | (with_reducible refine wpAny_isSubtype_exc hC₁ ?_; rw [hcC]) | wp_step)
  show wpAny _ _ (typeLookup (.ref C) _) _ _ _
  refine i1.at ?_
  refine wpAny_holding (wpAny_bind (b1.at ?_))
  refine wpAny_bind (wpAny_call (codeAny_mono hq fun r s' z => ?_))
  rcases r with e | (v | _ | _ | _) <;> first | exact z | exact z.elim | skip
  obtain ⟨rfl, z⟩ := z
  first
    | exact wpAny_pure (wpAny_pure z)
    | (wp_walk; exact z)
theorem call_u (F : ExcBaseFacts B newId initId bmB) (U : Und B bm) {rest : List Value} {fI : Addr}
    (hC : h.get? C = some (excClassObj nm q C N bs bm hdct sn sub ab col dd k0 k1 k2 k3 k5 newId))
    (hi : W.Looks (model prog w) h (typeLookup (.ref C) "__init__") (some (.ref fI))) (hb : ∀ self, W.Looks (model prog w) h (bindSpecial (.ref fI) self) (.ref fI, [self])) (hrest : rest.length ≤ sizeLine)
    (hq : codeAny (model prog w) (A.under (.builtin "type.__call__" ⟨.ref C :: rest, []⟩)) (.call (.ref fI) ⟨.ref (h.objs.size + 1) :: rest, []⟩) (W.InitBack (h.objs.size + 1) R)
      ⟨(h.push (W.kdv_tup rest)).push (HandSPX.excO C h.objs.size), g, d, t, os⟩) :
    codeAny (model prog w) A (.call (.ref C) ⟨rest, []⟩) R ⟨h, g, d, t, os⟩ := by
  have f1 := tc_lookup
  have f2 := tc_bind (.ref C)
  have hTy : (⟨h, g, d, t, os⟩ : Shared).TypeIs (.ref C) "type" := ⟨_, hC, rfl⟩
  refine codeAny_of_tree ?_
  show wpAny _ _ (callAny (.ref C) _) _ _ _
  repeat (any_goals (first | assumption | with_reducible refine wpAny_loadPart_at hC ?_ | wp_step))
  refine ⟨rfl, ?_⟩
  refine codeAny_call_builtin_at (Code.quiet_builtin _ (by decide +kernel)) entry_typeCall (wpAny_check_type_call_sub hC (tcall_u F U hC hi hb hrest ?_))
  refine codeAny_mono hq fun r s' z => ?_
  rcases r with e | (v | _ | _ | _) <;> exact z
theorem init_u (F : IFacts B' initId') (hB : bm.contains (.type B') = true) {e t0 : Addr} {rest : List Value}
    (hC : h.get? C = some (excClassObj nm q C N bs bm hdct sn sub ab col dd k0 k1 k2 k3 k5 newId)) (he : h.get? e = some (HandSPX.excO C t0)) (hrest : rest.length ≤ sizeLine)
    (hq : ∀ h' t1, (∀ b o, b ≠ e → h.get? b = some o → h'.get? b = some o) → h'.get? e = some (HandSPX.excO C t1) → R (.ok (.ret .none)) ⟨h', g, d, t, os⟩) :
    codeAny (model prog w) A (.call (.builtin initId') ⟨.ref e :: rest, []⟩) R ⟨h, g, d, t, os⟩ := by
  refine codeAny_call_builtin F.init.plain F.entry (chk_init F hB hC he rfl ?_)
  wp_walk
  refine hq _ h.objs.size (fun b o hb ho => ?_) ?_
  · rw [Heap.get?_update_other _ _ (Ne.symm hb)]
    exact Heap.get?_push_of_some _ ho
  · rw [Heap.get?_update_self _ (Heap.get?_push_of_some _ he) rfl]
    rfl
end
end QL
set_option Elab.async false
set_option linter.all false
set_option maxRecDepth 100000
set_option maxHeartbeats 4000000
/-! X1: own exception classes over four of Python's own, whose __init__ calls the base's and stores one field, or none: made. -/
namespace QL
open PySem PySem.Spec L2
open PyProof.Rows hiding St
/-- the bases -/
inductive Xb where
  | ve | ie | oe | re | ke
  deriving DecidableEq
def Xb.nm : Xb → String
  | .ve => "ValueError" | .ie => "IndexError" | .oe => "OverflowError" | .re => "RuntimeError" | .ke => "KeyError"
def Xb.st : Xb → Str
  | .ve => "ValueError" | .ie => "IndexError" | .oe => "OverflowError" | .re => "RuntimeError" | .ke => "KeyError"
def Xb.nw : Xb → String
  | .ve => "ValueError.__new__" | .ie => "IndexError.__new__" | .oe => "OverflowError.__new__" | .re => "RuntimeError.__new__" | .ke => "LookupError.__new__"
def Xb.it : Xb → String
  | .ve => "ValueError.__init__" | .ie => "IndexError.__init__" | .oe => "OverflowError.__init__" | .re => "RuntimeError.__init__" | .ke => "KeyError.__init__"
def Xb.bm : Xb → List Value
  | .ve => [.type "ValueError", .type "Exception", .type "BaseException", .type "object"]
  | .ie => [.type "IndexError", .type "LookupError", .type "Exception", .type "BaseException", .type "object"]
  | .oe => [.type "OverflowError", .type "ArithmeticError", .type "Exception", .type "BaseException", .type "object"]
  | .re => [.type "RuntimeError", .type "Exception", .type "BaseException", .type "object"]
  | .ke => [.type "KeyError", .type "LookupError", .type "Exception", .type "BaseException", .type "object"]
theorem Xb.fnew : ∀ b : Xb, ∃ (B initId : String) (bm : List Value), ExcBaseFacts B b.nw initId bm ∧ Und B b.bm
  | .ve => ⟨_, _, _, PySem.F.excBase_ValueError, by decide +kernel, by decide +kernel, by decide +kernel⟩
  | .ie => ⟨_, _, _, PySem.F.excBase_IndexError, by decide +kernel, by decide +kernel, by decide +kernel⟩
  | .oe => ⟨_, _, _, PySem.F.excBase_OverflowError, by decide +kernel, by decide +kernel, by decide +kernel⟩
  | .re => ⟨_, _, _, PySem.F.excBase_RuntimeError, by decide +kernel, by decide +kernel, by decide +kernel⟩
  | .ke => ⟨_, _, _, PySem.F.excBase_LookupError, by decide +kernel, by decide +kernel, by decide +kernel⟩
theorem Xb.fini : ∀ b : Xb, IFacts b.nm b.it
  | .ve => .of PySem.F.excBase_ValueError.toExcCallFacts
  | .ie => .of PySem.F.excBase_IndexError.toExcCallFacts
  | .oe => .of PySem.F.excBase_OverflowError.toExcCallFacts
  | .re => .of PySem.F.excBase_RuntimeError.toExcCallFacts
  | .ke => initKey
theorem Xb.has (b : Xb) : b.bm.contains (.type b.nm) = true := by cases b <;> decide +kernel
theorem Und.of {B : String} {bm bm' : List Value} (U : Und B bm') (h : ∀ X : String, bm.contains (.type X) = bm'.contains (.type X)) : Und B bm := ⟨by rw [h]; exact U.b, by rw [h]; exact U.a, by rw [h]; exact U.n⟩
theorem Xb.passes (b : Xb) (self : Value) : refuseLoop self "__setattr__" b.bm = pure () := by
  cases b <;> kernel_rfl
theorem Xb.obj (b : Xb) : b.bm.contains (.type "object") = true := by cases b <;> decide +kernel
theorem Xb.typ (b : Xb) : typeOf (.type b.nm) = pure (.type "type") := by cases b <;> kernel_rfl
theorem Xb.boot (b : Xb) : bootBuiltins b.st = some (.type b.nm) := by cases b <;> decide +kernel
theorem Xb.stub (b : Xb) : Manifest.isStub b.nm = false := by cases b <;> decide +kernel
theorem Xb.hand (b : Xb) : PySem.W.handedIn (.builtin b.it) = true := by cases b <;> decide +kernel
section
open Builtin Builtin.ObjectAttr
variable {prog : Program} {w : World} {A : Around} {E : Value → Shared → Prop} {R : Result → Shared → Prop} {hp : Heap} {g : Array GenState} {d : Drawn} {t : Nat} {os : OsState}
/-- self.f = v, the first store into an exception of an own class over b -/
theorem osa_x (b : Xb) {K : PySem.W.Frag} {name : Str} {tk : Tok} {v : Value} {x C : Addr} {fv : Array Value} {cd : ClassData} {bm : List Value}
    (X : K.In hp) (hx : hp.get? x = some { cls := .ref C, data := .fields fv }) (hcd : PySem.W.clsIn K C = some cd) (hmr0 : cd.mro = .ref C :: bm) (hm : PySem.W.excTail b.bm bm = true) (hh : cd.hasDict = true) (ha : PySem.W.findIn K (.ref C) name = some none)
    (hq : ∀ h' tk' dx, (∀ b o, b ≠ x → hp.get? b = some o → h'.get? b = some o) → hp.objs.size ≤ dx → dx ≠ x → h'.get? x = some { cls := .ref C, dict := some dx, data := .fields fv } →
      h'.Ns1 dx (fun y => if y = name then some v else none) → R (.ok (.ret .none)) ⟨h', g, d, tk', os⟩) :
    codeAny (model prog w) A (.call (.builtin "object.__setattr__") ⟨[.ref x, .str name tk, v], []⟩) R ⟨hp, g, d, t, os⟩ := by
  have I : PySem.W.InstAt hp x { cls := .ref C, data := .fields fv } C none := ⟨hx, rfl, rfl, trivial⟩
  have SF := F.store_object
  have hm1 : PySem.W.excTail b.bm cd.mro = true := by rw [hmr0]; exact hm
  have ne : cd.mro.isEmpty = false := by rw [hmr0]; rfl
  have hob : cd.mro.contains (.type "object") = true := (PySem.W.excTail_contains "object" _ hm1).trans b.obj
  have hxs : x ≠ hp.objs.size := Nat.ne_of_lt (Heap.lt_size hx)
  have sub : PySem.W.Looks (model prog w) hp (isInstance (.ref x) (.type "object")) true := I.type.andThen (PySem.W.looks_mroIn X (by unfold PySem.W.mroIn; rw [hcd, Option.bind_some, if_neg (by rw [ne]; decide), hob]))
  refine codeAny_call_builtin SF.slot.plain SF.entry (@PySem.W.check_slot (model prog w) _ _ ⟨hp, g, d, t, os⟩ "object.__setattr__" "object" "__setattr__" (.ref x) [.str name tk, v] [] _ SF.kind SF.split sub (SF.args (.ref x) (.str name tk) v) ?_)
  have hmr : PySem.W.Looks (model prog w) hp (mroOf (.ref C)) cd.mro := (PySem.W.looks_clsIn X hcd).andThen .now
  have L3 : PySem.W.Looks (model prog w) hp (storeTaker? none) none := .now
  have hcls : PySem.W.Looks (model prog w) hp (classData C) cd := PySem.W.looks_clsIn X hcd
  rw [PySem.W.osa_eq, refuse_eq]
  refine wpAny_bind (wpAny_bind (I.type.at (wpAny_bind (hmr.at ?_))))
  rw [PySem.W.excTail_pass (.ref x) (b.passes (.ref x)) _ hm1]
  refine wpAny_pure (wpAny_bind (I.type.at (wpAny_bind ((PySem.W.looks_findIn X ha).at (wpAny_bind (L3.at ?_))))))
  show wpAny _ _ (storeInOwnDict (.ref x) (.ref C) (.str name tk) name v false) _ _ _
  clear hmr0 hm1 hob ne sub hmr
  obtain ⟨nm, bs, mro, ns, qn, hd, sn, sb, ab, col, del⟩ := cd
  dsimp only at hh
  subst hh
  unfold storeInOwnDict ownDictForStores
  repeat (first | with_reducible refine HandSPX.store_in_new ?_ ?_ | with_reducible refine wpAny_loadPart_at hx ?_ | with_reducible refine hcls.at ?_ | wp_step)
  · exact ⟨_, #[], _, (Heap.get?_update_ne _ _ _ _ hxs.symm).trans (Heap.get?_push_at rfl rfl), rfl, fun e he => absurd he (by simp), fun _ => rfl⟩
  · intro h' tk' hn' hs
    have hx₁ : (hp.push { cls := .type "dict", data := .dict #[] }).get? x = some { cls := .ref C, data := .fields fv } := Heap.get?_push_of_some _ hx
    refine hq h' tk' hp.objs.size (fun b o hb ho => ?_) (Nat.le_refl _) hxs.symm ?_ hn'
    · exact (hs.2 b (Nat.ne_of_lt (Heap.lt_size ho))).trans ((Heap.get?_update_ne _ _ _ _ hb).trans (Heap.get?_push_of_some _ ho))
    · exact (hs.2 x hxs).trans (Heap.get?_update_self _ hx₁ rfl)
end
/-- what the written part says of an own exception class over b -/
structure XcC (K : PySem.W.Frag) (C : Addr) (b : Xb) : Prop where
  cls : ∃ nm q N bs bm sn sub ab col dd k0 k1 k2 k3 k5, K.lookup C = some (excClassObj nm q C N bs bm true sn sub ab col dd k0 k1 k2 k3 k5 b.nw) ∧ PySem.W.excTail b.bm bm = true
  sa : PySem.W.findIn K (.ref C) "__setattr__" = some (some (.builtin "object.__setattr__"))
  exC : PySem.W.subIn K (.ref C) (.type "BaseException") = some true
  tyC : PySem.W.typeIn K (.ref C) = some (.type "type")
  kC : PySem.W.keepIn K (.ref C) = true
/-- a class object as the head writes it -/
def xcB (K : PySem.W.Frag) (C : Addr) (b : Xb) : Bool := (match K.lookup C with
  | some ⟨.type "type", _, .cls cd, sl⟩ => (match cd.mro, sl.toList with
    | .ref C' :: bm, [_, _, _, _, some (.builtin n), _] => C' == C && n == b.nw && !cd.hasDel && cd.hasDict && PySem.W.excTail b.bm bm
    | _, _ => false)
  | _ => false) && decide (PySem.W.findIn K (.ref C) "__setattr__" = some (some (.builtin "object.__setattr__"))) && decide (PySem.W.subIn K (.ref C) (.type "BaseException") = some true) && decide (PySem.W.typeIn K (.ref C) = some (.type "type")) && PySem.W.keepIn K (.ref C)
theorem xcB_ok {K : PySem.W.Frag} {C : Addr} {b : Xb} (h : xcB K C b = true) : XcC K C b := by
  unfold xcB at h
  simp only [Bool.and_eq_true, decide_eq_true_eq] at h
  obtain ⟨⟨⟨⟨h1, h2⟩, h3⟩, h4⟩, h5⟩ := h
  refine ⟨?_, h2, h3, h4, h5⟩
  split at h1
  · rename_i dd cd sl ho
    split at h1
    · rename_i C' bm k0 k1 k2 k3 n k5 hm hs
      simp only [Bool.and_eq_true, beq_iff_eq, Bool.not_eq_true'] at h1
      obtain ⟨⟨⟨⟨rfl, rfl⟩, hdel⟩, hdi⟩, ht⟩ := h1
      obtain ⟨nm, bs, mro, ns, qn, hd, sn, sub, ab, col, del⟩ := cd
      dsimp only at hm hdel hdi
      subst hm hdel hdi
      have hsl : sl = #[k0, k1, k2, k3, some (.builtin b.nw), k5] := by
        obtain ⟨l⟩ := sl
        simp only at hs
        rw [hs]
      subst hsl
      exact ⟨nm, qn, ns, bs, bm, sn, sub, ab, col, dd, k0, k1, k2, k3, k5, ho, ht⟩
    · cases h1
  · cases h1
section
variable {X : Cx} {pins : List (Addr × Obj)} {σ : St} {H : Hp} {s : Shared} {a C dx : Addr} {f : Str} {y : V} {u : Value} {b : Xb} {E : Value → Shared → Prop} {A : Around}
theorem ost_x {Q : Unit → Shared → Prop} (T : XcC X.K C b) (I : Inv X pins σ H s) (e : H a = some (exo a C none)) (hno : PySem.W.findIn X.K (.ref C) f = some none) (ry : RelV y u)
    (h : ∀ dx s', H dx = none → dx ≠ a → Inv X pins σ (upd (upd H dx (exd dx [(f, y)])) a (exo a C (some dx))) s' → Q () s') : wpAny (model X.prog X.w) A (setAttr (.ref a) f u) Q E s := by
  obtain ⟨nm, q, N, bs, bm, sn, sub, ab, col, dd, k0, k1, k2, k3, k5, hC, hbm⟩ := T.cls
  have hcl : PySem.W.clsIn X.K C = some { name := nm, bases := bs, mro := .ref C :: bm, ns := N, qualname := q, hasDict := true, slotNames := sn, subclasses := sub, abstract := ab, collection := col, hasDel := false } := by unfold PySem.W.clsIn; rw [hC] <;> rfl
  obtain ⟨t1, ho⟩ := exo_at I.hok e
  obtain ⟨hp, g, d, t, os⟩ := s
  refine PySem.W.set_plain I.kIn (ox := { cls := .ref C, dict := none, data := .fields #[.ref t1, .none, .none, .none, .bool false, .none] }) (od := none) ⟨ho, rfl, rfl, trivial⟩ T.sa ?_
  refine osa_x b I.kIn ho hcl rfl hbm rfl hno (fun h' tk' dx k dn dne hx hn => ?_)
  have hnd : H dx = none := I.hok.fresh dn
  have nd : ∀ {b : Addr} {o : Obj}, hp.get? b = some o → b ≠ dx := fun {b o} q => Nat.ne_of_lt (Nat.lt_of_lt_of_le (Heap.lt_size q) dn)
  have na : ∀ {b : Addr}, H b = none → b ≠ a := fun {b} n z => by
    rw [z, e] at n
    cases n
  have Un1 : Un X.fs [] H (upd (upd H dx (exd dx [(f, y)])) a (exo a C (some dx))) hp h' := {
    keep := fun b o q n _ _ => k b o (na n) q
    slot := fun b o q n _ _ => ⟨o.slots, k b o (na n) q⟩
    free := fun b o q n _ => by rw [upd_ne (na n), upd_ne (nd q)]; exact n
    there := fun b o q _ => by
      by_cases hb : b = a
      · exact ⟨_, by rw [hb]; exact hx⟩
      · exact ⟨o, k b o hb q⟩
    tups := fun b xs q => by rw [upd_ne (at_ne e q exo_tup), upd_ne (ne_of_none q hnd)]; exact q
    frzs := fun b o v q => by rw [upd_ne (at_ne e q exo_frz), upd_ne (ne_of_none q hnd)]; exact q
    tbls := fun b ps q => ⟨#[], by rw [upd_ne (at_ne e q exo_tbl), upd_ne (ne_of_none q hnd), q]; simp⟩ }
  refine h dx _ hnd dne (I.un (t' := tk') Un1 fun b o q => ?_)
  by_cases hb : b = a
  · subst hb
    rw [upd_same] at q
    cases q
    exact exo_ok hx
  · rw [upd_ne hb] at q
    by_cases hd : b = dx
    · subst hd
      rw [upd_same] at q
      cases q
      exact exd_ok hn (relO_put (fs := []) ry fun g => True.intro)
    · rw [upd_ne hd] at q
      exact (I.hok b o q).stay (fun c v hc z => k c v (by
          rcases hc with hc | hc
          · rw [hc]
            exact hb
          · exact at_ne e hc exo_own) z)
        (fun c hc => by rw [upd_ne (at_ne e hc exo_own), upd_ne (ne_of_none hc hnd)]; exact hc) (fun c xs hc => by rw [upd_ne (at_ne e hc exo_tup), upd_ne (ne_of_none hc hnd)]; exact hc)
theorem oinit_x {us : List Value} {Q : Value → Shared → Prop} (T : XcC X.K C b) (I : Inv X pins σ H s) (e : H a = some (exo a C none)) (hl : us.length ≤ sizeLine) (h : ∀ s', Inv X pins σ H s' → Q .none s') :
    wpAny (model X.prog X.w) A (call (.builtin b.it) (.ref a :: us)) Q E s := by
  obtain ⟨nm, q, N, bs, bm, sn, sub, ab, col, dd, k0, k1, k2, k3, k5, hC, hbm⟩ := T.cls
  obtain ⟨t1, ho⟩ := exo_at I.hok e
  obtain ⟨hp, g, d, t, os⟩ := s
  refine wpAny_call (init_u b.fini (by rw [PySem.W.excTail_contains _ bm hbm]; exact b.has) (I.kIn _ _ hC) ho hl fun h' t2 k hx => ?_)
  have J := I.write (t' := t) (x := a) (e := a) (o := exo a C none) (by rw [e]; exact True.intro) (.inl rfl) k ⟨_, hx⟩ (exo_ok hx)
  have eu : upd H a (exo a C none) = H := by
    funext b
    by_cases hb : b = a
    · rw [hb, upd_same, e]
    · rw [upd_ne hb]
  rw [eu] at J
  exact h _ J
end
section
variable {X : Cx} {o e : Expr} {es : List Expr} {to te : TE} {ta : TA} {f : Str} {p p' p1 p2 pos : Pos} {b : Xb}
def tXi (K : PySem.W.Frag) (b : Xb) (ta : TA) : TE := fun σ H Q => ta σ H fun vs H1 => ∃ (a C : Addr) (ws : List V), vs = .ref a :: ws ∧ ws.length ≤ 1000 ∧ XcC K C b ∧ H1 a = some (exo a C none) ∧ Q .non H1
theorem pe_xi {pl : Sem Bool} (hg : Gl X b.st) (hm : X.mg b.st = none) (vV : PySem.W.findCls X.K (.type b.nm) (.type "type") "__init__" = some (.val (.builtin b.it))) (ha : PA X (e :: es) ta)
    (hc : eval (.Call (.Attribute (.Name b.st p1) "__init__" p2) (e :: es) [] pos) X.env = (do
      let ov ← eval (.Name b.st p1) X.env
      standAt p2.atName
      let (f, first) ← holding [ov] (getMethod ov "__init__" pl)
      callWith pos f first (backTo pos (starEach (e :: es) X.env)) (backToKw pos (keywordEach [] X.env))))
    (he : starEach (e :: es) X.env = (false, eval e X.env) :: starEach es X.env) (hpl : (backTo pos (starEach es X.env)).any (·.1) = false) :
    PE X (.Call (.Attribute (.Name b.st p1) "__init__" p2) (e :: es) [] pos) (tXi X.K b ta) := by
  refine ⟨fun pins s σ H Q I h => ?_⟩
  refine PySem.W.methodCall_KW (ld_blt I hg hm b.boot ?_ (by cases b <;> decide) (by cases b <;> decide)) hc
  obtain ⟨m, fr⟩ := I.fr
  refine PySem.W.method_type fr I.ok.mod.kin b.typ b.stub vV b.hand ?_
  show wpAny _ _ (callWith pos (Value.builtin b.it) [] (backTo pos (starEach (e :: es) X.env)) []) _ _ _
  refine PyProof.Rows.callWith_method1 (thn (ha.run pos pins _ σ H _ (I.tok _) h) fun us s1 ⟨vs, H1, I1, r1, a, C, ws, ev, hl, T, ea, q⟩ => ?_) he hpl
  subst ev
  cases r1 with
  | @cons _ u0 _ ur ra rw' =>
    obtain rfl : u0 = Value.ref a := ra
    have hlen : ur.length ≤ sizeLine := by
      rw [← Paired.length rw', sizeLine_eq]
      omega
    exact oinit_x T I1 ea hlen fun s' J => ⟨.non, H1, J, rfl, q⟩
def tXs (K : PySem.W.Frag) (b : Xb) (f : Str) (to te : TE) : TS := fun D σ H => te σ H fun y H1 => to σ H1 fun x H2 => ∃ a C : Addr, x = .ref a ∧ XcC K C b ∧ PySem.W.findIn K (.ref C) f = some none ∧
  H2 a = some (exo a C none) ∧ ∀ dx, H2 dx = none → dx ≠ a → D.nx σ (upd (upd H2 dx (exd dx [(f, y)])) a (exo a C (some dx)))
theorem ps_xs (ho : PE X o to) (he : PE X e te) (hs : swapsWith e (some (.Attribute o f p')) pos.line X.env = pure false) : PS X (.Assign [.Attribute o f p'] e pos) (tXs X.K b f to te) := by
  refine ⟨fun pins s σ H D I h => ?_⟩
  refine plainObj_wpAny_Assign_Attribute (thn (he.run pins s σ H _ I h) fun v s1 ⟨y, H1, I1, r1, q1⟩ => thn (ho.run pins s1 σ H1 _ I1 q1) fun u s2 ⟨x, H2, I2, r2, a, C, ex, T, hno, ea, q⟩ => ?_) hs
  subst ex
  obtain rfl : u = Value.ref a := r2
  exact ost_x T I2 ea hno r1 fun dx s' n ne J => ⟨σ, _, J, q dx n ne⟩
end
end QL
set_option Elab.async false
set_option linter.all false
set_option maxRecDepth 100000
set_option maxHeartbeats 4000000
/-! X2: an own exception made: as a value, and raised. -/
namespace QL
open PySem PySem.Spec L2
open PyProof.Rows hiding St
/-- an exception of the class at C, its dict at d, as a value -/
def exV (a C : Addr) (d : Option Addr) : HO := .ext fun h => ∃ (oe : Obj) (vs : Array Value), h.get? a = some oe ∧ Zc (.ref C) d oe ∧ oe.data = .fields vs
theorem exV_ok {P : Program} {w : World} {H : Hp} {h : Heap} {a C : Addr} {d : Option Addr} {oe : Obj} {vs : Array Value} (e : h.get? a = some oe) (z : Zc (.ref C) d oe) (dt : oe.data = .fields vs) : ObjOk P w H h a (exV a C d) :=
  ⟨⟨oe, vs, e, z, dt⟩, ⟨oe, e⟩, fun _ _ ⟨o, v, q, r⟩ k => ⟨o, v, k o q, r⟩⟩
theorem exV_at {P : Program} {w : World} {H : Hp} {h : Heap} {a C : Addr} {d : Option Addr} (hok : HOk P w H h) (e : H a = some (exV a C d)) : ∃ (oe : Obj) (vs : Array Value), h.get? a = some oe ∧ Zc (.ref C) d oe ∧ oe.data = .fields vs := by
  have x : ObjOk P w H h a (.ext fun h => ∃ (oe : Obj) (vs : Array Value), h.get? a = some oe ∧ Zc (.ref C) d oe ∧ oe.data = .fields vs) := hok a _ e
  exact x.1
theorem upd_upd {H : Hp} {a : Addr} {o u : HO} : upd (upd H a o) a u = upd H a u := by
  funext b
  by_cases h : b = a
  · rw [h, upd_same, upd_same]
  · rw [upd_ne h, upd_ne h, upd_ne h]
theorem upd_comm {H : Hp} {a b : Addr} {o u : HO} (h : a ≠ b) : upd (upd H a o) b u = upd (upd H b u) a o := by
  funext c
  by_cases h1 : c = b
  · subst h1
    rw [upd_same, upd_ne (Ne.symm h), upd_same]
  · rw [upd_ne h1]
    by_cases h2 : c = a
    · rw [h2, upd_same, upd_same]
    · rw [upd_ne h2, upd_ne h2, upd_ne h1]
/-- the call of the base's __init__ is a method's call -/
def xiE (e : Expr) (p1 p2 pos : Pos) (b : Xb) (as : List Expr) : Prop := e = .Call (.Attribute (.Name b.st p1) "__init__" p2) as [] pos ∧ ∃ pl : Env → Sem Bool, ∀ env : Env, eval (.Call (.Attribute (.Name b.st p1) "__init__" p2) as [] pos) env = (do
      let ov ← eval (.Name b.st p1) env
      standAt p2.atName
      let (f, first) ← holding [ov] (getMethod ov "__init__" (pl env))
      callWith pos f first (backTo pos (starEach as env)) (backToKw pos (keywordEach [] env)))
/-- the body of such an __init__ -/
def xiB (b : Xb) : Option Str → List Stmt → Prop
  | some f, l => ∃ p1 p2 p3 p4 k pos pe p5 p6 p7 pa txt e, xiE e p1 p2 pos b [.Name "self" p3, .Constant (.str txt) k p4] ∧ l = [.Expr e pe, .Assign [.Attribute (.Name "self" p5) f p6] (.Name f p7) pa]
  | none, l => ∃ p1 p2 p3 p4 k pos pe txt e, xiE e p1 p2 pos b [.Name "self" p3, .Constant (.str txt) k p4] ∧ l = [.Expr e pe]
def xiN : Option Str → List Str
  | some f => ["self", f]
  | none => ["self"]
/-- its names -/
def xiS (b : Xb) : Option Str → Scope → Bool
  | some f, sc => (sc.names.lookup ("self" : Str) == some .local) && (sc.names.lookup f == some .local) && (sc.names.lookup b.st == some .globalImplicit) && okf f
  | none, sc => (sc.names.lookup ("self" : Str) == some .local) && (sc.names.lookup b.st == some .globalImplicit)
where okf (f : Str) : Bool := !(f == ("__debug__" : Str)) && !(f == ("__classdict__" : Str)) && !(f == ("self" : Str))
/-- what such an __init__ does -/
def spX (K : PySem.W.Frag) (b : Xb) : Option Str → Sp
  | some f => fun vs H Q _ => ∃ (a C : Addr) (v : V), vs = [.ref a, v] ∧ XcC K C b ∧ PySem.W.findIn K (.ref C) f = some none ∧ H a = some (exo a C none) ∧ ∀ dx, H dx = none → dx ≠ a → Q .non (upd (upd H dx (exd dx [(f, v)])) a (exo a C (some dx)))
  | none => fun vs H Q _ => ∃ a C : Addr, vs = [.ref a] ∧ XcC K C b ∧ H a = some (exo a C none) ∧ Q .non H
theorem xi_fng {P : Program} {w : World} {K : PySem.W.Frag} {mg : Str → Option Value} {base : Heap} {b : Xb} {f : Option Str} {fI : Addr} {name qual : Str} {params : Arguments} {body : List Stmt} {scope : Scope} {dV kV doc pm cdv ct oc : Value} {an od : Option Addr}
    {osl : Array (Option Value)} (lk : K.lookup fI = some ⟨oc, od, .func (PySem.W.fnOf name qual params body scope dV kV doc pm an cdv ct), osl⟩) (hcd : PySem.W.codeIn K cdv qual = true) (S : FnScope (xiN f) (xiN f) scope) (hb : xiB b f body) (hs : xiS b f scope = true)
    (hm : mg b.st = none) (vV : PySem.W.findCls K (.type b.nm) (.type "type") "__init__" = some (.val (.builtin b.it))) :
    FnG P w K mg base 1 fI (PySem.W.fnOf name qual params body scope dV kV doc pm an cdv ct) (xiN f) (spX K b f) := by
  refine fng_of lk hcd S (fun vs H Q E h => ?_) fun A outer s H vs Q E hg hr h => ?_
  · cases f with
    | some f => obtain ⟨a, C, v, rfl, _⟩ := h; rfl
    | none => obtain ⟨a, C, rfl, _⟩ := h; rfl
  · cases f with
    | some f =>
      obtain ⟨p1, p2, p3, p4, k, pos, pe, p5, p6, p7, pa, txt, e0, ⟨rfl, pl, hev⟩, rfl⟩ := hb
      unfold xiS xiS.okf at hs
      simp only [Bool.and_eq_true, beq_iff_eq, Bool.not_eq_true'] at hs
      obtain ⟨⟨⟨h1, h2⟩, h3⟩, ⟨h4, h5⟩, h6⟩ := hs
      generalize hX : cxOf (L2.CX P w) P w K mg base (xiN (some f)) qual scope fI cdv A outer s H E = X
      have hN : X.N = xiN (some f) := by subst hX; rfl
      have hsc : X.env.scope = scope := by subst hX; rfl
      have hK : X.K = K := by subst hX; rfl
      have hmg : X.mg = mg := by subst hX; rfl
      have self : ∀ {p : Pos}, PE X (.Name "self" p) (tVar 0) := fun {p} => pe_var (by rw [hN]; rfl) (.inl (by rw [hsc]; exact h1)) (by decide) (by decide)
      have fld : ∀ {p : Pos}, PE X (.Name f p) (tVar 1) := fun {p} => pe_var (by rw [hN]; rfl) (.inl (by rw [hsc]; exact h2)) h4 h5
      have e1 : PE X (.Call (.Attribute (.Name b.st p1) "__init__" p2) [.Name "self" p3, .Constant (.str txt) k p4] [] pos) (tXi X.K b (tCons (tVar 0) (tCons (fun _ H Q => Q (.str txt) H) tNil))) := by
        refine pe_xi ?_ ?_ ?_ (pa_cons self (pa_cons pe_str pa_nil rfl) rfl) (hev X.env) (by rfl) (by rfl)
        · show X.env.scope.names.lookup b.st = _
          rw [hsc]; exact h3
        · rw [hmg]; exact hm
        · rw [hK]; exact vV
      refine ⟨_, pss_cons (ps_expr e1 rfl) (pss_cons (ps_xs (b := b) (f := f) (p' := p6) (pos := pa) self fld rfl) pss_nil), ?_⟩
      obtain ⟨a, C, v, rfl, T, hno, ea, q⟩ := h
      rw [← hK] at T hno
      refine ⟨_, rfl, a, C, [V.str txt], rfl, by simp, T, ea, ?_⟩
      exact ⟨_, rfl, _, rfl, a, C, rfl, T, hno, ea, fun dx n ne => q dx n ne⟩
    | none =>
      obtain ⟨p1, p2, p3, p4, k, pos, pe, txt, e0, ⟨rfl, pl, hev⟩, rfl⟩ := hb
      unfold xiS at hs
      simp only [Bool.and_eq_true, beq_iff_eq] at hs
      obtain ⟨h1, h3⟩ := hs
      generalize hX : cxOf (L2.CX P w) P w K mg base (xiN none) qual scope fI cdv A outer s H E = X
      have hN : X.N = xiN none := by subst hX; rfl
      have hsc : X.env.scope = scope := by subst hX; rfl
      have hK : X.K = K := by subst hX; rfl
      have hmg : X.mg = mg := by subst hX; rfl
      have self : ∀ {p : Pos}, PE X (.Name "self" p) (tVar 0) := fun {p} => pe_var (by rw [hN]; rfl) (.inl (by rw [hsc]; exact h1)) (by decide) (by decide)
      have e1 : PE X (.Call (.Attribute (.Name b.st p1) "__init__" p2) [.Name "self" p3, .Constant (.str txt) k p4] [] pos) (tXi X.K b (tCons (tVar 0) (tCons (fun _ H Q => Q (.str txt) H) tNil))) := by
        refine pe_xi ?_ ?_ ?_ (pa_cons self (pa_cons pe_str pa_nil rfl) rfl) (hev X.env) (by rfl) (by rfl)
        · show X.env.scope.names.lookup b.st = _
          rw [hsc]; exact h3
        · rw [hmg]; exact hm
        · rw [hK]; exact vV
      refine ⟨_, pss_cons (ps_expr e1 rfl) pss_nil, ?_⟩
      obtain ⟨a, C, rfl, T, ea, q⟩ := h
      rw [← hK] at T
      exact ⟨_, rfl, a, C, [V.str txt], rfl, by simp, T, ea, q⟩
end QL
set_option Elab.async false
set_option linter.all false
set_option maxRecDepth 100000
set_option maxHeartbeats 4000000
/-! X3: own exceptions: made as values, raised, asked by isinstance, their fields read. -/
namespace QL
open PySem PySem.Spec L2
open PyProof.Rows hiding St
/-- what isinstance and fields ask of an own exception class -/
structure XvC (K : PySem.W.Frag) (C : Addr) : Prop where
  cl : (PySem.W.clsIn K C).isSome = true
  ga : PySem.W.findIn K (.ref C) "__getattribute__" = some (some (.builtin "BaseException.__getattribute__"))
  gg : PySem.W.findIn K (.ref C) "__getattr__" = some none
  exC : PySem.W.subIn K (.ref C) (.type "BaseException") = some true
  ca : PySem.W.findIn K (.ref C) "__class__" = some (some (.builtin "object.__class__"))
  cg : PySem.W.specialIn K (.builtin "object.__class__") "__get__" = some (some (.builtin "getset_descriptor.__get__"))
  ct : PySem.W.takesIn K (.builtin "object.__class__") = some true
  mo : PySem.W.mroIn K C (.type "object") = some true
  hd : PySem.W.hasDictIn K C = true
def xvB (K : PySem.W.Frag) (C : Addr) : Bool :=
  (PySem.W.clsIn K C).isSome && decide (PySem.W.findIn K (.ref C) "__getattribute__" = some (some (.builtin "BaseException.__getattribute__"))) && decide (PySem.W.findIn K (.ref C) "__getattr__" = some none) &&
  decide (PySem.W.subIn K (.ref C) (.type "BaseException") = some true) && decide (PySem.W.findIn K (.ref C) "__class__" = some (some (.builtin "object.__class__"))) &&
  decide (PySem.W.specialIn K (.builtin "object.__class__") "__get__" = some (some (.builtin "getset_descriptor.__get__"))) && decide (PySem.W.takesIn K (.builtin "object.__class__") = some true) &&
  decide (PySem.W.mroIn K C (.type "object") = some true) && PySem.W.hasDictIn K C
theorem xvB_ok {K : PySem.W.Frag} {C : Addr} (h : xvB K C = true) : XvC K C := by
  unfold xvB at h
  simp only [Bool.and_eq_true, decide_eq_true_eq] at h
  obtain ⟨⟨⟨⟨⟨⟨⟨⟨h1, h2⟩, h3⟩, h4⟩, h5⟩, h6⟩, h7⟩, h8⟩, h9⟩ := h
  exact ⟨h1, h2, h3, h4, h5, h6, h7, h8, h9⟩
/-- the fields of an exception with this dict -/
def Xd (H : Hp) (d : Option Addr) (fs : List (Str × V)) : Prop := match d with
  | some dd => H dd = some (.xd fs)
  | none => fs = []
/-- at a: an exception of the class at C with the fields fs -/
def Xat (H : Hp) (a C : Addr) (fs : List (Str × V)) : Prop := ∃ d : Option Addr, H a = some (exV a C d) ∧ Xd H d fs
section
variable {X : Cx} {pins : List (Addr × Obj)} {σ : St} {H : Hp} {s : Shared} {a C : Addr} {fs : List (Str × V)}
theorem Xat.inst (I : Inv X pins σ H s) (h : Xat H a C fs) : ∃ (ox : Obj) (od : Option Obj), PySem.W.InstAt s.heap a ox C od ∧ ∀ f v, fs.lookup f = some v → ∃ o u, od = some o ∧ PySem.W.lookIn f o = some (some u) ∧ RelV v u := by
  obtain ⟨d, ha, hd⟩ := h
  obtain ⟨oe, vs, e, z, dt⟩ := exV_at I.hok ha
  have hn : PySem.W.notCls oe = true := by unfold PySem.W.notCls; rw [dt] <;> rfl
  cases d with
  | none =>
    refine ⟨oe, none, ⟨e, z.1, hn, by rw [z.2]; trivial⟩, fun f v q => ?_⟩
    rw [show fs = [] from hd] at q
    cases q
  | some dd =>
    have hx : ObjOk X.prog X.w H s.heap dd (.xd fs) := I.hok dd _ hd
    obtain ⟨mA, hns, hr⟩ := hx
    have hns' := hns
    obtain ⟨od, _, _, ho, _⟩ := hns'
    refine ⟨oe, some od, ⟨e, z.1, hn, by rw [z.2]; exact ho⟩, fun f v q => ?_⟩
    obtain ⟨od', ho', hl⟩ := lookIn_ns hns
    rw [ho] at ho'
    cases ho'
    obtain ⟨u, hu, ru⟩ := RelO.some_of (v := v) (o := mA f) (by rw [← q]; exact hr f)
    exact ⟨od, u, rfl, by rw [hl, hu], ru⟩
end
section
variable {X : Cx}
theorem call_isx : CallR X (.builtin "isinstance") (fun xs H Q => ∃ (a C : Addr) (fs : List (Str × V)) (c : V) (cv : Value) (b : Bool), xs = [.ref a, c] ∧ Xat H a C fs ∧ XvC X.K C ∧ (∀ u, RelV c u → u = cv) ∧ PySem.W.kitOne X.K (.ref C) cv = some b ∧ Q (.bl b) H) := by
  intro pins s σ H xs us Q I r h
  obtain ⟨a, C, fs, c, cv, b, rfl, ha, T, hcv, e, q⟩ := h
  obtain ⟨u0, u1, rfl, rx, rt⟩ := vals2 r
  cases rx
  have ec := hcv _ rt
  subst ec
  obtain ⟨ox, od, J, _⟩ := ha.inst I
  exact PySem.W.kia_one (PySem.W.kitx_exc T.cl T.ga T.gg T.exC T.ca T.cg T.ct T.mo) I.kIn J e (fun z => nomatch z) fun tk => ⟨.bl b, H, I.kept (t' := tk) fun _ _ z => z, rfl, q⟩
/-- x.f by the value x -/
theorem xf_get {pins : List (Addr × Obj)} {σ : St} {H : Hp} {s : Shared} {a C : Addr} {fs : List (Str × V)} {n : Str} {v : V} {Q : VK} {b : Bool} (I : Inv X pins σ H s) (ha : Xat H a C fs) (T : XvC X.K C) (hno : PySem.W.findIn X.K (.ref C) n = some none) (l : fs.lookup n = some v) (q : Q v H) :
    wpAny (model X.prog X.w) X.A (getAttr (.ref a) n b) (EP X pins σ Q) X.xe s := by
  obtain ⟨ox, od, J, hf⟩ := ha.inst I
  obtain ⟨o, u, rfl, hl, ru⟩ := hf n v l
  exact HandSPX.exc_get I.kIn J T.ga T.gg T.exC (PySem.W.findObj_own T.hd hno rfl hl) (handed_of ru) ⟨v, H, I.tok _, ru, q⟩
end
/-! ### made -/
theorem exd_frz {e : Addr} {fs : List (Str × V)} {o : Obj} {u : HO} : exd e fs ≠ .frz o u := fun z => by
  have z' : HO.ext _ = HO.frz o u := z
  cases z'
theorem exd_tbl {e : Addr} {fs : List (Str × V)} {ps : Array Value} : exd e fs ≠ .tbl ps := fun z => by
  have z' : HO.ext _ = HO.tbl ps := z
  cases z'
/-- an exception being made becomes a value -/
theorem retrack {X : Cx} {pins : List (Addr × Obj)} {σ : St} {H : Hp} {s : Shared} {a d C : Addr} {fs : List (Str × V)} (I : Inv X pins σ H s) (ea : H a = some (exo a C (some d))) (ed : H d = some (exd d fs)) (hda : d ≠ a) :
    Inv X pins σ (upd (upd H d (.xd fs)) a (exV a C (some d))) s := by
  obtain ⟨t1, hoe⟩ := exo_at I.hok ea
  obtain ⟨mA, hns, rel⟩ := exd_at I.hok ed
  have na : ∀ {b : Addr}, H b = none → b ≠ a := fun {b} n z => by rw [z, ea] at n; cases n
  have nd : ∀ {b : Addr}, H b = none → b ≠ d := fun {b} n z => by rw [z, ed] at n; cases n
  have U : Un X.fs [] H (upd (upd H d (.xd fs)) a (exV a C (some d))) s.heap s.heap := {
    keep := fun b o q n _ _ => q
    slot := fun b o q n _ _ => ⟨o.slots, q⟩
    free := fun b o q n _ => by rw [upd_ne (na n), upd_ne (nd n)]; exact n
    there := fun b o q _ => ⟨o, q⟩
    tups := fun b xs q => by rw [upd_ne (at_ne ea q exo_tup), upd_ne (at_ne ed q exd_tup)]; exact q
    frzs := fun b o v q => by rw [upd_ne (at_ne ea q exo_frz), upd_ne (at_ne ed q exd_frz)]; exact q
    tbls := fun b ps q => ⟨#[], by rw [upd_ne (at_ne ea q exo_tbl), upd_ne (at_ne ed q exd_tbl), q]; simp⟩ }
  have J := I.un (t' := s.toks) U fun b o q => ?_
  · exact J
  by_cases hb : b = a
  · subst hb
    rw [upd_same] at q
    cases q
    exact exV_ok hoe ⟨rfl, rfl⟩ rfl
  · rw [upd_ne hb] at q
    by_cases hd : b = d
    · subst hd
      rw [upd_same] at q
      cases q
      exact ⟨mA, hns, rel⟩
    · rw [upd_ne hd] at q
      exact (I.hok b o q).stay (fun c v hc z => z) (fun c hc => by rw [upd_ne (at_ne ea hc exo_own), upd_ne (at_ne ed hc exd_own)]; exact hc) (fun c xs hc => by rw [upd_ne (at_ne ea hc exo_tup), upd_ne (at_ne ed hc exd_tup)]; exact hc)
theorem retrack0 {X : Cx} {pins : List (Addr × Obj)} {σ : St} {H : Hp} {s : Shared} {a C : Addr} (I : Inv X pins σ H s) (ea : H a = some (exo a C none)) : Inv X pins σ (upd H a (exV a C none)) s := by
  obtain ⟨t1, hoe⟩ := exo_at I.hok ea
  have na : ∀ {b : Addr}, H b = none → b ≠ a := fun {b} n z => by rw [z, ea] at n; cases n
  have U : Un X.fs [] H (upd H a (exV a C none)) s.heap s.heap := {
    keep := fun b o q n _ _ => q
    slot := fun b o q n _ _ => ⟨o.slots, q⟩
    free := fun b o q n _ => by rw [upd_ne (na n)]; exact n
    there := fun b o q _ => ⟨o, q⟩
    tups := fun b xs q => by rw [upd_ne (at_ne ea q exo_tup)]; exact q
    frzs := fun b o v q => by rw [upd_ne (at_ne ea q exo_frz)]; exact q
    tbls := fun b ps q => ⟨#[], by rw [upd_ne (at_ne ea q exo_tbl), q]; simp⟩ }
  have J := I.un (t' := s.toks) U fun b o q => ?_
  · exact J
  by_cases hb : b = a
  · subst hb
    rw [upd_same] at q
    cases q
    exact exV_ok hoe ⟨rfl, rfl⟩ rfl
  · rw [upd_ne hb] at q
    exact (I.hok b o q).stay (fun c v hc z => z) (fun c hc => by rw [upd_ne (at_ne ea hc exo_own)]; exact hc) (fun c xs hc => by rw [upd_ne (at_ne ea hc exo_tup)]; exact hc)
/-- an own exception class: all that is asked of it -/
structure Xk (P : Program) (w : World) (K : PySem.W.Frag) (mg : Str → Option Value) (base : Heap) (x : Str) (C : Addr) (f : Option Str) : Prop where
  at_ : mg x = some (.ref C)
  nm : (x == ("__debug__" : Str)) = false
  xv : XvC K C
  no : ∀ g, f = some g → PySem.W.findIn K (.ref C) g = some none
  it : ∃ (b : Xb) (fI : Addr) (fd : FuncData), XcC K C b ∧ PySem.W.findIn K (.ref C) "__init__" = some (some (.ref fI)) ∧ PySem.W.typeIn K (.ref fI) = some (.type "function") ∧ FnG P w K mg base 1 fI fd (xiN f) (spX K b f) ∧ Binds K fd (xiN f) []
section
variable {X : Cx} {x : Str} {C : Addr} {f : Option Str} {pins : List (Addr × Obj)} {σ : St} {H : Hp} {s : Shared} {us : List Value} {vs : List V}
/-- what the new exception leaves -/
def mkxH (H : Hp) (C : Addr) (f : Option Str) (vs : List V) (B : V → Hp → Prop) : Prop := match f, vs with
  | some g, [v] => ∀ a d, H a = none → H d = none → d ≠ a → B (.ref a) (upd (upd H d (.xd [(g, v)])) a (exV a C (some d)))
  | none, [] => ∀ a, H a = none → B (.ref a) (upd H a (exV a C none))
  | _, _ => False
theorem mkx_call {Q : VK} (T : Xk X.prog X.w X.K X.mg X.base x C f) (hr : Room 2 X.A) (hg : X.A.guards = some []) (I : Inv X pins σ H s) (r : Vals vs us) (h : mkxH H C f vs Q) :
    wpAny (model X.prog X.w) X.A (call (.ref C) us) (EP X pins σ Q) X.xe s := by
  obtain ⟨b, fI, fd, xc, iC, tI, F1, hb⟩ := T.it
  obtain ⟨nm, q, N, bs, bm, sn, sub, ab, col, dd, k0, k1, k2, k3, k5, hC, hbm⟩ := xc.cls
  obtain ⟨hp, g, dr, tk, os⟩ := s
  have hsz : hp.objs.size ≤ hp.objs.size + 1 := Nat.le_succ _
  have hn : H (hp.objs.size + 1) = none := I.hok.fresh hsz
  have kk : ∀ b o, hp.get? b = some o → ((hp.push (PySem.W.kdv_tup us)).push (PySem.HandSPX.excO C hp.objs.size)).get? b = some o := fun b o e => Heap.get?_push_of_some _ (Heap.get?_push_of_some _ e)
  have hget : ((hp.push (PySem.W.kdv_tup us)).push (PySem.HandSPX.excO C hp.objs.size)).get? (hp.objs.size + 1) = some (PySem.HandSPX.excO C hp.objs.size) := by heap_get
  have I2 : Inv X pins σ (upd H (hp.objs.size + 1) (exo (hp.objs.size + 1) C none)) ⟨(hp.push (PySem.W.kdv_tup us)).push (PySem.HandSPX.excO C hp.objs.size), g, dr, tk, os⟩ :=
    I.laid (t' := tk) (a := hp.objs.size + 1) (o := exo (hp.objs.size + 1) C none) (h' := (hp.push (PySem.W.kdv_tup us)).push (PySem.HandSPX.excO C hp.objs.size)) kk hsz (exo_ok hget)
  have r2 : Vals (V.ref (hp.objs.size + 1) :: vs) (Value.ref (hp.objs.size + 1) :: us) := .cons rfl r
  have hgu : (X.A.under (.builtin "type.__call__" ⟨.ref C :: us, []⟩)).guards = some [] := by
    simp [Around.under, Code.guards, Code.isGuard, pushGuards, guardIds, hg]
  have run : ∀ (Qi : VK), spX X.K b f (V.ref (hp.objs.size + 1) :: vs) (upd H (hp.objs.size + 1) (exo (hp.objs.size + 1) C none)) Qi (fun _ _ _ => False) → us.length ≤ sizeLine →
      (∀ H' s', Inv X pins σ H' s' → Qi .non H' → EP X pins σ Q (.ref (hp.objs.size + 1)) s') → (∀ v H', Qi v H' → v = .non) → wpAny (model X.prog X.w) X.A (call (.ref C) us) (EP X pins σ Q) X.xe ⟨hp, g, dr, tk, os⟩ := fun Qi hq hus hfin hnon => by
    have hl : (Value.ref (hp.objs.size + 1) :: us ++ []).length = (xiN f).length := by
      have e := r2.length
      rw [F1.len _ _ _ _ hq] at e
      rw [List.append_nil]
      exact e.symm
    have hbb := hb ⟨(hp.push (PySem.W.kdv_tup us)).push (PySem.HandSPX.excO C hp.objs.size), g, dr, tk, os⟩ (Value.ref (hp.objs.size + 1) :: us) I2.kIn hl
    rw [List.append_nil] at hbb
    obtain ⟨_, _, _, FN, UN⟩ := b.fnew
    refine wpAny_call (call_u FN (UN.of fun Y => PySem.W.excTail_contains Y bm hbm) (I.kIn _ _ hC) (PySem.W.looks_findIn I.kIn iC) (fun self => PySem.W.bind_fn I.kIn self tI) hus
      (codeAny_mono (F1.run _ X.stack _ _ ⟨Value.ref (hp.objs.size + 1) :: us, []⟩ (Value.ref (hp.objs.size + 1) :: us) _ Qi (fun _ _ _ => False) hgu (hr.make C us []) (I2.env0.make C us []) hbb r2 hq) fun r s' hq' => ?_))
    match r, hq' with
    | .error er, hq' =>
      obtain ⟨_, _, _, _, _, _, _, _, _, _, _, _, z⟩ := hq'
      exact z.elim
    | .ok (.ret u), hq' =>
      obtain ⟨v, H', I3, rv, q3⟩ := I2.after hq'
      have ev := hnon _ _ q3
      subst ev
      exact ⟨rv, hfin H' s' I3 q3⟩
    | .ok .next, hq' => exact hq'.elim
    | .ok .brk, hq' => exact hq'.elim
    | .ok .cont, hq' => exact hq'.elim
  match f, vs, h with
  | some fn, [v], h =>
    have hus : us.length ≤ sizeLine := by rw [← Paired.length r, sizeLine_eq]; simp
    refine run (fun u H2 => u = .non ∧ ∃ dx, H dx = none ∧ dx ≠ hp.objs.size + 1 ∧ H2 = upd (upd H dx (exd dx [(fn, v)])) (hp.objs.size + 1) (exo (hp.objs.size + 1) C (some dx))) ?_ hus ?_ fun _ _ z => z.1
    · refine ⟨_, C, v, rfl, xc, T.no fn rfl, upd_same, fun dx hdx ne => ⟨rfl, dx, ?_, ne, ?_⟩⟩
      · rw [upd_ne ne] at hdx
        exact hdx
      · rw [upd_comm (Ne.symm ne), upd_upd]
    · rintro H' s' I3 ⟨_, dx, hdx, ne, rfl⟩
      refine ⟨.ref (hp.objs.size + 1), _, retrack I3 upd_same (by rw [upd_ne ne, upd_same]) ne, rfl, ?_⟩
      have e : upd (upd (upd (upd H dx (exd dx [(fn, v)])) (hp.objs.size + 1) (exo (hp.objs.size + 1) C (some dx))) dx (.xd [(fn, v)])) (hp.objs.size + 1) (exV (hp.objs.size + 1) C (some dx)) = upd (upd H dx (.xd [(fn, v)])) (hp.objs.size + 1) (exV (hp.objs.size + 1) C (some dx)) := by
        rw [upd_comm (Ne.symm ne), upd_upd, upd_upd]
      rw [e]
      exact h (hp.objs.size + 1) dx hn hdx ne
  | none, [], h =>
    have hus : us.length ≤ sizeLine := by rw [← Paired.length r, sizeLine_eq]; simp
    refine run (fun u H2 => u = .non ∧ H2 = upd H (hp.objs.size + 1) (exo (hp.objs.size + 1) C none)) ⟨_, C, rfl, xc, upd_same, rfl, rfl⟩ hus ?_ fun _ _ z => z.1
    rintro H' s' I3 ⟨_, rfl⟩
    refine ⟨.ref (hp.objs.size + 1), _, retrack0 I3 upd_same, rfl, ?_⟩
    rw [upd_upd]
    exact h _ hn
/-- made, to be raised -/
theorem mkx_raise {g : Str} {v : V} {Q : XK} (T : Xk X.prog X.w X.K X.mg X.base x C (some g)) (hr : Room 2 X.A) (hg : X.A.guards = some []) (I : Inv X pins σ H s) (r : Vals [v] us) (h : ∀ d, H d = none → X.K.lookup d = none → Q (.ref C) (some d) (upd H d (.xd [(g, v)]))) :
    wpAny (model X.prog X.w) X.A (call (.ref C) us) (MkP X pins σ Q) X.xe s := by
  obtain ⟨b, fI, fd, xc, iC, tI, F1, hb⟩ := T.it
  obtain ⟨nm, q, N, bs, bm, sn, sub, ab, col, dd, k0, k1, k2, k3, k5, hC, hbm⟩ := xc.cls
  obtain ⟨hp, gg, dr, tk, os⟩ := s
  have hsz : hp.objs.size ≤ hp.objs.size + 1 := Nat.le_succ _
  have hn : H (hp.objs.size + 1) = none := I.hok.fresh hsz
  have kk : ∀ b o, hp.get? b = some o → ((hp.push (PySem.W.kdv_tup us)).push (PySem.HandSPX.excO C hp.objs.size)).get? b = some o := fun b o e => Heap.get?_push_of_some _ (Heap.get?_push_of_some _ e)
  have hget : ((hp.push (PySem.W.kdv_tup us)).push (PySem.HandSPX.excO C hp.objs.size)).get? (hp.objs.size + 1) = some (PySem.HandSPX.excO C hp.objs.size) := by heap_get
  have I2 : Inv X pins σ (upd H (hp.objs.size + 1) (exo (hp.objs.size + 1) C none)) ⟨(hp.push (PySem.W.kdv_tup us)).push (PySem.HandSPX.excO C hp.objs.size), gg, dr, tk, os⟩ :=
    I.laid (t' := tk) (a := hp.objs.size + 1) (o := exo (hp.objs.size + 1) C none) (h' := (hp.push (PySem.W.kdv_tup us)).push (PySem.HandSPX.excO C hp.objs.size)) kk hsz (exo_ok hget)
  have r2 : Vals [V.ref (hp.objs.size + 1), v] (Value.ref (hp.objs.size + 1) :: us) := .cons rfl r
  have hgu : (X.A.under (.builtin "type.__call__" ⟨.ref C :: us, []⟩)).guards = some [] := by
    simp [Around.under, Code.guards, Code.isGuard, pushGuards, guardIds, hg]
  have hus : us.length ≤ sizeLine := by rw [← Paired.length r, sizeLine_eq]; simp
  have hl : (Value.ref (hp.objs.size + 1) :: us ++ []).length = (xiN (some g)).length := by
    have e := r2.length
    rw [List.append_nil]
    exact e.symm
  have hbb := hb ⟨(hp.push (PySem.W.kdv_tup us)).push (PySem.HandSPX.excO C hp.objs.size), gg, dr, tk, os⟩ (Value.ref (hp.objs.size + 1) :: us) I2.kIn hl
  rw [List.append_nil] at hbb
  have hq : spX X.K b (some g) [V.ref (hp.objs.size + 1), v] (upd H (hp.objs.size + 1) (exo (hp.objs.size + 1) C none)) (fun u H2 => u = .non ∧ ∃ dx, H dx = none ∧ dx ≠ hp.objs.size + 1 ∧ H2 = upd (upd H dx (exd dx [(g, v)])) (hp.objs.size + 1) (exo (hp.objs.size + 1) C (some dx))) (fun _ _ _ => False) := by
    refine ⟨_, C, v, rfl, xc, T.no g rfl, upd_same, fun dx hdx ne => ⟨rfl, dx, ?_, ne, ?_⟩⟩
    · rw [upd_ne ne] at hdx
      exact hdx
    · rw [upd_comm (Ne.symm ne), upd_upd]
  obtain ⟨_, _, _, FN, UN⟩ := b.fnew
  refine wpAny_call (call_u FN (UN.of fun Y => PySem.W.excTail_contains Y bm hbm) (I.kIn _ _ hC) (PySem.W.looks_findIn I.kIn iC) (fun self => PySem.W.bind_fn I.kIn self tI) hus
    (codeAny_mono (F1.run _ X.stack _ _ ⟨Value.ref (hp.objs.size + 1) :: us, []⟩ (Value.ref (hp.objs.size + 1) :: us) _ _ (fun _ _ _ => False) hgu (hr.make C us []) (I2.env0.make C us []) hbb r2 hq) fun r s' hq' => ?_))
  match r, hq' with
  | .error er, hq' =>
    obtain ⟨_, _, _, _, _, _, _, _, _, _, _, _, z⟩ := hq'
    exact z.elim
  | .ok (.ret u), hq' =>
    obtain ⟨v', H2, os2, bare2, un2, hok2, rv, ev, dx, hdx, ne, eH⟩ := hq'
    subst ev
    subst eH
    obtain ⟨h2, g2, d2, t2, os'⟩ := s'
    refine ⟨rv, mk_end (raises_own xc.exC xc.tyC) I hsz kk un2 hok2 os2 bare2 (fs := [(g, v)]) (d := dx) upd_same (by rw [upd_ne ne, upd_same]) hdx ?_⟩
    have e : upd (del (upd (upd H dx (exd dx [(g, v)])) (hp.objs.size + 1) (exo (hp.objs.size + 1) C (some dx))) (hp.objs.size + 1)) dx (.xd [(g, v)]) = upd H dx (.xd [(g, v)]) := by
      funext c
      by_cases h1 : c = dx
      · subst h1
        rw [upd_same, upd_same]
      · rw [upd_ne h1, upd_ne h1]
        by_cases h2 : c = hp.objs.size + 1
        · rw [h2, del_same, hn]
        · rw [del_ne h2, upd_ne h2, upd_ne h1]
    rw [e]
    refine h dx hdx ?_
    cases q : X.K.lookup dx with
    | none => rfl
    | some o =>
      have J : Inv X pins σ (upd (upd H dx (exd dx [(g, v)])) (hp.objs.size + 1) (exo (hp.objs.size + 1) C (some dx))) ⟨h2, g2, d2, t2, os'⟩ := I2.call' (ch := []) os2 un2 hok2 bare2 (fun b z => absurd z (by simp))
      have z := (J.bs dx o (J.mod.kin dx o q)).2
      rw [upd_ne ne, upd_same] at z
      cases z
  | .ok .next, hq' => exact hq'.elim
  | .ok .brk, hq' => exact hq'.elim
  | .ok .cont, hq' => exact hq'.elim
variable {e : Expr} {es : List Expr} {ta : TA} {p pos : Pos}
/-- X(e) as a value -/
theorem pe_mkx (T : Xk X.prog X.w X.K X.mg X.base x C f) (hr : Room 2 X.A) (hg : X.A.guards = some []) (hgl : Gl X x) (ha : PA X (e :: es) ta) (he : starEach (e :: es) X.env = (false, eval e X.env) :: starEach es X.env) (hpl : (backTo pos (starEach es X.env)).any (·.1) = false) :
    PE X (.Call (.Name x p) (e :: es) [] pos) (fun σ H Q => ta σ H fun vs H1 => mkxH H1 C f vs Q) := by
  obtain ⟨b, fI, fd, xc, _⟩ := T.it
  refine ⟨fun pins s σ H Q I h => ?_⟩
  refine wpAny_Call_Name_kw (ld_glob I hgl T.at_ ?_ T.nm)
  refine PySem.W.callWith_K (h₀ := X.base) I.ok.mod.kin xc.kC (thn (ha.run pos pins s σ H _ I h) fun us s1 ⟨vs, H1, I1, r1, q1⟩ => ⟨I1.kIn, ?_⟩) he hpl
  exact mkx_call T hr hg I1 r1 q1
theorem pe_mkx0 (T : Xk X.prog X.w X.K X.mg X.base x C none) (hr : Room 2 X.A) (hg : X.A.guards = some []) (hgl : Gl X x) :
    PE X (.Call (.Name x p) [] [] pos) (fun σ H Q => mkxH H C none [] Q) := by
  obtain ⟨b, fI, fd, xc, _⟩ := T.it
  refine ⟨fun pins s σ H Q I h => ?_⟩
  refine wpAny_Call_Name_kw (ld_glob I hgl T.at_ ?_ T.nm)
  exact PySem.W.callWith_K0 I.kIn xc.kC (mkx_call (us := []) T hr hg I .nil h)
theorem ps_rai {g : Str} {W : WX} {rp : Pos} (hc : X.calm = true) (tk : Takes X W) (T : Xk X.prog X.w X.K X.mg X.base x C (some g)) (hr : Room 2 X.A) (hg : X.A.guards = some []) (hgl : Gl X x) (ha : PA X (e :: es) ta) (he : starEach (e :: es) X.env = (false, eval e X.env) :: starEach es X.env) (hpl : (backTo pos (starEach es X.env)).any (·.1) = false) :
    PS X (.Raise (some (.Call (.Name x p) (e :: es) [] pos)) none rp) (fun _ σ H => ta σ H fun vs H1 => ∃ v, vs = [v] ∧ ∀ d, H1 d = none → X.K.lookup d = none → W (.ref C) (some d) σ (upd H1 d (.xd [(g, v)]))) := by
  refine ps_raise (t := fun σ H Q => ta σ H fun vs H1 => ∃ v, vs = [v] ∧ ∀ d, H1 d = none → X.K.lookup d = none → Q (.ref C) (some d) (upd H1 d (.xd [(g, v)]))) hc tk fun pins s σ H Q I h => ?_
  obtain ⟨b, fI, fd, xc, _⟩ := T.it
  refine wpAny_Call_Name_kw (ld_glob I hgl T.at_ ?_ T.nm)
  refine PySem.W.callWith_K (h₀ := X.base) I.ok.mod.kin xc.kC (thn (ha.run pos pins s σ H _ I h) fun us s1 ⟨vs, H1, I1, r1, q1⟩ => ⟨I1.kIn, ?_⟩) he hpl
  obtain ⟨v, rfl, q1⟩ := q1
  exact mkx_raise T hr hg I1 r1 q1
end
end QL
set_option Elab.async false
set_option linter.all false
set_option maxRecDepth 100000
set_option maxHeartbeats 4000000
/-! X4: try: .. except X as e: y = e: the exception is kept as a value. -/
namespace QL
open PySem PySem.Spec L2
open PyProof.Rows hiding St
/-- what an except clause names -/
inductive PXt (X : Cx) : Expr → List Value → Prop
  | one {x : Str} {c : Value} {p : Pos} : Names X x c → PXt X (.Name x p) [c]
  | two {x y : Str} {c d : Value} {p q r : Pos} {k : Nat} : Names X x c → Names X y d → PXt X (.Tuple [.Name x p, .Name y q] k r) [c, d]
  | three {x y z : Str} {c d e : Value} {p q r o : Pos} {k : Nat} : Names X x c → Names X y d → Names X z e → PXt X (.Tuple [.Name x p, .Name y q, .Name z o] k r) [c, d, e]
theorem name_at {X Y : Cx} {pins : List (Addr × Obj)} {σ : St} {H : Hp} {s : Shared} {x : Str} {c : Value} {p : Pos} {Q : Value → Shared → Prop} {E : Value → Shared → Prop} (hc : Names Y x c) (I : Inv Y pins σ H s) (q : Q c s) :
    wpAny (model Y.prog Y.w) Y.A (eval (.Name x p) Y.env) Q E s := by
  obtain ⟨hg, hdbg, hm | ⟨hm, hv, hnn⟩⟩ := hc
  · exact ld_glob I hg hm q hdbg
  · exact ld_blt I hg hm hv q hnn hdbg
theorem test_at {Y : Cx} {pins : List (Addr × Obj)} {σ : St} {H : Hp} {s : Shared} {T : Expr} {cs : List Value} {cls : Value} {a : Addr} {b : Bool} {Q : Bool → Shared → Prop} {E : Value → Shared → Prop} (t : PXt Y T cs) (I : Inv Y pins σ H s)
    (LT : PySem.W.Looks (model Y.prog Y.w) s.heap (typeOf (.ref a)) cls) (hx : PySem.W.exmAny Y.K cls cs = some b) (q : ∀ h', (∀ b o, s.heap.get? b = some o → h'.get? b = some o) → Q b { s with heap := h' }) :
    wpAny (model Y.prog Y.w) Y.A (eval T Y.env) (fun c s1 => wpAny (model Y.prog Y.w) Y.A (excMatches (.ref a) c) Q E s1) E s := by
  cases t with
  | one hc =>
    refine name_at (X := Y) hc I ?_
    obtain ⟨b1, d1, h1, h2, h3⟩ := PySem.W.exmAny_cons hx
    cases h2
    rw [Bool.or_false] at h3
    subst h3
    exact (PySem.W.exm_one I.kIn LT h1).here (q s.heap fun _ _ z => z)
  | @two x y c d p qq r k hc hd =>
    refine wpAny_Tuple ?_
    refine wpAny_items_cons (name_at (X := Y) hc I ?_)
    refine wpAny_items_cons (name_at (X := Y) hd I ?_)
    refine wpAny_items_nil ⟨by size_fits, ?_⟩
    have kp : ∀ q o, s.heap.get? q = some o → (s.heap.push { cls := .type "tuple", data := .seq [c, d].toArray }).get? q = some o := fun _ _ z => Heap.get?_push_of_some _ z
    exact (PySem.W.exm_tup2 (I.kIn.keeps kp) (LT.keeps kp) (Heap.get?_push_size s.heap rfl) hx).here (q _ kp)
  | @three x y z c d e p qq r o k hc hd he =>
    refine wpAny_Tuple ?_
    refine wpAny_items_cons (name_at (X := Y) hc I ?_)
    refine wpAny_items_cons (name_at (X := Y) hd I ?_)
    refine wpAny_items_cons (name_at (X := Y) he I ?_)
    refine wpAny_items_nil ⟨by size_fits, ?_⟩
    have kp : ∀ q o, s.heap.get? q = some o → (s.heap.push { cls := .type "tuple", data := .seq [c, d, e].toArray }).get? q = some o := fun _ _ z => Heap.get?_push_of_some _ z
    exact (PySem.W.exm_tup3 (I.kIn.keeps kp) (LT.keeps kp) (Heap.get?_push_size s.heap rfl) hx).here (q _ kp)
theorem flyZ_keeps {B h h' : Heap} {l : List Env} {e : Addr} {Z : Obj → Prop} (R : HandSPX.FlyingZ B l e Z h) (k : ∀ b o, h.get? b = some o → h'.get? b = some o) : HandSPX.FlyingZ B l e Z h' := by
  obtain ⟨f1, f2, f3, oe, ws, T, oT, ts, he, hc, hd, h1, hn, hne, hT, hdT, h3⟩ := R
  exact ⟨fun b o q => k b o (f1 b o q), f2, f3.of_keeps fun b o q _ => ⟨o, k b o q, rfl⟩, oe, ws, T, oT, ts, k _ _ he, hc, hd, h1, hn, hne, k _ _ hT, hdT, h3⟩
/-- an object that stands untracked, and is new since the entry, is tracked -/
theorem track {X : Cx} {pins : List (Addr × Obj)} {σ : St} {H : Hp} {s : Shared} {a : Addr} {oe : Obj} {vs : Array Value} {o : HO} (I : Inv X pins σ H s) (na : H a = none) (h0 : X.s_0.heap.get? a = none) (ha : s.heap.get? a = some oe) (hd : oe.data = .fields vs)
    (nL : a ≠ X.env.locals) (np : ∀ p ∈ X.pn ++ pins, p.1 ≠ a) (new : ObjOk X.prog X.w (upd H a o) s.heap a o) : Inv X pins σ (upd H a o) s := by
  refine ⟨I.ok, I.os, I.bare, ⟨I.base.keep, I.base.slot, fun b u e n hb => ?_, I.base.there, fun b xs e => ?_, fun b u xs e => ?_, fun b ps e => ?_⟩, I.loc, I.cell, ?_, fun x c e => ?_, fun p hp => ?_, fun b u e => ?_, I.len⟩
  · rw [upd_ne (fun z => by rw [z, h0] at e; cases e)]
    exact I.base.free b u e n hb
  · have q := I.base.tups b xs e
    rw [upd_ne (ne_of_none q na)]
    exact q
  · have q := I.base.frzs b u xs e
    rw [upd_ne (ne_of_none q na)]
    exact q
  · obtain ⟨m, q⟩ := I.base.tbls b ps e
    exact ⟨m, by rw [upd_ne (ne_of_none q na)]; exact q⟩
  · rw [upd_ne (Ne.symm nL)]
    exact I.free
  · have hc : c ≠ a := fun z => by
      obtain ⟨v, oc, ho, hdc⟩ := I.cell x c e
      rw [z, ha] at ho
      cases ho
      rw [hd] at hdc
      cases hdc
    rw [upd_ne hc]
    exact I.freeC x c e
  · obtain ⟨e, n, ne, nf, d⟩ := I.pin p hp
    exact ⟨e, by rw [upd_ne (np p hp)]; exact n, ne, nf, d⟩
  · by_cases hb : b = a
    · subst hb
      rw [upd_same] at e
      cases e
      exact new
    · rw [upd_ne hb] at e
      exact (I.hok b u e).stay (fun c v _ q => q) (fun c q => by rw [upd_ne (ne_of_none q na)]; exact q) fun c xs q => by rw [upd_ne (ne_of_none q na)]; exact q
section
variable {X : Cx} {body : List Stmt} {n y : Str} {i j : Nat} {T : Expr} {cs : List Value} {py pn' pa ph pos : Pos} {tb : WX → TS}
/-- what is wished of an exception of the body -/
def wKeep (K : PySem.W.Frag) (cs : List Value) (i j : Nat) (D : Ends) : WX := fun cls d σ H =>
  ∃ C, cls = .ref C ∧ PySem.W.exmAny K cls cs = some true ∧ ∀ a, H a = none → D.nx ((σ.set j (some (.ref a))).set i none) (upd H a (exV a C d))
theorem ps_trx (hs : X.stack = X.env :: X.outer) (hf : X.env.frame = some X.env.locals) (hex : X.ex = []) (hN : X.N.Nodup) (hi : X.N[i]? = some n) (hln : X.env.kindOf n = some .local) (hj : X.N[j]? = some y) (hly : X.env.scope.names.lookup y = some .local) (hij : i ≠ j)
    (hnd : (n == ("__debug__" : Str)) = false) (hnc : (n == ("__classdict__" : Str)) = false)
    (t : ∀ (a : Addr) (pn : List (Addr × Obj)), PXt (X.suite a pn) T cs)
    (hb : ∀ (W : WX) (pn : List (Addr × Obj)) (xe : Value → Shared → Prop), Takes (X.tr pn xe) W → PassesOwn (model X.prog X.w) X.A X.env xe → PSs (X.tr pn xe) body (tb W)) :
    PS X (.Try body [.ExceptHandler (some T) (some n) [.Assign [.Name y py] (.Name n pn') pa] ph] [] [] pos) (fun D σ H => tb (wKeep X.K cs i j D) D σ H) := by
  refine ⟨fun pins s σ H D I h => ?_⟩
  have ok := I.ok
  have hfr : X.A.frames = some (X.env :: X.outer) := by rw [ok.frames, hs]
  have hloc : Loc X.env.scope n := .inl hln
  refine wpAny_Try_except ?_
  refine wpAny_mono ((hb (wKeep X.K cs i j D) (X.pn ++ pins) (fun e s₁ => wpAny (model X.prog X.w) X.A (noteFrame e X.env) (fun _ s₂ => wpAny (model X.prog X.w) X.A (setFlight e none) (fun _ s₃ =>
    wpAny (model X.prog X.w) X.A (handleBy e X.env [.ExceptHandler (some T) (some n) [.Assign [.Name y py] (.Name n pn') pa] ph]) (SP X pins D) X.xe s₃) X.xe s₂) X.xe s₁) (fun u s' xx => ?_) PassesOwn.looking).run [] s σ H D (I.toTry _) h) (fun f s1 hsp => ?_) (fun e s1 he => he)
  · -- the catch
    obtain ⟨a, B, sI, pins', σ', H', cls, d, rfl, J', nb, up, sky, na, os, ag, C, rfl, hx, hq⟩ := xx
    have J : Inv X pins σ' H' sI := J'.ofTry ok
    have sky' : Sky B (X.env :: X.outer) a (Zc (.ref C) d) X.env.locals s'.heap := by rw [← hs]; exact sky
    show wpAny (model X.prog X.w) X.A (noteFrame (.ref a) X.env) _ _ _
    refine Sky.land Zc.steady hfr hf sky' fun h3 fl3 up3 => ?_
    have J3 : Inv X pins σ' H' { s' with heap := h3 } := J.landed nb fl3.1 (up.trans up3) os ag
    obtain ⟨oe3, vs3, he3, hz3, hd3⟩ := fl3.there
    have notFr : ∀ {h : Heap} {o : Obj} {vs : Array Value}, h.FunFrames B (X.env :: X.outer) → h.get? a = some o → o.data = .fields vs → a ∉ frs (X.env :: X.outer) := fun {h o vs} ff e dd hm => by
      obtain ⟨_, o', e', hnf⟩ := ff.mem hm
      rw [e] at e'; cases e'
      exact hnf _ dd
    have nfr := notFr fl3.2.2.1 he3 hd3
    have nL : a ≠ X.env.locals := fun z => nfr (List.mem_filterMap.mpr ⟨X.env, List.mem_cons_self, by rw [hf, z]⟩)
    have nF : a ∉ X.fs := fun hm => by
      obtain ⟨e, he, q⟩ := List.mem_filterMap.mp hm
      exact nfr (List.mem_filterMap.mpr ⟨e, List.mem_cons_of_mem _ he, q⟩)
    have nI : sI.heap.get? a = none := by
      cases q : sI.heap.get? a with
      | none => rfl
      | some o =>
        have z := nb a o q (by rw [hs]; exact nfr)
        rw [fl3.2.1] at z
        cases z
    have n0 : X.s_0.heap.get? a = none := by
      cases q : X.s_0.heap.get? a with
      | none => rfl
      | some o =>
        obtain ⟨o', z⟩ := J.base.there a o q (by rw [hex]; exact fun z => nomatch z)
        rw [nI] at z
        cases z
    have np : ∀ p ∈ X.pn ++ pins, p.1 ≠ a := fun p hp z => by
      obtain ⟨e, _⟩ := J.pin p hp
      rw [z, nI] at e
      cases e
    have S3 := J3.suite he3 hd3 na nL nF
    refine wpAny_handleBy_cons (codeAny_handlers_test ?_) (by intro q; cases q)
    have LT : PySem.W.Looks (model X.prog X.w) h3 (typeOf (.ref a)) (.ref C) := fun A Q E s k q => wpAny_typeOf_ref (k _ _ he3) (by rw [hz3.1]; exact q)
    refine test_at (Y := X.suite a ((a, oe3) :: (X.pn ++ pins))) (t a _) S3 LT hx fun h3' k3 => ?_
    have fl3' : HandSPX.FlyingZ B (X.env :: X.outer) a (Zc (.ref C) d) h3' := flyZ_keeps fl3 k3
    refine codeAny_handlers_suite_as ?_
    refine HandSPX.lands_againZ fl3' fun h4 fl4 up4 => ?_
    have J4 : Inv X pins σ' H' { s' with heap := h4 } := J.landed nb fl4.1 (((up.trans up3).trans (Heap.UpToSlots.of_keeps k3)).trans up4) os ag
    obtain ⟨oe4, vs4, he4, hz4, hd4⟩ := fl4.there
    have S4 := J4.suite he4 hd4 na nL nF
    refine store_ok (X := X.suite a ((a, oe4) :: (X.pn ++ pins))) (v := .ref a) S4 hN hi hloc rfl (fun s5 S5 => ?_) (.inr hln)
    have hlen : i < σ'.length := by rw [J.len]; exact (List.getElem?_eq_some_iff.mp hi).1
    have su : PSs (X.suite a ((a, oe4) :: (X.pn ++ pins))) [.Assign [.Name y py] (.Name n pn') pa] _ := pss_cons (ps_set (X := X.suite a ((a, oe4) :: (X.pn ++ pins))) hN hj (.inl hly) (pe_var (X := X.suite a ((a, oe4) :: (X.pn ++ pins))) hi (.inl hln) hnd hnc) rfl (.inr hly)) pss_nil
    refine wpAny_mono (su.run [] s5 _ H' { nx := fun σ6 H6 => σ6 = (σ'.set i (some (.ref a))).set j (some (.ref a)) ∧ H6 = H', rt := fun _ _ => False, bk := fun _ _ => False, ct := fun _ _ => False } S5 ⟨_, List.getElem?_set_self hlen, rfl, rfl⟩) (fun f s6 hsp => ?_) (fun _ _ z => False.elim z)
    cases f with
    | next =>
      obtain ⟨σ6, H6, S6, rfl, rfl⟩ := hsp
      obtain ⟨e6, _⟩ := S6.pin (a, oe4) (List.mem_append.mpr (.inl List.mem_cons_self))
      have K6 := S6.unsuite ok
      have K7 := track (o := exV a C d) K6 na n0 e6 hd4 nL np (exV_ok e6 hz4 hd4)
      refine gone_ok K7 hN hi hln fun s7 J7 => ⟨_, _, J7, ?_⟩
      have z := hq a na
      have e : ((σ'.set i (some (V.ref a))).set j (some (V.ref a))).set i none = (σ'.set j (some (V.ref a))).set i none := by
        rw [List.set_comm _ _ hij, List.set_set]
      rw [e]
      exact z
    | brk => obtain ⟨_, _, _, z⟩ := hsp; exact z.elim
    | cont => obtain ⟨_, _, _, z⟩ := hsp; exact z.elim
    | ret u => obtain ⟨_, _, _, _, _, z⟩ := hsp; exact z.elim
  · cases f with
    | next =>
      obtain ⟨σ', H', J', q⟩ := hsp
      exact wpAny_execs_nil ⟨σ', H', J'.ofTry ok, q⟩
    | brk =>
      obtain ⟨σ', H', J', q⟩ := hsp
      exact ⟨σ', H', J'.ofTry ok, q⟩
    | cont =>
      obtain ⟨σ', H', J', q⟩ := hsp
      exact ⟨σ', H', J'.ofTry ok, q⟩
    | ret u =>
      obtain ⟨v, σ', H', J', r, q⟩ := hsp
      exact ⟨v, σ', H', J'.ofTry ok, r, q⟩
end
/-! ### list.count of flat things -/
theorem countU_of {x : V} : ∀ {xs : List V} {us : List Value}, Vals xs us → xs.all flatV = true → us.countP (eqU x) = xs.countP fun y => eqV y x
  | _, _, .nil, _ => rfl
  | y :: xs, u :: us, .cons r t, f => by
    rw [List.all_cons, Bool.and_eq_true] at f
    rw [List.countP_cons, List.countP_cons, eqU_of r f.1, countU_of t f.2]
theorem mt_count {X : Cx} : MtR X "list.count" (fun x xs H Q => ∃ (p : Addr) (ys : List V) (k : V), x = .ref p ∧ xs = [k] ∧ SqL X.K H p ys ∧ flatV k = true ∧ ys.all flatV = true ∧ Q (.int (ys.countP (fun y => eqV y k) : Nat)) H) := by
  intro pins s σ H x xs v us Q I rx rxs h
  obtain ⟨p, ys, k, rfl, rfl, hs, fk, fs, q⟩ := h
  cases rx
  obtain ⟨u, rfl, ru⟩ := rxs.one
  obtain ⟨its, rv, ⟨⟨cls, dd, data, sl⟩, n, ho, hc, hdn, hd⟩, hlen⟩ := I.list hs
  simp only at hc hd
  subst hc hd
  refine call_meets PySem.F.slot_list_count ⟨_, ho, rfl⟩ PySem.F.entry_list_count (PySem.F.args_list_count_2 _ _)
    (SeqAt.list_countAt p its.toArray n dd sl u (eqU k)) ⟨ho, fun y hy => mem_eqAt ru fk rv fs y (by simpa using hy), ?_⟩
  have ec : its.toArray.toList.countP (eqU k) = ys.countP (fun y => eqV y k) := countU_of rv fs
  refine ⟨.int (ys.countP (fun y => eqV y k) : Nat), H, I.tok _, ⟨s.toks, ?_⟩, q⟩
  show Value.int ((its.toArray.toList.countP (eqU k) : Nat) : Int) s.toks = Value.int ((ys.countP (fun y => eqV y k) : Nat) : Int) s.toks
  rw [ec]
end QL
set_option Elab.async false
set_option linter.all false
set_option maxRecDepth 100000
set_option maxHeartbeats 4000000
/-! Q4: a small language of expressions, what its terms ask (wE), and how Python's expressions are turned into it (cE). -/
namespace QL
open PySem PySem.Spec L2
open PyProof.Rows hiding St
/-- built-in classes that isinstance asks for -/
inductive Bt where
  | int | bool | str | list | tuple
  deriving DecidableEq
/-- methods of built-in types -/
inductive Bm where
  | count | append | insert
  deriving DecidableEq
/-- targets -/
inductive Tg where
  | nm (i : Nat)
  | tp (is : List Nat)
mutual
inductive Ex where
  | var (i : Nat)
  | lit (v : V)
  | cst (x : Str)
  | op (o : Operator) (a b : Ex)
  | neg (a : Ex)
  | cmp (o : CmpOp) (a b : Ex)
  | chn (o o' : CmpOp) (a b c : Ex)
  | and (a b : Ex)
  | or (a b : Ex)
  | not (a : Ex)
  | ite (t : Te) (a b : Ex)
  | fld (o : Ex) (f : Str)
  | idx (o i : Ex)
  | slc (o : Ex) (lo hi : Ox)
  | lst (es : Exs)
  | tup (es : Exs)
  | fn (f : Str) (es : Exs)
  | bi (b : Bi) (es : Exs)
  | isi (e : Ex) (T : Bt)
  | isx (e : Ex) (c : Str)
  | mkx (c : Str) (es : Exs)
  | dct0
  | met (o : Ex) (m : Str) (es : Exs)
  | bm (m : Bm) (o : Ex) (es : Exs)
  | mkC (c : Str) (ks : List Str) (es : Exs)
  | lc (t : Tg) (s : Sr) (c : Te) (e : Ex) (vs : List Nat)
inductive Sr where
  | rng (lo hi : Ex)
  | val (e : Ex)
inductive Exs where
  | nil
  | cons (e : Ex) (es : Exs)
inductive Ox where
  | none
  | some (e : Ex)
inductive Te where
  | val (e : Ex)
  | cmp (o : CmpOp) (a b : Ex)
  | chn (o o' : CmpOp) (a b c : Ex)
  | and (a b : Te)
  | or (a b : Te)
  | not (a : Te)
  | yes
end
/-- what stands written behind the top: constants, written objects, fields of the own classes -/
structure Stat where
  gv : Str → Option V
  so : Addr → Option HO
  fl : Addr → Str → Prop
  /-- own exception classes: where, and the field -/
  xc : Str → Option (Addr × Option Str)
  /-- whether the class at an address lies under a named one -/
  isa : Addr → Str → Option Bool
  /-- the same for own classes that are no exceptions -/
  iso : Addr → Str → Option Bool
  /-- no built-in type lies under the named class -/
  isb : Str → Bool
  /-- a field of an exception -/
  xf : Addr → Str → Prop
  /-- the def of an own class's method -/
  mt : Addr → Str → Option Str
  /-- C(..), so many values and these keywords: the class, the def, for each parameter the place of its value, or the default -/
  mkc : Str → Nat → List Str → Option (Addr × Str × List (Nat ⊕ V))
/-- what the defs do -/
structure Sm where
  fn : Str → Sp
def boolV (Q : Bool → Hp → Prop) : VK := fun z H => match z with
  | .bl k => Q k H
  | _ => False
def tBl : Bt → Bool
  | .bool => true | .int => true | .str => false | .list => false | .tuple => false
def tInt : Bt → Bool
  | .bool => false | .int => true | .str => false | .list => false | .tuple => false
def tStr : Bt → Bool
  | .bool => false | .int => false | .str => true | .list => false | .tuple => false
def tList : Bt → Bool
  | .bool => false | .int => false | .str => false | .list => true | .tuple => false
def tTuple : Bt → Bool
  | .bool => false | .int => false | .str => false | .list => false | .tuple => true
/-- the kind of a value -/
def btV (so : Addr → Option HO) (H : Hp) (T : Bt) : V → Option Bool
  | .non => some false
  | .bl _ => some (tBl T)
  | .int _ => some (tInt T)
  | .str _ => some (tStr T)
  | .ref p => (match H p with
    | some (.lst _) => some (tList T)
    | some (.tup _) => some (tTuple T)
    | some (.dK _) => some false
    | _ => none)
  | _ => none
def fldV (S : Stat) (f : Str) : V → Hp → VK → Prop := fun x H Q => match x with
  | .ref p => (match H p with
    | some (.ins C _ fs) => S.fl C f ∧ (match fs.lookup f with
      | some v => Q v H
      | none => False)
    | some (.ext _) => ∃ C fs v, Xat H p C fs ∧ S.xf C f ∧ fs.lookup f = some v ∧ Q v H
    | _ => False)
  | _ => False
/-- isinstance of a class by its name -/
def isxK (S : Stat) (c : Str) (x : V) (H : Hp) (B : Bool → Prop) : Prop := match x with
  | .ref p => (match H p with
    | some (.ext _) => ∃ C fs b, Xat H p C fs ∧ S.isa C c = some b ∧ B b
    | some (.ins C _ _) => ∃ b, S.iso C c = some b ∧ B b
    | some (.lst _) => S.isb c = true ∧ B false
    | some (.tup _) => S.isb c = true ∧ B false
    | some (.dK _) => S.isb c = true ∧ B false
    | _ => False)
  | .non => S.isb c = true ∧ B false
  | .bl _ => S.isb c = true ∧ B false
  | .int _ => S.isb c = true ∧ B false
  | .str _ => S.isb c = true ∧ B false
  | _ => False
/-- an own exception made -/
def mkxV (S : Stat) (c : Str) (vs : List V) (H : Hp) (Q : VK) : Prop := match S.xc c with
  | some (C, some g) => (match vs with
    | [v] => ∀ a d, H a = none → H d = none → d ≠ a → S.so a = none → S.so d = none → Q (.ref a) (upd (upd H d (.xd [(g, v)])) a (exV a C (some d)))
    | _ => False)
  | some (C, none) => vs = [] ∧ ∀ a, H a = none → S.so a = none → Q (.ref a) (upd H a (exV a C none))
  | none => False
/-- an own exception raised -/
def raiV (S : Stat) (c : Str) (vs : List V) (H : Hp) (B : XK) : Prop := match S.xc c with
  | some (C, some g) => (match vs with
    | [v] => ∀ d, H d = none → S.so d = none → B (.ref C) (some d) (upd H d (.xd [(g, v)]))
    | _ => False)
  | _ => False
/-- a method's def -/
def metK (S : Stat) (m : Str) (x : V) (H : Hp) (B : Str → Prop) : Prop := match x with
  | .ref p => (match H p with
    | some (.ins C _ fs) => fs.lookup m = none ∧ (match S.mt C m with
      | some g => B g
      | none => False)
    | _ => False)
  | _ => False
/-- the values of the parameters -/
def pmV (pm : List (Nat ⊕ V)) (vs : List V) : Option (List V) := pm.mapM fun p => match p with
  | .inl i => vs[i]?
  | .inr v => some v
def mkK (S : Stat) (F : Sm) (c : Str) (ks : List Str) (vs : List V) (H : Hp) (Q : VK) (E : XK) : Prop := match S.mkc c vs.length ks with
  | some (C, g, pm) => (match pmV pm vs with
    | some ws => ∀ x dx, H x = none → H dx = none → dx ≠ x → S.so x = none → S.so dx = none → F.fn g (.ref x :: ws) (upd (upd H dx (.own x)) x (.ins C dx [])) (fun v H2 => v = .non ∧ Q (.ref x) H2) E
    | none => False)
  | none => False
/-- methods of lists -/
def bmTy : Bm → String
  | .count => "list" | .append => "list" | .insert => "list"
def bmN : Bm → Str
  | .count => "count" | .append => "append" | .insert => "insert"
def bmTyK (S : Stat) (m : Bm) (x : V) (H : Hp) : Prop := match x with
  | .ref p => (match rd S.so H p with
    | some (.lst _) => True
    | _ => False)
  | _ => False
def mCount (S : Stat) (x : V) (vs : List V) (H : Hp) (Q : VK) : Prop := match x, vs with
  | .ref p, [k] => (match rd S.so H p with
    | some (.lst ys) => flatV k = true ∧ ys.all flatV = true ∧ Q (.int (ys.countP (fun y => eqV y k) : Nat)) H
    | _ => False)
  | _, _ => False
def mAppend (x : V) (vs : List V) (H : Hp) (Q : VK) : Prop := match x, vs with
  | .ref p, [v] => (match H p with
    | some (.lst ys) => ys.length < sizeLine ∧ Q .non (upd H p (.lst (ys ++ [v])))
    | _ => False)
  | _, _ => False
def mInsert (x : V) (vs : List V) (H : Hp) (Q : VK) : Prop := match x, vs with
  | .ref p, [.int i, v] => (match H p with
    | some (.lst ys) => i = 0 ∧ ys.length < sizeLine ∧ Q .non (upd H p (.lst (v :: ys)))
    | _ => False)
  | _, _ => False
def bmV (S : Stat) : Bm → V → List V → Hp → VK → Prop
  | .count => mCount S
  | .append => mAppend
  | .insert => mInsert
def varK (o : Option (Option V)) (B : V → Prop) : Prop := match o with
  | some (some v) => B v
  | _ => False
def cstK (o : Option V) (B : V → Prop) : Prop := match o with
  | some v => B v
  | none => False
def truK (so : Addr → Option HO) (x : V) (H : Hp) (B : Bool → Prop) : Prop := match truV so H x with
  | some k => B k
  | none => False
def btK (so : Addr → Option HO) (T : Bt) (x : V) (H : Hp) (B : Bool → Prop) : Prop := match btV so H T x with
  | some k => B k
  | none => False
def intK (x : V) (B : Int → Prop) : Prop := match x with
  | .int i => B i
  | _ => False
def setL : List Nat → List V → St → Option St
  | [], [], σ => some σ
  | i :: is, v :: vs, σ => setL is vs (σ.set i (some v))
  | _, _, _ => none
def parK (o : Option St) (B : St → Prop) : Prop := match o with
  | some σ => B σ
  | none => False
/-- what a target takes -/
def gT (so : Addr → Option HO) : Tg → TG
  | .nm i => gName i
  | .tp is => fun v σ H Q => match v with
    | .ref p => (match rd so H p with
      | some (.tup xs) => parK (setL is xs σ) fun σ' => Q σ' H
      | _ => False)
    | _ => False
/-- no exception is let out -/
def never : WX := fun _ _ _ _ => False
/-- the items of a list or tuple; kp: it stays -/
def seqK (so : Addr → Option HO) (x : V) (H : Hp) (B : List V → (Hp → Prop) → Prop) : Prop := match x with
  | .ref a => (match rd so H a with
    | some (.lst xs) => B xs (fun H' => rd so H' a = some (.lst xs))
    | some (.tup xs) => B xs (fun H' => rd so H' a = some (.tup xs))
    | _ => False)
  | _ => False
/-- the turns of a list comprehension, the new list at D -/
def lcL (kp : Hp → Prop) (g : TG) (tt : TT) (te : TE) (D : Addr) (σ : St) : List V → Hp → (Hp → Prop) → Prop
  | [], H, R => kp H ∧ R H
  | x :: r, H, R => kp H ∧ g x σ H fun σ2 H2 => tt σ2 H2 fun b H3 => if b = true then te σ2 H3 fun y H4 => ∃ acc, H4 D = some (.lst acc) ∧ acc.length < sizeLine ∧ lcL kp g tt te D σ r (upd H4 D (.lst (acc ++ [y]))) R else lcL kp g tt te D σ r H3 R
section
variable (S : Stat) (F : Sm)
mutual
def wE (W : WX) : Ex → TE
  | .var i => fun σ H Q => varK σ[i]? fun v => Q v H
  | .lit v => fun _ H Q => Q v H
  | .cst x => fun _ H Q => cstK (S.gv x) fun v => Q v H
  | .op o a b => fun σ H Q => wE W a σ H fun x H1 => wE W b σ H1 fun y H2 => opV S.so o x y H2 Q
  | .neg a => fun σ H Q => wE W a σ H fun x H1 => intK x fun i => Q (.int (-i)) H1
  | .cmp o a b => fun σ H Q => wE W a σ H fun x H1 => wE W b σ H1 fun y H2 => cmpV S.so o x y H2 Q
  | .chn o o' a b c => fun σ H Q => wE W a σ H fun x H1 => wE W b σ H1 fun y H2 => cmpV S.so o x y H2 (boolV fun k H3 => if k = true then wE W c σ H3 fun z H4 => cmpV S.so o' y z H4 Q else Q (.bl false) H3)
  | .and a b => fun σ H Q => wE W a σ H fun x H1 => truK S.so x H1 fun k => if k = true then wE W b σ H1 Q else Q x H1
  | .or a b => fun σ H Q => wE W a σ H fun x H1 => truK S.so x H1 fun k => if k = true then Q x H1 else wE W b σ H1 Q
  | .not a => fun σ H Q => wE W a σ H fun x H1 => truK S.so x H1 fun k => Q (.bl (!k)) H1
  | .ite t a b => fun σ H Q => wT W t σ H fun k H1 => if k = true then wE W a σ H1 Q else wE W b σ H1 Q
  | .fld o f => fun σ H Q => wE W o σ H fun x H1 => fldV S f x H1 Q
  | .idx o i => fun σ H Q => wE W o σ H fun x H1 => wE W i σ H1 fun y H2 => idxV S.so x y H2 Q
  | .slc o lo hi => fun σ H Q => wE W o σ H fun x H1 => wO W lo σ H1 fun a H2 => wO W hi σ H2 fun b H3 => slcV S.so x a b H3 Q
  | .lst es => fun σ H Q => wA W es σ H fun xs H1 => xs.length ≤ sizeLine ∧ ∀ p, H1 p = none → S.so p = none → Q (.ref p) (upd H1 p (.lst xs))
  | .tup es => fun σ H Q => wA W es σ H fun xs H1 => xs.length ≤ sizeLine ∧ ∀ p, H1 p = none → S.so p = none → Q (.ref p) (upd H1 p (.tup xs))
  | .fn f es => fun σ H Q => wA W es σ H fun vs H1 => F.fn f vs H1 Q (fun c d H' => W c d σ H')
  | .bi b es => fun σ H Q => wA W es σ H fun vs H1 => biV S.so b vs H1 Q
  | .isi e T => fun σ H Q => wE W e σ H fun x H1 => btK S.so T x H1 fun k => Q (.bl k) H1
  | .isx e c => fun σ H Q => wE W e σ H fun x H1 => isxK S c x H1 fun k => Q (.bl k) H1
  | .mkx c es => fun σ H Q => wA W es σ H fun vs H1 => mkxV S c vs H1 Q
  | .dct0 => fun _ H Q => ∀ p, H p = none → S.so p = none → Q (.ref p) (upd H p (.dK []))
  | .met o m es => fun σ H Q => wE W o σ H fun x H1 => metK S m x H1 fun g => wA W es σ H1 fun vs H2 => F.fn g (x :: vs) H2 Q (fun c d H' => W c d σ H')
  | .bm m o es => fun σ H Q => wE W o σ H fun x H1 => bmTyK S m x H1 ∧ wA W es σ H1 fun vs H2 => bmV S m x vs H2 Q
  | .mkC c ks es => fun σ H Q => wA W es σ H fun vs H1 => mkK S F c ks vs H1 Q (fun c d H' => W c d σ H')
  | .lc t s c e vs => fun σ H Q => wI W s σ H fun xs kp H1 => ∀ D, H1 D = none → S.so D = none → lcL kp (gT S.so t) (wT never c) (wE never e) D (wipe σ vs) xs (upd H1 D (.lst [])) fun H' => Q (.ref D) H'
def wI (W : WX) : Sr → St → Hp → (List V → (Hp → Prop) → Hp → Prop) → Prop
  | .rng lo hi => fun σ H B => wE W lo σ H fun x H1 => wE W hi σ H1 fun y H2 => intK x fun l => intK y fun h => B ((List.range (h - l).toNat).map fun i => V.int (l + (i : Nat))) (fun _ => True) H2
  | .val e => fun σ H B => wE W e σ H fun x H1 => seqK S.so x H1 fun xs kp => B xs kp H1
def wA (W : WX) : Exs → TA
  | .nil => fun _ H Q => Q [] H
  | .cons e es => fun σ H Q => wE W e σ H fun x H1 => wA W es σ H1 fun xs H2 => Q (x :: xs) H2
def wO (W : WX) : Ox → St → Hp → (Option Int → Hp → Prop) → Prop
  | .none => fun _ H Q => Q none H
  | .some e => fun σ H Q => wE W e σ H fun x H1 => intK x fun i => Q (some i) H1
def wT (W : WX) : Te → TT
  | .val e => fun σ H Q => wE W e σ H fun x H1 => truK S.so x H1 fun k => Q k H1
  | .cmp o a b => fun σ H Q => wE W a σ H fun x H1 => wE W b σ H1 fun y H2 => cmpV S.so o x y H2 (boolV Q)
  | .chn o o' a b c => fun σ H Q => wE W a σ H fun x H1 => wE W b σ H1 fun y H2 => cmpV S.so o x y H2 (boolV fun k H3 => if k = true then wE W c σ H3 fun z H4 => cmpV S.so o' y z H4 (boolV Q) else Q false H3)
  | .and a b => fun σ H Q => wT W a σ H fun k H1 => if k = true then wT W b σ H1 Q else Q false H1
  | .or a b => fun σ H Q => wT W a σ H fun k H1 => if k = true then Q true H1 else wT W b σ H1 Q
  | .not a => fun σ H Q => wT W a σ H fun k H1 => Q (!k) H1
  | .yes => fun _ H Q => Q true H
end
end
/-! ### turning Python's expressions -/
inductive Gk where
  | fn | cst | bi (b : Bi) | isi | xcl | ocl | bxc | no
  deriving DecidableEq
structure CI where
  N : List Str
  sc : Scope
  gl : Str → Gk
def okN (x : Str) : Bool := !(x == ("__debug__" : Str)) && !(x == ("__classdict__" : Str))
def slotOf (C : CI) (x : Str) : Option Nat := match C.sc.names.lookup x with
  | some .local => C.N.idxOf? x
  | some .cell => C.N.idxOf? x
  | some .free => C.N.idxOf? x
  | _ => none
def isG (C : CI) (x : Str) : Bool := match C.sc.names.lookup x with
  | some .globalImplicit => true
  | _ => false
def nCE : (Expr → Option Ex) → List Expr → Option Exs
  | _, [] => some .nil
  | f, e :: es => match f e, nCE f es with
    | some a, some b => some (.cons a b)
    | _, _ => none
/-- x.f: x is not a bare call (super()) -/
def plainBase : Expr → Bool
  | .Call (.Name _ _) [] [] _ => false
  | _ => true
def notSlice : Expr → Bool
  | .Slice _ _ _ _ => false
  | _ => true
def plainTest : Expr → Bool
  | .UnaryOp .Not _ _ => false
  | .BoolOp _ _ _ => false
  | .IfExp _ _ _ _ => false
  | .Compare _ _ _ _ => false
  | _ => true
def two {α β γ : Type} (x : Option α) (y : Option β) (f : α → β → γ) : Option γ := match x, y with
  | some a, some b => some (f a b)
  | _, _ => none
def tri {α β γ δ : Type} (x : Option α) (y : Option β) (z : Option γ) (f : α → β → γ → δ) : Option δ := match x, y, z with
  | some a, some b, some c => some (f a b c)
  | _, _, _ => none
def iff' {α : Type} (b : Bool) (x : Option α) : Option α := match b with
  | true => x
  | false => none
def behindOk (o : CmpOp) (e : Expr) : Bool := !behindInMarks o e
def cName (C : CI) (x : Str) : Option Ex := iff' (okN x) (match slotOf C x with
  | some i => some (.var i)
  | none => iff' (isG C x && C.gl x == .cst) (some (.cst x)))
def btBi : Bi → Option Bt
  | .int => some .int
  | .bool => some .bool
  | .str => some .str
  | .list => some .list
  | .tuple => some .tuple
  | _ => none
def cIsi (C : CI) (f : Expr → Option Ex) (a : Expr) (as : List Expr) : Option Ex := match as with
  | [.Name T _] => iff' (isG C T) (match C.gl T with
    | .bi b => (btBi b).bind fun T => (f a).map (.isi · T)
    | .xcl => (f a).map (.isx · T)
    | .bxc => (f a).map (.isx · T)
    | .ocl => (f a).map (.isx · T)
    | _ => none)
  | _ => none
def cCall (C : CI) (f : Expr → Option Ex) (x : Str) (a : Expr) (as : List Expr) : Gk → Option Ex
  | .fn => (nCE f (a :: as)).map (.fn x)
  | .bi b => (nCE f (a :: as)).map (.bi b)
  | .isi => cIsi C f a as
  | .xcl => (nCE f (a :: as)).map (.mkx x)
  | .ocl => (nCE f (a :: as)).map (.mkC x [])
  | _ => none
/-- a call without arguments -/
def cCall0 (x : Str) : Gk → Option Ex
  | .xcl => some (.mkx x .nil)
  | _ => none
def bmOf (m : Str) : Option Bm := if m = "count" then some .count else if m = "append" then some .append else if m = "insert" then some .insert else none
def cMet (o : Option Ex) (m : Str) (ne : Bool) (es : Option Exs) : Option Ex := match bmOf m with
  | some b => iff' ne (two o es (.bm b))
  | none => two o es (.met · m)
def kwOf (k : Keyword) : Option (Str × Expr) := k.arg.map fun a => (a, k.value)
def kwsOf : List Keyword → Option (List (Str × Expr))
  | [] => some []
  | k :: r => two (kwOf k) (kwsOf r) fun a b => a :: b
def cMkC (C : CI) (f : Expr → Option Ex) (x : Str) (as : List Expr) (ks : List (Str × Expr)) : Option Ex := match C.gl x with
  | .ocl => (nCE f (as ++ ks.map (·.2))).map (.mkC x (ks.map (·.1)))
  | _ => none
def locOf (C : CI) (x : Str) : Option Nat := match C.sc.names.lookup x with
  | some .local => C.N.idxOf? x
  | some .cell => C.N.idxOf? x
  | _ => none
def loc1 (C : CI) (x : Str) : Option Nat := match C.sc.names.lookup x with
  | some .local => C.N.idxOf? x
  | _ => none
def nmOf : Expr → Option (Str × Pos)
  | .Name x p => some (x, p)
  | _ => none
def nms : List Expr → Option (List (Str × Pos))
  | [] => some []
  | e :: es => two (nmOf e) (nms es) (fun a b => a :: b)
def tupOf : Expr → Option (List Expr)
  | .Tuple vs _ _ => some vs
  | _ => none
/-- the slots of local names -/
def slots (C : CI) : List (Str × Pos) → Option (List Nat)
  | [] => some []
  | x :: r => two (locOf C x.1) (slots C r) (fun a b => a :: b)
def isRange (C : CI) (x : Str) : Bool := x == ("range" : Str) && isG C x && C.gl x == .no
def rngOf (C : CI) : Expr → Option (List Expr)
  | .Call f as ks _ => iff' (match nmOf f, ks with
    | some x, [] => isRange C x.1
    | _, _ => false) (some as)
  | _ => none
def walkL : Expr → Bool
  | .Name _ _ => true
  | .List _ _ => true
  | .Attribute _ _ _ => true
  | _ => false
/-- the names of a comprehension's block, as they are read within -/
def relN (scope sc : Scope) : Scope := { scope with names := scope.names.map fun y => if (y.2 == .free && sc.names.lookup y.1 == some .cell) then (y.1, .cell) else y }
def CI.blk (C : CI) (scope : Scope) : CI := { C with sc := relN scope C.sc }
/-- a comprehension's target: its own names, with their places -/
def cTg (C : CI) : Expr → Option (Tg × List (Str × Nat))
  | .Name x _ => (locOf C x).map fun i => (.nm i, [(x, i)])
  | .Tuple ts _ _ => (nms ts).bind fun ns => (slots C ns).map fun is => (.tp is, (ns.map (·.1)).zip is)
  | _ => none
def ownOk (scope : Scope) (own : List (Str × Nat)) : Bool := own.all fun p => match scope.names.lookup p.1 with
  | some .local => true
  | some .cell => true
  | _ => false
/-- what may be walked without being folded -/
def walkS : Expr → Bool
  | .Set _ _ _ => false
  | _ => true
def cRg (f : Expr → Option Ex) : List Expr → Option Sr
  | [a] => (f a).map (.rng (.lit (.int 0)))
  | [a, b] => two (f a) (f b) .rng
  | _ => none
def cSr (C : CI) (f : Expr → Option Ex) (it : Expr) : Option Sr := match rngOf C it with
  | some as => cRg f as
  | none => iff' (walkS it) ((f it).map .val)
def cIfs (f : Expr → Option Te) : List Expr → Option Te
  | [] => some .yes
  | [c] => f c
  | _ => none
def cLc (C : CI) (scope : Scope) (s : Option Sr) (t : Option (Tg × List (Str × Nat))) (c : Option Te) (e : Option Ex) : Option Ex := t.bind fun u => iff' (blkC C.N C.sc scope u.2 && ownOk scope u.2) (tri s c e fun s c e => .lc u.1 s c e (u.2.map (·.2)))
mutual
def cE (C : CI) : Nat → Expr → Option Ex
  | 0, _ => none
  | n + 1, e => match e with
    | .Constant (.int i) _ _ => some (.lit (.int i))
    | .Constant (.bool b) _ _ => some (.lit (.bl b))
    | .Constant .none _ _ => some (.lit .non)
    | .Constant (.str x) _ _ => some (.lit (.str x))
    | .Name x _ => cName C x
    | .BinOp a o b _ => (two (cE C n a) (cE C n b) (.op o))
    | .UnaryOp .USub a _ => (cE C n a).map .neg
    | .UnaryOp .Not a _ => (cE C n a).map .not
    | .Compare a [o] [b] _ => iff' (behindOk o b) ((two (cE C n a) (cE C n b) (.cmp o)))
    | .Compare a [o, o'] [b, c] _ => iff' (behindOk o b && behindOk o' c) ((tri (cE C n a) (cE C n b) (cE C n c) (.chn o o')))
    | .BoolOp .And [a] _ => cE C n a
    | .BoolOp .Or [a] _ => cE C n a
    | .BoolOp .And (a :: b :: r) p => (two (cE C n a) (cE C n (.BoolOp .And (b :: r) p)) (.and))
    | .BoolOp .Or (a :: b :: r) p => (two (cE C n a) (cE C n (.BoolOp .Or (b :: r) p)) (.or))
    | .IfExp t a b _ => (tri (cT C n t) (cE C n a) (cE C n b) (.ite))
    | .Attribute o f _ => iff' (plainBase o) ((cE C n o).map (.fld · f))
    | .Subscript o i _ => (match i with
      | .Slice lo hi none _ => tri (cE C n o) (cO C n lo) (cO C n hi) (.slc)
      | .Slice _ _ (some _) _ => none
      | i => two (cE C n o) (cE C n i) (.idx))
    | .List es _ => (nCE (cE C n) es).map .lst
    | .Tuple es _ _ => (nCE (cE C n) es).map .tup
    | .Call (.Name x _) (a :: as) [] _ => iff' (isG C x) (cCall C (cE C n) x a as (C.gl x))
    | .Call (.Name x _) [] [] _ => iff' (isG C x) (cCall0 x (C.gl x))
    | .Call (.Name x _) (a :: as) (k :: ks) _ => iff' (isG C x) ((kwsOf (k :: ks)).bind fun kk => cMkC C (cE C n) x (a :: as) kk)
    | .Call (.Attribute o m ap) as [] p => iff' (plainBase o && ap.endLine == p.line && decide (as.length < 20)) (cMet (cE C n o) m (!as.isEmpty) (nCE (cE C n) as))
    | .Dict [] [] _ => some .dct0
    | .ListComp e [g] scope _ => iff' (g.is_async == 0) (cLc C scope (cSr C (cE C n) g.iter) (cTg (C.blk scope) g.target) (cIfs (cT (C.blk scope) n) g.ifs) (cE (C.blk scope) n e))
    | _ => none
def cO (C : CI) : Nat → Option Expr → Option Ox
  | 0, _ => none
  | _, none => some .none
  | n + 1, some e => (cE C n e).map .some
def cT (C : CI) : Nat → Expr → Option Te
  | 0, _ => none
  | n + 1, e => match e with
    | .UnaryOp .Not a _ => (cT C n a).map .not
    | .BoolOp .And [a] _ => cT C n a
    | .BoolOp .Or [a] _ => cT C n a
    | .BoolOp .And (a :: b :: r) p => (two (cT C n a) (cT C n (.BoolOp .And (b :: r) p)) (.and))
    | .BoolOp .Or (a :: b :: r) p => (two (cT C n a) (cT C n (.BoolOp .Or (b :: r) p)) (.or))
    | .Compare a [o] [b] _ => iff' (behindOk o b) ((two (cE C n a) (cE C n b) (.cmp o)))
    | .Compare a [o, o'] [b, c] _ => iff' (behindOk o b && behindOk o' c) ((tri (cE C n a) (cE C n b) (cE C n c) (.chn o o')))
    | e => iff' (plainTest e) ((cE C n e).map .val)
end
end QL
set_option Elab.async false
set_option linter.all false
set_option maxRecDepth 100000
set_option maxHeartbeats 4000000
/-! Q5: what cE turns keeps what wE asks. -/
namespace QL
open PySem PySem.Spec L2
open PyProof.Rows hiding St
def btN : Bt → Str
  | .int => "int" | .bool => "bool" | .str => "str" | .list => "list" | .tuple => "tuple"
def btS : Bt → String
  | .int => "int" | .bool => "bool" | .str => "str" | .list => "list" | .tuple => "tuple"
/-- a class by its name -/
def ClsN (mg : Str → Option Value) (x : Str) (u : Value) : Prop := (x == ("__debug__" : Str)) = false ∧ (((∃ C, u = .ref C) ∧ mg x = some u) ∨ ((∃ T, u = .type T) ∧ mg x = none ∧ bootBuiltins x = some u ∧ x ≠ "__name__"))
theorem ClsN.one {mg : Str → Option Value} {x : Str} {u v : Value} (a : ClsN mg x u) (b : ClsN mg x v) : u = v := by
  obtain ⟨_, ⟨_, h⟩ | ⟨_, h, h', _⟩⟩ := a <;> obtain ⟨_, ⟨_, g⟩ | ⟨_, g, g', _⟩⟩ := b
  · rw [h] at g; exact Option.some.inj g
  · rw [h] at g; cases g
  · rw [h] at g; cases g
  · rw [h'] at g'; exact Option.some.inj g'
/-- what isinstance asks of an own class -/
structure OcC (K : PySem.W.Frag) (C : Addr) : Prop where
  cl : Cls K C
  ca : PySem.W.findIn K (.ref C) "__class__" = some (some (.builtin "object.__class__"))
  cg : PySem.W.specialIn K (.builtin "object.__class__") "__get__" = some (some (.builtin "getset_descriptor.__get__"))
  ct : PySem.W.takesIn K (.builtin "object.__class__") = some true
  mo : PySem.W.mroIn K C (.type "object") = some true
def bTs : List String := ["NoneType", "bool", "int", "str", "list", "tuple", "dict"]
/-- how C(..) is made -/
def MkOk (P : Program) (w : World) (K : PySem.W.Frag) (mg : Str → Option Value) (base : Heap) (k : Nat) (x : Str) (n : Nat) (ks : List Str) (C : Addr) (sp : Sp) (pm : List (Nat ⊕ V)) : Prop :=
  (x == ("__debug__" : Str)) = false ∧ mg x = some (.ref C) ∧ ∃ (f : Addr) (fd : FuncData) (ps : List Str), Mk K C f ∧ FnG P w K mg base k f fd ps sp ∧
    ∀ (vs ws : List V) (us : List Value), Vals vs us → vs.length = n → pmV pm vs = some ws → ∃ full : List Value, Vals ws full ∧ ∀ (s : Shared) (a : Value), K.In s.heap → BindsTo s fd ⟨a :: us.take (n - ks.length), ks.zip (us.drop (n - ks.length))⟩ (ps.zip (a :: full))
/-- the module's names, as they stand behind the top -/
structure GOk (P : Program) (w : World) (K : PySem.W.Frag) (mg : Str → Option Value) (base : Heap) (S : Stat) (F : Sm) (k : Nat) (gl : Str → Gk) : Prop where
  so : SoOk K S.so
  fl : ∀ C f, S.fl C f → Cls K C ∧ NoAttr K C f
  fn : ∀ x, gl x = .fn → ∃ f fd ps, (x == ("__debug__" : Str)) = false ∧ mg x = some (.ref f) ∧ PySem.W.keepIn K (.ref f) = true ∧ FnG P w K mg base (2 * k + 1) f fd ps (F.fn x) ∧ Binds K fd ps []
  cst : ∀ x v, gl x = .cst → S.gv x = some v → ∃ u, mg x = some u ∧ RelV v u
  bi : ∀ x b, gl x = .bi b → x = biN b ∧ mg x = none
  isi : ∀ x, gl x = .isi → x = "isinstance" ∧ mg x = none
  rng : gl "range" = .no → mg "range" = none
  cls : ∀ x, (gl x = .xcl ∨ gl x = .ocl ∨ gl x = .bxc) → ∃ u, ClsN mg x u
  own : ∀ x, (gl x = .xcl ∨ gl x = .ocl) → ∃ C, (x == ("__debug__" : Str)) = false ∧ mg x = some (.ref C) ∧ PySem.W.keepIn K (.ref C) = true
  xc : ∀ x C f, gl x = .xcl → S.xc x = some (C, f) → Xk P w K mg base x C f
  isa : ∀ C c b, S.isa C c = some b → XvC K C ∧ ∀ u, ClsN mg c u → PySem.W.kitOne K (.ref C) u = some b ∧ PySem.W.exmOne K (.ref C) u = some b
  iso : ∀ C c b, S.iso C c = some b → OcC K C ∧ ∀ u, ClsN mg c u → PySem.W.kitOne K (.ref C) u = some b
  isb : ∀ c, S.isb c = true → ∀ u, ClsN mg c u → ∀ T ∈ bTs, PySem.W.kitOne K (.type T) u = some false
  xf : ∀ C f, S.xf C f → XvC K C ∧ PySem.W.findIn K (.ref C) f = some none
  mt : ∀ C m g, S.mt C m = some g → Cls K C ∧ ∃ f fd ps, Meth K C m f ∧ FnG P w K mg base (2 * k + 1) f fd ps (F.fn g) ∧ Binds K fd ps []
  mkc : ∀ x n ks C g pm, gl x = .ocl → S.mkc x n ks = some (C, g, pm) → MkOk P w K mg base (2 * k + 1) x n ks C (F.fn g) pm
/-- a context of expressions -/
structure OkE (X : Cx) (S : Stat) (F : Sm) (k : Nat) (C : CI) (W : WX) : Prop where
  G : GOk X.prog X.w X.K X.mg X.base S F k C.gl
  N : X.N = C.N
  nd : C.N.Nodup
  sc : X.env.scope.names = C.sc.names
  calm : X.calm = true
  gd : X.A.guards = some []
  rm : Room (2 * k + 2) X.A
  tk : Takes X W
  kd : X.env.scope.kind = .function
/-- a body's context -/
structure Ok (X : Cx) (S : Stat) (F : Sm) (k : Nat) (C : CI) (W : WX) : Prop extends OkE X S F k C W where
  po : PassesOwn (model X.prog X.w) X.A X.env X.xe
  cf : ∀ x, C.sc.names.lookup x = some .cell → X.fn x = true
  stk : X.stack = X.env :: X.outer
  frm : X.env.frame = some X.env.locals
  exn : X.ex = []
theorem btBi_name {b : Bi} {T : Bt} (h : btBi b = some T) : biN b = btN T := by
  cases b <;> cases h <;> rfl
section
variable {X : Cx} {S : Stat} {F : Sm} {k : Nat} {C : CI} {W : WX}
theorem OkE.hu (O : OkE X S F k C W) : X.A.units + 64 < cLine := O.rm.units
theorem OkE.hu1 (O : OkE X S F k C W) : X.A.units + 1 < cLine := by have := O.rm.units; omega
theorem OkE.gl (O : OkE X S F k C W) {x : Str} (h : isG C x = true) : Gl X x := by
  unfold isG at h
  show X.env.scope.names.lookup x = _
  rw [O.sc]
  split at h
  · assumption
  · cases h
theorem idxOf_get {α : Type} [BEq α] [LawfulBEq α] {x : α} : ∀ {l : List α} {i : Nat}, l.idxOf? x = some i → l[i]? = some x := by
  intro l
  induction l with
  | nil => intro i h; cases h
  | cons a r ih =>
    intro i h
    rw [List.idxOf?_cons] at h
    split at h
    · rename_i e
      cases h
      simp at e
      simp [e]
    · cases e : r.idxOf? x with
      | none => rw [e] at h; cases h
      | some j =>
        rw [e] at h
        cases h
        simpa using ih e
theorem OkE.slot (O : OkE X S F k C W) {x : Str} {i : Nat} (h : slotOf C x = some i) : X.N[i]? = some x ∧ Vis X.env.scope x := by
  unfold slotOf at h
  rw [← O.sc] at h
  rw [O.N]
  split at h
  · rename_i e
    exact ⟨idxOf_get h, .inl e⟩
  · rename_i e
    exact ⟨idxOf_get h, .inr (.inl e)⟩
  · rename_i e
    exact ⟨idxOf_get h, .inr (.inr e)⟩
  · cases h
theorem okN_d {x : Str} (h : okN x = true) : (x == ("__debug__" : Str)) = false ∧ (x == ("__classdict__" : Str)) = false := by
  unfold okN at h
  simp only [Bool.and_eq_true, Bool.not_eq_true'] at h
  exact h
theorem gk_name {b : Bi} : okN (biN b) = true := by cases b <;> decide
/-- what is turned is no star -/
def notStar : Expr → Bool
  | .Starred _ _ => false
  | _ => true
theorem cE_star {n : Nat} {e : Expr} {c : Ex} (h : cE C n e = some c) : notStar e = true := by
  cases n with
  | zero => unfold cE at h; cases h
  | succ n => cases e <;> first | rfl | (unfold cE at h; cases h)
theorem star_one {e : Expr} {es : List Expr} {env : Env} (h : notStar e = true) : starEach (e :: es) env = (false, eval e env) :: starEach es env := by
  cases e <;> first | rfl | cases h
theorem star_no {env : Env} {pos : Pos} : ∀ {es : List Expr}, (∀ e ∈ es, notStar e = true) → (backTo pos (starEach es env)).any (·.1) = false
  | [], _ => rfl
  | e :: es, h => by
    rw [star_one (h e (List.mem_cons_self ..))]
    have ih := star_no (es := es) (env := env) (pos := pos) fun a ha => h a (List.mem_cons_of_mem _ ha)
    unfold backTo at ih ⊢
    rw [List.map_cons, List.any_cons]
    simp only [Bool.false_or]
    exact ih
theorem nCE_cons {f : Expr → Option Ex} {e : Expr} {es : List Expr} {c : Exs} (h : nCE f (e :: es) = some c) : ∃ a b, f e = some a ∧ nCE f es = some b ∧ c = .cons a b := by
  unfold nCE at h
  split at h
  · rename_i a b h1 h2
    cases h
    exact ⟨a, b, h1, h2, rfl⟩
  · cases h
theorem nCE_star {n : Nat} : ∀ {es : List Expr} {c : Exs}, nCE (cE C n) es = some c → ∀ e ∈ es, notStar e = true
  | [], _, _, e, he => by cases he
  | a :: es, c, h, e, he => by
    obtain ⟨x, y, h1, h2, _⟩ := nCE_cons h
    rcases List.mem_cons.mp he with rfl | he
    · exact cE_star h1
    · exact nCE_star h2 e he
theorem nCE_pa {n : Nat} (ih : ∀ e c, cE C n e = some c → PE X e (wE S F W c)) : ∀ {es : List Expr} {c : Exs}, nCE (cE C n) es = some c → PA X es (wA S F W c)
  | [], c, h => by
    unfold nCE at h
    cases h
    unfold wA
    exact pa_nil
  | e :: es, c, h => by
    obtain ⟨a, b, h1, h2, rfl⟩ := nCE_cons h
    unfold wA
    exact pa_cons (ih e a h1) (nCE_pa ih h2) (star_one (cE_star h1))
/-- two parts -/
theorem pair_some {α β γ : Type} {x : Option α} {y : Option β} {f : α → β → γ} {c : γ} (h : (match x, y with | some a, some b => some (f a b) | _, _ => none) = some c) : ∃ a b, x = some a ∧ y = some b ∧ c = f a b := by
  cases x with
  | none => cases h
  | some a =>
    cases y with
    | none => cases h
    | some b => cases h; exact ⟨a, b, rfl, rfl, rfl⟩
theorem PE.imp {e : Expr} {t t' : TE} (h : PE X e t) (q : ∀ σ H Q, t' σ H Q → t σ H Q) : PE X e t' := ⟨fun pins s σ H Q I z => h.run pins s σ H Q I (q σ H Q z)⟩
theorem PT.imp {e : Expr} {t t' : TT} (h : PT X e t) (q : ∀ σ H Q, t' σ H Q → t σ H Q) : PT X e t' := ⟨fun pins s σ H Q I z => h.run pins s σ H Q I (q σ H Q z)⟩
end
end QL
set_option Elab.async false
set_option linter.all false
set_option maxRecDepth 100000
set_option maxHeartbeats 4000000
/-! Q6: a weaker end is reached, too. -/
namespace QL
open PySem PySem.Spec L2
open PyProof.Rows hiding St
section
variable {x y : V} {H : Hp} {Q Q' : VK} {so : Addr → Option HO}
theorem opV_mono {o : Operator} (q : ∀ v H', Q v H' → Q' v H') (h : opV so o x y H Q) : opV so o x y H Q' := by
  cases o with
  | Add =>
    change addV so x y H Q at h
    show addV so x y H Q'
    unfold addV at h ⊢
    split at h
    · exact q _ _ h
    · exact ⟨h.1, q _ _ h.2⟩
    · split at h
      · exact ⟨h.1, fun r hr hs => q _ _ (h.2 r hr hs)⟩
      · exact h.elim
    · exact h.elim
  | Sub =>
    change subV x y H Q at h
    show subV x y H Q'
    unfold subV at h ⊢
    split at h
    · exact q _ _ h
    · exact h.elim
  | Mult =>
    change mulV so x y H Q at h
    show mulV so x y H Q'
    unfold mulV at h ⊢
    split at h
    · exact ⟨h.1, q _ _ h.2⟩
    · exact ⟨h.1, h.2.1, h.2.2.1, q _ _ h.2.2.2⟩
    · split at h
      · exact ⟨h.1, h.2.1, h.2.2.1, fun r hr hs => q _ _ (h.2.2.2 r hr hs)⟩
      · exact h.elim
    · exact h.elim
  | FloorDiv =>
    change divV x y H Q at h
    show divV x y H Q'
    unfold divV at h ⊢
    split at h
    · exact ⟨h.1, q _ _ h.2⟩
    · exact h.elim
  | Mod =>
    change modV x y H Q at h
    show modV x y H Q'
    unfold modV at h ⊢
    split at h
    · exact ⟨h.1, q _ _ h.2⟩
    · exact h.elim
  | Pow =>
    change powV x y H Q at h
    show powV x y H Q'
    unfold powV at h ⊢
    split at h
    · exact ⟨h.1, q _ _ h.2⟩
    · exact h.elim
  | LShift =>
    change shlV x y H Q at h
    show shlV x y H Q'
    unfold shlV at h ⊢
    split at h
    · exact ⟨h.1, q _ _ h.2⟩
    · exact h.elim
  | _ => exact h.elim
theorem eqD_mono {n : Bool} (q : ∀ v H', Q v H' → Q' v H') (h : eqD so n x y H Q) : eqD so n x y H Q' := by
  unfold eqD at h ⊢
  split at h
  · exact q _ _ h
  · split at h
    · exact q _ _ h
    · obtain ⟨d, e, h1, h2, h3, h4, z⟩ := h
      exact ⟨d, e, h1, h2, h3, h4, q _ _ z⟩
theorem ordV_mono {p : Int → Int → Bool} (q : ∀ v H', Q v H' → Q' v H') (h : ordV p x y H Q) : ordV p x y H Q' := by
  unfold ordV at h ⊢
  split at h
  · exact q _ _ h
  · exact h.elim
theorem inD_mono {n : Bool} (q : ∀ v H', Q v H' → Q' v H') (h : inD so n x y H Q) : inD so n x y H Q' := by
  unfold inD at h ⊢
  split at h
  · split at h
    · exact q _ _ h
    · exact h.elim
  · split at h
    · exact ⟨h.1, h.2.1, q _ _ h.2.2⟩
    · exact ⟨h.1, h.2.1, q _ _ h.2.2⟩
    · split at h
      · exact q _ _ h
      · exact h.elim
    · exact h.elim
  · exact h.elim
theorem isV_mono {n : Bool} (q : ∀ v H', Q v H' → Q' v H') (h : isV n x y H Q) : isV n x y H Q' := by
  unfold isV at h ⊢
  split at h
  · exact q _ _ h
  · exact q _ _ h
  · split at h
    · exact ⟨h.1, h.2.1, q _ _ h.2.2⟩
    · exact h.elim
  · exact h.elim
theorem cmpV_mono {o : CmpOp} (q : ∀ v H', Q v H' → Q' v H') (h : cmpV so o x y H Q) : cmpV so o x y H Q' := match o, h with
  | .Eq, h => eqD_mono q h
  | .NotEq, h => eqD_mono q h
  | .Lt, h => ordV_mono q h
  | .LtE, h => ordV_mono q h
  | .Gt, h => ordV_mono q h
  | .GtE, h => ordV_mono q h
  | .In, h => inD_mono q h
  | .NotIn, h => inD_mono q h
  | .Is, h => isV_mono q h
  | .IsNot, h => isV_mono q h
theorem idxV_mono (q : ∀ v H', Q v H' → Q' v H') (h : idxV so x y H Q) : idxV so x y H Q' := by
  unfold idxV at h ⊢
  split at h
  · split at h
    · split at h
      · exact q _ _ h
      · exact h.elim
    · split at h
      · exact q _ _ h
      · exact h.elim
    · split at h
      · split at h
        · exact q _ _ h
        · exact h.elim
      · exact h.elim
    · exact h.elim
  · split at h
    · split at h
      · split at h
        · exact q _ _ h
        · exact h.elim
      · exact h.elim
    · exact h.elim
  · refine ⟨h.1, ?_⟩
    have h := h.2
    split at h
    · exact q _ _ h
    · exact h.elim
  · exact h.elim
theorem slcV_mono {a b : Option Int} (q : ∀ v H', Q v H' → Q' v H') (h : slcV so x a b H Q) : slcV so x a b H Q' := by
  unfold slcV at h ⊢
  split at h
  · exact fun p hp hs => q _ _ (h p hp hs)
  · exact h.elim
theorem biV_mono {b : Bi} {xs : List V} (q : ∀ v H', Q v H' → Q' v H') (h : biV so b xs H Q) : biV so b xs H Q' := by
  cases b with
  | len =>
    change bLen so xs H Q at h
    show bLen so xs H Q'
    unfold bLen at h ⊢
    split at h
    · split at h
      · exact q _ _ h
      · exact h.elim
    · exact h.elim
  | int =>
    change bInt xs H Q at h
    show bInt xs H Q'
    unfold bInt at h ⊢
    split at h
    · exact q _ _ h
    · exact q _ _ h
    · obtain ⟨z, n, e, h⟩ := h
      exact ⟨z, n, e, q _ _ h⟩
    · exact h.elim
  | bool =>
    change bBool xs H Q at h
    show bBool xs H Q'
    unfold bBool at h ⊢
    split at h
    · exact q _ _ h
    · exact q _ _ h
    · exact h.elim
  | str =>
    change bStr xs H Q at h
    show bStr xs H Q'
    unfold bStr at h ⊢
    split at h
    · exact ⟨h.1, q _ _ h.2⟩
    · exact h.elim
  | repr =>
    change bRepr so xs H Q at h
    show bRepr so xs H Q'
    unfold bRepr at h ⊢
    split at h
    · rcases h with ⟨d, h1, h2, h3, h4, h5, h⟩ | ⟨a, h1, h2, h⟩
      · exact .inl ⟨d, h1, h2, h3, h4, h5, q _ _ h⟩
      · exact .inr ⟨a, h1, h2, q _ _ h⟩
    · exact h.elim
  | min =>
    change bMin xs H Q at h
    show bMin xs H Q'
    unfold bMin at h ⊢
    split at h
    · exact q _ _ h
    · exact h.elim
  | max =>
    change bMax xs H Q at h
    show bMax xs H Q'
    unfold bMax at h ⊢
    split at h
    · exact q _ _ h
    · exact h.elim
  | abs =>
    change bAbs xs H Q at h
    show bAbs xs H Q'
    unfold bAbs at h ⊢
    split at h
    · exact q _ _ h
    · exact h.elim
  | sum =>
    change bSum so xs H Q at h
    show bSum so xs H Q'
    unfold bSum at h ⊢
    split at h
    · split at h
      · exact q _ _ h
      · exact h.elim
    · exact h.elim
  | any =>
    change bAny so xs H Q at h
    show bAny so xs H Q'
    unfold bAny at h ⊢
    split at h
    · split at h
      · exact q _ _ h
      · exact h.elim
    · exact h.elim
  | all =>
    change bAll so xs H Q at h
    show bAll so xs H Q'
    unfold bAll at h ⊢
    split at h
    · split at h
      · exact q _ _ h
      · exact h.elim
    · exact h.elim
  | list =>
    change bList so xs H Q at h
    show bList so xs H Q'
    unfold bList at h ⊢
    split at h
    · split at h
      · exact fun p hp hs => q _ _ (h p hp hs)
      · exact fun p hp hs => q _ _ (h p hp hs)
      · exact h.elim
    · exact h.elim
  | tuple =>
    change bTuple so xs H Q at h
    show bTuple so xs H Q'
    unfold bTuple at h ⊢
    split at h
    · split at h
      · exact fun p hp hs => q _ _ (h p hp hs)
      · exact q _ _ h
      · exact h.elim
    · exact h.elim
  | sorted =>
    change bSorted so xs H Q at h
    show bSorted so xs H Q'
    unfold bSorted at h ⊢
    split at h
    · split at h
      · exact ⟨h.1, fun a p h1 h2 h3 h4 => q _ _ (h.2 a p h1 h2 h3 h4)⟩
      · exact h.elim
    · exact h.elim
theorem fldV_mono {S : Stat} {f : Str} (q : ∀ v H', Q v H' → Q' v H') (h : fldV S f x H Q) : fldV S f x H Q' := by
  unfold fldV at h ⊢
  split at h
  · split at h
    · refine ⟨h.1, ?_⟩
      have h := h.2
      split at h
      · exact q _ _ h
      · exact h.elim
    · obtain ⟨C, fs, v, h1, h2, h3, h4⟩ := h
      exact ⟨C, fs, v, h1, h2, h3, q _ _ h4⟩
    · exact h.elim
  · exact h.elim
theorem isxK_mono {S : Stat} {c : Str} {B B' : Bool → Prop} (q : ∀ b, B b → B' b) (h : isxK S c x H B) : isxK S c x H B' := by
  unfold isxK at h ⊢
  split at h
  · split at h
    · obtain ⟨C, fs, b, h1, h2, h3⟩ := h
      exact ⟨C, fs, b, h1, h2, q _ h3⟩
    · obtain ⟨b, h1, h2⟩ := h
      exact ⟨b, h1, q _ h2⟩
    · exact ⟨h.1, q _ h.2⟩
    · exact ⟨h.1, q _ h.2⟩
    · exact ⟨h.1, q _ h.2⟩
    · exact h.elim
  · exact ⟨h.1, q _ h.2⟩
  · exact ⟨h.1, q _ h.2⟩
  · exact ⟨h.1, q _ h.2⟩
  · exact ⟨h.1, q _ h.2⟩
  · exact h.elim
theorem mkxV_mono {S : Stat} {c : Str} {vs : List V} (q : ∀ v H', Q v H' → Q' v H') (h : mkxV S c vs H Q) : mkxV S c vs H Q' := by
  unfold mkxV at h ⊢
  split at h
  · split at h
    · exact fun a d h1 h2 h3 h4 h5 => q _ _ (h a d h1 h2 h3 h4 h5)
    · exact h.elim
  · exact ⟨h.1, fun a h1 h2 => q _ _ (h.2 a h1 h2)⟩
  · exact h.elim
theorem raiV_mono {S : Stat} {c : Str} {vs : List V} {B B' : XK} (q : ∀ c d H', B c d H' → B' c d H') (h : raiV S c vs H B) : raiV S c vs H B' := by
  unfold raiV at h ⊢
  split at h
  · split at h
    · exact fun d h1 h2 => q _ _ _ (h d h1 h2)
    · exact h.elim
  · exact h.elim
theorem metK_mono {S : Stat} {m : Str} {B B' : Str → Prop} (q : ∀ g, B g → B' g) (h : metK S m x H B) : metK S m x H B' := by
  unfold metK at h ⊢
  split at h
  · split at h
    · refine ⟨h.1, ?_⟩
      have h := h.2
      split at h
      · exact q _ h
      · exact h.elim
    · exact h.elim
  · exact h.elim
theorem bmV_mono {S : Stat} {m : Bm} {vs : List V} (q : ∀ v H', Q v H' → Q' v H') (h : bmV S m x vs H Q) : bmV S m x vs H Q' := by
  cases m with
  | count =>
    change mCount S x vs H Q at h
    show mCount S x vs H Q'
    unfold mCount at h ⊢
    split at h
    · split at h
      · exact ⟨h.1, h.2.1, q _ _ h.2.2⟩
      · exact h.elim
    · exact h.elim
  | append =>
    change mAppend x vs H Q at h
    show mAppend x vs H Q'
    unfold mAppend at h ⊢
    split at h
    · split at h
      · exact ⟨h.1, q _ _ h.2⟩
      · exact h.elim
    · exact h.elim
  | insert =>
    change mInsert x vs H Q at h
    show mInsert x vs H Q'
    unfold mInsert at h ⊢
    split at h
    · split at h
      · exact ⟨h.1, h.2.1, q _ _ h.2.2⟩
      · exact h.elim
    · exact h.elim
theorem boolV_mono {B B' : Bool → Hp → Prop} (q : ∀ k H', B k H' → B' k H') (v : V) (H' : Hp) (h : boolV B v H') : boolV B' v H' := by
  unfold boolV at h ⊢
  split at h
  · exact q _ _ h
  · exact h.elim
end
/-- the defs' promises may be weakened -/
def SmMono (F : Sm) : Prop := ∀ (f : Str) (vs : List V) (H : Hp) (Q Q' : VK) (E E' : XK), (∀ v H', Q v H' → Q' v H') → (∀ c d H', E c d H' → E' c d H') → F.fn f vs H Q E → F.fn f vs H Q' E'
theorem mkK_mono {S : Stat} {F : Sm} (M : SmMono F) {c : Str} {ks : List Str} {vs : List V} {H : Hp} {Q Q' : VK} {E E' : XK} (q : ∀ v H', Q v H' → Q' v H') (e : ∀ c d H', E c d H' → E' c d H') (h : mkK S F c ks vs H Q E) : mkK S F c ks vs H Q' E' := by
  unfold mkK at h ⊢
  split at h
  · split at h
    · exact fun x dx h1 h2 h3 h4 h5 => M _ _ _ _ _ _ _ (fun v H' z => ⟨z.1, q _ _ z.2⟩) e (h x dx h1 h2 h3 h4 h5)
    · exact h.elim
  · exact h.elim
theorem gT_mono {so : Addr → Option HO} {t : Tg} {x : V} {σ : St} {H : Hp} {Q Q' : St → Hp → Prop} (q : ∀ σ H, Q σ H → Q' σ H) (h : gT so t x σ H Q) : gT so t x σ H Q' := by
  cases t with
  | nm i => exact q _ _ h
  | tp is =>
    unfold gT at h ⊢
    simp only at h ⊢
    split at h
    · split at h
      · unfold parK at h ⊢
        split at h
        · exact q _ _ h
        · exact h.elim
      · exact h.elim
    · exact h.elim
theorem seqK_mono {so : Addr → Option HO} {x : V} {H : Hp} {B B' : List V → (Hp → Prop) → Prop} (q : ∀ xs kp, B xs kp → B' xs kp) (h : seqK so x H B) : seqK so x H B' := by
  unfold seqK at h ⊢
  split at h
  · split at h
    · exact q _ _ h
    · exact q _ _ h
    · exact h.elim
  · exact h.elim
theorem lcL_mono {so : Addr → Option HO} {kp : Hp → Prop} {t : Tg} {tt tt' : TT} {te te' : TE} {D : Addr} {σ : St} {R R' : Hp → Prop} (mt : ∀ σ H Q Q', (∀ b H', Q b H' → Q' b H') → tt σ H Q → tt' σ H Q') (me : ∀ σ H Q Q', (∀ b H', Q b H' → Q' b H') → te σ H Q → te' σ H Q')
    (r : ∀ H, R H → R' H) : ∀ (xs : List V) (H : Hp), lcL kp (gT so t) tt te D σ xs H R → lcL kp (gT so t) tt' te' D σ xs H R'
  | [], H, h => ⟨h.1, r _ h.2⟩
  | x :: xs, H, h => ⟨h.1, gT_mono (fun σ2 H2 h2 => mt _ _ _ _ (fun b H3 h3 => by
      cases b with
      | true => exact me _ _ _ _ (fun y H4 ⟨acc, a1, a2, a3⟩ => ⟨acc, a1, a2, lcL_mono mt me r xs _ a3⟩) h3
      | false => exact lcL_mono mt me r xs _ h3) h2) h.2⟩
section
variable {S : Stat} {F : Sm} (M : SmMono F)
include M
mutual
theorem wE_mo : ∀ (c : Ex) {W W' : WX} (w : ∀ c d σ H, W c d σ H → W' c d σ H) {σ : St} {H : Hp} {Q Q' : VK}, (∀ v H', Q v H' → Q' v H') → wE S F W c σ H Q → wE S F W' c σ H Q'
  | .var i, W, W', w, σ, H, Q, Q', q, h => by
    unfold wE varK at h ⊢
    split at h
    · exact q _ _ h
    · exact h.elim
  | .lit v, W, W', w, σ, H, Q, Q', q, h => by
    unfold wE at h ⊢
    exact q _ _ h
  | .cst x, W, W', w, σ, H, Q, Q', q, h => by
    unfold wE cstK at h ⊢
    split at h
    · exact q _ _ h
    · exact h.elim
  | .op o a b, W, W', w, σ, H, Q, Q', q, h => by
    unfold wE at h ⊢
    exact wE_mo a w (fun x H1 h1 => wE_mo b w (fun y H2 h2 => opV_mono q h2) h1) h
  | .neg a, W, W', w, σ, H, Q, Q', q, h => by
    unfold wE at h ⊢
    refine wE_mo a w (fun x H1 h1 => ?_) h
    first | unfold truK at h1 ⊢ | unfold btK at h1 ⊢ | unfold intK at h1 ⊢
    split at h1
    · exact q _ _ h1
    · exact h1.elim
  | .cmp o a b, W, W', w, σ, H, Q, Q', q, h => by
    unfold wE at h ⊢
    exact wE_mo a w (fun x H1 h1 => wE_mo b w (fun y H2 h2 => cmpV_mono q h2) h1) h
  | .chn o o' a b c, W, W', w, σ, H, Q, Q', q, h => by
    unfold wE at h ⊢
    refine wE_mo a w (fun x H1 h1 => wE_mo b w (fun y H2 h2 => cmpV_mono (boolV_mono fun k H3 h3 => ?_) h2) h1) h
    cases k with
    | true => exact wE_mo c w (fun z H4 h4 => cmpV_mono q h4) h3
    | false => exact q _ _ h3
  | .and a b, W, W', w, σ, H, Q, Q', q, h => by
    unfold wE at h ⊢
    refine wE_mo a w (fun x H1 h1 => ?_) h
    unfold truK at h1 ⊢
    split at h1
    · rename_i k _
      cases k with
      | true => exact wE_mo b w q h1
      | false => exact q _ _ h1
    · exact h1.elim
  | .or a b, W, W', w, σ, H, Q, Q', q, h => by
    unfold wE at h ⊢
    refine wE_mo a w (fun x H1 h1 => ?_) h
    unfold truK at h1 ⊢
    split at h1
    · rename_i k _
      cases k with
      | true => exact q _ _ h1
      | false => exact wE_mo b w q h1
    · exact h1.elim
  | .not a, W, W', w, σ, H, Q, Q', q, h => by
    unfold wE at h ⊢
    refine wE_mo a w (fun x H1 h1 => ?_) h
    first | unfold truK at h1 ⊢ | unfold btK at h1 ⊢ | unfold intK at h1 ⊢
    split at h1
    · exact q _ _ h1
    · exact h1.elim
  | .ite t a b, W, W', w, σ, H, Q, Q', q, h => by
    unfold wE at h ⊢
    refine wT_mo t w (fun k H1 h1 => ?_) h
    cases k with
    | true => exact wE_mo a w q h1
    | false => exact wE_mo b w q h1
  | .fld o f, W, W', w, σ, H, Q, Q', q, h => by
    unfold wE at h ⊢
    exact wE_mo o w (fun x H1 h1 => fldV_mono q h1) h
  | .idx o i, W, W', w, σ, H, Q, Q', q, h => by
    unfold wE at h ⊢
    exact wE_mo o w (fun x H1 h1 => wE_mo i w (fun y H2 h2 => idxV_mono q h2) h1) h
  | .slc o lo hi, W, W', w, σ, H, Q, Q', q, h => by
    unfold wE at h ⊢
    exact wE_mo o w (fun x H1 h1 => wO_mo lo w (fun y H2 h2 => wO_mo hi w (fun z H3 h3 => slcV_mono q h3) h2) h1) h
  | .lst es, W, W', w, σ, H, Q, Q', q, h => by
    unfold wE at h ⊢
    exact wA_mo es w (fun xs H1 h1 => ⟨h1.1, fun p hp hs => q _ _ (h1.2 p hp hs)⟩) h
  | .tup es, W, W', w, σ, H, Q, Q', q, h => by
    unfold wE at h ⊢
    exact wA_mo es w (fun xs H1 h1 => ⟨h1.1, fun p hp hs => q _ _ (h1.2 p hp hs)⟩) h
  | .fn f es, W, W', w, σ, H, Q, Q', q, h => by
    unfold wE at h ⊢
    exact wA_mo es w (fun xs H1 h1 => M f xs H1 Q Q' _ _ q (fun c d H' z => w c d σ H' z) h1) h
  | .bi b es, W, W', w, σ, H, Q, Q', q, h => by
    unfold wE at h ⊢
    exact wA_mo es w (fun xs H1 h1 => biV_mono q h1) h
  | .isi e T, W, W', w, σ, H, Q, Q', q, h => by
    unfold wE at h ⊢
    refine wE_mo e w (fun x H1 h1 => ?_) h
    first | unfold truK at h1 ⊢ | unfold btK at h1 ⊢ | unfold intK at h1 ⊢
    split at h1
    · exact q _ _ h1
    · exact h1.elim
  | .isx e c, W, W', w, σ, H, Q, Q', q, h => by
    unfold wE at h ⊢
    exact wE_mo e w (fun x H1 h1 => isxK_mono (fun b z => q _ _ z) h1) h
  | .mkx c es, W, W', w, σ, H, Q, Q', q, h => by
    unfold wE at h ⊢
    exact wA_mo es w (fun xs H1 h1 => mkxV_mono q h1) h
  | .dct0, W, W', w, σ, H, Q, Q', q, h => by
    unfold wE at h ⊢
    exact fun p h1 h2 => q _ _ (h p h1 h2)
  | .met o m es, W, W', w, σ, H, Q, Q', q, h => by
    unfold wE at h ⊢
    exact wE_mo o w (fun x H1 h1 => metK_mono (fun g z => wA_mo es w (fun vs H2 h2 => M g _ H2 Q Q' _ _ q (fun c d H' z => w c d σ H' z) h2) z) h1) h
  | .bm m o es, W, W', w, σ, H, Q, Q', q, h => by
    unfold wE at h ⊢
    exact wE_mo o w (fun x H1 h1 => ⟨h1.1, wA_mo es w (fun vs H2 h2 => bmV_mono q h2) h1.2⟩) h
  | .mkC c ks es, W, W', w, σ, H, Q, Q', q, h => by
    unfold wE at h ⊢
    exact wA_mo es w (fun vs H1 h1 => mkK_mono M q (fun c d H' z => w c d σ H' z) h1) h
  | .lc t s c e vs, W, W', w, σ, H, Q, Q', q, h => by
    unfold wE at h ⊢
    exact wI_mo s w (fun xs kp H1 h1 D hD sD => lcL_mono (tt := wT S F never c) (te := wE S F never e) (tt' := wT S F never c) (te' := wE S F never e) (fun _ _ _ _ q z => wT_mo c (fun _ _ _ _ z => z) q z) (fun _ _ _ _ q z => wE_mo e (fun _ _ _ _ z => z) q z) (fun H' z => q (.ref D) H' z) xs _ (h1 D hD sD)) h
theorem wI_mo : ∀ (c : Sr) {W W' : WX} (w : ∀ c d σ H, W c d σ H → W' c d σ H) {σ : St} {H : Hp} {B B' : List V → (Hp → Prop) → Hp → Prop}, (∀ xs kp H', B xs kp H' → B' xs kp H') → wI S F W c σ H B → wI S F W' c σ H B'
  | .rng lo hi, W, W', w, σ, H, B, B', q, h => by
    unfold wI at h ⊢
    refine wE_mo lo w (fun x H1 h1 => wE_mo hi w (fun y H2 h2 => ?_) h1) h
    unfold intK at h2 ⊢
    split at h2
    · split at h2
      · exact q _ _ _ h2
      · exact h2.elim
    · exact h2.elim
  | .val e, W, W', w, σ, H, B, B', q, h => by
    unfold wI at h ⊢
    exact wE_mo e w (fun x H1 h1 => seqK_mono (fun xs kp z => q _ _ _ z) h1) h
theorem wA_mo : ∀ (c : Exs) {W W' : WX} (w : ∀ c d σ H, W c d σ H → W' c d σ H) {σ : St} {H : Hp} {Q Q' : List V → Hp → Prop}, (∀ v H', Q v H' → Q' v H') → wA S F W c σ H Q → wA S F W' c σ H Q'
  | .nil, W, W', w, σ, H, Q, Q', q, h => by
    unfold wA at h ⊢
    exact q _ _ h
  | .cons e es, W, W', w, σ, H, Q, Q', q, h => by
    unfold wA at h ⊢
    exact wE_mo e w (fun x H1 h1 => wA_mo es w (fun xs H2 h2 => q _ _ h2) h1) h
theorem wO_mo : ∀ (c : Ox) {W W' : WX} (w : ∀ c d σ H, W c d σ H → W' c d σ H) {σ : St} {H : Hp} {Q Q' : Option Int → Hp → Prop}, (∀ v H', Q v H' → Q' v H') → wO S F W c σ H Q → wO S F W' c σ H Q'
  | .none, W, W', w, σ, H, Q, Q', q, h => by
    unfold wO at h ⊢
    exact q _ _ h
  | .some e, W, W', w, σ, H, Q, Q', q, h => by
    unfold wO at h ⊢
    refine wE_mo e w (fun x H1 h1 => ?_) h
    first | unfold truK at h1 ⊢ | unfold btK at h1 ⊢ | unfold intK at h1 ⊢
    split at h1
    · exact q _ _ h1
    · exact h1.elim
theorem wT_mo : ∀ (c : Te) {W W' : WX} (w : ∀ c d σ H, W c d σ H → W' c d σ H) {σ : St} {H : Hp} {Q Q' : Bool → Hp → Prop}, (∀ v H', Q v H' → Q' v H') → wT S F W c σ H Q → wT S F W' c σ H Q'
  | .val e, W, W', w, σ, H, Q, Q', q, h => by
    unfold wT at h ⊢
    refine wE_mo e w (fun x H1 h1 => ?_) h
    first | unfold truK at h1 ⊢ | unfold btK at h1 ⊢ | unfold intK at h1 ⊢
    split at h1
    · exact q _ _ h1
    · exact h1.elim
  | .cmp o a b, W, W', w, σ, H, Q, Q', q, h => by
    unfold wT at h ⊢
    exact wE_mo a w (fun x H1 h1 => wE_mo b w (fun y H2 h2 => cmpV_mono (boolV_mono q) h2) h1) h
  | .chn o o' a b c, W, W', w, σ, H, Q, Q', q, h => by
    unfold wT at h ⊢
    refine wE_mo a w (fun x H1 h1 => wE_mo b w (fun y H2 h2 => cmpV_mono (boolV_mono fun k H3 h3 => ?_) h2) h1) h
    cases k with
    | true => exact wE_mo c w (fun z H4 h4 => cmpV_mono (boolV_mono q) h4) h3
    | false => exact q _ _ h3
  | .and a b, W, W', w, σ, H, Q, Q', q, h => by
    unfold wT at h ⊢
    refine wT_mo a w (fun k H1 h1 => ?_) h
    cases k with
    | true => exact wT_mo b w q h1
    | false => exact q _ _ h1
  | .or a b, W, W', w, σ, H, Q, Q', q, h => by
    unfold wT at h ⊢
    refine wT_mo a w (fun k H1 h1 => ?_) h
    cases k with
    | true => exact q _ _ h1
    | false => exact wT_mo b w q h1
  | .not a, W, W', w, σ, H, Q, Q', q, h => by
    unfold wT at h ⊢
    exact wT_mo a w (fun k H1 h1 => q _ _ h1) h
  | .yes, W, W', w, σ, H, Q, Q', q, h => by
    unfold wT at h ⊢
    exact q _ _ h
end
end
section
variable {S : Stat} {F : Sm} {W W' : WX} (M : SmMono F) (w : ∀ c d σ H, W c d σ H → W' c d σ H)
include M w
theorem wE_mono2 (c : Ex) {σ : St} {H : Hp} {Q Q' : VK} (q : ∀ v H', Q v H' → Q' v H') (h : wE S F W c σ H Q) : wE S F W' c σ H Q' := wE_mo M c w q h
theorem wA_mono2 (c : Exs) {σ : St} {H : Hp} {Q Q' : List V → Hp → Prop} (q : ∀ v H', Q v H' → Q' v H') (h : wA S F W c σ H Q) : wA S F W' c σ H Q' := wA_mo M c w q h
theorem wT_mono2 (c : Te) {σ : St} {H : Hp} {Q Q' : Bool → Hp → Prop} (q : ∀ v H', Q v H' → Q' v H') (h : wT S F W c σ H Q) : wT S F W' c σ H Q' := wT_mo M c w q h
theorem wO_mono2 (c : Ox) {σ : St} {H : Hp} {Q Q' : Option Int → Hp → Prop} (q : ∀ v H', Q v H' → Q' v H') (h : wO S F W c σ H Q) : wO S F W' c σ H Q' := wO_mo M c w q h
theorem wI_mono2 (c : Sr) {σ : St} {H : Hp} {B B' : List V → (Hp → Prop) → Hp → Prop} (q : ∀ xs kp H', B xs kp H' → B' xs kp H') (h : wI S F W c σ H B) : wI S F W' c σ H B' := wI_mo M c w q h
end
section
variable {S : Stat} {F : Sm} {W : WX} (M : SmMono F)
include M
theorem wI_mono (c : Sr) {σ : St} {H : Hp} {B B' : List V → (Hp → Prop) → Hp → Prop} (q : ∀ xs kp H', B xs kp H' → B' xs kp H') (h : wI S F W c σ H B) : wI S F W c σ H B' := wI_mono2 M (fun _ _ _ _ z => z) c q h
theorem wE_mono (c : Ex) {σ : St} {H : Hp} {Q Q' : VK} (q : ∀ v H', Q v H' → Q' v H') (h : wE S F W c σ H Q) : wE S F W c σ H Q' := wE_mono2 M (fun _ _ _ _ z => z) c q h
theorem wA_mono (c : Exs) {σ : St} {H : Hp} {Q Q' : List V → Hp → Prop} (q : ∀ v H', Q v H' → Q' v H') (h : wA S F W c σ H Q) : wA S F W c σ H Q' := wA_mono2 M (fun _ _ _ _ z => z) c q h
theorem wT_mono (c : Te) {σ : St} {H : Hp} {Q Q' : Bool → Hp → Prop} (q : ∀ v H', Q v H' → Q' v H') (h : wT S F W c σ H Q) : wT S F W c σ H Q' := wT_mono2 M (fun _ _ _ _ z => z) c q h
end
end QL
set_option Elab.async false
set_option linter.all false
set_option maxRecDepth 100000
set_option maxHeartbeats 4000000
/-! Q7: the turned expressions keep what is asked. -/
namespace QL
open PySem PySem.Spec L2
open PyProof.Rows hiding St
section
variable {X : Cx} {S : Stat} {F : Sm} {k : Nat} {C : CI} {W : WX}
theorem bltn_bt {T : Bt} {pos : Pos} (hg : Gl X (btN T)) (hm : X.mg (btN T) = none) : PE X (.Name (btN T) pos) (tC (.ty (btS T))) := by
  cases T <;> exact pe_bltn (u := .type _) hg hm (by decide +kernel) rfl (by decide) (by decide)
theorem kit_non (T : Bt) : kitB "NoneType" (btS T) = some false := by cases T <;> decide +kernel
theorem kit_bl (T : Bt) : kitB "bool" (btS T) = some (tBl T) := by cases T <;> decide +kernel
theorem kit_int (T : Bt) : kitB "int" (btS T) = some (tInt T) := by cases T <;> decide +kernel
theorem kit_str (T : Bt) : kitB "str" (btS T) = some (tStr T) := by cases T <;> decide +kernel
theorem kit_list (T : Bt) : kitB "list" (btS T) = some (tList T) := by cases T <;> decide +kernel
theorem kit_tuple (T : Bt) : kitB "tuple" (btS T) = some (tTuple T) := by cases T <;> decide +kernel
theorem kit_dict (T : Bt) : kitB "dict" (btS T) = some false := by cases T <;> decide +kernel
theorem btV_ok {K : PySem.W.Frag} {so : Addr → Option HO} {H : Hp} {T : Bt} {x : V} {b : Bool} (h : btV so H T x = some b) : ∃ t, TyX K H x t ∧ PySem.W.kitOne K t (.type (btS T)) = some b := by
  cases x with
  | non => cases h; exact ⟨_, .base .non, kit_ty (kit_non T)⟩
  | bl y => cases h; exact ⟨_, .base (.bl y), kit_ty (kit_bl T)⟩
  | int y => cases h; exact ⟨_, .base (.int y), kit_ty (kit_int T)⟩
  | str y => cases h; exact ⟨_, .base (.str y), kit_ty (kit_str T)⟩
  | ref p =>
    unfold btV at h
    simp only at h
    split at h
    · rename_i e
      cases h
      exact ⟨_, .base (.lst e), kit_ty (kit_list T)⟩
    · rename_i e
      cases h
      exact ⟨_, .base (.tup e), kit_ty (kit_tuple T)⟩
    · rename_i e
      cases h
      exact ⟨_, .base (.dK e), kit_ty (kit_dict T)⟩
    · cases h
  | _ => cases h
theorem pw_of {op : BoolOp} {vs : List Expr} {pos : Pos} {t : TT} (h : PT X (.BoolOp op vs pos) t) : PW X (.BoolOp op vs pos) t := ⟨fun wh pins s σ H Q I z => h.run pins s σ H Q I z⟩
theorem base_ok {e : Expr} {f : Str} {env : Env} {w : Sem Value} (h : plainBase e = true) : attributeBase e f env w = w := by
  unfold attributeBase
  split
  · unfold plainBase at h
    simp at h
  · rfl
theorem slice_ok {e : Expr} (h : notSlice e = true) : PlainIx e := by
  intro o i
  cases e <;> first | rfl | cases h
theorem test_ok {e : Expr} {env : Env} (h : plainTest e = true) : ∀ whole, isTrue e env whole = (do let v ← whole; standAt e.pos; holding [v] (truthy v)) := by
  intro whole
  cases e with
  | UnaryOp op a p => cases op <;> first | rfl | cases h
  | BoolOp op a p => cases h
  | IfExp a b c p => cases h
  | Compare a b c p => cases h
  | _ => rfl
theorem marks_ok {o : CmpOp} {e : Expr} (h : behindOk o e = true) : behindInMarks o e = false := by
  unfold behindOk at h
  simpa using h
theorem last_ok {o o' : CmpOp} {e e' : Expr} (h : behindOk o' e' = true) : lastMarks [o, o'] [e, e'] = false := marks_ok h
theorem map_some {α β : Type} {x : Option α} {f : α → β} {c : β} (h : x.map f = some c) : ∃ a, x = some a ∧ c = f a := by
  cases x with
  | none => cases h
  | some a => cases h; exact ⟨a, rfl, rfl⟩
theorem if_some {α : Type} {b : Bool} {x : Option α} {c : α} (h : iff' b x = some c) : b = true ∧ x = some c := by
  cases b with
  | true => exact ⟨rfl, h⟩
  | false => cases h
theorem two_some {α β γ : Type} {x : Option α} {y : Option β} {f : α → β → γ} {c : γ} (h : two x y f = some c) : ∃ a b, x = some a ∧ y = some b ∧ c = f a b := by
  cases x with
  | none => cases h
  | some a =>
    cases y with
    | none => cases h
    | some b => cases h; exact ⟨a, b, rfl, rfl, rfl⟩
theorem tri_some {α β γ δ : Type} {x : Option α} {y : Option β} {z : Option γ} {f : α → β → γ → δ} {c : δ} (h : tri x y z f = some c) : ∃ a b d, x = some a ∧ y = some b ∧ z = some d ∧ c = f a b d := by
  cases x with
  | none => cases h
  | some a =>
    cases y with
    | none => cases h
    | some b =>
      cases z with
      | none => cases h
      | some d => cases h; exact ⟨a, b, d, rfl, rfl, rfl, rfl⟩
theorem boolV_ex {B : Bool → Hp → Prop} {v : V} {H : Hp} (h : boolV B v H) : ∃ k, v = .bl k ∧ B k H := by
  unfold boolV at h
  split at h
  · exact ⟨_, rfl, h⟩
  · exact h.elim
theorem tru_ex {K : PySem.W.Frag} {so : Addr → Option HO} (S : SoOk K so) {H : Hp} {x : V} {B : Bool → Prop} (h : truK so x H B) : ∃ k, TruV K x H k ∧ B k := by
  unfold truK at h
  split at h
  · rename_i k e
    exact ⟨k, truV_ok S e, h⟩
  · exact h.elim
variable (O : OkE X S F k C W) (M : SmMono F)
include O M
omit O M in
/-- a class's name -/
theorem cls_pe {x : Str} {u : Value} {p : Pos} (c : ClsN X.mg x u) (hg : Gl X x) : ∃ cv, ClsV cv u ∧ PE X (.Name x p) (tC cv) := by
  obtain ⟨hd, ⟨⟨C', rfl⟩, hm⟩ | ⟨⟨T, rfl⟩, hm, hv, hn⟩⟩ := c
  · exact ⟨.ref C', .own C', pe_glob hg hm rfl hd⟩
  · exact ⟨.ty T, .ty T, pe_bltn hg hm hv rfl hn hd⟩
theorem isx_ok {a : Expr} {e' : Ex} {c : Str} {p pT pos : Pos} (hg : isG C "isinstance" = true) (hm : X.mg "isinstance" = none) (hT : Gl X c) (k : C.gl c = .xcl ∨ C.gl c = .ocl ∨ C.gl c = .bxc) (he : PE X a (wE S F W e')) (st : notStar a = true) :
    PE X (.Call (.Name "isinstance" p) [a, .Name c pT] [] pos) (wE S F W (.isx e' c)) := by
  obtain ⟨u, hu⟩ := O.G.cls c k
  obtain ⟨cv, hcv, hp⟩ := cls_pe (p := pT) hu hT
  refine PE.imp (pe_callB (CallR.or call_isx call_isi) (O.gl hg) hm (by decide +kernel) (pa_cons he (pa_cons hp pa_nil) (star_one st)) (by decide) (by decide) (star_one st) rfl) fun σ H Q z => ?_
  unfold wE at z
  refine wE_mono M e' (fun x H1 z1 => ?_) z
  have flat : ∀ {t : String}, TyX X.K H1 x (.type t) → S.isb c = true → t ∈ bTs → Q (.bl false) H1 → (rIsi X.K) [x, cv] H1 Q := fun {t} ty hb hm q => ⟨x, cv, .type t, u, false, rfl, hcv, ty, O.G.isb c hb u hu t hm, q⟩
  unfold isxK at z1
  cases x with
  | non => exact .inr (flat (.base .non) z1.1 (by decide) z1.2)
  | bl b => exact .inr (flat (.base (.bl b)) z1.1 (by decide) z1.2)
  | int b => exact .inr (flat (.base (.int b)) z1.1 (by decide) z1.2)
  | str b => exact .inr (flat (.base (.str b)) z1.1 (by decide) z1.2)
  | ref q =>
    simp only at z1
    split at z1
    · obtain ⟨D, fs, b, h1, h2, h3⟩ := z1
      obtain ⟨T, hk⟩ := O.G.isa D c b h2
      exact .inl ⟨q, D, fs, cv, u, b, rfl, h1, T, fun w hw => hcv.eq hw, (hk u hu).1, h3⟩
    · rename_i D dx fs ea
      obtain ⟨b, h1, h2⟩ := z1
      obtain ⟨T, hk⟩ := O.G.iso D c b h1
      exact .inr ⟨_, cv, .ref D, u, b, rfl, hcv, .base (.ins ea T.cl T.ca T.cg T.ct T.mo), hk u hu, h2⟩
    · rename_i ea
      exact .inr (flat (.base (.lst ea)) z1.1 (by decide) z1.2)
    · rename_i ea
      exact .inr (flat (.base (.tup ea)) z1.1 (by decide) z1.2)
    · rename_i ea
      exact .inr (flat (.base (.dK ea)) z1.1 (by decide) z1.2)
    · exact z1.elim
  | _ => exact z1.elim
omit M in
theorem mkx_nok {x : Str} {vs : List V} {H : Hp} {Q : VK} {D : Addr} {f : Option Str} (e : S.xc x = some (D, f)) (h : mkxV S x vs H Q) : mkxH H D f vs (fun v H' => NoK S.so H' → Q v H') := by
  unfold mkxV at h
  rw [e] at h
  unfold mkxH
  cases f with
  | some g =>
    simp only at h
    split at h
    · intro a d h1 h2 h3 nk
      have nd : S.so d = none := by
        cases q : S.so d with
        | none => rfl
        | some o =>
          have := nk d (by rw [q]; simp)
          rw [upd_ne h3, upd_same] at this
          cases this
      exact h a d h1 h2 h3 (nok_upd nk) nd
    · exact h.elim
  | none =>
    simp only at h
    obtain ⟨rfl, h⟩ := h
    exact fun a h1 nk => h a h1 (nok_upd nk)
theorem xc_some {x : Str} {vs : List V} {H : Hp} {Q : VK} (h : mkxV S x vs H Q) : ∃ D f, S.xc x = some (D, f) := by
  unfold mkxV at h
  split at h
  · exact ⟨_, _, by assumption⟩
  · exact ⟨_, _, by assumption⟩
  · exact h.elim
theorem mkx_ok {x : Str} {p pos : Pos} {a : Expr} {as : List Expr} {es : Exs} (hg : Gl X x) (e : C.gl x = .xcl) (PAs : PA X (a :: as) (wA S F W es)) (s1 : starEach (a :: as) X.env = (false, eval a X.env) :: starEach as X.env) (s2 : (backTo pos (starEach as X.env)).any (·.1) = false) :
    PE X (.Call (.Name x p) (a :: as) [] pos) (wE S F W (.mkx x es)) := by
  refine ⟨fun pins s σ H Q I z => ?_⟩
  unfold wE at z
  obtain ⟨D, hdb, hm, hk⟩ := O.G.own x (.inl e)
  refine wpAny_Call_Name_kw (ld_glob I hg hm ?_ hdb)
  refine PySem.W.callWith_K (h₀ := X.base) I.ok.mod.kin hk (thn (PAs.run pos pins s σ H _ I z) fun us s1 ⟨vs, H1, I1, r1, q1⟩ => ⟨I1.kIn, ?_⟩) s1 s2
  obtain ⟨D', f, ex⟩ := xc_some O M q1
  have T := O.G.xc x D' f e ex
  have eD := T.at_
  rw [hm] at eD
  cases eD
  exact thn (mkx_call T (O.rm.mono (by omega)) O.gd I1 r1 (mkx_nok O ex q1)) fun u s2 ⟨v, H2, I2, rv, q2⟩ => ⟨v, H2, I2, rv, q2 (nok_of O.G.so I2)⟩
theorem mkx0_ok {x : Str} {p pos : Pos} (hg : Gl X x) (e : C.gl x = .xcl) : PE X (.Call (.Name x p) [] [] pos) (wE S F W (.mkx x .nil)) := by
  refine ⟨fun pins s σ H Q I z => ?_⟩
  unfold wE wA at z
  obtain ⟨D, hdb, hm, hk⟩ := O.G.own x (.inl e)
  refine wpAny_Call_Name_kw (ld_glob I hg hm ?_ hdb)
  obtain ⟨D', f, ex⟩ := xc_some O M z
  have T := O.G.xc x D' f e ex
  have eD := T.at_
  rw [hm] at eD
  cases eD
  exact PySem.W.callWith_K0 I.kIn hk (thn (mkx_call (us := []) T (O.rm.mono (by omega)) O.gd I .nil (mkx_nok O ex z)) fun u s2 ⟨v, H2, I2, rv, q2⟩ => ⟨v, H2, I2, rv, q2 (nok_of O.G.so I2)⟩)
/-- a new instance, by its values -/
theorem mk_run {x : Str} {n : Nat} {ks : List Str} {D : Addr} {pins : List (Addr × Obj)} {σ : St} {H : Hp} {s : Shared} {vs : List V} {us : List Value} {Q : VK} (e : C.gl x = .ocl) (hm : X.mg x = some (.ref D)) (I : Inv X pins σ H s) (r : Vals vs us) (hn : vs.length = n) (h : mkK S F x ks vs H Q (fun c d H' => W c d σ H')) :
    wpAny (model X.prog X.w) X.A (call (.ref D) (us.take (n - ks.length)) (ks.zip (us.drop (n - ks.length)))) (EP X pins σ Q) X.xe s := by
  unfold mkK at h
  rw [hn] at h
  split at h
  · rename_i D' g pm ex
    split at h
    · rename_i ws ew
      obtain ⟨hdb, hm', f, fd, ps, Mk1, Fn, hb⟩ := O.G.mkc x n ks D' g pm e ex
      rw [hm] at hm'
      cases hm'
      obtain ⟨full, rf, hbb⟩ := hb vs ws us r hn ew
      exact make_g Mk1 Fn O.gd O.rm O.tk I (fun s a K => hbb s a K) rf fun y dx h1 h2 h3 l1 l2 => h y dx h1 h2 h3 (so_none O.G.so l1) (so_none O.G.so l2)
    · exact h.elim
  · exact h.elim
theorem mkC_ok {x : Str} {p pos : Pos} {a : Expr} {as : List Expr} {es : Exs} (hg : Gl X x) (e : C.gl x = .ocl) (PAs : PA X (a :: as) (wA S F W es)) (s1 : starEach (a :: as) X.env = (false, eval a X.env) :: starEach as X.env) (s2 : (backTo pos (starEach as X.env)).any (·.1) = false) :
    PE X (.Call (.Name x p) (a :: as) [] pos) (wE S F W (.mkC x [] es)) := by
  refine ⟨fun pins s σ H Q I z => ?_⟩
  unfold wE at z
  obtain ⟨D, hdb, hm, hk⟩ := O.G.own x (.inr e)
  refine wpAny_Call_Name_kw (ld_glob I hg hm ?_ hdb)
  refine PySem.W.callWith_K (h₀ := X.base) I.ok.mod.kin hk (thn (PAs.run pos pins s σ H _ I z) fun us s1 ⟨vs, H1, I1, r1, q1⟩ => ⟨I1.kIn, ?_⟩) s1 s2
  have q := mk_run O M e hm I1 r1 rfl q1
  simp only [List.length_nil, Nat.sub_zero, r1.length, List.take_length, List.drop_length, List.zip_nil_right] at q
  exact q
omit O M in
/-- a method's call, plainly -/
theorem meth_eval {o : Expr} {name : Str} {apos pos : Pos} {args : List Expr} {env : Env} (hb : plainBase o = true) (hs : ∀ e ∈ args, notStar e = true) (hf : args.length < 20) (hl : (apos.endLine == pos.line) = true) :
    eval (.Call (.Attribute o name apos) args [] pos) env = (do
      let ov ← eval o env
      standAt apos.atName
      let (f, first) ← holding [ov] (getMethod ov name (do return (← importBound o env).getD true))
      callWith pos f first (backTo pos (starEach args env)) (backToKw pos (keywordEach [] env))) := by
  rw [arm_eval_Call, base_ok hb]
  have hform : methodCallForm (args.length + ([] : List Keyword).length) (backTo pos (starEach args env)) (backToKw pos (keywordEach [] env)) = true := by
    have h1 := star_no (env := env) (pos := pos) hs
    have h2 : (backTo pos (starEach args env)).all (fun x => !x.1) = true := by
      rw [List.all_eq_true]
      intro x hx
      rw [List.any_eq_false] at h1
      simpa using h1 x hx
    unfold methodCallForm
    rw [h2]
    show (true && true && decide (args.length + 0 + (if ([] : List (Option Str × Sem Value)).isEmpty then 0 else 1) < 30)) = true
    simp
    omega
  unfold methodCall
  rw [hform]
  unfold calleeOf methodCallPos
  simp only [hl, Bool.not_true, Bool.false_or, if_true]
  rfl
theorem call_ok {n : Nat} (ih : ∀ e c, cE C n e = some c → PE X e (wE S F W c)) {x : Str} {p pos : Pos} {a : Expr} {as : List Expr} {c : Ex}
    (h : iff' (isG C x) (cCall C (cE C n) x a as (C.gl x)) = some c) : PE X (.Call (.Name x p) (a :: as) [] pos) (wE S F W c) := by
  obtain ⟨hg, h⟩ := if_some h
  cases e : C.gl x with
  | fn =>
    rw [e] at h
    obtain ⟨es, h1, rfl⟩ := map_some h
    obtain ⟨f, fd, ps, hdb, hm, hk, Fn, hb⟩ := O.G.fn x e
    have PAs := nCE_pa ih h1
    have st := nCE_star h1
    refine ⟨fun pins s σ H Q I z => ?_⟩
    unfold wE at z
    refine wpAny_Call_Name_kw (ld_glob I (O.gl hg) hm ?_ hdb)
    refine PySem.W.callWith_K (h₀ := X.base) I.ok.mod.kin hk (thn (PAs.run pos pins s σ H _ I z) fun us s1 ⟨vs, H1, I1, r, q⟩ => ⟨I1.kIn, ?_⟩) (star_one (st a (List.mem_cons_self ..))) (star_no fun e he => st e (List.mem_cons_of_mem _ he))
    refine run_g Fn O.gd (O.rm.mono (Nat.le_succ _)) O.tk I1 ?_ r q
    have hl := Fn.len _ _ _ _ q
    have := hb s1 us I1.kIn (by rw [List.append_nil, ← r.length]; exact hl)
    rwa [List.append_nil] at this
  | bi b =>
    rw [e] at h
    obtain ⟨es, h1, rfl⟩ := map_some h
    obtain ⟨rfl, hm⟩ := O.G.bi x b e
    have PAs := nCE_pa ih h1
    have st := nCE_star h1
    refine PE.imp (pe_bi (so := S.so) O.G.so O.calm O.gd O.hu (O.gl hg) hm PAs (star_one (st a (List.mem_cons_self ..))) (star_no fun e he => st e (List.mem_cons_of_mem _ he))) fun σ H Q z => ?_
    unfold wE at z
    exact z
  | isi =>
    rw [e] at h
    change cIsi C (cE C n) a as = some c at h
    unfold cIsi at h
    match as, h with
    | [.Name T pT], h =>
      obtain ⟨hT, h⟩ := if_some h
      cases eT : C.gl T with
      | bi b0 =>
        simp only [eT] at h
        obtain ⟨B, hB, h⟩ := bind_some h
        obtain ⟨es, h1, rfl⟩ := map_some h
        obtain ⟨eT', hmT⟩ := O.G.bi _ b0 eT
        rw [btBi_name hB] at eT'
        subst eT'
        obtain ⟨rfl, hm⟩ := O.G.isi x e
        refine PE.imp (pe_callB call_isi (O.gl hg) hm (by decide +kernel) (pa_cons (ih _ _ h1) (pa_cons (bltn_bt (O.gl hT) hmT) pa_nil) (star_one (cE_star h1))) (by decide) (by decide) (star_one (cE_star h1)) rfl) fun σ H Q z => ?_
        unfold wE at z
        refine wE_mono M _ (fun v H1 z1 => ?_) z
        unfold btK at z1
        split at z1
        · rename_i b eb
          obtain ⟨t, ty, kt⟩ := btV_ok (K := X.K) eb
          exact ⟨v, _, t, _, b, rfl, .ty _, ty, kt, z1⟩
        · exact z1.elim
      | xcl =>
        simp only [eT] at h
        obtain ⟨es, h1, rfl⟩ := map_some h
        obtain ⟨rfl, hm⟩ := O.G.isi x e
        exact isx_ok O M hg hm (O.gl hT) (.inl eT) (ih _ _ h1) (cE_star h1)
      | ocl =>
        simp only [eT] at h
        obtain ⟨es, h1, rfl⟩ := map_some h
        obtain ⟨rfl, hm⟩ := O.G.isi x e
        exact isx_ok O M hg hm (O.gl hT) (.inr (.inl eT)) (ih _ _ h1) (cE_star h1)
      | bxc =>
        simp only [eT] at h
        obtain ⟨es, h1, rfl⟩ := map_some h
        obtain ⟨rfl, hm⟩ := O.G.isi x e
        exact isx_ok O M hg hm (O.gl hT) (.inr (.inr eT)) (ih _ _ h1) (cE_star h1)
      | _ => simp only [eT] at h; cases h
  | xcl =>
    rw [e] at h
    obtain ⟨es, h1, rfl⟩ := map_some h
    have PAs := nCE_pa ih h1
    have st := nCE_star h1
    refine mkx_ok O M (O.gl hg) e PAs (star_one (st a (List.mem_cons_self ..))) (star_no fun e he => st e (List.mem_cons_of_mem _ he))
  | ocl =>
    rw [e] at h
    obtain ⟨es, h1, rfl⟩ := map_some h
    have PAs := nCE_pa ih h1
    have st := nCE_star h1
    exact mkC_ok O M (O.gl hg) e PAs (star_one (st a (List.mem_cons_self ..))) (star_no fun e he => st e (List.mem_cons_of_mem _ he))
  | _ => rw [e] at h; cases h
end
end QL
set_option Elab.async false
set_option linter.all false
set_option maxRecDepth 100000
set_option maxHeartbeats 4000000
/-! QB: what a comprehension's block is. -/
namespace QL
open PySem PySem.Spec L2
open PyProof.Rows hiding St
/-! ### ranges of any size -/
section
variable {X : Cx} {tg : Expr}
theorem turn_long {P : Program} {w : World} {K : PySem.W.Frag} (it : Addr) (lo : Int) (n : Nat) : Turn P w K tg (Itr lo n) [it] it (fun i h => IsLongIter h it (lo + (i : Nat) * 1) ((n : Int) - (i : Nat)) 1) where
  mem := by simp
  obj := fun i h st b hb => by
    have e : b = it := by simpa using hb
    subst e
    exact ⟨_, st, fun v z => by
      have z' : Data.fields _ = Data.cell v := z
      cases z'⟩
  keep := fun i h h' st kk => kk it (by simp) _ st
  item := by
    intro X hP hw hK hc i pins s σ H E I hf st hg
    subst hP hw hK
    obtain ⟨f0, f1, f2, f3, f4, f5⟩ := hf it (by simp)
    refine (Walks.longrange (prog := X.prog) (w := X.w) (I.ok.hd hc) it lo 1 n).item i s _ _ hg st fun v h' tk hv st' kk => ?_
    obtain ⟨t, rfl⟩ := hv
    have I1 : Inv X pins σ H { s with heap := h', toks := tk } := I.turned (fun b o hb e => kk b o (by simpa using hb) e) f0 f1 f3 f4 f5
    refine ⟨_, rfl, go_of (s := { s with heap := h', toks := tk }) (n := "longrange_iterator") st' rfl rfl (by decide) ⟨.int (lo + i), H, I1, ⟨t, ?_⟩, ⟨rfl, rfl⟩, st', fun b hb => (hf b hb).1⟩⟩
    rw [Int.mul_one]
  done := by
    intro X hP hw hK hc i pins s σ H E I hf st hg
    subst hP hw hK
    obtain ⟨f0, f1, f2, f3, f4, f5⟩ := hf it (by simp)
    exact wpAny_pyNext_long_end (I.ok.hd hc) st (by have : n ≤ i := hg; omega) fun h' eb => ⟨rfl, I.turned (t' := s.toks) (fun b o hb e => eb b o hb e) f0 f1 f3 f4 f5⟩
  self := fun _ _ _ _ _ st h => wpAny_pyIter_longiter st h
theorem range_any {pins : List (Addr × Obj)} {σ : St} {H : Hp} {s : Shared} {R : It → Hp → Prop} {E : Value → Shared → Prop} {lo hi : Int} {t u v : Tok} {tk : Nat} (I : Inv X pins σ H s)
    (q : R (Itr lo (hi - lo).toNat) H) : wpAny (model X.prog X.w) X.A (pyIter (.ref s.heap.objs.size)) (PIE X pins σ tg R) E { s with heap := s.heap.push { cls := .type "range", data := .fields #[.int lo t, .int hi u, .int 1 v] }, toks := tk } := by
  have I1 : Inv X pins σ H { s with heap := s.heap.push { cls := .type "range", data := .fields #[.int lo t, .int hi u, .int 1 v] }, toks := tk } := I.kept fun b o e => Heap.get?_push_of_some _ e
  have e1 : lo + ((0 : Nat) : Int) * 1 = lo := by simp
  have e2 : (((hi - lo).toNat : Nat) : Int) - ((0 : Nat) : Int) = Builtin.Range.rangeSize lo hi 1 := by rw [rangeSize_one]; split <;> omega
  have fp : ∀ b ∈ [(s.heap.push { cls := .type "range", data := .fields #[.int lo t, .int hi u, .int 1 v] }).objs.size], FpOk X pins H b := fun b hb => by
    have e : b = (s.heap.push { cls := .type "range", data := .fields #[.int lo t, .int hi u, .int 1 v] }).objs.size := by simpa using hb
    subst e
    exact I1.fpOk (Nat.le_refl _) (I1.hok.fresh (Nat.le_refl _))
  cases hs : Builtin.Range.small lo hi 1 with
  | true =>
    refine wpAny_pyIter_range (IsRange.new ..) hs ?_
    refine ⟨_, _, _, _, H, rfl, I1.kept (t' := tk) fun b o e => Heap.get?_push_of_some _ e, turn_range _ lo (hi - lo).toNat, ?_, fp, q⟩
    show IsRangeIter _ _ (lo + ((0 : Nat) : Int) * 1) ((((hi - lo).toNat : Nat) : Int) - ((0 : Nat) : Int)) 1
    rw [e1, e2]
    exact Heap.get?_push_size _ rfl
  | false =>
    refine wpAny_pyIter_longrange (IsRange.new ..) hs ?_
    refine ⟨_, _, _, _, H, rfl, I1.kept (t' := tk) fun b o e => Heap.get?_push_of_some _ e, turn_long _ lo (hi - lo).toNat, ?_, fp, q⟩
    show IsLongIter _ _ (lo + ((0 : Nat) : Int) * 1) ((((hi - lo).toNat : Nat) : Int) - ((0 : Nat) : Int)) 1
    rw [e1, e2]
    exact Heap.get?_push_size _ rfl
theorem pi_rng1 {a : Expr} {ta : TE} {p pos : Pos} (hg : Gl X "range") (hm : X.mg "range" = none) (ha : PE X a ta) (st : notStar a = true) :
    PI X tg (.Call (.Name "range" p) [a] [] pos) (fun σ H R => ta σ H fun x H1 => ∃ j : Int, [x] = [V.int j] ∧ R (Itr 0 (j - 0).toNat) H1) := by
  refine ⟨fun pins s σ H R I h => ?_⟩
  refine Call_ (ld_blt I hg hm boot_range (PyProof.Rows.callWith_type1 (thn ((pa_cons ha pa_nil (star_one st)).run pos pins s σ H (fun vs H1 => ∃ j : Int, vs = [V.int j] ∧ R (Itr 0 (j - 0).toNat) H1) I h) fun us s1 ⟨vs, H1, I1, r1, q1⟩ => ?_) (star_one st) rfl))
  obtain ⟨j, rfl, q⟩ := q1
  obtain ⟨u, rfl, t, rfl⟩ := vals1 r1
  exact call_range_1 (range_any I1 q)
theorem pi_rng2 {a b : Expr} {ta tb : TE} {p pos : Pos} (hg : Gl X "range") (hm : X.mg "range" = none) (ha : PE X a ta) (hb : PE X b tb) (sa : notStar a = true) (sb : notStar b = true) :
    PI X tg (.Call (.Name "range" p) [a, b] [] pos) (fun σ H R => ta σ H fun x H1 => tb σ H1 fun y H2 => ∃ i j : Int, [x, y] = [V.int i, V.int j] ∧ R (Itr i (j - i).toNat) H2) := by
  refine ⟨fun pins s σ H R I h => ?_⟩
  refine Call_ (ld_blt I hg hm boot_range (PyProof.Rows.callWith_type1 (thn ((pa_cons ha (pa_cons hb pa_nil (star_one sb)) (star_one sa)).run pos pins s σ H (fun vs H1 => ∃ i j : Int, vs = [V.int i, V.int j] ∧ R (Itr i (j - i).toNat) H1) I h) fun us s1 ⟨vs, H1, I1, r1, q1⟩ => ?_) (star_one sa) ?_))
  · obtain ⟨i, j, rfl, q⟩ := q1
    obtain ⟨u, w, rfl, ⟨t, rfl⟩, t', rfl⟩ := vals2 r1
    exact call_range_2 (range_any I1 q)
  · exact star_no fun e he => by
      have : e = b := by simpa using he
      rw [this]
      exact sb
end
/-! ### what is walked -/
section
variable {X : Cx} {tg : Expr}
/-- a list or a tuple -/
def iSeq (K : PySem.W.Frag) (tl : TE) : TI := fun σ H R => tl σ H fun x H1 => ∃ a, x = .ref a ∧ (((∃ xs, SqL K H1 a xs) ∧ R (Itl K a) H1) ∨ ((∃ xs, SqT K H1 a xs) ∧ R (Itt K a) H1))
theorem pi_seq {l : Expr} {tl : TE} (hl : PE X l tl) : PI X tg l (iSeq X.K tl) := by
  refine ⟨fun pins s σ H R I h => ?_⟩
  refine thn (hl.run pins s σ H _ I h) fun v s1 ⟨x, H1, I1, r1, q1⟩ => ?_
  obtain ⟨a, e, q1⟩ := q1
  subst e
  cases r1
  rcases q1 with ⟨⟨xs, hq⟩, q⟩ | ⟨⟨xs, hq⟩, q⟩
  · obtain ⟨its, rv, p, hz⟩ := I1.list hq
    refine wpAny_pyIter_list p.isList ?_
    refine ⟨s1.heap.objs.size, [s1.heap.objs.size], _, _, H1, rfl, I1.kept (t' := s1.toks) fun b o e => Heap.get?_push_of_some _ e, turn_list a _, ⟨_, Heap.get?_push_size _ rfl, rfl, rfl⟩, fun b hb => ?_, q⟩
    have e : b = s1.heap.objs.size := by simpa using hb
    subst e
    exact I1.fpOk (Nat.le_refl _) (I1.hok.fresh (Nat.le_refl _))
  · obtain ⟨its, rv, p, hz⟩ := I1.tuple hq
    refine wpAny_pyIter_tuple (show s1.heap.IsTuple a its.toArray from p) ?_
    refine ⟨s1.heap.objs.size, [s1.heap.objs.size], _, _, H1, rfl, I1.kept (t' := s1.toks) fun b o e => Heap.get?_push_of_some _ e, turn_tuple a _, ⟨_, Heap.get?_push_size _ rfl, rfl, rfl⟩, fun b hb => ?_, q⟩
    have e : b = s1.heap.objs.size := by simpa using hb
    subst e
    exact I1.fpOk (Nat.le_refl _) (I1.hok.fresh (Nat.le_refl _))
theorem PI.imp {it : Expr} {t t' : TI} (h : PI X tg it t) (q : ∀ σ H R, t' σ H R → t σ H R) : PI X tg it t' := ⟨fun pins s σ H R I z => h.run pins s σ H R I (q _ _ _ z)⟩
end
/-- J goes through xs as long as kp holds -/
structure Jok (J : It) (xs : List V) (kp : Hp → Prop) : Prop where
  stop : ∀ H, kp H → J.stop xs.length H
  go : ∀ i H, kp H → i < xs.length → J.go i H
  yld : ∀ i H x H', kp H → i < xs.length → J.yld i H x H' → H' = H ∧ xs[i]? = some x
theorem jok_rng (lo : Int) (n : Nat) : Jok (Itr lo n) ((List.range n).map fun i => V.int (lo + (i : Nat))) (fun _ => True) where
  stop := fun H _ => by simp [Itr]
  go := fun i H _ h => by simpa [Itr] using h
  yld := fun i H x H' _ hl h => by
    obtain ⟨rfl, rfl⟩ := h
    have hl' : i < n := by simpa using hl
    exact ⟨rfl, by rw [List.getElem?_map, List.getElem?_range hl']; rfl⟩
theorem jok_lst {K : PySem.W.Frag} {so : Addr → Option HO} (S0 : SoOk K so) (a : Addr) (xs : List V) : Jok (Itl K a) xs (fun H => rd so H a = some (.lst xs)) where
  stop := fun H h => ⟨xs, rd_lst S0 h, Nat.le_refl _⟩
  go := fun i H h hl => ⟨xs, xs[i], rd_lst S0 h, by simp [hl]⟩
  yld := fun i H x H' h _ y => ⟨y.1, y.2 xs (rd_lst S0 h)⟩
theorem jok_tup {K : PySem.W.Frag} {so : Addr → Option HO} (S0 : SoOk K so) (a : Addr) (xs : List V) : Jok (Itt K a) xs (fun H => rd so H a = some (.tup xs)) where
  stop := fun H h => ⟨xs, rd_tup S0 h, Nat.le_refl _⟩
  go := fun i H h hl => ⟨xs, xs[i], rd_tup S0 h, by simp [hl]⟩
  yld := fun i H x H' h _ y => ⟨y.1, y.2 xs (rd_tup S0 h)⟩
theorem lcL_kp {kp : Hp → Prop} {g : TG} {tt : TT} {te : TE} {D : Addr} {σ : St} {R : Hp → Prop} : ∀ {xs : List V} {H : Hp}, lcL kp g tt te D σ xs H R → kp H
  | [], _, h => h.1
  | _ :: _, _, h => h.1
theorem lc_gen {J : It} {kp : Hp → Prop} {xs : List V} {g g' : TG} {tt : TT} {te : TE} {vs : List Nat} {σ : St} {H1 : Hp} {D : Addr} {Qd : Hp → Prop} (j : Jok J xs kp)
    (hg : ∀ x H Q, g x (wipe σ vs) H Q → g' x (wipe σ vs) H fun σ2 H2 => wipe σ2 vs = wipe σ vs ∧ Q σ2 H2) (h : lcL kp g tt te D (wipe σ vs) xs (upd H1 D (.lst [])) Qd) :
    ∃ W : Nat → Nat → Hp → Prop, (∃ m, W 0 m (upd H1 D (.lst []))) ∧ ∀ i m H, W i m H →
      (J.stop i H ∧ Qd H) ∨ (J.go i H ∧ ∃ Nx : Hp → Prop, (∀ H', Nx H' → ∃ m', m' < m ∧ W (i + 1) m' H') ∧ ∀ x H', J.yld i H x H' → g' x (wipe σ vs) H' fun σ2 H2 => wipe σ2 vs = wipe σ vs ∧ tt σ2 H2 fun b H3 =>
        if b = true then te σ2 H3 fun y H4 => ∃ acc, H4 D = some (.lst acc) ∧ acc.length < sizeLine ∧ Nx (upd H4 D (.lst (acc ++ [y]))) else Nx H3) := by
  refine ⟨fun i m H => m = xs.length - i ∧ i ≤ xs.length ∧ lcL kp g tt te D (wipe σ vs) (xs.drop i) H Qd, ⟨xs.length, by simp, Nat.zero_le _, h⟩, ?_⟩
  rintro i m H ⟨rfl, hi, p⟩
  have kq := lcL_kp p
  by_cases hlt : i < xs.length
  · refine .inr ⟨j.go i H kq hlt, fun H' => lcL kp g tt te D (wipe σ vs) (xs.drop (i + 1)) H' Qd, fun H' p' => ⟨xs.length - (i + 1), by omega, rfl, hlt, p'⟩, fun x H' y => ?_⟩
    obtain ⟨rfl, e⟩ := j.yld i H x H' kq hlt y
    have ed : xs.drop i = x :: xs.drop (i + 1) := by
      rw [List.drop_eq_getElem_cons hlt]
      rw [List.getElem?_eq_getElem hlt] at e
      cases e
      rfl
    rw [ed] at p
    exact hg _ _ _ p.2
  · have e : i = xs.length := by omega
    subst e
    have p' : lcL kp g tt te D (wipe σ vs) [] H Qd := by
      rw [List.drop_length] at p
      exact p
    exact .inl ⟨j.stop H kq, p'.2⟩
/-! ### targets -/
theorem nms_eq : ∀ {ts : List Expr} {ns : List (Str × Pos)}, nms ts = some ns → ts = ns.map fun x => .Name x.1 x.2
  | [], ns, h => by cases h; rfl
  | t :: ts, ns, h => by
    obtain ⟨a, b, h1, h2, rfl⟩ := two_some (f := fun a b => a :: b) h
    rw [List.map_cons, ← nms_eq h2]
    congr 1
    cases t <;> cases h1
    rfl
def gL : List Nat → TGs
  | [] => gNil
  | i :: r => gCons (gName i) (gL r)
/-- a place to store in -/
def LocAt (X : Cx) (x : Str) (i : Nat) : Prop := X.N.Nodup ∧ X.N[i]? = some x ∧ Loc X.env.scope x ∧ (X.fn x = true ∨ X.env.scope.names.lookup x = some .local)
theorem slots_pgs {X : Cx} {C : CI} : ∀ {ns : List (Str × Pos)} {is : List Nat}, slots C ns = some is → (∀ y ∈ ns, ∀ i, locOf C y.1 = some i → LocAt X y.1 i) →
    PGs X (ns.map fun x => .Name x.1 x.2) (gL is) ∧ (assignEach (ns.map fun x => Expr.Name x.1 x.2) X.env).length = ns.length ∧ (assignEach (ns.map fun x => Expr.Name x.1 x.2) X.env).findIdx? (·.1) = none
  | [], is, h, _ => by
    cases h
    exact ⟨pgs_nil, rfl, rfl⟩
  | x :: ns, is, h, hl => by
    obtain ⟨i, r, h1, h2, rfl⟩ := two_some (f := fun a b => a :: b) h
    obtain ⟨h3, h5, h6⟩ := slots_pgs h2 fun y hy => hl y (List.mem_cons_of_mem _ hy)
    obtain ⟨nd, l1, l2, l3⟩ := hl x (List.mem_cons_self ..) i h1
    refine ⟨pgs_cons (pg_name nd l1 l2 l3) h3, ?_, ?_⟩
    · show (assignEach (ns.map fun x => Expr.Name x.1 x.2) X.env).length + 1 = _
      rw [h5]
      rfl
    · show ((false, assign (.Name x.1 x.2) X.env) :: assignEach (ns.map fun x => Expr.Name x.1 x.2) X.env).findIdx? (·.1) = none
      rw [List.findIdx?_cons, h6]
      rfl
theorem tp_pgL {X : Cx} {C : CI} {ts : List Expr} {ns : List (Str × Pos)} {is : List Nat} {kt : Nat} {pt : Pos} (hc : X.calm = true) (h1 : nms ts = some ns) (h2 : slots C ns = some is) (hl : ∀ y ∈ ns, ∀ i, locOf C y.1 = some i → LocAt X y.1 i) : PG X (.Tuple ts kt pt) (gTup X.K ns.length (gL is)) := by
  obtain ⟨h3, h5, h6⟩ := slots_pgs h2 hl
  rw [nms_eq h1]
  exact pg_tup hc h3 h5 h6
theorem gL_of : ∀ {is : List Nat} {xs : List V} {σ : St} {H : Hp} {Q : St → Hp → Prop}, parK (setL is xs σ) (fun σ' => Q σ' H) → gL is xs σ H Q
  | [], [], _, _, _, z => ⟨rfl, z⟩
  | [], _ :: _, _, _, _, z => z.elim
  | _ :: _, [], _, _, _, z => z.elim
  | i :: is, v :: xs, σ, H, Q, z => ⟨v, xs, rfl, gL_of (is := is) z⟩
theorem slots_len {C : CI} : ∀ {ns : List (Str × Pos)} {is : List Nat}, slots C ns = some is → is.length = ns.length
  | [], is, h => by cases h; rfl
  | y :: ns, is, h => by
    obtain ⟨i, r, g1, g2, rfl⟩ := two_some (f := fun a b => a :: b) h
    rw [List.length_cons, List.length_cons, slots_len g2]
theorem setL_len : ∀ {is : List Nat} {xs : List V} {σ σ' : St}, setL is xs σ = some σ' → xs.length = is.length
  | [], [], _, _, _ => rfl
  | [], _ :: _, _, _, z => by cases z
  | _ :: _, [], _, _, z => by cases z
  | i :: is, v :: xs, σ, _, z => by rw [List.length_cons, List.length_cons, setL_len (is := is) z]
theorem gT_gTup {K : PySem.W.Frag} {so : Addr → Option HO} (S0 : SoOk K so) {C : CI} {ns : List (Str × Pos)} {is : List Nat} (h2 : slots C ns = some is) {x : V} {σ : St} {H : Hp} {Q : St → Hp → Prop} (z : gT so (.tp is) x σ H Q) : gTup K ns.length (gL is) x σ H Q := by
  unfold gT at z
  simp only at z
  split at z
  · split at z
    · rename_i e
      refine ⟨_, _, rfl, rd_tup S0 e, ?_, gL_of z⟩
      unfold parK at z
      split at z
      · rename_i e2
        rw [setL_len e2, slots_len h2]
      · exact z.elim
    · exact z.elim
  · exact z.elim
/-! ### forgetting -/
theorem wipe_get {σ : St} {i : Nat} : ∀ {vs : List Nat}, (wipe σ vs)[i]? = if i ∈ vs ∧ i < σ.length then some none else σ[i]?
  | [] => by simp [wipe]
  | v :: vs => by
    unfold wipe
    by_cases e : v = i
    · subst e
      by_cases h : v < σ.length
      · rw [List.getElem?_set_self (by rw [wipe_length]; exact h), if_pos ⟨List.mem_cons_self .., h⟩]
      · rw [if_neg (fun z => h z.2), List.getElem?_eq_none (by rw [List.length_set, wipe_length]; omega), List.getElem?_eq_none (by omega)]
    · rw [List.getElem?_set_ne e, wipe_get]
      have : (i ∈ v :: vs ∧ i < σ.length) ↔ (i ∈ vs ∧ i < σ.length) := by
        constructor
        · rintro ⟨h, h'⟩
          rcases List.mem_cons.mp h with rfl | h
          · exact absurd rfl e
          · exact ⟨h, h'⟩
        · rintro ⟨h, h'⟩
          exact ⟨List.mem_cons_of_mem _ h, h'⟩
      simp only [this]
theorem wipe_idem {σ : St} {vs : List Nat} : wipe (wipe σ vs) vs = wipe σ vs := by
  apply List.ext_getElem?
  intro i
  rw [wipe_get, wipe_length]
  split
  · rename_i h
    rw [wipe_get, if_pos h]
  · rfl
theorem wipe_set {σ : St} {vs : List Nat} {j : Nat} {o : Option V} (h : j ∈ vs) : wipe (σ.set j o) vs = wipe σ vs := by
  apply List.ext_getElem?
  intro i
  rw [wipe_get, wipe_get, List.length_set]
  split
  · rfl
  · rename_i hn
    by_cases e : j = i
    · subst e
      have hl : ¬ j < σ.length := fun z => hn ⟨h, z⟩
      rw [List.getElem?_eq_none (by rw [List.length_set]; omega), List.getElem?_eq_none (by omega)]
    · rw [List.getElem?_set_ne e]
theorem setL_wipe {vs : List Nat} : ∀ {is : List Nat} {xs : List V} {σ σ' : St}, (∀ i ∈ is, i ∈ vs) → setL is xs σ = some σ' → wipe σ' vs = wipe σ vs
  | [], [], _, _, _, z => by cases z; rfl
  | [], _ :: _, _, _, _, z => by cases z
  | _ :: _, [], _, _, _, z => by cases z
  | i :: is, v :: xs, σ, σ', h, z => by
    have := setL_wipe (is := is) (fun j hj => h j (List.mem_cons_of_mem _ hj)) z
    rw [this, wipe_set (h i (List.mem_cons_self ..))]
/-! ### the block's context -/
theorem relN_names {scope sc sc' : Scope} (hk : sc.kind = .function) (hn : sc.names = sc'.names) : (relS scope sc).names = (relN scope sc').names := by
  unfold relS relN
  simp only
  rw [hk, hn]
  apply List.map_congr_left
  intro y _
  obtain ⟨n, k⟩ := y
  simp
theorem OkE.blk {X : Cx} {S : Stat} {F : Sm} {k : Nat} {C : CI} {W : WX} (O : OkE X S F k C W) {scope : Scope} (hk : scope.kind = .function) (s : Shared) (H : Hp) (Cc : Addr) (cl : List (Str × Addr)) (fp : List Addr) :
    OkE (X.blk s H scope (compEnvC scope cl Cc X.env) fp) S F k (C.blk scope) never where
  G := O.G
  N := O.N
  nd := O.nd
  sc := relN_names (sc := X.env.scope) O.kd O.sc
  calm := O.calm
  gd := O.gd
  rm := O.rm
  tk := fun u s' ⟨_, _, _, _, _, _, _, _, _, _, _, _, _, _, _, _, w⟩ => w.elim
  kd := hk
theorem lookup_relN {scope sc : Scope} {x : Str} {k : NameKind} (h : scope.names.lookup x = some k) (hk : k ≠ .free) : (relN scope sc).names.lookup x = some k := by
  unfold relN
  simp only
  generalize scope.names = l at h
  induction l with
  | nil => cases h
  | cons y r ih =>
    obtain ⟨n, q⟩ := y
    rw [List.lookup_cons] at h
    rw [List.map_cons]
    by_cases e : x = n
    · subst e
      simp only [beq_self_eq_true] at h
      cases h
      have : (k == NameKind.free) = false := by cases k <;> first | rfl | exact absurd rfl hk
      simp [this, List.lookup_cons]
    · have e' : (x == n) = false := by simpa using e
      rw [e'] at h
      split <;> simp only [List.lookup_cons, e'] <;> exact ih h
theorem OkE.blk_loc {X : Cx} {S : Stat} {F : Sm} {k : Nat} {C : CI} {W : WX} (O : OkE X S F k C W) {scope : Scope} {x : Str} {i : Nat} (s : Shared) (H : Hp) (Cc : Addr) (cl : List (Str × Addr)) (fp : List Addr)
    (ho : scope.names.lookup x = some .local ∨ scope.names.lookup x = some .cell) (h : locOf (C.blk scope) x = some i) : LocAt (X.blk s H scope (compEnvC scope cl Cc X.env) fp) x i := by
  have nd : X.N.Nodup := by rw [O.N]; exact O.nd
  have ni : X.N[i]? = some x := by
    rw [O.N]
    unfold locOf at h
    split at h
    · exact idxOf_get h
    · exact idxOf_get h
    · cases h
  have sn : (compEnvC scope cl Cc X.env).scope.names = (relN scope C.sc).names := relN_names (sc := X.env.scope) O.kd O.sc
  rcases ho with ho | ho
  · have e := lookup_relN (sc := C.sc) ho (by decide)
    rw [← sn] at e
    exact ⟨nd, ni, .inl e, .inr e⟩
  · have e := lookup_relN (sc := C.sc) ho (by decide)
    rw [← sn] at e
    exact ⟨nd, ni, .inr e, .inl (by show (scope.names.lookup x == some .cell) = true; rw [ho]; rfl)⟩
/-! ### the whole comprehension -/
/-- J from the heap H on -/
structure JokH (J : It) (xs : List V) (kp : Hp → Prop) (H : Hp) : Prop where
  j : Jok J xs kp
  same : ∀ i H x H', J.yld i H x H' → H' = H
  one : ∀ D, H D = none → J.stop 0 (upd H D (.lst [])) ∨ J.go 0 (upd H D (.lst []))
theorem rd_upd {so : Addr → Option HO} {H : Hp} {a D : Addr} {o : HO} (h : a ≠ D) : rd so (upd H D o) a = rd so H a := by
  unfold rd
  rw [upd_ne h]
theorem jokH_rng (lo : Int) (n : Nat) (H : Hp) : JokH (Itr lo n) ((List.range n).map fun i => V.int (lo + (i : Nat))) (fun _ => True) H := ⟨jok_rng lo n, fun _ _ _ _ y => y.1, fun _ _ => by
  by_cases h : 0 < n
  · exact .inr h
  · exact .inl (by show n ≤ 0; omega)⟩
theorem jokH_lst {K : PySem.W.Frag} {so : Addr → Option HO} (S0 : SoOk K so) {a : Addr} {xs : List V} {H : Hp} (h : rd so H a = some (.lst xs)) : JokH (Itl K a) xs (fun H => rd so H a = some (.lst xs)) H := ⟨jok_lst S0 a xs, fun _ _ _ _ y => y.1, fun D _ => by
  by_cases e : a = D
  · subst e
    have : rd so (upd H a (.lst [])) a = some (.lst []) := by unfold rd; rw [upd_same]
    exact .inl ⟨[], rd_lst S0 this, Nat.le_refl _⟩
  · have q : rd so (upd H D (.lst [])) a = some (.lst xs) := by rw [rd_upd e]; exact h
    cases xs with
    | nil => exact .inl ⟨[], rd_lst S0 q, Nat.le_refl _⟩
    | cons x r => exact .inr ⟨_, x, rd_lst S0 q, rfl⟩⟩
theorem jokH_tup {K : PySem.W.Frag} {so : Addr → Option HO} (S0 : SoOk K so) {a : Addr} {xs : List V} {H : Hp} (h : rd so H a = some (.tup xs)) : JokH (Itt K a) xs (fun H => rd so H a = some (.tup xs)) H := ⟨jok_tup S0 a xs, fun _ _ _ _ y => y.1, fun D hD => by
  by_cases e : a = D
  · subst e
    rcases rd_tup S0 h with r | r
    · unfold Rd at r
      rcases r with r | ⟨_, r⟩ <;> (rw [hD] at r; cases r)
    · have q : SqT K (upd H a (.lst [])) a xs := .inr r
      cases xs with
      | nil => exact .inl ⟨[], q, Nat.le_refl _⟩
      | cons x r => exact .inr ⟨_, x, q, rfl⟩
  · have q : rd so (upd H D (.lst [])) a = some (.tup xs) := by rw [rd_upd e]; exact h
    cases xs with
    | nil => exact .inl ⟨[], rd_tup S0 q, Nat.le_refl _⟩
    | cons x r => exact .inr ⟨_, x, rd_tup S0 q, rfl⟩⟩
theorem lc_gen2 {so : Addr → Option HO} {J : It} {kp : Hp → Prop} {xs : List V} {g g' : TG} {tt : TT} {te : TE} {vs : List Nat} {σ : St} {H1 : Hp} {D : Addr} {Qd : Hp → Prop} (j : JokH J xs kp H1) (hD : H1 D = none)
    (hg : ∀ x H Q, g x (wipe σ vs) H Q → g' x (wipe σ vs) H fun σ2 H2 => wipe σ2 vs = wipe σ vs ∧ Q σ2 H2) (h : so D = none → lcL kp g tt te D (wipe σ vs) xs (upd H1 D (.lst [])) Qd) :
    ∃ W : Nat → Nat → Hp → Prop, (∃ m, W 0 m (upd H1 D (.lst []))) ∧ ∀ i m H, W i m H →
      (J.stop i H ∧ (NoK so H → Qd H)) ∨ (J.go i H ∧ ∃ Nx : Hp → Prop, (∀ H', Nx H' → ∃ m', m' < m ∧ W (i + 1) m' H') ∧ ∀ x H', J.yld i H x H' → NoK so H' → g' x (wipe σ vs) H' fun σ2 H2 => wipe σ2 vs = wipe σ vs ∧ tt σ2 H2 fun b H3 =>
        if b = true then te σ2 H3 fun y H4 => ∃ acc, H4 D = some (.lst acc) ∧ acc.length < sizeLine ∧ Nx (upd H4 D (.lst (acc ++ [y]))) else Nx H3) := by
  by_cases hs : so D = none
  · obtain ⟨W, a, b⟩ := lc_gen j.j hg (h hs)
    refine ⟨W, a, fun i m H w => ?_⟩
    rcases b i m H w with ⟨b1, b2⟩ | ⟨b1, Nx, b2, b3⟩
    · exact .inl ⟨b1, fun _ => b2⟩
    · exact .inr ⟨b1, Nx, b2, fun x H' y _ => b3 x H' y⟩
  · refine ⟨fun i _ H => i = 0 ∧ H = upd H1 D (.lst []), ⟨0, rfl, rfl⟩, ?_⟩
    rintro i m H ⟨rfl, rfl⟩
    rcases j.one D hD with a | a
    · exact .inl ⟨a, fun nk => absurd (nok_upd nk) hs⟩
    · refine .inr ⟨a, fun _ => False, fun H' z => z.elim, fun x H' y nk => ?_⟩
      rw [j.same _ _ _ _ y] at nk
      exact absurd (nok_upd nk) hs
theorem PG.nok {X : Cx} {so : Addr → Option HO} (S : SoOk X.K so) {e : Expr} {g : TG} (h : PG X e g) : PG X e (fun v σ H Q => NoK so H → g v σ H Q) := ⟨fun pins s σ H v u Q I r z => h.run pins s σ H v u Q I r (z (nok_of S I))⟩
theorem nmOf_eq {e : Expr} {x : Str × Pos} (h : nmOf e = some x) : e = .Name x.1 x.2 := by
  cases e <;> cases h
  rfl
theorem rngOf_eq {C : CI} {e : Expr} {as : List Expr} (h : rngOf C e = some as) : ∃ x p q, e = .Call (.Name x p) as [] q ∧ isRange C x = true := by
  cases e with
  | Call f bs ks q =>
    obtain ⟨h1, h2⟩ := if_some h
    cases h2
    split at h1
    · rename_i x e
      rw [nmOf_eq e]
      exact ⟨_, _, _, rfl, h1⟩
    · cases h1
  | _ => cases h
theorem rng_name {X : Cx} {S : Stat} {F : Sm} {k : Nat} {C : CI} {W : WX} (O : OkE X S F k C W) {x : Str} (h : isRange C x = true) : x = "range" ∧ Gl X "range" ∧ X.mg "range" = none := by
  unfold isRange at h
  simp only [Bool.and_eq_true, beq_iff_eq] at h
  obtain ⟨⟨rfl, h2⟩, h3⟩ := h
  exact ⟨rfl, O.gl h2, O.G.rng h3⟩
end QL
set_option Elab.async false
set_option linter.all false
set_option maxRecDepth 100000
set_option maxHeartbeats 4000000
/-! Q8: the turned expressions keep what is asked: the whole induction. -/
namespace QL
open PySem PySem.Spec L2
open PyProof.Rows hiding St
def lenX : Exs → Nat
  | .nil => 0
  | .cons _ es => lenX es + 1
section
variable {X : Cx} {S : Stat} {F : Sm} {k : Nat} {C : CI} {W : WX} (O : OkE X S F k C W) (M : SmMono F)
include O M
theorem idx_ok {n : Nat} {o i : Expr} {p : Pos} {c : Ex} (iE : ∀ e c, cE C n e = some c → PE X e (wE S F W c)) (hi : notSlice i = true) (h : two (cE C n o) (cE C n i) Ex.idx = some c) : PE X (.Subscript o i p) (wE S F W c) := by
  obtain ⟨o', i', h1, h2, rfl⟩ := two_some h
  refine PE.imp (pe_ix (ix_idxV O.G.so O.hu1) (iE o o' h1) (iE i i' h2) (slice_ok hi)) fun σ H Q z => ?_
  unfold wE at z
  exact z
theorem val_ok {n : Nat} {e : Expr} {c : Te} (iE : ∀ e c, cE C n e = some c → PE X e (wE S F W c)) (hp : plainTest e = true) (h : (cE C n e).map Te.val = some c) : PT X e (wT S F W c) := by
  obtain ⟨e', h1, rfl⟩ := map_some h
  refine PT.imp (pt_truth (iE e e' h1) (test_ok hp)) fun σ H Q z => ?_
  unfold wT at z
  exact wE_mono M e' (fun x H1 z1 => tru_ex (B := fun k => Q k H1) O.G.so z1) z
omit O in
theorem nCE_app {f : Expr → Option Ex} : ∀ {as bs : List Expr} {c : Exs}, nCE f (as ++ bs) = some c → ∃ c1 c2, nCE f as = some c1 ∧ nCE f bs = some c2 ∧ ∀ σ H (Q : List V → Hp → Prop), wA S F W c σ H Q → wA S F W c1 σ H fun vs H1 => wA S F W c2 σ H1 fun ws H2 => Q (vs ++ ws) H2
  | [], bs, c, h => ⟨.nil, c, rfl, h, fun σ H Q z => by unfold wA; exact z⟩
  | a :: as, bs, c, h => by
    obtain ⟨x, y, h1, h2, rfl⟩ := nCE_cons (f := f) h
    obtain ⟨c1, c2, g1, g2, g3⟩ := nCE_app h2
    refine ⟨.cons x c1, c2, ?_, g2, fun σ H Q z => ?_⟩
    · unfold nCE
      rw [h1, g1]
    · rw [wA] at z ⊢
      exact wE_mono M x (fun v H1 z1 => wA_mono M c1 (fun vs H2 z2 => wA_mono M c2 (fun ws H3 z3 => z3) z2) (g3 σ H1 _ z1)) z
omit O in
theorem wA_len : ∀ (c : Exs) {σ : St} {H : Hp} {Q : List V → Hp → Prop}, wA S F W c σ H Q → wA S F W c σ H fun vs H1 => vs.length = lenX c ∧ Q vs H1
  | .nil, σ, H, Q, z => by
    rw [wA] at z ⊢
    exact ⟨rfl, z⟩
  | .cons e es, σ, H, Q, z => by
    rw [wA] at z ⊢
    exact wE_mono M e (fun x H1 z1 => wA_mono M es (fun xs H2 z2 => ⟨by rw [List.length_cons, z2.1]; rfl, z2.2⟩) (wA_len es z1)) z
omit O M in
theorem nCE_len {f : Expr → Option Ex} : ∀ {as : List Expr} {c : Exs}, nCE f as = some c → lenX c = as.length
  | [], c, h => by cases h; rfl
  | a :: as, c, h => by
    obtain ⟨x, y, h1, h2, rfl⟩ := nCE_cons (f := f) h
    show lenX y + 1 = _
    rw [nCE_len h2]
    rfl
omit O M in
theorem kws_pk {n : Nat} (iE : ∀ e c, cE C n e = some c → PE X e (wE S F W c)) : ∀ {ks : List Keyword} {kk : List (Str × Expr)} {c : Exs}, kwsOf ks = some kk → nCE (cE C n) (kk.map (·.2)) = some c →
    PK X ks (wA S F W c) ∧ ∀ pos : Pos, (backToKw pos (keywordEach ks X.env)).all (·.1.isSome) = true ∧ (backToKw pos (keywordEach ks X.env)).filterMap (·.1) = kk.map (·.1) ∧ (backToKw pos (keywordEach ks X.env)).any (·.1.isNone) = false
  | [], kk, c, h, hc => by
    cases h
    cases hc
    refine ⟨?_, fun pos => ⟨rfl, rfl, rfl⟩⟩
    unfold wA
    exact pk_nil
  | ⟨nm, e, kp⟩ :: ks, kk, c, h, hc => by
    obtain ⟨a, b, h1, h2, rfl⟩ := two_some (f := fun a b => a :: b) h
    unfold kwOf at h1
    obtain ⟨y, h3, rfl⟩ := map_some h1
    simp only at h3
    subst h3
    obtain ⟨x, z, g1, g2, rfl⟩ := nCE_cons hc
    obtain ⟨P, q⟩ := kws_pk iE h2 g2
    refine ⟨?_, fun pos => ?_⟩
    · unfold wA
      exact pk_cons (iE _ _ g1) P
    · obtain ⟨q1, q2, q3⟩ := q pos
      have ee : backToKw pos (keywordEach (⟨some y, e, kp⟩ :: ks) X.env) = (some y, do let v ← eval e X.env; standAt pos; pure v) :: backToKw pos (keywordEach ks X.env) := rfl
      rw [ee]
      refine ⟨?_, ?_, ?_⟩
      · rw [List.all_cons, q1]; rfl
      · rw [List.filterMap_cons, q2]; rfl
      · rw [List.any_cons, q3]; rfl
theorem mkCk_ok {n : Nat} (iE : ∀ e c, cE C n e = some c → PE X e (wE S F W c)) {x : Str} {q p : Pos} {a : Expr} {as : List Expr} {k : Keyword} {ks : List Keyword} {kk : List (Str × Expr)} {c : Ex} (hg : Gl X x) (h1 : kwsOf (k :: ks) = some kk) (h2 : cMkC C (cE C n) x (a :: as) kk = some c) :
    PE X (.Call (.Name x q) (a :: as) (k :: ks) p) (wE S F W c) := by
  unfold cMkC at h2
  cases e : C.gl x with
  | ocl =>
    rw [e] at h2
    obtain ⟨es, h3, rfl⟩ := map_some h2
    obtain ⟨c1, c2, g1, g2, g3⟩ := nCE_app (S := S) (F := F) (W := W) M h3
    have PAs := nCE_pa iE g1
    have st := nCE_star g1
    obtain ⟨P, hk⟩ := kws_pk (X := X) iE h1 g2
    obtain ⟨k1, k2, k3⟩ := hk p
    refine ⟨fun pins s σ H Q I z => ?_⟩
    unfold wE at z
    have z := wA_mono M c1 (fun vs H1 z1 => wA_len M c2 z1) (g3 σ H _ z)
    obtain ⟨D, hdb, hm, hkp⟩ := O.G.own x (.inr e)
    refine wpAny_Call_Name_kw (ld_glob I hg hm ?_ hdb)
    refine PySem.W.callWith_KW (h₀ := X.base) I.ok.mod.kin hkp k1 (thn (PAs.run p pins s σ H _ I z) fun us s1 ⟨vs, H1, I1, r, q1⟩ => ?_) ?_ (star_one (st a (List.mem_cons_self ..)))
    · refine thn (P.run p pins s1 σ H1 _ I1 q1) fun ws s2 ⟨zs, H2, I2, rz, hzl, q2⟩ => ⟨I2.kIn, ?_⟩
      rw [k2]
      have hl : (kk.map (·.1)).length = zs.length := by
        rw [hzl, nCE_len g2, List.length_map, List.length_map]
      · have q3 := mk_run O M e hm I2 (r.append rz) rfl q2
        have e1 : (vs ++ zs).length - (kk.map (·.1)).length = us.length := by
          rw [List.length_append, hl, r.length]
          omega
        rw [e1, List.take_left, List.drop_left] at q3
        exact q3
    · have s1 := star_no (env := X.env) (pos := p) st
      rw [s1, k3]
      rfl
  | _ => rw [e] at h2; cases h2
theorem met_ok {n : Nat} {o : Expr} {m : Str} {ap p : Pos} {as : List Expr} {o' : Ex} {es : Exs} (hp : plainBase o = true) (hl : (ap.endLine == p.line) = true) (hf : as.length < 20) (ho : PE X o (wE S F W o')) (ha : nCE (cE C n) as = some es) (iE : ∀ e c, cE C n e = some c → PE X e (wE S F W c)) :
    PE X (.Call (.Attribute o m ap) as [] p) (wE S F W (.met o' m es)) := by
  have st := nCE_star ha
  have PAs := nCE_pa iE ha
  refine ⟨fun pins s σ H Q I z => ?_⟩
  unfold wE at z
  refine PySem.W.methodCall_KW (thn (ho.run pins s σ H _ I z) fun u s1 ⟨x, H1, I1, rx, q⟩ => ?_) (meth_eval hp st hf hl)
  change metK S m x H1 _ at q
  unfold metK at q
  cases x with
  | ref a =>
    obtain rfl : u = Value.ref a := rx
    simp only at q
    split at q
    · rename_i D dx fs ea
      obtain ⟨hlk, q⟩ := q
      split at q
      · rename_i g eg
        obtain ⟨cl, f, fd, ps, hm, Fn, hb⟩ := O.G.mt D m g eg
        refine getmeth_ok I1 ea cl hm hlk ?_
        cases as with
        | nil =>
          cases ha
          unfold wA at q
          refine PySem.W.callWith_K0 (first := [.ref a]) I1.kIn hm.kp (run_g (us := [.ref a]) (full := [.ref a]) (vs := [.ref a]) Fn O.gd (O.rm.mono (Nat.le_succ _)) O.tk I1 ?_ (.cons rfl .nil) q)
          have hlen := Fn.len _ _ _ _ q
          have := hb s1 [.ref a] I1.kIn (by simpa using hlen)
          rwa [List.append_nil] at this
        | cons e es' =>
          refine PySem.W.callWith_K (first := [.ref a]) (h₀ := X.base) I.ok.mod.kin hm.kp (thn (PAs.run p pins s1 σ H1 _ I1 q) fun us s2 ⟨vs, H2, I2, r, q2⟩ => ⟨I2.kIn, ?_⟩) (star_one (st e (List.mem_cons_self ..))) (star_no fun e he => st e (List.mem_cons_of_mem _ he))
          refine run_g (us := .ref a :: us) (full := .ref a :: us) (vs := .ref a :: vs) Fn O.gd (O.rm.mono (Nat.le_succ _)) O.tk I2 ?_ (.cons rfl r) q2
          have hlen := Fn.len _ _ _ _ q2
          have := hb s2 (.ref a :: us) I2.kIn (by simpa [← r.length] using hlen)
          rwa [List.append_nil] at this
      · exact q.elim
    · exact q.elim
  | _ => exact q.elim
omit M in
theorem bm_ty {m : Bm} {x : V} {H : Hp} (h : bmTyK S m x H) : tyV X.K (bmTy m) x H := by
  unfold bmTyK at h
  split at h
  · split at h
    · rename_i e
      refine .inl ⟨by cases m <;> rfl, _, rd_lst O.G.so e⟩
    · exact h.elim
  · exact h.elim
def bmI : Bm → String
  | .count => "list.count" | .append => "list.append" | .insert => "list.insert"
omit M in
theorem bm_mt : ∀ m : Bm, MtR X (bmI m) (bmV S m)
  | .count => fun pins s σ H x xs v us Q I rx rxs h => mt_count pins s σ H x xs v us Q I rx rxs (by
    change mCount S x xs H Q at h
    unfold mCount at h
    split at h
    · split at h
      · rename_i e
        exact ⟨_, _, _, rfl, rfl, rd_lst O.G.so e, h.1, h.2.1, h.2.2⟩
      · exact h.elim
    · exact h.elim)
  | .append => fun pins s σ H x xs v us Q I rx rxs h => mt_append pins s σ H x xs v us Q I rx rxs (by
    change mAppend x xs H Q at h
    unfold mAppend at h
    split at h
    · split at h
      · rename_i e
        exact ⟨_, _, _, rfl, rfl, e, h.1, h.2⟩
      · exact h.elim
    · exact h.elim)
  | .insert => fun pins s σ H x xs v us Q I rx rxs h => mt_insert pins s σ H x xs v us Q I rx rxs (by
    change mInsert x xs H Q at h
    unfold mInsert at h
    split at h
    · split at h
      · rename_i e
        obtain ⟨rfl, h2, h3⟩ := h
        exact ⟨_, _, _, _, rfl, rfl, e, h2, Int.le_refl _, by decide, by simpa using h3⟩
      · exact h.elim
    · exact h.elim)
omit M in
theorem bm_pe {m : Bm} {o e : Expr} {es : List Expr} {to : TE} {t : TA} {apos cpos : Pos} (ho : PE X o to) (ha : PA X (e :: es) t) (hbase : attributeBase o (bmN m) X.env (eval o X.env) = eval o X.env)
    (hfew : ((backTo cpos (starEach (e :: es) X.env)).all (fun x => !x.1) && (backToKw cpos (keywordEach [] X.env)).all (fun x => x.1.isSome)
      && decide ((e :: es).length + ([] : List Keyword).length + (if ([] : List Keyword).isEmpty then 0 else 1) < 30)) = true)
    (hline : (apos.endLine == cpos.line) = true) (hs : starEach (e :: es) X.env = (false, eval e X.env) :: starEach es X.env) (hplain : (backTo cpos (starEach es X.env)).any (·.1) = false) :
    PE X (.Call (.Attribute o (bmN m) apos) (e :: es) [] cpos) (tBM X.K (bmTy m) (bmV S m) to t) := by
  cases m with
  | count => exact pe_bm PySem.F.plainAttrs_list PySem.F.slot_list_count PySem.F.type_list_count (bm_mt O .count) ho ha hbase hfew hline hs hplain
  | append => exact pe_bm PySem.F.plainAttrs_list PySem.F.slot_list_append PySem.F.type_list_append (bm_mt O .append) ho ha hbase hfew hline hs hplain
  | insert => exact pe_bm PySem.F.plainAttrs_list PySem.F.slot_list_insert PySem.F.type_list_insert (bm_mt O .insert) ho ha hbase hfew hline hs hplain
omit O M in
theorem bmOf_name {m : Str} {b : Bm} (h : bmOf m = some b) : m = bmN b := by
  unfold bmOf at h
  split at h
  · cases h; assumption
  · split at h
    · cases h; assumption
    · split at h
      · cases h; assumption
      · cases h
theorem bm_ok {n : Nat} {o : Expr} {m : Str} {b : Bm} {ap p : Pos} {as : List Expr} {o' : Ex} {es : Exs} (hne : (!as.isEmpty) = true) (hb : bmOf m = some b) (hp : plainBase o = true) (hl : (ap.endLine == p.line) = true) (hf : as.length < 20) (ho : PE X o (wE S F W o')) (ha : nCE (cE C n) as = some es) (iE : ∀ e c, cE C n e = some c → PE X e (wE S F W c)) :
    PE X (.Call (.Attribute o m ap) as [] p) (wE S F W (.bm b o' es)) := by
  have st := nCE_star ha
  have PAs := nCE_pa iE ha
  cases as with
  | nil => cases hne
  | cons e es' =>
    have em := bmOf_name hb
    subst em
    have h1 := star_no (env := X.env) (pos := p) st
    have h2 : (backTo p (starEach (e :: es') X.env)).all (fun x => !x.1) = true := by
      rw [List.all_eq_true]
      intro x hx
      rw [List.any_eq_false] at h1
      simpa using h1 x hx
    refine PE.imp (bm_pe O ho PAs (base_ok hp) ?_ hl (star_one (st e (List.mem_cons_self ..))) (star_no fun e he => st e (List.mem_cons_of_mem _ he))) fun σ H Q z => ?_
    · rw [h2]
      show (true && true && decide ((e :: es').length + 0 + 0 < 30)) = true
      simp at hf ⊢
      omega
    · unfold wE at z
      exact wE_mono M o' (fun x H1 z1 => ⟨bm_ty O z1.1, z1.2⟩) z
omit M in
theorem src_ok {n : Nat} (M : SmMono F) {tg it : Expr} {s : Sr} (iE : ∀ e c, cE C n e = some c → PE X e (wE S F W c)) (h : cSr C (cE C n) it = some s) :
    ∃ wi, PI X tg it wi ∧ (∀ x, foldedSetIterable it X.env x = pure x) ∧ ∀ σ H (R : It → Hp → Prop), wI S F W s σ H (fun xs kp H1 => ∀ J, JokH J xs kp H1 → R J H1) → wi σ H R := by
  unfold cSr at h
  cases e : rngOf C it with
  | none =>
    simp only [e] at h
    obtain ⟨hw, h⟩ := if_some h
    obtain ⟨c, h1, rfl⟩ := map_some h
    refine ⟨_, pi_seq (iE it c h1), ?_, fun σ H R z => ?_⟩
    · intro x
      cases it <;> first | rfl | cases hw
    · unfold wI at z
      refine wE_mono M c (fun x H1 z1 => ?_) z
      unfold seqK at z1
      split at z1
      · split at z1
        · rename_i q
          exact ⟨_, rfl, .inl ⟨⟨_, rd_lst O.G.so q⟩, z1 _ (jokH_lst O.G.so q)⟩⟩
        · rename_i q
          exact ⟨_, rfl, .inr ⟨⟨_, rd_tup O.G.so q⟩, z1 _ (jokH_tup O.G.so q)⟩⟩
        · exact z1.elim
      · exact z1.elim
  | some as =>
    simp only [e] at h
    obtain ⟨x, p, q, rfl, hr⟩ := rngOf_eq e
    obtain ⟨rfl, hg, hm⟩ := rng_name O hr
    match as, h with
    | [a], h =>
      obtain ⟨a', h1, rfl⟩ := map_some (f := Sr.rng (.lit (.int 0))) h
      refine ⟨_, pi_rng1 (tg := tg) (p := p) (pos := q) hg hm (iE a a' h1) (cE_star h1), fun _ => rfl, fun σ H R z => ?_⟩
      unfold wI wE at z
      refine wE_mono M a' (fun x H1 z1 => ?_) z
      unfold intK at z1
      simp only at z1
      split at z1
      · exact ⟨_, rfl, z1 _ (jokH_rng _ _ _)⟩
      · exact z1.elim
    | [a, d], h =>
      obtain ⟨a', d', h1, h2, rfl⟩ := two_some (f := Sr.rng) h
      refine ⟨_, pi_rng2 (tg := tg) (p := p) (pos := q) hg hm (iE a a' h1) (iE d d' h2) (cE_star h1) (cE_star h2), fun _ => rfl, fun σ H R z => ?_⟩
      unfold wI at z
      refine wE_mono M a' (fun x H1 z1 => wE_mono M d' (fun y H2 z2 => ?_) z1) z
      unfold intK at z2
      split at z2
      · split at z2
        · exact ⟨_, _, rfl, z2 _ (jokH_rng _ _ _)⟩
        · exact z2.elim
      · exact z2.elim
omit M in
theorem tg_ok {scope : Scope} {tg : Expr} {u : Tg × List (Str × Nat)} (h : cTg (C.blk scope) tg = some u) (ho : ownOk scope u.2 = true) :
    ∃ g : TG, (∀ (s : Shared) (H : Hp) (Cc : Addr) (cl : List (Str × Addr)) (fp : List Addr), PG (X.blk s H scope (compEnvC scope cl Cc X.env) fp) tg g) ∧
      ∀ σ x H Q, gT S.so u.1 x (wipe σ (u.2.map (·.2))) H Q → g x (wipe σ (u.2.map (·.2))) H fun σ2 H2 => wipe σ2 (u.2.map (·.2)) = wipe σ (u.2.map (·.2)) ∧ Q σ2 H2 := by
  have ho' : ∀ p ∈ u.2, scope.names.lookup p.1 = some .local ∨ scope.names.lookup p.1 = some .cell := fun p hp => by
    have := List.all_eq_true.mp ho p hp
    split at this
    · exact .inl (by assumption)
    · exact .inr (by assumption)
    · cases this
  cases tg with
  | Name x p =>
    obtain ⟨i, h1, rfl⟩ := map_some (f := fun i => (Tg.nm i, [(x, i)])) h
    refine ⟨gName i, fun s H Cc cl fp => ?_, fun σ y H Q z => ⟨?_, z⟩⟩
    · obtain ⟨nd, l1, l2, l3⟩ := O.blk_loc s H Cc cl fp (ho' (x, i) (by simp)) h1
      exact pg_name nd l1 l2 l3
    · rw [wipe_set (by simp), wipe_idem]
  | Tuple ts kt pt =>
    obtain ⟨ns, h1, h⟩ := bind_some h
    obtain ⟨is, h2, rfl⟩ := map_some (f := fun is => (Tg.tp is, (ns.map (·.1)).zip is)) h
    have hz : ((ns.map (·.1)).zip is).map (·.2) = is := by
      rw [List.map_snd_zip]
      rw [List.length_map, slots_len h2]
      exact Nat.le_refl _
    refine ⟨gTup X.K ns.length (gL is), fun s H Cc cl fp => ?_, fun σ y H Q z => ?_⟩
    · refine tp_pgL (X := X.blk s H scope (compEnvC scope cl Cc X.env) fp) O.calm h1 h2 fun y hy i hi => ?_
      refine O.blk_loc s H Cc cl fp ?_ hi
      have key : ∀ {ns : List (Str × Pos)} {is : List Nat}, slots (C.blk scope) ns = some is → ∀ y ∈ ns, ∃ i, (y.1, i) ∈ (ns.map (·.1)).zip is := by
        intro ns
        induction ns with
        | nil => intro is _ y hy; cases hy
        | cons w ns ih =>
          intro is h y hy
          obtain ⟨i, r, g1, g2, rfl⟩ := two_some (f := fun a b => a :: b) h
          rcases List.mem_cons.mp hy with rfl | hy
          · exact ⟨i, by simp⟩
          · obtain ⟨j, hj⟩ := ih g2 y hy
            exact ⟨j, by simp [hj]⟩
      obtain ⟨j, hj⟩ := key h2 y hy
      exact ho' _ hj
    · simp only [hz] at z ⊢
      refine gT_gTup O.G.so h2 ?_
      unfold gT at z ⊢
      simp only at z ⊢
      split at z
      · split at z
        · unfold parK at z ⊢
          split at z
          · rename_i e
            exact ⟨by rw [setL_wipe (fun i hi => hi) e, wipe_idem], z⟩
          · exact z.elim
        · exact z.elim
      · exact z.elim
  | _ => cases h
theorem lc_ok {n : Nat} (iE : ∀ e c, cE C n e = some c → PE X e (wE S F W c)) (ih : ∀ {X : Cx} {C : CI} {W : WX}, OkE X S F k C W → (∀ e c, cE C n e = some c → PE X e (wE S F W c)) ∧ (∀ e c, cO C n e = some c → PO X e (wO S F W c)) ∧ (∀ e c, cT C n e = some c → PT X e (wT S F W c)))
    {e : Expr} {g : Comprehension} {scope : Scope} {p : Pos} {c : Ex} (h : iff' (g.is_async == 0) (cLc C scope (cSr C (cE C n) g.iter) (cTg (C.blk scope) g.target) (cIfs (cT (C.blk scope) n) g.ifs) (cE (C.blk scope) n e)) = some c) :
    PE X (.ListComp e [g] scope p) (wE S F W c) := by
  obtain ⟨ha, h⟩ := if_some h
  obtain ⟨tg, it, ifs, asy⟩ := g
  simp only at ha h
  have ha : asy = 0 := by simpa using ha
  subst ha
  unfold cLc at h
  obtain ⟨u, h1, h⟩ := bind_some h
  obtain ⟨hb, h⟩ := if_some h
  obtain ⟨s', c', e', g1, g2, g3, rfl⟩ := tri_some (f := fun s c e => Ex.lc u.1 s c e (u.2.map (·.2))) h
  simp only [Bool.and_eq_true] at hb
  obtain ⟨hb1, hb2⟩ := hb
  have bk : BlkOk X.N X.env.scope scope u.2 := blkOk_by (by
    have : blkC X.N X.env.scope scope u.2 = blkC C.N C.sc scope u.2 := by
      unfold blkC
      rw [O.N, O.sc]
    rw [this]
    exact hb1)
  obtain ⟨wi, P1, P2, P3⟩ := src_ok O M (tg := tg) iE g1
  obtain ⟨gg, G1, G2⟩ := tg_ok O h1 hb2
  have S0 := O.G.so
  have OB := fun (s : Shared) (H : Hp) (Cc : Addr) (cl : List (Str × Addr)) (fp : List Addr) => O.blk bk.kind s H Cc cl fp
  have ht : ∀ (s : Shared) (H : Hp) (Cc : Addr) (cl : List (Str × Addr)) (fp : List Addr), PTs (X.blk s H scope (compEnvC scope cl Cc X.env) fp) ifs (wT S F never c') := fun s H Cc cl fp => by
    match ifs, g2 with
    | [], g2 =>
      cases g2
      unfold wT
      exact pts_nil
    | [d], g2 => exact pts_one ((ih (OB s H Cc cl fp)).2.2 d c' g2)
    | _ :: _ :: _, g2 => cases g2
  refine PE.imp (PE.nok S0 (pe_lc O.calm (by rw [O.N]; exact O.nd) P1 bk (fun s H Cc cl fp => PG.nok (X := X.blk s H scope (compEnvC scope cl Cc X.env) fp) (so := S.so) S0 (G1 s H Cc cl fp)) ht (fun s H Cc cl fp => (ih (OB s H Cc cl fp)).1 e e' g3) P2)) fun σ H Q z => ?_
  unfold wE at z
  refine P3 σ H _ (wI_mono M s' (fun xs kp H1 z1 J hJ D hD => ?_) z)
  exact lc_gen2 (so := S.so) hJ hD (fun x H Q z => G2 σ x H Q z) fun hs => z1 D hD hs
end
section
variable {S : Stat} {F : Sm} {k : Nat}
theorem cE_ok (M : SmMono F) : ∀ (n : Nat) {X : Cx} {C : CI} {W : WX} (O : OkE X S F k C W), (∀ e c, cE C n e = some c → PE X e (wE S F W c)) ∧ (∀ e c, cO C n e = some c → PO X e (wO S F W c)) ∧ (∀ e c, cT C n e = some c → PT X e (wT S F W c)) := by
  intro n
  induction n with
  | zero => intro X C W O; exact ⟨fun e c h => (by cases h), fun e c h => (by cases h), fun e c h => (by cases h)⟩
  | succ n ih =>
    intro X C W O
    obtain ⟨iE, iO, iT⟩ := ih O
    have S0 := O.G.so
    refine ⟨fun e c h => ?_, fun e c h => ?_, fun e c h => ?_⟩
    · match e, h with
      | .Constant (.int i) _ _, h => cases h; unfold wE; exact pe_int
      | .Constant (.bool b) _ _, h => cases h; unfold wE; exact pe_bl
      | .Constant .none _ _, h => cases h; unfold wE; exact pe_non
      | .Constant (.str x) _ _, h => cases h; unfold wE; exact pe_str
      | .Name x p, h =>
        change cName C x = some c at h
        unfold cName at h
        obtain ⟨hn, h⟩ := if_some h
        obtain ⟨hd, hcd⟩ := okN_d hn
        cases es : slotOf C x with
        | some i =>
          simp only [es] at h
          cases h
          obtain ⟨h1, h2⟩ := O.slot es
          refine PE.imp (pe_var h1 h2 hd hcd) fun σ H Q z => ?_
          unfold wE varK at z
          split at z
          · rename_i v ev
            exact ⟨v, ev, z⟩
          · exact z.elim
        | none =>
          simp only [es] at h
          obtain ⟨hg, h⟩ := if_some h
          cases h
          simp only [Bool.and_eq_true, beq_iff_eq] at hg
          refine ⟨fun pins s σ H Q I z => ?_⟩
          unfold wE cstK at z
          split at z
          · rename_i v ev
            obtain ⟨u, hm, r⟩ := O.G.cst x v hg.2 ev
            exact (pe_glob (O.gl hg.1) hm r hd).run pins s σ H Q I z
          · exact z.elim
      | .BinOp a o b p, h =>
        obtain ⟨a', b', h1, h2, rfl⟩ := two_some (f := Ex.op o) h
        refine PE.imp (pe_op (op_opV S0 o) (iE a a' h1) (iE b b' h2)) fun σ H Q z => ?_
        unfold wE at z
        exact z
      | .UnaryOp .USub a p, h =>
        obtain ⟨a', h1, rfl⟩ := map_some (f := Ex.neg) h
        refine PE.imp (pe_un un_neg (iE a a' h1)) fun σ H Q z => ?_
        unfold wE at z
        refine wE_mono M a' (fun x H1 z1 => ?_) z
        unfold intK at z1
        split at z1
        · exact ⟨_, rfl, z1⟩
        · exact z1.elim
      | .UnaryOp .Not a p, h =>
        obtain ⟨a', h1, rfl⟩ := map_some (f := Ex.not) h
        refine PE.imp (pe_notT (iE a a' h1)) fun σ H Q z => ?_
        unfold wE at z
        exact wE_mono M a' (fun x H1 z1 => tru_ex (B := fun k => Q (.bl (!k)) H1) S0 z1) z
      | .Compare a [o] [b] p, h =>
        obtain ⟨hb, h⟩ := if_some h
        obtain ⟨a', b', h1, h2, rfl⟩ := two_some (f := Ex.cmp o) h
        refine PE.imp (pe_cmpR (op_cmpV S0 O.hu o) (iE a a' h1) (iE b b' h2) (marks_ok hb)) fun σ H Q z => ?_
        unfold wE at z
        exact z
      | .Compare a [o, o'] [b, d] p, h =>
        obtain ⟨hb, h⟩ := if_some h
        obtain ⟨a', b', d', h1, h2, h3, rfl⟩ := tri_some (f := Ex.chn o o') h
        simp only [Bool.and_eq_true] at hb
        refine PE.imp (pe_chain (op_cmpV S0 O.hu o) (op_cmpV S0 O.hu o') (iE a a' h1) (iE b b' h2) (iE d d' h3) (last_ok hb.2)) fun σ H Q z => ?_
        unfold wE at z
        exact wE_mono M a' (fun x H1 z1 => wE_mono M b' (fun y H2 z2 => cmpV_mono (fun v H3 z3 => boolV_ex z3) z2) z1) z
      | .BoolOp .And [a] p, h =>
        exact PE.imp (pe_one (iE a c h)) fun σ H Q z => z
      | .BoolOp .Or [a] p, h =>
        exact PE.imp (pe_one (iE a c h)) fun σ H Q z => z
      | .BoolOp .And (a :: b :: r) p, h =>
        obtain ⟨a', b', h1, h2, rfl⟩ := two_some (f := Ex.and) h
        refine PE.imp (pe_andT (iE a a' h1) (iE _ b' h2)) fun σ H Q z => ?_
        unfold wE at z
        exact wE_mono M a' (fun x H1 z1 => tru_ex (B := fun k => if k = true then wE S F W b' σ H1 Q else Q x H1) S0 z1) z
      | .BoolOp .Or (a :: b :: r) p, h =>
        obtain ⟨a', b', h1, h2, rfl⟩ := two_some (f := Ex.or) h
        refine PE.imp (pe_orT (iE a a' h1) (iE _ b' h2)) fun σ H Q z => ?_
        unfold wE at z
        exact wE_mono M a' (fun x H1 z1 => tru_ex (B := fun k => if k = true then Q x H1 else wE S F W b' σ H1 Q) S0 z1) z
      | .IfExp t a b p, h =>
        obtain ⟨t', a', b', h1, h2, h3, rfl⟩ := tri_some (f := Ex.ite) h
        refine PE.imp (pe_ifExp (iT t t' h1) (iE a a' h2) (iE b b' h3)) fun σ H Q z => ?_
        unfold wE at z
        exact z
      | .Attribute o f p, h =>
        obtain ⟨hb, h⟩ := if_some h
        obtain ⟨o', h1, rfl⟩ := map_some (f := (Ex.fld · f)) h
        refine ⟨fun pins s σ H Q I z => ?_⟩
        unfold wE at z
        refine attr_of (base_ok hb) (thn ((iE o o' h1).run pins s σ H _ I z) fun u s1 ⟨x, H1, I1, rx, z1⟩ => ?_)
        change fldV S f x H1 Q at z1
        unfold fldV at z1
        cases x with
        | ref a =>
          obtain rfl : u = Value.ref a := rx
          simp only at z1
          split at z1
          · rename_i Cc dx fs ea
            obtain ⟨z2, z3⟩ := z1
            split at z3
            · rename_i v ev
              obtain ⟨q1, q2⟩ := O.G.fl _ _ z2
              exact getattr_ok I1 ea q1 q2 ev fun u' s2 I2 ru => ⟨v, H1, I2, ru, z3⟩
            · exact z3.elim
          · rename_i φ ea
            obtain ⟨Cc, fs, v, h1, h2, h3, h4⟩ := z1
            obtain ⟨q1, q2⟩ := O.G.xf _ _ h2
            exact xf_get I1 h1 q1 q2 h3 h4
          · exact z1.elim
        | _ => exact z1.elim
      | .List es p, h =>
        obtain ⟨es', h1, rfl⟩ := map_some (f := Ex.lst) h
        refine PE.imp (PE.nok S0 (pe_lst (nCE_pa iE h1))) fun σ H Q z => ?_
        unfold wE at z
        exact wA_mono M es' (fun xs H1 z1 => ⟨z1.1, fun p hp nk => z1.2 p hp (nok_upd nk)⟩) z
      | .Tuple es q p, h =>
        obtain ⟨es', h1, rfl⟩ := map_some (f := Ex.tup) h
        refine PE.imp (PE.nok S0 (pe_tup (nCE_pa iE h1))) fun σ H Q z => ?_
        unfold wE at z
        exact wA_mono M es' (fun xs H1 z1 => ⟨z1.1, fun p hp nk => z1.2 p hp (nok_upd nk)⟩) z
      | .Call (.Name x q) (a :: as) [] p, h => exact call_ok O M iE h
      | .Call (.Name x q) [] [] p, h =>
        obtain ⟨hg, h⟩ := if_some h
        cases e : C.gl x with
        | xcl =>
          rw [e] at h
          cases h
          exact mkx0_ok O M (O.gl hg) e
        | _ => rw [e] at h; cases h
      | .Dict [] [] p, h =>
        cases h
        refine PE.imp (PE.nok S0 pe_dnewK) fun σ H Q z => ?_
        unfold wE at z
        exact fun d hd nk => z d hd (nok_upd nk)
      | .ListComp e [g] scope p, h => exact lc_ok O M iE (fun O => ih O) h
      | .Call (.Name x q) (a :: as) (k :: ks) p, h =>
        obtain ⟨hg, h⟩ := if_some h
        obtain ⟨kk, h1, h2⟩ := bind_some h
        exact mkCk_ok O M iE (O.gl hg) h1 h2
      | .Call (.Attribute o m ap) as [] p, h =>
        obtain ⟨hb, h⟩ := if_some h
        simp only [Bool.and_eq_true, decide_eq_true_eq] at hb
        obtain ⟨⟨b1, b2⟩, b3⟩ := hb
        unfold cMet at h
        split at h
        · rename_i b eb
          obtain ⟨hne, h⟩ := if_some h
          obtain ⟨o', es, h1, h2, rfl⟩ := two_some (f := Ex.bm b) h
          exact bm_ok O M hne eb b1 b2 b3 (iE o o' h1) h2 iE
        · obtain ⟨o', es, h1, h2, rfl⟩ := two_some (f := fun o es => Ex.met o m es) h
          exact met_ok O M b1 b2 b3 (iE o o' h1) h2 iE
      | .Subscript o i p, h =>
        cases i with
        | Slice lo hi d q =>
          cases d with
          | none =>
            obtain ⟨o', lo', hi', h1, h2, h3, rfl⟩ := tri_some (f := Ex.slc) h
            refine PE.imp (pe_slice (sl_slcV S0) (iE o o' h1) (iO lo lo' h2) (iO hi hi' h3)) fun σ H Q z => ?_
            unfold wE at z
            exact z
          | some d => cases h
        | _ => exact idx_ok O M iE rfl h
    · cases e with
      | none =>
        cases h
        unfold wO
        exact po_none
      | some e =>
        obtain ⟨e', h1, rfl⟩ := map_some (f := Ox.some) h
        refine ⟨fun pins s σ H Q I z => (po_some (iE e e' h1)).run pins s σ H Q I ?_⟩
        unfold wO at z
        refine wE_mono M e' (fun x H1 z1 => ?_) z
        unfold intK at z1
        split at z1
        · exact ⟨_, rfl, z1⟩
        · exact z1.elim
    · cases e with
      | UnaryOp op a p =>
        cases op with
        | Not =>
          obtain ⟨a', h1, rfl⟩ := map_some (f := Te.not) h
          refine PT.imp (pt_not (iT a a' h1)) fun σ H Q z => ?_
          unfold wT at z
          exact z
        | _ => exact val_ok O M iE rfl h
      | BoolOp op vs p =>
        match op, vs, h with
        | .And, [], h => cases h
        | .Or, [], h => cases h
        | .And, [a], h => exact (pw_and1 (iT a c h)).pt
        | .Or, [a], h => exact (pw_or1 (iT a c h)).pt
        | .And, a :: b :: r, h =>
          obtain ⟨a', b', h1, h2, rfl⟩ := two_some (f := Te.and) h
          refine PT.imp (pw_and (iT a a' h1) (pw_of (iT _ b' h2))).pt fun σ H Q z => ?_
          unfold wT at z
          exact z
        | .Or, a :: b :: r, h =>
          obtain ⟨a', b', h1, h2, rfl⟩ := two_some (f := Te.or) h
          refine PT.imp (pw_or (iT a a' h1) (pw_of (iT _ b' h2))).pt fun σ H Q z => ?_
          unfold wT at z
          exact z
      | IfExp t a b p => cases h
      | Compare a os bs p =>
        match os, bs, h with
        | [o], [b], h =>
          obtain ⟨hb, h⟩ := if_some h
          obtain ⟨a', b', h1, h2, rfl⟩ := two_some (f := Te.cmp o) h
          refine PT.imp (pt_cmpR (op_cmpV S0 O.hu o) (iE a a' h1) (iE b b' h2) (marks_ok hb)) fun σ H Q z => ?_
          unfold wT at z
          exact wE_mono M a' (fun x H1 z1 => wE_mono M b' (fun y H2 z2 => cmpV_mono (fun v H3 z3 => boolV_ex z3) z2) z1) z
        | [o, o'], [b, d], h =>
          obtain ⟨hb, h⟩ := if_some h
          obtain ⟨a', b', d', h1, h2, h3, rfl⟩ := tri_some (f := Te.chn o o') h
          simp only [Bool.and_eq_true] at hb
          refine PT.imp (pt_chain (op_cmpV S0 O.hu o) (op_cmpV S0 O.hu o') (iE a a' h1) (iE b b' h2) (iE d d' h3) (last_ok hb.2)) fun σ H Q z => ?_
          unfold wT at z
          refine wE_mono M a' (fun x H1 z1 => wE_mono M b' (fun y H2 z2 => cmpV_mono (fun v H3 z3 => ?_) z2) z1) z
          obtain ⟨k, rfl, z3⟩ := boolV_ex z3
          refine ⟨k, rfl, ?_⟩
          cases k with
          | true => exact wE_mono M d' (fun y H4 z4 => cmpV_mono (fun v H5 z5 => boolV_ex z5) z4) z3
          | false => exact ⟨false, rfl, z3⟩
      | _ => exact val_ok O M iE rfl h
end
end QL
set_option Elab.async false
set_option linter.all false
set_option maxRecDepth 100000
set_option maxHeartbeats 4000000
/-! Q9: statements: the small language, what its terms ask, how Python's are turned. -/
namespace QL
open PySem PySem.Spec L2
open PyProof.Rows hiding St
mutual
inductive Sx where
  | asg (i : Nat) (e : Ex)
  | setI (o i e : Ex)
  | setF (o : Ex) (f : Str) (e : Ex)
  | par (is : List Nat) (es : Exs)
  | exp (e : Ex)
  | ret (e : Ex)
  | retN
  | ifs (t : Te) (a b : Sxs)
  | rng (i : Nat) (lo hi : Ex) (b : Sxs)
  | forL (t : Tg) (e : Ex) (b : Sxs)
  | whl (t : Te) (b : Sxs)
  | pass
  | never
  | rai (c : Str) (es : Exs)
  | trx (b : Sxs) (cs : List Str) (i j : Nat)
  | unp (is : List Nat) (e : Ex)
  | aug (i : Nat) (o : Operator) (e : Ex)
inductive Sxs where
  | nil
  | cons (s : Sx) (r : Sxs)
end
/-- a for over m ints from i on -/
def lpR (g : TG) (tb : TS) (D : Ends) : Nat → Int → St → Hp → Prop
  | 0, _, σ, H => D.nx σ H
  | m + 1, i, σ, H => g (.int i) σ H fun σ2 H2 => tb { D with nx := lpR g tb D m (i + 1), ct := lpR g tb D m (i + 1), bk := D.nx } σ2 H2
/-- a for over the list at a, which stays -/
def lpL (so : Addr → Option HO) (a : Addr) (xs : List V) (g : TG) (tb : TS) (D : Ends) : List V → St → Hp → Prop
  | [], σ, H => rd so H a = some (.lst xs) ∧ D.nx σ H
  | x :: r, σ, H => rd so H a = some (.lst xs) ∧ g x σ H fun σ2 H2 => tb { D with nx := lpL so a xs g tb D r, ct := lpL so a xs g tb D r, bk := D.nx } σ2 H2
/-- a while, of at most m turns -/
def lpW (t : TT) (tb : TS) (D : Ends) : Nat → St → Hp → Prop
  | 0, _, _ => False
  | m + 1, σ, H => t σ H fun k H1 => if k = true then tb { D with nx := lpW t tb D m, ct := lpW t tb D m, bk := D.nx } σ H1 else D.nx σ H1
def setFV (S : Stat) (f : Str) (x y : V) (H : Hp) (Q : Hp → Prop) : Prop := match x with
  | .ref a => (match H a with
    | some (.ins C dx fs) => S.fl C f ∧ fs.length < 1000 ∧ Q (upd H a (.ins C dx (putF f y fs)))
    | _ => False)
  | _ => False
def lstK (so : Addr → Option HO) (x : V) (H : Hp) (B : Addr → List V → Prop) : Prop := match x with
  | .ref a => (match rd so H a with
    | some (.lst xs) => B a xs
    | _ => False)
  | _ => False
def augV (o : Operator) (v x : V) (H : Hp) (Q : VK) : Prop := match o, v, x with
  | .Add, .int i, .int j => Q (.int (i + j)) H
  | .Sub, .int i, .int j => Q (.int (i - j)) H
  | _, _, _ => False
/-- a class under one of these -/
def isaAny (S : Stat) (C : Addr) : List Str → Option Bool
  | [] => some false
  | c :: r => match S.isa C c, isaAny S C r with
    | some b, some d => some (b || d)
    | _, _ => none
/-- what a try that keeps the exception wishes of it -/
def trW (S : Stat) (cs : List Str) (i j : Nat) (D : Ends) : WX := fun cls d σ H => ∃ C, cls = .ref C ∧ isaAny S C cs = some true ∧ ∀ a, H a = none → S.so a = none → D.nx ((σ.set j (some (.ref a))).set i none) (upd H a (exV a C d))
section
variable (S : Stat) (F : Sm)
mutual
def wS (W : WX) : Sx → TS
  | .asg i e => fun D σ H => wE S F W e σ H fun x H1 => D.nx (σ.set i (some x)) H1
  | .setI o i e => fun D σ H => wE S F W e σ H fun x H1 => wE S F W o σ H1 fun y H2 => wE S F W i σ H2 fun z H3 => setV y z x H3 fun H4 => D.nx σ H4
  | .setF o f e => fun D σ H => wE S F W e σ H fun y H1 => wE S F W o σ H1 fun x H2 => setFV S f x y H2 fun H3 => D.nx σ H3
  | .par is es => fun D σ H => wA S F W es σ H fun vs H1 => parK (setL is vs σ) fun σ' => D.nx σ' H1
  | .exp e => fun D σ H => wE S F W e σ H fun _ H1 => D.nx σ H1
  | .ret e => fun D σ H => wE S F W e σ H D.rt
  | .retN => fun D _ H => D.rt .non H
  | .ifs t a b => fun D σ H => wT S F W t σ H fun k H1 => if k = true then wSs W a D σ H1 else wSs W b D σ H1
  | .rng i lo hi b => fun D σ H => wE S F W lo σ H fun x H1 => wE S F W hi σ H1 fun y H2 => intK x fun l => intK y fun h => lpR (gName i) (wSs W b) D (h - l).toNat l σ H2
  | .forL t e b => fun D σ H => wE S F W e σ H fun x H1 => lstK S.so x H1 fun a xs => lpL S.so a xs (gT S.so t) (wSs W b) D xs σ H1
  | .whl t b => fun D σ H => ∃ m, lpW (wT S F W t) (wSs W b) D m σ H
  | .pass => fun D σ H => D.nx σ H
  | .never => fun _ _ _ => False
  | .rai c es => fun _ σ H => wA S F W es σ H fun vs H1 => raiV S c vs H1 fun c d H' => W c d σ H'
  | .trx b cs i j => fun D σ H => wSs (trW S cs i j D) b D σ H
  | .unp is e => fun D σ H => wE S F W e σ H fun x H1 => gT S.so (.tp is) x σ H1 D.nx
  | .aug i o e => fun D σ H => varK σ[i]? fun v => wE S F W e σ H fun x H1 => augV o v x H1 fun y H2 => D.nx (σ.set i (some y)) H2
def wSs (W : WX) : Sxs → TS
  | .nil => fun D σ H => D.nx σ H
  | .cons s r => fun D σ H => wS W s { D with nx := wSs W r D } σ H
end
end
/-! ### turning -/
def notComp : Expr → Bool
  | .ListComp _ _ _ _ => false
  | .SetComp _ _ _ _ => false
  | .DictComp _ _ _ _ _ => false
  | _ => true
/-- a local name's slot -/
def nCS : (Stmt → Option Sx) → List Stmt → Option Sxs
  | _, [] => some .nil
  | f, e :: es => two (f e) (nCS f es) .cons
def cPar2 (C : CI) (n : Nat) (x : Str) (px : Pos) (y : Str) (py : Pos) (a b : Expr) : Option Sx :=
  iff' (px.line == py.line && !(x == y) && !([a, b].all (foldedForSure 8)) && !([a, b].all (constantsAlone 8)))
    (tri (loc1 C x) (loc1 C y) (nCE (cE C n) [a, b]) fun i j es => .par [i, j] es)
def cPar3 (C : CI) (n : Nat) (x : Str) (px : Pos) (y : Str) (py : Pos) (z : Str) (pz : Pos) (a b c : Expr) : Option Sx :=
  iff' (px.line == py.line && px.line == pz.line && !(x == y) && !(x == z) && !(y == z) && !([a, b, c].all (foldedForSure 8)) && !([a, b, c].all (constantsAlone 8)))
    (two (tri (loc1 C x) (loc1 C y) (loc1 C z) fun i j l => [i, j, l]) (nCE (cE C n) [a, b, c]) .par)
def cPar (C : CI) (n : Nat) (ns : List (Str × Pos)) (vs : List Expr) : Option Sx := match ns, vs with
  | [x, y], [a, b] => cPar2 C n x.1 x.2 y.1 y.2 a b
  | [x, y, z], [a, b, c] => cPar3 C n x.1 x.2 y.1 y.2 z.1 z.2 a b c
  | _, _ => none
def cAsg1 (C : CI) (n : Nat) (t e : Expr) : Option Sx := match t with
  | .Name x _ => iff' (notComp e) (two (locOf C x) (cE C n e) .asg)
  | .Subscript o i _ => iff' (notComp e && notSlice i) (tri (cE C n o) (cE C n i) (cE C n e) .setI)
  | .Attribute o f _ => iff' (notComp e) (two (cE C n o) (cE C n e) fun o e => .setF o f e)
  | .Tuple ts _ _ => (match tupOf e with
    | some vs => (nms ts).bind fun u => cPar C n u vs
    | none => iff' (notComp e) (two ((nms ts).bind (slots C)) (cE C n e) .unp))
  | _ => none
def cAsg (C : CI) (n : Nat) (ts : List Expr) (e : Expr) : Option Sx := match ts with
  | [t] => cAsg1 C n t e
  | _ => none
def cRng (C : CI) (n : Nat) (i : Option Nat) (as : List Expr) (b : Option Sxs) : Option Sx := match as with
  | [a] => tri i (cE C n a) b fun i a b => .rng i (.lit (.int 0)) a b
  | [a, c] => two (two i (cE C n a) Prod.mk) (two (cE C n c) b Prod.mk) fun u v => .rng u.1 u.2 v.1 v.2
  | _ => none
def cFor (C : CI) (n : Nat) (t : Expr) (it : Expr) (b : Option Sxs) : Option Sx := match nmOf t with
  | some x => (match rngOf C it with
    | some as => cRng C n (locOf C x.1) as b
    | none => iff' (walkL it) (tri (locOf C x.1) (cE C n it) b fun i e b => .forL (.nm i) e b))
  | none => iff' (walkL it) (tri (((tupOf t).bind nms).bind (slots C)) (cE C n it) b fun is e b => .forL (.tp is) e b)
/-- the classes that an except clause names -/
def clsNm (C : CI) : Expr → Option Str
  | .Name x _ => iff' (isG C x && (C.gl x == .xcl || C.gl x == .ocl || C.gl x == .bxc)) (some x)
  | _ => none
def clsNms (C : CI) : Expr → Option (List Str)
  | .Name x p => (clsNm C (.Name x p)).map fun x => [x]
  | .Tuple [a, b] _ _ => two (clsNm C a) (clsNm C b) fun x y => [x, y]
  | .Tuple [a, b, c] _ _ => tri (clsNm C a) (clsNm C b) (clsNm C c) fun x y z => [x, y, z]
  | _ => none
/-- y = n, by names -/
def asgNm : List Stmt → Option (Str × Str)
  | [.Assign [.Name y _] (.Name n _) _] => some (y, n)
  | _ => none
def cTry (C : CI) (b : Option Sxs) : List ExceptHandler → Option Sx
  | [.ExceptHandler (some T) (some n) su _] => (asgNm su).bind fun u => iff' (u.2 == n && !(u.1 == n) && okN n) (two (two b (clsNms C T) Prod.mk) (two (loc1 C n) (loc1 C u.1) Prod.mk) fun a s => .trx a.1 a.2 s.1 s.2)
  | _ => none
def cRai (C : CI) (n : Nat) : Option Expr → Option Expr → Option Sx
  | some (.Call (.Name x _) (a :: as) [] _), none => (match C.gl x with
    | .xcl => iff' (isG C x) ((nCE (cE C n) (a :: as)).map (.rai x))
    | _ => some .never)
  | _, _ => some .never
def cAug (C : CI) (n : Nat) (t : Expr) (o : Operator) (e : Expr) : Option Sx := match t with
  | .Name x _ => iff' (o == .Add || o == .Sub) (two (locOf C x) (cE C n e) fun i e => .aug i o e)
  | _ => none
def cS (C : CI) : Nat → Stmt → Option Sx
  | 0, _ => none
  | n + 1, st => match st with
    | .Assign ts e _ => cAsg C n ts e
    | .Expr e _ => iff' (notComp e) ((cE C n e).map .exp)
    | .Return v _ => (match v with
      | some e => (cE C n e).map .ret
      | none => some .retN)
    | .If t a b _ => tri (cT C n t) (nCS (cS C n) a) (nCS (cS C n) b) .ifs
    | .For t it b o _ => iff' o.isEmpty (cFor C n t it (nCS (cS C n) b))
    | .While t b o _ => iff' o.isEmpty (two (cT C n t) (nCS (cS C n) b) .whl)
    | .Pass _ => some .pass
    | .Raise a b _ => cRai C n a b
    | .Try b hs o f _ => iff' (o.isEmpty && f.isEmpty) (cTry C (nCS (cS C n) b) hs)
    | .AugAssign t o e _ => cAug C n t o e
    | _ => none
end QL
set_option Elab.async false
set_option linter.all false
set_option maxRecDepth 100000
set_option maxHeartbeats 4000000
/-! Q10: the turned statements keep what is asked. -/
namespace QL
open PySem PySem.Spec L2
open PyProof.Rows hiding St
structure Le (D D' : Ends) : Prop where
  nx : ∀ σ H, D.nx σ H → D'.nx σ H
  rt : ∀ v H, D.rt v H → D'.rt v H
  bk : ∀ σ H, D.bk σ H → D'.bk σ H
  ct : ∀ σ H, D.ct σ H → D'.ct σ H
section
variable {S : Stat} {F : Sm} {W W' : WX}
theorem setV_mono {o i v : V} {H : Hp} {Q Q' : Hp → Prop} (q : ∀ H, Q H → Q' H) (h : setV o i v H Q) : setV o i v H Q' := by
  unfold setV at h ⊢
  split at h
  · split at h
    · split at h
      · exact q _ h
      · exact h.elim
    · exact ⟨h.1, q _ h.2⟩
    · exact h.elim
  · split at h
    · exact ⟨h.1, q _ h.2⟩
    · exact h.elim
  · exact h.elim
def TSle (t t' : TS) : Prop := ∀ D D' σ H, Le D D' → t D σ H → t' D' σ H
theorem lpR_mono {tb tb' : TS} {i0 : Nat} (m : TSle tb tb') {D D' : Ends} (l : Le D D') : ∀ (n : Nat) (i : Int) (σ : St) (H : Hp), lpR (gName i0) tb D n i σ H → lpR (gName i0) tb' D' n i σ H
  | 0, i, σ, H, h => l.nx _ _ h
  | n + 1, i, σ, H, h => by
    refine m _ _ _ _ ?_ h
    exact ⟨fun σ H z => lpR_mono m l n (i + 1) σ H z, l.rt, l.nx, fun σ H z => lpR_mono m l n (i + 1) σ H z⟩
theorem lpL_mono {so : Addr → Option HO} {a : Addr} {xs : List V} {tb tb' : TS} {t : Tg} (m : TSle tb tb') {D D' : Ends} (l : Le D D') : ∀ (r : List V) (σ : St) (H : Hp), lpL so a xs (gT so t) tb D r σ H → lpL so a xs (gT so t) tb' D' r σ H
  | [], σ, H, h => ⟨h.1, l.nx _ _ h.2⟩
  | x :: r, σ, H, h => by
    refine ⟨h.1, gT_mono (fun σ2 H2 z => ?_) h.2⟩
    refine m _ _ _ _ ?_ z
    exact ⟨fun σ H z => lpL_mono m l r σ H z, l.rt, l.nx, fun σ H z => lpL_mono m l r σ H z⟩
variable (M : SmMono F)
include M
theorem lpW_mono {t : Te} {W W' : WX} (w : ∀ c d σ H, W c d σ H → W' c d σ H) {tb tb' : TS} (m : TSle tb tb') {D D' : Ends} (l : Le D D') : ∀ (n : Nat) (σ : St) (H : Hp), lpW (wT S F W t) tb D n σ H → lpW (wT S F W' t) tb' D' n σ H
  | 0, σ, H, h => h.elim
  | n + 1, σ, H, h => by
    unfold lpW at h ⊢
    refine wT_mono2 M w t (fun k H1 z => ?_) h
    cases k with
    | true =>
      refine m _ _ _ _ ?_ z
      exact ⟨fun σ H z => lpW_mono w m l n σ H z, l.rt, l.nx, fun σ H z => lpW_mono w m l n σ H z⟩
    | false => exact l.nx _ _ z
mutual
theorem wS_mono : ∀ (c : Sx) {W W' : WX} (w : ∀ c d σ H, W c d σ H → W' c d σ H) (D D' : Ends) (σ : St) (H : Hp), Le D D' → wS S F W c D σ H → wS S F W' c D' σ H
  | .asg i e, W, W', w, D, D', σ, H, l, h => by
    rw [wS] at h ⊢
    exact wE_mono2 M w e (fun x H1 z => l.nx _ _ z) h
  | .setI o i e, W, W', w, D, D', σ, H, l, h => by
    rw [wS] at h ⊢
    exact wE_mono2 M w e (fun x H1 z1 => wE_mono2 M w o (fun y H2 z2 => wE_mono2 M w i (fun z H3 z3 => setV_mono (fun H4 z4 => l.nx _ _ z4) z3) z2) z1) h
  | .setF o f e, W, W', w, D, D', σ, H, l, h => by
    rw [wS] at h ⊢
    refine wE_mono2 M w e (fun x H1 z1 => wE_mono2 M w o (fun y H2 z2 => ?_) z1) h
    unfold setFV at z2 ⊢
    split at z2
    · split at z2
      · exact ⟨z2.1, z2.2.1, l.nx _ _ z2.2.2⟩
      · exact z2.elim
    · exact z2.elim
  | .par is es, W, W', w, D, D', σ, H, l, h => by
    rw [wS] at h ⊢
    refine wA_mono2 M w es (fun vs H1 z => ?_) h
    unfold parK at z ⊢
    split at z
    · exact l.nx _ _ z
    · exact z.elim
  | .exp e, W, W', w, D, D', σ, H, l, h => by
    rw [wS] at h ⊢
    exact wE_mono2 M w e (fun x H1 z => l.nx _ _ z) h
  | .ret e, W, W', w, D, D', σ, H, l, h => by
    rw [wS] at h ⊢
    exact wE_mono2 M w e l.rt h
  | .retN, W, W', w, D, D', σ, H, l, h => by
    rw [wS] at h ⊢
    exact l.rt _ _ h
  | .ifs t a b, W, W', w, D, D', σ, H, l, h => by
    rw [wS] at h ⊢
    refine wT_mono2 M w t (fun k H1 z => ?_) h
    cases k with
    | true => exact wSs_mono a w _ _ _ _ l z
    | false => exact wSs_mono b w _ _ _ _ l z
  | .rng i lo hi b, W, W', w, D, D', σ, H, l, h => by
    rw [wS] at h ⊢
    refine wE_mono2 M w lo (fun x H1 z1 => wE_mono2 M w hi (fun y H2 z2 => ?_) z1) h
    unfold intK at z2 ⊢
    split at z2
    · split at z2
      · exact lpR_mono (fun D D' σ H l z => wSs_mono b w D D' σ H l z) l _ _ _ _ z2
      · exact z2.elim
    · exact z2.elim
  | .forL t e b, W, W', w, D, D', σ, H, l, h => by
    rw [wS] at h ⊢
    refine wE_mono2 M w e (fun x H1 z1 => ?_) h
    unfold lstK at z1 ⊢
    split at z1
    · split at z1
      · exact lpL_mono (fun D D' σ H l z => wSs_mono b w D D' σ H l z) l _ _ _ z1
      · exact z1.elim
    · exact z1.elim
  | .whl t b, W, W', w, D, D', σ, H, l, h => by
    rw [wS] at h ⊢
    obtain ⟨m, z⟩ := h
    exact ⟨m, lpW_mono M w (fun D D' σ H l z => wSs_mono b w D D' σ H l z) l m _ _ z⟩
  | .pass, W, W', w, D, D', σ, H, l, h => by
    rw [wS] at h ⊢
    exact l.nx _ _ h
  | .never, W, W', w, D, D', σ, H, l, h => by
    rw [wS] at h
    exact h.elim
  | .rai c es, W, W', w, D, D', σ, H, l, h => by
    rw [wS] at h ⊢
    exact wA_mono2 M w es (fun vs H1 z => raiV_mono (fun c d H' z => w c d σ H' z) z) h
  | .trx b cs i j, W, W', w, D, D', σ, H, l, h => by
    rw [wS] at h ⊢
    exact wSs_mono b (fun cls d σ H ⟨C, e, h1, h2⟩ => ⟨C, e, h1, fun a h3 h4 => l.nx _ _ (h2 a h3 h4)⟩) _ _ _ _ l h
  | .unp is e, W, W', w, D, D', σ, H, l, h => by
    rw [wS] at h ⊢
    exact wE_mono2 M w e (fun x H1 z => gT_mono l.nx z) h
  | .aug i o e, W, W', w, D, D', σ, H, l, h => by
    rw [wS] at h ⊢
    unfold varK at h ⊢
    split at h
    · rename_i v ev
      simp only [ev]
      refine wE_mono2 M w e (fun x H1 z => ?_) h
      unfold augV at z ⊢
      split at z
      · exact l.nx _ _ z
      · exact l.nx _ _ z
      · exact z.elim
    · exact h.elim
theorem wSs_mono : ∀ (c : Sxs) {W W' : WX} (w : ∀ c d σ H, W c d σ H → W' c d σ H) (D D' : Ends) (σ : St) (H : Hp), Le D D' → wSs S F W c D σ H → wSs S F W' c D' σ H
  | .nil, W, W', w, D, D', σ, H, l, h => by
    rw [wSs] at h ⊢
    exact l.nx _ _ h
  | .cons s r, W, W', w, D, D', σ, H, l, h => by
    rw [wSs] at h ⊢
    refine wS_mono s w _ _ _ _ ?_ h
    exact ⟨fun σ H z => wSs_mono r w _ _ _ _ l z, l.rt, l.bk, l.ct⟩
end
end
section
variable {X : Cx} {tg : Expr}
/-- the turns of a range -/
theorem for_rng {lo : Int} {n : Nat} {g : TG} {tb : TS} {D : Ends} {σ : St} {H : Hp} (h : lpR g tb D n lo σ H) :
    ∃ W : Nat → Nat → St → Hp → Prop, (∃ m, W 0 m σ H) ∧ ∀ i m σ H, W i m σ H →
      ((Itr lo n).stop i H ∧ D.nx σ H) ∨ ((Itr lo n).go i H ∧ ∃ N : St → Hp → Prop, (∀ σ' H', N σ' H' → ∃ m', m' < m ∧ W (i + 1) m' σ' H') ∧ ∀ x H', (Itr lo n).yld i H x H' → g x σ H' fun σ2 H2 => tb { D with nx := N, ct := N, bk := D.nx } σ2 H2) := by
  refine ⟨fun i m σ H => m = n - i ∧ i ≤ n ∧ lpR g tb D m (lo + i) σ H, ⟨n, by simp, Nat.zero_le _, by simpa using h⟩, ?_⟩
  rintro i m σ H ⟨e, hi, z⟩
  cases m with
  | zero => exact .inl ⟨by show n ≤ i; omega, z⟩
  | succ m =>
    refine .inr ⟨by show i < n; omega, lpR g tb D m (lo + i + 1), fun σ' H' z' => ⟨m, by omega, by omega, by omega, ?_⟩, ?_⟩
    · have : lo + ((i + 1 : Nat) : Int) = lo + i + 1 := by push_cast; omega
      rw [this]
      exact z'
    · rintro x H' ⟨rfl, rfl⟩
      exact z
/-- the turns of a list that stays -/
theorem for_lst {K : PySem.W.Frag} {so : Addr → Option HO} (S0 : SoOk K so) {a : Addr} {xs : List V} {g : TG} {tb : TS} {D : Ends} {σ : St} {H : Hp} (h : lpL so a xs g tb D xs σ H) :
    ∃ W : Nat → Nat → St → Hp → Prop, (∃ m, W 0 m σ H) ∧ ∀ i m σ H, W i m σ H →
      ((Itl K a).stop i H ∧ D.nx σ H) ∨ ((Itl K a).go i H ∧ ∃ N : St → Hp → Prop, (∀ σ' H', N σ' H' → ∃ m', m' < m ∧ W (i + 1) m' σ' H') ∧ ∀ x H', (Itl K a).yld i H x H' → g x σ H' fun σ2 H2 => tb { D with nx := N, ct := N, bk := D.nx } σ2 H2) := by
  refine ⟨fun i m σ H => ∃ r, xs.drop i = r ∧ m = r.length ∧ i ≤ xs.length ∧ lpL so a xs g tb D r σ H, ⟨_, _, rfl, rfl, Nat.zero_le _, h⟩, ?_⟩
  rintro i m σ H ⟨r, e, rfl, hi, z⟩
  cases r with
  | nil =>
    have hl : xs.length ≤ i := List.drop_eq_nil_iff.mp e
    exact .inl ⟨⟨xs, rd_lst S0 z.1, hl⟩, z.2⟩
  | cons x r =>
    have hx : xs[i]? = some x := by
      have := List.getElem?_drop (xs := xs) (i := i) (j := 0)
      rw [e] at this
      simpa using this.symm
    have hd : xs.drop (i + 1) = r := by
      rw [← List.tail_drop, e]
      rfl
    refine .inr ⟨⟨xs, x, rd_lst S0 z.1, hx⟩, lpL so a xs g tb D r, fun σ' H' z' => ⟨r.length, by simp, r, hd, rfl, ?_, z'⟩, ?_⟩
    · have := (List.getElem?_eq_some_iff.mp hx).1
      omega
    · rintro y H' ⟨rfl, hy⟩
      have := hy xs (rd_lst S0 z.1)
      rw [hx] at this
      cases this
      exact z.2
theorem PS.imp {st : Stmt} {t t' : TS} (h : PS X st t) (q : ∀ D σ H, t' D σ H → t D σ H) : PS X st t' := ⟨fun pins s σ H D I z => h.run pins s σ H D I (q D σ H z)⟩
end
section
variable {env : Env}
theorem swaps_no {e : Expr} {t : Option Expr} {l : Nat} (h : notComp e = true) : swapsWith e t l env = pure false := by
  cases e <;> first | rfl | cases h
theorem swp2 {x y : Str} {px py pt pt2 : Pos} {kt k2 : Nat} {a b : Expr} (hk : env.scope.kind = .function) (hx : env.scope.names.lookup x = some .local) (hy : env.scope.names.lookup y = some .local) (hl : px.line = py.line) (hxy : x ≠ y)
    (sa : notStar a = true) (sb : notStar b = true) (h1 : [a, b].all (foldedForSure 8) = false) (h2 : [a, b].all (constantsAlone 8) = false) :
    swappedStores [.Tuple [.Name x px, .Name y py] kt pt] (.Tuple [a, b] k2 pt2) env = pure (some [x, y]) := by
  have hbk : env.blockKind = .function := by
    unfold Env.blockKind
    rw [hk]
    rfl
  have k1 : env.kindOf x = some .local := hx
  have k2' : env.kindOf y = some .local := hy
  have hn : ([x, y] : List Str).eraseDups.length = 2 := by
    have : (y == x) = false := by simpa using fun e => hxy e.symm
    simp [List.eraseDups, List.eraseDupsBy, List.eraseDupsBy.loop, this]
  unfold swappedStores
  simp only [h1, h2, hbk, k1, k2', List.filterMap, Expr.pos, hl, List.head?, Option.map, Option.getD]
  have e0 : (some NameKind.local == some NameKind.local && py.line == py.line) = true := by simp
  simp only [e0, if_true, List.length_cons, List.length_nil, hn, List.any_cons, List.any_nil]
  refine (if_neg (by decide)).trans ((if_neg (fun h => ?_)).trans ?_)
  · rw [Bool.or_eq_true, Bool.or_eq_true] at h
    rcases h with h | h | h
    · cases a <;> first | exact absurd h Bool.false_ne_true | exact absurd sa Bool.false_ne_true
    · cases b <;> first | exact absurd h Bool.false_ne_true | exact absurd sb Bool.false_ne_true
    · exact absurd h Bool.false_ne_true
  · rfl
theorem swp3 {x y z : Str} {px py pz pt pt2 : Pos} {kt k2 : Nat} {a b c : Expr} (hk : env.scope.kind = .function) (hx : env.scope.names.lookup x = some .local) (hy : env.scope.names.lookup y = some .local) (hz : env.scope.names.lookup z = some .local)
    (hl : px.line = py.line) (hl2 : px.line = pz.line) (hxy : x ≠ y) (hxz : x ≠ z) (hyz : y ≠ z)
    (sa : notStar a = true) (sb : notStar b = true) (sc : notStar c = true) (h1 : [a, b, c].all (foldedForSure 8) = false) (h2 : [a, b, c].all (constantsAlone 8) = false) :
    swappedStores [.Tuple [.Name x px, .Name y py, .Name z pz] kt pt] (.Tuple [a, b, c] k2 pt2) env = pure (some [x, y, z]) := by
  have hbk : env.blockKind = .function := by
    unfold Env.blockKind
    rw [hk]
    rfl
  have k1 : env.kindOf x = some .local := hx
  have k2' : env.kindOf y = some .local := hy
  have k3 : env.kindOf z = some .local := hz
  have hn : ([x, y, z] : List Str).eraseDups.length = 3 := by
    have e1 : (y == x) = false := by simpa using fun e => hxy e.symm
    have e2 : (z == x) = false := by simpa using fun e => hxz e.symm
    have e3 : (z == y) = false := by simpa using fun e => hyz e.symm
    simp [List.eraseDups, List.eraseDupsBy, List.eraseDupsBy.loop, e1, e2, e3]
  unfold swappedStores
  simp only [h1, h2, hbk, k1, k2', k3, List.filterMap, Expr.pos, ← hl, ← hl2, List.head?, Option.map, Option.getD]
  have e0 : (some NameKind.local == some NameKind.local && px.line == px.line) = true := by simp
  simp only [e0, if_true, List.length_cons, List.length_nil, hn, List.any_cons, List.any_nil]
  refine (if_neg (by decide)).trans ((if_neg (fun h => ?_)).trans ?_)
  · rw [Bool.or_eq_true, Bool.or_eq_true, Bool.or_eq_true] at h
    rcases h with h | h | h | h
    · cases a <;> first | exact absurd h Bool.false_ne_true | exact absurd sa Bool.false_ne_true
    · cases b <;> first | exact absurd h Bool.false_ne_true | exact absurd sb Bool.false_ne_true
    · cases c <;> first | exact absurd h Bool.false_ne_true | exact absurd sc Bool.false_ne_true
    · exact absurd h Bool.false_ne_true
  · rfl
theorem swn {o i e : Expr} {p : Pos} : swappedStores [.Subscript o i p] e env = pure none := by
  unfold swappedStores
  rfl
theorem ase {o i : Expr} {p : Pos} : (assignEach [.Subscript o i p] env).map (·.2) = [assign (.Subscript o i p) env] := rfl
theorem asg {o i : Expr} {p : Pos} (hs : notSlice i = true) (v : Value) : assign (.Subscript o i p) env v = (do
      let ov ← holding [v] (eval o env)
      let iv ← holding [v, ov] (eval i env)
      standAt p
      holding [v, ov, iv] (setItem ov iv v)
      release [v, ov, iv] []) := by cases i <;> first | rfl | cases hs
end
end QL
set_option Elab.async false
set_option linter.all false
set_option maxRecDepth 100000
set_option maxHeartbeats 4000000
/-! Q11: the turned statements keep what is asked: the induction; defs. -/
namespace QL
open PySem PySem.Spec L2
open PyProof.Rows hiding St
section
variable {X : Cx} {S : Stat} {F : Sm} {k : Nat} {C : CI} {W : WX}
theorem Ok.loc (O : Ok X S F k C W) {x : Str} {i : Nat} (h : locOf C x = some i) : X.N.Nodup ∧ X.N[i]? = some x ∧ Loc X.env.scope x ∧ (X.fn x = true ∨ X.env.scope.names.lookup x = some .local) := by
  unfold locOf at h
  have nd : X.N.Nodup := by rw [O.N]; exact O.nd
  split at h
  · rename_i e
    rw [← O.sc] at e
    exact ⟨nd, by rw [O.N]; exact idxOf_get h, .inl e, .inr e⟩
  · rename_i e
    have e' := e
    rw [← O.sc] at e
    exact ⟨nd, by rw [O.N]; exact idxOf_get h, .inr e, .inl (O.cf _ e')⟩
  · cases h
theorem Ok.loc1 (O : Ok X S F k C W) {x : Str} {i : Nat} (h : QL.loc1 C x = some i) : X.N[i]? = some x ∧ X.env.scope.names.lookup x = some .local := by
  unfold QL.loc1 at h
  split at h
  · rename_i e
    rw [← O.sc] at e
    exact ⟨by rw [O.N]; exact idxOf_get h, e⟩
  · cases h
theorem sole_no {env : Env} {e t : Expr} {l : Nat} (h : notComp e = true) : swapsWithSole [t] e l env = pure false := by
  cases e <;> first | rfl | cases h
theorem nd_ne {α : Type} {l : List α} {i j : Nat} {x y : α} (hi : l[i]? = some x) (hj : l[j]? = some y) (h : x ≠ y) : i ≠ j := by
  rintro rfl
  rw [hi] at hj
  exact h (Option.some.inj hj)
variable (O : Ok X S F k C W) (M : SmMono F)
include O M
theorem nCS_ok {n : Nat} (iS : ∀ st c, cS C n st = some c → PS X st (wS S F W c)) : ∀ {b : List Stmt} {c : Sxs}, nCS (cS C n) b = some c → PSs X b (wSs S F W c)
  | [], c, h => by
    cases h
    refine ⟨fun pins s σ H D I z => ?_⟩
    unfold wSs at z
    exact pss_nil.run pins s σ H D I z
  | st :: b, c, h => by
    obtain ⟨s', b', h1, h2, rfl⟩ := two_some (f := Sxs.cons) h
    have p := pss_cons (iS st s' h1) (nCS_ok iS h2)
    refine ⟨fun pins s σ H D I z => ?_⟩
    unfold wSs at z
    exact p.run pins s σ H D I z
theorem set_ok {i : Nat} {x : Str} {p q : Pos} {e : Expr} {e' : Ex} (hc : notComp e = true) (hi : locOf C x = some i) (he : PE X e (wE S F W e')) : PS X (.Assign [.Name x p] e q) (wS S F W (.asg i e')) := by
  obtain ⟨nd, h1, h2, h3⟩ := O.loc hi
  refine PS.imp (ps_set nd h1 h2 he (swaps_no hc) h3) fun D σ H z => ?_
  rw [wS] at z
  exact z
theorem setI_ok {o i e : Expr} {o' i' e' : Ex} {p q : Pos} (hc : notComp e = true) (hs : notSlice i = true) (ho : PE X o (wE S F W o')) (hi : PE X i (wE S F W i')) (he : PE X e (wE S F W e')) : PS X (.Assign [.Subscript o i p] e q) (wS S F W (.setI o' i' e')) := by
  refine PS.imp (ps_asg he (pg_sub ho hi (set_setV O.hu1) (asg hs)) (sole_no hc) swn ase) fun D σ H z => ?_
  rw [wS] at z
  exact z
theorem setF_ok {o e : Expr} {f : Str} {o' e' : Ex} {p q : Pos} (hc : notComp e = true) (ho : PE X o (wE S F W o')) (he : PE X e (wE S F W e')) : PS X (.Assign [.Attribute o f p] e q) (wS S F W (.setF o' f e')) := by
  refine PS.imp (ps_fld ho he (swaps_no hc)) fun D σ H z => ?_
  rw [wS] at z
  refine wE_mono M e' (fun y H1 z1 => wE_mono M o' (fun x H2 z2 => ?_) z1) z
  unfold setFV at z2
  split at z2
  · split at z2
    · rename_i ea
      obtain ⟨q1, q2⟩ := O.G.fl _ _ z2.1
      exact ⟨_, _, _, _, rfl, ea, q1, q2, z2.2.1, z2.2.2⟩
    · exact z2.elim
  · exact z2.elim
theorem par2_ok {n : Nat} (iE : ∀ e c, cE C n e = some c → PE X e (wE S F W c)) {x y : Str} {px py pt pt2 q : Pos} {kt k2 : Nat} {a b : Expr} {c : Sx} (h : cPar2 C n x px y py a b = some c) :
    PS X (.Assign [.Tuple [.Name x px, .Name y py] kt pt] (.Tuple [a, b] k2 pt2) q) (wS S F W c) := by
  obtain ⟨hb, h⟩ := if_some h
  obtain ⟨i, j, es, h1, h2, h3, rfl⟩ := tri_some (f := fun i j es => Sx.par [i, j] es) h
  simp only [Bool.and_eq_true, beq_iff_eq, Bool.not_eq_true', beq_eq_false_iff_ne] at hb
  obtain ⟨⟨⟨hl, hxy⟩, b1⟩, b2⟩ := hb
  obtain ⟨i1, i2⟩ := O.loc1 h1
  obtain ⟨j1, j2⟩ := O.loc1 h2
  have st := nCE_star h3
  have nd : X.N.Nodup := by rw [O.N]; exact O.nd
  have sa := st a (List.Mem.head _)
  have sb := st b (List.Mem.tail _ (List.Mem.head _))
  have hw := swp2 (pt := pt) (pt2 := pt2) (kt := kt) (k2 := k2) O.kd i2 j2 hl hxy sa sb b1 b2
  have hpa := nCE_pa iE h3
  have hsole : swapsWithSole [.Tuple [.Name x px, .Name y py] kt pt] (.Tuple [a, b] k2 pt2) q.line X.env = pure false := sole_no rfl
  have hp := ps_par O.calm nd i1 j1 (nd_ne i1 j1 hxy) i2 j2 hpa hw hsole
  refine PS.imp hp fun D σ H z => ?_
  rw [wS] at z
  refine wA_mono M es (fun vs H1 z1 => ?_) z
  match vs, z1 with
  | [v, w'], z1 => exact ⟨v, w', rfl, z1⟩
theorem par3_ok {n : Nat} (iE : ∀ e c, cE C n e = some c → PE X e (wE S F W c)) {x y z : Str} {px py pz pt pt2 q : Pos} {kt k2 : Nat} {a b d : Expr} {c : Sx} (h : cPar3 C n x px y py z pz a b d = some c) :
    PS X (.Assign [.Tuple [.Name x px, .Name y py, .Name z pz] kt pt] (.Tuple [a, b, d] k2 pt2) q) (wS S F W c) := by
  obtain ⟨hb, h⟩ := if_some h
  obtain ⟨is, es, h0, h3, rfl⟩ := two_some (f := Sx.par) h
  obtain ⟨i, j, l, h1, h2, h4, rfl⟩ := tri_some (f := fun i j l => [i, j, l]) h0
  simp only [Bool.and_eq_true, beq_iff_eq, Bool.not_eq_true', beq_eq_false_iff_ne] at hb
  obtain ⟨⟨⟨⟨⟨⟨hl, hl2⟩, hxy⟩, hxz⟩, hyz⟩, b1⟩, b2⟩ := hb
  obtain ⟨i1, i2⟩ := O.loc1 h1
  obtain ⟨j1, j2⟩ := O.loc1 h2
  obtain ⟨l1, l2⟩ := O.loc1 h4
  have st := nCE_star h3
  have nd : X.N.Nodup := by rw [O.N]; exact O.nd
  have sa := st a (List.Mem.head _)
  have sb := st b (List.Mem.tail _ (List.Mem.head _))
  have sd := st d (List.Mem.tail _ (List.Mem.tail _ (List.Mem.head _)))
  have hw := swp3 (pt := pt) (pt2 := pt2) (kt := kt) (k2 := k2) O.kd i2 j2 l2 hl hl2 hxy hxz hyz sa sb sd b1 b2
  have hpa := nCE_pa iE h3
  have hsole : swapsWithSole [.Tuple [.Name x px, .Name y py, .Name z pz] kt pt] (.Tuple [a, b, d] k2 pt2) q.line X.env = pure false := sole_no rfl
  have hp := ps_par3 O.calm nd i1 j1 l1 (nd_ne i1 j1 hxy) (nd_ne i1 l1 hxz) (nd_ne j1 l1 hyz) i2 j2 l2 hpa hw hsole
  refine PS.imp hp fun D σ H z => ?_
  rw [wS] at z
  refine wA_mono M es (fun vs H1 z1 => ?_) z
  match vs, z1 with
  | [v, w', u], z1 => exact ⟨v, w', u, rfl, z1⟩
omit M in
theorem tp_pg {ts : List Expr} {ns : List (Str × Pos)} {is : List Nat} {kt : Nat} {pt : Pos} (h1 : nms ts = some ns) (h2 : slots C ns = some is) : ∃ g : TG, PG X (.Tuple ts kt pt) g ∧ ∀ x σ H Q, gT S.so (.tp is) x σ H Q → g x σ H Q :=
  ⟨_, tp_pgL O.calm h1 h2 fun y _ i h => O.loc h, fun x σ H Q z => gT_gTup O.G.so h2 z⟩
theorem forT_ok {g : TG} {tg : Tg} {t : Expr} {q : Pos} {it : Expr} {b : List Stmt} {e' : Ex} {b' : Sxs} (hg : PG X t g) (hgi : ∀ x σ H Q, gT S.so tg x σ H Q → g x σ H Q) (he : PE X it (wE S F W e')) (hb : PSs X b (wSs S F W b')) (hs : ∀ x, foldedSetIterable it X.env x = pure x) :
    PS X (.For t it b [] q) (wS S F W (.forL tg e' b')) := by
  have key : ∀ {a : Addr} {xs : List V} {D : Ends} {tb : TS} (m : TSle tb tb) (r : List V) (σ : St) (H : Hp), lpL S.so a xs (gT S.so tg) tb D r σ H → lpL S.so a xs g tb D r σ H := by
    intro a xs D tb m r
    induction r with
    | nil => exact fun σ H z => z
    | cons x r ih =>
      intro σ H z
      refine ⟨z.1, hgi _ _ _ _ (gT_mono (fun σ2 H2 z2 => ?_) z.2)⟩
      refine m _ _ _ _ ?_ z2
      exact ⟨ih, fun _ _ z => z, fun _ _ z => z, ih⟩
  refine PS.imp (ps_for O.po O.calm (pi_list he) hg hb hs) fun D σ H z => ?_
  rw [wS] at z
  refine wE_mono M e' (fun v H1 z1 => ?_) z
  unfold lstK at z1
  split at z1
  · split at z1
    · rename_i e
      exact ⟨_, rfl, ⟨_, rd_lst O.G.so e⟩, for_lst O.G.so (key (fun D D' σ H l z => wSs_mono M b' (fun _ _ _ _ z => z) D D' σ H l z) _ _ _ z1)⟩
    · exact z1.elim
  · exact z1.elim
theorem forL_ok {i : Nat} {x : Str} {p q : Pos} {it : Expr} {b : List Stmt} {e' : Ex} {b' : Sxs} (hi : locOf C x = some i) (he : PE X it (wE S F W e')) (hb : PSs X b (wSs S F W b')) (hs : ∀ x, foldedSetIterable it X.env x = pure x) :
    PS X (.For (.Name x p) it b [] q) (wS S F W (.forL (.nm i) e' b')) := by
  obtain ⟨nd, h1, h2, h3⟩ := O.loc hi
  exact forT_ok O M (pg_name nd h1 h2 h3) (fun _ _ _ _ z => z) he hb hs
omit O M in
theorem tupOf_eq {e : Expr} {vs : List Expr} (h : tupOf e = some vs) : ∃ k p, e = .Tuple vs k p := by
  cases e <;> cases h
  exact ⟨_, _, rfl⟩
theorem rng_ok {n : Nat} (iE : ∀ e c, cE C n e = some c → PE X e (wE S F W c)) {x y : Str} {p py pc q : Pos} {as : List Expr} {b : List Stmt} {bo : Option Sxs} {c : Sx} (hb : ∀ b', bo = some b' → PSs X b (wSs S F W b')) (hr : isRange C y = true)
    (h : cRng C n (locOf C x) as bo = some c) : PS X (.For (.Name x p) (.Call (.Name y py) as [] pc) b [] q) (wS S F W c) := by
  obtain ⟨rfl, hg, hm⟩ := rng_name O.toOkE hr
  match as, h with
  | [a], h =>
    obtain ⟨i, a', b', h1, h2, h3, rfl⟩ := tri_some (f := fun i a b => Sx.rng i (.lit (.int 0)) a b) h
    obtain ⟨nd, l1, l2, l3⟩ := O.loc h1
    have hpg : PG X (.Name x p) (gName i) := pg_name nd l1 l2 l3
    have hpi := pi_rng1 (tg := .Name x p) (p := py) (pos := pc) hg hm (iE a a' h2) (cE_star h2)
    have hfs : ∀ u, foldedSetIterable (.Call (.Name "range" py) [a] [] pc) X.env u = pure u := fun _ => rfl
    have hf := ps_for (pos := q) O.po O.calm hpi hpg (hb b' h3) hfs
    refine PS.imp hf fun D σ H z => ?_
    rw [wS] at z
    unfold wE at z
    refine wE_mono M a' (fun v H1 z1 => ?_) z
    unfold intK at z1
    simp only at z1
    split at z1
    · exact ⟨_, rfl, for_rng z1⟩
    · exact z1.elim
  | [a, d], h =>
    obtain ⟨u, v, h0, h0', rfl⟩ := two_some (f := fun (u : Nat × Ex) (v : Ex × Sxs) => Sx.rng u.1 u.2 v.1 v.2) h
    obtain ⟨i, a', h1, h2, rfl⟩ := two_some (f := Prod.mk) h0
    obtain ⟨d', b', h3, h4, rfl⟩ := two_some (f := Prod.mk) h0'
    obtain ⟨nd, l1, l2, l3⟩ := O.loc h1
    have hpg : PG X (.Name x p) (gName i) := pg_name nd l1 l2 l3
    have hpi := pi_rng2 (tg := .Name x p) (p := py) (pos := pc) hg hm (iE a a' h2) (iE d d' h3) (cE_star h2) (cE_star h3)
    have hfs : ∀ u, foldedSetIterable (.Call (.Name "range" py) [a, d] [] pc) X.env u = pure u := fun _ => rfl
    have hf := ps_for (pos := q) O.po O.calm hpi hpg (hb b' h4) hfs
    refine PS.imp hf fun D σ H z => ?_
    rw [wS] at z
    refine wE_mono M a' (fun v H1 z1 => wE_mono M d' (fun w' H2 z2 => ?_) z1) z
    unfold intK at z2
    split at z2
    · split at z2
      · exact ⟨_, _, rfl, for_rng z2⟩
      · exact z2.elim
    · exact z2.elim
theorem for_ok {n : Nat} (iE : ∀ e c, cE C n e = some c → PE X e (wE S F W c)) {q : Pos} {t it : Expr} {b : List Stmt} {bo : Option Sxs} {c : Sx} (hb : ∀ b', bo = some b' → PSs X b (wSs S F W b')) (h : cFor C n t it bo = some c) :
    PS X (.For t it b [] q) (wS S F W c) := by
  unfold cFor at h
  cases e1 : nmOf t with
  | none =>
    rw [e1] at h
    simp only at h
    obtain ⟨hw, h⟩ := if_some h
    obtain ⟨is, e', b', h1, h2, h3, rfl⟩ := tri_some (f := fun is e b => Sx.forL (.tp is) e b) h
    obtain ⟨ns, h4, h5⟩ := bind_some h1
    obtain ⟨ts, h6, h7⟩ := bind_some h4
    obtain ⟨kt, pt, rfl⟩ := tupOf_eq h6
    obtain ⟨g, hg, hgi⟩ := tp_pg (kt := kt) (pt := pt) O h7 h5
    refine forT_ok O M hg hgi (iE _ _ h2) (hb b' h3) ?_
    cases it <;> first | exact fun _ => rfl | cases hw
  | some x =>
    rw [e1] at h
    rw [nmOf_eq e1]
    cases e2 : rngOf C it with
    | some as =>
      simp only [e2] at h
      obtain ⟨y, py, pc, rfl, hr⟩ := rngOf_eq e2
      exact rng_ok O M iE hb hr h
    | none =>
      simp only [e2] at h
      obtain ⟨hw, h⟩ := if_some h
      obtain ⟨i, e', b', h1, h2, h3, rfl⟩ := tri_some (f := fun i e b => Sx.forL (.nm i) e b) h
      refine forL_ok O M h1 (iE _ _ h2) (hb b' h3) ?_
      cases it <;> first | exact fun _ => rfl | cases hw
theorem asg1_ok {n : Nat} (iE : ∀ e c, cE C n e = some c → PE X e (wE S F W c)) {q : Pos} {t e : Expr} {c : Sx} (h : cAsg1 C n t e = some c) : PS X (.Assign [t] e q) (wS S F W c) := by
  cases t with
  | Name x p =>
    obtain ⟨hc, h⟩ := if_some h
    obtain ⟨i, e', h1, h2, rfl⟩ := two_some (f := Sx.asg) h
    exact set_ok O M hc h1 (iE e e' h2)
  | Subscript o i p =>
    obtain ⟨hc, h⟩ := if_some h
    simp only [Bool.and_eq_true] at hc
    obtain ⟨o', i', e', h1, h2, h3, rfl⟩ := tri_some (f := Sx.setI) h
    exact setI_ok O M hc.1 hc.2 (iE o o' h1) (iE i i' h2) (iE e e' h3)
  | Attribute o f p =>
    obtain ⟨hc, h⟩ := if_some h
    obtain ⟨o', e', h1, h2, rfl⟩ := two_some (f := fun o e => Sx.setF o f e) h
    exact setF_ok O M hc (iE o o' h1) (iE e e' h2)
  | Tuple ts kt pt =>
    change (match tupOf e with
      | some vs => (nms ts).bind fun u => cPar C n u vs
      | none => iff' (notComp e) (two ((nms ts).bind (slots C)) (cE C n e) .unp)) = some c at h
    cases h4 : tupOf e with
    | none =>
      rw [h4] at h
      simp only at h
      obtain ⟨hc, h⟩ := if_some h
      obtain ⟨is, e', h1, h2, rfl⟩ := two_some (f := Sx.unp) h
      obtain ⟨ns, h5, h6⟩ := bind_some h1
      obtain ⟨g, hg, hgi⟩ := tp_pg (kt := kt) (pt := pt) O h5 h6
      have hsw : swappedStores [.Tuple ts kt pt] e X.env = pure none := by cases e <;> first | rfl | cases h4
      refine PS.imp (ps_asg (iE e e' h2) hg (sole_no hc) hsw rfl) fun D σ H z => ?_
      rw [wS] at z
      exact wE_mono M e' (fun x H1 z1 => hgi _ _ _ _ z1) z
    | some vs =>
    rw [h4] at h
    simp only at h
    obtain ⟨ns, h3, h2⟩ := bind_some h
    obtain ⟨k2, p2, rfl⟩ := tupOf_eq h4
    have one : ∀ {ts : List Expr} {x : Str × Pos} {r : List (Str × Pos)}, nms ts = some (x :: r) → ∃ (t : Expr) (ts' : List Expr), ts = .Name x.1 x.2 :: ts' ∧ nms ts' = some r := by
      intro ts x r hh
      cases ts with
      | nil => cases hh
      | cons a as =>
        obtain ⟨y, z, g1, g2, g3⟩ := two_some (f := fun a b => a :: b) hh
        cases g3
        rw [nmOf_eq g1]
        exact ⟨a, as, rfl, g2⟩
    have nil : ∀ {ts : List Expr}, nms ts = some [] → ts = [] := by
      intro ts hh
      cases ts with
      | nil => rfl
      | cons a as =>
        obtain ⟨y, z, g1, g2, g3⟩ := two_some (f := fun a b => a :: b) hh
        cases g3
    match ns, vs, h2, h3 with
    | [x, y], [a, b], h2, h3 =>
      obtain ⟨_, t1, e1, g1⟩ := one h3
      obtain ⟨_, t2, e2, g2⟩ := one g1
      rw [e1, e2, nil g2]
      exact par2_ok O M iE h2
    | [x, y, z], [a, b, d], h2, h3 =>
      obtain ⟨_, t1, e1, g1⟩ := one h3
      obtain ⟨_, t2, e2, g2⟩ := one g1
      obtain ⟨_, t3, e3, g3⟩ := one g2
      rw [e1, e2, e3, nil g3]
      exact par3_ok O M iE h2
  | _ => cases h
theorem rai_ok {n : Nat} (iE : ∀ e c, cE C n e = some c → PE X e (wE S F W c)) {a b : Option Expr} {p : Pos} {c : Sx} (h : cRai C n a b = some c) : PS X (.Raise a b p) (wS S F W c) := by
  have nev : c = .never → PS X (.Raise a b p) (wS S F W c) := fun e => by
    subst e
    refine ⟨fun pins s σ H D I z => ?_⟩
    rw [wS] at z
    exact z.elim
  unfold cRai at h
  split at h
  · rename_i x pn e es pc
    cases eg : C.gl x with
    | xcl =>
      rw [eg] at h
      simp only at h
      obtain ⟨hg, h⟩ := if_some h
      obtain ⟨es', h1, rfl⟩ := map_some h
      have PAs := nCE_pa iE h1
      have st := nCE_star h1
      have hx := O.gl hg
      obtain ⟨D0, hdb, hm, hk⟩ := O.G.own x (.inl eg)
      refine ⟨fun pins s σ H D I z => ?_⟩
      rw [wS] at z
      have rr := ps_raise (pos := p) (t := fun σ H Q => wA S F W es' σ H fun vs H1 => raiV S x vs H1 Q) O.calm O.tk (e := .Call (.Name x pn) (e :: es) [] pc) fun pins s σ H Q I h => by
        refine wpAny_Call_Name_kw (ld_glob I hx hm ?_ hdb)
        refine PySem.W.callWith_K (h₀ := X.base) I.ok.mod.kin hk (thn (PAs.run pc pins s σ H _ I h) fun us s1 ⟨vs, H1, I1, r1, q1⟩ => ⟨I1.kIn, ?_⟩) (star_one (st e (List.mem_cons_self ..))) (star_no fun e he => st e (List.mem_cons_of_mem _ he))
        change raiV S x vs H1 Q at q1
        unfold raiV at q1
        split at q1
        · rename_i D1 g ex
          split at q1
          · rename_i v
            have T := O.G.xc x D1 (some g) eg ex
            have eD := T.at_
            rw [hm] at eD
            cases eD
            exact mkx_raise T (O.rm.mono (by omega)) O.gd I1 r1 fun d h1 h2 => q1 d h1 (so_none O.G.so h2)
          · exact q1.elim
        · exact q1.elim
      exact rr.run pins s σ H D I z
    | _ => rw [eg] at h; cases h; exact nev rfl
  · cases h; exact nev rfl
theorem aug_ok {n : Nat} (iE : ∀ e c, cE C n e = some c → PE X e (wE S F W c)) {t e : Expr} {o : Operator} {p : Pos} {c : Sx} (h : cAug C n t o e = some c) : PS X (.AugAssign t o e p) (wS S F W c) := by
  cases t with
  | Name x px =>
    obtain ⟨ho, h⟩ := if_some h
    obtain ⟨i, e', h1, h2, rfl⟩ := two_some (f := fun i e => Sx.aug i o e) h
    obtain ⟨nd, l1, l2, l3⟩ := O.loc h1
    simp only [Bool.or_eq_true, beq_iff_eq] at ho
    rcases ho with rfl | rfl
    · refine PS.imp (ps_aug nd l1 l2 (iE e e' h2) ip_add l3) fun D σ H z => ?_
      rw [wS] at z
      unfold varK at z
      split at z
      · rename_i v ev
        refine ⟨v, ev, wE_mono M e' (fun y H1 z1 => ?_) z⟩
        unfold augV at z1
        split at z1
        · exact ⟨_, _, rfl, rfl, z1⟩
        · rename_i hh; cases hh
        · exact z1.elim
      · exact z.elim
    · refine PS.imp (ps_aug nd l1 l2 (iE e e' h2) ip_sub l3) fun D σ H z => ?_
      rw [wS] at z
      unfold varK at z
      split at z
      · rename_i v ev
        refine ⟨v, ev, wE_mono M e' (fun y H1 z1 => ?_) z⟩
        unfold augV at z1
        split at z1
        · rename_i hh; cases hh
        · exact ⟨_, _, rfl, rfl, z1⟩
        · exact z1.elim
      · exact z.elim
  | _ => cases h
omit M in
theorem cls_names {x : Str} {T : Expr} (h : clsNm C T = some x) : ∃ p u, T = .Name x p ∧ ClsN X.mg x u ∧ ∀ (a : Addr) (pn : List (Addr × Obj)), Names (X.suite a pn) x u := by
  cases T with
  | Name y p =>
    obtain ⟨hb, h⟩ := if_some h
    cases h
    simp only [Bool.and_eq_true, Bool.or_eq_true, beq_iff_eq] at hb
    obtain ⟨hg, hk⟩ := hb
    obtain ⟨u, hu⟩ := O.G.cls x (by rcases hk with (h | h) | h; exact .inl h; exact .inr (.inl h); exact .inr (.inr h))
    refine ⟨p, u, rfl, hu, fun a pn => ⟨O.gl hg, hu.1, ?_⟩⟩
    rcases hu.2 with ⟨_, h⟩ | ⟨_, h1, h2, h3⟩
    · exact .inl h
    · exact .inr ⟨h1, h2, h3⟩
  | _ => cases h
omit M in
theorem clsNms_ok {cs : List Str} {T : Expr} (h : clsNms C T = some cs) : ∃ us, (∀ (a : Addr) (pn : List (Addr × Obj)), PXt (X.suite a pn) T us) ∧ ∀ (D : Addr) (b : Bool), isaAny S D cs = some b → PySem.W.exmAny X.K (.ref D) us = some b := by
  have step : ∀ {x : Str} {u : Value} {D : Addr} {b : Bool}, ClsN X.mg x u → S.isa D x = some b → PySem.W.exmOne X.K (.ref D) u = some b := fun {x u D b} hu e => ((O.G.isa D x b e).2 u hu).2
  have cons : ∀ {x : Str} {u : Value} {D : Addr} {cs : List Str} {us : List Value}, ClsN X.mg x u → (∀ b, isaAny S D cs = some b → PySem.W.exmAny X.K (.ref D) us = some b) → ∀ b, isaAny S D (x :: cs) = some b → PySem.W.exmAny X.K (.ref D) (u :: us) = some b := fun {x u D cs us} hu ih b e => by
    unfold isaAny at e
    split at e
    · rename_i b1 d1 e1 e2
      cases e
      unfold PySem.W.exmAny
      rw [step hu e1, ih d1 e2]
    · cases e
  have nil : ∀ {D : Addr} (b : Bool), isaAny S D [] = some b → PySem.W.exmAny X.K (.ref D) [] = some b := fun {D} b e => e
  unfold clsNms at h
  split at h
  · obtain ⟨x, h1, rfl⟩ := map_some h
    obtain ⟨p, u, e1, hu, hn⟩ := cls_names O h1
    cases e1
    exact ⟨[u], fun a pn => .one (hn a pn), fun D b e => cons hu nil b e⟩
  · obtain ⟨x, y, h1, h2, rfl⟩ := two_some (f := fun x y => [x, y]) h
    obtain ⟨p, u, rfl, hu, hn⟩ := cls_names O h1
    obtain ⟨p2, u2, rfl, hu2, hn2⟩ := cls_names O h2
    exact ⟨[u, u2], fun a pn => .two (hn a pn) (hn2 a pn), fun D b e => cons hu (cons hu2 nil) b e⟩
  · obtain ⟨x, y, z, h1, h2, h3, rfl⟩ := tri_some (f := fun x y z => [x, y, z]) h
    obtain ⟨p, u, rfl, hu, hn⟩ := cls_names O h1
    obtain ⟨p2, u2, rfl, hu2, hn2⟩ := cls_names O h2
    obtain ⟨p3, u3, rfl, hu3, hn3⟩ := cls_names O h3
    exact ⟨[u, u2, u3], fun a pn => .three (hn a pn) (hn2 a pn) (hn3 a pn), fun D b e => cons hu (cons hu2 (cons hu3 nil)) b e⟩
  · cases h
omit O M in
theorem asgNm_eq {su : List Stmt} {u : Str × Str} (h : asgNm su = some u) : ∃ p q r, su = [.Assign [.Name u.1 p] (.Name u.2 q) r] := by
  unfold asgNm at h
  split at h
  · cases h
    exact ⟨_, _, _, rfl⟩
  · cases h
theorem PS.nok {st : Stmt} {t : TS} (h : PS X st t) : PS X st (fun D σ H => t { D with nx := fun σ H => NoK S.so H → D.nx σ H } σ H) := ⟨fun pins s σ H D I z =>
  wpAny_mono (h.run pins s σ H _ I z) (fun f s1 hs => by
    cases f with
    | next => obtain ⟨σ', H', J, q⟩ := hs; exact ⟨σ', H', J, q (nok_of O.G.so J)⟩
    | brk => exact hs
    | cont => exact hs
    | ret u => exact hs) fun _ _ x => x⟩
theorem try_ok {n : Nat} (ihb : ∀ {X : Cx} {W : WX}, Ok X S F k C W → ∀ st c, cS C n st = some c → PS X st (wS S F W c)) {b : List Stmt} {hs : List ExceptHandler} {p : Pos} {c : Sx} (h : cTry C (nCS (cS C n) b) hs = some c) : PS X (.Try b hs [] [] p) (wS S F W c) := by
  unfold cTry at h
  split at h
  · rename_i T nm su ph
    obtain ⟨u, h1, h2⟩ := bind_some h
    obtain ⟨p1, p2, p3, rfl⟩ := asgNm_eq h1
    obtain ⟨hb, h2⟩ := if_some h2
    simp only [Bool.and_eq_true, beq_iff_eq, Bool.not_eq_true', beq_eq_false_iff_ne] at hb
    obtain ⟨⟨e1, e2⟩, e3⟩ := hb
    obtain ⟨a, s, h3, h4, rfl⟩ := two_some (f := fun (a : Sxs × List Str) (s : Nat × Nat) => Sx.trx a.1 a.2 s.1 s.2) h2
    obtain ⟨b', cs, h5, h6, rfl⟩ := two_some (f := Prod.mk) h3
    obtain ⟨i, j, h7, h8, rfl⟩ := two_some (f := Prod.mk) h4
    obtain ⟨l1, l2⟩ := O.loc1 h7
    obtain ⟨l3, l4⟩ := O.loc1 h8
    obtain ⟨us, hT, hx⟩ := clsNms_ok O h6
    obtain ⟨d1, d2⟩ := okN_d e3
    have nd : X.N.Nodup := by rw [O.N]; exact O.nd
    rw [e1]
    have body : ∀ (W' : WX) (pn : List (Addr × Obj)) (xe : Value → Shared → Prop), Takes (X.tr pn xe) W' → PassesOwn (model X.prog X.w) X.A X.env xe → PSs (X.tr pn xe) b (wSs S F W' b') := fun W' pn xe tk po => by
      have O' : Ok (X.tr pn xe) S F k C W' := ⟨⟨O.G, O.N, O.nd, O.sc, O.calm, O.gd, O.rm, tk, O.kd⟩, po, O.cf, O.stk, O.frm, O.exn⟩
      exact nCS_ok O' M (ihb O') h5
    have t := ps_trx (py := p1) (pn' := p2) (pa := p3) (ph := ph) (pos := p) O.stk O.frm O.exn nd l1 l2 l3 l4 (nd_ne l1 l3 (Ne.symm e2)) d1 d2 hT body
    refine PS.imp (PS.nok O M t) fun D σ H z => ?_
    rw [wS] at z
    refine wSs_mono M b' (fun cls d σ' H' ⟨C', ec, g1, g2⟩ => ⟨C', ec, ?_, fun a ha nk => g2 a ha (nok_upd nk)⟩) _ _ _ _ ⟨fun _ _ z _ => z, fun _ _ z => z, fun _ _ z => z, fun _ _ z => z⟩ z
    rw [ec]
    exact hx C' true g1
  · cases h
end
section
variable {S : Stat} {F : Sm} {k : Nat} {C : CI} (M : SmMono F)
include M
theorem cS_ok : ∀ (n : Nat) {X : Cx} {W : WX}, Ok X S F k C W → ∀ (st : Stmt) (c : Sx), cS C n st = some c → PS X st (wS S F W c) := by
  intro n
  induction n with
  | zero => intro X W O st c h; cases h
  | succ n ihb =>
    intro X W O st c h
    have ih : ∀ st c, cS C n st = some c → PS X st (wS S F W c) := ihb O
    obtain ⟨iE, iO, iT⟩ := cE_ok M n O.toOkE
    cases st with
    | Assign ts e q =>
      change cAsg C n ts e = some c at h
      cases ts with
      | nil => cases h
      | cons t ts =>
        cases ts with
        | nil => exact asg1_ok O M iE h
        | cons t2 ts => cases h
    | Expr e p =>
      obtain ⟨hc, h⟩ := if_some h
      obtain ⟨e', h1, rfl⟩ := map_some (f := Sx.exp) h
      refine PS.imp (ps_expr (iE e e' h1) (swaps_no hc)) fun D σ H z => ?_
      rw [wS] at z
      exact z
    | Return v p =>
      cases v with
      | some e =>
        obtain ⟨e', h1, rfl⟩ := map_some (f := Sx.ret) h
        refine PS.imp (ps_ret (iE e e' h1)) fun D σ H z => ?_
        rw [wS] at z
        exact z
      | none =>
        cases h
        refine PS.imp ps_retN fun D σ H z => ?_
        rw [wS] at z
        exact z
    | If t a b p =>
      obtain ⟨t', a', b', h1, h2, h3, rfl⟩ := tri_some (f := Sx.ifs) h
      refine PS.imp (ps_if (iT t t' h1) (nCS_ok O M ih h2) (nCS_ok O M ih h3)) fun D σ H z => ?_
      rw [wS] at z
      exact z
    | For t it b o q =>
      obtain ⟨ho, h⟩ := if_some h
      cases o with
      | cons _ _ => cases ho
      | nil => exact for_ok O M iE (fun b' hb => nCS_ok O M ih hb) h
    | While t b o p =>
      obtain ⟨ho, h⟩ := if_some h
      cases o with
      | cons _ _ => cases ho
      | nil =>
        obtain ⟨t', b', h1, h2, rfl⟩ := two_some (f := Sx.whl) h
        refine PS.imp (ps_while O.po (iT t t' h1) (nCS_ok O M ih h2)) fun D σ H z => ?_
        rw [wS] at z
        refine ⟨fun m σ H => lpW (wT S F W t') (wSs S F W b') D m σ H, z, fun m σ H z1 => ?_⟩
        cases m with
        | zero => exact z1.elim
        | succ m =>
          refine wT_mono M t' (fun kk H1 z2 => ?_) z1
          cases kk with
          | true => exact ⟨lpW (wT S F W t') (wSs S F W b') D m, fun σ' H' z3 => ⟨m, Nat.lt_succ_self m, z3⟩, z2⟩
          | false => exact z2
    | Pass p =>
      cases h
      refine PS.imp ps_pass fun D σ H z => ?_
      rw [wS] at z
      exact z
    | Raise a b p => exact rai_ok O M iE h
    | AugAssign t o e p => exact aug_ok O M iE h
    | Try b hs o f p =>
      obtain ⟨ho, h⟩ := if_some h
      simp only [Bool.and_eq_true] at ho
      cases o with
      | cons _ _ => exact absurd ho.1 Bool.false_ne_true
      | nil =>
        cases f with
        | cons _ _ => exact absurd ho.2 Bool.false_ne_true
        | nil => exact try_ok O M (fun O' => ihb O') h
    | _ => cases h
end
end QL
set_option Elab.async false
set_option linter.all false
set_option maxRecDepth 100000
set_option maxHeartbeats 4000000
/-! Q12: defs by levels, and the end of a law. -/
namespace QL
open PySem PySem.Spec L2
open PyProof.Rows hiding St
structure FnI where
  N : List Str
  np : Nat
  body : Sxs
/-- what the defs do, calls nested at most so deep -/
def sem (S : Stat) (T : Str → Option FnI) : Nat → Sm
  | 0 => ⟨fun _ _ _ _ _ => False⟩
  | n + 1 => ⟨fun f vs H Q E => match T f with
    | some fi => vs.length = fi.np ∧ wSs S (sem S T n) (fun c d _ H' => E c d H') fi.body { nx := fun _ H' => Q .non H', rt := Q } (L2.start fi.N vs) H
    | none => False⟩
theorem sem_mono (S : Stat) (T : Str → Option FnI) : ∀ n, SmMono (sem S T n)
  | 0 => fun _ _ _ _ _ _ _ _ _ h => h.elim
  | n + 1 => fun f vs H Q Q' E E' q e h => by
    unfold sem at h ⊢
    simp only at h ⊢
    split at h
    · refine ⟨h.1, wSs_mono (sem_mono S T n) _ (W := fun c d _ H' => E c d H') (fun c d σ H' z => e c d H' z) _ _ _ _ ?_ h.2⟩
      exact ⟨fun _ H' z => q _ _ z, q, fun _ _ z => z, fun _ _ z => z⟩
    · exact h.elim
/-- a def of the text, turned: its name, its qualified name -/
structure DefB (K : PySem.W.Frag) (gl : Str → Gk) (nm q : Str) (fi : FnI) (st : Stmt) (f : Addr) (fd : FuncData) (ps : List Str) : Prop where
  fn : ∃ dvs kws, FunD K nm q (defArgs st) (defBody st) (defScope st) dvs kws f fd
  sc : FnScope fi.N ps (defScope st)
  np : ps.length = fi.np
  tr : nCS (cS ⟨fi.N, defScope st, gl⟩ 60) (defBody st) = some fi.body
/-- a def of the module -/
structure Def1 (K : PySem.W.Frag) (mg : Str → Option Value) (gl : Str → Gk) (x : Str) (fi : FnI) (st : Stmt) (f : Addr) (fd : FuncData) (ps : List Str) : Prop where
  df : DefB K gl x x fi st f fd ps
  mg : mg x = some (.ref f)
  bd : Binds K fd ps []
  nm : (x == ("__debug__" : Str)) = false
/-- what a name of the module is -/
def Fact (K : PySem.W.Frag) (mg : Str → Option Value) (S : Stat) (T : Str → Option FnI) (gl : Str → Gk) (x : Str) : Gk → Prop
  | .fn => ∃ fi st f fd ps, T x = some fi ∧ Def1 K mg gl x fi st f fd ps
  | .cst => ∀ v, S.gv x = some v → ∃ u, mg x = some u ∧ RelV v u
  | .bi b => x = biN b ∧ mg x = none
  | .isi => x = "isinstance" ∧ mg x = none
  | .xcl => ∃ C, (x == ("__debug__" : Str)) = false ∧ mg x = some (.ref C) ∧ PySem.W.keepIn K (.ref C) = true
  | .ocl => ∃ C, (x == ("__debug__" : Str)) = false ∧ mg x = some (.ref C) ∧ PySem.W.keepIn K (.ref C) = true
  | .bxc => ∃ T, (x == ("__debug__" : Str)) = false ∧ mg x = none ∧ bootBuiltins x = some (.type T) ∧ x ≠ "__name__"
  | .no => True
def AllF (f : Str → Gk → Prop) : List (Str × Gk) → Prop
  | [] => True
  | (x, g) :: r => f x g ∧ AllF f r
theorem AllF.at {f : Str → Gk → Prop} {x : Str} {g : Gk} : ∀ {l : List (Str × Gk)}, AllF f l → l.lookup x = some g → f x g
  | [], _, h => by cases h
  | (y, k) :: r, a, h => by
    rw [List.lookup_cons] at h
    split at h
    · rename_i e
      cases h
      have : x = y := by simpa using e
      rw [this]
      exact a.1
    · exact a.2.at h
/-- how values come to the parameters of a def that is called with so many values, keywords among them -/
def BindK (K : PySem.W.Frag) (fd : FuncData) (ps : List Str) (n : Nat) (ks : List Str) (pm : List (Nat ⊕ V)) : Prop :=
  ∀ (vs ws : List V) (us : List Value), Vals vs us → vs.length = n → pmV pm vs = some ws → ∃ full : List Value, Vals ws full ∧ ∀ (s : Shared) (a : Value), K.In s.heap → BindsTo s fd ⟨a :: us.take (n - ks.length), ks.zip (us.drop (n - ks.length))⟩ (ps.zip (a :: full))
/-- the module behind the top -/
structure Top (K : PySem.W.Frag) (mg : Str → Option Value) (S : Stat) (T : Str → Option FnI) (gl : Str → Gk) : Prop where
  so : SoOk K S.so
  fl : ∀ C f, S.fl C f → Cls K C ∧ NoAttr K C f
  at_ : ∀ x, Fact K mg S T gl x (gl x)
  rng : gl "range" = .no → mg "range" = none
  xc : ∀ x C f, gl x = .xcl → S.xc x = some (C, f) → ∀ (P : Program) (w : World) (base : Heap), Xk P w K mg base x C f
  isa : ∀ C c b, S.isa C c = some b → XvC K C ∧ ∀ u, ClsN mg c u → PySem.W.kitOne K (.ref C) u = some b ∧ PySem.W.exmOne K (.ref C) u = some b
  iso : ∀ C c b, S.iso C c = some b → OcC K C ∧ ∀ u, ClsN mg c u → PySem.W.kitOne K (.ref C) u = some b
  isb : ∀ c, S.isb c = true → ∀ u, ClsN mg c u → ∀ T ∈ bTs, PySem.W.kitOne K (.type T) u = some false
  xf : ∀ C f, S.xf C f → XvC K C ∧ PySem.W.findIn K (.ref C) f = some none
  mt : ∀ C m g, S.mt C m = some g → Cls K C ∧ ∃ fi nm q st f fd ps, T g = some fi ∧ Meth K C m f ∧ DefB K gl nm q fi st f fd ps ∧ Binds K fd ps []
  mkc : ∀ x n ks C g pm, gl x = .ocl → S.mkc x n ks = some (C, g, pm) → (x == ("__debug__" : Str)) = false ∧ mg x = some (.ref C) ∧ ∃ fi nm q st f fd ps, T g = some fi ∧ Mk K C f ∧ DefB K gl nm q fi st f fd ps ∧ BindK K fd ps n ks pm
section
variable {P : Program} {w : World} {K : PySem.W.Frag} {mg : Str → Option Value} {base : Heap} {S : Stat} {T : Str → Option FnI} {gl : Str → Gk}
theorem Top.fng (G : Top K mg S T gl) : ∀ (n : Nat) (g nm q : Str) (fi : FnI) (st : Stmt) (f : Addr) (fd : FuncData) (ps : List Str), T g = some fi → DefB K gl nm q fi st f fd ps → FnG P w K mg base (2 * n + 1) f fd ps ((sem S T n).fn g)
  | 0, g, nm, q, fi, st, f, fd, ps, hx, D => ⟨fun _ _ _ _ z => z.elim, fun _ _ _ _ _ _ _ _ _ _ _ _ _ _ z => z.elim⟩
  | n + 1, g, nm, q, fi, st, f, fd, ps, hx, D => by
    obtain ⟨dvs, kws, ⟨oc, od, dV, kV, doc, pm, an, cdv, ct, osl, rfl, lk, hcd, _, _⟩, _⟩ := D.fn
    have len : ∀ vs H Q E, (sem S T (n + 1)).fn g vs H Q E → vs.length = ps.length := fun vs H Q E z => by
      unfold sem at z
      simp only [hx] at z
      rw [D.np]
      exact z.1
    refine fng_of (k := 2 * n + 2) lk hcd D.sc len fun A outer s H vs Q E hg hr z => ?_
    unfold sem at z
    simp only [hx] at z
    have GO : GOk P w K mg base S (sem S T n) n gl := {
      so := G.so
      fl := G.fl
      fn := fun y hy => by
        have q := G.at_ y
        rw [hy] at q
        obtain ⟨fi', st', f', fd', ps', h1, h2⟩ := q
        obtain ⟨_, _, hF⟩ := h2.df.fn
        exact ⟨f', fd', ps', h2.nm, h2.mg, hF.kp, Top.fng G n y _ _ fi' st' f' fd' ps' h1 h2.df, h2.bd⟩
      cst := fun y v hy => by
        have q := G.at_ y
        rw [hy] at q
        exact q v
      bi := fun y b hy => by
        have q := G.at_ y
        rw [hy] at q
        exact q
      isi := fun y hy => by
        have q := G.at_ y
        rw [hy] at q
        exact q
      rng := G.rng
      cls := fun y hy => by
        have q := G.at_ y
        rcases hy with hy | hy | hy
        · rw [hy] at q
          obtain ⟨C, h1, h2, _⟩ := q
          exact ⟨.ref C, h1, .inl ⟨⟨C, rfl⟩, h2⟩⟩
        · rw [hy] at q
          obtain ⟨C, h1, h2, _⟩ := q
          exact ⟨.ref C, h1, .inl ⟨⟨C, rfl⟩, h2⟩⟩
        · rw [hy] at q
          obtain ⟨T, h1, h2, h3, h4⟩ := q
          exact ⟨.type T, h1, .inr ⟨⟨T, rfl⟩, h2, h3, h4⟩⟩
      own := fun y hy => by
        have q := G.at_ y
        rcases hy with hy | hy
        · rw [hy] at q
          exact q
        · rw [hy] at q
          exact q
      xc := fun x C f h1 h2 => G.xc x C f h1 h2 P w base
      isa := G.isa
      iso := G.iso
      isb := G.isb
      xf := G.xf
      mt := fun C m g' h => by
        obtain ⟨c, fi', nm', q', st', f', fd', ps', h1, h2, h3, h4⟩ := G.mt C m g' h
        exact ⟨c, f', fd', ps', h2, Top.fng G n g' nm' q' fi' st' f' fd' ps' h1 h3, h4⟩
      mkc := fun x k ks C g' pm' h h' => by
        obtain ⟨c1, c2, fi', nm', q', st', f', fd', ps', h1, h2, h3, h4⟩ := G.mkc x k ks C g' pm' h h'
        exact ⟨c1, c2, f', fd', ps', h2, Top.fng G n g' nm' q' fi' st' f' fd' ps' h1 h3, h4⟩ }
    have O : Ok (cxOf (L2.CX P w) P w K mg base fi.N q (defScope st) f cdv A outer s H E) S (sem S T n) n ⟨fi.N, defScope st, gl⟩ (fun c d _ H' => E c d H') :=
      ⟨⟨GO, rfl, D.sc.nd, rfl, rfl, hg, hr, takes_of rfl rfl rfl rfl, D.sc.kind⟩, passes_of rfl, fun _ _ => rfl, rfl, rfl, rfl⟩
    exact ⟨_, nCS_ok O (sem_mono S T n) (cS_ok (sem_mono S T n) 60 O) D.tr, z.2⟩
end
/-! ### the end of a law -/
theorem ints_vals : ∀ {vs : List Value} {ns : List Int}, IntsAre vs ns → Vals (ns.map V.int) vs
  | _, _, .nil => .nil
  | _, _, .cons n t h => .cons ⟨t, rfl⟩ (ints_vals h)
section
variable {P : Program} {w : World} {K : PySem.W.Frag} {mg mb : Str → Option Value} {k : Nat} {fa a : Addr} {fd : FuncData} {x : Str} {sp : Sp} {s1 : Shared} {vs : List Value} {ns : List Int}
/-- the law's def called with the script, over one abstract heap that tracks at most the script -/
theorem law_at (KX : K.In s1.heap) (hns : s1.heap.Ns mainGlobals mg) (hb : s1.heap.Ns builtinsNs mb) (hbb : ∀ x : Str, x ≠ "__name__" → mb x = bootBuiltins x) (hlim : s1.heap.NoLimit) (hg : s1.gens = #[])
    (ha : s1.heap.get? a = some { cls := .type "list", data := .seq vs.toArray }) (hr : Room k callerA)
    (F : ∀ base : Heap, K.In base → base.Ns mainGlobals mg → FnG P w K mg base k fa fd [x] sp) (hbind : ∀ (s : Shared) (u : Value), BindsTo s fd ⟨[u], []⟩ [(x, u)])
    (H : Hp) (hA : ∀ b, H b ≠ none → b = a ∧ ∃ o u, H b = some (.frz o u)) (hK : H a ≠ none → K.lookup a = none) (hok : HOk P w H s1.heap) (hsp : sp [.ref a] H (fun v _ => v = .bl true) fun _ _ _ => False) :
    codeAny (model P w) callerA (.call (.ref fa) ⟨[.ref a], []⟩) (fun r s' => r = .ok (.ret (.bool true)) ∧ OldK s1.heap s'.heap ∧ s'.os = s1.os ∧ AllBare s'.gens) s1 := by
  have ns' : ∀ {b : Addr} {m : Str → Option Value}, s1.heap.Ns b m → (hidT s1.heap H).Ns b m := by
    rintro b m ⟨o, es, ep, e, d, r⟩
    refine ⟨o, es, ep, hidT_get e ?_, d, r⟩
    cases q : H b with
    | none => rfl
    | some u =>
      obtain ⟨rfl, _⟩ := hA b (by rw [q]; simp)
      rw [ha] at e
      cases e
      cases d
  have kIn : K.In (hidT s1.heap H) := fun b o e => hidT_get (KX b o e) (by
    cases q : H b with
    | none => rfl
    | some u =>
      obtain ⟨rfl, _⟩ := hA b (by rw [q]; simp)
      rw [hK (by rw [q]; simp)] at e
      cases e)
  have hM : Mod K mg (hidT s1.heap H) := ⟨kIn, ns' hns, ⟨mb, ns' hb, hbb⟩, let ⟨mc, h1, h2⟩ := hlim; ⟨mc, ns' h1, h2⟩⟩
  have e0 : Env0 P w K mg (hidT s1.heap H) callerA [] s1 H := ⟨rfl, hM, fun b o e => of_hidT e, Nat.le_of_eq (hidT_size _ _), trivial, (fun b hb => by cases hb), hok, .of_eq hg⟩
  refine codeAny_mono ((F _ kIn (ns' hns)).run callerA [] s1 H ⟨[.ref a], []⟩ [.ref a] [.ref a] _ _ rfl hr e0 (hbind s1 (.ref a)) (.cons rfl .nil) hsp) fun r s' h => ?_
  match r, h with
  | .error e, h =>
    obtain ⟨_, _, _, _, _, _, _, _, _, _, _, _, z⟩ := h
    exact z.elim
  | .ok .next, h => exact h.elim
  | .ok .brk, h => exact h.elim
  | .ok .cont, h => exact h.elim
  | .ok (.ret u), ⟨v, H', os, bare, un, hok', r', q⟩ =>
    have q : v = .bl true := q
    subst q
    obtain rfl : u = Value.bool true := r'
    refine ⟨rfl, OldK.of_keep fun b o e => ?_, os, bare⟩
    cases q : H b with
    | none => exact un.keep b o e q (by intro z; cases z) (by simp)
    | some u =>
      obtain ⟨_, ob, u', z⟩ := hA b (by rw [q]; simp)
      obtain ⟨e1, _⟩ := hok b _ z
      obtain ⟨e2, _⟩ := hok' b _ (un.frzs b ob _ z)
      rw [e] at e1
      cases e1
      exact e2
/-- what so0 tells, so tells -/
def SoLe (so0 so : Addr → Option HO) : Prop := ∀ b xs, so0 b = some (.tup xs) → so b = some (.tup xs)
theorem law_end {so0 : Addr → Option HO} {sp : (Addr → Option HO) → Sp} (S0 : SoOk K so0) (KX : K.In s1.heap) (hns : s1.heap.Ns mainGlobals mg) (hb : s1.heap.Ns builtinsNs mb) (hbb : ∀ x : Str, x ≠ "__name__" → mb x = bootBuiltins x) (hlim : s1.heap.NoLimit) (hg : s1.gens = #[])
    (ha : s1.heap.get? a = some { cls := .type "list", data := .seq vs.toArray }) (hi : IntsAre vs ns) (hl : ns.length ≤ sizeLine) (hr : Room k callerA)
    (F : ∀ so, SoOk K so → SoLe so0 so → ∀ base : Heap, K.In base → base.Ns mainGlobals mg → FnG P w K mg base k fa fd [x] (sp so)) (hbind : ∀ (s : Shared) (u : Value), BindsTo s fd ⟨[u], []⟩ [(x, u)])
    (hsp : ∀ (so : Addr → Option HO) (H : Hp), SoLe so0 so → rd so H a = some (.lst (ns.map V.int)) → (∀ b, b ≠ a → H b = none) → (∀ o, H a = some o → ∃ x u, o = .frz x u) → sp so [.ref a] H (fun v _ => v = .bl true) fun _ _ _ => False) :
    codeAny (model P w) callerA (.call (.ref fa) ⟨[.ref a], []⟩) (fun r s' => r = .ok (.ret (.bool true)) ∧ OldK s1.heap s'.heap ∧ s'.os = s1.os ∧ AllBare s'.gens) s1 := by
  have rv := ints_vals hi
  have lenV := hi.length
  cases hk : K.lookup a with
  | some o =>
    have e := KX a o hk
    rw [ha] at e
    cases e
    have S1 : SoOk K (fun b => if b = a then some (.lst (ns.map V.int)) else so0 b) := fun b u h => by
      by_cases q : b = a
      · have h' := (if_pos q).symm.trans h
        cases h'
        subst q
        exact ⟨_, vs.toArray, _, hk, rfl, rfl, rfl, by rw [List.size_toArray, lenV]; exact hl, by simpa using rv⟩
      · have h' : so0 b = some u := (if_neg q).symm.trans h
        exact S0 b u h'
    have L1 : SoLe so0 (fun b => if b = a then some (.lst (ns.map V.int)) else so0 b) := fun b xs h => by
      by_cases q : b = a
      · subst q
        obtain ⟨o, its, n, h1, h2, _⟩ := S0 b _ h
        rw [hk] at h1
        cases h1
        have h2' : Value.type "list" = Value.type "tuple" := h2
        injection h2' with h2'
        exact absurd h2' (by decide)
      · show (if b = a then _ else _) = _
        rw [if_neg q]
        exact h
    refine law_at (sp := sp _) KX hns hb hbb hlim hg ha hr (F _ S1 L1) hbind (fun _ => none) (fun b h => absurd rfl h) (fun h => absurd rfl h) (fun b o h => by cases h) (hsp _ _ L1 ?_ (fun b _ => rfl) fun o h => by cases h)
    show (if a = a then _ else _) = _
    rw [if_pos rfl]
  | none =>
    refine law_at (sp := sp so0) KX hns hb hbb hlim hg ha hr (F so0 S0 fun b xs h => h) hbind (fun b => if b = a then some (.frz { cls := .type "list", data := .seq vs.toArray } (.lst (ns.map V.int))) else none) ?_ (fun _ => hk) ?_ (hsp so0 _ (fun b xs h => h) ?_ (fun b hb => if_neg hb) ?_)
    · intro b h
      by_cases e : b = a
      · exact ⟨e, _, _, if_pos e⟩
      · exact absurd (if_neg e) h
    · intro b o h
      by_cases e : b = a
      · have h' := (if_pos e).symm.trans h
        cases h'
        subst e
        exact ⟨ha, by rw [List.length_map]; exact hl, vs, _, rv, ha⟩
      · have h' := (if_neg e).symm.trans h
        cases h'
    · unfold rd
      simp
    · intro o h
      have h' := (if_pos rfl).symm.trans h
      cases h'
      exact ⟨_, _, rfl⟩
end
/-- the goal that the head leaves, from the promise of the law's def -/
theorem walk_g {l : PySem.W.OpenLaw} {n k : Nat} {q : Program} {loose : List Str} {XP : (Str → Option Value) → Heap → Prop} {YP : World → Heap → Prop} {d : DefRec} {K : Params → PySem.W.Frag} {x : Str}
    (hn : l.most = some n) (hn2 : n ≤ sizeLine) (hdf : d.params.defaults = []) (hr : Room k callerA) (hY : ∀ (w : World) (h : Heap), YP w h → (K w.params).In h)
    (F : ∀ (w : World) (mg : Str → Option Value) (fa : Addr) (h : Heap), (K w.params).In h → h.Ns mainGlobals mg → mg d.name = some (.ref fa) →
      ∃ (so0 : Addr → Option HO) (sp : (Addr → Option HO) → Sp) (fd : FuncData), SoOk (K w.params) so0 ∧ (∀ (s : Shared) (u : Value), BindsTo s fd ⟨[u], []⟩ [(x, u)]) ∧
        (∀ so, SoOk (K w.params) so → SoLe so0 so → ∀ base : Heap, (K w.params).In base → base.Ns mainGlobals mg → FnG l.prog w (K w.params) mg base k fa fd [x] (sp so)) ∧
        ∀ (a : Addr) (ns : List Int) (so : Addr → Option HO) (H : Hp), ns.length ≤ n → SoLe so0 so → rd so H a = some (.lst (ns.map V.int)) → (∀ b, b ≠ a → H b = none) → (∀ o, H a = some o → ∃ x u, o = .frz x u) → sp so [.ref a] H (fun v _ => v = .bl true) fun _ _ _ => False) :
    PySem.W.WalkO q loose XP YP l.row.toRowW d [] (fun f vs => PySem.call f vs) := by
  refine Att.attach_call hn hdf fun w s₀ s₁ mg mb fa o pm cd doc a vs ns G Y ho hd hcd hmg hobj hints hlen hg => ?_
  have KX := hY w _ Y
  obtain ⟨so0, sp, fd, S0, hb, hF, hs⟩ := F w mg fa _ KX G.T.g hmg
  exact law_end S0 KX G.T.g G.T.b G.T.builtins G.T.nolimit hg hobj hints (Nat.le_trans hlen hn2) hr hF hb fun so H h1 h2 h3 h4 => hs a ns so H hlen h1 h2 h3 h4
/-- the same over a head by facts -/
theorem walk_h {l : PySem.W.OpenLaw} {n k : Nat} {q : Program} {loose : List Str} {XP : (Str → Option Value) → Heap → Prop} {YP : World → Heap → Prop} {d : DefRec} {x : Str}
    (hn : l.most = some n) (hn2 : n ≤ sizeLine) (hdf : d.params.defaults = []) (hr : Room k callerA)
    (F : ∀ (w : World) (mg : Str → Option Value) (fa : Addr) (h : Heap), YP w h → h.Ns mainGlobals mg → mg d.name = some (.ref fa) →
      ∃ (K : PySem.W.Frag) (so0 : Addr → Option HO) (sp : (Addr → Option HO) → Sp) (fd : FuncData), K.In h ∧ SoOk K so0 ∧ (∀ (s : Shared) (u : Value), BindsTo s fd ⟨[u], []⟩ [(x, u)]) ∧
        (∀ so, SoOk K so → SoLe so0 so → ∀ base : Heap, K.In base → base.Ns mainGlobals mg → FnG l.prog w K mg base k fa fd [x] (sp so)) ∧
        ∀ (a : Addr) (ns : List Int) (so : Addr → Option HO) (H : Hp), ns.length ≤ n → SoLe so0 so → rd so H a = some (.lst (ns.map V.int)) → (∀ b, b ≠ a → H b = none) → (∀ o, H a = some o → ∃ x u, o = .frz x u) → sp so [.ref a] H (fun v _ => v = .bl true) fun _ _ _ => False) :
    PySem.W.WalkO q loose XP YP l.row.toRowW d [] (fun f vs => PySem.call f vs) := by
  refine Att.attach_call hn hdf fun w s₀ s₁ mg mb fa o pm cd doc a vs ns G Y ho hd hcd hmg hobj hints hlen hg => ?_
  obtain ⟨K, so0, sp, fd, KX, S0, hb, hF, hs⟩ := F w mg fa _ Y G.T.g hmg
  exact law_end S0 KX G.T.g G.T.b G.T.builtins G.T.nolimit hg hobj hints (Nat.le_trans hlen hn2) hr hF hb fun so H h1 h2 h3 h4 => hs a ns so H hlen h1 h2 h3 h4
end QL
set_option Elab.async false
set_option linter.all false
set_option maxRecDepth 100000
set_option maxHeartbeats 4000000
/-! Q13: heaps that grow, loops by what holds between two turns. -/
namespace QL
open PySem PySem.Spec
open L2 hiding wE wT
open PyProof.Rows hiding St
/-- all that was tracked stays, nothing written is tracked -/
structure Ext (so : Addr → Option HO) (H H' : Hp) : Prop where
  keep : ∀ b o, H b = some o → H' b = some o
  no : ∀ b, H b = none → so b ≠ none → H' b = none
section
variable {so : Addr → Option HO} {H H1 H2 : Hp}
theorem Ext.refl : Ext so H H := ⟨fun _ _ h => h, fun _ h _ => h⟩
theorem Ext.trans (a : Ext so H H1) (b : Ext so H1 H2) : Ext so H H2 := ⟨fun c o h => b.keep c o (a.keep c o h), fun c h s => b.no c (a.no c h s) s⟩
theorem Ext.new {p : Addr} {o : HO} (hp : H p = none) (hs : so p = none) : Ext so H (upd H p o) :=
  ⟨fun b u h => by rw [upd_ne (ne_of_none h hp)]; exact h, fun b h s => by
    have : b ≠ p := fun e => s (by rw [e]; exact hs)
    rw [upd_ne this]
    exact h⟩
/-- a new thing, changed -/
theorem Ext.chg {p : Addr} {o : HO} (e : Ext so H H1) (hp : H p = none) (hs : so p = none) : Ext so H (upd H1 p o) :=
  ⟨fun b u h => by rw [upd_ne (ne_of_none h hp)]; exact e.keep b u h, fun b h s => by
    have : b ≠ p := fun q => s (by rw [q]; exact hs)
    rw [upd_ne this]
    exact e.no b h s⟩
theorem Ext.rd {a : Addr} {o : HO} (e : Ext so H H1) (h : rd so H a = some o) : rd so H1 a = some o := by
  unfold QL.rd at h ⊢
  cases q : H a with
  | none =>
    rw [q] at h
    have h : so a = some o := h
    rw [e.no a q (by rw [h]; simp)]
    exact h
  | some u =>
    rw [q] at h
    rw [e.keep a u q]
    exact h
theorem rd_here {a : Addr} {xs : List V} (h : H a = some (.lst xs)) : rd so H a = some (.lst xs) := by
  unfold rd
  rw [h]
theorem rd_hereT {a : Addr} {xs : List V} (h : H a = some (.tup xs)) : rd so H a = some (.tup xs) := by
  unfold rd
  rw [h]
theorem rd_new {a : Addr} {xs : List V} : rd so (upd H a (.lst xs)) a = some (.lst xs) := rd_here upd_same
theorem rd_newT {a : Addr} {xs : List V} : rd so (upd H a (.tup xs)) a = some (.tup xs) := rd_hereT upd_same
end
/-- the callers' view: D reached by a weaker one -/
theorem lpR_inv {g : TG} {tb : TS} {D : Ends} (m : TSle tb tb) {i0 : Nat} (hg : g = gName i0) (Pv : Int → St → Hp → Prop) : ∀ (n : Nat) (lo : Int) (σ : St) (H : Hp), Pv lo σ H →
    (∀ i σ H, lo ≤ i → i < lo + n → Pv i σ H → tb { D with nx := Pv (i + 1), ct := Pv (i + 1), bk := D.nx } (σ.set i0 (some (.int i))) H) → (∀ σ H, Pv (lo + n) σ H → D.nx σ H) → lpR g tb D n lo σ H
  | 0, lo, σ, H, h0, hs, hd => hd σ H (by simpa using h0)
  | n + 1, lo, σ, H, h0, hs, hd => by
    subst hg
    have ih : ∀ σ H, Pv (lo + 1) σ H → lpR (gName i0) tb D n (lo + 1) σ H := fun σ' H' h =>
      lpR_inv m rfl Pv n (lo + 1) σ' H' h (fun i σ H h1 h2 h3 => hs i σ H (by omega) (by push_cast at h2 ⊢; omega) h3) (fun σ H h => hd σ H (by
        have : lo + ((n + 1 : Nat) : Int) = lo + 1 + n := by push_cast; omega
        rw [this]
        exact h))
    refine m _ _ _ _ ?_ (hs lo σ H (Int.le_refl _) (by push_cast; omega) h0)
    exact ⟨ih, fun _ _ z => z, fun _ _ z => z, ih⟩
theorem sem_le {S : Stat} {T : Str → Option FnI} {n : Nat} {W : WX} (b : Sxs) : TSle (wSs S (sem S T n) W b) (wSs S (sem S T n) W b) := fun D D' σ H l z => wSs_mono (sem_mono S T n) b (fun _ _ _ _ z => z) D D' σ H l z
end QL
set_option Elab.async false
set_option linter.all false
set_option maxRecDepth 100000
set_option maxHeartbeats 4000000
/-! Q14: one step at a time (the terms of wE, wT, wA, wS, from the outside). -/
namespace QL
open PySem PySem.Spec
open L2 hiding wE wT
open PyProof.Rows hiding St
section
variable {S : Stat} {F : Sm} {W : WX}
theorem s_lit {σ : St} {H : Hp} {Q : VK} {v : V} (h : Q v H) : wE S F W (.lit v) σ H Q := by
  unfold wE; exact h
theorem s_var {σ : St} {H : Hp} {Q : VK} {i : Nat} {v : V} (e : σ[i]? = some (some v)) (h : Q v H) : wE S F W (.var i) σ H Q := by
  unfold wE; rw [e]; exact h
theorem s_cst {σ : St} {H : Hp} {Q : VK} {x : Str} {v : V} (e : S.gv x = some v) (h : Q v H) : wE S F W (.cst x) σ H Q := by
  unfold wE; rw [e]; exact h
theorem s_op {σ : St} {H : Hp} {Q : VK} {o : Operator} {a b : Ex} (h : wE S F W a σ H fun x H1 => wE S F W b σ H1 fun y H2 => opV S.so o x y H2 Q) : wE S F W (.op o a b) σ H Q := by
  unfold wE; exact h
theorem s_neg {σ : St} {H : Hp} {Q : VK} {a : Ex} (h : wE S F W a σ H fun x H1 => intK x fun i => Q (.int (-i)) H1) : wE S F W (.neg a) σ H Q := by
  unfold wE; exact h
theorem s_cmp {σ : St} {H : Hp} {Q : VK} {o : CmpOp} {a b : Ex} (h : wE S F W a σ H fun x H1 => wE S F W b σ H1 fun y H2 => cmpV S.so o x y H2 Q) : wE S F W (.cmp o a b) σ H Q := by
  unfold wE; exact h
theorem s_chn {σ : St} {H : Hp} {Q : VK} {o o' : CmpOp} {a b c : Ex} (h : wE S F W a σ H fun x H1 => wE S F W b σ H1 fun y H2 => cmpV S.so o x y H2 (boolV fun k H3 => if k = true then wE S F W c σ H3 fun z H4 => cmpV S.so o' y z H4 Q else Q (.bl false) H3)) : wE S F W (.chn o o' a b c) σ H Q := by
  unfold wE; exact h
theorem s_and {σ : St} {H : Hp} {Q : VK} {a b : Ex} (h : wE S F W a σ H fun x H1 => truK S.so x H1 fun k => if k = true then wE S F W b σ H1 Q else Q x H1) : wE S F W (.and a b) σ H Q := by
  unfold wE; exact h
theorem s_or {σ : St} {H : Hp} {Q : VK} {a b : Ex} (h : wE S F W a σ H fun x H1 => truK S.so x H1 fun k => if k = true then Q x H1 else wE S F W b σ H1 Q) : wE S F W (.or a b) σ H Q := by
  unfold wE; exact h
theorem s_not {σ : St} {H : Hp} {Q : VK} {a : Ex} (h : wE S F W a σ H fun x H1 => truK S.so x H1 fun k => Q (.bl (!k)) H1) : wE S F W (.not a) σ H Q := by
  unfold wE; exact h
theorem s_ite {σ : St} {H : Hp} {Q : VK} {t : Te} {a b : Ex} (h : wT S F W t σ H fun k H1 => if k = true then wE S F W a σ H1 Q else wE S F W b σ H1 Q) : wE S F W (.ite t a b) σ H Q := by
  unfold wE; exact h
theorem s_fld {σ : St} {H : Hp} {Q : VK} {o : Ex} {f : Str} (h : wE S F W o σ H fun x H1 => fldV S f x H1 Q) : wE S F W (.fld o f) σ H Q := by
  unfold wE; exact h
theorem s_idx {σ : St} {H : Hp} {Q : VK} {o i : Ex} (h : wE S F W o σ H fun x H1 => wE S F W i σ H1 fun y H2 => idxV S.so x y H2 Q) : wE S F W (.idx o i) σ H Q := by
  unfold wE; exact h
theorem s_slc {σ : St} {H : Hp} {Q : VK} {o : Ex} {lo hi : Ox} (h : wE S F W o σ H fun x H1 => wO S F W lo σ H1 fun a H2 => wO S F W hi σ H2 fun b H3 => slcV S.so x a b H3 Q) : wE S F W (.slc o lo hi) σ H Q := by
  unfold wE; exact h
theorem s_lst {σ : St} {H : Hp} {Q : VK} {es : Exs} (h : wA S F W es σ H fun xs H1 => xs.length ≤ sizeLine ∧ ∀ p, H1 p = none → S.so p = none → Q (.ref p) (upd H1 p (.lst xs))) : wE S F W (.lst es) σ H Q := by
  unfold wE; exact h
theorem s_tup {σ : St} {H : Hp} {Q : VK} {es : Exs} (h : wA S F W es σ H fun xs H1 => xs.length ≤ sizeLine ∧ ∀ p, H1 p = none → S.so p = none → Q (.ref p) (upd H1 p (.tup xs))) : wE S F W (.tup es) σ H Q := by
  unfold wE; exact h
theorem s_fn {σ : St} {H : Hp} {Q : VK} {f : Str} {es : Exs} (h : wA S F W es σ H fun vs H1 => F.fn f vs H1 Q (fun c d H' => W c d σ H')) : wE S F W (.fn f es) σ H Q := by
  unfold wE; exact h
theorem s_bi {σ : St} {H : Hp} {Q : VK} {b : Bi} {es : Exs} (h : wA S F W es σ H fun vs H1 => biV S.so b vs H1 Q) : wE S F W (.bi b es) σ H Q := by
  unfold wE; exact h
theorem s_isi {σ : St} {H : Hp} {Q : VK} {a : Ex} {T : Bt} (h : wE S F W a σ H fun x H1 => btK S.so T x H1 fun k => Q (.bl k) H1) : wE S F W (.isi a T) σ H Q := by
  unfold wE; exact h
theorem s_isx {σ : St} {H : Hp} {Q : VK} {a : Ex} {c : Str} (h : wE S F W a σ H fun x H1 => isxK S c x H1 fun k => Q (.bl k) H1) : wE S F W (.isx a c) σ H Q := by
  rw [wE]; exact h
theorem s_mkx {σ : St} {H : Hp} {Q : VK} {c : Str} {es : Exs} (h : wA S F W es σ H fun vs H1 => mkxV S c vs H1 Q) : wE S F W (.mkx c es) σ H Q := by
  rw [wE]; exact h
theorem s_dct0 {σ : St} {H : Hp} {Q : VK} (h : ∀ p, H p = none → S.so p = none → Q (.ref p) (upd H p (.dK []))) : wE S F W .dct0 σ H Q := by
  rw [wE]; exact h
theorem s_met {σ : St} {H : Hp} {Q : VK} {o : Ex} {m : Str} {es : Exs} (h : wE S F W o σ H fun x H1 => metK S m x H1 fun g => wA S F W es σ H1 fun vs H2 => F.fn g (x :: vs) H2 Q (fun c d H' => W c d σ H')) : wE S F W (.met o m es) σ H Q := by
  rw [wE]; exact h
theorem s_bm {σ : St} {H : Hp} {Q : VK} {o : Ex} {m : Bm} {es : Exs} (h : wE S F W o σ H fun x H1 => bmTyK S m x H1 ∧ wA S F W es σ H1 fun vs H2 => bmV S m x vs H2 Q) : wE S F W (.bm m o es) σ H Q := by
  rw [wE]; exact h
theorem s_mkC {σ : St} {H : Hp} {Q : VK} {c : Str} {ks : List Str} {es : Exs} (h : wA S F W es σ H fun vs H1 => mkK S F c ks vs H1 Q (fun c d H' => W c d σ H')) : wE S F W (.mkC c ks es) σ H Q := by
  rw [wE]; exact h
theorem s_nil {σ : St} {H : Hp} {Q : List V → Hp → Prop} (h : Q [] H) : wA S F W .nil σ H Q := by
  unfold wA; exact h
theorem s_cons {σ : St} {H : Hp} {Q : List V → Hp → Prop} {a : Ex} {es : Exs} (h : wE S F W a σ H fun x H1 => wA S F W es σ H1 fun xs H2 => Q (x :: xs) H2) : wA S F W (.cons a es) σ H Q := by
  unfold wA; exact h
theorem s_ono {σ : St} {H : Hp} {Q : Option Int → Hp → Prop} (h : Q none H) : wO S F W .none σ H Q := by
  unfold wO; exact h
theorem s_osome {σ : St} {H : Hp} {Q : Option Int → Hp → Prop} {a : Ex} (h : wE S F W a σ H fun x H1 => intK x fun i => Q (some i) H1) : wO S F W (.some a) σ H Q := by
  unfold wO; exact h
theorem t_val {σ : St} {H : Hp} {Q : Bool → Hp → Prop} {a : Ex} (h : wE S F W a σ H fun x H1 => truK S.so x H1 fun k => Q k H1) : wT S F W (.val a) σ H Q := by
  unfold wT; exact h
theorem t_cmp {σ : St} {H : Hp} {Q : Bool → Hp → Prop} {o : CmpOp} {a b : Ex} (h : wE S F W a σ H fun x H1 => wE S F W b σ H1 fun y H2 => cmpV S.so o x y H2 (boolV Q)) : wT S F W (.cmp o a b) σ H Q := by
  unfold wT; exact h
theorem t_chn {σ : St} {H : Hp} {Q : Bool → Hp → Prop} {o o' : CmpOp} {a b c : Ex} (h : wE S F W a σ H fun x H1 => wE S F W b σ H1 fun y H2 => cmpV S.so o x y H2 (boolV fun k H3 => if k = true then wE S F W c σ H3 fun z H4 => cmpV S.so o' y z H4 (boolV Q) else Q false H3)) : wT S F W (.chn o o' a b c) σ H Q := by
  unfold wT; exact h
theorem t_and {σ : St} {H : Hp} {Q : Bool → Hp → Prop} {a b : Te} (h : wT S F W a σ H fun k H1 => if k = true then wT S F W b σ H1 Q else Q false H1) : wT S F W (.and a b) σ H Q := by
  unfold wT; exact h
theorem t_or {σ : St} {H : Hp} {Q : Bool → Hp → Prop} {a b : Te} (h : wT S F W a σ H fun k H1 => if k = true then Q true H1 else wT S F W b σ H1 Q) : wT S F W (.or a b) σ H Q := by
  unfold wT; exact h
theorem t_not {σ : St} {H : Hp} {Q : Bool → Hp → Prop} {a : Te} (h : wT S F W a σ H fun k H1 => Q (!k) H1) : wT S F W (.not a) σ H Q := by
  unfold wT; exact h
theorem d_asg {D : Ends} {σ : St} {H : Hp} {i : Nat} {a : Ex} (h : wE S F W a σ H fun x H1 => D.nx (σ.set i (some x)) H1) : wS S F W (.asg i a) D σ H := by
  rw [wS]; exact h
theorem d_setI {D : Ends} {σ : St} {H : Hp} {o i a : Ex} (h : wE S F W a σ H fun x H1 => wE S F W o σ H1 fun y H2 => wE S F W i σ H2 fun z H3 => setV y z x H3 fun H4 => D.nx σ H4) : wS S F W (.setI o i a) D σ H := by
  rw [wS]; exact h
theorem d_setF {D : Ends} {σ : St} {H : Hp} {o a : Ex} {f : Str} (h : wE S F W a σ H fun y H1 => wE S F W o σ H1 fun x H2 => setFV S f x y H2 fun H3 => D.nx σ H3) : wS S F W (.setF o f a) D σ H := by
  rw [wS]; exact h
theorem d_par {D : Ends} {σ : St} {H : Hp} {is : List Nat} {es : Exs} (h : wA S F W es σ H fun vs H1 => parK (setL is vs σ) fun σ' => D.nx σ' H1) : wS S F W (.par is es) D σ H := by
  rw [wS]; exact h
theorem d_exp {D : Ends} {σ : St} {H : Hp} {a : Ex} (h : wE S F W a σ H fun _ H1 => D.nx σ H1) : wS S F W (.exp a) D σ H := by
  rw [wS]; exact h
theorem d_ret {D : Ends} {σ : St} {H : Hp} {a : Ex} (h : wE S F W a σ H D.rt) : wS S F W (.ret a) D σ H := by
  rw [wS]; exact h
theorem d_retN {D : Ends} {σ : St} {H : Hp}  (h : D.rt .non H) : wS S F W .retN D σ H := by
  rw [wS]; exact h
theorem d_ifs {D : Ends} {σ : St} {H : Hp} {t : Te} {a b : Sxs} (h : wT S F W t σ H fun k H1 => if k = true then wSs S F W a D σ H1 else wSs S F W b D σ H1) : wS S F W (.ifs t a b) D σ H := by
  rw [wS]; exact h
theorem d_rng {D : Ends} {σ : St} {H : Hp} {i : Nat} {lo hi : Ex} {b : Sxs} (h : wE S F W lo σ H fun x H1 => wE S F W hi σ H1 fun y H2 => intK x fun l => intK y fun h => lpR (gName i) (wSs S F W b) D (h - l).toNat l σ H2) : wS S F W (.rng i lo hi b) D σ H := by
  rw [wS]; exact h
theorem d_forL {D : Ends} {σ : St} {H : Hp} {t : Tg} {a : Ex} {b : Sxs} (h : wE S F W a σ H fun x H1 => lstK S.so x H1 fun a xs => lpL S.so a xs (gT S.so t) (wSs S F W b) D xs σ H1) : wS S F W (.forL t a b) D σ H := by
  rw [wS]; exact h
theorem d_pass {D : Ends} {σ : St} {H : Hp}  (h : D.nx σ H) : wS S F W .pass D σ H := by
  rw [wS]; exact h
theorem d_rai {D : Ends} {σ : St} {H : Hp} {c : Str} {es : Exs} (h : wA S F W es σ H fun vs H1 => raiV S c vs H1 fun c d H' => W c d σ H') : wS S F W (.rai c es) D σ H := by
  rw [wS]; exact h
theorem d_trx {D : Ends} {σ : St} {H : Hp} {b : Sxs} {cs : List Str} {i j : Nat} (h : wSs S F (trW S cs i j D) b D σ H) : wS S F W (.trx b cs i j) D σ H := by
  rw [wS]; exact h
theorem d_unp {D : Ends} {σ : St} {H : Hp} {is : List Nat} {a : Ex} (h : wE S F W a σ H fun x H1 => gT S.so (.tp is) x σ H1 D.nx) : wS S F W (.unp is a) D σ H := by
  rw [wS]; exact h
theorem d_aug {D : Ends} {σ : St} {H : Hp} {i : Nat} {o : Operator} {a : Ex} {v : V} (e : σ[i]? = some (some v)) (h : wE S F W a σ H fun x H1 => augV o v x H1 fun y H2 => D.nx (σ.set i (some y)) H2) : wS S F W (.aug i o a) D σ H := by
  rw [wS]; unfold varK; simp only [e]; exact h
theorem d_nil {D : Ends} {σ : St} {H : Hp} (h : D.nx σ H) : wSs S F W .nil D σ H := by
  rw [wSs]; exact h
theorem d_cons {D : Ends} {σ : St} {H : Hp} {s : Sx} {r : Sxs} (h : wS S F W s { D with nx := wSs S F W r D } σ H) : wSs S F W (.cons s r) D σ H := by
  rw [wSs]; exact h
end
section
variable {so : Addr → Option HO} {H : Hp} {Q : VK}
theorem v_add {i j : Int} (h : Q (.int (i + j)) H) : opV so .Add (.int i) (.int j) H Q := h
theorem v_addS {i j : Str} (e : i.length + j.length ≤ sizeLine) (h : Q (.str (i ++ j)) H) : opV so .Add (.str i) (.str j) H Q := ⟨e, h⟩
theorem v_addL {p q : Addr} {xs ys : List V} (hp : H p = some (.lst xs)) (hq : H q = some (.lst ys)) (e : xs.length + ys.length ≤ sizeLine) (h : ∀ r, H r = none → so r = none → Q (.ref r) (upd H r (.lst (xs ++ ys)))) : opV so .Add (.ref p) (.ref q) H Q := by
  show addV so (.ref p) (.ref q) H Q
  unfold addV
  simp only [hp, hq]
  exact ⟨e, h⟩
theorem v_sub {i j : Int} (h : Q (.int (i - j)) H) : opV so .Sub (.int i) (.int j) H Q := h
theorem v_mul {i j : Int} (e : CMul i j) (h : Q (.int (i * j)) H) : opV so .Mult (.int i) (.int j) H Q := ⟨e, h⟩
theorem v_div {i j : Int} (e : CDiv i j) (h : Q (.int (i / j)) H) : opV so .FloorDiv (.int i) (.int j) H Q := ⟨e, h⟩
theorem v_mod {i j : Int} (e : 0 < j) (h : Q (.int (i % j)) H) : opV so .Mod (.int i) (.int j) H Q := ⟨e, h⟩
theorem v_pow {i j : Int} (e : CPow i j) (h : Q (.int (i ^ j.toNat)) H) : opV so .Pow (.int i) (.int j) H Q := ⟨e, h⟩
theorem v_shl {i j : Int} (e : CPow i j) (h : Q (.int (i * 2 ^ j.toNat)) H) : opV so .LShift (.int i) (.int j) H Q := ⟨e, h⟩
theorem v_lt {i j : Int} (h : Q (.bl (decide (i < j))) H) : cmpV so .Lt (.int i) (.int j) H Q := h
theorem v_le {i j : Int} (h : Q (.bl (decide (i ≤ j))) H) : cmpV so .LtE (.int i) (.int j) H Q := h
theorem v_gt {i j : Int} (h : Q (.bl (decide (j < i))) H) : cmpV so .Gt (.int i) (.int j) H Q := h
theorem v_ge {i j : Int} (h : Q (.bl (decide (j ≤ i))) H) : cmpV so .GtE (.int i) (.int j) H Q := h
theorem bdec {i j : Int} : (i == j) = decide (i = j) := by
  by_cases e : i = j
  · subst e; simp
  · simp [e]
theorem v_eq {i j : Int} (h : Q (.bl (decide (i = j))) H) : cmpV so .Eq (.int i) (.int j) H Q := by
  show Q (.bl ((i == j) != false)) H
  rw [bdec]
  simpa using h
theorem v_ne {i j : Int} (h : Q (.bl (!decide (i = j))) H) : cmpV so .NotEq (.int i) (.int j) H Q := by
  show Q (.bl ((i == j) != true)) H
  rw [bdec]
  simpa using h
theorem v_eqS {i j : Str} (h : Q (.bl (decide (i = j))) H) : cmpV so .Eq (.str i) (.str j) H Q := by
  show Q (.bl (decide (i = j) != false)) H
  simpa using h
theorem v_neS {i j : Str} (h : Q (.bl (!decide (i = j))) H) : cmpV so .NotEq (.str i) (.str j) H Q := by
  show Q (.bl (decide (i = j) != true)) H
  simpa using h
theorem v_isB {i j : Bool} (h : Q (.bl (decide (i = j))) H) : cmpV so .Is (.bl i) (.bl j) H Q := by
  show Q (.bl (decide (i = j) != false)) H
  simpa using h
theorem v_notB {i j : Bool} (h : Q (.bl (!decide (i = j))) H) : cmpV so .IsNot (.bl i) (.bl j) H Q := by
  show Q (.bl (decide (i = j) != true)) H
  simpa using h
theorem v_isN {x : V} (h : Q (.bl (decide (x = .non))) H) : cmpV so .Is x .non H Q := by
  show isV false x .non H Q
  unfold isV
  simpa using h
theorem v_notN {x : V} (h : Q (.bl (!decide (x = .non))) H) : cmpV so .IsNot x .non H Q := by
  show isV true x .non H Q
  unfold isV
  simpa using h
theorem v_bool {B : Bool → Hp → Prop} {k : Bool} (h : B k H) : boolV B (.bl k) H := h
theorem v_trB {B : Bool → Prop} {k : Bool} (h : B k) : truK so (.bl k) H B := h
theorem v_trI {B : Bool → Prop} {i : Int} (h : B (i != 0)) : truK so (.int i) H B := h
theorem v_trN {B : Bool → Prop} (h : B false) : truK so .non H B := h
theorem v_int {B : Int → Prop} {i : Int} (h : B i) : intK (.int i) B := h
theorem v_btI {B : Bool → Prop} {i : Int} {T : Bt} (h : B (tInt T)) : btK so T (.int i) H B := h
theorem v_btB {B : Bool → Prop} {i : Bool} {T : Bt} (h : B (tBl T)) : btK so T (.bl i) H B := h
theorem v_btN {B : Bool → Prop} {T : Bt} (h : B false) : btK so T .non H B := h
theorem v_btS {B : Bool → Prop} {i : Str} {T : Bt} (h : B (tStr T)) : btK so T (.str i) H B := h
theorem v_idx {p : Addr} {xs : List V} {i : Int} {v : V} (hp : rd so H p = some (.lst xs)) (e : atI xs i = some v) (h : Q v H) : idxV so (.ref p) (.int i) H Q := by
  unfold idxV
  simp only [hp, e]
  exact h
theorem v_idxT {p : Addr} {xs : List V} {i : Int} {v : V} (hp : rd so H p = some (.tup xs)) (e : atI xs i = some v) (h : Q v H) : idxV so (.ref p) (.int i) H Q := by
  unfold idxV
  simp only [hp, e]
  exact h
theorem v_slc {p : Addr} {xs : List V} {lo hi : Option Int} (hp : rd so H p = some (.lst xs)) (h : ∀ r, H r = none → so r = none → Q (.ref r) (upd H r (.lst (cutV xs lo hi)))) : slcV so (.ref p) lo hi H Q := by
  unfold slcV lstV
  simp only [hp]
  exact h
theorem v_setL {B : Hp → Prop} {p : Addr} {xs : List V} {k : Int} {j : Nat} {v : V} (hp : H p = some (.lst xs)) (e : ixN xs.length k = some j) (h : B (upd H p (.lst (xs.set j v)))) : setV (.ref p) (.int k) v H B := by
  unfold setV
  simp only [hp, e]
  exact h
theorem v_lenL {p : Addr} {xs : List V} (hp : rd so H p = some (.lst xs)) (h : Q (.int xs.length) H) : biV so .len [.ref p] H Q := by
  show bLen so [.ref p] H Q
  unfold bLen lenV
  simp only [hp]
  exact h
theorem v_min {i j : Int} (h : Q (.int (if j < i then j else i)) H) : biV so .min [.int i, .int j] H Q := h
theorem v_max {i j : Int} (h : Q (.int (if j > i then j else i)) H) : biV so .max [.int i, .int j] H Q := h
theorem v_abs {i : Int} (h : Q (.int (if i < 0 then -i else i)) H) : biV so .abs [.int i] H Q := h
theorem v_intB {i : Bool} (h : Q (.int (if i then 1 else 0)) H) : biV so .int [.bl i] H Q := h
theorem v_intI {i : Int} (h : Q (.int i) H) : biV so .int [.int i] H Q := h
theorem v_repr {x : V} {d : PyData} (e : Dd so H x d) (h1 : d.showable = true) (h2 : d.hasDict = false) (h3 : d.depth ≤ 60) (h4 : d.shown.length ≤ sizeLine) (h : Q (.str d.shown) H) : biV so .repr [x] H Q := .inl ⟨d, e, h1, h2, h3, h4, h⟩
theorem v_repr0 {a : Addr} (e : H a = some (.dK [])) (h : Q (.str "{}") H) : biV so .repr [.ref a] H Q := .inr ⟨a, rfl, e, h⟩
theorem v_par {B : St → Prop} {σ : St} (h : B σ) : parK (some σ) B := h
theorem v_ifT {A B : Prop} (h : A) : if true = true then A else B := by rw [if_pos rfl]; exact h
theorem v_ifF {A B : Prop} (h : B) : if false = true then A else B := by rw [if_neg Bool.false_ne_true]; exact h
theorem v_dec {p A B : Prop} [Decidable p] (h1 : p → A) (h2 : ¬ p → B) : if decide p = true then A else B := by
  by_cases h : p
  · rw [if_pos (decide_eq_true h)]; exact h1 h
  · rw [if_neg (by simpa using h)]; exact h2 h
theorem v_decP {p A B : Prop} [Decidable p] (h : p) (h1 : A) : if decide p = true then A else B := v_dec (fun _ => h1) fun n => absurd h n
theorem v_decN {p A B : Prop} [Decidable p] (h : ¬ p) (h1 : B) : if decide p = true then A else B := v_dec (fun n => absurd n h) fun _ => h1
theorem v_nec {p A B : Prop} [Decidable p] (h1 : ¬ p → A) (h2 : p → B) : if (!decide p) = true then A else B := by
  by_cases h : p
  · rw [if_neg (by simpa using h)]; exact h2 h
  · rw [if_pos (by simpa using h)]; exact h1 h
theorem v_btI_int {B : Bool → Prop} {i : Int} (h : B true) : btK so .int (.int i) H B := h
theorem v_btI_bool {B : Bool → Prop} {i : Int} (h : B false) : btK so .bool (.int i) H B := h
theorem v_btI_str {B : Bool → Prop} {i : Int} (h : B false) : btK so .str (.int i) H B := h
theorem v_btI_list {B : Bool → Prop} {i : Int} (h : B false) : btK so .list (.int i) H B := h
theorem v_btI_tuple {B : Bool → Prop} {i : Int} (h : B false) : btK so .tuple (.int i) H B := h
theorem v_btB_int {B : Bool → Prop} {i : Bool} (h : B true) : btK so .int (.bl i) H B := h
theorem v_btB_bool {B : Bool → Prop} {i : Bool} (h : B true) : btK so .bool (.bl i) H B := h
theorem v_btB_str {B : Bool → Prop} {i : Bool} (h : B false) : btK so .str (.bl i) H B := h
theorem v_btB_list {B : Bool → Prop} {i : Bool} (h : B false) : btK so .list (.bl i) H B := h
theorem v_btB_tuple {B : Bool → Prop} {i : Bool} (h : B false) : btK so .tuple (.bl i) H B := h
theorem v_btS_int {B : Bool → Prop} {i : Str} (h : B false) : btK so .int (.str i) H B := h
theorem v_btS_bool {B : Bool → Prop} {i : Str} (h : B false) : btK so .bool (.str i) H B := h
theorem v_btS_str {B : Bool → Prop} {i : Str} (h : B true) : btK so .str (.str i) H B := h
theorem v_btS_list {B : Bool → Prop} {i : Str} (h : B false) : btK so .list (.str i) H B := h
theorem v_btS_tuple {B : Bool → Prop} {i : Str} (h : B false) : btK so .tuple (.str i) H B := h
theorem v_btL_int {B : Bool → Prop} {p : Addr} {xs : List V} (e : H p = some (.lst xs)) (h : B false) : btK so .int (.ref p) H B := by
  unfold btK btV
  simp only [e]
  exact h
theorem v_btL_bool {B : Bool → Prop} {p : Addr} {xs : List V} (e : H p = some (.lst xs)) (h : B false) : btK so .bool (.ref p) H B := by
  unfold btK btV
  simp only [e]
  exact h
theorem v_btL_str {B : Bool → Prop} {p : Addr} {xs : List V} (e : H p = some (.lst xs)) (h : B false) : btK so .str (.ref p) H B := by
  unfold btK btV
  simp only [e]
  exact h
theorem v_btL_list {B : Bool → Prop} {p : Addr} {xs : List V} (e : H p = some (.lst xs)) (h : B true) : btK so .list (.ref p) H B := by
  unfold btK btV
  simp only [e]
  exact h
theorem v_btL_tuple {B : Bool → Prop} {p : Addr} {xs : List V} (e : H p = some (.lst xs)) (h : B false) : btK so .tuple (.ref p) H B := by
  unfold btK btV
  simp only [e]
  exact h
theorem v_btT_int {B : Bool → Prop} {p : Addr} {xs : List V} (e : H p = some (.tup xs)) (h : B false) : btK so .int (.ref p) H B := by
  unfold btK btV
  simp only [e]
  exact h
theorem v_btT_bool {B : Bool → Prop} {p : Addr} {xs : List V} (e : H p = some (.tup xs)) (h : B false) : btK so .bool (.ref p) H B := by
  unfold btK btV
  simp only [e]
  exact h
theorem v_btT_str {B : Bool → Prop} {p : Addr} {xs : List V} (e : H p = some (.tup xs)) (h : B false) : btK so .str (.ref p) H B := by
  unfold btK btV
  simp only [e]
  exact h
theorem v_btT_list {B : Bool → Prop} {p : Addr} {xs : List V} (e : H p = some (.tup xs)) (h : B false) : btK so .list (.ref p) H B := by
  unfold btK btV
  simp only [e]
  exact h
theorem v_btT_tuple {B : Bool → Prop} {p : Addr} {xs : List V} (e : H p = some (.tup xs)) (h : B true) : btK so .tuple (.ref p) H B := by
  unfold btK btV
  simp only [e]
  exact h
theorem v_ifNT {A B : Prop} (h : B) : if (!true) = true then A else B := v_ifF h
theorem v_ifNF {A B : Prop} (h : A) : if (!false) = true then A else B := v_ifT h
end
end QL
set_option Elab.async false
set_option linter.all false
set_option maxRecDepth 100000
set_option maxHeartbeats 4000000
/-! Q15: values of any kind: what they are asked, what they show. -/
namespace QL
open PySem PySem.Spec
open L2 hiding wE wT
open PyProof.Rows hiding St
section
variable {so : Addr → Option HO} {H H' : Hp}
mutual
theorem Dd.ext (e : Ext so H H') : ∀ {v : V} {d : PyData}, Dd so H v d → Dd so H' v d
  | _, _, .sc h => .sc h
  | _, _, .lst h t => .lst (e.rd h) (Dds.ext e t)
  | _, _, .tup h t => .tup (e.rd h) (Dds.ext e t)
theorem Dds.ext (e : Ext so H H') : ∀ {v : List V} {d : List PyData}, Dds so H v d → Dds so H' v d
  | _, _, .nil => .nil
  | _, _, .cons h t => .cons (Dd.ext e h) (Dds.ext e t)
end
/-- x shows as z -/
def Sh (so : Addr → Option HO) (H : Hp) (x : V) (z : Str) : Prop := (∃ d, Dd so H x d ∧ d.showable = true ∧ d.hasDict = false ∧ d.depth ≤ 60 ∧ d.shown.length ≤ sizeLine ∧ z = d.shown) ∨ ∃ a, x = .ref a ∧ H a = some (.dK []) ∧ z = "{}"
theorem Sh.ext (e : Ext so H H') {x : V} {z : Str} (h : Sh so H x z) : Sh so H' x z := by
  rcases h with ⟨d, h1, h2, h3, h4, h5, h6⟩ | ⟨a, h1, h2, h3⟩
  · exact .inl ⟨d, h1.ext e, h2, h3, h4, h5, h6⟩
  · exact .inr ⟨a, h1, e.keep _ _ h2, h3⟩
theorem v_sh {Q : VK} {x : V} {z : Str} (h : Sh so H x z) (q : Q (.str z) H) : biV so .repr [x] H Q := by
  rcases h with ⟨d, h1, h2, h3, h4, h5, rfl⟩ | ⟨a, rfl, h2, rfl⟩
  · exact .inl ⟨d, h1, h2, h3, h4, h5, q⟩
  · exact .inr ⟨a, rfl, h2, q⟩
/-- x is of a kind that isinstance tells -/
inductive Kd (H : Hp) : V → Prop
  | non : Kd H .non
  | bl (b : Bool) : Kd H (.bl b)
  | int (i : Int) : Kd H (.int i)
  | str (s : Str) : Kd H (.str s)
  | lst {p : Addr} {xs : List V} : H p = some (.lst xs) → Kd H (.ref p)
  | tup {p : Addr} {xs : List V} : H p = some (.tup xs) → Kd H (.ref p)
  | dK {p : Addr} {xs : List (Key × V)} : H p = some (.dK xs) → Kd H (.ref p)
theorem Kd.ext (e : Ext so H H') {x : V} (h : Kd H x) : Kd H' x := by
  cases h with
  | non => exact .non
  | bl b => exact .bl b
  | int b => exact .int b
  | str b => exact .str b
  | lst h => exact .lst (e.keep _ _ h)
  | tup h => exact .tup (e.keep _ _ h)
  | dK h => exact .dK (e.keep _ _ h)
/-- the number that a value is -/
def asI : V → Option Int
  | .int i => some i
  | _ => none
/-- whether it is a whole number from l to m -/
def inR (x : V) (l m : Int) : Bool := match x with
  | .int i => decide (l ≤ i ∧ i ≤ m)
  | _ => false
theorem v_bt {B : Bool → Prop} {x : V} {T : Bt} {b : Bool} (e : btV so H T x = some b) (h : B b) : btK so T x H B := by
  unfold btK
  rw [e]
  exact h
theorem kd_bt {x : V} (h : Kd H x) (n : ∀ i, x ≠ .int i) : btV so H .int x = some false ∨ (btV so H .int x = some true ∧ btV so H .bool x = some true) := by
  cases h with
  | non => exact .inl rfl
  | bl b => exact .inr ⟨rfl, rfl⟩
  | int i => exact absurd rfl (n i)
  | str s => exact .inl rfl
  | lst e => exact .inl (by simp only [btV, e]; rfl)
  | tup e => exact .inl (by simp only [btV, e]; rfl)
  | dK e => exact .inl (by simp only [btV, e])
end
section
variable {S : Stat} {H H' : Hp}
theorem Xd.ext {so : Addr → Option HO} (e : Ext so H H') {d : Option Addr} {fs : List (Str × V)} (h : Xd H d fs) : Xd H' d fs := by
  cases d with
  | none => exact h
  | some dd => exact e.keep _ _ h
theorem Xat.ext {so : Addr → Option HO} (e : Ext so H H') {a C : Addr} {fs : List (Str × V)} (h : Xat H a C fs) : Xat H' a C fs := by
  obtain ⟨d, h1, h2⟩ := h
  exact ⟨d, e.keep _ _ h1, h2.ext e⟩
theorem v_isx {B : Bool → Prop} {a C : Addr} {fs : List (Str × V)} {c : Str} {b : Bool} (x : Xat H a C fs) (e : S.isa C c = some b) (h : B b) : isxK S c (.ref a) H B := by
  obtain ⟨d, h1, h2⟩ := x
  have h3 := h1
  unfold exV at h1
  unfold isxK
  simp only [h1]
  exact ⟨C, fs, b, ⟨d, h3, h2⟩, e, h⟩
theorem v_xfld {Q : VK} {a C : Addr} {fs : List (Str × V)} {f : Str} {v : V} (x : Xat H a C fs) (e : S.xf C f) (l : fs.lookup f = some v) (h : Q v H) : fldV S f (.ref a) H Q := by
  obtain ⟨d, h1, h2⟩ := x
  have h3 := h1
  unfold exV at h1
  unfold fldV
  simp only [h1]
  exact ⟨C, fs, v, ⟨d, h3, h2⟩, e, l, h⟩
theorem v_rai {B : XK} {x : Str} {C : Addr} {g : Str} {v : V} (e : S.xc x = some (C, some g)) (h : ∀ d, H d = none → S.so d = none → B (.ref C) (some d) (upd H d (.xd [(g, v)]))) : raiV S x [v] H B := by
  unfold raiV
  simp only [e]
  exact h
theorem v_count {Q : VK} {p : Addr} {ys : List V} {k : V} (hp : rd S.so H p = some (.lst ys)) (f1 : flatV k = true) (f2 : ys.all flatV = true) (h : Q (.int (ys.countP (fun y => eqV y k) : Nat)) H) : bmV S .count (.ref p) [k] H Q := by
  show mCount S (.ref p) [k] H Q
  unfold mCount
  simp only [hp]
  exact ⟨f1, f2, h⟩
theorem v_bmty {p : Addr} {ys : List V} {m : Bm} (hp : rd S.so H p = some (.lst ys)) : bmTyK S m (.ref p) H := by
  unfold bmTyK
  simp only [hp]
/-- == of two lists or tuples by what they show -/
theorem v_eqD {Q : VK} {so : Addr → Option HO} {x y : V} {d e : PyData} (hx : Dd so H x d) (hy : Dd so H y e) (s1 : SeqAt.shaped d = true) (s2 : SeqAt.shaped e = true) (p : ∃ a, x = .ref a) (h : Q (.bl (PyData.eqv d e)) H) : cmpV so .Eq x y H Q := by
  obtain ⟨a, rfl⟩ := p
  show eqD so false (.ref a) y H Q
  unfold eqD
  simp only [scN]
  exact ⟨d, e, hx, hy, s1, s2, by simpa using h⟩
theorem v_neD {Q : VK} {so : Addr → Option HO} {x y : V} {d e : PyData} (hx : Dd so H x d) (hy : Dd so H y e) (s1 : SeqAt.shaped d = true) (s2 : SeqAt.shaped e = true) (p : ∃ a, x = .ref a) (h : Q (.bl (!PyData.eqv d e)) H) : cmpV so .NotEq x y H Q := by
  obtain ⟨a, rfl⟩ := p
  show eqD so true (.ref a) y H Q
  unfold eqD
  simp only [scN]
  exact ⟨d, e, hx, hy, s1, s2, by cases hh : PyData.eqv d e <;> simpa [hh] using h⟩
end
section
variable {so : Addr → Option HO} {H : Hp}
theorem v_lstK {B : Addr → List V → Prop} {p : Addr} {xs : List V} (hp : rd so H p = some (.lst xs)) (h : B p xs) : lstK so (.ref p) H B := by
  unfold lstK
  simp only [hp]
  exact h
/-- a loop over a list that stays, by what holds between two turns -/
theorem lpL_inv {a : Addr} {xs : List V} {t : Tg} {tb : TS} {D : Ends} (m : TSle tb tb) (Pv : Nat → St → Hp → Prop) (hr : ∀ i σ H, Pv i σ H → rd so H a = some (.lst xs))
    (hs : ∀ i x σ H, xs[i]? = some x → Pv i σ H → gT so t x σ H fun σ2 H2 => tb { D with nx := Pv (i + 1), ct := Pv (i + 1), bk := D.nx } σ2 H2) (hd : ∀ σ H, Pv xs.length σ H → D.nx σ H) :
    ∀ (r : List V) (i : Nat) (σ : St) (H : Hp), xs.drop i = r → i ≤ xs.length → Pv i σ H → lpL so a xs (gT so t) tb D r σ H
  | [], i, σ, H, e, hi, h => by
    have : i = xs.length := Nat.le_antisymm hi (List.drop_eq_nil_iff.mp e)
    subst this
    exact ⟨hr _ _ _ h, hd _ _ h⟩
  | x :: r, i, σ, H, e, hi, h => by
    have hx : xs[i]? = some x := by
      have := List.getElem?_drop (xs := xs) (i := i) (j := 0)
      rw [e] at this
      simpa using this.symm
    have hdr : xs.drop (i + 1) = r := by
      rw [← List.tail_drop, e]
      rfl
    have hlt : i + 1 ≤ xs.length := (List.getElem?_eq_some_iff.mp hx).1
    have ih : ∀ σ H, Pv (i + 1) σ H → lpL so a xs (gT so t) tb D r σ H := fun σ' H' h' => lpL_inv m Pv hr hs hd r (i + 1) σ' H' hdr hlt h'
    refine ⟨hr _ _ _ h, gT_mono (fun σ2 H2 z => ?_) (hs i x σ H hx h)⟩
    refine m _ _ _ _ ?_ z
    exact ⟨ih, fun _ _ z => z, fun _ _ z => z, ih⟩
theorem v_gTp {p : Addr} {xs : List V} {is : List Nat} {σ σ' : St} {Q : St → Hp → Prop} (hp : rd so H p = some (.tup xs)) (e : setL is xs σ = some σ') (h : Q σ' H) : gT so (.tp is) (.ref p) σ H Q := by
  unfold gT
  simp only [hp, parK, e]
  exact h
end
/-- a try that keeps the exception: which exceptions come -/
theorem d_trx' {S : Stat} {T : Str → Option FnI} {n : Nat} {W : WX} {D : Ends} {σ : St} {H : Hp} {b : Sxs} {cs : List Str} {i j : Nat} (Wp : WX) (h : wSs S (sem S T n) Wp b D σ H) (hw : ∀ cls d σ' H', Wp cls d σ' H' → trW S cs i j D cls d σ' H') : wS S (sem S T n) W (.trx b cs i j) D σ H := by
  refine d_trx (wSs_mono (sem_mono S T n) b hw _ _ _ _ ?_ h)
  exact ⟨fun _ _ z => z, fun _ _ z => z, fun _ _ z => z, fun _ _ z => z⟩
theorem ext_none {so : Addr → Option HO} {H H' : Hp} (e : Ext so H H') {p : Addr} (h : H' p = none) : H p = none := by
  cases z : H p with
  | none => rfl
  | some o =>
    rw [e.keep _ _ z] at h
    cases h
end QL
set_option Elab.async false
set_option linter.all false
set_option maxRecDepth 100000
set_option maxHeartbeats 4000000
/-! Q16: steps for own classes, whiles, lists that grow. -/
namespace QL
open PySem PySem.Spec
open L2 hiding wE wT
open PyProof.Rows hiding St
section
variable {S : Stat} {F : Sm} {W : WX} {H : Hp} {Q : VK} {E : XK}
theorem v_fld {f : Str} {a C dx : Addr} {fs : List (Str × V)} {v : V} (ha : H a = some (.ins C dx fs)) (hf : S.fl C f) (hl : fs.lookup f = some v) (h : Q v H) : fldV S f (.ref a) H Q := by
  unfold fldV
  simp only [ha, hl]
  exact ⟨hf, h⟩
theorem v_setF {f : Str} {a C dx : Addr} {fs : List (Str × V)} {y : V} {B : Hp → Prop} (ha : H a = some (.ins C dx fs)) (hf : S.fl C f) (hl : fs.length < 1000) (h : B (upd H a (.ins C dx (putF f y fs)))) : setFV S f (.ref a) y H B := by
  unfold setFV
  simp only [ha]
  exact ⟨hf, hl, h⟩
theorem v_met {m g : Str} {a C dx : Addr} {fs : List (Str × V)} {B : Str → Prop} (ha : H a = some (.ins C dx fs)) (hl : fs.lookup m = none) (hg : S.mt C m = some g) (h : B g) : metK S m (.ref a) H B := by
  unfold metK
  simp only [ha, hg]
  exact ⟨hl, h⟩
theorem v_mkC {c g : Str} {ks : List Str} {vs ws : List V} {C : Addr} {pm : List (Nat ⊕ V)} (e : S.mkc c vs.length ks = some (C, g, pm)) (p : pmV pm vs = some ws)
    (h : ∀ x dx, H x = none → H dx = none → dx ≠ x → S.so x = none → S.so dx = none → F.fn g (.ref x :: ws) (upd (upd H dx (.own x)) x (.ins C dx [])) (fun v H2 => v = .non ∧ Q (.ref x) H2) E) : mkK S F c ks vs H Q E := by
  unfold mkK
  simp only [e, p]
  exact h
theorem v_append {p : Addr} {ys : List V} {v : V} (hp : H p = some (.lst ys)) (hl : ys.length < sizeLine) (h : Q .non (upd H p (.lst (ys ++ [v])))) : bmV S .append (.ref p) [v] H Q := by
  show mAppend (.ref p) [v] H Q
  unfold mAppend
  simp only [hp]
  exact ⟨hl, h⟩
theorem v_insert {p : Addr} {ys : List V} {v : V} (hp : H p = some (.lst ys)) (hl : ys.length < sizeLine) (h : Q .non (upd H p (.lst (v :: ys)))) : bmV S .insert (.ref p) [.int 0, v] H Q := by
  show mInsert (.ref p) [.int 0, v] H Q
  unfold mInsert
  simp only [hp]
  exact ⟨trivial, hl, h⟩
theorem v_mulL {so : Addr → Option HO} {p : Addr} {xs : List V} {k : Int} (hp : H p = some (.lst xs)) (h1 : -(2 ^ 63) ≤ k) (h2 : k < 2 ^ 63) (h3 : xs.length * k.toNat ≤ sizeLine) (h : ∀ r, H r = none → so r = none → Q (.ref r) (upd H r (.lst (List.replicate k.toNat xs).flatten))) : opV so .Mult (.ref p) (.int k) H Q := by
  show mulV so (.ref p) (.int k) H Q
  unfold mulV
  simp only [hp]
  exact ⟨h1, h2, h3, h⟩
theorem d_whl {D : Ends} {σ : St} {t : Te} {b : Sxs} (m : Nat) (h : lpW (wT S F W t) (wSs S F W b) D m σ H) : wS S F W (.whl t b) D σ H := by
  rw [wS]
  exact ⟨m, h⟩
theorem w_step {t : TT} {tb : TS} {D : Ends} {m : Nat} {σ : St} (h : t σ H fun k H1 => if k = true then tb { D with nx := lpW t tb D m, ct := lpW t tb D m, bk := D.nx } σ H1 else D.nx σ H1) : lpW t tb D (m + 1) σ H := h
end
/-- lists of plain values, as data -/
theorem dds_bl {so : Addr → Option HO} {H : Hp} : ∀ (bs : List Bool), Dds so H (bs.map V.bl) (bs.map PyData.bool)
  | [] => .nil
  | b :: bs => .cons (.sc rfl) (dds_bl bs)
theorem dds_int {so : Addr → Option HO} {H : Hp} : ∀ (bs : List Int), Dds so H (bs.map V.int) (bs.map PyData.int)
  | [] => .nil
  | b :: bs => .cons (.sc rfl) (dds_int bs)
section
variable {S : Stat} {F : Sm} {W : WX} {H : Hp} {Q : VK} {σ : St}
theorem s_lc {t : Tg} {s : Sr} {c : Te} {e : Ex} {vs : List Nat} (h : wI S F W s σ H fun xs kp H1 => ∀ D, H1 D = none → S.so D = none → lcL kp (gT S.so t) (wT S F never c) (wE S F never e) D (wipe σ vs) xs (upd H1 D (.lst [])) fun H' => Q (.ref D) H') : wE S F W (.lc t s c e vs) σ H Q := by
  rw [wE]; exact h
theorem i_rng {lo hi : Ex} {B : List V → (Hp → Prop) → Hp → Prop} (h : wE S F W lo σ H fun x H1 => wE S F W hi σ H1 fun y H2 => intK x fun l => intK y fun h => B ((List.range (h - l).toNat).map fun i => V.int (l + (i : Nat))) (fun _ => True) H2) : wI S F W (.rng lo hi) σ H B := by
  rw [wI]; exact h
theorem i_val {e : Ex} {B : List V → (Hp → Prop) → Hp → Prop} (h : wE S F W e σ H fun x H1 => seqK S.so x H1 fun xs kp => B xs kp H1) : wI S F W (.val e) σ H B := by
  rw [wI]; exact h
theorem t_yes {B : Bool → Hp → Prop} (h : B true H) : wT S F W .yes σ H B := by
  rw [wT]; exact h
theorem v_seqL {so : Addr → Option HO} {B : List V → (Hp → Prop) → Prop} {p : Addr} {xs : List V} (hp : rd so H p = some (.lst xs)) (h : B xs (fun H' => rd so H' p = some (.lst xs))) : seqK so (.ref p) H B := by
  unfold seqK
  simp only [hp]
  exact h
theorem v_seqT {so : Addr → Option HO} {B : List V → (Hp → Prop) → Prop} {p : Addr} {xs : List V} (hp : rd so H p = some (.tup xs)) (h : B xs (fun H' => rd so H' p = some (.tup xs))) : seqK so (.ref p) H B := by
  unfold seqK
  simp only [hp]
  exact h
/-- a comprehension by what holds between two turns: the items that stand in the new list, and more -/
theorem lcL_inv {so : Addr → Option HO} {kp : Hp → Prop} {t : Tg} {tt : TT} {te : TE} {D : Addr} {R : Hp → Prop} (mt : ∀ σ H Q Q', (∀ b H', Q b H' → Q' b H') → tt σ H Q → tt σ H Q') (me : ∀ σ H Q Q', (∀ b H', Q b H' → Q' b H') → te σ H Q → te σ H Q')
    {xs : List V} (Pv : Nat → Hp → Prop) (hk : ∀ i H, Pv i H → kp H)
    (hs : ∀ i x H, xs[i]? = some x → Pv i H → gT so t x σ H fun σ2 H2 => tt σ2 H2 fun b H3 => if b = true then te σ2 H3 fun y H4 => ∃ acc, H4 D = some (.lst acc) ∧ acc.length < sizeLine ∧ Pv (i + 1) (upd H4 D (.lst (acc ++ [y]))) else Pv (i + 1) H3)
    (hd : ∀ H, Pv xs.length H → R H) : ∀ (r : List V) (i : Nat) (H : Hp), xs.drop i = r → i ≤ xs.length → Pv i H → lcL kp (gT so t) tt te D σ r H R
  | [], i, H, e, hi, h => by
    have : i = xs.length := Nat.le_antisymm hi (List.drop_eq_nil_iff.mp e)
    subst this
    exact ⟨hk _ _ h, hd _ h⟩
  | x :: r, i, H, e, hi, h => by
    have hx : xs[i]? = some x := by
      have := List.getElem?_drop (xs := xs) (i := i) (j := 0)
      rw [e] at this
      simpa using this.symm
    have hdr : xs.drop (i + 1) = r := by
      rw [← List.tail_drop, e]
      rfl
    have hlt : i + 1 ≤ xs.length := (List.getElem?_eq_some_iff.mp hx).1
    have ih : ∀ H, Pv (i + 1) H → lcL kp (gT so t) tt te D σ r H R := fun H' h' => lcL_inv mt me Pv hk hs hd r (i + 1) H' hdr hlt h'
    refine ⟨hk _ _ h, gT_mono (fun σ2 H2 z => mt _ _ _ _ (fun b H3 z3 => ?_) z) (hs i x H hx h)⟩
    cases b with
    | true => exact me _ _ _ _ (fun y H4 ⟨acc, a1, a2, a3⟩ => ⟨acc, a1, a2, ih _ a3⟩) z3
    | false => exact ih _ z3
end
/-- the same for the defs' own meaning, from the first turn on -/
theorem lc_inv {S : Stat} {T : Str → Option FnI} {n : Nat} {H : Hp} {σ : St} {kp : Hp → Prop} {t : Tg} {c : Te} {e : Ex} {D : Addr} {R : Hp → Prop} {xs : List V} (Pv : Nat → Hp → Prop) (hk : ∀ i H, Pv i H → kp H)
    (hs : ∀ i x H, xs[i]? = some x → Pv i H → gT S.so t x σ H fun σ2 H2 => wT S (sem S T n) never c σ2 H2 fun b H3 => if b = true then wE S (sem S T n) never e σ2 H3 fun y H4 => ∃ acc, H4 D = some (.lst acc) ∧ acc.length < sizeLine ∧ Pv (i + 1) (upd H4 D (.lst (acc ++ [y]))) else Pv (i + 1) H3)
    (hd : ∀ H, Pv xs.length H → R H) (h0 : Pv 0 H) : lcL kp (gT S.so t) (wT S (sem S T n) never c) (wE S (sem S T n) never e) D σ xs H R :=
  lcL_inv (tt := wT S (sem S T n) never c) (te := wE S (sem S T n) never e) (fun _ _ _ _ q z => wT_mono (sem_mono S T n) c q z) (fun _ _ _ _ q z => wE_mono (sem_mono S T n) e q z) Pv hk hs hd xs 0 H rfl (Nat.zero_le _) h0
theorem g_nm {so : Addr → Option HO} {i : Nat} {x : V} {σ : St} {H : Hp} {Q : St → Hp → Prop} (h : Q (σ.set i (some x)) H) : gT so (.nm i) x σ H Q := by
  unfold gT
  exact h
end QL
set_option Elab.async false
set_option linter.all false
set_option maxRecDepth 100000
set_option maxHeartbeats 4000000
/-! H1: the head by one run: what it tells of defs, classes, exceptions. -/
namespace QL
open PySem PySem.Spec L2
open PyProof.Rows hiding St
open He (ga ma fAd)
abbrev AlQ : Type := Bool × List He.FnW
def obsQ (ex : PySem.W.Frag → Bool) (fn : List He.DefD) (K : PySem.W.Frag) : AlQ := (ex K && fn.all fun d => d.ok K, fn.map fun d => He.fnW K d.at_)
def valQ (fn : List He.DefD) : AlQ := (true, fn.map He.DefD.val)
def SaysQ (ex : PySem.W.Frag → Bool) (fn : List He.DefD) (K : PySem.W.Frag) : Prop := obsQ ex fn K = valQ fn
def obsQG (n : Nat) (ex : PySem.W.Frag → Bool) (fn : List He.DefD) (g : Addr → Option Obj) : AlQ := obsQ ex fn (He.frG g (He.asD g n))
def hookQ (n : Nat) (ex : PySem.W.Frag → Bool) (fn : List He.DefD) : PySem.W.Hook where
  α := AlQ
  obs := fun s => obsQG n ex fn s.heap.get?
  val := fun _ => valQ fn
  says := fun _ h => ∃ K : PySem.W.Frag, K.In h ∧ SaysQ ex fn K
  of := fun _ _ e => ⟨_, He.frG_in, e⟩
  keeps := fun _ _ _ ⟨K, hK, c⟩ k => ⟨K, PySem.W.Frag.In.keeps hK k, c⟩
theorem obsQG_eq {n : Nat} {ex : PySem.W.Frag → Bool} {fn : List He.DefD} {g : Addr → Option Obj} {s : Shared} (h : ∀ a, g a = s.heap.get? a) : obsQG n ex fn g = (hookQ n ex fn).obs s := by
  have e : g = s.heap.get? := funext h
  rw [e] <;> rfl
section
variable {ex : PySem.W.Frag → Bool} {fn : List He.DefD} {K : PySem.W.Frag}
theorem SaysQ.more (c : SaysQ ex fn K) : ex K = true := (He.ba (show (ex K && fn.all fun d => d.ok K) = true from congrArg (fun z : AlQ => z.1) c)).1
theorem SaysQ.def_ (c : SaysQ ex fn K) (i : Nat) {d : He.DefD} (h : fn[i]? = some d := by rfl) : ∃ fd, FunD K d.name d.qual d.params d.body d.scope (d.dvs K) (d.kws K) (fAd K d.at_) fd := by
  have c2 := (He.ba (show (ex K && fn.all fun d => d.ok K) = true from congrArg (fun z : AlQ => z.1) c)).2
  have e : fn.map (fun d => He.fnW K d.at_) = fn.map He.DefD.val := congrArg (fun z : AlQ => z.2) c
  have e2 : (fn.map fun d => He.fnW K d.at_)[i]? = (fn.map He.DefD.val)[i]? := by rw [e]
  rw [List.getElem?_map, List.getElem?_map, h] at e2
  exact He.DefD.funD (Option.some.inj e2) (List.all_eq_true.mp c2 d (List.mem_of_getElem? h))
end
/-! ### exceptions -/
def bxs : List (Str × Value) := [("ValueError", .type "ValueError"), ("IndexError", .type "IndexError"), ("KeyError", .type "KeyError"), ("LookupError", .type "LookupError"), ("OverflowError", .type "OverflowError"), ("RuntimeError", .type "RuntimeError")]
theorem bxs_ok {c : Str} {u : Value} (h : bxs.lookup c = some u) : (c == ("__debug__" : Str)) = false ∧ bootBuiltins c = some u ∧ c ≠ "__name__" ∧ ∃ T, u = .type T := by
  have key : ∀ (l : List (Str × Value)), (l.all fun e => !(e.1 == ("__debug__" : Str)) && decide (bootBuiltins e.1 = some e.2) && decide (e.1 ≠ "__name__") && (match e.2 with | .type _ => true | _ => false)) = true → l.lookup c = some u → (c == ("__debug__" : Str)) = false ∧ bootBuiltins c = some u ∧ c ≠ "__name__" ∧ ∃ T, u = .type T := by
    intro l
    induction l with
    | nil => intro _ h; cases h
    | cons e l ih =>
      intro ha hl
      rw [List.all_cons, Bool.and_eq_true] at ha
      rw [List.lookup_cons] at hl
      split at hl
      · rename_i e1
        cases hl
        have e2 : c = e.1 := by simpa using e1
        obtain ⟨h1, h2⟩ := ha
        simp only [Bool.and_eq_true, Bool.not_eq_true', decide_eq_true_eq] at h1
        obtain ⟨⟨⟨g1, g2⟩, g3⟩, g4⟩ := h1
        rw [e2]
        refine ⟨g1, g2, g3, ?_⟩
        split at g4
        · rename_i T eT
          exact ⟨T, eT⟩
        · cases g4
      · exact ih ha.2 hl
  exact key bxs (by decide +kernel) h
/-- the class that a name stands for -/
def clV (K : PySem.W.Frag) (oc : List Str) (c : Str) : Option Value := if oc.contains c then some (.ref (ga K c)) else bxs.lookup c
def isaF (K : PySem.W.Frag) (oc : List Str) (C : Addr) (c : Str) : Option Bool := match clV K oc c with
  | some u => if (xvB K C && decide (PySem.W.kitOne K (.ref C) u = PySem.W.exmOne K (.ref C) u)) = true then PySem.W.kitOne K (.ref C) u else none
  | none => none
def ocB (K : PySem.W.Frag) (C : Addr) : Bool := PySem.W.plainGet K C Str.empty && PySem.W.hasDictIn K C && PySem.W.plainOver K C && decide (PySem.W.findIn K (.ref C) "__setattr__" = some (some (.builtin "object.__setattr__"))) &&
  decide (PySem.W.findIn K (.ref C) "__class__" = some (some (.builtin "object.__class__"))) && decide (PySem.W.specialIn K (.builtin "object.__class__") "__get__" = some (some (.builtin "getset_descriptor.__get__"))) &&
  decide (PySem.W.takesIn K (.builtin "object.__class__") = some true) && decide (PySem.W.mroIn K C (.type "object") = some true)
theorem ocB_ok {K : PySem.W.Frag} {C : Addr} (h : ocB K C = true) : OcC K C := by
  unfold ocB at h
  simp only [Bool.and_eq_true, decide_eq_true_eq] at h
  obtain ⟨⟨⟨⟨⟨⟨⟨h1, h2⟩, h3⟩, h4⟩, h5⟩, h6⟩, h7⟩, h8⟩ := h
  exact ⟨⟨h1, h2, h3, h4⟩, h5, h6, h7, h8⟩
def isoF (K : PySem.W.Frag) (oc : List Str) (C : Addr) (c : Str) : Option Bool := match clV K oc c with
  | some u => if ocB K C = true then PySem.W.kitOne K (.ref C) u else none
  | none => none
def isbF (K : PySem.W.Frag) (oc : List Str) (c : Str) : Bool := match clV K oc c with
  | some u => bTs.all fun T => decide (PySem.W.kitOne K (.type T) u = some false)
  | none => false
section
variable {K : PySem.W.Frag} {mg : Str → Option Value} {oc : List Str} {C : Addr} {c : Str} {b : Bool}
/-- the names that a law has of classes -/
structure ClsNs (K : PySem.W.Frag) (mg : Str → Option Value) (oc : List Str) : Prop where
  own : ∀ c ∈ oc, (c == ("__debug__" : Str)) = false ∧ mg c = some (.ref (ga K c))
  blt : ∀ c u, bxs.lookup c = some u → mg c = none
theorem clV_ok (N : ClsNs K mg oc) {u : Value} (h : clV K oc c = some u) : ClsN mg c u := by
  unfold clV at h
  split at h
  · rename_i hc
    cases h
    obtain ⟨h1, h2⟩ := N.own c (by simpa using hc)
    exact ⟨h1, .inl ⟨⟨_, rfl⟩, h2⟩⟩
  · obtain ⟨h1, h2, h3, h4⟩ := bxs_ok h
    exact ⟨h1, .inr ⟨h4, N.blt c u h, h2, h3⟩⟩
theorem isaF_ok (N : ClsNs K mg oc) (h : isaF K oc C c = some b) : XvC K C ∧ ∀ u, ClsN mg c u → PySem.W.kitOne K (.ref C) u = some b ∧ PySem.W.exmOne K (.ref C) u = some b := by
  unfold isaF at h
  split at h
  · rename_i u e
    split at h
    · rename_i hb
      simp only [Bool.and_eq_true, decide_eq_true_eq] at hb
      refine ⟨xvB_ok hb.1, fun u' hu => ?_⟩
      have := hu.one (clV_ok N e)
      subst this
      exact ⟨h, by rw [← hb.2]; exact h⟩
    · cases h
  · cases h
theorem isoF_ok (N : ClsNs K mg oc) (h : isoF K oc C c = some b) : OcC K C ∧ ∀ u, ClsN mg c u → PySem.W.kitOne K (.ref C) u = some b := by
  unfold isoF at h
  split at h
  · rename_i u e
    split at h
    · rename_i hb
      refine ⟨ocB_ok hb, fun u' hu => ?_⟩
      have := hu.one (clV_ok N e)
      subst this
      exact h
    · cases h
  · cases h
theorem isbF_ok (N : ClsNs K mg oc) (h : isbF K oc c = true) : ∀ u, ClsN mg c u → ∀ T ∈ bTs, PySem.W.kitOne K (.type T) u = some false := by
  unfold isbF at h
  split at h
  · rename_i u e
    intro u' hu T hT
    have := hu.one (clV_ok N e)
    subst this
    exact of_decide_eq_true (List.all_eq_true.mp h T hT)
  · cases h
end
/-- what the head says of an own exception class that is made -/
def xkB (K : PySem.W.Frag) (x : Str) (b : Xb) (f : Option Str) : Bool := xcB K (ga K x) b && xvB K (ga K x) && (match f with
  | some g => decide (PySem.W.findIn K (.ref (ga K x)) g = some none)
  | none => true) && decide (PySem.W.findIn K (.ref (ga K x)) "__init__" = some (some (.ref (ma K (ga K x) "__init__")))) && decide (PySem.W.typeIn K (.ref (ma K (ga K x) "__init__")) = some (.type "function")) &&
  (match PySem.W.findCls K (.type b.nm) (.type "type") "__init__" with
  | some (.val (.builtin n)) => n == b.it
  | _ => false)
theorem xk_mk {K : PySem.W.Frag} {mg : Str → Option Value} {x qual : Str} {b : Xb} {f : Option Str} {st : Stmt} {fd : FuncData} (h : xkB K x b f = true) (g : mg x = some (.ref (ga K x))) (nm : (x == ("__debug__" : Str)) = false)
    (F : FunD K "__init__" qual (defArgs st) (defBody st) (defScope st) [] [] (ma K (ga K x) "__init__") fd) (S : FnScope (xiN f) (xiN f) (defScope st)) (hb : xiB b f (defBody st)) (hs : xiS b f (defScope st) = true)
    (hbd : ∀ (kV doc pm : Value) (an : Option Addr) (cdv ct : Value) (us : List Value), us.length = (xiN f).length → bindArgs (PySem.W.fnOf "__init__" qual (defArgs st) (defBody st) (defScope st) .none kV doc pm an cdv ct) ⟨us, []⟩ = pure ((xiN f).zip us))
    (hm : mg b.st = none) (P : Program) (w : World) (base : Heap) : Xk P w K mg base x (ga K x) f := by
  unfold xkB at h
  simp only [Bool.and_eq_true, decide_eq_true_eq] at h
  obtain ⟨⟨⟨⟨⟨h1, h2⟩, h3⟩, h4⟩, h5⟩, h6'⟩ := h
  have h6 : PySem.W.findCls K (.type b.nm) (.type "type") "__init__" = some (.val (.builtin b.it)) := by
    split at h6'
    · rename_i n e
      rw [e, beq_iff_eq.mp h6']
    · cases h6'
  obtain ⟨oc, od, dV, kV, doc, pm, an, cdv, ct, osl, rfl, lk, hcd, hD, hK⟩ := F.ex
  rcases hD with ⟨_, rfl⟩ | ⟨e, _⟩
  · refine ⟨g, nm, xvB_ok h2, fun g' hg => ?_, b, ma K (ga K x) "__init__", _, xcB_ok h1, h4, h5, xi_fng lk hcd S hb hs hm h6, ?_⟩
    · subst hg
      simpa using h3
    · exact Binds.all fun us hl => hbd kV doc pm an cdv ct us hl
  · exact absurd rfl e
/-- a def without defaults binds its values -/
theorem bind_mk {K : PySem.W.Frag} {x qual : Str} {st : Stmt} {f : Addr} {fd : FuncData} {ps : List Str} (F : FunD K x qual (defArgs st) (defBody st) (defScope st) [] [] f fd)
    (h : ∀ (kV doc pm : Value) (an : Option Addr) (cdv ct : Value) (us : List Value), us.length = ps.length → bindArgs (PySem.W.fnOf x qual (defArgs st) (defBody st) (defScope st) .none kV doc pm an cdv ct) ⟨us, []⟩ = pure (ps.zip us)) : Binds K fd ps [] := by
  obtain ⟨oc, od, dV, kV, doc, pm, an, cdv, ct, osl, rfl, lk, hcd, hD, hK⟩ := F.ex
  rcases hD with ⟨_, rfl⟩ | ⟨e, _⟩
  · exact .all fun us hl => h kV doc pm an cdv ct us hl
  · exact absurd rfl e
theorem mem_pair {α : Type} {x : Str} {u : α} : ∀ {l : List (Str × α)}, l.lookup x = some u → (x, u) ∈ l
  | [], h => by cases h
  | (y, v) :: r, h => by
    rw [List.lookup_cons] at h
    split at h
    · rename_i e
      cases h
      have : x = y := by simpa using e
      rw [this]
      exact List.mem_cons_self ..
    · exact List.mem_cons_of_mem _ (mem_pair h)
theorem mem_fst {α : Type} {x : Str} {u : α} {l : List (Str × α)} (h : l.lookup x = some u) : x ∈ l.map (·.1) := List.mem_map.mpr ⟨_, mem_pair h, rfl⟩
end QL
set_option Elab.async false
set_option linter.all false
set_option maxRecDepth 100000
set_option maxHeartbeats 4000000
/-! H2: own classes behind the top: how C(.., k = v) is bound. -/
namespace QL
open PySem PySem.Spec L2
open PyProof.Rows hiding St
/-- the keyword-only parameters, in order: given (true), or by default -/
def pick {α : Type} : List (Bool × Nat) → List α → List α → List α
  | [], _, _ => []
  | (true, i) :: r, m, w => (w.drop i).take 1 ++ pick r m w
  | (false, i) :: r, m, w => (m.drop i).take 1 ++ pick r m w
theorem pick_rel : ∀ (l : List (Bool × Nat)) {mz zs : List V} {mv ws : List Value}, Vals mz mv → Vals zs ws → Vals (pick l mz zs) (pick l mv ws)
  | [], _, _, _, _, _, _ => .nil
  | (true, i) :: r, _, _, _, _, a, b => ((b.drop i).take 1).append (pick_rel r a b)
  | (false, i) :: r, _, _, _, _, a, b => ((a.drop i).take 1).append (pick_rel r a b)
def bg (l : List (Bool × Nat)) {α : Type} (us mv ws : List α) : List α := us ++ pick l mv ws
section
variable {K : PySem.W.Frag} {x qual : Str} {params : Arguments} {body : List Stmt} {scope : Scope} {kws : List (Str × V)} {f : Addr} {fd : FuncData} {ps : List Str}
theorem bindK_kw (F : FunD K x qual params body scope [] kws f fd) (np : Nat) (ks : List Str) (ms : List (Str × V)) (l : List (Bool × Nat)) (pm : List (Nat ⊕ V)) (hk : kws ≠ []) (hms : ∀ q ∈ ms, q ∈ kws)
    (h : ∀ (D : Addr) (doc pm : Value) (an : Option Addr) (cdv ct : Value) (us mv ws : List Value), us.length = np + 1 → mv.length = ms.length → ws.length = ks.length →
      KwChain D ((ms.map (·.1)).zip mv) (bindArgs (PySem.W.fnOf x qual params body scope .none (.ref D) doc pm an cdv ct) ⟨us, ks.zip ws⟩) (ps.zip (bg l us mv ws)))
    (hpm : ∀ (vs ws : List V), vs.length = np + ks.length → pmV pm vs = some ws → bg l (vs.take np) (ms.map (·.2)) (vs.drop np) = ws) : BindK K fd ps (np + ks.length) ks pm := by
  obtain ⟨mv, hb⟩ := F.kbinds0 (ps := ps) (np + 1) ks ms (fun us mv ws => bg l us mv ws) hk hms (fun a b c => a.append (pick_rel l b c)) h
  intro vs ws us hv hl hp
  have e := hpm vs ws hl hp
  have hlu : us.length = np + ks.length := by rw [← hl]; exact hv.length.symm
  refine ⟨bg l (us.take np) mv (us.drop np), ?_, fun s a X => ?_⟩
  · have r := hb.rel (show Vals (.non :: vs.take np) (Value.none :: us.take np) from .cons rfl (hv.take np)) (hv.drop np)
    rw [← e]
    cases r with
    | cons _ r => exact r
  · rw [Nat.add_sub_cancel]
    exact hb.to s (a :: us.take np) (us.drop np) X (by rw [List.length_cons, List.length_take, hlu]; omega) (by rw [List.length_drop, hlu]; omega)
theorem bindK_pos (F : FunD K x qual params body scope [] [] f fd) (np : Nat) (hp : ps.length = np + 1)
    (h : ∀ (kV doc pm : Value) (an : Option Addr) (cdv ct : Value) (us : List Value), us.length = ps.length → bindArgs (PySem.W.fnOf x qual params body scope .none kV doc pm an cdv ct) ⟨us, []⟩ = pure (ps.zip us)) :
    BindK K fd ps np [] ((List.range np).map .inl) := by
  have hb := F.bindsN (ps := ps) h
  intro vs ws us hv hl hw
  have hlu : us.length = np := by rw [← hl]; exact hv.length.symm
  have e : ws = vs := by
    have key : ∀ (n : Nat) (vs : List V), n ≤ vs.length → pmV ((List.range n).map .inl) vs = some (vs.take n) := by
      intro n
      induction n with
      | zero => intro vs _; rfl
      | succ n ih =>
        intro vs h
        unfold pmV at ih ⊢
        have hn : vs[n]? = some vs[n] := List.getElem?_eq_getElem h
        rw [List.range_succ, List.map_append, List.mapM_append, ih vs (by omega), List.take_succ, hn]
        show (do let ys ← (do let y ← vs[n]?; pure [y]); pure (vs.take n ++ ys) : Option (List V)) = _
        rw [hn]
        rfl
    have q := key np vs (by omega)
    rw [hw] at q
    cases q
    rw [List.take_of_length_le (by omega)]
  subst e
  refine ⟨us, hv, fun s a X => ?_⟩
  have q := hb s (a :: us) X (by rw [List.append_nil, List.length_cons, hlu, hp])
  rw [List.append_nil] at q
  have t : us.take (np - ([] : List Str).length) = us := List.take_of_length_le (by simp [hlu])
  rw [t]
  exact q
end
/-! ### tables of own classes -/
def mtF (K : PySem.W.Frag) (l : List (Str × Str × Str)) (C : Addr) (m : Str) : Option Str := (l.find? fun e => decide (He.ga K e.1 = C) && e.2.1 == m).map (·.2.2)
theorem mtF_mem {K : PySem.W.Frag} {l : List (Str × Str × Str)} {C : Addr} {m g : Str} (h : mtF K l C m = some g) : ∃ x, (x, m, g) ∈ l ∧ C = He.ga K x := by
  unfold mtF at h
  obtain ⟨e, h1, rfl⟩ := map_some h
  have a := List.mem_of_find?_eq_some h1
  have b := List.find?_some h1
  simp only [Bool.and_eq_true, decide_eq_true_eq, beq_iff_eq] at b
  exact ⟨e.1, by rw [← b.2]; exact a, b.1.symm⟩
abbrev MkR : Type := Str × Nat × List Str × Str × (PySem.W.Frag → List (Nat ⊕ V))
def mkF (K : PySem.W.Frag) (l : List MkR) (x : Str) (n : Nat) (ks : List Str) : Option (Addr × Str × List (Nat ⊕ V)) := (l.find? fun e => e.1 == x && (e.2.1 == n && e.2.2.1 == ks)).map fun e => (He.ga K e.1, e.2.2.2.1, e.2.2.2.2 K)
theorem mkF_mem {K : PySem.W.Frag} {l : List MkR} {x : Str} {n : Nat} {ks : List Str} {C : Addr} {g : Str} {pm : List (Nat ⊕ V)} (h : mkF K l x n ks = some (C, g, pm)) : ∃ pm', (x, n, ks, g, pm') ∈ l ∧ C = He.ga K x ∧ pm = pm' K := by
  unfold mkF at h
  obtain ⟨e, h1, h2⟩ := map_some h
  have a := List.mem_of_find?_eq_some h1
  have b := List.find?_some h1
  simp only [Bool.and_eq_true, beq_iff_eq] at b
  obtain ⟨b1, b2, b3⟩ := b
  cases h2
  subst b1 b2 b3
  exact ⟨_, a, rfl, rfl⟩
end QL
set_option Elab.async false
set_option linter.all false
set_option maxRecDepth 100000
set_option maxHeartbeats 4000000
namespace K05
open PySem QL
open L2 hiding wE wT
def topS (i : Nat) : Stmt := PySem.Challenge.pw_quietlanes_k05_refusals_apart.main.body.getD i (.Pass ⟨0, 0, 0, 0⟩)
def topM (i j : Nat) : Stmt := match topS i with
  | .ClassDef _ _ _ b _ _ _ _ _ _ _ => b.getD j (.Pass ⟨0, 0, 0, 0⟩)
  | _ => .Pass ⟨0, 0, 0, 0⟩
def b_law_pool : Sxs := (.cons (.asg 2 (.idx (.op .Add (.slc (.var 0) (.some (.var 1)) (.some (.op .Add (.var 1) (.lit (.int 1))))) (.lst (.cons (.lit (.int 0)) .nil))) (.lit (.int 0))))
    (.cons (.asg 3 (.op .Mod (.op .Mult (.op .Add (.op .Add (.op .Mod (.var 2) (.lit (.int 2147483647))) (.op .Mult (.lit (.int 7919)) (.var 1))) (.lit (.int 1))) (.lit (.int 48271))) (.lit (.int 2147483629))))
    (.cons (.ret (.lst (.cons (.op .Mult (.bi .int (.cons (.cmp .GtE (.var 2) (.op .Pow (.lit (.int 10)) (.lit (.int 18)))) .nil)) (.var 2)) (.cons (.var 3) .nil))))
    .nil)))
def i_law_pool : FnI := ⟨["_law_script", "_law_k", "_law_cell", "_law_seed"], 2, b_law_pool⟩
def b_law_take : Sxs := (.cons (.ifs (.cmp .Gt (.idx (.var 0) (.lit (.int 0))) (.lit (.int 0))) (.cons (.asg 2 (.op .Mod (.idx (.var 0) (.lit (.int 0))) (.var 1)))
    (.cons (.setI (.var 0) (.lit (.int 0)) (.op .FloorDiv (.idx (.var 0) (.lit (.int 0))) (.var 1)))
    (.cons (.ret (.var 2))
    .nil))) .nil)
    (.cons (.setI (.var 0) (.lit (.int 1)) (.op .Mod (.op .Add (.op .Mult (.idx (.var 0) (.lit (.int 1))) (.lit (.int 48271))) (.lit (.int 11))) (.lit (.int 2147483647))))
    (.cons (.ret (.op .Mod (.op .FloorDiv (.op .Mod (.op .Mult (.idx (.var 0) (.lit (.int 1))) (.idx (.var 0) (.lit (.int 1)))) (.lit (.int 2147483629))) (.lit (.int 64))) (.var 1)))
    .nil)))
def i_law_take : FnI := ⟨["_law_pool_here", "_law_size", "_law_found"], 2, b_law_take⟩
def b_law_kinds : Sxs := (.cons (.asg 1 (.lst (.cons (.isx (.var 0) "NoShape") (.cons (.isx (.var 0) "NoNumber") (.cons (.isx (.var 0) "NoBits") .nil)))))
    (.cons (.asg 1 (.op .Add (.var 1) (.lst (.cons (.isx (.var 0) "NoState") (.cons (.isx (.var 0) "NoDeed") (.cons (.isx (.var 0) "NoStand") .nil))))))
    (.cons (.asg 1 (.op .Add (.var 1) (.lst (.cons (.isx (.var 0) "NoHands") (.cons (.isx (.var 0) "NoText") (.cons (.isx (.var 0) "NoRow") .nil))))))
    (.cons (.asg 1 (.op .Add (.var 1) (.lst (.cons (.isx (.var 0) "NoLane") (.cons (.isx (.var 0) "NoNode") (.cons (.isx (.var 0) "NoReader") .nil))))))
    (.cons (.asg 1 (.op .Add (.var 1) (.lst (.cons (.isx (.var 0) "NoRule") (.cons (.isx (.var 0) "NoName") (.cons (.isx (.var 0) "TooMany") .nil))))))
    (.cons (.ret (.op .Add (.var 1) (.lst (.cons (.isx (.var 0) "Bare") .nil))))
    .nil))))))
def i_law_kinds : FnI := ⟨["_law_error", "_law_found"], 1, b_law_kinds⟩
def b_law_base_kinds : Sxs := (.cons (.asg 1 (.lst (.cons (.isx (.var 0) "ValueError") (.cons (.isx (.var 0) "IndexError") (.cons (.isx (.var 0) "KeyError") .nil)))))
    (.cons (.ret (.op .Add (.var 1) (.lst (.cons (.isx (.var 0) "LookupError") (.cons (.isx (.var 0) "OverflowError") (.cons (.isx (.var 0) "RuntimeError") .nil))))))
    .nil))
def i_law_base_kinds : FnI := ⟨["_law_error", "_law_found"], 1, b_law_base_kinds⟩
def b_law_made : Sxs := (.cons (.ifs (.cmp .Lt (.var 0) (.lit (.int 6))) (.cons (.ret (.idx (.lst (.cons (.mkx "NoShape" (.cons (.var 1) .nil)) (.cons (.mkx "NoNumber" (.cons (.var 1) .nil)) (.cons (.mkx "NoBits" (.cons (.var 1) .nil)) (.cons (.mkx "NoState" (.cons (.var 1) .nil)) (.cons (.mkx "NoDeed" (.cons (.var 1) .nil)) (.cons (.mkx "NoStand" (.cons (.var 1) .nil)) .nil))))))) (.var 0)))
    .nil) .nil)
    (.cons (.ifs (.cmp .Lt (.var 0) (.lit (.int 12))) (.cons (.ret (.idx (.lst (.cons (.mkx "NoHands" (.cons (.var 1) .nil)) (.cons (.mkx "NoText" (.cons (.var 1) .nil)) (.cons (.mkx "NoRow" .nil) (.cons (.mkx "NoLane" (.cons (.var 1) .nil)) (.cons (.mkx "NoNode" (.cons (.var 1) .nil)) (.cons (.mkx "NoReader" (.cons (.var 1) .nil)) .nil))))))) (.op .Sub (.var 0) (.lit (.int 6)))))
    .nil) .nil)
    (.cons (.ret (.idx (.lst (.cons (.mkx "NoRule" (.cons (.var 1) .nil)) (.cons (.mkx "NoName" (.cons (.var 1) .nil)) (.cons (.mkx "TooMany" (.cons (.var 1) .nil)) (.cons (.mkx "Bare" .nil) .nil))))) (.op .Sub (.var 0) (.lit (.int 12)))))
    .nil)))
def i_law_made : FnI := ⟨["_law_which", "_law_one"], 2, b_law_made⟩
def b_law_field : Sxs := (.cons (.ifs (.cmp .In (.var 0) (.tup (.cons (.lit (.int 1)) (.cons (.lit (.int 6)) (.cons (.lit (.int 9)) (.cons (.lit (.int 10)) (.cons (.lit (.int 11)) .nil))))))) (.cons (.ret (.fld (.var 1) "number"))
    .nil) .nil)
    (.cons (.ifs (.cmp .Eq (.var 0) (.lit (.int 0))) (.cons (.ret (.fld (.var 1) "what"))
    .nil) .nil)
    (.cons (.ifs (.cmp .Eq (.var 0) (.lit (.int 2))) (.cons (.ret (.fld (.var 1) "bits"))
    .nil) .nil)
    (.cons (.ifs (.cmp .Eq (.var 0) (.lit (.int 3))) (.cons (.ret (.fld (.var 1) "state"))
    .nil) .nil)
    (.cons (.ifs (.cmp .Eq (.var 0) (.lit (.int 4))) (.cons (.ret (.fld (.var 1) "deed"))
    .nil) .nil)
    (.cons (.ifs (.cmp .Eq (.var 0) (.lit (.int 5))) (.cons (.ret (.fld (.var 1) "thing"))
    .nil) .nil)
    (.cons (.ifs (.cmp .Eq (.var 0) (.lit (.int 7))) (.cons (.ret (.fld (.var 1) "row"))
    .nil) .nil)
    (.cons (.ifs (.cmp .Eq (.var 0) (.lit (.int 12))) (.cons (.ret (.fld (.var 1) "rule"))
    .nil) .nil)
    (.cons (.ret (.ite (.cmp .Eq (.var 0) (.lit (.int 13))) (.fld (.var 1) "name") (.fld (.var 1) "many")))
    .nil)))))))))
def i_law_field : FnI := ⟨["_law_which", "_law_error"], 2, b_law_field⟩
def b_law_due_kinds : Sxs := (.cons (.asg 1 (.idx (.op .Add (.op .Add (.op .Add (.op .Mult (.lst (.cons (.lst (.cons (.lit (.int 0)) .nil)) .nil)) (.lit (.int 9))) (.op .Mult (.lst (.cons (.lst (.cons (.lit (.int 1)) (.cons (.lit (.int 3)) .nil))) .nil)) (.lit (.int 3)))) (.op .Mult (.lst (.cons (.lst (.cons (.lit (.int 2)) (.cons (.lit (.int 3)) .nil))) .nil)) (.lit (.int 2)))) (.lst (.cons (.lst (.cons (.lit (.int 4)) .nil)) (.cons (.lst (.cons (.lit (.int 5)) .nil)) .nil)))) (.var 0)))
    (.cons (.ret (.lc (.nm 2) (.rng (.lit (.int 0)) (.lit (.int 6))) .yes (.cmp .In (.var 2) (.var 1)) [2]))
    .nil))
def i_law_due_kinds : FnI := ⟨["_law_which", "_law_due", "_law_number"], 1, b_law_due_kinds⟩
def b_law_value : Sxs := (.cons (.asg 1 (.lst (.cons (.lit .non) (.cons (.fn "_law_take" (.cons (.var 0) (.cons (.op .Pow (.lit (.int 10)) (.lit (.int 9))) .nil))) (.cons (.op .Mult (.lit (.str "a")) (.fn "_law_take" (.cons (.var 0) (.cons (.lit (.int 4)) .nil)))) (.cons (.lst (.cons (.lit (.int 1)) .nil)) (.cons (.tup (.cons (.lit (.int 1)) (.cons (.lit (.int 2)) .nil))) (.cons (.lit (.bl true)) (.cons (.lit (.int 1)) (.cons (.neg (.lit (.int 1))) .nil))))))))))
    (.cons (.ret (.idx (.var 1) (.fn "_law_take" (.cons (.var 0) (.cons (.lit (.int 8)) .nil)))))
    .nil))
def i_law_value : FnI := ⟨["_law_pool_here", "_law_some"], 1, b_law_value⟩
def b_law_right : Sxs := (.cons (.ifs (.cmp .NotEq (.fn "_law_base_kinds" (.cons (.var 1) .nil)) (.fn "_law_due_kinds" (.cons (.var 0) .nil))) (.cons (.ret (.lit (.bl false)))
    .nil) .nil)
    (.cons (.ifs (.and (.cmp .NotIn (.var 0) (.tup (.cons (.lit (.int 8)) (.cons (.lit (.int 15)) .nil)))) (.cmp .NotEq (.bi .repr (.cons (.fn "_law_field" (.cons (.var 0) (.cons (.var 1) .nil))) .nil)) (.bi .repr (.cons (.var 2) .nil)))) (.cons (.ret (.lit (.bl false)))
    .nil) .nil)
    (.cons (.ret (.cmp .Eq (.fn "_law_kinds" (.cons (.var 1) .nil)) (.lc (.nm 3) (.rng (.lit (.int 0)) (.lit (.int 16))) .yes (.cmp .Eq (.var 3) (.var 0)) [3])))
    .nil)))
def i_law_right : FnI := ⟨["_law_which", "_law_error", "_law_value_here", "_law_number"], 3, b_law_right⟩
def b_law : Sxs := (.cons (.rng 1 (.lit (.int 0)) (.bi .max (.cons (.lit (.int 1)) (.cons (.bi .min (.cons (.bi .len (.cons (.var 0) .nil)) (.cons (.lit (.int 20)) .nil))) .nil))) (.cons (.asg 2 (.fn "_law_pool" (.cons (.var 0) (.cons (.var 1) .nil))))
    (.cons (.par [4, 5] (.cons (.fn "_law_value" (.cons (.var 2) .nil)) (.cons (.fn "_law_value" (.cons (.var 2) .nil)) .nil)))
    (.cons (.rng 3 (.lit (.int 0)) (.lit (.int 16)) (.cons (.par [6, 7] (.cons (.fn "_law_made" (.cons (.var 3) (.cons (.var 4) .nil))) (.cons (.fn "_law_made" (.cons (.var 3) (.cons (.var 5) .nil))) .nil)))
    (.cons (.ifs (.or (.not (.val (.fn "_law_right" (.cons (.var 3) (.cons (.var 6) (.cons (.var 4) .nil)))))) (.not (.val (.fn "_law_right" (.cons (.var 3) (.cons (.var 7) (.cons (.var 5) .nil))))))) (.cons (.ret (.lit (.bl false)))
    .nil) .nil)
    (.cons (.ifs (.not (.val (.fn "_law_right" (.cons (.var 3) (.cons (.var 6) (.cons (.var 4) .nil)))))) (.cons (.ret (.lit (.bl false)))
    .nil) .nil)
    .nil))))
    .nil))))
    (.cons (.ret (.lit (.bl true)))
    .nil))
def i_law : FnI := ⟨["_law_script", "_law_k", "_law_pool_here", "_law_which", "_law_one", "_law_two", "_law_first", "_law_second"], 1, b_law⟩
def kinds : List (Str × Gk) := (("law", .fn) :: ("max", .bi .max) :: ("min", .bi .min) :: ("len", .bi .len) :: ("_law_right", .fn) :: ("_law_made", .fn) :: ("_law_value", .fn) :: ("_law_pool", .fn) :: ("_law_kinds", .fn) :: ("repr", .bi .repr) :: ("_law_field", .fn) :: ("_law_base_kinds", .fn) :: ("_law_due_kinds", .fn) :: ("Bare", .xcl) :: ("TooMany", .xcl) :: ("NoName", .xcl) :: ("NoRule", .xcl) :: ("NoReader", .xcl) :: ("NoNode", .xcl) :: ("NoLane", .xcl) :: ("NoRow", .xcl) :: ("NoText", .xcl) :: ("NoHands", .xcl) :: ("NoStand", .xcl) :: ("NoDeed", .xcl) :: ("NoState", .xcl) :: ("NoBits", .xcl) :: ("NoNumber", .xcl) :: ("NoShape", .xcl) :: ("_law_take", .fn) :: ("int", .bi .int) :: ("isinstance", .isi) :: ("RuntimeError", .bxc) :: ("OverflowError", .bxc) :: ("LookupError", .bxc) :: ("KeyError", .bxc) :: ("IndexError", .bxc) :: ("ValueError", .bxc) :: [])
def gl (x : Str) : Gk := (kinds.lookup x).getD .no
def tab : List (Str × FnI) := (("_law_pool", i_law_pool) :: ("_law_take", i_law_take) :: ("_law_kinds", i_law_kinds) :: ("_law_base_kinds", i_law_base_kinds) :: ("_law_made", i_law_made) :: ("_law_field", i_law_field) :: ("_law_due_kinds", i_law_due_kinds) :: ("_law_value", i_law_value) :: ("_law_right", i_law_right) :: ("law", i_law) :: [])
def T (x : Str) : Option FnI := tab.lookup x
theorem t_law_pool : T "_law_pool" = some i_law_pool := by kernel_rfl
theorem u_law_pool {S : Stat} {n : Nat} {H : Hp} {Q : VK} {E : XK} {a0 a1 : V} (h : wSs S (sem S T n) (fun c d _ H1 => E c d H1) b_law_pool { nx := fun _ H1 => Q .non H1, rt := Q } [some a0, some a1, none, none] H) : (sem S T (n + 1)).fn "_law_pool" [a0, a1] H Q E := by
  unfold sem
  simp only [t_law_pool]
  exact ⟨rfl, h⟩
theorem t_law_take : T "_law_take" = some i_law_take := by kernel_rfl
theorem u_law_take {S : Stat} {n : Nat} {H : Hp} {Q : VK} {E : XK} {a0 a1 : V} (h : wSs S (sem S T n) (fun c d _ H1 => E c d H1) b_law_take { nx := fun _ H1 => Q .non H1, rt := Q } [some a0, some a1, none] H) : (sem S T (n + 1)).fn "_law_take" [a0, a1] H Q E := by
  unfold sem
  simp only [t_law_take]
  exact ⟨rfl, h⟩
theorem t_law_kinds : T "_law_kinds" = some i_law_kinds := by kernel_rfl
theorem u_law_kinds {S : Stat} {n : Nat} {H : Hp} {Q : VK} {E : XK} {a0 : V} (h : wSs S (sem S T n) (fun c d _ H1 => E c d H1) b_law_kinds { nx := fun _ H1 => Q .non H1, rt := Q } [some a0, none] H) : (sem S T (n + 1)).fn "_law_kinds" [a0] H Q E := by
  unfold sem
  simp only [t_law_kinds]
  exact ⟨rfl, h⟩
theorem t_law_base_kinds : T "_law_base_kinds" = some i_law_base_kinds := by kernel_rfl
theorem u_law_base_kinds {S : Stat} {n : Nat} {H : Hp} {Q : VK} {E : XK} {a0 : V} (h : wSs S (sem S T n) (fun c d _ H1 => E c d H1) b_law_base_kinds { nx := fun _ H1 => Q .non H1, rt := Q } [some a0, none] H) : (sem S T (n + 1)).fn "_law_base_kinds" [a0] H Q E := by
  unfold sem
  simp only [t_law_base_kinds]
  exact ⟨rfl, h⟩
theorem t_law_made : T "_law_made" = some i_law_made := by kernel_rfl
theorem u_law_made {S : Stat} {n : Nat} {H : Hp} {Q : VK} {E : XK} {a0 a1 : V} (h : wSs S (sem S T n) (fun c d _ H1 => E c d H1) b_law_made { nx := fun _ H1 => Q .non H1, rt := Q } [some a0, some a1] H) : (sem S T (n + 1)).fn "_law_made" [a0, a1] H Q E := by
  unfold sem
  simp only [t_law_made]
  exact ⟨rfl, h⟩
theorem t_law_field : T "_law_field" = some i_law_field := by kernel_rfl
theorem u_law_field {S : Stat} {n : Nat} {H : Hp} {Q : VK} {E : XK} {a0 a1 : V} (h : wSs S (sem S T n) (fun c d _ H1 => E c d H1) b_law_field { nx := fun _ H1 => Q .non H1, rt := Q } [some a0, some a1] H) : (sem S T (n + 1)).fn "_law_field" [a0, a1] H Q E := by
  unfold sem
  simp only [t_law_field]
  exact ⟨rfl, h⟩
theorem t_law_due_kinds : T "_law_due_kinds" = some i_law_due_kinds := by kernel_rfl
theorem u_law_due_kinds {S : Stat} {n : Nat} {H : Hp} {Q : VK} {E : XK} {a0 : V} (h : wSs S (sem S T n) (fun c d _ H1 => E c d H1) b_law_due_kinds { nx := fun _ H1 => Q .non H1, rt := Q } [some a0, none, none] H) : (sem S T (n + 1)).fn "_law_due_kinds" [a0] H Q E := by
  unfold sem
  simp only [t_law_due_kinds]
  exact ⟨rfl, h⟩
theorem t_law_value : T "_law_value" = some i_law_value := by kernel_rfl
theorem u_law_value {S : Stat} {n : Nat} {H : Hp} {Q : VK} {E : XK} {a0 : V} (h : wSs S (sem S T n) (fun c d _ H1 => E c d H1) b_law_value { nx := fun _ H1 => Q .non H1, rt := Q } [some a0, none] H) : (sem S T (n + 1)).fn "_law_value" [a0] H Q E := by
  unfold sem
  simp only [t_law_value]
  exact ⟨rfl, h⟩
theorem t_law_right : T "_law_right" = some i_law_right := by kernel_rfl
theorem u_law_right {S : Stat} {n : Nat} {H : Hp} {Q : VK} {E : XK} {a0 a1 a2 : V} (h : wSs S (sem S T n) (fun c d _ H1 => E c d H1) b_law_right { nx := fun _ H1 => Q .non H1, rt := Q } [some a0, some a1, some a2, none] H) : (sem S T (n + 1)).fn "_law_right" [a0, a1, a2] H Q E := by
  unfold sem
  simp only [t_law_right]
  exact ⟨rfl, h⟩
theorem t_law : T "law" = some i_law := by kernel_rfl
theorem u_law {S : Stat} {n : Nat} {H : Hp} {Q : VK} {E : XK} {a0 : V} (h : wSs S (sem S T n) (fun c d _ H1 => E c d H1) b_law { nx := fun _ H1 => Q .non H1, rt := Q } [some a0, none, none, none, none, none, none, none] H) : (sem S T (n + 1)).fn "law" [a0] H Q E := by
  unfold sem
  simp only [t_law]
  exact ⟨rfl, h⟩
theorem c_law_pool : nCS (cS ⟨i_law_pool.N, defScope (topS 18), gl⟩ 60) (defBody (topS 18)) = some i_law_pool.body := by kernel_rfl
theorem c_law_take : nCS (cS ⟨i_law_take.N, defScope (topS 19), gl⟩ 60) (defBody (topS 19)) = some i_law_take.body := by kernel_rfl
theorem c_law_kinds : nCS (cS ⟨i_law_kinds.N, defScope (topS 20), gl⟩ 60) (defBody (topS 20)) = some i_law_kinds.body := by kernel_rfl
theorem c_law_base_kinds : nCS (cS ⟨i_law_base_kinds.N, defScope (topS 21), gl⟩ 60) (defBody (topS 21)) = some i_law_base_kinds.body := by kernel_rfl
theorem c_law_made : nCS (cS ⟨i_law_made.N, defScope (topS 22), gl⟩ 60) (defBody (topS 22)) = some i_law_made.body := by kernel_rfl
theorem c_law_field : nCS (cS ⟨i_law_field.N, defScope (topS 23), gl⟩ 60) (defBody (topS 23)) = some i_law_field.body := by kernel_rfl
theorem c_law_due_kinds : nCS (cS ⟨i_law_due_kinds.N, defScope (topS 24), gl⟩ 60) (defBody (topS 24)) = some i_law_due_kinds.body := by kernel_rfl
theorem c_law_value : nCS (cS ⟨i_law_value.N, defScope (topS 25), gl⟩ 60) (defBody (topS 25)) = some i_law_value.body := by kernel_rfl
theorem c_law_right : nCS (cS ⟨i_law_right.N, defScope (topS 26), gl⟩ 60) (defBody (topS 26)) = some i_law_right.body := by kernel_rfl
theorem c_law : nCS (cS ⟨i_law.N, defScope (topS 27), gl⟩ 60) (defBody (topS 27)) = some i_law.body := by kernel_rfl
set_option Elab.async false
set_option linter.all false
set_option maxRecDepth 100000
set_option maxHeartbeats 4000000
open PySem QL
open L2 hiding wE wT
def dfs : List He.DefD := 
  ⟨("_law_pool", none), "_law_pool", "_law_pool", defArgs (topS 18), defBody (topS 18), defScope (topS 18), [], []⟩ ::
  ⟨("_law_take", none), "_law_take", "_law_take", defArgs (topS 19), defBody (topS 19), defScope (topS 19), [], []⟩ ::
  ⟨("_law_kinds", none), "_law_kinds", "_law_kinds", defArgs (topS 20), defBody (topS 20), defScope (topS 20), [], []⟩ ::
  ⟨("_law_base_kinds", none), "_law_base_kinds", "_law_base_kinds", defArgs (topS 21), defBody (topS 21), defScope (topS 21), [], []⟩ ::
  ⟨("_law_made", none), "_law_made", "_law_made", defArgs (topS 22), defBody (topS 22), defScope (topS 22), [], []⟩ ::
  ⟨("_law_field", none), "_law_field", "_law_field", defArgs (topS 23), defBody (topS 23), defScope (topS 23), [], []⟩ ::
  ⟨("_law_due_kinds", none), "_law_due_kinds", "_law_due_kinds", defArgs (topS 24), defBody (topS 24), defScope (topS 24), [], []⟩ ::
  ⟨("_law_value", none), "_law_value", "_law_value", defArgs (topS 25), defBody (topS 25), defScope (topS 25), [], []⟩ ::
  ⟨("_law_right", none), "_law_right", "_law_right", defArgs (topS 26), defBody (topS 26), defScope (topS 26), [], []⟩ ::
  ⟨("law", none), "law", "law", defArgs (topS 27), defBody (topS 27), defScope (topS 27), [], []⟩ ::
  ⟨("Bare", some "__init__"), "__init__", "Bare.__init__", defArgs (topM 16 0), defBody (topM 16 0), defScope (topM 16 0), [], []⟩ ::
  ⟨("TooMany", some "__init__"), "__init__", "TooMany.__init__", defArgs (topM 15 0), defBody (topM 15 0), defScope (topM 15 0), [], []⟩ ::
  ⟨("NoName", some "__init__"), "__init__", "NoName.__init__", defArgs (topM 14 0), defBody (topM 14 0), defScope (topM 14 0), [], []⟩ ::
  ⟨("NoRule", some "__init__"), "__init__", "NoRule.__init__", defArgs (topM 13 0), defBody (topM 13 0), defScope (topM 13 0), [], []⟩ ::
  ⟨("NoReader", some "__init__"), "__init__", "NoReader.__init__", defArgs (topM 12 0), defBody (topM 12 0), defScope (topM 12 0), [], []⟩ ::
  ⟨("NoNode", some "__init__"), "__init__", "NoNode.__init__", defArgs (topM 11 0), defBody (topM 11 0), defScope (topM 11 0), [], []⟩ ::
  ⟨("NoLane", some "__init__"), "__init__", "NoLane.__init__", defArgs (topM 10 0), defBody (topM 10 0), defScope (topM 10 0), [], []⟩ ::
  ⟨("NoRow", some "__init__"), "__init__", "NoRow.__init__", defArgs (topM 9 0), defBody (topM 9 0), defScope (topM 9 0), [], []⟩ ::
  ⟨("NoText", some "__init__"), "__init__", "NoText.__init__", defArgs (topM 8 0), defBody (topM 8 0), defScope (topM 8 0), [], []⟩ ::
  ⟨("NoHands", some "__init__"), "__init__", "NoHands.__init__", defArgs (topM 7 0), defBody (topM 7 0), defScope (topM 7 0), [], []⟩ ::
  ⟨("NoStand", some "__init__"), "__init__", "NoStand.__init__", defArgs (topM 6 0), defBody (topM 6 0), defScope (topM 6 0), [], []⟩ ::
  ⟨("NoDeed", some "__init__"), "__init__", "NoDeed.__init__", defArgs (topM 5 0), defBody (topM 5 0), defScope (topM 5 0), [], []⟩ ::
  ⟨("NoState", some "__init__"), "__init__", "NoState.__init__", defArgs (topM 4 0), defBody (topM 4 0), defScope (topM 4 0), [], []⟩ ::
  ⟨("NoBits", some "__init__"), "__init__", "NoBits.__init__", defArgs (topM 3 0), defBody (topM 3 0), defScope (topM 3 0), [], []⟩ ::
  ⟨("NoNumber", some "__init__"), "__init__", "NoNumber.__init__", defArgs (topM 2 0), defBody (topM 2 0), defScope (topM 2 0), [], []⟩ ::
  ⟨("NoShape", some "__init__"), "__init__", "NoShape.__init__", defArgs (topM 1 0), defBody (topM 1 0), defScope (topM 1 0), [], []⟩ :: []
def cfl : List (Str × Str) := ([])
def cmt : List (Str × Str × Str) := ([])
def mks : List MkR := ([])
def fas : List He.Fa := (.glo "law" :: .glo "_law_right" :: .glo "_law_made" :: .glo "_law_value" :: .glo "_law_pool" :: .glo "_law_kinds" :: .glo "_law_field" :: .glo "_law_base_kinds" :: .glo "_law_due_kinds" :: .glo "_law_take" :: .glo "Bare" :: .glo "TooMany" :: .glo "NoName" :: .glo "NoRule" :: .glo "NoReader" :: .glo "NoNode" :: .glo "NoLane" :: .glo "NoRow" :: .glo "NoText" :: .glo "NoHands" :: .glo "NoStand" :: .glo "NoDeed" :: .glo "NoState" :: .glo "NoBits" :: .glo "NoNumber" :: .glo "NoShape" :: .keep "Bare" :: .keep "TooMany" :: .keep "NoName" :: .keep "NoRule" :: .keep "NoReader" :: .keep "NoNode" :: .keep "NoLane" :: .keep "NoRow" :: .keep "NoText" :: .keep "NoHands" :: .keep "NoStand" :: .keep "NoDeed" :: .keep "NoState" :: .keep "NoBits" :: .keep "NoNumber" :: .keep "NoShape" :: .free "max" :: .free "min" :: .free "len" :: .free "repr" :: .free "int" :: .free "isinstance" :: .free "range" :: .free "ValueError" :: .free "IndexError" :: .free "KeyError" :: .free "LookupError" :: .free "OverflowError" :: .free "RuntimeError" :: [])
def ocs : List Str := ("Bare" :: "TooMany" :: "NoName" :: "NoRule" :: "NoReader" :: "NoNode" :: "NoLane" :: "NoRow" :: "NoText" :: "NoHands" :: "NoStand" :: "NoDeed" :: "NoState" :: "NoBits" :: "NoNumber" :: "NoShape" :: [])
def xks : List (Str × Xb × Option Str) := (("Bare", .re, none) :: ("TooMany", .oe, some "many") :: ("NoName", .ke, some "name") :: ("NoRule", .ke, some "rule") :: ("NoReader", .ie, some "number") :: ("NoNode", .ie, some "number") :: ("NoLane", .ie, some "number") :: ("NoRow", .ve, none) :: ("NoText", .ve, some "row") :: ("NoHands", .ve, some "number") :: ("NoStand", .ve, some "thing") :: ("NoDeed", .ve, some "deed") :: ("NoState", .ve, some "state") :: ("NoBits", .ve, some "bits") :: ("NoNumber", .ve, some "number") :: ("NoShape", .ve, some "what") :: [])
def xcs : List (Str × Option Str) := xks.map fun e => (e.1, e.2.2)
def xfB (K : PySem.W.Frag) (C : Addr) (f : Str) : Bool := (xcs.any fun e => e.2 == some f && He.ga K e.1 == C) && (xvB K C && decide (PySem.W.findIn K (.ref C) f = some none))
def cst (x : Str) : Option V := ([] : List (Str × V)).lookup x
def St0 (K : PySem.W.Frag) (so : Addr → Option HO) : Stat where
  gv := cst
  so := so
  fl := fun C f => ∃ x, C = He.ga K x ∧ (x, f) ∈ cfl
  xc := fun x => (xcs.lookup x).map fun f => (He.ga K x, f)
  isa := isaF K ocs
  iso := isoF K ocs
  isb := isbF K ocs
  xf := fun C f => xfB K C f = true
  mt := mtF K cmt
  mkc := mkF K mks
def exs (more : PySem.W.Frag → Bool) (K : PySem.W.Frag) : Bool := (fas.all fun f => f.ok K) && ((xks.all fun e => xkB K e.1 e.2.1 e.2.2) && more K)
section
variable {K : PySem.W.Frag} {mg : Str → Option Value} {h : Heap} {more : PySem.W.Frag → Bool}
theorem fact (c : SaysQ (exs more) dfs K) (i : Nat) {f : He.Fa} (e : fas[i]? = some f) : f.ok K = true := List.all_eq_true.mp (He.ba c.more).1 f (List.mem_of_getElem? e)
theorem xk (c : SaysQ (exs more) dfs K) (i : Nat) {e : Str × Xb × Option Str} (q : xks[i]? = some e) : xkB K e.1 e.2.1 e.2.2 = true := List.all_eq_true.mp (He.ba (He.ba c.more).2).1 e (List.mem_of_getElem? q)
theorem says_more (c : SaysQ (exs more) dfs K) : more K = true := (He.ba (He.ba c.more).2).2
theorem e_law_pool (c : SaysQ (exs more) dfs K) : ∃ fd, DefB K gl "_law_pool" "_law_pool" i_law_pool (topS 18) (He.fAd K ("_law_pool", none)) fd ["_law_script", "_law_k"] ∧ Binds K fd ["_law_script", "_law_k"] [] := by
  obtain ⟨fd, F⟩ := c.def_ 0 rfl
  have F : FunD K "_law_pool" "_law_pool" (defArgs (topS 18)) (defBody (topS 18)) (defScope (topS 18)) [] [] _ fd := F
  exact ⟨fd, ⟨⟨_, _, F⟩, ⟨rfl, rfl, rfl, by decide +kernel, rfl, by decide +kernel, by decide +kernel⟩, rfl, c_law_pool⟩, bind_mk F fun _ _ _ _ _ _ us hl => match us, hl with | [_, _], _ => rfl⟩
theorem e_law_take (c : SaysQ (exs more) dfs K) : ∃ fd, DefB K gl "_law_take" "_law_take" i_law_take (topS 19) (He.fAd K ("_law_take", none)) fd ["_law_pool_here", "_law_size"] ∧ Binds K fd ["_law_pool_here", "_law_size"] [] := by
  obtain ⟨fd, F⟩ := c.def_ 1 rfl
  have F : FunD K "_law_take" "_law_take" (defArgs (topS 19)) (defBody (topS 19)) (defScope (topS 19)) [] [] _ fd := F
  exact ⟨fd, ⟨⟨_, _, F⟩, ⟨rfl, rfl, rfl, by decide +kernel, rfl, by decide +kernel, by decide +kernel⟩, rfl, c_law_take⟩, bind_mk F fun _ _ _ _ _ _ us hl => match us, hl with | [_, _], _ => rfl⟩
theorem e_law_kinds (c : SaysQ (exs more) dfs K) : ∃ fd, DefB K gl "_law_kinds" "_law_kinds" i_law_kinds (topS 20) (He.fAd K ("_law_kinds", none)) fd ["_law_error"] ∧ Binds K fd ["_law_error"] [] := by
  obtain ⟨fd, F⟩ := c.def_ 2 rfl
  have F : FunD K "_law_kinds" "_law_kinds" (defArgs (topS 20)) (defBody (topS 20)) (defScope (topS 20)) [] [] _ fd := F
  exact ⟨fd, ⟨⟨_, _, F⟩, ⟨rfl, rfl, rfl, by decide +kernel, rfl, by decide +kernel, by decide +kernel⟩, rfl, c_law_kinds⟩, bind_mk F fun _ _ _ _ _ _ us hl => match us, hl with | [_], _ => rfl⟩
theorem e_law_base_kinds (c : SaysQ (exs more) dfs K) : ∃ fd, DefB K gl "_law_base_kinds" "_law_base_kinds" i_law_base_kinds (topS 21) (He.fAd K ("_law_base_kinds", none)) fd ["_law_error"] ∧ Binds K fd ["_law_error"] [] := by
  obtain ⟨fd, F⟩ := c.def_ 3 rfl
  have F : FunD K "_law_base_kinds" "_law_base_kinds" (defArgs (topS 21)) (defBody (topS 21)) (defScope (topS 21)) [] [] _ fd := F
  exact ⟨fd, ⟨⟨_, _, F⟩, ⟨rfl, rfl, rfl, by decide +kernel, rfl, by decide +kernel, by decide +kernel⟩, rfl, c_law_base_kinds⟩, bind_mk F fun _ _ _ _ _ _ us hl => match us, hl with | [_], _ => rfl⟩
theorem e_law_made (c : SaysQ (exs more) dfs K) : ∃ fd, DefB K gl "_law_made" "_law_made" i_law_made (topS 22) (He.fAd K ("_law_made", none)) fd ["_law_which", "_law_one"] ∧ Binds K fd ["_law_which", "_law_one"] [] := by
  obtain ⟨fd, F⟩ := c.def_ 4 rfl
  have F : FunD K "_law_made" "_law_made" (defArgs (topS 22)) (defBody (topS 22)) (defScope (topS 22)) [] [] _ fd := F
  exact ⟨fd, ⟨⟨_, _, F⟩, ⟨rfl, rfl, rfl, by decide +kernel, rfl, by decide +kernel, by decide +kernel⟩, rfl, c_law_made⟩, bind_mk F fun _ _ _ _ _ _ us hl => match us, hl with | [_, _], _ => rfl⟩
theorem e_law_field (c : SaysQ (exs more) dfs K) : ∃ fd, DefB K gl "_law_field" "_law_field" i_law_field (topS 23) (He.fAd K ("_law_field", none)) fd ["_law_which", "_law_error"] ∧ Binds K fd ["_law_which", "_law_error"] [] := by
  obtain ⟨fd, F⟩ := c.def_ 5 rfl
  have F : FunD K "_law_field" "_law_field" (defArgs (topS 23)) (defBody (topS 23)) (defScope (topS 23)) [] [] _ fd := F
  exact ⟨fd, ⟨⟨_, _, F⟩, ⟨rfl, rfl, rfl, by decide +kernel, rfl, by decide +kernel, by decide +kernel⟩, rfl, c_law_field⟩, bind_mk F fun _ _ _ _ _ _ us hl => match us, hl with | [_, _], _ => rfl⟩
theorem e_law_due_kinds (c : SaysQ (exs more) dfs K) : ∃ fd, DefB K gl "_law_due_kinds" "_law_due_kinds" i_law_due_kinds (topS 24) (He.fAd K ("_law_due_kinds", none)) fd ["_law_which"] ∧ Binds K fd ["_law_which"] [] := by
  obtain ⟨fd, F⟩ := c.def_ 6 rfl
  have F : FunD K "_law_due_kinds" "_law_due_kinds" (defArgs (topS 24)) (defBody (topS 24)) (defScope (topS 24)) [] [] _ fd := F
  exact ⟨fd, ⟨⟨_, _, F⟩, ⟨rfl, rfl, rfl, by decide +kernel, rfl, by decide +kernel, by decide +kernel⟩, rfl, c_law_due_kinds⟩, bind_mk F fun _ _ _ _ _ _ us hl => match us, hl with | [_], _ => rfl⟩
theorem e_law_value (c : SaysQ (exs more) dfs K) : ∃ fd, DefB K gl "_law_value" "_law_value" i_law_value (topS 25) (He.fAd K ("_law_value", none)) fd ["_law_pool_here"] ∧ Binds K fd ["_law_pool_here"] [] := by
  obtain ⟨fd, F⟩ := c.def_ 7 rfl
  have F : FunD K "_law_value" "_law_value" (defArgs (topS 25)) (defBody (topS 25)) (defScope (topS 25)) [] [] _ fd := F
  exact ⟨fd, ⟨⟨_, _, F⟩, ⟨rfl, rfl, rfl, by decide +kernel, rfl, by decide +kernel, by decide +kernel⟩, rfl, c_law_value⟩, bind_mk F fun _ _ _ _ _ _ us hl => match us, hl with | [_], _ => rfl⟩
theorem e_law_right (c : SaysQ (exs more) dfs K) : ∃ fd, DefB K gl "_law_right" "_law_right" i_law_right (topS 26) (He.fAd K ("_law_right", none)) fd ["_law_which", "_law_error", "_law_value_here"] ∧ Binds K fd ["_law_which", "_law_error", "_law_value_here"] [] := by
  obtain ⟨fd, F⟩ := c.def_ 8 rfl
  have F : FunD K "_law_right" "_law_right" (defArgs (topS 26)) (defBody (topS 26)) (defScope (topS 26)) [] [] _ fd := F
  exact ⟨fd, ⟨⟨_, _, F⟩, ⟨rfl, rfl, rfl, by decide +kernel, rfl, by decide +kernel, by decide +kernel⟩, rfl, c_law_right⟩, bind_mk F fun _ _ _ _ _ _ us hl => match us, hl with | [_, _, _], _ => rfl⟩
theorem e_law (c : SaysQ (exs more) dfs K) : ∃ fd, DefB K gl "law" "law" i_law (topS 27) (He.fAd K ("law", none)) fd ["_law_script"] ∧ Binds K fd ["_law_script"] [] := by
  obtain ⟨fd, F⟩ := c.def_ 9 rfl
  have F : FunD K "law" "law" (defArgs (topS 27)) (defBody (topS 27)) (defScope (topS 27)) [] [] _ fd := F
  exact ⟨fd, ⟨⟨_, _, F⟩, ⟨rfl, rfl, rfl, by decide +kernel, rfl, by decide +kernel, by decide +kernel⟩, rfl, c_law⟩, bind_mk F fun _ _ _ _ _ _ us hl => match us, hl with | [_], _ => rfl⟩
theorem nms (X : K.In h) (G : h.Ns mainGlobals mg) (c : SaysQ (exs more) dfs K) : ClsNs K mg ocs where
  own := fun x hx => by
    have A : ∀ y ∈ ocs, (y == ("__debug__" : Str)) = false := by decide
    refine ⟨A x hx, ?_⟩
    simp only [ocs, List.mem_cons, List.not_mem_nil, or_false] at hx
    rcases hx with rfl | rfl | rfl | rfl | rfl | rfl | rfl | rfl | rfl | rfl | rfl | rfl | rfl | rfl | rfl | rfl
    · exact He.glo_ok X G (fact c 10 (f := .glo "Bare") rfl)
    · exact He.glo_ok X G (fact c 11 (f := .glo "TooMany") rfl)
    · exact He.glo_ok X G (fact c 12 (f := .glo "NoName") rfl)
    · exact He.glo_ok X G (fact c 13 (f := .glo "NoRule") rfl)
    · exact He.glo_ok X G (fact c 14 (f := .glo "NoReader") rfl)
    · exact He.glo_ok X G (fact c 15 (f := .glo "NoNode") rfl)
    · exact He.glo_ok X G (fact c 16 (f := .glo "NoLane") rfl)
    · exact He.glo_ok X G (fact c 17 (f := .glo "NoRow") rfl)
    · exact He.glo_ok X G (fact c 18 (f := .glo "NoText") rfl)
    · exact He.glo_ok X G (fact c 19 (f := .glo "NoHands") rfl)
    · exact He.glo_ok X G (fact c 20 (f := .glo "NoStand") rfl)
    · exact He.glo_ok X G (fact c 21 (f := .glo "NoDeed") rfl)
    · exact He.glo_ok X G (fact c 22 (f := .glo "NoState") rfl)
    · exact He.glo_ok X G (fact c 23 (f := .glo "NoBits") rfl)
    · exact He.glo_ok X G (fact c 24 (f := .glo "NoNumber") rfl)
    · exact He.glo_ok X G (fact c 25 (f := .glo "NoShape") rfl)
  blt := fun x u hx => by
    have hm := mem_fst hx
    simp only [bxs, List.map_cons, List.map_nil, List.mem_cons, List.not_mem_nil, or_false] at hm
    rcases hm with rfl | rfl | rfl | rfl | rfl | rfl
    · exact He.free_ok X G (fact c 49 (f := .free "ValueError") rfl)
    · exact He.free_ok X G (fact c 50 (f := .free "IndexError") rfl)
    · exact He.free_ok X G (fact c 51 (f := .free "KeyError") rfl)
    · exact He.free_ok X G (fact c 52 (f := .free "LookupError") rfl)
    · exact He.free_ok X G (fact c 53 (f := .free "OverflowError") rfl)
    · exact He.free_ok X G (fact c 54 (f := .free "RuntimeError") rfl)
theorem tops (X : K.In h) (G : h.Ns mainGlobals mg) (c : SaysQ (exs more) dfs K) (so : Addr → Option HO) (hso : SoOk K so) : Top K mg (St0 K so) T gl := by
  obtain ⟨d_law, D_law, B_law⟩ := e_law c
  obtain ⟨d_law_right, D_law_right, B_law_right⟩ := e_law_right c
  obtain ⟨d_law_made, D_law_made, B_law_made⟩ := e_law_made c
  obtain ⟨d_law_value, D_law_value, B_law_value⟩ := e_law_value c
  obtain ⟨d_law_pool, D_law_pool, B_law_pool⟩ := e_law_pool c
  obtain ⟨d_law_kinds, D_law_kinds, B_law_kinds⟩ := e_law_kinds c
  obtain ⟨d_law_field, D_law_field, B_law_field⟩ := e_law_field c
  obtain ⟨d_law_base_kinds, D_law_base_kinds, B_law_base_kinds⟩ := e_law_base_kinds c
  obtain ⟨d_law_due_kinds, D_law_due_kinds, B_law_due_kinds⟩ := e_law_due_kinds c
  obtain ⟨d_law_take, D_law_take, B_law_take⟩ := e_law_take c
  have A : AllF (Fact K mg (St0 K so) T gl) kinds := ⟨⟨_, _, _, _, _, t_law, ⟨D_law, He.glo_ok X G (fact c 0 (f := .glo "law") rfl), B_law, by decide⟩⟩, ⟨rfl, He.free_ok X G (fact c 42 (f := .free "max") rfl)⟩, ⟨rfl, He.free_ok X G (fact c 43 (f := .free "min") rfl)⟩, ⟨rfl, He.free_ok X G (fact c 44 (f := .free "len") rfl)⟩, ⟨_, _, _, _, _, t_law_right, ⟨D_law_right, He.glo_ok X G (fact c 1 (f := .glo "_law_right") rfl), B_law_right, by decide⟩⟩, ⟨_, _, _, _, _, t_law_made, ⟨D_law_made, He.glo_ok X G (fact c 2 (f := .glo "_law_made") rfl), B_law_made, by decide⟩⟩, ⟨_, _, _, _, _, t_law_value, ⟨D_law_value, He.glo_ok X G (fact c 3 (f := .glo "_law_value") rfl), B_law_value, by decide⟩⟩, ⟨_, _, _, _, _, t_law_pool, ⟨D_law_pool, He.glo_ok X G (fact c 4 (f := .glo "_law_pool") rfl), B_law_pool, by decide⟩⟩, ⟨_, _, _, _, _, t_law_kinds, ⟨D_law_kinds, He.glo_ok X G (fact c 5 (f := .glo "_law_kinds") rfl), B_law_kinds, by decide⟩⟩, ⟨rfl, He.free_ok X G (fact c 45 (f := .free "repr") rfl)⟩, ⟨_, _, _, _, _, t_law_field, ⟨D_law_field, He.glo_ok X G (fact c 6 (f := .glo "_law_field") rfl), B_law_field, by decide⟩⟩, ⟨_, _, _, _, _, t_law_base_kinds, ⟨D_law_base_kinds, He.glo_ok X G (fact c 7 (f := .glo "_law_base_kinds") rfl), B_law_base_kinds, by decide⟩⟩, ⟨_, _, _, _, _, t_law_due_kinds, ⟨D_law_due_kinds, He.glo_ok X G (fact c 8 (f := .glo "_law_due_kinds") rfl), B_law_due_kinds, by decide⟩⟩, ⟨_, by decide, He.glo_ok X G (fact c 10 (f := .glo "Bare") rfl), He.keep_ok (fact c 26 (f := .keep "Bare") rfl)⟩, ⟨_, by decide, He.glo_ok X G (fact c 11 (f := .glo "TooMany") rfl), He.keep_ok (fact c 27 (f := .keep "TooMany") rfl)⟩, ⟨_, by decide, He.glo_ok X G (fact c 12 (f := .glo "NoName") rfl), He.keep_ok (fact c 28 (f := .keep "NoName") rfl)⟩, ⟨_, by decide, He.glo_ok X G (fact c 13 (f := .glo "NoRule") rfl), He.keep_ok (fact c 29 (f := .keep "NoRule") rfl)⟩, ⟨_, by decide, He.glo_ok X G (fact c 14 (f := .glo "NoReader") rfl), He.keep_ok (fact c 30 (f := .keep "NoReader") rfl)⟩, ⟨_, by decide, He.glo_ok X G (fact c 15 (f := .glo "NoNode") rfl), He.keep_ok (fact c 31 (f := .keep "NoNode") rfl)⟩, ⟨_, by decide, He.glo_ok X G (fact c 16 (f := .glo "NoLane") rfl), He.keep_ok (fact c 32 (f := .keep "NoLane") rfl)⟩, ⟨_, by decide, He.glo_ok X G (fact c 17 (f := .glo "NoRow") rfl), He.keep_ok (fact c 33 (f := .keep "NoRow") rfl)⟩, ⟨_, by decide, He.glo_ok X G (fact c 18 (f := .glo "NoText") rfl), He.keep_ok (fact c 34 (f := .keep "NoText") rfl)⟩, ⟨_, by decide, He.glo_ok X G (fact c 19 (f := .glo "NoHands") rfl), He.keep_ok (fact c 35 (f := .keep "NoHands") rfl)⟩, ⟨_, by decide, He.glo_ok X G (fact c 20 (f := .glo "NoStand") rfl), He.keep_ok (fact c 36 (f := .keep "NoStand") rfl)⟩, ⟨_, by decide, He.glo_ok X G (fact c 21 (f := .glo "NoDeed") rfl), He.keep_ok (fact c 37 (f := .keep "NoDeed") rfl)⟩, ⟨_, by decide, He.glo_ok X G (fact c 22 (f := .glo "NoState") rfl), He.keep_ok (fact c 38 (f := .keep "NoState") rfl)⟩, ⟨_, by decide, He.glo_ok X G (fact c 23 (f := .glo "NoBits") rfl), He.keep_ok (fact c 39 (f := .keep "NoBits") rfl)⟩, ⟨_, by decide, He.glo_ok X G (fact c 24 (f := .glo "NoNumber") rfl), He.keep_ok (fact c 40 (f := .keep "NoNumber") rfl)⟩, ⟨_, by decide, He.glo_ok X G (fact c 25 (f := .glo "NoShape") rfl), He.keep_ok (fact c 41 (f := .keep "NoShape") rfl)⟩, ⟨_, _, _, _, _, t_law_take, ⟨D_law_take, He.glo_ok X G (fact c 9 (f := .glo "_law_take") rfl), B_law_take, by decide⟩⟩, ⟨rfl, He.free_ok X G (fact c 46 (f := .free "int") rfl)⟩, ⟨rfl, He.free_ok X G (fact c 47 (f := .free "isinstance") rfl)⟩, ⟨"RuntimeError", by decide, He.free_ok X G (fact c 54 (f := .free "RuntimeError") rfl), by decide +kernel, by decide⟩, ⟨"OverflowError", by decide, He.free_ok X G (fact c 53 (f := .free "OverflowError") rfl), by decide +kernel, by decide⟩, ⟨"LookupError", by decide, He.free_ok X G (fact c 52 (f := .free "LookupError") rfl), by decide +kernel, by decide⟩, ⟨"KeyError", by decide, He.free_ok X G (fact c 51 (f := .free "KeyError") rfl), by decide +kernel, by decide⟩, ⟨"IndexError", by decide, He.free_ok X G (fact c 50 (f := .free "IndexError") rfl), by decide +kernel, by decide⟩, ⟨"ValueError", by decide, He.free_ok X G (fact c 49 (f := .free "ValueError") rfl), by decide +kernel, by decide⟩, True.intro⟩
  exact {
    so := hso
    fl := fun C f z => by
      obtain ⟨x, rfl, hm⟩ := z
      cases hm
    at_ := fun x => by
      unfold gl
      cases q : kinds.lookup x with
      | none => exact True.intro
      | some g => exact A.at q
    rng := fun _ => He.free_ok X G (fact c 48 (f := .free "range") rfl)
    xc := fun x C f _ hx => by
      have hx : (xcs.lookup x).map (fun f => (He.ga K x, f)) = some (C, f) := hx
      obtain ⟨f', hl, e⟩ := map_some hx
      cases e
      have hm := mem_pair hl
      simp only [xcs, xks, List.map_cons, List.map_nil, List.mem_cons, List.not_mem_nil, or_false, Prod.mk.injEq] at hm
      rcases hm with ⟨rfl, rfl⟩ | ⟨rfl, rfl⟩ | ⟨rfl, rfl⟩ | ⟨rfl, rfl⟩ | ⟨rfl, rfl⟩ | ⟨rfl, rfl⟩ | ⟨rfl, rfl⟩ | ⟨rfl, rfl⟩ | ⟨rfl, rfl⟩ | ⟨rfl, rfl⟩ | ⟨rfl, rfl⟩ | ⟨rfl, rfl⟩ | ⟨rfl, rfl⟩ | ⟨rfl, rfl⟩ | ⟨rfl, rfl⟩ | ⟨rfl, rfl⟩
      · obtain ⟨fd, F⟩ := c.def_ 10 rfl
        exact xk_mk (st := topM 16 0) (xk c 0 (e := ("Bare", .re, none)) rfl) (He.glo_ok X G (fact c 10 (f := .glo "Bare") rfl)) (by decide) F ⟨rfl, rfl, rfl, by decide +kernel, rfl, by decide +kernel, by decide +kernel⟩ ⟨_, _, _, _, _, _, _, _, _, ⟨rfl, _, fun _ => rfl⟩, rfl⟩ (by decide +kernel) (fun _ _ _ _ _ _ us hl => match us, hl with | [_], _ => rfl) (He.free_ok X G (fact c 54 (f := .free "RuntimeError") rfl))
      · obtain ⟨fd, F⟩ := c.def_ 11 rfl
        exact xk_mk (st := topM 15 0) (xk c 1 (e := ("TooMany", .oe, some "many")) rfl) (He.glo_ok X G (fact c 11 (f := .glo "TooMany") rfl)) (by decide) F ⟨rfl, rfl, rfl, by decide +kernel, rfl, by decide +kernel, by decide +kernel⟩ ⟨_, _, _, _, _, _, _, _, _, _, _, _, _, ⟨rfl, _, fun _ => rfl⟩, rfl⟩ (by decide +kernel) (fun _ _ _ _ _ _ us hl => match us, hl with | [_, _], _ => rfl) (He.free_ok X G (fact c 53 (f := .free "OverflowError") rfl))
      · obtain ⟨fd, F⟩ := c.def_ 12 rfl
        exact xk_mk (st := topM 14 0) (xk c 2 (e := ("NoName", .ke, some "name")) rfl) (He.glo_ok X G (fact c 12 (f := .glo "NoName") rfl)) (by decide) F ⟨rfl, rfl, rfl, by decide +kernel, rfl, by decide +kernel, by decide +kernel⟩ ⟨_, _, _, _, _, _, _, _, _, _, _, _, _, ⟨rfl, _, fun _ => rfl⟩, rfl⟩ (by decide +kernel) (fun _ _ _ _ _ _ us hl => match us, hl with | [_, _], _ => rfl) (He.free_ok X G (fact c 51 (f := .free "KeyError") rfl))
      · obtain ⟨fd, F⟩ := c.def_ 13 rfl
        exact xk_mk (st := topM 13 0) (xk c 3 (e := ("NoRule", .ke, some "rule")) rfl) (He.glo_ok X G (fact c 13 (f := .glo "NoRule") rfl)) (by decide) F ⟨rfl, rfl, rfl, by decide +kernel, rfl, by decide +kernel, by decide +kernel⟩ ⟨_, _, _, _, _, _, _, _, _, _, _, _, _, ⟨rfl, _, fun _ => rfl⟩, rfl⟩ (by decide +kernel) (fun _ _ _ _ _ _ us hl => match us, hl with | [_, _], _ => rfl) (He.free_ok X G (fact c 51 (f := .free "KeyError") rfl))
      · obtain ⟨fd, F⟩ := c.def_ 14 rfl
        exact xk_mk (st := topM 12 0) (xk c 4 (e := ("NoReader", .ie, some "number")) rfl) (He.glo_ok X G (fact c 14 (f := .glo "NoReader") rfl)) (by decide) F ⟨rfl, rfl, rfl, by decide +kernel, rfl, by decide +kernel, by decide +kernel⟩ ⟨_, _, _, _, _, _, _, _, _, _, _, _, _, ⟨rfl, _, fun _ => rfl⟩, rfl⟩ (by decide +kernel) (fun _ _ _ _ _ _ us hl => match us, hl with | [_, _], _ => rfl) (He.free_ok X G (fact c 50 (f := .free "IndexError") rfl))
      · obtain ⟨fd, F⟩ := c.def_ 15 rfl
        exact xk_mk (st := topM 11 0) (xk c 5 (e := ("NoNode", .ie, some "number")) rfl) (He.glo_ok X G (fact c 15 (f := .glo "NoNode") rfl)) (by decide) F ⟨rfl, rfl, rfl, by decide +kernel, rfl, by decide +kernel, by decide +kernel⟩ ⟨_, _, _, _, _, _, _, _, _, _, _, _, _, ⟨rfl, _, fun _ => rfl⟩, rfl⟩ (by decide +kernel) (fun _ _ _ _ _ _ us hl => match us, hl with | [_, _], _ => rfl) (He.free_ok X G (fact c 50 (f := .free "IndexError") rfl))
      · obtain ⟨fd, F⟩ := c.def_ 16 rfl
        exact xk_mk (st := topM 10 0) (xk c 6 (e := ("NoLane", .ie, some "number")) rfl) (He.glo_ok X G (fact c 16 (f := .glo "NoLane") rfl)) (by decide) F ⟨rfl, rfl, rfl, by decide +kernel, rfl, by decide +kernel, by decide +kernel⟩ ⟨_, _, _, _, _, _, _, _, _, _, _, _, _, ⟨rfl, _, fun _ => rfl⟩, rfl⟩ (by decide +kernel) (fun _ _ _ _ _ _ us hl => match us, hl with | [_, _], _ => rfl) (He.free_ok X G (fact c 50 (f := .free "IndexError") rfl))
      · obtain ⟨fd, F⟩ := c.def_ 17 rfl
        exact xk_mk (st := topM 9 0) (xk c 7 (e := ("NoRow", .ve, none)) rfl) (He.glo_ok X G (fact c 17 (f := .glo "NoRow") rfl)) (by decide) F ⟨rfl, rfl, rfl, by decide +kernel, rfl, by decide +kernel, by decide +kernel⟩ ⟨_, _, _, _, _, _, _, _, _, ⟨rfl, _, fun _ => rfl⟩, rfl⟩ (by decide +kernel) (fun _ _ _ _ _ _ us hl => match us, hl with | [_], _ => rfl) (He.free_ok X G (fact c 49 (f := .free "ValueError") rfl))
      · obtain ⟨fd, F⟩ := c.def_ 18 rfl
        exact xk_mk (st := topM 8 0) (xk c 8 (e := ("NoText", .ve, some "row")) rfl) (He.glo_ok X G (fact c 18 (f := .glo "NoText") rfl)) (by decide) F ⟨rfl, rfl, rfl, by decide +kernel, rfl, by decide +kernel, by decide +kernel⟩ ⟨_, _, _, _, _, _, _, _, _, _, _, _, _, ⟨rfl, _, fun _ => rfl⟩, rfl⟩ (by decide +kernel) (fun _ _ _ _ _ _ us hl => match us, hl with | [_, _], _ => rfl) (He.free_ok X G (fact c 49 (f := .free "ValueError") rfl))
      · obtain ⟨fd, F⟩ := c.def_ 19 rfl
        exact xk_mk (st := topM 7 0) (xk c 9 (e := ("NoHands", .ve, some "number")) rfl) (He.glo_ok X G (fact c 19 (f := .glo "NoHands") rfl)) (by decide) F ⟨rfl, rfl, rfl, by decide +kernel, rfl, by decide +kernel, by decide +kernel⟩ ⟨_, _, _, _, _, _, _, _, _, _, _, _, _, ⟨rfl, _, fun _ => rfl⟩, rfl⟩ (by decide +kernel) (fun _ _ _ _ _ _ us hl => match us, hl with | [_, _], _ => rfl) (He.free_ok X G (fact c 49 (f := .free "ValueError") rfl))
      · obtain ⟨fd, F⟩ := c.def_ 20 rfl
        exact xk_mk (st := topM 6 0) (xk c 10 (e := ("NoStand", .ve, some "thing")) rfl) (He.glo_ok X G (fact c 20 (f := .glo "NoStand") rfl)) (by decide) F ⟨rfl, rfl, rfl, by decide +kernel, rfl, by decide +kernel, by decide +kernel⟩ ⟨_, _, _, _, _, _, _, _, _, _, _, _, _, ⟨rfl, _, fun _ => rfl⟩, rfl⟩ (by decide +kernel) (fun _ _ _ _ _ _ us hl => match us, hl with | [_, _], _ => rfl) (He.free_ok X G (fact c 49 (f := .free "ValueError") rfl))
      · obtain ⟨fd, F⟩ := c.def_ 21 rfl
        exact xk_mk (st := topM 5 0) (xk c 11 (e := ("NoDeed", .ve, some "deed")) rfl) (He.glo_ok X G (fact c 21 (f := .glo "NoDeed") rfl)) (by decide) F ⟨rfl, rfl, rfl, by decide +kernel, rfl, by decide +kernel, by decide +kernel⟩ ⟨_, _, _, _, _, _, _, _, _, _, _, _, _, ⟨rfl, _, fun _ => rfl⟩, rfl⟩ (by decide +kernel) (fun _ _ _ _ _ _ us hl => match us, hl with | [_, _], _ => rfl) (He.free_ok X G (fact c 49 (f := .free "ValueError") rfl))
      · obtain ⟨fd, F⟩ := c.def_ 22 rfl
        exact xk_mk (st := topM 4 0) (xk c 12 (e := ("NoState", .ve, some "state")) rfl) (He.glo_ok X G (fact c 22 (f := .glo "NoState") rfl)) (by decide) F ⟨rfl, rfl, rfl, by decide +kernel, rfl, by decide +kernel, by decide +kernel⟩ ⟨_, _, _, _, _, _, _, _, _, _, _, _, _, ⟨rfl, _, fun _ => rfl⟩, rfl⟩ (by decide +kernel) (fun _ _ _ _ _ _ us hl => match us, hl with | [_, _], _ => rfl) (He.free_ok X G (fact c 49 (f := .free "ValueError") rfl))
      · obtain ⟨fd, F⟩ := c.def_ 23 rfl
        exact xk_mk (st := topM 3 0) (xk c 13 (e := ("NoBits", .ve, some "bits")) rfl) (He.glo_ok X G (fact c 23 (f := .glo "NoBits") rfl)) (by decide) F ⟨rfl, rfl, rfl, by decide +kernel, rfl, by decide +kernel, by decide +kernel⟩ ⟨_, _, _, _, _, _, _, _, _, _, _, _, _, ⟨rfl, _, fun _ => rfl⟩, rfl⟩ (by decide +kernel) (fun _ _ _ _ _ _ us hl => match us, hl with | [_, _], _ => rfl) (He.free_ok X G (fact c 49 (f := .free "ValueError") rfl))
      · obtain ⟨fd, F⟩ := c.def_ 24 rfl
        exact xk_mk (st := topM 2 0) (xk c 14 (e := ("NoNumber", .ve, some "number")) rfl) (He.glo_ok X G (fact c 24 (f := .glo "NoNumber") rfl)) (by decide) F ⟨rfl, rfl, rfl, by decide +kernel, rfl, by decide +kernel, by decide +kernel⟩ ⟨_, _, _, _, _, _, _, _, _, _, _, _, _, ⟨rfl, _, fun _ => rfl⟩, rfl⟩ (by decide +kernel) (fun _ _ _ _ _ _ us hl => match us, hl with | [_, _], _ => rfl) (He.free_ok X G (fact c 49 (f := .free "ValueError") rfl))
      · obtain ⟨fd, F⟩ := c.def_ 25 rfl
        exact xk_mk (st := topM 1 0) (xk c 15 (e := ("NoShape", .ve, some "what")) rfl) (He.glo_ok X G (fact c 25 (f := .glo "NoShape") rfl)) (by decide) F ⟨rfl, rfl, rfl, by decide +kernel, rfl, by decide +kernel, by decide +kernel⟩ ⟨_, _, _, _, _, _, _, _, _, _, _, _, _, ⟨rfl, _, fun _ => rfl⟩, rfl⟩ (by decide +kernel) (fun _ _ _ _ _ _ us hl => match us, hl with | [_, _], _ => rfl) (He.free_ok X G (fact c 49 (f := .free "ValueError") rfl))
    isa := fun _ _ _ hx => isaF_ok (nms X G c) hx
    iso := fun _ _ _ hx => isoF_ok (nms X G c) hx
    isb := fun _ hx => isbF_ok (nms X G c) hx
    xf := fun C f hx => by
      obtain ⟨_, h2⟩ := He.ba hx
      obtain ⟨h3, h4⟩ := He.ba h2
      exact ⟨xvB_ok h3, of_decide_eq_true h4⟩
    mt := fun C m g hx => by
      obtain ⟨x, hm, rfl⟩ := mtF_mem (show mtF K cmt C m = some g from hx)
      cases hm
    mkc := fun x n ks C g pm _ hx => by
      obtain ⟨pm, hm, rfl, rfl⟩ := mkF_mem (show mkF K mks x n ks = some (C, g, pm) from hx)
      cases hm
    }
end
def ns16h : List Str := ["NoShape", "NoNumber", "NoBits", "NoState", "NoDeed", "NoStand", "NoHands", "NoText", "NoRow", "NoLane", "NoNode", "NoReader", "NoRule", "NoName", "TooMany", "Bare"]
def bs6h : List Str := ["ValueError", "IndexError", "KeyError", "LookupError", "OverflowError", "RuntimeError"]
def undh (x c : Str) : Bool := if (["NoLane", "NoNode", "NoReader"] : List Str).contains x then c == "IndexError" || c == "LookupError" else if (["NoRule", "NoName"] : List Str).contains x then c == "KeyError" || c == "LookupError" else if x == "TooMany" then c == "OverflowError" else if x == "Bare" then c == "RuntimeError" else c == "ValueError"
def more (K : PySem.W.Frag) : Bool := xcs.all fun e => (ns16h.all fun c => decide (isaF K ocs (He.ga K e.1) c = some (e.1 == c))) && ((bs6h.all fun c => decide (isaF K ocs (He.ga K e.1) c = some (undh e.1 c))) && (match e.2 with
  | some f => xfB K (He.ga K e.1) f
  | none => true))
set_option Elab.async false
set_option linter.all false
set_option maxRecDepth 100000
open PySem PySem.Spec QL
abbrev R : PySem.W.OpenRow := PySem.W.OpenLaw.row PySem.Challenge.rw_quietlanes_k05_refusals_apart
def loose0 : List PySem.Str := ["_law_pool", "_law_take", "_law_kinds", "_law_base_kinds", "_law_made", "_law_field", "_law_due_kinds", "_law_value", "_law_right", "NoShape", "NoNumber", "NoBits", "NoState", "NoDeed", "NoStand", "NoHands", "NoText", "NoRow", "NoLane", "NoNode", "NoReader", "NoRule", "NoName", "TooMany", "Bare"]
def loose : List PySem.Str := loose0
abbrev hk : PySem.W.Hook := hookQ 6 (exs more) dfs
def ob (s : PySem.W.SharedT) : AlQ := obsQG 6 (exs more) dfs (HandSHeadRun.getT s)
theorem ob_eq (s : PySem.W.SharedT) : ob s = hk.obs s.abs := obsQG_eq (HandSHeadRun.getT_eq s)
set_option maxHeartbeats 0 in
theorem run (w : World) : HandSHeadRun.RunEq R (PySem.W.view R.prog [27]) hk ob 40000 loose w := by
  intro os
  kernel_rfl
set_option Elab.async false
set_option linter.all false
set_option maxRecDepth 100000
set_option maxHeartbeats 4000000
open PySem QL
open L2 hiding wE wT
local macro_rules | `(tactic| walk_at "s") => `(tactic| repeat (with_reducible first | refine s_lit ?_ | refine s_var rfl ?_ | refine s_op ?_ | refine s_cmp ?_ | refine s_cons ?_ | refine s_nil ?_ | refine s_fn ?_ | refine s_bi ?_ | refine s_idx ?_ | refine s_fld ?_ | refine s_not ?_ | refine s_and ?_ | refine s_or ?_ | refine s_chn ?_ | refine s_ite ?_ | refine s_slc ?_ | refine s_isi ?_ | refine s_neg ?_ | refine s_lst ?_ | refine s_tup ?_ | refine s_ono ?_ | refine s_osome ?_ | refine t_val ?_ | refine t_cmp ?_ | refine t_chn ?_ | refine t_and ?_ | refine t_or ?_ | refine t_not ?_ | refine d_cons ?_ | refine d_nil ?_ | refine d_asg ?_ | refine d_setI ?_ | refine d_setF ?_ | refine d_par ?_ | refine d_exp ?_ | refine d_ret ?_ | refine d_retN ?_ | refine d_ifs ?_ | refine d_rng ?_ | refine d_forL ?_ | refine d_pass ?_ | refine s_isx ?_ | refine s_mkx ?_ | refine s_dct0 ?_ | refine s_met ?_ | refine s_bm ?_ | refine s_mkC ?_ | refine d_rai ?_ | refine d_unp ?_ | refine d_aug rfl ?_ | refine v_add ?_ | refine v_sub ?_ | refine v_lt ?_ | refine v_le ?_ | refine v_gt ?_ | refine v_ge ?_ | refine v_eq ?_ | refine v_ne ?_ | refine v_eqS ?_ | refine v_neS ?_ | refine v_isN ?_ | refine v_notN ?_ | refine v_isB ?_ | refine v_notB ?_ | refine v_bool ?_ | refine v_trB ?_ | refine v_trI ?_ | refine v_trN ?_ | refine v_int ?_ | refine v_btN ?_ | refine v_btI_int ?_ | refine v_btI_bool ?_ | refine v_btI_str ?_ | refine v_btI_list ?_ | refine v_btI_tuple ?_ | refine v_btB_int ?_ | refine v_btB_bool ?_ | refine v_btB_str ?_ | refine v_btB_list ?_ | refine v_btB_tuple ?_ | refine v_btS_int ?_ | refine v_btS_bool ?_ | refine v_btS_str ?_ | refine v_btS_list ?_ | refine v_btS_tuple ?_ | refine v_min ?_ | refine v_max ?_ | refine v_abs ?_ | refine v_intB ?_ | refine v_intI ?_ | refine v_ifT ?_ | refine v_ifF ?_ | refine v_ifNT ?_ | refine v_ifNF ?_))
def ns16 : List Str := ["NoShape", "NoNumber", "NoBits", "NoState", "NoDeed", "NoStand", "NoHands", "NoText", "NoRow", "NoLane", "NoNode", "NoReader", "NoRule", "NoName", "TooMany", "Bare"]
def bs6 : List Str := ["ValueError", "IndexError", "KeyError", "LookupError", "OverflowError", "RuntimeError"]
/-- the errors: name, field, the six bases -/
def ets : List (Str × Option Str) := [("NoShape", some "what"), ("NoNumber", some "number"), ("NoBits", some "bits"), ("NoState", some "state"), ("NoDeed", some "deed"), ("NoStand", some "thing"), ("NoHands", some "number"), ("NoText", some "row"), ("NoRow", none), ("NoLane", some "number"), ("NoNode", some "number"), ("NoReader", some "number"), ("NoRule", some "rule"), ("NoName", some "name"), ("TooMany", some "many"), ("Bare", none)]
/-- which of the six an error lies under -/
def dues : List (List Int) := [[0], [0], [0], [0], [0], [0], [0], [0], [0], [1, 3], [1, 3], [1, 3], [2, 3], [2, 3], [4], [5]]
def und (x c : Str) : Bool := if (["NoLane", "NoNode", "NoReader"] : List Str).contains x then c == "IndexError" || c == "LookupError" else if (["NoRule", "NoName"] : List Str).contains x then c == "KeyError" || c == "LookupError" else if x == "TooMany" then c == "OverflowError" else if x == "Bare" then c == "RuntimeError" else c == "ValueError"
structure Cs (S : Stat) (A : Str → Addr) : Prop where
  xc : ∀ e ∈ ets, S.xc e.1 = some (A e.1, e.2)
  isa : ∀ e ∈ ets, ∀ c ∈ ns16, S.isa (A e.1) c = some (e.1 == c)
  isb : ∀ e ∈ ets, ∀ c ∈ bs6, S.isa (A e.1) c = some (und e.1 c)
  xf : ∀ e ∈ ets, ∀ f, e.2 = some f → S.xf (A e.1) f
section
variable {S : Stat} {n : Nat} {H : Hp} {Q : VK} {E : XK} {A : Str → Addr}
theorem w_take {p : Addr} {a b s : Int} (hp : H p = some (.lst [.int a, .int b])) (hb0 : 0 ≤ b) (hb1 : b < 2147483647) (ha : 0 ≤ a) (hs : 0 < s) (hs2 : s < 1073741824)
    (h : ∀ r a' b', 0 ≤ r → r < s → 0 ≤ a' → 0 ≤ b' → b' < 2147483647 → Q (.int r) (upd H p (.lst [.int a', .int b']))) : (sem S T (n + 1)).fn "_law_take" [.ref p, .int s] H Q E := by
  refine u_law_take ?_
  unfold b_law_take
  have hr : rd S.so H p = some (.lst [.int a, .int b]) := rd_here hp
  walk_at "s"
  refine v_idx hr rfl ?_
  walk_at "s"
  refine v_dec (fun h0 => ?_) (fun h0 => ?_)
  · walk_at "s"
    refine v_idx hr rfl ?_
    walk_at "s"
    refine v_mod hs ?_
    walk_at "s"
    refine v_idx hr rfl ?_
    walk_at "s"
    refine v_div ⟨hs, hs2⟩ ?_
    walk_at "s"
    refine v_setL hp rfl ?_
    walk_at "s"
    exact h _ _ _ (Int.emod_nonneg _ (by omega)) (Int.emod_lt_of_pos _ hs) (Int.ediv_nonneg ha (by omega)) hb0 hb1
  · walk_at "s"
    refine v_idx hr rfl ?_
    walk_at "s"
    refine v_mul (.inl ⟨by omega, by omega⟩) ?_
    walk_at "s"
    refine v_mod (by decide) ?_
    walk_at "s"
    refine v_setL hp rfl ?_
    walk_at "s"
    have g0 : 0 ≤ (b * 48271 + 11) % 2147483647 := Int.emod_nonneg _ (by decide)
    have g1 : (b * 48271 + 11) % 2147483647 < 2147483647 := Int.emod_lt_of_pos _ (by decide)
    refine v_idx rd_new rfl ?_
    walk_at "s"
    refine v_idx rd_new rfl ?_
    refine v_mul (.inl ⟨by omega, by omega⟩) ?_
    walk_at "s"
    refine v_mod (by decide) ?_
    walk_at "s"
    refine v_div ⟨by decide, by decide⟩ ?_
    walk_at "s"
    refine v_mod hs ?_
    exact h _ _ _ (Int.emod_nonneg _ (by omega)) (Int.emod_lt_of_pos _ hs) ha g0 g1
theorem cut_at {ns : List Int} {k : Int} (hk : 0 ≤ k) : ∃ c r, cutV (ns.map V.int) (some k) (some (k + 1)) ++ [V.int 0] = V.int c :: r ∧ r.length ≤ 1 := by
  obtain ⟨m, rfl⟩ := Int.eq_ofNat_of_zero_le hk
  unfold cutV
  have e : (Int.ofNat m + 1) = ((m + 1 : Nat) : Int) := rfl
  rw [show (some ((m : Nat) : Int)) = some ((m : Nat) : Int) from rfl, show (((m : Nat) : Int) + 1) = ((m + 1 : Nat) : Int) from by push_cast; rfl, HT.sIx_nat, HT.sIx_nat]
  rw [List.length_map]
  by_cases h : m < ns.length
  · have h1 : min m ns.length = m := by omega
    have h2 : min (m + 1) ns.length = m + 1 := by omega
    rw [h1, h2, ← List.map_drop]
    cases q : ns.drop m with
    | nil =>
      have := List.drop_eq_nil_iff.mp q
      omega
    | cons c r =>
      refine ⟨c, [V.int 0], ?_, by simp⟩
      have : m + 1 - m = 1 := by omega
      rw [this]
      rfl
  · have h1 : min m ns.length = ns.length := by omega
    have h2 : min (m + 1) ns.length = ns.length := by omega
    rw [h1, h2]
    exact ⟨0, [], by simp, by simp⟩
theorem w_pool {s : Addr} {ns : List Int} {k : Int} (hs : rd S.so H s = some (.lst (ns.map V.int))) (hk : 0 ≤ k) (hk2 : k < 100) (hl : ns.length ≤ 63)
    (h : ∀ H' p a b, Ext S.so H H' → H p = none → S.so p = none → H' p = some (.lst [.int a, .int b]) → 0 ≤ a → 0 ≤ b → b < 2147483647 → Q (.ref p) H') : (sem S T (n + 1)).fn "_law_pool" [.ref s, .int k] H Q E := by
  refine u_law_pool ?_
  unfold b_law_pool
  walk_at "s"
  refine v_slc hs fun p1 hp1 hq1 => ?_
  walk_at "s"
  refine ⟨by show 1 ≤ sizeLine; decide, fun p2 hp2 hq2 => ?_⟩
  have n12 : p1 ≠ p2 := fun e => by rw [e, upd_same] at hp2; cases hp2
  have hlen := cutV_length (ns.map V.int) (some k) (some (k + 1))
  rw [List.length_map] at hlen
  refine v_addL (by rw [upd_ne n12, upd_same]) upd_same (Nat.le_trans (Nat.add_le_add_right hlen _) (by show _ ≤ 16777216; simp; omega)) fun p3 hp3 hq3 => ?_
  obtain ⟨c, r, ec, _⟩ := cut_at (ns := ns) hk
  rw [ec]
  walk_at "s"
  refine v_idx rd_new (atI_nat (j := 0) rfl) ?_
  walk_at "s"
  refine v_mod (by decide) ?_
  have g0 : 0 ≤ c % 2147483647 := Int.emod_nonneg _ (by decide)
  have g1 : c % 2147483647 < 2147483647 := Int.emod_lt_of_pos _ (by decide)
  walk_at "s"
  refine v_mul (.inl ⟨by decide, by decide⟩) ?_
  walk_at "s"
  refine v_mul (.inl ⟨by omega, by omega⟩) ?_
  walk_at "s"
  refine v_mod (by decide) ?_
  walk_at "s"
  refine v_pow ⟨by decide, by decide, by decide⟩ ?_
  walk_at "s"
  have hc : ∀ k : Bool, CMul (if k = true then 1 else 0) c := fun k => .inl (by cases k <;> exact ⟨by decide, by decide⟩)
  refine v_mul (hc _) ?_
  walk_at "s"
  refine ⟨by show 2 ≤ sizeLine; decide, fun p hp hq => ?_⟩
  have E3 : Ext S.so H (upd (upd (upd H p1 (.lst (cutV (ns.map V.int) (some k) (some (k + 1))))) p2 (.lst [V.int 0])) p3 (.lst (V.int c :: r))) := ((Ext.new hp1 hq1).trans (Ext.new hp2 hq2)).trans (Ext.new hp3 hq3)
  have hp0 : H p = none := by
    cases q : H p with
    | none => rfl
    | some o =>
      rw [E3.keep _ _ q] at hp
      cases hp
  refine h _ p _ _ (E3.trans (Ext.new hp hq)) hp0 hq upd_same ?_ (Int.emod_nonneg _ (by decide)) (by
    have := Int.emod_lt_of_pos ((c % 2147483647 + 7919 * k + 1) * 48271) (show (0 : Int) < 2147483629 by decide)
    omega)
  by_cases hc : (10 : Int) ^ (18 : Int).toNat ≤ c
  · simp only [hc, decide_true, if_true]
    have : (0 : Int) < 10 ^ (18 : Int).toNat := by decide
    omega
  · simp only [hc, decide_false, Bool.false_eq_true, if_false]
    omega
/-! ### an error's kinds -/
def isxs : List Str → Exs
  | [] => .nil
  | c :: r => .cons (.isx (.var 0) c) (isxs r)
theorem w_isxs {F : Sm} {W : WX} {e D : Addr} {fs : List (Str × V)} {σ : St} (X : Xat H e D fs) (hs : σ[0]? = some (some (.ref e))) (f : Str → Bool) : ∀ (cs : List Str) {Q : List V → Hp → Prop}, (∀ c ∈ cs, S.isa D c = some (f c)) → Q (cs.map fun c => V.bl (f c)) H → wA S F W (isxs cs) σ H Q
  | [], Q, _, h => s_nil h
  | c :: cs, Q, ha, h => by
    refine s_cons (s_isx (s_var hs (v_isx X (ha c (List.mem_cons_self ..)) ?_)))
    exact w_isxs X hs f cs (fun d hd => ha d (List.mem_cons_of_mem _ hd)) h
theorem k_add {F : Sm} {W : WX} {e D p : Addr} {fs : List (Str × V)} {xs : List V} (X : Xat H e D fs) (hp : H p = some (.lst xs)) (f : Str → Bool) (cs : List Str) {Q : VK} (ha : ∀ c ∈ cs, S.isa D c = some (f c)) (hl : xs.length + cs.length ≤ 100)
    (h : ∀ r H', Ext S.so H H' → H r = none → S.so r = none → H' r = some (.lst (xs ++ cs.map fun c => V.bl (f c))) → Q (.ref r) H') : wE S F W (.op .Add (.var 1) (.lst (isxs cs))) [some (.ref e), some (.ref p)] H Q := by
  have sz : ∀ k, k ≤ 100 → k ≤ sizeLine := fun k hk => Nat.le_trans hk (by decide)
  refine s_op (s_var rfl (s_lst (w_isxs X rfl f cs ha ⟨sz _ (by rw [List.length_map]; omega), fun q hq hs => ?_⟩)))
  refine v_addL (by rw [upd_ne (ne_of_none hp hq)]; exact hp) upd_same (sz _ (by rw [List.length_map]; omega)) fun r hr hs2 => ?_
  have X1 : Ext S.so H (upd H q (.lst (cs.map fun c => V.bl (f c)))) := Ext.new hq hs
  refine h r _ (X1.trans (Ext.new hr hs2)) ?_ hs2 upd_same
  cases z : H r with
  | none => rfl
  | some o =>
    rw [X1.keep _ _ z] at hr
    cases hr
theorem w_kinds {e D : Addr} {fs : List (Str × V)} {f : Str → Bool} (X : Xat H e D fs) (ha : ∀ c ∈ ns16, S.isa D c = some (f c)) (h : ∀ H' p, Ext S.so H H' → H p = none → S.so p = none → H' p = some (.lst (ns16.map fun c => V.bl (f c))) → Q (.ref p) H') : (sem S T (n + 1)).fn "_law_kinds" [.ref e] H Q E := by
  refine u_law_kinds ?_
  unfold b_law_kinds
  have sz : ∀ k, k ≤ 100 → k ≤ sizeLine := fun k hk => Nat.le_trans hk (by decide)
  have sub : ∀ (cs : List Str), (∀ c ∈ cs, c ∈ ns16) → ∀ c ∈ cs, S.isa D c = some (f c) := fun cs hc c hm => ha c (hc c hm)
  refine d_cons (d_asg (s_lst ?_))
  refine w_isxs X rfl f ["NoShape", "NoNumber", "NoBits"] (sub _ (by decide)) ⟨sz _ (by simp), fun p1 hp1 hq1 => ?_⟩
  have E1 : Ext S.so H (upd H p1 (.lst ((["NoShape", "NoNumber", "NoBits"] : List Str).map fun c => V.bl (f c)))) := Ext.new hp1 hq1
  refine d_cons (d_asg ?_)
  refine k_add (X.ext E1) upd_same f ["NoState", "NoDeed", "NoStand"] (sub _ (by decide)) (by simp) fun p2 H2 E2 n2 q2 h2 => ?_
  refine d_cons (d_asg ?_)
  refine k_add ((X.ext E1).ext E2) h2 f ["NoHands", "NoText", "NoRow"] (sub _ (by decide)) (by simp) fun p3 H3 E3 n3 q3 h3 => ?_
  refine d_cons (d_asg ?_)
  refine k_add (((X.ext E1).ext E2).ext E3) h3 f ["NoLane", "NoNode", "NoReader"] (sub _ (by decide)) (by simp) fun p4 H4 E4 n4 q4 h4 => ?_
  refine d_cons (d_asg ?_)
  refine k_add ((((X.ext E1).ext E2).ext E3).ext E4) h4 f ["NoRule", "NoName", "TooMany"] (sub _ (by decide)) (by simp) fun p5 H5 E5 n5 q5 h5 => ?_
  refine d_cons (d_ret ?_)
  refine k_add (((((X.ext E1).ext E2).ext E3).ext E4).ext E5) h5 f ["Bare"] (sub _ (by decide)) (by simp) fun p6 H6 E6 n6 q6 h6 => ?_
  have EE := (((E1.trans E2).trans E3).trans E4).trans E5
  refine h H6 p6 (EE.trans E6) ?_ q6 h6
  cases z : H p6 with
  | none => rfl
  | some o =>
    rw [EE.keep _ _ z] at n6
    cases n6
theorem w_base {e D : Addr} {fs : List (Str × V)} {f : Str → Bool} (X : Xat H e D fs) (ha : ∀ c ∈ bs6, S.isa D c = some (f c)) (h : ∀ H' p, Ext S.so H H' → H' p = some (.lst (bs6.map fun c => V.bl (f c))) → Q (.ref p) H') : (sem S T (n + 1)).fn "_law_base_kinds" [.ref e] H Q E := by
  refine u_law_base_kinds ?_
  unfold b_law_base_kinds
  have sz : ∀ k, k ≤ 100 → k ≤ sizeLine := fun k hk => Nat.le_trans hk (by decide)
  have sub : ∀ (cs : List Str), (∀ c ∈ cs, c ∈ bs6) → ∀ c ∈ cs, S.isa D c = some (f c) := fun cs hc c hm => ha c (hc c hm)
  refine d_cons (d_asg (s_lst ?_))
  refine w_isxs X rfl f ["ValueError", "IndexError", "KeyError"] (sub _ (by decide)) ⟨sz _ (by simp), fun p1 hp1 hq1 => ?_⟩
  have E1 : Ext S.so H (upd H p1 (.lst ((["ValueError", "IndexError", "KeyError"] : List Str).map fun c => V.bl (f c)))) := Ext.new hp1 hq1
  refine d_cons (d_ret ?_)
  refine k_add (X.ext E1) upd_same f ["LookupError", "OverflowError", "RuntimeError"] (sub _ (by decide)) (by simp) fun p2 H2 E2 n2 q2 h2 => ?_
  exact h H2 p2 (E1.trans E2) h2
/-! ### errors made -/
def fsOf : Option Str → V → List (Str × V)
  | some f, v => [(f, v)]
  | none, _ => []
def mkxs : List (Str × Option Str) → Exs
  | [] => .nil
  | (c, some _) :: r => .cons (.mkx c (.cons (.var 1) .nil)) (mkxs r)
  | (c, none) :: r => .cons (.mkx c .nil) (mkxs r)
theorem w_mkxs {F : Sm} {W : WX} {σ : St} {v : V} (hs : σ[1]? = some (some v)) : ∀ (es : List (Str × Option Str)) {H : Hp} {Q : List V → Hp → Prop}, (∀ e ∈ es, S.xc e.1 = some (A e.1, e.2)) →
    (∀ (rs : List V) (H' : Hp), Ext S.so H H' → rs.length = es.length → (∀ (j : Nat) (e : Str × Option Str), es[j]? = some e → ∃ a, rs[j]? = some (V.ref a) ∧ Xat H' a (A e.1) (fsOf e.2 v)) → Q rs H') → wA S F W (mkxs es) σ H Q
  | [], H, Q, _, h => s_nil (h [] H Ext.refl rfl fun j e he => by simp at he)
  | (c, some f) :: r, H, Q, hx, h => by
    refine s_cons (s_mkx (s_cons (s_var hs (s_nil ?_))))
    have hc := hx (c, some f) (List.mem_cons_self ..)
    unfold mkxV
    simp only [hc]
    intro a d ha hd hne sa sd
    have hda : upd H d (.xd [(f, v)]) a = none := by rw [upd_ne hne.symm]; exact ha
    have E1 : Ext S.so H (upd (upd H d (.xd [(f, v)])) a (exV a (A c) (some d))) := (Ext.new hd sd).trans (Ext.new hda sa)
    have X1 : Xat (upd (upd H d (.xd [(f, v)])) a (exV a (A c) (some d))) a (A c) [(f, v)] := ⟨some d, upd_same, by show upd _ a _ d = _; rw [upd_ne hne, upd_same]⟩
    refine w_mkxs hs r (fun e he => hx e (List.mem_cons_of_mem _ he)) fun rs H' E2 hl hr => ?_
    refine h (.ref a :: rs) H' (E1.trans E2) (by rw [List.length_cons, List.length_cons, hl]) fun j e he => ?_
    cases j with
    | zero => cases he; exact ⟨a, rfl, X1.ext E2⟩
    | succ j => exact hr j e (by simpa using he)
  | (c, none) :: r, H, Q, hx, h => by
    refine s_cons (s_mkx (s_nil ?_))
    have hc := hx (c, none) (List.mem_cons_self ..)
    unfold mkxV
    simp only [hc]
    refine ⟨trivial, fun a ha sa => ?_⟩
    have E1 : Ext S.so H (upd H a (exV a (A c) none)) := Ext.new ha sa
    have X1 : Xat (upd H a (exV a (A c) none)) a (A c) [] := ⟨none, upd_same, rfl⟩
    refine w_mkxs hs r (fun e he => hx e (List.mem_cons_of_mem _ he)) fun rs H' E2 hl hr => ?_
    refine h (.ref a :: rs) H' (E1.trans E2) (by rw [List.length_cons, List.length_cons, hl]) fun j e he => ?_
    cases j with
    | zero => cases he; exact ⟨a, rfl, X1.ext E2⟩
    | succ j => exact hr j e (by simpa using he)
theorem atI_nat {xs : List V} {j : Nat} {v : V} (h : xs[j]? = some v) : atI xs (j : Int) = some v := by
  have hl : j < xs.length := (List.getElem?_eq_some_iff.mp h).1
  unfold atI ixN
  have h1 : (0 : Int) ≤ (j : Int) := Int.natCast_nonneg j
  simp [h1, hl]
  rw [List.getElem?_eq_getElem hl] at h
  exact Option.some.inj h
theorem made_of (C : Cs S A) {F : Sm} {W : WX} {i : Int} {v : V} (es : List (Str × Option Str)) (j : Nat) {e : Str × Option Str} (he : es[j]? = some e) (hes : ∀ e ∈ es, e ∈ ets) (hl : es.length ≤ 16) {b : Ex} (hb : ∀ {H : Hp} {Q : VK}, Q (.int (j : Int)) H → wE S F W b [some (.int i), some v] H Q)
    (h : ∀ (a : Addr) (H' : Hp), Ext S.so H H' → Xat H' a (A e.1) (fsOf e.2 v) → Q (V.ref a) H') : wE S F W (.idx (.lst (mkxs es)) b) [some (.int i), some v] H Q := by
  refine s_idx (s_lst (w_mkxs rfl es (fun e he => C.xc e (hes e he)) fun rs H1 E1 l1 hr => ⟨Nat.le_trans (by rw [l1]; exact hl) (by decide), fun p hp hs => ?_⟩))
  have E2 := E1.trans (Ext.new (o := .lst rs) hp hs)
  obtain ⟨a, ha, Xa⟩ := hr j e he
  refine hb (v_idx (rd_here upd_same) (atI_nat ha) ?_)
  exact h a _ E2 (Xa.ext (Ext.new hp hs))
theorem w_made (C : Cs S A) {j : Nat} {v : V} {e : Str × Option Str} (he : ets[j]? = some e) (h : ∀ (a : Addr) (H' : Hp), Ext S.so H H' → Xat H' a (A e.1) (fsOf e.2 v) → Q (.ref a) H') : (sem S T (n + 1)).fn "_law_made" [.int (j : Int), v] H Q E := by
  refine u_law_made ?_
  unfold b_law_made
  have hj : j < 16 := (List.getElem?_eq_some_iff.mp he).1
  walk_at "s"
  refine v_dec (fun h6 => ?_) (fun h6 => ?_)
  · have : j < 6 := by omega
    refine d_cons (d_ret (made_of C (ets.take 6) j (by rw [List.getElem?_take_of_lt this]; exact he) (fun e he => List.mem_of_mem_take he) (by decide) (fun q => s_var rfl q) h))
  · walk_at "s"
    refine v_dec (fun h12 => ?_) (fun h12 => ?_)
    · refine d_cons (d_ret (made_of C ((ets.drop 6).take 6) (j - 6) (by rw [List.getElem?_take_of_lt (by omega), List.getElem?_drop]; rw [show 6 + (j - 6) = j by omega]; exact he) (fun e he => List.mem_of_mem_drop (List.mem_of_mem_take he)) (by decide) (fun q => ?_) h))
      refine s_op (s_var rfl (s_lit (v_sub ?_)))
      rw [show (j : Int) - 6 = ((j - 6 : Nat) : Int) by omega]
      exact q
    · refine d_cons (d_ret (made_of C (ets.drop 12) (j - 12) (by rw [List.getElem?_drop, show 12 + (j - 12) = j by omega]; exact he) (fun e he => List.mem_of_mem_drop he) (by decide) (fun q => ?_) h))
      refine s_op (s_var rfl (s_lit (v_sub ?_)))
      rw [show (j : Int) - 12 = ((j - 12 : Nat) : Int) by omega]
      exact q
end
set_option Elab.async false
set_option linter.all false
set_option maxRecDepth 100000
set_option maxHeartbeats 4000000
open PySem QL
open L2 hiding wE wT
section
variable {S : Stat} {n : Nat} {H : Hp} {Q : VK} {E : XK} {A : Str → Addr}
theorem v_inT {so : Addr → Option HO} {x : V} {p : Addr} {xs : List V} {b : Bool} (hp : rd so H p = some (.tup xs)) (f1 : flatV x = true) (f2 : xs.all flatV = true) (e : (inV x xs != false) = b) (h : Q (.bl b) H) : cmpV so .In x (.ref p) H Q := by
  show inD so false x (.ref p) H Q
  unfold inD
  simp only [hp]
  exact ⟨f1, f2, by rw [e]; exact h⟩
theorem v_ninT {so : Addr → Option HO} {x : V} {p : Addr} {xs : List V} {b : Bool} (hp : rd so H p = some (.tup xs)) (f1 : flatV x = true) (f2 : xs.all flatV = true) (e : (inV x xs != true) = b) (h : Q (.bl b) H) : cmpV so .NotIn x (.ref p) H Q := by
  show inD so true x (.ref p) H Q
  unfold inD
  simp only [hp]
  exact ⟨f1, f2, by rw [e]; exact h⟩
theorem v_inL {so : Addr → Option HO} {x : V} {p : Addr} {xs : List V} (hp : rd so H p = some (.lst xs)) (f1 : flatV x = true) (f2 : xs.all flatV = true) (h : Q (.bl (inV x xs)) H) : cmpV so .In x (.ref p) H Q := by
  show inD so false x (.ref p) H Q
  unfold inD
  simp only [hp]
  exact ⟨f1, f2, by rw [show (inV x xs != false) = inV x xs by cases inV x xs <;> rfl]; exact h⟩
theorem w_field (C : Cs S A) {j : Nat} {e : Addr} {x f : Str} {v : V} (he : ets[j]? = some (x, some f)) (X : Xat H e (A x) [(f, v)]) (h : ∀ H', Ext S.so H H' → Q v H') : (sem S T (n + 1)).fn "_law_field" [.int (j : Int), .ref e] H Q E := by
  have xf := C.xf (x, some f) (List.mem_of_getElem? he) f rfl
  refine u_law_field ?_
  unfold b_law_field
  walk_at "s"
  refine ⟨by show 5 ≤ sizeLine; decide, fun p hp hs => ?_⟩
  have E1 := Ext.new (so := S.so) (o := .tup [.int 1, .int 6, .int 9, .int 10, .int 11]) hp hs
  have X1 := X.ext E1
  replace h := h _ E1
  have r1 : rd S.so (upd H p (.tup [.int 1, .int 6, .int 9, .int 10, .int 11])) p = some (.tup [.int 1, .int 6, .int 9, .int 10, .int 11]) := rd_hereT upd_same
  generalize upd H p (.tup [.int 1, .int 6, .int 9, .int 10, .int 11]) = H1 at *
  have fin : ∀ {F : Sm} {W : WX} {σ : St}, σ[1]? = some (some (.ref e)) → wE S F W (.fld (.var 1) f) σ H1 Q := fun {F W σ} hσ => s_fld (s_var hσ (v_xfld X1 xf (by simp [List.lookup]) h))
  match j, he with
  | 1, he => cases he; refine v_inT (b := true) r1 rfl rfl (by decide) ?_; walk_at "s"; exact v_xfld X1 xf (by simp [List.lookup]) h
  | 6, he => cases he; refine v_inT (b := true) r1 rfl rfl (by decide) ?_; walk_at "s"; exact v_xfld X1 xf (by simp [List.lookup]) h
  | 9, he => cases he; refine v_inT (b := true) r1 rfl rfl (by decide) ?_; walk_at "s"; exact v_xfld X1 xf (by simp [List.lookup]) h
  | 10, he => cases he; refine v_inT (b := true) r1 rfl rfl (by decide) ?_; walk_at "s"; exact v_xfld X1 xf (by simp [List.lookup]) h
  | 11, he => cases he; refine v_inT (b := true) r1 rfl rfl (by decide) ?_; walk_at "s"; exact v_xfld X1 xf (by simp [List.lookup]) h
  | 0, he | 2, he | 3, he | 4, he | 5, he | 7, he | 12, he | 13, he | 14, he =>
    cases he
    refine v_inT (b := false) r1 rfl rfl (by decide) ?_
    walk_at "s"
    repeat (first | (refine v_decP (by decide) ?_; walk_at "s"; exact v_xfld X1 xf (by simp [List.lookup]) h) | (refine v_decN (by decide) ?_; walk_at "s"))
    try exact v_xfld X1 xf (by simp [List.lookup]) h
  | 8, he => cases he
  | 15, he => cases he
  | j + 16, he => cases he
def duB (j : Nat) : List Bool := (List.range 6).map fun i => inV (.int (0 + (i : Nat))) ((dues.getD j []).map V.int)
theorem flat_ints : ∀ (ds : List Int), (ds.map V.int).all flatV = true
  | [] => rfl
  | d :: ds => by rw [List.map_cons, List.all_cons, flat_ints ds]; rfl
theorem w_due_kinds {j : Nat} (hj : j < 16) (h : ∀ H' p, Ext S.so H H' → H' p = some (.lst ((duB j).map V.bl)) → Q (.ref p) H') : (sem S T (n + 1)).fn "_law_due_kinds" [.int (j : Int)] H Q E := by
  refine u_law_due_kinds ?_
  unfold b_law_due_kinds
  have z1 : 1 ≤ sizeLine := by decide
  have z2 : 2 ≤ sizeLine := by decide
  walk_at "s"
  refine ⟨z1, fun p1 n1 s1 => ?_⟩
  walk_at "s"
  refine ⟨z1, fun p2 n2 s2 => ?_⟩
  walk_at "s"
  refine v_mulL upd_same (by decide) (by decide) (by show 1 * 9 ≤ sizeLine; decide) fun p3 n3 s3 => ?_
  walk_at "s"
  refine ⟨z2, fun p4 n4 s4 => ?_⟩
  walk_at "s"
  refine ⟨z1, fun p5 n5 s5 => ?_⟩
  walk_at "s"
  refine v_mulL upd_same (by decide) (by decide) (by show 1 * 3 ≤ sizeLine; decide) fun p6 n6 s6 => ?_
  have E1 := Ext.new (so := S.so) (o := .lst [.int 0]) n1 s1
  have E2 := Ext.new (so := S.so) (o := .lst [.ref p1]) n2 s2
  have E3 := Ext.new (so := S.so) (o := .lst (List.replicate (9 : Int).toNat [V.ref p1]).flatten) n3 s3
  have E4 := Ext.new (so := S.so) (o := .lst [.int 1, .int 3]) n4 s4
  have E5 := Ext.new (so := S.so) (o := .lst [.ref p4]) n5 s5
  have E6 := Ext.new (so := S.so) (o := .lst (List.replicate (3 : Int).toNat [V.ref p4]).flatten) n6 s6
  refine v_addL (((E4.trans E5).trans E6).keep _ _ upd_same) upd_same (by show 9 + 3 ≤ sizeLine; decide) fun p7 n7 s7 => ?_
  have E7 := Ext.new (so := S.so) (o := .lst ((List.replicate (9 : Int).toNat [V.ref p1]).flatten ++ (List.replicate (3 : Int).toNat [V.ref p4]).flatten)) n7 s7
  have k1 := (E2.trans (E3.trans (E4.trans (E5.trans (E6.trans E7))))).keep _ _ (upd_same (H := H) (a := p1) (o := .lst [.int 0]))
  have k4 := (E5.trans (E6.trans E7)).keep _ _ (upd_same (a := p4) (o := .lst [.int 1, .int 3]))
  have k7 := upd_same (H := upd (upd (upd (upd (upd (upd H p1 (.lst [.int 0])) p2 (.lst [.ref p1])) p3 (.lst (List.replicate (9 : Int).toNat [V.ref p1]).flatten)) p4 (.lst [.int 1, .int 3])) p5 (.lst [.ref p4])) p6 (.lst (List.replicate (3 : Int).toNat [V.ref p4]).flatten)) (a := p7) (o := .lst ((List.replicate (9 : Int).toNat [V.ref p1]).flatten ++ (List.replicate (3 : Int).toNat [V.ref p4]).flatten))
  have EA := E1.trans (E2.trans (E3.trans (E4.trans (E5.trans (E6.trans E7)))))
  clear E1 E2 E3 E4 E5 E6 E7 n1 n2 n3 n4 n5 n6 n7
  generalize upd (upd (upd (upd (upd (upd (upd H p1 (.lst [.int 0])) p2 (.lst [.ref p1])) p3 (.lst (List.replicate (9 : Int).toNat [V.ref p1]).flatten)) p4 (.lst [.int 1, .int 3])) p5 (.lst [.ref p4])) p6 (.lst (List.replicate (3 : Int).toNat [V.ref p4]).flatten)) p7 (.lst ((List.replicate (9 : Int).toNat [V.ref p1]).flatten ++ (List.replicate (3 : Int).toNat [V.ref p4]).flatten)) = G at *
  walk_at "s"
  refine ⟨z2, fun p8 n8 s8 => ?_⟩
  walk_at "s"
  refine ⟨z1, fun p9 n9 s9 => ?_⟩
  walk_at "s"
  refine v_mulL upd_same (by decide) (by decide) (by show 1 * 2 ≤ sizeLine; decide) fun pa na sa => ?_
  have E8 := Ext.new (so := S.so) (o := .lst [.int 2, .int 3]) n8 s8
  have E9 := Ext.new (so := S.so) (o := .lst [.ref p8]) n9 s9
  have Ea := Ext.new (so := S.so) (o := .lst (List.replicate (2 : Int).toNat [V.ref p8]).flatten) na sa
  refine v_addL (((E8.trans E9).trans Ea).keep _ _ k7) upd_same (by show 12 + 2 ≤ sizeLine; decide) fun pb nb sb => ?_
  have Eb := Ext.new (so := S.so) (o := .lst (((List.replicate (9 : Int).toNat [V.ref p1]).flatten ++ (List.replicate (3 : Int).toNat [V.ref p4]).flatten) ++ (List.replicate (2 : Int).toNat [V.ref p8]).flatten)) nb sb
  walk_at "s"
  refine ⟨z1, fun pc nc sc => ?_⟩
  walk_at "s"
  refine ⟨z1, fun pd nd sd => ?_⟩
  walk_at "s"
  refine ⟨z2, fun pe ne se => ?_⟩
  have Ec := Ext.new (so := S.so) (o := .lst [.int 4]) nc sc
  have Ed := Ext.new (so := S.so) (o := .lst [.int 5]) nd sd
  have Ee := Ext.new (so := S.so) (o := .lst [.ref pc, .ref pd]) ne se
  refine v_addL (((Ec.trans Ed).trans Ee).keep _ _ upd_same) upd_same (by show 14 + 2 ≤ sizeLine; decide) fun pf nf sf => ?_
  have Ef := Ext.new (so := S.so) (o := .lst ((((List.replicate (9 : Int).toNat [V.ref p1]).flatten ++ (List.replicate (3 : Int).toNat [V.ref p4]).flatten) ++ (List.replicate (2 : Int).toNat [V.ref p8]).flatten) ++ [.ref pc, .ref pd])) nf sf
  have k8 := (E9.trans (Ea.trans (Eb.trans (Ec.trans (Ed.trans (Ee.trans Ef)))))).keep _ _ (upd_same (H := G) (a := p8) (o := .lst [.int 2, .int 3]))
  have kc := (Ed.trans (Ee.trans Ef)).keep _ _ (upd_same (a := pc) (o := .lst [.int 4]))
  have kd := (Ee.trans Ef).keep _ _ (upd_same (a := pd) (o := .lst [.int 5]))
  have EB := E8.trans (E9.trans (Ea.trans (Eb.trans (Ec.trans (Ed.trans (Ee.trans Ef))))))
  have hq : ∃ q, atI ((((List.replicate (9 : Int).toNat [V.ref p1]).flatten ++ (List.replicate (3 : Int).toNat [V.ref p4]).flatten) ++ (List.replicate (2 : Int).toNat [V.ref p8]).flatten) ++ [.ref pc, .ref pd]) (j : Int) = some (.ref q) ∧
      (upd (upd (upd (upd (upd (upd (upd (upd G p8 (.lst [.int 2, .int 3])) p9 (.lst [.ref p8])) pa (.lst (List.replicate (2 : Int).toNat [V.ref p8]).flatten)) pb (.lst (((List.replicate (9 : Int).toNat [V.ref p1]).flatten ++ (List.replicate (3 : Int).toNat [V.ref p4]).flatten) ++ (List.replicate (2 : Int).toNat [V.ref p8]).flatten))) pc (.lst [.int 4])) pd (.lst [.int 5])) pe (.lst [.ref pc, .ref pd])) pf (.lst ((((List.replicate (9 : Int).toNat [V.ref p1]).flatten ++ (List.replicate (3 : Int).toNat [V.ref p4]).flatten) ++ (List.replicate (2 : Int).toNat [V.ref p8]).flatten) ++ [.ref pc, .ref pd]))) q = some (.lst ((dues.getD j []).map V.int)) := by
    match j, hj with
    | 0, _ | 1, _ | 2, _ | 3, _ | 4, _ | 5, _ | 6, _ | 7, _ | 8, _ => exact ⟨p1, rfl, EB.keep _ _ k1⟩
    | 9, _ | 10, _ | 11, _ => exact ⟨p4, rfl, EB.keep _ _ k4⟩
    | 12, _ | 13, _ => exact ⟨p8, rfl, k8⟩
    | 14, _ => exact ⟨pc, rfl, kc⟩
    | 15, _ => exact ⟨pd, rfl, kd⟩
    | j + 16, hj => omega
  obtain ⟨q, q1, q2⟩ := hq
  walk_at "s"
  refine v_idx (rd_here upd_same) q1 ?_
  have EE := EA.trans EB
  clear E8 E9 Ea Eb Ec Ed Ee Ef EA EB k1 k4 k7 k8 kc kd n8 n9 na nb nc nd ne nf
  generalize upd (upd (upd (upd (upd (upd (upd (upd G p8 (.lst [.int 2, .int 3])) p9 (.lst [.ref p8])) pa (.lst (List.replicate (2 : Int).toNat [V.ref p8]).flatten)) pb (.lst (((List.replicate (9 : Int).toNat [V.ref p1]).flatten ++ (List.replicate (3 : Int).toNat [V.ref p4]).flatten) ++ (List.replicate (2 : Int).toNat [V.ref p8]).flatten))) pc (.lst [.int 4])) pd (.lst [.int 5])) pe (.lst [.ref pc, .ref pd])) pf (.lst ((((List.replicate (9 : Int).toNat [V.ref p1]).flatten ++ (List.replicate (3 : Int).toNat [V.ref p4]).flatten) ++ (List.replicate (2 : Int).toNat [V.ref p8]).flatten) ++ [.ref pc, .ref pd])) = G2 at *
  walk_at "s"
  refine s_lc (i_rng (s_lit (s_lit ?_)))
  intro D hD sD
  have dq : q ≠ D := ne_of_none q2 hD
  refine lc_inv (fun i H' => H' = upd G2 D (.lst (((List.range i).map fun i => inV (.int (0 + (i : Nat))) ((dues.getD j []).map V.int)).map V.bl))) (fun _ _ _ => trivial) (fun i x H' hx hH => ?_) (fun H' hH => ?_) rfl
  · subst hH
    have hi : i < 6 := by simpa using (List.getElem?_eq_some_iff.mp hx).1
    have ex : x = .int (0 + (i : Nat)) := by
      rw [List.getElem?_map, List.getElem?_range (by simpa using hi)] at hx
      cases hx
      rfl
    subst ex
    refine g_nm ?_
    refine t_yes ?_
    refine v_ifT ?_
    refine s_cmp (s_var rfl (s_var rfl ?_))
    refine v_inL (rd_here (by rw [upd_ne dq]; exact q2)) rfl (flat_ints _) ?_
    refine ⟨_, upd_same, Nat.lt_of_le_of_lt (by simp; omega) (show 6 < sizeLine by decide), ?_⟩
    rw [QL.upd_upd, List.range_succ, List.map_append, List.map_append]
    rfl
  · subst hH
    exact h _ D (EE.trans (Ext.new hD sD)) upd_same
end
set_option Elab.async false
set_option linter.all false
set_option maxRecDepth 100000
set_option maxHeartbeats 4000000
open PySem QL
open L2 hiding wE wT
section
variable {S : Stat} {n : Nat} {H : Hp} {Q : VK} {E : XK} {A : Str → Addr}
theorem ne_of_none' {H : Hp} {p q : Addr} {o : HO} (hp : H p = some o) (hq : H q = none) : q ≠ p := fun e => by rw [e, hp] at hq; cases hq
theorem sh_of {so : Addr → Option HO} {x : V} {d : PyData} (h : Dd so H x d) (s : (d.showable && !d.hasDict && decide (d.depth ≤ 60) && decide (d.shown.length ≤ sizeLine)) = true) : Sh so H x d.shown := by
  simp only [Bool.and_eq_true, Bool.not_eq_true', decide_eq_true_eq] at s
  obtain ⟨⟨⟨h1, h2⟩, h3⟩, h4⟩ := s
  exact .inl ⟨d, h, h1, h2, h3, h4, rfl⟩
theorem sh_int {so : Addr → Option HO} {i : Int} (h : i.natAbs.log2 < 1920) : Sh so H (.int i) (PyData.int i).shown := by
  refine .inl ⟨.int i, .sc rfl, decide_eq_true h, rfl, Nat.zero_le _, ?_, rfl⟩
  exact int_text_fits h
/-- p may change, all else stays -/
def Kp (p : Addr) (H H' : Hp) : Prop := ∀ c o, c ≠ p → H c = some o → H' c = some o
theorem w_tk {H0 : Hp} {p : Addr} {a b s : Int} (X : Ext S.so H0 H) (n0 : H0 p = none) (q0 : S.so p = none) (hp : H p = some (.lst [.int a, .int b])) (hb0 : 0 ≤ b) (hb1 : b < 2147483647) (ha : 0 ≤ a) (hs : 0 < s) (hs2 : s < 1073741824)
    (h : ∀ r a' b' H', Ext S.so H0 H' → Kp p H H' → H' p = some (.lst [.int a', .int b']) → 0 ≤ r → r < s → 0 ≤ a' → 0 ≤ b' → b' < 2147483647 → Q (.int r) H') : (sem S T (n + 1)).fn "_law_take" [.ref p, .int s] H Q E :=
  w_take hp hb0 hb1 ha hs hs2 fun r a' b' c1 c2 c3 c4 c5 => h r a' b' _ (X.chg n0 q0) (fun c o ne hc => by rw [upd_ne ne]; exact hc) upd_same c1 c2 c3 c4 c5
theorem val_at {so : Addr → Option HO} {p p1 p2 : Addr} {r k i : Int} (m1 : p1 ≠ p) (m2 : p2 ≠ p) (h1 : H p1 = some (.lst [.int 1])) (h2 : H p2 = some (.tup [.int 1, .int 2])) (i0 : 0 ≤ i) (i1 : i < 1000000000) (k0 : 0 ≤ k) (k1 : k < 4) (r0 : 0 ≤ r) (r1 : r < 8) :
    ∃ v z, atI [.non, .int i, .str (Txt.mul "a" k), .ref p1, .ref p2, .bl true, .int 1, .int (-1)] r = some v ∧ ∀ H', Kp p H H' → Sh so H' v z := by
  have : r = 0 ∨ r = 1 ∨ r = 2 ∨ r = 3 ∨ r = 4 ∨ r = 5 ∨ r = 6 ∨ r = 7 := by omega
  rcases this with rfl | rfl | rfl | rfl | rfl | rfl | rfl | rfl
  · exact ⟨_, _, rfl, fun H' _ => sh_of (.sc rfl) (by decide +kernel)⟩
  · refine ⟨_, _, rfl, fun H' _ => sh_int ?_⟩
    have : i.natAbs < 2 ^ 30 := by omega
    by_cases z : i.natAbs = 0
    · rw [z]; decide
    · exact Nat.lt_trans ((Nat.log2_lt z).mpr this) (by decide)
  · have : k = 0 ∨ k = 1 ∨ k = 2 ∨ k = 3 := by omega
    rcases this with rfl | rfl | rfl | rfl <;> exact ⟨_, _, rfl, fun H' _ => sh_of (.sc rfl) (by decide +kernel)⟩
  · exact ⟨_, _, rfl, fun H' K => sh_of (.lst (rd_here (K _ _ m1 h1)) (.cons (.sc rfl) .nil)) (by decide +kernel)⟩
  · exact ⟨_, _, rfl, fun H' K => sh_of (.tup (rd_hereT (K _ _ m2 h2)) (.cons (.sc rfl) (.cons (.sc rfl) .nil))) (by decide +kernel)⟩
  · exact ⟨_, _, rfl, fun H' _ => sh_of (.sc rfl) (by decide +kernel)⟩
  · exact ⟨_, _, rfl, fun H' _ => sh_of (.sc rfl) (by decide +kernel)⟩
  · exact ⟨_, _, rfl, fun H' _ => sh_of (.sc rfl) (by decide +kernel)⟩
theorem w_value {H0 : Hp} {p : Addr} {a b : Int} (X : Ext S.so H0 H) (n0 : H0 p = none) (q0 : S.so p = none) (hp : H p = some (.lst [.int a, .int b])) (hb0 : 0 ≤ b) (hb1 : b < 2147483647) (ha : 0 ≤ a)
    (h : ∀ v z a' b' H', Ext S.so H0 H' → Kp p H H' → H' p = some (.lst [.int a', .int b']) → 0 ≤ a' → 0 ≤ b' → b' < 2147483647 → (∀ H'', Kp p H' H'' → Sh S.so H'' v z) → Q v H') : (sem S T (n + 2)).fn "_law_value" [.ref p] H Q E := by
  refine u_law_value ?_
  unfold b_law_value
  walk_at "s"
  refine v_pow ⟨by decide, by decide, by decide⟩ ?_
  walk_at "s"
  refine w_tk (n := n) X n0 q0 hp hb0 hb1 ha (by decide) (by decide) fun r1 a1 b1 H1 X1 K1 hp1 c1 c2 c3 c4 c5 => ?_
  walk_at "s"
  refine w_tk (n := n) X1 n0 q0 hp1 c4 c5 c3 (by decide) (by decide) fun r2 a2 b2 H2 X2 K2 hp2 d1 d2 d3 d4 d5 => ?_
  refine ⟨by decide, d1, by omega, ?_⟩
  walk_at "s"
  refine ⟨by show 1 ≤ sizeLine; decide, fun p1 m1 s1 => ?_⟩
  walk_at "s"
  refine ⟨by show 2 ≤ sizeLine; decide, fun p2 m2 s2 => ?_⟩
  walk_at "s"
  refine ⟨by show 8 ≤ sizeLine; decide, fun p3 m3 s3 => ?_⟩
  have E1 := Ext.new (so := S.so) (o := .lst [.int 1]) m1 s1
  have E2 := Ext.new (so := S.so) (o := .tup [.int 1, .int 2]) m2 s2
  have E3 := Ext.new (so := S.so) (o := .lst [.non, .int r1, .str (Txt.mul "a" r2), .ref p1, .ref p2, .bl true, .int 1, .int (-1)]) m3 s3
  have k1 := (E2.trans E3).keep _ _ (upd_same (H := H2) (a := p1) (o := .lst [.int 1]))
  have k2 := E3.keep _ _ (upd_same (a := p2) (o := .tup [.int 1, .int 2]))
  have e1 : p1 ≠ p := ne_of_none' hp2 m1
  have e2 : p2 ≠ p := ne_of_none' (E1.keep _ _ hp2) m2
  have e3 : p3 ≠ p := ne_of_none' ((E1.trans E2).keep _ _ hp2) m3
  have XX := (E1.trans E2).trans E3
  walk_at "s"
  refine w_tk (n := n) (X2.trans XX) n0 q0 (XX.keep _ _ hp2) d4 d5 d3 (by decide) (by decide) fun r3 a3 b3 H3 X3 K3 hp3 f1 f2 f3 f4 f5 => ?_
  obtain ⟨v, z, hv, hz⟩ := val_at (so := S.so) e1 e2 (K3 _ _ e1 k1) (K3 _ _ e2 k2) c1 c2 d1 d2 f1 f2
  refine v_idx (rd_here (K3 _ _ e3 upd_same)) hv ?_
  exact h v z a3 b3 H3 X3 (fun c o hc ho => K3 c o hc (XX.keep _ _ (K2 c o hc (K1 c o hc ho)))) hp3 f3 f4 f5 hz
theorem tab_base : ∀ j, j < 16 → ∀ e, ets[j]? = some e → bs6.map (und e.1) = duB j := by
  intro j hj e he
  match j, he with
  | 0, he | 1, he | 2, he | 3, he | 4, he | 5, he | 6, he | 7, he | 8, he | 9, he | 10, he | 11, he | 12, he | 13, he | 14, he | 15, he => cases he; decide +kernel
  | j + 16, he => omega
def eqB (j : Nat) : List Bool := (List.range 16).map fun i => decide ((0 + (i : Nat) : Int) = (j : Int))
theorem tab_kind : ∀ j, j < 16 → ∀ e, ets[j]? = some e → ns16.map (fun c => e.1 == c) = eqB j := by
  intro j hj e he
  match j, he with
  | 0, he | 1, he | 2, he | 3, he | 4, he | 5, he | 6, he | 7, he | 8, he | 9, he | 10, he | 11, he | 12, he | 13, he | 14, he | 15, he => cases he; decide +kernel
  | j + 16, he => omega
theorem lay_bl : ∀ (bs : List Bool), PyData.canLayAll0 (bs.map PyData.bool) = true
  | [] => rfl
  | b :: bs => by
    rw [List.map_cons, PyData.canLayAll0, lay_bl bs]
    rfl
theorem dep_bl : ∀ (bs : List Bool), PyData.depthAll (bs.map PyData.bool) = 0
  | [] => rfl
  | b :: bs => by
    rw [List.map_cons, PyData.depthAll, dep_bl bs]
    rfl
theorem shaped_bl (bs : List Bool) : SeqAt.shaped (.list (bs.map PyData.bool)) = true := by
  unfold SeqAt.shaped
  rw [PyData.canLay0, lay_bl, PyData.depth, dep_bl]
  rfl
theorem eqv_bl (bs : List Bool) : PyData.eqv (.list (bs.map PyData.bool)) (.list (bs.map PyData.bool)) = true := by
  rw [PyData.eqv]
  induction bs with
  | nil => rfl
  | cons b bs ih =>
    rw [List.map_cons, PyData.eqvAll, ih]
    cases b <;> rfl
theorem has_fld : ∀ (j : Nat) (e : Str × Option Str), ets[j]? = some e → j ≠ 8 → j ≠ 15 → ∃ x f, e = (x, some f) := by
  intro j e he h8 h15
  match j, he, h8, h15 with
  | 0, he, _, _ | 1, he, _, _ | 2, he, _, _ | 3, he, _, _ | 4, he, _, _ | 5, he, _, _ | 6, he, _, _ | 7, he, _, _ | 9, he, _, _ | 10, he, _, _ | 11, he, _, _ | 12, he, _, _ | 13, he, _, _ | 14, he, _, _ => cases he; exact ⟨_, _, rfl⟩
  | 8, _, h, _ => exact absurd rfl h
  | 15, _, _, h => exact absurd rfl h
  | j + 16, he, _, _ => cases he
theorem not_in : ∀ (j : Nat), j ≠ 8 → j ≠ 15 → (inV (.int (j : Int)) [.int 8, .int 15] != true) = true := by
  intro j h8 h15
  unfold inV
  have a : eqV (.int 8) (.int (j : Int)) = false := by
    show decide _ = false
    exact decide_eq_false (by omega)
  have b : eqV (.int 15) (.int (j : Int)) = false := by
    show decide _ = false
    exact decide_eq_false (by omega)
  rw [List.any_cons, List.any_cons, a, b]
  rfl
end
set_option Elab.async false
set_option linter.all false
set_option maxRecDepth 100000
set_option maxHeartbeats 1000000
open PySem QL
open L2 hiding wE wT
section
variable {S : Stat} {n : Nat} {H : Hp} {Q : VK} {E : XK} {A : Str → Addr}
theorem w_right (C : Cs S A) {j : Nat} {e : Addr} {et : Str × Option Str} {v : V} {z : Str} (he : ets[j]? = some et) (X : Xat H e (A et.1) (fsOf et.2 v)) (hz : Sh S.so H v z) (h : ∀ H', Ext S.so H H' → Q (.bl true) H') : (sem S T (n + 2)).fn "_law_right" [.int (j : Int), .ref e, v] H Q E := by
  have hj : j < 16 := (List.getElem?_eq_some_iff.mp he).1
  have hm := List.mem_of_getElem? he
  refine u_law_right ?_
  unfold b_law_right
  walk_at "s"
  refine w_base (n := n) X (C.isb et hm) fun H1 p1 E1 h1 => ?_
  walk_at "s"
  refine w_due_kinds (n := n) hj fun H2 p2 E2 h2 => ?_
  have t1 : (bs6.map fun c => V.bl (und et.1 c)) = (duB j).map V.bl := by
    rw [← tab_base j hj et he, List.map_map]
    rfl
  rw [t1] at h1
  refine v_neD (.lst (rd_here (E2.keep _ _ h1)) (dds_bl _)) (.lst (rd_here h2) (dds_bl _)) (shaped_bl _) (shaped_bl _) ⟨_, rfl⟩ ?_
  rw [eqv_bl]
  walk_at "s"
  refine ⟨by show 2 ≤ sizeLine; decide, fun p3 m3 s3 => ?_⟩
  have E3 := Ext.new (so := S.so) (o := .tup [.int 8, .int 15]) m3 s3
  have EA := (E1.trans E2).trans E3
  have r3 : rd S.so (upd H2 p3 (.tup [.int 8, .int 15])) p3 = some (.tup [.int 8, .int 15]) := rd_hereT upd_same
  generalize upd H2 p3 (.tup [.int 8, .int 15]) = H3 at *
  -- the last test
  have fin : ∀ {G : Hp}, Ext S.so H G → wSs S (sem S T (n + 1)) (fun c d _ H1 => E c d H1) (.cons (.ret (.cmp .Eq (.fn "_law_kinds" (.cons (.var 1) .nil)) (.lc (.nm 3) (.rng (.lit (.int 0)) (.lit (.int 16))) .yes (.cmp .Eq (.var 3) (.var 0)) [3]))) .nil) { nx := fun _ H1 => Q .non H1, rt := Q } [some (.int (j : Int)), some (.ref e), some v, none] G := fun {G} EG => by
    walk_at "s"
    refine w_kinds (n := n) (X.ext EG) (C.isa et hm) fun H4 p4 E4 n4 q4 h4 => ?_
    have t2 : (ns16.map fun c => V.bl (et.1 == c)) = (eqB j).map V.bl := by
      rw [← tab_kind j hj et he, List.map_map]
      rfl
    rw [t2] at h4
    refine s_lc (i_rng (s_lit (s_lit ?_)))
    intro D hD sD
    refine lc_inv (fun i H' => H' = upd H4 D (.lst (((List.range i).map fun i => decide ((0 + (i : Nat) : Int) = (j : Int))).map V.bl))) (fun _ _ _ => trivial) (fun i x H' hx hH => ?_) (fun H' hH => ?_) rfl
    · subst hH
      have hi : i < 16 := by simpa using (List.getElem?_eq_some_iff.mp hx).1
      have ex : x = .int (0 + (i : Nat)) := by
        rw [List.getElem?_map, List.getElem?_range (by simpa using hi)] at hx
        cases hx
        rfl
      subst ex
      refine g_nm ?_
      refine t_yes ?_
      refine v_ifT ?_
      refine s_cmp (s_var rfl (s_var rfl ?_))
      refine v_eq ?_
      refine ⟨_, upd_same, Nat.lt_of_le_of_lt (by simp; omega) (show 16 < sizeLine by decide), ?_⟩
      rw [QL.upd_upd, List.range_succ, List.map_append, List.map_append]
      rfl
    · subst hH
      have E5 := Ext.new (so := S.so) (o := .lst (((List.range ((List.range ((16 : Int) - 0).toNat).map fun i => V.int (0 + (i : Nat))).length).map fun i => decide ((0 + (i : Nat) : Int) = (j : Int))).map V.bl)) hD sD
      refine v_eqD (.lst (rd_here (E5.keep _ _ h4)) (dds_bl _)) (.lst (rd_here upd_same) (dds_bl (eqB j))) (shaped_bl _) (shaped_bl _) ⟨_, rfl⟩ ?_
      rw [eqv_bl]
      exact h _ ((EG.trans E4).trans E5)
  by_cases hc : j = 8 ∨ j = 15
  · refine v_ninT (b := false) r3 rfl rfl (by rcases hc with rfl | rfl <;> decide) ?_
    walk_at "s"
    exact fin EA
  · have hf := has_fld j et he (fun e => hc (.inl e)) (fun e => hc (.inr e))
    obtain ⟨x, f, rfl⟩ := hf
    refine v_ninT (b := true) r3 rfl rfl ?_ ?_
    · exact not_in j (fun e => hc (.inl e)) (fun e => hc (.inr e))
    walk_at "s"
    refine w_field (n := n) C he (X.ext EA) fun H4 E4 => ?_
    walk_at "s"
    refine v_sh (hz.ext (EA.trans E4)) ?_
    walk_at "s"
    refine v_sh (hz.ext (EA.trans E4)) ?_
    walk_at "s"
    refine v_nec (fun z => absurd rfl z) fun _ => ?_
    walk_at "s"
    exact fin (EA.trans E4)
end
set_option Elab.async false
set_option linter.all false
set_option maxRecDepth 100000
set_option maxHeartbeats 1000000
open PySem QL
open L2 hiding wE wT
section
variable {S : Stat} {n : Nat} {H : Hp} {Q : VK} {E : XK} {A : Str → Addr}
theorem w_law (C : Cs S A) {s : Addr} {ns : List Int} (hs : rd S.so H s = some (.lst (ns.map V.int))) (hl : ns.length ≤ 63) (h : ∀ H', Q (.bl true) H') : (sem S T (n + 3)).fn "law" [.ref s] H Q E := by
  refine u_law ?_
  unfold b_law
  walk_at "s"
  refine v_lenL hs ?_
  walk_at "s"
  refine lpR_inv (sem_le _) rfl (fun j σ H' => ∃ a b c d e f g, σ = [some (.ref s), a, b, c, d, e, f, g] ∧ Ext S.so H H') _ _ _ _ ⟨_, _, _, _, _, _, _, rfl, Ext.refl⟩ ?_ ?_
  · rintro j σ H' j1 j2 ⟨_, _, _, _, _, _, _, rfl, X⟩
    walk_at "s"
    refine w_pool (n := n + 1) (X.rd hs) j1 ?_ hl fun H1 p a b X1 p0 q0 hp ha hb hb2 => ?_
    · rw [List.length_map] at j2
      have : (if (if (20 : Int) < ns.length then (20 : Int) else ns.length) > 1 then (if (20 : Int) < ns.length then (20 : Int) else ns.length) else 1) ≤ 20 := by
        split <;> split <;> omega
      omega
    have n0 : H p = none := ext_none X p0
    replace X1 := X.trans X1
    walk_at "s"
    refine w_value (n := n) X1 n0 q0 hp hb hb2 ha fun v1 z1 a1 b1 H2 X2 K2 hp2 c3 c4 c5 hz1 => ?_
    walk_at "s"
    refine w_value (n := n) X2 n0 q0 hp2 c4 c5 c3 fun v2 z2 a2 b2 H3 X3 K3 hp3 d3 d4 d5 hz2 => ?_
    walk_at "s"
    have y1 := hz1 H3 K3
    have y2 := hz2 H3 (fun _ _ _ h => h)
    refine lpR_inv (sem_le _) rfl (fun j σ H' => ∃ a b c f g, σ = [some (.ref s), a, b, c, some v1, some v2, f, g] ∧ Ext S.so H3 H') _ _ _ _ ⟨_, _, _, _, _, rfl, Ext.refl⟩ ?_ ?_
    · rintro i σ H4 i1 i2 ⟨_, _, _, _, _, rfl, X4⟩
      obtain ⟨j, rfl⟩ : ∃ j : Nat, i = (j : Int) := ⟨i.toNat, by omega⟩
      have hj : j < 16 := by
        have : (0 : Int) + (((16 : Int) - 0).toNat : Nat) = 16 := by decide
        omega
      obtain ⟨et, he⟩ : ∃ et, ets[j]? = some et := ⟨ets[j]'hj, List.getElem?_eq_getElem hj⟩
      walk_at "s"
      refine w_made (n := n + 1) C he fun e1 H5 E5 x1 => ?_
      walk_at "s"
      refine w_made (n := n + 1) C he fun e2 H6 E6 x2 => ?_
      walk_at "s"
      have G6 := (X4.trans E5).trans E6
      refine w_right (n := n) C he (x1.ext E6) (y1.ext G6) fun H7 E7 => ?_
      walk_at "s"
      refine w_right (n := n) C he (x2.ext E7) (y2.ext (G6.trans E7)) fun H8 E8 => ?_
      walk_at "s"
      refine w_right (n := n) C he (x1.ext ((E6.trans E7).trans E8)) (y1.ext ((G6.trans E7).trans E8)) fun H9 E9 => ?_
      walk_at "s"
      exact ⟨_, _, _, _, _, rfl, ((G6.trans E7).trans E8).trans E9⟩
    · rintro σ H4 ⟨_, _, _, _, _, rfl, X4⟩
      walk_at "s"
      exact ⟨_, _, _, _, _, _, _, rfl, X3.trans X4⟩
  · rintro σ H' ⟨_, _, _, _, _, _, _, rfl, X⟩
    walk_at "s"
    exact h _
end
set_option Elab.async false
set_option linter.all false
set_option maxRecDepth 100000
set_option maxHeartbeats 4000000
open PySem PySem.Spec QL
open L2 hiding wE wT
theorem ets_in : ∀ e ∈ ets, e ∈ xcs := by decide +kernel
theorem ets_lk : ∀ e ∈ ets, xcs.lookup e.1 = some e.2 := by decide +kernel
theorem cs_ok {K : PySem.W.Frag} {so : Addr → Option HO} (c : SaysQ (exs more) dfs K) : Cs (St0 K so) (He.ga K) := by
  have m : ∀ e ∈ xcs, ((ns16h.all fun c => decide (isaF K ocs (He.ga K e.1) c = some (e.1 == c))) && ((bs6h.all fun c => decide (isaF K ocs (He.ga K e.1) c = some (undh e.1 c))) && (match e.2 with
  | some f => xfB K (He.ga K e.1) f
  | none => true))) = true := fun e he => List.all_eq_true.mp (says_more c) e he
  exact {
    xc := fun e he => by
      show (xcs.lookup e.1).map (fun f => (He.ga K e.1, f)) = _
      rw [ets_lk e he]
      rfl
    isa := fun e he k hk => of_decide_eq_true (List.all_eq_true.mp (He.ba (m e (ets_in e he))).1 k hk)
    isb := fun e he k hk => of_decide_eq_true (List.all_eq_true.mp (He.ba (He.ba (m e (ets_in e he))).2).1 k hk)
    xf := fun e he f hf => by
      have q := (He.ba (He.ba (m e (ets_in e he))).2).2
      rw [hf] at q
      exact q }
theorem fin {P : Program} {w : World} {K : PySem.W.Frag} {h : Heap} {mg : Str → Option Value} {fa : Addr} (KX : K.In h) (G : h.Ns mainGlobals mg) (hmg : mg ("law" : Str) = some (.ref fa)) (c : SaysQ (exs more) dfs K) :
      ∃ (K : PySem.W.Frag) (so0 : Addr → Option HO) (sp : (Addr → Option HO) → Sp) (fd : FuncData), K.In h ∧ SoOk K so0 ∧ (∀ (s : Shared) (u : Value), BindsTo s fd ⟨[u], []⟩ [("_law_script", u)]) ∧
        (∀ so, SoOk K so → SoLe so0 so → ∀ base : Heap, K.In base → base.Ns mainGlobals mg → FnG P w K mg base 7 fa fd ["_law_script"] (sp so)) ∧
        ∀ (a : Addr) (ns : List Int) (so : Addr → Option HO) (H : Hp), ns.length ≤ 63 → SoLe so0 so → rd so H a = some (.lst (ns.map V.int)) → (∀ b, b ≠ a → H b = none) → (∀ o, H a = some o → ∃ x u, o = .frz x u) → sp so [.ref a] H (fun v _ => v = .bl true) fun _ _ _ => False := by
  obtain ⟨fd, F⟩ := c.def_ 9 rfl
  have F : FunD K "law" "law" (defArgs (topS 27)) (defBody (topS 27)) (defScope (topS 27)) [] [] _ fd := F
  have D : DefB K gl "law" "law" i_law (topS 27) (He.fAd K ("law", none)) fd ["_law_script"] := ⟨⟨_, _, F⟩, ⟨rfl, rfl, rfl, by decide +kernel, rfl, by decide +kernel, by decide +kernel⟩, rfl, c_law⟩
  have e := hmg.symm.trans (He.glo_ok KX G (fact c 0 (f := .glo "law") rfl))
  cases e
  refine ⟨K, fun _ => none, fun so => (sem (St0 K so) T 3).fn "law", fd, KX, (fun _ _ z => by cases z), ?_, fun so hso _ base _ _ => (tops KX G c so hso).fng 3 "law" "law" "law" i_law _ _ _ _ t_law D, fun a ns so H hl _ hs _ _ => ?_⟩
  · obtain ⟨oc, od, dV, kV, doc, pm, an, cdv, ct, osl, rfl, lk, hcd, hD, hK⟩ := F.ex
    rcases hD with ⟨_, rfl⟩ | ⟨e, _⟩
    · exact fun s v => .of_eq rfl
    · exact absurd rfl e
  · exact w_law (A := He.ga K) (cs_ok c) hs hl fun _ => rfl
end K05
set_option linter.all false
open PySem PySem.W PySem.Calls PyProof.Rows in
set_option maxRecDepth 100000 in
set_option maxHeartbeats 0 in
theorem PySem.Challenge.cw_quietlanes_k05_refusals_apart_holds : PySem.Challenge.rw_quietlanes_k05_refusals_apart.Holds := by
  w_on; o_law
  refine HandSHeadRun.head_any (r := OpenLaw.row PySem.Challenge.rw_quietlanes_k05_refusals_apart) (q := view (OpenLaw.row PySem.Challenge.rw_quietlanes_k05_refusals_apart).prog [27]) (H := K05.hk) (ob := K05.ob) (M := 40000) (loose := K05.loose) (d := HandSHeadRun.topDef (OpenLaw.row PySem.Challenge.rw_quietlanes_k05_refusals_apart).prog 27) (kwd := []) K05.ob_eq
    (by kernel_rfl) (fun s => by kernel_rfl) K05.run (by kernel_rfl) (by kernel_rfl) (by kernel_rfl) (by rfl) (by first | assumption | decide +kernel) (by decide +kernel) ⟨rfl, rfl, rfl, rfl, rfl, by decide +kernel⟩ ?hw ?hc
  case hw => w_witness2
  case hc =>
    refine QL.walk_h (l := PySem.Challenge.rw_quietlanes_k05_refusals_apart) (n := 63) (k := 7) (x := "_law_script") rfl (by decide) (by kernel_rfl) ⟨rfl, by decide, by decide⟩ ?F
    intro w mg fa h Y G hmg0
    obtain ⟨K, KX, c⟩ := Y
    have hmg : mg ("law" : PySem.Str) = some (.ref fa) := by
      have e : (HandSHeadRun.topDef (OpenLaw.row PySem.Challenge.rw_quietlanes_k05_refusals_apart).prog 27).name = ("law" : PySem.Str) := by kernel_rfl
      rw [← e]
      exact hmg0
    exact K05.fin KX G hmg c
