import PyProof.Rows.All
import Wide.All
import OpenK.AllK
import Wide.FinOn
import PyProof.EqAt
import PyProof.EqKinds
import PyProof.TupleCall
import PyProof.LongRange
import HandS.ForMost
import HandS.ForExc
import HandS.Flow
import HandS.Style
import HandS.IsInst
import HandS.Wide
import HandS.CallSlots
import PySem.Challenge.RW_quietlanes_k04_states_past_as_due
set_option Elab.async false
set_option linter.all false
set_option maxRecDepth 100000
set_option maxHeartbeats 4000000
/-! Q1: defs that keep a promise where nothing is being shown (guards), their calls. -/
namespace QL
open PySem PySem.Spec L2
open PyProof.Rows hiding St
/-- a def keeps sp, called where no repr runs -/
structure FnG (P : Program) (w : World) (K : PySem.W.Frag) (mg : Str → Option Value) (base : Heap) (k : Nat) (f : Addr) (fd : FuncData) (ps : List Str) (sp : Sp) : Prop where
  len : ∀ vs H Q E, sp vs H Q E → vs.length = ps.length
  run : ∀ (A : Around) (outer : List Env) (s : Shared) (H : Hp) (args : Args) (us : List Value) (vs : List V) (Q : VK) (E : XK), A.guards = some [] → Room k A → Env0 P w K mg base A outer s H →
    BindsTo s fd args (ps.zip us) → Vals vs us → sp vs H Q E → codeAny (model P w) A (.call (.ref f) args) (CR (L2.CX P w) outer P w H s Q E) s
theorem fng_of {P : Program} {w : World} {K : PySem.W.Frag} {mg : Str → Option Value} {base : Heap} {k : Nat} {f : Addr} {name qual : Str} {params : Arguments} {body : List Stmt} {scope : Scope} {dV kV doc pm cdv ct oc : Value} {an od : Option Addr}
    {osl : Array (Option Value)} {N ps : List Str} {sp : Sp} (lk : K.lookup f = some ⟨oc, od, .func (PySem.W.fnOf name qual params body scope dV kV doc pm an cdv ct), osl⟩) (hcd : PySem.W.codeIn K cdv qual = true) (S : FnScope N ps scope)
    (len : ∀ vs H Q E, sp vs H Q E → vs.length = ps.length)
    (hb : ∀ (A : Around) (outer : List Env) (s : Shared) (H : Hp) (vs : List V) (Q : VK) (E : XK), A.guards = some [] → Room k (A.deeper (envOfC qual scope s.heap.objs.size f cdv)) → sp vs H Q E →
      ∃ t, PSs (cxOf (L2.CX P w) P w K mg base N qual scope f cdv A outer s H E) body t ∧ t { nx := fun _ H' => Q .non H', rt := Q } (L2.start N vs) H) :
    FnG P w K mg base (k + 1) f (PySem.W.fnOf name qual params body scope dV kV doc pm an cdv ct) ps sp := by
  refine ⟨len, fun A outer s H args us vs Q E hg hr e0 hbd r hsp => ?_⟩
  have hl := len _ _ _ _ hsp
  have kp : ∀ b o, base.get? b = some o → s.heap.get? b = some o := fun b o e => (e0.bs b o e).1
  have KX : K.In s.heap := e0.mod.kin.keeps kp
  have lim : s.heap.NoLimit := e0.mod.nolimit.keeps kp
  refine codeAny_call_function hr.depth (KX _ _ lk) rfl S.co S.gen rfl (PySem.W.codeRec_of KX hcd) (hbd _ _ _ _ ?_)
  refine wpAny_newFunctionEnv_cells S.kind ?_ ?_
  · rintro ⟨n, v⟩ hy
    rcases S.par n (List.of_mem_zip hy).1 with q | q
    · exact .inl q
    · exact .inr ⟨q, PySem.W.cellsFrom_some _ _ _ (.inl q)⟩
  · rintro env rfl s1 x
    refine ⟨lim.keeps x.toInCall.keep, codeAny_func ?_⟩
    obtain ⟨t, ht, hq⟩ := hb A outer s H vs Q E hg (hr.deeper _) hsp
    have I := inv_start (CX := L2.CX P w) (E := E) S hr.hd e0 hl r x
    refine wpAny_mono (ht.run [] s1 _ H _ I hq) ?_ (fun e s' hs => hs)
    intro fl s' hs
    match fl, hs with
    | .ret u, ⟨v, σ', H', J, rv, q⟩ => exact ⟨v, H', J.os, J.bare, J.base, J.hok, rv, q⟩
    | .next, ⟨σ', H', J, q⟩ => exact ⟨V.non, H', J.os, J.bare, J.base, J.hok, rfl, q⟩
    | .brk, ⟨_, _, _, q⟩ => exact q.elim
    | .cont, ⟨_, _, _, q⟩ => exact q.elim
section
variable {X : Cx} {k : Nat} {f C : Addr} {fd : FuncData} {ps : List Str} {sp : Sp} {W : WX} {x m : Str} {p pos apos : Pos} {e o : Expr} {es : List Expr} {ta : TE} {t : TA}
/-- the callee runs; the wish about exceptions may speak of the caller's slots -/
theorem run_g {pins : List (Addr × Obj)} {σ : St} {H : Hp} {s : Shared} {Q : VK} {us full : List Value} {kw : List (Str × Value)} {vs : List V} (F : FnG X.prog X.w X.K X.mg X.base k f fd ps sp) (hg : X.A.guards = some []) (hr : Room k X.A) (hx : Takes X W)
    (I : Inv X pins σ H s) (hb : BindsTo s fd ⟨us, kw⟩ (ps.zip full)) (r : Vals vs full) (h : sp vs H Q (fun c d H' => W c d σ H')) : wpAny (model X.prog X.w) X.A (call (.ref f) us kw) (EP X pins σ Q) X.xe s := by
  refine wpAny_call (codeAny_mono (F.run X.A X.stack s H ⟨us, kw⟩ full vs Q _ hg hr I.env0 hb r h) fun q s' hq => ?_)
  match q, hq with
  | .error er, hq => exact hx er s' (XE.of_call I (fun _ _ _ z => z) hq)
  | .ok (.ret u), hq => exact I.after hq
  | .ok .next, hq => exact hq.elim
  | .ok .brk, hq => exact hq.elim
  | .ok .cont, hq => exact hq.elim
/-- a new instance, its __init__ runs -/
theorem make_g {pins : List (Addr × Obj)} {σ : St} {H : Hp} {s : Shared} {Q : VK} {us full : List Value} {kw : List (Str × Value)} {vs : List V} (M : Mk X.K C f) (F : FnG X.prog X.w X.K X.mg X.base k f fd ps sp) (hg : X.A.guards = some []) (hr : Room (k + 1) X.A)
    (hx : Takes X W) (I : Inv X pins σ H s) (hb : ∀ (s : Shared) (a : Value), X.K.In s.heap → BindsTo s fd ⟨a :: us, kw⟩ (ps.zip (a :: full))) (r : Vals vs full)
    (h : ∀ x dx, H x = none → H dx = none → dx ≠ x → sp (.ref x :: vs) (upd (upd H dx (.own x)) x (.ins C dx [])) (fun v H2 => v = .non ∧ Q (.ref x) H2) (fun c d H' => W c d σ H')) :
    wpAny (model X.prog X.w) X.A (call (.ref C) us kw) (EP X pins σ Q) X.xe s := by
  have hq := h (s.heap.objs.size + 1) s.heap.objs.size (I.hok.fresh (Nat.le_succ _)) (I.hok.fresh (Nat.le_refl _)) (Nat.ne_of_lt (Nat.lt_succ_self _))
  have I2 := Inv.made (C := C) I
  have hgu : (X.A.under (.builtin "type.__call__" ⟨.ref C :: us, kw⟩)).guards = some [] := by
    simp [Around.under, Code.guards, Code.isGuard, pushGuards, guardIds, hg]
  refine wpAny_call (make_map (f := f) I.kIn M.makes M.init (beq_iff_eq.mp M.fn) (codeAny_mono (F.run _ X.stack _ _ ⟨Value.ref (s.heap.objs.size + 1) :: us, kw⟩ (Value.ref (s.heap.objs.size + 1) :: full) (V.ref (s.heap.objs.size + 1) :: vs) _ _ hgu (hr.make C us kw)
    (I2.env0.make C us kw) (hb _ _ I2.kIn) (.cons rfl r) hq) fun q s' hq' => ?_))
  match q, hq' with
  | .error er, hq' => exact hx er s' (XE.of_call I2 (fun _ _ _ z => z) hq')
  | .ok (.ret u), hq' =>
    obtain ⟨v, H', I3, rv, ev, q3⟩ := I2.after hq'
    subst ev
    exact ⟨rv, ⟨V.ref (s.heap.objs.size + 1), H', I3, rfl, q3⟩⟩
  | .ok .next, hq' => exact hq'.elim
  | .ok .brk, hq' => exact hq'.elim
  | .ok .cont, hq' => exact hq'.elim
end
end QL
set_option Elab.async false
set_option linter.all false
set_option maxRecDepth 100000
set_option maxHeartbeats 4000000
/-! Q2: what operators do to values, as functions that look at the values. -/
namespace QL
open PySem PySem.Spec L2
open PyProof.Rows hiding St
/-- what stands at a: tracked, locked, or written (so) -/
def rd (so : Addr → Option HO) (H : Hp) (a : Addr) : Option HO := match H a with
  | some (.frz _ u) => some u
  | some o => some o
  | none => so a
/-- the written tuples are so -/
def SoOk (K : PySem.W.Frag) (so : Addr → Option HO) : Prop := ∀ a o, so a = some o → match o with
  | .tup xs => ∃ (o : Obj) (its : Array Value) (n : Nat), K.lookup a = some o ∧ o.cls = .type "tuple" ∧ o.data = .seq its n ∧ its.size ≤ sizeLine ∧ Vals xs its.toList
  | .lst xs => ∃ (o : Obj) (its : Array Value) (n : Nat), K.lookup a = some o ∧ o.cls = .type "list" ∧ o.dict = none ∧ o.data = .seq its n ∧ its.size ≤ sizeLine ∧ Vals xs its.toList
  | _ => False
section
variable {K : PySem.W.Frag} {so : Addr → Option HO} {H : Hp} {a : Addr} {xs : List V}
theorem rd_lst (S : SoOk K so) (h : rd so H a = some (.lst xs)) : SqL K H a xs := by
  unfold rd at h
  split at h
  · rename_i o u e
    cases h
    exact .inl (.inr ⟨_, e⟩)
  · rename_i e
    cases h
    exact .inl (.inl e)
  · have q := S a _ h
    exact .inr q
theorem rd_tup (S : SoOk K so) (h : rd so H a = some (.tup xs)) : SqT K H a xs := by
  unfold rd at h
  split at h
  · rename_i o u e
    cases h
    exact .inl (.inr ⟨_, e⟩)
  · rename_i e
    cases h
    exact .inl (.inl e)
  · have q := S a _ h
    exact .inr q
theorem rd_of {o : HO} (h : H a = some o) (hn : ∀ x u, o ≠ .frz x u) : rd so H a = some o := by
  unfold rd
  rw [h]
  cases o <;> first | rfl | exact absurd rfl (hn _ _)
end
theorem OpR.imp {X : Cx} {f : Value → Value → Sem Value} {r r' : R2} (h : OpR X f r) (q : ∀ x y H Q, r' x y H Q → r x y H Q) : OpR X f r' :=
  fun pins s σ H x y v u Q I rx ry z => h pins s σ H x y v u Q I rx ry (q x y H Q z)
theorem CallR.imp {X : Cx} {f : Value} {r r' : List V → Hp → VK → Prop} (h : CallR X f r) (q : ∀ x H Q, r' x H Q → r x H Q) : CallR X f r' :=
  fun pins s σ H x v Q I rx z => h pins s σ H x v Q I rx (q x H Q z)
/-- nothing written is tracked -/
def NoK (so : Addr → Option HO) (H : Hp) : Prop := ∀ b, so b ≠ none → H b = none
theorem nok_of {X : Cx} {so : Addr → Option HO} (S : SoOk X.K so) {pins : List (Addr × Obj)} {σ : St} {H : Hp} {s : Shared} (I : Inv X pins σ H s) : NoK so H := fun b hb => by
  cases e : so b with
  | none => exact absurd e hb
  | some o =>
    have q := S b o e
    obtain ⟨ob, hk⟩ : ∃ ob, X.K.lookup b = some ob := by
      cases o with
      | tup xs => obtain ⟨ob, _, _, h, _⟩ := q; exact ⟨ob, h⟩
      | lst xs => obtain ⟨ob, _, _, h, _⟩ := q; exact ⟨ob, h⟩
      | _ => exact q.elim
    exact (I.bs b ob (I.mod.kin b ob hk)).2
theorem nok_upd {so : Addr → Option HO} {H : Hp} {p : Addr} {o : HO} (h : NoK so (upd H p o)) : so p = none := by
  cases e : so p with
  | none => rfl
  | some u =>
    have := h p (by rw [e]; simp)
    rw [upd_same] at this
    cases this
theorem PE.nok {X : Cx} {so : Addr → Option HO} (S : SoOk X.K so) {e : Expr} {t : TE} (h : PE X e t) : PE X e (fun σ H Q => t σ H fun v H' => NoK so H' → Q v H') := ⟨fun pins s σ H Q I z =>
  thn (h.run pins s σ H _ I z) fun u s' ⟨v, H', I', r, q⟩ => ⟨v, H', I', r, q (nok_of S I')⟩⟩
theorem OpR.nok {X : Cx} {so : Addr → Option HO} (S : SoOk X.K so) {f : Value → Value → Sem Value} {r : R2} (h : OpR X f r) : OpR X f (fun x y H Q => r x y H fun v H' => NoK so H' → Q v H') := fun pins s σ H x y v u Q I rx ry z =>
  thn (h pins s σ H x y v u _ I rx ry z) fun u s' ⟨v, H', I', r, q⟩ => ⟨v, H', I', r, q (nok_of S I')⟩
theorem CallR.nok {X : Cx} {so : Addr → Option HO} (S : SoOk X.K so) {f : Value} {r : List V → Hp → VK → Prop} (h : CallR X f r) : CallR X f (fun x H Q => r x H fun v H' => NoK so H' → Q v H') := fun pins s σ H x v Q I rx z =>
  thn (h pins s σ H x v _ I rx z) fun u s' ⟨v, H', I', r, q⟩ => ⟨v, H', I', r, q (nok_of S I')⟩
theorem SlR.nok {X : Cx} {so : Addr → Option HO} (S : SoOk X.K so) {r : V → Option Int → Option Int → Hp → VK → Prop} (h : SlR X r) : SlR X (fun x lo hi H Q => r x lo hi H fun v H' => NoK so H' → Q v H') := fun pins s σ H x v vl vu lo hi sl Q I rx hs pl pu z => by
  obtain ⟨T, id, h1, h2, h3⟩ := h pins s σ H x v vl vu lo hi sl _ I rx hs pl pu z
  exact ⟨T, id, h1, h2, thn h3 fun u s' ⟨v, H', I', r, q⟩ => ⟨v, H', I', r, q (nok_of S I')⟩⟩
/-! ### arithmetic -/
def addV (so : Addr → Option HO) : R2 := fun x y H Q => match x, y with
  | .int i, .int j => Q (.int (i + j)) H
  | .str i, .str j => i.length + j.length ≤ sizeLine ∧ Q (.str (i ++ j)) H
  | .ref p, .ref q => (match H p, H q with
    | some (.lst xs), some (.lst ys) => xs.length + ys.length ≤ sizeLine ∧ ∀ r, H r = none → so r = none → Q (.ref r) (upd H r (.lst (xs ++ ys)))
    | _, _ => False)
  | _, _ => False
def subV : R2 := fun x y H Q => match x, y with
  | .int i, .int j => Q (.int (i - j)) H
  | _, _ => False
def mulV (so : Addr → Option HO) : R2 := fun x y H Q => match x, y with
  | .int i, .int j => CMul i j ∧ Q (.int (i * j)) H
  | .ref p, .int k => (match H p with
    | some (.lst xs) => -(2 ^ 63) ≤ k ∧ k < 2 ^ 63 ∧ xs.length * k.toNat ≤ sizeLine ∧ ∀ r, H r = none → so r = none → Q (.ref r) (upd H r (.lst (List.replicate k.toNat xs).flatten))
    | _ => False)
  | _, _ => False
def divV : R2 := fun x y H Q => match x, y with
  | .int i, .int j => CDiv i j ∧ Q (.int (i / j)) H
  | _, _ => False
def modV : R2 := fun x y H Q => match x, y with
  | .int i, .int j => 0 < j ∧ Q (.int (i % j)) H
  | _, _ => False
def powV : R2 := fun x y H Q => match x, y with
  | .int i, .int j => CPow i j ∧ Q (.int (i ^ j.toNat)) H
  | _, _ => False
def shlV : R2 := fun x y H Q => match x, y with
  | .int i, .int j => CPow i j ∧ Q (.int (i * 2 ^ j.toNat)) H
  | _, _ => False
def opV (so : Addr → Option HO) (o : Operator) : R2 := fun x y H Q => match o with
  | .Add => addV so x y H Q
  | .Sub => subV x y H Q
  | .Mult => mulV so x y H Q
  | .FloorDiv => divV x y H Q
  | .Mod => modV x y H Q
  | .Pow => powV x y H Q
  | .LShift => shlV x y H Q
  | _ => False
section
variable {X : Cx} {so : Addr → Option HO} (S : SoOk X.K so)
include S
theorem op_addV : OpR X (binaryOp .Add) (addV so) := OpR.imp (OpR.nok S (op_add.or (op_add_str.or op_cat))) fun x y H Q h => by
  unfold addV at h
  split at h
  · exact .inl ⟨_, _, rfl, rfl, fun _ => h⟩
  · exact .inr (.inl ⟨_, _, rfl, rfl, h.1, fun _ => h.2⟩)
  · split at h
    · rename_i e1 e2
      exact .inr (.inr ⟨_, _, _, _, rfl, rfl, e1, e2, h.1, fun p hp nk => h.2 p hp (nok_upd nk)⟩)
    · exact h.elim
  · exact h.elim
omit S in
theorem op_subV : OpR X (binaryOp .Sub) subV := OpR.imp op_sub fun x y H Q h => by
  unfold subV at h
  split at h
  · exact ⟨_, _, rfl, rfl, h⟩
  · exact h.elim
theorem op_mulV : OpR X (binaryOp .Mult) (mulV so) := OpR.imp (OpR.nok S (op_mul.or op_rep)) fun x y H Q h => by
  unfold mulV at h
  split at h
  · exact .inl ⟨_, _, rfl, rfl, h.1, fun _ => h.2⟩
  · split at h
    · rename_i e1
      exact .inr ⟨_, _, _, rfl, rfl, e1, h.1, h.2.1, h.2.2.1, fun p hp nk => h.2.2.2 p hp (nok_upd nk)⟩
    · exact h.elim
  · exact h.elim
omit S in
theorem op_divV : OpR X (binaryOp .FloorDiv) divV := OpR.imp op_fdiv fun x y H Q h => by
  unfold divV at h
  split at h
  · exact ⟨_, _, rfl, rfl, h.1, h.2⟩
  · exact h.elim
omit S in
theorem op_modV : OpR X (binaryOp .Mod) modV := OpR.imp op_mod fun x y H Q h => by
  unfold modV at h
  split at h
  · exact ⟨_, _, rfl, rfl, h.1, h.2⟩
  · exact h.elim
omit S in
theorem op_powV : OpR X (binaryOp .Pow) powV := OpR.imp op_pow fun x y H Q h => by
  unfold powV at h
  split at h
  · exact ⟨_, _, rfl, rfl, h.1, h.2⟩
  · exact h.elim
omit S in
theorem op_shlV : OpR X (binaryOp .LShift) shlV := OpR.imp op_shl fun x y H Q h => by
  unfold shlV at h
  split at h
  · exact ⟨_, _, rfl, rfl, h.1, h.2⟩
  · exact h.elim
omit S in
theorem op_no {f : Value → Value → Sem Value} : OpR X f (fun _ _ _ _ => False) := fun _ _ _ _ _ _ _ _ _ _ _ _ h => h.elim
theorem op_opV (o : Operator) : OpR X (binaryOp o) (opV so o) := match o with
  | .Add => op_addV S
  | .Sub => op_subV
  | .Mult => op_mulV S
  | .FloorDiv => op_divV
  | .Mod => op_modV
  | .Pow => op_powV
  | .LShift => op_shlV
  | .MatMult => op_no
  | .Div => op_no
  | .RShift => op_no
  | .BitOr => op_no
  | .BitXor => op_no
  | .BitAnd => op_no
end
/-! ### comparisons -/
/-- a flat value as data -/
def scD : V → Option PyData
  | .non => some .none
  | .bl b => some (.bool b)
  | .int i => some (.int i)
  | .str x => some (.str x)
  | _ => none
mutual
/-- the data that a value shows -/
inductive Dd (so : Addr → Option HO) (H : Hp) : V → PyData → Prop
  | sc {x : V} {d : PyData} : scD x = some d → Dd so H x d
  | lst {a : Addr} {xs : List V} {ds : List PyData} : rd so H a = some (.lst xs) → Dds so H xs ds → Dd so H (.ref a) (.list ds)
  | tup {a : Addr} {xs : List V} {ds : List PyData} : rd so H a = some (.tup xs) → Dds so H xs ds → Dd so H (.ref a) (.tuple ds)
inductive Dds (so : Addr → Option HO) (H : Hp) : List V → List PyData → Prop
  | nil : Dds so H [] []
  | cons {v : V} {vs : List V} {d : PyData} {ds : List PyData} : Dd so H v d → Dds so H vs ds → Dds so H (v :: vs) (d :: ds)
end
theorem dp_sc {K : PySem.W.Frag} {H : Hp} {x : V} {d : PyData} (h : scD x = some d) : Dp K H x d := by
  cases x <;> simp only [scD, Option.some.injEq, reduceCtorEq] at h <;> subst h <;> constructor
section
variable {K : PySem.W.Frag} {so : Addr → Option HO} {H : Hp} (S : SoOk K so)
include S
mutual
theorem Dd.dp : ∀ {v : V} {d : PyData}, Dd so H v d → Dp K H v d
  | _, _, .sc h => dp_sc h
  | _, _, .lst h t => .lst (rd_lst S h) t.dp
  | _, _, .tup h t => .tup (rd_tup S h) t.dp
theorem Dds.dp : ∀ {v : List V} {d : List PyData}, Dds so H v d → DpAll K H v d
  | _, _, .nil => .nil
  | _, _, .cons h t => .cons h.dp t.dp
end
end
/-- a number, a truth, None as data -/
def scN : V → Option PyData
  | .non => some .none
  | .bl b => some (.bool b)
  | .int i => some (.int i)
  | _ => none
/-- == (neg: !=) -/
def eqD (so : Addr → Option HO) (neg : Bool) : R2 := fun x y H Q => match x, y with
  | .str i, .str j => Q (.bl (decide (i = j) != neg)) H
  | _, _ => (match scN x, scN y with
    | some d, some e => Q (.bl (PyData.eqv d e != neg)) H
    | _, _ => ∃ d e, Dd so H x d ∧ Dd so H y e ∧ SeqAt.shaped d = true ∧ SeqAt.shaped e = true ∧ Q (.bl (PyData.eqv d e != neg)) H)
theorem sc_shaped {x : V} {d : PyData} (h : scN x = some d) : SeqAt.shaped d = true := by
  cases x <;> simp only [scN, Option.some.injEq, reduceCtorEq] at h <;> subst h <;> rfl
theorem sc_dp {K : PySem.W.Frag} {H : Hp} {x : V} {d : PyData} (h : scN x = some d) : Dp K H x d := by
  cases x <;> simp only [scN, Option.some.injEq, reduceCtorEq] at h <;> subst h <;> constructor
theorem str_dec {i j : Str} : decide (V.str i = V.str j) = decide (i = j) := by
  by_cases h : i = j
  · subst h; simp
  · simp [h]
theorem op_eqQ {X : Cx} {so : Addr → Option HO} (S : SoOk X.K so) (hu : X.A.units + 64 < cLine) : OpR X (compareOp .Eq) (eqD so false) := OpR.imp (op_eq.or (op_eqD hu)) fun x y H Q h => by
  unfold eqD at h
  split at h
  · exact .inl ⟨rfl, by rw [str_dec]; simpa using h⟩
  · split at h
    · rename_i d e h1 h2
      exact .inr ⟨d, e, sc_dp h1, sc_dp h2, sc_shaped h1, sc_shaped h2, by simpa using h⟩
    · obtain ⟨d, e, h1, h2, h3, h4, q⟩ := h
      exact .inr ⟨d, e, h1.dp S, h2.dp S, h3, h4, by simpa using q⟩
theorem op_neQ {X : Cx} {so : Addr → Option HO} (S : SoOk X.K so) (hu : X.A.units + 64 < cLine) : OpR X (compareOp .NotEq) (eqD so true) := OpR.imp (op_ne.or (op_neD hu)) fun x y H Q h => by
  unfold eqD at h
  split at h
  · exact .inl ⟨rfl, by rw [str_dec]; simpa using h⟩
  · split at h
    · rename_i d e h1 h2
      exact .inr ⟨d, e, sc_dp h1, sc_dp h2, sc_shaped h1, sc_shaped h2, by simpa using h⟩
    · obtain ⟨d, e, h1, h2, h3, h4, q⟩ := h
      exact .inr ⟨d, e, h1.dp S, h2.dp S, h3, h4, by simpa using q⟩
def ordV (p : Int → Int → Bool) : R2 := fun x y H Q => match x, y with
  | .int i, .int j => Q (.bl (p i j)) H
  | _, _ => False
/-- a key's value -/
def keyV : V → Option Key
  | .int i => some (.inl i)
  | .str x => some (.inr x)
  | _ => none
theorem keyV_kV {y : V} {k : Key} (h : keyV y = some k) : y = kV k := by
  cases y <;> simp only [keyV, Option.some.injEq, reduceCtorEq] at h <;> subst h <;> rfl
/-- in (neg: not in) -/
def inD (so : Addr → Option HO) (neg : Bool) : R2 := fun x y H Q => match y with
  | .str j => (match x with
    | .str i => Q (.bl ((!(Builtin.Str.occurrences j i 0 j.length 1).isEmpty) != neg)) H
    | _ => False)
  | .ref p => (match rd so H p with
    | some (.lst xs) => flatV x = true ∧ xs.all flatV = true ∧ Q (.bl (inV x xs != neg)) H
    | some (.tup xs) => flatV x = true ∧ xs.all flatV = true ∧ Q (.bl (inV x xs != neg)) H
    | some (.dK kvs) => (match H p, keyV x with
      | some (.dK _), some k => Q (.bl ((valV kvs k).isSome != neg)) H
      | _, _ => False)
    | _ => False)
  | _ => False
theorem op_dIn {X : Cx} (hu : X.A.units + 1 < cLine) : OpR X (compareOp .In) (fun y x H Q => ∃ a o, x = .ref a ∧ DGet H a y o ∧ Q (.bl o.isSome) H) := by
  intro pins s σ H y x v u Q I ry rx h
  obtain ⟨a, o, rfl, g, q⟩ := h
  obtain rfl : u = Value.ref a := rx
  exact d_in hu I g ry fun s3 I3 => ⟨.bl o.isSome, H, I3, rfl, q⟩
theorem op_dNotIn {X : Cx} (hu : X.A.units + 1 < cLine) : OpR X (compareOp .NotIn) (fun y x H Q => ∃ a o, x = .ref a ∧ DGet H a y o ∧ Q (.bl (!o.isSome)) H) := by
  intro pins s σ H y x v u Q I ry rx h
  obtain ⟨a, o, rfl, g, q⟩ := h
  obtain rfl : u = Value.ref a := rx
  exact d_notIn hu I g ry fun s3 I3 => ⟨.bl (!o.isSome), H, I3, rfl, q⟩
theorem rd_dK {so : Addr → Option HO} {K : PySem.W.Frag} (S : SoOk K so) {H : Hp} {p : Addr} {kvs kvs' : List (Key × V)} (h : rd so H p = some (.dK kvs)) (h' : H p = some (.dK kvs')) : H p = some (.dK kvs) := by
  unfold rd at h
  rw [h'] at h
  cases h
  exact h'
theorem op_inQ {X : Cx} {so : Addr → Option HO} (S : SoOk X.K so) (hu : X.A.units + 1 < cLine) : OpR X (compareOp .In) (inD so false) := OpR.imp (op_in_str.or (op_in_seq.or (op_dIn hu))) fun x y H Q h => by
  unfold inD at h
  split at h
  · split at h
    · exact .inl ⟨_, _, rfl, rfl, by simpa using h⟩
    · exact h.elim
  · split at h
    · rename_i e
      exact .inr (.inl ⟨_, _, rfl, .inl (rd_lst S e), h.1, h.2.1, by simpa using h.2.2⟩)
    · rename_i e
      exact .inr (.inl ⟨_, _, rfl, .inr (rd_tup S e), h.1, h.2.1, by simpa using h.2.2⟩)
    · split at h
      · rename_i e _ _ _ _ e1 e2
        rw [keyV_kV e2]
        exact .inr (.inr ⟨_, _, rfl, .k (rd_dK S e e1), by simpa using h⟩)
      · exact h.elim
    · exact h.elim
  · exact h.elim
theorem op_notInQ {X : Cx} {so : Addr → Option HO} (S : SoOk X.K so) (hu : X.A.units + 1 < cLine) : OpR X (compareOp .NotIn) (inD so true) := OpR.imp (op_notin_str.or (op_notIn_seq.or (op_dNotIn hu))) fun x y H Q h => by
  unfold inD at h
  split at h
  · split at h
    · exact .inl ⟨_, _, rfl, rfl, by simpa using h⟩
    · exact h.elim
  · split at h
    · rename_i e
      exact .inr (.inl ⟨_, _, rfl, .inl (rd_lst S e), h.1, h.2.1, by simpa using h.2.2⟩)
    · rename_i e
      exact .inr (.inl ⟨_, _, rfl, .inr (rd_tup S e), h.1, h.2.1, by simpa using h.2.2⟩)
    · split at h
      · rename_i e _ _ _ _ e1 e2
        rw [keyV_kV e2]
        exact .inr (.inr ⟨_, _, rfl, .k (rd_dK S e e1), by simpa using h⟩)
      · exact h.elim
    · exact h.elim
  · exact h.elim
/-- is (neg: is not) -/
def isV (neg : Bool) : R2 := fun x y H Q => match x, y with
  | _, .non => Q (.bl (decide (x = .non) != neg)) H
  | .bl a, .bl b => Q (.bl (decide (a = b) != neg)) H
  | .ref p, .ref q => (match H p, H q with
    | some op, some oq => isObj op = true ∧ isObj oq = true ∧ Q (.bl (decide (p = q) != neg)) H
    | _, _ => False)
  | _, _ => False
theorem op_isQ {X : Cx} : OpR X (compareOp .Is) (isV false) := OpR.imp (op_isN.or (op_isBl.or op_is_ref)) fun x y H Q h => by
  unfold isV at h
  split at h
  · exact .inl ⟨rfl, by simpa using h⟩
  · exact .inr (.inl ⟨_, _, rfl, rfl, by simpa using h⟩)
  · split at h
    · rename_i e1 e2
      exact .inr (.inr ⟨_, _, _, _, rfl, rfl, e1, h.1, e2, h.2.1, by simpa using h.2.2⟩)
    · exact h.elim
  · exact h.elim
theorem op_isNotQ {X : Cx} : OpR X (compareOp .IsNot) (isV true) := OpR.imp (op_notN.or (op_notBl.or op_isnot_ref)) fun x y H Q h => by
  unfold isV at h
  split at h
  · exact .inl ⟨rfl, by simpa using h⟩
  · exact .inr (.inl ⟨_, _, rfl, rfl, by simpa using h⟩)
  · split at h
    · rename_i e1 e2
      exact .inr (.inr ⟨_, _, _, _, rfl, rfl, e1, h.1, e2, h.2.1, by simpa using h.2.2⟩)
    · exact h.elim
  · exact h.elim
def cmpV (so : Addr → Option HO) (o : CmpOp) : R2 := fun x y H Q => match o with
  | .Eq => eqD so false x y H Q
  | .NotEq => eqD so true x y H Q
  | .Lt => ordV (fun i j => decide (i < j)) x y H Q
  | .LtE => ordV (fun i j => decide (i ≤ j)) x y H Q
  | .Gt => ordV (fun i j => decide (j < i)) x y H Q
  | .GtE => ordV (fun i j => decide (j ≤ i)) x y H Q
  | .In => inD so false x y H Q
  | .NotIn => inD so true x y H Q
  | .Is => isV false x y H Q
  | .IsNot => isV true x y H Q
theorem op_ordV {X : Cx} {f : Value → Value → Sem Value} {p : Int → Int → Bool} (h : OpR X f (rI0 fun i j => .bl (p i j))) : OpR X f (ordV p) := OpR.imp h fun x y H Q h => by
  unfold ordV at h
  split at h
  · exact ⟨_, _, rfl, rfl, h⟩
  · exact h.elim
theorem op_cmpV {X : Cx} {so : Addr → Option HO} (S : SoOk X.K so) (hu : X.A.units + 64 < cLine) (o : CmpOp) : OpR X (compareOp o) (cmpV so o) :=
  have hu1 : X.A.units + 1 < cLine := by omega
  match o with
  | .Eq => op_eqQ S hu
  | .NotEq => op_neQ S hu
  | .Lt => op_ordV op_lt
  | .LtE => op_ordV op_le
  | .Gt => op_ordV op_gt
  | .GtE => op_ordV op_ge
  | .In => op_inQ S hu1
  | .NotIn => op_notInQ S hu1
  | .Is => op_isQ
  | .IsNot => op_isNotQ
/-! ### truth -/
def truV (so : Addr → Option HO) (H : Hp) : V → Option Bool
  | .non => some false
  | .bl b => some b
  | .int i => some (i != 0)
  | .ref p => (match rd so H p with
    | some (.lst xs) => some (!xs.isEmpty)
    | some (.tup xs) => some (!xs.isEmpty)
    | some (.dK kvs) => (match H p with
      | some (.dK _) => some (!kvs.isEmpty)
      | _ => none)
    | _ => none)
  | _ => none
theorem truV_ok {K : PySem.W.Frag} {so : Addr → Option HO} (S : SoOk K so) {H : Hp} {x : V} {k : Bool} (h : truV so H x = some k) : TruV K x H k := by
  cases x with
  | non => exact (Option.some.inj h).symm
  | bl b => exact (Option.some.inj h).symm
  | int i => exact (Option.some.inj h).symm
  | ref p =>
    unfold truV at h
    simp only at h
    split at h
    · rename_i e
      exact .inl ⟨_, rd_lst S e, (Option.some.inj h).symm⟩
    · rename_i e
      exact .inr (.inl ⟨_, rd_tup S e, (Option.some.inj h).symm⟩)
    · split at h
      · rename_i e _ _ e1
        exact .inr (.inr ⟨_, rd_dK S e e1, (Option.some.inj h).symm⟩)
      · cases h
    · cases h
  | _ => cases h
end QL
set_option Elab.async false
set_option linter.all false
set_option maxRecDepth 100000
set_option maxHeartbeats 4000000
/-! Q3: built-in functions, items, slices. -/
namespace QL
open PySem PySem.Spec L2
open PyProof.Rows hiding St
inductive Bi where
  | len | int | bool | str | repr | min | max | abs | sum | list | tuple | any | all | sorted
  deriving DecidableEq
def lenV (so : Addr → Option HO) (H : Hp) : V → Option Nat
  | .str y => if y.length ≤ sizeLine then some y.length else none
  | .ref p => (match rd so H p with
    | some (.lst xs) => some xs.length
    | some (.tup xs) => some xs.length
    | some (.dK kvs) => (match H p with
      | some (.dK _) => some kvs.length
      | _ => none)
    | _ => none)
  | _ => none
/-- ints out of values -/
def intsV : List V → Option (List Int)
  | [] => some []
  | .int i :: r => (intsV r).map (i :: ·)
  | _ :: _ => none
def blsV : List V → Option (List Bool)
  | [] => some []
  | .bl i :: r => (blsV r).map (i :: ·)
  | _ :: _ => none
theorem intsV_map : ∀ {xs : List V} {ns : List Int}, intsV xs = some ns → xs = ns.map V.int
  | [], ns, h => by cases h; rfl
  | .int i :: r, ns, h => by
    unfold intsV at h
    cases e : intsV r with
    | none => rw [e] at h; cases h
    | some m => rw [e] at h; cases h; rw [List.map_cons, ← intsV_map e]
  | .non :: _, _, h | .bl _ :: _, _, h | .str _ :: _, _, h | .byt _ :: _, _, h | .flt _ :: _, _, h | .ref _ :: _, _, h | .ty _ :: _, _, h => by cases h
theorem blsV_map : ∀ {xs : List V} {ns : List Bool}, blsV xs = some ns → xs = ns.map V.bl
  | [], ns, h => by cases h; rfl
  | .bl i :: r, ns, h => by
    unfold blsV at h
    cases e : blsV r with
    | none => rw [e] at h; cases h
    | some m => rw [e] at h; cases h; rw [List.map_cons, ← blsV_map e]
  | .non :: _, _, h | .int _ :: _, _, h | .str _ :: _, _, h | .byt _ :: _, _, h | .flt _ :: _, _, h | .ref _ :: _, _, h | .ty _ :: _, _, h => by cases h
@[simp] theorem intsV_ints (ns : List Int) : intsV (ns.map V.int) = some ns := by
  induction ns with
  | nil => rfl
  | cons a r ih => simp [intsV, ih]
@[simp] theorem blsV_bls (ns : List Bool) : blsV (ns.map V.bl) = some ns := by
  induction ns with
  | nil => rfl
  | cons a r ih => simp [blsV, ih]
/-- a list's items -/
def lstV (so : Addr → Option HO) (H : Hp) : V → Option (List V)
  | .ref p => (match rd so H p with
    | some (.lst xs) => some xs
    | _ => none)
  | _ => none
def tupV (so : Addr → Option HO) (H : Hp) : V → Option (List V)
  | .ref p => (match rd so H p with
    | some (.tup xs) => some xs
    | _ => none)
  | _ => none
theorem lstV_ok {K : PySem.W.Frag} {so : Addr → Option HO} (S : SoOk K so) {H : Hp} {x : V} {xs : List V} (h : lstV so H x = some xs) : ∃ p, x = .ref p ∧ SqL K H p xs := by
  cases x with
  | ref p =>
    unfold lstV at h
    simp only at h
    split at h
    · rename_i e
      cases h
      exact ⟨p, rfl, rd_lst S e⟩
    · cases h
  | _ => cases h
theorem tupV_ok {K : PySem.W.Frag} {so : Addr → Option HO} (S : SoOk K so) {H : Hp} {x : V} {xs : List V} (h : tupV so H x = some xs) : ∃ p, x = .ref p ∧ SqT K H p xs := by
  cases x with
  | ref p =>
    unfold tupV at h
    simp only at h
    split at h
    · rename_i e
      cases h
      exact ⟨p, rfl, rd_tup S e⟩
    · cases h
  | _ => cases h
def bLen (so : Addr → Option HO) : List V → Hp → VK → Prop := fun xs H Q => match xs with
  | [x] => (match lenV so H x with
    | some n => Q (.int n) H
    | none => False)
  | _ => False
def bInt : List V → Hp → VK → Prop := fun xs H Q => match xs with
  | [.int i] => Q (.int i) H
  | [.bl k] => Q (.int (if k then 1 else 0)) H
  | [.str a] => a.length ≤ 640 ∧ ∃ n, PySem.intText? a = some n ∧ Q (.int n) H
  | _ => False
def bBool : List V → Hp → VK → Prop := fun xs H Q => match xs with
  | [.int i] => Q (.bl (i != 0)) H
  | [.bl k] => Q (.bl k) H
  | _ => False
def bStr : List V → Hp → VK → Prop := fun xs H Q => match xs with
  | [.int i] => i.natAbs.log2 < 1920 ∧ Q (.str (toString i)) H
  | _ => False
def bRepr (so : Addr → Option HO) : List V → Hp → VK → Prop := fun xs H Q => match xs with
  | [x] => ∃ d, Dd so H x d ∧ d.showable = true ∧ d.hasDict = false ∧ d.depth ≤ 60 ∧ d.shown.length ≤ sizeLine ∧ Q (.str d.shown) H
  | _ => False
def bMin : List V → Hp → VK → Prop := fun xs H Q => match xs with
  | [.int i, .int j] => Q (.int (if j < i then j else i)) H
  | _ => False
def bMax : List V → Hp → VK → Prop := fun xs H Q => match xs with
  | [.int i, .int j] => Q (.int (if j > i then j else i)) H
  | _ => False
def bAbs : List V → Hp → VK → Prop := fun xs H Q => match xs with
  | [.int i] => Q (.int (if i < 0 then -i else i)) H
  | _ => False
def bSum (so : Addr → Option HO) : List V → Hp → VK → Prop := fun xs H Q => match xs with
  | [x] => (match (lstV so H x).bind intsV with
    | some ns => Q (.int ns.sum) H
    | none => False)
  | _ => False
def bAny (so : Addr → Option HO) : List V → Hp → VK → Prop := fun xs H Q => match xs with
  | [x] => (match (lstV so H x).bind blsV with
    | some bs => Q (.bl (bs.any id)) H
    | none => False)
  | _ => False
def bAll (so : Addr → Option HO) : List V → Hp → VK → Prop := fun xs H Q => match xs with
  | [x] => (match (lstV so H x).bind blsV with
    | some bs => Q (.bl (bs.all id)) H
    | none => False)
  | _ => False
def bList (so : Addr → Option HO) : List V → Hp → VK → Prop := fun xs H Q => match xs with
  | [x] => (match lstV so H x, tupV so H x with
    | some ys, _ => ∀ l, H l = none → so l = none → Q (.ref l) (upd H l (.lst ys))
    | none, some ys => ∀ l, H l = none → so l = none → Q (.ref l) (upd H l (.lst ys))
    | none, none => False)
  | _ => False
def bTuple (so : Addr → Option HO) : List V → Hp → VK → Prop := fun xs H Q => match xs with
  | [x] => (match lstV so H x, tupV so H x with
    | some ys, _ => ∀ l, H l = none → so l = none → Q (.ref l) (upd H l (.tup ys))
    | none, some _ => Q x H
    | none, none => False)
  | _ => False
def bSorted (so : Addr → Option HO) : List V → Hp → VK → Prop := fun xs H Q => match xs with
  | [x] => (match (lstV so H x).bind intsV with
    | some ns => ns.length < 64 ∧ ∀ (ns' : List Int) (p : Addr), ns'.Perm ns → ns'.Pairwise (· ≤ ·) → H p = none → so p = none → Q (.ref p) (upd H p (.lst (ns'.map V.int)))
    | none => False)
  | _ => False
def biV (so : Addr → Option HO) : Bi → List V → Hp → VK → Prop
  | .len => bLen so
  | .int => bInt
  | .bool => bBool
  | .str => bStr
  | .repr => bRepr so
  | .min => bMin
  | .max => bMax
  | .abs => bAbs
  | .sum => bSum so
  | .list => bList so
  | .tuple => bTuple so
  | .any => bAny so
  | .all => bAll so
  | .sorted => bSorted so
/-- what a built-in is called, and what it is -/
def biN : Bi → Str
  | .len => "len" | .int => "int" | .bool => "bool" | .str => "str" | .repr => "repr" | .min => "min" | .max => "max" | .abs => "abs" | .sum => "sum" | .list => "list" | .tuple => "tuple" | .any => "any" | .all => "all" | .sorted => "sorted"
def biF : Bi → Value
  | .len => .builtin "len" | .int => .type "int" | .bool => .type "bool" | .str => .type "str" | .repr => .builtin "repr" | .min => .builtin "min" | .max => .builtin "max" | .abs => .builtin "abs" | .sum => .builtin "sum" | .list => .type "list" | .tuple => .type "tuple"
  | .any => .builtin "any" | .all => .builtin "all" | .sorted => .builtin "sorted"
theorem biB (b : Bi) : bootBuiltins (biN b) = some (biF b) := by cases b <;> decide +kernel
theorem biN_name (b : Bi) : biN b ≠ "__name__" := by cases b <;> decide
theorem biN_debug (b : Bi) : (biN b == ("__debug__" : Str)) = false := by cases b <;> decide
section
variable {X : Cx} {so : Addr → Option HO}
theorem call_reprQ (S : SoOk X.K so) (hg : X.A.guards = some []) (hu : X.A.units + 64 < cLine) : CallR X (.builtin "repr") (fun xs H Q => ∃ x d, xs = [x] ∧ Dd so H x d ∧ d.showable = true ∧ d.hasDict = false ∧ d.depth ≤ 60 ∧ d.shown.length ≤ sizeLine ∧ Q (.str d.shown) H) := by
  intro pins s σ H xs us Q I r h
  obtain ⟨x, d, rfl, hd, hs, hn, hp, hz, q⟩ := h
  obtain ⟨u, rfl, rx⟩ := vals1 r
  have D := hd.dp S
  have fin : ∀ (tk : Nat) (t : Tok), EP X pins σ Q (.str d.shown t) { s with toks := tk } := fun tk t => ⟨.str d.shown, H, I.tok tk, ⟨t, rfl⟩, q⟩
  cases D with
  | non =>
    cases rx
    exact PySem.P.repr_of_none (fin _ _)
  | bl b =>
    cases rx
    refine PySem.P.repr_of_bool ?_
    have e := fin (s.toks + 1) s.toks
    unfold PyData.shown at e
    cases b <;> exact e
  | int i =>
    obtain ⟨t, rfl⟩ := rx
    exact PySem.P.repr_of_int (of_decide_eq_true hs) (fin _ _)
  | str y =>
    obtain ⟨t, rfl⟩ := rx
    exact PySem.P.repr_of_str (fin _ _) hz
  | @lst a ys ds sq da =>
    obtain ⟨as, rr⟩ := Dp.reads I _ _ u (.lst sq da) rx
    cases rx
    exact repr_of_reads' rr hs (PyData.noDict_hsm hn) hg (by omega) (fun _ _ e => e) (fun h' t tk hk => ⟨.str _, H, I.kept (t' := tk) hk, ⟨t, rfl⟩, q⟩) hz
  | @tup a ys ds sq da =>
    obtain ⟨as, rr⟩ := Dp.reads I _ _ u (.tup sq da) rx
    cases rx
    exact repr_of_reads' rr hs (PyData.noDict_hsm hn) hg (by omega) (fun _ _ e => e) (fun h' t tk hk => ⟨.str _, H, I.kept (t' := tk) hk, ⟨t, rfl⟩, q⟩) hz
theorem call_lenQ (S : SoOk X.K so) : CallR X (.builtin "len") (bLen so) := CallR.imp (CallR.or call_len call_lenD) fun xs H Q h => by
  unfold bLen at h
  split at h
  · rename_i x
    split at h
    · rename_i n e
      cases x with
      | str y =>
        unfold lenV at e
        simp only at e
        split at e
        · rename_i z
          cases e
          exact .inl ⟨_, _, rfl, ⟨z, rfl⟩, h⟩
        · cases e
      | ref p =>
        unfold lenV at e
        simp only at e
        split at e
        · rename_i e1
          cases e
          exact .inl ⟨_, _, rfl, .inl ⟨_, rd_lst S e1, rfl⟩, h⟩
        · rename_i e1
          cases e
          exact .inl ⟨_, _, rfl, .inr ⟨_, rd_tup S e1, rfl⟩, h⟩
        · split at e
          · rename_i e1 _ _ e2
            cases e
            exact .inr ⟨_, _, rfl, rd_dK S e1 e2, h⟩
          · cases e
        · cases e
      | _ => cases e
    · exact h.elim
  · exact h.elim
theorem bind_some {α β : Type} {x : Option α} {f : α → Option β} {b : β} (h : x.bind f = some b) : ∃ a, x = some a ∧ f a = some b := by
  cases x with
  | none => cases h
  | some a => exact ⟨a, rfl, h⟩
theorem ints_at (S : SoOk X.K so) {H : Hp} {x : V} {ns : List Int} (h : (lstV so H x).bind intsV = some ns) : ∃ p, x = .ref p ∧ SqL X.K H p (ns.map V.int) := by
  obtain ⟨xs, h1, h2⟩ := bind_some h
  obtain ⟨p, rfl, q⟩ := lstV_ok S h1
  rw [intsV_map h2] at q
  exact ⟨p, rfl, q⟩
theorem bls_at (S : SoOk X.K so) {H : Hp} {x : V} {ns : List Bool} (h : (lstV so H x).bind blsV = some ns) : ∃ p, x = .ref p ∧ SqL X.K H p (ns.map V.bl) := by
  obtain ⟨xs, h1, h2⟩ := bind_some h
  obtain ⟨p, rfl, q⟩ := lstV_ok S h1
  rw [blsV_map h2] at q
  exact ⟨p, rfl, q⟩
theorem call_no {f : Value} : CallR X f (fun _ _ _ => False) := fun _ _ _ _ _ _ _ _ _ h => h.elim
theorem call_biV (S : SoOk X.K so) (hc : X.calm = true) (hg : X.A.guards = some []) (hu : X.A.units + 64 < cLine) : ∀ b : Bi, CallR X (biF b) (biV so b)
  | .len => call_lenQ S
  | .int => CallR.imp (CallR.or call_int1 call_int_str) fun xs H Q h => by
    change bInt xs H Q at h
    unfold bInt at h
    split at h
    · exact .inl (.inl ⟨_, rfl, h⟩)
    · exact .inl (.inr ⟨_, rfl, h⟩)
    · obtain ⟨z, n, e, q⟩ := h
      exact .inr ⟨_, _, rfl, e, z, q⟩
    · exact h.elim
  | .bool => CallR.imp call_bool1 fun xs H Q h => by
    change bBool xs H Q at h
    unfold bBool at h
    split at h
    · exact .inl ⟨_, rfl, h⟩
    · exact .inr ⟨_, rfl, h⟩
    · exact h.elim
  | .str => CallR.imp call_str_int fun xs H Q h => by
    change bStr xs H Q at h
    unfold bStr at h
    split at h
    · exact ⟨_, rfl, h.1, h.2⟩
    · exact h.elim
  | .repr => CallR.imp (call_reprQ S hg hu) fun xs H Q h => by
    change bRepr so xs H Q at h
    unfold bRepr at h
    split at h
    · obtain ⟨d, q⟩ := h
      exact ⟨_, d, rfl, q⟩
    · exact h.elim
  | .min => CallR.imp (call_min2 hc) fun xs H Q h => by
    change bMin xs H Q at h
    unfold bMin at h
    split at h
    · exact ⟨_, _, rfl, h⟩
    · exact h.elim
  | .max => CallR.imp (call_max2 hc) fun xs H Q h => by
    change bMax xs H Q at h
    unfold bMax at h
    split at h
    · exact ⟨_, _, rfl, h⟩
    · exact h.elim
  | .abs => CallR.imp call_abs fun xs H Q h => by
    change bAbs xs H Q at h
    unfold bAbs at h
    split at h
    · exact ⟨_, rfl, h⟩
    · exact h.elim
  | .sum => CallR.imp (cr_sum hc) fun xs H Q h => by
    change bSum so xs H Q at h
    unfold bSum at h
    split at h
    · split at h
      · rename_i e
        obtain ⟨p, rfl, sq⟩ := ints_at S e
        exact ⟨p, _, rfl, sq, h⟩
      · exact h.elim
    · exact h.elim
  | .any => CallR.imp (cr_any hc) fun xs H Q h => by
    change bAny so xs H Q at h
    unfold bAny at h
    split at h
    · split at h
      · rename_i e
        obtain ⟨p, rfl, sq⟩ := bls_at S e
        exact ⟨p, _, rfl, sq, h⟩
      · exact h.elim
    · exact h.elim
  | .all => CallR.imp (cr_all hc) fun xs H Q h => by
    change bAll so xs H Q at h
    unfold bAll at h
    split at h
    · split at h
      · rename_i e
        obtain ⟨p, rfl, sq⟩ := bls_at S e
        exact ⟨p, _, rfl, sq, h⟩
      · exact h.elim
    · exact h.elim
  | .list => CallR.imp (CallR.nok S call_list_of) fun xs H Q h => by
    change bList so xs H Q at h
    unfold bList at h
    split at h
    · split at h
      · rename_i e
        obtain ⟨p, rfl, sq⟩ := lstV_ok S e
        exact ⟨p, _, rfl, .inl sq, fun l hl nk => h l hl (nok_upd nk)⟩
      · rename_i e
        obtain ⟨p, rfl, sq⟩ := tupV_ok S e
        exact ⟨p, _, rfl, .inr sq, fun l hl nk => h l hl (nok_upd nk)⟩
      · exact h.elim
    · exact h.elim
  | .tuple => CallR.imp (CallR.nok S call_tuple_of) fun xs H Q h => by
    change bTuple so xs H Q at h
    unfold bTuple at h
    split at h
    · split at h
      · rename_i e
        obtain ⟨p, rfl, sq⟩ := lstV_ok S e
        exact ⟨p, _, rfl, .inl ⟨sq, fun l hl nk => h l hl (nok_upd nk)⟩⟩
      · rename_i e
        obtain ⟨p, rfl, sq⟩ := tupV_ok S e
        exact ⟨p, _, rfl, .inr ⟨sq, fun _ => h⟩⟩
      · exact h.elim
    · exact h.elim
  | .sorted => CallR.imp (CallR.nok S cr_sorted) fun xs H Q h => by
    change bSorted so xs H Q at h
    unfold bSorted at h
    split at h
    · split at h
      · rename_i e
        obtain ⟨p, rfl, sq⟩ := ints_at S e
        exact ⟨p, _, rfl, sq, h.1, fun a b h1 h2 h3 nk => h.2 a b h1 h2 h3 (nok_upd nk)⟩
      · exact h.elim
    · exact h.elim
/-- b(e, ..), b a built-in -/
theorem pe_bi {b : Bi} {p pos : Pos} {e : Expr} {es : List Expr} {t : TA} (S : SoOk X.K so) (hc : X.calm = true) (hg : X.A.guards = some []) (hu : X.A.units + 64 < cLine) (hgl : Gl X (biN b)) (hm : X.mg (biN b) = none) (ha : PA X (e :: es) t)
    (he : starEach (e :: es) X.env = (false, eval e X.env) :: starEach es X.env) (hpl : (backTo pos (starEach es X.env)).any (·.1) = false) : PE X (.Call (.Name (biN b) p) (e :: es) [] pos) (fun σ H Q => t σ H fun vs H1 => biV so b vs H1 Q) := by
  have hcb := call_biV S hc hg hu b
  have hv := biB b
  have hn := biN_name b
  have hd := biN_debug b
  cases hk : biF b with
  | builtin i =>
    rw [hk] at hcb hv
    exact pe_callB hcb hgl hm hv ha hn hd he hpl
  | type i =>
    rw [hk] at hcb hv
    exact pe_callTy hcb hgl hm hv ha hn hd he hpl
  | _ => cases b <;> cases hk
end
/-! ### items and slices -/
def idxV (so : Addr → Option HO) : R2 := fun x y H Q => match x, y with
  | .ref p, .int i => (match rd so H p with
    | some (.lst xs) => (match atI xs i with
      | some v => Q v H
      | none => False)
    | some (.tup xs) => (match atI xs i with
      | some v => Q v H
      | none => False)
    | some (.dK kvs) => (match H p with
      | some (.dK _) => (match valV kvs (.inl i : Key) with
        | some v => Q v H
        | none => False)
      | _ => False)
    | _ => False)
  | .ref p, .str z => (match rd so H p with
    | some (.dK kvs) => (match H p with
      | some (.dK _) => (match valV kvs (.inr z : Key) with
        | some v => Q v H
        | none => False)
      | _ => False)
    | _ => False)
  | .str z, .int i => z.length ≤ sizeLine ∧ (match atI z.cps.toList i with
    | some c => Q (.str ⟨#[c]⟩) H
    | none => False)
  | _, _ => False
theorem IxR.imp {X : Cx} {r r' : R2} (h : IxR X r) (q : ∀ x y H Q, r' x y H Q → r x y H Q) : IxR X r' :=
  fun va sl pins s σ H x y v u Q I rx ry z => h va sl pins s σ H x y v u Q I rx ry (q x y H Q z)
/-- an item by a built-in's __getitem__, whatever it is -/
theorem tail_get {P : Program} {w : World} {A : Around} {E : Value → Shared → Prop} {s : Shared} {va sl : Expr} {o i : Value} {T id : String} {Q : Value → Shared → Prop} (hT : s.TypeIs o T) (hl : typeLookup (.type T) "__getitem__" = pure (some (.builtin id)))
    (h : wpAny (model P w) A (getItem o i) Q E s) (hs : subscripted sl false o i = operate [o, i] (getItem o i)) : wpAny (model P w) A (subscriptTail va sl o i) Q E s := by
  unfold subscriptTail
  refine wpAny_bind ?_
  rw [getitemInPython_of_ne hT.not_modules]
  refine wpAny_bind (wpAny_specialOf hT hl ?_)
  refine wpAny_pure (wpAny_bind ?_)
  rw [hs]
  exact wpAny_operating (wpAny_mono h (fun r s3 q => wpAny_bind (wpAny_letTemporaryGo (wpAny_pure q))) fun _ _ x => x)
theorem ix_dict {X : Cx} (hu : X.A.units + 1 < cLine) : IxR X (fun x y H Q => ∃ a v, x = .ref a ∧ DGet H a y (some v) ∧ Q v H) := by
  intro value slice pins s σ H x y v u Q I rx ry h hs
  obtain ⟨a, z, rfl, g, q⟩ := h
  obtain rfl : v = Value.ref a := rx
  exact tail_get (dict_typeIs I g) PySem.F.slot_dict_getitem.lookup (d_getItem hu I g ry fun w' s3 I3 rw' => ⟨z, H, I3, rw', q⟩) hs
theorem ix_idxV {X : Cx} {so : Addr → Option HO} (S : SoOk X.K so) (hu : X.A.units + 1 < cLine) : IxR X (idxV so) := IxR.imp (IxR.or ix_seq (ix_dict hu)) fun x y H Q h => by
  unfold idxV at h
  split at h
  · split at h
    · rename_i e
      split at h
      · rename_i e2
        exact .inl (.inl ⟨_, _, _, _, rfl, rfl, rd_lst S e, e2, h⟩)
      · exact h.elim
    · rename_i e
      split at h
      · rename_i e2
        exact .inl (.inr (.inl ⟨_, _, _, _, rfl, rfl, rd_tup S e, e2, h⟩))
      · exact h.elim
    · rename_i e
      split at h
      · rename_i e1
        split at h
        · rename_i e2
          refine .inr ⟨_, _, rfl, ?_, h⟩
          rw [← e2]
          exact DGet.k (k := Sum.inl _) (rd_dK S e e1)
        · exact h.elim
      · exact h.elim
    · exact h.elim
  · split at h
    · rename_i e
      split at h
      · rename_i e1
        split at h
        · rename_i e2
          refine .inr ⟨_, _, rfl, ?_, h⟩
          rw [← e2]
          exact DGet.k (k := Sum.inr _) (rd_dK S e e1)
        · exact h.elim
      · exact h.elim
    · exact h.elim
  · obtain ⟨z, h⟩ := h
    split at h
    · rename_i e
      exact .inl (.inr (.inr ⟨_, _, _, rfl, rfl, z, e, h⟩))
    · exact h.elim
  · exact h.elim
/-- x[lo:hi] -/
def slcV (so : Addr → Option HO) : V → Option Int → Option Int → Hp → VK → Prop := fun x lo hi H Q => match lstV so H x with
  | some xs => ∀ p, H p = none → so p = none → Q (.ref p) (upd H p (.lst (cutV xs lo hi)))
  | none => False
theorem SlR.imp {X : Cx} {r r' : V → Option Int → Option Int → Hp → VK → Prop} (h : SlR X r) (q : ∀ x lo hi H Q, r' x lo hi H Q → r x lo hi H Q) : SlR X r' :=
  fun pins s σ H x v vl vu lo hi sl Q I rx hs pl pu z => h pins s σ H x v vl vu lo hi sl Q I rx hs pl pu (q x lo hi H Q z)
theorem sl_slcV {X : Cx} {so : Addr → Option HO} (S : SoOk X.K so) : SlR X (slcV so) := SlR.imp (SlR.nok S sl_list) fun x lo hi H Q h => by
  unfold slcV at h
  split at h
  · rename_i e
    obtain ⟨p, rfl, sq⟩ := lstV_ok S e
    exact ⟨p, _, rfl, sq, fun l hl nk => h l hl (nok_upd nk)⟩
  · exact h.elim
/-! ### stores -/
def setV : TSet := fun o i v H Q => match o, i with
  | .ref p, .int k => (match H p with
    | some (.lst xs) => (match ixN xs.length k with
      | some j => Q (upd H p (.lst (xs.set j v)))
      | none => False)
    | some (.dK kvs) => kvs.length < sizeLine ∧ Q (upd H p (.dK (putK kvs (.inl k : Key) v)))
    | _ => False)
  | .ref p, .str z => (match H p with
    | some (.dK kvs) => kvs.length < sizeLine ∧ Q (upd H p (.dK (putK kvs (.inr z : Key) v)))
    | _ => False)
  | _, _ => False
theorem PSet.or {X : Cx} {t t' : TSet} (h : PSet X t) (h' : PSet X t') : PSet X (fun o i v H Q => t o i v H Q ∨ t' o i v H Q) := fun pins s σ H o i v ov iv u Q I ro ri rv z => z.elim (h pins s σ H o i v ov iv u Q I ro ri rv) (h' pins s σ H o i v ov iv u Q I ro ri rv)
theorem PSet.imp {X : Cx} {t t' : TSet} (h : PSet X t) (q : ∀ o i v H Q, t' o i v H Q → t o i v H Q) : PSet X t' := fun pins s σ H o i v ov iv u Q I ro ri rv z => h pins s σ H o i v ov iv u Q I ro ri rv (q o i v H Q z)
theorem set_dict {X : Cx} (hu : X.A.units + 1 < cLine) : PSet X (fun o i v H Q => ∃ a H4, o = .ref a ∧ DPut H a i v H4 ∧ Q H4) := by
  intro pins s σ H o i v ov iv u Q I ro ri rv h
  obtain ⟨a, H4, rfl, g, q⟩ := h
  obtain rfl : ov = Value.ref a := ro
  exact d_setItem hu I g ri rv fun s4 I4 => ⟨H4, I4, q⟩
theorem set_setV {X : Cx} (hu : X.A.units + 1 < cLine) : PSet X setV := PSet.imp (PSet.or set_list (set_dict hu)) fun o i v H Q h => by
  unfold setV at h
  split at h
  · split at h
    · rename_i e
      split at h
      · rename_i e2
        exact .inl ⟨_, _, _, _, rfl, rfl, e, e2, h⟩
      · exact h.elim
    · rename_i e
      exact .inr ⟨_, _, rfl, DPut.k (k := Sum.inl _) e h.1, h.2⟩
    · exact h.elim
  · split at h
    · rename_i e
      exact .inr ⟨_, _, rfl, DPut.k (k := Sum.inr _) e h.1, h.2⟩
    · exact h.elim
  · exact h.elim
end QL
set_option Elab.async false
set_option linter.all false
set_option maxRecDepth 100000
set_option maxHeartbeats 4000000
/-! Q4: a small language of expressions, what its terms ask (wE), and how Python's expressions are turned into it (cE). -/
namespace QL
open PySem PySem.Spec L2
open PyProof.Rows hiding St
/-- built-in classes that isinstance asks for -/
inductive Bt where
  | int | bool | str | list | tuple
  deriving DecidableEq
mutual
inductive Ex where
  | var (i : Nat)
  | lit (v : V)
  | cst (x : Str)
  | op (o : Operator) (a b : Ex)
  | neg (a : Ex)
  | cmp (o : CmpOp) (a b : Ex)
  | chn (o o' : CmpOp) (a b c : Ex)
  | and (a b : Ex)
  | or (a b : Ex)
  | not (a : Ex)
  | ite (t : Te) (a b : Ex)
  | fld (o : Ex) (f : Str)
  | idx (o i : Ex)
  | slc (o : Ex) (lo hi : Ox)
  | lst (es : Exs)
  | tup (es : Exs)
  | fn (f : Str) (es : Exs)
  | bi (b : Bi) (es : Exs)
  | isi (e : Ex) (T : Bt)
inductive Exs where
  | nil
  | cons (e : Ex) (es : Exs)
inductive Ox where
  | none
  | some (e : Ex)
inductive Te where
  | val (e : Ex)
  | cmp (o : CmpOp) (a b : Ex)
  | chn (o o' : CmpOp) (a b c : Ex)
  | and (a b : Te)
  | or (a b : Te)
  | not (a : Te)
end
/-- what stands written behind the top: constants, written objects, fields of the own classes -/
structure Stat where
  gv : Str → Option V
  so : Addr → Option HO
  fl : Addr → Str → Prop
/-- what the defs do -/
structure Sm where
  fn : Str → Sp
def boolV (Q : Bool → Hp → Prop) : VK := fun z H => match z with
  | .bl k => Q k H
  | _ => False
def tBl : Bt → Bool
  | .bool => true | .int => true | .str => false | .list => false | .tuple => false
def tInt : Bt → Bool
  | .bool => false | .int => true | .str => false | .list => false | .tuple => false
def tStr : Bt → Bool
  | .bool => false | .int => false | .str => true | .list => false | .tuple => false
def tList : Bt → Bool
  | .bool => false | .int => false | .str => false | .list => true | .tuple => false
def tTuple : Bt → Bool
  | .bool => false | .int => false | .str => false | .list => false | .tuple => true
/-- the kind of a value -/
def btV (so : Addr → Option HO) (H : Hp) (T : Bt) : V → Option Bool
  | .non => some false
  | .bl _ => some (tBl T)
  | .int _ => some (tInt T)
  | .str _ => some (tStr T)
  | .ref p => (match H p with
    | some (.lst _) => some (tList T)
    | some (.tup _) => some (tTuple T)
    | some (.dK _) => some false
    | _ => none)
  | _ => none
def fldV (S : Stat) (f : Str) : V → Hp → VK → Prop := fun x H Q => match x with
  | .ref p => (match H p with
    | some (.ins C _ fs) => S.fl C f ∧ (match fs.lookup f with
      | some v => Q v H
      | none => False)
    | _ => False)
  | _ => False
def varK (o : Option (Option V)) (B : V → Prop) : Prop := match o with
  | some (some v) => B v
  | _ => False
def cstK (o : Option V) (B : V → Prop) : Prop := match o with
  | some v => B v
  | none => False
def truK (so : Addr → Option HO) (x : V) (H : Hp) (B : Bool → Prop) : Prop := match truV so H x with
  | some k => B k
  | none => False
def btK (so : Addr → Option HO) (T : Bt) (x : V) (H : Hp) (B : Bool → Prop) : Prop := match btV so H T x with
  | some k => B k
  | none => False
def intK (x : V) (B : Int → Prop) : Prop := match x with
  | .int i => B i
  | _ => False
section
variable (S : Stat) (F : Sm) (W : WX)
mutual
def wE : Ex → TE
  | .var i => fun σ H Q => varK σ[i]? fun v => Q v H
  | .lit v => fun _ H Q => Q v H
  | .cst x => fun _ H Q => cstK (S.gv x) fun v => Q v H
  | .op o a b => fun σ H Q => wE a σ H fun x H1 => wE b σ H1 fun y H2 => opV S.so o x y H2 Q
  | .neg a => fun σ H Q => wE a σ H fun x H1 => intK x fun i => Q (.int (-i)) H1
  | .cmp o a b => fun σ H Q => wE a σ H fun x H1 => wE b σ H1 fun y H2 => cmpV S.so o x y H2 Q
  | .chn o o' a b c => fun σ H Q => wE a σ H fun x H1 => wE b σ H1 fun y H2 => cmpV S.so o x y H2 (boolV fun k H3 => if k = true then wE c σ H3 fun z H4 => cmpV S.so o' y z H4 Q else Q (.bl false) H3)
  | .and a b => fun σ H Q => wE a σ H fun x H1 => truK S.so x H1 fun k => if k = true then wE b σ H1 Q else Q x H1
  | .or a b => fun σ H Q => wE a σ H fun x H1 => truK S.so x H1 fun k => if k = true then Q x H1 else wE b σ H1 Q
  | .not a => fun σ H Q => wE a σ H fun x H1 => truK S.so x H1 fun k => Q (.bl (!k)) H1
  | .ite t a b => fun σ H Q => wT t σ H fun k H1 => if k = true then wE a σ H1 Q else wE b σ H1 Q
  | .fld o f => fun σ H Q => wE o σ H fun x H1 => fldV S f x H1 Q
  | .idx o i => fun σ H Q => wE o σ H fun x H1 => wE i σ H1 fun y H2 => idxV S.so x y H2 Q
  | .slc o lo hi => fun σ H Q => wE o σ H fun x H1 => wO lo σ H1 fun a H2 => wO hi σ H2 fun b H3 => slcV S.so x a b H3 Q
  | .lst es => fun σ H Q => wA es σ H fun xs H1 => xs.length ≤ sizeLine ∧ ∀ p, H1 p = none → S.so p = none → Q (.ref p) (upd H1 p (.lst xs))
  | .tup es => fun σ H Q => wA es σ H fun xs H1 => xs.length ≤ sizeLine ∧ ∀ p, H1 p = none → S.so p = none → Q (.ref p) (upd H1 p (.tup xs))
  | .fn f es => fun σ H Q => wA es σ H fun vs H1 => F.fn f vs H1 Q (fun c d H' => W c d σ H')
  | .bi b es => fun σ H Q => wA es σ H fun vs H1 => biV S.so b vs H1 Q
  | .isi e T => fun σ H Q => wE e σ H fun x H1 => btK S.so T x H1 fun k => Q (.bl k) H1
def wA : Exs → TA
  | .nil => fun _ H Q => Q [] H
  | .cons e es => fun σ H Q => wE e σ H fun x H1 => wA es σ H1 fun xs H2 => Q (x :: xs) H2
def wO : Ox → St → Hp → (Option Int → Hp → Prop) → Prop
  | .none => fun _ H Q => Q none H
  | .some e => fun σ H Q => wE e σ H fun x H1 => intK x fun i => Q (some i) H1
def wT : Te → TT
  | .val e => fun σ H Q => wE e σ H fun x H1 => truK S.so x H1 fun k => Q k H1
  | .cmp o a b => fun σ H Q => wE a σ H fun x H1 => wE b σ H1 fun y H2 => cmpV S.so o x y H2 (boolV Q)
  | .chn o o' a b c => fun σ H Q => wE a σ H fun x H1 => wE b σ H1 fun y H2 => cmpV S.so o x y H2 (boolV fun k H3 => if k = true then wE c σ H3 fun z H4 => cmpV S.so o' y z H4 (boolV Q) else Q false H3)
  | .and a b => fun σ H Q => wT a σ H fun k H1 => if k = true then wT b σ H1 Q else Q false H1
  | .or a b => fun σ H Q => wT a σ H fun k H1 => if k = true then Q true H1 else wT b σ H1 Q
  | .not a => fun σ H Q => wT a σ H fun k H1 => Q (!k) H1
end
end
/-! ### turning Python's expressions -/
inductive Gk where
  | fn | cst | bi (b : Bi) | isi | no
  deriving DecidableEq
structure CI where
  N : List Str
  sc : Scope
  gl : Str → Gk
def okN (x : Str) : Bool := !(x == ("__debug__" : Str)) && !(x == ("__classdict__" : Str))
def slotOf (C : CI) (x : Str) : Option Nat := match C.sc.names.lookup x with
  | some .local => C.N.idxOf? x
  | some .cell => C.N.idxOf? x
  | some .free => C.N.idxOf? x
  | _ => none
def isG (C : CI) (x : Str) : Bool := match C.sc.names.lookup x with
  | some .globalImplicit => true
  | _ => false
def nCE : (Expr → Option Ex) → List Expr → Option Exs
  | _, [] => some .nil
  | f, e :: es => match f e, nCE f es with
    | some a, some b => some (.cons a b)
    | _, _ => none
/-- x.f: x is not a bare call (super()) -/
def plainBase : Expr → Bool
  | .Call (.Name _ _) [] [] _ => false
  | _ => true
def notSlice : Expr → Bool
  | .Slice _ _ _ _ => false
  | _ => true
def plainTest : Expr → Bool
  | .UnaryOp .Not _ _ => false
  | .BoolOp _ _ _ => false
  | .IfExp _ _ _ _ => false
  | .Compare _ _ _ _ => false
  | _ => true
def two {α β γ : Type} (x : Option α) (y : Option β) (f : α → β → γ) : Option γ := match x, y with
  | some a, some b => some (f a b)
  | _, _ => none
def tri {α β γ δ : Type} (x : Option α) (y : Option β) (z : Option γ) (f : α → β → γ → δ) : Option δ := match x, y, z with
  | some a, some b, some c => some (f a b c)
  | _, _, _ => none
def iff' {α : Type} (b : Bool) (x : Option α) : Option α := match b with
  | true => x
  | false => none
def behindOk (o : CmpOp) (e : Expr) : Bool := !behindInMarks o e
def cName (C : CI) (x : Str) : Option Ex := iff' (okN x) (match slotOf C x with
  | some i => some (.var i)
  | none => iff' (isG C x && C.gl x == .cst) (some (.cst x)))
def btBi : Bi → Option Bt
  | .int => some .int
  | .bool => some .bool
  | .str => some .str
  | .list => some .list
  | .tuple => some .tuple
  | _ => none
def cIsi (C : CI) (f : Expr → Option Ex) (a : Expr) (as : List Expr) : Option Ex := match as with
  | [.Name T _] => iff' (isG C T) (match C.gl T with
    | .bi b => (btBi b).bind fun T => (f a).map (.isi · T)
    | _ => none)
  | _ => none
def cCall (C : CI) (f : Expr → Option Ex) (x : Str) (a : Expr) (as : List Expr) : Gk → Option Ex
  | .fn => (nCE f (a :: as)).map (.fn x)
  | .bi b => (nCE f (a :: as)).map (.bi b)
  | .isi => cIsi C f a as
  | _ => none
mutual
def cE (C : CI) : Nat → Expr → Option Ex
  | 0, _ => none
  | n + 1, e => match e with
    | .Constant (.int i) _ _ => some (.lit (.int i))
    | .Constant (.bool b) _ _ => some (.lit (.bl b))
    | .Constant .none _ _ => some (.lit .non)
    | .Constant (.str x) _ _ => some (.lit (.str x))
    | .Name x _ => cName C x
    | .BinOp a o b _ => (two (cE C n a) (cE C n b) (.op o))
    | .UnaryOp .USub a _ => (cE C n a).map .neg
    | .UnaryOp .Not a _ => (cE C n a).map .not
    | .Compare a [o] [b] _ => iff' (behindOk o b) ((two (cE C n a) (cE C n b) (.cmp o)))
    | .Compare a [o, o'] [b, c] _ => iff' (behindOk o b && behindOk o' c) ((tri (cE C n a) (cE C n b) (cE C n c) (.chn o o')))
    | .BoolOp .And [a] _ => cE C n a
    | .BoolOp .Or [a] _ => cE C n a
    | .BoolOp .And (a :: b :: r) p => (two (cE C n a) (cE C n (.BoolOp .And (b :: r) p)) (.and))
    | .BoolOp .Or (a :: b :: r) p => (two (cE C n a) (cE C n (.BoolOp .Or (b :: r) p)) (.or))
    | .IfExp t a b _ => (tri (cT C n t) (cE C n a) (cE C n b) (.ite))
    | .Attribute o f _ => iff' (plainBase o) ((cE C n o).map (.fld · f))
    | .Subscript o i _ => (match i with
      | .Slice lo hi none _ => tri (cE C n o) (cO C n lo) (cO C n hi) (.slc)
      | .Slice _ _ (some _) _ => none
      | i => two (cE C n o) (cE C n i) (.idx))
    | .List es _ => (nCE (cE C n) es).map .lst
    | .Tuple es _ _ => (nCE (cE C n) es).map .tup
    | .Call (.Name x _) (a :: as) [] _ => iff' (isG C x) (cCall C (cE C n) x a as (C.gl x))
    | _ => none
def cO (C : CI) : Nat → Option Expr → Option Ox
  | 0, _ => none
  | _, none => some .none
  | n + 1, some e => (cE C n e).map .some
def cT (C : CI) : Nat → Expr → Option Te
  | 0, _ => none
  | n + 1, e => match e with
    | .UnaryOp .Not a _ => (cT C n a).map .not
    | .BoolOp .And [a] _ => cT C n a
    | .BoolOp .Or [a] _ => cT C n a
    | .BoolOp .And (a :: b :: r) p => (two (cT C n a) (cT C n (.BoolOp .And (b :: r) p)) (.and))
    | .BoolOp .Or (a :: b :: r) p => (two (cT C n a) (cT C n (.BoolOp .Or (b :: r) p)) (.or))
    | .Compare a [o] [b] _ => iff' (behindOk o b) ((two (cE C n a) (cE C n b) (.cmp o)))
    | .Compare a [o, o'] [b, c] _ => iff' (behindOk o b && behindOk o' c) ((tri (cE C n a) (cE C n b) (cE C n c) (.chn o o')))
    | e => iff' (plainTest e) ((cE C n e).map .val)
end
end QL
set_option Elab.async false
set_option linter.all false
set_option maxRecDepth 100000
set_option maxHeartbeats 4000000
/-! Q5: what cE turns keeps what wE asks. -/
namespace QL
open PySem PySem.Spec L2
open PyProof.Rows hiding St
def btN : Bt → Str
  | .int => "int" | .bool => "bool" | .str => "str" | .list => "list" | .tuple => "tuple"
def btS : Bt → String
  | .int => "int" | .bool => "bool" | .str => "str" | .list => "list" | .tuple => "tuple"
/-- the module's names, as they stand behind the top -/
structure GOk (P : Program) (w : World) (K : PySem.W.Frag) (mg : Str → Option Value) (base : Heap) (S : Stat) (F : Sm) (k : Nat) (gl : Str → Gk) : Prop where
  so : SoOk K S.so
  fl : ∀ C f, S.fl C f → Cls K C ∧ NoAttr K C f
  fn : ∀ x, gl x = .fn → ∃ f fd ps, (x == ("__debug__" : Str)) = false ∧ mg x = some (.ref f) ∧ PySem.W.keepIn K (.ref f) = true ∧ FnG P w K mg base k f fd ps (F.fn x) ∧ Binds K fd ps []
  cst : ∀ x v, gl x = .cst → S.gv x = some v → ∃ u, mg x = some u ∧ RelV v u
  bi : ∀ x b, gl x = .bi b → x = biN b ∧ mg x = none
  isi : ∀ x, gl x = .isi → x = "isinstance" ∧ mg x = none
  rng : gl "range" = .no → mg "range" = none
/-- a body's context -/
structure Ok (X : Cx) (S : Stat) (F : Sm) (k : Nat) (C : CI) (W : WX) : Prop where
  G : GOk X.prog X.w X.K X.mg X.base S F k C.gl
  N : X.N = C.N
  nd : C.N.Nodup
  sc : X.env.scope.names = C.sc.names
  calm : X.calm = true
  gd : X.A.guards = some []
  rm : Room k X.A
  tk : Takes X W
  kd : X.env.scope.kind = .function
  po : PassesOwn (model X.prog X.w) X.A X.env X.xe
  cf : ∀ x, C.sc.names.lookup x = some .cell → X.fn x = true
theorem btBi_name {b : Bi} {T : Bt} (h : btBi b = some T) : biN b = btN T := by
  cases b <;> cases h <;> rfl
section
variable {X : Cx} {S : Stat} {F : Sm} {k : Nat} {C : CI} {W : WX}
theorem Ok.hu (O : Ok X S F k C W) : X.A.units + 64 < cLine := O.rm.units
theorem Ok.hu1 (O : Ok X S F k C W) : X.A.units + 1 < cLine := by have := O.rm.units; omega
theorem Ok.gl (O : Ok X S F k C W) {x : Str} (h : isG C x = true) : Gl X x := by
  unfold isG at h
  show X.env.scope.names.lookup x = _
  rw [O.sc]
  split at h
  · assumption
  · cases h
theorem idxOf_get {α : Type} [BEq α] [LawfulBEq α] {x : α} : ∀ {l : List α} {i : Nat}, l.idxOf? x = some i → l[i]? = some x := by
  intro l
  induction l with
  | nil => intro i h; cases h
  | cons a r ih =>
    intro i h
    rw [List.idxOf?_cons] at h
    split at h
    · rename_i e
      cases h
      simp at e
      simp [e]
    · cases e : r.idxOf? x with
      | none => rw [e] at h; cases h
      | some j =>
        rw [e] at h
        cases h
        simpa using ih e
theorem Ok.slot (O : Ok X S F k C W) {x : Str} {i : Nat} (h : slotOf C x = some i) : X.N[i]? = some x ∧ Vis X.env.scope x := by
  unfold slotOf at h
  rw [← O.sc] at h
  rw [O.N]
  split at h
  · rename_i e
    exact ⟨idxOf_get h, .inl e⟩
  · rename_i e
    exact ⟨idxOf_get h, .inr (.inl e)⟩
  · rename_i e
    exact ⟨idxOf_get h, .inr (.inr e)⟩
  · cases h
theorem okN_d {x : Str} (h : okN x = true) : (x == ("__debug__" : Str)) = false ∧ (x == ("__classdict__" : Str)) = false := by
  unfold okN at h
  simp only [Bool.and_eq_true, Bool.not_eq_true'] at h
  exact h
theorem gk_name {b : Bi} : okN (biN b) = true := by cases b <;> decide
/-- what is turned is no star -/
def notStar : Expr → Bool
  | .Starred _ _ => false
  | _ => true
theorem cE_star {n : Nat} {e : Expr} {c : Ex} (h : cE C n e = some c) : notStar e = true := by
  cases n with
  | zero => unfold cE at h; cases h
  | succ n => cases e <;> first | rfl | (unfold cE at h; cases h)
theorem star_one {e : Expr} {es : List Expr} {env : Env} (h : notStar e = true) : starEach (e :: es) env = (false, eval e env) :: starEach es env := by
  cases e <;> first | rfl | cases h
theorem star_no {env : Env} {pos : Pos} : ∀ {es : List Expr}, (∀ e ∈ es, notStar e = true) → (backTo pos (starEach es env)).any (·.1) = false
  | [], _ => rfl
  | e :: es, h => by
    rw [star_one (h e (List.mem_cons_self ..))]
    have ih := star_no (es := es) (env := env) (pos := pos) fun a ha => h a (List.mem_cons_of_mem _ ha)
    unfold backTo at ih ⊢
    rw [List.map_cons, List.any_cons]
    simp only [Bool.false_or]
    exact ih
theorem nCE_cons {f : Expr → Option Ex} {e : Expr} {es : List Expr} {c : Exs} (h : nCE f (e :: es) = some c) : ∃ a b, f e = some a ∧ nCE f es = some b ∧ c = .cons a b := by
  unfold nCE at h
  split at h
  · rename_i a b h1 h2
    cases h
    exact ⟨a, b, h1, h2, rfl⟩
  · cases h
theorem nCE_star {n : Nat} : ∀ {es : List Expr} {c : Exs}, nCE (cE C n) es = some c → ∀ e ∈ es, notStar e = true
  | [], _, _, e, he => by cases he
  | a :: es, c, h, e, he => by
    obtain ⟨x, y, h1, h2, _⟩ := nCE_cons h
    rcases List.mem_cons.mp he with rfl | he
    · exact cE_star h1
    · exact nCE_star h2 e he
theorem nCE_pa {n : Nat} (ih : ∀ e c, cE C n e = some c → PE X e (wE S F W c)) : ∀ {es : List Expr} {c : Exs}, nCE (cE C n) es = some c → PA X es (wA S F W c)
  | [], c, h => by
    unfold nCE at h
    cases h
    unfold wA
    exact pa_nil
  | e :: es, c, h => by
    obtain ⟨a, b, h1, h2, rfl⟩ := nCE_cons h
    unfold wA
    exact pa_cons (ih e a h1) (nCE_pa ih h2) (star_one (cE_star h1))
/-- two parts -/
theorem pair_some {α β γ : Type} {x : Option α} {y : Option β} {f : α → β → γ} {c : γ} (h : (match x, y with | some a, some b => some (f a b) | _, _ => none) = some c) : ∃ a b, x = some a ∧ y = some b ∧ c = f a b := by
  cases x with
  | none => cases h
  | some a =>
    cases y with
    | none => cases h
    | some b => cases h; exact ⟨a, b, rfl, rfl, rfl⟩
theorem PE.imp {e : Expr} {t t' : TE} (h : PE X e t) (q : ∀ σ H Q, t' σ H Q → t σ H Q) : PE X e t' := ⟨fun pins s σ H Q I z => h.run pins s σ H Q I (q σ H Q z)⟩
theorem PT.imp {e : Expr} {t t' : TT} (h : PT X e t) (q : ∀ σ H Q, t' σ H Q → t σ H Q) : PT X e t' := ⟨fun pins s σ H Q I z => h.run pins s σ H Q I (q σ H Q z)⟩
end
end QL
set_option Elab.async false
set_option linter.all false
set_option maxRecDepth 100000
set_option maxHeartbeats 4000000
/-! Q6: a weaker end is reached, too. -/
namespace QL
open PySem PySem.Spec L2
open PyProof.Rows hiding St
section
variable {x y : V} {H : Hp} {Q Q' : VK} {so : Addr → Option HO}
theorem opV_mono {o : Operator} (q : ∀ v H', Q v H' → Q' v H') (h : opV so o x y H Q) : opV so o x y H Q' := by
  cases o with
  | Add =>
    change addV so x y H Q at h
    show addV so x y H Q'
    unfold addV at h ⊢
    split at h
    · exact q _ _ h
    · exact ⟨h.1, q _ _ h.2⟩
    · split at h
      · exact ⟨h.1, fun r hr hs => q _ _ (h.2 r hr hs)⟩
      · exact h.elim
    · exact h.elim
  | Sub =>
    change subV x y H Q at h
    show subV x y H Q'
    unfold subV at h ⊢
    split at h
    · exact q _ _ h
    · exact h.elim
  | Mult =>
    change mulV so x y H Q at h
    show mulV so x y H Q'
    unfold mulV at h ⊢
    split at h
    · exact ⟨h.1, q _ _ h.2⟩
    · split at h
      · exact ⟨h.1, h.2.1, h.2.2.1, fun r hr hs => q _ _ (h.2.2.2 r hr hs)⟩
      · exact h.elim
    · exact h.elim
  | FloorDiv =>
    change divV x y H Q at h
    show divV x y H Q'
    unfold divV at h ⊢
    split at h
    · exact ⟨h.1, q _ _ h.2⟩
    · exact h.elim
  | Mod =>
    change modV x y H Q at h
    show modV x y H Q'
    unfold modV at h ⊢
    split at h
    · exact ⟨h.1, q _ _ h.2⟩
    · exact h.elim
  | Pow =>
    change powV x y H Q at h
    show powV x y H Q'
    unfold powV at h ⊢
    split at h
    · exact ⟨h.1, q _ _ h.2⟩
    · exact h.elim
  | LShift =>
    change shlV x y H Q at h
    show shlV x y H Q'
    unfold shlV at h ⊢
    split at h
    · exact ⟨h.1, q _ _ h.2⟩
    · exact h.elim
  | _ => exact h.elim
theorem eqD_mono {n : Bool} (q : ∀ v H', Q v H' → Q' v H') (h : eqD so n x y H Q) : eqD so n x y H Q' := by
  unfold eqD at h ⊢
  split at h
  · exact q _ _ h
  · split at h
    · exact q _ _ h
    · obtain ⟨d, e, h1, h2, h3, h4, z⟩ := h
      exact ⟨d, e, h1, h2, h3, h4, q _ _ z⟩
theorem ordV_mono {p : Int → Int → Bool} (q : ∀ v H', Q v H' → Q' v H') (h : ordV p x y H Q) : ordV p x y H Q' := by
  unfold ordV at h ⊢
  split at h
  · exact q _ _ h
  · exact h.elim
theorem inD_mono {n : Bool} (q : ∀ v H', Q v H' → Q' v H') (h : inD so n x y H Q) : inD so n x y H Q' := by
  unfold inD at h ⊢
  split at h
  · split at h
    · exact q _ _ h
    · exact h.elim
  · split at h
    · exact ⟨h.1, h.2.1, q _ _ h.2.2⟩
    · exact ⟨h.1, h.2.1, q _ _ h.2.2⟩
    · split at h
      · exact q _ _ h
      · exact h.elim
    · exact h.elim
  · exact h.elim
theorem isV_mono {n : Bool} (q : ∀ v H', Q v H' → Q' v H') (h : isV n x y H Q) : isV n x y H Q' := by
  unfold isV at h ⊢
  split at h
  · exact q _ _ h
  · exact q _ _ h
  · split at h
    · exact ⟨h.1, h.2.1, q _ _ h.2.2⟩
    · exact h.elim
  · exact h.elim
theorem cmpV_mono {o : CmpOp} (q : ∀ v H', Q v H' → Q' v H') (h : cmpV so o x y H Q) : cmpV so o x y H Q' := match o, h with
  | .Eq, h => eqD_mono q h
  | .NotEq, h => eqD_mono q h
  | .Lt, h => ordV_mono q h
  | .LtE, h => ordV_mono q h
  | .Gt, h => ordV_mono q h
  | .GtE, h => ordV_mono q h
  | .In, h => inD_mono q h
  | .NotIn, h => inD_mono q h
  | .Is, h => isV_mono q h
  | .IsNot, h => isV_mono q h
theorem idxV_mono (q : ∀ v H', Q v H' → Q' v H') (h : idxV so x y H Q) : idxV so x y H Q' := by
  unfold idxV at h ⊢
  split at h
  · split at h
    · split at h
      · exact q _ _ h
      · exact h.elim
    · split at h
      · exact q _ _ h
      · exact h.elim
    · split at h
      · split at h
        · exact q _ _ h
        · exact h.elim
      · exact h.elim
    · exact h.elim
  · split at h
    · split at h
      · split at h
        · exact q _ _ h
        · exact h.elim
      · exact h.elim
    · exact h.elim
  · refine ⟨h.1, ?_⟩
    have h := h.2
    split at h
    · exact q _ _ h
    · exact h.elim
  · exact h.elim
theorem slcV_mono {a b : Option Int} (q : ∀ v H', Q v H' → Q' v H') (h : slcV so x a b H Q) : slcV so x a b H Q' := by
  unfold slcV at h ⊢
  split at h
  · exact fun p hp hs => q _ _ (h p hp hs)
  · exact h.elim
theorem biV_mono {b : Bi} {xs : List V} (q : ∀ v H', Q v H' → Q' v H') (h : biV so b xs H Q) : biV so b xs H Q' := by
  cases b with
  | len =>
    change bLen so xs H Q at h
    show bLen so xs H Q'
    unfold bLen at h ⊢
    split at h
    · split at h
      · exact q _ _ h
      · exact h.elim
    · exact h.elim
  | int =>
    change bInt xs H Q at h
    show bInt xs H Q'
    unfold bInt at h ⊢
    split at h
    · exact q _ _ h
    · exact q _ _ h
    · obtain ⟨z, n, e, h⟩ := h
      exact ⟨z, n, e, q _ _ h⟩
    · exact h.elim
  | bool =>
    change bBool xs H Q at h
    show bBool xs H Q'
    unfold bBool at h ⊢
    split at h
    · exact q _ _ h
    · exact q _ _ h
    · exact h.elim
  | str =>
    change bStr xs H Q at h
    show bStr xs H Q'
    unfold bStr at h ⊢
    split at h
    · exact ⟨h.1, q _ _ h.2⟩
    · exact h.elim
  | repr =>
    change bRepr so xs H Q at h
    show bRepr so xs H Q'
    unfold bRepr at h ⊢
    split at h
    · obtain ⟨d, h1, h2, h3, h4, h5, h⟩ := h
      exact ⟨d, h1, h2, h3, h4, h5, q _ _ h⟩
    · exact h.elim
  | min =>
    change bMin xs H Q at h
    show bMin xs H Q'
    unfold bMin at h ⊢
    split at h
    · exact q _ _ h
    · exact h.elim
  | max =>
    change bMax xs H Q at h
    show bMax xs H Q'
    unfold bMax at h ⊢
    split at h
    · exact q _ _ h
    · exact h.elim
  | abs =>
    change bAbs xs H Q at h
    show bAbs xs H Q'
    unfold bAbs at h ⊢
    split at h
    · exact q _ _ h
    · exact h.elim
  | sum =>
    change bSum so xs H Q at h
    show bSum so xs H Q'
    unfold bSum at h ⊢
    split at h
    · split at h
      · exact q _ _ h
      · exact h.elim
    · exact h.elim
  | any =>
    change bAny so xs H Q at h
    show bAny so xs H Q'
    unfold bAny at h ⊢
    split at h
    · split at h
      · exact q _ _ h
      · exact h.elim
    · exact h.elim
  | all =>
    change bAll so xs H Q at h
    show bAll so xs H Q'
    unfold bAll at h ⊢
    split at h
    · split at h
      · exact q _ _ h
      · exact h.elim
    · exact h.elim
  | list =>
    change bList so xs H Q at h
    show bList so xs H Q'
    unfold bList at h ⊢
    split at h
    · split at h
      · exact fun p hp hs => q _ _ (h p hp hs)
      · exact fun p hp hs => q _ _ (h p hp hs)
      · exact h.elim
    · exact h.elim
  | tuple =>
    change bTuple so xs H Q at h
    show bTuple so xs H Q'
    unfold bTuple at h ⊢
    split at h
    · split at h
      · exact fun p hp hs => q _ _ (h p hp hs)
      · exact q _ _ h
      · exact h.elim
    · exact h.elim
  | sorted =>
    change bSorted so xs H Q at h
    show bSorted so xs H Q'
    unfold bSorted at h ⊢
    split at h
    · split at h
      · exact ⟨h.1, fun a p h1 h2 h3 h4 => q _ _ (h.2 a p h1 h2 h3 h4)⟩
      · exact h.elim
    · exact h.elim
theorem fldV_mono {S : Stat} {f : Str} (q : ∀ v H', Q v H' → Q' v H') (h : fldV S f x H Q) : fldV S f x H Q' := by
  unfold fldV at h ⊢
  split at h
  · split at h
    · refine ⟨h.1, ?_⟩
      have h := h.2
      split at h
      · exact q _ _ h
      · exact h.elim
    · exact h.elim
  · exact h.elim
theorem boolV_mono {B B' : Bool → Hp → Prop} (q : ∀ k H', B k H' → B' k H') (v : V) (H' : Hp) (h : boolV B v H') : boolV B' v H' := by
  unfold boolV at h ⊢
  split at h
  · exact q _ _ h
  · exact h.elim
end
/-- the defs' promises may be weakened -/
def SmMono (F : Sm) : Prop := ∀ (f : Str) (vs : List V) (H : Hp) (Q Q' : VK) (E E' : XK), (∀ v H', Q v H' → Q' v H') → (∀ c d H', E c d H' → E' c d H') → F.fn f vs H Q E → F.fn f vs H Q' E'
section
variable {S : Stat} {F : Sm} {W W' : WX} (M : SmMono F) (w : ∀ c d σ H, W c d σ H → W' c d σ H)
include M w
mutual
theorem wE_mono2 : ∀ (c : Ex) {σ : St} {H : Hp} {Q Q' : VK}, (∀ v H', Q v H' → Q' v H') → wE S F W c σ H Q → wE S F W' c σ H Q'
  | .var i, σ, H, Q, Q', q, h => by
    unfold wE varK at h ⊢
    split at h
    · exact q _ _ h
    · exact h.elim
  | .lit v, σ, H, Q, Q', q, h => by
    unfold wE at h ⊢
    exact q _ _ h
  | .cst x, σ, H, Q, Q', q, h => by
    unfold wE cstK at h ⊢
    split at h
    · exact q _ _ h
    · exact h.elim
  | .op o a b, σ, H, Q, Q', q, h => by
    unfold wE at h ⊢
    exact wE_mono2 a (fun x H1 h1 => wE_mono2 b (fun y H2 h2 => opV_mono q h2) h1) h
  | .neg a, σ, H, Q, Q', q, h => by
    unfold wE at h ⊢
    refine wE_mono2 a (fun x H1 h1 => ?_) h
    first | unfold truK at h1 ⊢ | unfold btK at h1 ⊢ | unfold intK at h1 ⊢
    split at h1
    · exact q _ _ h1
    · exact h1.elim
  | .cmp o a b, σ, H, Q, Q', q, h => by
    unfold wE at h ⊢
    exact wE_mono2 a (fun x H1 h1 => wE_mono2 b (fun y H2 h2 => cmpV_mono q h2) h1) h
  | .chn o o' a b c, σ, H, Q, Q', q, h => by
    unfold wE at h ⊢
    refine wE_mono2 a (fun x H1 h1 => wE_mono2 b (fun y H2 h2 => cmpV_mono (boolV_mono fun k H3 h3 => ?_) h2) h1) h
    cases k with
    | true => exact wE_mono2 c (fun z H4 h4 => cmpV_mono q h4) h3
    | false => exact q _ _ h3
  | .and a b, σ, H, Q, Q', q, h => by
    unfold wE at h ⊢
    refine wE_mono2 a (fun x H1 h1 => ?_) h
    unfold truK at h1 ⊢
    split at h1
    · rename_i k _
      cases k with
      | true => exact wE_mono2 b q h1
      | false => exact q _ _ h1
    · exact h1.elim
  | .or a b, σ, H, Q, Q', q, h => by
    unfold wE at h ⊢
    refine wE_mono2 a (fun x H1 h1 => ?_) h
    unfold truK at h1 ⊢
    split at h1
    · rename_i k _
      cases k with
      | true => exact q _ _ h1
      | false => exact wE_mono2 b q h1
    · exact h1.elim
  | .not a, σ, H, Q, Q', q, h => by
    unfold wE at h ⊢
    refine wE_mono2 a (fun x H1 h1 => ?_) h
    first | unfold truK at h1 ⊢ | unfold btK at h1 ⊢ | unfold intK at h1 ⊢
    split at h1
    · exact q _ _ h1
    · exact h1.elim
  | .ite t a b, σ, H, Q, Q', q, h => by
    unfold wE at h ⊢
    refine wT_mono2 t (fun k H1 h1 => ?_) h
    cases k with
    | true => exact wE_mono2 a q h1
    | false => exact wE_mono2 b q h1
  | .fld o f, σ, H, Q, Q', q, h => by
    unfold wE at h ⊢
    exact wE_mono2 o (fun x H1 h1 => fldV_mono q h1) h
  | .idx o i, σ, H, Q, Q', q, h => by
    unfold wE at h ⊢
    exact wE_mono2 o (fun x H1 h1 => wE_mono2 i (fun y H2 h2 => idxV_mono q h2) h1) h
  | .slc o lo hi, σ, H, Q, Q', q, h => by
    unfold wE at h ⊢
    exact wE_mono2 o (fun x H1 h1 => wO_mono2 lo (fun y H2 h2 => wO_mono2 hi (fun z H3 h3 => slcV_mono q h3) h2) h1) h
  | .lst es, σ, H, Q, Q', q, h => by
    unfold wE at h ⊢
    exact wA_mono2 es (fun xs H1 h1 => ⟨h1.1, fun p hp hs => q _ _ (h1.2 p hp hs)⟩) h
  | .tup es, σ, H, Q, Q', q, h => by
    unfold wE at h ⊢
    exact wA_mono2 es (fun xs H1 h1 => ⟨h1.1, fun p hp hs => q _ _ (h1.2 p hp hs)⟩) h
  | .fn f es, σ, H, Q, Q', q, h => by
    unfold wE at h ⊢
    exact wA_mono2 es (fun xs H1 h1 => M f xs H1 Q Q' _ _ q (fun c d H' z => w c d σ H' z) h1) h
  | .bi b es, σ, H, Q, Q', q, h => by
    unfold wE at h ⊢
    exact wA_mono2 es (fun xs H1 h1 => biV_mono q h1) h
  | .isi e T, σ, H, Q, Q', q, h => by
    unfold wE at h ⊢
    refine wE_mono2 e (fun x H1 h1 => ?_) h
    first | unfold truK at h1 ⊢ | unfold btK at h1 ⊢ | unfold intK at h1 ⊢
    split at h1
    · exact q _ _ h1
    · exact h1.elim
theorem wA_mono2 : ∀ (c : Exs) {σ : St} {H : Hp} {Q Q' : List V → Hp → Prop}, (∀ v H', Q v H' → Q' v H') → wA S F W c σ H Q → wA S F W' c σ H Q'
  | .nil, σ, H, Q, Q', q, h => by
    unfold wA at h ⊢
    exact q _ _ h
  | .cons e es, σ, H, Q, Q', q, h => by
    unfold wA at h ⊢
    exact wE_mono2 e (fun x H1 h1 => wA_mono2 es (fun xs H2 h2 => q _ _ h2) h1) h
theorem wO_mono2 : ∀ (c : Ox) {σ : St} {H : Hp} {Q Q' : Option Int → Hp → Prop}, (∀ v H', Q v H' → Q' v H') → wO S F W c σ H Q → wO S F W' c σ H Q'
  | .none, σ, H, Q, Q', q, h => by
    unfold wO at h ⊢
    exact q _ _ h
  | .some e, σ, H, Q, Q', q, h => by
    unfold wO at h ⊢
    refine wE_mono2 e (fun x H1 h1 => ?_) h
    first | unfold truK at h1 ⊢ | unfold btK at h1 ⊢ | unfold intK at h1 ⊢
    split at h1
    · exact q _ _ h1
    · exact h1.elim
theorem wT_mono2 : ∀ (c : Te) {σ : St} {H : Hp} {Q Q' : Bool → Hp → Prop}, (∀ v H', Q v H' → Q' v H') → wT S F W c σ H Q → wT S F W' c σ H Q'
  | .val e, σ, H, Q, Q', q, h => by
    unfold wT at h ⊢
    refine wE_mono2 e (fun x H1 h1 => ?_) h
    first | unfold truK at h1 ⊢ | unfold btK at h1 ⊢ | unfold intK at h1 ⊢
    split at h1
    · exact q _ _ h1
    · exact h1.elim
  | .cmp o a b, σ, H, Q, Q', q, h => by
    unfold wT at h ⊢
    exact wE_mono2 a (fun x H1 h1 => wE_mono2 b (fun y H2 h2 => cmpV_mono (boolV_mono q) h2) h1) h
  | .chn o o' a b c, σ, H, Q, Q', q, h => by
    unfold wT at h ⊢
    refine wE_mono2 a (fun x H1 h1 => wE_mono2 b (fun y H2 h2 => cmpV_mono (boolV_mono fun k H3 h3 => ?_) h2) h1) h
    cases k with
    | true => exact wE_mono2 c (fun z H4 h4 => cmpV_mono (boolV_mono q) h4) h3
    | false => exact q _ _ h3
  | .and a b, σ, H, Q, Q', q, h => by
    unfold wT at h ⊢
    refine wT_mono2 a (fun k H1 h1 => ?_) h
    cases k with
    | true => exact wT_mono2 b q h1
    | false => exact q _ _ h1
  | .or a b, σ, H, Q, Q', q, h => by
    unfold wT at h ⊢
    refine wT_mono2 a (fun k H1 h1 => ?_) h
    cases k with
    | true => exact q _ _ h1
    | false => exact wT_mono2 b q h1
  | .not a, σ, H, Q, Q', q, h => by
    unfold wT at h ⊢
    exact wT_mono2 a (fun k H1 h1 => q _ _ h1) h
end
end
section
variable {S : Stat} {F : Sm} {W : WX} (M : SmMono F)
include M
theorem wE_mono (c : Ex) {σ : St} {H : Hp} {Q Q' : VK} (q : ∀ v H', Q v H' → Q' v H') (h : wE S F W c σ H Q) : wE S F W c σ H Q' := wE_mono2 M (fun _ _ _ _ z => z) c q h
theorem wA_mono (c : Exs) {σ : St} {H : Hp} {Q Q' : List V → Hp → Prop} (q : ∀ v H', Q v H' → Q' v H') (h : wA S F W c σ H Q) : wA S F W c σ H Q' := wA_mono2 M (fun _ _ _ _ z => z) c q h
theorem wT_mono (c : Te) {σ : St} {H : Hp} {Q Q' : Bool → Hp → Prop} (q : ∀ v H', Q v H' → Q' v H') (h : wT S F W c σ H Q) : wT S F W c σ H Q' := wT_mono2 M (fun _ _ _ _ z => z) c q h
end
end QL
set_option Elab.async false
set_option linter.all false
set_option maxRecDepth 100000
set_option maxHeartbeats 4000000
/-! Q7: the turned expressions keep what is asked. -/
namespace QL
open PySem PySem.Spec L2
open PyProof.Rows hiding St
section
variable {X : Cx} {S : Stat} {F : Sm} {k : Nat} {C : CI} {W : WX}
theorem bltn_bt {T : Bt} {pos : Pos} (hg : Gl X (btN T)) (hm : X.mg (btN T) = none) : PE X (.Name (btN T) pos) (tC (.ty (btS T))) := by
  cases T <;> exact pe_bltn (u := .type _) hg hm (by decide +kernel) rfl (by decide) (by decide)
theorem kit_non (T : Bt) : kitB "NoneType" (btS T) = some false := by cases T <;> decide +kernel
theorem kit_bl (T : Bt) : kitB "bool" (btS T) = some (tBl T) := by cases T <;> decide +kernel
theorem kit_int (T : Bt) : kitB "int" (btS T) = some (tInt T) := by cases T <;> decide +kernel
theorem kit_str (T : Bt) : kitB "str" (btS T) = some (tStr T) := by cases T <;> decide +kernel
theorem kit_list (T : Bt) : kitB "list" (btS T) = some (tList T) := by cases T <;> decide +kernel
theorem kit_tuple (T : Bt) : kitB "tuple" (btS T) = some (tTuple T) := by cases T <;> decide +kernel
theorem kit_dict (T : Bt) : kitB "dict" (btS T) = some false := by cases T <;> decide +kernel
theorem btV_ok {K : PySem.W.Frag} {so : Addr → Option HO} {H : Hp} {T : Bt} {x : V} {b : Bool} (h : btV so H T x = some b) : ∃ t, TyX K H x t ∧ PySem.W.kitOne K t (.type (btS T)) = some b := by
  cases x with
  | non => cases h; exact ⟨_, .base .non, kit_ty (kit_non T)⟩
  | bl y => cases h; exact ⟨_, .base (.bl y), kit_ty (kit_bl T)⟩
  | int y => cases h; exact ⟨_, .base (.int y), kit_ty (kit_int T)⟩
  | str y => cases h; exact ⟨_, .base (.str y), kit_ty (kit_str T)⟩
  | ref p =>
    unfold btV at h
    simp only at h
    split at h
    · rename_i e
      cases h
      exact ⟨_, .base (.lst e), kit_ty (kit_list T)⟩
    · rename_i e
      cases h
      exact ⟨_, .base (.tup e), kit_ty (kit_tuple T)⟩
    · rename_i e
      cases h
      exact ⟨_, .base (.dK e), kit_ty (kit_dict T)⟩
    · cases h
  | _ => cases h
theorem pw_of {op : BoolOp} {vs : List Expr} {pos : Pos} {t : TT} (h : PT X (.BoolOp op vs pos) t) : PW X (.BoolOp op vs pos) t := ⟨fun wh pins s σ H Q I z => h.run pins s σ H Q I z⟩
theorem base_ok {e : Expr} {f : Str} {env : Env} {w : Sem Value} (h : plainBase e = true) : attributeBase e f env w = w := by
  unfold attributeBase
  split
  · unfold plainBase at h
    simp at h
  · rfl
theorem slice_ok {e : Expr} (h : notSlice e = true) : PlainIx e := by
  intro o i
  cases e <;> first | rfl | cases h
theorem test_ok {e : Expr} {env : Env} (h : plainTest e = true) : ∀ whole, isTrue e env whole = (do let v ← whole; standAt e.pos; holding [v] (truthy v)) := by
  intro whole
  cases e with
  | UnaryOp op a p => cases op <;> first | rfl | cases h
  | BoolOp op a p => cases h
  | IfExp a b c p => cases h
  | Compare a b c p => cases h
  | _ => rfl
theorem marks_ok {o : CmpOp} {e : Expr} (h : behindOk o e = true) : behindInMarks o e = false := by
  unfold behindOk at h
  simpa using h
theorem last_ok {o o' : CmpOp} {e e' : Expr} (h : behindOk o' e' = true) : lastMarks [o, o'] [e, e'] = false := marks_ok h
theorem map_some {α β : Type} {x : Option α} {f : α → β} {c : β} (h : x.map f = some c) : ∃ a, x = some a ∧ c = f a := by
  cases x with
  | none => cases h
  | some a => cases h; exact ⟨a, rfl, rfl⟩
theorem if_some {α : Type} {b : Bool} {x : Option α} {c : α} (h : iff' b x = some c) : b = true ∧ x = some c := by
  cases b with
  | true => exact ⟨rfl, h⟩
  | false => cases h
theorem two_some {α β γ : Type} {x : Option α} {y : Option β} {f : α → β → γ} {c : γ} (h : two x y f = some c) : ∃ a b, x = some a ∧ y = some b ∧ c = f a b := by
  cases x with
  | none => cases h
  | some a =>
    cases y with
    | none => cases h
    | some b => cases h; exact ⟨a, b, rfl, rfl, rfl⟩
theorem tri_some {α β γ δ : Type} {x : Option α} {y : Option β} {z : Option γ} {f : α → β → γ → δ} {c : δ} (h : tri x y z f = some c) : ∃ a b d, x = some a ∧ y = some b ∧ z = some d ∧ c = f a b d := by
  cases x with
  | none => cases h
  | some a =>
    cases y with
    | none => cases h
    | some b =>
      cases z with
      | none => cases h
      | some d => cases h; exact ⟨a, b, d, rfl, rfl, rfl, rfl⟩
theorem boolV_ex {B : Bool → Hp → Prop} {v : V} {H : Hp} (h : boolV B v H) : ∃ k, v = .bl k ∧ B k H := by
  unfold boolV at h
  split at h
  · exact ⟨_, rfl, h⟩
  · exact h.elim
theorem tru_ex {K : PySem.W.Frag} {so : Addr → Option HO} (S : SoOk K so) {H : Hp} {x : V} {B : Bool → Prop} (h : truK so x H B) : ∃ k, TruV K x H k ∧ B k := by
  unfold truK at h
  split at h
  · rename_i k e
    exact ⟨k, truV_ok S e, h⟩
  · exact h.elim
variable (O : Ok X S F k C W) (M : SmMono F)
include O M
theorem call_ok {n : Nat} (ih : ∀ e c, cE C n e = some c → PE X e (wE S F W c)) {x : Str} {p pos : Pos} {a : Expr} {as : List Expr} {c : Ex}
    (h : iff' (isG C x) (cCall C (cE C n) x a as (C.gl x)) = some c) : PE X (.Call (.Name x p) (a :: as) [] pos) (wE S F W c) := by
  obtain ⟨hg, h⟩ := if_some h
  cases e : C.gl x with
  | fn =>
    rw [e] at h
    obtain ⟨es, h1, rfl⟩ := map_some h
    obtain ⟨f, fd, ps, hdb, hm, hk, Fn, hb⟩ := O.G.fn x e
    have PAs := nCE_pa ih h1
    have st := nCE_star h1
    refine ⟨fun pins s σ H Q I z => ?_⟩
    unfold wE at z
    refine wpAny_Call_Name_kw (ld_glob I (O.gl hg) hm ?_ hdb)
    refine PySem.W.callWith_K (h₀ := X.base) I.ok.mod.kin hk (thn (PAs.run pos pins s σ H _ I z) fun us s1 ⟨vs, H1, I1, r, q⟩ => ⟨I1.kIn, ?_⟩) (star_one (st a (List.mem_cons_self ..))) (star_no fun e he => st e (List.mem_cons_of_mem _ he))
    refine run_g Fn O.gd O.rm O.tk I1 ?_ r q
    have hl := Fn.len _ _ _ _ q
    have := hb s1 us I1.kIn (by rw [List.append_nil, ← r.length]; exact hl)
    rwa [List.append_nil] at this
  | bi b =>
    rw [e] at h
    obtain ⟨es, h1, rfl⟩ := map_some h
    obtain ⟨rfl, hm⟩ := O.G.bi x b e
    have PAs := nCE_pa ih h1
    have st := nCE_star h1
    refine PE.imp (pe_bi (so := S.so) O.G.so O.calm O.gd O.hu (O.gl hg) hm PAs (star_one (st a (List.mem_cons_self ..))) (star_no fun e he => st e (List.mem_cons_of_mem _ he))) fun σ H Q z => ?_
    unfold wE at z
    exact z
  | isi =>
    rw [e] at h
    change cIsi C (cE C n) a as = some c at h
    unfold cIsi at h
    match as, h with
    | [.Name T pT], h =>
      obtain ⟨hT, h⟩ := if_some h
      cases eT : C.gl T with
      | bi b0 =>
        simp only [eT] at h
        obtain ⟨B, hB, h⟩ := bind_some h
        obtain ⟨es, h1, rfl⟩ := map_some h
        obtain ⟨eT', hmT⟩ := O.G.bi _ b0 eT
        rw [btBi_name hB] at eT'
        subst eT'
        obtain ⟨rfl, hm⟩ := O.G.isi x e
        refine PE.imp (pe_callB call_isi (O.gl hg) hm (by decide +kernel) (pa_cons (ih _ _ h1) (pa_cons (bltn_bt (O.gl hT) hmT) pa_nil) (star_one (cE_star h1))) (by decide) (by decide) (star_one (cE_star h1)) rfl) fun σ H Q z => ?_
        unfold wE at z
        refine wE_mono M _ (fun v H1 z1 => ?_) z
        unfold btK at z1
        split at z1
        · rename_i b eb
          obtain ⟨t, ty, kt⟩ := btV_ok (K := X.K) eb
          exact ⟨v, _, t, _, b, rfl, .ty _, ty, kt, z1⟩
        · exact z1.elim
      | _ => simp only [eT] at h; cases h
  | _ => rw [e] at h; cases h
end
end QL
set_option Elab.async false
set_option linter.all false
set_option maxRecDepth 100000
set_option maxHeartbeats 4000000
/-! Q8: the turned expressions keep what is asked: the whole induction. -/
namespace QL
open PySem PySem.Spec L2
open PyProof.Rows hiding St
section
variable {X : Cx} {S : Stat} {F : Sm} {k : Nat} {C : CI} {W : WX} (O : Ok X S F k C W) (M : SmMono F)
include O M
theorem idx_ok {n : Nat} {o i : Expr} {p : Pos} {c : Ex} (iE : ∀ e c, cE C n e = some c → PE X e (wE S F W c)) (hi : notSlice i = true) (h : two (cE C n o) (cE C n i) Ex.idx = some c) : PE X (.Subscript o i p) (wE S F W c) := by
  obtain ⟨o', i', h1, h2, rfl⟩ := two_some h
  refine PE.imp (pe_ix (ix_idxV O.G.so O.hu1) (iE o o' h1) (iE i i' h2) (slice_ok hi)) fun σ H Q z => ?_
  unfold wE at z
  exact z
theorem val_ok {n : Nat} {e : Expr} {c : Te} (iE : ∀ e c, cE C n e = some c → PE X e (wE S F W c)) (hp : plainTest e = true) (h : (cE C n e).map Te.val = some c) : PT X e (wT S F W c) := by
  obtain ⟨e', h1, rfl⟩ := map_some h
  refine PT.imp (pt_truth (iE e e' h1) (test_ok hp)) fun σ H Q z => ?_
  unfold wT at z
  exact wE_mono M e' (fun x H1 z1 => tru_ex (B := fun k => Q k H1) O.G.so z1) z
theorem cE_ok : ∀ n : Nat, (∀ e c, cE C n e = some c → PE X e (wE S F W c)) ∧ (∀ e c, cO C n e = some c → PO X e (wO S F W c)) ∧ (∀ e c, cT C n e = some c → PT X e (wT S F W c)) := by
  intro n
  induction n with
  | zero => exact ⟨fun e c h => (by cases h), fun e c h => (by cases h), fun e c h => (by cases h)⟩
  | succ n ih =>
    obtain ⟨iE, iO, iT⟩ := ih
    have S0 := O.G.so
    refine ⟨fun e c h => ?_, fun e c h => ?_, fun e c h => ?_⟩
    · match e, h with
      | .Constant (.int i) _ _, h => cases h; unfold wE; exact pe_int
      | .Constant (.bool b) _ _, h => cases h; unfold wE; exact pe_bl
      | .Constant .none _ _, h => cases h; unfold wE; exact pe_non
      | .Constant (.str x) _ _, h => cases h; unfold wE; exact pe_str
      | .Name x p, h =>
        change cName C x = some c at h
        unfold cName at h
        obtain ⟨hn, h⟩ := if_some h
        obtain ⟨hd, hcd⟩ := okN_d hn
        cases es : slotOf C x with
        | some i =>
          simp only [es] at h
          cases h
          obtain ⟨h1, h2⟩ := O.slot es
          refine PE.imp (pe_var h1 h2 hd hcd) fun σ H Q z => ?_
          unfold wE varK at z
          split at z
          · rename_i v ev
            exact ⟨v, ev, z⟩
          · exact z.elim
        | none =>
          simp only [es] at h
          obtain ⟨hg, h⟩ := if_some h
          cases h
          simp only [Bool.and_eq_true, beq_iff_eq] at hg
          refine ⟨fun pins s σ H Q I z => ?_⟩
          unfold wE cstK at z
          split at z
          · rename_i v ev
            obtain ⟨u, hm, r⟩ := O.G.cst x v hg.2 ev
            exact (pe_glob (O.gl hg.1) hm r hd).run pins s σ H Q I z
          · exact z.elim
      | .BinOp a o b p, h =>
        obtain ⟨a', b', h1, h2, rfl⟩ := two_some (f := Ex.op o) h
        refine PE.imp (pe_op (op_opV S0 o) (iE a a' h1) (iE b b' h2)) fun σ H Q z => ?_
        unfold wE at z
        exact z
      | .UnaryOp .USub a p, h =>
        obtain ⟨a', h1, rfl⟩ := map_some (f := Ex.neg) h
        refine PE.imp (pe_un un_neg (iE a a' h1)) fun σ H Q z => ?_
        unfold wE at z
        refine wE_mono M a' (fun x H1 z1 => ?_) z
        unfold intK at z1
        split at z1
        · exact ⟨_, rfl, z1⟩
        · exact z1.elim
      | .UnaryOp .Not a p, h =>
        obtain ⟨a', h1, rfl⟩ := map_some (f := Ex.not) h
        refine PE.imp (pe_notT (iE a a' h1)) fun σ H Q z => ?_
        unfold wE at z
        exact wE_mono M a' (fun x H1 z1 => tru_ex (B := fun k => Q (.bl (!k)) H1) S0 z1) z
      | .Compare a [o] [b] p, h =>
        obtain ⟨hb, h⟩ := if_some h
        obtain ⟨a', b', h1, h2, rfl⟩ := two_some (f := Ex.cmp o) h
        refine PE.imp (pe_cmpR (op_cmpV S0 O.hu o) (iE a a' h1) (iE b b' h2) (marks_ok hb)) fun σ H Q z => ?_
        unfold wE at z
        exact z
      | .Compare a [o, o'] [b, d] p, h =>
        obtain ⟨hb, h⟩ := if_some h
        obtain ⟨a', b', d', h1, h2, h3, rfl⟩ := tri_some (f := Ex.chn o o') h
        simp only [Bool.and_eq_true] at hb
        refine PE.imp (pe_chain (op_cmpV S0 O.hu o) (op_cmpV S0 O.hu o') (iE a a' h1) (iE b b' h2) (iE d d' h3) (last_ok hb.2)) fun σ H Q z => ?_
        unfold wE at z
        exact wE_mono M a' (fun x H1 z1 => wE_mono M b' (fun y H2 z2 => cmpV_mono (fun v H3 z3 => boolV_ex z3) z2) z1) z
      | .BoolOp .And [a] p, h =>
        exact PE.imp (pe_one (iE a c h)) fun σ H Q z => z
      | .BoolOp .Or [a] p, h =>
        exact PE.imp (pe_one (iE a c h)) fun σ H Q z => z
      | .BoolOp .And (a :: b :: r) p, h =>
        obtain ⟨a', b', h1, h2, rfl⟩ := two_some (f := Ex.and) h
        refine PE.imp (pe_andT (iE a a' h1) (iE _ b' h2)) fun σ H Q z => ?_
        unfold wE at z
        exact wE_mono M a' (fun x H1 z1 => tru_ex (B := fun k => if k = true then wE S F W b' σ H1 Q else Q x H1) S0 z1) z
      | .BoolOp .Or (a :: b :: r) p, h =>
        obtain ⟨a', b', h1, h2, rfl⟩ := two_some (f := Ex.or) h
        refine PE.imp (pe_orT (iE a a' h1) (iE _ b' h2)) fun σ H Q z => ?_
        unfold wE at z
        exact wE_mono M a' (fun x H1 z1 => tru_ex (B := fun k => if k = true then Q x H1 else wE S F W b' σ H1 Q) S0 z1) z
      | .IfExp t a b p, h =>
        obtain ⟨t', a', b', h1, h2, h3, rfl⟩ := tri_some (f := Ex.ite) h
        refine PE.imp (pe_ifExp (iT t t' h1) (iE a a' h2) (iE b b' h3)) fun σ H Q z => ?_
        unfold wE at z
        exact z
      | .Attribute o f p, h =>
        obtain ⟨hb, h⟩ := if_some h
        obtain ⟨o', h1, rfl⟩ := map_some (f := (Ex.fld · f)) h
        refine PE.imp (pe_fld (iE o o' h1) (base_ok hb)) fun σ H Q z => ?_
        unfold wE at z
        refine wE_mono M o' (fun x H1 z1 => ?_) z
        unfold fldV at z1
        split at z1
        · split at z1
          · rename_i Cc dx fs ea
            obtain ⟨z2, z3⟩ := z1
            split at z3
            · rename_i v ev
              obtain ⟨q1, q2⟩ := O.G.fl _ _ z2
              exact ⟨_, _, _, _, v, rfl, ea, q1, q2, ev, z3⟩
            · exact z3.elim
          · exact z1.elim
        · exact z1.elim
      | .List es p, h =>
        obtain ⟨es', h1, rfl⟩ := map_some (f := Ex.lst) h
        refine PE.imp (PE.nok S0 (pe_lst (nCE_pa iE h1))) fun σ H Q z => ?_
        unfold wE at z
        exact wA_mono M es' (fun xs H1 z1 => ⟨z1.1, fun p hp nk => z1.2 p hp (nok_upd nk)⟩) z
      | .Tuple es q p, h =>
        obtain ⟨es', h1, rfl⟩ := map_some (f := Ex.tup) h
        refine PE.imp (PE.nok S0 (pe_tup (nCE_pa iE h1))) fun σ H Q z => ?_
        unfold wE at z
        exact wA_mono M es' (fun xs H1 z1 => ⟨z1.1, fun p hp nk => z1.2 p hp (nok_upd nk)⟩) z
      | .Call (.Name x q) (a :: as) [] p, h => exact call_ok O M iE h
      | .Subscript o i p, h =>
        cases i with
        | Slice lo hi d q =>
          cases d with
          | none =>
            obtain ⟨o', lo', hi', h1, h2, h3, rfl⟩ := tri_some (f := Ex.slc) h
            refine PE.imp (pe_slice (sl_slcV S0) (iE o o' h1) (iO lo lo' h2) (iO hi hi' h3)) fun σ H Q z => ?_
            unfold wE at z
            exact z
          | some d => cases h
        | _ => exact idx_ok O M iE rfl h
    · cases e with
      | none =>
        cases h
        unfold wO
        exact po_none
      | some e =>
        obtain ⟨e', h1, rfl⟩ := map_some (f := Ox.some) h
        refine ⟨fun pins s σ H Q I z => (po_some (iE e e' h1)).run pins s σ H Q I ?_⟩
        unfold wO at z
        refine wE_mono M e' (fun x H1 z1 => ?_) z
        unfold intK at z1
        split at z1
        · exact ⟨_, rfl, z1⟩
        · exact z1.elim
    · cases e with
      | UnaryOp op a p =>
        cases op with
        | Not =>
          obtain ⟨a', h1, rfl⟩ := map_some (f := Te.not) h
          refine PT.imp (pt_not (iT a a' h1)) fun σ H Q z => ?_
          unfold wT at z
          exact z
        | _ => exact val_ok O M iE rfl h
      | BoolOp op vs p =>
        match op, vs, h with
        | .And, [], h => cases h
        | .Or, [], h => cases h
        | .And, [a], h => exact (pw_and1 (iT a c h)).pt
        | .Or, [a], h => exact (pw_or1 (iT a c h)).pt
        | .And, a :: b :: r, h =>
          obtain ⟨a', b', h1, h2, rfl⟩ := two_some (f := Te.and) h
          refine PT.imp (pw_and (iT a a' h1) (pw_of (iT _ b' h2))).pt fun σ H Q z => ?_
          unfold wT at z
          exact z
        | .Or, a :: b :: r, h =>
          obtain ⟨a', b', h1, h2, rfl⟩ := two_some (f := Te.or) h
          refine PT.imp (pw_or (iT a a' h1) (pw_of (iT _ b' h2))).pt fun σ H Q z => ?_
          unfold wT at z
          exact z
      | IfExp t a b p => cases h
      | Compare a os bs p =>
        match os, bs, h with
        | [o], [b], h =>
          obtain ⟨hb, h⟩ := if_some h
          obtain ⟨a', b', h1, h2, rfl⟩ := two_some (f := Te.cmp o) h
          refine PT.imp (pt_cmpR (op_cmpV S0 O.hu o) (iE a a' h1) (iE b b' h2) (marks_ok hb)) fun σ H Q z => ?_
          unfold wT at z
          exact wE_mono M a' (fun x H1 z1 => wE_mono M b' (fun y H2 z2 => cmpV_mono (fun v H3 z3 => boolV_ex z3) z2) z1) z
        | [o, o'], [b, d], h =>
          obtain ⟨hb, h⟩ := if_some h
          obtain ⟨a', b', d', h1, h2, h3, rfl⟩ := tri_some (f := Te.chn o o') h
          simp only [Bool.and_eq_true] at hb
          refine PT.imp (pt_chain (op_cmpV S0 O.hu o) (op_cmpV S0 O.hu o') (iE a a' h1) (iE b b' h2) (iE d d' h3) (last_ok hb.2)) fun σ H Q z => ?_
          unfold wT at z
          refine wE_mono M a' (fun x H1 z1 => wE_mono M b' (fun y H2 z2 => cmpV_mono (fun v H3 z3 => ?_) z2) z1) z
          obtain ⟨k, rfl, z3⟩ := boolV_ex z3
          refine ⟨k, rfl, ?_⟩
          cases k with
          | true => exact wE_mono M d' (fun y H4 z4 => cmpV_mono (fun v H5 z5 => boolV_ex z5) z4) z3
          | false => exact ⟨false, rfl, z3⟩
      | _ => exact val_ok O M iE rfl h
end
end QL
set_option Elab.async false
set_option linter.all false
set_option maxRecDepth 100000
set_option maxHeartbeats 4000000
/-! Q9: statements: the small language, what its terms ask, how Python's are turned. -/
namespace QL
open PySem PySem.Spec L2
open PyProof.Rows hiding St
mutual
inductive Sx where
  | asg (i : Nat) (e : Ex)
  | setI (o i e : Ex)
  | setF (o : Ex) (f : Str) (e : Ex)
  | par (is : List Nat) (es : Exs)
  | exp (e : Ex)
  | ret (e : Ex)
  | retN
  | ifs (t : Te) (a b : Sxs)
  | rng (i : Nat) (lo hi : Ex) (b : Sxs)
  | forL (i : Nat) (e : Ex) (b : Sxs)
  | whl (t : Te) (b : Sxs)
  | pass
  | never
inductive Sxs where
  | nil
  | cons (s : Sx) (r : Sxs)
end
/-- a for over m ints from i on -/
def lpR (g : TG) (tb : TS) (D : Ends) : Nat → Int → St → Hp → Prop
  | 0, _, σ, H => D.nx σ H
  | m + 1, i, σ, H => g (.int i) σ H fun σ2 H2 => tb { D with nx := lpR g tb D m (i + 1), ct := lpR g tb D m (i + 1), bk := D.nx } σ2 H2
/-- a for over the list at a, which stays -/
def lpL (so : Addr → Option HO) (a : Addr) (xs : List V) (g : TG) (tb : TS) (D : Ends) : List V → St → Hp → Prop
  | [], σ, H => rd so H a = some (.lst xs) ∧ D.nx σ H
  | x :: r, σ, H => rd so H a = some (.lst xs) ∧ g x σ H fun σ2 H2 => tb { D with nx := lpL so a xs g tb D r, ct := lpL so a xs g tb D r, bk := D.nx } σ2 H2
/-- a while, of at most m turns -/
def lpW (t : TT) (tb : TS) (D : Ends) : Nat → St → Hp → Prop
  | 0, _, _ => False
  | m + 1, σ, H => t σ H fun k H1 => if k = true then tb { D with nx := lpW t tb D m, ct := lpW t tb D m, bk := D.nx } σ H1 else D.nx σ H1
def setL : List Nat → List V → St → Option St
  | [], [], σ => some σ
  | i :: is, v :: vs, σ => setL is vs (σ.set i (some v))
  | _, _, _ => none
def setFV (S : Stat) (f : Str) (x y : V) (H : Hp) (Q : Hp → Prop) : Prop := match x with
  | .ref a => (match H a with
    | some (.ins C dx fs) => S.fl C f ∧ fs.length < 1000 ∧ Q (upd H a (.ins C dx (putF f y fs)))
    | _ => False)
  | _ => False
def parK (o : Option St) (B : St → Prop) : Prop := match o with
  | some σ => B σ
  | none => False
def lstK (so : Addr → Option HO) (x : V) (H : Hp) (B : Addr → List V → Prop) : Prop := match x with
  | .ref a => (match rd so H a with
    | some (.lst xs) => B a xs
    | _ => False)
  | _ => False
section
variable (S : Stat) (F : Sm) (W : WX)
mutual
def wS : Sx → TS
  | .asg i e => fun D σ H => wE S F W e σ H fun x H1 => D.nx (σ.set i (some x)) H1
  | .setI o i e => fun D σ H => wE S F W e σ H fun x H1 => wE S F W o σ H1 fun y H2 => wE S F W i σ H2 fun z H3 => setV y z x H3 fun H4 => D.nx σ H4
  | .setF o f e => fun D σ H => wE S F W e σ H fun y H1 => wE S F W o σ H1 fun x H2 => setFV S f x y H2 fun H3 => D.nx σ H3
  | .par is es => fun D σ H => wA S F W es σ H fun vs H1 => parK (setL is vs σ) fun σ' => D.nx σ' H1
  | .exp e => fun D σ H => wE S F W e σ H fun _ H1 => D.nx σ H1
  | .ret e => fun D σ H => wE S F W e σ H D.rt
  | .retN => fun D _ H => D.rt .non H
  | .ifs t a b => fun D σ H => wT S F W t σ H fun k H1 => if k = true then wSs a D σ H1 else wSs b D σ H1
  | .rng i lo hi b => fun D σ H => wE S F W lo σ H fun x H1 => wE S F W hi σ H1 fun y H2 => intK x fun l => intK y fun h => lpR (gName i) (wSs b) D (h - l).toNat l σ H2
  | .forL i e b => fun D σ H => wE S F W e σ H fun x H1 => lstK S.so x H1 fun a xs => lpL S.so a xs (gName i) (wSs b) D xs σ H1
  | .whl t b => fun D σ H => ∃ m, lpW (wT S F W t) (wSs b) D m σ H
  | .pass => fun D σ H => D.nx σ H
  | .never => fun _ _ _ => False
def wSs : Sxs → TS
  | .nil => fun D σ H => D.nx σ H
  | .cons s r => fun D σ H => wS s { D with nx := wSs r D } σ H
end
end
/-! ### turning -/
def notComp : Expr → Bool
  | .ListComp _ _ _ _ => false
  | .SetComp _ _ _ _ => false
  | .DictComp _ _ _ _ _ => false
  | _ => true
/-- a local name's slot -/
def locOf (C : CI) (x : Str) : Option Nat := match C.sc.names.lookup x with
  | some .local => C.N.idxOf? x
  | some .cell => C.N.idxOf? x
  | _ => none
def loc1 (C : CI) (x : Str) : Option Nat := match C.sc.names.lookup x with
  | some .local => C.N.idxOf? x
  | _ => none
def nCS : (Stmt → Option Sx) → List Stmt → Option Sxs
  | _, [] => some .nil
  | f, e :: es => two (f e) (nCS f es) .cons
def cPar2 (C : CI) (n : Nat) (x : Str) (px : Pos) (y : Str) (py : Pos) (a b : Expr) : Option Sx :=
  iff' (px.line == py.line && !(x == y) && !([a, b].all (foldedForSure 8)) && !([a, b].all (constantsAlone 8)))
    (tri (loc1 C x) (loc1 C y) (nCE (cE C n) [a, b]) fun i j es => .par [i, j] es)
def cPar3 (C : CI) (n : Nat) (x : Str) (px : Pos) (y : Str) (py : Pos) (z : Str) (pz : Pos) (a b c : Expr) : Option Sx :=
  iff' (px.line == py.line && px.line == pz.line && !(x == y) && !(x == z) && !(y == z) && !([a, b, c].all (foldedForSure 8)) && !([a, b, c].all (constantsAlone 8)))
    (two (tri (loc1 C x) (loc1 C y) (loc1 C z) fun i j l => [i, j, l]) (nCE (cE C n) [a, b, c]) .par)
def nmOf : Expr → Option (Str × Pos)
  | .Name x p => some (x, p)
  | _ => none
def nms : List Expr → Option (List (Str × Pos))
  | [] => some []
  | e :: es => two (nmOf e) (nms es) (fun a b => a :: b)
def cPar (C : CI) (n : Nat) (ns : List (Str × Pos)) (vs : List Expr) : Option Sx := match ns, vs with
  | [x, y], [a, b] => cPar2 C n x.1 x.2 y.1 y.2 a b
  | [x, y, z], [a, b, c] => cPar3 C n x.1 x.2 y.1 y.2 z.1 z.2 a b c
  | _, _ => none
def tupOf : Expr → Option (List Expr)
  | .Tuple vs _ _ => some vs
  | _ => none
def cAsg1 (C : CI) (n : Nat) (t e : Expr) : Option Sx := match t with
  | .Name x _ => iff' (notComp e) (two (locOf C x) (cE C n e) .asg)
  | .Subscript o i _ => iff' (notComp e && notSlice i) (tri (cE C n o) (cE C n i) (cE C n e) .setI)
  | .Attribute o f _ => iff' (notComp e) (two (cE C n o) (cE C n e) fun o e => .setF o f e)
  | .Tuple ts _ _ => (two (nms ts) (tupOf e) Prod.mk).bind fun u => cPar C n u.1 u.2
  | _ => none
def cAsg (C : CI) (n : Nat) (ts : List Expr) (e : Expr) : Option Sx := match ts with
  | [t] => cAsg1 C n t e
  | _ => none
def isRange (C : CI) (x : Str) : Bool := x == ("range" : Str) && isG C x && C.gl x == .no
def cRng (C : CI) (n : Nat) (i : Option Nat) (as : List Expr) (b : Option Sxs) : Option Sx := match as with
  | [a] => tri i (cE C n a) b fun i a b => .rng i (.lit (.int 0)) a b
  | [a, c] => two (two i (cE C n a) Prod.mk) (two (cE C n c) b Prod.mk) fun u v => .rng u.1 u.2 v.1 v.2
  | _ => none
def rngOf (C : CI) : Expr → Option (List Expr)
  | .Call f as ks _ => iff' (match nmOf f, ks with
    | some x, [] => isRange C x.1
    | _, _ => false) (some as)
  | _ => none
def walkL : Expr → Bool
  | .Name _ _ => true
  | .List _ _ => true
  | .Attribute _ _ _ => true
  | _ => false
def cFor (C : CI) (n : Nat) (t : Expr) (it : Expr) (b : Option Sxs) : Option Sx := match nmOf t with
  | some x => (match rngOf C it with
    | some as => cRng C n (locOf C x.1) as b
    | none => iff' (walkL it) (tri (locOf C x.1) (cE C n it) b fun i e b => .forL i e b))
  | none => none
def cS (C : CI) : Nat → Stmt → Option Sx
  | 0, _ => none
  | n + 1, st => match st with
    | .Assign ts e _ => cAsg C n ts e
    | .Expr e _ => iff' (notComp e) ((cE C n e).map .exp)
    | .Return v _ => (match v with
      | some e => (cE C n e).map .ret
      | none => some .retN)
    | .If t a b _ => tri (cT C n t) (nCS (cS C n) a) (nCS (cS C n) b) .ifs
    | .For t it b o _ => iff' o.isEmpty (cFor C n t it (nCS (cS C n) b))
    | .While t b o _ => iff' o.isEmpty (two (cT C n t) (nCS (cS C n) b) .whl)
    | .Pass _ => some .pass
    | .Raise _ _ _ => some .never
    | _ => none
end QL
set_option Elab.async false
set_option linter.all false
set_option maxRecDepth 100000
set_option maxHeartbeats 4000000
/-! Q10: the turned statements keep what is asked. -/
namespace QL
open PySem PySem.Spec L2
open PyProof.Rows hiding St
structure Le (D D' : Ends) : Prop where
  nx : ∀ σ H, D.nx σ H → D'.nx σ H
  rt : ∀ v H, D.rt v H → D'.rt v H
  bk : ∀ σ H, D.bk σ H → D'.bk σ H
  ct : ∀ σ H, D.ct σ H → D'.ct σ H
section
variable {S : Stat} {F : Sm} {W W' : WX}
theorem setV_mono {o i v : V} {H : Hp} {Q Q' : Hp → Prop} (q : ∀ H, Q H → Q' H) (h : setV o i v H Q) : setV o i v H Q' := by
  unfold setV at h ⊢
  split at h
  · split at h
    · split at h
      · exact q _ h
      · exact h.elim
    · exact ⟨h.1, q _ h.2⟩
    · exact h.elim
  · split at h
    · exact ⟨h.1, q _ h.2⟩
    · exact h.elim
  · exact h.elim
variable (M : SmMono F) (w : ∀ c d σ H, W c d σ H → W' c d σ H)
include M w
def TSle (t t' : TS) : Prop := ∀ D D' σ H, Le D D' → t D σ H → t' D' σ H
omit M w in
theorem lpR_mono {tb tb' : TS} {i0 : Nat} (m : TSle tb tb') {D D' : Ends} (l : Le D D') : ∀ (n : Nat) (i : Int) (σ : St) (H : Hp), lpR (gName i0) tb D n i σ H → lpR (gName i0) tb' D' n i σ H
  | 0, i, σ, H, h => l.nx _ _ h
  | n + 1, i, σ, H, h => by
    refine m _ _ _ _ ?_ h
    exact ⟨fun σ H z => lpR_mono m l n (i + 1) σ H z, l.rt, l.nx, fun σ H z => lpR_mono m l n (i + 1) σ H z⟩
omit M w in
theorem lpL_mono {so : Addr → Option HO} {a : Addr} {xs : List V} {tb tb' : TS} {i0 : Nat} (m : TSle tb tb') {D D' : Ends} (l : Le D D') : ∀ (r : List V) (σ : St) (H : Hp), lpL so a xs (gName i0) tb D r σ H → lpL so a xs (gName i0) tb' D' r σ H
  | [], σ, H, h => ⟨h.1, l.nx _ _ h.2⟩
  | x :: r, σ, H, h => by
    refine ⟨h.1, m _ _ _ _ ?_ h.2⟩
    exact ⟨fun σ H z => lpL_mono m l r σ H z, l.rt, l.nx, fun σ H z => lpL_mono m l r σ H z⟩
theorem lpW_mono {t : Te} {tb tb' : TS} (m : TSle tb tb') {D D' : Ends} (l : Le D D') : ∀ (n : Nat) (σ : St) (H : Hp), lpW (wT S F W t) tb D n σ H → lpW (wT S F W' t) tb' D' n σ H
  | 0, σ, H, h => h.elim
  | n + 1, σ, H, h => by
    unfold lpW at h ⊢
    refine wT_mono2 M w t (fun k H1 z => ?_) h
    cases k with
    | true =>
      refine m _ _ _ _ ?_ z
      exact ⟨fun σ H z => lpW_mono m l n σ H z, l.rt, l.nx, fun σ H z => lpW_mono m l n σ H z⟩
    | false => exact l.nx _ _ z
mutual
theorem wS_mono : ∀ (c : Sx), TSle (wS S F W c) (wS S F W' c)
  | .asg i e, D, D', σ, H, l, h => by
    unfold wS at h ⊢
    exact wE_mono2 M w e (fun x H1 z => l.nx _ _ z) h
  | .setI o i e, D, D', σ, H, l, h => by
    unfold wS at h ⊢
    exact wE_mono2 M w e (fun x H1 z1 => wE_mono2 M w o (fun y H2 z2 => wE_mono2 M w i (fun z H3 z3 => setV_mono (fun H4 z4 => l.nx _ _ z4) z3) z2) z1) h
  | .setF o f e, D, D', σ, H, l, h => by
    unfold wS at h ⊢
    refine wE_mono2 M w e (fun x H1 z1 => wE_mono2 M w o (fun y H2 z2 => ?_) z1) h
    unfold setFV at z2 ⊢
    split at z2
    · split at z2
      · exact ⟨z2.1, z2.2.1, l.nx _ _ z2.2.2⟩
      · exact z2.elim
    · exact z2.elim
  | .par is es, D, D', σ, H, l, h => by
    unfold wS at h ⊢
    refine wA_mono2 M w es (fun vs H1 z => ?_) h
    unfold parK at z ⊢
    split at z
    · exact l.nx _ _ z
    · exact z.elim
  | .exp e, D, D', σ, H, l, h => by
    unfold wS at h ⊢
    exact wE_mono2 M w e (fun x H1 z => l.nx _ _ z) h
  | .ret e, D, D', σ, H, l, h => by
    unfold wS at h ⊢
    exact wE_mono2 M w e l.rt h
  | .retN, D, D', σ, H, l, h => by
    unfold wS at h ⊢
    exact l.rt _ _ h
  | .ifs t a b, D, D', σ, H, l, h => by
    unfold wS at h ⊢
    refine wT_mono2 M w t (fun k H1 z => ?_) h
    cases k with
    | true => exact wSs_mono a _ _ _ _ l z
    | false => exact wSs_mono b _ _ _ _ l z
  | .rng i lo hi b, D, D', σ, H, l, h => by
    unfold wS at h ⊢
    refine wE_mono2 M w lo (fun x H1 z1 => wE_mono2 M w hi (fun y H2 z2 => ?_) z1) h
    unfold intK at z2 ⊢
    split at z2
    · split at z2
      · exact lpR_mono (wSs_mono b) l _ _ _ _ z2
      · exact z2.elim
    · exact z2.elim
  | .forL i e b, D, D', σ, H, l, h => by
    unfold wS at h ⊢
    refine wE_mono2 M w e (fun x H1 z1 => ?_) h
    unfold lstK at z1 ⊢
    split at z1
    · split at z1
      · exact lpL_mono (wSs_mono b) l _ _ _ z1
      · exact z1.elim
    · exact z1.elim
  | .whl t b, D, D', σ, H, l, h => by
    unfold wS at h ⊢
    obtain ⟨m, z⟩ := h
    exact ⟨m, lpW_mono M w (wSs_mono b) l m _ _ z⟩
  | .pass, D, D', σ, H, l, h => by
    unfold wS at h ⊢
    exact l.nx _ _ h
  | .never, D, D', σ, H, l, h => by
    unfold wS at h
    exact h.elim
theorem wSs_mono : ∀ (c : Sxs), TSle (wSs S F W c) (wSs S F W' c)
  | .nil, D, D', σ, H, l, h => by
    unfold wSs at h ⊢
    exact l.nx _ _ h
  | .cons s r, D, D', σ, H, l, h => by
    unfold wSs at h ⊢
    refine wS_mono s _ _ _ _ ?_ h
    exact ⟨fun σ H z => wSs_mono r _ _ _ _ l z, l.rt, l.bk, l.ct⟩
end
end
/-! ### ranges of any size -/
section
variable {X : Cx} {tg : Expr}
theorem turn_long {P : Program} {w : World} {K : PySem.W.Frag} (it : Addr) (lo : Int) (n : Nat) : Turn P w K tg (Itr lo n) [it] it (fun i h => IsLongIter h it (lo + (i : Nat) * 1) ((n : Int) - (i : Nat)) 1) where
  mem := by simp
  obj := fun i h st b hb => by
    have e : b = it := by simpa using hb
    subst e
    exact ⟨_, st, fun v z => by
      have z' : Data.fields _ = Data.cell v := z
      cases z'⟩
  keep := fun i h h' st kk => kk it (by simp) _ st
  item := by
    intro X hP hw hK hc i pins s σ H E I hf st hg
    subst hP hw hK
    obtain ⟨f0, f1, f2, f3, f4, f5⟩ := hf it (by simp)
    refine (Walks.longrange (prog := X.prog) (w := X.w) (I.ok.hd hc) it lo 1 n).item i s _ _ hg st fun v h' tk hv st' kk => ?_
    obtain ⟨t, rfl⟩ := hv
    have I1 : Inv X pins σ H { s with heap := h', toks := tk } := I.turned (fun b o hb e => kk b o (by simpa using hb) e) f0 f1 f3 f4 f5
    refine ⟨_, rfl, go_of (s := { s with heap := h', toks := tk }) (n := "longrange_iterator") st' rfl rfl (by decide) ⟨.int (lo + i), H, I1, ⟨t, ?_⟩, ⟨rfl, rfl⟩, st', fun b hb => (hf b hb).1⟩⟩
    rw [Int.mul_one]
  done := by
    intro X hP hw hK hc i pins s σ H E I hf st hg
    subst hP hw hK
    obtain ⟨f0, f1, f2, f3, f4, f5⟩ := hf it (by simp)
    exact wpAny_pyNext_long_end (I.ok.hd hc) st (by have : n ≤ i := hg; omega) fun h' eb => ⟨rfl, I.turned (t' := s.toks) (fun b o hb e => eb b o hb e) f0 f1 f3 f4 f5⟩
  self := fun _ _ _ _ _ st h => wpAny_pyIter_longiter st h
theorem range_any {pins : List (Addr × Obj)} {σ : St} {H : Hp} {s : Shared} {R : It → Hp → Prop} {E : Value → Shared → Prop} {lo hi : Int} {t u v : Tok} {tk : Nat} (I : Inv X pins σ H s)
    (q : R (Itr lo (hi - lo).toNat) H) : wpAny (model X.prog X.w) X.A (pyIter (.ref s.heap.objs.size)) (PIE X pins σ tg R) E { s with heap := s.heap.push { cls := .type "range", data := .fields #[.int lo t, .int hi u, .int 1 v] }, toks := tk } := by
  have I1 : Inv X pins σ H { s with heap := s.heap.push { cls := .type "range", data := .fields #[.int lo t, .int hi u, .int 1 v] }, toks := tk } := I.kept fun b o e => Heap.get?_push_of_some _ e
  have e1 : lo + ((0 : Nat) : Int) * 1 = lo := by simp
  have e2 : (((hi - lo).toNat : Nat) : Int) - ((0 : Nat) : Int) = Builtin.Range.rangeSize lo hi 1 := by rw [rangeSize_one]; split <;> omega
  have fp : ∀ b ∈ [(s.heap.push { cls := .type "range", data := .fields #[.int lo t, .int hi u, .int 1 v] }).objs.size], FpOk X pins H b := fun b hb => by
    have e : b = (s.heap.push { cls := .type "range", data := .fields #[.int lo t, .int hi u, .int 1 v] }).objs.size := by simpa using hb
    subst e
    exact I1.fpOk (Nat.le_refl _) (I1.hok.fresh (Nat.le_refl _))
  cases hs : Builtin.Range.small lo hi 1 with
  | true =>
    refine wpAny_pyIter_range (IsRange.new ..) hs ?_
    refine ⟨_, _, _, _, H, rfl, I1.kept (t' := tk) fun b o e => Heap.get?_push_of_some _ e, turn_range _ lo (hi - lo).toNat, ?_, fp, q⟩
    show IsRangeIter _ _ (lo + ((0 : Nat) : Int) * 1) ((((hi - lo).toNat : Nat) : Int) - ((0 : Nat) : Int)) 1
    rw [e1, e2]
    exact Heap.get?_push_size _ rfl
  | false =>
    refine wpAny_pyIter_longrange (IsRange.new ..) hs ?_
    refine ⟨_, _, _, _, H, rfl, I1.kept (t' := tk) fun b o e => Heap.get?_push_of_some _ e, turn_long _ lo (hi - lo).toNat, ?_, fp, q⟩
    show IsLongIter _ _ (lo + ((0 : Nat) : Int) * 1) ((((hi - lo).toNat : Nat) : Int) - ((0 : Nat) : Int)) 1
    rw [e1, e2]
    exact Heap.get?_push_size _ rfl
theorem pi_rng1 {a : Expr} {ta : TE} {p pos : Pos} (hg : Gl X "range") (hm : X.mg "range" = none) (ha : PE X a ta) (st : notStar a = true) :
    PI X tg (.Call (.Name "range" p) [a] [] pos) (fun σ H R => ta σ H fun x H1 => ∃ j : Int, [x] = [V.int j] ∧ R (Itr 0 (j - 0).toNat) H1) := by
  refine ⟨fun pins s σ H R I h => ?_⟩
  refine Call_ (ld_blt I hg hm boot_range (PyProof.Rows.callWith_type1 (thn ((pa_cons ha pa_nil (star_one st)).run pos pins s σ H (fun vs H1 => ∃ j : Int, vs = [V.int j] ∧ R (Itr 0 (j - 0).toNat) H1) I h) fun us s1 ⟨vs, H1, I1, r1, q1⟩ => ?_) (star_one st) rfl))
  obtain ⟨j, rfl, q⟩ := q1
  obtain ⟨u, rfl, t, rfl⟩ := vals1 r1
  exact call_range_1 (range_any I1 q)
theorem pi_rng2 {a b : Expr} {ta tb : TE} {p pos : Pos} (hg : Gl X "range") (hm : X.mg "range" = none) (ha : PE X a ta) (hb : PE X b tb) (sa : notStar a = true) (sb : notStar b = true) :
    PI X tg (.Call (.Name "range" p) [a, b] [] pos) (fun σ H R => ta σ H fun x H1 => tb σ H1 fun y H2 => ∃ i j : Int, [x, y] = [V.int i, V.int j] ∧ R (Itr i (j - i).toNat) H2) := by
  refine ⟨fun pins s σ H R I h => ?_⟩
  refine Call_ (ld_blt I hg hm boot_range (PyProof.Rows.callWith_type1 (thn ((pa_cons ha (pa_cons hb pa_nil (star_one sb)) (star_one sa)).run pos pins s σ H (fun vs H1 => ∃ i j : Int, vs = [V.int i, V.int j] ∧ R (Itr i (j - i).toNat) H1) I h) fun us s1 ⟨vs, H1, I1, r1, q1⟩ => ?_) (star_one sa) ?_))
  · obtain ⟨i, j, rfl, q⟩ := q1
    obtain ⟨u, w, rfl, ⟨t, rfl⟩, t', rfl⟩ := vals2 r1
    exact call_range_2 (range_any I1 q)
  · exact star_no fun e he => by
      have : e = b := by simpa using he
      rw [this]
      exact sb
/-- the turns of a range -/
theorem for_rng {lo : Int} {n : Nat} {g : TG} {tb : TS} {D : Ends} {σ : St} {H : Hp} (h : lpR g tb D n lo σ H) :
    ∃ W : Nat → Nat → St → Hp → Prop, (∃ m, W 0 m σ H) ∧ ∀ i m σ H, W i m σ H →
      ((Itr lo n).stop i H ∧ D.nx σ H) ∨ ((Itr lo n).go i H ∧ ∃ N : St → Hp → Prop, (∀ σ' H', N σ' H' → ∃ m', m' < m ∧ W (i + 1) m' σ' H') ∧ ∀ x H', (Itr lo n).yld i H x H' → g x σ H' fun σ2 H2 => tb { D with nx := N, ct := N, bk := D.nx } σ2 H2) := by
  refine ⟨fun i m σ H => m = n - i ∧ i ≤ n ∧ lpR g tb D m (lo + i) σ H, ⟨n, by simp, Nat.zero_le _, by simpa using h⟩, ?_⟩
  rintro i m σ H ⟨e, hi, z⟩
  cases m with
  | zero => exact .inl ⟨by show n ≤ i; omega, z⟩
  | succ m =>
    refine .inr ⟨by show i < n; omega, lpR g tb D m (lo + i + 1), fun σ' H' z' => ⟨m, by omega, by omega, by omega, ?_⟩, ?_⟩
    · have : lo + ((i + 1 : Nat) : Int) = lo + i + 1 := by push_cast; omega
      rw [this]
      exact z'
    · rintro x H' ⟨rfl, rfl⟩
      exact z
/-- the turns of a list that stays -/
theorem for_lst {K : PySem.W.Frag} {so : Addr → Option HO} (S0 : SoOk K so) {a : Addr} {xs : List V} {g : TG} {tb : TS} {D : Ends} {σ : St} {H : Hp} (h : lpL so a xs g tb D xs σ H) :
    ∃ W : Nat → Nat → St → Hp → Prop, (∃ m, W 0 m σ H) ∧ ∀ i m σ H, W i m σ H →
      ((Itl K a).stop i H ∧ D.nx σ H) ∨ ((Itl K a).go i H ∧ ∃ N : St → Hp → Prop, (∀ σ' H', N σ' H' → ∃ m', m' < m ∧ W (i + 1) m' σ' H') ∧ ∀ x H', (Itl K a).yld i H x H' → g x σ H' fun σ2 H2 => tb { D with nx := N, ct := N, bk := D.nx } σ2 H2) := by
  refine ⟨fun i m σ H => ∃ r, xs.drop i = r ∧ m = r.length ∧ i ≤ xs.length ∧ lpL so a xs g tb D r σ H, ⟨_, _, rfl, rfl, Nat.zero_le _, h⟩, ?_⟩
  rintro i m σ H ⟨r, e, rfl, hi, z⟩
  cases r with
  | nil =>
    have hl : xs.length ≤ i := List.drop_eq_nil_iff.mp e
    exact .inl ⟨⟨xs, rd_lst S0 z.1, hl⟩, z.2⟩
  | cons x r =>
    have hx : xs[i]? = some x := by
      have := List.getElem?_drop (xs := xs) (i := i) (j := 0)
      rw [e] at this
      simpa using this.symm
    have hd : xs.drop (i + 1) = r := by
      rw [← List.tail_drop, e]
      rfl
    refine .inr ⟨⟨xs, x, rd_lst S0 z.1, hx⟩, lpL so a xs g tb D r, fun σ' H' z' => ⟨r.length, by simp, r, hd, rfl, ?_, z'⟩, ?_⟩
    · have := (List.getElem?_eq_some_iff.mp hx).1
      omega
    · rintro y H' ⟨rfl, hy⟩
      have := hy xs (rd_lst S0 z.1)
      rw [hx] at this
      cases this
      exact z.2
theorem PS.imp {st : Stmt} {t t' : TS} (h : PS X st t) (q : ∀ D σ H, t' D σ H → t D σ H) : PS X st t' := ⟨fun pins s σ H D I z => h.run pins s σ H D I (q D σ H z)⟩
end
section
variable {env : Env}
theorem swaps_no {e : Expr} {t : Option Expr} {l : Nat} (h : notComp e = true) : swapsWith e t l env = pure false := by
  cases e <;> first | rfl | cases h
theorem swp2 {x y : Str} {px py pt pt2 : Pos} {kt k2 : Nat} {a b : Expr} (hk : env.scope.kind = .function) (hx : env.scope.names.lookup x = some .local) (hy : env.scope.names.lookup y = some .local) (hl : px.line = py.line) (hxy : x ≠ y)
    (sa : notStar a = true) (sb : notStar b = true) (h1 : [a, b].all (foldedForSure 8) = false) (h2 : [a, b].all (constantsAlone 8) = false) :
    swappedStores [.Tuple [.Name x px, .Name y py] kt pt] (.Tuple [a, b] k2 pt2) env = pure (some [x, y]) := by
  have hbk : env.blockKind = .function := by
    unfold Env.blockKind
    rw [hk]
    rfl
  have k1 : env.kindOf x = some .local := hx
  have k2' : env.kindOf y = some .local := hy
  have hn : ([x, y] : List Str).eraseDups.length = 2 := by
    have : (y == x) = false := by simpa using fun e => hxy e.symm
    simp [List.eraseDups, List.eraseDupsBy, List.eraseDupsBy.loop, this]
  unfold swappedStores
  simp only [h1, h2, hbk, k1, k2', List.filterMap, Expr.pos, hl, List.head?, Option.map, Option.getD]
  have e0 : (some NameKind.local == some NameKind.local && py.line == py.line) = true := by simp
  simp only [e0, if_true, List.length_cons, List.length_nil, hn, List.any_cons, List.any_nil]
  refine (if_neg (by decide)).trans ((if_neg (fun h => ?_)).trans ?_)
  · rw [Bool.or_eq_true, Bool.or_eq_true] at h
    rcases h with h | h | h
    · cases a <;> first | exact absurd h Bool.false_ne_true | exact absurd sa Bool.false_ne_true
    · cases b <;> first | exact absurd h Bool.false_ne_true | exact absurd sb Bool.false_ne_true
    · exact absurd h Bool.false_ne_true
  · rfl
theorem swp3 {x y z : Str} {px py pz pt pt2 : Pos} {kt k2 : Nat} {a b c : Expr} (hk : env.scope.kind = .function) (hx : env.scope.names.lookup x = some .local) (hy : env.scope.names.lookup y = some .local) (hz : env.scope.names.lookup z = some .local)
    (hl : px.line = py.line) (hl2 : px.line = pz.line) (hxy : x ≠ y) (hxz : x ≠ z) (hyz : y ≠ z)
    (sa : notStar a = true) (sb : notStar b = true) (sc : notStar c = true) (h1 : [a, b, c].all (foldedForSure 8) = false) (h2 : [a, b, c].all (constantsAlone 8) = false) :
    swappedStores [.Tuple [.Name x px, .Name y py, .Name z pz] kt pt] (.Tuple [a, b, c] k2 pt2) env = pure (some [x, y, z]) := by
  have hbk : env.blockKind = .function := by
    unfold Env.blockKind
    rw [hk]
    rfl
  have k1 : env.kindOf x = some .local := hx
  have k2' : env.kindOf y = some .local := hy
  have k3 : env.kindOf z = some .local := hz
  have hn : ([x, y, z] : List Str).eraseDups.length = 3 := by
    have e1 : (y == x) = false := by simpa using fun e => hxy e.symm
    have e2 : (z == x) = false := by simpa using fun e => hxz e.symm
    have e3 : (z == y) = false := by simpa using fun e => hyz e.symm
    simp [List.eraseDups, List.eraseDupsBy, List.eraseDupsBy.loop, e1, e2, e3]
  unfold swappedStores
  simp only [h1, h2, hbk, k1, k2', k3, List.filterMap, Expr.pos, ← hl, ← hl2, List.head?, Option.map, Option.getD]
  have e0 : (some NameKind.local == some NameKind.local && px.line == px.line) = true := by simp
  simp only [e0, if_true, List.length_cons, List.length_nil, hn, List.any_cons, List.any_nil]
  refine (if_neg (by decide)).trans ((if_neg (fun h => ?_)).trans ?_)
  · rw [Bool.or_eq_true, Bool.or_eq_true, Bool.or_eq_true] at h
    rcases h with h | h | h | h
    · cases a <;> first | exact absurd h Bool.false_ne_true | exact absurd sa Bool.false_ne_true
    · cases b <;> first | exact absurd h Bool.false_ne_true | exact absurd sb Bool.false_ne_true
    · cases c <;> first | exact absurd h Bool.false_ne_true | exact absurd sc Bool.false_ne_true
    · exact absurd h Bool.false_ne_true
  · rfl
theorem swn {o i e : Expr} {p : Pos} : swappedStores [.Subscript o i p] e env = pure none := by
  unfold swappedStores
  rfl
theorem ase {o i : Expr} {p : Pos} : (assignEach [.Subscript o i p] env).map (·.2) = [assign (.Subscript o i p) env] := rfl
theorem asg {o i : Expr} {p : Pos} (hs : notSlice i = true) (v : Value) : assign (.Subscript o i p) env v = (do
      let ov ← holding [v] (eval o env)
      let iv ← holding [v, ov] (eval i env)
      standAt p
      holding [v, ov, iv] (setItem ov iv v)
      release [v, ov, iv] []) := by cases i <;> first | rfl | cases hs
end
end QL
set_option Elab.async false
set_option linter.all false
set_option maxRecDepth 100000
set_option maxHeartbeats 4000000
/-! Q11: the turned statements keep what is asked: the induction; defs. -/
namespace QL
open PySem PySem.Spec L2
open PyProof.Rows hiding St
section
variable {X : Cx} {S : Stat} {F : Sm} {k : Nat} {C : CI} {W : WX}
theorem Ok.loc (O : Ok X S F k C W) {x : Str} {i : Nat} (h : locOf C x = some i) : X.N.Nodup ∧ X.N[i]? = some x ∧ Loc X.env.scope x ∧ (X.fn x = true ∨ X.env.scope.names.lookup x = some .local) := by
  unfold locOf at h
  have nd : X.N.Nodup := by rw [O.N]; exact O.nd
  split at h
  · rename_i e
    rw [← O.sc] at e
    exact ⟨nd, by rw [O.N]; exact idxOf_get h, .inl e, .inr e⟩
  · rename_i e
    have e' := e
    rw [← O.sc] at e
    exact ⟨nd, by rw [O.N]; exact idxOf_get h, .inr e, .inl (O.cf _ e')⟩
  · cases h
theorem Ok.loc1 (O : Ok X S F k C W) {x : Str} {i : Nat} (h : QL.loc1 C x = some i) : X.N[i]? = some x ∧ X.env.scope.names.lookup x = some .local := by
  unfold QL.loc1 at h
  split at h
  · rename_i e
    rw [← O.sc] at e
    exact ⟨by rw [O.N]; exact idxOf_get h, e⟩
  · cases h
theorem sole_no {env : Env} {e t : Expr} {l : Nat} (h : notComp e = true) : swapsWithSole [t] e l env = pure false := by
  cases e <;> first | rfl | cases h
theorem nd_ne {α : Type} {l : List α} {i j : Nat} {x y : α} (hi : l[i]? = some x) (hj : l[j]? = some y) (h : x ≠ y) : i ≠ j := by
  rintro rfl
  rw [hi] at hj
  exact h (Option.some.inj hj)
variable (O : Ok X S F k C W) (M : SmMono F)
include O M
theorem nCS_ok {n : Nat} (iS : ∀ st c, cS C n st = some c → PS X st (wS S F W c)) : ∀ {b : List Stmt} {c : Sxs}, nCS (cS C n) b = some c → PSs X b (wSs S F W c)
  | [], c, h => by
    cases h
    refine ⟨fun pins s σ H D I z => ?_⟩
    unfold wSs at z
    exact pss_nil.run pins s σ H D I z
  | st :: b, c, h => by
    obtain ⟨s', b', h1, h2, rfl⟩ := two_some (f := Sxs.cons) h
    have p := pss_cons (iS st s' h1) (nCS_ok iS h2)
    refine ⟨fun pins s σ H D I z => ?_⟩
    unfold wSs at z
    exact p.run pins s σ H D I z
theorem set_ok {i : Nat} {x : Str} {p q : Pos} {e : Expr} {e' : Ex} (hc : notComp e = true) (hi : locOf C x = some i) (he : PE X e (wE S F W e')) : PS X (.Assign [.Name x p] e q) (wS S F W (.asg i e')) := by
  obtain ⟨nd, h1, h2, h3⟩ := O.loc hi
  refine PS.imp (ps_set nd h1 h2 he (swaps_no hc) h3) fun D σ H z => ?_
  unfold wS at z
  exact z
theorem setI_ok {o i e : Expr} {o' i' e' : Ex} {p q : Pos} (hc : notComp e = true) (hs : notSlice i = true) (ho : PE X o (wE S F W o')) (hi : PE X i (wE S F W i')) (he : PE X e (wE S F W e')) : PS X (.Assign [.Subscript o i p] e q) (wS S F W (.setI o' i' e')) := by
  refine PS.imp (ps_asg he (pg_sub ho hi (set_setV O.hu1) (asg hs)) (sole_no hc) swn ase) fun D σ H z => ?_
  unfold wS at z
  exact z
theorem setF_ok {o e : Expr} {f : Str} {o' e' : Ex} {p q : Pos} (hc : notComp e = true) (ho : PE X o (wE S F W o')) (he : PE X e (wE S F W e')) : PS X (.Assign [.Attribute o f p] e q) (wS S F W (.setF o' f e')) := by
  refine PS.imp (ps_fld ho he (swaps_no hc)) fun D σ H z => ?_
  unfold wS at z
  refine wE_mono M e' (fun y H1 z1 => wE_mono M o' (fun x H2 z2 => ?_) z1) z
  unfold setFV at z2
  split at z2
  · split at z2
    · rename_i ea
      obtain ⟨q1, q2⟩ := O.G.fl _ _ z2.1
      exact ⟨_, _, _, _, rfl, ea, q1, q2, z2.2.1, z2.2.2⟩
    · exact z2.elim
  · exact z2.elim
theorem par2_ok {n : Nat} (iE : ∀ e c, cE C n e = some c → PE X e (wE S F W c)) {x y : Str} {px py pt pt2 q : Pos} {kt k2 : Nat} {a b : Expr} {c : Sx} (h : cPar2 C n x px y py a b = some c) :
    PS X (.Assign [.Tuple [.Name x px, .Name y py] kt pt] (.Tuple [a, b] k2 pt2) q) (wS S F W c) := by
  obtain ⟨hb, h⟩ := if_some h
  obtain ⟨i, j, es, h1, h2, h3, rfl⟩ := tri_some (f := fun i j es => Sx.par [i, j] es) h
  simp only [Bool.and_eq_true, beq_iff_eq, Bool.not_eq_true', beq_eq_false_iff_ne] at hb
  obtain ⟨⟨⟨hl, hxy⟩, b1⟩, b2⟩ := hb
  obtain ⟨i1, i2⟩ := O.loc1 h1
  obtain ⟨j1, j2⟩ := O.loc1 h2
  have st := nCE_star h3
  have nd : X.N.Nodup := by rw [O.N]; exact O.nd
  have sa := st a (List.Mem.head _)
  have sb := st b (List.Mem.tail _ (List.Mem.head _))
  have hw := swp2 (pt := pt) (pt2 := pt2) (kt := kt) (k2 := k2) O.kd i2 j2 hl hxy sa sb b1 b2
  have hpa := nCE_pa iE h3
  have hsole : swapsWithSole [.Tuple [.Name x px, .Name y py] kt pt] (.Tuple [a, b] k2 pt2) q.line X.env = pure false := sole_no rfl
  have hp := ps_par O.calm nd i1 j1 (nd_ne i1 j1 hxy) i2 j2 hpa hw hsole
  refine PS.imp hp fun D σ H z => ?_
  unfold wS at z
  refine wA_mono M es (fun vs H1 z1 => ?_) z
  match vs, z1 with
  | [v, w'], z1 => exact ⟨v, w', rfl, z1⟩
theorem par3_ok {n : Nat} (iE : ∀ e c, cE C n e = some c → PE X e (wE S F W c)) {x y z : Str} {px py pz pt pt2 q : Pos} {kt k2 : Nat} {a b d : Expr} {c : Sx} (h : cPar3 C n x px y py z pz a b d = some c) :
    PS X (.Assign [.Tuple [.Name x px, .Name y py, .Name z pz] kt pt] (.Tuple [a, b, d] k2 pt2) q) (wS S F W c) := by
  obtain ⟨hb, h⟩ := if_some h
  obtain ⟨is, es, h0, h3, rfl⟩ := two_some (f := Sx.par) h
  obtain ⟨i, j, l, h1, h2, h4, rfl⟩ := tri_some (f := fun i j l => [i, j, l]) h0
  simp only [Bool.and_eq_true, beq_iff_eq, Bool.not_eq_true', beq_eq_false_iff_ne] at hb
  obtain ⟨⟨⟨⟨⟨⟨hl, hl2⟩, hxy⟩, hxz⟩, hyz⟩, b1⟩, b2⟩ := hb
  obtain ⟨i1, i2⟩ := O.loc1 h1
  obtain ⟨j1, j2⟩ := O.loc1 h2
  obtain ⟨l1, l2⟩ := O.loc1 h4
  have st := nCE_star h3
  have nd : X.N.Nodup := by rw [O.N]; exact O.nd
  have sa := st a (List.Mem.head _)
  have sb := st b (List.Mem.tail _ (List.Mem.head _))
  have sd := st d (List.Mem.tail _ (List.Mem.tail _ (List.Mem.head _)))
  have hw := swp3 (pt := pt) (pt2 := pt2) (kt := kt) (k2 := k2) O.kd i2 j2 l2 hl hl2 hxy hxz hyz sa sb sd b1 b2
  have hpa := nCE_pa iE h3
  have hsole : swapsWithSole [.Tuple [.Name x px, .Name y py, .Name z pz] kt pt] (.Tuple [a, b, d] k2 pt2) q.line X.env = pure false := sole_no rfl
  have hp := ps_par3 O.calm nd i1 j1 l1 (nd_ne i1 j1 hxy) (nd_ne i1 l1 hxz) (nd_ne j1 l1 hyz) i2 j2 l2 hpa hw hsole
  refine PS.imp hp fun D σ H z => ?_
  unfold wS at z
  refine wA_mono M es (fun vs H1 z1 => ?_) z
  match vs, z1 with
  | [v, w', u], z1 => exact ⟨v, w', u, rfl, z1⟩
theorem rng_name {x : Str} (h : isRange C x = true) : x = "range" ∧ Gl X "range" ∧ X.mg "range" = none := by
  unfold isRange at h
  simp only [Bool.and_eq_true, beq_iff_eq] at h
  obtain ⟨⟨rfl, h2⟩, h3⟩ := h
  exact ⟨rfl, O.gl h2, O.G.rng h3⟩
theorem forL_ok {i : Nat} {x : Str} {p q : Pos} {it : Expr} {b : List Stmt} {e' : Ex} {b' : Sxs} (hi : locOf C x = some i) (he : PE X it (wE S F W e')) (hb : PSs X b (wSs S F W b')) (hs : ∀ x, foldedSetIterable it X.env x = pure x) :
    PS X (.For (.Name x p) it b [] q) (wS S F W (.forL i e' b')) := by
  obtain ⟨nd, h1, h2, h3⟩ := O.loc hi
  refine PS.imp (ps_for O.po O.calm (pi_list he) (pg_name nd h1 h2 h3) hb hs) fun D σ H z => ?_
  unfold wS at z
  refine wE_mono M e' (fun v H1 z1 => ?_) z
  unfold lstK at z1
  split at z1
  · split at z1
    · rename_i e
      exact ⟨_, rfl, ⟨_, rd_lst O.G.so e⟩, for_lst O.G.so z1⟩
    · exact z1.elim
  · exact z1.elim
omit O M in
theorem nmOf_eq {e : Expr} {x : Str × Pos} (h : nmOf e = some x) : e = .Name x.1 x.2 := by
  cases e <;> cases h
  rfl
omit O M in
theorem tupOf_eq {e : Expr} {vs : List Expr} (h : tupOf e = some vs) : ∃ k p, e = .Tuple vs k p := by
  cases e <;> cases h
  exact ⟨_, _, rfl⟩
omit O M in
theorem rngOf_eq {e : Expr} {as : List Expr} (h : rngOf C e = some as) : ∃ x p q, e = .Call (.Name x p) as [] q ∧ isRange C x = true := by
  cases e with
  | Call f bs ks q =>
    obtain ⟨h1, h2⟩ := if_some h
    cases h2
    split at h1
    · rename_i x e
      rw [nmOf_eq e]
      exact ⟨_, _, _, rfl, h1⟩
    · cases h1
  | _ => cases h
theorem rng_ok {n : Nat} (iE : ∀ e c, cE C n e = some c → PE X e (wE S F W c)) {x y : Str} {p py pc q : Pos} {as : List Expr} {b : List Stmt} {bo : Option Sxs} {c : Sx} (hb : ∀ b', bo = some b' → PSs X b (wSs S F W b')) (hr : isRange C y = true)
    (h : cRng C n (locOf C x) as bo = some c) : PS X (.For (.Name x p) (.Call (.Name y py) as [] pc) b [] q) (wS S F W c) := by
  obtain ⟨rfl, hg, hm⟩ := rng_name O M hr
  match as, h with
  | [a], h =>
    obtain ⟨i, a', b', h1, h2, h3, rfl⟩ := tri_some (f := fun i a b => Sx.rng i (.lit (.int 0)) a b) h
    obtain ⟨nd, l1, l2, l3⟩ := O.loc h1
    have hpg : PG X (.Name x p) (gName i) := pg_name nd l1 l2 l3
    have hpi := pi_rng1 (tg := .Name x p) (p := py) (pos := pc) hg hm (iE a a' h2) (cE_star h2)
    have hfs : ∀ u, foldedSetIterable (.Call (.Name "range" py) [a] [] pc) X.env u = pure u := fun _ => rfl
    have hf := ps_for (pos := q) O.po O.calm hpi hpg (hb b' h3) hfs
    refine PS.imp hf fun D σ H z => ?_
    unfold wS at z
    unfold wE at z
    refine wE_mono M a' (fun v H1 z1 => ?_) z
    unfold intK at z1
    simp only at z1
    split at z1
    · exact ⟨_, rfl, for_rng z1⟩
    · exact z1.elim
  | [a, d], h =>
    obtain ⟨u, v, h0, h0', rfl⟩ := two_some (f := fun (u : Nat × Ex) (v : Ex × Sxs) => Sx.rng u.1 u.2 v.1 v.2) h
    obtain ⟨i, a', h1, h2, rfl⟩ := two_some (f := Prod.mk) h0
    obtain ⟨d', b', h3, h4, rfl⟩ := two_some (f := Prod.mk) h0'
    obtain ⟨nd, l1, l2, l3⟩ := O.loc h1
    have hpg : PG X (.Name x p) (gName i) := pg_name nd l1 l2 l3
    have hpi := pi_rng2 (tg := .Name x p) (p := py) (pos := pc) hg hm (iE a a' h2) (iE d d' h3) (cE_star h2) (cE_star h3)
    have hfs : ∀ u, foldedSetIterable (.Call (.Name "range" py) [a, d] [] pc) X.env u = pure u := fun _ => rfl
    have hf := ps_for (pos := q) O.po O.calm hpi hpg (hb b' h4) hfs
    refine PS.imp hf fun D σ H z => ?_
    unfold wS at z
    refine wE_mono M a' (fun v H1 z1 => wE_mono M d' (fun w' H2 z2 => ?_) z1) z
    unfold intK at z2
    split at z2
    · split at z2
      · exact ⟨_, _, rfl, for_rng z2⟩
      · exact z2.elim
    · exact z2.elim
theorem for_ok {n : Nat} (iE : ∀ e c, cE C n e = some c → PE X e (wE S F W c)) {q : Pos} {t it : Expr} {b : List Stmt} {bo : Option Sxs} {c : Sx} (hb : ∀ b', bo = some b' → PSs X b (wSs S F W b')) (h : cFor C n t it bo = some c) :
    PS X (.For t it b [] q) (wS S F W c) := by
  unfold cFor at h
  cases e1 : nmOf t with
  | none => rw [e1] at h; cases h
  | some x =>
    rw [e1] at h
    rw [nmOf_eq e1]
    cases e2 : rngOf C it with
    | some as =>
      simp only [e2] at h
      obtain ⟨y, py, pc, rfl, hr⟩ := rngOf_eq e2
      exact rng_ok O M iE hb hr h
    | none =>
      simp only [e2] at h
      obtain ⟨hw, h⟩ := if_some h
      obtain ⟨i, e', b', h1, h2, h3, rfl⟩ := tri_some (f := fun i e b => Sx.forL i e b) h
      refine forL_ok O M h1 (iE _ _ h2) (hb b' h3) ?_
      cases it <;> first | exact fun _ => rfl | cases hw
theorem asg1_ok {n : Nat} (iE : ∀ e c, cE C n e = some c → PE X e (wE S F W c)) {q : Pos} {t e : Expr} {c : Sx} (h : cAsg1 C n t e = some c) : PS X (.Assign [t] e q) (wS S F W c) := by
  cases t with
  | Name x p =>
    obtain ⟨hc, h⟩ := if_some h
    obtain ⟨i, e', h1, h2, rfl⟩ := two_some (f := Sx.asg) h
    exact set_ok O M hc h1 (iE e e' h2)
  | Subscript o i p =>
    obtain ⟨hc, h⟩ := if_some h
    simp only [Bool.and_eq_true] at hc
    obtain ⟨o', i', e', h1, h2, h3, rfl⟩ := tri_some (f := Sx.setI) h
    exact setI_ok O M hc.1 hc.2 (iE o o' h1) (iE i i' h2) (iE e e' h3)
  | Attribute o f p =>
    obtain ⟨hc, h⟩ := if_some h
    obtain ⟨o', e', h1, h2, rfl⟩ := two_some (f := fun o e => Sx.setF o f e) h
    exact setF_ok O M hc (iE o o' h1) (iE e e' h2)
  | Tuple ts kt pt =>
    obtain ⟨u, h1, h2⟩ := bind_some h
    obtain ⟨ns, vs, h3, h4, rfl⟩ := two_some (f := Prod.mk) h1
    obtain ⟨k2, p2, rfl⟩ := tupOf_eq h4
    have one : ∀ {ts : List Expr} {x : Str × Pos} {r : List (Str × Pos)}, nms ts = some (x :: r) → ∃ (t : Expr) (ts' : List Expr), ts = .Name x.1 x.2 :: ts' ∧ nms ts' = some r := by
      intro ts x r hh
      cases ts with
      | nil => cases hh
      | cons a as =>
        obtain ⟨y, z, g1, g2, g3⟩ := two_some (f := fun a b => a :: b) hh
        cases g3
        rw [nmOf_eq g1]
        exact ⟨a, as, rfl, g2⟩
    have nil : ∀ {ts : List Expr}, nms ts = some [] → ts = [] := by
      intro ts hh
      cases ts with
      | nil => rfl
      | cons a as =>
        obtain ⟨y, z, g1, g2, g3⟩ := two_some (f := fun a b => a :: b) hh
        cases g3
    match ns, vs, h2, h3 with
    | [x, y], [a, b], h2, h3 =>
      obtain ⟨_, t1, e1, g1⟩ := one h3
      obtain ⟨_, t2, e2, g2⟩ := one g1
      rw [e1, e2, nil g2]
      exact par2_ok O M iE h2
    | [x, y, z], [a, b, d], h2, h3 =>
      obtain ⟨_, t1, e1, g1⟩ := one h3
      obtain ⟨_, t2, e2, g2⟩ := one g1
      obtain ⟨_, t3, e3, g3⟩ := one g2
      rw [e1, e2, e3, nil g3]
      exact par3_ok O M iE h2
  | _ => cases h
theorem cS_ok : ∀ (n : Nat) (st : Stmt) (c : Sx), cS C n st = some c → PS X st (wS S F W c) := by
  intro n
  induction n with
  | zero => intro st c h; cases h
  | succ n ih =>
    intro st c h
    obtain ⟨iE, iO, iT⟩ := cE_ok O M n
    cases st with
    | Assign ts e q =>
      change cAsg C n ts e = some c at h
      cases ts with
      | nil => cases h
      | cons t ts =>
        cases ts with
        | nil => exact asg1_ok O M iE h
        | cons t2 ts => cases h
    | Expr e p =>
      obtain ⟨hc, h⟩ := if_some h
      obtain ⟨e', h1, rfl⟩ := map_some (f := Sx.exp) h
      refine PS.imp (ps_expr (iE e e' h1) (swaps_no hc)) fun D σ H z => ?_
      unfold wS at z
      exact z
    | Return v p =>
      cases v with
      | some e =>
        obtain ⟨e', h1, rfl⟩ := map_some (f := Sx.ret) h
        refine PS.imp (ps_ret (iE e e' h1)) fun D σ H z => ?_
        unfold wS at z
        exact z
      | none =>
        cases h
        refine PS.imp ps_retN fun D σ H z => ?_
        unfold wS at z
        exact z
    | If t a b p =>
      obtain ⟨t', a', b', h1, h2, h3, rfl⟩ := tri_some (f := Sx.ifs) h
      refine PS.imp (ps_if (iT t t' h1) (nCS_ok O M ih h2) (nCS_ok O M ih h3)) fun D σ H z => ?_
      unfold wS at z
      exact z
    | For t it b o q =>
      obtain ⟨ho, h⟩ := if_some h
      cases o with
      | cons _ _ => cases ho
      | nil => exact for_ok O M iE (fun b' hb => nCS_ok O M ih hb) h
    | While t b o p =>
      obtain ⟨ho, h⟩ := if_some h
      cases o with
      | cons _ _ => cases ho
      | nil =>
        obtain ⟨t', b', h1, h2, rfl⟩ := two_some (f := Sx.whl) h
        refine PS.imp (ps_while O.po (iT t t' h1) (nCS_ok O M ih h2)) fun D σ H z => ?_
        unfold wS at z
        refine ⟨fun m σ H => lpW (wT S F W t') (wSs S F W b') D m σ H, z, fun m σ H z1 => ?_⟩
        cases m with
        | zero => exact z1.elim
        | succ m =>
          refine wT_mono M t' (fun kk H1 z2 => ?_) z1
          cases kk with
          | true => exact ⟨lpW (wT S F W t') (wSs S F W b') D m, fun σ' H' z3 => ⟨m, Nat.lt_succ_self m, z3⟩, z2⟩
          | false => exact z2
    | Pass p =>
      cases h
      refine PS.imp ps_pass fun D σ H z => ?_
      unfold wS at z
      exact z
    | Raise a b p =>
      cases h
      refine ⟨fun pins s σ H D I z => ?_⟩
      unfold wS at z
      exact z.elim
    | _ => cases h
end
end QL
set_option Elab.async false
set_option linter.all false
set_option maxRecDepth 100000
set_option maxHeartbeats 4000000
/-! Q12: defs by levels, and the end of a law. -/
namespace QL
open PySem PySem.Spec L2
open PyProof.Rows hiding St
structure FnI where
  N : List Str
  np : Nat
  body : Sxs
/-- what the defs do, calls nested at most so deep -/
def sem (S : Stat) (T : Str → Option FnI) : Nat → Sm
  | 0 => ⟨fun _ _ _ _ _ => False⟩
  | n + 1 => ⟨fun f vs H Q E => match T f with
    | some fi => vs.length = fi.np ∧ wSs S (sem S T n) (fun c d _ H' => E c d H') fi.body { nx := fun _ H' => Q .non H', rt := Q } (L2.start fi.N vs) H
    | none => False⟩
theorem sem_mono (S : Stat) (T : Str → Option FnI) : ∀ n, SmMono (sem S T n)
  | 0 => fun _ _ _ _ _ _ _ _ _ h => h.elim
  | n + 1 => fun f vs H Q Q' E E' q e h => by
    unfold sem at h ⊢
    simp only at h ⊢
    split at h
    · refine ⟨h.1, wSs_mono (sem_mono S T n) (W := fun c d _ H' => E c d H') (fun c d σ H' z => e c d H' z) _ _ _ _ _ ?_ h.2⟩
      exact ⟨fun _ H' z => q _ _ z, q, fun _ _ z => z, fun _ _ z => z⟩
    · exact h.elim
/-- a def of the text, turned -/
structure Def1 (K : PySem.W.Frag) (mg : Str → Option Value) (gl : Str → Gk) (x : Str) (fi : FnI) (st : Stmt) (f : Addr) (fd : FuncData) (ps : List Str) : Prop where
  fn : Fun K x x st f fd
  mg : mg x = some (.ref f)
  sc : FnScope fi.N ps (defScope st)
  np : ps.length = fi.np
  tr : nCS (cS ⟨fi.N, defScope st, gl⟩ 60) (defBody st) = some fi.body
  bd : Binds K fd ps []
  nm : (x == ("__debug__" : Str)) = false
/-- what a name of the module is -/
def Fact (K : PySem.W.Frag) (mg : Str → Option Value) (S : Stat) (T : Str → Option FnI) (gl : Str → Gk) (x : Str) : Gk → Prop
  | .fn => ∃ fi st f fd ps, T x = some fi ∧ Def1 K mg gl x fi st f fd ps
  | .cst => ∀ v, S.gv x = some v → ∃ u, mg x = some u ∧ RelV v u
  | .bi b => x = biN b ∧ mg x = none
  | .isi => x = "isinstance" ∧ mg x = none
  | .no => True
def AllF (f : Str → Gk → Prop) : List (Str × Gk) → Prop
  | [] => True
  | (x, g) :: r => f x g ∧ AllF f r
theorem AllF.at {f : Str → Gk → Prop} {x : Str} {g : Gk} : ∀ {l : List (Str × Gk)}, AllF f l → l.lookup x = some g → f x g
  | [], _, h => by cases h
  | (y, k) :: r, a, h => by
    rw [List.lookup_cons] at h
    split at h
    · rename_i e
      cases h
      have : x = y := by simpa using e
      rw [this]
      exact a.1
    · exact a.2.at h
/-- the module behind the top -/
structure Top (K : PySem.W.Frag) (mg : Str → Option Value) (S : Stat) (T : Str → Option FnI) (gl : Str → Gk) : Prop where
  so : SoOk K S.so
  fl : ∀ C f, S.fl C f → Cls K C ∧ NoAttr K C f
  at_ : ∀ x, Fact K mg S T gl x (gl x)
  rng : gl "range" = .no → mg "range" = none
section
variable {P : Program} {w : World} {K : PySem.W.Frag} {mg : Str → Option Value} {base : Heap} {S : Stat} {T : Str → Option FnI} {gl : Str → Gk}
theorem Top.fng (G : Top K mg S T gl) : ∀ (n : Nat) (x : Str) (fi : FnI) (st : Stmt) (f : Addr) (fd : FuncData) (ps : List Str), T x = some fi → Def1 K mg gl x fi st f fd ps → FnG P w K mg base n f fd ps ((sem S T n).fn x)
  | 0, x, fi, st, f, fd, ps, hx, D => ⟨fun _ _ _ _ z => z.elim, fun _ _ _ _ _ _ _ _ _ _ _ _ _ _ z => z.elim⟩
  | n + 1, x, fi, st, f, fd, ps, hx, D => by
    obtain ⟨oc, od, kV, doc, pm, an, cdv, ct, osl, rfl, lk, hcd⟩ := D.fn.ex
    have len : ∀ vs H Q E, (sem S T (n + 1)).fn x vs H Q E → vs.length = ps.length := fun vs H Q E z => by
      unfold sem at z
      simp only [hx] at z
      rw [D.np]
      exact z.1
    refine fng_of lk hcd D.sc len fun A outer s H vs Q E hg hr z => ?_
    unfold sem at z
    simp only [hx] at z
    have GO : GOk P w K mg base S (sem S T n) n gl := ⟨G.so, G.fl, fun y hy => by
        have q := G.at_ y
        rw [hy] at q
        obtain ⟨fi', st', f', fd', ps', h1, h2⟩ := q
        exact ⟨f', fd', ps', h2.nm, h2.mg, h2.fn.kp, Top.fng G n y fi' st' f' fd' ps' h1 h2, h2.bd⟩,
      fun y v hy => by
        have q := G.at_ y
        rw [hy] at q
        exact q v,
      fun y b hy => by
        have q := G.at_ y
        rw [hy] at q
        exact q,
      fun y hy => by
        have q := G.at_ y
        rw [hy] at q
        exact q, G.rng⟩
    have O : Ok (cxOf (L2.CX P w) P w K mg base fi.N x (defScope st) f cdv A outer s H E) S (sem S T n) n ⟨fi.N, defScope st, gl⟩ (fun c d _ H' => E c d H') :=
      ⟨GO, rfl, D.sc.nd, rfl, rfl, hg, hr, takes_of rfl rfl rfl rfl, D.sc.kind, passes_of rfl, fun _ _ => rfl⟩
    exact ⟨_, nCS_ok O (sem_mono S T n) (cS_ok O (sem_mono S T n) 60) D.tr, z.2⟩
end
/-! ### the end of a law -/
theorem ints_vals : ∀ {vs : List Value} {ns : List Int}, IntsAre vs ns → Vals (ns.map V.int) vs
  | _, _, .nil => .nil
  | _, _, .cons n t h => .cons ⟨t, rfl⟩ (ints_vals h)
section
variable {P : Program} {w : World} {K : PySem.W.Frag} {mg mb : Str → Option Value} {k : Nat} {fa a : Addr} {fd : FuncData} {x : Str} {sp : Sp} {s1 : Shared} {vs : List Value} {ns : List Int}
/-- the law's def called with the script, over one abstract heap that tracks at most the script -/
theorem law_at (KX : K.In s1.heap) (hns : s1.heap.Ns mainGlobals mg) (hb : s1.heap.Ns builtinsNs mb) (hbb : ∀ x : Str, x ≠ "__name__" → mb x = bootBuiltins x) (hlim : s1.heap.NoLimit) (hg : s1.gens = #[])
    (ha : s1.heap.get? a = some { cls := .type "list", data := .seq vs.toArray }) (hr : Room k callerA)
    (F : ∀ base : Heap, K.In base → base.Ns mainGlobals mg → FnG P w K mg base k fa fd [x] sp) (hbind : ∀ (s : Shared) (u : Value), BindsTo s fd ⟨[u], []⟩ [(x, u)])
    (H : Hp) (hA : ∀ b, H b ≠ none → b = a ∧ ∃ o u, H b = some (.frz o u)) (hK : H a ≠ none → K.lookup a = none) (hok : HOk P w H s1.heap) (hsp : sp [.ref a] H (fun v _ => v = .bl true) fun _ _ _ => False) :
    codeAny (model P w) callerA (.call (.ref fa) ⟨[.ref a], []⟩) (fun r s' => r = .ok (.ret (.bool true)) ∧ OldK s1.heap s'.heap ∧ s'.os = s1.os ∧ AllBare s'.gens) s1 := by
  have ns' : ∀ {b : Addr} {m : Str → Option Value}, s1.heap.Ns b m → (hidT s1.heap H).Ns b m := by
    rintro b m ⟨o, es, ep, e, d, r⟩
    refine ⟨o, es, ep, hidT_get e ?_, d, r⟩
    cases q : H b with
    | none => rfl
    | some u =>
      obtain ⟨rfl, _⟩ := hA b (by rw [q]; simp)
      rw [ha] at e
      cases e
      cases d
  have kIn : K.In (hidT s1.heap H) := fun b o e => hidT_get (KX b o e) (by
    cases q : H b with
    | none => rfl
    | some u =>
      obtain ⟨rfl, _⟩ := hA b (by rw [q]; simp)
      rw [hK (by rw [q]; simp)] at e
      cases e)
  have hM : Mod K mg (hidT s1.heap H) := ⟨kIn, ns' hns, ⟨mb, ns' hb, hbb⟩, let ⟨mc, h1, h2⟩ := hlim; ⟨mc, ns' h1, h2⟩⟩
  have e0 : Env0 P w K mg (hidT s1.heap H) callerA [] s1 H := ⟨rfl, hM, fun b o e => of_hidT e, Nat.le_of_eq (hidT_size _ _), trivial, (fun b hb => by cases hb), hok, .of_eq hg⟩
  refine codeAny_mono ((F _ kIn (ns' hns)).run callerA [] s1 H ⟨[.ref a], []⟩ [.ref a] [.ref a] _ _ rfl hr e0 (hbind s1 (.ref a)) (.cons rfl .nil) hsp) fun r s' h => ?_
  match r, h with
  | .error e, h =>
    obtain ⟨_, _, _, _, _, _, _, _, _, _, _, _, z⟩ := h
    exact z.elim
  | .ok .next, h => exact h.elim
  | .ok .brk, h => exact h.elim
  | .ok .cont, h => exact h.elim
  | .ok (.ret u), ⟨v, H', os, bare, un, hok', r', q⟩ =>
    have q : v = .bl true := q
    subst q
    obtain rfl : u = Value.bool true := r'
    refine ⟨rfl, OldK.of_keep fun b o e => ?_, os, bare⟩
    cases q : H b with
    | none => exact un.keep b o e q (by intro z; cases z) (by simp)
    | some u =>
      obtain ⟨_, ob, u', z⟩ := hA b (by rw [q]; simp)
      obtain ⟨e1, _⟩ := hok b _ z
      obtain ⟨e2, _⟩ := hok' b _ (un.frzs b ob _ z)
      rw [e] at e1
      cases e1
      exact e2
/-- what so0 tells, so tells -/
def SoLe (so0 so : Addr → Option HO) : Prop := ∀ b xs, so0 b = some (.tup xs) → so b = some (.tup xs)
theorem law_end {so0 : Addr → Option HO} {sp : (Addr → Option HO) → Sp} (S0 : SoOk K so0) (KX : K.In s1.heap) (hns : s1.heap.Ns mainGlobals mg) (hb : s1.heap.Ns builtinsNs mb) (hbb : ∀ x : Str, x ≠ "__name__" → mb x = bootBuiltins x) (hlim : s1.heap.NoLimit) (hg : s1.gens = #[])
    (ha : s1.heap.get? a = some { cls := .type "list", data := .seq vs.toArray }) (hi : IntsAre vs ns) (hl : ns.length ≤ sizeLine) (hr : Room k callerA)
    (F : ∀ so, SoOk K so → SoLe so0 so → ∀ base : Heap, K.In base → base.Ns mainGlobals mg → FnG P w K mg base k fa fd [x] (sp so)) (hbind : ∀ (s : Shared) (u : Value), BindsTo s fd ⟨[u], []⟩ [(x, u)])
    (hsp : ∀ (so : Addr → Option HO) (H : Hp), SoLe so0 so → rd so H a = some (.lst (ns.map V.int)) → (∀ b, b ≠ a → H b = none) → (∀ o, H a = some o → ∃ x u, o = .frz x u) → sp so [.ref a] H (fun v _ => v = .bl true) fun _ _ _ => False) :
    codeAny (model P w) callerA (.call (.ref fa) ⟨[.ref a], []⟩) (fun r s' => r = .ok (.ret (.bool true)) ∧ OldK s1.heap s'.heap ∧ s'.os = s1.os ∧ AllBare s'.gens) s1 := by
  have rv := ints_vals hi
  have lenV := hi.length
  cases hk : K.lookup a with
  | some o =>
    have e := KX a o hk
    rw [ha] at e
    cases e
    have S1 : SoOk K (fun b => if b = a then some (.lst (ns.map V.int)) else so0 b) := fun b u h => by
      by_cases q : b = a
      · have h' := (if_pos q).symm.trans h
        cases h'
        subst q
        exact ⟨_, vs.toArray, _, hk, rfl, rfl, rfl, by rw [List.size_toArray, lenV]; exact hl, by simpa using rv⟩
      · have h' : so0 b = some u := (if_neg q).symm.trans h
        exact S0 b u h'
    have L1 : SoLe so0 (fun b => if b = a then some (.lst (ns.map V.int)) else so0 b) := fun b xs h => by
      by_cases q : b = a
      · subst q
        obtain ⟨o, its, n, h1, h2, _⟩ := S0 b _ h
        rw [hk] at h1
        cases h1
        have h2' : Value.type "list" = Value.type "tuple" := h2
        injection h2' with h2'
        exact absurd h2' (by decide)
      · show (if b = a then _ else _) = _
        rw [if_neg q]
        exact h
    refine law_at (sp := sp _) KX hns hb hbb hlim hg ha hr (F _ S1 L1) hbind (fun _ => none) (fun b h => absurd rfl h) (fun h => absurd rfl h) (fun b o h => by cases h) (hsp _ _ L1 ?_ (fun b _ => rfl) fun o h => by cases h)
    show (if a = a then _ else _) = _
    rw [if_pos rfl]
  | none =>
    refine law_at (sp := sp so0) KX hns hb hbb hlim hg ha hr (F so0 S0 fun b xs h => h) hbind (fun b => if b = a then some (.frz { cls := .type "list", data := .seq vs.toArray } (.lst (ns.map V.int))) else none) ?_ (fun _ => hk) ?_ (hsp so0 _ (fun b xs h => h) ?_ (fun b hb => if_neg hb) ?_)
    · intro b h
      by_cases e : b = a
      · exact ⟨e, _, _, if_pos e⟩
      · exact absurd (if_neg e) h
    · intro b o h
      by_cases e : b = a
      · have h' := (if_pos e).symm.trans h
        cases h'
        subst e
        exact ⟨ha, by rw [List.length_map]; exact hl, vs, _, rv, ha⟩
      · have h' := (if_neg e).symm.trans h
        cases h'
    · unfold rd
      simp
    · intro o h
      have h' := (if_pos rfl).symm.trans h
      cases h'
      exact ⟨_, _, rfl⟩
end
/-- the goal that the head leaves, from the promise of the law's def -/
theorem walk_g {l : PySem.W.OpenLaw} {n k : Nat} {q : Program} {loose : List Str} {XP : (Str → Option Value) → Heap → Prop} {YP : World → Heap → Prop} {d : DefRec} {K : Params → PySem.W.Frag} {x : Str}
    (hn : l.most = some n) (hn2 : n ≤ sizeLine) (hdf : d.params.defaults = []) (hr : Room k callerA) (hY : ∀ (w : World) (h : Heap), YP w h → (K w.params).In h)
    (F : ∀ (w : World) (mg : Str → Option Value) (fa : Addr) (h : Heap), (K w.params).In h → h.Ns mainGlobals mg → mg d.name = some (.ref fa) →
      ∃ (so0 : Addr → Option HO) (sp : (Addr → Option HO) → Sp) (fd : FuncData), SoOk (K w.params) so0 ∧ (∀ (s : Shared) (u : Value), BindsTo s fd ⟨[u], []⟩ [(x, u)]) ∧
        (∀ so, SoOk (K w.params) so → SoLe so0 so → ∀ base : Heap, (K w.params).In base → base.Ns mainGlobals mg → FnG l.prog w (K w.params) mg base k fa fd [x] (sp so)) ∧
        ∀ (a : Addr) (ns : List Int) (so : Addr → Option HO) (H : Hp), ns.length ≤ n → SoLe so0 so → rd so H a = some (.lst (ns.map V.int)) → (∀ b, b ≠ a → H b = none) → (∀ o, H a = some o → ∃ x u, o = .frz x u) → sp so [.ref a] H (fun v _ => v = .bl true) fun _ _ _ => False) :
    PySem.W.WalkO q loose XP YP l.row.toRowW d [] (fun f vs => PySem.call f vs) := by
  refine Att.attach_call hn hdf fun w s₀ s₁ mg mb fa o pm cd doc a vs ns G Y ho hd hcd hmg hobj hints hlen hg => ?_
  have KX := hY w _ Y
  obtain ⟨so0, sp, fd, S0, hb, hF, hs⟩ := F w mg fa _ KX G.T.g hmg
  exact law_end S0 KX G.T.g G.T.b G.T.builtins G.T.nolimit hg hobj hints (Nat.le_trans hlen hn2) hr hF hb fun so H h1 h2 h3 h4 => hs a ns so H hlen h1 h2 h3 h4
end QL
set_option Elab.async false
set_option linter.all false
set_option maxRecDepth 100000
set_option maxHeartbeats 4000000
/-! Q13: heaps that grow, loops by what holds between two turns. -/
namespace QL
open PySem PySem.Spec
open L2 hiding wE wT
open PyProof.Rows hiding St
/-- all that was tracked stays, nothing written is tracked -/
structure Ext (so : Addr → Option HO) (H H' : Hp) : Prop where
  keep : ∀ b o, H b = some o → H' b = some o
  no : ∀ b, H b = none → so b ≠ none → H' b = none
section
variable {so : Addr → Option HO} {H H1 H2 : Hp}
theorem Ext.refl : Ext so H H := ⟨fun _ _ h => h, fun _ h _ => h⟩
theorem Ext.trans (a : Ext so H H1) (b : Ext so H1 H2) : Ext so H H2 := ⟨fun c o h => b.keep c o (a.keep c o h), fun c h s => b.no c (a.no c h s) s⟩
theorem Ext.new {p : Addr} {o : HO} (hp : H p = none) (hs : so p = none) : Ext so H (upd H p o) :=
  ⟨fun b u h => by rw [upd_ne (ne_of_none h hp)]; exact h, fun b h s => by
    have : b ≠ p := fun e => s (by rw [e]; exact hs)
    rw [upd_ne this]
    exact h⟩
/-- a new thing, changed -/
theorem Ext.chg {p : Addr} {o : HO} (e : Ext so H H1) (hp : H p = none) (hs : so p = none) : Ext so H (upd H1 p o) :=
  ⟨fun b u h => by rw [upd_ne (ne_of_none h hp)]; exact e.keep b u h, fun b h s => by
    have : b ≠ p := fun q => s (by rw [q]; exact hs)
    rw [upd_ne this]
    exact e.no b h s⟩
theorem Ext.rd {a : Addr} {o : HO} (e : Ext so H H1) (h : rd so H a = some o) : rd so H1 a = some o := by
  unfold QL.rd at h ⊢
  cases q : H a with
  | none =>
    rw [q] at h
    have h : so a = some o := h
    rw [e.no a q (by rw [h]; simp)]
    exact h
  | some u =>
    rw [q] at h
    rw [e.keep a u q]
    exact h
theorem rd_here {a : Addr} {xs : List V} (h : H a = some (.lst xs)) : rd so H a = some (.lst xs) := by
  unfold rd
  rw [h]
theorem rd_hereT {a : Addr} {xs : List V} (h : H a = some (.tup xs)) : rd so H a = some (.tup xs) := by
  unfold rd
  rw [h]
theorem rd_new {a : Addr} {xs : List V} : rd so (upd H a (.lst xs)) a = some (.lst xs) := rd_here upd_same
theorem rd_newT {a : Addr} {xs : List V} : rd so (upd H a (.tup xs)) a = some (.tup xs) := rd_hereT upd_same
end
/-- the callers' view: D reached by a weaker one -/
theorem lpR_inv {g : TG} {tb : TS} {D : Ends} (m : TSle tb tb) {i0 : Nat} (hg : g = gName i0) (Pv : Int → St → Hp → Prop) : ∀ (n : Nat) (lo : Int) (σ : St) (H : Hp), Pv lo σ H →
    (∀ i σ H, lo ≤ i → i < lo + n → Pv i σ H → tb { D with nx := Pv (i + 1), ct := Pv (i + 1), bk := D.nx } (σ.set i0 (some (.int i))) H) → (∀ σ H, Pv (lo + n) σ H → D.nx σ H) → lpR g tb D n lo σ H
  | 0, lo, σ, H, h0, hs, hd => hd σ H (by simpa using h0)
  | n + 1, lo, σ, H, h0, hs, hd => by
    subst hg
    have ih : ∀ σ H, Pv (lo + 1) σ H → lpR (gName i0) tb D n (lo + 1) σ H := fun σ' H' h =>
      lpR_inv m rfl Pv n (lo + 1) σ' H' h (fun i σ H h1 h2 h3 => hs i σ H (by omega) (by push_cast at h2 ⊢; omega) h3) (fun σ H h => hd σ H (by
        have : lo + ((n + 1 : Nat) : Int) = lo + 1 + n := by push_cast; omega
        rw [this]
        exact h))
    refine m _ _ _ _ ?_ (hs lo σ H (Int.le_refl _) (by push_cast; omega) h0)
    exact ⟨ih, fun _ _ z => z, fun _ _ z => z, ih⟩
theorem sem_le {S : Stat} {T : Str → Option FnI} {n : Nat} {W : WX} (b : Sxs) : TSle (wSs S (sem S T n) W b) (wSs S (sem S T n) W b) := wSs_mono (sem_mono S T n) (fun _ _ _ _ z => z) b
end QL
set_option Elab.async false
set_option linter.all false
set_option maxRecDepth 100000
set_option maxHeartbeats 4000000
/-! Q14: one step at a time (the terms of wE, wT, wA, wS, from the outside). -/
namespace QL
open PySem PySem.Spec
open L2 hiding wE wT
open PyProof.Rows hiding St
section
variable {S : Stat} {F : Sm} {W : WX}
theorem s_lit {σ : St} {H : Hp} {Q : VK} {v : V} (h : Q v H) : wE S F W (.lit v) σ H Q := by
  unfold wE; exact h
theorem s_var {σ : St} {H : Hp} {Q : VK} {i : Nat} {v : V} (e : σ[i]? = some (some v)) (h : Q v H) : wE S F W (.var i) σ H Q := by
  unfold wE; rw [e]; exact h
theorem s_cst {σ : St} {H : Hp} {Q : VK} {x : Str} {v : V} (e : S.gv x = some v) (h : Q v H) : wE S F W (.cst x) σ H Q := by
  unfold wE; rw [e]; exact h
theorem s_op {σ : St} {H : Hp} {Q : VK} {o : Operator} {a b : Ex} (h : wE S F W a σ H fun x H1 => wE S F W b σ H1 fun y H2 => opV S.so o x y H2 Q) : wE S F W (.op o a b) σ H Q := by
  unfold wE; exact h
theorem s_neg {σ : St} {H : Hp} {Q : VK} {a : Ex} (h : wE S F W a σ H fun x H1 => intK x fun i => Q (.int (-i)) H1) : wE S F W (.neg a) σ H Q := by
  unfold wE; exact h
theorem s_cmp {σ : St} {H : Hp} {Q : VK} {o : CmpOp} {a b : Ex} (h : wE S F W a σ H fun x H1 => wE S F W b σ H1 fun y H2 => cmpV S.so o x y H2 Q) : wE S F W (.cmp o a b) σ H Q := by
  unfold wE; exact h
theorem s_chn {σ : St} {H : Hp} {Q : VK} {o o' : CmpOp} {a b c : Ex} (h : wE S F W a σ H fun x H1 => wE S F W b σ H1 fun y H2 => cmpV S.so o x y H2 (boolV fun k H3 => if k = true then wE S F W c σ H3 fun z H4 => cmpV S.so o' y z H4 Q else Q (.bl false) H3)) : wE S F W (.chn o o' a b c) σ H Q := by
  unfold wE; exact h
theorem s_and {σ : St} {H : Hp} {Q : VK} {a b : Ex} (h : wE S F W a σ H fun x H1 => truK S.so x H1 fun k => if k = true then wE S F W b σ H1 Q else Q x H1) : wE S F W (.and a b) σ H Q := by
  unfold wE; exact h
theorem s_or {σ : St} {H : Hp} {Q : VK} {a b : Ex} (h : wE S F W a σ H fun x H1 => truK S.so x H1 fun k => if k = true then Q x H1 else wE S F W b σ H1 Q) : wE S F W (.or a b) σ H Q := by
  unfold wE; exact h
theorem s_not {σ : St} {H : Hp} {Q : VK} {a : Ex} (h : wE S F W a σ H fun x H1 => truK S.so x H1 fun k => Q (.bl (!k)) H1) : wE S F W (.not a) σ H Q := by
  unfold wE; exact h
theorem s_ite {σ : St} {H : Hp} {Q : VK} {t : Te} {a b : Ex} (h : wT S F W t σ H fun k H1 => if k = true then wE S F W a σ H1 Q else wE S F W b σ H1 Q) : wE S F W (.ite t a b) σ H Q := by
  unfold wE; exact h
theorem s_fld {σ : St} {H : Hp} {Q : VK} {o : Ex} {f : Str} (h : wE S F W o σ H fun x H1 => fldV S f x H1 Q) : wE S F W (.fld o f) σ H Q := by
  unfold wE; exact h
theorem s_idx {σ : St} {H : Hp} {Q : VK} {o i : Ex} (h : wE S F W o σ H fun x H1 => wE S F W i σ H1 fun y H2 => idxV S.so x y H2 Q) : wE S F W (.idx o i) σ H Q := by
  unfold wE; exact h
theorem s_slc {σ : St} {H : Hp} {Q : VK} {o : Ex} {lo hi : Ox} (h : wE S F W o σ H fun x H1 => wO S F W lo σ H1 fun a H2 => wO S F W hi σ H2 fun b H3 => slcV S.so x a b H3 Q) : wE S F W (.slc o lo hi) σ H Q := by
  unfold wE; exact h
theorem s_lst {σ : St} {H : Hp} {Q : VK} {es : Exs} (h : wA S F W es σ H fun xs H1 => xs.length ≤ sizeLine ∧ ∀ p, H1 p = none → S.so p = none → Q (.ref p) (upd H1 p (.lst xs))) : wE S F W (.lst es) σ H Q := by
  unfold wE; exact h
theorem s_tup {σ : St} {H : Hp} {Q : VK} {es : Exs} (h : wA S F W es σ H fun xs H1 => xs.length ≤ sizeLine ∧ ∀ p, H1 p = none → S.so p = none → Q (.ref p) (upd H1 p (.tup xs))) : wE S F W (.tup es) σ H Q := by
  unfold wE; exact h
theorem s_fn {σ : St} {H : Hp} {Q : VK} {f : Str} {es : Exs} (h : wA S F W es σ H fun vs H1 => F.fn f vs H1 Q (fun c d H' => W c d σ H')) : wE S F W (.fn f es) σ H Q := by
  unfold wE; exact h
theorem s_bi {σ : St} {H : Hp} {Q : VK} {b : Bi} {es : Exs} (h : wA S F W es σ H fun vs H1 => biV S.so b vs H1 Q) : wE S F W (.bi b es) σ H Q := by
  unfold wE; exact h
theorem s_isi {σ : St} {H : Hp} {Q : VK} {a : Ex} {T : Bt} (h : wE S F W a σ H fun x H1 => btK S.so T x H1 fun k => Q (.bl k) H1) : wE S F W (.isi a T) σ H Q := by
  unfold wE; exact h
theorem s_nil {σ : St} {H : Hp} {Q : List V → Hp → Prop} (h : Q [] H) : wA S F W .nil σ H Q := by
  unfold wA; exact h
theorem s_cons {σ : St} {H : Hp} {Q : List V → Hp → Prop} {a : Ex} {es : Exs} (h : wE S F W a σ H fun x H1 => wA S F W es σ H1 fun xs H2 => Q (x :: xs) H2) : wA S F W (.cons a es) σ H Q := by
  unfold wA; exact h
theorem s_ono {σ : St} {H : Hp} {Q : Option Int → Hp → Prop} (h : Q none H) : wO S F W .none σ H Q := by
  unfold wO; exact h
theorem s_osome {σ : St} {H : Hp} {Q : Option Int → Hp → Prop} {a : Ex} (h : wE S F W a σ H fun x H1 => intK x fun i => Q (some i) H1) : wO S F W (.some a) σ H Q := by
  unfold wO; exact h
theorem t_val {σ : St} {H : Hp} {Q : Bool → Hp → Prop} {a : Ex} (h : wE S F W a σ H fun x H1 => truK S.so x H1 fun k => Q k H1) : wT S F W (.val a) σ H Q := by
  unfold wT; exact h
theorem t_cmp {σ : St} {H : Hp} {Q : Bool → Hp → Prop} {o : CmpOp} {a b : Ex} (h : wE S F W a σ H fun x H1 => wE S F W b σ H1 fun y H2 => cmpV S.so o x y H2 (boolV Q)) : wT S F W (.cmp o a b) σ H Q := by
  unfold wT; exact h
theorem t_chn {σ : St} {H : Hp} {Q : Bool → Hp → Prop} {o o' : CmpOp} {a b c : Ex} (h : wE S F W a σ H fun x H1 => wE S F W b σ H1 fun y H2 => cmpV S.so o x y H2 (boolV fun k H3 => if k = true then wE S F W c σ H3 fun z H4 => cmpV S.so o' y z H4 (boolV Q) else Q false H3)) : wT S F W (.chn o o' a b c) σ H Q := by
  unfold wT; exact h
theorem t_and {σ : St} {H : Hp} {Q : Bool → Hp → Prop} {a b : Te} (h : wT S F W a σ H fun k H1 => if k = true then wT S F W b σ H1 Q else Q false H1) : wT S F W (.and a b) σ H Q := by
  unfold wT; exact h
theorem t_or {σ : St} {H : Hp} {Q : Bool → Hp → Prop} {a b : Te} (h : wT S F W a σ H fun k H1 => if k = true then Q true H1 else wT S F W b σ H1 Q) : wT S F W (.or a b) σ H Q := by
  unfold wT; exact h
theorem t_not {σ : St} {H : Hp} {Q : Bool → Hp → Prop} {a : Te} (h : wT S F W a σ H fun k H1 => Q (!k) H1) : wT S F W (.not a) σ H Q := by
  unfold wT; exact h
theorem d_asg {D : Ends} {σ : St} {H : Hp} {i : Nat} {a : Ex} (h : wE S F W a σ H fun x H1 => D.nx (σ.set i (some x)) H1) : wS S F W (.asg i a) D σ H := by
  unfold wS; exact h
theorem d_setI {D : Ends} {σ : St} {H : Hp} {o i a : Ex} (h : wE S F W a σ H fun x H1 => wE S F W o σ H1 fun y H2 => wE S F W i σ H2 fun z H3 => setV y z x H3 fun H4 => D.nx σ H4) : wS S F W (.setI o i a) D σ H := by
  unfold wS; exact h
theorem d_setF {D : Ends} {σ : St} {H : Hp} {o a : Ex} {f : Str} (h : wE S F W a σ H fun y H1 => wE S F W o σ H1 fun x H2 => setFV S f x y H2 fun H3 => D.nx σ H3) : wS S F W (.setF o f a) D σ H := by
  unfold wS; exact h
theorem d_par {D : Ends} {σ : St} {H : Hp} {is : List Nat} {es : Exs} (h : wA S F W es σ H fun vs H1 => parK (setL is vs σ) fun σ' => D.nx σ' H1) : wS S F W (.par is es) D σ H := by
  unfold wS; exact h
theorem d_exp {D : Ends} {σ : St} {H : Hp} {a : Ex} (h : wE S F W a σ H fun _ H1 => D.nx σ H1) : wS S F W (.exp a) D σ H := by
  unfold wS; exact h
theorem d_ret {D : Ends} {σ : St} {H : Hp} {a : Ex} (h : wE S F W a σ H D.rt) : wS S F W (.ret a) D σ H := by
  unfold wS; exact h
theorem d_retN {D : Ends} {σ : St} {H : Hp}  (h : D.rt .non H) : wS S F W .retN D σ H := by
  unfold wS; exact h
theorem d_ifs {D : Ends} {σ : St} {H : Hp} {t : Te} {a b : Sxs} (h : wT S F W t σ H fun k H1 => if k = true then wSs S F W a D σ H1 else wSs S F W b D σ H1) : wS S F W (.ifs t a b) D σ H := by
  unfold wS; exact h
theorem d_rng {D : Ends} {σ : St} {H : Hp} {i : Nat} {lo hi : Ex} {b : Sxs} (h : wE S F W lo σ H fun x H1 => wE S F W hi σ H1 fun y H2 => intK x fun l => intK y fun h => lpR (gName i) (wSs S F W b) D (h - l).toNat l σ H2) : wS S F W (.rng i lo hi b) D σ H := by
  unfold wS; exact h
theorem d_forL {D : Ends} {σ : St} {H : Hp} {i : Nat} {a : Ex} {b : Sxs} (h : wE S F W a σ H fun x H1 => lstK S.so x H1 fun a xs => lpL S.so a xs (gName i) (wSs S F W b) D xs σ H1) : wS S F W (.forL i a b) D σ H := by
  unfold wS; exact h
theorem d_pass {D : Ends} {σ : St} {H : Hp}  (h : D.nx σ H) : wS S F W .pass D σ H := by
  unfold wS; exact h
theorem d_nil {D : Ends} {σ : St} {H : Hp} (h : D.nx σ H) : wSs S F W .nil D σ H := by
  unfold wSs; exact h
theorem d_cons {D : Ends} {σ : St} {H : Hp} {s : Sx} {r : Sxs} (h : wS S F W s { D with nx := wSs S F W r D } σ H) : wSs S F W (.cons s r) D σ H := by
  unfold wSs; exact h
end
section
variable {so : Addr → Option HO} {H : Hp} {Q : VK}
theorem v_add {i j : Int} (h : Q (.int (i + j)) H) : opV so .Add (.int i) (.int j) H Q := h
theorem v_addS {i j : Str} (e : i.length + j.length ≤ sizeLine) (h : Q (.str (i ++ j)) H) : opV so .Add (.str i) (.str j) H Q := ⟨e, h⟩
theorem v_addL {p q : Addr} {xs ys : List V} (hp : H p = some (.lst xs)) (hq : H q = some (.lst ys)) (e : xs.length + ys.length ≤ sizeLine) (h : ∀ r, H r = none → so r = none → Q (.ref r) (upd H r (.lst (xs ++ ys)))) : opV so .Add (.ref p) (.ref q) H Q := by
  show addV so (.ref p) (.ref q) H Q
  unfold addV
  simp only [hp, hq]
  exact ⟨e, h⟩
theorem v_sub {i j : Int} (h : Q (.int (i - j)) H) : opV so .Sub (.int i) (.int j) H Q := h
theorem v_mul {i j : Int} (e : CMul i j) (h : Q (.int (i * j)) H) : opV so .Mult (.int i) (.int j) H Q := ⟨e, h⟩
theorem v_div {i j : Int} (e : CDiv i j) (h : Q (.int (i / j)) H) : opV so .FloorDiv (.int i) (.int j) H Q := ⟨e, h⟩
theorem v_mod {i j : Int} (e : 0 < j) (h : Q (.int (i % j)) H) : opV so .Mod (.int i) (.int j) H Q := ⟨e, h⟩
theorem v_pow {i j : Int} (e : CPow i j) (h : Q (.int (i ^ j.toNat)) H) : opV so .Pow (.int i) (.int j) H Q := ⟨e, h⟩
theorem v_shl {i j : Int} (e : CPow i j) (h : Q (.int (i * 2 ^ j.toNat)) H) : opV so .LShift (.int i) (.int j) H Q := ⟨e, h⟩
theorem v_lt {i j : Int} (h : Q (.bl (decide (i < j))) H) : cmpV so .Lt (.int i) (.int j) H Q := h
theorem v_le {i j : Int} (h : Q (.bl (decide (i ≤ j))) H) : cmpV so .LtE (.int i) (.int j) H Q := h
theorem v_gt {i j : Int} (h : Q (.bl (decide (j < i))) H) : cmpV so .Gt (.int i) (.int j) H Q := h
theorem v_ge {i j : Int} (h : Q (.bl (decide (j ≤ i))) H) : cmpV so .GtE (.int i) (.int j) H Q := h
theorem bdec {i j : Int} : (i == j) = decide (i = j) := by
  by_cases e : i = j
  · subst e; simp
  · simp [e]
theorem v_eq {i j : Int} (h : Q (.bl (decide (i = j))) H) : cmpV so .Eq (.int i) (.int j) H Q := by
  show Q (.bl ((i == j) != false)) H
  rw [bdec]
  simpa using h
theorem v_ne {i j : Int} (h : Q (.bl (!decide (i = j))) H) : cmpV so .NotEq (.int i) (.int j) H Q := by
  show Q (.bl ((i == j) != true)) H
  rw [bdec]
  simpa using h
theorem v_eqS {i j : Str} (h : Q (.bl (decide (i = j))) H) : cmpV so .Eq (.str i) (.str j) H Q := by
  show Q (.bl (decide (i = j) != false)) H
  simpa using h
theorem v_neS {i j : Str} (h : Q (.bl (!decide (i = j))) H) : cmpV so .NotEq (.str i) (.str j) H Q := by
  show Q (.bl (decide (i = j) != true)) H
  simpa using h
theorem v_isB {i j : Bool} (h : Q (.bl (decide (i = j))) H) : cmpV so .Is (.bl i) (.bl j) H Q := by
  show Q (.bl (decide (i = j) != false)) H
  simpa using h
theorem v_notB {i j : Bool} (h : Q (.bl (!decide (i = j))) H) : cmpV so .IsNot (.bl i) (.bl j) H Q := by
  show Q (.bl (decide (i = j) != true)) H
  simpa using h
theorem v_isN {x : V} (h : Q (.bl (decide (x = .non))) H) : cmpV so .Is x .non H Q := by
  show isV false x .non H Q
  unfold isV
  simpa using h
theorem v_notN {x : V} (h : Q (.bl (!decide (x = .non))) H) : cmpV so .IsNot x .non H Q := by
  show isV true x .non H Q
  unfold isV
  simpa using h
theorem v_bool {B : Bool → Hp → Prop} {k : Bool} (h : B k H) : boolV B (.bl k) H := h
theorem v_trB {B : Bool → Prop} {k : Bool} (h : B k) : truK so (.bl k) H B := h
theorem v_trI {B : Bool → Prop} {i : Int} (h : B (i != 0)) : truK so (.int i) H B := h
theorem v_trN {B : Bool → Prop} (h : B false) : truK so .non H B := h
theorem v_int {B : Int → Prop} {i : Int} (h : B i) : intK (.int i) B := h
theorem v_btI {B : Bool → Prop} {i : Int} {T : Bt} (h : B (tInt T)) : btK so T (.int i) H B := h
theorem v_btB {B : Bool → Prop} {i : Bool} {T : Bt} (h : B (tBl T)) : btK so T (.bl i) H B := h
theorem v_btN {B : Bool → Prop} {T : Bt} (h : B false) : btK so T .non H B := h
theorem v_btS {B : Bool → Prop} {i : Str} {T : Bt} (h : B (tStr T)) : btK so T (.str i) H B := h
theorem v_idx {p : Addr} {xs : List V} {i : Int} {v : V} (hp : rd so H p = some (.lst xs)) (e : atI xs i = some v) (h : Q v H) : idxV so (.ref p) (.int i) H Q := by
  unfold idxV
  simp only [hp, e]
  exact h
theorem v_idxT {p : Addr} {xs : List V} {i : Int} {v : V} (hp : rd so H p = some (.tup xs)) (e : atI xs i = some v) (h : Q v H) : idxV so (.ref p) (.int i) H Q := by
  unfold idxV
  simp only [hp, e]
  exact h
theorem v_slc {p : Addr} {xs : List V} {lo hi : Option Int} (hp : rd so H p = some (.lst xs)) (h : ∀ r, H r = none → so r = none → Q (.ref r) (upd H r (.lst (cutV xs lo hi)))) : slcV so (.ref p) lo hi H Q := by
  unfold slcV lstV
  simp only [hp]
  exact h
theorem v_setL {B : Hp → Prop} {p : Addr} {xs : List V} {k : Int} {j : Nat} {v : V} (hp : H p = some (.lst xs)) (e : ixN xs.length k = some j) (h : B (upd H p (.lst (xs.set j v)))) : setV (.ref p) (.int k) v H B := by
  unfold setV
  simp only [hp, e]
  exact h
theorem v_lenL {p : Addr} {xs : List V} (hp : rd so H p = some (.lst xs)) (h : Q (.int xs.length) H) : biV so .len [.ref p] H Q := by
  show bLen so [.ref p] H Q
  unfold bLen lenV
  simp only [hp]
  exact h
theorem v_min {i j : Int} (h : Q (.int (if j < i then j else i)) H) : biV so .min [.int i, .int j] H Q := h
theorem v_max {i j : Int} (h : Q (.int (if j > i then j else i)) H) : biV so .max [.int i, .int j] H Q := h
theorem v_abs {i : Int} (h : Q (.int (if i < 0 then -i else i)) H) : biV so .abs [.int i] H Q := h
theorem v_intB {i : Bool} (h : Q (.int (if i then 1 else 0)) H) : biV so .int [.bl i] H Q := h
theorem v_intI {i : Int} (h : Q (.int i) H) : biV so .int [.int i] H Q := h
theorem v_repr {x : V} {d : PyData} (e : Dd so H x d) (h1 : d.showable = true) (h2 : d.hasDict = false) (h3 : d.depth ≤ 60) (h4 : d.shown.length ≤ sizeLine) (h : Q (.str d.shown) H) : biV so .repr [x] H Q := ⟨d, e, h1, h2, h3, h4, h⟩
theorem v_par {B : St → Prop} {σ : St} (h : B σ) : parK (some σ) B := h
theorem v_ifT {A B : Prop} (h : A) : if true = true then A else B := by rw [if_pos rfl]; exact h
theorem v_ifF {A B : Prop} (h : B) : if false = true then A else B := by rw [if_neg Bool.false_ne_true]; exact h
theorem v_dec {p A B : Prop} [Decidable p] (h1 : p → A) (h2 : ¬ p → B) : if decide p = true then A else B := by
  by_cases h : p
  · rw [if_pos (decide_eq_true h)]; exact h1 h
  · rw [if_neg (by simpa using h)]; exact h2 h
theorem v_decP {p A B : Prop} [Decidable p] (h : p) (h1 : A) : if decide p = true then A else B := v_dec (fun _ => h1) fun n => absurd h n
theorem v_decN {p A B : Prop} [Decidable p] (h : ¬ p) (h1 : B) : if decide p = true then A else B := v_dec (fun n => absurd n h) fun _ => h1
theorem v_nec {p A B : Prop} [Decidable p] (h1 : ¬ p → A) (h2 : p → B) : if (!decide p) = true then A else B := by
  by_cases h : p
  · rw [if_neg (by simpa using h)]; exact h2 h
  · rw [if_pos (by simpa using h)]; exact h1 h
theorem v_btI_int {B : Bool → Prop} {i : Int} (h : B true) : btK so .int (.int i) H B := h
theorem v_btI_bool {B : Bool → Prop} {i : Int} (h : B false) : btK so .bool (.int i) H B := h
theorem v_btI_str {B : Bool → Prop} {i : Int} (h : B false) : btK so .str (.int i) H B := h
theorem v_btI_list {B : Bool → Prop} {i : Int} (h : B false) : btK so .list (.int i) H B := h
theorem v_btI_tuple {B : Bool → Prop} {i : Int} (h : B false) : btK so .tuple (.int i) H B := h
theorem v_btB_int {B : Bool → Prop} {i : Bool} (h : B true) : btK so .int (.bl i) H B := h
theorem v_btB_bool {B : Bool → Prop} {i : Bool} (h : B true) : btK so .bool (.bl i) H B := h
theorem v_btB_str {B : Bool → Prop} {i : Bool} (h : B false) : btK so .str (.bl i) H B := h
theorem v_btB_list {B : Bool → Prop} {i : Bool} (h : B false) : btK so .list (.bl i) H B := h
theorem v_btB_tuple {B : Bool → Prop} {i : Bool} (h : B false) : btK so .tuple (.bl i) H B := h
theorem v_btS_int {B : Bool → Prop} {i : Str} (h : B false) : btK so .int (.str i) H B := h
theorem v_btS_bool {B : Bool → Prop} {i : Str} (h : B false) : btK so .bool (.str i) H B := h
theorem v_btS_str {B : Bool → Prop} {i : Str} (h : B true) : btK so .str (.str i) H B := h
theorem v_btS_list {B : Bool → Prop} {i : Str} (h : B false) : btK so .list (.str i) H B := h
theorem v_btS_tuple {B : Bool → Prop} {i : Str} (h : B false) : btK so .tuple (.str i) H B := h
theorem v_btL_int {B : Bool → Prop} {p : Addr} {xs : List V} (e : H p = some (.lst xs)) (h : B false) : btK so .int (.ref p) H B := by
  unfold btK btV
  simp only [e]
  exact h
theorem v_btL_bool {B : Bool → Prop} {p : Addr} {xs : List V} (e : H p = some (.lst xs)) (h : B false) : btK so .bool (.ref p) H B := by
  unfold btK btV
  simp only [e]
  exact h
theorem v_btL_str {B : Bool → Prop} {p : Addr} {xs : List V} (e : H p = some (.lst xs)) (h : B false) : btK so .str (.ref p) H B := by
  unfold btK btV
  simp only [e]
  exact h
theorem v_btL_list {B : Bool → Prop} {p : Addr} {xs : List V} (e : H p = some (.lst xs)) (h : B true) : btK so .list (.ref p) H B := by
  unfold btK btV
  simp only [e]
  exact h
theorem v_btL_tuple {B : Bool → Prop} {p : Addr} {xs : List V} (e : H p = some (.lst xs)) (h : B false) : btK so .tuple (.ref p) H B := by
  unfold btK btV
  simp only [e]
  exact h
theorem v_btT_int {B : Bool → Prop} {p : Addr} {xs : List V} (e : H p = some (.tup xs)) (h : B false) : btK so .int (.ref p) H B := by
  unfold btK btV
  simp only [e]
  exact h
theorem v_btT_bool {B : Bool → Prop} {p : Addr} {xs : List V} (e : H p = some (.tup xs)) (h : B false) : btK so .bool (.ref p) H B := by
  unfold btK btV
  simp only [e]
  exact h
theorem v_btT_str {B : Bool → Prop} {p : Addr} {xs : List V} (e : H p = some (.tup xs)) (h : B false) : btK so .str (.ref p) H B := by
  unfold btK btV
  simp only [e]
  exact h
theorem v_btT_list {B : Bool → Prop} {p : Addr} {xs : List V} (e : H p = some (.tup xs)) (h : B false) : btK so .list (.ref p) H B := by
  unfold btK btV
  simp only [e]
  exact h
theorem v_btT_tuple {B : Bool → Prop} {p : Addr} {xs : List V} (e : H p = some (.tup xs)) (h : B true) : btK so .tuple (.ref p) H B := by
  unfold btK btV
  simp only [e]
  exact h
theorem v_ifNT {A B : Prop} (h : B) : if (!true) = true then A else B := v_ifF h
theorem v_ifNF {A B : Prop} (h : A) : if (!false) = true then A else B := v_ifT h
end
end QL
set_option Elab.async false
set_option linter.all false
set_option maxRecDepth 100000
set_option maxHeartbeats 4000000
namespace K04
open PySem QL
open L2 hiding wE wT
def topS (i : Nat) : Stmt := PySem.Challenge.pw_quietlanes_k04_states_past_as_due.main.body.getD i (.Pass ⟨0, 0, 0, 0⟩)
def b_is_within : Sxs := (.cons (.ret (.and (.isi (.var 0) .int) (.and (.not (.isi (.var 0) .bool)) (.chn .LtE .LtE (.var 1) (.var 0) (.var 2)))))
    .nil)
def i_is_within : FnI := ⟨["thing", "least", "most"], 3, b_is_within⟩
def b_look_at_number : Sxs := (.cons (.ifs (.or (.not (.val (.isi (.var 0) .int))) (.or (.val (.isi (.var 0) .bool)) (.cmp .Lt (.var 0) (.lit (.int 0))))) (.cons .never
    .nil) .nil)
    .nil)
def i_look_at_number : FnI := ⟨["thing"], 1, b_look_at_number⟩
def b_look_at_bits : Sxs := (.cons (.ifs (.not (.val (.fn "is_within" (.cons (.var 0) (.cons (.cst "LEAST_BITS") (.cons (.cst "MOST_BITS") .nil)))))) (.cons .never
    .nil) .nil)
    .nil)
def i_look_at_bits : FnI := ⟨["thing"], 1, b_look_at_bits⟩
def b_due_of : Sxs := (.cons (.exp (.fn "look_at_number" (.cons (.var 0) .nil)))
    (.cons (.ret (.op .Add (.op .Add (.var 0) (.lit (.int 2))) (.op .Mod (.var 0) (.lit (.int 2)))))
    .nil))
def i_due_of : FnI := ⟨["number"], 1, b_due_of⟩
def b_state_of : Sxs := (.cons (.exp (.fn "look_at_number" (.cons (.var 0) .nil)))
    (.cons (.exp (.fn "look_at_bits" (.cons (.var 1) .nil)))
    (.cons (.ret (.op .Mod (.fn "due_of" (.cons (.var 0) .nil)) (.op .LShift (.lit (.int 1)) (.var 1))))
    .nil)))
def i_state_of : FnI := ⟨["number", "bits"], 2, b_state_of⟩
def b_is_past : Sxs := (.cons (.exp (.fn "look_at_number" (.cons (.var 0) .nil)))
    (.cons (.exp (.fn "look_at_bits" (.cons (.var 2) .nil)))
    (.cons (.ifs (.not (.val (.fn "is_within" (.cons (.var 1) (.cons (.lit (.int 0)) (.cons (.op .Sub (.op .LShift (.lit (.int 1)) (.var 2)) (.lit (.int 1))) .nil)))))) (.cons .never
    .nil) .nil)
    (.cons (.ret (.cmp .Lt (.op .Mod (.op .Sub (.var 0) (.var 1)) (.op .LShift (.lit (.int 1)) (.var 2))) (.op .LShift (.lit (.int 1)) (.op .Sub (.var 2) (.lit (.int 1))))))
    .nil))))
def i_is_past : FnI := ⟨["number", "state", "bits"], 3, b_is_past⟩
def b_first_wrong : Sxs := (.cons (.exp (.fn "look_at_number" (.cons (.var 0) .nil)))
    (.cons (.exp (.fn "look_at_bits" (.cons (.var 1) .nil)))
    (.cons (.ret (.op .Add (.fn "due_of" (.cons (.var 0) .nil)) (.op .LShift (.lit (.int 1)) (.op .Sub (.var 1) (.lit (.int 1))))))
    .nil)))
def i_first_wrong : FnI := ⟨["number", "bits"], 2, b_first_wrong⟩
def b_law_pool : Sxs := (.cons (.asg 2 (.idx (.op .Add (.slc (.var 0) (.some (.var 1)) (.some (.op .Add (.var 1) (.lit (.int 1))))) (.lst (.cons (.lit (.int 0)) .nil))) (.lit (.int 0))))
    (.cons (.asg 3 (.op .Mod (.op .Mult (.op .Add (.op .Add (.op .Mod (.var 2) (.lit (.int 2147483647))) (.op .Mult (.lit (.int 7919)) (.var 1))) (.lit (.int 1))) (.lit (.int 48271))) (.lit (.int 2147483629))))
    (.cons (.ret (.lst (.cons (.op .Mult (.bi .int (.cons (.cmp .GtE (.var 2) (.op .Pow (.lit (.int 10)) (.lit (.int 18)))) .nil)) (.var 2)) (.cons (.var 3) .nil))))
    .nil)))
def i_law_pool : FnI := ⟨["_law_script", "_law_k", "_law_cell", "_law_seed"], 2, b_law_pool⟩
def b_law_take : Sxs := (.cons (.ifs (.cmp .Gt (.idx (.var 0) (.lit (.int 0))) (.lit (.int 0))) (.cons (.asg 2 (.op .Mod (.idx (.var 0) (.lit (.int 0))) (.var 1)))
    (.cons (.setI (.var 0) (.lit (.int 0)) (.op .FloorDiv (.idx (.var 0) (.lit (.int 0))) (.var 1)))
    (.cons (.ret (.var 2))
    .nil))) .nil)
    (.cons (.setI (.var 0) (.lit (.int 1)) (.op .Mod (.op .Add (.op .Mult (.idx (.var 0) (.lit (.int 1))) (.lit (.int 48271))) (.lit (.int 11))) (.lit (.int 2147483647))))
    (.cons (.ret (.op .Mod (.op .FloorDiv (.op .Mod (.op .Mult (.idx (.var 0) (.lit (.int 1))) (.idx (.var 0) (.lit (.int 1)))) (.lit (.int 2147483629))) (.lit (.int 64))) (.var 1)))
    .nil)))
def i_law_take : FnI := ⟨["_law_pool_here", "_law_size", "_law_found"], 2, b_law_take⟩
def b_law_right : Sxs := (.cons (.par [3, 4, 5] (.cons (.fn "state_of" (.cons (.var 0) (.cons (.var 1) .nil))) (.cons (.fn "due_of" (.cons (.var 0) .nil)) (.cons (.fn "first_wrong" (.cons (.var 0) (.cons (.var 1) .nil))) .nil))))
    (.cons (.ifs (.cmp .NotEq (.op .Sub (.var 5) (.var 4)) (.idx (.lst (.cons (.lit (.int 4)) (.cons (.lit (.int 8)) (.cons (.lit (.int 16)) (.cons (.lit (.int 32)) (.cons (.lit (.int 64)) (.cons (.lit (.int 128)) .nil))))))) (.op .Sub (.var 1) (.lit (.int 3))))) (.cons (.ret (.lit (.bl false)))
    .nil) .nil)
    (.cons (.rng 2 (.var 0) (.var 5) (.cons (.ifs (.cmp .NotEq (.bi .repr (.cons (.fn "is_past" (.cons (.var 2) (.cons (.var 3) (.cons (.var 1) .nil)))) .nil)) (.bi .repr (.cons (.cmp .GtE (.var 2) (.var 4)) .nil))) (.cons (.ret (.lit (.bl false)))
    .nil) .nil)
    .nil))
    (.cons (.rng 2 (.var 5) (.op .Sub (.op .Add (.var 5) (.var 5)) (.var 4)) (.cons (.ifs (.cmp .IsNot (.fn "is_past" (.cons (.var 2) (.cons (.var 3) (.cons (.var 1) .nil)))) (.lit (.bl false))) (.cons (.ret (.lit (.bl false)))
    .nil) .nil)
    .nil))
    (.cons (.ret (.cmp .Is (.fn "is_past" (.cons (.op .Sub (.op .Add (.var 5) (.var 5)) (.var 4)) (.cons (.var 3) (.cons (.var 1) .nil)))) (.lit (.bl true))))
    .nil)))))
def i_law_right : FnI := ⟨["_law_number", "_law_bits", "_law_later", "_law_state", "_law_due", "_law_far"], 2, b_law_right⟩
def b_law : Sxs := (.cons (.rng 1 (.lit (.int 0)) (.bi .max (.cons (.lit (.int 2)) (.cons (.bi .min (.cons (.bi .len (.cons (.var 0) .nil)) (.cons (.lit (.int 12)) .nil))) .nil))) (.cons (.asg 2 (.fn "_law_pool" (.cons (.var 0) (.cons (.var 1) .nil))))
    (.cons (.asg 3 (.idx (.lst (.cons (.fn "_law_take" (.cons (.var 2) (.cons (.lit (.int 300)) .nil))) (.cons (.op .Add (.op .Pow (.lit (.int 10)) (.lit (.int 29))) (.fn "_law_take" (.cons (.var 2) (.cons (.lit (.int 300)) .nil)))) .nil))) (.fn "_law_take" (.cons (.var 2) (.cons (.lit (.int 2)) .nil)))))
    (.cons (.rng 4 (.lit (.int 3)) (.lit (.int 9)) (.cons (.ifs (.or (.not (.val (.fn "_law_right" (.cons (.var 3) (.cons (.var 4) .nil))))) (.not (.val (.fn "_law_right" (.cons (.op .Add (.var 3) (.lit (.int 1))) (.cons (.var 4) .nil)))))) (.cons (.ret (.lit (.bl false)))
    .nil) .nil)
    .nil))
    .nil))))
    (.cons (.ret (.lit (.bl true)))
    .nil))
def i_law : FnI := ⟨["_law_script", "_law_k", "_law_pool_here", "_law_number", "_law_bits"], 1, b_law⟩
def kinds : List (Str × Gk) := [("law", .fn), ("max", .bi .max), ("min", .bi .min), ("len", .bi .len), ("_law_right", .fn), ("_law_take", .fn), ("_law_pool", .fn), ("is_past", .fn), ("repr", .bi .repr), ("first_wrong", .fn), ("due_of", .fn), ("state_of", .fn), ("int", .bi .int), ("is_within", .fn), ("look_at_bits", .fn), ("look_at_number", .fn), ("isinstance", .isi), ("bool", .bi .bool), ("MOST_BITS", .cst), ("LEAST_BITS", .cst)]
def gl (x : Str) : Gk := (kinds.lookup x).getD .no
def tab : List (Str × FnI) := [("is_within", i_is_within), ("look_at_number", i_look_at_number), ("look_at_bits", i_look_at_bits), ("due_of", i_due_of), ("state_of", i_state_of), ("is_past", i_is_past), ("first_wrong", i_first_wrong), ("_law_pool", i_law_pool), ("_law_take", i_law_take), ("_law_right", i_law_right), ("law", i_law)]
def T (x : Str) : Option FnI := tab.lookup x
theorem t_is_within : T "is_within" = some i_is_within := by kernel_rfl
theorem u_is_within {S : Stat} {n : Nat} {H : Hp} {Q : VK} {E : XK} {a0 a1 a2 : V} (h : wSs S (sem S T n) (fun c d _ H1 => E c d H1) b_is_within { nx := fun _ H1 => Q .non H1, rt := Q } [some a0, some a1, some a2] H) : (sem S T (n + 1)).fn "is_within" [a0, a1, a2] H Q E := by
  unfold sem
  simp only [t_is_within]
  exact ⟨rfl, h⟩
theorem t_look_at_number : T "look_at_number" = some i_look_at_number := by kernel_rfl
theorem u_look_at_number {S : Stat} {n : Nat} {H : Hp} {Q : VK} {E : XK} {a0 : V} (h : wSs S (sem S T n) (fun c d _ H1 => E c d H1) b_look_at_number { nx := fun _ H1 => Q .non H1, rt := Q } [some a0] H) : (sem S T (n + 1)).fn "look_at_number" [a0] H Q E := by
  unfold sem
  simp only [t_look_at_number]
  exact ⟨rfl, h⟩
theorem t_look_at_bits : T "look_at_bits" = some i_look_at_bits := by kernel_rfl
theorem u_look_at_bits {S : Stat} {n : Nat} {H : Hp} {Q : VK} {E : XK} {a0 : V} (h : wSs S (sem S T n) (fun c d _ H1 => E c d H1) b_look_at_bits { nx := fun _ H1 => Q .non H1, rt := Q } [some a0] H) : (sem S T (n + 1)).fn "look_at_bits" [a0] H Q E := by
  unfold sem
  simp only [t_look_at_bits]
  exact ⟨rfl, h⟩
theorem t_due_of : T "due_of" = some i_due_of := by kernel_rfl
theorem u_due_of {S : Stat} {n : Nat} {H : Hp} {Q : VK} {E : XK} {a0 : V} (h : wSs S (sem S T n) (fun c d _ H1 => E c d H1) b_due_of { nx := fun _ H1 => Q .non H1, rt := Q } [some a0] H) : (sem S T (n + 1)).fn "due_of" [a0] H Q E := by
  unfold sem
  simp only [t_due_of]
  exact ⟨rfl, h⟩
theorem t_state_of : T "state_of" = some i_state_of := by kernel_rfl
theorem u_state_of {S : Stat} {n : Nat} {H : Hp} {Q : VK} {E : XK} {a0 a1 : V} (h : wSs S (sem S T n) (fun c d _ H1 => E c d H1) b_state_of { nx := fun _ H1 => Q .non H1, rt := Q } [some a0, some a1] H) : (sem S T (n + 1)).fn "state_of" [a0, a1] H Q E := by
  unfold sem
  simp only [t_state_of]
  exact ⟨rfl, h⟩
theorem t_is_past : T "is_past" = some i_is_past := by kernel_rfl
theorem u_is_past {S : Stat} {n : Nat} {H : Hp} {Q : VK} {E : XK} {a0 a1 a2 : V} (h : wSs S (sem S T n) (fun c d _ H1 => E c d H1) b_is_past { nx := fun _ H1 => Q .non H1, rt := Q } [some a0, some a1, some a2] H) : (sem S T (n + 1)).fn "is_past" [a0, a1, a2] H Q E := by
  unfold sem
  simp only [t_is_past]
  exact ⟨rfl, h⟩
theorem t_first_wrong : T "first_wrong" = some i_first_wrong := by kernel_rfl
theorem u_first_wrong {S : Stat} {n : Nat} {H : Hp} {Q : VK} {E : XK} {a0 a1 : V} (h : wSs S (sem S T n) (fun c d _ H1 => E c d H1) b_first_wrong { nx := fun _ H1 => Q .non H1, rt := Q } [some a0, some a1] H) : (sem S T (n + 1)).fn "first_wrong" [a0, a1] H Q E := by
  unfold sem
  simp only [t_first_wrong]
  exact ⟨rfl, h⟩
theorem t_law_pool : T "_law_pool" = some i_law_pool := by kernel_rfl
theorem u_law_pool {S : Stat} {n : Nat} {H : Hp} {Q : VK} {E : XK} {a0 a1 : V} (h : wSs S (sem S T n) (fun c d _ H1 => E c d H1) b_law_pool { nx := fun _ H1 => Q .non H1, rt := Q } [some a0, some a1, none, none] H) : (sem S T (n + 1)).fn "_law_pool" [a0, a1] H Q E := by
  unfold sem
  simp only [t_law_pool]
  exact ⟨rfl, h⟩
theorem t_law_take : T "_law_take" = some i_law_take := by kernel_rfl
theorem u_law_take {S : Stat} {n : Nat} {H : Hp} {Q : VK} {E : XK} {a0 a1 : V} (h : wSs S (sem S T n) (fun c d _ H1 => E c d H1) b_law_take { nx := fun _ H1 => Q .non H1, rt := Q } [some a0, some a1, none] H) : (sem S T (n + 1)).fn "_law_take" [a0, a1] H Q E := by
  unfold sem
  simp only [t_law_take]
  exact ⟨rfl, h⟩
theorem t_law_right : T "_law_right" = some i_law_right := by kernel_rfl
theorem u_law_right {S : Stat} {n : Nat} {H : Hp} {Q : VK} {E : XK} {a0 a1 : V} (h : wSs S (sem S T n) (fun c d _ H1 => E c d H1) b_law_right { nx := fun _ H1 => Q .non H1, rt := Q } [some a0, some a1, none, none, none, none] H) : (sem S T (n + 1)).fn "_law_right" [a0, a1] H Q E := by
  unfold sem
  simp only [t_law_right]
  exact ⟨rfl, h⟩
theorem t_law : T "law" = some i_law := by kernel_rfl
theorem u_law {S : Stat} {n : Nat} {H : Hp} {Q : VK} {E : XK} {a0 : V} (h : wSs S (sem S T n) (fun c d _ H1 => E c d H1) b_law { nx := fun _ H1 => Q .non H1, rt := Q } [some a0, none, none, none, none] H) : (sem S T (n + 1)).fn "law" [a0] H Q E := by
  unfold sem
  simp only [t_law]
  exact ⟨rfl, h⟩
theorem c_is_within : nCS (cS ⟨i_is_within.N, defScope (topS 5), gl⟩ 60) (defBody (topS 5)) = some i_is_within.body := by kernel_rfl
theorem c_look_at_number : nCS (cS ⟨i_look_at_number.N, defScope (topS 9), gl⟩ 60) (defBody (topS 9)) = some i_look_at_number.body := by kernel_rfl
theorem c_look_at_bits : nCS (cS ⟨i_look_at_bits.N, defScope (topS 10), gl⟩ 60) (defBody (topS 10)) = some i_look_at_bits.body := by kernel_rfl
theorem c_due_of : nCS (cS ⟨i_due_of.N, defScope (topS 11), gl⟩ 60) (defBody (topS 11)) = some i_due_of.body := by kernel_rfl
theorem c_state_of : nCS (cS ⟨i_state_of.N, defScope (topS 12), gl⟩ 60) (defBody (topS 12)) = some i_state_of.body := by kernel_rfl
theorem c_is_past : nCS (cS ⟨i_is_past.N, defScope (topS 13), gl⟩ 60) (defBody (topS 13)) = some i_is_past.body := by kernel_rfl
theorem c_first_wrong : nCS (cS ⟨i_first_wrong.N, defScope (topS 14), gl⟩ 60) (defBody (topS 14)) = some i_first_wrong.body := by kernel_rfl
theorem c_law_pool : nCS (cS ⟨i_law_pool.N, defScope (topS 16), gl⟩ 60) (defBody (topS 16)) = some i_law_pool.body := by kernel_rfl
theorem c_law_take : nCS (cS ⟨i_law_take.N, defScope (topS 17), gl⟩ 60) (defBody (topS 17)) = some i_law_take.body := by kernel_rfl
theorem c_law_right : nCS (cS ⟨i_law_right.N, defScope (topS 18), gl⟩ 60) (defBody (topS 18)) = some i_law_right.body := by kernel_rfl
theorem c_law : nCS (cS ⟨i_law.N, defScope (topS 19), gl⟩ 60) (defBody (topS 19)) = some i_law.body := by kernel_rfl
set_option Elab.async false
set_option linter.all false
set_option maxRecDepth 100000
set_option maxHeartbeats 4000000
open PySem QL
open L2 hiding wE wT
local macro_rules | `(tactic| walk_at "s") => `(tactic| repeat (with_reducible first | refine s_lit ?_ | refine s_var rfl ?_ | refine s_op ?_ | refine s_cmp ?_ | refine s_cons ?_ | refine s_nil ?_ | refine s_fn ?_ | refine s_bi ?_ | refine s_idx ?_ | refine s_fld ?_ | refine s_not ?_ | refine s_and ?_ | refine s_or ?_ | refine s_chn ?_ | refine s_ite ?_ | refine s_slc ?_ | refine s_isi ?_ | refine s_neg ?_ | refine s_lst ?_ | refine s_tup ?_ | refine s_ono ?_ | refine s_osome ?_ | refine t_val ?_ | refine t_cmp ?_ | refine t_chn ?_ | refine t_and ?_ | refine t_or ?_ | refine t_not ?_ | refine d_cons ?_ | refine d_nil ?_ | refine d_asg ?_ | refine d_setI ?_ | refine d_setF ?_ | refine d_par ?_ | refine d_exp ?_ | refine d_ret ?_ | refine d_retN ?_ | refine d_ifs ?_ | refine d_rng ?_ | refine d_forL ?_ | refine d_pass ?_ | refine v_add ?_ | refine v_sub ?_ | refine v_lt ?_ | refine v_le ?_ | refine v_gt ?_ | refine v_ge ?_ | refine v_eq ?_ | refine v_ne ?_ | refine v_eqS ?_ | refine v_neS ?_ | refine v_isN ?_ | refine v_notN ?_ | refine v_isB ?_ | refine v_notB ?_ | refine v_bool ?_ | refine v_trB ?_ | refine v_trI ?_ | refine v_trN ?_ | refine v_int ?_ | refine v_btN ?_ | refine v_btI_int ?_ | refine v_btI_bool ?_ | refine v_btI_str ?_ | refine v_btI_list ?_ | refine v_btI_tuple ?_ | refine v_btB_int ?_ | refine v_btB_bool ?_ | refine v_btB_str ?_ | refine v_btB_list ?_ | refine v_btB_tuple ?_ | refine v_btS_int ?_ | refine v_btS_bool ?_ | refine v_btS_str ?_ | refine v_btS_list ?_ | refine v_btS_tuple ?_ | refine v_min ?_ | refine v_max ?_ | refine v_abs ?_ | refine v_intB ?_ | refine v_intI ?_ | refine v_ifT ?_ | refine v_ifF ?_ | refine v_ifNT ?_ | refine v_ifNF ?_))
section
variable {S : Stat} {n : Nat} {H : Hp} {Q : VK} {E : XK}
theorem w_is_within {t l m : Int} (h : Q (.bl (decide (l ≤ t ∧ t ≤ m))) H) : (sem S T (n + 1)).fn "is_within" [.int t, .int l, .int m] H Q E := by
  refine u_is_within ?_
  unfold b_is_within
  walk_at "s"
  refine v_dec (fun h1 => ?_) (fun h1 => ?_)
  · walk_at "s"
    simpa only [h1, true_and] using h
  · simpa only [h1, false_and, decide_false] using h
theorem w_look_at_number {i : Int} (hi : 0 ≤ i) (h : Q .non H) : (sem S T (n + 1)).fn "look_at_number" [.int i] H Q E := by
  refine u_look_at_number ?_
  unfold b_look_at_number
  walk_at "s"
  refine v_decN (by omega) ?_
  walk_at "s"
  exact h
structure Cs (S : Stat) : Prop where
  l : S.gv "LEAST_BITS" = some (.int 3)
  m : S.gv "MOST_BITS" = some (.int 8)
theorem w_look_at_bits (C : Cs S) {b : Int} (h1 : 3 ≤ b) (h2 : b ≤ 8) (h : Q .non H) : (sem S T (n + 2)).fn "look_at_bits" [.int b] H Q E := by
  refine u_look_at_bits ?_
  unfold b_look_at_bits
  walk_at "s"
  refine s_cst C.l ?_
  walk_at "s"
  refine s_cst C.m ?_
  walk_at "s"
  refine w_is_within ?_
  walk_at "s"
  refine v_nec (fun z => absurd ⟨h1, h2⟩ z) fun _ => ?_
  walk_at "s"
  exact h
theorem w_due_of {i : Int} (hi : 0 ≤ i) (h : Q (.int (i + 2 + i % 2)) H) : (sem S T (n + 2)).fn "due_of" [.int i] H Q E := by
  refine u_due_of ?_
  unfold b_due_of
  walk_at "s"
  refine w_look_at_number hi ?_
  walk_at "s"
  refine v_mod (by decide) ?_
  walk_at "s"
  exact h
theorem pow_ok {b : Int} (h1 : 0 ≤ b) (h2 : b ≤ 8) : CPow 1 b := ⟨h1, by omega, by decide⟩
theorem two_pos (k : Nat) : (0 : Int) < 1 * 2 ^ k := by
  rw [Int.one_mul]
  exact Int.pow_pos (by decide)
theorem w_state_of (C : Cs S) {i b : Int} (hi : 0 ≤ i) (h1 : 3 ≤ b) (h2 : b ≤ 8) (h : Q (.int ((i + 2 + i % 2) % (1 * 2 ^ b.toNat))) H) : (sem S T (n + 3)).fn "state_of" [.int i, .int b] H Q E := by
  refine u_state_of ?_
  unfold b_state_of
  walk_at "s"
  refine w_look_at_number hi ?_
  walk_at "s"
  refine w_look_at_bits C h1 h2 ?_
  walk_at "s"
  refine w_due_of hi ?_
  walk_at "s"
  refine v_shl (pow_ok (by omega) h2) (v_mod (two_pos _) ?_)
  exact h
theorem w_first_wrong (C : Cs S) {i b : Int} (hi : 0 ≤ i) (h1 : 3 ≤ b) (h2 : b ≤ 8) (h : Q (.int (i + 2 + i % 2 + 1 * 2 ^ (b - 1).toNat)) H) : (sem S T (n + 3)).fn "first_wrong" [.int i, .int b] H Q E := by
  refine u_first_wrong ?_
  unfold b_first_wrong
  walk_at "s"
  refine w_look_at_number hi ?_
  walk_at "s"
  refine w_look_at_bits C h1 h2 ?_
  walk_at "s"
  refine w_due_of hi ?_
  walk_at "s"
  refine v_shl (pow_ok (by omega) (by omega)) ?_
  walk_at "s"
  exact h
theorem w_is_past (C : Cs S) {i s b : Int} (hi : 0 ≤ i) (h1 : 3 ≤ b) (h2 : b ≤ 8) (h3 : 0 ≤ s) (h4 : s ≤ 1 * 2 ^ b.toNat - 1) (h : Q (.bl (decide ((i - s) % (1 * 2 ^ b.toNat) < 1 * 2 ^ (b - 1).toNat))) H) : (sem S T (n + 3)).fn "is_past" [.int i, .int s, .int b] H Q E := by
  refine u_is_past ?_
  unfold b_is_past
  walk_at "s"
  refine w_look_at_number hi ?_
  walk_at "s"
  refine w_look_at_bits C h1 h2 ?_
  walk_at "s"
  refine v_shl (pow_ok (by omega) h2) ?_
  walk_at "s"
  refine w_is_within ?_
  walk_at "s"
  refine v_nec (fun z => absurd ⟨h3, h4⟩ z) fun _ => ?_
  walk_at "s"
  refine v_shl (pow_ok (by omega) h2) (v_mod (two_pos _) ?_)
  walk_at "s"
  refine v_shl (pow_ok (by omega) (by omega)) ?_
  walk_at "s"
  exact h
end
set_option Elab.async false
set_option linter.all false
set_option maxRecDepth 100000
set_option maxHeartbeats 4000000
open PySem QL
open L2 hiding wE wT
section
variable {S : Stat} {n : Nat} {H : Hp} {Q : VK} {E : XK}
theorem w_take {p : Addr} {a b s : Int} (hp : H p = some (.lst [.int a, .int b])) (hb0 : 0 ≤ b) (hb1 : b < 2147483647) (ha : 0 ≤ a) (hs : 0 < s) (hs2 : s < 1073741824)
    (h : ∀ r a' b', 0 ≤ r → r < s → 0 ≤ a' → 0 ≤ b' → b' < 2147483647 → Q (.int r) (upd H p (.lst [.int a', .int b']))) : (sem S T (n + 1)).fn "_law_take" [.ref p, .int s] H Q E := by
  refine u_law_take ?_
  unfold b_law_take
  have hr : rd S.so H p = some (.lst [.int a, .int b]) := rd_here hp
  walk_at "s"
  refine v_idx hr rfl ?_
  walk_at "s"
  refine v_dec (fun h0 => ?_) (fun h0 => ?_)
  · walk_at "s"
    refine v_idx hr rfl ?_
    walk_at "s"
    refine v_mod hs ?_
    walk_at "s"
    refine v_idx hr rfl ?_
    walk_at "s"
    refine v_div ⟨hs, hs2⟩ ?_
    walk_at "s"
    refine v_setL hp rfl ?_
    walk_at "s"
    exact h _ _ _ (Int.emod_nonneg _ (by omega)) (Int.emod_lt_of_pos _ hs) (Int.ediv_nonneg ha (by omega)) hb0 hb1
  · walk_at "s"
    refine v_idx hr rfl ?_
    walk_at "s"
    refine v_mul (.inl ⟨by omega, by omega⟩) ?_
    walk_at "s"
    refine v_mod (by decide) ?_
    walk_at "s"
    refine v_setL hp rfl ?_
    walk_at "s"
    have g0 : 0 ≤ (b * 48271 + 11) % 2147483647 := Int.emod_nonneg _ (by decide)
    have g1 : (b * 48271 + 11) % 2147483647 < 2147483647 := Int.emod_lt_of_pos _ (by decide)
    refine v_idx rd_new rfl ?_
    walk_at "s"
    refine v_idx rd_new rfl ?_
    refine v_mul (.inl ⟨by omega, by omega⟩) ?_
    walk_at "s"
    refine v_mod (by decide) ?_
    walk_at "s"
    refine v_div ⟨by decide, by decide⟩ ?_
    walk_at "s"
    refine v_mod hs ?_
    exact h _ _ _ (Int.emod_nonneg _ (by omega)) (Int.emod_lt_of_pos _ hs) ha g0 g1
theorem cut_at {ns : List Int} {k : Int} (hk : 0 ≤ k) : ∃ c r, cutV (ns.map V.int) (some k) (some (k + 1)) ++ [V.int 0] = V.int c :: r ∧ r.length ≤ 1 := by
  obtain ⟨m, rfl⟩ := Int.eq_ofNat_of_zero_le hk
  unfold cutV
  have e : (Int.ofNat m + 1) = ((m + 1 : Nat) : Int) := rfl
  rw [show (some ((m : Nat) : Int)) = some ((m : Nat) : Int) from rfl, show (((m : Nat) : Int) + 1) = ((m + 1 : Nat) : Int) from by push_cast; rfl, HT.sIx_nat, HT.sIx_nat]
  rw [List.length_map]
  by_cases h : m < ns.length
  · have h1 : min m ns.length = m := by omega
    have h2 : min (m + 1) ns.length = m + 1 := by omega
    rw [h1, h2, ← List.map_drop]
    cases q : ns.drop m with
    | nil =>
      have := List.drop_eq_nil_iff.mp q
      omega
    | cons c r =>
      refine ⟨c, [V.int 0], ?_, by simp⟩
      have : m + 1 - m = 1 := by omega
      rw [this]
      rfl
  · have h1 : min m ns.length = ns.length := by omega
    have h2 : min (m + 1) ns.length = ns.length := by omega
    rw [h1, h2]
    exact ⟨0, [], by simp, by simp⟩
theorem w_pool {s : Addr} {ns : List Int} {k : Int} (hs : rd S.so H s = some (.lst (ns.map V.int))) (hk : 0 ≤ k) (hk2 : k < 100) (hl : ns.length ≤ 63)
    (h : ∀ H' p a b, Ext S.so H H' → H p = none → S.so p = none → H' p = some (.lst [.int a, .int b]) → 0 ≤ a → 0 ≤ b → b < 2147483647 → Q (.ref p) H') : (sem S T (n + 1)).fn "_law_pool" [.ref s, .int k] H Q E := by
  refine u_law_pool ?_
  unfold b_law_pool
  walk_at "s"
  refine v_slc hs fun p1 hp1 hq1 => ?_
  walk_at "s"
  refine ⟨by show 1 ≤ sizeLine; decide, fun p2 hp2 hq2 => ?_⟩
  have n12 : p1 ≠ p2 := fun e => by rw [e, upd_same] at hp2; cases hp2
  have hlen := cutV_length (ns.map V.int) (some k) (some (k + 1))
  rw [List.length_map] at hlen
  refine v_addL (by rw [upd_ne n12, upd_same]) upd_same (Nat.le_trans (Nat.add_le_add_right hlen _) (by show _ ≤ 16777216; simp; omega)) fun p3 hp3 hq3 => ?_
  obtain ⟨c, r, ec, _⟩ := cut_at (ns := ns) hk
  rw [ec]
  walk_at "s"
  refine v_idx rd_new (atI_nat (j := 0) rfl) ?_
  walk_at "s"
  refine v_mod (by decide) ?_
  have g0 : 0 ≤ c % 2147483647 := Int.emod_nonneg _ (by decide)
  have g1 : c % 2147483647 < 2147483647 := Int.emod_lt_of_pos _ (by decide)
  walk_at "s"
  refine v_mul (.inl ⟨by decide, by decide⟩) ?_
  walk_at "s"
  refine v_mul (.inl ⟨by omega, by omega⟩) ?_
  walk_at "s"
  refine v_mod (by decide) ?_
  walk_at "s"
  refine v_pow ⟨by decide, by decide, by decide⟩ ?_
  walk_at "s"
  have hc : ∀ k : Bool, CMul (if k = true then 1 else 0) c := fun k => .inl (by cases k <;> exact ⟨by decide, by decide⟩)
  refine v_mul (hc _) ?_
  walk_at "s"
  refine ⟨by show 2 ≤ sizeLine; decide, fun p hp hq => ?_⟩
  have E3 : Ext S.so H (upd (upd (upd H p1 (.lst (cutV (ns.map V.int) (some k) (some (k + 1))))) p2 (.lst [V.int 0])) p3 (.lst (V.int c :: r))) := ((Ext.new hp1 hq1).trans (Ext.new hp2 hq2)).trans (Ext.new hp3 hq3)
  have hp0 : H p = none := by
    cases q : H p with
    | none => rfl
    | some o =>
      rw [E3.keep _ _ q] at hp
      cases hp
  refine h _ p _ _ (E3.trans (Ext.new hp hq)) hp0 hq upd_same ?_ (Int.emod_nonneg _ (by decide)) (by
    have := Int.emod_lt_of_pos ((c % 2147483647 + 7919 * k + 1) * 48271) (show (0 : Int) < 2147483629 by decide)
    omega)
  by_cases hc : (10 : Int) ^ (18 : Int).toNat ≤ c
  · simp only [hc, decide_true, if_true]
    have : (0 : Int) < 10 ^ (18 : Int).toNat := by decide
    omega
  · simp only [hc, decide_false, Bool.false_eq_true, if_false]
    omega
end
set_option Elab.async false
set_option linter.all false
set_option maxRecDepth 100000
set_option maxHeartbeats 4000000
open PySem QL
open L2 hiding wE wT
/-! the mathematics -/
theorem b_cases {b : Int} (h1 : 3 ≤ b) (h2 : b ≤ 8) : b = 3 ∨ b = 4 ∨ b = 5 ∨ b = 6 ∨ b = 7 ∨ b = 8 := by omega
theorem half_at {b : Int} (h1 : 3 ≤ b) (h2 : b ≤ 8) : atI [V.int 4, .int 8, .int 16, .int 32, .int 64, .int 128] (b - 3) = some (.int (1 * 2 ^ (b - 1).toNat)) := by
  rcases b_cases h1 h2 with rfl | rfl | rfl | rfl | rfl | rfl <;> rfl
theorem half_ge {b : Int} (h1 : 3 ≤ b) (h2 : b ≤ 8) : (4 : Int) ≤ 1 * 2 ^ (b - 1).toNat ∧ (1 : Int) * 2 ^ b.toNat = 2 * (1 * 2 ^ (b - 1).toNat) := by
  rcases b_cases h1 h2 with rfl | rfl | rfl | rfl | rfl | rfl <;> decide
theorem mod_sub {l d s : Int} : (l - d % s) % s = (l - d) % s := by
  rw [Int.sub_emod l (d % s), Int.emod_emod, ← Int.sub_emod]
theorem past1 {n l h : Int} (hn : 0 ≤ n) (h4 : 4 ≤ h) (h1 : n ≤ l) (h2 : l < n + 2 + n % 2 + h) : ((l - (n + 2 + n % 2) % (2 * h)) % (2 * h) < h) ↔ n + 2 + n % 2 ≤ l := by
  rw [mod_sub]
  have hm : 0 ≤ n % 2 ∧ n % 2 < 2 := ⟨Int.emod_nonneg _ (by decide), Int.emod_lt_of_pos _ (by decide)⟩
  generalize n % 2 = m at *
  by_cases hd : n + 2 + m ≤ l
  · rw [Int.emod_eq_of_lt (by omega) (by omega)]
    omega
  · have e : (l - (n + 2 + m)) % (2 * h) = l - (n + 2 + m) + 2 * h := by
      rw [← Int.add_emod_right, Int.emod_eq_of_lt (by omega) (by omega)]
    rw [e]
    omega
theorem past2 {d l h : Int} (h4 : 4 ≤ h) (h1 : d + h ≤ l) (h2 : l < d + h + h) : ¬ ((l - d % (2 * h)) % (2 * h) < h) := by
  rw [mod_sub, Int.emod_eq_of_lt (by omega) (by omega)]
  omega
theorem past3 {d h : Int} (h4 : 4 ≤ h) : (d + h + (d + h) - d - d % (2 * h)) % (2 * h) < h := by
  rw [mod_sub]
  have : d + h + (d + h) - d - d = 2 * h := by omega
  rw [this, Int.emod_self]
  omega
theorem bool_fits (k : Bool) : (PyData.bool k).shown.length ≤ sizeLine := by cases k <;> decide
section
variable {S : Stat} {n : Nat} {H : Hp} {Q : VK} {E : XK}
theorem w_right (C : Cs S) {i b : Int} (hi : 0 ≤ i) (h1 : 3 ≤ b) (h2 : b ≤ 8) (h : ∀ H', Ext S.so H H' → Q (.bl true) H') : (sem S T (n + 4)).fn "_law_right" [.int i, .int b] H Q E := by
  refine u_law_right ?_
  unfold b_law_right
  obtain ⟨g4, gs⟩ := half_ge h1 h2
  have em : 0 ≤ i % 2 := Int.emod_nonneg _ (by decide)
  walk_at "s"
  refine w_state_of C hi h1 h2 ?_
  walk_at "s"
  refine w_due_of hi ?_
  walk_at "s"
  refine w_first_wrong C hi h1 h2 ?_
  walk_at "s"
  refine v_par ?_
  walk_at "s"
  refine ⟨by show 6 ≤ sizeLine; decide, fun p hp hq => ?_⟩
  walk_at "s"
  refine v_idx rd_new (half_at h1 h2) ?_
  walk_at "s"
  refine v_nec (fun z => absurd (by omega) z) fun _ => ?_
  walk_at "s"
  have s0 : 0 ≤ (i + 2 + i % 2) % (1 * 2 ^ b.toNat) := Int.emod_nonneg _ (by omega)
  have s1 : (i + 2 + i % 2) % (1 * 2 ^ b.toNat) < 1 * 2 ^ b.toNat := Int.emod_lt_of_pos _ (by omega)
  refine lpR_inv (sem_le _) rfl (fun j σ H' => ∃ v, σ = [some (.int i), some (.int b), v, some (.int ((i + 2 + i % 2) % (1 * 2 ^ b.toNat))), some (.int (i + 2 + i % 2)), some (.int (i + 2 + i % 2 + 1 * 2 ^ (b - 1).toNat))] ∧ H' = upd H p (.lst [V.int 4, .int 8, .int 16, .int 32, .int 64, .int 128])) _ _ _ _ ⟨_, rfl, rfl⟩ ?_ ?_
  · rintro j σ H' j1 j2 ⟨v, rfl, rfl⟩
    walk_at "s"
    refine w_is_past C (by omega) h1 h2 s0 (by omega) ?_
    walk_at "s"
    refine v_repr (.sc rfl) rfl rfl (Nat.zero_le _) (bool_fits _) ?_
    walk_at "s"
    refine v_repr (.sc rfl) rfl rfl (Nat.zero_le _) (bool_fits _) ?_
    walk_at "s"
    refine v_nec (fun z => absurd ?_ z) fun _ => ?_
    · have : (j - (i + 2 + i % 2) % (1 * 2 ^ b.toNat)) % (1 * 2 ^ b.toNat) < 1 * 2 ^ (b - 1).toNat ↔ i + 2 + i % 2 ≤ j := by
        rw [gs]
        exact past1 hi g4 j1 (by omega)
      rw [decide_eq_decide.mpr this]
    · walk_at "s"
      exact ⟨_, rfl, rfl⟩
  · rintro σ H' ⟨v, rfl, rfl⟩
    walk_at "s"
    refine lpR_inv (sem_le _) rfl (fun j σ H' => ∃ v, σ = [some (.int i), some (.int b), v, some (.int ((i + 2 + i % 2) % (1 * 2 ^ b.toNat))), some (.int (i + 2 + i % 2)), some (.int (i + 2 + i % 2 + 1 * 2 ^ (b - 1).toNat))] ∧ H' = upd H p (.lst [V.int 4, .int 8, .int 16, .int 32, .int 64, .int 128])) _ _ _ _ ⟨_, rfl, rfl⟩ ?_ ?_
    · rintro j σ H' j1 j2 ⟨v, rfl, rfl⟩
      walk_at "s"
      refine w_is_past C (by omega) h1 h2 s0 (by omega) ?_
      have : ¬ (j - (i + 2 + i % 2) % (1 * 2 ^ b.toNat)) % (1 * 2 ^ b.toNat) < 1 * 2 ^ (b - 1).toNat := by
        rw [gs]
        exact past2 g4 j1 (by omega)
      rw [decide_eq_false this]
      walk_at "s"
      refine v_nec (fun z => absurd rfl z) fun _ => ?_
      walk_at "s"
      exact ⟨_, rfl, rfl⟩
    · rintro σ H' ⟨v, rfl, rfl⟩
      walk_at "s"
      refine w_is_past C (by omega) h1 h2 s0 (by omega) ?_
      have : (i + 2 + i % 2 + 1 * 2 ^ (b - 1).toNat + (i + 2 + i % 2 + 1 * 2 ^ (b - 1).toNat) - (i + 2 + i % 2) - (i + 2 + i % 2) % (1 * 2 ^ b.toNat)) % (1 * 2 ^ b.toNat) < 1 * 2 ^ (b - 1).toNat := by
        rw [gs]
        exact past3 g4
      rw [decide_eq_true this]
      walk_at "s"
      exact h _ (Ext.new hp hq)
theorem w_law (C : Cs S) {s : Addr} {ns : List Int} (hs : rd S.so H s = some (.lst (ns.map V.int))) (hl : ns.length ≤ 63) (h : ∀ H', Q (.bl true) H') : (sem S T (n + 5)).fn "law" [.ref s] H Q E := by
  refine u_law ?_
  unfold b_law
  walk_at "s"
  refine v_lenL hs ?_
  walk_at "s"
  refine lpR_inv (sem_le _) rfl (fun j σ H' => ∃ u v w x, σ = [some (.ref s), u, v, w, x] ∧ Ext S.so H H') _ _ _ _ ⟨_, _, _, _, rfl, Ext.refl⟩ ?_ ?_
  · rintro j σ H' j1 j2 ⟨u, v, w, x, rfl, X⟩
    walk_at "s"
    refine w_pool (X.rd hs) j1 ?_ hl fun H1 p a b X1 p0 q0 hp ha hb hb2 => ?_
    · rw [List.length_map] at j2
      have : (if (if (12 : Int) < ns.length then (12 : Int) else ns.length) > 2 then (if (12 : Int) < ns.length then (12 : Int) else ns.length) else 2) ≤ 12 := by
        split <;> split <;> omega
      omega
    walk_at "s"
    refine w_take hp hb hb2 ha (by decide) (by decide) fun r1 a1 b1 c1 c2 c3 c4 c5 => ?_
    walk_at "s"
    refine v_pow ⟨by decide, by decide, by decide⟩ ?_
    walk_at "s"
    refine w_take upd_same c4 c5 c3 (by decide) (by decide) fun r2 a2 b2 d1 d2 d3 d4 d5 => ?_
    walk_at "s"
    refine ⟨by show 2 ≤ sizeLine; decide, fun p2 hp2 hq2 => ?_⟩
    have np : p ≠ p2 := fun e => by rw [← e, upd_same] at hp2; cases hp2
    refine w_take (by rw [upd_ne np]; exact upd_same) d4 d5 d3 (by decide) (by decide) fun r3 a3 b3 e1 e2 e3 e4 e5 => ?_
    have hn : ∃ z, atI [V.int r1, V.int (10 ^ (29 : Int).toNat + r2)] r3 = some (.int z) ∧ 0 ≤ z := by
      have : r3 = 0 ∨ r3 = 1 := by omega
      have : (0 : Int) ≤ 10 ^ (29 : Int).toNat := by decide
      rcases ‹r3 = 0 ∨ r3 = 1› with rfl | rfl
      · exact ⟨_, rfl, c1⟩
      · exact ⟨_, rfl, by omega⟩
    obtain ⟨z, ez, z0⟩ := hn
    refine v_idx (rd_here (by rw [upd_ne np.symm]; exact upd_same)) ez ?_
    have X2 : Ext S.so H (upd (upd (upd (upd H1 p (.lst [.int a1, .int b1])) p (.lst [.int a2, .int b2])) p2 (.lst [V.int r1, V.int (10 ^ (29 : Int).toNat + r2)])) p (.lst [.int a3, .int b3])) := by
      have n0 : H p = none := by
        cases q : H p with
        | none => rfl
        | some o => rw [X.keep _ _ q] at p0; cases p0
      have Y : Ext S.so H (upd (upd H1 p (.lst [.int a1, .int b1])) p (.lst [.int a2, .int b2])) := ((X.trans X1).chg n0 q0).chg n0 q0
      exact (Y.trans (Ext.new hp2 hq2)).chg n0 q0
    walk_at "s"
    refine lpR_inv (sem_le _) rfl (fun j σ H' => ∃ u v x, σ = [some (.ref s), u, v, some (.int z), x] ∧ Ext S.so H H') _ _ _ _ ⟨_, _, _, rfl, X2⟩ ?_ ?_
    · rintro b σ H' b1 b2 ⟨u, v, x, rfl, X3⟩
      walk_at "s"
      refine w_right C z0 b1 (by omega) fun H4 X4 => ?_
      walk_at "s"
      refine w_right C (by omega) b1 (by omega) fun H5 X5 => ?_
      walk_at "s"
      exact ⟨_, _, _, rfl, (X3.trans X4).trans X5⟩
    · rintro σ H' ⟨u, v, x, rfl, X3⟩
      walk_at "s"
      exact ⟨_, _, _, _, rfl, X3⟩
  · rintro σ H' ⟨u, v, w, x, rfl, X⟩
    walk_at "s"
    exact h _
end
set_option Elab.async false
set_option linter.all false
set_option maxRecDepth 100000
set_option maxHeartbeats 4000000
open PySem QL
open L2 hiding wE wT
theorem e_is_within {K : PySem.W.Frag} {mg : Str → Option Value} {f : Addr} {oc kV doc pm cd ct : Value} {od an : Option Addr} {sl : Array (Option Value)} (g : mg "is_within" = some (.ref f)) (l : K.lookup f = some ⟨oc, od, .func (PySem.W.fnOf "is_within" "is_within" (defArgs (topS 5)) (defBody (topS 5)) (defScope (topS 5)) .none kV doc pm an cd ct), sl⟩) (c : PySem.W.codeIn K cd "is_within" = true) (k : PySem.W.keepIn K (.ref f) = true) :
    Def1 K mg gl "is_within" i_is_within (topS 5) f (PySem.W.fnOf "is_within" "is_within" (defArgs (topS 5)) (defBody (topS 5)) (defScope (topS 5)) .none kV doc pm an cd ct) ["thing", "least", "most"] :=
  have F := fun_mk (st := topS 5) l c k
  ⟨F, g, ⟨rfl, rfl, rfl, by decide +kernel, rfl, by decide +kernel, by decide +kernel⟩, rfl, c_is_within, F.binds (ps := ["thing", "least", "most"]) fun _ _ _ _ _ _ us hl => match us, hl with | [_, _, _], _ => rfl, by decide⟩
theorem e_look_at_number {K : PySem.W.Frag} {mg : Str → Option Value} {f : Addr} {oc kV doc pm cd ct : Value} {od an : Option Addr} {sl : Array (Option Value)} (g : mg "look_at_number" = some (.ref f)) (l : K.lookup f = some ⟨oc, od, .func (PySem.W.fnOf "look_at_number" "look_at_number" (defArgs (topS 9)) (defBody (topS 9)) (defScope (topS 9)) .none kV doc pm an cd ct), sl⟩) (c : PySem.W.codeIn K cd "look_at_number" = true) (k : PySem.W.keepIn K (.ref f) = true) :
    Def1 K mg gl "look_at_number" i_look_at_number (topS 9) f (PySem.W.fnOf "look_at_number" "look_at_number" (defArgs (topS 9)) (defBody (topS 9)) (defScope (topS 9)) .none kV doc pm an cd ct) ["thing"] :=
  have F := fun_mk (st := topS 9) l c k
  ⟨F, g, ⟨rfl, rfl, rfl, by decide +kernel, rfl, by decide +kernel, by decide +kernel⟩, rfl, c_look_at_number, F.binds (ps := ["thing"]) fun _ _ _ _ _ _ us hl => match us, hl with | [_], _ => rfl, by decide⟩
theorem e_look_at_bits {K : PySem.W.Frag} {mg : Str → Option Value} {f : Addr} {oc kV doc pm cd ct : Value} {od an : Option Addr} {sl : Array (Option Value)} (g : mg "look_at_bits" = some (.ref f)) (l : K.lookup f = some ⟨oc, od, .func (PySem.W.fnOf "look_at_bits" "look_at_bits" (defArgs (topS 10)) (defBody (topS 10)) (defScope (topS 10)) .none kV doc pm an cd ct), sl⟩) (c : PySem.W.codeIn K cd "look_at_bits" = true) (k : PySem.W.keepIn K (.ref f) = true) :
    Def1 K mg gl "look_at_bits" i_look_at_bits (topS 10) f (PySem.W.fnOf "look_at_bits" "look_at_bits" (defArgs (topS 10)) (defBody (topS 10)) (defScope (topS 10)) .none kV doc pm an cd ct) ["thing"] :=
  have F := fun_mk (st := topS 10) l c k
  ⟨F, g, ⟨rfl, rfl, rfl, by decide +kernel, rfl, by decide +kernel, by decide +kernel⟩, rfl, c_look_at_bits, F.binds (ps := ["thing"]) fun _ _ _ _ _ _ us hl => match us, hl with | [_], _ => rfl, by decide⟩
theorem e_due_of {K : PySem.W.Frag} {mg : Str → Option Value} {f : Addr} {oc kV doc pm cd ct : Value} {od an : Option Addr} {sl : Array (Option Value)} (g : mg "due_of" = some (.ref f)) (l : K.lookup f = some ⟨oc, od, .func (PySem.W.fnOf "due_of" "due_of" (defArgs (topS 11)) (defBody (topS 11)) (defScope (topS 11)) .none kV doc pm an cd ct), sl⟩) (c : PySem.W.codeIn K cd "due_of" = true) (k : PySem.W.keepIn K (.ref f) = true) :
    Def1 K mg gl "due_of" i_due_of (topS 11) f (PySem.W.fnOf "due_of" "due_of" (defArgs (topS 11)) (defBody (topS 11)) (defScope (topS 11)) .none kV doc pm an cd ct) ["number"] :=
  have F := fun_mk (st := topS 11) l c k
  ⟨F, g, ⟨rfl, rfl, rfl, by decide +kernel, rfl, by decide +kernel, by decide +kernel⟩, rfl, c_due_of, F.binds (ps := ["number"]) fun _ _ _ _ _ _ us hl => match us, hl with | [_], _ => rfl, by decide⟩
theorem e_state_of {K : PySem.W.Frag} {mg : Str → Option Value} {f : Addr} {oc kV doc pm cd ct : Value} {od an : Option Addr} {sl : Array (Option Value)} (g : mg "state_of" = some (.ref f)) (l : K.lookup f = some ⟨oc, od, .func (PySem.W.fnOf "state_of" "state_of" (defArgs (topS 12)) (defBody (topS 12)) (defScope (topS 12)) .none kV doc pm an cd ct), sl⟩) (c : PySem.W.codeIn K cd "state_of" = true) (k : PySem.W.keepIn K (.ref f) = true) :
    Def1 K mg gl "state_of" i_state_of (topS 12) f (PySem.W.fnOf "state_of" "state_of" (defArgs (topS 12)) (defBody (topS 12)) (defScope (topS 12)) .none kV doc pm an cd ct) ["number", "bits"] :=
  have F := fun_mk (st := topS 12) l c k
  ⟨F, g, ⟨rfl, rfl, rfl, by decide +kernel, rfl, by decide +kernel, by decide +kernel⟩, rfl, c_state_of, F.binds (ps := ["number", "bits"]) fun _ _ _ _ _ _ us hl => match us, hl with | [_, _], _ => rfl, by decide⟩
theorem e_is_past {K : PySem.W.Frag} {mg : Str → Option Value} {f : Addr} {oc kV doc pm cd ct : Value} {od an : Option Addr} {sl : Array (Option Value)} (g : mg "is_past" = some (.ref f)) (l : K.lookup f = some ⟨oc, od, .func (PySem.W.fnOf "is_past" "is_past" (defArgs (topS 13)) (defBody (topS 13)) (defScope (topS 13)) .none kV doc pm an cd ct), sl⟩) (c : PySem.W.codeIn K cd "is_past" = true) (k : PySem.W.keepIn K (.ref f) = true) :
    Def1 K mg gl "is_past" i_is_past (topS 13) f (PySem.W.fnOf "is_past" "is_past" (defArgs (topS 13)) (defBody (topS 13)) (defScope (topS 13)) .none kV doc pm an cd ct) ["number", "state", "bits"] :=
  have F := fun_mk (st := topS 13) l c k
  ⟨F, g, ⟨rfl, rfl, rfl, by decide +kernel, rfl, by decide +kernel, by decide +kernel⟩, rfl, c_is_past, F.binds (ps := ["number", "state", "bits"]) fun _ _ _ _ _ _ us hl => match us, hl with | [_, _, _], _ => rfl, by decide⟩
theorem e_first_wrong {K : PySem.W.Frag} {mg : Str → Option Value} {f : Addr} {oc kV doc pm cd ct : Value} {od an : Option Addr} {sl : Array (Option Value)} (g : mg "first_wrong" = some (.ref f)) (l : K.lookup f = some ⟨oc, od, .func (PySem.W.fnOf "first_wrong" "first_wrong" (defArgs (topS 14)) (defBody (topS 14)) (defScope (topS 14)) .none kV doc pm an cd ct), sl⟩) (c : PySem.W.codeIn K cd "first_wrong" = true) (k : PySem.W.keepIn K (.ref f) = true) :
    Def1 K mg gl "first_wrong" i_first_wrong (topS 14) f (PySem.W.fnOf "first_wrong" "first_wrong" (defArgs (topS 14)) (defBody (topS 14)) (defScope (topS 14)) .none kV doc pm an cd ct) ["number", "bits"] :=
  have F := fun_mk (st := topS 14) l c k
  ⟨F, g, ⟨rfl, rfl, rfl, by decide +kernel, rfl, by decide +kernel, by decide +kernel⟩, rfl, c_first_wrong, F.binds (ps := ["number", "bits"]) fun _ _ _ _ _ _ us hl => match us, hl with | [_, _], _ => rfl, by decide⟩
theorem e_law_pool {K : PySem.W.Frag} {mg : Str → Option Value} {f : Addr} {oc kV doc pm cd ct : Value} {od an : Option Addr} {sl : Array (Option Value)} (g : mg "_law_pool" = some (.ref f)) (l : K.lookup f = some ⟨oc, od, .func (PySem.W.fnOf "_law_pool" "_law_pool" (defArgs (topS 16)) (defBody (topS 16)) (defScope (topS 16)) .none kV doc pm an cd ct), sl⟩) (c : PySem.W.codeIn K cd "_law_pool" = true) (k : PySem.W.keepIn K (.ref f) = true) :
    Def1 K mg gl "_law_pool" i_law_pool (topS 16) f (PySem.W.fnOf "_law_pool" "_law_pool" (defArgs (topS 16)) (defBody (topS 16)) (defScope (topS 16)) .none kV doc pm an cd ct) ["_law_script", "_law_k"] :=
  have F := fun_mk (st := topS 16) l c k
  ⟨F, g, ⟨rfl, rfl, rfl, by decide +kernel, rfl, by decide +kernel, by decide +kernel⟩, rfl, c_law_pool, F.binds (ps := ["_law_script", "_law_k"]) fun _ _ _ _ _ _ us hl => match us, hl with | [_, _], _ => rfl, by decide⟩
theorem e_law_take {K : PySem.W.Frag} {mg : Str → Option Value} {f : Addr} {oc kV doc pm cd ct : Value} {od an : Option Addr} {sl : Array (Option Value)} (g : mg "_law_take" = some (.ref f)) (l : K.lookup f = some ⟨oc, od, .func (PySem.W.fnOf "_law_take" "_law_take" (defArgs (topS 17)) (defBody (topS 17)) (defScope (topS 17)) .none kV doc pm an cd ct), sl⟩) (c : PySem.W.codeIn K cd "_law_take" = true) (k : PySem.W.keepIn K (.ref f) = true) :
    Def1 K mg gl "_law_take" i_law_take (topS 17) f (PySem.W.fnOf "_law_take" "_law_take" (defArgs (topS 17)) (defBody (topS 17)) (defScope (topS 17)) .none kV doc pm an cd ct) ["_law_pool_here", "_law_size"] :=
  have F := fun_mk (st := topS 17) l c k
  ⟨F, g, ⟨rfl, rfl, rfl, by decide +kernel, rfl, by decide +kernel, by decide +kernel⟩, rfl, c_law_take, F.binds (ps := ["_law_pool_here", "_law_size"]) fun _ _ _ _ _ _ us hl => match us, hl with | [_, _], _ => rfl, by decide⟩
theorem e_law_right {K : PySem.W.Frag} {mg : Str → Option Value} {f : Addr} {oc kV doc pm cd ct : Value} {od an : Option Addr} {sl : Array (Option Value)} (g : mg "_law_right" = some (.ref f)) (l : K.lookup f = some ⟨oc, od, .func (PySem.W.fnOf "_law_right" "_law_right" (defArgs (topS 18)) (defBody (topS 18)) (defScope (topS 18)) .none kV doc pm an cd ct), sl⟩) (c : PySem.W.codeIn K cd "_law_right" = true) (k : PySem.W.keepIn K (.ref f) = true) :
    Def1 K mg gl "_law_right" i_law_right (topS 18) f (PySem.W.fnOf "_law_right" "_law_right" (defArgs (topS 18)) (defBody (topS 18)) (defScope (topS 18)) .none kV doc pm an cd ct) ["_law_number", "_law_bits"] :=
  have F := fun_mk (st := topS 18) l c k
  ⟨F, g, ⟨rfl, rfl, rfl, by decide +kernel, rfl, by decide +kernel, by decide +kernel⟩, rfl, c_law_right, F.binds (ps := ["_law_number", "_law_bits"]) fun _ _ _ _ _ _ us hl => match us, hl with | [_, _], _ => rfl, by decide⟩
theorem e_law {K : PySem.W.Frag} {mg : Str → Option Value} {f : Addr} {oc kV doc pm cd ct : Value} {od an : Option Addr} {sl : Array (Option Value)} (g : mg "law" = some (.ref f)) (l : K.lookup f = some ⟨oc, od, .func (PySem.W.fnOf "law" "law" (defArgs (topS 19)) (defBody (topS 19)) (defScope (topS 19)) .none kV doc pm an cd ct), sl⟩) (c : PySem.W.codeIn K cd "law" = true) (k : PySem.W.keepIn K (.ref f) = true) :
    Def1 K mg gl "law" i_law (topS 19) f (PySem.W.fnOf "law" "law" (defArgs (topS 19)) (defBody (topS 19)) (defScope (topS 19)) .none kV doc pm an cd ct) ["_law_script"] :=
  have F := fun_mk (st := topS 19) l c k
  ⟨F, g, ⟨rfl, rfl, rfl, by decide +kernel, rfl, by decide +kernel, by decide +kernel⟩, rfl, c_law, F.binds (ps := ["_law_script"]) fun _ _ _ _ _ _ us hl => match us, hl with | [_], _ => rfl, by decide⟩
def cst (x : Str) : Option V := ([("MOST_BITS", .int 8), ("LEAST_BITS", .int 3)] : List (Str × V)).lookup x
def St0 (so : Addr → Option HO) : Stat := ⟨cst, so, fun _ _ => False⟩
theorem all_mk {l : PySem.W.OpenLaw} {w : World} {K : PySem.W.Frag} {h : Heap} {mg : Str → Option Value} {fa f0 f1 f2 f3 f4 f5 f6 f7 f8 f9 f10 : Addr} (X : K.In h) (G : h.Ns mainGlobals mg) (hfa : mg "law" = some (.ref fa))
    {oc0 kV0 dc0 pm0 cd0 ct0 oc1 kV1 dc1 pm1 cd1 ct1 oc2 kV2 dc2 pm2 cd2 ct2 oc3 kV3 dc3 pm3 cd3 ct3 oc4 kV4 dc4 pm4 cd4 ct4 oc5 kV5 dc5 pm5 cd5 ct5 oc6 kV6 dc6 pm6 cd6 ct6 oc7 kV7 dc7 pm7 cd7 ct7 oc8 kV8 dc8 pm8 cd8 ct8 oc9 kV9 dc9 pm9 cd9 ct9 oc10 kV10 dc10 pm10 cd10 ct10 : Value} {od0 an0 od1 an1 od2 an2 od3 an3 od4 an4 od5 an5 od6 an6 od7 an7 od8 an8 od9 an9 od10 an10 : Option Addr} {sl0 sl1 sl2 sl3 sl4 sl5 sl6 sl7 sl8 sl9 sl10 : Array (Option Value)} {tk0 tk1 : Tok}
    (a0 : PySem.W.nsIn K mainGlobals "is_within" = some (some (.ref f0))) (l0 : K.lookup f0 = some ⟨oc0, od0, .func (PySem.W.fnOf "is_within" "is_within" (defArgs (topS 5)) (defBody (topS 5)) (defScope (topS 5)) .none kV0 dc0 pm0 an0 cd0 ct0), sl0⟩) (c0 : PySem.W.codeIn K cd0 "is_within" = true) (k0 : PySem.W.keepIn K (.ref f0) = true)
    (a1 : PySem.W.nsIn K mainGlobals "look_at_number" = some (some (.ref f1))) (l1 : K.lookup f1 = some ⟨oc1, od1, .func (PySem.W.fnOf "look_at_number" "look_at_number" (defArgs (topS 9)) (defBody (topS 9)) (defScope (topS 9)) .none kV1 dc1 pm1 an1 cd1 ct1), sl1⟩) (c1 : PySem.W.codeIn K cd1 "look_at_number" = true) (k1 : PySem.W.keepIn K (.ref f1) = true)
    (a2 : PySem.W.nsIn K mainGlobals "look_at_bits" = some (some (.ref f2))) (l2 : K.lookup f2 = some ⟨oc2, od2, .func (PySem.W.fnOf "look_at_bits" "look_at_bits" (defArgs (topS 10)) (defBody (topS 10)) (defScope (topS 10)) .none kV2 dc2 pm2 an2 cd2 ct2), sl2⟩) (c2 : PySem.W.codeIn K cd2 "look_at_bits" = true) (k2 : PySem.W.keepIn K (.ref f2) = true)
    (a3 : PySem.W.nsIn K mainGlobals "due_of" = some (some (.ref f3))) (l3 : K.lookup f3 = some ⟨oc3, od3, .func (PySem.W.fnOf "due_of" "due_of" (defArgs (topS 11)) (defBody (topS 11)) (defScope (topS 11)) .none kV3 dc3 pm3 an3 cd3 ct3), sl3⟩) (c3 : PySem.W.codeIn K cd3 "due_of" = true) (k3 : PySem.W.keepIn K (.ref f3) = true)
    (a4 : PySem.W.nsIn K mainGlobals "state_of" = some (some (.ref f4))) (l4 : K.lookup f4 = some ⟨oc4, od4, .func (PySem.W.fnOf "state_of" "state_of" (defArgs (topS 12)) (defBody (topS 12)) (defScope (topS 12)) .none kV4 dc4 pm4 an4 cd4 ct4), sl4⟩) (c4 : PySem.W.codeIn K cd4 "state_of" = true) (k4 : PySem.W.keepIn K (.ref f4) = true)
    (a5 : PySem.W.nsIn K mainGlobals "is_past" = some (some (.ref f5))) (l5 : K.lookup f5 = some ⟨oc5, od5, .func (PySem.W.fnOf "is_past" "is_past" (defArgs (topS 13)) (defBody (topS 13)) (defScope (topS 13)) .none kV5 dc5 pm5 an5 cd5 ct5), sl5⟩) (c5 : PySem.W.codeIn K cd5 "is_past" = true) (k5 : PySem.W.keepIn K (.ref f5) = true)
    (a6 : PySem.W.nsIn K mainGlobals "first_wrong" = some (some (.ref f6))) (l6 : K.lookup f6 = some ⟨oc6, od6, .func (PySem.W.fnOf "first_wrong" "first_wrong" (defArgs (topS 14)) (defBody (topS 14)) (defScope (topS 14)) .none kV6 dc6 pm6 an6 cd6 ct6), sl6⟩) (c6 : PySem.W.codeIn K cd6 "first_wrong" = true) (k6 : PySem.W.keepIn K (.ref f6) = true)
    (a7 : PySem.W.nsIn K mainGlobals "_law_pool" = some (some (.ref f7))) (l7 : K.lookup f7 = some ⟨oc7, od7, .func (PySem.W.fnOf "_law_pool" "_law_pool" (defArgs (topS 16)) (defBody (topS 16)) (defScope (topS 16)) .none kV7 dc7 pm7 an7 cd7 ct7), sl7⟩) (c7 : PySem.W.codeIn K cd7 "_law_pool" = true) (k7 : PySem.W.keepIn K (.ref f7) = true)
    (a8 : PySem.W.nsIn K mainGlobals "_law_take" = some (some (.ref f8))) (l8 : K.lookup f8 = some ⟨oc8, od8, .func (PySem.W.fnOf "_law_take" "_law_take" (defArgs (topS 17)) (defBody (topS 17)) (defScope (topS 17)) .none kV8 dc8 pm8 an8 cd8 ct8), sl8⟩) (c8 : PySem.W.codeIn K cd8 "_law_take" = true) (k8 : PySem.W.keepIn K (.ref f8) = true)
    (a9 : PySem.W.nsIn K mainGlobals "_law_right" = some (some (.ref f9))) (l9 : K.lookup f9 = some ⟨oc9, od9, .func (PySem.W.fnOf "_law_right" "_law_right" (defArgs (topS 18)) (defBody (topS 18)) (defScope (topS 18)) .none kV9 dc9 pm9 an9 cd9 ct9), sl9⟩) (c9 : PySem.W.codeIn K cd9 "_law_right" = true) (k9 : PySem.W.keepIn K (.ref f9) = true)
    (a10 : PySem.W.nsIn K mainGlobals "law" = some (some (.ref f10))) (l10 : K.lookup f10 = some ⟨oc10, od10, .func (PySem.W.fnOf "law" "law" (defArgs (topS 19)) (defBody (topS 19)) (defScope (topS 19)) .none kV10 dc10 pm10 an10 cd10 ct10), sl10⟩) (c10 : PySem.W.codeIn K cd10 "law" = true) (k10 : PySem.W.keepIn K (.ref f10) = true)
    (g0 : PySem.W.nsIn K mainGlobals "MOST_BITS" = some (some (.int 8 tk0)))
    (g1 : PySem.W.nsIn K mainGlobals "LEAST_BITS" = some (some (.int 3 tk1)))
    (z0 : PySem.W.nsIn K mainGlobals "max" = some none)
    (z1 : PySem.W.nsIn K mainGlobals "min" = some none)
    (z2 : PySem.W.nsIn K mainGlobals "len" = some none)
    (z3 : PySem.W.nsIn K mainGlobals "repr" = some none)
    (z4 : PySem.W.nsIn K mainGlobals "int" = some none)
    (z5 : PySem.W.nsIn K mainGlobals "isinstance" = some none)
    (z6 : PySem.W.nsIn K mainGlobals "bool" = some none)
    (z7 : PySem.W.nsIn K mainGlobals "range" = some none)
    : ∃ (so0 : Addr → Option HO) (sp : (Addr → Option HO) → Sp) (fd : FuncData), SoOk K so0 ∧ (∀ (s : Shared) (u : Value), BindsTo s fd ⟨[u], []⟩ [("_law_script", u)]) ∧
        (∀ so, SoOk K so → SoLe so0 so → ∀ base : Heap, K.In base → base.Ns mainGlobals mg → FnG l.prog w K mg base 5 fa fd ["_law_script"] (sp so)) ∧
        ∀ (a : Addr) (ns : List Int) (so : Addr → Option HO) (H : Hp), ns.length ≤ 63 → SoLe so0 so → rd so H a = some (.lst (ns.map V.int)) → (∀ b, b ≠ a → H b = none) → (∀ o, H a = some o → ∃ x u, o = .frz x u) → sp so [.ref a] H (fun v _ => v = .bl true) fun _ _ _ => False := by
  have e := hfa.symm.trans (PySem.W.mg_of X G a10)
  cases e
  have D0 := e_is_within (PySem.W.mg_of X G a0) l0 c0 k0
  have D1 := e_look_at_number (PySem.W.mg_of X G a1) l1 c1 k1
  have D2 := e_look_at_bits (PySem.W.mg_of X G a2) l2 c2 k2
  have D3 := e_due_of (PySem.W.mg_of X G a3) l3 c3 k3
  have D4 := e_state_of (PySem.W.mg_of X G a4) l4 c4 k4
  have D5 := e_is_past (PySem.W.mg_of X G a5) l5 c5 k5
  have D6 := e_first_wrong (PySem.W.mg_of X G a6) l6 c6 k6
  have D7 := e_law_pool (PySem.W.mg_of X G a7) l7 c7 k7
  have D8 := e_law_take (PySem.W.mg_of X G a8) l8 c8 k8
  have D9 := e_law_right (PySem.W.mg_of X G a9) l9 c9 k9
  have D10 := e_law (PySem.W.mg_of X G a10) l10 c10 k10
  have Tp : ∀ so, SoOk K so → Top K mg (St0 so) T gl := fun so hso => by
    have A : AllF (Fact K mg (St0 so) T gl) kinds := ⟨⟨_, _, _, _, _, t_law, D10⟩, ⟨rfl, PySem.W.mg_none_of X G z0⟩, ⟨rfl, PySem.W.mg_none_of X G z1⟩, ⟨rfl, PySem.W.mg_none_of X G z2⟩, ⟨_, _, _, _, _, t_law_right, D9⟩, ⟨_, _, _, _, _, t_law_take, D8⟩, ⟨_, _, _, _, _, t_law_pool, D7⟩, ⟨_, _, _, _, _, t_is_past, D5⟩, ⟨rfl, PySem.W.mg_none_of X G z3⟩, ⟨_, _, _, _, _, t_first_wrong, D6⟩, ⟨_, _, _, _, _, t_due_of, D3⟩, ⟨_, _, _, _, _, t_state_of, D4⟩, ⟨rfl, PySem.W.mg_none_of X G z4⟩, ⟨_, _, _, _, _, t_is_within, D0⟩, ⟨_, _, _, _, _, t_look_at_bits, D2⟩, ⟨_, _, _, _, _, t_look_at_number, D1⟩, ⟨rfl, PySem.W.mg_none_of X G z5⟩, ⟨rfl, PySem.W.mg_none_of X G z6⟩, (fun v hv => by cases hv; exact ⟨_, PySem.W.mg_of X G g0, ⟨_, rfl⟩⟩), (fun v hv => by cases hv; exact ⟨_, PySem.W.mg_of X G g1, ⟨_, rfl⟩⟩), True.intro⟩
    refine ⟨hso, fun _ _ z => z.elim, fun x => ?_, fun _ => PySem.W.mg_none_of X G z7⟩
    unfold gl
    cases q : kinds.lookup x with
    | none => exact True.intro
    | some g => exact A.at q
  refine ⟨fun _ => none, fun so => (sem (St0 so) T 5).fn "law", _, (fun _ _ z => by cases z), fun s v => .of_eq rfl, fun so hso _ base _ _ => (Tp so hso).fng 5 "law" i_law _ _ _ _ t_law D10, fun a ns so H hl _ hs _ _ => ?_⟩
  exact w_law ⟨by kernel_rfl, by kernel_rfl⟩ hs hl fun _ => rfl
end K04
set_option Elab.async false
set_option linter.all false
open PySem PySem.W PyProof.Rows in
set_option maxRecDepth 100000 in
set_option maxHeartbeats 0 in
theorem PySem.Challenge.cw_quietlanes_k04_states_past_as_due_holds : PySem.Challenge.rw_quietlanes_k04_states_past_as_due.Holds := by
  w_on; o_law; k_head; (case hw => w_witness2)
  k_fill
  refine QL.walk_g (l := PySem.Challenge.rw_quietlanes_k04_states_past_as_due) (n := 63) (k := 5) (x := "_law_script") rfl (by decide) rfl ⟨rfl, by decide, by decide⟩ (fun w h Y => PySem.W.kIn_of Y) ?F
  case F =>
    intro w mg fa h KX G hmg
    refine' K04.all_mk KX G hmg ?qza0 ?qzl0 ?qzc0 ?qzk0 ?qza1 ?qzl1 ?qzc1 ?qzk1 ?qza2 ?qzl2 ?qzc2 ?qzk2 ?qza3 ?qzl3 ?qzc3 ?qzk3 ?qza4 ?qzl4 ?qzc4 ?qzk4 ?qza5 ?qzl5 ?qzc5 ?qzk5 ?qza6 ?qzl6 ?qzc6 ?qzk6 ?qza7 ?qzl7 ?qzc7 ?qzk7 ?qza8 ?qzl8 ?qzc8 ?qzk8 ?qza9 ?qzl9 ?qzc9 ?qzk9 ?qza10 ?qzl10 ?qzc10 ?qzk10 ?qzg0 ?qzg1 ?qzz0 ?qzz1 ?qzz2 ?qzz3 ?qzz4 ?qzz5 ?qzz6 ?qzz7
    (case qza0 => k_is)
    (case qzl0 => k_is)
    (case qzc0 => k_is)
    (case qzk0 => k_is)
    (case qza1 => k_is)
    (case qzl1 => k_is)
    (case qzc1 => k_is)
    (case qzk1 => k_is)
    (case qza2 => k_is)
    (case qzl2 => k_is)
    (case qzc2 => k_is)
    (case qzk2 => k_is)
    (case qza3 => k_is)
    (case qzl3 => k_is)
    (case qzc3 => k_is)
    (case qzk3 => k_is)
    (case qza4 => k_is)
    (case qzl4 => k_is)
    (case qzc4 => k_is)
    (case qzk4 => k_is)
    (case qza5 => k_is)
    (case qzl5 => k_is)
    (case qzc5 => k_is)
    (case qzk5 => k_is)
    (case qza6 => k_is)
    (case qzl6 => k_is)
    (case qzc6 => k_is)
    (case qzk6 => k_is)
    (case qza7 => k_is)
    (case qzl7 => k_is)
    (case qzc7 => k_is)
    (case qzk7 => k_is)
    (case qza8 => k_is)
    (case qzl8 => k_is)
    (case qzc8 => k_is)
    (case qzk8 => k_is)
    (case qza9 => k_is)
    (case qzl9 => k_is)
    (case qzc9 => k_is)
    (case qzk9 => k_is)
    (case qza10 => k_is)
    (case qzl10 => k_is)
    (case qzc10 => k_is)
    (case qzk10 => k_is)
    (case qzg0 => k_is)
    (case qzg1 => k_is)
    (case qzz0 => k_is)
    (case qzz1 => k_is)
    (case qzz2 => k_is)
    (case qzz3 => k_is)
    (case qzz4 => k_is)
    (case qzz5 => k_is)
    (case qzz6 => k_is)
    (case qzz7 => k_is)
