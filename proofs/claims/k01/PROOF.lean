import PyProof.Rows.All
import Wide.All
import OpenK.AllK
import Wide.FinOn
import PyProof.EqAt
import PyProof.EqKinds
import PyProof.TupleCall
import PyProof.LongRange
import HandS.ForMost
import HandS.ForExc
import HandS.Flow
import HandS.Style
import HandS.IsInst
import HandS.Wide
import HandS.CallSlots
import HandS.ExcInit
import HandS.ExcIs
import HandS.ExcField
import KE.KExcInit
import KE.KExcIs
import HandS.SetFor
import KE.KTryMore
import HandS.Defaults
import KE.KStateDown
import HandS.Head0
import HandS.Head1
import HandS.Head2
import HandS.HeadHook1
import HandS.HeadHook2
import HandS.HeadEnd
import HandS.MakeKwOnly
import PySem.Challenge.RW_quietlanes_k01_shapes_made
set_option Elab.async false
set_option linter.all false
set_option maxRecDepth 100000
set_option maxHeartbeats 4000000
/-! Q1: defs that keep a promise where nothing is being shown (guards), their calls. -/
namespace QL
open PySem PySem.Spec L2
open PyProof.Rows hiding St
/-- a def keeps sp, called where no repr runs -/
structure FnG (P : Program) (w : World) (K : PySem.W.Frag) (mg : Str → Option Value) (base : Heap) (k : Nat) (f : Addr) (fd : FuncData) (ps : List Str) (sp : Sp) : Prop where
  len : ∀ vs H Q E, sp vs H Q E → vs.length = ps.length
  run : ∀ (A : Around) (outer : List Env) (s : Shared) (H : Hp) (args : Args) (us : List Value) (vs : List V) (Q : VK) (E : XK), A.guards = some [] → Room k A → Env0 P w K mg base A outer s H →
    BindsTo s fd args (ps.zip us) → Vals vs us → sp vs H Q E → codeAny (model P w) A (.call (.ref f) args) (CR (L2.CX P w) outer P w H s Q E) s
theorem fng_of {P : Program} {w : World} {K : PySem.W.Frag} {mg : Str → Option Value} {base : Heap} {k : Nat} {f : Addr} {name qual : Str} {params : Arguments} {body : List Stmt} {scope : Scope} {dV kV doc pm cdv ct oc : Value} {an od : Option Addr}
    {osl : Array (Option Value)} {N ps : List Str} {sp : Sp} (lk : K.lookup f = some ⟨oc, od, .func (PySem.W.fnOf name qual params body scope dV kV doc pm an cdv ct), osl⟩) (hcd : PySem.W.codeIn K cdv qual = true) (S : FnScope N ps scope)
    (len : ∀ vs H Q E, sp vs H Q E → vs.length = ps.length)
    (hb : ∀ (A : Around) (outer : List Env) (s : Shared) (H : Hp) (vs : List V) (Q : VK) (E : XK), A.guards = some [] → Room k (A.deeper (envOfC qual scope s.heap.objs.size f cdv)) → sp vs H Q E →
      ∃ t, PSs (cxOf (L2.CX P w) P w K mg base N qual scope f cdv A outer s H E) body t ∧ t { nx := fun _ H' => Q .non H', rt := Q } (L2.start N vs) H) :
    FnG P w K mg base (k + 1) f (PySem.W.fnOf name qual params body scope dV kV doc pm an cdv ct) ps sp := by
  refine ⟨len, fun A outer s H args us vs Q E hg hr e0 hbd r hsp => ?_⟩
  have hl := len _ _ _ _ hsp
  have kp : ∀ b o, base.get? b = some o → s.heap.get? b = some o := fun b o e => (e0.bs b o e).1
  have KX : K.In s.heap := e0.mod.kin.keeps kp
  have lim : s.heap.NoLimit := e0.mod.nolimit.keeps kp
  refine codeAny_call_function hr.depth (KX _ _ lk) rfl S.co S.gen rfl (PySem.W.codeRec_of KX hcd) (hbd _ _ _ _ ?_)
  refine wpAny_newFunctionEnv_cells S.kind ?_ ?_
  · rintro ⟨n, v⟩ hy
    rcases S.par n (List.of_mem_zip hy).1 with q | q
    · exact .inl q
    · exact .inr ⟨q, PySem.W.cellsFrom_some _ _ _ (.inl q)⟩
  · rintro env rfl s1 x
    refine ⟨lim.keeps x.toInCall.keep, codeAny_func ?_⟩
    obtain ⟨t, ht, hq⟩ := hb A outer s H vs Q E hg (hr.deeper _) hsp
    have I := inv_start (CX := L2.CX P w) (E := E) S hr.hd e0 hl r x
    refine wpAny_mono (ht.run [] s1 _ H _ I hq) ?_ (fun e s' hs => hs)
    intro fl s' hs
    match fl, hs with
    | .ret u, ⟨v, σ', H', J, rv, q⟩ => exact ⟨v, H', J.os, J.bare, J.base, J.hok, rv, q⟩
    | .next, ⟨σ', H', J, q⟩ => exact ⟨V.non, H', J.os, J.bare, J.base, J.hok, rfl, q⟩
    | .brk, ⟨_, _, _, q⟩ => exact q.elim
    | .cont, ⟨_, _, _, q⟩ => exact q.elim
section
variable {X : Cx} {k : Nat} {f C : Addr} {fd : FuncData} {ps : List Str} {sp : Sp} {W : WX} {x m : Str} {p pos apos : Pos} {e o : Expr} {es : List Expr} {ta : TE} {t : TA}
/-- the callee runs; the wish about exceptions may speak of the caller's slots -/
theorem run_g {pins : List (Addr × Obj)} {σ : St} {H : Hp} {s : Shared} {Q : VK} {us full : List Value} {kw : List (Str × Value)} {vs : List V} (F : FnG X.prog X.w X.K X.mg X.base k f fd ps sp) (hg : X.A.guards = some []) (hr : Room k X.A) (hx : Takes X W)
    (I : Inv X pins σ H s) (hb : BindsTo s fd ⟨us, kw⟩ (ps.zip full)) (r : Vals vs full) (h : sp vs H Q (fun c d H' => W c d σ H')) : wpAny (model X.prog X.w) X.A (call (.ref f) us kw) (EP X pins σ Q) X.xe s := by
  refine wpAny_call (codeAny_mono (F.run X.A X.stack s H ⟨us, kw⟩ full vs Q _ hg hr I.env0 hb r h) fun q s' hq => ?_)
  match q, hq with
  | .error er, hq => exact hx er s' (XE.of_call I (fun _ _ _ z => z) hq)
  | .ok (.ret u), hq => exact I.after hq
  | .ok .next, hq => exact hq.elim
  | .ok .brk, hq => exact hq.elim
  | .ok .cont, hq => exact hq.elim
/-- a new instance, its __init__ runs -/
theorem make_g {pins : List (Addr × Obj)} {σ : St} {H : Hp} {s : Shared} {Q : VK} {us full : List Value} {kw : List (Str × Value)} {vs : List V} (M : Mk X.K C f) (F : FnG X.prog X.w X.K X.mg X.base k f fd ps sp) (hg : X.A.guards = some []) (hr : Room (k + 1) X.A)
    (hx : Takes X W) (I : Inv X pins σ H s) (hb : ∀ (s : Shared) (a : Value), X.K.In s.heap → BindsTo s fd ⟨a :: us, kw⟩ (ps.zip (a :: full))) (r : Vals vs full)
    (h : ∀ x dx, H x = none → H dx = none → dx ≠ x → X.K.lookup x = none → X.K.lookup dx = none → sp (.ref x :: vs) (upd (upd H dx (.own x)) x (.ins C dx [])) (fun v H2 => v = .non ∧ Q (.ref x) H2) (fun c d H' => W c d σ H')) :
    wpAny (model X.prog X.w) X.A (call (.ref C) us kw) (EP X pins σ Q) X.xe s := by
  have lk : ∀ a, s.heap.objs.size ≤ a → X.K.lookup a = none := fun a ha => by
    cases q : X.K.lookup a with
    | none => rfl
    | some o => exact absurd (Heap.lt_size (I.kIn a o q)) (Nat.not_lt.mpr ha)
  have hq := h (s.heap.objs.size + 1) s.heap.objs.size (I.hok.fresh (Nat.le_succ _)) (I.hok.fresh (Nat.le_refl _)) (Nat.ne_of_lt (Nat.lt_succ_self _)) (lk _ (Nat.le_succ _)) (lk _ (Nat.le_refl _))
  have I2 := Inv.made (C := C) I
  have hgu : (X.A.under (.builtin "type.__call__" ⟨.ref C :: us, kw⟩)).guards = some [] := by
    simp [Around.under, Code.guards, Code.isGuard, pushGuards, guardIds, hg]
  refine wpAny_call (make_map (f := f) I.kIn M.makes M.init (beq_iff_eq.mp M.fn) (codeAny_mono (F.run _ X.stack _ _ ⟨Value.ref (s.heap.objs.size + 1) :: us, kw⟩ (Value.ref (s.heap.objs.size + 1) :: full) (V.ref (s.heap.objs.size + 1) :: vs) _ _ hgu (hr.make C us kw)
    (I2.env0.make C us kw) (hb _ _ I2.kIn) (.cons rfl r) hq) fun q s' hq' => ?_))
  match q, hq' with
  | .error er, hq' => exact hx er s' (XE.of_call I2 (fun _ _ _ z => z) hq')
  | .ok (.ret u), hq' =>
    obtain ⟨v, H', I3, rv, ev, q3⟩ := I2.after hq'
    subst ev
    exact ⟨rv, ⟨V.ref (s.heap.objs.size + 1), H', I3, rfl, q3⟩⟩
  | .ok .next, hq' => exact hq'.elim
  | .ok .brk, hq' => exact hq'.elim
  | .ok .cont, hq' => exact hq'.elim
end
end QL
set_option Elab.async false
set_option linter.all false
set_option maxRecDepth 100000
set_option maxHeartbeats 4000000
/-! Q2: what operators do to values, as functions that look at the values. -/
namespace QL
open PySem PySem.Spec L2
open PyProof.Rows hiding St
/-- what stands at a: tracked, locked, or written (so) -/
def rd (so : Addr → Option HO) (H : Hp) (a : Addr) : Option HO := match H a with
  | some (.frz _ u) => some u
  | some o => some o
  | none => so a
/-- the written tuples are so -/
def SoOk (K : PySem.W.Frag) (so : Addr → Option HO) : Prop := ∀ a o, so a = some o → match o with
  | .tup xs => ∃ (o : Obj) (its : Array Value) (n : Nat), K.lookup a = some o ∧ o.cls = .type "tuple" ∧ o.data = .seq its n ∧ its.size ≤ sizeLine ∧ Vals xs its.toList
  | .lst xs => ∃ (o : Obj) (its : Array Value) (n : Nat), K.lookup a = some o ∧ o.cls = .type "list" ∧ o.dict = none ∧ o.data = .seq its n ∧ its.size ≤ sizeLine ∧ Vals xs its.toList
  | _ => False
section
variable {K : PySem.W.Frag} {so : Addr → Option HO} {H : Hp} {a : Addr} {xs : List V}
theorem rd_lst (S : SoOk K so) (h : rd so H a = some (.lst xs)) : SqL K H a xs := by
  unfold rd at h
  split at h
  · rename_i o u e
    cases h
    exact .inl (.inr ⟨_, e⟩)
  · rename_i e
    cases h
    exact .inl (.inl e)
  · have q := S a _ h
    exact .inr q
theorem rd_tup (S : SoOk K so) (h : rd so H a = some (.tup xs)) : SqT K H a xs := by
  unfold rd at h
  split at h
  · rename_i o u e
    cases h
    exact .inl (.inr ⟨_, e⟩)
  · rename_i e
    cases h
    exact .inl (.inl e)
  · have q := S a _ h
    exact .inr q
theorem rd_of {o : HO} (h : H a = some o) (hn : ∀ x u, o ≠ .frz x u) : rd so H a = some o := by
  unfold rd
  rw [h]
  cases o <;> first | rfl | exact absurd rfl (hn _ _)
end
theorem OpR.imp {X : Cx} {f : Value → Value → Sem Value} {r r' : R2} (h : OpR X f r) (q : ∀ x y H Q, r' x y H Q → r x y H Q) : OpR X f r' :=
  fun pins s σ H x y v u Q I rx ry z => h pins s σ H x y v u Q I rx ry (q x y H Q z)
theorem CallR.imp {X : Cx} {f : Value} {r r' : List V → Hp → VK → Prop} (h : CallR X f r) (q : ∀ x H Q, r' x H Q → r x H Q) : CallR X f r' :=
  fun pins s σ H x v Q I rx z => h pins s σ H x v Q I rx (q x H Q z)
theorem so_none {K : PySem.W.Frag} {so : Addr → Option HO} (S : SoOk K so) {a : Addr} (h : K.lookup a = none) : so a = none := by
  cases e : so a with
  | none => rfl
  | some o =>
    have q := S a o e
    cases o with
    | tup xs => obtain ⟨ob, _, _, z, _⟩ := q; rw [h] at z; cases z
    | lst xs => obtain ⟨ob, _, _, z, _⟩ := q; rw [h] at z; cases z
    | _ => exact q.elim
/-- nothing written is tracked -/
def NoK (so : Addr → Option HO) (H : Hp) : Prop := ∀ b, so b ≠ none → H b = none
theorem nok_of {X : Cx} {so : Addr → Option HO} (S : SoOk X.K so) {pins : List (Addr × Obj)} {σ : St} {H : Hp} {s : Shared} (I : Inv X pins σ H s) : NoK so H := fun b hb => by
  cases e : so b with
  | none => exact absurd e hb
  | some o =>
    have q := S b o e
    obtain ⟨ob, hk⟩ : ∃ ob, X.K.lookup b = some ob := by
      cases o with
      | tup xs => obtain ⟨ob, _, _, h, _⟩ := q; exact ⟨ob, h⟩
      | lst xs => obtain ⟨ob, _, _, h, _⟩ := q; exact ⟨ob, h⟩
      | _ => exact q.elim
    exact (I.bs b ob (I.mod.kin b ob hk)).2
theorem nok_upd {so : Addr → Option HO} {H : Hp} {p : Addr} {o : HO} (h : NoK so (upd H p o)) : so p = none := by
  cases e : so p with
  | none => rfl
  | some u =>
    have := h p (by rw [e]; simp)
    rw [upd_same] at this
    cases this
theorem PE.nok {X : Cx} {so : Addr → Option HO} (S : SoOk X.K so) {e : Expr} {t : TE} (h : PE X e t) : PE X e (fun σ H Q => t σ H fun v H' => NoK so H' → Q v H') := ⟨fun pins s σ H Q I z =>
  thn (h.run pins s σ H _ I z) fun u s' ⟨v, H', I', r, q⟩ => ⟨v, H', I', r, q (nok_of S I')⟩⟩
theorem OpR.nok {X : Cx} {so : Addr → Option HO} (S : SoOk X.K so) {f : Value → Value → Sem Value} {r : R2} (h : OpR X f r) : OpR X f (fun x y H Q => r x y H fun v H' => NoK so H' → Q v H') := fun pins s σ H x y v u Q I rx ry z =>
  thn (h pins s σ H x y v u _ I rx ry z) fun u s' ⟨v, H', I', r, q⟩ => ⟨v, H', I', r, q (nok_of S I')⟩
theorem CallR.nok {X : Cx} {so : Addr → Option HO} (S : SoOk X.K so) {f : Value} {r : List V → Hp → VK → Prop} (h : CallR X f r) : CallR X f (fun x H Q => r x H fun v H' => NoK so H' → Q v H') := fun pins s σ H x v Q I rx z =>
  thn (h pins s σ H x v _ I rx z) fun u s' ⟨v, H', I', r, q⟩ => ⟨v, H', I', r, q (nok_of S I')⟩
theorem SlR.nok {X : Cx} {so : Addr → Option HO} (S : SoOk X.K so) {r : V → Option Int → Option Int → Hp → VK → Prop} (h : SlR X r) : SlR X (fun x lo hi H Q => r x lo hi H fun v H' => NoK so H' → Q v H') := fun pins s σ H x v vl vu lo hi sl Q I rx hs pl pu z => by
  obtain ⟨T, id, h1, h2, h3⟩ := h pins s σ H x v vl vu lo hi sl _ I rx hs pl pu z
  exact ⟨T, id, h1, h2, thn h3 fun u s' ⟨v, H', I', r, q⟩ => ⟨v, H', I', r, q (nok_of S I')⟩⟩
/-! ### arithmetic -/
def addV (so : Addr → Option HO) : R2 := fun x y H Q => match x, y with
  | .int i, .int j => Q (.int (i + j)) H
  | .str i, .str j => i.length + j.length ≤ sizeLine ∧ Q (.str (i ++ j)) H
  | .ref p, .ref q => (match H p, H q with
    | some (.lst xs), some (.lst ys) => xs.length + ys.length ≤ sizeLine ∧ ∀ r, H r = none → so r = none → Q (.ref r) (upd H r (.lst (xs ++ ys)))
    | _, _ => False)
  | _, _ => False
def subV : R2 := fun x y H Q => match x, y with
  | .int i, .int j => Q (.int (i - j)) H
  | _, _ => False
def mulV (so : Addr → Option HO) : R2 := fun x y H Q => match x, y with
  | .int i, .int j => CMul i j ∧ Q (.int (i * j)) H
  | .ref p, .int k => (match H p with
    | some (.lst xs) => -(2 ^ 63) ≤ k ∧ k < 2 ^ 63 ∧ xs.length * k.toNat ≤ sizeLine ∧ ∀ r, H r = none → so r = none → Q (.ref r) (upd H r (.lst (List.replicate k.toNat xs).flatten))
    | _ => False)
  | _, _ => False
def divV : R2 := fun x y H Q => match x, y with
  | .int i, .int j => CDiv i j ∧ Q (.int (i / j)) H
  | _, _ => False
def modV : R2 := fun x y H Q => match x, y with
  | .int i, .int j => 0 < j ∧ Q (.int (i % j)) H
  | _, _ => False
def powV : R2 := fun x y H Q => match x, y with
  | .int i, .int j => CPow i j ∧ Q (.int (i ^ j.toNat)) H
  | _, _ => False
def shlV : R2 := fun x y H Q => match x, y with
  | .int i, .int j => CPow i j ∧ Q (.int (i * 2 ^ j.toNat)) H
  | _, _ => False
def opV (so : Addr → Option HO) (o : Operator) : R2 := fun x y H Q => match o with
  | .Add => addV so x y H Q
  | .Sub => subV x y H Q
  | .Mult => mulV so x y H Q
  | .FloorDiv => divV x y H Q
  | .Mod => modV x y H Q
  | .Pow => powV x y H Q
  | .LShift => shlV x y H Q
  | _ => False
section
variable {X : Cx} {so : Addr → Option HO} (S : SoOk X.K so)
include S
theorem op_addV : OpR X (binaryOp .Add) (addV so) := OpR.imp (OpR.nok S (op_add.or (op_add_str.or op_cat))) fun x y H Q h => by
  unfold addV at h
  split at h
  · exact .inl ⟨_, _, rfl, rfl, fun _ => h⟩
  · exact .inr (.inl ⟨_, _, rfl, rfl, h.1, fun _ => h.2⟩)
  · split at h
    · rename_i e1 e2
      exact .inr (.inr ⟨_, _, _, _, rfl, rfl, e1, e2, h.1, fun p hp nk => h.2 p hp (nok_upd nk)⟩)
    · exact h.elim
  · exact h.elim
omit S in
theorem op_subV : OpR X (binaryOp .Sub) subV := OpR.imp op_sub fun x y H Q h => by
  unfold subV at h
  split at h
  · exact ⟨_, _, rfl, rfl, h⟩
  · exact h.elim
theorem op_mulV : OpR X (binaryOp .Mult) (mulV so) := OpR.imp (OpR.nok S (op_mul.or op_rep)) fun x y H Q h => by
  unfold mulV at h
  split at h
  · exact .inl ⟨_, _, rfl, rfl, h.1, fun _ => h.2⟩
  · split at h
    · rename_i e1
      exact .inr ⟨_, _, _, rfl, rfl, e1, h.1, h.2.1, h.2.2.1, fun p hp nk => h.2.2.2 p hp (nok_upd nk)⟩
    · exact h.elim
  · exact h.elim
omit S in
theorem op_divV : OpR X (binaryOp .FloorDiv) divV := OpR.imp op_fdiv fun x y H Q h => by
  unfold divV at h
  split at h
  · exact ⟨_, _, rfl, rfl, h.1, h.2⟩
  · exact h.elim
omit S in
theorem op_modV : OpR X (binaryOp .Mod) modV := OpR.imp op_mod fun x y H Q h => by
  unfold modV at h
  split at h
  · exact ⟨_, _, rfl, rfl, h.1, h.2⟩
  · exact h.elim
omit S in
theorem op_powV : OpR X (binaryOp .Pow) powV := OpR.imp op_pow fun x y H Q h => by
  unfold powV at h
  split at h
  · exact ⟨_, _, rfl, rfl, h.1, h.2⟩
  · exact h.elim
omit S in
theorem op_shlV : OpR X (binaryOp .LShift) shlV := OpR.imp op_shl fun x y H Q h => by
  unfold shlV at h
  split at h
  · exact ⟨_, _, rfl, rfl, h.1, h.2⟩
  · exact h.elim
omit S in
theorem op_no {f : Value → Value → Sem Value} : OpR X f (fun _ _ _ _ => False) := fun _ _ _ _ _ _ _ _ _ _ _ _ h => h.elim
theorem op_opV (o : Operator) : OpR X (binaryOp o) (opV so o) := match o with
  | .Add => op_addV S
  | .Sub => op_subV
  | .Mult => op_mulV S
  | .FloorDiv => op_divV
  | .Mod => op_modV
  | .Pow => op_powV
  | .LShift => op_shlV
  | .MatMult => op_no
  | .Div => op_no
  | .RShift => op_no
  | .BitOr => op_no
  | .BitXor => op_no
  | .BitAnd => op_no
end
/-! ### comparisons -/
/-- a flat value as data -/
def scD : V → Option PyData
  | .non => some .none
  | .bl b => some (.bool b)
  | .int i => some (.int i)
  | .str x => some (.str x)
  | _ => none
mutual
/-- the data that a value shows -/
inductive Dd (so : Addr → Option HO) (H : Hp) : V → PyData → Prop
  | sc {x : V} {d : PyData} : scD x = some d → Dd so H x d
  | lst {a : Addr} {xs : List V} {ds : List PyData} : rd so H a = some (.lst xs) → Dds so H xs ds → Dd so H (.ref a) (.list ds)
  | tup {a : Addr} {xs : List V} {ds : List PyData} : rd so H a = some (.tup xs) → Dds so H xs ds → Dd so H (.ref a) (.tuple ds)
inductive Dds (so : Addr → Option HO) (H : Hp) : List V → List PyData → Prop
  | nil : Dds so H [] []
  | cons {v : V} {vs : List V} {d : PyData} {ds : List PyData} : Dd so H v d → Dds so H vs ds → Dds so H (v :: vs) (d :: ds)
end
theorem dp_sc {K : PySem.W.Frag} {H : Hp} {x : V} {d : PyData} (h : scD x = some d) : Dp K H x d := by
  cases x <;> simp only [scD, Option.some.injEq, reduceCtorEq] at h <;> subst h <;> constructor
section
variable {K : PySem.W.Frag} {so : Addr → Option HO} {H : Hp} (S : SoOk K so)
include S
mutual
theorem Dd.dp : ∀ {v : V} {d : PyData}, Dd so H v d → Dp K H v d
  | _, _, .sc h => dp_sc h
  | _, _, .lst h t => .lst (rd_lst S h) t.dp
  | _, _, .tup h t => .tup (rd_tup S h) t.dp
theorem Dds.dp : ∀ {v : List V} {d : List PyData}, Dds so H v d → DpAll K H v d
  | _, _, .nil => .nil
  | _, _, .cons h t => .cons h.dp t.dp
end
end
/-- a number, a truth, None as data -/
def scN : V → Option PyData
  | .non => some .none
  | .bl b => some (.bool b)
  | .int i => some (.int i)
  | _ => none
/-- == (neg: !=) -/
def eqD (so : Addr → Option HO) (neg : Bool) : R2 := fun x y H Q => match x, y with
  | .str i, .str j => Q (.bl (decide (i = j) != neg)) H
  | _, _ => (match scN x, scN y with
    | some d, some e => Q (.bl (PyData.eqv d e != neg)) H
    | _, _ => ∃ d e, Dd so H x d ∧ Dd so H y e ∧ SeqAt.shaped d = true ∧ SeqAt.shaped e = true ∧ Q (.bl (PyData.eqv d e != neg)) H)
theorem sc_shaped {x : V} {d : PyData} (h : scN x = some d) : SeqAt.shaped d = true := by
  cases x <;> simp only [scN, Option.some.injEq, reduceCtorEq] at h <;> subst h <;> rfl
theorem sc_dp {K : PySem.W.Frag} {H : Hp} {x : V} {d : PyData} (h : scN x = some d) : Dp K H x d := by
  cases x <;> simp only [scN, Option.some.injEq, reduceCtorEq] at h <;> subst h <;> constructor
theorem str_dec {i j : Str} : decide (V.str i = V.str j) = decide (i = j) := by
  by_cases h : i = j
  · subst h; simp
  · simp [h]
theorem op_eqQ {X : Cx} {so : Addr → Option HO} (S : SoOk X.K so) (hu : X.A.units + 64 < cLine) : OpR X (compareOp .Eq) (eqD so false) := OpR.imp (op_eq.or (op_eqD hu)) fun x y H Q h => by
  unfold eqD at h
  split at h
  · exact .inl ⟨rfl, by rw [str_dec]; simpa using h⟩
  · split at h
    · rename_i d e h1 h2
      exact .inr ⟨d, e, sc_dp h1, sc_dp h2, sc_shaped h1, sc_shaped h2, by simpa using h⟩
    · obtain ⟨d, e, h1, h2, h3, h4, q⟩ := h
      exact .inr ⟨d, e, h1.dp S, h2.dp S, h3, h4, by simpa using q⟩
theorem op_neQ {X : Cx} {so : Addr → Option HO} (S : SoOk X.K so) (hu : X.A.units + 64 < cLine) : OpR X (compareOp .NotEq) (eqD so true) := OpR.imp (op_ne.or (op_neD hu)) fun x y H Q h => by
  unfold eqD at h
  split at h
  · exact .inl ⟨rfl, by rw [str_dec]; simpa using h⟩
  · split at h
    · rename_i d e h1 h2
      exact .inr ⟨d, e, sc_dp h1, sc_dp h2, sc_shaped h1, sc_shaped h2, by simpa using h⟩
    · obtain ⟨d, e, h1, h2, h3, h4, q⟩ := h
      exact .inr ⟨d, e, h1.dp S, h2.dp S, h3, h4, by simpa using q⟩
def ordV (p : Int → Int → Bool) : R2 := fun x y H Q => match x, y with
  | .int i, .int j => Q (.bl (p i j)) H
  | _, _ => False
/-- a key's value -/
def keyV : V → Option Key
  | .int i => some (.inl i)
  | .str x => some (.inr x)
  | _ => none
theorem keyV_kV {y : V} {k : Key} (h : keyV y = some k) : y = kV k := by
  cases y <;> simp only [keyV, Option.some.injEq, reduceCtorEq] at h <;> subst h <;> rfl
/-- in (neg: not in) -/
def inD (so : Addr → Option HO) (neg : Bool) : R2 := fun x y H Q => match y with
  | .str j => (match x with
    | .str i => Q (.bl ((!(Builtin.Str.occurrences j i 0 j.length 1).isEmpty) != neg)) H
    | _ => False)
  | .ref p => (match rd so H p with
    | some (.lst xs) => flatV x = true ∧ xs.all flatV = true ∧ Q (.bl (inV x xs != neg)) H
    | some (.tup xs) => flatV x = true ∧ xs.all flatV = true ∧ Q (.bl (inV x xs != neg)) H
    | some (.dK kvs) => (match H p, keyV x with
      | some (.dK _), some k => Q (.bl ((valV kvs k).isSome != neg)) H
      | _, _ => False)
    | _ => False)
  | _ => False
theorem op_dIn {X : Cx} (hu : X.A.units + 1 < cLine) : OpR X (compareOp .In) (fun y x H Q => ∃ a o, x = .ref a ∧ DGet H a y o ∧ Q (.bl o.isSome) H) := by
  intro pins s σ H y x v u Q I ry rx h
  obtain ⟨a, o, rfl, g, q⟩ := h
  obtain rfl : u = Value.ref a := rx
  exact d_in hu I g ry fun s3 I3 => ⟨.bl o.isSome, H, I3, rfl, q⟩
theorem op_dNotIn {X : Cx} (hu : X.A.units + 1 < cLine) : OpR X (compareOp .NotIn) (fun y x H Q => ∃ a o, x = .ref a ∧ DGet H a y o ∧ Q (.bl (!o.isSome)) H) := by
  intro pins s σ H y x v u Q I ry rx h
  obtain ⟨a, o, rfl, g, q⟩ := h
  obtain rfl : u = Value.ref a := rx
  exact d_notIn hu I g ry fun s3 I3 => ⟨.bl (!o.isSome), H, I3, rfl, q⟩
theorem rd_dK {so : Addr → Option HO} {K : PySem.W.Frag} (S : SoOk K so) {H : Hp} {p : Addr} {kvs kvs' : List (Key × V)} (h : rd so H p = some (.dK kvs)) (h' : H p = some (.dK kvs')) : H p = some (.dK kvs) := by
  unfold rd at h
  rw [h'] at h
  cases h
  exact h'
theorem op_inQ {X : Cx} {so : Addr → Option HO} (S : SoOk X.K so) (hu : X.A.units + 1 < cLine) : OpR X (compareOp .In) (inD so false) := OpR.imp (op_in_str.or (op_in_seq.or (op_dIn hu))) fun x y H Q h => by
  unfold inD at h
  split at h
  · split at h
    · exact .inl ⟨_, _, rfl, rfl, by simpa using h⟩
    · exact h.elim
  · split at h
    · rename_i e
      exact .inr (.inl ⟨_, _, rfl, .inl (rd_lst S e), h.1, h.2.1, by simpa using h.2.2⟩)
    · rename_i e
      exact .inr (.inl ⟨_, _, rfl, .inr (rd_tup S e), h.1, h.2.1, by simpa using h.2.2⟩)
    · split at h
      · rename_i e _ _ _ _ e1 e2
        rw [keyV_kV e2]
        exact .inr (.inr ⟨_, _, rfl, .k (rd_dK S e e1), by simpa using h⟩)
      · exact h.elim
    · exact h.elim
  · exact h.elim
theorem op_notInQ {X : Cx} {so : Addr → Option HO} (S : SoOk X.K so) (hu : X.A.units + 1 < cLine) : OpR X (compareOp .NotIn) (inD so true) := OpR.imp (op_notin_str.or (op_notIn_seq.or (op_dNotIn hu))) fun x y H Q h => by
  unfold inD at h
  split at h
  · split at h
    · exact .inl ⟨_, _, rfl, rfl, by simpa using h⟩
    · exact h.elim
  · split at h
    · rename_i e
      exact .inr (.inl ⟨_, _, rfl, .inl (rd_lst S e), h.1, h.2.1, by simpa using h.2.2⟩)
    · rename_i e
      exact .inr (.inl ⟨_, _, rfl, .inr (rd_tup S e), h.1, h.2.1, by simpa using h.2.2⟩)
    · split at h
      · rename_i e _ _ _ _ e1 e2
        rw [keyV_kV e2]
        exact .inr (.inr ⟨_, _, rfl, .k (rd_dK S e e1), by simpa using h⟩)
      · exact h.elim
    · exact h.elim
  · exact h.elim
/-- is (neg: is not) -/
def isV (neg : Bool) : R2 := fun x y H Q => match x, y with
  | _, .non => Q (.bl (decide (x = .non) != neg)) H
  | .bl a, .bl b => Q (.bl (decide (a = b) != neg)) H
  | .ref p, .ref q => (match H p, H q with
    | some op, some oq => isObj op = true ∧ isObj oq = true ∧ Q (.bl (decide (p = q) != neg)) H
    | _, _ => False)
  | _, _ => False
theorem op_isQ {X : Cx} : OpR X (compareOp .Is) (isV false) := OpR.imp (op_isN.or (op_isBl.or op_is_ref)) fun x y H Q h => by
  unfold isV at h
  split at h
  · exact .inl ⟨rfl, by simpa using h⟩
  · exact .inr (.inl ⟨_, _, rfl, rfl, by simpa using h⟩)
  · split at h
    · rename_i e1 e2
      exact .inr (.inr ⟨_, _, _, _, rfl, rfl, e1, h.1, e2, h.2.1, by simpa using h.2.2⟩)
    · exact h.elim
  · exact h.elim
theorem op_isNotQ {X : Cx} : OpR X (compareOp .IsNot) (isV true) := OpR.imp (op_notN.or (op_notBl.or op_isnot_ref)) fun x y H Q h => by
  unfold isV at h
  split at h
  · exact .inl ⟨rfl, by simpa using h⟩
  · exact .inr (.inl ⟨_, _, rfl, rfl, by simpa using h⟩)
  · split at h
    · rename_i e1 e2
      exact .inr (.inr ⟨_, _, _, _, rfl, rfl, e1, h.1, e2, h.2.1, by simpa using h.2.2⟩)
    · exact h.elim
  · exact h.elim
def cmpV (so : Addr → Option HO) (o : CmpOp) : R2 := fun x y H Q => match o with
  | .Eq => eqD so false x y H Q
  | .NotEq => eqD so true x y H Q
  | .Lt => ordV (fun i j => decide (i < j)) x y H Q
  | .LtE => ordV (fun i j => decide (i ≤ j)) x y H Q
  | .Gt => ordV (fun i j => decide (j < i)) x y H Q
  | .GtE => ordV (fun i j => decide (j ≤ i)) x y H Q
  | .In => inD so false x y H Q
  | .NotIn => inD so true x y H Q
  | .Is => isV false x y H Q
  | .IsNot => isV true x y H Q
theorem op_ordV {X : Cx} {f : Value → Value → Sem Value} {p : Int → Int → Bool} (h : OpR X f (rI0 fun i j => .bl (p i j))) : OpR X f (ordV p) := OpR.imp h fun x y H Q h => by
  unfold ordV at h
  split at h
  · exact ⟨_, _, rfl, rfl, h⟩
  · exact h.elim
theorem op_cmpV {X : Cx} {so : Addr → Option HO} (S : SoOk X.K so) (hu : X.A.units + 64 < cLine) (o : CmpOp) : OpR X (compareOp o) (cmpV so o) :=
  have hu1 : X.A.units + 1 < cLine := by omega
  match o with
  | .Eq => op_eqQ S hu
  | .NotEq => op_neQ S hu
  | .Lt => op_ordV op_lt
  | .LtE => op_ordV op_le
  | .Gt => op_ordV op_gt
  | .GtE => op_ordV op_ge
  | .In => op_inQ S hu1
  | .NotIn => op_notInQ S hu1
  | .Is => op_isQ
  | .IsNot => op_isNotQ
/-! ### truth -/
def truV (so : Addr → Option HO) (H : Hp) : V → Option Bool
  | .non => some false
  | .bl b => some b
  | .int i => some (i != 0)
  | .ref p => (match rd so H p with
    | some (.lst xs) => some (!xs.isEmpty)
    | some (.tup xs) => some (!xs.isEmpty)
    | some (.dK kvs) => (match H p with
      | some (.dK _) => some (!kvs.isEmpty)
      | _ => none)
    | _ => none)
  | _ => none
theorem truV_ok {K : PySem.W.Frag} {so : Addr → Option HO} (S : SoOk K so) {H : Hp} {x : V} {k : Bool} (h : truV so H x = some k) : TruV K x H k := by
  cases x with
  | non => exact (Option.some.inj h).symm
  | bl b => exact (Option.some.inj h).symm
  | int i => exact (Option.some.inj h).symm
  | ref p =>
    unfold truV at h
    simp only at h
    split at h
    · rename_i e
      exact .inl ⟨_, rd_lst S e, (Option.some.inj h).symm⟩
    · rename_i e
      exact .inr (.inl ⟨_, rd_tup S e, (Option.some.inj h).symm⟩)
    · split at h
      · rename_i e _ _ e1
        exact .inr (.inr ⟨_, rd_dK S e e1, (Option.some.inj h).symm⟩)
      · cases h
    · cases h
  | _ => cases h
end QL
set_option Elab.async false
set_option linter.all false
set_option maxRecDepth 100000
set_option maxHeartbeats 4000000
/-! Q3: built-in functions, items, slices. -/
namespace QL
open PySem PySem.Spec L2
open PyProof.Rows hiding St
inductive Bi where
  | len | int | bool | str | repr | min | max | abs | sum | list | tuple | any | all | sorted
  deriving DecidableEq
def lenV (so : Addr → Option HO) (H : Hp) : V → Option Nat
  | .str y => if y.length ≤ sizeLine then some y.length else none
  | .ref p => (match rd so H p with
    | some (.lst xs) => some xs.length
    | some (.tup xs) => some xs.length
    | some (.dK kvs) => (match H p with
      | some (.dK _) => some kvs.length
      | _ => none)
    | _ => none)
  | _ => none
/-- ints out of values -/
def intsV : List V → Option (List Int)
  | [] => some []
  | .int i :: r => (intsV r).map (i :: ·)
  | _ :: _ => none
def blsV : List V → Option (List Bool)
  | [] => some []
  | .bl i :: r => (blsV r).map (i :: ·)
  | _ :: _ => none
theorem intsV_map : ∀ {xs : List V} {ns : List Int}, intsV xs = some ns → xs = ns.map V.int
  | [], ns, h => by cases h; rfl
  | .int i :: r, ns, h => by
    unfold intsV at h
    cases e : intsV r with
    | none => rw [e] at h; cases h
    | some m => rw [e] at h; cases h; rw [List.map_cons, ← intsV_map e]
  | .non :: _, _, h | .bl _ :: _, _, h | .str _ :: _, _, h | .byt _ :: _, _, h | .flt _ :: _, _, h | .ref _ :: _, _, h | .ty _ :: _, _, h => by cases h
theorem blsV_map : ∀ {xs : List V} {ns : List Bool}, blsV xs = some ns → xs = ns.map V.bl
  | [], ns, h => by cases h; rfl
  | .bl i :: r, ns, h => by
    unfold blsV at h
    cases e : blsV r with
    | none => rw [e] at h; cases h
    | some m => rw [e] at h; cases h; rw [List.map_cons, ← blsV_map e]
  | .non :: _, _, h | .int _ :: _, _, h | .str _ :: _, _, h | .byt _ :: _, _, h | .flt _ :: _, _, h | .ref _ :: _, _, h | .ty _ :: _, _, h => by cases h
@[simp] theorem intsV_ints (ns : List Int) : intsV (ns.map V.int) = some ns := by
  induction ns with
  | nil => rfl
  | cons a r ih => simp [intsV, ih]
@[simp] theorem blsV_bls (ns : List Bool) : blsV (ns.map V.bl) = some ns := by
  induction ns with
  | nil => rfl
  | cons a r ih => simp [blsV, ih]
/-- a list's items -/
def lstV (so : Addr → Option HO) (H : Hp) : V → Option (List V)
  | .ref p => (match rd so H p with
    | some (.lst xs) => some xs
    | _ => none)
  | _ => none
def tupV (so : Addr → Option HO) (H : Hp) : V → Option (List V)
  | .ref p => (match rd so H p with
    | some (.tup xs) => some xs
    | _ => none)
  | _ => none
theorem lstV_ok {K : PySem.W.Frag} {so : Addr → Option HO} (S : SoOk K so) {H : Hp} {x : V} {xs : List V} (h : lstV so H x = some xs) : ∃ p, x = .ref p ∧ SqL K H p xs := by
  cases x with
  | ref p =>
    unfold lstV at h
    simp only at h
    split at h
    · rename_i e
      cases h
      exact ⟨p, rfl, rd_lst S e⟩
    · cases h
  | _ => cases h
theorem tupV_ok {K : PySem.W.Frag} {so : Addr → Option HO} (S : SoOk K so) {H : Hp} {x : V} {xs : List V} (h : tupV so H x = some xs) : ∃ p, x = .ref p ∧ SqT K H p xs := by
  cases x with
  | ref p =>
    unfold tupV at h
    simp only at h
    split at h
    · rename_i e
      cases h
      exact ⟨p, rfl, rd_tup S e⟩
    · cases h
  | _ => cases h
def bLen (so : Addr → Option HO) : List V → Hp → VK → Prop := fun xs H Q => match xs with
  | [x] => (match lenV so H x with
    | some n => Q (.int n) H
    | none => False)
  | _ => False
def bInt : List V → Hp → VK → Prop := fun xs H Q => match xs with
  | [.int i] => Q (.int i) H
  | [.bl k] => Q (.int (if k then 1 else 0)) H
  | [.str a] => a.length ≤ 640 ∧ ∃ n, PySem.intText? a = some n ∧ Q (.int n) H
  | _ => False
def bBool : List V → Hp → VK → Prop := fun xs H Q => match xs with
  | [.int i] => Q (.bl (i != 0)) H
  | [.bl k] => Q (.bl k) H
  | _ => False
def bStr : List V → Hp → VK → Prop := fun xs H Q => match xs with
  | [.int i] => i.natAbs.log2 < 1920 ∧ Q (.str (toString i)) H
  | _ => False
def bRepr (so : Addr → Option HO) : List V → Hp → VK → Prop := fun xs H Q => match xs with
  | [x] => (∃ d, Dd so H x d ∧ d.showable = true ∧ d.hasDict = false ∧ d.depth ≤ 60 ∧ d.shown.length ≤ sizeLine ∧ Q (.str d.shown) H) ∨ ∃ a, x = .ref a ∧ H a = some (.dK []) ∧ Q (.str "{}") H
  | _ => False
def bMin : List V → Hp → VK → Prop := fun xs H Q => match xs with
  | [.int i, .int j] => Q (.int (if j < i then j else i)) H
  | _ => False
def bMax : List V → Hp → VK → Prop := fun xs H Q => match xs with
  | [.int i, .int j] => Q (.int (if j > i then j else i)) H
  | _ => False
def bAbs : List V → Hp → VK → Prop := fun xs H Q => match xs with
  | [.int i] => Q (.int (if i < 0 then -i else i)) H
  | _ => False
def bSum (so : Addr → Option HO) : List V → Hp → VK → Prop := fun xs H Q => match xs with
  | [x] => (match (lstV so H x).bind intsV with
    | some ns => Q (.int ns.sum) H
    | none => False)
  | _ => False
def bAny (so : Addr → Option HO) : List V → Hp → VK → Prop := fun xs H Q => match xs with
  | [x] => (match (lstV so H x).bind blsV with
    | some bs => Q (.bl (bs.any id)) H
    | none => False)
  | _ => False
def bAll (so : Addr → Option HO) : List V → Hp → VK → Prop := fun xs H Q => match xs with
  | [x] => (match (lstV so H x).bind blsV with
    | some bs => Q (.bl (bs.all id)) H
    | none => False)
  | _ => False
def bList (so : Addr → Option HO) : List V → Hp → VK → Prop := fun xs H Q => match xs with
  | [x] => (match lstV so H x, tupV so H x with
    | some ys, _ => ∀ l, H l = none → so l = none → Q (.ref l) (upd H l (.lst ys))
    | none, some ys => ∀ l, H l = none → so l = none → Q (.ref l) (upd H l (.lst ys))
    | none, none => False)
  | _ => False
def bTuple (so : Addr → Option HO) : List V → Hp → VK → Prop := fun xs H Q => match xs with
  | [x] => (match lstV so H x, tupV so H x with
    | some ys, _ => ∀ l, H l = none → so l = none → Q (.ref l) (upd H l (.tup ys))
    | none, some _ => Q x H
    | none, none => False)
  | _ => False
def bSorted (so : Addr → Option HO) : List V → Hp → VK → Prop := fun xs H Q => match xs with
  | [x] => (match (lstV so H x).bind intsV with
    | some ns => ns.length < 64 ∧ ∀ (ns' : List Int) (p : Addr), ns'.Perm ns → ns'.Pairwise (· ≤ ·) → H p = none → so p = none → Q (.ref p) (upd H p (.lst (ns'.map V.int)))
    | none => False)
  | _ => False
def biV (so : Addr → Option HO) : Bi → List V → Hp → VK → Prop
  | .len => bLen so
  | .int => bInt
  | .bool => bBool
  | .str => bStr
  | .repr => bRepr so
  | .min => bMin
  | .max => bMax
  | .abs => bAbs
  | .sum => bSum so
  | .list => bList so
  | .tuple => bTuple so
  | .any => bAny so
  | .all => bAll so
  | .sorted => bSorted so
/-- what a built-in is called, and what it is -/
def biN : Bi → Str
  | .len => "len" | .int => "int" | .bool => "bool" | .str => "str" | .repr => "repr" | .min => "min" | .max => "max" | .abs => "abs" | .sum => "sum" | .list => "list" | .tuple => "tuple" | .any => "any" | .all => "all" | .sorted => "sorted"
def biF : Bi → Value
  | .len => .builtin "len" | .int => .type "int" | .bool => .type "bool" | .str => .type "str" | .repr => .builtin "repr" | .min => .builtin "min" | .max => .builtin "max" | .abs => .builtin "abs" | .sum => .builtin "sum" | .list => .type "list" | .tuple => .type "tuple"
  | .any => .builtin "any" | .all => .builtin "all" | .sorted => .builtin "sorted"
theorem biB (b : Bi) : bootBuiltins (biN b) = some (biF b) := by cases b <;> decide +kernel
theorem biN_name (b : Bi) : biN b ≠ "__name__" := by cases b <;> decide
theorem biN_debug (b : Bi) : (biN b == ("__debug__" : Str)) = false := by cases b <;> decide
section
variable {X : Cx} {so : Addr → Option HO}
theorem call_reprQ (S : SoOk X.K so) (hg : X.A.guards = some []) (hu : X.A.units + 64 < cLine) : CallR X (.builtin "repr") (fun xs H Q => ∃ x d, xs = [x] ∧ Dd so H x d ∧ d.showable = true ∧ d.hasDict = false ∧ d.depth ≤ 60 ∧ d.shown.length ≤ sizeLine ∧ Q (.str d.shown) H) := by
  intro pins s σ H xs us Q I r h
  obtain ⟨x, d, rfl, hd, hs, hn, hp, hz, q⟩ := h
  obtain ⟨u, rfl, rx⟩ := vals1 r
  have D := hd.dp S
  have fin : ∀ (tk : Nat) (t : Tok), EP X pins σ Q (.str d.shown t) { s with toks := tk } := fun tk t => ⟨.str d.shown, H, I.tok tk, ⟨t, rfl⟩, q⟩
  cases D with
  | non =>
    cases rx
    exact PySem.P.repr_of_none (fin _ _)
  | bl b =>
    cases rx
    refine PySem.P.repr_of_bool ?_
    have e := fin (s.toks + 1) s.toks
    unfold PyData.shown at e
    cases b <;> exact e
  | int i =>
    obtain ⟨t, rfl⟩ := rx
    exact PySem.P.repr_of_int (of_decide_eq_true hs) (fin _ _)
  | str y =>
    obtain ⟨t, rfl⟩ := rx
    exact PySem.P.repr_of_str (fin _ _) hz
  | @lst a ys ds sq da =>
    obtain ⟨as, rr⟩ := Dp.reads I _ _ u (.lst sq da) rx
    cases rx
    exact repr_of_reads' rr hs (PyData.noDict_hsm hn) hg (by omega) (fun _ _ e => e) (fun h' t tk hk => ⟨.str _, H, I.kept (t' := tk) hk, ⟨t, rfl⟩, q⟩) hz
  | @tup a ys ds sq da =>
    obtain ⟨as, rr⟩ := Dp.reads I _ _ u (.tup sq da) rx
    cases rx
    exact repr_of_reads' rr hs (PyData.noDict_hsm hn) hg (by omega) (fun _ _ e => e) (fun h' t tk hk => ⟨.str _, H, I.kept (t' := tk) hk, ⟨t, rfl⟩, q⟩) hz
/-- repr of an empty dict -/
theorem call_repr0 (hg : X.A.guards = some []) (hu : X.A.units + 64 < cLine) : CallR X (.builtin "repr") (fun xs H Q => ∃ a, xs = [.ref a] ∧ H a = some (.dK []) ∧ Q (.str "{}") H) := by
  intro pins s σ H xs us Q I r h
  obtain ⟨a, rfl, ha, q⟩ := h
  obtain ⟨u, rfl, rx⟩ := vals1 r
  cases rx
  obtain ⟨_, hsm, vs, kv, o, es, ep, ho, ex, hd, _, hp, _⟩ := I.hok a _ ha
  cases kv
  have he : es.toList = [] := by
    generalize es.toList = l at hp
    cases hp
    rfl
  have r0 : Reads s.heap (.ref a) (.dict []) (a :: [] ++ []) := by
    refine Reads.dict ho ex.1 hd ?_ ?_
    · rw [he]; exact .nil
    · rw [he]; exact .nil
  refine repr_of_reads' r0 (by decide +kernel) (fun _ hm => ?_) hg (by have hdp : (PyData.dict []).depth ≤ 1 := (by decide +kernel); omega) (fun _ _ e => e) (fun h' t tk hk => ⟨.str "{}", H, I.kept (t' := tk) hk, ⟨t, by rw [show (PyData.dict []).shown = ("{}" : Str) from by kernel_rfl]⟩, q⟩) (by decide +kernel)
  have : sysModules = a := by simpa using hm
  rw [this] at hsm
  simp at hsm
theorem call_lenQ (S : SoOk X.K so) : CallR X (.builtin "len") (bLen so) := CallR.imp (CallR.or call_len call_lenD) fun xs H Q h => by
  unfold bLen at h
  split at h
  · rename_i x
    split at h
    · rename_i n e
      cases x with
      | str y =>
        unfold lenV at e
        simp only at e
        split at e
        · rename_i z
          cases e
          exact .inl ⟨_, _, rfl, ⟨z, rfl⟩, h⟩
        · cases e
      | ref p =>
        unfold lenV at e
        simp only at e
        split at e
        · rename_i e1
          cases e
          exact .inl ⟨_, _, rfl, .inl ⟨_, rd_lst S e1, rfl⟩, h⟩
        · rename_i e1
          cases e
          exact .inl ⟨_, _, rfl, .inr ⟨_, rd_tup S e1, rfl⟩, h⟩
        · split at e
          · rename_i e1 _ _ e2
            cases e
            exact .inr ⟨_, _, rfl, rd_dK S e1 e2, h⟩
          · cases e
        · cases e
      | _ => cases e
    · exact h.elim
  · exact h.elim
theorem bind_some {α β : Type} {x : Option α} {f : α → Option β} {b : β} (h : x.bind f = some b) : ∃ a, x = some a ∧ f a = some b := by
  cases x with
  | none => cases h
  | some a => exact ⟨a, rfl, h⟩
theorem ints_at (S : SoOk X.K so) {H : Hp} {x : V} {ns : List Int} (h : (lstV so H x).bind intsV = some ns) : ∃ p, x = .ref p ∧ SqL X.K H p (ns.map V.int) := by
  obtain ⟨xs, h1, h2⟩ := bind_some h
  obtain ⟨p, rfl, q⟩ := lstV_ok S h1
  rw [intsV_map h2] at q
  exact ⟨p, rfl, q⟩
theorem bls_at (S : SoOk X.K so) {H : Hp} {x : V} {ns : List Bool} (h : (lstV so H x).bind blsV = some ns) : ∃ p, x = .ref p ∧ SqL X.K H p (ns.map V.bl) := by
  obtain ⟨xs, h1, h2⟩ := bind_some h
  obtain ⟨p, rfl, q⟩ := lstV_ok S h1
  rw [blsV_map h2] at q
  exact ⟨p, rfl, q⟩
theorem call_no {f : Value} : CallR X f (fun _ _ _ => False) := fun _ _ _ _ _ _ _ _ _ h => h.elim
theorem call_biV (S : SoOk X.K so) (hc : X.calm = true) (hg : X.A.guards = some []) (hu : X.A.units + 64 < cLine) : ∀ b : Bi, CallR X (biF b) (biV so b)
  | .len => call_lenQ S
  | .int => CallR.imp (CallR.or call_int1 call_int_str) fun xs H Q h => by
    change bInt xs H Q at h
    unfold bInt at h
    split at h
    · exact .inl (.inl ⟨_, rfl, h⟩)
    · exact .inl (.inr ⟨_, rfl, h⟩)
    · obtain ⟨z, n, e, q⟩ := h
      exact .inr ⟨_, _, rfl, e, z, q⟩
    · exact h.elim
  | .bool => CallR.imp call_bool1 fun xs H Q h => by
    change bBool xs H Q at h
    unfold bBool at h
    split at h
    · exact .inl ⟨_, rfl, h⟩
    · exact .inr ⟨_, rfl, h⟩
    · exact h.elim
  | .str => CallR.imp call_str_int fun xs H Q h => by
    change bStr xs H Q at h
    unfold bStr at h
    split at h
    · exact ⟨_, rfl, h.1, h.2⟩
    · exact h.elim
  | .repr => CallR.imp (CallR.or (call_reprQ S hg hu) (call_repr0 hg hu)) fun xs H Q h => by
    change bRepr so xs H Q at h
    unfold bRepr at h
    split at h
    · rcases h with ⟨d, q⟩ | ⟨a, rfl, q⟩
      · exact .inl ⟨_, d, rfl, q⟩
      · exact .inr ⟨a, rfl, q⟩
    · exact h.elim
  | .min => CallR.imp (call_min2 hc) fun xs H Q h => by
    change bMin xs H Q at h
    unfold bMin at h
    split at h
    · exact ⟨_, _, rfl, h⟩
    · exact h.elim
  | .max => CallR.imp (call_max2 hc) fun xs H Q h => by
    change bMax xs H Q at h
    unfold bMax at h
    split at h
    · exact ⟨_, _, rfl, h⟩
    · exact h.elim
  | .abs => CallR.imp call_abs fun xs H Q h => by
    change bAbs xs H Q at h
    unfold bAbs at h
    split at h
    · exact ⟨_, rfl, h⟩
    · exact h.elim
  | .sum => CallR.imp (cr_sum hc) fun xs H Q h => by
    change bSum so xs H Q at h
    unfold bSum at h
    split at h
    · split at h
      · rename_i e
        obtain ⟨p, rfl, sq⟩ := ints_at S e
        exact ⟨p, _, rfl, sq, h⟩
      · exact h.elim
    · exact h.elim
  | .any => CallR.imp (cr_any hc) fun xs H Q h => by
    change bAny so xs H Q at h
    unfold bAny at h
    split at h
    · split at h
      · rename_i e
        obtain ⟨p, rfl, sq⟩ := bls_at S e
        exact ⟨p, _, rfl, sq, h⟩
      · exact h.elim
    · exact h.elim
  | .all => CallR.imp (cr_all hc) fun xs H Q h => by
    change bAll so xs H Q at h
    unfold bAll at h
    split at h
    · split at h
      · rename_i e
        obtain ⟨p, rfl, sq⟩ := bls_at S e
        exact ⟨p, _, rfl, sq, h⟩
      · exact h.elim
    · exact h.elim
  | .list => CallR.imp (CallR.nok S call_list_of) fun xs H Q h => by
    change bList so xs H Q at h
    unfold bList at h
    split at h
    · split at h
      · rename_i e
        obtain ⟨p, rfl, sq⟩ := lstV_ok S e
        exact ⟨p, _, rfl, .inl sq, fun l hl nk => h l hl (nok_upd nk)⟩
      · rename_i e
        obtain ⟨p, rfl, sq⟩ := tupV_ok S e
        exact ⟨p, _, rfl, .inr sq, fun l hl nk => h l hl (nok_upd nk)⟩
      · exact h.elim
    · exact h.elim
  | .tuple => CallR.imp (CallR.nok S call_tuple_of) fun xs H Q h => by
    change bTuple so xs H Q at h
    unfold bTuple at h
    split at h
    · split at h
      · rename_i e
        obtain ⟨p, rfl, sq⟩ := lstV_ok S e
        exact ⟨p, _, rfl, .inl ⟨sq, fun l hl nk => h l hl (nok_upd nk)⟩⟩
      · rename_i e
        obtain ⟨p, rfl, sq⟩ := tupV_ok S e
        exact ⟨p, _, rfl, .inr ⟨sq, fun _ => h⟩⟩
      · exact h.elim
    · exact h.elim
  | .sorted => CallR.imp (CallR.nok S cr_sorted) fun xs H Q h => by
    change bSorted so xs H Q at h
    unfold bSorted at h
    split at h
    · split at h
      · rename_i e
        obtain ⟨p, rfl, sq⟩ := ints_at S e
        exact ⟨p, _, rfl, sq, h.1, fun a b h1 h2 h3 nk => h.2 a b h1 h2 h3 (nok_upd nk)⟩
      · exact h.elim
    · exact h.elim
/-- b(e, ..), b a built-in -/
theorem pe_bi {b : Bi} {p pos : Pos} {e : Expr} {es : List Expr} {t : TA} (S : SoOk X.K so) (hc : X.calm = true) (hg : X.A.guards = some []) (hu : X.A.units + 64 < cLine) (hgl : Gl X (biN b)) (hm : X.mg (biN b) = none) (ha : PA X (e :: es) t)
    (he : starEach (e :: es) X.env = (false, eval e X.env) :: starEach es X.env) (hpl : (backTo pos (starEach es X.env)).any (·.1) = false) : PE X (.Call (.Name (biN b) p) (e :: es) [] pos) (fun σ H Q => t σ H fun vs H1 => biV so b vs H1 Q) := by
  have hcb := call_biV S hc hg hu b
  have hv := biB b
  have hn := biN_name b
  have hd := biN_debug b
  cases hk : biF b with
  | builtin i =>
    rw [hk] at hcb hv
    exact pe_callB hcb hgl hm hv ha hn hd he hpl
  | type i =>
    rw [hk] at hcb hv
    exact pe_callTy hcb hgl hm hv ha hn hd he hpl
  | _ => cases b <;> cases hk
end
/-! ### items and slices -/
def idxV (so : Addr → Option HO) : R2 := fun x y H Q => match x, y with
  | .ref p, .int i => (match rd so H p with
    | some (.lst xs) => (match atI xs i with
      | some v => Q v H
      | none => False)
    | some (.tup xs) => (match atI xs i with
      | some v => Q v H
      | none => False)
    | some (.dK kvs) => (match H p with
      | some (.dK _) => (match valV kvs (.inl i : Key) with
        | some v => Q v H
        | none => False)
      | _ => False)
    | _ => False)
  | .ref p, .str z => (match rd so H p with
    | some (.dK kvs) => (match H p with
      | some (.dK _) => (match valV kvs (.inr z : Key) with
        | some v => Q v H
        | none => False)
      | _ => False)
    | _ => False)
  | .str z, .int i => z.length ≤ sizeLine ∧ (match atI z.cps.toList i with
    | some c => Q (.str ⟨#[c]⟩) H
    | none => False)
  | _, _ => False
theorem IxR.imp {X : Cx} {r r' : R2} (h : IxR X r) (q : ∀ x y H Q, r' x y H Q → r x y H Q) : IxR X r' :=
  fun va sl pins s σ H x y v u Q I rx ry z => h va sl pins s σ H x y v u Q I rx ry (q x y H Q z)
/-- an item by a built-in's __getitem__, whatever it is -/
theorem tail_get {P : Program} {w : World} {A : Around} {E : Value → Shared → Prop} {s : Shared} {va sl : Expr} {o i : Value} {T id : String} {Q : Value → Shared → Prop} (hT : s.TypeIs o T) (hl : typeLookup (.type T) "__getitem__" = pure (some (.builtin id)))
    (h : wpAny (model P w) A (getItem o i) Q E s) (hs : subscripted sl false o i = operate [o, i] (getItem o i)) : wpAny (model P w) A (subscriptTail va sl o i) Q E s := by
  unfold subscriptTail
  refine wpAny_bind ?_
  rw [getitemInPython_of_ne hT.not_modules]
  refine wpAny_bind (wpAny_specialOf hT hl ?_)
  refine wpAny_pure (wpAny_bind ?_)
  rw [hs]
  exact wpAny_operating (wpAny_mono h (fun r s3 q => wpAny_bind (wpAny_letTemporaryGo (wpAny_pure q))) fun _ _ x => x)
theorem ix_dict {X : Cx} (hu : X.A.units + 1 < cLine) : IxR X (fun x y H Q => ∃ a v, x = .ref a ∧ DGet H a y (some v) ∧ Q v H) := by
  intro value slice pins s σ H x y v u Q I rx ry h hs
  obtain ⟨a, z, rfl, g, q⟩ := h
  obtain rfl : v = Value.ref a := rx
  exact tail_get (dict_typeIs I g) PySem.F.slot_dict_getitem.lookup (d_getItem hu I g ry fun w' s3 I3 rw' => ⟨z, H, I3, rw', q⟩) hs
theorem ix_idxV {X : Cx} {so : Addr → Option HO} (S : SoOk X.K so) (hu : X.A.units + 1 < cLine) : IxR X (idxV so) := IxR.imp (IxR.or ix_seq (ix_dict hu)) fun x y H Q h => by
  unfold idxV at h
  split at h
  · split at h
    · rename_i e
      split at h
      · rename_i e2
        exact .inl (.inl ⟨_, _, _, _, rfl, rfl, rd_lst S e, e2, h⟩)
      · exact h.elim
    · rename_i e
      split at h
      · rename_i e2
        exact .inl (.inr (.inl ⟨_, _, _, _, rfl, rfl, rd_tup S e, e2, h⟩))
      · exact h.elim
    · rename_i e
      split at h
      · rename_i e1
        split at h
        · rename_i e2
          refine .inr ⟨_, _, rfl, ?_, h⟩
          rw [← e2]
          exact DGet.k (k := Sum.inl _) (rd_dK S e e1)
        · exact h.elim
      · exact h.elim
    · exact h.elim
  · split at h
    · rename_i e
      split at h
      · rename_i e1
        split at h
        · rename_i e2
          refine .inr ⟨_, _, rfl, ?_, h⟩
          rw [← e2]
          exact DGet.k (k := Sum.inr _) (rd_dK S e e1)
        · exact h.elim
      · exact h.elim
    · exact h.elim
  · obtain ⟨z, h⟩ := h
    split at h
    · rename_i e
      exact .inl (.inr (.inr ⟨_, _, _, rfl, rfl, z, e, h⟩))
    · exact h.elim
  · exact h.elim
/-- x[lo:hi] -/
def slcV (so : Addr → Option HO) : V → Option Int → Option Int → Hp → VK → Prop := fun x lo hi H Q => match lstV so H x with
  | some xs => ∀ p, H p = none → so p = none → Q (.ref p) (upd H p (.lst (cutV xs lo hi)))
  | none => False
theorem SlR.imp {X : Cx} {r r' : V → Option Int → Option Int → Hp → VK → Prop} (h : SlR X r) (q : ∀ x lo hi H Q, r' x lo hi H Q → r x lo hi H Q) : SlR X r' :=
  fun pins s σ H x v vl vu lo hi sl Q I rx hs pl pu z => h pins s σ H x v vl vu lo hi sl Q I rx hs pl pu (q x lo hi H Q z)
theorem sl_slcV {X : Cx} {so : Addr → Option HO} (S : SoOk X.K so) : SlR X (slcV so) := SlR.imp (SlR.nok S sl_list) fun x lo hi H Q h => by
  unfold slcV at h
  split at h
  · rename_i e
    obtain ⟨p, rfl, sq⟩ := lstV_ok S e
    exact ⟨p, _, rfl, sq, fun l hl nk => h l hl (nok_upd nk)⟩
  · exact h.elim
/-! ### stores -/
def setV : TSet := fun o i v H Q => match o, i with
  | .ref p, .int k => (match H p with
    | some (.lst xs) => (match ixN xs.length k with
      | some j => Q (upd H p (.lst (xs.set j v)))
      | none => False)
    | some (.dK kvs) => kvs.length < sizeLine ∧ Q (upd H p (.dK (putK kvs (.inl k : Key) v)))
    | _ => False)
  | .ref p, .str z => (match H p with
    | some (.dK kvs) => kvs.length < sizeLine ∧ Q (upd H p (.dK (putK kvs (.inr z : Key) v)))
    | _ => False)
  | _, _ => False
theorem PSet.or {X : Cx} {t t' : TSet} (h : PSet X t) (h' : PSet X t') : PSet X (fun o i v H Q => t o i v H Q ∨ t' o i v H Q) := fun pins s σ H o i v ov iv u Q I ro ri rv z => z.elim (h pins s σ H o i v ov iv u Q I ro ri rv) (h' pins s σ H o i v ov iv u Q I ro ri rv)
theorem PSet.imp {X : Cx} {t t' : TSet} (h : PSet X t) (q : ∀ o i v H Q, t' o i v H Q → t o i v H Q) : PSet X t' := fun pins s σ H o i v ov iv u Q I ro ri rv z => h pins s σ H o i v ov iv u Q I ro ri rv (q o i v H Q z)
theorem set_dict {X : Cx} (hu : X.A.units + 1 < cLine) : PSet X (fun o i v H Q => ∃ a H4, o = .ref a ∧ DPut H a i v H4 ∧ Q H4) := by
  intro pins s σ H o i v ov iv u Q I ro ri rv h
  obtain ⟨a, H4, rfl, g, q⟩ := h
  obtain rfl : ov = Value.ref a := ro
  exact d_setItem hu I g ri rv fun s4 I4 => ⟨H4, I4, q⟩
theorem set_setV {X : Cx} (hu : X.A.units + 1 < cLine) : PSet X setV := PSet.imp (PSet.or set_list (set_dict hu)) fun o i v H Q h => by
  unfold setV at h
  split at h
  · split at h
    · rename_i e
      split at h
      · rename_i e2
        exact .inl ⟨_, _, _, _, rfl, rfl, e, e2, h⟩
      · exact h.elim
    · rename_i e
      exact .inr ⟨_, _, rfl, DPut.k (k := Sum.inl _) e h.1, h.2⟩
    · exact h.elim
  · split at h
    · rename_i e
      exact .inr ⟨_, _, rfl, DPut.k (k := Sum.inr _) e h.1, h.2⟩
    · exact h.elim
  · exact h.elim
end QL
set_option Elab.async false
set_option linter.all false
set_option maxRecDepth 100000
set_option maxHeartbeats 4000000
/-! X1: own exception classes over four of Python's own, whose __init__ calls the base's and stores one field, or none: made. -/
namespace QL
open PySem PySem.Spec L2
open PyProof.Rows hiding St
/-- the bases -/
inductive Xb where
  | ve | ie | oe | re
  deriving DecidableEq
def Xb.nm : Xb → String
  | .ve => "ValueError" | .ie => "IndexError" | .oe => "OverflowError" | .re => "RuntimeError"
def Xb.st : Xb → Str
  | .ve => "ValueError" | .ie => "IndexError" | .oe => "OverflowError" | .re => "RuntimeError"
def Xb.nw : Xb → String
  | .ve => "ValueError.__new__" | .ie => "IndexError.__new__" | .oe => "OverflowError.__new__" | .re => "RuntimeError.__new__"
def Xb.it : Xb → String
  | .ve => "ValueError.__init__" | .ie => "IndexError.__init__" | .oe => "OverflowError.__init__" | .re => "RuntimeError.__init__"
def Xb.bm : Xb → List Value
  | .ve => [.type "ValueError", .type "Exception", .type "BaseException", .type "object"]
  | .ie => [.type "IndexError", .type "LookupError", .type "Exception", .type "BaseException", .type "object"]
  | .oe => [.type "OverflowError", .type "ArithmeticError", .type "Exception", .type "BaseException", .type "object"]
  | .re => [.type "RuntimeError", .type "Exception", .type "BaseException", .type "object"]
theorem Xb.facts : ∀ b : Xb, ExcBaseFacts b.nm b.nw b.it b.bm
  | .ve => PySem.F.excBase_ValueError
  | .ie => PySem.F.excBase_IndexError
  | .oe => PySem.F.excBase_OverflowError
  | .re => PySem.F.excBase_RuntimeError
theorem Xb.passes (b : Xb) (self : Value) : refuseLoop self "__setattr__" b.bm = pure () := by
  cases b <;> kernel_rfl
theorem Xb.obj (b : Xb) : b.bm.contains (.type "object") = true := by cases b <;> decide +kernel
theorem Xb.typ (b : Xb) : typeOf (.type b.nm) = pure (.type "type") := by cases b <;> kernel_rfl
theorem Xb.boot (b : Xb) : bootBuiltins b.st = some (.type b.nm) := by cases b <;> decide +kernel
theorem Xb.stub (b : Xb) : Manifest.isStub b.nm = false := by cases b <;> decide +kernel
theorem Xb.hand (b : Xb) : PySem.W.handedIn (.builtin b.it) = true := by cases b <;> decide +kernel
section
open Builtin Builtin.ObjectAttr
variable {prog : Program} {w : World} {A : Around} {E : Value → Shared → Prop} {R : Result → Shared → Prop} {hp : Heap} {g : Array GenState} {d : Drawn} {t : Nat} {os : OsState}
/-- self.f = v, the first store into an exception of an own class over b -/
theorem osa_x (b : Xb) {K : PySem.W.Frag} {name : Str} {tk : Tok} {v : Value} {x C : Addr} {fv : Array Value} {cd : ClassData} {bm : List Value}
    (X : K.In hp) (hx : hp.get? x = some { cls := .ref C, data := .fields fv }) (hcd : PySem.W.clsIn K C = some cd) (hmr0 : cd.mro = .ref C :: bm) (hm : PySem.W.excTail b.bm bm = true) (hh : cd.hasDict = true) (ha : PySem.W.findIn K (.ref C) name = some none)
    (hq : ∀ h' tk' dx, (∀ b o, b ≠ x → hp.get? b = some o → h'.get? b = some o) → hp.objs.size ≤ dx → dx ≠ x → h'.get? x = some { cls := .ref C, dict := some dx, data := .fields fv } →
      h'.Ns1 dx (fun y => if y = name then some v else none) → R (.ok (.ret .none)) ⟨h', g, d, tk', os⟩) :
    codeAny (model prog w) A (.call (.builtin "object.__setattr__") ⟨[.ref x, .str name tk, v], []⟩) R ⟨hp, g, d, t, os⟩ := by
  have I : PySem.W.InstAt hp x { cls := .ref C, data := .fields fv } C none := ⟨hx, rfl, rfl, trivial⟩
  have SF := F.store_object
  have hm1 : PySem.W.excTail b.bm cd.mro = true := by rw [hmr0]; exact hm
  have ne : cd.mro.isEmpty = false := by rw [hmr0]; rfl
  have hob : cd.mro.contains (.type "object") = true := (PySem.W.excTail_contains "object" _ hm1).trans b.obj
  have hxs : x ≠ hp.objs.size := Nat.ne_of_lt (Heap.lt_size hx)
  have sub : PySem.W.Looks (model prog w) hp (isInstance (.ref x) (.type "object")) true := I.type.andThen (PySem.W.looks_mroIn X (by unfold PySem.W.mroIn; rw [hcd, Option.bind_some, if_neg (by rw [ne]; decide), hob]))
  refine codeAny_call_builtin SF.slot.plain SF.entry (@PySem.W.check_slot (model prog w) _ _ ⟨hp, g, d, t, os⟩ "object.__setattr__" "object" "__setattr__" (.ref x) [.str name tk, v] [] _ SF.kind SF.split sub (SF.args (.ref x) (.str name tk) v) ?_)
  have hmr : PySem.W.Looks (model prog w) hp (mroOf (.ref C)) cd.mro := (PySem.W.looks_clsIn X hcd).andThen .now
  have L3 : PySem.W.Looks (model prog w) hp (storeTaker? none) none := .now
  have hcls : PySem.W.Looks (model prog w) hp (classData C) cd := PySem.W.looks_clsIn X hcd
  rw [PySem.W.osa_eq, refuse_eq]
  refine wpAny_bind (wpAny_bind (I.type.at (wpAny_bind (hmr.at ?_))))
  rw [PySem.W.excTail_pass (.ref x) (b.passes (.ref x)) _ hm1]
  refine wpAny_pure (wpAny_bind (I.type.at (wpAny_bind ((PySem.W.looks_findIn X ha).at (wpAny_bind (L3.at ?_))))))
  show wpAny _ _ (storeInOwnDict (.ref x) (.ref C) (.str name tk) name v false) _ _ _
  clear hmr0 hm1 hob ne sub hmr
  obtain ⟨nm, bs, mro, ns, qn, hd, sn, sb, ab, col, del⟩ := cd
  dsimp only at hh
  subst hh
  unfold storeInOwnDict ownDictForStores
  repeat (first | with_reducible refine HandSPX.store_in_new ?_ ?_ | with_reducible refine wpAny_loadPart_at hx ?_ | with_reducible refine hcls.at ?_ | wp_step)
  · exact ⟨_, #[], _, (Heap.get?_update_ne _ _ _ _ hxs.symm).trans (Heap.get?_push_at rfl rfl), rfl, fun e he => absurd he (by simp), fun _ => rfl⟩
  · intro h' tk' hn' hs
    have hx₁ : (hp.push { cls := .type "dict", data := .dict #[] }).get? x = some { cls := .ref C, data := .fields fv } := Heap.get?_push_of_some _ hx
    refine hq h' tk' hp.objs.size (fun b o hb ho => ?_) (Nat.le_refl _) hxs.symm ?_ hn'
    · exact (hs.2 b (Nat.ne_of_lt (Heap.lt_size ho))).trans ((Heap.get?_update_ne _ _ _ _ hb).trans (Heap.get?_push_of_some _ ho))
    · exact (hs.2 x hxs).trans (Heap.get?_update_self _ hx₁ rfl)
end
/-- what the written part says of an own exception class over b -/
structure XcC (K : PySem.W.Frag) (C : Addr) (b : Xb) : Prop where
  cls : ∃ nm q N bs bm sn sub ab col dd k0 k1 k2 k3 k5, K.lookup C = some (excClassObj nm q C N bs bm true sn sub ab col dd k0 k1 k2 k3 k5 b.nw) ∧ PySem.W.excTail b.bm bm = true
  sa : PySem.W.findIn K (.ref C) "__setattr__" = some (some (.builtin "object.__setattr__"))
  exC : PySem.W.subIn K (.ref C) (.type "BaseException") = some true
  tyC : PySem.W.typeIn K (.ref C) = some (.type "type")
  kC : PySem.W.keepIn K (.ref C) = true
/-- a class object as the head writes it -/
def xcB (K : PySem.W.Frag) (C : Addr) (b : Xb) : Bool := (match K.lookup C with
  | some ⟨.type "type", _, .cls cd, sl⟩ => (match cd.mro, sl.toList with
    | .ref C' :: bm, [_, _, _, _, some (.builtin n), _] => C' == C && n == b.nw && !cd.hasDel && cd.hasDict && PySem.W.excTail b.bm bm
    | _, _ => false)
  | _ => false) && decide (PySem.W.findIn K (.ref C) "__setattr__" = some (some (.builtin "object.__setattr__"))) && decide (PySem.W.subIn K (.ref C) (.type "BaseException") = some true) && decide (PySem.W.typeIn K (.ref C) = some (.type "type")) && PySem.W.keepIn K (.ref C)
theorem xcB_ok {K : PySem.W.Frag} {C : Addr} {b : Xb} (h : xcB K C b = true) : XcC K C b := by
  unfold xcB at h
  simp only [Bool.and_eq_true, decide_eq_true_eq] at h
  obtain ⟨⟨⟨⟨h1, h2⟩, h3⟩, h4⟩, h5⟩ := h
  refine ⟨?_, h2, h3, h4, h5⟩
  split at h1
  · rename_i dd cd sl ho
    split at h1
    · rename_i C' bm k0 k1 k2 k3 n k5 hm hs
      simp only [Bool.and_eq_true, beq_iff_eq, Bool.not_eq_true'] at h1
      obtain ⟨⟨⟨⟨rfl, rfl⟩, hdel⟩, hdi⟩, ht⟩ := h1
      obtain ⟨nm, bs, mro, ns, qn, hd, sn, sub, ab, col, del⟩ := cd
      dsimp only at hm hdel hdi
      subst hm hdel hdi
      have hsl : sl = #[k0, k1, k2, k3, some (.builtin b.nw), k5] := by
        obtain ⟨l⟩ := sl
        simp only at hs
        rw [hs]
      subst hsl
      exact ⟨nm, qn, ns, bs, bm, sn, sub, ab, col, dd, k0, k1, k2, k3, k5, ho, ht⟩
    · cases h1
  · cases h1
section
variable {X : Cx} {pins : List (Addr × Obj)} {σ : St} {H : Hp} {s : Shared} {a C dx : Addr} {f : Str} {y : V} {u : Value} {b : Xb} {E : Value → Shared → Prop} {A : Around}
theorem ost_x {Q : Unit → Shared → Prop} (T : XcC X.K C b) (I : Inv X pins σ H s) (e : H a = some (exo a C none)) (hno : PySem.W.findIn X.K (.ref C) f = some none) (ry : RelV y u)
    (h : ∀ dx s', H dx = none → dx ≠ a → Inv X pins σ (upd (upd H dx (exd dx [(f, y)])) a (exo a C (some dx))) s' → Q () s') : wpAny (model X.prog X.w) A (setAttr (.ref a) f u) Q E s := by
  obtain ⟨nm, q, N, bs, bm, sn, sub, ab, col, dd, k0, k1, k2, k3, k5, hC, hbm⟩ := T.cls
  have hcl : PySem.W.clsIn X.K C = some { name := nm, bases := bs, mro := .ref C :: bm, ns := N, qualname := q, hasDict := true, slotNames := sn, subclasses := sub, abstract := ab, collection := col, hasDel := false } := by unfold PySem.W.clsIn; rw [hC] <;> rfl
  obtain ⟨t1, ho⟩ := exo_at I.hok e
  obtain ⟨hp, g, d, t, os⟩ := s
  refine PySem.W.set_plain I.kIn (ox := { cls := .ref C, dict := none, data := .fields #[.ref t1, .none, .none, .none, .bool false, .none] }) (od := none) ⟨ho, rfl, rfl, trivial⟩ T.sa ?_
  refine osa_x b I.kIn ho hcl rfl hbm rfl hno (fun h' tk' dx k dn dne hx hn => ?_)
  have hnd : H dx = none := I.hok.fresh dn
  have nd : ∀ {b : Addr} {o : Obj}, hp.get? b = some o → b ≠ dx := fun {b o} q => Nat.ne_of_lt (Nat.lt_of_lt_of_le (Heap.lt_size q) dn)
  have na : ∀ {b : Addr}, H b = none → b ≠ a := fun {b} n z => by
    rw [z, e] at n
    cases n
  have Un1 : Un X.fs [] H (upd (upd H dx (exd dx [(f, y)])) a (exo a C (some dx))) hp h' := {
    keep := fun b o q n _ _ => k b o (na n) q
    slot := fun b o q n _ _ => ⟨o.slots, k b o (na n) q⟩
    free := fun b o q n _ => by rw [upd_ne (na n), upd_ne (nd q)]; exact n
    there := fun b o q _ => by
      by_cases hb : b = a
      · exact ⟨_, by rw [hb]; exact hx⟩
      · exact ⟨o, k b o hb q⟩
    tups := fun b xs q => by rw [upd_ne (at_ne e q exo_tup), upd_ne (ne_of_none q hnd)]; exact q
    frzs := fun b o v q => by rw [upd_ne (at_ne e q exo_frz), upd_ne (ne_of_none q hnd)]; exact q
    tbls := fun b ps q => ⟨#[], by rw [upd_ne (at_ne e q exo_tbl), upd_ne (ne_of_none q hnd), q]; simp⟩ }
  refine h dx _ hnd dne (I.un (t' := tk') Un1 fun b o q => ?_)
  by_cases hb : b = a
  · subst hb
    rw [upd_same] at q
    cases q
    exact exo_ok hx
  · rw [upd_ne hb] at q
    by_cases hd : b = dx
    · subst hd
      rw [upd_same] at q
      cases q
      exact exd_ok hn (relO_put (fs := []) ry fun g => True.intro)
    · rw [upd_ne hd] at q
      exact (I.hok b o q).stay (fun c v hc z => k c v (by
          rcases hc with hc | hc
          · rw [hc]
            exact hb
          · exact at_ne e hc exo_own) z)
        (fun c hc => by rw [upd_ne (at_ne e hc exo_own), upd_ne (ne_of_none hc hnd)]; exact hc) (fun c xs hc => by rw [upd_ne (at_ne e hc exo_tup), upd_ne (ne_of_none hc hnd)]; exact hc)
theorem oinit_x {us : List Value} {Q : Value → Shared → Prop} (T : XcC X.K C b) (I : Inv X pins σ H s) (e : H a = some (exo a C none)) (hl : us.length ≤ sizeLine) (h : ∀ s', Inv X pins σ H s' → Q .none s') :
    wpAny (model X.prog X.w) A (call (.builtin b.it) (.ref a :: us)) Q E s := by
  obtain ⟨nm, q, N, bs, bm, sn, sub, ab, col, dd, k0, k1, k2, k3, k5, hC, hbm⟩ := T.cls
  obtain ⟨t1, ho⟩ := exo_at I.hok e
  obtain ⟨hp, g, d, t, os⟩ := s
  refine wpAny_call (PySem.HandSPX.init_base b.facts (fun Y => PySem.W.excTail_contains Y bm hbm) (I.kIn _ _ hC) ho hl fun h' t2 k hx => ?_)
  have J := I.write (t' := t) (x := a) (e := a) (o := exo a C none) (by rw [e]; exact True.intro) (.inl rfl) k ⟨_, hx⟩ (exo_ok hx)
  have eu : upd H a (exo a C none) = H := by
    funext b
    by_cases hb : b = a
    · rw [hb, upd_same, e]
    · rw [upd_ne hb]
  rw [eu] at J
  exact h _ J
end
section
variable {X : Cx} {o e : Expr} {es : List Expr} {to te : TE} {ta : TA} {f : Str} {p p' p1 p2 pos : Pos} {b : Xb}
def tXi (K : PySem.W.Frag) (b : Xb) (ta : TA) : TE := fun σ H Q => ta σ H fun vs H1 => ∃ (a C : Addr) (ws : List V), vs = .ref a :: ws ∧ ws.length ≤ 1000 ∧ XcC K C b ∧ H1 a = some (exo a C none) ∧ Q .non H1
theorem pe_xi {pl : Sem Bool} (hg : Gl X b.st) (hm : X.mg b.st = none) (vV : PySem.W.findCls X.K (.type b.nm) (.type "type") "__init__" = some (.val (.builtin b.it))) (ha : PA X (e :: es) ta)
    (hc : eval (.Call (.Attribute (.Name b.st p1) "__init__" p2) (e :: es) [] pos) X.env = (do
      let ov ← eval (.Name b.st p1) X.env
      standAt p2.atName
      let (f, first) ← holding [ov] (getMethod ov "__init__" pl)
      callWith pos f first (backTo pos (starEach (e :: es) X.env)) (backToKw pos (keywordEach [] X.env))))
    (he : starEach (e :: es) X.env = (false, eval e X.env) :: starEach es X.env) (hpl : (backTo pos (starEach es X.env)).any (·.1) = false) :
    PE X (.Call (.Attribute (.Name b.st p1) "__init__" p2) (e :: es) [] pos) (tXi X.K b ta) := by
  refine ⟨fun pins s σ H Q I h => ?_⟩
  refine PySem.W.methodCall_KW (ld_blt I hg hm b.boot ?_ (by cases b <;> decide) (by cases b <;> decide)) hc
  obtain ⟨m, fr⟩ := I.fr
  refine PySem.W.method_type fr I.ok.mod.kin b.typ b.stub vV b.hand ?_
  show wpAny _ _ (callWith pos (Value.builtin b.it) [] (backTo pos (starEach (e :: es) X.env)) []) _ _ _
  refine PyProof.Rows.callWith_method1 (thn (ha.run pos pins _ σ H _ (I.tok _) h) fun us s1 ⟨vs, H1, I1, r1, a, C, ws, ev, hl, T, ea, q⟩ => ?_) he hpl
  subst ev
  cases r1 with
  | @cons _ u0 _ ur ra rw' =>
    obtain rfl : u0 = Value.ref a := ra
    have hlen : ur.length ≤ sizeLine := by
      rw [← Paired.length rw', sizeLine_eq]
      omega
    exact oinit_x T I1 ea hlen fun s' J => ⟨.non, H1, J, rfl, q⟩
def tXs (K : PySem.W.Frag) (b : Xb) (f : Str) (to te : TE) : TS := fun D σ H => te σ H fun y H1 => to σ H1 fun x H2 => ∃ a C : Addr, x = .ref a ∧ XcC K C b ∧ PySem.W.findIn K (.ref C) f = some none ∧
  H2 a = some (exo a C none) ∧ ∀ dx, H2 dx = none → dx ≠ a → D.nx σ (upd (upd H2 dx (exd dx [(f, y)])) a (exo a C (some dx)))
theorem ps_xs (ho : PE X o to) (he : PE X e te) (hs : swapsWith e (some (.Attribute o f p')) pos.line X.env = pure false) : PS X (.Assign [.Attribute o f p'] e pos) (tXs X.K b f to te) := by
  refine ⟨fun pins s σ H D I h => ?_⟩
  refine plainObj_wpAny_Assign_Attribute (thn (he.run pins s σ H _ I h) fun v s1 ⟨y, H1, I1, r1, q1⟩ => thn (ho.run pins s1 σ H1 _ I1 q1) fun u s2 ⟨x, H2, I2, r2, a, C, ex, T, hno, ea, q⟩ => ?_) hs
  subst ex
  obtain rfl : u = Value.ref a := r2
  exact ost_x T I2 ea hno r1 fun dx s' n ne J => ⟨σ, _, J, q dx n ne⟩
end
end QL
set_option Elab.async false
set_option linter.all false
set_option maxRecDepth 100000
set_option maxHeartbeats 4000000
/-! X2: an own exception made: as a value, and raised. -/
namespace QL
open PySem PySem.Spec L2
open PyProof.Rows hiding St
/-- an exception of the class at C, its dict at d, as a value -/
def exV (a C : Addr) (d : Option Addr) : HO := .ext fun h => ∃ (oe : Obj) (vs : Array Value), h.get? a = some oe ∧ Zc (.ref C) d oe ∧ oe.data = .fields vs
theorem exV_ok {P : Program} {w : World} {H : Hp} {h : Heap} {a C : Addr} {d : Option Addr} {oe : Obj} {vs : Array Value} (e : h.get? a = some oe) (z : Zc (.ref C) d oe) (dt : oe.data = .fields vs) : ObjOk P w H h a (exV a C d) :=
  ⟨⟨oe, vs, e, z, dt⟩, ⟨oe, e⟩, fun _ _ ⟨o, v, q, r⟩ k => ⟨o, v, k o q, r⟩⟩
theorem exV_at {P : Program} {w : World} {H : Hp} {h : Heap} {a C : Addr} {d : Option Addr} (hok : HOk P w H h) (e : H a = some (exV a C d)) : ∃ (oe : Obj) (vs : Array Value), h.get? a = some oe ∧ Zc (.ref C) d oe ∧ oe.data = .fields vs := by
  have x : ObjOk P w H h a (.ext fun h => ∃ (oe : Obj) (vs : Array Value), h.get? a = some oe ∧ Zc (.ref C) d oe ∧ oe.data = .fields vs) := hok a _ e
  exact x.1
theorem upd_upd {H : Hp} {a : Addr} {o u : HO} : upd (upd H a o) a u = upd H a u := by
  funext b
  by_cases h : b = a
  · rw [h, upd_same, upd_same]
  · rw [upd_ne h, upd_ne h, upd_ne h]
theorem upd_comm {H : Hp} {a b : Addr} {o u : HO} (h : a ≠ b) : upd (upd H a o) b u = upd (upd H b u) a o := by
  funext c
  by_cases h1 : c = b
  · subst h1
    rw [upd_same, upd_ne (Ne.symm h), upd_same]
  · rw [upd_ne h1]
    by_cases h2 : c = a
    · rw [h2, upd_same, upd_same]
    · rw [upd_ne h2, upd_ne h2, upd_ne h1]
/-- the call of the base's __init__ is a method's call -/
def xiE (e : Expr) (p1 p2 pos : Pos) (b : Xb) (as : List Expr) : Prop := e = .Call (.Attribute (.Name b.st p1) "__init__" p2) as [] pos ∧ ∃ pl : Env → Sem Bool, ∀ env : Env, eval (.Call (.Attribute (.Name b.st p1) "__init__" p2) as [] pos) env = (do
      let ov ← eval (.Name b.st p1) env
      standAt p2.atName
      let (f, first) ← holding [ov] (getMethod ov "__init__" (pl env))
      callWith pos f first (backTo pos (starEach as env)) (backToKw pos (keywordEach [] env)))
/-- the body of such an __init__ -/
def xiB (b : Xb) : Option Str → List Stmt → Prop
  | some f, l => ∃ p1 p2 p3 p4 k pos pe p5 p6 p7 pa txt e, xiE e p1 p2 pos b [.Name "self" p3, .Constant (.str txt) k p4] ∧ l = [.Expr e pe, .Assign [.Attribute (.Name "self" p5) f p6] (.Name f p7) pa]
  | none, l => ∃ p1 p2 p3 p4 k pos pe txt e, xiE e p1 p2 pos b [.Name "self" p3, .Constant (.str txt) k p4] ∧ l = [.Expr e pe]
def xiN : Option Str → List Str
  | some f => ["self", f]
  | none => ["self"]
/-- its names -/
def xiS (b : Xb) : Option Str → Scope → Bool
  | some f, sc => (sc.names.lookup ("self" : Str) == some .local) && (sc.names.lookup f == some .local) && (sc.names.lookup b.st == some .globalImplicit) && okf f
  | none, sc => (sc.names.lookup ("self" : Str) == some .local) && (sc.names.lookup b.st == some .globalImplicit)
where okf (f : Str) : Bool := !(f == ("__debug__" : Str)) && !(f == ("__classdict__" : Str)) && !(f == ("self" : Str))
/-- what such an __init__ does -/
def spX (K : PySem.W.Frag) (b : Xb) : Option Str → Sp
  | some f => fun vs H Q _ => ∃ (a C : Addr) (v : V), vs = [.ref a, v] ∧ XcC K C b ∧ PySem.W.findIn K (.ref C) f = some none ∧ H a = some (exo a C none) ∧ ∀ dx, H dx = none → dx ≠ a → Q .non (upd (upd H dx (exd dx [(f, v)])) a (exo a C (some dx)))
  | none => fun vs H Q _ => ∃ a C : Addr, vs = [.ref a] ∧ XcC K C b ∧ H a = some (exo a C none) ∧ Q .non H
theorem xi_fng {P : Program} {w : World} {K : PySem.W.Frag} {mg : Str → Option Value} {base : Heap} {b : Xb} {f : Option Str} {fI : Addr} {name qual : Str} {params : Arguments} {body : List Stmt} {scope : Scope} {dV kV doc pm cdv ct oc : Value} {an od : Option Addr}
    {osl : Array (Option Value)} (lk : K.lookup fI = some ⟨oc, od, .func (PySem.W.fnOf name qual params body scope dV kV doc pm an cdv ct), osl⟩) (hcd : PySem.W.codeIn K cdv qual = true) (S : FnScope (xiN f) (xiN f) scope) (hb : xiB b f body) (hs : xiS b f scope = true)
    (hm : mg b.st = none) (vV : PySem.W.findCls K (.type b.nm) (.type "type") "__init__" = some (.val (.builtin b.it))) :
    FnG P w K mg base 1 fI (PySem.W.fnOf name qual params body scope dV kV doc pm an cdv ct) (xiN f) (spX K b f) := by
  refine fng_of lk hcd S (fun vs H Q E h => ?_) fun A outer s H vs Q E hg hr h => ?_
  · cases f with
    | some f => obtain ⟨a, C, v, rfl, _⟩ := h; rfl
    | none => obtain ⟨a, C, rfl, _⟩ := h; rfl
  · cases f with
    | some f =>
      obtain ⟨p1, p2, p3, p4, k, pos, pe, p5, p6, p7, pa, txt, e0, ⟨rfl, pl, hev⟩, rfl⟩ := hb
      unfold xiS xiS.okf at hs
      simp only [Bool.and_eq_true, beq_iff_eq, Bool.not_eq_true'] at hs
      obtain ⟨⟨⟨h1, h2⟩, h3⟩, ⟨h4, h5⟩, h6⟩ := hs
      generalize hX : cxOf (L2.CX P w) P w K mg base (xiN (some f)) qual scope fI cdv A outer s H E = X
      have hN : X.N = xiN (some f) := by subst hX; rfl
      have hsc : X.env.scope = scope := by subst hX; rfl
      have hK : X.K = K := by subst hX; rfl
      have hmg : X.mg = mg := by subst hX; rfl
      have self : ∀ {p : Pos}, PE X (.Name "self" p) (tVar 0) := fun {p} => pe_var (by rw [hN]; rfl) (.inl (by rw [hsc]; exact h1)) (by decide) (by decide)
      have fld : ∀ {p : Pos}, PE X (.Name f p) (tVar 1) := fun {p} => pe_var (by rw [hN]; rfl) (.inl (by rw [hsc]; exact h2)) h4 h5
      have e1 : PE X (.Call (.Attribute (.Name b.st p1) "__init__" p2) [.Name "self" p3, .Constant (.str txt) k p4] [] pos) (tXi X.K b (tCons (tVar 0) (tCons (fun _ H Q => Q (.str txt) H) tNil))) := by
        refine pe_xi ?_ ?_ ?_ (pa_cons self (pa_cons pe_str pa_nil rfl) rfl) (hev X.env) (by rfl) (by rfl)
        · show X.env.scope.names.lookup b.st = _
          rw [hsc]; exact h3
        · rw [hmg]; exact hm
        · rw [hK]; exact vV
      refine ⟨_, pss_cons (ps_expr e1 rfl) (pss_cons (ps_xs (b := b) (f := f) (p' := p6) (pos := pa) self fld rfl) pss_nil), ?_⟩
      obtain ⟨a, C, v, rfl, T, hno, ea, q⟩ := h
      rw [← hK] at T hno
      refine ⟨_, rfl, a, C, [V.str txt], rfl, by simp, T, ea, ?_⟩
      exact ⟨_, rfl, _, rfl, a, C, rfl, T, hno, ea, fun dx n ne => q dx n ne⟩
    | none =>
      obtain ⟨p1, p2, p3, p4, k, pos, pe, txt, e0, ⟨rfl, pl, hev⟩, rfl⟩ := hb
      unfold xiS at hs
      simp only [Bool.and_eq_true, beq_iff_eq] at hs
      obtain ⟨h1, h3⟩ := hs
      generalize hX : cxOf (L2.CX P w) P w K mg base (xiN none) qual scope fI cdv A outer s H E = X
      have hN : X.N = xiN none := by subst hX; rfl
      have hsc : X.env.scope = scope := by subst hX; rfl
      have hK : X.K = K := by subst hX; rfl
      have hmg : X.mg = mg := by subst hX; rfl
      have self : ∀ {p : Pos}, PE X (.Name "self" p) (tVar 0) := fun {p} => pe_var (by rw [hN]; rfl) (.inl (by rw [hsc]; exact h1)) (by decide) (by decide)
      have e1 : PE X (.Call (.Attribute (.Name b.st p1) "__init__" p2) [.Name "self" p3, .Constant (.str txt) k p4] [] pos) (tXi X.K b (tCons (tVar 0) (tCons (fun _ H Q => Q (.str txt) H) tNil))) := by
        refine pe_xi ?_ ?_ ?_ (pa_cons self (pa_cons pe_str pa_nil rfl) rfl) (hev X.env) (by rfl) (by rfl)
        · show X.env.scope.names.lookup b.st = _
          rw [hsc]; exact h3
        · rw [hmg]; exact hm
        · rw [hK]; exact vV
      refine ⟨_, pss_cons (ps_expr e1 rfl) pss_nil, ?_⟩
      obtain ⟨a, C, rfl, T, ea, q⟩ := h
      rw [← hK] at T
      exact ⟨_, rfl, a, C, [V.str txt], rfl, by simp, T, ea, q⟩
end QL
set_option Elab.async false
set_option linter.all false
set_option maxRecDepth 100000
set_option maxHeartbeats 4000000
/-! X3: own exceptions: made as values, raised, asked by isinstance, their fields read. -/
namespace QL
open PySem PySem.Spec L2
open PyProof.Rows hiding St
/-- what isinstance and fields ask of an own exception class -/
structure XvC (K : PySem.W.Frag) (C : Addr) : Prop where
  cl : (PySem.W.clsIn K C).isSome = true
  ga : PySem.W.findIn K (.ref C) "__getattribute__" = some (some (.builtin "BaseException.__getattribute__"))
  gg : PySem.W.findIn K (.ref C) "__getattr__" = some none
  exC : PySem.W.subIn K (.ref C) (.type "BaseException") = some true
  ca : PySem.W.findIn K (.ref C) "__class__" = some (some (.builtin "object.__class__"))
  cg : PySem.W.specialIn K (.builtin "object.__class__") "__get__" = some (some (.builtin "getset_descriptor.__get__"))
  ct : PySem.W.takesIn K (.builtin "object.__class__") = some true
  mo : PySem.W.mroIn K C (.type "object") = some true
  hd : PySem.W.hasDictIn K C = true
def xvB (K : PySem.W.Frag) (C : Addr) : Bool :=
  (PySem.W.clsIn K C).isSome && decide (PySem.W.findIn K (.ref C) "__getattribute__" = some (some (.builtin "BaseException.__getattribute__"))) && decide (PySem.W.findIn K (.ref C) "__getattr__" = some none) &&
  decide (PySem.W.subIn K (.ref C) (.type "BaseException") = some true) && decide (PySem.W.findIn K (.ref C) "__class__" = some (some (.builtin "object.__class__"))) &&
  decide (PySem.W.specialIn K (.builtin "object.__class__") "__get__" = some (some (.builtin "getset_descriptor.__get__"))) && decide (PySem.W.takesIn K (.builtin "object.__class__") = some true) &&
  decide (PySem.W.mroIn K C (.type "object") = some true) && PySem.W.hasDictIn K C
theorem xvB_ok {K : PySem.W.Frag} {C : Addr} (h : xvB K C = true) : XvC K C := by
  unfold xvB at h
  simp only [Bool.and_eq_true, decide_eq_true_eq] at h
  obtain ⟨⟨⟨⟨⟨⟨⟨⟨h1, h2⟩, h3⟩, h4⟩, h5⟩, h6⟩, h7⟩, h8⟩, h9⟩ := h
  exact ⟨h1, h2, h3, h4, h5, h6, h7, h8, h9⟩
/-- the fields of an exception with this dict -/
def Xd (H : Hp) (d : Option Addr) (fs : List (Str × V)) : Prop := match d with
  | some dd => H dd = some (.xd fs)
  | none => fs = []
/-- at a: an exception of the class at C with the fields fs -/
def Xat (H : Hp) (a C : Addr) (fs : List (Str × V)) : Prop := ∃ d : Option Addr, H a = some (exV a C d) ∧ Xd H d fs
section
variable {X : Cx} {pins : List (Addr × Obj)} {σ : St} {H : Hp} {s : Shared} {a C : Addr} {fs : List (Str × V)}
theorem Xat.inst (I : Inv X pins σ H s) (h : Xat H a C fs) : ∃ (ox : Obj) (od : Option Obj), PySem.W.InstAt s.heap a ox C od ∧ ∀ f v, fs.lookup f = some v → ∃ o u, od = some o ∧ PySem.W.lookIn f o = some (some u) ∧ RelV v u := by
  obtain ⟨d, ha, hd⟩ := h
  obtain ⟨oe, vs, e, z, dt⟩ := exV_at I.hok ha
  have hn : PySem.W.notCls oe = true := by unfold PySem.W.notCls; rw [dt] <;> rfl
  cases d with
  | none =>
    refine ⟨oe, none, ⟨e, z.1, hn, by rw [z.2]; trivial⟩, fun f v q => ?_⟩
    rw [show fs = [] from hd] at q
    cases q
  | some dd =>
    have hx : ObjOk X.prog X.w H s.heap dd (.xd fs) := I.hok dd _ hd
    obtain ⟨mA, hns, hr⟩ := hx
    have hns' := hns
    obtain ⟨od, _, _, ho, _⟩ := hns'
    refine ⟨oe, some od, ⟨e, z.1, hn, by rw [z.2]; exact ho⟩, fun f v q => ?_⟩
    obtain ⟨od', ho', hl⟩ := lookIn_ns hns
    rw [ho] at ho'
    cases ho'
    obtain ⟨u, hu, ru⟩ := RelO.some_of (v := v) (o := mA f) (by rw [← q]; exact hr f)
    exact ⟨od, u, rfl, by rw [hl, hu], ru⟩
end
section
variable {X : Cx}
theorem call_isx : CallR X (.builtin "isinstance") (fun xs H Q => ∃ (a C : Addr) (fs : List (Str × V)) (c : V) (cv : Value) (b : Bool), xs = [.ref a, c] ∧ Xat H a C fs ∧ XvC X.K C ∧ (∀ u, RelV c u → u = cv) ∧ PySem.W.kitOne X.K (.ref C) cv = some b ∧ Q (.bl b) H) := by
  intro pins s σ H xs us Q I r h
  obtain ⟨a, C, fs, c, cv, b, rfl, ha, T, hcv, e, q⟩ := h
  obtain ⟨u0, u1, rfl, rx, rt⟩ := vals2 r
  cases rx
  have ec := hcv _ rt
  subst ec
  obtain ⟨ox, od, J, _⟩ := ha.inst I
  exact PySem.W.kia_one (PySem.W.kitx_exc T.cl T.ga T.gg T.exC T.ca T.cg T.ct T.mo) I.kIn J e (fun z => nomatch z) fun tk => ⟨.bl b, H, I.kept (t' := tk) fun _ _ z => z, rfl, q⟩
/-- x.f by the value x -/
theorem xf_get {pins : List (Addr × Obj)} {σ : St} {H : Hp} {s : Shared} {a C : Addr} {fs : List (Str × V)} {n : Str} {v : V} {Q : VK} {b : Bool} (I : Inv X pins σ H s) (ha : Xat H a C fs) (T : XvC X.K C) (hno : PySem.W.findIn X.K (.ref C) n = some none) (l : fs.lookup n = some v) (q : Q v H) :
    wpAny (model X.prog X.w) X.A (getAttr (.ref a) n b) (EP X pins σ Q) X.xe s := by
  obtain ⟨ox, od, J, hf⟩ := ha.inst I
  obtain ⟨o, u, rfl, hl, ru⟩ := hf n v l
  exact HandSPX.exc_get I.kIn J T.ga T.gg T.exC (PySem.W.findObj_own T.hd hno rfl hl) (handed_of ru) ⟨v, H, I.tok _, ru, q⟩
end
/-! ### made -/
theorem exd_frz {e : Addr} {fs : List (Str × V)} {o : Obj} {u : HO} : exd e fs ≠ .frz o u := fun z => by
  have z' : HO.ext _ = HO.frz o u := z
  cases z'
theorem exd_tbl {e : Addr} {fs : List (Str × V)} {ps : Array Value} : exd e fs ≠ .tbl ps := fun z => by
  have z' : HO.ext _ = HO.tbl ps := z
  cases z'
/-- an exception being made becomes a value -/
theorem retrack {X : Cx} {pins : List (Addr × Obj)} {σ : St} {H : Hp} {s : Shared} {a d C : Addr} {fs : List (Str × V)} (I : Inv X pins σ H s) (ea : H a = some (exo a C (some d))) (ed : H d = some (exd d fs)) (hda : d ≠ a) :
    Inv X pins σ (upd (upd H d (.xd fs)) a (exV a C (some d))) s := by
  obtain ⟨t1, hoe⟩ := exo_at I.hok ea
  obtain ⟨mA, hns, rel⟩ := exd_at I.hok ed
  have na : ∀ {b : Addr}, H b = none → b ≠ a := fun {b} n z => by rw [z, ea] at n; cases n
  have nd : ∀ {b : Addr}, H b = none → b ≠ d := fun {b} n z => by rw [z, ed] at n; cases n
  have U : Un X.fs [] H (upd (upd H d (.xd fs)) a (exV a C (some d))) s.heap s.heap := {
    keep := fun b o q n _ _ => q
    slot := fun b o q n _ _ => ⟨o.slots, q⟩
    free := fun b o q n _ => by rw [upd_ne (na n), upd_ne (nd n)]; exact n
    there := fun b o q _ => ⟨o, q⟩
    tups := fun b xs q => by rw [upd_ne (at_ne ea q exo_tup), upd_ne (at_ne ed q exd_tup)]; exact q
    frzs := fun b o v q => by rw [upd_ne (at_ne ea q exo_frz), upd_ne (at_ne ed q exd_frz)]; exact q
    tbls := fun b ps q => ⟨#[], by rw [upd_ne (at_ne ea q exo_tbl), upd_ne (at_ne ed q exd_tbl), q]; simp⟩ }
  have J := I.un (t' := s.toks) U fun b o q => ?_
  · exact J
  by_cases hb : b = a
  · subst hb
    rw [upd_same] at q
    cases q
    exact exV_ok hoe ⟨rfl, rfl⟩ rfl
  · rw [upd_ne hb] at q
    by_cases hd : b = d
    · subst hd
      rw [upd_same] at q
      cases q
      exact ⟨mA, hns, rel⟩
    · rw [upd_ne hd] at q
      exact (I.hok b o q).stay (fun c v hc z => z) (fun c hc => by rw [upd_ne (at_ne ea hc exo_own), upd_ne (at_ne ed hc exd_own)]; exact hc) (fun c xs hc => by rw [upd_ne (at_ne ea hc exo_tup), upd_ne (at_ne ed hc exd_tup)]; exact hc)
theorem retrack0 {X : Cx} {pins : List (Addr × Obj)} {σ : St} {H : Hp} {s : Shared} {a C : Addr} (I : Inv X pins σ H s) (ea : H a = some (exo a C none)) : Inv X pins σ (upd H a (exV a C none)) s := by
  obtain ⟨t1, hoe⟩ := exo_at I.hok ea
  have na : ∀ {b : Addr}, H b = none → b ≠ a := fun {b} n z => by rw [z, ea] at n; cases n
  have U : Un X.fs [] H (upd H a (exV a C none)) s.heap s.heap := {
    keep := fun b o q n _ _ => q
    slot := fun b o q n _ _ => ⟨o.slots, q⟩
    free := fun b o q n _ => by rw [upd_ne (na n)]; exact n
    there := fun b o q _ => ⟨o, q⟩
    tups := fun b xs q => by rw [upd_ne (at_ne ea q exo_tup)]; exact q
    frzs := fun b o v q => by rw [upd_ne (at_ne ea q exo_frz)]; exact q
    tbls := fun b ps q => ⟨#[], by rw [upd_ne (at_ne ea q exo_tbl), q]; simp⟩ }
  have J := I.un (t' := s.toks) U fun b o q => ?_
  · exact J
  by_cases hb : b = a
  · subst hb
    rw [upd_same] at q
    cases q
    exact exV_ok hoe ⟨rfl, rfl⟩ rfl
  · rw [upd_ne hb] at q
    exact (I.hok b o q).stay (fun c v hc z => z) (fun c hc => by rw [upd_ne (at_ne ea hc exo_own)]; exact hc) (fun c xs hc => by rw [upd_ne (at_ne ea hc exo_tup)]; exact hc)
/-- an own exception class: all that is asked of it -/
structure Xk (P : Program) (w : World) (K : PySem.W.Frag) (mg : Str → Option Value) (base : Heap) (x : Str) (C : Addr) (f : Option Str) : Prop where
  at_ : mg x = some (.ref C)
  nm : (x == ("__debug__" : Str)) = false
  xv : XvC K C
  no : ∀ g, f = some g → PySem.W.findIn K (.ref C) g = some none
  it : ∃ (b : Xb) (fI : Addr) (fd : FuncData), XcC K C b ∧ PySem.W.findIn K (.ref C) "__init__" = some (some (.ref fI)) ∧ PySem.W.typeIn K (.ref fI) = some (.type "function") ∧ FnG P w K mg base 1 fI fd (xiN f) (spX K b f) ∧ Binds K fd (xiN f) []
section
variable {X : Cx} {x : Str} {C : Addr} {f : Option Str} {pins : List (Addr × Obj)} {σ : St} {H : Hp} {s : Shared} {us : List Value} {vs : List V}
/-- what the new exception leaves -/
def mkxH (H : Hp) (C : Addr) (f : Option Str) (vs : List V) (B : V → Hp → Prop) : Prop := match f, vs with
  | some g, [v] => ∀ a d, H a = none → H d = none → d ≠ a → B (.ref a) (upd (upd H d (.xd [(g, v)])) a (exV a C (some d)))
  | none, [] => ∀ a, H a = none → B (.ref a) (upd H a (exV a C none))
  | _, _ => False
theorem mkx_call {Q : VK} (T : Xk X.prog X.w X.K X.mg X.base x C f) (hr : Room 2 X.A) (hg : X.A.guards = some []) (I : Inv X pins σ H s) (r : Vals vs us) (h : mkxH H C f vs Q) :
    wpAny (model X.prog X.w) X.A (call (.ref C) us) (EP X pins σ Q) X.xe s := by
  obtain ⟨b, fI, fd, xc, iC, tI, F1, hb⟩ := T.it
  obtain ⟨nm, q, N, bs, bm, sn, sub, ab, col, dd, k0, k1, k2, k3, k5, hC, hbm⟩ := xc.cls
  obtain ⟨hp, g, dr, tk, os⟩ := s
  have hsz : hp.objs.size ≤ hp.objs.size + 1 := Nat.le_succ _
  have hn : H (hp.objs.size + 1) = none := I.hok.fresh hsz
  have kk : ∀ b o, hp.get? b = some o → ((hp.push (PySem.W.kdv_tup us)).push (PySem.HandSPX.excO C hp.objs.size)).get? b = some o := fun b o e => Heap.get?_push_of_some _ (Heap.get?_push_of_some _ e)
  have hget : ((hp.push (PySem.W.kdv_tup us)).push (PySem.HandSPX.excO C hp.objs.size)).get? (hp.objs.size + 1) = some (PySem.HandSPX.excO C hp.objs.size) := by heap_get
  have I2 : Inv X pins σ (upd H (hp.objs.size + 1) (exo (hp.objs.size + 1) C none)) ⟨(hp.push (PySem.W.kdv_tup us)).push (PySem.HandSPX.excO C hp.objs.size), g, dr, tk, os⟩ :=
    I.laid (t' := tk) (a := hp.objs.size + 1) (o := exo (hp.objs.size + 1) C none) (h' := (hp.push (PySem.W.kdv_tup us)).push (PySem.HandSPX.excO C hp.objs.size)) kk hsz (exo_ok hget)
  have r2 : Vals (V.ref (hp.objs.size + 1) :: vs) (Value.ref (hp.objs.size + 1) :: us) := .cons rfl r
  have hgu : (X.A.under (.builtin "type.__call__" ⟨.ref C :: us, []⟩)).guards = some [] := by
    simp [Around.under, Code.guards, Code.isGuard, pushGuards, guardIds, hg]
  have run : ∀ (Qi : VK), spX X.K b f (V.ref (hp.objs.size + 1) :: vs) (upd H (hp.objs.size + 1) (exo (hp.objs.size + 1) C none)) Qi (fun _ _ _ => False) → us.length ≤ sizeLine →
      (∀ H' s', Inv X pins σ H' s' → Qi .non H' → EP X pins σ Q (.ref (hp.objs.size + 1)) s') → (∀ v H', Qi v H' → v = .non) → wpAny (model X.prog X.w) X.A (call (.ref C) us) (EP X pins σ Q) X.xe ⟨hp, g, dr, tk, os⟩ := fun Qi hq hus hfin hnon => by
    have hl : (Value.ref (hp.objs.size + 1) :: us ++ []).length = (xiN f).length := by
      have e := r2.length
      rw [F1.len _ _ _ _ hq] at e
      rw [List.append_nil]
      exact e.symm
    have hbb := hb ⟨(hp.push (PySem.W.kdv_tup us)).push (PySem.HandSPX.excO C hp.objs.size), g, dr, tk, os⟩ (Value.ref (hp.objs.size + 1) :: us) I2.kIn hl
    rw [List.append_nil] at hbb
    refine wpAny_call (PySem.HandSPX.call_own b.facts (fun Y => PySem.W.excTail_contains Y bm hbm) (I.kIn _ _ hC) (PySem.W.looks_findIn I.kIn iC) (fun self => PySem.W.bind_fn I.kIn self tI) hus
      (codeAny_mono (F1.run _ X.stack _ _ ⟨Value.ref (hp.objs.size + 1) :: us, []⟩ (Value.ref (hp.objs.size + 1) :: us) _ Qi (fun _ _ _ => False) hgu (hr.make C us []) (I2.env0.make C us []) hbb r2 hq) fun r s' hq' => ?_))
    match r, hq' with
    | .error er, hq' =>
      obtain ⟨_, _, _, _, _, _, _, _, _, _, _, _, z⟩ := hq'
      exact z.elim
    | .ok (.ret u), hq' =>
      obtain ⟨v, H', I3, rv, q3⟩ := I2.after hq'
      have ev := hnon _ _ q3
      subst ev
      exact ⟨rv, hfin H' s' I3 q3⟩
    | .ok .next, hq' => exact hq'.elim
    | .ok .brk, hq' => exact hq'.elim
    | .ok .cont, hq' => exact hq'.elim
  match f, vs, h with
  | some fn, [v], h =>
    have hus : us.length ≤ sizeLine := by rw [← Paired.length r, sizeLine_eq]; simp
    refine run (fun u H2 => u = .non ∧ ∃ dx, H dx = none ∧ dx ≠ hp.objs.size + 1 ∧ H2 = upd (upd H dx (exd dx [(fn, v)])) (hp.objs.size + 1) (exo (hp.objs.size + 1) C (some dx))) ?_ hus ?_ fun _ _ z => z.1
    · refine ⟨_, C, v, rfl, xc, T.no fn rfl, upd_same, fun dx hdx ne => ⟨rfl, dx, ?_, ne, ?_⟩⟩
      · rw [upd_ne ne] at hdx
        exact hdx
      · rw [upd_comm (Ne.symm ne), upd_upd]
    · rintro H' s' I3 ⟨_, dx, hdx, ne, rfl⟩
      refine ⟨.ref (hp.objs.size + 1), _, retrack I3 upd_same (by rw [upd_ne ne, upd_same]) ne, rfl, ?_⟩
      have e : upd (upd (upd (upd H dx (exd dx [(fn, v)])) (hp.objs.size + 1) (exo (hp.objs.size + 1) C (some dx))) dx (.xd [(fn, v)])) (hp.objs.size + 1) (exV (hp.objs.size + 1) C (some dx)) = upd (upd H dx (.xd [(fn, v)])) (hp.objs.size + 1) (exV (hp.objs.size + 1) C (some dx)) := by
        rw [upd_comm (Ne.symm ne), upd_upd, upd_upd]
      rw [e]
      exact h (hp.objs.size + 1) dx hn hdx ne
  | none, [], h =>
    have hus : us.length ≤ sizeLine := by rw [← Paired.length r, sizeLine_eq]; simp
    refine run (fun u H2 => u = .non ∧ H2 = upd H (hp.objs.size + 1) (exo (hp.objs.size + 1) C none)) ⟨_, C, rfl, xc, upd_same, rfl, rfl⟩ hus ?_ fun _ _ z => z.1
    rintro H' s' I3 ⟨_, rfl⟩
    refine ⟨.ref (hp.objs.size + 1), _, retrack0 I3 upd_same, rfl, ?_⟩
    rw [upd_upd]
    exact h _ hn
/-- made, to be raised -/
theorem mkx_raise {g : Str} {v : V} {Q : XK} (T : Xk X.prog X.w X.K X.mg X.base x C (some g)) (hr : Room 2 X.A) (hg : X.A.guards = some []) (I : Inv X pins σ H s) (r : Vals [v] us) (h : ∀ d, H d = none → X.K.lookup d = none → Q (.ref C) (some d) (upd H d (.xd [(g, v)]))) :
    wpAny (model X.prog X.w) X.A (call (.ref C) us) (MkP X pins σ Q) X.xe s := by
  obtain ⟨b, fI, fd, xc, iC, tI, F1, hb⟩ := T.it
  obtain ⟨nm, q, N, bs, bm, sn, sub, ab, col, dd, k0, k1, k2, k3, k5, hC, hbm⟩ := xc.cls
  obtain ⟨hp, gg, dr, tk, os⟩ := s
  have hsz : hp.objs.size ≤ hp.objs.size + 1 := Nat.le_succ _
  have hn : H (hp.objs.size + 1) = none := I.hok.fresh hsz
  have kk : ∀ b o, hp.get? b = some o → ((hp.push (PySem.W.kdv_tup us)).push (PySem.HandSPX.excO C hp.objs.size)).get? b = some o := fun b o e => Heap.get?_push_of_some _ (Heap.get?_push_of_some _ e)
  have hget : ((hp.push (PySem.W.kdv_tup us)).push (PySem.HandSPX.excO C hp.objs.size)).get? (hp.objs.size + 1) = some (PySem.HandSPX.excO C hp.objs.size) := by heap_get
  have I2 : Inv X pins σ (upd H (hp.objs.size + 1) (exo (hp.objs.size + 1) C none)) ⟨(hp.push (PySem.W.kdv_tup us)).push (PySem.HandSPX.excO C hp.objs.size), gg, dr, tk, os⟩ :=
    I.laid (t' := tk) (a := hp.objs.size + 1) (o := exo (hp.objs.size + 1) C none) (h' := (hp.push (PySem.W.kdv_tup us)).push (PySem.HandSPX.excO C hp.objs.size)) kk hsz (exo_ok hget)
  have r2 : Vals [V.ref (hp.objs.size + 1), v] (Value.ref (hp.objs.size + 1) :: us) := .cons rfl r
  have hgu : (X.A.under (.builtin "type.__call__" ⟨.ref C :: us, []⟩)).guards = some [] := by
    simp [Around.under, Code.guards, Code.isGuard, pushGuards, guardIds, hg]
  have hus : us.length ≤ sizeLine := by rw [← Paired.length r, sizeLine_eq]; simp
  have hl : (Value.ref (hp.objs.size + 1) :: us ++ []).length = (xiN (some g)).length := by
    have e := r2.length
    rw [List.append_nil]
    exact e.symm
  have hbb := hb ⟨(hp.push (PySem.W.kdv_tup us)).push (PySem.HandSPX.excO C hp.objs.size), gg, dr, tk, os⟩ (Value.ref (hp.objs.size + 1) :: us) I2.kIn hl
  rw [List.append_nil] at hbb
  have hq : spX X.K b (some g) [V.ref (hp.objs.size + 1), v] (upd H (hp.objs.size + 1) (exo (hp.objs.size + 1) C none)) (fun u H2 => u = .non ∧ ∃ dx, H dx = none ∧ dx ≠ hp.objs.size + 1 ∧ H2 = upd (upd H dx (exd dx [(g, v)])) (hp.objs.size + 1) (exo (hp.objs.size + 1) C (some dx))) (fun _ _ _ => False) := by
    refine ⟨_, C, v, rfl, xc, T.no g rfl, upd_same, fun dx hdx ne => ⟨rfl, dx, ?_, ne, ?_⟩⟩
    · rw [upd_ne ne] at hdx
      exact hdx
    · rw [upd_comm (Ne.symm ne), upd_upd]
  refine wpAny_call (PySem.HandSPX.call_own b.facts (fun Y => PySem.W.excTail_contains Y bm hbm) (I.kIn _ _ hC) (PySem.W.looks_findIn I.kIn iC) (fun self => PySem.W.bind_fn I.kIn self tI) hus
    (codeAny_mono (F1.run _ X.stack _ _ ⟨Value.ref (hp.objs.size + 1) :: us, []⟩ (Value.ref (hp.objs.size + 1) :: us) _ _ (fun _ _ _ => False) hgu (hr.make C us []) (I2.env0.make C us []) hbb r2 hq) fun r s' hq' => ?_))
  match r, hq' with
  | .error er, hq' =>
    obtain ⟨_, _, _, _, _, _, _, _, _, _, _, _, z⟩ := hq'
    exact z.elim
  | .ok (.ret u), hq' =>
    obtain ⟨v', H2, os2, bare2, un2, hok2, rv, ev, dx, hdx, ne, eH⟩ := hq'
    subst ev
    subst eH
    obtain ⟨h2, g2, d2, t2, os'⟩ := s'
    refine ⟨rv, mk_end (raises_own xc.exC xc.tyC) I hsz kk un2 hok2 os2 bare2 (fs := [(g, v)]) (d := dx) upd_same (by rw [upd_ne ne, upd_same]) hdx ?_⟩
    have e : upd (del (upd (upd H dx (exd dx [(g, v)])) (hp.objs.size + 1) (exo (hp.objs.size + 1) C (some dx))) (hp.objs.size + 1)) dx (.xd [(g, v)]) = upd H dx (.xd [(g, v)]) := by
      funext c
      by_cases h1 : c = dx
      · subst h1
        rw [upd_same, upd_same]
      · rw [upd_ne h1, upd_ne h1]
        by_cases h2 : c = hp.objs.size + 1
        · rw [h2, del_same, hn]
        · rw [del_ne h2, upd_ne h2, upd_ne h1]
    rw [e]
    refine h dx hdx ?_
    cases q : X.K.lookup dx with
    | none => rfl
    | some o =>
      have J : Inv X pins σ (upd (upd H dx (exd dx [(g, v)])) (hp.objs.size + 1) (exo (hp.objs.size + 1) C (some dx))) ⟨h2, g2, d2, t2, os'⟩ := I2.call' (ch := []) os2 un2 hok2 bare2 (fun b z => absurd z (by simp))
      have z := (J.bs dx o (J.mod.kin dx o q)).2
      rw [upd_ne ne, upd_same] at z
      cases z
  | .ok .next, hq' => exact hq'.elim
  | .ok .brk, hq' => exact hq'.elim
  | .ok .cont, hq' => exact hq'.elim
variable {e : Expr} {es : List Expr} {ta : TA} {p pos : Pos}
/-- X(e) as a value -/
theorem pe_mkx (T : Xk X.prog X.w X.K X.mg X.base x C f) (hr : Room 2 X.A) (hg : X.A.guards = some []) (hgl : Gl X x) (ha : PA X (e :: es) ta) (he : starEach (e :: es) X.env = (false, eval e X.env) :: starEach es X.env) (hpl : (backTo pos (starEach es X.env)).any (·.1) = false) :
    PE X (.Call (.Name x p) (e :: es) [] pos) (fun σ H Q => ta σ H fun vs H1 => mkxH H1 C f vs Q) := by
  obtain ⟨b, fI, fd, xc, _⟩ := T.it
  refine ⟨fun pins s σ H Q I h => ?_⟩
  refine wpAny_Call_Name_kw (ld_glob I hgl T.at_ ?_ T.nm)
  refine PySem.W.callWith_K (h₀ := X.base) I.ok.mod.kin xc.kC (thn (ha.run pos pins s σ H _ I h) fun us s1 ⟨vs, H1, I1, r1, q1⟩ => ⟨I1.kIn, ?_⟩) he hpl
  exact mkx_call T hr hg I1 r1 q1
theorem pe_mkx0 (T : Xk X.prog X.w X.K X.mg X.base x C none) (hr : Room 2 X.A) (hg : X.A.guards = some []) (hgl : Gl X x) :
    PE X (.Call (.Name x p) [] [] pos) (fun σ H Q => mkxH H C none [] Q) := by
  obtain ⟨b, fI, fd, xc, _⟩ := T.it
  refine ⟨fun pins s σ H Q I h => ?_⟩
  refine wpAny_Call_Name_kw (ld_glob I hgl T.at_ ?_ T.nm)
  exact PySem.W.callWith_K0 I.kIn xc.kC (mkx_call (us := []) T hr hg I .nil h)
theorem ps_rai {g : Str} {W : WX} {rp : Pos} (hc : X.calm = true) (tk : Takes X W) (T : Xk X.prog X.w X.K X.mg X.base x C (some g)) (hr : Room 2 X.A) (hg : X.A.guards = some []) (hgl : Gl X x) (ha : PA X (e :: es) ta) (he : starEach (e :: es) X.env = (false, eval e X.env) :: starEach es X.env) (hpl : (backTo pos (starEach es X.env)).any (·.1) = false) :
    PS X (.Raise (some (.Call (.Name x p) (e :: es) [] pos)) none rp) (fun _ σ H => ta σ H fun vs H1 => ∃ v, vs = [v] ∧ ∀ d, H1 d = none → X.K.lookup d = none → W (.ref C) (some d) σ (upd H1 d (.xd [(g, v)]))) := by
  refine ps_raise (t := fun σ H Q => ta σ H fun vs H1 => ∃ v, vs = [v] ∧ ∀ d, H1 d = none → X.K.lookup d = none → Q (.ref C) (some d) (upd H1 d (.xd [(g, v)]))) hc tk fun pins s σ H Q I h => ?_
  obtain ⟨b, fI, fd, xc, _⟩ := T.it
  refine wpAny_Call_Name_kw (ld_glob I hgl T.at_ ?_ T.nm)
  refine PySem.W.callWith_K (h₀ := X.base) I.ok.mod.kin xc.kC (thn (ha.run pos pins s σ H _ I h) fun us s1 ⟨vs, H1, I1, r1, q1⟩ => ⟨I1.kIn, ?_⟩) he hpl
  obtain ⟨v, rfl, q1⟩ := q1
  exact mkx_raise T hr hg I1 r1 q1
end
end QL
set_option Elab.async false
set_option linter.all false
set_option maxRecDepth 100000
set_option maxHeartbeats 4000000
/-! X4: try: .. except X as e: y = e: the exception is kept as a value. -/
namespace QL
open PySem PySem.Spec L2
open PyProof.Rows hiding St
/-- what an except clause names -/
inductive PXt (X : Cx) : Expr → List Value → Prop
  | one {x : Str} {c : Value} {p : Pos} : Names X x c → PXt X (.Name x p) [c]
  | two {x y : Str} {c d : Value} {p q r : Pos} {k : Nat} : Names X x c → Names X y d → PXt X (.Tuple [.Name x p, .Name y q] k r) [c, d]
  | three {x y z : Str} {c d e : Value} {p q r o : Pos} {k : Nat} : Names X x c → Names X y d → Names X z e → PXt X (.Tuple [.Name x p, .Name y q, .Name z o] k r) [c, d, e]
theorem name_at {X Y : Cx} {pins : List (Addr × Obj)} {σ : St} {H : Hp} {s : Shared} {x : Str} {c : Value} {p : Pos} {Q : Value → Shared → Prop} {E : Value → Shared → Prop} (hc : Names Y x c) (I : Inv Y pins σ H s) (q : Q c s) :
    wpAny (model Y.prog Y.w) Y.A (eval (.Name x p) Y.env) Q E s := by
  obtain ⟨hg, hdbg, hm | ⟨hm, hv, hnn⟩⟩ := hc
  · exact ld_glob I hg hm q hdbg
  · exact ld_blt I hg hm hv q hnn hdbg
theorem test_at {Y : Cx} {pins : List (Addr × Obj)} {σ : St} {H : Hp} {s : Shared} {T : Expr} {cs : List Value} {cls : Value} {a : Addr} {b : Bool} {Q : Bool → Shared → Prop} {E : Value → Shared → Prop} (t : PXt Y T cs) (I : Inv Y pins σ H s)
    (LT : PySem.W.Looks (model Y.prog Y.w) s.heap (typeOf (.ref a)) cls) (hx : PySem.W.exmAny Y.K cls cs = some b) (q : ∀ h', (∀ b o, s.heap.get? b = some o → h'.get? b = some o) → Q b { s with heap := h' }) :
    wpAny (model Y.prog Y.w) Y.A (eval T Y.env) (fun c s1 => wpAny (model Y.prog Y.w) Y.A (excMatches (.ref a) c) Q E s1) E s := by
  cases t with
  | one hc =>
    refine name_at (X := Y) hc I ?_
    obtain ⟨b1, d1, h1, h2, h3⟩ := PySem.W.exmAny_cons hx
    cases h2
    rw [Bool.or_false] at h3
    subst h3
    exact (PySem.W.exm_one I.kIn LT h1).here (q s.heap fun _ _ z => z)
  | @two x y c d p qq r k hc hd =>
    refine wpAny_Tuple ?_
    refine wpAny_items_cons (name_at (X := Y) hc I ?_)
    refine wpAny_items_cons (name_at (X := Y) hd I ?_)
    refine wpAny_items_nil ⟨by size_fits, ?_⟩
    have kp : ∀ q o, s.heap.get? q = some o → (s.heap.push { cls := .type "tuple", data := .seq [c, d].toArray }).get? q = some o := fun _ _ z => Heap.get?_push_of_some _ z
    exact (PySem.W.exm_tup2 (I.kIn.keeps kp) (LT.keeps kp) (Heap.get?_push_size s.heap rfl) hx).here (q _ kp)
  | @three x y z c d e p qq r o k hc hd he =>
    refine wpAny_Tuple ?_
    refine wpAny_items_cons (name_at (X := Y) hc I ?_)
    refine wpAny_items_cons (name_at (X := Y) hd I ?_)
    refine wpAny_items_cons (name_at (X := Y) he I ?_)
    refine wpAny_items_nil ⟨by size_fits, ?_⟩
    have kp : ∀ q o, s.heap.get? q = some o → (s.heap.push { cls := .type "tuple", data := .seq [c, d, e].toArray }).get? q = some o := fun _ _ z => Heap.get?_push_of_some _ z
    exact (PySem.W.exm_tup3 (I.kIn.keeps kp) (LT.keeps kp) (Heap.get?_push_size s.heap rfl) hx).here (q _ kp)
theorem flyZ_keeps {B h h' : Heap} {l : List Env} {e : Addr} {Z : Obj → Prop} (R : HandSPX.FlyingZ B l e Z h) (k : ∀ b o, h.get? b = some o → h'.get? b = some o) : HandSPX.FlyingZ B l e Z h' := by
  obtain ⟨f1, f2, f3, oe, ws, T, oT, ts, he, hc, hd, h1, hn, hne, hT, hdT, h3⟩ := R
  exact ⟨fun b o q => k b o (f1 b o q), f2, f3.of_keeps fun b o q _ => ⟨o, k b o q, rfl⟩, oe, ws, T, oT, ts, k _ _ he, hc, hd, h1, hn, hne, k _ _ hT, hdT, h3⟩
/-- an object that stands untracked, and is new since the entry, is tracked -/
theorem track {X : Cx} {pins : List (Addr × Obj)} {σ : St} {H : Hp} {s : Shared} {a : Addr} {oe : Obj} {vs : Array Value} {o : HO} (I : Inv X pins σ H s) (na : H a = none) (h0 : X.s_0.heap.get? a = none) (ha : s.heap.get? a = some oe) (hd : oe.data = .fields vs)
    (nL : a ≠ X.env.locals) (np : ∀ p ∈ X.pn ++ pins, p.1 ≠ a) (new : ObjOk X.prog X.w (upd H a o) s.heap a o) : Inv X pins σ (upd H a o) s := by
  refine ⟨I.ok, I.os, I.bare, ⟨I.base.keep, I.base.slot, fun b u e n hb => ?_, I.base.there, fun b xs e => ?_, fun b u xs e => ?_, fun b ps e => ?_⟩, I.loc, I.cell, ?_, fun x c e => ?_, fun p hp => ?_, fun b u e => ?_, I.len⟩
  · rw [upd_ne (fun z => by rw [z, h0] at e; cases e)]
    exact I.base.free b u e n hb
  · have q := I.base.tups b xs e
    rw [upd_ne (ne_of_none q na)]
    exact q
  · have q := I.base.frzs b u xs e
    rw [upd_ne (ne_of_none q na)]
    exact q
  · obtain ⟨m, q⟩ := I.base.tbls b ps e
    exact ⟨m, by rw [upd_ne (ne_of_none q na)]; exact q⟩
  · rw [upd_ne (Ne.symm nL)]
    exact I.free
  · have hc : c ≠ a := fun z => by
      obtain ⟨v, oc, ho, hdc⟩ := I.cell x c e
      rw [z, ha] at ho
      cases ho
      rw [hd] at hdc
      cases hdc
    rw [upd_ne hc]
    exact I.freeC x c e
  · obtain ⟨e, n, ne, nf, d⟩ := I.pin p hp
    exact ⟨e, by rw [upd_ne (np p hp)]; exact n, ne, nf, d⟩
  · by_cases hb : b = a
    · subst hb
      rw [upd_same] at e
      cases e
      exact new
    · rw [upd_ne hb] at e
      exact (I.hok b u e).stay (fun c v _ q => q) (fun c q => by rw [upd_ne (ne_of_none q na)]; exact q) fun c xs q => by rw [upd_ne (ne_of_none q na)]; exact q
section
variable {X : Cx} {body : List Stmt} {n y : Str} {i j : Nat} {T : Expr} {cs : List Value} {py pn' pa ph pos : Pos} {tb : WX → TS}
/-- what is wished of an exception of the body -/
def wKeep (K : PySem.W.Frag) (cs : List Value) (i j : Nat) (D : Ends) : WX := fun cls d σ H =>
  ∃ C, cls = .ref C ∧ PySem.W.exmAny K cls cs = some true ∧ ∀ a, H a = none → D.nx ((σ.set j (some (.ref a))).set i none) (upd H a (exV a C d))
theorem ps_trx (hs : X.stack = X.env :: X.outer) (hf : X.env.frame = some X.env.locals) (hex : X.ex = []) (hN : X.N.Nodup) (hi : X.N[i]? = some n) (hln : X.env.kindOf n = some .local) (hj : X.N[j]? = some y) (hly : X.env.scope.names.lookup y = some .local) (hij : i ≠ j)
    (hnd : (n == ("__debug__" : Str)) = false) (hnc : (n == ("__classdict__" : Str)) = false)
    (t : ∀ (a : Addr) (pn : List (Addr × Obj)), PXt (X.suite a pn) T cs)
    (hb : ∀ (W : WX) (pn : List (Addr × Obj)) (xe : Value → Shared → Prop), Takes (X.tr pn xe) W → PassesOwn (model X.prog X.w) X.A X.env xe → PSs (X.tr pn xe) body (tb W)) :
    PS X (.Try body [.ExceptHandler (some T) (some n) [.Assign [.Name y py] (.Name n pn') pa] ph] [] [] pos) (fun D σ H => tb (wKeep X.K cs i j D) D σ H) := by
  refine ⟨fun pins s σ H D I h => ?_⟩
  have ok := I.ok
  have hfr : X.A.frames = some (X.env :: X.outer) := by rw [ok.frames, hs]
  have hloc : Loc X.env.scope n := .inl hln
  refine wpAny_Try_except ?_
  refine wpAny_mono ((hb (wKeep X.K cs i j D) (X.pn ++ pins) (fun e s₁ => wpAny (model X.prog X.w) X.A (noteFrame e X.env) (fun _ s₂ => wpAny (model X.prog X.w) X.A (setFlight e none) (fun _ s₃ =>
    wpAny (model X.prog X.w) X.A (handleBy e X.env [.ExceptHandler (some T) (some n) [.Assign [.Name y py] (.Name n pn') pa] ph]) (SP X pins D) X.xe s₃) X.xe s₂) X.xe s₁) (fun u s' xx => ?_) PassesOwn.looking).run [] s σ H D (I.toTry _) h) (fun f s1 hsp => ?_) (fun e s1 he => he)
  · -- the catch
    obtain ⟨a, B, sI, pins', σ', H', cls, d, rfl, J', nb, up, sky, na, os, ag, C, rfl, hx, hq⟩ := xx
    have J : Inv X pins σ' H' sI := J'.ofTry ok
    have sky' : Sky B (X.env :: X.outer) a (Zc (.ref C) d) X.env.locals s'.heap := by rw [← hs]; exact sky
    show wpAny (model X.prog X.w) X.A (noteFrame (.ref a) X.env) _ _ _
    refine Sky.land Zc.steady hfr hf sky' fun h3 fl3 up3 => ?_
    have J3 : Inv X pins σ' H' { s' with heap := h3 } := J.landed nb fl3.1 (up.trans up3) os ag
    obtain ⟨oe3, vs3, he3, hz3, hd3⟩ := fl3.there
    have notFr : ∀ {h : Heap} {o : Obj} {vs : Array Value}, h.FunFrames B (X.env :: X.outer) → h.get? a = some o → o.data = .fields vs → a ∉ frs (X.env :: X.outer) := fun {h o vs} ff e dd hm => by
      obtain ⟨_, o', e', hnf⟩ := ff.mem hm
      rw [e] at e'; cases e'
      exact hnf _ dd
    have nfr := notFr fl3.2.2.1 he3 hd3
    have nL : a ≠ X.env.locals := fun z => nfr (List.mem_filterMap.mpr ⟨X.env, List.mem_cons_self, by rw [hf, z]⟩)
    have nF : a ∉ X.fs := fun hm => by
      obtain ⟨e, he, q⟩ := List.mem_filterMap.mp hm
      exact nfr (List.mem_filterMap.mpr ⟨e, List.mem_cons_of_mem _ he, q⟩)
    have nI : sI.heap.get? a = none := by
      cases q : sI.heap.get? a with
      | none => rfl
      | some o =>
        have z := nb a o q (by rw [hs]; exact nfr)
        rw [fl3.2.1] at z
        cases z
    have n0 : X.s_0.heap.get? a = none := by
      cases q : X.s_0.heap.get? a with
      | none => rfl
      | some o =>
        obtain ⟨o', z⟩ := J.base.there a o q (by rw [hex]; exact fun z => nomatch z)
        rw [nI] at z
        cases z
    have np : ∀ p ∈ X.pn ++ pins, p.1 ≠ a := fun p hp z => by
      obtain ⟨e, _⟩ := J.pin p hp
      rw [z, nI] at e
      cases e
    have S3 := J3.suite he3 hd3 na nL nF
    refine wpAny_handleBy_cons (codeAny_handlers_test ?_) (by intro q; cases q)
    have LT : PySem.W.Looks (model X.prog X.w) h3 (typeOf (.ref a)) (.ref C) := fun A Q E s k q => wpAny_typeOf_ref (k _ _ he3) (by rw [hz3.1]; exact q)
    refine test_at (Y := X.suite a ((a, oe3) :: (X.pn ++ pins))) (t a _) S3 LT hx fun h3' k3 => ?_
    have fl3' : HandSPX.FlyingZ B (X.env :: X.outer) a (Zc (.ref C) d) h3' := flyZ_keeps fl3 k3
    refine codeAny_handlers_suite_as ?_
    refine HandSPX.lands_againZ fl3' fun h4 fl4 up4 => ?_
    have J4 : Inv X pins σ' H' { s' with heap := h4 } := J.landed nb fl4.1 (((up.trans up3).trans (Heap.UpToSlots.of_keeps k3)).trans up4) os ag
    obtain ⟨oe4, vs4, he4, hz4, hd4⟩ := fl4.there
    have S4 := J4.suite he4 hd4 na nL nF
    refine store_ok (X := X.suite a ((a, oe4) :: (X.pn ++ pins))) (v := .ref a) S4 hN hi hloc rfl (fun s5 S5 => ?_) (.inr hln)
    have hlen : i < σ'.length := by rw [J.len]; exact (List.getElem?_eq_some_iff.mp hi).1
    have su : PSs (X.suite a ((a, oe4) :: (X.pn ++ pins))) [.Assign [.Name y py] (.Name n pn') pa] _ := pss_cons (ps_set (X := X.suite a ((a, oe4) :: (X.pn ++ pins))) hN hj (.inl hly) (pe_var (X := X.suite a ((a, oe4) :: (X.pn ++ pins))) hi (.inl hln) hnd hnc) rfl (.inr hly)) pss_nil
    refine wpAny_mono (su.run [] s5 _ H' { nx := fun σ6 H6 => σ6 = (σ'.set i (some (.ref a))).set j (some (.ref a)) ∧ H6 = H', rt := fun _ _ => False, bk := fun _ _ => False, ct := fun _ _ => False } S5 ⟨_, List.getElem?_set_self hlen, rfl, rfl⟩) (fun f s6 hsp => ?_) (fun _ _ z => False.elim z)
    cases f with
    | next =>
      obtain ⟨σ6, H6, S6, rfl, rfl⟩ := hsp
      obtain ⟨e6, _⟩ := S6.pin (a, oe4) (List.mem_append.mpr (.inl List.mem_cons_self))
      have K6 := S6.unsuite ok
      have K7 := track (o := exV a C d) K6 na n0 e6 hd4 nL np (exV_ok e6 hz4 hd4)
      refine gone_ok K7 hN hi hln fun s7 J7 => ⟨_, _, J7, ?_⟩
      have z := hq a na
      have e : ((σ'.set i (some (V.ref a))).set j (some (V.ref a))).set i none = (σ'.set j (some (V.ref a))).set i none := by
        rw [List.set_comm _ _ hij, List.set_set]
      rw [e]
      exact z
    | brk => obtain ⟨_, _, _, z⟩ := hsp; exact z.elim
    | cont => obtain ⟨_, _, _, z⟩ := hsp; exact z.elim
    | ret u => obtain ⟨_, _, _, _, _, z⟩ := hsp; exact z.elim
  · cases f with
    | next =>
      obtain ⟨σ', H', J', q⟩ := hsp
      exact wpAny_execs_nil ⟨σ', H', J'.ofTry ok, q⟩
    | brk =>
      obtain ⟨σ', H', J', q⟩ := hsp
      exact ⟨σ', H', J'.ofTry ok, q⟩
    | cont =>
      obtain ⟨σ', H', J', q⟩ := hsp
      exact ⟨σ', H', J'.ofTry ok, q⟩
    | ret u =>
      obtain ⟨v, σ', H', J', r, q⟩ := hsp
      exact ⟨v, σ', H', J'.ofTry ok, r, q⟩
end
/-! ### list.count of flat things -/
theorem countU_of {x : V} : ∀ {xs : List V} {us : List Value}, Vals xs us → xs.all flatV = true → us.countP (eqU x) = xs.countP fun y => eqV y x
  | _, _, .nil, _ => rfl
  | y :: xs, u :: us, .cons r t, f => by
    rw [List.all_cons, Bool.and_eq_true] at f
    rw [List.countP_cons, List.countP_cons, eqU_of r f.1, countU_of t f.2]
theorem mt_count {X : Cx} : MtR X "list.count" (fun x xs H Q => ∃ (p : Addr) (ys : List V) (k : V), x = .ref p ∧ xs = [k] ∧ SqL X.K H p ys ∧ flatV k = true ∧ ys.all flatV = true ∧ Q (.int (ys.countP (fun y => eqV y k) : Nat)) H) := by
  intro pins s σ H x xs v us Q I rx rxs h
  obtain ⟨p, ys, k, rfl, rfl, hs, fk, fs, q⟩ := h
  cases rx
  obtain ⟨u, rfl, ru⟩ := rxs.one
  obtain ⟨its, rv, ⟨⟨cls, dd, data, sl⟩, n, ho, hc, hdn, hd⟩, hlen⟩ := I.list hs
  simp only at hc hd
  subst hc hd
  refine call_meets PySem.F.slot_list_count ⟨_, ho, rfl⟩ PySem.F.entry_list_count (PySem.F.args_list_count_2 _ _)
    (SeqAt.list_countAt p its.toArray n dd sl u (eqU k)) ⟨ho, fun y hy => mem_eqAt ru fk rv fs y (by simpa using hy), ?_⟩
  have ec : its.toArray.toList.countP (eqU k) = ys.countP (fun y => eqV y k) := countU_of rv fs
  refine ⟨.int (ys.countP (fun y => eqV y k) : Nat), H, I.tok _, ⟨s.toks, ?_⟩, q⟩
  show Value.int ((its.toArray.toList.countP (eqU k) : Nat) : Int) s.toks = Value.int ((ys.countP (fun y => eqV y k) : Nat) : Int) s.toks
  rw [ec]
end QL
set_option Elab.async false
set_option linter.all false
set_option maxRecDepth 100000
set_option maxHeartbeats 4000000
/-! Q4: a small language of expressions, what its terms ask (wE), and how Python's expressions are turned into it (cE). -/
namespace QL
open PySem PySem.Spec L2
open PyProof.Rows hiding St
/-- built-in classes that isinstance asks for -/
inductive Bt where
  | int | bool | str | list | tuple
  deriving DecidableEq
/-- methods of built-in types -/
inductive Bm where
  | count | append | insert
  deriving DecidableEq
mutual
inductive Ex where
  | var (i : Nat)
  | lit (v : V)
  | cst (x : Str)
  | op (o : Operator) (a b : Ex)
  | neg (a : Ex)
  | cmp (o : CmpOp) (a b : Ex)
  | chn (o o' : CmpOp) (a b c : Ex)
  | and (a b : Ex)
  | or (a b : Ex)
  | not (a : Ex)
  | ite (t : Te) (a b : Ex)
  | fld (o : Ex) (f : Str)
  | idx (o i : Ex)
  | slc (o : Ex) (lo hi : Ox)
  | lst (es : Exs)
  | tup (es : Exs)
  | fn (f : Str) (es : Exs)
  | bi (b : Bi) (es : Exs)
  | isi (e : Ex) (T : Bt)
  | isx (e : Ex) (c : Str)
  | mkx (c : Str) (es : Exs)
  | dct0
  | met (o : Ex) (m : Str) (es : Exs)
  | bm (m : Bm) (o : Ex) (es : Exs)
  | mkC (c : Str) (ks : List Str) (es : Exs)
inductive Exs where
  | nil
  | cons (e : Ex) (es : Exs)
inductive Ox where
  | none
  | some (e : Ex)
inductive Te where
  | val (e : Ex)
  | cmp (o : CmpOp) (a b : Ex)
  | chn (o o' : CmpOp) (a b c : Ex)
  | and (a b : Te)
  | or (a b : Te)
  | not (a : Te)
end
/-- what stands written behind the top: constants, written objects, fields of the own classes -/
structure Stat where
  gv : Str → Option V
  so : Addr → Option HO
  fl : Addr → Str → Prop
  /-- own exception classes: where, and the field -/
  xc : Str → Option (Addr × Option Str)
  /-- whether the class at an address lies under a named one -/
  isa : Addr → Str → Option Bool
  /-- the same for own classes that are no exceptions -/
  iso : Addr → Str → Option Bool
  /-- no built-in type lies under the named class -/
  isb : Str → Bool
  /-- a field of an exception -/
  xf : Addr → Str → Prop
  /-- the def of an own class's method -/
  mt : Addr → Str → Option Str
  /-- C(..), so many values and these keywords: the class, the def, for each parameter the place of its value, or the default -/
  mkc : Str → Nat → List Str → Option (Addr × Str × List (Nat ⊕ V))
/-- what the defs do -/
structure Sm where
  fn : Str → Sp
def boolV (Q : Bool → Hp → Prop) : VK := fun z H => match z with
  | .bl k => Q k H
  | _ => False
def tBl : Bt → Bool
  | .bool => true | .int => true | .str => false | .list => false | .tuple => false
def tInt : Bt → Bool
  | .bool => false | .int => true | .str => false | .list => false | .tuple => false
def tStr : Bt → Bool
  | .bool => false | .int => false | .str => true | .list => false | .tuple => false
def tList : Bt → Bool
  | .bool => false | .int => false | .str => false | .list => true | .tuple => false
def tTuple : Bt → Bool
  | .bool => false | .int => false | .str => false | .list => false | .tuple => true
/-- the kind of a value -/
def btV (so : Addr → Option HO) (H : Hp) (T : Bt) : V → Option Bool
  | .non => some false
  | .bl _ => some (tBl T)
  | .int _ => some (tInt T)
  | .str _ => some (tStr T)
  | .ref p => (match H p with
    | some (.lst _) => some (tList T)
    | some (.tup _) => some (tTuple T)
    | some (.dK _) => some false
    | _ => none)
  | _ => none
def fldV (S : Stat) (f : Str) : V → Hp → VK → Prop := fun x H Q => match x with
  | .ref p => (match H p with
    | some (.ins C _ fs) => S.fl C f ∧ (match fs.lookup f with
      | some v => Q v H
      | none => False)
    | some (.ext _) => ∃ C fs v, Xat H p C fs ∧ S.xf C f ∧ fs.lookup f = some v ∧ Q v H
    | _ => False)
  | _ => False
/-- isinstance of a class by its name -/
def isxK (S : Stat) (c : Str) (x : V) (H : Hp) (B : Bool → Prop) : Prop := match x with
  | .ref p => (match H p with
    | some (.ext _) => ∃ C fs b, Xat H p C fs ∧ S.isa C c = some b ∧ B b
    | some (.ins C _ _) => ∃ b, S.iso C c = some b ∧ B b
    | some (.lst _) => S.isb c = true ∧ B false
    | some (.tup _) => S.isb c = true ∧ B false
    | some (.dK _) => S.isb c = true ∧ B false
    | _ => False)
  | .non => S.isb c = true ∧ B false
  | .bl _ => S.isb c = true ∧ B false
  | .int _ => S.isb c = true ∧ B false
  | .str _ => S.isb c = true ∧ B false
  | _ => False
/-- an own exception made -/
def mkxV (S : Stat) (c : Str) (vs : List V) (H : Hp) (Q : VK) : Prop := match S.xc c with
  | some (C, some g) => (match vs with
    | [v] => ∀ a d, H a = none → H d = none → d ≠ a → S.so a = none → S.so d = none → Q (.ref a) (upd (upd H d (.xd [(g, v)])) a (exV a C (some d)))
    | _ => False)
  | some (C, none) => vs = [] ∧ ∀ a, H a = none → S.so a = none → Q (.ref a) (upd H a (exV a C none))
  | none => False
/-- an own exception raised -/
def raiV (S : Stat) (c : Str) (vs : List V) (H : Hp) (B : XK) : Prop := match S.xc c with
  | some (C, some g) => (match vs with
    | [v] => ∀ d, H d = none → S.so d = none → B (.ref C) (some d) (upd H d (.xd [(g, v)]))
    | _ => False)
  | _ => False
/-- a method's def -/
def metK (S : Stat) (m : Str) (x : V) (H : Hp) (B : Str → Prop) : Prop := match x with
  | .ref p => (match H p with
    | some (.ins C _ fs) => fs.lookup m = none ∧ (match S.mt C m with
      | some g => B g
      | none => False)
    | _ => False)
  | _ => False
/-- the values of the parameters -/
def pmV (pm : List (Nat ⊕ V)) (vs : List V) : Option (List V) := pm.mapM fun p => match p with
  | .inl i => vs[i]?
  | .inr v => some v
def mkK (S : Stat) (F : Sm) (c : Str) (ks : List Str) (vs : List V) (H : Hp) (Q : VK) (E : XK) : Prop := match S.mkc c vs.length ks with
  | some (C, g, pm) => (match pmV pm vs with
    | some ws => ∀ x dx, H x = none → H dx = none → dx ≠ x → S.so x = none → S.so dx = none → F.fn g (.ref x :: ws) (upd (upd H dx (.own x)) x (.ins C dx [])) (fun v H2 => v = .non ∧ Q (.ref x) H2) E
    | none => False)
  | none => False
/-- methods of lists -/
def bmTy : Bm → String
  | .count => "list" | .append => "list" | .insert => "list"
def bmN : Bm → Str
  | .count => "count" | .append => "append" | .insert => "insert"
def bmTyK (S : Stat) (m : Bm) (x : V) (H : Hp) : Prop := match x with
  | .ref p => (match rd S.so H p with
    | some (.lst _) => True
    | _ => False)
  | _ => False
def mCount (S : Stat) (x : V) (vs : List V) (H : Hp) (Q : VK) : Prop := match x, vs with
  | .ref p, [k] => (match rd S.so H p with
    | some (.lst ys) => flatV k = true ∧ ys.all flatV = true ∧ Q (.int (ys.countP (fun y => eqV y k) : Nat)) H
    | _ => False)
  | _, _ => False
def mAppend (x : V) (vs : List V) (H : Hp) (Q : VK) : Prop := match x, vs with
  | .ref p, [v] => (match H p with
    | some (.lst ys) => ys.length < sizeLine ∧ Q .non (upd H p (.lst (ys ++ [v])))
    | _ => False)
  | _, _ => False
def mInsert (x : V) (vs : List V) (H : Hp) (Q : VK) : Prop := match x, vs with
  | .ref p, [.int i, v] => (match H p with
    | some (.lst ys) => i = 0 ∧ ys.length < sizeLine ∧ Q .non (upd H p (.lst (v :: ys)))
    | _ => False)
  | _, _ => False
def bmV (S : Stat) : Bm → V → List V → Hp → VK → Prop
  | .count => mCount S
  | .append => mAppend
  | .insert => mInsert
def varK (o : Option (Option V)) (B : V → Prop) : Prop := match o with
  | some (some v) => B v
  | _ => False
def cstK (o : Option V) (B : V → Prop) : Prop := match o with
  | some v => B v
  | none => False
def truK (so : Addr → Option HO) (x : V) (H : Hp) (B : Bool → Prop) : Prop := match truV so H x with
  | some k => B k
  | none => False
def btK (so : Addr → Option HO) (T : Bt) (x : V) (H : Hp) (B : Bool → Prop) : Prop := match btV so H T x with
  | some k => B k
  | none => False
def intK (x : V) (B : Int → Prop) : Prop := match x with
  | .int i => B i
  | _ => False
section
variable (S : Stat) (F : Sm) (W : WX)
mutual
def wE : Ex → TE
  | .var i => fun σ H Q => varK σ[i]? fun v => Q v H
  | .lit v => fun _ H Q => Q v H
  | .cst x => fun _ H Q => cstK (S.gv x) fun v => Q v H
  | .op o a b => fun σ H Q => wE a σ H fun x H1 => wE b σ H1 fun y H2 => opV S.so o x y H2 Q
  | .neg a => fun σ H Q => wE a σ H fun x H1 => intK x fun i => Q (.int (-i)) H1
  | .cmp o a b => fun σ H Q => wE a σ H fun x H1 => wE b σ H1 fun y H2 => cmpV S.so o x y H2 Q
  | .chn o o' a b c => fun σ H Q => wE a σ H fun x H1 => wE b σ H1 fun y H2 => cmpV S.so o x y H2 (boolV fun k H3 => if k = true then wE c σ H3 fun z H4 => cmpV S.so o' y z H4 Q else Q (.bl false) H3)
  | .and a b => fun σ H Q => wE a σ H fun x H1 => truK S.so x H1 fun k => if k = true then wE b σ H1 Q else Q x H1
  | .or a b => fun σ H Q => wE a σ H fun x H1 => truK S.so x H1 fun k => if k = true then Q x H1 else wE b σ H1 Q
  | .not a => fun σ H Q => wE a σ H fun x H1 => truK S.so x H1 fun k => Q (.bl (!k)) H1
  | .ite t a b => fun σ H Q => wT t σ H fun k H1 => if k = true then wE a σ H1 Q else wE b σ H1 Q
  | .fld o f => fun σ H Q => wE o σ H fun x H1 => fldV S f x H1 Q
  | .idx o i => fun σ H Q => wE o σ H fun x H1 => wE i σ H1 fun y H2 => idxV S.so x y H2 Q
  | .slc o lo hi => fun σ H Q => wE o σ H fun x H1 => wO lo σ H1 fun a H2 => wO hi σ H2 fun b H3 => slcV S.so x a b H3 Q
  | .lst es => fun σ H Q => wA es σ H fun xs H1 => xs.length ≤ sizeLine ∧ ∀ p, H1 p = none → S.so p = none → Q (.ref p) (upd H1 p (.lst xs))
  | .tup es => fun σ H Q => wA es σ H fun xs H1 => xs.length ≤ sizeLine ∧ ∀ p, H1 p = none → S.so p = none → Q (.ref p) (upd H1 p (.tup xs))
  | .fn f es => fun σ H Q => wA es σ H fun vs H1 => F.fn f vs H1 Q (fun c d H' => W c d σ H')
  | .bi b es => fun σ H Q => wA es σ H fun vs H1 => biV S.so b vs H1 Q
  | .isi e T => fun σ H Q => wE e σ H fun x H1 => btK S.so T x H1 fun k => Q (.bl k) H1
  | .isx e c => fun σ H Q => wE e σ H fun x H1 => isxK S c x H1 fun k => Q (.bl k) H1
  | .mkx c es => fun σ H Q => wA es σ H fun vs H1 => mkxV S c vs H1 Q
  | .dct0 => fun _ H Q => ∀ p, H p = none → S.so p = none → Q (.ref p) (upd H p (.dK []))
  | .met o m es => fun σ H Q => wE o σ H fun x H1 => metK S m x H1 fun g => wA es σ H1 fun vs H2 => F.fn g (x :: vs) H2 Q (fun c d H' => W c d σ H')
  | .bm m o es => fun σ H Q => wE o σ H fun x H1 => bmTyK S m x H1 ∧ wA es σ H1 fun vs H2 => bmV S m x vs H2 Q
  | .mkC c ks es => fun σ H Q => wA es σ H fun vs H1 => mkK S F c ks vs H1 Q (fun c d H' => W c d σ H')
def wA : Exs → TA
  | .nil => fun _ H Q => Q [] H
  | .cons e es => fun σ H Q => wE e σ H fun x H1 => wA es σ H1 fun xs H2 => Q (x :: xs) H2
def wO : Ox → St → Hp → (Option Int → Hp → Prop) → Prop
  | .none => fun _ H Q => Q none H
  | .some e => fun σ H Q => wE e σ H fun x H1 => intK x fun i => Q (some i) H1
def wT : Te → TT
  | .val e => fun σ H Q => wE e σ H fun x H1 => truK S.so x H1 fun k => Q k H1
  | .cmp o a b => fun σ H Q => wE a σ H fun x H1 => wE b σ H1 fun y H2 => cmpV S.so o x y H2 (boolV Q)
  | .chn o o' a b c => fun σ H Q => wE a σ H fun x H1 => wE b σ H1 fun y H2 => cmpV S.so o x y H2 (boolV fun k H3 => if k = true then wE c σ H3 fun z H4 => cmpV S.so o' y z H4 (boolV Q) else Q false H3)
  | .and a b => fun σ H Q => wT a σ H fun k H1 => if k = true then wT b σ H1 Q else Q false H1
  | .or a b => fun σ H Q => wT a σ H fun k H1 => if k = true then Q true H1 else wT b σ H1 Q
  | .not a => fun σ H Q => wT a σ H fun k H1 => Q (!k) H1
end
end
/-! ### turning Python's expressions -/
inductive Gk where
  | fn | cst | bi (b : Bi) | isi | xcl | ocl | bxc | no
  deriving DecidableEq
structure CI where
  N : List Str
  sc : Scope
  gl : Str → Gk
def okN (x : Str) : Bool := !(x == ("__debug__" : Str)) && !(x == ("__classdict__" : Str))
def slotOf (C : CI) (x : Str) : Option Nat := match C.sc.names.lookup x with
  | some .local => C.N.idxOf? x
  | some .cell => C.N.idxOf? x
  | some .free => C.N.idxOf? x
  | _ => none
def isG (C : CI) (x : Str) : Bool := match C.sc.names.lookup x with
  | some .globalImplicit => true
  | _ => false
def nCE : (Expr → Option Ex) → List Expr → Option Exs
  | _, [] => some .nil
  | f, e :: es => match f e, nCE f es with
    | some a, some b => some (.cons a b)
    | _, _ => none
/-- x.f: x is not a bare call (super()) -/
def plainBase : Expr → Bool
  | .Call (.Name _ _) [] [] _ => false
  | _ => true
def notSlice : Expr → Bool
  | .Slice _ _ _ _ => false
  | _ => true
def plainTest : Expr → Bool
  | .UnaryOp .Not _ _ => false
  | .BoolOp _ _ _ => false
  | .IfExp _ _ _ _ => false
  | .Compare _ _ _ _ => false
  | _ => true
def two {α β γ : Type} (x : Option α) (y : Option β) (f : α → β → γ) : Option γ := match x, y with
  | some a, some b => some (f a b)
  | _, _ => none
def tri {α β γ δ : Type} (x : Option α) (y : Option β) (z : Option γ) (f : α → β → γ → δ) : Option δ := match x, y, z with
  | some a, some b, some c => some (f a b c)
  | _, _, _ => none
def iff' {α : Type} (b : Bool) (x : Option α) : Option α := match b with
  | true => x
  | false => none
def behindOk (o : CmpOp) (e : Expr) : Bool := !behindInMarks o e
def cName (C : CI) (x : Str) : Option Ex := iff' (okN x) (match slotOf C x with
  | some i => some (.var i)
  | none => iff' (isG C x && C.gl x == .cst) (some (.cst x)))
def btBi : Bi → Option Bt
  | .int => some .int
  | .bool => some .bool
  | .str => some .str
  | .list => some .list
  | .tuple => some .tuple
  | _ => none
def cIsi (C : CI) (f : Expr → Option Ex) (a : Expr) (as : List Expr) : Option Ex := match as with
  | [.Name T _] => iff' (isG C T) (match C.gl T with
    | .bi b => (btBi b).bind fun T => (f a).map (.isi · T)
    | .xcl => (f a).map (.isx · T)
    | .bxc => (f a).map (.isx · T)
    | .ocl => (f a).map (.isx · T)
    | _ => none)
  | _ => none
def cCall (C : CI) (f : Expr → Option Ex) (x : Str) (a : Expr) (as : List Expr) : Gk → Option Ex
  | .fn => (nCE f (a :: as)).map (.fn x)
  | .bi b => (nCE f (a :: as)).map (.bi b)
  | .isi => cIsi C f a as
  | .xcl => (nCE f (a :: as)).map (.mkx x)
  | .ocl => (nCE f (a :: as)).map (.mkC x [])
  | _ => none
/-- a call without arguments -/
def cCall0 (x : Str) : Gk → Option Ex
  | .xcl => some (.mkx x .nil)
  | _ => none
def bmOf (m : Str) : Option Bm := if m = "count" then some .count else if m = "append" then some .append else if m = "insert" then some .insert else none
def cMet (o : Option Ex) (m : Str) (ne : Bool) (es : Option Exs) : Option Ex := match bmOf m with
  | some b => iff' ne (two o es (.bm b))
  | none => two o es (.met · m)
def kwOf (k : Keyword) : Option (Str × Expr) := k.arg.map fun a => (a, k.value)
def kwsOf : List Keyword → Option (List (Str × Expr))
  | [] => some []
  | k :: r => two (kwOf k) (kwsOf r) fun a b => a :: b
def cMkC (C : CI) (f : Expr → Option Ex) (x : Str) (as : List Expr) (ks : List (Str × Expr)) : Option Ex := match C.gl x with
  | .ocl => (nCE f (as ++ ks.map (·.2))).map (.mkC x (ks.map (·.1)))
  | _ => none
mutual
def cE (C : CI) : Nat → Expr → Option Ex
  | 0, _ => none
  | n + 1, e => match e with
    | .Constant (.int i) _ _ => some (.lit (.int i))
    | .Constant (.bool b) _ _ => some (.lit (.bl b))
    | .Constant .none _ _ => some (.lit .non)
    | .Constant (.str x) _ _ => some (.lit (.str x))
    | .Name x _ => cName C x
    | .BinOp a o b _ => (two (cE C n a) (cE C n b) (.op o))
    | .UnaryOp .USub a _ => (cE C n a).map .neg
    | .UnaryOp .Not a _ => (cE C n a).map .not
    | .Compare a [o] [b] _ => iff' (behindOk o b) ((two (cE C n a) (cE C n b) (.cmp o)))
    | .Compare a [o, o'] [b, c] _ => iff' (behindOk o b && behindOk o' c) ((tri (cE C n a) (cE C n b) (cE C n c) (.chn o o')))
    | .BoolOp .And [a] _ => cE C n a
    | .BoolOp .Or [a] _ => cE C n a
    | .BoolOp .And (a :: b :: r) p => (two (cE C n a) (cE C n (.BoolOp .And (b :: r) p)) (.and))
    | .BoolOp .Or (a :: b :: r) p => (two (cE C n a) (cE C n (.BoolOp .Or (b :: r) p)) (.or))
    | .IfExp t a b _ => (tri (cT C n t) (cE C n a) (cE C n b) (.ite))
    | .Attribute o f _ => iff' (plainBase o) ((cE C n o).map (.fld · f))
    | .Subscript o i _ => (match i with
      | .Slice lo hi none _ => tri (cE C n o) (cO C n lo) (cO C n hi) (.slc)
      | .Slice _ _ (some _) _ => none
      | i => two (cE C n o) (cE C n i) (.idx))
    | .List es _ => (nCE (cE C n) es).map .lst
    | .Tuple es _ _ => (nCE (cE C n) es).map .tup
    | .Call (.Name x _) (a :: as) [] _ => iff' (isG C x) (cCall C (cE C n) x a as (C.gl x))
    | .Call (.Name x _) [] [] _ => iff' (isG C x) (cCall0 x (C.gl x))
    | .Call (.Name x _) (a :: as) (k :: ks) _ => iff' (isG C x) ((kwsOf (k :: ks)).bind fun kk => cMkC C (cE C n) x (a :: as) kk)
    | .Call (.Attribute o m ap) as [] p => iff' (plainBase o && ap.endLine == p.line && decide (as.length < 20)) (cMet (cE C n o) m (!as.isEmpty) (nCE (cE C n) as))
    | .Dict [] [] _ => some .dct0
    | _ => none
def cO (C : CI) : Nat → Option Expr → Option Ox
  | 0, _ => none
  | _, none => some .none
  | n + 1, some e => (cE C n e).map .some
def cT (C : CI) : Nat → Expr → Option Te
  | 0, _ => none
  | n + 1, e => match e with
    | .UnaryOp .Not a _ => (cT C n a).map .not
    | .BoolOp .And [a] _ => cT C n a
    | .BoolOp .Or [a] _ => cT C n a
    | .BoolOp .And (a :: b :: r) p => (two (cT C n a) (cT C n (.BoolOp .And (b :: r) p)) (.and))
    | .BoolOp .Or (a :: b :: r) p => (two (cT C n a) (cT C n (.BoolOp .Or (b :: r) p)) (.or))
    | .Compare a [o] [b] _ => iff' (behindOk o b) ((two (cE C n a) (cE C n b) (.cmp o)))
    | .Compare a [o, o'] [b, c] _ => iff' (behindOk o b && behindOk o' c) ((tri (cE C n a) (cE C n b) (cE C n c) (.chn o o')))
    | e => iff' (plainTest e) ((cE C n e).map .val)
end
end QL
set_option Elab.async false
set_option linter.all false
set_option maxRecDepth 100000
set_option maxHeartbeats 4000000
/-! Q5: what cE turns keeps what wE asks. -/
namespace QL
open PySem PySem.Spec L2
open PyProof.Rows hiding St
def btN : Bt → Str
  | .int => "int" | .bool => "bool" | .str => "str" | .list => "list" | .tuple => "tuple"
def btS : Bt → String
  | .int => "int" | .bool => "bool" | .str => "str" | .list => "list" | .tuple => "tuple"
/-- a class by its name -/
def ClsN (mg : Str → Option Value) (x : Str) (u : Value) : Prop := (x == ("__debug__" : Str)) = false ∧ (((∃ C, u = .ref C) ∧ mg x = some u) ∨ ((∃ T, u = .type T) ∧ mg x = none ∧ bootBuiltins x = some u ∧ x ≠ "__name__"))
theorem ClsN.one {mg : Str → Option Value} {x : Str} {u v : Value} (a : ClsN mg x u) (b : ClsN mg x v) : u = v := by
  obtain ⟨_, ⟨_, h⟩ | ⟨_, h, h', _⟩⟩ := a <;> obtain ⟨_, ⟨_, g⟩ | ⟨_, g, g', _⟩⟩ := b
  · rw [h] at g; exact Option.some.inj g
  · rw [h] at g; cases g
  · rw [h] at g; cases g
  · rw [h'] at g'; exact Option.some.inj g'
/-- what isinstance asks of an own class -/
structure OcC (K : PySem.W.Frag) (C : Addr) : Prop where
  cl : Cls K C
  ca : PySem.W.findIn K (.ref C) "__class__" = some (some (.builtin "object.__class__"))
  cg : PySem.W.specialIn K (.builtin "object.__class__") "__get__" = some (some (.builtin "getset_descriptor.__get__"))
  ct : PySem.W.takesIn K (.builtin "object.__class__") = some true
  mo : PySem.W.mroIn K C (.type "object") = some true
def bTs : List String := ["NoneType", "bool", "int", "str", "list", "tuple", "dict"]
/-- how C(..) is made -/
def MkOk (P : Program) (w : World) (K : PySem.W.Frag) (mg : Str → Option Value) (base : Heap) (k : Nat) (x : Str) (n : Nat) (ks : List Str) (C : Addr) (sp : Sp) (pm : List (Nat ⊕ V)) : Prop :=
  (x == ("__debug__" : Str)) = false ∧ mg x = some (.ref C) ∧ ∃ (f : Addr) (fd : FuncData) (ps : List Str), Mk K C f ∧ FnG P w K mg base k f fd ps sp ∧
    ∀ (vs ws : List V) (us : List Value), Vals vs us → vs.length = n → pmV pm vs = some ws → ∃ full : List Value, Vals ws full ∧ ∀ (s : Shared) (a : Value), K.In s.heap → BindsTo s fd ⟨a :: us.take (n - ks.length), ks.zip (us.drop (n - ks.length))⟩ (ps.zip (a :: full))
/-- the module's names, as they stand behind the top -/
structure GOk (P : Program) (w : World) (K : PySem.W.Frag) (mg : Str → Option Value) (base : Heap) (S : Stat) (F : Sm) (k : Nat) (gl : Str → Gk) : Prop where
  so : SoOk K S.so
  fl : ∀ C f, S.fl C f → Cls K C ∧ NoAttr K C f
  fn : ∀ x, gl x = .fn → ∃ f fd ps, (x == ("__debug__" : Str)) = false ∧ mg x = some (.ref f) ∧ PySem.W.keepIn K (.ref f) = true ∧ FnG P w K mg base (2 * k + 1) f fd ps (F.fn x) ∧ Binds K fd ps []
  cst : ∀ x v, gl x = .cst → S.gv x = some v → ∃ u, mg x = some u ∧ RelV v u
  bi : ∀ x b, gl x = .bi b → x = biN b ∧ mg x = none
  isi : ∀ x, gl x = .isi → x = "isinstance" ∧ mg x = none
  rng : gl "range" = .no → mg "range" = none
  cls : ∀ x, (gl x = .xcl ∨ gl x = .ocl ∨ gl x = .bxc) → ∃ u, ClsN mg x u
  own : ∀ x, (gl x = .xcl ∨ gl x = .ocl) → ∃ C, (x == ("__debug__" : Str)) = false ∧ mg x = some (.ref C) ∧ PySem.W.keepIn K (.ref C) = true
  xc : ∀ x C f, gl x = .xcl → S.xc x = some (C, f) → Xk P w K mg base x C f
  isa : ∀ C c b, S.isa C c = some b → XvC K C ∧ ∀ u, ClsN mg c u → PySem.W.kitOne K (.ref C) u = some b ∧ PySem.W.exmOne K (.ref C) u = some b
  iso : ∀ C c b, S.iso C c = some b → OcC K C ∧ ∀ u, ClsN mg c u → PySem.W.kitOne K (.ref C) u = some b
  isb : ∀ c, S.isb c = true → ∀ u, ClsN mg c u → ∀ T ∈ bTs, PySem.W.kitOne K (.type T) u = some false
  xf : ∀ C f, S.xf C f → XvC K C ∧ PySem.W.findIn K (.ref C) f = some none
  mt : ∀ C m g, S.mt C m = some g → Cls K C ∧ ∃ f fd ps, Meth K C m f ∧ FnG P w K mg base (2 * k + 1) f fd ps (F.fn g) ∧ Binds K fd ps []
  mkc : ∀ x n ks C g pm, gl x = .ocl → S.mkc x n ks = some (C, g, pm) → MkOk P w K mg base (2 * k + 1) x n ks C (F.fn g) pm
/-- a body's context -/
structure Ok (X : Cx) (S : Stat) (F : Sm) (k : Nat) (C : CI) (W : WX) : Prop where
  G : GOk X.prog X.w X.K X.mg X.base S F k C.gl
  N : X.N = C.N
  nd : C.N.Nodup
  sc : X.env.scope.names = C.sc.names
  calm : X.calm = true
  gd : X.A.guards = some []
  rm : Room (2 * k + 2) X.A
  tk : Takes X W
  kd : X.env.scope.kind = .function
  po : PassesOwn (model X.prog X.w) X.A X.env X.xe
  cf : ∀ x, C.sc.names.lookup x = some .cell → X.fn x = true
  stk : X.stack = X.env :: X.outer
  frm : X.env.frame = some X.env.locals
  exn : X.ex = []
theorem btBi_name {b : Bi} {T : Bt} (h : btBi b = some T) : biN b = btN T := by
  cases b <;> cases h <;> rfl
section
variable {X : Cx} {S : Stat} {F : Sm} {k : Nat} {C : CI} {W : WX}
theorem Ok.hu (O : Ok X S F k C W) : X.A.units + 64 < cLine := O.rm.units
theorem Ok.hu1 (O : Ok X S F k C W) : X.A.units + 1 < cLine := by have := O.rm.units; omega
theorem Ok.gl (O : Ok X S F k C W) {x : Str} (h : isG C x = true) : Gl X x := by
  unfold isG at h
  show X.env.scope.names.lookup x = _
  rw [O.sc]
  split at h
  · assumption
  · cases h
theorem idxOf_get {α : Type} [BEq α] [LawfulBEq α] {x : α} : ∀ {l : List α} {i : Nat}, l.idxOf? x = some i → l[i]? = some x := by
  intro l
  induction l with
  | nil => intro i h; cases h
  | cons a r ih =>
    intro i h
    rw [List.idxOf?_cons] at h
    split at h
    · rename_i e
      cases h
      simp at e
      simp [e]
    · cases e : r.idxOf? x with
      | none => rw [e] at h; cases h
      | some j =>
        rw [e] at h
        cases h
        simpa using ih e
theorem Ok.slot (O : Ok X S F k C W) {x : Str} {i : Nat} (h : slotOf C x = some i) : X.N[i]? = some x ∧ Vis X.env.scope x := by
  unfold slotOf at h
  rw [← O.sc] at h
  rw [O.N]
  split at h
  · rename_i e
    exact ⟨idxOf_get h, .inl e⟩
  · rename_i e
    exact ⟨idxOf_get h, .inr (.inl e)⟩
  · rename_i e
    exact ⟨idxOf_get h, .inr (.inr e)⟩
  · cases h
theorem okN_d {x : Str} (h : okN x = true) : (x == ("__debug__" : Str)) = false ∧ (x == ("__classdict__" : Str)) = false := by
  unfold okN at h
  simp only [Bool.and_eq_true, Bool.not_eq_true'] at h
  exact h
theorem gk_name {b : Bi} : okN (biN b) = true := by cases b <;> decide
/-- what is turned is no star -/
def notStar : Expr → Bool
  | .Starred _ _ => false
  | _ => true
theorem cE_star {n : Nat} {e : Expr} {c : Ex} (h : cE C n e = some c) : notStar e = true := by
  cases n with
  | zero => unfold cE at h; cases h
  | succ n => cases e <;> first | rfl | (unfold cE at h; cases h)
theorem star_one {e : Expr} {es : List Expr} {env : Env} (h : notStar e = true) : starEach (e :: es) env = (false, eval e env) :: starEach es env := by
  cases e <;> first | rfl | cases h
theorem star_no {env : Env} {pos : Pos} : ∀ {es : List Expr}, (∀ e ∈ es, notStar e = true) → (backTo pos (starEach es env)).any (·.1) = false
  | [], _ => rfl
  | e :: es, h => by
    rw [star_one (h e (List.mem_cons_self ..))]
    have ih := star_no (es := es) (env := env) (pos := pos) fun a ha => h a (List.mem_cons_of_mem _ ha)
    unfold backTo at ih ⊢
    rw [List.map_cons, List.any_cons]
    simp only [Bool.false_or]
    exact ih
theorem nCE_cons {f : Expr → Option Ex} {e : Expr} {es : List Expr} {c : Exs} (h : nCE f (e :: es) = some c) : ∃ a b, f e = some a ∧ nCE f es = some b ∧ c = .cons a b := by
  unfold nCE at h
  split at h
  · rename_i a b h1 h2
    cases h
    exact ⟨a, b, h1, h2, rfl⟩
  · cases h
theorem nCE_star {n : Nat} : ∀ {es : List Expr} {c : Exs}, nCE (cE C n) es = some c → ∀ e ∈ es, notStar e = true
  | [], _, _, e, he => by cases he
  | a :: es, c, h, e, he => by
    obtain ⟨x, y, h1, h2, _⟩ := nCE_cons h
    rcases List.mem_cons.mp he with rfl | he
    · exact cE_star h1
    · exact nCE_star h2 e he
theorem nCE_pa {n : Nat} (ih : ∀ e c, cE C n e = some c → PE X e (wE S F W c)) : ∀ {es : List Expr} {c : Exs}, nCE (cE C n) es = some c → PA X es (wA S F W c)
  | [], c, h => by
    unfold nCE at h
    cases h
    unfold wA
    exact pa_nil
  | e :: es, c, h => by
    obtain ⟨a, b, h1, h2, rfl⟩ := nCE_cons h
    unfold wA
    exact pa_cons (ih e a h1) (nCE_pa ih h2) (star_one (cE_star h1))
/-- two parts -/
theorem pair_some {α β γ : Type} {x : Option α} {y : Option β} {f : α → β → γ} {c : γ} (h : (match x, y with | some a, some b => some (f a b) | _, _ => none) = some c) : ∃ a b, x = some a ∧ y = some b ∧ c = f a b := by
  cases x with
  | none => cases h
  | some a =>
    cases y with
    | none => cases h
    | some b => cases h; exact ⟨a, b, rfl, rfl, rfl⟩
theorem PE.imp {e : Expr} {t t' : TE} (h : PE X e t) (q : ∀ σ H Q, t' σ H Q → t σ H Q) : PE X e t' := ⟨fun pins s σ H Q I z => h.run pins s σ H Q I (q σ H Q z)⟩
theorem PT.imp {e : Expr} {t t' : TT} (h : PT X e t) (q : ∀ σ H Q, t' σ H Q → t σ H Q) : PT X e t' := ⟨fun pins s σ H Q I z => h.run pins s σ H Q I (q σ H Q z)⟩
end
end QL
set_option Elab.async false
set_option linter.all false
set_option maxRecDepth 100000
set_option maxHeartbeats 4000000
/-! Q6: a weaker end is reached, too. -/
namespace QL
open PySem PySem.Spec L2
open PyProof.Rows hiding St
section
variable {x y : V} {H : Hp} {Q Q' : VK} {so : Addr → Option HO}
theorem opV_mono {o : Operator} (q : ∀ v H', Q v H' → Q' v H') (h : opV so o x y H Q) : opV so o x y H Q' := by
  cases o with
  | Add =>
    change addV so x y H Q at h
    show addV so x y H Q'
    unfold addV at h ⊢
    split at h
    · exact q _ _ h
    · exact ⟨h.1, q _ _ h.2⟩
    · split at h
      · exact ⟨h.1, fun r hr hs => q _ _ (h.2 r hr hs)⟩
      · exact h.elim
    · exact h.elim
  | Sub =>
    change subV x y H Q at h
    show subV x y H Q'
    unfold subV at h ⊢
    split at h
    · exact q _ _ h
    · exact h.elim
  | Mult =>
    change mulV so x y H Q at h
    show mulV so x y H Q'
    unfold mulV at h ⊢
    split at h
    · exact ⟨h.1, q _ _ h.2⟩
    · split at h
      · exact ⟨h.1, h.2.1, h.2.2.1, fun r hr hs => q _ _ (h.2.2.2 r hr hs)⟩
      · exact h.elim
    · exact h.elim
  | FloorDiv =>
    change divV x y H Q at h
    show divV x y H Q'
    unfold divV at h ⊢
    split at h
    · exact ⟨h.1, q _ _ h.2⟩
    · exact h.elim
  | Mod =>
    change modV x y H Q at h
    show modV x y H Q'
    unfold modV at h ⊢
    split at h
    · exact ⟨h.1, q _ _ h.2⟩
    · exact h.elim
  | Pow =>
    change powV x y H Q at h
    show powV x y H Q'
    unfold powV at h ⊢
    split at h
    · exact ⟨h.1, q _ _ h.2⟩
    · exact h.elim
  | LShift =>
    change shlV x y H Q at h
    show shlV x y H Q'
    unfold shlV at h ⊢
    split at h
    · exact ⟨h.1, q _ _ h.2⟩
    · exact h.elim
  | _ => exact h.elim
theorem eqD_mono {n : Bool} (q : ∀ v H', Q v H' → Q' v H') (h : eqD so n x y H Q) : eqD so n x y H Q' := by
  unfold eqD at h ⊢
  split at h
  · exact q _ _ h
  · split at h
    · exact q _ _ h
    · obtain ⟨d, e, h1, h2, h3, h4, z⟩ := h
      exact ⟨d, e, h1, h2, h3, h4, q _ _ z⟩
theorem ordV_mono {p : Int → Int → Bool} (q : ∀ v H', Q v H' → Q' v H') (h : ordV p x y H Q) : ordV p x y H Q' := by
  unfold ordV at h ⊢
  split at h
  · exact q _ _ h
  · exact h.elim
theorem inD_mono {n : Bool} (q : ∀ v H', Q v H' → Q' v H') (h : inD so n x y H Q) : inD so n x y H Q' := by
  unfold inD at h ⊢
  split at h
  · split at h
    · exact q _ _ h
    · exact h.elim
  · split at h
    · exact ⟨h.1, h.2.1, q _ _ h.2.2⟩
    · exact ⟨h.1, h.2.1, q _ _ h.2.2⟩
    · split at h
      · exact q _ _ h
      · exact h.elim
    · exact h.elim
  · exact h.elim
theorem isV_mono {n : Bool} (q : ∀ v H', Q v H' → Q' v H') (h : isV n x y H Q) : isV n x y H Q' := by
  unfold isV at h ⊢
  split at h
  · exact q _ _ h
  · exact q _ _ h
  · split at h
    · exact ⟨h.1, h.2.1, q _ _ h.2.2⟩
    · exact h.elim
  · exact h.elim
theorem cmpV_mono {o : CmpOp} (q : ∀ v H', Q v H' → Q' v H') (h : cmpV so o x y H Q) : cmpV so o x y H Q' := match o, h with
  | .Eq, h => eqD_mono q h
  | .NotEq, h => eqD_mono q h
  | .Lt, h => ordV_mono q h
  | .LtE, h => ordV_mono q h
  | .Gt, h => ordV_mono q h
  | .GtE, h => ordV_mono q h
  | .In, h => inD_mono q h
  | .NotIn, h => inD_mono q h
  | .Is, h => isV_mono q h
  | .IsNot, h => isV_mono q h
theorem idxV_mono (q : ∀ v H', Q v H' → Q' v H') (h : idxV so x y H Q) : idxV so x y H Q' := by
  unfold idxV at h ⊢
  split at h
  · split at h
    · split at h
      · exact q _ _ h
      · exact h.elim
    · split at h
      · exact q _ _ h
      · exact h.elim
    · split at h
      · split at h
        · exact q _ _ h
        · exact h.elim
      · exact h.elim
    · exact h.elim
  · split at h
    · split at h
      · split at h
        · exact q _ _ h
        · exact h.elim
      · exact h.elim
    · exact h.elim
  · refine ⟨h.1, ?_⟩
    have h := h.2
    split at h
    · exact q _ _ h
    · exact h.elim
  · exact h.elim
theorem slcV_mono {a b : Option Int} (q : ∀ v H', Q v H' → Q' v H') (h : slcV so x a b H Q) : slcV so x a b H Q' := by
  unfold slcV at h ⊢
  split at h
  · exact fun p hp hs => q _ _ (h p hp hs)
  · exact h.elim
theorem biV_mono {b : Bi} {xs : List V} (q : ∀ v H', Q v H' → Q' v H') (h : biV so b xs H Q) : biV so b xs H Q' := by
  cases b with
  | len =>
    change bLen so xs H Q at h
    show bLen so xs H Q'
    unfold bLen at h ⊢
    split at h
    · split at h
      · exact q _ _ h
      · exact h.elim
    · exact h.elim
  | int =>
    change bInt xs H Q at h
    show bInt xs H Q'
    unfold bInt at h ⊢
    split at h
    · exact q _ _ h
    · exact q _ _ h
    · obtain ⟨z, n, e, h⟩ := h
      exact ⟨z, n, e, q _ _ h⟩
    · exact h.elim
  | bool =>
    change bBool xs H Q at h
    show bBool xs H Q'
    unfold bBool at h ⊢
    split at h
    · exact q _ _ h
    · exact q _ _ h
    · exact h.elim
  | str =>
    change bStr xs H Q at h
    show bStr xs H Q'
    unfold bStr at h ⊢
    split at h
    · exact ⟨h.1, q _ _ h.2⟩
    · exact h.elim
  | repr =>
    change bRepr so xs H Q at h
    show bRepr so xs H Q'
    unfold bRepr at h ⊢
    split at h
    · rcases h with ⟨d, h1, h2, h3, h4, h5, h⟩ | ⟨a, h1, h2, h⟩
      · exact .inl ⟨d, h1, h2, h3, h4, h5, q _ _ h⟩
      · exact .inr ⟨a, h1, h2, q _ _ h⟩
    · exact h.elim
  | min =>
    change bMin xs H Q at h
    show bMin xs H Q'
    unfold bMin at h ⊢
    split at h
    · exact q _ _ h
    · exact h.elim
  | max =>
    change bMax xs H Q at h
    show bMax xs H Q'
    unfold bMax at h ⊢
    split at h
    · exact q _ _ h
    · exact h.elim
  | abs =>
    change bAbs xs H Q at h
    show bAbs xs H Q'
    unfold bAbs at h ⊢
    split at h
    · exact q _ _ h
    · exact h.elim
  | sum =>
    change bSum so xs H Q at h
    show bSum so xs H Q'
    unfold bSum at h ⊢
    split at h
    · split at h
      · exact q _ _ h
      · exact h.elim
    · exact h.elim
  | any =>
    change bAny so xs H Q at h
    show bAny so xs H Q'
    unfold bAny at h ⊢
    split at h
    · split at h
      · exact q _ _ h
      · exact h.elim
    · exact h.elim
  | all =>
    change bAll so xs H Q at h
    show bAll so xs H Q'
    unfold bAll at h ⊢
    split at h
    · split at h
      · exact q _ _ h
      · exact h.elim
    · exact h.elim
  | list =>
    change bList so xs H Q at h
    show bList so xs H Q'
    unfold bList at h ⊢
    split at h
    · split at h
      · exact fun p hp hs => q _ _ (h p hp hs)
      · exact fun p hp hs => q _ _ (h p hp hs)
      · exact h.elim
    · exact h.elim
  | tuple =>
    change bTuple so xs H Q at h
    show bTuple so xs H Q'
    unfold bTuple at h ⊢
    split at h
    · split at h
      · exact fun p hp hs => q _ _ (h p hp hs)
      · exact q _ _ h
      · exact h.elim
    · exact h.elim
  | sorted =>
    change bSorted so xs H Q at h
    show bSorted so xs H Q'
    unfold bSorted at h ⊢
    split at h
    · split at h
      · exact ⟨h.1, fun a p h1 h2 h3 h4 => q _ _ (h.2 a p h1 h2 h3 h4)⟩
      · exact h.elim
    · exact h.elim
theorem fldV_mono {S : Stat} {f : Str} (q : ∀ v H', Q v H' → Q' v H') (h : fldV S f x H Q) : fldV S f x H Q' := by
  unfold fldV at h ⊢
  split at h
  · split at h
    · refine ⟨h.1, ?_⟩
      have h := h.2
      split at h
      · exact q _ _ h
      · exact h.elim
    · obtain ⟨C, fs, v, h1, h2, h3, h4⟩ := h
      exact ⟨C, fs, v, h1, h2, h3, q _ _ h4⟩
    · exact h.elim
  · exact h.elim
theorem isxK_mono {S : Stat} {c : Str} {B B' : Bool → Prop} (q : ∀ b, B b → B' b) (h : isxK S c x H B) : isxK S c x H B' := by
  unfold isxK at h ⊢
  split at h
  · split at h
    · obtain ⟨C, fs, b, h1, h2, h3⟩ := h
      exact ⟨C, fs, b, h1, h2, q _ h3⟩
    · obtain ⟨b, h1, h2⟩ := h
      exact ⟨b, h1, q _ h2⟩
    · exact ⟨h.1, q _ h.2⟩
    · exact ⟨h.1, q _ h.2⟩
    · exact ⟨h.1, q _ h.2⟩
    · exact h.elim
  · exact ⟨h.1, q _ h.2⟩
  · exact ⟨h.1, q _ h.2⟩
  · exact ⟨h.1, q _ h.2⟩
  · exact ⟨h.1, q _ h.2⟩
  · exact h.elim
theorem mkxV_mono {S : Stat} {c : Str} {vs : List V} (q : ∀ v H', Q v H' → Q' v H') (h : mkxV S c vs H Q) : mkxV S c vs H Q' := by
  unfold mkxV at h ⊢
  split at h
  · split at h
    · exact fun a d h1 h2 h3 h4 h5 => q _ _ (h a d h1 h2 h3 h4 h5)
    · exact h.elim
  · exact ⟨h.1, fun a h1 h2 => q _ _ (h.2 a h1 h2)⟩
  · exact h.elim
theorem raiV_mono {S : Stat} {c : Str} {vs : List V} {B B' : XK} (q : ∀ c d H', B c d H' → B' c d H') (h : raiV S c vs H B) : raiV S c vs H B' := by
  unfold raiV at h ⊢
  split at h
  · split at h
    · exact fun d h1 h2 => q _ _ _ (h d h1 h2)
    · exact h.elim
  · exact h.elim
theorem metK_mono {S : Stat} {m : Str} {B B' : Str → Prop} (q : ∀ g, B g → B' g) (h : metK S m x H B) : metK S m x H B' := by
  unfold metK at h ⊢
  split at h
  · split at h
    · refine ⟨h.1, ?_⟩
      have h := h.2
      split at h
      · exact q _ h
      · exact h.elim
    · exact h.elim
  · exact h.elim
theorem bmV_mono {S : Stat} {m : Bm} {vs : List V} (q : ∀ v H', Q v H' → Q' v H') (h : bmV S m x vs H Q) : bmV S m x vs H Q' := by
  cases m with
  | count =>
    change mCount S x vs H Q at h
    show mCount S x vs H Q'
    unfold mCount at h ⊢
    split at h
    · split at h
      · exact ⟨h.1, h.2.1, q _ _ h.2.2⟩
      · exact h.elim
    · exact h.elim
  | append =>
    change mAppend x vs H Q at h
    show mAppend x vs H Q'
    unfold mAppend at h ⊢
    split at h
    · split at h
      · exact ⟨h.1, q _ _ h.2⟩
      · exact h.elim
    · exact h.elim
  | insert =>
    change mInsert x vs H Q at h
    show mInsert x vs H Q'
    unfold mInsert at h ⊢
    split at h
    · split at h
      · exact ⟨h.1, h.2.1, q _ _ h.2.2⟩
      · exact h.elim
    · exact h.elim
theorem boolV_mono {B B' : Bool → Hp → Prop} (q : ∀ k H', B k H' → B' k H') (v : V) (H' : Hp) (h : boolV B v H') : boolV B' v H' := by
  unfold boolV at h ⊢
  split at h
  · exact q _ _ h
  · exact h.elim
end
/-- the defs' promises may be weakened -/
def SmMono (F : Sm) : Prop := ∀ (f : Str) (vs : List V) (H : Hp) (Q Q' : VK) (E E' : XK), (∀ v H', Q v H' → Q' v H') → (∀ c d H', E c d H' → E' c d H') → F.fn f vs H Q E → F.fn f vs H Q' E'
theorem mkK_mono {S : Stat} {F : Sm} (M : SmMono F) {c : Str} {ks : List Str} {vs : List V} {H : Hp} {Q Q' : VK} {E E' : XK} (q : ∀ v H', Q v H' → Q' v H') (e : ∀ c d H', E c d H' → E' c d H') (h : mkK S F c ks vs H Q E) : mkK S F c ks vs H Q' E' := by
  unfold mkK at h ⊢
  split at h
  · split at h
    · exact fun x dx h1 h2 h3 h4 h5 => M _ _ _ _ _ _ _ (fun v H' z => ⟨z.1, q _ _ z.2⟩) e (h x dx h1 h2 h3 h4 h5)
    · exact h.elim
  · exact h.elim
section
variable {S : Stat} {F : Sm} {W W' : WX} (M : SmMono F) (w : ∀ c d σ H, W c d σ H → W' c d σ H)
include M w
mutual
theorem wE_mono2 : ∀ (c : Ex) {σ : St} {H : Hp} {Q Q' : VK}, (∀ v H', Q v H' → Q' v H') → wE S F W c σ H Q → wE S F W' c σ H Q'
  | .var i, σ, H, Q, Q', q, h => by
    unfold wE varK at h ⊢
    split at h
    · exact q _ _ h
    · exact h.elim
  | .lit v, σ, H, Q, Q', q, h => by
    unfold wE at h ⊢
    exact q _ _ h
  | .cst x, σ, H, Q, Q', q, h => by
    unfold wE cstK at h ⊢
    split at h
    · exact q _ _ h
    · exact h.elim
  | .op o a b, σ, H, Q, Q', q, h => by
    unfold wE at h ⊢
    exact wE_mono2 a (fun x H1 h1 => wE_mono2 b (fun y H2 h2 => opV_mono q h2) h1) h
  | .neg a, σ, H, Q, Q', q, h => by
    unfold wE at h ⊢
    refine wE_mono2 a (fun x H1 h1 => ?_) h
    first | unfold truK at h1 ⊢ | unfold btK at h1 ⊢ | unfold intK at h1 ⊢
    split at h1
    · exact q _ _ h1
    · exact h1.elim
  | .cmp o a b, σ, H, Q, Q', q, h => by
    unfold wE at h ⊢
    exact wE_mono2 a (fun x H1 h1 => wE_mono2 b (fun y H2 h2 => cmpV_mono q h2) h1) h
  | .chn o o' a b c, σ, H, Q, Q', q, h => by
    unfold wE at h ⊢
    refine wE_mono2 a (fun x H1 h1 => wE_mono2 b (fun y H2 h2 => cmpV_mono (boolV_mono fun k H3 h3 => ?_) h2) h1) h
    cases k with
    | true => exact wE_mono2 c (fun z H4 h4 => cmpV_mono q h4) h3
    | false => exact q _ _ h3
  | .and a b, σ, H, Q, Q', q, h => by
    unfold wE at h ⊢
    refine wE_mono2 a (fun x H1 h1 => ?_) h
    unfold truK at h1 ⊢
    split at h1
    · rename_i k _
      cases k with
      | true => exact wE_mono2 b q h1
      | false => exact q _ _ h1
    · exact h1.elim
  | .or a b, σ, H, Q, Q', q, h => by
    unfold wE at h ⊢
    refine wE_mono2 a (fun x H1 h1 => ?_) h
    unfold truK at h1 ⊢
    split at h1
    · rename_i k _
      cases k with
      | true => exact q _ _ h1
      | false => exact wE_mono2 b q h1
    · exact h1.elim
  | .not a, σ, H, Q, Q', q, h => by
    unfold wE at h ⊢
    refine wE_mono2 a (fun x H1 h1 => ?_) h
    first | unfold truK at h1 ⊢ | unfold btK at h1 ⊢ | unfold intK at h1 ⊢
    split at h1
    · exact q _ _ h1
    · exact h1.elim
  | .ite t a b, σ, H, Q, Q', q, h => by
    unfold wE at h ⊢
    refine wT_mono2 t (fun k H1 h1 => ?_) h
    cases k with
    | true => exact wE_mono2 a q h1
    | false => exact wE_mono2 b q h1
  | .fld o f, σ, H, Q, Q', q, h => by
    unfold wE at h ⊢
    exact wE_mono2 o (fun x H1 h1 => fldV_mono q h1) h
  | .idx o i, σ, H, Q, Q', q, h => by
    unfold wE at h ⊢
    exact wE_mono2 o (fun x H1 h1 => wE_mono2 i (fun y H2 h2 => idxV_mono q h2) h1) h
  | .slc o lo hi, σ, H, Q, Q', q, h => by
    unfold wE at h ⊢
    exact wE_mono2 o (fun x H1 h1 => wO_mono2 lo (fun y H2 h2 => wO_mono2 hi (fun z H3 h3 => slcV_mono q h3) h2) h1) h
  | .lst es, σ, H, Q, Q', q, h => by
    unfold wE at h ⊢
    exact wA_mono2 es (fun xs H1 h1 => ⟨h1.1, fun p hp hs => q _ _ (h1.2 p hp hs)⟩) h
  | .tup es, σ, H, Q, Q', q, h => by
    unfold wE at h ⊢
    exact wA_mono2 es (fun xs H1 h1 => ⟨h1.1, fun p hp hs => q _ _ (h1.2 p hp hs)⟩) h
  | .fn f es, σ, H, Q, Q', q, h => by
    unfold wE at h ⊢
    exact wA_mono2 es (fun xs H1 h1 => M f xs H1 Q Q' _ _ q (fun c d H' z => w c d σ H' z) h1) h
  | .bi b es, σ, H, Q, Q', q, h => by
    unfold wE at h ⊢
    exact wA_mono2 es (fun xs H1 h1 => biV_mono q h1) h
  | .isi e T, σ, H, Q, Q', q, h => by
    unfold wE at h ⊢
    refine wE_mono2 e (fun x H1 h1 => ?_) h
    first | unfold truK at h1 ⊢ | unfold btK at h1 ⊢ | unfold intK at h1 ⊢
    split at h1
    · exact q _ _ h1
    · exact h1.elim
  | .isx e c, σ, H, Q, Q', q, h => by
    unfold wE at h ⊢
    exact wE_mono2 e (fun x H1 h1 => isxK_mono (fun b z => q _ _ z) h1) h
  | .mkx c es, σ, H, Q, Q', q, h => by
    unfold wE at h ⊢
    exact wA_mono2 es (fun xs H1 h1 => mkxV_mono q h1) h
  | .dct0, σ, H, Q, Q', q, h => by
    unfold wE at h ⊢
    exact fun p h1 h2 => q _ _ (h p h1 h2)
  | .met o m es, σ, H, Q, Q', q, h => by
    unfold wE at h ⊢
    exact wE_mono2 o (fun x H1 h1 => metK_mono (fun g z => wA_mono2 es (fun vs H2 h2 => M g _ H2 Q Q' _ _ q (fun c d H' z => w c d σ H' z) h2) z) h1) h
  | .bm m o es, σ, H, Q, Q', q, h => by
    unfold wE at h ⊢
    exact wE_mono2 o (fun x H1 h1 => ⟨h1.1, wA_mono2 es (fun vs H2 h2 => bmV_mono q h2) h1.2⟩) h
  | .mkC c ks es, σ, H, Q, Q', q, h => by
    unfold wE at h ⊢
    exact wA_mono2 es (fun vs H1 h1 => mkK_mono M q (fun c d H' z => w c d σ H' z) h1) h
theorem wA_mono2 : ∀ (c : Exs) {σ : St} {H : Hp} {Q Q' : List V → Hp → Prop}, (∀ v H', Q v H' → Q' v H') → wA S F W c σ H Q → wA S F W' c σ H Q'
  | .nil, σ, H, Q, Q', q, h => by
    unfold wA at h ⊢
    exact q _ _ h
  | .cons e es, σ, H, Q, Q', q, h => by
    unfold wA at h ⊢
    exact wE_mono2 e (fun x H1 h1 => wA_mono2 es (fun xs H2 h2 => q _ _ h2) h1) h
theorem wO_mono2 : ∀ (c : Ox) {σ : St} {H : Hp} {Q Q' : Option Int → Hp → Prop}, (∀ v H', Q v H' → Q' v H') → wO S F W c σ H Q → wO S F W' c σ H Q'
  | .none, σ, H, Q, Q', q, h => by
    unfold wO at h ⊢
    exact q _ _ h
  | .some e, σ, H, Q, Q', q, h => by
    unfold wO at h ⊢
    refine wE_mono2 e (fun x H1 h1 => ?_) h
    first | unfold truK at h1 ⊢ | unfold btK at h1 ⊢ | unfold intK at h1 ⊢
    split at h1
    · exact q _ _ h1
    · exact h1.elim
theorem wT_mono2 : ∀ (c : Te) {σ : St} {H : Hp} {Q Q' : Bool → Hp → Prop}, (∀ v H', Q v H' → Q' v H') → wT S F W c σ H Q → wT S F W' c σ H Q'
  | .val e, σ, H, Q, Q', q, h => by
    unfold wT at h ⊢
    refine wE_mono2 e (fun x H1 h1 => ?_) h
    first | unfold truK at h1 ⊢ | unfold btK at h1 ⊢ | unfold intK at h1 ⊢
    split at h1
    · exact q _ _ h1
    · exact h1.elim
  | .cmp o a b, σ, H, Q, Q', q, h => by
    unfold wT at h ⊢
    exact wE_mono2 a (fun x H1 h1 => wE_mono2 b (fun y H2 h2 => cmpV_mono (boolV_mono q) h2) h1) h
  | .chn o o' a b c, σ, H, Q, Q', q, h => by
    unfold wT at h ⊢
    refine wE_mono2 a (fun x H1 h1 => wE_mono2 b (fun y H2 h2 => cmpV_mono (boolV_mono fun k H3 h3 => ?_) h2) h1) h
    cases k with
    | true => exact wE_mono2 c (fun z H4 h4 => cmpV_mono (boolV_mono q) h4) h3
    | false => exact q _ _ h3
  | .and a b, σ, H, Q, Q', q, h => by
    unfold wT at h ⊢
    refine wT_mono2 a (fun k H1 h1 => ?_) h
    cases k with
    | true => exact wT_mono2 b q h1
    | false => exact q _ _ h1
  | .or a b, σ, H, Q, Q', q, h => by
    unfold wT at h ⊢
    refine wT_mono2 a (fun k H1 h1 => ?_) h
    cases k with
    | true => exact q _ _ h1
    | false => exact wT_mono2 b q h1
  | .not a, σ, H, Q, Q', q, h => by
    unfold wT at h ⊢
    exact wT_mono2 a (fun k H1 h1 => q _ _ h1) h
end
end
section
variable {S : Stat} {F : Sm} {W : WX} (M : SmMono F)
include M
theorem wE_mono (c : Ex) {σ : St} {H : Hp} {Q Q' : VK} (q : ∀ v H', Q v H' → Q' v H') (h : wE S F W c σ H Q) : wE S F W c σ H Q' := wE_mono2 M (fun _ _ _ _ z => z) c q h
theorem wA_mono (c : Exs) {σ : St} {H : Hp} {Q Q' : List V → Hp → Prop} (q : ∀ v H', Q v H' → Q' v H') (h : wA S F W c σ H Q) : wA S F W c σ H Q' := wA_mono2 M (fun _ _ _ _ z => z) c q h
theorem wT_mono (c : Te) {σ : St} {H : Hp} {Q Q' : Bool → Hp → Prop} (q : ∀ v H', Q v H' → Q' v H') (h : wT S F W c σ H Q) : wT S F W c σ H Q' := wT_mono2 M (fun _ _ _ _ z => z) c q h
end
end QL
set_option Elab.async false
set_option linter.all false
set_option maxRecDepth 100000
set_option maxHeartbeats 4000000
/-! Q7: the turned expressions keep what is asked. -/
namespace QL
open PySem PySem.Spec L2
open PyProof.Rows hiding St
section
variable {X : Cx} {S : Stat} {F : Sm} {k : Nat} {C : CI} {W : WX}
theorem bltn_bt {T : Bt} {pos : Pos} (hg : Gl X (btN T)) (hm : X.mg (btN T) = none) : PE X (.Name (btN T) pos) (tC (.ty (btS T))) := by
  cases T <;> exact pe_bltn (u := .type _) hg hm (by decide +kernel) rfl (by decide) (by decide)
theorem kit_non (T : Bt) : kitB "NoneType" (btS T) = some false := by cases T <;> decide +kernel
theorem kit_bl (T : Bt) : kitB "bool" (btS T) = some (tBl T) := by cases T <;> decide +kernel
theorem kit_int (T : Bt) : kitB "int" (btS T) = some (tInt T) := by cases T <;> decide +kernel
theorem kit_str (T : Bt) : kitB "str" (btS T) = some (tStr T) := by cases T <;> decide +kernel
theorem kit_list (T : Bt) : kitB "list" (btS T) = some (tList T) := by cases T <;> decide +kernel
theorem kit_tuple (T : Bt) : kitB "tuple" (btS T) = some (tTuple T) := by cases T <;> decide +kernel
theorem kit_dict (T : Bt) : kitB "dict" (btS T) = some false := by cases T <;> decide +kernel
theorem btV_ok {K : PySem.W.Frag} {so : Addr → Option HO} {H : Hp} {T : Bt} {x : V} {b : Bool} (h : btV so H T x = some b) : ∃ t, TyX K H x t ∧ PySem.W.kitOne K t (.type (btS T)) = some b := by
  cases x with
  | non => cases h; exact ⟨_, .base .non, kit_ty (kit_non T)⟩
  | bl y => cases h; exact ⟨_, .base (.bl y), kit_ty (kit_bl T)⟩
  | int y => cases h; exact ⟨_, .base (.int y), kit_ty (kit_int T)⟩
  | str y => cases h; exact ⟨_, .base (.str y), kit_ty (kit_str T)⟩
  | ref p =>
    unfold btV at h
    simp only at h
    split at h
    · rename_i e
      cases h
      exact ⟨_, .base (.lst e), kit_ty (kit_list T)⟩
    · rename_i e
      cases h
      exact ⟨_, .base (.tup e), kit_ty (kit_tuple T)⟩
    · rename_i e
      cases h
      exact ⟨_, .base (.dK e), kit_ty (kit_dict T)⟩
    · cases h
  | _ => cases h
theorem pw_of {op : BoolOp} {vs : List Expr} {pos : Pos} {t : TT} (h : PT X (.BoolOp op vs pos) t) : PW X (.BoolOp op vs pos) t := ⟨fun wh pins s σ H Q I z => h.run pins s σ H Q I z⟩
theorem base_ok {e : Expr} {f : Str} {env : Env} {w : Sem Value} (h : plainBase e = true) : attributeBase e f env w = w := by
  unfold attributeBase
  split
  · unfold plainBase at h
    simp at h
  · rfl
theorem slice_ok {e : Expr} (h : notSlice e = true) : PlainIx e := by
  intro o i
  cases e <;> first | rfl | cases h
theorem test_ok {e : Expr} {env : Env} (h : plainTest e = true) : ∀ whole, isTrue e env whole = (do let v ← whole; standAt e.pos; holding [v] (truthy v)) := by
  intro whole
  cases e with
  | UnaryOp op a p => cases op <;> first | rfl | cases h
  | BoolOp op a p => cases h
  | IfExp a b c p => cases h
  | Compare a b c p => cases h
  | _ => rfl
theorem marks_ok {o : CmpOp} {e : Expr} (h : behindOk o e = true) : behindInMarks o e = false := by
  unfold behindOk at h
  simpa using h
theorem last_ok {o o' : CmpOp} {e e' : Expr} (h : behindOk o' e' = true) : lastMarks [o, o'] [e, e'] = false := marks_ok h
theorem map_some {α β : Type} {x : Option α} {f : α → β} {c : β} (h : x.map f = some c) : ∃ a, x = some a ∧ c = f a := by
  cases x with
  | none => cases h
  | some a => cases h; exact ⟨a, rfl, rfl⟩
theorem if_some {α : Type} {b : Bool} {x : Option α} {c : α} (h : iff' b x = some c) : b = true ∧ x = some c := by
  cases b with
  | true => exact ⟨rfl, h⟩
  | false => cases h
theorem two_some {α β γ : Type} {x : Option α} {y : Option β} {f : α → β → γ} {c : γ} (h : two x y f = some c) : ∃ a b, x = some a ∧ y = some b ∧ c = f a b := by
  cases x with
  | none => cases h
  | some a =>
    cases y with
    | none => cases h
    | some b => cases h; exact ⟨a, b, rfl, rfl, rfl⟩
theorem tri_some {α β γ δ : Type} {x : Option α} {y : Option β} {z : Option γ} {f : α → β → γ → δ} {c : δ} (h : tri x y z f = some c) : ∃ a b d, x = some a ∧ y = some b ∧ z = some d ∧ c = f a b d := by
  cases x with
  | none => cases h
  | some a =>
    cases y with
    | none => cases h
    | some b =>
      cases z with
      | none => cases h
      | some d => cases h; exact ⟨a, b, d, rfl, rfl, rfl, rfl⟩
theorem boolV_ex {B : Bool → Hp → Prop} {v : V} {H : Hp} (h : boolV B v H) : ∃ k, v = .bl k ∧ B k H := by
  unfold boolV at h
  split at h
  · exact ⟨_, rfl, h⟩
  · exact h.elim
theorem tru_ex {K : PySem.W.Frag} {so : Addr → Option HO} (S : SoOk K so) {H : Hp} {x : V} {B : Bool → Prop} (h : truK so x H B) : ∃ k, TruV K x H k ∧ B k := by
  unfold truK at h
  split at h
  · rename_i k e
    exact ⟨k, truV_ok S e, h⟩
  · exact h.elim
variable (O : Ok X S F k C W) (M : SmMono F)
include O M
omit O M in
/-- a class's name -/
theorem cls_pe {x : Str} {u : Value} {p : Pos} (c : ClsN X.mg x u) (hg : Gl X x) : ∃ cv, ClsV cv u ∧ PE X (.Name x p) (tC cv) := by
  obtain ⟨hd, ⟨⟨C', rfl⟩, hm⟩ | ⟨⟨T, rfl⟩, hm, hv, hn⟩⟩ := c
  · exact ⟨.ref C', .own C', pe_glob hg hm rfl hd⟩
  · exact ⟨.ty T, .ty T, pe_bltn hg hm hv rfl hn hd⟩
theorem isx_ok {a : Expr} {e' : Ex} {c : Str} {p pT pos : Pos} (hg : isG C "isinstance" = true) (hm : X.mg "isinstance" = none) (hT : Gl X c) (k : C.gl c = .xcl ∨ C.gl c = .ocl ∨ C.gl c = .bxc) (he : PE X a (wE S F W e')) (st : notStar a = true) :
    PE X (.Call (.Name "isinstance" p) [a, .Name c pT] [] pos) (wE S F W (.isx e' c)) := by
  obtain ⟨u, hu⟩ := O.G.cls c k
  obtain ⟨cv, hcv, hp⟩ := cls_pe (p := pT) hu hT
  refine PE.imp (pe_callB (CallR.or call_isx call_isi) (O.gl hg) hm (by decide +kernel) (pa_cons he (pa_cons hp pa_nil) (star_one st)) (by decide) (by decide) (star_one st) rfl) fun σ H Q z => ?_
  unfold wE at z
  refine wE_mono M e' (fun x H1 z1 => ?_) z
  have flat : ∀ {t : String}, TyX X.K H1 x (.type t) → S.isb c = true → t ∈ bTs → Q (.bl false) H1 → (rIsi X.K) [x, cv] H1 Q := fun {t} ty hb hm q => ⟨x, cv, .type t, u, false, rfl, hcv, ty, O.G.isb c hb u hu t hm, q⟩
  unfold isxK at z1
  cases x with
  | non => exact .inr (flat (.base .non) z1.1 (by decide) z1.2)
  | bl b => exact .inr (flat (.base (.bl b)) z1.1 (by decide) z1.2)
  | int b => exact .inr (flat (.base (.int b)) z1.1 (by decide) z1.2)
  | str b => exact .inr (flat (.base (.str b)) z1.1 (by decide) z1.2)
  | ref q =>
    simp only at z1
    split at z1
    · obtain ⟨D, fs, b, h1, h2, h3⟩ := z1
      obtain ⟨T, hk⟩ := O.G.isa D c b h2
      exact .inl ⟨q, D, fs, cv, u, b, rfl, h1, T, fun w hw => hcv.eq hw, (hk u hu).1, h3⟩
    · rename_i D dx fs ea
      obtain ⟨b, h1, h2⟩ := z1
      obtain ⟨T, hk⟩ := O.G.iso D c b h1
      exact .inr ⟨_, cv, .ref D, u, b, rfl, hcv, .base (.ins ea T.cl T.ca T.cg T.ct T.mo), hk u hu, h2⟩
    · rename_i ea
      exact .inr (flat (.base (.lst ea)) z1.1 (by decide) z1.2)
    · rename_i ea
      exact .inr (flat (.base (.tup ea)) z1.1 (by decide) z1.2)
    · rename_i ea
      exact .inr (flat (.base (.dK ea)) z1.1 (by decide) z1.2)
    · exact z1.elim
  | _ => exact z1.elim
omit M in
theorem mkx_nok {x : Str} {vs : List V} {H : Hp} {Q : VK} {D : Addr} {f : Option Str} (e : S.xc x = some (D, f)) (h : mkxV S x vs H Q) : mkxH H D f vs (fun v H' => NoK S.so H' → Q v H') := by
  unfold mkxV at h
  rw [e] at h
  unfold mkxH
  cases f with
  | some g =>
    simp only at h
    split at h
    · intro a d h1 h2 h3 nk
      have nd : S.so d = none := by
        cases q : S.so d with
        | none => rfl
        | some o =>
          have := nk d (by rw [q]; simp)
          rw [upd_ne h3, upd_same] at this
          cases this
      exact h a d h1 h2 h3 (nok_upd nk) nd
    · exact h.elim
  | none =>
    simp only at h
    obtain ⟨rfl, h⟩ := h
    exact fun a h1 nk => h a h1 (nok_upd nk)
theorem xc_some {x : Str} {vs : List V} {H : Hp} {Q : VK} (h : mkxV S x vs H Q) : ∃ D f, S.xc x = some (D, f) := by
  unfold mkxV at h
  split at h
  · exact ⟨_, _, by assumption⟩
  · exact ⟨_, _, by assumption⟩
  · exact h.elim
theorem mkx_ok {x : Str} {p pos : Pos} {a : Expr} {as : List Expr} {es : Exs} (hg : Gl X x) (e : C.gl x = .xcl) (PAs : PA X (a :: as) (wA S F W es)) (s1 : starEach (a :: as) X.env = (false, eval a X.env) :: starEach as X.env) (s2 : (backTo pos (starEach as X.env)).any (·.1) = false) :
    PE X (.Call (.Name x p) (a :: as) [] pos) (wE S F W (.mkx x es)) := by
  refine ⟨fun pins s σ H Q I z => ?_⟩
  unfold wE at z
  obtain ⟨D, hdb, hm, hk⟩ := O.G.own x (.inl e)
  refine wpAny_Call_Name_kw (ld_glob I hg hm ?_ hdb)
  refine PySem.W.callWith_K (h₀ := X.base) I.ok.mod.kin hk (thn (PAs.run pos pins s σ H _ I z) fun us s1 ⟨vs, H1, I1, r1, q1⟩ => ⟨I1.kIn, ?_⟩) s1 s2
  obtain ⟨D', f, ex⟩ := xc_some O M q1
  have T := O.G.xc x D' f e ex
  have eD := T.at_
  rw [hm] at eD
  cases eD
  exact thn (mkx_call T (O.rm.mono (by omega)) O.gd I1 r1 (mkx_nok O ex q1)) fun u s2 ⟨v, H2, I2, rv, q2⟩ => ⟨v, H2, I2, rv, q2 (nok_of O.G.so I2)⟩
theorem mkx0_ok {x : Str} {p pos : Pos} (hg : Gl X x) (e : C.gl x = .xcl) : PE X (.Call (.Name x p) [] [] pos) (wE S F W (.mkx x .nil)) := by
  refine ⟨fun pins s σ H Q I z => ?_⟩
  unfold wE wA at z
  obtain ⟨D, hdb, hm, hk⟩ := O.G.own x (.inl e)
  refine wpAny_Call_Name_kw (ld_glob I hg hm ?_ hdb)
  obtain ⟨D', f, ex⟩ := xc_some O M z
  have T := O.G.xc x D' f e ex
  have eD := T.at_
  rw [hm] at eD
  cases eD
  exact PySem.W.callWith_K0 I.kIn hk (thn (mkx_call (us := []) T (O.rm.mono (by omega)) O.gd I .nil (mkx_nok O ex z)) fun u s2 ⟨v, H2, I2, rv, q2⟩ => ⟨v, H2, I2, rv, q2 (nok_of O.G.so I2)⟩)
/-- a new instance, by its values -/
theorem mk_run {x : Str} {n : Nat} {ks : List Str} {D : Addr} {pins : List (Addr × Obj)} {σ : St} {H : Hp} {s : Shared} {vs : List V} {us : List Value} {Q : VK} (e : C.gl x = .ocl) (hm : X.mg x = some (.ref D)) (I : Inv X pins σ H s) (r : Vals vs us) (hn : vs.length = n) (h : mkK S F x ks vs H Q (fun c d H' => W c d σ H')) :
    wpAny (model X.prog X.w) X.A (call (.ref D) (us.take (n - ks.length)) (ks.zip (us.drop (n - ks.length)))) (EP X pins σ Q) X.xe s := by
  unfold mkK at h
  rw [hn] at h
  split at h
  · rename_i D' g pm ex
    split at h
    · rename_i ws ew
      obtain ⟨hdb, hm', f, fd, ps, Mk1, Fn, hb⟩ := O.G.mkc x n ks D' g pm e ex
      rw [hm] at hm'
      cases hm'
      obtain ⟨full, rf, hbb⟩ := hb vs ws us r hn ew
      exact make_g Mk1 Fn O.gd O.rm O.tk I (fun s a K => hbb s a K) rf fun y dx h1 h2 h3 l1 l2 => h y dx h1 h2 h3 (so_none O.G.so l1) (so_none O.G.so l2)
    · exact h.elim
  · exact h.elim
theorem mkC_ok {x : Str} {p pos : Pos} {a : Expr} {as : List Expr} {es : Exs} (hg : Gl X x) (e : C.gl x = .ocl) (PAs : PA X (a :: as) (wA S F W es)) (s1 : starEach (a :: as) X.env = (false, eval a X.env) :: starEach as X.env) (s2 : (backTo pos (starEach as X.env)).any (·.1) = false) :
    PE X (.Call (.Name x p) (a :: as) [] pos) (wE S F W (.mkC x [] es)) := by
  refine ⟨fun pins s σ H Q I z => ?_⟩
  unfold wE at z
  obtain ⟨D, hdb, hm, hk⟩ := O.G.own x (.inr e)
  refine wpAny_Call_Name_kw (ld_glob I hg hm ?_ hdb)
  refine PySem.W.callWith_K (h₀ := X.base) I.ok.mod.kin hk (thn (PAs.run pos pins s σ H _ I z) fun us s1 ⟨vs, H1, I1, r1, q1⟩ => ⟨I1.kIn, ?_⟩) s1 s2
  have q := mk_run O M e hm I1 r1 rfl q1
  simp only [List.length_nil, Nat.sub_zero, r1.length, List.take_length, List.drop_length, List.zip_nil_right] at q
  exact q
omit O M in
/-- a method's call, plainly -/
theorem meth_eval {o : Expr} {name : Str} {apos pos : Pos} {args : List Expr} {env : Env} (hb : plainBase o = true) (hs : ∀ e ∈ args, notStar e = true) (hf : args.length < 20) (hl : (apos.endLine == pos.line) = true) :
    eval (.Call (.Attribute o name apos) args [] pos) env = (do
      let ov ← eval o env
      standAt apos.atName
      let (f, first) ← holding [ov] (getMethod ov name (do return (← importBound o env).getD true))
      callWith pos f first (backTo pos (starEach args env)) (backToKw pos (keywordEach [] env))) := by
  rw [arm_eval_Call, base_ok hb]
  have hform : methodCallForm (args.length + ([] : List Keyword).length) (backTo pos (starEach args env)) (backToKw pos (keywordEach [] env)) = true := by
    have h1 := star_no (env := env) (pos := pos) hs
    have h2 : (backTo pos (starEach args env)).all (fun x => !x.1) = true := by
      rw [List.all_eq_true]
      intro x hx
      rw [List.any_eq_false] at h1
      simpa using h1 x hx
    unfold methodCallForm
    rw [h2]
    show (true && true && decide (args.length + 0 + (if ([] : List (Option Str × Sem Value)).isEmpty then 0 else 1) < 30)) = true
    simp
    omega
  unfold methodCall
  rw [hform]
  unfold calleeOf methodCallPos
  simp only [hl, Bool.not_true, Bool.false_or, if_true]
  rfl
theorem call_ok {n : Nat} (ih : ∀ e c, cE C n e = some c → PE X e (wE S F W c)) {x : Str} {p pos : Pos} {a : Expr} {as : List Expr} {c : Ex}
    (h : iff' (isG C x) (cCall C (cE C n) x a as (C.gl x)) = some c) : PE X (.Call (.Name x p) (a :: as) [] pos) (wE S F W c) := by
  obtain ⟨hg, h⟩ := if_some h
  cases e : C.gl x with
  | fn =>
    rw [e] at h
    obtain ⟨es, h1, rfl⟩ := map_some h
    obtain ⟨f, fd, ps, hdb, hm, hk, Fn, hb⟩ := O.G.fn x e
    have PAs := nCE_pa ih h1
    have st := nCE_star h1
    refine ⟨fun pins s σ H Q I z => ?_⟩
    unfold wE at z
    refine wpAny_Call_Name_kw (ld_glob I (O.gl hg) hm ?_ hdb)
    refine PySem.W.callWith_K (h₀ := X.base) I.ok.mod.kin hk (thn (PAs.run pos pins s σ H _ I z) fun us s1 ⟨vs, H1, I1, r, q⟩ => ⟨I1.kIn, ?_⟩) (star_one (st a (List.mem_cons_self ..))) (star_no fun e he => st e (List.mem_cons_of_mem _ he))
    refine run_g Fn O.gd (O.rm.mono (Nat.le_succ _)) O.tk I1 ?_ r q
    have hl := Fn.len _ _ _ _ q
    have := hb s1 us I1.kIn (by rw [List.append_nil, ← r.length]; exact hl)
    rwa [List.append_nil] at this
  | bi b =>
    rw [e] at h
    obtain ⟨es, h1, rfl⟩ := map_some h
    obtain ⟨rfl, hm⟩ := O.G.bi x b e
    have PAs := nCE_pa ih h1
    have st := nCE_star h1
    refine PE.imp (pe_bi (so := S.so) O.G.so O.calm O.gd O.hu (O.gl hg) hm PAs (star_one (st a (List.mem_cons_self ..))) (star_no fun e he => st e (List.mem_cons_of_mem _ he))) fun σ H Q z => ?_
    unfold wE at z
    exact z
  | isi =>
    rw [e] at h
    change cIsi C (cE C n) a as = some c at h
    unfold cIsi at h
    match as, h with
    | [.Name T pT], h =>
      obtain ⟨hT, h⟩ := if_some h
      cases eT : C.gl T with
      | bi b0 =>
        simp only [eT] at h
        obtain ⟨B, hB, h⟩ := bind_some h
        obtain ⟨es, h1, rfl⟩ := map_some h
        obtain ⟨eT', hmT⟩ := O.G.bi _ b0 eT
        rw [btBi_name hB] at eT'
        subst eT'
        obtain ⟨rfl, hm⟩ := O.G.isi x e
        refine PE.imp (pe_callB call_isi (O.gl hg) hm (by decide +kernel) (pa_cons (ih _ _ h1) (pa_cons (bltn_bt (O.gl hT) hmT) pa_nil) (star_one (cE_star h1))) (by decide) (by decide) (star_one (cE_star h1)) rfl) fun σ H Q z => ?_
        unfold wE at z
        refine wE_mono M _ (fun v H1 z1 => ?_) z
        unfold btK at z1
        split at z1
        · rename_i b eb
          obtain ⟨t, ty, kt⟩ := btV_ok (K := X.K) eb
          exact ⟨v, _, t, _, b, rfl, .ty _, ty, kt, z1⟩
        · exact z1.elim
      | xcl =>
        simp only [eT] at h
        obtain ⟨es, h1, rfl⟩ := map_some h
        obtain ⟨rfl, hm⟩ := O.G.isi x e
        exact isx_ok O M hg hm (O.gl hT) (.inl eT) (ih _ _ h1) (cE_star h1)
      | ocl =>
        simp only [eT] at h
        obtain ⟨es, h1, rfl⟩ := map_some h
        obtain ⟨rfl, hm⟩ := O.G.isi x e
        exact isx_ok O M hg hm (O.gl hT) (.inr (.inl eT)) (ih _ _ h1) (cE_star h1)
      | bxc =>
        simp only [eT] at h
        obtain ⟨es, h1, rfl⟩ := map_some h
        obtain ⟨rfl, hm⟩ := O.G.isi x e
        exact isx_ok O M hg hm (O.gl hT) (.inr (.inr eT)) (ih _ _ h1) (cE_star h1)
      | _ => simp only [eT] at h; cases h
  | xcl =>
    rw [e] at h
    obtain ⟨es, h1, rfl⟩ := map_some h
    have PAs := nCE_pa ih h1
    have st := nCE_star h1
    refine mkx_ok O M (O.gl hg) e PAs (star_one (st a (List.mem_cons_self ..))) (star_no fun e he => st e (List.mem_cons_of_mem _ he))
  | ocl =>
    rw [e] at h
    obtain ⟨es, h1, rfl⟩ := map_some h
    have PAs := nCE_pa ih h1
    have st := nCE_star h1
    exact mkC_ok O M (O.gl hg) e PAs (star_one (st a (List.mem_cons_self ..))) (star_no fun e he => st e (List.mem_cons_of_mem _ he))
  | _ => rw [e] at h; cases h
end
end QL
set_option Elab.async false
set_option linter.all false
set_option maxRecDepth 100000
set_option maxHeartbeats 4000000
/-! Q8: the turned expressions keep what is asked: the whole induction. -/
namespace QL
open PySem PySem.Spec L2
open PyProof.Rows hiding St
def lenX : Exs → Nat
  | .nil => 0
  | .cons _ es => lenX es + 1
section
variable {X : Cx} {S : Stat} {F : Sm} {k : Nat} {C : CI} {W : WX} (O : Ok X S F k C W) (M : SmMono F)
include O M
theorem idx_ok {n : Nat} {o i : Expr} {p : Pos} {c : Ex} (iE : ∀ e c, cE C n e = some c → PE X e (wE S F W c)) (hi : notSlice i = true) (h : two (cE C n o) (cE C n i) Ex.idx = some c) : PE X (.Subscript o i p) (wE S F W c) := by
  obtain ⟨o', i', h1, h2, rfl⟩ := two_some h
  refine PE.imp (pe_ix (ix_idxV O.G.so O.hu1) (iE o o' h1) (iE i i' h2) (slice_ok hi)) fun σ H Q z => ?_
  unfold wE at z
  exact z
theorem val_ok {n : Nat} {e : Expr} {c : Te} (iE : ∀ e c, cE C n e = some c → PE X e (wE S F W c)) (hp : plainTest e = true) (h : (cE C n e).map Te.val = some c) : PT X e (wT S F W c) := by
  obtain ⟨e', h1, rfl⟩ := map_some h
  refine PT.imp (pt_truth (iE e e' h1) (test_ok hp)) fun σ H Q z => ?_
  unfold wT at z
  exact wE_mono M e' (fun x H1 z1 => tru_ex (B := fun k => Q k H1) O.G.so z1) z
omit O in
theorem nCE_app {f : Expr → Option Ex} : ∀ {as bs : List Expr} {c : Exs}, nCE f (as ++ bs) = some c → ∃ c1 c2, nCE f as = some c1 ∧ nCE f bs = some c2 ∧ ∀ σ H (Q : List V → Hp → Prop), wA S F W c σ H Q → wA S F W c1 σ H fun vs H1 => wA S F W c2 σ H1 fun ws H2 => Q (vs ++ ws) H2
  | [], bs, c, h => ⟨.nil, c, rfl, h, fun σ H Q z => by unfold wA; exact z⟩
  | a :: as, bs, c, h => by
    obtain ⟨x, y, h1, h2, rfl⟩ := nCE_cons (f := f) h
    obtain ⟨c1, c2, g1, g2, g3⟩ := nCE_app h2
    refine ⟨.cons x c1, c2, ?_, g2, fun σ H Q z => ?_⟩
    · unfold nCE
      rw [h1, g1]
    · rw [wA] at z ⊢
      exact wE_mono M x (fun v H1 z1 => wA_mono M c1 (fun vs H2 z2 => wA_mono M c2 (fun ws H3 z3 => z3) z2) (g3 σ H1 _ z1)) z
omit O in
theorem wA_len : ∀ (c : Exs) {σ : St} {H : Hp} {Q : List V → Hp → Prop}, wA S F W c σ H Q → wA S F W c σ H fun vs H1 => vs.length = lenX c ∧ Q vs H1
  | .nil, σ, H, Q, z => by
    rw [wA] at z ⊢
    exact ⟨rfl, z⟩
  | .cons e es, σ, H, Q, z => by
    rw [wA] at z ⊢
    exact wE_mono M e (fun x H1 z1 => wA_mono M es (fun xs H2 z2 => ⟨by rw [List.length_cons, z2.1]; rfl, z2.2⟩) (wA_len es z1)) z
omit O M in
theorem nCE_len {f : Expr → Option Ex} : ∀ {as : List Expr} {c : Exs}, nCE f as = some c → lenX c = as.length
  | [], c, h => by cases h; rfl
  | a :: as, c, h => by
    obtain ⟨x, y, h1, h2, rfl⟩ := nCE_cons (f := f) h
    show lenX y + 1 = _
    rw [nCE_len h2]
    rfl
omit O M in
theorem kws_pk {n : Nat} (iE : ∀ e c, cE C n e = some c → PE X e (wE S F W c)) : ∀ {ks : List Keyword} {kk : List (Str × Expr)} {c : Exs}, kwsOf ks = some kk → nCE (cE C n) (kk.map (·.2)) = some c →
    PK X ks (wA S F W c) ∧ ∀ pos : Pos, (backToKw pos (keywordEach ks X.env)).all (·.1.isSome) = true ∧ (backToKw pos (keywordEach ks X.env)).filterMap (·.1) = kk.map (·.1) ∧ (backToKw pos (keywordEach ks X.env)).any (·.1.isNone) = false
  | [], kk, c, h, hc => by
    cases h
    cases hc
    refine ⟨?_, fun pos => ⟨rfl, rfl, rfl⟩⟩
    unfold wA
    exact pk_nil
  | ⟨nm, e, kp⟩ :: ks, kk, c, h, hc => by
    obtain ⟨a, b, h1, h2, rfl⟩ := two_some (f := fun a b => a :: b) h
    unfold kwOf at h1
    obtain ⟨y, h3, rfl⟩ := map_some h1
    simp only at h3
    subst h3
    obtain ⟨x, z, g1, g2, rfl⟩ := nCE_cons hc
    obtain ⟨P, q⟩ := kws_pk iE h2 g2
    refine ⟨?_, fun pos => ?_⟩
    · unfold wA
      exact pk_cons (iE _ _ g1) P
    · obtain ⟨q1, q2, q3⟩ := q pos
      have ee : backToKw pos (keywordEach (⟨some y, e, kp⟩ :: ks) X.env) = (some y, do let v ← eval e X.env; standAt pos; pure v) :: backToKw pos (keywordEach ks X.env) := rfl
      rw [ee]
      refine ⟨?_, ?_, ?_⟩
      · rw [List.all_cons, q1]; rfl
      · rw [List.filterMap_cons, q2]; rfl
      · rw [List.any_cons, q3]; rfl
theorem mkCk_ok {n : Nat} (iE : ∀ e c, cE C n e = some c → PE X e (wE S F W c)) {x : Str} {q p : Pos} {a : Expr} {as : List Expr} {k : Keyword} {ks : List Keyword} {kk : List (Str × Expr)} {c : Ex} (hg : Gl X x) (h1 : kwsOf (k :: ks) = some kk) (h2 : cMkC C (cE C n) x (a :: as) kk = some c) :
    PE X (.Call (.Name x q) (a :: as) (k :: ks) p) (wE S F W c) := by
  unfold cMkC at h2
  cases e : C.gl x with
  | ocl =>
    rw [e] at h2
    obtain ⟨es, h3, rfl⟩ := map_some h2
    obtain ⟨c1, c2, g1, g2, g3⟩ := nCE_app (S := S) (F := F) (W := W) M h3
    have PAs := nCE_pa iE g1
    have st := nCE_star g1
    obtain ⟨P, hk⟩ := kws_pk (X := X) iE h1 g2
    obtain ⟨k1, k2, k3⟩ := hk p
    refine ⟨fun pins s σ H Q I z => ?_⟩
    unfold wE at z
    have z := wA_mono M c1 (fun vs H1 z1 => wA_len M c2 z1) (g3 σ H _ z)
    obtain ⟨D, hdb, hm, hkp⟩ := O.G.own x (.inr e)
    refine wpAny_Call_Name_kw (ld_glob I hg hm ?_ hdb)
    refine PySem.W.callWith_KW (h₀ := X.base) I.ok.mod.kin hkp k1 (thn (PAs.run p pins s σ H _ I z) fun us s1 ⟨vs, H1, I1, r, q1⟩ => ?_) ?_ (star_one (st a (List.mem_cons_self ..)))
    · refine thn (P.run p pins s1 σ H1 _ I1 q1) fun ws s2 ⟨zs, H2, I2, rz, hzl, q2⟩ => ⟨I2.kIn, ?_⟩
      rw [k2]
      have hl : (kk.map (·.1)).length = zs.length := by
        rw [hzl, nCE_len g2, List.length_map, List.length_map]
      · have q3 := mk_run O M e hm I2 (r.append rz) rfl q2
        have e1 : (vs ++ zs).length - (kk.map (·.1)).length = us.length := by
          rw [List.length_append, hl, r.length]
          omega
        rw [e1, List.take_left, List.drop_left] at q3
        exact q3
    · have s1 := star_no (env := X.env) (pos := p) st
      rw [s1, k3]
      rfl
  | _ => rw [e] at h2; cases h2
theorem met_ok {n : Nat} {o : Expr} {m : Str} {ap p : Pos} {as : List Expr} {o' : Ex} {es : Exs} (hp : plainBase o = true) (hl : (ap.endLine == p.line) = true) (hf : as.length < 20) (ho : PE X o (wE S F W o')) (ha : nCE (cE C n) as = some es) (iE : ∀ e c, cE C n e = some c → PE X e (wE S F W c)) :
    PE X (.Call (.Attribute o m ap) as [] p) (wE S F W (.met o' m es)) := by
  have st := nCE_star ha
  have PAs := nCE_pa iE ha
  refine ⟨fun pins s σ H Q I z => ?_⟩
  unfold wE at z
  refine PySem.W.methodCall_KW (thn (ho.run pins s σ H _ I z) fun u s1 ⟨x, H1, I1, rx, q⟩ => ?_) (meth_eval hp st hf hl)
  change metK S m x H1 _ at q
  unfold metK at q
  cases x with
  | ref a =>
    obtain rfl : u = Value.ref a := rx
    simp only at q
    split at q
    · rename_i D dx fs ea
      obtain ⟨hlk, q⟩ := q
      split at q
      · rename_i g eg
        obtain ⟨cl, f, fd, ps, hm, Fn, hb⟩ := O.G.mt D m g eg
        refine getmeth_ok I1 ea cl hm hlk ?_
        cases as with
        | nil =>
          cases ha
          unfold wA at q
          refine PySem.W.callWith_K0 (first := [.ref a]) I1.kIn hm.kp (run_g (us := [.ref a]) (full := [.ref a]) (vs := [.ref a]) Fn O.gd (O.rm.mono (Nat.le_succ _)) O.tk I1 ?_ (.cons rfl .nil) q)
          have hlen := Fn.len _ _ _ _ q
          have := hb s1 [.ref a] I1.kIn (by simpa using hlen)
          rwa [List.append_nil] at this
        | cons e es' =>
          refine PySem.W.callWith_K (first := [.ref a]) (h₀ := X.base) I.ok.mod.kin hm.kp (thn (PAs.run p pins s1 σ H1 _ I1 q) fun us s2 ⟨vs, H2, I2, r, q2⟩ => ⟨I2.kIn, ?_⟩) (star_one (st e (List.mem_cons_self ..))) (star_no fun e he => st e (List.mem_cons_of_mem _ he))
          refine run_g (us := .ref a :: us) (full := .ref a :: us) (vs := .ref a :: vs) Fn O.gd (O.rm.mono (Nat.le_succ _)) O.tk I2 ?_ (.cons rfl r) q2
          have hlen := Fn.len _ _ _ _ q2
          have := hb s2 (.ref a :: us) I2.kIn (by simpa [← r.length] using hlen)
          rwa [List.append_nil] at this
      · exact q.elim
    · exact q.elim
  | _ => exact q.elim
omit M in
theorem bm_ty {m : Bm} {x : V} {H : Hp} (h : bmTyK S m x H) : tyV X.K (bmTy m) x H := by
  unfold bmTyK at h
  split at h
  · split at h
    · rename_i e
      refine .inl ⟨by cases m <;> rfl, _, rd_lst O.G.so e⟩
    · exact h.elim
  · exact h.elim
def bmI : Bm → String
  | .count => "list.count" | .append => "list.append" | .insert => "list.insert"
omit M in
theorem bm_mt : ∀ m : Bm, MtR X (bmI m) (bmV S m)
  | .count => fun pins s σ H x xs v us Q I rx rxs h => mt_count pins s σ H x xs v us Q I rx rxs (by
    change mCount S x xs H Q at h
    unfold mCount at h
    split at h
    · split at h
      · rename_i e
        exact ⟨_, _, _, rfl, rfl, rd_lst O.G.so e, h.1, h.2.1, h.2.2⟩
      · exact h.elim
    · exact h.elim)
  | .append => fun pins s σ H x xs v us Q I rx rxs h => mt_append pins s σ H x xs v us Q I rx rxs (by
    change mAppend x xs H Q at h
    unfold mAppend at h
    split at h
    · split at h
      · rename_i e
        exact ⟨_, _, _, rfl, rfl, e, h.1, h.2⟩
      · exact h.elim
    · exact h.elim)
  | .insert => fun pins s σ H x xs v us Q I rx rxs h => mt_insert pins s σ H x xs v us Q I rx rxs (by
    change mInsert x xs H Q at h
    unfold mInsert at h
    split at h
    · split at h
      · rename_i e
        obtain ⟨rfl, h2, h3⟩ := h
        exact ⟨_, _, _, _, rfl, rfl, e, h2, Int.le_refl _, by decide, by simpa using h3⟩
      · exact h.elim
    · exact h.elim)
omit M in
theorem bm_pe {m : Bm} {o e : Expr} {es : List Expr} {to : TE} {t : TA} {apos cpos : Pos} (ho : PE X o to) (ha : PA X (e :: es) t) (hbase : attributeBase o (bmN m) X.env (eval o X.env) = eval o X.env)
    (hfew : ((backTo cpos (starEach (e :: es) X.env)).all (fun x => !x.1) && (backToKw cpos (keywordEach [] X.env)).all (fun x => x.1.isSome)
      && decide ((e :: es).length + ([] : List Keyword).length + (if ([] : List Keyword).isEmpty then 0 else 1) < 30)) = true)
    (hline : (apos.endLine == cpos.line) = true) (hs : starEach (e :: es) X.env = (false, eval e X.env) :: starEach es X.env) (hplain : (backTo cpos (starEach es X.env)).any (·.1) = false) :
    PE X (.Call (.Attribute o (bmN m) apos) (e :: es) [] cpos) (tBM X.K (bmTy m) (bmV S m) to t) := by
  cases m with
  | count => exact pe_bm PySem.F.plainAttrs_list PySem.F.slot_list_count PySem.F.type_list_count (bm_mt O .count) ho ha hbase hfew hline hs hplain
  | append => exact pe_bm PySem.F.plainAttrs_list PySem.F.slot_list_append PySem.F.type_list_append (bm_mt O .append) ho ha hbase hfew hline hs hplain
  | insert => exact pe_bm PySem.F.plainAttrs_list PySem.F.slot_list_insert PySem.F.type_list_insert (bm_mt O .insert) ho ha hbase hfew hline hs hplain
omit O M in
theorem bmOf_name {m : Str} {b : Bm} (h : bmOf m = some b) : m = bmN b := by
  unfold bmOf at h
  split at h
  · cases h; assumption
  · split at h
    · cases h; assumption
    · split at h
      · cases h; assumption
      · cases h
theorem bm_ok {n : Nat} {o : Expr} {m : Str} {b : Bm} {ap p : Pos} {as : List Expr} {o' : Ex} {es : Exs} (hne : (!as.isEmpty) = true) (hb : bmOf m = some b) (hp : plainBase o = true) (hl : (ap.endLine == p.line) = true) (hf : as.length < 20) (ho : PE X o (wE S F W o')) (ha : nCE (cE C n) as = some es) (iE : ∀ e c, cE C n e = some c → PE X e (wE S F W c)) :
    PE X (.Call (.Attribute o m ap) as [] p) (wE S F W (.bm b o' es)) := by
  have st := nCE_star ha
  have PAs := nCE_pa iE ha
  cases as with
  | nil => cases hne
  | cons e es' =>
    have em := bmOf_name hb
    subst em
    have h1 := star_no (env := X.env) (pos := p) st
    have h2 : (backTo p (starEach (e :: es') X.env)).all (fun x => !x.1) = true := by
      rw [List.all_eq_true]
      intro x hx
      rw [List.any_eq_false] at h1
      simpa using h1 x hx
    refine PE.imp (bm_pe O ho PAs (base_ok hp) ?_ hl (star_one (st e (List.mem_cons_self ..))) (star_no fun e he => st e (List.mem_cons_of_mem _ he))) fun σ H Q z => ?_
    · rw [h2]
      show (true && true && decide ((e :: es').length + 0 + 0 < 30)) = true
      simp at hf ⊢
      omega
    · unfold wE at z
      exact wE_mono M o' (fun x H1 z1 => ⟨bm_ty O z1.1, z1.2⟩) z
theorem cE_ok : ∀ n : Nat, (∀ e c, cE C n e = some c → PE X e (wE S F W c)) ∧ (∀ e c, cO C n e = some c → PO X e (wO S F W c)) ∧ (∀ e c, cT C n e = some c → PT X e (wT S F W c)) := by
  intro n
  induction n with
  | zero => exact ⟨fun e c h => (by cases h), fun e c h => (by cases h), fun e c h => (by cases h)⟩
  | succ n ih =>
    obtain ⟨iE, iO, iT⟩ := ih
    have S0 := O.G.so
    refine ⟨fun e c h => ?_, fun e c h => ?_, fun e c h => ?_⟩
    · match e, h with
      | .Constant (.int i) _ _, h => cases h; unfold wE; exact pe_int
      | .Constant (.bool b) _ _, h => cases h; unfold wE; exact pe_bl
      | .Constant .none _ _, h => cases h; unfold wE; exact pe_non
      | .Constant (.str x) _ _, h => cases h; unfold wE; exact pe_str
      | .Name x p, h =>
        change cName C x = some c at h
        unfold cName at h
        obtain ⟨hn, h⟩ := if_some h
        obtain ⟨hd, hcd⟩ := okN_d hn
        cases es : slotOf C x with
        | some i =>
          simp only [es] at h
          cases h
          obtain ⟨h1, h2⟩ := O.slot es
          refine PE.imp (pe_var h1 h2 hd hcd) fun σ H Q z => ?_
          unfold wE varK at z
          split at z
          · rename_i v ev
            exact ⟨v, ev, z⟩
          · exact z.elim
        | none =>
          simp only [es] at h
          obtain ⟨hg, h⟩ := if_some h
          cases h
          simp only [Bool.and_eq_true, beq_iff_eq] at hg
          refine ⟨fun pins s σ H Q I z => ?_⟩
          unfold wE cstK at z
          split at z
          · rename_i v ev
            obtain ⟨u, hm, r⟩ := O.G.cst x v hg.2 ev
            exact (pe_glob (O.gl hg.1) hm r hd).run pins s σ H Q I z
          · exact z.elim
      | .BinOp a o b p, h =>
        obtain ⟨a', b', h1, h2, rfl⟩ := two_some (f := Ex.op o) h
        refine PE.imp (pe_op (op_opV S0 o) (iE a a' h1) (iE b b' h2)) fun σ H Q z => ?_
        unfold wE at z
        exact z
      | .UnaryOp .USub a p, h =>
        obtain ⟨a', h1, rfl⟩ := map_some (f := Ex.neg) h
        refine PE.imp (pe_un un_neg (iE a a' h1)) fun σ H Q z => ?_
        unfold wE at z
        refine wE_mono M a' (fun x H1 z1 => ?_) z
        unfold intK at z1
        split at z1
        · exact ⟨_, rfl, z1⟩
        · exact z1.elim
      | .UnaryOp .Not a p, h =>
        obtain ⟨a', h1, rfl⟩ := map_some (f := Ex.not) h
        refine PE.imp (pe_notT (iE a a' h1)) fun σ H Q z => ?_
        unfold wE at z
        exact wE_mono M a' (fun x H1 z1 => tru_ex (B := fun k => Q (.bl (!k)) H1) S0 z1) z
      | .Compare a [o] [b] p, h =>
        obtain ⟨hb, h⟩ := if_some h
        obtain ⟨a', b', h1, h2, rfl⟩ := two_some (f := Ex.cmp o) h
        refine PE.imp (pe_cmpR (op_cmpV S0 O.hu o) (iE a a' h1) (iE b b' h2) (marks_ok hb)) fun σ H Q z => ?_
        unfold wE at z
        exact z
      | .Compare a [o, o'] [b, d] p, h =>
        obtain ⟨hb, h⟩ := if_some h
        obtain ⟨a', b', d', h1, h2, h3, rfl⟩ := tri_some (f := Ex.chn o o') h
        simp only [Bool.and_eq_true] at hb
        refine PE.imp (pe_chain (op_cmpV S0 O.hu o) (op_cmpV S0 O.hu o') (iE a a' h1) (iE b b' h2) (iE d d' h3) (last_ok hb.2)) fun σ H Q z => ?_
        unfold wE at z
        exact wE_mono M a' (fun x H1 z1 => wE_mono M b' (fun y H2 z2 => cmpV_mono (fun v H3 z3 => boolV_ex z3) z2) z1) z
      | .BoolOp .And [a] p, h =>
        exact PE.imp (pe_one (iE a c h)) fun σ H Q z => z
      | .BoolOp .Or [a] p, h =>
        exact PE.imp (pe_one (iE a c h)) fun σ H Q z => z
      | .BoolOp .And (a :: b :: r) p, h =>
        obtain ⟨a', b', h1, h2, rfl⟩ := two_some (f := Ex.and) h
        refine PE.imp (pe_andT (iE a a' h1) (iE _ b' h2)) fun σ H Q z => ?_
        unfold wE at z
        exact wE_mono M a' (fun x H1 z1 => tru_ex (B := fun k => if k = true then wE S F W b' σ H1 Q else Q x H1) S0 z1) z
      | .BoolOp .Or (a :: b :: r) p, h =>
        obtain ⟨a', b', h1, h2, rfl⟩ := two_some (f := Ex.or) h
        refine PE.imp (pe_orT (iE a a' h1) (iE _ b' h2)) fun σ H Q z => ?_
        unfold wE at z
        exact wE_mono M a' (fun x H1 z1 => tru_ex (B := fun k => if k = true then Q x H1 else wE S F W b' σ H1 Q) S0 z1) z
      | .IfExp t a b p, h =>
        obtain ⟨t', a', b', h1, h2, h3, rfl⟩ := tri_some (f := Ex.ite) h
        refine PE.imp (pe_ifExp (iT t t' h1) (iE a a' h2) (iE b b' h3)) fun σ H Q z => ?_
        unfold wE at z
        exact z
      | .Attribute o f p, h =>
        obtain ⟨hb, h⟩ := if_some h
        obtain ⟨o', h1, rfl⟩ := map_some (f := (Ex.fld · f)) h
        refine ⟨fun pins s σ H Q I z => ?_⟩
        unfold wE at z
        refine attr_of (base_ok hb) (thn ((iE o o' h1).run pins s σ H _ I z) fun u s1 ⟨x, H1, I1, rx, z1⟩ => ?_)
        change fldV S f x H1 Q at z1
        unfold fldV at z1
        cases x with
        | ref a =>
          obtain rfl : u = Value.ref a := rx
          simp only at z1
          split at z1
          · rename_i Cc dx fs ea
            obtain ⟨z2, z3⟩ := z1
            split at z3
            · rename_i v ev
              obtain ⟨q1, q2⟩ := O.G.fl _ _ z2
              exact getattr_ok I1 ea q1 q2 ev fun u' s2 I2 ru => ⟨v, H1, I2, ru, z3⟩
            · exact z3.elim
          · rename_i φ ea
            obtain ⟨Cc, fs, v, h1, h2, h3, h4⟩ := z1
            obtain ⟨q1, q2⟩ := O.G.xf _ _ h2
            exact xf_get I1 h1 q1 q2 h3 h4
          · exact z1.elim
        | _ => exact z1.elim
      | .List es p, h =>
        obtain ⟨es', h1, rfl⟩ := map_some (f := Ex.lst) h
        refine PE.imp (PE.nok S0 (pe_lst (nCE_pa iE h1))) fun σ H Q z => ?_
        unfold wE at z
        exact wA_mono M es' (fun xs H1 z1 => ⟨z1.1, fun p hp nk => z1.2 p hp (nok_upd nk)⟩) z
      | .Tuple es q p, h =>
        obtain ⟨es', h1, rfl⟩ := map_some (f := Ex.tup) h
        refine PE.imp (PE.nok S0 (pe_tup (nCE_pa iE h1))) fun σ H Q z => ?_
        unfold wE at z
        exact wA_mono M es' (fun xs H1 z1 => ⟨z1.1, fun p hp nk => z1.2 p hp (nok_upd nk)⟩) z
      | .Call (.Name x q) (a :: as) [] p, h => exact call_ok O M iE h
      | .Call (.Name x q) [] [] p, h =>
        obtain ⟨hg, h⟩ := if_some h
        cases e : C.gl x with
        | xcl =>
          rw [e] at h
          cases h
          exact mkx0_ok O M (O.gl hg) e
        | _ => rw [e] at h; cases h
      | .Dict [] [] p, h =>
        cases h
        refine PE.imp (PE.nok S0 pe_dnewK) fun σ H Q z => ?_
        unfold wE at z
        exact fun d hd nk => z d hd (nok_upd nk)
      | .Call (.Name x q) (a :: as) (k :: ks) p, h =>
        obtain ⟨hg, h⟩ := if_some h
        obtain ⟨kk, h1, h2⟩ := bind_some h
        exact mkCk_ok O M iE (O.gl hg) h1 h2
      | .Call (.Attribute o m ap) as [] p, h =>
        obtain ⟨hb, h⟩ := if_some h
        simp only [Bool.and_eq_true, decide_eq_true_eq] at hb
        obtain ⟨⟨b1, b2⟩, b3⟩ := hb
        unfold cMet at h
        split at h
        · rename_i b eb
          obtain ⟨hne, h⟩ := if_some h
          obtain ⟨o', es, h1, h2, rfl⟩ := two_some (f := Ex.bm b) h
          exact bm_ok O M hne eb b1 b2 b3 (iE o o' h1) h2 iE
        · obtain ⟨o', es, h1, h2, rfl⟩ := two_some (f := fun o es => Ex.met o m es) h
          exact met_ok O M b1 b2 b3 (iE o o' h1) h2 iE
      | .Subscript o i p, h =>
        cases i with
        | Slice lo hi d q =>
          cases d with
          | none =>
            obtain ⟨o', lo', hi', h1, h2, h3, rfl⟩ := tri_some (f := Ex.slc) h
            refine PE.imp (pe_slice (sl_slcV S0) (iE o o' h1) (iO lo lo' h2) (iO hi hi' h3)) fun σ H Q z => ?_
            unfold wE at z
            exact z
          | some d => cases h
        | _ => exact idx_ok O M iE rfl h
    · cases e with
      | none =>
        cases h
        unfold wO
        exact po_none
      | some e =>
        obtain ⟨e', h1, rfl⟩ := map_some (f := Ox.some) h
        refine ⟨fun pins s σ H Q I z => (po_some (iE e e' h1)).run pins s σ H Q I ?_⟩
        unfold wO at z
        refine wE_mono M e' (fun x H1 z1 => ?_) z
        unfold intK at z1
        split at z1
        · exact ⟨_, rfl, z1⟩
        · exact z1.elim
    · cases e with
      | UnaryOp op a p =>
        cases op with
        | Not =>
          obtain ⟨a', h1, rfl⟩ := map_some (f := Te.not) h
          refine PT.imp (pt_not (iT a a' h1)) fun σ H Q z => ?_
          unfold wT at z
          exact z
        | _ => exact val_ok O M iE rfl h
      | BoolOp op vs p =>
        match op, vs, h with
        | .And, [], h => cases h
        | .Or, [], h => cases h
        | .And, [a], h => exact (pw_and1 (iT a c h)).pt
        | .Or, [a], h => exact (pw_or1 (iT a c h)).pt
        | .And, a :: b :: r, h =>
          obtain ⟨a', b', h1, h2, rfl⟩ := two_some (f := Te.and) h
          refine PT.imp (pw_and (iT a a' h1) (pw_of (iT _ b' h2))).pt fun σ H Q z => ?_
          unfold wT at z
          exact z
        | .Or, a :: b :: r, h =>
          obtain ⟨a', b', h1, h2, rfl⟩ := two_some (f := Te.or) h
          refine PT.imp (pw_or (iT a a' h1) (pw_of (iT _ b' h2))).pt fun σ H Q z => ?_
          unfold wT at z
          exact z
      | IfExp t a b p => cases h
      | Compare a os bs p =>
        match os, bs, h with
        | [o], [b], h =>
          obtain ⟨hb, h⟩ := if_some h
          obtain ⟨a', b', h1, h2, rfl⟩ := two_some (f := Te.cmp o) h
          refine PT.imp (pt_cmpR (op_cmpV S0 O.hu o) (iE a a' h1) (iE b b' h2) (marks_ok hb)) fun σ H Q z => ?_
          unfold wT at z
          exact wE_mono M a' (fun x H1 z1 => wE_mono M b' (fun y H2 z2 => cmpV_mono (fun v H3 z3 => boolV_ex z3) z2) z1) z
        | [o, o'], [b, d], h =>
          obtain ⟨hb, h⟩ := if_some h
          obtain ⟨a', b', d', h1, h2, h3, rfl⟩ := tri_some (f := Te.chn o o') h
          simp only [Bool.and_eq_true] at hb
          refine PT.imp (pt_chain (op_cmpV S0 O.hu o) (op_cmpV S0 O.hu o') (iE a a' h1) (iE b b' h2) (iE d d' h3) (last_ok hb.2)) fun σ H Q z => ?_
          unfold wT at z
          refine wE_mono M a' (fun x H1 z1 => wE_mono M b' (fun y H2 z2 => cmpV_mono (fun v H3 z3 => ?_) z2) z1) z
          obtain ⟨k, rfl, z3⟩ := boolV_ex z3
          refine ⟨k, rfl, ?_⟩
          cases k with
          | true => exact wE_mono M d' (fun y H4 z4 => cmpV_mono (fun v H5 z5 => boolV_ex z5) z4) z3
          | false => exact ⟨false, rfl, z3⟩
      | _ => exact val_ok O M iE rfl h
end
end QL
set_option Elab.async false
set_option linter.all false
set_option maxRecDepth 100000
set_option maxHeartbeats 4000000
/-! Q9: statements: the small language, what its terms ask, how Python's are turned. -/
namespace QL
open PySem PySem.Spec L2
open PyProof.Rows hiding St
/-- targets -/
inductive Tg where
  | nm (i : Nat)
  | tp (is : List Nat)
mutual
inductive Sx where
  | asg (i : Nat) (e : Ex)
  | setI (o i e : Ex)
  | setF (o : Ex) (f : Str) (e : Ex)
  | par (is : List Nat) (es : Exs)
  | exp (e : Ex)
  | ret (e : Ex)
  | retN
  | ifs (t : Te) (a b : Sxs)
  | rng (i : Nat) (lo hi : Ex) (b : Sxs)
  | forL (t : Tg) (e : Ex) (b : Sxs)
  | whl (t : Te) (b : Sxs)
  | pass
  | never
  | rai (c : Str) (es : Exs)
  | trx (b : Sxs) (cs : List Str) (i j : Nat)
  | unp (is : List Nat) (e : Ex)
  | aug (i : Nat) (o : Operator) (e : Ex)
inductive Sxs where
  | nil
  | cons (s : Sx) (r : Sxs)
end
/-- a for over m ints from i on -/
def lpR (g : TG) (tb : TS) (D : Ends) : Nat → Int → St → Hp → Prop
  | 0, _, σ, H => D.nx σ H
  | m + 1, i, σ, H => g (.int i) σ H fun σ2 H2 => tb { D with nx := lpR g tb D m (i + 1), ct := lpR g tb D m (i + 1), bk := D.nx } σ2 H2
/-- a for over the list at a, which stays -/
def lpL (so : Addr → Option HO) (a : Addr) (xs : List V) (g : TG) (tb : TS) (D : Ends) : List V → St → Hp → Prop
  | [], σ, H => rd so H a = some (.lst xs) ∧ D.nx σ H
  | x :: r, σ, H => rd so H a = some (.lst xs) ∧ g x σ H fun σ2 H2 => tb { D with nx := lpL so a xs g tb D r, ct := lpL so a xs g tb D r, bk := D.nx } σ2 H2
/-- a while, of at most m turns -/
def lpW (t : TT) (tb : TS) (D : Ends) : Nat → St → Hp → Prop
  | 0, _, _ => False
  | m + 1, σ, H => t σ H fun k H1 => if k = true then tb { D with nx := lpW t tb D m, ct := lpW t tb D m, bk := D.nx } σ H1 else D.nx σ H1
def setL : List Nat → List V → St → Option St
  | [], [], σ => some σ
  | i :: is, v :: vs, σ => setL is vs (σ.set i (some v))
  | _, _, _ => none
def setFV (S : Stat) (f : Str) (x y : V) (H : Hp) (Q : Hp → Prop) : Prop := match x with
  | .ref a => (match H a with
    | some (.ins C dx fs) => S.fl C f ∧ fs.length < 1000 ∧ Q (upd H a (.ins C dx (putF f y fs)))
    | _ => False)
  | _ => False
def parK (o : Option St) (B : St → Prop) : Prop := match o with
  | some σ => B σ
  | none => False
def lstK (so : Addr → Option HO) (x : V) (H : Hp) (B : Addr → List V → Prop) : Prop := match x with
  | .ref a => (match rd so H a with
    | some (.lst xs) => B a xs
    | _ => False)
  | _ => False
/-- what a target takes -/
def gT (so : Addr → Option HO) : Tg → TG
  | .nm i => gName i
  | .tp is => fun v σ H Q => match v with
    | .ref p => (match rd so H p with
      | some (.tup xs) => parK (setL is xs σ) fun σ' => Q σ' H
      | _ => False)
    | _ => False
def augV (o : Operator) (v x : V) (H : Hp) (Q : VK) : Prop := match o, v, x with
  | .Add, .int i, .int j => Q (.int (i + j)) H
  | .Sub, .int i, .int j => Q (.int (i - j)) H
  | _, _, _ => False
/-- a class under one of these -/
def isaAny (S : Stat) (C : Addr) : List Str → Option Bool
  | [] => some false
  | c :: r => match S.isa C c, isaAny S C r with
    | some b, some d => some (b || d)
    | _, _ => none
/-- what a try that keeps the exception wishes of it -/
def trW (S : Stat) (cs : List Str) (i j : Nat) (D : Ends) : WX := fun cls d σ H => ∃ C, cls = .ref C ∧ isaAny S C cs = some true ∧ ∀ a, H a = none → S.so a = none → D.nx ((σ.set j (some (.ref a))).set i none) (upd H a (exV a C d))
section
variable (S : Stat) (F : Sm)
mutual
def wS (W : WX) : Sx → TS
  | .asg i e => fun D σ H => wE S F W e σ H fun x H1 => D.nx (σ.set i (some x)) H1
  | .setI o i e => fun D σ H => wE S F W e σ H fun x H1 => wE S F W o σ H1 fun y H2 => wE S F W i σ H2 fun z H3 => setV y z x H3 fun H4 => D.nx σ H4
  | .setF o f e => fun D σ H => wE S F W e σ H fun y H1 => wE S F W o σ H1 fun x H2 => setFV S f x y H2 fun H3 => D.nx σ H3
  | .par is es => fun D σ H => wA S F W es σ H fun vs H1 => parK (setL is vs σ) fun σ' => D.nx σ' H1
  | .exp e => fun D σ H => wE S F W e σ H fun _ H1 => D.nx σ H1
  | .ret e => fun D σ H => wE S F W e σ H D.rt
  | .retN => fun D _ H => D.rt .non H
  | .ifs t a b => fun D σ H => wT S F W t σ H fun k H1 => if k = true then wSs W a D σ H1 else wSs W b D σ H1
  | .rng i lo hi b => fun D σ H => wE S F W lo σ H fun x H1 => wE S F W hi σ H1 fun y H2 => intK x fun l => intK y fun h => lpR (gName i) (wSs W b) D (h - l).toNat l σ H2
  | .forL t e b => fun D σ H => wE S F W e σ H fun x H1 => lstK S.so x H1 fun a xs => lpL S.so a xs (gT S.so t) (wSs W b) D xs σ H1
  | .whl t b => fun D σ H => ∃ m, lpW (wT S F W t) (wSs W b) D m σ H
  | .pass => fun D σ H => D.nx σ H
  | .never => fun _ _ _ => False
  | .rai c es => fun _ σ H => wA S F W es σ H fun vs H1 => raiV S c vs H1 fun c d H' => W c d σ H'
  | .trx b cs i j => fun D σ H => wSs (trW S cs i j D) b D σ H
  | .unp is e => fun D σ H => wE S F W e σ H fun x H1 => gT S.so (.tp is) x σ H1 D.nx
  | .aug i o e => fun D σ H => varK σ[i]? fun v => wE S F W e σ H fun x H1 => augV o v x H1 fun y H2 => D.nx (σ.set i (some y)) H2
def wSs (W : WX) : Sxs → TS
  | .nil => fun D σ H => D.nx σ H
  | .cons s r => fun D σ H => wS W s { D with nx := wSs W r D } σ H
end
end
/-! ### turning -/
def notComp : Expr → Bool
  | .ListComp _ _ _ _ => false
  | .SetComp _ _ _ _ => false
  | .DictComp _ _ _ _ _ => false
  | _ => true
/-- a local name's slot -/
def locOf (C : CI) (x : Str) : Option Nat := match C.sc.names.lookup x with
  | some .local => C.N.idxOf? x
  | some .cell => C.N.idxOf? x
  | _ => none
def loc1 (C : CI) (x : Str) : Option Nat := match C.sc.names.lookup x with
  | some .local => C.N.idxOf? x
  | _ => none
def nCS : (Stmt → Option Sx) → List Stmt → Option Sxs
  | _, [] => some .nil
  | f, e :: es => two (f e) (nCS f es) .cons
def cPar2 (C : CI) (n : Nat) (x : Str) (px : Pos) (y : Str) (py : Pos) (a b : Expr) : Option Sx :=
  iff' (px.line == py.line && !(x == y) && !([a, b].all (foldedForSure 8)) && !([a, b].all (constantsAlone 8)))
    (tri (loc1 C x) (loc1 C y) (nCE (cE C n) [a, b]) fun i j es => .par [i, j] es)
def cPar3 (C : CI) (n : Nat) (x : Str) (px : Pos) (y : Str) (py : Pos) (z : Str) (pz : Pos) (a b c : Expr) : Option Sx :=
  iff' (px.line == py.line && px.line == pz.line && !(x == y) && !(x == z) && !(y == z) && !([a, b, c].all (foldedForSure 8)) && !([a, b, c].all (constantsAlone 8)))
    (two (tri (loc1 C x) (loc1 C y) (loc1 C z) fun i j l => [i, j, l]) (nCE (cE C n) [a, b, c]) .par)
def nmOf : Expr → Option (Str × Pos)
  | .Name x p => some (x, p)
  | _ => none
def nms : List Expr → Option (List (Str × Pos))
  | [] => some []
  | e :: es => two (nmOf e) (nms es) (fun a b => a :: b)
def cPar (C : CI) (n : Nat) (ns : List (Str × Pos)) (vs : List Expr) : Option Sx := match ns, vs with
  | [x, y], [a, b] => cPar2 C n x.1 x.2 y.1 y.2 a b
  | [x, y, z], [a, b, c] => cPar3 C n x.1 x.2 y.1 y.2 z.1 z.2 a b c
  | _, _ => none
def tupOf : Expr → Option (List Expr)
  | .Tuple vs _ _ => some vs
  | _ => none
/-- the slots of local names -/
def slots (C : CI) : List (Str × Pos) → Option (List Nat)
  | [] => some []
  | x :: r => two (loc1 C x.1) (slots C r) (fun a b => a :: b)
def cAsg1 (C : CI) (n : Nat) (t e : Expr) : Option Sx := match t with
  | .Name x _ => iff' (notComp e) (two (locOf C x) (cE C n e) .asg)
  | .Subscript o i _ => iff' (notComp e && notSlice i) (tri (cE C n o) (cE C n i) (cE C n e) .setI)
  | .Attribute o f _ => iff' (notComp e) (two (cE C n o) (cE C n e) fun o e => .setF o f e)
  | .Tuple ts _ _ => (match tupOf e with
    | some vs => (nms ts).bind fun u => cPar C n u vs
    | none => iff' (notComp e) (two ((nms ts).bind (slots C)) (cE C n e) .unp))
  | _ => none
def cAsg (C : CI) (n : Nat) (ts : List Expr) (e : Expr) : Option Sx := match ts with
  | [t] => cAsg1 C n t e
  | _ => none
def isRange (C : CI) (x : Str) : Bool := x == ("range" : Str) && isG C x && C.gl x == .no
def cRng (C : CI) (n : Nat) (i : Option Nat) (as : List Expr) (b : Option Sxs) : Option Sx := match as with
  | [a] => tri i (cE C n a) b fun i a b => .rng i (.lit (.int 0)) a b
  | [a, c] => two (two i (cE C n a) Prod.mk) (two (cE C n c) b Prod.mk) fun u v => .rng u.1 u.2 v.1 v.2
  | _ => none
def rngOf (C : CI) : Expr → Option (List Expr)
  | .Call f as ks _ => iff' (match nmOf f, ks with
    | some x, [] => isRange C x.1
    | _, _ => false) (some as)
  | _ => none
def walkL : Expr → Bool
  | .Name _ _ => true
  | .List _ _ => true
  | .Attribute _ _ _ => true
  | _ => false
def cFor (C : CI) (n : Nat) (t : Expr) (it : Expr) (b : Option Sxs) : Option Sx := match nmOf t with
  | some x => (match rngOf C it with
    | some as => cRng C n (locOf C x.1) as b
    | none => iff' (walkL it) (tri (locOf C x.1) (cE C n it) b fun i e b => .forL (.nm i) e b))
  | none => iff' (walkL it) (tri (((tupOf t).bind nms).bind (slots C)) (cE C n it) b fun is e b => .forL (.tp is) e b)
/-- the classes that an except clause names -/
def clsNm (C : CI) : Expr → Option Str
  | .Name x _ => iff' (isG C x && (C.gl x == .xcl || C.gl x == .ocl || C.gl x == .bxc)) (some x)
  | _ => none
def clsNms (C : CI) : Expr → Option (List Str)
  | .Name x p => (clsNm C (.Name x p)).map fun x => [x]
  | .Tuple [a, b] _ _ => two (clsNm C a) (clsNm C b) fun x y => [x, y]
  | .Tuple [a, b, c] _ _ => tri (clsNm C a) (clsNm C b) (clsNm C c) fun x y z => [x, y, z]
  | _ => none
/-- y = n, by names -/
def asgNm : List Stmt → Option (Str × Str)
  | [.Assign [.Name y _] (.Name n _) _] => some (y, n)
  | _ => none
def cTry (C : CI) (b : Option Sxs) : List ExceptHandler → Option Sx
  | [.ExceptHandler (some T) (some n) su _] => (asgNm su).bind fun u => iff' (u.2 == n && !(u.1 == n) && okN n) (two (two b (clsNms C T) Prod.mk) (two (loc1 C n) (loc1 C u.1) Prod.mk) fun a s => .trx a.1 a.2 s.1 s.2)
  | _ => none
def cRai (C : CI) (n : Nat) : Option Expr → Option Expr → Option Sx
  | some (.Call (.Name x _) (a :: as) [] _), none => (match C.gl x with
    | .xcl => iff' (isG C x) ((nCE (cE C n) (a :: as)).map (.rai x))
    | _ => some .never)
  | _, _ => some .never
def cAug (C : CI) (n : Nat) (t : Expr) (o : Operator) (e : Expr) : Option Sx := match t with
  | .Name x _ => iff' (o == .Add || o == .Sub) (two (locOf C x) (cE C n e) fun i e => .aug i o e)
  | _ => none
def cS (C : CI) : Nat → Stmt → Option Sx
  | 0, _ => none
  | n + 1, st => match st with
    | .Assign ts e _ => cAsg C n ts e
    | .Expr e _ => iff' (notComp e) ((cE C n e).map .exp)
    | .Return v _ => (match v with
      | some e => (cE C n e).map .ret
      | none => some .retN)
    | .If t a b _ => tri (cT C n t) (nCS (cS C n) a) (nCS (cS C n) b) .ifs
    | .For t it b o _ => iff' o.isEmpty (cFor C n t it (nCS (cS C n) b))
    | .While t b o _ => iff' o.isEmpty (two (cT C n t) (nCS (cS C n) b) .whl)
    | .Pass _ => some .pass
    | .Raise a b _ => cRai C n a b
    | .Try b hs o f _ => iff' (o.isEmpty && f.isEmpty) (cTry C (nCS (cS C n) b) hs)
    | .AugAssign t o e _ => cAug C n t o e
    | _ => none
end QL
set_option Elab.async false
set_option linter.all false
set_option maxRecDepth 100000
set_option maxHeartbeats 4000000
/-! Q10: the turned statements keep what is asked. -/
namespace QL
open PySem PySem.Spec L2
open PyProof.Rows hiding St
structure Le (D D' : Ends) : Prop where
  nx : ∀ σ H, D.nx σ H → D'.nx σ H
  rt : ∀ v H, D.rt v H → D'.rt v H
  bk : ∀ σ H, D.bk σ H → D'.bk σ H
  ct : ∀ σ H, D.ct σ H → D'.ct σ H
section
variable {S : Stat} {F : Sm} {W W' : WX}
theorem setV_mono {o i v : V} {H : Hp} {Q Q' : Hp → Prop} (q : ∀ H, Q H → Q' H) (h : setV o i v H Q) : setV o i v H Q' := by
  unfold setV at h ⊢
  split at h
  · split at h
    · split at h
      · exact q _ h
      · exact h.elim
    · exact ⟨h.1, q _ h.2⟩
    · exact h.elim
  · split at h
    · exact ⟨h.1, q _ h.2⟩
    · exact h.elim
  · exact h.elim
theorem gT_mono {so : Addr → Option HO} {t : Tg} {x : V} {σ : St} {H : Hp} {Q Q' : St → Hp → Prop} (q : ∀ σ H, Q σ H → Q' σ H) (h : gT so t x σ H Q) : gT so t x σ H Q' := by
  cases t with
  | nm i => exact q _ _ h
  | tp is =>
    unfold gT at h ⊢
    simp only at h ⊢
    split at h
    · split at h
      · unfold parK at h ⊢
        split at h
        · exact q _ _ h
        · exact h.elim
      · exact h.elim
    · exact h.elim
def TSle (t t' : TS) : Prop := ∀ D D' σ H, Le D D' → t D σ H → t' D' σ H
theorem lpR_mono {tb tb' : TS} {i0 : Nat} (m : TSle tb tb') {D D' : Ends} (l : Le D D') : ∀ (n : Nat) (i : Int) (σ : St) (H : Hp), lpR (gName i0) tb D n i σ H → lpR (gName i0) tb' D' n i σ H
  | 0, i, σ, H, h => l.nx _ _ h
  | n + 1, i, σ, H, h => by
    refine m _ _ _ _ ?_ h
    exact ⟨fun σ H z => lpR_mono m l n (i + 1) σ H z, l.rt, l.nx, fun σ H z => lpR_mono m l n (i + 1) σ H z⟩
theorem lpL_mono {so : Addr → Option HO} {a : Addr} {xs : List V} {tb tb' : TS} {t : Tg} (m : TSle tb tb') {D D' : Ends} (l : Le D D') : ∀ (r : List V) (σ : St) (H : Hp), lpL so a xs (gT so t) tb D r σ H → lpL so a xs (gT so t) tb' D' r σ H
  | [], σ, H, h => ⟨h.1, l.nx _ _ h.2⟩
  | x :: r, σ, H, h => by
    refine ⟨h.1, gT_mono (fun σ2 H2 z => ?_) h.2⟩
    refine m _ _ _ _ ?_ z
    exact ⟨fun σ H z => lpL_mono m l r σ H z, l.rt, l.nx, fun σ H z => lpL_mono m l r σ H z⟩
variable (M : SmMono F)
include M
theorem lpW_mono {t : Te} {W W' : WX} (w : ∀ c d σ H, W c d σ H → W' c d σ H) {tb tb' : TS} (m : TSle tb tb') {D D' : Ends} (l : Le D D') : ∀ (n : Nat) (σ : St) (H : Hp), lpW (wT S F W t) tb D n σ H → lpW (wT S F W' t) tb' D' n σ H
  | 0, σ, H, h => h.elim
  | n + 1, σ, H, h => by
    unfold lpW at h ⊢
    refine wT_mono2 M w t (fun k H1 z => ?_) h
    cases k with
    | true =>
      refine m _ _ _ _ ?_ z
      exact ⟨fun σ H z => lpW_mono w m l n σ H z, l.rt, l.nx, fun σ H z => lpW_mono w m l n σ H z⟩
    | false => exact l.nx _ _ z
mutual
theorem wS_mono : ∀ (c : Sx) {W W' : WX} (w : ∀ c d σ H, W c d σ H → W' c d σ H) (D D' : Ends) (σ : St) (H : Hp), Le D D' → wS S F W c D σ H → wS S F W' c D' σ H
  | .asg i e, W, W', w, D, D', σ, H, l, h => by
    rw [wS] at h ⊢
    exact wE_mono2 M w e (fun x H1 z => l.nx _ _ z) h
  | .setI o i e, W, W', w, D, D', σ, H, l, h => by
    rw [wS] at h ⊢
    exact wE_mono2 M w e (fun x H1 z1 => wE_mono2 M w o (fun y H2 z2 => wE_mono2 M w i (fun z H3 z3 => setV_mono (fun H4 z4 => l.nx _ _ z4) z3) z2) z1) h
  | .setF o f e, W, W', w, D, D', σ, H, l, h => by
    rw [wS] at h ⊢
    refine wE_mono2 M w e (fun x H1 z1 => wE_mono2 M w o (fun y H2 z2 => ?_) z1) h
    unfold setFV at z2 ⊢
    split at z2
    · split at z2
      · exact ⟨z2.1, z2.2.1, l.nx _ _ z2.2.2⟩
      · exact z2.elim
    · exact z2.elim
  | .par is es, W, W', w, D, D', σ, H, l, h => by
    rw [wS] at h ⊢
    refine wA_mono2 M w es (fun vs H1 z => ?_) h
    unfold parK at z ⊢
    split at z
    · exact l.nx _ _ z
    · exact z.elim
  | .exp e, W, W', w, D, D', σ, H, l, h => by
    rw [wS] at h ⊢
    exact wE_mono2 M w e (fun x H1 z => l.nx _ _ z) h
  | .ret e, W, W', w, D, D', σ, H, l, h => by
    rw [wS] at h ⊢
    exact wE_mono2 M w e l.rt h
  | .retN, W, W', w, D, D', σ, H, l, h => by
    rw [wS] at h ⊢
    exact l.rt _ _ h
  | .ifs t a b, W, W', w, D, D', σ, H, l, h => by
    rw [wS] at h ⊢
    refine wT_mono2 M w t (fun k H1 z => ?_) h
    cases k with
    | true => exact wSs_mono a w _ _ _ _ l z
    | false => exact wSs_mono b w _ _ _ _ l z
  | .rng i lo hi b, W, W', w, D, D', σ, H, l, h => by
    rw [wS] at h ⊢
    refine wE_mono2 M w lo (fun x H1 z1 => wE_mono2 M w hi (fun y H2 z2 => ?_) z1) h
    unfold intK at z2 ⊢
    split at z2
    · split at z2
      · exact lpR_mono (fun D D' σ H l z => wSs_mono b w D D' σ H l z) l _ _ _ _ z2
      · exact z2.elim
    · exact z2.elim
  | .forL t e b, W, W', w, D, D', σ, H, l, h => by
    rw [wS] at h ⊢
    refine wE_mono2 M w e (fun x H1 z1 => ?_) h
    unfold lstK at z1 ⊢
    split at z1
    · split at z1
      · exact lpL_mono (fun D D' σ H l z => wSs_mono b w D D' σ H l z) l _ _ _ z1
      · exact z1.elim
    · exact z1.elim
  | .whl t b, W, W', w, D, D', σ, H, l, h => by
    rw [wS] at h ⊢
    obtain ⟨m, z⟩ := h
    exact ⟨m, lpW_mono M w (fun D D' σ H l z => wSs_mono b w D D' σ H l z) l m _ _ z⟩
  | .pass, W, W', w, D, D', σ, H, l, h => by
    rw [wS] at h ⊢
    exact l.nx _ _ h
  | .never, W, W', w, D, D', σ, H, l, h => by
    rw [wS] at h
    exact h.elim
  | .rai c es, W, W', w, D, D', σ, H, l, h => by
    rw [wS] at h ⊢
    exact wA_mono2 M w es (fun vs H1 z => raiV_mono (fun c d H' z => w c d σ H' z) z) h
  | .trx b cs i j, W, W', w, D, D', σ, H, l, h => by
    rw [wS] at h ⊢
    exact wSs_mono b (fun cls d σ H ⟨C, e, h1, h2⟩ => ⟨C, e, h1, fun a h3 h4 => l.nx _ _ (h2 a h3 h4)⟩) _ _ _ _ l h
  | .unp is e, W, W', w, D, D', σ, H, l, h => by
    rw [wS] at h ⊢
    exact wE_mono2 M w e (fun x H1 z => gT_mono l.nx z) h
  | .aug i o e, W, W', w, D, D', σ, H, l, h => by
    rw [wS] at h ⊢
    unfold varK at h ⊢
    split at h
    · rename_i v ev
      simp only [ev]
      refine wE_mono2 M w e (fun x H1 z => ?_) h
      unfold augV at z ⊢
      split at z
      · exact l.nx _ _ z
      · exact l.nx _ _ z
      · exact z.elim
    · exact h.elim
theorem wSs_mono : ∀ (c : Sxs) {W W' : WX} (w : ∀ c d σ H, W c d σ H → W' c d σ H) (D D' : Ends) (σ : St) (H : Hp), Le D D' → wSs S F W c D σ H → wSs S F W' c D' σ H
  | .nil, W, W', w, D, D', σ, H, l, h => by
    rw [wSs] at h ⊢
    exact l.nx _ _ h
  | .cons s r, W, W', w, D, D', σ, H, l, h => by
    rw [wSs] at h ⊢
    refine wS_mono s w _ _ _ _ ?_ h
    exact ⟨fun σ H z => wSs_mono r w _ _ _ _ l z, l.rt, l.bk, l.ct⟩
end
end
/-! ### ranges of any size -/
section
variable {X : Cx} {tg : Expr}
theorem turn_long {P : Program} {w : World} {K : PySem.W.Frag} (it : Addr) (lo : Int) (n : Nat) : Turn P w K tg (Itr lo n) [it] it (fun i h => IsLongIter h it (lo + (i : Nat) * 1) ((n : Int) - (i : Nat)) 1) where
  mem := by simp
  obj := fun i h st b hb => by
    have e : b = it := by simpa using hb
    subst e
    exact ⟨_, st, fun v z => by
      have z' : Data.fields _ = Data.cell v := z
      cases z'⟩
  keep := fun i h h' st kk => kk it (by simp) _ st
  item := by
    intro X hP hw hK hc i pins s σ H E I hf st hg
    subst hP hw hK
    obtain ⟨f0, f1, f2, f3, f4, f5⟩ := hf it (by simp)
    refine (Walks.longrange (prog := X.prog) (w := X.w) (I.ok.hd hc) it lo 1 n).item i s _ _ hg st fun v h' tk hv st' kk => ?_
    obtain ⟨t, rfl⟩ := hv
    have I1 : Inv X pins σ H { s with heap := h', toks := tk } := I.turned (fun b o hb e => kk b o (by simpa using hb) e) f0 f1 f3 f4 f5
    refine ⟨_, rfl, go_of (s := { s with heap := h', toks := tk }) (n := "longrange_iterator") st' rfl rfl (by decide) ⟨.int (lo + i), H, I1, ⟨t, ?_⟩, ⟨rfl, rfl⟩, st', fun b hb => (hf b hb).1⟩⟩
    rw [Int.mul_one]
  done := by
    intro X hP hw hK hc i pins s σ H E I hf st hg
    subst hP hw hK
    obtain ⟨f0, f1, f2, f3, f4, f5⟩ := hf it (by simp)
    exact wpAny_pyNext_long_end (I.ok.hd hc) st (by have : n ≤ i := hg; omega) fun h' eb => ⟨rfl, I.turned (t' := s.toks) (fun b o hb e => eb b o hb e) f0 f1 f3 f4 f5⟩
  self := fun _ _ _ _ _ st h => wpAny_pyIter_longiter st h
theorem range_any {pins : List (Addr × Obj)} {σ : St} {H : Hp} {s : Shared} {R : It → Hp → Prop} {E : Value → Shared → Prop} {lo hi : Int} {t u v : Tok} {tk : Nat} (I : Inv X pins σ H s)
    (q : R (Itr lo (hi - lo).toNat) H) : wpAny (model X.prog X.w) X.A (pyIter (.ref s.heap.objs.size)) (PIE X pins σ tg R) E { s with heap := s.heap.push { cls := .type "range", data := .fields #[.int lo t, .int hi u, .int 1 v] }, toks := tk } := by
  have I1 : Inv X pins σ H { s with heap := s.heap.push { cls := .type "range", data := .fields #[.int lo t, .int hi u, .int 1 v] }, toks := tk } := I.kept fun b o e => Heap.get?_push_of_some _ e
  have e1 : lo + ((0 : Nat) : Int) * 1 = lo := by simp
  have e2 : (((hi - lo).toNat : Nat) : Int) - ((0 : Nat) : Int) = Builtin.Range.rangeSize lo hi 1 := by rw [rangeSize_one]; split <;> omega
  have fp : ∀ b ∈ [(s.heap.push { cls := .type "range", data := .fields #[.int lo t, .int hi u, .int 1 v] }).objs.size], FpOk X pins H b := fun b hb => by
    have e : b = (s.heap.push { cls := .type "range", data := .fields #[.int lo t, .int hi u, .int 1 v] }).objs.size := by simpa using hb
    subst e
    exact I1.fpOk (Nat.le_refl _) (I1.hok.fresh (Nat.le_refl _))
  cases hs : Builtin.Range.small lo hi 1 with
  | true =>
    refine wpAny_pyIter_range (IsRange.new ..) hs ?_
    refine ⟨_, _, _, _, H, rfl, I1.kept (t' := tk) fun b o e => Heap.get?_push_of_some _ e, turn_range _ lo (hi - lo).toNat, ?_, fp, q⟩
    show IsRangeIter _ _ (lo + ((0 : Nat) : Int) * 1) ((((hi - lo).toNat : Nat) : Int) - ((0 : Nat) : Int)) 1
    rw [e1, e2]
    exact Heap.get?_push_size _ rfl
  | false =>
    refine wpAny_pyIter_longrange (IsRange.new ..) hs ?_
    refine ⟨_, _, _, _, H, rfl, I1.kept (t' := tk) fun b o e => Heap.get?_push_of_some _ e, turn_long _ lo (hi - lo).toNat, ?_, fp, q⟩
    show IsLongIter _ _ (lo + ((0 : Nat) : Int) * 1) ((((hi - lo).toNat : Nat) : Int) - ((0 : Nat) : Int)) 1
    rw [e1, e2]
    exact Heap.get?_push_size _ rfl
theorem pi_rng1 {a : Expr} {ta : TE} {p pos : Pos} (hg : Gl X "range") (hm : X.mg "range" = none) (ha : PE X a ta) (st : notStar a = true) :
    PI X tg (.Call (.Name "range" p) [a] [] pos) (fun σ H R => ta σ H fun x H1 => ∃ j : Int, [x] = [V.int j] ∧ R (Itr 0 (j - 0).toNat) H1) := by
  refine ⟨fun pins s σ H R I h => ?_⟩
  refine Call_ (ld_blt I hg hm boot_range (PyProof.Rows.callWith_type1 (thn ((pa_cons ha pa_nil (star_one st)).run pos pins s σ H (fun vs H1 => ∃ j : Int, vs = [V.int j] ∧ R (Itr 0 (j - 0).toNat) H1) I h) fun us s1 ⟨vs, H1, I1, r1, q1⟩ => ?_) (star_one st) rfl))
  obtain ⟨j, rfl, q⟩ := q1
  obtain ⟨u, rfl, t, rfl⟩ := vals1 r1
  exact call_range_1 (range_any I1 q)
theorem pi_rng2 {a b : Expr} {ta tb : TE} {p pos : Pos} (hg : Gl X "range") (hm : X.mg "range" = none) (ha : PE X a ta) (hb : PE X b tb) (sa : notStar a = true) (sb : notStar b = true) :
    PI X tg (.Call (.Name "range" p) [a, b] [] pos) (fun σ H R => ta σ H fun x H1 => tb σ H1 fun y H2 => ∃ i j : Int, [x, y] = [V.int i, V.int j] ∧ R (Itr i (j - i).toNat) H2) := by
  refine ⟨fun pins s σ H R I h => ?_⟩
  refine Call_ (ld_blt I hg hm boot_range (PyProof.Rows.callWith_type1 (thn ((pa_cons ha (pa_cons hb pa_nil (star_one sb)) (star_one sa)).run pos pins s σ H (fun vs H1 => ∃ i j : Int, vs = [V.int i, V.int j] ∧ R (Itr i (j - i).toNat) H1) I h) fun us s1 ⟨vs, H1, I1, r1, q1⟩ => ?_) (star_one sa) ?_))
  · obtain ⟨i, j, rfl, q⟩ := q1
    obtain ⟨u, w, rfl, ⟨t, rfl⟩, t', rfl⟩ := vals2 r1
    exact call_range_2 (range_any I1 q)
  · exact star_no fun e he => by
      have : e = b := by simpa using he
      rw [this]
      exact sb
/-- the turns of a range -/
theorem for_rng {lo : Int} {n : Nat} {g : TG} {tb : TS} {D : Ends} {σ : St} {H : Hp} (h : lpR g tb D n lo σ H) :
    ∃ W : Nat → Nat → St → Hp → Prop, (∃ m, W 0 m σ H) ∧ ∀ i m σ H, W i m σ H →
      ((Itr lo n).stop i H ∧ D.nx σ H) ∨ ((Itr lo n).go i H ∧ ∃ N : St → Hp → Prop, (∀ σ' H', N σ' H' → ∃ m', m' < m ∧ W (i + 1) m' σ' H') ∧ ∀ x H', (Itr lo n).yld i H x H' → g x σ H' fun σ2 H2 => tb { D with nx := N, ct := N, bk := D.nx } σ2 H2) := by
  refine ⟨fun i m σ H => m = n - i ∧ i ≤ n ∧ lpR g tb D m (lo + i) σ H, ⟨n, by simp, Nat.zero_le _, by simpa using h⟩, ?_⟩
  rintro i m σ H ⟨e, hi, z⟩
  cases m with
  | zero => exact .inl ⟨by show n ≤ i; omega, z⟩
  | succ m =>
    refine .inr ⟨by show i < n; omega, lpR g tb D m (lo + i + 1), fun σ' H' z' => ⟨m, by omega, by omega, by omega, ?_⟩, ?_⟩
    · have : lo + ((i + 1 : Nat) : Int) = lo + i + 1 := by push_cast; omega
      rw [this]
      exact z'
    · rintro x H' ⟨rfl, rfl⟩
      exact z
/-- the turns of a list that stays -/
theorem for_lst {K : PySem.W.Frag} {so : Addr → Option HO} (S0 : SoOk K so) {a : Addr} {xs : List V} {g : TG} {tb : TS} {D : Ends} {σ : St} {H : Hp} (h : lpL so a xs g tb D xs σ H) :
    ∃ W : Nat → Nat → St → Hp → Prop, (∃ m, W 0 m σ H) ∧ ∀ i m σ H, W i m σ H →
      ((Itl K a).stop i H ∧ D.nx σ H) ∨ ((Itl K a).go i H ∧ ∃ N : St → Hp → Prop, (∀ σ' H', N σ' H' → ∃ m', m' < m ∧ W (i + 1) m' σ' H') ∧ ∀ x H', (Itl K a).yld i H x H' → g x σ H' fun σ2 H2 => tb { D with nx := N, ct := N, bk := D.nx } σ2 H2) := by
  refine ⟨fun i m σ H => ∃ r, xs.drop i = r ∧ m = r.length ∧ i ≤ xs.length ∧ lpL so a xs g tb D r σ H, ⟨_, _, rfl, rfl, Nat.zero_le _, h⟩, ?_⟩
  rintro i m σ H ⟨r, e, rfl, hi, z⟩
  cases r with
  | nil =>
    have hl : xs.length ≤ i := List.drop_eq_nil_iff.mp e
    exact .inl ⟨⟨xs, rd_lst S0 z.1, hl⟩, z.2⟩
  | cons x r =>
    have hx : xs[i]? = some x := by
      have := List.getElem?_drop (xs := xs) (i := i) (j := 0)
      rw [e] at this
      simpa using this.symm
    have hd : xs.drop (i + 1) = r := by
      rw [← List.tail_drop, e]
      rfl
    refine .inr ⟨⟨xs, x, rd_lst S0 z.1, hx⟩, lpL so a xs g tb D r, fun σ' H' z' => ⟨r.length, by simp, r, hd, rfl, ?_, z'⟩, ?_⟩
    · have := (List.getElem?_eq_some_iff.mp hx).1
      omega
    · rintro y H' ⟨rfl, hy⟩
      have := hy xs (rd_lst S0 z.1)
      rw [hx] at this
      cases this
      exact z.2
theorem PS.imp {st : Stmt} {t t' : TS} (h : PS X st t) (q : ∀ D σ H, t' D σ H → t D σ H) : PS X st t' := ⟨fun pins s σ H D I z => h.run pins s σ H D I (q D σ H z)⟩
end
section
variable {env : Env}
theorem swaps_no {e : Expr} {t : Option Expr} {l : Nat} (h : notComp e = true) : swapsWith e t l env = pure false := by
  cases e <;> first | rfl | cases h
theorem swp2 {x y : Str} {px py pt pt2 : Pos} {kt k2 : Nat} {a b : Expr} (hk : env.scope.kind = .function) (hx : env.scope.names.lookup x = some .local) (hy : env.scope.names.lookup y = some .local) (hl : px.line = py.line) (hxy : x ≠ y)
    (sa : notStar a = true) (sb : notStar b = true) (h1 : [a, b].all (foldedForSure 8) = false) (h2 : [a, b].all (constantsAlone 8) = false) :
    swappedStores [.Tuple [.Name x px, .Name y py] kt pt] (.Tuple [a, b] k2 pt2) env = pure (some [x, y]) := by
  have hbk : env.blockKind = .function := by
    unfold Env.blockKind
    rw [hk]
    rfl
  have k1 : env.kindOf x = some .local := hx
  have k2' : env.kindOf y = some .local := hy
  have hn : ([x, y] : List Str).eraseDups.length = 2 := by
    have : (y == x) = false := by simpa using fun e => hxy e.symm
    simp [List.eraseDups, List.eraseDupsBy, List.eraseDupsBy.loop, this]
  unfold swappedStores
  simp only [h1, h2, hbk, k1, k2', List.filterMap, Expr.pos, hl, List.head?, Option.map, Option.getD]
  have e0 : (some NameKind.local == some NameKind.local && py.line == py.line) = true := by simp
  simp only [e0, if_true, List.length_cons, List.length_nil, hn, List.any_cons, List.any_nil]
  refine (if_neg (by decide)).trans ((if_neg (fun h => ?_)).trans ?_)
  · rw [Bool.or_eq_true, Bool.or_eq_true] at h
    rcases h with h | h | h
    · cases a <;> first | exact absurd h Bool.false_ne_true | exact absurd sa Bool.false_ne_true
    · cases b <;> first | exact absurd h Bool.false_ne_true | exact absurd sb Bool.false_ne_true
    · exact absurd h Bool.false_ne_true
  · rfl
theorem swp3 {x y z : Str} {px py pz pt pt2 : Pos} {kt k2 : Nat} {a b c : Expr} (hk : env.scope.kind = .function) (hx : env.scope.names.lookup x = some .local) (hy : env.scope.names.lookup y = some .local) (hz : env.scope.names.lookup z = some .local)
    (hl : px.line = py.line) (hl2 : px.line = pz.line) (hxy : x ≠ y) (hxz : x ≠ z) (hyz : y ≠ z)
    (sa : notStar a = true) (sb : notStar b = true) (sc : notStar c = true) (h1 : [a, b, c].all (foldedForSure 8) = false) (h2 : [a, b, c].all (constantsAlone 8) = false) :
    swappedStores [.Tuple [.Name x px, .Name y py, .Name z pz] kt pt] (.Tuple [a, b, c] k2 pt2) env = pure (some [x, y, z]) := by
  have hbk : env.blockKind = .function := by
    unfold Env.blockKind
    rw [hk]
    rfl
  have k1 : env.kindOf x = some .local := hx
  have k2' : env.kindOf y = some .local := hy
  have k3 : env.kindOf z = some .local := hz
  have hn : ([x, y, z] : List Str).eraseDups.length = 3 := by
    have e1 : (y == x) = false := by simpa using fun e => hxy e.symm
    have e2 : (z == x) = false := by simpa using fun e => hxz e.symm
    have e3 : (z == y) = false := by simpa using fun e => hyz e.symm
    simp [List.eraseDups, List.eraseDupsBy, List.eraseDupsBy.loop, e1, e2, e3]
  unfold swappedStores
  simp only [h1, h2, hbk, k1, k2', k3, List.filterMap, Expr.pos, ← hl, ← hl2, List.head?, Option.map, Option.getD]
  have e0 : (some NameKind.local == some NameKind.local && px.line == px.line) = true := by simp
  simp only [e0, if_true, List.length_cons, List.length_nil, hn, List.any_cons, List.any_nil]
  refine (if_neg (by decide)).trans ((if_neg (fun h => ?_)).trans ?_)
  · rw [Bool.or_eq_true, Bool.or_eq_true, Bool.or_eq_true] at h
    rcases h with h | h | h | h
    · cases a <;> first | exact absurd h Bool.false_ne_true | exact absurd sa Bool.false_ne_true
    · cases b <;> first | exact absurd h Bool.false_ne_true | exact absurd sb Bool.false_ne_true
    · cases c <;> first | exact absurd h Bool.false_ne_true | exact absurd sc Bool.false_ne_true
    · exact absurd h Bool.false_ne_true
  · rfl
theorem swn {o i e : Expr} {p : Pos} : swappedStores [.Subscript o i p] e env = pure none := by
  unfold swappedStores
  rfl
theorem ase {o i : Expr} {p : Pos} : (assignEach [.Subscript o i p] env).map (·.2) = [assign (.Subscript o i p) env] := rfl
theorem asg {o i : Expr} {p : Pos} (hs : notSlice i = true) (v : Value) : assign (.Subscript o i p) env v = (do
      let ov ← holding [v] (eval o env)
      let iv ← holding [v, ov] (eval i env)
      standAt p
      holding [v, ov, iv] (setItem ov iv v)
      release [v, ov, iv] []) := by cases i <;> first | rfl | cases hs
end
end QL
set_option Elab.async false
set_option linter.all false
set_option maxRecDepth 100000
set_option maxHeartbeats 4000000
/-! Q11: the turned statements keep what is asked: the induction; defs. -/
namespace QL
open PySem PySem.Spec L2
open PyProof.Rows hiding St
section
variable {X : Cx} {S : Stat} {F : Sm} {k : Nat} {C : CI} {W : WX}
theorem Ok.loc (O : Ok X S F k C W) {x : Str} {i : Nat} (h : locOf C x = some i) : X.N.Nodup ∧ X.N[i]? = some x ∧ Loc X.env.scope x ∧ (X.fn x = true ∨ X.env.scope.names.lookup x = some .local) := by
  unfold locOf at h
  have nd : X.N.Nodup := by rw [O.N]; exact O.nd
  split at h
  · rename_i e
    rw [← O.sc] at e
    exact ⟨nd, by rw [O.N]; exact idxOf_get h, .inl e, .inr e⟩
  · rename_i e
    have e' := e
    rw [← O.sc] at e
    exact ⟨nd, by rw [O.N]; exact idxOf_get h, .inr e, .inl (O.cf _ e')⟩
  · cases h
theorem Ok.loc1 (O : Ok X S F k C W) {x : Str} {i : Nat} (h : QL.loc1 C x = some i) : X.N[i]? = some x ∧ X.env.scope.names.lookup x = some .local := by
  unfold QL.loc1 at h
  split at h
  · rename_i e
    rw [← O.sc] at e
    exact ⟨by rw [O.N]; exact idxOf_get h, e⟩
  · cases h
theorem sole_no {env : Env} {e t : Expr} {l : Nat} (h : notComp e = true) : swapsWithSole [t] e l env = pure false := by
  cases e <;> first | rfl | cases h
theorem nd_ne {α : Type} {l : List α} {i j : Nat} {x y : α} (hi : l[i]? = some x) (hj : l[j]? = some y) (h : x ≠ y) : i ≠ j := by
  rintro rfl
  rw [hi] at hj
  exact h (Option.some.inj hj)
variable (O : Ok X S F k C W) (M : SmMono F)
include O M
theorem nCS_ok {n : Nat} (iS : ∀ st c, cS C n st = some c → PS X st (wS S F W c)) : ∀ {b : List Stmt} {c : Sxs}, nCS (cS C n) b = some c → PSs X b (wSs S F W c)
  | [], c, h => by
    cases h
    refine ⟨fun pins s σ H D I z => ?_⟩
    unfold wSs at z
    exact pss_nil.run pins s σ H D I z
  | st :: b, c, h => by
    obtain ⟨s', b', h1, h2, rfl⟩ := two_some (f := Sxs.cons) h
    have p := pss_cons (iS st s' h1) (nCS_ok iS h2)
    refine ⟨fun pins s σ H D I z => ?_⟩
    unfold wSs at z
    exact p.run pins s σ H D I z
theorem set_ok {i : Nat} {x : Str} {p q : Pos} {e : Expr} {e' : Ex} (hc : notComp e = true) (hi : locOf C x = some i) (he : PE X e (wE S F W e')) : PS X (.Assign [.Name x p] e q) (wS S F W (.asg i e')) := by
  obtain ⟨nd, h1, h2, h3⟩ := O.loc hi
  refine PS.imp (ps_set nd h1 h2 he (swaps_no hc) h3) fun D σ H z => ?_
  rw [wS] at z
  exact z
theorem setI_ok {o i e : Expr} {o' i' e' : Ex} {p q : Pos} (hc : notComp e = true) (hs : notSlice i = true) (ho : PE X o (wE S F W o')) (hi : PE X i (wE S F W i')) (he : PE X e (wE S F W e')) : PS X (.Assign [.Subscript o i p] e q) (wS S F W (.setI o' i' e')) := by
  refine PS.imp (ps_asg he (pg_sub ho hi (set_setV O.hu1) (asg hs)) (sole_no hc) swn ase) fun D σ H z => ?_
  rw [wS] at z
  exact z
theorem setF_ok {o e : Expr} {f : Str} {o' e' : Ex} {p q : Pos} (hc : notComp e = true) (ho : PE X o (wE S F W o')) (he : PE X e (wE S F W e')) : PS X (.Assign [.Attribute o f p] e q) (wS S F W (.setF o' f e')) := by
  refine PS.imp (ps_fld ho he (swaps_no hc)) fun D σ H z => ?_
  rw [wS] at z
  refine wE_mono M e' (fun y H1 z1 => wE_mono M o' (fun x H2 z2 => ?_) z1) z
  unfold setFV at z2
  split at z2
  · split at z2
    · rename_i ea
      obtain ⟨q1, q2⟩ := O.G.fl _ _ z2.1
      exact ⟨_, _, _, _, rfl, ea, q1, q2, z2.2.1, z2.2.2⟩
    · exact z2.elim
  · exact z2.elim
theorem par2_ok {n : Nat} (iE : ∀ e c, cE C n e = some c → PE X e (wE S F W c)) {x y : Str} {px py pt pt2 q : Pos} {kt k2 : Nat} {a b : Expr} {c : Sx} (h : cPar2 C n x px y py a b = some c) :
    PS X (.Assign [.Tuple [.Name x px, .Name y py] kt pt] (.Tuple [a, b] k2 pt2) q) (wS S F W c) := by
  obtain ⟨hb, h⟩ := if_some h
  obtain ⟨i, j, es, h1, h2, h3, rfl⟩ := tri_some (f := fun i j es => Sx.par [i, j] es) h
  simp only [Bool.and_eq_true, beq_iff_eq, Bool.not_eq_true', beq_eq_false_iff_ne] at hb
  obtain ⟨⟨⟨hl, hxy⟩, b1⟩, b2⟩ := hb
  obtain ⟨i1, i2⟩ := O.loc1 h1
  obtain ⟨j1, j2⟩ := O.loc1 h2
  have st := nCE_star h3
  have nd : X.N.Nodup := by rw [O.N]; exact O.nd
  have sa := st a (List.Mem.head _)
  have sb := st b (List.Mem.tail _ (List.Mem.head _))
  have hw := swp2 (pt := pt) (pt2 := pt2) (kt := kt) (k2 := k2) O.kd i2 j2 hl hxy sa sb b1 b2
  have hpa := nCE_pa iE h3
  have hsole : swapsWithSole [.Tuple [.Name x px, .Name y py] kt pt] (.Tuple [a, b] k2 pt2) q.line X.env = pure false := sole_no rfl
  have hp := ps_par O.calm nd i1 j1 (nd_ne i1 j1 hxy) i2 j2 hpa hw hsole
  refine PS.imp hp fun D σ H z => ?_
  rw [wS] at z
  refine wA_mono M es (fun vs H1 z1 => ?_) z
  match vs, z1 with
  | [v, w'], z1 => exact ⟨v, w', rfl, z1⟩
theorem par3_ok {n : Nat} (iE : ∀ e c, cE C n e = some c → PE X e (wE S F W c)) {x y z : Str} {px py pz pt pt2 q : Pos} {kt k2 : Nat} {a b d : Expr} {c : Sx} (h : cPar3 C n x px y py z pz a b d = some c) :
    PS X (.Assign [.Tuple [.Name x px, .Name y py, .Name z pz] kt pt] (.Tuple [a, b, d] k2 pt2) q) (wS S F W c) := by
  obtain ⟨hb, h⟩ := if_some h
  obtain ⟨is, es, h0, h3, rfl⟩ := two_some (f := Sx.par) h
  obtain ⟨i, j, l, h1, h2, h4, rfl⟩ := tri_some (f := fun i j l => [i, j, l]) h0
  simp only [Bool.and_eq_true, beq_iff_eq, Bool.not_eq_true', beq_eq_false_iff_ne] at hb
  obtain ⟨⟨⟨⟨⟨⟨hl, hl2⟩, hxy⟩, hxz⟩, hyz⟩, b1⟩, b2⟩ := hb
  obtain ⟨i1, i2⟩ := O.loc1 h1
  obtain ⟨j1, j2⟩ := O.loc1 h2
  obtain ⟨l1, l2⟩ := O.loc1 h4
  have st := nCE_star h3
  have nd : X.N.Nodup := by rw [O.N]; exact O.nd
  have sa := st a (List.Mem.head _)
  have sb := st b (List.Mem.tail _ (List.Mem.head _))
  have sd := st d (List.Mem.tail _ (List.Mem.tail _ (List.Mem.head _)))
  have hw := swp3 (pt := pt) (pt2 := pt2) (kt := kt) (k2 := k2) O.kd i2 j2 l2 hl hl2 hxy hxz hyz sa sb sd b1 b2
  have hpa := nCE_pa iE h3
  have hsole : swapsWithSole [.Tuple [.Name x px, .Name y py, .Name z pz] kt pt] (.Tuple [a, b, d] k2 pt2) q.line X.env = pure false := sole_no rfl
  have hp := ps_par3 O.calm nd i1 j1 l1 (nd_ne i1 j1 hxy) (nd_ne i1 l1 hxz) (nd_ne j1 l1 hyz) i2 j2 l2 hpa hw hsole
  refine PS.imp hp fun D σ H z => ?_
  rw [wS] at z
  refine wA_mono M es (fun vs H1 z1 => ?_) z
  match vs, z1 with
  | [v, w', u], z1 => exact ⟨v, w', u, rfl, z1⟩
theorem rng_name {x : Str} (h : isRange C x = true) : x = "range" ∧ Gl X "range" ∧ X.mg "range" = none := by
  unfold isRange at h
  simp only [Bool.and_eq_true, beq_iff_eq] at h
  obtain ⟨⟨rfl, h2⟩, h3⟩ := h
  exact ⟨rfl, O.gl h2, O.G.rng h3⟩
omit M in
theorem slots_pgs : ∀ {ns : List (Str × Pos)} {is : List Nat}, slots C ns = some is → ∃ t : TGs, PGs X (ns.map fun x => .Name x.1 x.2) t ∧ (∀ xs σ H Q, parK (setL is xs σ) (fun σ' => Q σ' H) → t xs σ H Q) ∧ (assignEach (ns.map fun x => Expr.Name x.1 x.2) X.env).length = ns.length ∧ (assignEach (ns.map fun x => Expr.Name x.1 x.2) X.env).findIdx? (·.1) = none
  | [], is, h => by
    cases h
    refine ⟨gNil, pgs_nil, fun xs σ H Q z => ?_, rfl, rfl⟩
    cases xs with
    | nil => exact ⟨rfl, z⟩
    | cons v r => exact z.elim
  | x :: ns, is, h => by
    obtain ⟨i, r, h1, h2, rfl⟩ := two_some (f := fun a b => a :: b) h
    obtain ⟨t, h3, h4, h5, h6⟩ := slots_pgs h2
    obtain ⟨l1, l2⟩ := O.loc1 h1
    have nd : X.N.Nodup := by rw [O.N]; exact O.nd
    refine ⟨gCons (gName i) t, pgs_cons (pg_name nd l1 (.inl l2) (.inr l2)) h3, fun xs σ H Q z => ?_, ?_, ?_⟩
    · cases xs with
      | nil => exact z.elim
      | cons v xr => exact ⟨v, xr, rfl, h4 xr _ H Q z⟩
    · show (assignEach (ns.map fun x => Expr.Name x.1 x.2) X.env).length + 1 = _
      rw [h5]
      rfl
    · show ((false, assign (.Name x.1 x.2) X.env) :: assignEach (ns.map fun x => Expr.Name x.1 x.2) X.env).findIdx? (·.1) = none
      rw [List.findIdx?_cons, h6]
      rfl
omit O M in
theorem nms_eq : ∀ {ts : List Expr} {ns : List (Str × Pos)}, nms ts = some ns → ts = ns.map fun x => .Name x.1 x.2
  | [], ns, h => by cases h; rfl
  | t :: ts, ns, h => by
    obtain ⟨a, b, h1, h2, rfl⟩ := two_some (f := fun a b => a :: b) h
    rw [List.map_cons, ← nms_eq h2]
    congr 1
    cases t <;> cases h1
    rfl
omit M in
theorem tp_pg {ts : List Expr} {ns : List (Str × Pos)} {is : List Nat} {kt : Nat} {pt : Pos} (h1 : nms ts = some ns) (h2 : slots C ns = some is) : ∃ g : TG, PG X (.Tuple ts kt pt) g ∧ ∀ x σ H Q, gT S.so (.tp is) x σ H Q → g x σ H Q := by
  obtain ⟨t, h3, h4, h5, h6⟩ := slots_pgs O h2
  rw [nms_eq h1]
  refine ⟨_, pg_tup O.calm h3 h5 h6, fun x σ H Q z => ?_⟩
  unfold gT at z
  simp only at z
  split at z
  · split at z
    · rename_i e
      refine ⟨_, _, rfl, rd_tup O.G.so e, ?_, h4 _ _ _ _ z⟩
      unfold parK at z
      split at z
      · rename_i e2
        have key : ∀ {is : List Nat} {ns : List (Str × Pos)} {xs : List V} {σ σ' : St}, slots C ns = some is → setL is xs σ = some σ' → xs.length = ns.length := by
          intro is ns
          induction ns generalizing is with
          | nil =>
            intro xs σ σ' h e
            cases h
            cases xs with
            | nil => rfl
            | cons a r => cases e
          | cons y ns ih =>
            intro xs σ σ' h e
            obtain ⟨i, r, g1, g2, rfl⟩ := two_some (f := fun a b => a :: b) h
            cases xs with
            | nil => cases e
            | cons a r' => rw [List.length_cons, List.length_cons, ih g2 e]
        exact key h2 e2
      · exact z.elim
    · exact z.elim
  · exact z.elim
theorem forT_ok {g : TG} {tg : Tg} {t : Expr} {q : Pos} {it : Expr} {b : List Stmt} {e' : Ex} {b' : Sxs} (hg : PG X t g) (hgi : ∀ x σ H Q, gT S.so tg x σ H Q → g x σ H Q) (he : PE X it (wE S F W e')) (hb : PSs X b (wSs S F W b')) (hs : ∀ x, foldedSetIterable it X.env x = pure x) :
    PS X (.For t it b [] q) (wS S F W (.forL tg e' b')) := by
  have key : ∀ {a : Addr} {xs : List V} {D : Ends} {tb : TS} (m : TSle tb tb) (r : List V) (σ : St) (H : Hp), lpL S.so a xs (gT S.so tg) tb D r σ H → lpL S.so a xs g tb D r σ H := by
    intro a xs D tb m r
    induction r with
    | nil => exact fun σ H z => z
    | cons x r ih =>
      intro σ H z
      refine ⟨z.1, hgi _ _ _ _ (gT_mono (fun σ2 H2 z2 => ?_) z.2)⟩
      refine m _ _ _ _ ?_ z2
      exact ⟨ih, fun _ _ z => z, fun _ _ z => z, ih⟩
  refine PS.imp (ps_for O.po O.calm (pi_list he) hg hb hs) fun D σ H z => ?_
  rw [wS] at z
  refine wE_mono M e' (fun v H1 z1 => ?_) z
  unfold lstK at z1
  split at z1
  · split at z1
    · rename_i e
      exact ⟨_, rfl, ⟨_, rd_lst O.G.so e⟩, for_lst O.G.so (key (fun D D' σ H l z => wSs_mono M b' (fun _ _ _ _ z => z) D D' σ H l z) _ _ _ z1)⟩
    · exact z1.elim
  · exact z1.elim
theorem forL_ok {i : Nat} {x : Str} {p q : Pos} {it : Expr} {b : List Stmt} {e' : Ex} {b' : Sxs} (hi : locOf C x = some i) (he : PE X it (wE S F W e')) (hb : PSs X b (wSs S F W b')) (hs : ∀ x, foldedSetIterable it X.env x = pure x) :
    PS X (.For (.Name x p) it b [] q) (wS S F W (.forL (.nm i) e' b')) := by
  obtain ⟨nd, h1, h2, h3⟩ := O.loc hi
  exact forT_ok O M (pg_name nd h1 h2 h3) (fun _ _ _ _ z => z) he hb hs
omit O M in
theorem nmOf_eq {e : Expr} {x : Str × Pos} (h : nmOf e = some x) : e = .Name x.1 x.2 := by
  cases e <;> cases h
  rfl
omit O M in
theorem tupOf_eq {e : Expr} {vs : List Expr} (h : tupOf e = some vs) : ∃ k p, e = .Tuple vs k p := by
  cases e <;> cases h
  exact ⟨_, _, rfl⟩
omit O M in
theorem rngOf_eq {e : Expr} {as : List Expr} (h : rngOf C e = some as) : ∃ x p q, e = .Call (.Name x p) as [] q ∧ isRange C x = true := by
  cases e with
  | Call f bs ks q =>
    obtain ⟨h1, h2⟩ := if_some h
    cases h2
    split at h1
    · rename_i x e
      rw [nmOf_eq e]
      exact ⟨_, _, _, rfl, h1⟩
    · cases h1
  | _ => cases h
theorem rng_ok {n : Nat} (iE : ∀ e c, cE C n e = some c → PE X e (wE S F W c)) {x y : Str} {p py pc q : Pos} {as : List Expr} {b : List Stmt} {bo : Option Sxs} {c : Sx} (hb : ∀ b', bo = some b' → PSs X b (wSs S F W b')) (hr : isRange C y = true)
    (h : cRng C n (locOf C x) as bo = some c) : PS X (.For (.Name x p) (.Call (.Name y py) as [] pc) b [] q) (wS S F W c) := by
  obtain ⟨rfl, hg, hm⟩ := rng_name O M hr
  match as, h with
  | [a], h =>
    obtain ⟨i, a', b', h1, h2, h3, rfl⟩ := tri_some (f := fun i a b => Sx.rng i (.lit (.int 0)) a b) h
    obtain ⟨nd, l1, l2, l3⟩ := O.loc h1
    have hpg : PG X (.Name x p) (gName i) := pg_name nd l1 l2 l3
    have hpi := pi_rng1 (tg := .Name x p) (p := py) (pos := pc) hg hm (iE a a' h2) (cE_star h2)
    have hfs : ∀ u, foldedSetIterable (.Call (.Name "range" py) [a] [] pc) X.env u = pure u := fun _ => rfl
    have hf := ps_for (pos := q) O.po O.calm hpi hpg (hb b' h3) hfs
    refine PS.imp hf fun D σ H z => ?_
    rw [wS] at z
    unfold wE at z
    refine wE_mono M a' (fun v H1 z1 => ?_) z
    unfold intK at z1
    simp only at z1
    split at z1
    · exact ⟨_, rfl, for_rng z1⟩
    · exact z1.elim
  | [a, d], h =>
    obtain ⟨u, v, h0, h0', rfl⟩ := two_some (f := fun (u : Nat × Ex) (v : Ex × Sxs) => Sx.rng u.1 u.2 v.1 v.2) h
    obtain ⟨i, a', h1, h2, rfl⟩ := two_some (f := Prod.mk) h0
    obtain ⟨d', b', h3, h4, rfl⟩ := two_some (f := Prod.mk) h0'
    obtain ⟨nd, l1, l2, l3⟩ := O.loc h1
    have hpg : PG X (.Name x p) (gName i) := pg_name nd l1 l2 l3
    have hpi := pi_rng2 (tg := .Name x p) (p := py) (pos := pc) hg hm (iE a a' h2) (iE d d' h3) (cE_star h2) (cE_star h3)
    have hfs : ∀ u, foldedSetIterable (.Call (.Name "range" py) [a, d] [] pc) X.env u = pure u := fun _ => rfl
    have hf := ps_for (pos := q) O.po O.calm hpi hpg (hb b' h4) hfs
    refine PS.imp hf fun D σ H z => ?_
    rw [wS] at z
    refine wE_mono M a' (fun v H1 z1 => wE_mono M d' (fun w' H2 z2 => ?_) z1) z
    unfold intK at z2
    split at z2
    · split at z2
      · exact ⟨_, _, rfl, for_rng z2⟩
      · exact z2.elim
    · exact z2.elim
theorem for_ok {n : Nat} (iE : ∀ e c, cE C n e = some c → PE X e (wE S F W c)) {q : Pos} {t it : Expr} {b : List Stmt} {bo : Option Sxs} {c : Sx} (hb : ∀ b', bo = some b' → PSs X b (wSs S F W b')) (h : cFor C n t it bo = some c) :
    PS X (.For t it b [] q) (wS S F W c) := by
  unfold cFor at h
  cases e1 : nmOf t with
  | none =>
    rw [e1] at h
    simp only at h
    obtain ⟨hw, h⟩ := if_some h
    obtain ⟨is, e', b', h1, h2, h3, rfl⟩ := tri_some (f := fun is e b => Sx.forL (.tp is) e b) h
    obtain ⟨ns, h4, h5⟩ := bind_some h1
    obtain ⟨ts, h6, h7⟩ := bind_some h4
    obtain ⟨kt, pt, rfl⟩ := tupOf_eq h6
    obtain ⟨g, hg, hgi⟩ := tp_pg (kt := kt) (pt := pt) O h7 h5
    refine forT_ok O M hg hgi (iE _ _ h2) (hb b' h3) ?_
    cases it <;> first | exact fun _ => rfl | cases hw
  | some x =>
    rw [e1] at h
    rw [nmOf_eq e1]
    cases e2 : rngOf C it with
    | some as =>
      simp only [e2] at h
      obtain ⟨y, py, pc, rfl, hr⟩ := rngOf_eq e2
      exact rng_ok O M iE hb hr h
    | none =>
      simp only [e2] at h
      obtain ⟨hw, h⟩ := if_some h
      obtain ⟨i, e', b', h1, h2, h3, rfl⟩ := tri_some (f := fun i e b => Sx.forL (.nm i) e b) h
      refine forL_ok O M h1 (iE _ _ h2) (hb b' h3) ?_
      cases it <;> first | exact fun _ => rfl | cases hw
theorem asg1_ok {n : Nat} (iE : ∀ e c, cE C n e = some c → PE X e (wE S F W c)) {q : Pos} {t e : Expr} {c : Sx} (h : cAsg1 C n t e = some c) : PS X (.Assign [t] e q) (wS S F W c) := by
  cases t with
  | Name x p =>
    obtain ⟨hc, h⟩ := if_some h
    obtain ⟨i, e', h1, h2, rfl⟩ := two_some (f := Sx.asg) h
    exact set_ok O M hc h1 (iE e e' h2)
  | Subscript o i p =>
    obtain ⟨hc, h⟩ := if_some h
    simp only [Bool.and_eq_true] at hc
    obtain ⟨o', i', e', h1, h2, h3, rfl⟩ := tri_some (f := Sx.setI) h
    exact setI_ok O M hc.1 hc.2 (iE o o' h1) (iE i i' h2) (iE e e' h3)
  | Attribute o f p =>
    obtain ⟨hc, h⟩ := if_some h
    obtain ⟨o', e', h1, h2, rfl⟩ := two_some (f := fun o e => Sx.setF o f e) h
    exact setF_ok O M hc (iE o o' h1) (iE e e' h2)
  | Tuple ts kt pt =>
    change (match tupOf e with
      | some vs => (nms ts).bind fun u => cPar C n u vs
      | none => iff' (notComp e) (two ((nms ts).bind (slots C)) (cE C n e) .unp)) = some c at h
    cases h4 : tupOf e with
    | none =>
      rw [h4] at h
      simp only at h
      obtain ⟨hc, h⟩ := if_some h
      obtain ⟨is, e', h1, h2, rfl⟩ := two_some (f := Sx.unp) h
      obtain ⟨ns, h5, h6⟩ := bind_some h1
      obtain ⟨g, hg, hgi⟩ := tp_pg (kt := kt) (pt := pt) O h5 h6
      have hsw : swappedStores [.Tuple ts kt pt] e X.env = pure none := by cases e <;> first | rfl | cases h4
      refine PS.imp (ps_asg (iE e e' h2) hg (sole_no hc) hsw rfl) fun D σ H z => ?_
      rw [wS] at z
      exact wE_mono M e' (fun x H1 z1 => hgi _ _ _ _ z1) z
    | some vs =>
    rw [h4] at h
    simp only at h
    obtain ⟨ns, h3, h2⟩ := bind_some h
    obtain ⟨k2, p2, rfl⟩ := tupOf_eq h4
    have one : ∀ {ts : List Expr} {x : Str × Pos} {r : List (Str × Pos)}, nms ts = some (x :: r) → ∃ (t : Expr) (ts' : List Expr), ts = .Name x.1 x.2 :: ts' ∧ nms ts' = some r := by
      intro ts x r hh
      cases ts with
      | nil => cases hh
      | cons a as =>
        obtain ⟨y, z, g1, g2, g3⟩ := two_some (f := fun a b => a :: b) hh
        cases g3
        rw [nmOf_eq g1]
        exact ⟨a, as, rfl, g2⟩
    have nil : ∀ {ts : List Expr}, nms ts = some [] → ts = [] := by
      intro ts hh
      cases ts with
      | nil => rfl
      | cons a as =>
        obtain ⟨y, z, g1, g2, g3⟩ := two_some (f := fun a b => a :: b) hh
        cases g3
    match ns, vs, h2, h3 with
    | [x, y], [a, b], h2, h3 =>
      obtain ⟨_, t1, e1, g1⟩ := one h3
      obtain ⟨_, t2, e2, g2⟩ := one g1
      rw [e1, e2, nil g2]
      exact par2_ok O M iE h2
    | [x, y, z], [a, b, d], h2, h3 =>
      obtain ⟨_, t1, e1, g1⟩ := one h3
      obtain ⟨_, t2, e2, g2⟩ := one g1
      obtain ⟨_, t3, e3, g3⟩ := one g2
      rw [e1, e2, e3, nil g3]
      exact par3_ok O M iE h2
  | _ => cases h
theorem rai_ok {n : Nat} (iE : ∀ e c, cE C n e = some c → PE X e (wE S F W c)) {a b : Option Expr} {p : Pos} {c : Sx} (h : cRai C n a b = some c) : PS X (.Raise a b p) (wS S F W c) := by
  have nev : c = .never → PS X (.Raise a b p) (wS S F W c) := fun e => by
    subst e
    refine ⟨fun pins s σ H D I z => ?_⟩
    rw [wS] at z
    exact z.elim
  unfold cRai at h
  split at h
  · rename_i x pn e es pc
    cases eg : C.gl x with
    | xcl =>
      rw [eg] at h
      simp only at h
      obtain ⟨hg, h⟩ := if_some h
      obtain ⟨es', h1, rfl⟩ := map_some h
      have PAs := nCE_pa iE h1
      have st := nCE_star h1
      have hx := O.gl hg
      obtain ⟨D0, hdb, hm, hk⟩ := O.G.own x (.inl eg)
      refine ⟨fun pins s σ H D I z => ?_⟩
      rw [wS] at z
      have rr := ps_raise (pos := p) (t := fun σ H Q => wA S F W es' σ H fun vs H1 => raiV S x vs H1 Q) O.calm O.tk (e := .Call (.Name x pn) (e :: es) [] pc) fun pins s σ H Q I h => by
        refine wpAny_Call_Name_kw (ld_glob I hx hm ?_ hdb)
        refine PySem.W.callWith_K (h₀ := X.base) I.ok.mod.kin hk (thn (PAs.run pc pins s σ H _ I h) fun us s1 ⟨vs, H1, I1, r1, q1⟩ => ⟨I1.kIn, ?_⟩) (star_one (st e (List.mem_cons_self ..))) (star_no fun e he => st e (List.mem_cons_of_mem _ he))
        change raiV S x vs H1 Q at q1
        unfold raiV at q1
        split at q1
        · rename_i D1 g ex
          split at q1
          · rename_i v
            have T := O.G.xc x D1 (some g) eg ex
            have eD := T.at_
            rw [hm] at eD
            cases eD
            exact mkx_raise T (O.rm.mono (by omega)) O.gd I1 r1 fun d h1 h2 => q1 d h1 (so_none O.G.so h2)
          · exact q1.elim
        · exact q1.elim
      exact rr.run pins s σ H D I z
    | _ => rw [eg] at h; cases h; exact nev rfl
  · cases h; exact nev rfl
theorem aug_ok {n : Nat} (iE : ∀ e c, cE C n e = some c → PE X e (wE S F W c)) {t e : Expr} {o : Operator} {p : Pos} {c : Sx} (h : cAug C n t o e = some c) : PS X (.AugAssign t o e p) (wS S F W c) := by
  cases t with
  | Name x px =>
    obtain ⟨ho, h⟩ := if_some h
    obtain ⟨i, e', h1, h2, rfl⟩ := two_some (f := fun i e => Sx.aug i o e) h
    obtain ⟨nd, l1, l2, l3⟩ := O.loc h1
    simp only [Bool.or_eq_true, beq_iff_eq] at ho
    rcases ho with rfl | rfl
    · refine PS.imp (ps_aug nd l1 l2 (iE e e' h2) ip_add l3) fun D σ H z => ?_
      rw [wS] at z
      unfold varK at z
      split at z
      · rename_i v ev
        refine ⟨v, ev, wE_mono M e' (fun y H1 z1 => ?_) z⟩
        unfold augV at z1
        split at z1
        · exact ⟨_, _, rfl, rfl, z1⟩
        · rename_i hh; cases hh
        · exact z1.elim
      · exact z.elim
    · refine PS.imp (ps_aug nd l1 l2 (iE e e' h2) ip_sub l3) fun D σ H z => ?_
      rw [wS] at z
      unfold varK at z
      split at z
      · rename_i v ev
        refine ⟨v, ev, wE_mono M e' (fun y H1 z1 => ?_) z⟩
        unfold augV at z1
        split at z1
        · rename_i hh; cases hh
        · exact ⟨_, _, rfl, rfl, z1⟩
        · exact z1.elim
      · exact z.elim
  | _ => cases h
omit M in
theorem cls_names {x : Str} {T : Expr} (h : clsNm C T = some x) : ∃ p u, T = .Name x p ∧ ClsN X.mg x u ∧ ∀ (a : Addr) (pn : List (Addr × Obj)), Names (X.suite a pn) x u := by
  cases T with
  | Name y p =>
    obtain ⟨hb, h⟩ := if_some h
    cases h
    simp only [Bool.and_eq_true, Bool.or_eq_true, beq_iff_eq] at hb
    obtain ⟨hg, hk⟩ := hb
    obtain ⟨u, hu⟩ := O.G.cls x (by rcases hk with (h | h) | h; exact .inl h; exact .inr (.inl h); exact .inr (.inr h))
    refine ⟨p, u, rfl, hu, fun a pn => ⟨O.gl hg, hu.1, ?_⟩⟩
    rcases hu.2 with ⟨_, h⟩ | ⟨_, h1, h2, h3⟩
    · exact .inl h
    · exact .inr ⟨h1, h2, h3⟩
  | _ => cases h
omit M in
theorem clsNms_ok {cs : List Str} {T : Expr} (h : clsNms C T = some cs) : ∃ us, (∀ (a : Addr) (pn : List (Addr × Obj)), PXt (X.suite a pn) T us) ∧ ∀ (D : Addr) (b : Bool), isaAny S D cs = some b → PySem.W.exmAny X.K (.ref D) us = some b := by
  have step : ∀ {x : Str} {u : Value} {D : Addr} {b : Bool}, ClsN X.mg x u → S.isa D x = some b → PySem.W.exmOne X.K (.ref D) u = some b := fun {x u D b} hu e => ((O.G.isa D x b e).2 u hu).2
  have cons : ∀ {x : Str} {u : Value} {D : Addr} {cs : List Str} {us : List Value}, ClsN X.mg x u → (∀ b, isaAny S D cs = some b → PySem.W.exmAny X.K (.ref D) us = some b) → ∀ b, isaAny S D (x :: cs) = some b → PySem.W.exmAny X.K (.ref D) (u :: us) = some b := fun {x u D cs us} hu ih b e => by
    unfold isaAny at e
    split at e
    · rename_i b1 d1 e1 e2
      cases e
      unfold PySem.W.exmAny
      rw [step hu e1, ih d1 e2]
    · cases e
  have nil : ∀ {D : Addr} (b : Bool), isaAny S D [] = some b → PySem.W.exmAny X.K (.ref D) [] = some b := fun {D} b e => e
  unfold clsNms at h
  split at h
  · obtain ⟨x, h1, rfl⟩ := map_some h
    obtain ⟨p, u, e1, hu, hn⟩ := cls_names O h1
    cases e1
    exact ⟨[u], fun a pn => .one (hn a pn), fun D b e => cons hu nil b e⟩
  · obtain ⟨x, y, h1, h2, rfl⟩ := two_some (f := fun x y => [x, y]) h
    obtain ⟨p, u, rfl, hu, hn⟩ := cls_names O h1
    obtain ⟨p2, u2, rfl, hu2, hn2⟩ := cls_names O h2
    exact ⟨[u, u2], fun a pn => .two (hn a pn) (hn2 a pn), fun D b e => cons hu (cons hu2 nil) b e⟩
  · obtain ⟨x, y, z, h1, h2, h3, rfl⟩ := tri_some (f := fun x y z => [x, y, z]) h
    obtain ⟨p, u, rfl, hu, hn⟩ := cls_names O h1
    obtain ⟨p2, u2, rfl, hu2, hn2⟩ := cls_names O h2
    obtain ⟨p3, u3, rfl, hu3, hn3⟩ := cls_names O h3
    exact ⟨[u, u2, u3], fun a pn => .three (hn a pn) (hn2 a pn) (hn3 a pn), fun D b e => cons hu (cons hu2 (cons hu3 nil)) b e⟩
  · cases h
omit O M in
theorem asgNm_eq {su : List Stmt} {u : Str × Str} (h : asgNm su = some u) : ∃ p q r, su = [.Assign [.Name u.1 p] (.Name u.2 q) r] := by
  unfold asgNm at h
  split at h
  · cases h
    exact ⟨_, _, _, rfl⟩
  · cases h
theorem PS.nok {st : Stmt} {t : TS} (h : PS X st t) : PS X st (fun D σ H => t { D with nx := fun σ H => NoK S.so H → D.nx σ H } σ H) := ⟨fun pins s σ H D I z =>
  wpAny_mono (h.run pins s σ H _ I z) (fun f s1 hs => by
    cases f with
    | next => obtain ⟨σ', H', J, q⟩ := hs; exact ⟨σ', H', J, q (nok_of O.G.so J)⟩
    | brk => exact hs
    | cont => exact hs
    | ret u => exact hs) fun _ _ x => x⟩
theorem try_ok {n : Nat} (ihb : ∀ {X : Cx} {W : WX}, Ok X S F k C W → ∀ st c, cS C n st = some c → PS X st (wS S F W c)) {b : List Stmt} {hs : List ExceptHandler} {p : Pos} {c : Sx} (h : cTry C (nCS (cS C n) b) hs = some c) : PS X (.Try b hs [] [] p) (wS S F W c) := by
  unfold cTry at h
  split at h
  · rename_i T nm su ph
    obtain ⟨u, h1, h2⟩ := bind_some h
    obtain ⟨p1, p2, p3, rfl⟩ := asgNm_eq h1
    obtain ⟨hb, h2⟩ := if_some h2
    simp only [Bool.and_eq_true, beq_iff_eq, Bool.not_eq_true', beq_eq_false_iff_ne] at hb
    obtain ⟨⟨e1, e2⟩, e3⟩ := hb
    obtain ⟨a, s, h3, h4, rfl⟩ := two_some (f := fun (a : Sxs × List Str) (s : Nat × Nat) => Sx.trx a.1 a.2 s.1 s.2) h2
    obtain ⟨b', cs, h5, h6, rfl⟩ := two_some (f := Prod.mk) h3
    obtain ⟨i, j, h7, h8, rfl⟩ := two_some (f := Prod.mk) h4
    obtain ⟨l1, l2⟩ := O.loc1 h7
    obtain ⟨l3, l4⟩ := O.loc1 h8
    obtain ⟨us, hT, hx⟩ := clsNms_ok O h6
    obtain ⟨d1, d2⟩ := okN_d e3
    have nd : X.N.Nodup := by rw [O.N]; exact O.nd
    rw [e1]
    have body : ∀ (W' : WX) (pn : List (Addr × Obj)) (xe : Value → Shared → Prop), Takes (X.tr pn xe) W' → PassesOwn (model X.prog X.w) X.A X.env xe → PSs (X.tr pn xe) b (wSs S F W' b') := fun W' pn xe tk po => by
      have O' : Ok (X.tr pn xe) S F k C W' := ⟨O.G, O.N, O.nd, O.sc, O.calm, O.gd, O.rm, tk, O.kd, po, O.cf, O.stk, O.frm, O.exn⟩
      exact nCS_ok O' M (ihb O') h5
    have t := ps_trx (py := p1) (pn' := p2) (pa := p3) (ph := ph) (pos := p) O.stk O.frm O.exn nd l1 l2 l3 l4 (nd_ne l1 l3 (Ne.symm e2)) d1 d2 hT body
    refine PS.imp (PS.nok O M t) fun D σ H z => ?_
    rw [wS] at z
    refine wSs_mono M b' (fun cls d σ' H' ⟨C', ec, g1, g2⟩ => ⟨C', ec, ?_, fun a ha nk => g2 a ha (nok_upd nk)⟩) _ _ _ _ ⟨fun _ _ z _ => z, fun _ _ z => z, fun _ _ z => z, fun _ _ z => z⟩ z
    rw [ec]
    exact hx C' true g1
  · cases h
end
section
variable {S : Stat} {F : Sm} {k : Nat} {C : CI} (M : SmMono F)
include M
theorem cS_ok : ∀ (n : Nat) {X : Cx} {W : WX}, Ok X S F k C W → ∀ (st : Stmt) (c : Sx), cS C n st = some c → PS X st (wS S F W c) := by
  intro n
  induction n with
  | zero => intro X W O st c h; cases h
  | succ n ihb =>
    intro X W O st c h
    have ih : ∀ st c, cS C n st = some c → PS X st (wS S F W c) := ihb O
    obtain ⟨iE, iO, iT⟩ := cE_ok O M n
    cases st with
    | Assign ts e q =>
      change cAsg C n ts e = some c at h
      cases ts with
      | nil => cases h
      | cons t ts =>
        cases ts with
        | nil => exact asg1_ok O M iE h
        | cons t2 ts => cases h
    | Expr e p =>
      obtain ⟨hc, h⟩ := if_some h
      obtain ⟨e', h1, rfl⟩ := map_some (f := Sx.exp) h
      refine PS.imp (ps_expr (iE e e' h1) (swaps_no hc)) fun D σ H z => ?_
      rw [wS] at z
      exact z
    | Return v p =>
      cases v with
      | some e =>
        obtain ⟨e', h1, rfl⟩ := map_some (f := Sx.ret) h
        refine PS.imp (ps_ret (iE e e' h1)) fun D σ H z => ?_
        rw [wS] at z
        exact z
      | none =>
        cases h
        refine PS.imp ps_retN fun D σ H z => ?_
        rw [wS] at z
        exact z
    | If t a b p =>
      obtain ⟨t', a', b', h1, h2, h3, rfl⟩ := tri_some (f := Sx.ifs) h
      refine PS.imp (ps_if (iT t t' h1) (nCS_ok O M ih h2) (nCS_ok O M ih h3)) fun D σ H z => ?_
      rw [wS] at z
      exact z
    | For t it b o q =>
      obtain ⟨ho, h⟩ := if_some h
      cases o with
      | cons _ _ => cases ho
      | nil => exact for_ok O M iE (fun b' hb => nCS_ok O M ih hb) h
    | While t b o p =>
      obtain ⟨ho, h⟩ := if_some h
      cases o with
      | cons _ _ => cases ho
      | nil =>
        obtain ⟨t', b', h1, h2, rfl⟩ := two_some (f := Sx.whl) h
        refine PS.imp (ps_while O.po (iT t t' h1) (nCS_ok O M ih h2)) fun D σ H z => ?_
        rw [wS] at z
        refine ⟨fun m σ H => lpW (wT S F W t') (wSs S F W b') D m σ H, z, fun m σ H z1 => ?_⟩
        cases m with
        | zero => exact z1.elim
        | succ m =>
          refine wT_mono M t' (fun kk H1 z2 => ?_) z1
          cases kk with
          | true => exact ⟨lpW (wT S F W t') (wSs S F W b') D m, fun σ' H' z3 => ⟨m, Nat.lt_succ_self m, z3⟩, z2⟩
          | false => exact z2
    | Pass p =>
      cases h
      refine PS.imp ps_pass fun D σ H z => ?_
      rw [wS] at z
      exact z
    | Raise a b p => exact rai_ok O M iE h
    | AugAssign t o e p => exact aug_ok O M iE h
    | Try b hs o f p =>
      obtain ⟨ho, h⟩ := if_some h
      simp only [Bool.and_eq_true] at ho
      cases o with
      | cons _ _ => exact absurd ho.1 Bool.false_ne_true
      | nil =>
        cases f with
        | cons _ _ => exact absurd ho.2 Bool.false_ne_true
        | nil => exact try_ok O M (fun O' => ihb O') h
    | _ => cases h
end
end QL
set_option Elab.async false
set_option linter.all false
set_option maxRecDepth 100000
set_option maxHeartbeats 4000000
/-! Q12: defs by levels, and the end of a law. -/
namespace QL
open PySem PySem.Spec L2
open PyProof.Rows hiding St
structure FnI where
  N : List Str
  np : Nat
  body : Sxs
/-- what the defs do, calls nested at most so deep -/
def sem (S : Stat) (T : Str → Option FnI) : Nat → Sm
  | 0 => ⟨fun _ _ _ _ _ => False⟩
  | n + 1 => ⟨fun f vs H Q E => match T f with
    | some fi => vs.length = fi.np ∧ wSs S (sem S T n) (fun c d _ H' => E c d H') fi.body { nx := fun _ H' => Q .non H', rt := Q } (L2.start fi.N vs) H
    | none => False⟩
theorem sem_mono (S : Stat) (T : Str → Option FnI) : ∀ n, SmMono (sem S T n)
  | 0 => fun _ _ _ _ _ _ _ _ _ h => h.elim
  | n + 1 => fun f vs H Q Q' E E' q e h => by
    unfold sem at h ⊢
    simp only at h ⊢
    split at h
    · refine ⟨h.1, wSs_mono (sem_mono S T n) _ (W := fun c d _ H' => E c d H') (fun c d σ H' z => e c d H' z) _ _ _ _ ?_ h.2⟩
      exact ⟨fun _ H' z => q _ _ z, q, fun _ _ z => z, fun _ _ z => z⟩
    · exact h.elim
/-- a def of the text, turned: its name, its qualified name -/
structure DefB (K : PySem.W.Frag) (gl : Str → Gk) (nm q : Str) (fi : FnI) (st : Stmt) (f : Addr) (fd : FuncData) (ps : List Str) : Prop where
  fn : ∃ dvs kws, FunD K nm q (defArgs st) (defBody st) (defScope st) dvs kws f fd
  sc : FnScope fi.N ps (defScope st)
  np : ps.length = fi.np
  tr : nCS (cS ⟨fi.N, defScope st, gl⟩ 60) (defBody st) = some fi.body
/-- a def of the module -/
structure Def1 (K : PySem.W.Frag) (mg : Str → Option Value) (gl : Str → Gk) (x : Str) (fi : FnI) (st : Stmt) (f : Addr) (fd : FuncData) (ps : List Str) : Prop where
  df : DefB K gl x x fi st f fd ps
  mg : mg x = some (.ref f)
  bd : Binds K fd ps []
  nm : (x == ("__debug__" : Str)) = false
/-- what a name of the module is -/
def Fact (K : PySem.W.Frag) (mg : Str → Option Value) (S : Stat) (T : Str → Option FnI) (gl : Str → Gk) (x : Str) : Gk → Prop
  | .fn => ∃ fi st f fd ps, T x = some fi ∧ Def1 K mg gl x fi st f fd ps
  | .cst => ∀ v, S.gv x = some v → ∃ u, mg x = some u ∧ RelV v u
  | .bi b => x = biN b ∧ mg x = none
  | .isi => x = "isinstance" ∧ mg x = none
  | .xcl => ∃ C, (x == ("__debug__" : Str)) = false ∧ mg x = some (.ref C) ∧ PySem.W.keepIn K (.ref C) = true
  | .ocl => ∃ C, (x == ("__debug__" : Str)) = false ∧ mg x = some (.ref C) ∧ PySem.W.keepIn K (.ref C) = true
  | .bxc => ∃ T, (x == ("__debug__" : Str)) = false ∧ mg x = none ∧ bootBuiltins x = some (.type T) ∧ x ≠ "__name__"
  | .no => True
def AllF (f : Str → Gk → Prop) : List (Str × Gk) → Prop
  | [] => True
  | (x, g) :: r => f x g ∧ AllF f r
theorem AllF.at {f : Str → Gk → Prop} {x : Str} {g : Gk} : ∀ {l : List (Str × Gk)}, AllF f l → l.lookup x = some g → f x g
  | [], _, h => by cases h
  | (y, k) :: r, a, h => by
    rw [List.lookup_cons] at h
    split at h
    · rename_i e
      cases h
      have : x = y := by simpa using e
      rw [this]
      exact a.1
    · exact a.2.at h
/-- how values come to the parameters of a def that is called with so many values, keywords among them -/
def BindK (K : PySem.W.Frag) (fd : FuncData) (ps : List Str) (n : Nat) (ks : List Str) (pm : List (Nat ⊕ V)) : Prop :=
  ∀ (vs ws : List V) (us : List Value), Vals vs us → vs.length = n → pmV pm vs = some ws → ∃ full : List Value, Vals ws full ∧ ∀ (s : Shared) (a : Value), K.In s.heap → BindsTo s fd ⟨a :: us.take (n - ks.length), ks.zip (us.drop (n - ks.length))⟩ (ps.zip (a :: full))
/-- the module behind the top -/
structure Top (K : PySem.W.Frag) (mg : Str → Option Value) (S : Stat) (T : Str → Option FnI) (gl : Str → Gk) : Prop where
  so : SoOk K S.so
  fl : ∀ C f, S.fl C f → Cls K C ∧ NoAttr K C f
  at_ : ∀ x, Fact K mg S T gl x (gl x)
  rng : gl "range" = .no → mg "range" = none
  xc : ∀ x C f, gl x = .xcl → S.xc x = some (C, f) → ∀ (P : Program) (w : World) (base : Heap), Xk P w K mg base x C f
  isa : ∀ C c b, S.isa C c = some b → XvC K C ∧ ∀ u, ClsN mg c u → PySem.W.kitOne K (.ref C) u = some b ∧ PySem.W.exmOne K (.ref C) u = some b
  iso : ∀ C c b, S.iso C c = some b → OcC K C ∧ ∀ u, ClsN mg c u → PySem.W.kitOne K (.ref C) u = some b
  isb : ∀ c, S.isb c = true → ∀ u, ClsN mg c u → ∀ T ∈ bTs, PySem.W.kitOne K (.type T) u = some false
  xf : ∀ C f, S.xf C f → XvC K C ∧ PySem.W.findIn K (.ref C) f = some none
  mt : ∀ C m g, S.mt C m = some g → Cls K C ∧ ∃ fi nm q st f fd ps, T g = some fi ∧ Meth K C m f ∧ DefB K gl nm q fi st f fd ps ∧ Binds K fd ps []
  mkc : ∀ x n ks C g pm, gl x = .ocl → S.mkc x n ks = some (C, g, pm) → (x == ("__debug__" : Str)) = false ∧ mg x = some (.ref C) ∧ ∃ fi nm q st f fd ps, T g = some fi ∧ Mk K C f ∧ DefB K gl nm q fi st f fd ps ∧ BindK K fd ps n ks pm
section
variable {P : Program} {w : World} {K : PySem.W.Frag} {mg : Str → Option Value} {base : Heap} {S : Stat} {T : Str → Option FnI} {gl : Str → Gk}
theorem Top.fng (G : Top K mg S T gl) : ∀ (n : Nat) (g nm q : Str) (fi : FnI) (st : Stmt) (f : Addr) (fd : FuncData) (ps : List Str), T g = some fi → DefB K gl nm q fi st f fd ps → FnG P w K mg base (2 * n + 1) f fd ps ((sem S T n).fn g)
  | 0, g, nm, q, fi, st, f, fd, ps, hx, D => ⟨fun _ _ _ _ z => z.elim, fun _ _ _ _ _ _ _ _ _ _ _ _ _ _ z => z.elim⟩
  | n + 1, g, nm, q, fi, st, f, fd, ps, hx, D => by
    obtain ⟨dvs, kws, ⟨oc, od, dV, kV, doc, pm, an, cdv, ct, osl, rfl, lk, hcd, _, _⟩, _⟩ := D.fn
    have len : ∀ vs H Q E, (sem S T (n + 1)).fn g vs H Q E → vs.length = ps.length := fun vs H Q E z => by
      unfold sem at z
      simp only [hx] at z
      rw [D.np]
      exact z.1
    refine fng_of (k := 2 * n + 2) lk hcd D.sc len fun A outer s H vs Q E hg hr z => ?_
    unfold sem at z
    simp only [hx] at z
    have GO : GOk P w K mg base S (sem S T n) n gl := {
      so := G.so
      fl := G.fl
      fn := fun y hy => by
        have q := G.at_ y
        rw [hy] at q
        obtain ⟨fi', st', f', fd', ps', h1, h2⟩ := q
        obtain ⟨_, _, hF⟩ := h2.df.fn
        exact ⟨f', fd', ps', h2.nm, h2.mg, hF.kp, Top.fng G n y _ _ fi' st' f' fd' ps' h1 h2.df, h2.bd⟩
      cst := fun y v hy => by
        have q := G.at_ y
        rw [hy] at q
        exact q v
      bi := fun y b hy => by
        have q := G.at_ y
        rw [hy] at q
        exact q
      isi := fun y hy => by
        have q := G.at_ y
        rw [hy] at q
        exact q
      rng := G.rng
      cls := fun y hy => by
        have q := G.at_ y
        rcases hy with hy | hy | hy
        · rw [hy] at q
          obtain ⟨C, h1, h2, _⟩ := q
          exact ⟨.ref C, h1, .inl ⟨⟨C, rfl⟩, h2⟩⟩
        · rw [hy] at q
          obtain ⟨C, h1, h2, _⟩ := q
          exact ⟨.ref C, h1, .inl ⟨⟨C, rfl⟩, h2⟩⟩
        · rw [hy] at q
          obtain ⟨T, h1, h2, h3, h4⟩ := q
          exact ⟨.type T, h1, .inr ⟨⟨T, rfl⟩, h2, h3, h4⟩⟩
      own := fun y hy => by
        have q := G.at_ y
        rcases hy with hy | hy
        · rw [hy] at q
          exact q
        · rw [hy] at q
          exact q
      xc := fun x C f h1 h2 => G.xc x C f h1 h2 P w base
      isa := G.isa
      iso := G.iso
      isb := G.isb
      xf := G.xf
      mt := fun C m g' h => by
        obtain ⟨c, fi', nm', q', st', f', fd', ps', h1, h2, h3, h4⟩ := G.mt C m g' h
        exact ⟨c, f', fd', ps', h2, Top.fng G n g' nm' q' fi' st' f' fd' ps' h1 h3, h4⟩
      mkc := fun x k ks C g' pm' h h' => by
        obtain ⟨c1, c2, fi', nm', q', st', f', fd', ps', h1, h2, h3, h4⟩ := G.mkc x k ks C g' pm' h h'
        exact ⟨c1, c2, f', fd', ps', h2, Top.fng G n g' nm' q' fi' st' f' fd' ps' h1 h3, h4⟩ }
    have O : Ok (cxOf (L2.CX P w) P w K mg base fi.N q (defScope st) f cdv A outer s H E) S (sem S T n) n ⟨fi.N, defScope st, gl⟩ (fun c d _ H' => E c d H') :=
      ⟨GO, rfl, D.sc.nd, rfl, rfl, hg, hr, takes_of rfl rfl rfl rfl, D.sc.kind, passes_of rfl, fun _ _ => rfl, rfl, rfl, rfl⟩
    exact ⟨_, nCS_ok O (sem_mono S T n) (cS_ok (sem_mono S T n) 60 O) D.tr, z.2⟩
end
/-! ### the end of a law -/
theorem ints_vals : ∀ {vs : List Value} {ns : List Int}, IntsAre vs ns → Vals (ns.map V.int) vs
  | _, _, .nil => .nil
  | _, _, .cons n t h => .cons ⟨t, rfl⟩ (ints_vals h)
section
variable {P : Program} {w : World} {K : PySem.W.Frag} {mg mb : Str → Option Value} {k : Nat} {fa a : Addr} {fd : FuncData} {x : Str} {sp : Sp} {s1 : Shared} {vs : List Value} {ns : List Int}
/-- the law's def called with the script, over one abstract heap that tracks at most the script -/
theorem law_at (KX : K.In s1.heap) (hns : s1.heap.Ns mainGlobals mg) (hb : s1.heap.Ns builtinsNs mb) (hbb : ∀ x : Str, x ≠ "__name__" → mb x = bootBuiltins x) (hlim : s1.heap.NoLimit) (hg : s1.gens = #[])
    (ha : s1.heap.get? a = some { cls := .type "list", data := .seq vs.toArray }) (hr : Room k callerA)
    (F : ∀ base : Heap, K.In base → base.Ns mainGlobals mg → FnG P w K mg base k fa fd [x] sp) (hbind : ∀ (s : Shared) (u : Value), BindsTo s fd ⟨[u], []⟩ [(x, u)])
    (H : Hp) (hA : ∀ b, H b ≠ none → b = a ∧ ∃ o u, H b = some (.frz o u)) (hK : H a ≠ none → K.lookup a = none) (hok : HOk P w H s1.heap) (hsp : sp [.ref a] H (fun v _ => v = .bl true) fun _ _ _ => False) :
    codeAny (model P w) callerA (.call (.ref fa) ⟨[.ref a], []⟩) (fun r s' => r = .ok (.ret (.bool true)) ∧ OldK s1.heap s'.heap ∧ s'.os = s1.os ∧ AllBare s'.gens) s1 := by
  have ns' : ∀ {b : Addr} {m : Str → Option Value}, s1.heap.Ns b m → (hidT s1.heap H).Ns b m := by
    rintro b m ⟨o, es, ep, e, d, r⟩
    refine ⟨o, es, ep, hidT_get e ?_, d, r⟩
    cases q : H b with
    | none => rfl
    | some u =>
      obtain ⟨rfl, _⟩ := hA b (by rw [q]; simp)
      rw [ha] at e
      cases e
      cases d
  have kIn : K.In (hidT s1.heap H) := fun b o e => hidT_get (KX b o e) (by
    cases q : H b with
    | none => rfl
    | some u =>
      obtain ⟨rfl, _⟩ := hA b (by rw [q]; simp)
      rw [hK (by rw [q]; simp)] at e
      cases e)
  have hM : Mod K mg (hidT s1.heap H) := ⟨kIn, ns' hns, ⟨mb, ns' hb, hbb⟩, let ⟨mc, h1, h2⟩ := hlim; ⟨mc, ns' h1, h2⟩⟩
  have e0 : Env0 P w K mg (hidT s1.heap H) callerA [] s1 H := ⟨rfl, hM, fun b o e => of_hidT e, Nat.le_of_eq (hidT_size _ _), trivial, (fun b hb => by cases hb), hok, .of_eq hg⟩
  refine codeAny_mono ((F _ kIn (ns' hns)).run callerA [] s1 H ⟨[.ref a], []⟩ [.ref a] [.ref a] _ _ rfl hr e0 (hbind s1 (.ref a)) (.cons rfl .nil) hsp) fun r s' h => ?_
  match r, h with
  | .error e, h =>
    obtain ⟨_, _, _, _, _, _, _, _, _, _, _, _, z⟩ := h
    exact z.elim
  | .ok .next, h => exact h.elim
  | .ok .brk, h => exact h.elim
  | .ok .cont, h => exact h.elim
  | .ok (.ret u), ⟨v, H', os, bare, un, hok', r', q⟩ =>
    have q : v = .bl true := q
    subst q
    obtain rfl : u = Value.bool true := r'
    refine ⟨rfl, OldK.of_keep fun b o e => ?_, os, bare⟩
    cases q : H b with
    | none => exact un.keep b o e q (by intro z; cases z) (by simp)
    | some u =>
      obtain ⟨_, ob, u', z⟩ := hA b (by rw [q]; simp)
      obtain ⟨e1, _⟩ := hok b _ z
      obtain ⟨e2, _⟩ := hok' b _ (un.frzs b ob _ z)
      rw [e] at e1
      cases e1
      exact e2
/-- what so0 tells, so tells -/
def SoLe (so0 so : Addr → Option HO) : Prop := ∀ b xs, so0 b = some (.tup xs) → so b = some (.tup xs)
theorem law_end {so0 : Addr → Option HO} {sp : (Addr → Option HO) → Sp} (S0 : SoOk K so0) (KX : K.In s1.heap) (hns : s1.heap.Ns mainGlobals mg) (hb : s1.heap.Ns builtinsNs mb) (hbb : ∀ x : Str, x ≠ "__name__" → mb x = bootBuiltins x) (hlim : s1.heap.NoLimit) (hg : s1.gens = #[])
    (ha : s1.heap.get? a = some { cls := .type "list", data := .seq vs.toArray }) (hi : IntsAre vs ns) (hl : ns.length ≤ sizeLine) (hr : Room k callerA)
    (F : ∀ so, SoOk K so → SoLe so0 so → ∀ base : Heap, K.In base → base.Ns mainGlobals mg → FnG P w K mg base k fa fd [x] (sp so)) (hbind : ∀ (s : Shared) (u : Value), BindsTo s fd ⟨[u], []⟩ [(x, u)])
    (hsp : ∀ (so : Addr → Option HO) (H : Hp), SoLe so0 so → rd so H a = some (.lst (ns.map V.int)) → (∀ b, b ≠ a → H b = none) → (∀ o, H a = some o → ∃ x u, o = .frz x u) → sp so [.ref a] H (fun v _ => v = .bl true) fun _ _ _ => False) :
    codeAny (model P w) callerA (.call (.ref fa) ⟨[.ref a], []⟩) (fun r s' => r = .ok (.ret (.bool true)) ∧ OldK s1.heap s'.heap ∧ s'.os = s1.os ∧ AllBare s'.gens) s1 := by
  have rv := ints_vals hi
  have lenV := hi.length
  cases hk : K.lookup a with
  | some o =>
    have e := KX a o hk
    rw [ha] at e
    cases e
    have S1 : SoOk K (fun b => if b = a then some (.lst (ns.map V.int)) else so0 b) := fun b u h => by
      by_cases q : b = a
      · have h' := (if_pos q).symm.trans h
        cases h'
        subst q
        exact ⟨_, vs.toArray, _, hk, rfl, rfl, rfl, by rw [List.size_toArray, lenV]; exact hl, by simpa using rv⟩
      · have h' : so0 b = some u := (if_neg q).symm.trans h
        exact S0 b u h'
    have L1 : SoLe so0 (fun b => if b = a then some (.lst (ns.map V.int)) else so0 b) := fun b xs h => by
      by_cases q : b = a
      · subst q
        obtain ⟨o, its, n, h1, h2, _⟩ := S0 b _ h
        rw [hk] at h1
        cases h1
        have h2' : Value.type "list" = Value.type "tuple" := h2
        injection h2' with h2'
        exact absurd h2' (by decide)
      · show (if b = a then _ else _) = _
        rw [if_neg q]
        exact h
    refine law_at (sp := sp _) KX hns hb hbb hlim hg ha hr (F _ S1 L1) hbind (fun _ => none) (fun b h => absurd rfl h) (fun h => absurd rfl h) (fun b o h => by cases h) (hsp _ _ L1 ?_ (fun b _ => rfl) fun o h => by cases h)
    show (if a = a then _ else _) = _
    rw [if_pos rfl]
  | none =>
    refine law_at (sp := sp so0) KX hns hb hbb hlim hg ha hr (F so0 S0 fun b xs h => h) hbind (fun b => if b = a then some (.frz { cls := .type "list", data := .seq vs.toArray } (.lst (ns.map V.int))) else none) ?_ (fun _ => hk) ?_ (hsp so0 _ (fun b xs h => h) ?_ (fun b hb => if_neg hb) ?_)
    · intro b h
      by_cases e : b = a
      · exact ⟨e, _, _, if_pos e⟩
      · exact absurd (if_neg e) h
    · intro b o h
      by_cases e : b = a
      · have h' := (if_pos e).symm.trans h
        cases h'
        subst e
        exact ⟨ha, by rw [List.length_map]; exact hl, vs, _, rv, ha⟩
      · have h' := (if_neg e).symm.trans h
        cases h'
    · unfold rd
      simp
    · intro o h
      have h' := (if_pos rfl).symm.trans h
      cases h'
      exact ⟨_, _, rfl⟩
end
/-- the goal that the head leaves, from the promise of the law's def -/
theorem walk_g {l : PySem.W.OpenLaw} {n k : Nat} {q : Program} {loose : List Str} {XP : (Str → Option Value) → Heap → Prop} {YP : World → Heap → Prop} {d : DefRec} {K : Params → PySem.W.Frag} {x : Str}
    (hn : l.most = some n) (hn2 : n ≤ sizeLine) (hdf : d.params.defaults = []) (hr : Room k callerA) (hY : ∀ (w : World) (h : Heap), YP w h → (K w.params).In h)
    (F : ∀ (w : World) (mg : Str → Option Value) (fa : Addr) (h : Heap), (K w.params).In h → h.Ns mainGlobals mg → mg d.name = some (.ref fa) →
      ∃ (so0 : Addr → Option HO) (sp : (Addr → Option HO) → Sp) (fd : FuncData), SoOk (K w.params) so0 ∧ (∀ (s : Shared) (u : Value), BindsTo s fd ⟨[u], []⟩ [(x, u)]) ∧
        (∀ so, SoOk (K w.params) so → SoLe so0 so → ∀ base : Heap, (K w.params).In base → base.Ns mainGlobals mg → FnG l.prog w (K w.params) mg base k fa fd [x] (sp so)) ∧
        ∀ (a : Addr) (ns : List Int) (so : Addr → Option HO) (H : Hp), ns.length ≤ n → SoLe so0 so → rd so H a = some (.lst (ns.map V.int)) → (∀ b, b ≠ a → H b = none) → (∀ o, H a = some o → ∃ x u, o = .frz x u) → sp so [.ref a] H (fun v _ => v = .bl true) fun _ _ _ => False) :
    PySem.W.WalkO q loose XP YP l.row.toRowW d [] (fun f vs => PySem.call f vs) := by
  refine Att.attach_call hn hdf fun w s₀ s₁ mg mb fa o pm cd doc a vs ns G Y ho hd hcd hmg hobj hints hlen hg => ?_
  have KX := hY w _ Y
  obtain ⟨so0, sp, fd, S0, hb, hF, hs⟩ := F w mg fa _ KX G.T.g hmg
  exact law_end S0 KX G.T.g G.T.b G.T.builtins G.T.nolimit hg hobj hints (Nat.le_trans hlen hn2) hr hF hb fun so H h1 h2 h3 h4 => hs a ns so H hlen h1 h2 h3 h4
/-- the same over a head by facts -/
theorem walk_h {l : PySem.W.OpenLaw} {n k : Nat} {q : Program} {loose : List Str} {XP : (Str → Option Value) → Heap → Prop} {YP : World → Heap → Prop} {d : DefRec} {x : Str}
    (hn : l.most = some n) (hn2 : n ≤ sizeLine) (hdf : d.params.defaults = []) (hr : Room k callerA)
    (F : ∀ (w : World) (mg : Str → Option Value) (fa : Addr) (h : Heap), YP w h → h.Ns mainGlobals mg → mg d.name = some (.ref fa) →
      ∃ (K : PySem.W.Frag) (so0 : Addr → Option HO) (sp : (Addr → Option HO) → Sp) (fd : FuncData), K.In h ∧ SoOk K so0 ∧ (∀ (s : Shared) (u : Value), BindsTo s fd ⟨[u], []⟩ [(x, u)]) ∧
        (∀ so, SoOk K so → SoLe so0 so → ∀ base : Heap, K.In base → base.Ns mainGlobals mg → FnG l.prog w K mg base k fa fd [x] (sp so)) ∧
        ∀ (a : Addr) (ns : List Int) (so : Addr → Option HO) (H : Hp), ns.length ≤ n → SoLe so0 so → rd so H a = some (.lst (ns.map V.int)) → (∀ b, b ≠ a → H b = none) → (∀ o, H a = some o → ∃ x u, o = .frz x u) → sp so [.ref a] H (fun v _ => v = .bl true) fun _ _ _ => False) :
    PySem.W.WalkO q loose XP YP l.row.toRowW d [] (fun f vs => PySem.call f vs) := by
  refine Att.attach_call hn hdf fun w s₀ s₁ mg mb fa o pm cd doc a vs ns G Y ho hd hcd hmg hobj hints hlen hg => ?_
  obtain ⟨K, so0, sp, fd, KX, S0, hb, hF, hs⟩ := F w mg fa _ Y G.T.g hmg
  exact law_end S0 KX G.T.g G.T.b G.T.builtins G.T.nolimit hg hobj hints (Nat.le_trans hlen hn2) hr hF hb fun so H h1 h2 h3 h4 => hs a ns so H hlen h1 h2 h3 h4
end QL
set_option Elab.async false
set_option linter.all false
set_option maxRecDepth 100000
set_option maxHeartbeats 4000000
/-! Q13: heaps that grow, loops by what holds between two turns. -/
namespace QL
open PySem PySem.Spec
open L2 hiding wE wT
open PyProof.Rows hiding St
/-- all that was tracked stays, nothing written is tracked -/
structure Ext (so : Addr → Option HO) (H H' : Hp) : Prop where
  keep : ∀ b o, H b = some o → H' b = some o
  no : ∀ b, H b = none → so b ≠ none → H' b = none
section
variable {so : Addr → Option HO} {H H1 H2 : Hp}
theorem Ext.refl : Ext so H H := ⟨fun _ _ h => h, fun _ h _ => h⟩
theorem Ext.trans (a : Ext so H H1) (b : Ext so H1 H2) : Ext so H H2 := ⟨fun c o h => b.keep c o (a.keep c o h), fun c h s => b.no c (a.no c h s) s⟩
theorem Ext.new {p : Addr} {o : HO} (hp : H p = none) (hs : so p = none) : Ext so H (upd H p o) :=
  ⟨fun b u h => by rw [upd_ne (ne_of_none h hp)]; exact h, fun b h s => by
    have : b ≠ p := fun e => s (by rw [e]; exact hs)
    rw [upd_ne this]
    exact h⟩
/-- a new thing, changed -/
theorem Ext.chg {p : Addr} {o : HO} (e : Ext so H H1) (hp : H p = none) (hs : so p = none) : Ext so H (upd H1 p o) :=
  ⟨fun b u h => by rw [upd_ne (ne_of_none h hp)]; exact e.keep b u h, fun b h s => by
    have : b ≠ p := fun q => s (by rw [q]; exact hs)
    rw [upd_ne this]
    exact e.no b h s⟩
theorem Ext.rd {a : Addr} {o : HO} (e : Ext so H H1) (h : rd so H a = some o) : rd so H1 a = some o := by
  unfold QL.rd at h ⊢
  cases q : H a with
  | none =>
    rw [q] at h
    have h : so a = some o := h
    rw [e.no a q (by rw [h]; simp)]
    exact h
  | some u =>
    rw [q] at h
    rw [e.keep a u q]
    exact h
theorem rd_here {a : Addr} {xs : List V} (h : H a = some (.lst xs)) : rd so H a = some (.lst xs) := by
  unfold rd
  rw [h]
theorem rd_hereT {a : Addr} {xs : List V} (h : H a = some (.tup xs)) : rd so H a = some (.tup xs) := by
  unfold rd
  rw [h]
theorem rd_new {a : Addr} {xs : List V} : rd so (upd H a (.lst xs)) a = some (.lst xs) := rd_here upd_same
theorem rd_newT {a : Addr} {xs : List V} : rd so (upd H a (.tup xs)) a = some (.tup xs) := rd_hereT upd_same
end
/-- the callers' view: D reached by a weaker one -/
theorem lpR_inv {g : TG} {tb : TS} {D : Ends} (m : TSle tb tb) {i0 : Nat} (hg : g = gName i0) (Pv : Int → St → Hp → Prop) : ∀ (n : Nat) (lo : Int) (σ : St) (H : Hp), Pv lo σ H →
    (∀ i σ H, lo ≤ i → i < lo + n → Pv i σ H → tb { D with nx := Pv (i + 1), ct := Pv (i + 1), bk := D.nx } (σ.set i0 (some (.int i))) H) → (∀ σ H, Pv (lo + n) σ H → D.nx σ H) → lpR g tb D n lo σ H
  | 0, lo, σ, H, h0, hs, hd => hd σ H (by simpa using h0)
  | n + 1, lo, σ, H, h0, hs, hd => by
    subst hg
    have ih : ∀ σ H, Pv (lo + 1) σ H → lpR (gName i0) tb D n (lo + 1) σ H := fun σ' H' h =>
      lpR_inv m rfl Pv n (lo + 1) σ' H' h (fun i σ H h1 h2 h3 => hs i σ H (by omega) (by push_cast at h2 ⊢; omega) h3) (fun σ H h => hd σ H (by
        have : lo + ((n + 1 : Nat) : Int) = lo + 1 + n := by push_cast; omega
        rw [this]
        exact h))
    refine m _ _ _ _ ?_ (hs lo σ H (Int.le_refl _) (by push_cast; omega) h0)
    exact ⟨ih, fun _ _ z => z, fun _ _ z => z, ih⟩
theorem sem_le {S : Stat} {T : Str → Option FnI} {n : Nat} {W : WX} (b : Sxs) : TSle (wSs S (sem S T n) W b) (wSs S (sem S T n) W b) := fun D D' σ H l z => wSs_mono (sem_mono S T n) b (fun _ _ _ _ z => z) D D' σ H l z
end QL
set_option Elab.async false
set_option linter.all false
set_option maxRecDepth 100000
set_option maxHeartbeats 4000000
/-! Q14: one step at a time (the terms of wE, wT, wA, wS, from the outside). -/
namespace QL
open PySem PySem.Spec
open L2 hiding wE wT
open PyProof.Rows hiding St
section
variable {S : Stat} {F : Sm} {W : WX}
theorem s_lit {σ : St} {H : Hp} {Q : VK} {v : V} (h : Q v H) : wE S F W (.lit v) σ H Q := by
  unfold wE; exact h
theorem s_var {σ : St} {H : Hp} {Q : VK} {i : Nat} {v : V} (e : σ[i]? = some (some v)) (h : Q v H) : wE S F W (.var i) σ H Q := by
  unfold wE; rw [e]; exact h
theorem s_cst {σ : St} {H : Hp} {Q : VK} {x : Str} {v : V} (e : S.gv x = some v) (h : Q v H) : wE S F W (.cst x) σ H Q := by
  unfold wE; rw [e]; exact h
theorem s_op {σ : St} {H : Hp} {Q : VK} {o : Operator} {a b : Ex} (h : wE S F W a σ H fun x H1 => wE S F W b σ H1 fun y H2 => opV S.so o x y H2 Q) : wE S F W (.op o a b) σ H Q := by
  unfold wE; exact h
theorem s_neg {σ : St} {H : Hp} {Q : VK} {a : Ex} (h : wE S F W a σ H fun x H1 => intK x fun i => Q (.int (-i)) H1) : wE S F W (.neg a) σ H Q := by
  unfold wE; exact h
theorem s_cmp {σ : St} {H : Hp} {Q : VK} {o : CmpOp} {a b : Ex} (h : wE S F W a σ H fun x H1 => wE S F W b σ H1 fun y H2 => cmpV S.so o x y H2 Q) : wE S F W (.cmp o a b) σ H Q := by
  unfold wE; exact h
theorem s_chn {σ : St} {H : Hp} {Q : VK} {o o' : CmpOp} {a b c : Ex} (h : wE S F W a σ H fun x H1 => wE S F W b σ H1 fun y H2 => cmpV S.so o x y H2 (boolV fun k H3 => if k = true then wE S F W c σ H3 fun z H4 => cmpV S.so o' y z H4 Q else Q (.bl false) H3)) : wE S F W (.chn o o' a b c) σ H Q := by
  unfold wE; exact h
theorem s_and {σ : St} {H : Hp} {Q : VK} {a b : Ex} (h : wE S F W a σ H fun x H1 => truK S.so x H1 fun k => if k = true then wE S F W b σ H1 Q else Q x H1) : wE S F W (.and a b) σ H Q := by
  unfold wE; exact h
theorem s_or {σ : St} {H : Hp} {Q : VK} {a b : Ex} (h : wE S F W a σ H fun x H1 => truK S.so x H1 fun k => if k = true then Q x H1 else wE S F W b σ H1 Q) : wE S F W (.or a b) σ H Q := by
  unfold wE; exact h
theorem s_not {σ : St} {H : Hp} {Q : VK} {a : Ex} (h : wE S F W a σ H fun x H1 => truK S.so x H1 fun k => Q (.bl (!k)) H1) : wE S F W (.not a) σ H Q := by
  unfold wE; exact h
theorem s_ite {σ : St} {H : Hp} {Q : VK} {t : Te} {a b : Ex} (h : wT S F W t σ H fun k H1 => if k = true then wE S F W a σ H1 Q else wE S F W b σ H1 Q) : wE S F W (.ite t a b) σ H Q := by
  unfold wE; exact h
theorem s_fld {σ : St} {H : Hp} {Q : VK} {o : Ex} {f : Str} (h : wE S F W o σ H fun x H1 => fldV S f x H1 Q) : wE S F W (.fld o f) σ H Q := by
  unfold wE; exact h
theorem s_idx {σ : St} {H : Hp} {Q : VK} {o i : Ex} (h : wE S F W o σ H fun x H1 => wE S F W i σ H1 fun y H2 => idxV S.so x y H2 Q) : wE S F W (.idx o i) σ H Q := by
  unfold wE; exact h
theorem s_slc {σ : St} {H : Hp} {Q : VK} {o : Ex} {lo hi : Ox} (h : wE S F W o σ H fun x H1 => wO S F W lo σ H1 fun a H2 => wO S F W hi σ H2 fun b H3 => slcV S.so x a b H3 Q) : wE S F W (.slc o lo hi) σ H Q := by
  unfold wE; exact h
theorem s_lst {σ : St} {H : Hp} {Q : VK} {es : Exs} (h : wA S F W es σ H fun xs H1 => xs.length ≤ sizeLine ∧ ∀ p, H1 p = none → S.so p = none → Q (.ref p) (upd H1 p (.lst xs))) : wE S F W (.lst es) σ H Q := by
  unfold wE; exact h
theorem s_tup {σ : St} {H : Hp} {Q : VK} {es : Exs} (h : wA S F W es σ H fun xs H1 => xs.length ≤ sizeLine ∧ ∀ p, H1 p = none → S.so p = none → Q (.ref p) (upd H1 p (.tup xs))) : wE S F W (.tup es) σ H Q := by
  unfold wE; exact h
theorem s_fn {σ : St} {H : Hp} {Q : VK} {f : Str} {es : Exs} (h : wA S F W es σ H fun vs H1 => F.fn f vs H1 Q (fun c d H' => W c d σ H')) : wE S F W (.fn f es) σ H Q := by
  unfold wE; exact h
theorem s_bi {σ : St} {H : Hp} {Q : VK} {b : Bi} {es : Exs} (h : wA S F W es σ H fun vs H1 => biV S.so b vs H1 Q) : wE S F W (.bi b es) σ H Q := by
  unfold wE; exact h
theorem s_isi {σ : St} {H : Hp} {Q : VK} {a : Ex} {T : Bt} (h : wE S F W a σ H fun x H1 => btK S.so T x H1 fun k => Q (.bl k) H1) : wE S F W (.isi a T) σ H Q := by
  unfold wE; exact h
theorem s_isx {σ : St} {H : Hp} {Q : VK} {a : Ex} {c : Str} (h : wE S F W a σ H fun x H1 => isxK S c x H1 fun k => Q (.bl k) H1) : wE S F W (.isx a c) σ H Q := by
  rw [wE]; exact h
theorem s_mkx {σ : St} {H : Hp} {Q : VK} {c : Str} {es : Exs} (h : wA S F W es σ H fun vs H1 => mkxV S c vs H1 Q) : wE S F W (.mkx c es) σ H Q := by
  rw [wE]; exact h
theorem s_dct0 {σ : St} {H : Hp} {Q : VK} (h : ∀ p, H p = none → S.so p = none → Q (.ref p) (upd H p (.dK []))) : wE S F W .dct0 σ H Q := by
  rw [wE]; exact h
theorem s_met {σ : St} {H : Hp} {Q : VK} {o : Ex} {m : Str} {es : Exs} (h : wE S F W o σ H fun x H1 => metK S m x H1 fun g => wA S F W es σ H1 fun vs H2 => F.fn g (x :: vs) H2 Q (fun c d H' => W c d σ H')) : wE S F W (.met o m es) σ H Q := by
  rw [wE]; exact h
theorem s_bm {σ : St} {H : Hp} {Q : VK} {o : Ex} {m : Bm} {es : Exs} (h : wE S F W o σ H fun x H1 => bmTyK S m x H1 ∧ wA S F W es σ H1 fun vs H2 => bmV S m x vs H2 Q) : wE S F W (.bm m o es) σ H Q := by
  rw [wE]; exact h
theorem s_mkC {σ : St} {H : Hp} {Q : VK} {c : Str} {ks : List Str} {es : Exs} (h : wA S F W es σ H fun vs H1 => mkK S F c ks vs H1 Q (fun c d H' => W c d σ H')) : wE S F W (.mkC c ks es) σ H Q := by
  rw [wE]; exact h
theorem s_nil {σ : St} {H : Hp} {Q : List V → Hp → Prop} (h : Q [] H) : wA S F W .nil σ H Q := by
  unfold wA; exact h
theorem s_cons {σ : St} {H : Hp} {Q : List V → Hp → Prop} {a : Ex} {es : Exs} (h : wE S F W a σ H fun x H1 => wA S F W es σ H1 fun xs H2 => Q (x :: xs) H2) : wA S F W (.cons a es) σ H Q := by
  unfold wA; exact h
theorem s_ono {σ : St} {H : Hp} {Q : Option Int → Hp → Prop} (h : Q none H) : wO S F W .none σ H Q := by
  unfold wO; exact h
theorem s_osome {σ : St} {H : Hp} {Q : Option Int → Hp → Prop} {a : Ex} (h : wE S F W a σ H fun x H1 => intK x fun i => Q (some i) H1) : wO S F W (.some a) σ H Q := by
  unfold wO; exact h
theorem t_val {σ : St} {H : Hp} {Q : Bool → Hp → Prop} {a : Ex} (h : wE S F W a σ H fun x H1 => truK S.so x H1 fun k => Q k H1) : wT S F W (.val a) σ H Q := by
  unfold wT; exact h
theorem t_cmp {σ : St} {H : Hp} {Q : Bool → Hp → Prop} {o : CmpOp} {a b : Ex} (h : wE S F W a σ H fun x H1 => wE S F W b σ H1 fun y H2 => cmpV S.so o x y H2 (boolV Q)) : wT S F W (.cmp o a b) σ H Q := by
  unfold wT; exact h
theorem t_chn {σ : St} {H : Hp} {Q : Bool → Hp → Prop} {o o' : CmpOp} {a b c : Ex} (h : wE S F W a σ H fun x H1 => wE S F W b σ H1 fun y H2 => cmpV S.so o x y H2 (boolV fun k H3 => if k = true then wE S F W c σ H3 fun z H4 => cmpV S.so o' y z H4 (boolV Q) else Q false H3)) : wT S F W (.chn o o' a b c) σ H Q := by
  unfold wT; exact h
theorem t_and {σ : St} {H : Hp} {Q : Bool → Hp → Prop} {a b : Te} (h : wT S F W a σ H fun k H1 => if k = true then wT S F W b σ H1 Q else Q false H1) : wT S F W (.and a b) σ H Q := by
  unfold wT; exact h
theorem t_or {σ : St} {H : Hp} {Q : Bool → Hp → Prop} {a b : Te} (h : wT S F W a σ H fun k H1 => if k = true then Q true H1 else wT S F W b σ H1 Q) : wT S F W (.or a b) σ H Q := by
  unfold wT; exact h
theorem t_not {σ : St} {H : Hp} {Q : Bool → Hp → Prop} {a : Te} (h : wT S F W a σ H fun k H1 => Q (!k) H1) : wT S F W (.not a) σ H Q := by
  unfold wT; exact h
theorem d_asg {D : Ends} {σ : St} {H : Hp} {i : Nat} {a : Ex} (h : wE S F W a σ H fun x H1 => D.nx (σ.set i (some x)) H1) : wS S F W (.asg i a) D σ H := by
  rw [wS]; exact h
theorem d_setI {D : Ends} {σ : St} {H : Hp} {o i a : Ex} (h : wE S F W a σ H fun x H1 => wE S F W o σ H1 fun y H2 => wE S F W i σ H2 fun z H3 => setV y z x H3 fun H4 => D.nx σ H4) : wS S F W (.setI o i a) D σ H := by
  rw [wS]; exact h
theorem d_setF {D : Ends} {σ : St} {H : Hp} {o a : Ex} {f : Str} (h : wE S F W a σ H fun y H1 => wE S F W o σ H1 fun x H2 => setFV S f x y H2 fun H3 => D.nx σ H3) : wS S F W (.setF o f a) D σ H := by
  rw [wS]; exact h
theorem d_par {D : Ends} {σ : St} {H : Hp} {is : List Nat} {es : Exs} (h : wA S F W es σ H fun vs H1 => parK (setL is vs σ) fun σ' => D.nx σ' H1) : wS S F W (.par is es) D σ H := by
  rw [wS]; exact h
theorem d_exp {D : Ends} {σ : St} {H : Hp} {a : Ex} (h : wE S F W a σ H fun _ H1 => D.nx σ H1) : wS S F W (.exp a) D σ H := by
  rw [wS]; exact h
theorem d_ret {D : Ends} {σ : St} {H : Hp} {a : Ex} (h : wE S F W a σ H D.rt) : wS S F W (.ret a) D σ H := by
  rw [wS]; exact h
theorem d_retN {D : Ends} {σ : St} {H : Hp}  (h : D.rt .non H) : wS S F W .retN D σ H := by
  rw [wS]; exact h
theorem d_ifs {D : Ends} {σ : St} {H : Hp} {t : Te} {a b : Sxs} (h : wT S F W t σ H fun k H1 => if k = true then wSs S F W a D σ H1 else wSs S F W b D σ H1) : wS S F W (.ifs t a b) D σ H := by
  rw [wS]; exact h
theorem d_rng {D : Ends} {σ : St} {H : Hp} {i : Nat} {lo hi : Ex} {b : Sxs} (h : wE S F W lo σ H fun x H1 => wE S F W hi σ H1 fun y H2 => intK x fun l => intK y fun h => lpR (gName i) (wSs S F W b) D (h - l).toNat l σ H2) : wS S F W (.rng i lo hi b) D σ H := by
  rw [wS]; exact h
theorem d_forL {D : Ends} {σ : St} {H : Hp} {t : Tg} {a : Ex} {b : Sxs} (h : wE S F W a σ H fun x H1 => lstK S.so x H1 fun a xs => lpL S.so a xs (gT S.so t) (wSs S F W b) D xs σ H1) : wS S F W (.forL t a b) D σ H := by
  rw [wS]; exact h
theorem d_pass {D : Ends} {σ : St} {H : Hp}  (h : D.nx σ H) : wS S F W .pass D σ H := by
  rw [wS]; exact h
theorem d_rai {D : Ends} {σ : St} {H : Hp} {c : Str} {es : Exs} (h : wA S F W es σ H fun vs H1 => raiV S c vs H1 fun c d H' => W c d σ H') : wS S F W (.rai c es) D σ H := by
  rw [wS]; exact h
theorem d_trx {D : Ends} {σ : St} {H : Hp} {b : Sxs} {cs : List Str} {i j : Nat} (h : wSs S F (trW S cs i j D) b D σ H) : wS S F W (.trx b cs i j) D σ H := by
  rw [wS]; exact h
theorem d_unp {D : Ends} {σ : St} {H : Hp} {is : List Nat} {a : Ex} (h : wE S F W a σ H fun x H1 => gT S.so (.tp is) x σ H1 D.nx) : wS S F W (.unp is a) D σ H := by
  rw [wS]; exact h
theorem d_aug {D : Ends} {σ : St} {H : Hp} {i : Nat} {o : Operator} {a : Ex} {v : V} (e : σ[i]? = some (some v)) (h : wE S F W a σ H fun x H1 => augV o v x H1 fun y H2 => D.nx (σ.set i (some y)) H2) : wS S F W (.aug i o a) D σ H := by
  rw [wS]; unfold varK; simp only [e]; exact h
theorem d_nil {D : Ends} {σ : St} {H : Hp} (h : D.nx σ H) : wSs S F W .nil D σ H := by
  rw [wSs]; exact h
theorem d_cons {D : Ends} {σ : St} {H : Hp} {s : Sx} {r : Sxs} (h : wS S F W s { D with nx := wSs S F W r D } σ H) : wSs S F W (.cons s r) D σ H := by
  rw [wSs]; exact h
end
section
variable {so : Addr → Option HO} {H : Hp} {Q : VK}
theorem v_add {i j : Int} (h : Q (.int (i + j)) H) : opV so .Add (.int i) (.int j) H Q := h
theorem v_addS {i j : Str} (e : i.length + j.length ≤ sizeLine) (h : Q (.str (i ++ j)) H) : opV so .Add (.str i) (.str j) H Q := ⟨e, h⟩
theorem v_addL {p q : Addr} {xs ys : List V} (hp : H p = some (.lst xs)) (hq : H q = some (.lst ys)) (e : xs.length + ys.length ≤ sizeLine) (h : ∀ r, H r = none → so r = none → Q (.ref r) (upd H r (.lst (xs ++ ys)))) : opV so .Add (.ref p) (.ref q) H Q := by
  show addV so (.ref p) (.ref q) H Q
  unfold addV
  simp only [hp, hq]
  exact ⟨e, h⟩
theorem v_sub {i j : Int} (h : Q (.int (i - j)) H) : opV so .Sub (.int i) (.int j) H Q := h
theorem v_mul {i j : Int} (e : CMul i j) (h : Q (.int (i * j)) H) : opV so .Mult (.int i) (.int j) H Q := ⟨e, h⟩
theorem v_div {i j : Int} (e : CDiv i j) (h : Q (.int (i / j)) H) : opV so .FloorDiv (.int i) (.int j) H Q := ⟨e, h⟩
theorem v_mod {i j : Int} (e : 0 < j) (h : Q (.int (i % j)) H) : opV so .Mod (.int i) (.int j) H Q := ⟨e, h⟩
theorem v_pow {i j : Int} (e : CPow i j) (h : Q (.int (i ^ j.toNat)) H) : opV so .Pow (.int i) (.int j) H Q := ⟨e, h⟩
theorem v_shl {i j : Int} (e : CPow i j) (h : Q (.int (i * 2 ^ j.toNat)) H) : opV so .LShift (.int i) (.int j) H Q := ⟨e, h⟩
theorem v_lt {i j : Int} (h : Q (.bl (decide (i < j))) H) : cmpV so .Lt (.int i) (.int j) H Q := h
theorem v_le {i j : Int} (h : Q (.bl (decide (i ≤ j))) H) : cmpV so .LtE (.int i) (.int j) H Q := h
theorem v_gt {i j : Int} (h : Q (.bl (decide (j < i))) H) : cmpV so .Gt (.int i) (.int j) H Q := h
theorem v_ge {i j : Int} (h : Q (.bl (decide (j ≤ i))) H) : cmpV so .GtE (.int i) (.int j) H Q := h
theorem bdec {i j : Int} : (i == j) = decide (i = j) := by
  by_cases e : i = j
  · subst e; simp
  · simp [e]
theorem v_eq {i j : Int} (h : Q (.bl (decide (i = j))) H) : cmpV so .Eq (.int i) (.int j) H Q := by
  show Q (.bl ((i == j) != false)) H
  rw [bdec]
  simpa using h
theorem v_ne {i j : Int} (h : Q (.bl (!decide (i = j))) H) : cmpV so .NotEq (.int i) (.int j) H Q := by
  show Q (.bl ((i == j) != true)) H
  rw [bdec]
  simpa using h
theorem v_eqS {i j : Str} (h : Q (.bl (decide (i = j))) H) : cmpV so .Eq (.str i) (.str j) H Q := by
  show Q (.bl (decide (i = j) != false)) H
  simpa using h
theorem v_neS {i j : Str} (h : Q (.bl (!decide (i = j))) H) : cmpV so .NotEq (.str i) (.str j) H Q := by
  show Q (.bl (decide (i = j) != true)) H
  simpa using h
theorem v_isB {i j : Bool} (h : Q (.bl (decide (i = j))) H) : cmpV so .Is (.bl i) (.bl j) H Q := by
  show Q (.bl (decide (i = j) != false)) H
  simpa using h
theorem v_notB {i j : Bool} (h : Q (.bl (!decide (i = j))) H) : cmpV so .IsNot (.bl i) (.bl j) H Q := by
  show Q (.bl (decide (i = j) != true)) H
  simpa using h
theorem v_isN {x : V} (h : Q (.bl (decide (x = .non))) H) : cmpV so .Is x .non H Q := by
  show isV false x .non H Q
  unfold isV
  simpa using h
theorem v_notN {x : V} (h : Q (.bl (!decide (x = .non))) H) : cmpV so .IsNot x .non H Q := by
  show isV true x .non H Q
  unfold isV
  simpa using h
theorem v_bool {B : Bool → Hp → Prop} {k : Bool} (h : B k H) : boolV B (.bl k) H := h
theorem v_trB {B : Bool → Prop} {k : Bool} (h : B k) : truK so (.bl k) H B := h
theorem v_trI {B : Bool → Prop} {i : Int} (h : B (i != 0)) : truK so (.int i) H B := h
theorem v_trN {B : Bool → Prop} (h : B false) : truK so .non H B := h
theorem v_int {B : Int → Prop} {i : Int} (h : B i) : intK (.int i) B := h
theorem v_btI {B : Bool → Prop} {i : Int} {T : Bt} (h : B (tInt T)) : btK so T (.int i) H B := h
theorem v_btB {B : Bool → Prop} {i : Bool} {T : Bt} (h : B (tBl T)) : btK so T (.bl i) H B := h
theorem v_btN {B : Bool → Prop} {T : Bt} (h : B false) : btK so T .non H B := h
theorem v_btS {B : Bool → Prop} {i : Str} {T : Bt} (h : B (tStr T)) : btK so T (.str i) H B := h
theorem v_idx {p : Addr} {xs : List V} {i : Int} {v : V} (hp : rd so H p = some (.lst xs)) (e : atI xs i = some v) (h : Q v H) : idxV so (.ref p) (.int i) H Q := by
  unfold idxV
  simp only [hp, e]
  exact h
theorem v_idxT {p : Addr} {xs : List V} {i : Int} {v : V} (hp : rd so H p = some (.tup xs)) (e : atI xs i = some v) (h : Q v H) : idxV so (.ref p) (.int i) H Q := by
  unfold idxV
  simp only [hp, e]
  exact h
theorem v_slc {p : Addr} {xs : List V} {lo hi : Option Int} (hp : rd so H p = some (.lst xs)) (h : ∀ r, H r = none → so r = none → Q (.ref r) (upd H r (.lst (cutV xs lo hi)))) : slcV so (.ref p) lo hi H Q := by
  unfold slcV lstV
  simp only [hp]
  exact h
theorem v_setL {B : Hp → Prop} {p : Addr} {xs : List V} {k : Int} {j : Nat} {v : V} (hp : H p = some (.lst xs)) (e : ixN xs.length k = some j) (h : B (upd H p (.lst (xs.set j v)))) : setV (.ref p) (.int k) v H B := by
  unfold setV
  simp only [hp, e]
  exact h
theorem v_lenL {p : Addr} {xs : List V} (hp : rd so H p = some (.lst xs)) (h : Q (.int xs.length) H) : biV so .len [.ref p] H Q := by
  show bLen so [.ref p] H Q
  unfold bLen lenV
  simp only [hp]
  exact h
theorem v_min {i j : Int} (h : Q (.int (if j < i then j else i)) H) : biV so .min [.int i, .int j] H Q := h
theorem v_max {i j : Int} (h : Q (.int (if j > i then j else i)) H) : biV so .max [.int i, .int j] H Q := h
theorem v_abs {i : Int} (h : Q (.int (if i < 0 then -i else i)) H) : biV so .abs [.int i] H Q := h
theorem v_intB {i : Bool} (h : Q (.int (if i then 1 else 0)) H) : biV so .int [.bl i] H Q := h
theorem v_intI {i : Int} (h : Q (.int i) H) : biV so .int [.int i] H Q := h
theorem v_repr {x : V} {d : PyData} (e : Dd so H x d) (h1 : d.showable = true) (h2 : d.hasDict = false) (h3 : d.depth ≤ 60) (h4 : d.shown.length ≤ sizeLine) (h : Q (.str d.shown) H) : biV so .repr [x] H Q := .inl ⟨d, e, h1, h2, h3, h4, h⟩
theorem v_repr0 {a : Addr} (e : H a = some (.dK [])) (h : Q (.str "{}") H) : biV so .repr [.ref a] H Q := .inr ⟨a, rfl, e, h⟩
theorem v_par {B : St → Prop} {σ : St} (h : B σ) : parK (some σ) B := h
theorem v_ifT {A B : Prop} (h : A) : if true = true then A else B := by rw [if_pos rfl]; exact h
theorem v_ifF {A B : Prop} (h : B) : if false = true then A else B := by rw [if_neg Bool.false_ne_true]; exact h
theorem v_dec {p A B : Prop} [Decidable p] (h1 : p → A) (h2 : ¬ p → B) : if decide p = true then A else B := by
  by_cases h : p
  · rw [if_pos (decide_eq_true h)]; exact h1 h
  · rw [if_neg (by simpa using h)]; exact h2 h
theorem v_decP {p A B : Prop} [Decidable p] (h : p) (h1 : A) : if decide p = true then A else B := v_dec (fun _ => h1) fun n => absurd h n
theorem v_decN {p A B : Prop} [Decidable p] (h : ¬ p) (h1 : B) : if decide p = true then A else B := v_dec (fun n => absurd n h) fun _ => h1
theorem v_nec {p A B : Prop} [Decidable p] (h1 : ¬ p → A) (h2 : p → B) : if (!decide p) = true then A else B := by
  by_cases h : p
  · rw [if_neg (by simpa using h)]; exact h2 h
  · rw [if_pos (by simpa using h)]; exact h1 h
theorem v_btI_int {B : Bool → Prop} {i : Int} (h : B true) : btK so .int (.int i) H B := h
theorem v_btI_bool {B : Bool → Prop} {i : Int} (h : B false) : btK so .bool (.int i) H B := h
theorem v_btI_str {B : Bool → Prop} {i : Int} (h : B false) : btK so .str (.int i) H B := h
theorem v_btI_list {B : Bool → Prop} {i : Int} (h : B false) : btK so .list (.int i) H B := h
theorem v_btI_tuple {B : Bool → Prop} {i : Int} (h : B false) : btK so .tuple (.int i) H B := h
theorem v_btB_int {B : Bool → Prop} {i : Bool} (h : B true) : btK so .int (.bl i) H B := h
theorem v_btB_bool {B : Bool → Prop} {i : Bool} (h : B true) : btK so .bool (.bl i) H B := h
theorem v_btB_str {B : Bool → Prop} {i : Bool} (h : B false) : btK so .str (.bl i) H B := h
theorem v_btB_list {B : Bool → Prop} {i : Bool} (h : B false) : btK so .list (.bl i) H B := h
theorem v_btB_tuple {B : Bool → Prop} {i : Bool} (h : B false) : btK so .tuple (.bl i) H B := h
theorem v_btS_int {B : Bool → Prop} {i : Str} (h : B false) : btK so .int (.str i) H B := h
theorem v_btS_bool {B : Bool → Prop} {i : Str} (h : B false) : btK so .bool (.str i) H B := h
theorem v_btS_str {B : Bool → Prop} {i : Str} (h : B true) : btK so .str (.str i) H B := h
theorem v_btS_list {B : Bool → Prop} {i : Str} (h : B false) : btK so .list (.str i) H B := h
theorem v_btS_tuple {B : Bool → Prop} {i : Str} (h : B false) : btK so .tuple (.str i) H B := h
theorem v_btL_int {B : Bool → Prop} {p : Addr} {xs : List V} (e : H p = some (.lst xs)) (h : B false) : btK so .int (.ref p) H B := by
  unfold btK btV
  simp only [e]
  exact h
theorem v_btL_bool {B : Bool → Prop} {p : Addr} {xs : List V} (e : H p = some (.lst xs)) (h : B false) : btK so .bool (.ref p) H B := by
  unfold btK btV
  simp only [e]
  exact h
theorem v_btL_str {B : Bool → Prop} {p : Addr} {xs : List V} (e : H p = some (.lst xs)) (h : B false) : btK so .str (.ref p) H B := by
  unfold btK btV
  simp only [e]
  exact h
theorem v_btL_list {B : Bool → Prop} {p : Addr} {xs : List V} (e : H p = some (.lst xs)) (h : B true) : btK so .list (.ref p) H B := by
  unfold btK btV
  simp only [e]
  exact h
theorem v_btL_tuple {B : Bool → Prop} {p : Addr} {xs : List V} (e : H p = some (.lst xs)) (h : B false) : btK so .tuple (.ref p) H B := by
  unfold btK btV
  simp only [e]
  exact h
theorem v_btT_int {B : Bool → Prop} {p : Addr} {xs : List V} (e : H p = some (.tup xs)) (h : B false) : btK so .int (.ref p) H B := by
  unfold btK btV
  simp only [e]
  exact h
theorem v_btT_bool {B : Bool → Prop} {p : Addr} {xs : List V} (e : H p = some (.tup xs)) (h : B false) : btK so .bool (.ref p) H B := by
  unfold btK btV
  simp only [e]
  exact h
theorem v_btT_str {B : Bool → Prop} {p : Addr} {xs : List V} (e : H p = some (.tup xs)) (h : B false) : btK so .str (.ref p) H B := by
  unfold btK btV
  simp only [e]
  exact h
theorem v_btT_list {B : Bool → Prop} {p : Addr} {xs : List V} (e : H p = some (.tup xs)) (h : B false) : btK so .list (.ref p) H B := by
  unfold btK btV
  simp only [e]
  exact h
theorem v_btT_tuple {B : Bool → Prop} {p : Addr} {xs : List V} (e : H p = some (.tup xs)) (h : B true) : btK so .tuple (.ref p) H B := by
  unfold btK btV
  simp only [e]
  exact h
theorem v_ifNT {A B : Prop} (h : B) : if (!true) = true then A else B := v_ifF h
theorem v_ifNF {A B : Prop} (h : A) : if (!false) = true then A else B := v_ifT h
end
end QL
set_option Elab.async false
set_option linter.all false
set_option maxRecDepth 100000
set_option maxHeartbeats 4000000
/-! Q15: values of any kind: what they are asked, what they show. -/
namespace QL
open PySem PySem.Spec
open L2 hiding wE wT
open PyProof.Rows hiding St
section
variable {so : Addr → Option HO} {H H' : Hp}
mutual
theorem Dd.ext (e : Ext so H H') : ∀ {v : V} {d : PyData}, Dd so H v d → Dd so H' v d
  | _, _, .sc h => .sc h
  | _, _, .lst h t => .lst (e.rd h) (Dds.ext e t)
  | _, _, .tup h t => .tup (e.rd h) (Dds.ext e t)
theorem Dds.ext (e : Ext so H H') : ∀ {v : List V} {d : List PyData}, Dds so H v d → Dds so H' v d
  | _, _, .nil => .nil
  | _, _, .cons h t => .cons (Dd.ext e h) (Dds.ext e t)
end
/-- x shows as z -/
def Sh (so : Addr → Option HO) (H : Hp) (x : V) (z : Str) : Prop := (∃ d, Dd so H x d ∧ d.showable = true ∧ d.hasDict = false ∧ d.depth ≤ 60 ∧ d.shown.length ≤ sizeLine ∧ z = d.shown) ∨ ∃ a, x = .ref a ∧ H a = some (.dK []) ∧ z = "{}"
theorem Sh.ext (e : Ext so H H') {x : V} {z : Str} (h : Sh so H x z) : Sh so H' x z := by
  rcases h with ⟨d, h1, h2, h3, h4, h5, h6⟩ | ⟨a, h1, h2, h3⟩
  · exact .inl ⟨d, h1.ext e, h2, h3, h4, h5, h6⟩
  · exact .inr ⟨a, h1, e.keep _ _ h2, h3⟩
theorem v_sh {Q : VK} {x : V} {z : Str} (h : Sh so H x z) (q : Q (.str z) H) : biV so .repr [x] H Q := by
  rcases h with ⟨d, h1, h2, h3, h4, h5, rfl⟩ | ⟨a, rfl, h2, rfl⟩
  · exact .inl ⟨d, h1, h2, h3, h4, h5, q⟩
  · exact .inr ⟨a, rfl, h2, q⟩
/-- x is of a kind that isinstance tells -/
inductive Kd (H : Hp) : V → Prop
  | non : Kd H .non
  | bl (b : Bool) : Kd H (.bl b)
  | int (i : Int) : Kd H (.int i)
  | str (s : Str) : Kd H (.str s)
  | lst {p : Addr} {xs : List V} : H p = some (.lst xs) → Kd H (.ref p)
  | tup {p : Addr} {xs : List V} : H p = some (.tup xs) → Kd H (.ref p)
  | dK {p : Addr} {xs : List (Key × V)} : H p = some (.dK xs) → Kd H (.ref p)
theorem Kd.ext (e : Ext so H H') {x : V} (h : Kd H x) : Kd H' x := by
  cases h with
  | non => exact .non
  | bl b => exact .bl b
  | int b => exact .int b
  | str b => exact .str b
  | lst h => exact .lst (e.keep _ _ h)
  | tup h => exact .tup (e.keep _ _ h)
  | dK h => exact .dK (e.keep _ _ h)
/-- the number that a value is -/
def asI : V → Option Int
  | .int i => some i
  | _ => none
/-- whether it is a whole number from l to m -/
def inR (x : V) (l m : Int) : Bool := match x with
  | .int i => decide (l ≤ i ∧ i ≤ m)
  | _ => false
theorem v_bt {B : Bool → Prop} {x : V} {T : Bt} {b : Bool} (e : btV so H T x = some b) (h : B b) : btK so T x H B := by
  unfold btK
  rw [e]
  exact h
theorem kd_bt {x : V} (h : Kd H x) (n : ∀ i, x ≠ .int i) : btV so H .int x = some false ∨ (btV so H .int x = some true ∧ btV so H .bool x = some true) := by
  cases h with
  | non => exact .inl rfl
  | bl b => exact .inr ⟨rfl, rfl⟩
  | int i => exact absurd rfl (n i)
  | str s => exact .inl rfl
  | lst e => exact .inl (by simp only [btV, e]; rfl)
  | tup e => exact .inl (by simp only [btV, e]; rfl)
  | dK e => exact .inl (by simp only [btV, e])
end
section
variable {S : Stat} {H H' : Hp}
theorem Xd.ext {so : Addr → Option HO} (e : Ext so H H') {d : Option Addr} {fs : List (Str × V)} (h : Xd H d fs) : Xd H' d fs := by
  cases d with
  | none => exact h
  | some dd => exact e.keep _ _ h
theorem Xat.ext {so : Addr → Option HO} (e : Ext so H H') {a C : Addr} {fs : List (Str × V)} (h : Xat H a C fs) : Xat H' a C fs := by
  obtain ⟨d, h1, h2⟩ := h
  exact ⟨d, e.keep _ _ h1, h2.ext e⟩
theorem v_isx {B : Bool → Prop} {a C : Addr} {fs : List (Str × V)} {c : Str} {b : Bool} (x : Xat H a C fs) (e : S.isa C c = some b) (h : B b) : isxK S c (.ref a) H B := by
  obtain ⟨d, h1, h2⟩ := x
  have h3 := h1
  unfold exV at h1
  unfold isxK
  simp only [h1]
  exact ⟨C, fs, b, ⟨d, h3, h2⟩, e, h⟩
theorem v_xfld {Q : VK} {a C : Addr} {fs : List (Str × V)} {f : Str} {v : V} (x : Xat H a C fs) (e : S.xf C f) (l : fs.lookup f = some v) (h : Q v H) : fldV S f (.ref a) H Q := by
  obtain ⟨d, h1, h2⟩ := x
  have h3 := h1
  unfold exV at h1
  unfold fldV
  simp only [h1]
  exact ⟨C, fs, v, ⟨d, h3, h2⟩, e, l, h⟩
theorem v_rai {B : XK} {x : Str} {C : Addr} {g : Str} {v : V} (e : S.xc x = some (C, some g)) (h : ∀ d, H d = none → S.so d = none → B (.ref C) (some d) (upd H d (.xd [(g, v)]))) : raiV S x [v] H B := by
  unfold raiV
  simp only [e]
  exact h
theorem v_count {Q : VK} {p : Addr} {ys : List V} {k : V} (hp : rd S.so H p = some (.lst ys)) (f1 : flatV k = true) (f2 : ys.all flatV = true) (h : Q (.int (ys.countP (fun y => eqV y k) : Nat)) H) : bmV S .count (.ref p) [k] H Q := by
  show mCount S (.ref p) [k] H Q
  unfold mCount
  simp only [hp]
  exact ⟨f1, f2, h⟩
theorem v_bmty {p : Addr} {ys : List V} {m : Bm} (hp : rd S.so H p = some (.lst ys)) : bmTyK S m (.ref p) H := by
  unfold bmTyK
  simp only [hp]
/-- == of two lists or tuples by what they show -/
theorem v_eqD {Q : VK} {so : Addr → Option HO} {x y : V} {d e : PyData} (hx : Dd so H x d) (hy : Dd so H y e) (s1 : SeqAt.shaped d = true) (s2 : SeqAt.shaped e = true) (p : ∃ a, x = .ref a) (h : Q (.bl (PyData.eqv d e)) H) : cmpV so .Eq x y H Q := by
  obtain ⟨a, rfl⟩ := p
  show eqD so false (.ref a) y H Q
  unfold eqD
  simp only [scN]
  exact ⟨d, e, hx, hy, s1, s2, by simpa using h⟩
theorem v_neD {Q : VK} {so : Addr → Option HO} {x y : V} {d e : PyData} (hx : Dd so H x d) (hy : Dd so H y e) (s1 : SeqAt.shaped d = true) (s2 : SeqAt.shaped e = true) (p : ∃ a, x = .ref a) (h : Q (.bl (!PyData.eqv d e)) H) : cmpV so .NotEq x y H Q := by
  obtain ⟨a, rfl⟩ := p
  show eqD so true (.ref a) y H Q
  unfold eqD
  simp only [scN]
  exact ⟨d, e, hx, hy, s1, s2, by cases hh : PyData.eqv d e <;> simpa [hh] using h⟩
end
section
variable {so : Addr → Option HO} {H : Hp}
theorem v_lstK {B : Addr → List V → Prop} {p : Addr} {xs : List V} (hp : rd so H p = some (.lst xs)) (h : B p xs) : lstK so (.ref p) H B := by
  unfold lstK
  simp only [hp]
  exact h
/-- a loop over a list that stays, by what holds between two turns -/
theorem lpL_inv {a : Addr} {xs : List V} {t : Tg} {tb : TS} {D : Ends} (m : TSle tb tb) (Pv : Nat → St → Hp → Prop) (hr : ∀ i σ H, Pv i σ H → rd so H a = some (.lst xs))
    (hs : ∀ i x σ H, xs[i]? = some x → Pv i σ H → gT so t x σ H fun σ2 H2 => tb { D with nx := Pv (i + 1), ct := Pv (i + 1), bk := D.nx } σ2 H2) (hd : ∀ σ H, Pv xs.length σ H → D.nx σ H) :
    ∀ (r : List V) (i : Nat) (σ : St) (H : Hp), xs.drop i = r → i ≤ xs.length → Pv i σ H → lpL so a xs (gT so t) tb D r σ H
  | [], i, σ, H, e, hi, h => by
    have : i = xs.length := Nat.le_antisymm hi (List.drop_eq_nil_iff.mp e)
    subst this
    exact ⟨hr _ _ _ h, hd _ _ h⟩
  | x :: r, i, σ, H, e, hi, h => by
    have hx : xs[i]? = some x := by
      have := List.getElem?_drop (xs := xs) (i := i) (j := 0)
      rw [e] at this
      simpa using this.symm
    have hdr : xs.drop (i + 1) = r := by
      rw [← List.tail_drop, e]
      rfl
    have hlt : i + 1 ≤ xs.length := (List.getElem?_eq_some_iff.mp hx).1
    have ih : ∀ σ H, Pv (i + 1) σ H → lpL so a xs (gT so t) tb D r σ H := fun σ' H' h' => lpL_inv m Pv hr hs hd r (i + 1) σ' H' hdr hlt h'
    refine ⟨hr _ _ _ h, gT_mono (fun σ2 H2 z => ?_) (hs i x σ H hx h)⟩
    refine m _ _ _ _ ?_ z
    exact ⟨ih, fun _ _ z => z, fun _ _ z => z, ih⟩
theorem v_gTp {p : Addr} {xs : List V} {is : List Nat} {σ σ' : St} {Q : St → Hp → Prop} (hp : rd so H p = some (.tup xs)) (e : setL is xs σ = some σ') (h : Q σ' H) : gT so (.tp is) (.ref p) σ H Q := by
  unfold gT
  simp only [hp, parK, e]
  exact h
end
/-- a try that keeps the exception: which exceptions come -/
theorem d_trx' {S : Stat} {T : Str → Option FnI} {n : Nat} {W : WX} {D : Ends} {σ : St} {H : Hp} {b : Sxs} {cs : List Str} {i j : Nat} (Wp : WX) (h : wSs S (sem S T n) Wp b D σ H) (hw : ∀ cls d σ' H', Wp cls d σ' H' → trW S cs i j D cls d σ' H') : wS S (sem S T n) W (.trx b cs i j) D σ H := by
  refine d_trx (wSs_mono (sem_mono S T n) b hw _ _ _ _ ?_ h)
  exact ⟨fun _ _ z => z, fun _ _ z => z, fun _ _ z => z, fun _ _ z => z⟩
theorem ext_none {so : Addr → Option HO} {H H' : Hp} (e : Ext so H H') {p : Addr} (h : H' p = none) : H p = none := by
  cases z : H p with
  | none => rfl
  | some o =>
    rw [e.keep _ _ z] at h
    cases h
end QL
set_option Elab.async false
set_option linter.all false
set_option maxRecDepth 100000
set_option maxHeartbeats 4000000
/-! Q16: steps for own classes, whiles, lists that grow. -/
namespace QL
open PySem PySem.Spec
open L2 hiding wE wT
open PyProof.Rows hiding St
section
variable {S : Stat} {F : Sm} {W : WX} {H : Hp} {Q : VK} {E : XK}
theorem v_fld {f : Str} {a C dx : Addr} {fs : List (Str × V)} {v : V} (ha : H a = some (.ins C dx fs)) (hf : S.fl C f) (hl : fs.lookup f = some v) (h : Q v H) : fldV S f (.ref a) H Q := by
  unfold fldV
  simp only [ha, hl]
  exact ⟨hf, h⟩
theorem v_setF {f : Str} {a C dx : Addr} {fs : List (Str × V)} {y : V} {B : Hp → Prop} (ha : H a = some (.ins C dx fs)) (hf : S.fl C f) (hl : fs.length < 1000) (h : B (upd H a (.ins C dx (putF f y fs)))) : setFV S f (.ref a) y H B := by
  unfold setFV
  simp only [ha]
  exact ⟨hf, hl, h⟩
theorem v_met {m g : Str} {a C dx : Addr} {fs : List (Str × V)} {B : Str → Prop} (ha : H a = some (.ins C dx fs)) (hl : fs.lookup m = none) (hg : S.mt C m = some g) (h : B g) : metK S m (.ref a) H B := by
  unfold metK
  simp only [ha, hg]
  exact ⟨hl, h⟩
theorem v_mkC {c g : Str} {ks : List Str} {vs ws : List V} {C : Addr} {pm : List (Nat ⊕ V)} (e : S.mkc c vs.length ks = some (C, g, pm)) (p : pmV pm vs = some ws)
    (h : ∀ x dx, H x = none → H dx = none → dx ≠ x → S.so x = none → S.so dx = none → F.fn g (.ref x :: ws) (upd (upd H dx (.own x)) x (.ins C dx [])) (fun v H2 => v = .non ∧ Q (.ref x) H2) E) : mkK S F c ks vs H Q E := by
  unfold mkK
  simp only [e, p]
  exact h
theorem v_append {p : Addr} {ys : List V} {v : V} (hp : H p = some (.lst ys)) (hl : ys.length < sizeLine) (h : Q .non (upd H p (.lst (ys ++ [v])))) : bmV S .append (.ref p) [v] H Q := by
  show mAppend (.ref p) [v] H Q
  unfold mAppend
  simp only [hp]
  exact ⟨hl, h⟩
theorem v_insert {p : Addr} {ys : List V} {v : V} (hp : H p = some (.lst ys)) (hl : ys.length < sizeLine) (h : Q .non (upd H p (.lst (v :: ys)))) : bmV S .insert (.ref p) [.int 0, v] H Q := by
  show mInsert (.ref p) [.int 0, v] H Q
  unfold mInsert
  simp only [hp]
  exact ⟨trivial, hl, h⟩
theorem v_mulL {so : Addr → Option HO} {p : Addr} {xs : List V} {k : Int} (hp : H p = some (.lst xs)) (h1 : -(2 ^ 63) ≤ k) (h2 : k < 2 ^ 63) (h3 : xs.length * k.toNat ≤ sizeLine) (h : ∀ r, H r = none → so r = none → Q (.ref r) (upd H r (.lst (List.replicate k.toNat xs).flatten))) : opV so .Mult (.ref p) (.int k) H Q := by
  show mulV so (.ref p) (.int k) H Q
  unfold mulV
  simp only [hp]
  exact ⟨h1, h2, h3, h⟩
theorem d_whl {D : Ends} {σ : St} {t : Te} {b : Sxs} (m : Nat) (h : lpW (wT S F W t) (wSs S F W b) D m σ H) : wS S F W (.whl t b) D σ H := by
  rw [wS]
  exact ⟨m, h⟩
theorem w_step {t : TT} {tb : TS} {D : Ends} {m : Nat} {σ : St} (h : t σ H fun k H1 => if k = true then tb { D with nx := lpW t tb D m, ct := lpW t tb D m, bk := D.nx } σ H1 else D.nx σ H1) : lpW t tb D (m + 1) σ H := h
end
/-- lists of plain values, as data -/
theorem dds_bl {so : Addr → Option HO} {H : Hp} : ∀ (bs : List Bool), Dds so H (bs.map V.bl) (bs.map PyData.bool)
  | [] => .nil
  | b :: bs => .cons (.sc rfl) (dds_bl bs)
theorem dds_int {so : Addr → Option HO} {H : Hp} : ∀ (bs : List Int), Dds so H (bs.map V.int) (bs.map PyData.int)
  | [] => .nil
  | b :: bs => .cons (.sc rfl) (dds_int bs)
end QL
set_option Elab.async false
set_option linter.all false
set_option maxRecDepth 100000
set_option maxHeartbeats 4000000
/-! H1: the head by one run: what it tells of defs, classes, exceptions. -/
namespace QL
open PySem PySem.Spec L2
open PyProof.Rows hiding St
open He (ga ma fAd)
abbrev AlQ : Type := Bool × List He.FnW
def obsQ (ex : PySem.W.Frag → Bool) (fn : List He.DefD) (K : PySem.W.Frag) : AlQ := (ex K && fn.all fun d => d.ok K, fn.map fun d => He.fnW K d.at_)
def valQ (fn : List He.DefD) : AlQ := (true, fn.map He.DefD.val)
def SaysQ (ex : PySem.W.Frag → Bool) (fn : List He.DefD) (K : PySem.W.Frag) : Prop := obsQ ex fn K = valQ fn
def obsQG (n : Nat) (ex : PySem.W.Frag → Bool) (fn : List He.DefD) (g : Addr → Option Obj) : AlQ := obsQ ex fn (He.frG g (He.asD g n))
def hookQ (n : Nat) (ex : PySem.W.Frag → Bool) (fn : List He.DefD) : PySem.W.Hook where
  α := AlQ
  obs := fun s => obsQG n ex fn s.heap.get?
  val := fun _ => valQ fn
  says := fun _ h => ∃ K : PySem.W.Frag, K.In h ∧ SaysQ ex fn K
  of := fun _ _ e => ⟨_, He.frG_in, e⟩
  keeps := fun _ _ _ ⟨K, hK, c⟩ k => ⟨K, PySem.W.Frag.In.keeps hK k, c⟩
theorem obsQG_eq {n : Nat} {ex : PySem.W.Frag → Bool} {fn : List He.DefD} {g : Addr → Option Obj} {s : Shared} (h : ∀ a, g a = s.heap.get? a) : obsQG n ex fn g = (hookQ n ex fn).obs s := by
  have e : g = s.heap.get? := funext h
  rw [e] <;> rfl
section
variable {ex : PySem.W.Frag → Bool} {fn : List He.DefD} {K : PySem.W.Frag}
theorem SaysQ.more (c : SaysQ ex fn K) : ex K = true := (He.ba (show (ex K && fn.all fun d => d.ok K) = true from congrArg (fun z : AlQ => z.1) c)).1
theorem SaysQ.def_ (c : SaysQ ex fn K) (i : Nat) {d : He.DefD} (h : fn[i]? = some d := by rfl) : ∃ fd, FunD K d.name d.qual d.params d.body d.scope (d.dvs K) (d.kws K) (fAd K d.at_) fd := by
  have c2 := (He.ba (show (ex K && fn.all fun d => d.ok K) = true from congrArg (fun z : AlQ => z.1) c)).2
  have e : fn.map (fun d => He.fnW K d.at_) = fn.map He.DefD.val := congrArg (fun z : AlQ => z.2) c
  have e2 : (fn.map fun d => He.fnW K d.at_)[i]? = (fn.map He.DefD.val)[i]? := by rw [e]
  rw [List.getElem?_map, List.getElem?_map, h] at e2
  exact He.DefD.funD (Option.some.inj e2) (List.all_eq_true.mp c2 d (List.mem_of_getElem? h))
end
/-! ### exceptions -/
def bxs : List (Str × Value) := [("ValueError", .type "ValueError"), ("IndexError", .type "IndexError"), ("KeyError", .type "KeyError"), ("LookupError", .type "LookupError"), ("OverflowError", .type "OverflowError"), ("RuntimeError", .type "RuntimeError")]
theorem bxs_ok {c : Str} {u : Value} (h : bxs.lookup c = some u) : (c == ("__debug__" : Str)) = false ∧ bootBuiltins c = some u ∧ c ≠ "__name__" ∧ ∃ T, u = .type T := by
  have key : ∀ (l : List (Str × Value)), (l.all fun e => !(e.1 == ("__debug__" : Str)) && decide (bootBuiltins e.1 = some e.2) && decide (e.1 ≠ "__name__") && (match e.2 with | .type _ => true | _ => false)) = true → l.lookup c = some u → (c == ("__debug__" : Str)) = false ∧ bootBuiltins c = some u ∧ c ≠ "__name__" ∧ ∃ T, u = .type T := by
    intro l
    induction l with
    | nil => intro _ h; cases h
    | cons e l ih =>
      intro ha hl
      rw [List.all_cons, Bool.and_eq_true] at ha
      rw [List.lookup_cons] at hl
      split at hl
      · rename_i e1
        cases hl
        have e2 : c = e.1 := by simpa using e1
        obtain ⟨h1, h2⟩ := ha
        simp only [Bool.and_eq_true, Bool.not_eq_true', decide_eq_true_eq] at h1
        obtain ⟨⟨⟨g1, g2⟩, g3⟩, g4⟩ := h1
        rw [e2]
        refine ⟨g1, g2, g3, ?_⟩
        split at g4
        · rename_i T eT
          exact ⟨T, eT⟩
        · cases g4
      · exact ih ha.2 hl
  exact key bxs (by decide +kernel) h
/-- the class that a name stands for -/
def clV (K : PySem.W.Frag) (oc : List Str) (c : Str) : Option Value := if oc.contains c then some (.ref (ga K c)) else bxs.lookup c
def isaF (K : PySem.W.Frag) (oc : List Str) (C : Addr) (c : Str) : Option Bool := match clV K oc c with
  | some u => if (xvB K C && decide (PySem.W.kitOne K (.ref C) u = PySem.W.exmOne K (.ref C) u)) = true then PySem.W.kitOne K (.ref C) u else none
  | none => none
def ocB (K : PySem.W.Frag) (C : Addr) : Bool := PySem.W.plainGet K C Str.empty && PySem.W.hasDictIn K C && PySem.W.plainOver K C && decide (PySem.W.findIn K (.ref C) "__setattr__" = some (some (.builtin "object.__setattr__"))) &&
  decide (PySem.W.findIn K (.ref C) "__class__" = some (some (.builtin "object.__class__"))) && decide (PySem.W.specialIn K (.builtin "object.__class__") "__get__" = some (some (.builtin "getset_descriptor.__get__"))) &&
  decide (PySem.W.takesIn K (.builtin "object.__class__") = some true) && decide (PySem.W.mroIn K C (.type "object") = some true)
theorem ocB_ok {K : PySem.W.Frag} {C : Addr} (h : ocB K C = true) : OcC K C := by
  unfold ocB at h
  simp only [Bool.and_eq_true, decide_eq_true_eq] at h
  obtain ⟨⟨⟨⟨⟨⟨⟨h1, h2⟩, h3⟩, h4⟩, h5⟩, h6⟩, h7⟩, h8⟩ := h
  exact ⟨⟨h1, h2, h3, h4⟩, h5, h6, h7, h8⟩
def isoF (K : PySem.W.Frag) (oc : List Str) (C : Addr) (c : Str) : Option Bool := match clV K oc c with
  | some u => if ocB K C = true then PySem.W.kitOne K (.ref C) u else none
  | none => none
def isbF (K : PySem.W.Frag) (oc : List Str) (c : Str) : Bool := match clV K oc c with
  | some u => bTs.all fun T => decide (PySem.W.kitOne K (.type T) u = some false)
  | none => false
section
variable {K : PySem.W.Frag} {mg : Str → Option Value} {oc : List Str} {C : Addr} {c : Str} {b : Bool}
/-- the names that a law has of classes -/
structure ClsNs (K : PySem.W.Frag) (mg : Str → Option Value) (oc : List Str) : Prop where
  own : ∀ c ∈ oc, (c == ("__debug__" : Str)) = false ∧ mg c = some (.ref (ga K c))
  blt : ∀ c u, bxs.lookup c = some u → mg c = none
theorem clV_ok (N : ClsNs K mg oc) {u : Value} (h : clV K oc c = some u) : ClsN mg c u := by
  unfold clV at h
  split at h
  · rename_i hc
    cases h
    obtain ⟨h1, h2⟩ := N.own c (by simpa using hc)
    exact ⟨h1, .inl ⟨⟨_, rfl⟩, h2⟩⟩
  · obtain ⟨h1, h2, h3, h4⟩ := bxs_ok h
    exact ⟨h1, .inr ⟨h4, N.blt c u h, h2, h3⟩⟩
theorem isaF_ok (N : ClsNs K mg oc) (h : isaF K oc C c = some b) : XvC K C ∧ ∀ u, ClsN mg c u → PySem.W.kitOne K (.ref C) u = some b ∧ PySem.W.exmOne K (.ref C) u = some b := by
  unfold isaF at h
  split at h
  · rename_i u e
    split at h
    · rename_i hb
      simp only [Bool.and_eq_true, decide_eq_true_eq] at hb
      refine ⟨xvB_ok hb.1, fun u' hu => ?_⟩
      have := hu.one (clV_ok N e)
      subst this
      exact ⟨h, by rw [← hb.2]; exact h⟩
    · cases h
  · cases h
theorem isoF_ok (N : ClsNs K mg oc) (h : isoF K oc C c = some b) : OcC K C ∧ ∀ u, ClsN mg c u → PySem.W.kitOne K (.ref C) u = some b := by
  unfold isoF at h
  split at h
  · rename_i u e
    split at h
    · rename_i hb
      refine ⟨ocB_ok hb, fun u' hu => ?_⟩
      have := hu.one (clV_ok N e)
      subst this
      exact h
    · cases h
  · cases h
theorem isbF_ok (N : ClsNs K mg oc) (h : isbF K oc c = true) : ∀ u, ClsN mg c u → ∀ T ∈ bTs, PySem.W.kitOne K (.type T) u = some false := by
  unfold isbF at h
  split at h
  · rename_i u e
    intro u' hu T hT
    have := hu.one (clV_ok N e)
    subst this
    exact of_decide_eq_true (List.all_eq_true.mp h T hT)
  · cases h
end
/-- what the head says of an own exception class that is made -/
def xkB (K : PySem.W.Frag) (x : Str) (b : Xb) (f : Option Str) : Bool := xcB K (ga K x) b && xvB K (ga K x) && (match f with
  | some g => decide (PySem.W.findIn K (.ref (ga K x)) g = some none)
  | none => true) && decide (PySem.W.findIn K (.ref (ga K x)) "__init__" = some (some (.ref (ma K (ga K x) "__init__")))) && decide (PySem.W.typeIn K (.ref (ma K (ga K x) "__init__")) = some (.type "function")) &&
  (match PySem.W.findCls K (.type b.nm) (.type "type") "__init__" with
  | some (.val (.builtin n)) => n == b.it
  | _ => false)
theorem xk_mk {K : PySem.W.Frag} {mg : Str → Option Value} {x qual : Str} {b : Xb} {f : Option Str} {st : Stmt} {fd : FuncData} (h : xkB K x b f = true) (g : mg x = some (.ref (ga K x))) (nm : (x == ("__debug__" : Str)) = false)
    (F : FunD K "__init__" qual (defArgs st) (defBody st) (defScope st) [] [] (ma K (ga K x) "__init__") fd) (S : FnScope (xiN f) (xiN f) (defScope st)) (hb : xiB b f (defBody st)) (hs : xiS b f (defScope st) = true)
    (hbd : ∀ (kV doc pm : Value) (an : Option Addr) (cdv ct : Value) (us : List Value), us.length = (xiN f).length → bindArgs (PySem.W.fnOf "__init__" qual (defArgs st) (defBody st) (defScope st) .none kV doc pm an cdv ct) ⟨us, []⟩ = pure ((xiN f).zip us))
    (hm : mg b.st = none) (P : Program) (w : World) (base : Heap) : Xk P w K mg base x (ga K x) f := by
  unfold xkB at h
  simp only [Bool.and_eq_true, decide_eq_true_eq] at h
  obtain ⟨⟨⟨⟨⟨h1, h2⟩, h3⟩, h4⟩, h5⟩, h6'⟩ := h
  have h6 : PySem.W.findCls K (.type b.nm) (.type "type") "__init__" = some (.val (.builtin b.it)) := by
    split at h6'
    · rename_i n e
      rw [e, beq_iff_eq.mp h6']
    · cases h6'
  obtain ⟨oc, od, dV, kV, doc, pm, an, cdv, ct, osl, rfl, lk, hcd, hD, hK⟩ := F.ex
  rcases hD with ⟨_, rfl⟩ | ⟨e, _⟩
  · refine ⟨g, nm, xvB_ok h2, fun g' hg => ?_, b, ma K (ga K x) "__init__", _, xcB_ok h1, h4, h5, xi_fng lk hcd S hb hs hm h6, ?_⟩
    · subst hg
      simpa using h3
    · exact Binds.all fun us hl => hbd kV doc pm an cdv ct us hl
  · exact absurd rfl e
/-- a def without defaults binds its values -/
theorem bind_mk {K : PySem.W.Frag} {x qual : Str} {st : Stmt} {f : Addr} {fd : FuncData} {ps : List Str} (F : FunD K x qual (defArgs st) (defBody st) (defScope st) [] [] f fd)
    (h : ∀ (kV doc pm : Value) (an : Option Addr) (cdv ct : Value) (us : List Value), us.length = ps.length → bindArgs (PySem.W.fnOf x qual (defArgs st) (defBody st) (defScope st) .none kV doc pm an cdv ct) ⟨us, []⟩ = pure (ps.zip us)) : Binds K fd ps [] := by
  obtain ⟨oc, od, dV, kV, doc, pm, an, cdv, ct, osl, rfl, lk, hcd, hD, hK⟩ := F.ex
  rcases hD with ⟨_, rfl⟩ | ⟨e, _⟩
  · exact .all fun us hl => h kV doc pm an cdv ct us hl
  · exact absurd rfl e
theorem mem_pair {α : Type} {x : Str} {u : α} : ∀ {l : List (Str × α)}, l.lookup x = some u → (x, u) ∈ l
  | [], h => by cases h
  | (y, v) :: r, h => by
    rw [List.lookup_cons] at h
    split at h
    · rename_i e
      cases h
      have : x = y := by simpa using e
      rw [this]
      exact List.mem_cons_self ..
    · exact List.mem_cons_of_mem _ (mem_pair h)
theorem mem_fst {α : Type} {x : Str} {u : α} {l : List (Str × α)} (h : l.lookup x = some u) : x ∈ l.map (·.1) := List.mem_map.mpr ⟨_, mem_pair h, rfl⟩
end QL
set_option Elab.async false
set_option linter.all false
set_option maxRecDepth 100000
set_option maxHeartbeats 4000000
/-! H2: own classes behind the top: how C(.., k = v) is bound. -/
namespace QL
open PySem PySem.Spec L2
open PyProof.Rows hiding St
/-- the keyword-only parameters, in order: given (true), or by default -/
def pick {α : Type} : List (Bool × Nat) → List α → List α → List α
  | [], _, _ => []
  | (true, i) :: r, m, w => (w.drop i).take 1 ++ pick r m w
  | (false, i) :: r, m, w => (m.drop i).take 1 ++ pick r m w
theorem pick_rel : ∀ (l : List (Bool × Nat)) {mz zs : List V} {mv ws : List Value}, Vals mz mv → Vals zs ws → Vals (pick l mz zs) (pick l mv ws)
  | [], _, _, _, _, _, _ => .nil
  | (true, i) :: r, _, _, _, _, a, b => ((b.drop i).take 1).append (pick_rel r a b)
  | (false, i) :: r, _, _, _, _, a, b => ((a.drop i).take 1).append (pick_rel r a b)
def bg (l : List (Bool × Nat)) {α : Type} (us mv ws : List α) : List α := us ++ pick l mv ws
section
variable {K : PySem.W.Frag} {x qual : Str} {params : Arguments} {body : List Stmt} {scope : Scope} {kws : List (Str × V)} {f : Addr} {fd : FuncData} {ps : List Str}
theorem bindK_kw (F : FunD K x qual params body scope [] kws f fd) (np : Nat) (ks : List Str) (ms : List (Str × V)) (l : List (Bool × Nat)) (pm : List (Nat ⊕ V)) (hk : kws ≠ []) (hms : ∀ q ∈ ms, q ∈ kws)
    (h : ∀ (D : Addr) (doc pm : Value) (an : Option Addr) (cdv ct : Value) (us mv ws : List Value), us.length = np + 1 → mv.length = ms.length → ws.length = ks.length →
      KwChain D ((ms.map (·.1)).zip mv) (bindArgs (PySem.W.fnOf x qual params body scope .none (.ref D) doc pm an cdv ct) ⟨us, ks.zip ws⟩) (ps.zip (bg l us mv ws)))
    (hpm : ∀ (vs ws : List V), vs.length = np + ks.length → pmV pm vs = some ws → bg l (vs.take np) (ms.map (·.2)) (vs.drop np) = ws) : BindK K fd ps (np + ks.length) ks pm := by
  obtain ⟨mv, hb⟩ := F.kbinds0 (ps := ps) (np + 1) ks ms (fun us mv ws => bg l us mv ws) hk hms (fun a b c => a.append (pick_rel l b c)) h
  intro vs ws us hv hl hp
  have e := hpm vs ws hl hp
  have hlu : us.length = np + ks.length := by rw [← hl]; exact hv.length.symm
  refine ⟨bg l (us.take np) mv (us.drop np), ?_, fun s a X => ?_⟩
  · have r := hb.rel (show Vals (.non :: vs.take np) (Value.none :: us.take np) from .cons rfl (hv.take np)) (hv.drop np)
    rw [← e]
    cases r with
    | cons _ r => exact r
  · rw [Nat.add_sub_cancel]
    exact hb.to s (a :: us.take np) (us.drop np) X (by rw [List.length_cons, List.length_take, hlu]; omega) (by rw [List.length_drop, hlu]; omega)
theorem bindK_pos (F : FunD K x qual params body scope [] [] f fd) (np : Nat) (hp : ps.length = np + 1)
    (h : ∀ (kV doc pm : Value) (an : Option Addr) (cdv ct : Value) (us : List Value), us.length = ps.length → bindArgs (PySem.W.fnOf x qual params body scope .none kV doc pm an cdv ct) ⟨us, []⟩ = pure (ps.zip us)) :
    BindK K fd ps np [] ((List.range np).map .inl) := by
  have hb := F.bindsN (ps := ps) h
  intro vs ws us hv hl hw
  have hlu : us.length = np := by rw [← hl]; exact hv.length.symm
  have e : ws = vs := by
    have key : ∀ (n : Nat) (vs : List V), n ≤ vs.length → pmV ((List.range n).map .inl) vs = some (vs.take n) := by
      intro n
      induction n with
      | zero => intro vs _; rfl
      | succ n ih =>
        intro vs h
        unfold pmV at ih ⊢
        have hn : vs[n]? = some vs[n] := List.getElem?_eq_getElem h
        rw [List.range_succ, List.map_append, List.mapM_append, ih vs (by omega), List.take_succ, hn]
        show (do let ys ← (do let y ← vs[n]?; pure [y]); pure (vs.take n ++ ys) : Option (List V)) = _
        rw [hn]
        rfl
    have q := key np vs (by omega)
    rw [hw] at q
    cases q
    rw [List.take_of_length_le (by omega)]
  subst e
  refine ⟨us, hv, fun s a X => ?_⟩
  have q := hb s (a :: us) X (by rw [List.append_nil, List.length_cons, hlu, hp])
  rw [List.append_nil] at q
  have t : us.take (np - ([] : List Str).length) = us := List.take_of_length_le (by simp [hlu])
  rw [t]
  exact q
end
/-! ### tables of own classes -/
def mtF (K : PySem.W.Frag) (l : List (Str × Str × Str)) (C : Addr) (m : Str) : Option Str := (l.find? fun e => decide (He.ga K e.1 = C) && e.2.1 == m).map (·.2.2)
theorem mtF_mem {K : PySem.W.Frag} {l : List (Str × Str × Str)} {C : Addr} {m g : Str} (h : mtF K l C m = some g) : ∃ x, (x, m, g) ∈ l ∧ C = He.ga K x := by
  unfold mtF at h
  obtain ⟨e, h1, rfl⟩ := map_some h
  have a := List.mem_of_find?_eq_some h1
  have b := List.find?_some h1
  simp only [Bool.and_eq_true, decide_eq_true_eq, beq_iff_eq] at b
  exact ⟨e.1, by rw [← b.2]; exact a, b.1.symm⟩
abbrev MkR : Type := Str × Nat × List Str × Str × (PySem.W.Frag → List (Nat ⊕ V))
def mkF (K : PySem.W.Frag) (l : List MkR) (x : Str) (n : Nat) (ks : List Str) : Option (Addr × Str × List (Nat ⊕ V)) := (l.find? fun e => e.1 == x && (e.2.1 == n && e.2.2.1 == ks)).map fun e => (He.ga K e.1, e.2.2.2.1, e.2.2.2.2 K)
theorem mkF_mem {K : PySem.W.Frag} {l : List MkR} {x : Str} {n : Nat} {ks : List Str} {C : Addr} {g : Str} {pm : List (Nat ⊕ V)} (h : mkF K l x n ks = some (C, g, pm)) : ∃ pm', (x, n, ks, g, pm') ∈ l ∧ C = He.ga K x ∧ pm = pm' K := by
  unfold mkF at h
  obtain ⟨e, h1, h2⟩ := map_some h
  have a := List.mem_of_find?_eq_some h1
  have b := List.find?_some h1
  simp only [Bool.and_eq_true, beq_iff_eq] at b
  obtain ⟨b1, b2, b3⟩ := b
  cases h2
  subst b1 b2 b3
  exact ⟨_, a, rfl, rfl⟩
end QL
set_option Elab.async false
set_option linter.all false
set_option maxRecDepth 100000
set_option maxHeartbeats 4000000
namespace K01
open PySem QL
open L2 hiding wE wT
def topS (i : Nat) : Stmt := PySem.Challenge.pw_quietlanes_k01_shapes_made.main.body.getD i (.Pass ⟨0, 0, 0, 0⟩)
def topM (i j : Nat) : Stmt := match topS i with
  | .ClassDef _ _ _ b _ _ _ _ _ _ _ => b.getD j (.Pass ⟨0, 0, 0, 0⟩)
  | _ => .Pass ⟨0, 0, 0, 0⟩
def b_is_within : Sxs := (.cons (.ret (.and (.isi (.var 0) .int) (.and (.not (.isi (.var 0) .bool)) (.chn .LtE .LtE (.var 1) (.var 0) (.var 2)))))
    .nil)
def i_is_within : FnI := ⟨["thing", "least", "most"], 3, b_is_within⟩
def b_halves_up : Sxs := (.cons (.ret (.op .FloorDiv (.op .Sub (.op .Add (.var 0) (.var 1)) (.lit (.int 1))) (.var 1)))
    .nil)
def i_halves_up : FnI := ⟨["many", "fan"], 2, b_halves_up⟩
def b_Shape_init__ : Sxs := (.cons (.ifs (.not (.val (.fn "is_within" (.cons (.var 1) (.cons (.lit (.int 1)) (.cons (.cst "MOST_LANES") .nil)))))) (.cons (.rai "NoShape" (.cons (.lit (.str "lanes")) .nil))
    .nil) .nil)
    (.cons (.ifs (.not (.val (.fn "is_within" (.cons (.var 2) (.cons (.cst "LEAST_FAN") (.cons (.cst "MOST_FAN") .nil)))))) (.cons (.rai "NoShape" (.cons (.lit (.str "fan")) .nil))
    .nil) .nil)
    (.cons (.setF (.var 0) "own_lanes" (.var 1))
    (.cons (.setF (.var 0) "own_fan" (.var 2))
    (.cons (.setF (.var 0) "rows" (.lst (.cons (.fn "halves_up" (.cons (.var 1) (.cons (.var 2) .nil))) .nil)))
    (.cons (.whl (.cmp .Gt (.idx (.fld (.var 0) "rows") (.lit (.int 0))) (.lit (.int 1))) (.cons (.exp (.bm .insert (.fld (.var 0) "rows") (.cons (.lit (.int 0)) (.cons (.fn "halves_up" (.cons (.idx (.fld (.var 0) "rows") (.lit (.int 0))) (.cons (.var 2) .nil))) .nil))))
    .nil))
    .nil))))))
def i_Shape_init__ : FnI := ⟨["self", "lanes", "fan"], 3, b_Shape_init__⟩
def b_Shape_lanes : Sxs := (.cons (.ret (.fld (.var 0) "own_lanes"))
    .nil)
def i_Shape_lanes : FnI := ⟨["self"], 1, b_Shape_lanes⟩
def b_Shape_fan : Sxs := (.cons (.ret (.fld (.var 0) "own_fan"))
    .nil)
def i_Shape_fan : FnI := ⟨["self"], 1, b_Shape_fan⟩
def b_law_pool : Sxs := (.cons (.asg 2 (.idx (.op .Add (.slc (.var 0) (.some (.var 1)) (.some (.op .Add (.var 1) (.lit (.int 1))))) (.lst (.cons (.lit (.int 0)) .nil))) (.lit (.int 0))))
    (.cons (.asg 3 (.op .Mod (.op .Mult (.op .Add (.op .Add (.op .Mod (.var 2) (.lit (.int 2147483647))) (.op .Mult (.lit (.int 7919)) (.var 1))) (.lit (.int 1))) (.lit (.int 48271))) (.lit (.int 2147483629))))
    (.cons (.ret (.lst (.cons (.op .Mult (.bi .int (.cons (.cmp .GtE (.var 2) (.op .Pow (.lit (.int 10)) (.lit (.int 18)))) .nil)) (.var 2)) (.cons (.var 3) .nil))))
    .nil)))
def i_law_pool : FnI := ⟨["_law_script", "_law_k", "_law_cell", "_law_seed"], 2, b_law_pool⟩
def b_law_take : Sxs := (.cons (.ifs (.cmp .Gt (.idx (.var 0) (.lit (.int 0))) (.lit (.int 0))) (.cons (.asg 2 (.op .Mod (.idx (.var 0) (.lit (.int 0))) (.var 1)))
    (.cons (.setI (.var 0) (.lit (.int 0)) (.op .FloorDiv (.idx (.var 0) (.lit (.int 0))) (.var 1)))
    (.cons (.ret (.var 2))
    .nil))) .nil)
    (.cons (.setI (.var 0) (.lit (.int 1)) (.op .Mod (.op .Add (.op .Mult (.idx (.var 0) (.lit (.int 1))) (.lit (.int 48271))) (.lit (.int 11))) (.lit (.int 2147483647))))
    (.cons (.ret (.op .Mod (.op .FloorDiv (.op .Mod (.op .Mult (.idx (.var 0) (.lit (.int 1))) (.idx (.var 0) (.lit (.int 1)))) (.lit (.int 2147483629))) (.lit (.int 64))) (.var 1)))
    .nil)))
def i_law_take : FnI := ⟨["_law_pool_here", "_law_size", "_law_found"], 2, b_law_take⟩
def b_law_kinds : Sxs := (.cons (.asg 1 (.lst (.cons (.isx (.var 0) "NoShape") (.cons (.isx (.var 0) "NoNumber") (.cons (.isx (.var 0) "NoBits") .nil)))))
    (.cons (.asg 1 (.op .Add (.var 1) (.lst (.cons (.isx (.var 0) "NoState") (.cons (.isx (.var 0) "NoDeed") (.cons (.isx (.var 0) "NoStand") .nil))))))
    (.cons (.asg 1 (.op .Add (.var 1) (.lst (.cons (.isx (.var 0) "NoHands") (.cons (.isx (.var 0) "NoText") (.cons (.isx (.var 0) "NoRow") .nil))))))
    (.cons (.asg 1 (.op .Add (.var 1) (.lst (.cons (.isx (.var 0) "NoLane") (.cons (.isx (.var 0) "NoNode") (.cons (.isx (.var 0) "NoReader") .nil))))))
    (.cons (.asg 1 (.op .Add (.var 1) (.lst (.cons (.isx (.var 0) "NoRule") (.cons (.isx (.var 0) "NoName") (.cons (.isx (.var 0) "TooMany") .nil))))))
    (.cons (.ret (.op .Add (.var 1) (.lst (.cons (.isx (.var 0) "Bare") .nil))))
    .nil))))))
def i_law_kinds : FnI := ⟨["_law_error", "_law_found"], 1, b_law_kinds⟩
def b_law_told : Sxs := (.cons (.asg 2 (.lit .non))
    (.cons (.asg 3 (.lit .non))
    (.cons (.trx (.cons (.asg 3 (.mkC "Shape" ["fan"] (.cons (.var 0) (.cons (.var 1) .nil))))
    .nil) ["NoShape"] 4 2)
    (.cons (.ifs (.cmp .Is (.var 2) (.lit .non)) (.cons (.ret (.lst (.cons (.met (.var 3) "lanes" .nil) (.cons (.met (.var 3) "fan" .nil) .nil))))
    .nil) .nil)
    (.cons (.ifs (.or (.not (.val (.isx (.var 2) "ValueError"))) (.cmp .NotEq (.fn "_law_kinds" (.cons (.var 2) .nil)) (.op .Add (.lst (.cons (.lit (.bl true)) .nil)) (.op .Mult (.lst (.cons (.lit (.bl false)) .nil)) (.lit (.int 15)))))) (.cons (.ret (.lit (.str "odd")))
    .nil) .nil)
    (.cons (.ret (.fld (.var 2) "what"))
    .nil))))))
def i_law_told : FnI := ⟨["_law_lanes", "_law_wide", "_law_error", "_law_found", "e"], 2, b_law_told⟩
def b_law_whole : Sxs := (.cons (.ret (.and (.isi (.var 0) .int) (.and (.not (.isi (.var 0) .bool)) (.chn .LtE .LtE (.var 1) (.var 0) (.var 2)))))
    .nil)
def i_law_whole : FnI := ⟨["_law_thing_here", "_law_least", "_law_most"], 3, b_law_whole⟩
def b_law_due : Sxs := (.cons (.ifs (.not (.val (.fn "_law_whole" (.cons (.var 0) (.cons (.lit (.int 1)) (.cons (.lit (.int 8)) .nil)))))) (.cons (.ret (.lit (.str "lanes")))
    .nil) .nil)
    (.cons (.ret (.ite (.val (.fn "_law_whole" (.cons (.var 1) (.cons (.lit (.int 2)) (.cons (.lit (.int 4)) .nil))))) (.lst (.cons (.var 0) (.cons (.var 1) .nil))) (.lit (.str "fan"))))
    .nil))
def i_law_due : FnI := ⟨["_law_lanes", "_law_wide"], 2, b_law_due⟩
def b_law_thing : Sxs := (.cons (.asg 2 (.lst (.cons (.var 1) (.cons (.var 1) (.cons (.var 1) (.cons (.var 1) (.cons (.lit .non) (.cons (.lit (.bl true)) (.cons (.lit (.bl false)) (.cons (.bi .str (.cons (.var 1) .nil)) (.cons (.lst (.cons (.var 1) .nil)) (.cons (.tup (.cons (.var 1) .nil)) (.cons .dct0 (.cons (.op .Pow (.lit (.int 10)) (.lit (.int 20))) (.cons (.neg (.var 1)) .nil)))))))))))))))
    (.cons (.ret (.idx (.var 2) (.fn "_law_take" (.cons (.var 0) (.cons (.lit (.int 13)) .nil)))))
    .nil))
def i_law_thing : FnI := ⟨["_law_pool_here", "_law_number", "_law_some"], 2, b_law_thing⟩
def b_law : Sxs := (.cons (.rng 1 (.lit (.int 1)) (.lit (.int 9)) (.cons (.ifs (.or (.cmp .NotEq (.met (.mkC "Shape" [] (.cons (.var 1) .nil)) "fan" .nil) (.lit (.int 2))) (.cmp .NotEq (.met (.mkC "Shape" [] (.cons (.var 1) .nil)) "lanes" .nil) (.var 1))) (.cons (.ret (.lit (.bl false)))
    .nil) .nil)
    .nil))
    (.cons (.rng 2 (.lit (.int 0)) (.bi .max (.cons (.lit (.int 2)) (.cons (.bi .min (.cons (.bi .len (.cons (.var 0) .nil)) (.cons (.lit (.int 30)) .nil))) .nil))) (.cons (.asg 3 (.fn "_law_pool" (.cons (.var 0) (.cons (.var 2) .nil))))
    (.cons (.par [1, 5] (.cons (.fn "_law_take" (.cons (.var 3) (.cons (.lit (.int 11)) .nil))) (.cons (.op .Add (.lit (.int 1)) (.fn "_law_take" (.cons (.var 3) (.cons (.lit (.int 5)) .nil)))) .nil)))
    (.cons (.asg 4 (.lst (.cons (.tup (.cons (.var 1) (.cons (.var 5) .nil))) (.cons (.tup (.cons (.fn "_law_thing" (.cons (.var 3) (.cons (.var 1) .nil))) (.cons (.var 5) .nil))) (.cons (.tup (.cons (.var 1) (.cons (.fn "_law_thing" (.cons (.var 3) (.cons (.var 5) .nil))) .nil))) (.cons (.tup (.cons (.lit .non) (.cons (.lit .non) .nil))) .nil))))))
    (.cons (.forL (.tp [6, 7]) (.var 4) (.cons (.ifs (.cmp .NotEq (.bi .repr (.cons (.fn "_law_told" (.cons (.var 6) (.cons (.var 7) .nil))) .nil)) (.bi .repr (.cons (.fn "_law_due" (.cons (.var 6) (.cons (.var 7) .nil))) .nil))) (.cons (.ret (.lit (.bl false)))
    .nil) .nil)
    .nil))
    .nil)))))
    (.cons (.ret (.lit (.bl true)))
    .nil)))
def i_law : FnI := ⟨["_law_script", "_law_lanes", "_law_k", "_law_pool_here", "_law_some", "_law_wide", "_law_one", "_law_other"], 1, b_law⟩
def kinds : List (Str × Gk) := (("law", .fn) :: ("max", .bi .max) :: ("min", .bi .min) :: ("len", .bi .len) :: ("repr", .bi .repr) :: ("_law_told", .fn) :: ("_law_due", .fn) :: ("_law_thing", .fn) :: ("_law_take", .fn) :: ("_law_pool", .fn) :: ("Shape", .ocl) :: ("_law_kinds", .fn) :: ("isinstance", .isi) :: ("ValueError", .bxc) :: ("NoShape", .xcl) :: ("_law_whole", .fn) :: ("str", .bi .str) :: ("int", .bi .int) :: ("halves_up", .fn) :: ("is_within", .fn) :: ("MOST_FAN", .cst) :: ("LEAST_FAN", .cst) :: ("MOST_LANES", .cst) :: ("Bare", .xcl) :: ("TooMany", .xcl) :: ("NoName", .xcl) :: ("NoRule", .xcl) :: ("NoReader", .xcl) :: ("NoNode", .xcl) :: ("NoLane", .xcl) :: ("NoRow", .xcl) :: ("NoText", .xcl) :: ("NoHands", .xcl) :: ("NoStand", .xcl) :: ("NoDeed", .xcl) :: ("NoState", .xcl) :: ("NoBits", .xcl) :: ("NoNumber", .xcl) :: ("bool", .bi .bool) :: [])
def gl (x : Str) : Gk := (kinds.lookup x).getD .no
def tab : List (Str × FnI) := (("is_within", i_is_within) :: ("halves_up", i_halves_up) :: ("Shape.__init__", i_Shape_init__) :: ("Shape.lanes", i_Shape_lanes) :: ("Shape.fan", i_Shape_fan) :: ("_law_pool", i_law_pool) :: ("_law_take", i_law_take) :: ("_law_kinds", i_law_kinds) :: ("_law_told", i_law_told) :: ("_law_whole", i_law_whole) :: ("_law_due", i_law_due) :: ("_law_thing", i_law_thing) :: ("law", i_law) :: [])
def T (x : Str) : Option FnI := tab.lookup x
theorem t_is_within : T "is_within" = some i_is_within := by kernel_rfl
theorem u_is_within {S : Stat} {n : Nat} {H : Hp} {Q : VK} {E : XK} {a0 a1 a2 : V} (h : wSs S (sem S T n) (fun c d _ H1 => E c d H1) b_is_within { nx := fun _ H1 => Q .non H1, rt := Q } [some a0, some a1, some a2] H) : (sem S T (n + 1)).fn "is_within" [a0, a1, a2] H Q E := by
  unfold sem
  simp only [t_is_within]
  exact ⟨rfl, h⟩
theorem t_halves_up : T "halves_up" = some i_halves_up := by kernel_rfl
theorem u_halves_up {S : Stat} {n : Nat} {H : Hp} {Q : VK} {E : XK} {a0 a1 : V} (h : wSs S (sem S T n) (fun c d _ H1 => E c d H1) b_halves_up { nx := fun _ H1 => Q .non H1, rt := Q } [some a0, some a1] H) : (sem S T (n + 1)).fn "halves_up" [a0, a1] H Q E := by
  unfold sem
  simp only [t_halves_up]
  exact ⟨rfl, h⟩
theorem t_Shape_init__ : T "Shape.__init__" = some i_Shape_init__ := by kernel_rfl
theorem u_Shape_init__ {S : Stat} {n : Nat} {H : Hp} {Q : VK} {E : XK} {a0 a1 a2 : V} (h : wSs S (sem S T n) (fun c d _ H1 => E c d H1) b_Shape_init__ { nx := fun _ H1 => Q .non H1, rt := Q } [some a0, some a1, some a2] H) : (sem S T (n + 1)).fn "Shape.__init__" [a0, a1, a2] H Q E := by
  unfold sem
  simp only [t_Shape_init__]
  exact ⟨rfl, h⟩
theorem t_Shape_lanes : T "Shape.lanes" = some i_Shape_lanes := by kernel_rfl
theorem u_Shape_lanes {S : Stat} {n : Nat} {H : Hp} {Q : VK} {E : XK} {a0 : V} (h : wSs S (sem S T n) (fun c d _ H1 => E c d H1) b_Shape_lanes { nx := fun _ H1 => Q .non H1, rt := Q } [some a0] H) : (sem S T (n + 1)).fn "Shape.lanes" [a0] H Q E := by
  unfold sem
  simp only [t_Shape_lanes]
  exact ⟨rfl, h⟩
theorem t_Shape_fan : T "Shape.fan" = some i_Shape_fan := by kernel_rfl
theorem u_Shape_fan {S : Stat} {n : Nat} {H : Hp} {Q : VK} {E : XK} {a0 : V} (h : wSs S (sem S T n) (fun c d _ H1 => E c d H1) b_Shape_fan { nx := fun _ H1 => Q .non H1, rt := Q } [some a0] H) : (sem S T (n + 1)).fn "Shape.fan" [a0] H Q E := by
  unfold sem
  simp only [t_Shape_fan]
  exact ⟨rfl, h⟩
theorem t_law_pool : T "_law_pool" = some i_law_pool := by kernel_rfl
theorem u_law_pool {S : Stat} {n : Nat} {H : Hp} {Q : VK} {E : XK} {a0 a1 : V} (h : wSs S (sem S T n) (fun c d _ H1 => E c d H1) b_law_pool { nx := fun _ H1 => Q .non H1, rt := Q } [some a0, some a1, none, none] H) : (sem S T (n + 1)).fn "_law_pool" [a0, a1] H Q E := by
  unfold sem
  simp only [t_law_pool]
  exact ⟨rfl, h⟩
theorem t_law_take : T "_law_take" = some i_law_take := by kernel_rfl
theorem u_law_take {S : Stat} {n : Nat} {H : Hp} {Q : VK} {E : XK} {a0 a1 : V} (h : wSs S (sem S T n) (fun c d _ H1 => E c d H1) b_law_take { nx := fun _ H1 => Q .non H1, rt := Q } [some a0, some a1, none] H) : (sem S T (n + 1)).fn "_law_take" [a0, a1] H Q E := by
  unfold sem
  simp only [t_law_take]
  exact ⟨rfl, h⟩
theorem t_law_kinds : T "_law_kinds" = some i_law_kinds := by kernel_rfl
theorem u_law_kinds {S : Stat} {n : Nat} {H : Hp} {Q : VK} {E : XK} {a0 : V} (h : wSs S (sem S T n) (fun c d _ H1 => E c d H1) b_law_kinds { nx := fun _ H1 => Q .non H1, rt := Q } [some a0, none] H) : (sem S T (n + 1)).fn "_law_kinds" [a0] H Q E := by
  unfold sem
  simp only [t_law_kinds]
  exact ⟨rfl, h⟩
theorem t_law_told : T "_law_told" = some i_law_told := by kernel_rfl
theorem u_law_told {S : Stat} {n : Nat} {H : Hp} {Q : VK} {E : XK} {a0 a1 : V} (h : wSs S (sem S T n) (fun c d _ H1 => E c d H1) b_law_told { nx := fun _ H1 => Q .non H1, rt := Q } [some a0, some a1, none, none, none] H) : (sem S T (n + 1)).fn "_law_told" [a0, a1] H Q E := by
  unfold sem
  simp only [t_law_told]
  exact ⟨rfl, h⟩
theorem t_law_whole : T "_law_whole" = some i_law_whole := by kernel_rfl
theorem u_law_whole {S : Stat} {n : Nat} {H : Hp} {Q : VK} {E : XK} {a0 a1 a2 : V} (h : wSs S (sem S T n) (fun c d _ H1 => E c d H1) b_law_whole { nx := fun _ H1 => Q .non H1, rt := Q } [some a0, some a1, some a2] H) : (sem S T (n + 1)).fn "_law_whole" [a0, a1, a2] H Q E := by
  unfold sem
  simp only [t_law_whole]
  exact ⟨rfl, h⟩
theorem t_law_due : T "_law_due" = some i_law_due := by kernel_rfl
theorem u_law_due {S : Stat} {n : Nat} {H : Hp} {Q : VK} {E : XK} {a0 a1 : V} (h : wSs S (sem S T n) (fun c d _ H1 => E c d H1) b_law_due { nx := fun _ H1 => Q .non H1, rt := Q } [some a0, some a1] H) : (sem S T (n + 1)).fn "_law_due" [a0, a1] H Q E := by
  unfold sem
  simp only [t_law_due]
  exact ⟨rfl, h⟩
theorem t_law_thing : T "_law_thing" = some i_law_thing := by kernel_rfl
theorem u_law_thing {S : Stat} {n : Nat} {H : Hp} {Q : VK} {E : XK} {a0 a1 : V} (h : wSs S (sem S T n) (fun c d _ H1 => E c d H1) b_law_thing { nx := fun _ H1 => Q .non H1, rt := Q } [some a0, some a1, none] H) : (sem S T (n + 1)).fn "_law_thing" [a0, a1] H Q E := by
  unfold sem
  simp only [t_law_thing]
  exact ⟨rfl, h⟩
theorem t_law : T "law" = some i_law := by kernel_rfl
theorem u_law {S : Stat} {n : Nat} {H : Hp} {Q : VK} {E : XK} {a0 : V} (h : wSs S (sem S T n) (fun c d _ H1 => E c d H1) b_law { nx := fun _ H1 => Q .non H1, rt := Q } [some a0, none, none, none, none, none, none, none] H) : (sem S T (n + 1)).fn "law" [a0] H Q E := by
  unfold sem
  simp only [t_law]
  exact ⟨rfl, h⟩
theorem c_is_within : nCS (cS ⟨i_is_within.N, defScope (topS 22), gl⟩ 60) (defBody (topS 22)) = some i_is_within.body := by kernel_rfl
theorem c_halves_up : nCS (cS ⟨i_halves_up.N, defScope (topS 23), gl⟩ 60) (defBody (topS 23)) = some i_halves_up.body := by kernel_rfl
theorem c_Shape_init__ : nCS (cS ⟨i_Shape_init__.N, defScope (topM 24 0), gl⟩ 60) (defBody (topM 24 0)) = some i_Shape_init__.body := by kernel_rfl
theorem c_Shape_lanes : nCS (cS ⟨i_Shape_lanes.N, defScope (topM 24 1), gl⟩ 60) (defBody (topM 24 1)) = some i_Shape_lanes.body := by kernel_rfl
theorem c_Shape_fan : nCS (cS ⟨i_Shape_fan.N, defScope (topM 24 2), gl⟩ 60) (defBody (topM 24 2)) = some i_Shape_fan.body := by kernel_rfl
theorem c_law_pool : nCS (cS ⟨i_law_pool.N, defScope (topS 26), gl⟩ 60) (defBody (topS 26)) = some i_law_pool.body := by kernel_rfl
theorem c_law_take : nCS (cS ⟨i_law_take.N, defScope (topS 27), gl⟩ 60) (defBody (topS 27)) = some i_law_take.body := by kernel_rfl
theorem c_law_kinds : nCS (cS ⟨i_law_kinds.N, defScope (topS 28), gl⟩ 60) (defBody (topS 28)) = some i_law_kinds.body := by kernel_rfl
theorem c_law_told : nCS (cS ⟨i_law_told.N, defScope (topS 29), gl⟩ 60) (defBody (topS 29)) = some i_law_told.body := by kernel_rfl
theorem c_law_whole : nCS (cS ⟨i_law_whole.N, defScope (topS 30), gl⟩ 60) (defBody (topS 30)) = some i_law_whole.body := by kernel_rfl
theorem c_law_due : nCS (cS ⟨i_law_due.N, defScope (topS 31), gl⟩ 60) (defBody (topS 31)) = some i_law_due.body := by kernel_rfl
theorem c_law_thing : nCS (cS ⟨i_law_thing.N, defScope (topS 32), gl⟩ 60) (defBody (topS 32)) = some i_law_thing.body := by kernel_rfl
theorem c_law : nCS (cS ⟨i_law.N, defScope (topS 33), gl⟩ 60) (defBody (topS 33)) = some i_law.body := by kernel_rfl
set_option Elab.async false
set_option linter.all false
set_option maxRecDepth 100000
set_option maxHeartbeats 4000000
open PySem QL
open L2 hiding wE wT
def dfs : List He.DefD := 
  ⟨("is_within", none), "is_within", "is_within", defArgs (topS 22), defBody (topS 22), defScope (topS 22), [], []⟩ ::
  ⟨("halves_up", none), "halves_up", "halves_up", defArgs (topS 23), defBody (topS 23), defScope (topS 23), [], []⟩ ::
  ⟨("Shape", some "__init__"), "__init__", "Shape.__init__", defArgs (topM 24 0), defBody (topM 24 0), defScope (topM 24 0), [], [("fan", .int 2)]⟩ ::
  ⟨("Shape", some "lanes"), "lanes", "Shape.lanes", defArgs (topM 24 1), defBody (topM 24 1), defScope (topM 24 1), [], []⟩ ::
  ⟨("Shape", some "fan"), "fan", "Shape.fan", defArgs (topM 24 2), defBody (topM 24 2), defScope (topM 24 2), [], []⟩ ::
  ⟨("_law_pool", none), "_law_pool", "_law_pool", defArgs (topS 26), defBody (topS 26), defScope (topS 26), [], []⟩ ::
  ⟨("_law_take", none), "_law_take", "_law_take", defArgs (topS 27), defBody (topS 27), defScope (topS 27), [], []⟩ ::
  ⟨("_law_kinds", none), "_law_kinds", "_law_kinds", defArgs (topS 28), defBody (topS 28), defScope (topS 28), [], []⟩ ::
  ⟨("_law_told", none), "_law_told", "_law_told", defArgs (topS 29), defBody (topS 29), defScope (topS 29), [], []⟩ ::
  ⟨("_law_whole", none), "_law_whole", "_law_whole", defArgs (topS 30), defBody (topS 30), defScope (topS 30), [], []⟩ ::
  ⟨("_law_due", none), "_law_due", "_law_due", defArgs (topS 31), defBody (topS 31), defScope (topS 31), [], []⟩ ::
  ⟨("_law_thing", none), "_law_thing", "_law_thing", defArgs (topS 32), defBody (topS 32), defScope (topS 32), [], []⟩ ::
  ⟨("law", none), "law", "law", defArgs (topS 33), defBody (topS 33), defScope (topS 33), [], []⟩ ::
  ⟨("NoShape", some "__init__"), "__init__", "NoShape.__init__", defArgs (topM 2 0), defBody (topM 2 0), defScope (topM 2 0), [], []⟩ :: []
def cfl : List (Str × Str) := (("Shape", "own_lanes") :: ("Shape", "own_fan") :: ("Shape", "rows") :: [])
def cmt : List (Str × Str × Str) := (("Shape", "lanes", "Shape.lanes") :: ("Shape", "fan", "Shape.fan") :: [])
def mks : List MkR := (("Shape", 1, [], "Shape.__init__", fun K => [.inl 0, .inr (.int 2)]) :: ("Shape", 2, ["fan"], "Shape.__init__", fun K => [.inl 0, .inl 1]) :: [])
def fas : List He.Fa := (.glo "law" :: .glo "_law_told" :: .glo "_law_due" :: .glo "_law_thing" :: .glo "_law_take" :: .glo "_law_pool" :: .glo "_law_kinds" :: .glo "_law_whole" :: .glo "halves_up" :: .glo "is_within" :: .glo "NoShape" :: .glo "Bare" :: .glo "TooMany" :: .glo "NoName" :: .glo "NoRule" :: .glo "NoReader" :: .glo "NoNode" :: .glo "NoLane" :: .glo "NoRow" :: .glo "NoText" :: .glo "NoHands" :: .glo "NoStand" :: .glo "NoDeed" :: .glo "NoState" :: .glo "NoBits" :: .glo "NoNumber" :: .glo "Shape" :: .keep "NoShape" :: .keep "Bare" :: .keep "TooMany" :: .keep "NoName" :: .keep "NoRule" :: .keep "NoReader" :: .keep "NoNode" :: .keep "NoLane" :: .keep "NoRow" :: .keep "NoText" :: .keep "NoHands" :: .keep "NoStand" :: .keep "NoDeed" :: .keep "NoState" :: .keep "NoBits" :: .keep "NoNumber" :: .keep "Shape" :: .free "max" :: .free "min" :: .free "len" :: .free "repr" :: .free "isinstance" :: .free "str" :: .free "int" :: .free "bool" :: .free "range" :: .free "ValueError" :: .free "IndexError" :: .free "KeyError" :: .free "LookupError" :: .free "OverflowError" :: .free "RuntimeError" :: .int "MOST_FAN" 4 :: .int "LEAST_FAN" 2 :: .int "MOST_LANES" 8 :: .cls "Shape" :: .noat "Shape" "own_lanes" :: .noat "Shape" "own_fan" :: .noat "Shape" "rows" :: .meth "Shape" "lanes" :: .meth "Shape" "fan" :: .mkr "Shape" :: [])
def ocs : List Str := ("NoShape" :: "Bare" :: "TooMany" :: "NoName" :: "NoRule" :: "NoReader" :: "NoNode" :: "NoLane" :: "NoRow" :: "NoText" :: "NoHands" :: "NoStand" :: "NoDeed" :: "NoState" :: "NoBits" :: "NoNumber" :: "Shape" :: [])
def xks : List (Str × Xb × Option Str) := (("NoShape", .ve, some "what") :: [])
def xcs : List (Str × Option Str) := xks.map fun e => (e.1, e.2.2)
def xfB (K : PySem.W.Frag) (C : Addr) (f : Str) : Bool := (xcs.any fun e => e.2 == some f && He.ga K e.1 == C) && (xvB K C && decide (PySem.W.findIn K (.ref C) f = some none))
def cst (x : Str) : Option V := ([("MOST_FAN", .int 4), ("LEAST_FAN", .int 2), ("MOST_LANES", .int 8)] : List (Str × V)).lookup x
def St0 (K : PySem.W.Frag) (so : Addr → Option HO) : Stat where
  gv := cst
  so := so
  fl := fun C f => ∃ x, C = He.ga K x ∧ (x, f) ∈ cfl
  xc := fun x => (xcs.lookup x).map fun f => (He.ga K x, f)
  isa := isaF K ocs
  iso := isoF K ocs
  isb := isbF K ocs
  xf := fun C f => xfB K C f = true
  mt := mtF K cmt
  mkc := mkF K mks
def exs (more : PySem.W.Frag → Bool) (K : PySem.W.Frag) : Bool := (fas.all fun f => f.ok K) && ((xks.all fun e => xkB K e.1 e.2.1 e.2.2) && more K)
section
variable {K : PySem.W.Frag} {mg : Str → Option Value} {h : Heap} {more : PySem.W.Frag → Bool}
theorem fact (c : SaysQ (exs more) dfs K) (i : Nat) {f : He.Fa} (e : fas[i]? = some f) : f.ok K = true := List.all_eq_true.mp (He.ba c.more).1 f (List.mem_of_getElem? e)
theorem xk (c : SaysQ (exs more) dfs K) (i : Nat) {e : Str × Xb × Option Str} (q : xks[i]? = some e) : xkB K e.1 e.2.1 e.2.2 = true := List.all_eq_true.mp (He.ba (He.ba c.more).2).1 e (List.mem_of_getElem? q)
theorem says_more (c : SaysQ (exs more) dfs K) : more K = true := (He.ba (He.ba c.more).2).2
theorem e_is_within (c : SaysQ (exs more) dfs K) : ∃ fd, DefB K gl "is_within" "is_within" i_is_within (topS 22) (He.fAd K ("is_within", none)) fd ["thing", "least", "most"] ∧ Binds K fd ["thing", "least", "most"] [] := by
  obtain ⟨fd, F⟩ := c.def_ 0 rfl
  have F : FunD K "is_within" "is_within" (defArgs (topS 22)) (defBody (topS 22)) (defScope (topS 22)) [] [] _ fd := F
  exact ⟨fd, ⟨⟨_, _, F⟩, ⟨rfl, rfl, rfl, by decide +kernel, rfl, by decide +kernel, by decide +kernel⟩, rfl, c_is_within⟩, bind_mk F fun _ _ _ _ _ _ us hl => match us, hl with | [_, _, _], _ => rfl⟩
theorem e_halves_up (c : SaysQ (exs more) dfs K) : ∃ fd, DefB K gl "halves_up" "halves_up" i_halves_up (topS 23) (He.fAd K ("halves_up", none)) fd ["many", "fan"] ∧ Binds K fd ["many", "fan"] [] := by
  obtain ⟨fd, F⟩ := c.def_ 1 rfl
  have F : FunD K "halves_up" "halves_up" (defArgs (topS 23)) (defBody (topS 23)) (defScope (topS 23)) [] [] _ fd := F
  exact ⟨fd, ⟨⟨_, _, F⟩, ⟨rfl, rfl, rfl, by decide +kernel, rfl, by decide +kernel, by decide +kernel⟩, rfl, c_halves_up⟩, bind_mk F fun _ _ _ _ _ _ us hl => match us, hl with | [_, _], _ => rfl⟩
theorem e_Shape_init__ (c : SaysQ (exs more) dfs K) : ∃ fd, DefB K gl "__init__" "Shape.__init__" i_Shape_init__ (topM 24 0) (He.fAd K ("Shape", some "__init__")) fd ["self", "lanes", "fan"] ∧ FunD K "__init__" "Shape.__init__" (defArgs (topM 24 0)) (defBody (topM 24 0)) (defScope (topM 24 0)) [] [("fan", .int 2)] (He.fAd K ("Shape", some "__init__")) fd := by
  obtain ⟨fd, F⟩ := c.def_ 2 rfl
  have F : FunD K "__init__" "Shape.__init__" (defArgs (topM 24 0)) (defBody (topM 24 0)) (defScope (topM 24 0)) [] [("fan", .int 2)] _ fd := F
  exact ⟨fd, ⟨⟨_, _, F⟩, ⟨rfl, rfl, rfl, by decide +kernel, rfl, by decide +kernel, by decide +kernel⟩, rfl, c_Shape_init__⟩, F⟩
theorem e_Shape_lanes (c : SaysQ (exs more) dfs K) : ∃ fd, DefB K gl "lanes" "Shape.lanes" i_Shape_lanes (topM 24 1) (He.fAd K ("Shape", some "lanes")) fd ["self"] ∧ Binds K fd ["self"] [] := by
  obtain ⟨fd, F⟩ := c.def_ 3 rfl
  have F : FunD K "lanes" "Shape.lanes" (defArgs (topM 24 1)) (defBody (topM 24 1)) (defScope (topM 24 1)) [] [] _ fd := F
  exact ⟨fd, ⟨⟨_, _, F⟩, ⟨rfl, rfl, rfl, by decide +kernel, rfl, by decide +kernel, by decide +kernel⟩, rfl, c_Shape_lanes⟩, bind_mk F fun _ _ _ _ _ _ us hl => match us, hl with | [_], _ => rfl⟩
theorem e_Shape_fan (c : SaysQ (exs more) dfs K) : ∃ fd, DefB K gl "fan" "Shape.fan" i_Shape_fan (topM 24 2) (He.fAd K ("Shape", some "fan")) fd ["self"] ∧ Binds K fd ["self"] [] := by
  obtain ⟨fd, F⟩ := c.def_ 4 rfl
  have F : FunD K "fan" "Shape.fan" (defArgs (topM 24 2)) (defBody (topM 24 2)) (defScope (topM 24 2)) [] [] _ fd := F
  exact ⟨fd, ⟨⟨_, _, F⟩, ⟨rfl, rfl, rfl, by decide +kernel, rfl, by decide +kernel, by decide +kernel⟩, rfl, c_Shape_fan⟩, bind_mk F fun _ _ _ _ _ _ us hl => match us, hl with | [_], _ => rfl⟩
theorem e_law_pool (c : SaysQ (exs more) dfs K) : ∃ fd, DefB K gl "_law_pool" "_law_pool" i_law_pool (topS 26) (He.fAd K ("_law_pool", none)) fd ["_law_script", "_law_k"] ∧ Binds K fd ["_law_script", "_law_k"] [] := by
  obtain ⟨fd, F⟩ := c.def_ 5 rfl
  have F : FunD K "_law_pool" "_law_pool" (defArgs (topS 26)) (defBody (topS 26)) (defScope (topS 26)) [] [] _ fd := F
  exact ⟨fd, ⟨⟨_, _, F⟩, ⟨rfl, rfl, rfl, by decide +kernel, rfl, by decide +kernel, by decide +kernel⟩, rfl, c_law_pool⟩, bind_mk F fun _ _ _ _ _ _ us hl => match us, hl with | [_, _], _ => rfl⟩
theorem e_law_take (c : SaysQ (exs more) dfs K) : ∃ fd, DefB K gl "_law_take" "_law_take" i_law_take (topS 27) (He.fAd K ("_law_take", none)) fd ["_law_pool_here", "_law_size"] ∧ Binds K fd ["_law_pool_here", "_law_size"] [] := by
  obtain ⟨fd, F⟩ := c.def_ 6 rfl
  have F : FunD K "_law_take" "_law_take" (defArgs (topS 27)) (defBody (topS 27)) (defScope (topS 27)) [] [] _ fd := F
  exact ⟨fd, ⟨⟨_, _, F⟩, ⟨rfl, rfl, rfl, by decide +kernel, rfl, by decide +kernel, by decide +kernel⟩, rfl, c_law_take⟩, bind_mk F fun _ _ _ _ _ _ us hl => match us, hl with | [_, _], _ => rfl⟩
theorem e_law_kinds (c : SaysQ (exs more) dfs K) : ∃ fd, DefB K gl "_law_kinds" "_law_kinds" i_law_kinds (topS 28) (He.fAd K ("_law_kinds", none)) fd ["_law_error"] ∧ Binds K fd ["_law_error"] [] := by
  obtain ⟨fd, F⟩ := c.def_ 7 rfl
  have F : FunD K "_law_kinds" "_law_kinds" (defArgs (topS 28)) (defBody (topS 28)) (defScope (topS 28)) [] [] _ fd := F
  exact ⟨fd, ⟨⟨_, _, F⟩, ⟨rfl, rfl, rfl, by decide +kernel, rfl, by decide +kernel, by decide +kernel⟩, rfl, c_law_kinds⟩, bind_mk F fun _ _ _ _ _ _ us hl => match us, hl with | [_], _ => rfl⟩
theorem e_law_told (c : SaysQ (exs more) dfs K) : ∃ fd, DefB K gl "_law_told" "_law_told" i_law_told (topS 29) (He.fAd K ("_law_told", none)) fd ["_law_lanes", "_law_wide"] ∧ Binds K fd ["_law_lanes", "_law_wide"] [] := by
  obtain ⟨fd, F⟩ := c.def_ 8 rfl
  have F : FunD K "_law_told" "_law_told" (defArgs (topS 29)) (defBody (topS 29)) (defScope (topS 29)) [] [] _ fd := F
  exact ⟨fd, ⟨⟨_, _, F⟩, ⟨rfl, rfl, rfl, by decide +kernel, rfl, by decide +kernel, by decide +kernel⟩, rfl, c_law_told⟩, bind_mk F fun _ _ _ _ _ _ us hl => match us, hl with | [_, _], _ => rfl⟩
theorem e_law_whole (c : SaysQ (exs more) dfs K) : ∃ fd, DefB K gl "_law_whole" "_law_whole" i_law_whole (topS 30) (He.fAd K ("_law_whole", none)) fd ["_law_thing_here", "_law_least", "_law_most"] ∧ Binds K fd ["_law_thing_here", "_law_least", "_law_most"] [] := by
  obtain ⟨fd, F⟩ := c.def_ 9 rfl
  have F : FunD K "_law_whole" "_law_whole" (defArgs (topS 30)) (defBody (topS 30)) (defScope (topS 30)) [] [] _ fd := F
  exact ⟨fd, ⟨⟨_, _, F⟩, ⟨rfl, rfl, rfl, by decide +kernel, rfl, by decide +kernel, by decide +kernel⟩, rfl, c_law_whole⟩, bind_mk F fun _ _ _ _ _ _ us hl => match us, hl with | [_, _, _], _ => rfl⟩
theorem e_law_due (c : SaysQ (exs more) dfs K) : ∃ fd, DefB K gl "_law_due" "_law_due" i_law_due (topS 31) (He.fAd K ("_law_due", none)) fd ["_law_lanes", "_law_wide"] ∧ Binds K fd ["_law_lanes", "_law_wide"] [] := by
  obtain ⟨fd, F⟩ := c.def_ 10 rfl
  have F : FunD K "_law_due" "_law_due" (defArgs (topS 31)) (defBody (topS 31)) (defScope (topS 31)) [] [] _ fd := F
  exact ⟨fd, ⟨⟨_, _, F⟩, ⟨rfl, rfl, rfl, by decide +kernel, rfl, by decide +kernel, by decide +kernel⟩, rfl, c_law_due⟩, bind_mk F fun _ _ _ _ _ _ us hl => match us, hl with | [_, _], _ => rfl⟩
theorem e_law_thing (c : SaysQ (exs more) dfs K) : ∃ fd, DefB K gl "_law_thing" "_law_thing" i_law_thing (topS 32) (He.fAd K ("_law_thing", none)) fd ["_law_pool_here", "_law_number"] ∧ Binds K fd ["_law_pool_here", "_law_number"] [] := by
  obtain ⟨fd, F⟩ := c.def_ 11 rfl
  have F : FunD K "_law_thing" "_law_thing" (defArgs (topS 32)) (defBody (topS 32)) (defScope (topS 32)) [] [] _ fd := F
  exact ⟨fd, ⟨⟨_, _, F⟩, ⟨rfl, rfl, rfl, by decide +kernel, rfl, by decide +kernel, by decide +kernel⟩, rfl, c_law_thing⟩, bind_mk F fun _ _ _ _ _ _ us hl => match us, hl with | [_, _], _ => rfl⟩
theorem e_law (c : SaysQ (exs more) dfs K) : ∃ fd, DefB K gl "law" "law" i_law (topS 33) (He.fAd K ("law", none)) fd ["_law_script"] ∧ Binds K fd ["_law_script"] [] := by
  obtain ⟨fd, F⟩ := c.def_ 12 rfl
  have F : FunD K "law" "law" (defArgs (topS 33)) (defBody (topS 33)) (defScope (topS 33)) [] [] _ fd := F
  exact ⟨fd, ⟨⟨_, _, F⟩, ⟨rfl, rfl, rfl, by decide +kernel, rfl, by decide +kernel, by decide +kernel⟩, rfl, c_law⟩, bind_mk F fun _ _ _ _ _ _ us hl => match us, hl with | [_], _ => rfl⟩
theorem nms (X : K.In h) (G : h.Ns mainGlobals mg) (c : SaysQ (exs more) dfs K) : ClsNs K mg ocs where
  own := fun x hx => by
    have A : ∀ y ∈ ocs, (y == ("__debug__" : Str)) = false := by decide
    refine ⟨A x hx, ?_⟩
    simp only [ocs, List.mem_cons, List.not_mem_nil, or_false] at hx
    rcases hx with rfl | rfl | rfl | rfl | rfl | rfl | rfl | rfl | rfl | rfl | rfl | rfl | rfl | rfl | rfl | rfl | rfl
    · exact He.glo_ok X G (fact c 10 (f := .glo "NoShape") rfl)
    · exact He.glo_ok X G (fact c 11 (f := .glo "Bare") rfl)
    · exact He.glo_ok X G (fact c 12 (f := .glo "TooMany") rfl)
    · exact He.glo_ok X G (fact c 13 (f := .glo "NoName") rfl)
    · exact He.glo_ok X G (fact c 14 (f := .glo "NoRule") rfl)
    · exact He.glo_ok X G (fact c 15 (f := .glo "NoReader") rfl)
    · exact He.glo_ok X G (fact c 16 (f := .glo "NoNode") rfl)
    · exact He.glo_ok X G (fact c 17 (f := .glo "NoLane") rfl)
    · exact He.glo_ok X G (fact c 18 (f := .glo "NoRow") rfl)
    · exact He.glo_ok X G (fact c 19 (f := .glo "NoText") rfl)
    · exact He.glo_ok X G (fact c 20 (f := .glo "NoHands") rfl)
    · exact He.glo_ok X G (fact c 21 (f := .glo "NoStand") rfl)
    · exact He.glo_ok X G (fact c 22 (f := .glo "NoDeed") rfl)
    · exact He.glo_ok X G (fact c 23 (f := .glo "NoState") rfl)
    · exact He.glo_ok X G (fact c 24 (f := .glo "NoBits") rfl)
    · exact He.glo_ok X G (fact c 25 (f := .glo "NoNumber") rfl)
    · exact He.glo_ok X G (fact c 26 (f := .glo "Shape") rfl)
  blt := fun x u hx => by
    have hm := mem_fst hx
    simp only [bxs, List.map_cons, List.map_nil, List.mem_cons, List.not_mem_nil, or_false] at hm
    rcases hm with rfl | rfl | rfl | rfl | rfl | rfl
    · exact He.free_ok X G (fact c 53 (f := .free "ValueError") rfl)
    · exact He.free_ok X G (fact c 54 (f := .free "IndexError") rfl)
    · exact He.free_ok X G (fact c 55 (f := .free "KeyError") rfl)
    · exact He.free_ok X G (fact c 56 (f := .free "LookupError") rfl)
    · exact He.free_ok X G (fact c 57 (f := .free "OverflowError") rfl)
    · exact He.free_ok X G (fact c 58 (f := .free "RuntimeError") rfl)
theorem tops (X : K.In h) (G : h.Ns mainGlobals mg) (c : SaysQ (exs more) dfs K) (so : Addr → Option HO) (hso : SoOk K so) : Top K mg (St0 K so) T gl := by
  obtain ⟨d_law, D_law, B_law⟩ := e_law c
  obtain ⟨d_law_told, D_law_told, B_law_told⟩ := e_law_told c
  obtain ⟨d_law_due, D_law_due, B_law_due⟩ := e_law_due c
  obtain ⟨d_law_thing, D_law_thing, B_law_thing⟩ := e_law_thing c
  obtain ⟨d_law_take, D_law_take, B_law_take⟩ := e_law_take c
  obtain ⟨d_law_pool, D_law_pool, B_law_pool⟩ := e_law_pool c
  obtain ⟨d_law_kinds, D_law_kinds, B_law_kinds⟩ := e_law_kinds c
  obtain ⟨d_law_whole, D_law_whole, B_law_whole⟩ := e_law_whole c
  obtain ⟨d_halves_up, D_halves_up, B_halves_up⟩ := e_halves_up c
  obtain ⟨d_is_within, D_is_within, B_is_within⟩ := e_is_within c
  have A : AllF (Fact K mg (St0 K so) T gl) kinds := ⟨⟨_, _, _, _, _, t_law, ⟨D_law, He.glo_ok X G (fact c 0 (f := .glo "law") rfl), B_law, by decide⟩⟩, ⟨rfl, He.free_ok X G (fact c 44 (f := .free "max") rfl)⟩, ⟨rfl, He.free_ok X G (fact c 45 (f := .free "min") rfl)⟩, ⟨rfl, He.free_ok X G (fact c 46 (f := .free "len") rfl)⟩, ⟨rfl, He.free_ok X G (fact c 47 (f := .free "repr") rfl)⟩, ⟨_, _, _, _, _, t_law_told, ⟨D_law_told, He.glo_ok X G (fact c 1 (f := .glo "_law_told") rfl), B_law_told, by decide⟩⟩, ⟨_, _, _, _, _, t_law_due, ⟨D_law_due, He.glo_ok X G (fact c 2 (f := .glo "_law_due") rfl), B_law_due, by decide⟩⟩, ⟨_, _, _, _, _, t_law_thing, ⟨D_law_thing, He.glo_ok X G (fact c 3 (f := .glo "_law_thing") rfl), B_law_thing, by decide⟩⟩, ⟨_, _, _, _, _, t_law_take, ⟨D_law_take, He.glo_ok X G (fact c 4 (f := .glo "_law_take") rfl), B_law_take, by decide⟩⟩, ⟨_, _, _, _, _, t_law_pool, ⟨D_law_pool, He.glo_ok X G (fact c 5 (f := .glo "_law_pool") rfl), B_law_pool, by decide⟩⟩, ⟨_, by decide, He.glo_ok X G (fact c 26 (f := .glo "Shape") rfl), He.keep_ok (fact c 43 (f := .keep "Shape") rfl)⟩, ⟨_, _, _, _, _, t_law_kinds, ⟨D_law_kinds, He.glo_ok X G (fact c 6 (f := .glo "_law_kinds") rfl), B_law_kinds, by decide⟩⟩, ⟨rfl, He.free_ok X G (fact c 48 (f := .free "isinstance") rfl)⟩, ⟨"ValueError", by decide, He.free_ok X G (fact c 53 (f := .free "ValueError") rfl), by decide +kernel, by decide⟩, ⟨_, by decide, He.glo_ok X G (fact c 10 (f := .glo "NoShape") rfl), He.keep_ok (fact c 27 (f := .keep "NoShape") rfl)⟩, ⟨_, _, _, _, _, t_law_whole, ⟨D_law_whole, He.glo_ok X G (fact c 7 (f := .glo "_law_whole") rfl), B_law_whole, by decide⟩⟩, ⟨rfl, He.free_ok X G (fact c 49 (f := .free "str") rfl)⟩, ⟨rfl, He.free_ok X G (fact c 50 (f := .free "int") rfl)⟩, ⟨_, _, _, _, _, t_halves_up, ⟨D_halves_up, He.glo_ok X G (fact c 8 (f := .glo "halves_up") rfl), B_halves_up, by decide⟩⟩, ⟨_, _, _, _, _, t_is_within, ⟨D_is_within, He.glo_ok X G (fact c 9 (f := .glo "is_within") rfl), B_is_within, by decide⟩⟩, (fun v hv => by cases hv; obtain ⟨t, ht⟩ := He.int_ok X G (fact c 59 (f := .int "MOST_FAN" 4) rfl); exact ⟨_, ht, ⟨t, rfl⟩⟩), (fun v hv => by cases hv; obtain ⟨t, ht⟩ := He.int_ok X G (fact c 60 (f := .int "LEAST_FAN" 2) rfl); exact ⟨_, ht, ⟨t, rfl⟩⟩), (fun v hv => by cases hv; obtain ⟨t, ht⟩ := He.int_ok X G (fact c 61 (f := .int "MOST_LANES" 8) rfl); exact ⟨_, ht, ⟨t, rfl⟩⟩), ⟨_, by decide, He.glo_ok X G (fact c 11 (f := .glo "Bare") rfl), He.keep_ok (fact c 28 (f := .keep "Bare") rfl)⟩, ⟨_, by decide, He.glo_ok X G (fact c 12 (f := .glo "TooMany") rfl), He.keep_ok (fact c 29 (f := .keep "TooMany") rfl)⟩, ⟨_, by decide, He.glo_ok X G (fact c 13 (f := .glo "NoName") rfl), He.keep_ok (fact c 30 (f := .keep "NoName") rfl)⟩, ⟨_, by decide, He.glo_ok X G (fact c 14 (f := .glo "NoRule") rfl), He.keep_ok (fact c 31 (f := .keep "NoRule") rfl)⟩, ⟨_, by decide, He.glo_ok X G (fact c 15 (f := .glo "NoReader") rfl), He.keep_ok (fact c 32 (f := .keep "NoReader") rfl)⟩, ⟨_, by decide, He.glo_ok X G (fact c 16 (f := .glo "NoNode") rfl), He.keep_ok (fact c 33 (f := .keep "NoNode") rfl)⟩, ⟨_, by decide, He.glo_ok X G (fact c 17 (f := .glo "NoLane") rfl), He.keep_ok (fact c 34 (f := .keep "NoLane") rfl)⟩, ⟨_, by decide, He.glo_ok X G (fact c 18 (f := .glo "NoRow") rfl), He.keep_ok (fact c 35 (f := .keep "NoRow") rfl)⟩, ⟨_, by decide, He.glo_ok X G (fact c 19 (f := .glo "NoText") rfl), He.keep_ok (fact c 36 (f := .keep "NoText") rfl)⟩, ⟨_, by decide, He.glo_ok X G (fact c 20 (f := .glo "NoHands") rfl), He.keep_ok (fact c 37 (f := .keep "NoHands") rfl)⟩, ⟨_, by decide, He.glo_ok X G (fact c 21 (f := .glo "NoStand") rfl), He.keep_ok (fact c 38 (f := .keep "NoStand") rfl)⟩, ⟨_, by decide, He.glo_ok X G (fact c 22 (f := .glo "NoDeed") rfl), He.keep_ok (fact c 39 (f := .keep "NoDeed") rfl)⟩, ⟨_, by decide, He.glo_ok X G (fact c 23 (f := .glo "NoState") rfl), He.keep_ok (fact c 40 (f := .keep "NoState") rfl)⟩, ⟨_, by decide, He.glo_ok X G (fact c 24 (f := .glo "NoBits") rfl), He.keep_ok (fact c 41 (f := .keep "NoBits") rfl)⟩, ⟨_, by decide, He.glo_ok X G (fact c 25 (f := .glo "NoNumber") rfl), He.keep_ok (fact c 42 (f := .keep "NoNumber") rfl)⟩, ⟨rfl, He.free_ok X G (fact c 51 (f := .free "bool") rfl)⟩, True.intro⟩
  exact {
    so := hso
    fl := fun C f z => by
      obtain ⟨x, rfl, hm⟩ := z
      simp only [cfl, List.mem_cons, List.not_mem_nil, or_false, Prod.mk.injEq] at hm
      rcases hm with ⟨rfl, rfl⟩ | ⟨rfl, rfl⟩ | ⟨rfl, rfl⟩
      · exact ⟨He.cls_ok (fact c 62 (f := .cls "Shape") rfl), He.noat_ok (fact c 63 (f := .noat "Shape" "own_lanes") rfl)⟩
      · exact ⟨He.cls_ok (fact c 62 (f := .cls "Shape") rfl), He.noat_ok (fact c 64 (f := .noat "Shape" "own_fan") rfl)⟩
      · exact ⟨He.cls_ok (fact c 62 (f := .cls "Shape") rfl), He.noat_ok (fact c 65 (f := .noat "Shape" "rows") rfl)⟩
    at_ := fun x => by
      unfold gl
      cases q : kinds.lookup x with
      | none => exact True.intro
      | some g => exact A.at q
    rng := fun _ => He.free_ok X G (fact c 52 (f := .free "range") rfl)
    xc := fun x C f _ hx => by
      have hx : (xcs.lookup x).map (fun f => (He.ga K x, f)) = some (C, f) := hx
      obtain ⟨f', hl, e⟩ := map_some hx
      cases e
      have hm := mem_pair hl
      simp only [xcs, xks, List.map_cons, List.map_nil, List.mem_cons, List.not_mem_nil, or_false, Prod.mk.injEq] at hm
      rcases hm with ⟨rfl, rfl⟩
      · obtain ⟨fd, F⟩ := c.def_ 13 rfl
        exact xk_mk (st := topM 2 0) (xk c 0 (e := ("NoShape", .ve, some "what")) rfl) (He.glo_ok X G (fact c 10 (f := .glo "NoShape") rfl)) (by decide) F ⟨rfl, rfl, rfl, by decide +kernel, rfl, by decide +kernel, by decide +kernel⟩ ⟨_, _, _, _, _, _, _, _, _, _, _, _, _, ⟨rfl, _, fun _ => rfl⟩, rfl⟩ (by decide +kernel) (fun _ _ _ _ _ _ us hl => match us, hl with | [_, _], _ => rfl) (He.free_ok X G (fact c 53 (f := .free "ValueError") rfl))
    isa := fun _ _ _ hx => isaF_ok (nms X G c) hx
    iso := fun _ _ _ hx => isoF_ok (nms X G c) hx
    isb := fun _ hx => isbF_ok (nms X G c) hx
    xf := fun C f hx => by
      obtain ⟨_, h2⟩ := He.ba hx
      obtain ⟨h3, h4⟩ := He.ba h2
      exact ⟨xvB_ok h3, of_decide_eq_true h4⟩
    mt := fun C m g hx => by
      obtain ⟨x, hm, rfl⟩ := mtF_mem (show mtF K cmt C m = some g from hx)
      simp only [cmt, List.mem_cons, List.not_mem_nil, or_false, Prod.mk.injEq] at hm
      rcases hm with ⟨rfl, rfl, rfl⟩ | ⟨rfl, rfl, rfl⟩
      · obtain ⟨fd, D, B⟩ := e_Shape_lanes c
        exact ⟨He.cls_ok (fact c 62 (f := .cls "Shape") rfl), _, _, _, _, _, fd, _, t_Shape_lanes, He.meth_ok (fact c 66 (f := .meth "Shape" "lanes") rfl), D, B⟩
      · obtain ⟨fd, D, B⟩ := e_Shape_fan c
        exact ⟨He.cls_ok (fact c 62 (f := .cls "Shape") rfl), _, _, _, _, _, fd, _, t_Shape_fan, He.meth_ok (fact c 67 (f := .meth "Shape" "fan") rfl), D, B⟩
    mkc := fun x n ks C g pm _ hx => by
      obtain ⟨pm, hm, rfl, rfl⟩ := mkF_mem (show mkF K mks x n ks = some (C, g, pm) from hx)
      simp only [mks, List.mem_cons, List.not_mem_nil, or_false, Prod.mk.injEq] at hm
      rcases hm with ⟨rfl, rfl, rfl, rfl, rfl⟩ | ⟨rfl, rfl, rfl, rfl, rfl⟩
      · obtain ⟨fd, D, F⟩ := e_Shape_init__ c
        exact ⟨by decide, He.glo_ok X G (fact c 26 (f := .glo "Shape") rfl), _, _, _, _, _, fd, _, t_Shape_init__, He.mkr_ok (fact c 68 (f := .mkr "Shape") rfl), D, bindK_kw F 1 [] [("fan", .int 2)] [(false, 0)] [.inl 0, .inr (.int 2)] (List.cons_ne_nil _ _) (fun _ hq => hq) (fun D doc pm an cdv ct us mv ws h1 h2 h3 => match us, mv, ws, h1, h2, h3 with | [_, _], [_], [], _, _, _ => ⟨_, _, _, _, _, _, rfl, rfl, rfl⟩) (fun vs ws hl e => match vs, hl, e with | [_], _, e => by cases e; rfl)⟩
      · obtain ⟨fd, D, F⟩ := e_Shape_init__ c
        exact ⟨by decide, He.glo_ok X G (fact c 26 (f := .glo "Shape") rfl), _, _, _, _, _, fd, _, t_Shape_init__, He.mkr_ok (fact c 68 (f := .mkr "Shape") rfl), D, bindK_kw F 1 ["fan"] [] [(true, 0)] [.inl 0, .inl 1] (List.cons_ne_nil _ _) (fun _ hq => by cases hq) (fun D doc pm an cdv ct us mv ws h1 h2 h3 => match us, mv, ws, h1, h2, h3 with | [_, _], [], [_], _, _, _ => rfl) (fun vs ws hl e => match vs, hl, e with | [_, _], _, e => by cases e; rfl)⟩
    }
end
def ns16h : List Str := ["NoShape", "NoNumber", "NoBits", "NoState", "NoDeed", "NoStand", "NoHands", "NoText", "NoRow", "NoLane", "NoNode", "NoReader", "NoRule", "NoName", "TooMany", "Bare"]
def more (K : PySem.W.Frag) : Bool := xcs.all fun e => (ns16h.all fun c => decide (isaF K ocs (He.ga K e.1) c = some (e.1 == c))) && (decide (isaF K ocs (He.ga K e.1) "ValueError" = some true) && (match e.2 with
  | some f => xfB K (He.ga K e.1) f
  | none => true))
set_option Elab.async false
set_option linter.all false
set_option maxRecDepth 100000
open PySem PySem.Spec QL
abbrev R : PySem.W.OpenRow := PySem.W.OpenLaw.row PySem.Challenge.rw_quietlanes_k01_shapes_made
def loose0 : List PySem.Str := ["_wall", "is_within", "halves_up", "_law_pool", "_law_take", "_law_kinds", "_law_told", "_law_whole", "_law_due", "_law_thing", "MOST_LANES", "LEAST_FAN", "MOST_FAN", "NoShape", "NoNumber", "NoBits", "NoState", "NoDeed", "NoStand", "NoHands", "NoText", "NoRow", "NoLane", "NoNode", "NoReader", "NoRule", "NoName", "TooMany", "Bare", "Shape"]
def loose : List PySem.Str := loose0
abbrev hk : PySem.W.Hook := hookQ 6 (exs more) dfs
def ob (s : PySem.W.SharedT) : AlQ := obsQG 6 (exs more) dfs (HandSHeadRun.getT s)
theorem ob_eq (s : PySem.W.SharedT) : ob s = hk.obs s.abs := obsQG_eq (HandSHeadRun.getT_eq s)
set_option maxHeartbeats 0 in
theorem run (w : World) : HandSHeadRun.RunEq R (PySem.W.view R.prog [33]) hk ob 40000 loose w := by
  intro os
  kernel_rfl
set_option Elab.async false
set_option linter.all false
set_option maxRecDepth 100000
set_option maxHeartbeats 4000000
open PySem QL
open L2 hiding wE wT
local macro_rules | `(tactic| walk_at "s") => `(tactic| repeat (with_reducible first | refine s_lit ?_ | refine s_var rfl ?_ | refine s_op ?_ | refine s_cmp ?_ | refine s_cons ?_ | refine s_nil ?_ | refine s_fn ?_ | refine s_bi ?_ | refine s_idx ?_ | refine s_fld ?_ | refine s_not ?_ | refine s_and ?_ | refine s_or ?_ | refine s_chn ?_ | refine s_ite ?_ | refine s_slc ?_ | refine s_isi ?_ | refine s_neg ?_ | refine s_lst ?_ | refine s_tup ?_ | refine s_ono ?_ | refine s_osome ?_ | refine t_val ?_ | refine t_cmp ?_ | refine t_chn ?_ | refine t_and ?_ | refine t_or ?_ | refine t_not ?_ | refine d_cons ?_ | refine d_nil ?_ | refine d_asg ?_ | refine d_setI ?_ | refine d_setF ?_ | refine d_par ?_ | refine d_exp ?_ | refine d_ret ?_ | refine d_retN ?_ | refine d_ifs ?_ | refine d_rng ?_ | refine d_forL ?_ | refine d_pass ?_ | refine s_isx ?_ | refine s_mkx ?_ | refine s_dct0 ?_ | refine s_met ?_ | refine s_bm ?_ | refine s_mkC ?_ | refine d_rai ?_ | refine d_unp ?_ | refine d_aug rfl ?_ | refine v_add ?_ | refine v_sub ?_ | refine v_lt ?_ | refine v_le ?_ | refine v_gt ?_ | refine v_ge ?_ | refine v_eq ?_ | refine v_ne ?_ | refine v_eqS ?_ | refine v_neS ?_ | refine v_isN ?_ | refine v_notN ?_ | refine v_isB ?_ | refine v_notB ?_ | refine v_bool ?_ | refine v_trB ?_ | refine v_trI ?_ | refine v_trN ?_ | refine v_int ?_ | refine v_btN ?_ | refine v_btI_int ?_ | refine v_btI_bool ?_ | refine v_btI_str ?_ | refine v_btI_list ?_ | refine v_btI_tuple ?_ | refine v_btB_int ?_ | refine v_btB_bool ?_ | refine v_btB_str ?_ | refine v_btB_list ?_ | refine v_btB_tuple ?_ | refine v_btS_int ?_ | refine v_btS_bool ?_ | refine v_btS_str ?_ | refine v_btS_list ?_ | refine v_btS_tuple ?_ | refine v_min ?_ | refine v_max ?_ | refine v_abs ?_ | refine v_intB ?_ | refine v_intI ?_ | refine v_ifT ?_ | refine v_ifF ?_ | refine v_ifNT ?_ | refine v_ifNF ?_))
/-- what the walk needs of the module -/
structure Cs (S : Stat) (A : Str → Addr) : Prop where
  ml : S.gv "MOST_LANES" = some (.int 8)
  lf : S.gv "LEAST_FAN" = some (.int 2)
  mf : S.gv "MOST_FAN" = some (.int 4)
  fl : ∀ f ∈ (["own_lanes", "own_fan", "rows"] : List Str), S.fl (A "Shape") f
  mL : S.mt (A "Shape") "lanes" = some "Shape.lanes"
  mF : S.mt (A "Shape") "fan" = some "Shape.fan"
  mk2 : S.mkc "Shape" 2 ["fan"] = some (A "Shape", ("Shape.__init__" : Str), [Sum.inl 0, Sum.inl 1])
  mk1 : S.mkc "Shape" 1 [] = some (A "Shape", ("Shape.__init__" : Str), [Sum.inl 0, Sum.inr (V.int 2)])
  x : S.xc "NoShape" = some (A "NoShape", some ("what" : Str))
  f : S.xf (A "NoShape") "what"
  isa : ∀ c ∈ (["NoShape", "NoNumber", "NoBits", "NoState", "NoDeed", "NoStand", "NoHands", "NoText", "NoRow", "NoLane", "NoNode", "NoReader", "NoRule", "NoName", "TooMany", "Bare"] : List Str), S.isa (A "NoShape") c = some (("NoShape" : Str) == c)
  isv : S.isa (A "NoShape") "ValueError" = some true
/-- the rows of a tree, from the last one upward -/
def rowsOf (f : Int) : Nat → List Int → List Int
  | 0, xs => xs
  | _, [] => []
  | n + 1, r :: xs => if r > 1 then rowsOf f n ((r + f - 1) / f :: r :: xs) else r :: xs
section
variable {S : Stat} {n : Nat} {H : Hp} {Q : VK} {E : XK} {A : Str → Addr}
theorem w_is_within {x : V} {l m : Int} (hx : Kd H x) (h : Q (.bl (inR x l m)) H) : (sem S T (n + 1)).fn "is_within" [x, .int l, .int m] H Q E := by
  refine u_is_within ?_
  unfold b_is_within
  walk_at "s"
  by_cases hi : ∃ i, x = .int i
  · obtain ⟨t, rfl⟩ := hi
    walk_at "s"
    refine v_dec (fun h1 => ?_) (fun h1 => ?_)
    · walk_at "s"
      simpa only [inR, h1, true_and] using h
    · simpa only [inR, h1, false_and, decide_false] using h
  · have hn : ∀ i, x ≠ .int i := fun i e => hi ⟨i, e⟩
    have ef : inR x l m = false := by
      cases x <;> first | rfl | exact absurd rfl (hn _)
    rw [ef] at h
    rcases kd_bt (so := S.so) hx hn with e | ⟨e1, e2⟩
    · refine v_bt e ?_
      walk_at "s"
      exact h
    · refine v_bt e1 ?_
      walk_at "s"
      refine v_bt e2 ?_
      walk_at "s"
      exact h
theorem w_whole {x : V} {l m : Int} (hx : Kd H x) (h : Q (.bl (inR x l m)) H) : (sem S T (n + 1)).fn "_law_whole" [x, .int l, .int m] H Q E := by
  refine u_law_whole ?_
  unfold b_law_whole
  walk_at "s"
  by_cases hi : ∃ i, x = .int i
  · obtain ⟨t, rfl⟩ := hi
    walk_at "s"
    refine v_dec (fun h1 => ?_) (fun h1 => ?_)
    · walk_at "s"
      simpa only [inR, h1, true_and] using h
    · simpa only [inR, h1, false_and, decide_false] using h
  · have hn : ∀ i, x ≠ .int i := fun i e => hi ⟨i, e⟩
    have ef : inR x l m = false := by
      cases x <;> first | rfl | exact absurd rfl (hn _)
    rw [ef] at h
    rcases kd_bt (so := S.so) hx hn with e | ⟨e1, e2⟩
    · refine v_bt e ?_
      walk_at "s"
      exact h
    · refine v_bt e1 ?_
      walk_at "s"
      refine v_bt e2 ?_
      walk_at "s"
      exact h
theorem w_halves {m f : Int} (h0 : -1000 < m) (h1 : m < 1000) (f1 : 2 ≤ f) (f2 : f ≤ 4) (h : Q (.int ((m + f - 1) / f)) H) : (sem S T (n + 1)).fn "halves_up" [.int m, .int f] H Q E := by
  refine u_halves_up ?_
  unfold b_halves_up
  walk_at "s"
  refine v_div ?_ ?_
  · exact ⟨by omega, by omega⟩
  walk_at "s"
  exact h
theorem inR_int {x : V} {l m : Int} (h : inR x l m = true) : ∃ i, x = .int i ∧ l ≤ i ∧ i ≤ m := by
  cases x <;> first | cases h | skip
  rename_i i
  exact ⟨i, rfl, of_decide_eq_true h⟩
theorem at0 (v : V) (xs : List V) : atI (v :: xs) 0 = some v := by
  unfold atI ixN
  simp
/-- the while of the rows -/
theorem w_rows (C : Cs S A) {x p dx : Addr} {l f : Int} (f1 : 2 ≤ f) (f2 : f ≤ 4) {W : WX} {D : Ends} :
    ∀ (k : Nat) (H : Hp) (r : Int) (xs : List Int), H x = some (.ins (A "Shape") dx [("own_lanes", .int l), ("own_fan", .int f), ("rows", .ref p)]) → H p = some (.lst ((r :: xs).map V.int)) → 1 ≤ r → r ≤ k → k + xs.length < 100 →
      (∀ H', H' p = some (.lst ((rowsOf f k (r :: xs)).map V.int)) → (∀ b, b ≠ p → H' b = H b) → D.nx [some (.ref x), some (.int l), some (.int f)] H') →
      lpW (wT S (sem S T (n + 1)) W (.cmp .Gt (.idx (.fld (.var 0) "rows") (.lit (.int 0))) (.lit (.int 1)))) (wSs S (sem S T (n + 1)) W (.cons (.exp (.bm .insert (.fld (.var 0) "rows") (.cons (.lit (.int 0)) (.cons (.fn "halves_up" (.cons (.idx (.fld (.var 0) "rows") (.lit (.int 0))) (.cons (.var 2) .nil))) .nil))))
    .nil)) D (k + 1) [some (.ref x), some (.int l), some (.int f)] H
  | 0, H, r, xs, hx, hp, h1, h2, hl, h => absurd h2 (by omega)
  | k + 1, H, r, xs, hx, hp, h1, h2, hl, h => by
    refine w_step ?_
    walk_at "s"
    refine v_fld (v := .ref p) hx (C.fl _ (by decide)) rfl ?_
    walk_at "s"
    refine v_idx (v := .int r) (rd_here hp) (at0 _ _) ?_
    walk_at "s"
    refine v_dec (fun g => ?_) (fun g => ?_)
    · walk_at "s"
      refine v_fld (v := .ref p) hx (C.fl _ (by decide)) rfl ?_
      refine ⟨v_bmty (rd_here hp), ?_⟩
      walk_at "s"
      refine v_fld (v := .ref p) hx (C.fl _ (by decide)) rfl ?_
      walk_at "s"
      refine v_idx (v := .int r) (rd_here hp) (at0 _ _) ?_
      walk_at "s"
      refine w_halves (n := n) (by omega) (by omega) f1 f2 ?_
      walk_at "s"
      refine v_insert hp (by rw [List.length_map, List.length_cons]; exact Nat.lt_of_lt_of_le (show xs.length + 1 < 101 by omega) (by decide)) ?_
      walk_at "s"
      have xp : x ≠ p := fun e => by rw [e, hp] at hx; cases hx
      have q1 : 1 ≤ (r + f - 1) / f := by
        have : f = 2 ∨ f = 3 ∨ f = 4 := by omega
        rcases this with rfl | rfl | rfl <;> omega
      have q2 : (r + f - 1) / f ≤ r - 1 := by
        have : f = 2 ∨ f = 3 ∨ f = 4 := by omega
        rcases this with rfl | rfl | rfl <;> omega
      refine w_rows C f1 f2 k _ ((r + f - 1) / f) (r :: xs) (by rw [upd_ne xp]; exact hx) upd_same q1 (by omega) (by rw [List.length_cons]; omega) fun H' a b => ?_
      refine h H' ?_ fun c hc => ?_
      · rw [a]
        show some (HO.lst ((rowsOf f k ((r + f - 1) / f :: r :: xs)).map V.int)) = some (HO.lst (List.map V.int (if r > 1 then _ else _)))
        rw [if_pos g]
      · rw [b c hc, upd_ne hc]
    · walk_at "s"
      refine h H ?_ fun _ _ => rfl
      rw [hp]
      show _ = some (HO.lst (List.map V.int (if r > 1 then _ else _)))
      rw [if_neg g]
end
set_option Elab.async false
set_option linter.all false
set_option maxRecDepth 100000
set_option maxHeartbeats 4000000
open PySem QL
open L2 hiding wE wT
section
variable {S : Stat} {n : Nat} {H : Hp} {Q : VK} {E : XK} {A : Str → Addr}
theorem w_take {p : Addr} {a b s : Int} (hp : H p = some (.lst [.int a, .int b])) (hb0 : 0 ≤ b) (hb1 : b < 2147483647) (ha : 0 ≤ a) (hs : 0 < s) (hs2 : s < 1073741824)
    (h : ∀ r a' b', 0 ≤ r → r < s → 0 ≤ a' → 0 ≤ b' → b' < 2147483647 → Q (.int r) (upd H p (.lst [.int a', .int b']))) : (sem S T (n + 1)).fn "_law_take" [.ref p, .int s] H Q E := by
  refine u_law_take ?_
  unfold b_law_take
  have hr : rd S.so H p = some (.lst [.int a, .int b]) := rd_here hp
  walk_at "s"
  refine v_idx hr rfl ?_
  walk_at "s"
  refine v_dec (fun h0 => ?_) (fun h0 => ?_)
  · walk_at "s"
    refine v_idx hr rfl ?_
    walk_at "s"
    refine v_mod hs ?_
    walk_at "s"
    refine v_idx hr rfl ?_
    walk_at "s"
    refine v_div ⟨hs, hs2⟩ ?_
    walk_at "s"
    refine v_setL hp rfl ?_
    walk_at "s"
    exact h _ _ _ (Int.emod_nonneg _ (by omega)) (Int.emod_lt_of_pos _ hs) (Int.ediv_nonneg ha (by omega)) hb0 hb1
  · walk_at "s"
    refine v_idx hr rfl ?_
    walk_at "s"
    refine v_mul (.inl ⟨by omega, by omega⟩) ?_
    walk_at "s"
    refine v_mod (by decide) ?_
    walk_at "s"
    refine v_setL hp rfl ?_
    walk_at "s"
    have g0 : 0 ≤ (b * 48271 + 11) % 2147483647 := Int.emod_nonneg _ (by decide)
    have g1 : (b * 48271 + 11) % 2147483647 < 2147483647 := Int.emod_lt_of_pos _ (by decide)
    refine v_idx rd_new rfl ?_
    walk_at "s"
    refine v_idx rd_new rfl ?_
    refine v_mul (.inl ⟨by omega, by omega⟩) ?_
    walk_at "s"
    refine v_mod (by decide) ?_
    walk_at "s"
    refine v_div ⟨by decide, by decide⟩ ?_
    walk_at "s"
    refine v_mod hs ?_
    exact h _ _ _ (Int.emod_nonneg _ (by omega)) (Int.emod_lt_of_pos _ hs) ha g0 g1
theorem cut_at {ns : List Int} {k : Int} (hk : 0 ≤ k) : ∃ c r, cutV (ns.map V.int) (some k) (some (k + 1)) ++ [V.int 0] = V.int c :: r ∧ r.length ≤ 1 := by
  obtain ⟨m, rfl⟩ := Int.eq_ofNat_of_zero_le hk
  unfold cutV
  have e : (Int.ofNat m + 1) = ((m + 1 : Nat) : Int) := rfl
  rw [show (some ((m : Nat) : Int)) = some ((m : Nat) : Int) from rfl, show (((m : Nat) : Int) + 1) = ((m + 1 : Nat) : Int) from by push_cast; rfl, HT.sIx_nat, HT.sIx_nat]
  rw [List.length_map]
  by_cases h : m < ns.length
  · have h1 : min m ns.length = m := by omega
    have h2 : min (m + 1) ns.length = m + 1 := by omega
    rw [h1, h2, ← List.map_drop]
    cases q : ns.drop m with
    | nil =>
      have := List.drop_eq_nil_iff.mp q
      omega
    | cons c r =>
      refine ⟨c, [V.int 0], ?_, by simp⟩
      have : m + 1 - m = 1 := by omega
      rw [this]
      rfl
  · have h1 : min m ns.length = ns.length := by omega
    have h2 : min (m + 1) ns.length = ns.length := by omega
    rw [h1, h2]
    exact ⟨0, [], by simp, by simp⟩
theorem w_pool {s : Addr} {ns : List Int} {k : Int} (hs : rd S.so H s = some (.lst (ns.map V.int))) (hk : 0 ≤ k) (hk2 : k < 100) (hl : ns.length ≤ 63)
    (h : ∀ H' p a b, Ext S.so H H' → H p = none → S.so p = none → H' p = some (.lst [.int a, .int b]) → 0 ≤ a → 0 ≤ b → b < 2147483647 → Q (.ref p) H') : (sem S T (n + 1)).fn "_law_pool" [.ref s, .int k] H Q E := by
  refine u_law_pool ?_
  unfold b_law_pool
  walk_at "s"
  refine v_slc hs fun p1 hp1 hq1 => ?_
  walk_at "s"
  refine ⟨by show 1 ≤ sizeLine; decide, fun p2 hp2 hq2 => ?_⟩
  have n12 : p1 ≠ p2 := fun e => by rw [e, upd_same] at hp2; cases hp2
  have hlen := cutV_length (ns.map V.int) (some k) (some (k + 1))
  rw [List.length_map] at hlen
  refine v_addL (by rw [upd_ne n12, upd_same]) upd_same (Nat.le_trans (Nat.add_le_add_right hlen _) (by show _ ≤ 16777216; simp; omega)) fun p3 hp3 hq3 => ?_
  obtain ⟨c, r, ec, _⟩ := cut_at (ns := ns) hk
  rw [ec]
  walk_at "s"
  refine v_idx rd_new (atI_nat (j := 0) rfl) ?_
  walk_at "s"
  refine v_mod (by decide) ?_
  have g0 : 0 ≤ c % 2147483647 := Int.emod_nonneg _ (by decide)
  have g1 : c % 2147483647 < 2147483647 := Int.emod_lt_of_pos _ (by decide)
  walk_at "s"
  refine v_mul (.inl ⟨by decide, by decide⟩) ?_
  walk_at "s"
  refine v_mul (.inl ⟨by omega, by omega⟩) ?_
  walk_at "s"
  refine v_mod (by decide) ?_
  walk_at "s"
  refine v_pow ⟨by decide, by decide, by decide⟩ ?_
  walk_at "s"
  have hc : ∀ k : Bool, CMul (if k = true then 1 else 0) c := fun k => .inl (by cases k <;> exact ⟨by decide, by decide⟩)
  refine v_mul (hc _) ?_
  walk_at "s"
  refine ⟨by show 2 ≤ sizeLine; decide, fun p hp hq => ?_⟩
  have E3 : Ext S.so H (upd (upd (upd H p1 (.lst (cutV (ns.map V.int) (some k) (some (k + 1))))) p2 (.lst [V.int 0])) p3 (.lst (V.int c :: r))) := ((Ext.new hp1 hq1).trans (Ext.new hp2 hq2)).trans (Ext.new hp3 hq3)
  have hp0 : H p = none := by
    cases q : H p with
    | none => rfl
    | some o =>
      rw [E3.keep _ _ q] at hp
      cases hp
  refine h _ p _ _ (E3.trans (Ext.new hp hq)) hp0 hq upd_same ?_ (Int.emod_nonneg _ (by decide)) (by
    have := Int.emod_lt_of_pos ((c % 2147483647 + 7919 * k + 1) * 48271) (show (0 : Int) < 2147483629 by decide)
    omega)
  by_cases hc : (10 : Int) ^ (18 : Int).toNat ≤ c
  · simp only [hc, decide_true, if_true]
    have : (0 : Int) < 10 ^ (18 : Int).toNat := by decide
    omega
  · simp only [hc, decide_false, Bool.false_eq_true, if_false]
    omega
/-! ### an error's kinds -/
def isxs : List Str → Exs
  | [] => .nil
  | c :: r => .cons (.isx (.var 0) c) (isxs r)
theorem w_isxs {F : Sm} {W : WX} {e D : Addr} {fs : List (Str × V)} {σ : St} (X : Xat H e D fs) (hs : σ[0]? = some (some (.ref e))) (f : Str → Bool) : ∀ (cs : List Str) {Q : List V → Hp → Prop}, (∀ c ∈ cs, S.isa D c = some (f c)) → Q (cs.map fun c => V.bl (f c)) H → wA S F W (isxs cs) σ H Q
  | [], Q, _, h => s_nil h
  | c :: cs, Q, ha, h => by
    refine s_cons (s_isx (s_var hs (v_isx X (ha c (List.mem_cons_self ..)) ?_)))
    exact w_isxs X hs f cs (fun d hd => ha d (List.mem_cons_of_mem _ hd)) h
def ns16 : List Str := ["NoShape", "NoNumber", "NoBits", "NoState", "NoDeed", "NoStand", "NoHands", "NoText", "NoRow", "NoLane", "NoNode", "NoReader", "NoRule", "NoName", "TooMany", "Bare"]
theorem k_add {F : Sm} {W : WX} {e D p : Addr} {fs : List (Str × V)} {xs : List V} (X : Xat H e D fs) (hp : H p = some (.lst xs)) (f : Str → Bool) (cs : List Str) {Q : VK} (ha : ∀ c ∈ cs, S.isa D c = some (f c)) (hl : xs.length + cs.length ≤ 100)
    (h : ∀ r H', Ext S.so H H' → H r = none → S.so r = none → H' r = some (.lst (xs ++ cs.map fun c => V.bl (f c))) → Q (.ref r) H') : wE S F W (.op .Add (.var 1) (.lst (isxs cs))) [some (.ref e), some (.ref p)] H Q := by
  have sz : ∀ k, k ≤ 100 → k ≤ sizeLine := fun k hk => Nat.le_trans hk (by decide)
  refine s_op (s_var rfl (s_lst (w_isxs X rfl f cs ha ⟨sz _ (by rw [List.length_map]; omega), fun q hq hs => ?_⟩)))
  refine v_addL (by rw [upd_ne (ne_of_none hp hq)]; exact hp) upd_same (sz _ (by rw [List.length_map]; omega)) fun r hr hs2 => ?_
  have X1 : Ext S.so H (upd H q (.lst (cs.map fun c => V.bl (f c)))) := Ext.new hq hs
  refine h r _ (X1.trans (Ext.new hr hs2)) ?_ hs2 upd_same
  cases z : H r with
  | none => rfl
  | some o =>
    rw [X1.keep _ _ z] at hr
    cases hr
theorem w_kinds {e D : Addr} {fs : List (Str × V)} {f : Str → Bool} (X : Xat H e D fs) (ha : ∀ c ∈ ns16, S.isa D c = some (f c)) (h : ∀ H' p, Ext S.so H H' → H p = none → S.so p = none → H' p = some (.lst (ns16.map fun c => V.bl (f c))) → Q (.ref p) H') : (sem S T (n + 1)).fn "_law_kinds" [.ref e] H Q E := by
  refine u_law_kinds ?_
  unfold b_law_kinds
  have sz : ∀ k, k ≤ 100 → k ≤ sizeLine := fun k hk => Nat.le_trans hk (by decide)
  have sub : ∀ (cs : List Str), (∀ c ∈ cs, c ∈ ns16) → ∀ c ∈ cs, S.isa D c = some (f c) := fun cs hc c hm => ha c (hc c hm)
  refine d_cons (d_asg (s_lst ?_))
  refine w_isxs X rfl f ["NoShape", "NoNumber", "NoBits"] (sub _ (by decide)) ⟨sz _ (by simp), fun p1 hp1 hq1 => ?_⟩
  have E1 : Ext S.so H (upd H p1 (.lst ((["NoShape", "NoNumber", "NoBits"] : List Str).map fun c => V.bl (f c)))) := Ext.new hp1 hq1
  refine d_cons (d_asg ?_)
  refine k_add (X.ext E1) upd_same f ["NoState", "NoDeed", "NoStand"] (sub _ (by decide)) (by simp) fun p2 H2 E2 n2 q2 h2 => ?_
  refine d_cons (d_asg ?_)
  refine k_add ((X.ext E1).ext E2) h2 f ["NoHands", "NoText", "NoRow"] (sub _ (by decide)) (by simp) fun p3 H3 E3 n3 q3 h3 => ?_
  refine d_cons (d_asg ?_)
  refine k_add (((X.ext E1).ext E2).ext E3) h3 f ["NoLane", "NoNode", "NoReader"] (sub _ (by decide)) (by simp) fun p4 H4 E4 n4 q4 h4 => ?_
  refine d_cons (d_asg ?_)
  refine k_add ((((X.ext E1).ext E2).ext E3).ext E4) h4 f ["NoRule", "NoName", "TooMany"] (sub _ (by decide)) (by simp) fun p5 H5 E5 n5 q5 h5 => ?_
  refine d_cons (d_ret ?_)
  refine k_add (((((X.ext E1).ext E2).ext E3).ext E4).ext E5) h5 f ["Bare"] (sub _ (by decide)) (by simp) fun p6 H6 E6 n6 q6 h6 => ?_
  have EE := (((E1.trans E2).trans E3).trans E4).trans E5
  refine h H6 p6 (EE.trans E6) ?_ q6 h6
  cases z : H p6 with
  | none => rfl
  | some o =>
    rw [EE.keep _ _ z] at n6
    cases n6
/-- a shape stands at x -/
def ShapeAt (A : Str → Addr) (H : Hp) (x : Addr) (l f : Int) : Prop := ∃ dx p, H x = some (.ins (A "Shape") dx [("own_lanes", .int l), ("own_fan", .int f), ("rows", .ref p)]) ∧ H p = some (.lst ((rowsOf f 8 [(l + f - 1) / f]).map V.int))
theorem w_init_ok (C : Cs S A) {x dx : Addr} {l f : Int} (hx : H x = some (.ins (A "Shape") dx [])) (l1 : 1 ≤ l) (l2 : l ≤ 8) (f1 : 2 ≤ f) (f2 : f ≤ 4)
    (h : ∀ H', ShapeAt A H' x l f → (∀ b o, b ≠ x → H b = some o → H' b = some o) → (∀ b, b ≠ x → H b = none → S.so b ≠ none → H' b = none) → Q .non H') : (sem S T (n + 2)).fn "Shape.__init__" [.ref x, .int l, .int f] H Q E := by
  refine u_Shape_init__ ?_
  unfold b_Shape_init__
  walk_at "s"
  refine s_cst C.ml ?_
  walk_at "s"
  refine w_is_within (n := n) (.int _) ?_
  rw [show inR (.int l) 1 8 = true from decide_eq_true ⟨l1, l2⟩]
  walk_at "s"
  refine s_cst C.lf ?_
  walk_at "s"
  refine s_cst C.mf ?_
  walk_at "s"
  refine w_is_within (n := n) (.int _) ?_
  rw [show inR (.int f) 2 4 = true from decide_eq_true ⟨f1, f2⟩]
  walk_at "s"
  refine v_setF hx (C.fl _ (by decide)) (by decide) ?_
  walk_at "s"
  refine v_setF upd_same (C.fl _ (by decide)) (by show 1 < 1000; decide) ?_
  walk_at "s"
  refine w_halves (n := n) (by omega) (by omega) f1 f2 ?_
  walk_at "s"
  refine ⟨by show 1 ≤ sizeLine; decide, fun p hp hs => ?_⟩
  rw [QL.upd_upd] at hp ⊢
  walk_at "s"
  have xp : p ≠ x := fun e => by rw [e, upd_same] at hp; cases hp
  have hp0 : H p = none := by rw [upd_ne xp] at hp; exact hp
  refine v_setF (by rw [upd_ne xp.symm]; exact upd_same) (C.fl _ (by decide)) (by show 2 < 1000; decide) ?_
  refine d_cons (d_whl 9 ?_)
  have q1 : 1 ≤ (l + f - 1) / f := by
    have : f = 2 ∨ f = 3 ∨ f = 4 := by omega
    rcases this with rfl | rfl | rfl <;> omega
  have q2 : (l + f - 1) / f ≤ 8 := by
    have : f = 2 ∨ f = 3 ∨ f = 4 := by omega
    rcases this with rfl | rfl | rfl <;> omega
  refine w_rows (dx := dx) C f1 f2 8 _ ((l + f - 1) / f) [] upd_same (by rw [upd_ne xp]; exact upd_same) q1 q2 (by decide) fun H' a b => ?_
  walk_at "s"
  have bx : ∀ b', b' ≠ x → b' ≠ p → H' b' = H b' := fun b' h1 h2 => by rw [b b' h2, upd_ne h1, upd_ne h2, upd_ne h1]
  refine h H' ⟨dx, p, (by rw [b x xp.symm]; exact upd_same), a⟩ (fun c o hc ho => ?_) (fun c hc ho hs2 => ?_)
  · have : c ≠ p := fun e => by rw [e, hp0] at ho; cases ho
    rw [bx c hc this]
    exact ho
  · have : c ≠ p := fun e => by rw [e] at hs2; exact hs2 hs
    rw [bx c hc this]
    exact ho
theorem w_init_bad (C : Cs S A) {x : Addr} {v1 v2 : V} {w : Str} (k1 : Kd H v1) (k2 : Kd H v2) (b : (inR v1 1 8 = false ∧ w = "lanes") ∨ (inR v1 1 8 = true ∧ inR v2 2 4 = false ∧ w = "fan"))
    (h : ∀ d, H d = none → S.so d = none → E (.ref (A "NoShape")) (some d) (upd H d (.xd [("what", .str w)]))) : (sem S T (n + 2)).fn "Shape.__init__" [.ref x, v1, v2] H Q E := by
  refine u_Shape_init__ ?_
  unfold b_Shape_init__
  walk_at "s"
  refine s_cst C.ml ?_
  walk_at "s"
  refine w_is_within (n := n) k1 ?_
  rcases b with ⟨b1, rfl⟩ | ⟨b1, b2, rfl⟩
  · rw [b1]
    walk_at "s"
    exact v_rai C.x h
  · rw [b1]
    walk_at "s"
    refine s_cst C.lf ?_
    walk_at "s"
    refine s_cst C.mf ?_
    walk_at "s"
    refine w_is_within (n := n) k2 ?_
    rw [b2]
    walk_at "s"
    exact v_rai C.x h
theorem ext_of {x dx : Addr} {H' : Hp} {o : HO} (hx : H x = none) (hd : H dx = none) (sx : S.so x = none) (sd : S.so dx = none)
    (k : ∀ b u, b ≠ x → upd (upd H dx (.own x)) x o b = some u → H' b = some u) (z : ∀ b, b ≠ x → upd (upd H dx (.own x)) x o b = none → S.so b ≠ none → H' b = none) : Ext S.so H H' := by
  refine ⟨fun b u hb => ?_, fun b hb hs => ?_⟩
  · have h1 : b ≠ x := fun e => by rw [e, hx] at hb; cases hb
    have h2 : b ≠ dx := fun e => by rw [e, hd] at hb; cases hb
    exact k b u h1 (by rw [upd_ne h1, upd_ne h2]; exact hb)
  · have h1 : b ≠ x := fun e => by rw [e] at hs; exact hs sx
    have h2 : b ≠ dx := fun e => by rw [e] at hs; exact hs sd
    exact z b h1 (by rw [upd_ne h1, upd_ne h2]; exact hb) hs
/-- Shape(l, fan = f) -/
theorem w_mk_ok (C : Cs S A) {vs : List V} {ks : List Str} {pm : List (Nat ⊕ V)} {l f : Int} (e : S.mkc "Shape" vs.length ks = some (A "Shape", ("Shape.__init__" : Str), pm)) (ep : pmV pm vs = some [.int l, .int f]) (l1 : 1 ≤ l) (l2 : l ≤ 8) (f1 : 2 ≤ f) (f2 : f ≤ 4)
    (h : ∀ x H', Ext S.so H H' → ShapeAt A H' x l f → Q (.ref x) H') : mkK S (sem S T (n + 2)) "Shape" ks vs H Q E := by
  refine v_mkC e ep fun x dx hx hd hne sx sd => ?_
  refine w_init_ok (n := n) C upd_same l1 l2 f1 f2 fun H' a b c => ⟨rfl, ?_⟩
  exact h x H' (ext_of hx hd sx sd b c) a
theorem w_mk_bad (C : Cs S A) {vs : List V} {ks : List Str} {pm : List (Nat ⊕ V)} {v1 v2 : V} {w : Str} (e : S.mkc "Shape" vs.length ks = some (A "Shape", ("Shape.__init__" : Str), pm)) (ep : pmV pm vs = some [v1, v2]) (k1 : Kd H v1) (k2 : Kd H v2)
    (b : (inR v1 1 8 = false ∧ w = "lanes") ∨ (inR v1 1 8 = true ∧ inR v2 2 4 = false ∧ w = "fan"))
    (h : ∀ d H', Ext S.so H H' → H' d = some (.xd [("what", .str w)]) → E (.ref (A "NoShape")) (some d) H') : mkK S (sem S T (n + 2)) "Shape" ks vs H Q E := by
  refine v_mkC e ep fun x dx hx hd hne sx sd => ?_
  have X1 : Ext S.so H (upd (upd H dx (.own x)) x (.ins (A "Shape") dx [])) := (Ext.new hd sd).trans (Ext.new (by rw [upd_ne hne.symm]; exact hx) sx)
  refine w_init_bad (n := n) C (k1.ext X1) (k2.ext X1) b fun d h1 h2 => ?_
  exact h d _ (X1.trans (Ext.new h1 h2)) upd_same
theorem w_lanes (C : Cs S A) {x : Addr} {l f : Int} (hx : ShapeAt A H x l f) (h : Q (.int l) H) : (sem S T (n + 1)).fn "Shape.lanes" [.ref x] H Q E := by
  obtain ⟨dx, p, h1, h2⟩ := hx
  refine u_Shape_lanes ?_
  unfold b_Shape_lanes
  walk_at "s"
  exact v_fld h1 (C.fl _ (by decide)) rfl h
theorem w_fan (C : Cs S A) {x : Addr} {l f : Int} (hx : ShapeAt A H x l f) (h : Q (.int f) H) : (sem S T (n + 1)).fn "Shape.fan" [.ref x] H Q E := by
  obtain ⟨dx, p, h1, h2⟩ := hx
  refine u_Shape_fan ?_
  unfold b_Shape_fan
  walk_at "s"
  exact v_fld h1 (C.fl _ (by decide)) rfl h
end
set_option Elab.async false
set_option linter.all false
set_option maxRecDepth 100000
set_option maxHeartbeats 4000000
open PySem QL
open L2 hiding wE wT
section
variable {S : Stat} {n : Nat} {H : Hp} {Q : VK} {E : XK} {A : Str → Addr}
theorem sh_of {so : Addr → Option HO} {x : V} {d : PyData} (h : Dd so H x d) (s : (d.showable && !d.hasDict && decide (d.depth ≤ 60) && decide (d.shown.length ≤ sizeLine)) = true) : Sh so H x d.shown := by
  simp only [Bool.and_eq_true, Bool.not_eq_true', decide_eq_true_eq] at s
  obtain ⟨⟨⟨h1, h2⟩, h3⟩, h4⟩ := s
  exact .inl ⟨d, h, h1, h2, h3, h4, rfl⟩
/-- what is told of two values -/
def Res (v1 v2 : V) (H : Hp) (r : V) : Prop := (inR v1 1 8 = false ∧ r = .str "lanes") ∨ (inR v1 1 8 = true ∧ inR v2 2 4 = false ∧ r = .str "fan") ∨ (inR v1 1 8 = true ∧ inR v2 2 4 = true ∧ ∃ p, r = .ref p ∧ H p = some (.lst [v1, v2]))
theorem res_sh {so : Addr → Option HO} (v1 v2 : V) : ∃ z : Str, ∀ H r, Res v1 v2 H r → Sh so H r z := by
  cases e1 : inR v1 1 8 with
  | false => exact ⟨_, fun H r h => by
      rcases h with ⟨_, rfl⟩ | ⟨h, _⟩ | ⟨h, _⟩
      · exact sh_of (.sc rfl) (by decide +kernel)
      · rw [e1] at h; cases h
      · rw [e1] at h; cases h⟩
  | true =>
    cases e2 : inR v2 2 4 with
    | false => exact ⟨_, fun H r h => by
        rcases h with ⟨h, _⟩ | ⟨_, _, rfl⟩ | ⟨_, h, _⟩
        · rw [e1] at h; cases h
        · exact sh_of (.sc rfl) (by decide +kernel)
        · rw [e2] at h; cases h⟩
    | true =>
      obtain ⟨l, rfl, l1, l2⟩ := inR_int e1
      obtain ⟨f, rfl, f1, f2⟩ := inR_int e2
      refine ⟨(PyData.list [.int l, .int f]).shown, fun H r h => ?_⟩
      rcases h with ⟨h, _⟩ | ⟨_, h, _⟩ | ⟨_, _, p, rfl, hp⟩
      · rw [e1] at h; cases h
      · rw [e2] at h; cases h
      · refine sh_of (.lst (rd_here hp) (.cons (.sc rfl) (.cons (.sc rfl) .nil))) ?_
        have a : l = 1 ∨ l = 2 ∨ l = 3 ∨ l = 4 ∨ l = 5 ∨ l = 6 ∨ l = 7 ∨ l = 8 := by omega
        have b : f = 2 ∨ f = 3 ∨ f = 4 := by omega
        rcases a with rfl | rfl | rfl | rfl | rfl | rfl | rfl | rfl <;> rcases b with rfl | rfl | rfl <;> decide +kernel
theorem w_due {v1 v2 : V} (k1 : Kd H v1) (k2 : Kd H v2) (h : ∀ H' r, Ext S.so H H' → Res v1 v2 H' r → Q r H') : (sem S T (n + 2)).fn "_law_due" [v1, v2] H Q E := by
  refine u_law_due ?_
  unfold b_law_due
  walk_at "s"
  refine w_whole (n := n) k1 ?_
  cases e1 : inR v1 1 8 with
  | false =>
    walk_at "s"
    exact h _ _ Ext.refl (.inl ⟨e1, rfl⟩)
  | true =>
    walk_at "s"
    refine w_whole (n := n) k2 ?_
    cases e2 : inR v2 2 4 with
    | false =>
      walk_at "s"
      exact h _ _ Ext.refl (.inr (.inl ⟨e1, e2, rfl⟩))
    | true =>
      walk_at "s"
      refine ⟨by show 2 ≤ sizeLine; decide, fun p hp hs => ?_⟩
      exact h _ _ (Ext.new hp hs) (.inr (.inr ⟨e1, e2, p, rfl, upd_same⟩))
theorem w_told (C : Cs S A) {v1 v2 : V} (k1 : Kd H v1) (k2 : Kd H v2) (h : ∀ H' r, Ext S.so H H' → Res v1 v2 H' r → Q r H') : (sem S T (n + 3)).fn "_law_told" [v1, v2] H Q E := by
  refine u_law_told ?_
  unfold b_law_told
  refine d_cons (d_asg (s_lit (d_cons (d_asg (s_lit (d_cons ?_))))))
  refine d_trx' (fun cls d σ' H' => ∃ dd w, cls = .ref (A "NoShape") ∧ d = some dd ∧ σ' = [some v1, some v2, some .non, some .non, none] ∧ Ext S.so H H' ∧ H' dd = some (.xd [("what", .str w)]) ∧ ((inR v1 1 8 = false ∧ w = "lanes") ∨ (inR v1 1 8 = true ∧ inR v2 2 4 = false ∧ w = "fan"))) ?_ ?_
  · walk_at "s"
    by_cases b : (∃ w, (inR v1 1 8 = false ∧ w = ("lanes" : Str)) ∨ (inR v1 1 8 = true ∧ inR v2 2 4 = false ∧ w = ("fan" : Str)))
    · obtain ⟨w, b⟩ := b
      refine w_mk_bad (n := n) C C.mk2 rfl k1 k2 b fun d H' X hd => ?_
      exact ⟨d, w, rfl, rfl, rfl, X, hd, b⟩
    · have e1 : inR v1 1 8 = true := by
        cases q : inR v1 1 8 with
        | true => rfl
        | false => exact absurd ⟨_, .inl ⟨q, rfl⟩⟩ b
      have e2 : inR v2 2 4 = true := by
        cases q : inR v2 2 4 with
        | true => rfl
        | false => exact absurd ⟨_, .inr ⟨e1, q, rfl⟩⟩ b
      obtain ⟨l, rfl, l1, l2⟩ := inR_int e1
      obtain ⟨f, rfl, f1, f2⟩ := inR_int e2
      refine w_mk_ok (n := n) C C.mk2 rfl l1 l2 f1 f2 fun x H' X hx => ?_
      walk_at "s"
      have hx' := hx
      obtain ⟨dx, p, a1, a2⟩ := hx'
      refine v_met a1 rfl C.mL ?_
      walk_at "s"
      refine w_lanes (n := n + 1) C hx ?_
      walk_at "s"
      refine v_met a1 rfl C.mF ?_
      walk_at "s"
      refine w_fan (n := n + 1) C hx ?_
      walk_at "s"
      refine ⟨by show 2 ≤ sizeLine; decide, fun q hq hs => ?_⟩
      exact h _ _ (X.trans (Ext.new hq hs)) (.inr (.inr ⟨e1, e2, q, rfl, upd_same⟩))
  · rintro cls d' σ' H' ⟨d, w, rfl, rfl, rfl, X, hd, b⟩
    refine ⟨A "NoShape", rfl, ?_, fun a ha hsa => ?_⟩
    · have h1 := C.isa "NoShape" (by decide)
      simp only [isaAny, h1]
      rfl
    · have E2 : Ext S.so H (upd H' a (exV a (A "NoShape") (some d))) := X.trans (Ext.new ha hsa)
      have hda : d ≠ a := fun z => by rw [← z, hd] at ha; cases ha
      have X2 : Xat (upd H' a (exV a (A "NoShape") (some d))) a (A "NoShape") [("what", .str w)] := ⟨some d, upd_same, by show upd _ a _ d = _; rw [upd_ne hda, hd]⟩
      generalize upd H' a (exV a (A "NoShape") (some d)) = H2 at E2 X2
      walk_at "s"
      refine v_decN (by intro z; cases z) ?_
      walk_at "s"
      refine v_isx X2 C.isv ?_
      walk_at "s"
      refine w_kinds (n := n + 1) X2 C.isa fun H3 p E3 n3 q3 h3 => ?_
      have X3 := X2.ext E3
      walk_at "s"
      refine ⟨by show 1 ≤ sizeLine; decide, fun p4 n4 s4 => ?_⟩
      walk_at "s"
      refine ⟨by show 1 ≤ sizeLine; decide, fun p5 n5 s5 => ?_⟩
      walk_at "s"
      refine v_mulL upd_same (by decide) (by decide) (by show 1 * 15 ≤ sizeLine; decide) fun p6 n6 s6 => ?_
      have X4 := (Ext.new (so := S.so) (o := .lst [.bl true]) n4 s4)
      have X5 := (Ext.new (so := S.so) (o := .lst [.bl false]) n5 s5)
      have X6 := (Ext.new (so := S.so) (o := .lst (List.replicate (15 : Int).toNat [V.bl false]).flatten) n6 s6)
      refine v_addL ((X5.trans X6).keep _ _ upd_same) upd_same (by show 1 + 15 ≤ sizeLine; decide) fun p7 n7 s7 => ?_
      have X7 := (Ext.new (so := S.so) (o := .lst ([V.bl true] ++ (List.replicate (15 : Int).toNat [V.bl false]).flatten)) n7 s7)
      have XX := ((X4.trans X5).trans X6).trans X7
      have bs : List Bool := []
      refine v_neD (.lst (rd_here (XX.keep _ _ h3)) (show Dds S.so _ (ns16.map fun c => V.bl (("NoShape" : Str) == c)) (([true, false, false, false, false, false, false, false, false, false, false, false, false, false, false, false] : List Bool).map PyData.bool) from ?_)) (.lst (rd_here upd_same) (show Dds S.so _ (([true, false, false, false, false, false, false, false, false, false, false, false, false, false, false, false] : List Bool).map V.bl) (([true, false, false, false, false, false, false, false, false, false, false, false, false, false, false, false] : List Bool).map PyData.bool) from dds_bl _)) (by decide +kernel) (by decide +kernel) ⟨_, rfl⟩ ?_
      · have e3 : (ns16.map fun c => V.bl (("NoShape" : Str) == c)) = ([true, false, false, false, false, false, false, false, false, false, false, false, false, false, false, false] : List Bool).map V.bl := by kernel_rfl
        rw [e3]
        exact dds_bl _
      · rw [show PyData.eqv (.list (([true, false, false, false, false, false, false, false, false, false, false, false, false, false, false, false] : List Bool).map PyData.bool)) (.list (([true, false, false, false, false, false, false, false, false, false, false, false, false, false, false, false] : List Bool).map PyData.bool)) = true by decide +kernel]
        walk_at "s"
        refine v_xfld (v := .str w) (X3.ext XX) C.f rfl ?_
        refine h _ _ ((E2.trans E3).trans XX) ?_
        rcases b with ⟨b1, rfl⟩ | ⟨b1, b2, rfl⟩
        · exact .inl ⟨b1, rfl⟩
        · exact .inr (.inl ⟨b1, b2, rfl⟩)
end
set_option Elab.async false
set_option linter.all false
set_option maxRecDepth 100000
set_option maxHeartbeats 4000000
open PySem QL
open L2 hiding wE wT
section
variable {S : Stat} {n : Nat} {H : Hp} {Q : VK} {E : XK} {A : Str → Addr}
theorem ne_of_none' {H : Hp} {p q : Addr} {o : HO} (hp : H p = some o) (hq : H q = none) : q ≠ p := fun e => by rw [e, hp] at hq; cases hq
theorem Kd.extP {p : Addr} {xs : List V} {H' : Hp} (k : ∀ c o, c ≠ p → H c = some o → H' c = some o) (hp : H' p = some (.lst xs)) {v : V} (h : Kd H v) : Kd H' v := by
  have q : ∀ {c o}, H c = some o → c = p ∨ H' c = some o := fun {c o} hc => by
    by_cases e : c = p
    · exact .inl e
    · exact .inr (k _ _ e hc)
  cases h with
  | non => exact .non
  | bl b => exact .bl b
  | int b => exact .int b
  | str b => exact .str b
  | lst h =>
    rcases q h with rfl | h
    · exact .lst hp
    · exact .lst h
  | tup h =>
    rcases q h with rfl | h
    · exact .lst hp
    · exact .tup h
  | dK h =>
    rcases q h with rfl | h
    · exact .lst hp
    · exact .dK h
theorem w_tk {H0 : Hp} {p : Addr} {a b s : Int} (X : Ext S.so H0 H) (n0 : H0 p = none) (q0 : S.so p = none) (hp : H p = some (.lst [.int a, .int b])) (hb0 : 0 ≤ b) (hb1 : b < 2147483647) (ha : 0 ≤ a) (hs : 0 < s) (hs2 : s < 1073741824)
    (h : ∀ r a' b' H', Ext S.so H0 H' → (∀ c o, c ≠ p → H c = some o → H' c = some o) → H' p = some (.lst [.int a', .int b']) → 0 ≤ r → r < s → 0 ≤ a' → 0 ≤ b' → b' < 2147483647 → Q (.int r) H') : (sem S T (n + 1)).fn "_law_take" [.ref p, .int s] H Q E :=
  w_take hp hb0 hb1 ha hs hs2 fun r a' b' c1 c2 c3 c4 c5 => h r a' b' _ (X.chg n0 q0) (fun c o ne hc => by rw [upd_ne ne]; exact hc) upd_same c1 c2 c3 c4 c5
theorem thing_at {num : Int} {z : Str} {p1 p2 p3 : Addr} {r : Int} (h1 : H p1 = some (.lst [.int num])) (h2 : H p2 = some (.tup [.int num])) (h3 : H p3 = some (.dK [])) (r0 : 0 ≤ r) (r1 : r < 13) :
    ∃ v, atI [.int num, .int num, .int num, .int num, .non, .bl true, .bl false, .str z, .ref p1, .ref p2, .ref p3, .int (10 ^ (20 : Int).toNat), .int (-num)] r = some v ∧ Kd H v := by
  have : r = 0 ∨ r = 1 ∨ r = 2 ∨ r = 3 ∨ r = 4 ∨ r = 5 ∨ r = 6 ∨ r = 7 ∨ r = 8 ∨ r = 9 ∨ r = 10 ∨ r = 11 ∨ r = 12 := by omega
  rcases this with rfl | rfl | rfl | rfl | rfl | rfl | rfl | rfl | rfl | rfl | rfl | rfl | rfl
  · exact ⟨_, rfl, .int _⟩
  · exact ⟨_, rfl, .int _⟩
  · exact ⟨_, rfl, .int _⟩
  · exact ⟨_, rfl, .int _⟩
  · exact ⟨_, rfl, .non⟩
  · exact ⟨_, rfl, .bl _⟩
  · exact ⟨_, rfl, .bl _⟩
  · exact ⟨_, rfl, .str _⟩
  · exact ⟨_, rfl, .lst h1⟩
  · exact ⟨_, rfl, .tup h2⟩
  · exact ⟨_, rfl, .dK h3⟩
  · exact ⟨_, rfl, .int _⟩
  · exact ⟨_, rfl, .int _⟩
theorem w_thing {H0 : Hp} {p : Addr} {a b num : Int} (X : Ext S.so H0 H) (n0 : H0 p = none) (q0 : S.so p = none) (hp : H p = some (.lst [.int a, .int b])) (hb0 : 0 ≤ b) (hb1 : b < 2147483647) (ha : 0 ≤ a) (m1 : 0 ≤ num) (m2 : num < 1000)
    (h : ∀ v a' b' H', Ext S.so H0 H' → (∀ c o, c ≠ p → H c = some o → H' c = some o) → H' p = some (.lst [.int a', .int b']) → 0 ≤ a' → 0 ≤ b' → b' < 2147483647 → Kd H' v → Q v H') : (sem S T (n + 2)).fn "_law_thing" [.ref p, .int num] H Q E := by
  refine u_law_thing ?_
  unfold b_law_thing
  walk_at "s"
  refine ⟨?_, ?_⟩
  · have : num.natAbs < 2 ^ 10 := by omega
    by_cases z : num.natAbs = 0
    · rw [z]; decide
    · exact Nat.lt_trans ((Nat.log2_lt z).mpr this) (by decide)
  walk_at "s"
  refine ⟨by show 1 ≤ sizeLine; decide, fun p1 n1 s1 => ?_⟩
  walk_at "s"
  refine ⟨by show 1 ≤ sizeLine; decide, fun p2 n2 s2 => ?_⟩
  walk_at "s"
  intro p3 n3 s3
  walk_at "s"
  refine v_pow ⟨by decide, by decide, by decide⟩ ?_
  walk_at "s"
  refine ⟨by show 13 ≤ sizeLine; decide, fun p4 n4 s4 => ?_⟩
  have X1 := Ext.new (so := S.so) (o := .lst [.int num]) n1 s1
  have X2 := Ext.new (so := S.so) (o := .tup [.int num]) n2 s2
  have X3 := Ext.new (so := S.so) (o := .dK []) n3 s3
  have X4 := Ext.new (so := S.so) (o := .lst [.int num, .int num, .int num, .int num, .non, .bl true, .bl false, .str (toString num), .ref p1, .ref p2, .ref p3, .int (10 ^ (20 : Int).toNat), .int (-num)]) n4 s4
  have k1 := ((X2.trans X3).trans X4).keep _ _ (upd_same (H := H) (a := p1) (o := .lst [.int num]))
  have k2 := (X3.trans X4).keep _ _ (upd_same (a := p2) (o := .tup [.int num]))
  have k3 := X4.keep _ _ (upd_same (a := p3) (o := .dK []))
  have XX := ((X1.trans X2).trans X3).trans X4
  have m1 : p1 ≠ p := ne_of_none' hp n1
  have m2 : p2 ≠ p := ne_of_none' (X1.keep _ _ hp) n2
  have m3 : p3 ≠ p := ne_of_none' ((X1.trans X2).keep _ _ hp) n3
  have m4 : p4 ≠ p := ne_of_none' (((X1.trans X2).trans X3).keep _ _ hp) n4
  walk_at "s"
  refine w_tk (n := n) (X.trans XX) n0 q0 (XX.keep _ _ hp) hb0 hb1 ha (by decide) (by decide) fun r a' b' H' Y K hp' c1 c2 c3 c4 c5 => ?_
  obtain ⟨v, hv, kv⟩ := thing_at (z := toString num) (K _ _ m1 k1) (K _ _ m2 k2) (K _ _ m3 k3) c1 c2
  refine v_idx (rd_here (K _ _ m4 upd_same)) hv ?_
  exact h v a' b' H' Y (fun c o hc ho => K c o hc (XX.keep _ _ ho)) hp' c3 c4 c5 kv
theorem w_law (C : Cs S A) {s : Addr} {ns : List Int} (hs : rd S.so H s = some (.lst (ns.map V.int))) (hl : ns.length ≤ 63) (h : ∀ H', Q (.bl true) H') : (sem S T (n + 4)).fn "law" [.ref s] H Q E := by
  refine u_law ?_
  unfold b_law
  walk_at "s"
  refine lpR_inv (sem_le _) rfl (fun j σ H' => (∃ u, σ = [some (.ref s), u, none, none, none, none, none, none]) ∧ Ext S.so H H') _ _ _ _ ⟨⟨_, rfl⟩, Ext.refl⟩ ?_ ?_
  · rintro j σ H' j1 j2 ⟨⟨u, rfl⟩, X⟩
    have j3 : j ≤ 8 := by have : (1 : Int) + ((9 - 1 : Int).toNat : Nat) = 9 := by decide
                          omega
    walk_at "s"
    refine w_mk_ok (n := n + 1) C C.mk1 rfl j1 j3 (by decide) (by decide) fun x H1 X1 hx => ?_
    have hx' := hx
    obtain ⟨dx, p, a1, a2⟩ := hx'
    refine v_met a1 rfl C.mF ?_
    walk_at "s"
    refine w_fan (n := n + 2) C hx ?_
    walk_at "s"
    refine v_nec (fun z => absurd rfl z) fun _ => ?_
    walk_at "s"
    refine w_mk_ok (n := n + 1) C C.mk1 rfl j1 j3 (by decide) (by decide) fun x2 H2 X2 hx2 => ?_
    have hx' := hx2
    obtain ⟨dx, p, a1, a2⟩ := hx'
    refine v_met a1 rfl C.mL ?_
    walk_at "s"
    refine w_lanes (n := n + 2) C hx2 ?_
    walk_at "s"
    refine v_nec (fun z => absurd rfl z) fun _ => ?_
    walk_at "s"
    exact ⟨⟨_, rfl⟩, (X.trans X1).trans X2⟩
  rintro σ H' ⟨⟨u0, rfl⟩, X0⟩
  walk_at "s"
  refine v_lenL (X0.rd hs) ?_
  walk_at "s"
  refine lpR_inv (sem_le _) rfl (fun j σ H' => ∃ a b c d e f g, σ = [some (.ref s), a, b, c, d, e, f, g] ∧ Ext S.so H H') _ _ _ _ ⟨_, _, _, _, _, _, _, rfl, X0⟩ ?_ ?_
  · rintro j σ H' j1 j2 ⟨_, _, _, _, _, _, _, rfl, X⟩
    walk_at "s"
    refine w_pool (n := n + 2) (X.rd hs) j1 ?_ hl fun H1 p a b X1 p0 q0 hp ha hb hb2 => ?_
    · rw [List.length_map] at j2
      have : (if (if (30 : Int) < ns.length then (30 : Int) else ns.length) > 2 then (if (30 : Int) < ns.length then (30 : Int) else ns.length) else 2) ≤ 30 := by
        split <;> split <;> omega
      omega
    have n0 : H p = none := ext_none X p0
    replace X1 := X.trans X1
    walk_at "s"
    refine w_tk (n := n + 2) X1 n0 q0 hp hb hb2 ha (by decide) (by decide) fun r1 a1 b1 H2 X2 _ hp2 c1 c2 c3 c4 c5 => ?_
    walk_at "s"
    refine w_tk (n := n + 2) X2 n0 q0 hp2 c4 c5 c3 (by decide) (by decide) fun r2 a2 b2 H3 X3 _ hp3 d1 d2 d3 d4 d5 => ?_
    walk_at "s"
    refine ⟨by show 2 ≤ sizeLine; decide, fun t1 m1 s1 => ?_⟩
    have X4 := X3.trans (Ext.new (o := .tup [.int r1, .int (1 + r2)]) m1 s1)
    have e1 : t1 ≠ p := ne_of_none' hp3 m1
    have hp4 : upd H3 t1 (.tup [.int r1, .int (1 + r2)]) p = some (.lst [.int a2, .int b2]) := by rw [upd_ne e1.symm]; exact hp3
    have k4 : upd H3 t1 (.tup [.int r1, .int (1 + r2)]) t1 = some (.tup [.int r1, .int (1 + r2)]) := upd_same
    generalize upd H3 t1 (.tup [.int r1, .int (1 + r2)]) = H4 at *
    walk_at "s"
    refine w_thing (n := n + 1) X4 n0 q0 hp4 d4 d5 d3 c1 (by omega) fun v1 a3 b3 H5 X5 K5 hp5 f3 f4 f5 kv1 => ?_
    walk_at "s"
    refine ⟨by show 2 ≤ sizeLine; decide, fun t2 m2 s2 => ?_⟩
    have N6 := (Ext.new (so := S.so) (o := .tup [v1, .int (1 + r2)]) m2 s2)
    have X6 := X5.trans N6
    have e2 : t2 ≠ p := ne_of_none' hp5 m2
    have hp6 : upd H5 t2 (.tup [v1, .int (1 + r2)]) p = some (.lst [.int a3, .int b3]) := by rw [upd_ne e2.symm]; exact hp5
    have k6 : upd H5 t2 (.tup [v1, .int (1 + r2)]) t2 = some (.tup [v1, .int (1 + r2)]) := upd_same
    replace k4 := N6.keep _ _ (K5 _ _ e1 k4)
    replace kv1 := kv1.ext N6
    clear N6
    generalize upd H5 t2 (.tup [v1, .int (1 + r2)]) = H6 at *
    walk_at "s"
    refine w_thing (n := n + 1) X6 n0 q0 hp6 f4 f5 f3 (by omega) (by omega) fun v2 a4 b4 H7 X7 K7 hp7 g3 g4 g5 kv2 => ?_
    replace kv1 := Kd.extP K7 hp7 kv1
    replace k4 := K7 _ _ e1 k4
    replace k6 := K7 _ _ e2 k6
    walk_at "s"
    refine ⟨by show 2 ≤ sizeLine; decide, fun t3 m3 s3 => ?_⟩
    walk_at "s"
    refine ⟨by show 2 ≤ sizeLine; decide, fun t4 m4 s4 => ?_⟩
    walk_at "s"
    refine ⟨by show 4 ≤ sizeLine; decide, fun ls m5 s5 => ?_⟩
    have N8 := (Ext.new (so := S.so) (o := .tup [.int r1, v2]) m3 s3)
    have N9 := (Ext.new (so := S.so) (o := .tup [.non, .non]) m4 s4)
    have NA := (Ext.new (so := S.so) (o := .lst [.ref t1, .ref t2, .ref t3, .ref t4]) m5 s5)
    have NN := (N8.trans N9).trans NA
    have k8 := (N9.trans NA).keep _ _ (upd_same (H := H7) (a := t3) (o := .tup [.int r1, v2]))
    have k9 := NA.keep _ _ (upd_same (a := t4) (o := .tup [.non, .non]))
    replace k4 := NN.keep _ _ k4
    replace k6 := NN.keep _ _ k6
    replace kv1 := kv1.ext NN
    replace kv2 := kv2.ext NN
    have XA := X7.trans NN
    have kA : upd (upd (upd H7 t3 (.tup [.int r1, v2])) t4 (.tup [.non, .non])) ls (.lst [.ref t1, .ref t2, .ref t3, .ref t4]) ls = some (.lst [.ref t1, .ref t2, .ref t3, .ref t4]) := upd_same
    clear N8 N9 NA NN m3 m4 m5
    generalize upd (upd (upd H7 t3 (.tup [.int r1, v2])) t4 (.tup [.non, .non])) ls (.lst [.ref t1, .ref t2, .ref t3, .ref t4]) = HA at *
    walk_at "s"
    refine v_lstK (rd_here kA) ?_
    refine lpL_inv (sem_le _) (fun _ σ H' => (∃ a b c d e f, σ = [some (.ref s), a, b, c, some (.ref ls), d, e, f]) ∧ Ext S.so HA H') (fun _ _ _ z => rd_here (z.2.keep _ _ kA)) ?_ ?_ _ 0 _ _ rfl (Nat.zero_le _) ⟨⟨_, _, _, _, _, _, rfl⟩, Ext.refl⟩
    · rintro i x σ HB hx ⟨⟨_, _, _, _, _, _, rfl⟩, XB⟩
      have tp : ∃ t u v, x = .ref t ∧ HA t = some (.tup [u, v]) ∧ Kd HA u ∧ Kd HA v := by
        match i, hx with
        | 0, hx => cases hx; exact ⟨_, _, _, rfl, k4, .int _, .int _⟩
        | 1, hx => cases hx; exact ⟨_, _, _, rfl, k6, kv1, .int _⟩
        | 2, hx => cases hx; exact ⟨_, _, _, rfl, k8, .int _, kv2⟩
        | 3, hx => cases hx; exact ⟨_, _, _, rfl, k9, .non, .non⟩
        | i + 4, hx => simp at hx
      obtain ⟨t, u, v, rfl, ht, ku, kv⟩ := tp
      refine v_gTp (rd_hereT (XB.keep _ _ ht)) rfl ?_
      walk_at "s"
      obtain ⟨z, hz⟩ := res_sh (so := S.so) u v
      refine w_told (n := n) C (ku.ext XB) (kv.ext XB) fun HC r XC hr => ?_
      walk_at "s"
      refine v_sh (hz _ _ hr) ?_
      walk_at "s"
      refine w_due (n := n + 1) ((ku.ext XB).ext XC) ((kv.ext XB).ext XC) fun HD r' XD hr' => ?_
      walk_at "s"
      refine v_sh (hz _ _ hr') ?_
      walk_at "s"
      refine v_nec (fun z => absurd rfl z) fun _ => ?_
      walk_at "s"
      exact ⟨⟨_, _, _, _, _, _, rfl⟩, (XB.trans XC).trans XD⟩
    · rintro σ HB ⟨⟨_, _, _, _, _, _, rfl⟩, XB⟩
      walk_at "s"
      exact ⟨_, _, _, _, _, _, _, rfl, XA.trans XB⟩
  · rintro σ H' ⟨_, _, _, _, _, _, _, rfl, X⟩
    walk_at "s"
    exact h _
end
set_option Elab.async false
set_option linter.all false
set_option maxRecDepth 100000
set_option maxHeartbeats 4000000
open PySem PySem.Spec QL
open L2 hiding wE wT
theorem cs_ok {K : PySem.W.Frag} {so : Addr → Option HO} (c : SaysQ (exs more) dfs K) : Cs (St0 K so) (He.ga K) := by
  have m : ∀ e ∈ xcs, ((ns16h.all fun c => decide (isaF K ocs (He.ga K e.1) c = some (e.1 == c))) && (decide (isaF K ocs (He.ga K e.1) "ValueError" = some true) && (match e.2 with
  | some f => xfB K (He.ga K e.1) f
  | none => true))) = true := fun e he => List.all_eq_true.mp (says_more c) e he
  have i1 : (("NoShape" : Str), (some ("what" : Str))) ∈ xcs := by decide
  have d : decide (He.ga K "Shape" = He.ga K "Shape") = true := decide_eq_true rfl
  exact {
    ml := by kernel_rfl
    lf := by kernel_rfl
    mf := by kernel_rfl
    fl := fun f hf => ⟨"Shape", rfl, by
      simp only [List.mem_cons, List.not_mem_nil, or_false] at hf
      rcases hf with rfl | rfl | rfl <;> decide⟩
    mL := by
      show mtF K cmt (He.ga K "Shape") "lanes" = _
      unfold mtF cmt
      simp only [List.find?, d, Bool.true_and]
      rfl
    mF := by
      show mtF K cmt (He.ga K "Shape") "fan" = _
      unfold mtF cmt
      simp only [List.find?, d, Bool.true_and]
      rfl
    mk2 := rfl
    mk1 := rfl
    x := rfl
    f := (He.ba (He.ba (m _ i1)).2).2
    isa := fun k hk => of_decide_eq_true (List.all_eq_true.mp (He.ba (m _ i1)).1 k hk)
    isv := of_decide_eq_true (He.ba (He.ba (m _ i1)).2).1 }
theorem fin {P : Program} {w : World} {K : PySem.W.Frag} {h : Heap} {mg : Str → Option Value} {fa : Addr} (KX : K.In h) (G : h.Ns mainGlobals mg) (hmg : mg ("law" : Str) = some (.ref fa)) (c : SaysQ (exs more) dfs K) :
      ∃ (K : PySem.W.Frag) (so0 : Addr → Option HO) (sp : (Addr → Option HO) → Sp) (fd : FuncData), K.In h ∧ SoOk K so0 ∧ (∀ (s : Shared) (u : Value), BindsTo s fd ⟨[u], []⟩ [("_law_script", u)]) ∧
        (∀ so, SoOk K so → SoLe so0 so → ∀ base : Heap, K.In base → base.Ns mainGlobals mg → FnG P w K mg base 9 fa fd ["_law_script"] (sp so)) ∧
        ∀ (a : Addr) (ns : List Int) (so : Addr → Option HO) (H : Hp), ns.length ≤ 63 → SoLe so0 so → rd so H a = some (.lst (ns.map V.int)) → (∀ b, b ≠ a → H b = none) → (∀ o, H a = some o → ∃ x u, o = .frz x u) → sp so [.ref a] H (fun v _ => v = .bl true) fun _ _ _ => False := by
  obtain ⟨fd, F⟩ := c.def_ 12 rfl
  have F : FunD K "law" "law" (defArgs (topS 33)) (defBody (topS 33)) (defScope (topS 33)) [] [] _ fd := F
  have D : DefB K gl "law" "law" i_law (topS 33) (He.fAd K ("law", none)) fd ["_law_script"] := ⟨⟨_, _, F⟩, ⟨rfl, rfl, rfl, by decide +kernel, rfl, by decide +kernel, by decide +kernel⟩, rfl, c_law⟩
  have e := hmg.symm.trans (He.glo_ok KX G (fact c 0 (f := .glo "law") rfl))
  cases e
  refine ⟨K, fun _ => none, fun so => (sem (St0 K so) T 4).fn "law", fd, KX, (fun _ _ z => by cases z), ?_, fun so hso _ base _ _ => (tops KX G c so hso).fng 4 "law" "law" "law" i_law _ _ _ _ t_law D, fun a ns so H hl _ hs _ _ => ?_⟩
  · obtain ⟨oc, od, dV, kV, doc, pm, an, cdv, ct, osl, rfl, lk, hcd, hD, hK⟩ := F.ex
    rcases hD with ⟨_, rfl⟩ | ⟨e, _⟩
    · exact fun s v => .of_eq rfl
    · exact absurd rfl e
  · exact w_law (A := He.ga K) (cs_ok c) hs hl fun _ => rfl
end K01
set_option linter.all false
open PySem PySem.W PySem.Calls PyProof.Rows in
set_option maxRecDepth 100000 in
set_option maxHeartbeats 0 in
theorem PySem.Challenge.cw_quietlanes_k01_shapes_made_holds : PySem.Challenge.rw_quietlanes_k01_shapes_made.Holds := by
  w_on; o_law
  refine HandSHeadRun.head_any (r := OpenLaw.row PySem.Challenge.rw_quietlanes_k01_shapes_made) (q := view (OpenLaw.row PySem.Challenge.rw_quietlanes_k01_shapes_made).prog [33]) (H := K01.hk) (ob := K01.ob) (M := 40000) (loose := K01.loose) (d := HandSHeadRun.topDef (OpenLaw.row PySem.Challenge.rw_quietlanes_k01_shapes_made).prog 33) (kwd := []) K01.ob_eq
    (by kernel_rfl) (fun s => by kernel_rfl) K01.run (by kernel_rfl) (by kernel_rfl) (by kernel_rfl) (by rfl) (by first | assumption | decide +kernel) (by decide +kernel) ⟨rfl, rfl, rfl, rfl, rfl, by decide +kernel⟩ ?hw ?hc
  case hw => w_witness2
  case hc =>
    refine QL.walk_h (l := PySem.Challenge.rw_quietlanes_k01_shapes_made) (n := 63) (k := 9) (x := "_law_script") rfl (by decide) (by kernel_rfl) ⟨rfl, by decide, by decide⟩ ?F
    intro w mg fa h Y G hmg0
    obtain ⟨K, KX, c⟩ := Y
    have hmg : mg ("law" : PySem.Str) = some (.ref fa) := by
      have e : (HandSHeadRun.topDef (OpenLaw.row PySem.Challenge.rw_quietlanes_k01_shapes_made).prog 33).name = ("law" : PySem.Str) := by kernel_rfl
      rw [← e]
      exact hmg0
    exact K01.fin KX G hmg c
