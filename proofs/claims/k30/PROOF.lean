import PyProof.Rows.All
import Wide.All
import OpenK.AllK
import Wide.FinOn
import HandS.ForMost
import HandS.ForExc
import HandS.Flow
import HandS.Wide
import HandS.IsInst
import HandS.ExcCtx
import HandS.HotCalls
import HandS.ExcInit
import HandS.ExcField
import HandS.ExcIs
import HandS.WrittenGet
import HandS.HeadHook4
import HandS.HeadEnd
import HandS.HeadWalk
import HandS.Head2
import HandS.Codes
import HandS.Steps
import HandS.SortInts
import HandS.ExcInitHot
import HandS.Conv
import HandS.Iter
import HandS.Style
import HandS.Zip
import PySem.Challenge.RW_toldoutside_k30_steps_and_counts_of_lett
import HandS.Text
set_option Elab.async false
set_option linter.all false
set_option maxRecDepth 100000
set_option maxHeartbeats 4000000
/-! CmA: operators that take any kind of value, own errors with an __init__, what a suite's callee sees of the error. -/
namespace L3
open PySem PySem.Spec PyProof.Rows L2

/-! ### operators by any values: one rule a sign, the value tells which way -/
section
variable {X : Cx}
/-- a + b: ints, new lists, texts, tuples -/
def rPlus (K : PySem.W.Frag) : R2 := fun x y H Q => rI0 (fun i j => .int (i + j)) x y H Q ∨ rCat x y H Q ∨ (∃ i j, x = .str i ∧ y = .str j ∧ i.length + j.length ≤ sizeLine ∧ Q (.str (i ++ j)) H)
theorem op_plus : OpR X (binaryOp .Add) (rPlus X.K) := OpR.or op_add (OpR.or op_cat op_add_str)
/-- a * b: wide ints, a list so many times -/
def rTimes : R2 := fun x y H Q => rI CMulW (fun i j => .int (i * j)) x y H Q ∨ rRep x y H Q
theorem op_times : OpR X (binaryOp .Mult) rTimes := OpR.or op_mulW op_rep
/-- a == b, a != b: scalars, data of any depth -/
def rSame (K : PySem.W.Frag) : R2 := fun x y H Q => rEq x y H Q ∨ rEqD K x y H Q
theorem op_same (hu : X.A.units + 64 < cLine) : OpR X (compareOp .Eq) (rSame X.K) := OpR.or op_eq (op_eqD hu)
def rOther (K : PySem.W.Frag) : R2 := fun x y H Q => rNe x y H Q ∨ rNeD K x y H Q
theorem op_other (hu : X.A.units + 64 < cLine) : OpR X (compareOp .NotEq) (rOther X.K) := OpR.or op_ne (op_neD hu)
/-- x[i] of a list, a tuple -/
def rAt (K : PySem.W.Frag) : R2 := fun x y H Q => rIxL K x y H Q ∨ rIxT K x y H Q
theorem ix_at : IxR X (rAt X.K) := IxR.or ix_list ix_tup
end
theorem hu64 {A : Around} {k : Nat} (hr : Room k A) : A.units + 64 < cLine := by have := hr.un; omega
theorem hu1 {A : Around} {k : Nat} (hr : Room k A) : A.units + 1 < cLine := by have := hr.un; omega
end L3
set_option maxRecDepth 100000
set_option maxHeartbeats 4000000
namespace L3
open PySem PySem.Spec PyProof.Rows L2

/-! ### C(e, ..) for an own error class with its own __init__, where the maker's context is None (nothing is handled) -/
theorem pmk_err {X : Cx} {CX : CXT} {x : Str} {e : Expr} {es : List Expr} {ta : TA} {p pos : Pos} {C fI : Addr} {k : Nat} {fd : FuncData} {ps : List Str} {sp : Sp} (T : OexC X.K C)
    (iC : PySem.W.findIn X.K (.ref C) "__init__" = some (some (.ref fI))) (tI : PySem.W.typeIn X.K (.ref fI) = some (.type "function"))
    (F1 : FnOk X.prog X.w X.K X.mg X.base CX k fI fd ps sp) (hr : Room (k + 1) X.A) (hb : Binds X.K fd ps []) (hx : Passes CX X (fun _ _ _ => False)) (hg : Gl X x) (hm : X.mg x = some (.ref C)) (ha : PA X (e :: es) ta)
    (hdb : (x == ("__debug__" : Str)) = false := by decide) (he : starEach (e :: es) X.env = (false, eval e X.env) :: starEach es X.env := by rfl) (hpl : (backTo pos (starEach es X.env)).any (·.1) = false := by rfl) :
    L2N.PMk X (.Call (.Name x p) (e :: es) [] pos) (tMkO C sp [] ta) := by
  intro pins s σ H Q I h
  have TC := T.cls
  obtain ⟨nm, q, N, bs, bm, sn, sub, ab, col, dd, k0, k1, k2, k3, k5, hC, hbm⟩ := TC
  refine wpAny_Call_Name_kw (ld_glob I hg hm ?_ hdb)
  have arg := ha.run pos pins s σ H _ I h
  refine PySem.W.callWith_K (h₀ := X.base) I.ok.mod.kin T.kC (thn arg fun us s1 hh => ?_) he hpl
  obtain ⟨vs, H1, I1, r1, hz, q1⟩ := hh
  refine ⟨I1.kIn, ?_⟩
  show wpAny _ _ (call (.ref C) us) _ _ _
  obtain ⟨hp, g, dr, tk, os⟩ := s1
  have below : hp.objs.size ≤ hp.objs.size + 1 := Nat.le_succ _
  have fresh : H1 (hp.objs.size + 1) = none := I1.hok.fresh below
  have wish := q1 (hp.objs.size + 1) fresh
  have old : ∀ b o, hp.get? b = some o → ((hp.push (PySem.W.kdv_tup us)).push (PySem.HandSPX.excO C hp.objs.size)).get? b = some o := fun b o e => Heap.get?_push_of_some _ (Heap.get?_push_of_some _ e)
  have there : ((hp.push (PySem.W.kdv_tup us)).push (PySem.HandSPX.excO C hp.objs.size)).get? (hp.objs.size + 1) = some (PySem.HandSPX.excO C hp.objs.size) := by heap_get
  have I2 : Inv X pins σ (upd H1 (hp.objs.size + 1) (exo (hp.objs.size + 1) C none)) ⟨(hp.push (PySem.W.kdv_tup us)).push (PySem.HandSPX.excO C hp.objs.size), g, dr, tk, os⟩ :=
    I1.laid (t' := tk) (a := hp.objs.size + 1) (o := exo (hp.objs.size + 1) C none) old below (exo_ok there)
  have r2 : Vals (V.ref (hp.objs.size + 1) :: (vs ++ [])) (Value.ref (hp.objs.size + 1) :: (us ++ [])) := .cons rfl (r1.append .nil)
  have len : (Value.ref (hp.objs.size + 1) :: us ++ []).length = ps.length := ((F1.len _ _ _ _ wish).symm.trans r2.length).symm
  have few : us.length ≤ sizeLine := by
    rw [← Paired.length r1, sizeLine_eq]
    omega
  have init := F1.run _ X.stack _ _ ⟨Value.ref (hp.objs.size + 1) :: us, []⟩ (Value.ref (hp.objs.size + 1) :: (us ++ [])) _ _ (fun _ _ _ => False) (hr.make C us []) (I2.env0.make C us [])
    (by have z := hb _ (Value.ref (hp.objs.size + 1) :: us) I2.kIn len; rw [List.cons_append] at z; exact z) r2 wish
  refine wpAny_call (PySem.HandSPX.call_own F.excBase_ValueError (fun Y => PySem.HandSPX.refsVE_contains Y bm hbm) (I1.kIn _ _ hC) (PySem.W.looks_findIn I1.kIn iC) (fun self => PySem.W.bind_fn I1.kIn self tI) few
    (codeAny_mono init fun r s' z => ?_))
  cases r with
  | error er => exact hx pins σ _ _ er s' I2 z
  | ok fl =>
    cases fl with
    | ret u =>
      obtain ⟨v, H2, os2, bare2, un2, hok2, rv, ev, d, fs, ea, ed, hd1, q2⟩ := z
      subst ev
      obtain ⟨h2, g2, d2, t2, os'⟩ := s'
      obtain ⟨t0, G, J, kG, ge, hoe, na⟩ := mk_end0 (d2 := d2) (t2 := t2) I1 below old un2 hok2 os2 bare2 ea ed hd1
      refine ⟨rv, ⟨hp.objs.size + 1, _, _, ⟨G, g2, d2, t2, os'⟩, _, .ref C, some d, rfl, J, kG, ge, hoe, ⟨rfl, rfl, fun vs hv => ?_⟩, rfl, rfl, na, rfl, bare2, raises_own T.exC T.tyC, q2⟩⟩
      cases hv
      rfl
    | next => exact z.elim
    | brk => exact z.elim
    | cont => exact z.elim

/-! ### a def called in a suite, the handled error p among its arguments: the promise may speak of p -/
abbrev SpP := Addr × Obj → Sp
structure FnP (P : Program) (w : World) (K : PySem.W.Frag) (mg : Str → Option Value) (base : Heap) (CX : CXT) (k : Nat) (f : Addr) (fd : FuncData) (ps : List Str) (sp : SpP) : Prop where
  len : ∀ p vs H Q E, sp p vs H Q E → vs.length = ps.length
  run : ∀ (p : Addr × Obj) (A : Around) (outer : List Env) (s : Shared) (H : Hp) (args : Args) (us : List Value) (vs : List V) (Q : VK) (E : XK), L2H.RoomH k A → L2H.Hot1 A p → L2H.PinOk outer H s p → Env0 P w K mg base A outer s H →
    BindsTo s fd args (ps.zip us) → Vals vs us → sp p vs H Q E → codeAny (model P w) A (.call (.ref f) args) (CR CX outer P w H s Q E) s
/-- a body by its reading, p at hand -/
theorem fnP_of {CX : CXT} {P : Program} {w : World} {K : PySem.W.Frag} {mg : Str → Option Value} {base : Heap} {k : Nat} {f : Addr} {name qual : Str} {params : Arguments} {body : List Stmt} {scope : Scope} {fd : FuncData} {N ps : List Str} {sp : SpP}
    (FD : FunD K name qual params body scope [] [] f fd) (S : FnScope N ps scope) (len : ∀ p vs H Q E, sp p vs H Q E → vs.length = ps.length)
    (hbody : ∀ (p : Addr × Obj) (cdv : Value) (A : Around) (outer : List Env) (s : Shared) (H : Hp) (vs : List V) (Q : VK) (E : XK), L2H.Hot1 A p → L2H.RoomH k (A.deeper (envOfC qual scope s.heap.objs.size f cdv)) → sp p vs H Q E →
      ∃ t, PSs (L2H.cxH CX P w K mg base N qual scope f cdv A outer s H E p) body t ∧ t { nx := fun _ H' => Q .non H', rt := Q } (L2.start N vs) H) :
    FnP P w K mg base CX (k + 1) f fd ps sp := by
  obtain ⟨oc, od, dV, kV, doc, pm, an, cdv, ct, osl, rfl, lk, hcd, _, _⟩ := FD.ex
  refine ⟨len, fun p A outer s H args us vs Q E hr hot hpin e0 hb r hsp => ?_⟩
  -- for this p alone the library's hot promise
  let sq : Sp := fun vs' H' Q' E' => vs' = vs ∧ H' = H ∧ Q' = Q ∧ E' = E
  have hl := len _ _ _ _ _ hsp
  have KX : K.In s.heap := e0.mod.kin.keeps fun b o e => (e0.bs b o e).1
  have lim : s.heap.NoLimit := e0.mod.nolimit.keeps fun b o e => (e0.bs b o e).1
  have kinds : ∀ y ∈ ps.zip us, scope.names.lookup y.1 = some .local ∨ (scope.names.lookup y.1 = some .cell ∧ ((cellsFrom (s.heap.objs.size + 1) scope.names []).lookup y.1).isSome = true) := fun ⟨n, v⟩ hy =>
    (S.par n (List.of_mem_zip hy).1).elim Or.inl fun q => Or.inr ⟨q, PySem.W.cellsFrom_some _ _ _ (Or.inl q)⟩
  refine codeAny_call_function hr.depth (KX _ _ lk) rfl S.co S.gen rfl (PySem.W.codeRec_of KX hcd) (hb _ _ _ _ ?_)
  refine wpAny_newFunctionEnv_cells S.kind kinds fun env he s1 x => ?_
  subst he
  refine ⟨lim.keeps x.toInCall.keep, codeAny_func ?_⟩
  obtain ⟨t, ht, hq⟩ := hbody p cdv A outer s H vs Q E hot (hr.deeper _) hsp
  have I := L2H.inv_startH (CX := CX) (E := E) S hpin e0 hl r x
  refine wpAny_mono (ht.run [] s1 (L2.start N vs) H _ I hq) (fun fl s' hs => ?_) fun e s' hs => hs
  cases fl with
  | ret u =>
    obtain ⟨v, σ', H', J, rv, q⟩ := hs
    exact ⟨v, H', J.os, J.bare, J.base, J.hok, rv, q⟩
  | next =>
    obtain ⟨σ', H', J, q⟩ := hs
    exact ⟨V.non, H', J.os, J.bare, J.base, J.hok, rfl, q⟩
  | brk =>
    obtain ⟨_, _, _, q⟩ := hs
    exact q.elim
  | cont =>
    obtain ⟨_, _, _, q⟩ := hs
    exact q.elim
/-- the call in the suite: f(e, ..), the error's object known -/
theorem pe_callP {X : Cx} {CX : CXT} {k : Nat} {f : Addr} {fd : FuncData} {ps : List Str} {sp : SpP} {E : L2.St → XK} {x : Str} {q pos : Pos} {e : Expr} {es : List Expr} {t : TA} {p : Addr × Obj}
    (FP : FnP X.prog X.w X.K X.mg X.base CX k f fd ps sp) (hr : L2H.RoomH k X.A) (hot : L2H.Hot1 X.A p) (hp : p ∈ X.pn) (hg : Gl X x) (hm : X.mg x = some (.ref f)) (hk : PySem.W.keepIn X.K (.ref f) = true) (hb : Binds X.K fd ps [])
    (hx : ∀ σ, PassesAt CX X σ (E σ)) (ha : PA X (e :: es) t) (hdb : (x == ("__debug__" : Str)) = false := by decide) (he : starEach (e :: es) X.env = (false, eval e X.env) :: starEach es X.env := by rfl)
    (hpl : (backTo pos (starEach es X.env)).any (·.1) = false := by rfl) : PE X (.Call (.Name x q) (e :: es) [] pos) (tCallS (sp p) E t) := by
  refine ⟨fun pins s σ H Q I h => ?_⟩
  refine wpAny_Call_Name_kw (ld_glob I hg hm ?_ hdb)
  refine PySem.W.callWith_K (h₀ := X.base) I.ok.mod.kin hk (thn (ha.run pos pins s σ H _ I h) fun us s1 hh => ?_) he hpl
  obtain ⟨vs, H1, I1, r, w⟩ := hh
  refine ⟨I1.kIn, ?_⟩
  have hl : us.length = ps.length := r.length.symm.trans (FP.len _ _ _ _ _ w)
  have b := hb s1 us I1.kIn (by rw [List.append_nil]; exact hl)
  rw [List.append_nil] at b
  have P1 := I1.pin p (List.mem_append_left _ hp)
  have hpin : L2H.PinOk X.stack H1 s1 p := ⟨P1.1, P1.2.1, fun hm => (List.mem_cons.mp (I1.stkSub p.1 hm)).elim P1.2.2.1 P1.2.2.2.1, P1.2.2.2.2⟩
  refine wpAny_call (codeAny_mono (FP.run p X.A X.stack s1 H1 ⟨us, []⟩ us vs Q (E σ) hr hot hpin I1.env0 b r w) fun r s' hq => ?_)
  cases r with
  | error e => exact hx σ pins H1 s1 e s' I1 hq
  | ok fl =>
    cases fl with
    | ret u => exact I1.after hq
    | next => exact hq.elim
    | brk => exact hq.elim
    | cont => exact hq.elim
end L3
namespace PySem.W
open PySem PySem.Spec PySem.Calls PyProof.Rows
section
variable {prog : Program} {w : World} {A : Around} {E : Value → Shared → Prop} {s : Shared} {K : Frag} {x D : Addr} {ox od : Obj}
/-- e.__class__ of an error of an own class that has a dict -/
theorem errClass {Q : Option Value → Shared → Prop} (C : L2.ExcC K D) (X : K.In s.heap) (I : InstAt s.heap x ox D (some od)) (h : Q (some (.ref D)) { s with toks := s.toks + 1 }) :
    wpAny (model prog w) A (getAttr? (.ref x) "__class__") Q E s := by
  have some_cls : (clsIn K D).isSome = true := by
    obtain ⟨cd, hc, _⟩ := any_some C.hd
    rw [hc]
    rfl
  have fnd : findObj K D (some od) "__class__" = some (.bind (.builtin "getset_descriptor.__get__") (.builtin "object.__class__")) := findObj_data some_cls C.ha C.hn C.ht
  obtain ⟨hp, g, d, t, os⟩ := s
  have T0 := I.type (M := model prog w)
  have T1 := looks_findIn (M := model prog w) X C.hg
  have T2 := looks_findIn (M := model prog w) X C.hk
  have T3 := looks_find (M := model prog w) X I fnd
  have isB : Looks (model prog w) hp (isInstance (.ref x) (.type "BaseException")) true := T0.andThen (looks_subIn X C.hs)
  have n0 : (false && onTheHeap (Value.builtin "BaseException.__getattribute__")) = false := rfl
  have n2 : (Value.builtin "BaseException.__getattribute__" == Value.builtin "object.__getattribute__") = false := by decide +kernel
  have n1 : (onTheHeap (Value.ref D) && Value.builtin "BaseException.__getattribute__" == Value.builtin "object.__getattribute__") = false := by rw [n2]; rfl
  unfold getAttr? getAttrBy? getAttrBy
  refine wpAny_bind (wpAny_mkText (wpAny_bind (wpAny_attempt (wpAny_holding (wpAny_bind (T0.at (wpAny_bind (T1.at ?_))))))))
  show wpAny _ _ (if (onTheHeap (Value.ref D) && Value.builtin "BaseException.__getattribute__" == Value.builtin "object.__getattribute__") = true then _ else _) _ _ _
  rw [n1, if_neg Bool.false_ne_true]
  unfold getAttrByItsOwn hookBefore
  refine wpAny_bind ?_
  rw [if_pos (show onTheHeap (Value.ref D) = true from rfl)]
  refine T2.at (wpAny_bind (wpAny_attempt (wpAny_holding ?_)))
  unfold callGetattribute
  rw [n0, if_neg Bool.false_ne_true]
  unfold boundAndCalled
  rw [PySem.F.excAttr_ValueError.ga.bind (.ref x)]
  refine wpAny_bind (wpAny_pure ?_)
  show wpAny _ _ (call (.builtin "BaseException.__getattribute__") [.ref x, .str "__class__" t]) _ _ _
  refine wpAny_call (codeAny_call_builtin PySem.F.excAttr_ValueError.ga.plain PySem.F.entry_bexc_ga (@check_slot (model prog w) _ _ ⟨hp, g, d, t + 1, os⟩ "BaseException.__getattribute__" "BaseException" "__getattribute__" (.ref x) [.str "__class__" t] [] _
    (by decide +kernel) (by decide +kernel) isB (PySem.F.args_bexc_ga (.ref x) (.str "__class__" t)) ?_))
  unfold Builtin.«object.__getattribute__»
  refine wpAny_bind (wpAny_of_eq (a := ((Value.ref x : Value), [Value.str "__class__" t])) (by first | rfl | (simp only [slotArgs]; rfl)) (wpAny_bind (wpAny_pure (wpAny_bind (T0.at (wpAny_bind (T3.at ?_)))))))
  show wpAny _ _ (holding [Value.builtin "object.__class__"] (call (.builtin "getset_descriptor.__get__") [.builtin "object.__class__", .ref x, .ref D]) >>= ret) _ _ _
  refine wpAny_bind (wpAny_holding (wpAny_call (class_get (s := ⟨hp, g, d, t + 1, os⟩) (ox := ox) (od := some od) X I C.hm (wpAny_pure ?_))))
  show wpAny _ _ (handedOut (.ref D)) _ _ _
  rw [handedOut_of (v := .ref D) rfl]
  first
    | exact wpAny_pure (wpAny_pure h)
    | exact wpAny_pure h
    | exact wpAny_pure (wpAny_bind (wpAny_pure (wpAny_pure h)))
theorem errKit (C : L2.ExcC K D) : KitX K (.ref x) (.ref D) (fun h => ∃ ox od, InstAt h x ox D (some od)) where
  ty := fun _ _ _ ⟨_, _, I⟩ => I.type
  it := fun _ _ X _ => by
    obtain ⟨cd, hc, _⟩ := any_some C.hd
    unfold clsIn at hc
    split at hc
    · rename_i c' d' cd' sl' ho
      intro A' Q' E' s' k q
      unfold isType loadHead
      exact wpAny_bind (wpAny_loadPart (k _ _ (X _ _ ho)) (wpAny_pure q))
    · cases hc
  ne := fun h tp dd its n sl X htp => by
    obtain ⟨cd, hc, _⟩ := any_some C.hd
    refine Bool.eq_false_iff.mpr fun q => ?_
    have e : D = tp := Value.ref.inj (beq_iff_eq.mp q)
    subst e
    unfold clsIn at hc
    split at hc
    · rename_i c' d' cd' sl' ho
      cases (X _ _ ho).symm.trans htp
    · cases hc
  ca := fun X ⟨_, _, I⟩ k => errClass C X I k
end
end PySem.W
namespace L3
open PySem PySem.Spec PyProof.Rows L2
/-- isinstance(e, c), e the pinned error with its dict at dd -/
def rIsP (K : PySem.W.Frag) (D a dd : Addr) : List V → Hp → VK → Prop := fun xs H Q => ∃ (c : V) (cv : Value) (b : Bool) (fs : List (Str × V)), xs = [.ref a, c] ∧ H dd = some (.xd fs) ∧ (∀ u, RelV c u → u = cv) ∧ PySem.W.kitOne K (.ref D) cv = some b ∧ Q (.bl b) H
theorem call_isP {X : Cx} {a D dd : Addr} {oe : Obj} (C : ExcC X.K D) (hz : oe.cls = .ref D ∧ oe.dict = some dd) (hf : ∃ vs, oe.data = .fields vs) (hp : (a, oe) ∈ X.pn) : CallR X (.builtin "isinstance") (rIsP X.K D a dd) := by
  intro pins s σ H xs us Q I r h
  obtain ⟨c, cv, b, fs, rfl, ed, hcv, e, q⟩ := h
  cases r with
  | cons rx rr =>
    cases rr with
    | cons rt rr =>
      cases rr
      cases rx
      have ec := hcv _ rt
      subst ec
      obtain ⟨hget, _⟩ := I.pin (a, oe) (List.mem_append.mpr (.inl hp))
      have hx : ObjOk X.prog X.w H s.heap dd (.xd fs) := I.hok dd _ ed
      obtain ⟨mA, hns, hr⟩ := hx
      obtain ⟨od, ho, _⟩ := lookIn_ns hns
      obtain ⟨vs, hv⟩ := hf
      have J : PySem.W.InstAt s.heap a oe D (some od) := by
        obtain ⟨oc, odd, oda, osl⟩ := oe
        obtain ⟨h1, h2⟩ := hz
        dsimp only at h1 h2 hv
        subst h1 h2 hv
        exact ⟨hget, rfl, rfl, ho⟩
      refine PySem.W.kia_one (H := fun h => ∃ ox od, PySem.W.InstAt h a ox D (some od)) (PySem.W.errKit C) I.kIn ⟨_, _, J⟩ e (fun z => nomatch z) fun tk => ⟨.bl b, H, I.kept (t' := tk) fun _ _ z => z, rfl, q⟩
/-- e.f of the pinned error -/
def tXp (D a dd : Addr) (f : Str) (te : TE) : TE := fun σ H Q => te σ H fun x H1 => x = .ref a ∧ ∃ (fs : List (Str × V)) (v : V), H1 dd = some (.xd fs) ∧ fs.lookup f = some v ∧ Q v H1
theorem pe_xp {X : Cx} {a D dd : Addr} {oe : Obj} {e : Expr} {te : TE} {pos : Pos} {n : Str} (T : XfC X.K D) (hno : PySem.W.findIn X.K (.ref D) n = some none) (hz : oe.cls = .ref D ∧ oe.dict = some dd) (hf : ∃ vs, oe.data = .fields vs) (hp : (a, oe) ∈ X.pn)
    (he : PE X e te) (hb : attributeBase e n X.env (eval e X.env) = eval e X.env := by rfl) : PE X (.Attribute e n pos) (tXp D a dd n te) := by
  refine ⟨fun pins s σ H Q I h => attr_of hb (thn (he.run pins s σ H _ I h) fun u s1 hh => ?_)⟩
  obtain ⟨x, H1, I1, rx, ex, fs, v, ea, l, q⟩ := hh
  subst ex
  obtain rfl : u = Value.ref a := rx
  obtain ⟨ha, _⟩ := I1.pin (a, oe) (List.mem_append_left _ hp)
  obtain ⟨vs, hd⟩ := hf
  have hx : ObjOk X.prog X.w H1 s1.heap dd (.xd fs) := I1.hok dd _ ea
  obtain ⟨mA, hns, hr⟩ := hx
  obtain ⟨od, ho, hl⟩ := lookIn_ns hns
  obtain ⟨u, hu, ru⟩ := RelO.some_of (v := v) (o := mA n) (by rw [← l]; exact hr n)
  have J : PySem.W.InstAt s1.heap a oe D (some od) := ⟨ha, hz.1, by unfold PySem.W.notCls; rw [hd] <;> rfl, by rw [hz.2]; exact ho⟩
  exact HandSPX.exc_get I1.kIn J T.ga T.gg T.exC (PySem.W.findObj_own T.hdC hno rfl (by rw [hl, hu])) (handed_of ru) ⟨v, H1, I1.tok _, ru, q⟩
end L3
set_option maxRecDepth 100000
set_option maxHeartbeats 4000000
/-! CmC: what the head tells of the error classes and of the table of bounds. -/
namespace L3
open PySem PySem.Spec PyProof.Rows L2 He

def oexB (K : PySem.W.Frag) (C : Addr) : Bool := (match K.lookup C with
  | some ⟨.type t, _, .cls cd, sl⟩ => (match cd.mro, sl.toList with
    | .ref C' :: bm, [_, _, _, _, some (.builtin n), _] => decide (t = "type") && (decide (C' = C) && (decide (n = "ValueError.__new__") && (!cd.hasDel && (cd.hasDict && PySem.HandSPX.refsVE bm))))
    | _, _ => false)
  | _ => false) && (eqO (PySem.W.findIn K (.ref C) "__setattr__") (some (some (.builtin "object.__setattr__"))) && (decide (PySem.W.subIn K (.ref C) (.type "BaseException") = some true) &&
    (decide (PySem.W.typeIn K (.ref C) = some (.type "type")) && PySem.W.keepIn K (.ref C))))
theorem oexB_ok {K : PySem.W.Frag} {C : Addr} (h : oexB K C = true) : OexC K C := by
  obtain ⟨h0, h⟩ := ba h
  obtain ⟨h1, h⟩ := ba h
  obtain ⟨h2, h⟩ := ba h
  obtain ⟨h3, h4⟩ := ba h
  refine ⟨?_, eqO_ok h1, of_decide_eq_true h2, of_decide_eq_true h3, h4⟩
  split at h0
  · rename_i t dd cd sl ho
    split at h0
    · rename_i C' bm k0 k1 k2 k3 n k5 hm hs
      obtain ⟨e1, h0⟩ := ba h0
      obtain ⟨e2, h0⟩ := ba h0
      obtain ⟨e3, h0⟩ := ba h0
      obtain ⟨e4, h0⟩ := ba h0
      obtain ⟨e5, e6⟩ := ba h0
      have e1 := of_decide_eq_true e1
      have e2 := of_decide_eq_true e2
      have e3 := of_decide_eq_true e3
      subst e1 e2 e3
      obtain ⟨nm, bs, mro, ns, qn, hd, sn, sub, ab, col, del⟩ := cd
      dsimp only at hm e4 e5
      subst hm e5
      have hdel : del = false := by cases del <;> first | rfl | cases e4
      subst hdel
      have hsl : sl = #[k0, k1, k2, k3, some (.builtin "ValueError.__new__"), k5] := by
        have : sl.toList.toArray = [k0, k1, k2, k3, some (.builtin "ValueError.__new__"), k5].toArray := congrArg List.toArray hs
        simpa using this
      subst hsl
      exact ⟨nm, qn, ns, bs, bm, sn, sub, ab, col, dd, k0, k1, k2, k3, k5, ho, e6⟩
    · cases h0
  · cases h0
def excB (K : PySem.W.Frag) (D : Addr) : Bool := xfB K D && (eqO (PySem.W.findIn K (.ref D) "__class__") (some (some (.builtin "object.__class__"))) &&
  (eqO (PySem.W.specialIn K (.builtin "object.__class__") "__get__") (some (some (.builtin "getset_descriptor.__get__"))) && (decide (PySem.W.takesIn K (.builtin "object.__class__") = some true) && decide (PySem.W.mroIn K D (.type "object") = some true))))
theorem excB_ok {K : PySem.W.Frag} {D : Addr} (h : excB K D = true) : ExcC K D ∧ XfC K D := by
  obtain ⟨h0, h⟩ := ba h
  obtain ⟨h1, h⟩ := ba h
  obtain ⟨h2, h⟩ := ba h
  obtain ⟨h3, h4⟩ := ba h
  have X := xfB_ok h0
  exact ⟨⟨X.ga, X.gg, X.exC, X.hdC, eqO_ok h1, eqO_ok h2, of_decide_eq_true h3, of_decide_eq_true h4⟩, X⟩
/-- an error class x of the text, its __init__ stores the names fs -/
structure ErrC (K : PySem.W.Frag) (x : Str) (fs : List Str) : Prop where
  o : OexC K (ga K x)
  e : ExcC K (ga K x)
  f : XfC K (ga K x)
  no : ∀ y ∈ fs, PySem.W.findIn K (.ref (ga K x)) y = some none
  iC : PySem.W.findIn K (.ref (ga K x)) "__init__" = some (some (.ref (ma K (ga K x) "__init__")))
  tI : PySem.W.typeIn K (.ref (ma K (ga K x) "__init__")) = some (.type "function")
def errB (K : PySem.W.Frag) (x : Str) (fs : List Str) : Bool := oexB K (ga K x) && (excB K (ga K x) && ((fs.all fun y => eqO (PySem.W.findIn K (.ref (ga K x)) y) (some none)) &&
  (eqO (PySem.W.findIn K (.ref (ga K x)) "__init__") (some (some (.ref (ma K (ga K x) "__init__")))) && decide (PySem.W.typeIn K (.ref (ma K (ga K x) "__init__")) = some (.type "function")))))
theorem errB_ok {K : PySem.W.Frag} {x : Str} {fs : List Str} (h : errB K x fs = true) : ErrC K x fs := by
  obtain ⟨h1, h⟩ := ba h
  obtain ⟨h2, h⟩ := ba h
  obtain ⟨h3, h⟩ := ba h
  obtain ⟨h4, h5⟩ := ba h
  obtain ⟨a, b⟩ := excB_ok h2
  exact ⟨oexB_ok h1, a, b, fun y hy => eqO_ok (List.all_eq_true.mp h3 y hy), eqO_ok h4, of_decide_eq_true h5⟩
/-- which error is of which class -/
def kitXB (K : PySem.W.Frag) (x y : Str) (b : Bool) : Bool := decide (PySem.W.kitOne K (.ref (ga K x)) (.ref (ga K y)) = some b)
def kitsB (K : PySem.W.Frag) (base : Str) (xs : List Str) : Bool := xs.all fun x => (xs.all fun y => kitXB K x y (decide (x = y))) && (kitXB K x base true && (decide (PySem.W.kitOne K (.ref (ga K x)) (.type "ValueError") = some true) &&
  decide (PySem.W.exmOne K (.ref (ga K x)) (.ref (ga K base)) = some true)))
structure Kits (K : PySem.W.Frag) (base : Str) (xs : List Str) : Prop where
  kit : ∀ x ∈ xs, ∀ y ∈ xs, PySem.W.kitOne K (.ref (ga K x)) (.ref (ga K y)) = some (decide (x = y))
  kitO : ∀ x ∈ xs, PySem.W.kitOne K (.ref (ga K x)) (.ref (ga K base)) = some true
  kitV : ∀ x ∈ xs, PySem.W.kitOne K (.ref (ga K x)) (.type "ValueError") = some true
  exm : ∀ x ∈ xs, PySem.W.exmOne K (.ref (ga K x)) (.ref (ga K base)) = some true
theorem kitsB_ok {K : PySem.W.Frag} {base : Str} {xs : List Str} (h : kitsB K base xs = true) : Kits K base xs := by
  have key := fun x hx => ba (List.all_eq_true.mp h x hx)
  refine ⟨fun x hx y hy => of_decide_eq_true (List.all_eq_true.mp (key x hx).1 y hy), fun x hx => of_decide_eq_true (ba (key x hx).2).1, fun x hx => of_decide_eq_true (ba (ba (key x hx).2).2).1, fun x hx => of_decide_eq_true (ba (ba (key x hx).2).2).2⟩
/-- a table of the top with text keys and ints -/
def tabB (K : PySem.W.Frag) (x : Str) (kvs : List (Str × Int)) : Bool := valsB K (ga K x) (kvs.map fun q => (q.1, Dv.int q.2))
theorem tabB_ok {K : PySem.W.Frag} {w : World} {x : Str} {kvs : List (Str × Int)} {es : Array DictEntry} {n : Nat} (h : tabB K x kvs = true) (D : KDict K w (ga K x) es n) {k : Str} {i : Int} (hq : (k, i) ∈ kvs) : KDct K w (ga K x) k (.int i) := by
  obtain ⟨u, hu, ru⟩ := valsB_ok h (q := (k, Dv.int i)) (List.mem_map.mpr ⟨(k, i), hq, rfl⟩)
  exact ⟨es, n, u, D.at_, D.lit, hu, ru⟩
end L3
namespace L3
open PySem PySem.Spec PyProof.Rows L2
/-- a law's promise: a list of at most 63 ints in, True out -/
def spLaw (K : PySem.W.Frag) : Sp := fun vs H Q _ => ∃ (a : Addr) (ns : List Int), vs = [.ref a] ∧ SqL K H a (ns.map V.int) ∧ ns.length ≤ 63 ∧ ∀ H', Q (.bl true) H'
theorem walk_law {l : PySem.W.OpenLaw} {k : Nat} {q : Program} {loose : List Str} {XP : (Str → Option Value) → Heap → Prop} {YP : World → Heap → Prop} {d : DefRec} (hn : l.most = some 63) (hdf : d.params.defaults = []) (hr : Room k callerA)
    (F : ∀ (w : World) (mg : Str → Option Value) (fa : Addr) (h : Heap), YP w h → h.Ns mainGlobals mg → mg d.name = some (.ref fa) →
      ∃ (K : PySem.W.Frag) (fd : FuncData), K.In h ∧ (∀ (s : Shared) (u : Value), BindsTo s fd ⟨[u], []⟩ [("script", u)]) ∧
        ∀ base : Heap, K.In base → base.Ns mainGlobals mg → FnOk l.prog w K mg base (L2N.CX l.prog w) k fa fd ["script"] (spLaw K)) :
    PySem.W.WalkO q loose XP YP l.row.toRowW d [] (fun f vs => PySem.call f vs) := by
  refine Att.attach_call hn hdf fun w s₀ s₁ mg mb fa o pm cd doc a vs ns G Y ho hd hcd hmg hobj hints hlen hg => ?_
  obtain ⟨K, fd, KX, hb, hF⟩ := F w mg fa _ Y G.T.g hmg
  refine law_call KX G.T.g G.T.b G.T.builtins G.T.nolimit hg hobj hints (Nat.le_trans hlen (by decide)) hr hF hb (fun H hO hS => ⟨a, ns, rfl, hS, hlen, fun _ => rfl⟩) fun H e s' z => ?_
  obtain ⟨_, _, _, _, _, _, _, _, _, _, _, _, z⟩ := z
  exact z
theorem cx_none {P : Program} {w : World} {l : List Env} {H : Hp} {s : Shared} {e : Value} {s' : Shared} (z : L2N.CX P w l H s (fun _ _ _ => False) e s') : False := by
  obtain ⟨_, _, _, _, _, _, _, _, _, _, _, _, z⟩ := z
  exact z
end L3
set_option maxRecDepth 100000
set_option maxHeartbeats 4000000
/-! CmD: defs as callees, readings step by step. -/
namespace L3
open PySem PySem.Spec PyProof.Rows L2 He

/-! ### a def of the module that keeps a promise -/
structure CalG (P : Program) (w : World) (K : PySem.W.Frag) (mg : Str → Option Value) (base : Heap) (k : Nat) (x : Str) (ps : List Str) (sp : Sp) : Prop where
  g : mg x = some (.ref (ga K x))
  ok : ∃ fd, FnOk P w K mg base (L2N.CX P w) k (ga K x) fd ps sp ∧ Binds K fd ps []
  kp : PySem.W.keepIn K (.ref (ga K x)) = true
theorem CalG.imp {P : Program} {w : World} {K : PySem.W.Frag} {mg : Str → Option Value} {base : Heap} {k : Nat} {x : Str} {ps : List Str} {sp sp' : Sp} (c : CalG P w K mg base k x ps sp) (h : ∀ vs H Q E, sp' vs H Q E → sp vs H Q E) : CalG P w K mg base k x ps sp' := by
  obtain ⟨fd, F, b⟩ := c.ok
  exact ⟨c.g, ⟨fd, F.imp h, b⟩, c.kp⟩
theorem CalG.mono {P : Program} {w : World} {K : PySem.W.Frag} {mg : Str → Option Value} {base : Heap} {j k : Nat} {x : Str} {ps : List Str} {sp : Sp} (c : CalG P w K mg base j x ps sp) (h : j ≤ k) : CalG P w K mg base k x ps sp := by
  obtain ⟨fd, F, b⟩ := c.ok
  exact ⟨c.g, ⟨fd, F.mono h, b⟩, c.kp⟩
section
variable {P : Program} {w : World} {K : PySem.W.Frag} {mg : Str → Option Value} {base : Heap}
/-- a def keeps its promise: its body's rules and their reading -/
theorem calG_of {x : Str} {st : Stmt} {N ps : List Str} {k : Nat} {sp : Sp} (hg : mg x = some (.ref (ga K x))) (D : ∃ fd, FunD K x x (defArgs st) (defBody st) (defScope st) [] [] (ga K x) fd) (S : FnScope N ps (defScope st))
    (hb : ∀ (dV kV doc pm : Value) (an : Option Addr) (cdv ct : Value) (us : List Value), us.length = ps.length → bindArgs (PySem.W.fnOf x x (defArgs st) (defBody st) (defScope st) .none kV doc pm an cdv ct) ⟨us, []⟩ = pure (ps.zip us))
    (len : ∀ vs H Q E, sp vs H Q E → vs.length = ps.length)
    (hbody : ∀ (cdv : Value) (A : Around) (outer : List Env) (s : Shared) (H : Hp) (vs : List V) (Q : VK) (E : XK), Room k (A.deeper (envOfC x (defScope st) s.heap.objs.size (ga K x) cdv)) → sp vs H Q E →
      ∃ t, PSs (cxOf (L2N.CX P w) P w K mg base N x (defScope st) (ga K x) cdv A outer s H E) (defBody st) t ∧ t { nx := fun _ H' => Q .non H', rt := Q } (start N vs) H) : CalG P w K mg base (k + 1) x ps sp := by
  obtain ⟨fd, F⟩ := D
  exact ⟨hg, ⟨fd, F.ok S len hbody, F.bindsN fun kV doc pm an cdv ct us hl => hb .none kV doc pm an cdv ct us hl⟩, F.kp⟩
end
section
variable {X : Cx} {W : L2.WX}
/-- x(e, ..) of such a def; what it raises is wished by W -/
theorem pe_cal {k j : Nat} {x : Str} {ps : List Str} {sp : Sp} {q pos : Pos} {e : Expr} {es : List Expr} {t : TA} (c : CalG X.prog X.w X.K X.mg X.base j x ps sp) (hr : Room k X.A) (hj : j ≤ k) (hx : ∀ σ, PassesAt (L2N.CX X.prog X.w) X σ (WE W σ)) (ha : PA X (e :: es) t) (hg : Gl X x := by rfl)
    (hdb : (x == ("__debug__" : Str)) = false := by decide) (he : starEach (e :: es) X.env = (false, eval e X.env) :: starEach es X.env := by rfl) (hpl : (backTo pos (starEach es X.env)).any (·.1) = false := by rfl) :
    PE X (.Call (.Name x q) (e :: es) [] pos) (tCallS sp (WE W) t) := by
  have z : ∃ fd, FnOk X.prog X.w X.K X.mg X.base (L2N.CX X.prog X.w) j (ga X.K x) fd ps sp ∧ Binds X.K fd ps [] := c.ok
  have key := Classical.choose_spec z
  exact pe_callS key.1 (hr.mono hj) hg c.g c.kp key.2 hx ha hdb he hpl
/-- nothing is let out -/
theorem passN (σ : L2.St) : PassesAt (L2N.CX X.prog X.w) X σ (WE (fun _ _ _ _ => False) σ) := fun _ _ _ e s' I c => by
  obtain ⟨_, _, _, _, _, _, _, _, _, _, _, _, z⟩ := c
  exact z.elim
theorem pe_gl {x : Str} {pos : Pos} {a : Addr} (hm : X.mg x = some (.ref a)) (hg : Gl X x := by rfl) (hdb : (x == ("__debug__" : Str)) = false := by decide) : PE X (.Name x pos) (tC (.ref a)) :=
  pe_glob hg hm rfl hdb
end

/-! ### readings, step by step: each from what is asked next -/
section
variable {σ σ' : L2.St} {H : Hp} {Q : VK} {D : Ends} {t u : TS} {te ta tb : TE} {g : TG} {v x y : V} {K : PySem.W.Frag}
variable {nx bk ct : L2.St → Hp → Prop} {rt : VK}
theorem r_seq (k : t ⟨u ⟨nx, rt, bk, ct⟩, rt, bk, ct⟩ σ H) : tSeq t u ⟨nx, rt, bk, ct⟩ σ H := k
theorem r_asgN {i : Nat} (k : te σ H fun x H1 => nx (σ.set i (some x)) H1) : tAsg te (gName i) ⟨nx, rt, bk, ct⟩ σ H := k
theorem r_asg (k : te σ H fun x H1 => g x σ H1 nx) : tAsg te g ⟨nx, rt, bk, ct⟩ σ H := k
theorem r_ret (k : te σ H rt) : tRet te ⟨nx, rt, bk, ct⟩ σ H := k
theorem r_retN (k : rt .non H) : tRetN ⟨nx, rt, bk, ct⟩ σ H := k
theorem r_next (k : nx σ H) : tNext ⟨nx, rt, bk, ct⟩ σ H := k
theorem r_brk (k : bk σ H) : tBreak ⟨nx, rt, bk, ct⟩ σ H := k
theorem r_cont (k : ct σ H) : tCont ⟨nx, rt, bk, ct⟩ σ H := k
theorem r_drop (k : te σ H fun _ H1 => nx σ H1) : tDrop te ⟨nx, rt, bk, ct⟩ σ H := k
theorem r_aug {i : Nat} {ti : TIp} (e : σ[i]? = some (some x)) (k : te σ H fun y H1 => ti x y H1 fun z H2 => nx (σ.set i (some z)) H2) : tAug i te ti ⟨nx, rt, bk, ct⟩ σ H := ⟨x, e, k⟩
theorem r_augS {to ti : TE} {tget : V → V → Hp → VK → Prop} {tip : TIp} {tset : TSet} (k : to σ H fun o H1 => ti σ H1 fun i H2 => tget o i H2 fun x H3 => te σ H3 fun y H4 => tip x y H4 fun z H5 => tset o i z H5 fun H6 => nx σ H6) :
    tAugS to ti te tget tip tset ⟨nx, rt, bk, ct⟩ σ H := k
theorem r_sub {to ti : TE} {ts : TSet} {P : L2.St → Hp → Prop} (k : to σ H fun o H1 => ti σ H1 fun i H2 => ts o i v H2 fun H3 => P σ H3) : gSub to ti ts v σ H P := k
theorem r_ifS {c : TT} (k : c σ H fun b H1 => if b = true then t D σ H1 else u D σ H1) : tIfS c t u D σ H := k
theorem r_if {c : TT} (k : c σ H fun b H1 => if b = true then ta σ H1 Q else tb σ H1 Q) : tIf c ta tb σ H Q := k
theorem r_var {i : Nat} (e : σ[i]? = some (some v)) (k : Q v H) : tVar i σ H Q := ⟨v, e, k⟩
theorem r_c (k : Q v H) : tC v σ H Q := k
theorem r_op {r : R2} (k : ta σ H fun x H1 => tb σ H1 fun y H2 => r x y H2 Q) : tOp r ta tb σ H Q := k
theorem r_un {r : V → Hp → VK → Prop} (k : ta σ H fun x H1 => r x H1 Q) : tUn r ta σ H Q := k
theorem r_test {P : Bool → Hp → Prop} (k : te σ H fun x H' => ∃ k, x = .bl k ∧ P k H') : tTest te σ H P := k
theorem r_B {P : Bool → Hp → Prop} (k : te σ H fun x H1 => ∃ c, x = .bl c ∧ P c H1) : tB te σ H P := k
theorem r_bl {b : Bool} {P : Bool → Prop} (k : P b) : ∃ c, V.bl b = .bl c ∧ P c := ⟨b, rfl, k⟩
theorem r_and {c d : TT} {P : Bool → Hp → Prop} (k : c σ H fun b H1 => if b = true then d σ H1 P else P false H1) : tAnd c d σ H P := k
theorem r_or {c d : TT} {P : Bool → Hp → Prop} (k : c σ H fun b H1 => if b = true then P true H1 else d σ H1 P) : tOr c d σ H P := k
theorem r_not {c : TT} {P : Bool → Hp → Prop} (k : c σ H fun b H1 => P (!b) H1) : tNot c σ H P := k
theorem r_andV (k : ta σ H fun x H1 => ∃ c, x = .bl c ∧ if c = true then tb σ H1 Q else Q (.bl false) H1) : tAndV ta tb σ H Q := k
theorem r_orV (k : ta σ H fun x H1 => ∃ c, x = .bl c ∧ if c = true then Q (.bl true) H1 else tb σ H1 Q) : tOrV ta tb σ H Q := k
theorem r_notV (k : ta σ H fun x H1 => ∃ c, x = .bl c ∧ Q (.bl (!c)) H1) : tNotV ta σ H Q := k
theorem r_nil {P : List V → Hp → Prop} (k : P [] H) : tNil σ H P := k
theorem r_cons {ta : TE} {tr : TA} {P : List V → Hp → Prop} (k : ta σ H fun x H1 => tr σ H1 fun xs H2 => P (x :: xs) H2) : tCons ta tr σ H P := k
theorem r_cb {r : List V → Hp → VK → Prop} {ta : TA} (k : ta σ H fun vs H1 => r vs H1 Q) : tCB r ta σ H Q := k
theorem r_callS {sp : Sp} {E : L2.St → XK} {ta : TA} (k : ta σ H fun vs H1 => sp vs H1 Q (E σ)) : tCallS sp E ta σ H Q := k
def NewL (xs : List V) (H1 : Hp) (Q : VK) : Prop := xs.length ≤ sizeLine ∧ ∀ p, H1 p = none → Q (.ref p) (upd H1 p (.lst xs))
def NewT (xs : List V) (H1 : Hp) (Q : VK) : Prop := xs.length ≤ sizeLine ∧ ∀ p, H1 p = none → Q (.ref p) (upd H1 p (.tup xs))
theorem r_tup {ta : TA} (k : ta σ H fun xs H1 => NewT xs H1 Q) : tTup ta σ H Q := k
theorem r_lst {ta : TA} (k : ta σ H fun xs H1 => NewL xs H1 Q) : tLst ta σ H Q := k
theorem r_bm {T : String} {r : V → List V → Hp → VK → Prop} {t : TA} (k : ta σ H fun x H1 => tyV K T x H1 ∧ t σ H1 fun xs H2 => r x xs H2 Q) : tBM K T r ta t σ H Q := k
theorem r_bm0 {T : String} {r : V → List V → Hp → VK → Prop} (k : ta σ H fun x H1 => tyV K T x H1 ∧ r x [] H1 Q) : tBM0 K T r ta σ H Q := k
theorem r_sl {r : V → Option Int → Option Int → Hp → VK → Prop} {tl th : TO} (k : te σ H fun x H1 => tl σ H1 fun l H2 => th σ H2 fun u H3 => r x l u H3 Q) : tSl r te tl th σ H Q := k
theorem r_noPart {P : Option Int → Hp → Prop} (k : P none H) : tNoPart σ H P := k
theorem r_part {P : Option Int → Hp → Prop} (k : te σ H fun x H1 => ∃ i, x = .int i ∧ P (some i) H1) : tPart te σ H P := k
theorem r_int {i : Int} {P : Int → Prop} (k : P i) : ∃ j, V.int i = .int j ∧ P j := ⟨i, rfl, k⟩
/-! leaves: ints -/
theorem r_I0 {g : Int → Int → V} {i j : Int} (k : Q (g i j) H) : rI0 g (.int i) (.int j) H Q := ⟨i, j, rfl, rfl, k⟩
theorem r_I {C : Int → Int → Prop} {g : Int → Int → V} {i j : Int} (c : C i j) (k : Q (g i j) H) : rI C g (.int i) (.int j) H Q := ⟨i, j, rfl, rfl, c, k⟩
theorem r_plusI {i j : Int} (k : Q (.int (i + j)) H) : rPlus K (.int i) (.int j) H Q := .inl ⟨i, j, rfl, rfl, k⟩
theorem r_timesI {i j : Int} (c : CMulW i j) (k : Q (.int (i * j)) H) : rTimes (.int i) (.int j) H Q := .inl ⟨i, j, rfl, rfl, c, k⟩
theorem r_neg {i : Int} (k : Q (.int (-i)) H) : rU (fun i => .int (-i)) (.int i) H Q := ⟨i, rfl, k⟩
theorem r_sameS (h : scal x y = true) (k : Q (.bl (decide (x = y))) H) : rSame K x y H Q := .inl ⟨h, k⟩
theorem r_otherS (h : scal x y = true) (k : Q (.bl (!decide (x = y))) H) : rOther K x y H Q := .inl ⟨h, k⟩
theorem r_isN (k : Q (.bl (decide (x = .non))) H) : (fun x y H Q => y = .non ∧ Q (.bl (decide (x = .non))) H : R2) x .non H Q := ⟨rfl, k⟩
/-! leaves: lists -/
theorem r_atL {p : Addr} {xs : List V} {i : Int} (h : SqL K H p xs) (e : atI xs i = some v) (k : Q v H) : rAt K (.ref p) (.int i) H Q := .inl ⟨p, xs, i, v, rfl, rfl, h, e, k⟩
theorem r_atT {p : Addr} {xs : List V} {i : Int} (h : SqT K H p xs) (e : atI xs i = some v) (k : Q v H) : rAt K (.ref p) (.int i) H Q := .inr ⟨p, xs, i, v, rfl, rfl, h, e, k⟩
/-- what is known of the heap behind a new object -/
def Ext (H H' : Hp) : Prop := ∀ a o, H a = some o → H' a = some o
theorem Ext.rfl {H : Hp} : Ext H H := fun _ _ h => h
theorem Ext.trans {H H1 H2 : Hp} (a : Ext H H1) (b : Ext H1 H2) : Ext H H2 := fun x o h => b x o (a x o h)
theorem Ext.new {H : Hp} {p : Addr} {o : HO} (h : H p = none) : Ext H (upd H p o) := fun a u e => by rw [upd_ne (ne_of_none e h)]; exact e
theorem Ext.mut {H H' : Hp} {p : Addr} {o : HO} (e : Ext H H') (h : H p = none) : Ext H (upd H' p o) := fun a u ha => by rw [upd_ne (ne_of_none ha h)]; exact e a u ha
theorem Ext.none {H H' : Hp} {p : Addr} (e : Ext H H') (h : H' p = none) : H p = none := by
  cases q : H p with
  | none => exact Eq.refl _
  | some o => rw [e p o q] at h; cases h
theorem Ext.l {H H' : Hp} {a : Addr} {xs : List V} (e : Ext H H') (h : SqL K H a xs) : SqL K H' a xs := by
  rcases h with (h | ⟨o, h⟩) | h
  · exact .inl (.inl (e _ _ h))
  · exact .inl (.inr ⟨o, e _ _ h⟩)
  · exact .inr h
theorem Ext.tu {H H' : Hp} {a : Addr} {xs : List V} (e : Ext H H') (h : SqT K H a xs) : SqT K H' a xs := by
  rcases h with (h | ⟨o, h⟩) | h
  · exact .inl (.inl (e _ _ h))
  · exact .inl (.inr ⟨o, e _ _ h⟩)
  · exact .inr h
theorem sqL {a : Addr} {xs : List V} (h : H a = some (.lst xs)) : SqL K H a xs := .inl (.inl h)
theorem sqT {a : Addr} {xs : List V} (h : H a = some (.tup xs)) : SqT K H a xs := .inl (.inl h)
theorem r_newL {xs : List V} (h : xs.length ≤ 100000) (k : ∀ p H', H p = none → Ext H H' → H' p = some (.lst xs) → Q (.ref p) H') : NewL xs H Q :=
  ⟨Nat.le_trans h (by decide), fun p hp => k p _ hp (Ext.new hp) upd_same⟩
theorem r_newT {xs : List V} (h : xs.length ≤ 100000) (k : ∀ p H', H p = none → Ext H H' → H' p = some (.tup xs) → Q (.ref p) H') : NewT xs H Q :=
  ⟨Nat.le_trans h (by decide), fun p hp => k p _ hp (Ext.new hp) upd_same⟩
/-- xs.append(v), the list at l the call's own (new since H0) -/
theorem r_app {l : Addr} {xs : List V} (h : H l = some (.lst xs)) (hz : xs.length < 100000) (k : ∀ H', H' l = some (.lst (xs ++ [v])) → (∀ b, b ≠ l → H' b = H b) → Q .non H') : rAppend (.ref l) [v] H Q :=
  ⟨l, xs, v, rfl, rfl, h, Nat.lt_of_lt_of_le hz (by decide), k _ upd_same fun b hb => upd_ne hb⟩
theorem r_popL {l : Addr} {xs : List V} (h : H l = some (.lst (xs ++ [v]))) (k : ∀ H', H' l = some (.lst xs) → (∀ b, b ≠ l → H' b = H b) → Q v H') : rPop (.ref l) [] H Q :=
  ⟨l, xs ++ [v], v, rfl, rfl, h, by simp, k _ (by rw [List.dropLast_concat]; exact upd_same) fun b hb => upd_ne hb⟩
theorem tyL {a : Addr} {xs : List V} (h : SqL K H a xs) : tyV K "list" (.ref a) H := .inl ⟨rfl, xs, h⟩
theorem mut_ext {H0 H H' : Hp} {l : Addr} (e : Ext H0 H) (h0 : H0 l = none) (m : ∀ b, b ≠ l → H' b = H b) : Ext H0 H' := fun a o ha => (m a (ne_of_none ha h0)).trans (e a o ha)
theorem mut_at {H H' : Hp} {l b : Addr} {o : HO} (m : ∀ b, b ≠ l → H' b = H b) (hb : b ≠ l) (h : H b = some o) : H' b = some o := (m b hb).trans h
/-! tests -/
theorem ite_d {p A B : Prop} [Decidable p] (h1 : p → A) (h2 : ¬ p → B) : if decide p = true then A else B := by
  by_cases h : p
  · rw [if_pos (decide_eq_true h)]; exact h1 h
  · rw [if_neg (by simpa using h)]; exact h2 h
theorem ite_n {p A B : Prop} [Decidable p] (h1 : ¬ p → A) (h2 : p → B) : if (!decide p) = true then A else B := by
  by_cases h : p
  · rw [if_neg (by simpa using h)]; exact h2 h
  · rw [if_pos (by simpa using h)]; exact h1 h
theorem ite_b {b : Bool} {A B : Prop} (h1 : b = true → A) (h2 : b = false → B) : if b = true then A else B := by
  cases b
  · exact h2 rfl
  · exact h1 rfl
theorem ite_t {A B : Prop} (h : A) : if true = true then A else B := h
theorem ite_f {A B : Prop} (h : B) : if false = true then A else B := h
end
end L3
namespace L3
open PySem PySem.Spec PyProof.Rows L2
/-- xs[i] ahead of xs[i] op= e, i from the front -/
def rGetL (K : PySem.W.Frag) : R2 := fun x y H Q => ∃ p xs i v, x = .ref p ∧ y = .int i ∧ SqL K H p xs ∧ 0 ≤ i ∧ xs[i.toNat]? = some v ∧ Q v H
theorem get_list {X : Cx} : PGet X (rGetL X.K) := by
  intro pins s σ H o i ov iv Q I ro ri h
  obtain ⟨p, xs, j, z, rfl, rfl, hq, h0, e, q⟩ := h
  cases ro
  obtain ⟨t, rfl⟩ := ri
  obtain ⟨its, r, pl, hz⟩ := I.list hq
  obtain ⟨w, ew, rw'⟩ := r.get e
  have hl := r.length
  have hn := line63
  have h5 : j.toNat < xs.length := (List.getElem?_eq_some_iff.mp e).1
  exact wpAny_getItem_list pl.isList h0 (by omega) (by simpa using ew) ⟨z, H, I, rw', q⟩
theorem r_getL {K : PySem.W.Frag} {H : Hp} {Q : VK} {p : Addr} {xs : List V} {i : Int} {v : V} (h : SqL K H p xs) (h0 : 0 ≤ i) (e : xs[i.toNat]? = some v) (k : Q v H) : rGetL K (.ref p) (.int i) H Q := ⟨p, xs, i, v, rfl, rfl, h, h0, e, k⟩
theorem r_ipI {f : Int → Int → Int} {H : Hp} {Q : VK} {i j : Int} (k : Q (.int (f i j)) H) : ipI f (.int i) (.int j) H Q := ⟨i, j, rfl, rfl, k⟩
theorem ixN_of {n j : Nat} (hj : j < n) : ixN n (j : Int) = some j := by
  unfold ixN
  rw [if_pos (by omega), if_pos (by omega)]
  simp
theorem r_setL {H : Hp} {P : Hp → Prop} {p : Addr} {xs : List V} {i : Int} {j : Nat} {v : V} (h : H p = some (.lst xs)) (hi : i = (j : Int)) (hj : j < xs.length) (k : ∀ H', H' p = some (.lst (xs.set j v)) → (∀ b, b ≠ p → H' b = H b) → P H') : rSetL (.ref p) (.int i) v H P :=
  ⟨p, xs, i, j, rfl, rfl, h, by rw [hi]; exact ixN_of hj, k _ upd_same fun b hb => upd_ne hb⟩
end L3
set_option maxRecDepth 100000
set_option maxHeartbeats 4000000
/-! CmE: own errors raised; the bounds; a source of draws. -/
namespace L3
open PySem PySem.Spec PyProof.Rows L2 He
/-! ### an error's __init__ that stores one name, two names -/
def spI1 (C : Addr) (f : Str) : Sp := fun vs H Q _ => ∃ (a : Addr) (v : V), vs = [.ref a, v] ∧ H a = some (exo a C none) ∧ ∀ dx, H dx = none → dx ≠ a → Q .non (upd (upd H dx (exd dx [(f, v)])) a (exo a C (some dx)))
def spI2 (C : Addr) (f g : Str) : Sp := fun vs H Q _ => ∃ (a : Addr) (u v : V), vs = [.ref a, u, v] ∧ H a = some (exo a C none) ∧ ∀ dx, H dx = none → dx ≠ a → Q .non (upd (upd (upd H dx (exd dx [(f, u)])) a (exo a C (some dx))) dx (exd dx [(g, v), (f, u)]))
abbrev ErrI (P : Program) (w : World) (K : PySem.W.Frag) (mg : Str → Option Value) (base : Heap) (x : Str) (ps : List Str) (sp : Sp) : Prop :=
  ∃ fd, FnOk P w K mg base (L2N.CX P w) 1 (ma K (ga K x) "__init__") fd ps sp ∧ Binds K fd ps []
section
variable {P : Program} {w : World} {K : PySem.W.Frag} {mg : Str → Option Value} {base : Heap}
theorem errI_of {x q : Str} {st : Stmt} {N ps : List Str} {sp : Sp} (D : ∃ fd, FunD K "__init__" q (defArgs st) (defBody st) (defScope st) [] [] (ma K (ga K x) "__init__") fd) (S : FnScope N ps (defScope st))
    (hb : ∀ (dV kV doc pm : Value) (an : Option Addr) (cdv ct : Value) (us : List Value), us.length = ps.length → bindArgs (PySem.W.fnOf "__init__" q (defArgs st) (defBody st) (defScope st) .none kV doc pm an cdv ct) ⟨us, []⟩ = pure (ps.zip us))
    (len : ∀ vs H Q E, sp vs H Q E → vs.length = ps.length)
    (hbody : ∀ (cdv : Value) (A : Around) (outer : List Env) (s : Shared) (H : Hp) (vs : List V) (Q : VK) (E : XK), Room 0 (A.deeper (envOfC q (defScope st) s.heap.objs.size (ma K (ga K x) "__init__") cdv)) → sp vs H Q E →
      ∃ t, PSs (cxOf (L2N.CX P w) P w K mg base N q (defScope st) (ma K (ga K x) "__init__") cdv A outer s H E) (defBody st) t ∧ t { nx := fun _ H' => Q .non H', rt := Q } (start N vs) H) : ErrI P w K mg base x ps sp := by
  obtain ⟨fd, F⟩ := D
  exact ⟨fd, F.ok S len hbody, F.bindsN fun kV doc pm an cdv ct us hl => hb .none kV doc pm an cdv ct us hl⟩
theorem pmk_errI {X : Cx} {x : Str} {fs ps : List Str} {sp : Sp} {e : Expr} {es : List Expr} {ta : TA} {p pos : Pos} {k : Nat} (EC : ErrC X.K x fs) (I : ErrI X.prog X.w X.K X.mg X.base x ps sp) (hr : Room k X.A) (hk : 2 ≤ k) (hm : X.mg x = some (.ref (ga X.K x))) (ha : PA X (e :: es) ta)
    (hg : Gl X x := by rfl) (hdb : (x == ("__debug__" : Str)) = false := by decide) (he : starEach (e :: es) X.env = (false, eval e X.env) :: starEach es X.env := by rfl) (hpl : (backTo pos (starEach es X.env)).any (·.1) = false := by rfl) :
    L2N.PMk X (.Call (.Name x p) (e :: es) [] pos) (tMkO (ga X.K x) sp [] ta) := by
  have key := Classical.choose_spec I
  exact pmk_err EC.o EC.iC EC.tI key.1 (hr.mono hk) key.2 (fun _ _ _ _ _ _ _ z => by
    obtain ⟨_, _, _, _, _, _, _, _, _, _, _, _, z⟩ := z
    exact z.elim) hg hm ha hdb he hpl
/-- the reading of self.f = v in such an __init__ -/
theorem r_ost1 {σ : L2.St} {H : Hp} {f : Str} {v : V} {a C : Addr} {nx bk ct : L2.St → Hp → Prop} {rt : VK} (ho : OexC K C) (hno : PySem.W.findIn K (.ref C) f = some none) (ea : H a = some (exo a C none)) {i j : Nat} (hi : σ[i]? = some (some (.ref a))) (hj : σ[j]? = some (some v))
    (k : ∀ dx, H dx = none → dx ≠ a → nx σ (upd (upd H dx (exd dx [(f, v)])) a (exo a C (some dx)))) : tOst K f (tVar i) (tVar j) ⟨nx, rt, bk, ct⟩ σ H :=
  ⟨v, hj, .ref a, hi, a, C, rfl, ho, hno, .inl ⟨ea, k⟩⟩
theorem r_ost2 {σ : L2.St} {H : Hp} {f : Str} {v : V} {a C dx : Addr} {fs : List (Str × V)} {nx bk ct : L2.St → Hp → Prop} {rt : VK} (ho : OexC K C) (hno : PySem.W.findIn K (.ref C) f = some none) (ea : H a = some (exo a C (some dx))) (ed : H dx = some (exd dx fs)) (hf : fs.length ≤ 900)
    {i j : Nat} (hi : σ[i]? = some (some (.ref a))) (hj : σ[j]? = some (some v)) (k : nx σ (upd H dx (exd dx ((f, v) :: fs)))) : tOst K f (tVar i) (tVar j) ⟨nx, rt, bk, ct⟩ σ H :=
  ⟨v, hj, .ref a, hi, a, C, rfl, ho, hno, .inr ⟨dx, fs, ea, ed, hf, k⟩⟩
theorem exo_ne_exd {a C dx : Addr} {d : Option Addr} {fs : List (Str × V)} {H : Hp} (ha : H a = none) (hd : upd H a (exo a C d) dx = none) : dx ≠ a := fun e => by
  rw [e, upd_same] at hd; cases hd
theorem err_heap {H : Hp} {a dx C : Addr} {u o : HO} (ha : H a = none) (hd : H dx = none) (hne : dx ≠ a) : Ext H (upd (del (upd (upd (upd H a u) dx o) a u) a) dx o) ∧ (upd (del (upd (upd (upd H a u) dx o) a u) a) dx o) dx = some o :=
  ⟨fun b q e => by rw [upd_ne (ne_of_none e hd), del_ne (ne_of_none e ha), upd_ne (ne_of_none e ha), upd_ne (ne_of_none e hd), upd_ne (ne_of_none e ha)]; exact e, upd_same⟩
/-- C(v): an error with its own dict, new -/
theorem r_mk1 {H : Hp} {C : Addr} {f : Str} {v : V} {E : XK} (k : ∀ d H', H d = none → Ext H H' → H' d = some (.xd [(f, v)]) → E (.ref C) (some d) H') :
    [v].length ≤ 1000 ∧ ∀ a, H a = none → spI1 C f (.ref a :: ([v] ++ [])) (upd H a (exo a C none)) (fun v' H2 => v' = .non ∧ ∃ (d : Addr) (fs : List (Str × V)), H2 a = some (exo a C (some d)) ∧ H2 d = some (exd d fs) ∧ H d = none ∧ E (.ref C) (some d) (upd (del H2 a) d (.xd fs))) (fun _ _ _ => False) := by
  refine ⟨by show 1 ≤ 1000; decide, fun a ha => ⟨a, v, rfl, upd_same, fun dx hd hne => ⟨rfl, dx, [(f, v)], upd_same, by rw [upd_ne hne, upd_same], ?_, ?_⟩⟩⟩
  · rw [upd_ne hne] at hd; exact hd
  · rw [upd_ne hne] at hd
    refine k dx _ hd (fun b q e => ?_) upd_same
    rw [upd_ne (ne_of_none e hd), del_ne (ne_of_none e ha), upd_ne (ne_of_none e ha), upd_ne (ne_of_none e hd), upd_ne (ne_of_none e ha)]
    exact e
theorem r_mk2 {H : Hp} {C : Addr} {f g : Str} {u v : V} {E : XK} (k : ∀ d H', H d = none → Ext H H' → H' d = some (.xd [(g, v), (f, u)]) → E (.ref C) (some d) H') :
    [u, v].length ≤ 1000 ∧ ∀ a, H a = none → spI2 C f g (.ref a :: ([u, v] ++ [])) (upd H a (exo a C none)) (fun v' H2 => v' = .non ∧ ∃ (d : Addr) (fs : List (Str × V)), H2 a = some (exo a C (some d)) ∧ H2 d = some (exd d fs) ∧ H d = none ∧ E (.ref C) (some d) (upd (del H2 a) d (.xd fs))) (fun _ _ _ => False) := by
  refine ⟨by show 2 ≤ 1000; decide, fun a ha => ⟨a, u, v, rfl, upd_same, fun dx hd hne => ⟨rfl, dx, [(g, v), (f, u)], by rw [upd_ne hne.symm, upd_same], upd_same, ?_, ?_⟩⟩⟩
  · rw [upd_ne hne] at hd; exact hd
  · rw [upd_ne hne] at hd
    refine k dx _ hd (fun b q e => ?_) upd_same
    rw [upd_ne (ne_of_none e hd), del_ne (ne_of_none e ha), upd_ne (ne_of_none e hd), upd_ne (ne_of_none e ha), upd_ne (ne_of_none e hd), upd_ne (ne_of_none e ha)]
    exact e
end
/-- raise C(e, ..) -/
theorem r_mkO {sp : Sp} {ta : TA} {C : Addr} {E : XK} {σ : L2.St} {H : Hp} (k : ta σ H fun vs H1 => vs.length ≤ 1000 ∧ ∀ a, H1 a = none → sp (.ref a :: (vs ++ [])) (upd H1 a (exo a C none))
    (fun v H2 => v = .non ∧ ∃ (d : Addr) (fs : List (Str × V)), H2 a = some (exo a C (some d)) ∧ H2 d = some (exd d fs) ∧ H1 d = none ∧ E (.ref C) (some d) (upd (del H2 a) d (.xd fs))) (fun _ _ _ => False)) :
    tMkO C sp [] ta σ H E := k
/-! ### wide products: one factor small, or both below a million bits -/
def CMulB (i j : Int) : Prop := CMulW i j ∨ CMul i j
def rTimesB : R2 := fun x y H Q => rI CMulB (fun i j => .int (i * j)) x y H Q ∨ rRep x y H Q
theorem op_timesB {X : Cx} : OpR X (binaryOp .Mult) rTimesB := by
  intro pins s σ H x y u v Q I rx ry h
  rcases h with ⟨i, j, ex, ey, c, q⟩ | h
  · rcases c with c | c
    · exact op_mulW pins s σ H x y u v Q I rx ry ⟨i, j, ex, ey, c, q⟩
    · exact op_mul pins s σ H x y u v Q I rx ry ⟨i, j, ex, ey, c, q⟩
  · exact op_rep pins s σ H x y u v Q I rx ry h
theorem r_timesB {H : Hp} {Q : VK} {i j : Int} (c : CMulB i j) (k : Q (.int (i * j)) H) : rTimesB (.int i) (.int j) H Q := .inl ⟨i, j, rfl, rfl, c, k⟩
theorem cmR {i j : Int} (h1 : -(2 ^ 64) < j) (h2 : j < 2 ^ 64) : CMulB i j := .inr (.inr ⟨h1, h2⟩)
theorem cmL {i j : Int} (h1 : -(2 ^ 64) < i) (h2 : i < 2 ^ 64) : CMulB i j := .inr (.inl ⟨h1, h2⟩)
theorem cdW {i j : Int} (h : 0 < j) (h2 : j < 2 ^ 250) : CDivW i j := wide_div h (b := 250) (by omega) (by decide) (by decide)
theorem r_repL {l : Addr} {xs : List V} {H : Hp} {Q : VK} {k : Int} (h : H l = some (.lst xs)) (h1 : -(2 ^ 63) ≤ k) (h2 : k < 2 ^ 63) (h3 : xs.length * k.toNat ≤ 100000) (q : ∀ p H', H p = none → Ext H H' → H' p = some (.lst (List.replicate k.toNat xs).flatten) → Q (.ref p) H') : rTimesB (.ref l) (.int k) H Q :=
  .inr ⟨l, k, xs, rfl, rfl, h, h1, h2, Nat.le_trans h3 (by decide), fun p hp => q p _ hp (Ext.new hp) upd_same⟩
end L3
namespace L3
open PySem PySem.Spec PyProof.Rows L2 He
section
variable {K : PySem.W.Frag} {H : Hp} {Q : VK} {σ : L2.St}
/-! leaves of built-ins -/
def LenS (K : PySem.W.Frag) : List V → Hp → VK → Prop := fun xs H Q => ∃ p ys, xs = [.ref p] ∧ (SqL K H p ys ∨ SqT K H p ys) ∧ Q (.int ys.length) H
theorem cr_len {X : Cx} : CallR X (.builtin "len") (LenS X.K) := call_len_seq
theorem r_lenL {p : Addr} {ys : List V} {n : Int} (h : SqL K H p ys) (e : (ys.length : Int) = n) (k : Q (.int n) H) : LenS K [.ref p] H Q := ⟨p, ys, rfl, .inl h, by rw [e]; exact k⟩
theorem r_lenT {p : Addr} {ys : List V} {n : Int} (h : SqT K H p ys) (e : (ys.length : Int) = n) (k : Q (.int n) H) : LenS K [.ref p] H Q := ⟨p, ys, rfl, .inr h, by rw [e]; exact k⟩
def IntS : List V → Hp → VK → Prop := fun xs H Q => (∃ i, xs = [.int i] ∧ Q (.int i) H) ∨ ∃ k, xs = [.bl k] ∧ Q (.int (if k then 1 else 0)) H
theorem cr_int {X : Cx} : CallR X (.type "int") IntS := call_int1
theorem r_intI {i : Int} (k : Q (.int i) H) : IntS [.int i] H Q := .inl ⟨i, rfl, k⟩
def AbsS : List V → Hp → VK → Prop := fun xs H Q => ∃ i, xs = [.int i] ∧ Q (.int (if i < 0 then -i else i)) H
theorem cr_abs {X : Cx} : CallR X (.builtin "abs") AbsS := call_abs
theorem r_abs {i : Int} (k : Q (.int (if i < 0 then -i else i)) H) : AbsS [.int i] H Q := ⟨i, rfl, k⟩
def MinS : List V → Hp → VK → Prop := fun xs H Q => ∃ i j, xs = [.int i, .int j] ∧ Q (.int (if j < i then j else i)) H
def MaxS : List V → Hp → VK → Prop := fun xs H Q => ∃ i j, xs = [.int i, .int j] ∧ Q (.int (if j > i then j else i)) H
theorem cr_min2 {X : Cx} (hc : X.calm = true) : CallR X (.builtin "min") MinS := call_min2 hc
theorem cr_max2 {X : Cx} (hc : X.calm = true) : CallR X (.builtin "max") MaxS := call_max2 hc
theorem r_min {i j : Int} (k : Q (.int (min i j)) H) : MinS [.int i, .int j] H Q := ⟨i, j, rfl, by
  have e : (if j < i then j else i) = min i j := by split <;> omega
  rw [e]; exact k⟩
theorem r_max {i j : Int} (k : Q (.int (max i j)) H) : MaxS [.int i, .int j] H Q := ⟨i, j, rfl, by
  have e : (if j > i then j else i) = max i j := by split <;> omega
  rw [e]; exact k⟩
def ListS (K : PySem.W.Frag) : List V → Hp → VK → Prop := fun xs H Q => ∃ p ys, xs = [.ref p] ∧ (SqL K H p ys ∨ SqT K H p ys) ∧ ∀ l, H l = none → Q (.ref l) (upd H l (.lst ys))
theorem cr_list {X : Cx} : CallR X (.type "list") (ListS X.K) := call_list_of
theorem r_listL {p : Addr} {ys : List V} (h : SqL K H p ys) (k : ∀ l H', H l = none → Ext H H' → H' l = some (.lst ys) → Q (.ref l) H') : ListS K [.ref p] H Q := ⟨p, ys, rfl, .inl h, fun l hl => k l _ hl (Ext.new hl) upd_same⟩
theorem r_listT {p : Addr} {ys : List V} (h : SqT K H p ys) (k : ∀ l H', H l = none → Ext H H' → H' l = some (.lst ys) → Q (.ref l) H') : ListS K [.ref p] H Q := ⟨p, ys, rfl, .inr h, fun l hl => k l _ hl (Ext.new hl) upd_same⟩
theorem r_sum {p : Addr} {ns : List Int} (h : SqL K H p (ns.map V.int)) (k : Q (.int ns.sum) H) : rSum K [.ref p] H Q := ⟨p, ns, rfl, h, k⟩
theorem r_slL {p : Addr} {xs : List V} {lo hi : Option Int} (h : SqL K H p xs) (k : ∀ l H', H l = none → Ext H H' → H' l = some (.lst (cutV xs lo hi)) → Q (.ref l) H') : rSlL K (.ref p) lo hi H Q := ⟨p, xs, rfl, h, fun l hl => k l _ hl (Ext.new hl) upd_same⟩
theorem r_catL {l b : Addr} {xs zs : List V} (h1 : H l = some (.lst xs)) (h2 : H b = some (.lst zs)) (hz : xs.length + zs.length ≤ 100000) (k : ∀ p H', H p = none → Ext H H' → H' p = some (.lst (xs ++ zs)) → Q (.ref p) H') : rPlus K (.ref l) (.ref b) H Q :=
  .inr (.inl ⟨l, b, xs, zs, rfl, rfl, h1, h2, Nat.le_trans hz (by decide), fun p hp => k p _ hp (Ext.new hp) upd_same⟩)
theorem r_popAt {l : Addr} {xs : List V} {i : Int} {j : Nat} {v : V} (h : H l = some (.lst xs)) (ei : i = (j : Int)) (hj : j < 100000) (e : xs[j]? = some v) (k : ∀ H', H' l = some (.lst (xs.eraseIdx j)) → (∀ b, b ≠ l → H' b = H b) → Q v H') : rPopAt (.ref l) [.int i] H Q := by
  subst ei
  have hl : j < xs.length := (List.getElem?_eq_some_iff.mp e).1
  exact ⟨l, xs, (j : Int), j, v, rfl, rfl, h, by omega, by omega, seqIndex_of (by omega) (by omega), e, k _ upd_same fun b hb => upd_ne hb⟩
theorem r_pow {i j : Int} (h : 0 ≤ j ∧ j ≤ 1000000 ∧ i.natAbs < 2 ^ 64) (k : Q (.int (i ^ j.toNat)) H) : rI CPow (fun i j => .int (i ^ j.toNat)) (.int i) (.int j) H Q := ⟨i, j, rfl, rfl, h, k⟩
theorem r_mod {i j : Int} (h : 0 < j) (k : Q (.int (i % j)) H) : rI (fun _ j => 0 < j) (fun i j => .int (i % j)) (.int i) (.int j) H Q := ⟨i, j, rfl, rfl, h, k⟩
theorem r_div {i j : Int} (h : CDivW i j) (k : Q (.int (i / j)) H) : rI CDivW (fun i j => .int (i / j)) (.int i) (.int j) H Q := ⟨i, j, rfl, rfl, h, k⟩
end
end L3
set_option maxRecDepth 100000
set_option maxHeartbeats 4000000
/-! CmF: loops and comprehensions, read by an invariant. -/
namespace L3
open PySem PySem.Spec PyProof.Rows L2 He
def ForW (J : It) (g : TG) (tb : TS) (D : Ends) (σ : L2.St) (H1 : Hp) : Prop := ∃ W : Nat → Nat → L2.St → Hp → Prop, (∃ m, W 0 m σ H1) ∧ ∀ i m σ H, W i m σ H →
  (J.stop i H ∧ D.nx σ H) ∨ (J.go i H ∧ ∃ N : L2.St → Hp → Prop, (∀ σ' H', N σ' H' → ∃ m', m' < m ∧ W (i + 1) m' σ' H') ∧ ∀ x H', J.yld i H x H' → g x σ H' fun σ2 H2 => tb { D with nx := N, ct := N, bk := D.nx } σ2 H2)
def LcW (J : It) (g : TG) (tt : TT) (te : TE) (vs : List Nat) (σ : L2.St) (D : Addr) (Qd : Hp → Prop) (H1 : Hp) : Prop := ∃ W : Nat → Nat → Hp → Prop, (∃ m, W 0 m (upd H1 D (.lst []))) ∧ ∀ i m H, W i m H →
  (J.stop i H ∧ Qd H) ∨ (J.go i H ∧ ∃ Nx : Hp → Prop, (∀ H', Nx H' → ∃ m', m' < m ∧ W (i + 1) m' H') ∧ ∀ x H', J.yld i H x H' → g x (wipe σ vs) H' fun σ2 H2 => wipe σ2 vs = wipe σ vs ∧ tt σ2 H2 fun b H3 =>
    if b = true then te σ2 H3 fun y H4 => ∃ acc, H4 D = some (.lst acc) ∧ acc.length < sizeLine ∧ Nx (upd H4 D (.lst (acc ++ [y]))) else Nx H3)
section
variable {σ : L2.St} {H : Hp} {D : Ends} {K : PySem.W.Frag} {g : TG} {tb : TS} {wi : TI} {ta : TA} {tl te : TE} {tt : TT} {R : It → Hp → Prop} {nx bk ct : L2.St → Hp → Prop} {rt : VK} {Q : VK}
theorem r_for (k : wi σ H fun J H1 => ForW J g tb D σ H1) : tFor wi g tb D σ H := k
theorem r_lc {vs : List Nat} (k : wi σ H fun J H1 => ∀ D, H1 D = none → LcW J g tt te vs σ D (fun H => Q (.ref D) H) H1) : tLc wi g tt te vs σ H Q := k
def Rg1 (vs : List V) (H1 : Hp) (R : It → Hp → Prop) : Prop := ∃ j : Int, vs = [.int j] ∧ -(2 ^ 62) ≤ j ∧ j < 2 ^ 62 ∧ R (Itr 0 j.toNat) H1
def Rg2 (vs : List V) (H1 : Hp) (R : It → Hp → Prop) : Prop := ∃ i j : Int, vs = [.int i, .int j] ∧ (-(2 ^ 62) ≤ i ∧ i < 2 ^ 62 ∧ -(2 ^ 62) ≤ j ∧ j < 2 ^ 62) ∧ R (Itr i (j - i).toNat) H1
def LiI (K : PySem.W.Frag) (x : V) (H1 : Hp) (R : It → Hp → Prop) : Prop := ∃ a, x = .ref a ∧ (∃ xs, SqL K H1 a xs) ∧ R (Itl K a) H1
def TiI (K : PySem.W.Frag) (x : V) (H1 : Hp) (R : It → Hp → Prop) : Prop := ∃ a, x = .ref a ∧ (∃ xs, SqT K H1 a xs) ∧ R (Itt K a) H1
theorem r_iR1 (k : ta σ H fun vs H1 => Rg1 vs H1 R) : iRng1 ta σ H R := k
theorem r_rg1 {j : Int} (h : -(2 ^ 62) ≤ j ∧ j < 2 ^ 62) (k : R (Itr 0 j.toNat) H) : Rg1 [V.int j] H R := ⟨j, rfl, h.1, h.2, k⟩
theorem r_iR2 (k : ta σ H fun vs H1 => Rg2 vs H1 R) : iRng2 ta σ H R := k
theorem r_rg2 {i j : Int} (h : -(2 ^ 62) ≤ i ∧ i < 2 ^ 62 ∧ -(2 ^ 62) ≤ j ∧ j < 2 ^ 62) (k : R (Itr i (j - i).toNat) H) : Rg2 [V.int i, V.int j] H R := ⟨i, j, rfl, h, k⟩
theorem r_iL (k : tl σ H fun x H1 => LiI K x H1 R) : iList K tl σ H R := k
theorem r_iT (k : tl σ H fun x H1 => TiI K x H1 R) : iTup K tl σ H R := k
theorem r_li {a : Addr} {xs : List V} (h : SqL K H a xs) (k : R (Itl K a) H) : LiI K (.ref a) H R := ⟨a, rfl, ⟨xs, h⟩, k⟩
theorem r_ti {a : Addr} {xs : List V} (h : SqT K H a xs) (k : R (Itt K a) H) : TiI K (.ref a) H R := ⟨a, rfl, ⟨xs, h⟩, k⟩
/-- for over a range: Pv of the turn, the slots, the heap -/
theorem forW_range {lo : Int} {n : Nat} (Pv : Nat → L2.St → Hp → Prop) (h0 : Pv 0 σ H) (hs : ∀ i σ H, i < n → Pv i σ H → g (.int (lo + i)) σ H fun σ2 H2 => tb ⟨Pv (i + 1), rt, nx, Pv (i + 1)⟩ σ2 H2) (hd : ∀ σ H, Pv n σ H → nx σ H) : ForW (Itr lo n) g tb ⟨nx, rt, bk, ct⟩ σ H :=
  for_range (D := ⟨nx, rt, bk, ct⟩) Pv h0 hs hd
theorem forW_list {a : Addr} {xs : List V} (Pv : Nat → L2.St → Hp → Prop) (h0 : Pv 0 σ H) (hl : ∀ i σ H, i ≤ xs.length → Pv i σ H → SqL K H a xs) (hs : ∀ i x σ H, xs[i]? = some x → Pv i σ H → g x σ H fun σ2 H2 => tb ⟨Pv (i + 1), rt, nx, Pv (i + 1)⟩ σ2 H2)
    (hd : ∀ σ H, Pv xs.length σ H → nx σ H) : ForW (Itl K a) g tb ⟨nx, rt, bk, ct⟩ σ H := for_list (D := ⟨nx, rt, bk, ct⟩) Pv h0 hl hs hd
theorem forW_tup {a : Addr} {xs : List V} (Pv : Nat → L2.St → Hp → Prop) (h0 : Pv 0 σ H) (hl : ∀ i σ H, i ≤ xs.length → Pv i σ H → SqT K H a xs) (hs : ∀ i x σ H, xs[i]? = some x → Pv i σ H → g x σ H fun σ2 H2 => tb ⟨Pv (i + 1), rt, nx, Pv (i + 1)⟩ σ2 H2)
    (hd : ∀ σ H, Pv xs.length σ H → nx σ H) : ForW (Itt K a) g tb ⟨nx, rt, bk, ct⟩ σ H := for_tup (D := ⟨nx, rt, bk, ct⟩) Pv h0 hl hs hd
/-- while, by a word that falls -/
theorem whileW {c : TT} (W : Nat → L2.St → Hp → Prop) (m0 : Nat) (h0 : W m0 σ H)
    (hs : ∀ m σ H, W m σ H → c σ H fun b H1 => if b = true then ∃ N : L2.St → Hp → Prop, (∀ σ' H', N σ' H' → ∃ m', m' < m ∧ W m' σ' H') ∧ tb ⟨N, rt, nx, N⟩ σ H1 else nx σ H1) : tWhile c tb ⟨nx, rt, bk, ct⟩ σ H := ⟨W, ⟨m0, h0⟩, hs⟩
theorem r_N {W : Nat → L2.St → Hp → Prop} {m : Nat} (k : tb ⟨fun σ' H' => ∃ m', m' < m ∧ W m' σ' H', rt, nx, fun σ' H' => ∃ m', m' < m ∧ W m' σ' H'⟩ σ H) :
    ∃ N : L2.St → Hp → Prop, (∀ σ' H', N σ' H' → ∃ m', m' < m ∧ W m' σ' H') ∧ tb ⟨N, rt, nx, N⟩ σ H := ⟨_, fun _ _ h => h, k⟩
theorem r_gname {i : Nat} {v : V} {P : L2.St → Hp → Prop} (k : P (σ.set i (some v)) H) : gName i v σ H P := k
theorem r_gtup {n : Nat} {t : TGs} {a : Addr} {xs : List V} {P : L2.St → Hp → Prop} (h : SqT K H a xs) (hn : xs.length = n) (k : t xs σ H P) : gTup K n t (.ref a) σ H P := ⟨a, xs, rfl, h, hn, k⟩
theorem r_glst {n : Nat} {t : TGs} {a : Addr} {xs : List V} {P : L2.St → Hp → Prop} (h : SqL K H a xs) (hn : xs.length = n) (k : t xs σ H P) : gLst K n t (.ref a) σ H P := ⟨a, xs, rfl, h, hn, k⟩
theorem r_gcons {t : TG} {u : TGs} {v : V} {r : List V} {P : L2.St → Hp → Prop} (k : t v σ H fun σ' H' => u r σ' H' P) : gCons t u (v :: r) σ H P := ⟨v, r, rfl, k⟩
theorem r_gnil {P : L2.St → Hp → Prop} (k : P σ H) : gNil [] σ H P := ⟨rfl, k⟩
/-! comprehensions -/
theorem lcW_range {lo : Int} {n : Nat} {vs : List Nat} {Dl : Addr} {Qd : Hp → Prop} (Pv : Nat → Hp → Prop) (h0 : Pv 0 (upd H Dl (.lst []))) (hs : ∀ i H, i < n → Pv i H → g (.int (lo + i)) (wipe σ vs) H fun σ2 H2 => wipe σ2 vs = wipe σ vs ∧ tt σ2 H2 fun b H3 =>
      if b = true then te σ2 H3 fun y H4 => ∃ acc, H4 Dl = some (.lst acc) ∧ acc.length < sizeLine ∧ Pv (i + 1) (upd H4 Dl (.lst (acc ++ [y]))) else Pv (i + 1) H3) (hd : ∀ H, Pv n H → Qd H) : LcW (Itr lo n) g tt te vs σ Dl Qd H := lc_range Pv h0 hs hd
theorem lcW_list {a : Addr} {xs : List V} {vs : List Nat} {Dl : Addr} {Qd : Hp → Prop} (Pv : Nat → Hp → Prop) (h0 : Pv 0 (upd H Dl (.lst []))) (hl : ∀ i H, i ≤ xs.length → Pv i H → SqL K H a xs)
    (hs : ∀ i x H, xs[i]? = some x → Pv i H → g x (wipe σ vs) H fun σ2 H2 => wipe σ2 vs = wipe σ vs ∧ tt σ2 H2 fun b H3 =>
      if b = true then te σ2 H3 fun y H4 => ∃ acc, H4 Dl = some (.lst acc) ∧ acc.length < sizeLine ∧ Pv (i + 1) (upd H4 Dl (.lst (acc ++ [y]))) else Pv (i + 1) H3) (hd : ∀ H, Pv xs.length H → Qd H) : LcW (Itl K a) g tt te vs σ Dl Qd H := lc_list Pv h0 hl hs hd
/-- what has been made so far: one value a turn -/
structure LcP (H1 : Hp) (Dl : Addr) (f : Nat → V) (i : Nat) (H' : Hp) : Prop where
  e : Ext H1 H'
  d : H' Dl = some (.lst ((List.range i).map f))
theorem LcP.start {H1 : Hp} {Dl : Addr} {f : Nat → V} (hD : H1 Dl = none) : LcP H1 Dl f 0 (upd H1 Dl (.lst [])) := ⟨Ext.new hD, upd_same⟩
theorem LcP.push {H1 H' H4 : Hp} {Dl : Addr} {f : Nat → V} {i : Nat} {y : V} (p : LcP H1 Dl f i H') (hD : H1 Dl = none) (hi : i < 100000) (e : Ext H' H4) (ey : y = f i) : ∃ acc, H4 Dl = some (.lst acc) ∧ acc.length < sizeLine ∧ LcP H1 Dl f (i + 1) (upd H4 Dl (.lst (acc ++ [y]))) := by
  refine ⟨_, e _ _ p.d, ?_, Ext.mut (p.e.trans e) hD, ?_⟩
  · rw [List.length_map, List.length_range]
    exact Nat.lt_of_lt_of_le hi (by decide)
  · rw [upd_same, List.range_succ, List.map_append, ey]
    rfl
theorem r_yes {P : Bool → Hp → Prop} (k : P true H) : tYes σ H P := k
theorem r_lcW {vs : List Nat} {σ2 : L2.St} {P : Prop} (e : wipe σ2 vs = wipe σ vs) (k : P) : wipe σ2 vs = wipe σ vs ∧ P := ⟨e, k⟩
end
end L3
namespace L3
open PySem PySem.Spec PyProof.Rows L2 He
/-- a statement, then the rest, with a word between -/
theorem r_cut {t u : TS} {nx bk ct : L2.St → Hp → Prop} {rt : VK} {σ : L2.St} {H : Hp} (M : L2.St → Hp → Prop) (h1 : t ⟨M, rt, bk, ct⟩ σ H) (h2 : ∀ σ' H', M σ' H' → u ⟨nx, rt, bk, ct⟩ σ' H') : C8.tCut t u ⟨nx, rt, bk, ct⟩ σ H := ⟨M, h1, h2⟩
theorem ifI {b : Bool} {x y : Int} {Q : VK} {H : Hp} (k : Q (.int (if b = true then x else y)) H) : if b = true then Q (.int x) H else Q (.int y) H := by cases b <;> exact k
end L3
namespace L3
open PySem PySem.Spec PyProof.Rows L2 He
theorem cut_to (xs : List V) (k : Nat) : cutV xs none (some (k : Int)) = xs.take k := by
  unfold cutV
  rw [HT.sIx_none, HT.sIx_nat, List.drop_zero, Nat.sub_zero]
  by_cases h : k ≤ xs.length
  · rw [Nat.min_eq_left h]
  · rw [Nat.min_eq_right (by omega), List.take_of_length_le (Nat.le_refl _), List.take_of_length_le (by omega)]
theorem cut_from (xs : List V) (k : Nat) : cutV xs (some (k : Int)) none = xs.drop k := by
  unfold cutV
  rw [HT.sIx_none, HT.sIx_nat]
  by_cases h : k ≤ xs.length
  · rw [Nat.min_eq_left h, List.take_of_length_le (by rw [List.length_drop] <;> omega)]
  · rw [Nat.min_eq_right (Nat.le_of_lt (Nat.lt_of_not_le h)), List.drop_of_length_le (Nat.le_refl _), List.drop_of_length_le (Nat.le_of_lt (Nat.lt_of_not_le h)), List.take_nil]
theorem cut_at (xs : List V) (i j : Nat) : cutV xs (some (i : Int)) (some (j : Int)) = (xs.drop i).take (j - i) := by
  unfold cutV
  rw [HT.sIx_nat, HT.sIx_nat]
  by_cases h : i ≤ xs.length
  · rw [Nat.min_eq_left h]
    by_cases h2 : j ≤ xs.length
    · rw [Nat.min_eq_left h2]
    · rw [Nat.min_eq_right (by omega), List.take_of_length_le (by rw [List.length_drop] <;> omega), List.take_of_length_le (by rw [List.length_drop] <;> omega)]
  · rw [Nat.min_eq_right (a := i) (Nat.le_of_lt (Nat.lt_of_not_le h)), List.drop_of_length_le (Nat.le_refl _), List.drop_of_length_le (Nat.le_of_lt (Nat.lt_of_not_le h)), List.take_nil, List.take_nil]
theorem range_ints (ns : List Int) (g : Int → Int) : (List.range ns.length).map (fun i => V.int (g (ns.getD i 0))) = (ns.map g).map V.int := by
  apply List.ext_getElem
  · simp
  · intro i h1 h2
    simp at h1 h2 ⊢
    simp [h1]
theorem ints_get {ns : List Int} {i : Nat} {x : V} (h : (ns.map V.int)[i]? = some x) : i < ns.length ∧ x = .int (ns.getD i 0) := by
  rw [List.getElem?_map] at h
  cases e : ns[i]? with
  | none => rw [e] at h; cases h
  | some z =>
    rw [e] at h
    obtain ⟨h1, h2⟩ := List.getElem?_eq_some_iff.mp e
    refine ⟨h1, ?_⟩
    have : x = .int z := (Option.some.inj h).symm
    rw [this, List.getD_eq_getElem?_getD, e]
    rfl
end L3
namespace L3
open PySem PySem.Spec PyProof.Rows L2 He
/-- x if c else y, both written ints; if b then .. -/
def IfI (b : Bool) (x y : Int) (H : Hp) (Q : VK) : Prop := Q (.int (if b = true then x else y)) H
theorem mono_ifC {b : Bool} {x y : Int} {H : Hp} {Q : VK} (k : IfI b x y H Q) : if b = true then tC (.int x) [] H Q else tC (.int y) [] H Q := by cases b <;> exact k
def tIfC (c : TT) (x y : Int) : TE := fun σ H Q => c σ H fun b H1 => IfI b x y H1 Q
theorem r_ifI {b : Bool} {x y : Int} {H : Hp} {Q : VK} (k : Q (.int (if b = true then x else y)) H) : IfI b x y H Q := k
theorem tIfC_eq (c : TT) (x y : Int) : tIfC c x y = tIf c (tC (.int x)) (tC (.int y)) := by
  funext σ H Q
  unfold tIfC tIf IfI tC
  have e : (fun (b : Bool) (H1 : Hp) => Q (.int (if b = true then x else y)) H1) = fun b H1 => if b = true then Q (.int x) H1 else Q (.int y) H1 := by
    funext b H1
    cases b <;> rfl
  rw [e]
theorem r_ifC {c : TT} {x y : Int} {σ : L2.St} {H : Hp} {Q : VK} (k : c σ H fun b H1 => IfI b x y H1 Q) : tIf c (tC (.int x)) (tC (.int y)) σ H Q := by
  rw [← tIfC_eq]
  exact k
end L3
set_option maxRecDepth 100000
set_option maxHeartbeats 4000000
/-! CmG: sources of draws; what stays when one object changes. -/
namespace L3
open PySem PySem.Spec PyProof.Rows L2 He
/-- a source of draws: three ints -/
def Src (H : Hp) (p : Addr) : Prop := ∃ a b c : Int, H p = some (.lst [.int a, .int b, .int c])
theorem Src.ext {H H' : Hp} {p : Addr} (s : Src H p) (e : Ext H H') : Src H' p := by obtain ⟨a, b, c, h⟩ := s; exact ⟨a, b, c, e _ _ h⟩
def spSource (K : PySem.W.Frag) : Sp := fun vs H Q _ => ∃ (a : Addr) (ns : List Int) (t : Nat), vs = [.ref a, .int t] ∧ SqL K H a (ns.map V.int) ∧ ns.length ≤ 63 ∧ t ≤ 1000 ∧ ∀ p H', H p = none → Ext H H' → Src H' p → Q (.ref p) H'
theorem pos128 : (0 : Int) < 10 ^ (64 : Int).toNat * 10 ^ (64 : Int).toNat := by decide
theorem bd128 : ((10 : Int) ^ (64 : Int).toNat).natAbs < 2 ^ 250 := by decide
theorem bd31 (x : Int) : 0 ≤ x % 2147483629 ∧ x % 2147483629 < 2147483629 := ⟨Int.emod_nonneg _ (by decide), Int.emod_lt_of_pos _ (by decide)⟩
/-- a draw below many: any number below it, only the source changes -/
def spPick : Sp := fun vs H Q _ => ∃ (p : Addr) (m : Int), vs = [.ref p, .int m] ∧ Src H p ∧ 0 < m ∧ m < 2 ^ 250 ∧ ∀ r H', 0 ≤ r → r < m → Src H' p → (∀ b, b ≠ p → H' b = H b) → Q (.int r) H'
/-- an address b of the heap stays when only p changes -/
theorem stay {H H' : Hp} {p b : Addr} {o : HO} (n : ∀ b, b ≠ p → H' b = H b) (hb : b ≠ p) (h : H b = some o) : H' b = some o := (n b hb).trans h
/-- all but p as it was -/
def But (p : Addr) (H H' : Hp) : Prop := ∀ b o, b ≠ p → H b = some o → H' b = some o
theorem But.rfl {p : Addr} {H : Hp} : But p H H := fun _ _ _ h => h
theorem But.of {p : Addr} {H H' : Hp} (n : ∀ b, b ≠ p → H' b = H b) : But p H H' := fun b o hb h => (n b hb).trans h
theorem But.ext {p : Addr} {H H1 H2 : Hp} (b : But p H H1) (e : Ext H1 H2) : But p H H2 := fun c o hc h => e _ _ (b c o hc h)
theorem ext_but {p : Addr} {H H1 : Hp} (e : Ext H H1) : But p H H1 := fun c o _ h => e _ _ h
theorem But.trans {p : Addr} {H H1 H2 : Hp} (a : But p H H1) (b : But p H1 H2) : But p H H2 := fun c o hc h => b c o hc (a c o hc h)
theorem But.mut {p q : Addr} {H H1 H2 : Hp} (a : But p H H1) (hq : H q = none) (n : ∀ b, b ≠ q → H2 b = H1 b) : But p H H2 := fun c o hc h => (n c (ne_of_none h hq)).trans (a c o hc h)
theorem But.l {K : PySem.W.Frag} {p a : Addr} {H H' : Hp} {xs : List V} (b : But p H H') (ha : a ≠ p) (h : SqL K H a xs) : SqL K H' a xs := by
  rcases h with (h | ⟨o, h⟩) | h
  · exact .inl (.inl (b _ _ ha h))
  · exact .inl (.inr ⟨o, b _ _ ha h⟩)
  · exact .inr h
theorem sq_ne {K : PySem.W.Frag} {p a : Addr} {H : Hp} {xs ys : List V} (h : H p = some (.lst ys)) (ha : SqL K H a xs) (e : xs ≠ ys) : a ≠ p ∨ ∃ o, K.lookup a = some o := by
  rcases ha with (q | ⟨o, q⟩) | ⟨o, _, _, q, _⟩
  · refine .inl fun z => ?_
    rw [z, h] at q
    exact e (by injection (Option.some.inj q) with z; exact z.symm)
  · refine .inl fun z => ?_
    rw [z, h] at q
    cases q
  · exact .inr ⟨o, q⟩
theorem src_ne {p q : Addr} {H : Hp} (s : Src H p) (h : H q = none) : p ≠ q := by
  obtain ⟨a, b, c, e⟩ := s
  exact ne_of_none e h
theorem eraseIdx_perm {α : Type} : ∀ {xs : List α} {j : Nat} {x : α}, xs[j]? = some x → (x :: xs.eraseIdx j).Perm xs
  | [], j, x, h => by simp at h
  | y :: xs, 0, x, h => by simp at h; subst h; exact .refl _
  | y :: xs, j + 1, x, h => by
    have h' : xs[j]? = some x := by simpa using h
    show (x :: y :: xs.eraseIdx j).Perm (y :: xs)
    exact (List.Perm.swap _ _ _).trans ((eraseIdx_perm h').cons y)
def spShuf (K : PySem.W.Frag) : Sp := fun vs H Q _ => ∃ (p t : Addr) (xs : List V), vs = [.ref p, .ref t] ∧ Src H p ∧ SqL K H t xs ∧ xs.length ≤ 10000 ∧
  ∀ q H' (ys : List V), H q = none → ys.Perm xs → Src H' p → H' q = some (.lst ys) → But p H H' → Q (.ref q) H'
end L3
set_option maxRecDepth 100000
set_option maxHeartbeats 4000000
/-! CmH: data of any depth; isinstance of it. -/
namespace L3
open PySem PySem.Spec PyProof.Rows L2 He
theorem pe_ty {X : Cx} {n : String} {pos : Pos} (hm : X.mg (Str.ofString n) = none) (hg : Gl X (Str.ofString n) := by rfl) (hv : bootBuiltins (Str.ofString n) = some (.type n) := by decide +kernel) (hn : Str.ofString n ≠ "__name__" := by decide) (hd : (Str.ofString n == ("__debug__" : Str)) = false := by decide) :
    PE X (.Name (Str.ofString n) pos) (tC (.ty n)) := pe_bltn hg hm hv rfl hn hd
/-- a def's promise that asks what cannot be -/
theorem calG_false {P : Program} {w : World} {K : PySem.W.Frag} {mg : Str → Option Value} {base : Heap} {k : Nat} {x : Str} {st : Stmt} {ps : List Str} (hg : mg x = some (.ref (ga K x))) (D : ∃ fd, FunD K x x (defArgs st) (defBody st) (defScope st) [] [] (ga K x) fd)
    (hb : ∀ (dV kV doc pm : Value) (an : Option Addr) (cdv ct : Value) (us : List Value), us.length = ps.length → bindArgs (PySem.W.fnOf x x (defArgs st) (defBody st) (defScope st) .none kV doc pm an cdv ct) ⟨us, []⟩ = pure (ps.zip us)) : CalG P w K mg base k x ps (fun _ _ _ _ => False) := by
  obtain ⟨fd, F⟩ := D
  exact ⟨hg, ⟨fd, ⟨fun _ _ _ _ z => z.elim, fun _ _ _ _ _ _ _ _ _ _ _ _ _ z => z.elim⟩, F.bindsN fun kV doc pm an cdv ct us hl => hb .none kV doc pm an cdv ct us hl⟩, F.kp⟩
section
variable {K : PySem.W.Frag} {H H' : Hp}
mutual
theorem Ext.dp (e : Ext H H') : ∀ (d : PyData) {x : V}, Dp K H x d → Dp K H' x d
  | .none, _, .non => .non
  | .bool b, _, .bl _ => .bl b
  | .int i, _, .int _ => .int i
  | .str s, _, .str _ => .str s
  | .list ds, _, .lst h hs => .lst (e.l h) (Ext.dps e ds hs)
  | .tuple ds, _, .tup h hs => .tup (e.tu h) (Ext.dps e ds hs)
theorem Ext.dps (e : Ext H H') : ∀ (ds : List PyData) {xs : List V}, DpAll K H xs ds → DpAll K H' xs ds
  | [], _, .nil => .nil
  | d :: ds, _, .cons h hs => .cons (Ext.dp e d h) (Ext.dps e ds hs)
end
theorem dps_len : ∀ {xs : List V} {ds : List PyData}, DpAll K H xs ds → xs.length = ds.length
  | _, _, .nil => rfl
  | _, _, .cons _ h => by rw [List.length_cons, List.length_cons, dps_len h]
theorem dps_get : ∀ {xs : List V} {ds : List PyData} {i : Nat} {d : PyData}, DpAll K H xs ds → ds[i]? = some d → ∃ x, xs[i]? = some x ∧ Dp K H x d
  | _, _, i, d, .nil, e => by simp at e
  | _, _, 0, d, .cons h _, e => by simp at e; subst e; exact ⟨_, rfl, h⟩
  | _, _, i + 1, d, .cons _ h, e => by
    obtain ⟨x, e1, h1⟩ := dps_get (i := i) h (by simpa using e)
    exact ⟨x, by simpa using e1, h1⟩
theorem dps_ints : ∀ (ns : List Int), DpAll K H (ns.map V.int) (ns.map PyData.int)
  | [] => .nil
  | n :: ns => .cons (.int n) (dps_ints ns)
theorem dps_append : ∀ {xs ys : List V} {ds es : List PyData}, DpAll K H xs ds → DpAll K H ys es → DpAll K H (xs ++ ys) (ds ++ es)
  | _, _, _, _, .nil, h => h
  | _, _, _, _, .cons h t, g => .cons h (dps_append t g)
/-- the type's name -/
def tyD : PyData → String
  | .none => "NoneType"
  | .bool _ => "bool"
  | .int _ => "int"
  | .str _ => "str"
  | .list _ => "list"
  | .tuple _ => "tuple"
  | .dict _ => "dict"
theorem dp_ty {x : V} {d : PyData} (h : Dp K H x d) : TyX K H x (.type (tyD d)) := by
  cases h with
  | non => exact .base .non
  | bl b => exact .base (.bl b)
  | int i => exact .base (.int i)
  | str s => exact .base (.str s)
  | lst h _ =>
    rcases h with (h | ⟨o, h⟩) | ⟨o, _, _, h, c, _⟩
    · exact .base (.lst h)
    · exact .base (.frz h)
    · exact .kList h c
  | tup h _ =>
    rcases h with (h | ⟨o, h⟩) | ⟨o, _, _, h, c, _⟩
    · exact .base (.tup h)
    · exact .fTuple h
    · exact .kTuple h c
def tys : List String := ["NoneType", "bool", "int", "str", "list", "tuple"]
def isB (a b : String) : Bool := decide (a = b) || (decide (a = "bool") && decide (b = "int"))
theorem kit6 : ∀ a ∈ tys, ∀ b ∈ ["list", "tuple", "dict", "bool", "str", "int"], kitB a b = some (isB a b) := by decide +kernel
theorem ty_in {x : V} {d : PyData} (h : Dp K H x d) : tyD d ∈ tys := by cases h <;> simp [tyD, tys]
theorem kit_is {x : V} {d : PyData} (h : Dp K H x d) {b : String} (hb : b ∈ ["list", "tuple", "dict", "bool", "str", "int"]) : PySem.W.kitOne K (.type (tyD d)) (.type b) = some (isB (tyD d) b) := kit_ty (kit6 _ (ty_in h) _ hb)
variable {Q : VK}
/-- isinstance(x, T) -/
theorem r_isi {x : V} {d : PyData} {b : String} (h : Dp K H x d) (hb : b ∈ ["list", "tuple", "dict", "bool", "str", "int"]) (k : Q (.bl (isB (tyD d) b)) H) : rIsi K [x, .ty b] H Q := ⟨x, _, _, _, _, rfl, .ty b, dp_ty h, kit_is h hb, k⟩
theorem kitAny2 {a b c : String} {p q : Bool} (h1 : PySem.W.kitOne K (.type a) (.type b) = some p) (h2 : PySem.W.kitOne K (.type a) (.type c) = some q) : PySem.W.kitAny K (.type a) [.type b, .type c] = some (p || q) := by
  unfold PySem.W.kitAny
  rw [h1]
  cases p
  · show PySem.W.kitAny K (.type a) [.type c] = some q
    unfold PySem.W.kitAny
    rw [h2]
    cases q <;> rfl
  · rfl
theorem kitAny3 {a b c d : String} {p q r : Bool} (h1 : PySem.W.kitOne K (.type a) (.type b) = some p) (h2 : PySem.W.kitOne K (.type a) (.type c) = some q) (h3 : PySem.W.kitOne K (.type a) (.type d) = some r) : PySem.W.kitAny K (.type a) [.type b, .type c, .type d] = some (p || (q || r)) := by
  unfold PySem.W.kitAny
  rw [h1]
  cases p
  · show PySem.W.kitAny K (.type a) [.type c, .type d] = some (q || r)
    exact kitAny2 h2 h3
  · rfl
/-- isinstance(x, (T, U)) -/
theorem r_isi2 {x : V} {d : PyData} {b c : String} {t : Addr} (h : Dp K H x d) (ht : H t = some (.tup [.ty b, .ty c])) (hb : b ∈ ["list", "tuple", "dict", "bool", "str", "int"]) (hc : c ∈ ["list", "tuple", "dict", "bool", "str", "int"])
    (k : Q (.bl (isB (tyD d) b || isB (tyD d) c)) H) : rIsiT K [x, .ref t] H Q := ⟨x, t, _, _, _, _, rfl, ht, .cons (.ty b) (.cons (.ty c) .nil), dp_ty h, kitAny2 (kit_is h hb) (kit_is h hc), k⟩
theorem r_isi3 {x : V} {d : PyData} {b c e : String} {t : Addr} (h : Dp K H x d) (ht : H t = some (.tup [.ty b, .ty c, .ty e])) (hb : b ∈ ["list", "tuple", "dict", "bool", "str", "int"]) (hc : c ∈ ["list", "tuple", "dict", "bool", "str", "int"]) (he : e ∈ ["list", "tuple", "dict", "bool", "str", "int"])
    (k : Q (.bl (isB (tyD d) b || (isB (tyD d) c || isB (tyD d) e))) H) : rIsiT K [x, .ref t] H Q := ⟨x, t, _, _, _, _, rfl, ht, .cons (.ty b) (.cons (.ty c) (.cons (.ty e) .nil)), dp_ty h, kitAny3 (kit_is h hb) (kit_is h hc) (kit_is h he), k⟩
theorem r_all {p : Addr} {bs : List Bool} (h : SqL K H p (bs.map V.bl)) (k : Q (.bl (bs.all id)) H) : rAll K [.ref p] H Q := ⟨p, bs, rfl, h, k⟩
theorem r_any {p : Addr} {bs : List Bool} (h : SqL K H p (bs.map V.bl)) (k : Q (.bl (bs.any id)) H) : rAny K [.ref p] H Q := ⟨p, bs, rfl, h, k⟩
theorem r_isN1 {x : V} (k : Q (.bl (decide (x = .non))) H) : rIsN x .non H Q := ⟨rfl, k⟩
theorem r_notN1 {x : V} (k : Q (.bl (!decide (x = .non))) H) : rNotN x .non H Q := ⟨rfl, k⟩
end
end L3
set_option maxRecDepth 100000
set_option maxHeartbeats 4000000
/-! CmI: the rules with the written part named, so that a reading within a comprehension does not hang on its frame. -/
namespace L3
open PySem PySem.Spec PyProof.Rows L2 He
section
variable {X : Cx} {K : PySem.W.Frag}
theorem ixK (hK : X.K = K := by rfl) : IxR X (rAt K) := hK ▸ ix_at
theorem plusK (hK : X.K = K := by rfl) : OpR X (binaryOp .Add) (rPlus K) := hK ▸ op_plus
theorem sameK (hu : X.A.units + 64 < cLine) (hK : X.K = K := by rfl) : OpR X (compareOp .Eq) (rSame K) := hK ▸ op_same hu
theorem otherK (hu : X.A.units + 64 < cLine) (hK : X.K = K := by rfl) : OpR X (compareOp .NotEq) (rOther K) := hK ▸ op_other hu
theorem inK (hK : X.K = K := by rfl) : OpR X (compareOp .In) (rIn K false) := hK ▸ op_in_seq
theorem notInK (hK : X.K = K := by rfl) : OpR X (compareOp .NotIn) (rIn K true) := hK ▸ op_notIn_seq
theorem lenK (hK : X.K = K := by rfl) : CallR X (.builtin "len") (LenS K) := hK ▸ cr_len
theorem isiK (hK : X.K = K := by rfl) : CallR X (.builtin "isinstance") (rIsi K) := hK ▸ call_isi
theorem isiTK (hK : X.K = K := by rfl) : CallR X (.builtin "isinstance") (rIsiT K) := hK ▸ call_isiT
theorem listK (hK : X.K = K := by rfl) : CallR X (.type "list") (ListS K) := hK ▸ cr_list
def TupS (K : PySem.W.Frag) : List V → Hp → VK → Prop := fun xs H Q => ∃ p ys, xs = [.ref p] ∧ ((SqL K H p ys ∧ ∀ l, H l = none → Q (.ref l) (upd H l (.tup ys))) ∨ (SqT K H p ys ∧ Q (.ref p) H))
theorem tupK (hK : X.K = K := by rfl) : CallR X (.type "tuple") (TupS K) := hK ▸ call_tuple_of
theorem sumK (hc : X.calm = true) (hK : X.K = K := by rfl) : CallR X (.builtin "sum") (rSum K) := hK ▸ cr_sum hc
theorem maxK (hc : X.calm = true) (hK : X.K = K := by rfl) : CallR X (.builtin "max") (rMax K) := hK ▸ cr_max hc
theorem minK (hc : X.calm = true) (hK : X.K = K := by rfl) : CallR X (.builtin "min") (rMin K) := hK ▸ cr_min hc
theorem allK (hc : X.calm = true) (hK : X.K = K := by rfl) : CallR X (.builtin "all") (rAll K) := hK ▸ cr_all hc
theorem anyK (hc : X.calm = true) (hK : X.K = K := by rfl) : CallR X (.builtin "any") (rAny K) := hK ▸ cr_any hc
theorem sortedK (hK : X.K = K := by rfl) : CallR X (.builtin "sorted") (rSortedI K) := hK ▸ cr_sortedI
theorem slK (hK : X.K = K := by rfl) : SlR X (rSlL K) := hK ▸ sl_list
theorem kdictK (hK : X.K = K := by rfl) : IxR X (rIxD K X.w) := hK ▸ ix_kdict
theorem getLK (hK : X.K = K := by rfl) : PGet X (rGetL K) := hK ▸ get_list
theorem indexK (hK : X.K = K := by rfl) : MtR X "list.index" (rIndex K) := hK ▸ mt_index
theorem peBM {T : String} {r : V → List V → Hp → VK → Prop} {to : TE} {t : TA} {e : Expr} (h : PE X e (tBM X.K T r to t)) (hK : X.K = K := by rfl) : PE X e (tBM K T r to t) := hK ▸ h
theorem peBM0 {T : String} {r : V → List V → Hp → VK → Prop} {to : TE} {e : Expr} (h : PE X e (tBM0 X.K T r to)) (hK : X.K = K := by rfl) : PE X e (tBM0 K T r to) := hK ▸ h
theorem piL {tg l : Expr} {tl : TE} (hl : PE X l tl) (hK : X.K = K := by rfl) : PI X tg l (iList K tl) := hK ▸ pi_list hl
theorem piT {tg l : Expr} {tl : TE} (hl : PE X l tl) (hK : X.K = K := by rfl) : PI X tg l (iTup K tl) := hK ▸ pi_tup hl
theorem pgT {es : List Expr} {k : Nat} {t : TGs} {n : Nat} {pos : Pos} (h : PG X (.Tuple es k pos) (gTup X.K n t)) (hK : X.K = K := by rfl) : PG X (.Tuple es k pos) (gTup K n t) := hK ▸ h
theorem pgL {es : List Expr} {k : Nat} {t : TGs} {n : Nat} {pos : Pos} (h : PG X (.Tuple es k pos) (gLst X.K n t)) (hK : X.K = K := by rfl) : PG X (.Tuple es k pos) (gLst K n t) := hK ▸ h
end
end L3
namespace L3
open PySem PySem.Spec PyProof.Rows L2 He
section
variable {K : PySem.W.Frag} {H H' : Hp} {Q : VK}
theorem ite_nt {A B : Prop} (h : B) : if (!true) = true then A else B := h
theorem ite_nf {A B : Prop} (h : A) : if (!false) = true then A else B := h
/-- a list or a tuple of these -/
def Seq (K : PySem.W.Frag) (H : Hp) (a : Addr) (xs : List V) : Prop := SqL K H a xs ∨ SqT K H a xs
theorem Ext.sq {a : Addr} {xs : List V} (e : Ext H H') (h : Seq K H a xs) : Seq K H' a xs := h.elim (fun h => .inl (e.l h)) fun h => .inr (e.tu h)
theorem r_lenA {p : Addr} {ys : List V} {n : Int} (h : Seq K H p ys) (e : (ys.length : Int) = n) (k : Q (.int n) H) : LenS K [.ref p] H Q := ⟨p, ys, rfl, h, by rw [e]; exact k⟩
theorem r_atA {p : Addr} {xs : List V} {i : Int} {v : V} (h : Seq K H p xs) (e : atI xs i = some v) (k : Q v H) : rAt K (.ref p) (.int i) H Q := h.elim (fun h => r_atL h e k) fun h => r_atT h e k
def itemsD : PyData → List PyData
  | .list ds => ds
  | .tuple ds => ds
  | _ => []
theorem dp_seq {x : V} {d : PyData} (h : Dp K H x d) (c : (isB (tyD d) "list" || isB (tyD d) "tuple") = true) : ∃ a xs, x = .ref a ∧ Seq K H a xs ∧ DpAll K H xs (itemsD d) := by
  cases h with
  | lst h hs => exact ⟨_, _, rfl, .inl h, hs⟩
  | tup h hs => exact ⟨_, _, rfl, .inr h, hs⟩
  | _ => simp [isB, tyD] at c
/-- n deep at most, each list short -/
def smallD : Nat → PyData → Prop
  | 0, _ => False
  | n + 1, d => (itemsD d).length ≤ 100000 ∧ ∀ e ∈ itemsD d, smallD n e
theorem small_int (n : Nat) (i : Int) : smallD (n + 1) (.int i) := ⟨Nat.zero_le _, fun _ h => absurd h (List.not_mem_nil)⟩
theorem small_str (n : Nat) (i : Str) : smallD (n + 1) (.str i) := ⟨Nat.zero_le _, fun _ h => absurd h (List.not_mem_nil)⟩
theorem small_bool (n : Nat) (i : Bool) : smallD (n + 1) (.bool i) := ⟨Nat.zero_le _, fun _ h => absurd h (List.not_mem_nil)⟩
theorem small_none (n : Nat) : smallD (n + 1) .none := ⟨Nat.zero_le _, fun _ h => absurd h (List.not_mem_nil)⟩
theorem small_ints (n : Nat) {ns : List Int} (h : ns.length ≤ 100000) : smallD (n + 2) (.list (ns.map PyData.int)) := ⟨by show (ns.map PyData.int).length ≤ _; rw [List.length_map]; exact h, fun e he => by
  obtain ⟨i, _, rfl⟩ := List.mem_map.mp he
  exact small_int n i⟩
theorem small_tup {n : Nat} {ds : List PyData} (h : ds.length ≤ 100000) (k : ∀ e ∈ ds, smallD n e) : smallD (n + 1) (.tuple ds) := ⟨h, k⟩
theorem small_list {n : Nat} {ds : List PyData} (h : ds.length ≤ 100000) (k : ∀ e ∈ ds, smallD n e) : smallD (n + 1) (.list ds) := ⟨h, k⟩
theorem small_mono : ∀ {n m : Nat} {d : PyData}, n ≤ m → smallD n d → smallD m d
  | 0, _, _, _, h => h.elim
  | n + 1, m + 1, d, hm, h => ⟨h.1, fun e he => small_mono (by omega) (h.2 e he)⟩
/-- the same data twice -/
def spSame (K : PySem.W.Frag) (n : Nat) : Sp := fun vs H Q _ => ∃ (x y : V) (d : PyData), vs = [x, y] ∧ Dp K H x d ∧ Dp K H y d ∧ smallD n d ∧ ∀ H', Ext H H' → Q (.bl true) H'
theorem dp_flat {x : V} {d : PyData} (h : Dp K H x d) (c : (isB (tyD d) "list" || isB (tyD d) "tuple") = false) : (d = .none ∧ x = .non) ∨ ((isB (tyD d) "bool" || (isB (tyD d) "int" || isB (tyD d) "str")) = true ∧ x ≠ .non ∧ scal x x = true) := by
  cases h with
  | lst h hs => simp [isB, tyD] at c
  | tup h hs => simp [isB, tyD] at c
  | non => exact .inl ⟨rfl, rfl⟩
  | bl b => exact .inr ⟨by simp [isB, tyD], by simp, rfl⟩
  | int b => exact .inr ⟨by simp [isB, tyD], by simp, rfl⟩
  | str b => exact .inr ⟨by simp [isB, tyD], by simp, rfl⟩
theorem dp_det {x y : V} {d : PyData} (hx : Dp K H x d) (hy : Dp K H y d) (c : (isB (tyD d) "list" || isB (tyD d) "tuple") = false) : x = y := by
  cases hx <;> cases hy <;> first | rfl | simp [isB, tyD] at c
theorem dp_nodict {x : V} {d : PyData} (h : Dp K H x d) : isB (tyD d) "dict" = false := by cases h <;> simp [isB, tyD]
theorem bools_all (n : Nat) : ((List.range n).map fun _ => true).all id = true := by simp
theorem map_bl (n : Nat) : (List.range n).map (fun _ => V.bl true) = ((List.range n).map fun _ => true).map V.bl := by simp
end
end L3
namespace L3
open PySem PySem.Spec PyProof.Rows L2 He
/-- up to the line of sizes -/
theorem LcP.pushB {H1 H' H4 : Hp} {Dl : Addr} {f : Nat → V} {i : Nat} {y : V} (p : LcP H1 Dl f i H') (hD : H1 Dl = none) (hi : i < 16777216) (e : Ext H' H4) (ey : y = f i) : ∃ acc, H4 Dl = some (.lst acc) ∧ acc.length < sizeLine ∧ LcP H1 Dl f (i + 1) (upd H4 Dl (.lst (acc ++ [y]))) := by
  refine ⟨_, e _ _ p.d, ?_, Ext.mut (p.e.trans e) hD, ?_⟩
  · rw [List.length_map, List.length_range, sizeLine_eq]
    exact hi
  · rw [upd_same, List.range_succ, List.map_append, ey]
    rfl
end L3
namespace L3
open PySem PySem.Spec PyProof.Rows L2 He
/-! ### the def that tells an error, called in a suite -/
theorem Kits.yes {K : PySem.W.Frag} {b : Str} {xs : List Str} (k : Kits K b xs) {x : Str} (hx : x ∈ xs) : PySem.W.kitOne K (.ref (ga K x)) (.ref (ga K x)) = some true := by
  have h := k.kit x hx x hx
  rwa [show decide (x = x) = true from decide_eq_true rfl] at h
theorem Kits.no {K : PySem.W.Frag} {b : Str} {xs : List Str} (k : Kits K b xs) {x y : Str} (hx : x ∈ xs) (hy : y ∈ xs) (n : x ≠ y) : PySem.W.kitOne K (.ref (ga K x)) (.ref (ga K y)) = some false := by
  have h := k.kit x hx y hy
  rwa [show decide (x = y) = false from decide_eq_false n] at h
theorem r_isP {K : PySem.W.Frag} {D a dd C : Addr} {b : Bool} {fs : List (Str × V)} {H : Hp} {Q : VK} (hd : H dd = some (.xd fs)) (hk : PySem.W.kitOne K (.ref D) (.ref C) = some b) (k : Q (.bl b) H) : rIsP K D a dd [.ref a, .ref C] H Q :=
  ⟨_, .ref C, b, fs, rfl, hd, fun _ r => r, hk, k⟩
theorem r_isPV {K : PySem.W.Frag} {D a dd : Addr} {n : String} {b : Bool} {fs : List (Str × V)} {H : Hp} {Q : VK} (hd : H dd = some (.xd fs)) (hk : PySem.W.kitOne K (.ref D) (.type n) = some b) (k : Q (.bl b) H) : rIsP K D a dd [.ref a, .ty n] H Q :=
  ⟨_, .type n, b, fs, rfl, hd, fun _ r => r, hk, k⟩
theorem r_xp {D a dd : Addr} {f : Str} {te : TE} {σ : L2.St} {H : Hp} {Q : VK} (k : te σ H fun x H1 => x = .ref a ∧ ∃ (fs : List (Str × V)) (v : V), H1 dd = some (.xd fs) ∧ fs.lookup f = some v ∧ Q v H1) : tXp D a dd f te σ H Q := k
/-- what a def called in a suite promises of the handled error: its place, its class, its dict -/
abbrev SpF := Addr → Value → Option Addr → Sp
def onP (s : SpF) : SpP := fun p => s p.1 p.2.cls p.2.dict
/-- tells of an error of the class x: the tuple of its name and its fields -/
def spFlt (K : PySem.W.Frag) (x : Str) (fs : List Str) : SpF := fun a cls d vs H Q _ => ∃ (dd : Addr) (kv : List (Str × V)) (us : List V), vs = [.ref a] ∧ (cls = .ref (ga K x) ∧ d = some dd) ∧ H dd = some (.xd kv) ∧ fs.map (fun f => kv.lookup f) = us.map some ∧
  ∀ q H', H q = none → Ext H H' → H' q = some (.tup (.str x :: us)) → Q (.ref q) H'
def spFlts (K : PySem.W.Frag) (l : List (Str × List Str)) : SpF := fun a cls d vs H Q E => ∃ x ∈ l, spFlt K x.1 x.2 a cls d vs H Q E
theorem fnP_any {P : Program} {w : World} {K : PySem.W.Frag} {mg : Str → Option Value} {base : Heap} {CX : CXT} {k : Nat} {f : Addr} {fd : FuncData} {ps : List Str} {l : List (Str × List Str)} (h : ∀ x ∈ l, FnP P w K mg base CX k f fd ps (onP (spFlt K x.1 x.2))) :
    FnP P w K mg base CX k f fd ps (onP (spFlts K l)) :=
  ⟨fun p vs H Q E ⟨x, hx, z⟩ => (h x hx).len p vs H Q E z, fun p A outer s H args us vs Q E h1 h2 h3 h4 h5 h6 ⟨x, hx, z⟩ => (h x hx).run p A outer s H args us vs Q E h1 h2 h3 h4 h5 h6 z⟩
structure FaultG (P : Program) (w : World) (K : PySem.W.Frag) (mg : Str → Option Value) (base : Heap) (l : List (Str × List Str)) : Prop where
  g : mg "_law_fault" = some (.ref (ga K "_law_fault"))
  kp : PySem.W.keepIn K (.ref (ga K "_law_fault")) = true
  ok : ∃ fd, FnP P w K mg base (L2N.CX P w) 1 (ga K "_law_fault") fd ["error"] (onP (spFlts K l)) ∧ Binds K fd ["error"] []
theorem hotOf {A : Around} {a : Addr} {oe : Obj} {cls : Value} {d : Option Addr} (hz : L2N.Zn cls d oe) (hf : ∃ vs, oe.data = .fields vs) : L2H.Hot1 (A.mark (some (.ref a))) (a, oe) := by
  obtain ⟨vs, e⟩ := hf
  exact ⟨rfl, vs, e, hz.2.2 vs e⟩
/-- _law_fault(error) in the suite -/
theorem pe_fault {X : Cx} {l : List (Str × List Str)} {a : Addr} {oe : Obj} {cls : Value} {d : Option Addr} {q pos : Pos} {e : Expr} {te : TE} (c : FaultG X.prog X.w X.K X.mg X.base l) (hr : L2H.RoomH 1 X.A) (hz : L2N.Zn cls d oe) (hot : L2H.Hot1 X.A (a, oe)) (hp : (a, oe) ∈ X.pn) (he : PE X e te)
    (hg : Gl X "_law_fault" := by rfl) (h2 : starEach [e] X.env = (false, eval e X.env) :: starEach [] X.env := by rfl) (hpl : (backTo pos (starEach ([] : List Expr) X.env)).any (·.1) = false := by rfl) :
    PE X (.Call (.Name "_law_fault" q) [e] [] pos) (tCallS (spFlts X.K l a cls d) (WE fun _ _ _ _ => False) (tCons te tNil)) := by
  obtain ⟨fd, F, b⟩ := c.ok
  have key := pe_callP (p := (a, oe)) (q := q) (pos := pos) F hr hot hp hg c.g c.kp b passN (pa_cons he pa_nil (hs := h2)) (by decide) h2 hpl
  obtain ⟨e1, e2, _⟩ := hz
  unfold onP at key
  dsimp only at key
  rw [e1, e2] at key
  exact key
/-- one clause «except X as n», X the base of the module's errors -/
theorem r_wAs {K : PySem.W.Frag} {c : Value} {i : Nat} {ts : Addr → Value → Option Addr → TS} {Wout : WX} {D : Ends} {cls : Value} {d : Option Addr} {σ : L2.St} {H : Hp} (e : PySem.W.exmOne K cls c = some true)
    (k : ∀ a, H a = none → ts a cls d ⟨fun σ' H' => D.nx (σ'.set i none) H', D.rt, fun σ' H' => D.bk (σ'.set i none) H', fun σ' H' => D.ct (σ'.set i none) H'⟩ (σ.set i (some (.ref a))) H) : wAs K c i ts Wout D cls d σ H :=
  ⟨true, e, fun _ => k, fun z => nomatch z⟩
end L3
namespace L3
open PySem PySem.Spec PyProof.Rows L2 He
/-- what a try's body is run with -/
structure TryZ (X : Cx) (W : L2.WX) where
  pn : List (Addr × Obj)
  xe : Value → Shared → Prop
  tk : L2N.Takes (X.tr pn xe) W
  hp : PassesOwn (model X.prog X.w) X.A X.env xe
/-- try: .. except x as n: .., the body's reading free to be found -/
theorem ps_tryZ {X : Cx} {x n : Str} {c : Value} {i : Nat} {body suite : List Stmt} {b₀ : Stmt} {np pos pos' : Pos} {tb : (W : L2.WX) → TryZ X W → TS} {ts : Addr → Value → Option Addr → TS} {Wout : L2.WX}
    (hs : X.stack = X.env :: X.outer) (hf : X.env.frame = some X.env.locals) (hN : X.N.Nodup) (hi : X.N[i]? = some n) (hln : X.env.kindOf n = some .local) (hc : Names X x c) (tk : L2N.Takes X Wout)
    (hb : ∀ (W : L2.WX) (z : TryZ X W), PSs (X.tr z.pn z.xe) body (tb W z))
    (hsu : ∀ (a : Addr) (oe : Obj) (cls : Value) (d : Option Addr) (pn : List (Addr × Obj)), L2N.Zn cls d oe → (∃ vs, oe.data = .fields vs) → PSs (X.suite a ((a, oe) :: pn)) (b₀ :: suite) (ts a cls d)) :
    PS X (.Try body [.ExceptHandler (some (.Name x np)) (some n) (b₀ :: suite) pos'] [] [] pos) (fun D σ H => ∀ z : TryZ X (wAs X.K c i ts Wout D), tb _ z D σ H) :=
  L2N.ps_try_as (tb := fun W D σ H => ∀ z : TryZ X W, tb W z D σ H) hs hf hN hi hln hc tk (fun W pn xe tk hp => ⟨fun pins s σ H D I h => (hb W ⟨pn, xe, tk, hp⟩).run pins s σ H D I (h _)⟩) hsu
end L3
namespace L3
open PySem PySem.Spec PyProof.Rows L2 He
/-- a callee's error: its class, its one field -/
def Bad (K : PySem.W.Frag) (E : XK) (H : Hp) (C what : Str) : Prop := ∀ d H', H d = none → Ext H H' → H' d = some (.xd [("what", .str what)]) → E (.ref (ga K C)) (some d) H'
theorem r_flt1 {K : PySem.W.Frag} {l : List (Str × List Str)} {x f : Str} {a dd : Addr} {v : V} {H : Hp} {Q : VK} {E : XK} (hx : (x, [f]) ∈ l) (hd : H dd = some (.xd [(f, v)])) (k : ∀ q H', H q = none → Ext H H' → H' q = some (.tup [.str x, v]) → Q (.ref q) H') :
    spFlts K l a (.ref (ga K x)) (some dd) [.ref a] H Q E := ⟨(x, [f]), hx, dd, _, [v], rfl, ⟨rfl, rfl⟩, hd, by simp [List.lookup], k⟩
/-- told in the suite -/
theorem bad_tell {K : PySem.W.Frag} {c : Value} {l : List (Str × List Str)} {i : Nat} {Wout : L2.WX} {D : Ends} {σ : L2.St} {H1 : Hp} {C what : Str} (e : PySem.W.exmOne K (.ref (ga K C)) c = some true) (hl : (C, (["what"] : List Str)) ∈ l) (hi : i < σ.length)
    (k : ∀ q H', Ext H1 H' → H' q = some (.tup [.str C, .str what]) → D.rt (.ref q) H') : Bad K (WE (wAs K c i (fun a cls d => tRet (tCallS (spFlts K l a cls d) (WE fun _ _ _ _ => False) (tCons (tVar i) tNil))) Wout D) σ) H1 C what := by
  intro d H' hd e1 h
  refine r_wAs e fun a ha => ?_
  exact ⟨.ref a, by simp [hi], r_flt1 hl h fun q H2 hq e2 h2 => k q H2 (e1.trans e2) h2⟩
end L3
namespace L3
open PySem PySem.Spec PyProof.Rows L2 He
theorem r_chain {r r' : R2} {ta tb tc : TE} {σ : L2.St} {H : Hp} {Q : VK} (k : ta σ H fun x H1 => tb σ H1 fun y H2 => r x y H2 fun z H3 => ∃ k, z = .bl k ∧ (if k = true then tc σ H3 fun w' H4 => r' y w' H4 Q else Q (.bl false) H3)) : tChain r r' ta tb tc σ H Q := k
/-- the script, apart from what changes -/
def Sc (K : PySem.W.Frag) (S : List Addr) (a : Addr) (xs : List V) (H : Hp) : Prop := SqL K H a xs ∧ ((∀ H', SqL K H' a xs) ∨ (a ∉ S ∧ H a ≠ none))
theorem Sc.start {K : PySem.W.Frag} {S : List Addr} {a : Addr} {xs : List V} {H : Hp} (h : SqL K H a xs) (hS : ∀ q ∈ S, H q = none) : Sc K S a xs H := by
  rcases h with (h | ⟨o, h⟩) | h
  · exact ⟨.inl (.inl h), .inr ⟨fun z => (by rw [hS a z] at h; cases h), (by rw [h]; exact fun z => nomatch z)⟩⟩
  · exact ⟨.inl (.inr ⟨o, h⟩), .inr ⟨fun z => (by rw [hS a z] at h; cases h), (by rw [h]; exact fun z => nomatch z)⟩⟩
  · exact ⟨.inr h, .inl fun _ => .inr h⟩
theorem Sc.ext {K : PySem.W.Frag} {S : List Addr} {a : Addr} {xs : List V} {H H' : Hp} (s : Sc K S a xs H) (e : Ext H H') : Sc K S a xs H' :=
  ⟨e.l s.1, s.2.imp id fun ⟨h1, h2⟩ => ⟨h1, by
    cases q : H a with
    | none => exact absurd q h2
    | some o => rw [e _ _ q]; exact fun z => nomatch z⟩⟩
theorem Sc.but {K : PySem.W.Frag} {S : List Addr} {a p : Addr} {xs : List V} {H H' : Hp} (s : Sc K S a xs H) (hp : p ∈ S) (b : But p H H') : Sc K S a xs H' := by
  rcases s.2 with h | ⟨h1, h2⟩
  · exact ⟨h _, .inl h⟩
  · have ne : a ≠ p := fun e => h1 (e ▸ hp)
    refine ⟨b.l ne s.1, .inr ⟨h1, ?_⟩⟩
    cases q : H a with
    | none => exact absurd q h2
    | some o => rw [b _ _ ne q]; exact fun z => nomatch z
theorem Sc.more {K : PySem.W.Frag} {S S' : List Addr} {a : Addr} {xs : List V} {H : Hp} (s : Sc K S a xs H) (hS : ∀ q ∈ S', q ∈ S ∨ H q = none) : Sc K S' a xs H :=
  ⟨s.1, s.2.imp id fun ⟨h1, h2⟩ => ⟨fun z => (hS a z).elim h1 h2, h2⟩⟩
theorem src_some {H : Hp} {p : Addr} (a : Src H p) : H p ≠ none := by
  obtain ⟨x, y, z, h⟩ := a
  rw [h]
  exact fun z => nomatch z
theorem Src.stay {H H' : Hp} {p q : Addr} (s : Src H p) (b : But q H H') (h : p ≠ q) : Src H' p := by
  obtain ⟨x, y, z, e⟩ := s
  exact ⟨x, y, z, b _ _ h e⟩
end L3
set_option maxRecDepth 100000
set_option maxHeartbeats 4000000
/-! CmJ: list(range(..)), forwards and down; reversed lists; the greatest of a list. -/
namespace L3
open PySem PySem.Spec PyProof.Rows L2 He
/-- the ints i, i - 1, .., above j -/
def dnV (i j : Int) : List V := (List.range (i - j).toNat).map fun k => V.int (i + (k : Nat) * -1)
def LstDn (vs : List V) (H1 : Hp) (Q : VK) : Prop := ∃ i j : Int, vs = [.int i, .int j, .int (-1)] ∧ RgOk j i ∧ ∀ q, H1 q = none → Q (.ref q) (upd H1 q (.lst (dnV i j)))
def tLstDn (ta : TA) : TE := fun σ H Q => ta σ H fun vs H1 => LstDn vs H1 Q
theorem pe_listDn {X : Cx} {a b c : Expr} {ta : TA} {p p2 pos pos2 : Pos} (hc : X.calm = true) (hml : X.mg "list" = none) (hm : X.mg "range" = none) (ha : PA X [a, b, c] ta) (hgl : Gl X "list" := by rfl) (hg : Gl X "range" := by rfl)
    (hs : starEach [a, b, c] X.env = (false, eval a X.env) :: starEach [b, c] X.env := by rfl) (hpl : (backTo pos2 (starEach [b, c] X.env)).any (·.1) = false := by rfl)
    (na : starEach [.Call (.Name "range" p2) [a, b, c] [] pos2] X.env = (false, eval (.Call (.Name "range" p2) [a, b, c] [] pos2) X.env) :: starEach [] X.env := by rfl) :
    PE X (.Call (.Name "list" p) [.Call (.Name "range" p2) [a, b, c] [] pos2] [] pos) (tLstDn ta) := by
  refine ⟨fun pins s σ H Q I h => ?_⟩
  refine Call_ (ld_blt I hgl hml boot_list (PyProof.Rows.callWith_type1 (args_cons (thn (Q := fun x s1 => ∃ r i j t u v H1, x = Value.ref r ∧ IsRange s1.heap r i j (-1) t u v ∧ Inv X pins σ H1 s1 ∧ RgOk j i ∧ ∀ q, H1 q = none → Q (.ref q) (upd H1 q (.lst (dnV i j)))) ?_ fun x s1 ⟨r, i, j, t, u, v, H1, ex, hr, I1, ok, q⟩ => args_nil ?_) na) na))
  · refine Call_ (ld_blt I hg hm boot_range (PyProof.Rows.callWith_type1 (thn (ha.run pos2 pins s σ H _ I h) fun us s1 ⟨vs, H1, I1, r1, q1⟩ => ?_) hs hpl))
    obtain ⟨i, j, e, ok, q⟩ := q1
    subst e
    cases r1 with
    | cons r rr =>
      cases rr with
      | cons r' rr =>
        cases rr with
        | cons r'' rr =>
          cases rr
          obtain ⟨t, rfl⟩ := r
          obtain ⟨t', rfl⟩ := r'
          obtain ⟨t'', rfl⟩ := r''
          exact call_range_3 (by decide) ⟨_, i, j, _, _, _, H1, rfl, IsRange.new _ _ _ _ _ _ _, I1.kept fun b u e => Heap.get?_push_of_some _ e, ok, q⟩ (.inl (PyProof.noPylong_small (by decide)))
  · subst ex
    obtain ⟨b1, b2, b3, b4, b5⟩ := ok
    refine call_list_range (n := (i - j).toNat) (I1.ok.hd hc) hr (PySem.W.small_down b3 b4 b1 b2) (PySem.W.rangeSize_downNat i j) b5 fun h' tk acc c' hk e' hi => ?_
    refine ⟨.ref s1.heap.objs.size, upd H1 s1.heap.objs.size (.lst (dnV i j)), I1.laid hk (Nat.le_refl _) (show ObjOk X.prog X.w _ _ _ (.lst (dnV i j)) from ⟨?_, acc.toList, c', ?_, ?_⟩), rfl, q _ (I1.hok.fresh (Nat.le_refl _))⟩
    · unfold dnV; rw [List.length_map, List.length_range, sizeLine_eq]; omega
    · have e : acc.toList.length = (i - j).toNat := by rw [Array.length_toList]; exact hi.1
      unfold dnV
      rw [← e]
      refine vals_of_get acc.toList _ fun k u hj => ?_
      obtain ⟨t, rfl⟩ := hi.2 k u (by rw [← hj, Array.getElem?_toList])
      exact ⟨t, rfl⟩
    · rw [Array.toArray_toList]; exact e'
section
variable {K : PySem.W.Frag} {σ : L2.St} {H : Hp} {Q : VK}
theorem r_listDn {ta : TA} (k : ta σ H fun vs H1 => LstDn vs H1 Q) : tLstDn ta σ H Q := k
theorem r_dn {i j : Int} (h : RgOk j i) (k : ∀ q H', H q = none → Ext H H' → H' q = some (.lst (dnV i j)) → Q (.ref q) H') : LstDn [V.int i, V.int j, V.int (-1)] H Q := ⟨i, j, rfl, h, fun q hq => k q _ hq (Ext.new hq) upd_same⟩
def LstRg (x y : V) (H1 : Hp) (Q : VK) : Prop := ∃ i j : Int, x = .int i ∧ y = .int j ∧ RgOk i j ∧ ∀ q, H1 q = none → Q (.ref q) (upd H1 q (.lst (rgV i j)))
theorem r_listRg2 {ta tb : TE} (k : ta σ H fun x H1 => tb σ H1 fun y H2 => LstRg x y H2 Q) : tLstRg (tRg2 ta tb) σ H Q := by
  unfold tLstRg tRg2
  unfold LstRg at k
  have e : (fun (x : V) (H1 : Hp) => tb σ H1 fun y H2 => ∃ i j : Int, x = .int i ∧ y = .int j ∧ RgOk i j ∧ ∀ q, H2 q = none → Q (.ref q) (upd H2 q (.lst (rgV i j)))) = fun (x : V) (H1 : Hp) => tb σ H1 fun y H2 => ∃ i j : Int, x = .int i ∧ y = .int j ∧ (RgOk i j ∧ ∀ q, H2 q = none → Q (.ref q) (upd H2 q (.lst (rgV i j)))) := rfl
  exact k
theorem r_rg {i j : Int} (h : RgOk i j) (k : ∀ q H', H q = none → Ext H H' → H' q = some (.lst (rgV i j)) → Q (.ref q) H') : LstRg (V.int i) (V.int j) H Q := ⟨i, j, rfl, rfl, h, fun q hq => k q _ hq (Ext.new hq) upd_same⟩
def RevL (K : PySem.W.Frag) (x : V) (H1 : Hp) (Q : VK) : Prop := ∃ a xs, x = .ref a ∧ SqL K H1 a xs ∧ ∀ p, H1 p = none → Q (.ref p) (upd H1 p (.lst xs.reverse))
theorem r_revL {te : TE} (k : te σ H fun x H1 => RevL K x H1 Q) : tRevL K te σ H Q := k
theorem r_rev {a : Addr} {xs : List V} (h : SqL K H a xs) (k : ∀ q H', H q = none → Ext H H' → H' q = some (.lst xs.reverse) → Q (.ref q) H') : RevL K (.ref a) H Q := ⟨a, xs, rfl, h, fun q hq => k q _ hq (Ext.new hq) upd_same⟩
theorem revK {X : Cx} {e : Expr} {te : TE} {k : Nat} {p1 p2 p3 pos : Pos} (he : PE X e te) (hK : X.K = K := by rfl) : PE X (.Subscript e (.Slice none none (some (.UnaryOp .USub (.Constant (.int 1) k p1) p2)) p3) pos) (tRevL K te) := hK ▸ pe_revL he
theorem r_maxL {p : Addr} {ns : List Int} {m : Int} (h : SqL K H p (ns.map V.int)) (hm : m ∈ ns) (hl : ∀ y ∈ ns, y ≤ m) (k : Q (.int m) H) : rMax K [.ref p] H Q :=
  ⟨p, ns, rfl, h, List.length_pos_of_mem hm, fun m' h1 h2 => by
    have : m' = m := Int.le_antisymm (hl _ h1) (h2 _ hm)
    rw [this]; exact k⟩
theorem r_minL {p : Addr} {ns : List Int} {m : Int} (h : SqL K H p (ns.map V.int)) (hm : m ∈ ns) (hl : ∀ y ∈ ns, m ≤ y) (k : Q (.int m) H) : rMin K [.ref p] H Q :=
  ⟨p, ns, rfl, h, List.length_pos_of_mem hm, fun m' h1 h2 => by
    have : m' = m := Int.le_antisymm (h2 _ hm) (hl _ h1)
    rw [this]; exact k⟩
theorem r_popW {l : Addr} {xs : List V} {y : V} (h : H l = some (.lst (xs ++ [y]))) (k : ∀ H', H' l = some (.lst xs) → (∀ b, b ≠ l → H' b = H b) → Q y H') : rPop (.ref l) [] H Q := r_popL h k
end
end L3
set_option maxRecDepth 100000
set_option maxHeartbeats 4000000
/-! CmK: len(set(xs)) of any ints. -/
namespace L3
open PySem PySem.Spec PyProof.Rows L2 He
/-- the ints of a list, each once, in the order they are met -/
def once (ns : List Int) : List Int := PyProof.Rows.firstMet (fun i => ns.getD i 0) ns.length
theorem met_nodup (f : Nat → Int) : ∀ n, (PyProof.Rows.firstMet f n).Nodup ∧ (∀ x, x ∈ PyProof.Rows.firstMet f n ↔ ∃ i, i < n ∧ f i = x) ∧ (PyProof.Rows.firstMet f n).length ≤ n
  | 0 => ⟨.nil, fun x => ⟨fun h => absurd h (List.not_mem_nil), fun ⟨i, h, _⟩ => absurd h (Nat.not_lt_zero _)⟩, Nat.le_refl _⟩
  | n + 1 => by
    obtain ⟨h1, h2, h3⟩ := met_nodup f n
    have es : ∀ (l : List Int) (x : Int), PyProof.Rows.step_dedup l x = if l.any (· == x) = true then l else l ++ [x] := fun _ _ => rfl
    rw [PyProof.Rows.firstMet_succ, es]
    cases hb : (PyProof.Rows.firstMet f n).any (· == f n) with
    | true =>
      rw [if_pos rfl]
      obtain ⟨y, hy, ey⟩ := List.any_eq_true.mp hb
      have ey : y = f n := eq_of_beq ey
      obtain ⟨j, hj, ej⟩ := (h2 y).mp hy
      refine ⟨h1, fun x => ⟨fun h => ?_, fun ⟨i, hi, e⟩ => ?_⟩, by omega⟩
      · obtain ⟨i, hi, e⟩ := (h2 x).mp h
        exact ⟨i, by omega, e⟩
      · by_cases c : i = n
        · rw [← e, c, ← ey]; exact hy
        · exact (h2 x).mpr ⟨i, by omega, e⟩
    | false =>
      rw [if_neg Bool.false_ne_true]
      have no : f n ∉ PyProof.Rows.firstMet f n := fun h => by
        have := List.any_eq_false.mp hb _ h
        simp at this
      refine ⟨?_, fun x => ?_, by rw [List.length_append]; show _ + 1 ≤ _; omega⟩
      · rw [List.nodup_append]
        refine ⟨h1, by simp, fun a ha b hb' e => ?_⟩
        rw [List.mem_singleton.mp hb'] at e
        exact no (e ▸ ha)
      · rw [List.mem_append, h2, List.mem_singleton]
        refine ⟨fun h => ?_, fun ⟨i, hi, e⟩ => ?_⟩
        · rcases h with ⟨i, hi, e⟩ | e
          · exact ⟨i, by omega, e⟩
          · exact ⟨n, by omega, e.symm⟩
        · by_cases c : i = n
          · exact .inr (by rw [← e, c])
          · exact .inl ⟨i, by omega, e⟩
theorem once_nodup (ns : List Int) : (once ns).Nodup := (met_nodup _ _).1
theorem once_mem {ns : List Int} {x : Int} : x ∈ once ns ↔ x ∈ ns := by
  rw [once, (met_nodup _ _).2.1]
  refine ⟨fun ⟨i, hi, e⟩ => ?_, fun h => ?_⟩
  · rw [List.getD_eq_getElem?_getD, List.getElem?_eq_getElem hi] at e
    exact e ▸ List.getElem_mem hi
  · obtain ⟨i, hi⟩ := List.mem_iff_getElem?.mp h
    refine ⟨i, (List.getElem?_eq_some_iff.mp hi).1, ?_⟩
    rw [List.getD_eq_getElem?_getD, hi]
    rfl
theorem once_le (ns : List Int) : (once ns).length ≤ ns.length := (met_nodup _ _).2.2
def LenSetS (K : PySem.W.Frag) (x : V) (H1 : Hp) (Q : VK) : Prop := ∃ (l : Addr) (ns : List Int), x = .ref l ∧ SqL K H1 l (ns.map V.int) ∧ ns.length ≤ 4000 ∧ Q (.int ((once ns).length : Nat)) H1
def tLenSetN (K : PySem.W.Frag) (ta : TE) : TE := fun σ H Q => ta σ H fun x H1 => LenSetS K x H1 Q
theorem pe_lenSetN {X : Cx} {K : PySem.W.Frag} {a : Expr} {ta : TE} {p p2 q pos : Pos} (hm : X.mg "len" = none) (hm2 : X.mg "set" = none) (ha : PE X a ta) (hc : X.calm = true := by rfl) (hg : Gl X "len" := by rfl) (hg2 : Gl X "set" := by rfl)
    (na : starEach [a] X.env = (false, eval a X.env) :: starEach [] X.env := by rfl) (hK : X.K = K := by rfl) : PE X (.Call (.Name "len" p) [.Call (.Name "set" p2) [a] [] q] [] pos) (tLenSetN K ta) := by
  subst hK
  refine ⟨fun pins s σ H Q I h => ?_⟩
  refine Call_ (ld_blt I hg hm boot_len ?_)
  refine PyProof.Rows.callWith_builtin1 (PyProof.Rows.args_cons ?_ rfl) rfl rfl
  refine Call_ (ld_blt I hg2 hm2 boot_set ?_)
  refine PyProof.Rows.callWith_type1 (PyProof.Rows.args_cons (thn (ha.run pins s σ H _ I h) fun v s1 ⟨x, H1, I1, r1, q1⟩ => PyProof.Rows.args_nil ?_) na) na rfl
  obtain ⟨l, ns, rfl, hq, hl, q1⟩ := q1
  cases r1
  obtain ⟨its, r, pl, hz⟩ := I1.list hq
  have hlen : its.toArray.size = ns.length := by rw [List.size_toArray, ← r.length, List.length_map]
  refine call_set_list (I1.ok.hd hc) pl.isList (by simpa using RZ.intsAre_vals r) (by rw [hlen]; unfold scanBound; omega) fun h' tk hS hk => ?_
  refine PyProof.Rows.args_nil ?_
  rw [hlen] at hS
  have hle := once_le ns
  obtain ⟨o, es, ep, t, ho, hex, hd, _, _, _, hf, hn⟩ := hS
  have I2 : Inv X pins σ H1 { s1 with heap := h', toks := tk } := I1.kept fun b o e => hk b o (Heap.lt_size e) e
  have hn' : es.size = (once ns).length := by rw [hn]; rfl
  exact call_len_set ho hex hd hf (by rw [hn'] <;> omega) ⟨.int ((once ns).length : Nat), H1, I2.tok _, ⟨_, by rw [hn']⟩, q1⟩
section
variable {K : PySem.W.Frag} {σ : L2.St} {H : Hp} {Q : VK}
theorem r_lenSet {te : TE} (k : te σ H fun x H1 => LenSetS K x H1 Q) : tLenSetN K te σ H Q := k
theorem r_lenSetL {l : Addr} {ns : List Int} (h : SqL K H l (ns.map V.int)) (hl : ns.length ≤ 4000) (k : Q (.int ((once ns).length : Nat)) H) : LenSetS K (.ref l) H Q := ⟨l, ns, rfl, h, hl, k⟩
end
/-- fewer once than at all: some twice -/
theorem once_lt {ns : List Int} : (once ns).length < ns.length ↔ ¬ ns.Nodup := by
  have key : ∀ (l : List Int), l.Nodup → ∀ m : List Int, (∀ x ∈ l, x ∈ m) → l.length ≤ m.length := by
    intro l
    induction l with
    | nil => intro _ m _; exact Nat.zero_le _
    | cons a l ih =>
      intro h m hm
      rw [List.nodup_cons] at h
      have ha := hm a List.mem_cons_self
      have := ih h.2 (m.erase a) (fun x hx => (List.mem_erase_of_ne (fun e => h.1 (by rw [← e]; exact hx))).mpr (hm x (List.mem_cons_of_mem _ hx)))
      rw [List.length_erase_of_mem ha] at this
      have := List.length_pos_of_mem ha
      show l.length + 1 ≤ m.length
      omega
  constructor
  · intro h hn
    have := key ns hn (once ns) fun x hx => once_mem.mpr hx
    omega
  · intro h
    refine Nat.lt_of_not_le fun hle => h ?_
    -- the list has as many as its once: no two alike
    have drop : ∀ (l : List Int), ¬ l.Nodup → ∃ m : List Int, m.length < l.length ∧ ∀ x ∈ l, x ∈ m := by
      intro l
      induction l with
      | nil => intro h; exact absurd .nil h
      | cons a l ih =>
        intro h
        by_cases c : a ∈ l
        · exact ⟨l, by simp, fun x hx => by
            rcases List.mem_cons.mp hx with rfl | hx
            · exact c
            · exact hx⟩
        · obtain ⟨m, h1, h2⟩ := ih (fun hl => h (List.nodup_cons.mpr ⟨c, hl⟩))
          exact ⟨a :: m, by simp; omega, fun x hx => by
            rcases List.mem_cons.mp hx with rfl | hx
            · exact List.mem_cons_self
            · exact List.mem_cons_of_mem _ (h2 x hx)⟩
    refine Classical.byContradiction fun hn => ?_
    obtain ⟨m, h1, h2⟩ := drop ns hn
    have := key (once ns) (once_nodup ns) m fun x hx => h2 x (once_mem.mp hx)
    omega
end L3
namespace L3
open PySem PySem.Spec PyProof.Rows L2 He
/-! ### for over a list or a tuple, whichever it is -/
def iSeq (K : PySem.W.Frag) (tl : TE) : TI := fun σ H R => iList K tl σ H R ∨ iTup K tl σ H R
theorem piS {X : Cx} {K : PySem.W.Frag} {tg l : Expr} {tl : TE} (hl : PE X l tl) (hK : X.K = K := by rfl) : PI X tg l (iSeq K tl) := by
  subst hK
  exact ⟨fun pins s σ H R I h => h.elim (fun h => (pi_list hl).run pins s σ H R I h) fun h => (pi_tup hl).run pins s σ H R I h⟩
section
variable {K : PySem.W.Frag} {σ : L2.St} {H : Hp}
/-- the turns over a list or a tuple -/
def SeqJ (K : PySem.W.Frag) (H : Hp) (a : Addr) (xs : List V) (J : It) : Prop := (J = Itl K a ∧ SqL K H a xs) ∨ (J = Itt K a ∧ SqT K H a xs)
theorem r_iSv {R : It → Hp → Prop} {i : Nat} {a : Addr} {xs : List V} (h : Seq K H a xs) (e : σ[i]? = some (some (.ref a))) (k : ∀ J, SeqJ K H a xs J → R J H) : iSeq K (tVar i) σ H R :=
  h.elim (fun h => .inl ⟨.ref a, e, a, rfl, ⟨xs, h⟩, k _ (.inl ⟨rfl, h⟩)⟩) fun h => .inr ⟨.ref a, e, a, rfl, ⟨xs, h⟩, k _ (.inr ⟨rfl, h⟩)⟩
theorem forW_seq {g : TG} {tb : TS} {nx bk ct : L2.St → Hp → Prop} {rt : VK} {J : It} {a : Addr} {xs : List V} {H0 : Hp} (hJ : SeqJ K H0 a xs J) (Pv : Nat → L2.St → Hp → Prop) (h0 : Pv 0 σ H) (he : ∀ i σ H', Pv i σ H' → Ext H0 H')
    (hs : ∀ i x σ H, xs[i]? = some x → Pv i σ H → g x σ H fun σ2 H2 => tb ⟨Pv (i + 1), rt, nx, Pv (i + 1)⟩ σ2 H2) (hd : ∀ σ H, Pv xs.length σ H → nx σ H) : ForW J g tb ⟨nx, rt, bk, ct⟩ σ H := by
  rcases hJ with ⟨rfl, h⟩ | ⟨rfl, h⟩
  · exact forW_list Pv h0 (fun i σ H' _ p => (he i σ H' p).l h) hs hd
  · exact forW_tup Pv h0 (fun i σ H' _ p => (he i σ H' p).tu h) hs hd
end
end L3
set_option maxRecDepth 100000
set_option maxHeartbeats 4000000
/-! CmL: data that lies in lists and tuples of the heap, at places of which S holds. -/
namespace L3
open PySem PySem.Spec PyProof.Rows L2 He
mutual
inductive Nw (S : Addr → Prop) (H : Hp) : V → PyData → Prop
  | non : Nw S H .non .none
  | bl (b : Bool) : Nw S H (.bl b) (.bool b)
  | int (i : Int) : Nw S H (.int i) (.int i)
  | str (s : Str) : Nw S H (.str s) (.str s)
  | lst {a : Addr} {xs : List V} {ds : List PyData} : S a → H a = some (.lst xs) → Nws S H xs ds → Nw S H (.ref a) (.list ds)
  | tup {a : Addr} {xs : List V} {ds : List PyData} : S a → H a = some (.tup xs) → Nws S H xs ds → Nw S H (.ref a) (.tuple ds)
inductive Nws (S : Addr → Prop) (H : Hp) : List V → List PyData → Prop
  | nil : Nws S H [] []
  | cons {x : V} {d : PyData} {xs : List V} {ds : List PyData} : Nw S H x d → Nws S H xs ds → Nws S H (x :: xs) (d :: ds)
end
section
variable {S S' : Addr → Prop} {H H' : Hp} {K : PySem.W.Frag}
mutual
theorem Nw.keep (h : ∀ a o, S a → H a = some o → H' a = some o ∧ S' a) : ∀ (d : PyData) {x : V}, Nw S H x d → Nw S' H' x d
  | .none, _, .non => .non
  | .bool b, _, .bl _ => .bl b
  | .int i, _, .int _ => .int i
  | .str s, _, .str _ => .str s
  | .list ds, _, .lst s e hs => .lst (h _ _ s e).2 (h _ _ s e).1 (Nws.keep h ds hs)
  | .tuple ds, _, .tup s e hs => .tup (h _ _ s e).2 (h _ _ s e).1 (Nws.keep h ds hs)
theorem Nws.keep (h : ∀ a o, S a → H a = some o → H' a = some o ∧ S' a) : ∀ (ds : List PyData) {xs : List V}, Nws S H xs ds → Nws S' H' xs ds
  | [], _, .nil => .nil
  | d :: ds, _, .cons e es => .cons (Nw.keep h d e) (Nws.keep h ds es)
end
mutual
theorem Nw.dp : ∀ (d : PyData) {x : V}, Nw S H x d → Dp K H x d
  | .none, _, .non => .non
  | .bool b, _, .bl _ => .bl b
  | .int i, _, .int _ => .int i
  | .str s, _, .str _ => .str s
  | .list ds, _, .lst _ e hs => .lst (sqL e) (Nws.dp ds hs)
  | .tuple ds, _, .tup _ e hs => .tup (sqT e) (Nws.dp ds hs)
theorem Nws.dp : ∀ (ds : List PyData) {xs : List V}, Nws S H xs ds → DpAll K H xs ds
  | [], _, .nil => .nil
  | d :: ds, _, .cons e es => .cons (Nw.dp d e) (Nws.dp ds es)
end
theorem Nws.len : ∀ {xs : List V} {ds : List PyData}, Nws S H xs ds → xs.length = ds.length
  | _, _, .nil => rfl
  | _, _, .cons _ h => by rw [List.length_cons, List.length_cons, Nws.len h]
theorem Nws.get : ∀ {xs : List V} {ds : List PyData} {i : Nat} {d : PyData}, Nws S H xs ds → ds[i]? = some d → ∃ x, xs[i]? = some x ∧ Nw S H x d
  | _, _, i, d, .nil, e => by simp at e
  | _, _, 0, d, .cons h _, e => by simp at e; subst e; exact ⟨_, rfl, h⟩
  | _, _, i + 1, d, .cons _ h, e => by
    obtain ⟨x, e1, h1⟩ := Nws.get (i := i) h (by simpa using e)
    exact ⟨x, by simpa using e1, h1⟩
theorem Nws.of : ∀ {xs : List V} {ds : List PyData}, xs.length = ds.length → (∀ (i : Nat) (x : V) (d : PyData), xs[i]? = some x → ds[i]? = some d → Nw S H x d) → Nws S H xs ds
  | [], [], _, _ => .nil
  | x :: xs, d :: ds, hl, h => .cons (h 0 x d rfl rfl) (Nws.of (by simpa using hl) fun i y e hy he => h (i + 1) y e (by simpa using hy) (by simpa using he))
theorem Nws.append : ∀ {xs ys : List V} {ds es : List PyData}, Nws S H xs ds → Nws S H ys es → Nws S H (xs ++ ys) (ds ++ es)
  | _, _, _, _, .nil, h => h
  | _, _, _, _, .cons h t, g => .cons h (Nws.append t g)
theorem nws_ints : ∀ (ns : List Int), Nws S H (ns.map V.int) (ns.map PyData.int)
  | [] => .nil
  | n :: ns => .cons (.int n) (nws_ints ns)
theorem nws_ints' {xs : List V} : ∀ {row : List Int}, Nws S H xs (row.map PyData.int) → xs = row.map V.int := by
  intro row
  induction row generalizing xs with
  | nil => intro h; cases h; rfl
  | cons a row ih =>
    intro h
    cases h with
    | cons h1 h2 =>
      cases h1
      rw [ih h2]
      rfl
/-- a list of lists of ints -/
def tbD (st : List (List Int)) : PyData := .list (st.map fun row => .list (row.map PyData.int))
structure Grid (S : Addr → Prop) (H : Hp) (t : Addr) (as : List Addr) (st : List (List Int)) : Prop where
  top : S t
  at_ : H t = some (.lst (as.map V.ref))
  len : as.length = st.length
  row : ∀ (i : Nat) (row : List Int), st[i]? = some row → ∃ a, as[i]? = some a ∧ S a ∧ H a = some (.lst (row.map V.int))
theorem Nw.grid {x : V} {st : List (List Int)} (h : Nw S H x (tbD st)) : ∃ t as, x = .ref t ∧ Grid S H t as st := by
  cases h with
  | lst s e hs =>
    rename_i t xs
    have hl := hs.len
    rw [List.length_map] at hl
    have key : ∀ (i : Nat) (row : List Int), st[i]? = some row → ∃ a, xs[i]? = some (V.ref a) ∧ S a ∧ H a = some (.lst (row.map V.int)) := fun i row hr => by
      obtain ⟨x, e1, h1⟩ := hs.get (i := i) (d := .list (row.map PyData.int)) (by rw [List.getElem?_map, hr]; rfl)
      cases h1 with
      | lst s1 e2 hs1 => exact ⟨_, e1, s1, by rw [← nws_ints' hs1]; exact e2⟩
    obtain ⟨as, ea⟩ : ∃ as : List Addr, xs = as.map V.ref := by
      refine ⟨xs.map fun x => match x with | .ref a => a | _ => t, ?_⟩
      apply List.ext_getElem?
      intro i
      rw [List.getElem?_map, List.getElem?_map]
      by_cases c : i < xs.length
      · obtain ⟨a, e1, _⟩ := key i _ (List.getElem?_eq_getElem (by omega))
        rw [e1]
        rfl
      · rw [List.getElem?_eq_none (by omega)]
        rfl
    subst ea
    rw [List.length_map] at hl
    refine ⟨t, as, rfl, s, e, hl, fun i row hr => ?_⟩
    obtain ⟨a, e1, h1⟩ := key i row hr
    rw [List.getElem?_map] at e1
    obtain ⟨b, eb, e2⟩ := Option.map_eq_some_iff.mp e1
    cases e2
    exact ⟨_, eb, h1⟩
theorem Grid.nw {t : Addr} {as : List Addr} {st : List (List Int)} (g : Grid S H t as st) : Nw S H (.ref t) (tbD st) := by
  refine .lst g.top g.at_ (.of (by rw [List.length_map, List.length_map, g.len]) fun i x d hx hd => ?_)
  rw [List.getElem?_map] at hx hd
  obtain ⟨a, ha, rfl⟩ := Option.map_eq_some_iff.mp hx
  obtain ⟨row, hr, rfl⟩ := Option.map_eq_some_iff.mp hd
  obtain ⟨b, hb, s, e⟩ := g.row i row hr
  rw [ha] at hb
  cases hb
  exact .lst s e (nws_ints row)
theorem nw_but {p : Addr} {x : V} {d : PyData} (h : Nw (· ≠ p) H x d) (b : But p H H') : Nw (· ≠ p) H' x d := h.keep (fun a o s e => ⟨b a o s e, s⟩) d
theorem nw_ext {x : V} {d : PyData} (h : Nw S H x d) (e : Ext H H') : Nw S H' x d := h.keep (fun a o s q => ⟨e a o q, s⟩) d
/-- the one object of a new tree changes: another tree stays -/
theorem nw_stay {q : Addr} {x : V} {d : PyData} (h : Nw S H x d) (hq : ∀ a, S a → a ≠ q) (n : ∀ b, b ≠ q → H' b = H b) : Nw S H' x d := h.keep (fun a o s e => ⟨(n a (hq a s)).trans e, s⟩) d
theorem small_tb {n : Nat} {st : List (List Int)} (h1 : st.length ≤ 100000) (h2 : ∀ row ∈ st, row.length ≤ 100000) : smallD (n + 3) (tbD st) :=
  small_list (by rw [List.length_map]; exact h1) fun e he => by
    obtain ⟨row, hr, rfl⟩ := List.mem_map.mp he
    exact small_ints n (h2 row hr)
end
end L3
namespace L3
open PySem PySem.Spec PyProof.Rows L2 He
theorem Grid.setTop {S : Addr → Prop} {H H' : Hp} {t a : Addr} {as : List Addr} {st : List (List Int)} {r : Nat} {row : List Int} (g : Grid S H t as st) (hr : r < st.length) (keep : ∀ b o, S b → b ≠ t → H b = some o → H' b = some o) (ht : H' t = some (.lst ((as.map V.ref).set r (.ref a)))) (ha : S a) (h : H' a = some (.lst (row.map V.int))) : Grid S H' t (as.set r a) (st.set r row) := by
  refine ⟨g.top, by rw [ht, List.map_set], by rw [List.length_set, List.length_set, g.len], fun i r' hi => ?_⟩
  by_cases c : r = i
  · subst c
    rw [List.getElem?_set_self hr] at hi
    cases hi
    exact ⟨a, List.getElem?_set_self (by rw [g.len]; exact hr), ha, h⟩
  · rw [List.getElem?_set_ne c] at hi
    obtain ⟨b, hb, sb, eb⟩ := g.row i r' hi
    refine ⟨b, by rw [List.getElem?_set_ne c]; exact hb, sb, keep b _ sb (fun e => ?_) eb⟩
    rw [e, g.at_] at eb
    have := (Option.some.inj eb)
    injection this with this
    cases as with
    | nil => simp at hb
    | cons x xs =>
      cases r' with
      | nil => simp at this
      | cons y ys => simp at this
theorem Grid.setRow {S : Addr → Prop} {H H' : Hp} {t a : Addr} {as : List Addr} {st : List (List Int)} {r : Nat} {row row' : List Int} (g : Grid S H t as st) (hr : st[r]? = some row) (ha : as[r]? = some a) (keep : ∀ b, b ≠ a → H' b = H b) (h : H' a = some (.lst (row'.map V.int))) :
    ∃ st', Grid S H' t as st' ∧ st'.length = st.length ∧ row' ∈ st' ∧ ∀ x ∈ st', x ∈ st ∨ x = row' := by
  have hlt := (List.getElem?_eq_some_iff.mp hr).1
  have at_i : ∀ i, i < st.length → ((List.range st.length).map fun i => if as[i]? = some a then row' else st.getD i [])[i]? = some (if as[i]? = some a then row' else st.getD i []) := fun i hi => by rw [List.getElem?_map, List.getElem?_range hi]; rfl
  have at_ne : t ≠ a := fun e => by
    obtain ⟨b, hb, sb, eb⟩ := g.row r row hr
    rw [ha] at hb
    cases hb
    rw [← e, g.at_] at eb
    have := (Option.some.inj eb)
    injection this with this
    cases as with
    | nil => simp at ha
    | cons x xs =>
      cases row with
      | nil => simp at this
      | cons y ys => simp at this
  refine ⟨(List.range st.length).map fun i => if as[i]? = some a then row' else st.getD i [], ⟨g.top, (keep t at_ne).trans g.at_, by rw [List.length_map, List.length_range, g.len], fun i x hi => ?_⟩, by rw [List.length_map, List.length_range], ?_, fun x hx => ?_⟩
  · have hil : i < st.length := by
      have := (List.getElem?_eq_some_iff.mp hi).1
      rwa [List.length_map, List.length_range] at this
    rw [at_i i hil] at hi
    cases hi
    obtain ⟨b, hb, sb, eb⟩ := g.row i _ (List.getElem?_eq_getElem hil)
    refine ⟨b, hb, sb, ?_⟩
    by_cases c : b = a
    · rw [if_pos (by rw [hb, c]), c]
      exact h
    · rw [if_neg (by rw [hb]; exact fun e => c (Option.some.inj e)), keep b c, eb, List.getD_eq_getElem?_getD, List.getElem?_eq_getElem hil]
      rfl
  · exact List.mem_map.mpr ⟨r, List.mem_range.mpr hlt, if_pos ha⟩
  · obtain ⟨i, hi, rfl⟩ := List.mem_map.mp hx
    rw [List.mem_range] at hi
    split
    · exact .inr rfl
    · left
      rw [List.getD_eq_getElem?_getD, List.getElem?_eq_getElem hi]
      exact List.getElem_mem hi
end L3
/-! Delannoy numbers, in plain Lean. -/
namespace Del
def D : Nat → Nat → Nat
  | 0, _ => 1
  | _ + 1, 0 => 1
  | d + 1, r + 1 => D d (r + 1) + D (d + 1) r + D d r
theorem D_0 (d : Nat) : D d 0 = 1 := by cases d <;> simp [D]
theorem D_z (r : Nat) : D 0 r = 1 := by simp [D]
theorem D_s (d r : Nat) : D (d + 1) (r + 1) = D d (r + 1) + D (d + 1) r + D d r := by rw [D]
def ch : Nat → Nat → Nat
  | _, 0 => 1
  | 0, _ + 1 => 0
  | n + 1, k + 1 => ch n k + ch n (k + 1)
theorem ch_0 (n : Nat) : ch n 0 = 1 := by cases n <;> simp [ch]
theorem ch_z (k : Nat) : ch 0 (k + 1) = 0 := by simp [ch]
theorem ch_s (n k : Nat) : ch (n + 1) (k + 1) = ch n k + ch n (k + 1) := by rw [ch]
theorem ch_big : ∀ {n k : Nat}, n < k → ch n k = 0
  | 0, k + 1, _ => ch_z k
  | n + 1, k + 1, h => by rw [ch_s, ch_big (by omega : n < k), ch_big (by omega : n < k + 1)]
theorem ch_mul : ∀ (n k : Nat), ch n (k + 1) * (k + 1) = ch n k * (n - k)
  | 0, k => by rw [ch_z]; simp
  | n + 1, 0 => by
    have h := ch_mul n 0
    rw [ch_0] at h
    rw [ch_s, ch_0, ch_0]
    simp at h ⊢
    omega
  | n + 1, k + 1 => by
    have h1 := ch_mul n k
    have h2 := ch_mul n (k + 1)
    by_cases hk : k < n
    · rw [ch_s n (k + 1), ch_s n k]
      have e1 : n + 1 - (k + 1) = n - k := by omega
      have e2 : n - k = (n - (k + 1)) + 1 := by omega
      rw [e1]
      have l : (ch n (k + 1) + ch n (k + 1 + 1)) * (k + 1 + 1) = ch n (k + 1) * (k + 1) + ch n (k + 1) + ch n (k + 1 + 1) * (k + 1 + 1) := by
        rw [Nat.add_mul, Nat.mul_succ (ch n (k + 1))]
      rw [l, h1, h2, Nat.add_mul]
      have m : ch n (k + 1) * (n - k) = ch n (k + 1) * (n - (k + 1)) + ch n (k + 1) := by rw [e2, Nat.mul_succ] <;> omega
      rw [m]
      omega
    · rw [ch_big (by omega : n + 1 < k + 1 + 1)]
      have e1 : n + 1 - (k + 1) = 0 := by omega
      rw [e1]
      simp
/-- the sum of f 0 .. f (n - 1) -/
def sm (f : Nat → Nat) : Nat → Nat
  | 0 => 0
  | n + 1 => sm f n + f n
theorem sm_add (f g : Nat → Nat) : ∀ n, sm (fun s => f s + g s) n = sm f n + sm g n
  | 0 => rfl
  | n + 1 => by show sm (fun s => f s + g s) n + (f n + g n) = sm f n + f n + (sm g n + g n); rw [sm_add f g n]; omega
theorem sm_congr {f g : Nat → Nat} : ∀ {n}, (∀ s, s < n → f s = g s) → sm f n = sm g n
  | 0, _ => rfl
  | n + 1, h => by show sm f n + f n = sm g n + g n; rw [sm_congr fun s hs => h s (by omega), h n (by omega)]
theorem sm_shift (f : Nat → Nat) : ∀ n, sm f (n + 1) = f 0 + sm (fun s => f (s + 1)) n
  | 0 => by show 0 + f 0 = f 0 + 0; omega
  | n + 1 => by
    have h := sm_shift f n
    show sm f (n + 1) + f (n + 1) = f 0 + (sm (fun s => f (s + 1)) n + f (n + 1))
    rw [h]; omega
theorem sm_zero {f : Nat → Nat} {n : Nat} : ∀ {m}, n ≤ m → (∀ s, n ≤ s → f s = 0) → sm f m = sm f n
  | 0, h, _ => by have : n = 0 := by omega
                  subst this; rfl
  | m + 1, h, z => by
    by_cases e : n = m + 1
    · rw [e]
    · show sm f m + f m = sm f n
      rw [sm_zero (by omega) z, z m (by omega)]; rfl
def tm (d r s : Nat) : Nat := ch d s * ch r s * 2 ^ s
theorem tm_big {d r s : Nat} (h : d < s ∨ r < s) : tm d r s = 0 := by
  unfold tm
  rcases h with h | h
  · rw [ch_big h]; simp
  · rw [ch_big h]; simp
theorem S_rec (d r n : Nat) (h : d < n) : sm (tm (d + 1) (r + 1)) (n + 1) = sm (tm d (r + 1)) (n + 1) + sm (tm (d + 1) r) (n + 1) + sm (tm d r) (n + 1) := by
  have e0 : ∀ a b, sm (tm a b) (n + 1) = 1 + sm (fun s => tm a b (s + 1)) n := fun a b => by
    rw [sm_shift]
    unfold tm
    rw [ch_0, ch_0]
  rw [e0, e0, e0, e0]
  have key : ∀ s, tm (d + 1) (r + 1) (s + 1) + tm d r (s + 1) + tm d r (s + 1) = tm d (r + 1) (s + 1) + tm (d + 1) r (s + 1) + tm d r (s + 1) + (tm d r s + tm d r s) := fun s => by
    unfold tm
    rw [ch_s d s, ch_s r s, Nat.pow_succ]
    generalize ch d s = a
    generalize ch d (s + 1) = b
    generalize ch r s = x
    generalize ch r (s + 1) = y
    generalize 2 ^ s = p
    have e1 : (a + b) * (x + y) * (p * 2) = a * x * (p * 2) + a * y * (p * 2) + b * x * (p * 2) + b * y * (p * 2) := by
      simp only [Nat.add_mul, Nat.mul_add]; omega
    have e2 : b * (x + y) * (p * 2) = b * x * (p * 2) + b * y * (p * 2) := by simp only [Nat.add_mul, Nat.mul_add]
    have e3 : (a + b) * y * (p * 2) = a * y * (p * 2) + b * y * (p * 2) := by simp only [Nat.add_mul, Nat.mul_add]
    have e4 : a * x * (p * 2) = a * x * p + a * x * p := by rw [← Nat.mul_assoc]; omega
    rw [e1, e2, e3, e4]
    omega
  have sums := sm_congr (n := n) fun s _ => key s
  simp only [sm_add] at sums
  have sh := sm_shift (tm d r) n
  have e1 : tm d r 0 = 1 := by unfold tm; rw [ch_0, ch_0]
  have top : sm (tm d r) (n + 1) = sm (tm d r) n := by show sm (tm d r) n + tm d r n = _; rw [tm_big (.inl h)]; rfl
  have e2 : sm (fun s => tm d r s) n = sm (tm d r) n := rfl
  rw [e1] at sh
  omega
theorem D_sum : ∀ (d r n : Nat), d ≤ n → D d r = sm (tm d r) (n + 1)
  | 0, r, n, _ => by
    rw [D_z, sm_zero (n := 1) (by omega) fun s hs => tm_big (.inl (by omega))]
    show 1 = 0 + tm 0 r 0
    unfold tm; rw [ch_0, ch_0]
  | d + 1, 0, n, _ => by
    rw [D_0, sm_zero (n := 1) (by omega) fun s hs => tm_big (.inr (by omega))]
    show 1 = 0 + tm (d + 1) 0 0
    unfold tm; rw [ch_0, ch_0]
  | d + 1, r + 1, n, h => by
    rw [D_s, S_rec d r n (by omega), D_sum d (r + 1) n (by omega), D_sum (d + 1) r n h, D_sum d r n (by omega)]
/-- as the law reckons it: up to the lesser -/
theorem D_min (d r : Nat) : D d r = sm (tm d r) (min d r + 1) := by
  rw [D_sum d r d (Nat.le_refl _)]
  exact sm_zero (by omega) fun s hs => tm_big (by omega)
theorem tm_next (d r s : Nat) : tm d r s * 2 * (d - s) * (r - s) = tm d r (s + 1) * ((s + 1) * (s + 1)) := by
  have h1 := ch_mul d s
  have h2 := ch_mul r s
  unfold tm
  rw [Nat.pow_succ]
  have l : ch d s * ch r s * 2 ^ s * 2 * (d - s) * (r - s) = (ch d s * (d - s)) * (ch r s * (r - s)) * (2 ^ s * 2) := by
    simp only [Nat.mul_assoc, Nat.mul_comm, Nat.mul_left_comm]
  have m : ch d (s + 1) * ch r (s + 1) * (2 ^ s * 2) * ((s + 1) * (s + 1)) = (ch d (s + 1) * (s + 1)) * (ch r (s + 1) * (s + 1)) * (2 ^ s * 2) := by
    simp only [Nat.mul_assoc, Nat.mul_comm, Nat.mul_left_comm]
  rw [l, m, h1, h2]
theorem D_comm : ∀ (d r : Nat), D d r = D r d
  | 0, r => by rw [D_z, D_0]
  | d + 1, 0 => by rw [D_z, D_0]
  | d + 1, r + 1 => by rw [D_s, D_s, D_comm d (r + 1), D_comm (d + 1) r, D_comm d r]; omega
theorem D_pos : ∀ (d r : Nat), 1 ≤ D d r
  | 0, r => by rw [D_z]; omega
  | d + 1, 0 => by rw [D_0]; omega
  | d + 1, r + 1 => by rw [D_s]; have := D_pos d r; omega
theorem D_mono1 (d r : Nat) : D d r ≤ D d (r + 1) := by
  cases d with
  | zero => rw [D_z, D_z]; omega
  | succ d => rw [D_s]; omega
theorem D_lt1 (d r : Nat) (h : 1 ≤ d) : D d r + 2 ≤ D d (r + 1) := by
  cases d with
  | zero => omega
  | succ d =>
    rw [D_s]
    have h1 := D_pos d r
    have h2 := D_pos d (r + 1)
    omega
theorem D_mono (d : Nat) {r r' : Nat} (h : r ≤ r') : D d r ≤ D d r' := by
  obtain ⟨k, rfl⟩ : ∃ k, r' = r + k := ⟨r' - r, by omega⟩
  clear h
  induction k with
  | zero => exact Nat.le_refl _
  | succ k ih => exact Nat.le_trans ih (D_mono1 d (r + k))
theorem D_ge (d r : Nat) (h : 1 ≤ d) : 2 * r + 1 ≤ D d r := by
  induction r with
  | zero => exact D_pos d 0
  | succ r ih => have := D_lt1 d r h; omega
/-- r is the least with n at most D d r -/
def Least (n d r : Nat) : Prop := n ≤ D d r ∧ ∀ r', r' < r → D d r' < n
theorem Least.uniq {n d r r' : Nat} (a : Least n d r) (b : Least n d r') : r = r' := by
  rcases Nat.lt_trichotomy r r' with h | h | h
  · have := b.2 r h; have := a.1; omega
  · exact h
  · have := a.2 r' h; have := b.1; omega
theorem least_le {n d r : Nat} (hd : 1 ≤ d) (a : Least n d r) : r ≤ n := by
  refine Nat.le_of_not_lt fun h => ?_
  have h1 := a.2 (r - 1) (by omega)
  have h2 := D_ge d (r - 1) hd
  omega
end Del
set_option maxHeartbeats 1000000
/-! MLay: layouts of parts, in plain numbers: a layout of chains to d and loads to r has at most D d r parts; the built one. -/
namespace Lay
open Del
/-! ### vectors of length d, their norm at most r: at most D d r of them -/
def nrm : List Int → Nat
  | [] => 0
  | x :: xs => x.natAbs + nrm xs
theorem part4 {α : Type} (cl : α → Nat) : ∀ (L : List α), (∀ x ∈ L, cl x < 4) → L.length = (L.filter fun x => cl x == 0).length + (L.filter fun x => cl x == 1).length + (L.filter fun x => cl x == 2).length + (L.filter fun x => cl x == 3).length
  | [], _ => rfl
  | x :: L, h => by
    have ih := part4 cl L fun y hy => h y (List.mem_cons_of_mem _ hy)
    have hx := h x List.mem_cons_self
    simp only [List.filter_cons, List.length_cons]
    have : cl x = 0 ∨ cl x = 1 ∨ cl x = 2 ∨ cl x = 3 := by omega
    rcases this with e | e | e | e <;> simp [e] <;> omega
theorem nd_map {α β : Type} {f : α → β} {L : List α} (hf : ∀ x ∈ L, ∀ y ∈ L, f x = f y → x = y) (h : L.Nodup) : (L.map f).Nodup := by
  induction L with
  | nil => simp
  | cons a L ih =>
    rw [List.nodup_cons] at h
    rw [List.map_cons, List.nodup_cons]
    refine ⟨fun z => ?_, ih (fun x hx y hy => hf x (List.mem_cons_of_mem _ hx) y (List.mem_cons_of_mem _ hy)) h.2⟩
    obtain ⟨b, hb, e⟩ := List.mem_map.mp z
    exact h.1 (hf a List.mem_cons_self b (List.mem_cons_of_mem _ hb) e.symm ▸ hb)
theorem nd_append {α : Type} {L M : List α} (h1 : L.Nodup) (h2 : M.Nodup) (h : ∀ x ∈ L, x ∉ M) : (L ++ M).Nodup := by
  rw [List.nodup_append]
  exact ⟨h1, h2, fun a ha b hb e => h a ha (e ▸ hb)⟩
def cls : List Int → Nat
  | [] => 0
  | x :: _ => if x = 0 then 0 else if 0 < x then 1 else if x = -1 then 3 else 2
theorem cls_cases (y : Int) (ys : List Int) : (y = 0 ∧ cls (y :: ys) = 0) ∨ (0 < y ∧ cls (y :: ys) = 1) ∨ (y = -1 ∧ cls (y :: ys) = 3) ∨ (y < -1 ∧ cls (y :: ys) = 2) := by
  have e : cls (y :: ys) = if y = 0 then 0 else if 0 < y then 1 else if y = -1 then 3 else 2 := rfl
  by_cases h1 : y = 0
  · rw [if_pos h1] at e; exact .inl ⟨h1, e⟩
  · rw [if_neg h1] at e
    by_cases h2 : 0 < y
    · rw [if_pos h2] at e; exact .inr (.inl ⟨h2, e⟩)
    · rw [if_neg h2] at e
      by_cases h3 : y = -1
      · rw [if_pos h3] at e; exact .inr (.inr (.inl ⟨h3, e⟩))
      · rw [if_neg h3] at e; exact .inr (.inr (.inr ⟨by omega, e⟩))
def up : List Int → List Int
  | [] => []
  | x :: xs => (if 0 < x then x - 1 else x + 1) :: xs
theorem ball : ∀ (d r : Nat) (L : List (List Int)), L.Nodup → (∀ x ∈ L, x.length = d ∧ nrm x ≤ r) → L.length ≤ D d r
  | 0, r, L, hn, h => by
    rw [D_z]
    match L, hn, h with
    | [], _, _ => exact Nat.zero_le _
    | [x], _, _ => exact Nat.le_refl _
    | x :: y :: L, hn, h =>
      have e1 := (h x List.mem_cons_self).1
      have e2 := (h y (List.mem_cons_of_mem _ List.mem_cons_self)).1
      rw [List.length_eq_zero_iff] at e1 e2
      subst e1 e2
      simp at hn
  | d + 1, 0, L, hn, h => by
    rw [D_0]
    have key : ∀ x ∈ L, x = List.replicate (d + 1) 0 := fun x hx => by
      obtain ⟨hl, hr⟩ := h x hx
      clear h hn hx
      have : ∀ (n : Nat) (x : List Int), x.length = n → nrm x ≤ 0 → x = List.replicate n 0 := by
        intro n
        induction n with
        | zero => intro x hx _; exact List.length_eq_zero_iff.mp hx
        | succ n ih =>
          intro x hx hr
          match x, hx, hr with
          | y :: ys, hx, hr =>
            have h1 : y.natAbs + nrm ys ≤ 0 := hr
            rw [ih ys (by simpa using hx) (by omega), show y = 0 by omega]
            rfl
      exact this _ x hl hr
    match L, hn, key with
    | [], _, _ => exact Nat.zero_le _
    | [x], _, _ => exact Nat.le_refl _
    | x :: y :: L, hn, key =>
      have e1 := key x List.mem_cons_self
      have e2 := key y (List.mem_cons_of_mem _ List.mem_cons_self)
      subst e1
      subst e2
      simp at hn
  | d + 1, r + 1, L, hn, h => by
    have c4 : ∀ x ∈ L, cls x < 4 := fun x hx => by
      cases x with
      | nil => simp [cls]
      | cons y ys => have := cls_cases y ys; omega
    have p := part4 cls L c4
    have sh : ∀ x ∈ L, ∃ y ys, x = y :: ys ∧ ys.length = d ∧ y.natAbs + nrm ys ≤ r + 1 := fun x hx => by
      obtain ⟨h1, h2⟩ := h x hx
      match x, h1, h2 with
      | y :: ys, h1, h2 => exact ⟨y, ys, rfl, by simpa using h1, h2⟩
    have inF : ∀ {k : Nat} {x : List Int}, x ∈ (L.filter fun x => cls x == k) → x ∈ L ∧ cls x = k := fun {k x} hx => by
      rw [List.mem_filter] at hx
      exact ⟨hx.1, by simpa using hx.2⟩
    have ndF : ∀ k : Nat, (L.filter fun x => cls x == k).Nodup := fun k => hn.filter _
    have of0 : ∀ {y : Int} {ys : List Int}, cls (y :: ys) = 0 → y = 0 := fun {y ys} e => by
      have := cls_cases y ys; omega
    have of1 : ∀ {y : Int} {ys : List Int}, cls (y :: ys) = 1 → 0 < y := fun {y ys} e => by
      have := cls_cases y ys; omega
    have of2 : ∀ {y : Int} {ys : List Int}, cls (y :: ys) = 2 → y < -1 := fun {y ys} e => by
      have := cls_cases y ys; omega
    have of3 : ∀ {y : Int} {ys : List Int}, cls (y :: ys) = 3 → y = -1 := fun {y ys} e => by
      have := cls_cases y ys; omega
    have tl : ∀ k : Nat, (k = 0 ∨ k = 3) → ((L.filter fun x => cls x == k).map List.tail).Nodup := fun k hk => by
      refine nd_map (fun x hx z hz e => ?_) (ndF k)
      obtain ⟨hx1, hx2⟩ := inF hx
      obtain ⟨hz1, hz2⟩ := inF hz
      obtain ⟨y, ys, rfl, _⟩ := sh x hx1
      obtain ⟨y', ys', rfl, _⟩ := sh z hz1
      have e : ys = ys' := e
      subst e
      rcases hk with rfl | rfl
      · rw [of0 hx2, of0 hz2]
      · rw [of3 hx2, of3 hz2]
    have b0 := ball d (r + 1) _ (tl 0 (.inl rfl)) (fun x hx => by
      obtain ⟨z, hz, rfl⟩ := List.mem_map.mp hx
      obtain ⟨hz1, hz2⟩ := inF hz
      obtain ⟨y, ys, rfl, h1, h2⟩ := sh z hz1
      exact ⟨h1, by show nrm ys ≤ _; omega⟩)
    have b3 := ball d r _ (tl 3 (.inr rfl)) (fun x hx => by
      obtain ⟨z, hz, rfl⟩ := List.mem_map.mp hx
      obtain ⟨hz1, hz2⟩ := inF hz
      obtain ⟨y, ys, rfl, h1, h2⟩ := sh z hz1
      have := of3 hz2
      exact ⟨h1, by show nrm ys ≤ _; omega⟩)
    have upN : ∀ k : Nat, (k = 1 ∨ k = 2) → ((L.filter fun x => cls x == k).map up).Nodup := fun k hk => by
      refine nd_map (fun x hx z hz e => ?_) (ndF k)
      obtain ⟨hx1, hx2⟩ := inF hx
      obtain ⟨hz1, hz2⟩ := inF hz
      obtain ⟨y, ys, rfl, _⟩ := sh x hx1
      obtain ⟨y', ys', rfl, _⟩ := sh z hz1
      unfold up at e
      injection e with e1 e2
      subst e2
      rcases hk with rfl | rfl
      · have a := of1 hx2; have b := of1 hz2
        rw [if_pos a, if_pos b] at e1
        rw [show y = y' by omega]
      · have a := of2 hx2; have b := of2 hz2
        rw [if_neg (by omega), if_neg (by omega)] at e1
        rw [show y = y' by omega]
    have b12 := ball (d + 1) r (((L.filter fun x => cls x == 1).map up) ++ ((L.filter fun x => cls x == 2).map up)) (nd_append (upN 1 (.inl rfl)) (upN 2 (.inr rfl)) (fun x hx hz => by
      obtain ⟨u, hu, rfl⟩ := List.mem_map.mp hx
      obtain ⟨v, hv, e⟩ := List.mem_map.mp hz
      obtain ⟨hx1, hx2⟩ := inF hu
      obtain ⟨hz1, hz2⟩ := inF hv
      obtain ⟨y, ys, rfl, _⟩ := sh u hx1
      obtain ⟨y', ys', rfl, _⟩ := sh v hz1
      unfold up at e
      injection e with e1 e2
      have a := of1 hx2; have b := of2 hz2
      rw [if_pos a, if_neg (by omega)] at e1
      omega)) (fun x hx => by
      rcases List.mem_append.mp hx with hx | hx
      · obtain ⟨z, hz, rfl⟩ := List.mem_map.mp hx
        obtain ⟨hz1, hz2⟩ := inF hz
        obtain ⟨y, ys, rfl, h1, h2⟩ := sh z hz1
        have a := of1 hz2
        have e : up (y :: ys) = (y - 1) :: ys := by show (if 0 < y then y - 1 else y + 1) :: ys = _; rw [if_pos a]
        rw [e]
        exact ⟨by simpa using h1, by show (y - 1).natAbs + nrm ys ≤ r; omega⟩
      · obtain ⟨z, hz, rfl⟩ := List.mem_map.mp hx
        obtain ⟨hz1, hz2⟩ := inF hz
        obtain ⟨y, ys, rfl, h1, h2⟩ := sh z hz1
        have a := of2 hz2
        have e : up (y :: ys) = (y + 1) :: ys := by show (if 0 < y then y - 1 else y + 1) :: ys = _; rw [if_neg (by omega)]
        rw [e]
        exact ⟨by simpa using h1, by show (y + 1).natAbs + nrm ys ≤ r; omega⟩)
    rw [List.length_append, List.length_map, List.length_map] at b12
    rw [List.length_map] at b0 b3
    rw [D_s]
    omega
/-! ### sums over stretches of whole numbers -/
def sI (f : Int → Int) (lo : Int) : Nat → Int
  | 0 => 0
  | n + 1 => sI f lo n + f (lo + n)
theorem sI_add (f : Int → Int) (lo : Int) (a : Nat) : ∀ b : Nat, sI f lo (a + b) = sI f lo a + sI f (lo + a) b
  | 0 => by simp [sI]
  | b + 1 => by
    show sI f lo (a + b) + f (lo + (a + b : Nat)) = _ + (sI f (lo + a) b + f (lo + a + b))
    rw [sI_add f lo a b, show lo + ((a + b : Nat) : Int) = lo + a + b by omega]
    omega
theorem sI_congr {f g : Int → Int} {lo : Int} : ∀ {n : Nat}, (∀ j, lo ≤ j → j < lo + n → f j = g j) → sI f lo n = sI g lo n
  | 0, _ => rfl
  | n + 1, h => by
    show sI f lo n + _ = sI g lo n + _
    rw [sI_congr (n := n) fun j h1 h2 => h j h1 (by omega), h (lo + n) (by omega) (by omega)]
theorem sI_le {f g : Int → Int} {lo : Int} : ∀ {n : Nat}, (∀ j, lo ≤ j → j < lo + n → f j ≤ g j) → sI f lo n ≤ sI g lo n
  | 0, _ => Int.le_refl _
  | n + 1, h => by
    show sI f lo n + _ ≤ sI g lo n + _
    have h1 := sI_le (n := n) fun j h1 h2 => h j h1 (by omega)
    have h2 := h (lo + n) (by omega) (by omega)
    omega
theorem sI_plus (f g : Int → Int) (lo : Int) : ∀ n : Nat, sI (fun j => f j + g j) lo n = sI f lo n + sI g lo n
  | 0 => rfl
  | n + 1 => by
    show sI (fun j => f j + g j) lo n + (f (lo + n) + g (lo + n)) = sI f lo n + f (lo + n) + (sI g lo n + g (lo + n))
    rw [sI_plus f g lo n]
    omega
theorem sI_zero {lo : Int} : ∀ n : Nat, sI (fun _ => 0) lo n = 0
  | 0 => rfl
  | n + 1 => by show sI _ lo n + 0 = 0; rw [sI_zero n]; rfl
theorem sI_abs (f : Int → Int) (lo : Int) : ∀ n : Nat, ((sI f lo n).natAbs : Int) ≤ sI (fun j => (f j).natAbs) lo n
  | 0 => by show ((0 : Int).natAbs : Int) ≤ 0; decide
  | n + 1 => by
    have h := sI_abs f lo n
    show ((sI f lo n + f (lo + n)).natAbs : Int) ≤ sI (fun j => (f j).natAbs) lo n + ((f (lo + n)).natAbs : Int)
    omega
/-- j's way to its parent covers the part p -/
def cov (par : Int → Int) (p j : Int) : Int := if (par j ≤ p ∧ p < j) ∨ (j ≤ p ∧ p < par j) then 1 else 0
/-- the same, with its side -/
def cs (par : Int → Int) (p j : Int) : Int := if par j ≤ p ∧ p < j then 1 else if j ≤ p ∧ p < par j then -1 else 0
theorem cs_step (par : Int → Int) (p j : Int) (h : par j ≠ j) : cs par (p + 1) j = cs par p j + (if par j = p + 1 then 1 else 0) - (if j = p + 1 then 1 else 0) := by
  unfold cs
  generalize par j = q at *
  by_cases a : q ≤ p ∧ p < j
  · rw [if_pos a, if_neg (show ¬ q = p + 1 by omega)]
    by_cases b : j = p + 1
    · rw [if_neg (by omega), if_neg (by omega), if_pos b]; rfl
    · rw [if_pos (by omega), if_neg b]; rfl
  · rw [if_neg a]
    by_cases c : j ≤ p ∧ p < q
    · rw [if_pos c, if_neg (show ¬ j = p + 1 by omega), if_neg (by omega)]
      by_cases b : q = p + 1
      · rw [if_neg (by omega), if_pos b]; rfl
      · rw [if_pos (by omega), if_neg b]; rfl
    · rw [if_neg c]
      by_cases b : q = p + 1
      · rw [if_pos b, if_neg (show ¬ j = p + 1 by omega)]
        by_cases e : p + 1 < j
        · rw [if_pos (by omega)]; rfl
        · exact absurd b (by omega)
      · rw [if_neg b]
        by_cases e : j = p + 1
        · rw [if_pos e, if_neg (by omega)]
          by_cases f : p + 1 < q
          · rw [if_pos (by omega)]; rfl
          · omega
        · rw [if_neg e, if_neg (by omega), if_neg (by omega)]; rfl
theorem cs_abs (par : Int → Int) (p j : Int) : ((cs par p j).natAbs : Int) = cov par p j := by
  unfold cs cov
  split <;> split <;> (try split) <;> (try omega)
/-- one coordinate of a part -/
def co (par : Int → Int) (lev : Int → Nat) (n : Nat) (l : Nat) (p : Int) : Int := sI (fun j => if lev j = l then cs par p j else 0) 1 (n - 1)
structure Tree (par : Int → Int) (lev : Int → Nat) (n d : Nat) : Prop where
  lo : ∀ j : Int, 1 ≤ j → j < n → 1 ≤ lev j ∧ lev j ≤ d
  up : ∀ j : Int, 1 ≤ j → j < n → lev j = lev (par j) + 1
theorem Tree.ne {par : Int → Int} {lev : Int → Nat} {n d : Nat} (T : Tree par lev n d) {j : Int} (h1 : 1 ≤ j) (h2 : j < n) : par j ≠ j := fun e => by
  have := T.up j h1 h2
  rw [e] at this
  omega
theorem co_step {par : Int → Int} {lev : Int → Nat} {n d : Nat} (T : Tree par lev n d) (l : Nat) (p : Int) (h : lev (p + 1) ≥ l) (hp : 0 ≤ p) (hpn : p + 1 < n) : co par lev n l (p + 1) = co par lev n l p - (if lev (p + 1) = l then 1 else 0) := by
  unfold co
  have e : sI (fun j => if lev j = l then cs par (p + 1) j else 0) 1 (n - 1) = sI (fun j => (if lev j = l then cs par p j else 0) + (if j = p + 1 then (if lev (p + 1) = l then -1 else 0) else 0)) 1 (n - 1) := by
    refine sI_congr fun j h1 h2 => ?_
    have h2' : j < n := by omega
    by_cases hl : lev j = l
    · have np : par j ≠ p + 1 := fun e => by
        have := T.up j h1 h2'
        rw [e] at this
        omega
      rw [if_pos hl, if_pos hl, cs_step par p j (T.ne h1 h2'), if_neg np]
      by_cases ej : j = p + 1
      · rw [if_pos ej, if_pos ej, ← ej, if_pos hl]; omega
      · rw [if_neg ej, if_neg ej]; omega
    · rw [if_neg hl, if_neg hl]
      by_cases ej : j = p + 1
      · rw [if_pos ej, ← ej, if_neg hl]; rfl
      · rw [if_neg ej]; rfl
  rw [e, sI_plus]
  have one : ∀ (c : Int) (lo : Int) (m : Nat), lo ≤ p + 1 → p + 1 < lo + m → sI (fun j => if j = p + 1 then c else 0) lo m = c := by
    intro c lo m h1 h2
    induction m with
    | zero => omega
    | succ m ih =>
      show sI _ lo m + (if lo + (m : Int) = p + 1 then c else 0) = c
      by_cases e : lo + (m : Int) = p + 1
      · rw [if_pos e]
        have z : sI (fun j => if j = p + 1 then c else 0) lo m = sI (fun _ => 0) lo m := sI_congr fun j h1 h2 => by rw [if_neg (by omega)]
        rw [z, sI_zero]
        omega
      · rw [if_neg e, ih (by omega)]
        omega
  rw [one _ _ _ (by omega) (by omega)]
  by_cases hl : lev (p + 1) = l
  · rw [if_pos hl, if_pos hl]; omega
  · rw [if_neg hl, if_neg hl]; omega
/-- between two parts some coordinate falls -/
theorem co_fall {par : Int → Int} {lev : Int → Nat} {n d : Nat} (T : Tree par lev n d) (p : Nat) : ∀ (k : Nat), p + k + 1 < n → ∃ v : Nat, p < v ∧ v ≤ p + k + 1 ∧ (∀ v' : Nat, p < v' → v' ≤ p + k + 1 → lev v ≤ lev v') ∧
    co par lev n (lev v) ((p + k + 1 : Nat) : Int) < co par lev n (lev v) (p : Int) := by
  -- the least level
  have least : ∀ (k : Nat), ∃ v : Nat, p < v ∧ v ≤ p + k + 1 ∧ ∀ v' : Nat, p < v' → v' ≤ p + k + 1 → lev v ≤ lev v' := by
    intro k
    induction k with
    | zero => exact ⟨p + 1, by omega, by omega, fun v' h1 h2 => by rw [show v' = p + 1 by omega]; exact Nat.le_refl _⟩
    | succ k ih =>
      obtain ⟨v, h1, h2, h3⟩ := ih
      by_cases c : lev ((p + (k + 1) + 1 : Nat) : Int) < lev v
      · refine ⟨p + (k + 1) + 1, by omega, by omega, fun v' a b => ?_⟩
        by_cases e : v' = p + (k + 1) + 1
        · rw [e]; exact Nat.le_refl _
        · have := h3 v' a (by omega); omega
      · refine ⟨v, h1, by omega, fun v' a b => ?_⟩
        by_cases e : v' = p + (k + 1) + 1
        · rw [e]; omega
        · exact h3 v' a (by omega)
  intro k hk
  obtain ⟨v, h1, h2, h3⟩ := least k
  refine ⟨v, h1, h2, h3, ?_⟩
  have walk : ∀ m : Nat, p + m ≤ p + k + 1 → co par lev n (lev v) ((p + m : Nat) : Int) ≤ co par lev n (lev v) (p : Int) ∧ (v ≤ p + m → co par lev n (lev v) ((p + m : Nat) : Int) < co par lev n (lev v) (p : Int)) := by
    intro m
    induction m with
    | zero => intro _; exact ⟨Int.le_refl _, fun z => by omega⟩
    | succ m ih =>
      intro hm
      obtain ⟨i1, i2⟩ := ih (by omega)
      have e : ((p + (m + 1) : Nat) : Int) = ((p + m : Nat) : Int) + 1 := by omega
      have lv := h3 (p + (m + 1)) (by omega) (by omega)
      have st := co_step T (lev v) ((p + m : Nat) : Int) (by rw [← e]; exact lv) (by omega) (by omega)
      rw [e]
      refine ⟨?_, fun z => ?_⟩
      · rw [st]; split <;> omega
      · by_cases ev : v = p + (m + 1)
        · rw [st, ← e, ← ev, if_pos rfl]
          omega
        · have := i2 (by omega)
          rw [st]; split <;> omega
  exact (walk (k + 1) (by omega)).2 (by omega)
def vec (par : Int → Int) (lev : Int → Nat) (n d : Nat) (p : Nat) : List Int := (List.range d).map fun l => co par lev n (l + 1) p
theorem nrm_append : ∀ (a b : List Int), nrm (a ++ b) = nrm a + nrm b
  | [], b => by simp [nrm]
  | x :: a, b => by
    show x.natAbs + nrm (a ++ b) = x.natAbs + nrm a + nrm b
    rw [nrm_append a b]; omega
theorem vec_nrm {par : Int → Int} {lev : Int → Nat} {n : Nat} (p : Nat) : ∀ d : Nat, ((nrm (vec par lev n d p) : Nat) : Int) ≤ sI (fun j => if 1 ≤ lev j ∧ lev j ≤ d then cov par p j else 0) 1 (n - 1)
  | 0 => by
    have : sI (fun j => if 1 ≤ lev j ∧ lev j ≤ 0 then cov par p j else 0) 1 (n - 1) = sI (fun _ => 0) 1 (n - 1) := sI_congr fun j _ _ => by rw [if_neg (by omega)]
    rw [this, sI_zero]
    exact Int.le_refl _
  | d + 1 => by
    have ih := vec_nrm (par := par) (lev := lev) (n := n) p d
    have e : vec par lev n (d + 1) p = vec par lev n d p ++ [co par lev n (d + 1) p] := by unfold vec; rw [List.range_succ, List.map_append]; rfl
    have h1 := sI_abs (fun j => if lev j = d + 1 then cs par p j else 0) 1 (n - 1)
    have h2 : sI (fun j => (((if lev j = d + 1 then cs par p j else 0).natAbs : Nat) : Int)) 1 (n - 1) = sI (fun j => if lev j = d + 1 then cov par p j else 0) 1 (n - 1) := sI_congr fun j _ _ => by
      split
      · exact cs_abs par p j
      · rfl
    have h3 : sI (fun j => if 1 ≤ lev j ∧ lev j ≤ d + 1 then cov par p j else 0) 1 (n - 1) = sI (fun j => (if 1 ≤ lev j ∧ lev j ≤ d then cov par p j else 0) + (if lev j = d + 1 then cov par p j else 0)) 1 (n - 1) := sI_congr fun j _ _ => by
      by_cases a : lev j = d + 1
      · rw [if_pos (by omega), if_neg (by omega), if_pos a]; omega
      · by_cases b : 1 ≤ lev j ∧ lev j ≤ d
        · rw [if_pos (by omega), if_pos b, if_neg a]; omega
        · rw [if_neg (by omega), if_neg b, if_neg a]; rfl
    rw [e, nrm_append, h3, sI_plus, ← h2]
    have h4 : nrm [co par lev n (d + 1) p] = (co par lev n (d + 1) p).natAbs := by simp [nrm]
    rw [h4]
    unfold co
    unfold co at *
    omega
/-- chains to d, loads to r: at most D d r parts -/
theorem most {par : Int → Int} {lev : Int → Nat} {n d r : Nat} (T : Tree par lev n d) (h : ∀ p : Nat, p < n → sI (cov par p) 1 (n - 1) ≤ r) : n ≤ D d r := by
  have key := ball d r ((List.range n).map (vec par lev n d)) (nd_map (fun x hx y hy e => ?_) List.nodup_range) (fun v hv => ?_)
  · rwa [List.length_map, List.length_range] at key
  · rw [List.mem_range] at hx hy
    have no : ∀ x y : Nat, x < y → y < n → vec par lev n d x = vec par lev n d y → False := fun x y hxy hy e => by
      obtain ⟨k, rfl⟩ : ∃ k, y = x + k + 1 := ⟨y - x - 1, by omega⟩
      obtain ⟨v, h1, h2, h3, h4⟩ := co_fall T x k hy
      have lv := T.lo v (by omega) (by omega)
      have e1 := congrArg (fun l => l[lev v - 1]?) e
      unfold vec at e1
      rw [List.getElem?_map, List.getElem?_map, List.getElem?_range (by omega)] at e1
      have e2 : co par lev n (lev v - 1 + 1) x = co par lev n (lev v - 1 + 1) ((x + k + 1 : Nat) : Int) := Option.some.inj e1
      rw [show lev v - 1 + 1 = lev v by omega] at e2
      omega
    rcases Nat.lt_trichotomy x y with c | c | c
    · exact (no x y c hy e).elim
    · exact c
    · exact (no y x c hx e.symm).elim
  · obtain ⟨p, hp, rfl⟩ := List.mem_map.mp hv
    rw [List.mem_range] at hp
    refine ⟨by unfold vec; rw [List.length_map, List.length_range], ?_⟩
    have h1 := vec_nrm (par := par) (lev := lev) (n := n) p d
    have h2 : sI (fun j => if 1 ≤ lev j ∧ lev j ≤ d then cov par p j else 0) 1 (n - 1) = sI (cov par p) 1 (n - 1) := sI_congr fun j a b => by rw [if_pos (T.lo j a (by omega))]
    have h3 := h p hp
    omega
end Lay
set_option maxHeartbeats 1000000
/-! MLay2: the built layout: as many parts as D d r, chains to d, loads to r. -/
namespace Lay
open Del
def hh (d r : Nat) : Nat := (D d r - 1) / 2
theorem D_odd : ∀ (d r : Nat), D d r % 2 = 1
  | 0, r => by rw [D_z]
  | d + 1, 0 => by rw [D_0]
  | d + 1, r + 1 => by rw [D_s]; have := D_odd d (r + 1); have := D_odd (d + 1) r; have := D_odd d r; omega
theorem hh_eq (d r : Nat) : D d r = 2 * hh d r + 1 := by have := D_odd d r; unfold hh; omega
theorem hh_z (r : Nat) : hh 0 r = 0 := by unfold hh; rw [D_z]
theorem hh_0 (d : Nat) : hh d 0 = 0 := by unfold hh; rw [D_0]
theorem hh_s (d r : Nat) : hh (d + 1) (r + 1) = hh d (r + 1) + hh (d + 1) r + hh d r + 1 := by
  have a := hh_eq (d + 1) (r + 1); have b := hh_eq d (r + 1); have c := hh_eq (d + 1) r; have e := hh_eq d r
  rw [D_s] at a
  omega
/-! m joints in a row from a root: the one that is hung on it, the joints this side of it -/
def sAt (d r m : Nat) : Nat := m - 1 - min (m - 1) (hh (d - 1) r)
def sNr (d r m : Nat) : Nat := min (sAt d r m) (hh d (r - 1))
theorem split {d r m : Nat} (hm : 1 ≤ m) (h : m ≤ hh d r) : 1 ≤ d ∧ 1 ≤ r ∧ sAt d r m < m ∧ sNr d r m ≤ sAt d r m ∧ sNr d r m ≤ hh d (r - 1) ∧ sAt d r m - sNr d r m ≤ hh (d - 1) (r - 1) ∧ m - 1 - sAt d r m ≤ hh (d - 1) r := by
  cases d with
  | zero => rw [hh_z] at h; omega
  | succ d =>
    cases r with
    | zero => rw [hh_0] at h; omega
    | succ r =>
      rw [hh_s] at h
      unfold sNr sAt
      simp only [Nat.add_sub_cancel]
      omega
/-- j is one of m joints in a row from the root, towards s -/
def In (root s : Int) (m : Nat) (j : Int) : Prop := (s = 1 ∧ root + 1 ≤ j ∧ j ≤ root + m) ∨ (s = -1 ∧ root - m ≤ j ∧ j ≤ root - 1)
def Fits (par : Int → Int) (lev : Int → Nat) : Nat → Nat → Nat → Int → Int → Nat → Nat → Prop
  | 0, _, _, _, _, m, _ => m = 0
  | f + 1, d, r, root, s, m, lv => m = 0 ∨ (par (root + s * (sAt d r m + 1 : Nat)) = root ∧ lev (root + s * (sAt d r m + 1 : Nat)) = lv + 1 ∧ Fits par lev f d (r - 1) root s (sNr d r m) lv ∧
      Fits par lev f (d - 1) (r - 1) (root + s * (sAt d r m + 1 : Nat)) (-s) (sAt d r m - sNr d r m) (lv + 1) ∧ Fits par lev f (d - 1) r (root + s * (sAt d r m + 1 : Nat)) s (m - 1 - sAt d r m) (lv + 1))
theorem sub_in {root s : Int} {m a n : Nat} (hs : s = 1 ∨ s = -1) (ha : a < m) (hn : n ≤ a) : In root s m (root + s * (a + 1 : Nat)) ∧ (∀ j, In root s n j → In root s m j ∧ j ≠ root + s * (a + 1 : Nat) ∧ ¬ In (root + s * (a + 1 : Nat)) (-s) (a - n) j ∧ ¬ In (root + s * (a + 1 : Nat)) s (m - 1 - a) j) ∧
    (∀ j, In (root + s * (a + 1 : Nat)) (-s) (a - n) j → In root s m j ∧ j ≠ root + s * (a + 1 : Nat) ∧ ¬ In (root + s * (a + 1 : Nat)) s (m - 1 - a) j) ∧ (∀ j, In (root + s * (a + 1 : Nat)) s (m - 1 - a) j → In root s m j ∧ j ≠ root + s * (a + 1 : Nat)) := by
  rcases hs with rfl | rfl
  · rw [show root + 1 * ((a + 1 : Nat) : Int) = root + a + 1 by omega]
    unfold In
    refine ⟨by omega, fun j h => ?_, fun j h => ?_, fun j h => ?_⟩ <;> refine ⟨by omega, ?_⟩
    · refine ⟨by omega, by omega, by omega⟩
    · refine ⟨by omega, by omega⟩
    · omega
  · rw [show root + -1 * ((a + 1 : Nat) : Int) = root - a - 1 by omega]
    unfold In
    refine ⟨by omega, fun j h => ?_, fun j h => ?_, fun j h => ?_⟩ <;> refine ⟨by omega, ?_⟩
    · refine ⟨by omega, by omega, by omega⟩
    · refine ⟨by omega, by omega⟩
    · omega
theorem neg_s {s : Int} (hs : s = 1 ∨ s = -1) : -s = 1 ∨ -s = -1 := by omega
theorem fits_congr {par par' : Int → Int} {lev lev' : Int → Nat} : ∀ (f d r : Nat) (root s : Int) (m lv : Nat), (s = 1 ∨ s = -1) → (∀ j, In root s m j → par' j = par j ∧ lev' j = lev j) → Fits par lev f d r root s m lv → Fits par' lev' f d r root s m lv
  | 0, _, _, _, _, _, _, _, _, h => h
  | f + 1, d, r, root, s, m, lv, hs, e, h => by
    rcases h with h | ⟨h1, h2, h3, h4, h5⟩
    · exact .inl h
    · by_cases m0 : m = 0
      · exact .inl m0
      have ha : sAt d r m < m := by unfold sAt; omega
      have hn : sNr d r m ≤ sAt d r m := by unfold sNr; omega
      obtain ⟨i0, i1, i2, i3⟩ := sub_in (root := root) hs ha hn
      refine .inr ⟨(e _ i0).1.trans h1, (e _ i0).2.trans h2, fits_congr f _ _ _ _ _ _ hs (fun j hj => e j (i1 j hj).1) h3, fits_congr f _ _ _ _ _ _ (neg_s hs) (fun j hj => e j (i2 j hj).1) h4, fits_congr f _ _ _ _ _ _ hs (fun j hj => e j (i3 j hj).1) h5⟩
open Classical in
theorem fits_ex : ∀ (f d r : Nat) (root s : Int) (m lv : Nat), (s = 1 ∨ s = -1) → m ≤ f → ∃ (par : Int → Int) (lev : Int → Nat), Fits par lev f d r root s m lv
  | 0, _, _, _, _, m, _, _, h => ⟨fun _ => 0, fun _ => 0, by show m = 0; omega⟩
  | f + 1, d, r, root, s, m, lv, hs, h => by
    by_cases m0 : m = 0
    · exact ⟨fun _ => 0, fun _ => 0, .inl m0⟩
    have ha : sAt d r m < m := by unfold sAt; omega
    have hn : sNr d r m ≤ sAt d r m := by unfold sNr; omega
    obtain ⟨i0, i1, i2, i3⟩ := sub_in (root := root) hs ha hn
    obtain ⟨pA, lA, A⟩ := fits_ex f d (r - 1) root s (sNr d r m) lv hs (by omega)
    obtain ⟨pB, lB, B⟩ := fits_ex f (d - 1) (r - 1) (root + s * (sAt d r m + 1 : Nat)) (-s) (sAt d r m - sNr d r m) (lv + 1) (neg_s hs) (by omega)
    obtain ⟨pC, lC, C⟩ := fits_ex f (d - 1) r (root + s * (sAt d r m + 1 : Nat)) s (m - 1 - sAt d r m) (lv + 1) hs (by omega)
    generalize ht : root + s * (sAt d r m + 1 : Nat) = top at *
    refine ⟨fun j => if j = top then root else if In top s (m - 1 - sAt d r m) j then pC j else if In top (-s) (sAt d r m - sNr d r m) j then pB j else pA j,
      fun j => if j = top then lv + 1 else if In top s (m - 1 - sAt d r m) j then lC j else if In top (-s) (sAt d r m - sNr d r m) j then lB j else lA j, .inr ?_⟩
    rw [ht]
    refine ⟨if_pos rfl, if_pos rfl, fits_congr f _ _ _ _ _ _ hs (fun j hj => ?_) A, fits_congr f _ _ _ _ _ _ (neg_s hs) (fun j hj => ?_) B, fits_congr f _ _ _ _ _ _ hs (fun j hj => ?_) C⟩
    · obtain ⟨_, a, b, c⟩ := i1 j hj
      exact ⟨by rw [if_neg a, if_neg c, if_neg b], by rw [if_neg a, if_neg c, if_neg b]⟩
    · obtain ⟨_, a, c⟩ := i2 j hj
      exact ⟨by rw [if_neg a, if_neg c, if_pos hj], by rw [if_neg a, if_neg c, if_pos hj]⟩
    · obtain ⟨_, a⟩ := i3 j hj
      exact ⟨by rw [if_neg a, if_pos hj], by rw [if_neg a, if_pos hj]⟩
theorem fits_tree {par : Int → Int} {lev : Int → Nat} : ∀ (f d r : Nat) (root s : Int) (m lv : Nat), (s = 1 ∨ s = -1) → m ≤ hh d r → Fits par lev f d r root s m lv → ∀ j, In root s m j →
    lv + 1 ≤ lev j ∧ lev j ≤ lv + d ∧ ((par j = root ∧ lev j = lv + 1) ∨ (In root s m (par j) ∧ lev j = lev (par j) + 1))
  | 0, _, _, _, _, m, _, _, _, h => fun j hj => by
    have h : m = 0 := h
    unfold In at hj
    omega
  | f + 1, d, r, root, s, m, lv, hs, hz, h => fun j hj => by
    by_cases m0 : m = 0
    · unfold In at hj
      omega
    rcases h with h | ⟨h1, h2, h3, h4, h5⟩
    · exact absurd h m0
    obtain ⟨d1, r1, ha, hn, z1, z2, z3⟩ := split (by omega) hz
    obtain ⟨i0, i1, i2, i3⟩ := sub_in (root := root) hs ha hn
    have A := fits_tree f _ _ _ _ _ _ hs z1 h3 j
    have B := fits_tree f _ _ _ _ _ _ (neg_s hs) z2 h4 j
    have C := fits_tree f _ _ _ _ _ _ hs z3 h5 j
    by_cases ct : j = root + s * (sAt d r m + 1 : Nat)
    · subst ct
      exact ⟨by omega, by omega, .inl ⟨h1, h2⟩⟩
    by_cases cA : In root s (sNr d r m) j
    · obtain ⟨a1, a2, a3⟩ := A cA
      refine ⟨a1, a2, a3.imp id fun ⟨a4, a5⟩ => ⟨(i1 _ a4).1, a5⟩⟩
    by_cases cB : In (root + s * (sAt d r m + 1 : Nat)) (-s) (sAt d r m - sNr d r m) j
    · obtain ⟨a1, a2, a3⟩ := B cB
      refine ⟨by omega, by omega, .inr ?_⟩
      rcases a3 with ⟨a4, a5⟩ | ⟨a4, a5⟩
      · rw [a4]; exact ⟨i0, by omega⟩
      · exact ⟨(i2 _ a4).1, a5⟩
    have cC : In (root + s * (sAt d r m + 1 : Nat)) s (m - 1 - sAt d r m) j := by
      generalize sAt d r m = a at *
      generalize sNr d r m = b at *
      rcases hs with rfl | rfl
      · rw [show root + 1 * ((a + 1 : Nat) : Int) = root + a + 1 by omega] at ct cB ⊢
        unfold In at *
        omega
      · rw [show root + -1 * ((a + 1 : Nat) : Int) = root - a - 1 by omega] at ct cB ⊢
        unfold In at *
        omega
    obtain ⟨a1, a2, a3⟩ := C cC
    refine ⟨by omega, by omega, .inr ?_⟩
    rcases a3 with ⟨a4, a5⟩ | ⟨a4, a5⟩
    · rw [a4]; exact ⟨i0, by omega⟩
    · exact ⟨(i3 _ a4).1, a5⟩
theorem fits_load {par : Int → Int} {lev : Int → Nat} (p : Int) : ∀ (f d r : Nat) (root s : Int) (m lv : Nat), m ≤ hh d r → Fits par lev f d r root s m lv →
    (s = 1 → sI (cov par p) (root + 1) m ≤ if root ≤ p ∧ p < root + m then r else 0) ∧ (s = -1 → sI (cov par p) (root - m) m ≤ if root - m ≤ p ∧ p < root then r else 0)
  | 0, _, r, root, _, m, _, _, h => by
    have h : m = 0 := h
    subst h
    refine ⟨fun _ => ?_, fun _ => ?_⟩ <;> (show (0 : Int) ≤ _; split <;> omega)
  | f + 1, d, r, root, s, m, lv, hz, h => by
    by_cases m0 : m = 0
    · subst m0
      refine ⟨fun _ => ?_, fun _ => ?_⟩ <;> (show (0 : Int) ≤ _; split <;> omega)
    rcases h with h | ⟨h1, h2, h3, h4, h5⟩
    · exact absurd h m0
    obtain ⟨d1, r1, ha, hn, z1, z2, z3⟩ := split (by omega) hz
    have A := fits_load p f _ _ _ _ _ _ z1 h3
    have B := fits_load p f _ _ _ _ _ _ z2 h4
    have C := fits_load p f _ _ _ _ _ _ z3 h5
    generalize sAt d r m = a at *
    generalize sNr d r m = b at *
    refine ⟨fun e => ?_, fun e => ?_⟩
    · subst e
      have et : root + 1 * ((a + 1 : Nat) : Int) = root + a + 1 := by omega
      rw [et] at h1 B C
      have A := A.1 rfl
      have B := B.2 rfl
      have C := C.1 rfl
      have em : m = b + ((a - b) + (1 + (m - 1 - a))) := by omega
      have l1 : sI (cov par p) (root + 1) m = sI (cov par p) (root + 1) b + (sI (cov par p) (root + 1 + b) (a - b) + (sI (cov par p) (root + 1 + b + ((a - b : Nat) : Int)) 1 + sI (cov par p) (root + 1 + b + ((a - b : Nat) : Int) + (1 : Nat)) (m - 1 - a))) := by
        conv => lhs; rw [em]
        rw [sI_add, sI_add, sI_add]
      have x1 : root + 1 + (b : Int) = root + a + 1 - ((a - b : Nat) : Int) := by omega
      have x2 : root + 1 + (b : Int) + ((a - b : Nat) : Int) = root + a + 1 := by omega
      rw [l1, x2, show root + (a : Int) + 1 + ((1 : Nat) : Int) = root + a + 1 + 1 by omega, x1]
      have lt : sI (cov par p) (root + a + 1) 1 = cov par p (root + a + 1) := by show 0 + cov par p (root + a + 1 + ((0 : Nat) : Int)) = _; rw [Int.zero_add]; congr 1; omega
      rw [lt]
      have ht : cov par p (root + a + 1) = if root ≤ p ∧ p < root + a + 1 then 1 else 0 := by
        unfold cov
        rw [h1]
        by_cases c : root ≤ p ∧ p < root + a + 1
        · rw [if_pos (.inl c), if_pos c]
        · rw [if_neg (by omega), if_neg c]
      rw [ht]
      generalize sI (cov par p) (root + 1) b = X at *
      generalize sI (cov par p) (root + a + 1 - ((a - b : Nat) : Int)) (a - b) = Y at *
      generalize sI (cov par p) (root + a + 1 + 1) (m - 1 - a) = Z at *
      by_cases c1 : root ≤ p ∧ p < root + b
      · rw [if_pos c1] at A; rw [if_neg (by omega)] at B C; rw [if_pos (by omega), if_pos (by omega)]; omega
      · rw [if_neg c1] at A
        by_cases c2 : root + a + 1 - ((a - b : Nat) : Int) ≤ p ∧ p < root + a + 1
        · rw [if_pos c2] at B; rw [if_neg (by omega)] at C; rw [if_pos (by omega), if_pos (by omega)]; omega
        · rw [if_neg c2] at B
          by_cases c3 : root + a + 1 ≤ p ∧ p < root + a + 1 + ((m - 1 - a : Nat) : Int)
          · rw [if_pos c3] at C; rw [if_neg (by omega), if_pos (by omega)]; omega
          · rw [if_neg c3] at C
            by_cases c4 : root ≤ p ∧ p < root + a + 1
            · rw [if_pos c4, if_pos (by omega)]; omega
            · rw [if_neg c4]; split <;> omega
    · subst e
      have et : root + -1 * ((a + 1 : Nat) : Int) = root - a - 1 := by omega
      rw [et] at h1 B C
      have A := A.2 rfl
      have B := B.1 rfl
      have C := C.2 rfl
      have em : m = (m - 1 - a) + (1 + ((a - b) + b)) := by omega
      have l1 : sI (cov par p) (root - m) m = sI (cov par p) (root - m) (m - 1 - a) + (sI (cov par p) (root - m + ((m - 1 - a : Nat) : Int)) 1 + (sI (cov par p) (root - m + ((m - 1 - a : Nat) : Int) + (1 : Nat)) (a - b) + sI (cov par p) (root - m + ((m - 1 - a : Nat) : Int) + (1 : Nat) + ((a - b : Nat) : Int)) b)) := by
        conv => lhs; arg 3; rw [em]
        rw [sI_add, sI_add, sI_add]
      have x1 : root - (m : Int) = root - a - 1 - ((m - 1 - a : Nat) : Int) := by omega
      have x2 : root - (m : Int) + ((m - 1 - a : Nat) : Int) = root - a - 1 := by omega
      have x3 : root - (a : Int) - 1 + ((1 : Nat) : Int) = root - a - 1 + 1 := by omega
      have x4 : root - (a : Int) - 1 + 1 + ((a - b : Nat) : Int) = root - b := by omega
      rw [l1, x2, x3, x4]
      rw [show sI (cov par p) (root - m) (m - 1 - a) = sI (cov par p) (root - a - 1 - ((m - 1 - a : Nat) : Int)) (m - 1 - a) by rw [← x1]]
      have lt : sI (cov par p) (root - a - 1) 1 = cov par p (root - a - 1) := by show 0 + cov par p (root - a - 1 + ((0 : Nat) : Int)) = _; rw [Int.zero_add]; congr 1; omega
      rw [lt]
      have ht : cov par p (root - a - 1) = if root - a - 1 ≤ p ∧ p < root then 1 else 0 := by
        unfold cov
        rw [h1]
        by_cases c : root - a - 1 ≤ p ∧ p < root
        · rw [if_pos (.inr c), if_pos c]
        · rw [if_neg (by omega), if_neg c]
      rw [ht]
      generalize sI (cov par p) (root - b) b = X at *
      generalize sI (cov par p) (root - a - 1 + 1) (a - b) = Y at *
      generalize sI (cov par p) (root - a - 1 - ((m - 1 - a : Nat) : Int)) (m - 1 - a) = Z at *
      by_cases c1 : root - b ≤ p ∧ p < root
      · rw [if_pos c1] at A; rw [if_neg (by omega)] at B C; rw [if_pos (by omega), if_pos (by omega)]; omega
      · rw [if_neg c1] at A
        by_cases c2 : root - a - 1 ≤ p ∧ p < root - a - 1 + ((a - b : Nat) : Int)
        · rw [if_pos c2] at B; rw [if_neg (by omega)] at C; rw [if_pos (by omega), if_pos (by omega)]; omega
        · rw [if_neg c2] at B
          by_cases c3 : root - a - 1 - ((m - 1 - a : Nat) : Int) ≤ p ∧ p < root - a - 1
          · rw [if_pos c3] at C; rw [if_neg (by omega), if_pos (by omega)]; omega
          · rw [if_neg c3] at C
            by_cases c4 : root - a - 1 ≤ p ∧ p < root
            · rw [if_pos c4, if_pos (by omega)]; omega
            · rw [if_neg c4]; split <;> omega
/-- the whole layout -/
structure Built (par : Int → Int) (lev : Int → Nat) (n d r : Nat) : Prop where
  l0 : lev 0 = 0
  ln : lev n = 0
  a : Fits par lev n d r 0 1 (min (n - 1) (hh d r)) 0
  b : Fits par lev n d r n (-1) (n - 1 - min (n - 1) (hh d r)) 0
theorem top_sz {n d r : Nat} (h : n ≤ D d r) : min (n - 1) (hh d r) ≤ hh d r ∧ n - 1 - min (n - 1) (hh d r) ≤ hh d r := by
  have := hh_eq d r
  omega
theorem built_ex (n d r : Nat) (hn : 1 ≤ n) : ∃ par lev, Built par lev n d r := by
  obtain ⟨pA, lA, A⟩ := fits_ex n d r 0 1 (min (n - 1) (hh d r)) 0 (.inl rfl) (by omega)
  obtain ⟨pB, lB, B⟩ := fits_ex n d r n (-1) (n - 1 - min (n - 1) (hh d r)) 0 (.inr rfl) (by omega)
  refine ⟨fun j => if j ≤ min (n - 1) (hh d r) then pA j else pB j, fun j => if j = 0 ∨ j = n then 0 else if j ≤ min (n - 1) (hh d r) then lA j else lB j, if_pos (.inl rfl), if_pos (.inr rfl), fits_congr _ _ _ _ _ _ _ (.inl rfl) (fun j hj => ?_) A, fits_congr _ _ _ _ _ _ _ (.inr rfl) (fun j hj => ?_) B⟩
  · unfold In at hj
    exact ⟨if_pos (by omega), by rw [if_neg (by omega), if_pos (by omega)]⟩
  · unfold In at hj
    exact ⟨if_neg (by omega), by rw [if_neg (by omega), if_neg (by omega)]⟩
theorem Built.step {par : Int → Int} {lev : Int → Nat} {n d r : Nat} (B : Built par lev n d r) (h : n ≤ D d r) (j : Int) (h1 : 1 ≤ j) (h2 : j < n) : 1 ≤ lev j ∧ lev j ≤ d ∧ lev j = lev (par j) + 1 ∧ 0 ≤ par j ∧ par j ≤ n := by
  obtain ⟨z1, z2⟩ := top_sz h
  by_cases c : j ≤ min (n - 1) (hh d r)
  · obtain ⟨a1, a2, a3⟩ := fits_tree _ _ _ _ _ _ _ (.inl rfl) z1 B.a j (by unfold In; omega)
    refine ⟨by omega, by omega, ?_⟩
    rcases a3 with ⟨a3, a4⟩ | ⟨a3, a4⟩
    · rw [a3, B.l0]; omega
    · unfold In at a3; omega
  · obtain ⟨a1, a2, a3⟩ := fits_tree _ _ _ _ _ _ _ (.inr rfl) z2 B.b j (by unfold In; omega)
    refine ⟨by omega, by omega, ?_⟩
    rcases a3 with ⟨a3, a4⟩ | ⟨a3, a4⟩
    · rw [a3, B.ln]; omega
    · unfold In at a3; omega
theorem Built.tree {par : Int → Int} {lev : Int → Nat} {n d r : Nat} (B : Built par lev n d r) (h : n ≤ D d r) : Tree par lev n d :=
  ⟨fun j h1 h2 => ⟨(B.step h j h1 h2).1, (B.step h j h1 h2).2.1⟩, fun j h1 h2 => (B.step h j h1 h2).2.2.1⟩
def load (par : Int → Int) (n : Nat) (p : Int) : Int := sI (cov par p) 1 (n - 1)
theorem Built.le {par : Int → Int} {lev : Int → Nat} {n d r : Nat} (B : Built par lev n d r) (h : n ≤ D d r) (hn : 1 ≤ n) (p : Int) : load par n p ≤ r := by
  obtain ⟨z1, z2⟩ := top_sz h
  have a := (fits_load p _ _ _ _ _ _ _ z1 B.a).1 rfl
  have b := (fits_load p _ _ _ _ _ _ _ z2 B.b).2 rfl
  unfold load
  have e : n - 1 = min (n - 1) (hh d r) + (n - 1 - min (n - 1) (hh d r)) := by omega
  have l : sI (cov par p) 1 (n - 1) = sI (cov par p) 1 (min (n - 1) (hh d r)) + sI (cov par p) (1 + (min (n - 1) (hh d r) : Nat)) (n - 1 - min (n - 1) (hh d r)) := by
    conv => lhs; rw [e]
    rw [sI_add]
  rw [l]
  rw [show (1 : Int) + ((min (n - 1) (hh d r) : Nat) : Int) = (n : Int) - ((n - 1 - min (n - 1) (hh d r) : Nat) : Int) by omega]
  rw [Int.zero_add] at a
  generalize min (n - 1) (hh d r) = x at *
  generalize sI (cov par p) 1 x = X at *
  generalize sI (cov par p) ((n : Int) - ((n - 1 - x : Nat) : Int)) (n - 1 - x) = Y at *
  by_cases c1 : 0 ≤ p ∧ p < 0 + (x : Int)
  · rw [if_pos (by omega)] at a; rw [if_neg (by omega)] at b; omega
  · rw [if_neg (by omega)] at a
    split at b <;> omega
/-- some part bears r -/
theorem Built.ge {par : Int → Int} {lev : Int → Nat} {n d r : Nat} (B : Built par lev n d r) (h : Least n d r) (hn : 1 ≤ n) : ∃ p : Nat, p < n ∧ load par n p = r := by
  have nn : ∀ p, 0 ≤ load par n p := fun p => by
    have : sI (fun _ => 0) 1 (n - 1) ≤ load par n p := sI_le fun j _ _ => by unfold cov; split <;> omega
    rw [sI_zero] at this
    exact this
  cases r with
  | zero => exact ⟨0, by omega, by have := B.le h.1 hn ((0 : Nat) : Int); have := nn ((0 : Nat) : Int); omega⟩
  | succ r =>
    refine Classical.byContradiction fun z => ?_
    have h1 := most (r := r) (B.tree h.1) (fun p hp => by
      have a := B.le h.1 hn p
      have b : load par n p ≠ (r + 1 : Nat) := fun e => z ⟨p, hp, e⟩
      show load par n p ≤ r
      omega)
    have h2 := h.2 r (by omega)
    omega
end Lay
set_option maxHeartbeats 1000000
/-! MCh: chains of parents in plain numbers. -/
namespace Lay
theorem nodup_len : ∀ (m : Nat) (L : List Nat), L.Nodup → (∀ x ∈ L, x < m) → L.length ≤ m
  | 0, L, _, h => by
    cases L with
    | nil => exact Nat.le_refl _
    | cons a L => exact absurd (h a List.mem_cons_self) (Nat.not_lt_zero _)
  | m + 1, L, hn, h => by
    by_cases c : m ∈ L
    · have h1 := nodup_len m (L.erase m) (hn.erase m) (fun x hx => by
        have hx' := (hn.mem_erase_iff).mp hx
        have := h x hx'.2
        omega)
      rw [List.length_erase_of_mem c] at h1
      omega
    · have h1 := nodup_len m L hn (fun x hx => by
        have := h x hx
        have : x ≠ m := fun e => c (e ▸ hx)
        omega)
      omega
/-- from j up to an end in k steps -/
inductive Ch (nx : Int → Int) (n : Nat) : Int → Nat → Prop
  | z : Ch nx n 0 0
  | n : Ch nx n n 0
  | s {j : Int} {k : Nat} : 1 ≤ j → j < n → Ch nx n (nx j) k → Ch nx n j (k + 1)
section
variable {nx : Int → Int} {n : Nat}
theorem Ch.end0 {j : Int} {k : Nat} (h : Ch nx n j k) (hj : j = 0 ∨ j = n) : k = 0 := by
  cases h with
  | z => rfl
  | n => rfl
  | s h1 h2 _ => omega
theorem Ch.step {j : Int} {k : Nat} (h : Ch nx n j k) (h1 : 1 ≤ j) (h2 : j < n) : ∃ k', k = k' + 1 ∧ Ch nx n (nx j) k' := by
  generalize e : j = i at h
  cases h with
  | z => omega
  | n => omega
  | s _ _ h => subst e; exact ⟨_, rfl, h⟩
theorem Ch.uniq : ∀ {j : Int} {k k' : Nat}, Ch nx n j k → Ch nx n j k' → k = k' := by
  intro j k k' h
  induction h generalizing k' with
  | z => intro g; exact (g.end0 (.inl rfl)).symm
  | n => intro g; exact (g.end0 (.inr rfl)).symm
  | s h1 h2 _ ih =>
    intro g
    obtain ⟨k2, e, g2⟩ := g.step h1 h2
    rw [e, ih g2]
theorem Ch.rng {j : Int} {k : Nat} (h : Ch nx n j k) : 0 ≤ j ∧ j ≤ n := by
  cases h with
  | z => omega
  | n => omega
  | s h1 h2 _ => omega
/-- joints of each length below -/
theorem Ch.down : ∀ {k : Nat} {j : Int}, Ch nx n j k → ∀ i, i ≤ k → ∃ j', Ch nx n j' i
  | 0, j, h, i, hi => ⟨j, by rw [show i = 0 by omega]; exact h⟩
  | k + 1, j, h, i, hi => by
    by_cases c : i = k + 1
    · exact ⟨j, by rw [c]; exact h⟩
    · cases h with
      | s h1 h2 g => exact Ch.down g i (by omega)
theorem Ch.lt {j : Int} {k : Nat} (h : Ch nx n j k) (hn : 1 ≤ n) : k < n := by
  refine Nat.lt_of_not_le fun c => ?_
  have key : ∀ i, ∃ x : Nat, i < n → 1 ≤ x ∧ x < n ∧ Ch nx n x (i + 1) := fun i => by
    by_cases hi : i < n
    · obtain ⟨j', g⟩ := h.down (i + 1) (by omega)
      cases g with
      | s h1 h2 g => exact ⟨j'.toNat, fun _ => ⟨by omega, by omega, by rw [Int.toNat_of_nonneg (by omega)]; exact .s h1 h2 g⟩⟩
    · exact ⟨0, fun z => absurd z hi⟩
  have nd : ((List.range n).map fun i => Classical.choose (key i) - 1).Nodup := by
    refine nd_map (fun x hx y hy e => ?_) List.nodup_range
    have a := Classical.choose_spec (key x) (List.mem_range.mp hx)
    have b := Classical.choose_spec (key y) (List.mem_range.mp hy)
    have e' : Classical.choose (key x) = Classical.choose (key y) := by omega
    rw [e'] at a
    have := a.2.2.uniq b.2.2
    omega
  have h1 := nodup_len (n - 1) _ nd (fun x hx => by
    obtain ⟨i, hi, rfl⟩ := List.mem_map.mp hx
    have a := Classical.choose_spec (key i) (List.mem_range.mp hi)
    omega)
  rw [List.length_map, List.length_range] at h1
  omega
end
open Classical in
/-- the chain's length, -1 where there is none -/
noncomputable def cl (nx : Int → Int) (n : Nat) (j : Int) : Int := if h : ∃ k, Ch nx n j k then ((Classical.choose h : Nat) : Int) else -1
section
variable {nx : Int → Int} {n : Nat}
theorem cl_of {j : Int} {k : Nat} (h : Ch nx n j k) : cl nx n j = k := by
  unfold cl
  rw [dif_pos ⟨k, h⟩]
  have := Ch.uniq (Classical.choose_spec (⟨k, h⟩ : ∃ k, Ch nx n j k)) h
  rw [this]
theorem cl_no {j : Int} (h : ¬ ∃ k, Ch nx n j k) : cl nx n j = -1 := by unfold cl; rw [dif_neg h]
theorem cl_pos {j : Int} (h : 0 ≤ cl nx n j) : Ch nx n j (cl nx n j).toNat := by
  by_cases c : ∃ k, Ch nx n j k
  · obtain ⟨k, hk⟩ := c
    rw [cl_of hk, Int.toNat_natCast]
    exact hk
  · rw [cl_no c] at h
    omega
theorem cl_ge (j : Int) : -1 ≤ cl nx n j := by
  by_cases c : ∃ k, Ch nx n j k
  · obtain ⟨k, hk⟩ := c
    rw [cl_of hk]; omega
  · rw [cl_no c]; omega
theorem cl_0 : cl nx n 0 = 0 := cl_of .z
theorem cl_n : cl nx n n = 0 := cl_of .n
theorem cl_step {j : Int} (h1 : 1 ≤ j) (h2 : j < n) : cl nx n j = if 0 ≤ cl nx n (nx j) then cl nx n (nx j) + 1 else -1 := by
  by_cases c : ∃ k, Ch nx n (nx j) k
  · obtain ⟨k, hk⟩ := c
    rw [cl_of hk, cl_of (.s h1 h2 hk), if_pos (by omega)]
    omega
  · rw [cl_no c, if_neg (by omega)]
    refine cl_no fun ⟨k, hk⟩ => ?_
    obtain ⟨k', _, g⟩ := hk.step h1 h2
    exact c ⟨k', g⟩
theorem cl_lt {j : Int} (hn : 1 ≤ n) : cl nx n j < n := by
  by_cases c : 0 ≤ cl nx n j
  · have := (cl_pos c).lt hn
    omega
  · omega
/-- a way that comes back has no end -/
theorem ring {w : Nat → Int} : ∀ (m : Nat), (∀ i, i < m → 1 ≤ w i ∧ w i < n ∧ w (i + 1) = nx (w i)) → ∀ {k : Nat}, Ch nx n (w 0) k → ∃ k', k = k' + m ∧ Ch nx n (w m) k'
  | 0, _, k, h => ⟨k, rfl, h⟩
  | m + 1, hw, k, h => by
    obtain ⟨k', e, g⟩ := ring m (fun i hi => hw i (by omega)) h
    obtain ⟨a, b, c⟩ := hw m (by omega)
    obtain ⟨k2, e2, g2⟩ := g.step a b
    exact ⟨k2, by omega, by rw [c]; exact g2⟩
theorem ring_no {w : Nat → Int} {m : Nat} (hm : 1 ≤ m) (hw : ∀ i, i < m → 1 ≤ w i ∧ w i < n ∧ w (i + 1) = nx (w i)) (e : w m = w 0) : cl nx n (w 0) = -1 := by
  refine cl_no fun ⟨k, h⟩ => ?_
  obtain ⟨k', e1, g⟩ := ring m hw h
  rw [e] at g
  have := h.uniq g
  omega
/-- all joints come to an end: a layout -/
theorem tree_of {d : Nat} (hr : ∀ j : Int, 1 ≤ j → j < n → 0 ≤ cl nx n j ∧ cl nx n j ≤ d) : Tree nx (fun j => (cl nx n j).toNat) n d := by
  refine ⟨fun j h1 h2 => ?_, fun j h1 h2 => ?_⟩
  · obtain ⟨a, b⟩ := hr j h1 h2
    have e := cl_step (nx := nx) h1 h2
    split at e <;> omega
  · obtain ⟨a, b⟩ := hr j h1 h2
    have e := cl_step (nx := nx) h1 h2
    split at e <;> omega
theorem cl_congr {nx' : Int → Int} (h : ∀ j : Int, 1 ≤ j → j < n → nx' j = nx j) : ∀ j, cl nx' n j = cl nx n j := by
  have key : ∀ {a b : Int → Int}, (∀ j : Int, 1 ≤ j → j < n → a j = b j) → ∀ {j : Int} {k : Nat}, Ch a n j k → Ch b n j k := by
    intro a b hab j k c
    induction c with
    | z => exact .z
    | n => exact .n
    | s h1 h2 _ ih => rw [hab _ h1 h2] at ih; exact .s h1 h2 ih
  intro j
  by_cases c : ∃ k, Ch nx n j k
  · obtain ⟨k, hk⟩ := c
    rw [cl_of hk, cl_of (key (fun j h1 h2 => (h j h1 h2).symm) hk)]
  · rw [cl_no c]
    refine cl_no fun ⟨k, hk⟩ => c ⟨k, key h hk⟩
end
end Lay
set_option maxRecDepth 100000
set_option maxHeartbeats 0
namespace K30
open PySem PySem.Spec PyProof.Rows L2 L3
/-! ### where the defs stand -/
def top (i : Nat) : Stmt := PySem.Challenge.pw_toldoutside_k30_steps_and_counts_of_lett.main.body.getD i (.Pass ⟨0, 0, 0, 0⟩)
abbrev s_bound : Stmt := top 20
abbrev s_check_row : Stmt := top 22
abbrev s_check_widths : Stmt := top 24
abbrev s_is_state : Stmt := top 25
abbrev s_check_states : Stmt := top 26
abbrev s_run_check : Stmt := top 27
abbrev s_letter_counts : Stmt := top 28
abbrev s_step_often : Stmt := top 29
abbrev s_act_counts : Stmt := top 30
abbrev s__law_source : Stmt := top 32
abbrev s__law_pick : Stmt := top 33
abbrev s__law_same : Stmt := top 34
abbrev s__law_copied : Stmt := top 35
abbrev s__law_fault : Stmt := top 36
abbrev s__law_run : Stmt := top 37
abbrev s__law_come : Stmt := top 38
abbrev s__law_sum : Stmt := top 39
abbrev s__law_f_asked : Stmt := top 40
abbrev s__law_f_often : Stmt := top 41
abbrev s__law_f_acted : Stmt := top 42
abbrev s__law_f_counted : Stmt := top 43
abbrev s__law_f_row : Stmt := top 44
abbrev s__law_f_table : Stmt := top 45
abbrev s__law_f_faults : Stmt := top 46
abbrev s_law : Stmt := top 47
abbrev i_TooMany : Stmt := inClass (top 2) 0
abbrev i_BadText : Stmt := inClass (top 3) 0
abbrev i_BadFormat : Stmt := inClass (top 4) 0
abbrev i_BadValue : Stmt := inClass (top 5) 0
abbrev i_BadShape : Stmt := inClass (top 6) 0
abbrev i_BadRow : Stmt := inClass (top 7) 0
abbrev i_BadSet : Stmt := inClass (top 8) 0
abbrev i_BadReader : Stmt := inClass (top 9) 0
abbrev i_BadLayout : Stmt := inClass (top 10) 0
abbrev i_BadCheck : Stmt := inClass (top 11) 0
abbrev i_BadCode : Stmt := inClass (top 12) 0
abbrev i_BadFeed : Stmt := inClass (top 13) 0
abbrev i_BadEdit : Stmt := inClass (top 14) 0
abbrev i_BadPatch : Stmt := inClass (top 15) 0
abbrev i_BadPaper : Stmt := inClass (top 16) 0
abbrev i_BadDeed : Stmt := inClass (top 17) 0
/-! ### what the head tells -/
def errs : List Str := (["TooMany", "BadText", "BadFormat", "BadValue", "BadShape", "BadRow", "BadSet", "BadReader", "BadLayout", "BadCheck", "BadCode", "BadFeed", "BadEdit", "BadPatch", "BadPaper", "BadDeed"] : List Str)
structure Txt (w : World) (K : PySem.W.Frag) (mg : Str → Option Value) : Prop where
  g_bound : mg "bound" = some (.ref (He.ga K "bound"))
  d_bound : ∃ fd, FunD K "bound" "bound" (defArgs s_bound) (defBody s_bound) (defScope s_bound) [] [] (He.ga K "bound") fd
  g_check_row : mg "check_row" = some (.ref (He.ga K "check_row"))
  d_check_row : ∃ fd, FunD K "check_row" "check_row" (defArgs s_check_row) (defBody s_check_row) (defScope s_check_row) [] [] (He.ga K "check_row") fd
  g_check_widths : mg "check_widths" = some (.ref (He.ga K "check_widths"))
  d_check_widths : ∃ fd, FunD K "check_widths" "check_widths" (defArgs s_check_widths) (defBody s_check_widths) (defScope s_check_widths) [] [] (He.ga K "check_widths") fd
  g_is_state : mg "is_state" = some (.ref (He.ga K "is_state"))
  d_is_state : ∃ fd, FunD K "is_state" "is_state" (defArgs s_is_state) (defBody s_is_state) (defScope s_is_state) [] [] (He.ga K "is_state") fd
  g_check_states : mg "check_states" = some (.ref (He.ga K "check_states"))
  d_check_states : ∃ fd, FunD K "check_states" "check_states" (defArgs s_check_states) (defBody s_check_states) (defScope s_check_states) [] [] (He.ga K "check_states") fd
  g_run_check : mg "run_check" = some (.ref (He.ga K "run_check"))
  d_run_check : ∃ fd, FunD K "run_check" "run_check" (defArgs s_run_check) (defBody s_run_check) (defScope s_run_check) [] [] (He.ga K "run_check") fd
  g_letter_counts : mg "letter_counts" = some (.ref (He.ga K "letter_counts"))
  d_letter_counts : ∃ fd, FunD K "letter_counts" "letter_counts" (defArgs s_letter_counts) (defBody s_letter_counts) (defScope s_letter_counts) [] [] (He.ga K "letter_counts") fd
  g_step_often : mg "step_often" = some (.ref (He.ga K "step_often"))
  d_step_often : ∃ fd, FunD K "step_often" "step_often" (defArgs s_step_often) (defBody s_step_often) (defScope s_step_often) [] [] (He.ga K "step_often") fd
  g_act_counts : mg "act_counts" = some (.ref (He.ga K "act_counts"))
  d_act_counts : ∃ fd, FunD K "act_counts" "act_counts" (defArgs s_act_counts) (defBody s_act_counts) (defScope s_act_counts) [] [] (He.ga K "act_counts") fd
  g__law_source : mg "_law_source" = some (.ref (He.ga K "_law_source"))
  d__law_source : ∃ fd, FunD K "_law_source" "_law_source" (defArgs s__law_source) (defBody s__law_source) (defScope s__law_source) [] [] (He.ga K "_law_source") fd
  g__law_pick : mg "_law_pick" = some (.ref (He.ga K "_law_pick"))
  d__law_pick : ∃ fd, FunD K "_law_pick" "_law_pick" (defArgs s__law_pick) (defBody s__law_pick) (defScope s__law_pick) [] [] (He.ga K "_law_pick") fd
  g__law_same : mg "_law_same" = some (.ref (He.ga K "_law_same"))
  d__law_same : ∃ fd, FunD K "_law_same" "_law_same" (defArgs s__law_same) (defBody s__law_same) (defScope s__law_same) [] [] (He.ga K "_law_same") fd
  g__law_copied : mg "_law_copied" = some (.ref (He.ga K "_law_copied"))
  d__law_copied : ∃ fd, FunD K "_law_copied" "_law_copied" (defArgs s__law_copied) (defBody s__law_copied) (defScope s__law_copied) [] [] (He.ga K "_law_copied") fd
  g__law_fault : mg "_law_fault" = some (.ref (He.ga K "_law_fault"))
  d__law_fault : ∃ fd, FunD K "_law_fault" "_law_fault" (defArgs s__law_fault) (defBody s__law_fault) (defScope s__law_fault) [] [] (He.ga K "_law_fault") fd
  g__law_run : mg "_law_run" = some (.ref (He.ga K "_law_run"))
  d__law_run : ∃ fd, FunD K "_law_run" "_law_run" (defArgs s__law_run) (defBody s__law_run) (defScope s__law_run) [] [] (He.ga K "_law_run") fd
  g__law_come : mg "_law_come" = some (.ref (He.ga K "_law_come"))
  d__law_come : ∃ fd, FunD K "_law_come" "_law_come" (defArgs s__law_come) (defBody s__law_come) (defScope s__law_come) [] [] (He.ga K "_law_come") fd
  g__law_sum : mg "_law_sum" = some (.ref (He.ga K "_law_sum"))
  d__law_sum : ∃ fd, FunD K "_law_sum" "_law_sum" (defArgs s__law_sum) (defBody s__law_sum) (defScope s__law_sum) [] [] (He.ga K "_law_sum") fd
  g__law_f_asked : mg "_law_f_asked" = some (.ref (He.ga K "_law_f_asked"))
  d__law_f_asked : ∃ fd, FunD K "_law_f_asked" "_law_f_asked" (defArgs s__law_f_asked) (defBody s__law_f_asked) (defScope s__law_f_asked) [] [] (He.ga K "_law_f_asked") fd
  g__law_f_often : mg "_law_f_often" = some (.ref (He.ga K "_law_f_often"))
  d__law_f_often : ∃ fd, FunD K "_law_f_often" "_law_f_often" (defArgs s__law_f_often) (defBody s__law_f_often) (defScope s__law_f_often) [] [] (He.ga K "_law_f_often") fd
  g__law_f_acted : mg "_law_f_acted" = some (.ref (He.ga K "_law_f_acted"))
  d__law_f_acted : ∃ fd, FunD K "_law_f_acted" "_law_f_acted" (defArgs s__law_f_acted) (defBody s__law_f_acted) (defScope s__law_f_acted) [] [] (He.ga K "_law_f_acted") fd
  g__law_f_counted : mg "_law_f_counted" = some (.ref (He.ga K "_law_f_counted"))
  d__law_f_counted : ∃ fd, FunD K "_law_f_counted" "_law_f_counted" (defArgs s__law_f_counted) (defBody s__law_f_counted) (defScope s__law_f_counted) [] [] (He.ga K "_law_f_counted") fd
  g__law_f_row : mg "_law_f_row" = some (.ref (He.ga K "_law_f_row"))
  d__law_f_row : ∃ fd, FunD K "_law_f_row" "_law_f_row" (defArgs s__law_f_row) (defBody s__law_f_row) (defScope s__law_f_row) [] [] (He.ga K "_law_f_row") fd
  g__law_f_table : mg "_law_f_table" = some (.ref (He.ga K "_law_f_table"))
  d__law_f_table : ∃ fd, FunD K "_law_f_table" "_law_f_table" (defArgs s__law_f_table) (defBody s__law_f_table) (defScope s__law_f_table) [] [] (He.ga K "_law_f_table") fd
  g__law_f_faults : mg "_law_f_faults" = some (.ref (He.ga K "_law_f_faults"))
  d__law_f_faults : ∃ fd, FunD K "_law_f_faults" "_law_f_faults" (defArgs s__law_f_faults) (defBody s__law_f_faults) (defScope s__law_f_faults) [] [] (He.ga K "_law_f_faults") fd
  g_law : mg "law" = some (.ref (He.ga K "law"))
  d_law : ∃ fd, FunD K "law" "law" (defArgs s_law) (defBody s_law) (defScope s_law) [] [] (He.ga K "law") fd
  g_TooMany : mg "TooMany" = some (.ref (He.ga K "TooMany"))
  e_TooMany : ErrC K "TooMany" (["what"] : List Str)
  d_TooMany : ∃ fd, FunD K "__init__" "TooMany.__init__" (defArgs i_TooMany) (defBody i_TooMany) (defScope i_TooMany) [] [] (He.ma K (He.ga K "TooMany") "__init__") fd
  g_BadText : mg "BadText" = some (.ref (He.ga K "BadText"))
  e_BadText : ErrC K "BadText" (["line"] : List Str)
  d_BadText : ∃ fd, FunD K "__init__" "BadText.__init__" (defArgs i_BadText) (defBody i_BadText) (defScope i_BadText) [] [] (He.ma K (He.ga K "BadText") "__init__") fd
  g_BadFormat : mg "BadFormat" = some (.ref (He.ga K "BadFormat"))
  e_BadFormat : ErrC K "BadFormat" (["line", "what"] : List Str)
  d_BadFormat : ∃ fd, FunD K "__init__" "BadFormat.__init__" (defArgs i_BadFormat) (defBody i_BadFormat) (defScope i_BadFormat) [] [] (He.ma K (He.ga K "BadFormat") "__init__") fd
  g_BadValue : mg "BadValue" = some (.ref (He.ga K "BadValue"))
  e_BadValue : ErrC K "BadValue" (["path", "what"] : List Str)
  d_BadValue : ∃ fd, FunD K "__init__" "BadValue.__init__" (defArgs i_BadValue) (defBody i_BadValue) (defScope i_BadValue) [] [] (He.ma K (He.ga K "BadValue") "__init__") fd
  g_BadShape : mg "BadShape" = some (.ref (He.ga K "BadShape"))
  e_BadShape : ErrC K "BadShape" (["place"] : List Str)
  d_BadShape : ∃ fd, FunD K "__init__" "BadShape.__init__" (defArgs i_BadShape) (defBody i_BadShape) (defScope i_BadShape) [] [] (He.ma K (He.ga K "BadShape") "__init__") fd
  g_BadRow : mg "BadRow" = some (.ref (He.ga K "BadRow"))
  e_BadRow : ErrC K "BadRow" (["what", "place"] : List Str)
  d_BadRow : ∃ fd, FunD K "__init__" "BadRow.__init__" (defArgs i_BadRow) (defBody i_BadRow) (defScope i_BadRow) [] [] (He.ma K (He.ga K "BadRow") "__init__") fd
  g_BadSet : mg "BadSet" = some (.ref (He.ga K "BadSet"))
  e_BadSet : ErrC K "BadSet" (["place", "joint"] : List Str)
  d_BadSet : ∃ fd, FunD K "__init__" "BadSet.__init__" (defArgs i_BadSet) (defBody i_BadSet) (defScope i_BadSet) [] [] (He.ma K (He.ga K "BadSet") "__init__") fd
  g_BadReader : mg "BadReader" = some (.ref (He.ga K "BadReader"))
  e_BadReader : ErrC K "BadReader" (["step", "what"] : List Str)
  d_BadReader : ∃ fd, FunD K "__init__" "BadReader.__init__" (defArgs i_BadReader) (defBody i_BadReader) (defScope i_BadReader) [] [] (He.ma K (He.ga K "BadReader") "__init__") fd
  g_BadLayout : mg "BadLayout" = some (.ref (He.ga K "BadLayout"))
  e_BadLayout : ErrC K "BadLayout" (["what"] : List Str)
  d_BadLayout : ∃ fd, FunD K "__init__" "BadLayout.__init__" (defArgs i_BadLayout) (defBody i_BadLayout) (defScope i_BadLayout) [] [] (He.ma K (He.ga K "BadLayout") "__init__") fd
  g_BadCheck : mg "BadCheck" = some (.ref (He.ga K "BadCheck"))
  e_BadCheck : ErrC K "BadCheck" (["what"] : List Str)
  d_BadCheck : ∃ fd, FunD K "__init__" "BadCheck.__init__" (defArgs i_BadCheck) (defBody i_BadCheck) (defScope i_BadCheck) [] [] (He.ma K (He.ga K "BadCheck") "__init__") fd
  g_BadCode : mg "BadCode" = some (.ref (He.ga K "BadCode"))
  e_BadCode : ErrC K "BadCode" (["row", "what"] : List Str)
  d_BadCode : ∃ fd, FunD K "__init__" "BadCode.__init__" (defArgs i_BadCode) (defBody i_BadCode) (defScope i_BadCode) [] [] (He.ma K (He.ga K "BadCode") "__init__") fd
  g_BadFeed : mg "BadFeed" = some (.ref (He.ga K "BadFeed"))
  e_BadFeed : ErrC K "BadFeed" (["what"] : List Str)
  d_BadFeed : ∃ fd, FunD K "__init__" "BadFeed.__init__" (defArgs i_BadFeed) (defBody i_BadFeed) (defScope i_BadFeed) [] [] (He.ma K (He.ga K "BadFeed") "__init__") fd
  g_BadEdit : mg "BadEdit" = some (.ref (He.ga K "BadEdit"))
  e_BadEdit : ErrC K "BadEdit" (["what"] : List Str)
  d_BadEdit : ∃ fd, FunD K "__init__" "BadEdit.__init__" (defArgs i_BadEdit) (defBody i_BadEdit) (defScope i_BadEdit) [] [] (He.ma K (He.ga K "BadEdit") "__init__") fd
  g_BadPatch : mg "BadPatch" = some (.ref (He.ga K "BadPatch"))
  e_BadPatch : ErrC K "BadPatch" (["row", "what"] : List Str)
  d_BadPatch : ∃ fd, FunD K "__init__" "BadPatch.__init__" (defArgs i_BadPatch) (defBody i_BadPatch) (defScope i_BadPatch) [] [] (He.ma K (He.ga K "BadPatch") "__init__") fd
  g_BadPaper : mg "BadPaper" = some (.ref (He.ga K "BadPaper"))
  e_BadPaper : ErrC K "BadPaper" (["line"] : List Str)
  d_BadPaper : ∃ fd, FunD K "__init__" "BadPaper.__init__" (defArgs i_BadPaper) (defBody i_BadPaper) (defScope i_BadPaper) [] [] (He.ma K (He.ga K "BadPaper") "__init__") fd
  g_BadDeed : mg "BadDeed" = some (.ref (He.ga K "BadDeed"))
  e_BadDeed : ErrC K "BadDeed" (["what"] : List Str)
  d_BadDeed : ∃ fd, FunD K "__init__" "BadDeed.__init__" (defArgs i_BadDeed) (defBody i_BadDeed) (defScope i_BadDeed) [] [] (He.ma K (He.ga K "BadDeed") "__init__") fd
  g_OutsideError : mg "OutsideError" = some (.ref (He.ga K "OutsideError"))
  kits : Kits K "OutsideError" errs
  g_LIMITS : mg "LIMITS" = some (.ref (He.ga K "LIMITS"))
  t_LIMITS : ∀ k i, (k, i) ∈ ([("lines", 300), ("words", 40), ("bears", 3), ("checks", 6), ("letters", 8), ("states", 12), ("forms", 12), ("parts", 8), ("told", 24), ("pick", 6), ("width", 30), ("copies", 7), ("depth", 6), ("versions", 9), ("promises", 20), ("edits", 100), ("number", 1000000000000000000000000000000), ("nested", 60), ("shape", 400), ("elements", 400), ("signs", 4000), ("sets", 64), ("ways", 7), ("asks", 300), ("layout", 400), ("reach", 10000), ("deeds", 200), ("paper", 4000)] : List (Str × Int)) → KDct K w (He.ga K "LIMITS") k (.int i)
  f_ValueError : mg "ValueError" = none
  f_len : mg "len" = none
  f_range : mg "range" = none
  f_isinstance : mg "isinstance" = none
  f_dict : mg "dict" = none
  f_list : mg "list" = none
  f_tuple : mg "tuple" = none
  f_sorted : mg "sorted" = none
  f_int : mg "int" = none
  f_abs : mg "abs" = none
  f_all : mg "all" = none
  f_sum : mg "sum" = none
  f_bool : mg "bool" = none
  f_str : mg "str" = none
  f_any : mg "any" = none
  f_set : mg "set" = none
def fa : List He.Fa := [.glo "bound", .glo "check_row", .glo "check_widths", .glo "is_state", .glo "check_states", .glo "run_check", .glo "letter_counts", .glo "step_often", .glo "act_counts", .glo "_law_source", .glo "_law_pick", .glo "_law_same", .glo "_law_copied", .glo "_law_fault", .glo "_law_run", .glo "_law_come", .glo "_law_sum", .glo "_law_f_asked", .glo "_law_f_often", .glo "_law_f_acted", .glo "_law_f_counted", .glo "_law_f_row", .glo "_law_f_table", .glo "_law_f_faults", .glo "law", .glo "TooMany", .glo "BadText", .glo "BadFormat", .glo "BadValue", .glo "BadShape", .glo "BadRow", .glo "BadSet", .glo "BadReader", .glo "BadLayout", .glo "BadCheck", .glo "BadCode", .glo "BadFeed", .glo "BadEdit", .glo "BadPatch", .glo "BadPaper", .glo "BadDeed", .glo "OutsideError", .glo "LIMITS", .free "ValueError", .free "len", .free "range", .free "isinstance", .free "dict", .free "list", .free "tuple", .free "sorted", .free "int", .free "abs", .free "all", .free "sum", .free "bool", .free "str", .free "any", .free "set"]
def fn : List He.DefD := [
  ⟨("bound", none), "bound", "bound", defArgs s_bound, defBody s_bound, defScope s_bound, [], []⟩,
  ⟨("check_row", none), "check_row", "check_row", defArgs s_check_row, defBody s_check_row, defScope s_check_row, [], []⟩,
  ⟨("check_widths", none), "check_widths", "check_widths", defArgs s_check_widths, defBody s_check_widths, defScope s_check_widths, [], []⟩,
  ⟨("is_state", none), "is_state", "is_state", defArgs s_is_state, defBody s_is_state, defScope s_is_state, [], []⟩,
  ⟨("check_states", none), "check_states", "check_states", defArgs s_check_states, defBody s_check_states, defScope s_check_states, [], []⟩,
  ⟨("run_check", none), "run_check", "run_check", defArgs s_run_check, defBody s_run_check, defScope s_run_check, [], []⟩,
  ⟨("letter_counts", none), "letter_counts", "letter_counts", defArgs s_letter_counts, defBody s_letter_counts, defScope s_letter_counts, [], []⟩,
  ⟨("step_often", none), "step_often", "step_often", defArgs s_step_often, defBody s_step_often, defScope s_step_often, [], []⟩,
  ⟨("act_counts", none), "act_counts", "act_counts", defArgs s_act_counts, defBody s_act_counts, defScope s_act_counts, [], []⟩,
  ⟨("_law_source", none), "_law_source", "_law_source", defArgs s__law_source, defBody s__law_source, defScope s__law_source, [], []⟩,
  ⟨("_law_pick", none), "_law_pick", "_law_pick", defArgs s__law_pick, defBody s__law_pick, defScope s__law_pick, [], []⟩,
  ⟨("_law_same", none), "_law_same", "_law_same", defArgs s__law_same, defBody s__law_same, defScope s__law_same, [], []⟩,
  ⟨("_law_copied", none), "_law_copied", "_law_copied", defArgs s__law_copied, defBody s__law_copied, defScope s__law_copied, [], []⟩,
  ⟨("_law_fault", none), "_law_fault", "_law_fault", defArgs s__law_fault, defBody s__law_fault, defScope s__law_fault, [], []⟩,
  ⟨("_law_run", none), "_law_run", "_law_run", defArgs s__law_run, defBody s__law_run, defScope s__law_run, [], []⟩,
  ⟨("_law_come", none), "_law_come", "_law_come", defArgs s__law_come, defBody s__law_come, defScope s__law_come, [], []⟩,
  ⟨("_law_sum", none), "_law_sum", "_law_sum", defArgs s__law_sum, defBody s__law_sum, defScope s__law_sum, [], []⟩,
  ⟨("_law_f_asked", none), "_law_f_asked", "_law_f_asked", defArgs s__law_f_asked, defBody s__law_f_asked, defScope s__law_f_asked, [], []⟩,
  ⟨("_law_f_often", none), "_law_f_often", "_law_f_often", defArgs s__law_f_often, defBody s__law_f_often, defScope s__law_f_often, [], []⟩,
  ⟨("_law_f_acted", none), "_law_f_acted", "_law_f_acted", defArgs s__law_f_acted, defBody s__law_f_acted, defScope s__law_f_acted, [], []⟩,
  ⟨("_law_f_counted", none), "_law_f_counted", "_law_f_counted", defArgs s__law_f_counted, defBody s__law_f_counted, defScope s__law_f_counted, [], []⟩,
  ⟨("_law_f_row", none), "_law_f_row", "_law_f_row", defArgs s__law_f_row, defBody s__law_f_row, defScope s__law_f_row, [], []⟩,
  ⟨("_law_f_table", none), "_law_f_table", "_law_f_table", defArgs s__law_f_table, defBody s__law_f_table, defScope s__law_f_table, [], []⟩,
  ⟨("_law_f_faults", none), "_law_f_faults", "_law_f_faults", defArgs s__law_f_faults, defBody s__law_f_faults, defScope s__law_f_faults, [], []⟩,
  ⟨("law", none), "law", "law", defArgs s_law, defBody s_law, defScope s_law, [], []⟩,
  ⟨("TooMany", some "__init__"), "__init__", "TooMany.__init__", defArgs i_TooMany, defBody i_TooMany, defScope i_TooMany, [], []⟩,
  ⟨("BadText", some "__init__"), "__init__", "BadText.__init__", defArgs i_BadText, defBody i_BadText, defScope i_BadText, [], []⟩,
  ⟨("BadFormat", some "__init__"), "__init__", "BadFormat.__init__", defArgs i_BadFormat, defBody i_BadFormat, defScope i_BadFormat, [], []⟩,
  ⟨("BadValue", some "__init__"), "__init__", "BadValue.__init__", defArgs i_BadValue, defBody i_BadValue, defScope i_BadValue, [], []⟩,
  ⟨("BadShape", some "__init__"), "__init__", "BadShape.__init__", defArgs i_BadShape, defBody i_BadShape, defScope i_BadShape, [], []⟩,
  ⟨("BadRow", some "__init__"), "__init__", "BadRow.__init__", defArgs i_BadRow, defBody i_BadRow, defScope i_BadRow, [], []⟩,
  ⟨("BadSet", some "__init__"), "__init__", "BadSet.__init__", defArgs i_BadSet, defBody i_BadSet, defScope i_BadSet, [], []⟩,
  ⟨("BadReader", some "__init__"), "__init__", "BadReader.__init__", defArgs i_BadReader, defBody i_BadReader, defScope i_BadReader, [], []⟩,
  ⟨("BadLayout", some "__init__"), "__init__", "BadLayout.__init__", defArgs i_BadLayout, defBody i_BadLayout, defScope i_BadLayout, [], []⟩,
  ⟨("BadCheck", some "__init__"), "__init__", "BadCheck.__init__", defArgs i_BadCheck, defBody i_BadCheck, defScope i_BadCheck, [], []⟩,
  ⟨("BadCode", some "__init__"), "__init__", "BadCode.__init__", defArgs i_BadCode, defBody i_BadCode, defScope i_BadCode, [], []⟩,
  ⟨("BadFeed", some "__init__"), "__init__", "BadFeed.__init__", defArgs i_BadFeed, defBody i_BadFeed, defScope i_BadFeed, [], []⟩,
  ⟨("BadEdit", some "__init__"), "__init__", "BadEdit.__init__", defArgs i_BadEdit, defBody i_BadEdit, defScope i_BadEdit, [], []⟩,
  ⟨("BadPatch", some "__init__"), "__init__", "BadPatch.__init__", defArgs i_BadPatch, defBody i_BadPatch, defScope i_BadPatch, [], []⟩,
  ⟨("BadPaper", some "__init__"), "__init__", "BadPaper.__init__", defArgs i_BadPaper, defBody i_BadPaper, defScope i_BadPaper, [], []⟩,
  ⟨("BadDeed", some "__init__"), "__init__", "BadDeed.__init__", defArgs i_BadDeed, defBody i_BadDeed, defScope i_BadDeed, [], []⟩]
def ts : List He.Tab := [(fun K => He.ga K "LIMITS", (["lines", "words", "bears", "checks", "letters", "states", "forms", "parts", "told", "pick", "width", "copies", "depth", "versions", "promises", "edits", "number", "nested", "shape", "elements", "signs", "sets", "ways", "asks", "layout", "reach", "deeds", "paper"] : List Str))]
def kv_LIMITS : List (Str × Int) := [("lines", 300), ("words", 40), ("bears", 3), ("checks", 6), ("letters", 8), ("states", 12), ("forms", 12), ("parts", 8), ("told", 24), ("pick", 6), ("width", 30), ("copies", 7), ("depth", 6), ("versions", 9), ("promises", 20), ("edits", 100), ("number", 1000000000000000000000000000000), ("nested", 60), ("shape", 400), ("elements", 400), ("signs", 4000), ("sets", 64), ("ways", 7), ("asks", 300), ("layout", 400), ("reach", 10000), ("deeds", 200), ("paper", 4000)]
def exs : List (PySem.W.Frag → Bool) := [fun K => kitsB K "OutsideError" errs, fun K => errB K "TooMany" (["what"] : List Str), fun K => errB K "BadText" (["line"] : List Str), fun K => errB K "BadFormat" (["line", "what"] : List Str), fun K => errB K "BadValue" (["path", "what"] : List Str), fun K => errB K "BadShape" (["place"] : List Str), fun K => errB K "BadRow" (["what", "place"] : List Str), fun K => errB K "BadSet" (["place", "joint"] : List Str), fun K => errB K "BadReader" (["step", "what"] : List Str), fun K => errB K "BadLayout" (["what"] : List Str), fun K => errB K "BadCheck" (["what"] : List Str), fun K => errB K "BadCode" (["row", "what"] : List Str), fun K => errB K "BadFeed" (["what"] : List Str), fun K => errB K "BadEdit" (["what"] : List Str), fun K => errB K "BadPatch" (["row", "what"] : List Str), fun K => errB K "BadPaper" (["line"] : List Str), fun K => errB K "BadDeed" (["what"] : List Str), fun K => tabB K "LIMITS" kv_LIMITS]
def ex (K : PySem.W.Frag) : Bool := exs.all fun f => f K
abbrev R : PySem.W.OpenRow := PySem.W.OpenLaw.row PySem.Challenge.rw_toldoutside_k30_steps_and_counts_of_lett
abbrev hk : PySem.W.Hook := He.hookX 6 fa fn ts [] ex
def ob (s : PySem.W.SharedT) : He.AlX := He.obsX 6 fa fn ts [] ex (HandSHeadRun.getT s)
theorem ob_eq (s : PySem.W.SharedT) : ob s = hk.obs s.abs := He.obsX_eq (HandSHeadRun.getT_eq s)
def nm0 : List Str := (["OutsideError", "TooMany", "BadText", "BadFormat", "BadValue", "BadShape", "BadRow", "BadSet", "BadReader", "BadLayout", "BadCheck", "BadCode"] : List Str)
def nm1 : List Str := (["BadFeed", "BadEdit", "BadPatch", "BadPaper", "BadDeed", "LIMITS", "bound", "check_row", "check_widths", "is_state", "check_states", "run_check"] : List Str)
def nm2 : List Str := (["letter_counts", "step_often", "act_counts", "_law_source", "_law_pick", "_law_same", "_law_copied", "_law_fault", "_law_run", "_law_come", "_law_sum", "_law_f_asked"] : List Str)
def nm3 : List Str := (["_law_f_often", "_law_f_acted", "_law_f_counted", "_law_f_row", "_law_f_table", "_law_f_faults"] : List Str)
def nms : List Str := nm0 ++ nm1 ++ nm2 ++ nm3
theorem run_false (w : World) : HandSHeadRun.RunEq R (PySem.W.view R.prog [47]) hk ob 6000 nms (w.withFollow "special-get-raises" false) := by
  intro os
  kernel_rfl
theorem run_true (w : World) : HandSHeadRun.RunEq R (PySem.W.view R.prog [47]) hk ob 6000 nms (w.withFollow "special-get-raises" true) := by
  intro os
  kernel_rfl
theorem run (w : World) : HandSHeadRun.RunEq R (PySem.W.view R.prog [47]) hk ob 6000 nms w := by
  have h : ∀ b : Bool, HandSHeadRun.RunEq R (PySem.W.view R.prog [47]) hk ob 6000 nms (w.withFollow "special-get-raises" b) := fun b => by
    cases b
    · exact run_false w
    · exact run_true w
  have z := h (w.params.followText "special-get-raises")
  rwa [World.withFollow_self] at z
theorem txt {w : World} {h : Heap} {K : PySem.W.Frag} {mg : Str → Option Value} (X : K.In h) (G : h.Ns mainGlobals mg) (c : He.SaysX fa fn ts [] ex w h K) : Txt w K mg := by
  have D := c.t.d
  have E : ∀ i (f : PySem.W.Frag → Bool), exs[i]? = some f → f K = true := fun i (f : PySem.W.Frag → Bool) e => List.all_eq_true.mp c.more f (List.mem_of_getElem? e)
  refine {
    g_bound := He.glo_ok X G (D.fact 0 (f := .glo "bound") rfl)
    g_check_row := He.glo_ok X G (D.fact 1 (f := .glo "check_row") rfl)
    g_check_widths := He.glo_ok X G (D.fact 2 (f := .glo "check_widths") rfl)
    g_is_state := He.glo_ok X G (D.fact 3 (f := .glo "is_state") rfl)
    g_check_states := He.glo_ok X G (D.fact 4 (f := .glo "check_states") rfl)
    g_run_check := He.glo_ok X G (D.fact 5 (f := .glo "run_check") rfl)
    g_letter_counts := He.glo_ok X G (D.fact 6 (f := .glo "letter_counts") rfl)
    g_step_often := He.glo_ok X G (D.fact 7 (f := .glo "step_often") rfl)
    g_act_counts := He.glo_ok X G (D.fact 8 (f := .glo "act_counts") rfl)
    g__law_source := He.glo_ok X G (D.fact 9 (f := .glo "_law_source") rfl)
    g__law_pick := He.glo_ok X G (D.fact 10 (f := .glo "_law_pick") rfl)
    g__law_same := He.glo_ok X G (D.fact 11 (f := .glo "_law_same") rfl)
    g__law_copied := He.glo_ok X G (D.fact 12 (f := .glo "_law_copied") rfl)
    g__law_fault := He.glo_ok X G (D.fact 13 (f := .glo "_law_fault") rfl)
    g__law_run := He.glo_ok X G (D.fact 14 (f := .glo "_law_run") rfl)
    g__law_come := He.glo_ok X G (D.fact 15 (f := .glo "_law_come") rfl)
    g__law_sum := He.glo_ok X G (D.fact 16 (f := .glo "_law_sum") rfl)
    g__law_f_asked := He.glo_ok X G (D.fact 17 (f := .glo "_law_f_asked") rfl)
    g__law_f_often := He.glo_ok X G (D.fact 18 (f := .glo "_law_f_often") rfl)
    g__law_f_acted := He.glo_ok X G (D.fact 19 (f := .glo "_law_f_acted") rfl)
    g__law_f_counted := He.glo_ok X G (D.fact 20 (f := .glo "_law_f_counted") rfl)
    g__law_f_row := He.glo_ok X G (D.fact 21 (f := .glo "_law_f_row") rfl)
    g__law_f_table := He.glo_ok X G (D.fact 22 (f := .glo "_law_f_table") rfl)
    g__law_f_faults := He.glo_ok X G (D.fact 23 (f := .glo "_law_f_faults") rfl)
    g_law := He.glo_ok X G (D.fact 24 (f := .glo "law") rfl)
    g_TooMany := He.glo_ok X G (D.fact 25 (f := .glo "TooMany") rfl)
    g_BadText := He.glo_ok X G (D.fact 26 (f := .glo "BadText") rfl)
    g_BadFormat := He.glo_ok X G (D.fact 27 (f := .glo "BadFormat") rfl)
    g_BadValue := He.glo_ok X G (D.fact 28 (f := .glo "BadValue") rfl)
    g_BadShape := He.glo_ok X G (D.fact 29 (f := .glo "BadShape") rfl)
    g_BadRow := He.glo_ok X G (D.fact 30 (f := .glo "BadRow") rfl)
    g_BadSet := He.glo_ok X G (D.fact 31 (f := .glo "BadSet") rfl)
    g_BadReader := He.glo_ok X G (D.fact 32 (f := .glo "BadReader") rfl)
    g_BadLayout := He.glo_ok X G (D.fact 33 (f := .glo "BadLayout") rfl)
    g_BadCheck := He.glo_ok X G (D.fact 34 (f := .glo "BadCheck") rfl)
    g_BadCode := He.glo_ok X G (D.fact 35 (f := .glo "BadCode") rfl)
    g_BadFeed := He.glo_ok X G (D.fact 36 (f := .glo "BadFeed") rfl)
    g_BadEdit := He.glo_ok X G (D.fact 37 (f := .glo "BadEdit") rfl)
    g_BadPatch := He.glo_ok X G (D.fact 38 (f := .glo "BadPatch") rfl)
    g_BadPaper := He.glo_ok X G (D.fact 39 (f := .glo "BadPaper") rfl)
    g_BadDeed := He.glo_ok X G (D.fact 40 (f := .glo "BadDeed") rfl)
    g_OutsideError := He.glo_ok X G (D.fact 41 (f := .glo "OutsideError") rfl)
    g_LIMITS := He.glo_ok X G (D.fact 42 (f := .glo "LIMITS") rfl)
    f_ValueError := He.free_ok X G (D.fact 43 (f := .free "ValueError") rfl)
    f_len := He.free_ok X G (D.fact 44 (f := .free "len") rfl)
    f_range := He.free_ok X G (D.fact 45 (f := .free "range") rfl)
    f_isinstance := He.free_ok X G (D.fact 46 (f := .free "isinstance") rfl)
    f_dict := He.free_ok X G (D.fact 47 (f := .free "dict") rfl)
    f_list := He.free_ok X G (D.fact 48 (f := .free "list") rfl)
    f_tuple := He.free_ok X G (D.fact 49 (f := .free "tuple") rfl)
    f_sorted := He.free_ok X G (D.fact 50 (f := .free "sorted") rfl)
    f_int := He.free_ok X G (D.fact 51 (f := .free "int") rfl)
    f_abs := He.free_ok X G (D.fact 52 (f := .free "abs") rfl)
    f_all := He.free_ok X G (D.fact 53 (f := .free "all") rfl)
    f_sum := He.free_ok X G (D.fact 54 (f := .free "sum") rfl)
    f_bool := He.free_ok X G (D.fact 55 (f := .free "bool") rfl)
    f_str := He.free_ok X G (D.fact 56 (f := .free "str") rfl)
    f_any := He.free_ok X G (D.fact 57 (f := .free "any") rfl)
    f_set := He.free_ok X G (D.fact 58 (f := .free "set") rfl)
    d_bound := D.def_ 0 rfl
    d_check_row := D.def_ 1 rfl
    d_check_widths := D.def_ 2 rfl
    d_is_state := D.def_ 3 rfl
    d_check_states := D.def_ 4 rfl
    d_run_check := D.def_ 5 rfl
    d_letter_counts := D.def_ 6 rfl
    d_step_often := D.def_ 7 rfl
    d_act_counts := D.def_ 8 rfl
    d__law_source := D.def_ 9 rfl
    d__law_pick := D.def_ 10 rfl
    d__law_same := D.def_ 11 rfl
    d__law_copied := D.def_ 12 rfl
    d__law_fault := D.def_ 13 rfl
    d__law_run := D.def_ 14 rfl
    d__law_come := D.def_ 15 rfl
    d__law_sum := D.def_ 16 rfl
    d__law_f_asked := D.def_ 17 rfl
    d__law_f_often := D.def_ 18 rfl
    d__law_f_acted := D.def_ 19 rfl
    d__law_f_counted := D.def_ 20 rfl
    d__law_f_row := D.def_ 21 rfl
    d__law_f_table := D.def_ 22 rfl
    d__law_f_faults := D.def_ 23 rfl
    d_law := D.def_ 24 rfl
    d_TooMany := D.def_ 25 rfl
    d_BadText := D.def_ 26 rfl
    d_BadFormat := D.def_ 27 rfl
    d_BadValue := D.def_ 28 rfl
    d_BadShape := D.def_ 29 rfl
    d_BadRow := D.def_ 30 rfl
    d_BadSet := D.def_ 31 rfl
    d_BadReader := D.def_ 32 rfl
    d_BadLayout := D.def_ 33 rfl
    d_BadCheck := D.def_ 34 rfl
    d_BadCode := D.def_ 35 rfl
    d_BadFeed := D.def_ 36 rfl
    d_BadEdit := D.def_ 37 rfl
    d_BadPatch := D.def_ 38 rfl
    d_BadPaper := D.def_ 39 rfl
    d_BadDeed := D.def_ 40 rfl
    kits := kitsB_ok (E 0 _ rfl)
    e_TooMany := errB_ok (E 1 _ rfl)
    e_BadText := errB_ok (E 2 _ rfl)
    e_BadFormat := errB_ok (E 3 _ rfl)
    e_BadValue := errB_ok (E 4 _ rfl)
    e_BadShape := errB_ok (E 5 _ rfl)
    e_BadRow := errB_ok (E 6 _ rfl)
    e_BadSet := errB_ok (E 7 _ rfl)
    e_BadReader := errB_ok (E 8 _ rfl)
    e_BadLayout := errB_ok (E 9 _ rfl)
    e_BadCheck := errB_ok (E 10 _ rfl)
    e_BadCode := errB_ok (E 11 _ rfl)
    e_BadFeed := errB_ok (E 12 _ rfl)
    e_BadEdit := errB_ok (E 13 _ rfl)
    e_BadPatch := errB_ok (E 14 _ rfl)
    e_BadPaper := errB_ok (E 15 _ rfl)
    e_BadDeed := errB_ok (E 16 _ rfl)
    t_LIMITS := fun k i hq => by
      obtain ⟨es, n, KD⟩ := c.t.tab 0 rfl
      exact tabB_ok (E 17 _ rfl) KD hq }
end K30
open PySem PySem.W PySem.Calls PyProof.Rows in
theorem K30.law_of (k : Nat) (hk : L2.Room k callerA)
    (F : ∀ (w : World) (K : Frag) (mg : PySem.Str → Option Value) (base : Heap), K.In base → base.Ns mainGlobals mg → K30.Txt w K mg → ∀ fd, L2.FunD K "law" "law" (L2.defArgs K30.s_law) (L2.defBody K30.s_law) (L2.defScope K30.s_law) [] [] (He.ga K "law") fd →
      L2.FnOk (PySem.Challenge.rw_toldoutside_k30_steps_and_counts_of_lett).prog w K mg base (L2N.CX (PySem.Challenge.rw_toldoutside_k30_steps_and_counts_of_lett).prog w) k (He.ga K "law") fd ["script"] (L3.spLaw K)) : PySem.Challenge.rw_toldoutside_k30_steps_and_counts_of_lett.Holds := by
  w_on; o_law
  refine HandSHeadRun.head_any (r := OpenLaw.row PySem.Challenge.rw_toldoutside_k30_steps_and_counts_of_lett) (q := view (OpenLaw.row PySem.Challenge.rw_toldoutside_k30_steps_and_counts_of_lett).prog [47]) (H := K30.hk) (ob := K30.ob) (M := 6000) (loose := K30.nms) (d := HandSHeadRun.topDef (OpenLaw.row PySem.Challenge.rw_toldoutside_k30_steps_and_counts_of_lett).prog 47) (kwd := []) K30.ob_eq
    (by kernel_rfl) (fun s => by kernel_rfl) K30.run (by kernel_rfl) (by kernel_rfl) (by kernel_rfl) (by rfl) (by first | assumption | decide +kernel) (by decide +kernel) ⟨rfl, rfl, rfl, rfl, rfl, by decide +kernel⟩ ?hw ?hc
  case hw => w_witness2
  case hc =>
    refine L3.walk_law (l := PySem.Challenge.rw_toldoutside_k30_steps_and_counts_of_lett) (k := k) rfl (by kernel_rfl) hk ?F
    intro w mg fa h Y G hmg0
    obtain ⟨K, KX, c⟩ := Y
    have hmg : mg ("law" : PySem.Str) = some (.ref fa) := by
      have e : (HandSHeadRun.topDef (OpenLaw.row PySem.Challenge.rw_toldoutside_k30_steps_and_counts_of_lett).prog 47).name = ("law" : PySem.Str) := by kernel_rfl
      rw [← e]
      exact hmg0
    have T := K30.txt KX G c
    have e := hmg.symm.trans T.g_law
    cases e
    obtain ⟨fd, D⟩ := T.d_law
    have b := L2.FunD.bindsA (ps := ["script"]) D fun _ _ _ _ _ _ us hl => match us, hl with | [_], _ => rfl
    exact ⟨K, fd, KX, fun s v => b s [v] rfl, fun base XB GB => F w K mg base XB GB T fd D⟩
set_option maxRecDepth 100000
set_option maxHeartbeats 4000000
namespace K30
open PySem PySem.Spec PyProof.Rows L2 L3
local macro_rules | `(tactic| walk_at "s1") => `(tactic| first
  | with_reducible refine r_seq ?_
  | with_reducible refine r_asgN ?_
  | with_reducible refine r_ret ?_
  | with_reducible refine r_next ?_
  | ((with_reducible refine' r_var ?hv ?_); (case hv => exact rfl))
  | with_reducible refine r_c ?_
  | with_reducible refine r_op ?_
  | with_reducible refine r_cons ?_
  | with_reducible refine r_nil ?_
  | with_reducible refine r_plusI ?_
  | with_reducible refine r_I0 ?_
  | with_reducible refine r_test ?_
  | with_reducible refine r_bl ?_
  | with_reducible refine r_ifS ?_
  | with_reducible refine r_cb ?_
  | with_reducible refine r_callS ?_
  | with_reducible refine r_and ?_
  | with_reducible refine r_or ?_
  | with_reducible refine r_not ?_
  | with_reducible refine r_B ?_
  | ((with_reducible refine' r_aug ?hv ?_); (case hv => exact rfl))
  | with_reducible refine r_augS ?_
  | with_reducible refine r_ipI ?_
  | with_reducible refine r_asg ?_
  | with_reducible refine r_sub ?_
  | with_reducible refine r_brk ?_
  | with_reducible refine r_isN1 ?_
  | with_reducible refine r_notN1 ?_
  | with_reducible refine r_intI ?_
  | with_reducible refine r_abs ?_
  | with_reducible refine r_min ?_
  | with_reducible refine r_max ?_
  | ((with_reducible refine' r_mod ?hz ?_); (case hz => omega))
  | ((with_reducible refine' r_pow ?hz ?_); (case hz => exact ⟨by decide, by decide, by decide⟩))
  | ((with_reducible refine' r_rg1 ?hz ?_); (case hz => omega))
  | ((with_reducible refine' r_rg2 ?hz ?_); (case hz => omega))
  | ((with_reducible refine' r_newL ?hz ?_); (case hz => exact Nat.le_of_ble_eq_true rfl))
  | ((with_reducible refine' r_newT ?hz ?_); (case hz => exact Nat.le_of_ble_eq_true rfl))
  | with_reducible refine r_for ?_
  | with_reducible refine r_lc ?_
  | with_reducible refine r_iR1 ?_
  | with_reducible refine r_iR2 ?_
  | with_reducible refine r_iL ?_
  | with_reducible refine r_iT ?_
  | with_reducible refine r_gname ?_
  | with_reducible refine r_gcons ?_
  | with_reducible refine r_gnil ?_
  | with_reducible refine r_yes ?_
  | with_reducible refine r_mkO ?_
  | with_reducible refine r_cont ?_
  | with_reducible refine r_drop ?_
  | with_reducible refine r_retN ?_
  | with_reducible refine r_ifC ?_
  | with_reducible refine r_ifI ?_
  | with_reducible refine r_if ?_
  | with_reducible refine r_un ?_
  | with_reducible refine r_neg ?_
  | with_reducible refine r_andV ?_
  | with_reducible refine r_orV ?_
  | with_reducible refine r_notV ?_
  | with_reducible refine r_tup ?_
  | with_reducible refine r_lst ?_
  | with_reducible refine r_bm ?_
  | with_reducible refine r_bm0 ?_
  | with_reducible refine r_sl ?_
  | with_reducible refine r_chain ?_
  | with_reducible refine r_listDn ?_
  | with_reducible refine r_listRg2 ?_
  | with_reducible refine r_revL ?_
  | with_reducible refine r_noPart ?_
  | with_reducible refine r_part ?_
  | with_reducible refine r_int ?_
  | ((with_reducible refine' r_sameS ?hs ?_); (case hs => exact rfl))
  | ((with_reducible refine' r_otherS ?hs ?_); (case hs => exact rfl))
  | with_reducible refine ite_t ?_
  | with_reducible refine ite_f ?_
  | with_reducible refine ite_nt ?_
  | with_reducible refine ite_nf ?_)
local macro_rules | `(tactic| walk_at "st") => `(tactic| repeat (walk_at "s1"))

section
variable {P : Program} {w : World} {K : PySem.W.Frag} {mg : Str → Option Value} {base : Heap}
theorem sci_TooMany : FnScope ["self", "what"] ["self", "what"] (defScope i_TooMany) := ⟨rfl, rfl, rfl, by decide +kernel, rfl, by decide +kernel, by decide +kernel⟩
theorem ci_TooMany (T : Txt w K mg) : ErrI P w K mg base "TooMany" ["self", "what"] (spI1 (He.ga K "TooMany") "what") := by
  refine errI_of T.d_TooMany sci_TooMany (fun _ _ _ _ _ _ _ us hl => match us, hl with | [_, _], _ => rfl) (fun vs H Q E h => by obtain ⟨a, v0, rfl, _⟩ := h; rfl) (fun cdv A outer s H vs Q E hr h => ?_)
  obtain ⟨a, v0, rfl, ha, k⟩ := h
  refine ⟨_, pss_one (ps_ost (pv 0) (pv 1)), ?_⟩
  exact r_ost1 T.e_TooMany.o (T.e_TooMany.no _ (by simp)) ha rfl rfl k
theorem sci_BadCheck : FnScope ["self", "what"] ["self", "what"] (defScope i_BadCheck) := ⟨rfl, rfl, rfl, by decide +kernel, rfl, by decide +kernel, by decide +kernel⟩
theorem ci_BadCheck (T : Txt w K mg) : ErrI P w K mg base "BadCheck" ["self", "what"] (spI1 (He.ga K "BadCheck") "what") := by
  refine errI_of T.d_BadCheck sci_BadCheck (fun _ _ _ _ _ _ _ us hl => match us, hl with | [_, _], _ => rfl) (fun vs H Q E h => by obtain ⟨a, v0, rfl, _⟩ := h; rfl) (fun cdv A outer s H vs Q E hr h => ?_)
  obtain ⟨a, v0, rfl, ha, k⟩ := h
  refine ⟨_, pss_one (ps_ost (pv 0) (pv 1)), ?_⟩
  exact r_ost1 T.e_BadCheck.o (T.e_BadCheck.no _ (by simp)) ha rfl rfl k
/-! ### the bounds -/
def spBound (K : PySem.W.Frag) : Sp := fun vs H Q E => ∃ (what : Str) (lim n : Int), vs = [.str what, .int n] ∧ (what, lim) ∈ kv_LIMITS ∧
  (lim < n → ∀ d H', H d = none → Ext H H' → H' d = some (.xd [("what", .str what)]) → E (.ref (He.ga K "TooMany")) (some d) H') ∧ (¬ lim < n → Q .non H)
theorem sc_bound : FnScope ["what", "number"] ["what", "number"] (defScope s_bound) := ⟨rfl, rfl, rfl, by decide +kernel, rfl, by decide +kernel, by decide +kernel⟩
theorem ok_bound (T : Txt w K mg) : CalG P w K mg base 4 "bound" ["what", "number"] (spBound K) := by
  have c_TooMany : ErrI P w K mg base "TooMany" ["self", "what"] _ := ci_TooMany T
  refine calG_of T.g_bound T.d_bound sc_bound (fun _ _ _ _ _ _ _ us hl => match us, hl with | [_, _], _ => rfl) (fun vs H Q E h => by obtain ⟨c, k, n, rfl, _⟩ := h; rfl) (fun cdv A outer s H vs Q E hr h => ?_)
  have nd := sc_bound.nd
  have hu := hu64 hr
  obtain ⟨what, lim, n, rfl, hm, hb, hg⟩ := h
  refine ⟨_, (pss_one (ps_if (pt_cmpR op_gt (pv 1) (pe_ix (kdictK (K := K)) (pe_gl T.g_LIMITS) (pv 0) (fun _ _ => rfl)) (nomark _)) (pss_one (L2N.ps_raise rfl (L2N.takes_of rfl rfl rfl rfl) (pmk_errI T.e_TooMany c_TooMany hr (by decide) T.g_TooMany (pa_cons (pv 0) pa_nil)))) pss_nil)), ?_⟩
  walk_at "st"
  refine ⟨_, _, _, rfl, rfl, T.t_LIMITS _ _ hm, ?_⟩
  walk_at "st"
  refine ite_d (fun c => ?_) (fun c => ?_)
  · walk_at "st"
    exact r_mk1 (hb c)
  · walk_at "st"
    exact hg c

/-! ### tables of steps -/
def IsRow (d : PyData) (row : List Int) : Prop := d = .list (row.map PyData.int) ∨ d = .tuple (row.map PyData.int)
/-- the rows of a table, each a list or a tuple -/
structure Tb (K : PySem.W.Frag) (H : Hp) (p : Addr) (st : List (List Int)) : Prop where
  ex : ∃ (xs : List V) (ds : List PyData), SqL K H p xs ∧ DpAll K H xs ds ∧ ds.length = st.length ∧ ∀ (i : Nat) (d : PyData), ds[i]? = some d → ∃ row, st[i]? = some row ∧ IsRow d row
theorem Tb.ext {K : PySem.W.Frag} {H H' : Hp} {p : Addr} {st : List (List Int)} (h : Tb K H p st) (e : Ext H H') : Tb K H' p st := by
  obtain ⟨xs, ds, h1, h2, h3, h4⟩ := h.ex
  exact ⟨xs, ds, e.l h1, e.dps _ h2, h3, h4⟩
theorem dp_ints {K : PySem.W.Frag} {H : Hp} {xs : List V} : ∀ {row : List Int}, DpAll K H xs (row.map PyData.int) → xs = row.map V.int := by
  intro row
  induction row generalizing xs with
  | nil => intro h; cases h; rfl
  | cons a row ih =>
    intro h
    cases h with
    | cons h1 h2 =>
      cases h1
      rw [ih h2]
      rfl
theorem row_seq {K : PySem.W.Frag} {H : Hp} {x : V} {d : PyData} {row : List Int} (h : Dp K H x d) (r : IsRow d row) : ∃ a, x = .ref a ∧ Seq K H a (row.map V.int) := by
  rcases r with rfl | rfl
  · cases h with
    | lst h hs => exact ⟨_, rfl, .inl (by rw [← dp_ints hs]; exact h)⟩
  · cases h with
    | tup h hs => exact ⟨_, rfl, .inr (by rw [← dp_ints hs]; exact h)⟩
/-- the list at p, its rows -/
theorem Tb.get {K : PySem.W.Frag} {H : Hp} {p : Addr} {st : List (List Int)} (h : Tb K H p st) : ∃ xs, SqL K H p xs ∧ xs.length = st.length ∧ ∀ (i : Nat) (row : List Int), st[i]? = some row → ∃ a, xs[i]? = some (V.ref a) ∧ Seq K H a (row.map V.int) := by
  obtain ⟨xs, ds, h1, h2, h3, h4⟩ := h.ex
  refine ⟨xs, h1, by rw [dps_len h2, h3], fun i row hr => ?_⟩
  have hi : i < ds.length := by rw [h3]; exact (List.getElem?_eq_some_iff.mp hr).1
  obtain ⟨row', e, r⟩ := h4 i ds[i] (List.getElem?_eq_getElem hi)
  rw [hr] at e
  cases e
  obtain ⟨x, ex, hx⟩ := dps_get h2 (List.getElem?_eq_getElem hi)
  obtain ⟨a, rfl, s⟩ := row_seq hx r
  exact ⟨a, ex, s⟩
def far : Int := 10 ^ 30
def spCRow (K : PySem.W.Frag) : Sp := fun vs H Q E => ∃ (p : Addr) (ns : List Int), vs = [.ref p] ∧ SqL K H p (ns.map V.int) ∧ (4000 < ns.length → Bad K E H "TooMany" "signs") ∧ (ns.length ≤ 4000 → (∃ s ∈ ns, far < s) → Bad K E H "TooMany" "number") ∧ (ns.length ≤ 4000 → (∀ s ∈ ns, s ≤ far) → Q .non H)
theorem sc_check_row : FnScope ["row", "sign"] ["row"] (defScope s_check_row) := ⟨rfl, rfl, rfl, by decide +kernel, rfl, by decide +kernel, by decide +kernel⟩
theorem ok_check_row (T : Txt w K mg) : CalG P w K mg base 6 "check_row" ["row"] (spCRow K) := by
  have c_TooMany : ErrI P w K mg base "TooMany" ["self", "what"] _ := ci_TooMany T
  have c_bound := ok_bound (P := P) (base := base) T
  refine calG_of T.g_check_row T.d_check_row sc_check_row (fun _ _ _ _ _ _ _ us hl => match us, hl with | [_], _ => rfl) (fun vs H Q E h => by obtain ⟨_, _, rfl, _⟩ := h; rfl) (fun cdv A outer s H vs Q E hr h => ?_)
  have nd := sc_check_row.nd
  have hu := hu64 hr
  obtain ⟨p, ns, rfl, hp, b1, b2, k⟩ := h
  refine ⟨_, (pss_cons (ps_expr (pe_cal c_bound hr (by omega) (fun σ => L2N.passAt (L2N.takes_of rfl rfl rfl rfl) σ) (pa_cons pe_str (pa_cons (pe_callB (lenK (K := K)) (by rfl) T.f_len boot_len (pa_cons (pv 0) pa_nil)) pa_nil))))
        (pss_one (ps_for (passes_of rfl) rfl (piL (K := K) (pv 0)) (pg_name (i := 1) nd rfl (Or.inl rfl)) (pss_one (ps_if (pt_cmpR op_gt (pv 1) (pe_op op_pow pe_int pe_int) (nomark _)) (pss_one (L2N.ps_raise rfl (L2N.takes_of rfl rfl rfl rfl) (pmk_errI T.e_TooMany c_TooMany hr (by decide) T.g_TooMany (pa_cons pe_str pa_nil)))) pss_nil))))), ?_⟩
  walk_at "st"
  refine r_lenL hp (n := ns.length) (by rw [List.length_map]) ?_
  walk_at "st"
  refine ⟨_, 4000, _, rfl, by simp [kv_LIMITS], fun c => b1 (by omega), fun c1 => ?_⟩
  walk_at "st"
  refine r_li hp ?_
  refine forW_list (fun i σ' H' => ∃ v, σ' = [some (.ref p), v] ∧ H = H' ∧ ∀ s ∈ ns.take i, s ≤ far) ⟨none, rfl, rfl, fun s h => by rw [List.take_zero] at h; cases h⟩ (fun i σ' H' _ ⟨_, _, e, _⟩ => e ▸ hp) ?_ ?_
  · rintro i x σ' H' hx ⟨v, rfl, rfl, hall⟩
    rw [List.getElem?_map] at hx
    obtain ⟨z, hz, rfl⟩ := Option.map_eq_some_iff.mp hx
    walk_at "st"
    refine ite_d (fun c => ?_) (fun c => ?_)
    · walk_at "st"
      exact r_mk1 (b2 (by omega) ⟨z, List.mem_of_getElem? hz, c⟩)
    · walk_at "st"
      refine ⟨_, rfl, rfl, fun s hs => ?_⟩
      rw [List.take_succ, hz] at hs
      rcases List.mem_append.mp hs with hs | hs
      · exact hall s hs
      · have e : s = z := by simpa using hs
        rw [e]
        exact Int.not_lt.mp c
  · rintro σ' H' ⟨v, rfl, rfl, hall⟩
    rw [List.length_map, List.take_length] at hall
    walk_at "st"
    exact k (by omega) hall
def spCWid (K : PySem.W.Frag) : Sp := fun vs H Q E => ∃ (p : Addr) (st : List (List Int)) (m : Int), vs = [.ref p, .int m] ∧ Tb K H p st ∧ (m < 1 ∨ (∃ row ∈ st, (row.length : Int) ≠ m) → Bad K E H "BadCheck" "letters") ∧ (1 ≤ m → (∀ row ∈ st, (row.length : Int) = m) → Q .non H)
theorem sc_check_widths : FnScope ["states", "letters", "row"] ["states", "letters"] (defScope s_check_widths) := ⟨rfl, rfl, rfl, by decide +kernel, rfl, by decide +kernel, by decide +kernel⟩
theorem ok_check_widths (T : Txt w K mg) : CalG P w K mg base 4 "check_widths" ["states", "letters"] (spCWid K) := by
  have c_BadCheck : ErrI P w K mg base "BadCheck" ["self", "what"] _ := ci_BadCheck T
  refine calG_of T.g_check_widths T.d_check_widths sc_check_widths (fun _ _ _ _ _ _ _ us hl => match us, hl with | [_, _], _ => rfl) (fun vs H Q E h => by obtain ⟨_, _, _, rfl, _⟩ := h; rfl) (fun cdv A outer s H vs Q E hr h => ?_)
  have nd := sc_check_widths.nd
  have hu := hu64 hr
  obtain ⟨p, st, m, rfl, hp, b, k⟩ := h
  obtain ⟨xs, h1, h2, h3⟩ := hp.get
  refine ⟨_, (pss_cons (ps_if (pt_cmpR op_lt (pv 1) pe_int (nomark _)) (pss_one (L2N.ps_raise rfl (L2N.takes_of rfl rfl rfl rfl) (pmk_errI T.e_BadCheck c_BadCheck hr (by decide) T.g_BadCheck (pa_cons pe_str pa_nil)))) pss_nil)
        (pss_one (ps_for (passes_of rfl) rfl (piL (K := K) (pv 0)) (pg_name (i := 2) nd rfl (Or.inl rfl)) (pss_one (ps_if (pt_cmpR (otherK (K := K) hu) (pe_callB (lenK (K := K)) (by rfl) T.f_len boot_len (pa_cons (pv 2) pa_nil)) (pv 1) (nomark _)) (pss_one (L2N.ps_raise rfl (L2N.takes_of rfl rfl rfl rfl) (pmk_errI T.e_BadCheck c_BadCheck hr (by decide) T.g_BadCheck (pa_cons pe_str pa_nil)))) pss_nil))))), ?_⟩
  walk_at "st"
  refine ite_d (fun c => ?_) (fun c => ?_)
  · walk_at "st"
    exact r_mk1 (b (.inl c))
  walk_at "st"
  refine r_li h1 ?_
  refine forW_list (fun i σ' H' => ∃ v, σ' = [some (.ref p), some (.int m), v] ∧ H = H' ∧ ∀ row ∈ st.take i, (row.length : Int) = m) ⟨none, rfl, rfl, fun s h => by rw [List.take_zero] at h; cases h⟩ (fun i σ' H' _ ⟨_, _, e, _⟩ => e ▸ h1) ?_ ?_
  · rintro i x σ' H' hx ⟨v, rfl, rfl, hall⟩
    have hi : i < st.length := by rw [← h2]; exact (List.getElem?_eq_some_iff.mp hx).1
    have er : st[i]? = some st[i] := List.getElem?_eq_getElem hi
    obtain ⟨a, ea, ha⟩ := h3 i _ er
    rw [hx] at ea
    cases ea
    walk_at "st"
    refine r_lenA ha (n := st[i].length) (by rw [List.length_map]) ?_
    walk_at "st"
    refine ite_n (fun c => ?_) (fun c => ?_)
    · walk_at "st"
      exact r_mk1 (b (.inr ⟨st[i], List.getElem_mem hi, fun e => c (by rw [e])⟩))
    · walk_at "st"
      refine ⟨_, rfl, rfl, fun row hrow => ?_⟩
      rw [List.take_succ, er] at hrow
      rcases List.mem_append.mp hrow with hs | hs
      · exact hall row hs
      · have e : row = st[i] := by simpa using hs
        rw [e]
        exact V.int.inj c
  · rintro σ' H' ⟨v, rfl, rfl, hall⟩
    rw [h2, List.take_length] at hall
    walk_at "st"
    exact k (by omega) hall
def spIsSt (K : PySem.W.Frag) : Sp := fun vs H Q _ => ∃ (p : Addr) (st : List (List Int)) (z : Int), vs = [.int z, .ref p] ∧ Tb K H p st ∧ Q (.bl (decide (0 ≤ z ∧ z < st.length))) H
theorem sc_is_state : FnScope ["number", "states"] ["number", "states"] (defScope s_is_state) := ⟨rfl, rfl, rfl, by decide +kernel, rfl, by decide +kernel, by decide +kernel⟩
theorem ok_is_state (T : Txt w K mg) : CalG P w K mg base 1 "is_state" ["number", "states"] (spIsSt K) := by
  refine calG_of T.g_is_state T.d_is_state sc_is_state (fun _ _ _ _ _ _ _ us hl => match us, hl with | [_, _], _ => rfl) (fun vs H Q E h => by obtain ⟨_, _, _, rfl, _⟩ := h; rfl) (fun cdv A outer s H vs Q E hr h => ?_)
  have nd := sc_is_state.nd
  have hu := hu64 hr
  obtain ⟨p, st, z, rfl, hp, k⟩ := h
  obtain ⟨xs, h1, h2, h3⟩ := hp.get
  refine ⟨_, (pss_one (ps_ret (pe_and (pe_callB (isiK (K := K)) (by rfl) T.f_isinstance (by decide +kernel) (pa_cons (pv 0) (pa_cons (pe_ty T.f_int) pa_nil))) (pe_and (pe_not (pe_callB (isiK (K := K)) (by rfl) T.f_isinstance (by decide +kernel) (pa_cons (pv 0) (pa_cons (pe_ty T.f_bool) pa_nil)))) (pe_one (pe_chain op_le op_lt pe_int (pv 0) (pe_callB (lenK (K := K)) (by rfl) T.f_len boot_len (pa_cons (pv 1) pa_nil)))))))), ?_⟩
  walk_at "st"
  refine r_isi (.int z) (by simp) ?_
  rw [show isB (tyD (.int z)) "int" = true by simp [isB, tyD]]
  walk_at "st"
  refine r_isi (.int z) (by simp) ?_
  rw [show isB (tyD (.int z)) "bool" = false by simp [isB, tyD]]
  walk_at "st"
  refine ite_d (fun c1 => ?_) (fun c1 => ?_)
  · walk_at "st"
    refine r_lenL h1 (n := st.length) (by rw [h2]) ?_
    walk_at "st"
    have e : decide (0 ≤ z ∧ z < st.length) = decide (z < st.length) := by
      by_cases c : z < st.length
      · rw [decide_eq_true c, decide_eq_true ⟨c1, c⟩]
      · rw [decide_eq_false c, decide_eq_false fun h => c h.2]
    rw [e] at k
    exact k
  · have e : decide (0 ≤ z ∧ z < st.length) = false := decide_eq_false fun h => c1 h.1
    rw [e] at k
    exact k

end
end K30
set_option maxRecDepth 100000
set_option maxHeartbeats 4000000
namespace K30
open PySem PySem.Spec PyProof.Rows L2 L3
local macro_rules | `(tactic| walk_at "s1") => `(tactic| first
  | with_reducible refine r_seq ?_
  | with_reducible refine r_asgN ?_
  | with_reducible refine r_ret ?_
  | with_reducible refine r_next ?_
  | ((with_reducible refine' r_var ?hv ?_); (case hv => exact rfl))
  | with_reducible refine r_c ?_
  | with_reducible refine r_op ?_
  | with_reducible refine r_cons ?_
  | with_reducible refine r_nil ?_
  | with_reducible refine r_plusI ?_
  | with_reducible refine r_I0 ?_
  | with_reducible refine r_test ?_
  | with_reducible refine r_bl ?_
  | with_reducible refine r_ifS ?_
  | with_reducible refine r_cb ?_
  | with_reducible refine r_callS ?_
  | with_reducible refine r_and ?_
  | with_reducible refine r_or ?_
  | with_reducible refine r_not ?_
  | with_reducible refine r_B ?_
  | ((with_reducible refine' r_aug ?hv ?_); (case hv => exact rfl))
  | with_reducible refine r_augS ?_
  | with_reducible refine r_ipI ?_
  | with_reducible refine r_asg ?_
  | with_reducible refine r_sub ?_
  | with_reducible refine r_brk ?_
  | with_reducible refine r_isN1 ?_
  | with_reducible refine r_notN1 ?_
  | with_reducible refine r_intI ?_
  | with_reducible refine r_abs ?_
  | with_reducible refine r_min ?_
  | with_reducible refine r_max ?_
  | ((with_reducible refine' r_mod ?hz ?_); (case hz => omega))
  | ((with_reducible refine' r_pow ?hz ?_); (case hz => exact ⟨by decide, by decide, by decide⟩))
  | ((with_reducible refine' r_rg1 ?hz ?_); (case hz => omega))
  | ((with_reducible refine' r_rg2 ?hz ?_); (case hz => omega))
  | ((with_reducible refine' r_newL ?hz ?_); (case hz => exact Nat.le_of_ble_eq_true rfl))
  | ((with_reducible refine' r_newT ?hz ?_); (case hz => exact Nat.le_of_ble_eq_true rfl))
  | with_reducible refine r_for ?_
  | with_reducible refine r_lc ?_
  | with_reducible refine r_iR1 ?_
  | with_reducible refine r_iR2 ?_
  | with_reducible refine r_iL ?_
  | with_reducible refine r_iT ?_
  | with_reducible refine r_gname ?_
  | with_reducible refine r_gcons ?_
  | with_reducible refine r_gnil ?_
  | with_reducible refine r_yes ?_
  | with_reducible refine r_mkO ?_
  | with_reducible refine r_cont ?_
  | with_reducible refine r_drop ?_
  | with_reducible refine r_retN ?_
  | with_reducible refine r_ifC ?_
  | with_reducible refine r_ifI ?_
  | with_reducible refine r_if ?_
  | with_reducible refine r_un ?_
  | with_reducible refine r_neg ?_
  | with_reducible refine r_andV ?_
  | with_reducible refine r_orV ?_
  | with_reducible refine r_notV ?_
  | with_reducible refine r_tup ?_
  | with_reducible refine r_lst ?_
  | with_reducible refine r_bm ?_
  | with_reducible refine r_bm0 ?_
  | with_reducible refine r_sl ?_
  | with_reducible refine r_chain ?_
  | with_reducible refine r_listDn ?_
  | with_reducible refine r_listRg2 ?_
  | with_reducible refine r_revL ?_
  | with_reducible refine r_noPart ?_
  | with_reducible refine r_part ?_
  | with_reducible refine r_int ?_
  | ((with_reducible refine' r_sameS ?hs ?_); (case hs => exact rfl))
  | ((with_reducible refine' r_otherS ?hs ?_); (case hs => exact rfl))
  | with_reducible refine ite_t ?_
  | with_reducible refine ite_f ?_
  | with_reducible refine ite_nt ?_
  | with_reducible refine ite_nf ?_)
local macro_rules | `(tactic| walk_at "st") => `(tactic| repeat (walk_at "s1"))

section
variable {P : Program} {w : World} {K : PySem.W.Frag} {mg : Str → Option Value} {base : Heap}
/-! ### the whole table is right -/
def BadSt (st : List (List Int)) (m : Int) (what : Str) : Prop := ((m < 1 ∨ ∃ row ∈ st, (row.length : Int) ≠ m) ∧ what = "letters") ∨ ((1 ≤ m ∧ ∀ row ∈ st, (row.length : Int) = m) ∧ (st = [] ∨ ∃ row ∈ st, ∃ z ∈ row, ¬ (0 ≤ z ∧ z < st.length)) ∧ what = "state")
def GoodSt (st : List (List Int)) (m : Int) : Prop := (1 ≤ m ∧ ∀ row ∈ st, (row.length : Int) = m) ∧ st ≠ [] ∧ ∀ row ∈ st, ∀ z ∈ row, 0 ≤ z ∧ z < st.length
def spCSt (K : PySem.W.Frag) : Sp := fun vs H Q E => ∃ (p : Addr) (st : List (List Int)) (m : Int), vs = [.ref p, .int m] ∧ Tb K H p st ∧ (∀ what, BadSt st m what → Bad K E H "BadCheck" what) ∧ (GoodSt st m → Q .non H)
theorem sc_check_states : FnScope ["states", "letters", "row", "number"] ["states", "letters"] (defScope s_check_states) := ⟨rfl, rfl, rfl, by decide +kernel, rfl, by decide +kernel, by decide +kernel⟩
theorem ok_check_states (T : Txt w K mg) : CalG P w K mg base 5 "check_states" ["states", "letters"] (spCSt K) := by
  have c_BadCheck : ErrI P w K mg base "BadCheck" ["self", "what"] _ := ci_BadCheck T
  have c_check_widths := ok_check_widths (P := P) (base := base) T
  have c_is_state := ok_is_state (P := P) (base := base) T
  refine calG_of T.g_check_states T.d_check_states sc_check_states (fun _ _ _ _ _ _ _ us hl => match us, hl with | [_, _], _ => rfl) (fun vs H Q E h => by obtain ⟨_, _, _, rfl, _⟩ := h; rfl) (fun cdv A outer s H vs Q E hr h => ?_)
  have nd := sc_check_states.nd
  have hu := hu64 hr
  obtain ⟨p, st, m, rfl, hp, b, k⟩ := h
  obtain ⟨xs, h1, h2, h3⟩ := hp.get
  refine ⟨_, (pss_cons (ps_expr (pe_cal c_check_widths hr (by omega) (fun σ => L2N.passAt (L2N.takes_of rfl rfl rfl rfl) σ) (pa_cons (pv 0) (pa_cons (pv 1) pa_nil))))
        (pss_cons (ps_if (pt_cmpR (sameK (K := K) hu) (pe_callB (lenK (K := K)) (by rfl) T.f_len boot_len (pa_cons (pv 0) pa_nil)) pe_int (nomark _)) (pss_one (L2N.ps_raise rfl (L2N.takes_of rfl rfl rfl rfl) (pmk_errI T.e_BadCheck c_BadCheck hr (by decide) T.g_BadCheck (pa_cons pe_str pa_nil)))) pss_nil)
        (pss_one (ps_for (passes_of rfl) rfl (piL (K := K) (pv 0)) (pg_name (i := 2) nd rfl (Or.inl rfl)) (pss_one (ps_for (passes_of rfl) rfl (piS (K := K) (pv 2)) (pg_name (i := 3) nd rfl (Or.inl rfl)) (pss_one (ps_if (pt_not (pt_val (pe_cal c_is_state hr (by omega) (fun σ => L2N.passAt (L2N.takes_of rfl rfl rfl rfl) σ) (pa_cons (pv 3) (pa_cons (pv 0) pa_nil))))) (pss_one (L2N.ps_raise rfl (L2N.takes_of rfl rfl rfl rfl) (pmk_errI T.e_BadCheck c_BadCheck hr (by decide) T.g_BadCheck (pa_cons pe_str pa_nil)))) pss_nil)))))))), ?_⟩
  walk_at "st"
  refine ⟨p, st, m, rfl, hp, fun h => b _ (.inl ⟨h, rfl⟩), fun m1 hw => ?_⟩
  walk_at "st"
  refine r_lenL h1 (n := st.length) (by rw [h2]) ?_
  walk_at "st"
  refine ite_d (fun c => ?_) (fun c => ?_)
  · walk_at "st"
    exact r_mk1 (b _ (.inr ⟨⟨m1, hw⟩, .inl (List.eq_nil_of_length_eq_zero (by have := V.int.inj c; omega)), rfl⟩))
  walk_at "st"
  refine r_li h1 ?_
  refine forW_list (fun i σ' H' => ∃ v1 v2, σ' = [some (.ref p), some (.int m), v1, v2] ∧ H = H' ∧ ∀ row ∈ st.take i, ∀ z ∈ row, 0 ≤ z ∧ z < st.length) ⟨none, none, rfl, rfl, fun s h => by rw [List.take_zero] at h; cases h⟩ (fun i σ' H' _ ⟨_, _, _, e, _⟩ => e ▸ h1) ?_ ?_
  · rintro i x σ' H' hx ⟨v1, v2, rfl, rfl, hall⟩
    have hi : i < st.length := by rw [← h2]; exact (List.getElem?_eq_some_iff.mp hx).1
    have er : st[i]? = some st[i] := List.getElem?_eq_getElem hi
    obtain ⟨a, ea, ha⟩ := h3 i _ er
    rw [hx] at ea
    cases ea
    walk_at "st"
    refine r_iSv ha rfl (fun J hJ => ?_)
    refine forW_seq hJ (fun t σ' H' => ∃ v2, σ' = [some (.ref p), some (.int m), some (.ref a), v2] ∧ H = H' ∧ ∀ z ∈ st[i].take t, 0 ≤ z ∧ z < st.length) ⟨v2, rfl, rfl, fun s h => by rw [List.take_zero] at h; cases h⟩ (fun t σ' H' ⟨_, _, e, _⟩ => e ▸ Ext.rfl) ?_ ?_
    · rintro t y σ' H' hy ⟨v2, rfl, rfl, hall2⟩
      rw [List.getElem?_map] at hy
      obtain ⟨z, hz, rfl⟩ := Option.map_eq_some_iff.mp hy
      walk_at "st"
      refine ⟨p, st, z, rfl, hp, ?_⟩
      walk_at "st"
      refine ite_n (fun c2 => ?_) (fun c2 => ?_)
      · walk_at "st"
        exact r_mk1 (b _ (.inr ⟨⟨m1, hw⟩, .inr ⟨st[i], List.getElem_mem hi, z, List.mem_of_getElem? hz, c2⟩, rfl⟩))
      · walk_at "st"
        refine ⟨_, rfl, rfl, fun s hs => ?_⟩
        rw [List.take_succ, hz] at hs
        rcases List.mem_append.mp hs with hs | hs
        · exact hall2 s hs
        · have e : s = z := by simpa using hs
          rw [e]
          exact c2
    · rintro σ' H' ⟨v2, rfl, rfl, hall2⟩
      rw [List.length_map, List.take_length] at hall2
      refine ⟨_, _, rfl, rfl, fun row hrow => ?_⟩
      rw [List.take_succ, er] at hrow
      rcases List.mem_append.mp hrow with hs | hs
      · exact hall row hs
      · have e : row = st[i] := by simpa using hs
        rw [e]
        exact hall2
  · rintro σ' H' ⟨v1, v2, rfl, rfl, hall⟩
    rw [h2, List.take_length] at hall
    walk_at "st"
    exact k ⟨⟨m1, hw⟩, fun e => c (by rw [e]; rfl), hall⟩

/-! ### a row of letters run -/
/-- one step of the table -/
def stp (st : List (List Int)) (s a : Nat) : Nat := ((st.getD s []).getD a 0).toNat
def runF (st : List (List Int)) (m : Int) (s : Nat) (ns : List Int) : Nat := ns.foldl (fun s x => stp st s (x % m).toNat) s
theorem good_row {st : List (List Int)} {m : Int} (g : GoodSt st m) {s : Nat} (hs : s < st.length) : ∃ row, st[s]? = some row ∧ (row.length : Int) = m ∧ ∀ a : Nat, a < row.length → row[a]? = some ((stp st s a : Nat) : Int) ∧ stp st s a < st.length := by
  have er : st[s]? = some st[s] := List.getElem?_eq_getElem hs
  have hm := List.getElem_mem hs
  refine ⟨st[s], er, g.1.2 _ hm, fun a ha => ?_⟩
  have ea : st[s][a]? = some st[s][a] := List.getElem?_eq_getElem ha
  have h := g.2.2 _ hm _ (List.getElem_mem ha)
  have e : stp st s a = (st[s][a]).toNat := by
    have e0 : st.getD s [] = st[s] := by
      rw [List.getD_eq_getElem?_getD, er]
      rfl
    have e1 : (st[s]).getD a 0 = st[s][a] := by
      rw [List.getD_eq_getElem?_getD, ea]
      rfl
    unfold stp
    rw [e0, e1]
  rw [ea, e]
  exact ⟨by rw [Int.toNat_of_nonneg h.1], by omega⟩
theorem run_lt {st : List (List Int)} {m : Int} (g : GoodSt st m) : ∀ (ns : List Int) {s : Nat}, s < st.length → runF st m s ns < st.length
  | [], s, hs => hs
  | x :: ns, s, hs => by
    obtain ⟨row, e, hl, h⟩ := good_row g hs
    have m1 := g.1.1
    exact run_lt g ns (h (x % m).toNat (by have := Int.emod_lt_of_pos x (show 0 < m by omega); have := Int.emod_nonneg x (show m ≠ 0 by omega); omega)).2
/-- states[s][a] of a right table -/
theorem tb_at {K : PySem.W.Frag} {H : Hp} {p : Addr} {st : List (List Int)} {m : Int} (h : Tb K H p st) (g : GoodSt st m) {s : Nat} (hs : s < st.length) : ∃ xs row a, SqL K H p xs ∧ xs[s]? = some (V.ref a) ∧ Seq K H a ((row : List Int).map V.int) ∧ ∀ b : Nat, (b : Int) < m → (row.map V.int)[b]? = some (V.int (stp st s b : Nat)) := by
  obtain ⟨xs, h1, h2, h3⟩ := h.get
  obtain ⟨row, e, hl, hr⟩ := good_row g hs
  obtain ⟨a, ea, ha⟩ := h3 s row e
  refine ⟨xs, row, a, h1, ea, ha, fun b hb => ?_⟩
  rw [List.getElem?_map, (hr b (by omega)).1]
  rfl
structure RunP (K : PySem.W.Frag) (H : Hp) (E : XK) (st : List (List Int)) (m : Int) (ns : List Int) : Prop where
  b1 : 8 < m → Bad K E H "TooMany" "letters"
  b2 : m ≤ 8 → 12 < st.length → Bad K E H "TooMany" "states"
  b3 : m ≤ 8 → st.length ≤ 12 → 4000 < ns.length → Bad K E H "TooMany" "signs"
  b4 : m ≤ 8 → st.length ≤ 12 → ns.length ≤ 4000 → (∃ s ∈ ns, far < s) → Bad K E H "TooMany" "number"
  b5 : m ≤ 8 → st.length ≤ 12 → ns.length ≤ 4000 → (∀ s ∈ ns, s ≤ far) → ∀ what, BadSt st m what → Bad K E H "BadCheck" what
def spRun (K : PySem.W.Frag) : Sp := fun vs H Q E => ∃ (p sg : Addr) (st : List (List Int)) (m : Int) (ns : List Int), vs = [.ref p, .int m, .ref sg] ∧ Tb K H p st ∧ SqL K H sg (ns.map V.int) ∧ RunP K H E st m ns ∧
  (m ≤ 8 → st.length ≤ 12 → ns.length ≤ 4000 → (∀ s ∈ ns, s ≤ far) → GoodSt st m → Q (.int (runF st m 0 ns : Nat)) H)
theorem sc_run_check : FnScope ["states", "letters", "signs", "state", "sign"] ["states", "letters", "signs"] (defScope s_run_check) := ⟨rfl, rfl, rfl, by decide +kernel, rfl, by decide +kernel, by decide +kernel⟩
theorem ok_run_check (T : Txt w K mg) : CalG P w K mg base 7 "run_check" ["states", "letters", "signs"] (spRun K) := by
  have c_bound := ok_bound (P := P) (base := base) T
  have c_check_row := ok_check_row (P := P) (base := base) T
  have c_check_states := ok_check_states (P := P) (base := base) T
  refine calG_of T.g_run_check T.d_run_check sc_run_check (fun _ _ _ _ _ _ _ us hl => match us, hl with | [_, _, _], _ => rfl) (fun vs H Q E h => by obtain ⟨_, _, _, _, _, rfl, _⟩ := h; rfl) (fun cdv A outer s H vs Q E hr h => ?_)
  have nd := sc_run_check.nd
  have hu := hu64 hr
  obtain ⟨p, sg, st, m, ns, rfl, hp, hsg, b, k⟩ := h
  obtain ⟨xs, h1, h2, _⟩ := hp.get
  refine ⟨_, (pss_cons (ps_expr (pe_cal c_bound hr (by omega) (fun σ => L2N.passAt (L2N.takes_of rfl rfl rfl rfl) σ) (pa_cons pe_str (pa_cons (pv 1) pa_nil))))
        (pss_cons (ps_expr (pe_cal c_bound hr (by omega) (fun σ => L2N.passAt (L2N.takes_of rfl rfl rfl rfl) σ) (pa_cons pe_str (pa_cons (pe_callB (lenK (K := K)) (by rfl) T.f_len boot_len (pa_cons (pv 0) pa_nil)) pa_nil))))
        (pss_cons (ps_expr (pe_cal c_check_row hr (by omega) (fun σ => L2N.passAt (L2N.takes_of rfl rfl rfl rfl) σ) (pa_cons (pv 2) pa_nil)))
        (pss_cons (ps_expr (pe_cal c_check_states hr (by omega) (fun σ => L2N.passAt (L2N.takes_of rfl rfl rfl rfl) σ) (pa_cons (pv 0) (pa_cons (pv 1) pa_nil))))
        (pss_cons (ps_set (i := 3) nd rfl (Or.inl rfl) pe_int)
        (pss_cons (ps_for (passes_of rfl) rfl (piL (K := K) (pv 2)) (pg_name (i := 4) nd rfl (Or.inl rfl)) (pss_one (ps_set (i := 3) nd rfl (Or.inl rfl) (pe_ix (ixK (K := K)) (pe_ix (ixK (K := K)) (pv 0) (pv 3) (fun _ _ => rfl)) (pe_op op_mod (pe_callTy cr_int (by rfl) T.f_int (by decide +kernel) (pa_cons (pv 4) pa_nil)) (pv 1)) (fun _ _ => rfl)))))
        (pss_one (ps_ret (pv 3))))))))), ?_⟩
  walk_at "st"
  refine ⟨_, 8, m, rfl, by simp [kv_LIMITS], fun c => b.b1 c, fun c1 => ?_⟩
  have c1 : m ≤ 8 := by omega
  walk_at "st"
  refine r_lenL h1 (n := st.length) (by rw [h2]) ?_
  walk_at "st"
  refine ⟨_, 12, _, rfl, by simp [kv_LIMITS], fun c => b.b2 c1 (by omega), fun c2 => ?_⟩
  have c2 : st.length ≤ 12 := by omega
  walk_at "st"
  refine ⟨sg, ns, rfl, hsg, fun c => b.b3 c1 c2 c, fun c h => b.b4 c1 c2 c h, fun c3 hall => ?_⟩
  walk_at "st"
  refine ⟨p, st, m, rfl, hp, fun what h => b.b5 c1 c2 c3 hall what h, fun g => ?_⟩
  have m1 := g.1.1
  have sp0 : 0 < st.length := by
    cases st with
    | nil => exact absurd rfl g.2.1
    | cons a l => simp
  walk_at "st"
  refine r_li hsg ?_
  refine forW_list (fun i σ' H' => ∃ v, σ' = [some (.ref p), some (.int m), some (.ref sg), some (.int (runF st m 0 (ns.take i) : Nat)), v] ∧ H = H') ⟨none, rfl, rfl⟩ (fun i σ' H' _ ⟨_, _, e⟩ => e ▸ hsg) ?_ ?_
  · rintro i x σ' H' hx ⟨v, rfl, rfl⟩
    rw [List.getElem?_map] at hx
    obtain ⟨z, hz, rfl⟩ := Option.map_eq_some_iff.mp hx
    have hs := run_lt g (ns.take i) sp0
    obtain ⟨xs', row, a, q1, q2, q3, q4⟩ := tb_at hp g hs
    have z0 := Int.emod_nonneg z (show m ≠ 0 by omega)
    have z1 := Int.emod_lt_of_pos z (show 0 < m by omega)
    walk_at "st"
    refine r_atL q1 (atI_nat q2) ?_
    walk_at "st"
    refine r_atA q3 (i := z % m) (v := .int (stp st (runF st m 0 (ns.take i)) (z % m).toNat : Nat)) ?_ ?_
    · rw [show z % m = (((z % m).toNat : Nat) : Int) by omega]
      exact atI_nat (q4 _ (by omega))
    refine ⟨some (.int z), ?_, rfl⟩
    rw [List.take_succ, hz]
    unfold runF
    rw [List.foldl_append]
    rfl
  · rintro σ' H' ⟨v, rfl, rfl⟩
    rw [List.length_map, List.take_length]
    walk_at "st"
    exact k c1 c2 c3 hall g

end
end K30
set_option maxRecDepth 100000
set_option maxHeartbeats 4000000
namespace K30
open PySem PySem.Spec PyProof.Rows L2 L3
local macro_rules | `(tactic| walk_at "s1") => `(tactic| first
  | with_reducible refine r_seq ?_
  | with_reducible refine r_asgN ?_
  | with_reducible refine r_ret ?_
  | with_reducible refine r_next ?_
  | ((with_reducible refine' r_var ?hv ?_); (case hv => exact rfl))
  | with_reducible refine r_c ?_
  | with_reducible refine r_op ?_
  | with_reducible refine r_cons ?_
  | with_reducible refine r_nil ?_
  | with_reducible refine r_plusI ?_
  | with_reducible refine r_I0 ?_
  | with_reducible refine r_test ?_
  | with_reducible refine r_bl ?_
  | with_reducible refine r_ifS ?_
  | with_reducible refine r_cb ?_
  | with_reducible refine r_callS ?_
  | with_reducible refine r_and ?_
  | with_reducible refine r_or ?_
  | with_reducible refine r_not ?_
  | with_reducible refine r_B ?_
  | ((with_reducible refine' r_aug ?hv ?_); (case hv => exact rfl))
  | with_reducible refine r_augS ?_
  | with_reducible refine r_ipI ?_
  | with_reducible refine r_asg ?_
  | with_reducible refine r_sub ?_
  | with_reducible refine r_brk ?_
  | with_reducible refine r_isN1 ?_
  | with_reducible refine r_notN1 ?_
  | with_reducible refine r_intI ?_
  | with_reducible refine r_abs ?_
  | with_reducible refine r_min ?_
  | with_reducible refine r_max ?_
  | ((with_reducible refine' r_mod ?hz ?_); (case hz => omega))
  | ((with_reducible refine' r_pow ?hz ?_); (case hz => exact ⟨by decide, by decide, by decide⟩))
  | ((with_reducible refine' r_rg1 ?hz ?_); (case hz => omega))
  | ((with_reducible refine' r_rg2 ?hz ?_); (case hz => omega))
  | ((with_reducible refine' r_newL ?hz ?_); (case hz => exact Nat.le_of_ble_eq_true rfl))
  | ((with_reducible refine' r_newT ?hz ?_); (case hz => exact Nat.le_of_ble_eq_true rfl))
  | with_reducible refine r_for ?_
  | with_reducible refine r_lc ?_
  | with_reducible refine r_iR1 ?_
  | with_reducible refine r_iR2 ?_
  | with_reducible refine r_iL ?_
  | with_reducible refine r_iT ?_
  | with_reducible refine r_gname ?_
  | with_reducible refine r_gcons ?_
  | with_reducible refine r_gnil ?_
  | with_reducible refine r_yes ?_
  | with_reducible refine r_mkO ?_
  | with_reducible refine r_cont ?_
  | with_reducible refine r_drop ?_
  | with_reducible refine r_retN ?_
  | with_reducible refine r_ifC ?_
  | with_reducible refine r_ifI ?_
  | with_reducible refine r_if ?_
  | with_reducible refine r_un ?_
  | with_reducible refine r_neg ?_
  | with_reducible refine r_andV ?_
  | with_reducible refine r_orV ?_
  | with_reducible refine r_notV ?_
  | with_reducible refine r_tup ?_
  | with_reducible refine r_lst ?_
  | with_reducible refine r_bm ?_
  | with_reducible refine r_bm0 ?_
  | with_reducible refine r_sl ?_
  | with_reducible refine r_chain ?_
  | with_reducible refine r_listDn ?_
  | with_reducible refine r_listRg2 ?_
  | with_reducible refine r_revL ?_
  | with_reducible refine r_noPart ?_
  | with_reducible refine r_part ?_
  | with_reducible refine r_int ?_
  | ((with_reducible refine' r_sameS ?hs ?_); (case hs => exact rfl))
  | ((with_reducible refine' r_otherS ?hs ?_); (case hs => exact rfl))
  | with_reducible refine ite_t ?_
  | with_reducible refine ite_f ?_
  | with_reducible refine ite_nt ?_
  | with_reducible refine ite_nf ?_)
local macro_rules | `(tactic| walk_at "st") => `(tactic| repeat (walk_at "s1"))

section
variable {P : Program} {w : World} {K : PySem.W.Frag} {mg : Str → Option Value} {base : Heap}
theorem flat_len (k : Nat) (v : V) : (List.replicate k [v]).flatten.length = k := by simp
theorem flat_at {m : Int} {n i : Nat} {v : V} (hm : m.toNat = n) (h : i < n) : (List.replicate m.toNat [v]).flatten[i]? = some v := by
  rw [hm, List.flatten_replicate_singleton, List.getElem?_replicate, if_pos h]
theorem set_map {n k : Nat} {f : Nat → Int} {v : Int} : (((List.range n).map fun p => V.int (f p)).set k (.int v)) = (List.range n).map fun p => V.int (if p = k then v else f p) := by
  apply List.ext_getElem?
  intro i
  by_cases c : i < n
  · by_cases e : k = i
    · subst e
      rw [List.getElem?_set_self (by simpa using c), List.getElem?_map, List.getElem?_range c]
      simp
    · rw [List.getElem?_set_ne e, List.getElem?_map, List.getElem?_map, List.getElem?_range c]
      simp
      intro z
      exact absurd z.symm e
  · rw [List.getElem?_eq_none (by simp; omega), List.getElem?_eq_none (by simp; omega)]

/-! ### letters counted -/
def cnt (m : Int) (ns : List Int) (a : Int) : Int := (ns.map fun s => if s % m = a then (1 : Int) else 0).sum
theorem cnt_snoc (m : Int) (ns : List Int) (x a : Int) : cnt m (ns ++ [x]) a = cnt m ns a + if x % m = a then 1 else 0 := by
  unfold cnt
  rw [List.map_append, List.sum_append]
  simp
def lcI (os out put : List Int) : List Int := (List.range os.length).map fun (a : Nat) => (cnt os.length put a - cnt os.length out a) % os.getD a 0
structure LcP' (K : PySem.W.Frag) (H : Hp) (E : XK) (os out put : List Int) : Prop where
  b1 : 8 < os.length → Bad K E H "TooMany" "letters"
  b2 : os.length ≤ 8 → 4000 < out.length → Bad K E H "TooMany" "signs"
  b3 : os.length ≤ 8 → out.length ≤ 4000 → (∃ s ∈ out, far < s) → Bad K E H "TooMany" "number"
  b4 : os.length ≤ 8 → out.length ≤ 4000 → (∀ s ∈ out, s ≤ far) → 4000 < put.length → Bad K E H "TooMany" "signs"
  b5 : os.length ≤ 8 → out.length ≤ 4000 → (∀ s ∈ out, s ≤ far) → put.length ≤ 4000 → (∃ s ∈ put, far < s) → Bad K E H "TooMany" "number"
  b6 : os.length ≤ 8 → out.length ≤ 4000 → (∀ s ∈ out, s ≤ far) → put.length ≤ 4000 → (∀ s ∈ put, s ≤ far) → (os = [] ∨ ∃ o ∈ os, o < 1) → Bad K E H "BadCheck" "letters"
def spLCnt (K : PySem.W.Frag) : Sp := fun vs H Q E => ∃ (op ou pu : Addr) (os out put : List Int), vs = [.ref op, .ref ou, .ref pu] ∧ SqL K H op (os.map V.int) ∧ SqL K H ou (out.map V.int) ∧ SqL K H pu (put.map V.int) ∧ LcP' K H E os out put ∧
  (os.length ≤ 8 → out.length ≤ 4000 → (∀ s ∈ out, s ≤ far) → put.length ≤ 4000 → (∀ s ∈ put, s ≤ far) → os ≠ [] → (∀ o ∈ os, 1 ≤ o) → ∀ q H', H q = none → Ext H H' → H' q = some (.lst ((lcI os out put).map V.int)) → Q (.ref q) H')
theorem sc_letter_counts : FnScope ["orders", "out", "put", "letters", "order", "found", "sign", "at"] ["orders", "out", "put"] (defScope s_letter_counts) := ⟨rfl, rfl, rfl, by decide +kernel, rfl, by decide +kernel, by decide +kernel⟩
theorem ok_letter_counts (T : Txt w K mg) : CalG P w K mg base 7 "letter_counts" ["orders", "out", "put"] (spLCnt K) := by
  have c_BadCheck : ErrI P w K mg base "BadCheck" ["self", "what"] _ := ci_BadCheck T
  have c_bound := ok_bound (P := P) (base := base) T
  have c_check_row := ok_check_row (P := P) (base := base) T
  refine calG_of T.g_letter_counts T.d_letter_counts sc_letter_counts (fun _ _ _ _ _ _ _ us hl => match us, hl with | [_, _, _], _ => rfl) (fun vs H Q E h => by obtain ⟨_, _, _, _, _, _, rfl, _⟩ := h; rfl) (fun cdv A outer s H vs Q E hr h => ?_)
  have nd := sc_letter_counts.nd
  have hu := hu64 hr
  obtain ⟨op, ou, pu, os, out, put, rfl, hop, hou, hpu, b, k⟩ := h
  refine ⟨_, (pss_cons (ps_set (i := 3) nd rfl (Or.inl rfl) (pe_callB (lenK (K := K)) (by rfl) T.f_len boot_len (pa_cons (pv 0) pa_nil)))
        (pss_cons (ps_expr (pe_cal c_bound hr (by omega) (fun σ => L2N.passAt (L2N.takes_of rfl rfl rfl rfl) σ) (pa_cons pe_str (pa_cons (pv 3) pa_nil))))
        (pss_cons (ps_expr (pe_cal c_check_row hr (by omega) (fun σ => L2N.passAt (L2N.takes_of rfl rfl rfl rfl) σ) (pa_cons (pv 1) pa_nil)))
        (pss_cons (ps_expr (pe_cal c_check_row hr (by omega) (fun σ => L2N.passAt (L2N.takes_of rfl rfl rfl rfl) σ) (pa_cons (pv 2) pa_nil)))
        (pss_cons (ps_if (pt_cmpR (sameK (K := K) hu) (pv 3) pe_int (nomark _)) (pss_one (L2N.ps_raise rfl (L2N.takes_of rfl rfl rfl rfl) (pmk_errI T.e_BadCheck c_BadCheck hr (by decide) T.g_BadCheck (pa_cons pe_str pa_nil)))) pss_nil)
        (pss_cons (ps_for (passes_of rfl) rfl (piL (K := K) (pv 0)) (pg_name (i := 4) nd rfl (Or.inl rfl)) (pss_one (ps_if (pt_cmpR op_lt (pv 4) pe_int (nomark _)) (pss_one (L2N.ps_raise rfl (L2N.takes_of rfl rfl rfl rfl) (pmk_errI T.e_BadCheck c_BadCheck hr (by decide) T.g_BadCheck (pa_cons pe_str pa_nil)))) pss_nil)))
        (pss_cons (ps_set (i := 5) nd rfl (Or.inr rfl) (pe_op op_timesB (pe_lst (pa_cons pe_int pa_nil)) (pv 3)))
        (pss_cons (ps_for (passes_of rfl) rfl (piL (K := K) (pv 2)) (pg_name (i := 6) nd rfl (Or.inl rfl)) (pss_one (ps_augS (pv 5) (pe_op op_mod (pe_callTy cr_int (by rfl) T.f_int (by decide +kernel) (pa_cons (pv 6) pa_nil)) (pv 3)) (getLK (K := K)) pe_int ip_add set_list)))
        (pss_cons (ps_for (passes_of rfl) rfl (piL (K := K) (pv 1)) (pg_name (i := 6) nd rfl (Or.inl rfl)) (pss_one (ps_augS (pv 5) (pe_op op_mod (pe_callTy cr_int (by rfl) T.f_int (by decide +kernel) (pa_cons (pv 6) pa_nil)) (pv 3)) (getLK (K := K)) pe_int ip_sub set_list)))
        (pss_one (ps_ret (pe_lc (own := [("at", 7)]) rfl nd (pi_range1 (by rfl) T.f_range (pa_cons (pv 3) pa_nil)) (blkOk_by (N := ["orders", "out", "put", "letters", "order", "found", "sign", "at"]) (sc := defScope s_letter_counts) (by decide +kernel)) (fun _ _ _ _ _ => (pg_name (i := 7) nd rfl (Or.inl rfl))) (fun _ _ _ _ _ => pts_nil) (fun _ _ _ _ _ => (pe_op op_mod (pe_callTy cr_int (by rfl) T.f_int (by decide +kernel) (pa_cons (pe_ix (ixK (K := K)) (pv 5) (pv 7) (fun _ _ => rfl)) pa_nil)) (pe_ix (ixK (K := K)) (pv 0) (pv 7) (fun _ _ => rfl)))))))))))))))), ?_⟩
  walk_at "st"
  refine r_lenL hop (n := os.length) (by rw [List.length_map]) ?_
  walk_at "st"
  refine ⟨_, 8, _, rfl, by simp [kv_LIMITS], fun c => b.b1 (by omega), fun c1 => ?_⟩
  have c1 : os.length ≤ 8 := by omega
  walk_at "st"
  refine ⟨ou, out, rfl, hou, fun c => b.b2 c1 c, fun c h => b.b3 c1 c h, fun c2 h2 => ?_⟩
  walk_at "st"
  refine ⟨pu, put, rfl, hpu, fun c => b.b4 c1 c2 h2 c, fun c h => b.b5 c1 c2 h2 c h, fun c3 h3 => ?_⟩
  walk_at "st"
  refine ite_d (fun c => ?_) (fun c => ?_)
  · walk_at "st"
    exact r_mk1 (b.b6 c1 c2 h2 c3 h3 (.inl (List.eq_nil_of_length_eq_zero (by have := V.int.inj c; omega))))
  have os0 : os ≠ [] := fun e => c (by rw [e]; rfl)
  have m1 : 0 < os.length := List.length_pos_iff.mpr os0
  walk_at "st"
  refine r_li hop ?_
  refine forW_list (fun i σ' H' => ∃ v, σ' = [some (.ref op), some (.ref ou), some (.ref pu), some (.int os.length), v, none, none, none] ∧ H = H' ∧ ∀ o ∈ os.take i, 1 ≤ o) ⟨none, rfl, rfl, fun s h => by rw [List.take_zero] at h; cases h⟩ (fun i σ' H' _ ⟨_, _, e, _⟩ => e ▸ hop) ?_ ?_
  · rintro i x σ' H' hx ⟨v, rfl, rfl, hall⟩
    rw [List.getElem?_map] at hx
    obtain ⟨z, hz, rfl⟩ := Option.map_eq_some_iff.mp hx
    walk_at "st"
    refine ite_d (fun c => ?_) (fun c => ?_)
    · walk_at "st"
      exact r_mk1 (b.b6 c1 c2 h2 c3 h3 (.inr ⟨z, List.mem_of_getElem? hz, c⟩))
    · walk_at "st"
      refine ⟨_, rfl, rfl, fun s hs => ?_⟩
      rw [List.take_succ, hz] at hs
      rcases List.mem_append.mp hs with hs | hs
      · exact hall s hs
      · have e : s = z := by simpa using hs
        rw [e]
        omega
  rintro σ' H' ⟨v, rfl, rfl, hall⟩
  rw [List.length_map, List.take_length] at hall
  walk_at "st"
  intro a1 H1 ha1 e1 h1
  walk_at "st"
  refine r_repL h1 (by omega) (by omega) (by simp; omega) (fun f H2 hf e2 h2' => ?_)
  have e02 := e1.trans e2
  have hfH : H f = none := e1.none hf
  walk_at "st"
  have md : ∀ z : Int, 0 ≤ z % (os.length : Int) ∧ z % (os.length : Int) < os.length := fun z => ⟨Int.emod_nonneg _ (by omega), Int.emod_lt_of_pos _ (by omega)⟩
  have bump : ∀ (g : Nat → Int) (z d : Int), ((List.range os.length).map fun a => V.int (g a)).set (z % (os.length : Int)).toNat (.int (g (z % (os.length : Int)).toNat + d)) = (List.range os.length).map fun (a : Nat) => V.int (g a + if z % (os.length : Int) = (a : Int) then d else 0) := fun g z d => by
    rw [set_map]
    refine List.map_congr_left fun a _ => ?_
    have := md z
    congr 1
    by_cases c : a = (z % (os.length : Int)).toNat
    · rw [if_pos c, if_pos (by omega), c]
    · rw [if_neg c, if_neg (by omega)]; omega
  refine r_li (e02.l hpu) ?_
  refine forW_list (fun i σ' H' => ∃ v6, σ' = [some (.ref op), some (.ref ou), some (.ref pu), some (.int os.length), v, some (.ref f), v6, none] ∧ Ext H H' ∧ H' f = some (.lst ((List.range os.length).map fun (a : Nat) => V.int (cnt os.length (put.take i) a)))) ⟨none, rfl, e02, ?_⟩ (fun i σ' H' _ ⟨_, _, e, _⟩ => e.l hpu) ?_ ?_
  · rw [h2']
    congr 2
    apply List.ext_getElem?
    intro i
    by_cases c : i < os.length
    · rw [flat_at (n := os.length) (by omega) c, List.getElem?_map, List.getElem?_range c]
      rfl
    · rw [List.getElem?_eq_none (by simp; omega), List.getElem?_eq_none (by simp; omega)]
  · rintro i x σ' H3 hx ⟨v6, rfl, e3, h3⟩
    rw [List.getElem?_map] at hx
    obtain ⟨z, hz, rfl⟩ := Option.map_eq_some_iff.mp hx
    have mz := md z
    walk_at "st"
    refine r_getL (sqL h3) (by omega) (v := .int (cnt os.length (put.take i) ((z % (os.length : Int)).toNat : Nat))) ?_ ?_
    · rw [List.getElem?_map, List.getElem?_range (by omega)]
      rfl
    walk_at "st"
    refine r_setL (j := (z % (os.length : Int)).toNat) h3 (by omega) (by rw [List.length_map, List.length_range]; omega) (fun H4 h4 n4 => ?_)
    rw [bump] at h4
    refine ⟨_, rfl, mut_ext e3 hfH n4, ?_⟩
    rw [h4, List.take_succ, hz]
    congr 2
    refine List.map_congr_left fun a _ => ?_
    rw [← cnt_snoc]
    rfl
  rintro σ' H3 ⟨v6, rfl, e3, h3'⟩
  rw [List.length_map, List.take_length] at h3'
  walk_at "st"
  refine r_li (e3.l hou) ?_
  refine forW_list (fun i σ' H' => ∃ v6, σ' = [some (.ref op), some (.ref ou), some (.ref pu), some (.int os.length), v, some (.ref f), v6, none] ∧ Ext H H' ∧ H' f = some (.lst ((List.range os.length).map fun (a : Nat) => V.int (cnt os.length put a - cnt os.length (out.take i) a)))) ⟨_, rfl, e3, ?_⟩ (fun i σ' H' _ ⟨_, _, e, _⟩ => e.l hou) ?_ ?_
  · rw [h3']
    congr 2
    refine List.map_congr_left fun a _ => ?_
    rw [List.take_zero]
    show V.int (cnt _ put a) = V.int (cnt _ put a - 0)
    rw [Int.sub_zero]
  · rintro i x σ' H4 hx ⟨v6, rfl, e4, h4⟩
    rw [List.getElem?_map] at hx
    obtain ⟨z, hz, rfl⟩ := Option.map_eq_some_iff.mp hx
    have mz := md z
    walk_at "st"
    refine r_getL (sqL h4) (by omega) (v := .int (cnt os.length put ((z % (os.length : Int)).toNat : Nat) - cnt os.length (out.take i) ((z % (os.length : Int)).toNat : Nat))) ?_ ?_
    · rw [List.getElem?_map, List.getElem?_range (by omega)]
      rfl
    walk_at "st"
    refine r_setL (j := (z % (os.length : Int)).toNat) h4 (by omega) (by rw [List.length_map, List.length_range]; omega) (fun H5 h5 n5 => ?_)
    rw [Int.sub_eq_add_neg, bump (fun a => cnt os.length put a - cnt os.length (out.take i) a)] at h5
    refine ⟨_, rfl, mut_ext e4 hfH n5, ?_⟩
    rw [h5, List.take_succ, hz]
    congr 2
    refine List.map_congr_left fun a _ => ?_
    congr 1
    show _ = cnt _ put a - cnt _ (out.take i ++ [z]) a
    rw [cnt_snoc]
    split <;> omega
  rintro σ' H4 ⟨v7, rfl, e4, h4⟩
  rw [List.length_map, List.take_length] at h4
  walk_at "st"
  intro D hD
  rw [show ((os.length : Int)).toNat = os.length by omega]
  refine lcW_range (LcP H4 D fun a => .int ((cnt os.length put a - cnt os.length out a) % os.getD a 0)) (.start hD) (fun i H5 hi pl => ?_) (fun H5 pl => ?_)
  · have eo : os[i]? = some (os.getD i 0) := by rw [List.getD_eq_getElem?_getD, List.getElem?_eq_getElem hi]; rfl
    have ho := hall (os.getD i 0) (List.mem_of_getElem? eo)
    walk_at "st"
    refine r_lcW rfl ?_
    walk_at "st"
    rw [Int.zero_add]
    refine r_atL (sqL (pl.e _ _ h4)) (atI_nat (j := i) (v := .int (cnt os.length put i - cnt os.length out i)) ?_) ?_
    · rw [List.getElem?_map, List.getElem?_range hi]
      rfl
    walk_at "st"
    refine r_atL ((e4.trans pl.e).l hop) (atI_nat (j := i) (v := .int (os.getD i 0)) (by rw [List.getElem?_map, eo]; rfl)) ?_
    refine r_mod (by omega) ?_
    exact pl.push hD (by omega) .rfl rfl
  · refine k c1 c2 h2 c3 h3 os0 hall D H5 (e4.none hD) (e4.trans pl.e) ?_
    rw [pl.d]
    unfold lcI
    rw [List.map_map]
    rfl

end
end K30
set_option maxRecDepth 100000
set_option maxHeartbeats 4000000
namespace K30
open PySem PySem.Spec PyProof.Rows L2 L3
local macro_rules | `(tactic| walk_at "s1") => `(tactic| first
  | with_reducible refine r_seq ?_
  | with_reducible refine r_asgN ?_
  | with_reducible refine r_ret ?_
  | with_reducible refine r_next ?_
  | ((with_reducible refine' r_var ?hv ?_); (case hv => exact rfl))
  | with_reducible refine r_c ?_
  | with_reducible refine r_op ?_
  | with_reducible refine r_cons ?_
  | with_reducible refine r_nil ?_
  | with_reducible refine r_plusI ?_
  | with_reducible refine r_I0 ?_
  | with_reducible refine r_test ?_
  | with_reducible refine r_bl ?_
  | with_reducible refine r_ifS ?_
  | with_reducible refine r_cb ?_
  | with_reducible refine r_callS ?_
  | with_reducible refine r_and ?_
  | with_reducible refine r_or ?_
  | with_reducible refine r_not ?_
  | with_reducible refine r_B ?_
  | ((with_reducible refine' r_aug ?hv ?_); (case hv => exact rfl))
  | with_reducible refine r_augS ?_
  | with_reducible refine r_ipI ?_
  | with_reducible refine r_asg ?_
  | with_reducible refine r_sub ?_
  | with_reducible refine r_brk ?_
  | with_reducible refine r_isN1 ?_
  | with_reducible refine r_notN1 ?_
  | with_reducible refine r_intI ?_
  | with_reducible refine r_abs ?_
  | with_reducible refine r_min ?_
  | with_reducible refine r_max ?_
  | ((with_reducible refine' r_mod ?hz ?_); (case hz => omega))
  | ((with_reducible refine' r_pow ?hz ?_); (case hz => exact ⟨by decide, by decide, by decide⟩))
  | ((with_reducible refine' r_rg1 ?hz ?_); (case hz => omega))
  | ((with_reducible refine' r_rg2 ?hz ?_); (case hz => omega))
  | ((with_reducible refine' r_newL ?hz ?_); (case hz => exact Nat.le_of_ble_eq_true rfl))
  | ((with_reducible refine' r_newT ?hz ?_); (case hz => exact Nat.le_of_ble_eq_true rfl))
  | with_reducible refine r_for ?_
  | with_reducible refine r_lc ?_
  | with_reducible refine r_iR1 ?_
  | with_reducible refine r_iR2 ?_
  | with_reducible refine r_iL ?_
  | with_reducible refine r_iT ?_
  | with_reducible refine r_gname ?_
  | with_reducible refine r_gcons ?_
  | with_reducible refine r_gnil ?_
  | with_reducible refine r_yes ?_
  | with_reducible refine r_mkO ?_
  | with_reducible refine r_cont ?_
  | with_reducible refine r_drop ?_
  | with_reducible refine r_retN ?_
  | with_reducible refine r_ifC ?_
  | with_reducible refine r_ifI ?_
  | with_reducible refine r_if ?_
  | with_reducible refine r_un ?_
  | with_reducible refine r_neg ?_
  | with_reducible refine r_andV ?_
  | with_reducible refine r_orV ?_
  | with_reducible refine r_notV ?_
  | with_reducible refine r_tup ?_
  | with_reducible refine r_lst ?_
  | with_reducible refine r_bm ?_
  | with_reducible refine r_bm0 ?_
  | with_reducible refine r_sl ?_
  | with_reducible refine r_chain ?_
  | with_reducible refine r_listDn ?_
  | with_reducible refine r_listRg2 ?_
  | with_reducible refine r_revL ?_
  | with_reducible refine r_noPart ?_
  | with_reducible refine r_part ?_
  | with_reducible refine r_int ?_
  | ((with_reducible refine' r_sameS ?hs ?_); (case hs => exact rfl))
  | ((with_reducible refine' r_otherS ?hs ?_); (case hs => exact rfl))
  | with_reducible refine ite_t ?_
  | with_reducible refine ite_f ?_
  | with_reducible refine ite_nt ?_
  | with_reducible refine ite_nf ?_)
local macro_rules | `(tactic| walk_at "st") => `(tactic| repeat (walk_at "s1"))

section
variable {P : Program} {w : World} {K : PySem.W.Frag} {mg : Str → Option Value} {base : Heap}
/-! ### a letter often -/
def itF (f : Nat → Nat) : Nat → Nat → Nat
  | 0, s => s
  | k + 1, s => f (itF f k s)
theorem itF_add (f : Nat → Nat) (a : Nat) : ∀ b s, itF f (a + b) s = itF f b (itF f a s)
  | 0, s => rfl
  | b + 1, s => by show f (itF f (a + b) s) = f (itF f b (itF f a s)); rw [itF_add f a b s]
theorem itF_ring {f : Nat → Nat} {s j t : Nat} (h : itF f t s = itF f j s) (hjt : j < t) : ∀ k, itF f (j + k) s = itF f (j + k % (t - j)) s := by
  intro k
  induction k using Nat.strongRecOn with
  | _ k ih =>
    by_cases c : k < t - j
    · rw [Nat.mod_eq_of_lt c]
    · have e : k % (t - j) = (k - (t - j)) % (t - j) := by rw [Nat.mod_eq_sub_mod (by omega)]
      rw [e, ← ih (k - (t - j)) (by omega)]
      have e1 : j + k = t + (k - (t - j)) := by omega
      rw [e1, itF_add, itF_add, h]
def flI (l : List Int) : (l.map V.int).all flatV = true := by
  rw [List.all_eq_true]
  intro x hx
  obtain ⟨i, _, rfl⟩ := List.mem_map.mp hx
  rfl
theorem inV_ints {z : Int} {l : List Int} : inV (.int z) (l.map V.int) = decide (z ∈ l) := by
  unfold inV
  rw [Bool.eq_iff_iff, List.any_eq_true, decide_eq_true_iff]
  constructor
  · rintro ⟨x, hx, e⟩
    obtain ⟨i, hi, rfl⟩ := List.mem_map.mp hx
    have : (i == z) = true := e
    rw [← eq_of_beq this]
    exact hi
  · intro h
    exact ⟨.int z, List.mem_map.mpr ⟨z, h, rfl⟩, by show (z == z) = true; simp⟩
theorem r_notInI {K : PySem.W.Frag} {H : Hp} {Q : VK} {p : Addr} {l : List Int} {z : Int} (h : SqL K H p (l.map V.int)) (k : Q (.bl (!decide (z ∈ l))) H) : rIn K true (.int z) (.ref p) H Q :=
  ⟨p, _, rfl, .inl h, rfl, flI l, by rw [inV_ints]; exact k⟩
theorem r_inI {K : PySem.W.Frag} {H : Hp} {Q : VK} {p : Addr} {l : List Int} {z : Int} (h : SqL K H p (l.map V.int)) (k : Q (.bl (decide (z ∈ l))) H) : rIn K false (.int z) (.ref p) H Q :=
  ⟨p, _, rfl, .inl h, rfl, flI l, by rw [inV_ints]; exact k⟩
theorem r_idxI {K : PySem.W.Frag} {H : Hp} {Q : VK} {p : Addr} {l : List Int} {z : Int} {j : Nat} (h : SqL K H p (l.map V.int)) (hj : l[j]? = some z) (hm : ∀ m y, m < j → l[m]? = some y → y ≠ z) (k : Q (.int (j : Nat)) H) : rIndex K (.ref p) [.int z] H Q :=
  ⟨p, _, .int z, j, .int z, rfl, rfl, h, rfl, flI l, by rw [List.getElem?_map, hj]; rfl, by show (z == z) = true; simp, fun m z' hm' e => by
    rw [List.getElem?_map] at e
    obtain ⟨y, hy, rfl⟩ := Option.map_eq_some_iff.mp e
    show (y == z) = false
    have := hm m y hm' hy
    simpa using this, k⟩
def spOften (K : PySem.W.Frag) : Sp := fun vs H Q _ => ∃ (p : Addr) (st : List (List Int)) (m : Int) (s a : Nat) (many : Int), vs = [.ref p, .int s, .int a, .int many] ∧ Tb K H p st ∧ GoodSt st m ∧ s < st.length ∧ (a : Int) < m ∧ st.length ≤ 9999 ∧ 0 ≤ many ∧ ∀ H', Ext H H' → Q (.int (itF (fun s => stp st s a) many.toNat s : Nat)) H'
theorem it_lt {st : List (List Int)} {m : Int} (g : GoodSt st m) {a : Nat} (ha : (a : Int) < m) {s : Nat} (hs : s < st.length) : ∀ k, itF (fun s => stp st s a) k s < st.length
  | 0 => hs
  | k + 1 => by
    obtain ⟨row, _, hl, h⟩ := good_row g (it_lt g ha hs k)
    exact (h a (by omega)).2
theorem sc_step_often : FnScope ["states", "state", "letter", "many", "way", "first"] ["states", "state", "letter", "many"] (defScope s_step_often) := ⟨rfl, rfl, rfl, by decide +kernel, rfl, by decide +kernel, by decide +kernel⟩
theorem ok_step_often (T : Txt w K mg) : CalG P w K mg base 1 "step_often" ["states", "state", "letter", "many"] (spOften K) := by
  refine calG_of T.g_step_often T.d_step_often sc_step_often (fun _ _ _ _ _ _ _ us hl => match us, hl with | [_, _, _, _], _ => rfl) (fun vs H Q E h => by obtain ⟨_, _, _, _, _, _, rfl, _⟩ := h; rfl) (fun cdv A outer s H vs Q E hr h => ?_)
  have nd := sc_step_often.nd
  have hu := hu64 hr
  obtain ⟨p, st, m, s, a, many, rfl, hp, g, hs, ha, hsz, hm, k⟩ := h
  refine ⟨_, (pss_cons (ps_set (i := 4) nd rfl (Or.inl rfl) (pe_lst pa_nil))
        (pss_cons (ps_while (passes_of rfl) (pt_cmpR (notInK (K := K)) (pv 1) (pv 4) (by rfl)) (pss_cons (ps_if (pt_cmpR (sameK (K := K) hu) (pv 3) (pe_callB (lenK (K := K)) (by rfl) T.f_len boot_len (pa_cons (pv 4) pa_nil)) (nomark _)) (pss_one (ps_ret (pv 1))) pss_nil)
        (pss_cons (ps_expr (peBM (K := K) (pe_bm PySem.F.plainAttrs_list PySem.F.slot_list_append PySem.F.type_list_append mt_append (pv 4) (pa_cons (pv 1) pa_nil))))
        (pss_one (ps_set (i := 1) nd rfl (Or.inl rfl) (pe_ix (ixK (K := K)) (pe_ix (ixK (K := K)) (pv 0) (pv 1) (fun _ _ => rfl)) (pv 2) (fun _ _ => rfl)))))))
        (pss_cons (ps_set (i := 5) nd rfl (Or.inl rfl) (peBM (K := K) (pe_bm PySem.F.plainAttrs_list PySem.F.slot_list_index PySem.F.type_list_index (indexK (K := K)) (pv 4) (pa_cons (pv 1) pa_nil))))
        (pss_one (ps_ret (pe_ix (ixK (K := K)) (pv 4) (pe_op (plusK (K := K)) (pv 5) (pe_op op_mod (pe_op op_sub (pv 3) (pv 5)) (pe_op op_sub (pe_callB (lenK (K := K)) (by rfl) T.f_len boot_len (pa_cons (pv 4) pa_nil)) (pv 5)))) (fun _ _ => rfl))))))), ?_⟩
  walk_at "st"
  intro wy H1 hwy e1 h1
  walk_at "st"
  have lt := it_lt g ha hs
  generalize hf : (fun s => stp st s a) = f at *
  have fe : ∀ x, stp st x a = f x := fun x => by rw [← hf]
  refine whileW (fun μ σ' H' => ∃ t : Nat, μ = st.length + 1 - t ∧ t ≤ st.length ∧ σ' = [some (.ref p), some (.int (itF f t s : Nat)), some (.int a), some (.int many), some (.ref wy), none] ∧ Ext H H' ∧ H' wy = some (.lst ((((List.range t).map fun (i : Nat) => ((itF f i s : Nat) : Int))).map V.int)) ∧
    (∀ i j, i < t → j < t → itF f i s = itF f j s → i = j) ∧ (t : Int) ≤ many) (st.length + 1) ⟨0, rfl, Nat.zero_le _, rfl, e1, h1, fun i j hi => absurd hi (Nat.not_lt_zero _), hm⟩ ?_
  rintro μ σ' H' ⟨t, rfl, ht, rfl, e, hw, inj, htm⟩
  walk_at "st"
  refine r_notInI (sqL hw) ?_
  walk_at "st"
  refine ite_n (fun c => r_N ?_) (fun c => ?_)
  · have tl : t < st.length := by
      have h := Lay.nodup_len st.length ((List.range (t + 1)).map fun i => itF f i s) (Lay.nd_map (fun x hx y hy e => by
        rw [List.mem_range] at hx hy
        by_cases cx : x = t
        · by_cases cy : y = t
          · omega
          · exact absurd (List.mem_map.mpr ⟨y, List.mem_range.mpr (by omega), by rw [← e, cx]⟩) c
        · by_cases cy : y = t
          · exact absurd (List.mem_map.mpr ⟨x, List.mem_range.mpr (by omega), by rw [e, cy]⟩) c
          · exact inj x y (by omega) (by omega) e) List.nodup_range) (fun x hx => by
        obtain ⟨i, _, rfl⟩ := List.mem_map.mp hx
        exact lt i)
      rw [List.length_map, List.length_range] at h
      omega
    walk_at "st"
    refine r_lenL (sqL hw) (n := t) (by rw [List.length_map, List.length_map, List.length_range]) ?_
    walk_at "st"
    refine ite_d (fun c2 => ?_) (fun c2 => ?_)
    · walk_at "st"
      have : many.toNat = t := by have := V.int.inj c2; omega
      rw [← this]
      exact k H' e
    · have c3 : many ≠ t := fun e => c2 (by rw [e])
      walk_at "st"
      refine ⟨.inl ⟨rfl, _, sqL hw⟩, ?_⟩
      walk_at "st"
      refine r_app hw (by rw [List.length_map, List.length_map, List.length_range]; omega) (fun H2 h2 n2 => ?_)
      have e2 : Ext H H2 := mut_ext e hwy n2
      obtain ⟨xs, row, b, q1, q2, q3, q4⟩ := tb_at (hp.ext e2) g (lt t)
      walk_at "st"
      refine r_atL q1 (atI_nat q2) ?_
      walk_at "st"
      refine r_atA q3 (atI_nat (q4 a ha)) ?_
      refine ⟨st.length + 1 - (t + 1), by omega, t + 1, rfl, tl, ?_, e2, ?_, fun i j hi hj e => ?_, by omega⟩
      · rw [fe]
        rfl
      · rw [h2, List.range_succ, List.map_append, List.map_append]
        rfl
      · by_cases cx : i = t
        · by_cases cy : j = t
          · omega
          · exact absurd (List.mem_map.mpr ⟨j, List.mem_range.mpr (by omega), by rw [← e, cx]⟩) c
        · by_cases cy : j = t
          · exact absurd (List.mem_map.mpr ⟨i, List.mem_range.mpr (by omega), by rw [e, cy]⟩) c
          · exact inj i j (by omega) (by omega) e
  · obtain ⟨j, hj, ej⟩ := List.mem_map.mp c
    rw [List.mem_range] at hj
    have ej : itF f j s = itF f t s := by omega
    walk_at "st"
    refine ⟨.inl ⟨rfl, _, sqL hw⟩, ?_⟩
    walk_at "st"
    refine r_idxI (j := j) (sqL hw) (by rw [List.getElem?_map, List.getElem?_range hj]; show some ((itF f j s : Nat) : Int) = _; rw [ej]) (fun m' y hm' hy ey => ?_) ?_
    · rw [List.getElem?_map, List.getElem?_range (by omega)] at hy
      have := inj m' j (by omega) hj (by
        have h := Option.some.inj hy
        rw [ey] at h
        have h : ((itF f m' s : Nat) : Int) = ((itF f t s : Nat) : Int) := h
        omega)
      omega
    walk_at "st"
    refine r_lenL (sqL hw) (n := t) (by rw [List.length_map, List.length_map, List.length_range]) ?_
    walk_at "st"
    have em : (many - (j : Int)) % ((t : Int) - (j : Int)) = (((many.toNat - j) % (t - j) : Nat) : Int) := by
      rw [show many - (j : Int) = ((many.toNat - j : Nat) : Int) by omega, show (t : Int) - (j : Int) = ((t - j : Nat) : Int) by omega, ← Int.natCast_emod]
    rw [em, ← Int.natCast_add]
    have lt2 : (many.toNat - j) % (t - j) < t - j := Nat.mod_lt _ (by omega)
    refine r_atL (sqL hw) (atI_nat (j := j + (many.toNat - j) % (t - j)) (v := .int (itF f (j + (many.toNat - j) % (t - j)) s : Nat)) ?_) ?_
    · rw [List.getElem?_map, List.getElem?_map, List.getElem?_range (by omega)]
      rfl
    rw [← itF_ring ej.symm hj, show j + (many.toNat - j) = many.toNat by omega]
    exact k H' e

/-! ### counts acted -/
def actF (st : List (List Int)) (cs : List Int) : Nat → Nat → Nat
  | 0, s => s
  | i + 1, s => itF (fun s => stp st s i) (cs.getD i 0).toNat (actF st cs i s)
structure ActP (K : PySem.W.Frag) (H : Hp) (E : XK) (st : List (List Int)) (s0 : Int) (cs : List Int) : Prop where
  b1 : 8 < cs.length → Bad K E H "TooMany" "letters"
  b2 : cs.length ≤ 8 → 12 < st.length → Bad K E H "TooMany" "states"
  b3 : cs.length ≤ 8 → st.length ≤ 12 → (∃ c ∈ cs, far < c) → Bad K E H "TooMany" "number"
  b4 : cs.length ≤ 8 → st.length ≤ 12 → (∀ c ∈ cs, c ≤ far) → (cs = [] ∨ ∃ c ∈ cs, c < 0) → Bad K E H "BadCheck" "letters"
  b5 : cs.length ≤ 8 → st.length ≤ 12 → (∀ c ∈ cs, c ≤ far) → cs ≠ [] → (∀ c ∈ cs, 0 ≤ c) → ∀ what, BadSt st cs.length what → Bad K E H "BadCheck" what
  b6 : cs.length ≤ 8 → st.length ≤ 12 → (∀ c ∈ cs, c ≤ far) → cs ≠ [] → (∀ c ∈ cs, 0 ≤ c) → GoodSt st cs.length → ¬ (0 ≤ s0 ∧ s0 < st.length) → Bad K E H "BadCheck" "state"
def spAct (K : PySem.W.Frag) : Sp := fun vs H Q E => ∃ (p cp : Addr) (st : List (List Int)) (s0 : Int) (cs : List Int), vs = [.ref p, .int s0, .ref cp] ∧ Tb K H p st ∧ SqL K H cp (cs.map V.int) ∧ ActP K H E st s0 cs ∧
  (cs.length ≤ 8 → st.length ≤ 12 → (∀ c ∈ cs, c ≤ far) → cs ≠ [] → (∀ c ∈ cs, 0 ≤ c) → GoodSt st cs.length → 0 ≤ s0 ∧ s0 < st.length → ∀ H', Ext H H' → Q (.int (actF st cs cs.length s0.toNat : Nat)) H')
theorem sc_act_counts : FnScope ["states", "state", "counts", "letters", "count", "letter"] ["states", "state", "counts"] (defScope s_act_counts) := ⟨rfl, rfl, rfl, by decide +kernel, rfl, by decide +kernel, by decide +kernel⟩
theorem ok_act_counts (T : Txt w K mg) : CalG P w K mg base 7 "act_counts" ["states", "state", "counts"] (spAct K) := by
  have c_BadCheck : ErrI P w K mg base "BadCheck" ["self", "what"] _ := ci_BadCheck T
  have c_bound := ok_bound (P := P) (base := base) T
  have c_check_states := ok_check_states (P := P) (base := base) T
  have c_is_state := ok_is_state (P := P) (base := base) T
  have c_step_often := ok_step_often (P := P) (base := base) T
  refine calG_of T.g_act_counts T.d_act_counts sc_act_counts (fun _ _ _ _ _ _ _ us hl => match us, hl with | [_, _, _], _ => rfl) (fun vs H Q E h => by obtain ⟨_, _, _, _, _, rfl, _⟩ := h; rfl) (fun cdv A outer s H vs Q E hr h => ?_)
  have nd := sc_act_counts.nd
  have hu := hu64 hr
  obtain ⟨p, cp, st, s0, cs, rfl, hp, hc, b, k⟩ := h
  obtain ⟨xs, h1, h2, _⟩ := hp.get
  refine ⟨_, (pss_cons (ps_set (i := 3) nd rfl (Or.inl rfl) (pe_callB (lenK (K := K)) (by rfl) T.f_len boot_len (pa_cons (pv 2) pa_nil)))
        (pss_cons (ps_expr (pe_cal c_bound hr (by omega) (fun σ => L2N.passAt (L2N.takes_of rfl rfl rfl rfl) σ) (pa_cons pe_str (pa_cons (pv 3) pa_nil))))
        (pss_cons (ps_expr (pe_cal c_bound hr (by omega) (fun σ => L2N.passAt (L2N.takes_of rfl rfl rfl rfl) σ) (pa_cons pe_str (pa_cons (pe_callB (lenK (K := K)) (by rfl) T.f_len boot_len (pa_cons (pv 0) pa_nil)) pa_nil))))
        (pss_cons (ps_for (passes_of rfl) rfl (piL (K := K) (pv 2)) (pg_name (i := 4) nd rfl (Or.inl rfl)) (pss_one (ps_expr (pe_cal c_bound hr (by omega) (fun σ => L2N.passAt (L2N.takes_of rfl rfl rfl rfl) σ) (pa_cons pe_str (pa_cons (pv 4) pa_nil))))))
        (pss_cons (ps_if (pt_cmpR (sameK (K := K) hu) (pv 3) pe_int (nomark _)) (pss_one (L2N.ps_raise rfl (L2N.takes_of rfl rfl rfl rfl) (pmk_errI T.e_BadCheck c_BadCheck hr (by decide) T.g_BadCheck (pa_cons pe_str pa_nil)))) pss_nil)
        (pss_cons (ps_for (passes_of rfl) rfl (piL (K := K) (pv 2)) (pg_name (i := 4) nd rfl (Or.inl rfl)) (pss_one (ps_if (pt_cmpR op_lt (pv 4) pe_int (nomark _)) (pss_one (L2N.ps_raise rfl (L2N.takes_of rfl rfl rfl rfl) (pmk_errI T.e_BadCheck c_BadCheck hr (by decide) T.g_BadCheck (pa_cons pe_str pa_nil)))) pss_nil)))
        (pss_cons (ps_expr (pe_cal c_check_states hr (by omega) (fun σ => L2N.passAt (L2N.takes_of rfl rfl rfl rfl) σ) (pa_cons (pv 0) (pa_cons (pv 3) pa_nil))))
        (pss_cons (ps_if (pt_not (pt_val (pe_cal c_is_state hr (by omega) (fun σ => L2N.passAt (L2N.takes_of rfl rfl rfl rfl) σ) (pa_cons (pv 1) (pa_cons (pv 0) pa_nil))))) (pss_one (L2N.ps_raise rfl (L2N.takes_of rfl rfl rfl rfl) (pmk_errI T.e_BadCheck c_BadCheck hr (by decide) T.g_BadCheck (pa_cons pe_str pa_nil)))) pss_nil)
        (pss_cons (ps_for (passes_of rfl) rfl (pi_range1 (by rfl) T.f_range (pa_cons (pv 3) pa_nil)) (pg_name (i := 5) nd rfl (Or.inl rfl)) (pss_one (ps_set (i := 1) nd rfl (Or.inl rfl) (pe_cal c_step_often hr (by omega) (fun σ => L2N.passAt (L2N.takes_of rfl rfl rfl rfl) σ) (pa_cons (pv 0) (pa_cons (pv 1) (pa_cons (pv 5) (pa_cons (pe_ix (ixK (K := K)) (pv 2) (pv 5) (fun _ _ => rfl)) pa_nil))))))))
        (pss_one (ps_ret (pv 1)))))))))))), ?_⟩
  walk_at "st"
  refine r_lenL hc (n := cs.length) (by rw [List.length_map]) ?_
  walk_at "st"
  refine ⟨_, 8, _, rfl, by simp [kv_LIMITS], fun c => b.b1 (by omega), fun c1 => ?_⟩
  have c1 : cs.length ≤ 8 := by omega
  walk_at "st"
  refine r_lenL h1 (n := st.length) (by rw [h2]) ?_
  walk_at "st"
  refine ⟨_, 12, _, rfl, by simp [kv_LIMITS], fun c => b.b2 c1 (by omega), fun c2 => ?_⟩
  have c2 : st.length ≤ 12 := by omega
  walk_at "st"
  refine r_li hc ?_
  refine forW_list (fun i σ' H' => ∃ v, σ' = [some (.ref p), some (.int s0), some (.ref cp), some (.int cs.length), v, none] ∧ H = H' ∧ ∀ c ∈ cs.take i, c ≤ far) ⟨none, rfl, rfl, fun s h => by rw [List.take_zero] at h; cases h⟩ (fun i σ' H' _ ⟨_, _, e, _⟩ => e ▸ hc) ?_ ?_
  · rintro i x σ' H' hx ⟨v, rfl, rfl, hall⟩
    rw [List.getElem?_map] at hx
    obtain ⟨z, hz, rfl⟩ := Option.map_eq_some_iff.mp hx
    walk_at "st"
    refine ⟨_, far, z, rfl, by simp [kv_LIMITS, far], fun c => b.b3 c1 c2 ⟨z, List.mem_of_getElem? hz, c⟩, fun c => ?_⟩
    walk_at "st"
    refine ⟨_, rfl, rfl, fun s hs => ?_⟩
    rw [List.take_succ, hz] at hs
    rcases List.mem_append.mp hs with hs | hs
    · exact hall s hs
    · have e : s = z := by simpa using hs
      rw [e]
      exact Int.not_lt.mp c
  rintro σ' H' ⟨v, rfl, rfl, hall⟩
  rw [List.length_map, List.take_length] at hall
  walk_at "st"
  refine ite_d (fun c => ?_) (fun c => ?_)
  · walk_at "st"
    exact r_mk1 (b.b4 c1 c2 hall (.inl (List.eq_nil_of_length_eq_zero (by have := V.int.inj c; omega))))
  have cs0 : cs ≠ [] := fun e => c (by rw [e]; rfl)
  walk_at "st"
  refine r_li hc ?_
  refine forW_list (fun i σ' H' => ∃ v, σ' = [some (.ref p), some (.int s0), some (.ref cp), some (.int cs.length), v, none] ∧ H = H' ∧ ∀ c ∈ cs.take i, 0 ≤ c) ⟨_, rfl, rfl, fun s h => by rw [List.take_zero] at h; cases h⟩ (fun i σ' H' _ ⟨_, _, e, _⟩ => e ▸ hc) ?_ ?_
  · rintro i x σ' H' hx ⟨v, rfl, rfl, hall2⟩
    rw [List.getElem?_map] at hx
    obtain ⟨z, hz, rfl⟩ := Option.map_eq_some_iff.mp hx
    walk_at "st"
    refine ite_d (fun c => ?_) (fun c => ?_)
    · walk_at "st"
      exact r_mk1 (b.b4 c1 c2 hall (.inr ⟨z, List.mem_of_getElem? hz, c⟩))
    · walk_at "st"
      refine ⟨_, rfl, rfl, fun s hs => ?_⟩
      rw [List.take_succ, hz] at hs
      rcases List.mem_append.mp hs with hs | hs
      · exact hall2 s hs
      · have e : s = z := by simpa using hs
        rw [e]
        omega
  rintro σ' H' ⟨v2, rfl, rfl, hall2⟩
  rw [List.length_map, List.take_length] at hall2
  walk_at "st"
  refine ⟨p, st, _, rfl, hp, fun what h => b.b5 c1 c2 hall cs0 hall2 what h, fun g => ?_⟩
  walk_at "st"
  refine ⟨p, st, s0, rfl, hp, ?_⟩
  walk_at "st"
  refine ite_n (fun c => ?_) (fun hs => ?_)
  · walk_at "st"
    exact r_mk1 (b.b6 c1 c2 hall cs0 hall2 g c)
  have alt : ∀ i, i ≤ cs.length → actF st cs i s0.toNat < st.length := by
    intro i
    induction i with
    | zero => intro _; show s0.toNat < _; omega
    | succ i ih => intro hi; exact it_lt g (by omega) (ih (by omega)) _
  walk_at "st"
  rw [show ((cs.length : Int)).toNat = cs.length by omega]
  refine forW_range (fun i σ' H' => ∃ v3, σ' = [some (.ref p), some (.int (actF st cs i s0.toNat : Nat)), some (.ref cp), some (.int cs.length), v2, v3] ∧ Ext H H') ⟨none, ?_, .rfl⟩ ?_ ?_
  · show _ = [_, some (V.int ((s0.toNat : Nat) : Int)), _, _, _, _]
    rw [Int.toNat_of_nonneg hs.1]
  · rintro i σ' H' hi ⟨v3, rfl, e⟩
    have eo : cs[i]? = some (cs.getD i 0) := by rw [List.getD_eq_getElem?_getD, List.getElem?_eq_getElem hi]; rfl
    walk_at "st"
    rw [Int.zero_add]
    refine r_atL (e.l hc) (atI_nat (j := i) (v := .int (cs.getD i 0)) (by rw [List.getElem?_map, eo]; rfl)) ?_
    walk_at "st"
    refine ⟨p, st, _, _, i, _, rfl, hp.ext e, g, alt i (by omega), by omega, by omega, hall2 _ (List.mem_of_getElem? eo), fun H2 e2 => ?_⟩
    exact ⟨some (.int (i : Int)), rfl, e.trans e2⟩
  · rintro σ' H' ⟨v3, rfl, e⟩
    walk_at "st"
    exact k c1 c2 hall cs0 hall2 g hs H' e

end
end K30
set_option maxRecDepth 100000
set_option maxHeartbeats 4000000
namespace K30
open PySem PySem.Spec PyProof.Rows L2 L3
local macro_rules | `(tactic| walk_at "s1") => `(tactic| first
  | with_reducible refine r_seq ?_
  | with_reducible refine r_asgN ?_
  | with_reducible refine r_ret ?_
  | with_reducible refine r_next ?_
  | ((with_reducible refine' r_var ?hv ?_); (case hv => exact rfl))
  | with_reducible refine r_c ?_
  | with_reducible refine r_op ?_
  | with_reducible refine r_cons ?_
  | with_reducible refine r_nil ?_
  | with_reducible refine r_plusI ?_
  | with_reducible refine r_I0 ?_
  | with_reducible refine r_test ?_
  | with_reducible refine r_bl ?_
  | with_reducible refine r_ifS ?_
  | with_reducible refine r_cb ?_
  | with_reducible refine r_callS ?_
  | with_reducible refine r_and ?_
  | with_reducible refine r_or ?_
  | with_reducible refine r_not ?_
  | with_reducible refine r_B ?_
  | ((with_reducible refine' r_aug ?hv ?_); (case hv => exact rfl))
  | with_reducible refine r_augS ?_
  | with_reducible refine r_ipI ?_
  | with_reducible refine r_asg ?_
  | with_reducible refine r_sub ?_
  | with_reducible refine r_brk ?_
  | with_reducible refine r_isN1 ?_
  | with_reducible refine r_notN1 ?_
  | with_reducible refine r_intI ?_
  | with_reducible refine r_abs ?_
  | with_reducible refine r_min ?_
  | with_reducible refine r_max ?_
  | ((with_reducible refine' r_mod ?hz ?_); (case hz => omega))
  | ((with_reducible refine' r_pow ?hz ?_); (case hz => exact ⟨by decide, by decide, by decide⟩))
  | ((with_reducible refine' r_rg1 ?hz ?_); (case hz => omega))
  | ((with_reducible refine' r_rg2 ?hz ?_); (case hz => omega))
  | ((with_reducible refine' r_newL ?hz ?_); (case hz => exact Nat.le_of_ble_eq_true rfl))
  | ((with_reducible refine' r_newT ?hz ?_); (case hz => exact Nat.le_of_ble_eq_true rfl))
  | with_reducible refine r_for ?_
  | with_reducible refine r_lc ?_
  | with_reducible refine r_iR1 ?_
  | with_reducible refine r_iR2 ?_
  | with_reducible refine r_iL ?_
  | with_reducible refine r_iT ?_
  | with_reducible refine r_gname ?_
  | with_reducible refine r_gcons ?_
  | with_reducible refine r_gnil ?_
  | with_reducible refine r_yes ?_
  | with_reducible refine r_mkO ?_
  | with_reducible refine r_cont ?_
  | with_reducible refine r_drop ?_
  | with_reducible refine r_retN ?_
  | with_reducible refine r_ifC ?_
  | with_reducible refine r_ifI ?_
  | with_reducible refine r_if ?_
  | with_reducible refine r_un ?_
  | with_reducible refine r_neg ?_
  | with_reducible refine r_andV ?_
  | with_reducible refine r_orV ?_
  | with_reducible refine r_notV ?_
  | with_reducible refine r_tup ?_
  | with_reducible refine r_lst ?_
  | with_reducible refine r_bm ?_
  | with_reducible refine r_bm0 ?_
  | with_reducible refine r_sl ?_
  | with_reducible refine r_chain ?_
  | with_reducible refine r_listDn ?_
  | with_reducible refine r_listRg2 ?_
  | with_reducible refine r_revL ?_
  | with_reducible refine r_noPart ?_
  | with_reducible refine r_lenSet ?_
  | with_reducible refine r_part ?_
  | with_reducible refine r_int ?_
  | ((with_reducible refine' r_sameS ?hs ?_); (case hs => exact rfl))
  | ((with_reducible refine' r_otherS ?hs ?_); (case hs => exact rfl))
  | with_reducible refine ite_t ?_
  | with_reducible refine ite_f ?_
  | with_reducible refine ite_nt ?_
  | with_reducible refine ite_nf ?_)
local macro_rules | `(tactic| walk_at "st") => `(tactic| repeat (walk_at "s1"))

section
variable {P : Program} {w : World} {K : PySem.W.Frag} {mg : Str → Option Value} {base : Heap}
/-! ### draws -/
theorem sc__law_source : FnScope ["script", "at", "cell", "size", "small", "one"] ["script", "at"] (defScope s__law_source) := ⟨rfl, rfl, rfl, by decide +kernel, rfl, by decide +kernel, by decide +kernel⟩
theorem ok_law_source (T : Txt w K mg) : CalG P w K mg base 2 "_law_source" ["script", "at"] (spSource K) := by
  refine calG_of T.g__law_source T.d__law_source sc__law_source (fun _ _ _ _ _ _ _ us hl => match us, hl with | [_, _], _ => rfl) (fun vs H Q E h => by obtain ⟨c, k, n, rfl, _⟩ := h; rfl) (fun cdv A outer s H vs Q E hr h => ?_)
  have nd := sc__law_source.nd
  have hu := hu64 hr
  obtain ⟨a, ns, t, rfl, ha, hn, ht, k⟩ := h
  refine ⟨_, (C8.pss_cut (ps_set (i := 2) nd rfl (Or.inl rfl) (pe_ifExp (pt_cmpR op_lt (pv 1) (pe_callB (lenK (K := K)) (by rfl) T.f_len boot_len (pa_cons (pv 0) pa_nil)) (nomark _)) (pe_callTy cr_int (by rfl) T.f_int (by decide +kernel) (pa_cons (pe_ix (ixK (K := K)) (pv 0) (pv 1) (fun _ _ => rfl)) pa_nil)) (pe_op (plusK (K := K)) (pe_op op_timesB pe_int (pe_callB (sumK (K := K) rfl) (by rfl) T.f_sum (by decide +kernel) (pa_cons (pe_lc (own := [("one", 5)]) rfl nd (piL (K := K) (pe_slice (slK (K := K)) (pv 0) po_none (po_some pe_int))) (blkOk_by (N := ["script", "at", "cell", "size", "small", "one"]) (sc := defScope s__law_source) (by decide +kernel)) (fun _ _ _ _ _ => (pg_name (i := 5) nd rfl (Or.inl rfl))) (fun _ _ _ _ _ => pts_nil) (fun _ _ _ _ _ => (pe_op op_mod (pe_callTy cr_int (by rfl) T.f_int (by decide +kernel) (pa_cons (pv 5) pa_nil)) pe_int))) pa_nil))) pe_int)))
        (C8.pss_cut (ps_set (i := 3) nd rfl (Or.inl rfl) (pe_op op_mod (pe_callB cr_abs (by rfl) T.f_abs (by decide +kernel) (pa_cons (pv 2) pa_nil)) (pe_op op_timesB (pe_op op_pow pe_int pe_int) (pe_op op_pow pe_int pe_int))))
        (C8.pss_cut (ps_set (i := 4) nd rfl (Or.inl rfl) (pe_op op_mod (pe_callTy cr_int (by rfl) T.f_int (by decide +kernel) (pa_cons (pe_op (plusK (K := K)) (pe_op (plusK (K := K)) (pe_op (plusK (K := K)) (pe_op op_timesB pe_int (pv 3)) (pe_ifExp (pt_cmpR op_lt (pv 2) pe_int (nomark _)) pe_int pe_int)) (pe_op op_timesB (pv 1) pe_int)) pe_int) pa_nil)) pe_int))
        (pss_one (ps_ret (pe_lst (pa_cons (pe_ifExp (pt_cmpR op_ge (pv 3) (pe_op op_pow pe_int pe_int) (nomark _)) (pv 3) pe_int) (pa_cons (pe_op op_mod (pe_callTy cr_int (by rfl) T.f_int (by decide +kernel) (pa_cons (pe_op op_timesB (pe_op (plusK (K := K)) (pv 4) pe_int) (pe_op (plusK (K := K)) (pv 4) pe_int)) pa_nil)) pe_int) (pa_cons (pv 1) pa_nil))))))))), ?_⟩
  refine r_cut (fun σ' H' => ∃ cell : Int, σ' = [some (.ref a), some (.int t), some (.int cell), none, none, none] ∧ Ext H H') ?_ ?_
  · walk_at "st"
    refine r_lenL ha (by rw [List.length_map]) ?_
    walk_at "st"
    refine ite_d (fun c => ?_) (fun c => ?_)
    · obtain ⟨z, hz⟩ : ∃ z, ns[t]? = some z := ⟨ns[t]'(by omega), by simp⟩
      walk_at "st"
      refine r_atL ha (atI_nat (j := t) (v := .int z) (by rw [List.getElem?_map, hz]; rfl)) ?_
      walk_at "st"
      exact ⟨z, rfl, Ext.rfl⟩
    · walk_at "st"
      refine r_slL ha (fun l H1 hl e1 h1 => ?_)
      have hc : cutV (ns.map V.int) none (some 6) = (ns.take 6).map V.int := by rw [List.map_take]; exact cut_to _ 6
      rw [hc] at h1
      refine r_li (sqL h1) ?_
      intro Dl hD
      refine lcW_list (xs := (ns.take 6).map V.int) (LcP H1 Dl fun i => .int ((ns.take 6).getD i 0 % 999979)) (.start hD) (fun i H' _ p => p.e.l (sqL h1)) ?_ ?_
      · intro i x H' hx p
        obtain ⟨hi, rfl⟩ := ints_get hx
        have hl : (ns.take 6).length ≤ 63 := by rw [List.length_take]; omega
        walk_at "st"
        refine r_lcW rfl ?_
        walk_at "st"
        exact p.push hD (by omega) Ext.rfl rfl
      · intro H' p
        have hd := p.d
        rw [List.length_map, range_ints (ns.take 6) (fun z => z % 999979)] at hd
        walk_at "st"
        refine r_sum (sqL hd) ?_
        refine r_timesB (cmL (by decide) (by decide)) ?_
        walk_at "st"
        exact ⟨_, rfl, e1.trans p.e⟩
  rintro σ' H1 ⟨cell, rfl, e1⟩
  refine r_cut (fun σ' H' => ∃ size : Int, σ' = [some (.ref a), some (.int t), some (.int cell), some (.int size), none, none] ∧ Ext H H') ?_ ?_
  · walk_at "st"
    refine r_timesB (.inl (wide_mul (a := 250) (b := 250) bd128 bd128 (by decide) (by decide) (by decide))) ?_
    refine r_mod pos128 ?_
    exact ⟨_, rfl, e1⟩
  rintro σ' H2 ⟨size, rfl, e2⟩
  refine r_cut (fun σ' H' => ∃ small : Int, σ' = [some (.ref a), some (.int t), some (.int cell), some (.int size), some (.int small), none] ∧ Ext H H' ∧ 0 ≤ small ∧ small < 2147483629) ?_ ?_
  · walk_at "st"
    refine r_timesB (cmL (by decide) (by decide)) ?_
    walk_at "st"
    refine r_timesB (cmR (by decide) (by decide)) ?_
    walk_at "st"
    exact ⟨_, rfl, e2, bd31 _⟩
  rintro σ' H3 ⟨small, rfl, e3, s0, s1⟩
  walk_at "st"
  refine ite_d (fun c => ?_) (fun c => ?_)
  all_goals
    walk_at "st"
    refine r_timesB (cmR (by omega) (by omega)) ?_
    walk_at "st"
    intro p H4 hp e4 h4
    exact k p H4 (e3.none hp) (e3.trans e4) ⟨_, _, _, h4⟩

theorem sc__law_pick : FnScope ["source", "many", "found"] ["source", "many"] (defScope s__law_pick) := ⟨rfl, rfl, rfl, by decide +kernel, rfl, by decide +kernel, by decide +kernel⟩
theorem ok_law_pick (T : Txt w K mg) : CalG P w K mg base 2 "_law_pick" ["source", "many"] spPick := by
  refine calG_of T.g__law_pick T.d__law_pick sc__law_pick (fun _ _ _ _ _ _ _ us hl => match us, hl with | [_, _], _ => rfl) (fun vs H Q E h => by obtain ⟨c, k, rfl, _⟩ := h; rfl) (fun cdv A outer s H vs Q E hr h => ?_)
  have nd := sc__law_pick.nd
  have hu := hu64 hr
  obtain ⟨p, m, rfl, ⟨a, b, c, hp⟩, m0, m1, k⟩ := h
  refine ⟨_, (pss_cons (ps_if (pt_cmpR op_gt (pe_ix (ixK (K := K)) (pv 0) pe_int (fun _ _ => rfl)) pe_int (nomark _)) (pss_cons (ps_set (i := 2) nd rfl (Or.inl rfl) (pe_op op_mod (pe_callTy cr_int (by rfl) T.f_int (by decide +kernel) (pa_cons (pe_ix (ixK (K := K)) (pv 0) pe_int (fun _ _ => rfl)) pa_nil)) (pv 1)))
        (pss_cons (ps_asg (pe_op op_fdivW (pe_ix (ixK (K := K)) (pv 0) pe_int (fun _ _ => rfl)) (pv 1)) (pg_sub (pv 0) pe_int set_list))
        (pss_one (ps_ret (pv 2))))) pss_nil)
        (pss_cons (ps_augS (pv 0) pe_int (getLK (K := K)) pe_int ip_add set_list)
        (pss_cons (ps_asg (pe_op op_mod (pe_callTy cr_int (by rfl) T.f_int (by decide +kernel) (pa_cons (pe_op (plusK (K := K)) (pe_op op_timesB (pe_ix (ixK (K := K)) (pv 0) pe_int (fun _ _ => rfl)) pe_int) (pe_op op_timesB (pe_ix (ixK (K := K)) (pv 0) pe_int (fun _ _ => rfl)) pe_int)) pa_nil)) pe_int) (pg_sub (pv 0) pe_int set_list))
        (pss_one (ps_ret (pe_op op_mod (pe_op op_fdivW (pe_op op_mod (pe_callTy cr_int (by rfl) T.f_int (by decide +kernel) (pa_cons (pe_op (plusK (K := K)) (pe_op op_timesB (pe_ix (ixK (K := K)) (pv 0) pe_int (fun _ _ => rfl)) pe_int) (pe_op op_timesB (pe_ix (ixK (K := K)) (pv 0) pe_int (fun _ _ => rfl)) pe_int)) pa_nil)) pe_int) pe_int) (pv 1))))))), ?_⟩
  walk_at "st"
  refine r_atL (sqL hp) (atI_nat (j := 0) rfl) ?_
  walk_at "st"
  refine ite_d (fun c0 => ?_) (fun c0 => ?_)
  · walk_at "st"
    refine r_atL (sqL hp) (atI_nat (j := 0) rfl) ?_
    walk_at "st"
    refine r_atL (sqL hp) (atI_nat (j := 0) rfl) ?_
    walk_at "st"
    refine r_div (cdW m0 m1) ?_
    walk_at "st"
    refine r_setL (j := 0) hp rfl (by simp) (fun H1 h1 m1 => ?_)
    walk_at "st"
    exact k _ H1 (Int.emod_nonneg _ (by omega)) (Int.emod_lt_of_pos _ m0) ⟨_, _, _, h1⟩ m1
  · walk_at "st"
    refine r_getL (sqL hp) (by decide) rfl ?_
    walk_at "st"
    refine r_setL (j := 2) hp rfl (by simp) (fun H1 h1 n1 => ?_)
    walk_at "st"
    refine r_atL (sqL h1) (atI_nat (j := 1) rfl) ?_
    walk_at "st"
    refine r_timesB (cmR (by decide) (by decide)) ?_
    walk_at "st"
    refine r_atL (sqL h1) (atI_nat (j := 2) rfl) ?_
    walk_at "st"
    refine r_timesB (cmR (by decide) (by decide)) ?_
    walk_at "st"
    refine r_setL (j := 1) h1 rfl (by simp) (fun H2 h2 n2 => ?_)
    walk_at "st"
    refine r_atL (sqL h2) (atI_nat (j := 1) rfl) ?_
    walk_at "st"
    refine r_timesB (cmR (by decide) (by decide)) ?_
    walk_at "st"
    refine r_atL (sqL h2) (atI_nat (j := 2) rfl) ?_
    walk_at "st"
    refine r_timesB (cmR (by decide) (by decide)) ?_
    walk_at "st"
    refine r_div (cdW (by decide) (by decide)) ?_
    walk_at "st"
    exact k _ H2 (Int.emod_nonneg _ (by omega)) (Int.emod_lt_of_pos _ m0) ⟨_, _, _, h2⟩ fun b hb => (n2 b hb).trans (n1 b hb)

theorem sc__law_same : FnScope ["answer", "due", "at", "key"] ["answer", "due"] (defScope s__law_same) := ⟨rfl, rfl, rfl, by decide +kernel, rfl, by decide +kernel, by decide +kernel⟩
theorem ok_law_same (T : Txt w K mg) : ∀ n, CalG P w K mg base (n + 2) "_law_same" ["answer", "due"] (spSame K n)
  | 0 => (calG_false T.g__law_same T.d__law_same (fun _ _ _ _ _ _ _ us hl => match us, hl with | [_, _], _ => rfl)).imp fun vs H Q E ⟨_, _, _, _, _, _, z, _⟩ => z.elim
  | n + 1 => by
    have c__law_same := ok_law_same T n
    refine calG_of T.g__law_same T.d__law_same sc__law_same (fun _ _ _ _ _ _ _ us hl => match us, hl with | [_, _], _ => rfl) (fun vs H Q E h => by obtain ⟨c, k, d, rfl, _⟩ := h; rfl) (fun cdv A outer s H vs Q E hr h => ?_)
    have nd := sc__law_same.nd
    have hu := hu64 hr
    obtain ⟨x, y, d, rfl, hx, hy, hd, k⟩ := h
    refine ⟨_, (pss_cons (ps_if (pt_val (pe_callB (isiTK (K := K)) (by rfl) T.f_isinstance (by decide +kernel) (pa_cons (pv 1) (pa_cons (pe_tup (pa_cons (pe_ty T.f_list) (pa_cons (pe_ty T.f_tuple) pa_nil))) pa_nil)))) (pss_cons (ps_if (PW.pt (pw_or (pt_not (pt_val (pe_callB (isiTK (K := K)) (by rfl) T.f_isinstance (by decide +kernel) (pa_cons (pv 0) (pa_cons (pe_tup (pa_cons (pe_ty T.f_list) (pa_cons (pe_ty T.f_tuple) pa_nil))) pa_nil))))) (pw_or (pt_cmpR (otherK (K := K) hu) (pe_callB (isiK (K := K)) (by rfl) T.f_isinstance (by decide +kernel) (pa_cons (pv 0) (pa_cons (pe_ty T.f_list) pa_nil))) (pe_callB (isiK (K := K)) (by rfl) T.f_isinstance (by decide +kernel) (pa_cons (pv 1) (pa_cons (pe_ty T.f_list) pa_nil))) (nomark _)) (pw_or1 (pt_cmpR (otherK (K := K) hu) (pe_callB (lenK (K := K)) (by rfl) T.f_len boot_len (pa_cons (pv 0) pa_nil)) (pe_callB (lenK (K := K)) (by rfl) T.f_len boot_len (pa_cons (pv 1) pa_nil)) (nomark _)))))) (pss_one (ps_ret pe_bl)) pss_nil)
        (pss_one (ps_ret (pe_callB (allK (K := K) rfl) (by rfl) T.f_all (by decide +kernel) (pa_cons (pe_lc (own := [("at", 2)]) rfl nd (pi_range1 (by rfl) T.f_range (pa_cons (pe_callB (lenK (K := K)) (by rfl) T.f_len boot_len (pa_cons (pv 1) pa_nil)) pa_nil)) (blkOk_by (N := ["answer", "due", "at", "key"]) (sc := defScope s__law_same) (by decide +kernel)) (fun _ _ _ _ _ => (pg_name (i := 2) nd rfl (Or.inl rfl))) (fun _ _ _ _ _ => pts_nil) (fun _ _ _ _ _ => (pe_cal c__law_same hr (by omega) passN (pa_cons (pe_ix (ixK (K := K)) (pv 0) (pv 2) (fun _ _ => rfl)) (pa_cons (pe_ix (ixK (K := K)) (pv 1) (pv 2) (fun _ _ => rfl)) pa_nil))))) pa_nil))))) pss_nil)
        (pss_cons (ps_if (pt_val (pe_callB (isiK (K := K)) (by rfl) T.f_isinstance (by decide +kernel) (pa_cons (pv 1) (pa_cons (pe_ty T.f_dict) pa_nil)))) pss_never pss_nil)
        (pss_cons (ps_if (PW.pt (pw_or (pt_cmpR op_isN1 (pv 1) pe_non (nomark _)) (pw_or1 (pt_cmpR op_isN1 (pv 0) pe_non (nomark _))))) (pss_one (ps_ret (pe_and (pe_cmpR op_isN1 (pv 1) pe_non (nomark _)) (pe_one (pe_cmpR op_isN1 (pv 0) pe_non (nomark _)))))) pss_nil)
        (pss_cons (ps_if (PW.pt (pw_or (pt_cmpR (otherK (K := K) hu) (pe_callB (isiK (K := K)) (by rfl) T.f_isinstance (by decide +kernel) (pa_cons (pv 1) (pa_cons (pe_ty T.f_bool) pa_nil))) (pe_callB (isiK (K := K)) (by rfl) T.f_isinstance (by decide +kernel) (pa_cons (pv 0) (pa_cons (pe_ty T.f_bool) pa_nil))) (nomark _)) (pw_or1 (pt_cmpR (otherK (K := K) hu) (pe_callB (isiK (K := K)) (by rfl) T.f_isinstance (by decide +kernel) (pa_cons (pv 1) (pa_cons (pe_ty T.f_str) pa_nil))) (pe_callB (isiK (K := K)) (by rfl) T.f_isinstance (by decide +kernel) (pa_cons (pv 0) (pa_cons (pe_ty T.f_str) pa_nil))) (nomark _))))) (pss_one (ps_ret pe_bl)) pss_nil)
        (pss_one (ps_ret (pe_and (pe_callB (isiTK (K := K)) (by rfl) T.f_isinstance (by decide +kernel) (pa_cons (pv 0) (pa_cons (pe_tup (pa_cons (pe_ty T.f_bool) (pa_cons (pe_ty T.f_int) (pa_cons (pe_ty T.f_str) pa_nil)))) pa_nil))) (pe_one (pe_cmpR (sameK (K := K) hu) (pv 0) (pv 1) (nomark _)))))))))), ?_⟩
    walk_at "st"
    intro t H1 ht e1 h1
    walk_at "st"
    refine r_isi2 (e1.dp d hy) h1 (by simp) (by simp) ?_
    walk_at "st"
    cases c : (isB (tyD d) "list" || isB (tyD d) "tuple") with
    | true =>
      walk_at "st"
      intro t2 H2 ht2 e2 h2
      have e12 := e1.trans e2
      walk_at "st"
      refine r_isi2 (e12.dp d hx) h2 (by simp) (by simp) ?_
      rw [c]
      walk_at "st"
      refine r_isi (b := "list") (e12.dp d hx) (by simp) ?_
      walk_at "st"
      refine r_isi (b := "list") (e12.dp d hy) (by simp) ?_
      walk_at "st"
      refine ite_n (fun z => absurd rfl z) (fun _ => ?_)
      obtain ⟨a, xs, rfl, ha, hxs⟩ := dp_seq (e12.dp d hx) c
      obtain ⟨b, ys, rfl, hb, hys⟩ := dp_seq (e12.dp d hy) c
      have lx := dps_len hxs
      have ly := dps_len hys
      walk_at "st"
      refine r_lenA ha (by rw [lx]) ?_
      walk_at "st"
      refine r_lenA hb (by rw [ly]) ?_
      walk_at "st"
      refine ite_n (fun z => absurd rfl z) (fun _ => ?_)
      walk_at "st"
      refine r_lenA hb (by rw [ly]) ?_
      have hsz := hd.1
      walk_at "st"
      intro Dl hD
      rw [Int.toNat_natCast]
      refine lcW_range (LcP H2 Dl fun _ => .bl true) (.start hD) ?_ ?_
      · intro i H3 hi p
        have hsz2 : i < 16777216 := by omega
        obtain ⟨x, ex, hx3⟩ := dps_get (i := i) hxs (List.getElem?_eq_getElem hi)
        obtain ⟨y, ey, hy3⟩ := dps_get (i := i) hys (List.getElem?_eq_getElem hi)
        walk_at "st"
        refine r_lcW rfl ?_
        walk_at "st"
        refine r_atA (p.e.sq ha) (by rw [Int.zero_add]; exact atI_nat ex) ?_
        walk_at "st"
        refine r_atA (p.e.sq hb) (by rw [Int.zero_add]; exact atI_nat ey) ?_
        walk_at "st"
        have hm : (itemsD d)[i] ∈ itemsD d := List.getElem_mem hi
        exact ⟨x, y, _, rfl, p.e.dp _ hx3, p.e.dp _ hy3, hd.2 _ hm, fun H4 e4 => p.pushB hD hsz2 e4 rfl⟩
      · intro H3 p
        have hd := p.d
        rw [map_bl] at hd
        walk_at "st"
        refine r_all (sqL hd) ?_
        rw [bools_all]
        exact k H3 (e12.trans p.e)
    | false =>
      walk_at "st"
      refine r_isi (e1.dp d hy) (by simp) ?_
      rw [dp_nodict hy]
      walk_at "st"
      have exy := dp_det hx hy c
      subst exy
      rcases dp_flat hx c with ⟨rfl, rfl⟩ | ⟨cb, nn, sc⟩
      · walk_at "st"
        refine ite_d (fun _ => ?_) (fun z => absurd rfl z)
        walk_at "st"
        refine ite_d (fun _ => ?_) (fun z => absurd rfl z)
        walk_at "st"
        exact k H1 e1
      · refine ite_d (fun z => absurd z nn) (fun _ => ?_)
        walk_at "st"
        refine ite_d (fun z => absurd z nn) (fun _ => ?_)
        walk_at "st"
        refine r_isi (e1.dp d hy) (by simp) ?_
        walk_at "st"
        refine r_isi (e1.dp d hy) (by simp) ?_
        walk_at "st"
        refine ite_n (fun z => absurd rfl z) (fun _ => ?_)
        walk_at "st"
        refine r_isi (e1.dp d hy) (by simp) ?_
        walk_at "st"
        refine r_isi (e1.dp d hy) (by simp) ?_
        walk_at "st"
        refine ite_n (fun z => absurd rfl z) (fun _ => ?_)
        walk_at "st"
        intro t2 H2 ht2 e2 h2
        walk_at "st"
        refine r_isi3 ((e1.trans e2).dp d hy) h2 (by simp) (by simp) (by simp) ?_
        rw [cb]
        walk_at "st"
        refine r_sameS sc ?_
        have e : decide (x = x) = true := decide_eq_true rfl
        rw [e]
        exact k H2 (e1.trans e2)

theorem scf_TooMany : FnScope ["error", "found"] ["error"] (defScope s__law_fault) := ⟨rfl, rfl, rfl, by decide +kernel, rfl, by decide +kernel, by decide +kernel⟩
theorem fault_TooMany (T : Txt w K mg) {fd : FuncData} (F : FunD K "_law_fault" "_law_fault" (defArgs s__law_fault) (defBody s__law_fault) (defScope s__law_fault) [] [] (He.ga K "_law_fault") fd) : FnP P w K mg base (L2N.CX P w) 1 (He.ga K "_law_fault") fd ["error"] (onP (spFlt K "TooMany" (["what"] : List Str))) := by
  refine fnP_of F scf_TooMany (fun p vs H Q E h => by obtain ⟨dd, kv, us, rfl, _⟩ := h; rfl) (fun p cdv A outer s H vs Q E hot hr h => ?_)
  have nd := scf_TooMany.nd
  obtain ⟨dd, kv, us, rfl, hz, hd, hus, k⟩ := h
  have hf : ∃ ws, p.2.data = .fields ws := by obtain ⟨ws, e, _⟩ := hot.2; exact ⟨ws, e⟩
  obtain ⟨u0, rfl, hu0⟩ : ∃ u0, us = [u0] ∧ kv.lookup ("what" : Str) = some u0 := by
    cases us with
    | nil => simp at hus
    | cons u r =>
      cases r with
      | nil => exact ⟨u, rfl, by simpa using hus⟩
      | cons v r => simp at hus
  have hp : p ∈ (L2H.cxH (L2N.CX P w) P w K mg base ["error", "found"] "_law_fault" (defScope s__law_fault) (He.ga K "_law_fault") cdv A outer s H E p).pn := List.mem_singleton.mpr rfl
  have hu : ((L2H.cxH (L2N.CX P w) P w K mg base ["error", "found"] "_law_fault" (defScope s__law_fault) (He.ga K "_law_fault") cdv A outer s H E p).A).units + 64 < cLine := by have := hr.un; show (A.deeper _).units + 64 < cLine; omega
  have hx : ("TooMany" : Str) ∈ errs := by simp [errs]
  refine ⟨_, (pss_cons (ps_set (i := 1) nd rfl (Or.inl rfl) (pe_lst pa_nil))
        (pss_cons (ps_if (pt_val (pe_callB (call_isP T.e_TooMany.e hz hf hp) (by rfl) T.f_isinstance (by decide +kernel) (pa_cons (pv 0) (pa_cons (pe_gl T.g_TooMany) pa_nil)))) (pss_one (ps_expr (peBM (K := K) (pe_bm PySem.F.plainAttrs_list PySem.F.slot_list_append PySem.F.type_list_append mt_append (pv 1) (pa_cons (pe_tup (pa_cons pe_str (pa_cons (pe_xp T.e_TooMany.f (T.e_TooMany.no _ (by simp)) hz hf hp (pv 0)) pa_nil))) pa_nil))))) pss_nil)
        (pss_cons (ps_if (pt_val (pe_callB (call_isP T.e_TooMany.e hz hf hp) (by rfl) T.f_isinstance (by decide +kernel) (pa_cons (pv 0) (pa_cons (pe_gl T.g_BadText) pa_nil)))) pss_never pss_nil)
        (pss_cons (ps_if (pt_val (pe_callB (call_isP T.e_TooMany.e hz hf hp) (by rfl) T.f_isinstance (by decide +kernel) (pa_cons (pv 0) (pa_cons (pe_gl T.g_BadFormat) pa_nil)))) pss_never pss_nil)
        (pss_cons (ps_if (pt_val (pe_callB (call_isP T.e_TooMany.e hz hf hp) (by rfl) T.f_isinstance (by decide +kernel) (pa_cons (pv 0) (pa_cons (pe_gl T.g_BadValue) pa_nil)))) pss_never pss_nil)
        (pss_cons (ps_if (pt_val (pe_callB (call_isP T.e_TooMany.e hz hf hp) (by rfl) T.f_isinstance (by decide +kernel) (pa_cons (pv 0) (pa_cons (pe_gl T.g_BadShape) pa_nil)))) pss_never pss_nil)
        (pss_cons (ps_if (pt_val (pe_callB (call_isP T.e_TooMany.e hz hf hp) (by rfl) T.f_isinstance (by decide +kernel) (pa_cons (pv 0) (pa_cons (pe_gl T.g_BadRow) pa_nil)))) pss_never pss_nil)
        (pss_cons (ps_if (pt_val (pe_callB (call_isP T.e_TooMany.e hz hf hp) (by rfl) T.f_isinstance (by decide +kernel) (pa_cons (pv 0) (pa_cons (pe_gl T.g_BadSet) pa_nil)))) pss_never pss_nil)
        (pss_cons (ps_if (pt_val (pe_callB (call_isP T.e_TooMany.e hz hf hp) (by rfl) T.f_isinstance (by decide +kernel) (pa_cons (pv 0) (pa_cons (pe_gl T.g_BadReader) pa_nil)))) pss_never pss_nil)
        (pss_cons (ps_if (pt_val (pe_callB (call_isP T.e_TooMany.e hz hf hp) (by rfl) T.f_isinstance (by decide +kernel) (pa_cons (pv 0) (pa_cons (pe_gl T.g_BadLayout) pa_nil)))) pss_never pss_nil)
        (pss_cons (ps_if (pt_val (pe_callB (call_isP T.e_TooMany.e hz hf hp) (by rfl) T.f_isinstance (by decide +kernel) (pa_cons (pv 0) (pa_cons (pe_gl T.g_BadCheck) pa_nil)))) pss_never pss_nil)
        (pss_cons (ps_if (pt_val (pe_callB (call_isP T.e_TooMany.e hz hf hp) (by rfl) T.f_isinstance (by decide +kernel) (pa_cons (pv 0) (pa_cons (pe_gl T.g_BadCode) pa_nil)))) pss_never pss_nil)
        (pss_cons (ps_if (pt_val (pe_callB (call_isP T.e_TooMany.e hz hf hp) (by rfl) T.f_isinstance (by decide +kernel) (pa_cons (pv 0) (pa_cons (pe_gl T.g_BadFeed) pa_nil)))) pss_never pss_nil)
        (pss_cons (ps_if (pt_val (pe_callB (call_isP T.e_TooMany.e hz hf hp) (by rfl) T.f_isinstance (by decide +kernel) (pa_cons (pv 0) (pa_cons (pe_gl T.g_BadEdit) pa_nil)))) pss_never pss_nil)
        (pss_cons (ps_if (pt_val (pe_callB (call_isP T.e_TooMany.e hz hf hp) (by rfl) T.f_isinstance (by decide +kernel) (pa_cons (pv 0) (pa_cons (pe_gl T.g_BadPatch) pa_nil)))) pss_never pss_nil)
        (pss_cons (ps_if (pt_val (pe_callB (call_isP T.e_TooMany.e hz hf hp) (by rfl) T.f_isinstance (by decide +kernel) (pa_cons (pv 0) (pa_cons (pe_gl T.g_BadPaper) pa_nil)))) pss_never pss_nil)
        (pss_cons (ps_if (pt_val (pe_callB (call_isP T.e_TooMany.e hz hf hp) (by rfl) T.f_isinstance (by decide +kernel) (pa_cons (pv 0) (pa_cons (pe_gl T.g_BadDeed) pa_nil)))) pss_never pss_nil)
        (pss_cons (ps_if (PW.pt (pw_or (pt_not (pt_val (pe_callB (call_isP T.e_TooMany.e hz hf hp) (by rfl) T.f_isinstance (by decide +kernel) (pa_cons (pv 0) (pa_cons (pe_gl T.g_OutsideError) pa_nil))))) (pw_or (pt_not (pt_val (pe_callB (call_isP T.e_TooMany.e hz hf hp) (by rfl) T.f_isinstance (by decide +kernel) (pa_cons (pv 0) (pa_cons (pe_ty T.f_ValueError) pa_nil))))) (pw_or1 (pt_cmpR (otherK (K := K) hu) (pe_callB (lenK (K := K)) (by rfl) T.f_len boot_len (pa_cons (pv 1) pa_nil)) pe_int (nomark _)))))) (pss_one (ps_ret (pe_tup (pa_cons pe_str pa_nil)))) pss_nil)
        (pss_one (ps_ret (pe_ix (ixK (K := K)) (pv 1) pe_int (fun _ _ => rfl)))))))))))))))))))))), ?_⟩
  walk_at "st"
  intro l H1 hl e1 h1
  have hd1 := e1 _ _ hd
  walk_at "st"
  refine r_isP hd1 (T.kits.yes hx) ?_
  walk_at "st"
  refine ⟨.inl ⟨rfl, _, sqL h1⟩, ?_⟩
  walk_at "st"
  refine r_xp ?_
  walk_at "st"
  refine ⟨rfl, _, _, hd1, hu0, ?_⟩
  walk_at "st"
  intro q H2 hq e2 h2
  walk_at "st"
  refine r_app (e2 _ _ h1) (by decide) (fun H3 h3 m3 => ?_)
  walk_at "st"
  have nl : dd ≠ l := ne_of_none hd hl
  have nq : q ≠ l := (ne_of_none h1 hq).symm
  have hd3 := mut_at m3 nl (e2 _ _ hd1)
  have hq3 := mut_at m3 nq h2
  have e3 : Ext H H3 := mut_ext (e1.trans e2) hl m3
  walk_at "st"
  refine r_isP hd3 (T.kits.no hx (by simp [errs]) (by decide)) ?_
  walk_at "st"
  refine r_isP hd3 (T.kits.no hx (by simp [errs]) (by decide)) ?_
  walk_at "st"
  refine r_isP hd3 (T.kits.no hx (by simp [errs]) (by decide)) ?_
  walk_at "st"
  refine r_isP hd3 (T.kits.no hx (by simp [errs]) (by decide)) ?_
  walk_at "st"
  refine r_isP hd3 (T.kits.no hx (by simp [errs]) (by decide)) ?_
  walk_at "st"
  refine r_isP hd3 (T.kits.no hx (by simp [errs]) (by decide)) ?_
  walk_at "st"
  refine r_isP hd3 (T.kits.no hx (by simp [errs]) (by decide)) ?_
  walk_at "st"
  refine r_isP hd3 (T.kits.no hx (by simp [errs]) (by decide)) ?_
  walk_at "st"
  refine r_isP hd3 (T.kits.no hx (by simp [errs]) (by decide)) ?_
  walk_at "st"
  refine r_isP hd3 (T.kits.no hx (by simp [errs]) (by decide)) ?_
  walk_at "st"
  refine r_isP hd3 (T.kits.no hx (by simp [errs]) (by decide)) ?_
  walk_at "st"
  refine r_isP hd3 (T.kits.no hx (by simp [errs]) (by decide)) ?_
  walk_at "st"
  refine r_isP hd3 (T.kits.no hx (by simp [errs]) (by decide)) ?_
  walk_at "st"
  refine r_isP hd3 (T.kits.no hx (by simp [errs]) (by decide)) ?_
  walk_at "st"
  refine r_isP hd3 (T.kits.no hx (by simp [errs]) (by decide)) ?_
  walk_at "st"
  refine r_isP hd3 (T.kits.kitO _ hx) ?_
  walk_at "st"
  refine r_isPV hd3 (T.kits.kitV _ hx) ?_
  walk_at "st"
  refine r_lenL (sqL h3) rfl ?_
  walk_at "st"
  refine ite_n (fun z => absurd rfl z) (fun _ => ?_)
  walk_at "st"
  refine r_atL (sqL h3) (atI_nat (j := 0) rfl) ?_
  exact k q H3 (e1.none hq) e3 hq3
theorem scf_BadCheck : FnScope ["error", "found"] ["error"] (defScope s__law_fault) := ⟨rfl, rfl, rfl, by decide +kernel, rfl, by decide +kernel, by decide +kernel⟩
theorem fault_BadCheck (T : Txt w K mg) {fd : FuncData} (F : FunD K "_law_fault" "_law_fault" (defArgs s__law_fault) (defBody s__law_fault) (defScope s__law_fault) [] [] (He.ga K "_law_fault") fd) : FnP P w K mg base (L2N.CX P w) 1 (He.ga K "_law_fault") fd ["error"] (onP (spFlt K "BadCheck" (["what"] : List Str))) := by
  refine fnP_of F scf_BadCheck (fun p vs H Q E h => by obtain ⟨dd, kv, us, rfl, _⟩ := h; rfl) (fun p cdv A outer s H vs Q E hot hr h => ?_)
  have nd := scf_BadCheck.nd
  obtain ⟨dd, kv, us, rfl, hz, hd, hus, k⟩ := h
  have hf : ∃ ws, p.2.data = .fields ws := by obtain ⟨ws, e, _⟩ := hot.2; exact ⟨ws, e⟩
  obtain ⟨u0, rfl, hu0⟩ : ∃ u0, us = [u0] ∧ kv.lookup ("what" : Str) = some u0 := by
    cases us with
    | nil => simp at hus
    | cons u r =>
      cases r with
      | nil => exact ⟨u, rfl, by simpa using hus⟩
      | cons v r => simp at hus
  have hp : p ∈ (L2H.cxH (L2N.CX P w) P w K mg base ["error", "found"] "_law_fault" (defScope s__law_fault) (He.ga K "_law_fault") cdv A outer s H E p).pn := List.mem_singleton.mpr rfl
  have hu : ((L2H.cxH (L2N.CX P w) P w K mg base ["error", "found"] "_law_fault" (defScope s__law_fault) (He.ga K "_law_fault") cdv A outer s H E p).A).units + 64 < cLine := by have := hr.un; show (A.deeper _).units + 64 < cLine; omega
  have hx : ("BadCheck" : Str) ∈ errs := by simp [errs]
  refine ⟨_, (pss_cons (ps_set (i := 1) nd rfl (Or.inl rfl) (pe_lst pa_nil))
        (pss_cons (ps_if (pt_val (pe_callB (call_isP T.e_BadCheck.e hz hf hp) (by rfl) T.f_isinstance (by decide +kernel) (pa_cons (pv 0) (pa_cons (pe_gl T.g_TooMany) pa_nil)))) pss_never pss_nil)
        (pss_cons (ps_if (pt_val (pe_callB (call_isP T.e_BadCheck.e hz hf hp) (by rfl) T.f_isinstance (by decide +kernel) (pa_cons (pv 0) (pa_cons (pe_gl T.g_BadText) pa_nil)))) pss_never pss_nil)
        (pss_cons (ps_if (pt_val (pe_callB (call_isP T.e_BadCheck.e hz hf hp) (by rfl) T.f_isinstance (by decide +kernel) (pa_cons (pv 0) (pa_cons (pe_gl T.g_BadFormat) pa_nil)))) pss_never pss_nil)
        (pss_cons (ps_if (pt_val (pe_callB (call_isP T.e_BadCheck.e hz hf hp) (by rfl) T.f_isinstance (by decide +kernel) (pa_cons (pv 0) (pa_cons (pe_gl T.g_BadValue) pa_nil)))) pss_never pss_nil)
        (pss_cons (ps_if (pt_val (pe_callB (call_isP T.e_BadCheck.e hz hf hp) (by rfl) T.f_isinstance (by decide +kernel) (pa_cons (pv 0) (pa_cons (pe_gl T.g_BadShape) pa_nil)))) pss_never pss_nil)
        (pss_cons (ps_if (pt_val (pe_callB (call_isP T.e_BadCheck.e hz hf hp) (by rfl) T.f_isinstance (by decide +kernel) (pa_cons (pv 0) (pa_cons (pe_gl T.g_BadRow) pa_nil)))) pss_never pss_nil)
        (pss_cons (ps_if (pt_val (pe_callB (call_isP T.e_BadCheck.e hz hf hp) (by rfl) T.f_isinstance (by decide +kernel) (pa_cons (pv 0) (pa_cons (pe_gl T.g_BadSet) pa_nil)))) pss_never pss_nil)
        (pss_cons (ps_if (pt_val (pe_callB (call_isP T.e_BadCheck.e hz hf hp) (by rfl) T.f_isinstance (by decide +kernel) (pa_cons (pv 0) (pa_cons (pe_gl T.g_BadReader) pa_nil)))) pss_never pss_nil)
        (pss_cons (ps_if (pt_val (pe_callB (call_isP T.e_BadCheck.e hz hf hp) (by rfl) T.f_isinstance (by decide +kernel) (pa_cons (pv 0) (pa_cons (pe_gl T.g_BadLayout) pa_nil)))) pss_never pss_nil)
        (pss_cons (ps_if (pt_val (pe_callB (call_isP T.e_BadCheck.e hz hf hp) (by rfl) T.f_isinstance (by decide +kernel) (pa_cons (pv 0) (pa_cons (pe_gl T.g_BadCheck) pa_nil)))) (pss_one (ps_expr (peBM (K := K) (pe_bm PySem.F.plainAttrs_list PySem.F.slot_list_append PySem.F.type_list_append mt_append (pv 1) (pa_cons (pe_tup (pa_cons pe_str (pa_cons (pe_xp T.e_BadCheck.f (T.e_BadCheck.no _ (by simp)) hz hf hp (pv 0)) pa_nil))) pa_nil))))) pss_nil)
        (pss_cons (ps_if (pt_val (pe_callB (call_isP T.e_BadCheck.e hz hf hp) (by rfl) T.f_isinstance (by decide +kernel) (pa_cons (pv 0) (pa_cons (pe_gl T.g_BadCode) pa_nil)))) pss_never pss_nil)
        (pss_cons (ps_if (pt_val (pe_callB (call_isP T.e_BadCheck.e hz hf hp) (by rfl) T.f_isinstance (by decide +kernel) (pa_cons (pv 0) (pa_cons (pe_gl T.g_BadFeed) pa_nil)))) pss_never pss_nil)
        (pss_cons (ps_if (pt_val (pe_callB (call_isP T.e_BadCheck.e hz hf hp) (by rfl) T.f_isinstance (by decide +kernel) (pa_cons (pv 0) (pa_cons (pe_gl T.g_BadEdit) pa_nil)))) pss_never pss_nil)
        (pss_cons (ps_if (pt_val (pe_callB (call_isP T.e_BadCheck.e hz hf hp) (by rfl) T.f_isinstance (by decide +kernel) (pa_cons (pv 0) (pa_cons (pe_gl T.g_BadPatch) pa_nil)))) pss_never pss_nil)
        (pss_cons (ps_if (pt_val (pe_callB (call_isP T.e_BadCheck.e hz hf hp) (by rfl) T.f_isinstance (by decide +kernel) (pa_cons (pv 0) (pa_cons (pe_gl T.g_BadPaper) pa_nil)))) pss_never pss_nil)
        (pss_cons (ps_if (pt_val (pe_callB (call_isP T.e_BadCheck.e hz hf hp) (by rfl) T.f_isinstance (by decide +kernel) (pa_cons (pv 0) (pa_cons (pe_gl T.g_BadDeed) pa_nil)))) pss_never pss_nil)
        (pss_cons (ps_if (PW.pt (pw_or (pt_not (pt_val (pe_callB (call_isP T.e_BadCheck.e hz hf hp) (by rfl) T.f_isinstance (by decide +kernel) (pa_cons (pv 0) (pa_cons (pe_gl T.g_OutsideError) pa_nil))))) (pw_or (pt_not (pt_val (pe_callB (call_isP T.e_BadCheck.e hz hf hp) (by rfl) T.f_isinstance (by decide +kernel) (pa_cons (pv 0) (pa_cons (pe_ty T.f_ValueError) pa_nil))))) (pw_or1 (pt_cmpR (otherK (K := K) hu) (pe_callB (lenK (K := K)) (by rfl) T.f_len boot_len (pa_cons (pv 1) pa_nil)) pe_int (nomark _)))))) (pss_one (ps_ret (pe_tup (pa_cons pe_str pa_nil)))) pss_nil)
        (pss_one (ps_ret (pe_ix (ixK (K := K)) (pv 1) pe_int (fun _ _ => rfl)))))))))))))))))))))), ?_⟩
  walk_at "st"
  intro l H1 hl e1 h1
  have hd1 := e1 _ _ hd
  walk_at "st"
  refine r_isP hd1 (T.kits.no hx (by simp [errs]) (by decide)) ?_
  walk_at "st"
  refine r_isP hd1 (T.kits.no hx (by simp [errs]) (by decide)) ?_
  walk_at "st"
  refine r_isP hd1 (T.kits.no hx (by simp [errs]) (by decide)) ?_
  walk_at "st"
  refine r_isP hd1 (T.kits.no hx (by simp [errs]) (by decide)) ?_
  walk_at "st"
  refine r_isP hd1 (T.kits.no hx (by simp [errs]) (by decide)) ?_
  walk_at "st"
  refine r_isP hd1 (T.kits.no hx (by simp [errs]) (by decide)) ?_
  walk_at "st"
  refine r_isP hd1 (T.kits.no hx (by simp [errs]) (by decide)) ?_
  walk_at "st"
  refine r_isP hd1 (T.kits.no hx (by simp [errs]) (by decide)) ?_
  walk_at "st"
  refine r_isP hd1 (T.kits.no hx (by simp [errs]) (by decide)) ?_
  walk_at "st"
  refine r_isP hd1 (T.kits.yes hx) ?_
  walk_at "st"
  refine ⟨.inl ⟨rfl, _, sqL h1⟩, ?_⟩
  walk_at "st"
  refine r_xp ?_
  walk_at "st"
  refine ⟨rfl, _, _, hd1, hu0, ?_⟩
  walk_at "st"
  intro q H2 hq e2 h2
  walk_at "st"
  refine r_app (e2 _ _ h1) (by decide) (fun H3 h3 m3 => ?_)
  walk_at "st"
  have nl : dd ≠ l := ne_of_none hd hl
  have nq : q ≠ l := (ne_of_none h1 hq).symm
  have hd3 := mut_at m3 nl (e2 _ _ hd1)
  have hq3 := mut_at m3 nq h2
  have e3 : Ext H H3 := mut_ext (e1.trans e2) hl m3
  walk_at "st"
  refine r_isP hd3 (T.kits.no hx (by simp [errs]) (by decide)) ?_
  walk_at "st"
  refine r_isP hd3 (T.kits.no hx (by simp [errs]) (by decide)) ?_
  walk_at "st"
  refine r_isP hd3 (T.kits.no hx (by simp [errs]) (by decide)) ?_
  walk_at "st"
  refine r_isP hd3 (T.kits.no hx (by simp [errs]) (by decide)) ?_
  walk_at "st"
  refine r_isP hd3 (T.kits.no hx (by simp [errs]) (by decide)) ?_
  walk_at "st"
  refine r_isP hd3 (T.kits.no hx (by simp [errs]) (by decide)) ?_
  walk_at "st"
  refine r_isP hd3 (T.kits.kitO _ hx) ?_
  walk_at "st"
  refine r_isPV hd3 (T.kits.kitV _ hx) ?_
  walk_at "st"
  refine r_lenL (sqL h3) rfl ?_
  walk_at "st"
  refine ite_n (fun z => absurd rfl z) (fun _ => ?_)
  walk_at "st"
  refine r_atL (sqL h3) (atI_nat (j := 0) rfl) ?_
  exact k q H3 (e1.none hq) e3 hq3
def faultL : List (Str × List Str) := [("TooMany", ["what"]), ("BadCheck", ["what"])]
theorem ok_fault (T : Txt w K mg) : FaultG P w K mg base faultL := by
  obtain ⟨fd, F⟩ := T.d__law_fault
  refine ⟨T.g__law_fault, F.kp, fd, fnP_any (fun x hx => ?_), F.bindsN fun _ _ _ _ _ _ us hl => match us, hl with | [_], _ => rfl⟩
  simp only [faultL, List.mem_cons, List.not_mem_nil, or_false] at hx
  rcases hx with rfl | rfl
  · exact fault_TooMany T F
  · exact fault_BadCheck T F
/-! ### copies, all in new places -/
def spCopied (K : PySem.W.Frag) (n : Nat) : Sp := fun vs H Q _ => ∃ (x : V) (d : PyData), vs = [x] ∧ Dp K H x d ∧ smallD n d ∧ ∀ y H', Ext H H' → Nw (fun a => H a = none) H' y d → Q y H'
/-- the copies made so far, at D -/
def Cops (H1 : Hp) (D : Addr) (ds : List PyData) (i : Nat) (H' : Hp) : Prop := Ext H1 H' ∧ ∃ ys, H' D = some (.lst ys) ∧ ys.length = i ∧ Nws (fun a => H1 a = none ∧ a ≠ D) H' ys (ds.take i)
theorem Cops.push {H1 H2 H3 : Hp} {D : Addr} {ds : List PyData} {i : Nat} {e : PyData} {y : V} (h : Cops H1 D ds i H2) (hD : H1 D = none) (he : ds[i]? = some e) (hi : i < 16777216) (e3 : Ext H2 H3) (c : Nw (fun a => H2 a = none) H3 y e) :
    ∃ acc, H3 D = some (.lst acc) ∧ acc.length < sizeLine ∧ Cops H1 D ds (i + 1) (upd H3 D (.lst (acc ++ [y]))) := by
  obtain ⟨e2, ys, hy, hyl, hys⟩ := h
  refine ⟨ys, e3 _ _ hy, by rw [hyl, sizeLine_eq]; exact hi, Ext.mut (e2.trans e3) hD, ys ++ [y], upd_same, by rw [List.length_append, hyl]; rfl, ?_⟩
  rw [List.take_succ, he]
  refine (hys.keep (fun a o s q => ⟨by rw [upd_ne s.2]; exact e3 _ _ q, s⟩) _).append (.cons (c.keep (fun a o s q => ?_) e) .nil)
  have aD : a ≠ D := fun z => by rw [z, hy] at s; cases s
  exact ⟨by rw [upd_ne aD]; exact q, e2.none s, aD⟩
theorem lcW_tup {K : PySem.W.Frag} {σ : L2.St} {H : Hp} {g : TG} {tt : TT} {te : TE} {a : Addr} {xs : List V} {vs : List Nat} {Dl : Addr} {Qd : Hp → Prop} (Pv : Nat → Hp → Prop) (h0 : Pv 0 (upd H Dl (.lst []))) (hl : ∀ i H, i ≤ xs.length → Pv i H → SqT K H a xs)
    (hs : ∀ i x H, xs[i]? = some x → Pv i H → g x (wipe σ vs) H fun σ2 H2 => wipe σ2 vs = wipe σ vs ∧ tt σ2 H2 fun b H3 =>
      if b = true then te σ2 H3 fun y H4 => ∃ acc, H4 Dl = some (.lst acc) ∧ acc.length < sizeLine ∧ Pv (i + 1) (upd H4 Dl (.lst (acc ++ [y]))) else Pv (i + 1) H3) (hd : ∀ H, Pv xs.length H → Qd H) : LcW (Itt K a) g tt te vs σ Dl Qd H := lc_tup Pv h0 hl hs hd
theorem sc__law_copied : FnScope ["thing", "one", "key"] ["thing"] (defScope s__law_copied) := ⟨rfl, rfl, rfl, by decide +kernel, rfl, by decide +kernel, by decide +kernel⟩
theorem ok_law_copied (T : Txt w K mg) : ∀ n, CalG P w K mg base (n + 2) "_law_copied" ["thing"] (spCopied K n)
  | 0 => (calG_false T.g__law_copied T.d__law_copied (fun _ _ _ _ _ _ _ us hl => match us, hl with | [_], _ => rfl)).imp fun vs H Q E ⟨_, _, _, _, z, _⟩ => z.elim
  | n + 1 => by
    have c__law_copied := ok_law_copied T n
    refine calG_of T.g__law_copied T.d__law_copied sc__law_copied (fun _ _ _ _ _ _ _ us hl => match us, hl with | [_], _ => rfl) (fun vs H Q E h => by obtain ⟨c, d, rfl, _⟩ := h; rfl) (fun cdv A outer s H vs Q E hr h => ?_)
    have nd := sc__law_copied.nd
    have hu := hu64 hr
    obtain ⟨x, d, rfl, hx, hd, k⟩ := h
    refine ⟨_, (pss_cons (ps_if (pt_val (pe_callB (isiK (K := K)) (by rfl) T.f_isinstance (by decide +kernel) (pa_cons (pv 0) (pa_cons (pe_ty T.f_list) pa_nil)))) (pss_one (ps_ret (pe_lc (own := [("one", 1)]) rfl nd (piL (K := K) (pv 0)) (blkOk_by (N := ["thing", "one", "key"]) (sc := defScope s__law_copied) (by decide +kernel)) (fun _ _ _ _ _ => (pg_name (i := 1) nd rfl (Or.inl rfl))) (fun _ _ _ _ _ => pts_nil) (fun _ _ _ _ _ => (pe_cal c__law_copied hr (by omega) passN (pa_cons (pv 1) pa_nil)))))) pss_nil)
        (pss_cons (ps_if (pt_val (pe_callB (isiK (K := K)) (by rfl) T.f_isinstance (by decide +kernel) (pa_cons (pv 0) (pa_cons (pe_ty T.f_tuple) pa_nil)))) (pss_one (ps_ret (pe_callTy (tupK (K := K)) (by rfl) T.f_tuple (by decide +kernel) (pa_cons (pe_lc (own := [("one", 1)]) rfl nd (piT (K := K) (pv 0)) (blkOk_by (N := ["thing", "one", "key"]) (sc := defScope s__law_copied) (by decide +kernel)) (fun _ _ _ _ _ => (pg_name (i := 1) nd rfl (Or.inl rfl))) (fun _ _ _ _ _ => pts_nil) (fun _ _ _ _ _ => (pe_cal c__law_copied hr (by omega) passN (pa_cons (pv 1) pa_nil)))) pa_nil)))) pss_nil)
        (pss_cons (ps_if (pt_val (pe_callB (isiK (K := K)) (by rfl) T.f_isinstance (by decide +kernel) (pa_cons (pv 0) (pa_cons (pe_ty T.f_dict) pa_nil)))) pss_never pss_nil)
        (pss_one (ps_ret (pv 0)))))), ?_⟩
    have hsz := hd.1
    have hsub := hd.2
    have flat : (itemsD d = []) → (Nw (fun a => H a = none) H x d) → Q x H := fun _ h => k x H .rfl h
    walk_at "st"
    refine r_isi (b := "list") hx (by simp) ?_
    cases hx with
    | lst h hs =>
      rename_i a xs ds
      rw [show isB (tyD (.list ds)) "list" = true by simp [isB, tyD]]
      walk_at "st"
      refine r_li h ?_
      intro D hD
      have hxl := dps_len hs
      refine lcW_list (Cops H D ds) ⟨.new hD, [], upd_same, rfl, by rw [List.take_zero]; exact .nil⟩ (fun i H' _ p => p.1.l h) ?_ ?_
      · intro i y H2 hy p
        have hi : i < ds.length := by rw [← hxl]; exact (List.getElem?_eq_some_iff.mp hy).1
        have ed : ds[i]? = some ds[i] := List.getElem?_eq_getElem hi
        obtain ⟨x', ex, hx'⟩ := dps_get hs ed
        rw [hy] at ex
        cases ex
        have hz : ds.length ≤ 100000 := hsz
        walk_at "st"
        refine r_lcW rfl ?_
        walk_at "st"
        exact ⟨y, ds[i], rfl, p.1.dp _ hx', hsub _ (List.getElem_mem hi), fun z H3 e3 c => p.push hD ed (by omega) e3 c⟩
      · rintro H2 ⟨e2, ys, hy, hyl, hys⟩
        rw [hxl, List.take_length] at hys
        refine k (.ref D) H2 e2 (.lst hD hy (hys.keep (fun a o s q => ⟨q, s.1⟩) _))
    | tup h hs =>
      rename_i a xs ds
      rw [show isB (tyD (.tuple ds)) "list" = false by simp [isB, tyD]]
      walk_at "st"
      refine r_isi (b := "tuple") (d := .tuple ds) (.tup h hs) (by simp) ?_
      rw [show isB (tyD (.tuple ds)) "tuple" = true by simp [isB, tyD]]
      walk_at "st"
      refine r_ti h ?_
      intro D hD
      have hxl := dps_len hs
      refine lcW_tup (Cops H D ds) ⟨.new hD, [], upd_same, rfl, by rw [List.take_zero]; exact .nil⟩ (fun i H' _ p => p.1.tu h) ?_ ?_
      · intro i y H2 hy p
        have hi : i < ds.length := by rw [← hxl]; exact (List.getElem?_eq_some_iff.mp hy).1
        have ed : ds[i]? = some ds[i] := List.getElem?_eq_getElem hi
        obtain ⟨x', ex, hx'⟩ := dps_get hs ed
        rw [hy] at ex
        cases ex
        have hz : ds.length ≤ 100000 := hsz
        walk_at "st"
        refine r_lcW rfl ?_
        walk_at "st"
        exact ⟨y, ds[i], rfl, p.1.dp _ hx', hsub _ (List.getElem_mem hi), fun z H3 e3 c => p.push hD ed (by omega) e3 c⟩
      · rintro H2 ⟨e2, ys, hy, hyl, hys⟩
        rw [hxl, List.take_length] at hys
        walk_at "st"
        refine ⟨D, ys, rfl, .inl ⟨sqL hy, fun l hl => ?_⟩⟩
        have e3 : Ext H2 (upd H2 l (.tup ys)) := .new hl
        refine k (.ref l) _ (e2.trans e3) (.tup (e2.none hl) upd_same (hys.keep (fun a o s q => ⟨e3 _ _ q, s.1⟩) _))
    | non =>
      rw [show isB (tyD .none) "list" = false by simp [isB, tyD]]
      walk_at "st"
      refine r_isi (b := "tuple") (d := .none) .non (by simp) ?_
      rw [show isB (tyD .none) "tuple" = false by simp [isB, tyD]]
      walk_at "st"
      refine r_isi (b := "dict") (d := .none) .non (by simp) ?_
      rw [show isB (tyD .none) "dict" = false by simp [isB, tyD]]
      walk_at "st"
      exact flat rfl (.non)
    | bl b =>
      rw [show isB (tyD (.bool b)) "list" = false by simp [isB, tyD]]
      walk_at "st"
      refine r_isi (b := "tuple") (d := .bool b) (.bl b) (by simp) ?_
      rw [show isB (tyD (.bool b)) "tuple" = false by simp [isB, tyD]]
      walk_at "st"
      refine r_isi (b := "dict") (d := .bool b) (.bl b) (by simp) ?_
      rw [show isB (tyD (.bool b)) "dict" = false by simp [isB, tyD]]
      walk_at "st"
      exact flat rfl (.bl b)
    | int b =>
      rw [show isB (tyD (.int b)) "list" = false by simp [isB, tyD]]
      walk_at "st"
      refine r_isi (b := "tuple") (d := .int b) (.int b) (by simp) ?_
      rw [show isB (tyD (.int b)) "tuple" = false by simp [isB, tyD]]
      walk_at "st"
      refine r_isi (b := "dict") (d := .int b) (.int b) (by simp) ?_
      rw [show isB (tyD (.int b)) "dict" = false by simp [isB, tyD]]
      walk_at "st"
      exact flat rfl (.int b)
    | str b =>
      rw [show isB (tyD (.str b)) "list" = false by simp [isB, tyD]]
      walk_at "st"
      refine r_isi (b := "tuple") (d := .str b) (.str b) (by simp) ?_
      rw [show isB (tyD (.str b)) "tuple" = false by simp [isB, tyD]]
      walk_at "st"
      refine r_isi (b := "dict") (d := .str b) (.str b) (by simp) ?_
      rw [show isB (tyD (.str b)) "dict" = false by simp [isB, tyD]]
      walk_at "st"
      exact flat rfl (.str b)

end
end K30
set_option maxRecDepth 100000
set_option maxHeartbeats 4000000
namespace K30
open PySem PySem.Spec PyProof.Rows L2 L3
local macro_rules | `(tactic| walk_at "s1") => `(tactic| first
  | with_reducible refine r_seq ?_
  | with_reducible refine r_asgN ?_
  | with_reducible refine r_ret ?_
  | with_reducible refine r_next ?_
  | ((with_reducible refine' r_var ?hv ?_); (case hv => exact rfl))
  | with_reducible refine r_c ?_
  | with_reducible refine r_op ?_
  | with_reducible refine r_cons ?_
  | with_reducible refine r_nil ?_
  | with_reducible refine r_plusI ?_
  | with_reducible refine r_I0 ?_
  | with_reducible refine r_test ?_
  | with_reducible refine r_bl ?_
  | with_reducible refine r_ifS ?_
  | with_reducible refine r_cb ?_
  | with_reducible refine r_callS ?_
  | with_reducible refine r_and ?_
  | with_reducible refine r_or ?_
  | with_reducible refine r_not ?_
  | with_reducible refine r_B ?_
  | ((with_reducible refine' r_aug ?hv ?_); (case hv => exact rfl))
  | with_reducible refine r_augS ?_
  | with_reducible refine r_ipI ?_
  | with_reducible refine r_asg ?_
  | with_reducible refine r_sub ?_
  | with_reducible refine r_brk ?_
  | with_reducible refine r_isN1 ?_
  | with_reducible refine r_notN1 ?_
  | with_reducible refine r_intI ?_
  | with_reducible refine r_abs ?_
  | with_reducible refine r_min ?_
  | with_reducible refine r_max ?_
  | ((with_reducible refine' r_mod ?hz ?_); (case hz => omega))
  | ((with_reducible refine' r_pow ?hz ?_); (case hz => exact ⟨by decide, by decide, by decide⟩))
  | ((with_reducible refine' r_rg1 ?hz ?_); (case hz => omega))
  | ((with_reducible refine' r_rg2 ?hz ?_); (case hz => omega))
  | ((with_reducible refine' r_newL ?hz ?_); (case hz => exact Nat.le_of_ble_eq_true rfl))
  | ((with_reducible refine' r_newT ?hz ?_); (case hz => exact Nat.le_of_ble_eq_true rfl))
  | with_reducible refine r_for ?_
  | with_reducible refine r_lc ?_
  | with_reducible refine r_iR1 ?_
  | with_reducible refine r_iR2 ?_
  | with_reducible refine r_iL ?_
  | with_reducible refine r_iT ?_
  | with_reducible refine r_gname ?_
  | with_reducible refine r_gcons ?_
  | with_reducible refine r_gnil ?_
  | with_reducible refine r_yes ?_
  | with_reducible refine r_mkO ?_
  | with_reducible refine r_cont ?_
  | with_reducible refine r_drop ?_
  | with_reducible refine r_retN ?_
  | with_reducible refine r_ifC ?_
  | with_reducible refine r_ifI ?_
  | with_reducible refine r_if ?_
  | with_reducible refine r_un ?_
  | with_reducible refine r_neg ?_
  | with_reducible refine r_andV ?_
  | with_reducible refine r_orV ?_
  | with_reducible refine r_notV ?_
  | with_reducible refine r_tup ?_
  | with_reducible refine r_lst ?_
  | with_reducible refine r_bm ?_
  | with_reducible refine r_bm0 ?_
  | with_reducible refine r_sl ?_
  | with_reducible refine r_chain ?_
  | with_reducible refine r_listDn ?_
  | with_reducible refine r_listRg2 ?_
  | with_reducible refine r_revL ?_
  | with_reducible refine r_noPart ?_
  | with_reducible refine r_lenSet ?_
  | with_reducible refine r_part ?_
  | with_reducible refine r_int ?_
  | ((with_reducible refine' r_sameS ?hs ?_); (case hs => exact rfl))
  | ((with_reducible refine' r_otherS ?hs ?_); (case hs => exact rfl))
  | with_reducible refine ite_t ?_
  | with_reducible refine ite_f ?_
  | with_reducible refine ite_nt ?_
  | with_reducible refine ite_nf ?_)
local macro_rules | `(tactic| walk_at "st") => `(tactic| repeat (walk_at "s1"))

section
variable {P : Program} {w : World} {K : PySem.W.Frag} {mg : Str → Option Value} {base : Heap}
/-! ### the law's run -/
def spLRun (K : PySem.W.Frag) : Sp := fun vs H Q _ => ∃ (p sg : Addr) (st : List (List Int)) (m : Int) (ns : List Int), vs = [.ref p, .int m, .ref sg] ∧ Tb K H p st ∧ SqL K H sg (ns.map V.int) ∧ GoodSt st m ∧ Q (.int (runF st m 0 ns : Nat)) H
theorem sc__law_run : FnScope ["states", "letters", "signs", "state", "sign"] ["states", "letters", "signs"] (defScope s__law_run) := ⟨rfl, rfl, rfl, by decide +kernel, rfl, by decide +kernel, by decide +kernel⟩
theorem ok_law_run (T : Txt w K mg) : CalG P w K mg base 1 "_law_run" ["states", "letters", "signs"] (spLRun K) := by
  refine calG_of T.g__law_run T.d__law_run sc__law_run (fun _ _ _ _ _ _ _ us hl => match us, hl with | [_, _, _], _ => rfl) (fun vs H Q E h => by obtain ⟨_, _, _, _, _, rfl, _⟩ := h; rfl) (fun cdv A outer s H vs Q E hr h => ?_)
  have nd := sc__law_run.nd
  have hu := hu64 hr
  obtain ⟨p, sg, st, m, ns, rfl, hp, hsg, g, k⟩ := h
  refine ⟨_, (pss_cons (ps_set (i := 3) nd rfl (Or.inl rfl) pe_int)
        (pss_cons (ps_for (passes_of rfl) rfl (piL (K := K) (pv 2)) (pg_name (i := 4) nd rfl (Or.inl rfl)) (pss_one (ps_set (i := 3) nd rfl (Or.inl rfl) (pe_ix (ixK (K := K)) (pe_ix (ixK (K := K)) (pv 0) (pv 3) (fun _ _ => rfl)) (pe_op op_mod (pe_callTy cr_int (by rfl) T.f_int (by decide +kernel) (pa_cons (pv 4) pa_nil)) (pv 1)) (fun _ _ => rfl)))))
        (pss_one (ps_ret (pv 3))))), ?_⟩
  have m1 := g.1.1
  have sp0 : 0 < st.length := by
    cases st with
    | nil => exact absurd rfl g.2.1
    | cons a l => simp
  walk_at "st"
  refine r_li hsg ?_
  refine forW_list (fun i σ' H' => ∃ v, σ' = [some (.ref p), some (.int m), some (.ref sg), some (.int (runF st m 0 (ns.take i) : Nat)), v] ∧ H = H') ⟨none, rfl, rfl⟩ (fun i σ' H' _ ⟨_, _, e⟩ => e ▸ hsg) ?_ ?_
  · rintro i x σ' H' hx ⟨v, rfl, rfl⟩
    rw [List.getElem?_map] at hx
    obtain ⟨z, hz, rfl⟩ := Option.map_eq_some_iff.mp hx
    have hs := run_lt g (ns.take i) sp0
    obtain ⟨xs', row, a, q1, q2, q3, q4⟩ := tb_at hp g hs
    have z0 := Int.emod_nonneg z (show m ≠ 0 by omega)
    have z1 := Int.emod_lt_of_pos z (show 0 < m by omega)
    walk_at "st"
    refine r_atL q1 (atI_nat q2) ?_
    walk_at "st"
    refine r_atA q3 (i := z % m) (v := .int (stp st (runF st m 0 (ns.take i)) (z % m).toNat : Nat)) ?_ ?_
    · rw [show z % m = (((z % m).toNat : Nat) : Int) by omega]
      exact atI_nat (q4 _ (by omega))
    refine ⟨some (.int z), ?_, rfl⟩
    rw [List.take_succ, hz]
    unfold runF
    rw [List.foldl_append]
    rfl
  · rintro σ' H' ⟨v, rfl, rfl⟩
    rw [List.length_map, List.take_length]
    walk_at "st"
    exact k
/-! ### asked -/
/-- what comes of a call -/
inductive Oc
  | err (c what : Str)
  | num (n : Int)
  | lst (l : List Int)
open Classical in
noncomputable def runO (st : List (List Int)) (m : Int) (ns : List Int) : Oc :=
  if 8 < m then .err "TooMany" "letters" else if 12 < st.length then .err "TooMany" "states" else if 4000 < ns.length then .err "TooMany" "signs" else if ∃ s ∈ ns, far < s then .err "TooMany" "number" else
  if m < 1 ∨ ∃ row ∈ st, (row.length : Int) ≠ m then .err "BadCheck" "letters" else if st = [] ∨ ∃ row ∈ st, ∃ z ∈ row, ¬ (0 ≤ z ∧ z < st.length) then .err "BadCheck" "state" else .num (runF st m 0 ns : Nat)
open Classical in
noncomputable def cntO (os out put : List Int) : Oc :=
  if 8 < os.length then .err "TooMany" "letters" else if 4000 < out.length then .err "TooMany" "signs" else if ∃ s ∈ out, far < s then .err "TooMany" "number" else if 4000 < put.length then .err "TooMany" "signs" else if ∃ s ∈ put, far < s then .err "TooMany" "number" else
  if os = [] ∨ ∃ o ∈ os, o < 1 then .err "BadCheck" "letters" else .lst (lcI os out put)
open Classical in
noncomputable def actO (st : List (List Int)) (s0 : Int) (cs : List Int) : Oc :=
  if 8 < cs.length then .err "TooMany" "letters" else if 12 < st.length then .err "TooMany" "states" else if ∃ c ∈ cs, far < c then .err "TooMany" "number" else if cs = [] ∨ ∃ c ∈ cs, c < 0 then .err "BadCheck" "letters" else
  if ∃ row ∈ st, (row.length : Int) ≠ cs.length then .err "BadCheck" "letters" else if st = [] ∨ ∃ row ∈ st, ∃ z ∈ row, ¬ (0 ≤ z ∧ z < st.length) then .err "BadCheck" "state" else if ¬ (0 ≤ s0 ∧ s0 < st.length) then .err "BadCheck" "state" else .num (actF st cs cs.length s0.toNat : Nat)
def Tell (Q : VK) (H : Hp) : Oc → Prop
  | .err c what => ∀ q H', Ext H H' → H' q = some (.tup [.str c, .str what]) → Q (.ref q) H'
  | .num n => ∀ q H', Ext H H' → H' q = some (.tup [.str "told", .int n]) → Q (.ref q) H'
  | .lst l => ∀ q p H', H p = none → Ext H H' → H' p = some (.lst (l.map V.int)) → H' q = some (.tup [.str "told", .ref p]) → Q (.ref q) H'
theorem no_far {ns : List Int} (h : ∀ s ∈ ns, s ≤ far) : ¬ ∃ s ∈ ns, far < s := fun ⟨s, hs, c⟩ => by have := h s hs; omega
def spAsk (K : PySem.W.Frag) : Sp := fun vs H Q _ =>
  (∃ (p sg : Addr) (st : List (List Int)) (m : Int) (ns : List Int), vs = [.int 0, .ref p, .int m, .ref sg] ∧ Tb K H p st ∧ SqL K H sg (ns.map V.int) ∧ Tell Q H (runO st m ns)) ∨
  (∃ (op ou pu : Addr) (os out put : List Int), vs = [.int 1, .ref op, .ref ou, .ref pu] ∧ SqL K H op (os.map V.int) ∧ SqL K H ou (out.map V.int) ∧ SqL K H pu (put.map V.int) ∧ Tell Q H (cntO os out put)) ∨
  (∃ (p cp : Addr) (st : List (List Int)) (s0 : Int) (cs : List Int), vs = [.int 2, .ref p, .int s0, .ref cp] ∧ Tb K H p st ∧ SqL K H cp (cs.map V.int) ∧ Tell Q H (actO st s0 cs))
theorem run_bad {st : List (List Int)} {m : Int} {ns : List Int} {what : Str} (c1 : m ≤ 8) (c2 : st.length ≤ 12) (c3 : ns.length ≤ 4000) (c4 : ∀ s ∈ ns, s ≤ far) (h : BadSt st m what) : runO st m ns = .err "BadCheck" what := by
  unfold runO
  rw [if_neg (by omega), if_neg (by omega), if_neg (by omega), if_neg (no_far c4)]
  rcases h with ⟨h, rfl⟩ | ⟨⟨h1, h2⟩, h3, rfl⟩
  · rw [if_pos h]
  · rw [if_neg (fun z => z.elim (fun z => by omega) fun ⟨row, hr, z⟩ => z (h2 row hr)), if_pos h3]
theorem run_good {st : List (List Int)} {m : Int} {ns : List Int} (c1 : m ≤ 8) (c2 : st.length ≤ 12) (c3 : ns.length ≤ 4000) (c4 : ∀ s ∈ ns, s ≤ far) (g : GoodSt st m) : runO st m ns = .num (runF st m 0 ns : Nat) := by
  obtain ⟨⟨h1, h2⟩, h3, h4⟩ := g
  unfold runO
  rw [if_neg (by omega), if_neg (by omega), if_neg (by omega), if_neg (no_far c4), if_neg (fun z => z.elim (fun z => by omega) fun ⟨row, hr, z⟩ => z (h2 row hr)), if_neg (fun z => z.elim h3 fun ⟨row, hr, z, hz, n⟩ => n (h4 row hr z hz))]
theorem act_bad {st : List (List Int)} {s0 : Int} {cs : List Int} {what : Str} (c1 : cs.length ≤ 8) (c2 : st.length ≤ 12) (c3 : ∀ c ∈ cs, c ≤ far) (c4 : cs ≠ []) (c5 : ∀ c ∈ cs, 0 ≤ c) (h : BadSt st cs.length what) : actO st s0 cs = .err "BadCheck" what := by
  have cp := List.length_pos_iff.mpr c4
  unfold actO
  rw [if_neg (by omega), if_neg (by omega), if_neg (no_far c3), if_neg (fun z => z.elim c4 fun ⟨c, hc, z⟩ => by have := c5 c hc; omega)]
  rcases h with ⟨h, rfl⟩ | ⟨⟨h1, h2⟩, h3, rfl⟩
  · rw [if_pos (h.elim (fun z => by omega) id)]
  · rw [if_neg (fun ⟨row, hr, z⟩ => z (h2 row hr)), if_pos h3]
theorem act_good {st : List (List Int)} {s0 : Int} {cs : List Int} (c1 : cs.length ≤ 8) (c2 : st.length ≤ 12) (c3 : ∀ c ∈ cs, c ≤ far) (c4 : cs ≠ []) (c5 : ∀ c ∈ cs, 0 ≤ c) (g : GoodSt st cs.length) :
    actO st s0 cs = if ¬ (0 ≤ s0 ∧ s0 < st.length) then .err "BadCheck" "state" else .num (actF st cs cs.length s0.toNat : Nat) := by
  obtain ⟨⟨h1, h2⟩, h3, h4⟩ := g
  unfold actO
  rw [if_neg (by omega), if_neg (by omega), if_neg (no_far c3), if_neg (fun z => z.elim c4 fun ⟨c, hc, z⟩ => by have := c5 c hc; omega), if_neg (fun ⟨row, hr, z⟩ => z (h2 row hr)), if_neg (fun z => z.elim h3 fun ⟨row, hr, z, hz, n⟩ => n (h4 row hr z hz))]
theorem sc__law_f_asked : FnScope ["which", "a", "b", "c", "error"] ["which", "a", "b", "c"] (defScope s__law_f_asked) := ⟨rfl, rfl, rfl, by decide +kernel, rfl, by decide +kernel, by decide +kernel⟩
theorem ok_law_f_asked (T : Txt w K mg) : CalG P w K mg base 9 "_law_f_asked" ["which", "a", "b", "c"] (spAsk K) := by
  have c_fault : FaultG P w K mg base faultL := ok_fault T
  have c_run_check := ok_run_check (P := P) (base := base) T
  have c_letter_counts := ok_letter_counts (P := P) (base := base) T
  have c_act_counts := ok_act_counts (P := P) (base := base) T
  refine calG_of T.g__law_f_asked T.d__law_f_asked sc__law_f_asked (fun _ _ _ _ _ _ _ us hl => match us, hl with | [_, _, _, _], _ => rfl) (fun vs H Q E h => by rcases h with ⟨_, _, _, _, _, rfl, _⟩ | ⟨_, _, _, _, _, _, rfl, _⟩ | ⟨_, _, _, _, _, rfl, _⟩ <;> rfl) (fun cdv A outer s H vs Q E hr h => ?_)
  have nd := sc__law_f_asked.nd
  have hu := hu64 hr
  refine ⟨_, (pss_one (ps_tryZ (i := 4) (ts := fun a cls d => tRet (tCallS (spFlts K faultL a cls d) (WE fun _ _ _ _ => False) (tCons (tVar 4) tNil))) rfl rfl nd rfl rfl ⟨rfl, by decide, Or.inl T.g_OutsideError⟩ (L2N.takes_of rfl rfl rfl rfl) (fun W z => (pss_cons (ps_if (pt_cmpR (sameK (K := K) hu) (pv 0) pe_int (nomark _)) (pss_one (ps_ret (pe_tup (pa_cons pe_str (pa_cons (pe_cal c_run_check hr (by omega) (fun σ => L2N.passAt z.tk σ) (pa_cons (pv 1) (pa_cons (pv 2) (pa_cons (pv 3) pa_nil)))) pa_nil))))) pss_nil)
        (pss_cons (ps_if (pt_cmpR (sameK (K := K) hu) (pv 0) pe_int (nomark _)) (pss_one (ps_ret (pe_tup (pa_cons pe_str (pa_cons (pe_cal c_letter_counts hr (by omega) (fun σ => L2N.passAt z.tk σ) (pa_cons (pv 1) (pa_cons (pv 2) (pa_cons (pv 3) pa_nil)))) pa_nil))))) pss_nil)
        (pss_one (ps_ret (pe_tup (pa_cons pe_str (pa_cons (pe_cal c_act_counts hr (by omega) (fun σ => L2N.passAt z.tk σ) (pa_cons (pv 1) (pa_cons (pv 2) (pa_cons (pv 3) pa_nil)))) pa_nil)))))))) (fun a oe cls d pn hz hf => (pss_one (ps_ret (pe_fault c_fault (L2H.roomH_mark (hr.mono (by omega)) _) hz (hotOf hz hf) (List.mem_cons_self) (pv 4))))))), ?_⟩
  have inl1 : (("TooMany" : Str), (["what"] : List Str)) ∈ faultL := by simp [faultL]
  have inl2 : (("BadCheck" : Str), (["what"] : List Str)) ∈ faultL := by simp [faultL]
  have ex1 := T.kits.exm "TooMany" (by simp [errs])
  have ex2 := T.kits.exm "BadCheck" (by simp [errs])
  intro z
  rcases h with ⟨p, sg, st, m, ns, rfl, hp, hsg, k⟩ | ⟨op, ou, pu, os, out, put, rfl, hop, hou, hpu, k⟩ | ⟨p, cp, st, s0, cs, rfl, hp, hc, k⟩
  · walk_at "st"
    refine ite_d (fun _ => ?_) (fun c => absurd rfl c)
    walk_at "st"
    refine ⟨p, sg, st, m, ns, rfl, hp, hsg, ⟨fun c => ?_, fun c1 c => ?_, fun c1 c2 c => ?_, fun c1 c2 c3 c => ?_, fun c1 c2 c3 c4 what hb => ?_⟩, fun c1 c2 c3 c4 g => ?_⟩
    · refine bad_tell ex1 inl1 (Nat.le_of_ble_eq_true rfl) ?_
      unfold runO at k; rw [if_pos c] at k; exact k
    · refine bad_tell ex1 inl1 (Nat.le_of_ble_eq_true rfl) ?_
      unfold runO at k; rw [if_neg (by omega), if_pos c] at k; exact k
    · refine bad_tell ex1 inl1 (Nat.le_of_ble_eq_true rfl) ?_
      unfold runO at k; rw [if_neg (by omega), if_neg (by omega), if_pos c] at k; exact k
    · refine bad_tell ex1 inl1 (Nat.le_of_ble_eq_true rfl) ?_
      unfold runO at k; rw [if_neg (by omega), if_neg (by omega), if_neg (by omega), if_pos c] at k; exact k
    · refine bad_tell ex2 inl2 (Nat.le_of_ble_eq_true rfl) ?_
      rw [run_bad c1 c2 c3 c4 hb] at k; exact k
    · rw [run_good c1 c2 c3 c4 g] at k
      walk_at "st"
      intro q H2 hq e2 h2
      exact k q H2 e2 h2
  · walk_at "st"
    refine ite_d (fun c => nomatch c) (fun _ => ?_)
    walk_at "st"
    refine ite_d (fun _ => ?_) (fun c => absurd rfl c)
    walk_at "st"
    refine ⟨op, ou, pu, os, out, put, rfl, hop, hou, hpu, ⟨fun c => ?_, fun c1 c => ?_, fun c1 c2 c => ?_, fun c1 c2 c3 c => ?_, fun c1 c2 c3 c4 c => ?_, fun c1 c2 c3 c4 c5 c => ?_⟩, fun c1 c2 c3 c4 c5 c6 c7 q H2 hq e2 h2 => ?_⟩
    · refine bad_tell ex1 inl1 (Nat.le_of_ble_eq_true rfl) ?_
      unfold cntO at k; rw [if_pos c] at k; exact k
    · refine bad_tell ex1 inl1 (Nat.le_of_ble_eq_true rfl) ?_
      unfold cntO at k; rw [if_neg (by omega), if_pos c] at k; exact k
    · refine bad_tell ex1 inl1 (Nat.le_of_ble_eq_true rfl) ?_
      unfold cntO at k; rw [if_neg (by omega), if_neg (by omega), if_pos c] at k; exact k
    · refine bad_tell ex1 inl1 (Nat.le_of_ble_eq_true rfl) ?_
      unfold cntO at k; rw [if_neg (by omega), if_neg (by omega), if_neg (no_far c3), if_pos c] at k; exact k
    · refine bad_tell ex1 inl1 (Nat.le_of_ble_eq_true rfl) ?_
      unfold cntO at k; rw [if_neg (by omega), if_neg (by omega), if_neg (no_far c3), if_neg (by omega), if_pos c] at k; exact k
    · refine bad_tell ex2 inl2 (Nat.le_of_ble_eq_true rfl) ?_
      unfold cntO at k; rw [if_neg (by omega), if_neg (by omega), if_neg (no_far c3), if_neg (by omega), if_neg (no_far c5), if_pos c] at k; exact k
    · unfold cntO at k
      rw [if_neg (by omega), if_neg (by omega), if_neg (no_far c3), if_neg (by omega), if_neg (no_far c5), if_neg (fun z => z.elim c6 fun ⟨o, ho, z⟩ => by have := c7 o ho; omega)] at k
      walk_at "st"
      intro q3 H3 hq3 e3 h3
      exact k q3 q H3 hq (e2.trans e3) (e3 _ _ h2) h3
  · walk_at "st"
    refine ite_d (fun c => nomatch c) (fun _ => ?_)
    walk_at "st"
    refine ite_d (fun c => nomatch c) (fun _ => ?_)
    walk_at "st"
    refine ⟨p, cp, st, s0, cs, rfl, hp, hc, ⟨fun c => ?_, fun c1 c => ?_, fun c1 c2 c => ?_, fun c1 c2 c3 c => ?_, fun c1 c2 c3 c4 c5 what hb => ?_, fun c1 c2 c3 c4 c5 g c => ?_⟩, fun c1 c2 c3 c4 c5 g hs H2 e2 => ?_⟩
    · refine bad_tell ex1 inl1 (Nat.le_of_ble_eq_true rfl) ?_
      unfold actO at k; rw [if_pos c] at k; exact k
    · refine bad_tell ex1 inl1 (Nat.le_of_ble_eq_true rfl) ?_
      unfold actO at k; rw [if_neg (by omega), if_pos c] at k; exact k
    · refine bad_tell ex1 inl1 (Nat.le_of_ble_eq_true rfl) ?_
      unfold actO at k; rw [if_neg (by omega), if_neg (by omega), if_pos c] at k; exact k
    · refine bad_tell ex2 inl2 (Nat.le_of_ble_eq_true rfl) ?_
      unfold actO at k; rw [if_neg (by omega), if_neg (by omega), if_neg (no_far c3), if_pos c] at k; exact k
    · refine bad_tell ex2 inl2 (Nat.le_of_ble_eq_true rfl) ?_
      rw [act_bad c1 c2 c3 c4 c5 hb] at k; exact k
    · refine bad_tell ex2 inl2 (Nat.le_of_ble_eq_true rfl) ?_
      rw [act_good c1 c2 c3 c4 c5 g, if_pos c] at k; exact k
    · rw [act_good c1 c2 c3 c4 c5 g, if_neg (fun n => n hs)] at k
      walk_at "st"
      intro q3 H3 hq3 e3 h3
      exact k q3 H3 (e2.trans e3) h3

end
end K30
set_option maxRecDepth 100000
set_option maxHeartbeats 4000000
namespace K30
open PySem PySem.Spec PyProof.Rows L2 L3
local macro_rules | `(tactic| walk_at "s1") => `(tactic| first
  | with_reducible refine r_seq ?_
  | with_reducible refine r_asgN ?_
  | with_reducible refine r_ret ?_
  | with_reducible refine r_next ?_
  | ((with_reducible refine' r_var ?hv ?_); (case hv => exact rfl))
  | with_reducible refine r_c ?_
  | with_reducible refine r_op ?_
  | with_reducible refine r_cons ?_
  | with_reducible refine r_nil ?_
  | with_reducible refine r_plusI ?_
  | with_reducible refine r_I0 ?_
  | with_reducible refine r_test ?_
  | with_reducible refine r_bl ?_
  | with_reducible refine r_ifS ?_
  | with_reducible refine r_cb ?_
  | with_reducible refine r_callS ?_
  | with_reducible refine r_and ?_
  | with_reducible refine r_or ?_
  | with_reducible refine r_not ?_
  | with_reducible refine r_B ?_
  | ((with_reducible refine' r_aug ?hv ?_); (case hv => exact rfl))
  | with_reducible refine r_augS ?_
  | with_reducible refine r_ipI ?_
  | with_reducible refine r_asg ?_
  | with_reducible refine r_sub ?_
  | with_reducible refine r_brk ?_
  | with_reducible refine r_isN1 ?_
  | with_reducible refine r_notN1 ?_
  | with_reducible refine r_intI ?_
  | with_reducible refine r_abs ?_
  | with_reducible refine r_min ?_
  | with_reducible refine r_max ?_
  | ((with_reducible refine' r_mod ?hz ?_); (case hz => omega))
  | ((with_reducible refine' r_pow ?hz ?_); (case hz => exact ⟨by decide, by decide, by decide⟩))
  | ((with_reducible refine' r_rg1 ?hz ?_); (case hz => omega))
  | ((with_reducible refine' r_rg2 ?hz ?_); (case hz => omega))
  | ((with_reducible refine' r_newL ?hz ?_); (case hz => exact Nat.le_of_ble_eq_true rfl))
  | ((with_reducible refine' r_newT ?hz ?_); (case hz => exact Nat.le_of_ble_eq_true rfl))
  | with_reducible refine r_for ?_
  | with_reducible refine r_lc ?_
  | with_reducible refine r_iR1 ?_
  | with_reducible refine r_iR2 ?_
  | with_reducible refine r_iL ?_
  | with_reducible refine r_iT ?_
  | with_reducible refine r_gname ?_
  | with_reducible refine r_gcons ?_
  | with_reducible refine r_gnil ?_
  | with_reducible refine r_yes ?_
  | with_reducible refine r_mkO ?_
  | with_reducible refine r_cont ?_
  | with_reducible refine r_drop ?_
  | with_reducible refine r_retN ?_
  | with_reducible refine r_ifC ?_
  | with_reducible refine r_ifI ?_
  | with_reducible refine r_if ?_
  | with_reducible refine r_un ?_
  | with_reducible refine r_neg ?_
  | with_reducible refine r_andV ?_
  | with_reducible refine r_orV ?_
  | with_reducible refine r_notV ?_
  | with_reducible refine r_tup ?_
  | with_reducible refine r_lst ?_
  | with_reducible refine r_bm ?_
  | with_reducible refine r_bm0 ?_
  | with_reducible refine r_sl ?_
  | with_reducible refine r_chain ?_
  | with_reducible refine r_listDn ?_
  | with_reducible refine r_listRg2 ?_
  | with_reducible refine r_revL ?_
  | with_reducible refine r_noPart ?_
  | with_reducible refine r_lenSet ?_
  | with_reducible refine r_part ?_
  | with_reducible refine r_int ?_
  | ((with_reducible refine' r_sameS ?hs ?_); (case hs => exact rfl))
  | ((with_reducible refine' r_otherS ?hs ?_); (case hs => exact rfl))
  | with_reducible refine ite_t ?_
  | with_reducible refine ite_f ?_
  | with_reducible refine ite_nt ?_
  | with_reducible refine ite_nf ?_)
local macro_rules | `(tactic| walk_at "st") => `(tactic| repeat (walk_at "s1"))

section
variable {P : Program} {w : World} {K : PySem.W.Frag} {mg : Str → Option Value} {base : Heap}
/-! ### doubling -/
def spLOften (K : PySem.W.Frag) : Sp := fun vs H Q _ => ∃ (p : Addr) (st : List (List Int)) (m : Int) (s a : Nat) (many : Nat), vs = [.ref p, .int s, .int a, .int many] ∧ Tb K H p st ∧ GoodSt st m ∧ s < st.length ∧ (a : Int) < m ∧ st.length ≤ 9999 ∧ many < 2 ^ 101 ∧ ∀ H', Ext H H' → Q (.int (itF (fun s => stp st s a) many s : Nat)) H'
def twL (f : Nat → Nat) (L e : Nat) : List V := (List.range L).map fun (x : Nat) => V.int (itF f e x : Nat)
theorem twL_at {f : Nat → Nat} {L e x : Nat} (h : x < L) : (twL f L e)[x]? = some (V.int (itF f e x : Nat)) := by
  unfold twL
  rw [List.getElem?_map, List.getElem?_range h]
  rfl
theorem sc__law_f_often : FnScope ["states", "state", "letter", "many", "twice", "bit", "row", "one"] ["states", "state", "letter", "many"] (defScope s__law_f_often) := ⟨rfl, rfl, rfl, by decide +kernel, rfl, by decide +kernel, by decide +kernel⟩
theorem ok_law_f_often (T : Txt w K mg) : CalG P w K mg base 1 "_law_f_often" ["states", "state", "letter", "many"] (spLOften K) := by
  refine calG_of T.g__law_f_often T.d__law_f_often sc__law_f_often (fun _ _ _ _ _ _ _ us hl => match us, hl with | [_, _, _, _], _ => rfl) (fun vs H Q E h => by obtain ⟨_, _, _, _, _, _, rfl, _⟩ := h; rfl) (fun cdv A outer s H vs Q E hr h => ?_)
  have nd := sc__law_f_often.nd
  have hu := hu64 hr
  obtain ⟨p, st, m, s, a, many, rfl, hp, g, hs, ha, hsz, hm, k⟩ := h
  obtain ⟨xs, h1, h2, h3⟩ := hp.get
  refine ⟨_, (pss_cons (ps_set (i := 4) nd rfl (Or.inr rfl) (pe_lc (own := [("row", 6)]) rfl nd (piL (K := K) (pv 0)) (blkOk_by (N := ["states", "state", "letter", "many", "twice", "bit", "row", "one"]) (sc := defScope s__law_f_often) (by decide +kernel)) (fun _ _ _ _ _ => (pg_name (i := 6) nd rfl (Or.inl rfl))) (fun _ _ _ _ _ => pts_nil) (fun _ _ _ _ _ => (pe_ix (ixK (K := K)) (pv 6) (pv 2) (fun _ _ => rfl)))))
        (pss_cons (ps_for (passes_of rfl) rfl (pi_range1 (by rfl) T.f_range (pa_cons pe_int pa_nil)) (pg_name (i := 5) nd rfl (Or.inl rfl)) (pss_cons (ps_if (pt_cmpR (sameK (K := K) hu) (pv 3) pe_int (nomark _)) (pss_one (ps_ret (pv 1))) pss_nil)
        (C8.pss_cut (ps_if (pt_cmpR (sameK (K := K) hu) (pe_op op_and (pv 3) pe_int) pe_int (nomark _)) (pss_one (ps_set (i := 1) nd rfl (Or.inl rfl) (pe_ix (ixK (K := K)) (pv 4) (pv 1) (fun _ _ => rfl)))) pss_nil)
        (pss_cons (ps_set (i := 4) nd rfl (Or.inr rfl) (pe_lc (own := [("one", 7)]) rfl nd (piL (K := K) (pv 4)) (blkOk_by (N := ["states", "state", "letter", "many", "twice", "bit", "row", "one"]) (sc := defScope s__law_f_often) (by decide +kernel)) (fun _ _ _ _ _ => (pg_name (i := 7) nd rfl (Or.inl rfl))) (fun _ _ _ _ _ => pts_nil) (fun _ _ _ _ _ => (pe_ix (ixK (K := K)) (pv 4) (pv 7) (fun _ _ => rfl)))))
        (pss_one (ps_set (i := 3) nd rfl (Or.inl rfl) (pe_op op_fdivW (pv 3) pe_int)))))))
        (pss_one (ps_ret (pv 1))))), ?_⟩
  walk_at "st"
  refine r_li h1 ?_
  intro D hD
  refine lcW_list (LcP H D fun x => .int (itF (fun s => stp st s a) 1 x : Nat)) (.start hD) (fun i H' _ q => q.e.l h1) ?_ ?_
  · intro i x H2 hx q
    have hi : i < st.length := by rw [← h2]; exact (List.getElem?_eq_some_iff.mp hx).1
    obtain ⟨row, er, hl, hrow⟩ := good_row g hi
    obtain ⟨b, eb, hb⟩ := h3 i row er
    rw [hx] at eb
    cases eb
    walk_at "st"
    refine r_lcW rfl ?_
    walk_at "st"
    refine r_atA (q.e.sq hb) (atI_nat (j := a) (v := .int (stp st i a : Nat)) (by rw [List.getElem?_map, (hrow a (by omega)).1]; rfl)) ?_
    exact q.push hD (by omega) .rfl rfl
  intro H2 q2
  have ht : H2 D = some (.lst (twL (fun s => stp st s a) st.length (2 ^ 0))) := by rw [q2.d, h2]; rfl
  have lt := fun e {x : Nat} (hx : x < st.length) => it_lt g ha hx e
  generalize hf : (fun s => stp st s a) = f at *
  walk_at "st"
  refine forW_range (fun i σ' H' => ∃ (tw : Addr) (v : Option V), σ' = [some (.ref p), some (.int (itF f (many % 2 ^ i) s : Nat)), some (.int a), some (.int (many / 2 ^ i : Nat)), some (.ref tw), v, none, none] ∧ Ext H H' ∧ H' tw = some (.lst (twL f st.length (2 ^ i)))) ⟨D, none, by rw [Nat.pow_zero, Nat.mod_one, Nat.div_one]; rfl, q2.e, ht⟩ ?_ ?_
  · rintro i σ' H3 hi ⟨tw, v, rfl, e3, h3'⟩
    walk_at "st"
    refine ite_d (fun c => ?_) (fun c => ?_)
    · walk_at "st"
      have z : many / 2 ^ i = 0 := by have := V.int.inj c; omega
      have hlt : many < 2 ^ i := by
        rcases Nat.div_eq_zero_iff.mp z with h | h
        · have := Nat.two_pow_pos i; omega
        · exact h
      rw [Nat.mod_eq_of_lt hlt]
      exact k H3 e3
    walk_at "st"
    have e1 : Builtin.bitAnd ((many / 2 ^ i : Nat) : Int) 1 = ((many / 2 ^ i % 2 : Nat) : Int) := by
      have h := Bits.bitAnd_mask (x := ((many / 2 ^ i : Nat) : Int)) 1 (Int.natCast_nonneg _)
      rw [show ((2 : Int) ^ 1 - 1) = 1 by decide] at h
      rw [h, show ((2 : Int) ^ 1) = ((2 : Nat) : Int) by decide, ← Int.natCast_emod]
    have slt : itF f (many % 2 ^ i) s < st.length := lt _ hs
    have mp : many % 2 ^ (i + 1) = many % 2 ^ i + 2 ^ i * (many / 2 ^ i % 2) := Nat.mod_pow_succ
    refine r_cut (fun σ' H' => σ' = [some (.ref p), some (.int (itF f (many % 2 ^ (i + 1)) s : Nat)), some (.int a), some (.int (many / 2 ^ i : Nat)), some (.ref tw), some (.int (0 + (i : Int))), none, none] ∧ H3 = H') ?_ ?_
    · walk_at "st"
      rw [e1]
      refine ite_d (fun c1 => ?_) (fun c1 => ?_)
      · have z1 : many / 2 ^ i % 2 = 1 := by have := V.int.inj c1; omega
        walk_at "st"
        refine r_atL (sqL h3') (atI_nat (twL_at slt)) ?_
        refine ⟨?_, rfl⟩
        rw [mp, z1, Nat.mul_one, itF_add]
        rfl
      · have z1 : many / 2 ^ i % 2 = 0 := by
          have : many / 2 ^ i % 2 ≠ 1 := fun e => c1 (by rw [e]; rfl)
          omega
        walk_at "st"
        refine ⟨?_, rfl⟩
        rw [mp, z1, Nat.mul_zero, Nat.add_zero]
        rfl
    rintro σ' H4 ⟨rfl, rfl⟩
    walk_at "st"
    refine r_li (sqL h3') ?_
    intro D2 hD2
    have tl : (twL f st.length (2 ^ i)).length = st.length := by unfold twL; rw [List.length_map, List.length_range]
    refine lcW_list (LcP H3 D2 fun x => .int (itF f (2 ^ (i + 1)) x : Nat)) (.start hD2) (fun j H' _ q => q.e.l (sqL h3')) (fun j x H4 hx q => ?_) (fun H4 q => ?_)
    · have hj : j < st.length := by rw [← tl]; exact (List.getElem?_eq_some_iff.mp hx).1
      rw [twL_at hj] at hx
      cases hx
      walk_at "st"
      refine r_lcW rfl ?_
      walk_at "st"
      refine r_atL (sqL (q.e _ _ h3')) (atI_nat (twL_at (lt _ hj))) ?_
      refine q.push hD2 (by omega) .rfl ?_
      rw [← itF_add, Nat.pow_succ, Nat.mul_two]
    walk_at "st"
    refine r_div (cdW (by decide) (by decide)) ?_
    refine ⟨D2, some (.int (0 + (i : Int))), ?_, e3.trans q.e, ?_⟩
    · rw [Nat.pow_succ, ← Nat.div_div_eq_div_mul, Int.natCast_ediv]
      rfl
    · rw [q.d, tl]
      rfl
  · rintro σ' H3 ⟨tw, v, rfl, e3, h3'⟩
    walk_at "st"
    have e : many % 2 ^ (101 : Int).toNat = many := Nat.mod_eq_of_lt hm
    rw [e]
    exact k H3 e3

def spLAct (K : PySem.W.Frag) : Sp := fun vs H Q _ => ∃ (p cp : Addr) (st : List (List Int)) (s : Nat) (cs : List Int), vs = [.ref p, .int s, .ref cp] ∧ Tb K H p st ∧ SqL K H cp (cs.map V.int) ∧ GoodSt st cs.length ∧ s < st.length ∧ st.length ≤ 9999 ∧ cs.length ≤ 1000 ∧ (∀ c ∈ cs, 0 ≤ c ∧ c < 2 ^ 101) ∧ ∀ H', Ext H H' → Q (.int (actF st cs cs.length s : Nat)) H'
theorem sc__law_f_acted : FnScope ["states", "state", "counts", "letter"] ["states", "state", "counts"] (defScope s__law_f_acted) := ⟨rfl, rfl, rfl, by decide +kernel, rfl, by decide +kernel, by decide +kernel⟩
theorem ok_law_f_acted (T : Txt w K mg) : CalG P w K mg base 2 "_law_f_acted" ["states", "state", "counts"] (spLAct K) := by
  have c__law_f_often := ok_law_f_often (P := P) (base := base) T
  refine calG_of T.g__law_f_acted T.d__law_f_acted sc__law_f_acted (fun _ _ _ _ _ _ _ us hl => match us, hl with | [_, _, _], _ => rfl) (fun vs H Q E h => by obtain ⟨_, _, _, _, _, rfl, _⟩ := h; rfl) (fun cdv A outer s H vs Q E hr h => ?_)
  have nd := sc__law_f_acted.nd
  have hu := hu64 hr
  obtain ⟨p, cp, st, s, cs, rfl, hp, hc, g, hs, hsz, hcs, hall, k⟩ := h
  refine ⟨_, (pss_cons (ps_for (passes_of rfl) rfl (pi_range1 (by rfl) T.f_range (pa_cons (pe_callB (lenK (K := K)) (by rfl) T.f_len boot_len (pa_cons (pv 2) pa_nil)) pa_nil)) (pg_name (i := 3) nd rfl (Or.inl rfl)) (pss_one (ps_set (i := 1) nd rfl (Or.inl rfl) (pe_cal c__law_f_often hr (by omega) (fun σ => L2N.passAt (L2N.takes_of rfl rfl rfl rfl) σ) (pa_cons (pv 0) (pa_cons (pv 1) (pa_cons (pv 3) (pa_cons (pe_ix (ixK (K := K)) (pv 2) (pv 3) (fun _ _ => rfl)) pa_nil))))))))
        (pss_one (ps_ret (pv 1)))), ?_⟩
  have alt : ∀ i, i ≤ cs.length → actF st cs i s < st.length := by
    intro i
    induction i with
    | zero => intro _; exact hs
    | succ i ih => intro hi; exact it_lt g (by omega) (ih (by omega)) _
  walk_at "st"
  refine r_lenL hc (n := cs.length) (by rw [List.length_map]) ?_
  walk_at "st"
  rw [show ((cs.length : Int)).toNat = cs.length by omega]
  refine forW_range (fun i σ' H' => ∃ v3, σ' = [some (.ref p), some (.int (actF st cs i s : Nat)), some (.ref cp), v3] ∧ Ext H H') ⟨none, rfl, .rfl⟩ ?_ ?_
  · rintro i σ' H' hi ⟨v3, rfl, e⟩
    have eo : cs[i]? = some (cs.getD i 0) := by rw [List.getD_eq_getElem?_getD, List.getElem?_eq_getElem hi]; rfl
    have hb := hall _ (List.mem_of_getElem? eo)
    walk_at "st"
    rw [Int.zero_add]
    refine r_atL (e.l hc) (atI_nat (j := i) (v := .int (cs.getD i 0)) (by rw [List.getElem?_map, eo]; rfl)) ?_
    walk_at "st"
    refine ⟨p, st, _, _, i, (cs.getD i 0).toNat, by rw [Int.toNat_of_nonneg hb.1], hp.ext e, g, alt i (by omega), by omega, hsz, by omega, fun H2 e2 => ?_⟩
    exact ⟨some (.int (i : Int)), rfl, e.trans e2⟩
  · rintro σ' H' ⟨v3, rfl, e⟩
    walk_at "st"
    exact k H' e

/-! ### drawn rows -/
def spRow (K : PySem.W.Frag) : Sp := fun vs H Q _ => ∃ (p : Addr) (most : Int), vs = [.ref p, .int most] ∧ Src H p ∧ 0 ≤ most ∧ most ≤ 1000 ∧ ∀ q H' ns, H q = none → Src H' p → But p H H' → H' q = some (.lst ((ns : List Int).map V.int)) → (ns.length : Int) ≤ most → (∀ s ∈ ns, 0 ≤ s ∧ s ≤ far) → Q (.ref q) H'
theorem sc__law_f_row : FnScope ["source", "most", "found", "at", "great"] ["source", "most"] (defScope s__law_f_row) := ⟨rfl, rfl, rfl, by decide +kernel, rfl, by decide +kernel, by decide +kernel⟩
theorem ok_law_f_row (T : Txt w K mg) : CalG P w K mg base 3 "_law_f_row" ["source", "most"] (spRow K) := by
  have c__law_pick := ok_law_pick (P := P) (base := base) T
  refine calG_of T.g__law_f_row T.d__law_f_row sc__law_f_row (fun _ _ _ _ _ _ _ us hl => match us, hl with | [_, _], _ => rfl) (fun vs H Q E h => by obtain ⟨_, _, rfl, _⟩ := h; rfl) (fun cdv A outer s H vs Q E hr h => ?_)
  have nd := sc__law_f_row.nd
  have hu := hu64 hr
  obtain ⟨p, most, rfl, sp, m0, m1, k⟩ := h
  refine ⟨_, (pss_cons (ps_set (i := 2) nd rfl (Or.inl rfl) (pe_lst pa_nil))
        (pss_cons (ps_for (passes_of rfl) rfl (pi_range1 (by rfl) T.f_range (pa_cons (pe_cal c__law_pick hr (by omega) (fun σ => L2N.passAt (L2N.takes_of rfl rfl rfl rfl) σ) (pa_cons (pv 0) (pa_cons (pe_op (plusK (K := K)) (pv 1) pe_int) pa_nil))) pa_nil)) (pg_name (i := 3) nd rfl (Or.inl rfl)) (pss_cons (ps_set (i := 4) nd rfl (Or.inl rfl) (pe_cmpR (sameK (K := K) hu) (pe_cal c__law_pick hr (by omega) (fun σ => L2N.passAt (L2N.takes_of rfl rfl rfl rfl) σ) (pa_cons (pv 0) (pa_cons pe_int pa_nil))) pe_int (nomark _)))
        (pss_one (ps_expr (peBM (K := K) (pe_bm PySem.F.plainAttrs_list PySem.F.slot_list_append PySem.F.type_list_append mt_append (pv 2) (pa_cons (pe_ifExp (pt_val (pv 4)) (pe_op op_sub (pe_op op_pow pe_int pe_int) (pe_cal c__law_pick hr (by omega) (fun σ => L2N.passAt (L2N.takes_of rfl rfl rfl rfl) σ) (pa_cons (pv 0) (pa_cons pe_int pa_nil)))) (pe_cal c__law_pick hr (by omega) (fun σ => L2N.passAt (L2N.takes_of rfl rfl rfl rfl) σ) (pa_cons (pv 0) (pa_cons pe_int pa_nil)))) pa_nil)))))))
        (pss_one (ps_ret (pv 2))))), ?_⟩
  walk_at "st"
  intro f H1 hf e1 h1
  have nfp : f ≠ p := (src_ne sp hf).symm
  walk_at "st"
  refine ⟨p, _, rfl, sp.ext e1, by omega, by omega, fun r H2 r0 r1 s2 n2 => ?_⟩
  walk_at "st"
  refine forW_range (fun i σ' H' => ∃ v1 v2 ns, σ' = [some (.ref p), some (.int most), some (.ref f), v1, v2] ∧ Src H' p ∧ But p H H' ∧ H' f = some (.lst ((ns : List Int).map V.int)) ∧ ns.length = i ∧ ∀ s ∈ ns, 0 ≤ s ∧ s ≤ far) ⟨none, none, [], rfl, s2, (ext_but e1).trans (.of n2), stay n2 nfp h1, rfl, fun s h => by cases h⟩ ?_ ?_
  · rintro i σ' H3 hi ⟨v1, v2, ns, rfl, s3, b3, h3, hn, hall⟩
    walk_at "st"
    refine ⟨p, 6, rfl, s3, by decide, by decide, fun r4 H4 _ _ s4 n4 => ?_⟩
    have h4 := stay n4 nfp h3
    walk_at "st"
    refine ⟨.inl ⟨rfl, _, sqL h4⟩, ?_⟩
    have fin : ∀ (z : Int) (H5 : Hp) (v1 v2 : Option V), 0 ≤ z → z ≤ far → Src H5 p → (∀ b, b ≠ p → H5 b = H4 b) → rAppend (.ref f) [.int z] H5 fun _ H6 => ∃ v1' v2' ns, [some (.ref p), some (.int most), some (.ref f), v1, v2] = [some (.ref p), some (.int most), some (.ref f), v1', v2'] ∧ Src H6 p ∧ But p H H6 ∧ H6 f = some (.lst ((ns : List Int).map V.int)) ∧ ns.length = i + 1 ∧ ∀ s ∈ ns, 0 ≤ s ∧ s ≤ far := fun z H5 v1 v2 z0 z1 s5 n5 => by
      refine r_app (stay n5 nfp h4) (by rw [List.length_map]; omega) (fun H6 h6 n6 => ⟨_, _, ns ++ [z], rfl, s5.stay (.of n6) nfp.symm, ((b3.trans (.of n4)).trans (.of n5)).mut hf n6, by rw [h6, List.map_append]; rfl, by rw [List.length_append, hn]; rfl, fun s hs => ?_⟩)
      rcases List.mem_append.mp hs with hs | hs
      · exact hall s hs
      · rw [List.mem_singleton.mp hs]; exact ⟨z0, z1⟩
    walk_at "st"
    refine ite_d (fun c => ?_) (fun c => ?_)
    · walk_at "st"
      refine ⟨p, 20, rfl, s4, by decide, by decide, fun r5 H5 r50 r51 s5 n5 => ?_⟩
      walk_at "st"
      have hfar : (10 : Int) ^ (30 : Int).toNat = far := by decide
      have hfp : (100 : Int) ≤ far := by decide
      rw [hfar]
      exact fin _ H5 _ _ (by omega) (by omega) s5 n5
    · walk_at "st"
      refine ⟨p, 12, rfl, s4, by decide, by decide, fun r5 H5 r50 r51 s5 n5 => ?_⟩
      walk_at "st"
      have hfp : (100 : Int) ≤ far := by decide
      exact fin _ H5 _ _ r50 (by omega) s5 n5
  · rintro σ' H3 ⟨v1, v2, ns, rfl, s3, b3, h3, hn, hall⟩
    walk_at "st"
    exact k f H3 ns hf s3 b3 h3 (by omega) hall

end
end K30
set_option maxRecDepth 100000
set_option maxHeartbeats 4000000
namespace K30
open PySem PySem.Spec PyProof.Rows L2 L3
local macro_rules | `(tactic| walk_at "s1") => `(tactic| first
  | with_reducible refine r_seq ?_
  | with_reducible refine r_asgN ?_
  | with_reducible refine r_ret ?_
  | with_reducible refine r_next ?_
  | ((with_reducible refine' r_var ?hv ?_); (case hv => exact rfl))
  | with_reducible refine r_c ?_
  | with_reducible refine r_op ?_
  | with_reducible refine r_cons ?_
  | with_reducible refine r_nil ?_
  | with_reducible refine r_plusI ?_
  | with_reducible refine r_I0 ?_
  | with_reducible refine r_test ?_
  | with_reducible refine r_bl ?_
  | with_reducible refine r_ifS ?_
  | with_reducible refine r_cb ?_
  | with_reducible refine r_callS ?_
  | with_reducible refine r_and ?_
  | with_reducible refine r_or ?_
  | with_reducible refine r_not ?_
  | with_reducible refine r_B ?_
  | ((with_reducible refine' r_aug ?hv ?_); (case hv => exact rfl))
  | with_reducible refine r_augS ?_
  | with_reducible refine r_ipI ?_
  | with_reducible refine r_asg ?_
  | with_reducible refine r_sub ?_
  | with_reducible refine r_brk ?_
  | with_reducible refine r_isN1 ?_
  | with_reducible refine r_notN1 ?_
  | with_reducible refine r_intI ?_
  | with_reducible refine r_abs ?_
  | with_reducible refine r_min ?_
  | with_reducible refine r_max ?_
  | ((with_reducible refine' r_mod ?hz ?_); (case hz => omega))
  | ((with_reducible refine' r_pow ?hz ?_); (case hz => exact ⟨by decide, by decide, by decide⟩))
  | ((with_reducible refine' r_rg1 ?hz ?_); (case hz => omega))
  | ((with_reducible refine' r_rg2 ?hz ?_); (case hz => omega))
  | ((with_reducible refine' r_newL ?hz ?_); (case hz => exact Nat.le_of_ble_eq_true rfl))
  | ((with_reducible refine' r_newT ?hz ?_); (case hz => exact Nat.le_of_ble_eq_true rfl))
  | with_reducible refine r_for ?_
  | with_reducible refine r_lc ?_
  | with_reducible refine r_iR1 ?_
  | with_reducible refine r_iR2 ?_
  | with_reducible refine r_iL ?_
  | with_reducible refine r_iT ?_
  | with_reducible refine r_gname ?_
  | with_reducible refine r_gcons ?_
  | with_reducible refine r_gnil ?_
  | with_reducible refine r_yes ?_
  | with_reducible refine r_mkO ?_
  | with_reducible refine r_cont ?_
  | with_reducible refine r_drop ?_
  | with_reducible refine r_retN ?_
  | with_reducible refine r_ifC ?_
  | with_reducible refine r_ifI ?_
  | with_reducible refine r_if ?_
  | with_reducible refine r_un ?_
  | with_reducible refine r_neg ?_
  | with_reducible refine r_andV ?_
  | with_reducible refine r_orV ?_
  | with_reducible refine r_notV ?_
  | with_reducible refine r_tup ?_
  | with_reducible refine r_lst ?_
  | with_reducible refine r_bm ?_
  | with_reducible refine r_bm0 ?_
  | with_reducible refine r_sl ?_
  | with_reducible refine r_chain ?_
  | with_reducible refine r_listDn ?_
  | with_reducible refine r_listRg2 ?_
  | with_reducible refine r_revL ?_
  | with_reducible refine r_noPart ?_
  | with_reducible refine r_lenSet ?_
  | with_reducible refine r_part ?_
  | with_reducible refine r_int ?_
  | ((with_reducible refine' r_sameS ?hs ?_); (case hs => exact rfl))
  | ((with_reducible refine' r_otherS ?hs ?_); (case hs => exact rfl))
  | with_reducible refine ite_t ?_
  | with_reducible refine ite_f ?_
  | with_reducible refine ite_nt ?_
  | with_reducible refine ite_nf ?_)
local macro_rules | `(tactic| walk_at "st") => `(tactic| repeat (walk_at "s1"))

section
variable {P : Program} {w : World} {K : PySem.W.Frag} {mg : Str → Option Value} {base : Heap}
/-! ### the states come to -/
inductive Reach (st : List (List Int)) (m : Int) : Nat → Prop
  | z : Reach st m 0
  | s {c a : Nat} : Reach st m c → (a : Int) < m → Reach st m (stp st c a)
theorem stp_lt {st : List (List Int)} {m : Int} (g : GoodSt st m) {s a : Nat} (hs : s < st.length) (ha : (a : Int) < m) : stp st s a < st.length := by
  obtain ⟨row, _, hl, h⟩ := good_row g hs
  exact (h a (by omega)).2
theorem good_pos {st : List (List Int)} {m : Int} (g : GoodSt st m) : 0 < st.length := List.length_pos_iff.mpr g.2.1
theorem Reach.lt {st : List (List Int)} {m : Int} (g : GoodSt st m) {c : Nat} (h : Reach st m c) : c < st.length := by
  induction h with
  | z => exact good_pos g
  | s _ ha ih => exact stp_lt g ih ha
structure ComeS (st : List (List Int)) (m : Int) (cs : List Nat) : Prop where
  nd : cs.Nodup
  so : cs.Pairwise (· ≤ ·)
  mem : ∀ c, c ∈ cs ↔ Reach st m c
def ntV (cs : List Nat) : List V := (cs.map fun (c : Nat) => (c : Int)).map V.int
theorem ntV_len (cs : List Nat) : (ntV cs).length = cs.length := by unfold ntV; rw [List.length_map, List.length_map]
theorem ntV_at {cs : List Nat} {i c : Nat} (h : cs[i]? = some c) : (ntV cs)[i]? = some (V.int (c : Nat)) := by
  unfold ntV
  rw [List.getElem?_map, List.getElem?_map, h]
  rfl
theorem ntV_get {cs : List Nat} {i : Nat} {x : V} (h : (ntV cs)[i]? = some x) : ∃ c, cs[i]? = some c ∧ x = .int (c : Nat) := by
  unfold ntV at h
  rw [List.getElem?_map, List.getElem?_map] at h
  obtain ⟨y, hy, rfl⟩ := Option.map_eq_some_iff.mp h
  obtain ⟨c, hc, rfl⟩ := Option.map_eq_some_iff.mp hy
  exact ⟨c, hc, rfl⟩
theorem mem_nt {cs : List Nat} {c : Nat} : (c : Int) ∈ cs.map (fun (c : Nat) => (c : Int)) ↔ c ∈ cs := by
  rw [List.mem_map]
  exact ⟨fun ⟨a, ha, e⟩ => by rw [← show a = c by omega]; exact ha, fun h => ⟨c, h, rfl⟩⟩
theorem come_len {st : List (List Int)} {m : Int} (g : GoodSt st m) {cs : List Nat} (nd : cs.Nodup) (h : ∀ c ∈ cs, Reach st m c) : cs.length ≤ st.length := Lay.nodup_len _ cs nd fun c hc => (h c hc).lt g
def spCome (K : PySem.W.Frag) : Sp := fun vs H Q _ => ∃ (p : Addr) (st : List (List Int)) (m : Int), vs = [.ref p, .int m] ∧ Tb K H p st ∧ GoodSt st m ∧ m ≤ 1000 ∧ st.length ≤ 1000 ∧ ∀ q H' cs, H q = none → Ext H H' → H' q = some (.lst (ntV cs)) → ComeS st m cs → Q (.ref q) H'
theorem sc__law_come : FnScope ["states", "letters", "found", "at", "letter"] ["states", "letters"] (defScope s__law_come) := ⟨rfl, rfl, rfl, by decide +kernel, rfl, by decide +kernel, by decide +kernel⟩
theorem ok_law_come (T : Txt w K mg) : CalG P w K mg base 1 "_law_come" ["states", "letters"] (spCome K) := by
  refine calG_of T.g__law_come T.d__law_come sc__law_come (fun _ _ _ _ _ _ _ us hl => match us, hl with | [_, _], _ => rfl) (fun vs H Q E h => by obtain ⟨_, _, _, rfl, _⟩ := h; rfl) (fun cdv A outer s H vs Q E hr h => ?_)
  have nd := sc__law_come.nd
  have hu := hu64 hr
  obtain ⟨p, st, m, rfl, hp, g, m1, hsz, k⟩ := h
  have m0 := g.1.1
  refine ⟨_, (pss_cons (ps_set (i := 2) nd rfl (Or.inl rfl) (pe_lst (pa_cons pe_int pa_nil)))
        (pss_cons (ps_set (i := 3) nd rfl (Or.inl rfl) pe_int)
        (pss_cons (ps_while (passes_of rfl) (pt_cmpR op_lt (pv 3) (pe_callB (lenK (K := K)) (by rfl) T.f_len boot_len (pa_cons (pv 2) pa_nil)) (nomark _)) (pss_cons (ps_for (passes_of rfl) rfl (pi_range1 (by rfl) T.f_range (pa_cons (pv 1) pa_nil)) (pg_name (i := 4) nd rfl (Or.inl rfl)) (pss_one (ps_if (pt_cmpR (notInK (K := K)) (pe_ix (ixK (K := K)) (pe_ix (ixK (K := K)) (pv 0) (pe_ix (ixK (K := K)) (pv 2) (pv 3) (fun _ _ => rfl)) (fun _ _ => rfl)) (pv 4) (fun _ _ => rfl)) (pv 2) (by rfl)) (pss_one (ps_expr (peBM (K := K) (pe_bm PySem.F.plainAttrs_list PySem.F.slot_list_append PySem.F.type_list_append mt_append (pv 2) (pa_cons (pe_ix (ixK (K := K)) (pe_ix (ixK (K := K)) (pv 0) (pe_ix (ixK (K := K)) (pv 2) (pv 3) (fun _ _ => rfl)) (fun _ _ => rfl)) (pv 4) (fun _ _ => rfl)) pa_nil))))) pss_nil)))
        (pss_one (ps_set (i := 3) nd rfl (Or.inl rfl) (pe_op (plusK (K := K)) (pv 3) pe_int)))))
        (pss_one (ps_ret (pe_callB (sortedK (K := K)) (by rfl) T.f_sorted (by decide +kernel) (pa_cons (pv 2) pa_nil))))))), ?_⟩
  walk_at "st"
  intro f H1 hf e1 h1
  walk_at "st"
  refine whileW (fun μ σ' H' => ∃ (t : Nat) (fs : List Nat) (v : Option V), μ = st.length + 1 - t ∧ σ' = [some (.ref p), some (.int m), some (.ref f), some (.int (t : Nat)), v] ∧ Ext H H' ∧ H' f = some (.lst (ntV fs)) ∧ fs.Nodup ∧ (∀ c ∈ fs, Reach st m c) ∧ 0 ∈ fs ∧ t ≤ fs.length ∧
    (∀ (i c a : Nat), i < t → fs[i]? = some c → (a : Int) < m → stp st c a ∈ fs)) (st.length + 1) ⟨0, [0], none, rfl, rfl, e1, h1, by simp, fun c hc => by rw [List.mem_singleton.mp hc]; exact .z, List.mem_singleton.mpr rfl, Nat.zero_le _, fun i c a hi => absurd hi (Nat.not_lt_zero _)⟩ ?_
  rintro μ σ' H2 ⟨t, fs, v, rfl, rfl, e2, h2, fnd, fre, f0, ft, fcl⟩
  have fle := come_len g fnd fre
  walk_at "st"
  refine r_lenL (sqL h2) (n := fs.length) (by rw [ntV_len]) ?_
  walk_at "st"
  refine ite_d (fun c => r_N ?_) (fun c => ?_)
  · have ht : t < fs.length := by omega
    have et : fs[t]? = some fs[t] := List.getElem?_eq_getElem ht
    have tr := fre _ (List.getElem_mem ht)
    walk_at "st"
    refine forW_range (fun i σ' H' => ∃ (fs' : List Nat) (v : Option V), σ' = [some (.ref p), some (.int m), some (.ref f), some (.int (t : Nat)), v] ∧ Ext H H' ∧ H' f = some (.lst (ntV fs')) ∧ fs'.Nodup ∧ (∀ c ∈ fs', Reach st m c) ∧ (∀ (j c : Nat), fs[j]? = some c → fs'[j]? = some c) ∧ ∀ a : Nat, a < i → stp st fs[t] a ∈ fs') ⟨fs, v, rfl, e2, h2, fnd, fre, fun j c h => h, fun a ha => absurd ha (Nat.not_lt_zero _)⟩ ?_ ?_
    · rintro i σ' H3 hi ⟨fs', v', rfl, e3, h3, nd3, re3, pr3, cl3⟩
      have le3 := come_len g nd3 re3
      obtain ⟨xs, row, b, q1, q2, q3, q4⟩ := tb_at (hp.ext e3) g (tr.lt g)
      have hi' : (i : Int) < m := by omega
      walk_at "st"
      rw [Int.zero_add]
      refine r_atL (sqL h3) (atI_nat (ntV_at (pr3 _ _ et))) ?_
      refine r_atL q1 (atI_nat q2) ?_
      walk_at "st"
      refine r_atA q3 (atI_nat (q4 i hi')) ?_
      walk_at "st"
      refine r_notInI (sqL h3) ?_
      walk_at "st"
      refine ite_n (fun c2 => ?_) (fun c2 => ?_)
      · walk_at "st"
        refine ⟨.inl ⟨rfl, _, sqL h3⟩, ?_⟩
        walk_at "st"
        refine r_atL (sqL h3) (atI_nat (ntV_at (pr3 _ _ et))) ?_
        refine r_atL q1 (atI_nat q2) ?_
        walk_at "st"
        refine r_atA q3 (atI_nat (q4 i hi')) ?_
        walk_at "st"
        refine r_app h3 (by rw [ntV_len]; omega) (fun H4 h4 n4 => ?_)
        have new : stp st fs[t] i ∉ fs' := fun z => c2 (mem_nt.mpr z)
        refine ⟨fs' ++ [stp st fs[t] i], _, rfl, mut_ext e3 hf n4, ?_, ?_, ?_, fun j c h => ?_, fun a ha => ?_⟩
        · rw [h4]; unfold ntV; rw [List.map_append, List.map_append]; rfl
        · rw [List.nodup_append]
          exact ⟨nd3, by simp, fun a ha b hb e => new (by rw [← List.mem_singleton.mp hb, ← e]; exact ha)⟩
        · intro c hc
          rcases List.mem_append.mp hc with hc | hc
          · exact re3 c hc
          · rw [List.mem_singleton.mp hc]; exact .s tr hi'
        · have := pr3 j c h
          rw [List.getElem?_append_left (List.getElem?_eq_some_iff.mp this).1]
          exact this
        · by_cases ca : a = i
          · rw [ca]; exact List.mem_append_right _ (List.mem_singleton.mpr rfl)
          · exact List.mem_append_left _ (cl3 a (by omega))
      · walk_at "st"
        refine ⟨fs', _, rfl, e3, h3, nd3, re3, pr3, fun a ha => ?_⟩
        by_cases ca : a = i
        · rw [ca]; exact mem_nt.mp c2
        · exact cl3 a (by omega)
    · rintro σ' H3 ⟨fs', v', rfl, e3, h3, nd3, re3, pr3, cl3⟩
      have le3 := come_len g nd3 re3
      have sub : ∀ c ∈ fs, c ∈ fs' := fun c hc => by
        obtain ⟨j, hj⟩ := List.mem_iff_getElem?.mp hc
        exact List.mem_of_getElem? (pr3 j c hj)
      walk_at "st"
      refine ⟨st.length + 1 - (t + 1), by omega, t + 1, fs', v', rfl, rfl, e3, h3, nd3, re3, sub 0 f0, (List.getElem?_eq_some_iff.mp (pr3 _ _ et)).1, fun i c a hi hc ha => ?_⟩
      by_cases ci : i < t
      · have : fs[i]? = some fs[i] := List.getElem?_eq_getElem (by omega)
        have e := pr3 _ _ this
        rw [hc] at e
        cases e
        exact sub _ (fcl i _ a ci this ha)
      · have e : i = t := by omega
        subst e
        have e := pr3 _ _ et
        rw [hc] at e
        cases e
        exact cl3 a (by omega)
  · have ht : t = fs.length := by omega
    walk_at "st"
    refine ⟨f, _, rfl, sqL h2, fun ns' q pe so hq => ?_⟩
    obtain ⟨cs, rfl⟩ : ∃ cs : List Nat, ns' = cs.map fun (c : Nat) => (c : Int) := by
      refine ⟨ns'.map Int.toNat, ?_⟩
      rw [List.map_map]
      conv => lhs; rw [← List.map_id ns']
      refine List.map_congr_left fun x hx => ?_
      obtain ⟨c, _, rfl⟩ := List.mem_map.mp (pe.mem_iff.mp hx)
      rfl
    have mm : ∀ c, c ∈ cs ↔ c ∈ fs := fun c => by rw [← mem_nt, pe.mem_iff, mem_nt]
    refine k q _ cs (e2.none hq) (e2.trans (Ext.new hq)) upd_same ⟨?_, ?_, fun c => ?_⟩
    · have h := pe.nodup_iff.mpr (Lay.nd_map (f := fun (c : Nat) => (c : Int)) (fun x _ y _ e => by have e : (x : Int) = y := e; omega) fnd)
      rw [List.Nodup, List.pairwise_map] at h
      exact h.imp fun n e => n (by rw [e])
    · rw [List.pairwise_map] at so
      exact so.imp fun h => by omega
    · rw [mm]
      refine ⟨fre c, fun h => ?_⟩
      induction h with
      | z => exact f0
      | s _ ha ih =>
        obtain ⟨j, hj⟩ := List.mem_iff_getElem?.mp ih
        exact fcl j _ _ (by rw [ht]; exact (List.getElem?_eq_some_iff.mp hj).1) hj ha

end
end K30
set_option maxRecDepth 100000
set_option maxHeartbeats 4000000
namespace K30
open PySem PySem.Spec PyProof.Rows L2 L3
local macro_rules | `(tactic| walk_at "s1") => `(tactic| first
  | with_reducible refine r_seq ?_
  | with_reducible refine r_asgN ?_
  | with_reducible refine r_ret ?_
  | with_reducible refine r_next ?_
  | ((with_reducible refine' r_var ?hv ?_); (case hv => exact rfl))
  | with_reducible refine r_c ?_
  | with_reducible refine r_op ?_
  | with_reducible refine r_cons ?_
  | with_reducible refine r_nil ?_
  | with_reducible refine r_plusI ?_
  | with_reducible refine r_I0 ?_
  | with_reducible refine r_test ?_
  | with_reducible refine r_bl ?_
  | with_reducible refine r_ifS ?_
  | with_reducible refine r_cb ?_
  | with_reducible refine r_callS ?_
  | with_reducible refine r_and ?_
  | with_reducible refine r_or ?_
  | with_reducible refine r_not ?_
  | with_reducible refine r_B ?_
  | ((with_reducible refine' r_aug ?hv ?_); (case hv => exact rfl))
  | with_reducible refine r_augS ?_
  | with_reducible refine r_ipI ?_
  | with_reducible refine r_asg ?_
  | with_reducible refine r_sub ?_
  | with_reducible refine r_brk ?_
  | with_reducible refine r_isN1 ?_
  | with_reducible refine r_notN1 ?_
  | with_reducible refine r_intI ?_
  | with_reducible refine r_abs ?_
  | with_reducible refine r_min ?_
  | with_reducible refine r_max ?_
  | ((with_reducible refine' r_mod ?hz ?_); (case hz => omega))
  | ((with_reducible refine' r_pow ?hz ?_); (case hz => exact ⟨by decide, by decide, by decide⟩))
  | ((with_reducible refine' r_rg1 ?hz ?_); (case hz => omega))
  | ((with_reducible refine' r_rg2 ?hz ?_); (case hz => omega))
  | ((with_reducible refine' r_newL ?hz ?_); (case hz => exact Nat.le_of_ble_eq_true rfl))
  | ((with_reducible refine' r_newT ?hz ?_); (case hz => exact Nat.le_of_ble_eq_true rfl))
  | with_reducible refine r_for ?_
  | with_reducible refine r_lc ?_
  | with_reducible refine r_iR1 ?_
  | with_reducible refine r_iR2 ?_
  | with_reducible refine r_iL ?_
  | with_reducible refine r_iT ?_
  | with_reducible refine r_gname ?_
  | with_reducible refine r_gcons ?_
  | with_reducible refine r_gnil ?_
  | with_reducible refine r_yes ?_
  | with_reducible refine r_mkO ?_
  | with_reducible refine r_cont ?_
  | with_reducible refine r_drop ?_
  | with_reducible refine r_retN ?_
  | with_reducible refine r_ifC ?_
  | with_reducible refine r_ifI ?_
  | with_reducible refine r_if ?_
  | with_reducible refine r_un ?_
  | with_reducible refine r_neg ?_
  | with_reducible refine r_andV ?_
  | with_reducible refine r_orV ?_
  | with_reducible refine r_notV ?_
  | with_reducible refine r_tup ?_
  | with_reducible refine r_lst ?_
  | with_reducible refine r_bm ?_
  | with_reducible refine r_bm0 ?_
  | with_reducible refine r_sl ?_
  | with_reducible refine r_chain ?_
  | with_reducible refine r_listDn ?_
  | with_reducible refine r_listRg2 ?_
  | with_reducible refine r_revL ?_
  | with_reducible refine r_noPart ?_
  | with_reducible refine r_lenSet ?_
  | with_reducible refine r_part ?_
  | with_reducible refine r_int ?_
  | ((with_reducible refine' r_sameS ?hs ?_); (case hs => exact rfl))
  | ((with_reducible refine' r_otherS ?hs ?_); (case hs => exact rfl))
  | with_reducible refine ite_t ?_
  | with_reducible refine ite_f ?_
  | with_reducible refine ite_nt ?_
  | with_reducible refine ite_nf ?_)
local macro_rules | `(tactic| walk_at "st") => `(tactic| repeat (walk_at "s1"))

section
variable {P : Program} {w : World} {K : PySem.W.Frag} {mg : Str → Option Value} {base : Heap}
/-! ### sums -/
theorem nodup_at {l : List Nat} (h : l.Nodup) : ∀ {i j a : Nat}, l[i]? = some a → l[j]? = some a → i = j := by
  induction l with
  | nil => intro i j a hi; simp at hi
  | cons b l ih =>
    intro i j a hi hj
    rw [List.nodup_cons] at h
    cases i with
    | zero =>
      cases j with
      | zero => rfl
      | succ j =>
        simp at hi hj
        exact absurd (List.mem_of_getElem? hj) (hi ▸ h.1)
    | succ i =>
      cases j with
      | zero =>
        simp at hi hj
        exact absurd (List.mem_of_getElem? hi) (hj ▸ h.1)
      | succ j =>
        simp at hi hj
        rw [ih h.2 hi hj]
abbrev stF (st : List (List Int)) (a : Nat) : Nat → Nat := fun s => stp st s a
structure SumAt (st : List (List Int)) (m : Int) (a : Nat) : Prop where
  inj : ∀ c c', Reach st m c → Reach st m c' → stp st c a = stp st c' a → c = c'
  com : ∀ b, b < a → ∀ c, Reach st m c → stp st (stp st c a) b = stp st (stp st c b) a
def IsSum (st : List (List Int)) (m : Int) : Prop := ∀ a : Nat, (a : Int) < m → SumAt st m a
structure IsOrd (f : Nat → Nat) (k : Nat) : Prop where
  pos : 1 ≤ k
  ret : itF f k 0 = 0
  fst : ∀ j, 1 ≤ j → j < k → itF f j 0 ≠ 0
theorem reach_it {st : List (List Int)} {m : Int} {a : Nat} (ha : (a : Int) < m) {s : Nat} (hs : Reach st m s) : ∀ k, Reach st m (itF (stF st a) k s)
  | 0 => hs
  | k + 1 => .s (reach_it ha hs k) ha
theorem it_back {st : List (List Int)} {m : Int} {a : Nat} (ha : (a : Int) < m) (h : SumAt st m a) : ∀ i j, itF (stF st a) i 0 = itF (stF st a) (i + j) 0 → itF (stF st a) j 0 = 0
  | 0, j, e => by rw [Nat.zero_add] at e; exact e.symm
  | i + 1, j, e => it_back ha h i j (h.inj _ _ (reach_it ha .z i) (reach_it ha .z (i + j)) (by
      rw [show i + 1 + j = i + j + 1 by omega] at e
      exact e))
theorem it_small {st : List (List Int)} {m : Int} (g : GoodSt st m) {a : Nat} (ha : (a : Int) < m) (h : SumAt st m a) {t : Nat} (n0 : ∀ j, 1 ≤ j → j ≤ t → itF (stF st a) j 0 ≠ 0) : t < st.length := by
  have := Lay.nodup_len st.length ((List.range (t + 1)).map fun i => itF (stF st a) i 0) (Lay.nd_map (fun x hx y hy e => by
    rw [List.mem_range] at hx hy
    have key : ∀ i j, i < j → j ≤ t → itF (stF st a) i 0 ≠ itF (stF st a) j 0 := fun i j hij hj e => by
      refine n0 (j - i) (by omega) (by omega) (it_back ha h i (j - i) ?_)
      rw [e, show i + (j - i) = j by omega]
    rcases Nat.lt_trichotomy x y with c | c | c
    · exact absurd e (key x y c (by omega))
    · exact c
    · exact absurd e.symm (key y x c (by omega))) List.nodup_range) (fun x hx => by
    obtain ⟨i, _, rfl⟩ := List.mem_map.mp hx
    exact (reach_it ha .z i).lt g)
  rw [List.length_map, List.length_range] at this
  omega
structure Ords (st : List (List Int)) (m : Int) (os : List Nat) : Prop where
  len : (os.length : Int) = m
  ord : ∀ a : Nat, a < os.length → IsOrd (stF st a) (os.getD a 0)
def spSum (K : PySem.W.Frag) : Sp := fun vs H Q _ => ∃ (p : Addr) (st : List (List Int)) (m : Int), vs = [.ref p, .int m] ∧ Tb K H p st ∧ GoodSt st m ∧ m ≤ 1000 ∧ st.length ≤ 1000 ∧ (¬ IsSum st m → ∀ H', Ext H H' → Q .non H') ∧
  (IsSum st m → ∀ q H' os, H q = none → Ext H H' → H' q = some (.lst (ntV os)) → Ords st m os → Q (.ref q) H')
theorem getD_at {cs : List Nat} {i : Nat} (h : i < cs.length) : cs[i]? = some (cs.getD i 0) := by rw [List.getD_eq_getElem?_getD, List.getElem?_eq_getElem h]; rfl
theorem range_bl (n : Nat) (b : Nat → Bool) : (List.range n).map (fun i => V.bl (b i)) = ((List.range n).map b).map V.bl := by rw [List.map_map]; rfl
theorem range_nt (n : Nat) (b : Nat → Nat) : (List.range n).map (fun i => V.int (b i : Nat)) = ntV ((List.range n).map b) := by unfold ntV; rw [List.map_map, List.map_map]; rfl
theorem sc__law_sum : FnScope ["states", "letters", "come", "a", "b", "orders", "many", "state", "s"] ["states", "letters"] (defScope s__law_sum) := ⟨rfl, rfl, rfl, by decide +kernel, rfl, by decide +kernel, by decide +kernel⟩
theorem ok_law_sum (T : Txt w K mg) : CalG P w K mg base 2 "_law_sum" ["states", "letters"] (spSum K) := by
  have c__law_come := ok_law_come (P := P) (base := base) T
  refine calG_of T.g__law_sum T.d__law_sum sc__law_sum (fun _ _ _ _ _ _ _ us hl => match us, hl with | [_, _], _ => rfl) (fun vs H Q E h => by obtain ⟨_, _, _, rfl, _⟩ := h; rfl) (fun cdv A outer s H vs Q E hr h => ?_)
  have nd := sc__law_sum.nd
  have hu := hu64 hr
  obtain ⟨p, st, m, rfl, hp, g, m1, hsz, kn, k⟩ := h
  have m0 := g.1.1
  refine ⟨_, (pss_cons (ps_set (i := 2) nd rfl (Or.inl rfl) (pe_cal c__law_come hr (by omega) (fun σ => L2N.passAt (L2N.takes_of rfl rfl rfl rfl) σ) (pa_cons (pv 0) (pa_cons (pv 1) pa_nil))))
        (pss_cons (ps_for (passes_of rfl) rfl (pi_range1 (by rfl) T.f_range (pa_cons (pv 1) pa_nil)) (pg_name (i := 3) nd rfl (Or.inr rfl)) (pss_cons (ps_if (pt_cmpR op_lt (pe_lenSetN (K := K) T.f_len T.f_set (pe_lc (own := [("s", 8)]) rfl nd (piL (K := K) (pv 2)) (blkOk_by (N := ["states", "letters", "come", "a", "b", "orders", "many", "state", "s"]) (sc := defScope s__law_sum) (by decide +kernel)) (fun _ _ _ _ _ => (pg_name (i := 8) nd rfl (Or.inl rfl))) (fun _ _ _ _ _ => pts_nil) (fun _ _ _ _ _ => (pe_ix (ixK (K := K)) (pe_ix (ixK (K := K)) (pv 0) (pv 8) (fun _ _ => rfl)) (pv 3) (fun _ _ => rfl))))) (pe_callB (lenK (K := K)) (by rfl) T.f_len boot_len (pa_cons (pv 2) pa_nil)) (nomark _)) (pss_one (ps_ret pe_non)) pss_nil)
        (pss_one (ps_for (passes_of rfl) rfl (pi_range1 (by rfl) T.f_range (pa_cons (pv 3) pa_nil)) (pg_name (i := 4) nd rfl (Or.inr rfl)) (pss_one (ps_if (pt_val (pe_callB (anyK (K := K) rfl) (by rfl) T.f_any (by decide +kernel) (pa_cons (pe_lc (own := [("s", 8)]) rfl nd (piL (K := K) (pv 2)) (blkOk_by (N := ["states", "letters", "come", "a", "b", "orders", "many", "state", "s"]) (sc := defScope s__law_sum) (by decide +kernel)) (fun _ _ _ _ _ => (pg_name (i := 8) nd rfl (Or.inl rfl))) (fun _ _ _ _ _ => pts_nil) (fun _ _ _ _ _ => (pe_cmpR (otherK (K := K) hu) (pe_ix (ixK (K := K)) (pe_ix (ixK (K := K)) (pv 0) (pe_ix (ixK (K := K)) (pe_ix (ixK (K := K)) (pv 0) (pv 8) (fun _ _ => rfl)) (pv 3) (fun _ _ => rfl)) (fun _ _ => rfl)) (pv 4) (fun _ _ => rfl)) (pe_ix (ixK (K := K)) (pe_ix (ixK (K := K)) (pv 0) (pe_ix (ixK (K := K)) (pe_ix (ixK (K := K)) (pv 0) (pv 8) (fun _ _ => rfl)) (pv 4) (fun _ _ => rfl)) (fun _ _ => rfl)) (pv 3) (fun _ _ => rfl)) (nomark _)))) pa_nil))) (pss_one (ps_ret pe_non)) pss_nil))))))
        (pss_cons (ps_set (i := 5) nd rfl (Or.inl rfl) (pe_lst pa_nil))
        (pss_cons (ps_for (passes_of rfl) rfl (pi_range1 (by rfl) T.f_range (pa_cons (pv 1) pa_nil)) (pg_name (i := 3) nd rfl (Or.inr rfl)) (pss_cons (ps_set (i := 6) nd rfl (Or.inl rfl) pe_int)
        (pss_cons (ps_set (i := 7) nd rfl (Or.inl rfl) (pe_ix (ixK (K := K)) (pe_ix (ixK (K := K)) (pv 0) pe_int (fun _ _ => rfl)) (pv 3) (fun _ _ => rfl)))
        (C8.pss_cut (ps_while (passes_of rfl) (pt_cmpR (otherK (K := K) hu) (pv 7) pe_int (nomark _)) (pss_cons (ps_set (i := 7) nd rfl (Or.inl rfl) (pe_ix (ixK (K := K)) (pe_ix (ixK (K := K)) (pv 0) (pv 7) (fun _ _ => rfl)) (pv 3) (fun _ _ => rfl)))
        (pss_one (ps_set (i := 6) nd rfl (Or.inl rfl) (pe_op (plusK (K := K)) (pv 6) pe_int)))))
        (pss_one (ps_expr (peBM (K := K) (pe_bm PySem.F.plainAttrs_list PySem.F.slot_list_append PySem.F.type_list_append mt_append (pv 5) (pa_cons (pv 6) pa_nil)))))))))
        (pss_one (ps_ret (pv 5))))))), ?_⟩
  walk_at "st"
  refine ⟨p, st, m, rfl, hp, g, m1, hsz, fun cp H1 cs hcp e1 h1 C => ?_⟩
  have cre : ∀ c ∈ cs, Reach st m c := fun c hc => (C.mem c).mp hc
  have clen := come_len g C.nd cre
  have cat : ∀ i, i < cs.length → cs[i]? = some (cs.getD i 0) ∧ Reach st m (cs.getD i 0) := fun i hi => ⟨getD_at hi, cre _ (List.mem_of_getElem? (getD_at hi))⟩
  walk_at "st"
  refine forW_range (fun i σ' H' => ∃ v3 v4, σ' = [some (.ref p), some (.int m), some (.ref cp), v3, v4, none, none, none, none] ∧ Ext H1 H' ∧ ∀ a : Nat, a < i → SumAt st m a) ⟨none, none, rfl, .rfl, fun a ha => absurd ha (Nat.not_lt_zero _)⟩ ?_ ?_
  · rintro i σ' H2 hi ⟨v3, v4, rfl, e2, hall⟩
    have hi' : (i : Int) < m := by omega
    have h2 := e2 _ _ h1
    walk_at "st"
    rw [Int.zero_add]
    refine r_li (sqL h2) ?_
    intro D hD
    refine lcW_list (LcP H2 D fun j => .int (stp st (cs.getD j 0) i : Nat)) (.start hD) (fun j H' _ q => q.e.l (sqL h2)) (fun j x H3 hx q => ?_) (fun H3 q3 => ?_)
    · obtain ⟨c, hc, rfl⟩ := ntV_get hx
      have hj := (List.getElem?_eq_some_iff.mp hc).1
      have ec : c = cs.getD j 0 := by have := getD_at hj; rw [hc] at this; exact Option.some.inj this
      obtain ⟨xs, row, b, q1, q2, q3, q4⟩ := tb_at (hp.ext ((e1.trans e2).trans q.e)) g ((cre c (List.mem_of_getElem? hc)).lt g)
      walk_at "st"
      refine r_lcW rfl ?_
      walk_at "st"
      refine r_atL q1 (atI_nat q2) ?_
      walk_at "st"
      refine r_atA q3 (atI_nat (q4 i hi')) ?_
      exact q.push hD (by omega) .rfl (by rw [ec])
    rw [ntV_len] at q3
    have hd := q3.d
    rw [range_nt] at hd
    refine r_lenSetL (sqL hd) (by rw [List.length_map, List.length_map, List.length_range]; omega) ?_
    walk_at "st"
    refine r_lenL (sqL (q3.e _ _ h2)) (n := cs.length) (by rw [ntV_len]) ?_
    walk_at "st"
    have e3 := e2.trans q3.e
    refine ite_d (fun c => ?_) (fun c => ?_)
    · walk_at "st"
      refine kn (fun S => ?_) _ (e1.trans e3)
      have S := S i hi'
      have := (once_lt (ns := ((List.range cs.length).map fun j => stp st (cs.getD j 0) i).map fun (c : Nat) => (c : Int))).mp (by rw [List.length_map, List.length_map, List.length_range]; omega)
      refine this (Lay.nd_map (fun x _ y _ e => by have e : (x : Int) = y := e; omega) (Lay.nd_map (fun x hx y hy e => ?_) List.nodup_range))
      rw [List.mem_range] at hx hy
      have := S.inj _ _ (cat x hx).2 (cat y hy).2 e
      exact nodup_at C.nd (cat x hx).1 (by rw [this]; exact (cat y hy).1)
    have ndm : ((List.range cs.length).map fun j => stp st (cs.getD j 0) i).Nodup := by
      refine Classical.byContradiction fun hn => c ?_
      have := (once_lt (ns := ((List.range cs.length).map fun j => stp st (cs.getD j 0) i).map fun (c : Nat) => (c : Int))).mpr (fun z => hn (by
        rw [List.Nodup, List.pairwise_map] at z
        exact z.imp fun n e => n (by rw [e])))
      rw [List.length_map, List.length_map, List.length_range] at this
      omega
    have inj : ∀ c c', Reach st m c → Reach st m c' → stp st c i = stp st c' i → c = c' := fun c c' hc hc' e => by
      obtain ⟨x, hx⟩ := List.mem_iff_getElem?.mp ((C.mem c).mpr hc)
      obtain ⟨y, hy⟩ := List.mem_iff_getElem?.mp ((C.mem c').mpr hc')
      have lx := (List.getElem?_eq_some_iff.mp hx).1
      have ly := (List.getElem?_eq_some_iff.mp hy).1
      have ex : cs.getD x 0 = c := by have := getD_at lx; rw [hx] at this; exact (Option.some.inj this).symm
      have ey : cs.getD y 0 = c' := by have := getD_at ly; rw [hy] at this; exact (Option.some.inj this).symm
      have := nodup_at ndm (i := x) (j := y) (a := stp st c i) (by rw [List.getElem?_map, List.getElem?_range lx, Option.map_some, ex]) (by rw [List.getElem?_map, List.getElem?_range ly, Option.map_some, ey, e])
      rw [← ex, ← ey, this]
    walk_at "st"
    refine forW_range (fun j σ' H' => ∃ v4, σ' = [some (.ref p), some (.int m), some (.ref cp), some (.int (i : Nat)), v4, none, none, none, none] ∧ Ext H1 H' ∧ ∀ b : Nat, b < j → ∀ c, Reach st m c → stp st (stp st c i) b = stp st (stp st c b) i) ⟨v4, rfl, e3, fun a ha => absurd ha (Nat.not_lt_zero _)⟩ ?_ ?_
    · rintro j σ' H4 hj ⟨v4, rfl, e4, hall4⟩
      have hj' : (j : Int) < m := by omega
      have h4 := e4 _ _ h1
      walk_at "st"
      rw [Int.zero_add]
      refine r_li (sqL h4) ?_
      intro D hD
      refine lcW_list (LcP H4 D fun t => .bl (!decide (V.int ((stp st (stp st (cs.getD t 0) i) j : Nat) : Int) = V.int ((stp st (stp st (cs.getD t 0) j) i : Nat) : Int)))) (.start hD) (fun j H' _ q => q.e.l (sqL h4)) (fun t x H5 hx q => ?_) (fun H5 q5 => ?_)
      · obtain ⟨c, hc, rfl⟩ := ntV_get hx
        have ht := (List.getElem?_eq_some_iff.mp hc).1
        have ec : c = cs.getD t 0 := by have := getD_at ht; rw [hc] at this; exact Option.some.inj this
        have rc := cre c (List.mem_of_getElem? hc)
        have hp5 := hp.ext ((e1.trans e4).trans q.e)
        obtain ⟨xs, row, b, q1, q2, q3, q4⟩ := tb_at hp5 g (rc.lt g)
        obtain ⟨xs', row', b', q1', q2', q3', q4'⟩ := tb_at hp5 g (stp_lt g (rc.lt g) hi')
        obtain ⟨xs2, row2, b2, q12, q22, q32, q42⟩ := tb_at hp5 g (stp_lt g (rc.lt g) hj')
        walk_at "st"
        refine r_lcW rfl ?_
        walk_at "st"
        refine r_atL q1 (atI_nat q2) ?_
        walk_at "st"
        refine r_atA q3 (atI_nat (q4 i hi')) ?_
        refine r_atL q1' (atI_nat q2') ?_
        walk_at "st"
        refine r_atA q3' (atI_nat (q4' j hj')) ?_
        walk_at "st"
        refine r_atL q1 (atI_nat q2) ?_
        walk_at "st"
        refine r_atA q3 (atI_nat (q4 j hj')) ?_
        refine r_atL q12 (atI_nat q22) ?_
        walk_at "st"
        refine r_atA q32 (atI_nat (q42 i hi')) ?_
        walk_at "st"
        exact q.push hD (by omega) .rfl (by rw [ec])
      rw [ntV_len] at q5
      have hd := q5.d
      rw [range_bl] at hd
      walk_at "st"
      refine r_any (sqL hd) ?_
      walk_at "st"
      have e5 := e4.trans q5.e
      cases hb : ((List.range cs.length).map fun t => !decide (V.int ((stp st (stp st (cs.getD t 0) i) j : Nat) : Int) = V.int ((stp st (stp st (cs.getD t 0) j) i : Nat) : Int))).any id with
      | true =>
        walk_at "st"
        refine kn (fun S => ?_) _ (e1.trans e5)
        have S := S i hi'
        obtain ⟨y, hy, ey⟩ := List.any_eq_true.mp hb
        obtain ⟨t, ht, rfl⟩ := List.mem_map.mp hy
        rw [List.mem_range] at ht
        rw [S.com j (by omega) _ (cat t ht).2] at ey
        simp at ey
      | false =>
        walk_at "st"
        refine ⟨_, rfl, e5, fun b hb' c hc => ?_⟩
        by_cases cb : b < j
        · exact hall4 b cb c hc
        · have : b = j := by omega
          subst this
          obtain ⟨x, hx⟩ := List.mem_iff_getElem?.mp ((C.mem c).mpr hc)
          have lx := (List.getElem?_eq_some_iff.mp hx).1
          have ex : cs.getD x 0 = c := by have := getD_at lx; rw [hx] at this; exact (Option.some.inj this).symm
          have := List.any_eq_false.mp hb _ (List.mem_map.mpr ⟨x, List.mem_range.mpr lx, rfl⟩)
          rw [ex] at this
          simp at this
          omega
    · rintro σ' H4 ⟨v4, rfl, e4, hall4⟩
      refine ⟨_, v4, rfl, e4, fun a ha => ?_⟩
      by_cases ca : a < i
      · exact hall a ca
      · have : a = i := by omega
        subst this
        exact ⟨inj, fun b hb c hc => hall4 b (by omega) c hc⟩
  rintro σ' H2 ⟨v3, v4, rfl, e2, hall⟩
  have S : IsSum st m := fun a ha => hall a (by omega)
  walk_at "st"
  intro o H3 ho e3 h3
  have ho0 : H o = none := (e1.trans e2).none ho
  have e03 := (e1.trans e2).trans e3
  walk_at "st"
  refine forW_range (fun i σ' H' => ∃ (v3 v6 v7 : Option V) (os : List Nat), σ' = [some (.ref p), some (.int m), some (.ref cp), v3, v4, some (.ref o), v6, v7, none] ∧ Ext H H' ∧ H' o = some (.lst (ntV os)) ∧ os.length = i ∧ ∀ a : Nat, a < os.length → IsOrd (stF st a) (os.getD a 0)) ⟨_, none, none, [], rfl, e03, h3, rfl, fun a ha => absurd ha (Nat.not_lt_zero _)⟩ ?_ ?_
  · rintro i σ' H4 hi ⟨v3, v6, v7, os, rfl, e4, h4, hl, hord⟩
    have hi' : (i : Int) < m := by omega
    obtain ⟨xs, row, b, q1, q2, q3, q4⟩ := tb_at (hp.ext e4) g (good_pos g)
    walk_at "st"
    rw [Int.zero_add]
    refine r_atL q1 (atI_nat q2) ?_
    walk_at "st"
    refine r_atA q3 (atI_nat (q4 i hi')) ?_
    refine r_cut (fun σ' H' => ∃ (t : Nat), σ' = [some (.ref p), some (.int m), some (.ref cp), some (.int (i : Nat)), v4, some (.ref o), some (.int (t : Nat)), some (.int 0), none] ∧ H4 = H' ∧ IsOrd (stF st i) t) ?_ ?_
    · refine whileW (fun μ σ' H' => ∃ (t : Nat), μ = st.length + 1 - t ∧ σ' = [some (.ref p), some (.int m), some (.ref cp), some (.int (i : Nat)), v4, some (.ref o), some (.int (t : Nat)), some (.int (itF (stF st i) t 0 : Nat)), none] ∧ H4 = H' ∧ 1 ≤ t ∧ ∀ j, 1 ≤ j → j < t → itF (stF st i) j 0 ≠ 0) (st.length + 1 - 1) ⟨1, rfl, rfl, rfl, Nat.le_refl _, fun j h1 h2 => by omega⟩ ?_
      rintro μ σ' H5 ⟨t, rfl, rfl, rfl, ht, hn⟩
      walk_at "st"
      refine ite_n (fun c => r_N ?_) (fun c => ?_)
      · have c' : itF (stF st i) t 0 ≠ 0 := fun e => c (by rw [e]; rfl)
        have hlt := it_small g hi' (S i hi') (t := t) (fun j h1 h2 => by
          by_cases cj : j = t
          · rw [cj]; exact c'
          · exact hn j h1 (by omega))
        obtain ⟨xs', row', b', q1', q2', q3', q4'⟩ := tb_at (hp.ext e4) g ((reach_it hi' .z t).lt g)
        walk_at "st"
        refine r_atL q1' (atI_nat q2') ?_
        walk_at "st"
        refine r_atA q3' (atI_nat (q4' i hi')) ?_
        walk_at "st"
        refine ⟨st.length + 1 - (t + 1), by omega, t + 1, rfl, rfl, rfl, by omega, fun j h1 h2 => ?_⟩
        by_cases cj : j = t
        · rw [cj]; exact c'
        · exact hn j h1 (by omega)
      · have c' : itF (stF st i) t 0 = 0 := by have := V.int.inj c; omega
        refine ⟨t, by rw [c']; rfl, rfl, ht, c', hn⟩
    rintro σ' H5 ⟨t, rfl, rfl, O⟩
    walk_at "st"
    refine ⟨.inl ⟨rfl, _, sqL h4⟩, ?_⟩
    walk_at "st"
    refine r_app h4 (by rw [ntV_len]; omega) (fun H6 h6 n6 => ?_)
    refine ⟨_, _, _, os ++ [t], rfl, mut_ext e4 ho0 n6, ?_, by rw [List.length_append, hl]; rfl, fun a ha => ?_⟩
    · rw [h6]; unfold ntV; rw [List.map_append, List.map_append]; rfl
    · rw [List.length_append] at ha
      have ha : a < os.length + 1 := ha
      by_cases ca : a < os.length
      · rw [List.getD_eq_getElem?_getD, List.getElem?_append_left ca, ← List.getD_eq_getElem?_getD]
        exact hord a ca
      · have : a = os.length := by omega
        rw [this, List.getD_eq_getElem?_getD, List.getElem?_append_right (Nat.le_refl _), Nat.sub_self]
        rw [hl]
        exact O
  · rintro σ' H4 ⟨v3, v6, v7, os, rfl, e4, h4, hl, hord⟩
    walk_at "st"
    exact k S o H4 os ho0 e4 h4 ⟨by omega, hord⟩

end
end K30
set_option maxRecDepth 100000
set_option maxHeartbeats 4000000
namespace K30
open PySem PySem.Spec PyProof.Rows L2 L3
local macro_rules | `(tactic| walk_at "s1") => `(tactic| first
  | with_reducible refine r_seq ?_
  | with_reducible refine r_asgN ?_
  | with_reducible refine r_ret ?_
  | with_reducible refine r_next ?_
  | ((with_reducible refine' r_var ?hv ?_); (case hv => exact rfl))
  | with_reducible refine r_c ?_
  | with_reducible refine r_op ?_
  | with_reducible refine r_cons ?_
  | with_reducible refine r_nil ?_
  | with_reducible refine r_plusI ?_
  | with_reducible refine r_I0 ?_
  | with_reducible refine r_test ?_
  | with_reducible refine r_bl ?_
  | with_reducible refine r_ifS ?_
  | with_reducible refine r_cb ?_
  | with_reducible refine r_callS ?_
  | with_reducible refine r_and ?_
  | with_reducible refine r_or ?_
  | with_reducible refine r_not ?_
  | with_reducible refine r_B ?_
  | ((with_reducible refine' r_aug ?hv ?_); (case hv => exact rfl))
  | with_reducible refine r_augS ?_
  | with_reducible refine r_ipI ?_
  | with_reducible refine r_asg ?_
  | with_reducible refine r_sub ?_
  | with_reducible refine r_brk ?_
  | with_reducible refine r_isN1 ?_
  | with_reducible refine r_notN1 ?_
  | with_reducible refine r_intI ?_
  | with_reducible refine r_abs ?_
  | with_reducible refine r_min ?_
  | with_reducible refine r_max ?_
  | ((with_reducible refine' r_mod ?hz ?_); (case hz => omega))
  | ((with_reducible refine' r_pow ?hz ?_); (case hz => exact ⟨by decide, by decide, by decide⟩))
  | ((with_reducible refine' r_rg1 ?hz ?_); (case hz => omega))
  | ((with_reducible refine' r_rg2 ?hz ?_); (case hz => omega))
  | ((with_reducible refine' r_newL ?hz ?_); (case hz => exact Nat.le_of_ble_eq_true rfl))
  | ((with_reducible refine' r_newT ?hz ?_); (case hz => exact Nat.le_of_ble_eq_true rfl))
  | with_reducible refine r_for ?_
  | with_reducible refine r_lc ?_
  | with_reducible refine r_iR1 ?_
  | with_reducible refine r_iR2 ?_
  | with_reducible refine r_iL ?_
  | with_reducible refine r_iT ?_
  | with_reducible refine r_gname ?_
  | with_reducible refine r_gcons ?_
  | with_reducible refine r_gnil ?_
  | with_reducible refine r_yes ?_
  | with_reducible refine r_mkO ?_
  | with_reducible refine r_cont ?_
  | with_reducible refine r_drop ?_
  | with_reducible refine r_retN ?_
  | with_reducible refine r_ifC ?_
  | with_reducible refine r_ifI ?_
  | with_reducible refine r_if ?_
  | with_reducible refine r_un ?_
  | with_reducible refine r_neg ?_
  | with_reducible refine r_andV ?_
  | with_reducible refine r_orV ?_
  | with_reducible refine r_notV ?_
  | with_reducible refine r_tup ?_
  | with_reducible refine r_lst ?_
  | with_reducible refine r_bm ?_
  | with_reducible refine r_bm0 ?_
  | with_reducible refine r_sl ?_
  | with_reducible refine r_chain ?_
  | with_reducible refine r_listDn ?_
  | with_reducible refine r_listRg2 ?_
  | with_reducible refine r_revL ?_
  | with_reducible refine r_noPart ?_
  | with_reducible refine r_lenSet ?_
  | with_reducible refine r_part ?_
  | with_reducible refine r_int ?_
  | ((with_reducible refine' r_sameS ?hs ?_); (case hs => exact rfl))
  | ((with_reducible refine' r_otherS ?hs ?_); (case hs => exact rfl))
  | with_reducible refine ite_t ?_
  | with_reducible refine ite_f ?_
  | with_reducible refine ite_nt ?_
  | with_reducible refine ite_nf ?_)
local macro_rules | `(tactic| walk_at "st") => `(tactic| repeat (walk_at "s1"))

section
variable {P : Program} {w : World} {K : PySem.W.Frag} {mg : Str → Option Value} {base : Heap}
/-! ### counted by the law -/
def spCntd (K : PySem.W.Frag) : Sp := fun vs H Q _ => ∃ (op ou pu : Addr) (os out put : List Int), vs = [.ref op, .ref ou, .ref pu] ∧ SqL K H op (os.map V.int) ∧ SqL K H ou (out.map V.int) ∧ SqL K H pu (put.map V.int) ∧ os.length ≤ 1000 ∧ out.length ≤ 10000 ∧ put.length ≤ 10000 ∧ (∀ o ∈ os, 1 ≤ o) ∧
  ∀ q H', H q = none → Ext H H' → H' q = some (.lst ((lcI os out put).map V.int)) → Q (.ref q) H'
theorem rep_snoc (c : Nat) : (List.replicate c (1 : Int)).map V.int ++ [V.int 1] = (List.replicate (c + 1) (1 : Int)).map V.int := by
  rw [List.replicate_succ', List.map_append]; rfl
theorem rep_sum (c : Nat) : (List.replicate c (1 : Int)).sum = c := by
  induction c with
  | zero => rfl
  | succ c ih => rw [List.replicate_succ, List.sum_cons, ih]; omega
def OneP (H1 : Hp) (D : Addr) (m : Int) (ns : List Int) (a : Int) (i : Nat) (H' : Hp) : Prop := Ext H1 H' ∧ ∃ c : Nat, c ≤ i ∧ (c : Int) = cnt m (ns.take i) a ∧ H' D = some (.lst ((List.replicate c (1 : Int)).map V.int))
theorem sc__law_f_counted : FnScope ["orders", "out", "put", "found", "letter", "many", "sign"] ["orders", "out", "put"] (defScope s__law_f_counted) := ⟨rfl, rfl, rfl, by decide +kernel, rfl, by decide +kernel, by decide +kernel⟩
theorem ok_law_f_counted (T : Txt w K mg) : CalG P w K mg base 1 "_law_f_counted" ["orders", "out", "put"] (spCntd K) := by
  refine calG_of T.g__law_f_counted T.d__law_f_counted sc__law_f_counted (fun _ _ _ _ _ _ _ us hl => match us, hl with | [_, _, _], _ => rfl) (fun vs H Q E h => by obtain ⟨_, _, _, _, _, _, rfl, _⟩ := h; rfl) (fun cdv A outer s H vs Q E hr h => ?_)
  have nd := sc__law_f_counted.nd
  have hu := hu64 hr
  obtain ⟨op, ou, pu, os, out, put, rfl, hop, hou, hpu, los, lou, lpu, hos, k⟩ := h
  refine ⟨_, (pss_cons (ps_set (i := 3) nd rfl (Or.inl rfl) (pe_lst pa_nil))
        (pss_cons (ps_for (passes_of rfl) rfl (pi_range1 (by rfl) T.f_range (pa_cons (pe_callB (lenK (K := K)) (by rfl) T.f_len boot_len (pa_cons (pv 0) pa_nil)) pa_nil)) (pg_name (i := 4) nd rfl (Or.inr rfl)) (pss_cons (ps_set (i := 5) nd rfl (Or.inl rfl) (pe_callB (sumK (K := K) rfl) (by rfl) T.f_sum (by decide +kernel) (pa_cons (pe_lc (own := [("sign", 6)]) rfl nd (piL (K := K) (pv 2)) (blkOk_by (N := ["orders", "out", "put", "found", "letter", "many", "sign"]) (sc := defScope s__law_f_counted) (by decide +kernel)) (fun _ _ _ _ _ => (pg_name (i := 6) nd rfl (Or.inl rfl))) (fun _ _ _ _ _ => (pts_one (pt_cmpR (sameK (K := K) hu) (pe_op op_mod (pe_callTy cr_int (by rfl) T.f_int (by decide +kernel) (pa_cons (pv 6) pa_nil)) (pe_callB (lenK (K := K)) (by rfl) T.f_len boot_len (pa_cons (pv 0) pa_nil))) (pv 4) (nomark _)))) (fun _ _ _ _ _ => pe_int)) pa_nil)))
        (pss_cons (ps_set (i := 5) nd rfl (Or.inl rfl) (pe_op op_sub (pv 5) (pe_callB (sumK (K := K) rfl) (by rfl) T.f_sum (by decide +kernel) (pa_cons (pe_lc (own := [("sign", 6)]) rfl nd (piL (K := K) (pv 1)) (blkOk_by (N := ["orders", "out", "put", "found", "letter", "many", "sign"]) (sc := defScope s__law_f_counted) (by decide +kernel)) (fun _ _ _ _ _ => (pg_name (i := 6) nd rfl (Or.inl rfl))) (fun _ _ _ _ _ => (pts_one (pt_cmpR (sameK (K := K) hu) (pe_op op_mod (pe_callTy cr_int (by rfl) T.f_int (by decide +kernel) (pa_cons (pv 6) pa_nil)) (pe_callB (lenK (K := K)) (by rfl) T.f_len boot_len (pa_cons (pv 0) pa_nil))) (pv 4) (nomark _)))) (fun _ _ _ _ _ => pe_int)) pa_nil))))
        (pss_one (ps_expr (peBM (K := K) (pe_bm PySem.F.plainAttrs_list PySem.F.slot_list_append PySem.F.type_list_append mt_append (pv 3) (pa_cons (pe_op op_mod (pe_callTy cr_int (by rfl) T.f_int (by decide +kernel) (pa_cons (pv 5) pa_nil)) (pe_ix (ixK (K := K)) (pv 0) (pv 4) (fun _ _ => rfl))) pa_nil))))))))
        (pss_one (ps_ret (pv 3))))), ?_⟩
  walk_at "st"
  intro f H1 hf e1 h1
  walk_at "st"
  refine r_lenL (e1.l hop) (n := os.length) (by rw [List.length_map]) ?_
  walk_at "st"
  rw [show ((os.length : Int)).toNat = os.length by omega]
  refine forW_range (fun i σ' H' => ∃ v4 v5, σ' = [some (.ref op), some (.ref ou), some (.ref pu), some (.ref f), v4, v5, none] ∧ Ext H H' ∧ H' f = some (.lst (((List.range i).map fun (a : Nat) => (cnt os.length put a - cnt os.length out a) % os.getD a 0).map V.int))) ⟨none, none, rfl, e1, h1⟩ ?_ ?_
  · rintro i σ' H2 hi ⟨v4, v5, rfl, e2, h2⟩
    have m1 : (0 : Int) < os.length := by omega
    have key : ∀ (ns : List Int) (a : Addr) (H3 : Hp) (D : Addr) (j : Nat) (x : V) (H4 : Hp), ns.length ≤ 10000 → (ns.map V.int)[j]? = some x → OneP H3 D os.length ns i j H4 → j < ns.length ∧ x = .int (ns.getD j 0) ∧ (ns.getD j 0 % (os.length : Int) = i → ∃ acc, H4 D = some (.lst acc) ∧ acc.length < sizeLine ∧ (H3 D = none → OneP H3 D os.length ns i (j + 1) (upd H4 D (.lst (acc ++ [.int 1]))))) ∧ (ns.getD j 0 % (os.length : Int) ≠ i → OneP H3 D os.length ns i (j + 1) H4) := by
      intro ns a H3 D j x H4 hl hx ⟨e, c, hc, ec, hD⟩
      obtain ⟨hj, rfl⟩ := ints_get hx
      have ej : ns[j]? = some (ns.getD j 0) := by rw [List.getD_eq_getElem?_getD, List.getElem?_eq_getElem hj]; rfl
      refine ⟨hj, rfl, fun q => ⟨_, hD, by rw [List.length_map, List.length_replicate, sizeLine_eq]; omega, fun hD0 => ⟨e.mut hD0, c + 1, by omega, ?_, by rw [upd_same, rep_snoc]⟩⟩, fun q => ⟨e, c, by omega, ?_, hD⟩⟩
      · rw [List.take_succ, ej]
        show _ = cnt _ (ns.take j ++ [ns.getD j 0]) _
        rw [cnt_snoc, if_pos q, ← ec]
        omega
      · rw [List.take_succ, ej]
        show _ = cnt _ (ns.take j ++ [ns.getD j 0]) _
        rw [cnt_snoc, if_neg q, ← ec]
        omega
    walk_at "st"
    rw [Int.zero_add]
    refine r_li (e2.l hpu) ?_
    intro D hD
    refine lcW_list (OneP H2 D os.length put i) ⟨.new hD, 0, Nat.le_refl _, by rw [List.take_zero]; rfl, upd_same⟩ (fun j H' _ q => (e2.trans q.1).l hpu) (fun j x H3 hx q => ?_) (fun H3 q => ?_)
    · obtain ⟨hj, rfl, y, n⟩ := key put pu H2 D j x H3 lpu hx q
      walk_at "st"
      refine r_lcW rfl ?_
      walk_at "st"
      refine r_lenL ((e2.trans q.1).l hop) (n := os.length) (by rw [List.length_map]) ?_
      walk_at "st"
      refine ite_d (fun c => ?_) (fun c => ?_)
      · walk_at "st"
        obtain ⟨acc, a1, a2, a3⟩ := y (V.int.inj c)
        exact ⟨acc, a1, a2, a3 hD⟩
      · exact n fun e => c (by rw [e])
    rw [List.length_map] at q
    obtain ⟨e3, c3, _, ec3, h3⟩ := q
    rw [List.take_length] at ec3
    walk_at "st"
    refine r_sum (sqL h3) ?_
    rw [rep_sum, ec3]
    walk_at "st"
    refine r_li ((e2.trans e3).l hou) ?_
    intro D2 hD2
    refine lcW_list (OneP H3 D2 os.length out i) ⟨.new hD2, 0, Nat.le_refl _, by rw [List.take_zero]; rfl, upd_same⟩ (fun j H' _ q => ((e2.trans e3).trans q.1).l hou) (fun j x H4 hx q => ?_) (fun H4 q => ?_)
    · obtain ⟨hj, rfl, y, n⟩ := key out ou H3 D2 j x H4 lou hx q
      walk_at "st"
      refine r_lcW rfl ?_
      walk_at "st"
      refine r_lenL (((e2.trans e3).trans q.1).l hop) (n := os.length) (by rw [List.length_map]) ?_
      walk_at "st"
      refine ite_d (fun c => ?_) (fun c => ?_)
      · walk_at "st"
        obtain ⟨acc, a1, a2, a3⟩ := y (V.int.inj c)
        exact ⟨acc, a1, a2, a3 hD2⟩
      · exact n fun e => c (by rw [e])
    rw [List.length_map] at q
    obtain ⟨e4, c4, _, ec4, h4⟩ := q
    rw [List.take_length] at ec4
    walk_at "st"
    refine r_sum (sqL h4) ?_
    rw [rep_sum, ec4]
    have e24 := (e2.trans e3).trans e4
    have h4f := e4 _ _ (e3 _ _ h2)
    walk_at "st"
    refine ⟨.inl ⟨rfl, _, sqL h4f⟩, ?_⟩
    walk_at "st"
    have eo : os[i]? = some (os.getD i 0) := by rw [List.getD_eq_getElem?_getD, List.getElem?_eq_getElem hi]; rfl
    have ho := hos _ (List.mem_of_getElem? eo)
    refine r_atL (e24.l hop) (atI_nat (j := i) (v := .int (os.getD i 0)) (by rw [List.getElem?_map, eo]; rfl)) ?_
    refine r_mod (by omega) ?_
    walk_at "st"
    refine r_app h4f (by rw [List.length_map, List.length_map, List.length_range]; omega) (fun H5 h5 n5 => ?_)
    refine ⟨_, _, rfl, mut_ext e24 hf n5, ?_⟩
    rw [h5, List.range_succ, List.map_append, List.map_append]
    rfl
  · rintro σ' H2 ⟨v4, v5, rfl, e2, h2⟩
    walk_at "st"
    exact k f H2 hf e2 h2

/-! ### drawn checks -/
theorem tb_of {S : Addr → Prop} {H : Hp} {t : Addr} {st : List (List Int)} (h : Nw S H (.ref t) (tbD st)) : Tb K H t st := by
  have d := h.dp (K := K) (tbD st)
  unfold tbD at d
  cases d with
  | lst h hs =>
    exact ⟨_, _, h, hs, by rw [List.length_map], fun i d e => by
      rw [List.getElem?_map] at e
      obtain ⟨row, hr, rfl⟩ := Option.map_eq_some_iff.mp e
      exact ⟨row, hr, .inl rfl⟩⟩
def spTable (K : PySem.W.Frag) : Sp := fun vs H Q _ => ∃ (p : Addr), vs = [.ref p] ∧ Src H p ∧ ∀ q t st m H', q ≠ p → H q = none → Src H' p → But p H H' → H' q = some (.lst [.ref t, .int m]) → Nw (fun a => a ≠ p ∧ H a = none) H' (.ref t) (tbD st) → GoodSt st m → m ≤ 8 → st.length ≤ 12 → Q (.ref q) H'
/-- rows made so far, at D -/
structure RowsP (p : Addr) (H1 : Hp) (D : Addr) (many : Int) (ls : Nat) (i : Nat) (H' : Hp) : Prop where
  s : Src H' p
  b : But p H1 H'
  ex : ∃ (as : List Addr) (st : List (List Int)), H' D = some (.lst (as.map V.ref)) ∧ as.length = i ∧ st.length = i ∧ (∀ row ∈ st, row.length = ls ∧ ∀ z ∈ row, 0 ≤ z ∧ z < many) ∧ ∀ (j : Nat) (row : List Int), st[j]? = some row → ∃ a, as[j]? = some a ∧ a ≠ p ∧ H1 a = none ∧ a ≠ D ∧ H' a = some (.lst (row.map V.int))
theorem RowsP.start {p : Addr} {H1 : Hp} {D : Addr} {many : Int} {ls : Nat} (s : Src H1 p) (hD : H1 D = none) : RowsP p H1 D many ls 0 (upd H1 D (.lst [])) :=
  ⟨s.ext (.new hD), ext_but (.new hD), ⟨[], [], upd_same, rfl, rfl, fun r h => absurd h List.not_mem_nil, fun j r h => by simp at h⟩⟩
theorem RowsP.push {p : Addr} {H1 H2 H3 : Hp} {D : Addr} {many : Int} {ls i : Nat} {row : List Int} {a : Addr} (h : RowsP p H1 D many ls i H2) (hD : H1 D = none) (hp : H1 p ≠ none) (hi : i < 1000) (s3 : Src H3 p) (b3 : But p H2 H3) (ha : H2 a = none) (ap : a ≠ p) (h3 : H3 a = some (.lst (row.map V.int))) (hl : row.length = ls) (hz : ∀ z ∈ row, 0 ≤ z ∧ z < many) :
    ∃ acc, H3 D = some (.lst acc) ∧ acc.length < sizeLine ∧ RowsP p H1 D many ls (i + 1) (upd H3 D (.lst (acc ++ [.ref a]))) := by
  obtain ⟨s, b, as, st, hD2, la, ls', hr, hrow⟩ := h
  have pD : p ≠ D := fun e => hp (by rw [e]; exact hD)
  have aD : a ≠ D := fun e => by rw [e, hD2] at ha; cases ha
  have nq : ∀ q, q ≠ D → upd H3 D (.lst (as.map V.ref ++ [.ref a])) q = H3 q := fun q hq => upd_ne hq
  refine ⟨_, b3 _ _ pD.symm hD2, by rw [List.length_map, la, sizeLine_eq]; omega, ?_, ?_, as ++ [a], st ++ [row], by rw [upd_same, List.map_append]; rfl, by rw [List.length_append, la]; rfl, by rw [List.length_append, ls']; rfl, fun r hr' => ?_, fun j r hj => ?_⟩
  · obtain ⟨x, y, z, e⟩ := s3
    exact ⟨x, y, z, by rw [nq _ pD]; exact e⟩
  · exact (b.trans b3).mut hD nq
  · rcases List.mem_append.mp hr' with h | h
    · exact hr r h
    · rw [List.mem_singleton.mp h]; exact ⟨hl, hz⟩
  · by_cases c : j < st.length
    · rw [List.getElem?_append_left c] at hj
      obtain ⟨x, e1, e2, e3, e4, e5⟩ := hrow j r hj
      exact ⟨x, by rw [List.getElem?_append_left (by omega)]; exact e1, e2, e3, e4, by rw [nq _ e4]; exact b3 _ _ e2 e5⟩
    · have hlt := (List.getElem?_eq_some_iff.mp hj).1
      rw [List.length_append] at hlt
      have hlt : j < st.length + 1 := hlt
      rw [List.getElem?_append_right (by omega), show j - st.length = 0 by omega] at hj
      cases hj
      refine ⟨a, by rw [List.getElem?_append_right (by omega), show j - as.length = 0 by omega]; rfl, ap, ?_, aD, by rw [nq _ aD]; exact h3⟩
      cases q : H1 a with
      | none => rfl
      | some o => rw [b _ _ ap q] at ha; cases ha
theorem RowsP.tb {p : Addr} {H1 H2 : Hp} {D : Addr} {many : Int} {ls : Nat} (h : RowsP p H1 D many ls many.toNat H2) (hD : H1 D = none) (hp : H1 p ≠ none) (hm : 1 ≤ many) (hl : 1 ≤ ls) : ∃ st, Nw (fun a => a ≠ p ∧ H1 a = none) H2 (.ref D) (tbD st) ∧ GoodSt st ls ∧ (st.length : Int) = many := by
  obtain ⟨s, b, as, st, hD2, la, ls', hr, hrow⟩ := h
  have pD : p ≠ D := fun e => hp (by rw [e]; exact hD)
  refine ⟨st, Grid.nw (as := as) ⟨⟨pD.symm, hD⟩, hD2, by rw [la, ls'], fun j r hj => ?_⟩, ⟨⟨by omega, fun r h => by rw [(hr r h).1]⟩, fun e => ?_, fun r h z hz => ?_⟩, by omega⟩
  · obtain ⟨x, e1, e2, e3, e4, e5⟩ := hrow j r hj
    exact ⟨x, e1, ⟨e2, e3⟩, e5⟩
  · rw [e] at ls'
    have : (0 : Nat) = many.toNat := ls'
    omega
  · have := (hr r h).2 z hz
    omega
/-- ints drawn so far -/
structure DrP (p : Addr) (H1 : Hp) (D : Addr) (Z : Int → Prop) (i : Nat) (H' : Hp) : Prop where
  s : Src H' p
  b : But p H1 H'
  ex : ∃ (ns : List Int), H' D = some (.lst (ns.map V.int)) ∧ ns.length = i ∧ ∀ z ∈ ns, Z z
theorem DrP.start {p : Addr} {H1 : Hp} {D : Addr} {Z : Int → Prop} (s : Src H1 p) (hD : H1 D = none) : DrP p H1 D Z 0 (upd H1 D (.lst [])) := by
  refine ⟨?_, ext_but (.new hD), [], upd_same, rfl, fun z h => by cases h⟩
  obtain ⟨x, y, z, e⟩ := s
  exact ⟨x, y, z, by rw [upd_ne (ne_of_none e hD)]; exact e⟩
theorem DrP.push {p : Addr} {H1 H2 H3 : Hp} {D : Addr} {Z : Int → Prop} {i : Nat} {r : Int} (h : DrP p H1 D Z i H2) (hD : H1 D = none) (hp : H1 p ≠ none) (hi : i < 1000) (s3 : Src H3 p) (n3 : ∀ b, b ≠ p → H3 b = H2 b) (hr : Z r) :
    ∃ acc, H3 D = some (.lst acc) ∧ acc.length < sizeLine ∧ DrP p H1 D Z (i + 1) (upd H3 D (.lst (acc ++ [.int r]))) := by
  obtain ⟨s, b, ns, hD2, la, hz⟩ := h
  have pD : p ≠ D := fun e => hp (by rw [e]; exact hD)
  refine ⟨_, (n3 _ pD.symm).trans hD2, by rw [List.length_map, la, sizeLine_eq]; omega, ?_, (b.trans (.of n3)).mut hD fun q hq => upd_ne hq, ns ++ [r], by rw [upd_same, List.map_append]; rfl, by rw [List.length_append, la]; rfl, fun z hz' => ?_⟩
  · obtain ⟨x, y, z, e⟩ := s3
    exact ⟨x, y, z, by rw [upd_ne pD]; exact e⟩
  · rcases List.mem_append.mp hz' with h | h
    · exact hz z h
    · rw [List.mem_singleton.mp h]; exact hr
theorem sc__law_f_table : FnScope ["source", "letters", "many", "steps", "letter", "state", "step"] ["source"] (defScope s__law_f_table) := ⟨rfl, rfl, rfl, by decide +kernel, rfl, by decide +kernel, by decide +kernel⟩
theorem ok_law_f_table (T : Txt w K mg) : CalG P w K mg base 3 "_law_f_table" ["source"] (spTable K) := by
  have c__law_pick := ok_law_pick (P := P) (base := base) T
  refine calG_of T.g__law_f_table T.d__law_f_table sc__law_f_table (fun _ _ _ _ _ _ _ us hl => match us, hl with | [_], _ => rfl) (fun vs H Q E h => by obtain ⟨_, rfl, _⟩ := h; rfl) (fun cdv A outer s H vs Q E hr h => ?_)
  have nd := sc__law_f_table.nd
  have hu := hu64 hr
  obtain ⟨p, rfl, sp, k⟩ := h
  refine ⟨_, (pss_cons (ps_set (i := 1) nd rfl (Or.inr rfl) (pe_ix (ixK (K := K)) (pe_lst (pa_cons pe_int (pa_cons pe_int (pa_cons pe_int (pa_cons pe_int (pa_cons pe_int (pa_cons pe_int pa_nil))))))) (pe_cal c__law_pick hr (by omega) (fun σ => L2N.passAt (L2N.takes_of rfl rfl rfl rfl) σ) (pa_cons (pv 0) (pa_cons pe_int pa_nil))) (fun _ _ => rfl)))
        (pss_cons (ps_set (i := 2) nd rfl (Or.inr rfl) (pe_op (plusK (K := K)) pe_int (pe_cal c__law_pick hr (by omega) (fun σ => L2N.passAt (L2N.takes_of rfl rfl rfl rfl) σ) (pa_cons (pv 0) (pa_cons pe_int pa_nil)))))
        (pss_cons (ps_if (pt_cmpR (sameK (K := K) hu) (pe_cal c__law_pick hr (by omega) (fun σ => L2N.passAt (L2N.takes_of rfl rfl rfl rfl) σ) (pa_cons (pv 0) (pa_cons pe_int pa_nil))) pe_int (nomark _)) (pss_cons (ps_set (i := 3) nd rfl (Or.inr rfl) (pe_lc (own := [("letter", 4)]) rfl nd (pi_range1 (by rfl) T.f_range (pa_cons (pv 1) pa_nil)) (blkOk_by (N := ["source", "letters", "many", "steps", "letter", "state", "step"]) (sc := defScope s__law_f_table) (by decide +kernel)) (fun _ _ _ _ _ => (pg_name (i := 4) nd rfl (Or.inl rfl))) (fun _ _ _ _ _ => pts_nil) (fun _ _ _ _ _ => (pe_cal c__law_pick hr (by omega) passN (pa_cons (pv 0) (pa_cons (pv 2) pa_nil))))))
        (pss_one (ps_ret (pe_lst (pa_cons (pe_lc (own := [("state", 5)]) rfl nd (pi_range1 (by rfl) T.f_range (pa_cons (pv 2) pa_nil)) (blkOk_by (N := ["source", "letters", "many", "steps", "letter", "state", "step"]) (sc := defScope s__law_f_table) (by decide +kernel)) (fun _ _ _ _ _ => (pg_name (i := 5) nd rfl (Or.inr rfl))) (fun _ _ _ _ _ => pts_nil) (fun _ _ _ _ _ => (pe_lc (own := [("step", 6)]) rfl nd (piL (K := K) (pv 3)) (blkOk_by (by kernel_rfl)) (fun _ _ _ _ _ => (pg_name (i := 6) nd rfl (Or.inl rfl))) (fun _ _ _ _ _ => pts_nil) (fun _ _ _ _ _ => (pe_op op_mod (pe_callTy cr_int (by rfl) T.f_int (by decide +kernel) (pa_cons (pe_op (plusK (K := K)) (pv 5) (pv 6)) pa_nil)) (pv 2)))))) (pa_cons (pv 1) pa_nil)))))) pss_nil)
        (pss_one (ps_ret (pe_lst (pa_cons (pe_lc (own := [("state", 5)]) rfl nd (pi_range1 (by rfl) T.f_range (pa_cons (pv 2) pa_nil)) (blkOk_by (N := ["source", "letters", "many", "steps", "letter", "state", "step"]) (sc := defScope s__law_f_table) (by decide +kernel)) (fun _ _ _ _ _ => (pg_name (i := 5) nd rfl (Or.inl rfl))) (fun _ _ _ _ _ => pts_nil) (fun _ _ _ _ _ => (pe_lc (own := [("letter", 4)]) rfl nd (pi_range1 (by rfl) T.f_range (pa_cons (pv 1) pa_nil)) (blkOk_by (by kernel_rfl)) (fun _ _ _ _ _ => (pg_name (i := 4) nd rfl (Or.inl rfl))) (fun _ _ _ _ _ => pts_nil) (fun _ _ _ _ _ => (pe_cal c__law_pick hr (by omega) passN (pa_cons (pv 0) (pa_cons (pv 2) pa_nil))))))) (pa_cons (pv 1) pa_nil)))))))), ?_⟩
  have hp0 := src_some sp
  walk_at "st"
  intro l1 H1 hl1 e1 h1
  walk_at "st"
  refine ⟨p, 6, rfl, sp.ext e1, by decide, by decide, fun r H2 r0 r1 s2 n2 => ?_⟩
  have nl1 : l1 ≠ p := (src_ne sp hl1).symm
  obtain ⟨ls, hls, l1', l8⟩ : ∃ ls : Nat, atI [V.int 1, V.int 2, V.int 3, V.int 4, V.int 5, V.int 8] r = some (.int ls) ∧ 1 ≤ ls ∧ ls ≤ 8 := by
    have h6 : r = 0 ∨ r = 1 ∨ r = 2 ∨ r = 3 ∨ r = 4 ∨ r = 5 := by omega
    rcases h6 with h | h | h | h | h | h <;> subst h
    · exact ⟨1, rfl, by decide, by decide⟩
    · exact ⟨2, rfl, by decide, by decide⟩
    · exact ⟨3, rfl, by decide, by decide⟩
    · exact ⟨4, rfl, by decide, by decide⟩
    · exact ⟨5, rfl, by decide, by decide⟩
    · exact ⟨8, rfl, by decide, by decide⟩
  refine r_atL (sqL (stay n2 nl1 h1)) hls ?_
  have b2 : But p H H2 := (ext_but e1).trans (.of n2)
  walk_at "st"
  refine ⟨p, 12, rfl, s2, by decide, by decide, fun mn H3 m0 m1 s3 n3 => ?_⟩
  walk_at "st"
  refine ⟨p, 2, rfl, s3, by decide, by decide, fun two H4 _ _ s4 n4 => ?_⟩
  have b4 : But p H H4 := (b2.trans (.of n3)).trans (.of n4)
  have hm : (1 : Int) + mn < 2 ^ 250 := Int.lt_of_lt_of_le (b := 13) (by omega) (by decide)
  have fin : ∀ (D : Addr) (H5 H6 H7 : Hp) (q : Addr), But p H H5 → Src H5 p → H5 D = none → RowsP p H5 D (1 + mn) ls (1 + mn).toNat H6 → H6 q = none → Ext H6 H7 → H7 q = some (.lst [.ref D, .int ls]) → Q (.ref q) H7 := fun D H5 H6 H7 q b5 s5 hD R hq e7 h7 => by
    obtain ⟨st, N, G, L⟩ := R.tb hD (src_some s5) (by omega) l1'
    have b6 := b5.trans R.b
    have qp : q ≠ p := (src_ne R.s hq).symm
    have none5 : ∀ a, a ≠ p → H5 a = none → H a = none := fun a ap h => by
      cases c : H a with
      | none => rfl
      | some o => rw [b5 _ _ ap c] at h; cases h
    refine k q D st ls H7 qp ?_ (R.s.ext e7) (b6.ext e7) h7 (N.keep (fun a o s z => ⟨e7 _ _ z, s.1, none5 a s.1 s.2⟩) _) G (by omega) (by omega)
    cases c : H q with
    | none => rfl
    | some o => rw [b6 _ _ qp c] at hq; cases hq
  walk_at "st"
  refine ite_d (fun c => ?_) (fun c => ?_)
  · walk_at "st"
    intro D hD
    rw [Int.toNat_natCast]
    refine lcW_range (DrP p H4 D (fun z => 0 ≤ z ∧ z < 1 + mn)) (.start s4 hD) (fun i H5 hi q => ?_) (fun H5 q => ?_)
    · walk_at "st"
      refine r_lcW rfl ?_
      walk_at "st"
      exact ⟨p, _, rfl, q.s, by omega, hm, fun r H6 r0 r1 s6 n6 => q.push hD (src_some s4) (by omega) s6 n6 ⟨r0, r1⟩⟩
    obtain ⟨s5, b5, ns, h5, ln, hz⟩ := q
    walk_at "st"
    intro D2 hD2
    refine lcW_range (RowsP p H5 D2 (1 + mn) ls) (.start s5 hD2) (fun i H6 hi q => ?_) (fun H6 q => ?_)
    · have h6 := q.b _ _ (src_ne s4 hD).symm h5
      walk_at "st"
      refine r_lcW rfl ?_
      walk_at "st"
      refine r_li (sqL h6) ?_
      intro D3 hD3
      refine lcW_list (LcP H6 D3 fun j => .int ((0 + (i : Int) + ns.getD j 0) % (1 + mn))) (.start hD3) (fun j H' _ q => q.e.l (sqL h6)) (fun j x H7 hx q7 => ?_) (fun H7 q7 => ?_)
      · obtain ⟨hj, rfl⟩ := ints_get hx
        walk_at "st"
        refine r_lcW rfl ?_
        walk_at "st"
        exact q7.push hD3 (by omega) .rfl rfl
      rw [List.length_map] at q7
      have h7 := q7.d
      rw [range_ints ns (fun x => (0 + (i : Int) + x) % (1 + mn))] at h7
      refine q.push hD2 (src_some s5) (by omega) (q.s.ext q7.e) (ext_but q7.e) hD3 (src_ne q.s hD3).symm h7 (by rw [List.length_map, ln]) (fun z hz => ?_)
      obtain ⟨y, _, rfl⟩ := List.mem_map.mp hz
      exact ⟨Int.emod_nonneg _ (by omega), Int.emod_lt_of_pos _ (by omega)⟩
    walk_at "st"
    intro q' H7 hq' e7 h7
    exact fin D2 H5 H6 H7 q' (b4.trans b5) s5 hD2 q hq' e7 h7
  · walk_at "st"
    intro D2 hD2
    refine lcW_range (RowsP p H4 D2 (1 + mn) ls) (.start s4 hD2) (fun i H6 hi q => ?_) (fun H6 q => ?_)
    · walk_at "st"
      refine r_lcW rfl ?_
      walk_at "st"
      intro D3 hD3
      rw [Int.toNat_natCast]
      refine lcW_range (DrP p H6 D3 (fun z => 0 ≤ z ∧ z < 1 + mn)) (.start q.s hD3) (fun j H7 hj q7 => ?_) (fun H7 q7 => ?_)
      · walk_at "st"
        refine r_lcW rfl ?_
        walk_at "st"
        exact ⟨p, _, rfl, q7.s, by omega, hm, fun r H8 r0 r1 s8 n8 => q7.push hD3 (src_some q.s) (by omega) s8 n8 ⟨r0, r1⟩⟩
      obtain ⟨s7, b7, ns, h7, ln, hz⟩ := q7
      exact q.push hD2 (src_some s4) (by omega) s7 b7 hD3 (src_ne q.s hD3).symm h7 ln hz
    walk_at "st"
    intro q' H7 hq' e7 h7
    exact fin D2 H4 H6 H7 q' b4 s4 hD2 q hq' e7 h7

end
end K30
set_option maxRecDepth 100000
set_option maxHeartbeats 4000000
namespace K30
open PySem PySem.Spec PyProof.Rows L2 L3
local macro_rules | `(tactic| walk_at "s1") => `(tactic| first
  | with_reducible refine r_seq ?_
  | with_reducible refine r_asgN ?_
  | with_reducible refine r_ret ?_
  | with_reducible refine r_next ?_
  | ((with_reducible refine' r_var ?hv ?_); (case hv => exact rfl))
  | with_reducible refine r_c ?_
  | with_reducible refine r_op ?_
  | with_reducible refine r_cons ?_
  | with_reducible refine r_nil ?_
  | with_reducible refine r_plusI ?_
  | with_reducible refine r_I0 ?_
  | with_reducible refine r_test ?_
  | with_reducible refine r_bl ?_
  | with_reducible refine r_ifS ?_
  | with_reducible refine r_cb ?_
  | with_reducible refine r_callS ?_
  | with_reducible refine r_and ?_
  | with_reducible refine r_or ?_
  | with_reducible refine r_not ?_
  | with_reducible refine r_B ?_
  | ((with_reducible refine' r_aug ?hv ?_); (case hv => exact rfl))
  | with_reducible refine r_augS ?_
  | with_reducible refine r_ipI ?_
  | with_reducible refine r_asg ?_
  | with_reducible refine r_sub ?_
  | with_reducible refine r_brk ?_
  | with_reducible refine r_isN1 ?_
  | with_reducible refine r_notN1 ?_
  | with_reducible refine r_intI ?_
  | with_reducible refine r_abs ?_
  | with_reducible refine r_min ?_
  | with_reducible refine r_max ?_
  | ((with_reducible refine' r_mod ?hz ?_); (case hz => omega))
  | ((with_reducible refine' r_pow ?hz ?_); (case hz => exact ⟨by decide, by decide, by decide⟩))
  | ((with_reducible refine' r_rg1 ?hz ?_); (case hz => omega))
  | ((with_reducible refine' r_rg2 ?hz ?_); (case hz => omega))
  | ((with_reducible refine' r_newL ?hz ?_); (case hz => exact Nat.le_of_ble_eq_true rfl))
  | ((with_reducible refine' r_newT ?hz ?_); (case hz => exact Nat.le_of_ble_eq_true rfl))
  | with_reducible refine r_for ?_
  | with_reducible refine r_lc ?_
  | with_reducible refine r_iR1 ?_
  | with_reducible refine r_iR2 ?_
  | with_reducible refine r_iL ?_
  | with_reducible refine r_iT ?_
  | with_reducible refine r_gname ?_
  | with_reducible refine r_gcons ?_
  | with_reducible refine r_gnil ?_
  | with_reducible refine r_yes ?_
  | with_reducible refine r_mkO ?_
  | with_reducible refine r_cont ?_
  | with_reducible refine r_drop ?_
  | with_reducible refine r_retN ?_
  | with_reducible refine r_ifC ?_
  | with_reducible refine r_ifI ?_
  | with_reducible refine r_if ?_
  | with_reducible refine r_un ?_
  | with_reducible refine r_neg ?_
  | with_reducible refine r_andV ?_
  | with_reducible refine r_orV ?_
  | with_reducible refine r_notV ?_
  | with_reducible refine r_tup ?_
  | with_reducible refine r_lst ?_
  | with_reducible refine r_bm ?_
  | with_reducible refine r_bm0 ?_
  | with_reducible refine r_sl ?_
  | with_reducible refine r_chain ?_
  | with_reducible refine r_listDn ?_
  | with_reducible refine r_listRg2 ?_
  | with_reducible refine r_revL ?_
  | with_reducible refine r_noPart ?_
  | with_reducible refine r_lenSet ?_
  | with_reducible refine r_part ?_
  | with_reducible refine r_int ?_
  | ((with_reducible refine' r_sameS ?hs ?_); (case hs => exact rfl))
  | ((with_reducible refine' r_otherS ?hs ?_); (case hs => exact rfl))
  | with_reducible refine ite_t ?_
  | with_reducible refine ite_f ?_
  | with_reducible refine ite_nt ?_
  | with_reducible refine ite_nf ?_)
local macro_rules | `(tactic| walk_at "st") => `(tactic| repeat (walk_at "s1"))

section
variable {P : Program} {w : World} {K : PySem.W.Frag} {mg : Str → Option Value} {base : Heap}
/-! ### wrong things -/
/-- a list of ints of the heap, not at p -/
def LI (p : Addr) (H : Hp) (a : Addr) (ns : List Int) : Prop := a ≠ p ∧ H a = some (.lst (ns.map V.int))
theorem LI.but {p a : Addr} {H H' : Hp} {ns : List Int} (h : LI p H a ns) (b : But p H H') : LI p H' a ns := ⟨h.1, b _ _ h.1 h.2⟩
abbrev TbP (p : Addr) (H : Hp) (t : Addr) (st : List (List Int)) : Prop := Nw (· ≠ p) H (.ref t) (tbD st)
inductive Ask (p : Addr) (H : Hp) : V → V → V → V → Oc → Prop
  | run {t sg : Addr} {st : List (List Int)} {m : Int} {ns : List Int} : TbP p H t st → LI p H sg ns → Ask p H (.int 0) (.ref t) (.int m) (.ref sg) (runO st m ns)
  | cnt {op ou pu : Addr} {os out put : List Int} : LI p H op os → LI p H ou out → LI p H pu put → Ask p H (.int 1) (.ref op) (.ref ou) (.ref pu) (cntO os out put)
  | act {t cp : Addr} {st : List (List Int)} {s0 : Int} {cs : List Int} : TbP p H t st → LI p H cp cs → Ask p H (.int 2) (.ref t) (.int s0) (.ref cp) (actO st s0 cs)
theorem Ask.but {p : Addr} {H H' : Hp} {x a b c : V} {o : Oc} (h : Ask p H x a b c o) (bt : But p H H') : Ask p H' x a b c o := by
  cases h with
  | run h1 h2 => exact .run (nw_but h1 bt) (h2.but bt)
  | cnt h1 h2 h3 => exact .cnt (h1.but bt) (h2.but bt) (h3.but bt)
  | act h1 h2 => exact .act (nw_but h1 bt) (h2.but bt)
theorem Ask.sp {p : Addr} {H : Hp} {x a b c : V} {o : Oc} {Q : VK} {E : XK} (h : Ask p H x a b c o) (k : Tell Q H o) : spAsk K [x, a, b, c] H Q E := by
  cases h with
  | run h1 h2 => exact .inl ⟨_, _, _, _, _, rfl, tb_of h1, sqL h2.2, k⟩
  | cnt h1 h2 h3 => exact .inr (.inl ⟨_, _, _, _, _, _, rfl, sqL h1.2, sqL h2.2, sqL h3.2, k⟩)
  | act h1 h2 => exact .inr (.inr ⟨_, _, _, _, _, rfl, tb_of h1, sqL h2.2, k⟩)
/-- a wrong thing: what is asked, and the error due -/
structure Wr (p : Addr) (H : Hp) (x : V) : Prop where
  ex : ∃ (q : Addr) (wh a b c : V) (due : Addr) (C what : Str), x = .ref q ∧ q ≠ p ∧ due ≠ p ∧ H q = some (.lst [wh, a, b, c, .ref due]) ∧ H due = some (.tup [.str C, .str what]) ∧ Ask p H wh a b c (.err C what)
theorem Wr.but {p : Addr} {H H' : Hp} {x : V} (h : Wr p H x) (bt : But p H H') : Wr p H' x := by
  obtain ⟨q, wh, a, b, c, due, C, what, e, h1, h2, h3, h4, h5⟩ := h
  exact ⟨q, wh, a, b, c, due, C, what, e, h1, h2, bt _ _ h1 h3, bt _ _ h2 h4, h5.but bt⟩
def Wrs (p : Addr) (H : Hp) (xs : List V) : Prop := ∀ x ∈ xs, Wr p H x
theorem Wrs.step {p : Addr} {H H' : Hp} {xs : List V} {q due : Addr} {wh a b c : V} {C what : Str} {o : Oc} (h : Wrs p H xs) (bt : But p H H') (hq : q ≠ p) (hd : due ≠ p) (h3 : H' q = some (.lst [wh, a, b, c, .ref due])) (h4 : H' due = some (.tup [.str C, .str what])) (h5 : Ask p H' wh a b c o) (ho : o = .err C what) : Wrs p H' (xs ++ [.ref q]) := fun x hx => by
  rcases List.mem_append.mp hx with hx | hx
  · exact (h x hx).but bt
  · rw [List.mem_singleton.mp hx]
    exact ⟨q, wh, a, b, c, due, C, what, rfl, hq, hd, h3, h4, ho ▸ h5⟩
/-- what the wrong things are made of -/
structure Bs (p : Addr) (H : Hp) (st od ou : List (List Int)) (m : Nat) (far : Int) (ts tr to tu tc tq : Addr) : Prop where
  s : Src H p
  hs : TbP p H ts st
  hr : LI p H tr [3, 1]
  ho : TbP p H to od
  hu : TbP p H tu ou
  hc : LI p H tc (List.replicate m 0)
  hq : LI p H tq (List.replicate m 2)
theorem Bs.but {p : Addr} {H H' : Hp} {st od ou : List (List Int)} {m : Nat} {far : Int} {ts tr to tu tc tq : Addr} (h : Bs p H st od ou m far ts tr to tu tc tq) (b : But p H H') (s : Src H' p) : Bs p H' st od ou m far ts tr to tu tc tq :=
  ⟨s, nw_but h.hs b, h.hr.but b, nw_but h.ho b, nw_but h.hu b, h.hc.but b, h.hq.but b⟩
theorem rep_ints (k : Nat) (c : Int) : (List.replicate k [V.int c]).flatten = (List.replicate k c).map V.int := by
  rw [List.flatten_replicate_singleton, List.map_replicate]
theorem cut_ints (ns : List Int) (lo hi : Option Int) : ∃ ms : List Int, cutV (ns.map V.int) lo hi = ms.map V.int ∧ ms.length ≤ ns.length := by
  unfold cutV
  refine ⟨_, by rw [← List.map_drop, ← List.map_take], ?_⟩
  rw [List.length_take, List.length_drop]
  omega
/-- odd: a row too wide -/
def OddT (od : List (List Int)) (m : Nat) : Prop := od.length ≤ 12 ∧ od ≠ [] ∧ ∃ row ∈ od, row.length ≠ m
/-- out: a state that is none -/
def OutT (ou : List (List Int)) (m : Nat) : Prop := ou.length ≤ 12 ∧ (∀ row ∈ ou, row.length = m) ∧ ∃ row ∈ ou, ∃ z ∈ row, ¬ (0 ≤ z ∧ z < ou.length)
section
variable {st od ou : List (List Int)} {m : Nat} {f : Int}
theorem w_far {f : Int} (h : far < f) {l : List Int} (hm : f ∈ l) : ∃ s ∈ l, far < s := ⟨f, hm, h⟩
theorem w_31 : ¬ ∃ s ∈ ([3, 1] : List Int), far < s := by
  rintro ⟨s, hs, h⟩
  have : far = 10 ^ 30 := rfl
  have h0 : (3 : Int) ≤ far := by decide
  simp at hs
  omega
theorem w_rep {k : Nat} {c : Int} (h : c ≤ far) : ¬ ∃ s ∈ List.replicate k c, far < s := by
  rintro ⟨s, hs, h2⟩
  rw [List.eq_of_mem_replicate hs] at h2
  omega
theorem w1 (l : List Int) : runO od 9 l = .err "TooMany" "letters" := by unfold runO; rw [if_pos (by decide)]
theorem w2 (hm : m ≤ 8) (r : List Int) (l : List Int) : runO (List.replicate 13 r) m l = .err "TooMany" "states" := by unfold runO; rw [if_neg (by omega), if_pos (by rw [List.length_replicate]; decide)]
theorem w3 (hm : m ≤ 8) (ho : OddT od m) : runO od m (List.replicate 4001 f) = .err "TooMany" "signs" := by unfold runO; rw [if_neg (by omega), if_neg (by have := ho.1; omega), if_pos (by rw [List.length_replicate]; decide)]
theorem w4 (hm : m ≤ 8) (ho : OddT od m) (hf : far < f) : runO od m [3, 1, f] = .err "TooMany" "number" := by unfold runO; rw [if_neg (by omega), if_neg (by have := ho.1; omega), if_neg (by show ¬ 4000 < 3; decide), if_pos (w_far hf (by simp))]
theorem w5 (hm : m ≤ 8) (ho : OddT od m) : runO od m [3, 1] = .err "BadCheck" "letters" := by
  unfold runO
  rw [if_neg (by omega), if_neg (by have := ho.1; omega), if_neg (by show ¬ 4000 < 2; decide), if_neg w_31, if_pos]
  obtain ⟨_, _, row, hr, h⟩ := ho
  exact .inr ⟨row, hr, by omega⟩
theorem w6 (h1 : 1 ≤ m) (hm : m ≤ 8) (ho : OutT ou m) : runO ou m [3, 1] = .err "BadCheck" "state" :=
  run_bad (by omega) ho.1 (by show 2 ≤ 4000; decide) (fun s hs => by have : (3 : Int) ≤ far := by decide
                                                                     simp at hs; omega) (.inr ⟨⟨by omega, fun row hr => by rw [ho.2.1 row hr]⟩, .inr ho.2.2, rfl⟩)
theorem w7 (h1 : 1 ≤ m) (hm : m ≤ 8) : runO [] m [3, 1] = .err "BadCheck" "state" :=
  run_bad (by omega) (by show 0 ≤ 12; decide) (by show 2 ≤ 4000; decide) (fun s hs => by have : (3 : Int) ≤ far := by decide
                                                                                         simp at hs; omega) (.inr ⟨⟨by omega, fun row hr => absurd hr List.not_mem_nil⟩, .inl rfl, rfl⟩)
theorem w8 (hs : st.length ≤ 12) {k : Int} (hk : k ≤ 0) : runO st k [3, 1] = .err "BadCheck" "letters" :=
  run_bad (by omega) hs (by show 2 ≤ 4000; decide) (fun s hs => by have : (3 : Int) ≤ far := by decide
                                                                   simp at hs; omega) (.inl ⟨.inl (by omega), rfl⟩)
theorem w9 (a b : List Int) : cntO (List.replicate 9 0) a b = .err "TooMany" "letters" := by unfold cntO; rw [if_pos (by rw [List.length_replicate]; decide)]
theorem w10 : cntO [] [1] (List.replicate 4001 0) = .err "TooMany" "signs" := by
  unfold cntO
  rw [if_neg (by show ¬ 8 < 0; decide), if_neg (by show ¬ 4000 < 1; decide), if_neg, if_pos (by rw [List.length_replicate]; decide)]
  rintro ⟨s, hs, h⟩
  have : (1 : Int) ≤ far := by decide
  simp at hs
  omega
theorem w11 (hm : m ≤ 8) (hf : far < f) (b : List Int) : cntO (List.replicate m 2) [f] b = .err "TooMany" "number" := by
  unfold cntO
  rw [if_neg (by rw [List.length_replicate]; omega), if_neg (by show ¬ 4000 < 1; decide), if_pos (w_far hf (by simp))]
theorem w12 (hm : m ≤ 8) (hf : far < f) : cntO (List.replicate m 2) [3, 1] [3, 1, f] = .err "TooMany" "number" := by
  unfold cntO
  rw [if_neg (by rw [List.length_replicate]; omega), if_neg (by show ¬ 4000 < 2; decide), if_neg w_31, if_neg (by show ¬ 4000 < 3; decide), if_pos (w_far hf (by simp))]
theorem w13 : cntO [] [3, 1] [3, 1] = .err "BadCheck" "letters" := by
  unfold cntO
  rw [if_neg (by show ¬ 8 < 0; decide), if_neg (by show ¬ 4000 < 2; decide), if_neg w_31, if_neg (by show ¬ 4000 < 2; decide), if_neg w_31, if_pos (.inl rfl)]
theorem w14 {l : List Int} {k : Int} (hl : l.length ≤ 8) (hk : k < 1) (hm : k ∈ l) : cntO l [3, 1] [] = .err "BadCheck" "letters" := by
  unfold cntO
  rw [if_neg (by omega), if_neg (by show ¬ 4000 < 2; decide), if_neg w_31, if_neg (by show ¬ 4000 < 0; decide), if_neg (by rintro ⟨s, hs, _⟩; cases hs), if_pos (.inr ⟨k, hm, hk⟩)]
theorem w15 (s0 : Int) : actO od s0 (List.replicate 9 f) = .err "TooMany" "letters" := by unfold actO; rw [if_pos (by rw [List.length_replicate]; decide)]
theorem w16 (hm : m ≤ 8) (r : List Int) (s0 : Int) : actO (List.replicate 13 r) s0 (List.replicate m f) = .err "TooMany" "states" := by unfold actO; rw [if_neg (by rw [List.length_replicate]; omega), if_pos (by rw [List.length_replicate]; decide)]
theorem w17 (ho : OddT od m) (hf : far < f) {l : List Int} (hl : l.length ≤ 8) (hm : f ∈ l) (s0 : Int) : actO od s0 l = .err "TooMany" "number" := by unfold actO; rw [if_neg (by omega), if_neg (by have := ho.1; omega), if_pos (w_far hf hm)]
theorem w18 (h1 : 1 ≤ m) (hm : m ≤ 8) (ho : OutT ou m) (s0 : Int) : actO ou s0 (List.replicate m (-1)) = .err "BadCheck" "letters" := by
  unfold actO
  rw [if_neg (by rw [List.length_replicate]; omega), if_neg (by have := ho.1; omega), if_neg (w_rep (by decide)), if_pos (.inr ⟨-1, List.mem_replicate.mpr ⟨by omega, rfl⟩, by decide⟩)]
theorem act0 (h1 : 1 ≤ m) (hm : m ≤ 8) (hs : st.length ≤ 12) {s0 : Int} {what : Str} (h : BadSt st (List.replicate m (0 : Int)).length what) : actO st s0 (List.replicate m 0) = .err "BadCheck" what :=
  act_bad (by rw [List.length_replicate]; omega) hs (fun c hc => by rw [List.eq_of_mem_replicate hc]; decide) (fun e => by have := congrArg List.length e; rw [List.length_replicate] at this; have : m = 0 := this; omega) (fun c hc => by rw [List.eq_of_mem_replicate hc]; decide) h
theorem w19 (h1 : 1 ≤ m) (hm : m ≤ 8) (ho : OddT od m) (s0 : Int) : actO od s0 (List.replicate m 0) = .err "BadCheck" "letters" := by
  obtain ⟨h2, _, row, hr, h⟩ := ho
  exact act0 h1 hm h2 (.inl ⟨.inr ⟨row, hr, by rw [List.length_replicate]; omega⟩, rfl⟩)
theorem w20 (h1 : 1 ≤ m) (hm : m ≤ 8) (ho : OutT ou m) (s0 : Int) : actO ou s0 (List.replicate m 0) = .err "BadCheck" "state" :=
  act0 h1 hm ho.1 (.inr ⟨⟨by rw [List.length_replicate]; omega, fun row hr => by rw [ho.2.1 row hr, List.length_replicate]⟩, .inr ho.2.2, rfl⟩)
theorem w21 (hs : st.length ≤ 12) (s0 : Int) : actO st s0 [] = .err "BadCheck" "letters" := by
  unfold actO
  rw [if_neg (by show ¬ 8 < 0; decide), if_neg (by omega), if_neg (by rintro ⟨s, hs, _⟩; cases hs), if_pos (.inl rfl)]
theorem w22 (hm : m ≤ 8) (g : GoodSt st m) (hs : st.length ≤ 12) {s0 : Int} (h : ¬ (0 ≤ s0 ∧ s0 < st.length)) : actO st s0 (List.replicate m 0) = .err "BadCheck" "state" := by
  have h1 := g.1.1
  rw [act_good (by rw [List.length_replicate]; omega) hs (fun c hc => by rw [List.eq_of_mem_replicate hc]; decide) (fun e => by have := congrArg List.length e; rw [List.length_replicate] at this; have : m = 0 := this; omega) (fun c hc => by rw [List.eq_of_mem_replicate hc]; decide) (by rw [List.length_replicate]; exact g), if_pos h]
theorem w24 (h1 : 1 ≤ m) (hm : m ≤ 8) (s0 : Int) : actO [] s0 (List.replicate m 0) = .err "BadCheck" "state" :=
  act0 h1 hm (by show 0 ≤ 12; decide) (.inr ⟨⟨by rw [List.length_replicate]; omega, fun row hr => absurd hr List.not_mem_nil⟩, .inl rfl, rfl⟩)
end

theorem lix {p a : Addr} {H : Hp} {ns : List Int} (h1 : a ≠ p) (h : H a = some (.lst (ns.map V.int))) : LI p H a ns := ⟨h1, h⟩
theorem li1 {p a : Addr} {H : Hp} {c : Int} (h1 : a ≠ p) (h : H a = some (.lst [.int c])) : LI p H a [c] := ⟨h1, h⟩
theorem li0 {p a : Addr} {H : Hp} (h1 : a ≠ p) (h : H a = some (.lst [])) : LI p H a [] := ⟨h1, h⟩
theorem tb_nil {p t : Addr} {H : Hp} (h1 : t ≠ p) (h : H t = some (.lst [])) : TbP p H t [] := .lst h1 h .nil
theorem tb_rep {p t a : Addr} {H : Hp} {k n : Nat} {c : Int} (h1 : t ≠ p) (h2 : a ≠ p) (ht : H t = some (.lst (List.replicate k [V.ref a]).flatten)) (ha : H a = some (.lst ((List.replicate n c).map V.int))) : TbP p H t (List.replicate k (List.replicate n c)) := by
  refine Grid.nw (as := List.replicate k a) ⟨h1, ?_, by rw [List.length_replicate, List.length_replicate], fun i row hi => ?_⟩
  · rw [ht, List.flatten_replicate_singleton, List.map_replicate]
  · have hl := (List.getElem?_eq_some_iff.mp hi).1
    rw [List.length_replicate] at hl
    rw [List.getElem?_replicate, if_pos hl] at hi
    cases hi
    exact ⟨a, by rw [List.getElem?_replicate, if_pos hl], h2, ha⟩
theorem snoc_ints (l : List Int) (c : Int) : l.map V.int ++ [V.int c] = (l ++ [c]).map V.int := by rw [List.map_append]; rfl
theorem cut_last (ns : List Int) : ∃ ms : List Int, cutV (ns.map V.int) none (some (-1)) = ms.map V.int ∧ ms.length ≤ ns.length - 1 := by
  unfold cutV
  refine ⟨_, by rw [← List.map_drop, ← List.map_take], ?_⟩
  rw [List.length_take, List.length_map]
  have : HT.sIx ns.length ns.length (some (-1)) = ns.length - 1 := by
    unfold HT.sIx
    simp
    omega
  rw [this]
  omega
def spFaults (K : PySem.W.Frag) : Sp := fun vs H Q _ => ∃ (p ts : Addr) (st : List (List Int)) (m : Nat), vs = [.ref p, .ref ts, .int m] ∧ Src H p ∧ TbP p H ts st ∧ GoodSt st m ∧ m ≤ 8 ∧ st.length ≤ 12 ∧ ∀ H', Q (.bl true) H'
theorem sc__law_f_faults : FnScope ["source", "states", "letters", "row", "odd", "out", "last", "far", "counts", "orders", "wrong", "turn", "which", "a", "b", "c", "due"] ["source", "states", "letters"] (defScope s__law_f_faults) := ⟨rfl, rfl, rfl, by decide +kernel, rfl, by decide +kernel, by decide +kernel⟩
theorem ok_law_f_faults (T : Txt w K mg) : CalG P w K mg base 10 "_law_f_faults" ["source", "states", "letters"] (spFaults K) := by
  have c__law_pick := ok_law_pick (P := P) (base := base) T
  have c__law_copied := ok_law_copied (P := P) (base := base) T 3
  have c__law_same := ok_law_same (P := P) (base := base) T 2
  have c__law_f_asked := ok_law_f_asked (P := P) (base := base) T
  refine calG_of T.g__law_f_faults T.d__law_f_faults sc__law_f_faults (fun _ _ _ _ _ _ _ us hl => match us, hl with | [_, _, _], _ => rfl) (fun vs H Q E h => by obtain ⟨_, _, _, _, rfl, _⟩ := h; rfl) (fun cdv A outer s H vs Q E hr h => ?_)
  have nd := sc__law_f_faults.nd
  have hu := hu64 hr
  obtain ⟨p, ts, st, m, rfl, sp, hts, g, m8, l12, k⟩ := h
  have m1 : 1 ≤ m := by have := g.1.1; omega
  have st0 := good_pos g
  have wid : ∀ row ∈ st, row.length = m := fun row hr => by have := g.1.2 row hr; omega
  have small : smallD 3 (tbD st) := small_tb (by omega) fun row hr => by rw [wid row hr]; omega
  refine ⟨_, (pss_cons (ps_set (i := 3) nd rfl (Or.inl rfl) (pe_lst (pa_cons pe_int (pa_cons pe_int pa_nil))))
        (pss_cons (ps_set (i := 4) nd rfl (Or.inl rfl) (pe_cal c__law_copied hr (by omega) (fun σ => L2N.passAt (L2N.takes_of rfl rfl rfl rfl) σ) (pa_cons (pv 1) pa_nil)))
        (pss_cons (ps_asg (pe_op op_timesB (pe_lst (pa_cons pe_int pa_nil)) (pe_op (plusK (K := K)) (pv 2) pe_int)) (pg_sub (pv 4) (pe_cal c__law_pick hr (by omega) (fun σ => L2N.passAt (L2N.takes_of rfl rfl rfl rfl) σ) (pa_cons (pv 0) (pa_cons (pe_callB (lenK (K := K)) (by rfl) T.f_len boot_len (pa_cons (pv 4) pa_nil)) pa_nil))) set_list))
        (pss_cons (ps_set (i := 5) nd rfl (Or.inl rfl) (pe_cal c__law_copied hr (by omega) (fun σ => L2N.passAt (L2N.takes_of rfl rfl rfl rfl) σ) (pa_cons (pv 1) pa_nil)))
        (pss_cons (ps_set (i := 6) nd rfl (Or.inl rfl) (pe_ix (ixK (K := K)) (pv 5) (pe_cal c__law_pick hr (by omega) (fun σ => L2N.passAt (L2N.takes_of rfl rfl rfl rfl) σ) (pa_cons (pv 0) (pa_cons (pe_callB (lenK (K := K)) (by rfl) T.f_len boot_len (pa_cons (pv 5) pa_nil)) pa_nil))) (fun _ _ => rfl)))
        (pss_cons (ps_asg (pe_ix (ixK (K := K)) (pe_lst (pa_cons (pe_callB (lenK (K := K)) (by rfl) T.f_len boot_len (pa_cons (pv 5) pa_nil)) (pa_cons (pe_un un_neg pe_int) (pa_cons (pe_op (plusK (K := K)) (pe_callB (lenK (K := K)) (by rfl) T.f_len boot_len (pa_cons (pv 5) pa_nil)) (pe_cal c__law_pick hr (by omega) (fun σ => L2N.passAt (L2N.takes_of rfl rfl rfl rfl) σ) (pa_cons (pv 0) (pa_cons (pe_op op_pow pe_int pe_int) pa_nil)))) pa_nil)))) (pe_cal c__law_pick hr (by omega) (fun σ => L2N.passAt (L2N.takes_of rfl rfl rfl rfl) σ) (pa_cons (pv 0) (pa_cons pe_int pa_nil))) (fun _ _ => rfl)) (pg_sub (pv 6) (pe_cal c__law_pick hr (by omega) (fun σ => L2N.passAt (L2N.takes_of rfl rfl rfl rfl) σ) (pa_cons (pv 0) (pa_cons (pv 2) pa_nil))) set_list))
        (pss_cons (ps_set (i := 7) nd rfl (Or.inl rfl) (pe_op (plusK (K := K)) (pe_op (plusK (K := K)) (pe_op op_pow pe_int pe_int) pe_int) (pe_cal c__law_pick hr (by omega) (fun σ => L2N.passAt (L2N.takes_of rfl rfl rfl rfl) σ) (pa_cons (pv 0) (pa_cons pe_int pa_nil)))))
        (pss_cons (ps_set (i := 8) nd rfl (Or.inl rfl) (pe_op op_timesB (pe_lst (pa_cons pe_int pa_nil)) (pv 2)))
        (pss_cons (ps_set (i := 9) nd rfl (Or.inl rfl) (pe_op op_timesB (pe_lst (pa_cons pe_int pa_nil)) (pv 2)))
        (pss_cons (ps_set (i := 10) nd rfl (Or.inl rfl) (pe_lst (pa_cons (pe_lst (pa_cons pe_int (pa_cons (pv 4) (pa_cons pe_int (pa_cons (pe_op op_timesB (pe_lst (pa_cons (pv 7) pa_nil)) pe_int) (pa_cons (pe_tup (pa_cons pe_str (pa_cons pe_str pa_nil))) pa_nil)))))) (pa_cons (pe_lst (pa_cons pe_int (pa_cons (pe_op op_timesB (pe_lst (pa_cons (pe_op op_timesB (pe_lst (pa_cons pe_int pa_nil)) (pv 2)) pa_nil)) pe_int) (pa_cons (pv 2) (pa_cons (pe_op op_timesB (pe_lst (pa_cons (pv 7) pa_nil)) pe_int) (pa_cons (pe_tup (pa_cons pe_str (pa_cons pe_str pa_nil))) pa_nil)))))) (pa_cons (pe_lst (pa_cons pe_int (pa_cons (pv 4) (pa_cons (pv 2) (pa_cons (pe_op op_timesB (pe_lst (pa_cons (pv 7) pa_nil)) pe_int) (pa_cons (pe_tup (pa_cons pe_str (pa_cons pe_str pa_nil))) pa_nil)))))) (pa_cons (pe_lst (pa_cons pe_int (pa_cons (pv 4) (pa_cons (pv 2) (pa_cons (pe_op (plusK (K := K)) (pv 3) (pe_lst (pa_cons (pv 7) pa_nil))) (pa_cons (pe_tup (pa_cons pe_str (pa_cons pe_str pa_nil))) pa_nil)))))) (pa_cons (pe_lst (pa_cons pe_int (pa_cons (pv 4) (pa_cons (pv 2) (pa_cons (pv 3) (pa_cons (pe_tup (pa_cons pe_str (pa_cons pe_str pa_nil))) pa_nil)))))) (pa_cons (pe_lst (pa_cons pe_int (pa_cons (pv 5) (pa_cons (pv 2) (pa_cons (pv 3) (pa_cons (pe_tup (pa_cons pe_str (pa_cons pe_str pa_nil))) pa_nil)))))) (pa_cons (pe_lst (pa_cons pe_int (pa_cons (pe_lst pa_nil) (pa_cons (pv 2) (pa_cons (pv 3) (pa_cons (pe_tup (pa_cons pe_str (pa_cons pe_str pa_nil))) pa_nil)))))) (pa_cons (pe_lst (pa_cons pe_int (pa_cons (pv 1) (pa_cons (pe_op op_sub pe_int (pe_cal c__law_pick hr (by omega) (fun σ => L2N.passAt (L2N.takes_of rfl rfl rfl rfl) σ) (pa_cons (pv 0) (pa_cons pe_int pa_nil)))) (pa_cons (pv 3) (pa_cons (pe_tup (pa_cons pe_str (pa_cons pe_str pa_nil))) pa_nil)))))) (pa_cons (pe_lst (pa_cons pe_int (pa_cons (pe_op op_timesB (pe_lst (pa_cons pe_int pa_nil)) pe_int) (pa_cons (pe_lst (pa_cons (pv 7) pa_nil)) (pa_cons (pe_lst pa_nil) (pa_cons (pe_tup (pa_cons pe_str (pa_cons pe_str pa_nil))) pa_nil)))))) (pa_cons (pe_lst (pa_cons pe_int (pa_cons (pe_lst pa_nil) (pa_cons (pe_lst (pa_cons pe_int pa_nil)) (pa_cons (pe_op op_timesB (pe_lst (pa_cons pe_int pa_nil)) pe_int) (pa_cons (pe_tup (pa_cons pe_str (pa_cons pe_str pa_nil))) pa_nil)))))) (pa_cons (pe_lst (pa_cons pe_int (pa_cons (pv 9) (pa_cons (pe_lst (pa_cons (pv 7) pa_nil)) (pa_cons (pe_op op_timesB (pe_lst (pa_cons pe_int pa_nil)) pe_int) (pa_cons (pe_tup (pa_cons pe_str (pa_cons pe_str pa_nil))) pa_nil)))))) (pa_cons (pe_lst (pa_cons pe_int (pa_cons (pv 9) (pa_cons (pv 3) (pa_cons (pe_op (plusK (K := K)) (pv 3) (pe_lst (pa_cons (pv 7) pa_nil))) (pa_cons (pe_tup (pa_cons pe_str (pa_cons pe_str pa_nil))) pa_nil)))))) (pa_cons (pe_lst (pa_cons pe_int (pa_cons (pe_lst pa_nil) (pa_cons (pv 3) (pa_cons (pv 3) (pa_cons (pe_tup (pa_cons pe_str (pa_cons pe_str pa_nil))) pa_nil)))))) (pa_cons (pe_lst (pa_cons pe_int (pa_cons (pe_op (plusK (K := K)) (pe_slice (slK (K := K)) (pv 9) po_none (po_some (pe_un un_neg pe_int))) (pe_lst (pa_cons (pe_op op_sub pe_int (pe_cal c__law_pick hr (by omega) (fun σ => L2N.passAt (L2N.takes_of rfl rfl rfl rfl) σ) (pa_cons (pv 0) (pa_cons pe_int pa_nil)))) pa_nil))) (pa_cons (pv 3) (pa_cons (pe_lst pa_nil) (pa_cons (pe_tup (pa_cons pe_str (pa_cons pe_str pa_nil))) pa_nil)))))) (pa_cons (pe_lst (pa_cons pe_int (pa_cons (pv 4) (pa_cons (pe_un un_neg pe_int) (pa_cons (pe_op op_timesB (pe_lst (pa_cons (pv 7) pa_nil)) pe_int) (pa_cons (pe_tup (pa_cons pe_str (pa_cons pe_str pa_nil))) pa_nil)))))) (pa_cons (pe_lst (pa_cons pe_int (pa_cons (pe_op op_timesB (pe_lst (pa_cons (pe_op op_timesB (pe_lst (pa_cons pe_int pa_nil)) (pv 2)) pa_nil)) pe_int) (pa_cons pe_int (pa_cons (pe_op op_timesB (pe_lst (pa_cons (pv 7) pa_nil)) (pv 2)) (pa_cons (pe_tup (pa_cons pe_str (pa_cons pe_str pa_nil))) pa_nil)))))) (pa_cons (pe_lst (pa_cons pe_int (pa_cons (pv 4) (pa_cons (pe_un un_neg pe_int) (pa_cons (pe_op (plusK (K := K)) (pe_op op_timesB (pe_lst (pa_cons (pe_un un_neg pe_int) pa_nil)) (pe_op op_sub (pv 2) pe_int)) (pe_lst (pa_cons (pv 7) pa_nil))) (pa_cons (pe_tup (pa_cons pe_str (pa_cons pe_str pa_nil))) pa_nil)))))) (pa_cons (pe_lst (pa_cons pe_int (pa_cons (pv 5) (pa_cons pe_int (pa_cons (pe_op op_timesB (pe_lst (pa_cons (pe_un un_neg pe_int) pa_nil)) (pv 2)) (pa_cons (pe_tup (pa_cons pe_str (pa_cons pe_str pa_nil))) pa_nil)))))) (pa_cons (pe_lst (pa_cons pe_int (pa_cons (pv 4) (pa_cons (pe_un un_neg pe_int) (pa_cons (pv 8) (pa_cons (pe_tup (pa_cons pe_str (pa_cons pe_str pa_nil))) pa_nil)))))) (pa_cons (pe_lst (pa_cons pe_int (pa_cons (pv 5) (pa_cons pe_int (pa_cons (pv 8) (pa_cons (pe_tup (pa_cons pe_str (pa_cons pe_str pa_nil))) pa_nil)))))) (pa_cons (pe_lst (pa_cons pe_int (pa_cons (pv 1) (pa_cons pe_int (pa_cons (pe_lst pa_nil) (pa_cons (pe_tup (pa_cons pe_str (pa_cons pe_str pa_nil))) pa_nil)))))) (pa_cons (pe_lst (pa_cons pe_int (pa_cons (pv 1) (pa_cons (pe_op (plusK (K := K)) (pe_callB (lenK (K := K)) (by rfl) T.f_len boot_len (pa_cons (pv 1) pa_nil)) (pe_cal c__law_pick hr (by omega) (fun σ => L2N.passAt (L2N.takes_of rfl rfl rfl rfl) σ) (pa_cons (pv 0) (pa_cons pe_int pa_nil)))) (pa_cons (pv 8) (pa_cons (pe_tup (pa_cons pe_str (pa_cons pe_str pa_nil))) pa_nil)))))) (pa_cons (pe_lst (pa_cons pe_int (pa_cons (pv 1) (pa_cons (pe_un un_neg pe_int) (pa_cons (pv 8) (pa_cons (pe_tup (pa_cons pe_str (pa_cons pe_str pa_nil))) pa_nil)))))) (pa_cons (pe_lst (pa_cons pe_int (pa_cons (pe_lst pa_nil) (pa_cons pe_int (pa_cons (pv 8) (pa_cons (pe_tup (pa_cons pe_str (pa_cons pe_str pa_nil))) pa_nil)))))) pa_nil))))))))))))))))))))))))))
        (pss_cons (ps_for (passes_of rfl) rfl (pi_range1 (by rfl) T.f_range (pa_cons pe_int pa_nil)) (pg_name (i := 11) nd rfl (Or.inl rfl)) (pss_cons (ps_asg (pe_ix (ixK (K := K)) (pv 10) (pe_cal c__law_pick hr (by omega) (fun σ => L2N.passAt (L2N.takes_of rfl rfl rfl rfl) σ) (pa_cons (pv 0) (pa_cons (pe_callB (lenK (K := K)) (by rfl) T.f_len boot_len (pa_cons (pv 10) pa_nil)) pa_nil))) (fun _ _ => rfl)) (pgL (K := K) (pg_lst rfl (pgs_cons (pg_name (i := 12) nd rfl (Or.inl rfl)) (pgs_cons (pg_name (i := 13) nd rfl (Or.inl rfl)) (pgs_cons (pg_name (i := 14) nd rfl (Or.inl rfl)) (pgs_cons (pg_name (i := 15) nd rfl (Or.inl rfl)) (pgs_cons (pg_name (i := 16) nd rfl (Or.inl rfl)) pgs_nil))))))))
        (pss_one (ps_if (pt_not (pt_val (pe_cal c__law_same hr (by omega) (fun σ => L2N.passAt (L2N.takes_of rfl rfl rfl rfl) σ) (pa_cons (pe_cal c__law_f_asked hr (by omega) (fun σ => L2N.passAt (L2N.takes_of rfl rfl rfl rfl) σ) (pa_cons (pv 12) (pa_cons (pv 13) (pa_cons (pv 14) (pa_cons (pv 15) pa_nil))))) (pa_cons (pv 16) pa_nil))))) (pss_one (ps_ret pe_bl)) pss_nil))))
        (pss_one (ps_ret pe_bl))))))))))))), ?_⟩
  walk_at "st"
  intro tr H1 htr e1 h1
  walk_at "st"
  have s1 := sp.ext e1
  have hts1 := nw_ext hts e1
  have trp : tr ≠ p := (src_ne sp htr).symm
  refine ⟨.ref ts, tbD st, rfl, hts1.dp _, small, fun y H2 e2 n2 => ?_⟩
  obtain ⟨to, as, rfl, G⟩ := n2.grid
  have s2 := s1.ext e2
  walk_at "st"
  intro l3 H3 hl3 e3 h3
  walk_at "st"
  refine r_repL h3 (by omega) (by omega) (by simp; omega) (fun l4 H4 hl4 e4 h4 => ?_)
  have e34 := e3.trans e4
  have s4 := s2.ext e34
  walk_at "st"
  refine r_lenL (sqL (e34 _ _ G.at_)) (n := st.length) (by rw [List.length_map, G.len]) ?_
  walk_at "st"
  refine ⟨p, _, rfl, s4, by omega, Int.lt_of_lt_of_le (b := 13) (by omega) (by decide), fun r H5 r0 r1 s5 n5 => ?_⟩
  have none1 : ∀ a, H1 a = none → a ≠ p := fun a h => (src_ne s1 h).symm
  have e24 := e2.trans e34
  have top : to ≠ p := none1 _ G.top
  have l4p : l4 ≠ p := (src_ne (s2.ext e3) hl4).symm
  walk_at "st"
  refine r_setL (j := r.toNat) ((n5 _ top).trans (e34 _ _ G.at_)) (by omega) (by rw [List.length_map, G.len]; omega) (fun H6 h6 n6 => ?_)
  have pto : p ≠ to := top.symm
  have s6 : Src H6 p := s5.stay (.of n6) pto
  have none2 : H2 l4 = none := e3.none hl4
  have none4 : H1 l4 = none := e2.none none2
  rw [show (((m : Int) + 1).toNat) = m + 1 by omega, rep_ints] at h4
  have l4to : l4 ≠ to := fun e => by rw [e, G.at_] at none2; cases none2
  have GO : Grid (fun a => H1 a = none) H6 to (as.set r.toNat l4) (st.set r.toNat (List.replicate (m + 1) 0)) := G.setTop (by omega) (fun b o sb bt hb => (n6 b bt).trans ((n5 b (none1 b sb)).trans (e34 _ _ hb))) h6 none4 ((n6 _ l4to).trans ((n5 _ l4p).trans h4))
  have b16 : ∀ a o, H1 a = some o → a ≠ p → H6 a = some o := fun a o h ap => by
    have : a ≠ to := fun e => by rw [e, G.top] at h; cases h
    exact (n6 a this).trans ((n5 a ap).trans (e24 _ _ h))
  have hts6 : TbP p H6 ts st := hts1.keep (fun a o ap h => ⟨b16 a o h ap, ap⟩) _
  have hr6 : LI p H6 tr [3, 1] := ⟨trp, b16 _ _ h1 trp⟩
  have ho6 : TbP p H6 to (st.set r.toNat (List.replicate (m + 1) 0)) := GO.nw.keep (fun a o s h => ⟨h, none1 a s⟩) _
  have OD : OddT (st.set r.toNat (List.replicate (m + 1) 0)) m := by
    refine ⟨by rw [List.length_set]; exact l12, fun e => ?_, List.replicate (m + 1) 0, ?_, by rw [List.length_replicate]; omega⟩
    · have := congrArg List.length e
      rw [List.length_set] at this
      have : st.length = 0 := this
      omega
    · exact List.mem_of_getElem? (List.getElem?_set_self (by omega))
  generalize st.set r.toNat (List.replicate (m + 1) 0) = od at *
  clear GO
  walk_at "st"
  refine ⟨.ref ts, tbD st, rfl, hts6.dp _, small, fun y H7 e7 n7 => ?_⟩
  obtain ⟨tu, au, rfl, G7⟩ := n7.grid
  have s7 := s6.ext e7
  walk_at "st"
  refine r_lenL (sqL G7.at_) (n := st.length) (by rw [List.length_map, G7.len]) ?_
  walk_at "st"
  refine ⟨p, _, rfl, s7, by omega, Int.lt_of_lt_of_le (b := 13) (by omega) (by decide), fun r8 H8 r80 r81 s8 n8 => ?_⟩
  have none6 : ∀ a, H6 a = none → a ≠ p := fun a h => (src_ne s6 h).symm
  have hr8 : r8.toNat < st.length := by omega
  obtain ⟨la, hla, sla, hrla⟩ := G7.row r8.toNat _ (List.getElem?_eq_getElem hr8)
  have tup : tu ≠ p := none6 _ G7.top
  have lap : la ≠ p := none6 _ sla
  refine r_atL (sqL ((n8 _ tup).trans G7.at_)) (i := r8) (v := .ref la) ?_ ?_
  · rw [show r8 = ((r8.toNat : Nat) : Int) by omega]
    refine atI_nat ?_
    rw [List.getElem?_map, hla]
    rfl
  walk_at "st"
  refine r_lenL (sqL ((n8 _ tup).trans G7.at_)) (n := st.length) (by rw [List.length_map, G7.len]) ?_
  walk_at "st"
  refine r_lenL (sqL ((n8 _ tup).trans G7.at_)) (n := st.length) (by rw [List.length_map, G7.len]) ?_
  walk_at "st"
  refine ⟨p, _, rfl, s8, by decide, by decide, fun r9 H9 r90 r91 s9 n9 => ?_⟩
  walk_at "st"
  intro l10 H10 hl10 e10 h10
  walk_at "st"
  refine ⟨p, 3, rfl, s9.ext e10, by decide, by decide, fun r11 H11 r110 r111 s11 n11 => ?_⟩
  have s10 := s9.ext e10
  have l10p : l10 ≠ p := (src_ne s9 hl10).symm
  obtain ⟨v, hv, vbad⟩ : ∃ v : Int, atI [V.int (st.length : Nat), V.int (-1), V.int ((st.length : Nat) + r9)] r11 = some (.int v) ∧ ¬ (0 ≤ v ∧ v < st.length) := by
    have h3 : r11 = 0 ∨ r11 = 1 ∨ r11 = 2 := by omega
    rcases h3 with h | h | h <;> subst h
    · exact ⟨_, rfl, by omega⟩
    · exact ⟨_, rfl, by omega⟩
    · exact ⟨_, rfl, by omega⟩
  refine r_atL (sqL (stay n11 l10p h10)) hv ?_
  walk_at "st"
  refine ⟨p, _, rfl, s11, by omega, Int.lt_of_lt_of_le (b := 13) (by omega) (by decide), fun r12 H12 r120 r121 s12 n12 => ?_⟩
  have b712 : ∀ a o, a ≠ p → H7 a = some o → H12 a = some o := fun a o ap h => (n12 a ap).trans ((n11 a ap).trans (e10 _ _ ((n9 a ap).trans ((n8 a ap).trans h))))
  have wr8 := wid _ (List.getElem_mem hr8)
  refine r_setL (j := r12.toNat) (b712 _ _ lap hrla) (by omega) (by rw [List.length_map]; omega) (fun H13 h13 n13 => ?_)
  have nla : ∀ a, a ≠ p → H6 a ≠ none → a ≠ la := fun a _ h e => h (by rw [e]; exact sla)
  have s13 : Src H13 p := s12.stay (.of n13) lap.symm
  have G12 : Grid (fun a => H6 a = none) H12 tu au st := ⟨G7.top, b712 _ _ tup G7.at_, G7.len, fun i row hi => by
    obtain ⟨a, e1, e2, e3⟩ := G7.row i row hi
    exact ⟨a, e1, e2, b712 _ _ (none6 _ e2) e3⟩⟩
  obtain ⟨ou, GU, lou, ino, allo⟩ := G12.setRow (row' := st[r8.toNat].set r12.toNat v) (List.getElem?_eq_getElem hr8) hla n13 (by rw [h13, List.map_set])
  have OU : OutT ou m := by
    refine ⟨by omega, fun row hr => ?_, _, ino, v, List.mem_of_getElem? (List.getElem?_set_self (by omega)), by rw [lou]; exact vbad⟩
    rcases allo row hr with h | h
    · exact wid row h
    · rw [h, List.length_set]; exact wr8
  have b613 : ∀ a o, a ≠ p → H6 a = some o → H13 a = some o := fun a o ap h => (n13 a (nla a ap (by rw [h]; exact fun z => nomatch z))).trans (b712 a o ap (e7 _ _ h))
  have hts13 : TbP p H13 ts st := hts6.keep (fun a o ap h => ⟨b613 a o ap h, ap⟩) _
  have hr13 : LI p H13 tr [3, 1] := ⟨trp, b613 _ _ trp hr6.2⟩
  have ho13 : TbP p H13 to od := ho6.keep (fun a o ap h => ⟨b613 a o ap h, ap⟩) _
  have hu13 : TbP p H13 tu ou := GU.nw.keep (fun a o s h => ⟨h, none6 a s⟩) _
  clear G12 GU G7 G hts6 hr6 ho6 hts1
  walk_at "st"
  refine ⟨p, 9, rfl, s13, by decide, by decide, fun r14 H14 r140 r141 s14 n14 => ?_⟩
  have bt14 : But p H13 H14 := .of n14
  walk_at "st"
  intro l15 H15 hl15 e15 h15
  walk_at "st"
  refine r_repL h15 (by omega) (by omega) (by simp; omega) (fun tc H16 htc e16 h16 => ?_)
  walk_at "st"
  intro l17 H17 hl17 e17 h17
  walk_at "st"
  refine r_repL h17 (by omega) (by omega) (by simp; omega) (fun tq H18 htq e18 h18 => ?_)
  have e1418 := (e15.trans e16).trans (e17.trans e18)
  have bt18 : But p H13 H18 := bt14.ext e1418
  have s18 := s14.ext e1418
  rw [show ((m : Int)).toNat = m by omega, rep_ints] at h16 h18
  have tcp : tc ≠ p := (src_ne (s14.ext e15) htc).symm
  have tqp : tq ≠ p := (src_ne (s14.ext ((e15.trans e16).trans e17)) htq).symm
  have hfar : far < (10 : Int) ^ (30 : Int).toNat + 1 + r14 := by show (10 : Int) ^ (30 : Int).toNat < _; omega
  generalize (10 : Int) ^ (30 : Int).toNat + 1 + r14 = fr at hfar ⊢
  have B : Bs p H18 st od ou m fr ts tr to tu tc tq := ⟨s18, nw_but hts13 bt18, hr13.but bt18, nw_but ho13 bt18, nw_but hu13 bt18, ⟨tcp, (e17.trans e18) _ _ h16⟩, ⟨tqp, h18⟩⟩
  have W : Wrs p H18 [] := fun x h => by cases h
  clear h16 h18 hts13 hr13 ho13 hu13 bt18 s18 e1418 h15 h17 e15 e16 e17 e18 bt14 n14 s14 s13 n13 h13 n12 n11 b712 b613 s12 s11 s10 e10 h10 n9 n8 s9 s8 s7 e7 n6 n5 e4 e3 h4 h3 e24 e34 h6 s6 s5 b16 n7 n2 e2 e1 h1 s1 s2 s4 none6 none1 none2 none4
  clear hl15 htc hl17 htq hl10 l10p hv nla sla hrla hla hl4 hl3 htr
  walk_at "st"
  -- 1
  have bt : But p H18 H18 := .rfl
  intro a1 G1 hn en h1
  have p1 : a1 ≠ p := (src_ne B.s hn).symm
  have sb : But p H18 G1 := ext_but en
  replace B := B.but sb (B.s.ext en)
  clear en hn
  replace bt := bt.trans sb
  clear sb
  walk_at "st"
  refine r_repL h1 (by omega) (by omega) (by first | exact Nat.le_of_ble_eq_true rfl | (simp; omega)) (fun a2 G2 hn en h2 => ?_)
  have p2 : a2 ≠ p := (src_ne B.s hn).symm
  have sb : But p G1 G2 := ext_but en
  replace B := B.but sb (B.s.ext en)
  clear en hn
  replace h1 := sb _ _ p1 h1
  replace bt := bt.trans sb
  clear sb
  walk_at "st"
  intro a3 G3 hn en h3
  have p3 : a3 ≠ p := (src_ne B.s hn).symm
  have sb : But p G2 G3 := ext_but en
  replace B := B.but sb (B.s.ext en)
  clear en hn
  replace h1 := sb _ _ p1 h1
  replace h2 := sb _ _ p2 h2
  replace bt := bt.trans sb
  clear sb
  walk_at "st"
  intro a4 G4 hn en h4
  have p4 : a4 ≠ p := (src_ne B.s hn).symm
  have sb : But p G3 G4 := ext_but en
  replace B := B.but sb (B.s.ext en)
  clear en hn
  replace h1 := sb _ _ p1 h1
  replace h2 := sb _ _ p2 h2
  replace h3 := sb _ _ p3 h3
  replace bt := bt.trans sb
  clear sb
  walk_at "st"
  rw [rep_ints] at h2
  replace W := W.step bt p4 p3 h4 h3 (.run B.ho (lix p2 h2)) (w1 _)
  clear bt
  clear h4 h3 h2 h1 p1 p2 p3 p4
  -- 2
  have bt : But p G4 G4 := .rfl
  intro a5 G5 hn en h5
  have p5 : a5 ≠ p := (src_ne B.s hn).symm
  have sb : But p G4 G5 := ext_but en
  replace B := B.but sb (B.s.ext en)
  clear en hn
  replace bt := bt.trans sb
  clear sb
  walk_at "st"
  refine r_repL h5 (by omega) (by omega) (by first | exact Nat.le_of_ble_eq_true rfl | (simp; omega)) (fun a6 G6 hn en h6 => ?_)
  have p6 : a6 ≠ p := (src_ne B.s hn).symm
  have sb : But p G5 G6 := ext_but en
  replace B := B.but sb (B.s.ext en)
  clear en hn
  replace h5 := sb _ _ p5 h5
  replace bt := bt.trans sb
  clear sb
  walk_at "st"
  intro a7 G7 hn en h7
  have p7 : a7 ≠ p := (src_ne B.s hn).symm
  have sb : But p G6 G7 := ext_but en
  replace B := B.but sb (B.s.ext en)
  clear en hn
  replace h5 := sb _ _ p5 h5
  replace h6 := sb _ _ p6 h6
  replace bt := bt.trans sb
  clear sb
  walk_at "st"
  refine r_repL h7 (by omega) (by omega) (by first | exact Nat.le_of_ble_eq_true rfl | (simp; omega)) (fun a8 G8 hn en h8 => ?_)
  have p8 : a8 ≠ p := (src_ne B.s hn).symm
  have sb : But p G7 G8 := ext_but en
  replace B := B.but sb (B.s.ext en)
  clear en hn
  replace h5 := sb _ _ p5 h5
  replace h6 := sb _ _ p6 h6
  replace h7 := sb _ _ p7 h7
  replace bt := bt.trans sb
  clear sb
  walk_at "st"
  intro a9 G9 hn en h9
  have p9 : a9 ≠ p := (src_ne B.s hn).symm
  have sb : But p G8 G9 := ext_but en
  replace B := B.but sb (B.s.ext en)
  clear en hn
  replace h5 := sb _ _ p5 h5
  replace h6 := sb _ _ p6 h6
  replace h7 := sb _ _ p7 h7
  replace h8 := sb _ _ p8 h8
  replace bt := bt.trans sb
  clear sb
  walk_at "st"
  refine r_repL h9 (by omega) (by omega) (by first | exact Nat.le_of_ble_eq_true rfl | (simp; omega)) (fun a10 G10 hn en h10 => ?_)
  have p10 : a10 ≠ p := (src_ne B.s hn).symm
  have sb : But p G9 G10 := ext_but en
  replace B := B.but sb (B.s.ext en)
  clear en hn
  replace h5 := sb _ _ p5 h5
  replace h6 := sb _ _ p6 h6
  replace h7 := sb _ _ p7 h7
  replace h8 := sb _ _ p8 h8
  replace h9 := sb _ _ p9 h9
  replace bt := bt.trans sb
  clear sb
  walk_at "st"
  intro a11 G11 hn en h11
  have p11 : a11 ≠ p := (src_ne B.s hn).symm
  have sb : But p G10 G11 := ext_but en
  replace B := B.but sb (B.s.ext en)
  clear en hn
  replace h5 := sb _ _ p5 h5
  replace h6 := sb _ _ p6 h6
  replace h7 := sb _ _ p7 h7
  replace h8 := sb _ _ p8 h8
  replace h9 := sb _ _ p9 h9
  replace h10 := sb _ _ p10 h10
  replace bt := bt.trans sb
  clear sb
  walk_at "st"
  intro a12 G12 hn en h12
  have p12 : a12 ≠ p := (src_ne B.s hn).symm
  have sb : But p G11 G12 := ext_but en
  replace B := B.but sb (B.s.ext en)
  clear en hn
  replace h5 := sb _ _ p5 h5
  replace h6 := sb _ _ p6 h6
  replace h7 := sb _ _ p7 h7
  replace h8 := sb _ _ p8 h8
  replace h9 := sb _ _ p9 h9
  replace h10 := sb _ _ p10 h10
  replace h11 := sb _ _ p11 h11
  replace bt := bt.trans sb
  clear sb
  walk_at "st"
  rw [rep_ints] at h6
  rw [rep_ints] at h10
  replace W := W.step bt p12 p11 h12 h11 (.run (tb_rep p8 p6 h8 h6) (lix p10 h10)) (w2 m8 _ _)
  clear bt
  clear h12 h11 h10 h9 h8 h7 h6 h5 p5 p6 p7 p8 p9 p10 p11 p12
  -- 3
  have bt : But p G12 G12 := .rfl
  intro a13 G13 hn en h13
  have p13 : a13 ≠ p := (src_ne B.s hn).symm
  have sb : But p G12 G13 := ext_but en
  replace B := B.but sb (B.s.ext en)
  clear en hn
  replace bt := bt.trans sb
  clear sb
  walk_at "st"
  refine r_repL h13 (by omega) (by omega) (by first | exact Nat.le_of_ble_eq_true rfl | (simp; omega)) (fun a14 G14 hn en h14 => ?_)
  have p14 : a14 ≠ p := (src_ne B.s hn).symm
  have sb : But p G13 G14 := ext_but en
  replace B := B.but sb (B.s.ext en)
  clear en hn
  replace h13 := sb _ _ p13 h13
  replace bt := bt.trans sb
  clear sb
  walk_at "st"
  intro a15 G15 hn en h15
  have p15 : a15 ≠ p := (src_ne B.s hn).symm
  have sb : But p G14 G15 := ext_but en
  replace B := B.but sb (B.s.ext en)
  clear en hn
  replace h13 := sb _ _ p13 h13
  replace h14 := sb _ _ p14 h14
  replace bt := bt.trans sb
  clear sb
  walk_at "st"
  intro a16 G16 hn en h16
  have p16 : a16 ≠ p := (src_ne B.s hn).symm
  have sb : But p G15 G16 := ext_but en
  replace B := B.but sb (B.s.ext en)
  clear en hn
  replace h13 := sb _ _ p13 h13
  replace h14 := sb _ _ p14 h14
  replace h15 := sb _ _ p15 h15
  replace bt := bt.trans sb
  clear sb
  walk_at "st"
  rw [rep_ints] at h14
  replace W := W.step bt p16 p15 h16 h15 (.run B.ho (lix p14 h14)) (w3 m8 OD)
  clear bt
  clear h16 h15 h14 h13 p13 p14 p15 p16
  -- 4
  have bt : But p G16 G16 := .rfl
  intro a17 G17 hn en h17
  have p17 : a17 ≠ p := (src_ne B.s hn).symm
  have sb : But p G16 G17 := ext_but en
  replace B := B.but sb (B.s.ext en)
  clear en hn
  replace bt := bt.trans sb
  clear sb
  walk_at "st"
  refine r_catL B.hr.2 h17 (by show 2 + 1 ≤ 100000; decide) (fun a18 G18 hn en h18 => ?_)
  rw [snoc_ints] at h18
  have p18 : a18 ≠ p := (src_ne B.s hn).symm
  have sb : But p G17 G18 := ext_but en
  replace B := B.but sb (B.s.ext en)
  clear en hn
  replace h17 := sb _ _ p17 h17
  replace bt := bt.trans sb
  clear sb
  walk_at "st"
  intro a19 G19 hn en h19
  have p19 : a19 ≠ p := (src_ne B.s hn).symm
  have sb : But p G18 G19 := ext_but en
  replace B := B.but sb (B.s.ext en)
  clear en hn
  replace h17 := sb _ _ p17 h17
  replace h18 := sb _ _ p18 h18
  replace bt := bt.trans sb
  clear sb
  walk_at "st"
  intro a20 G20 hn en h20
  have p20 : a20 ≠ p := (src_ne B.s hn).symm
  have sb : But p G19 G20 := ext_but en
  replace B := B.but sb (B.s.ext en)
  clear en hn
  replace h17 := sb _ _ p17 h17
  replace h18 := sb _ _ p18 h18
  replace h19 := sb _ _ p19 h19
  replace bt := bt.trans sb
  clear sb
  walk_at "st"
  replace W := W.step bt p20 p19 h20 h19 (.run B.ho (lix p18 h18)) (w4 m8 OD hfar)
  clear bt
  clear h20 h19 h18 h17 p17 p18 p19 p20
  -- 5
  have bt : But p G20 G20 := .rfl
  intro a21 G21 hn en h21
  have p21 : a21 ≠ p := (src_ne B.s hn).symm
  have sb : But p G20 G21 := ext_but en
  replace B := B.but sb (B.s.ext en)
  clear en hn
  replace bt := bt.trans sb
  clear sb
  walk_at "st"
  intro a22 G22 hn en h22
  have p22 : a22 ≠ p := (src_ne B.s hn).symm
  have sb : But p G21 G22 := ext_but en
  replace B := B.but sb (B.s.ext en)
  clear en hn
  replace h21 := sb _ _ p21 h21
  replace bt := bt.trans sb
  clear sb
  walk_at "st"
  replace W := W.step bt p22 p21 h22 h21 (.run B.ho B.hr) (w5 m8 OD)
  clear bt
  clear h22 h21 p21 p22
  -- 6
  have bt : But p G22 G22 := .rfl
  intro a23 G23 hn en h23
  have p23 : a23 ≠ p := (src_ne B.s hn).symm
  have sb : But p G22 G23 := ext_but en
  replace B := B.but sb (B.s.ext en)
  clear en hn
  replace bt := bt.trans sb
  clear sb
  walk_at "st"
  intro a24 G24 hn en h24
  have p24 : a24 ≠ p := (src_ne B.s hn).symm
  have sb : But p G23 G24 := ext_but en
  replace B := B.but sb (B.s.ext en)
  clear en hn
  replace h23 := sb _ _ p23 h23
  replace bt := bt.trans sb
  clear sb
  walk_at "st"
  replace W := W.step bt p24 p23 h24 h23 (.run B.hu B.hr) (w6 m1 m8 OU)
  clear bt
  clear h24 h23 p23 p24
  -- 7
  have bt : But p G24 G24 := .rfl
  intro a25 G25 hn en h25
  have p25 : a25 ≠ p := (src_ne B.s hn).symm
  have sb : But p G24 G25 := ext_but en
  replace B := B.but sb (B.s.ext en)
  clear en hn
  replace bt := bt.trans sb
  clear sb
  walk_at "st"
  intro a26 G26 hn en h26
  have p26 : a26 ≠ p := (src_ne B.s hn).symm
  have sb : But p G25 G26 := ext_but en
  replace B := B.but sb (B.s.ext en)
  clear en hn
  replace h25 := sb _ _ p25 h25
  replace bt := bt.trans sb
  clear sb
  walk_at "st"
  intro a27 G27 hn en h27
  have p27 : a27 ≠ p := (src_ne B.s hn).symm
  have sb : But p G26 G27 := ext_but en
  replace B := B.but sb (B.s.ext en)
  clear en hn
  replace h25 := sb _ _ p25 h25
  replace h26 := sb _ _ p26 h26
  replace bt := bt.trans sb
  clear sb
  walk_at "st"
  replace W := W.step bt p27 p26 h27 h26 (.run (tb_nil p25 h25) B.hr) (w7 m1 m8)
  clear bt
  clear h27 h26 h25 p25 p26 p27
  -- 8
  have bt : But p G27 G27 := .rfl
  refine ⟨p, 5, rfl, B.s, by decide, by decide, fun r28 G28 r28a r28b sn nn => ?_⟩
  have sb : But p G27 G28 := .of nn
  replace B := B.but sb sn
  clear sn nn
  replace bt := bt.trans sb
  clear sb
  walk_at "st"
  intro a29 G29 hn en h29
  have p29 : a29 ≠ p := (src_ne B.s hn).symm
  have sb : But p G28 G29 := ext_but en
  replace B := B.but sb (B.s.ext en)
  clear en hn
  replace bt := bt.trans sb
  clear sb
  walk_at "st"
  intro a30 G30 hn en h30
  have p30 : a30 ≠ p := (src_ne B.s hn).symm
  have sb : But p G29 G30 := ext_but en
  replace B := B.but sb (B.s.ext en)
  clear en hn
  replace h29 := sb _ _ p29 h29
  replace bt := bt.trans sb
  clear sb
  walk_at "st"
  replace W := W.step bt p30 p29 h30 h29 (.run B.hs B.hr) (w8 l12 (by omega))
  clear bt
  clear h30 h29 p29 p30
  -- 9
  have bt : But p G30 G30 := .rfl
  intro a31 G31 hn en h31
  have p31 : a31 ≠ p := (src_ne B.s hn).symm
  have sb : But p G30 G31 := ext_but en
  replace B := B.but sb (B.s.ext en)
  clear en hn
  replace bt := bt.trans sb
  clear sb
  walk_at "st"
  refine r_repL h31 (by omega) (by omega) (by first | exact Nat.le_of_ble_eq_true rfl | (simp; omega)) (fun a32 G32 hn en h32 => ?_)
  have p32 : a32 ≠ p := (src_ne B.s hn).symm
  have sb : But p G31 G32 := ext_but en
  replace B := B.but sb (B.s.ext en)
  clear en hn
  replace h31 := sb _ _ p31 h31
  replace bt := bt.trans sb
  clear sb
  walk_at "st"
  intro a33 G33 hn en h33
  have p33 : a33 ≠ p := (src_ne B.s hn).symm
  have sb : But p G32 G33 := ext_but en
  replace B := B.but sb (B.s.ext en)
  clear en hn
  replace h31 := sb _ _ p31 h31
  replace h32 := sb _ _ p32 h32
  replace bt := bt.trans sb
  clear sb
  walk_at "st"
  intro a34 G34 hn en h34
  have p34 : a34 ≠ p := (src_ne B.s hn).symm
  have sb : But p G33 G34 := ext_but en
  replace B := B.but sb (B.s.ext en)
  clear en hn
  replace h31 := sb _ _ p31 h31
  replace h32 := sb _ _ p32 h32
  replace h33 := sb _ _ p33 h33
  replace bt := bt.trans sb
  clear sb
  walk_at "st"
  intro a35 G35 hn en h35
  have p35 : a35 ≠ p := (src_ne B.s hn).symm
  have sb : But p G34 G35 := ext_but en
  replace B := B.but sb (B.s.ext en)
  clear en hn
  replace h31 := sb _ _ p31 h31
  replace h32 := sb _ _ p32 h32
  replace h33 := sb _ _ p33 h33
  replace h34 := sb _ _ p34 h34
  replace bt := bt.trans sb
  clear sb
  walk_at "st"
  intro a36 G36 hn en h36
  have p36 : a36 ≠ p := (src_ne B.s hn).symm
  have sb : But p G35 G36 := ext_but en
  replace B := B.but sb (B.s.ext en)
  clear en hn
  replace h31 := sb _ _ p31 h31
  replace h32 := sb _ _ p32 h32
  replace h33 := sb _ _ p33 h33
  replace h34 := sb _ _ p34 h34
  replace h35 := sb _ _ p35 h35
  replace bt := bt.trans sb
  clear sb
  walk_at "st"
  rw [rep_ints] at h32
  replace W := W.step bt p36 p35 h36 h35 (.cnt (lix p32 h32) (li1 p33 h33) (li0 p34 h34)) (w9 _ _)
  clear bt
  clear h36 h35 h34 h33 h32 h31 p31 p32 p33 p34 p35 p36
  -- 10
  have bt : But p G36 G36 := .rfl
  intro a37 G37 hn en h37
  have p37 : a37 ≠ p := (src_ne B.s hn).symm
  have sb : But p G36 G37 := ext_but en
  replace B := B.but sb (B.s.ext en)
  clear en hn
  replace bt := bt.trans sb
  clear sb
  walk_at "st"
  intro a38 G38 hn en h38
  have p38 : a38 ≠ p := (src_ne B.s hn).symm
  have sb : But p G37 G38 := ext_but en
  replace B := B.but sb (B.s.ext en)
  clear en hn
  replace h37 := sb _ _ p37 h37
  replace bt := bt.trans sb
  clear sb
  walk_at "st"
  intro a39 G39 hn en h39
  have p39 : a39 ≠ p := (src_ne B.s hn).symm
  have sb : But p G38 G39 := ext_but en
  replace B := B.but sb (B.s.ext en)
  clear en hn
  replace h37 := sb _ _ p37 h37
  replace h38 := sb _ _ p38 h38
  replace bt := bt.trans sb
  clear sb
  walk_at "st"
  refine r_repL h39 (by omega) (by omega) (by first | exact Nat.le_of_ble_eq_true rfl | (simp; omega)) (fun a40 G40 hn en h40 => ?_)
  have p40 : a40 ≠ p := (src_ne B.s hn).symm
  have sb : But p G39 G40 := ext_but en
  replace B := B.but sb (B.s.ext en)
  clear en hn
  replace h37 := sb _ _ p37 h37
  replace h38 := sb _ _ p38 h38
  replace h39 := sb _ _ p39 h39
  replace bt := bt.trans sb
  clear sb
  walk_at "st"
  intro a41 G41 hn en h41
  have p41 : a41 ≠ p := (src_ne B.s hn).symm
  have sb : But p G40 G41 := ext_but en
  replace B := B.but sb (B.s.ext en)
  clear en hn
  replace h37 := sb _ _ p37 h37
  replace h38 := sb _ _ p38 h38
  replace h39 := sb _ _ p39 h39
  replace h40 := sb _ _ p40 h40
  replace bt := bt.trans sb
  clear sb
  walk_at "st"
  intro a42 G42 hn en h42
  have p42 : a42 ≠ p := (src_ne B.s hn).symm
  have sb : But p G41 G42 := ext_but en
  replace B := B.but sb (B.s.ext en)
  clear en hn
  replace h37 := sb _ _ p37 h37
  replace h38 := sb _ _ p38 h38
  replace h39 := sb _ _ p39 h39
  replace h40 := sb _ _ p40 h40
  replace h41 := sb _ _ p41 h41
  replace bt := bt.trans sb
  clear sb
  walk_at "st"
  rw [rep_ints] at h40
  replace W := W.step bt p42 p41 h42 h41 (.cnt (li0 p37 h37) (li1 p38 h38) (lix p40 h40)) (w10)
  clear bt
  clear h42 h41 h40 h39 h38 h37 p37 p38 p39 p40 p41 p42
  -- 11
  have bt : But p G42 G42 := .rfl
  intro a43 G43 hn en h43
  have p43 : a43 ≠ p := (src_ne B.s hn).symm
  have sb : But p G42 G43 := ext_but en
  replace B := B.but sb (B.s.ext en)
  clear en hn
  replace bt := bt.trans sb
  clear sb
  walk_at "st"
  intro a44 G44 hn en h44
  have p44 : a44 ≠ p := (src_ne B.s hn).symm
  have sb : But p G43 G44 := ext_but en
  replace B := B.but sb (B.s.ext en)
  clear en hn
  replace h43 := sb _ _ p43 h43
  replace bt := bt.trans sb
  clear sb
  walk_at "st"
  refine r_repL h44 (by omega) (by omega) (by first | exact Nat.le_of_ble_eq_true rfl | (simp; omega)) (fun a45 G45 hn en h45 => ?_)
  have p45 : a45 ≠ p := (src_ne B.s hn).symm
  have sb : But p G44 G45 := ext_but en
  replace B := B.but sb (B.s.ext en)
  clear en hn
  replace h43 := sb _ _ p43 h43
  replace h44 := sb _ _ p44 h44
  replace bt := bt.trans sb
  clear sb
  walk_at "st"
  intro a46 G46 hn en h46
  have p46 : a46 ≠ p := (src_ne B.s hn).symm
  have sb : But p G45 G46 := ext_but en
  replace B := B.but sb (B.s.ext en)
  clear en hn
  replace h43 := sb _ _ p43 h43
  replace h44 := sb _ _ p44 h44
  replace h45 := sb _ _ p45 h45
  replace bt := bt.trans sb
  clear sb
  walk_at "st"
  intro a47 G47 hn en h47
  have p47 : a47 ≠ p := (src_ne B.s hn).symm
  have sb : But p G46 G47 := ext_but en
  replace B := B.but sb (B.s.ext en)
  clear en hn
  replace h43 := sb _ _ p43 h43
  replace h44 := sb _ _ p44 h44
  replace h45 := sb _ _ p45 h45
  replace h46 := sb _ _ p46 h46
  replace bt := bt.trans sb
  clear sb
  walk_at "st"
  rw [rep_ints] at h45
  replace W := W.step bt p47 p46 h47 h46 (.cnt B.hq (li1 p43 h43) (lix p45 h45)) (w11 m8 hfar _)
  clear bt
  clear h47 h46 h45 h44 h43 p43 p44 p45 p46 p47
  -- 12
  have bt : But p G47 G47 := .rfl
  intro a48 G48 hn en h48
  have p48 : a48 ≠ p := (src_ne B.s hn).symm
  have sb : But p G47 G48 := ext_but en
  replace B := B.but sb (B.s.ext en)
  clear en hn
  replace bt := bt.trans sb
  clear sb
  walk_at "st"
  refine r_catL B.hr.2 h48 (by show 2 + 1 ≤ 100000; decide) (fun a49 G49 hn en h49 => ?_)
  rw [snoc_ints] at h49
  have p49 : a49 ≠ p := (src_ne B.s hn).symm
  have sb : But p G48 G49 := ext_but en
  replace B := B.but sb (B.s.ext en)
  clear en hn
  replace h48 := sb _ _ p48 h48
  replace bt := bt.trans sb
  clear sb
  walk_at "st"
  intro a50 G50 hn en h50
  have p50 : a50 ≠ p := (src_ne B.s hn).symm
  have sb : But p G49 G50 := ext_but en
  replace B := B.but sb (B.s.ext en)
  clear en hn
  replace h48 := sb _ _ p48 h48
  replace h49 := sb _ _ p49 h49
  replace bt := bt.trans sb
  clear sb
  walk_at "st"
  intro a51 G51 hn en h51
  have p51 : a51 ≠ p := (src_ne B.s hn).symm
  have sb : But p G50 G51 := ext_but en
  replace B := B.but sb (B.s.ext en)
  clear en hn
  replace h48 := sb _ _ p48 h48
  replace h49 := sb _ _ p49 h49
  replace h50 := sb _ _ p50 h50
  replace bt := bt.trans sb
  clear sb
  walk_at "st"
  replace W := W.step bt p51 p50 h51 h50 (.cnt B.hq B.hr (lix p49 h49)) (w12 m8 hfar)
  clear bt
  clear h51 h50 h49 h48 p48 p49 p50 p51
  -- 13
  have bt : But p G51 G51 := .rfl
  intro a52 G52 hn en h52
  have p52 : a52 ≠ p := (src_ne B.s hn).symm
  have sb : But p G51 G52 := ext_but en
  replace B := B.but sb (B.s.ext en)
  clear en hn
  replace bt := bt.trans sb
  clear sb
  walk_at "st"
  intro a53 G53 hn en h53
  have p53 : a53 ≠ p := (src_ne B.s hn).symm
  have sb : But p G52 G53 := ext_but en
  replace B := B.but sb (B.s.ext en)
  clear en hn
  replace h52 := sb _ _ p52 h52
  replace bt := bt.trans sb
  clear sb
  walk_at "st"
  intro a54 G54 hn en h54
  have p54 : a54 ≠ p := (src_ne B.s hn).symm
  have sb : But p G53 G54 := ext_but en
  replace B := B.but sb (B.s.ext en)
  clear en hn
  replace h52 := sb _ _ p52 h52
  replace h53 := sb _ _ p53 h53
  replace bt := bt.trans sb
  clear sb
  walk_at "st"
  replace W := W.step bt p54 p53 h54 h53 (.cnt (li0 p52 h52) B.hr B.hr) (w13)
  clear bt
  clear h54 h53 h52 p52 p53 p54
  -- 14
  have bt : But p G54 G54 := .rfl
  refine r_slL (sqL B.hq.2) (fun a55 G55 hn en h55 => ?_)
  obtain ⟨ms, ems, lms⟩ := cut_last (List.replicate m 2)
  rw [List.length_replicate] at lms
  rw [ems] at h55
  have p55 : a55 ≠ p := (src_ne B.s hn).symm
  have sb : But p G54 G55 := ext_but en
  replace B := B.but sb (B.s.ext en)
  clear en hn
  replace bt := bt.trans sb
  clear sb
  walk_at "st"
  refine ⟨p, 4, rfl, B.s, by decide, by decide, fun r56 G56 r56a r56b sn nn => ?_⟩
  have sb : But p G55 G56 := .of nn
  replace B := B.but sb sn
  clear sn nn
  replace h55 := sb _ _ p55 h55
  replace bt := bt.trans sb
  clear sb
  walk_at "st"
  intro a57 G57 hn en h57
  have p57 : a57 ≠ p := (src_ne B.s hn).symm
  have sb : But p G56 G57 := ext_but en
  replace B := B.but sb (B.s.ext en)
  clear en hn
  replace h55 := sb _ _ p55 h55
  replace bt := bt.trans sb
  clear sb
  walk_at "st"
  refine r_catL h55 h57 (by rw [List.length_map]; show _ + 1 ≤ 100000; omega) (fun a58 G58 hn en h58 => ?_)
  rw [snoc_ints] at h58
  have p58 : a58 ≠ p := (src_ne B.s hn).symm
  have sb : But p G57 G58 := ext_but en
  replace B := B.but sb (B.s.ext en)
  clear en hn
  replace h55 := sb _ _ p55 h55
  replace h57 := sb _ _ p57 h57
  replace bt := bt.trans sb
  clear sb
  walk_at "st"
  intro a59 G59 hn en h59
  have p59 : a59 ≠ p := (src_ne B.s hn).symm
  have sb : But p G58 G59 := ext_but en
  replace B := B.but sb (B.s.ext en)
  clear en hn
  replace h55 := sb _ _ p55 h55
  replace h57 := sb _ _ p57 h57
  replace h58 := sb _ _ p58 h58
  replace bt := bt.trans sb
  clear sb
  walk_at "st"
  intro a60 G60 hn en h60
  have p60 : a60 ≠ p := (src_ne B.s hn).symm
  have sb : But p G59 G60 := ext_but en
  replace B := B.but sb (B.s.ext en)
  clear en hn
  replace h55 := sb _ _ p55 h55
  replace h57 := sb _ _ p57 h57
  replace h58 := sb _ _ p58 h58
  replace h59 := sb _ _ p59 h59
  replace bt := bt.trans sb
  clear sb
  walk_at "st"
  intro a61 G61 hn en h61
  have p61 : a61 ≠ p := (src_ne B.s hn).symm
  have sb : But p G60 G61 := ext_but en
  replace B := B.but sb (B.s.ext en)
  clear en hn
  replace h55 := sb _ _ p55 h55
  replace h57 := sb _ _ p57 h57
  replace h58 := sb _ _ p58 h58
  replace h59 := sb _ _ p59 h59
  replace h60 := sb _ _ p60 h60
  replace bt := bt.trans sb
  clear sb
  walk_at "st"
  replace W := W.step bt p61 p60 h61 h60 (.cnt (lix p58 h58) B.hr (li0 p59 h59)) (w14 (by rw [List.length_append]; show ms.length + 1 ≤ 8; omega) (k := 0 - r56) (by omega) (List.mem_append_right _ (List.mem_singleton.mpr rfl)))
  clear bt
  clear h61 h60 h59 h58 h57 h55 p55 p57 p58 p59 p60 p61
  -- 15
  have bt : But p G61 G61 := .rfl
  intro a62 G62 hn en h62
  have p62 : a62 ≠ p := (src_ne B.s hn).symm
  have sb : But p G61 G62 := ext_but en
  replace B := B.but sb (B.s.ext en)
  clear en hn
  replace bt := bt.trans sb
  clear sb
  walk_at "st"
  refine r_repL h62 (by omega) (by omega) (by first | exact Nat.le_of_ble_eq_true rfl | (simp; omega)) (fun a63 G63 hn en h63 => ?_)
  have p63 : a63 ≠ p := (src_ne B.s hn).symm
  have sb : But p G62 G63 := ext_but en
  replace B := B.but sb (B.s.ext en)
  clear en hn
  replace h62 := sb _ _ p62 h62
  replace bt := bt.trans sb
  clear sb
  walk_at "st"
  intro a64 G64 hn en h64
  have p64 : a64 ≠ p := (src_ne B.s hn).symm
  have sb : But p G63 G64 := ext_but en
  replace B := B.but sb (B.s.ext en)
  clear en hn
  replace h62 := sb _ _ p62 h62
  replace h63 := sb _ _ p63 h63
  replace bt := bt.trans sb
  clear sb
  walk_at "st"
  intro a65 G65 hn en h65
  have p65 : a65 ≠ p := (src_ne B.s hn).symm
  have sb : But p G64 G65 := ext_but en
  replace B := B.but sb (B.s.ext en)
  clear en hn
  replace h62 := sb _ _ p62 h62
  replace h63 := sb _ _ p63 h63
  replace h64 := sb _ _ p64 h64
  replace bt := bt.trans sb
  clear sb
  walk_at "st"
  rw [rep_ints] at h63
  replace W := W.step bt p65 p64 h65 h64 (.act B.ho (lix p63 h63)) (w15 _)
  clear bt
  clear h65 h64 h63 h62 p62 p63 p64 p65
  -- 16
  have bt : But p G65 G65 := .rfl
  intro a66 G66 hn en h66
  have p66 : a66 ≠ p := (src_ne B.s hn).symm
  have sb : But p G65 G66 := ext_but en
  replace B := B.but sb (B.s.ext en)
  clear en hn
  replace bt := bt.trans sb
  clear sb
  walk_at "st"
  refine r_repL h66 (by omega) (by omega) (by first | exact Nat.le_of_ble_eq_true rfl | (simp; omega)) (fun a67 G67 hn en h67 => ?_)
  have p67 : a67 ≠ p := (src_ne B.s hn).symm
  have sb : But p G66 G67 := ext_but en
  replace B := B.but sb (B.s.ext en)
  clear en hn
  replace h66 := sb _ _ p66 h66
  replace bt := bt.trans sb
  clear sb
  walk_at "st"
  intro a68 G68 hn en h68
  have p68 : a68 ≠ p := (src_ne B.s hn).symm
  have sb : But p G67 G68 := ext_but en
  replace B := B.but sb (B.s.ext en)
  clear en hn
  replace h66 := sb _ _ p66 h66
  replace h67 := sb _ _ p67 h67
  replace bt := bt.trans sb
  clear sb
  walk_at "st"
  refine r_repL h68 (by omega) (by omega) (by first | exact Nat.le_of_ble_eq_true rfl | (simp; omega)) (fun a69 G69 hn en h69 => ?_)
  have p69 : a69 ≠ p := (src_ne B.s hn).symm
  have sb : But p G68 G69 := ext_but en
  replace B := B.but sb (B.s.ext en)
  clear en hn
  replace h66 := sb _ _ p66 h66
  replace h67 := sb _ _ p67 h67
  replace h68 := sb _ _ p68 h68
  replace bt := bt.trans sb
  clear sb
  walk_at "st"
  intro a70 G70 hn en h70
  have p70 : a70 ≠ p := (src_ne B.s hn).symm
  have sb : But p G69 G70 := ext_but en
  replace B := B.but sb (B.s.ext en)
  clear en hn
  replace h66 := sb _ _ p66 h66
  replace h67 := sb _ _ p67 h67
  replace h68 := sb _ _ p68 h68
  replace h69 := sb _ _ p69 h69
  replace bt := bt.trans sb
  clear sb
  walk_at "st"
  refine r_repL h70 (by omega) (by omega) (by first | exact Nat.le_of_ble_eq_true rfl | (simp; omega)) (fun a71 G71 hn en h71 => ?_)
  have p71 : a71 ≠ p := (src_ne B.s hn).symm
  have sb : But p G70 G71 := ext_but en
  replace B := B.but sb (B.s.ext en)
  clear en hn
  replace h66 := sb _ _ p66 h66
  replace h67 := sb _ _ p67 h67
  replace h68 := sb _ _ p68 h68
  replace h69 := sb _ _ p69 h69
  replace h70 := sb _ _ p70 h70
  replace bt := bt.trans sb
  clear sb
  walk_at "st"
  intro a72 G72 hn en h72
  have p72 : a72 ≠ p := (src_ne B.s hn).symm
  have sb : But p G71 G72 := ext_but en
  replace B := B.but sb (B.s.ext en)
  clear en hn
  replace h66 := sb _ _ p66 h66
  replace h67 := sb _ _ p67 h67
  replace h68 := sb _ _ p68 h68
  replace h69 := sb _ _ p69 h69
  replace h70 := sb _ _ p70 h70
  replace h71 := sb _ _ p71 h71
  replace bt := bt.trans sb
  clear sb
  walk_at "st"
  intro a73 G73 hn en h73
  have p73 : a73 ≠ p := (src_ne B.s hn).symm
  have sb : But p G72 G73 := ext_but en
  replace B := B.but sb (B.s.ext en)
  clear en hn
  replace h66 := sb _ _ p66 h66
  replace h67 := sb _ _ p67 h67
  replace h68 := sb _ _ p68 h68
  replace h69 := sb _ _ p69 h69
  replace h70 := sb _ _ p70 h70
  replace h71 := sb _ _ p71 h71
  replace h72 := sb _ _ p72 h72
  replace bt := bt.trans sb
  clear sb
  walk_at "st"
  rw [rep_ints] at h67
  rw [rep_ints] at h71
  replace W := W.step bt p73 p72 h73 h72 (.act (tb_rep p69 p67 h69 h67) (lix p71 h71)) (w16 m8 _ _)
  clear bt
  clear h73 h72 h71 h70 h69 h68 h67 h66 p66 p67 p68 p69 p70 p71 p72 p73
  -- 17
  have bt : But p G73 G73 := .rfl
  intro a74 G74 hn en h74
  have p74 : a74 ≠ p := (src_ne B.s hn).symm
  have sb : But p G73 G74 := ext_but en
  replace B := B.but sb (B.s.ext en)
  clear en hn
  replace bt := bt.trans sb
  clear sb
  walk_at "st"
  refine r_repL h74 (by omega) (by omega) (by first | exact Nat.le_of_ble_eq_true rfl | (simp; omega)) (fun a75 G75 hn en h75 => ?_)
  have p75 : a75 ≠ p := (src_ne B.s hn).symm
  have sb : But p G74 G75 := ext_but en
  replace B := B.but sb (B.s.ext en)
  clear en hn
  replace h74 := sb _ _ p74 h74
  replace bt := bt.trans sb
  clear sb
  walk_at "st"
  intro a76 G76 hn en h76
  have p76 : a76 ≠ p := (src_ne B.s hn).symm
  have sb : But p G75 G76 := ext_but en
  replace B := B.but sb (B.s.ext en)
  clear en hn
  replace h74 := sb _ _ p74 h74
  replace h75 := sb _ _ p75 h75
  replace bt := bt.trans sb
  clear sb
  walk_at "st"
  refine r_catL h75 h76 (by rw [rep_ints, List.length_map, List.length_replicate]; show _ + 1 ≤ 100000; omega) (fun a77 G77 hn en h77 => ?_)
  rw [rep_ints, snoc_ints] at h77
  have p77 : a77 ≠ p := (src_ne B.s hn).symm
  have sb : But p G76 G77 := ext_but en
  replace B := B.but sb (B.s.ext en)
  clear en hn
  replace h74 := sb _ _ p74 h74
  replace h75 := sb _ _ p75 h75
  replace h76 := sb _ _ p76 h76
  replace bt := bt.trans sb
  clear sb
  walk_at "st"
  intro a78 G78 hn en h78
  have p78 : a78 ≠ p := (src_ne B.s hn).symm
  have sb : But p G77 G78 := ext_but en
  replace B := B.but sb (B.s.ext en)
  clear en hn
  replace h74 := sb _ _ p74 h74
  replace h75 := sb _ _ p75 h75
  replace h76 := sb _ _ p76 h76
  replace h77 := sb _ _ p77 h77
  replace bt := bt.trans sb
  clear sb
  walk_at "st"
  intro a79 G79 hn en h79
  have p79 : a79 ≠ p := (src_ne B.s hn).symm
  have sb : But p G78 G79 := ext_but en
  replace B := B.but sb (B.s.ext en)
  clear en hn
  replace h74 := sb _ _ p74 h74
  replace h75 := sb _ _ p75 h75
  replace h76 := sb _ _ p76 h76
  replace h77 := sb _ _ p77 h77
  replace h78 := sb _ _ p78 h78
  replace bt := bt.trans sb
  clear sb
  walk_at "st"
  rw [rep_ints] at h75
  replace W := W.step bt p79 p78 h79 h78 (.act B.ho (lix p77 h77)) (w17 OD hfar (by rw [List.length_append, List.length_replicate]; show _ + 1 ≤ 8; omega) (List.mem_append_right _ (List.mem_singleton.mpr rfl)) _)
  clear bt
  clear h79 h78 h77 h76 h75 h74 p74 p75 p76 p77 p78 p79
  -- 18
  have bt : But p G79 G79 := .rfl
  intro a80 G80 hn en h80
  have p80 : a80 ≠ p := (src_ne B.s hn).symm
  have sb : But p G79 G80 := ext_but en
  replace B := B.but sb (B.s.ext en)
  clear en hn
  replace bt := bt.trans sb
  clear sb
  walk_at "st"
  refine r_repL h80 (by omega) (by omega) (by first | exact Nat.le_of_ble_eq_true rfl | (simp; omega)) (fun a81 G81 hn en h81 => ?_)
  have p81 : a81 ≠ p := (src_ne B.s hn).symm
  have sb : But p G80 G81 := ext_but en
  replace B := B.but sb (B.s.ext en)
  clear en hn
  replace h80 := sb _ _ p80 h80
  replace bt := bt.trans sb
  clear sb
  walk_at "st"
  intro a82 G82 hn en h82
  have p82 : a82 ≠ p := (src_ne B.s hn).symm
  have sb : But p G81 G82 := ext_but en
  replace B := B.but sb (B.s.ext en)
  clear en hn
  replace h80 := sb _ _ p80 h80
  replace h81 := sb _ _ p81 h81
  replace bt := bt.trans sb
  clear sb
  walk_at "st"
  intro a83 G83 hn en h83
  have p83 : a83 ≠ p := (src_ne B.s hn).symm
  have sb : But p G82 G83 := ext_but en
  replace B := B.but sb (B.s.ext en)
  clear en hn
  replace h80 := sb _ _ p80 h80
  replace h81 := sb _ _ p81 h81
  replace h82 := sb _ _ p82 h82
  replace bt := bt.trans sb
  clear sb
  walk_at "st"
  rw [rep_ints] at h81
  replace W := W.step bt p83 p82 h83 h82 (.act B.hu (lix p81 h81)) (w18 m1 m8 OU _)
  clear bt
  clear h83 h82 h81 h80 p80 p81 p82 p83
  -- 19
  have bt : But p G83 G83 := .rfl
  intro a84 G84 hn en h84
  have p84 : a84 ≠ p := (src_ne B.s hn).symm
  have sb : But p G83 G84 := ext_but en
  replace B := B.but sb (B.s.ext en)
  clear en hn
  replace bt := bt.trans sb
  clear sb
  walk_at "st"
  intro a85 G85 hn en h85
  have p85 : a85 ≠ p := (src_ne B.s hn).symm
  have sb : But p G84 G85 := ext_but en
  replace B := B.but sb (B.s.ext en)
  clear en hn
  replace h84 := sb _ _ p84 h84
  replace bt := bt.trans sb
  clear sb
  walk_at "st"
  replace W := W.step bt p85 p84 h85 h84 (.act B.ho B.hc) (w19 m1 m8 OD _)
  clear bt
  clear h85 h84 p84 p85
  -- 20
  have bt : But p G85 G85 := .rfl
  intro a86 G86 hn en h86
  have p86 : a86 ≠ p := (src_ne B.s hn).symm
  have sb : But p G85 G86 := ext_but en
  replace B := B.but sb (B.s.ext en)
  clear en hn
  replace bt := bt.trans sb
  clear sb
  walk_at "st"
  intro a87 G87 hn en h87
  have p87 : a87 ≠ p := (src_ne B.s hn).symm
  have sb : But p G86 G87 := ext_but en
  replace B := B.but sb (B.s.ext en)
  clear en hn
  replace h86 := sb _ _ p86 h86
  replace bt := bt.trans sb
  clear sb
  walk_at "st"
  replace W := W.step bt p87 p86 h87 h86 (.act B.hu B.hc) (w20 m1 m8 OU _)
  clear bt
  clear h87 h86 p86 p87
  -- 21
  have bt : But p G87 G87 := .rfl
  intro a88 G88 hn en h88
  have p88 : a88 ≠ p := (src_ne B.s hn).symm
  have sb : But p G87 G88 := ext_but en
  replace B := B.but sb (B.s.ext en)
  clear en hn
  replace bt := bt.trans sb
  clear sb
  walk_at "st"
  intro a89 G89 hn en h89
  have p89 : a89 ≠ p := (src_ne B.s hn).symm
  have sb : But p G88 G89 := ext_but en
  replace B := B.but sb (B.s.ext en)
  clear en hn
  replace h88 := sb _ _ p88 h88
  replace bt := bt.trans sb
  clear sb
  walk_at "st"
  intro a90 G90 hn en h90
  have p90 : a90 ≠ p := (src_ne B.s hn).symm
  have sb : But p G89 G90 := ext_but en
  replace B := B.but sb (B.s.ext en)
  clear en hn
  replace h88 := sb _ _ p88 h88
  replace h89 := sb _ _ p89 h89
  replace bt := bt.trans sb
  clear sb
  walk_at "st"
  replace W := W.step bt p90 p89 h90 h89 (.act B.hs (li0 p88 h88)) (w21 l12 _)
  clear bt
  clear h90 h89 h88 p88 p89 p90
  -- 22
  have bt : But p G90 G90 := .rfl
  obtain ⟨tz, az, ez, gz⟩ := B.hs.grid
  cases ez
  refine r_lenL (sqL gz.at_) (n := st.length) (by rw [List.length_map, gz.len]) ?_
  walk_at "st"
  refine ⟨p, 9, rfl, B.s, by decide, by decide, fun r91 G91 r91a r91b sn nn => ?_⟩
  have sb : But p G90 G91 := .of nn
  replace B := B.but sb sn
  clear sn nn
  replace bt := bt.trans sb
  clear sb
  walk_at "st"
  intro a92 G92 hn en h92
  have p92 : a92 ≠ p := (src_ne B.s hn).symm
  have sb : But p G91 G92 := ext_but en
  replace B := B.but sb (B.s.ext en)
  clear en hn
  replace bt := bt.trans sb
  clear sb
  walk_at "st"
  intro a93 G93 hn en h93
  have p93 : a93 ≠ p := (src_ne B.s hn).symm
  have sb : But p G92 G93 := ext_but en
  replace B := B.but sb (B.s.ext en)
  clear en hn
  replace h92 := sb _ _ p92 h92
  replace bt := bt.trans sb
  clear sb
  walk_at "st"
  replace W := W.step bt p93 p92 h93 h92 (.act B.hs B.hc) (w22 m8 g l12 (by omega))
  clear bt
  clear h93 h92 p92 p93
  -- 23
  have bt : But p G93 G93 := .rfl
  intro a94 G94 hn en h94
  have p94 : a94 ≠ p := (src_ne B.s hn).symm
  have sb : But p G93 G94 := ext_but en
  replace B := B.but sb (B.s.ext en)
  clear en hn
  replace bt := bt.trans sb
  clear sb
  walk_at "st"
  intro a95 G95 hn en h95
  have p95 : a95 ≠ p := (src_ne B.s hn).symm
  have sb : But p G94 G95 := ext_but en
  replace B := B.but sb (B.s.ext en)
  clear en hn
  replace h94 := sb _ _ p94 h94
  replace bt := bt.trans sb
  clear sb
  walk_at "st"
  replace W := W.step bt p95 p94 h95 h94 (.act B.hs B.hc) (w22 m8 g l12 (by omega))
  clear bt
  clear h95 h94 p94 p95
  -- 24
  have bt : But p G95 G95 := .rfl
  intro a96 G96 hn en h96
  have p96 : a96 ≠ p := (src_ne B.s hn).symm
  have sb : But p G95 G96 := ext_but en
  replace B := B.but sb (B.s.ext en)
  clear en hn
  replace bt := bt.trans sb
  clear sb
  walk_at "st"
  intro a97 G97 hn en h97
  have p97 : a97 ≠ p := (src_ne B.s hn).symm
  have sb : But p G96 G97 := ext_but en
  replace B := B.but sb (B.s.ext en)
  clear en hn
  replace h96 := sb _ _ p96 h96
  replace bt := bt.trans sb
  clear sb
  walk_at "st"
  intro a98 G98 hn en h98
  have p98 : a98 ≠ p := (src_ne B.s hn).symm
  have sb : But p G97 G98 := ext_but en
  replace B := B.but sb (B.s.ext en)
  clear en hn
  replace h96 := sb _ _ p96 h96
  replace h97 := sb _ _ p97 h97
  replace bt := bt.trans sb
  clear sb
  walk_at "st"
  replace W := W.step bt p98 p97 h98 h97 (.act (tb_nil p96 h96) B.hc) (w24 m1 m8 _)
  clear bt
  clear h98 h97 h96 p96 p97 p98

  intro tw Hw hn en hw
  have twp : tw ≠ p := (src_ne B.s hn).symm
  have sw := B.s.ext en
  simp only [List.nil_append, List.cons_append] at W
  replace W : ∃ xs, Hw tw = some (.lst xs) ∧ xs.length = 24 ∧ Wrs p Hw xs := ⟨_, hw, rfl, fun x hx => (W x hx).but (ext_but en)⟩
  clear hw
  obtain ⟨xs, hw, lx, W⟩ := W
  walk_at "st"
  refine forW_range (fun i σ' H' => ∃ v11 v12 v13 v14 v15 v16, σ' = [some (.ref p), some (.ref ts), some (.int m), some (.ref tr), some (.ref to), some (.ref tu), some (.ref la), some (.int fr), some (.ref tc), some (.ref tq), some (.ref tw), v11, v12, v13, v14, v15, v16] ∧ Src H' p ∧ But p Hw H') ⟨none, none, none, none, none, none, rfl, sw, .rfl⟩ ?_ ?_
  · rintro i σ' H1 hi ⟨v11, v12, v13, v14, v15, v16, rfl, s1, b1⟩
    have hw1 := b1 _ _ twp hw
    walk_at "st"
    refine r_lenL (sqL hw1) (n := 24) (by rw [lx]; rfl) ?_
    walk_at "st"
    refine ⟨p, 24, rfl, s1, by decide, by decide, fun r H2 r0 r1 s2 n2 => ?_⟩
    have b2 := b1.trans (.of n2)
    have er : xs[r.toNat]? = some xs[r.toNat] := List.getElem?_eq_getElem (by omega)
    obtain ⟨q, wh, a, b, c, due, C, what, eq, qp, dp, hq, hd, ak⟩ := ((W _ (List.mem_of_getElem? er)).but b2).ex
    refine r_atL (sqL (stay n2 twp hw1)) (i := r) (v := .ref q) (by rw [show r = ((r.toNat : Nat) : Int) by omega]; exact atI_nat (by rw [er, eq])) ?_
    walk_at "st"
    refine r_glst (sqL hq) rfl ?_
    walk_at "st"
    refine ak.sp ?_
    intro q3 H3 e3 h3
    have hd3 := e3 _ _ hd
    walk_at "st"
    refine ⟨.ref q3, .ref due, .tuple [.str C, .str what], rfl, .tup (sqT h3) (.cons (.str _) (.cons (.str _) .nil)), .tup (sqT hd3) (.cons (.str _) (.cons (.str _) .nil)), small_tup (Nat.le_of_ble_eq_true rfl) (fun e he => by
      simp at he
      rcases he with rfl | rfl <;> exact small_str _ _), fun H4 e4 => ?_⟩
    walk_at "st"
    exact ⟨_, _, _, _, _, _, rfl, (s2.ext e3).ext e4, (b2.ext e3).ext e4⟩
  · rintro σ' H1 ⟨v11, v12, v13, v14, v15, v16, rfl, s1, b1⟩
    walk_at "st"
    exact k _

end
end K30
set_option maxRecDepth 100000
set_option maxHeartbeats 4000000
namespace K30
open PySem PySem.Spec PyProof.Rows L2 L3
local macro_rules | `(tactic| walk_at "s1") => `(tactic| first
  | with_reducible refine r_seq ?_
  | with_reducible refine r_asgN ?_
  | with_reducible refine r_ret ?_
  | with_reducible refine r_next ?_
  | ((with_reducible refine' r_var ?hv ?_); (case hv => exact rfl))
  | with_reducible refine r_c ?_
  | with_reducible refine r_op ?_
  | with_reducible refine r_cons ?_
  | with_reducible refine r_nil ?_
  | with_reducible refine r_plusI ?_
  | with_reducible refine r_I0 ?_
  | with_reducible refine r_test ?_
  | with_reducible refine r_bl ?_
  | with_reducible refine r_ifS ?_
  | with_reducible refine r_cb ?_
  | with_reducible refine r_callS ?_
  | with_reducible refine r_and ?_
  | with_reducible refine r_or ?_
  | with_reducible refine r_not ?_
  | with_reducible refine r_B ?_
  | ((with_reducible refine' r_aug ?hv ?_); (case hv => exact rfl))
  | with_reducible refine r_augS ?_
  | with_reducible refine r_ipI ?_
  | with_reducible refine r_asg ?_
  | with_reducible refine r_sub ?_
  | with_reducible refine r_brk ?_
  | with_reducible refine r_isN1 ?_
  | with_reducible refine r_notN1 ?_
  | with_reducible refine r_intI ?_
  | with_reducible refine r_abs ?_
  | with_reducible refine r_min ?_
  | with_reducible refine r_max ?_
  | ((with_reducible refine' r_mod ?hz ?_); (case hz => omega))
  | ((with_reducible refine' r_pow ?hz ?_); (case hz => exact ⟨by decide, by decide, by decide⟩))
  | ((with_reducible refine' r_rg1 ?hz ?_); (case hz => omega))
  | ((with_reducible refine' r_rg2 ?hz ?_); (case hz => omega))
  | ((with_reducible refine' r_newL ?hz ?_); (case hz => exact Nat.le_of_ble_eq_true rfl))
  | ((with_reducible refine' r_newT ?hz ?_); (case hz => exact Nat.le_of_ble_eq_true rfl))
  | with_reducible refine r_for ?_
  | with_reducible refine r_lc ?_
  | with_reducible refine r_iR1 ?_
  | with_reducible refine r_iR2 ?_
  | with_reducible refine r_iL ?_
  | with_reducible refine r_iT ?_
  | with_reducible refine r_gname ?_
  | with_reducible refine r_gcons ?_
  | with_reducible refine r_gnil ?_
  | with_reducible refine r_yes ?_
  | with_reducible refine r_mkO ?_
  | with_reducible refine r_cont ?_
  | with_reducible refine r_drop ?_
  | with_reducible refine r_retN ?_
  | with_reducible refine r_ifC ?_
  | with_reducible refine r_ifI ?_
  | with_reducible refine r_if ?_
  | with_reducible refine r_un ?_
  | with_reducible refine r_neg ?_
  | with_reducible refine r_andV ?_
  | with_reducible refine r_orV ?_
  | with_reducible refine r_notV ?_
  | with_reducible refine r_tup ?_
  | with_reducible refine r_lst ?_
  | with_reducible refine r_bm ?_
  | with_reducible refine r_bm0 ?_
  | with_reducible refine r_sl ?_
  | with_reducible refine r_chain ?_
  | with_reducible refine r_listDn ?_
  | with_reducible refine r_listRg2 ?_
  | with_reducible refine r_revL ?_
  | with_reducible refine r_noPart ?_
  | with_reducible refine r_lenSet ?_
  | with_reducible refine r_part ?_
  | with_reducible refine r_int ?_
  | ((with_reducible refine' r_sameS ?hs ?_); (case hs => exact rfl))
  | ((with_reducible refine' r_otherS ?hs ?_); (case hs => exact rfl))
  | with_reducible refine ite_t ?_
  | with_reducible refine ite_f ?_
  | with_reducible refine ite_nt ?_
  | with_reducible refine ite_nf ?_)
local macro_rules | `(tactic| walk_at "st") => `(tactic| repeat (walk_at "s1"))

section
variable {P : Program} {w : World} {K : PySem.W.Frag} {mg : Str → Option Value} {base : Heap}
/-! ### sums, in plain numbers -/
section
variable {st : List (List Int)} {m : Int}
def actN (st : List (List Int)) (e : Nat → Nat) : Nat → Nat → Nat
  | 0, s => s
  | i + 1, s => itF (stF st i) (e i) (actN st e i s)
theorem sum_com (S : IsSum st m) {a b c : Nat} (ha : (a : Int) < m) (hb : (b : Int) < m) (hc : Reach st m c) : stp st (stp st c a) b = stp st (stp st c b) a := by
  rcases Nat.lt_trichotomy a b with h | h | h
  · exact ((S b hb).com a h c hc).symm
  · rw [h]
  · exact (S a ha).com b h c hc
theorem it_com (S : IsSum st m) {a b : Nat} (ha : (a : Int) < m) (hb : (b : Int) < m) : ∀ (k c : Nat), Reach st m c → itF (stF st a) k (stp st c b) = stp st (itF (stF st a) k c) b
  | 0, c, _ => rfl
  | k + 1, c, hc => by
    show stp st (itF (stF st a) k (stp st c b)) a = stp st (stp st (itF (stF st a) k c) a) b
    rw [it_com S ha hb k c hc, sum_com S hb ha (reach_it ha hc k)]
theorem it_succ' (f : Nat → Nat) : ∀ k s, itF f (k + 1) s = itF f k (f s)
  | 0, s => rfl
  | k + 1, s => by
    show f (itF f (k + 1) s) = f (itF f k (f s))
    rw [it_succ' f k s]
theorem it_it (S : IsSum st m) {a b : Nat} (ha : (a : Int) < m) (hb : (b : Int) < m) (k : Nat) : ∀ (j c : Nat), Reach st m c → itF (stF st a) k (itF (stF st b) j c) = itF (stF st b) j (itF (stF st a) k c)
  | 0, c, _ => rfl
  | j + 1, c, hc => by
    show itF (stF st a) k (stp st (itF (stF st b) j c) b) = stp st (itF (stF st b) j (itF (stF st a) k c)) b
    rw [it_com S ha hb k _ (reach_it hb hc j), it_it S ha hb k j c hc]
theorem ord_all (S : IsSum st m) {a o : Nat} (ha : (a : Int) < m) (h : itF (stF st a) o 0 = 0) {c : Nat} (hc : Reach st m c) : itF (stF st a) o c = c := by
  induction hc with
  | z => exact h
  | s hc hb ih => rw [it_com S ha hb _ _ hc, ih]
theorem it_mod (S : IsSum st m) {a o : Nat} (ha : (a : Int) < m) (h : itF (stF st a) o 0 = 0) (o0 : 0 < o) {c : Nat} (hc : Reach st m c) {x y : Nat} (e : x % o = y % o) : itF (stF st a) x c = itF (stF st a) y c := by
  have key : ∀ k, itF (stF st a) k c = itF (stF st a) (k % o) c := fun k => by
    have := itF_ring (f := stF st a) (s := c) (j := 0) (t := o) (ord_all S ha h hc) o0 k
    rw [Nat.zero_add, Nat.zero_add, Nat.sub_zero] at this
    exact this
  rw [key x, key y, e]
theorem reach_act (e : Nat → Nat) {c : Nat} (hc : Reach st m c) : ∀ i : Nat, (i : Int) ≤ m → Reach st m (actN st e i c)
  | 0, _ => hc
  | i + 1, h => reach_it (by omega) (reach_act e hc i (by omega)) _
theorem act_it (S : IsSum st m) (e : Nat → Nat) {b : Nat} (hb : (b : Int) < m) (j : Nat) {c : Nat} (hc : Reach st m c) : ∀ i : Nat, (i : Int) ≤ m → actN st e i (itF (stF st b) j c) = itF (stF st b) j (actN st e i c)
  | 0, _ => rfl
  | i + 1, h => by
    show itF (stF st i) (e i) (actN st e i (itF (stF st b) j c)) = itF (stF st b) j (itF (stF st i) (e i) (actN st e i c))
    rw [act_it S e hb j hc i (by omega), it_it S (by omega) hb _ _ _ (reach_act e hc i (by omega))]
theorem act_add (S : IsSum st m) (e e' : Nat → Nat) {c : Nat} (hc : Reach st m c) : ∀ i : Nat, (i : Int) ≤ m → actN st e i (actN st e' i c) = actN st (fun a => e' a + e a) i c
  | 0, _ => rfl
  | i + 1, h => by
    show itF (stF st i) (e i) (actN st e i (itF (stF st i) (e' i) (actN st e' i c))) = itF (stF st i) (e' i + e i) (actN st (fun a => e' a + e a) i c)
    rw [act_it S e (by omega) _ (reach_act e' hc i (by omega)) i (by omega), ← itF_add, act_add S e e' hc i (by omega)]
theorem act_one (S : IsSum st m) {b : Nat} {c : Nat} (hc : Reach st m c) (hb : (b : Int) < m) : ∀ i : Nat, (i : Int) ≤ m → actN st (fun a => if a = b then 1 else 0) i c = if b < i then stp st c b else c
  | 0, _ => by rw [if_neg (Nat.not_lt_zero _)]; rfl
  | i + 1, h => by
    show itF (stF st i) (if i = b then 1 else 0) (actN st (fun a => if a = b then 1 else 0) i c) = _
    rw [act_one S hc hb i (by omega)]
    by_cases h1 : i = b
    · rw [if_pos h1, if_neg (by omega), if_pos (by omega), h1]
      rfl
    · rw [if_neg h1]
      show (if b < i then stp st c b else c) = _
      by_cases h2 : b < i
      · rw [if_pos h2, if_pos (by omega)]
      · rw [if_neg h2, if_neg (by omega)]
theorem act_congr {e e' : Nat → Nat} {c : Nat} : ∀ i : Nat, (∀ a, a < i → e a = e' a) → actN st e i c = actN st e' i c
  | 0, _ => rfl
  | i + 1, h => by
    show itF (stF st i) (e i) (actN st e i c) = itF (stF st i) (e' i) (actN st e' i c)
    rw [act_congr i (fun a ha => h a (by omega)), h i (by omega)]
theorem cnt_cons (m : Int) (x : Int) (ns : List Int) (a : Int) : cnt m (x :: ns) a = (if x % m = a then 1 else 0) + cnt m ns a := by
  unfold cnt
  rw [List.map_cons, List.sum_cons]
theorem cnt_nn (m : Int) (a : Int) : ∀ ns : List Int, 0 ≤ cnt m ns a
  | [] => Int.le_refl _
  | x :: ns => by
    have := cnt_nn m a ns
    rw [cnt_cons]
    split <;> omega
theorem cnt_app (m : Int) (xs ys : List Int) (a : Int) : cnt m (xs ++ ys) a = cnt m xs a + cnt m ys a := by
  unfold cnt
  rw [List.map_append, List.sum_append]
theorem run_act (S : IsSum st m) (m0 : 0 < m) : ∀ (ns : List Int) {c : Nat}, Reach st m c → runF st m c ns = actN st (fun a => (cnt m ns a).toNat) m.toNat c
  | [], c, hc => by
    have : ∀ i, actN st (fun a => (cnt m [] a).toNat) i c = c := by
      intro i
      induction i with
      | zero => rfl
      | succ i ih =>
        show itF (stF st i) (cnt m [] i).toNat (actN st (fun a => (cnt m [] a).toNat) i c) = c
        rw [ih]
        rfl
    exact (this _).symm
  | x :: ns, c, hc => by
    have b0 := Int.emod_nonneg x (show m ≠ 0 by omega)
    have b1 := Int.emod_lt_of_pos x m0
    have hb : (((x % m).toNat : Nat) : Int) < m := by omega
    show runF st m (stp st c (x % m).toNat) ns = _
    rw [run_act S m0 ns (.s hc hb)]
    have h1 := act_one S hc hb m.toNat (by omega)
    rw [if_pos (by omega)] at h1
    rw [← h1, act_add S _ _ hc m.toNat (by omega)]
    refine act_congr _ fun a ha => ?_
    have := cnt_nn m a ns
    rw [cnt_cons]
    by_cases c1 : a = (x % m).toNat
    · rw [if_pos c1, if_pos (by omega)]; omega
    · rw [if_neg c1, if_neg (by omega)]; omega
theorem act_mod (S : IsSum st m) {os : List Nat} (O : Ords st m os) {e e' : Nat → Nat} {c : Nat} (hc : Reach st m c) : ∀ i : Nat, (i : Int) ≤ m → (∀ a, a < i → e a % os.getD a 0 = e' a % os.getD a 0) → actN st e i c = actN st e' i c
  | 0, _, _ => rfl
  | i + 1, h, he => by
    show itF (stF st i) (e i) (actN st e i c) = itF (stF st i) (e' i) (actN st e' i c)
    have hl := O.len
    have o := O.ord i (by omega)
    rw [act_mod S O hc i (by omega) (fun a ha => he a (by omega)), it_mod S (by omega) o.ret o.pos (reach_act e' hc i (by omega)) (he i (by omega))]
theorem actF_N (cs : List Int) (c : Nat) : ∀ i, actF st cs i c = actN st (fun a => (cs.getD a 0).toNat) i c
  | 0 => rfl
  | i + 1 => by
    show itF (stF st i) (cs.getD i 0).toNat (actF st cs i c) = itF (stF st i) (cs.getD i 0).toNat (actN st _ i c)
    rw [actF_N cs c i]
def osI (os : List Nat) : List Int := os.map fun (o : Nat) => (o : Int)
theorem osI_at {os : List Nat} {a : Nat} (h : a < os.length) : (osI os).getD a 0 = ((os.getD a 0 : Nat) : Int) := by
  unfold osI
  rw [List.getD_eq_getElem?_getD, List.getElem?_map, getD_at h]
  rfl
theorem lc_at {os out put : List Int} {a : Nat} (h : a < os.length) : (lcI os out put).getD a 0 = (cnt os.length put a - cnt os.length out a) % os.getD a 0 := by
  unfold lcI
  rw [List.getD_eq_getElem?_getD, List.getElem?_map, List.getElem?_range h]
  rfl
theorem lc_len (os out put : List Int) : (lcI os out put).length = os.length := by unfold lcI; rw [List.length_map, List.length_range]
/-- the state behind an edit anywhere: of the state and the counts alone -/
theorem plain (S : IsSum st m) (m0 : 0 < m) {os : List Nat} (O : Ords st m os) (pre mid post put : List Int) : actF st (lcI (osI os) mid put) os.length (runF st m 0 (pre ++ mid ++ post)) = runF st m 0 (pre ++ put ++ post) := by
  have hl := O.len
  have hol : (osI os).length = os.length := by unfold osI; rw [List.length_map]
  rw [run_act S m0 _ .z, run_act S m0 _ .z, actF_N, show os.length = m.toNat by omega, act_add S _ _ .z m.toNat (by omega)]
  refine act_mod S O .z _ (by omega) fun a ha => ?_
  rw [lc_at (by omega), osI_at (by omega), hol, hl]
  have o := (O.ord a (by omega)).pos
  have n1 := cnt_nn m a (pre ++ mid ++ post)
  have n2 := cnt_nn m a (pre ++ put ++ post)
  have e0 := Int.emod_nonneg (cnt m put a - cnt m mid a) (show ((os.getD a 0 : Nat) : Int) ≠ 0 by omega)
  refine Int.ofNat.inj ?_
  show (((_ % os.getD a 0 : Nat)) : Int) = ((_ % os.getD a 0 : Nat) : Int)
  rw [Int.natCast_emod, Int.natCast_emod, Int.natCast_add, Int.toNat_of_nonneg n1, Int.toNat_of_nonneg n2, Int.toNat_of_nonneg e0]
  rw [Int.add_emod, Int.emod_emod, ← Int.add_emod, cnt_app, cnt_app, cnt_app, cnt_app]
  congr 1
  omega
end

end
end K30
set_option maxRecDepth 100000
set_option maxHeartbeats 4000000
namespace K30
open PySem PySem.Spec PyProof.Rows L2 L3
local macro_rules | `(tactic| walk_at "s1") => `(tactic| first
  | with_reducible refine r_seq ?_
  | with_reducible refine r_asgN ?_
  | with_reducible refine r_ret ?_
  | with_reducible refine r_next ?_
  | ((with_reducible refine' r_var ?hv ?_); (case hv => exact rfl))
  | with_reducible refine r_c ?_
  | with_reducible refine r_op ?_
  | with_reducible refine r_cons ?_
  | with_reducible refine r_nil ?_
  | with_reducible refine r_plusI ?_
  | with_reducible refine r_I0 ?_
  | with_reducible refine r_test ?_
  | with_reducible refine r_bl ?_
  | with_reducible refine r_ifS ?_
  | with_reducible refine r_cb ?_
  | with_reducible refine r_callS ?_
  | with_reducible refine r_and ?_
  | with_reducible refine r_or ?_
  | with_reducible refine r_not ?_
  | with_reducible refine r_B ?_
  | ((with_reducible refine' r_aug ?hv ?_); (case hv => exact rfl))
  | with_reducible refine r_augS ?_
  | with_reducible refine r_ipI ?_
  | with_reducible refine r_asg ?_
  | with_reducible refine r_sub ?_
  | with_reducible refine r_brk ?_
  | with_reducible refine r_isN1 ?_
  | with_reducible refine r_notN1 ?_
  | with_reducible refine r_intI ?_
  | with_reducible refine r_abs ?_
  | with_reducible refine r_min ?_
  | with_reducible refine r_max ?_
  | ((with_reducible refine' r_mod ?hz ?_); (case hz => omega))
  | ((with_reducible refine' r_pow ?hz ?_); (case hz => exact ⟨by decide, by decide, by decide⟩))
  | ((with_reducible refine' r_rg1 ?hz ?_); (case hz => omega))
  | ((with_reducible refine' r_rg2 ?hz ?_); (case hz => omega))
  | ((with_reducible refine' r_newL ?hz ?_); (case hz => exact Nat.le_of_ble_eq_true rfl))
  | ((with_reducible refine' r_newT ?hz ?_); (case hz => exact Nat.le_of_ble_eq_true rfl))
  | with_reducible refine r_for ?_
  | with_reducible refine r_lc ?_
  | with_reducible refine r_iR1 ?_
  | with_reducible refine r_iR2 ?_
  | with_reducible refine r_iL ?_
  | with_reducible refine r_iT ?_
  | with_reducible refine r_gname ?_
  | with_reducible refine r_gcons ?_
  | with_reducible refine r_gnil ?_
  | with_reducible refine r_yes ?_
  | with_reducible refine r_mkO ?_
  | with_reducible refine r_cont ?_
  | with_reducible refine r_drop ?_
  | with_reducible refine r_retN ?_
  | with_reducible refine r_ifC ?_
  | with_reducible refine r_ifI ?_
  | with_reducible refine r_if ?_
  | with_reducible refine r_un ?_
  | with_reducible refine r_neg ?_
  | with_reducible refine r_andV ?_
  | with_reducible refine r_orV ?_
  | with_reducible refine r_notV ?_
  | with_reducible refine r_tup ?_
  | with_reducible refine r_lst ?_
  | with_reducible refine r_bm ?_
  | with_reducible refine r_bm0 ?_
  | with_reducible refine r_sl ?_
  | with_reducible refine r_chain ?_
  | with_reducible refine r_listDn ?_
  | with_reducible refine r_listRg2 ?_
  | with_reducible refine r_revL ?_
  | with_reducible refine r_noPart ?_
  | with_reducible refine r_lenSet ?_
  | with_reducible refine r_part ?_
  | with_reducible refine r_int ?_
  | ((with_reducible refine' r_sameS ?hs ?_); (case hs => exact rfl))
  | ((with_reducible refine' r_otherS ?hs ?_); (case hs => exact rfl))
  | with_reducible refine ite_t ?_
  | with_reducible refine ite_f ?_
  | with_reducible refine ite_nt ?_
  | with_reducible refine ite_nf ?_)
local macro_rules | `(tactic| walk_at "st") => `(tactic| repeat (walk_at "s1"))

section
variable {P : Program} {w : World} {K : PySem.W.Frag} {mg : Str → Option Value} {base : Heap}
/-! ### the law -/
theorem cnt_good {os out put : List Int} (h1 : os.length ≤ 8) (h2 : out.length ≤ 4000) (h3 : ∀ s ∈ out, s ≤ far) (h4 : put.length ≤ 4000) (h5 : ∀ s ∈ put, s ≤ far) (h6 : os ≠ []) (h7 : ∀ o ∈ os, 1 ≤ o) : cntO os out put = .lst (lcI os out put) := by
  unfold cntO
  rw [if_neg (by omega), if_neg (by omega), if_neg (no_far h3), if_neg (by omega), if_neg (no_far h5), if_neg (fun z => z.elim h6 fun ⟨o, ho, z⟩ => by have := h7 o ho; omega)]
structure TI (p : Addr) (H : Hp) (x : V) : Prop where
  ex : ∃ (q t : Addr) (st : List (List Int)) (m : Nat), x = .ref q ∧ q ≠ p ∧ H q = some (.lst [.ref t, .int m]) ∧ TbP p H t st ∧ GoodSt st m ∧ m ≤ 8 ∧ st.length ≤ 12
theorem TI.but {p : Addr} {H H' : Hp} {x : V} (h : TI p H x) (b : But p H H') : TI p H' x := by
  obtain ⟨q, t, st, m, e, h1, h2, h3, h4⟩ := h
  exact ⟨q, t, st, m, e, h1, b _ _ h1 h2, nw_but h3 b, h4⟩
structure SI (p : Addr) (H : Hp) (x : V) : Prop where
  ex : ∃ (q : Addr) (ns : List Int), x = .ref q ∧ LI p H q ns ∧ ns.length ≤ 30 ∧ ∀ s ∈ ns, 0 ≤ s ∧ s ≤ far
theorem SI.but {p : Addr} {H H' : Hp} {x : V} (h : SI p H x) (b : But p H H') : SI p H' x := by
  obtain ⟨q, ns, e, h1, h2⟩ := h
  exact ⟨q, ns, e, h1.but b, h2⟩
structure LB (p tb sg : Addr) (x0 x1 y0 y1 : V) (H : Hp) : Prop where
  s : Src H p
  tp : tb ≠ p
  sp : sg ≠ p
  ht : H tb = some (.lst [x0, x1])
  hs : H sg = some (.lst [y0, y1])
  i0 : TI p H x0
  i1 : TI p H x1
  j0 : SI p H y0
  j1 : SI p H y1
theorem LB.but {p tb sg : Addr} {x0 x1 y0 y1 : V} {H H' : Hp} (h : LB p tb sg x0 x1 y0 y1 H) (b : But p H H') (s : Src H' p) : LB p tb sg x0 x1 y0 y1 H' :=
  ⟨s, h.tp, h.sp, b _ _ h.tp h.ht, b _ _ h.sp h.hs, h.i0.but b, h.i1.but b, h.j0.but b, h.j1.but b⟩
def toldI (n : Int) : PyData := .tuple [.str "told", .int n]
def toldL (l : List Int) : PyData := .tuple [.str "told", .list (l.map PyData.int)]
theorem toldI_dp {H : Hp} {q : Addr} {n : Int} (h : H q = some (.tup [.str "told", .int n])) : Dp K H (.ref q) (toldI n) := .tup (sqT h) (.cons (.str _) (.cons (.int _) .nil))
theorem toldL_dp {H : Hp} {q a : Addr} {l : List Int} (h : H q = some (.tup [.str "told", .ref a])) (h2 : H a = some (.lst (l.map V.int))) : Dp K H (.ref q) (toldL l) := .tup (sqT h) (.cons (.str _) (.cons (.lst (sqL h2) (dps_ints l)) .nil))
theorem toldI_small (n : Int) : smallD 3 (toldI n) := small_tup (Nat.le_of_ble_eq_true rfl) fun e he => by
  simp at he
  rcases he with rfl | rfl
  · exact small_str _ _
  · exact small_int _ _
theorem toldL_small {l : List Int} (h : l.length ≤ 100000) : smallD 3 (toldL l) := small_tup (Nat.le_of_ble_eq_true rfl) fun e he => by
  simp at he
  rcases he with rfl | rfl
  · exact small_str _ _
  · exact small_ints _ h
/-- rows as tuples, at D -/
structure TupP (H1 : Hp) (D : Addr) (st : List (List Int)) (i : Nat) (H' : Hp) : Prop where
  e : Ext H1 H'
  ex : ∃ (as : List Addr), H' D = some (.lst (as.map V.ref)) ∧ as.length = i ∧ ∀ (j : Nat) (row : List Int), j < i → st[j]? = some row → ∃ a, as[j]? = some a ∧ H' a = some (.tup (row.map V.int))
theorem TupP.push {H1 H2 H3 : Hp} {D a : Addr} {st : List (List Int)} {i : Nat} {row : List Int} (h : TupP H1 D st i H2) (hD : H1 D = none) (hi : i < 1000) (e : Ext H2 H3) (hr : st[i]? = some row) (h3 : H3 a = some (.tup (row.map V.int))) : ∃ acc, H3 D = some (.lst acc) ∧ acc.length < sizeLine ∧ TupP H1 D st (i + 1) (upd H3 D (.lst (acc ++ [.ref a]))) := by
  obtain ⟨e2, as, hD2, la, hrow⟩ := h
  have ne : ∀ b zs, H3 b = some (.tup zs) → b ≠ D := fun b zs h z => by rw [z, e _ _ hD2] at h; cases h
  refine ⟨_, e _ _ hD2, by rw [List.length_map, la, sizeLine_eq]; omega, Ext.mut (e2.trans e) hD, as ++ [a], by rw [upd_same, List.map_append]; rfl, by rw [List.length_append, la]; rfl, fun j r hj hr' => ?_⟩
  by_cases c : j < i
  · obtain ⟨b, hb, eb⟩ := hrow j r c hr'
    exact ⟨b, by rw [List.getElem?_append_left (by omega)]; exact hb, by rw [upd_ne (ne _ _ (e _ _ eb))]; exact e _ _ eb⟩
  · have : j = i := by omega
    subst this
    rw [hr] at hr'
    cases hr'
    exact ⟨a, by rw [List.getElem?_append_right (by omega), show j - as.length = 0 by omega]; rfl, by rw [upd_ne (ne _ _ h3)]; exact h3⟩
theorem TupP.tb {H1 H2 : Hp} {D : Addr} {st : List (List Int)} (h : TupP H1 D st st.length H2) : Tb K H2 D st := by
  obtain ⟨e, as, hD, la, hrow⟩ := h
  refine ⟨as.map V.ref, st.map fun row => .tuple (row.map PyData.int), sqL hD, ?_, by rw [List.length_map], fun i d hd => ?_⟩
  · refine Nws.dp (S := fun _ => True) _ (.of (by rw [List.length_map, List.length_map, la]) fun i x d hx hd => ?_)
    rw [List.getElem?_map] at hx hd
    obtain ⟨b, hb, rfl⟩ := Option.map_eq_some_iff.mp hx
    obtain ⟨row, hr, rfl⟩ := Option.map_eq_some_iff.mp hd
    obtain ⟨a, ha, ea⟩ := hrow i row (List.getElem?_eq_some_iff.mp hr).1 hr
    rw [hb] at ha
    cases ha
    exact .tup trivial ea (nws_ints row)
  · rw [List.getElem?_map] at hd
    obtain ⟨row, hr, rfl⟩ := Option.map_eq_some_iff.mp hd
    exact ⟨row, hr, .inr rfl⟩
def spSum' (K : PySem.W.Frag) : Sp := fun vs H Q _ => ∃ (p : Addr) (st : List (List Int)) (m : Int), vs = [.ref p, .int m] ∧ Tb K H p st ∧ GoodSt st m ∧ m ≤ 1000 ∧ st.length ≤ 1000 ∧ ∀ v H', Ext H H' → (v = .non ∨ ∃ q os, v = .ref q ∧ H q = none ∧ H' q = some (.lst (ntV os)) ∧ IsSum st m ∧ Ords st m os) → Q v H'
theorem sc_law : FnScope ["script", "source", "tables", "signs", "at", "states", "letters", "row", "given", "state", "low", "high", "put", "orders", "counts", "new", "answer", "drawn", "many", "start", "rows", "letter", "one"] ["script"] (defScope s_law) := ⟨rfl, rfl, rfl, by decide +kernel, rfl, by decide +kernel, by decide +kernel⟩
theorem ok_law (T : Txt w K mg) {fd : FuncData} (D : FunD K "law" "law" (defArgs s_law) (defBody s_law) (defScope s_law) [] [] (He.ga K "law") fd) : FnOk P w K mg base (L2N.CX P w) 11 (He.ga K "law") fd ["script"] (spLaw K) := by
  have c__law_source := ok_law_source (P := P) (base := base) T
  have c__law_pick := ok_law_pick (P := P) (base := base) T
  have c__law_same := ok_law_same (P := P) (base := base) T 3
  have c__law_copied := ok_law_copied (P := P) (base := base) T 3
  have c__law_run := ok_law_run (P := P) (base := base) T
  have c__law_sum := (ok_law_sum (P := P) (base := base) T).imp (sp' := spSum' K) fun vs H Q E ⟨p, st, m, e, h1, h2, h3, h4, k⟩ => ⟨p, st, m, e, h1, h2, h3, h4, fun _ H' e' => k _ H' e' (.inl rfl), fun S q H' os hq e' h' O => k _ H' e' (.inr ⟨q, os, rfl, hq, h', S, O⟩)⟩
  have c__law_f_asked := ok_law_f_asked (P := P) (base := base) T
  have c__law_f_acted := ok_law_f_acted (P := P) (base := base) T
  have c__law_f_counted := ok_law_f_counted (P := P) (base := base) T
  have c__law_f_row := ok_law_f_row (P := P) (base := base) T
  have c__law_f_table := ok_law_f_table (P := P) (base := base) T
  have c__law_f_faults := ok_law_f_faults (P := P) (base := base) T
  refine D.ok sc_law (fun vs H Q E h => by obtain ⟨c, ns, rfl, _⟩ := h; rfl) (fun cdv A outer s H vs Q E hr h => ?_)
  have nd := sc_law.nd
  have hu := hu64 hr
  obtain ⟨a0, ns0, rfl, hns, hl, k⟩ := h
  refine ⟨_, (pss_cons (ps_set (i := 1) nd rfl (Or.inr rfl) (pe_cal c__law_source hr (by omega) (fun σ => L2N.passAt (L2N.takes_of rfl rfl rfl rfl) σ) (pa_cons (pv 0) (pa_cons pe_int pa_nil))))
        (pss_cons (ps_set (i := 2) nd rfl (Or.inl rfl) (pe_lst (pa_cons (pe_cal c__law_f_table hr (by omega) (fun σ => L2N.passAt (L2N.takes_of rfl rfl rfl rfl) σ) (pa_cons (pv 1) pa_nil)) (pa_cons (pe_cal c__law_f_table hr (by omega) (fun σ => L2N.passAt (L2N.takes_of rfl rfl rfl rfl) σ) (pa_cons (pv 1) pa_nil)) pa_nil))))
        (pss_cons (ps_set (i := 3) nd rfl (Or.inl rfl) (pe_lst (pa_cons (pe_cal c__law_f_row hr (by omega) (fun σ => L2N.passAt (L2N.takes_of rfl rfl rfl rfl) σ) (pa_cons (pv 1) (pa_cons pe_int pa_nil))) (pa_cons (pe_cal c__law_f_row hr (by omega) (fun σ => L2N.passAt (L2N.takes_of rfl rfl rfl rfl) σ) (pa_cons (pv 1) (pa_cons pe_int pa_nil))) pa_nil))))
        (C8.pss_cut (ps_for (passes_of rfl) rfl (piL (K := K) (pe_lst (pa_cons pe_int (pa_cons pe_int (pa_cons pe_int pa_nil))))) (pg_name (i := 4) nd rfl (Or.inl rfl)) (pss_cons (ps_asg (pe_ix (ixK (K := K)) (pv 2) (pv 4) (fun _ _ => rfl)) (pgL (K := K) (pg_lst rfl (pgs_cons (pg_name (i := 5) nd rfl (Or.inl rfl)) (pgs_cons (pg_name (i := 6) nd rfl (Or.inl rfl)) pgs_nil)))))
        (pss_cons (ps_set (i := 7) nd rfl (Or.inl rfl) (pe_ix (ixK (K := K)) (pv 3) (pv 4) (fun _ _ => rfl)))
        (pss_cons (ps_set (i := 8) nd rfl (Or.inl rfl) (pe_cal c__law_copied hr (by omega) (fun σ => L2N.passAt (L2N.takes_of rfl rfl rfl rfl) σ) (pa_cons (pv 5) pa_nil)))
        (pss_cons (ps_set (i := 9) nd rfl (Or.inl rfl) (pe_cal c__law_run hr (by omega) (fun σ => L2N.passAt (L2N.takes_of rfl rfl rfl rfl) σ) (pa_cons (pv 5) (pa_cons (pv 6) (pa_cons (pv 7) pa_nil)))))
        (pss_cons (ps_if (PW.pt (pw_or (pt_not (pt_val (pe_cal c__law_same hr (by omega) (fun σ => L2N.passAt (L2N.takes_of rfl rfl rfl rfl) σ) (pa_cons (pe_cal c__law_f_asked hr (by omega) (fun σ => L2N.passAt (L2N.takes_of rfl rfl rfl rfl) σ) (pa_cons pe_int (pa_cons (pv 8) (pa_cons (pv 6) (pa_cons (pe_callTy (listK (K := K)) (by rfl) T.f_list (by decide +kernel) (pa_cons (pv 7) pa_nil)) pa_nil))))) (pa_cons (pe_tup (pa_cons pe_str (pa_cons (pv 9) pa_nil))) pa_nil))))) (pw_or1 (pt_not (pt_val (pe_cal c__law_same hr (by omega) (fun σ => L2N.passAt (L2N.takes_of rfl rfl rfl rfl) σ) (pa_cons (pv 8) (pa_cons (pv 5) pa_nil)))))))) (pss_one (ps_ret pe_bl)) pss_nil)
        (pss_cons (ps_set (i := 10) nd rfl (Or.inl rfl) (pe_cal c__law_pick hr (by omega) (fun σ => L2N.passAt (L2N.takes_of rfl rfl rfl rfl) σ) (pa_cons (pv 1) (pa_cons (pe_op (plusK (K := K)) (pe_callB (lenK (K := K)) (by rfl) T.f_len boot_len (pa_cons (pv 7) pa_nil)) pe_int) pa_nil))))
        (pss_cons (ps_set (i := 11) nd rfl (Or.inl rfl) (pe_op (plusK (K := K)) (pv 10) (pe_cal c__law_pick hr (by omega) (fun σ => L2N.passAt (L2N.takes_of rfl rfl rfl rfl) σ) (pa_cons (pv 1) (pa_cons (pe_op (plusK (K := K)) (pe_op op_sub (pe_callB (lenK (K := K)) (by rfl) T.f_len boot_len (pa_cons (pv 7) pa_nil)) (pv 10)) pe_int) pa_nil)))))
        (pss_cons (ps_set (i := 12) nd rfl (Or.inl rfl) (pe_cal c__law_f_row hr (by omega) (fun σ => L2N.passAt (L2N.takes_of rfl rfl rfl rfl) σ) (pa_cons (pv 1) (pa_cons pe_int pa_nil))))
        (pss_cons (ps_set (i := 13) nd rfl (Or.inl rfl) (pe_cal c__law_sum hr (by omega) (fun σ => L2N.passAt (L2N.takes_of rfl rfl rfl rfl) σ) (pa_cons (pv 5) (pa_cons (pv 6) pa_nil))))
        (C8.pss_cut (ps_if (pt_cmpR op_notN1 (pv 13) pe_non (nomark _)) (pss_cons (ps_set (i := 14) nd rfl (Or.inl rfl) (pe_cal c__law_f_counted hr (by omega) (fun σ => L2N.passAt (L2N.takes_of rfl rfl rfl rfl) σ) (pa_cons (pv 13) (pa_cons (pe_slice (slK (K := K)) (pv 7) (po_some (pv 10)) (po_some (pv 11))) (pa_cons (pv 12) pa_nil)))))
        (pss_cons (ps_set (i := 15) nd rfl (Or.inl rfl) (pe_cal c__law_run hr (by omega) (fun σ => L2N.passAt (L2N.takes_of rfl rfl rfl rfl) σ) (pa_cons (pv 5) (pa_cons (pv 6) (pa_cons (pe_op (plusK (K := K)) (pe_op (plusK (K := K)) (pe_slice (slK (K := K)) (pv 7) po_none (po_some (pv 10))) (pv 12)) (pe_slice (slK (K := K)) (pv 7) (po_some (pv 11)) po_none)) pa_nil)))))
        (pss_cons (ps_set (i := 16) nd rfl (Or.inl rfl) (pe_cal c__law_f_asked hr (by omega) (fun σ => L2N.passAt (L2N.takes_of rfl rfl rfl rfl) σ) (pa_cons pe_int (pa_cons (pe_callTy (listK (K := K)) (by rfl) T.f_list (by decide +kernel) (pa_cons (pv 13) pa_nil)) (pa_cons (pe_slice (slK (K := K)) (pv 7) (po_some (pv 10)) (po_some (pv 11))) (pa_cons (pe_callTy (listK (K := K)) (by rfl) T.f_list (by decide +kernel) (pa_cons (pv 12) pa_nil)) pa_nil))))))
        (pss_cons (ps_if (PW.pt (pw_or (pt_not (pt_val (pe_cal c__law_same hr (by omega) (fun σ => L2N.passAt (L2N.takes_of rfl rfl rfl rfl) σ) (pa_cons (pv 16) (pa_cons (pe_tup (pa_cons pe_str (pa_cons (pv 14) pa_nil))) pa_nil))))) (pw_or1 (pt_not (pt_val (pe_cal c__law_same hr (by omega) (fun σ => L2N.passAt (L2N.takes_of rfl rfl rfl rfl) σ) (pa_cons (pe_cal c__law_f_asked hr (by omega) (fun σ => L2N.passAt (L2N.takes_of rfl rfl rfl rfl) σ) (pa_cons pe_int (pa_cons (pv 8) (pa_cons (pv 9) (pa_cons (pv 14) pa_nil))))) (pa_cons (pe_tup (pa_cons pe_str (pa_cons (pv 15) pa_nil))) pa_nil)))))))) (pss_one (ps_ret pe_bl)) pss_nil)
        (pss_one (ps_expr (peBM (K := K) (pe_bm PySem.F.plainAttrs_list PySem.F.slot_list_append PySem.F.type_list_append mt_append (pe_ix (ixK (K := K)) (pv 16) pe_int (fun _ _ => rfl)) (pa_cons pe_int pa_nil))))))))) pss_nil)
        (pss_cons (ps_setLc (i := 17) (own := [("letter", 21)]) rfl nd rfl rfl (sw_true rfl rfl rfl (by decide +kernel)) (pi_range1 (by rfl) T.f_range (pa_cons (pv 6) pa_nil)) (blkOk_by (N := ["script", "source", "tables", "signs", "at", "states", "letters", "row", "given", "state", "low", "high", "put", "orders", "counts", "new", "answer", "drawn", "many", "start", "rows", "letter", "one"]) (sc := defScope s_law) (by decide +kernel)) (fun _ _ _ _ _ => (pg_name (i := 21) nd rfl (Or.inl rfl))) (fun _ _ _ _ _ => pts_nil) (fun _ _ _ _ _ => (pe_op (plusK (K := K)) pe_int (pe_cal c__law_pick hr (by omega) passN (pa_cons (pv 1) (pa_cons pe_int pa_nil))))))
        (pss_cons (ps_if (pt_not (pt_val (pe_cal c__law_same hr (by omega) (fun σ => L2N.passAt (L2N.takes_of rfl rfl rfl rfl) σ) (pa_cons (pe_cal c__law_f_asked hr (by omega) (fun σ => L2N.passAt (L2N.takes_of rfl rfl rfl rfl) σ) (pa_cons pe_int (pa_cons (pv 17) (pa_cons (pe_callTy (listK (K := K)) (by rfl) T.f_list (by decide +kernel) (pa_cons (pv 7) pa_nil)) (pa_cons (pv 12) pa_nil))))) (pa_cons (pe_tup (pa_cons pe_str (pa_cons (pe_cal c__law_f_counted hr (by omega) (fun σ => L2N.passAt (L2N.takes_of rfl rfl rfl rfl) σ) (pa_cons (pv 17) (pa_cons (pv 7) (pa_cons (pv 12) pa_nil)))) pa_nil))) pa_nil))))) (pss_one (ps_ret pe_bl)) pss_nil)
        (pss_cons (ps_setLc (i := 18) (own := [("letter", 21)]) rfl nd rfl rfl (sw_true rfl rfl rfl (by decide +kernel)) (pi_range1 (by rfl) T.f_range (pa_cons (pv 6) pa_nil)) (blkOk_by (N := ["script", "source", "tables", "signs", "at", "states", "letters", "row", "given", "state", "low", "high", "put", "orders", "counts", "new", "answer", "drawn", "many", "start", "rows", "letter", "one"]) (sc := defScope s_law) (by decide +kernel)) (fun _ _ _ _ _ => (pg_name (i := 21) nd rfl (Or.inl rfl))) (fun _ _ _ _ _ => pts_nil) (fun _ _ _ _ _ => (pe_cal c__law_pick hr (by omega) passN (pa_cons (pv 1) (pa_cons pe_int pa_nil)))))
        (pss_cons (ps_asg (pe_op op_sub (pe_op op_pow pe_int pe_int) (pe_cal c__law_pick hr (by omega) (fun σ => L2N.passAt (L2N.takes_of rfl rfl rfl rfl) σ) (pa_cons (pv 1) (pa_cons (pe_op op_pow pe_int pe_int) pa_nil)))) (pg_sub (pv 18) (pe_cal c__law_pick hr (by omega) (fun σ => L2N.passAt (L2N.takes_of rfl rfl rfl rfl) σ) (pa_cons (pv 1) (pa_cons (pv 6) pa_nil))) set_list))
        (pss_cons (ps_set (i := 19) nd rfl (Or.inl rfl) (pe_cal c__law_pick hr (by omega) (fun σ => L2N.passAt (L2N.takes_of rfl rfl rfl rfl) σ) (pa_cons (pv 1) (pa_cons (pe_callB (lenK (K := K)) (by rfl) T.f_len boot_len (pa_cons (pv 5) pa_nil)) pa_nil))))
        (pss_cons (ps_setLc (i := 20) (own := [("one", 22)]) rfl nd rfl rfl (sw_true rfl rfl rfl (by decide +kernel)) (piL (K := K) (pv 5)) (blkOk_by (N := ["script", "source", "tables", "signs", "at", "states", "letters", "row", "given", "state", "low", "high", "put", "orders", "counts", "new", "answer", "drawn", "many", "start", "rows", "letter", "one"]) (sc := defScope s_law) (by decide +kernel)) (fun _ _ _ _ _ => (pg_name (i := 22) nd rfl (Or.inl rfl))) (fun _ _ _ _ _ => pts_nil) (fun _ _ _ _ _ => (pe_callTy (tupK (K := K)) (by rfl) T.f_tuple (by decide +kernel) (pa_cons (pv 22) pa_nil))))
        (pss_one (ps_if (pt_not (pt_val (pe_cal c__law_same hr (by omega) (fun σ => L2N.passAt (L2N.takes_of rfl rfl rfl rfl) σ) (pa_cons (pe_cal c__law_f_asked hr (by omega) (fun σ => L2N.passAt (L2N.takes_of rfl rfl rfl rfl) σ) (pa_cons pe_int (pa_cons (pv 20) (pa_cons (pv 19) (pa_cons (pe_callTy (listK (K := K)) (by rfl) T.f_list (by decide +kernel) (pa_cons (pv 18) pa_nil)) pa_nil))))) (pa_cons (pe_tup (pa_cons pe_str (pa_cons (pe_cal c__law_f_acted hr (by omega) (fun σ => L2N.passAt (L2N.takes_of rfl rfl rfl rfl) σ) (pa_cons (pv 5) (pa_cons (pv 19) (pa_cons (pv 18) pa_nil)))) pa_nil))) pa_nil))))) (pss_one (ps_ret pe_bl)) pss_nil)))))))))))))))))))
        (pss_one (ps_ret (pe_cal c__law_f_faults hr (by omega) (fun σ => L2N.passAt (L2N.takes_of rfl rfl rfl rfl) σ) (pa_cons (pv 1) (pa_cons (pe_ix (ixK (K := K)) (pe_ix (ixK (K := K)) (pv 2) pe_int (fun _ _ => rfl)) pe_int (fun _ _ => rfl)) (pa_cons (pe_ix (ixK (K := K)) (pe_ix (ixK (K := K)) (pv 2) pe_int (fun _ _ => rfl)) pe_int (fun _ _ => rfl)) pa_nil)))))))))), ?_⟩
  walk_at "st"
  refine ⟨a0, ns0, 0, rfl, hns, hl, by decide, fun p H1 hp0 e1 s1 => ?_⟩
  walk_at "st"
  refine ⟨p, rfl, s1, fun q0 t0 st0 m0 H2 q0p _ s2 b2 h2 N2 g0 m08 l0 => ?_⟩
  obtain ⟨m0, rfl⟩ : ∃ m : Nat, m0 = m := ⟨m0.toNat, by have := g0.1.1; omega⟩
  have I0 : TI p H2 (.ref q0) := ⟨q0, t0, st0, m0, rfl, q0p, h2, N2.keep (fun a o s h => ⟨h, s.1⟩) _, g0, by omega, l0⟩
  walk_at "st"
  refine ⟨p, rfl, s2, fun q1 t1 st1 m1 H3 q1p _ s3 b3 h3 N3 g1 m18 l1 => ?_⟩
  obtain ⟨m1, rfl⟩ : ∃ m : Nat, m1 = m := ⟨m1.toNat, by have := g1.1.1; omega⟩
  have I1 : TI p H3 (.ref q1) := ⟨q1, t1, st1, m1, rfl, q1p, h3, N3.keep (fun a o s h => ⟨h, s.1⟩) _, g1, by omega, l1⟩
  replace I0 := I0.but b3
  walk_at "st"
  intro tb H4 htb e4 h4
  have tbp := (src_ne s3 htb).symm
  replace I0 := I0.but (ext_but e4)
  replace I1 := I1.but (ext_but e4)
  have s4 := s3.ext e4
  walk_at "st"
  refine ⟨p, 30, rfl, s4, by decide, by decide, fun y0 H5 ns5 hy0 s5 b5 h5 l5 z5 => ?_⟩
  have J0 : SI p H5 (.ref y0) := ⟨y0, ns5, rfl, ⟨(src_ne s4 hy0).symm, h5⟩, by omega, z5⟩
  replace I0 := I0.but b5
  replace I1 := I1.but b5
  replace h4 := b5 _ _ tbp h4
  walk_at "st"
  refine ⟨p, 6, rfl, s5, by decide, by decide, fun y1 H6 ns6 hy1 s6 b6 h6 l6 z6 => ?_⟩
  have J1 : SI p H6 (.ref y1) := ⟨y1, ns6, rfl, ⟨(src_ne s5 hy1).symm, h6⟩, by omega, z6⟩
  replace I0 := I0.but b6
  replace I1 := I1.but b6
  replace J0 := J0.but b6
  replace h4 := b6 _ _ tbp h4
  walk_at "st"
  intro sg H7 hsg e7 h7
  have b7 : But p H6 H7 := ext_but e7
  have B : LB p tb sg (.ref q0) (.ref q1) (.ref y0) (.ref y1) H7 := ⟨s6.ext e7, tbp, (src_ne s6 hsg).symm, b7 _ _ tbp h4, h7, I0.but b7, I1.but b7, J0.but b7, J1.but b7⟩
  clear I0 I1 J0 J1 h4 h7 e7 b7 b6 b5 h6 h5 e4 h3 b3 b2 N3 N2 h2 e1
  generalize V.ref q0 = x0, V.ref q1 = x1, V.ref y0 = y0', V.ref y1 = y1' at B
  walk_at "st"
  refine r_cut (fun σ' H' => (∃ v4 v5 v6 v7 v8 v9 v10 v11 v12 v13 v14 v15 v16 v17 v18 v19 v20, σ' = [some (.ref a0), some (.ref p), some (.ref tb), some (.ref sg), v4, v5, v6, v7, v8, v9, v10, v11, v12, v13, v14, v15, v16, v17, v18, v19, v20, none, none]) ∧ LB p tb sg x0 x1 y0' y1' H') ?_ ?_
  · walk_at "st"
    intro l8 H8 hl8 e8 h8
    have l8p := (src_ne B.s hl8).symm
    walk_at "st"
    refine r_li (sqL h8) ?_
    refine forW_list (fun i σ' H' => (∃ v4 v5 v6 v7 v8 v9 v10 v11 v12 v13 v14 v15 v16 v17 v18 v19 v20, σ' = [some (.ref a0), some (.ref p), some (.ref tb), some (.ref sg), v4, v5, v6, v7, v8, v9, v10, v11, v12, v13, v14, v15, v16, v17, v18, v19, v20, none, none]) ∧ LB p tb sg x0 x1 y0' y1' H' ∧ But p H8 H') ⟨⟨none, none, none, none, none, none, none, none, none, none, none, none, none, none, none, none, none, rfl⟩, B.but (ext_but e8) (B.s.ext e8), .rfl⟩ (fun i σ' H' _ ⟨_, _, b⟩ => sqL (b _ _ l8p h8)) ?_ ?_
    · rintro i x σ' H9 hx ⟨⟨v4, v5, v6, v7, v8, v9, v10, v11, v12, v13, v14, v15, v16, v17, v18, v19, v20, rfl⟩, B9, b9⟩
      obtain ⟨z, q, t, st, m, ys, ns, rfl, hz, qp, hq, hT, g, m8, l12, hzs, hns, ln, hall⟩ : ∃ (z : Nat) (q t : Addr) (st : List (List Int)) (m : Nat) (ys : Addr) (ns : List Int), x = .int z ∧ [x0, x1][z]? = some (V.ref q) ∧ q ≠ p ∧ H9 q = some (.lst [.ref t, .int m]) ∧ TbP p H9 t st ∧ GoodSt st m ∧ m ≤ 8 ∧ st.length ≤ 12 ∧ [y0', y1'][z]? = some (V.ref ys) ∧ LI p H9 ys ns ∧ ns.length ≤ 30 ∧ ∀ s ∈ ns, 0 ≤ s ∧ s ≤ far := by
        obtain ⟨q, t, st, m, rfl, a1, a2, a3, a4, a5, a6⟩ := B9.i0
        obtain ⟨q', t', st', m', rfl, a1', a2', a3', a4', a5', a6'⟩ := B9.i1
        obtain ⟨ys, ns, rfl, c1, c2, c3⟩ := B9.j0
        obtain ⟨ys', ns', rfl, c1', c2', c3'⟩ := B9.j1
        have hi := (List.getElem?_eq_some_iff.mp hx).1
        have : i < 3 := hi
        have h3 : i = 0 ∨ i = 1 ∨ i = 2 := by omega
        rcases h3 with h | h | h <;> subst h <;> cases hx
        · exact ⟨0, q, t, st, m, ys, ns, rfl, rfl, a1, a2, a3, a4, a5, a6, rfl, c1, c2, c3⟩
        · exact ⟨1, q', t', st', m', ys', ns', rfl, rfl, a1', a2', a3', a4', a5', a6', rfl, c1', c2', c3'⟩
        · exact ⟨0, q, t, st, m, ys, ns, rfl, rfl, a1, a2, a3, a4, a5, a6, rfl, c1, c2, c3⟩
      clear hx
      have m1 : 1 ≤ m := by have := g.1.1; omega
      have wid : ∀ row ∈ st, row.length = m := fun row hr => by have := g.1.2 row hr; omega
      have small : smallD 3 (tbD st) := small_tb (by omega) fun row hr => by rw [wid row hr]; omega
      have hfar : ∀ s ∈ ns, s ≤ far := fun s hs => (hall s hs).2
      have s9 := B9.s
      walk_at "st"
      refine r_atL (sqL B9.ht) (atI_nat hz) ?_
      walk_at "st"
      refine r_glst (sqL hq) rfl ?_
      walk_at "st"
      refine r_atL (sqL B9.hs) (atI_nat hzs) ?_
      walk_at "st"
      refine ⟨.ref t, tbD st, rfl, hT.dp _, small, fun y H10 e10 N10 => ?_⟩
      obtain ⟨tg, ag, rfl, G10⟩ := N10.grid
      have s10 := s9.ext e10
      have B10 := B9.but (ext_but e10) s10
      have hT10 := nw_ext hT e10
      have hG10 : TbP p H10 tg st := N10.keep (fun a o s h => ⟨h, (src_ne s9 s).symm⟩) _
      have hN10 := hns.but (ext_but e10)
      have b10 : But p H8 H10 := b9.ext e10
      clear G10 N10 hns hT hq
      walk_at "st"
      refine ⟨t, ys, st, m, ns, rfl, tb_of hT10, sqL hN10.2, g, ?_⟩
      have rlt := run_lt g ns (good_pos g)
      have hrun : runF st m 0 ns < st.length := rlt
      walk_at "st"
      refine r_listL (sqL hN10.2) (fun lr H11 hlr e11 h11 => ?_)
      walk_at "st"
      refine (Ask.run (p := p) (nw_ext hG10 e11) ⟨(src_ne s10 hlr).symm, h11⟩).sp ?_
      rw [run_good (by omega) l12 (by omega) hfar g]
      intro q12 H12 e12 h12
      walk_at "st"
      intro t13 H13 ht13 e13 h13
      walk_at "st"
      refine ⟨.ref q12, .ref t13, toldI _, rfl, toldI_dp (e13 _ _ h12), toldI_dp h13, toldI_small _, fun H14 e14 => ?_⟩
      have e10_14 := e11.trans (e12.trans (e13.trans e14))
      walk_at "st"
      refine ⟨.ref tg, .ref t, tbD st, rfl, (nw_ext hG10 e10_14).dp _, (nw_ext hT10 e10_14).dp _, small, fun H15 e15 => ?_⟩
      have e10_15 := e10_14.trans e15
      have bt15 := ext_but (p := p) e10_15
      have s15 := s10.ext e10_15
      have hN15 := hN10.but bt15
      walk_at "st"
      refine r_lenL (sqL hN15.2) (n := ns.length) (by rw [List.length_map]) ?_
      walk_at "st"
      refine ⟨p, _, rfl, s15, by omega, Int.lt_of_lt_of_le (b := 40) (by omega) (by decide), fun lo H16 lo0 lo1 s16 n16 => ?_⟩
      obtain ⟨lo, rfl⟩ : ∃ x : Nat, lo = x := ⟨lo.toNat, by omega⟩
      have bt16 := bt15.trans (.of n16)
      have hN16 := hN10.but bt16
      walk_at "st"
      refine r_lenL (sqL hN16.2) (n := ns.length) (by rw [List.length_map]) ?_
      walk_at "st"
      refine ⟨p, _, rfl, s16, by omega, Int.lt_of_lt_of_le (b := 40) (by omega) (by decide), fun hi H17 hi0 hi1 s17 n17 => ?_⟩
      obtain ⟨hi, hhi⟩ : ∃ x : Nat, (lo : Int) + hi = x := ⟨((lo : Int) + hi).toNat, by omega⟩
      walk_at "st"
      rw [hhi]
      have bt17 := bt16.trans (.of n17)
      refine ⟨p, 5, rfl, s17, by decide, by decide, fun pu H18 put hpu s18 b18 h18 lpu zpu => ?_⟩
      have bt18 := bt17.trans b18
      have pup := (src_ne s17 hpu).symm
      have hP18 : LI p H18 pu put := ⟨pup, h18⟩
      have hT18 := nw_but hT10 bt18
      have hG18 := nw_but hG10 bt18
      have hN18 := hN10.but bt18
      have hpfar : ∀ s ∈ put, s ≤ far := fun s hs => (zpu s hs).2
      have b8_18 := b10.trans bt18
      have B18 := B10.but bt18 s18
      clear bt18 bt17 bt16 bt15 hN16 hN15 hN10 hG10 hT10 e10_15 e10_14 e15 e14 e13 h13 h12 e12 h11 e11 n17 n16 b18 h18 s15 s16 s17 b10 B10 B9 e10 b9
      walk_at "st"
      refine ⟨t, st, m, rfl, tb_of hT18, g, by omega, by omega, fun v H19 e19 hv => ?_⟩
      have bt19 := ext_but (p := p) e19
      have s19 := s18.ext e19
      have hT19 := nw_ext hT18 e19
      have hG19 := nw_ext hG18 e19
      have hN19 := hN18.but bt19
      have hP19 := hP18.but bt19
      have B19 := B18.but bt19 s19
      have b8_19 := b8_18.trans bt19
      clear hT18 hG18 hN18 hP18 B18 b8_18
      walk_at "st"
      refine r_cut (fun σ' H' => (∃ v9 v10 v11 v13 v14 v15 v16, σ' = [some (.ref a0), some (.ref p), some (.ref tb), some (.ref sg), some (.int z), some (.ref t), some (.int m), some (.ref ys), some (.ref tg), v9, v10, v11, some (.ref pu), v13, v14, v15, v16, v17, v18, v19, v20, none, none]) ∧ Src H' p ∧ But p H19 H') ?_ ?_
      · walk_at "st"
        rcases hv with rfl | ⟨o, os, rfl, ho, h19, S, O⟩
        · refine ite_n (fun c => absurd rfl c) (fun _ => ?_)
          walk_at "st"
          exact ⟨⟨_, _, _, _, _, _, _, rfl⟩, s19, .rfl⟩
        refine ite_n (fun _ => ?_) (fun c => nomatch c)
        have op : o ≠ p := (src_ne s18 ho).symm
        have hol : (osI os).length = os.length := by unfold osI; rw [List.length_map]
        have hO := O.len
        have ho19 : LI p H19 o (osI os) := ⟨op, h19⟩
        have lohi : lo ≤ hi ∧ hi ≤ ns.length := by omega
        have split : ns = ns.take lo ++ (ns.drop lo).take (hi - lo) ++ ns.drop hi := by
          have h1 : (ns.drop lo).drop (hi - lo) = ns.drop hi := by rw [List.drop_drop, show lo + (hi - lo) = hi by omega]
          rw [List.append_assoc, ← h1, List.take_append_drop, List.take_append_drop]
        have mid_len : ((ns.drop lo).take (hi - lo)).length ≤ 30 := by rw [List.length_take, List.length_drop]; omega
        have mid_far : ∀ s ∈ (ns.drop lo).take (hi - lo), s ≤ far := fun s hs => hfar s (List.mem_of_mem_drop (List.mem_of_mem_take hs))
        have os_pos : ∀ o ∈ osI os, 1 ≤ o := fun o ho => by
          unfold osI at ho
          obtain ⟨x, hx, rfl⟩ := List.mem_map.mp ho
          obtain ⟨i, hi⟩ := List.mem_iff_getElem?.mp hx
          have hil := (List.getElem?_eq_some_iff.mp hi).1
          have := (O.ord i hil).pos
          have e := getD_at hil
          rw [hi] at e
          have := Option.some.inj e
          omega
        have os_ne : osI os ≠ [] := fun e => by
          have := congrArg List.length e
          rw [hol] at this
          have : os.length = 0 := this
          omega
        -- counts
        walk_at "st"
        refine r_slL (sqL hN19.2) (fun l20 H20 hl20 e20 h20 => ?_)
        rw [cut_at, ← List.map_drop, ← List.map_take] at h20
        walk_at "st"
        refine ⟨o, l20, pu, osI os, _, put, rfl, sqL (e20 _ _ h19), sqL h20, sqL (e20 _ _ hP19.2), by omega, by omega, by omega, os_pos, fun ct H21 hct e21 h21 => ?_⟩
        have e19_21 := e20.trans e21
        -- new
        walk_at "st"
        refine r_slL (sqL (e19_21 _ _ hN19.2)) (fun l22 H22 hl22 e22 h22 => ?_)
        rw [cut_to, ← List.map_take] at h22
        walk_at "st"
        refine r_catL h22 ((e19_21.trans e22) _ _ hP19.2) (by rw [List.length_map, List.length_map, List.length_take]; omega) (fun l23 H23 hl23 e23 h23 => ?_)
        rw [← List.map_append] at h23
        walk_at "st"
        refine r_slL (sqL ((e19_21.trans (e22.trans e23)) _ _ hN19.2)) (fun l24 H24 hl24 e24 h24 => ?_)
        rw [cut_from, ← List.map_drop] at h24
        walk_at "st"
        refine r_catL (e24 _ _ h23) h24 (by rw [List.length_map, List.length_map, List.length_append, List.length_take, List.length_drop]; omega) (fun l25 H25 hl25 e25 h25 => ?_)
        rw [← List.map_append] at h25
        have e19_25 := e19_21.trans (e22.trans (e23.trans (e24.trans e25)))
        walk_at "st"
        refine ⟨t, l25, st, m, _, rfl, tb_of (nw_ext hT19 e19_25), sqL h25, g, ?_⟩
        have h21' := (e22.trans (e23.trans (e24.trans e25))) _ _ h21
        -- asked 1
        walk_at "st"
        refine r_listL (sqL (e19_25 _ _ h19)) (fun l26 H26 hl26 e26 h26 => ?_)
        walk_at "st"
        have e19_26 := e19_25.trans e26
        refine r_slL (sqL (e19_26 _ _ hN19.2)) (fun l27 H27 hl27 e27 h27 => ?_)
        rw [cut_at, ← List.map_drop, ← List.map_take] at h27
        have e19_27 := e19_26.trans e27
        walk_at "st"
        refine r_listL (sqL (e19_27 _ _ hP19.2)) (fun l28 H28 hl28 e28 h28 => ?_)
        have e19_28 := e19_27.trans e28
        have sn : ∀ {a : Addr} {H' : Hp}, Ext H19 H' → H' a = none → a ≠ p := fun e h => (src_ne (s19.ext e) h).symm
        walk_at "st"
        refine (Ask.cnt (p := p) (os := osI os) ⟨sn e19_25 hl26, (e27.trans e28) _ _ h26⟩ ⟨sn e19_26 hl27, e28 _ _ h27⟩ ⟨sn e19_27 hl28, h28⟩).sp ?_
        rw [cnt_good (by omega) (by omega) mid_far (by omega) hpfar os_ne os_pos]
        intro q29 an H29 han e29 h29 h29q
        have e19_29 := e19_28.trans e29
        have han19 : H19 an = none := e19_28.none han
        walk_at "st"
        intro t30 H30 ht30 e30 h30
        have h21t := (e26.trans (e27.trans (e28.trans (e29.trans e30)))) _ _ h21'
        walk_at "st"
        refine ⟨.ref q29, .ref t30, toldL _, rfl, toldL_dp (e30 _ _ h29q) (e30 _ _ h29), toldL_dp h30 h21t, toldL_small (by rw [lc_len]; omega), fun H31 e31 => ?_⟩
        have e19_31 := e19_29.trans (e30.trans e31)
        -- asked 2
        walk_at "st"
        have h21u := e31 _ _ h21t
        refine (Ask.act (p := p) (nw_ext hG19 e19_31) ⟨sn e20 hct, h21u⟩).sp ?_
        have lcl : (lcI (osI os) ((ns.drop lo).take (hi - lo)) put).length = m := by rw [lc_len]; omega
        have lcb : ∀ c ∈ lcI (osI os) ((ns.drop lo).take (hi - lo)) put, 0 ≤ c ∧ c ≤ far := fun c hc => by
          unfold lcI at hc
          obtain ⟨a, ha, rfl⟩ := List.mem_map.mp hc
          rw [List.mem_range, hol] at ha
          have o1 := (O.ord a ha).pos
          have o2 := it_small g (a := a) (by omega) (S a (by omega)) (t := os.getD a 0 - 1) (fun j h1 h2 => (O.ord a ha).fst j h1 (by omega))
          rw [osI_at ha]
          have h1 := Int.emod_nonneg (cnt (osI os).length put a - cnt (osI os).length ((ns.drop lo).take (hi - lo)) a) (show ((os.getD a 0 : Nat) : Int) ≠ 0 by omega)
          have h2 := Int.emod_lt_of_pos (cnt (osI os).length put a - cnt (osI os).length ((ns.drop lo).take (hi - lo)) a) (show 0 < ((os.getD a 0 : Nat) : Int) by omega)
          have : (12 : Int) ≤ far := by decide
          exact ⟨h1, by omega⟩
        rw [act_good (by omega) l12 (fun c hc => (lcb c hc).2) (fun e => by rw [e] at lcl; have : 0 = m := lcl; omega) (fun c hc => (lcb c hc).1) (by rw [lcl]; exact g), if_neg (fun n => n ⟨by omega, by omega⟩), lc_len, hol]
        have pl := plain S (by omega) O (ns.take lo) ((ns.drop lo).take (hi - lo)) (ns.drop hi) put
        rw [← split] at pl
        rw [Int.toNat_natCast, pl]
        intro q32 H32 e32 h32
        walk_at "st"
        intro t33 H33 ht33 e33 h33
        walk_at "st"
        refine ⟨.ref q32, .ref t33, toldI _, rfl, toldI_dp (e33 _ _ h32), toldI_dp h33, toldI_small _, fun H34 e34 => ?_⟩
        have e29_34 := e30.trans (e31.trans (e32.trans (e33.trans e34)))
        walk_at "st"
        refine r_atT (sqT (e29_34 _ _ h29q)) (atI_nat (j := 1) rfl) ?_
        have h34 := e29_34 _ _ h29
        walk_at "st"
        refine ⟨.inl ⟨rfl, _, sqL h34⟩, ?_⟩
        walk_at "st"
        refine r_app h34 (by rw [List.length_map, lc_len]; omega) (fun H35 h35 n35 => ?_)
        have b35 : But p H19 H35 := (ext_but (e19_29.trans e29_34)).mut han19 n35
        refine ⟨⟨_, _, _, _, _, _, _, rfl⟩, ?_, b35⟩
        exact ((s19.ext e19_29).ext e29_34).stay (.of n35) (src_ne s19 han19)
      rintro σ' H20 ⟨⟨v9, v10, v11, v13, v14, v15, v16, rfl⟩, s20, b20⟩
      have hT20 := nw_but hT19 b20
      have hN20 := hN19.but b20
      have hP20 := hP19.but b20
      have B20 := B19.but b20 s20
      have b8_20 := b8_19.trans b20
      clear hT19 hG19 hN19 hP19 B19 b8_19 bt19 e19 s19 s18 s10 s9 hv
      walk_at "st"
      intro Dd hDd
      rw [Int.toNat_natCast]
      refine lcW_range (DrP p H20 Dd (fun z => 1 ≤ z ∧ z ≤ 40)) (.start s20 hDd) (fun i H21 hi q => ?_) (fun H21 q => ?_)
      · walk_at "st"
        refine r_lcW rfl ?_
        walk_at "st"
        refine ⟨p, 40, rfl, q.s, by decide, by decide, fun r H22 r0 r1 s22 n22 => ?_⟩
        walk_at "st"
        exact q.push hDd (src_some s20) (by omega) s22 n22 ⟨by omega, by omega⟩
      obtain ⟨s21, b21, dn, h21, ld, zd⟩ := q
      have Ddp := (src_ne s20 hDd).symm
      have hN21 := hN20.but b21
      have hP21 := hP20.but b21
      walk_at "st"
      refine r_listL (sqL hN21.2) (fun l22 H22 hl22 e22 h22 => ?_)
      have s22 := s21.ext e22
      have bt22 := ext_but (p := p) e22
      walk_at "st"
      refine (Ask.cnt (p := p) (os := dn) ⟨Ddp, e22 _ _ h21⟩ ⟨(src_ne s21 hl22).symm, h22⟩ (hP21.but bt22)).sp ?_
      have dn_ne : dn ≠ [] := fun e => by rw [e] at ld; have : 0 = m := ld; omega
      have dn_pos : ∀ o ∈ dn, 1 ≤ o := fun o ho => (zd o ho).1
      rw [cnt_good (by omega) (by omega) hfar (by omega) hpfar dn_ne dn_pos]
      intro q23 an H23 han e23 h23 h23q
      walk_at "st"
      refine ⟨Dd, ys, pu, dn, ns, put, rfl, sqL ((e22.trans e23) _ _ h21), sqL ((e22.trans e23) _ _ hN21.2), sqL ((e22.trans e23) _ _ hP21.2), by omega, by omega, by omega, dn_pos, fun ct H24 hct e24 h24 => ?_⟩
      walk_at "st"
      intro t25 H25 ht25 e25 h25
      walk_at "st"
      refine ⟨.ref q23, .ref t25, toldL _, rfl, toldL_dp ((e24.trans e25) _ _ h23q) ((e24.trans e25) _ _ h23), toldL_dp h25 (e25 _ _ h24), toldL_small (by rw [lc_len]; omega), fun H26 e26 => ?_⟩
      have e21_26 := e22.trans (e23.trans (e24.trans (e25.trans e26)))
      have b20_26 : But p H20 H26 := b21.ext e21_26
      have s26 := s21.ext e21_26
      walk_at "st"
      intro Dm hDm
      rw [Int.toNat_natCast]
      refine lcW_range (DrP p H26 Dm (fun z => 0 ≤ z ∧ z ≤ far)) (.start s26 hDm) (fun i H27 hi q => ?_) (fun H27 q => ?_)
      · walk_at "st"
        refine r_lcW rfl ?_
        walk_at "st"
        refine ⟨p, 5, rfl, q.s, by decide, by decide, fun r H28 r0 r1 s28 n28 => ?_⟩
        have : (5 : Int) ≤ far := by decide
        exact q.push hDm (src_some s26) (by omega) s28 n28 ⟨by omega, by omega⟩
      obtain ⟨s27, b27, mn, h27, lm, zm⟩ := q
      have Dmp := (src_ne s26 hDm).symm
      walk_at "st"
      refine ⟨p, _, rfl, s27, by decide, by decide, fun r28 H28 r280 r281 s28 n28 => ?_⟩
      walk_at "st"
      refine ⟨p, m, rfl, s28, by omega, Int.lt_of_lt_of_le (b := 40) (by omega) (by decide), fun r29 H29 r290 r291 s29 n29 => ?_⟩
      have h29 := (n29 _ Dmp).trans ((n28 _ Dmp).trans h27)
      walk_at "st"
      refine r_setL (j := r29.toNat) h29 (by omega) (by rw [List.length_map]; omega) (fun H30 h30 n30 => ?_)
      have s30 := s29.stay (.of n30) Dmp.symm
      have hfe : (10 : Int) ^ (30 : Int).toNat = far := rfl
      have h10 : (10 : Int) ^ (6 : Int).toNat = 1000000 := by decide
      have f6 : (1000000 : Int) ≤ far := by decide
      rw [hfe, ← List.map_set] at h30
      rw [h10] at r281
      have lm2 : (mn.set r29.toNat (far - r28)).length = m := by rw [List.length_set]; exact lm
      have zm2 : ∀ c ∈ mn.set r29.toNat (far - r28), 0 ≤ c ∧ c ≤ far := fun c hc => by
        rcases List.mem_or_eq_of_mem_set hc with h | h
        · exact zm c h
        · rw [h]; exact ⟨by omega, by omega⟩
      generalize mn.set r29.toNat (far - r28) = mm at h30 lm2 zm2
      have b26_30 : But p H26 H30 := ((b27.trans (.of n28)).trans (.of n29)).mut hDm n30
      have hT30 := nw_but hT20 (b20_26.trans b26_30)
      have hT30' := tb_of (K := K) hT30
      obtain ⟨t', at', et, G30⟩ := hT30.grid
      cases et
      walk_at "st"
      refine r_lenL (sqL G30.at_) (n := st.length) (by rw [List.length_map, G30.len]) ?_
      walk_at "st"
      refine ⟨p, _, rfl, s30, by have := good_pos g; omega, Int.lt_of_lt_of_le (b := 40) (by omega) (by decide), fun sa H31 sa0 sa1 s31 n31 => ?_⟩
      obtain ⟨sa, rfl⟩ : ∃ x : Nat, sa = x := ⟨sa.toNat, by omega⟩
      have hm31 := stay n31 Dmp h30
      have G31 : Grid (· ≠ p) H31 t at' st := ⟨G30.top, stay n31 G30.top G30.at_, G30.len, fun i row hi => by
        obtain ⟨a, a1, a2, a3⟩ := G30.row i row hi
        exact ⟨a, a1, a2, stay n31 a2 a3⟩⟩
      walk_at "st"
      refine r_li (sqL G31.at_) ?_
      intro Dr hDr
      refine lcW_list (TupP H31 Dr st) ⟨.new hDr, [], upd_same, rfl, fun j row hj => absurd hj (Nat.not_lt_zero _)⟩ (fun j H' _ q => sqL (q.e _ _ G31.at_)) (fun j x H32 hx q => ?_) (fun H32 q => ?_)
      · have hj : j < st.length := by
          have := (List.getElem?_eq_some_iff.mp hx).1
          rwa [List.length_map, G31.len] at this
        obtain ⟨a, a1, a2, a3⟩ := G31.row j _ (List.getElem?_eq_getElem hj)
        rw [List.getElem?_map, a1] at hx
        cases hx
        walk_at "st"
        refine r_lcW rfl ?_
        walk_at "st"
        refine ⟨a, _, rfl, .inl ⟨sqL (q.e _ _ a3), fun l hl => ?_⟩⟩
        exact q.push hDr (by omega) (.new hl) (List.getElem?_eq_getElem hj) upd_same
      rw [List.length_map, G31.len] at q
      have tb32 := q.tb (K := K)
      have e32 := q.e
      walk_at "st"
      refine r_listL (sqL (e32 _ _ hm31)) (fun l33 H33 hl33 e33 h33 => ?_)
      walk_at "st"
      refine .inr (.inr ⟨Dr, l33, st, sa, mm, rfl, tb32.ext e33, sqL h33, ?_⟩)
      have gm : GoodSt st mm.length := by rw [lm2]; exact g
      rw [act_good (by omega) l12 (fun c hc => (zm2 c hc).2) (fun e => by rw [e] at lm2; have : 0 = m := lm2; omega) (fun c hc => (zm2 c hc).1) gm, if_neg (fun n => n ⟨by omega, by omega⟩), Int.toNat_natCast]
      intro q34 H34 e34 h34
      have e31_34 := e32.trans (e33.trans e34)
      walk_at "st"
      refine ⟨t, Dm, st, sa, mm, rfl, tb_of (G31.nw.keep (fun a o s h => ⟨e31_34 _ _ h, s⟩) _), sqL (e31_34 _ _ hm31), gm, by omega, by omega, by omega, fun c hc => ⟨(zm2 c hc).1, Int.lt_of_le_of_lt (zm2 c hc).2 (by decide)⟩, fun H35 e35 => ?_⟩
      walk_at "st"
      intro t36 H36 ht36 e36 h36
      walk_at "st"
      refine ⟨.ref q34, .ref t36, toldI _, rfl, toldI_dp ((e35.trans e36) _ _ h34), toldI_dp h36, toldI_small _, fun H37 e37 => ?_⟩
      walk_at "st"
      have e31_37 := e31_34.trans (e35.trans (e36.trans e37))
      have bfin : But p H20 H37 := ((b20_26.trans b26_30).trans (.of n31)).ext e31_37
      exact ⟨⟨_, _, _, _, _, _, _, _, _, _, _, _, _, _, _, _, _, rfl⟩, B20.but bfin (s31.ext e31_37), b8_20.trans bfin⟩
    · rintro σ' H9 ⟨hσ, B9, b9⟩
      exact ⟨hσ, B9⟩
  rintro σ' H8 ⟨⟨v4, v5, v6, v7, v8, v9, v10, v11, v12, v13, v14, v15, v16, v17, v18, v19, v20, rfl⟩, B8⟩
  obtain ⟨q, t, st, m, e, a1, a2, a3, a4, a5, a6⟩ := B8.i0
  have hx0 : [x0, x1][0]? = some (V.ref q) := by rw [← e]; rfl
  walk_at "st"
  refine r_atL (sqL B8.ht) (atI_nat (j := 0) hx0) ?_
  walk_at "st"
  refine r_atL (sqL a2) (atI_nat (j := 0) rfl) ?_
  walk_at "st"
  refine r_atL (sqL B8.ht) (atI_nat (j := 0) hx0) ?_
  walk_at "st"
  refine r_atL (sqL a2) (atI_nat (j := 1) rfl) ?_
  exact ⟨p, t, st, m, rfl, B8.s, a3, a4, a5, a6, k⟩

end
end K30

theorem PySem.Challenge.cw_toldoutside_k30_steps_and_counts_of_lett_holds : PySem.Challenge.rw_toldoutside_k30_steps_and_counts_of_lett.Holds :=
  K30.law_of 11 ⟨rfl, by decide, by decide⟩ fun w K mg base _ _ T fd D => K30.ok_law T D
